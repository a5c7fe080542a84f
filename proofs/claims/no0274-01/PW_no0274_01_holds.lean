import PyProof.Rows.All
import Wide.All
import OpenK.AllK
import Wide.FinOn
import PyProof.ExcBaseAll.Exception
import PyProof.InstStoreFacts
import PyProof.IsiH_list
import Lean
import PySem.Challenge.RW_no0274_01
set_option Elab.async false
set_option maxRecDepth 100000
set_option exponentiation.threshold 400
set_option linter.all false
set_option backward.match.sparseCases false
set_option genSizeOf false
set_option genCtorIdx false
set_option bootstrap.genMatcherCode false
set_option genInjectivity false
noncomputable section
open Array renaming length_toList->fq,toList_append->Vu,any_toList->VF,toList_push->VW,getElem?_toList->pA,getElem?_eq_some_iff->AU,getElem?_eq_none_iff->IV,getElem?_setIfInBounds_ne->WC
open Bool renaming true->af,false->av,or_eq_true_iff->Vs,and_eq_true_iff->AJ,and_eq_true->pp,false_and->Vz,false_or->VE,not_eq_true'->VY,false_eq_true->pJ,or_true->Bs
open Classical renaming byContradiction->AB,epsilon->M8,epsilon_spec->N8
open Decidable renaming decide->ba
open Eq renaming trans->eY,symm->fp
open Exists renaming elim->aF
open ForInStep renaming yield->tt
open Int renaming ofNat_lt->iI,natAbs_of_nonneg->Ia,lt_of_lt_of_le->fo,le_trans->bQ,lt_of_le_of_lt->fg,eq_ofNat_of_zero_le->AA,fdiv->km,fmod->mr,lt_trans->Vp,le_natAbs->Vq,le_of_lt->jc,not_lt->fN,mul_le_mul_of_nonneg_left->wx,toNat_le->nT,ne_of_gt->Ii,natCast_nonneg->ip,ofNat_le->dO,toNat_lt->wE,not_le->tm,add_le_add->gy,le_refl->gz,natAbs_mul->Xd,add_one_le_of_lt->wW,le_of_eq->Jw,le_add_of_nonneg_right->Xh,add_nonneg->pO,toNat_of_nonneg->tE,mul_one->pP,one_mul->Jx,fmod_nonneg_of_pos->Jy,fmod_lt_of_pos->Jz,sub_le_sub_right->wY,le_sub_one_of_lt->rz,sub_nonneg_of_le->BB,mul_nonneg->Xr
open LawfulBEq renaming eq_of_beq->dr
open List renaming range->ph,all_eq_true->gY,replicate->cq,mem_filterMap->lI,length_cons->fi,replicate_succ->AG,foldl_cons->Vr,flatten_cons->AH,casesOn->bL,replicate_zero->Vt,foldl->Vx,all_cons->Vy,mem_of_find?_eq_some->AL,find?_cons->td,any_cons->wz,any_eq_true->mv,find?_some->Im,mem_map->iq,map_append->kZ,nodup_append->Io,map_cons->dX,map_nil->Ip,mem_singleton->cP,size_toArray->Iq,take_succ_cons->IA,getElem?_nil->VU,set_cons_zero->IB,set_cons_succ->VV,dropLast_eq_take->IC,drop_zero->ID,map_map->mx,map_congr_left->AS,length_map->bK,append_nil->pB,getElem?_eq_some_iff->iv,take_length->AW,take_of_length_le->jS,length_drop->pE,drop_length->Wf,drop_eq_nil_of_le->th,take_add_one->IJ,filterMap_cons->Wi,length_range->IK,eq_nil_of_length_eq_zero->wH,length_take->jx,nodup_nil->IT,lookup_cons->lb,pairwise_cons->Wn,getElem?_eq_none_iff->mA,getElem?_map->ft,length->qZ,getElem?_range->Wr,drop_eq_getElem_cons->Be,length_append->jT,mem_cons->iw,nodup_cons->tu,lookup->IW,take_take->Bq,contains_cons->tA,length_nil->Jn,map->mB,getElem?_eq_getElem->eG,isEmpty_iff->Jr,contains_iff_mem->rr,mem_cons_self->cg,mem_cons_of_mem->ge,drop->Jt,take->Ju,not_mem_nil->cU,length_set->wV,map_set->Jv,getElem?_eq_none->Xe,map_take->ry,map_drop->Xf,mem_of_mem_take->wX,mem_of_mem_drop->Xg,find?_append->Xi,set_append_right->By,mem_of_getElem?->eH,mem_append->tG,any_map->Xj,zipWith->rA,map_id->Xk,zipWith_cons_cons->JA,nil_append->Xl,length_zipWith->mD,take_sublist->Xm,getElem_mem->tH,getElem?_append_right->Bz,getElem?_append_left->wZ,getElem?_take_of_lt->BA,drop_of_length_le->Xn,getD_eq_getElem?_getD->Xo,filter_eq_self->Xp,getElem?_set_self->Xq,drop_drop->lP,Nodup->JB,map_singleton->Xs,getElem_of_mem->Xt
open List.Mem renaming head->et,tail->gK
open Nat renaming lt_of_le_of_lt->el,add_le_add_left->wr,add_right_comm->Ay,add_assoc->sY,le_trans->az,add_le_add_right->Az,add_le_add->kT,le_add_right->dp,lt_irrefl->pg,lt_of_lt_of_le->aM,add_comm->wt,succ_pos->Ib,ble->B,not_lt->wu,two_pow_pos->Ic,le_of_not_lt->AC,sub_add_cancel->AD,le_refl->bS,le_succ->pi,ne_of_lt->bC,lt_succ_self->fM,lt_succ_of_lt->kU,mul_le_mul->Ih,zero_le->nU,succ_le_succ->wy,casesOn->kX,min_le_left->jR,le_of_eq->bw,le_succ_of_le->wD,sub_eq_zero_of_le->VX,min_eq_left->my,le_of_not_le->IH,min_eq_right->wG,sub_le_sub_right->II,le_of_lt->fB,lt_of_not_le->Wg,sub_le->qW,min_le_right->tj,sub_lt_sub_left->Bg,ne_of_gt->fu,le_sub_one_of_lt->WF,le_antisymm->WG,lt_add_of_pos_right->WZ,lt_trans->cT,add_zero->Xa,zero_add->oh,add_sub_cancel'->Bx,sub_self->tF
open Nat.succ renaming inj->tD
open Ne renaming symm->iJ
open Option renaming some->a,none->ae,getD_some->Wu,map_some->Wv,isSome_iff_exists->WH,isNone_iff_eq_none->Xc
open Option.some renaming inj->bn
open Or renaming inl->aL,inr->aI,elim->Bu
open Pure renaming pure->bI
open PyProof.Rows renaming add_int->O8,sub_int->V8,floordiv_int->W8,mod_int->X8,pow_int_small->Y8,mul_int->Z8,eq_int->r9,ne_int->s9,eq_str->t9,ne_str->u9,neg_int->VL,subscriptTail->IG,tail_any->pC,getItem_str->Z9,Subscript_->We,truthy_int->Aaa,BoolOp_one->Wl,Call_->qY,MethodCall_->IQ,callWith_type->Wm,iadd_int->Aam
open PySem renaming Str->aD,Program->iK,World->gZ,Heap->aG,Addr->ai,Value->aj,FuncData->fL,Obj->cu,strKind->eR,intKind->tb,Around->bo,Shared->ay,Drawn->pj,Env->aN,recursionLimit->AE,cLine->wv,NameKind->gt,mainGlobals->iL,builtinsNs->pk,rawInt->fh,Sem->gu,wpAny->aR,model->aQ,Expr->aa,eval->bP,isTrue->lJ,Pos->aH,wpAny_Constant_int->Vo,wpAny_Name->ww,wpAny_loadName_local->tc,Operator->mu,binaryOp->po,Tok->jv,sizeLine->lK,sizeLine_eq->ga,typeIs_int->Vv,call_meets->AI,PyData->iM,Reads->AK,valueAt->fO,sysModules->ko,compareOp->jw,wpAny_in_of->VC,strKind_is->pq,wpAny_notIn_of->VD,intKind_is->AM,stored->pr,wpAny_bind->bk,wpAny_pure->cJ,wpAny_mkText->wB,wpAny_loadPart->Il,hashStr->AN,any_of_findIdx_some->VH,not_mem_of_findIdx_none->VI,getAttr->Ir,wpAny_lookBehind->VJ,pastItsLine_dict->VK,mkText->AP,standAt->jd,holding->ir,unaryOp->Iu,wpAny_standAt->qV,wpAny_holding->lL,letTemporaryGo->VN,spliced->te,backTo->hO,starEach->dq,wpAny_newObj_type->pz,call->gb,call_isinstance->VO,isinstance_false_none->VP,typeOf->Iw,getMethod->wC,getMethod_builtin->Ix,typeIs_str->Iy,seqIndex?->AR,subscripted->IE,operate->IF,getItem->AT,wpAny_getItem_list->Wa,wpAny_getItem_of->Wd,IsPart->AV,sliceBounds->AX,partValue->IL,slicePicked->Wj,truthy->pG,wpAny_truthy_bool->AY,wpAny_truthy_list->Wk,CmpOp->pH,behindInMarks->AZ,wpAny_Compare1->IM,wpAny_mono->pI,wpAny_isTrue_Compare1->IN,Model->mz,Result->fC,codeAny->je,wpAny_call->qX,callWith->nX,backToKw->Ba,keywordEach->Bb,letOwnedTupleGo->IU,pyNext->Bc,wpAny_of_eq->Bd,wpAny_load->Wo,wpAny_pyNext_list_item->Wp,wpAny_pyNext_list_end->Wq,Scope->fj,wpAny_assign_Name->Bf,wpAny_storeName_local->Wt,cellOf->Bh,closureFor->Bi,compEnvC->IX,relabel->IY,wpAny_pyIter_listiter->Ww,wpAny_pyIter_list->IZ,foldedSetIterable->pK,compPost->Ja,comprehension->Wx,eval_ListComp->Wy,KeyKind->pL,Flow->jf,interactive->Bj,Stmt->x,execs->wK,wpAny_execs_nil->pM,wpAny_execs_cons->rg,swapsWith->gB,wpAny_Assign_Name->Bl,wpAny_storeName_cell->Wz,inplaceOp->Jc,plainObj_wpAny_Assign_Attribute->WA,assignInOrder->Jd,assignEach->tv,assign->tw,swapsWithSole->Je,swappedStores->wL,wpAny_bindName->WB,frameOf->Jf,wpAny_setField->Jg,wpAny_field->wN,cameBackBy->Bo,leaving->Jh,notedBy->Ji,attributeBase->WD,wpAny_Expr_any->Jj,cellsFrom->wO,mem_of_lookup->wP,GenState->rk,OsState->rl,excClassObj->nY,checkBuiltinCall->Br,wpAny_loadPart_at->rm,wpAny_isSubtype_exc->tB,wpAny_staticBase_exc->WI,wpAny_madeBy_exc->WJ,wpAt_bind->WK,wpAt_of_wpAny->WL,isInstance->Jk,codeAny_call_builtin->Jl,typeLookup->Jm,refuseLoop_ref->WN,bindArgs->rq,codeAny_call_def->WP,wpAny_raiseNew_none->WQ,Arguments->nZ,qualnameIn->wS,typeLookup_type->WT,builtinLookup_eq_fast->WU,raiseAttrError->WV,firstArgMember->WW,unsetMember->mC,wpAny_rule->WX,wpAny_typeOf->Jo,codeAny_builtin->WY,Const->Bw,UnaryOp->wT,Keyword->Jp,BoolOp->wU,Comprehension->Jq,ExceptHandler->Js
open PySem.Builtin.Str renaming tooLong->X9,strSliceIndices->pF
open PySem.Calls renaming Name_function_global->Iv,loadGlobal_builtin->VM,spliced_nil->pw,spliced_cons->nV
open PySem.Challenge renaming rw_no0274_01->Xv
open PySem.Code renaming call->la,builtin->lN,compLoop->Ws,quiet_builtin->Bt
open PySem.Data renaming seq->sZ,func->lH,cell->jQ,dict->eo,fields->bO
open PySem.Expr renaming Constant->fZ,Name->aY,BinOp->Ig,UnaryOp->pt,Attribute->iu,Tuple->gx,List->AQ,Subscript->pD,Slice->wI,Compare->lM,BoolOp->gA,IfExp->IP,Call->cQ,ListComp->kp,Dict->rd,casesOn->pN
open PySem.F renaming slot_list_add->P8,entry_list_add->R8,args_list_add_2->U8,fills_int_mul->b9,slot_int_rmul->Vw,slot_int_index->d9,entry_int_rmul->f9,args_int_rmul_2->g9,slot_list_mul->i9,entry_list_mul->j9,args_list_mul_2->m9,isi_meta_tuple->B9,sub_NoneType_tuple->C9,isi_meta_str->D9,sub_NoneType_str->E9,plainAttrs_str->F9,plainAttrs_list->G9,slot_str_join->H9,type_str_join->I9,slot_str_ljust->J9,type_str_ljust->K9,plainAttrs_dict->VQ,slot_dict_get->VR,type_dict_get->L9,slot_list_append->M9,type_list_append->N9,slot_list_pop->Iz,type_list_pop->VS,slot_list_extend->VT,type_list_extend->O9,entry_list_pop->P9,args_list_pop_2->R9,entry_list_extend->S9,args_list_extend_2->U9,entry_dict_get->V9,args_dict_get_2->W9,slot_tuple_getitem->Y9,slot_list_getitem->VZ,slot_str_getitem->Wb,slot_dict_getitem->Wc,slot_dict_items->WE,type_dict_items->Aab,entry_dict_items->Aac,args_dict_items_1->Aad,excBase_Exception->tz,store_object->Aae,store_Exception->Aaf,slot_list_getattribute->Bv,entry_list_ga->Aag,args_list_getattribute_2->Aah,kt_called_dict->Aai,kt_typeCall_dict_1->Aaj,entry_dict_init->Aak,args_dict_init_2->Aal
open PySem.Flow renaming ret->jy,next->eF,cont->wJ
open PySem.Heap renaming SameBut->hG,get?_none_of_le->nS,get?_push_size->kW,get?_push_of_some->cc,get?_update_self->mw,size_push->tq,lt_size->jU,get?_update_other->tx,get?_update_ne->WO,ExtBut->WR
open PySem.Heap.SameBut renaming update->AO
open PySem.NameKind renaming cell->dh,free->dN,globalImplicit->dI
open PySem.Obj renaming mapSeq->nW,data_mapFields->wM,mapFields->jz,isFreed_of_fields->Bn
open PySem.ScopeKind renaming function->hH
open PySem.SeqAt renaming eqAt_reads->n9,shaped->o9,compareEq_shaped->VA,compareNe_shaped->VB,in_tuple_reads->v9,notIn_tuple_reads->w9,in_list_reads->y9,notIn_list_reads->A9
open PySem.Stmt renaming Continue->Jb,Expr->rj,Return->Bk,Assign->gc,AugAssign->Bm,While->Bp,Raise->tC,Try->wQ,FunctionDef->WS,casesOn->Xb
open PySem.Str renaming length->AF,mk->Aan,ofString->Xu
open PySem.Value renaming type->aK,none->aS,bool->eQ,int->cI,str->dG,ref->ax,builtin->cv,isStrOf_shape->Ik
open PySem.W renaming Frag->dF,listOf->cO,instObj->io,tabObj->Ie,findIn->kY,typeIn->Ij,dictOf->wA,putName_dict->VG,plainGet_of->Is,Looks->hJ,kms_lo->tf,kms_hi->wF,kms_bounds->Wh,keepIn->to,keeps_K->IR,looks_findIn->IS,emptyDict->lO,check_slot->WM,fnMade->wR,nsIn->tI,ghostOf->tJ
namespace Mine.Internal
theorem gL{n c:Sort _}{s0:n->c->Prop}(p:n)(X:c)(h:s0 p X):∃p X,s0 p X:=⟨p,X,h⟩
theorem jg{n c q:Sort _}{s0:n->c->q->Prop}(p:n)(X:c)(e:q)(h:s0 p X e):∃p X e,s0 p X e:=⟨p,X,e,h⟩
theorem rB{n c q S f:Sort _}{s0:n->c->q->S->f->Prop}(p:n)(X:c)(e:q)(k:S)(Z:f)(h:s0 p X e k Z):∃p X e k Z,s0 p X e k Z:=⟨p,X,e,k,Z,h⟩
theorem lQ{n c q S f r:Sort _}{s0:n->c->q->S->f->r->Prop}(p:n)(X:c)(e:q)(k:S)(Z:f)(D:r)(h:s0 p X e k Z D):∃p X e k Z D,s0 p X e k Z D:=⟨p,X,e,k,Z,D,h⟩
theorem BC{n c q S f r l:Sort _}{s0:n->c->q->S->f->r->l->Prop}(p:n)(X:c)(e:q)(k:S)(Z:f)(D:r)(I:l)(h:s0 p X e k Z D I):∃p X e k Z D I,s0 p X e k Z D I:=⟨p,X,e,k,Z,D,I,h⟩
theorem tK{n c q S f r l A:Sort _}{s0:n->c->q->S->f->r->l->A->Prop}(p:n)(X:c)(e:q)(k:S)(Z:f)(D:r)(I:l)(C:A)(h:s0 p X e k Z D I C):∃p X e k Z D I C,s0 p X e k Z D I C:=⟨p,X,e,k,Z,D,I,C,h⟩
theorem aw{n:Sort _}{Y M:n->Prop}(p:n)(E:Y p)(N:M p):∃p,Y p/\M p:=⟨p,E,N⟩
theorem cW{n:Sort _}{Y M Q:n->Prop}(p:n)(E:Y p)(N:M p)(h3:Q p):∃p,Y p/\M p/\Q p:=⟨p,E,N,h3⟩
theorem ix{n:Sort _}{Y M Q P4:n->Prop}(p:n)(E:Y p)(N:M p)(h3:Q p)(h4:P4 p):∃p,Y p/\M p/\Q p/\P4 p:=⟨p,E,N,h3,h4⟩
theorem lf{n:Sort _}{Y M Q P4 O:n->Prop}(p:n)(E:Y p)(N:M p)(h3:Q p)(h4:P4 p)(h5:O p):∃p,Y p/\M p/\Q p/\P4 p/\O p:=⟨p,E,N,h3,h4,h5⟩
theorem dK{n c:Sort _}{Y M:n->c->Prop}(p:n)(X:c)(E:Y p X)(N:M p X):∃p X,Y p X/\M p X:=⟨p,X,E,N⟩
theorem bU{n c:Sort _}{Y M Q:n->c->Prop}(p:n)(X:c)(E:Y p X)(N:M p X)(h3:Q p X):∃p X,Y p X/\M p X/\Q p X:=⟨p,X,E,N,h3⟩
theorem gM{n c:Sort _}{Y M Q P4:n->c->Prop}(p:n)(X:c)(E:Y p X)(N:M p X)(h3:Q p X)(h4:P4 p X):∃p X,Y p X/\M p X/\Q p X/\P4 p X:=⟨p,X,E,N,h3,h4⟩
theorem gN{n c:Sort _}{Y M Q P4 O:n->c->Prop}(p:n)(X:c)(E:Y p X)(N:M p X)(h3:Q p X)(h4:P4 p X)(h5:O p X):∃p X,Y p X/\M p X/\Q p X/\P4 p X/\O p X:=⟨p,X,E,N,h3,h4,h5⟩
theorem jA{n c q:Sort _}{Y M:n->c->q->Prop}(p:n)(X:c)(e:q)(E:Y p X e)(N:M p X e):∃p X e,Y p X e/\M p X e:=⟨p,X,e,E,N⟩
theorem jh{n c q:Sort _}{Y M Q:n->c->q->Prop}(p:n)(X:c)(e:q)(E:Y p X e)(N:M p X e)(h3:Q p X e):∃p X e,Y p X e/\M p X e/\Q p X e:=⟨p,X,e,E,N,h3⟩
theorem dY{n c q:Sort _}{Y M Q P4:n->c->q->Prop}(p:n)(X:c)(e:q)(E:Y p X e)(N:M p X e)(h3:Q p X e)(h4:P4 p X e):∃p X e,Y p X e/\M p X e/\Q p X e/\P4 p X e:=⟨p,X,e,E,N,h3,h4⟩
theorem JC{n c q S:Sort _}{Y M:n->c->q->S->Prop}(p:n)(X:c)(e:q)(k:S)(E:Y p X e k)(N:M p X e k):∃p X e k,Y p X e k/\M p X e k:=⟨p,X,e,k,E,N⟩
theorem rC{n c q S:Sort _}{Y M Q:n->c->q->S->Prop}(p:n)(X:c)(e:q)(k:S)(E:Y p X e k)(N:M p X e k)(h3:Q p X e k):∃p X e k,Y p X e k/\M p X e k/\Q p X e k:=⟨p,X,e,k,E,N,h3⟩
theorem iN{n c q S:Sort _}{Y M Q P4:n->c->q->S->Prop}(p:n)(X:c)(e:q)(k:S)(E:Y p X e k)(N:M p X e k)(h3:Q p X e k)(h4:P4 p X e k):∃p X e k,Y p X e k/\M p X e k/\Q p X e k/\P4 p X e k:=⟨p,X,e,k,E,N,h3,h4⟩
theorem BD{d a0 B w s:Nat}(q0:B<=w)(q:d+a0+w<s):d+a0+B<s:=el (wr q0 _) q
theorem BE{d d0 a0 B w s:Nat}(h:d0<=1)(q0:1+B<=w)(q:d+a0+w<s):d+d0+a0+B<s:=el (by rw[Ay d d0 a0,sY (d+a0)];exact wr (az (Az h B) q0) _) q
theorem xa{d d0 a0 w s:Nat}(h:d0<=w)(q:d+a0+w<s):d+d0<s:=el (kT (dp d a0) h) q
theorem BF{S:Int}{n:Nat}(n0:0<=S)(h:S<n):S.natAbs<n:=iI.mp (by rw[Ia n0];exact h)
theorem tL{Z S p I d H:Nat}(E:Z≠S)(N:Z≠p)(h3:Z≠I)(h4:Z≠d)(h5:Z<H):¬(Z=S\/Z=p\/Z=I\/Z=d\/H<=Z):=λa0=>a0.elim E λa0=>a0.elim N λa0=>a0.elim h3 λa0=>a0.elim h4 λa0=>pg _ (aM h5 a0)
theorem oi{i I:Int}{B n:Nat}(h:i=B)(w:B<n)(q:(n:Int)<=I):i<I:=h▸fo (iI.mpr w) q
theorem BG{S i:Int}{w t n:Nat}(h:S+t<=n)(e:i=w)(q:w<t):S+i<n:=fo (Int.add_lt_add_left (e▸iI.mpr q) S) h
theorem JD{S p i I d:Int}(h:S<=i/\i<=p)(V:I<=S)(q:p<d):I<=i/\i<d:=⟨bQ V h.1,fg h.2 q⟩
theorem BH{S p Z y I d:Nat}(h:S=Z)(w:p=y)(q:Z+y<=I)(r:I<=d):S+p<=d:=by rw[h,w];exact az q r
theorem xb{V q H M0:Nat}(h:V<=q+1)(w:q+(H+1)<=M0):V+H<=M0:=az (Az h H) (by rw[sY,wt 1];exact w)
theorem JE{I w q n M0:Nat}(h:I+w*(q+1)<=n)(J:n<=M0):I+w<=M0:=az (wr (Nat.le_mul_of_pos_right w (Ib q)) I) (az h J)
theorem JF{V I w q n:Nat}(S:V<=I+w)(h:I+w*(q+1)<=n):V+w*q<=n:=az (Az S _) (by rw[sY,wt w,<-Nat.mul_succ];exact h)
theorem BI{w n:Int}{q:Prop}(h:w=5)(o:(w=0/\n=0/\q)\/(w=5/\0<=n/\n<=6)):0<=n/\n<=6:=o.elim (λz=>absurd (z.1.symm.trans h) (by decide)) (·.2)
theorem JG:∀n:Nat,n-1=n\/n-1+1=n|0=>aL rfl|_+1=>aI rfl
theorem JH{d:Nat}(h:d<4):d=0\/d=1\/d=2\/d=3:=(by decide:∀d<4,d=0\/d=1\/d=2\/d=3) d h
theorem BJ{d:Int}(S:0<=d)(p:d<3):d=0\/d=1\/d=2:=by
 obtain⟨n,rfl⟩:=AA S
 exact(by decide:∀n:Nat,n<3->(n:Int)=0\/(n:Int)=1\/(n:Int)=2) n (iI.mp p)
theorem BK{d:Int}(S:0<=d)(p:d<4):d=0\/d=1\/d=2\/d=3:=by
 obtain⟨n,rfl⟩:=AA S
 exact(by decide:∀n:Nat,n<4->(n:Int)=0\/(n:Int)=1\/(n:Int)=2\/(n:Int)=3) n (iI.mp p)
theorem BL{d:Int}(S:0<=d)(p:d<5):d=0\/d=1\/d=2\/d=3\/d=4:=by
 obtain⟨n,rfl⟩:=AA S
 exact(by decide:∀n:Nat,n<5->(n:Int)=0\/(n:Int)=1\/(n:Int)=2\/(n:Int)=3\/(n:Int)=4) n (iI.mp p)
theorem pQ{s0 Y:Prop}{i:Prop}(h:s0/\Y)(w:s0->Y->i):i:=w h.1 h.2
end Mine.Internal
set_option tactic.hygienic false
namespace Mine.Internal
open PySem PySem.W PyProof.Rows
theorem lg{V:Prop}(h:¬V->False):V:=AB h
theorem JI{n c q S f r l A P b:Sort _}{V:n->c->q->S->f->r->l->A->P->b->Prop}{i:Prop}(h:∃p,∃X,∃e,∃k,∃Z,∃D,∃I,∃C,∃x9,∃y,V p X e k Z D I C x9 y)(w:∀p,∀X,∀e,∀k,∀Z,∀D,∀I,∀C,∀x9,∀y,V p X e k Z D I C x9 y->i):i:=aF h λp E=>aF E λX N=>aF N λe h3=>aF h3 λk h4=>aF h4 λZ h5=>aF h5 λD h6=>aF h6 λI U=>aF U λC h8=>aF h8 λx9 B=>aF B λy O=>w p X e k Z D I C x9 y O
theorem xc{n c q S:Sort _}{V:n->c->q->S->Prop}{i:Prop}(h:∃p,∃X,∃e,∃k,V p X e k)(w:∀p,∀X,∀e,∀k,V p X e k->i):i:=aF h λp E=>aF E λX N=>aF N λe h3=>aF h3 λk h4=>w p X e k h4
theorem tM{n c q S f:Sort _}{V:n->c->q->S->f->Prop}{i:Prop}(h:∃p,∃X,∃e,∃k,∃Z,V p X e k Z)(w:∀p,∀X,∀e,∀k,∀Z,V p X e k Z->i):i:=aF h λp E=>aF E λX N=>aF N λe h3=>aF h3 λk h4=>aF h4 λZ h5=>w p X e k Z h5
theorem oj{n c q S f r:Sort _}{V:n->c->q->S->f->r->Prop}{i:Prop}(h:∃p,∃X,∃e,∃k,∃Z,∃D,V p X e k Z D)(w:∀p,∀X,∀e,∀k,∀Z,∀D,V p X e k Z D->i):i:=aF h λp E=>aF E λX N=>aF N λe h3=>aF h3 λk h4=>aF h4 λZ h5=>aF h5 λD h6=>w p X e k Z D h6
theorem kr{V Q s:Prop}{i:Prop}(h:V/\Q/\s)(w:V->Q->s->i):i:=w h.1 h.2.1 h.2.2
theorem ol{V Q s z:Prop}{i:Prop}(h:V/\Q/\s/\z)(w:V->Q->s->z->i):i:=w h.1 h.2.1 h.2.2.1 h.2.2.2
theorem rD{V Q s z o:Prop}{i:Prop}(h:V/\Q/\s/\z/\o)(w:V->Q->s->z->o->i):i:=w h.1 h.2.1 h.2.2.1 h.2.2.2.1 h.2.2.2.2
theorem JJ{V Q s z o C:Prop}{i:Prop}(h:V/\Q/\s/\z/\o/\C)(w:V->Q->s->z->o->C->i):i:=w h.1 h.2.1 h.2.2.1 h.2.2.2.1 h.2.2.2.2.1 h.2.2.2.2.2
theorem JK{V Q s z o C O:Prop}{i:Prop}(h:V/\Q/\s/\z/\o/\C/\O)(w:V->Q->s->z->o->C->O->i):i:=w h.1 h.2.1 h.2.2.1 h.2.2.2.1 h.2.2.2.2.1 h.2.2.2.2.2.1 h.2.2.2.2.2.2
theorem pR{V Q s z o C O y:Prop}{i:Prop}(h:V/\Q/\s/\z/\o/\C/\O/\y)(w:V->Q->s->z->o->C->O->y->i):i:=w h.1 h.2.1 h.2.2.1 h.2.2.2.1 h.2.2.2.2.1 h.2.2.2.2.2.1 h.2.2.2.2.2.2.1 h.2.2.2.2.2.2.2
theorem BM{V Q s z o C O y d:Prop}{i:Prop}(h:V/\Q/\s/\z/\o/\C/\O/\y/\d)(w:V->Q->s->z->o->C->O->y->d->i):i:=w h.1 h.2.1 h.2.2.1 h.2.2.2.1 h.2.2.2.2.1 h.2.2.2.2.2.1 h.2.2.2.2.2.2.1 h.2.2.2.2.2.2.2.1 h.2.2.2.2.2.2.2.2
theorem xd{V Q s z o C O y d v b:Prop}{i:Prop}(h:V/\Q/\s/\z/\o/\C/\O/\y/\d/\v/\b)(w:V->Q->s->z->o->C->O->y->d->v->b->i):i:=w h.1 h.2.1 h.2.2.1 h.2.2.2.1 h.2.2.2.2.1 h.2.2.2.2.2.1 h.2.2.2.2.2.2.1 h.2.2.2.2.2.2.2.1 h.2.2.2.2.2.2.2.2.1 h.2.2.2.2.2.2.2.2.2.1 h.2.2.2.2.2.2.2.2.2.2
theorem BN{V Q s z o C O y d v b B F m:Prop}{i:Prop}(h:V/\Q/\s/\z/\o/\C/\O/\y/\d/\v/\b/\B/\F/\m)(w:V->Q->s->z->o->C->O->y->d->v->b->B->F->m->i):i:=w h.1 h.2.1 h.2.2.1 h.2.2.2.1 h.2.2.2.2.1 h.2.2.2.2.2.1 h.2.2.2.2.2.2.1 h.2.2.2.2.2.2.2.1 h.2.2.2.2.2.2.2.2.1 h.2.2.2.2.2.2.2.2.2.1 h.2.2.2.2.2.2.2.2.2.2.1 h.2.2.2.2.2.2.2.2.2.2.2.1 h.2.2.2.2.2.2.2.2.2.2.2.2.1 h.2.2.2.2.2.2.2.2.2.2.2.2.2
theorem JL{V Q s z o C O y d v b B F m G:Prop}{i:Prop}(h:V/\Q/\s/\z/\o/\C/\O/\y/\d/\v/\b/\B/\F/\m/\G)(w:V->Q->s->z->o->C->O->y->d->v->b->B->F->m->G->i):i:=w h.1 h.2.1 h.2.2.1 h.2.2.2.1 h.2.2.2.2.1 h.2.2.2.2.2.1 h.2.2.2.2.2.2.1 h.2.2.2.2.2.2.2.1 h.2.2.2.2.2.2.2.2.1 h.2.2.2.2.2.2.2.2.2.1 h.2.2.2.2.2.2.2.2.2.2.1 h.2.2.2.2.2.2.2.2.2.2.2.1 h.2.2.2.2.2.2.2.2.2.2.2.2.1 h.2.2.2.2.2.2.2.2.2.2.2.2.2.1 h.2.2.2.2.2.2.2.2.2.2.2.2.2.2
theorem JM{V Q s z o C O y d v b B F m G A D:Prop}{i:Prop}(h:V/\Q/\s/\z/\o/\C/\O/\y/\d/\v/\b/\B/\F/\m/\G/\A/\D)(w:V->Q->s->z->o->C->O->y->d->v->b->B->F->m->G->A->D->i):i:=w h.1 h.2.1 h.2.2.1 h.2.2.2.1 h.2.2.2.2.1 h.2.2.2.2.2.1 h.2.2.2.2.2.2.1 h.2.2.2.2.2.2.2.1 h.2.2.2.2.2.2.2.2.1 h.2.2.2.2.2.2.2.2.2.1 h.2.2.2.2.2.2.2.2.2.2.1 h.2.2.2.2.2.2.2.2.2.2.2.1 h.2.2.2.2.2.2.2.2.2.2.2.2.1 h.2.2.2.2.2.2.2.2.2.2.2.2.2.1 h.2.2.2.2.2.2.2.2.2.2.2.2.2.2.1 h.2.2.2.2.2.2.2.2.2.2.2.2.2.2.2.1 h.2.2.2.2.2.2.2.2.2.2.2.2.2.2.2.2
theorem xe{n c q:Sort _}{V Q s:Prop}{z o:n->c->q->Prop}{i:Prop}(h:V/\Q/\s/\∃p,∃X,∃e,z p X e/\o p X e)(w:V->Q->s->∀p,∀X,∀e,z p X e->o p X e->i):i:=aF h.2.2.2 λp E=>aF E λX N=>aF N λe h3=>w h.1 h.2.1 h.2.2.1 p X e h3.1 h3.2
theorem xf{n:Sort _}{V Q:Prop}{s z:n->Prop}{i:Prop}(h:V/\Q/\∃p,s p/\z p)(w:V->Q->∀p,s p->z p->i):i:=aF h.2.2 λp E=>w h.1 h.2.1 p E.1 E.2
theorem pS{n:Sort _}{V:Prop}{Q s:n->Prop}{i:Prop}(h:V/\∃p,Q p/\s p)(w:V->∀p,Q p->s p->i):i:=aF h.2 λp E=>w h.1 p E.1 E.2
theorem om{n c q S:Sort _}{V:Prop}{Q s z:n->c->q->S->Prop}{i:Prop}(h:V/\∃p,∃X,∃e,∃k,Q p X e k/\s p X e k/\z p X e k)(w:V->∀p,∀X,∀e,∀k,Q p X e k->s p X e k->z p X e k->i):i:=aF h.2 λp E=>aF E λX N=>aF N λe h3=>aF h3 λk h4=>w h.1 p X e k h4.1 h4.2.1 h4.2.2
theorem JN{n c q S:Sort _}{V:Prop}{Q s z o:n->c->q->S->Prop}{i:Prop}(h:V/\∃p,∃X,∃e,∃k,Q p X e k/\s p X e k/\z p X e k/\o p X e k)(w:V->∀p,∀X,∀e,∀k,Q p X e k->s p X e k->z p X e k->o p X e k->i):i:=aF h.2 λp E=>aF E λX N=>aF N λe h3=>aF h3 λk h4=>w h.1 p X e k h4.1 h4.2.1 h4.2.2.1 h4.2.2.2
theorem JO{n c q S:Sort _}{V:Prop}{Q s z o C:n->c->q->S->Prop}{i:Prop}(h:V/\∃p,∃X,∃e,∃k,Q p X e k/\s p X e k/\z p X e k/\o p X e k/\C p X e k)(w:V->∀p,∀X,∀e,∀k,Q p X e k->s p X e k->z p X e k->o p X e k->C p X e k->i):i:=aF h.2 λp E=>aF E λX N=>aF N λe h3=>aF h3 λk h4=>w h.1 p X e k h4.1 h4.2.1 h4.2.2.1 h4.2.2.2.1 h4.2.2.2.2
theorem lR{n c q S:Sort _}{V:Prop}{Q s z o C O:n->c->q->S->Prop}{i:Prop}(h:V/\∃p,∃X,∃e,∃k,Q p X e k/\s p X e k/\z p X e k/\o p X e k/\C p X e k/\O p X e k)(w:V->∀p,∀X,∀e,∀k,Q p X e k->s p X e k->z p X e k->o p X e k->C p X e k->O p X e k->i):i:=aF h.2 λp E=>aF E λX N=>aF N λe h3=>aF h3 λk h4=>w h.1 p X e k h4.1 h4.2.1 h4.2.2.1 h4.2.2.2.1 h4.2.2.2.2.1 h4.2.2.2.2.2
theorem aA{n:Sort _}{V Q:n->Prop}{i:Prop}(h:∃p,V p/\Q p)(w:∀p,V p->Q p->i):i:=aF h λp E=>w p E.1 E.2
theorem dP{n:Sort _}{V Q s:n->Prop}{i:Prop}(h:∃p,V p/\Q p/\s p)(w:∀p,V p->Q p->s p->i):i:=aF h λp E=>w p E.1 E.2.1 E.2.2
theorem rE{n:Sort _}{V Q s z:n->Prop}{i:Prop}(h:∃p,V p/\Q p/\s p/\z p)(w:∀p,V p->Q p->s p->z p->i):i:=aF h λp E=>w p E.1 E.2.1 E.2.2.1 E.2.2.2
theorem lh{n:Sort _}{V Q s z o:n->Prop}{i:Prop}(h:∃p,V p/\Q p/\s p/\z p/\o p)(w:∀p,V p->Q p->s p->z p->o p->i):i:=aF h λp E=>w p E.1 E.2.1 E.2.2.1 E.2.2.2.1 E.2.2.2.2
theorem JP{n:Sort _}{V Q s z o C:n->Prop}{i:Prop}(h:∃p,V p/\Q p/\s p/\z p/\o p/\C p)(w:∀p,V p->Q p->s p->z p->o p->C p->i):i:=aF h λp E=>w p E.1 E.2.1 E.2.2.1 E.2.2.2.1 E.2.2.2.2.1 E.2.2.2.2.2
theorem xg{n c:Sort _}{V Q:n->Prop}{s:n->c->Prop}{i:Prop}(h:∃p,V p/\Q p/\∃X,s p X)(w:∀p,V p->Q p->∀X,s p X->i):i:=aF h λp E=>aF E.2.2 λX N=>w p E.1 E.2.1 X N
theorem jB{n c:Sort _}{V:n->Prop}{Q s:n->c->Prop}{i:Prop}(h:∃p,V p/\∃X,Q p X/\s p X)(w:∀p,V p->∀X,Q p X->s p X->i):i:=aF h λp E=>aF E.2 λX N=>w p E.1 X N.1 N.2
theorem xh{n c:Sort _}{V:n->Prop}{Q s z o:n->c->Prop}{i:Prop}(h:∃p,V p/\∃X,Q p X/\s p X/\z p X/\o p X)(w:∀p,V p->∀X,Q p X->s p X->z p X->o p X->i):i:=aF h λp E=>aF E.2 λX N=>w p E.1 X N.1 N.2.1 N.2.2.1 N.2.2.2
theorem hV{n c q:Sort _}{V:n->Prop}{Q s:n->c->q->Prop}{i:Prop}(h:∃p,V p/\∃X,∃e,Q p X e/\s p X e)(w:∀p,V p->∀X,∀e,Q p X e->s p X e->i):i:=aF h λp E=>aF E.2 λX N=>aF N λe h3=>w p E.1 X e h3.1 h3.2
theorem pT{n c:Sort _}{V:n->c->Prop}{i:Prop}(h:∃p,∃X,V p X)(w:∀p,∀X,V p X->i):i:=aF h λp E=>aF E λX N=>w p X N
theorem fw{n c:Sort _}{V Q:n->c->Prop}{i:Prop}(h:∃p,∃X,V p X/\Q p X)(w:∀p,∀X,V p X->Q p X->i):i:=aF h λp E=>aF E λX N=>w p X N.1 N.2
theorem de{n c:Sort _}{V Q s:n->c->Prop}{i:Prop}(h:∃p,∃X,V p X/\Q p X/\s p X)(w:∀p,∀X,V p X->Q p X->s p X->i):i:=aF h λp E=>aF E λX N=>w p X N.1 N.2.1 N.2.2
theorem cX{n c:Sort _}{V Q s z:n->c->Prop}{i:Prop}(h:∃p,∃X,V p X/\Q p X/\s p X/\z p X)(w:∀p,∀X,V p X->Q p X->s p X->z p X->i):i:=aF h λp E=>aF E λX N=>w p X N.1 N.2.1 N.2.2.1 N.2.2.2
theorem mE{n c:Sort _}{V Q s z o:n->c->Prop}{i:Prop}(h:∃p,∃X,V p X/\Q p X/\s p X/\z p X/\o p X)(w:∀p,∀X,V p X->Q p X->s p X->z p X->o p X->i):i:=aF h λp E=>aF E λX N=>w p X N.1 N.2.1 N.2.2.1 N.2.2.2.1 N.2.2.2.2
theorem pU{n c:Sort _}{V Q s z o C:n->c->Prop}{i:Prop}(h:∃p,∃X,V p X/\Q p X/\s p X/\z p X/\o p X/\C p X)(w:∀p,∀X,V p X->Q p X->s p X->z p X->o p X->C p X->i):i:=aF h λp E=>aF E λX N=>w p X N.1 N.2.1 N.2.2.1 N.2.2.2.1 N.2.2.2.2.1 N.2.2.2.2.2
theorem tN{n c:Sort _}{V Q s z o C O:n->c->Prop}{i:Prop}(h:∃p,∃X,V p X/\Q p X/\s p X/\z p X/\o p X/\C p X/\O p X)(w:∀p,∀X,V p X->Q p X->s p X->z p X->o p X->C p X->O p X->i):i:=aF h λp E=>aF E λX N=>w p X N.1 N.2.1 N.2.2.1 N.2.2.2.1 N.2.2.2.2.1 N.2.2.2.2.2.1 N.2.2.2.2.2.2
theorem BO{n c:Sort _}{V Q s z o C O y:n->c->Prop}{i:Prop}(h:∃p,∃X,V p X/\Q p X/\s p X/\z p X/\o p X/\C p X/\O p X/\y p X)(w:∀p,∀X,V p X->Q p X->s p X->z p X->o p X->C p X->O p X->y p X->i):i:=aF h λp E=>aF E λX N=>w p X N.1 N.2.1 N.2.2.1 N.2.2.2.1 N.2.2.2.2.1 N.2.2.2.2.2.1 N.2.2.2.2.2.2.1 N.2.2.2.2.2.2.2
theorem rF{n c q:Sort _}{V:n->c->q->Prop}{i:Prop}(h:∃p,∃X,∃e,V p X e)(w:∀p,∀X,∀e,V p X e->i):i:=aF h λp E=>aF E λX N=>aF N λe h3=>w p X e h3
theorem gg{n c q:Sort _}{V Q:n->c->q->Prop}{i:Prop}(h:∃p,∃X,∃e,V p X e/\Q p X e)(w:∀p,∀X,∀e,V p X e->Q p X e->i):i:=aF h λp E=>aF E λX N=>aF N λe h3=>w p X e h3.1 h3.2
theorem eJ{n c q:Sort _}{V Q s:n->c->q->Prop}{i:Prop}(h:∃p,∃X,∃e,V p X e/\Q p X e/\s p X e)(w:∀p,∀X,∀e,V p X e->Q p X e->s p X e->i):i:=aF h λp E=>aF E λX N=>aF N λe h3=>w p X e h3.1 h3.2.1 h3.2.2
theorem lj{n c q:Sort _}{V Q s z:n->c->q->Prop}{i:Prop}(h:∃p,∃X,∃e,V p X e/\Q p X e/\s p X e/\z p X e)(w:∀p,∀X,∀e,V p X e->Q p X e->s p X e->z p X e->i):i:=aF h λp E=>aF E λX N=>aF N λe h3=>w p X e h3.1 h3.2.1 h3.2.2.1 h3.2.2.2
theorem jC{n c q:Sort _}{V Q s z o:n->c->q->Prop}{i:Prop}(h:∃p,∃X,∃e,V p X e/\Q p X e/\s p X e/\z p X e/\o p X e)(w:∀p,∀X,∀e,V p X e->Q p X e->s p X e->z p X e->o p X e->i):i:=aF h λp E=>aF E λX N=>aF N λe h3=>w p X e h3.1 h3.2.1 h3.2.2.1 h3.2.2.2.1 h3.2.2.2.2
theorem pV{n c q:Sort _}{V Q s z o C:n->c->q->Prop}{i:Prop}(h:∃p,∃X,∃e,V p X e/\Q p X e/\s p X e/\z p X e/\o p X e/\C p X e)(w:∀p,∀X,∀e,V p X e->Q p X e->s p X e->z p X e->o p X e->C p X e->i):i:=aF h λp E=>aF E λX N=>aF N λe h3=>w p X e h3.1 h3.2.1 h3.2.2.1 h3.2.2.2.1 h3.2.2.2.2.1 h3.2.2.2.2.2
theorem rG{n c q:Sort _}{V Q s z o C O:n->c->q->Prop}{i:Prop}(h:∃p,∃X,∃e,V p X e/\Q p X e/\s p X e/\z p X e/\o p X e/\C p X e/\O p X e)(w:∀p,∀X,∀e,V p X e->Q p X e->s p X e->z p X e->o p X e->C p X e->O p X e->i):i:=aF h λp E=>aF E λX N=>aF N λe h3=>w p X e h3.1 h3.2.1 h3.2.2.1 h3.2.2.2.1 h3.2.2.2.2.1 h3.2.2.2.2.2.1 h3.2.2.2.2.2.2
theorem JQ{n c q S:Sort _}{V Q s:n->c->q->S->Prop}{i:Prop}(h:∃p,∃X,∃e,∃k,V p X e k/\Q p X e k/\s p X e k)(w:∀p,∀X,∀e,∀k,V p X e k->Q p X e k->s p X e k->i):i:=aF h λp E=>aF E λX N=>aF N λe h3=>aF h3 λk h4=>w p X e k h4.1 h4.2.1 h4.2.2
theorem rH{n c q S:Sort _}{V Q s z:n->c->q->S->Prop}{i:Prop}(h:∃p,∃X,∃e,∃k,V p X e k/\Q p X e k/\s p X e k/\z p X e k)(w:∀p,∀X,∀e,∀k,V p X e k->Q p X e k->s p X e k->z p X e k->i):i:=aF h λp E=>aF E λX N=>aF N λe h3=>aF h3 λk h4=>w p X e k h4.1 h4.2.1 h4.2.2.1 h4.2.2.2
theorem JR{n c q S:Sort _}{V Q s z o C O y d v:n->c->q->S->Prop}{i:Prop}(h:∃p,∃X,∃e,∃k,V p X e k/\Q p X e k/\s p X e k/\z p X e k/\o p X e k/\C p X e k/\O p X e k/\y p X e k/\d p X e k/\v p X e k)(w:∀p,∀X,∀e,∀k,V p X e k->Q p X e k->s p X e k->z p X e k->o p X e k->C p X e k->O p X e k->y p X e k->d p X e k->v p X e k->i):i:=aF h λp E=>aF E λX N=>aF N λe h3=>aF h3 λk h4=>w p X e k h4.1 h4.2.1 h4.2.2.1 h4.2.2.2.1 h4.2.2.2.2.1 h4.2.2.2.2.2.1 h4.2.2.2.2.2.2.1 h4.2.2.2.2.2.2.2.1 h4.2.2.2.2.2.2.2.2.1 h4.2.2.2.2.2.2.2.2.2
theorem JS{n c q S:Sort _}{V Q s z o C O y d v b B F m:n->c->q->S->Prop}{i:Prop}(h:∃p,∃X,∃e,∃k,V p X e k/\Q p X e k/\s p X e k/\z p X e k/\o p X e k/\C p X e k/\O p X e k/\y p X e k/\d p X e k/\v p X e k/\b p X e k/\B p X e k/\F p X e k/\m p X e k)(w:∀p,∀X,∀e,∀k,V p X e k->Q p X e k->s p X e k->z p X e k->o p X e k->C p X e k->O p X e k->y p X e k->d p X e k->v p X e k->b p X e k->B p X e k->F p X e k->m p X e k->i):i:=aF h λp E=>aF E λX N=>aF N λe h3=>aF h3 λk h4=>w p X e k h4.1 h4.2.1 h4.2.2.1 h4.2.2.2.1 h4.2.2.2.2.1 h4.2.2.2.2.2.1 h4.2.2.2.2.2.2.1 h4.2.2.2.2.2.2.2.1 h4.2.2.2.2.2.2.2.2.1 h4.2.2.2.2.2.2.2.2.2.1 h4.2.2.2.2.2.2.2.2.2.2.1 h4.2.2.2.2.2.2.2.2.2.2.2.1 h4.2.2.2.2.2.2.2.2.2.2.2.2.1 h4.2.2.2.2.2.2.2.2.2.2.2.2.2
theorem JT{n c q S f:Sort _}{V Q s z:n->c->q->S->f->Prop}{i:Prop}(h:∃p,∃X,∃e,∃k,∃Z,V p X e k Z/\Q p X e k Z/\s p X e k Z/\z p X e k Z)(w:∀p,∀X,∀e,∀k,∀Z,V p X e k Z->Q p X e k Z->s p X e k Z->z p X e k Z->i):i:=aF h λp E=>aF E λX N=>aF N λe h3=>aF h3 λk h4=>aF h4 λZ h5=>w p X e k Z h5.1 h5.2.1 h5.2.2.1 h5.2.2.2
theorem JU{n c q S f:Sort _}{V Q s z o:n->c->q->S->f->Prop}{i:Prop}(h:∃p,∃X,∃e,∃k,∃Z,V p X e k Z/\Q p X e k Z/\s p X e k Z/\z p X e k Z/\o p X e k Z)(w:∀p,∀X,∀e,∀k,∀Z,V p X e k Z->Q p X e k Z->s p X e k Z->z p X e k Z->o p X e k Z->i):i:=aF h λp E=>aF E λX N=>aF N λe h3=>aF h3 λk h4=>aF h4 λZ h5=>w p X e k Z h5.1 h5.2.1 h5.2.2.1 h5.2.2.2.1 h5.2.2.2.2
theorem JV{n c q S f:Sort _}{V Q s z o C O:n->c->q->S->f->Prop}{i:Prop}(h:∃p,∃X,∃e,∃k,∃Z,V p X e k Z/\Q p X e k Z/\s p X e k Z/\z p X e k Z/\o p X e k Z/\C p X e k Z/\O p X e k Z)(w:∀p,∀X,∀e,∀k,∀Z,V p X e k Z->Q p X e k Z->s p X e k Z->z p X e k Z->o p X e k Z->C p X e k Z->O p X e k Z->i):i:=aF h λp E=>aF E λX N=>aF N λe h3=>aF h3 λk h4=>aF h4 λZ h5=>w p X e k Z h5.1 h5.2.1 h5.2.2.1 h5.2.2.2.1 h5.2.2.2.2.1 h5.2.2.2.2.2.1 h5.2.2.2.2.2.2
theorem BP{n c q S f r:Sort _}{V Q:n->c->q->S->f->r->Prop}{i:Prop}(h:∃p,∃X,∃e,∃k,∃Z,∃D,V p X e k Z D/\Q p X e k Z D)(w:∀p,∀X,∀e,∀k,∀Z,∀D,V p X e k Z D->Q p X e k Z D->i):i:=aF h λp E=>aF E λX N=>aF N λe h3=>aF h3 λk h4=>aF h4 λZ h5=>aF h5 λD h6=>w p X e k Z D h6.1 h6.2
theorem JW{n c q S f r:Sort _}{V Q s z:n->c->q->S->f->r->Prop}{i:Prop}(h:∃p,∃X,∃e,∃k,∃Z,∃D,V p X e k Z D/\Q p X e k Z D/\s p X e k Z D/\z p X e k Z D)(w:∀p,∀X,∀e,∀k,∀Z,∀D,V p X e k Z D->Q p X e k Z D->s p X e k Z D->z p X e k Z D->i):i:=aF h λp E=>aF E λX N=>aF N λe h3=>aF h3 λk h4=>aF h4 λZ h5=>aF h5 λD h6=>w p X e k Z D h6.1 h6.2.1 h6.2.2.1 h6.2.2.2
theorem JX{n c q S f r l:Sort _}{V Q:n->c->q->S->f->r->l->Prop}{i:Prop}(h:∃p,∃X,∃e,∃k,∃Z,∃D,∃I,V p X e k Z D I/\Q p X e k Z D I)(w:∀p,∀X,∀e,∀k,∀Z,∀D,∀I,V p X e k Z D I->Q p X e k Z D I->i):i:=aF h λp E=>aF E λX N=>aF N λe h3=>aF h3 λk h4=>aF h4 λZ h5=>aF h5 λD h6=>aF h6 λI U=>w p X e k Z D I U.1 U.2
theorem JY{n c q S f r l:Sort _}{V Q s z o C O y d v b B F m G:n->c->q->S->f->r->l->Prop}{i:Prop}(h:∃p,∃X,∃e,∃k,∃Z,∃D,∃I,V p X e k Z D I/\Q p X e k Z D I/\s p X e k Z D I/\z p X e k Z D I/\o p X e k Z D I/\C p X e k Z D I/\O p X e k Z D I/\y p X e k Z D I/\d p X e k Z D I/\v p X e k Z D I/\b p X e k Z D I/\B p X e k Z D I/\F p X e k Z D I/\m p X e k Z D I/\G p X e k Z D I)(w:∀p,∀X,∀e,∀k,∀Z,∀D,∀I,V p X e k Z D I->Q p X e k Z D I->s p X e k Z D I->z p X e k Z D I->o p X e k Z D I->C p X e k Z D I->O p X e k Z D I->y p X e k Z D I->d p X e k Z D I->v p X e k Z D I->b p X e k Z D I->B p X e k Z D I->F p X e k Z D I->m p X e k Z D I->G p X e k Z D I->i):i:=aF h λp E=>aF E λX N=>aF N λe h3=>aF h3 λk h4=>aF h4 λZ h5=>aF h5 λD h6=>aF h6 λI U=>w p X e k Z D I U.1 U.2.1 U.2.2.1 U.2.2.2.1 U.2.2.2.2.1 U.2.2.2.2.2.1 U.2.2.2.2.2.2.1 U.2.2.2.2.2.2.2.1 U.2.2.2.2.2.2.2.2.1 U.2.2.2.2.2.2.2.2.2.1 U.2.2.2.2.2.2.2.2.2.2.1 U.2.2.2.2.2.2.2.2.2.2.2.1 U.2.2.2.2.2.2.2.2.2.2.2.2.1 U.2.2.2.2.2.2.2.2.2.2.2.2.2.1 U.2.2.2.2.2.2.2.2.2.2.2.2.2.2
theorem JZ{n c q S f r l A P b:Sort _}{V Q s z o:n->c->q->S->f->r->l->A->P->b->Prop}{i:Prop}(h:∃p,∃X,∃e,∃k,∃Z,∃D,∃I,∃C,∃x9,∃y,V p X e k Z D I C x9 y/\Q p X e k Z D I C x9 y/\s p X e k Z D I C x9 y/\z p X e k Z D I C x9 y/\o p X e k Z D I C x9 y)(w:∀p,∀X,∀e,∀k,∀Z,∀D,∀I,∀C,∀x9,∀y,V p X e k Z D I C x9 y->Q p X e k Z D I C x9 y->s p X e k Z D I C x9 y->z p X e k Z D I C x9 y->o p X e k Z D I C x9 y->i):i:=aF h λp E=>aF E λX N=>aF N λe h3=>aF h3 λk h4=>aF h4 λZ h5=>aF h5 λD h6=>aF h6 λI U=>aF U λC h8=>aF h8 λx9 B=>aF B λy O=>w p X e k Z D I C x9 y O.1 O.2.1 O.2.2.1 O.2.2.2.1 O.2.2.2.2
theorem xi{n c q S f r l A P b G H J L M:Sort _}{V:n->c->q->S->f->r->l->A->P->b->G->H->J->L->M->Prop}{i:Prop}(h:∃p,∃X,∃e,∃k,∃Z,∃D,∃I,∃C,∃x9,∃y,∃t,∃u,∃Q,∃v,∃s,V p X e k Z D I C x9 y t u Q v s)(w:∀p,∀X,∀e,∀k,∀Z,∀D,∀I,∀C,∀x9,∀y,∀t,∀u,∀Q,∀v,∀s,V p X e k Z D I C x9 y t u Q v s->i):i:=aF h λp E=>aF E λX N=>aF N λe h3=>aF h3 λk h4=>aF h4 λZ h5=>aF h5 λD h6=>aF h6 λI U=>aF U λC h8=>aF h8 λx9 B=>aF B λy O=>aF O λt T=>aF T λu x=>aF x λQ g=>aF g λv o=>aF o λs F=>w p X e k Z D I C x9 y t u Q v s F
noncomputable abbrev ak:=Nat
noncomputable def BQ(i:ak):List Nat:=(bif B i 107 then(bif B i 53 then(bif B i 26 then(bif B i 13 then(bif B i 6 then(bif B i 3 then(bif B i 1 then(bif B i 0 then[67,72,65,82,65,67,84,69,82]else[67,79,77,80,76,69,88])else(bif B i 2 then[68,79,85,66,76,69]else[69,120,99,101,112,116,105,111,110]))else(bif B i 5 then(bif B i 4 then[70,55,55,69,114,114,111,114]else[73,78,84,69,71,69,82])else[76,79,71,73,67,65,76]))else(bif B i 10 then(bif B i 8 then(bif B i 7 then[76,105,109,105,116,115]else[77,101,109,111,114,121])else(bif B i 9 then[82,69,65,76]else[82,117,110]))else(bif B i 12 then(bif B i 11 then[82,117,110,70,97,117,108,116]else[83,69,67,79,78,68])else[83,121,109,98,111,108])))else(bif B i 20 then(bif B i 17 then(bif B i 15 then(bif B i 14 then[85,110,105,116,84,114,101,101]else[95,108,97,119,95,97,99,116,117,97,108])else(bif B i 16 then[95,108,97,119,95,98,111,117,110,100]else[95,108,97,119,95,100,105,109,115]))else(bif B i 19 then(bif B i 18 then[95,108,97,119,95,100,117,109,109,121]else[95,108,97,119,95,102,114,97,109,101])else[95,108,97,119,95,112,108,97,99,101,115]))else(bif B i 23 then(bif B i 22 then(bif B i 21 then[95,108,97,119,95,115,101,97,116]else[95,108,97,119,95,115,116,111,114,101,100])else[95,108,97,119,95,116,97,107,101])else(bif B i 25 then(bif B i 24 then[97,98,115]else[97,99,116,105,118,101])else[97,99,116,117,97,108]))))else(bif B i 40 then(bif B i 33 then(bif B i 30 then(bif B i 28 then(bif B i 27 then[97,99,116,117,97,108,95,97,114,103]else[97,99,116,117,97,108,95,97,114,103,115])else(bif B i 29 then[97,99,116,117,97,108,115]else[97,100,100,114,101,115,115]))else(bif B i 32 then(bif B i 31 then[97,112,112,101,110,100]else[97,116])else[98,97,115,101]))else(bif B i 37 then(bif B i 35 then(bif B i 34 then[98,97,115,105,99,95,111,112,101,114,97,116,105,111,110,115]else[98,101,102,111,114,101])else(bif B i 36 then[98,105,110,100,95,100,117,109,109,105,101,115]else[98,111,117,110,100,95,111,102]))else(bif B i 39 then(bif B i 38 then[99,101,108,108]else[99,101,108,108,115])else[99,104,97,114,95,101,120,112,114,101,115,115,105,111,110,115])))else(bif B i 47 then(bif B i 44 then(bif B i 42 then(bif B i 41 then[99,104,97,114,97,99,116,101,114,115]else[99,108,101,97,114,115])else(bif B i 43 then[99,111,108,117,109,110,115]else[99,111,109,109,111,110]))else(bif B i 46 then(bif B i 45 then[99,111,109,109,111,110,115]else[99,111,110,115,116,97,110,116,115])else[99,111,110,116,105,110,117,97,116,105,111,110,115]))else(bif B i 50 then(bif B i 49 then(bif B i 48 then[99,111,117,110,116]else[99,117,116,95,113,117,111,116,105,101,110,116])else[99,117,116,95,115,116,111,114,97,103,101])else(bif B i 52 then(bif B i 51 then[100,97,116,97,115]else[100,101,112,116,104])else[100,105,99,116])))))else(bif B i 80 then(bif B i 67 then(bif B i 60 then(bif B i 57 then(bif B i 55 then(bif B i 54 then[100,105,103,105,116]else[100,105,109,115])else(bif B i 56 then[100,111,117,98,108,101,95,100,105,103,105,116,115]else[100,117,101]))else(bif B i 59 then(bif B i 58 then[100,117,109,109,105,101,115]else[100,117,109,109,121,95,112,108,97,99,101])else[101,108,101,109,101,110,116,95,112,108,97,99,101]))else(bif B i 64 then(bif B i 62 then(bif B i 61 then[101,110,100,115]else[101,110,116,114,105,101,115])else(bif B i 63 then[101,110,116,114,121,95,102,114,97,109,101]else[101,113,117,105,118,115]))else(bif B i 66 then(bif B i 65 then[101,118,97,108,95,98,105,110,97,114,121]else[101,118,97,108,95,99,97,116])else[101,118,97,108,95,99,111,109,112,97,114,101])))else(bif B i 74 then(bif B i 71 then(bif B i 69 then(bif B i 68 then[101,118,97,108,95,99,111,110,115,116]else[101,118,97,108,95,112,108,97,99,101])else(bif B i 70 then[101,118,97,108,117,97,116,101]else[101,118,97,108,117,97,116,101,95,100,105,109]))else(bif B i 73 then(bif B i 72 then[101,118,97,108,117,97,116,101,95,105,110]else[101,120,112,114,101,115,115,105,111,110,115])else[101,120,116,101,110,100]))else(bif B i 77 then(bif B i 76 then(bif B i 75 then[102,105,114,115,116]else[102,105,116,95,105,110,116])else[102,108,111,119,115])else(bif B i 79 then(bif B i 78 then[102,111,114,109,97,116,115]else[102,111,117,110,100])else[102,114,97,109,101]))))else(bif B i 94 then(bif B i 87 then(bif B i 84 then(bif B i 82 then(bif B i 81 then[102,114,101,115,104]else[103,101,116])else(bif B i 83 then[103,105,118,101,110]else[104,97,110,100,108,101,114]))else(bif B i 86 then(bif B i 85 then[104,97,115,95,112,108,97,99,101]else[104,105])else[104,105,103,104]))else(bif B i 91 then(bif B i 89 then(bif B i 88 then[104,111,108,100,115]else[105,110,95,102,114,97,109,101])else(bif B i 90 then[105,110,100,101,120,101,115]else[105,110,116,95,97,100,100]))else(bif B i 93 then(bif B i 92 then[105,110,116,95,98,105,110,97,114,121]else[105,110,116,95,100,105,118])else[105,110,116,95,109,117,108])))else(bif B i 101 then(bif B i 98 then(bif B i 96 then(bif B i 95 then[105,110,116,95,112,111,119,101,114]else[105,110,116,95,115,117,98])else(bif B i 97 then[105,110,118,101,114,115,101,95,112,111,119,101,114]else[105,115,95,100,117,109,109,121]))else(bif B i 100 then(bif B i 99 then[105,115,95,105,110]else[105,115,95,112,114,111,99,101,100,117,114,101])else[105,115,95,115,97,118,101,100]))else(bif B i 104 then(bif B i 103 then(bif B i 102 then[105,115,95,115,112,97,99,101]else[105,115,95,119,104,111,108,101])else[105,115,105,110,115,116,97,110,99,101])else(bif B i 106 then(bif B i 105 then[105,116,101,109,115]else[106,111,105,110])else[107]))))))else(bif B i 161 then(bif B i 134 then(bif B i 121 then(bif B i 114 then(bif B i 111 then(bif B i 109 then(bif B i 108 then[107,105,110,100]else[108,97,98,101,108,115])else(bif B i 110 then[108,97,115,116]else[108,97,119]))else(bif B i 113 then(bif B i 112 then[108,101,97,115,116]else[108,101,102,116])else[108,101,110]))else(bif B i 118 then(bif B i 116 then(bif B i 115 then[108,101,110,103,116,104]else[108,105,109,105,116,115])else(bif B i 117 then[108,105,115,116]else[108,106,117,115,116]))else(bif B i 120 then(bif B i 119 then[108,111]else[108,111,97,100])else[108,111,97,100,95,110,117,109,98,101,114])))else(bif B i 128 then(bif B i 125 then(bif B i 123 then(bif B i 122 then[108,111,97,100,95,116,101,120,116]else[108,111,103,105,99,95,98,105,110,97,114,121])else(bif B i 124 then[108,111,111,112,115]else[108,111,119]))else(bif B i 127 then(bif B i 126 then[109,97,110,121]else[109,97,114,107,95,115,116,111,114,97,103,101])else[109,97,114,107,101,100]))else(bif B i 131 then(bif B i 130 then(bif B i 129 then[109,101,109,111,114,121]else[109,105,110])else[109,111,115,116])else(bif B i 133 then(bif B i 132 then[110]else[110,97,109,101])else[110,97,109,101,100,95,112,108,97,99,101]))))else(bif B i 148 then(bif B i 141 then(bif B i 138 then(bif B i 136 then(bif B i 135 then[110,97,109,101,115]else[110,101,101,100,95,117,110,105,116,115])else(bif B i 137 then[110,111,110,101]else[110,117,109,98,101,114]))else(bif B i 140 then(bif B i 139 then[110,117,109,101,114,105,99]else[111,102,102,115,101,116])else[111,110,101]))else(bif B i 145 then(bif B i 143 then(bif B i 142 then[111,112]else[111,112,101,114,97,116,105,111,110,115])else(bif B i 144 then[111,114,100,101,114]else[111,114,100,101,114,95,111,102]))else(bif B i 147 then(bif B i 146 then[112,97,100]else[112,97,105,114])else[112,97,114,116,95,112,108,97,99,101])))else(bif B i 155 then(bif B i 152 then(bif B i 150 then(bif B i 149 then[112,108,97,99,101]else[112,108,97,99,101,95,111,102])else(bif B i 151 then[112,108,97,99,101,115]else[112,108,97,105,110,95,101,120,112,114,101,115,115,105,111,110,115]))else(bif B i 154 then(bif B i 153 then[112,111,111,108]else[112,111,112])else[114,97,110,103,101]))else(bif B i 158 then(bif B i 157 then(bif B i 156 then[114,101,97,100,95,99,101,108,108]else[114,101,97,108,95,100,105,103,105,116,115])else[114,101,99,107,111,110])else(bif B i 160 then(bif B i 159 then[114,101,108,101,97,115,101]else[114,101,115,117,108,116])else[114,105,103,104,116])))))else(bif B i 188 then(bif B i 175 then(bif B i 168 then(bif B i 165 then(bif B i 163 then(bif B i 162 then[114,111,119]else[114,117,110])else(bif B i 164 then[115,97,118,101,115]else[115,99,114,105,112,116]))else(bif B i 167 then(bif B i 166 then[115,101,97,116]else[115,101,97,116,115])else[115,101,108,102]))else(bif B i 172 then(bif B i 170 then(bif B i 169 then[115,101,116,116,108,101,100,95,100,105,109,115]else[115,105,103,110,115])else(bif B i 171 then[115,112,111,116]else[115,116,97,114,116]))else(bif B i 174 then(bif B i 173 then[115,116,97,116,101,109,101,110,116,115]else[115,116,97,116,105,99,95,112,108,97,99,101,115])else[115,116,97,116,105,99,115])))else(bif B i 182 then(bif B i 179 then(bif B i 177 then(bif B i 176 then[115,116,101,112,115]else[115,116,111,114,101])else(bif B i 178 then[115,116,111,114,101,95,110,117,109,98,101,114]else[115,116,111,114,101,95,116,101,120,116]))else(bif B i 181 then(bif B i 180 then[115,116,114]else[115,116,114,105,100,101])else[115,117,98,95,112,108,97,99,101]))else(bif B i 185 then(bif B i 184 then(bif B i 183 then[115,117,98,115,99,114,105,112,116,115]else[115,121,109,98,111,108])else[115,121,109,98,111,108,115])else(bif B i 187 then(bif B i 186 then[116,97,103]else[116,101,109,112,95,109,97,114,107])else[116,101,109,112,95,112,108,97,99,101]))))else(bif B i 201 then(bif B i 195 then(bif B i 192 then(bif B i 190 then(bif B i 189 then[116,101,120,116]else[116,111,112,95,101,120,112,111,110,101,110,116])else(bif B i 191 then[116,114,101,101]else[116,114,101,101,115]))else(bif B i 194 then(bif B i 193 then[116,117,112,108,101]else[116,117,114,110])else[117,110,105,116]))else(bif B i 198 then(bif B i 197 then(bif B i 196 then[117,110,105,116,95,110,97,109,101]else[117,110,105,116,95,115,105,122,101])else[117,110,105,116,115])else(bif B i 200 then(bif B i 199 then[117,110,105,116,115,95,111,102]else[117,115,101])else[118,97,108,117,101])))else(bif B i 208 then(bif B i 205 then(bif B i 203 then(bif B i 202 then[119,97,121]else[119,105,100,116,104])else(bif B i 204 then[119,111,114,100]else[119,111,114,108,100]))else(bif B i 207 then(bif B i 206 then[120]else[121])else[46,109,95,77,101,109,111,114,121,95,105,110,105,116]))else(bif B i 211 then(bif B i 210 then(bif B i 209 then[46,109,95,77,101,109,111,114,121,95,108,111,97,100]else[46,109,95,77,101,109,111,114,121,95,115,116,111,114,101])else[46,109,95,82,117,110,95,105,110,105,116])else(bif B i 213 then(bif B i 212 then[46,109,95,76,105,109,105,116,115,95,105,110,105,116]else[46,109,95,83,121,109,98,111,108,95,105,110,105,116])else[46,109,95,85,110,105,116,84,114,101,101,95,105,110,105,116])))))))
def oq(i:ak):List Nat:=bif B 215 i then[0,i]else BQ i
def an(i:ak):aD:=⟨(oq i).toArray⟩
theorem BR:∀i<215,(ph 215).find? (λB=>oq B==oq i)=a i:=by decide+kernel
theorem BS:∀i<215,(oq i).head?≠a 0:=by decide+kernel
theorem rI{i:Nat}(h:¬i<215):oq i=[0,i]:=by
 show cond (B 215 i) [0,i] (BQ i)=_;rw[Nat.ble_eq_true_of_le (wu.mp h)];rfl
theorem pW{Z y:ak}(h:an Z=an y):Z=y:=by
 have h:oq Z=oq y:=by injection h with h;injection h
 by_cases b0:Z<215<;>by_cases E0:y<215
 ·have:=BR Z b0;rw[h,BR y E0]at this;exact(bn this).symm
 ·exact absurd (by rw[h,rI E0];rfl) (BS Z b0)
 ·exact absurd (by rw[<-h,rI b0];rfl) (BS y E0)
 ·rw[rI b0,rI E0]at h;injection h with _ h;injection h
theorem BU{H:aD}(h:(ph 215).all (λi=>!(an i==H))=af)(n0:H.cps.toList.head?≠a 0)(Z:ak):(an Z==H)=av:=by
 by_cases b0:Z<215
 ·have:=gY.mp h Z (List.mem_range.mpr b0)
  revert this;cases(an Z==H)<;>intro q<;>first|rfl|cases q
 ·cases q:(an Z==H)
  ·rfl
  ·have e:an Z=H:=by simpa using q
   refine absurd ?_ n0
   rw[<-e];unfold an;rw[rI b0];rfl
noncomputable abbrev am:=List Nat
noncomputable abbrev am.b(l:am):aD:=⟨l.toArray⟩
set_option genInjectivity true in
inductive A where
 |m
 |o (p:Bool)
 |b (i:Int)
 |c (H:am)
 |e (l:List A)
 |k (l:List A)
 |d (r:Nat)
 |h (I:ak) (r:Nat)
 |g (f:ak)
 |q (T:A)
 deriving Inhabited
noncomputable def A.ctorIdx(T:A):Nat:=by cases T;exact 0;exact 1;exact 2;exact 3;exact 4;exact 5;exact 6;exact 7;exact 8;exact 9
inductive bM where
 |c (l:List A)
 |b (l:List (am×A))
 |d (l:List (Int×A))
noncomputable def bM.ctorIdx(T:bM):Nat:=by cases T;exact 0;exact 1;exact 2
structure j where
 b:Nat
 c:Nat->Option bM
 f:Bool
noncomputable def j.d(C:j)(r:Nat)(o:bM):j:={C with c:=λZ=>if Z=r then a o else C.c Z}
noncomputable def j.lock(C:j)(r:Nat):j:={C with c:=λZ=>if Z=r then ae else C.c Z}
noncomputable def j.e(C:j)(o:bM):j:={C with b:=C.b+1,c:=λZ=>if Z=C.b then a o else C.c Z}
set_option genInjectivity true in
inductive au(c:Type) where
 |b (S:c) (C:j)
 |g (C:j)
 |d
noncomputable def au.ctorIdx{c:Type}(T:au c):Nat:=by cases T;exact 0;exact 1;exact 2
noncomputable def au.e{c s:Type}(f:c->j->au s)(r:au c):au s:=match r with
 |.b S C=>f S C
 |.g C=>.g C
 |.d=>.d
inductive bA where
 |b
 |d
 |c (T:A)
noncomputable def bA.ctorIdx(T:bA):Nat:=by cases T;exact 0;exact 1;exact 2
noncomputable abbrev ah:=ak->Option A
noncomputable def fP{c:Type}(n:Nat)(S p:c):c:=match n with|1=>S|_=>p
noncomputable def hX(y Z:Nat):Nat:=2^y>>>Z
theorem Ka{y Z:Nat}:hX y Z=2^y>>>Z:=rfl
def ah.c(b:ah)(Z:ak)(T:A):ah:=λy=>fP (hX y Z) (a T) (b y)
theorem ah.f{b:ah}{Z:ak}{T:A}{y:ak}:b.c Z T y=fP (hX y Z) (a T) (b y):=rfl
theorem pX{c:Type}{S p:c}(y Z:Nat):fP (hX y Z) S p=if y=Z then S else p:=by
 rw[Ka,Nat.shiftRight_eq_div_pow]
 split
 ·subst_vars;rw[Nat.div_self (Ic _)];rfl
 ·rename_i h
  by_cases k0:y<Z
  ·rw[Nat.div_eq_of_lt (Nat.pow_lt_pow_right (by decide) k0)];rfl
  ·obtain⟨w,e⟩:∃w,y=Z+(w+1):=Nat.exists_eq_add_of_lt (Nat.lt_of_le_of_ne (AC k0) (iJ h))
   subst e
   rw[Nat.pow_add,Nat.mul_div_cancel_left _ (Ic _)]
   obtain⟨a0,e⟩:∃a0,2^(w+1)=a0+2:=⟨(2^w-1)*2,by rw[Nat.pow_succ,<-Nat.succ_mul,Nat.succ_eq_add_one,AD (Ic w)]⟩
   rw[e];rfl
theorem ah.e(b:ah)(Z:ak)(T:A)(y:ak):b.c Z T y=if y=Z then a T else b y:=pX y Z
noncomputable def aX(l:List (am×A))(w:am):Option A:=(l.find? λV=>ba (V.1=w)).map (·.2)
noncomputable def bv(l:List (am×A))(w:am)(T:A):List (am×A):=
 if l.any (λV=>ba (V.1=w))then l.map (λV=>if V.1=w then(V.1,T)else V)else l++[(w,T)]
noncomputable def iy(l:List (Int×A))(w:Int):Option A:=(l.find? λV=>ba (V.1=w)).map (·.2)
mutual
noncomputable def A.t:Nat->A->Bool
 |_,.m=>af
 |_,.o _=>af
 |_,.b _=>af
 |_,.c l=>l.all (λI=>ba (I<128))
 |n,.e l=>match n with|0=>av|n+1=>A.u n l
 |n,.k l=>match n with|0=>av|n+1=>A.u n l
 |_,.d _=>av
 |_,.h _ _=>av
 |_,.g _=>av
 |_,.q _=>av
noncomputable def A.u:Nat->List A->Bool
 |_,[]=>af
 |n,T::X=>A.t n T&&A.u n X
end
mutual
noncomputable def A.w:A->A->Bool
 |.m,.m=>af
 |.o S,.o p=>S==p
 |.o S,.b p=>(if S then 1 else 0)==p
 |.b S,.o p=>S==(if p then 1 else 0)
 |.b S,.b p=>S==p
 |.c S,.c p=>ba (S=p)
 |.e S,.e p=>A.z S p
 |.k S,.k p=>A.z S p
 |_,_=>av
noncomputable def A.z:List A->List A->Bool
 |[],[]=>af
 |S::s,p::a0=>A.w S p&&A.z s a0
 |_,_=>av
end
noncomputable def xj(r:Nat):Option bM->A
 |some (.c l)=>.k l
 |_=>.d r
def jV(C:j):A->A
 |.d r=>xj r (C.c r)
 |T=>T
def fQ(C:j):A->A
 |.e l=>.e (l.map (jV C))
 |T=>jV C T
def rJ(S p:List (am×A)):Bool:=S.length==p.length&&S.all λV=>match aX p V.1 with|some T=>A.w V.2 T|none=>av
def BV:Option bM->Option bM->Option Bool
 |some (.b w),a (.b l)=>if w.all (λV=>A.t 4 V.2)&&l.all (λV=>A.t 4 V.2)then a (rJ w l)else ae
 |some (.c w),a (.c l)=>if A.u 4 w&&A.u 4 l then a (A.z w l)else ae
 |_,_=>ae
def ji(C:j)(S p:A):Option Bool:=match S,p with
 |.b i,.b B=>a (i==B)
 |.c Z,.c y=>a (ba (Z=y))
 |.d r,.d q=>BV (C.c r) (C.c q)
 |S,p=>if A.t 6 (fQ C S)&&A.t 6 (fQ C p)then a (A.w (fQ C S) (fQ C p))else ae
noncomputable def cy(C:j):A->Option Bool
 |.m=>a av
 |.o p=>a p
 |.b i=>a (ba (i≠0))
 |.c l=>if l.length<=100000 then a (!l.isEmpty)else ae
 |.e l=>if l.length<=100000 then a (!l.isEmpty)else ae
 |.k l=>if l.length<=100000 then a (!l.isEmpty)else ae
 |.d r=>match C.c r with|some (.c l)=>if l.length<=100000 then a (!l.isEmpty)else ae|_=>ae
 |_=>ae
set_option genCtorIdx true in
inductive gh where|b|d|c|g|e|f|h
set_option genCtorIdx true in
inductive iz where|b|c|f|g|d|i|e|h
set_option genCtorIdx true in
inductive jW where|b|g|h|e|d|c|f
set_option genCtorIdx true in
inductive hY where|b|c|f|g|d|h|e
inductive ar where
 |c (T:A)
 |Q (i:Int)
 |R (e:ar)
 |b (Z:ak)
 |h (f:ak)
 |C (f:ak) (i:Int)
 |n (e:ar) (S:ak)
 |m (f:ar) (s0:List ar)
 |O (I:ak) (s0:List ar)
 |q (f:jW) (e:ar)
 |y (e:ar) (a0:hY) (s0:List ar)
 |N (e:ar) (a0:ak) (s0:List ar)
 |d (e i:ar)
 |G (e:ar) (t0 f0:Option ar)
 |r (o:gh) (S p:ar)
 |g (o:iz) (S p:ar)
 |E (e:ar)
 |L (e:ar)
 |w (l:List ar)
 |F (l:List ar)
 |H (e:ar)
 |u (I S p:ar)
 |k (l:List ar)
 |M (l:List ar)
 |z
 |s (e0:List am) (X:List ar)
 |U (e0:List (ak×Int)) (X:List ar)
 |t (K0:ar) (Z:ak) (D0:List ak) (m0:ar) (I:List ar)
inductive gO where
 |b (Z:ak)
 |c (y0:List ak)
set_option genCtorIdx true in
inductive ku where|b|c|d
inductive aT where
 |H
 |s
 |m (e:ar)
 |d (Z:ak) (e:ar)
 |F (Z:ak) (e:ar)
 |C (Z:ak) (K0:ar) (y:ak) (D0:List ak) (m0:ar)
 |q (y0:List ak) (e:ar)
 |g (o:ar) (S:ak) (e:ar)
 |l (o i e:ar)
 |u (Z:ak) (o:gh) (e:ar)
 |c (I:ar) (S p:List aT)
 |k (t:gO) (w:ku) (e:ar) (I0:List aT)
 |r (e:ar) (S:ak) (a0:ar) (w:Nat)
 |b (e:ar)
 |L
 |n
 |z (Z:Option ak) (e:ar) (h:List aT)
 |G (I0:List aT) (f:List aT)
 |E
 |M (Z:ak) (I:ak)
noncomputable def tO(I:ak):List ak:=
 bif I==8 then[139,41]else
 bif I==10 then[129,116,198,205,73,173,80,52,176,151,77,42,25,124,143]else
 bif I==7 then[203,157,56,190,176,47,43,52]else
 bif I==13 then[133,108,115,55,200,98,201,44,101]else
 bif I==14 then[108,133,58,62,185,173,78,109,160,45,64,51,164,46]else
 []
def bB(I S:ak):Bool:=(tO I).any λZ=>ba (Z=S)
noncomputable def or(I S:ak):Option ak:=
 bif I==8&&S==120 then a 209 else
 bif I==8&&S==177 then a 210 else
 ae
noncomputable def ky(I:ak):Option ak:=
 bif I==8 then a 208 else
 bif I==10 then a 211 else
 bif I==7 then a 212 else
 bif I==13 then a 213 else
 bif I==14 then a 214 else
 ae
noncomputable abbrev v:=A->List A->j->au A
def ew(C:j)(o:gh)(S p:A):au A:=match o,S,p with
 |.b,.b i,.b B=>.b (.b (i+B)) C
 |.d,.b i,.b B=>.b (.b (i-B)) C
 |.c,.b i,.b B=>if i.natAbs<2^60/\B.natAbs<2^60 then .b (.b (i*B)) C else .d
 |.g,.b i,.b B=>if 0<B/\B<2^30/\i.natAbs<2^300 then .b (.b (km i B)) C else .d
 |.e,.b i,.b B=>if 0<B/\B<2^300 then .b (.b (mr i B)) C else .d
 |.f,.b i,.b B=>if i=10/\B=60 then .b (.b (10^60)) C else .d
 |.h,.b i,.b B=>if i=1/\B=31 then .b (.b (2^31)) C else .d
 |.b,.c Z,.c y=>if Z.length+y.length<=100000 then .b (.c (Z++y)) C else .d
 |.b,.k Z,.k y=>if Z.length+y.length<=100000 then .b (.k (Z++y)) C else .d
 |.c,.k l,.b n=>if 0<=n/\n<=1000/\l.length=1 then .b (.d C.b) (C.e (.c (cq n.toNat l).flatten))else .d
 |.c,.c Z,.b n=>if -1000<=n/\n<=1000/\Z.length<=100 then .b (.c (cq n.toNat Z).flatten) C else .d
 |_,_,_=>.d
def BW:Option bM->A->Option Bool
 |some (.b l),.c w=>a (aX l w).isSome
 |some (.d l),.b w=>a (iy l w).isSome
 |_,_=>ae
def mF(C:j)(S p:A):Option Bool:=match p with
 |.e l=>if A.u 4 l&&A.t 4 S then a (l.any λy=>A.w y S)else ae
 |.k l=>if A.u 4 l&&A.t 4 S then a (l.any λy=>A.w y S)else ae
 |.d r=>BW (C.c r) S
 |_=>ae
def cC(C:j)(o:iz)(S p:A):Option Bool:=match o with
 |.b=>ji C S p
 |.c=>(ji C S p).map (!·)
 |.e=>mF C S p
 |.h=>(mF C S p).map (!·)
 |.f=>match S,p with|.b i,.b B=>a (ba (i<B))|_,_=>ae
 |.g=>match S,p with|.b i,.b B=>a (ba (i<=B))|_,_=>ae
 |.d=>match S,p with|.b i,.b B=>a (ba (i>B))|_,_=>ae
 |.i=>match S,p with|.b i,.b B=>a (ba (i>=B))|_,_=>ae
def BX(w:Int):Option bM->Option A
 |some (.c l)=>if 0<=w/\w<2^60 then l[w.toNat]? else ae
 |some (.d l)=>iy l w
 |_=>ae
def BY(w:am):Option bM->Option A
 |some (.b l)=>aX l w
 |_=>ae
def cz(C:j)(S i:A):Option A:=match S,i with
 |.e l,.b w=>if 0<=w/\w<2^60 then l[w.toNat]? else ae
 |.k l,.b w=>if 0<=w/\w<2^60 then l[w.toNat]? else ae
 |.c l,.b w=>if 0<=w/\w<2^60 then(l[w.toNat]?).map λI=>A.c [I]else ae
 |.d r,.b w=>BX w (C.c r)
 |.d r,.c w=>BY w (C.c r)
 |_,_=>ae
noncomputable def eK{c:Type}(l:List c)(t0 f0:Option Int):List c:=
 (match f0 with|some h=>l.take h.toNat|none=>l).drop (match t0 with|some w=>w.toNat|none=>0)
noncomputable def fR(Z:Option Int):Bool:=match Z with|some w=>ba (0<=w)&&ba (w<2^60)|none=>af
def BZ(t0 f0:Option Int):Option bM->Option A
 |some (.c l)=>if l.length<=100000 then a (.k (eK l t0 f0))else ae
 |_=>ae
noncomputable def fx(C:j)(S:A)(t0 f0:Option Int):Option A:=
 if fR t0&&fR f0 then
  match S with
  |.k l=>if l.length<=100000 then a (.k (eK l t0 f0))else ae
  |.c l=>if l.length<=100000 then a (.c (eK l t0 f0))else ae
  |.d r=>BZ t0 f0 (C.c r)
  |_=>ae
 else ae
noncomputable def kz:List A->List (am×A)->Option (List (am×A))
 |[],P=>a P
 |.e [.c w,T]::r,P=>kz r (bv P w T)
 |_::_,_=>ae
def cK(C:j)(f:jW)(S:A):au A:=match f,S with
 |.b,.e l=>if l.length<=100000 then .b (.b l.length) C else .d
 |.b,.k l=>if l.length<=100000 then .b (.b l.length) C else .d
 |.b,.c l=>if l.length<=100000 then .b (.b l.length) C else .d
 |.b,.d r=>(match C.c r with|some (.c l)=>if l.length<=100000 then .b (.b l.length) C else .d|_=>.d)
 |.g,.b i=>.b (.b i.natAbs) C
 |.h,.d r=>(match C.c r with|some (.c l)=>if l.length<=100000 then .b (.d C.b) (C.e (.c l))else .d|_=>.d)
 |.e,.d r=>(match C.c r with|some (.c l)=>if l.length<=100000 then .b (.e l) C else .d|_=>.d)
 |.d,.k l=>if l.length<=1000 then(match kz l []with|some o0=>.b (.d C.b) (C.e (.b o0))|none=>.d)else .d
 |.d,.d r=>(match C.c r with|some (.b l)=>if l.length<=1000 then .b (.d C.b) (C.e (.b l))else .d|_=>.d)
 |.c,.e _=>.b (.o af) C
 |.c,.c _=>.b (.o av) C
 |.c,.m=>.b (.o av) C
 |.f,.e _=>.b (.o av) C
 |.f,.c _=>.b (.o af) C
 |.f,.m=>.b (.o av) C
 |_,_=>.d
noncomputable def kA:List A->Option (List am)
 |[]=>a []
 |.c Z::r=>(kA r).map (Z::·)
 |_::_=>ae
def ey(C:j)(a0:hY)(S:A)(s0:List A):au A:=match a0 with
 |.b=>(match s0,S with|[T],.d r=>(match C.c r with|some (.c l)=>if l.length<=100000 then .b .m (C.d r (.c (l++[T])))else .d|_=>.d)|_,_=>.d)
 |.g=>(match s0,S with|[.k w],.d r=>(match C.c r with|some (.c l)=>if l.length+w.length<=100000 then .b .m (C.d r (.c (l++w)))else .d|_=>.d)|_,_=>.d)
 |.c=>(match s0,S with|[],.d r=>(match C.c r with|some (.c l)=>(match l.getLast? with|some T=>if l.length<=100000 then .b T (C.d r (.c l.dropLast))else .d|none=>.d)|_=>.d)|_,_=>.d)
 |.f=>(match s0,S with|[.b i],.d r=>(match C.c r with|some (.c l)=>(match l with|T::G0=>if l.length<=100000/\i=0 then .b T (C.d r (.c G0))else .d|[]=>.d)|_=>.d)|_,_=>.d)
 |.d=>(match s0,S with|[.c w],.d r=>(match C.c r with|some (.b l)=>.b ((aX l w).getD .m) C|_=>.d)|_,_=>.d)
 |.h=>(match s0,S with|[.k l],.c y=>if l.length<=1000/\y=[]then(match kA l with|some I0=>if I0.flatten.length<=100000 then .b (.c I0.flatten) C else .d|none=>.d)else .d|_,_=>.d)
 |.e=>(match s0,S with|[.b n],.c Z=>if 0<=n/\n<=1000 then .b (.c (Z++cq (n.toNat-Z.length) 32)) C else .d|_,_=>.d)
noncomputable def Ca(o:Option bM)(a0:hY):Bool:=match o with
 |some (.b _)=>(match a0 with|.d=>af|_=>av)
 |some (.c _)=>(match a0 with|.b=>af|.c=>af|.f=>af|.g=>af|_=>av)
 |_=>av
def ln(C:j)(a0:hY)(T:A):Bool:=match T with
 |.c _=>(match a0 with|.h=>af|.e=>af|_=>av)
 |.d r=>Ca (C.c r) a0
 |_=>av
noncomputable def Cb(r:Nat):Option bM->Option (List A×Option Nat)
 |some (.c l)=>a (l,a r)
 |some (.b l)=>a (l.map (λV=>.c V.1),a r)
 |_=>ae
def eL(C:j)(w:ku)(T:A):Option (List A×Option Nat):=match w,T with
 |.b,.k l=>a (l,ae)
 |.b,.e l=>a (l,ae)
 |.b,.d r=>Cb r (C.c r)
 |.c,.b n=>if -100000<=n/\n<=100000 then a ((ph n.toNat).map λ(i:Nat)=>.b i,ae)else ae
 |.d,.d r=>(match C.c r with
    |some (.b l)=>a (l.map (λV=>.e [.c V.1,V.2]),a r)
    |_=>ae)
 |_,_=>ae
def hZ{c:Type}(C:j)(O0:Option Nat)(v:j->au c):au c:=match O0 with
 |none=>v C
 |some r=>match C.c r with
  |none=>.d
  |some s0=>match v (C.lock r)with
   |.b S O=>.b S (O.d r s0)
   |.g O=>.g (O.d r s0)
   |.d=>.d
noncomputable def fD:List ak->List A->ah->Option ah
 |[],[],b=>a b
 |Z::y0,T::X,b=>fD y0 X (b.c Z T)
 |_,_,_=>ae
noncomputable def ot(B:j):A->Option (List A)
 |.e l=>a l
 |_=>ae
def kC(C:j)(t:gO)(T:A)(b:ah):Option ah:=match t with
 |.b Z=>a (b.c Z T)
 |.c y0=>match T with|.e l=>fD y0 l b|_=>ae
noncomputable def ch(I0:A->ah->j->au (bA×ah)):List A->ah->j->au (bA×ah)
 |[],b,C=>.b (.b,b) C
 |T::X,b,C=>match I0 T b C with
  |.b (.c r,o0) O=>.b (.c r,o0) O
  |.b (_,o0) O=>ch I0 X o0 O
  |.g O=>.g O
  |.d=>.d
noncomputable def bX(K0:A->j->au (Option A)):List A->j->au (List A)
 |[],C=>.b [] C
 |T::X,C=>match K0 T C with
  |.b o O=>(match bX K0 X O with
     |.b l g1=>.b (o.toList++l) g1
     |_=>.d)
  |_=>.d
noncomputable def ah.d(b:ah)(D0:List ak)(Z:ak)(T:A):ah:=λy=>if y=Z then a T else if y∈D0 then b y else ae
noncomputable def jD:A->Option (Option Int)
 |.m=>a ae
 |.b i=>a (a i)
 |_=>ae
mutual
noncomputable def ag(c:v):ar->ah->j->au A
 |.c T,_,C=>.b T C
 |.Q i,_,C=>.b (.b (-i)) C
 |.R e,b,C=>(ag c e b C).e λT C=>match T with|.b i=>.b (.b (-i)) C|_=>.d
 |.b Z,b,C=>match b Z with|some T=>.b T C|none=>.d
 |.h f,_,C=>.b (.g f) C
 |.C _ i,_,C=>.b (.b i) C
 |.n e S,b,C=>(ag c e b C).e λT C=>match T with
    |.h I r=>if bB I S then(match C.c r with
       |some (.b l)=>(match aX l (an S).cps.toList with|some Z=>.b Z C|none=>.d)
       |_=>.d)else .d
    |_=>.d
 |.m f s0,b,C=>(ag c f b C).e λq C=>(bH c s0 b C).e λX C=>c q X C
 |.O I s0,b,C=>(bH c s0 b C).e λX C=>match ky I with
    |some f=>(c (.g f) (.h I C.b::X) (C.e (.b []))).e λr O=>(match r with|.m=>.b (.h I C.b) O|_=>.d)
    |none=>.d
 |.q f e,b,C=>(ag c e b C).e λT C=>cK C f T
 |.y e a0 s0,b,C=>(ag c e b C).e λT C=>if ln C a0 T then(bH c s0 b C).e λX C=>ey C a0 T X else .d
 |.N e S s0,b,C=>(ag c e b C).e λT C=>match T with
    |.h I r=>(match or I S,C.c r with
       |some f,a (.b l)=>if(aX l (an S).cps.toList).isSome then .d else(bH c s0 b C).e λX C=>c (.g f) (T::X) C
       |_,_=>.d)
    |_=>.d
 |.d e i,b,C=>(ag c e b C).e λT C=>(ag c i b C).e λw C=>match cz C T w with
    |some Z=>.b Z C
    |none=>.d
 |.G e t0 f0,b,C=>(ag c e b C).e λT C=>(gj c t0 b C).e λS C=>(gj c f0 b C).e λp C=>match jD S,jD p with
    |some Z,a y=>(match fx C T Z y with|some r=>.b r C|none=>.d)
    |_,_=>.d
 |.r o S p,b,C=>(ag c S b C).e λZ C=>(ag c p b C).e λy C=>ew C o Z y
 |.g o S p,b,C=>(ag c S b C).e λZ C=>(ag c p b C).e λy C=>match cC C o Z y with
    |some r=>.b (.o r) C
    |none=>.d
 |.E e,b,C=>(ag c e b C).e λT C=>.b (.o (match T with|.m=>af|_=>av)) C
 |.L e,b,C=>(ag c e b C).e λT C=>.b (.o (match T with|.m=>av|_=>af)) C
 |.w l,b,C=>gC c l b C
 |.F l,b,C=>gD c l b C
 |.H e,b,C=>(ag c e b C).e λT C=>match cy C T with|some p=>.b (.o (!p)) C|none=>.d
 |.u I S p,b,C=>(bJ c I b C).e λt C=>if t then ag c S b C else ag c p b C
 |.k l,b,C=>(bH c l b C).e λX C=>.b (.e X) C
 |.M l,b,C=>(bH c l b C).e λX C=>.b (.k X) C
 |.z,_,C=>.b (.d C.b) (C.e (.c []))
 |.s e0 X,b,C=>(bH c X b C).e λy0 C=>if y0.length=e0.length then .b (.d C.b) (C.e (.b (e0.zip y0)))else .d
 |.U e0 X,b,C=>(bH c X b C).e λy0 C=>if y0.length=e0.length then .b (.d C.b) (C.e (.d ((e0.map (·.2)).zip y0)))else .d
 |.t K0 Z D0 m0 I,b,C=>(ag c m0 b C).e λT C=>match eL C .b T with
    |some (l,O0)=>(hZ C O0 (bX (λT C=>(di c I (b.d D0 Z T) C).e λt C=>
      if t then(ag c K0 (b.d D0 Z T) C).e λr C=>.b (a r) C else .b ae C) l)).e λy0 C=>if l.length<=1000 then .b (.k y0) C else .d
    |none=>.d
noncomputable def bJ(c:v):ar->ah->j->au Bool
 |.H e,b,C=>(bJ c e b C).e λp C=>.b (!p) C
 |.w l,b,C=>di c l b C
 |.F l,b,C=>ic c l b C
 |.g o S p,b,C=>(ag c S b C).e λZ C=>(ag c p b C).e λy C=>match cC C o Z y with
    |some r=>.b r C
    |none=>.d
 |.E e,b,C=>(ag c e b C).e λT C=>.b (match T with|.m=>af|_=>av) C
 |.L e,b,C=>(ag c e b C).e λT C=>.b (match T with|.m=>av|_=>af) C
 |.b Z,b,C=>match b Z with
    |some T=>(match cy C T with|some p=>.b p C|none=>.d)
    |none=>.d
 |.m f s0,b,C=>(ag c f b C).e λq C=>(bH c s0 b C).e λX C=>(c q X C).e λT C=>match cy C T with
    |some p=>.b p C
    |none=>.d
 |.q f e,b,C=>(ag c e b C).e λT C=>(cK C f T).e λT C=>match cy C T with
    |some p=>.b p C
    |none=>.d
 |.n e S,b,C=>(ag c e b C).e λT C=>match T with
    |.h I r=>if bB I S then(match C.c r with
       |some (.b l)=>(match aX l (an S).cps.toList with
         |some Z=>(match cy C Z with|some p=>.b p C|none=>.d)
         |none=>.d)
       |_=>.d)else .d
    |_=>.d
 |_,_,_=>.d
noncomputable def di(c:v):List ar->ah->j->au Bool
 |[],_,C=>.b af C
 |e::r,b,C=>(bJ c e b C).e λp C=>if p then di c r b C else .b av C
noncomputable def ic(c:v):List ar->ah->j->au Bool
 |[],_,C=>.b av C
 |e::r,b,C=>(bJ c e b C).e λp C=>if p then .b af C else ic c r b C
noncomputable def gC(c:v):List ar->ah->j->au A
 |[],_,_=>.d
 |[e],b,C=>ag c e b C
 |e::r,b,C=>(ag c e b C).e λT C=>match cy C T with
   |some af=>gC c r b C
   |some av=>.b T C
   |none=>.d
noncomputable def gD(c:v):List ar->ah->j->au A
 |[],_,_=>.d
 |[e],b,C=>ag c e b C
 |e::r,b,C=>(ag c e b C).e λT C=>match cy C T with
   |some av=>gD c r b C
   |some af=>.b T C
   |none=>.d
noncomputable def gj(c:v):Option ar->ah->j->au A
 |none,_,C=>.b .m C
 |some e,b,C=>ag c e b C
noncomputable def bH(c:v):List ar->ah->j->au (List A)
 |[],_,C=>.b [] C
 |e::r,b,C=>(ag c e b C).e λT C=>(bH c r b C).e λX C=>.b (T::X) C
end
def pY(C:j)(r:Nat)(l:List A)(a0:Int):j:=C.d r (.c (l.take a0.toNat))
noncomputable def gQ(c:v):v:=λf X C=>match f with
 |.g r0=>bif r0==20 then c f X C else .d
 |_=>.d
mutual
noncomputable def bb(c:v):aT->ah->j->au (bA×ah)
 |.H,b,C=>.b (.b,b) C
 |.s,_,_=>.d
 |.E,b,C=>.b (.d,b) C
 |.m e,b,C=>(ag c e b C).e λT C=>match T with|.m=>.b (.b,b) C|.b _=>.b (.b,b) C|_=>.d
 |.d Z e,b,C=>(ag c e b C).e λT C=>.b (.b,b.c Z T) C
 |.F Z e,b,C=>(ag c e b C).e λT C=>match b Z with
    |none=>.b (.b,b.c Z T) C
    |some _=>.d
 |.C Z K0 y D0 m0,b,C=>(ag c m0 b C).e λT C=>match T,b Z with
    |.k l,ae=>(bX (λT C=>(di c [] (b.d D0 y T) C).e λt C=>if t then(ag c K0 (b.d D0 y T) C).e λr C=>.b (a r) C else .b ae C) l C).e λy0 C=>
       if l.length<=1000 then .b (.b,b.c Z (.d C.b)) (C.e (.c y0))else .d
    |_,_=>.d
 |.q y0 e,b,C=>(ag c e b C).e λT C=>match ot C T with
    |some l=>(match fD y0 l b with|some o0=>.b (.b,o0) C|none=>.d)
    |none=>.d
 |.g o S e,b,C=>(ag c e b C).e λT C=>(ag c o b C).e λg C=>match g with
    |.h I r=>if bB I S then(match C.c r with
       |some (.b l)=>if l.length<=100 then .b (.b,b) (C.d r (.b (bv l (an S).cps.toList T)))else .d
       |_=>.d)else .d
    |_=>.d
 |.l o i e,b,C=>(ag c e b C).e λT C=>(ag c o b C).e λg C=>(ag c i b C).e λw C=>match g,w with
    |.d r,.b w=>(match C.c r with
       |some (.c l)=>if 0<=w/\w<l.length/\l.length<=100000 then .b (.b,b) (C.d r (.c (l.set w.toNat T)))else .d
       |_=>.d)
    |.d r,.c w=>(match C.c r with
       |some (.b l)=>if l.length<=1000 then .b (.b,b) (C.d r (.b (bv l w T)))else .d
       |_=>.d)
    |_,_=>.d
 |.u Z o e,b,C=>match b Z with
    |some (.b i)=>(ag c e b C).e λT C=>(match T with
      |.b _=>(ew C o (.b i) T).e λr C=>.b (.b,b.c Z r) C
      |_=>.d)
    |_=>.d
 |.c I S p,b,C=>(bJ c I b C).e λt C=>if t then aO c S b C else aO c p b C
 |.k t w e I0,b,C=>(ag c e b C).e λT C=>match eL C w T with
    |some (l,O0)=>hZ C O0 (ch (λT b C=>match kC C t T b with
      |some o0=>aO c I0 o0 C
      |none=>.d) l b)
    |none=>.d
 |.r e S a0 w,b,C=>match ag c (.n e S) b C,ag c a0 b C with
    |.b (.d r) _,.b (.e u) _=>(match C.c r,u[w]? with
       |some (.c l),a (.b n)=>if 0<=n/\l.length<=1000 then .b (.b,b) (pY C r l n)else .d
       |_,_=>.d)
    |_,_=>.d
 |.b e,b,C=>(ag c e b C).e λT C=>.b (.c T,b) C
 |.L,b,C=>.b (.c .m,b) C
 |.n,_,C=>.g C
 |.z Z e h,b,C=>match ag c e b C with
    |.b T O=>.b (.b,match Z with|some y=>b.c y T|none=>b) O
    |.g O=>aO (gQ c) h b O
    |.d=>.d
 |.G I0 f,b,C=>match aO c I0 b C with
    |.b (.c T,o0) O=>(match aO c f o0 O with
       |.b (.b,F) g1=>.b (.c T,F) g1
       |_=>.d)
    |_=>.d
 |.M Z I,b,C=>match C.f,b I with
    |false,a T=>.b (.b,b.c Z (.q T)) {C with f:=af}
    |_,_=>.d
noncomputable def aO(c:v):List aT->ah->j->au (bA×ah)
 |[],b,C=>.b (.b,b) C
 |H::r,b,C=>match bb c H b C with
  |.b (.b,o0) O=>aO c r o0 O
  |Z=>Z
end
structure iA where
 b:List ak
 d:List A:=[]
 c:List aT
def ie(Z0:List ak)(C:List A)(X:List A):Option ah:=
 if Z0.length=X.length+C.length then fD Z0 (X++C) (λ_=>ae)else ae
end Mine.Internal
namespace Mine.Internal
set_option smartUnfolding false in
theorem rK:ag c (.c T) b C=(.b T C):=rfl
set_option smartUnfolding false in
theorem Kb:ag c (.Q i) b C=(.b (.b (-i)) C):=rfl
set_option smartUnfolding false in
theorem Kc:ag c (.R e) b C=((ag c e b C).e λT C=>match T with|.b i=>.b (.b (-i)) C|_=>.d):=rfl
set_option smartUnfolding false in
theorem mG:ag c (.b Z) b C=(match b Z with|some T=>.b T C|none=>.d):=rfl
set_option smartUnfolding false in
theorem xl:ag c (.h f) b C=(.b (.g f) C):=rfl
set_option smartUnfolding false in
theorem Kd:ag c (.C w1 i) b C=(.b (.b i) C):=rfl
set_option smartUnfolding false in
theorem pZ:ag c (.n e S) b C=((ag c e b C).e λT C=>match T with
 |.h I r=>if bB I S then(match C.c r with
    |some (.b l)=>(match aX l (an S).cps.toList with|some Z=>.b Z C|none=>.d)
    |_=>.d)else .d
 |_=>.d):=rfl
set_option smartUnfolding false in
theorem Cc:ag c (.m f s0) b C=((ag c f b C).e λq C=>(bH c s0 b C).e λX C=>c q X C):=rfl
set_option smartUnfolding false in
theorem Ke:ag c (.O I s0) b C=((bH c s0 b C).e λX C=>match ky I with
 |some f=>(c (.g f) (.h I C.b::X) (C.e (.b []))).e λr O=>(match r with|.m=>.b (.h I C.b) O|_=>.d)
 |none=>.d):=rfl
set_option smartUnfolding false in
theorem rL:ag c (.q f e) b C=((ag c e b C).e λT C=>cK C f T):=rfl
set_option smartUnfolding false in
theorem Cd:ag c (.y e a0 s0) b C=((ag c e b C).e λT C=>if ln C a0 T then(bH c s0 b C).e λX C=>ey C a0 T X else .d):=rfl
set_option smartUnfolding false in
theorem Kf:ag c (.N e S s0) b C=((ag c e b C).e λT C=>match T with
 |.h I r=>(match or I S,C.c r with
    |some f,a (.b l)=>if(aX l (an S).cps.toList).isSome then .d else(bH c s0 b C).e λX C=>c (.g f) (T::X) C
    |_,_=>.d)
 |_=>.d):=rfl
set_option smartUnfolding false in
theorem Ce:ag c (.d e i) b C=((ag c e b C).e λT C=>(ag c i b C).e λw C=>match cz C T w with
 |some Z=>.b Z C
 |none=>.d):=rfl
set_option smartUnfolding false in
theorem Kg:ag c (.G e t0 f0) b C=((ag c e b C).e λT C=>(gj c t0 b C).e λS C=>(gj c f0 b C).e λp C=>match jD S,jD p with
 |some Z,a y=>(match fx C T Z y with|some r=>.b r C|none=>.d)
 |_,_=>.d):=rfl
set_option smartUnfolding false in
theorem Kh:ag c (.r o S p) b C=((ag c S b C).e λZ C=>(ag c p b C).e λy C=>ew C o Z y):=rfl
set_option smartUnfolding false in
theorem Ki:ag c (.g o S p) b C=((ag c S b C).e λZ C=>(ag c p b C).e λy C=>match cC C o Z y with
 |some r=>.b (.o r) C
 |none=>.d):=rfl
set_option smartUnfolding false in
theorem Kj:ag c (.E e) b C=((ag c e b C).e λT C=>.b (.o (match T with|.m=>af|_=>av)) C):=rfl
set_option smartUnfolding false in
theorem Kk:ag c (.L e) b C=((ag c e b C).e λT C=>.b (.o (match T with|.m=>av|_=>af)) C):=rfl
set_option smartUnfolding false in
theorem Kl:ag c (.w l) b C=(gC c l b C):=rfl
set_option smartUnfolding false in
theorem Km:ag c (.F l) b C=(gD c l b C):=rfl
set_option smartUnfolding false in
theorem Kn:ag c (.H e) b C=((ag c e b C).e λT C=>match cy C T with|some p=>.b (.o (!p)) C|none=>.d):=rfl
set_option smartUnfolding false in
theorem Ko:ag c (.u I S p) b C=((bJ c I b C).e λt C=>if t then ag c S b C else ag c p b C):=rfl
set_option smartUnfolding false in
theorem Kp:ag c (.k l) b C=((bH c l b C).e λX C=>.b (.e X) C):=rfl
set_option smartUnfolding false in
theorem Kq:ag c (.M l) b C=((bH c l b C).e λX C=>.b (.k X) C):=rfl
set_option smartUnfolding false in
theorem Kr:ag c (.z) b C=(.b (.d C.b) (C.e (.c []))):=rfl
set_option smartUnfolding false in
theorem Cf:ag c (.s e0 X) b C=((bH c X b C).e λy0 C=>if y0.length=e0.length then .b (.d C.b) (C.e (.b (e0.zip y0)))else .d):=rfl
set_option smartUnfolding false in
theorem Ks:ag c (.U e0 X) b C=((bH c X b C).e λy0 C=>if y0.length=e0.length then .b (.d C.b) (C.e (.d ((e0.map (·.2)).zip y0)))else .d):=rfl
set_option smartUnfolding false in
theorem Ku:ag c (.t K0 Z D0 m0 I) b C=((ag c m0 b C).e λT C=>match eL C .b T with
 |some (l,O0)=>(hZ C O0 (bX (λT C=>(di c I (b.d D0 Z T) C).e λt C=>
   if t then(ag c K0 (b.d D0 Z T) C).e λr C=>.b (a r) C else .b ae C) l)).e λy0 C=>if l.length<=1000 then .b (.k y0) C else .d
 |none=>.d):=rfl
set_option smartUnfolding false in
theorem Kv:bJ c (.H e) b C=((bJ c e b C).e λp C=>.b (!p) C):=rfl
set_option smartUnfolding false in
theorem Kw:bJ c (.w l) b C=(di c l b C):=rfl
set_option smartUnfolding false in
theorem Kx:bJ c (.F l) b C=(ic c l b C):=rfl
set_option smartUnfolding false in
theorem Cg:bJ c (.g o S p) b C=((ag c S b C).e λZ C=>(ag c p b C).e λy C=>match cC C o Z y with
 |some r=>.b r C
 |none=>.d):=rfl
set_option smartUnfolding false in
theorem Ky:bJ c (.E e) b C=((ag c e b C).e λT C=>.b (match T with|.m=>af|_=>av) C):=rfl
set_option smartUnfolding false in
theorem Kz:bJ c (.L e) b C=((ag c e b C).e λT C=>.b (match T with|.m=>av|_=>af) C):=rfl
set_option smartUnfolding false in
theorem KA:bJ c (.b Z) b C=(match b Z with
 |some T=>(match cy C T with|some p=>.b p C|none=>.d)
 |none=>.d):=rfl
set_option smartUnfolding false in
theorem KB:bJ c (.m f s0) b C=((ag c f b C).e λq C=>(bH c s0 b C).e λX C=>(c q X C).e λT C=>match cy C T with
 |some p=>.b p C
 |none=>.d):=rfl
set_option smartUnfolding false in
theorem KC:bJ c (.q f e) b C=((ag c e b C).e λT C=>(cK C f T).e λT C=>match cy C T with
 |some p=>.b p C
 |none=>.d):=rfl
set_option smartUnfolding false in
theorem KD:bJ c (.n e S) b C=((ag c e b C).e λT C=>match T with
 |.h I r=>if bB I S then(match C.c r with
    |some (.b l)=>(match aX l (an S).cps.toList with
      |some Z=>(match cy C Z with|some p=>.b p C|none=>.d)
      |none=>.d)
    |_=>.d)else .d
 |_=>.d):=rfl
set_option smartUnfolding false in
theorem xm:di c ([]) b C=(.b af C):=rfl
set_option smartUnfolding false in
theorem Ch:di c (e::r) b C=((bJ c e b C).e λp C=>if p then di c r b C else .b av C):=rfl
set_option smartUnfolding false in
theorem KE:ic c ([]) b C=(.b av C):=rfl
set_option smartUnfolding false in
theorem KF:ic c (e::r) b C=((bJ c e b C).e λp C=>if p then .b af C else ic c r b C):=rfl
set_option smartUnfolding false in
theorem KG:gC c ([e]) b C=(ag c e b C):=rfl
set_option smartUnfolding false in
theorem KH:gC c (e::e2::r) b C=((ag c e b C).e λT C=>match cy C T with
 |some af=>gC c (e2::r) b C
 |some av=>.b T C
 |none=>.d):=rfl
set_option smartUnfolding false in
theorem KI:gD c ([e]) b C=(ag c e b C):=rfl
set_option smartUnfolding false in
theorem KJ:gD c (e::e2::r) b C=((ag c e b C).e λT C=>match cy C T with
 |some av=>gD c (e2::r) b C
 |some af=>.b T C
 |none=>.d):=rfl
set_option smartUnfolding false in
theorem KL:gj c (ae) b C=(.b .m C):=rfl
set_option smartUnfolding false in
theorem KM:gj c (a e) b C=(ag c e b C):=rfl
set_option smartUnfolding false in
theorem tP:bH c ([]) b C=(.b [] C):=rfl
set_option smartUnfolding false in
theorem xn:bH c (e::r) b C=((ag c e b C).e λT C=>(bH c r b C).e λX C=>.b (T::X) C):=rfl
set_option smartUnfolding false in
theorem KN:bb c (.H) b C=(.b (.b,b) C):=rfl
set_option smartUnfolding false in
theorem KO:bb c (.s) b C=(.d):=rfl
set_option smartUnfolding false in
theorem KP:bb c (.E) b C=(.b (.d,b) C):=rfl
set_option smartUnfolding false in
theorem KQ:bb c (.m e) b C=((ag c e b C).e λT C=>match T with|.m=>.b (.b,b) C|.b _=>.b (.b,b) C|_=>.d):=rfl
set_option smartUnfolding false in
theorem Ci:bb c (.d Z e) b C=((ag c e b C).e λT C=>.b (.b,b.c Z T) C):=rfl
set_option smartUnfolding false in
theorem KR:bb c (.F Z e) b C=((ag c e b C).e λT C=>match b Z with
 |none=>.b (.b,b.c Z T) C
 |some _=>.d):=rfl
set_option smartUnfolding false in
theorem KS:bb c (.C Z K0 y D0 m0) b C=((ag c m0 b C).e λT C=>match T,b Z with
 |.k l,ae=>(bX (λT C=>(di c [] (b.d D0 y T) C).e λt C=>if t then(ag c K0 (b.d D0 y T) C).e λr C=>.b (a r) C else .b ae C) l C).e λy0 C=>
    if l.length<=1000 then .b (.b,b.c Z (.d C.b)) (C.e (.c y0))else .d
 |_,_=>.d):=rfl
set_option smartUnfolding false in
theorem Cj:bb c (.q y0 e) b C=((ag c e b C).e λT C=>match ot C T with
 |some l=>(match fD y0 l b with|some o0=>.b (.b,o0) C|none=>.d)
 |none=>.d):=rfl
set_option smartUnfolding false in
theorem KT:bb c (.g o S e) b C=((ag c e b C).e λT C=>(ag c o b C).e λg C=>match g with
 |.h I r=>if bB I S then(match C.c r with
    |some (.b l)=>if l.length<=100 then .b (.b,b) (C.d r (.b (bv l (an S).cps.toList T)))else .d
    |_=>.d)else .d
 |_=>.d):=rfl
set_option smartUnfolding false in
theorem KU:bb c (.l o i e) b C=((ag c e b C).e λT C=>(ag c o b C).e λg C=>(ag c i b C).e λw C=>match g,w with
 |.d r,.b w=>(match C.c r with
    |some (.c l)=>if 0<=w/\w<l.length/\l.length<=100000 then .b (.b,b) (C.d r (.c (l.set w.toNat T)))else .d
    |_=>.d)
 |.d r,.c w=>(match C.c r with
    |some (.b l)=>if l.length<=1000 then .b (.b,b) (C.d r (.b (bv l w T)))else .d
    |_=>.d)
 |_,_=>.d):=rfl
set_option smartUnfolding false in
theorem KW:bb c (.u Z o e) b C=(match b Z with
 |some (.b i)=>(ag c e b C).e λT C=>(match T with
   |.b _=>(ew C o (.b i) T).e λr C=>.b (.b,b.c Z r) C
   |_=>.d)
 |_=>.d):=rfl
set_option smartUnfolding false in
theorem KY:bb c (.c I S p) b C=((bJ c I b C).e λt C=>if t then aO c S b C else aO c p b C):=rfl
set_option smartUnfolding false in
theorem KZ:bb c (.k t w e I0) b C=((ag c e b C).e λT C=>match eL C w T with
 |some (l,O0)=>hZ C O0 (ch (λT b C=>match kC C t T b with
   |some o0=>aO c I0 o0 C
   |none=>.d) l b)
 |none=>.d):=rfl
set_option smartUnfolding false in
theorem Ck:bb c (.r e S a0 w) b C=(match ag c (.n e S) b C,ag c a0 b C with
 |.b (.d r) _,.b (.e u) _=>(match C.c r,u[w]? with
    |some (.c l),a (.b n)=>if 0<=n/\l.length<=1000 then .b (.b,b) (pY C r l n)else .d
    |_,_=>.d)
 |_,_=>.d):=rfl
set_option smartUnfolding false in
theorem La:bb c (.b e) b C=((ag c e b C).e λT C=>.b (.c T,b) C):=rfl
set_option smartUnfolding false in
theorem Lb:bb c (.L) b C=(.b (.c .m,b) C):=rfl
set_option smartUnfolding false in
theorem Lc:bb c (.n) b C=(.g C):=rfl
set_option smartUnfolding false in
theorem Ld:bb c (.z Z e h) b C=(match ag c e b C with
 |.b T O=>.b (.b,match Z with|some y=>b.c y T|none=>b) O
 |.g O=>aO (gQ c) h b O
 |.d=>.d):=rfl
set_option smartUnfolding false in
theorem Le:bb c (.G I0 f) b C=(match aO c I0 b C with
 |.b (.c T,o0) O=>(match aO c f o0 O with
    |.b (.b,F) g1=>.b (.c T,F) g1
    |_=>.d)
 |_=>.d):=rfl
set_option smartUnfolding false in
theorem Lf:bb c (.M Z I) b C=(match C.f,b I with
 |false,a T=>.b (.b,b.c Z (.q T)) {C with f:=af}
 |_,_=>.d):=rfl
set_option smartUnfolding false in
theorem Lg:aO c ([]) b C=(.b (.b,b) C):=rfl
set_option smartUnfolding false in
theorem xo:aO c (H::r) b C=(match bb c H b C with
 |.b (.b,o0) O=>aO c r o0 O
 |Z=>Z):=rfl
def dQ{c:Type}(M:Nonempty c)(Y:c->Prop):c:= @M8 c M λS=>¬Y S
theorem dS{c:Type}{M:Nonempty c}{Y:c->Prop}(h:Y (dQ M Y))(S:c):Y S:=AB λn=> @N8 c (λS=>¬Y S) ⟨S,n⟩ h
noncomputable def W{c s:Type}(f:c->s->Prop)(V:c×s):Prop:=f V.1 V.2
theorem bY{c s:Type}(S:Nonempty c)(p:Nonempty s):Nonempty (c×s):=let⟨Z⟩:=S;let⟨y⟩:=p;⟨(Z,y)⟩
theorem J{c s:Type}[S:Nonempty c](p:Nonempty s):Nonempty (c×s):=bY S p
theorem dZ:Nonempty j:=⟨⟨0,λ_=>ae,af⟩⟩
theorem Lh:Nonempty ar:=⟨.c .m⟩
theorem rM:Nonempty v:=⟨λ_ _ _=>.d⟩
section
variable{c s:Type}{o:Option c}{S p:c}{I d:s}{H t:j}{Z:au c}{s0:Prop}
theorem be(h:o=a S)(w:o=a p):S=p:=bn (h.symm.trans w)
theorem bD(h:ae=a S):s0:=nomatch h
theorem bR(h:a S=ae):s0:=nomatch h
theorem ig(h:o=ae)(w:o=a S):s0:=bD (h.symm.trans w)
theorem fS(h:o=a S)(w:o=ae):s0:=bR (h.symm.trans w)
theorem qc(h:au.b S H=.b p t):S=p/\H=t:=by cases h;exact⟨rfl,rfl⟩
theorem Cm(h:Z=au.b S H)(w:Z=.b p t):S=p/\H=t:=qc (h.symm.trans w)
theorem xp(h:au.d=.b S H):s0:=nomatch h
theorem Cn(h:au.g t=.b S H):s0:=nomatch h
theorem gR(h:av=af):s0:=nomatch h
theorem xq(h:(S,I)=(p,d)):S=p/\I=d:=by cases h;exact⟨rfl,rfl⟩
end
theorem Li:Nonempty gO:=⟨.b 0⟩
theorem Lj{c:Type}:Nonempty (au c):=⟨.d⟩
theorem Lk{f:A->ah->j->au (bA×ah)}{b:ah}{C:j}:ch f [] b C=.b (.b,b) C:=rfl
theorem Co{f:A->ah->j->au (bA×ah)}{T:A}{X:List A}{b:ah}{C:j}:ch f (T::X) b C=(match f T b C with
 |.b (.c r,o0) O=>.b (.c r,o0) O
 |.b (_,o0) O=>ch f X o0 O
 |.g O=>.g O
 |.d=>.d):=rfl
theorem Cp{f:A->j->au (Option A)}{C:j}:bX f [] C=.b [] C:=rfl
theorem Cq{f:A->j->au (Option A)}{T:A}{X:List A}{C:j}:bX f (T::X) C=(match f T C with
 |.b o O=>(match bX f X O with
    |.b l g1=>.b (o.toList++l) g1
    |_=>.d)
 |_=>.d):=rfl
end Mine.Internal
set_option tactic.hygienic false
namespace Mine.Internal
open PySem PySem.W PyProof.Rows
structure aU where
 b:iK
 c:gZ
 d:aG
 e:ai
 h:dF
 i:aD->Option aj
 m:aD->Option aj
 k:ak->ai
 f:ak->ai
 l:fL->ai->Prop
 g:ai
noncomputable abbrev mH(M:Array aj)(n:Nat):cu:={cls:=aK "tuple",data:=sZ M n}
mutual
noncomputable def aC(k:aU)(D:Nat->Option ai)(F:ai->Prop)(h:aG):A->aj->Prop
 |.m,T=>T=aS
 |.o p,T=>T=eQ p
 |.b i,T=>∃t,T=cI i t
 |.c l,T=>∃t,T=dG l.b t
 |.e l,T=>∃S M n,T=ax S/\h.get? S=a (mH M n)/\aJ k D F h l M.toList
 |.k l,T=>∃S M n,T=ax S/\h.get? S=a (cO M n)/\aJ k D F h l M.toList/\(∀r,D r≠a S)/\¬F S
 |.d r,T=>∃S,T=ax S/\D r=a S
 |.h I r,T=>∃Z d,T=ax Z/\h.get? Z=a (io (k.f I) d)/\D r=a d
 |.g f,T=>T=ax (k.k f)
 |.q m0,T=>∃f o G B j G0,T=ax f/\h.get? f=a o/\o.cls=aK "function"/\o.data=lH G/\k.l G B/\(h.CodeRec G.code G.qualname/\G.code≠ax k.e)/\h.get? B=a j/\j.data=jQ (a G0)/\aC k D F h m0 G0
noncomputable def aJ(k:aU)(D:Nat->Option ai)(F:ai->Prop)(h:aG):List A->List aj->Prop
 |[],X=>X=[]
 |Z::y0,X=>∃T r,X=T::r/\aC k D F h Z T/\aJ k D F h y0 r
end
section
variable{k:aU}{D:Nat->Option ai}{F:ai->Prop}{h:aG}{T:aj}{X:List aj}{Z:A}{y0:List A}
set_option smartUnfolding false in
theorem du:aC k D F h .m T=(T=aS):=rfl
set_option smartUnfolding false in
theorem dv{p:Bool}:aC k D F h (.o p) T=(T=eQ p):=rfl
set_option smartUnfolding false in
theorem dw{i:Int}:aC k D F h (.b i) T=(∃t,T=cI i t):=rfl
set_option smartUnfolding false in
theorem dx{l:am}:aC k D F h (.c l) T=(∃t,T=dG l.b t):=rfl
set_option smartUnfolding false in
theorem dy{l:List A}:aC k D F h (.e l) T=(∃S M n,T=ax S/\h.get? S=a (mH M n)/\aJ k D F h l M.toList):=rfl
set_option smartUnfolding false in
theorem dz{l:List A}:aC k D F h (.k l) T=(∃S M n,T=ax S/\h.get? S=a (cO M n)/\aJ k D F h l M.toList/\(∀r,D r≠a S)/\¬F S):=rfl
set_option smartUnfolding false in
theorem dA{r:Nat}:aC k D F h (.d r) T=(∃S,T=ax S/\D r=a S):=rfl
set_option smartUnfolding false in
theorem dB{I:ak}{r:Nat}:aC k D F h (.h I r) T=(∃Z d,T=ax Z/\h.get? Z=a (io (k.f I) d)/\D r=a d):=rfl
set_option smartUnfolding false in
theorem dC{f:ak}:aC k D F h (.g f) T=(T=ax (k.k f)):=rfl
set_option smartUnfolding false in
theorem dD{m0:A}:aC k D F h (.q m0) T=(∃f o G B j G0,T=ax f/\h.get? f=a o/\o.cls=aK "function"/\o.data=lH G/\k.l G B/\(h.CodeRec G.code G.qualname/\G.code≠ax k.e)/\h.get? B=a j/\j.data=jQ (a G0)/\aC k D F h m0 G0):=rfl
set_option smartUnfolding false in
theorem cA:aJ k D F h [] X=(X=[]):=rfl
set_option smartUnfolding false in
theorem cB:aJ k D F h (Z::y0) X=(∃T r,X=T::r/\aC k D F h Z T/\aJ k D F h y0 r):=rfl
end
noncomputable def bT{g:Type}(k:aU)(D:Nat->Option ai)(F:ai->Prop)(h:aG){b0:Type}(f:b0->g):List (b0×A)->List (g×aj)->Prop
 |[],X=>X=[]
 |Z::y0,X=>∃T r,X=(f Z.1,T)::r/\aC k D F h Z.2 T/\bT k D F h f y0 r
noncomputable def fE(k:aU)(D:Nat->Option ai)(F:ai->Prop)(h:aG)(S:ai):bM->Prop
 |.c l=>∃M n,h.get? S=a (cO M n)/\aJ k D F h l M.toList
 |.b l=>∃o0,h.DictOf (eR k.b k.c) S o0/\bT k D F h am.b l o0
 |.d l=>∃o0,h.DictOf (tb k.b k.c) S o0/\bT k D F h (λi=>i) l o0
noncomputable def jj(C:j)(D:Nat->Option ai)(p:ai):Prop:=∃r,D r=a p/\C.c r≠ae
structure bj(k:aU)(D:Nat->Option ai)(F:ai->Prop)(C:j)(h:aG):Prop where
 t:∀r m S,D r=a S->D m=a S->r=m
 g:∀r S,D r=a S->r<C.b
 s:∀r S,D r=a S->¬F S
 u:∀r S,D r=a S->k.d.get? S=ae
 b:∀r s0,C.c r=a s0->∃S,D r=a S/\fE k D F h S s0
 e:∃Z0,h.get? k.e=a (Ie Z0)/\(C.f=av->Z0= #[])
 c:k.d.StaysIn h
 w:k.d.get? k.e=ae
 d:∀p,F p->h.get? p≠ae
 f:∀r S,D r=a S->h.get? S≠ae
noncomputable def Ll(k:aU)(W0:List ai)(O0:ai->cu->Prop)(C:j)(D:Nat->Option ai)(h u:aG):Prop:=
 ∀p o,h.get? p=a o->¬jj C D p->p≠k.e->¬O0 p o->
  (p∉W0->u.get? p=a o)/\(p∈W0->∃c,u.get? p=a {o with slots:=c})
structure aZ(k:aU)(W0:List ai)(O0:ai->cu->Prop)(C:j)(D:Nat->Option ai)(h:aG)(O:j)(A0:Nat->Option ai)(u:aG):Prop where
 V:Ll k W0 O0 C D h u
 c0:∀r S,D r=a S->A0 r=a S
 i0:∀r S,A0 r=a S->D r=ae->h.get? S=ae
 m0:∀r,r<C.b->C.c r=ae->O.c r=ae
 r0:C.b<=O.b
 g:∀p,u.get? p=ae->h.get? p=ae
theorem bj.y{k:aU}{D F C h}(R:bj k D F C h){p:ai}(n0:jj C D p):
 ∃o,h.get? p=a o/\((o.cls=aK "list"/\∃i n,o.data=sZ i n)\/(o.cls=aK "dict"/\∃t0 n,o.data=eo t0 n)):=by
 refine aA (n0) λr j0 w0=>?_
 generalize x0:C.c r=x9;induction x9 with
 |none=>exact absurd x0 w0
 |some s0=>
  refine aA (R.b r s0 x0) λS v0 B=>?_
  replace v0:=be j0 v0;subst v0
  induction s0 with
  |c l=>refine fw (B) λM n v _=>?_;exact(aw _ v (aL ⟨rfl,_,_,rfl⟩))
  |b l=>refine aA (B) λo0 J0 _=>?_;obtain⟨o,t0,X0,v,b0,z0,_⟩:=J0;exact(aw o v (aI ⟨b0.1,_,_,z0⟩))
  |d l=>refine aA (B) λo0 J0 _=>?_;obtain⟨o,t0,X0,v,b0,z0,_⟩:=J0;exact(aw o v (aI ⟨b0.1,_,_,z0⟩))
noncomputable abbrev lS(O0:ai->cu->Prop)(h:aG):Prop:=∀p o,h.get? p=a o->O0 p o->(∃t0 n,o.data=eo t0 n)\/o.data=jQ ae
noncomputable abbrev lT(W0:List ai)(h:aG):Prop:=∀p∈W0,∀o,h.get? p=a o->∃t0 n,o.data=eo t0 n
noncomputable abbrev bV:ai->cu->Prop:=λ_ _=>False
theorem cM(h:aG):lS bV h:=λ_ _ _ Z=>Z.elim
theorem aZ.D0{k:aU}{W0 O0 C D h O A0 u}{F:ai->Prop}(e:aZ k W0 O0 C D h O A0 u)(R:bj k D F C h)(Q:lS O0 h)(U:lT W0 h){p:ai}{o:cu}(v:h.get? p=a o)(z0:∀t0 n,o.data≠eo t0 n)(e0:o.data≠jQ ae)(k0:o.cls≠aK "list"\/∀i n,o.data≠sZ i n)(f0:p≠k.e):u.get? p=a o:=by
 refine(e.V p o v ?_ f0 ?_).1 ?_
 ·intro n0
  refine aA (R.y n0) λU0 P0 b0=>?_
  replace P0:=be v P0;subst P0
  rcases b0 with⟨b0,i,n,E0⟩|⟨_,t0,n,b0⟩
  ·exact k0.elim (λz=>z b0) λz=>z _ _ E0
  ·exact z0 _ _ b0
 ·intro Z
  rcases Q _ _ v Z with⟨t0,n,q⟩|q
  ·exact z0 _ _ q
  ·exact e0 q
 ·intro W
  refine pT (U _ W _ v) λt0 n q=>?_
  exact z0 _ _ q
theorem xr:aK "tuple"≠aK "list":=by decide
theorem qd(t:String):aK t≠aS:=by intro z;cases z
theorem bj.q{k:aU}{D F C h}(R:bj k D F C h){p:ai}{o:cu}(v:h.get? p=a o)(e0:o.cls≠aS):p≠k.e:=by
 rintro rfl
 refine aA (R.e) λZ0 p0 _=>?_
 replace p0:=be v p0;subst p0
 exact e0 rfl
theorem xt{h u:aG}{g:aj}{q:aD}(Z:h.CodeRec g q)(w:∀I o X t,g=ax I->h.get? I=a o->o.data=bO X->X[1]?=a (dG q t)->u.get? I=a o):u.CodeRec g q:=by
 refine rH (Z) λI o X t e v z0 E=>?_
 exact(iN I o X t e (w I o X t e v z0 E) z0 E)
section
variable{k:aU}{W0:List ai}{O0:ai->cu->Prop}{C O:j}{D A0:Nat->Option ai}{h u:aG}{F:ai->Prop}
structure qe(k:aU)(D A0:Nat->Option ai)(F t:ai->Prop)(h u:aG):Prop where
 b:∀r S,D r=a S->A0 r=a S
 e:∀S M n,h.get? S=a (mH M n)->u.get? S=a (mH M n)
 c:∀S M n,h.get? S=a (cO M n)->(∀r,D r≠a S)->¬F S->u.get? S=a (cO M n)/\(∀r,A0 r≠a S)/\¬t S
 g:∀Z I d,h.get? Z=a (io (k.f I) d)->u.get? Z=a (io (k.f I) d)
 i:∀f o G,h.get? f=a o->o.cls=aK "function"->o.data=lH G->u.get? f=a o
 l:∀G:fL,h.CodeRec G.code G.qualname->G.code≠ax k.e->u.CodeRec G.code G.qualname
 m:∀B j G0,h.get? B=a j->j.data=jQ (a G0)->u.get? B=a j
mutual
theorem aC.g{t:ai->Prop}(w:qe k D A0 F t h u):∀(Z:A)(T:aj),aC k D F h Z T->aC k A0 t u Z T
 |.m,_,q=>q
 |.o _,_,q=>q
 |.b _,_,q=>q
 |.c _,_,q=>q
 |.e l,T,q=>eJ (id q) λS M n e v f0=>(jh S M n e (w.e S M n v) (aJ.h0 w l _ f0))
 |.k l,T,q=>jC (id q) λS M n e v f0 j0 B0=>(dY S M n e ((w.c S M n v j0 B0).1) (aJ.h0 w l _ f0) ((w.c S M n v j0 B0).2))
 |.d r,T,q=>aA (id q) λS e v0=>(aw S e (w.b r S v0))
 |.h I r,T,q=>de (id q) λZ d e v z0=>(bU Z d e (w.g Z I d v) (w.b r d z0))
 |.g _,_,q=>q
 |.q m0,T,q=>by
   refine oj (id q) λf o G B j G0 h1=>?_;refine BM h1 λe v e0 z0 b0 P w0 F0 D0=>?_
   exact(lQ f o G B j G0 ⟨e,w.i f o G v e0 z0,e0,z0,b0,⟨w.l G P.1 P.2,P.2⟩,w.m B j G0 w0 F0,F0,aC.g w m0 _ D0⟩)
theorem aJ.h0{t:ai->Prop}(w:qe k D A0 F t h u):∀(Z:List A)(T:List aj),aJ k D F h Z T->aJ k A0 t u Z T
 |[],_,q=>q
 |Z::y0,T,q=>de (id q) λm0 r e E N=>(bU m0 r e (aC.g w Z _ E) (aJ.h0 w y0 _ N))
end
theorem bT.i{g b0:Type}{f:b0->g}{t:ai->Prop}(w:qe k D A0 F t h u):∀(Z:List (b0×A))(T:List (g×aj)),bT k D F h f Z T->bT k A0 t u f Z T:=by
 intro Z
 induction Z with
 |nil=>exact λ_ q=>q
 |cons Z y0 Y=>exact λT q=>de (id q) λm0 r e E N=>(bU m0 r e (aC.g w _ _ E) (Y _ N))
theorem aZ.J0(e:aZ k W0 O0 C D h O A0 u)(R:bj k D F C h)(Q:lS O0 h)(U:lT W0 h):qe k D A0 F F h u:=by
 refine⟨e.c0,λS M n v=>?_,λS M n v j0 B0=>⟨?_,?_,B0⟩,λZ I d v=>?_,λf o G v e0 z0=>?_,λG P T=>?_,λB j G0 w0 F0=>?_⟩
 ·exact e.D0 R Q U v (by intro _ _ z;cases z) (by intro z;cases z) (aL xr) (R.q v (qd _))
 ·refine(e.V S _ v ?_ (R.q v (qd _)) ?_).1 ?_
  ·rintro⟨r,E,_⟩;exact j0 r E
  ·intro Z
   rcases Q _ _ v Z with⟨t0,b,z⟩|z
   ·cases z
   ·cases z
  ·intro W;refine pT (U _ W _ v) λt0 b z=>?_;cases z
 ·intro r l
  generalize x0:D r=x9;induction x9 with
  |none=>have:=e.i0 r S l x0;exact fS v this
  |some p=>have:=e.c0 r p x0;(replace this:=be l this;subst this);exact j0 r x0
 ·exact e.D0 R Q U v (by intro _ _ z;cases z) (by intro z;cases z) (aL (by intro z;cases z)) (R.q v (by intro z;cases z))
 ·exact e.D0 R Q U v (by rw[z0];intro _ _ z;cases z) (by rw[z0];intro z;cases z) (aL (by rw[e0];decide)) (R.q v (by rw[e0];decide))
 ·refine xt P λI q X t n0 E N _=>?_
  refine e.D0 R Q U E (by rw[N];intro _ _ z;cases z) (by rw[N];intro z;cases z) (aI (by rw[N];intro _ _ z;cases z)) ?_
  rintro rfl
  exact T n0
 ·refine e.D0 R Q U w0 (by rw[F0];intro _ _ z;cases z) (by rw[F0];intro z;cases z) (aI (by rw[F0];intro _ _ z;cases z)) ?_
  rintro rfl
  refine aA (R.e) λZ0 p0 _=>?_
  replace p0:=be w0 p0;subst p0;cases F0
theorem aC.b(e:aZ k W0 O0 C D h O A0 u)(R:bj k D F C h)(Q:lS O0 h)(U:lT W0 h)(Z:A)(T:aj)(q:aC k D F h Z T):aC k A0 F u Z T:=aC.g (e.J0 R Q U) Z T q
theorem aJ.m(e:aZ k W0 O0 C D h O A0 u)(R:bj k D F C h)(Q:lS O0 h)(U:lT W0 h)(Z:List A)(T:List aj)(q:aJ k D F h Z T):aJ k A0 F u Z T:=aJ.h0 (e.J0 R Q U) Z T q
theorem bT.b{g b0:Type}{f:b0->g}(e:aZ k W0 O0 C D h O A0 u)(R:bj k D F C h)(Q:lS O0 h)(U:lT W0 h)(Z:List (b0×A))(T:List (g×aj))(q:bT k D F h f Z T):bT k A0 F u f Z T:=bT.i (e.J0 R Q U) Z T q
theorem aZ.trans{Y0:j}{T0:Nat->Option ai}{P:aG}{J:ai->cu->Prop}(S:aZ k W0 O0 C D h O A0 u)(p:aZ k W0 J O A0 u Y0 T0 P)(R:bj k D F C h)(b0:∀p o c,h.get? p=a o->J p {o with slots:=c}->O0 p o):aZ k W0 O0 C D h Y0 T0 P:=by
 have W:∀p o,h.get? p=a o->¬jj C D p->¬jj O A0 p:=λI o v y0⟨r,j0,w0⟩=>by
  generalize x0:D r=x9;induction x9 with
  |none=>have:=S.i0 r I j0 x0;exact fS v this
  |some d=>
   have z0:=S.c0 r d x0
   replace z0:=be j0 z0;subst z0
   refine w0 (S.m0 r (R.g r I x0) ?_)
   generalize l0:C.c r=x9;induction x9 with
   |none=>rfl
   |some s0=>exact absurd (aw r x0 (by rw[l0];intro z;exact bR z)) y0
 refine⟨λI o v y0 f0 o0=>?_,λr I j0=>p.c0 _ _ (S.c0 _ _ j0),λr I j0 y0=>?_,λr k0 w0=>p.m0 r (aM k0 S.r0) (S.m0 r k0 w0),az S.r0 p.r0,λI e0=>S.g I (p.g I e0)⟩
 ·constructor
  ·intro B0
   have E:=(S.V I o v y0 f0 o0).1 B0
   exact(p.V I o E (W I o v y0) f0 λz=>o0 (b0 I o o.slots v z)).1 B0
  ·intro B0
   obtain⟨c,E⟩:=(S.V I o v y0 f0 o0).2 B0
   obtain⟨A,N⟩:=(p.V I _ E (W I o v y0) f0 λz=>o0 (b0 I o c v z)).2 B0
   exact⟨A,N⟩
 ·generalize x0:A0 r=x9;induction x9 with
  |none=>exact S.g I (p.i0 r I j0 x0)
  |some d=>have:=p.c0 r d x0;(replace this:=be j0 this;subst this);exact S.i0 r I x0 y0
theorem aZ.K0(k:aU)(W0:List ai)(O0:ai->cu->Prop)(C:j)(D:Nat->Option ai)(h:aG):aZ k W0 O0 C D h C D h:=
 ⟨λ_ o v _ _ _=>⟨λ_=>v,λ_=>⟨o.slots,v⟩⟩,λ_ _ Z=>Z,λ_ _ Z y=>(by exact fS Z y),λ_ _ Z=>Z,bS _,λ_ Z=>Z⟩
theorem aZ.N0{J:ai->cu->Prop}(S:aZ k W0 O0 C D h O A0 u)(b0:∀p o,h.get? p=a o->O0 p o->J p o):aZ k W0 J C D h O A0 u:=
 {S with V:=λp o v y0 f0 o0=>S.V p o v y0 f0 λz=>o0 (b0 p o v z)}
theorem aZ.h0{Y0:j}{T0:Nat->Option ai}{P:aG}(S:aZ k W0 bV C D h O A0 u)(p:aZ k W0 bV O A0 u Y0 T0 P)(R:bj k D F C h):aZ k W0 bV C D h Y0 T0 P:=S.trans p R λ_ _ _ _ z=>z
theorem fE.b{S:ai}{s0:bM}(e:aZ k W0 O0 C D h O A0 u)(R:bj k D F C h)(Q:lS O0 h)(U:lT W0 h)(q:fE k D F h S s0)(w:∀o,h.get? S=a o->u.get? S=a o):fE k A0 F u S s0:=by
 induction s0 with
 |c l=>refine fw (q) λM n v f0=>?_;exact(dK M n (w _ v) (aJ.m e R Q U _ _ f0))
 |b l=>refine aA (q) λo0 J0 f0=>?_;obtain⟨o,t0,X0,v,r⟩:=J0;exact(aw o0 (jA o t0 X0 (w o v) r) (bT.b e R Q U _ _ f0))
 |d l=>refine aA (q) λo0 J0 f0=>?_;obtain⟨o,t0,X0,v,r⟩:=J0;exact(aw o0 (jA o t0 X0 (w o v) r) (bT.b e R Q U _ _ f0))
theorem fE.c{S:ai}{s0:bM}(q:fE k D F h S s0):∃o,h.get? S=a o/\o.cls≠aS/\o.data≠.plain:=by
 induction s0 with
 |c l=>refine fw (q) λM n v f0=>?_;exact(cW _ v (qd _) (by intro z;cases z))
 |b l=>refine aA (q) λo0 J0 f0=>?_;obtain⟨o,t0,X0,v,b0,z0,r⟩:=J0;exact(cW o v (by rw[b0.1];decide) (by rw[z0];intro z;cases z))
 |d l=>refine aA (q) λo0 J0 f0=>?_;obtain⟨o,t0,X0,v,b0,z0,r⟩:=J0;exact(cW o v (by rw[b0.1];decide) (by rw[z0];intro z;cases z))
noncomputable abbrev eZ(D:Nat->Option ai)(r:Nat)(S:ai):Nat->Option ai:=λZ=>if Z=r then a S else D Z
theorem iO(q0:∀p o,h.get? p=a o->u.get? p=a o):aZ k W0 O0 C D h C D u:=
 ⟨λp o v _ _ _=>⟨λ_=>q0 p o v,λ_=>⟨o.slots,q0 p o v⟩⟩,λ_ _ Z=>Z,λ_ _ Z y=>(by exact fS Z y),λ_ _ Z=>Z,bS _,λp W=>by
   generalize q:h.get? p=x9;induction x9 with
   |none=>rfl
   |some o=>exact fS (q0 p o q) W⟩
theorem ou(R:bj k D F C h)(q0:∀p o,h.get? p=a o->u.get? p=a o):bj k D F C u:=by
 have e:aZ k [] bV C D h C D u:=iO q0
 refine{R with b:=λr s0 j0=>?_,e:=?_,c:=λp o W=>q0 p o (R.c p o W),d:=λp W y0=>R.d p W (e.g p y0),f:=λr S j0 y0=>R.f r S j0 (e.g S y0)}
 ·refine aA (R.b r s0 j0) λS v0 x0=>?_
  exact(aw S v0 (x0.b e R (cM h) (λ_ Z=>nomatch Z) λo v=>q0 S o v))
 ·refine aA (R.e) λZ0 p0 L=>?_
  exact(aw Z0 (q0 _ _ p0) L)
theorem qg{s0:bM}{S:ai}(R:bj k D F C h)(q0:∀p o,h.get? p=a o->u.get? p=a o)(v0:h.get? S=ae):
 aZ k W0 O0 C D h (C.e s0) (eZ D C.b S) u:=by
 have B:D C.b=ae:=by
  generalize q:D C.b=x9;induction x9 with
  |none=>rfl
  |some p=>exact absurd (R.g _ _ q) (pg _)
 refine⟨λp o v _ _ _=>⟨λ_=>q0 p o v,λ_=>⟨o.slots,q0 p o v⟩⟩,λr p Z=>?_,λr p Z y=>?_,λr k0 w0=>?_,pi _,(iO (k:=k) (W0:=W0) (O0:=O0) (C:=C) (D:=D) q0).g⟩
 ·show(if r=C.b then a S else D r)=a p
  rw[if_neg (bC (R.g _ _ Z))];exact Z
 ·have H:(if r=C.b then a S else D r)=a p:=Z
  by_cases e:r=C.b
  ·replace H:=be (if_pos e) H;subst H;exact v0
  ·rw[if_neg e,y]at H;exact bD H
 ·show(if r=C.b then a s0 else C.c r)=ae
  rw[if_neg (bC k0)];exact w0
theorem xu{s0:bM}{S:ai}(R:bj k D F C h)(q0:∀p o,h.get? p=a o->u.get? p=a o)(v0:h.get? S=ae)(A0:¬F S)(q:fE k (eZ D C.b S) F u S s0):bj k (eZ D C.b S) F (C.e s0) u:=by
 have e:aZ k [] bV C D h (C.e s0) (eZ D C.b S) u:=qg R q0 v0
 have u0:k.d.get? S=ae:=by
  generalize z:k.d.get? S=x9;induction x9 with
  |none=>rfl
  |some o=>exact fS (R.c S o z) v0
 have M:∀r p,D r=a p->p≠S:=λr p j0 z=>R.f r p j0 (z▸v0)
 have B:∀r p,eZ D C.b S r=a p->(r=C.b/\p=S)\/(r≠C.b/\D r=a p):=λr p Z=>by
  have H:(if r=C.b then a S else D r)=a p:=Z
  by_cases z:r=C.b
  ·rw[if_pos z]at H;exact aL ⟨z,(bn H).symm⟩
  ·rw[if_neg z]at H;exact aI ⟨z,H⟩
 refine⟨λr m p Z y=>?_,λr p Z=>?_,λr p Z=>?_,λr p Z=>?_,λr o Z=>?_,?_,λp o Z=>q0 p o (R.c p o Z),R.w,λp W y0=>R.d p W (e.g p y0),λr p Z y0=>?_⟩
 ·rcases B r p Z with⟨e1,e2⟩|⟨e1,e2⟩<;>rcases B m p y with⟨e3,e4⟩|⟨e3,e4⟩
  ·rw[e1,e3]
  ·exact absurd e2 (M _ _ e4)
  ·exact absurd e4 (M _ _ e2)
  ·exact R.t _ _ _ e2 e4
 ·rcases B r p Z with⟨e1,e2⟩|⟨e1,e2⟩
  ·rw[e1];exact fM _
  ·exact kU (R.g _ _ e2)
 ·rcases B r p Z with⟨e1,e2⟩|⟨e1,e2⟩
  ·rw[e2];exact A0
  ·exact R.s _ _ e2
 ·rcases B r p Z with⟨e1,e2⟩|⟨e1,e2⟩
  ·rw[e2];exact u0
  ·exact R.u _ _ e2
 ·have H:(if r=C.b then a s0 else C.c r)=a o:=Z
  by_cases z:r=C.b
  ·replace H:=be (if_pos z) H;subst H
   exact(aw S (by show(if r=C.b then _ else _)=_;rw[if_pos z]) q)
  ·rw[if_neg z]at H
   refine aA (R.b r o H) λp W x0=>?_
   exact(aw p (by show(if r=C.b then _ else _)=_;rw[if_neg z];exact W) (x0.b e R (cM h) (λ_ Z=>nomatch Z) λo v=>q0 p o v))
 ·refine aA (R.e) λZ0 p0 L=>?_
  exact(aw Z0 (q0 _ _ p0) L)
 ·rcases B r p Z with⟨e1,e2⟩|⟨e1,e2⟩
  ·rw[e2]at y0
   refine aA (q.c) λU0 P0 _=>?_
   exact ig y0 P0
  ·exact R.f _ _ e2 (e.g _ y0)
theorem ow{s0 B:bM}{r:Nat}{S:ai}(R:bj k D F C h)(j0:D r=a S)(w0:C.c r=a s0)(l0:hG S h u)(k0:u.get? S≠ae):
 aZ k W0 O0 C D h (C.d r B) D u:=by
 refine⟨λp o v y0 _ _=>?_,λ_ _ Z=>Z,λ_ _ Z y=>(by exact fS Z y),λq x0 j=>?_,bS _,λp W=>?_⟩
 ·have W:p≠S:=λz=>y0 (aw r (z▸j0) (by rw[w0];intro d0;exact bR d0))
  have:=(l0.2 p W).trans v
  exact⟨λ_=>this,λ_=>⟨o.slots,this⟩⟩
 ·show(if q=r then a B else C.c q)=ae
  by_cases z:q=r
  ·rw[z,w0]at j;exact bR j
  ·rw[if_neg z];exact j
 ·by_cases z:p=S
  ·rw[z]at W;exact absurd W k0
  ·rw[l0.2 p z]at W;exact W
theorem xw{s0 B:bM}{r:Nat}{S:ai}(R:bj k D F C h)(j0:D r=a S)(w0:C.c r=a s0)(l0:hG S h u)(q:fE k D F u S B):
 bj k D F (C.d r B) u:=by
 refine dP (q.c) λc E h1 _=>?_
 have k0:u.get? S≠ae:=by rw[E];intro z;exact bR z
 have e:aZ k [] bV C D h (C.d r B) D u:=ow R j0 w0 l0 k0
 have G:k.e≠S:=by
  rintro z
  refine aA (R.b r s0 w0) λp W x0=>?_
  replace W:=be j0 W;subst W
  refine dP (x0.c) λU0 P0 e0 _=>?_
  exact R.q P0 e0 z.symm
 refine⟨R.t,R.g,R.s,R.u,λm o Z=>?_,?_,λp o Z=>?_,R.w,λp W y0=>R.d p W (e.g p y0),λr p Z y0=>R.f r p Z (e.g p y0)⟩
 ·have H:(if m=r then a B else C.c m)=a o:=Z
  by_cases z:m=r
  ·replace H:=be (if_pos z) H;subst H;exact(aw S (z▸j0) q)
  ·rw[if_neg z]at H
   refine aA (R.b m o H) λp W x0=>?_
   refine(aw p W (x0.b e R (cM h) (λ_ Z=>nomatch Z) λo v=>(l0.2 p λd0=>?_).trans v))
   exact z (R.t _ _ _ (d0▸W) j0)
 ·refine aA (R.e) λZ0 p0 L=>?_
  exact(aw Z0 ((l0.2 _ G).trans p0) L)
 ·refine(l0.2 p λd0=>?_).trans (R.c p o Z)
  have:=R.u r S j0
  rw[<-d0,Z]at this;exact bR this
end
theorem Cr:Nonempty gZ:=⟨⟨λ_ _=>0,{strHash:=λ_=>0,shareClass:=λ_=>0,mergeTok:=λt=>t,idOf:=λ_=>0,idOfShared:=λ_ _=>0,followText:=λ_=>af,idOfImm:=λ_=>0}⟩⟩
theorem tQ:Nonempty bo:=⟨{}⟩
theorem xx:Nonempty ay:=⟨{}⟩
theorem Lm:Nonempty pj:=⟨{}⟩
end Mine.Internal
set_option tactic.hygienic false
namespace Mine.Internal
open PySem PySem.W PyProof.Rows
noncomputable abbrev bx(Q:List aN):List ai:=Q.filterMap (·.frame)
noncomputable def iP(k:aU)(D:Nat->Option ai)(h:aG)(Q:List aN):Prop:=
 ∀M∈Q,M.scope.kind≠.module/\∃s o t0 n,M.frame=a s/\h.get? s=a o/\o.data=eo t0 n/\k.d.get? s=ae/\(∀r,D r≠a s)/\s≠k.e
structure Ln(n:Nat)(U:bo):Prop where
 g:U.depth+3*n+10<AE
 b:U.units+20*n+200<wv
structure bZ(k:aU)(L:Bool)(n:Nat)(U:bo)(Q:List aN)(F:ai->Prop)(C:j)(D:Nat->Option ai)(h:aG):Prop where
 c:bj k D F C h
 g:U.frames=a Q
 d:iP k D h Q
 i:L=af->U.handled=ae
 f:Ln n U
noncomputable def xy(k:aU)(D:Nat->Option ai)(F:ai->Prop)(h:aG)(M:aN)(a0:aD->Option aj)(Z:ak)(T:A):Prop:=
 ∃G0,aC k D F h T G0/\((M.kindOf (an Z)=a .local/\a0 (an Z)=a G0)\/
  ((M.kindOf (an Z)=a dh\/M.kindOf (an Z)=a dN)/\∃I,M.cells.lookup (an Z)=a I/\h.IsCell I (a G0)/\I≠k.e))
noncomputable abbrev aV:=List (aD×gt)
structure bq(k:aU)(L:Bool)(n:Nat)(U:bo)(Q:List aN)(M:aN)(G:aV)(F:ai->Prop)(b:ah)(C:j)(D:Nat->Option ai)(h:aG):Prop extends bZ k L n U Q F C D h where
 names:M.scope.names=G
 kind:M.scope.kind=hH
 globals:M.globals=iL
 builtins:M.builtins=pk
 Y0:k.d.get? M.locals=ae
 I0:∀r,D r≠a M.locals
 L0:M.locals≠k.e
 r0:∃a0,h.Ns M.locals a0/\∀Z T,b Z=a T->xy k D F h M a0 Z T
 x0:∀Z,M.kindOf (an Z)=a dh->b Z=ae->∃I,M.cells.lookup (an Z)=a I/\h.IsCell I ae/\I≠k.e/\(∀r,D r≠a I)/\k.d.get? I=ae
 Q0:M.cells.Pairwise λZ y=>Z.2≠y.2
 J0:∃s,M.frame=a s/\Q.head?.bind (·.frame)=a s
noncomputable def jk(k:aU)(Q:List aN)(D:Nat->Option ai)(n0:aG)(e:ai)(h:aG):Prop:=
 ∃y X I,h.get? e=a y/\y.cls=ax k.g/\y.data=bO X/\X[0]?=a I/\n0.get? e=ae/\(∀r,D r≠a e)/\(X[1]?=a aS\/∃c0 i e0 Z,X[1]?=a (ax c0)/\c0≠e/\n0.get? c0=ae/\(∀r,D r≠a c0)/\
  h.get? c0=a i/\i.data=bO e0/\(∀q t,e0[1]?≠a (dG q t))/\e0[3]?=a Z/\(Z=aS\/∃s,Q.head?.bind (·.frame)=a s/\Z=fh s))
theorem jk.b{k:aU}{Q:List aN}{D:Nat->Option ai}{n0 E h:aG}{e:ai}(S:jk k Q D E e h)(w:∀p,E.get? p=ae->n0.get? p=ae):jk k Q D n0 e h:=by
 refine rG (S) λy X I E N h3 h4 h5 A h6=>?_
 refine(dY y X I E N h3 ⟨h4,w _ h5,A,?_⟩)
 rcases h6 with h6|⟨c0,i,e0,Z,q1,q2,V,d⟩
 ·exact aL h6
 ·exact aI (iN c0 i e0 Z q1 q2 (w _ V) d)
noncomputable def aB{c s:Type}(k:aU)(Q:List aN)(F:ai->Prop)(C:j)(D:Nat->Option ai)(H:ay)(J:(Nat->Option ai)->aG->c->s->Prop)(r:au c)(Y:s->ay->Prop)(g0:aj->ay->Prop):Prop:=match r with
 |.b T O=>∀G0 A0 u t,bj k A0 F O u->aZ k (bx Q) bV C D H.heap O A0 u->J A0 u T G0->Y G0 {H with heap:=u,toks:=t}
 |.g O=>∀e A0 u t,bj k A0 F O u->aZ k (bx Q) bV C D H.heap O A0 u->jk k Q A0 H.heap e u->g0 (ax e) {H with heap:=u,toks:=t}
 |.d=>False
theorem iP.d{k:aU}{D h Q}(Z:iP k D h Q):lT (bx Q) h:=by
 intro p W o v
 refine aA (lI.mp W) λM C0 B0=>?_
 refine JN (Z M C0) λ_ s R t0 n E N h3 _=>?_
 replace B0:=be E B0;subst B0
 replace N:=be v N;subst N
 exact(gL t0 n h3)
section
variable{k:aU}{L:Bool}{n:Nat}{U:bo}{Q:List aN}{M:aN}{G:aV}{F:ai->Prop}{b:ah}{C O:j}{D A0:Nat->Option ai}{h u:aG}{H:ay}{g0:aj->ay->Prop}
theorem aB.y{c s G I:Type}{E:(Nat->Option ai)->aG->c->s->Prop}{A:(Nat->Option ai)->aG->G->I->Prop}{r:au c}{w:c->j->au G}{V:s->ay->Prop}{Y:I->ay->Prop}(m:aB k Q F C D H A (r.e w) Y g0)(R:bj k D F C H.heap)(l0:∀T O G0 A0 u t,r=.b T O->bj k A0 F O u->aZ k (bx Q) bV C D H.heap O A0 u->E A0 u T G0->aB k Q F O A0 {H with heap:=u,toks:=t} A (w T O) Y g0->V G0 {H with heap:=u,toks:=t}):
 aB k Q F C D H E r V g0:=by
 induction r with
 |d=>exact m
 |g O=>exact m
 |b T O=>
  intro G0 A0 u t B e j0
  refine l0 T O G0 A0 u t rfl B e j0 ?_
  have d:aB k Q F C D H A (w T O) Y g0:=m
  generalize q0:w T O=x9;induction x9 with
  |d=>rw[q0]at d;exact d
  |b d0 Y0=>rw[q0]at d;exact λG0 T0 P a1 N0 O0 q=>d G0 T0 P a1 N0 (e.h0 O0 R) q
  |g Y0=>rw[q0]at d;exact λS T0 P a1 N0 O0 q=>d S T0 P a1 N0 (e.h0 O0 R) (q.b e.g)
theorem aB.k0{c s:Type}{J:(Nat->Option ai)->aG->c->s->Prop}{r:au c}{Y b:s->ay->Prop}{H1:aj->ay->Prop}(m:aB k Q F C D H J r Y g0)(x0:∀T t,Y T t->b T t)(C0:∀T t,g0 T t->H1 T t):aB k Q F C D H J r b H1:=by
 induction r with
 |d=>exact m
 |b T O=>exact λG0 A0 u t R e q=>x0 _ _ (m G0 A0 u t R e q)
 |g O=>exact λS A0 u t R e q=>C0 _ _ (m S A0 u t R e q)
theorem iP.g(Z:iP k D h Q)(e:aZ k (bx Q) bV C D h O A0 u)(R:bj k D F C h):iP k A0 u Q:=by
 intro M C0
 refine lR (Z M C0) λq0 s o t0 n E N h3 h4 h5 h6=>?_
 have W:¬jj C D s:=λ⟨r,j0,_⟩=>h5 r j0
 obtain⟨c,l0⟩:=(e.V s o N W h6 (λz=>z)).2 (lI.mpr (aw M C0 E))
 refine⟨q0,s,_,t0,n,E,l0,h3,h4,λr j0=>?_,h6⟩
 generalize q:D r=x9;induction x9 with
 |none=>have:=e.i0 r s j0 q;exact fS N this
 |some p=>have:=e.c0 r p q;(replace this:=be j0 this;subst this);exact h5 r q
theorem bZ.m(J:bZ k L n U Q F C D h)(e:aZ k (bx Q) bV C D h O A0 u)(B:bj k A0 F O u):bZ k L n U Q F O A0 u:=
 ⟨B,J.g,J.d.g e J.c,J.i,J.f⟩
theorem Cs{I:ai}{T:Option aj}(q:h.IsCell I T)(f0:I≠k.e)(e:aZ k (bx Q) bV C D h O A0 u)(R:bj k D F C h)(B0:lT (bx Q) h):u.IsCell I T:=by
 refine aA (q) λo v z0=>?_
 refine(aw o ((e.V I o v ?_ f0 (λz=>z)).1 ?_) z0)
 ·intro n0
  refine aA (R.y n0) λU0 P0 b0=>?_
  replace P0:=be v P0;subst P0
  rcases b0 with⟨_,i,n,E0⟩|⟨_,t0,n,E0⟩<;>((injection eY (fp z0) E0;done))
 ·intro W
  refine pT (B0 _ W _ v) λt0 n z=>?_
  injection eY (fp z0) z;done
theorem bq.p0(J:bq k L n U Q M G F b C D h)(e:aZ k (bx Q) bV C D h O A0 u)(B:bj k A0 F O u):bq k L n U Q M G F b O A0 u:=by
 have W0:=λZ T=>aC.b (Z:=Z) (T:=T) e J.c (cM h) J.d.d
 refine aA (J.r0) λa0 d1 h0=>?_
 refine eJ (d1) λR t0 X0 H0 H N=>?_
 have W:¬jj C D M.locals:=λ⟨r,j0,_⟩=>J.I0 r j0
 have j:u.Ns M.locals a0:=by
  have w:=e.V _ R H0 W J.L0 (λz=>z)
  by_cases q:M.locals∈bx Q
  ·obtain⟨c,l0⟩:=w.2 q;exact(jh _ t0 X0 l0 H N)
  ·exact(jh _ t0 X0 (w.1 q) H N)
 refine{J.tobZ.m e B with names:=J.names,kind:=J.kind,globals:=J.globals,builtins:=J.builtins,Y0:=J.Y0,L0:=J.L0,Q0:=J.Q0,J0:=J.J0,I0:=λr j0=>?_,r0:=(aw a0 j (λZ T b0=>?_)),x0:=λZ q0 b0=>?_}
 ·generalize q:D r=x9;induction x9 with
  |none=>have:=e.i0 r _ j0 q;exact fS H0 this
  |some p=>have:=e.c0 r p q;(replace this:=be j0 this;subst this);exact J.I0 r q
 ·refine aA (h0 Z T b0) λG0 j0 K0=>?_
  refine(aw G0 (W0 _ _ j0) ?_)
  rcases K0 with K0|⟨q0,I,e0,X,c0⟩
  ·exact aL K0
  ·exact aI ⟨q0,I,e0,Cs X c0 e J.c J.d.d,c0⟩
 ·refine lh (J.x0 Z q0 b0) λI e0 X c0 v0 B0=>?_
  refine(lf I e0 (Cs X c0 e J.c J.d.d) c0 (λr j0=>?_) B0)
  generalize q:D r=x9;induction x9 with
  |none=>
   have:=e.i0 r _ j0 q
   refine aA (X) λo v _=>?_
   exact fS v this
  |some p=>have:=e.c0 r p q;(replace this:=be j0 this;subst this);exact v0 r q
end
noncomputable abbrev bz(k:aU)(F:ai->Prop):(Nat->Option ai)->aG->A->aj->Prop:=λD h T G0=>aC k D F h T G0
noncomputable abbrev xz(k:aU)(F:ai->Prop):(Nat->Option ai)->aG->List A->List aj->Prop:=λD h T G0=>aJ k D F h T G0
noncomputable abbrev iB:(Nat->Option ai)->aG->Bool->Bool->Prop:=λ_ _ S p=>p=S
noncomputable def mI{c s:Type}(k:aU)(L:Bool)(n:Nat)(G:aV)(J:(ai->Prop)->(Nat->Option ai)->aG->c->s->Prop)(t:aN->gu s)(f:ah->j->au c):Prop:=
 ∀(U:bo)(Q:List aN)(M:aN)(F:ai->Prop)(b:ah)(C:j)(D:Nat->Option ai)(H:ay),bq k L n U Q M G F b C D H.heap->
  ∀(Y:s->ay->Prop)(g0:aj->ay->Prop),aB k Q F C D H (J F) (f b C) Y g0->aR (aQ k.b k.c) U (t M) Y g0 H
noncomputable abbrev aE(k:aU)(L:Bool)(n:Nat)(G:aV)(e:aa)(f:ah->j->au A):Prop:=mI k L n G (bz k) (bP e) f
noncomputable abbrev eb(k:aU)(L:Bool)(n:Nat)(G:aV)(e:aa)(f:ah->j->au Bool):Prop:=mI k L n G (λ_=>iB) (λM=>lJ e M (bP e M)) f
theorem aB.X{c s:Type}{k:aU}{Q:List aN}{F:ai->Prop}{C:j}{D:Nat->Option ai}{H:ay}{J:(Nat->Option ai)->aG->c->s->Prop}{T:c}{Y:s->ay->Prop}{g0:aj->ay->Prop}(m:aB k Q F C D H J (.b T C) Y g0)(R:bj k D F C H.heap){G0:s}{u:aG}{t:Nat}(q0:∀p o,H.heap.get? p=a o->u.get? p=a o)(j0:J D u T G0):Y G0 {H with heap:=u,toks:=t}:=
 m G0 D u t (ou R q0) (iO q0) j0
section
variable{c s G:Type}{k:aU}{Q:List aN}{F:ai->Prop}{C:j}{D:Nat->Option ai}{H:ay}{J:(Nat->Option ai)->aG->c->s->Prop}{Y:s->ay->Prop}{g0:aj->ay->Prop}{o:Option bM}{d0:Option G}{I i:Prop}[Decidable I]{r:au c}
theorem aB.a0{f:List A->au c}(m:aB k Q F C D H J (match o with|some (.c l)=>f l|_=>.d) Y g0)(w:∀l,o=a (.c l)->aB k Q F C D H J (f l) Y g0->i):i:=by
 induction o with
 |none=>exact m.elim
 |some o=>induction o with
  |c l=>exact w l rfl m
  |_=>exact m.elim
theorem aB.f0{f:List (am×A)->au c}(m:aB k Q F C D H J (match o with|some (.b l)=>f l|_=>.d) Y g0)(w:∀l,o=a (.b l)->aB k Q F C D H J (f l) Y g0->i):i:=by
 induction o with
 |none=>exact m.elim
 |some o=>induction o with
  |b l=>exact w l rfl m
  |_=>exact m.elim
theorem aB.i0{d0:Option A}{f:A->au c}(m:aB k Q F C D H J (match d0 with|some Z=>f Z|none=>.d) Y g0)(w:∀Z,d0=a Z->aB k Q F C D H J (f Z) Y g0->i):i:=by
 induction d0 with
 |none=>exact m.elim
 |some d0=>exact w d0 rfl m
theorem aB.m0{d0:Option ak}{f:ak->List (am×A)->au c}(m:aB k Q F C D H J (match d0,o with|some Z,a (.b l)=>f Z l|_,_=>.d) Y g0)(w:∀Z l,d0=a Z->o=a (.b l)->aB k Q F C D H J (f Z l) Y g0->i):i:=by
 induction d0 with
 |none=>exact m.elim
 |some d0=>induction o with
  |none=>exact m.elim
  |some o=>induction o with
   |b l=>exact w d0 l rfl rfl m
   |_=>exact m.elim
theorem aB.n0{d0:Option ak}{f:ak->au c}(m:aB k Q F C D H J (match d0 with|some Z=>f Z|none=>.d) Y g0)(w:∀Z,d0=a Z->aB k Q F C D H J (f Z) Y g0->i):i:=by
 induction d0 with
 |none=>exact m.elim
 |some d0=>exact w d0 rfl m
theorem aB.o0(m:aB k Q F C D H J (if I then .d else r) Y g0)(w:¬I->aB k Q F C D H J r Y g0->i):i:=by
 by_cases h:I
 ·rw[if_pos h]at m;exact m.elim
 ·rw[if_neg h]at m;exact w h m
theorem aB.N(m:aB k Q F C D H J (if I then r else .d) Y g0)(w:I->aB k Q F C D H J r Y g0->i):i:=by
 by_cases h:I
 ·rw[if_pos h]at m;exact w h m
 ·rw[if_neg h]at m;exact m.elim
theorem aB.p0(r0:Option G->au c){f:List A->Option G}(m:aB k Q F C D H J (r0 (match o with|some (.c l)=>f l|_=>ae)) Y g0)(p:aB k Q F C D H J (r0 ae) Y g0->False)(w:∀l,o=a (.c l)->aB k Q F C D H J (r0 (f l)) Y g0->i):i:=by
 induction o with
 |none=>exact(p m).elim
 |some o=>induction o with
  |c l=>exact w l rfl m
  |_=>exact(p m).elim
theorem aB.b0(r0:Option G->au c){Z:Option G}(m:aB k Q F C D H J (r0 (if I then Z else ae)) Y g0)(p:aB k Q F C D H J (r0 ae) Y g0->False)(w:I->aB k Q F C D H J (r0 Z) Y g0->i):i:=by
 by_cases h:I
 ·rw[if_pos h]at m;exact w h m
 ·rw[if_neg h]at m;exact(p m).elim
end
theorem aB.g{c s:Type}{k:aU}{Q:List aN}{F:ai->Prop}{C:j}{D:Nat->Option ai}{H:ay}{J:(Nat->Option ai)->aG->c->s->Prop}{T:c}{Y:s->ay->Prop}{g0:aj->ay->Prop}(m:aB k Q F C D H J (.b T C) Y g0)(R:bj k D F C H.heap){G0:s}{t:Nat}(j0:J D H.heap T G0):Y G0 {H with toks:=t}:=
 m G0 D H.heap t R (aZ.K0 ..) j0
section
variable{k:aU}{L:Bool}{n:Nat}{G:aV}{c:v}
theorem qh(Z:ak):(an Z==("__debug__":aD))=av:=BU (by decide+kernel) (by decide+kernel) Z
theorem Lo(Z:ak):(an Z==("__classdict__":aD))=av:=BU (by decide+kernel) (by decide+kernel) Z
theorem Lp{i:Int}{w:Nat}{u0:aH}:aE k L n G (fZ (.int i) w u0) (ag c (.c (.b i))):=by
 intro U Q M F b C D H J Y g0 m
 dsimp only[rK]at m
 exact Vo (m.g J.c (by simp only[du,dv,dw,dx,dy,dz,dA,dB,dC,dD];exact⟨_,rfl⟩))
theorem Ct{Z:ak}{u0:aH}:aE k L n G (aY (an Z) u0) (ag c (.b Z)):=by
 intro U Q M F b C D H J Y g0 m
 dsimp only[mG]at m
 refine ww ?_ (qh Z)
 generalize b0:b Z=x9;induction x9 with
 |none=>rw[b0]at m;exact m.elim
 |some T=>
  rw[b0]at m
  refine aA (J.r0) λa0 d1 h0=>?_
  refine aA (h0 Z T b0) λG0 j0 K0=>?_
  have q:Y G0 H:=m.g (t:=H.toks) J.c j0
  rcases K0 with⟨q0,L⟩|⟨q0|q0,I,e0,X,_⟩
  ·exact tc J.kind q0 d1 L q
  ·exact wpAny_loadName_cell J.kind q0 e0 X q
  ·exact wpAny_loadName_free J.kind q0 e0 X q (Lo Z)
theorem Lq{S p:aa}{Z y:ar}{s:mu}{o:gh}{u0:aH}(v0:aE k L n G S (ag c Z))(W:aE k L n G p (ag c y))(h:∀(U:bo)(Q:List aN)(F:ai->Prop)(C:j)(D:Nat->Option ai)(H:ay)(m0 T:A)(V q:aj)(Y:aj->ay->Prop)(g0:aj->ay->Prop),bZ k L n U Q F C D H.heap->aC k D F H.heap m0 V->aC k D F H.heap T q->
   aB k Q F C D H (bz k F) (ew C o m0 T) Y g0->aR (aQ k.b k.c) U (po s V q) Y g0 H):
 aE k L n G (Ig S s p u0) (ag c (.r o Z y)):=by
 intro U Q M F b C D H J Y g0 m
 dsimp only[Kh]at m
 refine wpAny_BinOp (v0 U Q M F b C D H J _ _ (aB.y m J.c λm0 S0 V U0 H0 M0 _ n0 R0 Q0 R=>?_))
 have r0:=J.p0 R0 n0
 refine W U Q M F b S0 U0 {H with heap:=H0,toks:=M0} r0 _ _ (aB.y R n0 λT Y0 q T0 P E0 _ N0 O0 e1 c0=>?_)
 exact h U Q F Y0 T0 {H with heap:=P,toks:=E0} m0 T V q Y g0 (r0.p0 O0 N0).tobZ (aC.b O0 n0 (cM _) r0.d.d _ _ Q0) e1 c0
end
end Mine.Internal
set_option tactic.hygienic true
namespace Mine.Internal
open PySem PySem.W PyProof.Rows
section
variable{k:aU}{L:Bool}{n:Nat}{U:bo}{Q:List aN}{F:ai->Prop}{C:j}{D:Nat->Option ai}{H:ay}{Y:aj->ay->Prop}{g0:aj->ay->Prop}
theorem cG{h:aG}{i:Int}{V:aj}(q:aC k D F h (.b i) V):∃t,V=cI i t:=by simpa only[du,dv,dw,dx,dy,dz,dA,dB,dC,dD]using q
theorem fy{h:aG}{l:am}{V:aj}(q:aC k D F h (.c l) V):∃t,V=dG l.b t:=by simpa only[du,dv,dw,dx,dy,dz,dA,dB,dC,dD]using q
theorem lU{h:aG}{V:aj}(q:aC k D F h .m V):V=aS:=by simpa only[du,dv,dw,dx,dy,dz,dA,dB,dC,dD]using q
theorem tR{h:aG}{p:Bool}{V:aj}(q:aC k D F h (.o p) V):V=eQ p:=by simpa only[du,dv,dw,dx,dy,dz,dA,dB,dC,dD]using q
theorem jl{h:aG}{l:List A}{V:aj}(q:aC k D F h (.e l) V):∃S M n,V=ax S/\h.get? S=a (mH M n)/\aJ k D F h l M.toList:=by simpa only[du,dv,dw,dx,dy,dz,dA,dB,dC,dD]using q
theorem iQ{h:aG}{l:List A}{V:aj}(q:aC k D F h (.k l) V):∃S M n,V=ax S/\h.get? S=a (cO M n)/\aJ k D F h l M.toList/\(∀r,D r≠a S)/\¬F S:=by simpa only[du,dv,dw,dx,dy,dz,dA,dB,dC,dD]using q
theorem eT{h:aG}{r:Nat}{V:aj}(q:aC k D F h (.d r) V):∃S,V=ax S/\D r=a S:=by simpa only[du,dv,dw,dx,dy,dz,dA,dB,dC,dD]using q
theorem xA{h:aG}{I:ak}{r:Nat}{V:aj}(q:aC k D F h (.h I r) V):∃Z d,V=ax Z/\h.get? Z=a (io (k.f I) d)/\D r=a d:=by simpa only[du,dv,dw,dx,dy,dz,dA,dB,dC,dD]using q
theorem rN{h:aG}{f:ak}{V:aj}(q:aC k D F h (.g f) V):V=ax (k.k f):=by simpa only[du,dv,dw,dx,dy,dz,dA,dB,dC,dD]using q
theorem gS{h:aG}{i:Int}{t:jv}:aC k D F h (.b i) (cI i t):=by simp only[du,dv,dw,dx,dy,dz,dA,dB,dC,dD];exact⟨t,rfl⟩
theorem lV{h:aG}{l:am}{t:jv}:aC k D F h (.c l) (dG l.b t):=by simp only[du,dv,dw,dx,dy,dz,dA,dB,dC,dD];exact⟨t,rfl⟩
theorem kD{h:aG}{p:Bool}:aC k D F h (.o p) (eQ p):=by simp only[du,dv,dw,dx,dy,dz,dA,dB,dC,dD]
theorem ox{h:aG}:aC k D F h .m aS:=by simp only[du,dv,dw,dx,dy,dz,dA,dB,dC,dD]
theorem aJ.b{h:aG}:∀{l:List A}{X:List aj},aJ k D F h l X->X.length=l.length:=by
 intro J
 induction J with
 |nil=>
  intro _ q
  simp only[cA,cB]at q;rw[q];rfl
 |cons _ y0 U=>
  intro _ q
  simp only[cA,cB]at q
  refine de (q) λT r n0 _ N=>?_;obtain rfl:=n0
  rw[fi,fi,U N]
theorem aJ.i0{h:aG}:∀{l a0:List A}{X u:List aj},aJ k D F h l X->aJ k D F h a0 u->aJ k D F h (l++a0) (X++u):=by
 intro J
 induction J with
 |nil=>
  intro _ _ _ q t
  simp only[cA,cB]at q;rw[q];exact t
 |cons _ y0 U=>
  intro _ _ _ q t
  simp only[cA,cB]at q
  refine de (q) λT r n0 E N=>?_;obtain rfl:=n0
  simp only[List.cons_append,cA,cB]
  exact(bU T _ rfl E (U N t))
theorem aJ.s{h u:aG}{C:j}(R:bj k D F C h)(q0:∀p o,h.get? p=a o->u.get? p=a o){l:List A}{X:List aj}(q:aJ k D F h l X):aJ k D F u l X:=
 aJ.m (iO q0 (W0:=[]) (O0:=bV) (k:=k) (C:=C)) R (cM _) (λ_ z=>nomatch z) _ _ q
theorem rO{h:aG}{C:j}(R:bj k D F C h){S:ai}(v0:h.get? S=ae):(∀r,D r≠a S)/\¬F S:=
 ⟨λr j0=>R.f r S j0 v0,λB0=>R.d S B0 v0⟩
theorem fT(h:aG):h.get? h.objs.size=ae:=nS (bS _)
theorem xB{h:aG}{C:j}(R:bj k D F C h){l:List A}{M:Array aj}{n:Nat}(q:aJ k D F h l M.toList):aC k D F (h.push (cO M n)) (.k l) (ax h.objs.size):=by
 simp only[du,dv,dw,dx,dy,dz,dA,dB,dC,dD]
 exact(dY _ M n rfl (kW _ rfl) (aJ.s R (λI o z=>cc _ z) q) (rO R (fT h)))
theorem Lr{h:aG}{C:j}(R:bj k D F C h){l:List A}{M:Array aj}{n:Nat}(q:aJ k D F h l M.toList):aC k D F (h.push (mH M n)) (.e l) (ax h.objs.size):=by
 simp only[du,dv,dw,dx,dy,dz,dA,dB,dC,dD]
 exact(jh _ M n rfl (kW _ rfl) (aJ.s R (λI o z=>cc _ z) q))
theorem aJ.r0{h u:aG}{C:j}{S:ai}(R:bj k D F C h)(q0:∀p o,h.get? p=a o->u.get? p=a o)(v0:h.get? S=ae){l:List A}{X:List aj}(q:aJ k D F h l X):aJ k (eZ D C.b S) F u l X:=
 aJ.m (qg (W0:=[]) (O0:=bV) (s0:=.c []) R q0 v0) R (cM _) (λ_ z=>nomatch z) _ _ q
theorem oy{C:j}{S:ai}:eZ D C.b S C.b=a S:=by show(if _=_ then _ else _)=_;rw[if_pos rfl]
theorem aB.e0{c s:Type}{J:(Nat->Option ai)->aG->c->s->Prop}{T:c}{s0:bM}{Y:s->ay->Prop}(m:aB k Q F C D H J (.b T (C.e s0)) Y g0)(R:bj k D F C H.heap){G0:s}{u:aG}{t:Nat}{S:ai}(q0:∀p o,H.heap.get? p=a o->u.get? p=a o)(v0:H.heap.get? S=ae)(q:fE k (eZ D C.b S) F u S s0)(j0:J (eZ D C.b S) u T G0):Y G0 {H with heap:=u,toks:=t}:=
 m G0 (eZ D C.b S) u t (xu R q0 v0 (rO R v0).2 q) (qg R q0 v0) j0
theorem aB.c0{c s:Type}{J:(Nat->Option ai)->aG->c->s->Prop}{T:c}{s0 B:bM}{r:Nat}{S:ai}{Y:s->ay->Prop}(m:aB k Q F C D H J (.b T (C.d r B)) Y g0)(R:bj k D F C H.heap){G0:s}{u:aG}{t:Nat}(j0:D r=a S)(w0:C.c r=a s0)(l0:hG S H.heap u)(q:fE k D F u S B)(h0:J D u T G0):Y G0 {H with heap:=u,toks:=t}:=by
 refine aA (q.c) λo v _=>?_
 exact m G0 D u t (xw R j0 w0 l0 q) (ow R j0 w0 l0 (by rw[v];intro z;exact bR z)) h0
theorem am.c(l:am):l.b.length=l.length:=by simp[AF]
theorem am.g(Z y:am):(Z.b++y.b:aD)=am.b (Z++y):=by
 show(⟨Z.toArray++y.toArray⟩:aD)=⟨(Z++y).toArray⟩
 simp
theorem Cu{i:Int}(h:i.natAbs<2^60):Builtin.Int.intBits i<=64:=intBits_le_64 (Int.neg_lt_of_neg_lt (Vp (fg Vq (by rw[Int.natAbs_neg];exact iI.mpr h)) (by decide))) (Vp (fg Vq (iI.mpr h)) (by decide))
theorem Cv{c:Type}(S:Array c):∀(n:Nat)(P:Array c),(cq n S).foldl (λZ y=>Z++y) P=P++(cq n S.toList).flatten.toArray:=by
 intro J
 induction J with
 |zero=>
  intro P
  simp
 |succ n U=>
  intro P
  rw[AG,Vr,U,AG,AH,List.append_toArray]
  simp
theorem Ls{Z:am}{i:Int}:Txt.mul Z.b i=am.b (cq i.toNat Z).flatten:=by
 unfold Txt.mul
 by_cases E:i<1
 ·rw[if_pos E,show i.toNat=0 by lia];rfl
 ·rw[if_neg E]
  by_cases N:(i==1||Z.b.length==0)=af
  ·rw[if_pos N]
   rcases Vs.mp N with h|h
   ·have:i=1:=by simpa using h
    subst this;simp
   ·have u:Z.b.length=0:=by simpa using h
    have b0:Z=[]:=by
     induction Z using bL with
     |nil=>rfl
     |cons S r=>simp[am.b,AF]at u
    subst b0
    simp
  ·rw[if_neg N]
   show(⟨_⟩:aD)=⟨_⟩
   rw[Cv];simp
theorem Lt{Z:am}{i:Int}(E:-1000<=i)(N:i<=1000)(h3:Z.length<=100):MulOk Z.b i:=by
 have e:Z.b.length=Z.length:=by simp[AF]
 refine⟨by simp;exact⟨jc (fo (by decide) E),fg N (by decide)⟩,λh _=>?_,λ_ _=>?_⟩
 ·rw[e]
  have:(2^63-1:Int)/1000<=(2^63-1)/i:=by
   apply Int.le_ediv_of_mul_le (fo (by decide) (fN.mp h))
   have B:(2^63-1:Int)/1000=9223372036854775:=by decide
   rw[B]
   have:9223372036854775*i<=9223372036854775*1000:=wx N (by decide)
   exact bQ ‹_› (by decide)
  have B:(2^63-1:Int)/1000=9223372036854775:=by decide
  lia
 ·rw[e]
  have:Z.length*i.toNat<=100*1000:=Ih h3 (nT.mpr ‹_›)
  show ba (_>lK)=av
  rw[ga]
  exact decide_eq_false (wu.mpr (az this (by decide)))
theorem aJ.u0{h:aG}{l:List A}{X:List aj}(q:aJ k D F h l X):∀n:Nat,aJ k D F h (cq n l).flatten (cq n X).flatten
 |0=>by simp only[Vt,List.flatten_nil,cA,cB]
 |n+1=>by rw[AG,AG,AH,AH];exact aJ.i0 q (aJ.u0 q n)
theorem Lu{m0 T:A}{V q:aj}(r:bZ k L n U Q F C D H.heap)(D0:aC k D F H.heap m0 V)(h0:aC k D F H.heap T q)(m:aB k Q F C D H (bz k F) (ew C .b m0 T) Y g0):aR (aQ k.b k.c) U (po .Add V q) Y g0 H:=by
 have R:=r.c
 induction m0 using A.casesOn<;>try exact m.elim
 all_goals(induction T using A.casesOn<;>try exact m.elim)
 ·obtain⟨t,rfl⟩:=cG D0;obtain⟨a1,rfl⟩:=cG h0
  exact O8 (m.g R gS)
 ·rename_i Z y
  obtain⟨t,rfl⟩:=fy D0;obtain⟨a1,rfl⟩:=fy h0
  have d:aB k Q F C D H (bz k F) (if Z.length+y.length<=100000 then .b (.c (Z++y)) C else .d) Y g0:=m
  by_cases s:Z.length+y.length<=100000
  ·rw[if_pos s]at d
   refine PySem.W.KOpn.add (by rw[am.c,am.c];exact az s (by decide)) λa1 w _=>?_
   rw[am.g]
   exact d.g R lV
  ·rw[if_neg s]at d;exact d.elim
 ·rename_i Z y
  refine jC (iQ D0) λS j e0 V0 v0 J M u=>?_;obtain rfl:=V0;refine jC (iQ h0) λp G f V0 W p1 h l=>?_;obtain rfl:=V0
  have d:aB k Q F C D H (bz k F) (if Z.length+y.length<=100000 then .b (.k (Z++y)) C else .d) Y g0:=m
  by_cases s:Z.length+y.length<=100000
  ·rw[if_pos s]at d
   have l1:=J.b;have l2:=p1.b
   refine concat_meets (aw _ v0 rfl) (aw _ W rfl) noFill_list_add seq_list_add P8 R8 (U8 _ _) (list_addW S p j G e0 f ae ae #[] #[] (by rw[ga];simp only[fq]at l1 l2;exact BH ‹_› ‹_› ‹_› (by decide))) ⟨v0,W,?_⟩
   have q0:∀I o,H.heap.get? I=a o->(H.heap.push (cO (j++G) 0)).get? I=a o:=λI o z=>cc _ z
   refine d.X (t:=H.toks) R q0 ?_
   exact xB R (by rw[Vu];exact aJ.i0 J p1)
  ·rw[if_neg s]at d;exact d.elim
theorem Lv{m0 T:A}{V q:aj}(r:bZ k L n U Q F C D H.heap)(D0:aC k D F H.heap m0 V)(h0:aC k D F H.heap T q)(m:aB k Q F C D H (bz k F) (ew C .d m0 T) Y g0):aR (aQ k.b k.c) U (po .Sub V q) Y g0 H:=by
 have R:=r.c
 induction m0 using A.casesOn<;>try exact m.elim
 all_goals(induction T using A.casesOn<;>try exact m.elim)
 obtain⟨t,rfl⟩:=cG D0;obtain⟨a1,rfl⟩:=cG h0
 exact V8 (m.g R gS)
theorem Lw{m0 T:A}{V q:aj}(r:bZ k L n U Q F C D H.heap)(D0:aC k D F H.heap m0 V)(h0:aC k D F H.heap T q)(m:aB k Q F C D H (bz k F) (ew C .g m0 T) Y g0):aR (aQ k.b k.c) U (po .FloorDiv V q) Y g0 H:=by
 have R:=r.c
 induction m0 using A.casesOn<;>try exact m.elim
 all_goals(induction T using A.casesOn<;>try exact m.elim)
 rename_i i B
 obtain⟨t,rfl⟩:=cG D0;obtain⟨a1,rfl⟩:=cG h0
 have d:aB k Q F C D H (bz k F) (if 0<B/\B<2^30/\i.natAbs<2^300 then .b (.b (km i B)) C else .d) Y g0:=m
 by_cases s:0<B/\B<2^30/\i.natAbs<2^300
 ·rw[if_pos s]at d
  exact W8 (Ii s.1) (d.g R gS) (aL (PyProof.noPylong_small (BF (jc s.1) s.2.1)))
 ·rw[if_neg s]at d;exact d.elim
theorem Ly{m0 T:A}{V q:aj}(r:bZ k L n U Q F C D H.heap)(D0:aC k D F H.heap m0 V)(h0:aC k D F H.heap T q)(m:aB k Q F C D H (bz k F) (ew C .e m0 T) Y g0):aR (aQ k.b k.c) U (po .Mod V q) Y g0 H:=by
 have R:=r.c
 induction m0 using A.casesOn<;>try exact m.elim
 all_goals(induction T using A.casesOn<;>try exact m.elim)
 rename_i i B
 obtain⟨t,rfl⟩:=cG D0;obtain⟨a1,rfl⟩:=cG h0
 have d:aB k Q F C D H (bz k F) (if 0<B/\B<2^300 then .b (.b (mr i B)) C else .d) Y g0:=m
 by_cases s:0<B/\B<2^300
 ·rw[if_pos s]at d
  exact X8 (by intro q;rw[q]at s;omega) (d.g R gS)
 ·rw[if_neg s]at d;exact d.elim
theorem Lz{m0 T:A}{V q:aj}(r:bZ k L n U Q F C D H.heap)(D0:aC k D F H.heap m0 V)(h0:aC k D F H.heap T q)(m:aB k Q F C D H (bz k F) (ew C .f m0 T) Y g0):aR (aQ k.b k.c) U (po .Pow V q) Y g0 H:=by
 have R:=r.c
 clear r;induction m0 using A.casesOn<;>try exact m.elim
 all_goals(induction T using A.casesOn<;>try exact m.elim)
 rename_i i B
 obtain⟨t,rfl⟩:=cG D0;obtain⟨a1,rfl⟩:=cG h0
 have d:aB k Q F C D H (bz k F) (if i=10/\B=60 then .b (.b (10^60)) C else .d) Y g0:=m
 clear D0 h0 m;by_cases s:i=10/\B=60
 ·rw[if_pos s]at d
  obtain⟨rfl,rfl⟩:=s
  exact Y8 (ip _) (ip _) (by decide) (d.g R gS)
 ·clear R;rw[if_neg s]at d;exact d.elim
theorem LA{m0 T:A}{V q:aj}(r:bZ k L n U Q F C D H.heap)(D0:aC k D F H.heap m0 V)(h0:aC k D F H.heap T q)(m:aB k Q F C D H (bz k F) (ew C .c m0 T) Y g0):aR (aQ k.b k.c) U (po .Mult V q) Y g0 H:=by
 have R:=r.c
 induction m0 using A.casesOn<;>try exact m.elim
 all_goals(induction T using A.casesOn<;>try exact m.elim)
 ·rename_i i B
  obtain⟨t,rfl⟩:=cG D0;obtain⟨a1,rfl⟩:=cG h0
  have d:aB k Q F C D H (bz k F) (if i.natAbs<2^60/\B.natAbs<2^60 then .b (.b (i*B)) C else .d) Y g0:=m
  by_cases s:i.natAbs<2^60/\B.natAbs<2^60
  ·rw[if_pos s]at d
   exact Z8 (d.g R gS) (IntMulOk.of_left (Cu s.1))
  ·rw[if_neg s]at d;exact d.elim
 ·rename_i Z i
  obtain⟨t,rfl⟩:=fy D0;obtain⟨a1,rfl⟩:=cG h0
  have d:aB k Q F C D H (bz k F) (if -1000<=i/\i<=1000/\Z.length<=100 then .b (.c (cq i.toNat Z).flatten) C else .d) Y g0:=m
  by_cases s:-1000<=i/\i<=1000/\Z.length<=100
  ·rw[if_pos s]at d
   refine PySem.SB.mul (Lt s.1 s.2.1 s.2.2) λa1 w=>?_
   rw[Ls]
   exact d.g R lV
  ·rw[if_neg s]at d;exact d.elim
 ·rename_i l i
  obtain⟨a1,rfl⟩:=cG h0
  refine jC (iQ D0) λS j e0 V0 v0 J M u=>?_;obtain rfl:=V0
  have d:aB k Q F C D H (bz k F) (if 0<=i/\i<=1000/\l.length=1 then .b (.d C.b) (C.e (.c (cq i.toNat l).flatten))else .d) Y g0:=m
  by_cases s:0<=i/\i<=1000/\l.length=1
  ·rw[if_pos s]at d
   have l1:=J.b
   simp only[fq]at l1
   have G1:j.size*i.toNat<=2^24:=by rw[l1,s.2.2,Nat.one_mul];exact az (nT.mpr s.2.1) (by decide)
   refine wpAny_binaryOp_repeat_ref (T:="list") (U:="int") (by decide) (aw _ v0 rfl) (λc1=>Vv c1 i a1) noFill_list_mul b9 Vw repeat_list d9.lookup
    (AI Vw (Vv H i a1) f9 (g9 _ _) (int___rmul___int_list i a1 S j e0)
    ⟨v0,rfl,(aw _ v0 rfl),AI i9 (aw _ v0 rfl) j9 (m9 _ _)
      (PySem.AutoListH.list___mul___list_int_3 S j e0 i a1 (by simp[Builtin.List.listFitsIndex];exact⟨jc (fo (by decide) s.1),fg s.2.1 (by decide)⟩) (wu.mpr (az G1 (by decide))) (by simp[Builtin.List.listTooLong,lK];omega))
      ⟨v0,?_⟩⟩)
   have q0:∀I o,H.heap.get? I=a o->(H.heap.push (cO (Vx (λp X=>p++X) #[] (cq (if j.isEmpty=af then 0 else i.toNat) j)) 0)).get? I=a o:=λI o z=>cc _ z
   refine d _ (eZ D C.b H.heap.objs.size) _ H.toks (xu R q0 (fT _) (rO R (fT _)).2 ?_) (qg R q0 (fT _)) (by simp only[du,dv,dw,dx,dy,dz,dA,dB,dC,dD];exact(aw _ rfl (by show(if _=_ then _ else _)=_;rw[if_pos rfl])))
   refine(dK _ 0 (kW _ rfl) ?_)
   have M0:j.isEmpty=av:=by
    generalize q:j.isEmpty=x9;induction x9 with
    |false=>rfl
    |true=>have:j= #[]:=by simpa using q
           rw[this]at l1;simp at l1;omega
   have e2:(Vx (λp X=>p++X) #[] (cq (if j.isEmpty=af then 0 else i.toNat) j)).toList=(cq i.toNat j.toList).flatten:=by
    rw[M0,Cv];simp
   rw[e2]
   exact aJ.r0 R q0 (fT _) (J.u0 _)
  ·rw[if_neg s]at d;exact d.elim
end
end Mine.Internal
set_option tactic.hygienic false
namespace Mine.Internal
open PySem PySem.W PyProof.Rows
mutual
noncomputable def A.y:A->iM
 |.m=>.none
 |.o p=>.bool p
 |.b i=>.int i
 |.c l=>.str l.b
 |.e l=>.tuple (A.tocb l)
 |.k l=>.list (A.tocb l)
 |.d _=>.none
 |.h _ _=>.none
 |.g _=>.none
 |.q _=>.none
noncomputable def A.tocb:List A->List iM
 |[]=>[]
 |T::X=>A.y T::A.tocb X
end
theorem fm{V:Prop}(h:av=af):V:=nomatch h
theorem qi{n:Nat}{T:A}{X:List A}(h:A.u n (T::X)=af):A.t n T=af/\A.u n X=af:=AJ.mp h
mutual
theorem oz:∀(n:Nat)(T:A),A.t n T=af->(A.y T).canLay0=af/\(A.y T).depth<=n
 |n,.m,_=>⟨rfl,nU _⟩
 |n,.o p,_=>⟨rfl,nU _⟩
 |n,.b i,_=>⟨rfl,nU _⟩
 |n,.c l,h=>by
  have h:l.all (λI=>ba (I<128))=af:=h
  refine⟨?_,nU _⟩
  change (iM.str (am.b l)).canLay0=af
  simp only[iM.canLay0,iM.strOk]
  rw[Array.all_eq_true']
  intro Z b0
  have p0:Z∈l:=by simpa [am.b]using b0
  have:=gY.mp h Z p0
  simp at this
  simp;exact aM this (by decide)
 |0,.e l,h=>fm h
 |n+1,.e l,h=>by
  have:=oA n l h
  exact⟨this.1,wy this.2⟩
 |0,.k l,h=>fm h
 |n+1,.k l,h=>by
  have:=oA n l h
  exact⟨this.1,wy this.2⟩
 |n,.d _,h=>fm h
 |n,.h _ _,h=>fm h
 |n,.g _,h=>fm h
 |n,.q _,h=>fm h
theorem oA:∀(n:Nat)(T:List A),A.u n T=af->iM.canLayAll0 (A.tocb T)=af/\iM.depthAll (A.tocb T)<=n
 |n,[],_=>⟨rfl,nU _⟩
 |n,T::X,h=>by
  have h:=qi h
  have E:=oz n T h.1
  have N:=oA n X h.2
  exact⟨AJ.mpr ⟨E.1,N.1⟩,Nat.max_le.mpr ⟨E.2,N.2⟩⟩
end
theorem am.d{Z y:am}(h:Z.b=y.b):Z=y:=by
 have:=congrArg (λH:aD=>H.cps.toList) h
 simpa [am.b]using this
theorem am.f(Z y:am):(Z.b==y.b)=ba (Z=y):=by
 by_cases h:Z=y
 ·subst h;simp
 ·rw[decide_eq_false h]
  exact beq_eq_false_iff_ne.mpr λe=>h (am.d e)
mutual
theorem tS:∀(n:Nat)(S p:A),A.t n S=af->A.t n p=af->iM.eqv (A.y S) (A.y p)=A.w S p
 |n,.m,p,_,W=>by induction p using A.casesOn<;>first|rfl|exact fm W
 |n,.o Z,p,_,W=>by induction p using A.casesOn<;>first|rfl|exact fm W
 |n,.b Z,p,_,W=>by induction p using A.casesOn<;>first|rfl|exact fm W
 |n,.c Z,p,_,W=>by
  induction p using A.casesOn<;>first|rfl|exact fm W|exact am.f _ _
 |0,.e l,p,h,W=>fm h
 |n+1,.e l,p,h,W=>by
  induction p using A.casesOn<;>first|rfl|exact fm W|exact tT n _ _ h W
 |0,.k l,p,h,W=>fm h
 |n+1,.k l,p,h,W=>by
  induction p using A.casesOn<;>first|rfl|exact fm W|exact tT n _ _ h W
 |n,.d _,p,h,W=>fm h
 |n,.h _ _,p,h,W=>fm h
 |n,.g _,p,h,W=>fm h
 |n,.q _,p,h,W=>fm h
theorem tT:∀(n:Nat)(S p:List A),A.u n S=af->A.u n p=af->iM.eqvAll (A.tocb S) (A.tocb p)=A.z S p
 |n,[],[],_,_=>rfl
 |n,[],_::_,_,_=>rfl
 |n,_::_,[],_,_=>rfl
 |n,S::s,p::a0,h,u=>by
  have h:=qi h
  have u:=qi u
  show(iM.eqv (A.y S) (A.y p)&&iM.eqvAll (A.tocb s) (A.tocb a0))=(A.w S p&&A.z s a0)
  rw[tS n S p h.1 u.1,tT n s a0 h.2 u.2]
end
section
variable{k:aU}{L:Bool}{n:Nat}{U:bo}{Q:List aN}{F:ai->Prop}{C:j}{D:Nat->Option ai}{H:ay}{Y:aj->ay->Prop}{g0:aj->ay->Prop}
mutual
theorem qj{h:aG}:∀(n:Nat)(T:A)(V:aj),aC k D F h T V->A.t n T=af->∃s,AK h V (A.y T) s
 |n,.m,V,q,_=>by rw[lU q];exact⟨_,.none⟩
 |n,.o p,V,q,_=>by rw[tR q];exact⟨_,.bool p⟩
 |n,.b i,V,q,_=>by obtain⟨t,rfl⟩:=cG q;exact⟨_,.int i t⟩
 |n,.c l,V,q,_=>by obtain⟨t,rfl⟩:=fy q;exact⟨_,.str _ t⟩
 |0,.e l,V,q,h=>fm h
 |n+1,.e l,V,q,h=>by
  have h:A.u n l=af:=h
  refine eJ (jl q) λS M w V0 v0 f0=>?_;obtain rfl:=V0
  obtain⟨s,j0⟩:=mJ n l _ f0 h
  exact⟨_,.tuple v0 rfl rfl j0⟩
 |0,.k l,V,q,h=>fm h
 |n+1,.k l,V,q,h=>by
  have h:A.u n l=af:=h
  refine lj (iQ q) λS M w V0 v0 f0 _=>?_;obtain rfl:=V0
  obtain⟨s,j0⟩:=mJ n l _ f0 h
  exact⟨_,.list v0 rfl rfl j0⟩
 |n,.d _,_,_,h=>fm h
 |n,.h _ _,_,_,h=>fm h
 |n,.g _,_,_,h=>fm h
 |n,.q _,_,_,h=>fm h
theorem mJ{h:aG}:∀(n:Nat)(T:List A)(V:List aj),aJ k D F h T V->A.u n T=af->∃s,ReadsAll h V (A.tocb T) s
 |n,[],V,q,_=>by simp only[cA,cB]at q;rw[q];exact⟨_,.nil⟩
 |n,T::X,V,q,p0=>by
  simp only[cA,cB]at q
  have p0:=qi p0
  refine de (q) λm0 r n0 E N=>?_;obtain rfl:=n0
  obtain⟨s,v0⟩:=qj n T m0 E p0.1
  obtain⟨a0,W⟩:=mJ n X r N p0.2
  exact⟨_,.cons v0 W⟩
end
theorem Cw{h:aG}(R:bj k D F C h){n:Nat}{T:A}{V:aj}(q:aC k D F h T V)(p0:A.t n (jV C T)=af):∃s,AK h V (A.y (jV C T)) s:=by
 induction T using A.casesOn with
 |d r=>
  refine aA (eT q) λS J0 v0=>?_;obtain rfl:=J0
  replace p0:A.t n (xj r (C.c r))=af:=p0
  show∃s,AK h (ax S) (A.y (xj r (C.c r))) s
  generalize w0:C.c r=x9;induction x9 with
  |none=>rw[w0]at p0;exact gR p0
  |some o=>rw[w0]at p0;induction o with
   |c l=>
    refine hV (R.b r _ w0) λp W M w v f0=>?_
    replace W:=be v0 W;subst W
    induction n using kX with
    |zero=>exact gR p0
    |succ n=>
     replace p0:A.u n l=af:=p0
     refine aF (mJ n l _ f0 p0) λs j0=>?_
     exact⟨_,.list v rfl rfl j0⟩
   |_=>exact gR p0
 |_=>exact qj n _ V q p0
theorem LB{h:aG}(R:bj k D F C h){n:Nat}:∀(l:List A)(V:List aj),aJ k D F h l V->A.u n (l.map (jV C))=af->∃s,ReadsAll h V (A.tocb (l.map (jV C))) s:=by
 intro J
 induction J with
 |nil=>
  intro V q _
  simp only[cA,cB]at q;rw[q];exact⟨_,.nil⟩
 |cons T X U=>
  intro V q p0
  simp only[cA,cB]at q
  replace p0:=qi (T:=jV C T) (X:=X.map (jV C)) p0
  refine de (q) λm0 r n0 E N=>?_;obtain rfl:=n0
  obtain⟨s,v0⟩:=Cw R E p0.1
  obtain⟨a0,W⟩:=U r N p0.2
  exact⟨_,.cons v0 W⟩
theorem Cx{h:aG}(R:bj k D F C h){n:Nat}{T:A}{V:aj}(q:aC k D F h T V)(p0:A.t n (fQ C T)=af):∃s,AK h V (A.y (fQ C T)) s:=by
 induction T using A.casesOn with
 |e l=>
  refine eJ (jl q) λS M w V0 v0 f0=>?_;obtain rfl:=V0
  induction n using kX with
  |zero=>exact gR p0
  |succ n=>
   replace p0:A.u n (l.map (jV C))=af:=p0
   refine aF (LB R l _ f0 p0) λs j0=>?_
   exact⟨_,.tuple v0 rfl rfl j0⟩
 |_=>exact Cw R q p0
noncomputable abbrev iR(C:j)(r:Option Bool):au Bool:=match r with|some p=>.b p C|none=>.d
noncomputable abbrev kE(s0:Bool->ay->Prop):aj->ay->Prop:=λI c1=>∃r,I=eQ r/\s0 r c1
noncomputable def rP{c s:Type}(R:c->s->Prop):Option c->Option s->Prop
 |some T,a V=>R T V
 |none,ae=>True
 |_,_=>False
theorem Cy{c s:Type}{R:c->s->Prop}{o:Option c}{q:Option s}(h:rP R o q):q.isSome=o.isSome:=by
 induction o<;>induction q<;>first|rfl|exact h.elim
theorem qk{h:aG}:∀{l:List (am×A)}{o0:List (aD×aj)}(w:am),bT k D F h am.b l o0->rP (aC k D F h) (aX l w) (fO o0 w.b):=by
 intro J
 induction J with
 |nil=>
  intro o0 w q
  have t:o0=[]:=q
  subst t;trivial
 |cons f l U=>
  obtain⟨Z,T⟩:=f
  rintro o0 w ⟨V,r,e,E,N⟩
  subst e
  by_cases b0:Z=w
  ·subst b0;rw[show aX ((Z,T)::l) Z=a T by simp[aX],show fO ((Z.b,V)::r) Z.b=a V by simp[fO]];exact E
  ·have p0:¬Z.b=w.b:=λz=>b0 (am.d z)
   rw[show aX ((Z,T)::l) w=aX l w by simp[aX,b0],show fO ((Z.b,V)::r) w.b=fO r w.b by simp[fO,p0]]
   exact U w N
theorem Cz{h:aG}:∀{l:List (Int×A)}{o0:List (Int×aj)}(w:Int),bT k D F h (λi=>i) l o0->rP (aC k D F h) (iy l w) (fO o0 w):=by
 intro J
 induction J with
 |nil=>
  intro o0 w q
  have t:o0=[]:=q
  subst t;trivial
 |cons f l U=>
  obtain⟨Z,T⟩:=f
  rintro o0 w ⟨V,r,e,E,N⟩
  subst e
  by_cases b0:Z=w
  ·subst b0;rw[show iy ((Z,T)::l) Z=a T by simp[iy],show fO ((Z,V)::r) Z=a V by simp[fO]];exact E
  ·rw[show iy ((Z,T)::l) w=iy l w by simp[iy,b0],show fO ((Z,V)::r) w=fO r w by simp[fO,b0]]
   exact U w N
theorem rQ{m0 S p I:Nat}(h:m0+64<I)(v0:S<=4):m0+1+min S p<I:=el (wr (az (jR S p) v0) (m0+1)) (el (show m0+5<=m0+64 from wr (by decide) m0) h)
theorem LD{h:aG}{H:ay}(l0:H.heap=h)(D0:U.units+64<wv):∀{w l:List (am×A)}{I O:List (aD×aj)},bT k D F h am.b w I->bT k D F h am.b l O->w.all (λV=>A.t 4 V.2)=af->l.all (λV=>A.t 4 V.2)=af->
 KeqHits U.in1 H O I (w.all λV=>match aX l V.1 with|some T=>A.w V.2 T|none=>av):=by
 subst l0
 intro w
 induction w with
 |nil=>intro l I O q _ _ _;replace q:I=[]:=q;subst q;exact .nil
 |cons L w Y=>
  intro l I O q Q q0 k0
  obtain⟨Z,T⟩:=L
  refine de (id q) λV r e E N=>?_;subst e
  simp only[Vy,pp]at q0
  replace Y:=Y N Q q0.2 k0
  have w0:=qk Z Q
  rw[Vy]
  generalize b0:aX l Z=x9;induction x9 with
  |none=>
   rw[b0]at w0
   generalize E0:fO O Z.b=x9;induction x9 with
   |none=>simp only[Vz];exact .miss E0
   |some y=>rw[E0]at w0;exact w0.elim
  |some C=>
   rw[b0]at w0
   generalize E0:fO O Z.b=x9;induction x9 with
   |none=>rw[E0]at w0;exact w0.elim
   |some y=>
    rw[E0]at w0
    have x:A.t 4 C=af:=by
     unfold aX at b0
     generalize B0:l.find? (λV=>ba (V.1=Z))=x9;induction x9 with
     |none=>rw[B0]at b0;cases b0
     |some d0=>
      rw[B0]at b0;cases b0
      exact gY.mp k0 d0 (AL B0)
    refine aF (qj 4 T V E q0.1) λs u=>?_
    refine aF (qj 4 C y w0 x) λa0 v=>?_
    have l1:=oz 4 _ q0.1;have l2:=oz 4 _ x
    refine .hit E0 ?_ Y
    show SeqAt.EqAt U.in1 H V y (A.w T C)
    rw[<-tS 4 _ _ q0.1 x]
    exact n9 _ _ _ _ _ _ _ _ u v l1.1 l2.1 (rQ D0 l1.2)
theorem bT.length{g b0:Type}{f:b0->g}{h:aG}:∀{l:List (b0×A)}{o0:List (g×aj)},bT k D F h f l o0->o0.length=l.length:=by
 intro J
 induction J with
 |nil=>
  intro _ q
  have t:_=[]:=q;rw[t];rfl
 |cons _ _ U=>
  rintro _ ⟨_,_,e,_,N⟩
  rw[e,fi,fi,U N]
theorem jX(o:k.d.get? ko≠ae)(R:bj k D F C H.heap){r:Nat}{S:ai}(v0:D r=a S):(S==ko)=av:=by
 refine beq_eq_false_iff_ne.mpr λe=>?_
 exact o (e▸R.u r S v0)
theorem tU{n:Nat}{d:iM}(y0:n<=64)(l:d.canLay0=af/\d.depth<=n):o9 d=af:=AJ.mpr ⟨l.1,decide_eq_true (az l.2 y0)⟩
theorem rR{I d:Bool}{c:Type}{Z p:c}(h:(if(I&&d)=af then a Z else ae)=a p):I=af/\d=af/\Z=p:=by
 induction I with
 |false=>exact bD h
 |true=>induction d with
  |false=>exact bD h
  |true=>exact⟨rfl,rfl,bn h⟩
theorem LF{x:A->A->Bool->Prop}{m0 T:A}{p:Bool}(h:ji C m0 T=a p)(c1:∀i B,x (.b i) (.b B) (i==B))(c2:∀Z y,x (.c Z) (.c y) (ba (Z=y)))(I:∀r q w l,C.c r=a (.b w)->C.c q=a (.b l)->(w.all λV=>A.t 4 V.2)=af->(l.all λV=>A.t 4 V.2)=af->x (.d r) (.d q) (rJ w l))(e:∀r q w l,C.c r=a (.c w)->C.c q=a (.c l)->A.u 4 w=af->A.u 4 l=af->x (.d r) (.d q) (A.z w l))(F:∀m0 T,A.t 6 (fQ C m0)=af->A.t 6 (fQ C T)=af->x m0 T (A.w (fQ C m0) (fQ C T))):x m0 T p:=by
 have d:∀m0 T,(if(A.t 6 (fQ C m0)&&A.t 6 (fQ C T))=af then a (A.w (fQ C m0) (fQ C T))else ae)=a p->x m0 T p:=λm0 T h=>by
  refine kr (rR h) λE N h3=>?_
  exact h3▸F m0 T E N
 induction m0 using A.casesOn with
 |b i=>induction T using A.casesOn with
  |b B=>exact bn h▸c1 i B
  |_=>exact d _ _ h
 |c Z=>induction T using A.casesOn with
  |c y=>exact bn h▸c2 Z y
  |_=>exact d _ _ h
 |d r=>induction T using A.casesOn with
  |d q=>
   replace h:BV (C.c r) (C.c q)=a p:=h
   have I:=I r q
   have e:=e r q
   generalize x (.d r) (.d q)=x at I e⊢
   generalize C.c r=o,C.c q=U0 at h I e
   induction o with
   |none=>exact bD h
   |some o=>induction U0 with
    |none=>induction o<;>exact bD h
    |some U0=>induction o with
     |c w=>induction U0 with
      |c l=>
       refine kr (rR h) λE N h3=>?_
       exact h3▸e w l rfl rfl E N
      |_=>exact bD h
     |b w=>induction U0 with
      |b l=>
       refine kr (rR h) λE N h3=>?_
       exact h3▸I w l rfl rfl E N
      |_=>exact bD h
     |d _=>exact bD h
  |_=>exact d _ _ h
 |_=>exact d _ _ h
theorem CA{M:Bool}{m0 T:A}{V q:aj}{p:Bool}{Y:aj->ay->Prop}(J:bZ k L n U Q F C D H.heap)(o:k.d.get? ko≠ae)(D0:aC k D F H.heap m0 V)(h0:aC k D F H.heap T q)(W:ji C m0 T=a p)(g:Y (eQ (cond M (!p) p)) H):aR (aQ k.b k.c) U (jw (cond M .NotEq .Eq) V q) Y g0 H:=by
 have R:=J.c
 have e:U.units+64<wv:=xa (by decide) J.f.b
 clear J
 revert D0 h0 g
 refine LF (x:=λm0 T p=>aC k D F H.heap m0 V->aC k D F H.heap T q->Y (eQ (cond M (!p) p)) H->aR (aQ k.b k.c) U (jw (cond M .NotEq .Eq) V q) Y g0 H) W ?_ ?_ ?_ ?_ ?_
 ·intro i B D0 h0 g
  obtain⟨t,rfl⟩:=cG D0;obtain⟨a1,rfl⟩:=cG h0
  induction M with
  |false=>exact r9 g
  |true=>exact s9 g
 ·intro Z y D0 h0 g
  obtain⟨t,rfl⟩:=fy D0;obtain⟨a1,rfl⟩:=fy h0
  rw[<-am.f]at g
  induction M with
  |false=>exact t9 g
  |true=>exact u9 g
 ·intro r m w l q0 k0 E N D0 h0 g
  refine aA (eT D0) λS J0 v0=>?_;obtain rfl:=J0;refine aA (eT h0) λp J0 W=>?_;obtain rfl:=J0
  refine jB (R.b r _ q0) λI0 X I b h=>?_;refine jB (R.b m _ k0) λP f0 O b0 z=>?_
  replace X:=be v0 X;subst X;(replace f0:=be W f0;subst f0)
  have T0:=λ(_:True)=>LD (U:=U) rfl e h z E N
  induction M with
  |false=>refine keq_eq (jX o R v0) (jX o R W) b b0 (el (dp _ _) e) (λ_=>T0 ⟨⟩) ?_;rw[h.length,z.length];exact g
  |true=>refine keq_ne (jX o R v0) (jX o R W) b b0 (el (dp _ _) e) (λ_=>T0 ⟨⟩) ?_;rw[h.length,z.length];exact g
 ·intro r m w l q0 k0 E N D0 h0 g
  refine aA (eT D0) λS J0 v0=>?_;obtain rfl:=J0;refine aA (eT h0) λp J0 W=>?_;obtain rfl:=J0
  refine hV (R.b r _ q0) λI0 X j e0 c h=>?_;refine hV (R.b m _ k0) λP f0 G f n0 z=>?_
  replace X:=be v0 X;subst X;(replace f0:=be W f0;subst f0)
  obtain⟨s,u⟩:=mJ 4 w _ h E
  obtain⟨a0,v⟩:=mJ 4 l _ z N
  have l1:=oA 4 _ E;have l2:=oA 4 _ N
  replace l1:=tU (n:=5) (d:=.list (A.tocb w)) (by decide) ⟨l1.1,wy l1.2⟩;replace l2:=tU (n:=5) (d:=.list (A.tocb l)) (by decide) ⟨l2.1,wy l2.2⟩
  rw[<-tT 4 _ _ E N]at g
  induction M with
  |false=>exact VA (.list c rfl rfl u) (.list n0 rfl rfl v) l1 l2 e g
  |true=>exact VB (.list c rfl rfl u) (.list n0 rfl rfl v) l1 l2 e g
 ·intro m0 T E N D0 h0 g
  obtain⟨s,u⟩:=Cx R D0 E
  obtain⟨a0,v⟩:=Cx R h0 N
  have l1:=tU (by decide) (oz 6 _ E);have l2:=tU (by decide) (oz 6 _ N)
  rw[<-tS 6 _ _ E N]at g
  induction M with
  |false=>exact VA u v l1 l2 e g
  |true=>exact VB u v l1 l2 e g
theorem LG{m0 T:A}{V q:aj}{s0:Bool->ay->Prop}(J:bZ k L n U Q F C D H.heap)(o:k.d.get? ko≠ae)(D0:aC k D F H.heap m0 V)(h0:aC k D F H.heap T q)(m:aB k Q F C D H iB (iR C (ji C m0 T)) s0 g0):aR (aQ k.b k.c) U (jw .Eq V q) (kE s0) g0 H:=by
 generalize W:ji C m0 T=x9;induction x9 with
 |none=>rw[W]at m;exact m.elim
 |some p=>rw[W]at m;exact CA (M:=av) J o D0 h0 W (aw _ rfl (m.g (t:=H.toks) J.c rfl))
theorem LH{m0 T:A}{V q:aj}{s0:Bool->ay->Prop}(J:bZ k L n U Q F C D H.heap)(o:k.d.get? ko≠ae)(D0:aC k D F H.heap m0 V)(h0:aC k D F H.heap T q)(m:aB k Q F C D H iB (iR C ((ji C m0 T).map (!·))) s0 g0):aR (aQ k.b k.c) U (jw .NotEq V q) (kE s0) g0 H:=by
 generalize W:ji C m0 T=x9;induction x9 with
 |none=>rw[W]at m;exact m.elim
 |some p=>rw[W]at m;exact CA (M:=af) J o D0 h0 W (aw _ rfl (m.g (t:=H.toks) J.c rfl))
theorem LI{m0 T:A}{V q:aj}{s0:Bool->ay->Prop}(J:bZ k L n U Q F C D H.heap)(D0:aC k D F H.heap m0 V)(h0:aC k D F H.heap T q)(m:aB k Q F C D H iB (iR C (cC C .f m0 T)) s0 g0):aR (aQ k.b k.c) U (jw .Lt V q) (kE s0) g0 H:=by
 induction m0 using A.casesOn<;>try exact m.elim
 all_goals(induction T using A.casesOn<;>try exact m.elim)
 obtain⟨t,rfl⟩:=cG D0;obtain⟨a1,rfl⟩:=cG h0
 exact PySem.P.lt_int (aw _ rfl (m.g (t:=H.toks) J.c rfl))
theorem LJ{m0 T:A}{V q:aj}{s0:Bool->ay->Prop}(J:bZ k L n U Q F C D H.heap)(D0:aC k D F H.heap m0 V)(h0:aC k D F H.heap T q)(m:aB k Q F C D H iB (iR C (cC C .g m0 T)) s0 g0):aR (aQ k.b k.c) U (jw .LtE V q) (kE s0) g0 H:=by
 induction m0 using A.casesOn<;>try exact m.elim
 all_goals(induction T using A.casesOn<;>try exact m.elim)
 obtain⟨t,rfl⟩:=cG D0;obtain⟨a1,rfl⟩:=cG h0
 exact PySem.P.le_int (aw _ rfl (m.g (t:=H.toks) J.c rfl))
theorem LK{m0 T:A}{V q:aj}{s0:Bool->ay->Prop}(J:bZ k L n U Q F C D H.heap)(D0:aC k D F H.heap m0 V)(h0:aC k D F H.heap T q)(m:aB k Q F C D H iB (iR C (cC C .d m0 T)) s0 g0):aR (aQ k.b k.c) U (jw .Gt V q) (kE s0) g0 H:=by
 induction m0 using A.casesOn<;>try exact m.elim
 all_goals(induction T using A.casesOn<;>try exact m.elim)
 obtain⟨t,rfl⟩:=cG D0;obtain⟨a1,rfl⟩:=cG h0
 exact PySem.P.gt_int (aw _ rfl (m.g (t:=H.toks) J.c rfl))
theorem LL{m0 T:A}{V q:aj}{s0:Bool->ay->Prop}(J:bZ k L n U Q F C D H.heap)(D0:aC k D F H.heap m0 V)(h0:aC k D F H.heap T q)(m:aB k Q F C D H iB (iR C (cC C .i m0 T)) s0 g0):aR (aQ k.b k.c) U (jw .GtE V q) (kE s0) g0 H:=by
 induction m0 using A.casesOn<;>try exact m.elim
 all_goals(induction T using A.casesOn<;>try exact m.elim)
 obtain⟨t,rfl⟩:=cG D0;obtain⟨a1,rfl⟩:=cG h0
 exact PySem.P.ge_int (aw _ rfl (m.g (t:=H.toks) J.c rfl))
theorem CB:∀(l:List A)(S:A),A.u 4 l=af->A.t 4 S=af->((A.tocb l).any λy=>iM.eqv y (A.y S))=l.any λy=>A.w y S:=by
 intro J
 induction J with
 |nil=>
  intro _ _ _
  exact rfl
 |cons T l U=>
  intro S h v0
  replace h:=qi h
  show((A.y T).eqv (A.y S)||(A.tocb l).any λy=>iM.eqv y (A.y S))=(A.w T S||l.any λy=>A.w y S)
  rw[tS 4 T S h.1 v0,U S h.2 v0]
theorem LM{x:A->A->Bool->Prop}{m0 T:A}{p:Bool}(h:mF C m0 T=a p)(c1:∀l,A.u 4 l=af->A.t 4 m0=af->x m0 (.e l) (l.any λy=>A.w y m0))(c2:∀l,A.u 4 l=af->A.t 4 m0=af->x m0 (.k l) (l.any λy=>A.w y m0))(I:∀r l w,C.c r=a (.b l)->x (.c w) (.d r) (aX l w).isSome)(e:∀r l w,C.c r=a (.d l)->x (.b w) (.d r) (iy l w).isSome):x m0 T p:=by
 induction T using A.casesOn with
 |e l=>
  refine kr (rR h) λE N h3=>?_
  exact h3▸c1 l E N
 |k l=>
  refine kr (rR h) λE N h3=>?_
  exact h3▸c2 l E N
 |d r=>
  replace h:BW (C.c r) m0=a p:=h
  have I:=I r
  have e:=e r
  clear c1 c2
  generalize A.d r=T at I e⊢
  generalize C.c r=o at h I e
  induction o with
  |none=>exact bD h
  |some o=>induction o with
   |b l=>induction m0 using A.casesOn with
    |c w=>exact bn h▸I l w rfl
    |_=>exact bD h
   |d l=>induction m0 using A.casesOn with
    |b w=>exact bn h▸e l w rfl
    |_=>exact bD h
   |c _=>induction m0 using A.casesOn<;>exact bD h
 |_=>exact bD h
theorem CC{G:Bool}{m0 T:A}{V q:aj}{p:Bool}{Y:aj->ay->Prop}(J:bZ k L n U Q F C D H.heap)(o:k.d.get? ko≠ae)(D0:aC k D F H.heap m0 V)(h0:aC k D F H.heap T q)(W:mF C m0 T=a p)(g:∀t,Y (eQ (cond G (!p) p)) {H with toks:=t}):aR (aQ k.b k.c) U (jw (cond G .NotIn .In) V q) Y g0 H:=by
 have R:=J.c
 have e:U.units+64<wv:=xa (by decide) J.f.b
 clear J
 revert D0 h0 g
 refine LM (x:=λm0 T p=>aC k D F H.heap m0 V->aC k D F H.heap T q->(∀t,Y (eQ (cond G (!p) p)) {H with toks:=t})->aR (aQ k.b k.c) U (jw (cond G .NotIn .In) V q) Y g0 H) W ?_ ?_ ?_ ?_
 ·intro l E N D0 h0 g
  refine eJ (jl h0) λS j e0 V0 c h=>?_;obtain rfl:=V0
  refine aF (mJ 4 l _ h E) λs u=>?_
  refine aF (qj 4 m0 _ D0 N) λa0 v=>?_
  have l1:=oA 4 _ E;have l2:=oz 4 _ N
  rw[<-CB l m0 E N]at g
  induction G with
  |false=>exact v9 (.tuple c rfl rfl u) v l1.1 l2.1 (rQ e l1.2) (g H.toks)
  |true=>exact w9 (.tuple c rfl rfl u) v l1.1 l2.1 (rQ e l1.2) (g H.toks)
 ·intro l E N D0 h0 g
  refine lj (iQ h0) λS j e0 V0 c h _=>?_;obtain rfl:=V0
  refine aF (mJ 4 l _ h E) λs u=>?_
  refine aF (qj 4 m0 _ D0 N) λa0 v=>?_
  have l1:=oA 4 _ E;have l2:=oz 4 _ N
  rw[<-CB l m0 E N]at g
  induction G with
  |false=>exact y9 (.list c rfl rfl u) v l1.1 l2.1 (rQ e l1.2) (g H.toks)
  |true=>exact A9 (.list c rfl rfl u) v l1.1 l2.1 (rQ e l1.2) (g H.toks)
 ·intro r l w w0 D0 h0 g
  refine aF (fy D0) λt J0=>?_;obtain rfl:=J0
  refine aA (eT h0) λS J0 v0=>?_;obtain rfl:=J0
  refine jB (R.b r _ w0) λI0 X I b h=>?_
  replace X:=be v0 X;subst X
  rw[<-Cy (qk w h)]at g
  induction G with
  |false=>exact VC (pq k.b k.c w.b t) (jX o R v0) b.mapOf (g _)
  |true=>exact VD (pq k.b k.c w.b t) (jX o R v0) b.mapOf (g _)
 ·intro r l w w0 D0 h0 g
  refine aF (cG D0) λt J0=>?_;obtain rfl:=J0
  refine aA (eT h0) λS J0 v0=>?_;obtain rfl:=J0
  refine jB (R.b r _ w0) λI0 X I b h=>?_
  replace X:=be v0 X;subst X
  rw[<-Cy (Cz w h)]at g
  induction G with
  |false=>exact VC (AM k.b k.c w t) (jX o R v0) b.mapOf (g _)
  |true=>exact VD (AM k.b k.c w t) (jX o R v0) b.mapOf (g _)
theorem LN{m0 T:A}{V q:aj}{s0:Bool->ay->Prop}(J:bZ k L n U Q F C D H.heap)(o:k.d.get? ko≠ae)(D0:aC k D F H.heap m0 V)(h0:aC k D F H.heap T q)(m:aB k Q F C D H iB (iR C (mF C m0 T)) s0 g0):aR (aQ k.b k.c) U (jw .In V q) (kE s0) g0 H:=by
 generalize W:mF C m0 T=x9;induction x9 with
 |none=>rw[W]at m;exact m.elim
 |some p=>rw[W]at m;exact CC (G:=av) J o D0 h0 W λ_=>(aw _ rfl (m.g J.c rfl))
theorem LO{m0 T:A}{V q:aj}{s0:Bool->ay->Prop}(J:bZ k L n U Q F C D H.heap)(o:k.d.get? ko≠ae)(D0:aC k D F H.heap m0 V)(h0:aC k D F H.heap T q)(m:aB k Q F C D H iB (iR C ((mF C m0 T).map (!·))) s0 g0):aR (aQ k.b k.c) U (jw .NotIn V q) (kE s0) g0 H:=by
 generalize W:mF C m0 T=x9;induction x9 with
 |none=>rw[W]at m;exact m.elim
 |some p=>rw[W]at m;exact CC (G:=af) J o D0 h0 W λ_=>(aw _ rfl (m.g J.c rfl))
end
end Mine.Internal
set_option tactic.hygienic true
namespace Mine.Internal
open PySem PySem.W PyProof.Rows
noncomputable def rS(g:dF)(x:ai)(O:aD):Bool:=plainGet g x O&&hasDictIn g x&&(match kY g (ax x) O with|some S=>noGet g S|none=>av)&&
 (kY g (ax x) "__setattr__"==a (a (cv "object.__setattr__")))&&plainOver g x&&(takerIn g x O==a ae)
noncomputable def rT(g:dF)(x:ai)(O:aD)(f:ai):Bool:=plainGet g x O&&(kY g (ax x) O==a (a (ax f)))&&isFn g (ax f)
noncomputable def tV(g:dF)(x c:ai):Bool:=makesIn g x&&(kY g (ax x) "__init__"==a (a (ax c)))&&(Ij g (ax c)==a (aK "function"))
structure cn(k:aU):Prop where
 b:k.h.In k.d
 e:k.d.NoLimit
 d:k.d.Ns iL k.i
 g:k.d.Ns pk k.m
 c:k.d.get? ko≠ae
 h:∀I S,bB I S=af->rS k.h (k.f I) (an S)=af
 i:∀I S f,or I S=a f->rT k.h (k.f I) (an S) (k.k f)=af
 l:∀I f,ky I=a f->tV k.h (k.f I) (k.k f)=af/\k.k I=k.f I
section
variable{C:iK}{d0:gZ}{U:bo}{H:ay}
theorem xC{O:aD}:∀{t0:List DictEntry}{o0:List (aD×aj)},Pairs (eR C d0) t0 o0->
 (match t0.find? (·.key.isStr O)with|some e=>a (a e.val)|none=>if t0.any (·.refKey)then ae else a ae)=a (fO o0 O):=by
 intro t0
 induction t0 with
 |nil=>intro _ h;cases h;simp[fO]
 |cons e t0 Y=>
  intro _ h
  cases h with
  | @cons _ G _ o0 E N h3=>
    obtain⟨w,T⟩:=G
    refine aF (Ik E) λt F0=>?_
    replace Y:=Y h3
    have q0:e.key.isStr O=ba (w=O):=by rw[F0];show(w==O)=_;exact Bool.beq_eq_decide_eq w O
    have j0:e.refKey=av:=by
     clear Y E N h3 q0;obtain⟨S,p,I⟩:=e
     simp only at F0
     subst F0;rfl
    simp only[td,q0,wz,j0,VE]
    clear E h3 F0 q0 j0;by_cases y0:w=O
    ·clear Y;subst y0
     simp only[decide_true]
     simp only at N
     simp[fO,N]
    ·simp only[y0,decide_false]
     rw[Y]
     simp[fO,td,y0]
theorem CD{h:aG}{d:ai}{o0:List (aD×aj)}(i0:h.DictOf (eR C d0) d o0):∃t0 n,h.get? d=a (wA t0 n)/\Pairs (eR C d0) t0 o0/\KeysOf (eR C d0) t0.toArray/\(o0.map (·.1)).Nodup:=by
 refine pV (i0) λX t0 X0 v b0 z0 q0 p0 y0=>?_;obtain⟨I,h0,B,c⟩:=X
 clear i0;refine kr (b0) λE N h3=>?_
 simp only at E N h3 z0
 clear b0;subst E N h3 z0
 exact(gM t0.toList X0 (by rw[v]) p0 (by simpa using q0) y0)
end
namespace tW
noncomputable def E0(C:iK)(d0:gZ)(U:bo)(H:ay)(g0:aj->ay->Prop)(d:ai)(o0:List (aD×aj))(O:aD)(T:aj)(Y:Unit->ay->Prop):Prop:=∀(i0:H.heap.DictOf (eR C d0) d o0)(h:∀u,u.DictOf (eR C d0) d (pr o0 O T)->hG d H.heap u->(∃o,u.get? d=a o/\∃t0 n,o.data=eo t0 n/\t0.size<=o0.length+1)->Y () {H with heap:=u,toks:=H.toks+1}),aR (aQ C d0) U (nsSet d O T) Y g0 H
noncomputable def O0:iK×gZ×bo×ay×(aj->ay->Prop)×ai×(List (aD×aj))×aD×aj×(Unit->ay->Prop)->Prop:=W λC=>W λd0=>W λU=>W λH=>W λg0=>W λd=>W λo0=>W λO=>W λT=>λY=>E0 C d0 U H g0 d o0 O T Y
def c0:=dQ (J (bY Cr (bY tQ (bY xx (J (J (J (J (J inferInstance))))))))) O0
def C:iK:=c0.1
def d0:gZ:=c0.2.1
def U:bo:=c0.2.2.1
def H:ay:=c0.2.2.2.1
noncomputable def g0:aj->ay->Prop:=c0.2.2.2.2.1
def d:ai:=c0.2.2.2.2.2.1
def o0:List (aD×aj):=c0.2.2.2.2.2.2.1
def O:aD:=c0.2.2.2.2.2.2.2.1
def T:aj:=c0.2.2.2.2.2.2.2.2.1
noncomputable def Y:Unit->ay->Prop:=c0.2.2.2.2.2.2.2.2.2
theorem Q0:E0 C d0 U H g0 d o0 O T Y:=by
 intro i0 h
 refine cX (CD i0) λt0 n v p0 q0 y0=>?_
 unfold nsSet
 refine bk (bk (wpAny_askSetting (cJ (bk (wB (bk (Il v ?_)))))))
 dsimp only
 have k0:=xC (O:=O) p0
 have I:(!t0.any (·.key.isStr O)&&t0.any (·.refKey))=av:=by
  cases B0:t0.find? (·.key.isStr O)with
  |some F=>rw[mv.mpr (aw F (AL B0) (Im B0))];rfl
  |none=>
   rw[B0]at k0
   cases j0:t0.any (·.refKey)with
   |false=>rw[Bool.and_false]
   |true=>rw[j0]at k0;cases k0
 rw[aRefKeyMayBeTheName_at,<-VF,<-VF,I]
 refine wpAny_updatePart v ?_
 have Q:((H.heap.update d (cu.putName O (AN d0 O) (dG O H.toks) T)).get? d)=a (wA (putL O (AN d0 O) (dG O H.toks) T t0) (putN O t0 n)):=by
  rw[<-VG]
  exact mw _ v (by rw[VG];rfl)
 have k:(t0.findIdx? λe=>(eR C d0).is O e.key)=t0.findIdx? λe=>e.key.isStr O:=by
  congr 1
  funext e
  cases e.key<;>rfl
 have j:(eR C d0).is O (dG O H.toks)=af:=pq C d0 O H.toks
 have J0:=putL_find O (AN d0 O) (dG O H.toks) T t0
 refine h _ (dY _ _ _ Q ⟨rfl,rfl,rfl⟩ rfl ⟨?_,?_,?_⟩) (AO ..) (aw _ Q ⟨_,_,rfl,?_⟩)
 ·rw[<-J0]
  cases f0:t0.findIdx? λe=>e.key.isStr O with
  |some i=>simpa using q0.modify i T
  |none=>
   have B:KeysOf (eR C d0) (t0.toArray.push ⟨AN d0 O,dG O H.toks,T⟩):=q0.push j T
   simpa using B
 ·simp only[]
  rw[<-J0]
  cases f0:t0.findIdx? λe=>e.key.isStr O with
  |some i=>
   have E:=p0.findIdx O
   rw[k,f0]at E
   rw[pr,if_pos (VH E.symm)]
   exact p0.modify y0 (k▸f0) T
  |none=>
   have E:=p0.findIdx O
   rw[k,f0]at E
   have L:=VI E.symm
   have l:¬(o0.any λG=>ba (G.1=O))=af:=by
    rw[mv];rintro⟨G,V,C0⟩
    exact L (iq.mpr (aw G V (of_decide_eq_true C0)))
   rw[pr,if_neg l]
   exact p0.append j _ T
 ·cases f0:t0.findIdx? λe=>e.key.isStr O with
  |some i=>
   have E:=p0.findIdx O
   rw[k,f0]at E
   rw[pr,if_pos (VH E.symm),keys_map_store];exact y0
  |none=>
   have E:=p0.findIdx O
   rw[k,f0]at E
   have L:=VI E.symm
   have l:¬(o0.any λG=>ba (G.1=O))=af:=by
    rw[mv];rintro⟨G,V,C0⟩
    exact L (iq.mpr (aw G V (of_decide_eq_true C0)))
   rw[pr,if_neg l,kZ,Io]
   refine⟨y0,by simp,?_⟩
   intro S v0 p W
   simp only[dX,Ip,cP]at W
   subst W
   exact λe=>L (e▸v0)
 ·rw[Iq,<-J0,<-p0.length]
  cases f0:t0.findIdx? λe=>e.key.isStr O<;>simp
end tW
theorem LP{C:iK}{d0:gZ}{U:bo}{H:ay}{g0:aj->ay->Prop}{d:ai}{o0:List (aD×aj)}{O:aD}{T:aj}{Y:Unit->ay->Prop}:tW.E0 C d0 U H g0 d o0 O T Y:=dS (Y:=tW.O0) tW.Q0 (C,d0,U,H,g0,d,o0,O,T,Y)
section
variable{C:iK}{d0:gZ}{U:bo}{H:ay}
end
section
variable{k:aU}{L:Bool}{n:Nat}{U:bo}{Q:List aN}{F:ai->Prop}{C:j}{D:Nat->Option ai}{H:ay}{Y:aj->ay->Prop}{g0:aj->ay->Prop}
theorem bT.m{h:aG}{w:am}{T:A}{V:aj}(h0:aC k D F h T V):∀{l:List (am×A)}{o0:List (aD×aj)},bT k D F h am.b l o0->bT k D F h am.b (bv l w T) (pr o0 w.b V):=by
 have C:∀{l:List (am×A)}{o0:List (aD×aj)},bT k D F h am.b l o0->(o0.any λG=>ba (G.1=w.b))=l.any λV=>ba (V.1=w):=by
  intro l
  induction l with
  |nil=>intro o0 q;have t:o0=[]:=q;subst t;rfl
  |cons Z l Y=>
   intro o0 q
   refine de (q) λm0 r e E N=>?_
   subst e
   rw[wz,wz,Y N]
   congr 1
   by_cases b0:Z.1=w
   ·rw[b0];simp
   ·rw[decide_eq_false b0,decide_eq_false (λz=>b0 (am.d z))]
 have H:∀{l:List (am×A)}{o0:List (aD×aj)},bT k D F h am.b l o0->bT k D F h am.b (l.map λV=>if V.1=w then(V.1,T)else V) (o0.map λG=>if G.1=w.b then(G.1,V)else G):=by
  intro l
  induction l with
  |nil=>intro o0 q;have t:o0=[]:=q;subst t;rfl
  |cons Z l Y=>
   intro o0 q
   refine de (q) λm0 r e E N=>?_
   subst e
   by_cases b0:Z.1=w
   ·refine(bU V _ ?_ ?_ (Y N))
    ·simp[b0]
    ·simp[b0];exact h0
   ·have p0:¬Z.1.b=w.b:=λz=>b0 (am.d z)
    refine(bU m0 _ ?_ ?_ (Y N))
    ·simp[b0,p0]
    ·simp[b0];exact E
 have s:∀{l:List (am×A)}{o0:List (aD×aj)},bT k D F h am.b l o0->bT k D F h am.b (l++[(w,T)]) (o0++[(w.b,V)]):=by
  intro l
  induction l with
  |nil=>intro o0 q;have t:o0=[]:=q;subst t;exact(bU V [] rfl h0 rfl)
  |cons Z l Y=>
   intro o0 q
   refine de (q) λm0 r e E N=>?_
   subst e
   exact(bU m0 _ rfl E (Y N))
 intro l o0 q
 unfold bv pr
 rw[C q]
 split
 ·exact H q
 ·exact s q
theorem xD(S:ak):am.b (an S).cps.toList=an S:=by
 show(⟨_⟩:aD)=_
 cases an S;simp
theorem xE{I:ak}{r:Nat}{V:aj}{l:List (am×A)}(R:bj k D F C H.heap)(q:aC k D F H.heap (.h I r) V)(w0:C.c r=a (.b l)):
 ∃Z d o0 t0 w,V=ax Z/\H.heap.get? Z=a (io (k.f I) d)/\D r=a d/\H.heap.DictOf (eR k.b k.c) d o0/\bT k D F H.heap am.b l o0/\H.heap.get? d=a (wA t0 w)/\
  Pairs (eR k.b k.c) t0 o0/\InstAt H.heap Z (io (k.f I) d) (k.f I) (a (wA t0 w)):=by
 refine de (xA q) λZ d n0 b0 z0=>?_;obtain rfl:=n0
 refine jB (R.b r _ w0) λG c o0 i0 x0=>?_
 replace c:=be z0 c;subst c
 refine cX (CD i0) λt0 w v p0 _ _=>?_
 exact(rB Z d o0 t0 w ⟨rfl,b0,z0,i0,x0,v,p0,⟨b0,rfl,rfl,v⟩⟩)
theorem LQ{h:aG}{T:A}{V:aj}(q:aC k D F h T V):handedIn V=af:=by
 induction T using A.casesOn with
 |m=>rw[lU q];rfl
 |o p=>rw[tR q];rfl
 |b i=>refine aF (cG q) λt J0=>?_;obtain rfl:=J0;rfl
 |c l=>refine aF (fy q) λt J0=>?_;obtain rfl:=J0;rfl
 |e l=>refine gg (jl q) λS _ _ V0 _=>?_;obtain rfl:=V0;rfl
 |k l=>refine gg (iQ q) λS _ _ V0 _=>?_;obtain rfl:=V0;rfl
 |d r=>refine aA (eT q) λS J0 _=>?_;obtain rfl:=J0;rfl
 |h I r=>refine fw (xA q) λS _ n0 _=>?_;obtain rfl:=n0;rfl
 |g f=>rw[rN q];rfl
 |q m0=>
  simp only[du,dv,dw,dx,dy,dz,dA,dB,dC,dD]at q
  refine BP (q) λf o G B j G0 K0 _=>?_;obtain rfl:=K0;rfl
theorem LR{I S:ak}{r:Nat}{V:aj}{l:List (am×A)}{T:A}(L0:cn k)(R:bj k D F C H.heap)(e0:bB I S=af)(q:aC k D F H.heap (.h I r) V)(w0:C.c r=a (.b l))(k0:aX l (an S).cps.toList=a T)(m:aB k Q F C D H (bz k F) (.b T C) Y g0):aR (aQ k.b k.c) U (Ir V (an S) af) Y g0 H:=by
 refine tM (xE R q w0) λZ d o0 t0 w h1=>?_;refine pR h1 λt b0 z0 i0 x0 v p0 V0=>?_;clear h1;obtain rfl:=t
 have W:=L0.h I S e0
 unfold rS at W
 simp only[pp,beq_iff_eq]at W
 refine pQ (W) λX b6=>?_;obtain⟨⟨⟨⟨b1,b2⟩,b3⟩,b4⟩,b5⟩:=X
 have h:=L0.b.keeps R.c
 have p:=qk (an S).cps.toList x0
 rw[k0,xD]at p
 generalize a1:fO o0 (an S)=x9;induction x9 with
 |none=>rw[a1]at p;exact p.elim
 |some x=>
  rw[a1]at p
  split at b3
  ·rename_i L N
   refine get_value h V0 (Is b1).1 (findObj_own b2 N b3 ?_) (LQ p) (m.g R p)
   have:=xC (O:=an S) p0
   rw[a1]at this
   exact this
  ·exact gR b3
theorem LS{I S:ak}{r:Nat}{V x:aj}{l:List (am×A)}{T:A}{s0:Unit->ay->Prop}(L0:cn k)(R:bj k D F C H.heap)(e0:bB I S=af)(q:aC k D F H.heap (.h I r) V)(w0:C.c r=a (.b l))(h0:aC k D F H.heap T x)(k0:l.length<=100)(m:aB k Q F C D H (λ_ _ _ _=>True) (.b () (C.d r (.b (bv l (an S).cps.toList T)))) s0 g0):aR (aQ k.b k.c) U (setAttr V (an S) x) s0 g0 H:=by
 refine tM (xE R q w0) λZ d o0 t0 w h1=>?_;refine pR h1 λt b0 z0 i0 x0 v p0 V0=>?_;clear h1;obtain rfl:=t
 have W:=L0.h I S e0
 unfold rS at W
 simp only[pp,beq_iff_eq]at W
 refine pQ (W) λX b6=>?_;obtain⟨⟨⟨⟨b1,b2⟩,b3⟩,b4⟩,b5⟩:=X
 have h:=L0.b.keeps R.c
 refine set_plain h V0 b4 (osa_open (s:={H with toks:=H.toks+1}) h V0 b5 b6 λp=>?_)
 refine aA (any_some b2) λg R0 L=>?_
 refine bk (cJ (bk (bk (Il (s:={H with toks:=H.toks+1}) b0 (bk (hJ.here (s:={H with toks:=H.toks+1}) (looks_clsIn (h:=H.heap) h R0) ?_))))))
 rw[L]
 refine cJ (a:=a d) (bk (cJ (bk ?_)))
 refine LP (H:={H with toks:=H.toks+1}) i0 λu E l0 O=>?_;refine hV (O) λo P0 f b c G1=>?_
 refine bk (VJ P0 (by rw[c];exact VK (by rw[ga];have:=x0.length;lia)) ?_)
 refine cJ ?_
 refine aB.c0 (J:=λ_ _ _ _=>True) (T:=()) m R z0 w0 l0 (aw _ E ?_) trivial
 rw[<-xD S]
 have e:aZ k [] bV C D H.heap (C.d r (.b [])) D u:=ow R z0 w0 l0 (by rw[P0];intro z;exact bR z)
 have:=bT.m (w:=(an S).cps.toList) (aC.b e R (cM _) (λ_ z=>nomatch z) _ _ h0) (bT.b e R (cM _) (λ_ z=>nomatch z) _ _ x0)
 exact this
end
end Mine.Internal
set_option tactic.hygienic true
namespace Mine.Internal
open PySem PySem.W PySem.Calls PyProof.Rows
def Xw(f:ak):Bool:=(an f).cps.size !=0
section
variable{k:aU}{L:Bool}{n:Nat}{G:aV}{c:v}
theorem LU{w:Nat}{u0:aH}:aE k L n G (fZ .none w u0) (ag c (.c .m)):=by
 intro U Q M F b C D H J Y g0 m
 dsimp only[rK]at m
 exact cJ (m.g (t:=H.toks) J.c ox)
theorem LV{p:Bool}{w:Nat}{u0:aH}:aE k L n G (fZ (.bool p) w u0) (ag c (.c (.o p))):=by
 intro U Q M F b C D H J Y g0 m
 dsimp only[rK]at m
 exact cJ (m.g (t:=H.toks) J.c kD)
theorem LW{Z:aD}{l:am}{w:Nat}{u0:aH}(b0:Z=l.b):aE k L n G (fZ (.str Z) w u0) (ag c (.c (.c l))):=by
 intro U Q M F b C D H J Y g0 m
 dsimp only[rK]at m
 subst b0
 show aR _ _ (AP l.b) _ _ _
 exact wB (m.g J.c lV)
theorem LX{i:Int}{w:Nat}{u0 X:aH}:aE k L n G (pt .USub (fZ (.int i) w u0) X) (ag c (.Q i)):=by
 intro U Q M F b C D H J Y g0 m
 dsimp only[Kb]at m
 show aR _ _ (do let T<-bP (fZ (.int i) w u0) M;jd X;ir [T] (Iu .USub T)) _ _ _
 refine bk (Vo (bk (qV (lL ?_))))
 exact VL (m.g J.c gS)
theorem kF{U:bo}{Q:List aN}{M:aN}{F:ai->Prop}{b:ah}{C:j}{D:Nat->Option ai}{h:aG}(J:bq k L n U Q M G F b C D h)(Z:aD):M.kindOf Z=G.lookup Z:=by
 rw[<-J.names];rfl
theorem mK{h u:aG}{S:ai}{a0:aD->Option aj}(Z:h.Ns S a0)(w:h.StaysIn u):u.Ns S a0:=by
 refine gg (Z) λo t0 X0 v r=>?_
 exact(jA o t0 X0 (w _ _ v) r)
theorem rU{U:bo}{Q:List aN}{M:aN}{F:ai->Prop}{b:ah}{C:j}{D:Nat->Option ai}{H:ay}{g0:aj->ay->Prop}{Y:aj->ay->Prop}{Z:aD}{T:aj}{u0:aH}(J:bq k L n U Q M G F b C D H.heap)(L0:cn k)(b0:G.lookup Z=a dI)(h0:k.i Z=a T)(z0:(Z==("__debug__":aD))=av)(h:Y T H):aR (aQ k.b k.c) U (bP (aY Z u0) M) Y g0 H:=
 Iv J.kind ((kF J Z).trans b0) (loadGlobal_global (by rw[J.globals];exact mK L0.d J.c.c) h0 h) z0
theorem LY{U:bo}{Q:List aN}{M:aN}{F:ai->Prop}{b:ah}{C:j}{D:Nat->Option ai}{H:ay}{g0:aj->ay->Prop}{Y:aj->ay->Prop}{Z:aD}{T:aj}{u0:aH}(J:bq k L n U Q M G F b C D H.heap)(L0:cn k)(b0:G.lookup Z=a dI)(y0:k.i Z=ae)(h0:k.m Z=a T)(z0:(Z==("__debug__":aD))=av)(h:Y T H):aR (aQ k.b k.c) U (bP (aY Z u0) M) Y g0 H:=
 Iv J.kind ((kF J Z).trans b0) (VM (by rw[J.globals];exact mK L0.d J.c.c) y0 (by rw[J.builtins];exact mK L0.g J.c.c) h0 h) z0
theorem CF{f:ak}{u0:aH}(L0:cn k)(b0:G.lookup (an f)=a dI)(h0:k.i (an f)=a (ax (k.k f))):aE k L n G (aY (an f) u0) (ag c (.h f)):=by
 intro U Q M F b C D H J Y g0 m
 dsimp only[xl]at m
 exact rU J L0 b0 h0 (qh f) (m.g (t:=H.toks) J.c (by simp only[du,dv,dw,dx,dy,dz,dA,dB,dC,dD]))
theorem LZ{f:ak}{i:Int}{u0:aH}(L0:cn k)(b0:G.lookup (an f)=a dI)(h0:∃t,k.i (an f)=a (cI i t)):aE k L n G (aY (an f) u0) (ag c (.C f i)):=by
 intro U Q M F b C D H J Y g0 m
 dsimp only[Kd]at m
 obtain⟨t,F0⟩:=h0
 exact rU J L0 b0 F0 (qh f) (m.g (t:=H.toks) J.c gS)
theorem Ma{h:aa}{e:ar}{S:ak}{u0:aH}(L0:cn k)(h0:aE k L n G h (ag c e))(C0:∀M,bP (iu h (an S) u0) M=(do let o<-bP h M;jd u0.atName;let r<-ir [o] (Ir o (an S) af);VN h o r;bI r)):
 aE k L n G (iu h (an S) u0) (ag c (.n e S)):=by
 intro U Q M F b C D H J Y g0 m
 dsimp only[pZ]at m
 refine Attribute_any_ (h0 U Q M F b C D H J _ _ (aB.y m J.c λm0 S0 V U0 H0 M0 _ n0 R0 Q0 R=>?_)) (C0 M)
 induction m0 using A.casesOn<;>try exact R.elim
 rename_i I r
 dsimp only at R
 refine R.N ?_;clear R;intro e0 R
 refine R.f0 ?_;clear R;intro l w0 R
 refine R.i0 ?_;clear R;intro Z b0 R
 exact LR L0 (H:={H with heap:=H0,toks:=M0}) n0 e0 Q0 w0 b0 R
noncomputable abbrev jm(k:aU)(L:Bool)(n:Nat)(G:aV)(t0:List aa)(f:ah->j->au (List A)):Prop:=∀u0,mI k L n G (xz k) (λM=>te (hO u0 (dq t0 M))) f
theorem Mb:jm k L n G [] (bH c []):=by
 intro u0 U Q M F b C D H J Y g0 m
 dsimp only[tP]at m
 exact pw (m.g (t:=H.toks) J.c (by simp only[xz,cA,cB]))
theorem Mc{e:aa}{t0:List aa}{Z:ar}{y0:List ar}(h:aE k L n G e (ag c Z))(l0:jm k L n G t0 (bH c y0))(C0:∀M,dq (e::t0) M=(av,bP e M)::dq t0 M):jm k L n G (e::t0) (bH c (Z::y0)):=by
 intro u0 U Q M F b C D H J Y g0 m
 dsimp only[xn]at m
 show aR _ _ (te (hO u0 (dq (e::t0) M))) _ _ _
 rw[C0]
 refine nV (h U Q M F b C D H J _ _ (aB.y m J.c λm0 S0 V U0 H0 M0 _ n0 R0 Q0 R=>?_))
 have r0:=J.p0 R0 n0
 refine l0 u0 U Q M F b S0 U0 {H with heap:=H0,toks:=M0} r0 _ _ (aB.y R n0 λX Y0 Z0 T0 P E0 _ N0 O0 e1 c0=>?_)
 refine c0.g (t:=E0) N0 ?_
 simp only[xz,cA,cB]
 exact(bU _ _ rfl (aC.b O0 n0 (cM _) r0.d.d _ _ Q0) e1)
theorem Md{t0:List aa}{y0:List ar}{w:Nat}{u0:aH}(l0:jm k L n G t0 (bH c y0))(Y0:∀b C,match bH c y0 b C with|.b X _=>X.length<=1000|_=>True):aE k L n G (gx t0 w u0) (ag c (.k y0)):=by
 intro U Q M F b C D H J Y g0 m
 dsimp only[Kp]at m
 have k0:=Y0 b C
 refine Tuple_ (l0 u0 U Q M F b C D H J _ _ (aB.y m J.c λX S0 Z0 U0 H0 M0 j0 n0 R0 Q0 R=>?_))
 rw[j0]at k0
 have l1:=aJ.b Q0
 refine pz ?_ (by show Z0.toArray.size<=lK;rw[Iq,ga];dsimp only at k0;lia)
 exact R.X (H:={H with heap:=H0,toks:=M0}) n0 (t:=M0) (λI o z=>cc _ z) (Lr n0 (by simpa using Q0))
theorem Me{t0:List aa}{y0:List ar}{u0:aH}(l0:jm k L n G t0 (bH c y0))(Y0:∀b C,match bH c y0 b C with|.b X _=>X.length<=1000|_=>True):aE k L n G (AQ t0 u0) (ag c (.M y0)):=by
 intro U Q M F b C D H J Y g0 m
 dsimp only[Kq]at m
 have k0:=Y0 b C
 refine List_ (l0 u0 U Q M F b C D H J _ _ (aB.y m J.c λX S0 Z0 U0 H0 M0 j0 n0 R0 Q0 R=>?_))
 rw[j0]at k0
 have l1:=aJ.b Q0
 refine pz ?_ (by show Z0.toArray.size<=lK;rw[Iq,ga];dsimp only at k0;lia)
 exact R.X (H:={H with heap:=H0,toks:=M0}) n0 (t:=M0) (λI o z=>cc _ z) (xB n0 (by simpa using Q0))
theorem Mf{u0:aH}:aE k L n G (AQ [] u0) (ag c .z):=by
 intro U Q M F b C D H J Y g0 m
 dsimp only[Kr]at m
 refine List_ (pw (pz ?_ (by show(0:Nat)<=lK;lia)))
 exact m.e0 J.c (t:=H.toks) (λI o z=>cc _ z) (fT _) (dK (#[]) 0 (kW _ rfl) (by simp only[cA,cB])) (by simp only[du,dv,dw,dx,dy,dz,dA,dB,dC,dD];exact(aw _ rfl oy))
theorem Mg:∀(y0:List ar)(b:ah)(C:j),match bH c y0 b C with|.b X _=>X.length=y0.length|_=>True:=by
 intro J
 induction J with
 |nil=>
  intro b C
  exact rfl
 |cons Z y0 U=>
  intro b C
  dsimp only[xn]
  cases ag c Z b C with
  |d=>trivial
  |g O=>trivial
  |b T O=>
   have Y:=U b O
   simp only[au.e]
   generalize x0:bH c y0 b O=x9;induction x9 with
   |d=>trivial
   |g g1=>trivial
   |b X g1=>rw[x0]at Y;simpa using Y
theorem CG{y0:List ar}(h:y0.length<=1000)(b:ah)(C:j):match bH c y0 b C with|.b X _=>X.length<=1000|_=>True:=by
 have:=Mg (c:=c) y0 b C
 split<;>rename_i x0
 ·rw[x0]at this;dsimp only at this;lia
 ·trivial
end
end Mine.Internal
set_option tactic.hygienic true
namespace Mine.Internal
open PySem PySem.W PySem.Calls PyProof.Rows
section
variable{k:aU}{L:Bool}{n:Nat}{U:bo}{Q:List aN}{F:ai->Prop}{C:j}{D:Nat->Option ai}{H:ay}{Y:aj->ay->Prop}{g0:aj->ay->Prop}
theorem kG{h:aG}{S:ai}{M:Array aj}{w:Nat}(v:h.get? S=a (cO M w)):h.IsList S M:=(cW _ v rfl ⟨_,rfl⟩)
theorem xF{h:aG}{S:ai}{M:Array aj}{w:Nat}(v:h.get? S=a (mH M w)):IsTup h S M:=(cW _ v rfl ⟨_,rfl⟩)
theorem Mh{T:A}{V:aj}(J:bZ k L n U Q F C D H.heap)(h0:aC k D F H.heap T V)(m:aB k Q F C D H (bz k F) (cK C .b T) Y g0):aR (aQ k.b k.c) U (gb (cv "len") [V]) Y g0 H:=by
 have R:=J.c
 induction T using A.casesOn<;>try exact m.elim
 ·rename_i l
  obtain⟨t,rfl⟩:=fy h0
  have d:aB k Q F C D H (bz k F) (if l.length<=100000 then .b (.b l.length) C else .d) Y g0:=m
  refine aB.N d ?_;clear d;intro s d
  refine SBL.len (by rw[am.c];exact fg (dO.mpr s) (by decide)) ?_
  rw[am.c]
  exact d.g R gS
 ·rename_i l
  refine eJ (jl h0) λS j e0 V0 v0 f0=>?_;obtain rfl:=V0
  have d:aB k Q F C D H (bz k F) (if l.length<=100000 then .b (.b l.length) C else .d) Y g0:=m
  have l1:=f0.b
  rw[fq]at l1
  refine aB.N d ?_;clear d;intro s d
  refine len_tuple (xF v0) (fg (bQ (dO.mpr (bw l1)) (dO.mpr s)) (by decide)) ?_
  rw[l1]
  exact d.g R gS
 ·rename_i l
  refine lj (iQ h0) λS j e0 V0 v0 f0 _=>?_;obtain rfl:=V0
  have d:aB k Q F C D H (bz k F) (if l.length<=100000 then .b (.b l.length) C else .d) Y g0:=m
  have l1:=f0.b
  rw[fq]at l1
  refine aB.N d ?_;clear d;intro s d
  refine len_list (kG v0) (fg (bQ (dO.mpr (bw l1)) (dO.mpr s)) (by decide)) ?_
  rw[l1]
  exact d.g R gS
 ·rename_i r
  refine aA (eT h0) λS J0 x=>?_;obtain rfl:=J0
  unfold cK at m
  dsimp only at m
  refine aB.a0 m ?_;clear m;intro l w0 m
  refine hV (R.b r _ w0) λI0 X j e0 v0 f0=>?_
  replace X:=be x X;subst X
  have l1:=f0.b
  rw[fq]at l1
  refine aB.N m ?_;clear m;intro s m
  refine len_list (kG v0) (fg (bQ (dO.mpr (bw l1)) (dO.mpr s)) (by decide)) ?_
  rw[l1]
  exact m.g R gS
theorem Mi{T:A}{V:aj}(J:bZ k L n U Q F C D H.heap)(h0:aC k D F H.heap T V)(m:aB k Q F C D H (bz k F) (cK C .g T) Y g0):aR (aQ k.b k.c) U (gb (cv "abs") [V]) Y g0 H:=by
 induction T using A.casesOn<;>try exact m.elim
 rename_i i
 obtain⟨t,rfl⟩:=cG h0
 refine call_abs_int λm0 D0=>?_
 have e:(if i<0 then -i else i)=(i.natAbs:Int):=by split;exact(Int.ofNat_natAbs_of_nonpos (jc ‹_›)).symm;exact(Ia (fN.mp ‹_›)).symm
 rw[e]
 exact aB.g (T:=A.b i.natAbs) m J.c gS
theorem Mj{T:A}{V:aj}(J:bZ k L n U Q F C D H.heap)(h0:aC k D F H.heap T V)(m:aB k Q F C D H (bz k F) (cK C .h T) Y g0):aR (aQ k.b k.c) U (gb (aK "list") [V]) Y g0 H:=by
 have R:=J.c
 induction T using A.casesOn<;>try exact m.elim
 rename_i r
 refine aA (eT h0) λS J0 x=>?_;obtain rfl:=J0
 unfold cK at m
 dsimp only at m
 refine aB.a0 m ?_;clear m;intro l w0 m
 refine hV (R.b r _ w0) λI0 X j e0 v0 f0=>?_
 replace X:=be x X;subst X
 have l1:=f0.b
 rw[fq]at l1
 refine aB.N m ?_;clear m;intro s m
 refine call_list_seq S (aL rfl) v0 rfl rfl (λu I q0 y0=>?_) (by rw[ga];exact az (az (bw l1) s) (by decide))
 exact m.e0 R (t:=H.toks) q0 (fT _) (dK j I y0 (aJ.r0 R q0 (fT _) f0)) (by simp only[du,dv,dw,dx,dy,dz,dA,dB,dC,dD];exact(aw _ rfl oy))
theorem Ml{T:A}{V:aj}(J:bZ k L n U Q F C D H.heap)(h0:aC k D F H.heap T V)(m:aB k Q F C D H (bz k F) (cK C .e T) Y g0):aR (aQ k.b k.c) U (gb (aK "tuple") [V]) Y g0 H:=by
 have R:=J.c
 induction T using A.casesOn<;>try exact m.elim
 rename_i r
 refine aA (eT h0) λS J0 x=>?_;obtain rfl:=J0
 unfold cK at m
 dsimp only at m
 refine aB.a0 m ?_;clear m;intro l w0 m
 refine hV (R.b r _ w0) λI0 X j e0 v0 f0=>?_
 replace X:=be x X;subst X
 have l1:=f0.b
 rw[fq]at l1
 refine aB.N m ?_;clear m;intro s m
 refine call_tuple_list (kG v0) (λu q0=>?_) (by rw[ga];exact az (az (bw l1) s) (by decide))
 have g:∀p o,H.heap.get? p=a o->(u.push (mH j 0)).get? p=a o:=λp o z=>cc _ (q0 p o z)
 refine m.X R (t:=H.toks) g ?_
 simp only[bz,du,dv,dw,dx,dy,dz,dA,dB,dC,dD]
 exact(jh _ j 0 rfl (kW _ rfl) (aJ.s R g f0))
theorem Mm{T:A}{V:aj}(J:bZ k L n U Q F C D H.heap)(h0:aC k D F H.heap T V)(m:aB k Q F C D H (bz k F) (cK C .c T) Y g0):aR (aQ k.b k.c) U (gb (cv "isinstance") [V,aK "tuple"]) Y g0 H:=by
 have R:=J.c
 induction T using A.casesOn<;>try exact m.elim
 ·rw[lU h0]
  exact VO (VP (by decide+kernel) B9 C9) (aB.g (T:=A.o av) m R kD)
 ·obtain⟨t,rfl⟩:=fy h0
  exact IsiPair.str_tuple (aB.g (T:=A.o av) m R kD)
 ·refine eJ (jl h0) λS j e0 V0 v0 f0=>?_;obtain rfl:=V0
  exact IsiPair.tuple_tuple v0 rfl (aB.g (T:=A.o af) (t:=H.toks) m R kD)
theorem Mn{T:A}{V:aj}(J:bZ k L n U Q F C D H.heap)(h0:aC k D F H.heap T V)(m:aB k Q F C D H (bz k F) (cK C .f T) Y g0):aR (aQ k.b k.c) U (gb (cv "isinstance") [V,aK "str"]) Y g0 H:=by
 have R:=J.c
 induction T using A.casesOn<;>try exact m.elim
 ·rw[lU h0]
  exact VO (VP (by decide+kernel) D9 E9) (aB.g (T:=A.o av) m R kD)
 ·obtain⟨t,rfl⟩:=fy h0
  exact IsiPair.str_str (aB.g (T:=A.o af) (t:=H.toks) m R kD)
 ·refine eJ (jl h0) λS j e0 V0 v0 f0=>?_;obtain rfl:=V0
  exact IsiPair.tuple_str v0 rfl (aB.g (T:=A.o av) m R kD)
end
end Mine.Internal
set_option tactic.hygienic true
namespace Mine.Internal
open PySem PySem.W PySem.Calls PyProof.Rows
noncomputable def xG:hY->aD
 |.b=>"append"|.c=>"pop"|.f=>"pop"|.g=>"extend"|.d=>"get"|.h=>"join"|.e=>"ljust"
noncomputable def CH:hY->String
 |.b=>"list.append"|.c=>"list.pop"|.f=>"list.pop"|.g=>"list.extend"|.d=>"dict.get"|.h=>"str.join"|.e=>"str.ljust"
section
variable{k:aU}{L:Bool}{n:Nat}{U:bo}{Q:List aN}{F:ai->Prop}{C:j}{D:Nat->Option ai}{H:ay}{Y:aj->ay->Prop}{g0:aj->ay->Prop}
theorem CI{O:aD}{r:String}{Z:aD}{t:jv}{A0:gu Bool}{s0:aj×List aj->ay->Prop}(C:Slot "str" O r)(q:Iw (cv r)=bI (aK "method_descriptor"))(h:s0 (cv r,[dG Z t]) H):
 aR (aQ k.b k.c) U (wC (dG Z t) O A0) s0 g0 H:=Ix (Iy _ _ _) F9 C q (λ_ e=>by cases e) h
theorem tX{O:aD}{r:String}{S:ai}{M:Array aj}{w:Nat}{A0:gu Bool}{s0:aj×List aj->ay->Prop}(C:Slot "list" O r)(q:Iw (cv r)=bI (aK "method_descriptor"))(v:H.heap.get? S=a (cO M w))(h:s0 (cv r,[ax S]) H):
 aR (aQ k.b k.c) U (wC (ax S) O A0) s0 g0 H:=Ix (aw _ v rfl) G9 C q (λp e=>by cases e;exact(aw _ v rfl)) h
theorem Mo{a0:hY}{T:A}{V:aj}{A0:gu Bool}{s0:aj×List aj->ay->Prop}(R:bj k D F C H.heap)(F0:ln C a0 T=af)(h0:aC k D F H.heap T V)(h:s0 (cv (CH a0),[V]) H):
 aR (aQ k.b k.c) U (wC V (xG a0) A0) s0 g0 H:=by
 induction T using A.casesOn<;>try((exact gR F0);done)
 ·obtain⟨t,rfl⟩:=fy h0
  induction a0<;>try((exact gR F0);done)
  ·exact CI (O:="join") H9 I9 h
  ·exact CI (O:="ljust") J9 K9 h
 ·rename_i r
  refine aA (eT h0) λS J0 v0=>?_;obtain rfl:=J0
  replace F0:Ca (C.c r) a0=af:=F0
  generalize w0:C.c r=x9;induction x9 with
  |none=>rw[w0]at F0;exact gR F0
  |some o=>rw[w0]at F0;induction o with
   |b l=>
    refine jB (R.b _ _ w0) λI0 X o0 i0 _=>?_
    replace X:=be v0 X;subst X
    induction a0<;>try((exact gR F0);done)
    exact Ix (name:="get") i0.typeIs VQ VR L9 i0.mapOf.noDict h
   |c l=>
    refine hV (R.b _ _ w0) λI0 X j e0 v _=>?_
    replace X:=be v0 X;subst X
    induction a0<;>try((exact gR F0);done)
    ·exact tX (O:="append") M9 N9 v h
    ·exact tX (O:="pop") Iz VS v h
    ·exact tX (O:="pop") Iz VS v h
    ·exact tX (O:="extend") VT O9 v h
   |d _=>exact gR F0
end
end Mine.Internal
set_option tactic.hygienic true
namespace Mine.Internal
open PySem PySem.W PySem.Calls PyProof.Rows
section
variable{k:aU}{L:Bool}{n:Nat}{U:bo}{Q:List aN}{F:ai->Prop}{C:j}{D:Nat->Option ai}{H:ay}{Y:aj->ay->Prop}{g0:aj->ay->Prop}
theorem aJ.C0{h:aG}:∀{l:List A}{X:List aj}(w:Nat),aJ k D F h l X->aJ k D F h (l.take w) (X.take w):=by
 intro J
 induction J with
 |nil=>
  intro X w q
  simp only[cA,cB]at q;subst q;simp[cA,cB]
 |cons Z y0 U=>
  intro X n
  induction n using kX with
  |zero=>
   intro q
   simp[cA,cB]
  |succ w=>
   intro q
   simp only[cA,cB]at q
   refine de (q) λT r n0 E N=>?_;obtain rfl:=n0
   simp only[IA,cA,cB]
   exact(bU T _ rfl E (U w N))
theorem aJ.E0{h:aG}:∀{l:List A}{X:List aj}(w:Nat),aJ k D F h l X->aJ k D F h (l.drop w) (X.drop w):=by
 intro J
 induction J with
 |nil=>
  intro X w q
  simp only[cA,cB]at q;subst q;simp[cA,cB]
 |cons Z y0 U=>
  intro X n
  induction n using kX with
  |zero=>
   intro q
   simpa using q
  |succ w=>
   intro q
   simp only[cA,cB]at q
   refine de (q) λT r n0 E N=>?_;obtain rfl:=n0
   simpa using U w N
theorem aJ.I0{h:aG}:∀{l:List A}{X:List aj}(w:Nat),aJ k D F h l X->rP (aC k D F h) l[w]? X[w]?:=by
 intro J
 induction J with
 |nil=>
  intro X w q
  simp only[cA,cB]at q;subst q;rw[VU,VU];trivial
 |cons Z y0 U=>
  intro X n
  induction n using kX with
  |zero=>
   intro q
   simp only[cA,cB]at q
   refine de (q) λT r n0 E N=>?_;obtain rfl:=n0
   exact E
  |succ w=>
   intro q
   simp only[cA,cB]at q
   refine de (q) λT r n0 E N=>?_;obtain rfl:=n0
   exact U w N
theorem aJ.c0{h:aG}{l:List A}{X:List aj}{w:Nat}{T:A}(q:aJ k D F h l X)(k0:l[w]?=a T):∃V,X[w]?=a V/\aC k D F h T V:=by
 have:=aJ.I0 w q
 rw[k0]at this
 generalize x0:X[w]?=x9;induction x9 with
 |none=>rw[x0]at this;exact this.elim
 |some V=>rw[x0]at this;exact(aw V rfl this)
theorem aJ.J0{h:aG}{d0:A}{V:aj}(K0:aC k D F h d0 V):∀{l:List A}{X:List aj}(w:Nat),aJ k D F h l X->aJ k D F h (l.set w d0) (X.set w V):=by
 intro J
 induction J with
 |nil=>
  intro X w q
  simp only[cA,cB]at q;subst q;simp[cA,cB]
 |cons Z y0 U=>
  intro X n
  induction n using kX with
  |zero=>
   intro q
   simp only[cA,cB]at q
   refine de (q) λT r n0 E N=>?_;obtain rfl:=n0
   simp only[IB,cA,cB]
   exact(bU _ _ rfl K0 N)
  |succ w=>
   intro q
   simp only[cA,cB]at q
   refine de (q) λT r n0 E N=>?_;obtain rfl:=n0
   simp only[VV,cA,cB]
   exact(bU _ _ rfl E (U w N))
theorem aJ.H0{h:aG}{T:A}{V:aj}(q:aC k D F h T V):aJ k D F h [T] [V]:=by simp only[cA,cB];exact(bU V [] rfl q rfl)
theorem aJ.o0{h u:aG}{S:ai}{r:Nat}{s0:bM}{l:List A}{X:List aj}(R:bj k D F C h)(j0:D r=a S)(w0:C.c r=a s0)(l0:hG S h u)(k0:u.get? S≠ae)(q:aJ k D F h l X):aJ k D F u l X:=
 aJ.m (ow (W0:=[]) (O0:=bV) (B:=.c []) R j0 w0 l0 k0) R (cM _) (λ_ z=>nomatch z) _ _ q
theorem aC.m{h u:aG}{S:ai}{r:Nat}{s0:bM}{l:A}{X:aj}(R:bj k D F C h)(j0:D r=a S)(w0:C.c r=a s0)(l0:hG S h u)(k0:u.get? S≠ae)(q:aC k D F h l X):aC k D F u l X:=
 aC.b (ow (W0:=[]) (O0:=bV) (B:=.c []) R j0 w0 l0 k0) R (cM _) (λ_ z=>nomatch z) _ _ q
theorem Mp{T d0:A}{V q:aj}(J:bZ k L n U Q F C D H.heap)(h0:aC k D F H.heap T V)(K0:aC k D F H.heap d0 q)(m:aB k Q F C D H (bz k F) (ey C .b T [d0]) Y g0):
 aR (aQ k.b k.c) U (gb (cv "list.append") [V,q]) Y g0 H:=by
 have R:=J.c
 induction T using A.casesOn<;>try exact m.elim
 rename_i r
 refine aA (eT h0) λS J0 x=>?_;obtain rfl:=J0
 unfold ey at m
 dsimp only at m
 refine aB.a0 m ?_;clear m;intro l w0 m
 refine hV (R.b r _ w0) λI0 X j e0 v0 f0=>?_
 replace X:=be x X;subst X
 have l1:=f0.b
 rw[fq]at l1
 refine aB.N m ?_;clear m;intro s m
 refine append_at v0 (λu l0 v=>?_) (by rw[ga];exact az (az (bw l1) s) (by decide))
 have k0:u.get? S≠ae:=by rw[v];intro z;exact bR z
 refine m.c0 R (t:=H.toks) x w0 l0 (dK _ _ v ?_) ox
 rw[VW]
 exact aJ.i0 (aJ.o0 R x w0 l0 k0 f0) (aJ.H0 (aC.m R x w0 l0 k0 K0))
theorem Mq{T:A}{V:aj}(J:bZ k L n U Q F C D H.heap)(h0:aC k D F H.heap T V)(m:aB k Q F C D H (bz k F) (ey C .c T []) Y g0):
 aR (aQ k.b k.c) U (gb (cv "list.pop") [V]) Y g0 H:=by
 have R:=J.c
 induction T using A.casesOn<;>try exact m.elim
 rename_i r
 refine aA (eT h0) λS J0 x=>?_;obtain rfl:=J0
 unfold ey at m
 dsimp only at m
 refine aB.a0 m ?_;clear m;intro l w0 m
 refine hV (R.b r _ w0) λI0 X j e0 v0 f0=>?_
 replace X:=be x X;subst X
 have l1:=f0.b
 rw[fq]at l1
 refine aB.i0 m ?_;clear m;intro d0 K0 m
 refine aB.N m ?_;clear m;intro s m
 have h:l[l.length-1]?=a d0:=by rw[List.getLast?_eq_getElem?]at K0;exact K0
 refine aA (f0.c0 h) λy E0 G=>?_
 refine Copied.pop_at v0 (y:=y) (by rw[<-pA,l1];exact E0) (λu l0 v=>?_) (by rw[ga];exact az (az (bw l1) s) (by decide))
 have k0:u.get? S≠ae:=by rw[v];intro z;exact bR z
 refine m.c0 R (t:=H.toks) x w0 l0 (dK _ _ v ?_) (aC.m R x w0 l0 k0 G)
 rw[Array.toList_pop,IC,IC,f0.b]
 exact aJ.C0 _ (aJ.o0 R x w0 l0 k0 f0)
theorem Mr{T:A}{i:Int}{t:jv}{V:aj}(J:bZ k L n U Q F C D H.heap)(h0:aC k D F H.heap T V)(m:aB k Q F C D H (bz k F) (ey C .f T [.b i]) Y g0):
 aR (aQ k.b k.c) U (gb (cv "list.pop") [V,cI i t]) Y g0 H:=by
 have R:=J.c
 induction T using A.casesOn<;>try exact m.elim
 rename_i r
 refine aA (eT h0) λS J0 x=>?_;obtain rfl:=J0
 unfold ey at m
 dsimp only at m
 split at m
 ·rename_i l w0
  refine hV (R.b r _ w0) λI0 X j e0 v0 f0=>?_
  replace X:=be x X;subst X
  have l1:=f0.b
  rw[fq]at l1
  split at m
  ·rename_i d0 G0
   by_cases s:(d0::G0).length<=100000/\i=0
   ·rw[if_pos s]at m
    obtain⟨s,rfl⟩:=s
    refine aA (f0.c0 (show(d0::G0)[0]?=a d0 from rfl)) λy E0 G=>?_
    have O:j[0]?=a y:=by rw[<-pA];exact E0
    refine AI Iz (aw _ v0 rfl) P9 (R9 _ _) (PySem.MeetsSeq.list_pop_at S j e0 0 t 0 y (by decide) (by rw[l1];simp[AR]) O (by rw[ga];exact az (az (bw l1) s) (by decide))) ⟨v0,?_⟩
    clear J h0 l1 s E0 O;have v:(H.heap.update S (nW λy0=>y0.eraseIdxIfInBounds 0)).get? S=a (cO (j.eraseIdxIfInBounds 0) (if(j.eraseIdxIfInBounds 0).size==j.size then e0 else e0+1)):=mw _ v0 rfl
    have l0:=AO H.heap S (nW λy0=>y0.eraseIdxIfInBounds 0)
    have k0:(H.heap.update S (nW λy0=>y0.eraseIdxIfInBounds 0)).get? S≠ae:=by rw[v];intro z;exact bR z
    refine m.c0 R (t:=H.toks) x w0 l0 (dK _ _ v ?_) (aC.m R x w0 l0 k0 G)
    have e:(j.eraseIdxIfInBounds 0).toList=j.toList.drop 1:=by
     clear t m R x w0 v0 f0 G v l0 k0;obtain⟨h⟩:=j
     induction h using bL with
     |nil=>simp
     |cons S p=>simp
    rw[e]
    exact aJ.E0 1 (aJ.o0 R x w0 l0 k0 f0)
   ·clear R x w0 v0 f0;rw[if_neg s]at m;exact m.elim
  ·exact m.elim
 ·exact m.elim
theorem Ms{T d0:A}{V q:aj}(J:bZ k L n U Q F C D H.heap)(h0:aC k D F H.heap T V)(K0:aC k D F H.heap d0 q)(m:aB k Q F C D H (bz k F) (ey C .g T [d0]) Y g0):
 aR (aQ k.b k.c) U (gb (cv "list.extend") [V,q]) Y g0 H:=by
 have R:=J.c
 induction d0 using A.casesOn<;>try exact m.elim
 induction T using A.casesOn<;>try exact m.elim
 rename_i w r
 refine aA (eT h0) λS J0 x=>?_;obtain rfl:=J0
 refine jC (iQ K0) λp G f V0 W p1 h _=>?_;obtain rfl:=V0
 unfold ey at m
 dsimp only at m
 refine aB.a0 m ?_;clear m;intro l w0 m
 refine hV (R.b r _ w0) λI0 X j e0 v0 f0=>?_
 replace X:=be x X;subst X
 have l1:=f0.b;have l2:=p1.b
 rw[fq]at l1 l2
 refine aB.N m ?_;clear m;intro s m
 have G1:j.size+G.size<=lK:=by rw[ga];exact BH ‹_› ‹_› ‹_› (by decide)
 refine AI VT (aw _ v0 rfl) S9 (U9 _ _) (PySem.AutoSeq1.list_extend_list_list_0 S j e0 p G f (extend_door G1) (az (dp _ _) G1) (wD G1)) ⟨v0,W,?_⟩
 have v:(H.heap.update S (nW λy0=>y0++G)).get? S=a (cO (j++G) (if(j++G).size==j.size then e0 else e0+1)):=mw _ v0 rfl
 have l0:=AO H.heap S (nW λy0=>y0++G)
 have k0:(H.heap.update S (nW λy0=>y0++G)).get? S≠ae:=by rw[v];intro z;exact bR z
 refine m.c0 R (t:=H.toks) x w0 l0 (dK _ _ v ?_) ox
 rw[Vu]
 exact aJ.i0 (aJ.o0 R x w0 l0 k0 f0) (aJ.o0 R x w0 l0 k0 p1)
theorem Mt(L0:cn k){T:A}{w:am}{t:jv}{V:aj}(J:bZ k L n U Q F C D H.heap)(h0:aC k D F H.heap T V)(m:aB k Q F C D H (bz k F) (ey C .d T [.c w]) Y g0):
 aR (aQ k.b k.c) U (gb (cv "dict.get") [V,dG w.b t]) Y g0 H:=by
 have R:=J.c
 induction T using A.casesOn<;>try exact m.elim
 rename_i r
 refine aA (eT h0) λS J0 x=>?_;obtain rfl:=J0
 unfold ey at m
 dsimp only at m
 refine aB.f0 m ?_;clear m;intro l w0 m
 refine jB (R.b r _ w0) λI0 X o0 i0 x0=>?_
 replace X:=be x X;subst X
 have p:=qk w x0
 refine call_meetsIn VR i0.typeIs V9 (W9 _ _) (meets_dict_get (eR k.b k.c) S (pq k.b k.c w.b t) (jX L0.c R x)) (aw _ i0.mapOf ?_)
 refine m.g R ?_
 generalize E:aX l w=x9;induction x9 with
 |none=>
  rw[E]at p
  generalize N:fO o0 w.b=x9;induction x9 with
  |none=>exact ox
  |some y=>rw[N]at p;exact p.elim
 |some T=>
  rw[E]at p
  generalize N:fO o0 w.b=x9;induction x9 with
  |none=>rw[N]at p;exact p.elim
  |some y=>rw[N]at p;exact p
theorem CJ{Z:am}{r:List A}{I0:List am}(e:kA (.c Z::r)=a I0):∃C,kA r=a C/\I0=Z::C:=by
 replace e:(kA r).map (Z::·)=a I0:=e
 generalize x0:kA r=x9;induction x9 with
 |none=>rw[x0]at e;exact bD e
 |some C=>rw[x0]at e;exact(aw C rfl ((bn e).symm))
theorem Mu:∀(l:List A)(I0:List am),kA l=a I0->I0.length=l.length:=by
 intro l
 induction l with
 |nil=>intro I0 e;replace e:=bn e;subst e;rfl
 |cons Z r Y=>
  intro I0 e
  induction Z using A.casesOn<;>try((exact bD e);done)
  refine aA (CJ e) λC x0 e=>?_;subst e
  rw[fi,fi,Y C x0]
theorem Mv{h:aG}:∀{l:List A}{X:List aj}{I0:List am},aJ k D F h l X->kA l=a I0->StrsAre X (I0.map am.b):=by
 intro l
 induction l with
 |nil=>intro X I0 q e;replace q:X=[]:=q;subst q;replace e:=bn e;subst e;exact .nil
 |cons Z r Y=>
  intro X I0 q e
  induction Z using A.casesOn<;>try exact bD e
  refine de (id q) λT m0 n0 E N=>?_;subst n0
  obtain⟨t,rfl⟩:=fy E
  refine aA (CJ e) λC x0 e=>?_;subst e
  exact .cons _ _ (Y N x0)
theorem Mw:∀(I0:List am)(P:Array Nat),(I0.map am.b).foldl (λP V=>P++(am.b []).cps++V.cps) P=P++I0.flatten.toArray:=by
 intro J
 induction J with
 |nil=>
  intro P
  simp
 |cons y I0 U=>
  intro P
  rw[dX,Vr,U]
  simp
theorem Mx(I0:List am):Txt.join (am.b []) (I0.map am.b)=am.b I0.flatten:=by
 unfold Txt.join
 induction I0 using bL with
 |nil=>rfl
 |cons y I0=>
  show(⟨_⟩:aD)=⟨_⟩
  refine congrArg _ ?_
  simp only[dX,List.drop_succ_cons,ID,List.headD_cons]
  rw[Mw]
  simp
theorem My{T d0:A}{V q:aj}(J:bZ k L n U Q F C D H.heap)(h0:aC k D F H.heap T V)(K0:aC k D F H.heap d0 q)(m:aB k Q F C D H (bz k F) (ey C .h T [d0]) Y g0):
 aR (aQ k.b k.c) U (gb (cv "str.join") [V,q]) Y g0 H:=by
 have R:=J.c
 induction d0 using A.casesOn<;>try exact m.elim
 induction T using A.casesOn<;>try exact m.elim
 rename_i l y
 obtain⟨t,rfl⟩:=fy h0
 refine jC (iQ K0) λp G f V0 W p1 _ _=>?_;obtain rfl:=V0
 unfold ey at m
 dsimp only at m
 by_cases s:l.length<=1000/\y=[]
 ·rw[if_pos s]at m
  obtain⟨s,rfl⟩:=s
  split at m
  ·rename_i I0 P0
   by_cases B0:I0.flatten.length<=100000
   ·rw[if_pos B0]at m
    have k0:I0.length<=1000:=by
     rw[Mu l I0 P0];exact s
    refine join_listW (kG W) (Mv p1 P0) (by simp[AF]) ?_ λa1 w=>?_
    ·have e:((I0.map am.b).map λZ=>Z.length).sum=I0.flatten.length:=by
      rw[List.length_flatten,mx]
      exact congrArg List.sum (AS λZ _=>am.c Z)
     show((I0.map am.b).map λZ=>Z.length).sum+_<=_
     rw[e,bK];exact az (kT B0 k0) (by decide)
    ·rw[Mx]
     exact m.g R lV
   ·rw[if_neg B0]at m;exact m.elim
  ·exact m.elim
 ·rw[if_neg s]at m;exact m.elim
theorem Mz(Z:am)(i:Int)(h:0<=i):Txt.ljust Z.b i=am.b (Z++cq (i.toNat-Z.length) 32):=by
 unfold Txt.ljust
 rw[am.c]
 by_cases x0:i<=Z.length
 ·rw[if_pos x0,show i.toNat-Z.length=0 from VX (nT.mpr x0),Vt,pB]
 ·rw[if_neg x0]
  show(⟨_⟩:aD)=⟨_⟩
  simp
theorem MA{T:A}{i:Int}{t:jv}{V:aj}(J:bZ k L n U Q F C D H.heap)(h0:aC k D F H.heap T V)(m:aB k Q F C D H (bz k F) (ey C .e T [.b i]) Y g0):
 aR (aQ k.b k.c) U (gb (cv "str.ljust") [V,cI i t]) Y g0 H:=by
 have R:=J.c
 induction T using A.casesOn<;>try exact m.elim
 rename_i Z
 obtain⟨m0,rfl⟩:=fy h0
 unfold ey at m
 dsimp only at m
 refine aB.N m ?_;clear m;intro s m
 refine SC.ljust ?_ λa1 w=>?_
 ·unfold PadOk fitsSsize
  have E:X9 i.toNat=av:=decide_eq_false (by rw[ga];exact wu.mpr (nT.mpr (bQ (bQ s.2 (by decide:_<=(1000:Int))) (dO.mpr (az (bS _) (by decide))))))
  rw[pp,VY,VY]
  exact⟨by simp;exact JD ‹_› (by decide) (by decide),E⟩
 ·rw[Mz Z i s.1]
  exact m.g R lV
end
end Mine.Internal
set_option tactic.hygienic false
namespace Mine.Internal
open PySem PySem.W PySem.Calls PyProof.Rows
section
variable{k:aU}{L:Bool}{n:Nat}{U:bo}{Q:List aN}{F:ai->Prop}{C:j}{D:Nat->Option ai}{H:ay}{Y:aj->ay->Prop}{O0:aj->ay->Prop}{G:aV}{c:v}
noncomputable abbrev jE(C:j)(r:Option A):au A:=match r with|some T=>.b T C|none=>.d
theorem CK{i:Int}{w:Nat}(n0:0<=i)(E:i.toNat<w):AR i w=a i.toNat:=by
 unfold AR
 have N:¬i<0:=fN.mpr n0
 simp[N];exact⟨n0,(wE n0).mp E⟩
theorem CL{c s:Type}{J:c->s->Prop}{o:Option c}{q:Option s}{i:Prop}{f:Option c->au A}{s0:aj->ay->Prop}{g0:aj->ay->Prop}(h:rP J o q)(m:aB k Q F C D H (bz k F) (f o) s0 g0)(y0:aB k Q F C D H (bz k F) (f ae) s0 g0->False)(w:∀d0 y,q=a y->J d0 y->aB k Q F C D H (bz k F) (f (a d0)) s0 g0->i):i:=by
 induction o with
 |none=>exact(y0 m).elim
 |some d0=>induction q with
  |none=>exact h.elim
  |some y=>exact w d0 y rfl h m
theorem MB{h v:aa}{T w:A}{V q:aj}(J:bZ k L n U Q F C D H.heap)(h0:aC k D F H.heap T V)(q0:aC k D F H.heap w q)(l0:∀o i,∃W,IE v av o i=IF W (AT o i))(m:aB k Q F C D H (bz k F) (jE C (cz C T w)) Y O0):aR (aQ k.b k.c) U (IG h v V q) Y O0 H:=by
 have R:=J.c
 obtain⟨W,l0⟩:=l0 V q
 have c:∀{l:List A}{g:List aj}{i:Int},aJ k D F H.heap l g->aB k Q F C D H (bz k F) (jE C (if 0<=i/\i<2^60 then l[i.toNat]? else ae)) Y O0->0<=i/\i<2^60/\∃y,g[i.toNat]?=a y/\Y y H:=by
  intro l g i f0 m
  refine aB.b0 (jE _) m id ?_;clear m;intro s m
  generalize x0:l[i.toNat]?=x9;induction x9 with
  |none=>rw[x0]at m;exact m.elim
  |some d0=>
   rw[x0]at m
   refine aA (f0.c0 x0) λy E0 K0=>?_
   exact⟨s.1,s.2,y,E0,m.g (t:=H.toks) R K0⟩
 induction T using A.casesOn with
 |e l=>induction w using A.casesOn with
  |b i=>
   obtain⟨t,rfl⟩:=cG q0
   refine eJ (jl h0) λS j e0 V0 v0 f0=>?_;obtain rfl:=V0
   refine xf (c f0 m) λn0 E y E0 G=>?_
   have O:j[i.toNat]?=a y:=by rw[<-pA];exact E0
   have n1:i.toNat<j.size:=(AU.mp O).1
   exact pC (aw _ v0 rfl) Y9.lookup (getItem_tuple (xF v0) (j:=i.toNat) (jc (fo (by decide) n0)) (bQ ‹_› (by decide)) (CK n0 n1) O G) l0
  |_=>exact m.elim
 |k l=>induction w using A.casesOn with
  |b i=>
   obtain⟨t,rfl⟩:=cG q0
   refine lj (iQ h0) λS j e0 V0 v0 f0 _=>?_;obtain rfl:=V0
   refine xf (c f0 m) λn0 E y E0 G=>?_
   exact pC (aw _ v0 rfl) VZ.lookup (Wa (kG v0) n0 (bQ ‹_› (by decide)) (by rw[<-pA];exact E0) G) l0
  |_=>exact m.elim
 |c l=>induction w using A.casesOn with
  |b i=>
   clear c
   obtain⟨t,rfl⟩:=cG q0
   obtain⟨m0,rfl⟩:=fy h0
   replace m:aB k Q F C D H (bz k F) (jE C (if 0<=i/\i<2^60 then(l[i.toNat]?).map λI=>A.c [I]else ae)) Y O0:=m
   refine aB.b0 (jE _) m id ?_;clear m;intro s m
   generalize x0:l[i.toNat]?=x9;induction x9 with
   |none=>rw[x0]at m;exact m.elim
   |some I=>
    rw[x0]at m
    have n1:i.toNat<l.length:=(iv.mp x0).1
    refine pC (Iy _ _ _) Wb.lookup (Z9 (c:=I) (by simp;exact⟨jc (fo (by decide) s.1),fo s.2 (by decide)⟩) ?_ (aB.g (T:=A.c [I]) m R lV)) l0
    rw[am.c]
    have e:AR i l.length=a i.toNat:=CK s.1 n1
    rw[e]
    simpa using x0
  |_=>exact m.elim
 |d r=>induction w using A.casesOn with
  |b i=>
   obtain⟨t,rfl⟩:=cG q0
   refine aA (eT h0) λS J0 x=>?_;obtain rfl:=J0
   replace m:aB k Q F C D H (bz k F) (jE C (BX i (C.c r))) Y O0:=m
   generalize w0:C.c r=x9;induction x9 with
   |none=>rw[w0]at m;exact m.elim
   |some o=>induction o with
    |c l=>
     rw[w0]at m
     refine hV (R.b _ _ w0) λI0 X j e0 v0 f0=>?_
     replace X:=be x X;subst X
     refine xf (c f0 m) λn0 E y E0 G=>?_
     exact pC (aw _ v0 rfl) VZ.lookup (Wa (kG v0) n0 (bQ ‹_› (by decide)) (by rw[<-pA];exact E0) G) l0
    |d l=>
     clear c
     rw[w0]at m
     refine jB (R.b _ _ w0) λI0 X o0 i0 x0=>?_
     replace X:=be x X;subst X
     exact CL (f:=jE C) (Cz i x0) m id λd0 y N p m=>pC i0.typeIs Wc.lookup (Wd (AM k.b k.c i t) i0.mapOf N (m.g R p)) l0
    |b _=>rw[w0]at m;exact m.elim
  |c w=>
   clear c
   obtain⟨t,rfl⟩:=fy q0
   refine aA (eT h0) λS J0 x=>?_;obtain rfl:=J0
   replace m:aB k Q F C D H (bz k F) (jE C (BY w (C.c r))) Y O0:=m
   generalize w0:C.c r=x9;induction x9 with
   |none=>rw[w0]at m;exact m.elim
   |some o=>induction o with
    |b l=>
     rw[w0]at m
     refine jB (R.b _ _ w0) λI0 X o0 i0 x0=>?_
     replace X:=be x X;subst X
     exact CL (f:=jE C) (qk w x0) m id λd0 y N p m=>pC i0.typeIs Wc.lookup (Wd (pq k.b k.c w.b t) i0.mapOf N (m.g R p)) l0
    |_=>rw[w0]at m;exact m.elim
  |_=>exact m.elim
 |_=>exact m.elim
theorem MC{h v:aa}{e i:ar}{u0:aH}(h0:aE k L n G h (ag c e))(f0:aE k L n G v (ag c i))(l0:∀o i,∃W,IE v av o i=IF W (AT o i)):aE k L n G (pD h v u0) (ag c (.d e i)):=by
 intro U Q M F b C D H J Y g0 m
 dsimp only[Ce]at m
 refine We (h0 U Q M F b C D H J _ _ (aB.y m J.c λm0 S0 V U0 H0 M0 _ n0 R0 Q0 R=>?_))
 have r0:=J.p0 R0 n0
 refine f0 U Q M F b S0 U0 {H with heap:=H0,toks:=M0} r0 _ _ (aB.y R n0 λw Y0 q T0 P E0 _ N0 O0 e1 c0=>?_)
 refine MB (H:={H with heap:=P,toks:=E0}) (r0.p0 O0 N0).tobZ (aC.b O0 n0 (cM _) r0.d.d _ _ Q0) e1 l0 ?_
 (generalize x0:cz Y0 m0 w=x9;induction x9)<;>rw[x0]at c0<;>exact c0
noncomputable abbrev mL(k:aU)(L:Bool)(n:Nat)(G:aV)(e:Option aa)(f:ah->j->au A):Prop:=mI k L n G (bz k) (λM=>valueOrNone (evalOpt e M)) f
theorem MD:mL k L n G ae (gj c ae):=by
 intro U Q M F b C D H J Y g0 m
 dsimp only[KL]at m
 exact cJ (m.g (t:=H.toks) J.c ox)
theorem ME{e:aa}{Z:ar}(h:aE k L n G e (ag c Z)):mL k L n G (a e) (gj c (a Z)):=by
 intro U Q M F b C D H J Y g0 m
 dsimp only[KM]at m
 exact h U Q M F b C D H J Y g0 m
theorem CM{h:aG}{T:A}{V:aj}{w:Option Int}(q:aC k D F h T V)(e:jD T=a w):AV V w:=by
 induction T using A.casesOn<;>try exact bD e
 ·replace e:=bn e;subst e;rw[lU q];exact .none
 ·replace e:=bn e;subst e;obtain⟨t,rfl⟩:=cG q;exact .int _ _
theorem xH{c:Type}(l:List c)(t0 f0:Option Int)(E:fR t0=af)(N:fR f0=af):(l.drop (tf t0 l.length)).take (wF f0 l.length-tf t0 l.length)=eK l t0 f0:=by
 have C:∀(S:Nat)(l:List c),l.take (min S l.length)=l.take S:=by
  intro S l
  by_cases h:S<=l.length
  ·rw[my h]
  ·have h:=IH h
   rw[wG h,AW,jS h]
 unfold eK tf wF
 induction t0 with
 |none=>
  induction f0 with
  |none=>simp
  |some y=>
   simp[fR]at N
   simp only[ID,Nat.sub_zero]
   rw[if_neg (fN.mpr N.1),C]
 |some Z=>
  simp[fR]at E
  induction f0 with
  |none=>
   dsimp only
   rw[if_neg (fN.mpr E.1)]
   rw[jS (by rw[pE];exact bS _)]
   by_cases h:Z.toNat<=l.length
   ·rw[my h]
   ·have h:=IH h
    rw[wG h,Wf,th h]
  |some y=>
   simp[fR]at N
   dsimp only
   rw[if_neg (fN.mpr N.1),if_neg (fN.mpr E.1),List.drop_take]
   by_cases h:Z.toNat<=l.length
   ·rw[my h]
    by_cases u:y.toNat<=l.length
    ·rw[my u]
    ·have u:=IH u
     rw[wG u,jS (by rw[pE];exact bS _),jS (by rw[pE];exact II u _)]
   ·rw[wG (by exact fB (Wg h):l.length<=Z.toNat),Wf,th (fB (Wg h))]
    simp
theorem MF(M:Array aj)(t0 f0:Option Int)(E:fR t0=af)(N:fR f0=af):(slicePick M t0 f0 ae).toList=eK M.toList t0 f0:=by
 rw[kmk_pick_nat M (Wh t0 f0 M.size)]
 show(M.toList.drop _).take _=_
 rw[<-xH M.toList t0 f0 E N,fq]
theorem aJ.L0{h:aG}{l:List A}{X:List aj}{t0 f0:Option Int}(q:aJ k D F h l X):aJ k D F h (eK l t0 f0) (eK X t0 f0):=by
 unfold eK
 refine aJ.E0 _ ?_
 induction f0 with
 |none=>exact q
 |some y=>exact aJ.C0 _ q
end
end Mine.Internal
set_option tactic.hygienic false
namespace Mine.Internal
open PySem PySem.W PySem.Calls PyProof.Rows
theorem MG{c:Type}(l:List c)(S p:Nat):((ph (p-S)).map (S+·)).filterMap (l[·]?)=(l.drop S).take (p-S):=by
 rw[List.filterMap_map]
 generalize p-S=n
 induction n with
 |zero=>simp
 |succ n Y=>
  rw[List.range_succ,List.filterMap_append,Y,IJ]
  congr 1
  simp only[Wi,List.filterMap_nil,Function.comp,List.getElem?_drop]
  cases l[S+n]?<;>rfl
theorem CN(t0 f0:Option Int)(n:Nat):pF t0 f0 1 n=(ph (wF f0 n-tf t0 n)).map (tf t0 n+·):=by
 have h:=Wh t0 f0 n
 have e:pF t0 f0 1 n=sliceRange (AX t0 f0 ae n).1 (AX t0 f0 ae n).2.1 (AX t0 f0 ae n).2.2:=by
  unfold pF AX
  rfl
 rw[e,h]
 exact sliceRange_one _ _
theorem MH(l:am)(t0 f0:Option Int)(E:fR t0=af)(N:fR f0=af):Txt.slice l.b t0 f0=am.b (eK l t0 f0):=by
 unfold Txt.slice
 have y:l.b.length=l.length:=am.c l
 have e:((pF t0 f0 1 l.b.length).filterMap (l.b.cps[·]?))=eK l t0 f0:=by
  rw[CN,<-xH l t0 f0 E N,<-MG,y]
  congr 1
  funext i
  simp[am.b]
 split
 ·rename_i e0
  have Y0:(pF t0 f0 1 l.b.length).length=l.b.length:=by simpa using e0
  rw[CN,y]at Y0
  simp only[bK,IK]at Y0
  have h3:wF f0 l.length<=l.length:=by
   unfold wF;split
   ·exact bS _
   ·split
    ·exact qW _ _
    ·exact tj _ _
  have:eK l t0 f0=l:=by
   rw[<-xH l t0 f0 E N]
   have e1:tf t0 l.length=0\/l.length=0:=(Nat.eq_zero_or_pos _).imp id λp0=>Nat.eq_zero_of_not_pos λk0=>absurd Y0 (bC (el (II h3 _) (Nat.sub_lt k0 p0)))
   rcases e1 with e1|e1
   ·rw[e1,ID,jS (by rw[e1]at Y0;exact bw Y0.symm)]
   ·have:l=[]:=wH e1
    clear E N y e e0 Y0 h3 e1;subst this;simp
  rw[this]
 ·show(⟨_⟩:aD)=⟨_⟩
  rw[e]
theorem MI{c:Type}(l:List c)(t0 f0:Option Int):(eK l t0 f0).length<=l.length:=by
 unfold eK
 rw[pE]
 induction f0 with
 |none=>exact qW _ _
 |some h=>exact az (qW _ _) (by rw[jx];exact tj _ _)
theorem CO{V:aj}{t0:Option Int}(h:AV V t0):∃q:Option (Int×jv),V=IL q/\q.map (·.1)=t0:=by
 cases h with
 |none=>exact(aw ae rfl rfl)
 |int i t=>exact(aw (a (i,t)) rfl rfl)
section
variable{k:aU}{L:Bool}{n:Nat}{U:bo}{Q:List aN}{F:ai->Prop}{C:j}{D:Nat->Option ai}{H:ay}{Y:aj->ay->Prop}{O0:aj->ay->Prop}{G:aV}{c:v}
theorem MJ{h:aa}{S p:Option aa}{g:aH}{T Z y:A}{V j1 G:aj}{t0 f0:Option Int}(J:bZ k L n U Q F C D H.heap)(h0:aC k D F H.heap T V)(b0:AV j1 t0)(E0:AV G f0)(m:aB k Q F C D H (bz k F) (jE C (fx C T t0 f0)) Y O0):
 aR (aQ k.b k.c) U (IG h (wI S p ae g) V (ax H.heap.objs.size)) Y O0 {H with heap:=H.heap.push {cls:=aK "slice",data:=bO #[j1,G,aS]}}:=by
 have R:=J.c
 unfold fx at m
 by_cases g0:(fR t0&&fR f0)=af
 ·rw[if_pos g0]at m
  refine pQ (AJ.mp g0) λE N=>?_
  have c:∀{l:List A}{M:Array aj}{w:Nat}{W:ai},H.heap.get? W=a (cO M w)->aJ k D F H.heap l M.toList->aB k Q F C D H (bz k F) (jE C (if l.length<=100000 then a (.k (eK l t0 f0))else ae)) Y O0->
   aR (aQ k.b k.c) U (IG h (wI S p ae g) (ax W) (ax H.heap.objs.size)) Y O0 {H with heap:=H.heap.push {cls:=aK "slice",data:=bO #[j1,G,aS]}}:=by
   intro l M w W v q m
   have l1:=q.b
   rw[fq]at l1
   by_cases s:l.length<=100000
   ·rw[if_pos s]at m
    have k0:aG.IsList H.heap W M:=kG v
    refine pC (aG.IsList.typeIs (s:={H with heap:=H.heap.push {cls:=aK "slice",data:=bO #[j1,G,aS]}}) (k0.push _)) list_getitem_lookup
     (wpAny_getItem_list_slice (s:={H with heap:=H.heap.push {cls:=aK "slice",data:=bO #[j1,G,aS]}}) (k0.push _) (aG.IsSliceOf.new ..) b0 E0 .none (by intro z;exact bD z) ?_ (by rw[ga];exact az (az (bw l1) s) (by decide))) rfl
    have q0:∀I o,H.heap.get? I=a o->((H.heap.push {cls:=aK "slice",data:=bO #[j1,G,aS]}).push (cO (slicePick M t0 f0 ae) 0)).get? I=a o:=λI o z=>cc _ (cc _ z)
    refine aB.X (T:=A.k (eK l t0 f0)) m R (t:=H.toks) q0 ?_
    have R2:=ou R (u:=H.heap.push {cls:=aK "slice",data:=bO #[j1,G,aS]}) λI o z=>cc _ z
    refine xB R2 ?_
    rw[MF M t0 f0 E N]
    exact aJ.L0 (aJ.s R (λI o z=>cc _ z) q)
   ·clear Z y J h0 b0 E0 R g0 E N v q l1;rw[if_neg s]at m;exact m.elim
  induction T using A.casesOn with
  |k l=>
   clear Z y J b0 E0 R g0 E N;refine lj (iQ h0) λW j e0 V0 v0 q _=>?_;obtain rfl:=V0
   exact c v0 q m
  |c l=>
   clear c;refine aF (fy h0) λt J0=>?_;obtain rfl:=J0
   replace m:aB k Q F C D H (bz k F) (jE C (if l.length<=100000 then a (.c (eK l t0 f0))else ae)) Y O0:=m
   by_cases s:l.length<=100000
   ·rw[if_pos s]at m
    have A0:(H.heap.push {cls:=aK "slice",data:=bO #[j1,G,aS]}).IsSliceOf H.heap.objs.size j1 G aS:=aG.IsSliceOf.new ..
    have B0:∀a1 w,Y (dG (am.b (eK l t0 f0)) a1) {H with heap:=H.heap.push {cls:=aK "slice",data:=bO #[j1,G,aS]},toks:=w}:=λa1 w=>
     aB.X (T:=A.c (eK l t0 f0)) m R (t:=w) (λI o z=>cc _ z) lV
    have t2:∀(B1 q:Option (Int×jv)),j1=IL B1->G=IL q->B1.map (·.1)=t0->q.map (·.1)=f0->
     aR (aQ k.b k.c) U (AT (dG l.b t) (ax H.heap.objs.size)) Y O0 {H with heap:=H.heap.push {cls:=aK "slice",data:=bO #[j1,G,aS]}}:=by
     intro B1 q e1 e2 e3 e4
     refine wpAny_getItem_str_slice (l:=B1) (u:=q) (st:=ae) (cW _ (kW _ rfl) rfl (by rw[e1,e2];rfl)) rfl (post_val_or_str ?_)
     have e5:Wj l.b B1 q ae=pF t0 f0 1 l.b.length:=by unfold Wj;rw[e3,e4];rfl
     rw[e5]
     have e6:(if(((Option.map (λ(Z:Int×jv)=>Z.1) ae).getD 1==1&&(pF t0 f0 1 l.b.length).length==l.b.length)=af)then l.b else(⟨((pF t0 f0 1 l.b.length).filterMap (l.b.cps[·]?)).toArray⟩:aD))=am.b (eK l t0 f0):=MH l t0 f0 E N
     rw[e6]
     refine⟨?_,B0⟩
     rw[am.c,ga]
     have:=MI l t0 f0
     exact az (az this s) (by decide)
    clear Z h0 m s A0 B0;refine pC (Iy _ _ _) Wb.lookup ?_ rfl
    refine aA (CO b0) λB1 e1 e3=>?_
    refine aA (CO E0) λq e2 e4=>?_
    exact t2 B1 q e1 e2 e3 e4
   ·rw[if_neg s]at m;exact m.elim
  |d r=>
   clear Z;refine aA (eT h0) λW J0 x=>?_;obtain rfl:=J0
   replace m:aB k Q F C D H (bz k F) (jE C (BZ t0 f0 (C.c r))) Y O0:=m
   clear h0;generalize w0:C.c r=x9;induction x9 with
   |none=>rw[w0]at m;exact m.elim
   |some o=>rw[w0]at m;induction o with
    |c l=>
     refine hV (R.b _ _ w0) λI0 X j e0 v0 q=>?_
     clear w0;replace X:=be x X;subst X
     exact c v0 q m
    |_=>exact m.elim
  |_=>exact m.elim
 ·clear Z y J h0 b0 E0 R;rw[if_neg g0]at m;exact m.elim
theorem MK{h:aa}{S p:Option aa}{e:ar}{t0 f0:Option ar}{g u0:aH}(h0:aE k L n G h (ag c e))(v0:mL k L n G S (gj c t0))(W:mL k L n G p (gj c f0)):
 aE k L n G (pD h (wI S p ae g) u0) (ag c (.G e t0 f0)):=by
 intro U Q M F b C D H J Y g0 m
 dsimp only[Kg]at m
 refine We (h0 U Q M F b C D H J _ _ (aB.y m J.c λm0 S0 V U0 H0 M0 _ n0 R0 Q0 R=>?_))
 have r0:=J.p0 R0 n0
 rw[arm_eval_Slice]
 refine bk (v0 U Q M F b S0 U0 {H with heap:=H0,toks:=M0} r0 _ _ (aB.y R n0 λZ Y0 q T0 P E0 _ N0 O0 e1 c0=>?_))
 have a0:=r0.p0 O0 N0
 refine bk (lL (W U Q M F b Y0 T0 {H with heap:=P,toks:=E0} a0 _ _ (aB.y c0 N0 λy d t b0 O p0 _ f j0 q0 I=>?_)))
 have d0:=a0.p0 j0 f
 refine bk (lL (cJ ?_))
 refine pz ?_
 have w:=aC.b j0 N0 (cM _) a0.d.d _ _ (aC.b O0 n0 (cM _) r0.d.d _ _ Q0)
 have T:=aC.b j0 N0 (cM _) a0.d.d _ _ e1
 generalize E:jD Z=x9;induction x9 with
 |none=>rw[E]at I;exact I.elim
 |some i=>generalize N:jD y=x9;induction x9 with
  |none=>rw[E,N]at I;exact I.elim
  |some B=>
  rw[E,N]at I;dsimp only at I
  refine MJ (H:={H with heap:=O,toks:=p0}) d0.tobZ w (CM T E) (CM q0 N) (Z:=.m) (y:=.m) ?_
  (generalize x0:fx d m0 i B=x9;induction x9)<;>rw[x0]at I<;>exact I
end
end Mine.Internal
set_option tactic.hygienic true
namespace Mine.Internal
open PySem PySem.W PySem.Calls PyProof.Rows
section
variable{k:aU}{L:Bool}{n:Nat}{U:bo}{Q:List aN}{F:ai->Prop}{C:j}{D:Nat->Option ai}{H:ay}{O0:aj->ay->Prop}{G:aV}{c:v}
theorem tY{T:A}{V:aj}{Y:Bool->ay->Prop}(J:bZ k L n U Q F C D H.heap)(h0:aC k D F H.heap T V)(m:aB k Q F C D H iB (iR C (cy C T)) Y O0):aR (aQ k.b k.c) U (pG V) Y O0 H:=by
 have R:=J.c
 have G:∀{l:List A}{M:Array aj},aJ k D F H.heap l M.toList->(!M.isEmpty)=!l.isEmpty:=by
  intro l M f0
  have l1:=f0.b
  clear J h0 m R f0;rw[fq]at l1
  congr 1
  unfold Array.isEmpty
  rw[l1]
  clear l1;induction l using bL<;>simp
 clear J;induction T using A.casesOn<;>try exact m.elim
 ·clear G;rw[lU h0];exact truthy_none (m.g (t:=H.toks) R rfl)
 ·rw[tR h0];exact AY (m.g (t:=H.toks) R rfl)
 ·rename_i i
  obtain⟨t,rfl⟩:=cG h0
  refine Aaa ?_
  have e:(i !=0)=ba (i≠0):=by by_cases h:i=0<;>simp[h]
  rw[e]
  clear h0 e;exact m.g (t:=H.toks) R rfl
 ·rename_i l
  obtain⟨t,rfl⟩:=fy h0
  unfold cy at m
  dsimp only at m
  refine aB.b0 (iR _) m id ?_;clear m;intro s m
  refine PySem.P.truthy_str (by rw[am.c];exact tm.mpr (fg (dO.mpr s) (by decide))) ?_
  have e:(((am.b l).length:Int) !=0)=!l.isEmpty:=by
   rw[am.c]
   clear m R s;induction l using bL with
   |nil=>rfl
   |cons S p=>simp;exact Ii (fo (by decide) (gy (ip _) (gz _)))
  rw[e]
  clear e s;exact m.g R rfl
 ·rename_i l
  refine eJ (jl h0) λS j e0 V0 v0 f0=>?_;obtain rfl:=V0
  have l1:=f0.b
  rw[fq]at l1
  unfold cy at m
  dsimp only at m
  refine aB.b0 (iR _) m id ?_;clear m;intro s m
  refine truthy_tuple (xF v0) (fg (bQ (dO.mpr (bw l1)) (dO.mpr s)) (by decide)) ?_
  rw[G f0]
  clear s v0 f0 l1;exact m.g R rfl
 ·rename_i l
  refine lj (iQ h0) λS j e0 V0 v0 f0 _=>?_;obtain rfl:=V0
  have l1:=f0.b
  rw[fq]at l1
  unfold cy at m
  dsimp only at m
  refine aB.b0 (iR _) m id ?_;clear m;intro s m
  refine Wk (kG v0) (fg (bQ (dO.mpr (bw l1)) (dO.mpr s)) (by decide)) ?_
  rw[G f0]
  clear s v0 f0 l1;exact m.g R rfl
 ·rename_i r
  refine aA (eT h0) λS J0 x=>?_;obtain rfl:=J0
  unfold cy at m
  dsimp only at m
  refine aB.p0 (iR _) m id ?_;clear m;intro l w0 m
  refine hV (R.b r _ w0) λI0 X j e0 v0 f0=>?_
  clear w0;replace X:=be x X;subst X
  have l1:=f0.b
  clear x;rw[fq]at l1
  refine aB.b0 (iR _) m id ?_;clear m;intro s m
  refine Wk (kG v0) (fg (bQ (dO.mpr (bw l1)) (dO.mpr s)) (by decide)) ?_
  rw[G f0]
  clear s v0 f0 l1;exact m.g R rfl
noncomputable def oB:iz->pH
 |.b=>.Eq|.c=>.NotEq|.f=>.Lt|.g=>.LtE|.d=>.Gt|.i=>.GtE|.e=>.In|.h=>.NotIn
theorem CP(L0:cn k){o:iz}{m0 T:A}{V q:aj}{s0:Bool->ay->Prop}(J:bZ k L n U Q F C D H.heap)(D0:aC k D F H.heap m0 V)(h0:aC k D F H.heap T q)(m:aB k Q F C D H iB (iR C (cC C o m0 T)) s0 O0):aR (aQ k.b k.c) U (jw (oB o) V q) (kE s0) O0 H:=by
 induction o
 ·exact LG J L0.c D0 h0 m
 ·exact LH J L0.c D0 h0 m
 ·exact LI J D0 h0 m
 ·exact LJ J D0 h0 m
 ·exact LK J D0 h0 m
 ·exact LL J D0 h0 m
 ·exact LN J L0.c D0 h0 m
 ·exact LO J L0.c D0 h0 m
theorem ML(L0:cn k){o:iz}{S p:aa}{Z y:ar}{s:pH}{u0:aH}(v:s=oB o)(v0:aE k L n G S (ag c Z))(W:aE k L n G p (ag c y))(O:AZ s p=av):
 aE k L n G (lM S [s] [p] u0) (ag c (.g o Z y)):=by
 subst v
 intro U Q M F b C D H J Y g0 m
 dsimp only[Ki]at m
 refine IM (v0 U Q M F b C D H J _ _ (aB.y m J.c λm0 S0 V U0 H0 M0 _ n0 R0 Q0 R=>?_)) O
 have r0:=J.p0 R0 n0
 refine W U Q M F b S0 U0 {H with heap:=H0,toks:=M0} r0 _ _ (aB.y R n0 λT Y0 q T0 P E0 _ N0 O0 e1 c0=>?_)
 have a0:=r0.p0 O0 N0
 have w:=aC.b O0 n0 (cM _) r0.d.d _ _ Q0
 refine pI (CP L0 (H:={H with heap:=P,toks:=E0}) (s0:=λI c1=>Y (eQ I) c1) a0.tobZ w e1 ?_) (λT t h=>by obtain⟨I,rfl,h⟩:=h;exact h) λ_ _ h=>h
 generalize x0:cC Y0 o m0 T=x9;induction x9 with
 |none=>rw[x0]at c0;exact c0.elim
 |some I=>
  rw[x0]at c0
  intro G0 A0 u t B P0 j0
  obtain rfl:G0=I:=j0
  exact c0 (eQ G0) A0 u t B P0 kD
theorem MM(L0:cn k){o:iz}{S p:aa}{Z y:ar}{s:pH}{u0:aH}(v:s=oB o)(v0:aE k L n G S (ag c Z))(W:aE k L n G p (ag c y))(O:AZ s p=av):
 eb k L n G (lM S [s] [p] u0) (bJ c (.g o Z y)):=by
 subst v
 intro U Q M F b C D H J Y g0 m
 dsimp only[Cg]at m
 refine IN (v0 U Q M F b C D H J _ _ (aB.y m J.c λm0 S0 V U0 H0 M0 _ n0 R0 Q0 R=>?_)) O
 have r0:=J.p0 R0 n0
 refine W U Q M F b S0 U0 {H with heap:=H0,toks:=M0} r0 _ _ (aB.y R n0 λT Y0 q T0 P E0 _ N0 O0 e1 c0=>?_)
 have a0:=r0.p0 O0 N0
 have w:=aC.b O0 n0 (cM _) r0.d.d _ _ Q0
 refine pI (CP L0 (H:={H with heap:=P,toks:=E0}) (s0:=Y) a0.tobZ w e1 ?_) (λT t h=>by obtain⟨I,rfl,h⟩:=h;exact AY h) λ_ _ h=>h
 generalize x0:cC Y0 o m0 T=x9;induction x9 with
 |none=>rw[x0]at c0;exact c0.elim
 |some I=>rw[x0]at c0;exact c0
noncomputable abbrev oE:A->Bool:=λT=>match T with|.m=>af|_=>av
theorem CQ{h:aG}{T:A}{V:aj}(q:aC k D F h T V):(V==aS)=oE T:=by
 induction T using A.casesOn with
 |m=>rw[lU q];rfl
 |o p=>rw[tR q];rfl
 |b i=>obtain⟨t,rfl⟩:=cG q;rfl
 |c l=>obtain⟨t,rfl⟩:=fy q;rfl
 |e l=>refine gg (jl q) λS _ _ V0 _=>?_;obtain rfl:=V0;rfl
 |k l=>refine gg (iQ q) λS _ _ V0 _=>?_;obtain rfl:=V0;rfl
 |d r=>refine aA (eT q) λS J0 _=>?_;obtain rfl:=J0;rfl
 |h I r=>refine fw (xA q) λS _ n0 _=>?_;obtain rfl:=n0;rfl
 |g f=>rw[rN q];rfl
 |q m0=>
  simp only[du,dv,dw,dx,dy,dz,dA,dB,dC,dD]at q
  refine BP (q) λf o G B j G0 K0 _=>?_;obtain rfl:=K0;rfl
theorem CR{T:A}{V:aj}{s0:Bool->ay->Prop}(J:bZ k L n U Q F C D H.heap)(h0:aC k D F H.heap T V)(m:aB k Q F C D H iB (.b (oE T) C) s0 O0):aR (aQ k.b k.c) U (jw .Is V aS) (kE s0) O0 H:=by
 refine is_none_gen (aw _ rfl ?_)
 rw[CQ h0]
 exact m.g (t:=H.toks) J.c rfl
theorem CS{T:A}{V:aj}{s0:Bool->ay->Prop}(J:bZ k L n U Q F C D H.heap)(h0:aC k D F H.heap T V)(m:aB k Q F C D H iB (.b (!(oE T)) C) s0 O0):aR (aQ k.b k.c) U (jw .IsNot V aS) (kE s0) O0 H:=by
 refine isnot_none_gen (aw _ rfl ?_)
 rw[CQ h0]
 exact m.g (t:=H.toks) J.c rfl
theorem tZ{w:Nat}{u0:aH}{M:aN}{Y:aj->ay->Prop}(h:Y aS H):aR (aQ k.b k.c) U (bP (fZ .none w u0) M) Y O0 H:=cJ h
theorem MN{S:aa}{Z:ar}{w:Nat}{u0 X:aH}(v0:aE k L n G S (ag c Z)):aE k L n G (lM S [.Is] [fZ .none w X] u0) (ag c (.E Z)):=by
 intro U Q M F b C D H J Y g0 m
 dsimp only[Kj]at m
 refine IM (v0 U Q M F b C D H J _ _ (aB.y m J.c λm0 S0 V U0 H0 M0 _ n0 R0 Q0 R=>tZ ?_)) rfl
 refine pI (CR (H:={H with heap:=H0,toks:=M0}) (s0:=λI c1=>Y (eQ I) c1) (J.p0 R0 n0).tobZ Q0 ?_) (λT t h=>by obtain⟨I,rfl,h⟩:=h;exact h) λ_ _ h=>h
 intro G0 A0 u t B P0 j0
 obtain rfl:G0=oE m0:=j0
 exact R (eQ (oE m0)) A0 u t B P0 kD
theorem MO{S:aa}{Z:ar}{w:Nat}{u0 X:aH}(v0:aE k L n G S (ag c Z)):aE k L n G (lM S [.IsNot] [fZ .none w X] u0) (ag c (.L Z)):=by
 intro U Q M F b C D H J Y g0 m
 dsimp only[Kk]at m
 refine IM (v0 U Q M F b C D H J _ _ (aB.y m J.c λm0 S0 V U0 H0 M0 _ n0 R0 Q0 R=>tZ ?_)) rfl
 clear v0 m;refine pI (CS (H:={H with heap:=H0,toks:=M0}) (s0:=λI c1=>Y (eQ I) c1) (J.p0 R0 n0).tobZ Q0 ?_) (λT t h=>by obtain⟨I,rfl,h⟩:=h;exact h) λ_ _ h=>h
 intro G0 A0 u t B P0 j0
 clear J n0 R0 Q0;obtain rfl:G0=!(oE m0):=j0
 refine R (eQ (!(oE m0))) A0 u t B P0 ?_
 clear R t B P0;induction m0 using A.casesOn<;>exact kD
theorem MP{S:aa}{Z:ar}{w:Nat}{u0 X:aH}(v0:aE k L n G S (ag c Z)):eb k L n G (lM S [.Is] [fZ .none w X] u0) (bJ c (.E Z)):=by
 intro U Q M F b C D H J Y g0 m
 dsimp only[Ky]at m
 refine IN (v0 U Q M F b C D H J _ _ (aB.y m J.c λm0 S0 V U0 H0 M0 _ n0 R0 Q0 R=>tZ ?_)) rfl
 exact pI (CR (H:={H with heap:=H0,toks:=M0}) (s0:=Y) (J.p0 R0 n0).tobZ Q0 R) (λT t h=>by obtain⟨I,rfl,h⟩:=h;exact AY h) λ_ _ h=>h
theorem MQ{S:aa}{Z:ar}{w:Nat}{u0 X:aH}(v0:aE k L n G S (ag c Z)):eb k L n G (lM S [.IsNot] [fZ .none w X] u0) (bJ c (.L Z)):=by
 intro U Q M F b C D H J Y g0 m
 dsimp only[Kz]at m
 refine IN (v0 U Q M F b C D H J _ _ (aB.y m J.c λm0 S0 V U0 H0 M0 _ n0 R0 Q0 R=>tZ ?_)) rfl
 clear v0 m;refine pI (CS (H:={H with heap:=H0,toks:=M0}) (s0:=Y) (J.p0 R0 n0).tobZ Q0 ?_) (λT t h=>by obtain⟨I,rfl,h⟩:=h;exact AY h) λ_ _ h=>h
 clear J n0 R0 Q0;induction m0 using A.casesOn<;>exact R
theorem ua{e:aa}{f:ah->j->au A}{r0:ah->j->au Bool}(C0:aE k L n G e f)(p0:∀M t,lJ e M t=(do let T<-t;jd e.pos;ir [T] (pG T)))(w0:∀b C,r0 b C=(f b C).e λT C=>match cy C T with|some p=>.b p C|none=>.d):eb k L n G e r0:=by
 intro U Q M F b C D H J Y g0 m
 rw[w0]at m
 refine isTrue_plain (C0 U Q M F b C D H J _ _ (aB.y m J.c λm0 S0 V U0 H0 M0 _ n0 R0 Q0 R=>?_)) (p0 _ _)
 exact tY (H:={H with heap:=H0,toks:=M0}) (J.p0 R0 n0).tobZ Q0 R
theorem ub{c s G:Type}(r:au c)(f:c->j->au s)(r0:s->j->au G):(r.e f).e r0=r.e λS C=>(f S C).e r0:=by induction r<;>rfl
theorem MR{Z:ak}{u0:aH}:eb k L n G (aY (an Z) u0) (bJ c (.b Z)):=
 ua (Ct (c:=c)) (λ_ _=>rfl) λb C=>by
  dsimp only[KA,mG]
  all_goals(cases b Z with
  |none=>rfl
  |some T=>dsimp only[au.e]<;>(cases cy C T<;>rfl))
theorem MS{e:aa}{Z:ar}{u0:aH}(h:eb k L n G e (bJ c Z)):eb k L n G (pt .Not e u0) (bJ c (.H Z)):=by
 intro U Q M F b C D H J Y g0 m
 dsimp only[Kv]at m
 refine isTrue_not (h U Q M F b C D H J _ _ (aB.y m J.c λm0 S0 V U0 H0 M0 _ n0 R0 Q0 R=>?_))
 obtain rfl:V=m0:=Q0
 exact R.g (H:={H with heap:=H0,toks:=M0}) (t:=M0) n0 rfl
noncomputable abbrev qn(k:aU)(L:Bool)(n:Nat)(G:aV)(t0:List aa)(f:ah->j->au Bool):Prop:=mI k L n G (λ_=>iB) (λM=>allTrue .And t0 M) f
noncomputable abbrev qo(k:aU)(L:Bool)(n:Nat)(G:aV)(t0:List aa)(f:ah->j->au Bool):Prop:=mI k L n G (λ_=>iB) (λM=>allTrue .Or t0 M) f
theorem MT:qn k L n G [] (di c []):=by
 intro U Q M F b C D H J Y g0 m
 dsimp only[xm]at m
 exact cJ (a:=af) (m.g (t:=H.toks) J.c rfl)
theorem MU:qo k L n G [] (ic c []):=by
 intro U Q M F b C D H J Y g0 m
 dsimp only[KE]at m
 exact cJ (a:=av) (m.g (t:=H.toks) J.c rfl)
theorem MV{e:aa}{t0:List aa}{Z:ar}{y0:List ar}(h:eb k L n G e (bJ c Z))(l0:qn k L n G t0 (di c y0)):qn k L n G (e::t0) (di c (Z::y0)):=by
 intro U Q M F b C D H J Y g0 m
 dsimp only[Ch]at m
 show aR _ _ (lJ (gA .And (e::t0) e.pos) M (bI aS)) _ _ _
 refine isTrue_and (h U Q M F b C D H J _ _ (aB.y m J.c λm0 S0 V U0 H0 M0 _ n0 R0 Q0 R=>?_))
 obtain rfl:V=m0:=Q0
 induction V with
 |true=>exact l0 U Q M F b S0 U0 {H with heap:=H0,toks:=M0} (J.p0 R0 n0) _ _ R
 |false=>exact R.g (H:={H with heap:=H0,toks:=M0}) (t:=M0) n0 rfl
theorem MW{e:aa}{t0:List aa}{Z:ar}{y0:List ar}(h:eb k L n G e (bJ c Z))(l0:qo k L n G t0 (ic c y0)):qo k L n G (e::t0) (ic c (Z::y0)):=by
 intro U Q M F b C D H J Y g0 m
 dsimp only[KF]at m
 show aR _ _ (lJ (gA .Or (e::t0) e.pos) M (bI aS)) _ _ _
 refine isTrue_or (h U Q M F b C D H J _ _ (aB.y m J.c λm0 S0 V U0 H0 M0 _ n0 R0 Q0 R=>?_))
 obtain rfl:V=m0:=Q0
 induction V with
 |false=>exact l0 U Q M F b S0 U0 {H with heap:=H0,toks:=M0} (J.p0 R0 n0) _ _ R
 |true=>exact R.g (H:={H with heap:=H0,toks:=M0}) (t:=M0) n0 rfl
theorem MX{t0:List aa}{y0:List ar}{u0:aH}(h:qn k L n G t0 (di c y0)):eb k L n G (gA .And t0 u0) (bJ c (.w y0)):=by
 intro U Q M F b C D H J Y g0 m
 dsimp only[Kw]at m
 exact h U Q M F b C D H J Y g0 m
theorem MY{t0:List aa}{y0:List ar}{u0:aH}(h:qo k L n G t0 (ic c y0)):eb k L n G (gA .Or t0 u0) (bJ c (.F y0)):=by
 intro U Q M F b C D H J Y g0 m
 dsimp only[Kx]at m
 exact h U Q M F b C D H J Y g0 m
theorem MZ{e:aa}{Z:ar}{u0:aH}(h:aE k L n G e (ag c Z)):aE k L n G (gA .And [e] u0) (gC c [Z]):=by
 intro U Q M F b C D H J Y g0 m
 dsimp only[KG]at m
 exact Wl (h U Q M F b C D H J Y g0 m)
theorem Na{e:aa}{Z:ar}{u0:aH}(h:aE k L n G e (ag c Z)):aE k L n G (gA .Or [e] u0) (gD c [Z]):=by
 intro U Q M F b C D H J Y g0 m
 dsimp only[KI]at m
 exact Wl (h U Q M F b C D H J Y g0 m)
theorem Nb{e e2:aa}{t0:List aa}{Z X:ar}{y0:List ar}{u0:aH}(h:aE k L n G e (ag c Z))(l0:aE k L n G (gA .And (e2::t0) u0) (gC c (X::y0))):aE k L n G (gA .And (e::e2::t0) u0) (gC c (Z::X::y0)):=by
 intro U Q M F b C D H J Y g0 m
 dsimp only[KH]at m
 refine BoolOp_and (h U Q M F b C D H J _ _ (aB.y m J.c λm0 S0 V U0 H0 M0 _ n0 R0 Q0 R=>?_))
 have r0:=J.p0 R0 n0
 refine tY (H:={H with heap:=H0,toks:=M0}) r0.tobZ Q0 ?_
 generalize F0:cy S0 m0=x9;induction x9 with
 |none=>rw[F0]at R;exact R.elim
 |some p=>
  rw[F0]at R
  intro G0 A0 u t B P0 j0
  obtain rfl:G0=p:=j0
  have f1:=r0.p0 P0 B
  induction G0 with
  |true=>
   refine l0 U Q M F b S0 A0 {H with heap:=u,toks:=t} f1 Y g0 ?_
   have c0:aB k Q F S0 U0 {H with heap:=H0,toks:=M0} (bz k F) (gC c (X::y0) b S0) Y g0:=R
   generalize q0:gC c (X::y0) b S0=x9;induction x9 with
   |d=>rw[q0]at c0;exact c0
   |b d0 Y0=>rw[q0]at c0;exact λG0 T0 P a1 N0 O0 q=>c0 G0 T0 P a1 N0 (P0.h0 O0 n0) q
   |g Y0=>rw[q0]at c0;exact λS T0 P a1 N0 O0 q=>c0 S T0 P a1 N0 (P0.h0 O0 n0) (q.b P0.g)
  |false=>exact R V A0 u t B P0 (aC.b P0 n0 (cM _) r0.d.d _ _ Q0)
theorem Nc{e e2:aa}{t0:List aa}{Z X:ar}{y0:List ar}{u0:aH}(h:aE k L n G e (ag c Z))(l0:aE k L n G (gA .Or (e2::t0) u0) (gD c (X::y0))):aE k L n G (gA .Or (e::e2::t0) u0) (gD c (Z::X::y0)):=by
 intro U Q M F b C D H J Y g0 m
 dsimp only[KJ]at m
 refine BoolOp_or (h U Q M F b C D H J _ _ (aB.y m J.c λm0 S0 V U0 H0 M0 _ n0 R0 Q0 R=>?_))
 have r0:=J.p0 R0 n0
 refine tY (H:={H with heap:=H0,toks:=M0}) r0.tobZ Q0 ?_
 generalize F0:cy S0 m0=x9;induction x9 with
 |none=>rw[F0]at R;exact R.elim
 |some p=>
  rw[F0]at R
  intro G0 A0 u t B P0 j0
  obtain rfl:G0=p:=j0
  have f1:=r0.p0 P0 B
  induction G0 with
  |false=>
   refine l0 U Q M F b S0 A0 {H with heap:=u,toks:=t} f1 Y g0 ?_
   have c0:aB k Q F S0 U0 {H with heap:=H0,toks:=M0} (bz k F) (gD c (X::y0) b S0) Y g0:=R
   generalize q0:gD c (X::y0) b S0=x9;induction x9 with
   |d=>rw[q0]at c0;exact c0
   |b d0 Y0=>rw[q0]at c0;exact λG0 T0 P a1 N0 O0 q=>c0 G0 T0 P a1 N0 (P0.h0 O0 n0) q
   |g Y0=>rw[q0]at c0;exact λS T0 P a1 N0 O0 q=>c0 S T0 P a1 N0 (P0.h0 O0 n0) (q.b P0.g)
  |true=>exact R V A0 u t B P0 (aC.b P0 n0 (cM _) r0.d.d _ _ Q0)
theorem Nd{t0:List aa}{y0:List ar}{u0:aH}(h:aE k L n G (gA .And t0 u0) (gC c y0)):aE k L n G (gA .And t0 u0) (ag c (.w y0)):=by
 intro U Q M F b C D H J Y g0 m
 dsimp only[Kl]at m
 exact h U Q M F b C D H J Y g0 m
theorem Nf{t0:List aa}{y0:List ar}{u0:aH}(h:aE k L n G (gA .Or t0 u0) (gD c y0)):aE k L n G (gA .Or t0 u0) (ag c (.F y0)):=by
 intro U Q M F b C D H J Y g0 m
 dsimp only[Km]at m
 exact h U Q M F b C D H J Y g0 m
theorem Ng{I S p:aa}{Z y z:ar}{u0:aH}(e0:eb k L n G I (bJ c Z))(v0:aE k L n G S (ag c y))(W:aE k L n G p (ag c z)):aE k L n G (IP I S p u0) (ag c (.u Z y z)):=by
 intro U Q M F b C D H J Y g0 m
 dsimp only[Ko]at m
 refine IfExp_ (e0 U Q M F b C D H J _ _ (aB.y m J.c λm0 S0 V U0 H0 M0 _ n0 R0 Q0 R=>?_))
 obtain rfl:V=m0:=Q0
 induction V with
 |true=>exact v0 U Q M F b S0 U0 {H with heap:=H0,toks:=M0} (J.p0 R0 n0) Y g0 R
 |false=>exact W U Q M F b S0 U0 {H with heap:=H0,toks:=M0} (J.p0 R0 n0) Y g0 R
theorem Nh{e:aa}{Z:ar}{u0:aH}(h:aE k L n G e (ag c Z)):aE k L n G (pt .USub e u0) (ag c (.R Z)):=by
 intro U Q M F b C D H J Y g0 m
 dsimp only[Kc]at m
 show aR _ _ (do let T<-bP e M;jd u0;ir [T] (Iu .USub T)) _ _ _
 refine bk (h U Q M F b C D H J _ _ (aB.y m J.c λm0 S0 V U0 H0 M0 _ n0 R0 Q0 R=>bk (qV (lL ?_))))
 induction m0 using A.casesOn<;>try exact R.elim
 obtain⟨t,rfl⟩:=cG Q0
 exact VL (R.g (H:={H with heap:=H0,toks:=M0}) n0 gS)
end
end Mine.Internal
set_option tactic.hygienic false
namespace Mine.Internal
open PySem PySem.W PySem.Calls PyProof.Rows
structure Ni(n:Nat)(U:bo):Prop where
 b:U.depth+3*n+8<AE
 c:U.units+20*n+185<wv
structure lr(k:aU)(L:Bool)(n:Nat)(U:bo)(Q:List aN)(F:ai->Prop)(C:j)(D:Nat->Option ai)(h:aG):Prop where
 b:bj k D F C h
 d:U.frames=a Q
 e:iP k D h Q
 f:L=af->U.handled=ae
 c:Ni n U
theorem bZ.l{k:aU}{L n U Q F C D h}(J:bZ k L n U Q F C D h):lr k L n U Q F C D h:=
 ⟨J.c,J.g,J.d,J.i,⟨BD (by decide) J.f.g,BD (by decide) J.f.b⟩⟩
noncomputable abbrev qp(z:mz)(h:aG)(f:aj):Prop:=∃w,(w=Keeper.frame\/w=Keeper.machine\/w=Keeper.boundFrame)/\hJ z h (keeperOf f) w
noncomputable abbrev mM(R:fC->ay->Prop):aj->ay->Prop:=λT c1=>R (.ok (jy T)) c1
noncomputable abbrev mN(R:fC->ay->Prop):aj->ay->Prop:=λe c1=>R (.error e) c1
noncomputable def fz(k:aU)(L:Bool)(n:Nat)(c:v):Prop:=
 ∀(U:bo)(Q:List aN)(F:ai->Prop)(C:j)(D:Nat->Option ai)(H:ay)(q:A)(f:aj)(X:List A)(s0:List aj),lr k L n U Q F C D H.heap->aC k D F H.heap q f->aJ k D F H.heap X s0->
  ∀R:fC->ay->Prop,aB k Q F C D H (bz k F) (c q X C) (mM R) (mN R)->qp (aQ k.b k.c) H.heap f/\je (aQ k.b k.c) U (la f ⟨s0,[]⟩) R H
section
variable{k:aU}{L:Bool}{n:Nat}{U:bo}{Q:List aN}{F:ai->Prop}{C:j}{D:Nat->Option ai}{H:ay}{O0:aj->ay->Prop}{G:aV}{c:v}
set_option backward.match.sparseCases true in
noncomputable abbrev Nj(Y:aj->ay->Prop)(g0:aj->ay->Prop):fC->ay->Prop:=λr c1=>match r with|.ok (jy T)=>Y T c1|.ok _=>False|.error e=>g0 e c1
theorem fz.b(x:fz k L n c){q:A}{f:aj}{X:List A}{s0:List aj}{Y:aj->ay->Prop}(J:lr k L n U Q F C D H.heap)(B0:aC k D F H.heap q f)(v0:aJ k D F H.heap X s0)(m:aB k Q F C D H (bz k F) (c q X C) Y O0):qp (aQ k.b k.c) H.heap f/\aR (aQ k.b k.c) U (gb f s0) Y O0 H:=by
 have:=x U Q F C D H q f X s0 J B0 v0 (Nj Y O0) m
 exact⟨this.1,qX this.2⟩
theorem uc{z:mz}{f:aj}{Y:Args->ay->Prop}:∀{l:List (Bool×gu aj)},l.any (·.1)=av->aR z U (te l) (λX c1=>Y ⟨X,[]⟩ c1) O0 H->aR z U (evalArgs f af l []) Y O0 H
 |[],_,h=>by
  unfold evalArgs
  show aR z U (te []>>=_) Y O0 H
  refine bk (pI h (λX c1 u=>?_) λ_ _ Z=>Z)
  refine bk (cJ (lL ?_))
  exact bk (cJ (bk (cJ (cJ u))))
 |(af,Z)::l,p0,_=>by simp at p0
 |(av,Z)::l,_,h=>evalArgs_plain h
theorem ud{z:mz}{u0:aH}{f:aj}{G:List aj}{s0:List (Bool×gu aj)}{Y:aj->ay->Prop}(C:s0.any (·.1)=av)(h:aR z U (te s0) (λX c=>qp z c.heap f/\aR z U (gb f (G++X) []) Y O0 c) O0 H):aR z U (nX u0 f G s0 []) Y O0 H:=by
 refine callWith_of (P:=λh=>qp z h f) (by rw[C];rfl) (λh Z=>Z) (uc C h)
theorem CT{l:aa}{s0:List aa}{f:ar}{s:List ar}{u0:aH}(x:fz k L n c)(B0:aE k L n G l (ag c f))(l0:jm k L n G s0 (bH c s))(J0:∀M u0,(hO u0 (dq s0 M)).any (·.1)=av)(C0:∀M,bP (cQ l s0 [] u0) M=(do nX u0 (<-bP l M) [] (hO u0 (dq s0 M)) (Ba u0 (Bb [] M)))):
 aE k L n G (cQ l s0 [] u0) (ag c (.m f s)):=by
 intro U Q M F b C D H J Y g0 m
 dsimp only[Cc]at m
 refine qY (B0 U Q M F b C D H J _ _ (aB.y m J.c λm0 S0 V U0 H0 M0 _ n0 R0 Q0 R=>?_)) (C0 M)
 have r0:=J.p0 R0 n0
 refine ud (J0 _ _) (l0 u0 U Q M F b S0 U0 {H with heap:=H0,toks:=M0} r0 _ _ (aB.y R n0 λX Y0 Z0 T0 P E0 _ N0 O0 e1 c0=>?_))
 have a0:=r0.p0 O0 N0
 exact x.b (H:={H with heap:=P,toks:=E0}) a0.tobZ.l (aC.b O0 n0 (cM _) r0.d.d _ _ Q0) e1 c0
noncomputable abbrev ue(o:aa)(O:aD)(u u0:aH)(s0:List aa):Prop:=∀M,∃A0:gu Bool,bP (cQ (iu o O u) s0 [] u0) M=(do
 let g<-bP o M
 jd u.atName
 let(f,G)<-ir [g] (wC g O A0)
 nX u0 f G (hO u0 (dq s0 M)) [])
theorem Nk{o:aa}{s0:List aa}{e:ar}{S:ak}{s:List ar}{u u0:aH}(L0:cn k)(x:fz k L n c)(v:aE k L n G o (ag c e))(l0:jm k L n G s0 (bH c s))(J0:∀M u0,(hO u0 (dq s0 M)).any (·.1)=av)(C0:ue o (an S) u u0 s0):
 aE k L n G (cQ (iu o (an S) u) s0 [] u0) (ag c (.N e S s)):=by
 intro U Q M F b C D H J Y g0 m
 dsimp only[Kf]at m
 obtain⟨A0,C0⟩:=C0 M
 refine IQ (pl:=A0) (v U Q M F b C D H J _ _ (aB.y m J.c λm0 S0 V U0 H0 M0 _ n0 R0 Q0 R=>?_)) C0
 have r0:=J.p0 R0 n0
 obtain⟨I,r,rfl⟩:∃I r,m0=.h I r:=by induction m0 using A.casesOn<;>first|exact(gL _ _ rfl)|exact R.elim
 dsimp only at R
 refine R.m0 ?_;clear R;intro f l O w0 R
 refine R.o0 ?_;clear R;intro E R
 refine tM (xE (H:={H with heap:=H0,toks:=M0}) n0 Q0 w0) λZ d o0 t0 w h1=>?_;refine pR h1 λt b0 z0 i0 x0 F0 p0 V0=>?_;clear h1;obtain rfl:=t
 have W:=L0.i I S f O
 unfold rT at W
 simp only[pp,beq_iff_eq]at W
 obtain⟨⟨b1,b2⟩,b3⟩:=W
 have h:=L0.b.keeps n0.c
 refine method_fn (s:={H with heap:=H0,toks:=M0}) h V0 (Is b1).1 (Is b1).2 b2 (by unfold isFn at b3;exact beq_iff_eq.mp b3) ?_ ?_
 ·show(lookIn (an S) (wA t0 w)).map _=_
  have g:getL (an S) t0=a (fO o0 (an S)):=xC p0
  have p:=qk (an S).cps.toList x0
  have T:aX l (an S).cps.toList=ae:=by
   generalize K0:aX l (an S).cps.toList=x9;induction x9 with
   |none=>rfl
   |some d0=>rw[K0]at E;exact absurd rfl E
  rw[T,xD]at p
  generalize a1:fO o0 (an S)=x9;induction x9 with
  |none=>rw[lookIn_dict,g,a1];rfl
  |some y=>rw[a1]at p;exact p.elim
 ·refine ud (J0 _ _) (l0 u0 U Q M F b S0 U0 {H with heap:=H0,toks:=M0} r0 _ _ (aB.y R n0 λX Y0 Z0 T0 P E0 _ N0 O0 e1 c0=>?_))
  have a0:=r0.p0 O0 N0
  refine x.b (H:={H with heap:=P,toks:=E0}) (q:=.g f) (X:=.h I r::X) a0.tobZ.l (by simp only[du,dv,dw,dx,dy,dz,dA,dB,dC,dD]) ?_ c0
  show aJ k T0 F P (.h I r::X) ([ax Z]++Z0)
  simp only[cA,cB]
  exact(bU _ _ rfl (aC.b O0 n0 (cM _) r0.d.d _ _ Q0) e1)
theorem CU(I:aj)(r:List aj)(A:List (aD×aj)):(lN "type.__call__" ⟨I::r,A⟩).weight<=1/\(lN "type.__call__" ⟨I::r,A⟩).cUnits=1/\(lN "type.__call__" ⟨I::r,A⟩).envs=[]:=by
 have n0:(lN "type.__call__" ⟨I::r,A⟩).frames=0:=rfl
 have E:(lN "type.__call__" ⟨I::r,A⟩).isGuard=av:=by show guardIds.contains "type.__call__"=av;decide+kernel
 have N:(lN "type.__call__" ⟨I::r,A⟩).isCaller=av:=rfl
 refine⟨?_,?_,?_⟩
 ·unfold Code.weight
  rw[n0,E,N]
  split<;>simp
 ·unfold Code.cUnits
  rfl
 ·rfl
theorem Nl{l:aa}{s0:List aa}{I:ak}{s:List ar}{u0:aH}(L0:cn k)(x:fz k L n c)(B0:aE k L n G l (ag c (.h I)))(l0:jm k L n G s0 (bH c s))(q0:to k.h (ax (k.k I))=af)(J0:∀M u0,(hO u0 (dq s0 M)).any (·.1)=av)(C0:∀M,bP (cQ l s0 [] u0) M=(do nX u0 (<-bP l M) [] (hO u0 (dq s0 M)) (Ba u0 (Bb [] M)))):
 aE k L n G (cQ l s0 [] u0) (ag c (.O I s)):=by
 intro U Q M F b C D H J Y g0 m
 dsimp only[Ke]at m
 refine qY (B0 U Q M F b C D H J _ _ (aB.y (r:=ag c (.h I) b C) (w:=λ_ C=>(bH c s b C).e λX C=>match ky I with
  |some f=>(c (.g f) (A.h I C.b::X) (C.e (.b []))).e λr O=>(match r with|A.m=>au.b (A.h I C.b) O|_=>au.d)
  |none=>.d) (by dsimp only[xl];exact m) J.c λm0 S0 V U0 H0 M0 D0 n0 R0 Q0 R=>?_)) (C0 M)
 have r0:=J.p0 R0 n0
 dsimp only[xl]at D0
 obtain⟨rfl,rfl⟩:=qc D0
 rw[rN Q0]
 refine ud (J0 _ _) (l0 u0 U Q M F b C U0 {H with heap:=H0,toks:=M0} r0 _ _ (aB.y R n0 λX Y0 Z0 T0 P E0 _ N0 O0 e1 c0=>?_))
 have a0:=r0.p0 O0 N0
 have h:=L0.b.keeps N0.c
 refine c0.n0 ?_;clear c0;intro f g c0
 obtain⟨T,i⟩:=L0.l I f g
 unfold tV at T
 simp only[pp,beq_iff_eq]at T
 obtain⟨⟨b1,b2⟩,b3⟩:=T
 rw[i]at q0⊢
 refine⟨IR q0 _ h,?_⟩
 refine qX (s:={H with heap:=P,toks:=E0}) (make_core (makes_of h b1) (IS h b2) (λv=>bind_fn h v b3) (aL rfl) ?_)
 have Z:∀p o,P.get? p=a o->((P.push lO).push (io (k.f I) P.objs.size)).get? p=a o:=λp o e=>cc _ (cc _ e)
 have z0:((P.push lO).push (io (k.f I) P.objs.size)).get? P.objs.size=a lO:=cc _ (kW _ rfl)
 have b0:((P.push lO).push (io (k.f I) P.objs.size)).get? (P.objs.size+1)=a (io (k.f I) P.objs.size):=by
  have:=kW (o:=io (k.f I) P.objs.size) (P.push lO) rfl
  rw[tq]at this
  exact this
 have w1:((P.push lO).push (io (k.f I) P.objs.size)).DictOf (eR k.b k.c) P.objs.size []:=(dY _ (#[]) 0 z0 ⟨rfl,rfl,rfl⟩ rfl ⟨by intro e C0;simp at C0,.nil,IT⟩)
 have E:bj k (eZ T0 Y0.b P.objs.size) F (Y0.e (.b [])) ((P.push lO).push (io (k.f I) P.objs.size)):=
  xu N0 Z (fT _) (rO N0 (fT _)).2 (aw [] w1 rfl)
 have e3:aZ k (bx Q) bV Y0 T0 P (Y0.e (.b [])) (eZ T0 Y0.b P.objs.size) ((P.push lO).push (io (k.f I) P.objs.size)):=qg N0 Z (fT _)
 have S3:=a0.p0 e3 E
 have K0:=CU (ax (k.f I)) Z0 []
 have W:lr k L n (U.under (lN "type.__call__" ⟨ax (k.f I)::Z0,[]⟩)) Q F (Y0.e (.b [])) (eZ T0 Y0.b P.objs.size) ((P.push lO).push (io (k.f I) P.objs.size)):=by
  refine⟨E,?_,S3.d,S3.i,⟨?_,?_⟩⟩
  ·unfold bo.under
   rw[K0.2.2];exact S3.g
  ·show U.depth+_+_+_<_
   exact BE K0.1 (by decide) S3.f.g
  ·show U.units+_+_+_<_
   exact BE (bw K0.2.1) (by decide) S3.f.b
 have t:aC k (eZ T0 Y0.b P.objs.size) F ((P.push lO).push (io (k.f I) P.objs.size)) (.h I Y0.b) (ax (P.objs.size+1)):=by
  simp only[du,dv,dw,dx,dy,dz,dA,dB,dC,dD]
  exact(bU _ _ rfl b0 oy)
 refine(x _ Q F _ _ {H with heap:=(P.push lO).push (io (k.f I) P.objs.size),toks:=E0} (.g f) (ax (k.k f)) (.h I Y0.b::X) (ax (P.objs.size+1)::Z0) W (by simp only[du,dv,dw,dx,dy,dz,dA,dB,dC,dD]) ?_ _ ?_).2
 ·simp only[cA,cB]
  exact(bU _ _ rfl t (aJ.r0 N0 Z (fT _) e1))
 ·generalize j0:c (.g f) (.h I Y0.b::X) (Y0.e (.b []))=x9;induction x9 with
  |d=>rw[j0]at c0;exact c0
  |g d=>
   rw[j0]at c0
   exact λS A0 u a1 B P0 q=>c0 S A0 u a1 B (e3.h0 P0 N0) (q.b e3.g)
  |b r d=>
   rw[j0]at c0
   intro G0 A0 u a1 B P0 q
   induction r using A.casesOn<;>try exact c0.elim
   refine⟨lU q,?_⟩
   exact c0 _ A0 u a1 B (e3.h0 P0 N0) (aC.b P0 E (cM _) S3.d.d _ _ t)
end
end Mine.Internal
set_option tactic.hygienic true
namespace Mine.Internal
open PySem PySem.W PySem.Calls PyProof.Rows
section
variable{k:aU}{L:Bool}{n:Nat}{U:bo}{Q:List aN}{F:ai->Prop}{C:j}{D:Nat->Option ai}{H:ay}{O0:aj->ay->Prop}{G:aV}{c:v}{Y:aj->ay->Prop}
theorem rV{h:aG}{Z0:List aj}(q:aJ k D F h [] Z0):Z0=[]:=by simpa only[cA,cB]using q
theorem lW{h:aG}{T:A}{X:List A}{Z0:List aj}(q:aJ k D F h (T::X) Z0):∃V r,Z0=V::r/\aC k D F h T V/\aJ k D F h X r:=by simpa only[cA,cB]using q
theorem oF{h:aG}{T:A}{Z0:List aj}(q:aJ k D F h [T] Z0):∃V,Z0=[V]/\aC k D F h T V:=by
 refine de (lW q) λV r n0 E N=>?_;obtain rfl:=n0
 obtain rfl:=rV N
 exact(aw V rfl E)
theorem Nm(L0:cn k){a0:hY}{T:A}{V:aj}{X:List A}{Z0:List aj}(J:bZ k L n U Q F C D H.heap)(h0:aC k D F H.heap T V)(K0:aJ k D F H.heap X Z0)(m:aB k Q F C D H (bz k F) (ey C a0 T X) Y O0):
 aR (aQ k.b k.c) U (gb (cv (CH a0)) (V::Z0)) Y O0 H:=by
 induction a0
 ·clear L0;rcases X with _|⟨d0,_|⟨S,X⟩⟩
  ·exact m.elim
  ·refine aA (oF K0) λq J0 E=>?_;obtain rfl:=J0;exact Mp J h0 E m
  ·exact m.elim
 ·rcases X with _|⟨d0,X⟩
  ·obtain rfl:=rV K0;exact Mq J h0 m
  ·exact m.elim
 ·rcases X with _|⟨d0,_|⟨S,X⟩⟩<;>try exact m.elim
  ·induction d0 using A.casesOn<;>try exact m.elim
   refine aA (oF K0) λq J0 E=>?_;obtain rfl:=J0
   clear K0;obtain⟨t,rfl⟩:=cG E
   exact Mr J h0 m
  ·clear J h0;induction d0 using A.casesOn<;>exact m.elim
 ·rcases X with _|⟨d0,_|⟨S,X⟩⟩
  ·exact m.elim
  ·refine aA (oF K0) λq J0 E=>?_;obtain rfl:=J0;exact Ms J h0 E m
  ·clear J h0 K0;induction d0 using A.casesOn<;>exact m.elim
 ·rcases X with _|⟨d0,_|⟨S,X⟩⟩<;>try exact m.elim
  ·induction d0 using A.casesOn<;>try exact m.elim
   refine aA (oF K0) λq J0 E=>?_;obtain rfl:=J0
   clear K0;obtain⟨t,rfl⟩:=fy E
   exact Mt L0 J h0 m
  ·clear J h0;induction d0 using A.casesOn<;>exact m.elim
 ·rcases X with _|⟨d0,_|⟨S,X⟩⟩
  ·exact m.elim
  ·refine aA (oF K0) λq J0 E=>?_;obtain rfl:=J0;exact My J h0 E m
  ·clear J h0 K0;induction d0 using A.casesOn<;>exact m.elim
 ·rcases X with _|⟨d0,_|⟨S,X⟩⟩<;>try exact m.elim
  ·induction d0 using A.casesOn<;>try exact m.elim
   refine aA (oF K0) λq J0 E=>?_;obtain rfl:=J0
   clear K0;obtain⟨t,rfl⟩:=cG E
   exact MA J h0 m
  ·clear J h0;induction d0 using A.casesOn<;>exact m.elim
theorem uf{z:mz}{u0:aH}{r:String}{G:List aj}{s0:List (Bool×gu aj)}(C:s0.any (·.1)=av)(h:aR z U (te s0) (λX c=>aR z U (gb (cv r) (G++X)) Y O0 c) O0 H):aR z U (nX u0 (cv r) G s0 []) Y O0 H:=
 callWith_builtin C (uc C h)
theorem Nn{o:aa}{s0:List aa}{e:ar}{a0:hY}{s:List ar}{O:aD}{u u0:aH}(L0:cn k)(y0:O=xG a0)(v:aE k L n G o (ag c e))(l0:jm k L n G s0 (bH c s))(J0:∀M u0,(hO u0 (dq s0 M)).any (·.1)=av)(C0:ue o O u u0 s0):
 aE k L n G (cQ (iu o O u) s0 [] u0) (ag c (.y e a0 s)):=by
 subst y0
 intro U Q M F b C D H J Y g0 m
 dsimp only[Cd]at m
 obtain⟨A0,C0⟩:=C0 M
 refine IQ (pl:=A0) (v U Q M F b C D H J _ _ (aB.y m J.c λm0 S0 V U0 H0 M0 _ n0 R0 Q0 R=>?_)) C0
 have r0:=J.p0 R0 n0
 refine aB.N R ?_;clear R;intro F0 R
 refine Mo (H:={H with heap:=H0,toks:=M0}) n0 F0 Q0 ?_
 refine uf (J0 _ _) (l0 u0 U Q M F b S0 U0 {H with heap:=H0,toks:=M0} r0 _ _ (aB.y R n0 λX Y0 Z0 T0 P E0 _ N0 O0 e1 c0=>?_))
 exact Nm L0 (H:={H with heap:=P,toks:=E0}) (r0.p0 O0 N0).tobZ (aC.b O0 n0 (cM _) r0.d.d _ _ Q0) e1 c0
structure jn(k:aU):Prop where
 b:∀Z T,(Z,T)∈([("len",cv "len"),("abs",cv "abs"),("list",aK "list"),("tuple",aK "tuple"),("dict",aK "dict"),("isinstance",cv "isinstance"),("str",aK "str"),("range",aK "range")]:List (aD×aj))->k.i Z=ae/\k.m Z=a T
theorem rW{M:aN}{b:ah}{Z:aD}{T:aj}{u0:aH}(L0:cn k)(g:jn k)(J:bq k L n U Q M G F b C D H.heap)(b0:G.lookup Z=a dI)(L:(Z,T)∈([("len",cv "len"),("abs",cv "abs"),("list",aK "list"),("tuple",aK "tuple"),("dict",aK "dict"),("isinstance",cv "isinstance"),("str",aK "str"),("range",aK "range")]:List (aD×aj)))(z0:(Z==("__debug__":aD))=av)(h:Y T H):aR (aQ k.b k.c) U (bP (aY Z u0) M) Y O0 H:=
 LY J L0 b0 (g.b _ _ L).1 (g.b _ _ L).2 z0 h
noncomputable abbrev iC(l:aa)(s0:List aa)(u0:aH):Prop:=∀M,bP (cQ l s0 [] u0) M=(do nX u0 (<-bP l M) [] (hO u0 (dq s0 M)) (Ba u0 (Bb [] M)))
theorem CV{Z:aD}{r:String}{f:jW}{S:aa}{e:ar}{o0 u0:aH}(L0:cn k)(g:jn k)(b0:G.lookup Z=a dI)(E:(Z,cv r)∈([("len",cv "len"),("abs",cv "abs"),("list",aK "list"),("tuple",aK "tuple"),("dict",aK "dict"),("isinstance",cv "isinstance"),("str",aK "str"),("range",aK "range")]:List (aD×aj)))(z0:(Z==("__debug__":aD))=av)(s:∀(U:bo)(Q:List aN)(F:ai->Prop)(C:j)(D:Nat->Option ai)(H:ay)(T:A)(V:aj)(Y:aj->ay->Prop)(g0:aj->ay->Prop),bZ k L n U Q F C D H.heap->aC k D F H.heap T V->aB k Q F C D H (bz k F) (cK C f T) Y g0->aR (aQ k.b k.c) U (gb (cv r) [V]) Y g0 H)(v0:aE k L n G S (ag c e))(A0:∀M,dq [S] M=[(av,bP S M)])(C0:iC (aY Z o0) [S] u0):aE k L n G (cQ (aY Z o0) [S] [] u0) (ag c (.q f e)):=by
 intro U Q M F b C D H J Y g0 m
 dsimp only[rL]at m
 refine qY (rW L0 g J b0 E z0 ?_) (C0 M)
 rw[A0]
 refine uf rfl (nV (v0 U Q M F b C D H J _ _ (aB.y m J.c λT S0 V U0 H0 M0 _ n0 R0 Q0 R=>pw ?_)))
 exact s U Q F S0 U0 {H with heap:=H0,toks:=M0} T V Y g0 (J.p0 R0 n0).tobZ Q0 R
theorem xI{Z:aD}{c0:String}{f:jW}{S:aa}{e:ar}{o0 u0:aH}(L0:cn k)(g:jn k)(b0:G.lookup Z=a dI)(E:(Z,aK c0)∈([("len",cv "len"),("abs",cv "abs"),("list",aK "list"),("tuple",aK "tuple"),("dict",aK "dict"),("isinstance",cv "isinstance"),("str",aK "str"),("range",aK "range")]:List (aD×aj)))(z0:(Z==("__debug__":aD))=av)(s:∀(U:bo)(Q:List aN)(F:ai->Prop)(C:j)(D:Nat->Option ai)(H:ay)(T:A)(V:aj)(Y:aj->ay->Prop)(g0:aj->ay->Prop),bZ k L n U Q F C D H.heap->aC k D F H.heap T V->aB k Q F C D H (bz k F) (cK C f T) Y g0->aR (aQ k.b k.c) U (gb (aK c0) [V]) Y g0 H)(v0:aE k L n G S (ag c e))(A0:∀M,dq [S] M=[(av,bP S M)])(C0:iC (aY Z o0) [S] u0):aE k L n G (cQ (aY Z o0) [S] [] u0) (ag c (.q f e)):=by
 intro U Q M F b C D H J Y g0 m
 dsimp only[rL]at m
 refine qY (rW L0 g J b0 E z0 ?_) (C0 M)
 rw[A0]
 refine Wm rfl (uc rfl (nV (v0 U Q M F b C D H J _ _ (aB.y m J.c λT S0 V U0 H0 M0 _ n0 R0 Q0 R=>pw ?_))))
 exact s U Q F S0 U0 {H with heap:=H0,toks:=M0} T V Y g0 (J.p0 R0 n0).tobZ Q0 R
theorem No{Z:aD}{S:aa}{e:ar}{o0 u0:aH}(L0:cn k)(g:jn k)(y0:Z="len")(b0:G.lookup Z=a dI)(v0:aE k L n G S (ag c e))(A0:∀M,dq [S] M=[(av,bP S M)])(C0:iC (aY Z o0) [S] u0):
 aE k L n G (cQ (aY Z o0) [S] [] u0) (ag c (.q .b e)):=by
 subst y0
 exact CV L0 g b0 (by decide) (by decide) (λU Q F C D H T V Y g0 J h0 m=>Mh J h0 m) v0 A0 C0
theorem Np{Z:aD}{S:aa}{e:ar}{o0 u0:aH}(L0:cn k)(g:jn k)(y0:Z="abs")(b0:G.lookup Z=a dI)(v0:aE k L n G S (ag c e))(A0:∀M,dq [S] M=[(av,bP S M)])(C0:iC (aY Z o0) [S] u0):
 aE k L n G (cQ (aY Z o0) [S] [] u0) (ag c (.q .g e)):=by
 subst y0
 exact CV L0 g b0 (by decide) (by decide) (λU Q F C D H T V Y g0 J h0 m=>Mi J h0 m) v0 A0 C0
theorem Nq{Z:aD}{S:aa}{e:ar}{o0 u0:aH}(L0:cn k)(g:jn k)(y0:Z="list")(b0:G.lookup Z=a dI)(v0:aE k L n G S (ag c e))(A0:∀M,dq [S] M=[(av,bP S M)])(C0:iC (aY Z o0) [S] u0):
 aE k L n G (cQ (aY Z o0) [S] [] u0) (ag c (.q .h e)):=by
 subst y0
 exact xI L0 g b0 (by decide) (by decide) (λU Q F C D H T V Y g0 J h0 m=>Mj J h0 m) v0 A0 C0
theorem Nr{Z:aD}{S:aa}{e:ar}{o0 u0:aH}(L0:cn k)(g:jn k)(y0:Z="tuple")(b0:G.lookup Z=a dI)(v0:aE k L n G S (ag c e))(A0:∀M,dq [S] M=[(av,bP S M)])(C0:iC (aY Z o0) [S] u0):
 aE k L n G (cQ (aY Z o0) [S] [] u0) (ag c (.q .e e)):=by
 subst y0
 exact xI L0 g b0 (by decide) (by decide) (λU Q F C D H T V Y g0 J h0 m=>Ml J h0 m) v0 A0 C0
theorem CW{Z y:aD}{c0:String}{f:jW}{S:aa}{e:ar}{o0 h u0:aH}(L0:cn k)(g:jn k)(y0:Z="isinstance")(b0:G.lookup Z=a dI)(E0:G.lookup y=a dI)(E:(y,aK c0)∈([("len",cv "len"),("abs",cv "abs"),("list",aK "list"),("tuple",aK "tuple"),("dict",aK "dict"),("isinstance",cv "isinstance"),("str",aK "str"),("range",aK "range")]:List (aD×aj)))(z0:(y==("__debug__":aD))=av)(s:∀(U:bo)(Q:List aN)(F:ai->Prop)(C:j)(D:Nat->Option ai)(H:ay)(T:A)(V:aj)(Y:aj->ay->Prop)(g0:aj->ay->Prop),bZ k L n U Q F C D H.heap->aC k D F H.heap T V->aB k Q F C D H (bz k F) (cK C f T) Y g0->aR (aQ k.b k.c) U (gb (cv "isinstance") [V,aK c0]) Y g0 H)(v0:aE k L n G S (ag c e))(A0:∀M,dq [S,aY y h] M=[(av,bP S M),(av,bP (aY y h) M)])(C0:iC (aY Z o0) [S,aY y h] u0):
 aE k L n G (cQ (aY Z o0) [S,aY y h] [] u0) (ag c (.q f e)):=by
 subst y0
 intro U Q M F b C D H J Y g0 m
 dsimp only[rL]at m
 refine qY (rW L0 g J b0 (T:=cv "isinstance") (by decide) (by decide) ?_) (C0 M)
 rw[A0]
 refine uf rfl (nV (v0 U Q M F b C D H J _ _ (aB.y m J.c λT S0 V U0 H0 M0 _ n0 R0 Q0 R=>?_)))
 have r0:=J.p0 R0 n0
 refine nV (rW (H:={H with heap:=H0,toks:=M0}) L0 g r0 E0 E z0 (pw ?_))
 exact s U Q F S0 U0 {H with heap:=H0,toks:=M0} T V Y g0 r0.tobZ Q0 R
theorem Ns{Z y:aD}{S:aa}{e:ar}{o0 h u0:aH}(L0:cn k)(g:jn k)(y0:Z="isinstance")(R:y="tuple")(b0:G.lookup Z=a dI)(E0:G.lookup y=a dI)(v0:aE k L n G S (ag c e))(A0:∀M,dq [S,aY y h] M=[(av,bP S M),(av,bP (aY y h) M)])(C0:iC (aY Z o0) [S,aY y h] u0):
 aE k L n G (cQ (aY Z o0) [S,aY y h] [] u0) (ag c (.q .c e)):=by
 subst R
 exact CW L0 g y0 b0 E0 (by decide) (by decide) (λU Q F C D H T V Y g0 J h0 m=>Mm J h0 m) v0 A0 C0
theorem Nt{Z y:aD}{S:aa}{e:ar}{o0 h u0:aH}(L0:cn k)(g:jn k)(y0:Z="isinstance")(R:y="str")(b0:G.lookup Z=a dI)(E0:G.lookup y=a dI)(v0:aE k L n G S (ag c e))(A0:∀M,dq [S,aY y h] M=[(av,bP S M),(av,bP (aY y h) M)])(C0:iC (aY Z o0) [S,aY y h] u0):
 aE k L n G (cQ (aY Z o0) [S,aY y h] [] u0) (ag c (.q .f e)):=by
 subst R
 exact CW L0 g y0 b0 E0 (by decide) (by decide) (λU Q F C D H T V Y g0 J h0 m=>Mn J h0 m) v0 A0 C0
theorem Nu{e:aa}{Z:ar}{u0:aH}(h:aE k L n G e (ag c Z)):aE k L n G (pt .Not e u0) (ag c (.H Z)):=by
 intro U Q M F b C D H J Y g0 m
 dsimp only[Kn]at m
 show aR _ _ (do let T<-bP e M;jd u0;ir [T] (Iu .Not T)) _ _ _
 refine bk (h U Q M F b C D H J _ _ (aB.y m J.c λm0 S0 V U0 H0 M0 _ n0 R0 Q0 R=>bk (qV (lL ?_))))
 refine not_of (tY (H:={H with heap:=H0,toks:=M0}) (J.p0 R0 n0).tobZ Q0 ?_)
 generalize F0:cy S0 m0=x9;induction x9 with
 |none=>rw[F0]at R;exact R.elim
 |some p=>
  rw[F0]at R
  intro G0 A0 u t B P0 j0
  obtain rfl:G0=p:=j0
  exact R (eQ (!G0)) A0 u t B P0 kD
theorem Nv{l:aa}{s0:List aa}{f:ar}{s:List ar}{u0:aH}(h:aE k L n G (cQ l s0 [] u0) (ag c (.m f s)))(p0:∀M t,lJ (cQ l s0 [] u0) M t=(do let T<-t;jd (cQ l s0 [] u0).pos;ir [T] (pG T))):eb k L n G (cQ l s0 [] u0) (bJ c (.m f s)):=
 ua h p0 λb C=>by
  dsimp only[KB,Cc]
  rw[ub]
  congr 1;funext S p
  rw[ub]
  all_goals congr 1
theorem Nw{f0:aa}{f:jW}{e:ar}(h:aE k L n G f0 (ag c (.q f e)))(p0:∀M t,lJ f0 M t=(do let T<-t;jd f0.pos;ir [T] (pG T))):eb k L n G f0 (bJ c (.q f e)):=
 ua h p0 λb C=>by
  dsimp only[KC,rL]
  rw[ub]
  all_goals congr 1
theorem Nx{f0:aa}{S:ak}{e:ar}(h:aE k L n G f0 (ag c (.n e S)))(p0:∀M t,lJ f0 M t=(do let T<-t;jd f0.pos;ir [T] (pG T))):eb k L n G f0 (bJ c (.n e S)):=
 ua h p0 λb C=>by
  dsimp only[KD,pZ]
  rw[ub]
  congr 1;funext T C
  induction T using A.casesOn<;>try rfl
  rename_i I r
  by_cases e0:bB I S=af
  ·dsimp only
   rw[if_pos e0,if_pos e0]
   generalize w0:C.c r=x9;induction x9 with
   |none=>rfl
   |some s0=>
    induction s0 with
    |b l=>dsimp only;cases aX l (an S).cps.toList<;>rfl
    |c l=>rfl
    |d l=>rfl
  ·dsimp only
   rw[if_neg e0,if_neg e0];rfl
end
end Mine.Internal
set_option tactic.hygienic false
namespace Mine.Internal
open PySem PySem.W PySem.Calls PyProof.Rows
noncomputable def xJ(F:ai->Prop)(p:ai)(o:cu):Prop:=((∃i n,o=cO i n)/\F p)\/(∃t0 n,o.data=eo t0 n)\/(∃X,o.data=bO X/\∀q t,X[1]?≠a (dG q t))\/o.data=jQ ae
noncomputable abbrev mO(M0:ai->Prop)(h E:aG):Prop:=∀p o,¬M0 p->h.get? p=a o->E.get? p=a o
noncomputable abbrev cD(F:ai->Prop)(i0:ai):ai->Prop:=λp=>F p\/p=i0
section
variable{k:aU}{W0:List ai}{O0:ai->cu->Prop}{C O:j}{D A0:Nat->Option ai}{h u E:aG}{F t M0:ai->Prop}
noncomputable abbrev mP(k:aU)(h:aG)(D A0:Nat->Option ai)(F t:ai->Prop):Prop:=
 (∀r S,D r=a S->A0 r=a S)/\∀S M n,h.get? S=a (cO M n)->(∀r,D r≠a S)->¬F S->(∀r,A0 r≠a S)/\¬t S
theorem xK(w:mP k h D A0 F t):qe k D A0 F t h h:=⟨w.1,λ_ _ _ z=>z,λS M n v j0 B0=>⟨v,w.2 S M n v j0 B0⟩,λ_ _ _ z=>z,λ_ _ _ z _ _=>z,λ_ z _=>z,λ_ _ _ z _=>z⟩
theorem aC.s(w:mP k h D A0 F t)(Z:A)(T:aj)(q:aC k D F h Z T):aC k A0 t h Z T:=aC.g (xK w) Z T q
theorem aJ.p0(w:mP k h D A0 F t)(Z:List A)(T:List aj)(q:aJ k D F h Z T):aJ k A0 t h Z T:=aJ.h0 (xK w) Z T q
theorem bT.d{g b0:Type}{f:b0->g}(w:mP k h D A0 F t)(Z:List (b0×A))(T:List (g×aj))(q:bT k D F h f Z T):bT k A0 t h f Z T:=bT.i (xK w) Z T q
theorem fE.d{S:ai}{s0:bM}(w:mP k h D A0 F t)(q:fE k D F h S s0):fE k A0 t h S s0:=by
 induction s0 with
 |c l=>refine fw (q) λM n v f0=>?_;exact(dK M n v (aJ.p0 w _ _ f0))
 |b l=>refine aA (q) λo0 i0 f0=>?_;exact(aw o0 i0 (bT.d w _ _ f0))
 |d l=>refine aA (q) λo0 i0 f0=>?_;exact(aw o0 i0 (bT.d w _ _ f0))
noncomputable abbrev ej(F M0:ai->Prop)(h E:aG):Prop:=mO M0 h E/\∀p,M0 p->∀o,h.get? p=a o->xJ F p o
theorem qr(w:ej F M0 h E){S:ai}{o:cu}(v:h.get? S=a o)(G:∀i n,o=cO i n->¬F S)(Q:∀t0 n,o.data≠eo t0 n)(P:∀X,o.data=bO X->∃q t,X[1]?=a (dG q t))(J:o.data≠jQ ae):E.get? S=a o:=by
 refine w.1 _ _ (λy0=>?_) v
 rcases w.2 _ y0 _ v with⟨⟨i,a0,z⟩,V⟩|⟨t0,a0,z⟩|⟨X,z,V⟩|z
 ·exact G i a0 z V
 ·exact Q t0 a0 z
 ·obtain⟨q,t,d0⟩:=P X z;exact V q t d0
 ·exact J z
theorem xL(w:ej F M0 h E):qe k D D F F h E:=by
 refine⟨λ_ _ z=>z,λS M n v=>?_,λS M n v j0 B0=>⟨?_,j0,B0⟩,λZ I d v=>?_,λf o G v e0 z0=>?_,λG P T=>?_,λB j G0 w0 F0=>?_⟩
 ·exact qr w v (λ_ _ z=>absurd (congrArg cu.cls z) xr) (λ_ _ z=>by cases z) (λ_ z=>by cases z) (λz=>by cases z)
 ·exact qr w v (λ_ _ _=>B0) (λ_ _ z=>by cases z) (λ_ z=>by cases z) (λz=>by cases z)
 ·exact qr w v (λ_ _ z=>by cases z) (λ_ _ z=>by cases z) (λ_ z=>by cases z) (λz=>by cases z)
 ·exact qr w v (λ_ _ z=>by rw[z]at z0;cases z0) (λ_ _ z=>by(injection eY (fp z0) z;done)) (λ_ z=>by(injection eY (fp z0) z;done)) (λz=>by(injection eY (fp z0) z;done))
 ·exact xt P λI q X t n0 E N h3=>qr w E (λ_ _ z=>by rw[z]at N;cases N) (λ_ _ z=>by(injection eY (fp N) z;done)) (λ_ z=>by rw[N]at z;cases z;exact(gL _ _ h3)) (λz=>by(injection eY (fp N) z;done))
 ·exact qr w w0 (λ_ _ z=>by rw[z]at F0;cases F0) (λ_ _ z=>by(injection eY (fp F0) z;done)) (λ_ z=>by(injection eY (fp F0) z;done)) (λz=>by rw[F0]at z;cases z)
theorem aC.c(w:ej F M0 h E)(Z:A)(T:aj)(q:aC k D F h Z T):aC k D F E Z T:=aC.g (xL w) Z T q
theorem aJ.g(w:ej F M0 h E)(Z:List A)(T:List aj)(q:aJ k D F h Z T):aJ k D F E Z T:=aJ.h0 (xL w) Z T q
theorem bT.c{g b0:Type}{f:b0->g}(w:ej F M0 h E)(Z:List (b0×A))(T:List (g×aj))(q:bT k D F h f Z T):bT k D F E f Z T:=bT.i (xL w) Z T q
theorem fE.f{S:ai}{s0:bM}(w:ej F M0 h E)(v0:¬M0 S)(q:fE k D F h S s0):fE k D F E S s0:=by
 induction s0 with
 |c l=>refine fw (q) λM n v f0=>?_;exact(dK M n (w.1 _ _ v0 v) (aJ.g w _ _ f0))
 |b l=>refine aA (q) λo0 J0 f0=>?_;obtain⟨o,t0,X0,v,r⟩:=J0;exact(aw o0 (jA o t0 X0 (w.1 _ _ v0 v) r) (bT.c w _ _ f0))
 |d l=>refine aA (q) λo0 J0 f0=>?_;obtain⟨o,t0,X0,v,r⟩:=J0;exact(aw o0 (jA o t0 X0 (w.1 _ _ v0 v) r) (bT.c w _ _ f0))
structure xM(k:aU)(b:Nat->Option ai)(M0:ai->Prop):Prop where
 b:∀p,M0 p->∀r,b r≠a p
 c:∀p,M0 p->k.d.get? p=ae
 d:¬M0 k.e
theorem oG(R:bj k D F C h)(w:ej F M0 h E)(s:xM k D M0)(A0:∀p,F p->M0 p->E.get? p≠ae):bj k D F C E:=by
 have B:∀r S,D r=a S->¬M0 S:=λr S j0 y0=>s.b S y0 r j0
 have g:∀p,¬M0 p->h.get? p≠ae->E.get? p≠ae:=λp W k0=>by
  generalize q:h.get? p=x9;induction x9 with
  |none=>exact absurd q k0
  |some o=>rw[w.1 _ _ W q];intro z;exact bR z
 refine{R with b:=λr s0 j0=>?_,e:=?_,c:=λp o W=>w.1 _ _ (λy0=>by exact ig (s.c p y0) W) (R.c p o W),d:=λp W=>?_,f:=λr S j0=>g S (B r S j0) (R.f r S j0)}
 ·refine aA (R.b r s0 j0) λS v0 x0=>?_
  exact(aw S v0 (x0.f w (B r S v0)))
 ·refine aA (R.e) λZ0 p0 L=>?_
  exact(aw Z0 (w.1 _ _ s.d p0) L)
 ·by_cases y0:M0 p
  ·exact A0 p W y0
  ·exact g p y0 (R.d p W)
theorem aZ.u0{n0:aG}(e:aZ k W0 bV C D n0 O A0 h)(w:mO M0 h E)(J:∀p,M0 p->n0.get? p=ae):aZ k W0 bV C D n0 O A0 E:=by
 have t:∀p o,n0.get? p=a o->¬M0 p:=λp o W y0=>by exact ig (J p y0) W
 refine⟨λp o v y0 f0 o0=>⟨λB0=>w _ _ (t p o v) ((e.V p o v y0 f0 o0).1 B0),λB0=>?_⟩,e.c0,e.i0,e.m0,e.r0,λp W=>?_⟩
 ·obtain⟨c,l0⟩:=(e.V p o v y0 f0 o0).2 B0
  exact⟨c,w _ _ (t p o v) l0⟩
 ·by_cases y0:M0 p
  ·exact J p y0
  ·refine e.g p ?_
   generalize q:h.get? p=x9;induction x9 with
   |none=>rfl
   |some o=>exact fS (w _ _ y0 q) W
theorem aZ.I0{n0:aG}(e:aZ k W0 O0 C D n0 O A0 h)(w:mO M0 h E)(J:∀p,M0 p->n0.get? p=ae):aZ k W0 O0 C D n0 O A0 E:=by
 have t:∀p o,n0.get? p=a o->¬M0 p:=λp o W y0=>by exact ig (J p y0) W
 refine⟨λp o v y0 f0 o0=>⟨λB0=>w _ _ (t p o v) ((e.V p o v y0 f0 o0).1 B0),λB0=>?_⟩,e.c0,e.i0,e.m0,e.r0,λp W=>?_⟩
 ·obtain⟨c,l0⟩:=(e.V p o v y0 f0 o0).2 B0
  exact⟨c,w _ _ (t p o v) l0⟩
 ·by_cases y0:M0 p
  ·exact J p y0
  ·refine e.g p ?_
   generalize q:h.get? p=x9;induction x9 with
   |none=>rfl
   |some o=>exact fS (w _ _ y0 q) W
theorem iP.y{Q:List aN}(Z:iP k D h Q)(w:mO M0 h E)(J:∀M∈Q,∀s,M.frame=a s->¬M0 s):iP k D E Q:=by
 intro M C0
 refine lR (Z M C0) λq0 s o t0 n l N h3 h4 h5 h6=>?_
 exact⟨q0,s,o,t0,n,l,w _ _ (J M C0 s l) N,h3,h4,h5,h6⟩
theorem ug{i0:ai}(Q0:h.get? i0=ae):mP k h D D F (cD F i0):=
 ⟨λ_ _ z=>z,λS M n v j0 B0=>⟨j0,λz=>z.elim B0 λz=>by rw[z,Q0]at v;exact bD v⟩⟩
theorem xN{i0:ai}:mP k h D D (cD F i0) F:=⟨λ_ _ z=>z,λ_ _ _ _ j0 B0=>⟨j0,λz=>B0 (aL z)⟩⟩
theorem rX{i0:ai}{w:Nat}(q0:∀r S,D r=a S->r≠w):mP k h D (eZ D w i0) (cD F i0) F:=by
 refine⟨λr S z=>?_,λS M n v j0 B0=>⟨λr z=>?_,λz=>B0 (aL z)⟩⟩
 ·show(if r=w then a i0 else D r)=a S
  rw[if_neg (q0 r S z)];exact z
 ·have V:(if r=w then a i0 else D r)=a S:=z
  by_cases e:r=w
  ·replace V:=be (if_pos e) V;subst V;exact B0 (aI rfl)
  ·rw[if_neg e]at V;exact j0 r V
theorem CX{o:cu}(R:bj k D F C h)(B0:o.isFreed=av):bj k D (cD F h.objs.size) C (h.push o):=by
 have R1:bj k D F C (h.push o):=ou R λ_ _ z=>cc _ z
 have Q0:=fT h
 have B:∀r S,D r=a S->¬cD F h.objs.size S:=λr S j0 z=>z.elim (R.s r S j0) λz=>R.f r S j0 (z▸Q0)
 have E:∀p,cD F h.objs.size p->(h.push o).get? p≠ae:=λp W=>W.elim (R1.d p) λW=>by
  rw[W,kW _ B0];intro z;exact bR z
 refine{R1 with s:=B,d:=E,b:=λr s0 j0=>?_}
 refine aA (R.b r s0 j0) λS v0 x0=>?_
 have q2:fE k D (cD F h.objs.size) h S s0:=x0.d (ug Q0)
 exact(aw S v0 (q2.f (M0:=λ_=>False) ⟨λ_ _ _ z=>cc _ z,λ_ z=>z.elim⟩ (λz=>z)))
theorem CY{i0:ai}(R:bj k D (cD F i0) C h):bj k D F C h:=
 {R with s:=λr S j0 z=>R.s r S j0 (aL z),d:=λp W=>R.d p (aL W),b:=λr s0 j0=>let⟨S,v0,x0⟩:=R.b r s0 j0;(aw S v0 (x0.d xN))}
theorem xO{i0:ai}{s0:bM}(R:bj k D (cD F i0) C h)(u0:k.d.get? i0=ae)(A0:¬F i0)(q:fE k (eZ D C.b i0) F h i0 s0):bj k (eZ D C.b i0) F (C.e s0) h:=by
 have q0:∀r S,D r=a S->r≠C.b:=λr S j0 z=>absurd (R.g r S j0) (by rw[z];exact pg _)
 have M:∀r p,D r=a p->p≠i0:=λr p j0 z=>R.s r p j0 (aI z)
 have B:∀r p,eZ D C.b i0 r=a p->(r=C.b/\p=i0)\/(r≠C.b/\D r=a p):=λr p Z=>by
  have H:(if r=C.b then a i0 else D r)=a p:=Z
  by_cases z:r=C.b
  ·rw[if_pos z]at H;exact aL ⟨z,(bn H).symm⟩
  ·rw[if_neg z]at H;exact aI ⟨z,H⟩
 refine⟨λr m p Z y=>?_,λr p Z=>?_,λr p Z=>?_,λr p Z=>?_,λr o Z=>?_,?_,R.c,R.w,λp W=>R.d p (aL W),λr p Z=>?_⟩
 ·rcases B r p Z with⟨e1,e2⟩|⟨e1,e2⟩<;>rcases B m p y with⟨e3,e4⟩|⟨e3,e4⟩
  ·rw[e1,e3]
  ·exact absurd e2 (M _ _ e4)
  ·exact absurd e4 (M _ _ e2)
  ·exact R.t _ _ _ e2 e4
 ·rcases B r p Z with⟨e1,e2⟩|⟨e1,e2⟩
  ·rw[e1];exact fM _
  ·exact kU (R.g _ _ e2)
 ·rcases B r p Z with⟨e1,e2⟩|⟨e1,e2⟩
  ·rw[e2];exact A0
  ·exact λz=>R.s _ _ e2 (aL z)
 ·rcases B r p Z with⟨e1,e2⟩|⟨e1,e2⟩
  ·rw[e2];exact u0
  ·exact R.u _ _ e2
 ·have H:(if r=C.b then a s0 else C.c r)=a o:=Z
  by_cases z:r=C.b
  ·replace H:=be (if_pos z) H;subst H
   exact(aw i0 (by show(if r=C.b then _ else _)=_;rw[if_pos z]) q)
  ·rw[if_neg z]at H
   refine aA (R.b r o H) λp W x0=>?_
   exact(aw p (by show(if r=C.b then _ else _)=_;rw[if_neg z];exact W) (x0.d (rX q0)))
 ·exact R.e
 ·rcases B r p Z with⟨e1,e2⟩|⟨e1,e2⟩
  ·rw[e2];exact R.d i0 (aI rfl)
  ·exact R.f _ _ e2
theorem xP{n0:aG}{i0:ai}{s0:bM}{m:j}{d0:Nat->Option ai}(e:aZ k W0 bV m d0 n0 C D h)(R:bj k D (cD F i0) C h)(Q0:n0.get? i0=ae):aZ k W0 bV m d0 n0 (C.e s0) (eZ D C.b i0) h:=by
 have q0:∀r S,D r=a S->r≠C.b:=λr S j0 z=>absurd (R.g r S j0) (by rw[z];exact pg _)
 refine⟨e.V,λr S j0=>?_,λr S j0 y0=>?_,λr k0 w0=>?_,wD e.r0,e.g⟩
 ·have:=e.c0 r S j0
  show(if r=C.b then a i0 else D r)=a S
  rw[if_neg (q0 r S this)];exact this
 ·have V:(if r=C.b then a i0 else D r)=a S:=j0
  by_cases z:r=C.b
  ·replace V:=be (if_pos z) V;subst V;exact Q0
  ·rw[if_neg z]at V;exact e.i0 r S V y0
 ·show(if r=C.b then a s0 else C.c r)=ae
  rw[if_neg (bC (aM k0 e.r0))]
  exact e.m0 r k0 w0
end
end Mine.Internal
set_option tactic.hygienic false
namespace Mine.Internal
open PySem PySem.W PySem.Calls PyProof.Rows
noncomputable def eM(M:aN):ai->cu->Prop:=λp o=>p=M.locals\/(o.data=jQ ae/\∃Z,(Z,p)∈M.cells)
section
variable{k:aU}{L:Bool}{n:Nat}{U:bo}{Q:List aN}{M:aN}{G:aV}{F:ai->Prop}{b:ah}{C O:j}{D A0:Nat->Option ai}{h u:aG}
theorem bq.e1(J:bq k L n U Q M G F b C D h):xM k D (λp=>p=M.locals):=
 ⟨λp W r j0=>by subst W;exact J.I0 r j0,λp W=>by subst W;exact J.Y0,λz=>J.L0 z.symm⟩
theorem uh{a0:aD->Option aj}{S:ai}(Z:h.Ns S a0):∀p,p=S->∀o,h.get? p=a o->xJ F p o:=by
 rintro p rfl o v
 refine eJ (Z) λU0 t0 X0 P0 z0 _=>?_
 replace P0:=be v P0;subst P0
 exact aI (aL (gL t0 X0 z0))
theorem bq.f1(J:bq k L n U Q M G F b C D h){Z:ak}{T:A}{G0:aj}{a0:aD->Option aj}(q0:M.kindOf (an Z)=a .local)(h0:aC k D F h T G0)(R:h.Ns M.locals a0)(l:∀y d0,b y=a d0->xy k D F h M a0 y d0)(d1:u.Ns M.locals (λy=>if y=an Z then a G0 else a0 y))(l0:hG M.locals h u):
 bq k L n U Q M G F (b.c Z T) C D u/\aZ k (bx Q) (eM M) C D h C D u:=by
 have S0:ej F (λp=>p=M.locals) h u:=⟨λp o W v=>(l0.2 p W).trans v,uh R⟩
 have t:u.get? M.locals≠ae:=by refine gg (d1) λo _ _ v _=>?_;rw[v];intro z;exact bR z
 have B:=oG J.c S0 J.e1 λp _ W=>by subst W;exact t
 have H:∀I T,h.IsCell I T->I≠M.locals:=by
  rintro I T ⟨o,v,z0⟩ rfl
  refine eJ (R) λU0 t0 X0 P0 c _=>?_
  replace P0:=be v P0;subst P0;(injection eY (fp z0) c;done)
 have r:∀I T,h.IsCell I T->u.IsCell I T:=λI T q=>let⟨o,v,z0⟩:=q;(aw o ((l0.2 I (H I T q)).trans v) z0)
 have m:∀y,M.kindOf (an y)=a dh\/M.kindOf (an y)=a dN->y≠Z:=λy E0 e=>by
  rw[e,q0]at E0;rcases E0 with z|z<;>cases z
 refine⟨{c:=B,g:=J.g,i:=J.i,f:=J.f,names:=J.names,kind:=J.kind,globals:=J.globals,builtins:=J.builtins,Y0:=J.Y0,I0:=J.I0,L0:=J.L0,Q0:=J.Q0,J0:=J.J0,d:=λN0 C0=>?_,r0:=(aw _ d1 (λy d0 E0=>?_)),x0:=λy E0 k0=>?_},⟨λp o v _ _ o0=>?_,λ_ _ z=>z,λ_ _ z V=>(by exact fS z V),λ_ _ z=>z,bS _,λp W=>?_⟩⟩
 ·refine lR (J.d N0 C0) λg s o t0 w E N h3 h4 h5 h6=>?_
  by_cases H0:s=M.locals
  ·refine eJ (d1) λU0 f X P0 c _=>?_
   exact⟨g,s,U0,f,X,E,by rw[H0];exact P0,c,h4,h5,h6⟩
  ·exact⟨g,s,o,t0,w,E,(l0.2 s H0).trans N,h3,h4,h5,h6⟩
 ·by_cases S:y=Z
  ·subst S
   have:d0=T:=by rw[ah.e,if_pos rfl]at E0;exact(bn E0).symm
   subst this
   exact(aw G0 (aC.c S0 _ _ h0) (aL ⟨q0,by show(if an y=an y then _ else _)=_;rw[if_pos rfl]⟩))
  ·have O:b y=a d0:=by rw[ah.e,if_neg S]at E0;exact E0
   refine aA (l y d0 O) λm0 j0 K0=>?_
   refine(aw m0 (aC.c S0 _ _ j0) ?_)
   rcases K0 with⟨E,N⟩|⟨E,I,N,h3,h4⟩
   ·exact aL ⟨E,by show(if an y=an Z then _ else _)=_;rw[if_neg λz=>S (pW z)];exact N⟩
   ·exact aI ⟨E,I,N,r _ _ h3,h4⟩
 ·have S:=m y (aL E0)
  have Y:b y=ae:=by rw[ah.e,if_neg S]at k0;exact k0
  refine dP (J.x0 y E0 Y) λI E N h3=>?_
  exact(cW I E (r _ _ N) h3)
 ·have W:p≠M.locals:=λz=>o0 (aL z)
  have:=(l0.2 p W).trans v
  exact⟨λ_=>this,λ_=>⟨o.slots,this⟩⟩
 ·by_cases z:p=M.locals
  ·exact absurd W (z▸t)
  ·rw[<-l0.2 p z];exact W
theorem xQ{Z:aD}{I:ai}:∀{l:List (aD×ai)},l.lookup Z=a I->(Z,I)∈l:=by
 intro J
 induction J with
 |nil=>
  intro h
  simp at h
 |cons f l U=>
  obtain⟨y,d⟩:=f
  intro h
  rw[lb]at h
  cases e:Z==y with
  |true=>rw[e]at h;cases h;rw[beq_iff_eq]at e;rw[e];exact et _
  |false=>rw[e]at h;exact gK _ (U h)
theorem CZ{Z y:aD}{I:ai}:∀{l:List (aD×ai)},l.Pairwise (λS p=>S.2≠p.2)->l.lookup Z=a I->l.lookup y=a I->Z=y:=by
 intro J
 induction J with
 |nil=>
  intro _ h _
  simp at h
 |cons f l U=>
  obtain⟨z,d⟩:=f
  intro p0 h u
  rw[Wn]at p0
  rw[lb]at h u
  cases e:Z==z with
  |true=>
   rw[e]at h;cases h
   cases P0:y==z with
   |true=>rw[beq_iff_eq]at e P0;rw[e,P0]
   |false=>rw[P0]at u;exact absurd rfl (p0.1 (y,I) (xQ (l:=l) u))
  |false=>
   rw[e]at h
   cases P0:y==z with
   |true=>rw[P0]at u;cases u;exact absurd rfl (p0.1 (Z,I) (xQ (l:=l) h))
   |false=>rw[P0]at u;exact U p0.2 h u
theorem bq.a1(J:bq k L n U Q M G F b C D h){Z:ak}{T:A}{G0:aj}{I:ai}(k0:b Z=ae)(q0:M.kindOf (an Z)=a dh)(e0:M.cells.lookup (an Z)=a I)(X:h.IsCell I ae)(c0:I≠k.e)(v0:∀r,D r≠a I)(B0:k.d.get? I=ae)(h0:aC k D F h T G0)(d1:u.IsCell I (a G0))(l0:hG I h u):
 bq k L n U Q M G F (b.c Z T) C D u/\aZ k (bx Q) (eM M) C D h C D u:=by
 refine aA (X) λj w0 F0=>?_
 clear X;have S0:ej F (λp=>p=I) h u:=⟨λp o W v=>(l0.2 p W).trans v,by rintro p rfl o v;(replace v:=be w0 v;subst v);exact aI (aI (aI F0))⟩
 have t:u.get? I≠ae:=by refine aA (d1) λo v _=>?_;rw[v];intro z;exact bR z
 have B:=oG J.c S0 ⟨λp W r j0=>by subst W;exact v0 r j0,λp W=>by subst W;exact B0,λz=>c0 z.symm⟩ λp _ W=>by subst W;exact t
 clear v0 B0;refine aA (J.r0) λa0 R l=>?_
 have f:M.locals≠I:=by
  rintro e
  clear J k0 q0 e0 c0 h0 d1 l0 S0 t B l;refine eJ (R) λU0 t0 X0 P0 c _=>?_
  clear R;rw[e,w0]at P0;(replace P0:=bn P0;subst P0);(injection eY (fp F0) c;done)
 have y0:∀y d,y≠Z->M.cells.lookup (an y)=a d->d≠I:=by
  clear k0 q0 c0 h0 d1 l0 w0 F0 S0 t B R l f;rintro y d E0 z0 rfl
  exact E0 (pW (CZ J.Q0 z0 e0))
 refine⟨{c:=B,g:=J.g,i:=J.i,f:=J.f,names:=J.names,kind:=J.kind,globals:=J.globals,builtins:=J.builtins,Y0:=J.Y0,I0:=J.I0,L0:=J.L0,Q0:=J.Q0,J0:=J.J0,d:=λN0 C0=>?_,r0:=(aw a0 (R.sameBut l0 f) (λy d0 E0=>?_)),x0:=λy E0 k0=>?_},⟨λp o v _ _ o0=>?_,λ_ _ z=>z,λ_ _ z V=>(by exact fS z V),λ_ _ z=>z,bS _,λp W=>?_⟩⟩
 ·clear k0 q0 e0 c0 h0 d1 S0 t B R l f y0;refine lR (J.d N0 C0) λg s o t0 w E N h3 h4 h5 h6=>?_
  refine⟨g,s,o,t0,w,E,(l0.2 s λe=>?_).trans N,h3,h4,h5,h6⟩
  clear J l0 C0 g E h4 h5 h6;rw[e,w0]at N;(replace N:=bn N;subst N);(injection eY (fp F0) h3;done)
 ·clear w0 F0;by_cases S:y=Z
  ·subst S
   have:d0=T:=by rw[ah.e,if_pos rfl]at E0;exact(bn E0).symm
   subst this
   exact(aw G0 (aC.c S0 _ _ h0) (aI ⟨aL q0,I,e0,d1,c0⟩))
  ·have O:b y=a d0:=by rw[ah.e,if_neg S]at E0;exact E0
   refine aA (l y d0 O) λm0 j0 K0=>?_
   refine(aw m0 (aC.c S0 _ _ j0) ?_)
   clear j0 O;rcases K0 with⟨E,N⟩|⟨E,d,N,⟨o,v,z0⟩,h4⟩
   ·exact aL ⟨E,N⟩
   ·exact aI ⟨E,d,N,(aw o ((l0.2 d (y0 y d S N)).trans v) z0),h4⟩
 ·have S:y≠Z:=λe=>by subst e;rw[ah.e,if_pos rfl]at k0;exact bR k0
  have Y:b y=ae:=by rw[ah.e,if_neg S]at k0;exact k0
  refine dP (J.x0 y E0 Y) λd E n0 h3=>?_;obtain⟨o,v,z0⟩:=n0
  exact(cW d E (aw o ((l0.2 d (y0 y d S E)).trans v) z0) h3)
 ·have W:p≠I:=λz=>o0 (aI ⟨by subst z;(replace v:=be w0 v;subst v);exact F0,_,z▸xQ e0⟩)
  have:=(l0.2 p W).trans v
  exact⟨λ_=>this,λ_=>⟨o.slots,this⟩⟩
 ·by_cases z:p=I
  ·exact absurd W (z▸t)
  ·rw[<-l0.2 p z];exact W
end
end Mine.Internal
set_option tactic.hygienic false
namespace Mine.Internal
open PySem PySem.W PySem.Calls PyProof.Rows
noncomputable abbrev ls(d:aa):Prop:=(∃Z V,d=aY Z V)\/∃t0 w V,d=gx t0 w V
noncomputable abbrev rY(m0:ai)(h:aG):Prop:=∃o X,h.get? m0=a o/\o.data=bO X/\∀q t,X[1]?≠a (dG q t)
structure mQ(k:aU)(d:aa)(m0 y:ai)(l L0:List A)(g:List aj)(s0:Nat->aG->Prop):Prop where
 e:∀i(h u:aG),s0 i h->(∀p o,(p=m0\/p=y)->h.get? p=a o->u.get? p=a o)->s0 i u
 c:∀i(h:aG),s0 i h->rY m0 h
 f:∀{U:bo}{H:ay}{i:Nat}{T:A}{D:Nat->Option ai}{F:ai->Prop}{Y:Option aj->ay->Prop}{g0:aj->ay->Prop},s0 i H.heap->aJ k D F H.heap L0 g->l[i]?=a T->
  (∀G0 u t,mO (λp=>p=m0) H.heap u->rY m0 u->aC k D F u T G0->
    (∀(b:Unit->ay->Prop)(H1:aj->ay->Prop),(∀X,s0 (i+1) X->mO (λp=>p=m0) u X->b () {H with heap:=X,toks:=t})->aR (aQ k.b k.c) U (IU d (ax m0) G0) b H1 {H with heap:=u,toks:=t})->
    Y (a G0) {H with heap:=u,toks:=t})->
  aR (aQ k.b k.c) U (Bc (ax m0)) Y g0 H
 m:∀{U:bo}{H:ay}{i:Nat}{Y:Option aj->ay->Prop}{g0:aj->ay->Prop},U.handled=ae->s0 i H.heap->l[i]?=ae->
  (∀u,mO (λp=>p=m0) H.heap u->Y ae {H with heap:=u})->aR (aQ k.b k.c) U (Bc (ax m0)) Y g0 H
section
variable{k:aU}{d:aa}{m0 y:ai}
theorem ui{U:bo}{H:ay}{G0:aj}{b:Unit->ay->Prop}{H1:aj->ay->Prop}{o:cu}{c0:String}{X:Array aj}(F0:ls d)(v:H.heap.get? m0=a o)(e0:o.cls=aK c0)(z0:o.data=bO X)(i:(["enumerate","zip","dict_itemiterator","dict_reverseitemiterator","odict_iterator","itertools.zip_longest","itertools.pairwise"]:List String).contains c0=av)(h:b () H):aR (aQ k.b k.c) U (IU d (ax m0) G0) b H1 H:=by
 rcases F0 with⟨Z,V,rfl⟩|⟨t0,w,V,rfl⟩
 ·exact Bd (a:=()) rfl h
 ·induction G0 with
  |ref S=>
   unfold IU
   refine bk (Wo v ?_)
   rw[e0,z0]
   dsimp only
   rw[i,Vz,if_neg Bool.false_ne_true]
   exact cJ h
  |_=>exact Bd (a:=()) rfl h
theorem Da{M:Array aj}{l:List A}(F0:ls d)(M0:y≠m0)(Y0:M.size=l.length):mQ k d m0 y l l M.toList (λi h=>h.IsListIter m0 y i/\h.IsList y M) where
 e:=by rintro i h u ⟨⟨o,v,r⟩,⟨q,x0,m⟩⟩ w;exact⟨(aw o (w _ _ (aL rfl) v) r),(aw q (w _ _ (aI rfl) x0) m)⟩
 c:=by rintro i h ⟨⟨o,v,e0,z0⟩,_⟩;exact(bU o _ v z0 (by intro q t z;simp at z))
 f:=by
  rintro U H i T D F Y g0 ⟨E,N⟩ j0 h0 h
  refine lg λt1=>?_
  refine aA (j0.c0 h0) λG0 a1 c0=>?_
  refine dP (id E) λX n f S=>?_
  refine t1 ?_
  refine Wp E N (by rw[<-pA];exact a1) λu c1 l0=>?_
  have S0:ej F (λp=>p=m0) H.heap u:=⟨λp o W v=>(l0.2 p W).trans v,by rintro p rfl o v;(replace v:=be n v;subst v);exact aI (aI (aL (aw _ S (by intro q t z;simp at z))))⟩
  refine dP (id c1) λU0 P0 R c=>?_
  refine h G0 u H.toks S0.1 (bU U0 _ P0 c (by intro q t z;simp at z)) (aC.c S0 _ _ c0) λb H1 w=>ui F0 P0 R c (by decide) (w u ⟨c1,N.extBut l0.extBut M0⟩ λ_ _ _ z=>z)
 m:=by
  rintro U H i Y g0 T0 ⟨E,N⟩ h0 h
  refine Wq T0 E N (by rw[IV,Y0];exact mA.mp h0) λu C0=>h u λp o W v=>C0 p o W v
theorem Ny{M:Array aj}{l:List A}(F0:ls d)(M0:y≠m0)(Y0:M.size=l.length):mQ k d m0 y l l M.toList (λi h=>h.IsTupleIter m0 y i/\h.IsTuple y M) where
 e:=by rintro i h u ⟨⟨o,v,r⟩,⟨q,x0,m⟩⟩ w;exact⟨(aw o (w _ _ (aL rfl) v) r),(aw q (w _ _ (aI rfl) x0) m)⟩
 c:=by rintro i h ⟨⟨o,v,e0,z0⟩,_⟩;exact(bU o _ v z0 (by intro q t z;simp at z))
 f:=by
  rintro U H i T D F Y g0 ⟨E,N⟩ j0 h0 h
  refine lg λt1=>?_
  refine aA (j0.c0 h0) λG0 a1 c0=>?_
  refine dP (id E) λX n f S=>?_
  refine t1 ?_
  refine wpAny_pyNext_tuple_item E N (by rw[<-pA];exact a1) λu c1 l0=>?_
  have S0:ej F (λp=>p=m0) H.heap u:=⟨λp o W v=>(l0.2 p W).trans v,by rintro p rfl o v;(replace v:=be n v;subst v);exact aI (aI (aL (aw _ S (by intro q t z;simp at z))))⟩
  refine dP (id c1) λU0 P0 R c=>?_
  refine h G0 u H.toks S0.1 (bU U0 _ P0 c (by intro q t z;simp at z)) (aC.c S0 _ _ c0) λb H1 w=>ui F0 P0 R c (by decide) (w u ⟨c1,N.extBut l0.extBut M0⟩ λ_ _ _ z=>z)
 m:=by
  rintro U H i Y g0 T0 ⟨E,N⟩ h0 h
  refine wpAny_pyNext_tuple_end T0 E N (by rw[IV,Y0];exact mA.mp h0) λu C0=>h u λp o W v=>C0 p o W v
theorem Db{D:Nat->Option ai}{F:ai->Prop}{h:aG}:∀{l:List (am×A)}{o0:List (aD×aj)},bT k D F h am.b l o0->o0.map (·.1)=l.map (λV=>V.1.b):=by
 intro J
 induction J with
 |nil=>
  intro _ q
  have t:_=[]:=q;rw[t];rfl
 |cons Z l U=>
  rintro _ ⟨T,r,e,_,N⟩
  rw[e,dX,dX,U N]
theorem Nz{D:Nat->Option ai}{F:ai->Prop}{h:aG}:∀{l:List (am×A)}{o0:List (aD×aj)},bT k D F h am.b l o0->aJ k D F h (l.map (·.2)) (o0.map (·.2)):=by
 intro J
 induction J with
 |nil=>
  intro _ q
  have t:_=[]:=q;rw[t];simp[cA,cB]
 |cons Z l U=>
  rintro _ ⟨T,r,e,E,N⟩
  rw[e]
  simp only[dX,cA,cB]
  exact(bU T _ rfl E (U N))
theorem NA{o0:List (aD×aj)}{X0:Nat}{l:List (am×A)}(F0:ls d)(M0:y≠m0)(q0:o0.map (·.1)=l.map (λV=>V.1.b)):
 mQ k d m0 y (l.map λV=>.c V.1) [] [] (λi h=>h.IsKeyIter m0 y i o0.length X0/\h.DictAt (eR k.b k.c) y o0 X0) where
 e:=by rintro i h u ⟨⟨o,v,r⟩,⟨q,t0,x0,m⟩⟩ w;exact⟨(aw o (w _ _ (aL rfl) v) r),(dK q t0 (w _ _ (aI rfl) x0) m)⟩
 c:=by rintro i h ⟨⟨o,v,e0,z0⟩,_⟩;exact(bU o _ v z0 (by intro q t z;simp at z))
 f:=by
  rintro U H i T D F Y g0 ⟨E,N⟩ j0 h0 h
  refine dP (id E) λX n f S=>?_
  rw[ft]at h0
  generalize p0:l[i]?=x9;induction x9 with
  |none=>rw[p0]at h0;cases h0
  |some V=>
   rw[p0]at h0;cases h0
   have:(o0.map (·.1))[i]?=a V.1.b:=by rw[q0,ft,p0];rfl
   rw[ft]at this
   generalize x0:o0[i]?=x9;induction x9 with
   |none=>rw[x0]at this;cases this
   |some G=>
    refine lg λt1=>?_
    obtain⟨w,d0⟩:=G
    rw[x0]at this
    have Z:w=V.1.b:=bn this
    subst Z
    refine t1 ?_
    refine wpAny_pyNext_dict_item E N x0 λe u j c1 l0=>?_
    refine lg λt1=>?_
    obtain⟨t,rfl⟩:=Ik j
    refine dP (id c1) λU0 P0 R c=>?_
    refine t1 ?_
    refine h _ u H.toks (λp o W v=>(l0.2 p W).trans v) (bU U0 _ P0 c (by intro q t z;simp at z)) lV λb H1 w=>ui F0 P0 R c (by decide) (w u ⟨c1,N.extBut l0.extBut M0⟩ λ_ _ _ z=>z)
 m:=by
  rintro U H i Y g0 T0 ⟨E,N⟩ h0 h
  have k0:o0.length=l.length:=by have:=congrArg qZ q0;simpa using this
  refine wpAny_pyNext_dict_end T0 E N ?_ λu C0=>h u λp o W v=>C0 p o W v
  rw[mA,k0]
  have:=mA.mp h0
  simpa using this
theorem NB{n:Nat}(F0:ls d):mQ k d m0 y ((ph n).map λ(i:Nat)=>.b i) [] [] (λi h=>i<=n/\IsRangeIter h m0 i (n-i) 1) where
 e:=by rintro i h u ⟨f0,v⟩ w;exact⟨f0,w _ _ (aL rfl) v⟩
 c:=by rintro i h ⟨_,v⟩;exact(bU _ _ v rfl (by intro q t z;simp[fh]at z))
 f:=by
  rintro U H i T D F Y g0 ⟨f0,E⟩ j0 h0 h
  rw[ft]at h0
  have n1:i<n:=by
   rcases Nat.lt_or_ge i n with h|h
   ·exact h
   ·rw[mA.mpr (by simpa using h)]at h0;cases h0
  rw[Wr n1]at h0
  replace h0:=bn h0;subst h0
  refine wpAny_pyNext_range_item E (by lia) λu c1 l0=>?_
  refine h _ u (H.toks+1) (λp o W v=>(l0.2 p W).trans v) (bU _ _ c1 rfl (by intro q t z;simp[fh]at z)) gS λb H1 w=>ui F0 c1 rfl rfl (by decide) (w u ⟨n1,?_⟩ λ_ _ _ z=>z)
  have e1:((i+1:Nat):Int)=(i:Int)+1:=by lia
  have e2:(n:Int)-((i+1:Nat):Int)=n-i-1:=by lia
  rw[e1,show(n:Int)-((i:Int)+1)=n-i-1 by lia]
  exact c1
 m:=by
  rintro U H i Y g0 T0 ⟨f0,E⟩ h0 h
  have:=mA.mp h0
  simp at this
  exact wpAny_pyNext_range_end T0 E (by lia) λu C0=>h u λp o W v=>C0 p o W v
theorem NC{o0:List (aD×aj)}{X0:Nat}{l:List (am×A)}{t0:List aa}{D0:Nat}{B:aH}(f:d=gx t0 D0 B)(M0:y≠m0)(q0:o0.map (·.1)=l.map (λV=>V.1.b)):
 mQ k d m0 y (l.map λV=>.e [.c V.1,V.2]) (l.map (·.2)) (o0.map (·.2)) (λi h=>(∃Q g,IsItemIter h m0 y i o0.length X0 Q g)/\h.DictAt (eR k.b k.c) y o0 X0) where
 e:=by rintro i h u ⟨⟨Q,g,v⟩,⟨q,t0,x0,m⟩⟩ w;exact⟨(gL Q g (w _ _ (aL rfl) v)),(dK q t0 (w _ _ (aI rfl) x0) m)⟩
 c:=by rintro i h ⟨⟨Q,g,v⟩,_⟩;exact(bU _ _ v rfl (by intro q t z;simp at z))
 f:=by
  rintro U H i T D F Y g0 ⟨⟨Q,g,E⟩,N⟩ j0 h0 h
  rw[ft]at h0
  generalize p0:l[i]?=x9;induction x9 with
  |none=>rw[p0]at h0;cases h0
  |some V=>
   rw[p0]at h0;cases h0
   have:(o0.map (·.1))[i]?=a V.1.b:=by rw[q0,ft,p0];rfl
   rw[ft]at this
   generalize x0:o0[i]?=x9;induction x9 with
   |none=>rw[x0]at this;cases this
   |some G=>
    refine lg λt1=>?_
    obtain⟨w,d0⟩:=G
    rw[x0]at this
    have Z:w=V.1.b:=bn this
    subst Z
    refine aA (j0.c0 (show(l.map (·.2))[i]?=a V.2 by rw[ft,p0];rfl)) λG0 a1 c0=>?_
    rw[ft,x0]at a1
    replace a1:=bn a1;subst a1
    refine t1 ?_
    refine wpAny_pyNext_items_item E N x0 λe u j c1 C s Z=>?_
    obtain⟨t,rfl⟩:=Ik j
    have S0:ej F (λp=>p=m0) H.heap u:=⟨λp o W v=>Z p o W v,by rintro p rfl o v;(replace v:=be E v;subst v);exact aI (aI (aL (aw _ rfl (by intro q t z;simp at z))))⟩
    refine h _ u H.toks S0.1 (bU _ _ c1 rfl (by intro q t z;simp at z)) ?_ λb H1 w=>?_
    ·simp only[du,dv,dw,dx,dy,dz,dA,dB,dC,dD]
     exact(jh _ (#[dG V.1.b t,d0]) 0 rfl C (by simp only[cA,cB];exact(bU _ _ rfl lV ⟨_,_,rfl,aC.c S0 _ _ c0,rfl⟩)))
    ·rw[f]
     refine wpAny_letOwnedTupleGo_items (s:={H with heap:=u}) c1 λX f0 l0=>?_
     have k1:hG m0 u X:=l0
     exact w X ⟨(gL _ _ f0),(let⟨o,t0,v,r⟩:=N;(dK o t0 ((k1.2 _ M0).trans (Z _ _ M0 v)) r))⟩ λp o W v=>(k1.2 p W).trans v
 m:=by
  rintro U H i Y g0 T0 ⟨⟨Q,g,E⟩,N⟩ h0 h
  have k0:o0.length=l.length:=by have:=congrArg qZ q0;simpa using this
  refine wpAny_pyNext_items_end T0 E N ?_ λu C0=>h u λp o W v=>C0 p o W v
  rw[mA,k0]
  have:=mA.mp h0
  simpa using this
end
end Mine.Internal
set_option tactic.hygienic false
namespace Mine.Internal
open PySem PySem.W PySem.Calls PyProof.Rows
section
variable{k:aU}{L:Bool}{n:Nat}{U:bo}{Q:List aN}{M:aN}{G:aV}{F t:ai->Prop}{b:ah}{C O:j}{D A0:Nat->Option ai}{h u E:aG}{M0:ai->Prop}
structure xR(k:aU)(f:List aN)(M:aN)(b:Nat->Option ai)(M0:ai->Prop)(h:aG):Prop extends xM k b M0 where
 e:¬M0 M.locals
 cell:∀I T,h.IsCell I T->¬M0 I
 f:∀N0∈f,∀s,N0.frame=a s->¬M0 s
theorem bq.R0(J:bq k L n U Q M G F b C D h)(w:ej F M0 h E)(s:xR k Q M D M0 h)(A0:∀p,F p->M0 p->E.get? p≠ae):bq k L n U Q M G F b C D E:=by
 refine lg λt1=>?_
 have B:=oG J.c w s.toxM A0
 refine aA (J.r0) λa0 d1 h0=>?_
 refine eJ (d1) λR t0 X0 H0 H N=>?_
 have r:∀I T,h.IsCell I T->E.IsCell I T:=λI T q=>let⟨o,v,z0⟩:=q;(aw o (w.1 _ _ (s.cell I T q) v) z0)
 refine t1 ?_
 refine{J with c:=B,d:=J.d.y w.1 s.f,r0:=(aw a0 (jh R t0 X0 (w.1 _ _ s.e H0) H N) (λZ T b0=>?_)),x0:=λZ q0 b0=>?_}
 ·refine aA (h0 Z T b0) λG0 j0 K0=>?_
  refine(aw G0 (aC.c w _ _ j0) ?_)
  rcases K0 with K0|⟨q0,I,e0,X,c0⟩
  ·exact aL K0
  ·exact aI ⟨q0,I,e0,r _ _ X,c0⟩
 ·refine dP (J.x0 Z q0 b0) λI e0 X j0=>?_
  exact(cW I e0 (r _ _ X) j0)
theorem ND{c:Type}{z:mz}{H:ay}{t:gu c}{g:c->ay->Prop}{g0 H1:aj->ay->Prop}(h:aR z U (bI ()) (λ_ c1=>aR z U t g g0 c1) H1 H):aR z U t g g0 H:=λB V C=>h B V C B V C
theorem aZ.L0{W0:List ai}{O0:ai->cu->Prop}(e:aZ k W0 O0 C D h O A0 u)(R:bj k D F C h){p:ai}{o:cu}(v:h.get? p=a o)(y0:¬jj C D p):¬jj O A0 p:=λ⟨r,j0,w0⟩=>by
 generalize x0:D r=x9;induction x9 with
 |none=>have:=e.i0 r p j0 x0;exact fS v this
 |some d=>
  have z0:=e.c0 r d x0
  replace z0:=be j0 z0;subst z0
  refine w0 (e.m0 r (R.g r p x0) ?_)
  generalize l0:C.c r=x9;induction x9 with
  |none=>rfl
  |some s0=>exact absurd (aw r x0 (by rw[l0];intro z;exact bR z)) y0
theorem aZ.C0{W0:List ai}{O0:ai->cu->Prop}(e:aZ k W0 O0 C D h O A0 u){p:ai}(v:h.get? p≠ae)(y0:∀r,D r≠a p):∀r,A0 r≠a p:=λr j0=>by
 generalize x0:D r=x9;induction x9 with
 |none=>exact v (e.i0 r p j0 x0)
 |some d=>
  have z0:=e.c0 r d x0
  replace z0:=be j0 z0;subst z0
  exact y0 r x0
structure jF(k:aU)(f:List aN)(C:j)(D:Nat->Option ai)(h:aG)(y:ai):Prop where
 g:h.get? y≠ae
 c:¬jj C D y
 d:y≠k.e
 f:y∉bx f
theorem jF.i{W0:List ai}(H:jF k Q C D h y)(e:aZ k (bx Q) bV C D h O A0 u):∀o,h.get? y=a o->u.get? y=a o:=λo v=>(e.V _ o v H.c H.d (λz=>z)).1 H.f
theorem jF.l(H:jF k Q C D h y)(e:aZ k (bx Q) bV C D h O A0 u)(R:bj k D F C h):jF k Q O A0 u y:=by
 generalize q:h.get? y=x9;induction x9 with
 |none=>exact absurd q H.g
 |some o=>exact⟨(by rw[H.i (W0:=[]) e o q];intro z;exact bR z),e.L0 R q H.c,H.d,H.f⟩
end
noncomputable abbrev NE(k0:List aa)(M:aN):gu Bool:=forIn k0 af λI r=>if r=af then do let Q<-lJ I M (bP I M);bI (tt Q)else bI (tt r)
noncomputable abbrev lX(k:aU)(L:Bool)(n:Nat)(G:aV)(k0:List aa)(f:ah->j->au Bool):Prop:=mI k L n G (λ_=>iB) (NE k0) f
section
variable{k:aU}{L:Bool}{n:Nat}{G:aV}{c:v}
theorem Dc:lX k L n G [] (di c []):=by
 intro U Q M F b C D H J Y g0 m
 dsimp only[xm]at m
 exact wpAny_tests_nil (m.g (t:=H.toks) J.c rfl)
theorem NF{I:aa}{Z:ar}(h:eb k L n G I (bJ c Z)):lX k L n G [I] (di c [Z]):=by
 intro U Q M F b C D H J Y g0 m
 dsimp only[Ch,xm]at m
 refine wpAny_tests_one (h U Q M F b C D H J _ _ (aB.y m J.c λm0 S0 V U0 H0 M0 _ n0 R0 Q0 R=>?_))
 obtain rfl:V=m0:=Q0
 induction V<;>exact R.g (H:={H with heap:=H0,toks:=M0}) (t:=M0) n0 rfl
end
structure xS(M d:aN)(V:aV)(D0:List ak)(Z:ak):Prop where
 names:d.scope.names=V
 kind:d.scope.kind=hH
 globals:d.globals=M.globals
 builtins:d.builtins=M.builtins
 e:d.frame=M.frame
 b:d.kindOf (an Z)=a .local
 c:∀y∈D0,(M.kindOf (an y)=a dh\/M.kindOf (an y)=a dN)/\(d.kindOf (an y)=a dh\/d.kindOf (an y)=a dN)/\(d.cells.lookup (an y)=M.cells.lookup (an y))
 cell:∀y,d.kindOf (an y)=a dh->y∈D0/\M.kindOf (an y)=a dh
 f:d.cells.Pairwise λZ y=>Z.2≠y.2
 g:Z∉D0
section
variable{k:aU}{L:Bool}{n:Nat}{U:bo}{Q:List aN}{M d:aN}{G V:aV}{F:ai->Prop}{b:ah}{C:j}{D:Nat->Option ai}{h:aG}{D0:List ak}{Z:ak}
theorem bq.b1(J:bq k L n U Q M G F b C D h)(V0:xS M d V D0 Z){T:A}{G0:aj}{a0:aD->Option aj}(h0:aC k D F h T G0)(d1:h.Ns d.locals a0)(b0:a0 (an Z)=a G0)(u0:k.d.get? d.locals=ae)(C1:∀r,D r≠a d.locals)(f0:d.locals≠k.e):bq k L n U Q d V F (b.d D0 Z T) C D h:=by
 refine aA (J.r0) λH O g0=>?_
 refine{J.tobZ with names:=V0.names,kind:=V0.kind,globals:=V0.globals.trans J.globals,builtins:=V0.builtins.trans J.builtins,Y0:=u0,I0:=C1,L0:=f0,Q0:=V0.f,J0:=let⟨s,E,N⟩:=J.J0;(aw s (V0.e.trans E) N),r0:=(aw a0 d1 (λy d0 E0=>?_)),x0:=λy q0 E0=>?_}
 ·unfold ah.d at E0
  by_cases e:y=Z
  ·replace E0:=be (if_pos e) E0;subst E0;subst e
   exact(aw G0 h0 (aL ⟨V0.b,b0⟩))
  ·rw[if_neg e]at E0
   by_cases e0:y∈D0
   ·rw[if_pos e0]at E0
    refine lg λt1=>?_
    refine aA (g0 y d0 E0) λm0 j0 K0=>?_
    refine kr (V0.c y e0) λk1 l B=>?_
    refine t1 ?_
    refine(aw m0 j0 (aI ?_))
    rcases K0 with⟨K0,_⟩|⟨_,I,R,X,c0⟩
    ·rw[K0]at k1;rcases k1 with z|z<;>cases z
    ·exact⟨l,I,B.trans R,X,c0⟩
   ·exact ig (if_neg e0) E0
 ·obtain⟨e0,g⟩:=V0.cell y q0
  have e:y≠Z:=λe=>V0.g (e▸e0)
  have k0:b y=ae:=by unfold ah.d at E0;rw[if_neg e,if_pos e0]at E0;exact E0
  refine aA (J.x0 y g k0) λI E N=>?_
  exact(aw I (((V0.c y e0).2.2).trans E) N)
end
structure Dd(k:aU)(L:Bool)(n:Nat)(U:bo)(Q:List aN)(M:aN)(G:aV)(F:ai->Prop)(b:ah)(m:j)(d0:Nat->Option ai)(n0:aG)(i0 x:ai)(y0:List A)(O:j)(A0:Nat->Option ai)(u:aG)(a0:aD->Option aj):Prop where
 g:bq k L n U Q M G (cD F i0) b O A0 u
 d:aZ k (bx Q) bV m d0 n0 O A0 u
 h:∃I0 w,u.get? i0=a (cO I0 w)/\aJ k A0 (cD F i0) u y0 I0.toList
 c:u.Ns x a0
 i:n0.get? i0=ae
 l:n0.get? x=ae
 e:i0≠x
 o:∀r,A0 r≠a i0
 f:∀r,A0 r≠a x
section
variable{k:aU}{L:Bool}{n:Nat}{U:bo}{Q:List aN}{M d:aN}{G V:aV}{F:ai->Prop}{b:ah}{D0:List ak}{Z:ak}{c:v}
theorem mR{F:ai->Prop}{h:aG}{m0:ai}(q:rY m0 h):∀p,p=m0->∀o,h.get? p=a o->xJ F p o:=by
 rintro p rfl o v
 refine lg λt1=>?_
 refine de (q) λU0 X P0 z0 b0=>?_
 replace P0:=be v P0;subst P0
 refine t1 ?_
 exact aI (aI (aL (aw X z0 b0)))
end
namespace uj
noncomputable def E0(L:Bool)(n:Nat)(U:bo)(Q:List aN)(M d:aN)(G V:aV)(F:ai->Prop)(b:ah)(D0:List ak)(Z:ak)(c:v)(K0 b1:aa)(j1:aH)(k0:List aa)(f:fj)(u0:aH)(e:ar)(I:List ar)(m0 y i0:ai)(L0:List A)(g:List aj)(s0:Nat->aG->Prop)(m x0 O:j)(d0 R0:Nat->Option ai)(n0:aG)(s1:ay)(y0:List A)(g0:aD->Option aj)(k1:Nat)(R:fC->ay->Prop):Prop:=∀{k:aU}(T0:L=af){l:List A}(q0:mQ k (aY (an Z) j1) m0 y l L0 g s0)(V0:xS M d V D0 Z)(J:bq k L n U Q M G (cD F i0) b x0 R0 s1.heap)(u1:bq k L n U Q M G F b m d0 n0)(r1:aZ k (bx Q) bV m d0 n0 x0 R0 s1.heap)(f0:s0 0 s1.heap)(W:aJ k R0 (cD F i0) s1.heap L0 g)(I1:s1.heap.get? i0=a (cO #[] k1))(d1:s1.heap.Ns d.locals g0)(e1:n0.get? m0=ae)(w1:n0.get? i0=ae)(l1:n0.get? d.locals=ae)(n2:m0≠i0)(I2:m0≠d.locals)(Y1:i0≠d.locals)(u2:∀r,R0 r≠a m0)(n3:∀r,R0 r≠a i0)(O1:∀r,R0 r≠a d.locals)(o3:jF k Q x0 R0 s1.heap y)(p3:y≠m0)(U2:y≠i0)(V2:y≠d.locals)(J1:aE k L n V K0 (ag c e))(P1:lX k L n V k0 (di c I))(Y0:l.length<=1000)(j0:bX (λT C=>(di c I (b.d D0 Z T) C).e λt C=>if t then(ag c e (b.d D0 Z T) C).e λr C=>.b (a r) C else .b ae C) l x0=.b y0 O)(m1:∀A0 u t a0,Dd k L n U Q M G F b m d0 n0 i0 d.locals y0 O A0 u a0->R (.ok eF) {s1 with heap:=u,toks:=t}),je (aQ k.b k.c) U (Ws (kp K0 [⟨aY (an Z) j1,b1,k0,0⟩] f u0) 0 (ax m0) (ax i0) d) R s1
noncomputable def O0:Bool×Nat×bo×(List aN)×aN×aN×aV×aV×(ai->Prop)×ah×(List ak)×ak×v×aa×aa×aH×(List aa)×fj×aH×ar×(List ar)×ai×ai×ai×(List A)×(List aj)×(Nat->aG->Prop)×j×j×j×(Nat->Option ai)×(Nat->Option ai)×aG×ay×(List A)×(aD->Option aj)×Nat×(fC->ay->Prop)->Prop:=W λL=>W λn=>W λU=>W λQ=>W λM=>W λd=>W λG=>W λV=>W λF=>W λb=>W λD0=>W λZ=>W λc=>W λK0=>W λb1=>W λj1=>W λk0=>W λf=>W λu0=>W λe=>W λI=>W λm0=>W λy=>W λi0=>W λL0=>W λg=>W λs0=>W λm=>W λx0=>W λO=>W λd0=>W λR0=>W λn0=>W λs1=>W λy0=>W λg0=>W λk1=>λR=>E0 L n U Q M d G V F b D0 Z c K0 b1 j1 k0 f u0 e I m0 y i0 L0 g s0 m x0 O d0 R0 n0 s1 y0 g0 k1 R
def c0:=dQ (J (J (bY tQ (J (J (J (J (J (J (J (J (J (bY rM (J (J (J (J (J (J (bY Lh (J (J (J (J (J (J (J (bY dZ (bY dZ (bY dZ (J (J (J (bY xx (J (J (J inferInstance))))))))))))))))))))))))))))))))))))) O0
def L:Bool:=c0.1
def n:Nat:=c0.2.1
def U:bo:=c0.2.2.1
def Q:List aN:=c0.2.2.2.1
def M:aN:=c0.2.2.2.2.1
def d:aN:=c0.2.2.2.2.2.1
def G:aV:=c0.2.2.2.2.2.2.1
def V:aV:=c0.2.2.2.2.2.2.2.1
noncomputable def F:ai->Prop:=c0.2.2.2.2.2.2.2.2.1
def b:ah:=c0.2.2.2.2.2.2.2.2.2.1
def D0:List ak:=c0.2.2.2.2.2.2.2.2.2.2.1
def Z:ak:=c0.2.2.2.2.2.2.2.2.2.2.2.1
def c:v:=c0.2.2.2.2.2.2.2.2.2.2.2.2.1
def K0:aa:=c0.2.2.2.2.2.2.2.2.2.2.2.2.2.1
def b1:aa:=c0.2.2.2.2.2.2.2.2.2.2.2.2.2.2.1
def j1:aH:=c0.2.2.2.2.2.2.2.2.2.2.2.2.2.2.2.1
def k0:List aa:=c0.2.2.2.2.2.2.2.2.2.2.2.2.2.2.2.2.1
def f:fj:=c0.2.2.2.2.2.2.2.2.2.2.2.2.2.2.2.2.2.1
def u0:aH:=c0.2.2.2.2.2.2.2.2.2.2.2.2.2.2.2.2.2.2.1
def e:ar:=c0.2.2.2.2.2.2.2.2.2.2.2.2.2.2.2.2.2.2.2.1
def I:List ar:=c0.2.2.2.2.2.2.2.2.2.2.2.2.2.2.2.2.2.2.2.2.1
def m0:ai:=c0.2.2.2.2.2.2.2.2.2.2.2.2.2.2.2.2.2.2.2.2.2.1
def y:ai:=c0.2.2.2.2.2.2.2.2.2.2.2.2.2.2.2.2.2.2.2.2.2.2.1
def i0:ai:=c0.2.2.2.2.2.2.2.2.2.2.2.2.2.2.2.2.2.2.2.2.2.2.2.1
def L0:List A:=c0.2.2.2.2.2.2.2.2.2.2.2.2.2.2.2.2.2.2.2.2.2.2.2.2.1
def g:List aj:=c0.2.2.2.2.2.2.2.2.2.2.2.2.2.2.2.2.2.2.2.2.2.2.2.2.2.1
noncomputable def s0:Nat->aG->Prop:=c0.2.2.2.2.2.2.2.2.2.2.2.2.2.2.2.2.2.2.2.2.2.2.2.2.2.2.1
def m:j:=c0.2.2.2.2.2.2.2.2.2.2.2.2.2.2.2.2.2.2.2.2.2.2.2.2.2.2.2.1
def x0:j:=c0.2.2.2.2.2.2.2.2.2.2.2.2.2.2.2.2.2.2.2.2.2.2.2.2.2.2.2.2.1
def O:j:=c0.2.2.2.2.2.2.2.2.2.2.2.2.2.2.2.2.2.2.2.2.2.2.2.2.2.2.2.2.2.1
def d0:Nat->Option ai:=c0.2.2.2.2.2.2.2.2.2.2.2.2.2.2.2.2.2.2.2.2.2.2.2.2.2.2.2.2.2.2.1
def R0:Nat->Option ai:=c0.2.2.2.2.2.2.2.2.2.2.2.2.2.2.2.2.2.2.2.2.2.2.2.2.2.2.2.2.2.2.2.1
def n0:aG:=c0.2.2.2.2.2.2.2.2.2.2.2.2.2.2.2.2.2.2.2.2.2.2.2.2.2.2.2.2.2.2.2.2.1
def s1:ay:=c0.2.2.2.2.2.2.2.2.2.2.2.2.2.2.2.2.2.2.2.2.2.2.2.2.2.2.2.2.2.2.2.2.2.1
def y0:List A:=c0.2.2.2.2.2.2.2.2.2.2.2.2.2.2.2.2.2.2.2.2.2.2.2.2.2.2.2.2.2.2.2.2.2.2.1
def g0:aD->Option aj:=c0.2.2.2.2.2.2.2.2.2.2.2.2.2.2.2.2.2.2.2.2.2.2.2.2.2.2.2.2.2.2.2.2.2.2.2.1
def k1:Nat:=c0.2.2.2.2.2.2.2.2.2.2.2.2.2.2.2.2.2.2.2.2.2.2.2.2.2.2.2.2.2.2.2.2.2.2.2.2.1
noncomputable def R:fC->ay->Prop:=c0.2.2.2.2.2.2.2.2.2.2.2.2.2.2.2.2.2.2.2.2.2.2.2.2.2.2.2.2.2.2.2.2.2.2.2.2.2
theorem Q0:E0 L n U Q M d G V F b D0 Z c K0 b1 j1 k0 f u0 e I m0 y i0 L0 g s0 m x0 O d0 R0 n0 s1 y0 g0 k1 R:=by
 intro k T0 l q0 V0 J u1 r1 f0 W I1 d1 e1 w1 l1 n2 I2 Y1 u2 n3 O1 o3 p3 U2 V2 J1 P1 Y0 j0 m1
 have U1:U.handled=ae:=J.i T0
 have v1:∀p,n0.get? p=ae->k.d.get? p=ae:=λp W=>by
  generalize q:k.d.get? p=x9;induction x9 with
  |none=>rfl
  |some o=>have:=u1.c.c p o q;exact ig W this
 have o1:∀p,n0.get? p=ae->p≠k.e:=λp W e=>by
  refine aA (u1.c.e) λZ0 p0 _=>?_
  rw[e,p0]at W;exact bR W
 have L1:∀N0∈Q,∀s,N0.frame=a s->n0.get? s≠ae:=λN0 C0 s H0=>by
  refine om (u1.d N0 C0) λ_ i1 o t0 w E N _=>?_
  replace E:=be H0 E;subst E;rw[N];intro z;exact bR z
 have f2:n0.get? M.locals≠ae:=by
  refine lg λt1=>?_
  refine aA (u1.r0) λa0 J0 _=>?_;obtain⟨o,t0,X0,v,_⟩:=J0
  refine t1 ?_
  rw[v];intro z;exact bR z
 have V1:∀{p:ai}{D:Nat->Option ai}{h:aG},n0.get? p=ae->(∀r,D r≠a p)->(∀o,h.get? p=a o->∀T,o.data≠jQ T)->xR k Q M D (λS=>S=p) h:=λ{p D h}W C1 e0=>
  {b:=λS v0 r j0=>C1 r (v0▸j0),c:=λS v0=>v1 _ (v0▸W),d:=λz=>o1 _ W z.symm,e:=λz=>f2 (z▸W),cell:=λI T⟨o,v,z0⟩z=>e0 o (z▸v) T z0,f:=λN0 C0 s H0 z=>L1 N0 C0 s H0 (z▸W)}
 obtain⟨g2,x1⟩:∃g2:Nat->ay->Prop,∀w c1,g2 w c1↔∃h t a0 x A i Z1 v2 I0 w0,c1={s1 with heap:=h,toks:=t}/\bq k L n U Q M G (cD F i0) b A x h/\aZ k (bx Q) bV m d0 n0 A x h/\s0 i h/\aJ k x (cD F i0) h L0 g/\
  h.get? i0=a (cO I0 w0)/\aJ k x (cD F i0) h Z1 I0.toList/\h.Ns d.locals a0/\(∀r,x r≠a m0)/\(∀r,x r≠a i0)/\(∀r,x r≠a d.locals)/\jF k Q A x h y/\
  bX (λT C=>(di c I (b.d D0 Z T) C).e λt C=>if t then(ag c e (b.d D0 Z T) C).e λr C=>.b (a r) C else .b ae C) (l.drop i) A=.b v2 O/\Z1++v2=y0/\Z1.length<=i/\i<=l.length/\w=l.length+1-i:=⟨_,λ_ _=>Iff.rfl⟩
 refine codeAny_compLoop_tests g2 ?_ (l.length+1) ((x1 _ _).mpr (tK s1.heap s1.toks g0 R0 x0 0 [] y0 ⟨#[],k1,rfl,J,r1,f0,W,I1,by simp only[cA,cB],d1,u2,n3,O1,o3,j0,rfl,bS _,nU _,rfl⟩))
 intro w c1 z1;refine JI ((x1 _ _).mp z1) λh t a0 x A i Z1 v2 I0 w0 h1=>?_;refine JM h1 λE3 a2 w2 M1 p1 q3 r3 s3 W1 t3 J2 h2 Y i2 x2 W2 F3=>?_;clear h1;obtain rfl:=E3;obtain rfl:=F3
 have b2:∀(h:aG),rY m0 h->∀o,h.get? m0=a o->∀T,o.data≠jQ T:=by
  rintro h y2 o v T z;refine de y2 λU0 X P0 z0 _=>?_
  replace P0:=be v P0;subst P0;(injection eY (fp z0) z;done)
 generalize h0:l[i]?=x9;induction x9 with
 |none=>
  refine q0.m (H:={s1 with heap:=h,toks:=t}) U1 M1 h0 λu D1=>?_
  refine lg λt1=>?_
  have j2:l.length<=i:=mA.mp h0
  rw[th j2,Cp]at Y
  obtain⟨rfl,rfl⟩:=qc Y
  rw[pB]at i2
  subst i2
  have S0:ej (cD F i0) (λp=>p=m0) h u:=⟨D1,mR (q0.c i h M1)⟩
  refine t1 ?_
  have f1:=a2.R0 S0 (V1 e1 W1 (b2 h (q0.c i h M1))) λp W p1=>by
   subst p1
   rcases W with W|W
   ·exact absurd e1 (u1.c.d _ W)
   ·exact absurd W n2
  refine m1 x u t a0 ⟨f1,w2.u0 D1 λp W=>W▸e1,(dK I0 w0 (D1 _ _ (λz=>n2 z.symm) q3) (aJ.g S0 _ _ r3)),?_,w1,l1,Y1,t3,J2⟩
  refine gg (s3) λo t0 X0 v r=>?_
  exact(jA o t0 X0 (D1 _ _ (λz=>I2 z.symm) v) r)
 |some T=>
  have n1:i<l.length:=(iv.mp h0).1
  have X2:l.drop i=T::l.drop (i+1):=by
   rw[Be n1]
   congr 1
   exact(iv.mp h0).2
  rw[X2,Cq]at Y
  refine q0.f (H:={s1 with heap:=h,toks:=t}) M1 p1 h0 λG0 u a1 k2 B1 Y2 t2=>?_
  refine ND (H1:=λ_ _=>True) (t2 _ _ λN z2 l2=>?_)
  have o2:ej (cD F i0) (λp=>p=m0) h u:=⟨k2,mR (q0.c i h M1)⟩
  have c2:ej (cD F i0) (λp=>p=m0) u N:=⟨l2,mR B1⟩
  have p2:∀(r0:aG)p,cD F i0 p->p=m0->r0.get? p≠ae:=λr0 p W p1=>by
   subst p1
   rcases W with W|W
   ·exact absurd e1 (u1.c.d _ W)
   ·exact absurd W n2
  have Z2:=a2.R0 o2 (V1 e1 W1 (b2 h (q0.c i h M1))) (p2 u)
  have S2:=Z2.R0 c2 (V1 e1 W1 (b2 u B1)) (p2 N)
  have A2:=(w2.u0 k2 λp W=>W▸e1).u0 l2 λp W=>W▸e1
  have a3:=aC.c c2 _ _ Y2
  have R1:=aJ.g c2 _ _ (aJ.g o2 _ _ p1)
  have G3:=aJ.g c2 _ _ (aJ.g o2 _ _ r3)
  have b3:∀p o,p≠m0->h.get? p=a o->N.get? p=a o:=λp o W v=>l2 _ _ W (k2 _ _ W v)
  have X1:N.Ns d.locals a0:=by refine gg (s3) λo t0 X0 v r=>?_;exact(jA o t0 X0 (b3 _ _ (λz=>I2 z.symm) v) r)
  have H3:jF k Q A x N y:=⟨(by
   generalize q:h.get? y=x9;induction x9 with
   |none=>exact absurd q h2.g
   |some o=>rw[b3 _ _ p3 q];intro z;exact bR z),h2.c,h2.d,h2.f⟩
  refine Bf (Wt V0.b X1 (λh3 B2 Q1=>?_) (by rw[V0.kind];rfl))
  have K2:hG d.locals N h3:=Q1
  have d2:ej (cD F i0) (λp=>p=d.locals) N h3:=⟨λp o W v=>(K2.2 p W).trans v,uh X1⟩
  have I3:∀(r0:aG)(q:r0.Ns d.locals a0),∀o,r0.get? d.locals=a o->∀T,o.data≠jQ T:=by
   rintro r0 y2 o v T z;refine eJ y2 λU0 t0 X0 P0 z0 _=>?_
   replace P0:=be v P0;subst P0;(injection eY (fp z0) z;done)
  have S3:=S2.R0 d2 (V1 l1 J2 (I3 N X1)) λp W p1=>by
   subst p1
   rcases W with W|W
   ·exact absurd l1 (u1.c.d _ W)
   ·exact absurd W (iJ Y1)
  have T1:=A2.u0 (E:=h3) (M0:=λp=>p=d.locals) d2.1 λp W=>W▸l1
  have u3:=aC.c d2 _ _ a3
  have L2:=aJ.g d2 _ _ R1
  have J3:=aJ.g d2 _ _ G3
  have M2:s0 (i+1) h3:=q0.e _ _ _ z2 λp o W v=>d2.1 _ _ (λz=>by rcases W with W|W;exact I2 (W▸z);exact V2 (W▸z)) v
  have c3:h3.get? i0=a (cO I0 w0):=d2.1 _ _ Y1 (b3 _ _ (iJ n2) q3)
  have K3:jF k Q A x h3 y:=⟨(by
   generalize q:N.get? y=x9;induction x9 with
   |none=>exact absurd q H3.g
   |some o=>rw[d2.1 _ _ V2 q];intro z;exact bR z),h2.c,h2.d,h2.f⟩
  have L3:=S3.b1 V0 u3 B2 (by show(if an Z=an Z then _ else _)=_;rw[if_pos rfl]) (v1 _ l1) J2 (o1 _ l1)
  have l0:∀{r0 b0:aG}{N1 y1:j}{A1 E1:Nat->Option ai}{N2:aD->Option aj},bq k L n U Q M G (cD F i0) b N1 A1 r0->aZ k (bx Q) bV N1 A1 r0 y1 E1 b0->bj k E1 (cD F i0) y1 b0->aZ k (bx Q) bV m d0 n0 N1 A1 r0->s0 (i+1) r0->aJ k A1 (cD F i0) r0 L0 g->
   r0.get? i0=a (cO I0 w0)->aJ k A1 (cD F i0) r0 Z1 I0.toList->r0.Ns d.locals N2->(∀r,A1 r≠a m0)->(∀r,A1 r≠a i0)->(∀r,A1 r≠a d.locals)->jF k Q N1 A1 r0 y->
   bq k L n U Q M G (cD F i0) b y1 E1 b0/\aZ k (bx Q) bV m d0 n0 y1 E1 b0/\s0 (i+1) b0/\aJ k E1 (cD F i0) b0 L0 g/\b0.get? i0=a (cO I0 w0)/\aJ k E1 (cD F i0) b0 Z1 I0.toList/\b0.Ns d.locals N2/\(∀r,E1 r≠a m0)/\(∀r,E1 r≠a i0)/\(∀r,E1 r≠a d.locals)/\jF k Q y1 E1 b0 y:=by
   intro r0 b0 N1 y1 A1 E1 N2 K1 F1 M3 N3 C2 d3 v3 O3 D2 S1 m2 i3 w3
   have e3:∀p o,n0.get? p=ae->(∀r,A1 r≠a p)->r0.get? p=a o->b0.get? p=a o:=λp o W C1 v=>
    (F1.V p o v (by rintro⟨r,j0,_⟩;exact C1 r j0) (o1 p W) (λz=>z)).1 λB0=>by
      refine aA (lI.mp B0) λN0 C0 q1=>?_
      exact L1 N0 C0 p q1 W
   have O2:=q0.c (i+1) r0 C2
   have f3:r0.get? m0≠ae:=by refine fw (O2) λo X v _=>?_;rw[v];intro z;exact bR z
   have g3:r0.get? i0≠ae:=by rw[v3];intro z;exact bR z
   have P3:r0.get? d.locals≠ae:=by refine gg (D2) λo t0 X0 v _=>?_;rw[v];intro z;exact bR z
   have E2:=K1.d.d
   refine⟨K1.p0 F1 M3,N3.h0 F1 u1.c,q0.e _ _ _ C2 λp o W v=>?_,aJ.m F1 K1.c (cM _) E2 _ _ d3,e3 _ _ w1 m2 v3,aJ.m F1 K1.c (cM _) E2 _ _ O3,?_,F1.C0 f3 S1,F1.C0 g3 m2,F1.C0 P3 i3,w3.l F1 K1.c⟩
   ·rcases W with rfl|rfl
    ·exact e3 _ _ e1 S1 v
    ·exact w3.i (W0:=[]) F1 o v
   ·refine gg (D2) λo t0 X0 v r=>?_
    exact(jA o t0 X0 (e3 _ _ l1 i3 v) r)
  generalize F0:di c I (b.d D0 Z T) A=x9;induction x9 with
  |d=>rw[F0]at Y;cases Y
  |g F2=>rw[F0]at Y;cases Y
  |b p P2=>
   rw[F0]at Y
   refine P1 U Q d (cD F i0) (b.d D0 Z T) A x {s1 with heap:=h3,toks:=a1+1} L3 _ _ ?_
   rw[F0]
   intro x3 q2 h4 t4 R4 e4 Q2
   obtain rfl:x3=p:=Q2
   refine xd (l0 S3 e4 R4 T1 M2 L2 c3 J3 B2 W1 t3 J2 K3) λS4 r2 G2 y3 z3 A3 j3 S1 m2 i3 R2=>?_
   have Q3:=aC.b e4 S3.c (cM _) S3.d.d _ _ u3
   simp only[au.e]at Y
   induction x3 with
   |false=>
    simp only[pJ,if_false]at Y⊢
    generalize A0:bX (λT C=>(di c I (b.d D0 Z T) C).e λt C=>if t then(ag c e (b.d D0 Z T) C).e λr C=>.b (a r) C else .b ae C) (l.drop (i+1)) P2=x9;induction x9 with
    |d=>simp only[au.e]at A0;rw[A0]at Y;cases Y
    |g F2=>simp only[au.e]at A0;rw[A0]at Y;cases Y
    |b k3 g1=>
     have l3:=A0
     simp only[au.e]at A0;rw[A0]at Y
     obtain⟨rfl,rfl⟩:=qc Y
     exact(aw (l.length+1-(i+1)) (Bg (kU n1) (fM i)) ((x1 _ _).mpr (tK h4 t4 _ q2 P2 (i+1) Z1 k3 ⟨I0,w0,rfl,S4,r2,G2,y3,z3,A3,j3,S1,m2,i3,R2,l3,by simpa using i2,wD x2,n1,rfl⟩)))
   |true=>
    simp only[if_true]at Y⊢
    have R3:=S4.b1 V0 Q3 j3 (by show(if an Z=an Z then _ else _)=_;rw[if_pos rfl]) (v1 _ l1) i3 (o1 _ l1)
    generalize o0:ag c e (b.d D0 Z T) P2=x9;induction x9 with
    |d=>rw[o0]at Y;cases Y
    |g F2=>rw[o0]at Y;cases Y
    |b r s2=>
     rw[o0]at Y
     dsimp only at Y
     refine J1 U Q d (cD F i0) (b.d D0 Z T) P2 q2 {s1 with heap:=h4,toks:=t4} R3 _ _ ?_
     rw[o0]
     intro T3 H2 h5 t5 R5 e5 U3
     refine xd (l0 S4 e5 R5 r2 G2 y3 z3 A3 j3 S1 m2 i3 R2) λS5 V3 W3 X3 m3 B3 Y3 Z3 C3 a4 T2=>?_
     have G1:I0.size<=lK:=by
      have:=B3.b
      rw[fq]at this
      rw[ga];exact az (bw this) (az x2 (az (fB n1) (az Y0 (by decide))))
     refine append_at (s:={s1 with heap:=h5,toks:=t5}) m3 (λh6 b4 D3=>?_) G1
     have c4:hG i0 h5 h6:=b4
     have e2:ej (cD F i0) (λp=>p=i0) h5 h6:=⟨λp o W v=>(c4.2 p W).trans v,by rintro p rfl o v;(replace v:=be m3 v;subst v);exact aL ⟨(gL _ _ rfl),aI rfl⟩⟩
     have S6:=S5.R0 e2 (V1 w1 C3 (by intro o v T z;(replace v:=be m3 v;subst v);cases z)) λp _ W=>by rw[W];rw[D3];intro z;exact bR z
     have d4:=V3.u0 (E:=h6) e2.1 λp W=>W▸w1
     generalize A0:bX (λT C=>(di c I (b.d D0 Z T) C).e λt C=>if t then(ag c e (b.d D0 Z T) C).e λr C=>.b (a r) C else .b ae C) (l.drop (i+1)) s2=x9;induction x9 with
     |d=>simp only[au.e]at A0;rw[A0]at Y;cases Y
     |g F2=>simp only[au.e]at A0;rw[A0]at Y;cases Y
     |b k3 g1=>
      have l3:=A0
      simp only[au.e]at A0;rw[A0]at Y
      obtain⟨rfl,rfl⟩:=qc Y
      obtain⟨m6,f4⟩:∃m6,h6.Ns d.locals m6:=by
       refine gg (Y3) λo t0 X0 v r=>?_
       exact(JC _ o t0 X0 (e2.1 _ _ (iJ Y1) v) r)
      refine(aw (l.length+1-(i+1)) (Bg (kU n1) (fM i)) ((x1 _ _).mpr (tK h6 t5 m6 H2 s2 (i+1) (Z1++[r]) k3 ⟨I0.push T3,w0+1,rfl,S6,d4,q0.e _ _ _ W3 λp o W v=>e2.1 _ _ (λz=>by rcases W with W|W;exact n2 (W▸z);exact U2 (W▸z)) v,aJ.g e2 _ _ X3,D3,?_,f4,Z3,C3,a4,⟨?_,T2.c,T2.d,T2.f⟩,l3,by simpa using i2,by rw[jT];exact wy x2,n1,rfl⟩)))
      ·rw[VW]
       exact aJ.i0 (aJ.g e2 _ _ B3) (aJ.H0 (aC.c e2 _ _ U3))
      ·generalize q:h5.get? y=x9;induction x9 with
       |none=>exact absurd q T2.g
       |some o=>rw[e2.1 _ _ U2 q];intro z;exact bR z
end uj
theorem NG{L:Bool}{n:Nat}{U:bo}{Q:List aN}{M d:aN}{G V:aV}{F:ai->Prop}{b:ah}{D0:List ak}{Z:ak}{c:v}{K0 b1:aa}{j1:aH}{k0:List aa}{f:fj}{u0:aH}{e:ar}{I:List ar}{m0 y i0:ai}{L0:List A}{g:List aj}{s0:Nat->aG->Prop}{m x0 O:j}{d0 R0:Nat->Option ai}{n0:aG}{s1:ay}{y0:List A}{g0:aD->Option aj}{k1:Nat}{R:fC->ay->Prop}:uj.E0 L n U Q M d G V F b D0 Z c K0 b1 j1 k0 f u0 e I m0 y i0 L0 g s0 m x0 O d0 R0 n0 s1 y0 g0 k1 R:=dS (Y:=uj.O0) uj.Q0 (L,n,U,Q,M,d,G,V,F,b,D0,Z,c,K0,b1,j1,k0,f,u0,e,I,m0,y,i0,L0,g,s0,m,x0,O,d0,R0,n0,s1,y0,g0,k1,R)
section
variable{k:aU}{L:Bool}{n:Nat}{U:bo}{Q:List aN}{M d:aN}{G V:aV}{F:ai->Prop}{b:ah}{D0:List ak}{Z:ak}{c:v}
end
end Mine.Internal
set_option tactic.hygienic false
namespace Mine.Internal
open PySem PySem.W PySem.Calls PyProof.Rows
noncomputable def gE(G:aV)(c:aV):aV:=c.map λ(n,w)=>if(w==dN&&G.lookup n==a dh)then(n,dh)else(n,w)
noncomputable def iD(I:aD->ai):aV->List (aD×ai)->List (aD×ai)
 |[],P=>P
 |(n,w)::r,P=>iD I r (if w==dN then(n,I n)::P else P)
theorem De{I:aD->ai}{P:List (aD×ai)}:iD I [] P=P:=rfl
theorem uk{I:aD->ai}{n:aD}{w:gt}{r:aV}{P:List (aD×ai)}:iD I ((n,w)::r) P=iD I r (if w==dN then(n,I n)::P else P):=rfl
theorem NH{M:aN}:∀(c:aV)(P:List (aD×ai)),(∀Z∈c,Z.2=dN->∃S,M.cells.lookup Z.1=a S)->
 (forIn c P λ(Z:aD×gt)(I:List (aD×ai))=>(if(Z.2==dN)=af then do let S<-Bh M Z.1;bI (tt ((Z.1,S)::I))else bI (tt I):gu _))=bI (iD (λn=>(M.cells.lookup n).getD 0) c P):=by
 intro c
 induction c with
 |nil=>intro P _;simp[De]
 |cons O r Y=>
  intro P h
  obtain⟨n,w⟩:=O
  rw[List.forIn_cons]
  by_cases q0:w=dN
  ·subst q0
   obtain⟨S,v0⟩:=h (n,dN) (et _) rfl
   dsimp only at v0
   have e:Bh M n=bI S:=by unfold Bh;rw[v0]
   simp only[beq_self_eq_true,if_true,e,pure_bind,uk,v0,Wu]
   exact Y _ λZ b0=>h Z (gK _ b0)
  ·have W:(w==dN)=av:=by simpa using q0
   simp only[W,pJ,if_false,pure_bind,uk]
   exact Y _ λZ b0=>h Z (gK _ b0)
theorem Df{M:aN}{f:fj}(h:∀Z∈f.names,Z.2=dN->∃S,M.cells.lookup Z.1=a S):Bi f M=bI (iD (λn=>(M.cells.lookup n).getD 0) f.names []):=by
 have:=NH (M:=M) f.names [] h
 unfold Bi
 simp only[]
 have e:(forIn f.names ([]:List (aD×ai)) λ(Z:aD×gt)(I:List (aD×ai))=>(match Z with|(O,P)=>if(P==dN)=af then do let S<-Bh M O;bI (tt ((O,S)::I))else bI (tt I):gu _))=bI (iD (λn=>(M.cells.lookup n).getD 0) f.names []):=this
 first
  |(rw[e];rfl)
  |(refine Eq.trans ?_ (Eq.trans (congrArg (·>>=λI=>pure I) e) ?_)<;>rfl)
theorem Dg{I:aD->ai}{Z:aD}{S:ai}:∀{c:aV}{P:List (aD×ai)},(Z,S)∈iD I c P↔((Z,S)∈P\/((Z,dN)∈c/\S=I Z)):=by
 intro J
 induction J with
 |nil=>
  intro P
  simp[De]
 |cons f r U=>
  obtain⟨n,w⟩:=f
  intro P
  rw[uk,U]
  by_cases q0:w=dN
  ·subst q0
   simp only[beq_self_eq_true,if_true,iw,Prod.mk.injEq]
   constructor
   ·rintro((⟨rfl,rfl⟩|h)|⟨E,N⟩)
    ·exact aI ⟨aL ⟨rfl,trivial⟩,rfl⟩
    ·exact aL h
    ·exact aI ⟨aI E,N⟩
   ·rintro(h|⟨⟨rfl,_⟩|E,N⟩)
    ·exact aL (aI h)
    ·exact aL (aL ⟨rfl,N⟩)
    ·exact aI ⟨E,N⟩
  ·have W:(w==dN)=av:=by simpa using q0
   simp only[W,pJ,if_false,iw,Prod.mk.injEq]
   constructor
   ·rintro(h|⟨E,N⟩)
    ·exact aL h
    ·exact aI ⟨aI E,N⟩
   ·rintro(h|⟨⟨_,E⟩|E,N⟩)
    ·exact aL h
    ·exact absurd E.symm q0
    ·exact aI ⟨E,N⟩
theorem NI{I:aD->ai}{Z:aD}:∀{l:List (aD×ai)},(∀V∈l,V.2=I V.1)->(∃S,(Z,S)∈l)->l.lookup Z=a (I Z):=by
 intro J
 induction J with
 |nil=>
  rintro _ ⟨_,h⟩
  cases h
 |cons f l U=>
  obtain⟨y,d⟩:=f
  rintro h ⟨S,v0⟩
  rw[lb]
  cases e:Z==y with
  |true=>
   rw[beq_iff_eq]at e;subst e
   have:=h _ (et _)
   dsimp only at this⊢
   rw[this]
  |false=>
   refine U (λV p0=>h V (gK _ p0)) ⟨S,?_⟩
   cases v0 with
   |head=>simp at e
   |tail _ v0=>exact v0
theorem NJ{I:aD->ai}{s0:aD->Prop}(e0:∀Z y,s0 Z->s0 y->I Z=I y->Z=y):∀{c:aV}{P:List (aD×ai)},(c.map (·.1)).Nodup->(∀V∈P,V.2=I V.1/\s0 V.1/\V.1∉c.map (·.1))->(∀Z∈c,Z.2=dN->s0 Z.1)->P.Pairwise (λS p=>S.2≠p.2)->(iD I c P).Pairwise λS p=>S.2≠p.2:=by
 intro c
 induction c with
 |nil=>intro P _ _ _ h;exact h
 |cons O r Y=>
  intro P y0 v0 B0 h
  obtain⟨n,w⟩:=O
  rw[dX,tu]at y0
  rw[uk]
  by_cases q0:w=dN
  ·subst q0
   simp only[beq_self_eq_true,if_true]
   have J:=B0 (n,dN) (et _) rfl
   refine Y y0.2 (λV p0=>?_) (λZ b0=>B0 Z (gK _ b0)) (Wn.mpr ⟨λV p0 e=>?_,h⟩)
   ·cases p0 with
    |head=>exact⟨rfl,J,y0.1⟩
    |tail _ p0=>exact⟨(v0 V p0).1,(v0 V p0).2.1,λz=>(v0 V p0).2.2 (by rw[dX];exact gK _ z)⟩
   ·have E:=v0 V p0
    dsimp only at e
    rw[E.1]at e
    have:=e0 n V.1 J E.2.1 e
    exact E.2.2 (by rw[dX,<-this];exact et _)
  ·have W:(w==dN)=av:=by simpa using q0
   simp only[W,pJ,if_false]
   exact Y y0.2 (λV p0=>⟨(v0 V p0).1,(v0 V p0).2.1,λz=>(v0 V p0).2.2 (by rw[dX];exact gK _ z)⟩) (λZ b0=>B0 Z (gK _ b0)) h
theorem xT{G:aV}{Z:aD}:∀{c:aV},(gE G c).lookup Z=(c.lookup Z).map λw=>if(w==dN&&G.lookup Z==a dh)then dh else w:=by
 intro J
 induction J with
 |nil=>
  exact rfl
 |cons f r U=>
  obtain⟨n,w⟩:=f
  have Y:=U
  show IW Z ((if(w==dN&&G.lookup n==a dh)=af then(n,dh)else(n,w))::gE G r)=_
  rw[lb (k:=n)]
  cases e:Z==n with
  |true=>
   rw[beq_iff_eq]at e;subst e
   split
   ·rename_i e0;simp only[lb,beq_self_eq_true,Wv,e0,if_true]
   ·rename_i e0;simp only[lb,beq_self_eq_true,Wv,e0];rfl
  |false=>
   split<;>simp only[lb,e]<;>exact Y
section
variable{k:aU}{L:Bool}{n:Nat}{U:bo}{Q:List aN}{M:aN}{G:aV}{F:ai->Prop}{b:ah}{C:j}{D:Nat->Option ai}{h:aG}{D0:List ak}{Z:ak}
theorem bq.g1(J:bq k L n U Q M G F b C D h){y:ak}(q0:M.kindOf (an y)=a dh):∃I,M.cells.lookup (an y)=a I:=by
 generalize k0:b y=x9;induction x9 with
 |none=>refine aA (J.x0 y q0 k0) λI e0 _=>?_;exact⟨I,e0⟩
 |some T=>
  refine aA (J.r0) λa0 _ h0=>?_
  refine aA (h0 y T k0) λm0 _ K0=>?_
  rcases K0 with⟨K0,_⟩|⟨_,I,e0,_⟩
  ·rw[q0]at K0;cases K0
  ·exact⟨I,e0⟩
structure mS(G:aV)(f:fj)(D0:List ak)(Z:ak):Prop where
 c:f.kind=hH
 e:∀y∈f.names,y.2≠dh
 l:∀y∈f.names,y.2=.local->f.names.lookup y.1=a .local
 m:f.names.lookup (an Z)=a .local
 g:(f.names.map (·.1)).Nodup
 d:∀y∈f.names,y.2=dN->G.lookup y.1=a dh/\∃z∈D0,y.1=an z
 i:∀y∈D0,(an y,dN)∈f.names
 o:Z∉D0
theorem NK{S:aD}{w:gt}:∀{l:aV},(l.map (·.1)).Nodup->(S,w)∈l->l.lookup S=a w:=by
 intro J
 induction J with
 |nil=>
  intro _ h
  cases h
 |cons f l U=>
  obtain⟨p,B⟩:=f
  intro y0 h
  rw[dX,tu]at y0
  rw[lb]
  cases h with
  |head=>simp
  |tail _ h=>
   have:(S==p)=av:=by
    cases e:S==p with
    |false=>rfl
    |true=>rw[beq_iff_eq]at e;exact absurd (by rw[<-e];exact iq.mpr (aw _ h rfl)) y0.1
   rw[this];exact U y0.2 h
theorem Dh(J:bq k L n U Q M G F b C D h){f:fj}(g:mS G f D0 Z)(x:ai):
 Bi f M=bI (iD (λn=>(M.cells.lookup n).getD 0) f.names [])/\xS M (IX f (iD (λn=>(M.cells.lookup n).getD 0) f.names []) x M) (gE G f.names) D0 Z:=by
 have X:∀y∈f.names,y.2=dN->∃z∈D0,y.1=an z/\∃I,M.cells.lookup y.1=a I:=λy E0 B0=>by
  refine pS (g.d y E0 B0) λl0 z s e=>?_
  rw[e]at l0
  obtain⟨I,e0⟩:=J.g1 (y:=z) ((kF J _).trans l0)
  exact(cW z s e ⟨I,by rw[e];exact e0⟩)
 refine⟨Df λy E0 B0=>(X y E0 B0).choose_spec.2.2,?_⟩
 have R:(IY f M).names=gE G f.names:=by
  unfold IY gE
  dsimp only
  refine AS λV _=>?_
  obtain⟨S,w⟩:=V
  have e1:(M.scope.kind==hH)=af:=by rw[J.kind];rfl
  have e2:M.kindOf S=G.lookup S:=kF J S
  simp only[e1,e2,Bool.and_true]
 have c:∀S,(IX f (iD (λn=>(M.cells.lookup n).getD 0) f.names []) x M).kindOf S=(gE G f.names).lookup S:=λS=>by
  show IW S (IY f M).names=_
  rw[R]
 have U0:∀y∈D0,(iD (λn=>(M.cells.lookup n).getD 0) f.names []).lookup (an y)=M.cells.lookup (an y):=λy E0=>by
  have O:=g.i y E0
  rw[NI (I:=λn=>(M.cells.lookup n).getD 0) (λV p0=>?_) ⟨_,Dg.mpr (aI ⟨O,rfl⟩)⟩]
  ·refine xg (X _ O rfl) λz _ _ I e0=>?_
   dsimp only at e0
   rw[e0];rfl
  ·obtain⟨S,p⟩:=V
   rcases Dg.mp p0 with z|⟨_,z⟩
   ·cases z
   ·exact z
 refine{names:=R,kind:=g.c,globals:=rfl,builtins:=rfl,e:=rfl,b:=?_,c:=λy E0=>?_,cell:=λy E0=>?_,f:=?_,g:=g.o}
 ·rw[c,xT,g.m];rfl
 ·have O:=g.i y E0
  have l0:=(g.d _ O rfl).1
  dsimp only at l0
  refine⟨aL ((kF J _).trans l0),aL ?_,U0 y E0⟩
  rw[c,xT,NK g.g O,l0];rfl
 ·rw[c,xT]at E0
  cases k0:f.names.lookup (an y)with
  |none=>rw[k0]at E0;cases E0
  |some w=>
   rw[k0]at E0
   have E:(an y,w)∈f.names:=by
    clear E0 U0 c R X J g
    revert k0
    generalize f.names=l
    intro k0
    induction l with
    |nil=>simp at k0
    |cons V r Y=>
     obtain⟨S,p⟩:=V
     rw[lb]at k0
     cases e:an y==S with
     |true=>rw[e]at k0;cases k0;rw[beq_iff_eq]at e;rw[e];exact et _
     |false=>rw[e]at k0;exact gK _ (Y k0)
   have q0:w=dN:=by
    cases w with
    |free=>rfl
    |cell=>exact absurd rfl (g.e _ E)
    |_=>simp at E0
   subst q0
   refine pS (g.d _ E rfl) λl0 z s e=>?_
   have:=pW e
   subst this
   exact⟨s,(kF J _).trans l0⟩
 ·refine NJ (s0:=λS=>∃y∈f.names,y.1=S/\y.2=dN) (λS p⟨y,E0,t,B⟩⟨z,s,H,N⟩e=>?_) g.g (λ_ z=>nomatch z) (λy E0 B0=>(cW y E0 rfl B0)) .nil
  refine xg (X y E0 B) λ_ _ _ I e0=>?_
  refine xg (X z s N) λ_ _ _ d z0=>?_
  rw[t]at e0;rw[H]at z0
  rw[e0,z0]at e
  simp only[Wu]at e
  subst e
  exact CZ J.Q0 e0 z0
end
end Mine.Internal
set_option tactic.hygienic true
namespace Mine.Internal
open PySem PySem.W PySem.Calls PyProof.Rows
def iS(C:j):Option Nat->j
 |none=>C
 |some r=>C.lock r
def kH(C:j)(O:j):Option Nat->j
 |none=>O
 |some r=>match C.c r with|some s0=>O.d r s0|none=>O
section
variable{k:aU}{L:Bool}{n:Nat}{U:bo}{Q:List aN}{M:aN}{G:aV}{F:ai->Prop}{b:ah}{C O:j}{D A0:Nat->Option ai}{h u:aG}{W0:List ai}{O0:ai->cu->Prop}
theorem ul(r q:Nat):(C.lock r).c q=if q=r then ae else C.c q:=rfl
theorem Di{r:Nat}(R:bj k D F C h):bj k D F (C.lock r) h:=by
 refine{R with b:=λq s0 x0=>?_}
 have j:(if q=r then ae else C.c q)=a s0:=x0
 by_cases e:q=r
 ·exact ig (if_pos e) j
 ·rw[if_neg e]at j;exact R.b q s0 j
theorem Dj{O0:Option Nat}(R:bj k D F C h):bj k D F (iS C O0) h:=by induction O0;exact R;exact Di R
theorem bq.Z0{O0:Option Nat}(J:bq k L n U Q M G F b C D h):bq k L n U Q M G F b (iS C O0) D h:={J with c:=Dj J.c}
theorem bq.T0(J:bq k L n U Q M G F b C D h)(q0:∀p o,h.get? p=a o->u.get? p=a o):bq k L n U Q M G F b C D u:=J.p0 (iO q0) (ou J.c q0)
theorem bq.c1{o:cu}(J:bq k L n U Q M G F b C D h)(B0:o.isFreed=av):bq k L n U Q M G (cD F h.objs.size) b C D (h.push o):=by
 have S1:bq k L n U Q M G F b C D (h.push o):=J.T0 λ_ _ z=>cc _ z
 refine aA (J.r0) λa0 d1 h0=>?_
 refine gg (d1) λR t0 X0 H0 r=>?_
 refine{S1 with c:=CX J.c B0,r0:=(aw a0 (jA R t0 X0 (cc _ H0) r) (λZ T b0=>?_))}
 refine aA (h0 Z T b0) λG0 j0 K0=>?_
 refine(aw G0 (aC.c (M0:=λ_=>False) ⟨λ_ _ _ z=>cc _ z,λ_ z=>z.elim⟩ _ _ (aC.s (ug (fT h)) _ _ j0)) ?_)
 rcases K0 with K0|⟨q0,I,e0,X,c0⟩
 ·exact aL K0
 ·exact aI ⟨q0,I,e0,X.keeps λ_ _ z=>cc _ z,c0⟩
theorem bq.i1{i0:ai}(J:bq k L n U Q M G (cD F i0) b C D h):bq k L n U Q M G F b C D h:=by
 refine aA (J.r0) λa0 d1 h0=>?_
 refine{J with c:=CY J.c,r0:=(aw a0 d1 (λZ T b0=>?_))}
 refine aA (h0 Z T b0) λG0 j0 K0=>?_
 exact(aw G0 (aC.s xN _ _ j0) K0)
theorem bq.j1{i0:ai}{s0:bM}(J:bq k L n U Q M G (cD F i0) b C D h)(u0:k.d.get? i0=ae)(A0:¬F i0)(g0:∀N0∈Q,N0.frame≠a i0)(H0:M.locals≠i0)(h1:∀T,¬h.IsCell i0 T)(q:fE k (eZ D C.b i0) F h i0 s0):bq k L n U Q M G F b (C.e s0) (eZ D C.b i0) h:=by
 have q0:∀r S,D r=a S->r≠C.b:=λr S j0 z=>absurd (J.c.g r S j0) (by rw[z];exact pg _)
 have B:∀p,p≠i0->(∀r,D r≠a p)->∀r,eZ D C.b i0 r≠a p:=λp W C1 r z=>by
  have V:(if r=C.b then a i0 else D r)=a p:=z
  by_cases e:r=C.b
  ·replace V:=be (if_pos e) V;subst V;exact W rfl
  ·rw[if_neg e]at V;exact C1 r V
 refine aA (J.r0) λa0 d1 h0=>?_
 refine{J with c:=xO J.c u0 A0 q,d:=λN0 C0=>?_,I0:=B _ H0 J.I0,r0:=(aw a0 d1 (λZ T b0=>?_)),x0:=λZ g b0=>?_}
 ·refine lR (J.d N0 C0) λg s o t0 w E N h3 h4 h5 h6=>?_
  exact⟨g,s,o,t0,w,E,N,h3,h4,B _ (λz=>g0 N0 C0 (z▸E)) h5,h6⟩
 ·refine aA (h0 Z T b0) λG0 j0 K0=>?_
  exact(aw G0 (aC.s (rX q0) _ _ j0) K0)
 ·refine lh (J.x0 Z g b0) λI e0 X c0 v0 B0=>?_
  exact(lf I e0 X c0 (B _ (λz=>h1 _ (z▸X)) v0) B0)
theorem Dk{r:Nat}{S:ai}{s0:bM}(R:bj k D F C h)(j0:D r=a S)(w0:C.c r=a s0)(e:aZ k W0 O0 (C.lock r) D h O A0 u)(Q:lS O0 h)(U:lT W0 h)(B:bj k A0 F O u)(w:∀o,h.get? S=a o->u.get? S=a o):
 bj k A0 F (O.d r s0) u/\aZ k W0 O0 C D h (O.d r s0) A0 u:=by
 refine aA (R.b r s0 w0) λI0 X x0=>?_
 replace X:=be j0 X;subst X
 have t:fE k A0 F u S s0:=x0.b e (Di R) Q U w
 refine⟨{B with b:=λq o x0=>?_},{e with V:=λp o v y0 f0 o0=>e.V p o v (λ⟨q,x0,v0⟩=>y0 (aw q x0 (λz=>v0 ?_))) f0 o0,m0:=λq k0 x0=>?_}⟩
 ·have j:(if q=r then a s0 else O.c q)=a o:=x0
  by_cases z:q=r
  ·replace j:=be (if_pos z) j;subst j;exact(aw S (z▸e.c0 r S j0) t)
  ·rw[if_neg z]at j;exact B.b q o j
 ·rw[ul];split
  ·rfl
  ·exact z
 ·show(if q=r then a s0 else O.c q)=ae
  by_cases z:q=r
  ·rw[z,w0]at x0;exact bR x0
  ·rw[if_neg z]
   exact e.m0 q k0 (by rw[ul,if_neg z];exact x0)
structure Dl(k:aU)(d:aa)(Q:List aN)(F:ai->Prop)(C:j)(D:Nat->Option ai)(h:aG)(l:List A)(O0:Option Nat)(V:aj) where
 f:ai
 z:List A
 E:List aj
 w:Nat->aG->Prop
 c:cu
 I:c.isFreed=av
 p:∀{U:bo}{g0:aj->ay->Prop}{H:ay}{Y:aj->ay->Prop},H.heap=h->Y (ax h.objs.size) {H with heap:=h.push c}->aR (aQ k.b k.c) U (pyIter V) Y g0 H
 m:mQ k d h.objs.size f l z E w
 q:w 0 (h.push c)
 s:aJ k D F h z E
 e:jF k Q (iS C O0) D h f
 lock:∀r,O0=a r->D r=a f/\(C.c r).isSome=af
 t:∀o,h.get? f=a o->o.data≠jQ ae/\∀t0 n,o.data=eo t0 n->∃r,D r=a f
structure NL(k:aU)(d:aa)(Q:List aN)(F:ai->Prop)(C:j)(D:Nat->Option ai)(h:aG)(l:List A)(O0:Option Nat)(V:aj) extends Dl k d Q F C D h l O0 V where
 N:∀{U:bo}{g0:aj->ay->Prop}{H:ay}{Y:aj->ay->Prop}{i:Nat},w i H.heap->Y (ax h.objs.size) H->aR (aQ k.b k.c) U (pyIter (ax h.objs.size)) Y g0 H
theorem jo{o:cu}(B0:o.isFreed=av):(h.push o).get? h.objs.size=a o:=kW _ B0
theorem Dm(L0:cn k){d:aa}{T:A}{V:aj}{l:List A}{O0:Option Nat}(F0:ls d)(J:bZ k L n U Q F C D h)(h0:aC k D F h T V)(f0:eL C .b T=a (l,O0)):Nonempty (NL k d Q F C D h l O0 V):=by
 have R:=J.c
 have E2:=J.d.d
 have O:∀{S:ai}{o:cu},h.get? S=a o->(∀t0 w,o.data≠eo t0 w)->S∉bx Q:=λv z0 B0=>by
  clear L0 F0 J h0 f0 R;refine pT (E2 _ B0 _ v) λt0 w z=>?_
  exact z0 _ _ z
 have G:∀{S:ai}{o:cu},h.get? S=a o->S≠h.objs.size:=λv=>bC (jU v)
 clear E2;induction T using A.casesOn<;>try((exact bD f0);done)
 ·
  rename_i k0
  clear L0 J;cases f0
  refine eJ (jl h0) λS j e0 V0 v0 p=>?_;obtain rfl:=V0
  have l1:=p.b
  clear h0;rw[fq]at l1
  refine⟨{f:=S,z:=l,E:=j.toList,w:=_,c:={cls:=aK "tuple_iterator",data:=bO #[ax S,cI 0 0]},I:=rfl,p:=λ{U g0 H Y}e w=>?_,m:=Ny F0 (G v0) l1,q:=⟨(cW _ (jo rfl) rfl rfl),(cW _ (cc _ v0) rfl ⟨_,rfl⟩)⟩,N:=λq w=>wpAny_pyIter_tupleiter q.1 w,s:=p,e:=⟨(by rw[v0];intro z;exact bR z),λ⟨r,j0,w0⟩=>?_,R.q v0 (qd _),O v0 (by intro _ _ z;cases z)⟩,lock:=λ_ z=>(nomatch z),t:=λo P0=>by(replace P0:=be v0 P0;subst P0);exact⟨(by intro z;cases z),λ_ _ z=>(nomatch z)⟩}⟩
  ·clear F0 R O G p l1;subst e
   exact wpAny_pyIter_tuple (cW _ v0 rfl ⟨_,rfl⟩) w
  ·refine aA (R.y (aw r j0 w0)) λU0 P0 b0=>?_
   replace P0:=be v0 P0;subst P0
   clear v0;rcases b0 with⟨b0,_⟩|⟨_,_,_,b0⟩
   ·exact xr b0
   ·cases b0
 ·
  rename_i k0
  cases f0
  refine jC (iQ h0) λS j e0 V0 v0 p M u=>?_;obtain rfl:=V0
  have l1:=p.b
  clear u;rw[fq]at l1
  refine⟨{f:=S,z:=l,E:=j.toList,w:=_,c:={cls:=aK "list_iterator",data:=bO #[ax S,cI 0 0]},I:=rfl,p:=λ{U g0 H Y}e w=>?_,m:=Da F0 (G v0) l1,q:=⟨(cW _ (jo rfl) rfl rfl),(cW _ (cc _ v0) rfl ⟨_,rfl⟩)⟩,N:=λq w=>Ww q.1 w,s:=p,e:=⟨(by rw[v0];intro z;exact bR z),λ⟨r,j0,w0⟩=>M r j0,R.q v0 (qd _),O v0 (by intro _ _ z;cases z)⟩,lock:=λ_ z=>(nomatch z),t:=λo P0=>by(replace P0:=be v0 P0;subst P0);exact⟨(by intro z;cases z),λ_ _ z=>(nomatch z)⟩}⟩
  clear F0 R O G p l1 M;subst e
  exact IZ (cW _ v0 rfl ⟨_,rfl⟩) w
 ·rename_i r
  refine aA (eT h0) λS J0 x=>?_;obtain rfl:=J0
  have t:¬jj (C.lock r) D S:=λ⟨q,x0,w0⟩=>by
   have:=R.t _ _ _ x0 x
   clear x x0;subst this
   exact w0 (by rw[ul,if_pos rfl])
  have b:S∉bx Q:=λB0=>by
   clear t;refine aA (lI.mp B0) λN0 C0 q1=>?_
   clear B0;refine lR (J.d N0 C0) λ_ s o t0 w E _ _ _ h5 _=>?_
   clear C0;replace q1:=be E q1;subst q1
   exact h5 r x
  replace f0:Cb r (C.c r)=a (l,O0):=f0
  generalize w0:C.c r=x9;induction x9 with
  |none=>rw[w0]at f0;exact bD f0
  |some o=>rw[w0]at f0;induction o with
   |c l=>
    replace f0:=xq (bn f0);obtain⟨rfl,rfl⟩:=f0
    refine hV (R.b r _ w0) λI0 X j e0 v0 p=>?_
    replace X:=be x X;subst X
    have l1:=p.b
    rw[fq]at l1
    refine⟨{f:=S,z:=l,E:=j.toList,w:=_,c:={cls:=aK "list_iterator",data:=bO #[ax S,cI 0 0]},I:=rfl,p:=λ{U g0 H Y}e w=>?_,m:=Da F0 (G v0) l1,q:=⟨(cW _ (jo rfl) rfl rfl),(cW _ (cc _ v0) rfl ⟨_,rfl⟩)⟩,N:=λq w=>Ww q.1 w,s:=p,e:=⟨(by rw[v0];intro z;exact bR z),t,R.q v0 (qd _),b⟩,lock:=λq x0=>by(replace x0:=bn x0;subst x0);exact⟨x,by rw[w0];rfl⟩,t:=λo P0=>by(replace P0:=be v0 P0;subst P0);exact⟨(by intro z;cases z),λ_ _ z=>(nomatch z)⟩}⟩
    clear p l1 w0 x t b;subst e
    exact IZ (cW _ v0 rfl ⟨_,rfl⟩) w
   |b k0=>
    replace f0:=xq (bn f0);obtain⟨rfl,rfl⟩:=f0
    refine jB (R.b r _ w0) λI0 X o0 i0 x0=>?_
    replace X:=be x X;subst X
    obtain⟨X0,Z⟩:=i0.dictAt
    clear i0;refine cX (id Z) λo t0 v b0 z0 _=>?_
    refine⟨{f:=S,z:=[],E:=[],w:=_,c:={cls:=aK "dict_keyiterator",data:=bO #[ax S,cI 0 0,cI o0.length 0,cI X0 0]},I:=rfl,p:=λ{U g0 H Y}e w=>?_,m:=NA F0 (G v) (Db x0),q:=⟨(cW _ (jo rfl) rfl rfl),Z.push _⟩,N:=λq w=>wpAny_pyIter_keyiter q.1 w,s:=by simp only[cA,cB],e:=⟨(by rw[v];intro z;exact bR z),t,R.q v (by rw[b0.1];decide),b⟩,lock:=λq x0=>by(replace x0:=bn x0;subst x0);exact⟨x,by rw[w0];rfl⟩,t:=λU0 P0=>by(replace P0:=be v P0;subst P0);exact⟨(by rw[z0];intro z;cases z),λ_ _ _=>⟨r,x⟩⟩}⟩
    clear v z0 w0 t x0 b b0;subst e
    exact wpAny_pyIter_dict (jX (H:=H) L0.c R x) Z w
   |_=>exact bD f0
end
end Mine.Internal
set_option tactic.hygienic false
namespace Mine.Internal
open PySem PySem.W PySem.Calls PyProof.Rows
abbrev lY(c:v)(I:List Mine.Internal.ar)(e:Mine.Internal.ar)(D0:List ak)(Z:ak)(b:ah):A->j->au (Option A):=
 λT C=>(di c I (b.d D0 Z T) C).e λt C=>if t then(ag c e (b.d D0 Z T) C).e λr C=>.b (a r) C else .b ae C
section
variable{k:aU}{L:Bool}{n:Nat}{U:bo}{Q:List aN}{M:aN}{G:aV}{F:ai->Prop}{b:ah}{C:j}{D:Nat->Option ai}{H:ay}{g0:aj->ay->Prop}{c:v}{D0:List ak}{Z:ak}
theorem Dn(L0:cn k)(T0:L=af){K0 b1:aa}{j1 u0 X:aH}{k0:List aa}{f:fj}{e m0:Mine.Internal.ar}{I:List Mine.Internal.ar}{F0:Option (aj->gu Unit)}{Y:aj->ay->Prop}(g:mS G f D0 Z)(c1:aE k L n G b1 (ag c m0))(J1:aE k L n (gE G f.names) K0 (ag c e))(P1:lX k L n (gE G f.names) k0 (di c I))(m1:∀M Z,pK b1 M Z=bI Z)(J:bq k L n U Q M G F b C D H.heap)(f1:aB k Q F C D H (bz k F) (ag c m0 b C) (λ_ _=>True) g0)(n1:∀T x0,ag c m0 b C=.b T x0->∃l O0 y0 O,eL x0 .b T=a (l,O0)/\l.length<=1000/\bX (lY c I e D0 Z b) l (iS x0 O0)=.b y0 O)(B0:∀T V x0 R0 E l O0 y0 O i0 x A0 u t a0,ag c m0 b C=.b T x0->eL x0 .b T=a (l,O0)->bX (lY c I e D0 Z b) l (iS x0 O0)=.b y0 O->
   bq k L n U Q M G F b x0 R0 E->aZ k (bx Q) bV C D H.heap x0 R0 E->aC k R0 F E T V->(∀r,O0=a r->∃S,R0 r=a S/\(x0.c r).isSome=af/\∀o,E.get? S=a o->u.get? S=a o)->
   Dd k L n U Q M G F b (iS x0 O0) R0 E i0 x y0 O A0 u a0->Ja (aQ k.b k.c) U g0 F0 Y (ax i0) x (.ok eF) {H with heap:=u,toks:=t}):
 aR (aQ k.b k.c) U (Wx (kp K0 [⟨aY (an Z) j1,b1,k0,0⟩] f u0) f M X (newList []) av (bP b1 M) F0) Y g0 H:=by
 have h1:=(Dh J g 0).1
 refine wpAny_comprehension_free (use:=F0) rfl (m1 M) h1 g.c g.l ?_
 refine c1 U Q M F b C D H J _ g0 ?_
 generalize j0:ag c m0 b C=x9;induction x9 with
 |d=>rw[j0]at f1;exact f1.elim
 |g x0=>rw[j0]at f1;exact f1
 |b T x0=>
  intro V R0 E t1 R1 e1 r1
  refine JQ (n1 T x0 j0) λl O0 y0 O f0 Y0 b0=>?_
  have S1:=J.p0 e1 R1
  obtain⟨c0⟩:=Dm L0 (d:=aY (an Z) j1) (aL (gL _ _ rfl)) S1.tobZ r1 f0
  refine c0.p (H:={H with heap:=E,toks:=t1}) rfl ?_
  refine pz (wpAny_newFunctionEnv g.e (by intro y E0;simp at E0) (λh4 d1 e0=>?_) g.c)
  dsimp only at d1 e0⊢
  have s:(E.push c0.c).objs.size=E.objs.size+1:=tq ..
  have P:((E.push c0.c).push (cO #[] 0)).objs.size=E.objs.size+2:=by rw[tq,s]
  have o0:hG ((E.push c0.c).push (cO #[] 0)).objs.size (((E.push c0.c).push (cO #[] 0)).push {cls:=aK "dict",data:=eo #[]}) h4:=e0
  have j:h4.Ns ((E.push c0.c).push (cO #[] 0)).objs.size (λy=>([]:List (aD×aj)).reverse.lookup y):=d1
  have B:∀p o,((E.push c0.c).push (cO #[] 0)).get? p=a o->h4.get? p=a o:=λp o v=>(o0.2 p (bC (jU v))).trans (cc _ v)
  have h0:∀p o,(E.push c0.c).get? p=a o->h4.get? p=a o:=λp o v=>B p o (cc _ v)
  have R:∀p o,E.get? p=a o->h4.get? p=a o:=λp o v=>h0 p o (cc _ v)
  have i:∀w,E.objs.size<=w->E.get? w=ae:=λw q0=>nS q0
  have K1:bq k L n U Q M G (cD F (E.push c0.c).objs.size) b (iS x0 O0) R0 h4:=(((S1.Z0 (O0:=O0)).T0 (u:=E.push c0.c) λ_ _ z=>cc _ z).c1 (o:=cO #[] 0) rfl).T0 B
  have C1:∀w,E.objs.size<=w->∀r,R0 r≠a w:=λw q0 r j0=>S1.c.f r w j0 (i w q0)
  have R2:jF k Q (iS x0 O0) R0 h4 c0.f:=⟨(by
   generalize q:E.get? c0.f=x9;induction x9 with
   |none=>exact absurd q c0.e.g
   |some o=>rw[R _ _ q];intro z;exact bR z),c0.e.c,c0.e.d,c0.e.f⟩
  have A:c0.f<E.objs.size:=by
   generalize q:E.get? c0.f=x9;induction x9 with
   |none=>exact absurd q c0.e.g
   |some o=>exact jU q
  have P4:c0.w 0 h4:=c0.m.e _ _ _ c0.q λp o _ v=>h0 p o v
  have l0:∀N:ay,N.heap=h4->N={H with heap:=h4,toks:=N.toks}->
   je (aQ k.b k.c) U (Ws (kp K0 [⟨aY (an Z) j1,b1,k0,0⟩] f u0) 0 (ax E.objs.size) (ax (E.push c0.c).objs.size) (IX f (iD (λn=>(M.cells.lookup n).getD 0) f.names []) ((E.push c0.c).push (cO #[] 0)).objs.size M))
    (Ja (aQ k.b k.c) U g0 F0 Y (ax (E.push c0.c).objs.size) ((E.push c0.c).push (cO #[] 0)).objs.size) N:=by
   intro N e4 W
   subst e4
   refine NG T0 (e:=e) (I:=I) (m:=iS x0 O0) (d0:=R0) (n0:=E) (x0:=iS x0 O0) (R0:=R0) (F:=F) (b:=b) (l:=l) (y0:=y0) (O:=O) c0.m (Dh S1 g _).2 K1 (S1.Z0 (O0:=O0)) (iO R) P4
    (aJ.g (M0:=λ_=>False) ⟨λp o _ v=>R p o v,λ_ z=>z.elim⟩ _ _ (aJ.p0 (ug (i _ (by rw[s];exact pi _))) _ _ c0.s)) (k1:=0) (B _ _ (jo rfl)) j (i _ (bS _)) (i _ (by rw[s];exact pi _)) (i _ (by show E.objs.size<=((E.push c0.c).push (cO #[] 0)).objs.size;rw[P];exact dp _ _))
    (by rw[s];exact bC (fM _)) (by show E.objs.size≠((E.push c0.c).push (cO #[] 0)).objs.size;rw[P];exact bC (kU (fM _))) (by show(E.push c0.c).objs.size≠((E.push c0.c).push (cO #[] 0)).objs.size;rw[P,s];exact bC (fM _))
    (C1 _ (bS _)) (C1 _ (by rw[s];exact pi _)) (C1 _ (by show E.objs.size<=((E.push c0.c).push (cO #[] 0)).objs.size;rw[P];exact dp _ _)) R2 (bC A) (by rw[s];exact bC (kU A)) (by show c0.f≠((E.push c0.c).push (cO #[] 0)).objs.size;rw[P];exact bC (kU (kU A)))
    J1 P1 Y0 b0 λA0 u t a0 h=>?_
   rw[W]
   refine B0 T V x0 R0 E l O0 y0 O _ _ A0 u t a0 j0 f0 b0 S1 e1 r1 (λr j0=>?_) h
   obtain⟨a1,a2⟩:=c0.lock r j0
   exact(cW _ a1 a2 (λo v=>c0.e.i (W0:=[]) h.d o v))
  exact codeAny_compStart_list (l0 _ rfl rfl) (c0.N P4 (l0 _ rfl rfl))
theorem Do{C O:j}{r:Nat}{s0:bM}(h:C.c r=a s0):kH C O (a r)=O.d r s0:=by unfold kH;dsimp only;rw[h]
theorem NM{O0:Option Nat}{x0:j}{l:List A}{r:A->j->au (Option A)}{y0:List A}{O:j}(h:hZ x0 O0 (bX r l)=.b y0 O):∃g1,bX r l (iS x0 O0)=.b y0 g1/\O=kH x0 g1 O0:=by
 induction O0 with
 |none=>exact(aw O h rfl)
 |some q=>
  unfold hZ at h
  dsimp only at h
  generalize w0:x0.c q=x9;induction x9 with
  |none=>rw[w0]at h;cases h
  |some s0=>
   rw[w0]at h
   dsimp only at h
   generalize e0:bX r l (x0.lock q)=x9;induction x9 with
   |d=>rw[e0]at h;cases h
   |g i=>rw[e0]at h;cases h
   |b I0 i=>
    rw[e0]at h
    obtain⟨rfl,rfl⟩:=qc h
    exact(aw i e0 (by unfold kH;simp only[w0]))
theorem xU{r:A->j->au (Option A)}:∀(l:List A)(C O:j),bX r l C≠.g O:=by
 intro J
 induction J using bL with
 |nil=>
  intro C O
  simp[Cp]
 |cons T l=>
  intro C O
  rw[Cq]
  cases r T C with
  |b o i=>dsimp only;cases bX r l i<;>simp
  |g _=>simp
  |d=>simp
theorem NN{O0:Option Nat}{x0 O:j}{l:List A}{r:A->j->au (Option A)}:hZ x0 O0 (bX r l)≠.g O:=by
 induction O0 with
 |none=>exact xU _ _ _
 |some q=>
  unfold hZ
  dsimp only
  cases x0.c q with
  |none=>simp
  |some s0=>
   dsimp only
   generalize e0:bX r l (x0.lock q)=x9;induction x9 with
   |d=>simp
   |g i=>exact absurd e0 (xU _ _ _)
   |b I0 i=>simp
theorem Dp{e m0:Mine.Internal.ar}{I:List Mine.Internal.ar}:ag c (.t e Z D0 m0 I) b C=(ag c m0 b C).e λT C=>match eL C .b T with
 |some (l,O0)=>(hZ C O0 (bX (lY c I e D0 Z b) l)).e λy0 C=>if l.length<=1000 then .b (.k y0) C else .d
 |none=>.d:=by
 dsimp only[Ku]
 all_goals congr 1
theorem Dq{e m0:Mine.Internal.ar}{I:List Mine.Internal.ar}{T:A}{x0:j}(h:ag c (.t e Z D0 m0 I) b C≠.d)(h0:ag c m0 b C=.b T x0):∃l O0 y0 g1,eL x0 .b T=a (l,O0)/\l.length<=1000/\bX (lY c I e D0 Z b) l (iS x0 O0)=.b y0 g1/\ag c (.t e Z D0 m0 I) b C=.b (.k y0) (kH x0 g1 O0):=by
 rw[Dp,h0]at h⊢
 dsimp only[au.e]at h⊢
 generalize f0:eL x0 .b T=x9;induction x9 with
 |none=>rw[f0]at h;exact absurd rfl h
 |some q=>
  obtain⟨l,O0⟩:=q
  rw[f0]at h
  dsimp only at h⊢
  generalize K0:hZ x0 O0 (bX (lY c I e D0 Z b) l)=x9;induction x9 with
  |d=>rw[K0]at h;exact absurd rfl h
  |g i=>exact absurd K0 NN
  |b y0 i=>
   rw[K0]at h;dsimp only at h⊢
   refine aA (NM K0) λg1 E N=>?_;subst N
   by_cases k0:l.length<=1000
   ·exact(iN l O0 y0 g1 rfl k0 E (if_pos k0))
   ·rw[if_neg k0]at h;exact absurd rfl h
theorem Dr(L0:cn k)(T0:L=af){K0 b1:aa}{j1 u0 X:aH}{k0:List aa}{f:fj}{e m0:Mine.Internal.ar}{I:List Mine.Internal.ar}{F0:Option (aj->gu Unit)}{Y:aj->ay->Prop}(g:mS G f D0 Z)(c1:aE k L n G b1 (ag c m0))(J1:aE k L n (gE G f.names) K0 (ag c e))(P1:lX k L n (gE G f.names) k0 (di c I))(m1:∀M Z,pK b1 M Z=bI Z)(J:bq k L n U Q M G F b C D H.heap)(m:aB k Q F C D H (bz k F) (ag c (.t e Z D0 m0 I) b C) (λ_ _=>True) g0)(B0:∀y0 g1 i0 x A0 u t a0,ag c (.t e Z D0 m0 I) b C=.b (.k y0) g1->bq k L n U Q M G F b g1 A0 u->aZ k (bx Q) bV C D H.heap g1 A0 u->aC k A0 F u (.k y0) (ax i0)->
   H.heap.get? x=ae->(∀r,A0 r≠a x)->i0≠x->u.Ns x a0->Ja (aQ k.b k.c) U g0 F0 Y (ax i0) x (.ok eF) {H with heap:=u,toks:=t}):
 aR (aQ k.b k.c) U (Wx (kp K0 [⟨aY (an Z) j1,b1,k0,0⟩] f u0) f M X (newList []) av (bP b1 M) F0) Y g0 H:=by
 have N:=Dp (c:=c) (b:=b) (C:=C) (D0:=D0) (Z:=Z) (e:=e) (m0:=m0) (I:=I)
 have M0:ag c (.t e Z D0 m0 I) b C≠.d:=λz=>by rw[z]at m;exact m.elim
 refine Dn L0 T0 (e:=e) (m0:=m0) (I:=I) g c1 J1 P1 m1 J ?_ (λT x0 h0=>?_) λT V x0 R0 E l O0 y0 O i0 x A0 u t a0 h0 f0 e0 S1 e1 r1 U0 h=>?_
 ·clear L0 T0 j1 u0 X g c1 J1 P1 m1 J B0;rw[N]at m
  clear N;generalize j0:ag c m0 b C=x9;induction x9 with
  |d=>rw[j0]at m;exact m
  |g x0=>rw[j0]at m;exact m
  |b T x0=>exact λ_ _ _ _ _ _ _=>trivial
 ·exact rH (Dq M0 h0) λl O0 y0 g1 S p I _=>(rC l O0 y0 g1 S p I)
 ·have a1:ag c (.t e Z D0 m0 I) b C=.b (.k y0) (kH x0 O O0):=by
   refine rH (Dq M0 h0) λG0 R v2 g1 S _ p d=>?_
   obtain⟨rfl,rfl⟩:=xq (be f0 S)
   obtain⟨rfl,rfl⟩:=Cm e0 p
   exact d
  have q:=h.g.i1
  clear m f0;refine fw (h.h) λI0 w Q0 P0=>?_
  have W0:aC k A0 F u (.k y0) (ax i0):=by
   simp only[du,dv,dw,dx,dy,dz,dA,dB,dC,dD]
   clear a1 q;exact(dY i0 I0 w rfl Q0 (aJ.p0 xN _ _ P0) ⟨h.o,λz=>S1.c.d i0 z h.i⟩)
  have l1:H.heap.get? x=ae:=e1.g x h.l
  clear Q0 P0;induction O0 with
  |none=>exact B0 y0 _ i0 x A0 u t a0 a1 q (e1.h0 h.d J.c) W0 l1 h.f h.e h.c
  |some r=>
   refine dP (U0 r rfl) λS v0 w0 q0=>?_
   generalize s:x0.c r=x9;induction x9 with
   |none=>rw[s]at w0;cases w0
   |some s0=>
    clear w0;obtain⟨o,v⟩:=Dk S1.c v0 s h.d (cM _) S1.d.d q.c q0
    rw[Do s]at a1
    clear v0 q0 s
    exact B0 y0 _ i0 x A0 u t a0 a1 {q with c:=o} (e1.h0 v J.c) W0 l1 h.f h.e h.c
theorem NO(L0:cn k)(T0:L=af){K0 b1:aa}{j1 u0:aH}{k0:List aa}{f:fj}{e m0:Mine.Internal.ar}{I:List Mine.Internal.ar}(g:mS G f D0 Z)(c1:aE k L n G b1 (ag c m0))(J1:aE k L n (gE G f.names) K0 (ag c e))(P1:lX k L n (gE G f.names) k0 (di c I))(m1:∀M Z,pK b1 M Z=bI Z):
 aE k L n G (kp K0 [⟨aY (an Z) j1,b1,k0,0⟩] f u0) (ag c (.t e Z D0 m0 I)):=by
 intro U Q M F b C D H J Y g0 m
 rw[Wy]
 refine Dr L0 T0 (F0:=ae) (e:=e) (m0:=m0) (I:=I) g c1 J1 P1 m1 J (m.k0 (λ_ _ _=>trivial) λ_ _ h=>h) λy0 g1 i0 x A0 u t a0 h0 f1 P0 W0 l1 O1 Y1 d1=>?_
 rw[h0]at m
 refine(aw a0 d1 (λN l0=>?_))
 have k1:hG x u N:=l0
 have S0:ej F (λp=>p=x) u N:=⟨λp o W v=>(k1.2 p W).trans v,uh d1⟩
 have v1:k.d.get? x=ae:=by
  generalize q:k.d.get? x=x9;induction x9 with
  |none=>rfl
  |some o=>have:=J.c.c x o q;exact ig l1 this
 have o1:¬k.e=x:=λz=>by refine aA (J.c.e) λZ0 p0 _=>?_;rw[z,l1]at p0;exact bD p0
 refine m _ A0 N t (oG f1.c S0 ⟨λp W r j0=>by subst W;exact O1 r j0,λp W=>by subst W;exact v1,o1⟩ λp W p1=>by subst p1;exact absurd l1 (J.c.d _ W)) (P0.u0 S0.1 λp W=>W▸l1) (aC.c S0 _ _ W0)
end
end Mine.Internal
set_option tactic.hygienic false
namespace Mine.Internal
open PySem PySem.W PySem.Calls PyProof.Rows
section
variable{k:aU}{L:Bool}{n:Nat}{G:aV}{c:v}{g b0:Type}[DecidableEq g]{d0:pL k.b k.c g}
noncomputable def oH(k:aU)(L:Bool)(n:Nat)(G:aV){g:Type}[DecidableEq g](d0:pL k.b k.c g)(w:aa)(w0:g):Prop:=
 ∀(U:bo)(Q:List aN)(M:aN)(F:ai->Prop)(b:ah)(C:j)(D:Nat->Option ai)(H:ay),bq k L n U Q M G F b C D H.heap->
  ∀(Y:aj->ay->Prop)(g0:aj->ay->Prop),(∀e t,d0.is w0 e=af->Y e {H with toks:=t})->aR (aQ k.b k.c) U (bP w M) Y g0 H
theorem NP{Z:aD}{w:Nat}{u0:aH}{l:am}(b0:Z=l.b):oH k L n G (eR k.b k.c) (fZ (.str Z) w u0) l.b:=by
 intro U Q M F b C D H J Y g0 m
 subst b0
 show aR _ _ (AP l.b) _ _ _
 exact wB (m _ _ (pq _ _ _ _))
theorem NQ{Z:aD}{f:ak}{i:Int}{u0:aH}(L0:cn k)(y0:Z=an f)(b0:G.lookup Z=a dI)(h0:∃t,k.i Z=a (cI i t)):oH k L n G (tb k.b k.c) (aY Z u0) i:=by
 intro U Q M F b C D H J Y g0 m
 obtain⟨t,F0⟩:=h0
 exact rU J L0 b0 F0 (by rw[y0];exact qh f) (m _ H.toks (AM _ _ _ _))
noncomputable abbrev rZ(k:aU){g b0:Type}[DecidableEq g](d0:pL k.b k.c g)(f:b0->g)(e0:List b0):(ai->Prop)->(Nat->Option ai)->aG->List A->List (aj×aj)->Prop:=
 λF D h X i=>∃o0,Carries d0 i o0/\o0.map (·.1)=e0.map f/\aJ k D F h X (o0.map (·.2))
noncomputable def jG(k:aU)(L:Bool)(n:Nat)(G:aV){g b0:Type}[DecidableEq g](d0:pL k.b k.c g)(f:b0->g)(e0:List b0)(x:List (Option aa))(y:List aa)(r0:ah->j->au (List A)):Prop:=
 ∀u0,∃a0:aN->List (gu aj×gu aj),(∀M,(evalEachOpt x M).zip ((evalEach y M).map λT=>do let Z<-T;jd u0;bI Z)=(a0 M).map λV=>(a V.1,V.2))/\(∀M,(a0 M).length=e0.length)/\
  mI k L n G (rZ k d0 f e0) (λM=>evalPairs (a0 M)) r0
theorem NR{f:b0->g}:jG k L n G d0 f [] [] [] (bH c []):=by
 refine λu0=>(cW (λ_=>[]) (λ_=>rfl) (λ_=>rfl) (λU Q M F b C D H J Y g0 m=>?_))
 dsimp only[tP]at m
 exact evalPairs_nil (m.g (t:=H.toks) J.c (cW [] trivial rfl (by simp only[Ip,cA,cB])))
theorem NS{f:b0->g}{w:aa}{w0:b0}{e0:List b0}{x:List (Option aa)}{T:aa}{y:List aa}{Z:Mine.Internal.ar}{y0:List Mine.Internal.ar}(q0:oH k L n G d0 w (f w0))(h0:aE k L n G T (ag c Z))(h:jG k L n G d0 f e0 x y (bH c y0)):
 jG k L n G d0 f (w0::e0) (a w::x) (T::y) (bH c (Z::y0)):=by
 intro u0
 refine dP (h u0) λa0 E N h3=>?_
 refine(cW (λM=>(bP w M,do let Z<-bP T M;jd u0;bI Z)::a0 M) (λM=>?_) (λM=>by rw[fi,fi,N]) (λU Q M F b C D H J Y g0 m=>?_))
 ·rw[dX,<-E];rfl
 ·dsimp only[xn]at m
  refine evalPairs_cons (q0 U Q M F b C D H J _ _ λe t j=>?_)
  have u1:bq k L n U Q M G F b C D ({H with toks:=t}:ay).heap:=J
  have p:aB k Q F C D {H with toks:=t} (rZ k d0 f (w0::e0) F) ((ag c Z b C).e λT C=>(bH c y0 b C).e λX C=>.b (T::X) C) Y g0:=by
   revert m
   cases(ag c Z b C).e λT C=>(bH c y0 b C).e λX C=>au.b (T::X) C<;>exact λz=>z
  refine bk (h0 U Q M F b C D {H with toks:=t} u1 _ _ (aB.y p u1.c λm0 S0 V U0 H0 M0 _ n0 R0 Q0 R=>?_))
  refine bk (qV (cJ ?_))
  have r0:=u1.p0 R0 n0
  refine h3 U Q M F b S0 U0 {H with heap:=H0,toks:=M0} r0 _ _ (aB.y R n0 λX Y0 i T0 P E0 _ N0 O0 e1 c0=>?_)
  refine dP (e1) λo0 c1 c2 I=>?_
  refine c0.g (H:={H with heap:=P,toks:=E0}) (t:=E0) N0 (cW ((f w0,V)::o0) ⟨j,rfl,c1⟩ (by rw[dX,dX,c2]) ?_)
  simp only[dX,cA,cB]
  exact(bU _ _ rfl (aC.b O0 n0 (cM _) r0.d.d _ _ Q0) I)
theorem NT{D:Nat->Option ai}{F:ai->Prop}{h:aG}{f:b0->g}:∀{e0:List b0}{X:List A}{o0:List (g×aj)},o0.map (·.1)=e0.map f->aJ k D F h X (o0.map (·.2))->bT k D F h f (e0.zip X) o0:=by
 intro J
 induction J with
 |nil=>
  intro X o0 e _
  induction o0 using bL with
  |nil=>induction X using bL<;>exact rfl
  |cons _ _=>cases e
 |cons w e0 U=>
  intro X o0 e r
  induction o0 using bL with
  |nil=>cases e
  |cons V o0=>
   rw[dX,dX,List.cons.injEq]at e
   induction X using bL with
   |nil=>simp only[dX,cA,cB]at r;cases r
   |cons T X=>
    simp only[dX,cA,cB]at r
    refine de (r) λm0 d0 e2 E N=>?_
    clear r;rw[List.cons.injEq]at e2
    obtain⟨rfl,rfl⟩:=e2
    refine(bU V.2 o0 ?_ E (U e.2 N))
    clear U E N;obtain⟨S,p⟩:=V
    simp only at e⊢
    rw[e.1]
theorem Ds{f:b0->g}{e0:List b0}{x:List (Option aa)}{y:List aa}{y0:List Mine.Internal.ar}{u0:aH}{X:List (b0×A)->bM}{r0:ah->j->au A}(T:∀D F h S l,fE k D F h S (X l)↔∃o0,h.DictOf d0 S o0/\bT k D F h f l o0)(w0:∀b C,r0 b C=(bH c y0 b C).e λI0 C=>if I0.length=e0.length then .b (.d C.b) (C.e (X (e0.zip I0)))else .d)(p0:jG k L n G d0 f e0 x y (bH c y0))(n0:e0≠[])(Y0:e0.length<=15)(V:(e0.map f).Nodup):aE k L n G (rd x y u0) r0:=by
 intro U Q M F b C D H J Y g0 m
 rw[w0]at m
 refine dP (p0 u0) λa0 p1 p2 P=>?_
 refine wpAny_Dict_pairs (knd:=d0) (p1 M) (λz=>n0 (wH (by rw[<-p2 M,z];rfl))) (by rw[p2];exact Y0) ?_
 have w1:=fT H.heap
 have K1:bq k L n U Q M G (cD F H.heap.objs.size) b C D (H.heap.push {cls:=aK "dict",data:=eo #[]}):=J.c1 rfl
 have m0:∀p o,H.heap.get? p=a o->(H.heap.push {cls:=aK "dict",data:=eo #[]}).get? p=a o:=λ_ _ z=>cc _ z
 have c0:aZ k (bx Q) bV C D H.heap C D (H.heap.push {cls:=aK "dict",data:=eo #[]}):=iO m0
 have f0:∀r,D r≠a H.heap.objs.size:=λr j0=>J.c.f r _ j0 w1
 have i0:H.heap.objs.size≠k.e:=λz=>by refine aA (J.c.e) λZ0 p0 _=>?_;rw[<-z,w1]at p0;exact bD p0
 have s0:k.d.get? H.heap.objs.size=ae:=by
  generalize q:k.d.get? H.heap.objs.size=x9;induction x9 with
  |none=>rfl
  |some o=>have:=J.c.c _ o q;exact ig w1 this
 have v0:H.heap.objs.size∉bx Q:=λB0=>by
  refine aA (lI.mp B0) λN0 C0 q1=>?_
  refine om (J.d N0 C0) λ_ s o t0 w E N _=>?_
  replace q1:=be E q1;subst q1
  exact ig w1 N
 refine P U Q M (cD F H.heap.objs.size) b C D {H with heap:=H.heap.push {cls:=aK "dict",data:=eo #[]}} K1 _ _ ?_
 generalize j0:bH c y0 b C=x9;induction x9 with
 |d=>rw[j0]at m;exact m
 |g O=>
  rw[j0]at m
  exact λe A0 u t B P0 q=>m e A0 u t (CY B) (c0.h0 P0 J.c) (q.b c0.g)
 |b I0 O=>
  rw[j0]at m
  intro i A0 u t B P0 R
  refine dP (R) λo0 c1 c2 I=>?_
  have d:aB k Q F C D H (bz k F) (if I0.length=e0.length then au.b (A.d O.b) (O.e (X (e0.zip I0)))else .d) Y g0:=m
  refine aB.N d ?_;clear d;intro k0 d
  have x0:=c0.h0 P0 J.c
  have Z:u.get? H.heap.objs.size=a {cls:=aK "dict",data:=eo #[]}:=(P0.V _ _ (jo rfl) (by rintro⟨r,j0,_⟩;exact f0 r j0) i0 (λz=>z)).1 v0
  have z0:∀r,A0 r≠a H.heap.objs.size:=P0.C0 (by rw[jo rfl];intro z;exact bR z) f0
  refine(cW o0 c1 (dY _ (#[]) 0 Z ⟨rfl,rfl,rfl⟩ rfl ⟨by intro e C0;simp at C0,.nil,IT⟩) (λN E0 l0=>?_))
  have k1:hG H.heap.objs.size u N:=l0
  rw[merged_nil_of_nodup o0 (by rw[c2];exact V)]at E0
  have S0:ej (cD F H.heap.objs.size) (λp=>p=H.heap.objs.size) u N:=⟨λp o W v=>(k1.2 p W).trans v,by rintro p rfl o v;(replace v:=be Z v;subst v);exact aI (aL (gL _ _ rfl))⟩
  have D0:N.get? H.heap.objs.size≠ae:=by refine gg (E0) λo t0 X0 v _=>?_;rw[v];intro z;exact bR z
  have R2:=oG B S0 ⟨λp W r j0=>by subst W;exact z0 r j0,λp W=>by subst W;exact s0,λz=>i0 z.symm⟩ λp _ W=>by subst W;exact D0
  have e2:=x0.u0 (E:=N) (M0:=λp=>p=H.heap.objs.size) S0.1 λp W=>W▸w1
  have q0:∀r S,A0 r=a S->r≠O.b:=λr S j0 z=>absurd (R2.g r S j0) (by rw[z];exact pg _)
  have h0:fE k (eZ A0 O.b H.heap.objs.size) F N H.heap.objs.size (X (e0.zip I0)):=(T _ _ _ _ _).mpr (aw o0 E0 (bT.d (rX q0) _ _ (NT c2 (aJ.g S0 _ _ I))))
  refine d _ _ N _ (xO R2 s0 (λz=>J.c.d _ z w1) h0) (xP e2 R2 w1) ?_
  simp only[du,dv,dw,dx,dy,dz,dA,dB,dC,dD]
  exact(aw _ rfl oy)
theorem NU{e0:List am}{x:List (Option aa)}{y:List aa}{y0:List Mine.Internal.ar}{u0:aH}(p0:jG k L n G (eR k.b k.c) am.b e0 x y (bH c y0))(n0:e0≠[])(Y0:e0.length<=15)(V:e0.Nodup):
 aE k L n G (rd x y u0) (ag c (.s e0 y0)):=
 Ds (f:=am.b) (X:=.b) (λD F h S l=>Iff.rfl) (λb C=>by dsimp only[Cf]) p0 n0 Y0 (List.pairwise_map.mpr (List.Pairwise.imp (λh e=>h (am.d e)) V))
theorem NV{e0:List (ak×Int)}{x:List (Option aa)}{y:List aa}{y0:List Mine.Internal.ar}{u0:aH}(p0:jG k L n G (tb k.b k.c) (λi=>i) (e0.map (·.2)) x y (bH c y0))(n0:e0≠[])(Y0:e0.length<=15)(V:(e0.map (·.2)).Nodup):
 aE k L n G (rd x y u0) (ag c (.U e0 y0)):=
 Ds (f:=λi=>i) (e0:=e0.map (·.2)) (X:=.d) (λD F h S l=>Iff.rfl) (λb C=>by simp only[Ks,bK]) p0 (by simpa using n0) (by simpa using Y0) (by rw[mx];exact V)
theorem NW{u0:aH}:aE k L n G (rd [] [] u0) (ag c (.s [] [])):=by
 intro U Q M F b C D H J Y g0 m
 dsimp only[Cf,tP]at m
 have d:aB k Q F C D H (bz k F) (.b (.d C.b) (C.e (.b []))) Y g0:=m
 refine wpAny_Dict_empty ?_
 refine d.e0 J.c (t:=H.toks) (λI o z=>cc _ z) (fT _) (aw [] (dY _ (#[]) 0 (jo rfl) ⟨rfl,rfl,rfl⟩ rfl ⟨by intro e C0;simp at C0,.nil,IT⟩) rfl) (by simp only[du,dv,dw,dx,dy,dz,dA,dB,dC,dD];exact(aw _ rfl oy))
end
end Mine.Internal
set_option tactic.hygienic true
namespace Mine.Internal
open PySem PySem.W PySem.Calls PyProof.Rows
noncomputable def Dt(k:aU)(F:ai->Prop)(D:Nat->Option ai)(h:aG):bA->jf->Prop
 |.b,f=>f=eF
 |.d,f=>f=wJ
 |.c T,f=>∃G0,f=jy G0/\aC k D F h T G0
noncomputable def cV(k:aU)(L:Bool)(n:Nat)(U:bo)(Q:List aN)(M:aN)(G:aV)(F:ai->Prop)(C:j)(D:Nat->Option ai)(H:ay)(r:au (bA×ah))(Y:jf->ay->Prop)(g0:aj->ay->Prop):Prop:=match r with
 |.b V O=>∀i0 A0 u t,bq k L n U Q M G F V.2 O A0 u->aZ k (bx Q) (eM M) C D H.heap O A0 u->Dt k F A0 u V.1 i0->Y i0 {H with heap:=u,toks:=t}
 |.g O=>∀e A0 u t,bj k A0 F O u->aZ k (bx Q) (eM M) C D H.heap O A0 u->iP k A0 u Q->jk k Q A0 H.heap e u->g0 (ax e) {H with heap:=u,toks:=t}
 |.d=>False
section
variable{k:aU}{L:Bool}{n:Nat}{U:bo}{Q:List aN}{M:aN}{G:aV}{F:ai->Prop}{C:j}{D:Nat->Option ai}{H:ay}{Y:jf->ay->Prop}{g0:aj->ay->Prop}{o:Option bM}{I i:Prop}[Decidable I]{r:au (bA×ah)}
theorem cV.z{f:List A->au (bA×ah)}(m:cV k L n U Q M G F C D H (match o with|some (.c l)=>f l|_=>.d) Y g0)(w:∀l,o=a (.c l)->cV k L n U Q M G F C D H (f l) Y g0->i):i:=by
 induction o with
 |none=>exact m.elim
 |some o=>induction o with
  |c l=>exact w l rfl m
  |_=>exact m.elim
theorem cV.y{f:List (am×A)->au (bA×ah)}(m:cV k L n U Q M G F C D H (match o with|some (.b l)=>f l|_=>.d) Y g0)(w:∀l,o=a (.b l)->cV k L n U Q M G F C D H (f l) Y g0->i):i:=by
 induction o with
 |none=>exact m.elim
 |some o=>induction o with
  |b l=>exact w l rfl m
  |_=>exact m.elim
theorem cV.p(m:cV k L n U Q M G F C D H (if I then r else .d) Y g0)(w:I->cV k L n U Q M G F C D H r Y g0->i):i:=by
 by_cases h:I
 ·rw[if_pos h]at m;exact w h m
 ·rw[if_neg h]at m;exact m.elim
end
noncomputable def sb(k:aU)(L:Bool)(n:Nat)(G:aV)(t:aN->gu jf)(f:ah->j->au (bA×ah)):Prop:=
 ∀(U:bo)(Q:List aN)(M:aN)(F:ai->Prop)(b:ah)(C:j)(D:Nat->Option ai)(H:ay),bq k L n U Q M G F b C D H.heap->
  ∀(Y:jf->ay->Prop)(g0:aj->ay->Prop),cV k L n U Q M G F C D H (f b C) Y g0->aR (aQ k.b k.c) U (t M) Y g0 H
section
variable{k:aU}{L:Bool}{n:Nat}{U:bo}{Q:List aN}{M:aN}{G:aV}{F:ai->Prop}{b:ah}{C O:j}{D A0:Nat->Option ai}{H:ay}{h u:aG}{g0:aj->ay->Prop}{Y:jf->ay->Prop}{c:v}
theorem aZ.toar(e:aZ k (bx Q) bV C D h O A0 u):aZ k (bx Q) (eM M) C D h O A0 u:=e.N0 λ_ _ _ z=>z.elim
theorem aZ.a0{Y0:j}{T0:Nat->Option ai}{P:aG}(S:aZ k (bx Q) (eM M) C D h O A0 u)(p:aZ k (bx Q) (eM M) O A0 u Y0 T0 P)(R:bj k D F C h):aZ k (bx Q) (eM M) C D h Y0 T0 P:=
 S.trans p R λp o c _ z=>z
theorem cV.g{c s:Type}{E:(Nat->Option ai)->aG->c->s->Prop}{r:au c}{w:c->j->au (bA×ah)}{V:s->ay->Prop}(m:cV k L n U Q M G F C D H (r.e w) Y g0)(R:bj k D F C H.heap)(I:iP k D H.heap Q)(l0:∀T O G0 A0 u t,r=.b T O->bj k A0 F O u->aZ k (bx Q) bV C D H.heap O A0 u->E A0 u T G0->cV k L n U Q M G F O A0 {H with heap:=u,toks:=t} (w T O) Y g0->V G0 {H with heap:=u,toks:=t}):
 aB k Q F C D H E r V g0:=by
 induction r with
 |d=>exact m
 |g O=>exact λe A0 u t B P0 q=>m e A0 u t B P0.toar (I.g P0 R) q
 |b T O=>
  intro G0 A0 u t B e j0
  refine l0 T O G0 A0 u t rfl B e j0 ?_
  have d:cV k L n U Q M G F C D H (w T O) Y g0:=m
  generalize q0:w T O=x9;induction x9 with
  |d=>rw[q0]at d;exact d
  |b d0 Y0=>rw[q0]at d;exact λG0 T0 P a1 N0 O0 q=>d G0 T0 P a1 N0 (e.toar.a0 O0 R) q
  |g Y0=>rw[q0]at d;exact λS T0 P a1 N0 O0 N q=>d S T0 P a1 N0 (e.toar.a0 O0 R) N (q.b e.g)
theorem aZ.v0:aZ k (bx Q) (eM M) C D h C D h:=aZ.K0 ..
theorem NX(J:bq k L n U Q M G F b C D h):(M.scope.kind==.class||(M.scope.kind==.module&&M.locals !=M.globals))=av:=by rw[J.kind];rfl
theorem xV(J:bq k L n U Q M G F b C D h):Bj M=av:=by unfold Bj;rw[J.kind];rfl
noncomputable abbrev gF(k:aU)(L:Bool)(n:Nat)(G:aV)(p:List x)(f:ah->j->au (bA×ah)):Prop:=sb k L n G (wK p) f
noncomputable abbrev bN(k:aU)(L:Bool)(n:Nat)(G:aV)(p:x)(f:ah->j->au (bA×ah)):Prop:=sb k L n G (exec p) f
theorem NY:gF k L n G [] (aO c []):=by
 intro U Q M F b C D H J Y g0 m
 dsimp only[Lg]at m
 exact pM (m eF D H.heap H.toks J aZ.v0 rfl)
theorem NZ{p:x}{a0:List x}{Z:Mine.Internal.aT}{y0:List Mine.Internal.aT}(h:bN k L n G p (bb c Z))(l0:gF k L n G a0 (aO c y0)):gF k L n G (p::a0) (aO c (Z::y0)):=by
 intro U Q M F b C D H J Y g0 m
 dsimp only[xo]at m
 refine rg (h U Q M F b C D H J _ g0 ?_)
 generalize j0:bb c Z b C=x9;induction x9 with
 |d=>rw[j0]at m;exact m
 |g O=>rw[j0]at m;exact m
 |b V O=>
  rw[j0]at m
  intro i0 A0 u t f1 P0 q
  obtain⟨f,o0⟩:=V
  induction f with
  |b=>
   obtain rfl:i0=eF:=q
   refine l0 U Q M F o0 O A0 {H with heap:=u,toks:=t} f1 Y g0 ?_
   have d:cV k L n U Q M G F C D H (aO c y0 o0 O) Y g0:=m
   generalize q0:aO c y0 o0 O=x9;induction x9 with
   |d=>rw[q0]at d;exact d
   |b d0 Y0=>rw[q0]at d;exact λG0 T0 P a1 N0 O0 q=>d G0 T0 P a1 N0 (P0.a0 O0 J.c) q
   |g Y0=>rw[q0]at d;exact λS T0 P a1 N0 O0 N q=>d S T0 P a1 N0 (P0.a0 O0 J.c) N (q.b P0.g)
  |d=>
   obtain rfl:i0=wJ:=q
   exact m wJ A0 u t f1 P0 rfl
  |c T=>
   refine aA (q) λG0 J0 h0=>?_;obtain rfl:=J0
   exact m (jy G0) A0 u t f1 P0 (aw G0 rfl h0)
theorem Oa{u0:aH}:bN k L n G (.Pass u0) (bb c .H):=by
 intro U Q M F b C D H J Y g0 m
 dsimp only[KN]at m
 exact wpAny_Pass (m eF D H.heap H.toks J aZ.v0 rfl)
theorem Ob{u0:aH}:bN k L n G (Jb u0) (bb c .E):=by
 intro U Q M F b C D H J Y g0 m
 dsimp only[KP]at m
 exact wpAny_Continue (m wJ D H.heap H.toks J aZ.v0 rfl)
theorem Oc{p:List x}{y0:List Mine.Internal.aT}:gF k L n G p (aO c (.s::y0)):=by
 intro U Q M F b C D H J Y g0 m
 dsimp only[xo,KO]at m
 exact m.elim
theorem Od{e:aa}{Z:Mine.Internal.ar}{u0:aH}(C0:aE k L n G e (ag c Z))(l0:∀l M,gB e ae l M=bI av):bN k L n G (rj e u0) (bb c (.m Z)):=by
 intro U Q M F b C D H J Y g0 m
 dsimp only[KQ]at m
 refine wpAny_Expr (C0 U Q M F b C D H J _ _ (cV.g m J.c J.d λT S0 V U0 H0 M0 _ n0 R0 Q0 R=>?_)) (xV J) (l0 _ _)
 have r0:=J.p0 R0 n0
 induction T using A.casesOn<;>try exact R.elim
 ·rw[lU Q0];exact R eF U0 H0 M0 r0 aZ.v0 rfl
 ·obtain⟨t,rfl⟩:=cG Q0;exact R eF U0 H0 M0 r0 aZ.v0 rfl
theorem Oe{e:aa}{Z:Mine.Internal.ar}{u0:aH}(C0:aE k L n G e (ag c Z)):bN k L n G (Bk (a e) u0) (bb c (.b Z)):=by
 intro U Q M F b C D H J Y g0 m
 dsimp only[La]at m
 refine wpAny_Return_some (C0 U Q M F b C D H J _ _ (cV.g m J.c J.d λT S0 V U0 H0 M0 _ n0 R0 Q0 R=>?_))
 exact R (jy V) U0 H0 M0 (J.p0 R0 n0) aZ.v0 (aw V rfl Q0)
theorem Of{u0:aH}:bN k L n G (Bk ae u0) (bb c .L):=by
 intro U Q M F b C D H J Y g0 m
 dsimp only[Lb]at m
 exact wpAny_Return_none (m (jy aS) D H.heap H.toks J aZ.v0 (aw (aS) rfl ox))
theorem Og{I:aa}{S p:List x}{Z:Mine.Internal.ar}{t w0:List Mine.Internal.aT}{u0:aH}(e0:eb k L n G I (bJ c Z))(v0:gF k L n G S (aO c t))(W:gF k L n G p (aO c w0)):bN k L n G (.If I S p u0) (bb c (.c Z t w0)):=by
 intro U Q M F b C D H J Y g0 m
 dsimp only[KY]at m
 refine wpAny_If (e0 U Q M F b C D H J _ _ (cV.g m J.c J.d λT S0 V U0 H0 M0 _ n0 R0 Q0 R=>?_))
 obtain rfl:V=T:=Q0
 induction V with
 |true=>exact v0 U Q M F b S0 U0 {H with heap:=H0,toks:=M0} (J.p0 R0 n0) Y g0 R
 |false=>exact W U Q M F b S0 U0 {H with heap:=H0,toks:=M0} (J.p0 R0 n0) Y g0 R
theorem lZ{Z:ak}{T:A}{G0:aj}{Y:Unit->ay->Prop}(J:bq k L n U Q M G F b C D H.heap)(b0:G.lookup (an Z)=a .local)(h0:aC k D F H.heap T G0)(w:∀u t,bq k L n U Q M G F (b.c Z T) C D u->aZ k (bx Q) (eM M) C D H.heap C D u->Y () {H with heap:=u,toks:=t}):aR (aQ k.b k.c) U (storeName M (an Z) G0) Y g0 H:=by
 refine aA (J.r0) λa0 d1 e0=>?_
 have q0:M.kindOf (an Z)=a .local:=(kF J _).trans b0
 refine Wt q0 d1 (λu j l0=>?_) (NX J)
 obtain⟨f1,P0⟩:=J.f1 q0 h0 d1 e0 j l0
 exact w u _ f1 P0
theorem Oh{S:aa}{Z:ak}{e:Mine.Internal.ar}{o0 u0:aH}(b0:G.lookup (an Z)=a .local)(C0:aE k L n G S (ag c e))(l0:∀M,gB S (a (aY (an Z) o0)) u0.line M=bI av):
 bN k L n G (gc [aY (an Z) o0] S u0) (bb c (.d Z e)):=by
 intro U Q M F b C D H J Y g0 m
 dsimp only[Ci]at m
 refine Bl (C0 U Q M F b C D H J _ _ (cV.g m J.c J.d λT S0 V U0 H0 M0 _ n0 R0 Q0 R=>?_)) (l0 M)
 exact lZ (H:={H with heap:=H0,toks:=M0}) (J.p0 R0 n0) b0 Q0 λu t f1 P0=>R eF U0 u t f1 P0 rfl
theorem Oi{S:aa}{Z:ak}{e:Mine.Internal.ar}{o0 u0:aH}(b0:G.lookup (an Z)=a dh)(C0:aE k L n G S (ag c e))(l0:∀M,gB S (a (aY (an Z) o0)) u0.line M=bI av):
 bN k L n G (gc [aY (an Z) o0] S u0) (bb c (.F Z e)):=by
 intro U Q M F b C D H J Y g0 m
 dsimp only[KR]at m
 refine Bl (C0 U Q M F b C D H J _ _ (cV.g m J.c J.d λT S0 V U0 H0 M0 _ n0 R0 Q0 R=>?_)) (l0 M)
 have r0:=J.p0 R0 n0
 generalize k0:b Z=x9;induction x9 with
 |some d0=>rw[k0]at R;exact R.elim
 |none=>
  rw[k0]at R
  have q0:M.kindOf (an Z)=a dh:=(kF J _).trans b0
  refine lh (r0.x0 Z q0 k0) λI e0 X c0 v0 B0=>?_
  refine Wz (s:={H with heap:=H0,toks:=M0}) J.kind q0 e0 X λu j k1=>?_
  obtain⟨f1,P0⟩:=r0.a1 k0 q0 e0 X c0 v0 B0 Q0 j k1
  exact R eF U0 u M0 f1 P0 rfl
theorem Du{S:aa}{Z:ak}{e:Mine.Internal.ar}{o:gh}{s:mu}{o0 u0:aH}(b0:G.lookup (an Z)=a .local)(C0:aE k L n G S (ag c e))(h:∀(U:bo)(Q:List aN)(F:ai->Prop)(C:j)(D:Nat->Option ai)(H:ay)(i B:Int)(t m0:jv)(Y:aj->ay->Prop)(g0:aj->ay->Prop),bZ k L n U Q F C D H.heap->
   aB k Q F C D H (bz k F) (ew C o (.b i) (.b B)) Y g0->aR (aQ k.b k.c) U (Jc s (cI i t) (cI B m0)) Y g0 H):
 bN k L n G (Bm (aY (an Z) o0) s S u0) (bb c (.u Z o e)):=by
 intro U Q M F b C D H J Y g0 m
 dsimp only[KW]at m
 generalize k0:b Z=x9;induction x9 with
 |none=>rw[k0]at m;exact m.elim
 |some d0=>
  rw[k0]at m
  induction d0 using A.casesOn<;>try exact m.elim
  rename_i i
  dsimp only at m
  have q0:M.kindOf (an Z)=a .local:=(kF J _).trans b0
  refine aA (J.r0) λa0 d1 e0=>?_
  refine aA (e0 Z _ k0) λG0 j0 K0=>?_
  obtain⟨t,rfl⟩:=cG j0
  rcases K0 with⟨_,O⟩|⟨E,_⟩
  ·refine wpAny_AugAssign_Name (tc J.kind q0 d1 O ?_)
   refine C0 U Q M F b C D H J _ _ (cV.g m J.c J.d λT S0 V U0 H0 M0 _ n0 R0 Q0 R=>?_)
   have r0:=J.p0 R0 n0
   obtain⟨B,rfl⟩:∃B,T=.b B:=by induction T using A.casesOn<;>first|exact⟨_,rfl⟩|exact R.elim
   obtain⟨m0,rfl⟩:=cG Q0
   refine h U Q F S0 U0 {H with heap:=H0,toks:=M0} i B t m0 _ _ r0.tobZ (cV.g R n0 r0.d λT Y0 V T0 P E0 _ N0 O0 e1 c0=>?_)
   exact lZ (H:={H with heap:=P,toks:=E0}) (r0.p0 O0 N0) b0 e1 λu t f1 P0=>c0 eF T0 u t f1 P0 rfl
  ·rw[q0]at E;rcases E with z|z<;>cases z
theorem Oj(L0:cn k){o S:aa}{X:ak}{Z e:Mine.Internal.ar}{s u0:aH}(C0:aE k L n G S (ag c e))(v:aE k L n G o (ag c Z))(l0:∀M,gB S (a (iu o (an X) s)) u0.line M=bI av):
 bN k L n G (gc [iu o (an X) s] S u0) (bb c (.g Z X e)):=by
 intro U Q M F b C D H J Y g0 m
 dsimp only[KT]at m
 refine WA (C0 U Q M F b C D H J _ _ (cV.g m J.c J.d λT S0 V U0 H0 M0 _ n0 R0 Q0 R=>?_)) (l0 M)
 have r0:=J.p0 R0 n0
 refine v U Q M F b S0 U0 {H with heap:=H0,toks:=M0} r0 _ _ (cV.g R n0 r0.d λg Y0 q T0 P E0 _ N0 O0 e1 c0=>?_)
 have a0:=r0.p0 O0 N0
 obtain⟨I,r,rfl⟩:∃I r,g=.h I r:=by induction g using A.casesOn<;>first|exact(gL _ _ rfl)|exact c0.elim
 dsimp only at c0
 refine c0.p ?_;clear c0;intro e0 c0
 refine c0.y ?_;clear c0;intro l w0 c0
 refine c0.p ?_;clear c0;intro k0 c0
 refine LS (Q:=Q) (H:={H with heap:=P,toks:=E0}) L0 N0 e0 e1 w0 (aC.b O0 n0 (cM _) r0.d.d _ _ Q0) k0 λG0 A0 u t B P0 _=>?_
 exact c0 eF A0 u t (a0.p0 P0 B) P0.toar rfl
theorem Ok{o i S:aa}{Z y e:Mine.Internal.ar}{h u0:aH}(C0:aE k L n G S (ag c e))(v:aE k L n G o (ag c Z))(f0:aE k L n G i (ag c y))(l0:∀M,gB S (a (pD o i h)) u0.line M=bI av):
 bN k L n G (gc [pD o i h] S u0) (bb c (.l Z y e)):=by
 intro U Q M F b C D H J Y g0 m
 dsimp only[KU]at m
 refine wpAny_Assign_Subscript (C0 U Q M F b C D H J _ _ (cV.g m J.c J.d λT S0 V U0 H0 M0 N n0 R0 Q0 R=>?_)) (l0 M)
 have r0:=J.p0 R0 n0
 refine v U Q M F b S0 U0 {H with heap:=H0,toks:=M0} r0 _ _ (cV.g R n0 r0.d λg Y0 q T0 P E0 m0 N0 O0 e1 c0=>?_)
 have a0:=r0.p0 O0 N0
 refine f0 U Q M F b Y0 T0 {H with heap:=P,toks:=E0} a0 _ _ (cV.g c0 N0 a0.d λw d z0 b0 O p0 s0 f j0 q0 I=>?_)
 have d0:=a0.p0 j0 f
 have h0:=aC.b j0 N0 (cM _) a0.d.d _ _ e1
 have W0:=aC.b j0 N0 (cM _) a0.d.d _ _ (aC.b O0 n0 (cM _) r0.d.d _ _ Q0)
 clear N m0 s0
 induction g using A.casesOn<;>try exact I.elim
 rename_i r
 refine aA (eT h0) λW J0 x=>?_;obtain rfl:=J0
 induction w using A.casesOn<;>try exact I.elim
 ·rename_i w
  obtain⟨D0,rfl⟩:=cG q0
  refine cV.z I ?_;clear I;intro l w0 I
  refine cV.p I ?_;clear I;intro s I
  refine hV (f.b _ _ w0) λI0 X j e0 v0 p=>?_
  replace X:=be x X;subst X
  have l1:=p.b
  rw[fq]at l1
  refine ki_setAt (s:={H with heap:=O,toks:=p0}) v0 s.1 (fo (fo s.2.1 (dO.mpr s.2.2)) (by decide)) (fo s.2.1 (dO.mpr (bw l1.symm))) ?_
  have k0:=AO O W (nW λy0=>y0.setIfInBounds w.toNat V)
  have v:(O.update W (nW λy0=>y0.setIfInBounds w.toNat V)).get? W=a (cO (j.setIfInBounds w.toNat V) (if(j.setIfInBounds w.toNat V).size==j.size then e0 else e0+1)):=mw _ v0 rfl
  have t:(O.update W (nW λy0=>y0.setIfInBounds w.toNat V)).get? W≠ae:=by rw[v];intro z;exact bR z
  have e:aZ k (bx Q) bV d b0 O (d.d r (.c (l.set w.toNat T))) b0 _:=ow f x w0 k0 t
  have B:bj k b0 F (d.d r (.c (l.set w.toNat T))) _:=xw f x w0 k0 (dK _ _ v (by
   rw[Array.toList_setIfInBounds]
   exact aJ.J0 (aC.b e f (cM _) d0.d.d _ _ W0) _ (aJ.m e f (cM _) d0.d.d _ _ p)))
  exact I eF b0 _ p0 (d0.p0 e B) e.toar rfl
 ·rename_i w
  obtain⟨D0,rfl⟩:=fy q0
  refine cV.y I ?_;clear I;intro l w0 I
  refine cV.p I ?_;clear I;intro s I
  refine jB (f.b _ _ w0) λI0 X o0 i0 x0=>?_
  replace X:=be x X;subst X
  refine wpAny_setItem_pairs (s:={H with heap:=O,toks:=p0}) (pq k.b k.c w.b D0) i0 (λu E k1=>?_) (by rw[ga];have:=x0.length;exact az (az (bw this) s) (by decide))
  have k0:hG W O u:=k1
  have t:u.get? W≠ae:=by refine gg (E) λo t0 X0 v _=>?_;rw[v];intro z;exact bR z
  have e:aZ k (bx Q) bV d b0 O (d.d r (.b (bv l w T))) b0 u:=ow f x w0 k0 t
  have B:bj k b0 F (d.d r (.b (bv l w T))) u:=xw f x w0 k0 (aw _ E (bT.m (aC.b e f (cM _) d0.d.d _ _ W0) (bT.b e f (cM _) d0.d.d _ _ x0)))
  exact I eF b0 u _ (d0.p0 e B) e.toar rfl
end
end Mine.Internal
set_option tactic.hygienic false
namespace Mine.Internal
open PySem PySem.W PySem.Calls PyProof.Rows
section
variable{k:aU}{L:Bool}{n:Nat}{U:bo}{Q:List aN}{M:aN}{G:aV}{F:ai->Prop}{b:ah}{C O:j}{D A0:Nat->Option ai}{H:ay}{h u:aG}{g0:aj->ay->Prop}{Y:jf->ay->Prop}{c:v}
inductive ma:List aa->List ak->Prop
 |d:ma [] []
 |e {Z:aD} {y:ak} {V:aH} {t0:List aa} {y0:List ak}:Z=an y->ma t0 y0->ma (aY Z V::t0) (y::y0)
theorem se(J:bq k L n U Q M G F b C D h):lS (eM M) h:=by
 intro p o v b0
 rcases b0 with rfl|⟨z0,_⟩
 ·refine aA (J.r0) λa0 J0 _=>?_;obtain⟨U0,t0,X0,P0,z0,_⟩:=J0
  replace P0:=be v P0;subst P0
  exact aL (gL t0 X0 z0)
 ·exact aI z0
theorem Dv:∀{z:List aa}{y0:List ak}{l:List A}{B:List aj}{b o0:ah}{H:ay}{Y:Unit->ay->Prop},ma z y0->(∀Z∈y0,G.lookup (an Z)=a .local)->bq k L n U Q M G F b C D H.heap->aJ k D F H.heap l B->fD y0 l b=a o0->
 (∀u t,bq k L n U Q M G F o0 C D u->aZ k (bx Q) (eM M) C D H.heap C D u->Y () {H with heap:=u,toks:=t})->aR (aQ k.b k.c) U (Jd ((tv z M).map (·.2)) B) Y g0 H
 |_,_,l,B,b,o0,H,Y,.d,_,J,j0,W,w=>by
  induction l using bL with
  |nil=>
   replace W:=bn W;subst W
   show aR _ _ (Jd [] B) _ _ _
   exact cJ (w H.heap H.toks J aZ.v0)
  |cons _ _=>exact bD W
 |_,_,l,B,b,o0,H,Y,.e (y:=y) (y0:=y0) (V:=V) (t0:=t0) b0 F0,k0,J,j0,W,w=>by
  induction l using bL with
  |nil=>exact bD W
  |cons T l=>
   subst b0
   refine de (lW j0) λx r n0 E N=>?_;obtain rfl:=n0
   show aR _ _ (do ir r (tw (aY (an y) V) M x);Jd ((tv t0 M).map (·.2)) r) _ _ _
   refine bk (lL (Bf (lZ J (k0 y (et _)) E λu t f1 P0=>?_)))
   have O:=aJ.m P0 J.c (se J) J.d.d _ _ N
   have f0:fD y0 l (b.c y T)=a o0:=W
   exact Dv F0 (λZ b0=>k0 Z (gK _ b0)) (H:={H with heap:=u,toks:=t}) f1 O f0 λX a1 h I=>w X a1 h (P0.a0 I J.c)
theorem Dw:∀{z:List aa}{y0:List ak},ma z y0->(tv z M).length=y0.length/\(tv z M).findIdx? (·.1)=ae
 |_,_,.d=>⟨rfl,rfl⟩
 |_,_,.e (Z:=Z) (V:=V) (t0:=t0) b0 F0=>by
  have Y:=Dw F0
  have e:tv (aY Z V::t0) M=(av,tw (aY Z V) M)::tv t0 M:=rfl
  rw[e]
  refine⟨by rw[fi,fi,Y.1],?_⟩
  rw[List.findIdx?_cons]
  simp only[pJ,if_false,Y.2,Option.map_none]
theorem Ol:∀{y0:List ak}{l:List A}{b o0:ah},fD y0 l b=a o0->l.length=y0.length:=by
 intro J
 induction J with
 |nil=>
  intro n
  induction n using bL with
  |nil=>
   intro _ _ _
   exact rfl
  |cons _ _=>
   intro _ _ h
   exact bD h
 |cons Z y0 U=>
  intro n
  induction n using bL with
  |nil=>
   intro _ _ h
   exact bD h
  |cons T l=>
   intro b o0 h
   rw[fi,fi,U h]
theorem Dx(T0:L=af){z:List aa}{y0:List ak}{w:Nat}{u0:aH}{l:List A}{V:aj}{o0:ah}{Y:Unit->ay->Prop}(F0:ma z y0)(k0:∀Z∈y0,G.lookup (an Z)=a .local)(J:bq k L n U Q M G F b C D H.heap)(j0:aC k D F H.heap (.e l) V)(W:fD y0 l b=a o0)(w0:∀u t,bq k L n U Q M G F o0 C D u->aZ k (bx Q) (eM M) C D H.heap C D u->Y () {H with heap:=u,toks:=t}):aR (aQ k.b k.c) U (tw (gx z w u0) M V) Y g0 H:=by
 refine eJ (jl j0) λS j e0 V0 v0 f0=>?_;obtain rfl:=V0
 have l1:=f0.b
 rw[fq]at l1
 have p0:=Dw (M:=M) F0
 refine wpAny_assign_Tuple (J.i T0) (cW _ v0 rfl ⟨_,rfl⟩) (by rw[p0.1,l1,Ol W]) p0.2 λu C0=>?_
 have q0:∀p o,H.heap.get? p=a o->u.get? p=a o:=λp o v=>C0 p o (bC (jU v)) v
 refine Dv F0 k0 (H:={H with heap:=u}) (J.T0 q0) (aJ.s J.c q0 f0) W λX t f1 P0=>w0 X t f1 ((iO q0).toar.a0 P0 J.c)
theorem Om(T0:L=af){z:List aa}{y0:List ak}{w:Nat}{B u0:aH}{S:aa}{e:Mine.Internal.ar}(F0:ma z y0)(k0:∀Z∈y0,G.lookup (an Z)=a .local)(C0:aE k L n G S (ag c e))(l0:∀M,Je [gx z w B] S u0.line M=bI av)(K0:∀M,wL [gx z w B] S M=bI ae):bN k L n G (gc [gx z w B] S u0) (bb c (.q y0 e)):=by
 intro U Q M F b C D H J Y g0 m
 dsimp only[Cj]at m
 refine Assign_Tuple (C0 U Q M F b C D H J _ _ (cV.g m J.c J.d λT S0 V U0 H0 M0 I n0 R0 Q0 R=>?_)) (l0 M) (K0 M)
 have r0:=J.p0 R0 n0
 clear I
 obtain⟨l,rfl⟩:∃l,T=.e l:=by induction T using A.casesOn<;>first|exact⟨_,rfl⟩|exact R.elim
 unfold ot at R
 dsimp only at R
 generalize W:fD y0 l b=x9;induction x9 with
 |none=>rw[W]at R;exact R.elim
 |some o0=>
  rw[W]at R
  exact Dx T0 (H:={H with heap:=H0,toks:=M0}) F0 k0 r0 Q0 W λu t f1 P0=>R eF U0 u t f1 P0 rfl
theorem On{Z y:ak}{S p:A}(h:Z≠y):(b.c Z S).c y p=(b.c y p).c Z S:=by
 funext z
 simp only[ah.e]
 by_cases e1:z=y
 ·subst e1;rw[if_pos rfl,if_neg (iJ h),if_pos rfl]
 ·rw[if_neg e1]
  by_cases e2:z=Z
  ·subst e2;rw[if_pos rfl,if_pos rfl]
  ·rw[if_neg e2,if_neg e2,if_neg e1]
theorem Oo(T0:L=af){z:List aa}{Z y:ak}{w:Nat}{B u0:aH}{S:aa}{e:Mine.Internal.ar}(r:Z≠y)(b0:G.lookup (an Z)=a .local)(E0:G.lookup (an y)=a .local)(C0:aE k L n G S (ag c e))(l0:∀M,Je [gx z w B] S u0.line M=bI av)(K0:∀M,M.scope.kind=hH->M.scope.names=G->wL [gx z w B] S M=bI (a [an Z,an y])):bN k L n G (gc [gx z w B] S u0) (bb c (.q [Z,y] e)):=by
 intro U Q M F b C D H J Y g0 m
 dsimp only[Cj]at m
 refine Assign_Tuple_swapped (C0 U Q M F b C D H J _ _ (cV.g m J.c J.d λT S0 V U0 H0 M0 I n0 R0 Q0 R=>?_)) (l0 M) (K0 M J.kind J.names)
 have r0:=J.p0 R0 n0
 clear I
 obtain⟨l,rfl⟩:∃l,T=.e l:=by induction T using A.casesOn<;>first|exact⟨_,rfl⟩|exact R.elim
 unfold ot at R
 dsimp only at R
 rcases l with _|⟨m0,_|⟨T,_|⟨d0,l⟩⟩⟩<;>try exact R.elim
 refine eJ (jl Q0) λW j e0 V0 v0 f0=>?_;obtain rfl:=V0
 have l1:=f0.b
 rw[fq]at l1
 have G1:([an Z,an y]:List aD).length=j.size:=by rw[l1];rfl
 rw[G1]
 refine wpAny_unpackItems_tuple (s:={H with heap:=H0,toks:=M0}) (r0.i T0) (cW _ v0 rfl ⟨_,rfl⟩) λu C0=>?_
 have q0:∀p o,H0.get? p=a o->u.get? p=a o:=λp o v=>C0 p o (bC (jU v)) v
 have q:=aJ.s n0 q0 f0
 refine de (lW q) λt r1 e1 D0 x0=>?_
 refine de (lW x0) λx s e2 h0 h=>?_
 obtain rfl:=rV h
 subst e2
 rw[e1]
 show aR _ _ (do ir [t] (bindName M (an y) x);do ir [] (bindName M (an Z) t);bI ()) _ _ _
 refine bk (lL (WB (lZ (H:={H with heap:=u,toks:=M0}) (r0.T0 q0) E0 h0 λN t2 S2 O=>?_)))
 have f:=aC.b O (r0.T0 q0).c (se (r0.T0 q0)) (r0.T0 q0).d.d _ _ D0
 refine bk (lL (WB (lZ (H:={H with heap:=N,toks:=t2}) S2 b0 f λh3 t3 S3 g=>cJ ?_)))
 rw[On (iJ r)]at S3
 exact R eF U0 h3 t3 S3 ((iO q0).toar.a0 (O.a0 g (r0.T0 q0).c) n0) rfl
theorem Op(L0:cn k)(T0:L=af){K0 b1:aa}{Z y:ak}{j1 u0 o0 a1:aH}{k0:List aa}{f:fj}{e m0:Mine.Internal.ar}{I:List Mine.Internal.ar}{D0:List ak}(b0:G.lookup (an y)=a .local)(g:mS G f D0 Z)(c1:aE k L n G b1 (ag c m0))(J1:aE k L n (gE G f.names) K0 (ag c e))(P1:lX k L n (gE G f.names) k0 (di c I))(m1:∀M Z,pK b1 M Z=bI Z)(w0:∀M,M.scope.kind=hH->M.scope.names=G->gB (kp K0 [⟨aY (an Z) j1,b1,k0,0⟩] f u0) (a (aY (an y) o0)) a1.line M=bI af):
 bN k L n G (gc [aY (an y) o0] (kp K0 [⟨aY (an Z) j1,b1,k0,0⟩] f u0) a1) (bb c (.d y (.t e Z D0 m0 I))):=by
 intro U Q M F b C D H J Y g0 m
 dsimp only[Ci]at m
 rw[exec_Assign_Name_used _ _ _ _ (w0 M J.kind J.names),arm_evalThenUse_ListComp]
 refine bk (qV (bk (bk ?_)))
 have h:aB k Q F C D H (bz k F) (ag c (.t e Z D0 m0 I) b C) (λ_ _=>True) g0:=cV.g m J.c J.d λ_ _ _ _ _ _ _ _ _ _ _=>trivial
 refine Dr L0 T0 (F0:=a (tw (aY (an y) o0) M)) (e:=e) (m0:=m0) (I:=I) g c1 J1 P1 m1 J h λy0 g1 i0 x A0 u t a0 h0 f1 P0 W0 l1 O1 Y1 d1=>?_
 clear L0 T0 g c1 J1 P1 m1 w0 h Y1;rw[h0]at m
 have d:cV k L n U Q M G F C D H (.b (.b,b.c y (.k y0)) g1) Y g0:=m
 show aR _ _ (tw (aY (an y) o0) M (ax i0)) _ _ _
 have O:x≠M.locals:=λz=>by
  clear o0 b0 m t h0 f1 P0 W0 O1 d1 d;refine aA (J.r0) λa0 J0 _=>?_;obtain⟨o,t0,X0,v,_⟩:=J0
  clear J;rw[<-z,l1]at v;exact bD v
 refine Bf (lZ (H:={H with heap:=u,toks:=t}) f1 b0 W0 λN t2 S2 e2=>?_)
 have v1:k.d.get? x=ae:=by
  clear o0 b0 m h0 f1 P0 W0 O1 d1 d O t2 S2 e2;generalize q:k.d.get? x=x9;induction x9 with
  |none=>rfl
  |some o=>have:=J.c.c x o q;exact ig l1 this
 have o1:x≠k.e:=λz=>by refine aA (J.c.e) λZ0 p0 _=>?_;rw[<-z,l1]at p0;exact bD p0
 have L1:∀N0∈Q,∀s,N0.frame=a s->s≠x:=λN0 C0 s H0 z=>by
  clear o0 b0 m h0 f1 P0 W0 O1 d1 d O t2 S2 e2 v1 o1;refine om (J.d N0 C0) λ_ i1 o t0 w E N _=>?_
  clear J C0;replace E:=be H0 E;subst E;rw[z,l1]at N;exact bD N
 clear o0 b0 m h0 f1 W0;refine eJ (d1) λs1 t1 u1 M0 n0 V=>?_
 have S:N.get? x=a s1:=by
  refine(e2.V x s1 M0 (by rintro⟨r,j0,_⟩;exact O1 r j0) o1 (λz=>?_)).1 λB0=>?_
  ·clear I J P0 l1 O1 d1 d t2 S2 e2 v1 o1 L1 M0 V;rcases z with z|⟨z,_⟩
   ·exact O z
   ·clear O;(injection eY (fp n0) z;done)
  ·clear O n0;refine aA (lI.mp B0) λN0 C0 q1=>?_
   exact L1 N0 C0 x q1 rfl
 have X:=e2.C0 (by rw[M0];intro z;exact bR z) O1
 refine(aw a0 (jh s1 t1 u1 S n0 V) (λh3 Q1=>cJ (cJ ?_)))
 have K2:hG x N h3:=Q1
 clear O1 d1 M0 V Q1;have S0:ej F (λp=>p=x) N h3:=⟨λp o W v=>(K2.2 p W).trans v,by rintro p rfl o v;(replace v:=be S v;subst v);exact aI (aL (gL _ _ n0))⟩
 have S3:=S2.R0 S0 {b:=λp W r j0=>by subst W;exact X r j0,c:=λp W=>by subst W;exact v1,d:=λz=>o1 z.symm,e:=λz=>O z.symm,cell:=λI T⟨o,v,z0⟩z=>(by subst z;(replace v:=be S v;subst v);(injection eY (fp n0) z0;done)),f:=λN0 C0 s H0 z=>L1 N0 C0 s H0 z} λp W p1=>by subst p1;exact absurd l1 (J.c.d _ W)
 clear I O S2 v1 o1 L1 n0 S X K2;exact d eF A0 h3 t2 S3 ((P0.toar.a0 e2 J.c).I0 S0.1 λp W=>W▸l1) rfl
end
end Mine.Internal
set_option tactic.hygienic false
namespace Mine.Internal
open PySem PySem.W PySem.Calls PyProof.Rows
noncomputable def mT(k:aU)(D:Nat->Option ai)(n0:aG)(e:ai)(Z:aj)(h:aG):Prop:=
 ∃y X I c0 i e0,h.get? e=a y/\y.cls=ax k.g/\y.data=bO X/\X[0]?=a I/\n0.get? e=ae/\(∀r,D r≠a e)/\X[1]?=a (ax c0)/\c0≠e/\n0.get? c0=ae/\(∀r,D r≠a c0)/\
  h.get? c0=a i/\i.data=bO e0/\(∀q t,e0[1]?≠a (dG q t))/\e0[3]?=a Z
section
variable{k:aU}{Q:List aN}{W0:List ai}{O0:ai->cu->Prop}{F:ai->Prop}{m C:j}{d0 D:Nat->Option ai}{n0 h E:aG}{e:ai}{U:bo}{M:aN}{H:ay}{g0:aj->ay->Prop}{Z:aj}{s:ai}
theorem mT.b(S:mT k D n0 e Z h)(b0:Z=aS\/∃s,Q.head?.bind (·.frame)=a s/\Z=fh s):jk k Q D n0 e h:=by
 refine oj (S) λy X I c0 i e0 h1=>?_;refine BN h1 λE N h3 h4 h5 h6 U h8 B O T x g o=>?_;clear h1
 exact(dY y X I E N h3 ⟨h4,h5,h6,aI (iN c0 i e0 Z U h8 B ⟨O,T,x,g,o,b0⟩)⟩)
structure gT(k:aU)(Q:List aN)(O0:ai->cu->Prop)(F:ai->Prop)(m:j)(d0:Nat->Option ai)(n0:aG)(C:j)(D:Nat->Option ai)(e:ai)(h:aG):Prop where
 g:bj k D F C h
 d:aZ k (bx Q) O0 m d0 n0 C D h
 i:iP k D h Q
theorem aZ.Q0{M0:ai->Prop}(r1:aZ k W0 O0 m d0 n0 C D h)(w:∀p o,¬M0 p->h.get? p=a o->(p∉W0->E.get? p=a o)/\(p∈W0->∃c,E.get? p=a {o with slots:=c}))(J:∀p,M0 p->n0.get? p=ae):aZ k W0 O0 m d0 n0 C D E:=by
 have t:∀p o,n0.get? p=a o->¬M0 p:=λp o W y0=>by exact ig (J p y0) W
 refine⟨λp o v y0 f0 o0=>⟨λB0=>(w _ _ (t p o v) ((r1.V p o v y0 f0 o0).1 B0)).1 B0,λB0=>?_⟩,r1.c0,r1.i0,r1.m0,r1.r0,λp W=>?_⟩
 ·obtain⟨c,l0⟩:=(r1.V p o v y0 f0 o0).2 B0
  obtain⟨A,k1⟩:=(w _ _ (t p o v) l0).2 B0
  exact⟨A,k1⟩
 ·by_cases y0:M0 p
  ·exact J p y0
  ·refine r1.g p ?_
   generalize q:h.get? p=x9;induction x9 with
   |none=>rfl
   |some o=>
    by_cases B0:p∈W0
    ·obtain⟨c,l0⟩:=(w _ _ y0 q).2 B0
     exact fS l0 W
    ·exact fS ((w _ _ y0 q).1 B0) W
theorem gT.l{M0:ai->Prop}(f:gT k Q O0 F m d0 n0 C D e h)(b:bj k d0 F m n0)(w:∀p o,¬M0 p->h.get? p=a o->(p∉bx Q->E.get? p=a o)/\(p∈bx Q->∃c,E.get? p=a {o with slots:=c}))(J:∀p,M0 p->n0.get? p=ae/\(∀r,D r≠a p)/\E.get? p≠ae/\∀o,h.get? p=a o->∃X,o.data=bO X/\∀q t,X[1]?≠a (dG q t)):gT k Q O0 F m d0 n0 C D e E:=by
 have v1:∀p,n0.get? p=ae->k.d.get? p=ae:=λp W=>by
  generalize q:k.d.get? p=x9;induction x9 with
  |none=>rfl
  |some o=>have:=b.c p o q;exact ig W this
 have o1:∀p,n0.get? p=ae->p≠k.e:=λp W e=>by
  refine aA (b.e) λZ0 p0 _=>?_
  rw[e,p0]at W;exact bR W
 have H:∀p,p∈bx Q->k.d.get? p=ae/\(∀r,D r≠a p)/\p≠k.e/\∃o t0 n,h.get? p=a o/\o.data=eo t0 n:=λp W=>by
  refine aA (lI.mp W) λN0 C0 q1=>?_
  refine lR (f.i N0 C0) λ_ i1 o t0 w E N h3 h4 h5 h6=>?_
  replace q1:=be E q1;subst q1
  exact⟨h4,h5,h6,o,t0,w,N,h3⟩
 have M:∀p,p∈bx Q->¬M0 p:=λp W y0=>by
  refine xe (H p W) λ_ _ _ o t0 n v z0=>?_
  refine ol (J p y0) λ_ _ _ h4=>?_
  refine aA (h4 o v) λX h0 _=>?_
  injection eY (fp z0) h0;done
 refine⟨oG (M0:=λp=>M0 p\/p∈bx Q) f.g ⟨λp o W v=>(w p o (λz=>W (aL z)) v).1 λz=>W (aI z),λp W o v=>?_⟩ ⟨λp W=>?_,λp W=>?_,λW=>?_⟩ λp _ W=>?_,f.d.Q0 w λp W=>(J p W).1,λN0 C0=>?_⟩
 ·rcases W with W|W
  ·refine aA ((J p W).2.2.2 o v) λX h0 b0=>?_
   exact aI (aI (aL (aw X h0 b0)))
  ·refine xe (H p W) λ_ _ _ U0 t0 n P0 z0=>?_
   replace P0:=be v P0;subst P0
   exact aI (aL (gL t0 n z0))
 ·rcases W with W|W
  ·exact(J p W).2.1
  ·exact(H p W).2.1
 ·rcases W with W|W
  ·exact v1 p (J p W).1
  ·exact(H p W).1
 ·rcases W with W|W
  ·exact o1 _ (J _ W).1 rfl
  ·exact(H _ W).2.2.1 rfl
 ·rcases W with W|W
  ·exact(J p W).2.2.1
  ·refine xe (H p W) λ_ _ _ U0 t0 n P0 z0=>?_
   obtain⟨c,l0⟩:=(w p U0 (M p W) P0).2 W
   rw[l0];intro z;exact bR z
 ·refine lR (f.i N0 C0) λq0 i1 o t0 n g1 g2 g3 g4 T x=>?_
  have W:i1∈bx Q:=lI.mpr (aw N0 C0 g1)
  obtain⟨c,l0⟩:=(w i1 o (M _ W) g2).2 W
  exact⟨q0,i1,_,t0,n,g1,l0,g3,g4,T,x⟩
theorem iP.I:∀{Q:List aN},iP k D h Q->h.FunFrames k.d Q:=by
 intro J
 induction J with
 |nil=>
  intro _
  exact trivial
 |cons M i U=>
  intro f
  refine JO (f M (et _)) λq0 i1 o t0 n g1 g2 g3 g4 _=>?_
  exact⟨q0,(gM i1 o g1 g4 g2 (λX z=>by(injection eY (fp g3) z;done))),U λe C0=>f e (gK _ C0)⟩
theorem Oq{z:mz}{L0:aG}{Y:aj->ay->Prop}(l:U.frames=a Q)(w:Q.head?.bind (·.frame)=M.frame)(k0:H.heap.FunFrames L0 Q)(B0:M.frame=a s)(x0:∀u,aG.SlotsOnly (bx Q) H.heap u->Y (ax s) {H with heap:=u}):aR z U (Jf M) Y g0 H:=by
 unfold Jf
 refine bk (wpAny_frameEnvs l ?_)
 have B:(Q.dropWhile λZ=>Z.frame !=M.frame)=Q:=by
  induction Q using bL with
  |nil=>rfl
  |cons I r=>
   have:I.frame=M.frame:=w
   simp[List.dropWhile,this]
 rw[B]
 induction Q using bL with
 |nil=>rw[B0]at w;cases w
 |cons I r=>
  have e0:I.frame=a s:=by rw[<-B0,<-w];rfl
  unfold frameObject
  refine bk (bk (wpAny_readyFrames_fun k0 λH0 N=>cJ ?_))
  rw[e0]
  exact cJ (x0 H0 N)
theorem um{Y:Unit->ay->Prop}(l:U.frames=a Q)(w:Q.head?.bind (·.frame)=M.frame)(b:bj k d0 F m n0)(f:gT k Q O0 F m d0 n0 C D e H.heap)(S:jk k Q D n0 e H.heap)(B0:M.frame=a s)(x0:∀u,gT k Q O0 F m d0 n0 C D e u->mT k D n0 e (fh s) u->Y () {H with heap:=u}):aR (aQ k.b k.c) U (noteFrame (ax e) M) Y g0 H:=by
 refine rG (S) λy X I g1 g2 g3 g4 T x P=>?_
 have J:∀{c1:ay}{h:aj}{p:Bool},c1={H with heap:=c1.heap}->gT k Q O0 F m d0 n0 C D e c1.heap->c1.heap.get? e=a y->X[1]?=a h->(∀q t,h≠dG q t)->
  aR (aQ k.b k.c) U (do let S<-Jf M;let A0<-entryPlaceOf s p;let p<-EntryCells.newEntry h S aS (fh s) aS A0;setField (ax e) 1 p) Y g0 c1:=by
  intro c1 h p k1 A C0 T0 d1
  have G1:1<X.size:=(AU.mp T0).1
  refine bk (Oq l w A.i.I B0 λH0 N=>?_)
  refine bk (wpAny_entryPlaceOf λA0 J0=>?_)
  unfold EntryCells.newEntry newFields
  refine bk (pz ?_ (J0.sizeOk5 _ _ _ _ _))
  have p0:e∉bx Q:=λL=>by
   refine pT (A.i.d e L y C0) λt0 n z0=>?_
   injection eY (fp g3) z0;done
  have a0:H0.get? e=a y:=(N.2.1 e p0).trans C0
  have b0:H0.objs.size≠e:=fu (jU a0)
  have f0:=cc (h:=H0) {cls:=aK "traceback",dict:=ae,data:=bO ([h,ax s,aS,fh s,aS]++(if A0.isEmpty then cq 6 aS else A0)).toArray} a0
  have h0:=wM g3 (·.setIfInBounds 1 (ax H0.objs.size))
  have i0:=mw (jz (·.setIfInBounds 1 (ax H0.objs.size))) f0 (Bn h0)
  have q0:=(tx (H0.push {cls:=aK "traceback",dict:=ae,data:=bO ([h,ax s,aS,fh s,aS]++(if A0.isEmpty then cq 6 aS else A0)).toArray})
   (jz (·.setIfInBounds 1 (ax H0.objs.size))) (iJ b0)).trans (kW H0 rfl)
  refine Jg f0 g3 G1 ?_
  have r0:∀p,H0.get? p=ae->c1.heap.get? p=ae:=λp W=>by
   generalize q:c1.heap.get? p=x9;induction x9 with
   |none=>rfl
   |some o=>obtain⟨c,l0⟩:=N.2.2 p o q;exact fS l0 W
  have m0:c1.heap.get? H0.objs.size=ae:=r0 _ (nS (bS _))
  have g:∀p o,p≠e->H0.get? p=a o->((H0.push {cls:=aK "traceback",dict:=ae,data:=bO ([h,ax s,aS,fh s,aS]++(if A0.isEmpty then cq 6 aS else A0)).toArray}).update e (jz (·.setIfInBounds 1 (ax H0.objs.size)))).get? p=a o:=
   λp o s0 W=>by
    rw[tx _ _ (iJ s0)]
    exact cc _ W
  have u0:=A.l (E:=(H0.push {cls:=aK "traceback",dict:=ae,data:=bO ([h,ax s,aS,fh s,aS]++(if A0.isEmpty then cq 6 aS else A0)).toArray}).update e (jz (·.setIfInBounds 1 (ax H0.objs.size))))
   (M0:=λp=>p=e) b (λp o W v=>⟨λB0=>g p o W ((N.2.1 p B0).trans v),λB0=>let⟨c,l0⟩:=N.2.2 p o v;⟨c,g p _ W l0⟩⟩)
   (by rintro p rfl;exact⟨T,x,(by rw[i0];intro z;exact bR z),λo v=>by(replace v:=be C0 v;subst v);exact(aw X g3 (λq t z=>by rw[T0]at z;exact d1 q t (bn z)))⟩)
  have k0:({c1 with heap:=(H0.push {cls:=aK "traceback",dict:=ae,data:=bO ([h,ax s,aS,fh s,aS]++(if A0.isEmpty then cq 6 aS else A0)).toArray}).update e (jz (·.setIfInBounds 1 (ax H0.objs.size)))}:ay)={H with heap:=(H0.push {cls:=aK "traceback",dict:=ae,data:=bO ([h,ax s,aS,fh s,aS]++(if A0.isEmpty then cq 6 aS else A0)).toArray}).update e (jz (·.setIfInBounds 1 (ax H0.objs.size)))}:=by rw[k1]
  rw[k0]
  refine x0 _ u0 (lQ _ _ I H0.objs.size _ _ ⟨i0,(cu.cls_mapFields _ _).trans g2,h0,by rw[WC (by decide)];exact g4,T,x,by simp[G1],b0,A.d.g _ m0,λr j0=>A.g.f r _ j0 m0,q0,rfl,?_,?_⟩)
  ·intro q t z
   first|(simp at z;done)|(rcases J0 with rfl|⟨_,_,_,_,_,_,_,rfl⟩<;>simp at z)
  ·first|(simp;done)|(rcases J0 with rfl|⟨_,_,_,_,_,_,_,rfl⟩<;>simp)
 unfold noteFrame
 simp only[B0]
 rcases P with P|⟨c0,i,e0,Z,q1,q2,V,d,j,G,O,B,q9⟩
 ·refine bk (wN g1 g3 P ?_)
  rw[if_neg (by decide)]
  exact J rfl f g1 P (by intro q t z;cases z)
 ·refine bk (wN g1 g3 q1 ?_)
  rw[if_pos (show(ax c0 !=aS)=af from by simp)]
  refine bk (wN j G B ?_)
  rcases q9 with rfl|⟨i1,o0,rfl⟩
  ·rw[if_neg (show¬((aS==fh s)=af)from by simp[fh])]
   refine bk (Jg j G (AU.mp B).1 ?_)
   have y0:∀p,p≠c0->(H.heap.update c0 (jz (·.setIfInBounds 3 aS))).get? p=H.heap.get? p:=λp W=>tx _ _ (iJ W)
   have R:=mw (jz (·.setIfInBounds 3 aS)) j (Bn (wM G (·.setIfInBounds 3 aS)))
   refine J (c1:={H with heap:=H.heap.update c0 (jz (·.setIfInBounds 3 aS))}) rfl (f.l (M0:=λp=>p=c0) b (λp o W v=>⟨λ_=>(y0 p W).trans v,λ_=>⟨o.slots,(y0 p W).trans v⟩⟩) ?_) ((y0 e (iJ q2)).trans g1) q1 (by intro q t z;cases z)
   rintro p rfl
   exact⟨V,d,(by rw[R];intro z;exact bR z),λo v=>by(replace v:=be j v;subst v);exact(aw e0 G O)⟩
  ·have:i1=s:=by rw[w,B0]at o0;exact(bn o0).symm
   subst this
   rw[if_pos (show(fh i1==fh i1)=af from by simp)]
   exact cJ (x0 H.heap f (lQ y X I c0 i e0 ⟨g1,g2,g3,g4,T,x,q1,q2,V,d,j,G,O,B⟩))
theorem uo{Y:Unit->ay->Prop}{P:Option ai}(b:bj k d0 F m n0)(f:gT k Q O0 F m d0 n0 C D e H.heap)(S:mT k D n0 e Z H.heap)(x0:∀u,gT k Q O0 F m d0 n0 C D e u->mT k D n0 e (P.elim aS λf=>fh f) u->Y () {H with heap:=u}):aR (aQ k.b k.c) U (setFlight (ax e) P) Y g0 H:=by
 refine oj (S) λy X I c0 i e0 h1=>?_;refine BN h1 λg1 g2 g3 g4 T x q1 q2 V d j G O B=>?_;clear h1
 have E:3<e0.size:=(AU.mp B).1
 have y0:∀p,p≠c0->(H.heap.update c0 (jz (·.setIfInBounds 3 (P.elim aS λf=>fh f)))).get? p=H.heap.get? p:=λp W=>tx _ _ (iJ W)
 have R:=mw (jz (·.setIfInBounds 3 (P.elim aS λf=>fh f))) j (Bn (wM G (·.setIfInBounds 3 (P.elim aS λf=>fh f))))
 unfold setFlight
 refine bk (wN g1 g3 q1 ?_)
 rw[if_pos (show(ax c0 !=aS)=af from by simp)]
 refine Jg j G E (x0 _ (f.l (M0:=λp=>p=c0) b (λp o W v=>⟨λ_=>(y0 p W).trans v,λ_=>⟨o.slots,(y0 p W).trans v⟩⟩) ?_) (lQ y X I c0 _ _ ⟨(y0 e (iJ q2)).trans g1,g2,g3,g4,T,x,q1,q2,V,d,R,wM G _,?_,?_⟩))
 ·rintro p rfl
  exact⟨V,d,(by rw[R];intro z;exact bR z),λo v=>by(replace v:=be j v;subst v);exact(aw e0 G O)⟩
 ·intro q t z
  rw[WC (by decide)]at z
  exact O q t z
 ·simp[E]
theorem Dy{Z:aj}(b:bj k d0 F m n0)(f:gT k Q O0 F m d0 n0 C D e H.heap)(S:mT k D n0 e Z H.heap)(B0:M.frame=a s)(x0:∀u,gT k Q O0 F m d0 n0 C D e u->mT k D n0 e (fh s) u->g0 (ax e) {H with heap:=u}):Bo (aQ k.b k.c) U M g0 (ax e) H:=by
 refine oj (id S) λy X I c0 i e0 h1=>?_;refine pR h1 λg1 g2 g3 g4 T x q1 r=>?_;clear h1
 unfold Bo
 refine bk (wN g1 g3 q1 ?_)
 rw[if_neg (show¬((ax c0==aS)=af)from by simp)]
 refine uo b f S λu A I0=>?_
 rw[B0]at I0
 exact x0 u A I0
theorem Os{Y:Unit->ay->Prop}(l:U.frames=a Q)(w:Q.head?.bind (·.frame)=M.frame)(b:bj k d0 F m n0)(f:gT k Q O0 F m d0 n0 C D e H.heap)(S:jk k Q D n0 e H.heap)(B0:M.frame=a s)(x0:∀u,gT k Q O0 F m d0 n0 C D e u->mT k D n0 e aS u->Y () {H with heap:=u}):aR (aQ k.b k.c) U (Jh M (ax e)) Y g0 H:=by
 unfold Jh
 refine bk (um l w b f S B0 λu A I0=>?_)
 exact uo (H:={H with heap:=u}) b A I0 λX E G=>x0 X E G
end
end Mine.Internal
set_option tactic.hygienic false
namespace Mine.Internal
open PySem PySem.W PySem.Calls PyProof.Rows
section
variable{k:aU}{L:Bool}{n:Nat}{U:bo}{Q:List aN}{M:aN}{G:aV}{F:ai->Prop}{b o0:ah}{m C O:j}{d0 D A0:Nat->Option ai}{H:ay}{n0 h u:aG}{g0:aj->ay->Prop}{Y:jf->ay->Prop}{c:v}{e:ai}
inductive mU(G:aV):aa->gO->Prop
 |f {Z:ak} {V:aH}:G.lookup (an Z)=a .local->mU G (aY (an Z) V) (.b Z)
 |g {z:List aa} {y0:List ak} {w:Nat} {u0:aH}:ma z y0->(∀Z∈y0,G.lookup (an Z)=a .local)->mU G (gx z w u0) (.c y0)
theorem mU.i{d:aa}{t:gO}(h:mU G d t):ls d:=by
 cases h with
 |f _=>exact aL (gL _ _ rfl)
 |g _ _=>exact aI (jg _ _ _ rfl)
theorem Ot(T0:L=af){d:aa}{t:gO}{T:A}{V:aj}{Y:Unit->ay->Prop}(F0:mU G d t)(J:bq k L n U Q M G F b C D H.heap)(j0:aC k D F H.heap T V)(W:kC C t T b=a o0)(w0:∀u t,bq k L n U Q M G F o0 C D u->aZ k (bx Q) (eM M) C D H.heap C D u->Y () {H with heap:=u,toks:=t}):aR (aQ k.b k.c) U (tw d M V) Y g0 H:=by
 cases F0 with
 |f b0=>(replace W:=bn W;subst W);exact Bf (lZ J b0 j0 w0)
 |g y0 k0=>
  unfold kC at W
  dsimp only at W
  induction T using A.casesOn<;>try((exact bD W);done)
  exact Dx T0 y0 k0 J j0 W w0
noncomputable abbrev Ou(k:aU)(d:aa)(Q:List aN)(F:ai->Prop):(Nat->Option ai)->aG->List A×Option Nat×j->aj->Prop:=λD h q V=>Nonempty (Dl k d Q F q.2.2 D h q.1 q.2.1 V)
abbrev iT(c:v)(w:ku)(e:Mine.Internal.ar):ah->j->au (List A×Option Nat×j):=λb C=>(ag c e b C).e λT C=>match eL C w T with
 |some (l,O0)=>.b (l,O0,C) C
 |none=>.d
noncomputable def mV(k:aU)(L:Bool)(n:Nat)(G:aV)(d b1:aa)(f:ah->j->au (List A×Option Nat×j)):Prop:=
 ∀(U:bo)(Q:List aN)(M:aN)(F:ai->Prop)(b:ah)(C:j)(D:Nat->Option ai)(H:ay),bq k L n U Q M G F b C D H.heap->
  ∀(Y:aj->ay->Prop)(g0:aj->ay->Prop),aB k Q F C D H (Ou k d Q F) (f b C) Y g0->aR (aQ k.b k.c) U (bP b1 M) Y g0 H
theorem Ov{t:gO}{w:ku}{e:Mine.Internal.ar}{I0:List Mine.Internal.aT}:bb c (.k t w e I0) b C=(iT c w e b C).e λq C=>hZ q.2.2 q.2.1 (ch (λT b C=>match kC C t T b with
 |some o0=>aO c I0 o0 C
 |none=>.d) q.1 b):=by
 dsimp only[KZ,iT]
 cases ag c e b C with
 |d=>rfl
 |g O=>rfl
 |b T O=>
  dsimp only[au.e]
  cases eL O w T with
  |none=>rfl
  |some q=>rfl
theorem Ow(l:U.frames=a Q)(w:∃s,M.frame=a s/\Q.head?.bind (·.frame)=a s){O0:ai->cu->Prop}(b:bj k d0 F m n0)(f:gT k Q O0 F m d0 n0 C D e H.heap)(S:jk k Q D n0 e H.heap)(o0:∀u,gT k Q O0 F m d0 n0 C D e u->jk k Q D n0 e u->g0 (ax e) {H with heap:=u}):Ji (aQ k.b k.c) U M (λe c1=>Bo (aQ k.b k.c) U M g0 e c1) (ax e) H:=by
 refine aA (w) λs B0 H0=>?_
 refine um l (H0.trans B0.symm) b f S B0 λE t0 a1=>?_
 exact Dy (H:={H with heap:=E}) b t0 a1 B0 λN f2 a2=>o0 N f2 (a2.b (aI (aw s H0 rfl)))
end
namespace up
noncomputable def E0(L:Bool)(n:Nat)(U:bo)(Q:List aN)(M:aN)(G:aV)(F:ai->Prop)(b:ah)(c:v)(d b1:aa)(t:gO)(I0:List x)(w0:List Mine.Internal.aT)(m0 y:ai)(L0:List A)(g:List aj)(s0:Nat->aG->Prop)(m x0:j)(d0 R0:Nat->Option ai)(n0:aG)(s1:ay)(k0:cu)(r:au (bA×ah))(R:fC->ay->Prop):Prop:=∀{k:aU}(T0:L=af){l:List A}(q0:mQ k d m0 y l L0 g s0)(F0:mU G d t)(V0:gF k L n G I0 (aO c w0))(u1:bq k L n U Q M G F b m d0 n0)(J:bq k L n U Q M G F b x0 R0 s1.heap)(r1:aZ k (bx Q) (eM M) m d0 n0 x0 R0 s1.heap)(f0:s0 0 s1.heap)(W:aJ k R0 F s1.heap L0 g)(e1:n0.get? m0=ae)(u2:∀r,R0 r≠a m0)(m1:s1.heap.get? y=a k0)(t1:¬jj x0 R0 y)(w1:y≠k.e)(G1:y∉bx Q)(W0:¬eM M y k0)(j1:y≠m0)(j0:ch (λT b C=>match kC C t T b with
 |some o0=>aO c w0 o0 C
 |none=>.d) l b x0=r)(Y0:r≠.d)(g0:∀f o0 O,r=.b (f,o0) O->∀i0 A0 u D0,bq k L n U Q M G F o0 O A0 u->aZ k (bx Q) (eM M) m d0 n0 O A0 u->(match f with|.c T=>∃G0,i0=jy G0/\aC k A0 F u T G0|_=>i0=eF)->u.get? y=a k0->R (.ok i0) {s1 with heap:=u,toks:=D0})(M0:∀O,r=.g O->∀e A0 u D0,gT k Q (eM M) F m d0 n0 O A0 e u->jk k Q A0 n0 e u->u.get? y=a k0->Ji (aQ k.b k.c) U M (λe c1=>R (.error e) c1) (ax e) {s1 with heap:=u,toks:=D0}),je (aQ k.b k.c) U (.forLoop d (ax m0) I0 [] M) R s1
noncomputable def O0:Bool×Nat×bo×(List aN)×aN×aV×(ai->Prop)×ah×v×aa×aa×gO×(List x)×(List Mine.Internal.aT)×ai×ai×(List A)×(List aj)×(Nat->aG->Prop)×j×j×(Nat->Option ai)×(Nat->Option ai)×aG×ay×cu×(au (bA×ah))×(fC->ay->Prop)->Prop:=W λL=>W λn=>W λU=>W λQ=>W λM=>W λG=>W λF=>W λb=>W λc=>W λd=>W λb1=>W λt=>W λI0=>W λw0=>W λm0=>W λy=>W λL0=>W λg=>W λs0=>W λm=>W λx0=>W λd0=>W λR0=>W λn0=>W λs1=>W λk0=>W λr=>λR=>E0 L n U Q M G F b c d b1 t I0 w0 m0 y L0 g s0 m x0 d0 R0 n0 s1 k0 r R
def c0:=dQ (J (J (bY tQ (J (J (J (J (J (bY rM (J (J (bY Li (J (J (J (J (J (J (J (bY dZ (bY dZ (J (J (J (bY xx (J (bY Lj inferInstance))))))))))))))))))))))))))) O0
def L:Bool:=c0.1
def n:Nat:=c0.2.1
def U:bo:=c0.2.2.1
def Q:List aN:=c0.2.2.2.1
def M:aN:=c0.2.2.2.2.1
def G:aV:=c0.2.2.2.2.2.1
noncomputable def F:ai->Prop:=c0.2.2.2.2.2.2.1
def b:ah:=c0.2.2.2.2.2.2.2.1
def c:v:=c0.2.2.2.2.2.2.2.2.1
def d:aa:=c0.2.2.2.2.2.2.2.2.2.1
def b1:aa:=c0.2.2.2.2.2.2.2.2.2.2.1
def t:gO:=c0.2.2.2.2.2.2.2.2.2.2.2.1
def I0:List x:=c0.2.2.2.2.2.2.2.2.2.2.2.2.1
def w0:List Mine.Internal.aT:=c0.2.2.2.2.2.2.2.2.2.2.2.2.2.1
def m0:ai:=c0.2.2.2.2.2.2.2.2.2.2.2.2.2.2.1
def y:ai:=c0.2.2.2.2.2.2.2.2.2.2.2.2.2.2.2.1
def L0:List A:=c0.2.2.2.2.2.2.2.2.2.2.2.2.2.2.2.2.1
def g:List aj:=c0.2.2.2.2.2.2.2.2.2.2.2.2.2.2.2.2.2.1
noncomputable def s0:Nat->aG->Prop:=c0.2.2.2.2.2.2.2.2.2.2.2.2.2.2.2.2.2.2.1
def m:j:=c0.2.2.2.2.2.2.2.2.2.2.2.2.2.2.2.2.2.2.2.1
def x0:j:=c0.2.2.2.2.2.2.2.2.2.2.2.2.2.2.2.2.2.2.2.2.1
def d0:Nat->Option ai:=c0.2.2.2.2.2.2.2.2.2.2.2.2.2.2.2.2.2.2.2.2.2.1
def R0:Nat->Option ai:=c0.2.2.2.2.2.2.2.2.2.2.2.2.2.2.2.2.2.2.2.2.2.2.1
def n0:aG:=c0.2.2.2.2.2.2.2.2.2.2.2.2.2.2.2.2.2.2.2.2.2.2.2.1
def s1:ay:=c0.2.2.2.2.2.2.2.2.2.2.2.2.2.2.2.2.2.2.2.2.2.2.2.2.1
def k0:cu:=c0.2.2.2.2.2.2.2.2.2.2.2.2.2.2.2.2.2.2.2.2.2.2.2.2.2.1
def r:au (bA×ah):=c0.2.2.2.2.2.2.2.2.2.2.2.2.2.2.2.2.2.2.2.2.2.2.2.2.2.2.1
noncomputable def R:fC->ay->Prop:=c0.2.2.2.2.2.2.2.2.2.2.2.2.2.2.2.2.2.2.2.2.2.2.2.2.2.2.2
theorem Q0:E0 L n U Q M G F b c d b1 t I0 w0 m0 y L0 g s0 m x0 d0 R0 n0 s1 k0 r R:=by
 intro k T0 l q0 F0 V0 u1 J r1 f0 W e1 u2 m1 t1 w1 G1 W0 j1 j0 Y0 g0 M0
 have U1:U.handled=ae:=J.i T0
 have v1:∀p,n0.get? p=ae->k.d.get? p=ae:=λp W=>by
  generalize q:k.d.get? p=x9;induction x9 with
  |none=>rfl
  |some o=>have:=u1.c.c p o q;exact ig W this
 have o1:∀p,n0.get? p=ae->p≠k.e:=λp W e=>by
  refine aA (u1.c.e) λZ0 p0 _=>?_
  rw[e,p0]at W;exact bR W
 have L1:∀N0∈Q,∀s,N0.frame=a s->n0.get? s≠ae:=λN0 C0 s H0=>by
  refine om (u1.d N0 C0) λ_ i1 o t0 w E N _=>?_
  replace E:=be H0 E;subst E;rw[N];intro z;exact bR z
 have f2:n0.get? M.locals≠ae:=by
  refine aA (u1.r0) λa0 J0 _=>?_;obtain⟨o,t0,X0,v,_⟩:=J0
  rw[v];intro z;exact bR z
 have Q1:m0≠M.locals:=λz=>f2 (z▸e1)
 have X1:m0∉bx Q:=λB0=>by
  refine aA (lI.mp B0) λN0 C0 q1=>?_
  exact L1 N0 C0 m0 q1 e1
 have b2:∀(h:aG),rY m0 h->∀o,h.get? m0=a o->∀T,o.data≠jQ T:=by
  rintro h y2 o v T z;refine de y2 λU0 X P0 z0 _=>?_
  replace P0:=be v P0;subst P0;(injection eY (fp z0) z;done)
 have V1:∀{D:Nat->Option ai}{h:aG},(∀r,D r≠a m0)->(∀o,h.get? m0=a o->∀T,o.data≠jQ T)->xR k Q M D (λS=>S=m0) h:=λ{D h}C1 e0=>
  {b:=λS v0 r j0=>C1 r (v0▸j0),c:=λS v0=>v1 _ (v0▸e1),d:=λz=>o1 _ e1 z.symm,e:=λz=>f2 (z▸e1),cell:=λI T⟨o,v,z0⟩z=>e0 o (z▸v) T z0,f:=λN0 C0 s H0 z=>L1 N0 C0 s H0 (z▸e1)}
 have p2:∀(r0:aG)p,F p->p=m0->r0.get? p≠ae:=λr0 p W p1=>by subst p1;exact absurd e1 (u1.c.d _ W)
 obtain⟨g2,x1⟩:∃g2:Nat->ay->Prop,∀w c1,g2 w c1↔∃h D0 x A i O,c1={s1 with heap:=h,toks:=D0}/\bq k L n U Q M G F O A x h/\aZ k (bx Q) (eM M) m d0 n0 A x h/\s0 i h/\aJ k x F h L0 g/\(∀r,x r≠a m0)/\h.get? y=a k0/\¬jj A x y/\
  ch (λT b C=>match kC C t T b with
   |some o0=>aO c w0 o0 C
   |none=>.d) (l.drop i) O A=r/\i<=l.length/\w=l.length+1-i:=⟨_,λ_ _=>Iff.rfl⟩
 refine codeAny_forLoop_any g2 ?_ (l.length+1) ((x1 _ _).mpr (lQ s1.heap s1.toks R0 x0 0 b ⟨rfl,J,r1,f0,W,u2,m1,t1,j0,nU _,rfl⟩))
 intro w c1 z1;refine oj ((x1 _ _).mp z1) λh D0 x A i O h1=>?_;refine xd h1 λK0 a2 w2 M1 p1 W1 H1 Y1 Y W2 Z1=>?_;clear h1;obtain rfl:=K0;obtain rfl:=Z1
 generalize h0:l[i]?=x9;induction x9 with
 |none=>
  refine q0.m (H:={s1 with heap:=h,toks:=D0}) U1 M1 h0 λu D1=>?_
  have j2:l.length<=i:=mA.mp h0
  rw[th j2,Lk]at Y
  have S0:ej F (λp=>p=m0) h u:=⟨D1,mR (q0.c i h M1)⟩
  have f1:=a2.R0 S0 (V1 W1 (b2 h (q0.c i h M1))) (p2 u)
  exact pM (g0 .b O A Y.symm eF x u D0 f1 (w2.I0 D1 λp W=>W▸e1) rfl (D1 _ _ j1 H1))
 |some T=>
  have n1:i<l.length:=(iv.mp h0).1
  have X2:l.drop i=T::l.drop (i+1):=by
   rw[Be n1]
   congr 1
   exact(iv.mp h0).2
  rw[X2,Co]at Y
  refine q0.f (H:={s1 with heap:=h,toks:=D0}) M1 p1 h0 λG0 u a1 k2 B1 Y2 t2=>?_
  refine t2 _ _ λN z2 l2=>?_
  have o2:ej F (λp=>p=m0) h u:=⟨k2,mR (q0.c i h M1)⟩
  have c2:ej F (λp=>p=m0) u N:=⟨l2,mR B1⟩
  have Z2:=a2.R0 o2 (V1 W1 (b2 h (q0.c i h M1))) (p2 u)
  have S2:=Z2.R0 c2 (V1 W1 (b2 u B1)) (p2 N)
  have A2:=(w2.I0 k2 λp W=>W▸e1).I0 l2 λp W=>W▸e1
  have a3:=aC.c c2 _ _ Y2
  have R1:=aJ.g c2 _ _ (aJ.g o2 _ _ p1)
  have d2:N.get? y=a k0:=l2 _ _ j1 (k2 _ _ j1 H1)
  generalize d1:kC A t T O=x9;induction x9 with
  |none=>rw[d1]at Y;exact absurd Y.symm Y0
  |some o0=>
   rw[d1]at Y
   refine Ot (H:={s1 with heap:=N,toks:=a1}) T0 F0 S2 a3 d1 λh3 t3 S3 e3=>?_
   have T1:=A2.a0 e3 u1.c
   have l0:∀{r0 b0:aG}{N1 y1:j}{A1 E1:Nat->Option ai}{Z:ah},bq k L n U Q M G F Z N1 A1 r0->aZ k (bx Q) (eM M) N1 A1 r0 y1 E1 b0->s0 (i+1) r0->aJ k A1 F r0 L0 g->(∀r,A1 r≠a m0)->r0.get? y=a k0->¬jj N1 A1 y->
    s0 (i+1) b0/\aJ k E1 F b0 L0 g/\(∀r,E1 r≠a m0)/\b0.get? y=a k0/\¬jj y1 E1 y:=by
    intro r0 b0 N1 y1 A1 E1 Z K1 F1 C2 d3 S1 l1 I1
    have O2:=q0.c (i+1) r0 C2
    have f3:r0.get? m0≠ae:=by refine fw (O2) λo X v _=>?_;rw[v];intro z;exact bR z
    have k1:=(F1.V y k0 l1 I1 w1 W0).1 G1
    refine⟨q0.e _ _ _ C2 λp o W v=>?_,aJ.m F1 K1.c (se K1) K1.d.d _ _ d3,F1.C0 f3 S1,k1,F1.L0 K1.c l1 I1⟩
    rcases W with rfl|rfl
    ·refine(F1.V _ o v (by rintro⟨r,j0,_⟩;exact S1 r j0) (o1 _ e1) λz=>?_).1 X1
     rcases z with z|⟨z,_⟩
     ·exact Q1 z
     ·exact b2 r0 O2 o v _ z
    ·replace v:=be l1 v;subst v;exact k1
   refine rD (l0 S2 e3 z2 R1 W1 d2 Y1) λM2 L2 i3 J1 O1=>?_
   refine V0 U Q M F o0 A x {s1 with heap:=h3,toks:=t3} S3 _ _ ?_
   dsimp only at Y
   generalize u0:aO c w0 o0 A=x9;induction x9 with
   |d=>rw[u0]at Y;exact absurd Y.symm Y0
   |g F2=>
    rw[u0]at Y
    intro e A0 h4 t4 R4 e4 f4 a4
    refine rD (l0 S3 e4 M2 L2 i3 J1 O1) λ_ _ _ g1 _=>?_
    exact M0 F2 Y.symm e A0 h4 t4 ⟨R4,T1.a0 e4 u1.c,f4⟩ (a4.b T1.g) g1
   |b V y0=>
    obtain⟨f,Z⟩:=V
    rw[u0]at Y
    intro i0 q2 h4 t4 S4 e4 q
    refine rD (l0 S3 e4 M2 L2 i3 J1 O1) λG2 Q2 i4 g1 P1=>?_
    have r2:=T1.a0 e4 u1.c
    induction f with
    |b=>
     obtain rfl:i0=eF:=q
     exact(aw (l.length+1-(i+1)) (Bg (kU n1) (fM i)) ((x1 _ _).mpr (lQ h4 t4 q2 y0 (i+1) Z ⟨rfl,S4,r2,G2,Q2,i4,g1,P1,Y,n1,rfl⟩)))
    |d=>
     obtain rfl:i0=wJ:=q
     exact(aw (l.length+1-(i+1)) (Bg (kU n1) (fM i)) ((x1 _ _).mpr (lQ h4 t4 q2 y0 (i+1) Z ⟨rfl,S4,r2,G2,Q2,i4,g1,P1,Y,n1,rfl⟩)))
    |c T=>
     refine aA (q) λG0 J0 e2=>?_;obtain rfl:=J0
     exact g0 (.c T) Z y0 Y.symm (jy G0) q2 h4 t4 S4 r2 (aw G0 rfl e2) g1
end up
theorem Ox{L:Bool}{n:Nat}{U:bo}{Q:List aN}{M:aN}{G:aV}{F:ai->Prop}{b:ah}{c:v}{d b1:aa}{t:gO}{I0:List x}{w0:List Mine.Internal.aT}{m0 y:ai}{L0:List A}{g:List aj}{s0:Nat->aG->Prop}{m x0:j}{d0 R0:Nat->Option ai}{n0:aG}{s1:ay}{k0:cu}{r:au (bA×ah)}{R:fC->ay->Prop}:up.E0 L n U Q M G F b c d b1 t I0 w0 m0 y L0 g s0 m x0 d0 R0 n0 s1 k0 r R:=dS (Y:=up.O0) up.Q0 (L,n,U,Q,M,G,F,b,c,d,b1,t,I0,w0,m0,y,L0,g,s0,m,x0,d0,R0,n0,s1,k0,r,R)
section
variable{k:aU}{L:Bool}{n:Nat}{U:bo}{Q:List aN}{M:aN}{G:aV}{F:ai->Prop}{b o0:ah}{m C O:j}{d0 D A0:Nat->Option ai}{H:ay}{n0 h u:aG}{g0:aj->ay->Prop}{Y:jf->ay->Prop}{c:v}{e:ai}
theorem Oy{I0:A->ah->j->au (bA×ah)}:∀{l:List A}{b:ah}{C:j}{Z:ah}{O:j},ch I0 l b C≠.b (.d,Z) O:=by
 intro J
 induction J with
 |nil=>
  intro b C Z O
  exact nofun
 |cons T X U=>
  intro b C Z O
  rw[Co]
  cases I0 T b C with
  |d=>exact λh=>xp h
  |g _=>exact λh=>Cn h
  |b V i=>
   obtain⟨f,l2⟩:=V
   induction f with
   |b=>exact U
   |d=>exact U
   |c T=>exact nofun
theorem Oz{w:ku}{Z:Mine.Internal.ar}{l:List A}{O0:Option Nat}{X S0:j}(I:iT c w Z b C=.b (l,O0,X) S0):X=S0:=by
 dsimp only[iT]at I
 generalize h0:ag c Z b C=x9;induction x9 with
 |d=>rw[h0]at I;exact xp I
 |g _=>rw[h0]at I;exact Cn I
 |b T i=>
  rw[h0]at I
  dsimp only[au.e]at I
  generalize f0:eL i w T=x9;induction x9 with
  |none=>rw[f0]at I;exact xp I
  |some q=>rw[f0]at I;cases I;rfl
theorem OA{c:Type}{i:j->au c}{C:j}{O0:Option Nat}(h:∀r,O0=a r->C.c r≠ae):hZ C O0 i=match i (iS C O0)with
 |.b S O=>.b S (kH C O O0)
 |.g O=>.g (kH C O O0)
 |.d=>.d:=by
 induction O0 with
 |none=>show i C=match i C with|.b S O=>.b S O|.g O=>.g O|.d=>.d;cases i C<;>rfl
 |some r=>
  unfold hZ iS kH
  dsimp only
  generalize w0:C.c r=x9;induction x9 with
  |none=>exact absurd w0 (h r rfl)
  |some s0=>dsimp only;all_goals(cases i (C.lock r)<;>rfl)
theorem OB(L0:cn k)(T0:L=af){d b1:aa}{t:gO}{w:ku}{Z:Mine.Internal.ar}{I0:List x}{w0:List Mine.Internal.aT}{u0:aH}(c1:mV k L n G d b1 (iT c w Z))(F0:mU G d t)(V0:gF k L n G I0 (aO c w0))(m1:∀M Z,pK b1 M Z=bI Z):bN k L n G (.For d b1 I0 [] u0) (bb c (.k t w Z w0)):=by
 intro U Q M F b C D H J Y g0 m
 rw[Ov]at m
 refine wpAny_For (c1 U Q M F b C D H J _ _ (cV.g m J.c J.d λq S0 V U0 H0 M0 I n0 R0 Q0 R=>?_)) (m1 M)
 have r0:=J.p0 R0 n0
 obtain⟨l,O0,X⟩:=q
 obtain rfl:=Oz I
 clear I
 obtain⟨c0⟩:=Q0
 dsimp only at c0 R
 refine c0.p (H:={H with heap:=H0,toks:=M0}) rfl ?_
 have i:∀p o,H0.get? p=a o->(H0.push c0.c).get? p=a o:=λ_ _ z=>cc _ z
 have y:=(r0.Z0 (O0:=O0)).T0 i
 obtain⟨k0,E⟩:∃k0,H0.get? c0.f=a k0:=Option.ne_none_iff_exists'.mp c0.e.g
 have W0:¬eM M c0.f k0:=by
  rintro(z|⟨z,_⟩)
  ·refine aA (r0.r0) λa0 J0 _=>?_;obtain⟨o,t0,X0,v,z0,_⟩:=J0
   rw[<-z,E]at v;(replace v:=bn v;subst v)
   obtain⟨r,j0⟩:=(c0.t _ E).2 _ _ z0
   exact r0.I0 r (z▸j0)
  ·exact(c0.t _ E).1 z
 have e1:H0.get? H0.objs.size=ae:=fT H0
 rw[OA λr e z=>by obtain⟨_,N⟩:=c0.lock r e;rw[z]at N;cases N]at R
 have B0:∀{O:j}{A0:Nat->Option ai}{u:aG},bj k A0 F O u->aZ k (bx Q) (eM M) (iS X O0) U0 H0 O A0 u->u.get? c0.f=a k0->bj k A0 F (kH X O O0) u/\aZ k (bx Q) (eM M) X U0 H0 (kH X O O0) A0 u:=λ{O A0 u}W g l0=>by
  induction O0 with
  |none=>exact⟨W,g⟩
  |some r=>
   obtain⟨x0,h⟩:=c0.lock r rfl
   generalize s:X.c r=x9;induction x9 with
   |none=>rw[s]at h;cases h
   |some s0=>
    rw[Do s]
    exact Dk n0 x0 s g (se r0) r0.d.d W λo v=>by(replace v:=be E v;subst v);exact l0
 refine Ox T0 (b1:=b1) (r:=_) c0.m F0 V0 (r0.Z0 (O0:=O0)) y (iO i).toar c0.q (aJ.s n0 i c0.s) e1 (λr j0=>r0.c.f r _ j0 e1) (i _ _ E) c0.e.c c0.e.d c0.e.f W0 (λz=>by rw[z,e1]at E;exact bD E) rfl ?_ ?_ ?_
 ·intro z
  rw[z]at R
  exact R
 ·intro f o0 O j0 i0 A0 u D0 f1 P0 q k1
  rw[j0]at R
  have B0:=B0 f1.c P0 k1
  refine R i0 A0 u D0 {f1 with c:=B0.1} B0.2 ?_
  induction f with
  |b=>exact q
  |d=>exact absurd j0 Oy
  |c T=>exact q
 ·intro O j0 e A0 u D0 f S k1
  rw[j0]at R
  refine Ow (H:={H with heap:=u,toks:=D0}) r0.g r0.J0 (Dj (O0:=O0) n0) f S λN f2 a2=>?_
  have B:N.get? c0.f=a k0:=(f2.d.V _ k0 E c0.e.c c0.e.d W0).1 c0.e.f
  have B0:=B0 f2.g f2.d B
  exact R e A0 N D0 B0.1 B0.2 f2.i a2
end
end Mine.Internal
set_option tactic.hygienic true
namespace Mine.Internal
open PySem PySem.W PySem.Calls PyProof.Rows
section
variable{k:aU}{L:Bool}{n:Nat}{U:bo}{Q:List aN}{M:aN}{G:aV}{F:ai->Prop}{b o0:ah}{m C O:j}{d0 D A0:Nat->Option ai}{H:ay}{n0 h u:aG}{g0:aj->ay->Prop}{Y:jf->ay->Prop}{c:v}
theorem OC(L0:cn k){d m0:aa}{e:Mine.Internal.ar}(F0:ls d)(h:aE k L n G m0 (ag c e)):mV k L n G d m0 (iT c .b e):=by
 intro U Q M F b C D H J Y g0 m
 simp only[iT]at m
 refine h U Q M F b C D H J _ _ (aB.y m J.c λT S0 V U0 H0 M0 I n0 R0 Q0 R=>?_)
 clear I
 generalize f0:eL S0 .b T=x9;induction x9 with
 |none=>rw[f0]at R;exact R.elim
 |some q=>
  rw[f0]at R
  obtain⟨l,O0⟩:=q
  obtain⟨c0⟩:=Dm L0 F0 (J.p0 R0 n0).tobZ Q0 f0
  exact R.g (H:={H with heap:=H0,toks:=M0}) n0 ⟨c0.toDl⟩
theorem OD(L0:cn k)(g:jn k){Z:aD}{o0 u0:aH}{d S:aa}{e:Mine.Internal.ar}(F0:ls d)(y0:Z="range")(b0:G.lookup Z=a dI)(h:aE k L n G S (ag c e))(A0:∀M,dq [S] M=[(av,bP S M)])(C0:iC (aY Z o0) [S] u0):mV k L n G d (cQ (aY Z o0) [S] [] u0) (iT c .c e):=by
 subst y0
 intro U Q M F b C D H J Y g0 m
 simp only[iT]at m
 refine qY (rW L0 g J b0 (T:=aK "range") (by decide) (by decide) ?_) (C0 M)
 rw[A0]
 refine Wm rfl (uc rfl (nV (h U Q M F b C D H J _ _ (aB.y m J.c λT S0 V U0 H0 M0 I n0 R0 Q0 R=>pw ?_))))
 clear I
 induction T using A.casesOn<;>try exact R.elim
 rename_i i
 obtain⟨O,rfl⟩:=cG Q0
 by_cases f0:-100000<=i/\i<=100000
 ·have u:eL S0 .c (.b i)=a ((ph i.toNat).map λ(B:Nat)=>.b B,ae):=by unfold eL;dsimp only;rw[if_pos f0]
  rw[u]at R
  dsimp only at R
  refine call_range_1 ?_
  have q0:∀p o,H0.get? p=a o->(H0.push {cls:=aK "range",data:=bO #[cI 0 M0,cI i O,cI 1 (M0+1)]}).get? p=a o:=λ_ _ z=>cc _ z
  refine R.X (H:={H with heap:=H0,toks:=M0}) n0 q0 ⟨?_⟩
  have l:H0.get? H0.objs.size=ae:=fT H0
  have q:(H0.push {cls:=aK "range",data:=bO #[cI 0 M0,cI i O,cI 1 (M0+1)]}).get? H0.objs.size=a {cls:=aK "range",data:=bO #[cI 0 M0,cI i O,cI 1 (M0+1)]}:=jo rfl
  have a0:(H0.push {cls:=aK "range",data:=bO #[cI 0 M0,cI i O,cI 1 (M0+1)]}).objs.size=H0.objs.size+1:=tq ..
  exact{f:=H0.objs.size,z:=[],E:=[],w:=_,c:={cls:=aK "range_iterator",data:=bO #[fh 0,fh (Builtin.Range.rangeSize 0 i 1),fh 1]},I:=rfl
        p:=λ{U g0 H Y}e w=>by
         have f:=q
         rw[<-e]at f w
         exact wpAny_pyIter_range f (small_one (ip _) (ip _) (jc (fo (by decide) f0.1)) (fg f0.2 (by decide))) w
        m:=NB F0
        q:=⟨nU _,by
         have:Builtin.Range.rangeSize 0 i 1=((i.toNat:Nat):Int)-((0:Nat):Int):=by rw[rangeSize_nat];lia
         rw[<-this]
         exact jo rfl⟩
        s:=by simp only[cA,cB]
        e:=⟨(by rw[q];intro z;exact bR z),λ⟨r,j0,_⟩=>n0.f r _ j0 l,(λz=>by refine aA (n0.e) λZ0 p0 _=>?_;rw[<-z,l]at p0;exact bD p0),λB0=>by
         refine aA (lI.mp B0) λN0 C0 q1=>?_
         refine om ((J.p0 R0 n0).d N0 C0) λ_ s o t0 w E N _=>?_
         replace q1:=be E q1;subst q1;(injection eY (fp l) N;done)⟩
        lock:=λ_ z=>(nomatch z)
        t:=λo v=>by(replace v:=be q v;subst v);exact⟨(by intro z;cases z),λ_ _ z=>(nomatch z)⟩}
 ·have u:eL S0 .c (.b i)=ae:=by unfold eL;dsimp only;rw[if_neg f0]
  rw[u]at R;exact R.elim
theorem OE(L0:cn k){u u0:aH}{d o:aa}{e:Mine.Internal.ar}{t0:List aa}{D0:Nat}{B:aH}{O:aD}(y0:O="items")(f:d=gx t0 D0 B)(h:aE k L n G o (ag c e))(g:∀M,WD o O M (bP o M)=bP o M)(c0:(u.endLine==u0.line)=af):mV k L n G d (cQ (iu o O u) [] [] u0) (iT c .d e):=by
 subst y0
 intro U Q M F b C D H J Y g0 m
 simp only[iT]at m
 refine wpAny_Call_method (T:="dict") (id:="dict.items") (g M) rfl c0 VQ WE Aab ?_
 refine h U Q M F b C D H J _ _ (aB.y m J.c λT S0 V U0 H0 M0 I n0 R0 Q0 R=>?_)
 clear I
 have r0:=J.p0 R0 n0
 induction T using A.casesOn<;>try exact R.elim
 rename_i r
 refine aA (eT Q0) λS J0 x=>?_;obtain rfl:=J0
 unfold eL at R
 dsimp only at R
 generalize w0:S0.c r=x9;induction x9 with
 |none=>rw[w0]at R;exact R.elim
 |some s0=>
  rw[w0]at R
  induction s0<;>try exact R.elim
  rename_i l
  refine jB (n0.b r _ w0) λI0 X o0 i0 x0=>?_
  replace X:=be x X;subst X
  refine⟨i0.typeIs,i0.mapOf.noDict,?_⟩
  show aR _ _ (nX u0 (cv "dict.items") [ax S] [] []) _ _ _
  have d0:=jX (H:={H with heap:=H0,toks:=M0}) L0.c n0 x
  refine method_meetsIn WE Aac rfl (PySem.evalArgs_none ⟨rfl,i0.typeIs,Aad _,_,meets_dict_items (eR k.b k.c) S d0,⟨o0,i0⟩,?_⟩)
  obtain⟨X0,Z⟩:=i0.dictAt
  refine cX (id Z) λK0 f0 v b0 z0 _=>?_
  have q0:∀p o,H0.get? p=a o->(H0.push {cls:=aK "dict_items",data:=bO #[ax S]}).get? p=a o:=λ_ _ z=>cc _ z
  refine R.X (H:={H with heap:=H0,toks:=M0}) n0 q0 ⟨?_⟩
  have e0:(H0.push {cls:=aK "dict_items",data:=bO #[ax S]}).get? H0.objs.size=a {cls:=aK "dict_items",data:=bO #[ax S]}:=jo rfl
  have P0:=q0 _ _ v
  have W:(H0.push {cls:=aK "dict_items",data:=bO #[ax S]}).DictAt (eR k.b k.c) S o0 X0:=Z.push _
  have j:=bT.b (iO (W0:=bx Q) (O0:=bV) (C:=S0) q0) n0 (cM _) r0.d.d _ _ x0
  have a0:(H0.push {cls:=aK "dict_items",data:=bO #[ax S]}).objs.size=H0.objs.size+1:=tq ..
  exact{f:=S,z:=l.map (·.2),E:=o0.map (·.2),w:=_,c:={cls:=aK "dict_itemiterator",data:=bO #[aS,eQ av,ax S,cI 0 0,cI o0.length 0,cI X0 0,aS,aS]},I:=rfl
        p:=λ{U g0 H Y}e w=>by
         have i:=e0
         have y:=W
         rw[<-e]at i w y
         exact wpAny_pyIter_items (knd:=eR k.b k.c) (cW _ i rfl rfl) y w
        m:=NC f (bC (jU P0)) (Db j)
        q:=⟨(gL (aS) (aS) (jo rfl)),W.push _⟩
        s:=Nz j
        e:=⟨(by rw[P0];intro z;exact bR z),(λ⟨q,x0,v0⟩=>by
         have:=n0.t _ _ _ x0 x
         subst this
         exact v0 (by show(S0.lock q).c q=ae;rw[ul,if_pos rfl])),n0.q v (by rw[b0.1];decide),λB0=>by
         refine aA (lI.mp B0) λN0 C0 q1=>?_
         refine lR (r0.d N0 C0) λ_ s o t0 w E N _ _ h5 _=>?_
         replace q1:=be E q1;subst q1
         exact h5 r x⟩
        lock:=λq x0=>by(replace x0:=bn x0;subst x0);exact⟨x,by show(S0.c r).isSome=af;rw[w0];rfl⟩
        t:=λo t=>by(replace t:=be P0 t;subst t);exact⟨(by rw[z0];intro z;cases z),λ_ _ _=>⟨r,x⟩⟩}
theorem OF{e m0:Mine.Internal.ar}{Z y:ak}{D0:List ak}:bb c (.C y e Z D0 m0) b C=(ag c m0 b C).e λT C=>match T,b y with
 |.k l,ae=>(bX (lY c [] e D0 Z b) l C).e λy0 C=>if l.length<=1000 then .b (.b,b.c y (.d C.b)) (C.e (.c y0))else .d
 |_,_=>.d:=by
 dsimp only[KS]
 all_goals congr 1
theorem OG(L0:cn k)(T0:L=af){K0 b1:aa}{Z y:ak}{j1 u0 o0 a1:aH}{f:fj}{e m0:Mine.Internal.ar}{D0:List ak}(b0:G.lookup (an y)=a dh)(g:mS G f D0 Z)(c1:aE k L n G b1 (ag c m0))(J1:aE k L n (gE G f.names) K0 (ag c e))(m1:∀M Z,pK b1 M Z=bI Z)(w0:∀M,M.scope.kind=hH->M.scope.names=G->gB (kp K0 [⟨aY (an Z) j1,b1,[],0⟩] f u0) (a (aY (an y) o0)) a1.line M=bI av):
 bN k L n G (gc [aY (an y) o0] (kp K0 [⟨aY (an Z) j1,b1,[],0⟩] f u0) a1) (bb c (.C y e Z D0 m0)):=by
 intro U Q M F b C D H J Y g0 m
 rw[OF]at m
 refine Bl ?_ (w0 M J.kind J.names)
 rw[Wy]
 have f1:aB k Q F C D H (bz k F) (ag c m0 b C) (λ_ _=>True) g0:=cV.g m J.c J.d λ_ _ _ _ _ _ _ _ _ _ _=>trivial
 have n1:∀T x0,ag c m0 b C=.b T x0->∃l y0 O,T=.k l/\b y=ae/\l.length<=1000/\bX (lY c [] e D0 Z b) l x0=.b y0 O/\
  cV k L n U Q M G F C D H (.b (.b,b.c y (.d O.b)) (O.e (.c y0))) Y g0:=by
  intro T x0 h0
  rw[h0]at m
  revert m
  generalize lY c [] e D0 Z b=r0
  intro m
  induction T using A.casesOn<;>try exact m.elim
  rename_i l
  generalize k0:b y=x9;induction x9 with
  |some d0=>simp only[au.e,k0]at m;exact m.elim
  |none=>
   simp only[au.e,k0]at m
   generalize e0:bX r0 l x0=x9;induction x9 with
   |d=>rw[e0]at m;exact m.elim
   |g i=>exact absurd e0 (xU _ _ _)
   |b y0 O=>
    have R:=e0
    rw[e0]at m
    dsimp only at m
    by_cases Y0:l.length<=1000
    ·rw[if_pos Y0]at m
     exact(dY l y0 O rfl rfl Y0 ⟨R,m⟩)
    ·rw[if_neg Y0]at m;exact m.elim
 refine Dn L0 T0 (F0:=ae) (e:=e) (m0:=m0) (I:=[]) g c1 J1 Dc m1 J f1 (λT x0 h0=>?_) λT V x0 R0 E l O0 y0 O i0 x A0 u t a0 h0 f0 e0 S1 e1 r1 U0 h=>?_
 ·refine jC (n1 T x0 h0) λl y0 O V0 _ Y0 e0 _=>?_;obtain rfl:=V0
  exact(rC l ae y0 O rfl Y0 e0)
 ·refine jC (n1 T x0 h0) λG0 v2 g1 V0 k0 Y0 R d=>?_;obtain rfl:=V0
  cases f0
  have q1:bX (lY c [] e D0 Z b) l x0=.b y0 O:=e0
  obtain⟨rfl,rfl⟩:=Cm q1 R
  refine fw (h.h) λI0 w Q0 P0=>?_
  have w1:H.heap.get? i0=ae:=e1.g i0 h.i
  have l1:H.heap.get? x=ae:=e1.g x h.l
  have x1:aZ k (bx Q) bV x0 R0 E O A0 u:=h.d
  have y1:aZ k (bx Q) bV C D H.heap O A0 u:=e1.h0 x1 J.c
  have v1:∀p,H.heap.get? p=ae->k.d.get? p=ae:=λp W=>by
   generalize q:k.d.get? p=x9;induction x9 with
   |none=>rfl
   |some o=>have:=J.c.c p o q;(injection eY (fp W) this;done)
  have o1:∀p,H.heap.get? p=ae->p≠k.e:=λp W z=>by refine aA (J.c.e) λZ0 p0 _=>?_;rw[<-z,W]at p0;exact bD p0
  have L1:∀p,H.heap.get? p=ae->∀N0∈Q,∀s,N0.frame=a s->s≠p:=λp W N0 C0 s H0 z=>by
   refine om (J.d N0 C0) λ_ i1 o t0 w E N _=>?_
   replace E:=be H0 E;subst E;rw[z,W]at N;exact bD N
  have f2:∀p,H.heap.get? p=ae->M.locals≠p:=λp W z=>by
   refine aA (J.r0) λa0 J0 _=>?_;obtain⟨o,t0,X0,v,_⟩:=J0
   rw[z,W]at v;exact bD v
  refine(aw a0 h.c (λN l0=>?_))
  have k1:hG x u N:=l0
  have S0:ej (cD F i0) (λp=>p=x) u N:=⟨λp o W v=>(k1.2 p W).trans v,uh h.c⟩
  have S2:=h.g.R0 S0 {b:=λp W r j0=>by subst W;exact h.f r j0,c:=λp W=>by subst W;exact v1 _ l1,d:=λz=>o1 _ l1 z.symm,e:=λz=>f2 _ l1 z,cell:=λI T⟨o,v,z0⟩z=>(by
   subst z
   refine eJ (h.c) λs1 t1 u1 M0 n0 _=>?_
   replace v:=be M0 v;subst v;(injection eY (fp n0) z0;done)),f:=λN0 C0 s H0 z=>L1 _ l1 N0 C0 s H0 z} λp W p1=>by
    subst p1
    rcases W with W|W
    ·exact absurd l1 (J.c.d _ W)
    ·exact absurd W.symm h.e
  have E0:N.get? i0=a (cO I0 w):=S0.1 _ _ h.e Q0
  have A2:aZ k (bx Q) bV C D H.heap O A0 N:=y1.u0 S0.1 λp W=>W▸l1
  have d1:∀r S,A0 r=a S->r≠O.b:=λr S j0 z=>absurd (S2.c.g r S j0) (by rw[z];exact pg _)
  have S3:=S2.j1 (s0:=.c y0) (v1 _ w1) (λz=>J.c.d i0 z w1) (λN0 C0 z=>L1 _ w1 N0 C0 _ z rfl) (f2 _ w1) (by rintro T ⟨o,v,z0⟩;(replace v:=be E0 v;subst v);cases z0) (dK I0 w E0 (aJ.p0 (rX d1) _ _ (aJ.g S0 _ _ P0)))
  have T1:=xP (s0:=.c y0) A2 S2.c w1
  have q0:M.kindOf (an y)=a dh:=(kF J _).trans b0
  refine lh (S3.x0 y q0 k0) λI h1 X c0 v0 B0=>?_
  refine Wz (s:={H with heap:=N,toks:=t}) J.kind q0 h1 X λh4 j z1=>?_
  have W0:aC k (eZ A0 O.b i0) F N (.d O.b) (ax i0):=by
   simp only[du,dv,dw,dx,dy,dz,dA,dB,dC,dD]
   exact(aw i0 rfl (by show(if O.b=O.b then a i0 else _)=_;rw[if_pos rfl]))
  obtain⟨S4,e4⟩:=S3.a1 k0 q0 h1 X c0 v0 B0 W0 j z1
  exact d eF _ h4 t S4 (T1.toar.a0 e4 J.c) rfl
end
end Mine.Internal
set_option tactic.hygienic false
namespace Mine.Internal
open PySem PySem.W PySem.Calls PyProof.Rows
section
variable{k:aU}{L:Bool}{n:Nat}{U:bo}{Q:List aN}{M:aN}{G:aV}{F:ai->Prop}{b o0:ah}{m C O:j}{d0 D A0:Nat->Option ai}{H:ay}{n0 h u:aG}{g0:aj->ay->Prop}{Y:jf->ay->Prop}{c:v}
theorem Dz{r:Nat}{o:bM}(h:C.c r=a o):C.d r o=C:=by
 induction C with
 |mk B r0 a0=>
  unfold j.d
  congr 1
  funext Z
  show(if Z=r then a o else r0 Z)=r0 Z
  by_cases e:Z=r
  ·rw[if_pos e,e];exact h.symm
  ·rw[if_neg e]
theorem OH{r:Nat}{o U0:bM}:(C.d r o).d r U0=C.d r U0:=by
 unfold j.d
 all_goals congr 1
 funext Z
 show(if Z=r then a U0 else if Z=r then a o else C.c Z)=if Z=r then a U0 else C.c Z
 by_cases e:Z=r
 ·rw[if_pos e,if_pos e]
 ·rw[if_neg e,if_neg e,if_neg e]
theorem DB{r q:Nat}{o:bM}:(C.d r o).c q=if q=r then a o else C.c q:=rfl
structure uq(Z S y:ak)(w:Nat)(b:ah)(C:j)(I:ak)(q r:Nat)(d:List (am×A))(u:List A)(l:List A)(a0:Int):Prop where
 i:b Z=a (.h I q)
 o:bB I S=af
 f:C.c q=a (.b d)
 p:aX d (an S).cps.toList=a (.d r)
 s:b y=a (.e u)
 e:C.c r=a (.c l)
 t:u[w]?=a (.b a0)
 z:0<=a0
 g:l.length<=1000
theorem OI{Z S:ak}{I:ak}{q:Nat}{d:List (am×A)}{T:A}(D:b Z=a (.h I q))(F:bB I S=af)(G:C.c q=a (.b d))(H:aX d (an S).cps.toList=a T):ag c (.n (.b Z) S) b C=.b T C:=by
 simp only[pZ,mG,D,au.e,F,G,H,if_true]
theorem OJ{Z S:ak}(h:ag c (.n (.b Z) S) b C≠.d):∃I q d T,b Z=a (.h I q)/\bB I S=af/\C.c q=a (.b d)/\aX d (an S).cps.toList=a T:=by
 refine AB λt1=>h ?_
 dsimp only[pZ,mG]
 generalize b0:b Z=x9;induction x9 with
 |none=>rfl
 |some T=>induction T using A.casesOn with
  |h I q=>
   show(if bB I S then _ else _)=_
   by_cases e0:bB I S=af
   ·rw[if_pos e0]
    generalize x0:C.c q=x9;induction x9 with
    |none=>rfl
    |some s0=>induction s0 with
     |b d=>
      dsimp only
      generalize z0:aX d (an S).cps.toList=x9;induction x9 with
      |none=>rfl
      |some m0=>exact(t1 (iN I q d m0 b0 e0 x0 z0)).elim
     |_=>rfl
   ·exact if_neg e0
  |_=>rfl
theorem OK{Z S y:ak}{w:Nat}(h:bb c (.r (.b Z) S (.b y) w) b C≠.d):∃I q r d u l a0,uq Z S y w b C I q r d u l a0/\bb c (.r (.b Z) S (.b y) w) b C=.b (.b,b) (pY C r l a0):=by
 refine AB λt1=>h ?_
 have v0:ag c (.n (.b Z) S) b C≠.d:=λe=>h (by rw[Ck,e]<;>rfl)
 refine rH (OJ v0) λI q d T b0 e0 x0 z0=>?_
 have e1:=OI (c:=c) b0 e0 x0 z0
 have e2:bb c (.r (.b Z) S (.b y) w) b C=(match au.b T C,ag c (.b y) b C with
  |.b (.d r) _,.b (.e u) _=>(match C.c r,u[w]? with
     |some (.c l),a (.b n)=>if 0<=n/\l.length<=1000 then .b (.b,b) (pY C r l n)else .d
     |_,_=>.d)
  |_,_=>.d):=by rw[Ck,e1]<;>rfl
 rw[mG]at e2
 rw[e2]
 clear h v0 e1
 induction T using A.casesOn with
 |d r=>
  generalize E0:b y=x9;induction x9 with
  |none=>rfl
  |some d0=>induction d0 using A.casesOn with
   |e u=>
    dsimp only
    generalize j0:C.c r=x9;induction x9 with
    |none=>rfl
    |some s0=>induction s0 with
     |c l=>
      generalize L:u[w]?=x9;induction x9 with
      |none=>rfl
      |some m0=>induction m0 using A.casesOn with
       |b a0=>
        by_cases s:0<=a0/\l.length<=1000
        ·refine(t1 (BC I q r d u l a0 ⟨⟨b0,e0,x0,z0,E0,j0,L,s.1,s.2⟩,?_⟩)).elim
         rw[e2,E0];dsimp only;rw[j0,L];exact if_pos s
        ·exact if_neg s
       |_=>rfl
     |_=>rfl
   |_=>rfl
 |_=>rfl
theorem OL{r:Nat}{l:List A}(h:C.c r=a (.c l))(k0:l.length<=100000):cK C .b (.d r)=.b (.b l.length) C:=by
 show(match C.c r with|some (.c l)=>if l.length<=100000 then au.b (A.b l.length) C else au.d|_=>au.d)=_
 rw[h];exact if_pos k0
theorem OM{r:Nat}{l:List A}{T:A}(h:C.c r=a (.c l))(h0:l.getLast?=a T)(k0:l.length<=100000):ey C .c (.d r) []=.b T (C.d r (.c l.dropLast)):=by
 show(match C.c r with|some (.c l)=>(match l.getLast? with|some T=>if l.length<=100000 then au.b T (C.d r (.c l.dropLast))else .d|none=>.d)|_=>.d)=_
 rw[h];dsimp only;rw[h0];exact if_pos k0
theorem ON{r:Nat}{l:List A}(h:C.c r=a (.c l)):ln C .c (.d r)=af:=by
 show(match C.c r with
  |some (.b _)=>av
  |some (.c _)=>af
  |_=>av)=_
 rw[h]
theorem OO{S p:Int}:cC C .d (.b S) (.b p)=a (ba (S>p)):=rfl
theorem OP{S p:Mine.Internal.ar}{T w d0:A}(E:ag c S b C=.b T C)(N:ag c p b C=.b w C)(h3:cz C T w=a d0):ag c (.d S p) b C=.b d0 C:=by
 simp only[Ce,E,au.e,N,h3]
theorem OQ{Z S y:ak}{w:Nat}{I:ak}{q r:Nat}{d:List (am×A)}{u l:List A}{a0:Int}(s0:uq Z S y w b C I q r d u l a0)(q0:(w:Int)<2^60):bJ c (.g .d (.q .b (.n (.b Z) S)) (.d (.b y) (.c (.b w)))) b C=.b (ba ((l.length:Int)>a0)) C:=by
 have E:=s0.g
 have e1:ag c (.q .b (.n (.b Z) S)) b C=.b (.b l.length) C:=by
  simp only[rL,pZ,mG,s0.i,au.e,s0.o,if_true,s0.f,s0.p,OL s0.e (az E (by decide))]
 have e2:cz C (.e u) (.b w)=a (.b a0):=by
  unfold cz
  dsimp only
  rw[if_pos ⟨ip w,q0⟩]
  exact s0.t
 have e3:ag c (.d (.b y) (.c (.b w))) b C=.b (.b a0) C:=by
  have F:ag c (.b y) b C=.b (.e u) C:=by simp only[mG,s0.s]
  have g1:ag c (.c (.b w)) b C=.b (.b w) C:=by dsimp only[rK]
  exact OP F g1 e2
 simp only[Cg,e1,e3,au.e,OO]
theorem OR{Z S y:ak}{w:Nat}{I:ak}{q r:Nat}{d:List (am×A)}{u l:List A}{a0:Int}{T:A}(s0:uq Z S y w b C I q r d u l a0)(h0:l.getLast?=a T):ag c (.y (.n (.b Z) S) .c []) b C=.b T (C.d r (.c l.dropLast)):=by
 have E:=s0.g
 simp only[Cd,pZ,mG,tP,s0.i,au.e,s0.o,if_true,s0.f,s0.p,ON s0.e,OM s0.e h0 (az E (by decide))]
theorem OS{s V:aa}{Z S y:ak}{w:Nat}{u0 X:aH}(q0:(w:Int)<2^60)(F0:eb k L n G s (bJ c (.g .d (.q .b (.n (.b Z) S)) (.d (.b y) (.c (.b w))))))(p0:aE k L n G V (ag c (.y (.n (.b Z) S) .c [])))(l0:∀l M,gB V ae l M=bI av):bN k L n G (Bp s [rj V X] [] u0) (bb c (.r (.b Z) S (.b y) w)):=by
 intro U Q M F b C D H J Y g0 m
 have W:bb c (.r (.b Z) S (.b y) w) b C≠.d:=λz=>by rw[z]at m;exact m
 refine JX (OK W) λI q r d u l a0 s0 C0=>?_
 rw[C0]at m
 refine wpAny_While ?_
 have g:∀B,B<=l.length->uq Z S y w b (C.d r (.c (l.take B))) I q r d u (l.take B) a0:=λB P=>
  {s0 with f:=by rw[DB,if_neg (λz=>by have:=s0.f;rw[z,s0.e]at this;cases this)];exact s0.f,e:=by rw[DB,if_pos rfl],g:=by have:=s0.g;rw[jx];exact az (tj _ _) this}
 refine codeAny_whileLoop (λB c1=>∃h t x,c1={H with heap:=h,toks:=t}/\B<=l.length/\(a0.toNat<=B\/B=l.length)/\bq k L n U Q M G F b (C.d r (.c (l.take B))) x h/\aZ k (bx Q) bV C D H.heap (C.d r (.c (l.take B))) x h) ?_ l.length
  (dY H.heap H.toks D rfl (bS _) (aI rfl) ⟨by rw[AW,Dz s0.e];exact J,by rw[AW,Dz s0.e];exact aZ.K0 ..⟩)
 rintro B c1 z1;refine jC z1 λh t x V0 P v a2 j=>?_;clear z1;obtain rfl:=V0
 refine F0 U Q M F b _ x {H with heap:=h,toks:=t} a2 _ _ ?_
 rw[OQ (g B P) q0]
 have R:=s0.z
 intro p R0 E t1 R1 e1 i
 have S1:=a2.p0 e1 R1
 have c0:=j.h0 e1 J.c
 have Y0:(l.take B).length=B:=by rw[jx];exact my P
 rw[Y0]at i
 by_cases e:(B:Int)>a0
 ·have f:=(wE R).mpr e
  obtain rfl:p=af:=by rw[show p=_ from i,decide_eq_true e]
  simp only[if_true]
  refine rg (Jj (p0 U Q M F b _ R0 {H with heap:=E,toks:=t1} S1 _ _ ?_) (xV J) (l0 _ _))
  obtain⟨T,h0⟩:∃T,(l.take B).getLast?=a T:=by
   generalize x0:(l.take B).getLast?=x9;induction x9 with
   |some T=>exact⟨T,rfl⟩
   |none=>
    rw[List.getLast?_eq_none_iff]at x0
    rw[x0]at Y0
    have:B=0:=Y0.symm
    exact absurd f (by rw[this];exact Nat.not_lt_zero _)
  have x2:(l.take B).dropLast=l.take (B-1):=by
   rw[IC,Y0,Bq,my (qW _ _)]
  rw[OR (g B P) h0,OH,x2]
  intro _ o N t2 R2 e2 _
  have O:aZ k (bx Q) bV (C.d r (.c (l.take B))) R0 E (C.d r (.c (l.take (B-1)))) o N:=e2
  refine pM (aw (B-1) (Nat.sub_one_lt_of_lt f) ⟨N,t2,o,rfl,az (qW _ _) P,aL (WF f),S1.p0 O R2,c0.h0 O J.c⟩)
 ·have D2:=(Int.le_toNat R).mpr (fN.mp e)
  obtain rfl:p=av:=by rw[show p=_ from i,decide_eq_false e]
  simp only[pJ,if_false]
  refine pM ?_
  have:l.take a0.toNat=l.take B:=by
   rcases v with E|E
   ·have:a0.toNat=B:=WG E D2
    rw[this]
   ·rw[E,AW,jS (E▸D2)]
  unfold pY at m
  rw[this]at m
  exact m eF R0 E t1 S1 c0.toar rfl
end
end Mine.Internal
set_option tactic.hygienic false
namespace Mine.Internal
open PySem PySem.W PySem.Calls PyProof.Rows
structure ur(G:fL)(b:List x):Prop where
 b:G.body=.stmts b
 globals:G.globals=iL
 builtins:G.builtins=pk
 kind:G.scope.kind=hH
 co:G.scope.isCoroutine=av
 gen:G.scope.isGenerator=av
noncomputable def sf:au (bA×ah)->au A
 |.b (.c T,_) C=>.b T C
 |.b (.b,_) C=>.b .m C
 |.b (.d,_) _=>.d
 |.g C=>.g C
 |.d=>.d
section
variable{k:aU}{L:Bool}{n:Nat}{U:bo}{Q:List aN}{M:aN}{G:aV}{F:ai->Prop}{b o0:ah}{m C O:j}{d0 D A0:Nat->Option ai}{H:ay}{n0 h u E:aG}{g0:aj->ay->Prop}{R:fC->ay->Prop}{c:v}
noncomputable abbrev xW(k:aU)(D:Nat->Option ai)(F:ai->Prop)(h:aG)(u:aD->Option gt)(b:ah)(a0 d:aD->Option aj):Prop:=
 (∀Z T,b Z=a T->∃G0,aC k D F h T G0/\((u (an Z)=a .local/\a0 (an Z)=a G0)\/(u (an Z)=a dh/\d (an Z)=a G0)))/\∀Z,b Z=ae->d (an Z)=ae
theorem OT{u:aD->Option gt}:∀{c:List ak}{X:List A}{s0:List aj}{b o0:ah}{a0 d:aD->Option aj},xW k D F h u b a0 d->(∀Z∈c,u (an Z)=a .local\/u (an Z)=a dh)->aJ k D F h X s0->fD c X b=a o0->
 xW k D F h u o0 (bindL u ((c.map an).zip s0) a0) (bindC u ((c.map an).zip s0) d):=by
 intro J
 induction J with
 |nil=>
  intro X s0 b o0 a0 d g _ j0 W
  induction X using bL with
  |nil=>(replace W:=bn W;subst W);exact g
  |cons _ _=>exact bD W
 |cons Z c U=>
  intro X s0 b o0 a0 d g q0 j0 W
  induction X using bL with
  |nil=>exact bD W
  |cons T X=>
   refine de (lW j0) λV r n0 E N=>?_;obtain rfl:=n0
   have f0:fD c X (b.c Z T)=a o0:=W
   show xW k D F h u o0 (bindL u ((an Z,V)::(c.map an).zip r) a0) (bindC u ((an Z,V)::(c.map an).zip r) d)
   rw[bindL,bindC]
   refine U ⟨λy d0 E0=>?_,λy E0=>?_⟩ (λz s=>q0 z (gK _ s)) N f0
   ·by_cases e:y=Z
    ·subst e
     have:d0=T:=by rw[ah.e,if_pos rfl]at E0;exact(bn E0).symm
     subst this
     refine(aw V E ?_)
     rcases q0 y (et _)with k0|e0
     ·exact aL ⟨k0,by rw[if_pos k0];show(if an y=an y then _ else _)=_;rw[if_pos rfl]⟩
     ·refine aI ⟨e0,?_⟩
      rw[if_neg (by rw[e0];intro z;cases z)]
      show(if an y=an y then _ else _)=_
      rw[if_pos rfl]
    ·have O:b y=a d0:=by rw[ah.e,if_neg e]at E0;exact E0
     refine aA (g.1 y d0 O) λG0 q K0=>?_
     refine(aw G0 q ?_)
     have M:an y≠an Z:=λz=>e (pW z)
     rcases K0 with⟨w1,w2⟩|⟨w1,w2⟩
     ·refine aL ⟨w1,?_⟩
      split
      ·show(if an y=an Z then _ else _)=_;rw[if_neg M];exact w2
      ·exact w2
     ·refine aI ⟨w1,?_⟩
      split
      ·exact w2
      ·show(if an y=an Z then _ else _)=_;rw[if_neg M];exact w2
   ·have e:y≠Z:=λe=>by subst e;rw[ah.e,if_pos rfl]at E0;exact bR E0
    have O:b y=ae:=by rw[ah.e,if_neg e]at E0;exact E0
    have q:=g.2 y O
    split
    ·exact q
    ·show(if an y=an Z then _ else _)=_
     rw[if_neg λz=>e (pW z)];exact q
theorem OU{y:aD}:∀{c:List (aD×gt)}{w:Nat}{P:List (aD×ai)},(P.lookup y).isSome=af->((wO w c P).lookup y).isSome=af:=by
 intro J
 induction J with
 |nil=>
  intro _ _ h
  exact h
 |cons f r U=>
  obtain⟨Z,I⟩:=f
  intro w P h
  unfold wO
  split
  ·refine U ?_
   rw[lb]
   split
   ·rfl
   ·exact h
  ·exact U h
theorem DD{y:aD}:∀{c:List (aD×gt)}{w:Nat}{P:List (aD×ai)},(y,dh)∈c->((wO w c P).lookup y).isSome=af:=by
 intro c
 induction c with
 |nil=>intro _ _ h;cases h
 |cons C r Y=>
  intro w P h
  obtain⟨Z,I⟩:=C
  unfold wO
  cases h with
  |head=>
   rw[if_pos (by decide)]
   refine OU (c:=r) ?_
   rw[lb]
   simp
  |tail _ h=>
   split
   ·exact Y h
   ·exact Y h
noncomputable def qs(g:aj)(k:aU)(L:Bool)(n:Nat)(G:aV)(p:List x)(f:ah->j->au (bA×ah)):Prop:=
 ∀(U:bo)(Q:List aN)(M:aN)(F:ai->Prop)(b:ah)(C:j)(D:Nat->Option ai)(H:ay),M.code=g->bq k L n U Q M G F b C D H.heap->
  ∀(Y:jf->ay->Prop)(g0:aj->ay->Prop),cV k L n U Q M G F C D H (f b C) Y g0->aR (aQ k.b k.c) U (wK p M) Y g0 H
theorem sb.d{g:aj}{p:List x}{f:ah->j->au (bA×ah)}(h:gF k L n G p f):qs g k L n G p f:=λU Q M F b C D H _ J=>h U Q M F b C D H J
theorem DE(J:lr k L (n+1) U Q F C D h)(q0:∀p o,h.get? p=a o->E.get? p=a o){N0:aN}{G:aV}{a0:aD->Option aj}(O:N0.scope.names=G)(B:N0.scope.kind=hH)(R:N0.globals=iL)(X:N0.builtins=pk)(S:N0.frame=a N0.locals)(M:h.get? N0.locals=ae)(H:E.Ns N0.locals a0)(c:N0.cells.Pairwise λZ y=>Z.2≠y.2)(l:∀Z T,b Z=a T->xy k D F E N0 a0 Z T)(m:∀Z,N0.kindOf (an Z)=a dh->b Z=ae->∃I,N0.cells.lookup (an Z)=a I/\E.IsCell I ae/\I≠k.e/\(∀r,D r≠a I)/\k.d.get? I=ae):bq k L n (U.deeper N0) (N0::Q) N0 G F b C D E:=by
 have P:=rO J.b M
 have u0:k.d.get? N0.locals=ae:=by
  generalize q:k.d.get? N0.locals=x9;induction x9 with
  |none=>rfl
  |some o=>have:=J.b.c _ o q;exact ig M this
 have f0:N0.locals≠k.e:=λz=>by refine aA (J.b.e) λZ0 p0 _=>?_;rw[<-z,M]at p0;exact bD p0
 have C1:∀r,D r≠a N0.locals:=λr j0=>J.b.f r _ j0 M
 refine{c:=ou J.b q0,g:=bo.frames_deeper J.d,d:=λe C0=>?_,i:=J.f,f:=⟨?_,?_⟩,names:=O,kind:=B,globals:=R,builtins:=X,Y0:=u0,I0:=C1,L0:=f0,r0:=(aw a0 H l),x0:=m,Q0:=c,J0:=(aw _ S S)}
 ·cases C0 with
  |head=>
   refine eJ (H) λo t0 X0 v z0 _=>?_
   exact⟨by rw[B];decide,_,o,t0,X0,S,v,z0,u0,C1,f0⟩
  |tail _ C0=>
   refine om (J.e e C0) λk1 s o t0 w g1 g2 g3=>?_
   exact⟨k1,s,o,t0,w,g1,q0 _ _ g2,g3⟩
 ·show U.depth+1+3*n+10<_
  rw[Ay U.depth 1];exact J.c.b
 ·show U.units+3+20*n+200<_
  rw[Ay U.units 3];exact el (dp _ 2) J.c.c
theorem aZ.leave{s:ai}{W0:List ai}{O0:ai->cu->Prop}(e:aZ k (s::W0) O0 C D E O A0 u)(q0:∀p o,h.get? p=a o->E.get? p=a o)(H0:h.get? s=ae)(b0:∀p o,h.get? p=a o->¬O0 p o):aZ k W0 bV C D h O A0 u:=by
 refine⟨λp o v y0 f0 _=>?_,e.c0,λr S j0 y0=>?_,e.m0,e.r0,λp W=>?_⟩
 ·have w:=e.V p o (q0 p o v) y0 f0 (b0 p o v)
  have W:p≠s:=λz=>by rw[z,H0]at v;exact bD v
  exact⟨λB0=>w.1 λL=>by cases L with|head=>exact W rfl|tail _ L=>exact B0 L,λB0=>w.2 (gK _ B0)⟩
 ·have:=e.i0 r S j0 y0
  generalize q:h.get? S=x9;induction x9 with
  |none=>rfl
  |some o=>exact fS (q0 S o q) this
 ·have:=e.g p W
  generalize q:h.get? p=x9;induction x9 with
  |none=>rfl
  |some o=>exact fS (q0 p o q) this
set_option backward.match.sparseCases true in
theorem DF{N0:aN}{I0:List x}{f:ah->j->au (bA×ah)}{t1:Nat}(J:lr k L (n+1) U Q F C D H.heap)(q0:∀p o,H.heap.get? p=a o->E.get? p=a o)(S1:bq k L n (U.deeper N0) (N0::Q) N0 G F b C D E)(S:N0.frame=a N0.locals)(M:H.heap.get? N0.locals=ae)(c:∀p o,H.heap.get? p=a o->¬eM N0 p o){g:aj}(u:N0.code=g)(V0:qs g k L n G I0 f)(m:aB k Q F C D H (bz k F) (sf (f b C)) (mM R) (mN R)):
 aR (aQ k.b k.c) (U.deeper N0) (wK I0 N0) (λf c1=>R (.ok (jy (match f with|.ret T=>T|_=>aS))) c1)
  (λe c1=>aR (aQ k.b k.c) (U.deeper N0) (Jh N0 e) (λ_ Y=>R (.error e) Y) (λP0 Y=>R (.error P0) Y) c1) {H with heap:=E,toks:=t1}:=by
 have h:bx (N0::Q)=N0.locals::bx Q:=by
  show(N0::Q).filterMap (·.frame)=_
  rw[Wi,S]
 refine V0 (U.deeper N0) (N0::Q) N0 F b C D {H with heap:=E,toks:=t1} u S1 _ _ ?_
 generalize j0:f b C=x9;induction x9 with
 |d=>rw[j0]at m;exact m
 |g O=>
  rw[j0]at m
  intro e A0 N t2 R2 e2 f2 a2
  refine Os (H:={H with heap:=N,toks:=t2}) S1.g (by show N0.frame=N0.frame;rfl) S1.c ⟨R2,e2,f2⟩ a2 S λh3 l a3=>?_
  have e3:=l.d
  rw[h]at e3
  refine m e A0 h3 t2 l.g (e3.leave q0 M c) ((a3.b (aL rfl)).b λp W=>?_)
  generalize q:H.heap.get? p=x9;induction x9 with
  |none=>rfl
  |some o=>exact fS (q0 p o q) W
 |b V O=>
  rw[j0]at m
  obtain⟨A,Z⟩:=V
  intro i0 A0 N t2 S2 e2 q
  rw[h]at e2
  have r1:=aZ.leave e2 q0 M c
  induction A with
  |b=>
   obtain rfl:i0=eF:=q
   exact m aS A0 N t2 S2.c r1 ox
  |d=>exact m.elim
  |c T=>
   refine aA (q) λG0 J0 h0=>?_;obtain rfl:=J0
   exact m G0 A0 N t2 S2.c r1 h0
theorem OV(Y:k.d.NoLimit)(J:lr k L (n+1) U Q F C D H.heap){S:ai}{o:cu}{G:fL}{I0:List x}{c:List ak}{X:List A}{s0 B:List aj}{M:List A}{f:ah->j->au (bA×ah)}(v:H.heap.get? S=a o)(z0:o.data=lH G)(R0:H.heap.CodeRec G.code G.qualname)(h1:G.closure=[])(g:ur G I0)(W:BindsTo H G ⟨s0,[]⟩ ((c.map an).zip B))(t:∀Z∈c,G.scope.names.lookup (an Z)=a .local\/G.scope.names.lookup (an Z)=a dh)(j0:aJ k D F H.heap M B)(O:fD c M (λ_=>ae)=a b)(V0:qs G.code k L n G.scope.names I0 f)(m:aB k Q F C D H (bz k F) (sf (f b C)) (mM R) (mN R)):je (aQ k.b k.c) U (la (ax S) ⟨s0,[]⟩) R H:=by
 refine codeAny_call_function (by have:=J.c.b;exact el (az (dp _ _) (dp _ _)) this) v z0 g.co g.gen g.b R0 (W _ _ _ _ ?_)
 rw[h1,g.globals,g.builtins]
 have g0:∀y∈(c.map an).zip B,∃Z∈c,y.1=an Z:=λy E0=>by
  obtain⟨N,y2⟩:=y
  refine aA (iq.mp (List.of_mem_zip E0).1) λZ b0 e=>?_
  exact(aw Z b0 e.symm)
 refine wpAny_newFunctionEnv_cells g.kind (λy E0=>?_) λN0 C0 c1 Z=>?_
 ·refine aA (g0 y E0) λZ b0 e=>?_
  rw[e]
  rcases t Z b0 with h|h
  ·exact aL h
  ·exact aI ⟨h,DD (wP h)⟩
 ·refine fw (Z.done) λE t1 n0 i=>?_;obtain rfl:=n0
  have h0:H.heap.NoLimit:=Y.keeps J.b.c
  refine⟨h0.keeps Z.toInCall.keep,codeAny_func ?_⟩
  have H0:H.heap.get? N0.locals=ae:=by subst C0;exact nS (bS _)
  have l:N0.frame=a N0.locals:=by subst C0;rfl
  have c0:∀y,N0.kindOf y=G.scope.names.lookup y:=λy=>by subst C0;rfl
  have i0:N0.cells=wO (H.heap.objs.size+1) G.scope.names []:=by subst C0;rfl
  have V:∀y I,(y,I)∈N0.cells->H.heap.get? I=ae:=λy I e0=>by
   have:=Z.above y I e0
   refine nS (fB ?_)
   have e:N0.locals=H.heap.objs.size:=by subst C0;rfl
   rw[e]at this;exact this
  have f0:∀y,N0.kindOf (an y)=a dh->∃I,N0.cells.lookup (an y)=a I:=λy E0=>by
   rw[c0]at E0
   have:=DD (w:=H.heap.objs.size+1) (P:=[]) (wP E0)
   rw[<-i0]at this
   exact WH.mp this
  have v1:∀p,H.heap.get? p=ae->k.d.get? p=ae:=λp W=>by
   generalize q:k.d.get? p=x9;induction x9 with
   |none=>rfl
   |some o=>have:=J.b.c _ o q;exact ig W this
  have o1:∀p,H.heap.get? p=ae->p≠k.e:=λp W z=>by refine aA (J.b.e) λZ0 p0 _=>?_;rw[<-z,W]at p0;exact bD p0
  have d0:=OT (k:=k) (D:=D) (F:=F) (h:=H.heap) (u:=N0.kindOf) (b:=λ_=>ae) (a0:=λ_=>ae) (d:=λ_=>ae) ⟨λ_ _ z=>(nomatch z),λ_ _=>rfl⟩ (λz s=>by rw[c0];exact t z s) j0 O
  have S1:bq k L n (U.deeper N0) (N0::Q) N0 G.scope.names F b C D E:=by
   refine DE J i (by subst C0;rfl) (by subst C0;exact g.kind) (by subst C0;rfl) (by subst C0;rfl) l H0 Z.toInCall.ns Z.apart (λy T E0=>?_) λy E0 k0=>?_
   ·refine aA (d0.1 y T E0) λG0 q K0=>?_
    refine(aw G0 (aC.b (iO (W0:=[]) (O0:=bV) (C:=C) i) J.b (cM _) (λ_ z=>nomatch z) _ _ q) ?_)
    rcases K0 with K0|⟨w1,w2⟩
    ·exact aL K0
    ·obtain⟨I,e0⟩:=f0 y w1
     refine aI ⟨aL w1,I,e0,?_,o1 I (V _ I (wP e0))⟩
     rw[<-w2];exact Z.cell _ I e0
   ·obtain⟨I,e0⟩:=f0 y E0
    have y0:=V _ I (wP e0)
    refine(lf I e0 ?_ (o1 I y0) (λr j0=>J.b.f r _ j0 y0) (v1 I y0))
    rw[<-d0.2 y k0];exact Z.cell _ I e0
  refine DF J i S1 l H0 (λp o v z=>?_) (by subst C0;rfl) V0 m
  rcases z with z|⟨_,y,E0⟩
  ·rw[z,H0]at v;exact bD v
  ·exact ig (V y p E0) v
end
end Mine.Internal
set_option tactic.hygienic false
namespace Mine.Internal
open PySem PySem.W PySem.Calls PyProof.Rows Builtin Builtin.ObjectAttr
section
variable{C:iK}{d0:gZ}{U:bo}{g0:aj->ay->Prop}{R:fC->ay->Prop}{h:aG}{r0:Array rk}{d:pj}{t:Nat}{b:rl}
variable{v0 q:aD}{x M0:ai}{a0 E:List aj}{X:Bool}{s0:List aD}{y0:List aj}{G0:Bool}{J0:Option Bool}{h0:Option ai}{m0 k1 l B k5:Option aj}
noncomputable abbrev fF(i:List aj):cu:={cls:=aK "tuple",data:=sZ i.toArray}
noncomputable abbrev jH(x I:ai):cu:={cls:=ax x,data:=bO #[ax I,aS,aS,aS,eQ av,aS]}
theorem OW{z:mz}{i:List aj}{Y:Unit->ay->Prop}(f:h.get? x=a (nY v0 q x M0 a0 E X s0 y0 G0 J0 h0 m0 k1 l B k5 "Exception.__new__"))(b0:E.contains (aK "Exception")=af)(x0:Y () ⟨h,r0,d,t,b⟩):aR z U (Br "Exception.__new__" ⟨ax x::i,[]⟩) Y g0 ⟨h,r0,d,t,b⟩:=by
 have F:=tz
 have C:(ax x::E).contains (aK "Exception")=af:=by rw[tA,b0,Bs]
 have R:=F.noStar
 unfold Br
 rw[F.newKind,F.newSplit,F.newRow]
 dsimp only
 rw[if_pos (show("__new__"=="__new__")=af from rfl)]
 repeat(first|refine rm f ?_|(refine tB f ?_;rw[C])|refine WI f ?_|refine WJ f ?_|simp only[bne_self_eq_false,pJ,if_false]|wp_step)
 exact x0
theorem OX{i:List aj}(f:h.get? x=a (nY v0 q x M0 a0 E X s0 y0 G0 J0 h0 m0 k1 l B k5 "Exception.__new__"))(b0:E.contains (aK "Exception")=af)(S:E.contains (aK "AttributeError")=av)(n:E.contains (aK "NameError")=av)(x0:R (.ok (jy (ax (h.objs.size+1)))) ⟨(h.push (fF i)).push (jH x h.objs.size),r0,d,t,b⟩)(A0:i.length<=lK):
 je (aQ C d0) U (lN "Exception.__new__" ⟨ax x::i,[]⟩) R ⟨h,r0,d,t,b⟩:=by
 have F:=tz
 have T:=F.ends
 have B0:(ax x::E).contains (aK "Exception")=af:=by rw[tA,b0,Bs]
 have H:(ax x::E).contains (aK "AttributeError")=av:=by rw[tA,S];rfl
 have M:(ax x::E).contains (aK "NameError")=av:=by rw[tA,n];rfl
 refine codeAny_builtinAt F.entry ?_
 unfold Builtin.«BaseException.__new__»
 refine WK ?_
 show PySem.wpAt _ _ _ (stack>>=_) _ _ _
 refine WK (PySem.wpAt_stack λV Y=>WL ?_)
 wp_walk
 refine WL ?_
 rw[F.owner]
 repeat(first|with_reducible refine wpAny_madeHere_exc F.canon f ?_|with_reducible refine rm f ?_|(with_reducible refine tB f ?_;first|rw[B0]|rw[H]|rw[M])|wp_step)
 show R _ _
 rw[tq]
 exact x0
end
namespace ut
noncomputable def E0(C:iK)(d0:gZ)(U:bo)(R:fC->ay->Prop)(h:aG)(r0:Array rk)(d:pj)(t:Nat)(b:rl)(v0 q:aD)(x M0:ai)(a0 E:List aj)(X:Bool)(s0:List aD)(y0:List aj)(G0:Bool)(J0:Option Bool)(h0:Option ai)(m0 k1 l B k5:Option aj)(g:dF)(c:ai)(i:List aj):Prop:=∀(k:g.In h)(f:h.get? x=a (nY v0 q x M0 a0 E X s0 y0 G0 J0 h0 m0 k1 l B k5 "Exception.__new__"))(b0:E.contains (aK "Exception")=af)(S:E.contains (aK "AttributeError")=av)(n:E.contains (aK "NameError")=av)(M:specialIn g (ax x) "__call__"=a (a (cv "type.__call__")))(V:instIn g (ax x) (aK "type")=a af)(f0:kY g (ax x) "__init__"=a (a (ax c)))(B0:Ij g (ax c)=a (aK "function"))(A0:i.length<=lK)(x0:je (aQ C d0) (U.under (lN "type.__call__" ⟨ax x::i,[]⟩)) (la (ax c) ⟨ax (h.objs.size+1)::i,[]⟩) (InitBack (h.objs.size+1) R) ⟨(h.push (fF i)).push (jH x h.objs.size),r0,d,t,b⟩),je (aQ C d0) U (la (ax x) ⟨i,[]⟩) R ⟨h,r0,d,t,b⟩
noncomputable def O0:iK×gZ×bo×(fC->ay->Prop)×aG×(Array rk)×pj×Nat×rl×aD×aD×ai×ai×(List aj)×(List aj)×Bool×(List aD)×(List aj)×Bool×(Option Bool)×(Option ai)×(Option aj)×(Option aj)×(Option aj)×(Option aj)×(Option aj)×dF×ai×(List aj)->Prop:=W λC=>W λd0=>W λU=>W λR=>W λh=>W λr0=>W λd=>W λt=>W λb=>W λv0=>W λq=>W λx=>W λM0=>W λa0=>W λE=>W λX=>W λs0=>W λy0=>W λG0=>W λJ0=>W λh0=>W λm0=>W λk1=>W λl=>W λB=>W λk5=>W λg=>W λc=>λi=>E0 C d0 U R h r0 d t b v0 q x M0 a0 E X s0 y0 G0 J0 h0 m0 k1 l B k5 g c i
def c0:=dQ (J (bY Cr (bY tQ (J (J (J (bY Lm (J (J (J (J (J (J (J (J (J (J (J (J (J (J (J (J (J (J (J (J (J inferInstance)))))))))))))))))))))))))))) O0
def C:iK:=c0.1
def d0:gZ:=c0.2.1
def U:bo:=c0.2.2.1
noncomputable def R:fC->ay->Prop:=c0.2.2.2.1
def h:aG:=c0.2.2.2.2.1
def r0:Array rk:=c0.2.2.2.2.2.1
def d:pj:=c0.2.2.2.2.2.2.1
def t:Nat:=c0.2.2.2.2.2.2.2.1
def b:rl:=c0.2.2.2.2.2.2.2.2.1
def v0:aD:=c0.2.2.2.2.2.2.2.2.2.1
def q:aD:=c0.2.2.2.2.2.2.2.2.2.2.1
def x:ai:=c0.2.2.2.2.2.2.2.2.2.2.2.1
def M0:ai:=c0.2.2.2.2.2.2.2.2.2.2.2.2.1
def a0:List aj:=c0.2.2.2.2.2.2.2.2.2.2.2.2.2.1
def E:List aj:=c0.2.2.2.2.2.2.2.2.2.2.2.2.2.2.1
def X:Bool:=c0.2.2.2.2.2.2.2.2.2.2.2.2.2.2.2.1
def s0:List aD:=c0.2.2.2.2.2.2.2.2.2.2.2.2.2.2.2.2.1
def y0:List aj:=c0.2.2.2.2.2.2.2.2.2.2.2.2.2.2.2.2.2.1
def G0:Bool:=c0.2.2.2.2.2.2.2.2.2.2.2.2.2.2.2.2.2.2.1
def J0:Option Bool:=c0.2.2.2.2.2.2.2.2.2.2.2.2.2.2.2.2.2.2.2.1
def h0:Option ai:=c0.2.2.2.2.2.2.2.2.2.2.2.2.2.2.2.2.2.2.2.2.1
def m0:Option aj:=c0.2.2.2.2.2.2.2.2.2.2.2.2.2.2.2.2.2.2.2.2.2.1
def k1:Option aj:=c0.2.2.2.2.2.2.2.2.2.2.2.2.2.2.2.2.2.2.2.2.2.2.1
def l:Option aj:=c0.2.2.2.2.2.2.2.2.2.2.2.2.2.2.2.2.2.2.2.2.2.2.2.1
def B:Option aj:=c0.2.2.2.2.2.2.2.2.2.2.2.2.2.2.2.2.2.2.2.2.2.2.2.2.1
def k5:Option aj:=c0.2.2.2.2.2.2.2.2.2.2.2.2.2.2.2.2.2.2.2.2.2.2.2.2.2.1
def g:dF:=c0.2.2.2.2.2.2.2.2.2.2.2.2.2.2.2.2.2.2.2.2.2.2.2.2.2.2.1
def c:ai:=c0.2.2.2.2.2.2.2.2.2.2.2.2.2.2.2.2.2.2.2.2.2.2.2.2.2.2.2.1
def i:List aj:=c0.2.2.2.2.2.2.2.2.2.2.2.2.2.2.2.2.2.2.2.2.2.2.2.2.2.2.2.2
theorem Q0:E0 C d0 U R h r0 d t b v0 q x M0 a0 E X s0 y0 G0 J0 h0 m0 k1 l B k5 g c i:=by
 intro k f b0 S n M V f0 B0 A0 x0
 have F:=tz
 have D:hJ (aQ C d0) h (specialOf (ax x) "__call__") (a (cv "type.__call__")):=looks_specialIn k M
 have Z:hJ (aQ C d0) h (Jk (ax x) (aK "type")) af:=looks_instIn k V
 refine codeAny_of_tree ?_
 show aR _ _ (callAny (ax x) _) _ _ _
 refine nd_load f ?_
 show aR _ _ (callAny.viaDunder (ax x) _) _ _ _
 unfold callAny.viaDunder
 refine bk (D.at ?_)
 dsimp only
 rw[tc_bind]
 refine bk (cJ (bk (cJ ?_)))
 refine cJ (a:=Fin.again (la (cv "type.__call__") ⟨ax x::i,[]⟩)) (And.intro rfl ?_)
 refine codeAny_call_builtin_at (Bt _ (by decide+kernel)) entry_typeCall (WM tc_kind tc_split Z (tc_args _ _ _) ?_)
 unfold Builtin.«type.__call__»
 have L:hJ (aQ C d0) h (mroOf (ax x)) (ax x::E):=((hJ.ld (part:=ae) f).andThen .now).andThen .now
 have Q:hJ (aQ C d0) h (Bind.madeBy (ax x)) (a "Exception.__new__"):=by
  intro U Y g0 H w q
  obtain⟨p0,r0,d,D0,b⟩:=H
  exact WJ (w _ _ f) q
 have L0:hJ (aQ C d0) h (Bind.staticBase (ax x)) (ax x):=by
  intro U Y g0 H w q
  obtain⟨p0,r0,d,D0,b⟩:=H
  exact WI (w _ _ f) q
 have v:hJ (aQ C d0) h (isSubtype (ax x) (ax x)) af:=by
  intro U Y g0 H w q
  obtain⟨p0,r0,d,D0,b⟩:=H
  have J:(ax x::E).contains (ax x)=af:=by simp
  exact tB (w _ _ f) (by rw[J];exact q)
 repeat(first|simp only[pJ,if_false]|with_reducible refine qX ?_|lk)
 refine codeAny_call_builtin_code (Bt _ F.quiet) (OW f b0 ?_)
 refine OX f b0 S n ?_ A0
 have w:∀p o,h.get? p=a o->((h.push (fF i)).push (jH x h.objs.size)).get? p=a o:=λp o e=>cc _ (cc _ e)
 have O:((h.push (fF i)).push (jH x h.objs.size)).get? (h.objs.size+1)=a (jH x h.objs.size):=by heap_get
 have t1:hJ (aQ C d0) ((h.push (fF i)).push (jH x h.objs.size)) (Iw (ax (h.objs.size+1))) (ax x):=(hJ.ld O).andThen .now
 have s1:=v.keeps w
 have S1:=(IS (M:=aQ C d0) k f0).keeps w
 have b1:=(bind_fn (M:=aQ C d0) k (ax (h.objs.size+1)) B0).keeps w
 unfold Jk callSpecial? specialOf
 repeat(first|with_reducible refine qX ?_|lk)
 refine codeAny_mono x0 λr c1 z=>?_
 rcases r with e|(T|_|_|_)<;>first|exact z|exact z.elim|skip
 obtain⟨rfl,z⟩:=z
 exact cJ (cJ z)
end ut
theorem OY{C:iK}{d0:gZ}{U:bo}{R:fC->ay->Prop}{h:aG}{r0:Array rk}{d:pj}{t:Nat}{b:rl}{v0 q:aD}{x M0:ai}{a0 E:List aj}{X:Bool}{s0:List aD}{y0:List aj}{G0:Bool}{J0:Option Bool}{h0:Option ai}{m0 k1 l B k5:Option aj}{g:dF}{c:ai}{i:List aj}:ut.E0 C d0 U R h r0 d t b v0 q x M0 a0 E X s0 y0 G0 J0 h0 m0 k1 l B k5 g c i:=dS (Y:=ut.O0) ut.Q0 (C,d0,U,R,h,r0,d,t,b,v0,q,x,M0,a0,E,X,s0,y0,G0,J0,h0,m0,k1,l,B,k5,g,c,i)
section
variable{C:iK}{d0:gZ}{U:bo}{g0:aj->ay->Prop}{R:fC->ay->Prop}{h:aG}{r0:Array rk}{d:pj}{t:Nat}{b:rl}
variable{v0 q:aD}{x M0:ai}{a0 E:List aj}{X:Bool}{s0:List aD}{y0:List aj}{G0:Bool}{J0:Option Bool}{h0:Option ai}{m0 k1 l B k5:Option aj}
theorem OZ{g:dF}{Z A:ai}{X:Array aj}{O:aD}{T:aj}{Y:Unit->ay->Prop}(k:g.In h)(f:h.get? x=a (nY v0 q x M0 a0 [ax A,aK "Exception",aK "BaseException",aK "object"] af s0 y0 G0 J0 h0 m0 k1 l B k5 "Exception.__new__"))(D:kY g (ax x) "__setattr__"=a (a (cv "object.__setattr__")))(J:kY g (ax x) O=a ae)(b0:h.get? Z=a {cls:=ax x,data:=bO X})(x0:∀u D0 i0,(∀p n0,p≠Z->h.get? p=a n0->u.get? p=a n0)->u.get? Z=a {cls:=ax x,dict:=a i0,data:=bO X}->h.get? i0=ae->Y () ⟨u,r0,d,D0,b⟩):
 aR (aQ C d0) U (setAttr (ax Z) O T) Y g0 ⟨h,r0,d,t,b⟩:=by
 have V0:InstAt h Z {cls:=ax x,data:=bO X} x ae:=⟨b0,rfl,rfl,trivial⟩
 refine set_plain (s:=⟨h,r0,d,t,b⟩) k V0 D ?_
 have E:=Aae
 have n:=Aaf
 have F:hJ (aQ C d0) h (Jk (ax Z) (aK "object")) af:=by
  refine V0.type.andThen ?_
  intro U Y g0 H w q
  obtain⟨p0,r0,d,D0,b⟩:=H
  exact tB (w _ _ f) q
 refine Jl E.slot.plain E.entry (@WM (aQ C d0) _ _ ⟨h,r0,d,t+1,b⟩ "object.__setattr__" "object" "__setattr__" (ax Z) [dG O t,T] [] _ E.kind E.split F (E.args (ax Z) (dG O t) T) ?_)
 have L:hJ (aQ C d0) h (mroOf (ax x)) (ax x::[ax A,aK "Exception",aK "BaseException",aK "object"]):=((hJ.ld (part:=ae) f).andThen .now).andThen .now
 have c:hJ (aQ C d0) h (Jm (ax x) O) ae:=IS k J
 have i:hJ (aQ C d0) h (classData x) {name:=v0,bases:=a0,mro:=ax x::[ax A,aK "Exception",aK "BaseException",aK "object"],ns:=M0,qualname:=q,hasDict:=af,slotNames:=s0,subclasses:=y0,abstract:=G0,collection:=J0,hasDel:=av}:=(hJ.ld (part:=ae) f).andThen .now
 have v:hJ (aQ C d0) h (storeTaker? ae) ae:=.now
 rw[osa_eq,refuse_eq]
 refine bk (bk (V0.type.here (bk (L.here ?_))))
 rw[WN,WN,n.passes]
 refine cJ (bk (V0.type.here (bk (c.here (bk (v.here ?_))))))
 refine bk (cJ (bk (bk (Il b0 (bk (i.here ?_))))))
 have S:(h.push {cls:=aK "dict",data:=eo #[]}).get? Z=a {cls:=ax x,data:=bO X}:=cc _ b0
 have i2:Z≠h.objs.size:=bC (jU b0)
 dsimp only
 rw[if_neg (by decide),if_neg (by simp[typeHasDict])]
 refine bk (wpAny_alloc' ?_)
 refine bk (wpAny_update' S ?_)
 refine cJ ?_
 have r:((h.push {cls:=aK "dict",data:=eo #[]}).update Z λo=>{cls:=o.cls,dict:=a h.objs.size,data:=o.data,slots:=o.slots}).get? h.objs.size
  =a {cls:=aK "dict",data:=eo #[]}:=
  (WO _ _ _ _ i2.symm).trans (aG.get?_push_at rfl rfl)
 have V:((h.push {cls:=aK "dict",data:=eo #[]}).update Z λo=>{cls:=o.cls,dict:=a h.objs.size,data:=o.data,slots:=o.slots}).Ns h.objs.size (λ_=>ae):=
  (dY _ (#[]) _ r rfl (λe C0=>absurd C0 (by simp)) (λ_=>rfl))
 show aR _ _ (storeInDict h.objs.size (dG O t) O T) _ _ _
 unfold storeInDict newKeyGuard
 refine bk (cJ (bk (wpAny_nsSet1 (aG.Ns1.of_empty V) λu R l0=>?_)))
 refine eJ (R.count (Within.cons O T Within.nil)) λG y m z I M=>?_
 refine bk (VJ z (by rw[I];exact VK (az M (by rw[fi,Jn,ga];exact by decide))) ?_)
 refine cJ ?_
 refine x0 u _ h.objs.size (λp n0 Q W=>(l0.2 p (bC (jU W))).trans ((WO _ _ _ _ Q).trans (cc _ W))) ?_ (nS (bS _))
 exact(l0.2 Z i2).trans (mw _ S rfl)
theorem Pa:findCls [] (aK "Exception") (aK "type") "__init__"=a (.val (cv "Exception.__init__")):=by kernel_rfl
theorem Pb{z:mz}{e:ai}{y:cu}{i:List aj}{Y:Unit->ay->Prop}(f:h.get? x=a (nY v0 q x M0 a0 E X s0 y0 G0 J0 h0 m0 k1 l B k5 "Exception.__new__"))(b0:E.contains (aK "Exception")=af)(C0:h.get? e=a y)(C:y.cls=ax x)(x0:Y () ⟨h,r0,d,t,b⟩):
 aR z U (Br "Exception.__init__" ⟨ax e::i,[]⟩) Y g0 ⟨h,r0,d,t,b⟩:=by
 have F:=tz
 have B0:(ax x::E).contains (aK "Exception")=af:=by rw[tA,b0,Bs]
 have R:=F.noStar
 unfold Br
 rw[F.initKind,F.initSplit,F.initRow]
 dsimp only
 repeat(first|(with_reducible refine rm C0 ?_;rw[C])|with_reducible refine rm f ?_|(with_reducible refine tB f ?_;rw[B0])|wp_step)
 refine wpAny_onRaise ?_
 rw[show∀(S p:String)(n:Nat),Bind.check ⟨.positional,"*","Exception",.self,[⟨"args",.varPos,av⟩]⟩ S p n (mB (λZ=>Z.fst) ({pos:=ax e::i}:Args).kw)=bI ()from
  λS p n=>check_star_args _ _ _ _ _ _]
 exact cJ x0
theorem Pc{Z I:ai}{i:List aj}(f:h.get? x=a (nY v0 q x M0 a0 E X s0 y0 G0 J0 h0 m0 k1 l B k5 "Exception.__new__"))(S:E.contains (aK "Exception")=af)(b0:h.get? Z=a (jH x I))(A0:i.length<=lK)(x0:R (.ok (jy aS)) ⟨(h.push (fF i)).update Z (jz λy=>y.setIfInBounds 0 (ax h.objs.size)),r0,d,t,b⟩):
 je (aQ C d0) U (la (cv "Exception.__init__") ⟨ax Z::i,[]⟩) R ⟨h,r0,d,t,b⟩:=by
 have F:=tz
 refine Jl F.init.plain F.initEntry (Pb f S b0 rfl ?_)
 wp_walk
 exact x0
structure DG(G:fL):Prop where
 shape:∃p1 p2 P L Q w s p8 p9 c0,G.body=.stmts [rj (cQ (iu (aY "Exception" p1) "__init__" p2) [aY "self" P,aY "text" L] [] Q) w,gc [iu (aY "self" s) "text" p8] (aY "text" p9) c0]/\
  ue (aY "Exception" p1) "__init__" p2 Q [aY "self" P,aY "text" L]/\(∀M,gB (cQ (iu (aY "Exception" p1) "__init__" p2) [aY "self" P,aY "text" L] [] Q) ae w.line M=bI av)/\
  (∀M,gB (aY "text" p9) (a (iu (aY "self" s) "text" p8)) c0.line M=bI av)/\(∀M,(hO Q (dq [aY "self" P,aY "text" L] M))=[(av,bP (aY "self" P) M),(av,bP (aY "text" L) M)])
 closure:G.closure=[]
 globals:G.globals=iL
 builtins:G.builtins=pk
 kind:G.scope.kind=hH
 co:G.scope.isCoroutine=av
 gen:G.scope.isGenerator=av
 names:G.scope.names=[(("self":aD),gt.local),(("text":aD),gt.local),(("Exception":aD),dI)]
 bind:∀S p,rq G ⟨[S,p],[]⟩=bI [(("self":aD),S),(("text":aD),p)]
set_option maxHeartbeats 2000000 in
theorem Pd{g:dF}{c Z A I:ai}{G:fL}{V:cu}{T:aj}{H X:aD->Option aj}(k:g.In h)(f:h.get? x=a (nY v0 q x M0 a0 [ax A,aK "Exception",aK "BaseException",aK "object"] af s0 y0 G0 J0 h0 m0 k1 l B k5 "Exception.__new__"))(D:kY g (ax x) "__setattr__"=a (a (cv "object.__setattr__")))(J:kY g (ax x) "text"=a ae)(b0:h.get? Z=a (jH x I))(j0:Z≠x)(Y:h.NoLimit)(e:U.depth<AE)(l0:h.get? c=a V)(F0:V.data=lH G)(R0:h.CodeRec G.code G.qualname)(m:DG G)(H0:h.Ns iL H)(L0:h.Ns pk X)(O0:H "Exception"=ae)(P0:X "Exception"=a (aK "Exception"))(x0:∀u D0 a1 i0,(∀p n0,p≠Z->h.get? p=a n0->u.get? p=a n0)->u.get? Z=a {cls:=ax x,dict:=a i0,data:=bO #[ax a1,aS,aS,aS,eQ av,aS]}->R (.ok (jy aS)) ⟨u,r0,d,D0,b⟩)(S0:∀u,(∀p n0,p≠Z->h.get? p=a n0->u.get? p=a n0)->g.In u):
 je (aQ C d0) U (la (ax c) ⟨[ax Z,T],[]⟩) R ⟨h,r0,d,t,b⟩:=by
 refine JZ (m.shape) λp1 p2 P L Q w s p8 p9 c0 V0 T0 U0 W0 B0=>?_
 have k0:∀y,G.scope.names.lookup y=IW y [(("self":aD),gt.local),(("text":aD),gt.local),(("Exception":aD),dI)]:=λy=>by rw[m.names]
 refine WP (s:=⟨h,r0,d,t,b⟩) e l0 F0 Y R0 V0 (BindsTo.of_eq (m.bind (ax Z) T)) (by rw[m.names];decide) (by rw[m.names];intro y E0;rcases E0 with _|⟨_,_|⟨_,E0⟩⟩<;>first|rfl|cases E0) (λE d1 i=>?_) m.co m.gen m.kind
 have n:∀p o,h.get? p=a o->E.get? p=a o:=i
 have j:E.Ns h.objs.size (λy=>([(("self":aD),ax Z),(("text":aD),T)]:List (aD×aj)).reverse.lookup y):=d1
 generalize o0:callEnv G h.objs.size c=M
 have e1:M.scope=G.scope:=by rw[<-o0];rfl
 have e2:M.locals=h.objs.size:=by rw[<-o0];rfl
 have e3:M.globals=iL:=by rw[<-o0];exact m.globals
 have e4:M.builtins=pk:=by rw[<-o0];exact m.builtins
 have S:∀y,M.kindOf y=G.scope.names.lookup y:=λy=>by rw[<-o0];rfl
 have O:M.scope.kind=hH:=by rw[e1];exact m.kind
 have e0:M.kindOf "self"=a .local:=by rw[S,k0];rfl
 have I0:M.kindOf "text"=a .local:=by rw[S,k0];decide
 have g0:M.kindOf "Exception"=a dI:=by rw[S,k0];decide
 have f0:Bj M=av:=by unfold Bj;rw[O];rfl
 have X1:E.Ns M.locals (λy=>([(("self":aD),ax Z),(("text":aD),T)]:List (aD×aj)).reverse.lookup y):=by rw[e2];exact j
 refine rg (Jj ?_ f0 (U0 M))
 refine aF (T0 M) λA0 C0=>?_
 refine IQ (pl:=A0) (Iv O g0 (VM (by rw[e3];exact mK H0 n) O0 (by rw[e4];exact mK L0 n) P0 ?_) (by decide)) C0
 refine method_type (K:=[]) (h₀:=h) (L:=M.locals) ⟨X1,n,by rw[e2];exact bS _⟩ (λ_ _ z=>nomatch z) (by kernel_rfl) (by decide+kernel) Pa (by decide+kernel) ?_
 rw[B0]
 have F:=tz
 refine uf rfl (nV (ww (tc (v:=ax Z) O e0 X1 (by rfl) (nV (ww (tc (v:=T) O I0 X1 (by rfl) (pw ?_)) (by decide)))) (by decide)))
 have Y0:=n _ _ f
 have p0:=n _ _ b0
 refine qX ?_
 show je (aQ C d0) (U.deeper M) (la (cv "Exception.__init__") ⟨[ax Z,T],[]⟩) _ ⟨E,r0,d,_,b⟩
 refine Pc Y0 (by simp) p0 (by rw[ga];show 1<=16777216;decide) ?_
 show aR _ _ (wK _ _) _ _ _
 have q0:∀p n0,p≠Z->E.get? p=a n0->((E.push (fF [T])).update Z (jz λy=>y.setIfInBounds 0 (ax E.objs.size))).get? p=a n0:=λp n0 W v=>(tx _ _ (iJ W)).trans (cc _ v)
 have K0:((E.push (fF [T])).update Z (jz λy=>y.setIfInBounds 0 (ax E.objs.size))).get? Z=a {cls:=ax x,data:=bO #[ax E.objs.size,aS,aS,aS,eQ av,aS]}:=
  mw _ (cc _ p0) rfl
 generalize N0:(E.push (fF [T])).update Z (jz λy=>y.setIfInBounds 0 (ax E.objs.size))=N at q0 K0
 have Z0:M.locals≠Z:=λz=>by
  refine eJ (X1) λo t0 X0 v z0 _=>?_
  rw[z,p0]at v;cases v;cases z0
 have B2:N.Ns M.locals (λy=>([(("self":aD),ax Z),(("text":aD),T)]:List (aD×aj)).reverse.lookup y):=by
  refine gg (X1) λo t0 X0 v r=>?_
  exact(jA o t0 X0 (q0 _ _ Z0 v) r)
 refine rg (WA (ww (tc (v:=T) O I0 B2 (by rfl) (ww (tc (v:=ax Z) O e0 B2 (by rfl) ?_) (by decide))) (by decide)) (W0 M))
 have u0:∀p n0,p≠Z->h.get? p=a n0->N.get? p=a n0:=λp n0 W v=>q0 p n0 W (n _ _ v)
 refine OZ (S0 N u0) (u0 _ _ (iJ j0) f) D J K0 λh3 D0 i0 w0 b1 Q0=>pM ?_
 exact x0 h3 D0 E.objs.size i0 (λp n0 W v=>w0 p n0 W (u0 p n0 W v)) b1
end
end Mine.Internal
set_option tactic.hygienic false
namespace Mine.Internal
open PySem PySem.W PySem.Calls PyProof.Rows
structure si(k:aU):Prop where
 mg:k.i (an 11)=a (ax k.g)
 exMg:k.i "Exception"=ae
 exMb:k.m "Exception"=a (aK "Exception")
 obj:∃v0 q M0 a0 A s0 y0 G0 J0 h0 m0 k1 l B k5,k.d.get? k.g=a (nY v0 q k.g M0 a0 [ax A,aK "Exception",aK "BaseException",aK "object"] af s0 y0 G0 J0 h0 m0 k1 l B k5 "Exception.__new__")
 call:specialIn k.h (ax k.g) "__call__"=a (a (cv "type.__call__"))
 typ:instIn k.h (ax k.g) (aK "type")=a af
 keep:to k.h (ax k.g)=af
 sa:kY k.h (ax k.g) "__setattr__"=a (a (cv "object.__setattr__"))
 text:kY k.h (ax k.g) "text"=a ae
 init:∃c V G,kY k.h (ax k.g) "__init__"=a (a (ax c))/\Ij k.h (ax c)=a (aK "function")/\k.d.get? c=a V/\V.data=lH G/\k.d.CodeRec G.code G.qualname/\DG G
section
variable{C:iK}{d0:gZ}{z:mz}{U:bo}{g0:aj->ay->Prop}
variable{v0 q:aD}{x M0:ai}{a0 E:List aj}{X:Bool}{s0:List aD}{y0:List aj}{G0:Bool}{J0:Option Bool}{h0:Option ai}{m0 k1 l B k5:Option aj}{p:String}
theorem Pe{H:ay}{M:aN}{Z:gu aj}{Y:jf->ay->Prop}(g:E.contains (aK "BaseException")=af)(T0:U.handled=ae)(h:aR z U Z (λT c=>∃e i0 t,T=ax e/\c.heap.get? x=a (nY v0 q x M0 a0 E X s0 y0 G0 J0 h0 m0 k1 l B k5 p)/\
   c.heap.get? e=a {cls:=ax x,dict:=a i0,data:=bO #[ax t,aS,aS,aS,eQ av,aS]}/\g0 (ax e) c) g0 H):
 aR z U (raiseStmt M (a Z) ae) Y g0 H:=by
 have B0:(ax x::E).contains (aK "BaseException")=af:=by rw[tA,g,Bs]
 unfold raiseStmt
 refine bk (pI h (λT c H0=>?_) λ_ _ Z=>Z)
 refine lj (H0) λe i0 t V0 f C0 o0=>?_;obtain rfl:=V0
 obtain⟨p0,r0,d,D0,b⟩:=c
 repeat(first|with_reducible refine rm C0 ?_|with_reducible refine rm f ?_|(with_reducible refine tB f ?_;rw[B0])|wp_step)
 exact WQ T0 o0
end
section
variable{k:aU}{L:Bool}{n:Nat}{U:bo}{Q:List aN}{M:aN}{G:aV}{F:ai->Prop}{b o0:ah}{m C O:j}{d0 D A0:Nat->Option ai}{H:ay}{n0 h u E:aG}{g0:aj->ay->Prop}{c:v}
theorem Pf(L0:cn k)(S:si k){T:aj}{Y:aj->ay->Prop}(J:bZ k L n U Q F C D H.heap)(x0:∀u D0 e i0 a1,(∀p o,H.heap.get? p=a o->u.get? p=a o)->H.heap.get? e=ae->u.get? e=a {cls:=ax k.g,dict:=a i0,data:=bO #[ax a1,aS,aS,aS,eQ av,aS]}->Y (ax e) {H with heap:=u,toks:=D0}):
 aR (aQ k.b k.c) U (gb (ax k.g) [T]) Y g0 H:=by
 refine xi (S.obj) λv0 q M0 a0 A s0 y0 G0 J0 h0 m0 k1 l B k5 d0=>?_
 refine pV (S.init) λc V G f0 B0 l0 F0 R0 m=>?_
 obtain⟨h,r0,d,t,b⟩:=H
 have R:=J.c
 dsimp only at R x0 J
 have M:=L0.b.keeps R.c
 have f:=R.c _ _ d0
 refine qX (OY M f (by simp) (by simp) (by simp) S.call S.typ f0 B0 (by rw[ga];show 1<=16777216;decide) ?_)
 have q0:∀p o,h.get? p=a o->((h.push (fF [T])).push (jH k.g h.objs.size)).get? p=a o:=λp o e=>cc _ (cc _ e)
 have O:((h.push (fF [T])).push (jH k.g h.objs.size)).get? (h.objs.size+1)=a (jH k.g h.objs.size):=by heap_get
 have c0:h.get? (h.objs.size+1)=ae:=nS (pi _)
 have j0:h.objs.size+1≠k.g:=λz=>by rw[z,f]at c0;exact bR c0
 have A0:∀p o,k.d.get? p=a o->((h.push (fF [T])).push (jH k.g h.objs.size)).get? p=a o:=λp o e=>q0 p o (R.c p o e)
 have Z:((h.push (fF [T])).push (jH k.g h.objs.size)).CodeRec G.code G.qualname:=xt R0 λI o X t _ E _ _=>A0 _ _ E
 have K0:=CU (ax k.g) [T] []
 refine Pd (L0.b.keeps A0) (q0 _ _ f) S.sa S.text O j0 ((L0.e.keeps R.c).keeps q0) ?_ (A0 _ _ l0) F0 Z m (mK L0.d A0) (mK L0.g A0) S.exMg S.exMb (λu D0 a1 i0 g p0=>⟨rfl,?_⟩) λu g=>L0.b.keeps λp o e=>g p o (λz=>by have:=R.c _ _ e;rw[z,c0]at this;exact bD this) (A0 p o e)
 ·show U.depth+(lN "type.__call__" ⟨ax k.g::[T],[]⟩).weight<AE
  exact xa (az K0.1 (by decide)) J.f.g
 ·exact x0 u D0 _ i0 a1 (λp o v=>g p o (λz=>by rw[z,c0]at v;exact bD v) (q0 p o v)) c0 p0
theorem Pg(L0:cn k)(S:si k)(T0:L=af){Z:ak}{o0 h u0 V:aH}{w:Nat}{T:aD}(b0:Z=11)(w0:G.lookup (an Z)=a dI)(C0:iC (aY (an Z) o0) [fZ (.str T) w V] h)(B0:∀M,(hO h (dq [fZ (.str T) w V] M))=[(av,bP (fZ (.str T) w V) M)]):
 bN k L n G (tC (a (cQ (aY (an Z) o0) [fZ (.str T) w V] [] h)) ae u0) (bb c .n):=by
 intro U Q M F b C D H J Y g0 m
 dsimp only[Lc]at m
 subst b0
 refine xi (S.obj) λv0 q M0 a0 A s0 y0 G0 J0 h0 m0 k1 l B k5 d0=>?_
 rw[arm_exec_Raise]
 refine bk (qV ?_)
 refine Pe (x:=k.g) (v0:=v0) (q:=q) (M0:=M0) (a0:=a0) (E:=[ax A,aK "Exception",aK "BaseException",aK "object"]) (X:=af) (s0:=s0) (y0:=y0) (G0:=G0) (J0:=J0) (h0:=h0) (m0:=m0) (k1:=k1) (l:=l) (B:=B) (k5:=k5) (p:="Exception.__new__") (by simp) (J.i T0) ?_
 refine bk (qY (rU J L0 w0 S.mg (qh _) ?_) (C0 M))
 rw[B0]
 refine ud rfl (nV ?_)
 show aR _ _ (AP T) _ _ _
 refine wB (pw ⟨IR S.keep _ (L0.b.keeps J.c.c),?_⟩)
 refine Pf (H:={H with toks:=H.toks+1}) L0 S J.tobZ λu D0 e i0 a1 q0 c0 p0=>?_
 refine bk (qV (cJ (dY e i0 a1 rfl (q0 _ _ (J.c.c _ _ d0)) p0 ?_)))
 have r1:aZ k (bx Q) bV C D H.heap C D u:=iO q0
 refine m e D u D0 (ou J.c q0) r1.toar (J.d.g r1 J.c) (dY _ _ (ax a1) p0 rfl rfl ⟨rfl,c0,λr j0=>J.c.f r _ j0 c0,aL rfl⟩)
end
end Mine.Internal
set_option tactic.hygienic false
namespace Mine.Internal
open PySem PySem.W PySem.Calls PyProof.Rows
section
variable{k:aU}{L:Bool}{n:Nat}{U:bo}{Q:List aN}{M:aN}{G:aV}{F:ai->Prop}{b o0:ah}{m C O:j}{d0 D A0:Nat->Option ai}{H:ay}{n0 h u E:aG}{g0:aj->ay->Prop}{c:v}{e:ai}
noncomputable def sj(k:aU)(L:Bool)(n:Nat)(U:bo)(Q:List aN)(M:aN)(G:aV)(F:ai->Prop)(C:j)(D:Nat->Option ai)(H:ay)(r:au (bA×ah))(Y:jf->ay->Prop)(g0:aj->ay->Prop):Prop:=match r with
 |.b V O=>∀i0 A0 u t,bq k L n U Q M G F V.2 O A0 u->aZ k (bx Q) (eM M) C D H.heap O A0 u->Dt k F A0 u V.1 i0->Y i0 {H with heap:=u,toks:=t}
 |.g O=>∀e A0 u t,bj k A0 F O u->aZ k (bx Q) bV C D H.heap O A0 u->jk k Q A0 H.heap e u->g0 (ax e) {H with heap:=u,toks:=t}
 |.d=>False
def sk(Z:Option ak)(T:A)(b:ah):ah:=match Z with|some y=>b.c y T|none=>b
abbrev kI(c:v)(Z:Option ak)(e:Mine.Internal.ar):ah->j->au (bA×ah):=λb C=>(ag c e b C).e λT C=>.b (.b,sk Z T b) C
noncomputable def sm(k:aU)(L:Bool)(n:Nat)(G:aV)(p:List x)(f:ah->j->au (bA×ah)):Prop:=
 ∀(U:bo)(Q:List aN)(M:aN)(F:ai->Prop)(b:ah)(C:j)(D:Nat->Option ai)(H:ay),bq k L n U Q M G F b C D H.heap->
  ∀(Y:jf->ay->Prop)(g0:aj->ay->Prop),sj k L n U Q M G F C D H (f b C) Y g0->aR (aQ k.b k.c) U (wK p M) Y g0 H
theorem sj.d{Y:jf->ay->Prop}{Z:Option ak}{e:Mine.Internal.ar}{V:aj->ay->Prop}(m:sj k L n U Q M G F C D H (kI c Z e b C) Y g0)(R:bj k D F C H.heap)(l0:∀T O G0 A0 u t,bj k A0 F O u->aZ k (bx Q) bV C D H.heap O A0 u->aC k A0 F u T G0->
   (∀X a1,bq k L n U Q M G F (sk Z T b) O A0 X->aZ k (bx Q) (eM M) O A0 u O A0 X->Y eF {H with heap:=X,toks:=a1})->V G0 {H with heap:=u,toks:=t}):
 aB k Q F C D H (bz k F) (ag c e b C) V g0:=by
 unfold kI at m
 generalize j0:ag c e b C=x9;induction x9 with
 |d=>rw[j0]at m;exact m
 |g O=>rw[j0]at m;exact m
 |b T O=>
  rw[j0]at m
  intro G0 A0 u t B P0 q
  exact l0 T O G0 A0 u t B P0 q λX a1 h I=>m eF A0 X a1 h (P0.toar.a0 I R) rfl
theorem Ph{S:aa}{y:ak}{e:Mine.Internal.ar}{o0 u0:aH}(b0:G.lookup (an y)=a .local)(C0:aE k L n G S (ag c e))(l0:∀M,gB S (a (aY (an y) o0)) u0.line M=bI av):sm k L n G [gc [aY (an y) o0] S u0] (kI c (a y) e):=by
 intro U Q M F b C D H J Y g0 m
 refine rg (Bl (C0 U Q M F b C D H J _ _ (sj.d m J.c λT S0 V U0 H0 M0 n0 R0 Q0 R=>?_)) (l0 M))
 exact lZ (H:={H with heap:=H0,toks:=M0}) (J.p0 R0 n0) b0 Q0 λu t f1 P0=>pM (R u t f1 P0)
theorem Pk{S:aa}{e:Mine.Internal.ar}{u0:aH}(C0:aE k L n G S (ag c e))(l0:∀l M,gB S ae l M=bI av):sm k L n G [rj S u0] (kI c ae e):=by
 intro U Q M F b C D H J Y g0 m
 refine rg (Jj (C0 U Q M F b C D H J _ _ (sj.d m J.c λT S0 V U0 H0 M0 n0 R0 Q0 R=>?_)) (xV J) (l0 _ _))
 exact pM (R H0 M0 (J.p0 R0 n0) aZ.v0)
theorem Pl{G:bo}{Z:aj}(l:G.frames=a Q)(w:∃s,M.frame=a s/\Q.head?.bind (·.frame)=a s){O0:ai->cu->Prop}(b:bj k d0 F m n0)(f:gT k Q O0 F m d0 n0 C D e H.heap)(S:jk k Q D n0 e H.heap)(o0:∀u,gT k Q O0 F m d0 n0 C D e u->jk k Q D n0 e u->g0 (ax e) {H with heap:=u}):Ji (aQ k.b k.c) G M (λe c1=>Bo (aQ k.b k.c) U M g0 e c1) (ax e) H:=by
 refine aA (w) λs B0 H0=>?_
 refine um l (H0.trans B0.symm) b f S B0 λE t0 a1=>?_
 exact Dy (H:={H with heap:=E}) b t0 a1 B0 λN f2 a2=>o0 N f2 (a2.b (aI (aw s H0 rfl)))
theorem Pm(L0:cn k)(S:si k)(T0:L=af){I0:List x}{q0:x}{W:List x}{t:ak}{o0 R u0:aH}{Z:Option ak}{f0:Mine.Internal.ar}{l0:List Mine.Internal.aT}(F0:t=11)(w0:G.lookup (an t)=a dI)(V0:sm k L n G I0 (kI c Z f0))(N0:gF k av n G (q0::W) (aO (gQ c) l0)):bN k L n G (wQ I0 [.ExceptHandler (a (aY (an t) o0)) ae (q0::W) R] [] [] u0) (bb c (.z Z f0 l0)):=by
 intro U Q M F b C D H J Y g0 m
 subst F0
 refine xi (S.obj) λv0 q M0 a0 A s0 y0 G0 J0 h0 m0 k1 l B k5 d0=>?_
 refine wpAny_Try_except (V0 U Q M F b C D H J _ _ ?_)
 dsimp only[Ld]at m
 generalize j0:ag c f0 b C=x9;induction x9 with
 |d=>rw[j0]at m;exact m.elim
 |b T O=>
  rw[j0]at m
  have D0:kI c Z f0 b C=.b (.b,sk Z T b) O:=by unfold kI;rw[j0];rfl
  rw[D0]
  intro i0 A0 u t f1 P0 o
  obtain rfl:i0=eF:=o
  refine pM ?_
  have d:cV k L n U Q M G F C D H (.b (.b,sk Z T b) O) Y g0:=by
   unfold sk
   exact m
  exact d eF A0 u t f1 P0 rfl
 |g O=>
  rw[j0]at m
  have D0:kI c Z f0 b C=.g O:=by unfold kI;rw[j0];rfl
  rw[D0]
  intro e R0 E t1 R1 e1 a1
  have t0:gT k Q bV F C D H.heap O R0 e E:=⟨R1,e1,J.d.g e1 J.c⟩
  refine aA (J.J0) λs B0 H0=>?_
  refine um (H:={H with heap:=E,toks:=t1}) J.g (H0.trans B0.symm) J.c t0 a1 B0 λN f2 a2=>?_
  refine uo (H:={H with heap:=N,toks:=t1}) (P:=ae) J.c f2 a2 λh3 f3 a3=>?_
  have S3:bq k av n (U.mark (a (ax e))) Q M G F b O R0 h3:={J.p0 f3.d f3.g with i:=λz=>(nomatch z),g:=J.g,f:=⟨J.f.g,J.f.b⟩}
  refine JW (id a3) λy X I c0 i e0 g1 g2 g3 g4=>?_
  refine wpAny_handleBy_cons (codeAny_handlers_test (rU (H:={H with heap:=h3,toks:=t1}) S3 L0 w0 S.mg (qh _) ?_)) (by intro q;cases q)
  have v:=f3.g.c _ _ d0
  obtain⟨k0,f,w,p0,g⟩:=H
  dsimp only at*
  refine wpAny_excMatches_sub_self v g1 g2 (by simp) (codeAny_handlers_suite ?_)
  refine uo (H:=⟨h3,f,w,t1,g⟩) (P:=ae) J.c f3 a3 λh4 f4 a4=>?_
  have S4:bq k av n (U.mark (a (ax e))) Q M G F b O R0 h4:={J.p0 f4.d f4.g with i:=λz=>(nomatch z),g:=J.g,f:=⟨J.f.g,J.f.b⟩}
  refine N0 _ Q M F b O R0 ⟨h4,f,w,t1,g⟩ S4 _ _ ?_
  generalize h:aO (gQ c) l0 b O=x9;induction x9 with
  |d=>rw[h]at m;exact m
  |b V s2=>
   rw[h]at m
   intro i0 H2 h5 t5 S5 e5 j
   refine m i0 H2 h5 t5 {S5 with i:=J.i,g:=J.g,f:=J.f} (f4.d.toar.a0 e5 J.c) j
  |g s2=>
   rw[h]at m
   intro P0 H2 h5 t5 R5 e5 b0 a5
   refine Pl (Z:=aS) (H:=⟨h5,f,w,t5,g⟩) J.g J.J0 J.c (O0:=eM M) ⟨R5,f4.d.toar.a0 e5 J.c,b0⟩ (a5.b f4.d.g) λh6 p r=>?_
   exact m P0 H2 h6 t5 p.g p.d p.i r
theorem Pn{I0:List x}{X:x}{s:List x}{u0:aH}{w0 B:List Mine.Internal.aT}(V0:gF k L n G I0 (aO c w0))(B0:gF k L n G (X::s) (aO c B)):bN k L n G (wQ I0 [] [] (X::s) u0) (bb c (.G w0 B)):=by
 intro U Q M F b C D H J Y g0 m
 dsimp only[Le]at m
 refine wpAny_Try_finally (V0 U Q M F b C D H J _ _ ?_)
 generalize j0:aO c w0 b C=x9;induction x9 with
 |d=>rw[j0]at m;exact m
 |g O=>rw[j0]at m;exact m.elim
 |b V O=>
  rw[j0]at m
  obtain⟨f,Z⟩:=V
  induction f with
  |b=>exact m.elim
  |d=>exact m.elim
  |c T=>
   intro i0 R0 E t1 S1 e1 q1
   refine aA (q1) λG0 J0 h0=>?_;obtain rfl:=J0
   dsimp only at m⊢
   refine B0 U Q M F Z O R0 {H with heap:=E,toks:=t1} S1 _ _ ?_
   generalize h:aO c B Z O=x9;induction x9 with
   |d=>rw[h]at m;exact m
   |g i=>rw[h]at m;exact m.elim
   |b p2 i=>
    rw[h]at m
    obtain⟨f2,u⟩:=p2
    induction f2 with
    |d=>exact m.elim
    |c _=>exact m.elim
    |b=>
     intro e o N t2 S2 e2 q2
     obtain rfl:e=eF:=q2
     exact m (jy G0) o N t2 S2 (e1.a0 e2 J.c) (aw G0 rfl (aC.b e2 S1.c (se S1) S1.d.d _ _ h0))
end
end Mine.Internal
set_option tactic.hygienic false
namespace Mine.Internal
open PySem PySem.W PySem.Calls PyProof.Rows
structure uu(k:aU)(I:ai):Prop where
 b:k.d.BuiltinsAt k.i k.e
 c:CodeHd k.d I k.e
 d:iL≠k.e
structure uv(k:aU)(L:Bool)(n:Nat)(c:v)(G:fL)(B:ai)(I0:List x)(p:List Mine.Internal.aT):Prop where
 shape:ur G I0
 closure:G.closure=[(an 163,B)]
 b:∀Z∈G.scope.names,Z.2≠dh
 d:G.scope.names.lookup (an 80)=a .local
 e:G.scope.names.lookup (an 191)=a .local
 f:G.scope.names.lookup (an 163)=a dN
 bind:∀S I,rq G ⟨[S,I],[]⟩=bI [(an 80,S),(an 191,I)]
 g:gF k L n G.scope.names I0 (aO c p)
section
variable{k:aU}{L:Bool}{n:Nat}{U:bo}{Q:List aN}{M:aN}{G:aV}{F:ai->Prop}{b o0:ah}{m C O:j}{d0 D A0:Nat->Option ai}{H:ay}{n0 h u E:aG}{g0:aj->ay->Prop}{R:fC->ay->Prop}{c:v}
theorem Po{X:List A}{b:ah}(W:Mine.Internal.ie [80,191] [] X=a b):∃r d,X=[r,d]/\b=ah.c (ah.c (λ_=>ae) 80 r) 191 d:=by
 have O:fD [80,191] X (λ_=>ae)=a b:=by
  unfold Mine.Internal.ie at W
  split at W
  ·simpa using W
  ·exact bD W
 induction X using bL with
 |nil=>exact bD O
 |cons r X=>induction X using bL with
  |nil=>exact bD O
  |cons d X=>induction X using bL with
   |nil=>exact(dK r d rfl ((bn O).symm))
   |cons _ _=>exact bD O
theorem xX{l:ah}{Z y:ak}{T d0:A}(h:ah.c l Z T y=a d0):(y=Z/\d0=T)\/l y=a d0:=by
 rw[ah.e]at h
 by_cases e:y=Z
 ·rw[if_pos e]at h;exact aL ⟨e,(bn h).symm⟩
 ·rw[if_neg e]at h;exact aI h
theorem Pp(Y:k.d.NoLimit)(J:lr k L (n+1) U Q F C D H.heap){m0:A}{f:aj}{X:List A}{s0:List aj}{p:List Mine.Internal.aT}(h0:aC k D F H.heap (.q m0) f)(j0:aJ k D F H.heap X s0)(g:∀G B,k.l G B->∃I0,uv k L n c G B I0 p)(W:Mine.Internal.ie [80,191] [] X=a b)(m:aB k Q F C D H (bz k F) (sf (aO c p (b.c 163 m0) C)) (mM R) (mN R)):qp (aQ k.b k.c) H.heap f/\je (aQ k.b k.c) U (la f ⟨s0,[]⟩) R H:=by
 simp only[du,dv,dw,dx,dy,dz,dA,dB,dC,dD]at h0
 refine oj (h0) λM o G B j G0 h1=>?_;refine BM h1 λK0 v e0 z0 b0 t w0 F0 D0=>?_;clear h1;obtain rfl:=K0;refine pQ (t) λP T=>?_
 refine aF (g G B b0) λI0 x=>?_
 refine⟨(aw (.frame) (aL rfl) ?_),?_⟩
 ·obtain⟨c1,c2,I,e⟩:=o
  dsimp only at z0
  subst z0
  exact(hJ.ld (part:=ae) v).andThen .now
 ·refine fw (Po W) λr d n0 N=>?_;obtain rfl:=n0
  refine de (lW j0) λa1 r1 n0 w1 x0=>?_;obtain rfl:=n0
  refine de (lW x0) λa2 s n0 w2 h=>?_;obtain rfl:=n0
  obtain rfl:=rV h
  have a0:B≠k.e:=by
   rintro rfl
   refine aA (J.b.e) λZ0 p0 _=>?_
   replace p0:=be w0 p0;subst p0;cases F0
  refine WP (by have:=J.c.b;exact el (az (dp _ _) (dp _ _)) this) v z0 (Y.keeps J.b.c) P x.shape.b (BindsTo.of_eq (x.bind a1 a2)) x.b (by intro y E0;rcases E0 with _|⟨_,_|⟨_,E0⟩⟩;exact x.d;exact x.e;cases E0) (λE d1 i=>?_) x.shape.co x.shape.gen x.shape.kind
  generalize o0:callEnv G H.heap.objs.size M=N0
  have e2:N0.locals=H.heap.objs.size:=by rw[<-o0];rfl
  have S:∀y,N0.kindOf y=G.scope.names.lookup y:=λy=>by rw[<-o0];rfl
  have u:N0.cells=[(an 163,B)]:=by rw[<-o0];exact x.closure
  have H0:H.heap.get? N0.locals=ae:=by rw[e2];exact nS (bS _)
  have l:N0.frame=a N0.locals:=by rw[<-o0];rfl
  have f0:E.Ns N0.locals (λZ=>([(an 80,a1),(an 191,a2)]:List (aD×aj)).reverse.lookup Z):=by rw[e2];exact d1
  have c0:aZ k [] bV C D H.heap C D E:=iO i
  have W0:∀{Z:A}{V:aj},aC k D F H.heap Z V->aC k D F E Z V:=λq=>aC.b c0 J.b (cM _) (λ_ z=>nomatch z) _ _ q
  have S1:bq k L n (U.deeper N0) (N0::Q) N0 G.scope.names F (b.c 163 m0) C D E:=by
   refine DE J i (by rw[<-o0];rfl) (by rw[<-o0];exact x.shape.kind) (by rw[<-o0];exact x.shape.globals) (by rw[<-o0];exact x.shape.builtins) l H0 f0 (by rw[u];exact List.pairwise_singleton _ _) (λy d0 E0=>?_) λy E0=>?_
   ·refine Bu (xX E0) (λw=>?_) (λO=>?_);obtain⟨rfl,rfl⟩:=w
    ·exact(aw G0 (W0 D0) (aI ⟨aI ((S _).trans x.f),B,by rw[u];simp,(aw j (i _ _ w0) F0),a0⟩))
    ·rw[N]at O
     refine Bu (xX O) (λw=>?_) (λg0=>?_);obtain⟨rfl,rfl⟩:=w
     ·exact(aw a2 (W0 w2) (aL ⟨(S _).trans x.e,by rfl⟩))
     ·refine Bu (xX g0) (λw=>?_) (λi0=>?_);obtain⟨rfl,rfl⟩:=w
      ·exact(aw a1 (W0 w1) (aL ⟨(S _).trans x.d,by rfl⟩))
      ·exact bD i0
   ·rw[S]at E0
    exact absurd rfl (x.b _ (wP E0))
  refine DF (R:=R) J i S1 l H0 (λp U0 P0 z=>?_) rfl x.g.d m
  rcases z with z|⟨z,y,E0⟩
  ·rw[z,H0]at P0;exact bD P0
  ·rw[u]at E0
   refine pQ (Prod.mk.inj (cP.mp E0)) λ_ J0=>?_;obtain rfl:=J0
   replace P0:=be w0 P0;subst P0;rw[F0]at z;cases z
theorem Pq{Z0:Array aj}(B:bj k D F C h)(q0:WR k.e h E)(f0:E.get? k.e=a (Ie Z0)):bj k D F {C with f:=af} E/\∀W0,aZ k W0 bV C D h {C with f:=af} D E:=by
 have t:∀p,h.get? p≠ae->E.get? p≠ae:=λp W=>by
  by_cases z:p=k.e
  ·rw[z,f0];intro d0;exact bR d0
  ·generalize q:h.get? p=x9;induction x9 with
   |none=>exact absurd q W
   |some o=>rw[q0 p o z q];intro d0;exact bR d0
 have r1:∀W0,aZ k W0 bV C D h {C with f:=af} D E:=λW0=>
  ⟨λp o v _ G _=>⟨λ_=>q0 p o G v,λ_=>⟨o.slots,q0 p o G v⟩⟩,λ_ _ Z=>Z,λ_ _ Z y=>(by(injection eY (fp Z) y;done)),λ_ _ Z=>Z,bS _,λp W=>by
    generalize q:h.get? p=x9;induction x9 with
    |none=>rfl
    |some o=>exact absurd W (t p (by rw[q];intro d0;exact bR d0))⟩
 refine⟨{B with b:=λr s0 j0=>?_,e:=(aw Z0 f0 (λz=>(nomatch z))),c:=λp o W=>q0 p o (λz=>by rw[z,B.w]at W;exact bD W) (B.c p o W),d:=λp W=>t p (B.d p W),f:=λr S j0=>t S (B.f r S j0)},r1⟩
 refine aA (B.b r s0 j0) λS v0 x0=>?_
 refine(aw S v0 (x0.b (r1 []) B (cM h) (λ_ Z=>nomatch Z) λo v=>q0 S o (λz=>?_) v))
 refine dP (x0.c) λU0 P0 e0 _=>?_
 exact B.q P0 e0 z
theorem Pr{g:aj}{I:ai}(L0:cn k)(m0:uu k I)(R0:g=ax I){Z y:ak}{O:aD}{l:nZ}{I0:List x}{f:fj}{u0:aH}{i:List x}{r:List Mine.Internal.aT}(y0:O=an Z)(b0:G.lookup (an Z)=a .local)(E0:G.lookup (an y)=a dh)(z0:∀z∈f.names,z.2=dN->z.1=an y)(J0:∀r0:aD->ai,iD r0 f.names []=[(an y,r0 (an y))])(o0:l.defaults=[])(h0:l.kw_defaults=[])(v0:∀M,annTrees l ae M=[])(M0:∀B l0 e j0 t A,k.l (fnX O l0 l I0 f [(an y,B)] aS aS e j0 ae (ax t) A) B)(A0:gF k L n G i (aO c r)):
 qs g k L n G (WS O l I0 [] ae [] f ae O u0::i) (aO c (.M Z y::r)):=by
 intro U Q M F b C D H s0 J Y g0 m
 dsimp only[xo,Lf]at m
 generalize R:C.f=x9;induction x9 with
 |true=>rw[R]at m;exact m.elim
 |false=>
  rw[R]at m
  generalize k0:b y=x9;induction x9 with
  |none=>rw[k0]at m;exact m.elim
  |some T=>
   rw[k0]at m
   dsimp only at m
   subst y0
   refine aA (J.r0) λa0 d1 e0=>?_
   refine aA (e0 y T k0) λG0 c0 K0=>?_
   have P0:M.kindOf (an y)=a dh:=(kF J _).trans E0
   obtain⟨B,t0,X,Q0⟩:∃B,M.cells.lookup (an y)=a B/\H.heap.IsCell B (a G0)/\B≠k.e:=by
    refine Bu (K0) (λw=>?_) (λS0=>?_);obtain⟨w1,_⟩:=w;rotate_left;obtain⟨_,B,w2,w3,w4⟩:=S0;rotate_right
    ·rw[P0]at w1;cases w1
    ·exact(cW B w2 w3 w4)
   have U0:Bi f M=bI [(an y,B)]:=by
    rw[Df (λz s B0=>by rw[z0 z s B0];exact⟨B,t0⟩),J0,t0]
    rfl
   refine aA (J.c.e) λZ0 f0 V0=>?_
   obtain rfl:=V0 R
   refine pU (m0.b) λE n0 b1 b2 b3 b4 b5 b6=>?_
   have H0:=mK L0.d J.c.c
   refine rg (nestDef_K o0 h0 (v0 M) (makeFunction_K (c:=I) (P:=k.e) (ps:= #[]) (mg:=k.i) U0 J.globals H0 (s0.trans R0) (m0.c.keeps J.c.c) f0 trivial rfl m0.d (gN E n0 b1 b2 b3 b4 ⟨J.c.c _ _ b5,b6⟩) λt A e u D0 p0 x0 n1 W0 X0=>?_))
   have C0:WR k.e H.heap (u.push (wR (an Z) (wS M (an Z) (an Z)) l I0 f [(an y,B)] e ((k.i "__name__").getD aS) t A)):=λp o W v=>cc _ (p0 p o W v)
   have z2:(u.push (wR (an Z) (wS M (an Z) (an Z)) l I0 f [(an y,B)] e ((k.i "__name__").getD aS) t A)).get? k.e=a (Ie (#[]++ #[fh u0.line,fh u0.col,ax t])):=cc _ X0
   refine pQ (Pq J.c C0 z2) λR2 e2=>?_
   have S2:=J.p0 (e2 _) R2
   have B0:=jo (h:=u) (o:=wR (an Z) (wS M (an Z) (an Z)) l I0 f [(an y,B)] e ((k.i "__name__").getD aS) t A) rfl
   have c1:aC k D F (u.push (wR (an Z) (wS M (an Z) (an Z)) l I0 f [(an y,B)] e ((k.i "__name__").getD aS) t A)) (.q T) (ax u.objs.size):=by
    simp only[du,dv,dw,dx,dy,dz,dA,dB,dC,dD]
    refine aA (X) λj w0 F0=>?_
    refine(lQ _ _ _ B j G0 ⟨rfl,B0,rfl,rfl,M0 B _ e _ t A,⟨?_,λz=>?_⟩,C0 _ _ Q0 w0,F0,aC.b (e2 (bx Q)) J.c (cM _) J.d.d _ _ c0⟩)
    ·refine rH (W0) λc2 o2 e1 t2 q1 q2 V d=>?_
     exact(iN c2 o2 e1 t2 q1 (cc _ q2) V d)
    ·have:t=k.e:=by cases z;rfl
     have f1:=jU f0
     rw[this]at x0
     exact absurd f1 (wu.mpr x0)
   refine lZ (H:={H with heap:=u.push (wR (an Z) (wS M (an Z) (an Z)) l I0 f [(an y,B)] e ((k.i "__name__").getD aS) t A),toks:=D0}) S2 b0 c1 λh3 t3 S3 e3=>?_
   refine A0 U Q M F _ _ D {H with heap:=h3,toks:=t3} S3 Y g0 ?_
   have T1:=(e2 (bx Q)).toar.a0 e3 J.c
   generalize q0:aO c r (b.c Z (.q T)) {C with f:=af}=x9;induction x9 with
   |d=>rw[q0]at m;exact m
   |b d0 Y0=>rw[q0]at m;exact λi0 T0 P a1 N0 O0 q=>m i0 T0 P a1 N0 (T1.a0 O0 J.c) q
   |g Y0=>rw[q0]at m;exact λS T0 P a1 N0 O0 N q=>m S T0 P a1 N0 (T1.a0 O0 J.c) N (q.b T1.g)
end
end Mine.Internal
set_option tactic.hygienic false
namespace Mine.Internal
open PySem PySem.W PySem.Calls PyProof.Rows
theorem Ps:Jm (aK "list") "keys"=bI ae:=by rw[WT,WU];kernel_rfl
section
variable{C:iK}{d0:gZ}{U:bo}{g0:aj->ay->Prop}{h:aG}{r0:Array rk}{d:pj}{t:Nat}{b:rl}{S:ai}{M:Array aj}{n:Nat}
theorem xY:isSubtype (aK "AttributeError") (aK "AttributeError")=bI af:=by rw[isSubtype_type];kernel_rfl
theorem Pt:((Manifest.find? "AttributeError").elim av λt=>t.mro.contains "StopIteration"||t.mro.contains "SystemExit")=av:=by decide+kernel
theorem Pu{z:mz}{c:Type}{Z:aj}{O C:aD}{Y:c->ay->Prop}(k0:C.length<=lK)(T0:U.handled=ae)(o0:∀e u D0 y,(∀p o,h.get? p=a o->u.get? p=a o)->u.get? e=a y->y.cls=aK "AttributeError"->g0 (ax e) ⟨u,r0,d,D0,b⟩):
 aR z U (WV Z O C:gu c) Y g0 ⟨h,r0,d,t,b⟩:=by
 unfold WV
 refine bk (m:=mkStr C) (wpAny_mkStr (hx:=k0) ?_)
 unfold newExc newTuple
 refine bk (bk (pz ?_ (by size_fits)))
 refine bk (m:=WW _ _) (Bd (a:=aS) (by simp only[WW,Pt];rfl) ?_)
 refine pz ?_ (by size_fits)
 dsimp only
 show aR z U (do
  noteAttr (ax (h.push (fF [dG C t])).objs.size) Z (<-AP O)
  raiseNew (ax (h.push (fF [dG C t])).objs.size)) Y g0 ⟨(h.push (fF [dG C t])).push {cls:=aK "AttributeError",data:=bO #[ax h.objs.size,aS,aS,aS,eQ av,aS,mC,mC]},r0,d,t+1,b⟩
 have C0:((h.push (fF [dG C t])).push {cls:=aK "AttributeError",data:=bO #[ax h.objs.size,aS,aS,aS,eQ av,aS,mC,mC]}).get? (h.push (fF [dG C t])).objs.size=a {cls:=aK "AttributeError",data:=bO #[ax h.objs.size,aS,aS,aS,eQ av,aS,mC,mC]}:=kW _ rfl
 have q0:∀p o,h.get? p=a o->((h.push (fF [dG C t])).push {cls:=aK "AttributeError",data:=bO #[ax h.objs.size,aS,aS,aS,eQ av,aS,mC,mC]}).get? p=a o:=λp o e=>cc _ (cc _ e)
 have M0:∀p o,h.get? p=a o->p≠(h.push (fF [dG C t])).objs.size:=λp o e=>bC (jU (cc _ e))
 generalize(h.push (fF [dG C t])).push {cls:=aK "AttributeError",data:=bO #[ax h.objs.size,aS,aS,aS,eQ av,aS,mC,mC]}=N at C0 q0
 generalize(h.push (fF [dG C t])).objs.size=e at C0 M0
 refine bk (wB (bk ?_))
 unfold noteAttr lacksNameAndObj
 refine bk (bk (wpAny_isInstance (T:="AttributeError") (b:=af) (aw _ C0 rfl) xY ?_))
 refine bk (Wo C0 (Bd (a:=af) rfl ?_))
 rw[if_pos rfl]
 refine bk (WX (bk (Jo (T:="AttributeError") (aw _ C0 rfl) ?_)))
 refine wpAny_layMembers C0 rfl ?_
 refine WQ T0 (o0 e _ _ _ (λp o v=>(tx _ _ (iJ (M0 p o v))).trans (q0 p o v)) (mw _ C0 (Bn (wM rfl _))) rfl)
theorem Pv{D0:jv}{Y:Fin->ay->Prop}(T0:U.handled=ae)(b0:h.get? S=a (cO M n))(o0:∀e u D0 y,(∀p o,h.get? p=a o->u.get? p=a o)->u.get? e=a y->y.cls=aK "AttributeError"->g0 (ax e) ⟨u,r0,d,D0,b⟩):
 aR (aQ C d0) U (Builtin.«object.__getattribute__» ⟨[ax S,dG "keys" D0],[]⟩) Y g0 ⟨h,r0,d,t,b⟩:=by
 have i:(⟨h,r0,d,t,b⟩:ay).TypeIs (ax S) "list":=(aw _ b0 rfl)
 have f4:=Ps
 repeat(any_goals (first|assumption|with_reducible refine rm b0 ?_|wp_step))
 exact Pu (by rw[ga];decide+kernel) T0 o0
theorem Pw{D0:jv}{R:fC->ay->Prop}(T0:U.handled=ae)(b0:h.get? S=a (cO M n))(o0:∀e u D0 y,(∀p o,h.get? p=a o->u.get? p=a o)->u.get? e=a y->y.cls=aK "AttributeError"->R (.error (ax e)) ⟨u,r0,d,D0,b⟩):
 je (aQ C d0) U (la (cv "list.__getattribute__") ⟨[ax S,dG "keys" D0],[]⟩) R ⟨h,r0,d,t,b⟩:=
 Jl Bv.plain Aag (Bv.check _ _ _ _ _ _ _ _ (show(⟨h,r0,d,t,b⟩:ay).TypeIs (ax S) "list" from(aw _ b0 rfl)) (Aah _ _) (Pv T0 b0 o0))
theorem Px:Jm (aK "list") "__getattr__"=bI ae:=by rw[WT,WU];kernel_rfl
theorem Py{Y:Option aj->ay->Prop}(T0:U.handled=ae)(b0:h.get? S=a (cO M n))(x0:∀u D0,(∀p o,h.get? p=a o->u.get? p=a o)->Y ae ⟨u,r0,d,D0,b⟩):
 aR (aQ C d0) U (getAttr? (ax S) "keys") Y g0 ⟨h,r0,d,t,b⟩:=by
 have i:(⟨h,r0,d,t,b⟩:ay).TypeIs (ax S) "list":=(aw _ b0 rfl)
 have f2:=Bv.lookup
 have f3:=Bv.bind (ax S)
 have f4:=Px
 unfold getAttr? getAttrBy? getAttrBy
 repeat(any_goals (first|assumption|with_reducible refine qX (Pw T0 b0 λe u D0 y q0 v e0=>?_)|wp_step))
 rw[e0,xY]
 refine cJ ?_
 rw[if_pos rfl]
 unfold hookBehind hookOrError attributeErrorLeaves
 repeat(any_goals (first|assumption|wp_step))
 rw[e0,xY]
 refine cJ ?_
 rw[if_pos rfl]
 exact cJ (x0 u D0 q0)
end
end Mine.Internal
set_option tactic.hygienic true
namespace Mine.Internal
open PySem PySem.W PySem.Calls PyProof.Rows
theorem DH:entryFor table "dict.update.loop"=a Builtin.«dict.update.loop»:=entryFor_of_tree (by kernel_rfl)
section
variable{k:aU}{L:Bool}{n:Nat}{U:bo}{Q:List aN}{M:aN}{G:aV}{F:ai->Prop}{b o0:ah}{m C O:j}{d0 D A0:Nat->Option ai}{H:ay}{n0 h u E:aG}{g0:aj->ay->Prop}{R:fC->ay->Prop}{c:v}
theorem Pz{c:Type}{l:List c}{i:Nat}{T:c}(h:l[i]?=a T):l.drop i=T::l.drop (i+1):=by
 have n1:=(iv.mp h).1
 rw[Be n1,(iv.mp h).2]
theorem PA{T:A}{l:List A}{P B0:List (am×A)}(p0:kz (T::l) P=a B0):∃w d0,T=.e [.c w,d0]/\kz l (bv P w d0)=a B0:=by
 induction T using A.casesOn<;>try exact bD p0
 rename_i t
 induction t using bL with
 |nil=>exact bD p0
 |cons Z t=>induction t using bL with
  |nil=>induction Z using A.casesOn<;>exact bD p0
  |cons y t=>induction t using bL with
   |nil=>induction Z using A.casesOn<;>first|exact(dK _ _ rfl p0)|exact bD p0
   |cons z t=>induction Z using A.casesOn<;>exact bD p0
set_option backward.match.sparseCases true in
theorem PB{S m0 i0:ai}{M:Array aj}{l:List A}{B0:List (am×A)}(T0:U.handled=ae)(W2:M.size=l.length)(G1:l.length<=1000)(Q:m0≠i0)(X:S≠m0)(g:S≠i0):
 ∀(a0:Nat)(i:Nat)(H:ay)(o0:List (aD×aj))(P:List (am×A))(D0:jv),i+a0=l.length->H.heap.IsListIter m0 S i->H.heap.IsList S M->H.heap.DictOf (eR k.b k.c) i0 o0->bT k D F H.heap am.b P o0->aJ k D F H.heap l M.toList->kz (l.drop i) P=a B0->o0.length<=i->
  (∀u e D0,u.DictOf (eR k.b k.c) i0 e->bT k D F u am.b B0 e->mO (λp=>p=m0\/p=i0) H.heap u->R (.ok (jy aS)) {H with heap:=u,toks:=D0})->
  je (aQ k.b k.c) U (lN "dict.update.loop" ⟨[ax i0,ax m0,cI i D0,aS],[]⟩) R H:=by
 intro a0
 induction a0 with
 |zero=>
  intro i H o0 P D0 b c1 C Q0 I1 k0 p0 q0 m1
  refine WY DH ?_
  show aR _ _ (Bc (ax m0)>>=_) _ _ _
  have f0:M[i]?=ae:=by rw[IV,W2];lia
  refine bk (Wq T0 c1 C f0 λu C0=>?_)
  rw[th (by lia)]at p0
  replace p0:=bn p0;subst p0
  have S0:ej F (λp=>p=m0) H.heap u:=⟨λp o W v=>C0 p o W v,mR (let⟨o,v,e0,z0⟩:=c1;(bU o _ v z0 (by intro q t z;simp at z)))⟩
  refine bk (cJ (cJ (m1 u o0 _ ?_ (bT.c S0 _ _ I1) λp o W v=>C0 p o (λz=>W (aL z)) v)))
  refine gg (Q0) λo t0 X0 v r=>?_
  exact(jA o t0 X0 (C0 _ _ (iJ Q) v) r)
 |succ a0 Y=>
  intro i H o0 P D0 b c1 C Q0 I1 k0 p0 q0 m1
  refine WY DH ?_
  show aR _ _ (Bc (ax m0)>>=_) _ _ _
  have n1:i<l.length:=by exact aM (WZ (Ib _)) (bw b)
  obtain⟨T,h0⟩:∃T,l[i]?=a T:=⟨_,eG n1⟩
  rw[Pz h0]at p0
  refine fw (PA p0) λw d0 J0 I=>?_;subst J0
  refine aA (k0.c0 h0) λG0 a1 c0=>?_
  refine bk (Wp c1 C (by rw[<-pA];exact a1) λE J G=>?_)
  have c:ej F (λp=>p=m0) H.heap E:=⟨λp o W v=>(G.2 p W).trans v,mR (let⟨o,v,e0,z0⟩:=c1;(bU o _ v z0 (by intro q t z;simp at z)))⟩
  have V:=aC.c c _ _ c0
  refine eJ (jl V) λZ O l0 V0 j0 y=>?_;obtain rfl:=V0
  refine de (lW y) λp1 r1 e1 w1 x0=>?_
  refine de (lW x0) λp2 s e2 w2 h=>?_
  obtain rfl:=rV h
  subst e2
  obtain⟨d,rfl⟩:=fy w1
  have n:E.DictOf (eR k.b k.c) i0 o0:=by
   refine gg (Q0) λo t0 X0 v r=>?_
   exact(jA o t0 X0 ((G.2 _ (iJ Q)).trans v) r)
  show aR _ _ (ir [ax Z] _>>=_) _ _ _
  refine bk (lL (bk (wpAny_tryCatch ?_)))
  unfold Builtin.Dict.pairItems
  refine bk (Jo (s:={H with heap:=E}) (T:="tuple") (aw _ j0 rfl) ?_)
  rw[if_pos (by decide)]
  refine bk (wpAny_seqItems (s:={H with heap:=E}) j0 rfl (cJ ?_))
  show aR _ _ (match O.toList with|[w,T]=>_|l=>_) _ _ _
  rw[e1]
  dsimp only
  refine lL (wpAny_dictSet_pairs (s:={H with heap:=E}) (pq k.b k.c w.b d) n (λN E0 B=>?_) (by rw[ga];exact az (az (az (az q0 (dp _ _)) (bw b)) G1) (by decide)))
  have L:hG i0 E N:=B
  have m:ej F (λp=>p=i0) E N:=⟨λp o W v=>(L.2 p W).trans v,by
   rintro p rfl o v
   refine lj (n) λU0 t0 X0 P0 b0 z0 _=>?_
   replace P0:=be v P0;subst P0
   exact aI (aL (gL t0 X0 z0))⟩
  refine cJ (And.intro (Bt _ (by decide+kernel)) ?_)
  have x:=bT.m (w:=w) (aC.c m _ _ w2) (bT.c m _ _ (bT.c c _ _ I1))
  have Y0:(pr o0 w.b p2).length<=i+1:=az (stored_length_le _ _ _) (Az q0 _)
  refine Y (i+1) {H with heap:=N,toks:=_} _ _ _ (by lia) ?_ ?_ E0 x (aJ.g m _ _ (aJ.g c _ _ k0)) I Y0 λh3 f j c3 w0 g0=>?_
  ·refine aA (J) λo v r=>?_
   exact(aw o ((L.2 _ Q).trans v) r)
  ·refine aA (C) λo v r=>?_
   exact(aw o ((L.2 _ g).trans ((G.2 _ X).trans v)) r)
  ·exact m1 h3 f j c3 w0 λp o W v=>g0 p o W ((L.2 p (λz=>W (aI z))).trans ((G.2 p (λz=>W (aL z))).trans v))
theorem PC(L0:cn k)(T0:L=af){T:A}{V:aj}{Y:aj->ay->Prop}(J:bZ k L n U Q F C D H.heap)(h0:aC k D F H.heap T V)(m:aB k Q F C D H (bz k F) (cK C .d T) Y g0):aR (aQ k.b k.c) U (gb (aK "dict") [V]) Y g0 H:=by
 have R:=J.c
 induction T using A.casesOn<;>try exact m.elim
 ·rename_i l
  refine jC (iQ h0) λS M w V0 v0 f0 C1 d0=>?_;obtain rfl:=V0
  unfold cK at m
  dsimp only at m
  by_cases s:l.length<=1000
  ·rw[if_pos s]at m
   generalize p0:kz l []=x9;induction x9 with
   |none=>rw[p0]at m;exact m.elim
   |some B0=>
    rw[p0]at m
    dsimp only at m
    have U1:U.handled=ae:=J.i T0
    have l1:=f0.b
    rw[fq]at l1
    obtain⟨h,r0,d,t,b⟩:=H
    dsimp only at R v0 f0 J
    have O:h.get? h.objs.size=ae:=fT h
    refine callType_codes (Q₁:=λB c=>B=ax h.objs.size/\c=⟨h.push {cls:=aK "dict",data:=eo #[]},r0,d,t,b⟩) Aai (Aaj _) Aak (kt_code_dict_new _ ⟨rfl,rfl⟩) ?_
    rintro B c ⟨rfl,rfl⟩
    have c0:(h.push {cls:=aK "dict",data:=eo #[]}).DictOf (eR k.b k.c) h.objs.size []:=aG.DictOf.new h
    refine⟨c0.typeIs (s:=⟨h.push {cls:=aK "dict",data:=eo #[]},r0,d,t,b⟩),Aal _ _,?_⟩
    unfold Builtin.«dict.__init__»
    refine bk ?_
    unfold Builtin.Dict.selfAndRest
    refine bk (wpAny_notOrdered_dict (s:=⟨h.push {cls:=aK "dict",data:=eo #[]},r0,d,t,b⟩) c0.typeIs ?_)
    show aR _ _ (bI (h.objs.size,[ax S])) _ _ _
    refine cJ ?_
    show aR _ _ (Builtin.Dict.updateFrom "dict.__init__" h.objs.size (ax S) [] aS) _ _ _
    unfold Builtin.Dict.updateFrom
    have G:(h.push {cls:=aK "dict",data:=eo #[]}).get? S=a (cO M w):=cc _ v0
    refine bk (Jo (s:=⟨h.push {cls:=aK "dict",data:=eo #[]},r0,d,t,b⟩) (T:="list") (aw _ G rfl) ?_)
    rw[if_pos (by decide)]
    refine bk (Py U1 G λN i C0=>?_)
    rw[if_pos (show(ae:Option aj).isNone=af from rfl)]
    refine bk (WX (bk (IZ (s:=⟨N,r0,d,i,b⟩) (kG (C0 _ _ G)) ?_)))
    refine cJ (And.intro (Bt _ (by decide+kernel)) ?_)
    have y:∀p o,(h.push {cls:=aK "dict",data:=eo #[]}).get? p=a o->(N.push {cls:=aK "list_iterator",data:=bO #[ax S,cI 0 0]}).get? p=a o:=λp o z=>cc _ (C0 p o z)
    have q0:∀p o,h.get? p=a o->(N.push {cls:=aK "list_iterator",data:=bO #[ax S,cI 0 0]}).get? p=a o:=λp o z=>y p o (cc _ z)
    have j:bj k D (cD F h.objs.size) C (h.push {cls:=aK "dict",data:=eo #[]}):=CX R rfl
    have R2:bj k D (cD F h.objs.size) C (N.push {cls:=aK "list_iterator",data:=bO #[ax S,cI 0 0]}):=ou j y
    have P:aJ k D (cD F h.objs.size) (N.push {cls:=aK "list_iterator",data:=bO #[ax S,cI 0 0]}) l M.toList:=
     aJ.g (M0:=λ_=>False) ⟨λp o _ z=>q0 p o z,λ_ z=>z.elim⟩ _ _ (aJ.p0 (ug O) _ _ f0)
    have c1:(N.push {cls:=aK "list_iterator",data:=bO #[ax S,cI 0 0]}).IsListIter N.objs.size S 0:=(cW _ (jo rfl) rfl rfl)
    have E0:(N.push {cls:=aK "list_iterator",data:=bO #[ax S,cI 0 0]}).DictOf (eR k.b k.c) h.objs.size []:=by
     refine gg (c0) λo t0 X0 v r=>?_
     exact(jA o t0 X0 (y _ _ v) r)
    have I:h.objs.size<N.objs.size:=by
     refine gg (c0) λo t0 X0 v r=>?_
     exact jU (C0 _ _ v)
    have n1:S<h.objs.size:=jU v0
    have e1:h.get? N.objs.size=ae:=nS (fB I)
    refine PB (k:=k) (D:=D) (F:=cD F h.objs.size) (U:=U.in1) (l:=l) (B0:=B0) U1 l1 s (fu I) (bC (cT n1 I)) (bC n1) l.length 0 ⟨N.push {cls:=aK "list_iterator",data:=bO #[ax S,cI 0 0]},r0,d,i,b⟩ [] [] 0 (by lia) c1 (kG (q0 _ _ v0)) E0 rfl P p0 (nU _) λu e a0 Z g D1=>?_
    have S0:ej (cD F h.objs.size) (λp=>p=N.objs.size\/p=h.objs.size) (N.push {cls:=aK "list_iterator",data:=bO #[ax S,cI 0 0]}) u:=⟨D1,λp W o v=>by
     rcases W with rfl|rfl
     ·refine dP (c1) λU0 P0 e0 z0=>?_
      replace P0:=be v P0;subst P0
      exact aI (aI (aL (aw _ z0 (by intro q t z;simp at z))))
     ·refine lj (E0) λU0 t0 X0 P0 b0 z0 _=>?_
      replace P0:=be v P0;subst P0
      exact aI (aL (gL t0 X0 z0))⟩
    have f:∀p,(p=N.objs.size\/p=h.objs.size)->h.get? p=ae:=by rintro p (rfl|rfl);exact e1;exact O
    have v1:∀p,h.get? p=ae->k.d.get? p=ae:=λp W=>by
     generalize q:k.d.get? p=x9;induction x9 with
     |none=>rfl
     |some o=>have:=R.c p o q;(injection eY (fp W) this;done)
    have o1:∀p,h.get? p=ae->p≠k.e:=λp W z=>by refine aA (R.e) λZ0 p0 _=>?_;rw[<-z,W]at p0;exact bD p0
    have g3:u.get? h.objs.size≠ae:=by refine gg (Z) λo t0 X0 v _=>?_;rw[v];intro z;exact bR z
    have E:bj k D (cD F h.objs.size) C u:=oG R2 S0 ⟨λp W r j0=>R.f r p j0 (f p W),λp W=>v1 p (f p W),λW=>o1 _ (f _ W) rfl⟩ λp A0 W=>by
     rcases W with rfl|rfl
     ·rcases A0 with A0|A0
      ·exact absurd e1 (R.d _ A0)
      ·exact absurd A0 (fu I)
     ·exact g3
    have r1:aZ k (bx Q) bV C D h C D u:=(iO q0).u0 (M0:=λp=>p=N.objs.size\/p=h.objs.size) D1 f
    have d1:∀r S,D r=a S->r≠C.b:=λr S j0 z=>absurd (R.g r S j0) (by rw[z];exact pg _)
    refine⟨rfl,?_⟩
    exact m (ax h.objs.size) _ u a0 (xO E (v1 _ O) (λz=>R.d _ z O) (aw e Z (bT.d (rX d1) _ _ g))) (xP r1 E O) (by simp only[du,dv,dw,dx,dy,dz,dA,dB,dC,dD];exact(aw _ rfl oy))
  ·rw[if_neg s]at m;exact m.elim
 ·rename_i r
  refine aA (eT h0) λS J0 x=>?_;obtain rfl:=J0
  unfold cK at m
  dsimp only at m
  generalize w0:C.c r=x9;induction x9 with
  |none=>rw[w0]at m;exact m.elim
  |some s0=>
   rw[w0]at m
   induction s0<;>try exact m.elim
   rename_i l
   dsimp only at m
   by_cases s:l.length<=1000
   ·rw[if_pos s]at m
    refine jB (R.b r _ w0) λI0 X o0 i0 x0=>?_
    replace X:=be x X;subst X
    refine kt_call_dict (jX L0.c R x) i0 (by rw[ga];have:=x0.length;exact az (az (bw this) s) (by decide)) λu Z k1=>?_
    have k0:hG H.heap.objs.size (H.heap.push {cls:=aK "dict",data:=eo #[]}) u:=k1
    have q0:∀p o,H.heap.get? p=a o->u.get? p=a o:=λp o v=>(k0.2 p (bC (jU v))).trans (cc _ v)
    exact m.e0 R (t:=H.toks) q0 (fT _) (aw o0 Z (bT.b (qg (W0:=[]) (O0:=bV) (s0:=.b l) R q0 (fT _)) R (cM _) (λ_ z=>nomatch z) _ _ x0)) (by simp only[du,dv,dw,dx,dy,dz,dA,dB,dC,dD];exact(aw _ rfl oy))
   ·rw[if_neg s]at m;exact m.elim
theorem PD{Z:aD}{S:aa}{e:Mine.Internal.ar}{o0 u0:aH}(L0:cn k)(g:jn k)(T0:L=af)(y0:Z="dict")(b0:G.lookup Z=a dI)(v0:aE k L n G S (ag c e))(A0:∀M,dq [S] M=[(av,bP S M)])(C0:iC (aY Z o0) [S] u0):
 aE k L n G (cQ (aY Z o0) [S] [] u0) (ag c (.q .d e)):=by
 subst y0
 exact xI L0 g b0 (by decide) (by decide) (λU Q F C D H T V Y g0 J h0 m=>PC L0 T0 J h0 m) v0 A0 C0
end
end Mine.Internal
set_option tactic.hygienic false
namespace Mine.Internal
noncomputable def PE:List aT:=[.g (.b 168) 139 (.r .c (.M [.c .m]) (.b 139)),.g (.b 168) 41 (.r .c (.M [.c .m]) (.b 41))]
noncomputable def xZ:List aT:=[.c (.g .b (.d (.b 149) (.c (.b 0))) (.C 0 5)) [.b (.m (.h 122) [.n (.b 168) 41,.d (.b 149) (.c (.b 1)),.d (.b 149) (.c (.b 2))])] [],.b (.m (.h 121) [.n (.b 168) 139,.d (.b 149) (.c (.b 0)),.d (.b 149) (.c (.b 1))])]
noncomputable def sq:List aT:=[.c (.g .b (.d (.b 149) (.c (.b 0))) (.C 0 5)) [.m (.m (.h 179) [.n (.b 168) 41,.d (.b 149) (.c (.b 1)),.m (.h 146) [.b 201,.d (.b 149) (.c (.b 2))]])] [.m (.m (.h 178) [.n (.b 168) 139,.d (.b 149) (.c (.b 0)),.d (.b 149) (.c (.b 1)),.b 201])]]
noncomputable def PF:List aT:=[.g (.b 168) 129 (.b 129),.g (.b 168) 116 (.b 116),.g (.b 168) 198 (.b 198),.g (.b 168) 205 (.b 205),.g (.b 168) 73 (.b 73),.g (.b 168) 173 (.b 173),.g (.b 168) 80 (.s [] []),.g (.b 168) 52 (.c (.b 0)),.g (.b 168) 176 (.c (.b 0)),.g (.b 168) 151 (.s [] []),.g (.b 168) 77 (.s [] []),.g (.b 168) 42 (.s [] []),.g (.b 168) 25 (.z),.g (.b 168) 124 (.s [] []),.g (.b 168) 143 (.s [] [])]
noncomputable def DI:List aT:=[.g (.b 168) 203 (.b 203),.g (.b 168) 157 (.b 157),.g (.b 168) 56 (.b 56),.g (.b 168) 190 (.b 190),.g (.b 168) 176 (.b 176),.g (.b 168) 47 (.b 47),.g (.b 168) 43 (.b 43),.g (.b 168) 52 (.b 52)]
noncomputable def DJ:List aT:=[.g (.b 168) 133 (.b 133),.g (.b 168) 108 (.C 9 1),.g (.b 168) 115 (.c (.b 0)),.g (.b 168) 55 (.z),.g (.b 168) 200 (.c (.c [118,97,114])),.g (.b 168) 98 (.c (.o av)),.g (.b 168) 201 (.c .m),.g (.b 168) 44 (.c .m),.g (.b 168) 101 (.c (.o av))]
noncomputable def PG:List aT:=[.g (.b 168) 108 (.b 108),.g (.b 168) 133 (.b 133),.g (.b 168) 58 (.z),.g (.b 168) 62 (.s [] []),.g (.b 168) 185 (.s [] []),.g (.b 168) 173 (.z),.g (.b 168) 78 (.s [] []),.g (.b 168) 109 (.s [] []),.g (.b 168) 160 (.c .m),.g (.b 168) 45 (.z),.g (.b 168) 64 (.z),.g (.b 168) 51 (.z),.g (.b 168) 164 (.z),.g (.b 168) 46 (.s [] [])]
noncomputable def PH:List aT:=[.c (.g .b (.b 108) (.C 0 5)) [.b (.c (.b 0))] [],.c (.F [.g .b (.b 108) (.C 2 2),.g .b (.b 108) (.C 1 3)]) [.b (.c (.b 2))] [],.b (.c (.b 1))]
noncomputable def uw:List aT:=[.c (.F [.g .f (.b 30) (.c (.b 0)),.g .d (.r .b (.b 30) (.b 48)) (.q .b (.b 39))]) [.n] []]
noncomputable def DK:List aT:=[.d 38 (.d (.b 39) (.b 30)),.c (.F [.E (.b 38),.g .c (.d (.b 38) (.c (.b 0))) (.b 186)]) [.n] [],.b (.d (.b 38) (.c (.b 1)))]
noncomputable def DL:List aT:=[.m (.m (.h 136) [.b 39,.b 30,.m (.h 199) [.b 108]]),.c (.g .b (.b 108) (.C 1 3)) [.s] [],.d 201 (.m (.h 156) [.b 39,.b 30,.b 108]),.c (.g .b (.b 108) (.C 2 2)) [.s] [],.b (.b 201)]
noncomputable def yc:List aT:=[.m (.m (.h 136) [.b 39,.b 30,.m (.h 199) [.b 108]]),.c (.g .b (.b 108) (.C 1 3)) [.s] [],.l (.b 39) (.b 30) (.k [.b 108,.b 201]),.c (.g .b (.b 108) (.C 2 2)) [.s] []]
noncomputable def DM:List aT:=[.m (.m (.h 136) [.b 39,.b 30,.b 115]),.d 170 (.G (.b 39) (a (.b 30)) (a (.r .b (.b 30) (.b 115)))),.c (.g .e (.c .m) (.b 170)) [.n] [],.b (.y (.c (.c [])) .h [.b 170])]
noncomputable def yd:List aT:=[.m (.m (.h 136) [.b 39,.b 30,.q .b (.b 189)]),.k (.b 107) .c (.q .b (.b 189)) [.l (.b 39) (.r .b (.b 30) (.b 107)) (.d (.b 189) (.b 107))]]
noncomputable def DN:List aT:=[.b (.r .b (.G (.b 189) ae (a (.b 115))) (.r .c (.c (.c [32])) (.r .d (.b 115) (.q .b (.b 189)))))]
noncomputable def PI:List aT:=[.c (.g .b (.b 108) (.C 0 5)) [.b (.b 115)] [],.b (.m (.h 199) [.b 108])]
noncomputable def lu:List aT:=[.q [108,30,115,55] (.b 149),.c (.g .c (.q .b (.b 183)) (.q .b (.b 55))) [.n] [],.d 140 (.c (.b 0)),.d 181 (.c (.b 1)),.k (.b 107) .c (.q .b (.b 55)) [.q [125,87] (.d (.b 55) (.b 107)),.c (.F [.g .f (.d (.b 183) (.b 107)) (.b 125),.w [.L (.b 87),.g .d (.d (.b 183) (.b 107)) (.b 87)]]) [.n] [],.u 140 .b (.r .c (.r .d (.d (.b 183) (.b 107)) (.b 125)) (.b 181)),.c (.L (.b 87)) [.u 181 .c (.r .b (.r .d (.b 87) (.b 125)) (.c (.b 1)))] []],.b (.k [.b 108,.r .b (.b 30) (.r .c (.b 140) (.m (.h 197) [.b 108,.b 115])),.b 115,.k []])]
noncomputable def DO:List aT:=[.d 75 (.u (.E (.b 119)) (.c (.b 1)) (.b 119)),.d 110 (.u (.E (.b 86)) (.d (.b 149) (.c (.b 2))) (.b 86)),.c (.F [.g .f (.b 75) (.c (.b 1)),.g .f (.b 110) (.b 75),.g .d (.b 110) (.d (.b 149) (.c (.b 2)))]) [.n] [],.b (.k [.C 0 5,.r .d (.r .b (.d (.b 149) (.c (.b 1))) (.b 75)) (.c (.b 1)),.r .b (.r .d (.b 110) (.b 75)) (.c (.b 1)),.k []])]
noncomputable def ye:List aT:=[.d 39 (.u (.g .b (.b 108) (.C 0 5)) (.n (.b 129) 41) (.n (.b 129) 139)),.d 30 (.q .b (.b 39)),.k (.b 107) .c (.m (.h 197) [.b 108,.b 115]) [.m (.y (.b 39) .b [.c .m])],.b (.k [.b 108,.b 30,.b 115,.k []])]
noncomputable def DP:List aT:=[.b (.k [.q .b (.n (.b 129) 139),.q .b (.n (.b 129) 41)])]
noncomputable def yg:List aT:=[.r (.b 129) 139 (.b 128) 0,.r (.b 129) 41 (.b 128) 1]
noncomputable def DQ:List aT:=[.c (.g .h (.d (.b 191) (.c (.b 0))) (.n (.b 163) 73)) [.n] [],.b (.m (.d (.n (.b 163) 73) (.d (.b 191) (.c (.b 0)))) [.b 163,.b 191])]
noncomputable def DR:List aT:=[.d 79 (.y (.n (.b 163) 80) .d [.b 133]),.c (.H (.q .c (.b 79))) [.n] [],.b (.b 79)]
noncomputable def yh:List aT:=[.c (.E (.b 191)) [.b (.c .m)] [],.b (.m (.h 70) [.b 163,.b 191])]
noncomputable def DS:List aT:=[.d 33 (.m (.h 150) [.b 163,.d (.b 191) (.c (.b 2))]),.d 125 (.m (.h 37) [.b 163,.d (.b 191) (.c (.b 3))]),.b (.m (.h 182) [.b 33,.b 125,.m (.h 37) [.b 163,.d (.b 191) (.c (.b 4))]])]
noncomputable def ux:List aT:=[.c (.g .b (.d (.b 191) (.c (.b 0))) (.c (.c [115,117,98,115,116,114]))) [.b (.m (.h 148) [.b 163,.b 191])] [],.d 149 (.m (.h 134) [.b 163,.d (.b 191) (.c (.b 2))]),.c (.g .b (.d (.b 191) (.c (.b 0))) (.c (.c [101,108,101,109]))) [.b (.m (.h 60) [.b 149,.t (.m (.h 70) [.b 163,.b 141]) 141 [163] (.d (.b 191) (.c (.b 3))) []])] [],.b (.b 149)]
noncomputable def PJ:List aT:=[.b (.g .e (.d (.b 191) (.c (.b 0))) (.k [.c (.c [118,97,114]),.c (.c [97,114,114,97,121]),.c (.c [101,108,101,109]),.c (.c [115,117,98,115,116,114])]))]
noncomputable def yi:List aT:=[.b (.d (.b 191) (.c (.b 2)))]
noncomputable def DT:List aT:=[.b (.N (.n (.b 163) 129) 120 [.m (.h 150) [.b 163,.b 191]])]
noncomputable def DU:List aT:=[.c (.g .h (.b 108) (.n (.b 163) 143)) [.n] [],.b (.m (.d (.n (.b 163) 143) (.b 108)) [.b 204,.b 108,.b 113,.b 161,.n (.b 163) 116])]
noncomputable def DV:List aT:=[.d 113 (.m (.h 70) [.b 163,.d (.b 191) (.c (.b 2))]),.d 161 (.m (.h 70) [.b 163,.d (.b 191) (.c (.b 3))]),.b (.m (.h 158) [.b 163,.d (.b 191) (.c (.b 0)),.d (.b 191) (.c (.b 1)),.b 113,.b 161])]
noncomputable def DW:List aT:=[.d 113 (.m (.h 70) [.b 163,.d (.b 191) (.c (.b 2))]),.b (.r .b (.b 113) (.m (.h 70) [.b 163,.d (.b 191) (.c (.b 3))]))]
noncomputable def oI:List aT:=[.d 79 (.s [[99,111,110,115,116],[118,97,114],[101,108,101,109]] [.h 68,.h 69,.h 69]),.k (.b 204) .b (.k [.c (.c [97,100,100]),.c (.c [115,117,98]),.c (.c [109,117,108]),.c (.c [100,105,118]),.c (.c [112,111,119]),.c (.c [112,111,119,105]),.c (.c [97,110,100]),.c (.c [111,114]),.c (.c [101,113,118]),.c (.c [110,101,113,118])]) [.l (.b 79) (.b 204) (.h 65)],.k (.b 204) .b (.k [.c (.c [101,113]),.c (.c [110,101]),.c (.c [108,116]),.c (.c [108,101]),.c (.c [103,116]),.c (.c [103,101])]) [.l (.b 79) (.b 204) (.h 67)],.b (.b 79)]
noncomputable def PK:List aT:=[.b (.s [[115,117,98,115,116,114],[99,97,116]] [.h 69,.h 66])]
noncomputable def DX:List aT:=[.b (.m (.h 127) [.n (.b 163) 129])]
noncomputable def DY:List aT:=[.m (.m (.h 50) [.n (.b 163) 129,.b 35])]
noncomputable def yj:List aT:=[.d 149 (.m (.h 81) [.b 129,.b 108,.u (.g .b (.b 108) (.C 0 5)) (.q .b (.b 201)) (.c (.b 0))]),.m (.N (.b 129) 177 [.b 149,.b 201]),.b (.b 149)]
noncomputable def yk:List aT:=[.d 79 (.y (.n (.b 163) 80) .d [.b 133]),.c (.q .f (.b 79)) [.b (.b 79)] [],.b (.b 133)]
noncomputable def uy:List aT:=[.c (.g .b (.d (.b 191) (.c (.b 0))) (.c (.c [97,108,116]))) [.b (.k [.c (.c [97,108,116]),.d (.b 191) (.c (.b 1))])] [],.c (.g .b (.d (.b 191) (.c (.b 0))) (.c (.c [112,114,111,99]))) [.b (.k [.c (.c [112,114,111,99]),.m (.h 196) [.b 163,.d (.b 191) (.c (.b 2))]])] [],.c (.m (.h 85) [.b 191]) [.b (.m (.h 150) [.b 163,.b 191])] [],.b (.m (.h 188) [.n (.b 163) 129,.d (.b 191) (.c (.b 1)),.m (.h 70) [.b 163,.b 191]])]
noncomputable def DZ:List aT:=[.b (.t (.m (.h 27) [.b 163,.b 191]) 191 [163] (.b 192) [])]
noncomputable def PL:List aT:=[.b (.w [.g .c (.d (.b 26) (.c (.b 0))) (.c (.c [112,114,111,99])),.g .c (.d (.b 26) (.c (.b 0))) (.c (.c [97,108,116]))])]
noncomputable def mW:List aT:=[.q [108,30,115,55] (.b 26),.c (.g .c (.g .b (.b 108) (.C 0 5)) (.g .b (.n (.b 184) 108) (.C 0 5))) [.n] [],.c (.F [.g .c (.n (.b 184) 108) (.C 0 5),.E (.n (.b 184) 115)]) [.b (.k [.n (.b 184) 108,.b 30,.b 115,.k []])] [],.c (.w [.g .d (.n (.b 184) 115) (.b 115),.H (.n (.b 184) 55)]) [.n] [],.b (.k [.n (.b 184) 108,.b 30,.n (.b 184) 115,.k []])]
noncomputable def Ea:List aT:=[.d 79 (.z),.k (.c [125,87]) .b (.b 55) [.d 112 (.m (.b 71) [.b 80,.b 125]),.d 131 (.c .m),.c (.L (.b 87)) [.d 131 (.m (.b 71) [.b 80,.b 87]),.c (.g .f (.b 131) (.b 112)) [.n] []] [],.m (.y (.b 79) .b [.k [.b 112,.b 131]])],.b (.q .e (.b 79))]
noncomputable def uz:List aT:=[.d 80 (.q .d (.b 175)),.d 135 (.t (.b 141) 141 [] (.b 58) [.g .c (.b 141) (.c (.c [42]))]),.c (.g .c (.q .b (.b 135)) (.q .b (.b 29))) [.n] [],.k (.b 32) .c (.q .b (.b 135)) [.d 184 (.d (.b 185) (.d (.b 135) (.b 32))),.d 100 (.g .e (.n (.b 184) 200) (.k [.c (.c [112,114,111,99]),.c (.c [102,117,110,99]),.c (.c [115,117,98])])),.c (.g .b (.b 100) (.m (.h 102) [.d (.b 29) (.b 32)])) [.n] [],.l (.b 80) (.d (.b 135) (.b 32)) (.u (.b 100) (.d (.d (.b 29) (.b 32)) (.c (.b 1))) (.m (.h 59) [.b 184,.d (.b 29) (.b 32)]))],.k (.b 133) .b (.b 135) [.c (.n (.d (.b 185) (.b 133)) 55) [.q [108,30,115,55] (.d (.b 80) (.b 133)),.l (.b 80) (.b 133) (.k [.b 108,.b 30,.b 115,.m (.h 169) [.n (.d (.b 185) (.b 133)) 55,.b 71,.b 80]])] []],.b (.b 80)]
noncomputable def Eb:List aT:=[.d 35 (.n (.b 163) 80),.g (.b 163) 80 (.b 80),.G [.b (.m (.h 70) [.b 163,.b 191])] [.g (.b 163) 80 (.b 35)]]
noncomputable def Ec:List aT:=[.d 79 (.s [] []),.k (.b 147) .b (.n (.b 163) 151) [.c (.g .b (.d (.b 147) (.c (.b 0))) (.n (.b 195) 133)) [.l (.b 79) (.d (.b 147) (.c (.b 1))) (.d (.n (.b 163) 151) (.b 147))] []],.b (.b 79)]
noncomputable def qt:List aT:=[.M 89 163,.c (.g .c (.q .b (.t (.b 141) 141 [] (.b 58) [.g .b (.b 141) (.c (.c [42]))])) (.q .b (.t (.b 141) 141 [] (.b 29) [.g .b (.d (.b 141) (.c (.b 0))) (.c (.c [97,108,116]))]))) [.n] [],.d 83 (.t (.b 141) 141 [] (.b 29) [.g .c (.d (.b 141) (.c (.b 0))) (.c (.c [97,108,116]))]),.b (.m (.h 36) [.n (.b 195) 185,.b 58,.m (.h 174) [.b 163,.b 195],.b 83,.b 89])]
noncomputable def yl:List aT:=[.d 131 (.r .h (.c (.b 1)) (.r .d (.b 203) (.c (.b 1)))),.c (.F [.g .f (.b 132) (.R (.b 131)),.g .i (.b 132) (.b 131)]) [.n] [],.b (.b 132)]
noncomputable def Ed:List aT:=[.b (.m (.h 76) [.r .b (.b 206) (.b 207),.b 203])]
noncomputable def Ee:List aT:=[.c (.g .b (.b 142) (.c (.c [97,100,100]))) [.b (.m (.h 91) [.b 206,.b 207,.n (.b 116) 203])] [],.s]
noncomputable def PM:List aT:=[.b (.U [(5,0),(6,4)] [.h 92,.h 123])]
noncomputable def uA:List aT:=[.b (.s [[73],[74],[65],[67],[68]] [.k [.c (.b 0),.c (.b 0),.c (.b 0),.k []],.k [.c (.b 0),.c (.b 1),.c (.b 0),.k []],.k [.c (.b 0),.c (.b 2),.c (.b 0),.k [.k [.c (.b 0),.c (.b 2)],.k [.c (.b 1),.c (.b 2)]]],.k [.c (.b 5),.c (.b 0),.c (.b 5),.k []],.k [.c (.b 5),.c (.b 5),.c (.b 2),.k [.k [.c (.b 1),.c (.b 3)]]]])]
noncomputable def uB:List aT:=[.c (.g .b (.q .b (.b 153)) (.c (.b 0))) [.b (.c (.b 0))] [],.d 54 (.r .e (.d (.b 153) (.c (.b 0))) (.b 126)),.l (.b 153) (.c (.b 0)) (.r .g (.d (.b 153) (.c (.b 0))) (.b 126)),.c (.g .b (.d (.b 153) (.c (.b 0))) (.c (.b 0))) [.m (.y (.b 153) .f [.c (.b 0)])] [],.b (.b 54)]
noncomputable def mX:List aT:=[.d 184 (.O 13 [.d (.c (.c [80,81,82,83])) (.b 32)]),.g (.b 184) 98 (.c (.o af)),.g (.b 184) 108 (.d (.k [.c (.b 0),.c (.b 0),.c (.b 0),.c (.b 5),.c (.b 5)]) (.m (.h 23) [.b 153,.c (.b 5)])),.c (.g .b (.n (.b 184) 108) (.c (.b 5))) [.g (.b 184) 115 (.d (.k [.c .m,.c (.b 1),.c (.b 2),.c (.b 4)]) (.m (.h 23) [.b 153,.c (.b 4)]))] [],.c (.w [.g .d (.b 32) (.c (.b 0)),.g .b (.m (.h 23) [.b 153,.c (.b 8)]) (.c (.b 7))]) [.g (.b 184) 200 (.c (.c [102,117,110,99]))] [.c (.g .b (.m (.h 23) [.b 153,.c (.b 2)]) (.c (.b 1))) [.g (.b 184) 200 (.c (.c [97,114,114,97,121])),.g (.b 184) 55 (.m (.h 17) [.b 153,.b 103])] []],.b (.b 184)]
noncomputable def qu:List aT:=[.d 125 (.k [.c (.c [99,111,110,115,116]),.c (.b 0),.r .d (.m (.h 23) [.b 153,.c (.b 3)]) (.c (.b 1))]),.d 87 (.k [.c (.c [99,111,110,115,116]),.c (.b 0),.r .b (.c (.b 1)) (.m (.h 23) [.b 153,.c (.b 3)])]),.d 202 (.m (.h 23) [.b 153,.c (.b 4)]),.c (.w [.g .b (.b 202) (.c (.b 1)),.b 103]) [.d 87 (.k [.c (.c [118,97,114]),.c (.b 0),.c (.c [80])])] [],.c (.g .b (.b 202) (.c (.b 2))) [.b (.M [.k [.k [.c (.c [99,111,110,115,116]),.c (.b 0),.c (.b 1)],.k [.c (.c [99,111,110,115,116]),.c (.b 0),.c (.b 2)]],.k [.b 125,.c .m]])] [],.b (.M [.k [.b 125,.u (.g .b (.b 202) (.c (.b 3))) (.c .m) (.b 87)]])]
noncomputable def qv:List aT:=[.c (.g .b (.n (.b 184) 200) (.c (.c [102,117,110,99]))) [.b (.k [.c (.c [112,114,111,99]),.Q 1,.d (.c (.c [70,71,72])) (.m (.h 23) [.b 153,.c (.b 3)])])] [],.d 202 (.m (.h 23) [.b 153,.c (.b 5)]),.c (.g .b (.m (.h 23) [.b 153,.c (.b 12)]) (.c (.b 11))) [.b (.u (.g .f (.b 202) (.c (.b 3))) (.k [.c (.c [112,114,111,99]),.Q 1,.c (.c [70])]) (.k [.c (.c [118,97,114]),.c (.b 0),.c (.c [73])]))] [],.c (.g .b (.n (.b 184) 108) (.c (.b 0))) [.b (.d (.k [.k [.c (.c [118,97,114]),.c (.b 0),.c (.c [73])],.k [.c (.c [118,97,114]),.c (.b 0),.c (.c [74])],.k [.c (.c [101,108,101,109]),.c (.b 0),.c (.c [65]),.M [.k [.c (.c [99,111,110,115,116]),.c (.b 0),.m (.h 23) [.b 153,.c (.b 3)]],.k [.c (.c [99,111,110,115,116]),.c (.b 0),.r .b (.c (.b 1)) (.m (.h 23) [.b 153,.c (.b 2)])]]],.k [.c (.c [97,114,114,97,121]),.c (.b 0),.c (.c [65])],.k [.c (.c [97,100,100]),.c (.b 0),.k [.c (.c [118,97,114]),.c (.b 0),.c (.c [73])],.k [.c (.c [99,111,110,115,116]),.c (.b 0),.m (.h 23) [.b 153,.c (.b 4)]]]]) (.b 202))] [],.b (.d (.k [.k [.c (.c [118,97,114]),.c (.b 5),.c (.c [67])],.k [.c (.c [101,108,101,109]),.c (.b 5),.c (.c [68]),.M [.k [.c (.c [99,111,110,115,116]),.c (.b 0),.r .b (.c (.b 1)) (.m (.h 23) [.b 153,.c (.b 3)])]]],.k [.c (.c [97,114,114,97,121]),.c (.b 5),.c (.c [68])],.k [.c (.c [115,117,98,115,116,114]),.c (.b 5),.k [.c (.c [118,97,114]),.c (.b 5),.c (.c [67])],.k [.c (.c [99,111,110,115,116]),.c (.b 0),.r .b (.c (.b 1)) (.m (.h 23) [.b 153,.c (.b 3)])],.c .m],.k [.c (.c [99,97,116]),.c (.b 5),.k [.c (.c [118,97,114]),.c (.b 5),.c (.c [67])],.k [.c (.c [99,111,110,115,116]),.c (.b 5),.c (.c [43])]]]) (.b 202))]
noncomputable def jY:List aT:=[.d 204 (.d (.b 191) (.c (.b 0))),.c (.g .b (.b 204) (.c (.c [112,114,111,99]))) [.b (.k [.c (.c [112,114,111,99]),.u (.g .b (.d (.b 191) (.c (.b 2))) (.c (.c [72]))) (.c (.c [70])) (.d (.b 191) (.c (.b 2)))])] [],.c (.g .e (.b 204) (.k [.c (.c [118,97,114]),.c (.c [97,114,114,97,121])])) [.b (.d (.m (.h 20) []) (.d (.b 191) (.c (.b 2))))] [],.c (.w [.g .b (.b 204) (.c (.c [101,108,101,109])),.g .b (.d (.b 191) (.c (.b 2))) (.c (.c [65]))]) [.b (.k [.c (.b 0),.r .b (.r .b (.c (.b 2)) (.d (.d (.d (.b 191) (.c (.b 3))) (.c (.b 0))) (.c (.b 2)))) (.r .c (.c (.b 3)) (.r .d (.d (.d (.d (.b 191) (.c (.b 3))) (.c (.b 1))) (.c (.b 2))) (.c (.b 1)))),.c (.b 0),.k []])] [],.c (.g .b (.b 204) (.c (.c [101,108,101,109]))) [.b (.k [.c (.b 5),.r .b (.c (.b 3)) (.r .c (.c (.b 2)) (.d (.d (.d (.b 191) (.c (.b 3))) (.c (.b 0))) (.c (.b 2)))),.c (.b 2),.k []])] [],.c (.g .b (.b 204) (.c (.c [115,117,98,115,116,114]))) [.b (.k [.c (.b 5),.r .d (.d (.d (.b 191) (.c (.b 3))) (.c (.b 2))) (.c (.b 1)),.r .d (.c (.b 6)) (.d (.d (.b 191) (.c (.b 3))) (.c (.b 2))),.k []])] [],.c (.g .b (.b 204) (.c (.c [97,100,100]))) [.m (.y (.d (.b 39) (.c (.b 0))) .b [.k [.c (.b 0),.r .b (.d (.d (.d (.b 39) (.c (.b 0))) (.c (.b 0))) (.c (.b 1))) (.d (.d (.b 191) (.c (.b 3))) (.c (.b 2)))]]),.b (.k [.c (.b 0),.r .d (.q .b (.d (.b 39) (.c (.b 0)))) (.c (.b 1)),.c (.b 0),.k []])] [],.d 172 (.q .b (.d (.b 39) (.c (.b 1)))),.m (.y (.d (.b 39) (.c (.b 1))) .g [.r .b (.G (.d (.b 39) (.c (.b 1))) ae (a (.c (.b 5)))) (.M [.c (.c [43])])]),.b (.k [.c (.b 5),.b 172,.c (.b 6),.k []])]
noncomputable def ym:List aT:=[.c (.g .b (.d (.b 191) (.c (.b 0))) (.c (.c [99,111,110,115,116]))) [.b (.d (.b 191) (.c (.b 2)))] [],.b (.d (.d (.d (.b 39) (.c (.b 0))) (.d (.d (.b 80) (.d (.b 191) (.c (.b 2)))) (.c (.b 1)))) (.c (.b 1)))]
noncomputable def uC:List aT:=[.c (.g .c (.q .b (.b 185)) (.q .b (.b 167))) [.b (.c .m)] [],.d 80 (.s [] []),.k (.b 32) .c (.q .b (.b 185)) [.q [184,166] (.k [.d (.b 185) (.b 32),.d (.b 167) (.b 32)]),.c (.g .c (.g .b (.n (.b 184) 200) (.c (.c [102,117,110,99]))) (.g .b (.d (.b 166) (.c (.b 0))) (.c (.c [112,114,111,99])))) [.b (.c .m)] [],.c (.g .b (.n (.b 184) 200) (.c (.c [102,117,110,99]))) [.l (.b 80) (.n (.b 184) 133) (.d (.b 166) (.c (.b 1))),.E] [],.c (.g .c (.g .b (.n (.b 184) 108) (.c (.b 5))) (.g .b (.d (.b 166) (.c (.b 0))) (.c (.b 5)))) [.b (.c .m)] [],.d 115 (.u (.E (.n (.b 184) 115)) (.d (.b 166) (.c (.b 2))) (.n (.b 184) 115)),.c (.w [.g .b (.n (.b 184) 108) (.c (.b 5)),.g .d (.b 115) (.d (.b 166) (.c (.b 2))),.g .c (.n (.b 184) 200) (.c (.c [97,114,114,97,121]))]) [.b (.c .m)] [],.l (.b 80) (.n (.b 184) 133) (.k [.n (.b 184) 108,.d (.b 166) (.c (.b 1)),.b 115,.k []])],.k (.b 184) .b (.b 185) [.c (.g .b (.n (.b 184) 200) (.c (.c [97,114,114,97,121]))) [.d 55 (.z),.k (.c [125,87]) .b (.n (.b 184) 55) [.d 61 (.k [.d (.b 125) (.c (.b 2)),.u (.E (.b 87)) (.c .m) (.m (.h 16) [.b 39,.b 80,.b 87])]),.c (.w [.L (.b 87),.g .f (.d (.b 61) (.c (.b 1))) (.d (.b 61) (.c (.b 0)))]) [.b (.c .m)] [],.m (.y (.b 55) .b [.b 61])],.q [108,30,115,137] (.d (.b 80) (.n (.b 184) 133)),.l (.b 80) (.n (.b 184) 133) (.k [.b 108,.b 30,.b 115,.q .e (.b 55)])] []],.b (.b 80)]
noncomputable def ez:List aT:=[.d 133 (.d (.c (.c [80,81,82,83])) (.m (.h 23) [.b 153,.c (.b 4)])),.d 90 (.M [.r .d (.m (.h 23) [.b 153,.c (.b 5)]) (.c (.b 1)),.r .d (.m (.h 23) [.b 153,.c (.b 4)]) (.c (.b 1))]),.d 149 (.y (.b 80) .d [.b 133]),.c (.H (.q .c (.b 149))) [.b (.c (.o af))] [],.q [108,30,115,55] (.b 149),.d 201 (.u (.g .b (.b 108) (.c (.b 0))) (.r .b (.c (.b 70)) (.m (.h 23) [.b 153,.c (.b 9)])) (.G (.c (.c [120,121,122,117,118,119])) (a (.m (.h 23) [.b 153,.c (.b 3)])) ae)),.d 191 (.u (.b 55) (.k [.c (.c [101,108,101,109]),.b 108,.b 133,.t (.k [.c (.c [99,111,110,115,116]),.c (.b 0),.b 141]) 141 [] (.G (.b 90) ae (a (.q .b (.b 55)))) []]) (.k [.c (.c [118,97,114]),.b 108,.b 133])),.d 140 (.c (.b 0)),.d 99 (.c (.o af)),.k (.b 32) .c (.q .b (.b 55)) [.q [125,87] (.d (.b 55) (.b 32)),.d 99 (.w [.b 99,.g .g (.b 125) (.d (.b 90) (.b 32)),.F [.E (.b 87),.g .g (.d (.b 90) (.b 32)) (.b 87)]]),.u 140 .b (.r .c (.r .d (.d (.b 90) (.b 32)) (.b 125)) (.u (.g .b (.b 32) (.c (.b 1))) (.c (.b 2)) (.c (.b 1))))],.d 203 (.u (.g .b (.b 108) (.c (.b 0))) (.c (.b 1)) (.b 115)),.d 162 (.u (.g .b (.b 108) (.c (.b 5))) (.d (.b 39) (.c (.b 1))) (.d (.b 39) (.c (.b 0)))),.d 171 (.r .b (.b 30) (.r .c (.b 140) (.b 203))),.d 99 (.w [.b 99,.g .g (.r .b (.b 171) (.b 203)) (.q .b (.b 162))]),.c (.b 99) [.k (.b 107) .c (.b 203) [.l (.b 162) (.r .b (.b 171) (.b 107)) (.u (.g .b (.b 108) (.c (.b 0))) (.k [.c (.b 0),.b 201]) (.d (.y (.b 201) .e [.c (.b 6)]) (.b 107)))]] [],.z ae (.N (.n (.b 163) 129) 177 [.m (.h 150) [.b 163,.b 191],.b 201]) [.b (.H (.b 99))],.b (.w [.b 99,.g .b (.m (.h 70) [.b 163,.b 191]) (.u (.g .b (.b 108) (.c (.b 0))) (.b 201) (.G (.y (.b 201) .e [.c (.b 6)]) ae (a (.b 115))))])]
noncomputable def cw:List aT:=[.C 153 (.r .e (.q .g (.b 138)) (.r .f (.c (.b 10)) (.c (.b 60)))) 138 [] (.G (.b 165) ae (a (.c (.b 24)))),.d 185 (.z),.k (.b 32) .c (.r .b (.c (.b 1)) (.m (.h 23) [.b 153,.c (.b 4)])) [.m (.y (.b 185) .b [.m (.h 18) [.b 153,.b 32,.w [.g .d (.b 32) (.c (.b 0)),.g .b (.n (.d (.b 185) (.c (.b 0))) 108) (.c (.b 0)),.g .b (.n (.d (.b 185) (.c (.b 0))) 200) (.c (.c [118,97,114]))]]])],.d 192 (.t (.m (.h 15) [.b 153,.b 184]) 184 [153] (.b 185) []),.c (.g .b (.m (.h 23) [.b 153,.c (.b 9)]) (.c (.b 8))) [.d 192 (.G (.b 192) (a (.c (.b 1))) ae)] [],.d 129 (.O 8 [.c (.b 8),.c (.b 11)]),.k (.b 107) .c (.c (.b 8)) [.m (.N (.b 129) 177 [.k [.c (.b 0),.b 107,.c (.b 0),.k []],.u (.g .d (.b 107) (.c (.b 1))) (.b 107) (.r .b (.c (.b 1)) (.m (.h 23) [.b 153,.c (.b 4)]))])],.m (.N (.b 129) 177 [.k [.c (.b 5),.c (.b 0),.c (.b 11),.k []],.c (.c [97,98,99,100,101,102,103,104,105,106,107])]),.F 39 (.k [.q .h (.n (.b 129) 139),.q .h (.n (.b 129) 41)]),.d 195 (.O 14 [.c (.c [115,117,98,114,111,117,116,105,110,101]),.c (.c [83])]),.g (.b 195) 185 (.q .d (.t (.k [.n (.b 184) 133,.b 184]) 184 [] (.b 185) [])),.d 73 (.m (.h 152) []),.k (.c [204,84]) .d (.m (.h 40) []) [.l (.b 73) (.b 204) (.b 84)],.d 163 (.O 10 [.b 129,.O 7 [],.s [] [],.c .m,.b 73,.s [] []]),.g (.b 163) 143 (.m (.h 34) []),.g (.b 163) 80 (.q .d (.t (.k [.b 133,.d (.m (.h 20) []) (.b 133)]) 133 [] (.m (.h 20) []) [])),.l (.n (.b 163) 80) (.c (.c [72])) (.c (.c [70])),.d 35 (.m (.h 187) [.b 163]),.d 29 (.m (.h 28) [.b 163,.b 192]),.d 57 (.m (.h 19) [.b 39,.b 185,.t (.m (.h 21) [.b 39,.b 191]) 191 [39] (.b 192) []]),.z (a 80) (.m (.h 63) [.b 163,.b 195,.t (.n (.b 184) 133) 184 [] (.b 185) [],.b 29]) [.b (.w [.E (.b 57),.g .b (.d (.n (.b 163) 80) (.c (.c [73]))) (.d (.m (.h 20) []) (.c (.c [73])))])],.c (.F [.g .c (.b 80) (.b 57),.g .c (.k [.n (.b 129) 139,.n (.b 129) 41]) (.b 39)]) [.b (.c (.o av))] [],.g (.b 163) 80 (.b 80),.k (.b 194) .c (.c (.b 3)) [.c (.F [.H (.m (.h 22) [.b 153,.b 163,.b 39,.b 80]),.g .c (.k [.n (.b 129) 139,.n (.b 129) 41]) (.b 39)]) [.b (.c (.o av))] []],.m (.m (.h 159) [.b 163,.b 35]),.b (.w [.g .b (.k [.n (.b 129) 139,.n (.b 129) 41]) (.k [.G (.d (.b 39) (.c (.b 0))) ae (a (.c (.b 8))),.G (.d (.b 39) (.c (.b 1))) ae (a (.c (.b 11)))]),.g .b (.m (.h 187) [.b 163]) (.k [.c (.b 8),.c (.b 11)])])]
noncomputable def mY:List aT:=[.b (.m (.h 72) [.b 163,.b 80,.b 191])]
def Ef:List (ak×iA):=[
 (208,{b:=[168,139,41],c:=PE}),
 (209,{b:=[168,149],c:=xZ}),
 (210,{b:=[168,149,201],c:=sq}),
 (211,{b:=[168,129,116,198,205,73,173],c:=PF}),
 (212,{b:=[168,203,157,56,190,176,47,43,52],c:=DI,d:=[.b 32,.b 7,.b 15,.b 38,.b 1000000,.b 19,.b 72,.b 40]}),
 (213,{b:=[168,133],c:=DJ}),
 (214,{b:=[168,108,133],c:=PG}),
 (199,{b:=[108],c:=PH}),
 (136,{b:=[39,30,48],c:=uw}),
 (156,{b:=[39,30,186],c:=DK}),
 (121,{b:=[39,108,30],c:=DL}),
 (178,{b:=[39,108,30,201],c:=yc}),
 (122,{b:=[39,30,115],c:=DM}),
 (179,{b:=[39,30,189],c:=yd}),
 (146,{b:=[189,115],c:=DN}),
 (197,{b:=[108,115],c:=PI}),
 (60,{b:=[149,183],c:=lu}),
 (182,{b:=[149,119,86],c:=DO}),
 (81,{b:=[129,108,115],c:=ye}),
 (127,{b:=[129],c:=DP}),
 (50,{b:=[129,128],c:=yg}),
 (70,{b:=[163,191],c:=DQ}),
 (134,{b:=[163,133],c:=DR}),
 (37,{b:=[163,191],c:=yh}),
 (148,{b:=[163,191],c:=DS}),
 (150,{b:=[163,191],c:=ux}),
 (85,{b:=[191],c:=PJ}),
 (68,{b:=[163,191],c:=yi}),
 (69,{b:=[163,191],c:=DT}),
 (158,{b:=[163,204,108,113,161],c:=DU}),
 (65,{b:=[163,191],c:=DV}),
 (66,{b:=[163,191],c:=DW}),
 (152,{b:=[],c:=oI}),
 (40,{b:=[],c:=PK}),
 (187,{b:=[163],c:=DX}),
 (159,{b:=[163,35],c:=DY}),
 (188,{b:=[129,108,201],c:=yj}),
 (196,{b:=[163,133],c:=yk}),
 (27,{b:=[163,191],c:=uy}),
 (28,{b:=[163,192],c:=DZ}),
 (102,{b:=[26],c:=PL}),
 (59,{b:=[184,26],c:=mW}),
 (169,{b:=[55,71,80],c:=Ea}),
 (36,{b:=[185,58,175,29,71],c:=uz}),
 (72,{b:=[163,80,191],c:=Eb}),
 (174,{b:=[163,195],c:=Ec}),
 (63,{b:=[163,195,58,29],c:=qt}),
 (76,{b:=[132,203],c:=yl}),
 (91,{b:=[206,207,203],c:=Ed}),
 (92,{b:=[142,108,206,207,116],c:=Ee}),
 (34,{b:=[],c:=PM}),
 (20,{b:=[],c:=uA}),
 (23,{b:=[153,126],c:=uB}),
 (18,{b:=[153,32,103],c:=mX}),
 (17,{b:=[153,103],c:=qu}),
 (15,{b:=[153,184],c:=qv}),
 (21,{b:=[39,191],c:=jY}),
 (16,{b:=[39,80,191],c:=ym}),
 (19,{b:=[39,185,167],c:=uC}),
 (22,{b:=[153,163,39,80],c:=ez}),
 (111,{b:=[165],c:=cw})]
def kJ(r0:ak):Option iA:=Ef.lookup r0
noncomputable def aq:Nat->v
 |0=>λ_ _ _=>.d
 |n+1=>λf X C=>
  match f with
  |.g r0=>(match kJ r0 with
    |some d=>(match ie d.b d.d X with
     |some b=>leave (aO (aq n) d.c b C)
     |none=>.d)
    |none=>.d)
  |.q T=>(match ie [80,191] [] X with
     |some b=>leave (aO (aq n) mY (b.c 163 T) C)
     |none=>.d)
  |_=>.d
where
 leave:au (bA×ah)->au A
  |.b (.c T,_) C=>.b T C
  |.b (.b,_) C=>.b .m C
  |.b (.d,_) _=>.d
  |.g C=>.g C
  |.d=>.d
noncomputable def jZ:j:={b:=0,c:=λ_=>ae,f:=av}
end Mine.Internal
set_option tactic.hygienic true
namespace Mine.Internal
open PySem PySem.W PySem.Calls PyProof.Rows
section
variable{k:aU}{L:Bool}{n:Nat}{U:bo}{Q:List aN}{F:ai->Prop}{b:ah}{C:j}{D:Nat->Option ai}{H:ay}{h:aG}{R:fC->ay->Prop}{c:v}
noncomputable def uD(k:aU)(G:fL)(d:iA):Prop:=∀(D:Nat->Option ai)(F:ai->Prop)(H:ay)(X:List A)(s0:List aj)(b:ah),k.d.StaysIn H.heap->aJ k D F H.heap X s0->Mine.Internal.ie d.b d.d X=a b->
 ∃M B,BindsTo H G ⟨s0,[]⟩ ((d.b.map an).zip B)/\aJ k D F H.heap M B/\fD d.b M (λ_=>ae)=a b
structure mZ(k:aU)(L:Bool)(n:Nat)(c:v)(r0:ak)(d:iA)(o:cu)(G:fL)(l:List x):Prop where
 e:k.h.lookup (k.k r0)=a o
 f:o.data=lH G
 g:codeIn k.h G.code G.qualname=af
 keep:to k.h (ax (k.k r0))=af
 closure:G.closure=[]
 shape:ur G l
 bind:uD k G d
 i:∀Z∈d.b,G.scope.names.lookup (an Z)=a .local\/G.scope.names.lookup (an Z)=a dh
 l:qs G.code k L n G.scope.names l (aO c d.c)
theorem Eg{G:fL}{d:iA}(z0:d.d=[])(h:∀s0:List aj,s0.length=d.b.length->rq G ⟨s0,[]⟩=bI ((d.b.map an).zip s0)):uD k G d:=by
 intro D F H X s0 b _ j0 W
 unfold Mine.Internal.ie at W
 split at W
 ·rename_i s
  rw[z0]at s W
  simp only[Jn,Xa,pB]at s W
  exact(bU X s0 (BindsTo.of_eq (h s0 (by rw[j0.b];exact WG (bw s.symm) (bw s)))) j0 W)
 ·cases W
theorem PN{G:fL}{d:iA}{c0:ai}{o:cu}{M:Array aj}{a0:Nat}{w:aj->Option (Array aj)->gu (List (aD×aj))}(p0:d.b.length=d.d.length+1)(z0:G.defaults=ax c0)(v:k.d.get? c0=a o)(l0:o.data=sZ M a0)(h0:∀D F h,aJ k D F h d.d M.toList)(H0:∀S,rq G ⟨[S],[]⟩=seqItems? G.defaults>>=w S)(P:∀S,w S (a M)=bI ((d.b.map an).zip (S::M.toList))):uD k G d:=by
 intro D F H X s0 b A0 j0 W
 unfold Mine.Internal.ie at W
 split at W
 ·rename_i s
  obtain⟨T,rfl⟩:∃T,X=[T]:=by
   have:X.length=1:=by lia
   exact List.length_eq_one_iff.mp this
  refine aA (oF j0) λS J0 v0=>?_;obtain rfl:=J0
  refine(bU (T::d.d) (S::M.toList) (BindsTo.of_defaults z0 (A0 _ _ v) l0 (H0 S) (P S)) ?_ W)
  simp only[cA,cB]
  exact(bU _ _ rfl v0 (h0 D F H.heap))
 ·cases W
theorem yn(r:au (bA×ah)):aq.leave r=sf r:=by
 induction r with
 |b V C=>obtain⟨f,l⟩:=V;induction f<;>rfl
 |g C=>rfl
 |d=>rfl
theorem Eh(L0:cn k){r0:ak}{d:iA}{o:cu}{G:fL}{I0:List x}(g:mZ k L n c r0 d o G I0){X:List A}{s0:List aj}(J:lr k L (n+1) U Q F C D H.heap)(j0:aJ k D F H.heap X s0)(W:Mine.Internal.ie d.b d.d X=a b)(m:aB k Q F C D H (bz k F) (sf (aO c d.c b C)) (mM R) (mN R)):qp (aQ k.b k.c) H.heap (ax (k.k r0))/\je (aQ k.b k.c) U (la (ax (k.k r0)) ⟨s0,[]⟩) R H:=by
 have h:=L0.b.keeps J.b.c
 refine⟨IR g.keep _ h,?_⟩
 refine de (g.bind D F H X s0 b J.b.c j0 W) λM B d1 Y O=>?_
 exact OV (X:=X) L0.e J (h _ _ g.e) g.f (codeRec_of h g.g) g.closure g.shape d1 g.i Y O g.l m
theorem Ei{n:Nat}{r0:ak}{X:List A}{C:j}:aq (n+1) (.g r0) X C=(match kJ r0 with
 |some d=>(match Mine.Internal.ie d.b d.d X with
  |some b=>aq.leave (aO (aq n) d.c b C)
  |none=>.d)
 |none=>.d):=rfl
theorem PO{n:Nat}{m0:A}{X:List A}{C:j}:aq (n+1) (.q m0) X C=(match Mine.Internal.ie [80,191] [] X with
 |some b=>aq.leave (aO (aq n) mY (b.c 163 m0) C)
 |none=>.d):=rfl
theorem PP(L0:cn k)(l:∀n c,fz k af n c->fz k av n (gQ c)->∀r0 d,kJ r0=a d->∃o G I0,mZ k af n c r0 d o G I0)(r:∀n c d,kJ 20=a d->∃o G I0,mZ k av n c 20 d o G I0)(O:∀n c,fz k af n c->fz k av n (gQ c)->∀G B,k.l G B->∃I0,uv k af n c G B I0 mY):
 ∀n,fz k af n (aq n)/\fz k av n (gQ (aq n)):=by
 intro n
 induction n with
 |zero=>
  refine⟨λU Q F C D H q f X s0 J B0 j0 R m=>m.elim,λU Q F C D H q f X s0 J B0 j0 R m=>?_⟩
  induction q using A.casesOn<;>try exact m.elim
  rename_i r0
  replace m:aB k Q F C D H (bz k F) (cond (r0==20) (aq 0 (.g r0) X C) .d) (mM R) (mN R):=m
  (generalize w0:(r0==20)=x9;induction x9)<;>(rw[w0]at m;exact m.elim)
 |succ n Y=>
  obtain⟨L,h⟩:=Y
  refine⟨λU Q F C D H q f X s0 J B0 j0 R m=>?_,λU Q F C D H q f X s0 J B0 j0 R m=>?_⟩
  ·induction q using A.casesOn<;>try exact m.elim
   ·rename_i r0
    obtain rfl:=rN B0
    rw[Ei]at m
    generalize z0:kJ r0=x9;induction x9 with
    |none=>rw[z0]at m;exact m.elim
    |some d=>
     rw[z0]at m
     dsimp only at m
     generalize W:Mine.Internal.ie d.b d.d X=x9;induction x9 with
     |none=>rw[W]at m;exact m.elim
     |some b=>
      rw[W]at m
      dsimp only at m
      rw[yn]at m
      refine rF (l n (aq n) L h r0 d z0) λo G I0 g=>?_
      exact Eh L0 g J j0 W m
   ·rename_i m0
    rw[PO]at m
    generalize W:Mine.Internal.ie [80,191] [] X=x9;induction x9 with
    |none=>rw[W]at m;exact m.elim
    |some b=>
     rw[W]at m
     dsimp only at m
     rw[yn]at m
     exact Pp L0.e J B0 j0 (O n (aq n) L h) W m
  ·induction q using A.casesOn<;>try exact m.elim
   rename_i r0
   replace m:aB k Q F C D H (bz k F) (cond (r0==20) (aq (n+1) (.g r0) X C) .d) (mM R) (mN R):=m
   generalize w0:(r0==20)=x9;induction x9 with
   |false=>rw[w0]at m;exact m.elim
   |true=>
   obtain rfl:r0=20:=by simpa using w0
   rw[w0]at m
   replace m:aB k Q F C D H (bz k F) (aq (n+1) (.g 20) X C) (mM R) (mN R):=m
   obtain rfl:=rN B0
   rw[Ei]at m
   generalize z0:kJ 20=x9;induction x9 with
   |none=>rw[z0]at m;exact m.elim
   |some d=>
    rw[z0]at m
    dsimp only at m
    generalize W:Mine.Internal.ie d.b d.d X=x9;induction x9 with
    |none=>rw[W]at m;exact m.elim
    |some b=>
     rw[W]at m
     dsimp only at m
     rw[yn]at m
     refine rF (r n (aq n) d z0) λo G I0 g=>?_
     exact Eh L0 g J j0 W m
end
end Mine.Internal
set_option tactic.hygienic true
namespace Mine.Internal
open PySem PySem.W PySem.Calls PyProof.Rows
section
variable{k:aU}{L:Bool}{n:Nat}{U:bo}{Q:List aN}{F:ai->Prop}{C:j}{D:Nat->Option ai}{H:ay}{g0:aj->ay->Prop}{Y:aj->ay->Prop}{c:v}{G:aV}
theorem PQ{m0 T:A}{V q:aj}(r:bZ k L n U Q F C D H.heap)(D0:aC k D F H.heap m0 V)(h0:aC k D F H.heap T q)(m:aB k Q F C D H (bz k F) (ew C .h m0 T) Y g0):aR (aQ k.b k.c) U (po .LShift V q) Y g0 H:=by
 have R:=r.c
 induction m0 using A.casesOn<;>try exact m.elim
 all_goals(induction T using A.casesOn<;>try exact m.elim)
 rename_i i B
 obtain⟨t,rfl⟩:=cG D0;obtain⟨a1,rfl⟩:=cG h0
 have d:aB k Q F C D H (bz k F) (if i=1/\B=31 then .b (.b (2^31)) C else .d) Y g0:=m
 by_cases s:i=1/\B=31
 ·rw[if_pos s]at d
  obtain⟨rfl,rfl⟩:=s
  refine lshift_int (by decide) (by decide+kernel) ?_
  have e:(1:Int)*2^(31:Int).toNat=2^31:=by decide+kernel
  rw[e]
  exact d.g R gS
 ·rw[if_neg s]at d;exact d.elim
theorem PR{i B:Int}{t m0:jv}(J:bZ k L n U Q F C D H.heap)(m:aB k Q F C D H (bz k F) (ew C .b (.b i) (.b B)) Y g0):aR (aQ k.b k.c) U (Jc .Add (cI i t) (cI B m0)) Y g0 H:=
 Aam (aB.g (T:=A.b (i+B)) m J.c gS)
theorem PS{i B:Int}{t m0:jv}(J:bZ k L n U Q F C D H.heap)(m:aB k Q F C D H (bz k F) (ew C .c (.b i) (.b B)) Y g0):aR (aQ k.b k.c) U (Jc .Mult (cI i t) (cI B m0)) Y g0 H:=by
 have d:aB k Q F C D H (bz k F) (if i.natAbs<2^60/\B.natAbs<2^60 then .b (.b (i*B)) C else .d) Y g0:=m
 by_cases s:i.natAbs<2^60/\B.natAbs<2^60
 ·rw[if_pos s]at d
  refine PySem.AutoIntOps.imul_0 ?_ (IntMulOk.of_left (Cu s.1))
  exact d.g J.c gS
 ·rw[if_neg s]at d;exact d.elim
end
end Mine.Internal
set_option tactic.hygienic false
namespace Mine.Internal
open PySem PySem.W PySem.Calls PyProof.Rows
inductive yo:Type 1 where
 |i (Z:Bool)
 |q {c:Type} (Z:c)
 |r (Z y:yo)
inductive P:Type 1 where
 |q (p:Bool)
 |t {c:Type} (l r:c)
 |k (S p:P)
noncomputable def P.b:P->Prop
 |.q p=>p=af
 |.t l r=>l=r
 |.k S p=>S.b/\p.b
noncomputable def P.z:P->yo
 |.q p=>.i p
 |.t l _=>.q l
 |.k S p=>.r S.z p.z
noncomputable def P.C:P->yo
 |.q _=>.i af
 |.t _ r=>.q r
 |.k S p=>.r S.C p.C
theorem P.y:∀o:P,o.z=o.C->o.b
 |.q _,h=>by injection h
 |.t _ _,h=>by injection h
 |.k S p,h=>by injection h with E N;exact⟨S.y E,p.y N⟩
noncomputable abbrev P.m:P:=.q av
theorem P.n{V:Prop}(h:P.m.b):V:=nomatch(h:av=af)
theorem P.u{U:Sort _}{c0:U->Prop}(S:U)(h:P.m.b):c0 S:=P.n h
theorem P.s{U g:Sort _}{c0:U->g->Prop}(S:U)(p:g)(h:P.m.b):c0 S p:=P.n h
theorem P.e{U g x:Sort _}{c0:U->g->x->Prop}(S:U)(p:g)(I:x)(h:P.m.b):c0 S p I:=P.n h
theorem P.i{U g x i0:Sort _}{c0:U->g->x->i0->Prop}(S:U)(p:g)(I:x)(d:i0)(h:P.m.b):c0 S p I d:=P.n h
theorem P.w{U g x i0 F:Sort _}{c0:U->g->x->i0->F->Prop}(S:U)(p:g)(I:x)(d:i0)(f:F)(h:P.m.b):c0 S p I d f:=P.n h
noncomputable def sr:List (ak×Int):=[(5,0),(9,1),(2,2),(1,3),(6,4),(0,5),(12,6)]
noncomputable def su:List ak:=[199,136,156,121,178,122,179,146,197,60,182,81,127,50,70,134,37,148,150,85,68,69,158,65,67,66,152,40,187,159,188,196,27,28,102,59,169,36,72,174,63,76,91,96,94,49,93,97,95,145,88,92,123,34,20,23,18,17,15,21,16,19,22,111,4,11,8,10,7,13,14]
noncomputable def yp:List ak:=[7,8,10,13,14]
structure fA(k:aU)(L:Bool)(n:Nat)(c:v):Prop where
 b:cn k
 d:jn k
 l:si k
 m:∀f i,(f,i)∈sr->∃t,k.i (an f)=a (cI i t)
 o:∀f,f∈su->k.i (an f)=a (ax (k.k f))
 p:∀I,I∈yp->to k.h (ax (k.k I))=af
 e:fz k L n c
 q:L=af->fz k av n (gQ c)
noncomputable def eU(G:aV)(H:aD)(w:gt):Bool:=ba (G.lookup H=a w)
theorem fn{G:aV}{H:aD}{w:gt}(h:eU G H w=af):G.lookup H=a w:=of_decide_eq_true h
structure Ej where
 b:aD->aH->P:=λ_ _=>.m
 c:Bw->Nat->aH->P:=λ_ _ _=>.m
 d:wT->aa->aH->P:=λ_ _ _=>.m
 e:aa->aD->aH->P:=λ_ _ _=>.m
 f:aa->List aa->List Jp->aH->P:=λ_ _ _ _=>.m
 g:aa->aa->aH->P:=λ_ _ _=>.m
 h:Option aa->Option aa->Option aa->aH->P:=λ_ _ _ _=>.m
 i:aa->mu->aa->aH->P:=λ_ _ _ _=>.m
 k:aa->List pH->List aa->aH->P:=λ_ _ _ _=>.m
 l:wU->List aa->aH->P:=λ_ _ _=>.m
 m:aa->aa->aa->aH->P:=λ_ _ _ _=>.m
 n:List aa->Nat->aH->P:=λ_ _ _=>.m
 o:List aa->aH->P:=λ_ _=>.m
 p:List (Option aa)->List aa->aH->P:=λ_ _ _=>.m
 q:aa->List Jq->fj->aH->P:=λ_ _ _ _=>.m
def iE(m:Ej):aa->P
 |.Name H V=>m.b H V
 |.Constant I w V=>m.c I w V
 |.UnaryOp o Z V=>m.d o Z V
 |.Attribute T H V=>m.e T H V
 |.Call f s e0 V=>m.f f s e0 V
 |.Subscript T H V=>m.g T H V
 |.Slice S p I V=>m.h S p I V
 |.BinOp S o p V=>m.i S o p V
 |.Compare S b a0 V=>m.k S b a0 V
 |.BoolOp o t0 V=>m.l o t0 V
 |.IfExp I S p V=>m.m I S p V
 |.Tuple t0 w V=>m.n t0 w V
 |.List t0 V=>m.o t0 V
 |.Dict e0 X V=>m.p e0 X V
 |.ListComp e t G V=>m.q e t G V
 |_=>.m
theorem iU{m:Ej}{c0:aa->Prop}{S:aa}(h:(iE m S).b)(k1:∀H V,(m.b H V).b->c0 (aY H V))(l:∀I w V,(m.c I w V).b->c0 (fZ I w V))(B:∀o Z V,(m.d o Z V).b->c0 (pt o Z V))(k4:∀T H V,(m.e T H V).b->c0 (iu T H V))(k5:∀f s e0 V,(m.f f s e0 V).b->c0 (cQ f s e0 V))(L:∀T H V,(m.g T H V).b->c0 (pD T H V))(k7:∀S p I V,(m.h S p I V).b->c0 (wI S p I V))(k8:∀S o p V,(m.i S o p V).b->c0 (Ig S o p V))(n:∀S b a0 V,(m.k S b a0 V).b->c0 (lM S b a0 V))(Y:∀o t0 V,(m.l o t0 V).b->c0 (gA o t0 V))(c:∀I S p V,(m.m I S p V).b->c0 (IP I S p V))(y:∀t0 w V,(m.n t0 w V).b->c0 (gx t0 w V))(k:∀t0 V,(m.o t0 V).b->c0 (AQ t0 V))(R:∀e0 X V,(m.p e0 X V).b->c0 (rd e0 X V))(C:∀e t G V,(m.q e t G V).b->c0 (kp e t G V)):c0 S:=by
 induction S using pN<;>first|exact P.n h|exact k1 _ _ h|exact l _ _ _ h|exact B _ _ _ h|exact k4 _ _ _ h|exact k5 _ _ _ _ h|exact L _ _ _ h|exact k7 _ _ _ _ h|exact k8 _ _ _ _ h|exact n _ _ _ _ h|exact Y _ _ _ h|exact c _ _ _ _ h|exact y _ _ _ h|exact k _ _ h|exact R _ _ _ h|exact C _ _ _ _ h
def lv(f:aD->aH->P):aa->P:=iE {b:=f}
theorem mc{f:aD->aH->P}{c0:aa->Prop}{S:aa}(h:(lv f S).b)(w:∀H V,(f H V).b->c0 (aY H V)):c0 S:=iU h w P.e P.e P.e P.i P.e P.i P.i P.i P.e P.i P.e P.s P.e P.i
def sv(f:Bw->Nat->aH->P):aa->P:=iE {c:=f}
theorem uE{f:Bw->Nat->aH->P}{c0:aa->Prop}{S:aa}(h:(sv f S).b)(w:∀I w V,(f I w V).b->c0 (fZ I w V)):c0 S:=iU h P.s w P.e P.e P.i P.e P.i P.i P.i P.e P.i P.e P.s P.e P.i
def yq(f:wT->aa->aH->P):aa->P:=iE {d:=f}
theorem Ek{f:wT->aa->aH->P}{c0:aa->Prop}{S:aa}(h:(yq f S).b)(w:∀o Z V,(f o Z V).b->c0 (pt o Z V)):c0 S:=iU h P.s P.e w P.e P.i P.e P.i P.i P.i P.e P.i P.e P.s P.e P.i
def sw(f:aa->aD->aH->P):aa->P:=iE {e:=f}
theorem uF{f:aa->aD->aH->P}{c0:aa->Prop}{S:aa}(h:(sw f S).b)(w:∀T H V,(f T H V).b->c0 (iu T H V)):c0 S:=iU h P.s P.e P.e w P.i P.e P.i P.i P.i P.e P.i P.e P.s P.e P.i
def El(f:aa->List aa->List Jp->aH->P):aa->P:=iE {f:=f}
theorem PT{f:aa->List aa->List Jp->aH->P}{c0:aa->Prop}{S:aa}(h:(El f S).b)(w:∀r0 s e0 V,(f r0 s e0 V).b->c0 (cQ r0 s e0 V)):c0 S:=iU h P.s P.e P.e P.e w P.e P.i P.i P.i P.e P.i P.e P.s P.e P.i
def uG(f:aa->aa->aH->P):aa->P:=iE {g:=f}
theorem yr{f:aa->aa->aH->P}{c0:aa->Prop}{S:aa}(h:(uG f S).b)(w:∀T H V,(f T H V).b->c0 (pD T H V)):c0 S:=iU h P.s P.e P.e P.e P.i w P.i P.i P.i P.e P.i P.e P.s P.e P.i
def Em(f:Option aa->Option aa->Option aa->aH->P):aa->P:=iE {h:=f}
theorem PU{f:Option aa->Option aa->Option aa->aH->P}{c0:aa->Prop}{S:aa}(h:(Em f S).b)(w:∀S p I V,(f S p I V).b->c0 (wI S p I V)):c0 S:=iU h P.s P.e P.e P.e P.i P.e w P.i P.i P.e P.i P.e P.s P.e P.i
def En(f:aa->mu->aa->aH->P):aa->P:=iE {i:=f}
theorem PV{f:aa->mu->aa->aH->P}{c0:aa->Prop}{S:aa}(h:(En f S).b)(w:∀S o p V,(f S o p V).b->c0 (Ig S o p V)):c0 S:=iU h P.s P.e P.e P.e P.i P.e P.i w P.i P.e P.i P.e P.s P.e P.i
def yt(f:aa->List pH->List aa->aH->P):aa->P:=iE {k:=f}
theorem Eo{f:aa->List pH->List aa->aH->P}{c0:aa->Prop}{S:aa}(h:(yt f S).b)(w:∀S b a0 V,(f S b a0 V).b->c0 (lM S b a0 V)):c0 S:=iU h P.s P.e P.e P.e P.i P.e P.i P.i w P.e P.i P.e P.s P.e P.i
def Ep(f:wU->List aa->aH->P):aa->P:=iE {l:=f}
theorem PW{f:wU->List aa->aH->P}{c0:aa->Prop}{S:aa}(h:(Ep f S).b)(w:∀o t0 V,(f o t0 V).b->c0 (gA o t0 V)):c0 S:=iU h P.s P.e P.e P.e P.i P.e P.i P.i P.i w P.i P.e P.s P.e P.i
def Er(f:aa->aa->aa->aH->P):aa->P:=iE {m:=f}
theorem PX{f:aa->aa->aa->aH->P}{c0:aa->Prop}{S:aa}(h:(Er f S).b)(w:∀I S p V,(f I S p V).b->c0 (IP I S p V)):c0 S:=iU h P.s P.e P.e P.e P.i P.e P.i P.i P.i P.e w P.e P.s P.e P.i
def yu(f:List aa->Nat->aH->P):aa->P:=iE {n:=f}
theorem Es{f:List aa->Nat->aH->P}{c0:aa->Prop}{S:aa}(h:(yu f S).b)(w:∀t0 w V,(f t0 w V).b->c0 (gx t0 w V)):c0 S:=iU h P.s P.e P.e P.e P.i P.e P.i P.i P.i P.e P.i w P.s P.e P.i
def yv(f:List aa->aH->P):aa->P:=iE {o:=f}
theorem Et{f:List aa->aH->P}{c0:aa->Prop}{S:aa}(h:(yv f S).b)(w:∀t0 V,(f t0 V).b->c0 (AQ t0 V)):c0 S:=iU h P.s P.e P.e P.e P.i P.e P.i P.i P.i P.e P.i P.e w P.e P.i
def Eu(f:List (Option aa)->List aa->aH->P):aa->P:=iE {p:=f}
theorem PY{f:List (Option aa)->List aa->aH->P}{c0:aa->Prop}{S:aa}(h:(Eu f S).b)(w:∀e0 X V,(f e0 X V).b->c0 (rd e0 X V)):c0 S:=iU h P.s P.e P.e P.e P.i P.e P.i P.i P.i P.e P.i P.e P.s w P.i
def Ev(f:aa->List Jq->fj->aH->P):aa->P:=iE {q:=f}
theorem PZ{f:aa->List Jq->fj->aH->P}{c0:aa->Prop}{S:aa}(h:(Ev f S).b)(w:∀e t G V,(f e t G V).b->c0 (kp e t G V)):c0 S:=iU h P.s P.e P.e P.e P.i P.e P.i P.i P.i P.e P.i P.e P.s P.e w
def qw(Z:ak)(I:aD->Bool):aa->P:=lv λH _=>.q (H==an Z&&I H)
def Qa:A->Option Bw
 |.b i=>a (.int i)
 |.c l=>a (.str l.b)
 |.m=>a .none
 |.o p=>a (.bool p)
 |_=>ae
def Ew(T:A):aa->P:=sv λI _ _=>.q (ba (Qa T=a I))
def Ey(i:Int):aa->P:=yq λq Z _=>.k (.q (ba (q=.USub))) (sv (λI _ _=>.q (ba (I=.int i))) Z)
def uH(o:wT)(r:aa->P):aa->P:=yq λq Z _=>.k (.q (ba (q=o))) (r Z)
noncomputable def yw(S:ak)(r:aa->P):aa->P:=sw λT H V=>
 .k (.q (H==an S)) (.k (.t (λM=>bP (iu T H V) M) (λM=>do let o<-bP T M;jd V.atName;let r<-ir [o] (Ir o H af);VN T o r;bI r)) (r T))
def uI:List aa->P
 |[]=>.q af
 |_=>.m
def Ez(r:aa->P)(z:List aa->P):List aa->P
 |S::s=>.k (r S) (z s)
 |_=>.m
def EA(r:aa->P)(z:List aa->P):List aa->P
 |S::s=>.k (.t (λM=>dq (S::s) M) (λM=>(av,bP S M)::dq s M)) (.k (r S) (z s))
 |_=>.m
def EB(p:Bool)(r:aa->P):List aa->P
 |[S]=>.k (.q p) (r S)
 |_=>.m
def EC(p:Bool)(r:aa->P)(z:List aa->P):List aa->P
 |[S]=>.k (.q p) (r S)
 |S::a2::s=>.k (.q (!p)) (.k (r S) (z (a2::s)))
 |_=>.m
noncomputable abbrev yx(s0:List aa):P:=.t (λ(M:aN)(u0:aH)=>(hO u0 (dq s0 M)).any (·.1)) (λ_ _=>av)
noncomputable abbrev sx(l:aa)(s0:List aa)(u0:aH):P:=.t (λM=>bP (cQ l s0 [] u0) M) (λM=>do nX u0 (<-bP l M) [] (hO u0 (dq s0 M)) (Ba u0 (Bb [] M)))
def oJ(f:aa->List aa->aH->P):aa->P:=El λr0 s e0 V=>.k (.q e0.isEmpty) (f r0 s V)
theorem qx{f:aa->List aa->aH->P}{c0:aa->Prop}{S:aa}(h:(oJ f S).b)(w:∀r0 s V,(f r0 s V).b->c0 (cQ r0 s [] V)):c0 S:=PT h λr0 s e0 V h=>by
 obtain rfl:=Jr.mp h.1
 exact w _ _ _ h.2
def uJ(G:aa->P)(u:List aa->P):aa->P:=oJ λf s V=>.k (G f) (.k (u s) (.k (yx s) (sx f s V)))
def yy(I:aD->Bool)(r:aa->P)(u:List aa->P):aa->P:=oJ λf s V=>sw (λo H q=>.k (.q (I H)) (.k (r o) (.k (u s) (.k (yx s) (.t (λM=>bP (cQ (iu o H q) s [] V) M) (λM=>(do
 let g<-bP o M
 jd q.atName
 let(f,G)<-ir [g] (wC g H (do return (<-importBound o M).getD af))
 nX V f G (hO V (dq s M)) []))))))) f
noncomputable def oK(t:aD)(G:aV)(r:aa->P):aa->P:=oJ λf s V=>lv (λZ o0=>match s with
 |[S]=>.k (.q (Z==t&&eU G Z dI)) (.k (r S) (.k (.t (λM=>dq [S] M) (λM=>[(av,bP S M)])) (sx (aY Z o0) [S] V)))
 |_=>.m) f
noncomputable def yz(t:aD)(G:aV)(r:aa->P):aa->P:=oJ λf s V=>lv (λZ o0=>match s with
 |[S,p]=>lv (λy H=>.k (.q (Z==("isinstance":aD)&&y==t&&eU G Z dI&&eU G y dI)) (.k (r S) (.k (.t (λM=>dq [S,aY y H] M) (λM=>[(av,bP S M),(av,bP (aY y H) M)])) (sx (aY Z o0) [S,aY y H] V)))) p
 |_=>.m) f
def yA(L:Bool)(G:aV)(f:jW)(r:aa->P)(S:aa):P:=match f with
 |.b=>oK "len" G r S
 |.g=>oK "abs" G r S
 |.h=>oK "list" G r S
 |.e=>oK "tuple" G r S
 |.d=>.k (.q L) (oK "dict" G r S)
 |.c=>yz "tuple" G r S
 |.f=>yz "str" G r S
def ED(W0 p:aa->P):aa->P:=uG λT H _=>.k (W0 T) (p H)
def uK:Option aa->P
 |none=>.q af
 |_=>.m
def EE(W0:aa->P)(u v:Option aa->P):aa->P:=uG λT H _=>Em (λS p I _=>.k (W0 T) (.k (u S) (.k (v p) (uK I)))) H
def yB(r:aa->P):Option aa->P
 |some S=>r S
 |_=>.m
noncomputable def Qb:gh->mu
 |.b=>.Add|.d=>.Sub|.c=>.Mult|.g=>.FloorDiv|.e=>.Mod|.f=>.Pow|.h=>.LShift
def EF(o:gh)(u v:aa->P):aa->P:=En λS s p _=>.k (.q (ba (s=Qb o))) (.k (u S) (v p))
def yC(o:iz)(u v:aa->P):aa->P:=yt λS b a0 _=>match a0 with
 |[p]=>.k (.q (ba (b=[oB o])&&!AZ (oB o) p)) (.k (u S) (v p))
 |_=>.m
def sA(o:pH)(r:aa->P):aa->P:=yt λS b a0 _=>match a0 with
 |[p]=>sv (λI _ _=>.k (.q (ba (b=[o])&&ba (I=.none))) (r S)) p
 |_=>.m
def sB(o:wU)(z:List aa->P):aa->P:=Ep λs t0 _=>.k (.q (ba (s=o))) (z t0)
def EG(f u v:aa->P):aa->P:=Er λI S p _=>.k (f I) (.k (u S) (v p))
def EH(w:Nat)(z:List aa->P):aa->P:=yu λt0 _ _=>.k (.q (ba (w<=1000))) (z t0)
def EI(w:Nat)(z:List aa->P):aa->P:=yv λt0 _=>.k (.q (ba (w<=1000))) (z t0)
def EJ:aa->P:=yv λt0 _=>.q t0.isEmpty
noncomputable def yD(e0:List (aa->Bool))(x:List (Option aa))(X:List aa):P:=.q (e0.isEmpty&&x.isEmpty&&X.isEmpty)
def EK(r:aa->P)(z:List (aa->Bool)->List (Option aa)->List aa->P):List (aa->Bool)->List (Option aa)->List aa->P
 |I::e0,a w::x,T::X=>.k (.q (I w)) (.k (r T) (z e0 x X))
 |_,_,_=>.m
def uL(l:am):aa->Bool
 |.Constant I _ _=>ba (I=.str l.b)
 |_=>av
def yE(G:aV)(V:ak×Int):aa->Bool
 |.Name H _=>H==an V.1&&eU G H dI&&sr.contains V
 |_=>av
def yF(I:Bool)(r:List (Option aa)->List aa->P):aa->P:=Eu λx X _=>.k (.q I) (r x X)
noncomputable def EL(G:aV)(f:fj)(D0:List ak)(Z:ak):Bool:=
 ba (f.kind=hH)&&f.names.all (λy=>!ba (y.2=dh))&&f.names.all (λy=>!ba (y.2=.local)||eU f.names y.1 .local)&&eU f.names (an Z) .local&&
 ba ((f.names.map (·.1)).Nodup)&&f.names.all (λy=>!ba (y.2=dN)||(eU G y.1 dh&&D0.any λz=>y.1==an z))&&D0.all (λy=>f.names.contains (an y,dN))&&!D0.contains Z
noncomputable abbrev EM(b1:aa):P:=.t (λM Z=>pK b1 M Z) (λ_ Z=>bI Z)
def uM(L:Bool)(G:aV)(D0:List ak)(Z:ak)(o:aV->aa->P)(p:aa->P)(z:aV->List aa->P):aa->P:=Ev λK0 t f _=>match t with
 |[⟨d,b1,k0,s⟩]=>lv (λH _=>.k (.q (L&&H==an Z&&ba (s=0)&&EL G f D0 Z)) (.k (p b1) (.k (o (gE G f.names) K0) (.k (z (gE G f.names) k0) (EM b1))))) d
 |_=>.m
noncomputable def uN(r:aa->P)(S:aa):P:=.k (r S) (.t (λM t=>lJ S M t) (λ_ t=>do let T<-t;jd S.pos;ir [T] (pG T)))
def EN(G:aV)(f:ak)(H:aD):Bool:=eU G H dI&&su.contains f
mutual
noncomputable def ci(L:Bool):ar->aV->aa->P
 |.c T,_,S=>Ew T S
 |.Q i,_,S=>Ey i S
 |.R e,G,S=>uH .USub (ci L e G) S
 |.b Z,_,S=>qw Z (λ_=>af) S
 |.h f,G,S=>qw f (EN G f) S
 |.C f i,G,S=>qw f (λH=>eU G H dI&&sr.contains (f,i)) S
 |.n e Z,G,S=>yw Z (ci L e G) S
 |.m f s,G,S=>uJ (ci L f G) (md L s G) S
 |.O I s,G,S=>.k (.q (yp.contains I)) (uJ (qw I (EN G I)) (md L s G) S)
 |.q f e,G,S=>yA L G f (ci L e G) S
 |.y e a0 s,G,S=>yy (λH=>H==xG a0) (ci L e G) (md L s G) S
 |.N e Z s,G,S=>yy (λH=>H==an Z) (ci L e G) (md L s G) S
 |.d e i,G,S=>ED (ci L e G) (ci L i G) S
 |.G e t0 f0,G,S=>EE (ci L e G) (yG L t0 G) (yG L f0 G) S
 |.r o Z y,G,S=>EF o (ci L Z G) (ci L y G) S
 |.g o Z y,G,S=>yC o (ci L Z G) (ci L y G) S
 |.E e,G,S=>sA .Is (ci L e G) S
 |.L e,G,S=>sA .IsNot (ci L e G) S
 |.w l,G,S=>sB .And (uO L l G) S
 |.F l,G,S=>sB .Or (uO L l G) S
 |.H e,G,S=>uH .Not (ci L e G) S
 |.u I Z y,G,S=>EG (oM L I G) (ci L Z G) (ci L y G) S
 |.k l,G,S=>EH l.length (md L l G) S
 |.M l,G,S=>EI l.length (md L l G) S
 |.z,_,S=>EJ S
 |.s e0 X,G,S=>yF (ba (e0.length<=15)&&ba (e0.Nodup)&&(!e0.isEmpty||X.isEmpty)) (uP L X G (e0.map uL)) S
 |.U e0 X,G,S=>yF (ba (e0.length<=15)&&ba ((e0.map (·.2)).Nodup)&&!e0.isEmpty) (uP L X G (e0.map (yE G))) S
 |.t K0 Z D0 m0 I,G,S=>uM L G D0 Z (ci L K0) (ci L m0 G) (uQ L I) S
noncomputable def oM(L:Bool):ar->aV->aa->P
 |.H e,G,S=>uH .Not (oM L e G) S
 |.w l,G,S=>sB .And (uR L l G) S
 |.F l,G,S=>sB .Or (uR L l G) S
 |.g o Z y,G,S=>yC o (ci L Z G) (ci L y G) S
 |.E e,G,S=>sA .Is (ci L e G) S
 |.L e,G,S=>sA .IsNot (ci L e G) S
 |.b Z,_,S=>qw Z (λ_=>af) S
 |.m f s,G,S=>uN (uJ (ci L f G) (md L s G)) S
 |.q f e,G,S=>uN (yA L G f (ci L e G)) S
 |.n e Z,G,S=>uN (yw Z (ci L e G)) S
 |_,_,_=>.m
noncomputable def uR(L:Bool):List ar->aV->List aa->P
 |[],_,s=>uI s
 |e::r,G,s=>Ez (oM L e G) (uR L r G) s
noncomputable def uQ(L:Bool):List ar->aV->List aa->P
 |[],_,s=>uI s
 |e::r,G,s=>EB r.isEmpty (oM L e G) s
noncomputable def uO(L:Bool):List ar->aV->List aa->P
 |[],_,_=>.m
 |e::r,G,s=>EC r.isEmpty (ci L e G) (uO L r G) s
noncomputable def yG(L:Bool):Option ar->aV->Option aa->P
 |none,_,S=>uK S
 |some e,G,S=>yB (ci L e G) S
noncomputable def md(L:Bool):List ar->aV->List aa->P
 |[],_,s=>uI s
 |e::r,G,s=>EA (ci L e G) (md L r G) s
noncomputable def uP(L:Bool):List ar->aV->List (aa->Bool)->List (Option aa)->List aa->P
 |[],_,e0,x,X=>yD e0 x X
 |e::r,G,e0,x,X=>EK (ci L e G) (uP L r G) e0 x X
end
end Mine.Internal
set_option tactic.hygienic false
namespace Mine.Internal
open PySem PySem.W PySem.Calls PyProof.Rows
theorem sC{c:Type}{V:Prop}{S:c}(h:ae=a S):V:=nomatch h
theorem me{V:Prop}(h:av=af):V:=nomatch h
theorem bp{S p:Bool}(h:(S&&p)=af):S=af/\p=af:=by simpa using h
section
variable{k:aU}{L:Bool}{n:Nat}{c:v}{G:aV}
theorem sD{Z:ak}{I:aD->Bool}{S:aa}{c0:aa->Prop}(h:(qw Z I S).b)(w:∀V,I (an Z)=af->c0 (aY (an Z) V)):c0 S:=mc h λH V h=>by
 obtain⟨E,N⟩:=bp h
 have e:=dr E;subst e
 exact w _ N
theorem Qc{T:A}{S:aa}(h:(Ew T S).b):aE k L n G S (ag c (.c T)):=uE (c0:=λS=>aE k L n G S (ag c (.c T))) h λI _ _ h=>by
 have h:=of_decide_eq_true h
 induction T using A.casesOn<;>cases h
 ·exact LU
 ·exact LV
 ·exact Lp
 ·exact LW rfl
theorem yH{o:wT}{r:aa->P}{S:aa}{c0:aa->Prop}(h:(uH o r S).b)(w:∀Z V,(r Z).b->c0 (pt o Z V)):c0 S:=Ek h λq Z V h=>by
 obtain rfl:=of_decide_eq_true h.1;exact w _ _ h.2
theorem Qd{i:Int}{S:aa}(h:(Ey i S).b):aE k L n G S (ag c (.Q i)):=Ek (c0:=λS=>aE k L n G S (ag c (.Q i))) h λq Z V h=>by
 obtain rfl:=of_decide_eq_true h.1
 exact uE (c0:=λS=>aE k L n G (pt .USub S V) (ag c (.Q i))) h.2 λI _ _ h=>by
  obtain rfl:=of_decide_eq_true h;exact LX
theorem EO(L0:cn k){Z:ak}{e:ar}{r:aa->P}{S:aa}(h:(yw Z r S).b)(w:∀T,(r T).b->aE k L n G T (ag c e)):aE k L n G S (ag c (.n e Z)):=uF (c0:=λS=>aE k L n G S (ag c (.n e Z))) h λT H V h=>by
 obtain⟨E,N,h3⟩:=h
 have e:=dr E;subst e
 exact Ma L0 (w _ h3) λM=>congrFun N M
theorem EP{s0:List aa}(h:(yx s0).b)(M:aN)(u0:aH):(hO u0 (dq s0 M)).any (·.1)=av:=congrFun (congrFun h M) u0
theorem uS{f:aa}{s0:List aa}{V:aH}(h:(sx f s0 V).b):iC f s0 V:=λM=>congrFun h M
theorem yI{G:aa->P}{u:List aa->P}{S:aa}{c0:aa->Prop}(h:(uJ G u S).b)(w:∀f s V,(G f).b->(u s).b->(∀M u0,(hO u0 (dq s M)).any (·.1)=av)->iC f s V->c0 (cQ f s [] V)):c0 S:=qx h λf s V h=>w _ _ _ h.1 h.2.1 (EP h.2.2.1) (uS h.2.2.2)
theorem EQ{I:aD->Bool}{r:aa->P}{u:List aa->P}{S:aa}{c0:aa->Prop}(h:(yy I r u S).b)(w:∀o H q s V,I H=af->(r o).b->(u s).b->(∀M u0,(hO u0 (dq s M)).any (·.1)=av)->ue o H q V s->c0 (cQ (iu o H q) s [] V)):c0 S:=qx h λf s V h=>
 uF (c0:=λf=>c0 (cQ f s [] V)) h λo H q h=>w _ _ _ _ _ h.1 h.2.1 h.2.2.1 (EP h.2.2.2.1) λM=>⟨_,congrFun h.2.2.2.2 M⟩
theorem qy{t:aD}{r:aa->P}{S:aa}{c0:aa->Prop}(h:(oK t G r S).b)(w:∀(Z:aD)o0 p V,Z=t->G.lookup Z=a dI->(r p).b->(∀M,dq [p] M=[(av,bP p M)])->iC (aY Z o0) [p] V->c0 (cQ (aY Z o0) [p] [] V)):c0 S:=qx h λf s V h=>
 mc (c0:=λf=>c0 (cQ f s [] V)) h λZ o0 h=>by
  rcases s with _|⟨p,_|⟨_,_⟩⟩<;>try exact P.n h
  obtain⟨E,N,h3,h4⟩:=h
  obtain⟨E,h5⟩:=bp E
  exact w _ _ _ _ (dr E) (fn h5) N (congrFun h3) (uS h4)
theorem ER{t:aD}{r:aa->P}{S:aa}{c0:aa->Prop}(h:(yz t G r S).b)(w:∀(Z:aD)o0 p(y:aD)H V,Z=("isinstance":aD)->y=t->G.lookup Z=a dI->G.lookup y=a dI->(r p).b->(∀M,dq [p,aY y H] M=[(av,bP p M),(av,bP (aY y H) M)])->iC (aY Z o0) [p,aY y H] V->c0 (cQ (aY Z o0) [p,aY y H] [] V)):c0 S:=qx h λf s V h=>
 mc (c0:=λf=>c0 (cQ f s [] V)) h λZ o0 h=>by
  rcases s with _|⟨p,_|⟨I,_|⟨_,_⟩⟩⟩<;>try exact P.n h
  refine mc (c0:=λI=>c0 (cQ (aY Z o0) [p,I] [] V)) h λy H h=>?_
  obtain⟨E,N,h3,h4⟩:=h
  obtain⟨E,h8⟩:=bp E
  obtain⟨E,U⟩:=bp E
  obtain⟨E,h6⟩:=bp E
  exact w _ _ _ _ _ _ (dr E) (dr h6) (fn U) (fn h8) N (congrFun h3) (uS h4)
theorem ES(g:fA k L n c){f:jW}{e:ar}{r:aa->P}{S:aa}(h:(yA L G f r S).b)(w:∀T,(r T).b->aE k L n G T (ag c e)):aE k L n G S (ag c (.q f e)):=by
 induction f
 ·exact qy (c0:=λS=>aE k L n G S (ag c (.q .b e))) h λZ o0 p V y0 b0 W l0 e0=>No g.b g.d y0 b0 (w _ W) l0 e0
 ·exact qy (c0:=λS=>aE k L n G S (ag c (.q .g e))) h λZ o0 p V y0 b0 W l0 e0=>Np g.b g.d y0 b0 (w _ W) l0 e0
 ·exact qy (c0:=λS=>aE k L n G S (ag c (.q .h e))) h λZ o0 p V y0 b0 W l0 e0=>Nq g.b g.d y0 b0 (w _ W) l0 e0
 ·exact qy (c0:=λS=>aE k L n G S (ag c (.q .e e))) h λZ o0 p V y0 b0 W l0 e0=>Nr g.b g.d y0 b0 (w _ W) l0 e0
 ·exact qy (c0:=λS=>aE k L n G S (ag c (.q .d e))) h.2 λZ o0 p V y0 b0 W l0 e0=>PD g.b g.d h.1 y0 b0 (w _ W) l0 e0
 ·exact ER (c0:=λS=>aE k L n G S (ag c (.q .c e))) h λZ o0 p y H V y0 E0 b0 p0 W l0 e0=>Ns g.b g.d y0 E0 b0 p0 (w _ W) l0 e0
 ·exact ER (c0:=λS=>aE k L n G S (ag c (.q .f e))) h λZ o0 p y H V y0 E0 b0 p0 W l0 e0=>Nt g.b g.d y0 E0 b0 p0 (w _ W) l0 e0
theorem Qe(v:aa)(o i:aj):∃W,IE v av o i=IF W (AT o i):=by
 induction v using pN with
 |Slice S p I V=>induction I<;>exact⟨_,rfl⟩
 |_=>exact⟨_,rfl⟩
theorem Qf{e i:ar}{W0 p:aa->P}{S:aa}(h:(ED W0 p S).b)(k1:∀T,(W0 T).b->aE k L n G T (ag c e))(l:∀T,(p T).b->aE k L n G T (ag c i)):aE k L n G S (ag c (.d e i)):=
 yr (c0:=λS=>aE k L n G S (ag c (.d e i))) h λT H V h=>MC (k1 _ h.1) (l _ h.2) (Qe _)
theorem yJ{S:Option aa}(h:(uK S).b):S=ae:=by induction S<;>first|rfl|exact P.n h
theorem Qg{e:ar}{r:aa->P}{S:Option aa}(h:(yB r S).b)(w:∀T,(r T).b->aE k L n G T (ag c e)):mL k L n G S (gj c (a e)):=by
 induction S
 ·exact P.n h
 ·exact ME (w _ h)
theorem Qh{e:ar}{t0 f0:Option ar}{W0:aa->P}{u v:Option aa->P}{S:aa}(h:(EE W0 u v S).b)(k1:∀T,(W0 T).b->aE k L n G T (ag c e))(l:∀T,(u T).b->mL k L n G T (gj c t0))(B:∀T,(v T).b->mL k L n G T (gj c f0)):aE k L n G S (ag c (.G e t0 f0)):=
 yr (c0:=λS=>aE k L n G S (ag c (.G e t0 f0))) h λT H V h=>PU (c0:=λH=>aE k L n G (pD T H V) (ag c (.G e t0 f0))) h λZ y z q h=>by
  obtain rfl:=yJ h.2.2.2
  exact MK (k1 _ h.1) (l _ h.2.1) (B _ h.2.2.1)
theorem Qi{o:gh}{Z y:ar}{u v:aa->P}{S:aa}(h:(EF o u v S).b)(k1:∀T,(u T).b->aE k L n G T (ag c Z))(l:∀T,(v T).b->aE k L n G T (ag c y)):aE k L n G S (ag c (.r o Z y)):=
 PV (c0:=λS=>aE k L n G S (ag c (.r o Z y))) h λS s p V h=>by
 obtain⟨E,N,h3⟩:=h
 obtain rfl:=of_decide_eq_true E
 refine Lq (k1 _ N) (l _ h3) λU Q F C D H m0 T V q Y g0 J D0 h0 m=>?_
 induction o
 ·exact Lu J D0 h0 m
 ·exact Lv J D0 h0 m
 ·exact LA J D0 h0 m
 ·exact Lw J D0 h0 m
 ·exact Ly J D0 h0 m
 ·exact Lz J D0 h0 m
 ·exact PQ J D0 h0 m
theorem ET{o:iz}{u v:aa->P}{S:aa}{c0:aa->Prop}(h:(yC o u v S).b)(w:∀Z y V,AZ (oB o) y=av->(u Z).b->(v y).b->c0 (lM Z [oB o] [y] V)):c0 S:=Eo h λZ b I0 V h=>by
 rcases I0 with _|⟨y,_|⟨_,_⟩⟩<;>try exact P.n h
 obtain⟨E,N,h3⟩:=h
 obtain⟨E,h4⟩:=bp E
 obtain rfl:=of_decide_eq_true E
 exact w _ _ _ (by simpa using h4) N h3
theorem uT{o:pH}{r:aa->P}{S:aa}{c0:aa->Prop}(h:(sA o r S).b)(w:∀Z q g V,(r Z).b->c0 (lM Z [o] [fZ .none q g] V)):c0 S:=Eo h λZ b I0 V h=>by
 rcases I0 with _|⟨y,_|⟨_,_⟩⟩<;>try exact P.n h
 refine uE (c0:=λy=>c0 (lM Z b [y] V)) h λI q g h=>?_
 obtain⟨E,h4⟩:=bp h.1
 obtain rfl:=of_decide_eq_true E
 obtain rfl:=of_decide_eq_true h4
 exact w _ _ _ _ h.2
theorem uU{o:wU}{z:List aa->P}{S:aa}{c0:aa->Prop}(h:(sB o z S).b)(w:∀t0 V,(z t0).b->c0 (gA o t0 V)):c0 S:=PW h λq t0 V h=>by
 obtain rfl:=of_decide_eq_true h.1
 exact w _ _ h.2
theorem Qj{Z y z:ar}{f u v:aa->P}{S:aa}(h:(EG f u v S).b)(m0:∀T,(f T).b->eb k L n G T (bJ c Z))(k1:∀T,(u T).b->aE k L n G T (ag c y))(l:∀T,(v T).b->aE k L n G T (ag c z)):aE k L n G S (ag c (.u Z y z)):=
 PX (c0:=λS=>aE k L n G S (ag c (.u Z y z))) h λI S p V h=>Ng (m0 _ h.1) (k1 _ h.2.1) (l _ h.2.2)
theorem Qk{l:List ar}{z:List aa->P}{S:aa}(h:(EH l.length z S).b)(w:∀s,(z s).b->jm k L n G s (bH c l)):aE k L n G S (ag c (.k l)):=
 Es (c0:=λS=>aE k L n G S (ag c (.k l))) h λt0 q V h=>Md (w _ h.2) (CG (of_decide_eq_true h.1))
theorem Ql{l:List ar}{z:List aa->P}{S:aa}(h:(EI l.length z S).b)(w:∀s,(z s).b->jm k L n G s (bH c l)):aE k L n G S (ag c (.M l)):=
 Et (c0:=λS=>aE k L n G S (ag c (.M l))) h λt0 V h=>Me (w _ h.2) (CG (of_decide_eq_true h.1))
theorem Qm{S:aa}(h:(EJ S).b):aE k L n G S (ag c .z):=Et (c0:=λS=>aE k L n G S (ag c .z)) h λt0 V h=>by
 obtain rfl:=Jr.mp h
 exact Mf
theorem uV{s:List aa}(h:(uI s).b):s=[]:=by
 induction s using bL<;>first|rfl|exact P.n h
theorem Qn{r:aa->P}{z:List aa->P}{s:List aa}{c0:List aa->Prop}(h:(Ez r z s).b)(w:∀S s,(r S).b->(z s).b->c0 (S::s)):c0 s:=by
 induction s using bL with
 |nil=>exact P.n h
 |cons S s=>exact w _ _ h.1 h.2
theorem Qo{e:ar}{t0:List ar}{r:aa->P}{z:List aa->P}{s:List aa}(h:(EA r z s).b)(k1:∀T,(r T).b->aE k L n G T (ag c e))(l:∀T,(z T).b->jm k L n G T (bH c t0)):jm k L n G s (bH c (e::t0)):=by
 induction s using bL with
 |nil=>exact P.n h
 |cons S s=>exact Mc (k1 _ h.2.1) (l _ h.2.2) (congrFun h.1)
theorem Qp{p:Bool}{r:aa->P}{s:List aa}{c0:List aa->Prop}(h:(EB p r s).b)(w:∀S,p=af->(r S).b->c0 [S]):c0 s:=by
 rcases s with _|⟨S,_|⟨_,_⟩⟩<;>try exact P.n h
 exact w _ h.1 h.2
theorem Qq{p:Bool}{r:aa->P}{z:List aa->P}{s:List aa}{c0:List aa->Prop}(h:(EC p r z s).b)(k1:∀S,p=af->(r S).b->c0 [S])(l:∀S a2 s,p=av->(r S).b->(z (a2::s)).b->c0 (S::a2::s)):c0 s:=by
 rcases s with _|⟨S,_|⟨a2,s⟩⟩
 ·exact P.n h
 ·exact k1 _ h.1 h.2
 ·exact l _ _ _ (by have:=h.1;change (!p)=af at this;simpa using this) h.2.1 h.2.2
theorem sE{r:aa->P}{S:aa}(h:(uN r S).b):(r S).b/\∀M t,lJ S M t=(do let T<-t;jd S.pos;ir [T] (pG T)):=⟨h.1,λM t=>congrFun (congrFun h.2 M) t⟩
theorem Qr{f:fj}{D0:List ak}{Z:ak}(h:EL G f D0 Z=af):mS G f D0 Z:=by
 obtain⟨h,h8⟩:=bp h
 obtain⟨h,U⟩:=bp h
 obtain⟨h,h6⟩:=bp h
 obtain⟨h,h5⟩:=bp h
 obtain⟨h,h4⟩:=bp h
 obtain⟨h,h3⟩:=bp h
 obtain⟨E,N⟩:=bp h
 refine⟨of_decide_eq_true E,λy E0=>?_,λy E0 k0=>?_,fn h4,of_decide_eq_true h5,λy E0 k0=>?_,λy E0=>?_,λE0=>?_⟩
 ·have:=gY.mp N y E0;simpa using this
 ·have:=gY.mp h3 y E0;rw[k0]at this;exact fn (by simpa using this)
 ·have:=gY.mp h6 y E0;rw[k0]at this
  obtain⟨S,p⟩:=bp (by simpa using this:(eU G y.1 .cell&&D0.any λz=>y.1==an z)=true)
  obtain⟨z,s,e⟩:=mv.mp p
  exact⟨fn S,z,s,dr e⟩
 ·have:=gY.mp U y E0
  exact rr.mp this
 ·rw[rr.mpr E0]at h8;cases h8
theorem yK{D0:List ak}{Z:ak}{o:aV->aa->P}{p:aa->P}{z:aV->List aa->P}{S:aa}{c0:aa->Prop}(h:(uM L G D0 Z o p z S).b)(w:∀K0 j1 b1 k0 f u0,L=af->mS G f D0 Z->(p b1).b->(o (gE G f.names) K0).b->(z (gE G f.names) k0).b->(∀M Z,pK b1 M Z=bI Z)->c0 (kp K0 [⟨aY (an Z) j1,b1,k0,0⟩] f u0)):c0 S:=PZ h λK0 t f u0 h=>by
 rcases t with _|⟨⟨d,b1,k0,s⟩,_|⟨_,_⟩⟩<;>try exact P.n h
 refine mc (c0:=λd=>c0 (kp K0 [⟨d,b1,k0,s⟩] f u0)) h λH j1 h=>?_
 obtain⟨E,N,h3,h4,h5⟩:=h
 obtain⟨E,B⟩:=bp E
 obtain⟨E,h8⟩:=bp E
 obtain⟨g1,U⟩:=bp E
 obtain rfl:=of_decide_eq_true h8
 have e:=dr U;subst e
 exact w _ _ _ _ _ _ g1 (Qr B) N h3 h4 λM Z=>congrFun (congrFun h5 M) Z
theorem Qs{b0 U:Type}[DecidableEq U]{d0:pL k.b k.c U}{f:b0->U}{F:b0->aa->Bool}(p:∀B w,F B w=af->oH k L n G d0 w (f B)){e:ar}{t0:List ar}{r:aa->P}{z:List (aa->Bool)->List (Option aa)->List aa->P}{e0:List b0}{x:List (Option aa)}{X:List aa}(h:(EK r z (e0.map F) x X).b)(k1:∀T,(r T).b->aE k L n G T (ag c e))(l:∀e0 x X,(z (e0.map F) x X).b->jG k L n G d0 f e0 x X (bH c t0)):jG k L n G d0 f e0 x X (bH c (e::t0)):=by
 rcases e0 with _|⟨B,e0⟩
 ·exact P.n h
 ·rcases x with _|⟨_|w,x⟩<;>try exact P.n h
  rcases X with _|⟨T,X⟩<;>try exact P.n h
  exact NS (p _ _ h.1) (k1 _ h.2.1) (l _ _ _ h.2.2)
theorem Qt{b0 U:Type}[DecidableEq U]{d0:pL k.b k.c U}{f:b0->U}{F:b0->aa->Bool}{e0:List b0}{x:List (Option aa)}{X:List aa}(h:(yD (e0.map F) x X).b):jG k L n G d0 f e0 x X (bH c []):=by
 rcases e0 with _|⟨B,e0⟩<;>try exact P.n h
 rcases x with _|⟨_,x⟩<;>try exact P.n h
 rcases X with _|⟨T,X⟩<;>try exact P.n h
 exact NR
theorem Qu{l:am}{w:aa}(h:uL l w=af):oH k L n G (eR k.b k.c) w l.b:=by
 induction w using pN<;>try exact me h
 obtain rfl:=of_decide_eq_true h
 exact NP rfl
theorem Qv(g:fA k L n c){V:ak×Int}{w:aa}(h:yE G V w=af):oH k L n G (tb k.b k.c) w V.2:=by
 induction w using pN<;>try exact me h
 obtain⟨E,h3⟩:=bp h
 obtain⟨E,N⟩:=bp E
 refine NQ g.b (dr E) (fn N) ?_
 rw[dr E]
 exact g.m _ _ (rr.mp h3)
theorem EU{I:Bool}{r:List (Option aa)->List aa->P}{S:aa}{c0:aa->Prop}(h:(yF I r S).b)(w:∀x X V,I=af->(r x X).b->c0 (rd x X V)):c0 S:=PY h λ_ _ _ h=>w _ _ _ h.1 h.2
end
end Mine.Internal
set_option tactic.hygienic false
namespace Mine.Internal
open PySem PySem.W PySem.Calls PyProof.Rows
theorem gU{c:Type}{l:List c}(h:l.isEmpty=af):l=[]:=Jr.mp h
section
variable{k:aU}{L:Bool}{n:Nat}{c:v}
theorem Qw{G:aV}{b0 U:Type}[DecidableEq U]{d0:pL k.b k.c U}{f:b0->U}{e0:List b0}{x:List (Option aa)}{X:List aa}{r0:ah->j->au (List A)}(h:jG k L n G d0 f e0 x X r0):jG k L n G d0 (λi=>i) (e0.map f) x X r0:=by
 intro u0
 obtain⟨a0,S,p,I⟩:=h u0
 refine(cW a0 S (by simpa using p) ?_)
 rw[show rZ k d0 (λi=>i) (e0.map f)=rZ k d0 f e0 by unfold rZ;simp only[List.map_id']]
 exact I
mutual
theorem cj(g:fA k L n c):∀(e:ar)(G:aV)(S:aa),(ci L e G S).b->aE k L n G S (ag c e)
 |.c _,_,_,h=>Qc h
 |.Q _,_,_,h=>Qd h
 |.R e,G,S,h=>yH (c0:=λS=>aE k L n G S (ag c (.R e))) h λZ _ h=>Nh (cj g e G Z h)
 |.b y,G,S,h=>sD (c0:=λS=>aE k L n G S (ag c (.b y))) h λ_ _=>Ct
 |.h f,G,S,h=>sD (c0:=λS=>aE k L n G S (ag c (.h f))) h λ_ h=>CF g.b (fn (bp h).1) (g.o _ (rr.mp (bp h).2))
 |.C f i,G,S,h=>sD (c0:=λS=>aE k L n G S (ag c (.C f i))) h λ_ h=>LZ g.b (fn (bp h).1) (g.m _ _ (rr.mp (bp h).2))
 |.n e _,G,_,h=>EO g.b h λT h=>cj g e G T h
 |.m f s,G,S,h=>yI (c0:=λS=>aE k L n G S (ag c (.m f s))) h λ_ _ _ E N h3 h4=>CT g.e (cj g f G _ E) (nf g s G _ N) h3 h4
 |.O I s,G,S,h=>yI (c0:=λS=>aE k L n G S (ag c (.O I s))) h.2 λ_ _ _ E N h3 h4=>
    Nl g.b g.e (sD (c0:=λS=>aE k L n G S (ag c (.h I))) E λ_ h=>CF g.b (fn (bp h).1) (g.o _ (rr.mp (bp h).2))) (nf g s G _ N) (g.p _ (rr.mp h.1)) h3 h4
 |.q _ e,G,_,h=>ES g h λT h=>cj g e G T h
 |.y e a0 s,G,S,h=>EQ (c0:=λS=>aE k L n G S (ag c (.y e a0 s))) h λ_ _ _ _ _ n0 E N h3 h4=>Nn g.b (dr n0) (cj g e G _ E) (nf g s G _ N) h3 h4
 |.N e Z s,G,S,h=>EQ (c0:=λS=>aE k L n G S (ag c (.N e Z s))) h λo H q _ _ n0 E N h3 h4=>by
    have j:=dr n0;subst j
    exact Nk g.b g.e (cj g e G _ E) (nf g s G _ N) h3 h4
 |.d e i,G,_,h=>Qf h (λT h=>cj g e G T h) (λT h=>cj g i G T h)
 |.G e t0 f0,G,_,h=>Qh h (λT h=>cj g e G T h) (λT h=>EV g t0 G T h) (λT h=>EV g f0 G T h)
 |.r _ Z y,G,_,h=>Qi h (λT h=>cj g Z G T h) (λT h=>cj g y G T h)
 |.g o Z y,G,S,h=>ET (c0:=λS=>aE k L n G S (ag c (.g o Z y))) h λ_ _ _ n0 E N=>ML g.b rfl (cj g Z G _ E) (cj g y G _ N) n0
 |.E e,G,S,h=>uT (c0:=λS=>aE k L n G S (ag c (.E e))) h λ_ _ _ _ h=>MN (cj g e G _ h)
 |.L e,G,S,h=>uT (c0:=λS=>aE k L n G S (ag c (.L e))) h λ_ _ _ _ h=>MO (cj g e G _ h)
 |.w l,G,S,h=>uU (c0:=λS=>aE k L n G S (ag c (.w l))) h λ_ V h=>Nd ((yL g l G _ h).1 V)
 |.F l,G,S,h=>uU (c0:=λS=>aE k L n G S (ag c (.F l))) h λ_ V h=>Nf ((yL g l G _ h).2 V)
 |.H e,G,S,h=>yH (c0:=λS=>aE k L n G S (ag c (.H e))) h λZ _ h=>Nu (cj g e G Z h)
 |.u I Z y,G,_,h=>Qj h (λT h=>oN g I G T h) (λT h=>cj g Z G T h) (λT h=>cj g y G T h)
 |.k l,G,_,h=>Qk h λT h=>nf g l G T h
 |.M l,G,_,h=>Ql h λT h=>nf g l G T h
 |.z,_,_,h=>Qm h
 |.s e0 X,G,S,h=>EU (c0:=λS=>aE k L n G S (ag c (.s e0 X))) h λx C V n0 E=>by
    obtain⟨n0,h3⟩:=bp n0
    obtain⟨n0,N⟩:=bp n0
    have p0:=yM g X G (d0:=eR k.b k.c) am.b uL (λ_ _ h=>Qu h) e0 x C E
    induction e0 using bL with
    |nil=>
     obtain rfl:X=[]:=gU h3
     have E:(yD ([].map uL) x C).b:=E
     obtain⟨E,h4⟩:=bp E
     obtain⟨_,E⟩:=bp E
     obtain rfl:=gU E;obtain rfl:=gU h4
     exact NW
    |cons w e0=>exact NU p0 (List.cons_ne_nil _ _) (of_decide_eq_true n0) (of_decide_eq_true N)
 |.U e0 X,G,S,h=>EU (c0:=λS=>aE k L n G S (ag c (.U e0 X))) h λx C V n0 E=>by
    obtain⟨n0,h3⟩:=bp n0
    obtain⟨n0,N⟩:=bp n0
    have p0:jG k L n G (tb k.b k.c) (·.2) e0 x C (bH c X):=yM g X G (d0:=tb k.b k.c) (·.2) (yE G) (λ_ _ h=>Qv g h) e0 x C E
    refine NV ?_ (λe=>by rw[e]at h3;cases h3) (of_decide_eq_true n0) (of_decide_eq_true N)
    exact Qw p0
 |.t K0 Z D0 m0 I,G,S,h=>yK (c0:=λS=>aE k L n G S (ag c (.t K0 Z D0 m0 I))) h λ_ _ _ _ _ _ n0 u E N h3 h4=>NO g.b n0 u (cj g m0 G _ E) (cj g K0 _ _ N) (EW g I _ _ h3) h4
theorem oN(g:fA k L n c):∀(e:ar)(G:aV)(S:aa),(oM L e G S).b->eb k L n G S (bJ c e)
 |.H e,G,S,h=>yH (c0:=λS=>eb k L n G S (bJ c (.H e))) h λZ _ h=>MS (oN g e G Z h)
 |.w l,G,S,h=>uU (c0:=λS=>eb k L n G S (bJ c (.w l))) h λ_ _ h=>MX (uW g l G _ h).1
 |.F l,G,S,h=>uU (c0:=λS=>eb k L n G S (bJ c (.F l))) h λ_ _ h=>MY (uW g l G _ h).2
 |.g o Z y,G,S,h=>ET (c0:=λS=>eb k L n G S (bJ c (.g o Z y))) h λ_ _ _ n0 E N=>MM g.b rfl (cj g Z G _ E) (cj g y G _ N) n0
 |.E e,G,S,h=>uT (c0:=λS=>eb k L n G S (bJ c (.E e))) h λ_ _ _ _ h=>MP (cj g e G _ h)
 |.L e,G,S,h=>uT (c0:=λS=>eb k L n G S (bJ c (.L e))) h λ_ _ _ _ h=>MQ (cj g e G _ h)
 |.b y,G,S,h=>sD (c0:=λS=>eb k L n G S (bJ c (.b y))) h λ_ _=>MR
 |.m f s,G,S,h=>by
    obtain⟨h,p0⟩:=sE h
    revert p0
    exact yI (c0:=λS=>(∀M t,lJ S M t=(do let T<-t;jd S.pos;ir [T] (pG T)))->eb k L n G S (bJ c (.m f s))) h λ_ _ _ E N h3 h4 p0=>Nv (CT g.e (cj g f G _ E) (nf g s G _ N) h3 h4) p0
 |.q f e,G,S,h=>Nw (ES g (sE h).1 λT h=>cj g e G T h) (sE h).2
 |.n e Z,G,S,h=>Nx (EO g.b (sE h).1 λT h=>cj g e G T h) (sE h).2
 |.c _,_,_,h=>P.n h
 |.Q _,_,_,h=>P.n h
 |.R _,_,_,h=>P.n h
 |.h _,_,_,h=>P.n h
 |.C _ _,_,_,h=>P.n h
 |.O _ _,_,_,h=>P.n h
 |.y _ _ _,_,_,h=>P.n h
 |.N _ _ _,_,_,h=>P.n h
 |.d _ _,_,_,h=>P.n h
 |.G _ _ _,_,_,h=>P.n h
 |.r _ _ _,_,_,h=>P.n h
 |.u _ _ _,_,_,h=>P.n h
 |.k _,_,_,h=>P.n h
 |.M _,_,_,h=>P.n h
 |.z,_,_,h=>P.n h
 |.s _ _,_,_,h=>P.n h
 |.U _ _,_,_,h=>P.n h
 |.t _ _ _ _ _,_,_,h=>P.n h
theorem uW(g:fA k L n c):∀(l:List ar)(G:aV)(s:List aa),(uR L l G s).b->qn k L n G s (di c l)/\qo k L n G s (ic c l)
 |[],_,s,h=>by obtain rfl:=uV h;exact⟨MT,MU⟩
 |e::r,G,s,h=>Qn (c0:=λs=>qn k L n G s (di c (e::r))/\qo k L n G s (ic c (e::r))) h λ_ _ E N=>⟨MV (oN g e G _ E) (uW g r G _ N).1,MW (oN g e G _ E) (uW g r G _ N).2⟩
theorem EW(g:fA k L n c):∀(l:List ar)(G:aV)(s:List aa),(uQ L l G s).b->lX k L n G s (di c l)
 |[],_,s,h=>by obtain rfl:=uV h;exact Dc
 |e::r,G,s,h=>Qp (c0:=λs=>lX k L n G s (di c (e::r))) h λ_ E N=>by
   have h3:=oN g e G _ N
   obtain rfl:=gU E;exact NF h3
theorem yL(g:fA k L n c):∀(l:List ar)(G:aV)(s:List aa),(uO L l G s).b->(∀V,aE k L n G (gA .And s V) (gC c l))/\∀V,aE k L n G (gA .Or s V) (gD c l)
 |[],_,_,h=>P.n h
 |e::r,G,s,h=>Qq (c0:=λs=>(∀V,aE k L n G (gA .And s V) (gC c (e::r)))/\∀V,aE k L n G (gA .Or s V) (gD c (e::r))) h
   (λ_ E N=>by
     have h3:=cj g e G _ N
     obtain rfl:=gU E;exact⟨λ_=>MZ h3,λ_=>Na h3⟩)
   (λ_ _ _ E N h3=>by
     have h4:=cj g e G _ N
     have h5:=yL g r G _ h3
     induction r using bL with
     |nil=>cases E
     |cons _ _=>exact⟨λV=>Nb h4 (h5.1 V),λV=>Nc h4 (h5.2 V)⟩)
theorem EV(g:fA k L n c):∀(e:Option ar)(G:aV)(S:Option aa),(yG L e G S).b->mL k L n G S (gj c e)
 |none,_,_,h=>by rw[yJ h];exact MD
 |some e,G,_,h=>Qg h λT h=>cj g e G T h
theorem nf(g:fA k L n c):∀(l:List ar)(G:aV)(s:List aa),(md L l G s).b->jm k L n G s (bH c l)
 |[],_,s,h=>by obtain rfl:=uV h;exact Mb
 |e::r,G,_,h=>Qo h (λT h=>cj g e G T h) (λT h=>nf g r G T h)
theorem yM(g:fA k L n c):∀(l:List ar)(G:aV){b0 U:Type}[DecidableEq U]{d0:pL k.b k.c U}(f:b0->U)(F:b0->aa->Bool)(_:∀B w,F B w=af->oH k L n G d0 w (f B))(e0:List b0)(x:List (Option aa))(X:List aa),
 (uP L l G (e0.map F) x X).b->jG k L n G d0 f e0 x X (bH c l)
 |[],_,_,_,_,_,_,_,_,_,_,_,h=>Qt h
 |e::r,G,_,_,_,_,f,F,p,_,_,_,h=>Qs p h (λT h=>cj g e G T h) λe0 x X h=>yM g r G f F p e0 x X h
end
end
end Mine.Internal
set_option tactic.hygienic false
namespace Mine.Internal
open PySem PySem.W PySem.Calls PyProof.Rows
structure EX where
 b:aa->aH->P:=λ_ _=>.m
 c:List aa->aa->aH->P:=λ_ _ _=>.m
 d:aa->mu->aa->aH->P:=λ_ _ _ _=>.m
 e:aa->aa->List x->List x->aH->P:=λ_ _ _ _ _=>.m
 f:aa->List x->List x->aH->P:=λ_ _ _ _=>.m
 g:aa->List x->List x->aH->P:=λ_ _ _ _=>.m
 h:Option aa->Option aa->aH->P:=λ_ _ _=>.m
 i:List x->List Js->List x->List x->aH->P:=λ_ _ _ _ _=>.m
 k:Option aa->aH->P:=λ_ _=>.m
 l:P:=.m
 m:P:=.m
def kc(m:EX):x->P
 |.Expr e V=>m.b e V
 |.Assign e0 S V=>m.c e0 S V
 |.AugAssign t o S V=>m.d t o S V
 |.For t i p o V=>m.e t i p o V
 |.While t p o V=>m.f t p o V
 |.If t p o V=>m.g t p o V
 |.Raise e I V=>m.h e I V
 |.Try p h o f V=>m.i p h o f V
 |.Return e V=>m.k e V
 |.Pass _=>m.l
 |.Continue _=>m.m
 |_=>.m
theorem kK{m:EX}{c0:x->Prop}{S:x}(h:(kc m S).b)(k1:∀e V,(m.b e V).b->c0 (rj e V))(l:∀e0 S V,(m.c e0 S V).b->c0 (gc e0 S V))(B:∀t o S V,(m.d t o S V).b->c0 (Bm t o S V))(k4:∀t i p o V,(m.e t i p o V).b->c0 (.For t i p o V))(k5:∀t p o V,(m.f t p o V).b->c0 (Bp t p o V))(L:∀t p o V,(m.g t p o V).b->c0 (.If t p o V))(k7:∀e I V,(m.h e I V).b->c0 (tC e I V))(k8:∀p l0 o f V,(m.i p l0 o f V).b->c0 (wQ p l0 o f V))(n:∀e V,(m.k e V).b->c0 (Bk e V))(Y:∀V,m.l.b->c0 (.Pass V))(c:∀V,m.m.b->c0 (Jb V)):c0 S:=by
 induction S using Xb<;>first|exact P.n h|exact k1 _ _ h|exact l _ _ _ h|exact B _ _ _ _ h|exact k4 _ _ _ _ _ h|exact k5 _ _ _ _ h|exact L _ _ _ _ h|exact k7 _ _ _ h|exact k8 _ _ _ _ _ h|exact n _ _ h|exact Y _ h|exact c _ h
def yN(f:aa->aH->P):x->P:=kc {b:=f}
theorem EY{f:aa->aH->P}{c0:x->Prop}{S:x}(h:(yN f S).b)(w:∀e V,(f e V).b->c0 (rj e V)):c0 S:=kK h w P.e P.i P.w P.i P.i P.e P.w P.s P.u P.u
def sF(f:List aa->aa->aH->P):x->P:=kc {c:=f}
theorem uX{f:List aa->aa->aH->P}{c0:x->Prop}{S:x}(h:(sF f S).b)(w:∀e0 S V,(f e0 S V).b->c0 (gc e0 S V)):c0 S:=kK h P.s w P.i P.w P.i P.i P.e P.w P.s P.u P.u
def EZ(f:aa->mu->aa->aH->P):x->P:=kc {d:=f}
theorem Qx{f:aa->mu->aa->aH->P}{c0:x->Prop}{S:x}(h:(EZ f S).b)(w:∀t o S V,(f t o S V).b->c0 (Bm t o S V)):c0 S:=kK h P.s P.e w P.w P.i P.i P.e P.w P.s P.u P.u
def Fa(f:aa->aa->List x->List x->aH->P):x->P:=kc {e:=f}
theorem Qy{f:aa->aa->List x->List x->aH->P}{c0:x->Prop}{S:x}(h:(Fa f S).b)(w:∀t i p o V,(f t i p o V).b->c0 (.For t i p o V)):c0 S:=kK h P.s P.e P.i w P.i P.i P.e P.w P.s P.u P.u
def Fb(f:aa->List x->List x->aH->P):x->P:=kc {f:=f}
theorem Qz{f:aa->List x->List x->aH->P}{c0:x->Prop}{S:x}(h:(Fb f S).b)(w:∀t p o V,(f t p o V).b->c0 (Bp t p o V)):c0 S:=kK h P.s P.e P.i P.w w P.i P.e P.w P.s P.u P.u
def Fc(f:aa->List x->List x->aH->P):x->P:=kc {g:=f}
theorem QA{f:aa->List x->List x->aH->P}{c0:x->Prop}{S:x}(h:(Fc f S).b)(w:∀t p o V,(f t p o V).b->c0 (.If t p o V)):c0 S:=kK h P.s P.e P.i P.w P.i w P.e P.w P.s P.u P.u
def Fd(f:Option aa->Option aa->aH->P):x->P:=kc {h:=f}
theorem QB{f:Option aa->Option aa->aH->P}{c0:x->Prop}{S:x}(h:(Fd f S).b)(w:∀e I V,(f e I V).b->c0 (tC e I V)):c0 S:=kK h P.s P.e P.i P.w P.i P.i w P.w P.s P.u P.u
def yO(f:List x->List Js->List x->List x->aH->P):x->P:=kc {i:=f}
theorem Fe{f:List x->List Js->List x->List x->aH->P}{c0:x->Prop}{S:x}(h:(yO f S).b)(w:∀p l0 o r0 V,(f p l0 o r0 V).b->c0 (wQ p l0 o r0 V)):c0 S:=kK h P.s P.e P.i P.w P.i P.i P.e w P.s P.u P.u
def yP(f:Option aa->aH->P):x->P:=kc {k:=f}
theorem Ff{f:Option aa->aH->P}{c0:x->Prop}{S:x}(h:(yP f S).b)(w:∀e V,(f e V).b->c0 (Bk e V)):c0 S:=kK h P.s P.e P.i P.w P.i P.i P.e P.w w P.u P.u
def Fg(f:P):x->P:=kc {l:=f}
theorem QC{f:P}{c0:x->Prop}{S:x}(h:(Fg f S).b)(w:∀V,(f).b->c0 (.Pass V)):c0 S:=kK h P.s P.e P.i P.w P.i P.i P.e P.w P.s w P.u
def Fh(f:P):x->P:=kc {m:=f}
theorem QD{f:P}{c0:x->Prop}{S:x}(h:(Fh f S).b)(w:∀V,(f).b->c0 (Jb V)):c0 S:=kK h P.s P.e P.i P.w P.i P.i P.e P.w P.s P.u w
noncomputable def yQ(G:aV)(M:aN):aN:={M with scope:={M.scope with kind:=hH,names:=G}}
theorem Fi{G:aV}{M:aN}(E:M.scope.kind=hH)(N:M.scope.names=G):yQ G M=M:=by
 obtain⟨⟨w,B,r0,I,a0⟩,l,H0,L,q,f,S,P,p⟩:=M
 dsimp only at E N;subst E N;rfl
noncomputable abbrev yR(S:aa)(t:Option aa)(l:Nat):P:=.t (λM=>gB S t l M) (λ_=>bI av)
noncomputable abbrev yS(S:aa):P:=.t (λl M=>gB S ae l M) (λ_ _=>bI av)
def yT(r:aa->P):x->P:=yN λe _=>.k (r e) (yS e)
def yU(w:gt)(G:aV)(Z:ak)(f:aH->aa->aH->P):x->P:=sF λe0 S V=>match e0 with
 |[t]=>lv (λH o0=>.k (.q (H==an Z&&eU G (an Z) w)) (f o0 S V)) t
 |_=>.m
def uY(w:gt)(G:aV)(Z:ak)(r:aa->P):x->P:=yU w G Z λo0 S V=>.k (r S) (yR S (a (aY (an Z) o0)) V.line)
def yV(w:gt)(p:Bool)(G:aV)(y:ak)(r:aa->P):x->P:=yU w G y λo0 S V=>.k (r S) (.t (λM=>gB S (a (aY (an y) o0)) V.line (yQ G M)) (λ_=>bI p))
noncomputable def sG:List aa->List ak->Bool
 |[],[]=>af
 |.Name H _::t0,Z::y0=>H==an Z&&sG t0 y0
 |_,_=>av
noncomputable def oO:aa->Bool
 |.Tuple _ _ _=>af
 |_=>av
def Fj(L:Bool)(G:aV)(y0:List ak)(r:aa->P):x->P:=sF λe0 S V=>match e0 with
 |[t]=>yu (λt0 w B=>.k (.q (L&&y0.all (λZ=>eU G (an Z) .local))) (.k (r S) (.k (.t (λM=>Je [gx t0 w B] S V.line M) (λ_=>bI av)) (match y0,oO S with
  |[Z,y],af=>.k (.q (!ba (Z=y))) (.t (λM=>wL [gx t0 w B] S (yQ G M)) (λ_=>bI (a [an Z,an y])))
  |_,_=>.k (.q (sG t0 y0)) (.t (λM=>wL [gx t0 w B] S M) (λ_=>bI ae)))))) t
 |_=>.m
def Fk(Z:ak)(r h0:aa->P):x->P:=sF λe0 S V=>match e0 with
 |[t]=>sw (λo H s=>.k (.q (H==an Z)) (.k (r S) (.k (h0 o) (yR S (a (iu o (an Z) s)) V.line)))) t
 |_=>.m
def Fl(r h0 p:aa->P):x->P:=sF λe0 S V=>match e0 with
 |[t]=>uG (λo i h=>.k (r S) (.k (h0 o) (.k (p i) (yR S (a (pD o i h)) V.line)))) t
 |_=>.m
noncomputable def QE(o:gh)(s:mu):Bool:=match o with
 |.b=>ba (s=.Add)
 |.c=>ba (s=.Mult)
 |_=>av
def Fm(G:aV)(Z:ak)(o:gh)(r:aa->P):x->P:=EZ λt s S _=>lv (λH _=>.k (.q (H==an Z&&eU G (an Z) .local&&QE o s)) (r S)) t
def Fo(f:aa->P)(u v:List x->P):x->P:=Fc λI S p _=>.k (f I) (.k (u S) (v p))
def Fp(G:aV):gO->aa->Bool
 |.b Z,aY H _=>H==an Z&&eU G (an Z) .local
 |.c y0,gx t0 _ _=>sG t0 y0&&y0.all λZ=>eU G (an Z) .local
 |_,_=>av
def Fq(G:aV)(d:aa)(w:ku)(r:aa->P)(m0:aa):P:=match w with
 |.b=>r m0
 |.c=>oK "range" G r m0
 |.d=>oJ (λf s V=>sw (λo H q=>.k (.q (H==("items":aD)&&s.isEmpty&&oO d&&q.endLine==V.line)) (.k (r o) (.t (λM=>WD o H M (bP o M)) (λM=>bP o M)))) f) m0
def Fs(L:Bool)(G:aV)(t:gO)(w:ku)(r:aa->P)(v:List x->P):x->P:=Fa λd m0 p o _=>.k (.q (L&&Fp G t d&&o.isEmpty)) (.k (Fq G d w r m0) (.k (v p) (EM m0)))
def Ft(w:Nat)(M r:aa->P):x->P:=Fb λt p o _=>match p with
 |[H]=>yN (λe _=>.k (.q (o.isEmpty&&ba ((w:Int)<2^60))) (.k (M t) (.k (r e) (yS e)))) H
 |_=>.m
def QF(r:aa->P):x->P:=yP λe _=>yB r e
def QG:x->P:=yP λe _=>uK e
def Fu(L:Bool)(G:aV):x->P:=Fd λe I _=>match e,I with
 |some e,ae=>oJ (λf s Z=>lv (λH o0=>match s with
  |[S]=>sv (λI w V=>match I with
   |.str t=>.k (.q (L&&H==an 11&&eU G (an 11) dI)) (.k (sx (aY (an 11) o0) [fZ (.str t) w V] Z) (.t (λM=>hO Z (dq [fZ (.str t) w V] M)) (λM=>[(av,bP (fZ (.str t) w V) M)])))
   |_=>.m) S
  |_=>.m) f) e
 |_,_=>.m
def QH(v G:List x->P):x->P:=yO λp l0 o f _=>.k (.q (l0.isEmpty&&o.isEmpty&&!f.isEmpty)) (.k (v p) (G f))
def QI(L:Bool)(G:aV)(v:x->P)(S:List x->P):x->P:=yO λp l0 o f _=>match p,l0 with
 |[H],[.ExceptHandler (a t) ae h _]=>lv (λZ _=>.k (.q (L&&o.isEmpty&&f.isEmpty&&!h.isEmpty&&Z==an 11&&eU G (an 11) dI)) (.k (v H) (S h))) t
 |_,_=>.m
def Fv:List x->P
 |[]=>.q af
 |_=>.m
def yW(r:x->P)(z:List x->P):List x->P
 |S::s=>.k (r S) (z s)
 |_=>.m
noncomputable def uZ:ar->Option (ar×ak×List ak×ar×List ar)
 |.t K0 y D0 m0 I=>a (K0,y,D0,m0,I)
 |_=>ae
noncomputable def oP:ar->Option ak
 |.b Z=>a Z
 |_=>ae
noncomputable def va:aT->Bool
 |.s=>af
 |_=>av
theorem QJ{e:ar}{q:ar×ak×List ak×ar×List ar}(h:uZ e=a q):e=.t q.1 q.2.1 q.2.2.1 q.2.2.2.1 q.2.2.2.2:=by induction e using ar.casesOn<;>first|exact sC h|(cases h;rfl)
theorem Fw{e:ar}{Z:ak}(h:oP e=a Z):e=.b Z:=by induction e using ar.casesOn<;>first|exact sC h|(cases h;rfl)
theorem QK{H:aT}(h:va H=af):H=.s:=by induction H using aT.casesOn<;>first|rfl|exact me h
noncomputable def qz{c:Type}(o:Option c)(f:c->P)(r0:P):P:=match o with
 |some S=>f S
 |none=>r0
mutual
noncomputable def yX:aT->Bool->aV->x->P
 |.H,_,_,H=>Fg (.q af) H
 |.E,_,_,H=>Fh (.q af) H
 |.s,_,_,_=>.m
 |.m e,L,G,H=>yT (ci L e G) H
 |.d Z e,L,G,H=>qz (uZ e) (λq=>yV .local af G Z (uM L G q.2.2.1 q.2.1 (ci L q.1) (ci L q.2.2.2.1 G) (uQ L q.2.2.2.2)) H) (uY .local G Z (ci L e G) H)
 |.F Z e,L,G,H=>uY dh G Z (ci L e G) H
 |.C Z K0 y D0 m0,L,G,H=>yV dh av G Z (uM L G D0 y (ci L K0) (ci L m0 G) (uQ L [])) H
 |.q y0 e,L,G,H=>Fj L G y0 (ci L e G) H
 |.g o Z e,L,G,H=>Fk Z (ci L e G) (ci L o G) H
 |.l o i e,L,G,H=>Fl (ci L e G) (ci L o G) (ci L i G) H
 |.u Z o e,L,G,H=>Fm G Z o (ci L e G) H
 |.c I S p,L,G,H=>Fo (oM L I G) (jI S L G) (jI p L G) H
 |.k t w e p,L,G,H=>Fs L G t w (ci L e G) (jI p L G) H
 |.r e S a0 w,L,G,H=>qz (oP e) (λZ=>qz (oP a0) (λy=>Ft w (oM L (.g .d (.q .b (.n (.b Z) S)) (.d (.b y) (.c (.b w)))) G) (ci L (.y (.n (.b Z) S) .c []) G) H) .m) .m
 |.b e,L,G,H=>QF (ci L e G) H
 |.L,_,_,H=>QG H
 |.n,L,G,H=>Fu L G H
 |.z Z e h,L,G,H=>QI L G (match Z with|some y=>uY .local G y (ci L e G)|none=>yT (ci L e G)) (jI h av G) H
 |.G p f,L,G,H=>QH (jI p L G) (jI f L G) H
 |.M _ _,_,_,_=>.m
noncomputable def jI:List aT->Bool->aV->List x->P
 |[],_,_,p=>Fv p
 |H::r,L,G,p=>bif va H then .q af else yW (yX H L G) (jI r L G) p
end
end Mine.Internal
set_option tactic.hygienic false
namespace Mine.Internal
open PySem PySem.W PySem.Calls PyProof.Rows
section
variable{k:aU}{L:Bool}{n:Nat}{c:v}{G:aV}
theorem Fx{S:aa}(h:(yS S).b)(l:Nat)(M:aN):gB S ae l M=bI av:=congrFun (congrFun h l) M
theorem Fz{r:aa->P}{S:x}{c0:x->Prop}(h:(yT r S).b)(w:∀e V,(r e).b->(∀l M,gB e ae l M=bI av)->c0 (rj e V)):c0 S:=EY h λ_ _ h=>w _ _ h.1 (Fx h.2)
theorem FA{I:gt}{Z:ak}{f:aH->aa->aH->P}{S:x}{c0:x->Prop}(h:(yU I G Z f S).b)(w:∀o0 S V,G.lookup (an Z)=a I->(f o0 S V).b->c0 (gc [aY (an Z) o0] S V)):c0 S:=uX h λe0 S V h=>by
 rcases e0 with _|⟨t,_|⟨_,_⟩⟩<;>try exact P.n h
 refine mc (c0:=λt=>c0 (gc [t] S V)) h λH o0 h=>?_
 obtain⟨E,N⟩:=bp h.1
 have e:=dr E;subst e
 exact w _ _ _ (fn N) h.2
theorem yY{I:gt}{Z:ak}{r:aa->P}{S:x}{c0:x->Prop}(h:(uY I G Z r S).b)(w:∀o0 S V,G.lookup (an Z)=a I->(r S).b->(∀M,gB S (a (aY (an Z) o0)) V.line M=bI av)->c0 (gc [aY (an Z) o0] S V)):c0 S:=
 FA h λ_ _ _ n0 h=>w _ _ _ n0 h.1 (congrFun h.2)
theorem FB{I:gt}{p:Bool}{Z:ak}{r:aa->P}{S:x}{c0:x->Prop}(h:(yV I p G Z r S).b)(w:∀o0 S V,G.lookup (an Z)=a I->(r S).b->(∀M,M.scope.kind=hH->M.scope.names=G->gB S (a (aY (an Z) o0)) V.line M=bI p)->c0 (gc [aY (an Z) o0] S V)):c0 S:=
 FA h λ_ _ _ n0 h=>w _ _ _ n0 h.1 λM E N=>by have:=congrFun h.2 M;rw[Fi E N]at this;exact this
theorem FC:∀{t0:List aa}{y0:List ak},sG t0 y0=af->ma t0 y0:=by
 intro t0
 induction t0 with
 |nil=>intro y0 h;induction y0 using bL with|nil=>exact .d|cons=>exact me h
 |cons e t0 Y=>
  intro y0 h
  induction y0 using bL with
  |nil=>induction e using pN<;>exact me h
  |cons Z y0=>
   induction e using pN<;>try(exact me h)
   obtain⟨E,N⟩:=bp h
   exact .e (dr E) (Y N)
theorem vb{y0:List ak}(h:(y0.all λZ=>eU G (an Z) .local)=af)(Z:ak)(b0:Z∈y0):G.lookup (an Z)=a .local:=fn (gY.mp h Z b0)
theorem QL{S:aa}(h:oO S=af):∃t0 w V,S=gx t0 w V:=by induction S using pN<;>first|exact(jg _ _ _ rfl)|exact me h
theorem QM{y0:List ak}{e:ar}{r:aa->P}{S:x}(h:(Fj L G y0 r S).b)(w:∀T,(r T).b->aE k L n G T (ag c e)):bN k L n G S (bb c (.q y0 e)):=uX (c0:=λS=>bN k L n G S (bb c (.q y0 e))) h λe0 S V h=>by
 rcases e0 with _|⟨t,_|⟨_,_⟩⟩<;>try exact P.n h
 refine Es (c0:=λt=>bN k L n G (gc [t] S V) (bb c (.q y0 e))) h λt0 q B h=>?_
 obtain⟨E,N,h3,h4⟩:=h
 obtain⟨n0,E⟩:=bp E
 have p:(P.k (.q (sG t0 y0)) (.t (λM=>wL [gx t0 q B] S M) (λ_=>bI ae))).b->bN k L n G (gc [gx t0 q B] S V) (bb c (.q y0 e)):=λh=>Om n0 (FC h.1) (vb E) (w _ N) (congrFun h3) (congrFun h.2)
 rcases y0 with _|⟨Z,_|⟨y,_|⟨_,_⟩⟩⟩
 ·(generalize x0:oO S=x9;induction x9)<;>rw[x0]at h4<;>exact p h4
 ·(generalize x0:oO S=x9;induction x9)<;>rw[x0]at h4<;>exact p h4
 ·(generalize x0:oO S=x9;induction x9)<;>rw[x0]at h4
  ·exact p h4
  ·exact Oo n0 (λe=>by have:=h4.1;change (!ba (Z=y))=af at this;rw[e]at this;simp at this) (vb E _ cg) (vb E _ (ge _ cg)) (w _ N) (congrFun h3) λM g1 g2=>by
    have:=congrFun h4.2 M;rw[Fi g1 g2]at this;exact this
 ·(generalize x0:oO S=x9;induction x9)<;>rw[x0]at h4<;>exact p h4
theorem QN(L0:cn k){Z:ak}{e o:ar}{r h0:aa->P}{S:x}(h:(Fk Z r h0 S).b)(k1:∀T,(r T).b->aE k L n G T (ag c e))(l:∀T,(h0 T).b->aE k L n G T (ag c o)):bN k L n G S (bb c (.g o Z e)):=uX (c0:=λS=>bN k L n G S (bb c (.g o Z e))) h λe0 S V h=>by
 rcases e0 with _|⟨t,_|⟨_,_⟩⟩<;>try exact P.n h
 refine uF (c0:=λt=>bN k L n G (gc [t] S V) (bb c (.g o Z e))) h λT H s h=>?_
 obtain⟨E,N,h3,h4⟩:=h
 have j:=dr E;subst j
 exact Oj L0 (k1 _ N) (l _ h3) (congrFun h4)
theorem QO{e o i:ar}{r h0 p:aa->P}{S:x}(h:(Fl r h0 p S).b)(k1:∀T,(r T).b->aE k L n G T (ag c e))(l:∀T,(h0 T).b->aE k L n G T (ag c o))(B:∀T,(p T).b->aE k L n G T (ag c i)):bN k L n G S (bb c (.l o i e)):=uX (c0:=λS=>bN k L n G S (bb c (.l o i e))) h λe0 S V h=>by
 rcases e0 with _|⟨t,_|⟨_,_⟩⟩<;>try exact P.n h
 refine yr (c0:=λt=>bN k L n G (gc [t] S V) (bb c (.l o i e))) h λT H s h=>?_
 exact Ok (k1 _ h.1) (l _ h.2.1) (B _ h.2.2.1) (congrFun h.2.2.2)
theorem QP{Z:ak}{o:gh}{e:ar}{r:aa->P}{S:x}(h:(Fm G Z o r S).b)(w:∀T,(r T).b->aE k L n G T (ag c e)):bN k L n G S (bb c (.u Z o e)):=Qx (c0:=λS=>bN k L n G S (bb c (.u Z o e))) h λt s S V h=>by
 refine mc (c0:=λt=>bN k L n G (Bm t s S V) (bb c (.u Z o e))) h λH o0 h=>?_
 obtain⟨E,h3⟩:=bp h.1
 obtain⟨E,N⟩:=bp E
 have j:=dr E;subst j
 induction o<;>first|exact me h3|skip
 ·obtain rfl:=of_decide_eq_true h3;exact Du (fn N) (w _ h.2) λU Q F C D H i B t m0 Y g0 J m=>PR J m
 ·obtain rfl:=of_decide_eq_true h3;exact Du (fn N) (w _ h.2) λU Q F C D H i B t m0 Y g0 J m=>PS J m
theorem QQ{I:ar}{Z y:List Mine.Internal.aT}{f:aa->P}{u v:List x->P}{S:x}(h:(Fo f u v S).b)(m0:∀T,(f T).b->eb k L n G T (bJ c I))(k1:∀T,(u T).b->gF k L n G T (aO c Z))(l:∀T,(v T).b->gF k L n G T (aO c y)):bN k L n G S (bb c (.c I Z y)):=
 QA (c0:=λS=>bN k L n G S (bb c (.c I Z y))) h λ_ _ _ _ h=>Og (m0 _ h.1) (k1 _ h.2.1) (l _ h.2.2)
theorem QR{t:gO}{d:aa}(h:Fp G t d=af):mU G d t:=by
 induction t<;>induction d using pN<;>try(exact me h)
 ·obtain⟨E,N⟩:=bp h
  have e:=dr E;subst e
  exact .f (fn N)
 ·obtain⟨E,N⟩:=bp h
  exact .g (FC E) (vb N)
theorem QS(g:fA k L n c){w:ku}{e:ar}{d m0:aa}{r:aa->P}(F0:ls d)(h:(Fq G d w r m0).b)(k1:∀T,(r T).b->aE k L n G T (ag c e)):mV k L n G d m0 (iT c w e):=by
 induction w
 ·exact OC g.b F0 (k1 _ h)
 ·exact qy (c0:=λm0=>mV k L n G d m0 (iT c .c e)) h λZ o0 p V y0 b0 W l0 e0=>OD g.b g.d F0 y0 b0 (k1 _ W) l0 e0
 ·exact qx (c0:=λm0=>mV k L n G d m0 (iT c .d e)) h λf s V h=>uF (c0:=λf=>mV k L n G d (cQ f s [] V) (iT c .d e)) h λo H q h=>by
   obtain⟨E,N,h3⟩:=h
   obtain⟨E,U⟩:=bp E
   obtain⟨E,h6⟩:=bp E
   obtain⟨g1,h5⟩:=bp E
   obtain rfl:=gU h5
   obtain⟨t0,D0,B,e1⟩:=QL h6
   exact OE g.b (dr g1) e1 (k1 _ N) (congrFun h3) U
theorem QT(g:fA k L n c){t:gO}{w:ku}{e:ar}{p:List Mine.Internal.aT}{r:aa->P}{v:List x->P}{S:x}(h:(Fs L G t w r v S).b)(k1:∀T,(r T).b->aE k L n G T (ag c e))(l:∀T,(v T).b->gF k L n G T (aO c p)):bN k L n G S (bb c (.k t w e p)):=
 Qy (c0:=λS=>bN k L n G S (bb c (.k t w e p))) h λd m0 d0 o V h=>by
  obtain⟨E,N,h3,h4⟩:=h
  obtain⟨E,h6⟩:=bp E
  obtain⟨g1,h5⟩:=bp E
  obtain rfl:=gU h6
  have F0:=QR h5
  exact OB g.b g1 (QS g F0.i N k1) F0 (l _ h3) λM Z=>congrFun (congrFun h4 M) Z
theorem QU{w:Nat}{Z y X:ak}{M r:aa->P}{S:x}(h:(Ft w M r S).b)(k1:∀T,(M T).b->eb k L n G T (bJ c (.g .d (.q .b (.n (.b Z) X)) (.d (.b y) (.c (.b w))))))(l:∀T,(r T).b->aE k L n G T (ag c (.y (.n (.b Z) X) .c []))):bN k L n G S (bb c (.r (.b Z) X (.b y) w)):=
 Qz (c0:=λS=>bN k L n G S (bb c (.r (.b Z) X (.b y) w))) h λt p o V h=>by
  rcases p with _|⟨H,_|⟨_,_⟩⟩<;>try exact P.n h
  refine EY (c0:=λH=>bN k L n G (Bp t [H] o V) (bb c (.r (.b Z) X (.b y) w))) h λe g h=>?_
  obtain⟨E,N,h3,h4⟩:=h
  obtain⟨E,h5⟩:=bp E
  obtain rfl:=gU E
  exact OS (of_decide_eq_true h5) (k1 _ N) (l _ h3) (Fx h4)
theorem QV(g:fA k L n c){S:x}(h:(Fu L G S).b):bN k L n G S (bb c .n):=
 QB (c0:=λS=>bN k L n G S (bb c .n)) h λe I V h=>by
  induction e<;>induction I<;>try exact P.n h
  rename_i e
  refine qx (c0:=λe=>bN k L n G (tC (a e) ae V) (bb c .n)) h λf s Z h=>?_
  refine mc (c0:=λf=>bN k L n G (tC (a (cQ f s [] Z)) ae V) (bb c .n)) h λH o0 h=>?_
  rcases s with _|⟨p,_|⟨_,_⟩⟩<;>try exact P.n h
  refine uE (c0:=λp=>bN k L n G (tC (a (cQ (aY H o0) [p] [] Z)) ae V) (bb c .n)) h λI w q h=>?_
  induction I<;>try exact P.n h
  obtain⟨E,N,h3⟩:=h
  obtain⟨E,h5⟩:=bp E
  obtain⟨g1,h4⟩:=bp E
  have j:=dr h4;subst j
  exact Pg g.b g.l g1 rfl (fn h5) (uS N) (congrFun h3)
theorem fA.r(g:fA k L n c)(h:L=af):fA k av n (gQ c):=⟨g.b,g.d,g.l,g.m,g.o,g.p,g.q h,λh=>nomatch h⟩
theorem QW{p:List x}(h:(Fv p).b):p=[]:=by induction p using bL<;>first|rfl|exact P.n h
theorem QX{r:x->P}{z:List x->P}{p:List x}{c0:List x->Prop}(h:(yW r z p).b)(w:∀S s,(r S).b->(z s).b->c0 (S::s)):c0 p:=by
 induction p using bL with
 |nil=>exact P.n h
 |cons S s=>exact w _ _ h.1 h.2
theorem FD{c:Type}{l:List c}(h:(!l.isEmpty)=af):∃S r,l=S::r:=by induction l using bL<;>first|exact(gL _ _ rfl)|cases h
end
section
variable{k:aU}{n:Nat}
mutual
theorem QY:∀(H:Mine.Internal.aT){L:Bool}{c:v}(_:fA k L n c)(G:aV)(S:x),(yX H L G S).b->bN k L n G S (bb c H)
 |.H,L,c,g,G,S,h=>QC (c0:=λS=>bN k L n G S (bb c .H)) h λ_ _=>Oa
 |.E,L,c,g,G,S,h=>QD (c0:=λS=>bN k L n G S (bb c .E)) h λ_ _=>Ob
 |.s,L,c,g,G,S,h=>P.n h
 |.m e,L,c,g,G,S,h=>Fz (c0:=λS=>bN k L n G S (bb c (.m e))) h λ_ _ h N=>Od (cj g e G _ h) N
 |.d Z e,L,c,g,G,S,h=>by
   have h:(qz (uZ e) _ _).b:=h
   generalize x0:uZ e=x9;induction x9 with
   |none=>rw[x0]at h;exact yY (c0:=λS=>bN k L n G S (bb c (.d Z e))) h λ_ _ _ n0 E N=>Oh n0 (cj g e G _ E) N
   |some q=>
    rw[x0]at h
    obtain rfl:=QJ x0
    refine FB (c0:=λS=>bN k L n G S (bb c (.d Z (.t q.1 q.2.1 q.2.2.1 q.2.2.2.1 q.2.2.2.2)))) h λo0 S V n0 E=>?_
    exact yK (c0:=λS=>(∀M,M.scope.kind=hH->M.scope.names=G->gB S (a (aY (an Z) o0)) V.line M=bI af)->bN k L n G (gc [aY (an Z) o0] S V) (bb c (.d Z (.t q.1 q.2.1 q.2.2.1 q.2.2.2.1 q.2.2.2.2)))) E
     λ_ _ _ _ _ _ F u g1 g2 g3 g4 w0=>Op g.b F n0 u (cj g q.2.2.2.1 G _ g1) (cj g q.1 _ _ g2) (EW g q.2.2.2.2 _ _ g3) g4 w0
 |.F Z e,L,c,g,G,S,h=>yY (c0:=λS=>bN k L n G S (bb c (.F Z e))) h λ_ _ _ n0 E N=>Oi n0 (cj g e G _ E) N
 |.C Z K0 y D0 m0,L,c,g,G,S,h=>FB (c0:=λS=>bN k L n G S (bb c (.C Z K0 y D0 m0))) h λo0 S V n0 E=>
    yK (c0:=λS=>(∀M,M.scope.kind=hH->M.scope.names=G->gB S (a (aY (an Z) o0)) V.line M=bI av)->bN k L n G (gc [aY (an Z) o0] S V) (bb c (.C Z K0 y D0 m0))) E
     λ_ _ _ _ _ _ F u g1 g2 g3 g4 w0=>by
      obtain rfl:=uV g3
      exact OG g.b F n0 u (cj g m0 G _ g1) (cj g K0 _ _ g2) g4 w0
 |.q _ e,_,_,g,G,_,h=>QM h λT h=>cj g e G T h
 |.g o _ e,_,_,g,G,_,h=>QN g.b h (λT h=>cj g e G T h) (λT h=>cj g o G T h)
 |.l o i e,_,_,g,G,_,h=>QO h (λT h=>cj g e G T h) (λT h=>cj g o G T h) (λT h=>cj g i G T h)
 |.u _ _ e,_,_,g,G,_,h=>QP h λT h=>cj g e G T h
 |.c I Z y,_,_,g,G,_,h=>QQ h (λT h=>oN g I G T h) (λT h=>kL Z g G T h) (λT h=>kL y g G T h)
 |.k _ _ e p,_,_,g,G,_,h=>QT g h (λT h=>cj g e G T h) (λT h=>kL p g G T h)
 |.r e S a0 w,L,c,g,G,H,h=>by
   have h:(qz (oP e) _ .m).b:=h
   generalize E:oP e=x9;induction x9 with
   |none=>rw[E]at h;exact P.n h
   |some Z=>
    rw[E]at h
    have h:(qz (oP a0) _ .m).b:=h
    generalize N:oP a0=x9;induction x9 with
    |none=>rw[N]at h;exact P.n h
    |some y=>
     rw[N]at h
     obtain rfl:=Fw E;obtain rfl:=Fw N
     exact QU h (λT h=>oN g _ G T h) (λT h=>cj g _ G T h)
 |.b e,L,c,g,G,S,h=>Ff (c0:=λS=>bN k L n G S (bb c (.b e))) h λo V h=>by
    induction o
    ·exact P.n h
    ·exact Oe (cj g e G _ h)
 |.L,L,c,g,G,S,h=>Ff (c0:=λS=>bN k L n G S (bb c .L)) h λo V h=>by
    obtain rfl:=yJ h;exact Of
 |.n,_,_,g,_,_,h=>QV g h
 |.z Z e l0,L,c,g,G,S,h=>Fe (c0:=λS=>bN k L n G S (bb c (.z Z e l0))) h λp T0 o r0 V h=>by
    rcases p with _|⟨H,_|⟨_,_⟩⟩<;>try exact P.n h
    rcases T0 with _|⟨⟨_|t,_|_,W,R⟩,_|⟨_,_⟩⟩<;>try exact P.n h
    refine mc (c0:=λt=>bN k L n G (wQ [H] [.ExceptHandler (a t) ae W R] o r0 V) (bb c (.z Z e l0))) h λc1 o0 h=>?_
    obtain⟨E,N,h3⟩:=h
    obtain⟨E,B⟩:=bp E
    obtain⟨E,h8⟩:=bp E
    obtain⟨E,U⟩:=bp E
    obtain⟨E,h6⟩:=bp E
    obtain⟨g1,h5⟩:=bp E
    obtain rfl:=gU h5;obtain rfl:=gU h6
    obtain⟨q0,f0,rfl⟩:=FD U
    have j:=dr h8;subst j
    refine Pm g.b g.l g1 rfl (fn B) ?_ (kL l0 (g.r g1) G _ h3)
    induction Z with
    |some y=>exact yY (c0:=λS=>sm k L n G [S] (kI c (a y) e)) N λ_ _ _ n0 E N=>Ph n0 (cj g e G _ E) N
    |none=>exact Fz (c0:=λS=>sm k L n G [S] (kI c ae e)) N λ_ _ E N=>Pk (cj g e G _ E) N
 |.G p f,L,c,g,G,S,h=>Fe (c0:=λS=>bN k L n G S (bb c (.G p f))) h λd0 T0 o r0 V h=>by
    obtain⟨E,N,h3⟩:=h
    obtain⟨E,h6⟩:=bp E
    obtain⟨E,h5⟩:=bp E
    obtain rfl:=gU E;obtain rfl:=gU h5
    obtain⟨X,s,rfl⟩:=FD h6
    exact Pn (kL p g G _ N) (kL f g G _ h3)
 |.M _ _,_,_,_,_,_,h=>P.n h
theorem kL:∀(l:List Mine.Internal.aT){L:Bool}{c:v}(_:fA k L n c)(G:aV)(p:List x),(jI l L G p).b->gF k L n G p (aO c l)
 |[],_,_,_,_,_,h=>by rw[QW h];exact NY
 |H::r,L,c,g,G,p,h=>by
  have h:(bif va H then P.q af else yW (yX H L G) (jI r L G) p).b:=h
  generalize x0:va H=x9;induction x9 with
  |true=>rw[QK x0];exact Oc
  |false=>
   rw[x0]at h
   exact QX (c0:=λp=>gF k L n G p (aO c (H::r))) h λ_ _ E N=>NZ (QY H g G _ E) (kL r g G _ N)
end
end
end Mine.Internal
set_option tactic.hygienic false
namespace Mine.Internal
open PySem PySem.W PySem.Calls PyProof.Rows
noncomputable def QZ:List (ak×ai):=[(199,60),(208,74),(209,81),(210,88),(136,109),(156,116),(121,123),(178,130),(122,137),(179,144),(146,151),(197,158),(60,165),(182,172),(81,179),(127,186),(50,193),(211,207),(70,221),(134,228),(37,235),(148,242),(150,247),(85,254),(68,261),(69,268),(158,275),(65,282),(67,289),(66,296),(152,303),(40,310),(187,317),(159,324),(188,331),(196,338),(27,345),(28,350),(102,357),(59,364),(169,371),(36,376),(72,383),(174,390),(63,395),(76,402),(91,409),(96,416),(94,423),(49,430),(93,437),(97,444),(95,451),(145,458),(88,465),(92,472),(123,479),(34,486),(212,501),(213,522),(214,543),(20,557),(23,564),(18,571),(17,578),(15,585),(21,592),(16,599),(19,606),(22,611),(111,616),(4,38),(11,51),(8,98),(10,210),(7,504),(13,525),(14,546)]
noncomputable def Ra:List (ak×ai):=[(4,38),(11,51),(8,98),(10,210),(7,504),(13,525),(14,546)]
def eV(f:ak):ai:=(QZ.lookup f).getD 0
def lw(I:ak):ai:=(Ra.lookup I).getD 0
noncomputable def FE(s:Type):Nat->Type
 |0=>s
 |n+1=>aj->FE s n
noncomputable def sH{s:Type}:(n:Nat)->(List aj->s)->FE s n
 |0,f=>f []
 |n+1,f=>λS=>sH n λl=>f (S::l)
theorem FF{s:Type}:∀(n:Nat){f r0:List aj->s},sH n f=sH n r0->∀l,l.length=n->f l=r0 l:=by
 intro n
 induction n with
 |zero=>intro f r0 h l e;induction l using bL with|nil=>exact h|cons=>cases e
 |succ n Y=>intro f r0 h l e;induction l using bL with|nil=>cases e|cons S l=>exact Y (congrFun h S) l (tD e)
def qA{c:Type}(f:c->P):Option c->P
 |some S=>f S
 |none=>.m
theorem sI{c:Type}{f:c->P}{o:Option c}{c0:Prop}(h:(qA f o).b)(w:∀S,o=a S->(f S).b->c0):c0:=by
 induction o with
 |none=>exact P.n h
 |some S=>exact w S rfl h
noncomputable def yZ:Data->Option fL
 |.func G=>a G
 |_=>ae
noncomputable def vc:FuncBody->Option (List x)
 |.stmts p=>a p
 |_=>ae
theorem Rb{d:Data}{G:fL}(h:yZ d=a G):d=lH G:=by induction d<;>first|exact sC h|(cases h;rfl)
theorem Rc{d:FuncBody}{p:List x}(h:vc d=a p):d=.stmts p:=by induction d<;>first|exact sC h|(cases h;rfl)
def vd(g:dF)(S:ai)(f:cu->fL->List x->P):P:=qA (λo=>qA (λG=>qA (f o G) (vc G.body)) (yZ o.data)) (g.lookup S)
theorem zb{g:dF}{S:ai}{f:cu->fL->List x->P}{c0:Prop}(h:(vd g S f).b)(w:∀o G p,g.lookup S=a o->o.data=lH G->G.body=.stmts p->(f o G p).b->c0):c0:=
 sI h λ_ E h=>sI h λ_ N h=>sI h λ_ h3 h=>w _ _ _ E (Rb N) (Rc h3) h
noncomputable def FG(G:fL):Bool:=ba (G.globals=iL)&&ba (G.builtins=pk)&&ba (G.scope.kind=hH)&&!G.scope.isCoroutine&&!G.scope.isGenerator
theorem Rd{G:fL}{p:List x}(W:G.body=.stmts p)(h:FG G=af):ur G p:=by
 obtain⟨h,h5⟩:=bp h
 obtain⟨h,h4⟩:=bp h
 obtain⟨h,h3⟩:=bp h
 obtain⟨E,N⟩:=bp h
 exact⟨W,of_decide_eq_true E,of_decide_eq_true N,of_decide_eq_true h3,by simpa using h4,by simpa using h5⟩
noncomputable def ve(g:dF)(S:ai)(G:fL)(Z0:List ak):Bool:=
 codeIn g G.code G.qualname&&to g (ax S)&&G.closure.isEmpty&&FG G&&Z0.all λZ=>eU G.scope.names (an Z) .local||eU G.scope.names (an Z) dh
def FH(G:fL)(Z0:List ak):P:=.t (sH Z0.length λs0=>rq G ⟨s0,[]⟩) (sH Z0.length λs0=>bI ((Z0.map an).zip s0))
def sJ(g:dF)(L:Bool)(r0:ak)(d:iA):P:=vd g (eV r0) λ_ G p=>.k (.q (ve g (eV r0) G d.b&&d.d.isEmpty)) (.k (FH G d.b) (jI d.c L G.scope.names p))
section
variable{k:aU}{L:Bool}{n:Nat}{c:v}
theorem zc{g:dF}{r0:ak}{d:iA}{o:cu}{G:fL}{p:List x}(u:k.h=g)(B0:k.k=eV)(E:g.lookup (eV r0)=a o)(N:o.data=lH G)(h3:G.body=.stmts p)(h:ve g (eV r0) G d.b=af)(W:uD k G d)(e0:qs G.code k L n G.scope.names p (aO c d.c)):mZ k L n c r0 d o G p:=by
 obtain⟨h,h8⟩:=bp h
 obtain⟨h,U⟩:=bp h
 obtain⟨h,h6⟩:=bp h
 obtain⟨h4,h5⟩:=bp h
 have M:∀Z∈d.b,G.scope.names.lookup (an Z)=a .local\/G.scope.names.lookup (an Z)=a dh:=λZ b0=>by
  have:=gY.mp h8 Z b0
  rcases Vs.mp this with q|q
  ·exact aL (fn q)
  ·exact aI (fn q)
 exact⟨by rw[u,B0];exact E,N,by rw[u];exact h4,by rw[u,B0];exact h5,gU h6,Rd h3 U,W,M,e0⟩
theorem FI{g:dF}(w:fA k L n c)(u:k.h=g)(B0:k.k=eV){r0:ak}{d:iA}(h:(sJ g L r0 d).b):∃o G I0,mZ k L n c r0 d o G I0:=zb h λo G p E N h3 h=>by
 obtain⟨h4,h5,h6⟩:=h
 obtain⟨h4,U⟩:=bp h4
 exact(jg o G p (zc u B0 E N h3 h4 (Eg (gU U) (FF _ h5)) (sb.d (kL _ w _ _ h6))))
end
end Mine.Internal
set_option tactic.hygienic true
namespace Mine.Internal
open PySem PySem.W PySem.Calls PyProof.Rows
noncomputable def vf:List x->Option (aD×nZ×List x×fj×List x)
 |.FunctionDef O l I0 c o B f e0 e _::i=>if c.isEmpty&&o.isNone&&B.isEmpty&&e0.isNone&&e==O then a (O,l,I0,f,i)else ae
 |_=>ae
namespace vg
noncomputable def E0(O:aD)(l:nZ)(I0:List x)(f:fj)(i:List x):Prop:=∀{p:List x}(h:vf p=a (O,l,I0,f,i)),∃u0,p=WS O l I0 [] ae [] f ae O u0::i
noncomputable def O0:aD×nZ×(List x)×fj×(List x)->Prop:=W λO=>W λl=>W λI0=>W λf=>λi=>E0 O l I0 f i
def c0:=dQ (J (J (J (J inferInstance)))) O0
def O:aD:=c0.1
def l:nZ:=c0.2.1
def I0:List x:=c0.2.2.1
def f:fj:=c0.2.2.2.1
def i:List x:=c0.2.2.2.2
theorem Q0:E0 O l I0 f i:=by
 intro p h
 induction p using bL with
 |nil=>cases h
 |cons H r=>
  induction H using Xb<;>try exact sC h
  rename_i n V p c o B G e0 e u0
  by_cases x0:(c.isEmpty&&o.isNone&&B.isEmpty&&e0.isNone&&e==n)=af
  ·have h:a (n,V,p,G,r)=a (O,l,I0,f,i):=(if_pos x0).symm.trans h
   obtain⟨x0,h5⟩:=bp x0
   obtain⟨x0,h4⟩:=bp x0
   obtain⟨x0,h3⟩:=bp x0
   obtain⟨E,N⟩:=bp x0
   cases h
   have e5:=dr h5
   obtain rfl:=gU E;obtain rfl:=gU h3
   obtain rfl:=Xc.mp N;obtain rfl:=Xc.mp h4
   subst e5
   exact⟨u0,rfl⟩
  ·cases(if_neg x0).symm.trans h
end vg
theorem Re{O:aD}{l:nZ}{I0:List x}{f:fj}{i:List x}:vg.E0 O l I0 f i:=dS (Y:=vg.O0) vg.Q0 (O,l,I0,f,i)
def vh(g:dF):Option (aD×nZ×List x×fj×List x):=(((g.lookup (eV 63)).bind λo=>yZ o.data).bind λG=>vc G.body).bind vf
noncomputable def vi(g:dF):fL->ai->Prop:=λG B=>∃O l I0 f i l0 e j0 t A,vh g=a (O,l,I0,f,i)/\
 G=fnX O l0 l I0 f [(an 163,B)] aS aS e j0 ae (ax t) A
def FJ:List Mine.Internal.aT:=qt.tail
def FK(g:dF):P:=vd g (eV 63) λ_ G p=>qA (λq:aD×nZ×List x×fj×List x=>
 .k (.q (ve g (eV 63) G [163,195,58,29]&&q.1==an 89&&eU G.scope.names (an 89) .local&&eU G.scope.names (an 163) dh&&q.2.2.2.1.names.all (λz=>!ba (z.2=dN)||z.1==an 163)&&q.2.1.defaults.isEmpty&&q.2.1.kw_defaults.isEmpty))
 (.k (FH G [163,195,58,29]) (.k (.t G.code (ax 394)) (.k (.t (λ(r0:aD->ai)=>iD r0 q.2.2.2.1.names []) (λr0=>[(an 163,r0 (an 163))])) (.k (.t (λM=>annTrees q.2.1 ae M) (λ_=>[])) (jI FJ af G.scope.names q.2.2.2.2)))))) (vf p)
def FM(g:dF):P:=qA (λq:aD×nZ×List x×fj×List x=>
 .k (.q (ba (q.2.2.2.1.kind=hH)&&!q.2.2.2.1.isCoroutine&&!q.2.2.2.1.isGenerator&&q.2.2.2.1.names.all (λZ=>!ba (Z.2=dh))&&eU q.2.2.2.1.names (an 80) .local&&eU q.2.2.2.1.names (an 191) .local&&eU q.2.2.2.1.names (an 163) dN))
 (.k (.t (λB l0 e j0 t A S I=>rq (fnX q.1 l0 q.2.1 q.2.2.1 q.2.2.2.1 [(an 163,B)] aS aS e j0 ae (ax t) A) ⟨[S,I],[]⟩) (λ_ _ _ _ _ _ S I=>bI [(an 80,S),(an 191,I)]))
 (jI mY af q.2.2.2.1.names q.2.2.1))) (vh g)
section
variable{k:aU}{n:Nat}{c:v}{g:dF}
theorem Rf(w:fA k af n c)(m0:uu k 394)(u:k.h=g)(B0:k.k=eV)(e0:k.l=vi g)(h:(FK g).b):∃o G I0,mZ k af n c 63 {b:=[163,195,58,29],c:=qt} o G I0:=zb h λo G p E N h3 h=>sI h λq x0 h=>by
 obtain⟨O,l,I0,f,i⟩:=q
 obtain⟨g1,g2,g3,g4,T,x⟩:=h
 obtain⟨g1,e6⟩:=bp g1
 obtain⟨g1,e5⟩:=bp g1
 obtain⟨g1,e4⟩:=bp g1
 obtain⟨g1,e3⟩:=bp g1
 obtain⟨g1,e2⟩:=bp g1
 obtain⟨F,e1⟩:=bp g1
 have h0:vh g=a (O,l,I0,f,i):=by unfold vh;rw[E];rw[Option.bind_some,N];show(vc G.body).bind vf=_;rw[h3];exact x0
 obtain⟨u0,rfl⟩:=Re x0
 refine(jg o G _ (zc u B0 E N h3 F (Eg rfl (FF 4 g2)) ?_))
 have e1:O=an 89:=dr e1
 refine Pr (r:=FJ) w.b m0 g3 e1 (fn e2) (fn e3) (λz s k0=>?_) (congrFun g4) (gU e5) (gU e6) (congrFun T) (λB l0 e j0 t A=>?_) (kL _ w _ _ x)
 ·have:=gY.mp e4 z s
  rw[k0]at this
  exact dr (by simpa using this)
 ·rw[e0];exact(tK _ _ _ _ _ _ _ _ ⟨_,_,h0,rfl⟩)
theorem Rh(w:fA k af n c)(e0:k.l=vi g)(h:(FM g).b):∀G B,k.l G B->∃I0,uv k af n c G B I0 mY:=sI h λq x0 h G B b0=>by
 rw[e0]at b0
 obtain⟨O,l,I0,f,i,l0,e,j0,t,A,h0,rfl⟩:=b0
 rw[x0]at h0;cases h0
 obtain⟨g1,g2,g3⟩:=h
 obtain⟨g1,e7⟩:=bp g1
 obtain⟨g1,e6⟩:=bp g1
 obtain⟨g1,e5⟩:=bp g1
 obtain⟨g1,e4⟩:=bp g1
 obtain⟨g1,e3⟩:=bp g1
 obtain⟨e1,e2⟩:=bp g1
 refine⟨I0,{shape:=⟨rfl,rfl,rfl,of_decide_eq_true e1,by simpa using e2,by simpa using e3⟩,closure:=rfl,b:=λZ b0=>?_,d:=fn e5,e:=fn e6,f:=fn e7,bind:=λS I=>?_,g:=kL _ w _ _ g3}⟩
 ·have:=gY.mp e4 Z b0;simpa using this
 ·exact congrFun (congrFun (congrFun (congrFun (congrFun (congrFun (congrFun (congrFun g2 B) l0) e) j0) t) A) S) I
end
def FN:List (ak×iA):=Ef.filter λV=>!(V.1==212)&&!(V.1==63)
theorem FO{c:Type}{r0:ak}{d:c}:∀{l:List (ak×c)},l.lookup r0=a d->(r0,d)∈l
 |(S,p)::l,h=>by
  rw[lb]at h
  cases x0:r0==S with
  |true=>rw[x0]at h;cases h;rw[dr x0];exact cg
  |false=>rw[x0]at h;exact ge _ (FO h)
end Mine.Internal
set_option tactic.hygienic true
namespace Mine.Internal.L
theorem vj{S:Int}(h:S.natAbs<=1000):S.natAbs<2^60:=el h (by decide)
theorem zd{S p:Int}{a0 n:Nat}(v0:S.natAbs<=a0)(W:p.natAbs<=n):(S+p).natAbs<=a0+n:=az (Int.natAbs_add_le S p) (kT v0 W)
theorem jJ{S p:Int}{a0 n:Nat}(v0:S.natAbs<=a0)(W:p.natAbs<=n):(S-p).natAbs<=a0+n:=az (Int.natAbs_sub_le S p) (kT v0 W)
theorem Ri{S p:Int}{a0 n:Nat}(v0:S.natAbs<=a0)(W:p.natAbs<=n):(S*p).natAbs<=a0*n:=by rw[Xd];exact Ih v0 W
theorem ly{S:Int}{a0:Nat}(n0:0<=S)(h:S<=a0):S.natAbs<=a0:=dO.mp (by rw[Ia n0];exact h)
theorem sK{S p:Int}(v0:S.natAbs<=1000)(W:p.natAbs<=1000):(S-p).natAbs<2^60:=el (jJ v0 W) (by decide)
theorem qB{S p:Int}(v0:S.natAbs<=1000)(W:p.natAbs<=1000):(S-p+1).natAbs<2^60:=el (zd (jJ v0 W) (show(1:Int).natAbs<=1 by decide)) (by decide)
theorem lz{i:Int}{B:Nat}(h:i=B):0<=i:=h▸ip B
theorem ng{i:Int}{B:Nat}(h:i=B):i.toNat=B:=by subst h;rfl
theorem vk{S i:Int}{B:Nat}(n0:0<=S)(h:i=B):(S+i).toNat=S.toNat+B:=by subst h;rw[Int.toNat_add n0 (ip B)];rfl
theorem FP{S:Int}{n:Nat}(n0:0<=S)(h:S<n):S.toNat<n:=(wE n0).mpr h
theorem Rj{S:Int}{n:Nat}(n0:0<=S)(h:S.toNat<n):S<n:=(wE n0).mp h
theorem sL{S:Int}{a0:Nat}(n0:1<=S)(h:S<=a0):S.natAbs<=a0:=ly (bQ (by decide) n0) h
theorem FQ{S:Int}(n0:-1<=S)(h:S<=1):S.natAbs<=1:=by omega
theorem Rk{S:Int}(n0:1<=S)(h:S<=3):S.natAbs<=1000:=az (sL (a0:=3) n0 h) (by decide)
theorem Rl{S:Int}(n0:0<=S)(h:S<=6):S.natAbs<2^60:=el (ly (a0:=6) n0 h) (by decide)
noncomputable def fU(w:ah->j->au (bA×ah))(Z:au (bA×ah)):au (bA×ah):=match Z with
 |.b (.b,o0) O=>w o0 O
 |Z=>Z
noncomputable def ze(b:ah)(T:A)(C:j):au (bA×ah):=match T with|.m=>.b (.b,b) C|.b _=>.b (.b,b) C|_=>.d
noncomputable def oQ{c:Type}(S p:c)(t:Bool):c:=if t then S else p
noncomputable def fb{c s:Type}(w:c->au s)(o:Option c):au s:=match o with|some Z=>w Z|none=>.d
def FR(b:ah)(Z:ak)(T:A)(C:j):au (bA×ah):=.b (.b,b.c Z T) C
def zg(b:ah)(y0:List ak)(C:j)(l:List A):au (bA×ah):=fb (λo0=>.b (.b,o0) C) (fD y0 l b)
def FS(b:ah)(y0:List ak)(T:A)(C:j):au (bA×ah):=fb (zg b y0 C) (ot C T)
def zh(c:v)(S p:List aT)(b:ah)(t:Bool)(C:j):au (bA×ah):=oQ (aO c S b C) (aO c p b C) t
noncomputable def FT(b:ah)(T:A)(C:j):au (bA×ah):=.b (.c T,b) C
noncomputable def zi(c:v)(q:A)(X:List A)(C:j):au A:=c q X C
def FU(c:v)(s:List ar)(b:ah)(q:A)(C:j):au A:=(bH c s b C).e (zi c q)
def FV(f:jW)(T:A)(C:j):au A:=cK C f T
def zj(T w:A)(C:j):au A:=fb (λZ=>.b Z C) (cz C T w)
def FW(c:v)(f:ar)(b:ah)(T:A)(C:j):au A:=(ag c f b C).e (zj T)
def zk(o:gh)(T w:A)(C:j):au A:=ew C o T w
def FX(c:v)(o:gh)(f:ar)(b:ah)(T:A)(C:j):au A:=(ag c f b C).e (zk o T)
def zl(o:iz)(T w:A)(C:j):au A:=fb (λr=>.b (.o r) C) (cC C o T w)
def FY(c:v)(o:iz)(f:ar)(b:ah)(T:A)(C:j):au A:=(ag c f b C).e (zl o T)
def FZ(T:A)(C:j):au A:=fb (λp=>.b (.o (!p)) C) (cy C T)
def zm(c:v)(e f:ar)(b:ah)(t:Bool)(C:j):au A:=oQ (ag c e b C) (ag c f b C) t
noncomputable def Ga(X:List A)(C:j):au A:=.b (.e X) C
noncomputable def Gb(X:List A)(C:j):au A:=.b (.k X) C
noncomputable def zn(T:A)(X:List A)(C:j):au (List A):=.b (T::X) C
def Gc(c:v)(s:List ar)(b:ah)(T:A)(C:j):au (List A):=(bH c s b C).e (zn T)
noncomputable def Gd(p:Bool)(C:j):au Bool:=.b (!p) C
def zo(o:iz)(T w:A)(C:j):au Bool:=fb (λr=>.b r C) (cC C o T w)
def Ge(c:v)(o:iz)(f:ar)(b:ah)(T:A)(C:j):au Bool:=(ag c f b C).e (zo o T)
def sM(T:A)(C:j):au Bool:=fb (λp=>.b p C) (cy C T)
def zp(c:v)(q:A)(X:List A)(C:j):au Bool:=(c q X C).e sM
def Gf(c:v)(s:List ar)(b:ah)(q:A)(C:j):au Bool:=(bH c s b C).e (zp c q)
def Gg(f:jW)(T:A)(C:j):au Bool:=(cK C f T).e sM
def zr(c:v)(s:List ar)(b:ah)(p:Bool)(C:j):au Bool:=oQ (di c s b C) (.b av C) p
def zt(c:v)(s:List ar)(b:ah)(p:Bool)(C:j):au Bool:=oQ (.b af C) (ic c s b C) p
noncomputable def kM:A->Bool|.m=>af|_=>av
def Gh(T:A)(C:j):au A:=.b (.o (kM T)) C
def Gi(T:A)(C:j):au Bool:=.b (kM T) C
noncomputable def qC:A->Bool|.m=>av|_=>af
def Gj(T:A)(C:j):au Bool:=.b (qC T) C
def eW(C:j)(S:ak)(T:A)(w:A->au c):au c:=match T with
 |.h I r=>if bB I S then(match C.c r with
    |some (.b l)=>(match aX l (an S).cps.toList with|some Z=>w Z|none=>.d)
    |_=>.d)else .d
 |_=>.d
def Gk(S:ak)(T:A)(C:j):au A:=eW C S T λZ=>.b Z C
def zu(S:ak)(T:A)(C:j):au Bool:=eW C S T λZ=>fb (λp=>.b p C) (cy C Z)
section
variable{c:v}{b o0:ah}{C O:j}{T d0:A}{e f:ar}{r:au (bA×ah)}{H:aT}{k:List aT}{Z:ak}{w:A->j->au A}
theorem bh{n:Nat}{r0:ak}{d:iA}{X:List A}(z0:kJ r0=a d)(W:ie d.b d.d X=a b):aq (n+1) (.g r0) X C=aq.leave (aO (aq n) d.c b C):=by
 show(match kJ r0 with
  |some d=>(match ie d.b d.d X with
   |some b=>aq.leave (aO (aq n) d.c b C)
   |none=>.d)
  |none=>.d)=_
 rw[z0];dsimp only;rw[W]
@[simp]theorem Xx{b:ah}{Z:ak}{T:A}{C:j}:FR b Z T C=.b (.b,b.c Z T) C:=rfl
@[simp]theorem Xy{b:ah}{y0:List ak}{C:j}{l:List A}:zg b y0 C l=fb (λo0=>.b (.b,o0) C) (fD y0 l b):=rfl
@[simp]theorem Xz{b:ah}{y0:List ak}{T:A}{C:j}:FS b y0 T C=fb (zg b y0 C) (ot C T):=rfl
@[simp]theorem XA{c:v}{S p:List aT}{b:ah}{C:j}:zh c S p b af C=aO c S b C:=rfl
@[simp]theorem XB{c:v}{S p:List aT}{b:ah}{C:j}:zh c S p b av C=aO c p b C:=rfl
@[simp]theorem XC{b:ah}{T:A}{C:j}:FT b T C=.b (.c T,b) C:=rfl
@[simp]theorem XD{c:v}{q:A}{X:List A}{C:j}:zi c q X C=c q X C:=rfl
@[simp]theorem XE{c:v}{s:List ar}{b:ah}{q:A}{C:j}:FU c s b q C=(bH c s b C).e (zi c q):=rfl
@[simp]theorem Rm{f:jW}{T:A}{C:j}:FV f T C=cK C f T:=rfl
@[simp]theorem XF{T w:A}{C:j}:zj T w C=fb (λZ=>.b Z C) (cz C T w):=rfl
@[simp]theorem XG{c:v}{f:ar}{b:ah}{T:A}{C:j}:FW c f b T C=(ag c f b C).e (zj T):=rfl
@[simp]theorem Rn{o:gh}{T w:A}{C:j}:zk o T w C=ew C o T w:=rfl
@[simp]theorem Ro{c:v}{o:gh}{f:ar}{b:ah}{T:A}{C:j}:FX c o f b T C=(ag c f b C).e (zk o T):=rfl
@[simp]theorem XH{o:iz}{T w:A}{C:j}:zl o T w C=fb (λr=>.b (.o r) C) (cC C o T w):=rfl
@[simp]theorem XI{c:v}{o:iz}{f:ar}{b:ah}{T:A}{C:j}:FY c o f b T C=(ag c f b C).e (zl o T):=rfl
@[simp]theorem XJ{T:A}{C:j}:FZ T C=fb (λp=>.b (.o (!p)) C) (cy C T):=rfl
@[simp]theorem XM{c:v}{e f:ar}{b:ah}{C:j}:zm c e f b af C=ag c e b C:=rfl
@[simp]theorem XN{c:v}{e f:ar}{b:ah}{C:j}:zm c e f b av C=ag c f b C:=rfl
@[simp]theorem XO{X:List A}{C:j}:Ga X C=.b (.e X) C:=rfl
@[simp]theorem XP{X:List A}{C:j}:Gb X C=.b (.k X) C:=rfl
@[simp]theorem XQ{T:A}{X:List A}{C:j}:zn T X C=.b (T::X) C:=rfl
@[simp]theorem XR{c:v}{s:List ar}{b:ah}{T:A}{C:j}:Gc c s b T C=(bH c s b C).e (zn T):=rfl
@[simp]theorem XS{p:Bool}{C:j}:Gd p C=.b (!p) C:=rfl
@[simp]theorem XT{o:iz}{T w:A}{C:j}:zo o T w C=fb (λr=>.b r C) (cC C o T w):=rfl
@[simp]theorem XU{c:v}{o:iz}{f:ar}{b:ah}{T:A}{C:j}:Ge c o f b T C=(ag c f b C).e (zo o T):=rfl
@[simp]theorem XV{T:A}{C:j}:sM T C=fb (λp=>.b p C) (cy C T):=rfl
@[simp]theorem XW{c:v}{q:A}{X:List A}{C:j}:zp c q X C=(c q X C).e sM:=rfl
@[simp]theorem XX{c:v}{s:List ar}{b:ah}{q:A}{C:j}:Gf c s b q C=(bH c s b C).e (zp c q):=rfl
@[simp]theorem XY{f:jW}{T:A}{C:j}:Gg f T C=(cK C f T).e sM:=rfl
@[simp]theorem XZ{c:v}{s:List ar}{b:ah}{C:j}:zr c s b af C=di c s b C:=rfl
@[simp]theorem Ya{c:v}{s:List ar}{b:ah}{C:j}:zr c s b av C=.b av C:=rfl
@[simp]theorem Yb{c:v}{s:List ar}{b:ah}{C:j}:zt c s b af C=.b af C:=rfl
@[simp]theorem Yc{c:v}{s:List ar}{b:ah}{C:j}:zt c s b av C=ic c s b C:=rfl
@[simp]theorem Yd{T:A}{C:j}:Gh T C=.b (.o (kM T)) C:=rfl
@[simp]theorem Ye{T:A}{C:j}:Gi T C=.b (kM T) C:=rfl
@[simp]theorem Yf{T:A}{C:j}:Gj T C=.b (qC T) C:=rfl
@[simp high]theorem Yg:qC .m=av:=rfl
@[simp high]theorem Yh{i:Int}:qC (.b i)=af:=rfl
@[simp high]theorem Yi{l:List A}:qC (.e l)=af:=rfl
@[simp]theorem Yj{T:A}:qC T=!kM T:=by induction T using A.casesOn<;>rfl
@[simp high]theorem Yk:(!af)=av:=rfl
@[simp high]theorem Yl:(!av)=af:=rfl
@[simp high]theorem Ym{c:Type}{S:c}:[S].length=1:=rfl
@[simp high]theorem Yn{c:Type}{S p:c}:[S,p].length=2:=rfl
@[simp high]theorem Yo{c:Type}{S p I:c}:[S,p,I].length=3:=rfl
@[simp high]theorem Yp{c:Type}{S p I d:c}:[S,p,I,d].length=4:=rfl
@[simp]theorem Yq{S:ak}{T:A}{C:j}:Gk S T C=eW C S T λZ=>.b Z C:=rfl
@[simp]theorem zv{S:ak}{T:A}{C:j}:zu S T C=eW C S T λZ=>fb (λp=>.b p C) (cy C Z):=rfl
@[simp]theorem Gl{c s:Type}{S:c}{f:c->j->au s}:(au.b S C).e f=f S C:=rfl
@[simp]theorem Yr{c s:Type}{f:c->j->au s}:(au.g C).e f=.g C:=rfl
theorem mf{y:ak}(h:y≠Z):(b.c Z T) y=b y:=by rw[ah.e,if_neg h]
theorem lA{b:ah}{Z:ak}{T:A}(h:b Z=a T):b.c Z T=b:=by
 funext y;rw[ah.e];split
 ·subst_vars;exact h.symm
 ·rfl
def nh(l:List (ak×A))(b:ah):ah:=l.foldr (λV a0=>a0.c V.1 V.2) b
theorem jK{b:ah}:nh [] b=b:=rfl
theorem bE{b:ah}{Z:ak}{T:A}{l:List (ak×A)}(h:b Z=a T)(w:nh l b=b):nh ((Z,T)::l) b=b:=by
 show(nh _ b).c _ _=b;rw[w];exact lA h
theorem jL{b:ah}{s0:ah->Prop}{l:List (ak×A)}(h:nh l b=b)(w:∀b,s0 (nh l b)):s0 b:=h▸w b
@[simp]theorem zw{y:ak}:(b.c Z T) y=fP (hX y Z) (a T) (b y):=rfl
@[simp]theorem Rq{y Z:Nat}:hX y Z=2^y>>>Z:=rfl
@[simp]theorem Ys{c:Type}{S p:c}:fP 1 S p=S:=rfl
@[simp]theorem Yt{c:Type}{S p:c}:fP 0 S p=p:=rfl
@[simp]theorem Yu{c:Type}{n:Nat}{S p:c}:fP (n+2) S p=p:=rfl
@[simp]theorem Yv{b:ah}{Z y:ak}{T:A}{l:List (ak×A)}:nh ((Z,T)::l) b y=fP (hX y Z) (a T) (nh l b y):=rfl
@[simp]theorem Gm{w}:fU w (.b (.b,b) C)=w b C:=rfl
@[simp]theorem Yw{w}:fU w (.b (.c T,b) C)=.b (.c T,b) C:=rfl
@[simp]theorem Yx{w}:fU w (.b (.d,b) C)=.b (.d,b) C:=rfl
@[simp]theorem Yy{w}:fU w (.g C)=.g C:=rfl
@[simp]theorem Yz:ze b .m C=.b (.b,b) C:=rfl
@[simp]theorem YA{i}:ze b (.b i) C=.b (.b,b) C:=rfl
@[simp]theorem YB{c:Type}{S p:c}:oQ S p af=S:=rfl
@[simp]theorem YC{c:Type}{S p:c}:oQ S p av=p:=rfl
@[simp]theorem Rr{c s:Type}{S:c}{w:c->au s}:fb w (a S)=w S:=rfl
@[simp]theorem YD:aq.leave (.b (.c T,b) C)=.b T C:=rfl
@[simp]theorem YE:aq.leave (.b (.b,b) C)=.b .m C:=rfl
@[simp]theorem YF:aq.leave (.g C)=.g C:=rfl
@[simp high]theorem YG{c:Type}{n:Nat}{S:c}{l:List c}:Jt (n+1) (S::l)=Jt n l:=rfl
@[simp high]theorem YH{c:Type}{l:List c}:Jt 0 l=l:=rfl
@[simp high]theorem YI{c:Type}{n:Nat}{S:c}{l:List c}:Ju (n+1) (S::l)=S::Ju n l:=rfl
@[simp high]theorem YJ{c:Type}{l:List c}:Ju 0 l=[]:=rfl
@[simp high]theorem YK{c s:Type}{f:c->s}{S:c}{l:List c}:mB f (S::l)=f S::mB f l:=rfl
@[simp high]theorem YL{c s:Type}{f:c->s}:mB f []=[]:=rfl
@[simp]theorem YM:fD [] [] b=a b:=rfl
@[simp]theorem YN{y0:List ak}{X:List A}:fD (Z::y0) (T::X) b=fD y0 X (b.c Z T):=rfl
@[simp]theorem YO:aO c [] b C=.b (.b,b) C:=rfl
@[simp]theorem sN:aO c (H::k) b C=fU (aO c k) (bb c H b C):=rfl
@[simp]theorem YP:bb c (.m e) b C=(ag c e b C).e (ze b):=rfl
@[simp]theorem Gn:bb c (.d Z e) b C=(ag c e b C).e (FR b Z):=rfl
set_option smartUnfolding false in
@[simp]theorem YQ{y0}:bb c (.q y0 e) b C=(ag c e b C).e (FS b y0):=rfl
@[simp]theorem YR{S p}:bb c (.c e S p) b C=(bJ c e b C).e (zh c S p b):=rfl
@[simp]theorem YS:bb c (.b e) b C=(ag c e b C).e (FT b):=rfl
@[simp]theorem YT:bb c .L b C=.b (.c .m,b) C:=rfl
@[simp]theorem YU:bb c .n b C=.g C:=rfl
@[simp]theorem YV:bb c .E b C=.b (.d,b) C:=rfl
@[simp]theorem YW:bb c .H b C=.b (.b,b) C:=rfl
@[simp]theorem Go:ag c (.c T) b C=.b T C:=rfl
@[simp]theorem YX{i}:ag c (.Q i) b C=.b (.b (-i)) C:=rfl
set_option smartUnfolding false in
@[simp]theorem Rs:ag c (.b Z) b C=fb (λT=>.b T C) (b Z):=rfl
@[simp]theorem YY:ag c (.h Z) b C=.b (.g Z) C:=rfl
@[simp]theorem YZ{i}:ag c (.C Z i) b C=.b (.b i) C:=rfl
@[simp]theorem Za{s}:ag c (.m e s) b C=(ag c e b C).e (FU c s b):=rfl
@[simp]theorem Rt{f}:ag c (.q f e) b C=(ag c e b C).e (FV f):=rfl
set_option smartUnfolding false in
@[simp]theorem Zb:ag c (.d e f) b C=(ag c e b C).e (FW c f b):=rfl
@[simp]theorem Rv{o}:ag c (.r o e f) b C=(ag c e b C).e (FX c o f b):=rfl
set_option smartUnfolding false in
@[simp]theorem Zc{o}:ag c (.g o e f) b C=(ag c e b C).e (FY c o f b):=rfl
@[simp]theorem Zd:ag c (.E e) b C=(ag c e b C).e Gh:=rfl
set_option smartUnfolding false in
@[simp]theorem Ze:ag c (.H e) b C=(ag c e b C).e FZ:=rfl
set_option smartUnfolding false in
@[simp]theorem Zf{I}:ag c (.u I e f) b C=(bJ c I b C).e (zm c e f b):=rfl
@[simp]theorem Zg{s}:ag c (.k s) b C=(bH c s b C).e Ga:=rfl
@[simp]theorem Zh{s}:ag c (.M s) b C=(bH c s b C).e Gb:=rfl
@[simp]theorem Zi:ag c .z b C=.b (.d C.b) (C.e (.c [])):=rfl
@[simp]theorem Zj{s}:ag c (.w s) b C=gC c s b C:=rfl
@[simp]theorem Zk{s}:ag c (.F s) b C=gD c s b C:=rfl
@[simp]theorem Zl:bH c [] b C=.b [] C:=rfl
@[simp]theorem Zm{s}:bH c (e::s) b C=(ag c e b C).e (Gc c s b):=rfl
@[simp]theorem Zn:gj c ae b C=.b .m C:=rfl
@[simp]theorem Zo:gj c (a e) b C=ag c e b C:=rfl
def zx(C:j)(T:A)(Z y:Option (Option Int)):au A:=match Z,y with
 |some Z,a y=>(match fx C T Z y with|some r=>.b r C|none=>.d)
 |_,_=>.d
def zy(T S p:A)(C:j):au A:=zx C T (jD S) (jD p)
def zz(c:v)(p:Option ar)(b:ah)(T S:A)(C:j):au A:=(gj c p b C).e (zy T S)
def Gp(c:v)(S p:Option ar)(b:ah)(T:A)(C:j):au A:=(gj c S b C).e (zz c p b T)
set_option smartUnfolding false in
@[simp]theorem Zp{T:A}{C:j}{Z y:Option Int}:zx C T (a Z) (a y)=fb (λr=>.b r C) (fx C T Z y):=rfl
@[simp]theorem Zq{T S p:A}{C:j}:zy T S p C=zx C T (jD S) (jD p):=rfl
@[simp]theorem Zr{c:v}{p:Option ar}{b:ah}{T S:A}{C:j}:zz c p b T S C=(gj c p b C).e (zy T S):=rfl
@[simp]theorem Zs{c:v}{S p:Option ar}{b:ah}{T:A}{C:j}:Gp c S p b T C=(gj c S b C).e (zz c p b T):=rfl
set_option smartUnfolding false in
theorem iV{S p}:ag c (.G e S p) b C=(ag c e b C).e (Gp c S p b):=rfl
@[simp]theorem Zt{S}:ag c (.n e S) b C=(ag c e b C).e (Gk S):=rfl
theorem kN{c:Type}{I S:ak}{r:Nat}{l:List (am×A)}{w:A->au c}(w0:C.c r=a (.b l))(v0:bB I S=af)(l0:aX l (an S).cps.toList=a T):eW C S (.h I r) w=w T:=by
 unfold eW;simp only[v0,w0,l0,if_true]
@[simp]theorem Zu:bJ c (.H e) b C=(bJ c e b C).e Gd:=rfl
@[simp]theorem Zv{s}:bJ c (.w s) b C=di c s b C:=rfl
@[simp]theorem Zw{s}:bJ c (.F s) b C=ic c s b C:=rfl
set_option smartUnfolding false in
@[simp]theorem Zx{o}:bJ c (.g o e f) b C=(ag c e b C).e (Ge c o f b):=rfl
@[simp]theorem Zy:bJ c (.E e) b C=(ag c e b C).e Gi:=rfl
set_option smartUnfolding false in
@[simp]theorem Zz:bJ c (.L e) b C=(ag c e b C).e Gj:=rfl
set_option smartUnfolding false in
@[simp]theorem ZA:bJ c (.b Z) b C=fb (λT=>fb (λp=>.b p C) (cy C T)) (b Z):=rfl
set_option smartUnfolding false in
@[simp]theorem ZB{s}:bJ c (.m e s) b C=(ag c e b C).e (Gf c s b):=rfl
set_option smartUnfolding false in
@[simp]theorem ZC{f}:bJ c (.q f e) b C=(ag c e b C).e (Gg f):=rfl
set_option smartUnfolding false in
@[simp]theorem vl{S}:bJ c (.n e S) b C=(ag c e b C).e (zu S):=rfl
@[simp]theorem ZD:di c [] b C=.b af C:=rfl
@[simp]theorem ZE{s}:di c (e::s) b C=(bJ c e b C).e (zr c s b):=rfl
@[simp]theorem ZF:ic c [] b C=.b av C:=rfl
@[simp]theorem ZG{s}:ic c (e::s) b C=(bJ c e b C).e (zt c s b):=rfl
@[simp]theorem ZH:kM .m=af:=rfl
@[simp]theorem ZI{i}:kM (.b i)=av:=rfl
@[simp]theorem ZJ{l}:kM (.e l)=av:=rfl
@[simp]theorem ZK{i B}:ew C .b (.b i) (.b B)=.b (.b (i+B)) C:=rfl
@[simp]theorem ZL{i B}:ew C .d (.b i) (.b B)=.b (.b (i-B)) C:=rfl
theorem ii{i B:Int}(f0:i.natAbs<2^60)(P:B.natAbs<2^60):ew C .c (.b i) (.b B)=.b (.b (i*B)) C:=by
 show(if _ then _ else _)=_;rw[if_pos ⟨f0,P⟩]
theorem Gq{S p:am}(h:S.length+p.length<=100000):ew C .b (.c S) (.c p)=.b (.c (S++p)) C:=by
 show(if _ then _ else _)=_;rw[if_pos h]
theorem Rw{S p:List A}(h:S.length+p.length<=100000):ew C .b (.k S) (.k p)=.b (.k (S++p)) C:=by
 show(if _ then _ else _)=_;rw[if_pos h]
theorem Rx{S:am}{n:Int}(E:-1000<=n)(N:n<=1000)(h:S.length<=100):ew C .c (.c S) (.b n)=.b (.c (cq n.toNat S).flatten) C:=by
 show(if _ then _ else _)=_;rw[if_pos ⟨E,N,h⟩]
@[simp]theorem ZM{i B}:cC C .f (.b i) (.b B)=a (ba (i<B)):=rfl
@[simp]theorem ZN{i B}:cC C .g (.b i) (.b B)=a (ba (i<=B)):=rfl
@[simp]theorem ZO{i B}:cC C .d (.b i) (.b B)=a (ba (i>B)):=rfl
@[simp]theorem ZP{i B}:cC C .i (.b i) (.b B)=a (ba (i>=B)):=rfl
@[simp]theorem ZQ{i B:Int}:cC C .b (.b i) (.b B)=a (ba (i=B)):=rfl
@[simp]theorem ZR{i B:Int}:cC C .c (.b i) (.b B)=a (!ba (i=B)):=rfl
@[simp]theorem ZS{S p:am}:cC C .b (.c S) (.c p)=a (ba (S=p)):=rfl
@[simp]theorem ZT{S p:am}:cC C .c (.c S) (.c p)=a (!ba (S=p)):=rfl
@[simp↓]theorem ZU:ba ((0:Int)=0)=af:=rfl
@[simp↓]theorem ZV:ba ((1:Int)=1)=af:=rfl
@[simp↓]theorem ZW:ba ((2:Int)=2)=af:=rfl
@[simp↓]theorem ZX:ba ((3:Int)=3)=af:=rfl
@[simp↓]theorem ZY:ba ((5:Int)=5)=af:=rfl
@[simp↓]theorem ZZ:ba ((0:Int)=5)=av:=rfl
@[simp↓]theorem j4:ba ((5:Int)=0)=av:=rfl
@[simp↓]theorem m4:ba ((0:Int)=3)=av:=rfl
@[simp↓]theorem u4:ba ((0:Int)=2)=av:=rfl
@[simp↓]theorem A4:ba ((0:Int)=1)=av:=rfl
@[simp↓]theorem B4:ba ((1:Int)=3)=av:=rfl
noncomputable def mh:am->am->Bool
 |[],[]=>af
 |Z::S,y::p=>fP (hX Z y) (mh S p) av
 |_,_=>av
@[simp]theorem C4:mh [] []=af:=rfl
@[simp]theorem D4{y:Nat}{p:am}:mh [] (y::p)=av:=rfl
@[simp]theorem E4{Z:Nat}{S:am}:mh (Z::S) []=av:=rfl
@[simp]theorem Ry{Z y:Nat}{S p:am}:mh (Z::S) (y::p)=fP (hX Z y) (mh S p) av:=rfl
theorem Gr{S p:am}:mh S p=ba (S=p):=by
 induction S generalizing p with
 |nil=>induction p using bL<;>rfl
 |cons Z S Y=>
  induction p using bL with
  |nil=>rfl
  |cons y p=>
   rw[Ry,Y,pX]
   by_cases h:Z=y
   ·rw[if_pos h];exact decide_eq_decide.mpr ⟨λe=>by rw[h,e],λe=>(List.cons.inj e).2⟩
   ·rw[if_neg h];exact(decide_eq_false λe=>h (List.cons.inj e).1).symm
@[simp↓]theorem F4{Z y:Nat}{S p:am}:ba (Z::S=y::p)=mh (Z::S) (y::p):=Gr.symm
@[simp low]theorem G4{S:am}:mh S S=af:=by rw[Gr];exact decide_eq_true rfl
@[simp]theorem H4{Z y:Nat}{p:Bool}:fP (2^Z>>>y) p av=(ba (Z=y)&&p):=by
 rw[<-Rq,pX];by_cases h:Z=y
 ·rw[if_pos h,decide_eq_true h];rfl
 ·rw[if_neg h,decide_eq_false h];rfl
@[simp]theorem I4{S p:Bool}:cC C .c (.o S) (.o p)=a (!(S==p)):=rfl
@[simp]theorem J4{S p:Bool}:cC C .b (.o S) (.o p)=a (S==p):=rfl
@[simp]theorem K4{S l}:cz C (.e (S::l)) (.b 0)=a S:=rfl
@[simp]theorem L4{S p l}:cz C (.e (S::p::l)) (.b 1)=a p:=rfl
@[simp]theorem N4{S p I l}:cz C (.e (S::p::I::l)) (.b 2)=a I:=rfl
@[simp]theorem O4{S p I d l}:cz C (.e (S::p::I::d::l)) (.b 3)=a d:=rfl
@[simp]theorem U4{S p I d e l}:cz C (.e (S::p::I::d::e::l)) (.b 4)=a e:=rfl
theorem oR{r:Nat}{l:List A}{i:Int}(w0:C.c r=a (.c l))(n0:0<=i)(E:i<2^60):cz C (.d r) (.b i)=l[i.toNat]?:=by
 show(match C.c r with
  |some (.c l)=>if 0<=i/\i<2^60 then l[i.toNat]? else ae
  |some (.d l)=>iy l i
  |_=>ae)=_
 rw[w0];exact if_pos ⟨n0,E⟩
theorem zC{l:List A}{i:Int}(n0:0<=i)(E:i<2^60):cz C (.k l) (.b i)=l[i.toNat]?:=if_pos ⟨n0,E⟩
theorem zD{l:am}{i:Int}(n0:0<=i)(E:i<2^60):cz C (.c l) (.b i)=(l[i.toNat]?).map λI=>A.c [I]:=if_pos ⟨n0,E⟩
theorem lB{r:Nat}{l:List (am×A)}{w:am}(w0:C.c r=a (.b l)):cz C (.d r) (.c w)=aX l w:=by
 show(match C.c r with|some (.b l)=>aX l w|_=>ae)=_
 rw[w0]
theorem Rz{r:Nat}{l:List (Int×A)}{w:Int}(w0:C.c r=a (.d l)):cz C (.d r) (.b w)=iy l w:=by
 show(match C.c r with
  |some (.c l)=>if 0<=w/\w<2^60 then l[w.toNat]? else ae
  |some (.d l)=>iy l w
  |_=>ae)=_
 rw[w0]
theorem iW{r:Nat}{l:List A}(w0:C.c r=a (.c l))(h:l.length<=100000):cK C .b (.d r)=.b (.b l.length) C:=by
 show(match C.c r with|some (.c l)=>if l.length<=100000 then au.b (A.b l.length) C else au.d|_=>au.d)=_
 rw[w0];exact if_pos h
theorem ij{l:List A}(h:l.length<=100000):cK C .b (.e l)=.b (.b l.length) C:=if_pos h
theorem jM{l:List A}(h:l.length<=100000):cK C .b (.k l)=.b (.b l.length) C:=if_pos h
theorem vm{l:am}(h:l.length<=100000):cK C .b (.c l)=.b (.b l.length) C:=if_pos h
end
theorem ik{c:Type}{Y:c->Prop}{S:c}{l:List c}(h:Y S)(w:∀Z∈l,Y Z):∀Z∈S::l,Y Z:=List.forall_mem_cons.mpr ⟨h,w⟩
theorem qD{c:Type}{Y:c->Prop}:∀Z∈([]:List c),Y Z:=λ_ a0=>nomatch a0
theorem ni{S:Nat}:S∉([]:List Nat):=cU
theorem cN{S p:Nat}{l:List Nat}(h:S≠p)(w:S∉l):S∉p::l:=List.not_mem_cons_of_ne_of_not_mem h w
theorem gG{S p:Nat}{l:List Nat}(h:S∉p::l):S≠p:=List.ne_of_not_mem_cons h
theorem gH{S p:Nat}{l:List Nat}(h:S∉p::l):S∉l:=List.not_mem_of_not_mem_cons h
noncomputable abbrev bi(T:Int):A:=.e [.b 0,.b T]
noncomputable abbrev bc(I:Nat):A:=.c [I]
noncomputable abbrev bt(w S y:Int)(B:A):A:=.e [.b w,.b S,.b y,B]
noncomputable def dE{c:Type}:List c->Nat->List c->List c
 |l,_,[]=>l
 |l,S,t::e0=>dE (l.set S t) (S+1) e0
theorem oU{c:Type}:∀(e0 l:List c)(S:Nat),(dE l S e0).length=l.length:=by
 intro J
 induction J with
 |nil=>
  intro _ _
  exact rfl
 |cons t e0 U=>
  intro l S
  rw[dE,U,wV]
theorem Gs{c s:Type}(f:c->s):∀(e0 l:List c)(S:Nat),dE (l.map f) S (e0.map f)=(dE l S e0).map f:=by
 intro J
 induction J with
 |nil=>
  intro _ _
  exact rfl
 |cons t e0 U=>
  intro l S
  rw[dX,dE,dE,<-U,Jv]
theorem iX{C:j}{r:Nat}{o U0:bM}:(C.d r o).d r U0=C.d r U0:=by
 unfold j.d;congr 1;funext Z;dsimp only;split<;>rfl
theorem iY{C:j}{r:Nat}{o:bM}(h:C.c r=a o):C.d r o=C:=by
 induction C;unfold j.d;congr 1;funext Z;dsimp only;split
 ·subst_vars;exact h.symm
 ·rfl
@[simp]theorem cE{C:j}{r:Nat}{o:bM}:(C.d r o).c r=a o:=if_pos rfl
theorem cf{C:j}{r Z:Nat}{o:bM}(h:Z≠r):(C.d r o).c Z=C.c Z:=if_neg h
section
variable{c:v}{b:ah}{C:j}
def iZ(b:ah)(g w T:A)(C:j):au (bA×ah):=match g,w with
 |.d r,.b w=>(match C.c r with
    |some (.c l)=>if 0<=w/\w<l.length/\l.length<=100000 then .b (.b,b) (C.d r (.c (l.set w.toNat T)))else .d
    |_=>.d)
 |.d r,.c w=>(match C.c r with
    |some (.b l)=>if l.length<=1000 then .b (.b,b) (C.d r (.b (bv l w T)))else .d
    |_=>.d)
 |_,_=>.d
def zE(b:ah)(g T w:A)(C:j):au (bA×ah):=iZ b g w T C
def zF(c:v)(b:ah)(i:ar)(T g:A)(C:j):au (bA×ah):=(ag c i b C).e (zE b g T)
def Gt(c:v)(b:ah)(o i:ar)(T:A)(C:j):au (bA×ah):=(ag c o b C).e (zF c b i T)
@[simp]theorem V4{g T w:A}:zE b g T w C=iZ b g w T C:=rfl
@[simp]theorem W4{i:ar}{T g:A}:zF c b i T g C=(ag c i b C).e (zE b g T):=rfl
@[simp]theorem X4{o i:ar}{T:A}:Gt c b o i T C=(ag c o b C).e (zF c b i T):=rfl
@[simp]theorem Y4{o i e:ar}:bb c (.l o i e) b C=(ag c e b C).e (Gt c b o i):=rfl
theorem sO{r:Nat}{l:List A}{w:Int}{T:A}(h:C.c r=a (.c l))(n0:0<=w)(E:w<l.length)(k0:l.length<=100000):iZ b (.d r) (.b w) T C=.b (.b,b) (C.d r (.c (l.set w.toNat T))):=by
 unfold iZ;simp only[h];exact if_pos ⟨n0,E,k0⟩
theorem nj{r:Nat}{l:List (am×A)}{w:am}{T:A}(h:C.c r=a (.b l))(k0:l.length<=1000):iZ b (.d r) (.c w) T C=.b (.b,b) (C.d r (.b (bv l w T))):=by
 unfold iZ;simp only[h];exact if_pos k0
end
section
variable{n:Nat}{C:j}{r:Nat}{l:List A}
theorem zG:aq (n+1) (.g 199) [.b 0] C=.b (.b 1) C:=by kernel_rfl
theorem sQ{i:Int}:aq (n+2) (.g 197) [.b 0,.b i] C=.b (.b 1) C:=by kernel_rfl
theorem sR{i:Int}:aq (n+2) (.g 197) [.b 5,.b i] C=.b (.b i) C:=by kernel_rfl
theorem vn{S I:Int}(h:C.c r=a (.c l))(k0:l.length<=100000)(E:0<=S)(N:S+I<=l.length):aq (n+1) (.g 136) [.d r,.b S,.b I] C=.b .m C:=by
 refine(bh rfl rfl).trans ?_
 simp[uw,iW h k0,fN.mpr E,fN.mpr N]
theorem Gu{S I:Int}(h:C.c r=a (.c l))(k0:l.length<=100000)(E:S<0\/S+I>l.length):aq (n+1) (.g 136) [.d r,.b S,.b I] C=.g C:=by
 refine(bh rfl rfl).trans ?_
 by_cases N:S<0
 ·simp[uw,N]
 ·simp[uw,iW h k0,N,E.resolve_left N]
theorem RA{S:Int}{T:A}{B:Int}(h:C.c r=a (.c l))(n0:0<=S)(E:S<2^60)(h0:l[S.toNat]?=a (.e [.b B,T])):aq (n+1) (.g 156) [.d r,.b S,.b B] C=.b T C:=by
 refine(bh rfl rfl).trans ?_
 simp[DK,oR h n0 E,h0]
theorem RB{S T:Int}(h:C.c r=a (.c l))(k0:l.length<=100000)(n0:0<=S)(E:S<l.length)(h0:l[S.toNat]?=a (bi T)):aq (n+2) (.g 121) [.d r,.b 0,.b S] C=.b (.b T) C:=by
 refine(bh rfl rfl).trans ?_
 simp[DL,zG,vn h k0 n0 (by exact wW ‹_›:S+1<=l.length),RA h n0 (fo (fo E (dO.mpr k0)) (by decide)) h0]
theorem RC{S T:Int}(h:C.c r=a (.c l))(k0:l.length<=100000)(n0:0<=S)(E:S<l.length):aq (n+2) (.g 178) [.d r,.b 0,.b S,.b T] C=.b .m (C.d r (.c (l.set S.toNat (bi T)))):=by
 refine(bh rfl rfl).trans ?_
 simp[yc,zG,vn h k0 n0 (by exact wW ‹_›:S+1<=l.length),sO h n0 E k0]
theorem RD{S T:Int}(h:C.c r=a (.c l))(k0:l.length<=100000)(E:S<0\/S+1>l.length):aq (n+2) (.g 178) [.d r,.b 0,.b S,.b T] C=.g C:=by
 refine(bh rfl rfl).trans ?_
 simp[yc,zG,Gu h k0 E]
end
theorem RE{c:v}:∀(S p:List aT)(b:ah)(C:j),aO c (S++p) b C=fU (aO c p) (aO c S b C):=by
 intro J
 induction J with
 |nil=>
  intro _ _ _
  exact rfl
 |cons H S U=>
  intro p b C
  show fU (aO c (S++p)) (bb c H b C)=fU (aO c p) (fU (aO c S) (bb c H b C))
  cases bb c H b C with
  |b q O=>obtain⟨f,l⟩:=q;induction f<;>first|rfl|exact U p l O
  |g=>rfl
  |d=>rfl
theorem RF{c:v}(w:Nat){p:List aT}{b:ah}{C:j}:aO c p b C=fU (aO c (p.drop w)) (aO c (p.take w) b C):=by
 rw[<-RE,List.take_append_drop]
theorem fV{c:v}(w:Nat){p:List aT}{b o0:ah}{C O:j}(h:aO c (p.take w) b C=.b (.b,o0) O):aO c p b C=aO c (p.drop w) o0 O:=by
 rw[RF w,h];rfl
noncomputable def oV(r:au (bA×ah)):Prop:=(∃T l C,r=.b (.c T,l) C)\/∃C,r=.g C
noncomputable def fG(r:au (bA×ah))(b:ah)(C:j):Prop:=r=.b (.b,b) C\/r=.b (.d,b) C
noncomputable abbrev fc:ah:=λ_=>ae
section
variable{c:v}{b:ah}{C:j}{I0:A->ah->j->au (bA×ah)}
noncomputable def sS(Z:au (bA×ah))(w:ah->j->au (bA×ah)):au (bA×ah):=match Z with
 |.b (.c r,o0) O=>.b (.c r,o0) O
 |.b (_,o0) O=>w o0 O
 |.g O=>.g O
 |.d=>.d
theorem fW{T:A}{X:List A}:ch I0 (T::X) b C=sS (I0 T b C) (ch I0 X):=rfl
@[simp]theorem RG:ch I0 [] b C=.b (.b,b) C:=rfl
@[simp]theorem Z4{w:ah->j->au (bA×ah)}:sS (.b (.b,b) C) w=w b C:=rfl
@[simp]theorem f5{w:ah->j->au (bA×ah)}:sS (.b (.d,b) C) w=w b C:=rfl
@[simp]theorem i5{w:ah->j->au (bA×ah)}{T:A}:sS (.b (.c T,b) C) w=.b (.c T,b) C:=rfl
@[simp]theorem j5{w:ah->j->au (bA×ah)}:sS (.g C) w=.g C:=rfl
theorem zH{T:A}{X:List A}{o0:ah}{O:j}(h:fG (I0 T b C) o0 O):ch I0 (T::X) b C=ch I0 X o0 O:=by
 rw[fW];rcases h with h|h<;>rw[h]<;>rfl
theorem Gv{T:A}{X:List A}(h:oV (I0 T b C)):ch I0 (T::X) b C=I0 T b C:=by
 rw[fW];rcases h with⟨_,_,_,h⟩|⟨_,h⟩<;>rw[h]<;>rfl
theorem zI(V0:Nat->ah->j->Prop):∀(l:List A)(w:Nat)(b:ah)(C:j),(∀B T b C,l[B]?=a T->V0 (w+B) b C->oV (I0 T b C)\/∃o0 O,fG (I0 T b C) o0 O/\V0 (w+B+1) o0 O)->V0 w b C->
 (∃o0 O,ch I0 l b C=.b (.b,o0) O/\V0 (w+l.length) o0 O)\/∃B T o0 O,l[B]?=a T/\V0 (w+B) o0 O/\oV (I0 T o0 O)/\ch I0 l b C=I0 T o0 O:=by
 intro J
 induction J with
 |nil=>
  intro w b C _ h
  exact aL (dK b C rfl h)
 |cons T X U=>
  intro w b C l0 h
  rcases l0 0 T b C rfl h with e|⟨o0,O,r0,u⟩
  ·exact aI (iN 0 T b C rfl h e (Gv e))
  ·rw[zH r0]
   have:=U (w+1) o0 O (λB T b C P x1=>by have:=l0 (B+1) T b C P;rw[Ay w 1 B]at x1⊢;exact this x1) u
   rcases this with⟨l1,s1,S,p⟩|⟨B,d0,l1,s1,S,p,I⟩
   ·exact aL (dK l1 s1 S (by rw[fi,wt X.length,<-sY];exact p))
   ·exact aI (rC (B+1) d0 l1 s1 S (by rw[wt B,<-sY];exact p) I)
noncomputable abbrev dj(n:Nat):List A:=(ph n).map λ(i:Nat)=>.b i
theorem Gw{n B:Nat}{T:A}(h:(dj n)[B]?=a T):B<n/\T=.b B:=by
 rw[ft]at h
 by_cases P:B<n
 ·rw[Wr P]at h;cases h;exact⟨P,rfl⟩
 ·rw[Xe (by rw[IK];exact AC P)]at h;exact bD h
theorem zJ(n:Nat)(V0:Nat->ah->j->Prop)(h:V0 0 b C)(l0:∀B b C,B<n->V0 B b C->oV (I0 (.b B) b C)\/∃o0 O,fG (I0 (.b B) b C) o0 O/\V0 (B+1) o0 O):
 (∃o0 O,ch I0 (dj n) b C=.b (.b,o0) O/\V0 n o0 O)\/∃B o0 O,B<n/\V0 B o0 O/\oV (I0 (.b B) o0 O)/\ch I0 (dj n) b C=I0 (.b B) o0 O:=by
 have:=zI (I0:=I0) V0 (dj n) 0 b C (λB T b C P x1=>by
  obtain⟨E,rfl⟩:=Gw P
  rw[oh]at x1⊢
  exact l0 B b C E x1) h
 rcases this with⟨l1,s1,S,p⟩|⟨B,T,l1,s1,S,p,I⟩
 ·refine aL (dK l1 s1 S ?_)
  rw[bK,IK,oh]at p;exact p
 ·obtain⟨E,rfl⟩:=Gw S
  rw[oh]at p
  exact aI (jh B l1 s1 E p I)
def bf(c:v)(t:gO)(p:List aT):A->ah->j->au (bA×ah):=λT b C=>fb (λo0=>aO c p o0 C) (kC C t T b)
set_option smartUnfolding false in
@[simp]theorem RH{t:gO}{w:ku}{e:ar}{p:List aT}:bb c (.k t w e p) b C=(ag c e b C).e λT C=>fb (λV=>hZ C V.2 (ch (bf c t p) V.1 b)) (eL C w T):=rfl
theorem RI(s0:au (bA×ah)->Prop)(n:Nat)(V0:Nat->ah->j->Prop)(h:V0 0 b C)(l0:∀(B:Nat)(i:Int)b C,i=B->B<n->V0 B b C->(oV (I0 (.b i) b C)/\s0 (I0 (.b i) b C))\/∃o0 O,fG (I0 (.b i) b C) o0 O/\V0 (B+1) o0 O)(B0:∀o0 O,V0 n o0 O->s0 (.b (.b,o0) O)):s0 (ch I0 (dj n) b C):=by
 rcases zJ n V0 h (λB b C P x1=>(l0 B _ b C rfl P x1).imp And.left id)with⟨l1,s1,S,p⟩|⟨B,l1,s1,P,x1,e,S⟩
 ·simp only[S];exact B0 _ _ p
 ·simp only[S]
  rcases l0 B _ l1 s1 rfl P x1 with⟨_,Z⟩|⟨_,_,r0,_⟩
  ·exact Z
  ·rcases r0 with r0|r0<;>simp only[r0]at e<;>rcases e with⟨_,_,_,e⟩|⟨_,e⟩<;>cases e
theorem qE(s0:au (bA×ah)->Prop)(n:Nat)(V0:Nat->ah->j->Prop)(h:V0 0 b C)(l0:∀(B:Nat)(i:Int)b C,i=B->B<n->V0 B b C->∃o0 O,fG (I0 (.b i) b C) o0 O/\V0 (B+1) o0 O)(B0:∀o0 O,V0 n o0 O->s0 (.b (.b,o0) O)):s0 (ch I0 (dj n) b C):=RI s0 n V0 h (λB i b C f0 P x1=>aI (l0 B i b C f0 P x1)) B0
theorem eN{i:Int}(n0:-100000<=i)(E:i<=100000):eL C .c (.b i)=a (dj i.toNat,ae):=if_pos ⟨n0,E⟩
@[simp]theorem s5{c:Type}{v:j->au c}:hZ C ae v=v C:=rfl
@[simp]theorem u5{Z:ak}{T:A}:kC C (.b Z) T b=a (b.c Z T):=rfl
@[simp]theorem w5{y0:List ak}{l:List A}:kC C (.c y0) (.e l) b=fD y0 l b:=rfl
@[simp]theorem z5{l:List A}:eL C .b (.k l)=a (l,ae):=rfl
@[simp]theorem A5{l:List A}:eL C .b (.e l)=a (l,ae):=rfl
@[simp]theorem B5{l:List A}:ot C (.e l)=a l:=rfl
end
section
variable{n:Nat}{C:j}{r:Nat}{l:List A}
theorem Gx{l:List A}{S B:Nat}{t:List A}{Z:A}(h:t[B]?=a Z):dE l S (t.take (B+1))=(dE l S (t.take B)).set (S+B) Z:=by
 induction t generalizing l S B with
 |nil=>exact bD h
 |cons y t Y=>
  induction B using kX with
  |zero=>(replace h:=bn h;subst h);rfl
  |succ B=>
   have:=Y (l:=l.set S y) (S:=S+1) (B:=B) h
   dsimp only[IA,dE]
   simp only[this,sY,wt 1 B]
theorem RJ{S:Int}{t:am}(h:C.c r=a (.c l))(k0:l.length<=1000)(n0:0<=S)(E:S+t.length<=l.length):aq (n+2) (.g 179) [.d r,.b S,.c t] C=.b .m (C.d r (.c (dE l S.toNat (t.map bc)))):=by
 refine(bh rfl rfl).trans ?_
 have F0:t.length<=1000:=by exact dO.mp (bQ (bQ (Int.le_add_of_nonneg_left n0) E) (dO.mpr k0))
 simp[yd,vm (by exact az F0 (by decide):t.length<=100000),vn h (az k0 (by decide)) n0 E,eN (i:=t.length) (ip _) (bQ (dO.mpr F0) (by decide))]
 refine qE (λZ=>aq.leave (fU _ Z)=_) t.length (λB b H=>H=C.d r (.c (dE l S.toNat ((t.map bc).take B)))/\b 39=a (.d r)/\b 30=a (.b S)/\b 189=a (.c t))
  ⟨(iY h).symm,by rfl,by rfl,by rfl⟩ ?_ ?_
 ·rintro B i b H f0 P p;refine ol p λX N h3 h4=>?_;clear p;obtain rfl:=X
  have e1:(t.map bc)[B]?=a (.c [t[B]]):=by simp[P]
  have e2:t[B]?=a t[B]:=by simp[P]
  refine(gN (b.c 107 (.b i)) _ (aL ?_) rfl (by exact N) (by exact h3) (by exact h4))
  have e3:(S+i).toNat=S.toNat+B:=by exact vk ‹_› ‹_›
  have e4:i.toNat=B:=by exact ng ‹_›
  rw[Gx e1]
  (apply jL (bE N<|bE h3<|bE h4 jK);intro b;simp[bf,zD (by exact lz ‹_›:0<=i) (by exact fo (fo (fg (Jw f0) (iI.mpr P)) (dO.mpr F0)) (by decide):i<2^60),e4,e2,sO (w:=S+i) (cE (C:=C) (r:=r) (o:=.c (dE l S.toNat ((t.map bc).take B)))) (by lia) (by rw[oU];exact BG ‹_› ‹_› ‹_›) (by rw[oU];exact az k0 (by decide)),iX,e3])
 ·rintro b H ⟨rfl,_⟩
  simp[jS]
theorem RK{S:Int}{t:am}(h:C.c r=a (.c l))(k0:l.length<=1000)(F0:t.length<=1000)(E:S<0\/S+t.length>l.length):aq (n+2) (.g 179) [.d r,.b S,.c t] C=.g C:=by
 refine(bh rfl rfl).trans ?_
 simp[yd,vm (by exact az F0 (by decide):t.length<=100000),Gu h (az k0 (by decide)) E]
end
abbrev cL(Z:ak):am:=(an Z).cps.toList
section
variable{c:v}{b o0:ah}{C O:j}{T d0:A}{e f:ar}{Z:ak}
def qF(C:j)(S:ak)(T:A)(w:ak->au A):au A:=match T with
 |.h I r=>(match or I S,C.c r with
    |some f,a (.b l)=>if(aX l (an S).cps.toList).isSome then .d else w f
    |_,_=>.d)
 |_=>.d
noncomputable def zK(c:v)(T:A)(f:ak)(X:List A)(C:j):au A:=c (.g f) (T::X) C
def zL(c:v)(s:List ar)(b:ah)(T:A)(C:j)(f:ak):au A:=(bH c s b C).e (zK c T f)
def Gy(c:v)(S:ak)(s:List ar)(b:ah)(T:A)(C:j):au A:=qF C S T (zL c s b T C)
@[simp]theorem C5{f:ak}{X:List A}:zK c T f X C=c (.g f) (T::X) C:=rfl
@[simp]theorem D5{s:List ar}{f:ak}:zL c s b T C f=(bH c s b C).e (zK c T f):=rfl
@[simp]theorem E5{S:ak}{s:List ar}:Gy c S s b T C=qF C S T (zL c s b T C):=rfl
set_option smartUnfolding false in
@[simp]theorem F5{S:ak}{s:List ar}:ag c (.N e S s) b C=(ag c e b C).e (Gy c S s b):=rfl
theorem Gz{I S f:ak}{r:Nat}{l:List (am×A)}{w:ak->au A}(w0:C.c r=a (.b l))(L:or I S=a f)(l0:aX l (an S).cps.toList=ae):qF C S (.h I r) w=w f:=by
 unfold qF;simp only[L,w0,l0];rfl
noncomputable def RL(p:Bool)(r:au A):au A:=if p then r else .d
def zM(a0:hY)(T:A)(X:List A)(C:j):au A:=ey C a0 T X
def zN(c:v)(a0:hY)(s:List ar)(b:ah)(T:A)(C:j)(p:Bool):au A:=RL p ((bH c s b C).e (zM a0 T))
def GA(c:v)(a0:hY)(s:List ar)(b:ah)(T:A)(C:j):au A:=zN c a0 s b T C (ln C a0 T)
@[simp]theorem G5{a0:hY}{X:List A}:zM a0 T X C=ey C a0 T X:=rfl
@[simp]theorem H5{a0:hY}{s:List ar}:zN c a0 s b T C af=(bH c s b C).e (zM a0 T):=rfl
@[simp]theorem I5{a0:hY}{s:List ar}:GA c a0 s b T C=zN c a0 s b T C (ln C a0 T):=rfl
@[simp]theorem J5{a0:hY}{s:List ar}:ag c (.y e a0 s) b C=(ag c e b C).e (GA c a0 s b):=rfl
@[simp]theorem K5{t:am}:ln C .h (.c t)=af:=rfl
@[simp]theorem L5{t:am}:ln C .e (.c t)=af:=rfl
theorem nv{r:Nat}{l:List A}(w0:C.c r=a (.c l))(a0:hY):ln C a0 (.d r)=(match a0 with|.b=>af|.c=>af|.f=>af|.g=>af|_=>av):=by
 show(match C.c r with
  |some (.b _)=>(match a0 with|.d=>af|_=>av)
  |some (.c _)=>(match a0 with|.b=>af|.c=>af|.f=>af|.g=>af|_=>av)
  |_=>av)=_
 rw[w0]
theorem vo{r:Nat}{l:List (am×A)}(w0:C.c r=a (.b l)):ln C .d (.d r)=af:=by
 show(match C.c r with
  |some (.b _)=>af
  |some (.c _)=>av
  |_=>av)=_
 rw[w0]
theorem qG{r:Nat}{l:List A}(w0:C.c r=a (.c l))(h:l.length<=100000):ey C .b (.d r) [T]=.b .m (C.d r (.c (l++[T]))):=by
 show(match C.c r with|some (.c l)=>if l.length<=100000 then au.b A.m (C.d r (.c (l++[T])))else au.d|_=>au.d)=_
 rw[w0];exact if_pos h
theorem RM{r:Nat}{l w:List A}(w0:C.c r=a (.c l))(h:l.length+w.length<=100000):ey C .g (.d r) [.k w]=.b .m (C.d r (.c (l++w))):=by
 show(match C.c r with|some (.c l)=>if l.length+w.length<=100000 then au.b A.m (C.d r (.c (l++w)))else au.d|_=>au.d)=_
 rw[w0];exact if_pos h
theorem RN{r:Nat}{l:List A}(w0:C.c r=a (.c (T::l)))(h:l.length+1<=100000):ey C .f (.d r) [.b 0]=.b T (C.d r (.c l)):=by
 show(match C.c r with|some (.c l)=>(match l with|T::G0=>if l.length<=100000/\(0:Int)=0 then au.b T (C.d r (.c G0))else au.d|[]=>au.d)|_=>au.d)=_
 rw[w0];exact if_pos ⟨h,rfl⟩
theorem vp{r:Nat}{l:List (am×A)}{w:am}(w0:C.c r=a (.b l)):ey C .d (.d r) [.c w]=.b ((aX l w).getD .m) C:=by
 show(match C.c r with|some (.b l)=>au.b ((aX l w).getD .m) C|_=>au.d)=_
 rw[w0]
def ke(b:ah)(S:ak)(T g:A)(C:j):au (bA×ah):=match g with
 |.h I r=>if bB I S then(match C.c r with
    |some (.b l)=>if l.length<=100 then .b (.b,b) (C.d r (.b (bv l (an S).cps.toList T)))else .d
    |_=>.d)else .d
 |_=>.d
@[simp]theorem M5{o:ar}{S:ak}:bb c (.g o S e) b C=(ag c e b C).e λT C=>(ag c o b C).e λg C=>ke b S T g C:=rfl
theorem nw{I S:ak}{r:Nat}{l:List (am×A)}(w0:C.c r=a (.b l))(k0:l.length<=100)(v0:bB I S=af):ke b S T (.h I r) C=.b (.b,b) (C.d r (.b (bv l (an S).cps.toList T))):=by
 unfold ke;simp only[v0,w0,if_pos k0,if_true]
def lC(c:v)(I:ak)(X:List A)(C:j):au A:=match ky I with
 |some f=>(c (.g f) (.h I C.b::X) (C.e (.b []))).e λr O=>(match r with|.m=>.b (.h I C.b) O|_=>.d)
 |none=>.d
@[simp]theorem N5{I:ak}{s:List ar}:ag c (.O I s) b C=(bH c s b C).e λX C=>lC c I X C:=rfl
theorem GB{I f:ak}{X:List A}(f0:ky I=a f)(h:c (.g f) (.h I C.b::X) (C.e (.b []))=.b .m O):lC c I X C=.b (.h I C.b) O:=by
 unfold lC;rw[f0];dsimp only;rw[h];rfl
def zO(Z:ak)(o:gh)(i:Int)(b:ah)(T:A)(C:j):au (bA×ah):=match T with
 |.b _=>(ew C o (.b i) T).e λr C=>.b (.b,b.c Z r) C
 |_=>.d
def GC(c:v)(Z:ak)(o:gh)(e:ar)(b:ah)(C:j)(d0:Option A):au (bA×ah):=match d0 with
 |some (.b i)=>(ag c e b C).e (zO Z o i b)
 |_=>.d
set_option smartUnfolding false in
@[simp]theorem O5{o:gh}:bb c (.u Z o e) b C=GC c Z o e b C (b Z):=rfl
@[simp]theorem U5{o:gh}{i:Int}:GC c Z o e b C (a (.b i))=(ag c e b C).e (zO Z o i b):=rfl
@[simp]theorem V5{o:gh}{i B:Int}:zO Z o i b (.b B) C=(ew C o (.b i) (.b B)).e λr C=>.b (.b,b.c Z r) C:=rfl
@[simp]theorem W5{c:Type}{l:List c}:eK l ae ae=l:=rfl
@[simp]theorem X5:jD .m=a ae:=rfl
@[simp]theorem Y5{i:Int}:jD (.b i)=a (a i):=rfl
theorem ny{w:Int}(n0:0<=w)(E:w<2^60):fR (a w)=af:=by show(ba (0<=w)&&ba (w<2^60))=af;simp only[decide_eq_true n0,decide_eq_true E];rfl
theorem GD{t:am}{S p:Option Int}(v0:fR S=af)(W:fR p=af)(h:t.length<=100000):fx C (.c t) S p=a (.c (eK t S p)):=by
 unfold fx;rw[v0,W];exact if_pos h
theorem GF{t:List A}{S p:Option Int}(v0:fR S=af)(W:fR p=af)(h:t.length<=100000):fx C (.k t) S p=a (.k (eK t S p)):=by
 unfold fx;rw[v0,W];exact if_pos h
theorem vq{r:Nat}{t:List A}{S p:Option Int}(w0:C.c r=a (.c t))(v0:fR S=af)(W:fR p=af)(h:t.length<=100000):fx C (.d r) S p=a (.k (eK t S p)):=by
 unfold fx;rw[v0,W];dsimp only[Bool.and_self,if_true];rw[w0];exact if_pos h
theorem qH:fR ae=af:=rfl
end
noncomputable def dJ(t:am)(w:Int):am:=t.take w.toNat++cq (w.toNat-t.length) 32
theorem GG{S p:Nat}:min S p+(S-p)=S:=(Nat.le_total S p).elim (λh=>by rw[my h,VX h];rfl) λh=>by rw[wG h,Bx h]
theorem vr{t:am}{w:Int}:(dJ t w).length=w.toNat:=by unfold dJ;simp;exact GG
section
variable{n:Nat}{C:j}{r:Nat}{l:List A}
theorem GH{t:am}{w:Int}(n0:0<=w)(E:w<=100)(N:t.length<=100):aq (n+1) (.g 146) [.c t,.b w] C=.b (.c (dJ t w)) C:=by
 refine(bh rfl rfl).trans ?_
 have a5:(w-(t.length:Int)).toNat=w.toNat-t.length:=by obtain⟨q,rfl⟩:=AA n0;exact Int.toNat_sub q t.length
 have r:w.toNat<=100:=nT.mpr E
 (delta DN;simp[iV,GD qH (ny n0 (by exact fg ‹_› (by decide):w<2^60)) (by exact az N (by decide):t.length<=100000),vm (by exact az N (by decide):t.length<=100000),Rx (S:=[32]) (n:=w-t.length) (by lia) (by lia) (by decide),eK,a5])
 rw[Gq (by simp;exact az (bw GG) (az r (by decide)))]
 simp[dJ]
theorem GI{x:List Nat}{w:Nat}:(x.map bc).take w=(x.take w).map bc:=ry.symm
theorem RO{x:List Nat}{w:Nat}:(x.map bc).drop w=(x.drop w).map bc:=Xf.symm
theorem GJ:∀x:List Nat,kA (x.map bc)=a (x.map λI=>[I])
 |[]=>rfl
 |I::x=>by show(kA (x.map bc)).map _=_;rw[GJ x];rfl
theorem GK:∀x:List Nat,(x.map λI=>[I]).flatten=x
 |[]=>rfl
 |I::x=>by simp only[dX,AH,GK x];rfl
theorem GL{x:List Nat}(h:∀I∈x,I<128)(w:Nat):A.u w (x.map bc)=af:=by
 induction x with
 |nil=>rfl
 |cons I x Y=>
  show(([I]:List Nat).all (λI=>ba (I<128))&&A.u w (x.map bc))=af
  rw[Y λZ b0=>h Z (ge _ b0)]
  simp[h I cg]
theorem RP(x:List Nat):(x.map bc).any (λy=>A.w y .m)=av:=by
 induction x with
 |nil=>rfl
 |cons I x Y=>simp only[dX,wz,Y];rfl
theorem RQ{S w:Int}{x:List Nat}(h:C.c r=a (.c (x.map bc)))(k0:x.length<=1000)(e0:∀I∈x,I<128)(n0:0<=S)(q0:0<=w)(E:S+w<=x.length):aq (n+2) (.g 122) [.d r,.b S,.b w] C=.b (.c ((x.take (S+w).toNat).drop S.toNat)) C:=by
 refine(bh rfl rfl).trans ?_
 have Y:(x.map bc).length<=100000:=by rw[bK];exact az k0 (by decide)
 have e1:eK (x.map bc) (a S) (a (S+w))=((x.take (S+w).toNat).drop S.toNat).map bc:=by
  unfold eK;dsimp only;rw[GI,RO]
 have L:∀I∈(x.take (S+w).toNat).drop S.toNat,I<128:=λI b0=>e0 I (wX (Xg b0))
 have Y0:((x.take (S+w).toNat).drop S.toNat).length<=1000:=by rw[pE,jx];exact az (qW _ _) (az (tj _ _) k0)
 have e2:fx C (.d r) (a S) (a (S+w))=a (.k (((x.take (S+w).toNat).drop S.toNat).map bc)):=by rw[vq h (ny n0 (fg (bQ (bQ (Xh q0) E) (dO.mpr k0)) (by decide))) (ny (pO ‹_› ‹_›) (fg (bQ E (dO.mpr k0)) (by decide))) Y,e1]
 generalize(x.take (S+w).toNat).drop S.toNat=i0 at e2 L Y0
 have e3:cC C .e .m (.k (i0.map bc))=a av:=by
  show(if A.u 4 (i0.map bc)&&A.t 4 .m then a ((i0.map bc).any λy=>A.w y .m)else ae)=_
  rw[GL L,RP];rfl
 have e4:ey C .h (.c []) [.k (i0.map bc)]=.b (.c i0) C:=by
  show(if(i0.map bc).length<=1000/\([]:am)=[]then(match kA (i0.map bc)with|some I0=>if I0.flatten.length<=100000 then au.b (A.c I0.flatten) C else .d|none=>.d)else .d)=_
  rw[if_pos ⟨by rw[bK];exact Y0,rfl⟩,GJ]
  dsimp only
  rw[GK,if_pos (az Y0 (by decide))]
 (delta DM;simp[iV,vn h Y n0 (by rw[bK];exact E),e2,e3,e4])
end
theorem zP{w:am}{T:A}:∀{l:List (am×A)},aX (bv l w T) w=a T:=by
 intro l
 unfold bv
 split
 ·rename_i h
  unfold aX
  induction l with
  |nil=>exact gR h
  |cons V l Y=>
   rw[dX,td]
   by_cases p0:V.1=w
   ·simp[p0]
   ·have:l.any (λV=>ba (V.1=w))=af:=by simpa [p0]using h
    have:=Y this
    simp only[if_neg p0,decide_eq_false p0];exact this
 ·rename_i h
  unfold aX
  have:l.find? (λV=>ba (V.1=w))=ae:=List.find?_eq_none.mpr λV p0 q0=>h (mv.mpr (aw V p0 q0))
  rw[Xi,this];simp
theorem GM{w Q:am}{T:A}(q0:Q≠w):∀{l:List (am×A)},aX (bv l w T) Q=aX l Q:=by
 intro l
 unfold bv
 split
 ·rename_i T0
  clear T0
  unfold aX
  induction l with
  |nil=>rfl
  |cons V l Y=>
   rw[dX,td,td]
   by_cases p0:V.1=w
   ·have E:¬V.1=Q:=λe=>q0 (e▸p0)
    have N:¬w=Q:=λe=>q0 e.symm
    simp only[if_pos p0,decide_eq_false E];exact Y
   ·by_cases N:V.1=Q
    ·simp only[if_neg p0,decide_eq_true N]
    ·simp only[if_neg p0,decide_eq_false N];exact Y
 ·unfold aX
  rw[Xi]
  cases l.find? (λV=>ba (V.1=Q))with
  |some _=>rfl
  |none=>
   have:¬w=Q:=λe=>q0 e.symm
   simp[this]
theorem GN{w:am}{T:A}{l:List (am×A)}:(bv l w T).length<=l.length+1:=by
 unfold bv;split<;>simp
theorem RR{w:am}{T d0:A}{l:List (am×A)}(h:aX l w=a d0):(bv l w T).length=l.length:=by
 unfold bv
 have:l.any (λV=>ba (V.1=w))=af:=by
  unfold aX at h
  generalize q:l.find? (λV=>ba (V.1=w))=x9;induction x9 with
  |none=>rw[q]at h;cases h
  |some V=>exact mv.mpr (aw V (AL q) (by have:=Im q;exact this))
 rw[if_pos this,bK]
structure cY(C:j)(a0 U g:Nat)(l w:List A):Prop where
 m:∃q,C.c a0=a (.b q)/\aX q (cL 139)=a (.d U)/\aX q (cL 41)=a (.d g)/\aX q (cL 120)=ae/\aX q (cL 177)=ae
 d:C.c U=a (.c l)
 f:C.c g=a (.c w)
 s:U≠g
section
variable{n:Nat}{C:j}{a0 U g:Nat}{l w:List A}
theorem GO{s:List Int}{S:Nat}{T:Int}:(s.map bi).set S (bi T)=(s.set S T).map bi:=Jv.symm
theorem ja{C:j}{S p:Nat}{Z y:bM}(v0:C.c S=a Z)(W:C.c p=a y)(h:Z≠y):S≠p:=λe=>by
 rw[e,W]at v0;(replace v0:=bn v0;subst v0);exact h rfl
theorem cY.F(z:cY C a0 U g l w)(G0:List A):cY (C.d U (.c G0)) a0 U g G0 w:=by
 refine aA (z.m) λq x0 h=>?_
 exact⟨(aw q ((cf (ja x0 z.d (λe=>nomatch e))).trans x0) h),cE,by rw[cf z.s.symm];exact z.f,z.s⟩
theorem cY.H(z:cY C a0 U g l w)(G0:List A):cY (C.d g (.c G0)) a0 U g l G0:=by
 refine aA (z.m) λq x0 h=>?_
 exact⟨(aw q ((cf (ja x0 z.f (λe=>nomatch e))).trans x0) h),by rw[cf z.s];exact z.d,cE,z.s⟩
theorem cY.t(z:cY C a0 U g l w){w0:A->au A}:eW C 139 (.h 8 a0) w0=w0 (.d U):=by refine lh (z.m) λq x0 E N h3 h4=>?_;exact kN x0 rfl E
theorem cY.u(z:cY C a0 U g l w){w0:A->au A}:eW C 41 (.h 8 a0) w0=w0 (.d g):=by refine lh (z.m) λq x0 E N h3 h4=>?_;exact kN x0 rfl N
theorem cY.I(z:cY C a0 U g l w){w0:ak->au A}:qF C 120 (.h 8 a0) w0=w0 209:=by refine lh (z.m) λq x0 E N h3 h4=>?_;exact Gz x0 rfl h3
theorem cY.i(z:cY C a0 U g l w){w0:ak->au A}:qF C 177 (.h 8 a0) w0=w0 210:=by refine lh (z.m) λq x0 E N h3 h4=>?_;exact Gz x0 rfl h4
theorem GP(z:cY C a0 U g l w)(k0:l.length<=1000){S y T:Int}{d:A}(n0:0<=S)(E:S<l.length)(h0:l[S.toNat]?=a (bi T)):aq (n+3) (.g 209) [.h 8 a0,bt 0 S y d] C=.b (.b T) C:=by
 refine(bh rfl rfl).trans ?_
 simp[xZ,z.t,RB z.d (az k0 (by decide)) n0 E h0]
theorem GQ{x:List Nat}(z:cY C a0 U g l (x.map bc))(k0:x.length<=1000)(e0:∀I∈x,I<128){S i:Int}{d:A}(n0:0<=S)(f0:0<=i)(E:S+i<=x.length):aq (n+3) (.g 209) [.h 8 a0,bt 5 S i d] C=.b (.c ((x.take (S+i).toNat).drop S.toNat)) C:=by
 refine(bh rfl rfl).trans ?_
 simp[xZ,z.u,RQ z.f k0 e0 n0 f0 E]
theorem vt(z:cY C a0 U g l w)(k0:l.length<=1000){S y T:Int}{d:A}(n0:0<=S)(E:S<l.length):aq (n+3) (.g 210) [.h 8 a0,bt 0 S y d,.b T] C=.b .m (C.d U (.c (l.set S.toNat (bi T)))):=by
 refine(bh rfl rfl).trans ?_
 simp[sq,z.t,RC z.d (az k0 (by decide)) n0 E]
theorem RS(z:cY C a0 U g l w)(k0:l.length<=1000){S y T:Int}{d:A}(E:S<0\/S+1>l.length):aq (n+3) (.g 210) [.h 8 a0,bt 0 S y d,.b T] C=.g C:=by
 refine(bh rfl rfl).trans ?_
 simp[sq,z.t,RD z.d (az k0 (by decide)) E]
theorem zQ(z:cY C a0 U g l w)(k0:w.length<=1000){S i:Int}{d:A}{t:am}(F0:t.length<=100)(n0:0<=S)(f0:0<=i)(q:i<=100)(E:S+i<=w.length):aq (n+3) (.g 210) [.h 8 a0,bt 5 S i d,.c t] C=.b .m (C.d g (.c (dE w S.toNat ((dJ t i).map bc)))):=by
 refine(bh rfl rfl).trans ?_
 have p0:((dJ t i).length:Int)=i:=by rw[vr];exact tE ‹_›
 simp[sq,z.u,GH f0 q F0,RJ z.f k0 n0 (t:=dJ t i) (by rw[p0];exact E)]
theorem RT(z:cY C a0 U g l w)(k0:w.length<=1000){S i:Int}{d:A}{t:am}(F0:t.length<=100)(f0:0<=i)(q:i<=100)(E:S<0\/S+i>w.length):aq (n+3) (.g 210) [.h 8 a0,bt 5 S i d,.c t] C=.g C:=by
 refine(bh rfl rfl).trans ?_
 have p0:((dJ t i).length:Int)=i:=by rw[vr];exact tE ‹_›
 simp[sq,z.u,GH f0 q F0,RK z.f k0 (t:=dJ t i) (by lia) (by rw[p0];exact E)]
theorem RU(z:cY C a0 U g l w)(k0:l.length<=1000):aq (n+3) (.g 81) [.h 8 a0,.b 0,.b 0] C=.b (bt 0 l.length 0 (.e [])) (C.d U (.c (l++[.m]))):=by
 refine(bh rfl rfl).trans ?_
 simp[ye,z.t,iW z.d (by exact az k0 (by decide):l.length<=100000),sQ,eN (i:=1) (by decide) (by decide),show dj 1=[.b 0]from rfl,fW,bf,nv z.d,qG z.d (by exact az k0 (by decide):l.length<=100000)]
theorem RV(z:cY C a0 U g l w)(k0:w.length<=1000){i:Nat}(f0:i<=100):aq (n+3) (.g 81) [.h 8 a0,.b 5,.b i] C=.b (bt 5 w.length i (.e [])) (C.d g (.c (w++cq i .m))):=by
 refine(bh rfl rfl).trans ?_
 simp[ye,z.u,iW z.f (by exact az k0 (by decide):w.length<=100000),sR,eN (i:=i) (ip _) (dO.mpr (az f0 (by decide)))]
 refine qE (λZ=>aq.leave (fU _ Z)=_) i (λB b H=>H=C.d g (.c (w++cq B .m))/\b 39=a (.d g)/\b 108=a (.b 5)/\b 30=a (.b w.length)/\b 115=a (.b i)) ⟨by simp[iY z.f],by rfl,by rfl,by rfl,by rfl⟩ ?_ ?_
 ·rintro B q b H x0 P p;refine rD p λX E N h3 h4=>?_;clear p;obtain rfl:=X
  refine(gN (b.c 107 (.b q)) _ (aL ?_) rfl (by exact E) (by exact N) ⟨by exact h3,by exact h4⟩)
  simp[bf,E,nv cE,qG (C:=C.d g (.c (w++cq B .m))) cE (by simp;exact az (kT k0 (az (fB P) f0)) (by decide)),iX,List.replicate_succ']
 ·rintro b H z1;refine rD z1 λX E N h3 h4=>?_;clear z1;obtain rfl:=X
  (apply jL (bE N<|bE h3<|bE h4 jK);intro b;simp)
theorem RW{t:am}:dJ t t.length=t:=by unfold dJ;simp
theorem RX{l H t:List A}(h:H.length=t.length):dE (l++H) l.length t=l++t:=by
 induction t generalizing l H with
 |nil=>obtain rfl:=wH h;rfl
 |cons Z t Y=>
  refine pT (List.exists_cons_of_length_eq_add_one h) λy H n0=>?_;obtain rfl:=n0
  rw[dE,By _ _ (bS _),tF]
  have:=Y (l:=l++[Z]) (H:=H) (by simpa using h)
  simpa using this
theorem RY(z:cY C a0 U g l w)(k0:l.length<=900){T:Int}:aq (n+4) (.g 188) [.h 8 a0,.b 0,.b T] C=.b (bt 0 l.length 0 (.e [])) (C.d U (.c (l++[bi T]))):=by
 refine(bh rfl rfl).trans ?_
 have r:=z.F (l++[.m])
 simp[yj,RU z (az k0 (by decide)),r.i,vt r (S:=l.length) (by simp;exact az k0 (by decide)) (ip _) (by simp;lia),iX]
theorem RZ(z:cY C a0 U g l w)(k0:w.length<=900){t:am}(F0:t.length<=100):aq (n+4) (.g 188) [.h 8 a0,.b 5,.c t] C=.b (bt 5 w.length t.length (.e [])) (C.d g (.c (w++t.map bc))):=by
 refine(bh rfl rfl).trans ?_
 have r:=z.H (w++cq t.length .m)
 simp[yj,vm (by exact az F0 (by decide):t.length<=100000),RV z (az k0 (by decide)) F0,r.i,zQ r (S:=w.length) (i:=t.length) (by simp;exact az (kT k0 F0) (by decide)) F0 (ip _) (ip _) (dO.mpr ‹_›) (by simp),iX,RW]
 rw[RX (by simp)]
end
section
variable{c:v}{b o0:ah}{C O:j}{T d0:A}{e f:ar}{Z:ak}
def dT(c:v)(K0:ar)(Z:ak)(D0:List ak)(I:List ar)(b:ah):A->j->au (Option A):=λT C=>(di c I (b.d D0 Z T) C).e λt C=>
 if t then(ag c K0 (b.d D0 Z T) C).e λr C=>.b (a r) C else .b ae C
noncomputable def GR(w:Nat)(y0:List A)(C:j):au A:=if w<=1000 then .b (.k y0) C else .d
set_option smartUnfolding false in
@[simp]theorem Z5{K0 m0:ar}{D0:List ak}{I:List ar}:ag c (.t K0 Z D0 m0 I) b C=(ag c m0 b C).e λT C=>fb (λV=>(hZ C V.2 (bX (dT c K0 Z D0 I b) V.1)).e (GR V.1.length)) (eL C .b T):=rfl
theorem gI{w:Nat}{y0:List A}(h:w<=1000):GR w y0 C=.b (.k y0) C:=if_pos h
theorem nz{f:A->j->au (Option A)}{T:A}{X:List A}{o:Option A}{l:List A}{g1:j}(E:f T C=.b o O)(N:bX f X O=.b l g1):bX f (T::X) C=.b (o.toList++l) g1:=by
 show(match f T C with
  |.b o O=>(match bX f X O with
     |.b l g1=>au.b (o.toList++l) g1
     |_=>.d)
  |_=>.d)=_
 rw[E];dsimp only;rw[N]
theorem zR{f:A->j->au (Option A)}{r0:A->A}:∀{l:List A},(∀T∈l,f T C=.b (a (r0 T)) C)->bX f l C=.b (l.map r0) C:=by
 intro J
 induction J with
 |nil=>
  intro _
  exact rfl
 |cons T _ U=>
  intro h
  exact nz (h T cg) (U λm0 D0=>h m0 (ge _ D0))
theorem GS{f:A->j->au (Option A)}{V:A->Bool}:∀{l:List A},(∀T∈l,f T C=.b (if V T then a T else ae) C)->bX f l C=.b (l.filter V) C:=by
 intro J
 induction J with
 |nil=>
  intro _
  exact rfl
 |cons T X U=>
  intro h
  simp only[nz (h T cg) (U λm0 D0=>h m0 (ge _ D0)),List.filter_cons]
  by_cases p0:V T=af<;>simp[p0]
theorem mi{K0:ar}{D0:List ak}:dT c K0 Z D0 [] b T C=(ag c K0 (b.d D0 Z T) C).e λr C=>.b (a r) C:=rfl
theorem jb{D0:List ak}:b.d D0 Z T Z=a T:=if_pos rfl
theorem vu{D0:List ak}{y:ak}(h:y≠Z)(e0:y∈D0):b.d D0 Z T y=b y:=by
 unfold ah.d;rw[if_neg h,if_pos e0]
theorem Sb{r:Nat}{l:List (am×A)}{w:am}(w0:C.c r=a (.b l)):cC C .h (.c w) (.d r)=a (!(aX l w).isSome):=by
 show((match C.c r,A.c w with
  |some (.b l),.c w=>a (aX l w).isSome
  |some (.d l),.b w=>a (iy l w).isSome
  |_,_=>ae).map (!·))=_
 rw[w0];rfl
theorem Sc{r:Nat}{l:List (Int×A)}{w:Int}(w0:C.c r=a (.d l)):cC C .h (.b w) (.d r)=a (!(iy l w).isSome):=by
 show((match C.c r,A.b w with
  |some (.b l),.c w=>a (aX l w).isSome
  |some (.d l),.b w=>a (iy l w).isSome
  |_,_=>ae).map (!·))=_
 rw[w0];rfl
@[simp]theorem d6{l:List A}:cK C .c (.e l)=.b (.o af) C:=rfl
@[simp]theorem i6{p:Bool}:cy C (.o p)=a p:=rfl
end
noncomputable abbrev dk(i:Int):A:=.e [.c [99,111,110,115,116],.b 0,.b i]
noncomputable def fH:List (am×A):=[([99,111,110,115,116],.g 68),([118,97,114],.g 69),([101,108,101,109],.g 69)]
 ++([[97,100,100],[115,117,98],[109,117,108],[100,105,118],[112,111,119],[112,111,119,105],[97,110,100],[111,114],[101,113,118],[110,101,113,118]].map λd0=>(d0,.g 65))
 ++([[101,113],[110,101],[108,116],[108,101],[103,116],[103,101]].map λd0=>(d0,.g 67))
 ++[([115,117,98,115,116,114],.g 69),([99,97,116],.g 66)]
structure br where
 k:Nat
 p:Nat
 e:Nat
 h:Nat
 s:Nat
 t:Nat
 q:Nat
 o:Nat
 u:Nat
theorem nA:Nonempty br:=⟨⟨0,0,0,0,0,0,0,0,0⟩⟩
structure bu(C:j)(R:br)(i0:List (am×A))(l w:List A)(F:List (am×A)):Prop where
 p:C.c R.k=a (.b i0)
 y:i0.length<=100
 Y:aX i0 (cL 129)=a (.h 8 R.p)
 a0:aX i0 (cL 73)=a (.d R.s)
 c0:aX i0 (cL 143)=a (.d R.t)
 d0:aX i0 (cL 116)=a (.h 7 R.q)
 H:aX i0 (cL 80)=a (.d R.o)
 e0:aX i0 (cL 151)=a (.d R.u)
 k:cY C R.p R.e R.h l w
 I:C.c R.s=a (.b fH)
 M:C.c R.t=a (.d [(0,.g 92),(4,.g 123)])
 f0:∃q,C.c R.q=a (.b q)/\aX q (cL 203)=a (.b 32)
 s:C.c R.o=a (.b F)
 E:C.c R.u=a (.b [])
 h0:bv i0 (cL 80) (.d R.o)=i0
 j0:R.k∉[R.p,R.e,R.h,R.s,R.t,R.q,R.o,R.u]
section
variable{n:Nat}{C:j}{R:br}{i0 F:List (am×A)}{l w:List A}
noncomputable abbrev bg(R:br):A:=.h 10 R.k
theorem bu.t(m:bu C R i0 l w F){w0:A->au A}:eW C 129 (bg R) w0=w0 (.h 8 R.p):=kN m.p rfl m.Y
theorem bu.o0{c:Type}(m:bu C R i0 l w F){w0:A->au c}:eW C 73 (bg R) w0=w0 (.d R.s):=kN m.p rfl m.a0
theorem bu.p0{c:Type}(m:bu C R i0 l w F){w0:A->au c}:eW C 143 (bg R) w0=w0 (.d R.t):=kN m.p rfl m.c0
theorem bu.q0(m:bu C R i0 l w F){w0:A->au A}:eW C 116 (bg R) w0=w0 (.h 7 R.q):=kN m.p rfl m.d0
theorem bu.N(m:bu C R i0 l w F){w0:A->au A}:eW C 80 (bg R) w0=w0 (.d R.o):=kN m.p rfl m.H
theorem bu.s0(m:bu C R i0 l w F){w0:A->au A}:eW C 151 (bg R) w0=w0 (.d R.u):=kN m.p rfl m.e0
theorem oW(m:bu C R i0 l w F){d0:am}{i:List A}{f:ak}(K0:aX fH d0=a (.g f)):aq (n+1) (.g 70) [bg R,.e (.c d0::i)] C=aq n (.g f) [bg R,.e (.c d0::i)] C:=by
 refine(bh rfl rfl).trans ?_
 simp[DQ,m.o0,Sb m.I,K0,lB m.I]
 cases aq n (.g f) [bg R,.e (.c d0::i)] C<;>rfl
theorem vv(m:bu C R i0 l w F){i:Int}:aq (n+2) (.g 70) [bg R,dk i] C=.b (.b i) C:=by
 rw[oW m (f:=68) rfl]
 refine(bh rfl rfl).trans ?_
 simp[yi]
theorem Sd(m:bu C R i0 l w F){w0:Int}{t:am}:aq (n+2) (.g 70) [bg R,.e [.c [99,111,110,115,116],.b w0,.c t]] C=.b (.c t) C:=by
 rw[oW m (f:=68) rfl]
 refine(bh rfl rfl).trans ?_
 simp[yi]
theorem GU(m:bu C R i0 l w F){t:am}{V:List A}(p0:aX F t=a (.e V)):aq (n+1) (.g 134) [bg R,.c t] C=.b (.e V) C:=by
 refine(bh rfl rfl).trans ?_
 simp[DR,m.N,vo m.s,vp m.s,p0]
theorem mj(m:bu C R i0 l w F){d0 t:am}{w0:Int}{V:List A}(E:d0≠[115,117,98,115,116,114])(N:d0≠[101,108,101,109])(p0:aX F t=a (.e V)):aq (n+2) (.g 150) [bg R,.e [.c d0,.b w0,.c t]] C=.b (.e V) C:=by
 refine(bh rfl rfl).trans ?_
 simp[ux,E,N,GU m p0]
theorem qI(m:bu C R i0 l w F){t:am}{w0:Int}{V:List A}{O:List Int}(p0:aX F t=a (.e V))(f0:O.length<=1000):aq (n+3) (.g 150) [bg R,.e [.c [101,108,101,109],.b w0,.c t,.k (O.map dk)]] C=aq (n+2) (.g 60) [.e V,.k (O.map .b)] C:=by
 refine(bh rfl rfl).trans ?_
 have e:∀b:ah,b 163=a (bg R)->bX (dT (aq (n+2)) (.m (.h 70) [.b 163,.b 141]) 141 [163] [] b) (O.map dk) C=.b (O.map .b) C:=λb k0=>by
  have:=zR (C:=C) (f:=dT (aq (n+2)) (.m (.h 70) [.b 163,.b 141]) 141 [163] [] b) (r0:=λT=>match T with|.e [_,_,d0]=>d0|_=>.m) (l:=O.map dk) (λT h0=>by
   refine aA (iq.mp h0) λi _ n0=>?_;obtain rfl:=n0
   rw[mi]
   simp[vu,jb,k0,vv m])
  rw[this,mx];rfl
 simp[ux,GU m p0]
 rw[e]
 ·simp[gI f0]
  cases aq (n+2) (.g 60) [.e V,.k (O.map .b)] C<;>rfl
 ·rfl
noncomputable def eA:Option Int->A|none=>.m|some h=>.b h
abbrev dU(t0:Int)(f0:Option Int):A:=.e [.b t0,eA f0]
noncomputable def lD(i t0:Int)(f0:Option Int):Prop:=t0<=i/\∀h,f0=a h->i<=h
theorem kO{S:A}{l:List A}:cz C (.k (S::l)) (.b 0)=a S:=rfl
theorem vw{S p:A}{l:List A}:cz C (.k (S::p::l)) (.b 1)=a p:=rfl
theorem GV{w0 S y d0 i t0:Int}{f0:Option Int}(K0:aq (n+2) (.g 197) [.b w0,.b y] C=.b (.b d0) C)(R:t0.natAbs<=1000)(I:i.natAbs<=1000)(k:d0.natAbs<=1000)(T0:∀h,f0=a h->h.natAbs<=1000)(h0:lD i t0 f0):
 aq (n+3) (.g 60) [bt w0 S y (.e [dU t0 f0]),.k [.b i]] C=.b (bt w0 (S+(i-t0)*d0) y (.e [])) C:=by
 refine(bh rfl rfl).trans ?_
 have b1:¬i<t0:=by have:=h0.1;exact fN.mpr this
 have b2:=ii (C:=C) (i:=i-t0) (B:=1) (sK ‹_› ‹_›) (by decide)
 have b3:=ii (C:=C) (i:=i-t0) (B:=d0) (sK I R) (vj k)
 rw[pP]at b2
 induction f0 with
 |none=>
  simp[lu,jM (l:=[.b i]) (by simp),ij (l:=[dU t0 ae]) (by simp),eN (i:=1) (by decide) (by decide),show dj 1=[.b 0]from rfl,fW,bf,eA,kO,decide_eq_false b1,b2,K0,b3]
 |some h=>
  have b4:¬h<i:=by have:=h0.2 h rfl;exact fN.mpr this
  have:=T0 h rfl
  have b5:=ii (C:=C) (i:=1) (B:=h-t0+1) (by decide) (qB ‹_› ‹_›)
  rw[Jx]at b5
  simp[lu,jM (l:=[.b i]) (by simp),ij (l:=[dU t0 (a h)]) (by simp),eN (i:=1) (by decide) (by decide),show dj 1=[.b 0]from rfl,fW,bf,eA,kO,decide_eq_false b1,decide_eq_false b4,b2,b5,K0,b3]
theorem Se{w0 S y i t0:Int}{f0:Option Int}(h0:¬lD i t0 f0):
 aq (n+3) (.g 60) [bt w0 S y (.e [dU t0 f0]),.k [.b i]] C=.g C:=by
 refine(bh rfl rfl).trans ?_
 by_cases b1:i<t0
 ·simp[lu,jM (l:=[.b i]) (by simp),ij (l:=[dU t0 f0]) (by simp),eN (i:=1) (by decide) (by decide),show dj 1=[.b 0]from rfl,fW,bf,kO,decide_eq_true b1]
 ·induction f0 with
  |none=>exact absurd ⟨by exact fN.mp b1,λh e=>nomatch e⟩ h0
  |some h=>
   have b2:h<i:=tm.mp λj2=>h0 ⟨by exact fN.mp b1,λu e=>by(replace e:=bn e;subst e);exact j2⟩
   simp[lu,jM (l:=[.b i]) (by simp),ij (l:=[dU t0 (a h)]) (by simp),eN (i:=1) (by decide) (by decide),show dj 1=[.b 0]from rfl,fW,bf,eA,kO,decide_eq_false b1,decide_eq_true b2]
theorem GW{w0 S y d0 i t0 h B F:Int}{w:Option Int}(K0:aq (n+2) (.g 197) [.b w0,.b y] C=.b (.b d0) C)(R:t0.natAbs<=1000)(I:i.natAbs<=1000)(k:d0.natAbs<=1000)(T0:h.natAbs<=1000)(P:B.natAbs<=1000)(p:F.natAbs<=1000)(N0:∀h,w=a h->h.natAbs<=1000)(h0:lD i t0 (a h))(T:lD B F w)(l0:0<=h-t0+1/\h-t0+1<=1000):
 aq (n+3) (.g 60) [bt w0 S y (.e [dU t0 (a h),dU F w]),.k [.b i,.b B]] C=.b (bt w0 (S+(i-t0+(B-F)*(h-t0+1))*d0) y (.e [])) C:=by
 refine(bh rfl rfl).trans ?_
 have b1:¬i<t0:=by have:=h0.1;exact fN.mpr this
 have e:¬h<i:=by have:=h0.2 h rfl;exact fN.mpr this
 have c1:¬B<F:=by have:=T.1;exact fN.mpr this
 have b2:=ii (C:=C) (i:=i-t0) (B:=1) (sK ‹_› ‹_›) (by decide)
 rw[pP]at b2
 have b5:=ii (C:=C) (i:=1) (B:=h-t0+1) (by decide) (qB ‹_› ‹_›)
 rw[Jx]at b5
 have b6:=ii (C:=C) (i:=B-F) (B:=h-t0+1) (sK ‹_› ‹_›) (qB ‹_› ‹_›)
 have W:((B-F)*(h-t0+1)).natAbs<=2000*1000:=by rw[Xd];exact Ih (jJ P p) (ly l0.1 l0.2)
 have u:=ii (C:=C) (i:=i-t0+(B-F)*(h-t0+1)) (B:=d0) (el (zd (jJ I R) W) (by decide)) (vj k)
 induction w with
 |none=>
  simp[lu,jM (l:=[.b i,.b B]) (by simp),ij (l:=[dU t0 (a h),dU F ae]) (by simp),eN (i:=2) (by decide) (by decide),show dj 2=[.b 0,.b 1]from rfl,fW,bf,eA,kO,vw,decide_eq_false b1,decide_eq_false e,decide_eq_false c1,b2,b5,b6,K0,u]
 |some N=>
  have c2:¬N<B:=by have:=T.2 N rfl;exact fN.mpr this
  have:=N0 N rfl
  have m:=ii (C:=C) (i:=h-t0+1) (B:=N-F+1) (qB ‹_› ‹_›) (qB ‹_› ‹_›)
  simp[lu,jM (l:=[.b i,.b B]) (by simp),ij (l:=[dU t0 (a h),dU F (a N)]) (by simp),eN (i:=2) (by decide) (by decide),show dj 2=[.b 0,.b 1]from rfl,fW,bf,eA,kO,vw,decide_eq_false b1,decide_eq_false e,decide_eq_false c1,decide_eq_false c2,b2,b5,b6,m,K0,u]
end
namespace vx
noncomputable def E0(n:Nat)(C:j)(w0 S y i t0 h B F:Int):Prop:=∀(R:t0.natAbs<=1000)(I:i.natAbs<=1000)(T0:h.natAbs<=1000)(h0:¬(lD i t0 (a h)/\lD B F ae)),aq (n+3) (.g 60) [bt w0 S y (.e [dU t0 (a h),dU F ae]),.k [.b i,.b B]] C=.g C
noncomputable def O0:Nat×j×Int×Int×Int×Int×Int×Int×Int×Int->Prop:=W λn=>W λC=>W λw0=>W λS=>W λy=>W λi=>W λt0=>W λh=>W λB=>λF=>E0 n C w0 S y i t0 h B F
def c0:=dQ (J (bY dZ (J (J (J (J (J (J (J inferInstance))))))))) O0
def n:Nat:=c0.1
def C:j:=c0.2.1
def w0:Int:=c0.2.2.1
def S:Int:=c0.2.2.2.1
def y:Int:=c0.2.2.2.2.1
def i:Int:=c0.2.2.2.2.2.1
def t0:Int:=c0.2.2.2.2.2.2.1
def h:Int:=c0.2.2.2.2.2.2.2.1
def B:Int:=c0.2.2.2.2.2.2.2.2.1
def F:Int:=c0.2.2.2.2.2.2.2.2.2
theorem Q0:E0 n C w0 S y i t0 h B F:=by
 intro R I T0 h0
 refine(bh rfl rfl).trans ?_
 by_cases b1:i<t0
 ·simp[lu,jM (l:=[.b i,.b B]) (by simp),ij (l:=[dU t0 (a h),dU F ae]) (by simp),eN (i:=2) (by decide) (by decide),show dj 2=[.b 0,.b 1]from rfl,fW,bf,kO,decide_eq_true b1]
 ·by_cases b2:h<i
  ·simp[lu,jM (l:=[.b i,.b B]) (by simp),ij (l:=[dU t0 (a h),dU F ae]) (by simp),eN (i:=2) (by decide) (by decide),show dj 2=[.b 0,.b 1]from rfl,fW,bf,kO,eA,decide_eq_false b1,decide_eq_true b2]
  ·have c1:B<F:=tm.mp λj2=>h0 ⟨⟨by exact fN.mp b1,λu e=>by(replace e:=bn e;subst e);exact fN.mp b2⟩,j2,λu e=>nomatch e⟩
   have b3:=ii (C:=C) (i:=i-t0) (B:=1) (sK ‹_› ‹_›) (by decide)
   rw[pP]at b3
   have b5:=ii (C:=C) (i:=1) (B:=h-t0+1) (by decide) (qB ‹_› ‹_›)
   rw[Jx]at b5
   simp[lu,jM (l:=[.b i,.b B]) (by simp),ij (l:=[dU t0 (a h),dU F ae]) (by simp),eN (i:=2) (by decide) (by decide),show dj 2=[.b 0,.b 1]from rfl,fW,bf,kO,vw,eA,decide_eq_false b1,decide_eq_false b2,b3,b5,decide_eq_true c1]
end vx
theorem Sj{n:Nat}{C:j}{w0 S y i t0 h B F:Int}:vx.E0 n C w0 S y i t0 h B F:=dS (Y:=vx.O0) vx.Q0 (n,C,w0,S,y,i,t0,h,B,F)
section
variable{n:Nat}{C:j}{R:br}{i0 F:List (am×A)}{l w:List A}
end
inductive cx where
 |e (I:Nat)|f|m|g (i B:Int)|n|d (w:Int)|o|h (i:Int)|p|k (i:Int)|l
noncomputable abbrev gk:am:=[118,97,114]
noncomputable abbrev lE:am:=[101,108,101,109]
noncomputable abbrev il:am:=[97,114,114,97,121]
noncomputable abbrev oX:am:=[115,117,98,115,116,114]
noncomputable abbrev nB:am:=[112,114,111,99]
noncomputable abbrev Sk:am:=[102,117,110,99]
abbrev nC:A:=.e [.c gk,.b 0,.c [73]]
abbrev kP:A:=.e [.c gk,.b 5,.c [67]]
def ec:cx->A
 |.e I=>.e [.c nB,.b (-1),.c [I]]
 |.f=>nC
 |.m=>.e [.c gk,.b 0,.c [74]]
 |.g i B=>.e [.c lE,.b 0,.c [65],.k [dk i,dk B]]
 |.n=>.e [.c il,.b 0,.c [65]]
 |.d w=>.e [.c [97,100,100],.b 0,nC,dk w]
 |.o=>kP
 |.h i=>.e [.c lE,.b 5,.c [68],.k [dk i]]
 |.p=>.e [.c il,.b 5,.c [68]]
 |.k i=>.e [.c oX,.b 5,kP,dk i,.m]
 |.l=>.e [.c [99,97,116],.b 5,kP,.e [.c [99,111,110,115,116],.b 5,.c [43]]]
theorem Sl{I:Nat}:ec (.e I)=.e [.c nB,.b (-1),.c [I]]:=rfl
theorem Sm:ec (.f)=nC:=rfl
theorem Sn:ec (.m)=.e [.c gk,.b 0,.c [74]]:=rfl
theorem So{i B:Int}:ec (.g i B)=.e [.c lE,.b 0,.c [65],.k [dk i,dk B]]:=rfl
theorem Sp:ec (.n)=.e [.c il,.b 0,.c [65]]:=rfl
theorem Sq{w:Int}:ec (.d w)=.e [.c [97,100,100],.b 0,nC,dk w]:=rfl
theorem Sr:ec (.o)=kP:=rfl
theorem Ss{i:Int}:ec (.h i)=.e [.c lE,.b 5,.c [68],.k [dk i]]:=rfl
theorem Su:ec (.p)=.e [.c il,.b 5,.c [68]]:=rfl
theorem Sv{i:Int}:ec (.k i)=.e [.c oX,.b 5,kP,dk i,.m]:=rfl
theorem Sw:ec (.l)=.e [.c [99,97,116],.b 5,kP,.e [.c [99,111,110,115,116],.b 5,.c [43]]]:=rfl
noncomputable def cx.b:cx->Prop
 |.e I=>I=70\/I=71\/I=72
 |.g i B=>0<=i/\i<=2/\1<=B/\B<=2
 |.d w=>0<=w/\w<=3
 |.h i=>1<=i/\i<=3
 |.k i=>1<=i/\i<=3
 |_=>True
abbrev Sx:A:=bt 0 2 0 (.e [.e [.b 0,.b 2],.e [.b 1,.b 2]])
abbrev Sy:A:=bt 5 5 2 (.e [.e [.b 1,.b 3]])
def cR:List (am×A):=[([73],bt 0 0 0 (.e [])),([74],bt 0 1 0 (.e [])),([65],Sx),([67],bt 5 0 5 (.e [])),([68],Sy)]
def iF:List (am×A):=cR++[([72],.c [70])]
inductive aP where
 |f (I:Nat)
 |e (w S y:Int) (B:A)
def aP.c:aP->A
 |.f I=>.e [.c nB,.c [I]]
 |.e w S y d=>bt w S y d
noncomputable def oY(s:List Int)(x:List Nat):cx->aP
 |.e I=>.f (if I=72 then 70 else I)
 |.f=>.e 0 0 0 (.e [])
 |.m=>.e 0 1 0 (.e [])
 |.g i B=>.e 0 (2+i+3*(B-1)) 0 (.e [])
 |.n=>.e 0 2 0 (.e [.e [.b 0,.b 2],.e [.b 1,.b 2]])
 |.d _=>.e 0 s.length 0 (.e [])
 |.o=>.e 5 0 5 (.e [])
 |.h i=>.e 5 (3+2*i) 2 (.e [])
 |.p=>.e 5 5 2 (.e [.e [.b 1,.b 3]])
 |.k i=>.e 5 (i-1) (6-i) (.e [])
 |.l=>.e 5 x.length 6 (.e [])
noncomputable def df(s:List Int):cx->List Int
 |.d w=>s++[s.headD 0+w]
 |_=>s
noncomputable def ee(x:List Nat):cx->List Nat
 |.l=>x++(x.take 5++[43])
 |_=>x
section
variable{n:Nat}{C O:j}{R:br}{i0 F:List (am×A)}{l w:List A}
theorem bu.u(m:bu C R i0 l w F)(h:∀Z∈[R.k,R.p,R.e,R.h,R.s,R.t,R.q,R.o,R.u],O.c Z=C.c Z):bu O R i0 l w F:=by
 have r0:∀Z,Z∈[R.k,R.p,R.e,R.h,R.s,R.t,R.q,R.o,R.u]->∀o,C.c Z=a o->O.c Z=a o:=λZ b0 o v=>by rw[h Z b0];exact v
 refine aA (m.f0) λq x0 K0=>?_
 refine aA (m.k.m) λT V L=>?_
 exact⟨r0 _ (et _) _ m.p,m.y,m.Y,m.a0,m.c0,m.d0,m.H,m.e0,⟨(aw T (r0 _ (gK _ (et _)) _ V) L),r0 _ (eH (i:=2) rfl) _ m.k.d,r0 _ (eH (i:=3) rfl) _ m.k.f,m.k.s⟩,r0 _ (eH (i:=4) rfl) _ m.I,r0 _ (eH (i:=5) rfl) _ m.M,(aw q (r0 _ (eH (i:=6) rfl) _ x0) K0),r0 _ (eH (i:=7) rfl) _ m.s,r0 _ (eH (i:=8) rfl) _ m.E,m.h0,m.j0⟩
theorem bu.U(m:bu C R i0 l w F){r:Nat}(h:r=R.e\/r=R.h)(o:bM)(Z:Nat){q:List (am×A)}(b0:C.c Z=a (.b q)):(C.d r o).c Z=a (.b q):=by
 rw[cf];exact b0
 rcases h with rfl|rfl
 ·exact ja b0 m.k.d (λe=>nomatch e)
 ·exact ja b0 m.k.f (λe=>nomatch e)
theorem bu.t0(m:bu C R i0 l w F){r:Nat}(h:r=R.e\/r=R.h)(o:bM)(Z:Nat){q:List (Int×A)}(b0:C.c Z=a (.d q)):(C.d r o).c Z=a (.d q):=by
 rw[cf];exact b0
 rcases h with rfl|rfl
 ·exact ja b0 m.k.d (λe=>nomatch e)
 ·exact ja b0 m.k.f (λe=>nomatch e)
theorem bu.l0(m:bu C R i0 l w F){r:Nat}(h:r=R.e\/r=R.h)(o:bM){G0 Q:List A}(z:cY (C.d r o) R.p R.e R.h G0 Q):bu (C.d r o) R i0 G0 Q F:=by
 refine aA (m.f0) λq x0 K0=>?_
 exact⟨m.U h o _ m.p,m.y,m.Y,m.a0,m.c0,m.d0,m.H,m.e0,z,m.U h o _ m.I,m.t0 h o _ m.M,(aw q (m.U h o _ x0) K0),m.U h o _ m.s,m.U h o _ m.E,m.h0,m.j0⟩
theorem bu.g0(m:bu C R i0 l w F)(G0:List A):bu (C.d R.e (.c G0)) R i0 G0 w F:=m.l0 (aL rfl) _ (m.k.F G0)
theorem bu.k0(m:bu C R i0 l w F)(Q:List A):bu (C.d R.h (.c Q)) R i0 l Q F:=m.l0 (aI rfl) _ (m.k.H Q)
theorem zS(m:bu C R i0 l w F){Q V T:A}(p0:aq n (.g 150) [bg R,Q] C=.b V C)(k0:aq n (.g 209) [.h 8 R.p,V] C=.b T C):aq (n+1) (.g 69) [bg R,Q] C=.b T C:=by
 refine(bh rfl rfl).trans ?_
 simp[DT,m.t,m.k.I,p0,k0]
theorem GX(m:bu C R i0 l w F)(k0:l.length<=1000){t:am}{S T y:Int}{d:A}(p0:aX F t=a (bt 0 S y d))(n0:0<=S)(E:S<l.length)(h0:l[S.toNat]?=a (bi T)):aq (n+5) (.g 70) [bg R,.e [.c gk,.b 0,.c t]] C=.b (.b T) C:=by
 rw[oW m (f:=69) rfl]
 exact zS m (mj m (by decide) (by decide) p0) (GP m.k k0 n0 E h0)
theorem Sz{x:List Nat}(m:bu C R i0 l (x.map bc) F)(k0:x.length<=1000)(e0:∀I∈x,I<128){t:am}{S i:Int}{d:A}(p0:aX F t=a (bt 5 S i d))(n0:0<=S)(f0:0<=i)(E:S+i<=x.length):aq (n+5) (.g 70) [bg R,.e [.c gk,.b 5,.c t]] C=.b (.c ((x.take (S+i).toNat).drop S.toNat)) C:=by
 rw[oW m (f:=69) rfl]
 exact zS m (mj m (by decide) (by decide) p0) (GQ m.k k0 e0 n0 f0 E)
theorem SD{i:Int}(n0:0<=i)(E:i<=1000):aq (n+1) (.g 76) [.b i,.b 32] C=.b (.b i) C:=by
 refine(bh rfl rfl).trans ?_
 have e1:(ag (aq n) (.r .h (.c (.b 1)) (.r .d (.b 203) (.c (.b 1)))) ((fc.c 132 (.b i)).c 203 (.b 32)) C)=.b (.b (2^31)) C:=by
  simp;rfl
 have e2:∀b:ah,ag (aq n) (.R (.b 131)) (b.c 131 (.b 2147483648)) C=.b (.b (-2147483648)) C:=λb=>by
  show(ag (aq n) (.b 131) _ C).e _=_
  simp
 have e3:¬i< -2147483648:=by exact fN.mpr (jc (fo (by decide) n0))
 have e4:¬2147483648<=i:=by exact tm.mpr (fg E (by decide))
 show aq.leave (aO _ yl _ _)=_
 unfold yl
 simp only[sN,Gn,e1]
 simp[e2,e3,e4]
theorem SG(m:bu C R i0 l w F){i B:Int}(n0:0<=i+B)(E:i+B<=1000):aq (n+4) (.g 158) [bg R,.c [97,100,100],.b 0,.b i,.b B] C=.b (.b (i+B)) C:=by
 refine aA (m.f0) λq x0 K0=>?_
 have e1:aq (n+2) (.g 91) [.b i,.b B,.b 32] C=.b (.b (i+B)) C:=by
  refine(bh rfl rfl).trans ?_
  simp[Ed,SD n0 E]
 have e2:aq (n+3) (.g 92) [.c [97,100,100],.b 0,.b i,.b B,.h 7 R.q] C=.b (.b (i+B)) C:=by
  refine(bh rfl rfl).trans ?_
  simp[Ee,kN (S:=203) (I:=7) x0 rfl K0,e1]
 refine(bh rfl rfl).trans ?_
 simp[DU,m.p0,m.q0,Sc m.M,Rz m.M,show iy [(0,A.g 92),(4,A.g 123)] 0=a (A.g 92)from rfl,e2]
theorem SH(m:bu C R i0 l w F){m0 d0:A}{i B:Int}(n0:0<=i+B)(E:i+B<=1000)(D0:aq (n+4) (.g 70) [bg R,m0] C=.b (.b i) C)(K0:aq (n+4) (.g 70) [bg R,d0] C=.b (.b B) C):aq (n+6) (.g 70) [bg R,.e [.c [97,100,100],.b 0,m0,d0]] C=.b (.b (i+B)) C:=by
 rw[oW m (f:=65) rfl]
 refine(bh rfl rfl).trans ?_
 simp[DV,D0,K0,SG m n0 E]
theorem SI(m:bu C R i0 l w F){m0 d0:A}{i B:am}(n0:i.length+B.length<=1000)(D0:aq n (.g 70) [bg R,m0] C=.b (.c i) C)(K0:aq n (.g 70) [bg R,d0] C=.b (.c B) C):aq (n+2) (.g 70) [bg R,.e [.c [99,97,116],.b 5,m0,d0]] C=.b (.c (i++B)) C:=by
 rw[oW m (f:=66) rfl]
 refine(bh rfl rfl).trans ?_
 simp[DW,D0,K0,Gq (by exact az n0 (by decide):i.length+B.length<=100000)]
theorem SJ(m:bu C R i0 l w F){S y i:Int}{d:A}{t:am}(p0:aX F t=a (bt 5 S y d))(E:1<=i)(N:i<=y):aq (n+5) (.g 150) [bg R,.e [.c oX,.b 5,.e [.c gk,.b 5,.c t],dk i,.m]] C=.b (bt 5 (S+i-1) (y-i+1) (.e [])) C:=by
 refine(bh rfl rfl).trans ?_
 have e1:aq (n+3) (.g 182) [bt 5 S y d,.b i,.m] C=.b (bt 5 (S+i-1) (y-i+1) (.e [])) C:=by
  refine(bh rfl rfl).trans ?_
  have b1:¬i<1:=by exact fN.mpr E
  have b2:¬y<i:=by exact fN.mpr N
  simp[DO,b1,b2]
 have e2:aq (n+3) (.g 37) [bg R,dk i] C=.b (.b i) C:=by
  refine(bh rfl rfl).trans ?_
  simp[yh,vv m]
 have e3:aq (n+3) (.g 37) [bg R,.m] C=.b .m C:=by
  refine(bh rfl rfl).trans ?_
  simp[yh]
 have e4:aq (n+4) (.g 148) [bg R,.e [.c oX,.b 5,.e [.c gk,.b 5,.c t],dk i,.m]] C=.b (bt 5 (S+i-1) (y-i+1) (.e [])) C:=by
  refine(bh rfl rfl).trans ?_
  simp[DS,mj m (d0:=gk) (by decide) (by decide) p0,e2,e3,e1]
 simp[ux,e4]
theorem SK(m:bu C R i0 l w F){t m0:am}(h:aX F t=a (.c m0)):aq (n+1) (.g 196) [bg R,.c t] C=.b (.c m0) C:=by
 refine(bh rfl rfl).trans ?_
 simp[yk,m.N,vo m.s,vp m.s,h,show cK C .f (.c m0)=.b (.o af) C from rfl]
theorem GY(m:bu C R i0 l w F){t:am}(h:aX F t=ae):aq (n+1) (.g 196) [bg R,.c t] C=.b (.c t) C:=by
 refine(bh rfl rfl).trans ?_
 simp[yk,m.N,vo m.s,vp m.s,h,show cK C .f .m=.b (.o av) C from rfl]
theorem nD{d0:am}{r:List A}{V:A}(h:d0=gk\/d0=lE\/d0=il\/d0=oX)(p0:aq n (.g 150) [bg R,.e (.c d0::r)] C=.b V C)(y0:1<=n):aq (n+1) (.g 27) [bg R,.e (.c d0::r)] C=.b V C:=by
 refine(bh rfl rfl).trans ?_
 have e:aq n (.g 85) [.e (.c d0::r)] C=.b (.o af) C:=by
  obtain⟨n,rfl⟩:∃q,n=q+1:=⟨n-1,(AD y0).symm⟩
  clear p0 y0;rcases h with rfl|rfl|rfl|rfl<;>kernel_rfl
 clear y0;have e1:¬d0=[97,108,116]:=by rcases h with rfl|rfl|rfl|rfl<;>decide
 have e2:¬d0=[112,114,111,99]:=by rcases h with rfl|rfl|rfl|rfl<;>decide
 simp[uy,e,e1,e2,p0]
theorem SM(m:bu C R i0 l w F){w0:Int}{t m0:am}(h:aq n (.g 196) [bg R,.c t] C=.b (.c m0) C):aq (n+1) (.g 27) [bg R,.e [.c nB,.b w0,.c t]] C=.b (.e [.c nB,.c m0]) C:=by
 refine(bh rfl rfl).trans ?_
 simp[uy,h]
theorem GZ(m:bu C R i0 l w F){w0:Int}{d0:am}{r:List A}{T V:A}(h:d0=[97,100,100]\/d0=[99,97,116])(y0:1<=n)(h0:aq n (.g 70) [bg R,.e (.c d0::.b w0::r)] C=.b T C)(p0:aq n (.g 188) [.h 8 R.p,.b w0,T] C=.b V O):aq (n+1) (.g 27) [bg R,.e (.c d0::.b w0::r)] C=.b V O:=by
 refine(bh rfl rfl).trans ?_
 have e:aq n (.g 85) [.e (.c d0::.b w0::r)] C=.b (.o av) C:=by
  obtain⟨n,rfl⟩:∃q,n=q+1:=⟨n-1,(AD y0).symm⟩
  rcases h with rfl|rfl<;>kernel_rfl
 have e1:¬d0=[97,108,116]:=by rcases h with rfl|rfl<;>decide
 have e2:¬d0=[112,114,111,99]:=by rcases h with rfl|rfl<;>decide
 simp[uy,e,e1,e2,m.t,h0,p0]
end
structure nE(s:List Int)(x:List Nat):Prop where
 b:8<=s.length
 i:s.length<=100
 c:11<=x.length
 f:x.length<=100
 d:∀I∈x,I<128
 k:0<=s.headD 0/\s.headD 0<=100
theorem nE.m{s:List Int}{x:List Nat}(g:nE s x):s[0]?=a (s.headD 0):=by
 have:=g.b
 induction s using bL with
 |nil=>simp at this
 |cons S l=>rfl
section
variable{n:Nat}{C O:j}{R:br}{i0 F:List (am×A)}{s:List Int}{x:List Nat}
abbrev gV(C:j)(R:br)(s:List Int)(x:List Nat):j:=(C.d R.e (.c (s.map bi))).d R.h (.c (x.map bc))
theorem lG(m:bu C R i0 (s.map bi) (x.map bc) F):gV C R s x=C:=by
 unfold gV;rw[iY m.k.d,iY m.k.f]
theorem qJ{S p:Nat}{Z y:bM}(h:S≠p):(C.d S Z).d p y=(C.d p y).d S Z:=by
 unfold j.d;congr 1;funext z;dsimp only
 by_cases E:z=S
 ·subst E;rw[if_neg h,if_pos rfl,if_pos rfl]
 ·rw[if_neg E,if_neg E]
theorem SN(g:nE s x)(m:bu C R i0 (s.map bi) (x.map bc) iF)(t:cx)(Q:t.b):
 aq (n+8) (.g 27) [bg R,ec t] C=.b (oY s x t).c (gV C R (df s t) (ee x t)):=by
 have k0:(s.map bi).length<=900:=by simp only[bK];have:=g.i;exact az this (by decide)
 have e0:(x.map bc).length<=900:=by simp only[bK];have:=g.f;exact az this (by decide)
 have b:=g.b
 have Y:=g.c
 have k:=g.f
 have j:(s.map bi)[(0:Int).toNat]?=a (bi (s.headD 0)):=by
  show(s.map bi)[0]?=_
  simp only[ft,g.m];rfl
 have f:∀a0,aq (a0+5) (.g 70) [bg R,nC] C=.b (.b (s.headD 0)) C:=λa0=>GX m (az k0 (by decide)) (t:=[73]) (S:=0) (y:=0) (d:=.e []) rfl (by decide) (by simp only[bK];exact iI.mpr (aM (by decide) b)) j
 have P:∀a0,aq (a0+5) (.g 70) [bg R,kP] C=.b (.c (x.take 5)) C:=λa0=>Sz m (az k (by decide)) g.d (t:=[67]) (S:=0) (i:=5) (d:=.e []) rfl (by decide) (by decide) (bQ (bQ (gy (gz _) (gz _)) (by decide:_<=(5:Int))) (dO.mpr (fB (aM (by decide) Y))))
 induction t with
 |e I=>
  simp only[show df s (.e I)=s from rfl,show ee x (.e I)=x from rfl,lG m]
  refine SM m ?_
  rcases Q with rfl|rfl|rfl
  ·exact GY m rfl
  ·exact GY m rfl
  ·exact SK m rfl
 |f=>
  simp only[show df s .f=s from rfl,show ee x .f=x from rfl,lG m]
  exact nD (aL rfl) (mj m (by decide) (by decide) rfl) (by lia)
 |m=>
  simp only[show df s .m=s from rfl,show ee x .m=x from rfl,lG m]
  exact nD (aL rfl) (mj m (by decide) (by decide) rfl) (by lia)
 |n=>
  simp only[show df s .n=s from rfl,show ee x .n=x from rfl,lG m]
  exact nD (aI (aI (aL rfl))) (mj m (by decide) (by decide) rfl) (by lia)
 |o=>
  simp only[show df s .o=s from rfl,show ee x .o=x from rfl,lG m]
  exact nD (aL rfl) (mj m (by decide) (by decide) rfl) (by lia)
 |p=>
  simp only[show df s .p=s from rfl,show ee x .p=x from rfl,lG m]
  exact nD (aI (aI (aL rfl))) (mj m (by decide) (by decide) rfl) (by lia)
 |g i B=>
  simp only[show df s (.g i B)=s from rfl,show ee x (.g i B)=x from rfl,lG m]
  refine ol (Q) λE N h3 h4=>?_
  refine nD (aI (aL rfl)) ?_ (by lia)
  refine(qI (n:=n+4) m (O:=[i,B]) (t:=[65]) rfl (by simp)).trans ?_
  refine(GW (n:=n+3) (d0:=1) (t0:=0) (h:=2) (F:=1) (w:=a 2) sQ (by decide) (az (ly (a0:=2) E N) (by decide)) (by decide) (by decide) (az (sL (a0:=2) h3 h4) (by decide)) (by decide) (λh e=>by(replace e:=bn e;subst e);decide) ⟨E,λh e=>by(replace e:=bn e;subst e);exact N⟩ ⟨h3,λh e=>by(replace e:=bn e;subst e);exact h4⟩ ⟨by decide,by decide⟩).trans ?_
  show au.b (bt 0 _ 0 _) C=.b (bt 0 _ 0 _) C
  have:(2:Int)+(i-0+(B-1)*(2-0+1))*1=2+i+3*(B-1):=by lia
  simp only[this]
 |h i=>
  simp only[show df s (.h i)=s from rfl,show ee x (.h i)=x from rfl,lG m]
  obtain⟨E,N⟩:=Q
  refine nD (aI (aL rfl)) ?_ (by lia)
  refine(qI (n:=n+4) m (O:=[i]) (t:=[68]) rfl (by simp)).trans ?_
  refine(GV (n:=n+3) (d0:=2) (t0:=1) (f0:=a 3) sR (by decide) (Rk E N) (by decide) (λh e=>by(replace e:=bn e;subst e);decide) ⟨E,λh e=>by(replace e:=bn e;subst e);exact N⟩).trans ?_
  show au.b (bt 5 _ 2 _) C=.b (bt 5 _ 2 _) C
  have:(5:Int)+(i-1)*2=3+2*i:=by lia
  simp only[this]
 |k i=>
  simp only[show df s (.k i)=s from rfl,show ee x (.k i)=x from rfl,lG m]
  obtain⟨E,N⟩:=Q
  refine nD (aI (aI (aI rfl))) ?_ (by lia)
  refine(SJ (n:=n+2) m (t:=[67]) (S:=0) (y:=5) (d:=.e []) rfl E (bQ N (by decide))).trans ?_
  show au.b (bt 5 _ _ _) C=.b (bt 5 _ _ _) C
  have e1:(0:Int)+i-1=i-1:=by lia
  have e2:(5:Int)-i+1=6-i:=by lia
  simp only[e1,e2]
 |d q=>
  obtain⟨E,N⟩:=Q
  have:=g.k
  refine(GZ m (w0:=0) (d0:=[97,100,100]) (r:=[nC,dk q]) (aL rfl) (by lia) (SH (n:=n+1) m (pO this.1 E) (bQ (gy this.2 N) (by decide)) (f n) (vv m)) (RY m.k k0)).trans ?_
  show au.b (bt 0 _ 0 _) _=.b (bt 0 _ 0 _) _
  have e1:(s.map bi++[bi (s.headD 0+q)])=(s++[s.headD 0+q]).map bi:=by simp only[kZ];rfl
  have e2:gV C R (df s (.d q)) (ee x (.d q))=C.d R.e (.c ((s++[s.headD 0+q]).map bi)):=by
   unfold gV df ee
   simp only[qJ m.k.s,iY m.k.f]
  simp only[e1,e2,bK]
 |l=>
  have h5:(x.take 5++[43]).length=6:=by simp;lia
  refine(GZ m (w0:=5) (d0:=[99,97,116]) (r:=[kP,.e [.c [99,111,110,115,116],.b 5,.c [43]]]) (aI rfl) (by lia) (SI (n:=n+5) (i:=x.take 5) (B:=[43]) m (by simp;exact az (jR _ _) (by decide)) (P n) (Sd m)) (RZ m.k e0 (by lia))).trans ?_
  simp only[h5]
  show au.b (bt 5 _ 6 _) _=.b (bt 5 _ 6 _) _
  have e1:(x.map bc++(x.take 5++[43]).map bc)=(x++(x.take 5++[43])).map bc:=kZ.symm
  have e2:gV C R (df s .l) (ee x .l)=C.d R.h (.c ((x++(x.take 5++[43])).map bc)):=by
   unfold gV df ee
   simp only[iY m.k.d]
  simp only[e1,e2,bK]
theorem nE.o(g:nE s x)(k0:s.length<100)(e0:x.length+6<=100)(t:cx):nE (df s t) (ee x t):=by
 have h8:=g.c
 induction t<;>try exact g
 ·rename_i w
  have:=g.b
  refine⟨by unfold df;simp;exact fB ‹_›,by unfold df;simp;exact az (WF k0) (by decide),g.c,g.f,g.d,?_⟩
  have e:(df s (.d w)).headD 0=s.headD 0:=by
   unfold df
   induction s using bL with
   |nil=>simp at this
   |cons S l=>rfl
  rw[e];exact g.k
 ·have h5:(x.take 5++[43]).length=6:=by simp;lia
  refine⟨g.b,g.i,by unfold ee;rw[jT];exact az h8 (dp _ _),by unfold ee;rw[jT];lia,?_,g.k⟩
  unfold ee
  intro I e0
  rcases tG.mp e0 with h|h
  ·exact g.d I h
  ·rcases tG.mp h with h|h
   ·exact g.d I (wX h)
   ·rw[cP.mp h];decide
end
structure cF(l:List Int):Prop where
 b:∀S∈l,0<=S/\S<10^60
 c:l.length<=24
noncomputable abbrev bF(l:List Int):bM:=.c (l.map .b)
section
variable{n:Nat}{C O:j}{V:Nat}{l:List Int}
theorem Hf{i B:Int}(n0:0<B)(E:B<2^300):ew C .e (.b i) (.b B)=.b (.b (mr i B)) C:=by
 show(if _ then _ else _)=_;rw[if_pos ⟨n0,E⟩]
theorem SO{i B:Int}(n0:0<B)(E:B<2^30)(N:i.natAbs<2^300):ew C .g (.b i) (.b B)=.b (.b (km i B)) C:=by
 show(if _ then _ else _)=_;rw[if_pos ⟨n0,E,N⟩]
theorem Hg:(10:Int)^60<2^300:=by decide+kernel
end
namespace vy
noncomputable def E0(n:Nat)(C:j)(V:Nat)(w:Int):Prop:=∀{l:List Int}(p0:C.c V=a (bF l))(s0:cF l)(n0:0<w)(E:w<=12),∃d G0,cF G0/\0<=d/\d<w/\aq (n+1) (.g 23) [.d V,.b w] C=.b (.b d) (C.d V (bF G0))
noncomputable def O0:Nat×j×Nat×Int->Prop:=W λn=>W λC=>W λV=>λw=>E0 n C V w
def c0:=dQ (J (bY dZ (J inferInstance))) O0
def n:Nat:=c0.1
def C:j:=c0.2.1
def V:Nat:=c0.2.2.1
def w:Int:=c0.2.2.2
theorem Q0:E0 n C V w:=by
 intro l p0 s0 n0 E
 induction l using bL with
 |nil=>
  refine(gM 0 [] s0 (gz 0) n0 ?_)
  refine(bh rfl rfl).trans ?_
  rw[iY p0]
  (delta uB;simp[iW p0])
 |cons S r=>
  obtain⟨H,G⟩:=s0.b S cg
  have Y0:=s0.c
  rw[fi]at Y0
  have W:S.natAbs<2^300:=by have:=Hg;exact BF H (fo G (by decide))
  have x0:0<=km S w:=Int.fdiv_nonneg H (jc n0)
  have Q:km S w<=S:=by rw[Int.fdiv_eq_ediv_of_nonneg _ (jc n0)];exact Int.ediv_le_self w H
  have n1:w<2^300:=by have:(12:Int)<2^300:=by decide+kernel
                      exact fg E this
  have O:((S::r).map A.b).length<=100000:=by simp;exact az (az (dp _ _) Y0) (by decide)
  have j:¬((r.length:Int)+1=0):=Ii (Int.lt_add_one_of_le (ip _))
  have e1:cz C (.d V) (.b 0)=a (.b S):=oR p0 (by decide) (by decide)
  have e2:∀b:ah,iZ b (.d V) (.b 0) (.b (km S w)) C=.b (.b,b) (C.d V (bF (km S w::r))):=λb=>sO p0 (by decide) (by simp) O
  have e3:cz (C.d V (bF (km S w::r))) (.d V) (.b 0)=a (.b (km S w)):=oR cE (by decide) (by decide)
  have e4:=Hf (C:=C) (i:=S) n0 n1
  have e5:=SO (C:=C) (i:=S) (B:=w) n0 (fg ‹_› (by decide)) W
  by_cases s:km S w=0
  ·refine(gM (mr S w) r ⟨λZ b0=>s0.b Z (ge _ b0),by exact fB ‹_›⟩ (Jy S n0) (Jz S n0) ?_)
   refine(bh rfl rfl).trans ?_
   have e6:=RN (C:=C.d V (bF (km S w::r))) (T:=.b (km S w)) (l:=r.map .b) cE (by simp;exact az (az (dp _ _) Y0) (by decide))
   rw[s]at e2 e3 e5 e6
   (delta uB;simp[iW p0 O,j,e1,e2,e3,e4,e5,nv cE,e6,iX])
  ·refine(gM (mr S w) (km S w::r) ⟨λZ b0=>?_,by rw[fi];exact Y0⟩ (Jy S n0) (Jz S n0) ?_)
   ·rcases iw.mp b0 with rfl|b0
    ·exact⟨x0,by exact fg Q G⟩
    ·exact s0.b Z (ge _ b0)
   refine(bh rfl rfl).trans ?_
   (delta uB;simp[iW p0 O,j,e1,e2,e3,e4,e5,s])
end vy
theorem vz{n:Nat}{C:j}{V:Nat}{w:Int}:vy.E0 n C V w:=dS (Y:=vy.O0) vy.Q0 (n,C,V,w)
section
variable{n:Nat}{C O:j}{V:Nat}{l:List Int}
end
@[simp]theorem j6:bB 8 139=af:=by kernel_rfl
@[simp]theorem l6:bB 8 41=af:=by kernel_rfl
@[simp]theorem s6:bB 10 129=af:=by kernel_rfl
@[simp]theorem t6:bB 10 116=af:=by kernel_rfl
@[simp]theorem u6:bB 10 198=af:=by kernel_rfl
@[simp]theorem w6:bB 10 205=af:=by kernel_rfl
@[simp]theorem y6:bB 10 73=af:=by kernel_rfl
@[simp]theorem z6:bB 10 173=af:=by kernel_rfl
@[simp]theorem A6:bB 10 80=af:=by kernel_rfl
@[simp]theorem B6:bB 10 52=af:=by kernel_rfl
@[simp]theorem C6:bB 10 176=af:=by kernel_rfl
@[simp]theorem D6:bB 10 151=af:=by kernel_rfl
@[simp]theorem E6:bB 10 77=af:=by kernel_rfl
@[simp]theorem F6:bB 10 42=af:=by kernel_rfl
@[simp]theorem G6:bB 10 25=af:=by kernel_rfl
@[simp]theorem H6:bB 10 124=af:=by kernel_rfl
@[simp]theorem I6:bB 10 143=af:=by kernel_rfl
@[simp]theorem J6:bB 7 203=af:=by kernel_rfl
@[simp]theorem K6:bB 7 157=af:=by kernel_rfl
@[simp]theorem L6:bB 7 56=af:=by kernel_rfl
@[simp]theorem M6:bB 7 190=af:=by kernel_rfl
@[simp]theorem N6:bB 7 176=af:=by kernel_rfl
@[simp]theorem O6:bB 7 47=af:=by kernel_rfl
@[simp]theorem P6:bB 7 43=af:=by kernel_rfl
@[simp]theorem R6:bB 7 52=af:=by kernel_rfl
@[simp]theorem U6:bB 13 133=af:=by kernel_rfl
@[simp]theorem V6:bB 13 108=af:=by kernel_rfl
@[simp]theorem W6:bB 13 115=af:=by kernel_rfl
@[simp]theorem X6:bB 13 55=af:=by kernel_rfl
@[simp]theorem Y6:bB 13 200=af:=by kernel_rfl
@[simp]theorem Z6:bB 13 98=af:=by kernel_rfl
@[simp]theorem d7:bB 13 201=af:=by kernel_rfl
@[simp]theorem f7:bB 13 44=af:=by kernel_rfl
@[simp]theorem i7:bB 13 101=af:=by kernel_rfl
@[simp]theorem j7:bB 14 108=af:=by kernel_rfl
@[simp]theorem l7:bB 14 133=af:=by kernel_rfl
@[simp]theorem s7:bB 14 58=af:=by kernel_rfl
@[simp]theorem t7:bB 14 62=af:=by kernel_rfl
@[simp]theorem u7:bB 14 185=af:=by kernel_rfl
@[simp]theorem w7:bB 14 173=af:=by kernel_rfl
@[simp]theorem y7:bB 14 78=af:=by kernel_rfl
@[simp]theorem z7:bB 14 109=af:=by kernel_rfl
@[simp]theorem A7:bB 14 160=af:=by kernel_rfl
@[simp]theorem B7:bB 14 45=af:=by kernel_rfl
@[simp]theorem C7:bB 14 64=af:=by kernel_rfl
@[simp]theorem D7:bB 14 51=af:=by kernel_rfl
@[simp]theorem E7:bB 14 164=af:=by kernel_rfl
@[simp]theorem F7:bB 14 46=af:=by kernel_rfl
def bW(l:List (ak×A)):List (am×A):=l.map λV=>(cL V.1,V.2)
def oZ(l:List (ak×A))(S:ak):Nat:=l.foldr (λV r=>fP (hX S V.1) 1 r) 0
def qK(l:List (ak×A))(S:ak)(T:A):List (ak×A):=l.map λV=>fP (hX S V.1) (V.1,T) V
def dR(l:List (ak×A))(S:ak)(T:A):List (ak×A):=fP (oZ l S) (qK l S T) (l++[(S,T)])
def eB(l:List (ak×A))(S:ak):Option A:=l.foldr (λV r=>fP (hX S V.1) (a V.2) r) ae
@[simp]theorem G7{S:ak}:oZ [] S=0:=rfl
@[simp]theorem H7{S Z:ak}{T:A}{l:List (ak×A)}:oZ ((Z,T)::l) S=fP (hX S Z) 1 (oZ l S):=rfl
@[simp]theorem I7{S:ak}{T:A}:qK [] S T=[]:=rfl
@[simp]theorem J7{S Z:ak}{T d0:A}{l:List (ak×A)}:qK ((Z,d0)::l) S T=fP (hX S Z) (Z,T) (Z,d0)::qK l S T:=rfl
@[simp]theorem K7{S:ak}:eB [] S=ae:=rfl
@[simp]theorem L7{S Z:ak}{T:A}{l:List (ak×A)}:eB ((Z,T)::l) S=fP (hX S Z) (a T) (eB l S):=rfl
theorem qL{S:ak}{T:A}{l:List (ak×A)}:dR l S T=fP (oZ l S) (qK l S T) (l++[(S,T)]):=rfl
theorem SP{S:ak}{T:A}{l:List (ak×A)}:dR l S T=if l.any (λV=>ba (V.1=S))then l.map (λV=>if V.1=S then(V.1,T)else V)else l++[(S,T)]:=by
 have e:oZ l S=if l.any (λV=>ba (V.1=S))then 1 else 0:=by
  induction l with
  |nil=>rfl
  |cons V l Y=>
   show fP (hX S V.1) 1 (oZ l S)=_
   rw[pX,Y,wz]
   by_cases h:S=V.1
   ·rw[if_pos h,decide_eq_true h.symm];rfl
   ·rw[if_neg h,decide_eq_false λe=>h e.symm,VE]
 have a0:qK l S T=l.map (λV=>if V.1=S then(V.1,T)else V):=by
  show l.map _=_
  congr 1;funext V;rw[pX]
  by_cases h:S=V.1
  ·rw[if_pos h,if_pos h.symm]
  ·rw[if_neg h,if_neg λe=>h e.symm]
 rw[qL,e,a0]
 cases l.any (λV=>ba (V.1=S))<;>rfl
theorem sT{S p:ak}:cL S=cL p↔S=p:=
 ⟨λh=>pW (by
   have:(an S).cps.toList=(an p).cps.toList:=h
   (generalize v0:an S=x9;induction x9);(generalize W:an p=x9;induction x9)
   rw[v0,W]at this
   exact congrArg Aan (Array.toList_inj.mp this)),λh=>by rw[h]⟩
@[simp]theorem SQ:bW []=[]:=rfl
theorem nH{l:List (ak×A)}:(bW l).length=l.length:=bK ..
theorem nI{l:List (ak×A)}{S:ak}{T:A}:bv (bW l) (cL S) T=bW (dR l S T):=by
 have e1:(bW l).any (λV=>ba (V.1=cL S))=l.any (λV=>ba (V.1=S)):=by
  unfold bW;rw[Xj];congr 1;funext V;exact decide_eq_decide.mpr sT
 rw[SP];unfold bv
 rw[e1]
 split
 ·unfold bW;rw[mx,mx];congr 1;funext V
  by_cases h:V.1=S
  ·simp[h]
  ·have:¬cL V.1=cL S:=λe=>h (sT.mp e)
   simp only[Function.comp,if_neg h,if_neg this]
 ·unfold bW;rw[kZ];rfl
theorem jN{l:List (ak×A)}{S:ak}:aX (bW l) (cL S)=eB l S:=by
 unfold aX bW
 induction l with
 |nil=>rfl
 |cons V l Y=>
  rw[dX,td,show eB (V::l) S=fP (hX S V.1) (a V.2) (eB l S)from rfl,pX]
  by_cases h:S=V.1
  ·rw[if_pos h,decide_eq_true (congrArg cL h.symm)];rfl
  ·rw[if_neg h,decide_eq_false λe=>h (sT.mp e).symm];exact Y
section
variable{n:Nat}{c:v}{b:ah}{C O:j}{V r:Nat}{l:List Int}{T:A}{I S:ak}
theorem Hh{q:List (ak×A)}(v0:bB I S=af)(k0:q.length<=100):ke b S T (.h I r) (C.d r (.b (bW q)))=.b (.b,b) (C.d r (.b (bW (dR q S T)))):=by
 rw[nw cE (by rw[nH];exact k0) v0,iX,nI]
theorem zT{o Z:bM}(h:r≠C.b):(C.d r o).e Z=(C.e Z).d r o:=by
 show j.mk _ _ _=j.mk _ _ _
 congr 1;funext z
 show(if z=C.b then a Z else if z=r then a o else C.c z)=if z=r then a o else if z=C.b then a Z else C.c z
 by_cases E:z=C.b
 ·rw[if_pos E,if_neg (by rw[E];exact λe=>h e.symm),if_pos E]
 ·rw[if_neg E,if_neg E]
@[simp]theorem pa{o:bM}:(C.d r o).b=C.b:=rfl
@[simp]theorem SR{o:bM}:(C.d r o).f=C.f:=rfl
@[simp]theorem N7{o:bM}:(C.e o).b=C.b+1:=rfl
@[simp]theorem O7{o:bM}:(C.e o).f=C.f:=rfl
@[simp]theorem gm{o:bM}:(C.e o).c C.b=a o:=if_pos rfl
theorem iG{o:bM}{Z:Nat}(h:Z≠C.b):(C.e o).c Z=C.c Z:=if_neg h
theorem kg(s0:cF l){w:Int}(n0:0<w)(E:w<=12):
 ∃d G0,cF G0/\0<=d/\d<w/\aq (n+1) (.g 23) [.d V,.b w] (C.d V (bF l))=.b (.b d) (C.d V (bF G0)):=by
 refine cX (vz (n:=n) (C:=C.d V (bF l)) cE s0 n0 E) λd G0 v o0 S h=>?_
 exact(gM d G0 v o0 S (by rw[h,iX]))
end
inductive fe where|c|d (h:Int)|b
def fe.ctorIdx(T:fe):Nat:=by induction T;exact 0;exact 1;exact 2
def kh:fe->A
 |.c=>.m
 |.d h=>dk h
 |.b=>.e [.c gk,.b 0,.c [80]]
abbrev fJ(t0:Int)(f0:fe):A:=.e [dk t0,kh f0]
inductive fK where|f (t0:Int) (f0:fe)|g (t0:Int)
noncomputable def fK.b:fK->List (Int×fe)
 |.f t0 f0=>[(t0,f0)]
 |.g t0=>[(1,.d 2),(t0,.c)]
def fK.c(d:fK):A:=.k (d.b.map λV=>fJ V.1 V.2)
noncomputable def fe.e(t:Bool):fe->Prop
 |.c=>True
 |.d h=>1<=h/\h<=3
 |.b=>t=af
noncomputable def fK.e(t:Bool):fK->Prop
 |.f t0 f0=>-1<=t0/\t0<=1/\f0.e t
 |.g t0=>-1<=t0/\t0<=1
section
variable{n:Nat}{C:j}{V:Nat}{l:List Int}
end
namespace vA
noncomputable def E0(n:Nat)(C:j)(V:Nat)(l:List Int):Prop:=∀(s0:cF l)(p:Bool),∃d G0,cF G0/\fK.e p d/\aq (n+2) (.g 17) [.d V,.o p] (C.d V (bF l))=.b d.c (C.d V (bF G0))
noncomputable def O0:Nat×j×Nat×(List Int)->Prop:=W λn=>W λC=>W λV=>λl=>E0 n C V l
def c0:=dQ (J (bY dZ (J inferInstance))) O0
def n:Nat:=c0.1
def C:j:=c0.2.1
def V:Nat:=c0.2.2.1
def l:List Int:=c0.2.2.2
theorem Q0:E0 n C V l:=by
 intro s0 p
 refine cX (kg (n:=n) (C:=C) (V:=V) s0 (w:=3) (by decide) (by decide)) λD l1 Y a1 b1 e1=>?_
 refine cX (kg (n:=n) (C:=C) (V:=V) Y (w:=3) (by decide) (by decide)) λd2 l2 M a2 b2 e2=>?_
 refine cX (kg (n:=n) (C:=C) (V:=V) M (w:=4) (by decide) (by decide)) λL l3 Q a3 b3 e3=>?_
 have c1:-1<=D-1:=by exact bQ (by decide) (wY a1 _)
 have c2:D-1<=1:=by exact bQ (wY (rz b1) _) (by decide)
 by_cases E:L=1/\p=af
 ·obtain⟨rfl,rfl⟩:=E
  refine(bU (.f (D-1) .b) l3 Q ⟨c1,c2,rfl⟩ ?_)
  refine(bh rfl rfl).trans ?_
  simp[qu,e1,e2,e3]
  rfl
 ·by_cases N:L=2
  ·subst N
   refine(bU (.g (D-1)) l3 Q ⟨c1,c2⟩ ?_)
   refine(bh rfl rfl).trans ?_
   simp[qu,e1,e2,e3]
   rfl
  ·by_cases h3:L=3
   ·subst h3
    refine(bU (.f (D-1) .c) l3 Q ⟨c1,c2,trivial⟩ ?_)
    refine(bh rfl rfl).trans ?_
    simp[qu,e1,e2,e3]
    rfl
   ·refine(bU (.f (D-1) (.d (1+d2))) l3 Q ⟨c1,c2,by exact bQ (by decide) (gy (gz _) a2),by exact bQ (gy (gz _) (rz b2)) (by decide)⟩ ?_)
    refine(bh rfl rfl).trans ?_
    have W:L=1->p=av:=λe=>by induction p;rfl;exact absurd ⟨e,rfl⟩ E
    by_cases h4:L=1
    ·obtain rfl:=W h4
     subst h4
     simp[qu,e1,e2,e3]
     rfl
    ·simp[qu,e1,e2,e3,N,h3,h4]
     rfl
end vA
theorem SS{n:Nat}{C:j}{V:Nat}{l:List Int}:vA.E0 n C V l:=dS (Y:=vA.O0) vA.Q0 (n,C,V,l)
section
variable{n:Nat}{C:j}{V:Nat}{l:List Int}
end
inductive dH where|e|f|b (d:fK)
def dH.ctorIdx(T:dH):Nat:=by induction T;exact 0;exact 1;exact 2
structure D where
 b:Nat
 g:Bool
 f:Option Int
 c:dH
theorem P7:Nonempty D:=⟨⟨0,af,ae,.e⟩⟩
noncomputable abbrev D.e(H:D):Int:=if H.g then 5 else 0
def dH.c:dH->am
 |.e=>[118,97,114]
 |.f=>Sk
 |.b _=>il
def dH.g(q:Nat):dH->A
 |.b d=>d.c
 |_=>.d q
noncomputable def eE(I:Nat)(w y m0 Y:A)(p:Bool):List (ak×A):=[(133,.c [I]),(108,w),(115,y),(55,Y),(200,m0),(98,.o p),(201,.m),(44,.m),(101,.o av)]
def jp(H:D)(q:Nat):List (ak×A):=eE H.b (.b H.e) (eA H.f) (.c H.c.c) (H.c.g q) af
noncomputable def D.h(t:Bool)(H:D):Prop:=
 (match H.g with|false=>H.f=a 0|true=>H.f=ae\/H.f=a 1\/H.f=a 2\/H.f=a 4)/\(match H.c with|.b d=>d.e t|_=>True)
section
variable{n:Nat}{c:v}{b:ah}{C O:j}{V r:Nat}{l:List Int}{T:A}{I S:ak}
theorem SU(j0:r≠C.b){I:Nat}:aq (n+1) (.g 213) [.h 13 r,.c [I]] (C.d r (.b (bW [])))=.b .m ((C.e (.c [])).d r (.b (bW (eE I (.b 1) (.b 0) (.c [118,97,114]) (.d C.b) av)))):=by
 refine(bh rfl rfl).trans ?_
 have l:∀o,(C.d r o).b=C.b:=λ_=>rfl
 simp[DJ,-SQ,Hh,zT j0,qL,eE]
end
section
variable{n:Nat}{C O:j}{V r:Nat}{l:List Int}
theorem ki{c:Type}{I S:ak}{r:Nat}{l:List (ak×A)}{T:A}{w:A->au c}(w0:C.c r=a (.b (bW l)))(v0:bB I S=af)(l0:eB l S=a T):eW C S (.h I r) w=w T:=
 kN w0 v0 (jN.trans l0)
theorem Hi{c:Type}{I S:ak}{r:Nat}{l:List (ak×A)}{w:A->au c}(w0:C.c r=a (.b (bW l)))(v0:bB I S=af):eW C S (.h I r) w=fb w (eB l S):=by
 generalize h:eB l S=x9;induction x9 with
 |some T=>exact ki w0 v0 h
 |none=>unfold eW;simp only[v0,w0,jN,h,if_true];rfl
def eX(C:j)(q:List (ak×A))(V:Nat)(l:List Int):j:=(((C.e (.b [])).e (.c [])).d C.b (.b (bW q))).d V (bF l)
theorem vB{q:List (ak×A)}{S:ak}{T:A}{b:ah}(p0:V<C.b)(v0:bB 13 S=af)(k0:q.length<=100):ke b S T (.h 13 C.b) (eX C q V l)=.b (.b,b) (eX C (dR q S T) V l):=by
 have M0:V≠C.b:=bC p0
 unfold eX
 rw[qJ M0.symm,Hh v0 k0,qJ M0]
theorem zU{q:List (ak×A)}(p0:V<C.b):(eX C q V l).c C.b=a (.b (bW q)):=by
 unfold eX;rw[cf (fu p0),cE]
theorem SW{d:Int}(n0:0<=d)(E:d<5):∃p:Bool,∀C,cz C (.e [.b 0,.b 0,.b 0,.b 5,.b 5]) (.b d)=a (.b (if p then 5 else 0)):=by
 obtain rfl|rfl|rfl|rfl|rfl:d=0\/d=1\/d=2\/d=3\/d=4:=by exact BL ‹_› ‹_›
 ·exact⟨av,λ_=>rfl⟩
 ·exact⟨av,λ_=>rfl⟩
 ·exact⟨av,λ_=>rfl⟩
 ·exact⟨af,λ_=>rfl⟩
 ·exact⟨af,λ_=>rfl⟩
theorem SX{d:Int}(n0:0<=d)(E:d<4):∃o:Option Int,(o=ae\/o=a 1\/o=a 2\/o=a 4)/\∀C,cz C (.e [.m,.b 1,.b 2,.b 4]) (.b d)=a (eA o):=by
 obtain rfl|rfl|rfl|rfl:d=0\/d=1\/d=2\/d=3:=by exact BK ‹_› ‹_›
 ·exact(aw ae (aL rfl) (λ_=>rfl))
 ·exact(aw (a 1) (aI (aL rfl)) (λ_=>rfl))
 ·exact(aw (a 2) (aI (aI (aL rfl))) (λ_=>rfl))
 ·exact(aw (a 4) (aI (aI (aI rfl))) (λ_=>rfl))
noncomputable abbrev nJ:am:=[118,97,114]
abbrev vC(V:Nat)(X:Int)(p:Bool)(q:Nat):ah:=(((fc.c 153 (.d V)).c 32 (.b X)).c 103 (.o p)).c 184 (.h 13 q)
theorem vD{q:List (ak×A)}(s0:cF l){w:Int}(n0:0<w)(E:w<=12):
 ∃d G0,cF G0/\0<=d/\d<w/\aq (n+1) (.g 23) [.d V,.b w] (eX C q V l)=.b (.b d) (eX C q V G0):=kg s0 n0 E
end
namespace vE
noncomputable def E0(n:Nat)(C:j)(V:Nat)(l:List Int)(I:Nat)(X:Int):Prop:=∀(p0:V<C.b)(s0:cF l)(n0:0<=X)(h4:X<4)(e0:([80,81,82,83]:List Nat)[X.toNat]?=a I)(p:Bool),∃(Q:Bool) (o:Option Int) (G0:List Int),(match Q with|false=>o=a 0|true=>o=ae\/o=a 1\/o=a 2\/o=a 4)/\cF G0/\
 aO (aq (n+2)) (mX.take 4) (((fc.c 153 (.d V)).c 32 (.b X)).c 103 (.o p)) (C.d V (bF l))=.b (.b,vC V X p C.b) (eX C (eE I (.b (if Q then 5 else 0)) (eA o) (.c nJ) (.d (C.b+1)) af) V G0)
noncomputable def O0:Nat×j×Nat×(List Int)×Nat×Int->Prop:=W λn=>W λC=>W λV=>W λl=>W λI=>λX=>E0 n C V l I X
def c0:=dQ (J (bY dZ (J (J (J inferInstance))))) O0
def n:Nat:=c0.1
def C:j:=c0.2.1
def V:Nat:=c0.2.2.1
def l:List Int:=c0.2.2.2.1
def I:Nat:=c0.2.2.2.2.1
def X:Int:=c0.2.2.2.2.2
theorem Q0:E0 n C V l I X:=by
 intro p0 s0 n0 h4 e0 p
 have M0:V≠C.b:=bC p0
 have j:lC (aq (n+2)) 13 [.c [I]] (C.d V (bF l))=.b (.h 13 C.b) (eX C (eE I (.b 1) (.b 0) (.c nJ) (.d (C.b+1)) av) V l):=by
  refine GB (f:=213) (C:=C.d V (bF l)) rfl ?_
  have E:(C.d V (bF l)).e (.b [])=((C.d V (bF l)).e (.b [])).d C.b (.b (bW [])):=(iY gm).symm
  show aq _ _ [.h 13 C.b,_] _=_
  rw[E,SU (n:=n+1) (show C.b≠C.b+1 by exact bC (fM _))]
  rw[zT M0,zT (show V≠C.b+1 by exact bC (aM p0 (dp _ _))),qJ M0]
  rfl
 refine cX (vD (n:=n+1) (C:=C) (V:=V) (q:=eE I (.b 1) (.b 0) (.c nJ) (.d (C.b+1)) af) s0 (w:=5) (by decide) (by decide)) λD l1 Y a1 b1 e1=>?_
 obtain⟨Q,q0⟩:=SW a1 b1
 have t0:∀O,cz O (.c [80,81,82,83]) (.b X)=a (.c [I]):=λO=>by rw[zD n0 (bQ ‹_› (by decide)),e0];rfl
 induction Q with
 |false=>
  refine(jh av (a 0) l1 rfl Y ?_)
  have g:∀O,cz O (.e [.b 0,.b 0,.b 0,.b 5,.b 5]) (.b D)=a (.b 0):=q0
  simp[eE]at e1
  simp[mX,t0,j,vB p0,qL,eE,g,e1,Hi (zU p0)]
  rfl
 |true=>
  have g:∀O,cz O (.e [.b 0,.b 0,.b 0,.b 5,.b 5]) (.b D)=a (.b 5):=q0
  refine cX (vD (n:=n+1) (C:=C) (V:=V) (q:=eE I (.b 5) (.b 0) (.c nJ) (.d (C.b+1)) af) Y (w:=4) (by decide) (by decide)) λd2 l2 M a2 b2 e2=>?_
  refine aA (SX a2 b2) λo v Y0=>?_
  refine(jh af o l2 v M ?_)
  simp[eE]at e1 e2
  simp[mX,t0,j,vB p0,qL,eE,g,e1,e2,Hi (zU p0),Y0]
end vE
theorem SY{n:Nat}{C:j}{V:Nat}{l:List Int}{I:Nat}{X:Int}:vE.E0 n C V l I X:=dS (Y:=vE.O0) vE.Q0 (n,C,V,l,I,X)
section
variable{n:Nat}{C O:j}{V r:Nat}{l:List Int}
theorem SZ{q:List (ak×A)}(s0:cF l)(p:Bool):∃d G0,cF G0/\fK.e p d/\aq (n+2) (.g 17) [.d V,.o p] (eX C q V l)=.b d.c (eX C q V G0):=SS s0 p
end
namespace vF
noncomputable def E0(n:Nat)(C:j)(V:Nat)(l:List Int)(I q:Nat)(X:Int)(g r:A):Prop:=∀(p0:V<C.b)(s0:cF l)(n0:0<=X)(p:Bool),∃(m0:dH) (G0:List Int),(match m0 with|.b d=>d.e p|_=>True)/\cF G0/\
 aq.leave (aO (aq (n+2)) (mX.drop 4) (vC V X p C.b) (eX C (eE I g r (.c nJ) (.d q) af) V l))=.b (.h 13 C.b) (eX C (eE I g r (.c m0.c) (m0.g q) af) V G0)
noncomputable def O0:Nat×j×Nat×(List Int)×Nat×Nat×Int×A×A->Prop:=W λn=>W λC=>W λV=>W λl=>W λI=>W λq=>W λX=>W λg=>λr=>E0 n C V l I q X g r
def c0:=dQ (J (bY dZ (J (J (J (J (J (J inferInstance)))))))) O0
def n:Nat:=c0.1
def C:j:=c0.2.1
def V:Nat:=c0.2.2.1
def l:List Int:=c0.2.2.2.1
def I:Nat:=c0.2.2.2.2.1
def q:Nat:=c0.2.2.2.2.2.1
def X:Int:=c0.2.2.2.2.2.2.1
def g:A:=c0.2.2.2.2.2.2.2.1
def r:A:=c0.2.2.2.2.2.2.2.2
theorem Q0:E0 n C V l I q X g r:=by
 intro p0 s0 n0 p
 refine cX (vD (n:=n+1) (C:=C) (V:=V) (q:=eE I g r (.c nJ) (.d q) af) s0 (w:=8) (by decide) (by decide)) λL l3 Q a3 b3 e3=>?_
 have o:∀l3,cF l3->∃(m0:dH) (G0:List Int),(match m0 with|.b d=>d.e p|_=>True)/\cF G0/\
  aO (aq (n+2)) [.c (.g .b (.m (.h 23) [.b 153,.c (.b 2)]) (.c (.b 1))) [.g (.b 184) 200 (.c (.c [97,114,114,97,121])),.g (.b 184) 55 (.m (.h 17) [.b 153,.b 103])] []] (vC V X p C.b) (eX C (eE I g r (.c nJ) (.d q) af) V l3)=.b (.b,vC V X p C.b) (eX C (eE I g r (.c m0.c) (m0.g q) af) V G0):=λl3 Q=>by
  refine cX (vD (n:=n+1) (C:=C) (V:=V) (q:=eE I g r (.c nJ) (.d q) af) Q (w:=2) (by decide) (by decide)) λE l4 P4 a4 b4 e4=>?_
  by_cases h:E=1
  ·subst h
   refine de (SZ (n:=n) (C:=C) (V:=V) (q:=eE I g r (.c il) (.d q) af) P4 p) λY f O z0 e5=>?_
   refine(bU (.b Y) f z0 O ?_)
   simp[eE]at e4 e5
   simp[vB p0,qL,eE,e4,e5]
   rfl
  ·refine(bU (.e) l4 trivial P4 ?_)
   simp[eE]at e4
   simp[eE,e4,h]
   rfl
 by_cases N:0<X
 ·by_cases U:L=7
  ·subst U
   refine(bU (.f) l3 trivial Q ?_)
   simp[eE]at e3
   simp[mX,vB p0,qL,eE,e3,N]
   rfl
  ·refine de (o l3 Q) λm0 G0 D0 v e=>?_
   refine(bU m0 G0 D0 v ?_)
   simp[eE]at e3 e
   simp[mX,eE,e3,N,U,e]
 ·refine de (o l s0) λm0 G0 D0 v e=>?_
  refine(bU m0 G0 D0 v ?_)
  simp[eE]at e
  simp[mX,eE,N,e]
end vF
theorem Ta{n:Nat}{C:j}{V:Nat}{l:List Int}{I q:Nat}{X:Int}{g r:A}:vF.E0 n C V l I q X g r:=dS (Y:=vF.O0) vF.Q0 (n,C,V,l,I,q,X,g,r)
section
variable{n:Nat}{C O:j}{V r:Nat}{l:List Int}
theorem Tb(p0:V<C.b)(s0:cF l){I:Nat}{X:Int}(n0:0<=X)(h4:X<4)(e0:([80,81,82,83]:List Nat)[X.toNat]?=a I)(p:Bool):
 ∃H G0,D.h p H/\H.b=I/\cF G0/\aq (n+3) (.g 18) [.d V,.b X,.o p] (C.d V (bF l))=.b (.h 13 C.b) (eX C (jp H (C.b+1)) V G0):=by
 refine eJ (SY (n:=n) p0 s0 n0 h4 e0 p) λQ o l1 v Y e=>?_
 refine de (Ta (n:=n) (C:=C) (V:=V) p0 Y (I:=I) (q:=C.b+1) n0 (g:=.b (if Q then 5 else 0)) (r:=eA o) p) λm0 l2 D0 M e2=>?_
 refine(gM ⟨I,Q,o,m0⟩ l2 ⟨v,D0⟩ rfl M ?_)
 refine(bh rfl rfl).trans ?_
 refine eY ?_ e2
 exact congrArg _ (fV 4 e)
end
section
variable{n:Nat}{C O:j}{V r:Nat}{l:List Int}
theorem Hj{S p I d e:A}{i:Int}(n0:0<=i)(E:i<5):∀(s0:A->Prop),s0 S->s0 p->s0 I->s0 d->s0 e->∃Z,s0 Z/\∀C,cz C (.e [S,p,I,d,e]) (.b i)=a Z:=by
 intro s0 v0 W e0 z0 C0
 obtain rfl|rfl|rfl|rfl|rfl:i=0\/i=1\/i=2\/i=3\/i=4:=by exact BL ‹_› ‹_›
 ·exact(aw S v0 (λ_=>rfl))
 ·exact(aw p W (λ_=>rfl))
 ·exact(aw I e0 (λ_=>rfl))
 ·exact(aw d z0 (λ_=>rfl))
 ·exact(aw e C0 (λ_=>rfl))
noncomputable def Hk(T:A):Prop:=∃t:cx,t.b/\T=ec t
end
namespace vG
noncomputable def E0(n:Nat)(C:j)(V r:Nat)(l:List Int)(q:Nat):Prop:=∀{H:D}(j0:C.c r=a (.b (bW (jp H q))))(M0:r≠V)(s0:cF l),∃t G0,cx.b t/\cF G0/\aq (n+2) (.g 15) [.d V,.h 13 r] (C.d V (bF l))=.b (ec t) (C.d V (bF G0))
noncomputable def O0:Nat×j×Nat×Nat×(List Int)×Nat->Prop:=W λn=>W λC=>W λV=>W λr=>W λl=>λq=>E0 n C V r l q
def c0:=dQ (J (bY dZ (J (J (J inferInstance))))) O0
def n:Nat:=c0.1
def C:j:=c0.2.1
def V:Nat:=c0.2.2.1
def r:Nat:=c0.2.2.2.1
def l:List Int:=c0.2.2.2.2.1
def q:Nat:=c0.2.2.2.2.2
theorem Q0:E0 n C V r l q:=by
 intro H j0 M0 s0
 have w0:∀l,(C.d V (bF l)).c r=a (.b (bW (jp H q))):=λl=>by rw[cf M0];exact j0
 have v:∀l(w:A->au A),eW (C.d V (bF l)) 200 (.h 13 r) w=w (.c H.c.c):=λl w=>ki (w0 l) rfl rfl
 have u:∀l(w:A->au A),eW (C.d V (bF l)) 108 (.h 13 r) w=w (.b H.e):=λl w=>ki (w0 l) rfl rfl
 have g:¬H.c.c=[102,117,110,99]->∃t G0,cx.b t/\cF G0/\aq (n+2) (.g 15) [.d V,.h 13 r] (C.d V (bF l))=.b (ec t) (C.d V (bF G0)):=λB0=>by
  refine cX (kg (n:=n) (C:=C) (V:=V) s0 (w:=5) (by decide) (by decide)) λd0 l1 Y a1 b1 e1=>?_
  refine cX (kg (n:=n) (C:=C) (V:=V) Y (w:=12) (by decide) (by decide)) λd l2 M a2 b2 e2=>?_
  by_cases T:d=11
  ·subst T
   by_cases K0:d0<3
   ·refine(bU (.e 70) l2 (aL rfl) M ?_)
    refine(bh rfl rfl).trans ?_
    simp[qv,v,B0,e1,e2,K0]
    rfl
   ·refine(bU (.f) l2 trivial M ?_)
    refine(bh rfl rfl).trans ?_
    simp[qv,v,B0,e1,e2,K0]
    rfl
  ·refine cX (kg (n:=n) (C:=C) (V:=V) M (w:=3) (by decide) (by decide)) λL l3 Q a3 b3 e3=>?_
   generalize h5:H.g=x9;induction x9 with
   |false=>
    refine cX (kg (n:=n) (C:=C) (V:=V) Q (w:=2) (by decide) (by decide)) λE l4 P4 a4 b4 e4=>?_
    refine cX (kg (n:=n) (C:=C) (V:=V) P4 (w:=4) (by decide) (by decide)) λB f O a5 b5 e5=>?_
    refine aA (Hj (S:=nC) (p:=.e [.c gk,.b 0,.c [74]]) (I:=.e [.c lE,.b 0,.c [65],.k [dk L,dk (1+E)]]) (d:=.e [.c il,.b 0,.c [65]]) (e:=.e [.c [97,100,100],.b 0,nC,dk B]) a1 b1 Hk
     (aw (.f) trivial rfl) (aw (.m) trivial rfl) (aw (.g L (1+E)) ⟨a3,by exact bQ (rz b3) (by decide),by exact bQ (by decide) (gy (gz _) a4),by exact bQ (gy (gz _) (rz b4)) (by decide)⟩ rfl) (aw (.n) trivial rfl) (aw (.d B) ⟨a5,by exact bQ (rz b5) (by decide)⟩ rfl)) λZ J0 b0=>?_;obtain⟨t,F0,rfl⟩:=J0
    refine(bU t f F0 O ?_)
    refine(bh rfl rfl).trans ?_
    simp[qv,v,u,B0,e1,e2,e3,e4,e5,T,h5,b0]
   |true=>
    refine cX (kg (n:=n) (C:=C) (V:=V) Q (w:=3) (by decide) (by decide)) λE l4 P4 a4 b4 e4=>?_
    refine aA (Hj (S:=kP) (p:=.e [.c lE,.b 5,.c [68],.k [dk (1+L)]]) (I:=.e [.c il,.b 5,.c [68]]) (d:=.e [.c oX,.b 5,kP,dk (1+E),.m]) (e:=.e [.c [99,97,116],.b 5,kP,.e [.c [99,111,110,115,116],.b 5,.c [43]]]) a1 b1 Hk
     (aw (.o) trivial rfl) (aw (.h (1+L)) ⟨by exact bQ (by decide) (gy (gz _) a3),by exact bQ (gy (gz _) (rz b3)) (by decide)⟩ rfl) (aw (.p) trivial rfl) (aw (.k (1+E)) ⟨by exact bQ (by decide) (gy (gz _) a4),by exact bQ (gy (gz _) (rz b4)) (by decide)⟩ rfl) (aw (.l) trivial rfl)) λZ J0 b0=>?_;obtain⟨t,F0,rfl⟩:=J0
    refine(bU t l4 F0 P4 ?_)
    refine(bh rfl rfl).trans ?_
    simp[qv,v,u,B0,e1,e2,e3,e4,T,h5,b0]
 generalize D0:H.c=x9;induction x9 with
 |f=>
  refine cX (kg (n:=n) (C:=C) (V:=V) s0 (w:=3) (by decide) (by decide)) λd l1 Y a1 b1 e1=>?_
  obtain⟨I,e0,l0⟩:∃I:Nat,(I=70\/I=71\/I=72)/\∀C,cz C (.c [70,71,72]) (.b d)=a (.c [I]):=by
   obtain rfl|rfl|rfl:d=0\/d=1\/d=2:=by exact BJ ‹_› ‹_›
   ·exact(aw 70 (aL rfl) (λ_=>rfl))
   ·exact(aw 71 (aI (aL rfl)) (λ_=>rfl))
   ·exact(aw 72 (aI (aI rfl)) (λ_=>rfl))
  refine(bU (.e I) l1 e0 Y ?_)
  refine(bh rfl rfl).trans ?_
  simp[qv,v,D0,dH.c,e1,l0]
  rfl
 |e=>exact g (by rw[D0];decide)
 |b d=>exact g (by rw[D0];show¬il=_;decide)
end vG
theorem Tc{n:Nat}{C:j}{V r:Nat}{l:List Int}{q:Nat}:vG.E0 n C V r l q:=dS (Y:=vG.O0) vG.Q0 (n,C,V,r,l,q)
section
variable{n:Nat}{C O:j}{V r:Nat}{l:List Int}
end
structure aW(z0:List Nat)(C O:j):Prop where
 b:C.b<=O.b
 g:O.f=C.f
 c:∀Z,Z<C.b->Z∉z0->O.c Z=C.c Z
section
variable{n:Nat}{C O g1:j}{z0 t0:List Nat}{r:Nat}{o:bM}
theorem aW.d:aW z0 C C:=⟨bS _,rfl,λ_ _ _=>rfl⟩
theorem aW.trans(S:aW z0 C O)(p:aW z0 O g1):aW z0 C g1:=
 ⟨az S.b p.b,p.g.trans S.g,λZ b0 K0=>(p.c Z (aM b0 S.b) K0).trans (S.c Z b0 K0)⟩
theorem aW.f(S:aW z0 C O)(h:∀Z∈z0,Z∈t0):aW t0 C O:=⟨S.b,S.g,λZ b0 K0=>S.c Z b0 λa0=>K0 (h Z a0)⟩
theorem aW.e(S:aW z0 C O)(p:aW t0 O g1)(h:∀Z∈t0,Z∈z0\/C.b<=Z):aW z0 C g1:=
 ⟨az S.b p.b,p.g.trans S.g,λZ b0 K0=>(p.c Z (aM b0 S.b) λa0=>by
   rcases h Z a0 with h|h
   ·exact K0 h
   ·lia).trans (S.c Z b0 K0)⟩
theorem dg(h:r∈z0):aW z0 C (C.d r o):=⟨bS _,rfl,λZ _ K0=>cf λe=>K0 (e▸h)⟩
theorem dL:aW z0 C (C.e o):=⟨pi _,rfl,λZ b0 _=>iG (bC b0)⟩
theorem nK:aq (n+1) (.g 20) [] C=.b (.d C.b) (C.e (.b cR)):=by kernel_rfl
end
section
variable{n:Nat}{C:j}{m c1:Nat}{s:List Int}{x:List Nat}
noncomputable abbrev cS(m c1:Nat):A:=.e [.d m,.d c1]
end
namespace vH
noncomputable def E0(n:Nat)(C:j)(m c1:Nat)(x:List Nat):Prop:=∀{s:List Int}(g:nE s x)(n0:C.c m=a (.c (s.map bi)))(E:C.c c1=a (.c (x.map bc)))(F:m<C.b)(f:c1<C.b)(M0:m≠c1)(t:cx)(Q:t.b),∃O,aq (n+2) (.g 21) [cS m c1,ec t] C=.b (oY s x t).c O/\aW [m,c1] C O/\O.c m=a (.c ((df s t).map bi))/\O.c c1=a (.c ((ee x t).map bc))
noncomputable def O0:Nat×j×Nat×Nat×(List Nat)->Prop:=W λn=>W λC=>W λm=>W λc1=>λx=>E0 n C m c1 x
def c0:=dQ (J (bY dZ (J (J inferInstance)))) O0
def n:Nat:=c0.1
def C:j:=c0.2.1
def m:Nat:=c0.2.2.1
def c1:Nat:=c0.2.2.2.1
def x:List Nat:=c0.2.2.2.2
theorem Q0:E0 n C m c1 x:=by
 intro s g n0 E F f M0 t Q
 have b:=g.b
 have H:=g.i
 have k:=g.f
 have Y:=g.c
 have l:∀Z o,Z<C.b->(C.e o).c Z=C.c Z:=λZ o h=>iG (bC h)
 have r:cC C .e (.c gk) (.e [.c gk,.c il])=a af:=rfl
 have O:cC C .e (.c il) (.e [.c gk,.c il])=a af:=rfl
 have R:cC C .e (.c lE) (.e [.c gk,.c il])=a av:=rfl
 have d:cC C .e (.c oX) (.e [.c gk,.c il])=a av:=rfl
 have N:cC C .e (.c [97,100,100]) (.e [.c gk,.c il])=a av:=rfl
 have V:cC C .e (.c [99,97,116]) (.e [.c gk,.c il])=a av:=rfl
 have c:∀w,cz (C.e (.b cR)) (.d C.b) (.c w)=aX cR w:=λw=>lB gm
 induction t with
 |e I=>
  refine(ix C ?_ aW.d n0 E)
  refine(bh rfl rfl).trans ?_
  rcases Q with rfl|rfl|rfl<;>(simp[jY,Sl];rfl)
 |f=>
  refine(ix (C.e (.b cR)) ?_ dL ((l _ _ F).trans n0) ((l _ _ f).trans E))
  refine(bh rfl rfl).trans ?_
  simp[jY,Sm,r,nK,c]
  rfl
 |m=>
  refine(ix (C.e (.b cR)) ?_ dL ((l _ _ F).trans n0) ((l _ _ f).trans E))
  refine(bh rfl rfl).trans ?_
  simp[jY,Sn,r,nK,c]
  rfl
 |n=>
  refine(ix (C.e (.b cR)) ?_ dL ((l _ _ F).trans n0) ((l _ _ f).trans E))
  refine(bh rfl rfl).trans ?_
  simp[jY,Sp,O,nK,c]
  rfl
 |o=>
  refine(ix (C.e (.b cR)) ?_ dL ((l _ _ F).trans n0) ((l _ _ f).trans E))
  refine(bh rfl rfl).trans ?_
  simp[jY,Sr,r,nK,c]
  rfl
 |p=>
  refine(ix (C.e (.b cR)) ?_ dL ((l _ _ F).trans n0) ((l _ _ f).trans E))
  refine(bh rfl rfl).trans ?_
  simp[jY,Su,O,nK,c]
  rfl
 |g i B=>
  refine ol (Q) λa1 a2 a3 a4=>?_
  refine(ix C ?_ aW.d n0 E)
  refine(bh rfl rfl).trans ?_
  have e:=ii (C:=C) (i:=3) (B:=B-1) (by decide) (el (jJ (sL (a0:=2) (by assumption) (by assumption)) (show(1:Int).natAbs<=1 by decide)) (by decide))
  simp[jY,So,R,kO,vw,e]
  rfl
 |h i=>
  obtain⟨a1,a2⟩:=Q
  refine(ix C ?_ aW.d n0 E)
  refine(bh rfl rfl).trans ?_
  have e:=ii (C:=C) (i:=2) (B:=i) (by decide) (el (sL (a0:=3) (by assumption) (by assumption)) (by decide))
  simp[jY,Ss,R,kO,e]
  rfl
 |k i=>
  refine(ix C ?_ aW.d n0 E)
  refine(bh rfl rfl).trans ?_
  simp[jY,Sv,d]
  rfl
 |d q=>
  refine(ix (C.d m (.c ((s++[s.headD 0+q]).map bi))) ?_ (dg (et _)) cE (by rw[cf M0.symm];exact E))
  refine(bh rfl rfl).trans ?_
  have e1:cz C (.d m) (.b 0)=a (bi (s.headD 0)):=by
   rw[oR n0 (by decide) (by decide)]
   show(s.map bi)[0]?=_
   rw[ft,g.m];rfl
  have e2:=qG (C:=C) (T:=bi (s.headD 0+q)) n0 (by rw[bK];exact az H (by decide))
  have e3:=iW (C:=C.d m (.c (s.map bi++[bi (s.headD 0+q)]))) cE (by simp;exact az H (by decide))
  have e4:(s++[s.headD 0+q]).map bi=s.map bi++[bi (s.headD 0+q)]:=kZ
  rw[e4]
  clear e4
  generalize s.headD 0=z at e1 e2 e3⊢
  simp[jY,Sq,N,nv n0,e1,e2,e3]
  rfl
 |l=>
  refine(ix (C.d c1 (.c ((x++(x.take 5++[43])).map bc))) ?_ (dg (gK _ (et _))) (by rw[cf M0];exact n0) cE)
  refine(bh rfl rfl).trans ?_
  have e1:=iW (C:=C) E (by rw[bK];exact az k (by decide))
  have e2:fx C (.d c1) ae (a 5)=a (.k ((x.take 5).map bc)):=by
   rw[vq E rfl rfl (by rw[bK];exact az k (by decide))]
   show a (A.k ((x.map bc).take 5))=_
   rw[GI]
  have e3:=Rw (C:=C) (S:=(x.take 5).map bc) (p:=[bc 43]) (by simp;exact az (jR _ _) (by decide))
  have e4:=RM (C:=C) (w:=(x.take 5).map bc++[bc 43]) E (by simp;exact az (kT k (kT (az (jR _ _) (bS _)) (bS _))) (by decide))
  have e5:(x++(x.take 5++[43])).map bc=x.map bc++((x.take 5).map bc++[bc 43]):=by simp
  rw[e5]
  clear e5
  generalize(x.take 5).map bc=v at e2 e3 e4⊢
  simp[jY,Sw,V,nv E,e1,iV,e2,e3,e4]
  rfl
end vH
theorem Td{n:Nat}{C:j}{m c1:Nat}{x:List Nat}:vH.E0 n C m c1 x:=dS (Y:=vH.O0) vH.Q0 (n,C,m,c1,x)
section
variable{n:Nat}{C:j}{m c1:Nat}{s:List Int}{x:List Nat}
end
def cZ(H:D)(t:aP):Option A:=match H.c,t with
 |.f,.f I=>a (.c [I])
 |.f,.e ..=>ae
 |_,.f _=>ae
 |m0,.e w S y _=>if H.g=ba (w=5)then
   (match H.g,H.f,m0 with
     |true,a i,.e=>if i>y then ae else a (bt 5 S i (.e []))
     |true,a i,_=>a (bt 5 S i (.e []))
     |true,ae,_=>a (bt 5 S y (.e []))
     |false,_,_=>a (bt 0 S 0 (.e [])))
   else ae
noncomputable def bG(k:List D)(X:List A):List (am×A):=rA (λH T=>([H.b],T)) k X
noncomputable def aP.g:aP->Prop
 |.f _=>True
 |.e w _ y _=>(w=0/\y=0)\/(w=5/\0<=y/\y<=6)
theorem zV:∀{k:List D}{X:List A}{V:am×A},V∈bG k X->∃H,H∈k/\V.1=[H.b]:=by
 intro J
 induction J with
 |nil=>
  intro _ _ h
  cases h
 |cons H k U=>
  intro n
  induction n using bL with
  |nil=>
   intro _ h
   cases h
  |cons T X=>
   intro V h
   rcases iw.mp (show V∈([H.b],T)::bG k X from h)with rfl|h
   ·exact(aw H cg rfl)
   ·refine aA (U h) λc1 l0 e=>?_
    exact(aw c1 (ge _ l0) e)
theorem qM{k:List D}{X:List A}(y0:(k.map (·.b)).Nodup)(k0:X.length=k.length){B:Nat}{H:D}(l0:k[B]?=a H):aX (bG k X) [H.b]=X[B]?:=by
 induction k generalizing X B with
 |nil=>exact bD l0
 |cons Z k Y=>
  induction X using bL with
  |nil=>cases k0
  |cons T X=>
   have R:=tu.mp y0
   induction B using kX with
   |zero=>(replace l0:=bn l0;subst l0);unfold aX bG;simp
   |succ B=>
    have k1:k[B]?=a H:=l0
    have M0:¬Z.b=H.b:=λe=>R.1 (iq.mpr (aw H (eH k1) e.symm))
    have:=Y R.2 (tD k0) k1
    unfold aX bG at this⊢
    simpa [M0]using this
theorem Hl{k:List D}{X:List A}{T:A}(y0:(k.map (·.b)).Nodup)(k0:X.length=k.length){B:Nat}{H:D}(l0:k[B]?=a H):bv (bG k X) [H.b] T=bG k (X.set B T):=by
 have l:(bG k X).any (λV=>ba (V.1=[H.b]))=af:=by
  have E:=qM y0 k0 l0
  have P:B<X.length:=by rw[k0];exact(iv.mp l0).1
  rw[eG P]at E
  unfold aX at E
  generalize q:(bG k X).find? (λV=>ba (V.1=[H.b]))=x9;induction x9 with
  |none=>rw[q]at E;cases E
  |some V=>exact mv.mpr (aw V (AL q) (by have:=Im q;exact this))
 unfold bv
 rw[if_pos l]
 clear l
 induction k generalizing X B with
 |nil=>exact bD l0
 |cons Z k Y=>
  induction X using bL with
  |nil=>cases k0
  |cons m0 X=>
   have R:=tu.mp y0
   have A0:∀(X:List A),(∀y∈k,¬y.b=H.b)->(bG k X).map (λV=>if V.1=[H.b]then(V.1,T)else V)=bG k X:=λX E0=>by
    refine(AS (g:=id) λV p0=>?_).trans (Xk _)
    show(if V.1=[H.b]then(V.1,T)else V)=V
    refine aA (zV p0) λy O e=>?_
    rw[if_neg λh=>E0 y O (by rw[e]at h;injection h)]
   induction B using kX with
   |zero=>
    replace l0:=bn l0;subst l0
    have:=A0 X (λy E0 e=>R.1 (iq.mpr (aw y E0 e)))
    unfold bG at this⊢
    simp only[JA,dX,if_true,IB]
    rw[this]
   |succ B=>
    have k1:k[B]?=a H:=l0
    have M0:¬Z.b=H.b:=λe=>R.1 (iq.mpr (aw H (eH k1) e.symm))
    have:=Y R.2 (tD k0) k1
    unfold bG at this⊢
    simp only[JA,dX,VV]
    rw[this,if_neg (λh=>M0 (by injection h))]
theorem zW{k:List D}{X:List A}{H:D}{T:A}(k0:X.length=k.length)(y0:H.b∉k.map (·.b)):bv (bG k X) [H.b] T=bG (k++[H]) (X++[T]):=by
 have l:¬(bG k X).any (λV=>ba (V.1=[H.b]))=af:=λh=>by
  refine aA (mv.mp h) λV p0 e=>?_
  have e:=of_decide_eq_true e
  refine aA (zV p0) λy O P0=>?_
  refine y0 (iq.mpr (aw y O ?_))
  rw[P0]at e
  injection e
 unfold bv
 rw[if_neg l]
 unfold bG
 rw[List.zipWith_append k0.symm]
 rfl
noncomputable def dH.h:dH->Bool|.b _=>af|_=>av
structure cH(g:Nat)(C:j)(r:Nat)(H:D):Prop where
 U:r<g
 o:∃q,q<g/\C.c r=a (.b (bW (jp H q)))/\cy C (H.c.g q)=a H.c.h
structure qN(g:Nat)(C:j)(z:List Nat)(k:List D):Prop where
 b:z.length=k.length
 c:k.length<=4
 d:(k.map (·.b)).Nodup
 e:∀(B r:Nat)(H:D),z[B]?=a r->k[B]?=a H->cH g C r H
section
variable{n g:Nat}{C O:j}{r:Nat}{H:D}{z:List Nat}{k:List D}{z0:List Nat}
theorem zX{q:Nat}{m0:dH}(h:O.c q=C.c q):cy O (m0.g q)=cy C (m0.g q):=by
 have t:cy O (.d q)=cy C (.d q):=by
  show(match O.c q with|some (.c l)=>if l.length<=100000 then a (!l.isEmpty)else ae|_=>ae)=(match C.c q with|some (.c l)=>if l.length<=100000 then a (!l.isEmpty)else ae|_=>ae)
  rw[h]
 induction m0 with
 |b d=>rfl
 |e=>exact t
 |f=>exact t
theorem cH.L(J:cH g C r H)(h:∀Z,Z<g->O.c Z=C.c Z):cH g O r H:=by
 refine dP (J.o) λq E N h3=>?_
 exact⟨J.U,q,E,by rw[h r J.U];exact N,by rw[zX (h q E)];exact h3⟩
theorem cH.y(J:cH g C r H)(t:aW z0 C O)(u0:g<=C.b)(B:∀Z∈z0,g<=Z):cH g O r H:=J.L λZ b0=>t.c Z (aM b0 u0) λa0=>by have:=B Z a0;lia
theorem qN.f(J:qN g C z k)(h:∀Z,Z<g->O.c Z=C.c Z):qN g O z k:=⟨J.b,J.c,J.d,λB r H E N=>(J.e B r H E N).L h⟩
theorem cH.X(J:cH g C r H){w:A->au A}:eW C 133 (.h 13 r) w=w (.c [H.b]):=by refine dP (J.o) λq E N h3=>?_;exact ki N rfl rfl
theorem cH.M(J:cH g C r H){w:A->au A}:eW C 108 (.h 13 r) w=w (.b H.e):=by refine dP (J.o) λq E N h3=>?_;exact ki N rfl rfl
theorem cH.c0(J:cH g C r H){w:A->au A}:eW C 115 (.h 13 r) w=w (eA H.f):=by refine dP (J.o) λq E N h3=>?_;exact ki N rfl rfl
theorem cH.I(J:cH g C r H){w:A->au A}:eW C 200 (.h 13 r) w=w (.c H.c.c):=by refine dP (J.o) λq E N h3=>?_;exact ki N rfl rfl
end
section
variable{n g:Nat}{C O:j}{f:Nat}{z:List Nat}{k:List D}{e0:List aP}{s:List Int}{x:List Nat}
@[simp]theorem R7{c:Type}{p:Bool}{Z:c}:oQ Z Z p=Z:=by induction p<;>rfl
@[simp]theorem U7{o:Option Int}:kM (eA o)=o.isNone:=by induction o<;>rfl
theorem kj{w:Int}:cC C .b (.b w) (.c nB)=a av:=rfl
noncomputable def eO:List aT:=[.q [184,166] (.k [.d (.b 185) (.b 32),.d (.b 167) (.b 32)]),.c (.g .c (.g .b (.n (.b 184) 200) (.c (.c [102,117,110,99]))) (.g .b (.d (.b 166) (.c (.b 0))) (.c (.c [112,114,111,99])))) [.b (.c .m)] [],.c (.g .b (.n (.b 184) 200) (.c (.c [102,117,110,99]))) [.l (.b 80) (.n (.b 184) 133) (.d (.b 166) (.c (.b 1))),.E] [],.c (.g .c (.g .b (.n (.b 184) 108) (.c (.b 5))) (.g .b (.d (.b 166) (.c (.b 0))) (.c (.b 5)))) [.b (.c .m)] [],.d 115 (.u (.E (.n (.b 184) 115)) (.d (.b 166) (.c (.b 2))) (.n (.b 184) 115)),.c (.w [.g .b (.n (.b 184) 108) (.c (.b 5)),.g .d (.b 115) (.d (.b 166) (.c (.b 2))),.g .c (.n (.b 184) 200) (.c (.c [97,114,114,97,121]))]) [.b (.c .m)] [],.l (.b 80) (.n (.b 184) 133) (.k [.n (.b 184) 108,.d (.b 166) (.c (.b 1)),.b 115,.k []])]
structure nL(b:ah)(G f:Nat)(e0:List aP)(m c1:Nat):Prop where
 c:b 185=a (.d G)
 h:b 167=a (.k (e0.map aP.c))
 d:b 80=a (.d f)
 e:b 39=a (cS m c1)
noncomputable def ml(H:D):Prop:=match H.g with|false=>H.f=a 0|true=>H.f=ae\/H.f=a 1\/H.f=a 2\/H.f=a 4
end
namespace vI
noncomputable def E0(C:j)(c:v)(b:ah):Prop:=∀{g f:Nat}{e0:List aP}{i:Int}{B r G m c1:Nat}{H:D}{t:aP}{F:List (am×A)}{l:List A}(U:nL b G f e0 m c1)(f0:i=B)(P:B<100)(k0:C.c G=a (.c l))(j0:l[B]?=a (.h 13 r))(l0:cH g C r H)(q0:ml H)(O:e0[B]?=a t)(F0:t.g)(B0:C.c f=a (.b F))(A0:F.length<=1000),(cZ H t=ae->∃o0,bf c (.b 32) eO (.b i) b C=.b (.c .m,o0) C)/\
 (∀T,cZ H t=a T->∃o0,fG (bf c (.b 32) eO (.b i) b C) o0 (C.d f (.b (bv F [H.b] T)))/\nL o0 G f e0 m c1)
noncomputable def O0:j×v×ah->Prop:=W λC=>W λc=>λb=>E0 C c b
def c0:=dQ (bY dZ (bY rM inferInstance)) O0
def C:j:=c0.1
def c:v:=c0.2.1
def b:ah:=c0.2.2
theorem Q0:E0 C c b:=by
 intro g f e0 i B r G m c1 H t F l U f0 P k0 j0 l0 q0 O F0 B0 A0
 obtain⟨a1,a2,a3,a4⟩:=U
 have e1:cz C (.d G) (.b i)=a (.h 13 r):=by rw[oR k0 (lz ‹_›) (oi ‹_› ‹_› (by decide)),show i.toNat=B by exact ng ‹_›,j0]
 have e2:cz C (.k (e0.map aP.c)) (.b i)=a t.c:=by rw[zC (lz ‹_›) (oi ‹_› ‹_› (by decide)),show i.toNat=B by exact ng ‹_›,ft,O];rfl
 have e3:∀(b:ah)T,iZ b (.d f) (.c [H.b]) T C=.b (.b,b) (C.d f (.b (bv F [H.b] T))):=λb T=>nj B0 A0
 have J:=λ{w}=>l0.X (w:=w)
 have u:=λ{w}=>l0.M (w:=w)
 have H0:=λ{w}=>l0.c0 (w:=w)
 have v:=λ{w}=>l0.I (w:=w)
 have k:bf c (.b 32) eO (.b i) b C=aO c (eO.drop 1) (((b.c 32 (.b i)).c 184 (.h 13 r)).c 166 t.c) C:=fV 1 (by simp[eO,a1,a2,e1,e2])
 rw[k]
 clear l0
 clear g f0 P k0 j0 O B0 A0 e1 e2 k;obtain⟨I,Q,y,m0⟩:=H
 dsimp only at J u H0 v e3 q0⊢
 induction t with
 |f d=>
  clear q0 F0 u H0;induction m0 with
  |f=>
   refine⟨λh=>(nomatch h),λT h=>?_⟩
   replace h:=bn h;subst h
   refine(aw _ (aI (by simp[eO,a3,e3,J,v,dH.c,aP.c];rfl)) ⟨by exact a1,by exact a2,by exact a3,by exact a4⟩)
  |e=>
   clear a1 a2 a4 e3 J;refine⟨λ_=>⟨_,by simp[eO,a3,v,dH.c,aP.c];rfl⟩,λT h=>(nomatch h)⟩
  |b d=>
   clear a1 a2 a4 e3 J;refine⟨λ_=>⟨_,by simp[eO,a3,v,dH.c,aP.c];rfl⟩,λT h=>(nomatch h)⟩
 |e w S n d=>
  have k5:(w=0/\n=0)\/(w=5/\0<=n/\n<=6):=F0
  clear F0;induction m0 with
  |f=>
   clear q0 a1 a2 a3 a4 e3 J u H0 k5;refine⟨λ_=>⟨_,by simp[eO,v,dH.c,aP.c,kj];rfl⟩,λT h=>(nomatch h)⟩
  |e=>
   induction Q with
   |false=>
    obtain rfl:y=a 0:=q0
    rcases k5 with⟨rfl,rfl⟩|⟨rfl,_,_⟩
    ·refine⟨λh=>(nomatch h),λT h=>?_⟩
     replace h:=bn h;subst h
     refine(aw _ (aL (by simp[eO,a3,e3,J,v,u,H0,dH.c,aP.c,kj,D.e,eA];rfl)) ⟨by exact a1,by exact a2,by exact a3,by exact a4⟩)
    ·clear a1 a2 a3 a4 e3 J H0;refine⟨λ_=>⟨_,by simp[eO,v,u,dH.c,aP.c,kj,D.e];rfl⟩,λT h=>(nomatch h)⟩
   |true=>
    clear q0;rcases k5 with⟨rfl,rfl⟩|⟨rfl,n0,h6⟩
    ·clear a1 a2 a3 a4 e3 J H0;refine⟨λ_=>⟨_,by simp[eO,v,u,dH.c,aP.c,kj,D.e];rfl⟩,λT h=>(nomatch h)⟩
    ·induction y with
     |none=>
      refine⟨λh=>(nomatch h),λT h=>?_⟩
      replace h:=bn h;subst h
      refine(aw _ (aL (by simp[eO,a3,e3,J,v,u,H0,dH.c,aP.c,kj,D.e];rfl)) ⟨by exact a1,by exact a2,by exact a3,by exact a4⟩)
     |some q=>
      have W:cZ ⟨I,af,a q,.e⟩ (.e 5 S n d)=if q>n then ae else a (bt 5 S q (.e [])):=rfl
      rw[W]
      clear W;by_cases x0:q>n
      ·rw[if_pos x0]
       have j:n<q:=x0
       clear x0;refine⟨λ_=>⟨_,by simp[eO,v,u,H0,dH.c,aP.c,kj,D.e,eA,j];rfl⟩,λT h=>(nomatch h)⟩
      ·rw[if_neg x0]
       have j:¬n<q:=x0
       refine⟨λh=>(nomatch h),λT h=>?_⟩
       replace h:=bn h;subst h
       refine(aw _ (aL (by simp[eO,a3,e3,J,v,u,H0,dH.c,aP.c,kj,D.e,eA,j];rfl)) ⟨by exact a1,by exact a2,by exact a3,by exact a4⟩)
  |b Y=>
   induction Q with
   |false=>
    obtain rfl:y=a 0:=q0
    rcases k5 with⟨rfl,rfl⟩|⟨rfl,_,_⟩
    ·refine⟨λh=>(nomatch h),λT h=>?_⟩
     replace h:=bn h;subst h
     refine(aw _ (aL (by simp[eO,a3,e3,J,v,u,H0,dH.c,aP.c,kj,D.e,eA];rfl)) ⟨by exact a1,by exact a2,by exact a3,by exact a4⟩)
    ·clear a1 a2 a3 a4 e3 J H0;refine⟨λ_=>⟨_,by simp[eO,v,u,dH.c,aP.c,kj,D.e];rfl⟩,λT h=>(nomatch h)⟩
   |true=>
    clear q0;rcases k5 with⟨rfl,rfl⟩|⟨rfl,n0,h6⟩
    ·clear a1 a2 a3 a4 e3 J H0;refine⟨λ_=>⟨_,by simp[eO,v,u,dH.c,aP.c,kj,D.e];rfl⟩,λT h=>(nomatch h)⟩
    ·induction y with
     |none=>
      refine⟨λh=>(nomatch h),λT h=>?_⟩
      replace h:=bn h;subst h
      refine(aw _ (aL (by simp[eO,a3,e3,J,v,u,H0,dH.c,aP.c,kj,D.e];rfl)) ⟨by exact a1,by exact a2,by exact a3,by exact a4⟩)
     |some q=>
      refine⟨λh=>(nomatch h),λT h=>?_⟩
      replace h:=bn h;subst h
      refine(aw _ (aL (by by_cases x0:n<q<;>simp[eO,a3,e3,J,v,u,H0,dH.c,aP.c,kj,D.e,eA,x0]<;>rfl)) ⟨by exact a1,by exact a2,by exact a3,by exact a4⟩)
end vI
theorem Te{C:j}{c:v}{b:ah}:vI.E0 C c b:=dS (Y:=vI.O0) vI.Q0 (C,c,b)
section
variable{n g:Nat}{C O:j}{f:Nat}{z:List Nat}{k:List D}{e0:List aP}{s:List Int}{x:List Nat}
end
noncomputable def zY(x:Int):fe->Option Int
 |.c=>ae
 |.d h=>a h
 |.b=>a x
def gW(x t0:Int)(f0:fe):Option (Option Int):=match zY x f0 with
 |some h=>if h<t0 then ae else a (a h)
 |none=>a ae
noncomputable def fX(x:Int):List (Int×fe)->Option (List (Int×Option Int))
 |[]=>a []
 |(t0,f0)::r=>match gW x t0 f0 with
  |none=>ae
  |some T=>(fX x r).map ((t0,T)::·)
abbrev dW(s:List (Int×Option Int)):List A:=s.map λV=>dU V.1 V.2
section
variable{n:Nat}{C Q:j}{f d m c1:Nat}{s:List Int}{F:List (am×A)}{x:Int}
theorem Hm{I0:A->ah->j->au (bA×ah)}(i:ah->Prop)(k:au (bA×ah)->Prop):∀(C:List (Int×fe))(P:List A)(b:ah),P.length+C.length<=10->i b->
 (∀t0 f0 P b,(t0,f0)∈C->P.length<=9->i b->(gW x t0 f0=ae->oV (I0 (fJ t0 f0) b (Q.d d (.c P)))/\k (I0 (fJ t0 f0) b (Q.d d (.c P))))/\
   (∀T,gW x t0 f0=a T->∃o0,fG (I0 (fJ t0 f0) b (Q.d d (.c P))) o0 (Q.d d (.c (P++[dU t0 T])))/\i o0))->
 (fX x C=ae->k (ch I0 (C.map λV=>fJ V.1 V.2) b (Q.d d (.c P))))/\
 (∀s,fX x C=a s->∃o0,ch I0 (C.map λV=>fJ V.1 V.2) b (Q.d d (.c P))=.b (.b,o0) (Q.d d (.c (P++dW s)))/\i o0):=by
 intro J
 induction J with
 |nil=>
  intro P b _ w0 _
  exact⟨λh=>(nomatch h),λs h=>by(replace h:=bn h;subst h);exact(aw b (by simp) w0)⟩
 |cons f r U=>
  obtain⟨t0,f0⟩:=f
  intro P b Y0 w0 l0
  rw[fi]at Y0
  obtain⟨s1,I⟩:=l0 t0 f0 P b cg (by lia) w0
  rw[dX]
  unfold fX
  generalize h:gW x t0 f0=x9;induction x9 with
  |none=>
   obtain⟨e,Z⟩:=s1 h
   refine⟨λ_=>?_,λs h=>(nomatch h)⟩
   show k (ch I0 (fJ t0 f0::_) b _)
   rw[Gv e];exact Z
  |some T=>
   refine aA (I T h) λo0 r0 v0=>?_
   have Y:=U (P++[dU t0 T]) o0 (by rw[jT];simp;lia) v0 (λt0 f0 P b L=>l0 t0 f0 P b (ge _ L))
   have e:ch I0 (fJ t0 f0::r.map λV=>fJ V.1 V.2) b (Q.d d (.c P))=ch I0 (r.map λV=>fJ V.1 V.2) o0 (Q.d d (.c (P++[dU t0 T]))):=zH r0
   refine⟨λy0=>?_,λs z0=>?_⟩
   ·show k (ch I0 (fJ t0 f0::_) b _)
    rw[e]
    exact Y.1 (by generalize q:fX x r=x9;induction x9 with|none=>rfl|some _=>rw[q]at y0;cases y0)
   ·generalize q:fX x r=x9;induction x9 with
    |none=>rw[q]at z0;cases z0
    |some F=>
     rw[q]at z0;cases z0
     refine aA (Y.2 F q) λl2 e2 g2=>?_
     refine(aw l2 ?_ g2)
     show ch I0 (fJ t0 f0::_) b _=_
     rw[e,e2]
     simp
noncomputable def mn:List aT:=[.d 61 (.k [.d (.b 125) (.c (.b 2)),.u (.E (.b 87)) (.c .m) (.m (.h 16) [.b 39,.b 80,.b 87])]),.c (.w [.L (.b 87),.g .f (.d (.b 61) (.c (.b 1))) (.d (.b 61) (.c (.b 0)))]) [.b (.c .m)] [],.m (.y (.b 55) .b [.b 61])]
noncomputable def nM(C:j)(f m:Nat)(x:Int):Prop:=∃F S y h0 l,C.c f=a (.b F)/\aX F [80]=a (bt 0 S y h0)/\C.c m=a (.c l)/\0<=S/\S<2^60/\l[S.toNat]?=a (bi x)
theorem Tf{h:Int}:aq (n+1) (.g 16) [cS m c1,.d f,dk h] C=.b (.b h) C:=by
 refine(bh rfl rfl).trans ?_
 simp[ym]
theorem Tg(s0:nM C f m x):aq (n+1) (.g 16) [cS m c1,.d f,kh .b] C=.b (.b x) C:=by
 refine tM (s0) λF S y h0 l h1=>?_;refine JJ h1 λE N h3 h4 h5 h6=>?_;clear h1
 refine(bh rfl rfl).trans ?_
 simp[ym,kh,lB E,N,oR h3 h4 h5,h6]
theorem Th{t0:Int}{f0:fe}{P:List A}{b:ah}(z0:b 55=a (.d d))(e0:b 39=a (cS m c1))(B0:b 80=a (.d f))(I1:P.length<=9)(p0:f0=.b->nM (Q.d d (.c P)) f m x):
 (gW x t0 f0=ae->∃o0,bf (aq (n+1)) (.c [125,87]) mn (fJ t0 f0) b (Q.d d (.c P))=.b (.c .m,o0) (Q.d d (.c P)))/\
 (∀T,gW x t0 f0=a T->∃o0,fG (bf (aq (n+1)) (.c [125,87]) mn (fJ t0 f0) b (Q.d d (.c P))) o0 (Q.d d (.c (P++[dU t0 T])))/\(o0 55=a (.d d)/\o0 39=a (cS m c1)/\o0 80=a (.d f)/\o0 184=b 184/\o0 185=b 185)):=by
 have s:∀T,ey (Q.d d (.c P)) .b (.d d) [T]=.b .m (Q.d d (.c (P++[T]))):=λT=>by rw[qG cE (az I1 (by decide)),iX]
 have q:=nv (C:=Q.d d (.c P)) cE
 have g:∀h,(gW x t0 f0=if h<t0 then ae else a (a h))->kM (kh f0)=av->aq (n+1) (.g 16) [cS m c1,.d f,kh f0] (Q.d d (.c P))=.b (.b h) (Q.d d (.c P))->
  (gW x t0 f0=ae->∃o0,bf (aq (n+1)) (.c [125,87]) mn (fJ t0 f0) b (Q.d d (.c P))=.b (.c .m,o0) (Q.d d (.c P)))/\
  (∀T,gW x t0 f0=a T->∃o0,fG (bf (aq (n+1)) (.c [125,87]) mn (fJ t0 f0) b (Q.d d (.c P))) o0 (Q.d d (.c (P++[dU t0 T])))/\(o0 55=a (.d d)/\o0 39=a (cS m c1)/\o0 80=a (.d f)/\o0 184=b 184/\o0 185=b 185)):=λh e y0 W=>by
  rw[e]
  by_cases T0:h<t0
  ·rw[if_pos T0]
   refine⟨λ_=>⟨_,by simp[bf,mn,e0,B0,y0,W,decide_eq_true T0];rfl⟩,λT h=>(nomatch h)⟩
  ·rw[if_neg T0]
   refine⟨λh=>(nomatch h),λT h=>?_⟩
   replace h:=bn h;subst h
   refine(lf _ (aL (by simp[bf,mn,e0,B0,z0,y0,W,decide_eq_false T0,q,s];exact⟨rfl,rfl⟩)) (by exact z0) (by exact e0) (by exact B0) ⟨by rfl,by rfl⟩)
 induction f0 with
 |c=>
  refine⟨λh=>(nomatch h),λT h=>?_⟩
  replace h:=bn h;subst h
  refine(lf _ (aL (by simp[bf,mn,e0,B0,z0,kh,q,s];exact⟨rfl,rfl⟩)) (by exact z0) (by exact e0) (by exact B0) ⟨by rfl,by rfl⟩)
 |d h=>exact g h rfl rfl Tf
 |b=>exact g x rfl rfl (Tg (p0 rfl))
end
def dM(x:Int)(H:D)(T:A):Option A:=match H.c with
 |.b d=>(match T with
    |.e [w,S,y,_]=>(fX x d.b).map λs=>.e [w,S,y,.e (dW s)]
    |_=>ae)
 |_=>a T
def jq:List aT:=[.c (.g .b (.n (.b 184) 200) (.c (.c [97,114,114,97,121]))) [.d 55 (.z),.k (.c [125,87]) .b (.n (.b 184) 55) mn,.q [108,30,115,137] (.d (.b 80) (.n (.b 184) 133)),.l (.b 80) (.n (.b 184) 133) (.k [.b 108,.b 30,.b 115,.q .e (.b 55)])] []]
theorem Hn:uC=[.c (.g .c (.q .b (.b 185)) (.q .b (.b 167))) [.b (.c .m)] [],.d 80 (.s [] []),.k (.b 32) .c (.q .b (.b 185)) eO,.k (.b 184) .b (.b 185) jq,.b (.b 80)]:=rfl
theorem Ho{C:j}{r:Nat}{l:List A}(w0:C.c r=a (.c l))(h:l.length<=100000):cK C .e (.d r)=.b (.e l) C:=by
 show(match C.c r with|some (.c l)=>if l.length<=100000 then au.b (A.e l) C else au.d|_=>au.d)=_
 rw[w0];exact if_pos h
theorem vJ(d:fK):d.b.length<=2:=by induction d<;>simp[fK.b]
theorem Hp{x:Int}:∀{C:List (Int×fe)}{s},fX x C=a s->s.length=C.length:=by
 intro J
 induction J with
 |nil=>
  intro _ h
  (replace h:=bn h;subst h);rfl
 |cons f r U=>
  obtain⟨t0,f0⟩:=f
  intro s h
  unfold fX at h
  generalize q:gW x t0 f0=x9;induction x9 with
  |none=>rw[q]at h;cases h
  |some T=>
   rw[q]at h
   generalize q2:fX x r=x9;induction x9 with
   |none=>rw[q2]at h;cases h
   |some F=>rw[q2]at h;cases h;rw[fi,U q2,fi]
section
variable{n g:Nat}{C Q:j}{f d m c1:Nat}{s:List Int}{F:List (am×A)}{x:Int}
theorem nM.b(s0:nM C f m x)(E:Q.c f=C.c f)(N:Q.c m=C.c m):nM Q f m x:=by
 refine JT (s0) λF S y h0 l a1 a2 a3 a4=>?_
 exact(rB F S y h0 l ⟨E.trans a1,a2,N.trans a3,a4⟩)
theorem cH.V{r:Nat}{H:D}{Y:fK}(J:cH g C r H)(h:H.c=.b Y){w:A->au A}:eW C 55 (.h 13 r) w=w Y.c:=by
 refine dP (J.o) λq E N h3=>?_
 refine ki N rfl ?_
 show a (H.c.g q)=_
 rw[h];rfl
end
namespace vK
noncomputable def E0(n g:Nat)(C:j)(f m c1:Nat)(F:List (am×A))(x:Int)(b:ah)(r:Nat):Prop:=∀{H:D}{T:A}(l0:cH g C r H)(u0:g<=C.b)(B0:b 80=a (.d f))(e0:b 39=a (cS m c1))(x0:C.c f=a (.b F))(A0:F.length<=1000)(g0:f<C.b)(h1:m<C.b)(h0:aX F [H.b]=a T)(J0:∀Y,H.c=.b Y->∃w S y,T=bt w S y (.e []))(p0:∀Y t0,H.c=.b Y->(t0,fe.b)∈Y.b->nM C f m x),(dM x H T=ae->∃o0 O,bf (aq (n+1)) (.b 184) jq (.h 13 r) b C=.b (.c .m,o0) O/\aW [] C O)/\
 (∀d0,dM x H T=a d0->∃o0 O,fG (bf (aq (n+1)) (.b 184) jq (.h 13 r) b C) o0 O/\aW [f] C O/\(∃t,O.c f=a (.b t)/\(t=bv F [H.b] d0\/(t=F/\d0=T)))/\(o0 80=a (.d f)/\o0 39=a (cS m c1)))
noncomputable def O0:Nat×Nat×j×Nat×Nat×Nat×(List (am×A))×Int×ah×Nat->Prop:=W λn=>W λg=>W λC=>W λf=>W λm=>W λc1=>W λF=>W λx=>W λb=>λr=>E0 n g C f m c1 F x b r
def c0:=dQ (J (J (bY dZ (J (J (J (J (J (J inferInstance))))))))) O0
def n:Nat:=c0.1
def g:Nat:=c0.2.1
def C:j:=c0.2.2.1
def f:Nat:=c0.2.2.2.1
def m:Nat:=c0.2.2.2.2.1
def c1:Nat:=c0.2.2.2.2.2.1
def F:List (am×A):=c0.2.2.2.2.2.2.1
def x:Int:=c0.2.2.2.2.2.2.2.1
def b:ah:=c0.2.2.2.2.2.2.2.2.1
def r:Nat:=c0.2.2.2.2.2.2.2.2.2
theorem Q0:E0 n g C f m c1 F x b r:=by
 intro H T l0 u0 B0 e0 x0 A0 g0 h1 h0 J0 p0
 have y0:¬H.c.c=[97,114,114,97,121]->dM x H T=a T->(dM x H T=ae->∃o0 O,bf (aq (n+1)) (.b 184) jq (.h 13 r) b C=.b (.c .m,o0) O/\aW [] C O)/\
  (∀d0,dM x H T=a d0->∃o0 O,fG (bf (aq (n+1)) (.b 184) jq (.h 13 r) b C) o0 O/\aW [f] C O/\(∃t,O.c f=a (.b t)/\(t=bv F [H.b] d0\/(t=F/\d0=T)))/\(o0 80=a (.d f)/\o0 39=a (cS m c1))):=λF0 C0=>by
  rw[C0]
  refine⟨λh=>(nomatch h),λd0 h=>?_⟩
  replace h:=bn h;subst h
  exact(gN _ C (aL (by simp[bf,jq,l0.I,F0];rfl)) aW.d (aw F x0 (aI ⟨rfl,rfl⟩)) (by exact B0) (by exact e0))
 generalize D0:H.c=x9;induction x9 with
 |e=>exact y0 (by rw[D0];decide) (by unfold dM;rw[D0])
 |f=>exact y0 (by rw[D0];decide) (by unfold dM;rw[D0])
 |b Y=>
  refine rF (J0 Y D0) λw S y V0=>?_;obtain rfl:=V0
  have F0:H.c.c=[97,114,114,97,121]:=by rw[D0];rfl
  have E:dM x H (bt w S y (.e []))=(fX x Y.b).map λs=>.e [.b w,.b S,.b y,.e (dW s)]:=by unfold dM;rw[D0]
  rw[E]
  have D:cH g (C.e (.c [])) r H:=l0.y (z0:=[]) dL u0 (λZ a0=>nomatch a0)
  have v:C.e (.c [])=(C.e (.c [])).d C.b (.c []):=(iY gm).symm
  have i:∀P,nM C f m x->nM ((C.e (.c [])).d C.b (.c P)) f m x:=λP s0=>s0.b (by rw[cf (bC g0),iG (bC g0)]) (by rw[cf (bC h1),iG (bC h1)])
  obtain⟨k,U⟩:=Hm (Q:=C.e (.c [])) (d:=C.b) (x:=x) (I0:=bf (aq (n+1)) (.c [125,87]) mn)
   (λo0=>o0 55=a (.d C.b)/\o0 39=a (cS m c1)/\o0 80=a (.d f)/\o0 184=a (.h 13 r))
   (λZ=>∃o0 O,Z=.b (.c .m,o0) O/\aW [] C O) Y.b [] ((b.c 184 (.h 13 r)).c 55 (.d C.b)) (by have:=vJ Y;simp;exact az this (by decide)) ⟨by rfl,by exact e0,by exact B0,by rfl⟩
   (λt0 f0 P o0 L I1 w0=>by
     refine ol (w0) λg1 g2 g3 g4=>?_
     obtain⟨p,X⟩:=Th (n:=n) (Q:=C.e (.c [])) (t0:=t0) (f0:=f0) (x:=x) g1 g2 g3 I1 (λe=>i P (p0 Y t0 D0 (e▸L)))
     refine⟨λh=>?_,λT h=>?_⟩
     ·obtain⟨l2,e⟩:=p h
      rw[e]
      exact⟨aL (jg _ _ _ rfl),_,_,rfl,(dL (C:=C) (z0:=[]) (o:=.c [])).e (dg (z0:=[C.b]) cg) (λZ b0=>by rw[cP.mp b0];exact aI (bS _))⟩
     ·refine JP (X T h) λl2 r0 N y2 y3 y4 l=>?_
      exact(lf l2 r0 N y2 y3 (y4.trans g4)))
  rw[<-v]at k U
  generalize q:fX x Y.b=x9;induction x9 with
  |none=>
   refine⟨λ_=>?_,λd0 h=>(nomatch h)⟩
   refine fw (k q) λl2 I e o=>?_
   refine(dK l2 I ?_ o)
   simp[bf,jq,l0.I,F0,D.V D0,fK.c]
   rw[show(mB (λV=>A.e [dk V.fst,kh V.snd]) Y.b)=Y.b.map λV=>fJ V.1 V.2 from rfl,e]
   rfl
  |some s=>
   refine⟨λh=>(nomatch h),λd0 h=>?_⟩
   replace h:=bn h;subst h
   refine lh (U s q) λl2 e g1 g2 g3 g4=>?_
   rw[Xl]at e
   have c:(dW s).length<=100000:=by rw[bK,Hp q];have:=vJ Y;exact az this (by decide)
   have B:cH g ((C.e (.c [])).d C.b (.c (dW s))) r H:=l0.y (z0:=[]) ((dL (C:=C) (z0:=[]) (o:=.c [])).e (dg (z0:=[C.b]) cg) (λZ b0=>by rw[cP.mp b0];exact aI (bS _))) u0 (λZ a0=>nomatch a0)
   have W:((C.e (.c [])).d C.b (.c (dW s))).c f=a (.b F):=by rw[cf (bC g0),iG (bC g0)];exact x0
   have e5:=nj (b:=((((l2.c 108 (.b w)).c 30 (.b S)).c 115 (.b y)).c 137 (.e []))) (w:=[H.b]) (T:=.e [.b w,.b S,.b y,.e (dW s)]) W A0
   refine(gN _ (((C.e (.c [])).d C.b (.c (dW s))).d f (.b (bv F [H.b] (.e [.b w,.b S,.b y,.e (dW s)])))) (aL (eY ?_ e5)) ?_ (aw _ cE (aL rfl)) (by exact g3) (by exact g2))
   ·simp[bf,jq,l0.I,F0,D.V D0,fK.c]
    rw[show(mB (λV=>A.e [dk V.fst,kh V.snd]) Y.b)=Y.b.map λV=>fJ V.1 V.2 from rfl,e]
    simp[g1,g3,g4,B.X,lB W,h0,Ho (C:=(C.e (.c [])).d C.b (.c (dW s))) cE c]
    rw[e5]
    rfl
   ·exact((dL (C:=C) (z0:=[f]) (o:=.c [])).e (dg (z0:=[C.b]) cg) (λZ b0=>by rw[cP.mp b0];exact aI (bS _))).trans (dg cg)
end vK
theorem Ti{n g:Nat}{C:j}{f m c1:Nat}{F:List (am×A)}{x:Int}{b:ah}{r:Nat}:vK.E0 n g C f m c1 F x b r:=dS (Y:=vK.O0) vK.Q0 (n,g,C,f,m,c1,F,x,b,r)
section
variable{n g:Nat}{C Q:j}{f d m c1:Nat}{s:List Int}{F:List (am×A)}{x:Int}
end
def iH(k:List D)(e0:List aP):List (Option A):=rA cZ k e0
def fY(x:Int)(k:List D)(X:List A):List (Option A):=rA (dM x) k X
noncomputable def qO(s:List Int)(X:List A):Int:=match X with
 |.e (.b 0::.b S::_)::_=>s.getD S.toNat 0
 |_=>0
noncomputable def jO(s:List Int)(k:List D)(e0:List aP)(M:List A):Prop:=k.length=e0.length/\∃X,iH k e0=X.map a/\fY (qO s X) k X=M.map a
noncomputable def qP(s:List Int)(k:List D)(e0:List aP):Prop:=k.length≠e0.length\/ae∈iH k e0\/∃X,iH k e0=X.map a/\ae∈fY (qO s X) k X
theorem zZ:∀{S p:List A},S.map a=p.map a->S=p:=by
 intro J
 induction J with
 |nil=>
  intro n
  induction n using bL with
  |nil=>
   intro _
   exact rfl
  |cons _ _=>
   intro h
   cases h
 |cons Z S U=>
  intro n
  induction n using bL with
  |nil=>
   intro h
   cases h
  |cons y p=>
   intro h
   injection h with E N;(replace E:=bn E;subst E);rw[U N]
theorem Hq{S:List A}(h:ae∈S.map a):False:=by
 refine aA (iq.mp h) λ_ _ e=>?_;exact bR e
theorem jO.c{s:List Int}{k:List D}{e0:List aP}{M H0:List A}(S:jO s k e0 M)(p:jO s k e0 H0):M=H0:=by
 refine pS (S) λ_ X E N=>?_
 refine pS (p) λ_ C l O=>?_
 obtain rfl:=zZ (E.symm.trans l)
 exact zZ (N.symm.trans O)
theorem jO.b{s:List Int}{k:List D}{e0:List aP}{M:List A}(S:jO s k e0 M)(p:qP s k e0):False:=by
 refine pS (S) λn0 X E N=>?_
 rcases p with h|h|⟨C,l,h⟩
 ·exact h n0
 ·rw[E]at h;exact Hq h
 ·obtain rfl:=zZ (E.symm.trans l)
  rw[N]at h;exact Hq h
noncomputable def sU(s:List Int)(k:List D)(e0:List aP):Prop:=(∃H Y t0,H∈k/\H.c=.b Y/\(t0,fe.b)∈Y.b)->
 ∃v0 o0,k=v0::o0/\v0.b=80/\v0.c=.e/\∀B T,e0[0]?=a B->cZ v0 B=a T->∃S,T=bt 0 S 0 (.e [])/\0<=S/\S<s.length
theorem jr{c s G:Type}{f:c->s->G}{S:List c}{p:List s}{B:Nat}{Z:c}{y:s}(E:S[B]?=a Z)(N:p[B]?=a y):(rA f S p)[B]?=a (f Z y):=by
 rw[List.getElem?_zipWith,E,N]
theorem vL{l:List (Option A)}{B:Nat}{X:List A}{T:A}(h:l.take B=X.map a)(h0:l[B]?=a (a T)):l.take (B+1)=(X++[T]).map a:=by
 rw[IJ,h,h0,kZ];rfl
theorem qQ{X:List A}{l:List (Option A)}{B:Nat}{Z:Option A}(h:l=X.map a)(b0:l[B]?=a Z):∃T,Z=a T/\X[B]?=a T:=by
 rw[h,ft]at b0
 generalize q:X[B]?=x9;induction x9 with
 |none=>rw[q]at b0;cases b0
 |some T=>rw[q]at b0;cases b0;exact(aw T rfl rfl)
theorem Aa{H:D}{t:aP}{T:A}(h:cZ H t=a T)(D0:H.c≠.f):∃w S y,T=bt w S y (.e []):=by
 obtain⟨I,Q,y,m0⟩:=H
 induction t with
 |f d=>induction m0<;>first|exact absurd rfl D0|exact(nomatch h)
 |e w S n d=>
  unfold cZ at h
  induction m0 with
  |f=>exact absurd rfl D0
  |e=>
   dsimp only at h
   clear D0;split at h
   ·induction Q with
    |false=>(replace h:=bn h;subst h);exact(jg _ _ _ rfl)
    |true=>
     induction y with
     |none=>(replace h:=bn h;subst h);exact(jg _ _ _ rfl)
     |some i=>
      dsimp only at h
      split at h
      ·exact bD h
      ·replace h:=bn h;subst h;exact(jg _ _ _ rfl)
   ·exact bD h
  |b Y=>
   dsimp only at h
   clear D0;split at h
   ·induction Q with
    |false=>(replace h:=bn h;subst h);exact(jg _ _ _ rfl)
    |true=>induction y<;>((replace h:=bn h;subst h);exact(jg _ _ _ rfl))
   ·exact bD h
section
variable{n g:Nat}{C Q:j}{G m c1:Nat}{z:List Nat}{k:List D}{e0:List aP}{s:List Int}
theorem vM{X:List A}:(bG k X).length<=k.length:=by unfold bG;rw[mD];exact jR _ _
theorem Ab{c:Type}{l:List c}{B:Nat}{Z:c}(h:l[B]?=a Z):l.take (B+1)=l.take B++[Z]:=by rw[IJ,h];rfl
theorem Hr{B:Nat}{H:D}(y0:(k.map (·.b)).Nodup)(l0:k[B]?=a H):H.b∉(k.take B).map (·.b):=by
 have E:(k.map (·.b)).take (B+1)=(k.take B).map (·.b)++[H.b]:=by rw[<-ry,Ab l0,kZ];rfl
 have N:((k.map (·.b)).take (B+1)).Nodup:=y0.sublist (Xm _ _)
 rw[E]at N
 intro h
 have:=Io.mp N
 exact this.2.2 _ h _ cg rfl
end
namespace vN
noncomputable def E0(g:Nat)(C:j)(G m c1:Nat)(z:List Nat)(k:List D)(e0:List aP)(c:v)(b:ah):Prop:=∀(J:qN g C z k)(u0:g<=C.b)(Y0:∀H∈k,ml H)(q0:∀t∈e0,t.g)(k0:k.length=e0.length)(m0:C.c G=a (.c (z.map (.h 13))))(A0:G<C.b)(U:nL b G C.b e0 m c1),(ae∈iH k e0/\∃o0 O,ch (bf c (.b 32) eO) (dj k.length) b (C.e (.b []))=.b (.c .m,o0) O/\aW [] C O)\/
 (∃X,iH k e0=X.map a/\∃o0 O,ch (bf c (.b 32) eO) (dj k.length) b (C.e (.b []))=.b (.b,o0) O/\aW [C.b] (C.e (.b [])) O/\O.c C.b=a (.b (bG k X))/\nL o0 G C.b e0 m c1)
noncomputable def O0:Nat×j×Nat×Nat×Nat×(List Nat)×(List D)×(List aP)×v×ah->Prop:=W λg=>W λC=>W λG=>W λm=>W λc1=>W λz=>W λk=>W λe0=>W λc=>λb=>E0 g C G m c1 z k e0 c b
def c0:=dQ (J (bY dZ (J (J (J (J (J (J (bY rM inferInstance))))))))) O0
def g:Nat:=c0.1
def C:j:=c0.2.1
def G:Nat:=c0.2.2.1
def m:Nat:=c0.2.2.2.1
def c1:Nat:=c0.2.2.2.2.1
def z:List Nat:=c0.2.2.2.2.2.1
def k:List D:=c0.2.2.2.2.2.2.1
def e0:List aP:=c0.2.2.2.2.2.2.2.1
def c:v:=c0.2.2.2.2.2.2.2.2.1
def b:ah:=c0.2.2.2.2.2.2.2.2.2
theorem Q0:E0 g C G m c1 z k e0 c b:=by
 intro J u0 Y0 q0 k0 m0 A0 U
 have L0:∀Q,aW [C.b] (C.e (.b [])) Q->aW [] C Q:=λQ o=>(dL (z0:=[])).e o λZ b0=>by rw[cP.mp b0];exact aI (bS _)
 have h4:=J.c
 have p:∀B Q(X:List A)(b:ah),B<k.length->X.length=B->aW [C.b] (C.e (.b [])) Q->Q.c C.b=a (.b (bG (k.take B) X))->nL b G C.b e0 m c1->∃H t,k[B]?=a H/\e0[B]?=a t/\
  (cZ H t=ae->∃o0,bf c (.b 32) eO (.b B) b Q=.b (.c .m,o0) Q)/\
  (∀T,cZ H t=a T->∃o0,fG (bf c (.b 32) eO (.b B) b Q) o0 (Q.d C.b (.b (bG (k.take (B+1)) (X++[T]))))/\nL o0 G C.b e0 m c1):=λB Q X b P l o w0 U=>by
  have l0:k[B]?=a k[B]:=eG P
  have F0:e0[B]?=a (e0[B]'(aM P (bw k0))):=eG (aM P (bw k0))
  have j0:z[B]?=a (z[B]'(by rw[J.b];exact P)):=eG (by rw[J.b];exact P)
  have D:=(J.e B _ _ j0 l0).y (L0 Q o) u0 (λZ a0=>nomatch a0)
  have w:Q.c G=a (.c (z.map (.h 13))):=by rw[(L0 Q o).c G A0 cU];exact m0
  refine(bU (k[B]) (e0[B]'(aM P (bw k0))) l0 F0 ?_)
  have:=Te (c:=c) (C:=Q) (f:=C.b) (i:=B) (B:=B) (G:=G) U rfl (aM (aM P h4) (by decide)) w (by rw[ft,j0];rfl) D (Y0 _ (tH _)) F0 (q0 _ (tH _)) w0 (by have:=vM (k:=k.take B) (X:=X);rw[jx]at this;exact az (az (az this (tj _ _)) h4) (by decide))
  have J0:∀T,bv (bG (k.take B) X) [k[B].b] T=bG (k.take (B+1)) (X++[T]):=λT=>by
   rw[Ab l0];exact zW (by rw[jx];lia) (Hr J.d l0)
  refine⟨this.1,λT h=>?_⟩
  refine aA (this.2 T h) λl2 r0 S=>?_
  rw[J0 T]at r0
  exact(aw l2 r0 S)
 rcases zJ (I0:=bf c (.b 32) eO) (b:=b) (C:=C.e (.b [])) k.length
  (λB b Q=>∃X,X.length=B/\(iH k e0).take B=X.map a/\aW [C.b] (C.e (.b [])) Q/\Q.c C.b=a (.b (bG (k.take B) X))/\nL b G C.b e0 m c1)
  (lf [] rfl rfl aW.d gm U)
  (λB b Q P⟨X,l,W,o,w0,U⟩=>by
    refine cX (p B Q X b P l o w0 U) λH t l0 F0 t1 t2=>?_
    generalize q:cZ H t=x9;induction x9 with
    |none=>
     obtain⟨l2,e⟩:=t1 q
     exact aL (aL (jg _ _ _ e))
    |some T=>
     refine aA (t2 T q) λl2 r0 S=>?_
     refine aI (dK l2 _ r0 ⟨X++[T],by simp[l],vL W ((jr l0 F0).trans (by rw[q])),o.trans (dg cg),cE,S⟩))with⟨l2,Q,e,X,l,W,o,w0,U⟩|⟨B,l2,Q,P,⟨X,l,W,o,w0,U⟩,f0,e⟩
 ·refine aI (aw X ?_ ⟨l2,Q,e,o,?_,U⟩)
  ·rw[<-W,jS];unfold iH;rw[mD];exact jR _ _
  ·rw[w0,jS (bS _)]
 ·refine cX (p B Q X l2 P l o w0 U) λH t l0 F0 t1 t2=>?_
  generalize q:cZ H t=x9;induction x9 with
  |none=>
   obtain⟨l3,e3⟩:=t1 q
   refine aL ⟨?_,l3,Q,e.trans e3,L0 Q o⟩
   exact eH ((jr l0 F0).trans (by rw[q]):(iH k e0)[B]?=a ae)
  |some T=>
   refine aA (t2 T q) λl3 r0 _=>?_
   rcases r0 with r0|r0<;>rw[r0]at f0<;>rcases f0 with⟨_,_,_,f0⟩|⟨_,f0⟩<;>cases f0
end vN
theorem Tj{g:Nat}{C:j}{G m c1:Nat}{z:List Nat}{k:List D}{e0:List aP}{c:v}{b:ah}:vN.E0 g C G m c1 z k e0 c b:=dS (Y:=vN.O0) vN.Q0 (g,C,G,m,c1,z,k,e0,c,b)
section
variable{n g:Nat}{C Q:j}{G m c1:Nat}{z:List Nat}{k:List D}{e0:List aP}{s:List Int}
end
section
variable{n g:Nat}{C Q:j}{G m c1 r:Nat}{z:List Nat}{H:D}{k:List D}{e0:List aP}{s:List Int}{z0:List Nat}
theorem kQ{Z:Nat}(h:Z≠r):(C.lock r).c Z=C.c Z:=if_neg h
theorem Ac(h:r∈z0):aW z0 C (C.lock r):=⟨bS _,rfl,λZ _ K0=>kQ λe=>K0 (by rw[e];exact h)⟩
theorem Tk{s0:bM}(h:aW [r] C Q)(j0:C.c r=a s0):aW [] C (Q.d r s0):=
 ⟨h.b,h.g,λZ b0 _=>by
   by_cases e:Z=r
   ·rw[e,cE,j0]
   ·rw[cf e];exact h.c Z b0 λa0=>e (cP.mp a0)⟩
theorem cH.lock{l:List A}(J:cH g C r H)(h:C.c G=a (.c l))(k0:l≠[])(Y:l.length<=100000):cH g (C.lock G) r H:=by
 refine dP (J.o) λq E N h3=>?_
 have j0:r≠G:=ja N h (λe=>nomatch e)
 refine⟨J.U,q,E,by rw[kQ j0];exact N,?_⟩
 have O:cy C (.d G)=a af:=by
  show(match C.c G with|some (.c l)=>if l.length<=100000 then a (!l.isEmpty)else ae|_=>ae)=_
  rw[h];dsimp only;rw[if_pos Y];induction l using bL with|nil=>exact absurd rfl k0|cons _ _=>rfl
 generalize D0:H.c=x9;induction x9 with
 |b d=>rw[D0]at h3;exact h3
 |e=>
  rw[D0]at h3
  have x0:q≠G:=λe=>by subst e;have w:cy C (.d q)=a av:=h3;rw[O]at w;cases w
  exact(zX (m0:=.e) (kQ x0)).trans h3
 |f=>
  rw[D0]at h3
  have x0:q≠G:=λe=>by subst e;have w:cy C (.d q)=a av:=h3;rw[O]at w;cases w
  exact(zX (m0:=.f) (kQ x0)).trans h3
theorem Hs{x:Int}{T:A}(h:H.c=.e):dM x H T=a T:=by unfold dM;rw[h]
theorem pb{c:Type}{l:List c}{B:Nat}{Z:c}(h:l[B]?=a Z):l.drop B=Z::l.drop (B+1):=by
 obtain⟨P,e⟩:=iv.mp h
 rw[Be P,e]
structure Ad(C:j)(f:Nat)(x:Int)(k:List D)(X:List A)(B:Nat)(M:List A)(b:ah)(Q:j)(m c1:Nat):Prop where
 c:M.length=B
 e:(fY x k X).take B=M.map a
 d:aW [f] C Q
 h:Q.c f=a (.b (bG k (M++X.drop B)))
 i:b 80=a (.d f)
 l:b 39=a (cS m c1)
end
namespace vO
noncomputable def E0(n g:Nat)(C:j)(m c1:Nat)(s:List Int)(f:Nat)(b:ah)(x:Int):Prop:=∀{z:List Nat}{k:List D}{X:List A}(y0:(k.map (·.b)).Nodup)(h4:k.length<=4)(l:X.length=k.length)(C0:z.length=k.length)(B0:f<C.b)(e0:m<C.b)(U:m≠f)(u0:g<=f)(J:∀(B r:Nat)(H:D),z[B]?=a r->k[B]?=a H->cH g C r H)(W:∀(B:Nat)(H:D)(T:A),k[B]?=a H->X[B]?=a T->H.c≠.f->∃w S y,T=bt w S y (.e []))(F:C.c m=a (.c (s.map bi)))(H0:s.length<=1000)(p0:(∃H Y t0,H∈k/\H.c=.b Y/\(t0,fe.b)∈Y.b)->∃v0 S,k[0]?=a v0/\v0.b=80/\v0.c=.e/\X[0]?=a (bt 0 S 0 (.e []))/\0<=S/\s[S.toNat]?=a x)(x0:C.c f=a (.b (bG k X)))(E:b 80=a (.d f))(N:b 39=a (cS m c1)),(ae∈fY x k X/\∃o0 O,ch (bf (aq (n+1)) (.b 184) jq) (z.map (.h 13)) b C=.b (.c .m,o0) O/\aW [f] C O)\/
 (∃M,fY x k X=M.map a/\∃o0 O,ch (bf (aq (n+1)) (.b 184) jq) (z.map (.h 13)) b C=.b (.b,o0) O/\aW [f] C O/\O.c f=a (.b (bG k M))/\o0 80=a (.d f))
noncomputable def O0:Nat×Nat×j×Nat×Nat×(List Int)×Nat×ah×Int->Prop:=W λn=>W λg=>W λC=>W λm=>W λc1=>W λs=>W λf=>W λb=>λx=>E0 n g C m c1 s f b x
def c0:=dQ (J (J (bY dZ (J (J (J (J (J inferInstance)))))))) O0
def n:Nat:=c0.1
def g:Nat:=c0.2.1
def C:j:=c0.2.2.1
def m:Nat:=c0.2.2.2.1
def c1:Nat:=c0.2.2.2.2.1
def s:List Int:=c0.2.2.2.2.2.1
def f:Nat:=c0.2.2.2.2.2.2.1
def b:ah:=c0.2.2.2.2.2.2.2.1
def x:Int:=c0.2.2.2.2.2.2.2.2
theorem Q0:E0 n g C m c1 s f b x:=by
 intro z k X y0 h4 l C0 B0 e0 U u0 J W F H0 p0 x0 E N
 have p:∀B Q(M:List A)(b:ah)(T:A),(z.map (A.h 13))[B]?=a T->Ad C f x k X B M b Q m c1->∃H m0,k[B]?=a H/\X[B]?=a m0/\
  (dM x H m0=ae->∃o0 O,bf (aq (n+1)) (.b 184) jq T b Q=.b (.c .m,o0) O/\aW [f] C O)/\
  (∀d0,dM x H m0=a d0->∃o0 O,fG (bf (aq (n+1)) (.b 184) jq T b Q) o0 O/\Ad C f x k X (B+1) (M++[d0]) o0 O m c1):=λB Q M b T h0 s0=>by
  obtain⟨r,j0,rfl⟩:∃r,z[B]?=a r/\T=.h 13 r:=by
   rw[ft]at h0
   generalize q:z[B]?=x9;induction x9 with
   |none=>rw[q]at h0;cases h0
   |some r=>rw[q]at h0;cases h0;exact(aw r rfl rfl)
  have P:B<k.length:=by rw[<-C0];exact(iv.mp j0).1
  have l0:k[B]?=a k[B]:=eG P
  have D0:X[B]?=a (X[B]'(aM P (bw l.symm))):=eG (aM P (bw l.symm))
  generalize k[B]=H at l0
  generalize X[B]'(aM P (bw l.symm))=m0 at D0
  refine(bU H m0 l0 D0 ?_)
  have h1:(M++X.drop B).length=k.length:=by rw[jT,pE,s0.c,l];exact Bx (fB P)
  have q0:(M++X.drop B)[B]?=a m0:=by
   rw[Bz (by rw[s0.c];lia),s0.c,tF,pb D0];rfl
  have w0:aX (bG k (M++X.drop B)) [H.b]=a m0:=(qM y0 h1 l0).trans q0
  have c:∀d0,(M++X.drop B).set B d0=(M++[d0])++X.drop (B+1):=λd0=>by
   rw[By _ _ (by rw[s0.c];lia),s0.c,tF,pb D0];simp
  have J0:∀d0,bv (bG k (M++X.drop B)) [H.b] d0=bG k ((M++[d0])++X.drop (B+1)):=λd0=>by rw[Hl y0 h1 l0,c]
  have A0:M++X.drop B=(M++[m0])++X.drop (B+1):=by rw[pb D0];simp
  obtain⟨t1,t2⟩:=Ti (n:=n) (C:=Q) (f:=f) (m:=m) (c1:=c1) (x:=x) ((J B r H j0 l0).y s0.d (fB (el u0 B0)) (λZ a0=>by rw[cP.mp a0];exact u0)) (by have:=s0.d.b;exact fB (aM (el u0 B0) this)) s0.i s0.l s0.h (by have:=vM (k:=k) (X:=M++X.drop B);exact az (az this h4) (by decide)) (aM B0 s0.d.b) (aM e0 s0.d.b) w0
   (λY e=>W B H m0 l0 D0 (by rw[e];exact λZ=>nomatch Z))
   (λY t0 e L=>by
     refine pU (p0 (jh H Y t0 (eH l0) e L)) λv0 S q1 q2 V d j G=>?_
     have M0:S.toNat<s.length:=(iv.mp G).1
     refine(rB _ S 0 (.e []) (s.map bi) ⟨s0.h,?_,by rw[s0.d.c m e0 (λa0=>U (cP.mp a0))];exact F,j,by exact fo (fo ((wE j).mp M0) (dO.mpr H0)) (by decide),by rw[ft,G];rfl⟩)
     rw[<-q2,qM y0 h1 q1]
     induction B using kX with
     |zero=>rw[wH s0.c];exact d
     |succ B=>
      have F0:0<M.length:=by rw[s0.c];lia
      rw[wZ F0]
      have n0:(fY x k X)[0]?=a (a (bt 0 S 0 (.e []))):=by
       unfold fY;rw[jr q1 d,Hs V]
      have E:((fY x k X).take (B+1))[0]?=a (a (bt 0 S 0 (.e []))):=by rw[BA (by lia)];exact n0
      refine aA (qQ s0.e E) λd0 e1 e2=>?_
      replace e1:=bn e1;subst e1;exact e2)
  refine⟨λh=>?_,λd0 h=>?_⟩
  ·refine fw (t1 h) λl2 I e o=>?_
   exact(dK l2 I e (s0.d.trans (o.f λZ a0=>(nomatch a0))))
  ·refine mE (t2 d0 h) λl2 I r0 o i a1 a2=>?_;obtain⟨t,k0,L0⟩:=i
   refine(dK l2 I r0 ⟨by rw[jT,s0.c];rfl,vL s0.e ((jr l0 D0).trans (by rw[h])),s0.d.trans o,?_,a1,a2⟩)
   rcases L0 with rfl|⟨rfl,rfl⟩
   ·rw[<-J0];exact k0
   ·rw[<-A0];exact k0
 rcases zI (I0:=bf (aq (n+1)) (.b 184) jq) (λB b Q=>∃M,Ad C f x k X B M b Q m c1) (z.map (.h 13)) 0 b C
  (λB T b Q h0⟨M,s0⟩=>by
    rw[oh]at s0⊢
    refine cX (p B Q M b T h0 s0) λH m0 l0 D0 t1 t2=>?_
    generalize q:dM x H m0=x9;induction x9 with
    |none=>
     refine fw (t1 q) λl2 I e _=>?_
     exact aL (aL (jg _ _ _ e))
    |some d0=>
     refine fw (t2 d0 q) λl2 I r0 v=>?_
     exact aI (dK l2 I r0 ⟨_,v⟩))
  ⟨[],⟨rfl,rfl,aW.d,x0,E,N⟩⟩with⟨l2,Q,e,M,s0⟩|⟨B,T,l2,Q,h0,⟨M,s0⟩,f0,e⟩
 ·rw[bK,C0,oh]at s0
  have g0:(fY x k X).length=k.length:=by unfold fY;rw[mD];lia
  refine aI (aw M ?_ ⟨l2,Q,e,s0.d,?_,s0.i⟩)
  ·rw[<-s0.e,jS (bw g0)]
  ·have:=s0.h
   rw[Xn (bw l),pB]at this
   exact this
 ·rw[oh]at s0
  refine cX (p B Q M l2 T h0 s0) λH m0 l0 D0 t1 t2=>?_
  generalize q:dM x H m0=x9;induction x9 with
  |none=>
   refine fw (t1 q) λl3 s3 e3 o=>?_
   exact aL ⟨eH ((jr l0 D0).trans (by rw[q]):(fY x k X)[B]?=a ae),l3,s3,e.trans e3,o⟩
  |some d0=>
   refine fw (t2 d0 q) λl3 s3 r0 _=>?_
   rcases r0 with r0|r0<;>rw[r0]at f0<;>rcases f0 with⟨_,_,_,f0⟩|⟨_,f0⟩<;>cases f0
end vO
theorem Tl{n g:Nat}{C:j}{m c1:Nat}{s:List Int}{f:Nat}{b:ah}{x:Int}:vO.E0 n g C m c1 s f b x:=dS (Y:=vO.O0) vO.Q0 (n,g,C,m,c1,s,f,b,x)
section
variable{n g:Nat}{C Q:j}{G m c1 r:Nat}{z:List Nat}{H:D}{k:List D}{e0:List aP}{s:List Int}{z0:List Nat}
end
section
variable{n g:Nat}{C Q:j}{G m c1 r:Nat}{z:List Nat}{H:D}{k:List D}{e0:List aP}{s:List Int}{z0:List Nat}{c:v}{b:ah}
@[simp]theorem V7:ag c (.s [] []) b C=.b (.d C.b) (C.e (.b [])):=rfl
theorem qR{r:Nat}{l:List A}(h:C.c r=a (.c l)):eL C .b (.d r)=a (l,a r):=by
 show(match C.c r with
  |some (.c l)=>a (l,a r)
  |some (.b l)=>a (l.map (λ(V:am×A)=>A.c V.1),a r)
  |_=>ae)=_
 rw[h]
theorem nN{c:Type}{r:Nat}{s0:bM}{v:j->au c}{S:c}(w0:C.c r=a s0)(h:v (C.lock r)=.b S Q):hZ C (a r) v=.b S (Q.d r s0):=by
 show(match C.c r with
  |none=>au.d
  |some s0=>match v (C.lock r)with
   |.b S O=>au.b S (O.d r s0)
   |.g O=>.g (O.d r s0)
   |.d=>.d)=_
 rw[w0];dsimp only;rw[h]
theorem Ht{S:Int}{X:List A}(h:X[0]?=a (bt 0 S 0 (.e [])))(n0:0<=S)(E:S<s.length):s[S.toNat]?=a (qO s X):=by
 induction X using bL with
 |nil=>exact bD h
 |cons T X=>
  replace h:=bn h;subst h
  have:S.toNat<s.length:=FP n0 E
  show _=a (s.getD S.toNat 0)
  rw[eG this,Xo,eG this];rfl
end
namespace vP
noncomputable def E0(n:Nat)(C:j):Prop:=∀{g G m c1:Nat}{z:List Nat}{k:List D}{e0:List aP}{s:List Int}(J:qN g C z k)(u0:g<=C.b)(Y0:∀H∈k,ml H)(q0:∀t∈e0,t.g)(m0:C.c G=a (.c (z.map (.h 13))))(A0:G<C.b)(E:1<=k.length)(r0:e0.length<=100)(F:C.c m=a (.c (s.map bi)))(H0:s.length<=1000)(h1:m<C.b)(p:m≠G)(f0:sU s k e0),(qP s k e0/\∃O,aq (n+2) (.g 19) [cS m c1,.d G,.k (e0.map aP.c)] C=.b .m O/\aW [] C O)\/
 (∃M,jO s k e0 M/\∃O f,aq (n+2) (.g 19) [cS m c1,.d G,.k (e0.map aP.c)] C=.b (.d f) O/\aW [] C O/\C.b<=f/\f<O.b/\O.c f=a (.b (bG k M)))
noncomputable def O0:Nat×j->Prop:=W λn=>λC=>E0 n C
def c0:=dQ (J dZ) O0
def n:Nat:=c0.1
def C:j:=c0.2
theorem Q0:E0 n C:=by
 intro g G m c1 z k e0 s J u0 Y0 q0 m0 A0 E r0 F H0 h1 p f0
 have h4:=J.c
 have C0:(z.map (A.h 13)).length=k.length:=by rw[bK,J.b]
 have l1:=iW (C:=C) m0 (az (az (bw C0) h4) (by decide))
 have l2:cK C .b (.k (e0.map aP.c))=.b (.b e0.length) C:=by rw[jM (by rw[bK];exact az r0 (by decide)),bK]
 rw[C0]at l1
 by_cases k0:k.length=e0.length
 ·have j:∀q,aq.leave (aO (aq (n+1)) uC (((fc.c 39 (cS m c1)).c 185 (.d G)).c 167 (.k (e0.map aP.c))) C)=q->aq (n+2) (.g 19) [cS m c1,.d G,.k (e0.map aP.c)] C=q:=λq h=>(bh rfl rfl).trans h
  have e1:aO (aq (n+1)) uC (((fc.c 39 (cS m c1)).c 185 (.d G)).c 167 (.k (e0.map aP.c))) C=
   fU (aO (aq (n+1)) [.k (.b 184) .b (.b 185) jq,.b (.b 80)]) (ch (bf (aq (n+1)) (.b 32) eO) (dj k.length) ((((fc.c 39 (cS m c1)).c 185 (.d G)).c 167 (.k (e0.map aP.c))).c 80 (.d C.b)) (C.e (.b []))):=by
   have l3:=iW (C:=C.e (.b [])) ((iG (bC A0)).trans m0) (az (az (bw C0) h4) (by decide))
   rw[C0]at l3
   rw[Hn]
   simp[l1,l2,k0,l3,eN (i:=(e0.length:Int)) (ip _) (dO.mpr (az r0 (by decide)))]
  have U:nL ((((fc.c 39 (cS m c1)).c 185 (.d G)).c 167 (.k (e0.map aP.c))).c 80 (.d C.b)) G C.b e0 m c1:=⟨by rfl,by rfl,by rfl,by rfl⟩
  rcases Tj (c:=aq (n+1)) J u0 Y0 q0 k0 m0 A0 U with⟨W,l2,O,e2,o⟩|⟨X,W,l2,Q,e2,o,w0,L⟩
  ·refine aL ⟨aI (aL W),O,?_,o⟩
   refine j _ ?_
   rw[e1,e2];rfl
  ·have l:X.length=k.length:=by
    have:=congrArg qZ W
    unfold iH at this
    rw[mD,bK]at this
    lia
   have L0:aW [] C Q:=(dL (z0:=[])).e o λZ b0=>by rw[cP.mp b0];exact aI (bS _)
   have p0:C.b<Q.b:=o.b
   have w:Q.c G=a (.c (z.map (.h 13))):=by rw[L0.c G A0 cU];exact m0
   have M0:(z.map (A.h 13))≠[]:=λe=>by rw[e]at C0;simp at C0;lia
   have m1:C.b≠G:=fu A0
   have s0:∀(B:Nat)(H:D)(T:A),k[B]?=a H->X[B]?=a T->∃t,e0[B]?=a t/\cZ H t=a T:=λB H T l0 h0=>by
    have P:B<e0.length:=by rw[<-k0];exact(iv.mp l0).1
    refine(aw (e0[B]) (eG P) ?_)
    have:=jr (f:=cZ) l0 (eG P)
    refine aA (qQ W this) λd0 e1 e2=>?_
    replace e2:=be h0 e2;subst e2;exact e1
   have:=Tl (n:=n) (C:=Q.lock G) (f:=C.b) (X:=X) (b:=l2) (c1:=c1) (s:=s) (x:=qO s X) J.d h4 l J.b p0 (aM h1 L0.b) (bC h1)
    u0 (λB r H j0 l0=>((J.e B r H j0 l0).y (z0:=[]) L0 u0 (λZ a0=>nomatch a0)).lock w M0 (az (az (bw C0) h4) (by decide)))
    (λB H T l0 h0 D0=>by
      refine aA (s0 B H T l0 h0) λt _ e=>?_
      exact Aa e D0)
    (by rw[kQ p,L0.c m h1 cU];exact F) H0
    (λb0=>by
      refine cX (f0 b0) λv0 o0 n0 q2 V d=>?_;obtain rfl:=n0
      obtain⟨y,g0⟩:∃y,X[0]?=a y:=⟨X[0]'(aM (aM (by decide) E) (bw l.symm)),eG (aM (aM (by decide) E) (bw l.symm))⟩
      refine aA (s0 0 v0 y rfl g0) λt F0 e=>?_
      refine dP (d t y F0 e) λS J0 I a1=>?_;obtain rfl:=J0
      exact(gN v0 S rfl q2 V g0 ⟨I,Ht g0 I a1⟩))
    (by rw[kQ m1];exact w0) L.d L.e
   have B0:∀O,aW [C.b] (Q.lock G) O->aW [] C (O.d G (.c (z.map (.h 13)))):=λO v=>
    Tk (r:=G) ((L0.f (t0:=[G]) λZ a0=>nomatch a0).e (((Ac (C:=Q) (r:=G) (z0:=[G,C.b]) cg)).trans (v.f λZ a0=>ge _ a0)) λZ a0=>by
     rcases iw.mp a0 with h|h
     ·exact aL (by rw[h];exact cg)
     ·rw[cP.mp h];exact aI (bS _)) m0
   rcases this with⟨R1,l3,O,e3,v⟩|⟨M,R1,l3,O,e3,v,x0,I0⟩
   ·refine aL ⟨aI (aI (aw X W R1)),O.d G (.c (z.map (.h 13))),j _ ?_,B0 O v⟩
    rw[e1,e2]
    simp[L.c,qR w,nN w e3]
   ·refine aI (aw M ⟨k0,X,W,R1⟩ ⟨O.d G (.c (z.map (.h 13))),C.b,j _ ?_,B0 O v,bS _,aM p0 v.b,by rw[cf m1];exact x0⟩)
    rw[e1,e2]
    simp[L.c,qR w,nN w e3,I0]
 ·refine aL ⟨aL k0,C,?_,aW.d⟩
  refine(bh rfl rfl).trans ?_
  have Y:¬(k.length:Int)=e0.length:=by lia
  rw[Hn]
  simp[l1,l2,Y]
end vP
theorem Tm{n:Nat}{C:j}:vP.E0 n C:=dS (Y:=vP.O0) vP.Q0 (n,C)
section
variable{n g:Nat}{C Q:j}{G m c1 r:Nat}{z:List Nat}{H:D}{k:List D}{e0:List aP}{s:List Int}{z0:List Nat}{c:v}{b:ah}
end
section
variable{n g:Nat}{C Q:j}{R:br}{i0 F i:List (am×A)}{l w:List A}{f r d:Nat}{c:v}{b:ah}{x:Int}
noncomputable abbrev br.m(R:br):List Nat:=[R.k,R.p,R.e,R.h,R.s,R.t,R.q,R.o,R.u]
theorem Hu{R:br}:R.k∈R.m:=et _
theorem vQ{R:br}:R.e∈R.m:=eH (i:=2) rfl
theorem vR{R:br}:R.h∈R.m:=eH (i:=3) rfl
theorem bu.X(m:bu C R i0 l w F)(m1:∀Z∈R.m,Z<g)(h:∀Z,Z<g->Q.c Z=C.c Z):bu Q R i0 l w F:=m.u λZ b0=>h Z (m1 Z b0)
theorem Ae{q:List (am×A)}{S:am}{Z y:A}:bv (bv q S Z) S y=bv q S y:=by
 have C:(q.map λV=>if V.1=S then(V.1,Z)else V).any (λV=>ba (V.1=S))=q.any (λV=>ba (V.1=S)):=by
  rw[Xj];congr 1;funext V
  show ba ((if V.1=S then(V.1,Z)else V).1=S)=_
  by_cases h:V.1=S
  ·rw[if_pos h]
  ·rw[if_neg h]
 by_cases h:q.any (λV=>ba (V.1=S))=af
 ·have e1:bv q S Z=q.map λV=>if V.1=S then(V.1,Z)else V:=if_pos h
  have e2:bv q S y=q.map λV=>if V.1=S then(V.1,y)else V:=if_pos h
  rw[e1,e2]
  unfold bv
  rw[C,if_pos h,mx]
  congr 1;funext V
  show(if(if V.1=S then(V.1,Z)else V).1=S then((if V.1=S then(V.1,Z)else V).1,y)else(if V.1=S then(V.1,Z)else V))=_
  by_cases p0:V.1=S
  ·simp[p0]
  ·simp[p0]
 ·have e1:bv q S Z=q++[(S,Z)]:=if_neg h
  have e2:bv q S y=q++[(S,y)]:=if_neg h
  rw[e1,e2]
  unfold bv
  rw[if_pos (by simp),kZ]
  have:q.map (λV=>if V.1=S then(V.1,y)else V)=q:=by
   refine(AS (g:=id) λV p0=>?_).trans (Xk _)
   rw[if_neg λe=>h (mv.mpr (aw V p0 (decide_eq_true e)))];rfl
  rw[this];simp
theorem bu.n0(m:bu C R i0 l w F)(B0:f≠R.k)(w0:C.c f=a (.b i)):bu (C.d R.k (.b (bv i0 (cL 80) (.d f)))) {R with o:=f} (bv i0 (cL 80) (.d f)) l w i:=by
 have O:∀S:ak,S≠80->aX (bv i0 (cL 80) (.d f)) (cL S)=aX i0 (cL S):=λS v0=>GM (λe=>v0 (sT.mp e))
 have h:=m.j0
 have G:=gG h;have h:=gH h;have Q:=gG h;have h:=gH h;have P:=gG h;have h:=gH h;have J:=gG h;have h:=gH h;have n5:=gG h;have h:=gH h;have n6:=gG h;have h:=gH h;have x:=gG (gH h)
 have m0:∀Z,R.k≠Z->(C.d R.k (.b (bv i0 (cL 80) (.d f)))).c Z=C.c Z:=λZ b0=>cf b0.symm
 refine aA (m.f0) λq x0 K0=>?_
 refine aA (m.k.m) λT V L=>?_
 refine⟨cE,by rw[RR m.H];exact m.y,by rw[O _ (by decide)];exact m.Y,by rw[O _ (by decide)];exact m.a0,by rw[O _ (by decide)];exact m.c0,by rw[O _ (by decide)];exact m.d0,zP,by rw[O _ (by decide)];exact m.e0,
  ⟨(aw T ((m0 _ G).trans V) L),(m0 _ Q).trans m.k.d,(m0 _ P).trans m.k.f,m.k.s⟩,(m0 _ J).trans m.I,(m0 _ n5).trans m.M,(aw q ((m0 _ n6).trans x0) K0),(m0 _ B0.symm).trans w0,(m0 _ x).trans m.E,Ae,?_⟩
 exact cN G<|cN Q<|cN P<|cN J<|cN n5<|cN n6<|cN B0.symm<|cN x ni
noncomputable def Af(T:A)(r:au (bA×ah)):au (bA×ah):=match r with|.b (.b,b) C=>.b (.c T,b) C|_=>.d
def Hv(r:au (bA×ah))(f:ah->j->au (bA×ah)):au (bA×ah):=match r with|.b (.c T,b) C=>Af T (f b C)|_=>.d
@[simp]theorem W7{T:A}:Af T (.b (.b,b) C)=.b (.c T,b) C:=rfl
@[simp]theorem X7{T:A}{f:ah->j->au (bA×ah)}:Hv (.b (.c T,b) C) f=Af T (f b C):=rfl
@[simp]theorem Y7{p q:List aT}:bb c (.G p q) b C=Hv (aO c p b C) (aO c q):=rfl
theorem To(m:bu C R i0 l w F)(B0:f≠R.k)(w0:C.c f=a (.b i)){Q T:A}(C0:∀O E B,B.k=R.k->B.e=R.e->bu O B E l w i->aq n (.g 70) [bg B,Q] O=.b T O):aq (n+1) (.g 72) [bg R,.d f,Q] C=.b T C:=by
 have d:=m.n0 B0 w0
 have e1:=C0 _ _ {R with o:=f} rfl rfl d
 have e0:aX i0 (cL 80)=a (.d R.o):=m.H
 have p1:∀b:ah,ke b 80 (.d f) (bg R) C=.b (.b,b) (C.d R.k (.b (bv i0 (cL 80) (.d f)))):=λb=>nw m.p m.y rfl
 have p2:∀b:ah,ke b 80 (.d R.o) (bg R) (C.d R.k (.b (bv i0 (cL 80) (.d f))))=.b (.b,b) C:=λb=>by
  rw[nw d.p d.y rfl,iX,Ae,m.h0,iY m.p]
 refine(bh rfl rfl).trans ?_
 simp[Eb,m.N,p1]
 rw[show aq n (.g 70) [bg R,Q] _=_ from e1]
 simp[p2]
theorem Hw(m:bu C R i0 l w F)(B0:f≠R.k)(w0:C.c f=a (.b i)){Q T:A}(C0:∀O E B,B.k=R.k->B.e=R.e->bu O B E l w i->aq n (.g 70) [bg B,Q] O=.b T O):aq (n+2) (.q (bg R)) [.d f,Q] C=.b T C:=by
 have e:=To m B0 w0 C0
 show aq.leave (aO (aq (n+1)) mY ((fc.c 80 (.d f)).c 191 Q|>.c 163 (bg R)) C)=_
 simp[mY,e]
end
noncomputable def mo:List aT:=[.d 112 (.m (.b 71) [.b 80,.b 125]),.d 131 (.c .m),.c (.L (.b 87)) [.d 131 (.m (.b 71) [.b 80,.b 87]),.c (.g .f (.b 131) (.b 112)) [.n] []] [],.m (.y (.b 79) .b [.k [.b 112,.b 131]])]
theorem Hx:Ea=[.d 79 (.z),.k (.c [125,87]) .b (.b 55) mo,.b (.q .e (.b 79))]:=rfl
section
variable{n g:Nat}{C Q:j}{R:br}{i0 F i:List (am×A)}{l w:List A}{f r d:Nat}{x:Int}
noncomputable def vS(l:List A)(i:List (am×A))(x:Int):Prop:=∃S y h0,aX i [80]=a (bt 0 S y h0)/\0<=S/\S<l.length/\l[S.toNat]?=a (bi x)
theorem Hy(m:bu C R i0 l w F)(B0:f≠R.k)(w0:C.c f=a (.b i)){h:Int}:aq (n+7) (.q (bg R)) [.d f,dk h] C=.b (.b h) C:=
 Hw (n:=n+5) m B0 w0 λ_ _ _ _ _ d=>vv d
theorem Tp(m:bu C R i0 l w F)(B0:f≠R.k)(w0:C.c f=a (.b i))(k0:l.length<=1000)(s0:vS l i x):aq (n+7) (.q (bg R)) [.d f,kh .b] C=.b (.b x) C:=by
 refine lj (s0) λS y h0 E N h3 h4=>?_
 exact Hw (n:=n+5) m B0 w0 λ_ _ _ _ _ d=>GX d k0 E N h3 h4
theorem Tq{t0:Int}{f0:fe}{P:List A}{b:ah}(z0:b 79=a (.d d))(C0:b 71=a (.q (bg R)))(B0:b 80=a (.d f))(I1:P.length<=9)(m:bu (Q.d d (.c P)) R i0 l w F)(M0:f≠R.k)(w0:(Q.d d (.c P)).c f=a (.b i))(k0:l.length<=1000)(p0:f0=.b->vS l i x):
 (gW x t0 f0=ae->bf (aq (n+7)) (.c [125,87]) mo (fJ t0 f0) b (Q.d d (.c P))=.g (Q.d d (.c P)))/\
 (∀T,gW x t0 f0=a T->∃o0,fG (bf (aq (n+7)) (.c [125,87]) mo (fJ t0 f0) b (Q.d d (.c P))) o0 (Q.d d (.c (P++[dU t0 T])))/\(o0 79=a (.d d)/\o0 71=a (.q (bg R))/\o0 80=a (.d f))):=by
 have s:∀T,ey (Q.d d (.c P)) .b (.d d) [T]=.b .m (Q.d d (.c (P++[T]))):=λT=>by rw[qG cE (az I1 (by decide)),iX]
 have q:=nv (C:=Q.d d (.c P)) cE
 have j:aq (n+7) (.q (bg R)) [.d f,dk t0] (Q.d d (.c P))=.b (.b t0) (Q.d d (.c P)):=Hy m M0 w0
 have g:∀h,(gW x t0 f0=if h<t0 then ae else a (a h))->kM (kh f0)=av->aq (n+7) (.q (bg R)) [.d f,kh f0] (Q.d d (.c P))=.b (.b h) (Q.d d (.c P))->
  (gW x t0 f0=ae->bf (aq (n+7)) (.c [125,87]) mo (fJ t0 f0) b (Q.d d (.c P))=.g (Q.d d (.c P)))/\
  (∀T,gW x t0 f0=a T->∃o0,fG (bf (aq (n+7)) (.c [125,87]) mo (fJ t0 f0) b (Q.d d (.c P))) o0 (Q.d d (.c (P++[dU t0 T])))/\(o0 79=a (.d d)/\o0 71=a (.q (bg R))/\o0 80=a (.d f))):=λh e y0 W=>by
  rw[e]
  by_cases T0:h<t0
  ·rw[if_pos T0]
   refine⟨λ_=>by(apply jL (bE C0<|bE B0 jK);intro b;simp[bf,mo,y0,j,W,decide_eq_true T0]),λT h=>(nomatch h)⟩
  ·rw[if_neg T0]
   refine⟨λh=>(nomatch h),λT h=>?_⟩
   replace h:=bn h;subst h
   refine(ix _ (aL (by simp[bf,mo,C0,B0,z0,y0,j,W,decide_eq_false T0,q,s];exact⟨rfl,rfl⟩)) (by exact z0) (by exact C0) (by exact B0))
 induction f0 with
 |c=>
  refine⟨λh=>(nomatch h),λT h=>?_⟩
  replace h:=bn h;subst h
  refine(ix _ (aL (by simp[bf,mo,C0,B0,z0,j,kh,q,s];exact⟨rfl,rfl⟩)) (by exact z0) (by exact C0) (by exact B0))
 |d h=>exact g h rfl rfl (Hy m M0 w0)
 |b=>exact g x rfl rfl (Tp m M0 w0 k0 (p0 rfl))
theorem Tr(Y:fK)(m:bu C R i0 l w F)(m1:∀Z∈R.m,Z<C.b)(M0:f≠R.k)(g0:f<C.b)(w0:C.c f=a (.b i))(k0:l.length<=1000)(p0:(∃t0,(t0,fe.b)∈Y.b)->vS l i x):
 (fX x Y.b=ae->∃O,aq (n+8) (.g 169) [Y.c,.q (bg R),.d f] C=.g O/\aW [] C O)/\
 (∀s,fX x Y.b=a s->∃O,aq (n+8) (.g 169) [Y.c,.q (bg R),.d f] C=.b (.e (dW s)) O/\aW [] C O):=by
 have v:C.e (.c [])=(C.e (.c [])).d C.b (.c []):=(iY gm).symm
 have g:∀P Z,Z<C.b->((C.e (.c [])).d C.b (.c P)).c Z=C.c Z:=λP Z b0=>by rw[cf (bC b0),iG (bC b0)]
 have o:∀P,aW [] C ((C.e (.c [])).d C.b (.c P)):=λP=>⟨pi _,rfl,λZ b0 _=>g P Z b0⟩
 obtain⟨k,U⟩:=Hm (Q:=C.e (.c [])) (d:=C.b) (x:=x) (I0:=bf (aq (n+7)) (.c [125,87]) mo)
  (λo0=>o0 79=a (.d C.b)/\o0 71=a (.q (bg R))/\o0 80=a (.d f))
  (λZ=>∃O,Z=.g O/\aW [] C O) Y.b [] ((((fc.c 55 Y.c).c 71 (.q (bg R))).c 80 (.d f)).c 79 (.d C.b)) (by have:=vJ Y;simp;exact az this (by decide)) ⟨by rfl,by rfl,by rfl⟩
  (λt0 f0 P o0 L I1 r=>by
    refine kr (r) λg1 g2 g3=>?_
    obtain⟨p,X⟩:=Tq (n:=n) (Q:=C.e (.c [])) (t0:=t0) (f0:=f0) (x:=x) g1 g2 g3 I1 (m.X m1 (g P)) M0 ((g P f g0).trans w0) k0 (λe=>p0 ⟨t0,e▸L⟩)
    refine⟨λh=>?_,λT h=>X T h⟩
    rw[p h]
    exact⟨aI ⟨_,rfl⟩,_,rfl,o P⟩)
 rw[<-v]at k U
 refine⟨λh=>?_,λs h=>?_⟩
 ·refine aA (k h) λO e U0=>?_
  refine(aw O ?_ U0)
  refine(bh rfl rfl).trans ?_
  rw[Hx]
  simp[fK.c]at e⊢
  rw[e];rfl
 ·refine rE (U s h) λl2 e g1 g2 g3=>?_
  rw[Xl]at e
  have c:(dW s).length<=100000:=by rw[bK,Hp h];have:=vJ Y;exact az this (by decide)
  refine(aw _ ?_ (o (dW s)))
  refine(bh rfl rfl).trans ?_
  rw[Hx]
  simp[fK.c]at e⊢
  rw[e]
  simp[g1,Ho (C:=(C.e (.c [])).d C.b (.c (dW s))) cE c]
end
noncomputable def Ag:aP->Bool|.f _=>av|.e ..=>af
section
variable{n g:Nat}{C Q:j}{R:br}{i0 F i:List (am×A)}{l w:List A}{f r d u:Nat}{x:Int}{z:List Nat}{H:D}{k:List D}{e0:List aP}{t:aP}{c:v}{b:ah}
theorem Ts:aq (n+1) (.g 102) [t.c] C=.b (.o (Ag t)) C:=by induction t<;>kernel_rfl
theorem cH.d0(J:cH g C r H):zu 55 (.h 13 r) C=.b H.c.h C:=by
 refine dP (J.o) λq E N h3=>?_
 rw[zv,ki (T:=H.c.g q) N rfl rfl,h3];rfl
theorem cH.f0(J:cH g C r H){e:ar}(C0:ag c e b C=.b (.h 13 r) C):bJ c (.n e 55) b C=.b H.c.h C:=by
 rw[vl,C0];exact J.d0
end
namespace vT
noncomputable def E0(n:Nat)(C:j):Prop:=∀{g r:Nat}{H:D}(J:cH g C r H)(q0:ml H){w S y:Int}{d:A}(D0:H.c≠.f)(F0:(aP.e w S y d).g),(cZ H (.e w S y d)=ae->aq (n+1) (.g 59) [.h 13 r,bt w S y d] C=.g C)/\
 (∀T,cZ H (.e w S y d)=a T->aq (n+1) (.g 59) [.h 13 r,bt w S y d] C=.b T C)
noncomputable def O0:Nat×j->Prop:=W λn=>λC=>E0 n C
def c0:=dQ (J dZ) O0
def n:Nat:=c0.1
def C:j:=c0.2
theorem Q0:E0 n C:=by
 intro g r H J q0 w S y d D0 F0
 have u:=λ{w}=>J.M (w:=w)
 have H0:=λ{w}=>J.c0 (w:=w)
 have i:=J.d0
 clear J
 clear g;obtain⟨I,Q,b,m0⟩:=H
 dsimp only at u H0 i D0
 have k5:(w=0/\y=0)\/(w=5/\0<=y/\y<=6):=F0
 clear F0;induction Q with
 |false=>
  clear H0 i;obtain rfl:b=a 0:=q0
  rcases k5 with⟨rfl,rfl⟩|⟨rfl,_,_⟩
  ·have W:cZ ⟨I,av,a 0,m0⟩ (.e 0 S 0 d)=a (bt 0 S 0 (.e [])):=by induction m0<;>first|exact absurd rfl D0|rfl
   rw[W]
   refine⟨λh=>(nomatch h),λT h=>?_⟩
   clear D0 W;replace h:=bn h;subst h
   refine(bh rfl rfl).trans ?_
   simp[mW,u,D.e]
  ·have W:cZ ⟨I,av,a 0,m0⟩ (.e 5 S y d)=ae:=by induction m0<;>first|exact absurd rfl D0|rfl
   rw[W]
   refine⟨λ_=>?_,λT h=>(nomatch h)⟩
   clear W;refine(bh rfl rfl).trans ?_
   simp[mW,u,D.e]
 |true=>
  clear q0;rcases k5 with⟨rfl,rfl⟩|⟨rfl,_,_⟩
  ·clear H0 i;have W:cZ ⟨I,af,b,m0⟩ (.e 0 S 0 d)=ae:=by induction m0<;>first|exact absurd rfl D0|rfl
   rw[W]
   refine⟨λ_=>?_,λT h=>(nomatch h)⟩
   clear D0 W;refine(bh rfl rfl).trans ?_
   simp[mW,u,D.e]
  ·induction b with
   |none=>
    have W:cZ ⟨I,af,ae,m0⟩ (.e 5 S y d)=a (bt 5 S y (.e [])):=by induction m0<;>first|exact absurd rfl D0|rfl
    rw[W]
    refine⟨λh=>(nomatch h),λT h=>?_⟩
    clear W;replace h:=bn h;subst h
    refine(bh rfl rfl).trans ?_
    simp[mW,u,H0,D.e]
   |some q=>
    have W:cZ ⟨I,af,a q,m0⟩ (.e 5 S y d)=if(q>y/\m0.h=av)then ae else a (bt 5 S q (.e [])):=by
     clear u;induction m0 with
     |f=>exact absurd rfl D0
     |e=>show(if q>y then _ else _)=_;by_cases h:q>y<;>simp[h,dH.h]
     |b Y=>simp[dH.h];rfl
    rw[W]
    clear W;by_cases E:q>y
    ·have l:y<q:=E
     cases F:m0.h with
     |false=>
      rw[if_pos ⟨E,rfl⟩]
      clear E;rw[F]at i
      refine⟨λ_=>?_,λT h=>(nomatch h)⟩
      clear F;refine(bh rfl rfl).trans ?_
      simp[mW,u,H0,D.e,eA,l,-zv,i]
     |true=>
      rw[if_neg (λh=>Bool.noConfusion h.2)]
      clear E;rw[F]at i
      refine⟨λh=>(nomatch h),λT h=>?_⟩
      clear F;replace h:=bn h;subst h
      refine(bh rfl rfl).trans ?_
      simp[mW,u,H0,D.e,eA,l,-zv,i]
    ·have l:¬y<q:=E
     rw[if_neg (λh=>E h.1)]
     refine⟨λh=>(nomatch h),λT h=>?_⟩
     clear E;replace h:=bn h;subst h
     refine(bh rfl rfl).trans ?_
     simp[mW,u,H0,D.e,eA,l]
end vT
theorem Tt{n:Nat}{C:j}:vT.E0 n C:=dS (Y:=vT.O0) vT.Q0 (n,C)
section
variable{n g:Nat}{C Q:j}{R:br}{i0 F i:List (am×A)}{l w:List A}{f r d u:Nat}{x:Int}{z:List Nat}{H:D}{k:List D}{e0:List aP}{t:aP}{c:v}{b:ah}
noncomputable def js:List aT:=[.d 184 (.d (.b 185) (.d (.b 135) (.b 32))),.d 100 (.g .e (.n (.b 184) 200) (.k [.c (.c [112,114,111,99]),.c (.c [102,117,110,99]),.c (.c [115,117,98])])),.c (.g .b (.b 100) (.m (.h 102) [.d (.b 29) (.b 32)])) [.n] [],.l (.b 80) (.d (.b 135) (.b 32)) (.u (.b 100) (.d (.d (.b 29) (.b 32)) (.c (.b 1))) (.m (.h 59) [.b 184,.d (.b 29) (.b 32)]))]
noncomputable def jt:List aT:=[.c (.n (.d (.b 185) (.b 133)) 55) [.q [108,30,115,55] (.d (.b 80) (.b 133)),.l (.b 80) (.b 133) (.k [.b 108,.b 30,.b 115,.m (.h 169) [.n (.d (.b 185) (.b 133)) 55,.b 71,.b 80]])] []]
theorem Hz:uz=[.d 80 (.q .d (.b 175)),.d 135 (.t (.b 141) 141 [] (.b 58) [.g .c (.b 141) (.c (.c [42]))]),.c (.g .c (.q .b (.b 135)) (.q .b (.b 29))) [.n] [],.k (.b 32) .c (.q .b (.b 135)) js,.k (.b 133) .b (.b 135) jt,.b (.b 80)]:=rfl
noncomputable abbrev eP(k:List D):List A:=k.map λH=>.c [H.b]
abbrev qS(k:List D)(z:List Nat):List (am×A):=bG k (z.map (.h 13))
structure jP(b:ah)(u f:Nat)(k:List D)(e0:List aP)(R:br):Prop where
 m:b 185=a (.d u)
 e:b 135=a (.k (eP k))
 o:b 29=a (.k (e0.map aP.c))
 p:b 71=a (.q (bg R))
 h:b 80=a (.d f)
theorem Tu(m0:dH):cC C .e (.c m0.c) (.e [.c [112,114,111,99],.c [102,117,110,99],.c [115,117,98]])=a (match m0 with|.f=>af|_=>av):=by induction m0<;>rfl
end
namespace vU
noncomputable def E0(n g:Nat)(C:j)(R:br)(f r u:Nat)(k:List D)(e0:List aP)(b:ah)(i:Int)(B:Nat)(z F:List (am×A)):Prop:=∀{H:D}{t:aP}(U:jP b u f k e0 R)(f0:i=B)(P:B<100)(l0:k[B]?=a H)(F0:e0[B]?=a t)(G0:C.c u=a (.b z))(D0:aX z [H.b]=a (.h 13 r))(J:cH g C r H)(q0:ml H)(c:t.g)(B0:C.c f=a (.b F))(A0:F.length<=1000),(cZ H t=ae->bf (aq (n+1)) (.b 32) js (.b i) b C=.g C)/\
 (∀T,cZ H t=a T->∃o0,fG (bf (aq (n+1)) (.b 32) js (.b i) b C) o0 (C.d f (.b (bv F [H.b] T)))/\jP o0 u f k e0 R)
noncomputable def O0:Nat×Nat×j×br×Nat×Nat×Nat×(List D)×(List aP)×ah×Int×Nat×(List (am×A))×(List (am×A))->Prop:=W λn=>W λg=>W λC=>W λR=>W λf=>W λr=>W λu=>W λk=>W λe0=>W λb=>W λi=>W λB=>W λz=>λF=>E0 n g C R f r u k e0 b i B z F
def c0:=dQ (J (J (bY dZ (bY nA (J (J (J (J (J (J (J (J (J inferInstance))))))))))))) O0
def n:Nat:=c0.1
def g:Nat:=c0.2.1
def C:j:=c0.2.2.1
def R:br:=c0.2.2.2.1
def f:Nat:=c0.2.2.2.2.1
def r:Nat:=c0.2.2.2.2.2.1
def u:Nat:=c0.2.2.2.2.2.2.1
def k:List D:=c0.2.2.2.2.2.2.2.1
def e0:List aP:=c0.2.2.2.2.2.2.2.2.1
def b:ah:=c0.2.2.2.2.2.2.2.2.2.1
def i:Int:=c0.2.2.2.2.2.2.2.2.2.2.1
def B:Nat:=c0.2.2.2.2.2.2.2.2.2.2.2.1
def z:List (am×A):=c0.2.2.2.2.2.2.2.2.2.2.2.2.1
def F:List (am×A):=c0.2.2.2.2.2.2.2.2.2.2.2.2.2
theorem Q0:E0 n g C R f r u k e0 b i B z F:=by
 intro H t U f0 P l0 F0 G0 D0 J q0 c B0 A0
 obtain⟨a1,a2,a3,a4,a5⟩:=U
 have e1:cz C (.k (eP k)) (.b i)=a (.c [H.b]):=by rw[zC (lz ‹_›) (oi ‹_› ‹_› (by decide)),show i.toNat=B by exact ng ‹_›,ft,l0];rfl
 have e2:cz C (.k (e0.map aP.c)) (.b i)=a t.c:=by rw[zC (lz ‹_›) (oi ‹_› ‹_› (by decide)),show i.toNat=B by exact ng ‹_›,ft,F0];rfl
 have e3:∀(b:ah)T,iZ b (.d f) (.c [H.b]) T C=.b (.b,b) (C.d f (.b (bv F [H.b] T))):=λb T=>nj B0 A0
 have v:=λ{w}=>J.I (w:=w)
 have e4:=lB (w:=[H.b]) G0
 rw[D0]at e4
 have e5:=Tu (C:=C) H.c
 have e6:=Ts (n:=n) (C:=C) (t:=t)
 by_cases l:H.c=.f
 ·rw[l]at e5
  induction t with
  |f I=>
   have W:cZ H (.f I)=a (.c [I]):=by unfold cZ;rw[l]
   rw[W]
   refine⟨λh=>(nomatch h),λT h=>?_⟩
   replace h:=bn h;subst h
   have m:aq (n+1) (.g 102) [.e [.c nB,.c [I]]] C=.b (.o av) C:=e6
   have O:cz C (.k (e0.map aP.c)) (.b i)=a (.e [.c nB,.c [I]]):=e2
   refine(aw _ (aL (by simp[bf,js,a1,a2,a3,a5,e1,O,e4,v,l,e5,m,e3];rfl)) ⟨by exact a1,by exact a2,by exact a3,by exact a4,by exact a5⟩)
  |e w S y d=>
   have W:cZ H (.e w S y d)=ae:=by unfold cZ;rw[l]
   rw[W]
   refine⟨λ_=>by simp[bf,js,a1,a2,a3,e1,e2,e4,v,l,e5,e6,Ag],λT h=>(nomatch h)⟩
 ·have Q:cC C .e (.c H.c.c) (.e [.c [112,114,111,99],.c [102,117,110,99],.c [115,117,98]])=a av:=by
   rw[e5];cases q:H.c<;>first|exact absurd q l|rfl
  induction t with
  |f I=>
   have W:cZ H (.f I)=ae:=by unfold cZ;cases q:H.c<;>first|exact absurd q l|rfl
   rw[W]
   refine⟨λ_=>by simp[bf,js,a1,a2,a3,e1,e2,e4,v,Q,e6,Ag],λT h=>(nomatch h)⟩
  |e w S y d=>
   obtain⟨D,d2⟩:=Tt (n:=n) J q0 l c
   have m:aq (n+1) (.g 102) [bt w S y d] C=.b (.o af) C:=e6
   have O:cz C (.k (e0.map aP.c)) (.b i)=a (bt w S y d):=e2
   refine⟨λh=>?_,λT h=>?_⟩
   ·have:=D h
    simp[bf,js,a1,a2,a3,e1,O,e4,v,Q,m,this]
   ·have:=d2 T h
    refine(aw _ (aL (by simp[bf,js,a1,a2,a3,a5,e1,O,e4,v,Q,m,this,e3];rfl)) ⟨by exact a1,by exact a2,by exact a3,by exact a4,by exact a5⟩)
end vU
theorem Tv{n g:Nat}{C:j}{R:br}{f r u:Nat}{k:List D}{e0:List aP}{b:ah}{i:Int}{B:Nat}{z F:List (am×A)}:vU.E0 n g C R f r u k e0 b i B z F:=dS (Y:=vU.O0) vU.Q0 (n,g,C,R,f,r,u,k,e0,b,i,B,z,F)
section
variable{n g:Nat}{C Q:j}{R:br}{i0 F i:List (am×A)}{l w:List A}{f r d u:Nat}{x:Int}{z:List Nat}{H:D}{k:List D}{e0:List aP}{t:aP}{c:v}{b:ah}
end
section
variable{n g:Nat}{C Q:j}{R:br}{i0 F i:List (am×A)}{l w:List A}{f r d u:Nat}{x:Int}{z:List Nat}{H:D}{k:List D}{e0:List aP}{t:aP}{c:v}{b:ah}{s:List Int}
end
theorem Tw{n g:Nat}{C:j}{R:br}{i0 F:List (am×A)}{l w:List A}{f r u:Nat}{x:Int}{H:D}{k:List D}{e0:List aP}{b:ah}{z K0:List (am×A)}:∀{T:A}(U:jP b u f k e0 R)(G0:C.c u=a (.b z))(D0:aX z [H.b]=a (.h 13 r))(J:cH g C r H)(m:bu C R i0 l w K0)(m1:∀Z∈R.m,Z<C.b)(M0:f≠R.k)(k0:l.length<=1000)(x0:C.c f=a (.b F))(A0:F.length<=1000)(g0:f<C.b)(h0:aX F [H.b]=a T)(J0:∀Y,H.c=.b Y->∃w S y,T=bt w S y (.e []))(p0:∀Y,H.c=.b Y->(∃t0,(t0,fe.b)∈Y.b)->vS l F x),(dM x H T=ae->∃O,bf (aq (n+8)) (.b 133) jt (.c [H.b]) b C=.g O/\aW [] C O)/\
 (∀d0,dM x H T=a d0->∃o0 O,fG (bf (aq (n+8)) (.b 133) jt (.c [H.b]) b C) o0 O/\aW [f] C O/\(∃t,O.c f=a (.b t)/\(t=bv F [H.b] d0\/(t=F/\d0=T)))/\jP o0 u f k e0 R):=by
 intro T U G0 D0 J m m1 M0 k0 x0 A0 g0 h0 J0 p0
 obtain⟨a1,a2,a3,a4,a5⟩:=U
 have e4:=lB (w:=[H.b]) G0
 rw[D0]at e4
 have i:=J.f0 (c:=aq (n+8)) (b:=b.c 133 (.c [H.b])) (e:=.d (.b 185) (.b 133)) (by simp[a1,e4])
 have y0:H.c.h=av->dM x H T=a T->(dM x H T=ae->∃O,bf (aq (n+8)) (.b 133) jt (.c [H.b]) b C=.g O/\aW [] C O)/\
  (∀d0,dM x H T=a d0->∃o0 O,fG (bf (aq (n+8)) (.b 133) jt (.c [H.b]) b C) o0 O/\aW [f] C O/\(∃t,O.c f=a (.b t)/\(t=bv F [H.b] d0\/(t=F/\d0=T)))/\jP o0 u f k e0 R):=λv0 C0=>by
  rw[C0]
  rw[v0]at i
  refine⟨λh=>(nomatch h),λd0 h=>?_⟩
  replace h:=bn h;subst h
  exact(gM _ C (aL (by simp[bf,jt,-vl,i];rfl)) aW.d (aw F x0 (aI ⟨rfl,rfl⟩)) ⟨by exact a1,by exact a2,by exact a3,by exact a4,by exact a5⟩)
 generalize d:H.c=x9;induction x9 with
 |e=>exact y0 (by rw[d];rfl) (by unfold dM;rw[d])
 |f=>exact y0 (by rw[d];rfl) (by unfold dM;rw[d])
 |b Y=>
  refine rF (J0 Y d) λQ S y V0=>?_;obtain rfl:=V0
  rw[d]at i
  have P:bJ (aq (n+8)) (.n (.d (.b 185) (.b 133)) 55) (b.c 133 (.c [H.b])) C=.b af C:=i
  have E:dM x H (bt Q S y (.e []))=(fX x Y.b).map λs=>.e [.b Q,.b S,.b y,.e (dW s)]:=by unfold dM;rw[d]
  rw[E]
  have e5:=lB (w:=[H.b]) x0
  rw[h0]at e5
  obtain⟨s1,I⟩:=Tr (n:=n) (x:=x) Y m m1 M0 g0 x0 k0 (p0 Y d)
  generalize q:fX x Y.b=x9;induction x9 with
  |none=>
   refine⟨λ_=>?_,λd0 h=>(nomatch h)⟩
   refine aA (s1 q) λO e o=>?_
   exact(aw O (by simp[bf,jt,-vl,P,a1,a4,a5,e4,e5,J.V d,e]) o)
  |some s=>
   refine⟨λh=>(nomatch h),λd0 h=>?_⟩
   replace h:=bn h;subst h
   refine aA (I s q) λO e o=>?_
   have W:O.c f=a (.b F):=by rw[o.c f g0 cU];exact x0
   have e6:∀(b:ah)T,iZ b (.d f) (.c [H.b]) T O=.b (.b,b) (O.d f (.b (bv F [H.b] T))):=λb T=>nj W A0
   refine(gM (((((b.c 133 (.c [H.b])).c 108 (.b Q)).c 30 (.b S)).c 115 (.b y)).c 55 (.e [])) (O.d f (.b (bv F [H.b] (.e [.b Q,.b S,.b y,.e (dW s)])))) (aL (by simp[bf,jt,-vl,P,a1,a4,a5,e4,e5,J.V d,e,e6])) ((o.f λZ a0=>nomatch a0).trans (dg cg)) (aw _ cE (aL rfl)) ⟨by exact a1,by exact a2,by exact a3,by exact a4,by exact a5⟩)
section
variable{n g:Nat}{C Q:j}{R:br}{i0 F i:List (am×A)}{l w:List A}{f r d u:Nat}{x:Int}{z:List Nat}{H:D}{k:List D}{e0:List aP}{t:aP}{c:v}{b:ah}{s:List Int}
end
namespace vV
noncomputable def E0(n g:Nat)(C:j)(R:br)(f u:Nat)(k:List D)(e0:List aP)(b:ah)(z:List (am×A)):Prop:=∀(Y0:∀H∈k,ml H)(q0:∀t∈e0,t.g)(h4:k.length<=4)(y0:(k.map (·.b)).Nodup)(k0:k.length=e0.length)(u0:g<=f)(c:g<=C.b)(F:u<C.b)(z0:u≠f)(x0:C.c f=a (.b []))(G0:C.c u=a (.b z))(N:∀(B:Nat)(H:D),k[B]?=a H->∃r,aX z [H.b]=a (.h 13 r)/\cH g C r H)(U:jP b u f k e0 R),(ae∈iH k e0/\∃O,ch (bf (aq (n+1)) (.b 32) js) (dj k.length) b C=.g O/\aW [f] C O)\/
 (∃X,iH k e0=X.map a/\∃o0 O,ch (bf (aq (n+1)) (.b 32) js) (dj k.length) b C=.b (.b,o0) O/\aW [f] C O/\O.c f=a (.b (bG k X))/\jP o0 u f k e0 R)
noncomputable def O0:Nat×Nat×j×br×Nat×Nat×(List D)×(List aP)×ah×(List (am×A))->Prop:=W λn=>W λg=>W λC=>W λR=>W λf=>W λu=>W λk=>W λe0=>W λb=>λz=>E0 n g C R f u k e0 b z
def c0:=dQ (J (J (bY dZ (bY nA (J (J (J (J (J inferInstance))))))))) O0
def n:Nat:=c0.1
def g:Nat:=c0.2.1
def C:j:=c0.2.2.1
def R:br:=c0.2.2.2.1
def f:Nat:=c0.2.2.2.2.1
def u:Nat:=c0.2.2.2.2.2.1
def k:List D:=c0.2.2.2.2.2.2.1
def e0:List aP:=c0.2.2.2.2.2.2.2.1
def b:ah:=c0.2.2.2.2.2.2.2.2.1
def z:List (am×A):=c0.2.2.2.2.2.2.2.2.2
theorem Q0:E0 n g C R f u k e0 b z:=by
 intro Y0 q0 h4 y0 k0 u0 c F z0 x0 G0 N U
 have p:∀B Q(X:List A)(b:ah),B<k.length->X.length=B->aW [f] C Q->Q.c f=a (.b (bG (k.take B) X))->jP b u f k e0 R->∃H t,k[B]?=a H/\e0[B]?=a t/\
  (cZ H t=ae->bf (aq (n+1)) (.b 32) js (.b B) b Q=.g Q)/\
  (∀T,cZ H t=a T->∃o0,fG (bf (aq (n+1)) (.b 32) js (.b B) b Q) o0 (Q.d f (.b (bG (k.take (B+1)) (X++[T]))))/\jP o0 u f k e0 R):=λB Q X b P l o w0 U=>by
  have l0:k[B]?=a k[B]:=eG P
  have F0:e0[B]?=a (e0[B]'(aM P (bw k0))):=eG (aM P (bw k0))
  refine aA (N B _ l0) λr j0 J=>?_
  have D:=J.y o c (λZ a0=>by rw[cP.mp a0];exact u0)
  refine(bU (k[B]) (e0[B]'(aM P (bw k0))) l0 F0 ?_)
  have:=Tv (n:=n) (C:=Q) (f:=f) (i:=B) (B:=B) U rfl (aM (aM P h4) (by decide)) l0 F0 (by rw[o.c u F (λa0=>z0 (cP.mp a0))];exact G0) j0 D (Y0 _ (tH _)) (q0 _ (tH _)) w0 (by have:=vM (k:=k.take B) (X:=X);rw[jx]at this;exact az (az (az this (tj _ _)) h4) (by decide))
  have J0:∀T,bv (bG (k.take B) X) [k[B].b] T=bG (k.take (B+1)) (X++[T]):=λT=>by
   rw[Ab l0];exact zW (by rw[jx];lia) (Hr y0 l0)
  refine⟨this.1,λT h=>?_⟩
  refine aA (this.2 T h) λl2 r0 S=>?_
  rw[J0 T]at r0
  exact(aw l2 r0 S)
 rcases zJ (I0:=bf (aq (n+1)) (.b 32) js) (b:=b) (C:=C) k.length
  (λB b Q=>∃X,X.length=B/\(iH k e0).take B=X.map a/\aW [f] C Q/\Q.c f=a (.b (bG (k.take B) X))/\jP b u f k e0 R)
  (lf [] rfl rfl aW.d x0 U)
  (λB b Q P⟨X,l,W,o,w0,U⟩=>by
    refine cX (p B Q X b P l o w0 U) λH t l0 F0 t1 t2=>?_
    generalize q:cZ H t=x9;induction x9 with
    |none=>exact aL (aI ⟨_,t1 q⟩)
    |some T=>
     refine aA (t2 T q) λl2 r0 S=>?_
     refine aI (dK l2 _ r0 ⟨X++[T],by simp[l],vL W ((jr l0 F0).trans (by rw[q])),o.trans (dg cg),cE,S⟩))with⟨l2,Q,e,X,l,W,o,w0,U⟩|⟨B,l2,Q,P,⟨X,l,W,o,w0,U⟩,f0,e⟩
 ·refine aI (aw X ?_ ⟨l2,Q,e,o,?_,U⟩)
  ·rw[<-W,jS];unfold iH;rw[mD];exact jR _ _
  ·rw[w0,jS (bS _)]
 ·refine cX (p B Q X l2 P l o w0 U) λH t l0 F0 t1 t2=>?_
  generalize q:cZ H t=x9;induction x9 with
  |none=>exact aL ⟨eH ((jr l0 F0).trans (by rw[q]):(iH k e0)[B]?=a ae),Q,e.trans (t1 q),o⟩
  |some T=>
   refine aA (t2 T q) λl3 r0 _=>?_
   rcases r0 with r0|r0<;>rw[r0]at f0<;>rcases f0 with⟨_,_,_,f0⟩|⟨_,f0⟩<;>cases f0
end vV
theorem Tx{n g:Nat}{C:j}{R:br}{f u:Nat}{k:List D}{e0:List aP}{b:ah}{z:List (am×A)}:vV.E0 n g C R f u k e0 b z:=dS (Y:=vV.O0) vV.Q0 (n,g,C,R,f,u,k,e0,b,z)
section
variable{n g:Nat}{C Q:j}{R:br}{i0 F i:List (am×A)}{l w:List A}{f r d u:Nat}{x:Int}{z:List Nat}{H:D}{k:List D}{e0:List aP}{t:aP}{c:v}{b:ah}{s:List Int}
structure Ah(C:j)(f u:Nat)(x:Int)(k:List D)(e0:List aP)(R:br)(X:List A)(B:Nat)(M:List A)(p:ah)(Q:j):Prop where
 e:M.length=B
 m:(fY x k X).take B=M.map a
 h:aW [f] C Q
 o:Q.c f=a (.b (bG k (M++X.drop B)))
 p:jP p u f k e0 R
theorem Tz{z K0:List (am×A)}{X:List A}(y0:(k.map (·.b)).Nodup)(h4:k.length<=4)(l:X.length=k.length)(B0:f<C.b)(u0:g<=f)(F:u<C.b)(z0:u≠f)(G0:C.c u=a (.b z))(N:∀(B:Nat)(H:D),k[B]?=a H->∃r,aX z [H.b]=a (.h 13 r)/\cH g C r H)(W:∀(B:Nat)(H:D)(T:A),k[B]?=a H->X[B]?=a T->H.c≠.f->∃w S y,T=bt w S y (.e []))(m:bu C R i0 (s.map bi) w K0)(m1:∀Z∈R.m,Z<g)(H0:s.length<=1000)(p0:(∃H Y t0,H∈k/\H.c=.b Y/\(t0,fe.b)∈Y.b)->∃v0 S,k[0]?=a v0/\v0.b=80/\v0.c=.e/\X[0]?=a (bt 0 S 0 (.e []))/\0<=S/\s[S.toNat]?=a x)(x0:C.c f=a (.b (bG k X)))(U:jP b u f k e0 R):
 (ae∈fY x k X/\∃O,ch (bf (aq (n+8)) (.b 133) jt) (eP k) b C=.g O/\aW [f] C O)\/
 (∃M,fY x k X=M.map a/\∃o0 O,ch (bf (aq (n+8)) (.b 133) jt) (eP k) b C=.b (.b,o0) O/\aW [f] C O/\O.c f=a (.b (bG k M))/\o0 80=a (.d f)):=by
 have p:∀B Q(M:List A)(b:ah)(T:A),(eP k)[B]?=a T->Ah C f u x k e0 R X B M b Q->∃H m0,k[B]?=a H/\X[B]?=a m0/\
  (dM x H m0=ae->∃O,bf (aq (n+8)) (.b 133) jt T b Q=.g O/\aW [f] C O)/\
  (∀d0,dM x H m0=a d0->∃o0 O,fG (bf (aq (n+8)) (.b 133) jt T b Q) o0 O/\Ah C f u x k e0 R X (B+1) (M++[d0]) o0 O):=λB Q M b T h0 s0=>by
  obtain⟨H,l0,rfl⟩:∃H,k[B]?=a H/\T=.c [H.b]:=by
   rw[ft]at h0
   generalize q:k[B]?=x9;induction x9 with
   |none=>rw[q]at h0;cases h0
   |some r=>rw[q]at h0;cases h0;exact(aw r rfl rfl)
  have P:B<k.length:=(iv.mp l0).1
  have D0:X[B]?=a (X[B]'(aM P (bw l.symm))):=eG (aM P (bw l.symm))
  generalize X[B]'(aM P (bw l.symm))=m0 at D0
  refine(bU H m0 l0 D0 ?_)
  refine aA (N B H l0) λr j0 J=>?_
  have f1:=J.y s0.h (fB (el u0 B0)) (λZ a0=>by rw[cP.mp a0];exact u0)
  have h1:(M++X.drop B).length=k.length:=by rw[jT,pE,s0.e,l];exact Bx (fB P)
  have q0:(M++X.drop B)[B]?=a m0:=by
   rw[Bz (by rw[s0.e];lia),s0.e,tF,pb D0];rfl
  have w0:aX (bG k (M++X.drop B)) [H.b]=a m0:=(qM y0 h1 l0).trans q0
  have c:∀d0,(M++X.drop B).set B d0=(M++[d0])++X.drop (B+1):=λd0=>by
   rw[By _ _ (by rw[s0.e];lia),s0.e,tF,pb D0];simp
  have J0:∀d0,bv (bG k (M++X.drop B)) [H.b] d0=bG k ((M++[d0])++X.drop (B+1)):=λd0=>by rw[Hl y0 h1 l0,c]
  have A0:M++X.drop B=(M++[m0])++X.drop (B+1):=by rw[pb D0];simp
  have c0:∀Z∈R.m,Z<Q.b:=λZ a0=>by have:=m1 Z a0;have:=s0.h.b;lia
  have C0:bu Q R i0 (s.map bi) w K0:=m.X m1 λZ b0=>s0.h.c Z (cT (aM b0 u0) B0) λa0=>by rw[cP.mp a0]at b0;lia
  have E0:f≠R.k:=λe=>by have:=m1 R.k cg;lia
  obtain⟨t1,t2⟩:=Tw (n:=n) (C:=Q) (f:=f) (x:=x) s0.p (by rw[s0.h.c u F (λa0=>z0 (cP.mp a0))];exact G0) j0 f1 C0 c0 E0 (by rw[bK];exact H0) s0.o (by have:=vM (k:=k) (X:=M++X.drop B);exact az (az this h4) (by decide)) (aM B0 s0.h.b) w0
   (λY e=>W B H m0 l0 D0 (by rw[e];exact λZ=>nomatch Z))
   (λY e⟨t0,L⟩=>by
     refine pU (p0 (jh H Y t0 (eH l0) e L)) λv0 S q1 q2 V d j G=>?_
     have M0:S.toNat<s.length:=(iv.mp G).1
     refine(dY S 0 (.e []) ?_ j (by rw[bK];exact Rj ‹_› ‹_›) (by rw[ft,G];rfl))
     rw[<-q2,qM y0 h1 q1]
     induction B using kX with
     |zero=>rw[wH s0.e];exact d
     |succ B=>
      have F0:0<M.length:=by rw[s0.e];lia
      rw[wZ F0]
      have n0:(fY x k X)[0]?=a (a (bt 0 S 0 (.e []))):=by
       unfold fY;rw[jr q1 d,Hs V]
      have E:((fY x k X).take (B+1))[0]?=a (a (bt 0 S 0 (.e []))):=by rw[BA (by lia)];exact n0
      refine aA (qQ s0.m E) λd0 e1 e2=>?_
      replace e1:=bn e1;subst e1;exact e2)
  refine⟨λh=>?_,λd0 h=>?_⟩
  ·refine aA (t1 h) λI e o=>?_
   exact(aw I e (s0.h.trans (o.f λZ a0=>(nomatch a0))))
  ·refine cX (t2 d0 h) λl2 I r0 o i a1=>?_;obtain⟨t,k0,L0⟩:=i
   refine(dK l2 I r0 ⟨by rw[jT,s0.e];rfl,vL s0.m ((jr l0 D0).trans (by rw[h])),s0.h.trans o,?_,a1⟩)
   rcases L0 with rfl|⟨rfl,rfl⟩
   ·rw[<-J0];exact k0
   ·rw[<-A0];exact k0
 rcases zI (I0:=bf (aq (n+8)) (.b 133) jt) (λB b Q=>∃M,Ah C f u x k e0 R X B M b Q) (eP k) 0 b C
  (λB T b Q h0⟨M,s0⟩=>by
    rw[oh]at s0⊢
    refine cX (p B Q M b T h0 s0) λH m0 l0 D0 t1 t2=>?_
    generalize q:dM x H m0=x9;induction x9 with
    |none=>
     refine aA (t1 q) λI e _=>?_
     exact aL (aI ⟨_,e⟩)
    |some d0=>
     refine fw (t2 d0 q) λl2 I r0 v=>?_
     exact aI (dK l2 I r0 ⟨_,v⟩))
  ⟨[],⟨rfl,rfl,aW.d,x0,U⟩⟩with⟨l2,Q,e,M,s0⟩|⟨B,T,l2,Q,h0,⟨M,s0⟩,f0,e⟩
 ·rw[bK,oh]at s0
  have g0:(fY x k X).length=k.length:=by unfold fY;rw[mD];lia
  refine aI (aw M ?_ ⟨l2,Q,e,s0.h,?_,s0.p.h⟩)
  ·rw[<-s0.m,jS (bw g0)]
  ·have:=s0.o
   rw[Xn (bw l),pB]at this
   exact this
 ·rw[oh]at s0
  refine cX (p B Q M l2 T h0 s0) λH m0 l0 D0 t1 t2=>?_
  generalize q:dM x H m0=x9;induction x9 with
  |none=>
   refine aA (t1 q) λs3 e3 o=>?_
   exact aL ⟨eH ((jr l0 D0).trans (by rw[q]):(fY x k X)[B]?=a ae),s3,e.trans e3,o⟩
  |some d0=>
   refine fw (t2 d0 q) λl3 s3 r0 _=>?_
   rcases r0 with r0|r0<;>rw[r0]at f0<;>rcases f0 with⟨_,_,_,f0⟩|⟨_,f0⟩<;>cases f0
end
section
variable{n g:Nat}{C Q:j}{R:br}{i0 F i:List (am×A)}{l w:List A}{f r d u g0 p0:Nat}{x:Int}{z:List Nat}{H:D}{k:List D}{e0:List aP}{t:aP}{c:v}{b:ah}{s:List Int}
theorem TA{q:List (am×A)}(w0:C.c r=a (.b q))(h:q.length<=1000):cK C .d (.d r)=.b (.d C.b) (C.e (.b q)):=by
 show(match C.c r with|some (.b l)=>if l.length<=1000 then au.b (A.d C.b) (C.e (.b l))else .d|_=>.d)=_
 rw[w0];exact if_pos h
theorem TB(J:∀H∈k,H.b≠42):bX (dT c (.b 141) 141 [] [.g .c (.b 141) (.c (.c [42]))] b) (eP k) C=.b (eP k) C:=by
 rw[GS (V:=λ_=>af) λT h0=>?_,Xp.mpr λ_ _=>rfl]
 refine aA (iq.mp h0) λH l0 n0=>?_;obtain rfl:=n0
 have:¬H.b=42:=J H l0
 simp[dT,jb,this]
end
namespace vW
noncomputable def E0(n:Nat)(C:j)(R:br):Prop:=∀{g:Nat}{i0:List (am×A)}{w:List A}{u p0:Nat}{k:List D}{e0:List aP}{s:List Int}{z K0:List (am×A)}(Y0:∀H∈k,ml H)(q0:∀t∈e0,t.g)(E:1<=k.length)(h4:k.length<=4)(J:∀H∈k,H.b≠42)(r0:e0.length<=100)(y0:(k.map (·.b)).Nodup)(u0:g<=C.b)(F:u<C.b)(A0:C.c p0=a (.b []))(G0:C.c u=a (.b z))(N:∀(B:Nat)(H:D),k[B]?=a H->∃r,aX z [H.b]=a (.h 13 r)/\cH g C r H)(m:bu C R i0 (s.map bi) w K0)(m1:∀Z∈R.m,Z<g)(H0:s.length<=1000)(f0:sU s k e0),(qP s k e0/\∃O,aq (n+9) (.g 36) [.d u,.k (eP k),.d p0,.k (e0.map aP.c),.q (bg R)] C=.g O/\aW [] C O)\/
 (∃M,jO s k e0 M/\∃O f,aq (n+9) (.g 36) [.d u,.k (eP k),.d p0,.k (e0.map aP.c),.q (bg R)] C=.b (.d f) O/\aW [] C O/\C.b<=f/\f<O.b/\O.c f=a (.b (bG k M)))
noncomputable def O0:Nat×j×br->Prop:=W λn=>W λC=>λR=>E0 n C R
def c0:=dQ (J (bY dZ nA)) O0
def n:Nat:=c0.1
def C:j:=c0.2.1
def R:br:=c0.2.2
theorem Q0:E0 n C R:=by
 intro g i0 w u p0 k e0 s z K0 Y0 q0 E h4 J r0 y0 u0 F A0 G0 N m m1 H0 f0
 have e1:=TA (C:=C) A0 (by simp)
 have l1:cK (C.e (.b [])) .b (.k (eP k))=.b (.b k.length) (C.e (.b [])):=by rw[jM (by rw[bK];exact az h4 (by decide)),bK]
 have l2:cK (C.e (.b [])) .b (.k (e0.map aP.c))=.b (.b e0.length) (C.e (.b [])):=by rw[jM (by rw[bK];exact az r0 (by decide)),bK]
 have G:k.length<=1000:=by exact az h4 (by decide)
 have j0:=λb=>TB (C:=C.e (.b [])) (c:=aq (n+8)) (b:=b) J
 have j:∀q,aq.leave (aO (aq (n+8)) uz (((((fc.c 185 (.d u)).c 58 (.k (eP k))).c 175 (.d p0)).c 29 (.k (e0.map aP.c))).c 71 (.q (bg R))) C)=q->aq (n+9) (.g 36) [.d u,.k (eP k),.d p0,.k (e0.map aP.c),.q (bg R)] C=q:=λq h=>(bh rfl rfl).trans h
 by_cases k0:k.length=e0.length
 ·have e2:aO (aq (n+8)) uz (((((fc.c 185 (.d u)).c 58 (.k (eP k))).c 175 (.d p0)).c 29 (.k (e0.map aP.c))).c 71 (.q (bg R))) C=
   fU (aO (aq (n+8)) [.k (.b 133) .b (.b 135) jt,.b (.b 80)]) (ch (bf (aq (n+8)) (.b 32) js) (dj k.length) (((((((fc.c 185 (.d u)).c 58 (.k (eP k))).c 175 (.d p0)).c 29 (.k (e0.map aP.c))).c 71 (.q (bg R))).c 80 (.d C.b)).c 135 (.k (eP k))) (C.e (.b []))):=by
   simp only[Hz]
   simp only[<-k0]at l2
   simp[e1,j0,gI G,l1,l2,eN (i:=(k.length:Int)) (ip _) (dO.mpr (az h4 (by decide)))]
  have U:jP (((((((fc.c 185 (.d u)).c 58 (.k (eP k))).c 175 (.d p0)).c 29 (.k (e0.map aP.c))).c 71 (.q (bg R))).c 80 (.d C.b)).c 135 (.k (eP k))) u C.b k e0 R:=⟨by rfl,by rfl,by rfl,by rfl,by rfl⟩
  have t0:∀(B:Nat)(H:D),k[B]?=a H->∃r,aX z [H.b]=a (.h 13 r)/\cH g (C.e (.b [])) r H:=λB H l0=>by
   refine aA (N B H l0) λr S p=>?_
   exact(aw r S (p.y (z0:=[]) dL u0 (λZ a0=>nomatch a0)))
  rcases Tx (n:=n+7) (f:=C.b) (g:=g) (u:=u) Y0 q0 h4 y0 k0 u0 (wD u0) (kU F) (bC F) gm ((iG (bC F)).trans G0) t0 U with⟨W,O,e3,o⟩|⟨X,W,C0,Q,e3,o,w0,L⟩
  ·have L0:aW [] C O:=(dL (z0:=[])).e o λZ b0=>by simp only[cP.mp b0];exact aI (bS _)
   refine aL ⟨aI (aL W),O,j _ ?_,L0⟩
   simp only[e2,e3];rfl
  ·have L0:aW [] C Q:=(dL (z0:=[])).e o λZ b0=>by simp only[cP.mp b0];exact aI (bS _)
   have l:X.length=k.length:=by
    have:=congrArg qZ W
    unfold iH at this
    simp only[mD,bK]at this
    lia
   have s0:∀(B:Nat)(H:D)(T:A),k[B]?=a H->X[B]?=a T->∃t,e0[B]?=a t/\cZ H t=a T:=λB H T l0 h0=>by
    have P:B<e0.length:=by simp only[<-k0];exact(iv.mp l0).1
    refine(aw (e0[B]) (eG P) ?_)
    have:=jr (f:=cZ) l0 (eG P)
    refine aA (qQ W this) λd0 e1 e2=>?_
    replace e2:=be h0 e2;subst e2;exact e1
   have m0:∀Z,Z<g->Q.c Z=C.c Z:=λZ b0=>L0.c Z (aM b0 u0) cU
   have:=Tz (n:=n) (C:=Q) (f:=C.b) (g:=g) (u:=u) (X:=X) (s:=s) (x:=qO s X) y0 h4 l o.b u0 (aM F L0.b) (bC F)
    (by simp only[L0.c u F cU];exact G0)
    (λB H l0=>by
      refine aA (N B H l0) λr S p=>?_
      exact(aw r S (p.L m0)))
    (λB H T l0 h0 D0=>by
      refine aA (s0 B H T l0 h0) λt _ e=>?_
      exact Aa e D0)
    (m.X m1 m0) m1 H0
    (λb0=>by
      refine cX (f0 b0) λv0 o0 n0 q2 V d=>?_;obtain rfl:=n0
      obtain⟨y,g0⟩:∃y,X[0]?=a y:=⟨X[0]'(aM (aM (by decide) E) (bw l.symm)),eG (aM (aM (by decide) E) (bw l.symm))⟩
      refine aA (s0 0 v0 y rfl g0) λt F0 e=>?_
      refine dP (d t y F0 e) λS J0 I a1=>?_;obtain rfl:=J0
      exact(gN v0 S rfl q2 V g0 ⟨I,Ht g0 I a1⟩))
    w0 L
   have B0:∀O,aW [C.b] Q O->aW [] C O:=λO v=>L0.e v λZ b0=>by simp only[cP.mp b0];exact aI (bS _)
   rcases this with⟨R1,O,e4,v⟩|⟨M,R1,l3,O,e4,v,x0,I0⟩
   ·refine aL ⟨aI (aI (aw X W R1)),O,j _ ?_,B0 O v⟩
    simp only[e2,e3]
    simp[L.e,e4]
   ·refine aI (aw M ⟨k0,X,W,R1⟩ ⟨O,C.b,j _ ?_,B0 O v,bS _,aM o.b v.b,x0⟩)
    simp only[e2,e3]
    simp[L.e,e4,I0]
 ·refine aL ⟨aL k0,C.e (.b []),j _ ?_,dL⟩
  have Y:¬(k.length:Int)=e0.length:=by lia
  simp only[Hz]
  simp[e1,j0,gI G,l1,l2,Y]
end vW
theorem TC{n:Nat}{C:j}{R:br}:vW.E0 n C R:=dS (Y:=vW.O0) vW.Q0 (n,C,R)
section
variable{n g:Nat}{C Q:j}{R:br}{i0 F i:List (am×A)}{l w:List A}{f r d u g0 p0:Nat}{x:Int}{z:List Nat}{H:D}{k:List D}{e0:List aP}{t:aP}{c:v}{b:ah}{s:List Int}
theorem vX{s0:bM}(h:C.c r=a s0):(C.lock r).d r s0=C:=by
 induction C with
 |mk S r0 p=>
 show j.mk _ _ _=j.mk _ _ _
 congr 1;funext z
 show(if z=r then a s0 else if z=r then ae else r0 z)=r0 z
 by_cases s:z=r
 ·rw[if_pos s,s];exact h.symm
 ·rw[if_neg s,if_neg s]
theorem HA{q:List (am×A)}(h:C.c r=a (.b q)):eL C .b (.d r)=a (q.map (λV=>.c V.1),a r):=by
 show(match C.c r with
  |some (.c l)=>a (l,a r)
  |some (.b l)=>a (l.map (λ(V:am×A)=>A.c V.1),a r)
  |_=>ae)=_
 rw[h]
theorem TD(m:bu C R i0 l w F)(m1:∀Z∈R.m,Z<C.b){m0:A}:aq (n+1) (.g 174) [bg R,m0] C=.b (.d C.b) (C.e (.b [])):=by
 have d:bu (C.e (.b [])) R i0 l w F:=m.X m1 λZ b0=>iG (bC b0)
 refine(bh rfl rfl).trans ?_
 (delta Ec;simp[d.s0,HA d.E])
 rw[nN (S:=(.b,_)) d.E RG,vX d.E]
 simp
end
section
variable{n g:Nat}{C Q:j}{R:br}{i0 F i:List (am×A)}{l w:List A}{f r d u g0 p0:Nat}{x:Int}{z:List Nat}{H:D}{k:List D}{e0:List aP}{t:aP}{c:v}{b:ah}{s:List Int}
theorem HB{f:A->j->au (Option A)}:∀{l:List A},(∀T∈l,f T C=.b ae C)->bX f l C=.b [] C:=by
 intro J
 induction J with
 |nil=>
  intro _
  exact rfl
 |cons T _ U=>
  intro h
  exact nz (h T cg) (U λm0 D0=>h m0 (ge _ D0))
theorem TF(J:∀H∈k,H.b≠42):bX (dT c (.b 141) 141 [] [.g .b (.b 141) (.c (.c [42]))] b) (eP k) C=.b [] C:=by
 refine HB λT h0=>?_
 refine aA (iq.mp h0) λH l0 n0=>?_;obtain rfl:=n0
 have:¬H.b=42:=J H l0
 simp[dT,jb,this]
theorem TG:bX (dT c (.b 141) 141 [] [.g .b (.d (.b 141) (.c (.b 0))) (.c (.c [97,108,116]))] b) (e0.map aP.c) C=.b [] C:=by
 refine HB λT h0=>?_
 refine aA (iq.mp h0) λt _ n0=>?_;obtain rfl:=n0
 induction t with
 |f I=>simp[dT,jb,aP.c]
 |e w S y d=>simp[dT,jb,aP.c,show cC C .b (.b w) (.c [97,108,116])=a av from rfl]
theorem TH:bX (dT c (.b 141) 141 [] [.g .c (.d (.b 141) (.c (.b 0))) (.c (.c [97,108,116]))] b) (e0.map aP.c) C=.b (e0.map aP.c) C:=by
 rw[GS (V:=λ_=>af) λT h0=>?_,Xp.mpr λ_ _=>rfl]
 refine aA (iq.mp h0) λt _ n0=>?_;obtain rfl:=n0
 induction t with
 |f I=>simp[dT,jb,aP.c]
 |e w S y d=>simp[dT,jb,aP.c,show cC C .c (.b w) (.c [97,108,116])=a af from rfl]
noncomputable abbrev AH.h(C:j):j:={C with f:=af}
@[simp]theorem Z7{Z I:ak}:bb c (.M Z I) b C=(match C.f,b I with
 |false,a T=>.b (.b,b.c Z (.q T)) (AH.h C)
 |_,_=>.d):=by kernel_rfl
end
namespace vY
noncomputable def E0(n g:Nat)(C:j)(R:br)(i0:List (am×A))(w:List A)(u g0:Nat)(k:List D)(e0:List aP)(s:List Int)(z K0 d:List (am×A)):Prop:=∀(L:C.f=av)(Y0:∀H∈k,ml H)(q0:∀t∈e0,t.g)(E:1<=k.length)(h4:k.length<=4)(J:∀H∈k,H.b≠42)(r0:e0.length<=100)(y0:(k.map (·.b)).Nodup)(u0:g<=C.b)(F:u<C.b)(D0:C.c g0=a (.b d))(v:aX d (cL 185)=a (.d u))(G0:C.c u=a (.b z))(N:∀(B:Nat)(H:D),k[B]?=a H->∃r,aX z [H.b]=a (.h 13 r)/\cH g C r H)(m:bu C R i0 (s.map bi) w K0)(m1:∀Z∈R.m,Z<g)(H0:s.length<=1000)(f0:sU s k e0),(qP s k e0/\∃O,aq (n+10) (.g 63) [bg R,.h 14 g0,.k (eP k),.k (e0.map aP.c)] C=.g O/\aW [] (AH.h C) O)\/
 (∃M,jO s k e0 M/\∃O f,aq (n+10) (.g 63) [bg R,.h 14 g0,.k (eP k),.k (e0.map aP.c)] C=.b (.d f) O/\aW [] (AH.h C) O/\C.b<=f/\f<O.b/\O.c f=a (.b (bG k M)))
noncomputable def O0:Nat×Nat×j×br×(List (am×A))×(List A)×Nat×Nat×(List D)×(List aP)×(List Int)×(List (am×A))×(List (am×A))×(List (am×A))->Prop:=W λn=>W λg=>W λC=>W λR=>W λi0=>W λw=>W λu=>W λg0=>W λk=>W λe0=>W λs=>W λz=>W λK0=>λd=>E0 n g C R i0 w u g0 k e0 s z K0 d
def c0:=dQ (J (J (bY dZ (bY nA (J (J (J (J (J (J (J (J (J inferInstance))))))))))))) O0
def n:Nat:=c0.1
def g:Nat:=c0.2.1
def C:j:=c0.2.2.1
def R:br:=c0.2.2.2.1
def i0:List (am×A):=c0.2.2.2.2.1
def w:List A:=c0.2.2.2.2.2.1
def u:Nat:=c0.2.2.2.2.2.2.1
def g0:Nat:=c0.2.2.2.2.2.2.2.1
def k:List D:=c0.2.2.2.2.2.2.2.2.1
def e0:List aP:=c0.2.2.2.2.2.2.2.2.2.1
def s:List Int:=c0.2.2.2.2.2.2.2.2.2.2.1
def z:List (am×A):=c0.2.2.2.2.2.2.2.2.2.2.2.1
def K0:List (am×A):=c0.2.2.2.2.2.2.2.2.2.2.2.2.1
def d:List (am×A):=c0.2.2.2.2.2.2.2.2.2.2.2.2.2
theorem Q0:E0 n g C R i0 w u g0 k e0 s z K0 d:=by
 intro L Y0 q0 E h4 J r0 y0 u0 F D0 v G0 N m m1 H0 f0
 have k0:k.length<=1000:=by exact az h4 (by decide)
 have l1:e0.length<=1000:=by exact az r0 (by decide)
 have c:bu (AH.h C) R i0 (s.map bi) w K0:=m.u λ_ _=>rfl
 have A0:=TD (n:=n+8) (m0:=.h 14 g0) c (λZ a0=>aM (m1 Z a0) u0)
 have j:∀q,aq.leave (aO (aq (n+9)) qt ((((fc.c 163 (bg R)).c 195 (.h 14 g0)).c 58 (.k (eP k))).c 29 (.k (e0.map aP.c))) C)=q->aq (n+10) (.g 63) [bg R,.h 14 g0,.k (eP k),.k (e0.map aP.c)] C=q:=λq h=>(bh rfl rfl).trans h
 have T:∀Z,Z<C.b->((AH.h C).e (.b [])).c Z=C.c Z:=λZ b0=>iG (C:=AH.h C) (bC b0)
 have X:∀{w:A->au A},eW (AH.h C) 185 (.h 14 g0) w=w (.d u):=λ{w}=>kN (C:=AH.h C) D0 rfl v
 have e2:aq.leave (aO (aq (n+9)) qt ((((fc.c 163 (bg R)).c 195 (.h 14 g0)).c 58 (.k (eP k))).c 29 (.k (e0.map aP.c))) C)=aq (n+9) (.g 36) [.d u,.k (eP k),.d C.b,.k (e0.map aP.c),.q (bg R)] ((AH.h C).e (.b [])):=by
  (delta qt;simp[L,TF J,TG,TH,gI k0,gI l1,jM (C:=AH.h C) (l:=[]) (by simp),X,A0])
  cases aq (n+9) (.g 36) [.d u,.k (eP k),.d C.b,.k (e0.map aP.c),.q (bg R)] ((AH.h C).e (.b []))<;>rfl
 have:=TC (n:=n) (C:=(AH.h C).e (.b [])) (g:=g) (p0:=C.b) Y0 q0 E h4 J r0 y0 (wD u0) (kU F) (gm (C:=AH.h C)) ((T u F).trans G0)
  (λB H l0=>by
    refine aA (N B H l0) λr S p=>?_
    exact(aw r S (p.L λZ b0=>T Z (aM b0 u0))))
  (m.X m1 λZ b0=>T Z (aM b0 u0)) m1 H0 f0
 rcases this with⟨W,O,e,o⟩|⟨M,w0,O,f,e,o,t0,f2,f3⟩
 ·exact aL ⟨W,O,j _ (e2.trans e),(dL (C:=AH.h C) (z0:=[])).trans o⟩
 ·exact aI (aw M w0 ⟨O,f,j _ (e2.trans e),(dL (C:=AH.h C) (z0:=[])).trans o,Nat.le_of_succ_le t0,f2,f3⟩)
end vY
theorem TI{n g:Nat}{C:j}{R:br}{i0:List (am×A)}{w:List A}{u g0:Nat}{k:List D}{e0:List aP}{s:List Int}{z K0 d:List (am×A)}:vY.E0 n g C R i0 w u g0 k e0 s z K0 d:=dS (Y:=vY.O0) vY.Q0 (n,g,C,R,i0,w,u,g0,k,e0,s,z,K0,d)
section
variable{n g:Nat}{C Q:j}{R:br}{i0 F i:List (am×A)}{l w:List A}{f r d u g0 p0:Nat}{x:Int}{z:List Nat}{H:D}{k:List D}{e0:List aP}{t:aP}{c:v}{b:ah}{s:List Int}
end
inductive cb where
 |u
 |r (t0:Int) (f0:Option Int)
 |t (t0:Int)
noncomputable def cb.q:cb->List (Int×Option Int)
 |.u=>[]
 |.r t0 f0=>[(t0,f0)]
 |.t t0=>[(1,a 2),(t0,ae)]
noncomputable def cb.z:cb->Prop
 |.u=>True
 |.r t0 f0=>t0.natAbs<=1/\∀h,f0=a h->h.natAbs<=1000
 |.t t0=>t0.natAbs<=1
noncomputable def nO(i:Int):Option Int->Bool
 |none=>af
 |some h=>ba (i<=h)
def cb.o(i B:Int):cb->Bool
 |.u=>af
 |.r t0 f0=>ba (t0<=i)&&nO i f0
 |.t t0=>(ba (1<=i)&&ba (i<=2))&&ba (t0<=B)
noncomputable def cb.g(i B:Int):cb->Int
 |.u=>0
 |.r t0 _=>i-t0
 |.t t0=>i-1+(B-t0)*2
def cb.p(w:Int)(I:Nat)(i B:Int):cb->A
 |.u=>.e [.c gk,.b w,.c [I]]
 |.r _ _=>.e [.c lE,.b w,.c [I],.k [dk i]]
 |.t _=>.e [.c lE,.b w,.c [I],.k [dk i,dk B]]
theorem vZ{i t0:Int}{f0:Option Int}:lD i t0 f0↔(ba (t0<=i)&&nO i f0)=af:=by
 unfold lD
 induction f0 with
 |none=>simp[nO]
 |some h=>simp[nO]
theorem cb.E{i B:Int}{d:cb}(h:d.o i B=af):0<=d.g i B:=by
 induction d with
 |u=>exact gz 0
 |r t0 f0=>unfold o at h;simp at h;show 0<=i-t0;exact BB h.1
 |t t0=>unfold o at h;simp at h;show 0<=i-1+(B-t0)*2;lia
section
variable{n:Nat}{C Q:j}{R:br}{i0 F:List (am×A)}{l w:List A}{I:Nat}{w0 S y d0 i B:Int}{d:cb}
theorem qT(m:bu C R i0 l w F)(p0:aX F [I]=a (bt w0 S y (.e (dW d.q))))(z0:d.z)(f0:i.natAbs<=10)(P:B.natAbs<=10)(K0:∀n,aq (n+2) (.g 197) [.b w0,.b y] C=.b (.b d0) C)(k:d0.natAbs<=10):
 (d.o i B=af->aq (n+4) (.g 150) [bg R,d.p w0 I i B] C=.b (bt w0 (S+d.g i B*d0) y (.e [])) C)/\
 (d.o i B=av->aq (n+4) (.g 150) [bg R,d.p w0 I i B] C=.g C):=by
 induction d with
 |u=>
  refine⟨λ_=>?_,λh=>(nomatch h)⟩
  show _=au.b (bt w0 (S+0*d0) y (.e [])) C
  rw[Int.zero_mul,Int.add_zero]
  exact mj m (by decide) (by decide) p0
 |r t0 q=>
  obtain⟨E,N⟩:=z0
  refine⟨λh=>?_,λh=>?_⟩
  ·refine(qI (n:=n+1) m (O:=[i]) p0 (by simp)).trans ?_
   exact GV (K0 n) (az ‹_› (by decide)) (az f0 (by decide)) (az k (by decide)) N (vZ.mpr h)
  ·refine(qI (n:=n+1) m (O:=[i]) p0 (by simp)).trans ?_
   exact Se λh0=>by rw[show cb.o i B (.r t0 q)=_ from vZ.mp h0]at h;cases h
 |t t0=>
  have E:t0.natAbs<=1:=z0
  have T:cb.o i B (.t t0)=af↔lD i 1 (a 2)/\lD B t0 ae:=by
   show((ba (1<=i)&&ba (i<=2))&&ba (t0<=B))=af↔_
   rw[vZ,vZ];simp[nO]
  refine⟨λh=>?_,λh=>?_⟩
  ·refine(qI (n:=n+1) m (O:=[i,B]) p0 (by simp)).trans ?_
   refine(GW (K0 n) (by decide) (az f0 (by decide)) (az k (by decide)) (by decide) (az P (by decide)) (az E (by decide)) (λh e=>by exact bD e) (T.mp h).1 (T.mp h).2 ⟨by decide,by decide⟩).trans ?_
   rfl
  ·refine(qI (n:=n+1) m (O:=[i,B]) p0 (by simp)).trans ?_
   exact Sj (by decide) (az f0 (by decide)) (by decide) λh0=>by rw[T.mpr h0]at h;cases h
theorem HC{t:am}{q:Nat}(F0:t.length<=6)(x0:q<=6):dJ t q=(t++cq (6-t.length) 32).take q:=by
 unfold dJ
 simp only[List.take_append,List.take_replicate]
 show t.take q++_=_
 congr 2
 exact(my (II x0 _)).symm
theorem TJ{c:Type}:∀{e0 l:List c}{S:Nat},S+e0.length<=l.length->((dE l S e0).take (S+e0.length)).drop S=e0:=by
 intro J
 induction J with
 |nil=>
  intro l S _
  rw[Jn,Xa];exact th (by rw[jx];exact jR _ _)
 |cons t e0 U=>
  intro l S h
  rw[fi]at h
  have Y:=U (l:=l.set S t) (S:=S+1) (by rw[wV];lia)
  have e:S+(t::e0).length=S+1+e0.length:=by rw[fi];lia
  rw[dE,e]
  have n0:(dE (l.set S t) (S+1) e0)[S]?=a t:=by
   have g:∀(e0:List c)(l:List c)(p:Nat),S<p->(dE l p e0)[S]?=l[S]?:=λe0=>by
    induction e0 with
    |nil=>intro l p _;rfl
    |cons Z e0 Y=>intro l p W;rw[dE,Y _ _ (aM W (dp _ _)),List.getElem?_set_ne (fu W)]
   rw[g _ _ _ (fM S),Xq (aM (WZ (Ib _)) h)]
  have E:((dE (l.set S t) (S+1) e0).take (S+1+e0.length))[S]?=a t:=by rw[BA (by lia)];exact n0
  rw[pb E,Y]
end
structure nP(s:List Int)(x:List Nat):Prop where
 c:s.length<=100
 d:x.length<=100
 b:∀I∈x,I<128
structure eh(C:j)(R:br)(i0 F:List (am×A))(V m c1:Nat)(l:List Int)(s:List Int)(x:List Nat)(f k:List A):Prop where
 g:bu C R i0 (s.map bi) (x.map bc) F
 N:C.c V=a (bF l)
 t:C.c m=a (.c f)
 u:C.c c1=a (.c k)
 o:V∉R.m
 q:m∉R.m
 r:c1∉R.m
 G:V≠m
 H:V≠c1
 L:m≠c1
section
variable{n:Nat}{C Q:j}{R:br}{i0 F:List (am×A)}{I V m c1:Nat}{l s:List Int}{x:List Nat}{f k:List A}{w0 S y d0 i B:Int}{d:cb}{b:ah}{c:v}{e:ar}{T:A}
theorem eh.Y(J:eh C R i0 F V m c1 l s x f k)(G0:List Int):eh (C.d V (bF G0)) R i0 F V m c1 G0 s x f k:=
 ⟨J.g.u λZ b0=>cf λe=>J.o (e▸b0),cE,by rw[cf J.G.symm];exact J.t,by rw[cf J.H.symm];exact J.u,J.o,J.q,J.r,J.G,J.H,J.L⟩
theorem eh.a0(J:eh C R i0 F V m c1 l s x f k)(z:List A):eh (C.d m (.c z)) R i0 F V m c1 l s x z k:=
 ⟨J.g.u λZ b0=>cf λe=>J.q (e▸b0),by rw[cf J.G];exact J.N,cE,by rw[cf J.L.symm];exact J.u,J.o,J.q,J.r,J.G,J.H,J.L⟩
theorem eh.c0(J:eh C R i0 F V m c1 l s x f k)(z:List A):eh (C.d c1 (.c z)) R i0 F V m c1 l s x f z:=
 ⟨J.g.u λZ b0=>cf λe=>J.r (e▸b0),by rw[cf J.H];exact J.N,by rw[cf J.L];exact J.t,cE,J.o,J.q,J.r,J.G,J.H,J.L⟩
theorem eh.U(J:eh C R i0 F V m c1 l s x f k)(i1:List Int):eh (C.d R.e (.c (i1.map bi))) R i0 F V m c1 l i1 x f k:=
 have M:∀Z,Z∉R.m->Z≠R.e:=λZ h e=>h (by rw[e];exact vQ)
 ⟨J.g.g0 _,by rw[cf (M _ J.o)];exact J.N,by rw[cf (M _ J.q)];exact J.t,by rw[cf (M _ J.r)];exact J.u,J.o,J.q,J.r,J.G,J.H,J.L⟩
theorem eh.X(J:eh C R i0 F V m c1 l s x f k)(z:List Nat):eh (C.d R.h (.c (z.map bc))) R i0 F V m c1 l s z f k:=
 have M:∀Z,Z∉R.m->Z≠R.h:=λZ h e=>h (by rw[e];exact vR)
 ⟨J.g.k0 _,by rw[cf (M _ J.o)];exact J.N,by rw[cf (M _ J.q)];exact J.t,by rw[cf (M _ J.r)];exact J.u,J.o,J.q,J.r,J.G,J.H,J.L⟩
theorem eh.O(J:eh C R i0 F V m c1 l s x f k)(s0:cF l){w:Int}(n0:0<w)(E:w<=12):∃d G0,cF G0/\0<=d/\d<w/\aq (n+1) (.g 23) [.d V,.b w] C=.b (.b d) (C.d V (bF G0))/\eh (C.d V (bF G0)) R i0 F V m c1 G0 s x f k:=by
 refine cX (vz (n:=n) J.N s0 n0 E) λd G0 v S p e=>?_
 exact(gN d G0 v S p e (J.Y G0))
def Ai(c:v)(h:List aT)(b:ah)(r:au A):au (bA×ah):=match r with
 |.b _ O=>.b (.b,b) O
 |.g O=>aO (gQ c) h b O
 |.d=>.d
set_option smartUnfolding false in
@[simp]theorem c8{h:List aT}:bb c (.z ae e h) b C=Ai c h b (ag c e b C):=rfl
@[simp]theorem d8{h:List aT}:Ai c h b (.b T C)=.b (.b,b) C:=rfl
@[simp]theorem f8{h:List aT}:Ai c h b (.g C)=aO (gQ c) h b C:=rfl
def wa(c:v)(s:List ar)(b:ah)(T:A)(C:j)(o:Option Bool):au A:=match o with|some af=>gC c s b C|some av=>.b T C|none=>.d
def HD(c:v)(s:List ar)(b:ah)(T:A)(C:j):au A:=wa c s b T C (cy C T)
def wb(c:v)(s:List ar)(b:ah)(T:A)(C:j)(o:Option Bool):au A:=match o with|some av=>gD c s b C|some af=>.b T C|none=>.d
def HE(c:v)(s:List ar)(b:ah)(T:A)(C:j):au A:=wb c s b T C (cy C T)
@[simp]theorem i8{s:List ar}:HD c s b T C=wa c s b T C (cy C T):=rfl
@[simp]theorem j8{s:List ar}:wa c s b T C (a af)=gC c s b C:=rfl
@[simp]theorem m8{s:List ar}:wa c s b T C (a av)=.b T C:=rfl
@[simp]theorem r8{s:List ar}:HE c s b T C=wb c s b T C (cy C T):=rfl
@[simp]theorem s8{s:List ar}:wb c s b T C (a af)=.b T C:=rfl
@[simp]theorem t8{s:List ar}:wb c s b T C (a av)=gD c s b C:=rfl
@[simp]theorem u8:gC c [e] b C=ag c e b C:=rfl
set_option smartUnfolding false in
@[simp]theorem v8{P0:ar}{r:List ar}:gC c (e::P0::r) b C=(ag c e b C).e (HD c (P0::r) b):=rfl
@[simp]theorem w8:gD c [e] b C=ag c e b C:=rfl
set_option smartUnfolding false in
@[simp]theorem y8{P0:ar}{r:List ar}:gD c (e::P0::r) b C=(ag c e b C).e (HE c (P0::r) b):=rfl
theorem HF(m:bu C R i0 (s.map bi) (x.map bc) F){A0 T:A}(p0:aq n (.g 150) [bg R,d.p w0 I i B] C=.b A0 C)(k0:aq n (.g 209) [.h 8 R.p,A0] C=.b T C):aq (n+2) (.g 70) [bg R,d.p w0 I i B] C=.b T C:=by
 have e:=zS m p0 k0
 induction d<;>exact(oW (n:=n+1) m (f:=69) rfl).trans e
structure sV(b:ah)(R:br)(m c1:Nat)(w0 S y:Int)(r T:A)(u:Int)(q0:Bool):Prop where
 g:b 163=a (bg R)
 h:b 39=a (cS m c1)
 o:b 108=a (.b w0)
 p:b 30=a (.b S)
 q:b 115=a (.b y)
 r:b 191=a r
 t:b 201=a T
 u:b 140=a (.b u)
 w:b 99=a (.o q0)
theorem TK(J:eh C R i0 F V m c1 l s x (s.map bi) (x.map bc))(g:nP s x)(p0:aX F [I]=a (bt 0 S 0 (.e (dW d.q))))(z0:d.z)(f0:i.natAbs<=10)(P:B.natAbs<=10)(v0:0<=S)(X:S<=1000)(v:(d.g i B).natAbs<=1000){Z:Int}(U:sV b R m c1 0 S 0 (d.p 0 I i B) (.b Z) (d.g i B) (d.o i B)):
 ∃i1 O,aq.leave (aO (aq (n+6)) (ez.drop 10) b C)=.b (.o af) O/\eh O R i0 F V m c1 l i1 x (i1.map bi) (x.map bc)/\i1.length=s.length/\(aW [V,R.e,R.h,m,c1] C O):=by
 obtain⟨a1,a2,a3,a4,a5,r,w,o,f⟩:=U
 have H:=g.c
 have Q:(s.map bi).length<=1000:=by simp only[bK];exact az H (by decide)
 have g0:=ii (C:=C) (i:=d.g i B) (B:=1) (vj ‹_›) (by decide)
 simp only[pP]at g0
 have l1:cK C .b (.d m)=.b (.b s.length) C:=by simp only[iW J.t (az Q (by decide)),bK]
 obtain⟨q1,q2⟩:=qT (n:=n+2) J.g p0 z0 f0 P (d0:=1) (λn=>sQ) (by decide)
 simp only[pP]at q1
 by_cases h0:d.o i B=af/\S+d.g i B+1<=s.length
 ·obtain⟨E,N⟩:=h0
  have D1:=cb.E E
  have e:0<=S+d.g i B:=by exact pO ‹_› ‹_›
  have e1:iZ ((((((b.c 203 (.b 1)).c 162 (.d m)).c 171 (.b (S+d.g i B))).c 99 (.o af))).c 107 (.b 0)) (.d m) (.b (S+d.g i B)) (bi Z) C=.b (.b,_) _:=sO J.t e (by simp only[bK];exact wW ‹_›) (az Q (by decide))
  simp only[GO]at e1
  have S1:=J.a0 ((s.set (S+d.g i B).toNat Z).map bi)
  have e2:=vt (n:=n+3) S1.g.k Q (y:=0) (d:=.e []) (T:=Z) e (by simp only[bK];exact wW ‹_›)
  simp only[GO]at e2
  have S2:=S1.U (s.set (S+d.g i B).toNat Z)
  obtain⟨p,_⟩:=qT (n:=n+2) S1.g p0 z0 f0 P (d0:=1) (λn=>sQ) (by decide)
  obtain⟨W,_⟩:=qT (n:=n) S2.g p0 z0 f0 P (d0:=1) (λn=>sQ) (by decide)
  simp only[pP]at p W
  have e3:=HF (n:=n+4) S2.g (W E) (GP (n:=n+1) S2.g.k (y:=0) (d:=.e []) (T:=Z) (by simp only[bK,wV];exact az H (by decide)) e (by simp only[bK,wV];exact wW ‹_›) (by simp only[ft,Xq (FP (by assumption) (by assumption))];rfl))
  refine(gM (s.set (S+d.g i B).toNat Z) _ ?_ S2 wV ((dg (eH (i:=3) rfl)).trans (dg (gK _ (et _)))))
  simp only[E]at f
  simp[ez,a1,a2,a3,a4,a5,r,w,o,f,g0,l1,N,eN (i:=1) (by decide) (by decide),show dj 1=[.b 0]from rfl,fW,bf,e1,S1.g.t,S1.g.k.i,p E,e2,e3,-Jv]
 ·refine(gM s C ?_ J rfl aW.d)
  generalize E:d.o i B=x9;induction x9 with
  |false=>
   simp only[E]at f
   apply jL (bE a1<|bE a2<|bE a3<|bE a4<|bE a5<|bE r<|bE w<|bE o<|bE f jK);intro b;simp[ez,g0,J.g.t,J.g.k.i,q2 E]
  |true=>
   simp only[E]at f
   have N:¬S+d.g i B+1<=s.length:=λh=>h0 ⟨E,h⟩
   have e2:=RS (n:=n+3) J.g.k Q (S:=S+d.g i B) (y:=0) (d:=.e []) (T:=Z) (aI (by simp only[bK];exact tm.mp N))
   apply jL (bE a1<|bE a2<|bE a3<|bE a4<|bE a5<|bE r<|bE w<|bE o<|bE f jK);intro b;simp[ez,g0,l1,N,J.g.t,J.g.k.i,q1 E,e2]
end
section
variable{n:Nat}{C Q:j}{R:br}{i0 F:List (am×A)}{I V m c1:Nat}{l s:List Int}{x:List Nat}{f k:List A}{w0 S y d0 i B:Int}{d:cb}{b:ah}{c:v}{e:ar}{T:A}
theorem TL{c:Type}{Z:c}:∀{e0 l:List c}{S:Nat},Z∈dE l S e0->Z∈l\/Z∈e0:=by
 intro J
 induction J with
 |nil=>
  intro _ _ h
  exact aL h
 |cons t e0 U=>
  intro l S h
  simp only[dE]at h
  rcases U h with h|h
  ·rcases List.mem_or_eq_of_mem_set h with h|h
   ·exact aL h
   ·exact aI (by simp only[h];exact cg)
  ·exact aI (ge _ h)
theorem HG{t:am}:ey C .e (.c t) [.b 6]=.b (.c (t++cq (6-t.length) 32)) C:=rfl
theorem TM{t:am}{q:Nat}{H:Int}{z:List A}{r:Nat}(F0:t.length<=6)(x0:q<=6)(j0:C.c r=a (.c z))(B:z.length<=1000)(n0:0<=H)(E:H+q<=z.length)(a1:b 162=a (.d r))(a2:b 171=a (.b H))(a3:b 108=a (.b 5))(a4:b 201=a (.c t)):
 ∃o0,ch (bf c (.b 107) [.l (.b 162) (.r .b (.b 171) (.b 107)) (.u (.g .b (.b 108) (.c (.b 0))) (.k [.c (.b 0),.b 201]) (.d (.y (.b 201) .e [.c (.b 6)]) (.b 107)))]) (dj q) b C=.b (.b,o0) (C.d r (.c (dE z H.toNat ((dJ t q).map bc))))/\(∀y,y≠107->o0 y=b y):=by
 have J0:(dJ t q).length=q:=by rw[vr];exact Int.toNat_natCast _
 refine qE (λZ=>∃o0,Z=.b (.b,o0) (C.d r (.c (dE z H.toNat ((dJ t q).map bc))))/\(∀y,y≠107->o0 y=b y)) q (λw o0 Q=>Q=C.d r (.c (dE z H.toNat (((dJ t q).map bc).take w)))/\∀y,y≠107->o0 y=b y) ⟨(iY j0).symm,λ_ _=>rfl⟩ ?_ ?_
 ·rintro w i o0 Q f0 q0 ⟨rfl,g⟩
  have p:=(g 162 (by decide)).trans a1
  have X:=(g 171 (by decide)).trans a2
  have e:=(g 108 (by decide)).trans a3
  have k:=(g 201 (by decide)).trans a4
  obtain⟨y,E0⟩:∃y,(dJ t q)[w]?=a y:=⟨_,eG (aM q0 (bw J0.symm))⟩
  have e1:((dJ t q).map bc)[w]?=a (bc y):=by rw[ft,E0];rfl
  have e2:(t++cq (6-t.length) 32)[w]?=a y:=by
   rw[HC F0 x0,BA q0]at E0;exact E0
  refine(bU (o0.c 107 (.b i)) _ (aL ?_) rfl (λy E0=>by rw[mf E0];exact g y E0))
  have e3:(H+i).toNat=H.toNat+w:=by exact vk ‹_› ‹_›
  have e5:cz (C.d r (.c (dE z H.toNat (((dJ t q).map bc).take w)))) (.c (t++cq (6-t.length) 32)) (.b i)=a (bc y):=by
   rw[zD (lz ‹_›) (fo (fo (fg (Jw f0) (iI.mpr q0)) (dO.mpr x0)) (by decide)),show i.toNat=w by exact ng ‹_›,e2];rfl
  have e6:=sO (b:=o0.c 107 (.b i)) (w:=H+i) (T:=bc y) (cE (C:=C) (r:=r) (o:=.c (dE z H.toNat (((dJ t q).map bc).take w)))) (by lia) (by rw[oU];exact BG ‹_› ‹_› ‹_›) (by rw[oU];exact az B (by decide))
  rw[iX,e3]at e6
  rw[Gx e1,<-e6]
  generalize((dJ t q).map bc).take w=L0 at e5⊢
  simp[bf,p,X,e,k,HG,e5]
  cases iZ (o0.c 107 (.b i)) (.d r) (.b (H+i)) (bc y) (C.d r (.c (dE z H.toNat L0)))with
  |b Z _=>obtain⟨f,l⟩:=Z;induction f<;>rfl
  |g=>rfl
  |d=>rfl
 ·rintro o0 Q ⟨rfl,g⟩
  exact(aw o0 (by rw[jS (by rw[bK];exact bw J0)]) g)
theorem TN(J:eh C R i0 F V m c1 l s x (s.map bi) (x.map bc))(g:nP s x)(p0:aX F [I]=a (bt 5 S y (.e (dW d.q))))(z0:d.z)(f0:i.natAbs<=10)(P:B.natAbs<=10)(v0:0<=S)(X:S<=1000)(v:(d.g i B).natAbs<=1000)(Z:0<=y)(u:y<=6){t:am}(F0:t.length<=6)(j0:∀I∈t,I<128)(U:sV b R m c1 5 S y (d.p 5 I i B) (.c t) (d.g i B) (d.o i B)):
 ∃z O,aq.leave (aO (aq (n+6)) (ez.drop 10) b C)=.b (.o af) O/\eh O R i0 F V m c1 l s z (s.map bi) (z.map bc)/\z.length=x.length/\(∀I∈z,I<128)/\(aW [V,R.e,R.h,m,c1] C O):=by
 obtain⟨a1,a2,a3,a4,a5,r,w,o,f⟩:=U
 have k:=g.d
 have T:(x.map bc).length<=1000:=by rw[bK];exact az k (by decide)
 have g0:=ii (C:=C) (i:=d.g i B) (B:=y) (vj ‹_›) (Rl Z (by assumption))
 have l1:cK C .b (.d c1)=.b (.b x.length) C:=by rw[iW J.u (az T (by decide)),bK]
 obtain⟨q1,q2⟩:=qT (n:=n+2) J.g p0 z0 f0 P (d0:=y) (λn=>sR) (ly ‹_› (bQ ‹_› (by decide)))
 by_cases h0:d.o i B=af/\S+d.g i B*y+y<=x.length
 ·obtain⟨E,N⟩:=h0
  have D1:=cb.E E
  have e:0<=S+d.g i B*y:=by have:=Xr D1 Z;exact pO ‹_› ‹_›
  refine aA (TM (c:=aq (n+6)) (b:=(((b.c 203 (.b y)).c 162 (.d c1)).c 171 (.b (S+d.g i B*y))).c 99 (.o af)) (t:=t) (q:=y.toNat) (H:=S+d.g i B*y) F0 (nT.mpr ‹_›) J.u T e (by rw[bK,tE Z];exact N) (by simp) (by simp) (by exact a3) (by exact w)) λA0 e1 q0=>?_
  rw[Gs,show((y.toNat:Nat):Int)=y by exact tE ‹_›]at e1
  have S1:=J.c0 ((dE x (S+d.g i B*y).toNat (dJ t y)).map bc)
  have e2:=zQ (n:=n+3) S1.g.k T (i:=y) (d:=.e []) (t:=t) (az F0 (by decide)) e Z (bQ u (by decide)) (by rw[bK];exact N)
  rw[Gs]at e2
  have S2:=S1.X (dE x (S+d.g i B*y).toNat (dJ t y))
  have G:((dJ t y).length:Int)=y:=by rw[vr];exact tE ‹_›
  have b0:∀I∈dE x (S+d.g i B*y).toNat (dJ t y),I<128:=λI e0=>by
   rcases TL e0 with h|h
   ·exact g.b I h
   ·unfold dJ at h
    rcases tG.mp h with h|h
    ·exact j0 I (wX h)
    ·rw[List.eq_of_mem_replicate h];decide
  obtain⟨p,_⟩:=qT (n:=n+2) S1.g p0 z0 f0 P (d0:=y) (λn=>sR) (ly ‹_› (bQ ‹_› (by decide)))
  obtain⟨W,_⟩:=qT (n:=n) S2.g p0 z0 f0 P (d0:=y) (λn=>sR) (ly ‹_› (bQ ‹_› (by decide)))
  have e3:=HF (n:=n+4) S2.g (W E) (GQ (n:=n+1) S2.g.k (d:=.e []) (by rw[oU];exact az k (by decide)) b0 e Z (by rw[oU];exact N))
  have e4:(S+d.g i B*y+y).toNat=(S+d.g i B*y).toNat+(dJ t y).length:=vk e G.symm
  rw[e4,TJ (by rw[<-vk e G.symm];exact nT.mpr N)]at e3
  have e5:∀Q,fx Q (.c (t++cq (6-t.length) 32)) ae (a y)=a (.c (dJ t y)):=λQ=>by
   rw[GD qH (ny Z (fg ‹_› (by decide))) (by simp;exact az (kT F0 (qW 6 _)) (by decide)),show dJ t y=dJ t (y.toNat:Nat) by rw[show((y.toNat:Nat):Int)=y by exact tE ‹_›],HC F0 (nT.mpr ‹_›)];rfl
  refine(gN (dE x (S+d.g i B*y).toNat (dJ t y)) _ ?_ S2 (oU _ _ _) b0 ((dg (eH (i:=4) rfl)).trans (dg (eH (i:=2) rfl))))
  have b1:=(q0 163 (by decide)).trans (show _=a (bg R) by exact a1)
  have b2:=(q0 191 (by decide)).trans (show _=a (d.p 5 I i B) by exact r)
  have b3:=(q0 201 (by decide)).trans (show _=a (A.c t) by exact w)
  have b4:=(q0 108 (by decide)).trans (show _=a (A.b 5) by exact a3)
  have b5:=(q0 115 (by decide)).trans (show _=a (A.b y) by exact a5)
  have b6:=(q0 99 (by decide)).trans (show _=a (A.o af) by simp)
  rw[E]at f
  generalize(dE x (S+d.g i B*y).toNat (dJ t y)).map bc=L0 at e1 e2 e3 S1 p⊢
  simp[ez,a1,a2,a3,a4,a5,r,w,o,f,g0,l1,N,eN (i:=y) (jc (fo (by decide) Z)) (bQ u (by decide))]
  rw[e1]
  apply jL (bE b1<|bE b2<|bE b3<|bE b4<|bE b5<|bE b6 jK);intro A0;simp[S1.g.t,S1.g.k.i,p E,e2,e3,HG,iV,e5]
 ·refine(gN x C ?_ J rfl g.b aW.d)
  generalize E:d.o i B=x9;induction x9 with
  |false=>
   rw[E]at f
   apply jL (bE a1<|bE a2<|bE a3<|bE a4<|bE a5<|bE r<|bE w<|bE o<|bE f jK);intro b;simp[ez,g0,J.g.t,J.g.k.i,q2 E]
  |true=>
   rw[E]at f
   have N:¬S+d.g i B*y+y<=x.length:=λh=>h0 ⟨E,h⟩
   have e2:=RT (n:=n+3) J.g.k T (S:=S+d.g i B*y) (i:=y) (d:=.e []) (t:=t) (az F0 (by decide)) Z (bQ u (by decide)) (aI (by rw[bK];exact tm.mp N))
   apply jL (bE a1<|bE a2<|bE a3<|bE a4<|bE a5<|bE r<|bE w<|bE o<|bE f jK);intro b;simp[ez,g0,l1,N,J.g.t,J.g.k.i,q1 E,e2]
end
section
variable{n:Nat}{C Q:j}{R:br}{i0 F:List (am×A)}{I V m c1:Nat}{l s:List Int}{x:List Nat}{f k:List A}{w0 S y d0 i B:Int}{d:cb}{b:ah}{c:v}{e:ar}{T:A}
theorem cb.G(z0:d.z)(f0:i.natAbs<=10)(P:B.natAbs<=10):(d.g i B).natAbs<=1000:=by
 induction d with
 |u=>show(0:Int).natAbs<=1000;decide
 |r t0 _=>have:t0.natAbs<=1:=z0.1;exact az (jJ f0 this) (by decide)
 |t t0=>have:t0.natAbs<=1:=z0;exact az (zd (jJ f0 (show(1:Int).natAbs<=1 by decide)) (Ri (jJ P this) (show(2:Int).natAbs<=2 by decide))) (by decide)
@[simp]theorem A8:cy C (.e [])=a av:=rfl
theorem pc{Z:A}{q:List A}(h:(Z::q).length<=100000):cy C (.e (Z::q))=a af:=if_pos h
@[simp]theorem B8:cK C .c .m=.b (.o av) C:=rfl
@[simp]theorem C8{t:am}:cK C .c (.c t)=.b (.o av) C:=rfl
theorem HH{X:List Int}:bX (dT c (.k [.c (.c [99,111,110,115,116]),.c (.b 0),.b 141]) 141 [] [] b) (X.map .b) C=.b (X.map dk) C:=by
 rw[zR (r0:=λT=>.e [.c [99,111,110,115,116],.b 0,T]) λT h0=>?_,mx];rfl
 simp only[mi];simp[jb]
structure TO(b:ah)(R:br)(m c1 I:Nat)(w0 S y i B:Int)(d:cb)(T:A):Prop where
 g:b 163=a (bg R)
 h:b 39=a (cS m c1)
 o:b 133=a (.c [I])
 p:b 90=a (.k [.b i,.b B])
 q:b 108=a (.b w0)
 r:b 30=a (.b S)
 t:b 115=a (.b y)
 u:b 55=a (.e (dW d.q))
 w:b 201=a T
end
namespace wc
noncomputable def E0(C:j)(R:br)(I m c1:Nat)(w0 S y i B:Int)(b:ah)(c:v)(T:A):Prop:=∀{d:cb}(U:TO b R m c1 I w0 S y i B d T)(z0:d.z)(f0:i.natAbs<=10)(P:B.natAbs<=10),∃o0,aO c ((ez.drop 6).take 4) b C=.b (.b,o0) C/\sV o0 R m c1 w0 S y (d.p w0 I i B) T (d.g i B) (d.o i B)
noncomputable def O0:j×br×Nat×Nat×Nat×Int×Int×Int×Int×Int×ah×v×A->Prop:=W λC=>W λR=>W λI=>W λm=>W λc1=>W λw0=>W λS=>W λy=>W λi=>W λB=>W λb=>W λc=>λT=>E0 C R I m c1 w0 S y i B b c T
def c0:=dQ (bY dZ (bY nA (J (J (J (J (J (J (J (J (J (bY rM inferInstance)))))))))))) O0
def C:j:=c0.1
def R:br:=c0.2.1
def I:Nat:=c0.2.2.1
def m:Nat:=c0.2.2.2.1
def c1:Nat:=c0.2.2.2.2.1
def w0:Int:=c0.2.2.2.2.2.1
def S:Int:=c0.2.2.2.2.2.2.1
def y:Int:=c0.2.2.2.2.2.2.2.1
def i:Int:=c0.2.2.2.2.2.2.2.2.1
def B:Int:=c0.2.2.2.2.2.2.2.2.2.1
def b:ah:=c0.2.2.2.2.2.2.2.2.2.2.1
def c:v:=c0.2.2.2.2.2.2.2.2.2.2.2.1
def T:A:=c0.2.2.2.2.2.2.2.2.2.2.2.2
theorem Q0:E0 C R I m c1 w0 S y i B b c T:=by
 intro d U z0 f0 P
 obtain⟨a1,a2,a3,a4,a5,r,w,o,f⟩:=U
 obtain⟨k0,j⟩:∃k0:ah,b=((((((((k0.c 163 (bg R)).c 39 (cS m c1)).c 133 (.c [I])).c 90 (.k [.b i,.b B])).c 108 (.b w0)).c 30 (.b S)).c 115 (.b y)).c 55 (.e (dW d.q))).c 201 T:=⟨b,by simp only[lA a1,lA a2,lA a3,lA a4,lA a5,lA r,lA w,lA o,lA f]⟩
 clear a1 a2 a3 a4 a5 r w o f
 induction d with
 |u=>
  clear z0 f0 P;simp only[show dW cb.u.q=[]from rfl]at j
  simp only[j]
  clear j;refine(aw _ (by simp[ez,ij (l:=[]) (by simp),eN (i:=0) (by decide) (by decide),show dj 0=[]from rfl];rfl) ⟨by rfl,by rfl,by rfl,by rfl,by rfl,by simp[cb.p],by rfl,by simp[cb.g],by simp[cb.o]⟩)
 |r t0 q=>
  obtain⟨E,N⟩:=z0
  have e1:fx C (.k [.b i,.b B]) ae (a 1)=a (.k [.b i]):=rfl
  have e2:∀b:ah,bX (dT c (.k [.c (.c [99,111,110,115,116]),.c (.b 0),.b 141]) 141 [] [] b) [.b i] C=.b [dk i] C:=λb=>HH (X:=[i])
  have e3:=ii (C:=C) (i:=i-t0) (B:=1) (el (jJ f0 E) (by decide)) (by decide)
  simp only[pP]at e3
  clear f0 P E N;have e4:∀C,cz C (.k [.b i,.b B]) (.b 0)=a (.b i):=λ_=>rfl
  have v:∀p,(ba (t0<=i)&&nO i q)=p->∃o0,aO c ((ez.drop 6).take 4) b C=.b (.b,o0) C/\sV o0 R m c1 w0 S y (cb.p w0 I i B (.r t0 q)) T (i-t0) p:=λp W=>by
   subst W
   simp only[show dW (cb.r t0 q).q=[dU t0 q]from rfl]at j
   simp only[j]
   clear j;by_cases q1:t0<=i
   ·induction q with
    |none=>
     refine(aw _ (by simp[ez,pc,ij,eN (i:=1) (by decide) (by decide),show dj 1=[.b 0]from rfl,fW,bf,iV,e1,e2,gI,e3,e4,decide_eq_true q1,eA];rfl) ⟨by rfl,by rfl,by rfl,by rfl,by rfl,by simp[cb.p],by rfl,by rfl,by simp[decide_eq_true q1,nO]⟩)
    |some h=>
     refine(aw _ (by simp[ez,pc,ij,eN (i:=1) (by decide) (by decide),show dj 1=[.b 0]from rfl,fW,bf,iV,e1,e2,gI,e3,e4,decide_eq_true q1,eA];rfl) ⟨by rfl,by rfl,by rfl,by rfl,by rfl,by simp[cb.p],by rfl,by rfl,by simp[decide_eq_true q1,nO]⟩)
   ·refine(aw _ (by simp[ez,pc,ij,eN (i:=1) (by decide) (by decide),show dj 1=[.b 0]from rfl,fW,bf,iV,e1,e2,gI,e3,e4,decide_eq_false q1];rfl) ⟨by rfl,by rfl,by rfl,by rfl,by rfl,by simp[cb.p],by rfl,by rfl,by simp[decide_eq_false q1]⟩)
  clear j e1 e2 e3 e4;exact v _ rfl
 |t t0=>
  have E:t0.natAbs<=1:=z0
  have e1:fx C (.k [.b i,.b B]) ae (a 2)=a (.k [.b i,.b B]):=rfl
  have e2:∀b:ah,bX (dT c (.k [.c (.c [99,111,110,115,116]),.c (.b 0),.b 141]) 141 [] [] b) [.b i,.b B] C=.b [dk i,dk B] C:=λb=>HH (X:=[i,B])
  have e3:=ii (C:=C) (i:=i-1) (B:=1) (el (jJ f0 (show(1:Int).natAbs<=1 by decide)) (by decide)) (by decide)
  simp only[pP]at e3
  have g:=ii (C:=C) (i:=B-t0) (B:=2) (el (jJ P E) (by decide)) (by decide)
  clear z0 f0 P E;have e4:∀C,cz C (.k [.b i,.b B]) (.b 0)=a (.b i):=λ_=>rfl
  have e5:∀C,cz C (.k [.b i,.b B]) (.b 1)=a (.b B):=λ_=>rfl
  simp only[show dW (cb.t t0).q=[dU 1 (a 2),dU t0 ae]from rfl]at j
  simp only[j]
  clear j;by_cases q1:1<=i
  ·by_cases q2:i<=2
   ·by_cases V:t0<=B
    ·refine(aw _ (by simp[ez,pc,ij,eN (i:=2) (by decide) (by decide),show dj 2=[.b 0,.b 1]from rfl,fW,bf,iV,e1,e2,gI,e3,g,e4,e5,decide_eq_true q1,decide_eq_true q2,decide_eq_true V,eA];rfl) ⟨by rfl,by rfl,by rfl,by rfl,by rfl,by simp[cb.p],by rfl,by simp[cb.g],by simp[cb.o,decide_eq_true q1,decide_eq_true q2,decide_eq_true V]⟩)
    ·refine(aw _ (by simp[ez,pc,ij,eN (i:=2) (by decide) (by decide),show dj 2=[.b 0,.b 1]from rfl,fW,bf,iV,e1,e2,gI,e3,g,e4,e5,decide_eq_true q1,decide_eq_true q2,decide_eq_false V,eA];rfl) ⟨by rfl,by rfl,by rfl,by rfl,by rfl,by simp[cb.p],by rfl,by simp[cb.g],by simp[cb.o,decide_eq_true q1,decide_eq_true q2,decide_eq_false V]⟩)
   ·refine(aw _ (by simp[ez,pc,ij,eN (i:=2) (by decide) (by decide),show dj 2=[.b 0,.b 1]from rfl,fW,bf,iV,e1,e2,gI,e3,g,e4,e5,decide_eq_true q1,decide_eq_false q2,eA];rfl) ⟨by rfl,by rfl,by rfl,by rfl,by rfl,by simp[cb.p],by rfl,by simp[cb.g],by simp[cb.o,decide_eq_true q1,decide_eq_false q2]⟩)
  ·refine(aw _ (by simp[ez,pc,ij,eN (i:=2) (by decide) (by decide),show dj 2=[.b 0,.b 1]from rfl,fW,bf,iV,e1,e2,gI,e3,g,e4,e5,decide_eq_false q1,eA];rfl) ⟨by rfl,by rfl,by rfl,by rfl,by rfl,by simp[cb.p],by rfl,by simp[cb.g],by simp[cb.o,decide_eq_false q1]⟩)
end wc
theorem TP{C:j}{R:br}{I m c1:Nat}{w0 S y i B:Int}{b:ah}{c:v}{T:A}:wc.E0 C R I m c1 w0 S y i B b c T:=dS (Y:=wc.O0) wc.Q0 (C,R,I,m,c1,w0,S,y,i,B,b,c,T)
section
variable{n:Nat}{C Q:j}{R:br}{i0 F:List (am×A)}{I V m c1:Nat}{l s:List Int}{x:List Nat}{f k:List A}{w0 S y d0 i B:Int}{d:cb}{b:ah}{c:v}{e:ar}{T:A}
end
noncomputable def Aj(F:List (am×A)):Prop:=∀I,aX F [I]=ae\/(∃t,aX F [I]=a (.c t))\/∃w0 S y d,aX F [I]=a (bt w0 S y (.e (dW (cb.q d))))/\d.z/\0<=S/\S<=1000/\((w0=0/\y=0)\/(w0=5/\0<=y/\y<=6))
abbrev Ak(V:Nat)(R:br)(m c1 I:Nat)(i B:Int):ah:=((((((fc.c 153 (.d V)).c 163 (bg R)).c 39 (cS m c1)).c 80 (.d R.o)).c 133 (.c [I])).c 90 (.k [.b i,.b B]))
abbrev HI(V:Nat)(R:br)(m c1 I:Nat)(i B w0 S y:Int)(d:cb)(T:A):ah:=((((((Ak V R m c1 I i B).c 149 (bt w0 S y (.e (dW d.q)))).c 108 (.b w0)).c 30 (.b S)).c 115 (.b y)).c 55 (.e (dW d.q))).c 201 T
section
variable{n:Nat}{C Q:j}{R:br}{i0 F:List (am×A)}{I V m c1:Nat}{l s:List Int}{x:List Nat}{f k:List A}{w0 S y d0 i B:Int}{d:cb}{b:ah}{c:v}{e:ar}{T:A}
theorem TQ{d:Int}(n0:0<=d)(E:d<4):∃I:Nat,∀C,cz C (.c [80,81,82,83]) (.b d)=a (.c [I]):=by
 obtain rfl|rfl|rfl|rfl:d=0\/d=1\/d=2\/d=3:=by exact BK ‹_› ‹_›
 ·exact⟨80,λ_=>rfl⟩
 ·exact⟨81,λ_=>rfl⟩
 ·exact⟨82,λ_=>rfl⟩
 ·exact⟨83,λ_=>rfl⟩
theorem TR{d:Int}(n0:0<=d)(E:d<3):∃t:am,t.length<=6/\(∀I∈t,I<128)/\∀C,fx C (.c [120,121,122,117,118,119]) (a d) ae=a (.c t):=by
 obtain rfl|rfl|rfl:d=0\/d=1\/d=2:=by exact BJ ‹_› ‹_›
 ·exact(cW [120,121,122,117,118,119] (by decide) (by decide) (λ_=>rfl))
 ·exact(cW [121,122,117,118,119] (by decide) (by decide) (λ_=>rfl))
 ·exact(cW [122,117,118,119] (by decide) (by decide) (λ_=>rfl))
end
namespace wd
noncomputable def E0(n:Nat)(C:j)(R:br)(i0 F:List (am×A))(V m c1:Nat)(l s:List Int)(x:List Nat):Prop:=∀(J:eh C R i0 F V m c1 l s x (s.map bi) (x.map bc))(s0:cF l)(g:nP s x)(g0:Aj F),∃G0 i1 z O,cF G0/\aq (n+7) (.g 22) [.d V,bg R,cS m c1,.d R.o] C=.b (.o af) O/\eh O R i0 F V m c1 G0 i1 z (i1.map bi) (z.map bc)/\nP i1 z/\i1.length=s.length/\z.length=x.length/\aW [V,R.e,R.h,m,c1] C O
noncomputable def O0:Nat×j×br×(List (am×A))×(List (am×A))×Nat×Nat×Nat×(List Int)×(List Int)×(List Nat)->Prop:=W λn=>W λC=>W λR=>W λi0=>W λF=>W λV=>W λm=>W λc1=>W λl=>W λs=>λx=>E0 n C R i0 F V m c1 l s x
def c0:=dQ (J (bY dZ (bY nA (J (J (J (J (J (J (J inferInstance)))))))))) O0
def n:Nat:=c0.1
def C:j:=c0.2.1
def R:br:=c0.2.2.1
def i0:List (am×A):=c0.2.2.2.1
def F:List (am×A):=c0.2.2.2.2.1
def V:Nat:=c0.2.2.2.2.2.1
def m:Nat:=c0.2.2.2.2.2.2.1
def c1:Nat:=c0.2.2.2.2.2.2.2.1
def l:List Int:=c0.2.2.2.2.2.2.2.2.1
def s:List Int:=c0.2.2.2.2.2.2.2.2.2.1
def x:List Nat:=c0.2.2.2.2.2.2.2.2.2.2
theorem Q0:E0 n C R i0 F V m c1 l s x:=by
 intro J s0 g g0
 refine mE (J.O (n:=n+5) s0 (w:=4) (by decide) (by decide)) λD l1 Y p N e1 S1=>?_
 refine mE (S1.O (n:=n+5) Y (w:=5) (by decide) (by decide)) λd2 l2 M X y2 e2 S2=>?_
 refine mE (S2.O (n:=n+5) M (w:=4) (by decide) (by decide)) λL l3 Q e y3 e3 S3=>?_
 have v:aW [V,R.e,R.h,m,c1] C (((C.d V (bF l1)).d V (bF l2)).d V (bF l3)):=((dg (et _)).trans (dg (et _))).trans (dg (et _))
 obtain⟨I,e0⟩:=TQ p N
 generalize((C.d V (bF l1)).d V (bF l2)).d V (bF l3)=d0 at e3 S3 v
 have j:∀q,aq.leave (aO (aq (n+6)) ez ((((fc.c 153 (.d V)).c 163 (bg R)).c 39 (cS m c1)).c 80 (.d R.o)) C)=q->aq (n+7) (.g 22) [.d V,bg R,cS m c1,.d R.o] C=q:=λq h=>(bh rfl rfl).trans h
 have U1:aO (aq (n+6)) (ez.take 3) ((((fc.c 153 (.d V)).c 163 (bg R)).c 39 (cS m c1)).c 80 (.d R.o)) C=
  .b (.b,(Ak V R m c1 I (d2-1) (L-1)).c 149 ((aX F [I]).getD .m)) d0:=by
  simp[ez,e1,e0,e2,e3,vo S3.g.s,vp S3.g.s]
 have A:∀T,(aX F [I]).getD .m=T->cK d0 .c T=.b (.o av) d0->∃G0 i1 z O,cF G0/\aq (n+7) (.g 22) [.d V,bg R,cS m c1,.d R.o] C=.b (.o af) O/\eh O R i0 F V m c1 G0 i1 z (i1.map bi) (z.map bc)/\nP i1 z/\i1.length=s.length/\z.length=x.length/\aW [V,R.e,R.h,m,c1] C O:=λT h0 W=>by
  refine(iN l3 s x d0 Q (j _ ?_) S3 ⟨g,rfl,rfl,v⟩)
  simp only[fV 3 U1,h0]
  simp[ez,W]
 rcases g0 I with h|⟨t,h⟩|⟨w0,S,y,d,h,z0,H,G,q0⟩
 ·exact A .m (by simp only[h];rfl) rfl
 ·exact A (.c t) (by simp only[h];rfl) rfl
 ·have f0:(d2-1).natAbs<=10:=az (jJ (ly (a0:=5) (by assumption) (jc (by assumption))) (show(1:Int).natAbs<=1 by decide)) (by decide)
  have P:(L-1).natAbs<=10:=az (jJ (ly (a0:=4) (by assumption) (jc (by assumption))) (show(1:Int).natAbs<=1 by decide)) (by decide)
  have D1:=cb.G z0 f0 P
  have a:∀y0 T,aO (aq (n+6)) ((ez.drop 3).take 3) ((Ak V R m c1 I (d2-1) (L-1)).c 149 (bt w0 S y (.e (dW d.q)))) d0=
   .b (.b,HI V R m c1 I (d2-1) (L-1) w0 S y d T) y0->
   ∃o0,aq.leave (aO (aq (n+6)) ez ((((fc.c 153 (.d V)).c 163 (bg R)).c 39 (cS m c1)).c 80 (.d R.o)) C)=aq.leave (aO (aq (n+6)) (ez.drop 10) o0 y0)/\sV o0 R m c1 w0 S y (d.p w0 I (d2-1) (L-1)) T (d.g (d2-1) (L-1)) (d.o (d2-1) (L-1)):=λy0 T u0=>by
   have r:(aX F [I]).getD .m=bt w0 S y (.e (dW d.q)):=by simp only[h];rfl
   simp only[r]at U1
   refine aA (TP (b:=HI V R m c1 I (d2-1) (L-1) w0 S y d T) (C:=y0) (c:=aq (n+6)) (R:=R) (m:=m) (c1:=c1) (I:=I) (w0:=w0) (S:=S) (y:=y) (i:=d2-1) (B:=L-1) (d:=d) (T:=T) ⟨by rfl,by rfl,by rfl,by rfl,by rfl,by rfl,by rfl,by rfl,by rfl⟩ z0 f0 P) λo0 e4 U=>?_
   refine(aw o0 ?_ U)
   simp only[fV 3 U1,fV 3 u0,lP,fV 4 e4,lP]
  rcases q0 with⟨rfl,rfl⟩|⟨rfl,Z,u⟩
  ·refine mE (S3.O (n:=n+5) Q (w:=9) (by decide) (by decide)) λE l4 P4 k y4 e4 S4=>?_
   refine aA (a (d0.d V (bF l4)) (.b (70+E)) (by simp[ez,e4])) λo0 e5 U=>?_
   refine cX (TK (n:=n) S4 g h z0 f0 P H G D1 U) λi1 O e6 f1 H0 o=>?_
   exact(iN l4 i1 x O P4 (j _ (e5.trans e6)) f1 ⟨⟨by simp only[H0];exact g.c,g.d,g.b⟩,H0,rfl,(v.trans (dg (et _))).trans o⟩)
  ·refine mE (S3.O (n:=n+5) Q (w:=3) (by decide) (by decide)) λE l4 P4 k y4 e4 S4=>?_
   refine dP (TR k y4) λt F0 j0 A0=>?_
   refine aA (a (d0.d V (bF l4)) (.c t) (by simp[ez,e4,iV,A0])) λo0 e5 U=>?_
   refine mE (TN (n:=n) S4 g h z0 f0 P H G D1 Z u F0 j0 U) λz O e6 f1 f b0 o=>?_
   exact(iN l4 s z O P4 (j _ (e5.trans e6)) f1 ⟨⟨g.c,by simp only[f];exact g.d,b0⟩,rfl,f,(v.trans (dg (et _))).trans o⟩)
end wd
theorem TS{n:Nat}{C:j}{R:br}{i0 F:List (am×A)}{V m c1:Nat}{l s:List Int}{x:List Nat}:wd.E0 n C R i0 F V m c1 l s x:=dS (Y:=wd.O0) wd.Q0 (n,C,R,i0,F,V,m,c1,l,s,x)
section
variable{n:Nat}{C Q:j}{R:br}{i0 F:List (am×A)}{I V m c1:Nat}{l s:List Int}{x:List Nat}{f k:List A}{w0 S y d0 i B:Int}{d:cb}{b:ah}{c:v}{e:ar}{T:A}
end
inductive kR where|f (T:A)|d (o:bM)
noncomputable def kR.g(w:kR)(C:j)(p:Nat)(T:A):Prop:=match w with
 |.f d0=>T=d0
 |.d o=>∃Z,T=.d Z/\p<=Z/\Z<C.b/\C.c Z=a o
noncomputable def kR.i(c:v)(b:ah)(e:ar):kR->Prop
 |.f T=>∀C,ag c e b C=.b T C
 |.d o=>∀C,ag c e b C=.b (.d C.b) (C.e o)
theorem we{q:List (ak×A)}{S:ak}{T:A}:eB (dR q S T) S=a T:=by rw[<-jN,<-nI,zP]
theorem wf{q:List (ak×A)}{S p:ak}{T:A}(h:p≠S):eB (dR q S T) p=eB q p:=by rw[<-jN,<-nI,GM (λe=>h (sT.mp e)),jN]
theorem Al{q:List (ak×A)}{S:ak}{T:A}:(dR q S T).length<=q.length+1:=by
 have:=GN (w:=cL S) (T:=T) (l:=bW q)
 simp only[nI,nH,nH]at this;exact this
section
variable{n:Nat}{c:v}{b:ah}{C O:j}{I:ak}{r:Nat}
noncomputable abbrev Am(s:List (ak×ar×kR)):List aT:=s.map λV=>.g (.b 168) V.1 V.2.1
theorem kR.k{w:kR}{p:Nat}{T:A}{z0:List Nat}(h:w.g C p T)(o:aW z0 C O)(B:∀Z∈z0,Z<p):w.g O p T:=by
 induction w with
 |f d0=>exact h
 |d s0=>
  refine rE (h) λZ J0 E N h3=>?_;obtain rfl:=J0
  exact(ix Z rfl E (aM N o.b) (by rw[o.c Z N λa0=>by have:=B Z a0;lia];exact h3))
theorem TT(Q:b 168=a (.h I r)):∀(s:List (ak×ar×kR))(C:j)(q:List (ak×A))(p:Nat),(s.map (·.1)).Nodup->(∀V∈s,bB I V.1=af/\V.2.2.i c b V.2.1)->C.c r=a (.b (bW q))->r<p->p<=C.b->q.length+s.length<=100->
 ∃t O,aO c (Am s) b C=.b (.b,b) O/\aW [r] C O/\O.c r=a (.b (bW t))/\(∀V∈s,∃T,eB t V.1=a T/\V.2.2.g O p T)/\(∀S,S∉s.map (·.1)->eB t S=eB q S)/\t.length<=q.length+s.length:=by
 intro J
 induction J with
 |nil=>
  intro C q p _ _ w0 _ _ _
  exact(gN q C rfl aW.d w0 (λV h=>(nomatch h)) ⟨λ_ _=>rfl,bS _⟩)
 |cons f s U=>
  obtain⟨S,e,w⟩:=f
  intro C q p y0 p0 w0 n W k0
  rw[fi]at k0
  have R:=tu.mp y0
  obtain⟨v0,g⟩:=p0 (S,e,w) cg
  obtain⟨T,x0,e1,X,E,q0⟩:∃T x0,ag c e b C=.b T x0/\aW [] C x0/\x0.c r=a (.b (bW q))/\w.g x0 p T:=by
   induction w with
   |f d0=>exact(gM d0 C (g C) aW.d w0 rfl)
   |d o=>exact(gM _ _ (g C) dL ((iG (bC (aM n W))).trans w0) ⟨C.b,rfl,W,fM _,gm⟩)
  have e2:ke b S T (.h I r) x0=.b (.b,b) (x0.d r (.b (bW (dR q S T)))):=by
   rw[nw E (by rw[nH];exact az (dp _ _) k0) v0,nI]
  have o2:aW [r] C (x0.d r (.b (bW (dR q S T)))):=(X.f λZ a0=>nomatch a0).trans (dg cg)
  have J0:=Al (q:=q) (S:=S) (T:=T)
  refine pU (U (x0.d r (.b (bW (dR q S T)))) (dR q S T) p R.2 (λV a0=>p0 V (ge _ a0)) cE n (az W o2.b) (xb ‹_› ‹_›)) λt O e3 v g3 P l l3=>?_
  refine(gN t O ?_ (o2.trans v) g3 ?_ ⟨?_,by rw[fi];lia⟩)
  ·show aO c (.g (.b 168) S e::Am s) b C=_
   simp[e1,Q,e2,e3]
  ·intro V a0
   rcases iw.mp a0 with rfl|a0
   ·refine(aw T ?_ ?_)
    ·rw[l S R.1,we]
    ·exact kR.k (w:=w) (kR.k (w:=w) q0 (dg (z0:=[r]) cg) (λZ a0=>by rw[cP.mp a0];exact n)) v (λZ a0=>by rw[cP.mp a0];exact n)
   ·exact P V a0
  ·intro Z b0
   rw[dX,iw,not_or]at b0
   rw[l Z b0.2,wf b0.1]
theorem wg{f:ak}{d:iA}{X:List A}{s:List (ak×ar×kR)}(f0:ky I=a f)(B0:kJ f=a d)(W:Mine.Internal.ie d.b d.d (.h I C.b::X)=a b)(V0:d.c=Am s)(Q:b 168=a (.h I C.b))(y0:(s.map (·.1)).Nodup)(p0:∀V∈s,bB I V.1=af/\V.2.2.i (aq n) b V.2.1)(k0:s.length<=100):
 ∃t O,lC (aq (n+1)) I X C=.b (.h I C.b) O/\aW [] C O/\C.b<O.b/\O.c C.b=a (.b (bW t))/\(∀V∈s,∃T,eB t V.1=a T/\V.2.2.g O (C.b+1) T)/\(∀S,S∉s.map (·.1)->eB t S=ae)/\t.length<=s.length:=by
 refine pU (TT (c:=aq n) Q s (C.e (.b [])) [] (C.b+1) y0 p0 gm (fM _) (bS _) (by simpa using k0)) λt O e o r0 V r l=>?_
 refine(gN t O (GB f0 ?_) ((dL (z0:=[])).e o (λZ a0=>by rw[cP.mp a0];exact aI (bS _))) o.b r0 ⟨V,r,by simpa using l⟩)
 refine(bh B0 W).trans ?_
 rw[V0,e];rfl
end
section
variable{n:Nat}{c:v}{b:ah}{C O:j}{r:Nat}
theorem TU:∃O a0 U g,lC (aq (n+1)) 8 [.b 8,.b 11] C=.b (.h 8 a0) O/\aW [] C O/\C.b<=a0/\a0<U/\a0<g/\U<O.b/\g<O.b/\cY O a0 U g (cq 8 .m) (cq 11 .m):=by
 refine tN (wg (n:=n) (C:=C) (I:=8) (X:=[.b 8,.b 11]) (s:=[(139,.r .c (.M [.c .m]) (.b 139),.d (.c (cq 8 .m))),(41,.r .c (.M [.c .m]) (.b 41),.d (.c (cq 11 .m)))]) rfl rfl rfl rfl (by simp[fD]) (by decide)
  (λV a0=>by
    rcases iw.mp a0 with rfl|a0
    ·exact⟨by kernel_rfl,λC=>rfl⟩
    ·obtain rfl:=cP.mp a0
     exact⟨by kernel_rfl,λC=>rfl⟩) (by decide)) λt O e o E r0 V z l=>?_
 refine xh (V _ cg) λr g1 U V0 G Q P=>?_;obtain rfl:=V0
 refine xh (V _ (ge _ cg)) λd g2 g V0 g0 T b=>?_;obtain rfl:=V0
 exact(iN O C.b U g e o (bS _) ⟨G,g0,Q,T,(lf (bW t) r0 (jN.trans g1) (jN.trans g2) (jN.trans (z _ (by decide))) (jN.trans (z _ (by decide)))),P,b,ja P b λe=>by injection e with e;have:=congrArg qZ e;simp at this⟩)
theorem TV:∃O h q,lC (aq (n+1)) 7 [] C=.b (.h 7 h) O/\aW [] C O/\h=C.b/\h<O.b/\O.c h=a (.b q)/\aX q (cL 203)=a (.b 32):=by
 refine tN (wg (n:=n) (C:=C) (I:=7) (X:=[]) (s:=[(203,.b 203,.f (.b 32)),(157,.b 157,.f (.b 7)),(56,.b 56,.f (.b 15)),(190,.b 190,.f (.b 38)),(176,.b 176,.f (.b 1000000)),(47,.b 47,.f (.b 19)),(43,.b 43,.f (.b 72)),(52,.b 52,.f (.b 40))]) rfl rfl rfl rfl rfl (by decide)
  (by
    repeat refine ik ⟨by kernel_rfl,λC=>rfl⟩ ?_
    exact qD) (by decide)) λt O e o E r0 V z l=>?_
 refine aA (V _ cg) λr g1 n0=>?_;obtain rfl:=n0
 exact(dY O C.b (bW t) e o rfl ⟨E,r0,jN.trans g1⟩)
theorem TX{S p:am}:∃O g0 q,lC (aq (n+1)) 14 [.c S,.c p] C=.b (.h 14 g0) O/\aW [] C O/\g0=C.b/\g0<O.b/\O.c g0=a (.b q)/\q.length<=14:=by
 refine tN (wg (n:=n) (C:=C) (I:=14) (X:=[.c S,.c p]) (s:=[(108,.b 108,.f (.c S)),(133,.b 133,.f (.c p)),(58,.z,.d (.c [])),(62,.s [] [],.d (.b [])),(185,.s [] [],.d (.b [])),(173,.z,.d (.c [])),(78,.s [] [],.d (.b [])),(109,.s [] [],.d (.b [])),(160,.c .m,.f .m),(45,.z,.d (.c [])),(64,.z,.d (.c [])),(51,.z,.d (.c [])),(164,.z,.d (.c [])),(46,.s [] [],.d (.b []))]) rfl rfl rfl rfl rfl (show JB [108,133,58,62,185,173,78,109,160,45,64,51,164,46] by decide)
  (by
    repeat refine ik ⟨by kernel_rfl,λC=>rfl⟩ ?_
    exact qD) (by simp)) λt O e o E r0 V z l=>?_
 exact(dY O C.b (bW t) e o rfl ⟨E,r0,by rw[nH];exact l⟩)
end
namespace wh
noncomputable def E0(n:Nat)(C:j)(U g0 f0 p0:A):Prop:=∀{a0:A},∃O r q A0,lC (aq (n+1)) 10 [a0,U,g0,.m,f0,p0] C=.b (.h 10 r) O/\aW [] C O/\r=C.b/\r<A0/\A0<O.b/\O.c r=a (.b (bW q))/\q.length<=15/\
 eB q 129=a a0/\eB q 116=a U/\eB q 73=a f0/\eB q 151=a (.d A0)/\O.c A0=a (.b [])/\(eB q 80).isSome=af/\(eB q 143).isSome=af
noncomputable def O0:Nat×j×A×A×A×A->Prop:=W λn=>W λC=>W λU=>W λg0=>W λf0=>λp0=>E0 n C U g0 f0 p0
def c0:=dQ (J (bY dZ (J (J (J inferInstance))))) O0
def n:Nat:=c0.1
def C:j:=c0.2.1
def U:A:=c0.2.2.1
def g0:A:=c0.2.2.2.1
def f0:A:=c0.2.2.2.2.1
def p0:A:=c0.2.2.2.2.2
theorem Q0:E0 n C U g0 f0 p0:=by
 intro a0
 refine tN (wg (n:=n) (C:=C) (I:=10) (X:=[a0,U,g0,.m,f0,p0]) (s:=[(129,.b 129,.f a0),(116,.b 116,.f U),(198,.b 198,.f g0),(205,.b 205,.f .m),(73,.b 73,.f f0),(173,.b 173,.f p0),(80,.s [] [],.d (.b [])),(52,.c (.b 0),.f (.b 0)),(176,.c (.b 0),.f (.b 0)),(151,.s [] [],.d (.b [])),(77,.s [] [],.d (.b [])),(42,.s [] [],.d (.b [])),(25,.z,.d (.c [])),(124,.s [] [],.d (.b [])),(143,.s [] [],.d (.b []))]) rfl rfl rfl rfl rfl (show JB [129,116,198,205,73,173,80,52,176,151,77,42,25,124,143] by decide)
  (by
    repeat refine ik ⟨by kernel_rfl,λC=>rfl⟩ ?_
    exact qD) (by simp)) λt O e o E r0 V z l=>?_
 refine aA (V _ (eH (i:=0) rfl)) λr g1 n0=>?_;obtain rfl:=n0
 refine aA (V _ (eH (i:=1) rfl)) λd g2 n0=>?_;obtain rfl:=n0
 refine aA (V _ (eH (i:=4) rfl)) λG g3 n0=>?_;obtain rfl:=n0
 refine xh (V _ (eH (i:=9) rfl)) λQ g4 A0 V0 b1 b2 b3=>?_;obtain rfl:=V0
 refine aA (V _ (eH (i:=6) rfl)) λv5 T _=>?_
 refine aA (V _ (eH (i:=14) rfl)) λv6 x _=>?_
 exact(iN O C.b t A0 e o rfl ⟨b1,b2,r0,l,g1,g2,g3,g4,b3,by rw[T];rfl,by rw[x];rfl⟩)
end wh
theorem TY{n:Nat}{C:j}{U g0 f0 p0:A}:wh.E0 n C U g0 f0 p0:=dS (Y:=wh.O0) wh.Q0 (n,C,U,g0,f0,p0)
section
variable{n:Nat}{c:v}{b:ah}{C O:j}{r:Nat}
theorem HJ{f:ak}:∀(M:List am)(b:ah)(C:j)(q:List (am×A)),b 79=a (.d r)->C.c r=a (.b q)->q.length+M.length<=1000->
 ∃o0,ch (bf c (.b 204) [.l (.b 79) (.b 204) (.h f)]) (M.map .c) b C=.b (.b,o0) (C.d r (.b (M.foldl (λq d0=>bv q d0 (.g f)) q)))/\o0 79=a (.d r):=by
 intro J
 induction J with
 |nil=>
  intro b C q k0 w0 _
  exact(aw b (by rw[List.foldl_nil,iY w0];rfl) k0)
 |cons d0 M U=>
  intro b C q k0 w0 y0
  rw[fi]at y0
  have p0:=GN (w:=d0) (T:=.g f) (l:=q)
  refine aA (U (b.c 204 (.c d0)) (C.d r (.b (bv q d0 (.g f)))) (bv q d0 (.g f)) (by exact k0) cE (xb ‹_› ‹_›)) λo0 e h=>?_
  refine(aw o0 ?_ h)
  rw[dX,zH (o0:=b.c 204 (.c d0)) (O:=C.d r (.b (bv q d0 (.g f)))) (aL ?_),e,iX]
  ·rfl
  ·simp[bf,k0,nj w0 (by exact az (dp _ _) y0:q.length<=1000)]
theorem TZ:∃O f0,aq (n+1) (.g 152) [] C=.b (.d f0) O/\aW [] C O/\f0=C.b/\f0<O.b/\O.c f0=a (.b (fH.take 19)):=by
 have j:ag (aq n) (.s [[99,111,110,115,116],[118,97,114],[101,108,101,109]] [.h 68,.h 69,.h 69]) fc C=.b (.d C.b) (C.e (.b [([99,111,110,115,116],.g 68),([118,97,114],.g 69),([101,108,101,109],.g 69)])):=rfl
 refine aA (HJ (c:=aq n) (f:=65) [[97,100,100],[115,117,98],[109,117,108],[100,105,118],[112,111,119],[112,111,119,105],[97,110,100],[111,114],[101,113,118],[110,101,113,118]] (fc.c 79 (.d C.b)) _ _ (by simp) (gm (C:=C) (o:=.b [([99,111,110,115,116],.g 68),([118,97,114],.g 69),([101,108,101,109],.g 69)])) (by decide)) λl1 e1 E=>?_
 have x0:[[97,100,100],[115,117,98],[109,117,108],[100,105,118],[112,111,119],[112,111,119,105],[97,110,100],[111,114],[101,113,118],[110,101,113,118]].foldl (λq d0=>bv q d0 (.g 65)) [([99,111,110,115,116],A.g 68),([118,97,114],.g 69),([101,108,101,109],.g 69)]=fH.take 13:=by kernel_rfl
 rw[x0]at e1
 refine aA (HJ (c:=aq n) (f:=67) [[101,113],[110,101],[108,116],[108,101],[103,116],[103,101]] l1 ((C.e (.b [([99,111,110,115,116],.g 68),([118,97,114],.g 69),([101,108,101,109],.g 69)])).d C.b (.b (fH.take 13))) (fH.take 13) E cE (by decide)) λl2 e2 N=>?_
 have Q:[[101,113],[110,101],[108,116],[108,101],[103,116],[103,101]].foldl (λq d0=>bv q d0 (.g 67)) (fH.take 13)=fH.take 19:=by kernel_rfl
 rw[Q]at e2
 have o:∀Z y z,aW [] C (((C.e Z).d C.b y).d C.b z):=λZ y z=>(dL (z0:=[])).e ((dg (z0:=[C.b]) cg).trans (dg cg)) λZ b0=>by rw[cP.mp b0];exact aI (bS _)
 refine(gN (((C.e (.b [([99,111,110,115,116],.g 68),([118,97,114],.g 69),([101,108,101,109],.g 69)])).d C.b (.b (fH.take 13))).d C.b (.b (fH.take 19))) C.b ((bh rfl rfl).trans ?_) (o _ _ _) rfl (fM _) cE)
 have e3:aO (aq n) oI fc C=fU (aO (aq n) (oI.drop 2)) (ch (bf (aq n) (.b 204) [.l (.b 79) (.b 204) (.h 65)]) (mB .c [[97,100,100],[115,117,98],[109,117,108],[100,105,118],[112,111,119],[112,111,119,105],[97,110,100],[111,114],[101,113,118],[110,101,113,118]]) (fc.c 79 (.d C.b)) (C.e (.b [([99,111,110,115,116],.g 68),([118,97,114],.g 69),([101,108,101,109],.g 69)]))):=by
  unfold oI
  rw[sN,Gn,j]
  simp
 show aq.leave (aO (aq n) oI fc C)=_
 rw[e3,e1]
 have e4:aO (aq n) (oI.drop 2) l1=λC=>fU (aO (aq n) [.b (.b 79)]) (ch (bf (aq n) (.b 204) [.l (.b 79) (.b 204) (.h 67)]) (mB .c [[101,113],[110,101],[108,116],[108,101],[103,116],[103,101]]) l1 C):=by
  funext C
  (delta oI;simp)
 rw[Gm,e4]
 dsimp only
 rw[e2]
 simp[N]
end
section
variable{n:Nat}{c:v}{b:ah}{C O Q:j}{r:Nat}
def An(c:v)(Z:ak)(K0:ar)(y:ak)(D0:List ak)(b:ah)(T:A)(d0:Option A)(C:j):au (bA×ah):=match T,d0 with
 |.k l,ae=>(bX (dT c K0 y D0 [] b) l C).e λy0 C=>
    if l.length<=1000 then .b (.b,b.c Z (.d C.b)) (C.e (.c y0))else .d
 |_,_=>.d
set_option smartUnfolding false in
@[simp]theorem D8{Z y:ak}{K0 m0:ar}{D0:List ak}:bb c (.C Z K0 y D0 m0) b C=(ag c m0 b C).e λT C=>An c Z K0 y D0 b T (b Z) C:=rfl
theorem Ua{Z y:ak}{K0:ar}{D0:List ak}{l y0:List A}(h:bX (dT c K0 y D0 [] b) l C=.b y0 C)(k0:l.length<=1000):An c Z K0 y D0 b (.k l) ae C=.b (.b,b.c Z (.d C.b)) (C.e (.c y0)):=by
 unfold An;dsimp only;rw[h];exact if_pos k0
theorem Ub:ew C .f (.b 10) (.b 60)=.b (.b (10^60)) C:=by kernel_rfl
@[simp]theorem Uc{i:Int}:cK C .g (.b i)=.b (.b i.natAbs) C:=rfl
abbrev qU(e:List Int):ah:=fc.c 165 (.k (e.map .b))
theorem Ud(e:List Int)(l0:e.length<=63):∃l,cF l/\aO c (cw.take 2) (qU e) C=.b (.b,((qU e).c 153 (.d C.b)).c 185 (.d (C.b+1))) ((C.e (bF l)).e (.c [])):=by
 refine(aw ((e.take 24).map λi=>mr i.natAbs (10^60)) ⟨λS v0=>?_,by simp only[bK,jx];exact jR _ _⟩ ?_)
 ·refine aA (iq.mp v0) λi _ n0=>?_;obtain rfl:=n0
  exact⟨Jy _ (by decide+kernel),Jz _ (by decide+kernel)⟩
 ·have e1:fx C (.k (e.map .b)) ae (a 24)=a (.k ((e.take 24).map .b)):=by
   rw[GF qH (ny (by decide) (by decide)) (by rw[bK];exact az l0 (by decide))]
   show a (A.k ((e.map A.b).take 24))=_
   simp only[ry]
  have e2:=zR (C:=C) (f:=dT c (.r .e (.q .g (.b 138)) (.r .f (.c (.b 10)) (.c (.b 60)))) 138 [] [] (qU e)) (r0:=λT=>match T with|.b i=>.b (mr i.natAbs (10^60))|_=>.m) (l:=(e.take 24).map .b) (λT h0=>by
   refine aA (iq.mp h0) λi _ n0=>?_;obtain rfl:=n0
   have e3:=Hf (C:=C) (i:=(i.natAbs:Int)) (B:=10^60) (by decide+kernel) Hg
   simp only[mi]
   simp only[Rv,Rt,Rs,jb,Rr,Gl,Uc,Go,Ub,Rm,Ro,Rn,e3])
  simp only[mx]at e2
  have e4:=Ua (Z:=153) (b:=qU e) e2 (by simp only[bK,jx];exact az (jR _ _) (by decide))
  have e5:(mB ((λT=>match T with|.b i=>A.b (mr i.natAbs (10^60))|_=>.m)∘A.b) (e.take 24))=((e.take 24).map λi=>mr i.natAbs (10^60)).map .b:=by
   simp only[mx];rfl
  simp only[e5]at e4
  generalize((e.take 24).map λi=>mr i.natAbs (10^60))=l at e4⊢
  generalize(e.take 24).map A.b=G at e1 e4
  (delta cw;simp[iV,e1,e4])
structure nQ(Q:j)(p r:Nat)(H:D):Prop where
 i:p<=r
 f:r+1<Q.b
 e:Q.c r=a (.b (bW (jp H (r+1))))
 k:Q.c (r+1)=a (.c [])
theorem nQ.m{p g:Nat}{H:D}(J:nQ Q p r H)(u0:r+1<g):cH g Q r H:=by
 refine⟨Nat.lt_of_succ_lt u0,r+1,u0,J.e,?_⟩
 have t:cy Q (.d (r+1))=a av:=by
  show(match Q.c (r+1)with|some (.c l)=>if l.length<=100000 then a (!l.isEmpty)else ae|_=>ae)=_
  rw[J.k];rfl
 generalize D0:H.c=x9;induction x9 with
 |e=>exact t
 |f=>exact t
 |b d=>induction d<;>rfl
theorem nQ.q{p:Nat}{H:D}(J:nQ Q p r H):cH Q.b Q r H:=J.m J.f
theorem nQ.o{p:Nat}{H:D}(J:nQ Q p r H)(y0:Q.b<=C.b)(h:∀Z,p<=Z->Z<Q.b->C.c Z=Q.c Z):nQ C p r H:=by
 have E:=J.i
 have N:=J.f
 exact⟨E,by exact aM N y0,(h r E (fB ‹_›)).trans J.e,(h (r+1) (az E (dp _ _)) N).trans J.k⟩
structure im(Q:j)(V G p:Nat)(z:List Nat)(k:List D):Prop where
 d:z.length=k.length
 f:Q.c G=a (.c (z.map (.h 13)))
 i:∀(B r:Nat)(H:D),z[B]?=a r->k[B]?=a H->nQ Q p r H
 w:k.map (·.b)=[80,81,82,83].take k.length
 u:∀H∈k,∃d0,D.h d0 H/\(d0=af->∃v0,k[0]?=a v0/\v0.g=av/\v0.c=.e)
 m:V<p
 s:G<p
 q:p<=Q.b
 y:V≠G
 I:Q.f=av
theorem Ue{B:Nat}(P:B<4):∃I,([80,81,82,83]:List Nat)[B]?=a I/\[80,81,82,83].take (B+1)=[80,81,82,83].take B++[I]:=by
 obtain rfl|rfl|rfl|rfl:B=0\/B=1\/B=2\/B=3:=by exact JH ‹_›
 ·exact(aw 80 rfl rfl)
 ·exact(aw 81 rfl rfl)
 ·exact(aw 82 rfl rfl)
 ·exact(aw 83 rfl rfl)
end
noncomputable def pd:ar:=.w [.g .d (.b 32) (.c (.b 0)),.g .b (.n (.d (.b 185) (.c (.b 0))) 108) (.c (.b 0)),.g .b (.n (.d (.b 185) (.c (.b 0))) 200) (.c (.c [118,97,114]))]
section
variable{n:Nat}{c:v}{b:ah}{C O Q:j}{r V G p:Nat}{z:List Nat}{k:List D}{l:List Int}
end
theorem Uf{c:v}{b:ah}{Q:j}{V G p:Nat}{i:Int}{B:Nat}:∀{z:List Nat}{k:List D}(J:im Q V G p z k)(P:k.length=B)(t:B<4)(f0:i=B)(E:b 32=a (.b i))(N:b 185=a (.d G)),∃d0:Bool,ag c pd b Q=.b (.o d0) Q/\(d0=af->∃v0,k[0]?=a v0/\v0.g=av/\v0.c=.e):=by
 intro z k J P t f0 E N
 by_cases n0:0<i
 ·have p0:0<k.length:=by lia
  have e:k[0]?=a (k[0]'p0):=eG p0
  have x0:0<z.length:=by rw[J.d];exact p0
  have C:z[0]?=a (z[0]'x0):=eG x0
  generalize k[0]'p0=v0 at e
  generalize z[0]'x0=o0 at C
  have U:=(J.i 0 o0 v0 C e).q
  have e1:cz Q (.d G) (.b 0)=a (.h 13 o0):=by
   rw[oR J.f (by decide) (by decide)]
   show(z.map (A.h 13))[0]?=_
   rw[ft,C];rfl
  generalize h5:v0.g=x9;induction x9 with
  |true=>exact(aw av (by simp[pd,E,N,n0,e1,U.M,D.e,h5]) (λh=>(nomatch h)))
  |false=>
   generalize D0:v0.c=x9;induction x9 with
   |e=>exact(aw af (by simp[pd,E,N,n0,e1,U.M,U.I,D.e,h5,D0,dH.c]) (λ_=>(cW v0 e h5 D0)))
   |f=>exact(aw av (by simp[pd,E,N,n0,e1,U.M,U.I,D.e,h5,D0,dH.c]) (λh=>(nomatch h)))
   |b d=>exact(aw av (by simp[pd,E,N,n0,e1,U.M,U.I,D.e,h5,D0,dH.c]) (λh=>(nomatch h)))
 ·exact(aw av (by simp[pd,E,n0]) (λh=>(nomatch h)))
section
variable{n:Nat}{c:v}{b:ah}{C O Q:j}{r V G p:Nat}{z:List Nat}{k:List D}{l:List Int}
theorem Ug{q:List (ak×A)}{G0:List Int}(w0:Q.c V=a (bF l)):aW [V] Q (eX Q q V G0)/\(eX Q q V G0).b=Q.b+2/\(V≠Q.b+1->(eX Q q V G0).c (Q.b+1)=a (.c []))/\(eX Q q V G0).f=Q.f:=by
 refine⟨?_,rfl,λh=>?_,rfl⟩
 ·refine(((dL (z0:=[V])).trans dL).e (dg (z0:=[Q.b]) cg) λZ b0=>?_).trans (dg cg)
  rw[cP.mp b0];exact aI (bS _)
 ·unfold eX
  rw[cf (λe=>h e.symm),cf (show Q.b+1≠Q.b by exact fu (fM _))]
  exact gm (C:=Q.e (.b []))
def sW:List aT:=[.m (.y (.b 185) .b [.m (.h 18) [.b 153,.b 32,pd]])]
end
theorem Uh{n:Nat}{b:ah}{Q:j}{V G p:Nat}{z:List Nat}{k:List D}{l:List Int}{i:Int}{B:Nat}:∀(J:im Q V G p z k)(s0:cF l)(w0:Q.c V=a (bF l))(P:k.length=B)(t:B<4)(f0:i=B)(N:b 185=a (.d G))(h3:b 153=a (.d V)),∃o0 f G0 r H,fG (bf (aq (n+3)) (.b 32) sW (.b i) b Q) o0 f/\cF G0/\f.c V=a (bF G0)/\im f V G p (z++[r]) (k++[H])/\(∀y,y≠32->o0 y=b y):=by
 intro J s0 w0 P t f0 N h3
 refine aA (Ue t) λI e0 U=>?_
 refine aA (Uf (c:=aq (n+3)) (b:=b.c 32 (.b i)) J P t f0 (by simp) (by exact N)) λd0 e1 K0=>?_
 have J0:V<Q.b:=aM J.m J.q
 have A0:G<Q.b:=aM J.s J.q
 have r0:=J.q
 have M0:=J.y
 refine cX (Tb (n:=n) J0 s0 (I:=I) (X:=i) (lz ‹_›) (oi ‹_› ‹_› (by decide)) (by rw[show i.toNat=B by exact ng ‹_›];exact e0) d0) λH G0 l0 Y v e2=>?_
 rw[iY w0]at e2
 have W:V≠Q.b+1:=by exact bC (aM J0 (dp _ _))
 refine ol (Ug (q:=jp H (Q.b+1)) (G0:=G0) w0) λo p0 x0 R=>?_
 have m0:(eX Q (jp H (Q.b+1)) V G0).c G=a (.c (z.map (.h 13))):=by rw[o.c G A0 (λa0=>M0 (cP.mp a0).symm)];exact J.f
 have Y0:(z.map (A.h 13)).length<=100000:=by rw[bK,J.d];exact az (az (bw P) (fB t)) (by decide)
 have c0:=zU (C:=Q) (q:=jp H (Q.b+1)) (V:=V) (l:=G0) J0
 have O:∀Z,p<=Z->((eX Q (jp H (Q.b+1)) V G0).d G (.c ((z++[Q.b]).map (.h 13)))).c Z=(eX Q (jp H (Q.b+1)) V G0).c Z:=λZ b0=>cf (by have:=J.s;exact fu (aM this b0))
 have g:∀Z,p<=Z->Z<Q.b->((eX Q (jp H (Q.b+1)) V G0).d G (.c ((z++[Q.b]).map (.h 13)))).c Z=Q.c Z:=λZ b0 E=>by
  rw[O Z b0,o.c Z E (λa0=>by have:=J.m;rw[cP.mp a0]at b0;lia)]
 have F:k[k.length]?=ae:=Xe (bS _)
 refine(rB (b.c 32 (.b i)) ((eX Q (jp H (Q.b+1)) V G0).d G (.c ((z++[Q.b]).map (.h 13)))) G0 Q.b H ⟨aL ?_,v,?_,?_,λy E0=>mf E0⟩)
 ·have e3:=qG (T:=.h 13 Q.b) m0 Y0
  rw[<-Xs (f:=A.h 13),<-kZ]at e3
  generalize(z++[Q.b]).map (A.h 13)=L0 at e3⊢
  simp only[Xs]at e3
  simp[bf,sW,N,h3,nv J.f,e1,e2,e3]
 ·rw[cf M0]
  exact cE
 ·have d:∀v0,k[0]?=a v0->(k++[H])[0]?=a v0:=λv0 h=>by
   rw[wZ (iv.mp h).1];exact h
  refine⟨by rw[jT,jT,J.d];rfl,cE,λw m c1 j0 k1=>?_,?_,λc1 L=>?_,J.m,J.s,by rw[pa,p0];exact az r0 (dp _ _),M0,by rw[SR,R];exact J.I⟩
  ·by_cases q0:w<z.length
   ·rw[wZ q0]at j0
    rw[wZ (by rw[<-J.d];exact q0)]at k1
    exact(J.i w m c1 j0 k1).o (by rw[pa,p0];exact dp _ _) g
   ·rw[Bz (AC q0)]at j0
    rw[Bz (by rw[<-J.d];exact AC q0)]at k1
    have h0:w-z.length=0:=by
     have:=(iv.mp j0).1
     simp at this;exact this
    rw[h0]at j0
    rw[<-J.d,h0]at k1
    replace j0:=bn j0;subst j0;(replace k1:=bn k1;subst k1)
    exact⟨r0,by rw[pa,p0];exact bw ‹_›,(O _ r0).trans c0,(O _ (az r0 (dp _ _))).trans (x0 W)⟩
  ·rw[kZ,jT,List.length_singleton,J.w,P,U]
   show _++[H.b]=_
   rw[Y]
  ·rcases tG.mp L with L|L
   ·refine aA (J.u c1 L) λS a1 a2=>?_
    exact(aw S a1 (λe=>by
     refine aA (a2 e) λv0 b1 b2=>?_
     exact(aw v0 (d v0 b1) b2)))
   ·rw[cP.mp L]
    exact(aw d0 l0 (λe=>by
     refine aA (K0 e) λv0 b1 b2=>?_
     exact(aw v0 (d v0 b1) b2)))
section
variable{n:Nat}{c:v}{b:ah}{C O Q:j}{r V G p:Nat}{z:List Nat}{k:List D}{l:List Int}
theorem Ui(e:List Int)(L:C.f=av){l:List Int}(s0:cF l)(p0:V<C.b)(m0:G<C.b)(M0:V≠G)(w0:C.c V=a (bF l))(l0:C.c G=a (.c []))(N:b 185=a (.d G))(h3:b 153=a (.d V)):
 ∃o0 O G0 z k,aO (aq (n+3)) ((cw.drop 2).take 1) b C=.b (.b,o0) O/\cF G0/\O.c V=a (bF G0)/\im O V G C.b z k/\1<=k.length/\k.length<=4/\(∀y,y≠32->o0 y=b y):=by
 refine cX (vz (n:=n+2) w0 s0 (w:=4) (by decide) (by decide)) λd l1 Y W D e1=>?_
 have e2:aO (aq (n+3)) ((cw.drop 2).take 1) b C=ch (bf (aq (n+3)) (.b 32) sW) (dj (1+d).toNat) b (C.d V (bF l1)):=by
  simp[cw,h3,e1,eN (i:=1+d) (bQ (by decide) (gy (gz _) W)) (bQ (gy (gz _) (jc D)) (by decide))]
  show fU _ (ch (bf (aq (n+3)) (.b 32) sW) _ _ _)=_
  cases ch (bf (aq (n+3)) (.b 32) sW) (dj (1+d).toNat) b (C.d V (bF l1))with
  |b q _=>obtain⟨f,l⟩:=q;induction f<;>rfl
  |g=>rfl
  |d=>rfl
 rw[e2]
 have I:(1+d).toNat<=4:=nT.mpr (Int.add_comm d 1▸D)
 have S:1<=(1+d).toNat:=Int.toNat_le_toNat (Xh W:1<=1+d)
 refine qE (λZ=>∃o0 O G0 z k,Z=.b (.b,o0) O/\cF G0/\O.c V=a (bF G0)/\im O V G C.b z k/\1<=k.length/\k.length<=4/\(∀y,y≠32->o0 y=b y)) (1+d).toNat
  (λB o0 Q=>∃G0 z k,cF G0/\Q.c V=a (bF G0)/\im Q V G C.b z k/\k.length=B/\(∀y,y≠32->o0 y=b y)) (dY l1 [] [] Y cE ⟨rfl,by rw[cf M0.symm];exact l0,λB r H h=>(nomatch h),rfl,λH h=>(nomatch h),p0,m0,bS _,M0,L⟩ ⟨rfl,λ_ _=>rfl⟩) ?_ ?_
 ·rintro B i o0 Q f0 P p;refine jC p λG0 z k v b0 J k0 a2=>?_;clear p
  refine JU (Uh (n:=n) J v b0 k0 (aM P I) f0 ((a2 _ (by decide)).trans N) ((a2 _ (by decide)).trans h3)) λA0 E l2 r H r0 M c S2 b2=>?_
  exact(dK A0 E r0 ⟨l2,_,_,M,c,S2,by rw[jT,k0];rfl,λy E0=>(b2 y E0).trans (a2 y E0)⟩)
 ·rintro o0 Q z1;refine jC z1 λG0 z k v b0 J k0 a2=>?_;clear z1
  exact(rB o0 Q G0 z k ⟨rfl,v,b0,J,k0▸S,k0▸I,a2⟩)
end
section
variable{n:Nat}{c:v}{b:ah}{C O Q:j}{r V G p:Nat}{z:List Nat}{k:List D}{l:List Int}
theorem Uj(h3:b 153=a (.d V)):∀(z:List Nat)(l:List Int),(∀r∈z,∃H q,Q.c r=a (.b (bW (jp H q)))/\r≠V)->cF l->
 ∃(e0:List cx) (G0:List Int),e0.length=z.length/\(∀t∈e0,cx.b t)/\cF G0/\bX (dT (aq (n+2)) (.m (.h 15) [.b 153,.b 184]) 184 [153] [] b) (z.map (.h 13)) (Q.d V (bF l))=.b (e0.map ec) (Q.d V (bF G0)):=by
 intro J
 induction J with
 |nil=>
  intro l _ s0
  exact(gM [] l rfl (λt h=>(nomatch h)) s0 rfl)
 |cons r z U=>
  intro l h s0
  refine fw (h r cg) λH q j0 M0=>?_
  refine de (Tc (n:=n) j0 M0 s0) λt l1 F0 Y e1=>?_
  refine cX (U l1 (λr a0=>h r (ge _ a0)) Y) λe0 l2 k0 q0 M e2=>?_
  refine(gM (t::e0) l2 (by rw[fi,k0];rfl) (λZ a0=>?_) M ?_)
  ·rcases iw.mp a0 with rfl|a0
   ·exact F0
   ·exact q0 Z a0
  ·exact nz (o:=a (ec t)) (by rw[mi];simp[vu,jb,h3,e1]) e2
theorem Uk{s0 Z:bM}(M0:V≠G)(h:Q.c G=a s0):(((Q.lock G).d V Z).d G s0)=Q.d V Z:=by
 rw[qJ M0,vX h]
end
namespace wi
noncomputable def E0(n:Nat)(b:ah)(Q:j)(V G p:Nat)(z:List Nat)(k:List D)(l:List Int):Prop:=∀(J:im Q V G p z k)(F:k.length<=4)(s0:cF l)(w0:Q.c V=a (bF l))(N:b 185=a (.d G))(h3:b 153=a (.d V)),∃(e0:List cx) (G0:List Int),aO (aq (n+2)) ((cw.drop 3).take 2) b Q=.b (.b,b.c 192 (.k (e0.map ec))) (Q.d V (bF G0))/\(e0.length=k.length\/e0.length+1=k.length)/\(∀t∈e0,cx.b t)/\cF G0
noncomputable def O0:Nat×ah×j×Nat×Nat×Nat×(List Nat)×(List D)×(List Int)->Prop:=W λn=>W λb=>W λQ=>W λV=>W λG=>W λp=>W λz=>W λk=>λl=>E0 n b Q V G p z k l
def c0:=dQ (J (J (bY dZ (J (J (J (J (J inferInstance)))))))) O0
def n:Nat:=c0.1
def b:ah:=c0.2.1
def Q:j:=c0.2.2.1
def V:Nat:=c0.2.2.2.1
def G:Nat:=c0.2.2.2.2.1
def p:Nat:=c0.2.2.2.2.2.1
def z:List Nat:=c0.2.2.2.2.2.2.1
def k:List D:=c0.2.2.2.2.2.2.2.1
def l:List Int:=c0.2.2.2.2.2.2.2.2
theorem Q0:E0 n b Q V G p z k l:=by
 intro J F s0 w0 N h3
 have U0:(Q.lock G).c V=a (bF l):=by rw[kQ J.y];exact w0
 refine cX (Uj (n:=n) (b:=b) (Q:=Q.lock G) h3 z l (λr a0=>by
  obtain⟨B,P,e⟩:=Xt a0
  have j0:z[B]?=a r:=by rw[eG P,e]
  have l0:k[B]?=a (k[B]'(by rw[<-J.d];exact P)):=eG (by rw[<-J.d];exact P)
  have U:=J.i B r _ j0 l0
  exact(dK _ _ ((kQ (ja U.e J.f λe=>nomatch e)).trans U.e) (by have:=U.i;have:=J.m;exact fu (aM ‹_› ‹_›)))) s0) λe0 l1 k0 q0 Y e1=>?_
 rw[iY U0]at e1
 have e2:=nN (v:=bX (dT (aq (n+2)) (.m (.h 15) [.b 153,.b 184]) 184 [153] [] b) (z.map (.h 13))) J.f e1
 rw[Uk J.y J.f]at e2
 have C0:(z.map (A.h 13)).length=k.length:=by rw[bK,J.d]
 have g:(Q.d V (bF l1)).c V=a (bF l1):=cE
 refine cX (kg (n:=n+1) (C:=Q) (V:=V) Y (w:=9) (by decide) (by decide)) λd l2 M W D e3=>?_
 have e4:aO (aq (n+2)) ((cw.drop 3).take 1) b Q=.b (.b,b.c 192 (.k (e0.map ec))) (Q.d V (bF l1)):=by
  simp[cw,N,qR J.f]
  rw[e2]
  simp[gI (w:=z.length) (by rw[J.d];exact az F (by decide))]
 by_cases h8:d=8
 ·subst h8
  have e5:fx (Q.d V (bF l2)) (.k (e0.map ec)) (a 1) ae=a (.k ((e0.drop 1).map ec)):=by
   rw[GF (ny (by decide) (by decide)) qH (by rw[bK,k0,J.d];exact az F (by decide))]
   show a (A.k ((e0.map ec).drop 1))=_
   rw[Xf]
  refine(gM (e0.drop 1) l2 ?_ ?_ (λt a0=>q0 t (Xg a0)) M)
  ·rw[fV (p:=(cw.drop 3).take 2) 1 (by rw[Bq];exact e4)]
   have c:∀(T d0:A),(b.c 192 T).c 192 d0=b.c 192 d0:=λT d0=>by funext y;simp only[ah.e];by_cases h:y=192<;>simp[h]
   generalize(e0.drop 1).map ec=L0 at e5⊢
   simp[cw,h3,e3,iV,e5,c]
  ·rw[pE,k0,J.d];exact JG _
 ·refine(gM e0 l2 ?_ (aL (k0.trans J.d)) q0 M)
  rw[fV (p:=(cw.drop 3).take 2) 1 (by rw[Bq];exact e4)]
  simp[cw,h3,e3,h8]
end wi
theorem Ul{n:Nat}{b:ah}{Q:j}{V G p:Nat}{z:List Nat}{k:List D}{l:List Int}:wi.E0 n b Q V G p z k l:=dS (Y:=wi.O0) wi.Q0 (n,b,Q,V,G,p,z,k,l)
section
variable{n:Nat}{c:v}{b:ah}{C O Q:j}{r V G p:Nat}{z:List Nat}{k:List D}{l:List Int}
end
section
variable{n:Nat}{c:v}{b:ah}{C O Q:j}{r V G p a0 U g:Nat}{z:List Nat}{k:List D}{l:List Int}
noncomputable def wj:List aT:=[.m (.N (.b 129) 177 [.k [.c (.b 0),.b 107,.c (.b 0),.k []],.u (.g .d (.b 107) (.c (.b 1))) (.b 107) (.r .b (.c (.b 1)) (.m (.h 23) [.b 153,.c (.b 4)]))])]
end
namespace wk
noncomputable def E0(n:Nat)(b:ah)(Q:j)(V a0 U g:Nat)(l:List Int)(i:Int)(B:Nat)(s:List Int)(w:List A):Prop:=∀(z:cY Q a0 U g (s.map bi++cq (8-B) .m) w)(H0:s.length=B)(P:B<8)(f0:i=B)(s0:cF l)(w0:Q.c V=a (bF l))(C:V≠U)(F:V≠a0)(p:V≠g)(E:b 129=a (.h 8 a0))(h3:b 153=a (.d V))(z0:∀Z∈s,0<=Z/\Z<=50),∃(i1:List Int) (f:j) (G0:List Int),fG (bf (aq (n+3)) (.b 107) wj (.b i) b Q) (b.c 107 (.b i)) f/\i1.length=B+1/\cY f a0 U g (i1.map bi++cq (8-(B+1)) .m) w/\cF G0/\f.c V=a (bF G0)/\aW [V,U] Q f/\(∀Z∈i1,0<=Z/\Z<=50)
noncomputable def O0:Nat×ah×j×Nat×Nat×Nat×Nat×(List Int)×Int×Nat×(List Int)×(List A)->Prop:=W λn=>W λb=>W λQ=>W λV=>W λa0=>W λU=>W λg=>W λl=>W λi=>W λB=>W λs=>λw=>E0 n b Q V a0 U g l i B s w
def c0:=dQ (J (J (bY dZ (J (J (J (J (J (J (J (J inferInstance))))))))))) O0
def n:Nat:=c0.1
def b:ah:=c0.2.1
def Q:j:=c0.2.2.1
def V:Nat:=c0.2.2.2.1
def a0:Nat:=c0.2.2.2.2.1
def U:Nat:=c0.2.2.2.2.2.1
def g:Nat:=c0.2.2.2.2.2.2.1
def l:List Int:=c0.2.2.2.2.2.2.2.1
def i:Int:=c0.2.2.2.2.2.2.2.2.1
def B:Nat:=c0.2.2.2.2.2.2.2.2.2.1
def s:List Int:=c0.2.2.2.2.2.2.2.2.2.2.1
def w:List A:=c0.2.2.2.2.2.2.2.2.2.2.2
theorem Q0:E0 n b Q V a0 U g l i B s w:=by
 intro z H0 P f0 s0 w0 C F p E h3 z0
 have Y0:(s.map bi++cq (8-B) A.m).length=8:=by simp;rw[H0];exact Bx (fB P)
 have c:∀T,(s.map bi++cq (8-B) A.m).set i.toNat (bi T)=(s++[T]).map bi++cq (8-(B+1)) .m:=λT=>by
  have e:cq (8-B) A.m=A.m::cq (8-(B+1)) .m:=by rw[show 8-B=(8-(B+1))+1 from(AD (Nat.sub_pos_of_lt P)).symm];rfl
  rw[e,By _ _ (by rw[bK];lia),bK,show i.toNat-s.length=0 by rw[H0,ng f0,tF],IB,kZ,List.append_assoc];rfl
 have T0:∀T,0<=T->T<=50->∀Z∈s++[T],0<=Z/\Z<=50:=λT S I Z b0=>by
  rcases tG.mp b0 with h|h
  ·exact z0 Z h
  ·rw[cP.mp h];exact⟨S,I⟩
 by_cases N:1<i
 ·have e:=vt (n:=n) z (by rw[Y0];decide) (S:=i) (y:=0) (T:=i) (d:=.e []) (lz ‹_›) (by rw[Y0];exact oi ‹_› ‹_› (by decide))
  rw[c]at e
  have r:=z.F ((s++[i]).map bi++cq (8-(B+1)) .m)
  refine(dY (s++[i]) _ l (aL ?_) (by rw[jT,H0];rfl) r ⟨s0,by rw[cf C];exact w0,dg (gK _ (et _)),T0 i (lz ‹_›) (jc (fo (fg (Jw f0) (iI.mpr P)) (by decide)))⟩)
  generalize(s++[i]).map bi++cq (8-(B+1)) A.m=L0 at e⊢
  simp[bf,wj,E,z.i,N,e]
 ·refine cX (vz (n:=n+2) w0 s0 (w:=4) (by decide) (by decide)) λd G0 v W D j=>?_
  have k:cY (Q.d V (bF G0)) a0 U g (s.map bi++cq (8-B) .m) w:=by
   refine aA (z.m) λq x0 h=>?_
   exact⟨(aw q ((cf F.symm).trans x0) h),(cf C.symm).trans z.d,(cf p.symm).trans z.f,z.s⟩
  have e:=vt (n:=n) k (by rw[Y0];decide) (S:=i) (y:=0) (T:=1+d) (d:=.e []) (lz ‹_›) (by rw[Y0];exact oi ‹_› ‹_› (by decide))
  rw[c]at e
  have r:=k.F ((s++[1+d]).map bi++cq (8-(B+1)) .m)
  refine(dY (s++[1+d]) _ G0 (aL ?_) (by rw[jT,H0];rfl) r ⟨v,by rw[cf C];exact cE,(dg (et _)).trans (dg (gK _ (et _))),T0 (1+d) (pO (bQ (gz _) (by decide)) W) (bQ (gy (gz _) (jc D)) (by decide))⟩)
  generalize(s++[1+d]).map bi++cq (8-(B+1)) A.m=L0 at e⊢
  simp[bf,wj,E,h3,z.i,N,j,e]
end wk
theorem Um{n:Nat}{b:ah}{Q:j}{V a0 U g:Nat}{l:List Int}{i:Int}{B:Nat}{s:List Int}{w:List A}:wk.E0 n b Q V a0 U g l i B s w:=dS (Y:=wk.O0) wk.Q0 (n,b,Q,V,a0,U,g,l,i,B,s,w)
section
variable{n:Nat}{c:v}{b:ah}{C O Q:j}{r V G p a0 U g:Nat}{z:List Nat}{k:List D}{l:List Int}
noncomputable abbrev kl:List Nat:=[97,98,99,100,101,102,103,104,105,106,107]
end
namespace wl
noncomputable def E0(n:Nat)(b:ah)(C:j)(V:Nat)(l:List Int):Prop:=∀(s0:cF l)(p0:V<C.b)(w0:C.c V=a (bF l))(h3:b 153=a (.d V)),∃(s:List Int) (G0:List Int) (o0:ah) (O:j) (a0 U g:Nat),aO (aq (n+3)) ((cw.drop 5).take 3) b C=.b (.b,o0) O/\s.length=8/\(∀Z∈s,0<=Z/\Z<=50)/\cF G0/\O.c V=a (bF G0)/\cY O a0 U g (s.map bi) (kl.map bc)/\aW [V] C O/\C.b<=a0/\C.b<=U/\C.b<=g/\a0<O.b/\U<O.b/\g<O.b/\
 o0 129=a (.h 8 a0)/\(∀y,y≠129->y≠107->o0 y=b y)
noncomputable def O0:Nat×ah×j×Nat×(List Int)->Prop:=W λn=>W λb=>W λC=>W λV=>λl=>E0 n b C V l
def c0:=dQ (J (J (bY dZ (J inferInstance)))) O0
def n:Nat:=c0.1
def b:ah:=c0.2.1
def C:j:=c0.2.2.1
def V:Nat:=c0.2.2.2.1
def l:List Int:=c0.2.2.2.2
theorem Q0:E0 n b C V l:=by
 intro s0 p0 w0 h3
 refine xc (TU (n:=n+2) (C:=C)) λx0 a0 U g h1=>?_;refine pR h1 λe1 X b1 b2 b3 b4 b5 k=>?_;clear h1
 have q:x0.c V=a (bF l):=by rw[X.c V p0 cU];exact w0
 have j0:=aM p0 b1
 have H:=cT j0 b2
 have w:=cT j0 b3
 have c:=fB (el b1 b2)
 have T:=fB (el b1 b3)
 have g0:=cT b2 b4
 have e2:aO (aq (n+3)) ((cw.drop 5).take 3) b C=fU (aO (aq (n+3)) [.m (.N (.b 129) 177 [.k [.c (.b 5),.c (.b 0),.c (.b 11),.k []],.c (.c kl)])]) (ch (bf (aq (n+3)) (.b 107) wj) (dj 8) (b.c 129 (.h 8 a0)) x0):=by
  simp[cw,e1,eN (i:=8) (by decide) (by decide)]
  rfl
 rw[e2]
 refine qE (λZ=>∃(s:List Int) (G0:List Int) (o0:ah) (O:j) (a0 U g:Nat),fU (aO (aq (n+3)) [.m (.N (.b 129) 177 [.k [.c (.b 5),.c (.b 0),.c (.b 11),.k []],.c (.c kl)])]) Z=.b (.b,o0) O/\s.length=8/\(∀Z∈s,0<=Z/\Z<=50)/\cF G0/\O.c V=a (bF G0)/\cY O a0 U g (s.map bi) (kl.map bc)/\aW [V] C O/\C.b<=a0/\C.b<=U/\C.b<=g/\a0<O.b/\U<O.b/\g<O.b/\
  o0 129=a (.h 8 a0)/\(∀y,y≠129->y≠107->o0 y=b y)) 8
  (λB o0 Q=>∃(s:List Int) (G0:List Int),s.length=B/\cY Q a0 U g (s.map bi++cq (8-B) .m) (cq 11 .m)/\cF G0/\Q.c V=a (bF G0)/\aW [V,U] x0 Q/\(∀Z∈s,0<=Z/\Z<=50)/\o0 129=a (.h 8 a0)/\(∀y,y≠129->y≠107->o0 y=b y))
  (gN [] l rfl k s0 q ⟨aW.d,λZ h=>(nomatch h),by rfl,λy E N=>mf E⟩) ?_ ?_
 ·rintro B i o0 Q f0 P p;refine BO p λs G0 H0 z v b0 o z0 a1 a2=>?_;clear p
  refine rG (Um (n:=n) z H0 P f0 v b0 (bC H) (bC j0) (bC w) a1 ((a2 153 (by decide) (by decide)).trans h3) z0) λi1 f l2 r0 c1 c2 I e F W=>?_
  exact(dK _ f r0 ⟨i1,l2,c1,c2,I,e,o.trans F,W,by exact a1,λy E N=>(mf N).trans (a2 y E N)⟩)
 ·rintro o0 Q z1;refine BO z1 λs G0 H0 z v b0 o z0 a1 a2=>?_;clear z1
  rw[show cq (8-8) A.m=[]from rfl,pB]at z
  have e3:=zQ (n:=n) z (by simp) (S:=0) (i:=11) (d:=.e []) (t:=kl) (by decide) (by decide) (by decide) (by decide) (by simp)
  have e4:dE (cq 11 A.m) (0:Int).toNat ((dJ kl 11).map bc)=kl.map bc:=by kernel_rfl
  rw[e4]at e3
  have r:=z.H (kl.map bc)
  have m:aW [V] C (Q.d g (.c (kl.map bc))):=(X.f λZ a0=>nomatch a0).e (t0:=[V,U,g]) ((o.f λZ a0=>by simp at a0⊢;rcases a0 with h|h<;>simp[h]).trans (dg (eH (i:=2) rfl))) (ik (aL cg)<|ik (aI (c))<|ik (aI (T)) qD)
  have y0:=o.b
  have u:=aM g0 y0
  have G:=aM b4 y0
  have J:=aM b5 y0
  refine(BC s G0 o0 (Q.d g (.c (kl.map bc))) a0 U g ⟨?_,H0,z0,v,by rw[cf (bC w)];exact b0,r,m,b1,by exact c,by exact T,by rw[pa];exact u,by rw[pa];exact G,by rw[pa];exact J,a1,a2⟩)
  simp[a1,z.i,e3]
end wl
theorem Un{n:Nat}{b:ah}{C:j}{V:Nat}{l:List Int}:wl.E0 n b C V l:=dS (Y:=wl.O0) wl.Q0 (n,b,C,V,l)
section
variable{n:Nat}{c:v}{b:ah}{C O Q:j}{r V G p a0 U g:Nat}{z:List Nat}{k:List D}{l:List Int}
end
section
variable{n:Nat}{c:v}{b:ah}{C O Q:j}{r V G p a0 U g:Nat}{z:List Nat}{k:List D}{l:List Int}{h:List A}{B:List A}{T:A}
def HK(b:ah)(Z:ak)(T:A)(d0:Option A)(C:j):au (bA×ah):=match d0 with
 |none=>.b (.b,b.c Z T) C
 |some _=>.d
@[simp]theorem E8{Z:ak}{e:ar}:bb c (.F Z e) b C=(ag c e b C).e λT C=>HK b Z T (b Z) C:=rfl
@[simp]theorem F8{Z:ak}:HK b Z T ae C=.b (.b,b.c Z T) C:=rfl
theorem HL{l:List A}(w0:C.c r=a (.c l))(h:l.length<=100000):cK C .h (.d r)=.b (.d C.b) (C.e (.c l)):=by
 show(match C.c r with|some (.c l)=>if l.length<=100000 then au.b (A.d C.b) (C.e (.c l))else .d|_=>.d)=_
 rw[w0];exact if_pos h
theorem cY.y{z0:List Nat}{l w:List A}(z:cY C a0 U g l w)(o:aW z0 C O)(E:a0<C.b)(N:U<C.b)(h3:g<C.b)(w1:a0∉z0)(w2:U∉z0)(w3:g∉z0):cY O a0 U g l w:=by
 refine aA (z.m) λq x0 h=>?_
 exact⟨(aw q ((o.c a0 E w1).trans x0) h),(o.c U N w2).trans z.d,(o.c g h3 w3).trans z.f,z.s⟩
theorem Uo(z:cY C a0 U g h B)(k0:h.length<=100)(e0:B.length<=100)(b1:a0<C.b)(b2:U<C.b)(b3:g<C.b)(E:b 129=a (.h 8 a0))(N:b 39=ae):
 ∃O m c1,aO (aq n) ((cw.drop 8).take 1) b C=.b (.b,b.c 39 (cS m c1)) O/\aW [] C O/\m=C.b/\c1=C.b+1/\c1<O.b/\O.c m=a (.c h)/\O.c c1=a (.c B):=by
 have e1:=HL (C:=C) z.d (az k0 (by decide))
 have k:=z.y (z0:=[]) (dL (o:=.c h)) b1 b2 b3 cU cU cU
 have e2:=HL (C:=C.e (.c h)) k.f (az e0 (by decide))
 refine(dY ((C.e (.c h)).e (.c B)) C.b (C.b+1) ?_ (dL.trans dL) rfl ⟨rfl,fM _,(iG (C:=C.e (.c h)) (show C.b≠C.b+1 by exact bC (fM _))).trans gm,gm (C:=C.e (.c h))⟩)
 simp[cw,E,N,z.t,k.u,e1,e2]
theorem HM{f:A->j->au (Option A)}{r0:D->Nat->A}:∀(z:List Nat)(k:List D),z.length=k.length->(∀(B r:Nat)(H:D),z[B]?=a r->k[B]?=a H->f (.h 13 r) C=.b (a (r0 H r)) C)->bX f (z.map (.h 13)) C=.b (rA r0 k z) C:=by
 intro J
 induction J with
 |nil=>
  intro n
  induction n using bL with
  |nil=>
   intro _ _
   exact rfl
  |cons _ _=>
   intro h _
   cases h
 |cons r z U=>
  intro n
  induction n using bL with
  |nil=>
   intro h _
   cases h
  |cons H k=>
   intro h B0
   exact nz (B0 0 r H rfl rfl) (U k (tD h) λB r H E N=>B0 (B+1) r H E N)
theorem Up:∀(z:List Nat)(k C:List D)(G:List A),z.length=k.length->G.length=C.length->((C++k).map (·.b)).Nodup->kz (rA (λ(H:D)(r:Nat)=>A.e [.c [H.b],.h 13 r]) k z) (bG C G)=a (bG (C++k) (G++z.map (.h 13))):=by
 intro J
 induction J with
 |nil=>
  intro n
  induction n using bL with
  |nil=>
   intro C G _ _ _
   rw[pB,Ip,pB];rfl
  |cons _ _=>
   intro _ _ h _ _
   cases h
 |cons r z U=>
  intro n
  induction n using bL with
  |nil=>
   intro _ _ h _ _
   cases h
  |cons H k=>
   intro C G h n0 y0
   have l0:H.b∉C.map (·.b):=λL=>by
    rw[kZ,dX]at y0
    exact(Io.mp y0).2.2 _ L _ cg rfl
   show kz _ (bv (bG C G) [H.b] (.h 13 r))=_
   rw[zW n0 l0,U k (C++[H]) (G++[A.h 13 r]) (tD h) (by simp[n0]) (by simpa using y0)]
   simp
theorem HN{l:List A}{o0:List (am×A)}(k0:l.length<=1000)(h:kz l []=a o0):cK C .d (.k l)=.b (.d C.b) (C.e (.b o0)):=by
 show(if l.length<=1000 then(match kz l []with|some o0=>au.b (A.d C.b) (C.e (.b o0))|none=>.d)else .d)=_
 rw[if_pos k0,h]
theorem im.t{p:Nat}(J:im Q V G p z k)(o:aW [V] Q C):im C V G p z k:=
 ⟨J.d,(o.c G (aM J.s J.q) λa0=>J.y (cP.mp a0).symm).trans J.f,λB r H E N=>(J.i B r H E N).o o.b λZ b0 n1=>o.c Z n1 λa0=>by have:=J.m;rw[cP.mp a0]at b0;lia,J.w,J.u,J.m,J.s,az J.q o.b,J.y,o.g.trans J.I⟩
theorem im.F{p:Nat}(J:im Q V G p z k):(k.map (·.b)).Nodup:=by
 rw[J.w];exact(show JB [80,81,82,83] by decide).sublist (Xm _ _)
theorem im.L{p:Nat}(J:im Q V G p z k){B r:Nat}{H:D}(E:z[B]?=a r)(N:k[B]?=a H):(Q.lock G).c r=a (.b (bW (jp H (r+1)))):=
 (kQ (ja (J.i B r H E N).e J.f λe=>nomatch e)).trans (J.i B r H E N).e
theorem Uq(J:im C V G p z k)(F:k.length<=4)(N:b 185=a (.d G)):
 ∃O g0 u d,aO (aq (n+1)) ((cw.drop 9).take 2) b C=.b (.b,b.c 195 (.h 14 g0)) O/\aW [] C O/\C.b<=g0/\g0<u/\u<O.b/\O.c g0=a (.b d)/\aX d (cL 185)=a (.d u)/\O.c u=a (.b (qS k z)):=by
 refine pV (TX (n:=n) (C:=C) (S:=[115,117,98,114,111,117,116,105,110,101]) (p:=[83])) λx0 g0 q e1 X t b1 g1 l1=>?_;obtain rfl:=t
 have S1:=J.t (X.f (t0:=[V]) λZ a0=>nomatch a0)
 have e2:=HM (C:=x0.lock G) (f:=dT (aq (n+1)) (.k [.n (.b 184) 133,.b 184]) 184 [] [] (b.c 195 (.h 14 C.b))) (r0:=λH r=>A.e [.c [H.b],.h 13 r]) z k J.d λB r H E N=>by
  rw[mi]
  have k0:=S1.L E N
  simp[jb,ki (I:=13) (S:=133) (T:=.c [H.b]) k0 (by simp) rfl]
 have e3:=nN (v:=bX (dT (aq (n+1)) (.k [.n (.b 184) 133,.b 184]) 184 [] [] (b.c 195 (.h 14 C.b))) (z.map (.h 13))) S1.f e2
 rw[vX S1.f]at e3
 have e4:=HN (C:=x0) (l:=rA (λ(H:D)(r:Nat)=>A.e [.c [H.b],.h 13 r]) k z) (o0:=qS k z) (by rw[mD];exact az (az (jR _ _) F) (by decide)) (Up z k [] [] J.d rfl J.F)
 have D0:(x0.e (.b (qS k z))).c C.b=a (.b q):=(iG (bC b1)).trans g1
 have e5:∀b:ah,ke b 185 (.d x0.b) (.h 14 C.b) (x0.e (.b (qS k z)))=.b (.b,b) _:=λb=>nw D0 (az l1 (by decide)) rfl
 have o2:=X.b
 refine(iN ((x0.e (.b (qS k z))).d C.b (.b (bv q (cL 185) (.d x0.b)))) C.b x0.b (bv q (cL 185) (.d x0.b)) ?_ ((X.trans dL).e (dg (z0:=[C.b]) cg) (λZ b0=>by rw[cP.mp b0];exact aI (bS _))) (bS _) ⟨b1,fM _,cE,zP,?_⟩)
 ·have C0:z.length<=1000:=by rw[J.d];exact az F (by decide)
  simp[cw,e1,N,qR S1.f]
  rw[e3]
  simp[gI C0,e4,e5]
 ·rw[cf (fu b1)];exact gm
theorem Ur{q:List (am×A)}(h:C.c r=a (.b q)):eL C .d (.d r)=a (q.map (λV=>.e [.c V.1,V.2]),a r):=by
 show(match C.c r with
  |some (.b l)=>a (l.map (λ(V:am×A)=>A.e [.c V.1,V.2]),a r)
  |_=>ae)=_
 rw[h]
theorem Us:∃O f0 o0,aO (aq (n+1)) ((cw.drop 11).take 2) b C=.b (.b,o0) O/\aW [] C O/\C.b<=f0/\f0<O.b/\O.c f0=a (.b fH)/\o0 73=a (.d f0)/\(∀y,y≠73->y≠204->y≠84->o0 y=b y):=by
 refine mE (TZ (n:=n) (C:=C)) λx0 f0 e1 X i b1 g1=>?_;obtain rfl:=i
 have e2:aq (n+1) (.g 40) [] x0=.b (.d x0.b) (x0.e (.b [([115,117,98,115,116,114],.g 69),([99,97,116],.g 66)])):=by kernel_rfl
 generalize s0:[(([115,117,98,115,116,114]:am),A.g 69),([99,97,116],A.g 66)]=h at e2
 have g2:(x0.e (.b h)).c x0.b=a (.b h):=gm
 have g3:((x0.e (.b h)).lock x0.b).c C.b=a (.b (fH.take 19)):=by
  rw[kQ (bC b1),iG (bC b1)];exact g1
 have p1:∀b:ah,iZ b (.d C.b) (.c [115,117,98,115,116,114]) (.g 69) ((x0.e (.b h)).lock x0.b)=.b (.b,b) (((x0.e (.b h)).lock x0.b).d C.b (.b (fH.take 20))):=λb=>by
  rw[nj g3 (by decide)]
  rw[show bv (fH.take 19) [115,117,98,115,116,114] (A.g 69)=fH.take 20 by kernel_rfl]
 have p2:∀b:ah,iZ b (.d C.b) (.c [99,97,116]) (.g 66) (((x0.e (.b h)).lock x0.b).d C.b (.b (fH.take 20)))=.b (.b,b) (((x0.e (.b h)).lock x0.b).d C.b (.b fH)):=λb=>by
  rw[nj cE (by decide),iX]
  rw[show bv (fH.take 20) [99,97,116] (A.g 66)=fH by kernel_rfl]
 have e3:∃o0,ch (bf (aq (n+1)) (.c [204,84]) [.l (.b 73) (.b 204) (.b 84)]) (h.map λV=>.e [.c V.1,V.2]) (b.c 73 (.d C.b)) ((x0.e (.b h)).lock x0.b)=.b (.b,o0) (((x0.e (.b h)).lock x0.b).d C.b (.b fH))/\o0 73=a (.d C.b)/\(∀y,y≠73->y≠204->y≠84->o0 y=b y):=by
  subst s0
  refine(cW _ (by simp[fW,bf,p1,p2];rfl) (by rfl) (λy E N h3=>by simp[-zw,mf,E,N,h3]))
 refine dP (e3) λo0 e3 a1 a2=>?_
 have e4:=nN (v:=ch (bf (aq (n+1)) (.c [204,84]) [.l (.b 73) (.b 204) (.b 84)]) (h.map λV=>.e [.c V.1,V.2]) (b.c 73 (.d C.b))) g2 e3
 have W:=X.b
 refine(dY ((((x0.e (.b h)).lock x0.b).d C.b (.b fH)).d x0.b (.b h)) C.b o0 ?_ ?_ (bS _) ⟨?_,?_,a1,a2⟩)
 ·simp[cw,e1,e2,Ur g2]
  rw[e4]
  simp
 ·refine(X.trans dL).e (t0:=[x0.b,C.b]) (((Ac (et _)).trans (dg (gK _ (et _)))).trans (dg (et _))) (ik (aI W)<|ik (aI (bS _)) qD)
 ·show C.b<x0.b+1;exact el W (fM _)
 ·rw[cf (bC b1)];exact cE
end
section
variable{n:Nat}{c:v}{b:ah}{C O Q:j}{r V G p a0 U g f0:Nat}{z:List Nat}{k:List D}{l w:List A}{R:br}{i0 F:List (am×A)}
theorem HO(m:bu C R i0 l w F)(k0:l.length<=1000)(q0:w.length<=1000):aq (n+2) (.g 187) [bg R] C=.b (.e [.b l.length,.b w.length]) C:=by
 have e:aq (n+1) (.g 127) [.h 8 R.p] C=.b (.e [.b l.length,.b w.length]) C:=by
  refine(bh rfl rfl).trans ?_
  simp[DP,m.k.t,m.k.u,iW m.k.d (by exact az k0 (by decide):l.length<=100000),iW m.k.f (by exact az q0 (by decide):w.length<=100000)]
 refine(bh rfl rfl).trans ?_
 simp[DX,m.t,e]
theorem Ut:aq (n+1) (.g 34) [] C=.b (.d C.b) (C.e (.d [(0,.g 92),(4,.g 123)])):=by kernel_rfl
theorem Uu:∀(e0:List am)(C:j),(∀w∈e0,(aX cR w).isSome=af)->∃O,bX (dT (aq (n+2)) (.k [.b 133,.d (.m (.h 20) []) (.b 133)]) 133 [] [] b) (e0.map .c) C=.b (e0.map λw=>.e [.c w,(aX cR w).getD .m]) O/\aW [] C O:=by
 intro J
 induction J with
 |nil=>
  intro C _
  exact(aw C rfl aW.d)
 |cons w e0 U=>
  intro C h
  obtain⟨T,h0⟩:=WH.mp (h w cg)
  refine aA (U (C.e (.b cR)) λw a0=>h w (ge _ a0)) λO e o=>?_
  refine(aw O ?_ (dL.trans o))
  have e1:cz (C.e (.b cR)) (.d C.b) (.c w)=a T:=by rw[lB gm];exact h0
  refine nz (o:=a (.e [.c w,(aX cR w).getD .m])) ?_ e
  rw[mi]
  simp[jb,nK,e1,h0]
theorem Uv(E:b 129=a (.h 8 a0))(N:b 73=a (.d f0)):
 ∃O r q A0 h Q,aO (aq (n+2)) ((cw.drop 13).take 1) b C=.b (.b,b.c 163 (.h 10 r)) O/\aW [] C O/\C.b<=h/\h<r/\r<A0/\A0<O.b/\O.c r=a (.b (bW q))/\q.length<=15/\eB q 129=a (.h 8 a0)/\eB q 116=a (.h 7 h)/\eB q 73=a (.d f0)/\eB q 151=a (.d A0)/\O.c A0=a (.b [])/\O.c h=a (.b Q)/\aX Q (cL 203)=a (.b 32):=by
 refine pV (TV (n:=n+1) (C:=C)) λx0 h Q e1 X t c1 g1 w0=>?_;obtain rfl:=t
 have v:aW [] x0 ((x0.e (.b [])).e (.b [])):=dL.trans dL
 refine JS (TY (n:=n+1) (C:=(x0.e (.b [])).e (.b [])) (a0:=.h 8 a0) (U:=.h 7 C.b) (g0:=.d x0.b) (f0:=.d f0) (p0:=.d (x0.b+1))) λy0 r q A0 e4 o4 R e F g4 k q1 q2 V d c j G=>?_
 have g:r=x0.b+1+1:=R
 refine(lQ y0 r q A0 C.b Q ⟨?_,(X.trans v).trans o4,bS _,by exact aM (aM c1 (az (dp _ _) (dp _ _))) (bw g.symm),e,F,g4,k,q1,q2,V,d,c,?_,w0⟩)
 ·have W:lC (aq (n+2)) 10 [.h 8 a0,.h 7 C.b,.d x0.b,.m,.d f0,.d (x0.b+1)] ((x0.e (.b [])).e (.b []))=.b (.h 10 r) y0:=e4
  (apply jL (bE E<|bE N jK);intro b;simp[cw,e1,W])
 ·rw[o4.c _ (aM c1 (by show x0.b<=x0.b+1+1;exact az (dp _ _) (dp _ _))) cU,v.c _ c1 cU];exact g1
theorem Uw{r:Nat}{q:List (ak×A)}(r0:C.c r=a (.b (bW q)))(j0:r<C.b)(x0:q.length<=90)(E:b 163=a (.h 10 r)):
 ∃O,aO (aq (n+2)) ((cw.drop 14).take 1) b C=.b (.b,b) O/\aW [r] C O/\C.b<O.b/\O.c C.b=a (.d [(0,.g 92),(4,.g 123)])/\O.c r=a (.b (bW (dR q 143 (.d C.b)))):=by
 have o:(C.e (.d [(0,.g 92),(4,.g 123)])).c r=a (.b (bW q)):=(iG (bC j0)).trans r0
 have F:ke b 143 (.d C.b) (.h 10 r) (C.e (.d [(0,.g 92),(4,.g 123)]))=.b (.b,b) ((C.e (.d [(0,.g 92),(4,.g 123)])).d r (.b (bW (dR q 143 (.d C.b))))):=by
  rw[nw o (by rw[nH];exact az x0 (by decide)) rfl,nI]
 refine(lf _ (by simp[cw,E,Ut];rw[F];rfl) (dL.trans (dg cg)) (fM _) (by rw[cf (fu j0)];exact gm) cE)
theorem Ux{r:Nat}{q:List (ak×A)}(r0:C.c r=a (.b (bW q)))(j0:r<C.b)(x0:q.length<=90)(E:b 163=a (.h 10 r)):
 ∃O P,aO (aq (n+2)) ((cw.drop 15).take 2) b C=.b (.b,b) O/\aW [r] C O/\C.b<=P/\P<O.b/\O.c P=a (.b iF)/\O.c r=a (.b (bW (dR q 80 (.d P)))):=by
 have U:(C.e (.b cR)).c C.b=a (.b cR):=gm
 obtain⟨g,u⟩:∃g:List am,g=cR.map (·.1):=⟨_,rfl⟩
 have k:∀w∈g,(aX cR w).isSome=af:=by rw[u];decide
 have p:kz (g.map λw=>A.e [.c w,(aX cR w).getD .m]) []=a cR:=by rw[u];kernel_rfl
 have z:g.length<=1000:=by rw[u];decide
 have H:mB (λ(V:am×A)=>A.c V.1) cR=g.map A.c:=by rw[u,mx];rfl
 clear u
 refine aA (Uu (n:=n) (b:=b) g ((C.e (.b cR)).lock C.b) k) λR0 d o6=>?_
 have G:=nN (v:=bX (dT (aq (n+2)) (.k [.b 133,.d (.m (.h 20) []) (.b 133)]) 133 [] [] b) (g.map A.c)) U d
 generalize B:R0.d C.b (.b cR)=t at G
 have T:aW [] C t:=by
  rw[<-B]
  refine(dL (C:=C) (z0:=[]) (o:=.b cR)).e (t0:=[C.b]) (((Ac cg).trans (o6.f λZ a0=>nomatch a0)).trans (dg cg)) λZ b0=>by rw[cP.mp b0];exact aI (bS _)
 have c:=HN (C:=t) (l:=g.map λw=>A.e [.c w,(aX cR w).getD .m]) (o0:=cR) (by rw[bK];exact z) p
 generalize g.map (λw=>A.e [.c w,(aX cR w).getD .m])=X at G c
 have I:=T.b
 have Q:r<t.b:=aM j0 I
 have F:(t.e (.b cR)).c r=a (.b (bW q)):=by
  rw[iG (bC Q),T.c r j0 cU];exact r0
 have h:ke b 80 (.d t.b) (.h 10 r) (t.e (.b cR))=.b (.b,b) ((t.e (.b cR)).d r (.b (bW (dR q 80 (.d t.b))))):=by
  rw[nw F (by rw[nH];exact az x0 (by decide)) rfl,nI]
 have R:((t.e (.b cR)).d r (.b (bW (dR q 80 (.d t.b))))).c r=a (.b (bW (dR q 80 (.d t.b)))):=cE
 have f:((t.e (.b cR)).d r (.b (bW (dR q 80 (.d t.b))))).c t.b=a (.b cR):=by rw[cf (fu Q)];exact gm
 have o8:aW [r] C ((t.e (.b cR)).d r (.b (bW (dR q 80 (.d t.b))))):=(T.f λZ a0=>nomatch a0).trans (dL.trans (dg cg))
 have x:((t.e (.b cR)).d r (.b (bW (dR q 80 (.d t.b))))).b=t.b+1:=rfl
 generalize(t.e (.b cR)).d r (.b (bW (dR q 80 (.d t.b))))=h0 at h R f o8 x
 have S:∀{w:A->au A},eW h0 80 (.h 10 r) w=w (.d t.b):=λ{w}=>ki R rfl we
 have m:iZ b (.d t.b) (.c [72]) (.c [70]) h0=.b (.b,b) (h0.d t.b (.b iF)):=by
  rw[nj f (by decide)]
  rw[show bv cR [72] (A.c [70])=iF by kernel_rfl]
 refine(gN (h0.d t.b (.b iF)) t.b ?_ (o8.e (t0:=[t.b]) (dg cg) (λZ b0=>by rw[cP.mp b0];exact aI I)) I (by rw[pa,x];exact fM _) ⟨cE,by rw[cf (bC Q)];exact R⟩)
 simp[cw,E,nK,HA U]
 rw[H,G]
 have k0:cR.length<=1000:=by decide
 simp[gI k0,c,h,S,m,E]
end
theorem Uy{n:Nat}{b:ah}{C:j}{a0 U g f0:Nat}{l w:List A}:∀(z:cY C a0 U g l w)(k0:l.length<=1000)(q0:w.length<=1000)(b1:a0<C.b)(b2:U<C.b)(b3:g<C.b)(b4:f0<C.b)(M0:C.c f0=a (.b fH))(E:b 129=a (.h 8 a0))(N:b 73=a (.d f0)),∃O o0 R i0,aO (aq (n+2)) ((cw.drop 13).take 5) b C=.b (.b,o0) O/\aW [] C O/\bu O R i0 l w iF/\R.p=a0/\R.e=U/\R.h=g/\(∀Z∈R.m,Z<O.b/\(Z=a0\/Z=U\/Z=g\/Z=f0\/C.b<=Z))/\
 o0 163=a (bg R)/\o0 35=a (.e [.b l.length,.b w.length])/\(∀y,y≠163->y≠35->o0 y=b y):=by
 intro z k0 q0 b1 b2 b3 b4 M0 E N
 refine oj (Uv (n:=n) (C:=C) E N) λx0 r q A0 h Q h1=>?_;refine JL h1 λe1 X c1 c2 I e g1 k q1 q2 V d c x u=>?_;clear h1
 refine lh (Uw (n:=n) g1 (cT I e) (az k (by decide)) (b:=b.c 163 (.h 10 r)) (by simp)) λi e2 o2 F H g2=>?_
 have M:=Al (q:=q) (S:=143) (T:=.d x0.b)
 refine pU (Ux (n:=n) g2 (cT (cT I e) F) (az (az M (kT k (bS _))) (by decide)) (b:=b.c 163 (.h 10 r)) (by simp)) λd0 P e3 v W J f g3=>?_
 have o:C.b<r:=el c1 c2
 have p1:r<x0.b:=cT I e
 have G:x0.b<d0.b:=cT F (el W J)
 have Y:r<d0.b:=cT p1 G
 have s:C.b<d0.b:=cT o Y
 have c0:=Al (q:=dR q 143 (.d x0.b)) (S:=80) (T:=.d P)
 have B:∀Z,Z<x0.b->Z≠r->d0.c Z=x0.c Z:=λZ b0 j0=>by
  rw[v.c Z (cT b0 F) (λa0=>j0 (cP.mp a0)),o2.c Z b0 (λa0=>j0 (cP.mp a0))]
 have t:aW [] C d0:=(X.e (t0:=[r]) (o2.trans v) λZ b0=>by rw[cP.mp b0];exact aI (fB o))
 have y0:∀S:ak,S≠80->S≠143->aX (bW (dR (dR q 143 (.d x0.b)) 80 (.d P))) (cL S)=eB q S:=λS E N=>by rw[jN,wf E,wf N]
 have L:bv (bW (dR (dR q 143 (.d x0.b)) 80 (.d P))) (cL 80) (.d P)=bW (dR (dR q 143 (.d x0.b)) 80 (.d P)):=by
  rw[<-nI (l:=dR q 143 (.d x0.b)),Ae]
 have m:bu d0 ⟨r,a0,U,g,f0,x0.b,h,P,A0⟩ (bW (dR (dR q 143 (.d x0.b)) 80 (.d P))) l w iF:=
  ⟨g3,by rw[nH];lia,(y0 _ (by decide) (by decide)).trans q1,(y0 _ (by decide) (by decide)).trans V,by rw[jN,wf (by decide),we],(y0 _ (by decide) (by decide)).trans q2,by rw[jN,we],(y0 _ (by decide) (by decide)).trans d,
    z.y t b1 b2 b3 cU cU cU,(t.c f0 b4 cU).trans M0,by
     show d0.c x0.b=_
     rw[v.c _ F (λa0=>by exact fu p1 (cP.mp a0))];exact H,(aw Q ((B h (cT c2 p1) (bC c2)).trans x) u),f,(B A0 e (fu I)).trans c,L,by
     exact cN (fu (cT b1 o))<|cN (fu (cT b2 o))<|cN (fu (cT b3 o))<|cN (fu (cT b4 o))<|cN (bC p1)<|cN (fu c2)<|cN (bC (aM (cT p1 F) W))<|cN (bC I) ni⟩
 have D:=HO (n:=n) m k0 q0
 clear z k0 q0 M0 X g1 k q1 q2 V d c x u o2 H g2 M v f g3 c0 B y0 L;refine(iN d0 ((b.c 163 (.h 10 r)).c 35 (.e [.b l.length,.b w.length])) ⟨r,a0,U,g,f0,x0.b,h,P,A0⟩ _ ?_ t m ⟨rfl,rfl,rfl,?_,by rfl,by rfl,λy E N=>by simp[-zw,mf,E,N]⟩)
 ·rw[fV (p:=(cw.drop 13).take 5) 1 (by rw[Bq];exact e1)]
  rw[fV (p:=((cw.drop 13).take 5).drop 1) 1 (by exact e2)]
  rw[fV (p:=(((cw.drop 13).take 5).drop 1).drop 1) 2 (by exact e3)]
  simp[cw]
  rw[show aq (n+2) (.g 187) [.h 10 r] d0=_ from D]
  clear b1 b2 b3 b4 E N e1 c1 c2 I e e2 F e3 W J o p1 G Y s t m D;rfl
 ·exact(ik ⟨Y,aI (aI (aI (aI (fB o))))⟩<|
   ik ⟨cT b1 s,aL rfl⟩<|
   ik ⟨cT b2 s,aI (aL rfl)⟩<|
   ik ⟨cT b3 s,aI (aI (aL rfl))⟩<|
   ik ⟨cT b4 s,aI (aI (aI (aL rfl)))⟩<|
   ik ⟨G,aI (aI (aI (aI (fB (cT o p1)))))⟩<|
   ik ⟨cT c2 Y,aI (aI (aI (aI c1)))⟩<|
   ik ⟨J,aI (aI (aI (aI (fB (aM (cT (cT o p1) F) W)))))⟩<|
   ik ⟨cT e G,aI (aI (aI (aI (fB (cT o I)))))⟩ qD)
section
variable{n:Nat}{c:v}{b:ah}{C O Q:j}{r V G p a0 U g f0:Nat}{z:List Nat}{k:List D}{l w:List A}{R:br}{i0 F:List (am×A)}
end
noncomputable def gn:List Int->List Nat->List cx->List aP
 |_,_,[]=>[]
 |s,x,t::e0=>oY s x t::gn (df s t) (ee x t) e0
noncomputable def gJ:List Int->List cx->List Int
 |s,[]=>s
 |s,t::e0=>gJ (df s t) e0
noncomputable def ju:List Nat->List cx->List Nat
 |x,[]=>x
 |x,t::e0=>ju (ee x t) e0
structure gX(s:List Int)(x:List Nat)(q:Nat):Prop where
 d:8<=s.length
 c:s.length+q<=90
 k:11<=x.length
 e:x.length+6*q<=90
 o:∀I∈x,I<128
 f:0<=s.headD 0/\s.headD 0<=50
 r:∀Z∈s,0<=Z/\Z<=100
section
variable{n:Nat}{C O Q:j}{R:br}{i0 F:List (am×A)}{s:List Int}{x:List Nat}{m c1 q:Nat}{b:ah}{t:cx}
theorem gX.u(g:gX s x q):nE s x:=⟨g.d,by have:=g.c;exact az (az (dp _ _) this) (by decide),g.k,by have:=g.e;exact az (az (dp _ _) this) (by decide),g.o,g.f.1,by have:=g.f.2;exact bQ this (by decide)⟩
theorem gX.z(g:gX s x q):nP s x:=⟨by have:=g.c;exact az (az (dp _ _) this) (by decide),by have:=g.e;exact az (az (dp _ _) this) (by decide),g.o⟩
theorem Ao:s.length<=(df s t).length/\(df s t).length<=s.length+1:=by
 induction t<;>first|exact⟨bS _,pi _⟩|(unfold df;simp)
theorem Uz:x.length<=(ee x t).length/\(ee x t).length<=x.length+6:=by
 induction t<;>first|exact⟨bS _,dp _ _⟩|(unfold ee;simp;exact jR _ _)
theorem gX.i(g:gX s x (q+1))(Q:t.b):gX (df s t) (ee x t) q:=by
 have E:=g.d
 have N:=g.c
 have h3:=g.k
 have h4:=g.e
 have S:=Ao (s:=s) (t:=t)
 have p:=Uz (x:=x) (t:=t)
 have w:=g.u.o (el (az (dp _ _) N) (by decide)) (JE ‹_› (by decide)) t
 have T0:(df s t).headD 0=s.headD 0:=by
  clear g Q N h3 h4 p w;induction t<;>first|rfl|(unfold df;induction s using bL with|nil=>simp at E|cons S l=>rfl)
 refine⟨w.b,by exact xb (And.right ‹_›) ‹_›,w.c,by exact JF (And.right ‹_›) ‹_›,w.d,by rw[T0];exact g.f,λZ b0=>?_⟩
 induction t<;>try exact g.r Z b0
 rename_i w0
 obtain⟨X,o2⟩:=Q
 unfold df at b0
 rcases tG.mp b0 with h|h
 ·exact g.r Z h
 ·have:=g.f;rw[cP.mp h];exact⟨pO this.1 X,bQ (gy this.2 o2) (by decide)⟩
theorem UA{J E:List Int}{L F:List Nat}(h:R.e≠R.h):gV (gV C R J L) R E F=gV C R E F:=by
 unfold gV
 rw[qJ (C:=(C.d R.e _)) h.symm,iX,iX]
theorem UB(E:b 163=a (bg R)):∀(e0:List cx)(s:List Int)(x:List Nat)(C:j),(∀t∈e0,cx.b t)->gX s x e0.length->bu C R i0 (s.map bi) (x.map bc) iF->
 bX (dT (aq (n+8)) (.m (.h 27) [.b 163,.b 191]) 191 [163] [] b) (e0.map ec) C=.b ((gn s x e0).map aP.c) (gV C R (gJ s e0) (ju x e0)):=by
 intro J
 induction J with
 |nil=>
  intro s x C _ _ m
  show au.b [] C=au.b [] (gV C R s x)
  rw[lG m]
 |cons t e0 U=>
  intro s x C g0 g m
  have e:=SN (n:=n) g.u m t (g0 t cg)
  have d:bu (gV C R (df s t) (ee x t)) R i0 ((df s t).map bi) ((ee x t).map bc) iF:=(m.g0 _).k0 _
  have Y:=U (df s t) (ee x t) _ (λt a0=>g0 t (ge _ a0)) (g.i (g0 t cg)) d
  rw[UA m.k.s]at Y
  exact nz (o:=a (oY s x t).c) (by rw[mi];simp[vu,jb,E,e]) Y
theorem UC(e0:List cx)(g0:∀t∈e0,cx.b t)(g:gX s x e0.length)(k0:e0.length<=1000)(m:bu C R i0 (s.map bi) (x.map bc) iF):
 aq (n+9) (.g 28) [bg R,.k (e0.map ec)] C=.b (.k ((gn s x e0).map aP.c)) (gV C R (gJ s e0) (ju x e0)):=by
 refine(bh rfl rfl).trans ?_
 have e:=λb h=>UB (n:=n) (b:=b) h e0 s x C g0 g m
 simp[DZ]
 rw[e _ (by simp)]
 simp[gI k0]
theorem UE(E:b 39=a (cS m c1))(M0:m≠c1):∀(e0:List cx)(s:List Int)(x:List Nat)(C:j),(∀t∈e0,cx.b t)->gX s x e0.length->C.c m=a (.c (s.map bi))->C.c c1=a (.c (x.map bc))->m<C.b->c1<C.b->
 ∃O,bX (dT (aq (n+2)) (.m (.h 21) [.b 39,.b 191]) 191 [39] [] b) (e0.map ec) C=.b ((gn s x e0).map aP.c) O/\aW [m,c1] C O/\O.c m=a (.c ((gJ s e0).map bi))/\O.c c1=a (.c ((ju x e0).map bc)):=by
 intro J
 induction J with
 |nil=>
  intro s x C _ _ F g1 _ _
  exact(ix C rfl aW.d F g1)
 |cons t e0 U=>
  intro s x C g0 g F g1 k0 l1
  refine rE (Td (n:=n) g.u F g1 k0 l1 M0 t (g0 t cg)) λx0 e o I a1=>?_
  refine rE (U (df s t) (ee x t) x0 (λt a0=>g0 t (ge _ a0)) (g.i (g0 t cg)) I a1 (aM k0 o.b) (aM l1 o.b)) λi e2 o2 q0 b1=>?_
  exact(ix i (nz (o:=a (oY s x t).c) (by rw[mi];simp[vu,jb,E,e]) e2) (o.trans o2) q0 b1)
theorem gX.y:∀(e0:List cx)(s:List Int)(x:List Nat),(∀t∈e0,cx.b t)->gX s x e0.length->gX (gJ s e0) (ju x e0) 0:=by
 intro J
 induction J with
 |nil=>
  intro _ _ _ g
  exact g
 |cons t e0 U=>
  intro _ _ g0 g
  exact U _ _ (λt a0=>g0 t (ge _ a0)) (g.i (g0 t cg))
theorem UF:∀(e0:List cx)(s:List Int),s.length<=(gJ s e0).length:=by
 intro J
 induction J with
 |nil=>
  intro _
  exact bS _
 |cons _ e0 U=>
  intro _
  exact az Ao.1 (U _)
noncomputable def aP.h(M0:Nat)(t:aP):Prop:=match t with
 |.f I=>I<128
 |.e w S y _=>0<=S/\S<=200/\((w=0/\y=0/\S<M0)\/(w=5/\0<=y/\y<=6))
theorem UG(g:gX s x (q+1))(Q:t.b){M0:Nat}(J:(df s t).length<=M0):(oY s x t).h M0:=by
 have E:=g.d
 have N:=g.c
 have h4:=g.e
 have S:=Ao (s:=s) (t:=t)
 induction t with
 |e I=>show(if I=72 then 70 else I)<128;rcases Q with rfl|rfl|rfl<;>decide
 |g i B=>refine ol (Q) λX o2 v o4=>?_;exact⟨by exact pO (pO (bQ X o2) X) (Xr (bQ (bQ X o2) (by decide)) (BB v)),by exact bQ (gy (gy (gz _) o2) (wx (wY o4 _) (by decide))) (by decide),aL ⟨rfl,rfl,by exact fg (bQ (gy (gy (gz _) o2) (wx (wY o4 _) (by decide))) (by decide:_<=(7:Int))) (iI.mpr (aM (aM (aM (by decide) E) S.1) J))⟩⟩
 |d w=>
  have:(df s (.d w)).length=s.length+1:=by unfold df;simp
  exact⟨by exact ip _,by exact dO.mpr (az (az (dp _ _) N) (by decide)),aL ⟨rfl,rfl,by exact iI.mpr (aM (aM (fM _) (bw this.symm)) J)⟩⟩
 |h i=>obtain⟨X,o2⟩:=Q;exact⟨by exact bQ (by decide) (gy (gz _) (wx X (by decide))),by exact bQ (gy (gz _) (wx o2 (by decide))) (by decide),aI ⟨rfl,by decide,by decide⟩⟩
 |k i=>obtain⟨X,o2⟩:=Q;exact⟨by exact BB ‹_›,by exact bQ (wY o2 _) (by decide),aI ⟨rfl,by exact BB (bQ o2 (by decide)),by exact bQ (Int.sub_le_sub_left X _) (by decide)⟩⟩
 |l=>exact⟨by exact ip _,by exact dO.mpr (az (az (dp _ _) h4) (by decide)),aI ⟨rfl,by decide,by decide⟩⟩
 |o=>exact⟨by decide,by decide,aI ⟨rfl,by decide,by decide⟩⟩
 |p=>exact⟨by decide,by decide,aI ⟨rfl,by decide,by decide⟩⟩
 |f=>exact⟨by decide,by decide,aL ⟨rfl,rfl,by exact iI.mpr (aM (aM (aM (by decide) E) S.1) J)⟩⟩
 |m=>exact⟨by decide,by decide,aL ⟨rfl,rfl,by exact iI.mpr (aM (aM (aM (by decide) E) S.1) J)⟩⟩
 |n=>exact⟨by decide,by decide,aL ⟨rfl,rfl,by exact iI.mpr (aM (aM (aM (by decide) E) S.1) J)⟩⟩
theorem HP:∀(e0:List cx)(s:List Int)(x:List Nat),(∀t∈e0,cx.b t)->gX s x e0.length->∀H∈gn s x e0,H.h (gJ s e0).length:=by
 intro J
 induction J with
 |nil=>
  intro _ _ _ _ H h
  exact(nomatch h)
 |cons t e0 U=>
  intro s x g0 g H h
  rcases iw.mp (show H∈oY s x t::gn (df s t) (ee x t) e0 from h)with rfl|h
  ·exact UG g (g0 t cg) (UF e0 (df s t))
  ·exact U _ _ (λt a0=>g0 t (ge _ a0)) (g.i (g0 t cg)) H h
theorem Ap:∀(e0:List cx)(s:List Int)(x:List Nat),(gn s x e0).length=e0.length:=by
 intro J
 induction J with
 |nil=>
  intro _ _
  exact rfl
 |cons _ e0 U=>
  intro _ _
  exact congrArg (·+1) (U _ _)
theorem aP.h.c{M0:Nat}{t:aP}(h:t.h M0):t.g:=by
 induction t with
 |f I=>trivial
 |e w S y d=>exact h.2.2.imp (λZ=>⟨Z.1,Z.2.1⟩) id
end
theorem cH.g0{g A:Nat}{C:j}{r:Nat}{H:D}(J:cH g C r H)(h:g<=A):cH A C r H:=by
 refine aA (J.o) λq S p=>?_
 exact⟨aM J.U h,q,aM S h,p⟩
noncomputable def mq(M0:Nat)(T:A):Prop:=(∃I,I<128/\T=.c [I])\/∃w0 S y d,T=bt w0 S y (.e (dW (cb.q d)))/\d.z/\0<=S/\S<=200/\((w0=0/\y=0)\/(w0=5/\0<=y/\y<=6))
theorem UH{M0:Nat}{H:D}{t:aP}{T:A}(q0:ml H)(F0:t.h M0)(h:cZ H t=a T):((∃I,I<128/\T=.c [I])\/∃w0 S y,T=bt w0 S y (.e [])/\0<=S/\S<=200/\((w0=0/\y=0)\/(w0=5/\0<=y/\y<=6))):=by
 obtain⟨I,Q,y,m0⟩:=H
 induction t with
 |f d=>induction m0<;>first|(cases h;done)|((replace h:=bn h;subst h);exact aL (aw d F0 rfl))
 |e w S n d=>
  refine kr (F0) λn0 E N=>?_
  have r:Q=af->y=ae\/y=a 1\/y=a 2\/y=a 4:=λe=>by subst e;exact q0
  have L0:∀m0,m0≠dH.f->cZ ⟨I,Q,y,m0⟩ (.e w S n d)=a T->∃w0 S y,T=bt w0 S y (.e [])/\0<=S/\S<=200/\((w0=0/\y=0)\/(w0=5/\0<=y/\y<=6)):=λm0 D0 h=>by
   unfold cZ at h
   induction m0 with
   |f=>exact absurd rfl D0
   |e=>
    dsimp only at h
    split at h
    ·rename_i B0
     induction Q with
     |false=>(replace h:=bn h;subst h);exact(dY _ _ _ rfl n0 E (aL ⟨rfl,rfl⟩))
     |true=>
      have z:w=5:=of_decide_eq_true B0.symm
      induction y with
      |none=>(replace h:=bn h;subst h);exact(dY _ _ _ rfl n0 E (aI ⟨rfl,BI z N⟩))
      |some i=>
       dsimp only at h
       clear q0 F0 N D0 B0 z;split at h
       ·exact bD h
       ·replace h:=bn h;subst h
        clear h;refine(dY _ _ _ rfl n0 E (aI ⟨rfl,?_⟩))
        clear n0 E;rcases r rfl with e|e|e|e<;>cases e<;>decide
    ·exact bD h
   |b Y=>
    dsimp only at h
    split at h
    ·rename_i B0
     induction Q with
     |false=>(replace h:=bn h;subst h);exact(dY _ _ _ rfl n0 E (aL ⟨rfl,rfl⟩))
     |true=>
      have z:w=5:=of_decide_eq_true B0.symm
      induction y with
      |none=>(replace h:=bn h;subst h);exact(dY _ _ _ rfl n0 E (aI ⟨rfl,BI z N⟩))
      |some i=>
       clear q0 F0 N D0 B0 z;replace h:=bn h;subst h
       clear h;refine(dY _ _ _ rfl n0 E (aI ⟨rfl,?_⟩))
       clear n0 E;rcases r rfl with e|e|e|e<;>cases e<;>decide
    ·exact bD h
  clear q0 F0 n0 E N r;induction m0 with
  |f=>exact bD h
  |e=>exact aI (L0 .e (λe=>by cases e) h)
  |b Y=>exact aI (L0 (.b Y) (λe=>by cases e) h)
theorem UI{x:Int}{d0:Bool}{Y:fK}{s:List (Int×Option Int)}(z0:fK.e d0 Y)(i:x.natAbs<=1000)(h:fX x Y.b=a s):∃d:cb,s=d.q/\d.z:=by
 induction Y with
 |f t0 f0=>
  refine kr (z0) λE N h3=>?_
  unfold fK.b fX fX at h
  generalize q:gW x t0 f0=x9;induction x9 with
  |none=>rw[q]at h;cases h
  |some T=>
   rw[q]at h;cases h
   refine⟨.r t0 T,rfl,FQ E N,λZ b0=>?_⟩
   subst b0
   induction f0 with
   |c=>cases q
   |d S=>
    have w:1<=S/\S<=3:=h3
    unfold gW zY at q
    dsimp only at q
    split at q
    ·exact bD q
    ·cases q;exact az (sL (a0:=3) w.1 w.2) (by decide)
   |b=>
    unfold gW zY at q
    dsimp only at q
    split at q
    ·exact bD q
    ·cases q;exact i
 |g t0=>
  have u:fK.e d0 (.g t0):=z0
  replace h:=bn h;subst h
  exact(aw (.t t0) rfl (by have:-1<=t0/\t0<=1:=z0;exact FQ this.1 this.2))
theorem UJ{M0:Nat}{x:Int}{d0:Bool}{H:D}{t:aP}{m0 T:A}(l0:D.h d0 H)(F0:t.h M0)(i:x.natAbs<=1000)(D0:cZ H t=a m0)(h0:dM x H m0=a T):mq M0 T:=by
 have W:=UH l0.1 F0 D0
 have p:m0=T->mq M0 T:=λe=>by
  clear l0 F0 i D0 h0;subst e
  rcases W with h|⟨w0,S,y,h,r⟩
  ·exact aL h
  ·exact aI (rC w0 S y (.u) h trivial r)
 clear F0;generalize q:H.c=x9;induction x9 with
 |e=>exact p (by unfold dM at h0;rw[q]at h0;exact bn h0)
 |f=>exact p (by unfold dM at h0;rw[q]at h0;exact bn h0)
 |b Y=>
  clear p;refine rF (Aa D0 (by rw[q];exact λe=>nomatch e)) λw S y V0=>?_;obtain rfl:=V0
  clear D0;rcases W with⟨_,_,h⟩|⟨w0,I0,Z,h,r⟩
  ·clear l0 i h0 q Y;cases h
  ·cases h
   have N:fK.e d0 Y:=by have:=l0.2;rw[q]at this;exact this
   have E:((fX x Y.b).map λs=>A.e [.b w,.b S,.b y,.e (dW s)])=a T:=by unfold dM at h0;rw[q]at h0;exact h0
   generalize q2:fX x Y.b=x9;induction x9 with
   |none=>rw[q2]at E;cases E
   |some s=>
    rw[q2]at E;cases E
    refine aA (UI N i q2) λd J0 z0=>?_;obtain rfl:=J0
    clear N q2;exact aI (rC w S y d rfl z0 r)
theorem UK{s:List Int}{X:List A}(h:∀Z∈s,0<=Z/\Z<=100):(qO s X).natAbs<=1000:=by
 have z:(0:Int).natAbs<=1000:=by decide
 have r0:∀S:Int,(s.getD S.toNat 0).natAbs<=1000:=λS=>by
  rw[Xo]
  generalize q:s[S.toNat]?=x9;induction x9 with
  |none=>exact z
  |some Z=>have:=h Z (eH q);exact az (ly (a0:=100) this.1 this.2) (by decide)
 clear h
 induction X using bL with
 |nil=>exact z
 |cons T _=>induction T using A.casesOn with
  |e l=>induction l using bL with
   |nil=>exact z
   |cons Z l=>induction Z using A.casesOn with
    |b i=>induction i with
     |ofNat n=>induction n using kX with
      |zero=>induction l using bL with
       |nil=>exact z
       |cons y _=>induction y using A.casesOn with
        |b S=>exact r0 S
        |_=>exact z
      |succ _=>exact z
     |negSucc _=>exact z
    |_=>exact z
  |_=>exact z
theorem jO.d{M0:Nat}{s:List Int}{k:List D}{e0:List aP}{M:List A}(i:jO s k e0 M)(l0:∀H∈k,∃d0,D.h d0 H)(F0:∀t∈e0,t.h M0)(H0:∀Z∈s,0<=Z/\Z<=100):M.length=k.length/\∀d0∈M,mq M0 d0:=by
 refine pS (i) λk0 X E N=>?_
 have l1:X.length=k.length:=by
  have:=congrArg qZ E
  unfold iH at this
  rw[mD,bK]at this;lia
 have l2:M.length=k.length:=by
  have:=congrArg qZ N
  unfold fY at this
  rw[mD,bK]at this;lia
 refine⟨l2,λd0 K0=>?_⟩
 obtain⟨B,P,rfl⟩:=Xt K0
 have s1:k[B]?=a (k[B]'(aM P (bw l2))):=eG (aM P (bw l2))
 have t1:e0[B]?=a (e0[B]'(aM (aM P (bw l2)) (bw k0))):=eG (aM (aM P (bw l2)) (bw k0))
 have r:X[B]?=a (X[B]'(aM (aM P (bw l2)) (bw l1.symm))):=eG (aM (aM P (bw l2)) (bw l1.symm))
 refine aA (qQ E (jr s1 t1)) λZ e1 e2=>?_
 replace e2:=be r e2;subst e2
 refine aA (qQ N (jr s1 r)) λy e3 e4=>?_
 replace e4:=be (eG P) e4;subst e4
 obtain⟨S,h⟩:=l0 _ (tH (l:=k) (n:=B) (aM P (bw l2)))
 exact UJ h (F0 _ (tH _)) (UK H0) e1 e3
theorem UL{I:Nat}:∀(k:List D)(M:List A),aX (bG k M) [I]=ae\/∃d0,d0∈M/\aX (bG k M) [I]=a d0:=by
 intro J
 induction J with
 |nil=>
  intro _
  exact aL rfl
 |cons H k U=>
  intro n
  induction n using bL with
  |nil=>
   exact aL rfl
  |cons d0 M=>
   by_cases h:H.b=I
   ·exact aI (aw d0 cg (by unfold aX bG;simp[h]))
   ·have e:aX (bG (H::k) (d0::M)) [I]=aX (bG k M) [I]:=by unfold aX bG;simp[h]
    rw[e]
    rcases U M with h|⟨Z,b0,h⟩
    ·exact aL h
    ·exact aI (aw Z (ge _ b0) h)
theorem UM{M0:Nat}{k:List D}{M:List A}(h:∀d0∈M,mq M0 d0):Aj (bG k M):=λI=>by
 rcases UL (I:=I) k M with e|⟨d0,K0,e⟩
 ·exact aL e
 ·rw[e]
  rcases h d0 K0 with⟨Z,_,rfl⟩|⟨w0,S,y,d,rfl,z0,r1,s,l⟩
  ·exact aI (aL ⟨_,rfl⟩)
  ·exact aI (aI (iN w0 S y d rfl z0 r1 ⟨by exact bQ s (by decide),l⟩))
theorem mq.b{M0:Nat}{T:A}(h:mq M0 T):A.t 4 T=af:=by
 rcases h with⟨I,e0,rfl⟩|⟨w0,S,y,d,rfl,_⟩
 ·show([I]:List Nat).all (λI=>ba (I<128))=af
  simp[e0]
 ·induction d with
  |u=>rfl
  |r t0 f0=>induction f0<;>rfl
  |t t0=>rfl
mutual
theorem Aq:∀(n:Nat)(T:A),A.t n T=af->A.w T T=af
 |_,.m,_=>rfl
 |_,.o p,_=>by induction p<;>rfl
 |_,.b i,_=>by show(i==i)=af;simp
 |_,.c H,_=>by show ba (H=H)=af;simp
 |0,.e _,h=>by exact gR h
 |n+1,.e l,h=>Ar n l h
 |0,.k _,h=>by exact gR h
 |n+1,.k l,h=>Ar n l h
 |_,.d _,h=>by exact gR h
 |_,.h _ _,h=>by exact gR h
 |_,.g _,h=>by exact gR h
 |_,.q _,h=>by exact gR h
theorem Ar:∀(n:Nat)(l:List A),A.u n l=af->A.z l l=af
 |_,[],_=>rfl
 |n,T::X,h=>by
  have u:(A.t n T&&A.u n X)=af:=h
  rw[pp]at u
  show(A.w T T&&A.z X X)=af
  rw[Aq n T u.1,Ar n X u.2];rfl
end
theorem UN(s:List Int):A.u 4 (s.map bi)=af:=by
 induction s with
 |nil=>rfl
 |cons Z s Y=>show(af&&A.u 4 (s.map bi))=af;rw[Y];rfl
section
variable{n:Nat}{C:j}{U g m c1 f r0:Nat}{s:List Int}{x:List Nat}{k:List D}{M:List A}
theorem UO(f:∀I∈x,I<128):A.t 6 (.e [.k (s.map bi),.k (x.map bc)])=af:=by
 show(A.u 4 (s.map bi)&&(A.u 4 (x.map bc)&&af))=af
 rw[UN,GL f];rfl
theorem sX{S p:Nat}{l w:List A}(n0:C.c S=a (.c l))(E:C.c p=a (.c w)):fQ C (.e [.d S,.d p])=.e [.k l,.k w]:=by
 show A.e [jV C (.d S),jV C (.d p)]=_
 have e:∀r l,C.c r=a (.c l)->jV C (.d r)=.k l:=λr l h=>by
  show(match C.c r with|some (.c l)=>A.k l|_=>.d r)=_
  rw[h]
 rw[e _ _ n0,e _ _ E]
theorem As{Z y:List A}(b0:fQ C (.e Z)=.e [.k (s.map bi),.k (x.map bc)])(E0:fQ C (.e y)=.e [.k (s.map bi),.k (x.map bc)])(f:∀I∈x,I<128):ji C (.e Z) (.e y)=a af:=by
 have p0:=UO (s:=s) f
 show(if A.t 6 (fQ C (.e Z))&&A.t 6 (fQ C (.e y))then a (A.w (fQ C (.e Z)) (fQ C (.e y)))else ae)=_
 rw[b0,E0,p0,Aq _ _ p0];rfl
theorem HQ{M0:Nat}:∀(k:List D)(M:List A),(∀d0∈M,mq M0 d0)->∀V∈bG k M,mq M0 V.2:=by
 intro J
 induction J with
 |nil=>
  intro _ _ V h
  cases h
 |cons H k U=>
  intro n
  induction n using bL with
  |nil=>
   intro _ V h
   cases h
  |cons d0 M=>
   intro h0 V h
   rcases iw.mp (show V∈([H.b],d0)::bG k M from h)with rfl|h
   ·exact h0 d0 cg
   ·exact U M (λd0 a0=>h0 d0 (ge _ a0)) V h
theorem UP:∀(k:List D)(M:List A),(k.map (·.b)).Nodup->∀V∈bG k M,aX (bG k M) V.1=a V.2:=by
 intro J
 induction J with
 |nil=>
  intro _ _ V h
  cases h
 |cons H k U=>
  intro n
  induction n using bL with
  |nil=>
   intro _ V h
   cases h
  |cons d0 M=>
   intro y0 V h
   have R:=tu.mp y0
   rcases iw.mp (show V∈([H.b],d0)::bG k M from h)with rfl|h
   ·unfold aX bG;simp
   ·refine aA (zV h) λy E0 e=>?_
    have M0:¬[H.b]=V.1:=λP0=>R.1 (by rw[e]at P0;injection P0 with P0;exact iq.mpr (aw y E0 P0.symm))
    have Y:=U M R.2 V h
    unfold aX bG at Y⊢
    simpa [M0]using Y
theorem UQ{M0:Nat}(B0:C.c f=a (.b (bG k M)))(w0:C.c r0=a (.b (bG k M)))(y0:(k.map (·.b)).Nodup)(h0:∀d0∈M,mq M0 d0):ji C (.d f) (.d r0)=a af:=by
 have p0:(bG k M).all (λV=>A.t 4 V.2)=af:=gY.mpr λV p0=>(HQ k M h0 V p0).b
 have C0:rJ (bG k M) (bG k M)=af:=by
  unfold rJ
  rw[pp]
  refine⟨by simp,gY.mpr λV p0=>?_⟩
  rw[UP k M y0 V p0]
  exact Aq 4 _ (HQ k M h0 V p0).b
 show(match C.c f,C.c r0 with
  |some (.b w),a (.b l)=>if w.all (λV=>A.t 4 V.2)&&l.all (λV=>A.t 4 V.2)then a (rJ w l)else ae
  |some (.c w),a (.c l)=>if A.u 4 w&&A.u 4 l then a (A.z w l)else ae
  |_,_=>ae)=_
 rw[B0,w0]
 dsimp only
 rw[p0,C0];rfl
end
section
variable{n:Nat}{c:v}{b:ah}{C x0 i h:j}{R:br}{i0 F:List (am×A)}{l w:List A}{V G p m c1 g0 u o r:Nat}{s:List Int}{x:List Nat}{z:List Nat}{k:List D}{e0:List cx}{d:List (am×A)}{X:List Int}
theorem HR{e a0:ar}{S:ak}{q:Nat}{l u:List A}{z:Int}(E:ag c (.n e S) b C=.b (.d r) x0)(N:ag c a0 b C=.b (.e u) i)(w0:C.c r=a (.c l))(L:u[q]?=a (.b z))(n0:0<=z)(k0:l.length<=1000):bb c (.r e S a0 q) b C=.b (.b,b) (C.d r (.c (l.take z.toNat))):=by
 show(match ag c (.n e S) b C,ag c a0 b C with
  |.b (.d r) _,.b (.e u) _=>(match C.c r,u[q]? with
     |some (.c l),a (.b n)=>if 0<=n/\l.length<=1000 then au.b (bA.b,b) (pY C r l n)else .d
     |_,_=>.d)
  |_,_=>.d)=_
 rw[E,N];dsimp only;rw[w0,L];dsimp only;rw[if_pos ⟨n0,k0⟩];rfl
theorem UR(m:bu C R i0 l w F)(k0:l.length<=1000)(q0:w.length<=1000):aq (n+2) (.g 159) [bg R,.e [.b 8,.b 11]] C=.b .m ((C.d R.e (.c (l.take 8))).d R.h (.c (w.take 11))):=by
 have c:=m.g0 (l.take 8)
 have e:aq (n+1) (.g 50) [.h 8 R.p,.e [.b 8,.b 11]] C=.b .m ((C.d R.e (.c (l.take 8))).d R.h (.c (w.take 11))):=by
  refine(bh rfl rfl).trans ?_
  show aq.leave (aO _ yg _ _)=_
  unfold yg
  rw[sN,HR (r:=R.e) (l:=l) (u:=[.b 8,.b 11]) (z:=8) (by simp[m.k.t];rfl) (by simp;rfl) m.k.d rfl (by decide) k0,Gm,sN,show l.take (8:Int).toNat=l.take 8 from rfl,HR (r:=R.h) (l:=w) (u:=[.b 8,.b 11]) (z:=11) (by simp[c.k.u];rfl) (by simp;rfl) c.k.f rfl (by decide) q0]
  rfl
 refine(bh rfl rfl).trans ?_
 simp[DY,m.t,e]
theorem HS(J:im h V G p z k){o0:List aP}(h0:∀t∈o0,t.h s.length):sU s k o0:=λ⟨H,Y,t0,l0,D0,L⟩=>by
 refine aA (J.u H l0) λd0 J0 h3=>?_;obtain⟨_,N⟩:=J0
 rw[D0]at N
 have K0:d0=af:=by
  induction Y with
  |f B1 f0=>
   have:(t0,fe.b)=(B1,f0):=cP.mp L
   cases this
   exact N.2.2
  |g B1=>
   have:(t0,fe.b)∈[(1,fe.d 2),(B1,fe.c)]:=L
   simp at this
 refine dP (h3 K0) λv0 j X C=>?_
 induction k using bL with
 |nil=>cases j
 |cons Z r=>
  cases j
  refine(gM v0 r rfl ?_ C (λB T F0 W=>?_))
  ·have:=J.w
   rw[dX,fi,IA]at this
   exact(List.cons.inj this).1
  ·have f0:=h0 B (eH F0)
   obtain⟨I,Q,y,m0⟩:=v0
   have E:m0=.e:=C
   have F:Q=av:=X
   subst E;subst F
   induction B with
   |f d=>cases W
   |e w0 S n d=>
    refine kr (f0) λR S1 m2=>?_
    unfold cZ at W
    dsimp only at W
    split at W
    ·rename_i B0
     cases W
     have h5:¬w0=5:=λe=>by rw[e]at B0;cases B0
     rcases m2 with⟨_,_,i3⟩|⟨i3,_⟩
     ·exact(cW S rfl R i3)
     ·exact absurd i3 h5
    ·cases W
structure At(h:j)(b:ah)(R:br)(i0:List (am×A))(V G p m c1 g0 u o:Nat)(X s:List Int)(x:List Nat)(z:List Nat)(k:List D)(e0:List cx)(d:List (am×A)):Prop where
 P:cF X
 f:im h V G p z k
 Y:1<=k.length
 N:k.length<=4
 e:eh h R i0 iF V m c1 X s x (s.map bi) (x.map bc)
 g:gX s x e0.length
 t0:s.length=8
 u0:x.length=11
 q:∀t∈e0,cx.b t
 L:e0.length<=4
 a0:∀(B r:Nat)(H:D),z[B]?=a r->k[B]?=a H->cH o h r H
 b0:∀Z∈[R.e,R.h,m,c1],o<=Z
 M:o<=h.b
 c0:h.c g0=a (.b d)
 m0:aX d (cL 185)=a (.d u)
 d0:h.c u=a (.b (qS k z))
 y:∀Z∈R.m,Z<h.b
 O:V<h.b
 Q:G<h.b
 E:m<h.b
 I:c1<h.b
 n0:g0<h.b
 f0:u<h.b
 S:G∉R.m
 T:G≠m
 h0:G≠c1
 j0:b 163=a (bg R)
 U:b 39=a (cS m c1)
 k0:b 185=a (.d G)
 o0:b 195=a (.h 14 g0)
 p0:b 192=a (.k (e0.map ec))
 q0:b 35=a (.e [.b 8,.b 11])
 r0:b 153=a (.d V)
 s0:b 129=a (.h 8 R.p)
theorem US(k0:z.length=k.length)(m0:h.c G=a (.c (z.map (.h 13))))(F0:∀(B r:Nat)(H:D),z[B]?=a r->k[B]?=a H->cH o h r H):bX (dT c (.n (.b 184) 133) 184 [] [] b) (z.map (.h 13)) (h.lock G)=.b (eP k) (h.lock G):=by
 have e:=HM (C:=h.lock G) (f:=dT c (.n (.b 184) 133) 184 [] [] b) (r0:=λH _=>.c [H.b]) z k k0 λB r H E N=>by
  refine dP ((F0 B r H E N).o) λq _ x0 _=>?_
  rw[mi]
  simp[jb,ki (I:=13) (S:=133) (T:=.c [H.b]) ((kQ (ja x0 m0 λe=>nomatch e)).trans x0) (by simp) rfl]
 rw[e]
 congr 1
 clear e F0 m0
 induction k generalizing z with
 |nil=>induction z using bL<;>rfl
 |cons H k Y=>
  induction z using bL with
  |nil=>cases k0
  |cons r z=>rw[JA,Y (tD k0)];rfl
end
section
variable{n:Nat}{c:v}{b:ah}{C Q h:j}{R:br}{i0 F:List (am×A)}{l w:List A}{V G p m c1 g0 u o r:Nat}{s X:List Int}{x:List Nat}{z:List Nat}{k:List D}{e0:List cx}{d:List (am×A)}
theorem Au{S p:A}{Z:Bool}(h:ji C S p=a Z):cC C .c S p=a (!Z):=by
 show(ji C S p).map (!·)=_
 rw[h];rfl
theorem UT{S p:A}{Z:Bool}(h:ji C S p=a Z):cC C .b S p=a Z:=h
structure UU(b:ah)(R:br)(V m c1:Nat):Prop where
 i:b 153=a (.d V)
 e:b 163=a (bg R)
 f:b 39=a (cS m c1)
 q:b 80=a (.d R.o)
 g:b 129=a (.h 8 R.p)
 t:b 35=a (.e [.b 8,.b 11])
noncomputable def Av:List aT:=[.c (.F [.H (.m (.h 22) [.b 153,.b 163,.b 39,.b 80]),.g .c (.k [.n (.b 129) 139,.n (.b 129) 41]) (.b 39)]) [.b (.c (.o av))] []]
theorem UV(c0:eh Q R i0 F V m c1 X s x (s.map bi) (x.map bc))(f:∀I∈x,I<128):ji Q (.e [.d R.e,.d R.h]) (cS m c1)=a af:=
 As (sX c0.g.k.d c0.g.k.f) (sX c0.t c0.u) f
theorem UW(c0:eh Q R i0 F V m c1 X s x (s.map bi) (x.map bc))(s0:cF X)(g:nP s x)(g0:Aj F)(h8:8<=s.length)(T:11<=x.length)(U:UU b R V m c1):
 ∃O,aq.leave (aO (aq (n+10)) (cw.drop 23) b Q)=.b (.o af) O:=by
 have e1:aO (aq (n+10)) (cw.drop 23) b Q=fU (aO (aq (n+10)) (cw.drop 24)) (ch (bf (aq (n+10)) (.b 194) Av) (dj 3) b Q):=by
  have e:cw.drop 23=.k (.b 194) .c (.c (.b 3)) Av::cw.drop 24:=rfl
  rw[e,sN,RH,Go,Gl,eN (i:=3) (by decide) (by decide)]
  rfl
 rw[e1]
 refine qE (λZ=>∃O,aq.leave (fU (aO (aq (n+10)) (cw.drop 24)) Z)=.b (.o af) O) 3
  (λB o0 Q=>∃X s x,eh Q R i0 F V m c1 X s x (s.map bi) (x.map bc)/\cF X/\nP s x/\8<=s.length/\11<=x.length/\(∀y,y≠194->o0 y=b y)) (dY X s x c0 s0 g ⟨h8,T,λ_ _=>rfl⟩) ?_ ?_
 ·rintro B i o0 Q f0 P p;refine pV p λX s x c0 s0 g h8 T k0=>?_;clear p
  refine xc (TS (n:=n+3) c0 s0 g g0) λd i1 z O h1=>?_;refine JK h1 λv e2 C G H0 f _=>?_;clear h1
  have a1:=(k0 153 (by decide)).trans U.i
  have a2:=(k0 163 (by decide)).trans U.e
  have a3:=(k0 39 (by decide)).trans U.f
  have a4:=(k0 80 (by decide)).trans U.q
  have a5:=(k0 129 (by decide)).trans U.g
  have e3:=Au (UV C G.b)
  refine(dK (o0.c 194 (.b i)) O (aL ?_) ⟨d,i1,z,C,v,G,by exact az h8 (bw H0.symm),by exact az T (bw f.symm),λy E0=>(mf E0).trans (k0 y E0)⟩)
  (apply jL (bE a1<|bE a2<|bE a3<|bE a4<|bE a5 jK);intro o0;simp[bf,Av,e2,C.g.k.t,C.g.k.u,e3])
 ·rintro o0 Q z1;refine pV z1 λX s x c0 s0 g h8 T k0=>?_;clear z1
  have a2:=(k0 163 (by decide)).trans U.e
  have a3:=(k0 39 (by decide)).trans U.f
  have a5:=(k0 129 (by decide)).trans U.g
  have r:=(k0 35 (by decide)).trans U.t
  have H:=g.c
  have k:=g.d
  have e2:=UR (n:=n+8) c0.g (by rw[bK];exact az H (by decide)) (by rw[bK];exact az k (by decide))
  rw[<-ry,<-ry]at e2
  have c:=(c0.U (s.take 8)).X (x.take 11)
  generalize(Q.d R.e (.c ((s.take 8).map bi))).d R.h (.c ((x.take 11).map bc))=E at e2 c
  have v0:fx E (.d m) ae (a 8)=a (.k ((s.take 8).map bi)):=by
   rw[vq c.t qH (ny (by decide) (by decide)) (by rw[bK];exact az H (by decide))]
   show a (A.k ((s.map bi).take 8))=_
   rw[ry]
  have s1:fx E (.d c1) ae (a 11)=a (.k ((x.take 11).map bc)):=by
   rw[vq c.u qH (ny (by decide) (by decide)) (by rw[bK];exact az k (by decide))]
   show a (A.k ((x.map bc).take 11))=_
   rw[ry]
  have e3:cC E .b (.e [.d R.e,.d R.h]) (.e [.k ((s.take 8).map bi),.k ((x.take 11).map bc)])=a af:=
   UT (As (sX c.g.k.d c.g.k.f) rfl λI e0=>g.b I (wX e0))
  have e4:=HO (n:=n+8) c.g (by rw[bK,jx];exact az (jR _ _) (by decide)) (by rw[bK,jx];exact az (jR _ _) (by decide))
  rw[bK,jx,bK,jx,my h8,my T]at e4
  have e5:cC E .b (.e [.b 8,.b 11]) (.e [.b 8,.b 11])=a af:=rfl
  refine⟨E,?_⟩
  generalize(s.take 8).map bi=h at v0 e3
  generalize(x.take 11).map bc=l at s1 e3
  have W:aq (n+10) (.g 187) [bg R] E=.b (.e [.b 8,.b 11]) E:=e4
  (apply jL (bE a2<|bE a3<|bE a5<|bE r jK);intro o0;simp[cw,e2,c.g.k.t,c.g.k.u,iV,v0,s1,e3,W,e5])
end
section
variable{n:Nat}{c:v}{b:ah}{C Q h:j}{R:br}{i0 F:List (am×A)}{l w:List A}{V G p m c1 g0 u o r:Nat}{s X:List Int}{x:List Nat}{z:List Nat}{k:List D}{e0:List cx}{d:List (am×A)}
def Aw(c:v)(y:ak)(h:List aT)(b:ah)(r:au A):au (bA×ah):=match r with
 |.b T O=>.b (.b,b.c y T) O
 |.g O=>aO (gQ c) h b O
 |.d=>.d
set_option smartUnfolding false in
@[simp]theorem G8{y:ak}{e:ar}{h:List aT}:bb c (.z (a y) e h) b C=Aw c y h b (ag c e b C):=rfl
@[simp]theorem I8{y:ak}{T:A}{h:List aT}:Aw c y h b (.b T C)=.b (.b,b.c y T) C:=rfl
@[simp]theorem J8{y:ak}{h:List aT}:Aw c y h b (.g C)=aO (gQ c) h b C:=rfl
@[simp]theorem K8{X:List A}:gQ c (.g 20) X C=c (.g 20) X C:=rfl
structure HT(h C:j)(b:ah)(R:br)(i0:List (am×A))(V m c1:Nat)(X J:List Int)(L:List Nat)(k:List D)(o0:List aP)(w:A):Prop where
 q:C.f=h.f
 t:h.b<=C.b
 e:∀Z,Z<h.b->Z∉[R.e,R.h,m,c1]->C.c Z=h.c Z
 g:bu C R i0 (J.map bi) (L.map bc) iF
 y:C.c m=a (.c (J.map bi))
 E:C.c c1=a (.c (L.map bc))
 H:b 29=a (.k (o0.map aP.c))
 I:b 57=a w
 i:(qP J k o0/\w=.m)\/∃M f,jO J k o0 M/\w=.d f/\h.b<=f/\f<C.b/\C.c f=a (.b (bG k M))
end
namespace wm
noncomputable def E0(n:Nat)(b:ah)(h:j)(R:br)(i0:List (am×A))(V G p m c1 g0 u o:Nat)(s X:List Int)(x z:List Nat)(k:List D)(e0:List cx)(d:List (am×A)):Prop:=∀(Y:At h b R i0 V G p m c1 g0 u o X s x z k e0 d),∃o0 C w,aO (aq (n+10)) ((cw.drop 18).take 2) b h=.b (.b,o0) C/\HT h C o0 R i0 V m c1 X (gJ s e0) (ju x e0) k (gn s x e0) w/\(∀y,y≠29->y≠57->o0 y=b y)
noncomputable def O0:Nat×ah×j×br×(List (am×A))×Nat×Nat×Nat×Nat×Nat×Nat×Nat×Nat×(List Int)×(List Int)×(List Nat)×(List Nat)×(List D)×(List cx)×(List (am×A))->Prop:=W λn=>W λb=>W λh=>W λR=>W λi0=>W λV=>W λG=>W λp=>W λm=>W λc1=>W λg0=>W λu=>W λo=>W λs=>W λX=>W λx=>W λz=>W λk=>W λe0=>λd=>E0 n b h R i0 V G p m c1 g0 u o s X x z k e0 d
def c0:=dQ (J (J (bY dZ (bY nA (J (J (J (J (J (J (J (J (J (J (J (J (J (J (J inferInstance))))))))))))))))))) O0
def n:Nat:=c0.1
def b:ah:=c0.2.1
def h:j:=c0.2.2.1
def R:br:=c0.2.2.2.1
def i0:List (am×A):=c0.2.2.2.2.1
def V:Nat:=c0.2.2.2.2.2.1
def G:Nat:=c0.2.2.2.2.2.2.1
def p:Nat:=c0.2.2.2.2.2.2.2.1
def m:Nat:=c0.2.2.2.2.2.2.2.2.1
def c1:Nat:=c0.2.2.2.2.2.2.2.2.2.1
def g0:Nat:=c0.2.2.2.2.2.2.2.2.2.2.1
def u:Nat:=c0.2.2.2.2.2.2.2.2.2.2.2.1
def o:Nat:=c0.2.2.2.2.2.2.2.2.2.2.2.2.1
def s:List Int:=c0.2.2.2.2.2.2.2.2.2.2.2.2.2.1
def X:List Int:=c0.2.2.2.2.2.2.2.2.2.2.2.2.2.2.1
def x:List Nat:=c0.2.2.2.2.2.2.2.2.2.2.2.2.2.2.2.1
def z:List Nat:=c0.2.2.2.2.2.2.2.2.2.2.2.2.2.2.2.2.1
def k:List D:=c0.2.2.2.2.2.2.2.2.2.2.2.2.2.2.2.2.2.1
def e0:List cx:=c0.2.2.2.2.2.2.2.2.2.2.2.2.2.2.2.2.2.2.1
def d:List (am×A):=c0.2.2.2.2.2.2.2.2.2.2.2.2.2.2.2.2.2.2.2
theorem Q0:E0 n b h R i0 V G p m c1 g0 u o s X x z k e0 d:=by
 intro Y
 have J:=UC (n:=n+1) e0 Y.q Y.g (by have:=Y.L;exact az this (by decide)) Y.e.g
 have L:bu (gV h R (gJ s e0) (ju x e0)) R i0 ((gJ s e0).map bi) ((ju x e0).map bc) iF:=(Y.e.g.g0 _).k0 _
 have c:aW [R.e,R.h] h (gV h R (gJ s e0) (ju x e0)):=(dg (et _)).trans (dg (gK _ (et _)))
 generalize gV h R (gJ s e0) (ju x e0)=N1 at J L c
 have q:R.e∈R.m/\R.h∈R.m:=⟨vQ,vR⟩
 have g:∀Z,Z∉R.m->Z∉[R.e,R.h]:=λZ b0 a0=>b0 (by
  rcases iw.mp a0 with h|h
  ·rw[h];exact q.1
  ·rw[cP.mp h];exact q.2)
 have I:=(c.c m Y.E (g m Y.e.q)).trans Y.e.t
 have a1:=(c.c c1 Y.I (g c1 Y.e.r)).trans Y.e.u
 refine rE (UE (n:=n+8) (b:=b.c 29 (.k ((gn s x e0).map aP.c))) (m:=m) (c1:=c1) (by exact Y.U) Y.e.L e0 s x N1 Y.q Y.g I a1 (aM Y.E c.b) (aM Y.I c.b)) λy1 U n0 q0 b1=>?_
 have O:∀Z,Z<h.b->Z∉[R.e,R.h,m,c1]->y1.c Z=h.c Z:=λZ b0 y0=>by
  rw[n0.c Z (aM b0 c.b) (gH (gH y0)),c.c Z b0 (cN (gG y0)<|cN (gG (gH y0)) ni)]
 have s0:G∉[R.e,R.h,m,c1]:=by
  have:=g G Y.S
  exact cN (gG this)<|cN (gG (gH this))<|cN Y.T<|cN Y.h0 ni
 have m0:=(O G Y.Q s0).trans Y.f.f
 have l:o<=y1.b:=az Y.M (az c.b n0.b)
 have M0:∀Z,Z<o->y1.c Z=h.c Z:=λZ b0=>O Z (aM b0 Y.M) λa0=>by have:=Y.b0 Z a0;lia
 have h0:=HP e0 s x Y.q Y.g
 have P:qN o y1 z k:=⟨Y.f.d,Y.N,Y.f.F,λB r H Z y=>(Y.a0 B r H Z y).L M0⟩
 have T:=gX.y e0 s x Y.q Y.g
 have:=Tm (n:=n+8) (C:=y1) (G:=G) (m:=m) (c1:=c1) (e0:=gn s x e0) (s:=gJ s e0) P l (λH a0=>by refine aA (Y.f.u H a0) λd0 S _=>?_;exact S.1) (λt a0=>(h0 t a0).c) m0 (aM Y.Q (az c.b n0.b)) Y.Y (by rw[Ap];have:=Y.L;exact az this (by decide))
  q0 (by have:=T.c;exact az ‹_› (by decide)) (aM Y.E (az c.b n0.b)) Y.T.symm (HS Y.f h0)
 have F:=az c.b n0.b
 have v:bu y1 R i0 ((gJ s e0).map bi) ((ju x e0).map bc) iF:=L.u λZ b0=>n0.c Z (aM (Y.y Z b0) c.b) λa0=>by
  rcases iw.mp a0 with h|h
  ·exact Y.e.q (h▸b0)
  ·exact Y.e.r ((cP.mp h)▸b0)
 have B0:∀Q,aW [] y1 Q->∀w,((qP (gJ s e0) k (gn s x e0)/\w=.m)\/∃M f,jO (gJ s e0) k (gn s x e0) M/\w=.d f/\h.b<=f/\f<Q.b/\Q.c f=a (.b (bG k M)))->
  aq (n+10) (.g 19) [cS m c1,.d G,.k ((gn s x e0).map aP.c)] y1=.b w Q->∃o0 C w,aO (aq (n+10)) ((cw.drop 18).take 2) b h=.b (.b,o0) C/\HT h C o0 R i0 V m c1 X (gJ s e0) (ju x e0) k (gn s x e0) w/\(∀y,y≠29->y≠57->o0 y=b y):=λQ j w z0 e=>by
  refine(jh ((b.c 29 (.k ((gn s x e0).map aP.c))).c 57 w) Q w ?_ ⟨by rw[j.g,n0.g,c.g],az F j.b,λZ b0 y0=>by rw[j.c Z (aM b0 F) cU];exact O Z b0 y0,v.u λZ b0=>j.c Z (aM (Y.y Z b0) F) cU,by rw[j.c m (aM Y.E F) cU];exact q0,by rw[j.c c1 (aM Y.I F) cU];exact b1,by rfl,by rfl,z0⟩ (λy E N=>by simp[-zw,mf,E,N]))
  have i:aq (n+10) (.g 28) [bg R,.k (e0.map ec)] h=.b (.k ((gn s x e0).map aP.c)) N1:=J
  have r0:e0.length<=1000:=by have:=Y.L;exact az this (by decide)
  have A0:(gn s x e0).length=e0.length:=Ap e0 s x
  generalize(gn s x e0).map aP.c=D at i U e⊢
  simp[cw,Y.j0,Y.p0,i,Y.U,Y.k0]
  rw[U]
  simp[gI r0,e]
 rcases this with⟨W,Q,e,j⟩|⟨M,w0,Q,f,e,j,t0,f2,f3⟩
 ·exact B0 Q j .m (aL ⟨W,rfl⟩) e
 ·exact B0 Q j (.d f) (aI (gN M f w0 rfl (az F t0) f2 f3)) e
end wm
theorem UX{n:Nat}{b:ah}{h:j}{R:br}{i0:List (am×A)}{V G p m c1 g0 u o:Nat}{s X:List Int}{x z:List Nat}{k:List D}{e0:List cx}{d:List (am×A)}:wm.E0 n b h R i0 V G p m c1 g0 u o s X x z k e0 d:=dS (Y:=wm.O0) wm.Q0 (n,b,h,R,i0,V,G,p,m,c1,g0,u,o,s,X,x,z,k,e0,d)
section
variable{n:Nat}{c:v}{b:ah}{C Q h:j}{R:br}{i0 F:List (am×A)}{l w:List A}{V G p m c1 g0 u o r:Nat}{s X:List Int}{x:List Nat}{z:List Nat}{k:List D}{e0:List cx}{d:List (am×A)}
end
section
variable{n:Nat}{c:v}{b:ah}{C Q h:j}{R:br}{i0 F:List (am×A)}{l w:List A}{V G p m c1 g0 u o r:Nat}{s X:List Int}{x:List Nat}{z:List Nat}{k:List D}{e0:List cx}{d:List (am×A)}
end
namespace wn
noncomputable def E0(n:Nat)(b:ah)(h:j)(R:br)(i0:List (am×A))(V G p m c1 g0 u o:Nat)(s X:List Int)(x z:List Nat)(k:List D)(e0:List cx)(d:List (am×A)):Prop:=∀(Y:At h b R i0 V G p m c1 g0 u o X s x z k e0 d),∃O,aq.leave (aO (aq (n+10)) (cw.drop 18) b h)=.b (.o af) O
noncomputable def O0:Nat×ah×j×br×(List (am×A))×Nat×Nat×Nat×Nat×Nat×Nat×Nat×Nat×(List Int)×(List Int)×(List Nat)×(List Nat)×(List D)×(List cx)×(List (am×A))->Prop:=W λn=>W λb=>W λh=>W λR=>W λi0=>W λV=>W λG=>W λp=>W λm=>W λc1=>W λg0=>W λu=>W λo=>W λs=>W λX=>W λx=>W λz=>W λk=>W λe0=>λd=>E0 n b h R i0 V G p m c1 g0 u o s X x z k e0 d
def c0:=dQ (J (J (bY dZ (bY nA (J (J (J (J (J (J (J (J (J (J (J (J (J (J (J inferInstance))))))))))))))))))) O0
def n:Nat:=c0.1
def b:ah:=c0.2.1
def h:j:=c0.2.2.1
def R:br:=c0.2.2.2.1
def i0:List (am×A):=c0.2.2.2.2.1
def V:Nat:=c0.2.2.2.2.2.1
def G:Nat:=c0.2.2.2.2.2.2.1
def p:Nat:=c0.2.2.2.2.2.2.2.1
def m:Nat:=c0.2.2.2.2.2.2.2.2.1
def c1:Nat:=c0.2.2.2.2.2.2.2.2.2.1
def g0:Nat:=c0.2.2.2.2.2.2.2.2.2.2.1
def u:Nat:=c0.2.2.2.2.2.2.2.2.2.2.2.1
def o:Nat:=c0.2.2.2.2.2.2.2.2.2.2.2.2.1
def s:List Int:=c0.2.2.2.2.2.2.2.2.2.2.2.2.2.1
def X:List Int:=c0.2.2.2.2.2.2.2.2.2.2.2.2.2.2.1
def x:List Nat:=c0.2.2.2.2.2.2.2.2.2.2.2.2.2.2.2.1
def z:List Nat:=c0.2.2.2.2.2.2.2.2.2.2.2.2.2.2.2.2.1
def k:List D:=c0.2.2.2.2.2.2.2.2.2.2.2.2.2.2.2.2.2.1
def e0:List cx:=c0.2.2.2.2.2.2.2.2.2.2.2.2.2.2.2.2.2.2.1
def d:List (am×A):=c0.2.2.2.2.2.2.2.2.2.2.2.2.2.2.2.2.2.2.2
theorem Q0:E0 n b h R i0 V G p m c1 g0 u o s X x z k e0 d:=by
 intro Y
 refine eJ (UX (n:=n) Y) λy0 Q w j i k0=>?_
 have z0:=gX.y e0 s x Y.q Y.g
 have h0:=HP e0 s x Y.q Y.g
 have l8:8<=(gJ s e0).length:=z0.d
 have V0:11<=(ju x e0).length:=z0.k
 have A0:(gn s x e0).length=e0.length:=Ap e0 s x
 have c9:=z0.c
 generalize gJ s e0=J at*
 generalize ju x e0=L at*
 generalize gn s x e0=o0 at*
 have f0:sU J k o0:=HS Y.f h0
 rw[fV 2 j,lP]
 have S0:∀Z q,h.c Z=a (.b q)->Z∉[R.e,R.h,m,c1]:=λZ q b0=>cN (ja b0 Y.e.g.k.d (λe=>nomatch e))<|cN (ja b0 Y.e.g.k.f (λe=>nomatch e))<|cN (ja b0 Y.e.t (λe=>nomatch e))<|cN (ja b0 Y.e.u (λe=>nomatch e)) ni
 have D0:=(i.e g0 Y.n0 (S0 g0 _ Y.c0)).trans Y.c0
 have F:=(i.e u Y.f0 (S0 u _ Y.d0)).trans Y.d0
 have s0:G∉[R.e,R.h,m,c1]:=cN (λh=>Y.S (by rw[h];exact vQ))<|cN (λh=>Y.S (by rw[h];exact vR))<|cN Y.T<|cN Y.h0 ni
 have W0:V∉[R.e,R.h,m,c1]:=cN (λh=>Y.e.o (by rw[h];exact vQ))<|cN (λh=>Y.e.o (by rw[h];exact vR))<|cN Y.e.G<|cN Y.e.H ni
 have m0:=(i.e G Y.Q s0).trans Y.f.f
 have X0:=(i.e V Y.O W0).trans Y.e.N
 have p0:=i.t
 have M0:∀Z,Z<o->Q.c Z=h.c Z:=λZ b0=>i.e Z (aM b0 Y.M) λa0=>by have:=Y.b0 Z a0;lia
 have F0:∀(B r:Nat)(H:D),z[B]?=a r->k[B]?=a H->cH o Q r H:=λB r H Z y=>(Y.a0 B r H Z y).L M0
 have e1:=nN (v:=bX (dT (aq (n+10)) (.n (.b 184) 133) 184 [] [] y0) (z.map (.h 13))) m0 (US Y.f.d m0 F0)
 rw[vX m0]at e1
 have C0:z.length<=1000:=by rw[Y.f.d];have:=Y.N;exact az this (by decide)
 have:=TI (n:=n) (C:=Q) (g:=Q.b) (k:=k) (e0:=o0) (s:=J) (by rw[i.q];exact Y.f.I) (λH a0=>by refine aA (Y.f.u H a0) λd0 S _=>?_;exact S.1) (λt a0=>(h0 t a0).c) Y.Y Y.N
  (λH a0=>by
    have:H.b∈k.map (·.b):=iq.mpr (aw H a0 rfl)
    rw[Y.f.w]at this
    have:=wX this
    simp only[iw,cU,or_false]at this
    lia) (by rw[A0];have:=Y.L;exact az this (by decide)) Y.f.F (bS _) (aM Y.f0 p0) D0 Y.m0 F
  (λB H l0=>by
    have P:B<z.length:=by rw[Y.f.d];exact(iv.mp l0).1
    refine(aw (z[B]) ?_ ((F0 B _ H (eG P) l0).g0 (az Y.M p0)))
    rw[qM Y.f.F (by rw[bK,Y.f.d]) l0,ft,eG P];rfl)
  i.g (λZ b0=>aM (Y.y Z b0) p0) (az ‹_› (by decide)) f0
 have q0:=(k0 163 (by decide) (by decide)).trans Y.j0
 have I0:=(k0 195 (by decide) (by decide)).trans Y.o0
 have j0:=(k0 185 (by decide) (by decide)).trans Y.k0
 have B0:=(k0 39 (by decide) (by decide)).trans Y.U
 have u0:=(k0 129 (by decide) (by decide)).trans Y.s0
 have x0:=(k0 153 (by decide) (by decide)).trans Y.r0
 have G0:=(k0 35 (by decide) (by decide)).trans Y.q0
 have J0:=i.H
 have L0:=i.I
 rcases this with⟨Y0,l,e2,K0⟩|⟨M,w0,l,f,e2,K0,t0,f2,f3⟩
 ·have N0:w=.m:=by
   rcases i.i with⟨_,h⟩|⟨H0,A,v0,_⟩
   ·exact h
   ·exact(v0.b Y0).elim
  have T:bu l R i0 (J.map bi) (L.map bc) iF:=i.g.u λZ b0=>K0.c Z (aM (Y.y Z b0) p0) cU
  rw[N0]at L0
  have e3:cz l (.d R.o) (.c [73])=a (bt 0 0 0 (.e [])):=by rw[lB T.s];rfl
  have e4:=nK (n:=n+9) (C:=l)
  have e5:cz (l.e (.b cR)) (.d l.b) (.c [73])=a (bt 0 0 0 (.e [])):=by rw[lB gm];rfl
  have e6:cC (l.e (.b cR)) .b (bt 0 0 0 (.e [])) (bt 0 0 0 (.e []))=a af:=rfl
  refine⟨l.e (.b cR),?_⟩
  simp[cw,q0,I0,j0,J0,qR m0]
  rw[e1]
  (apply jL (bE J0<|bE j0<|bE I0<|bE L0<|bE q0 jK);intro y0;simp[gI C0,e2,T.N,e3,e4,e5,e6])
 ·obtain⟨H0,r0,v0,N0,g1,g2,g3⟩:∃M r0,jO J k o0 M/\w=.d r0/\h.b<=r0/\r0<Q.b/\Q.c r0=a (.b (bG k M)):=by
   rcases i.i with⟨W,_⟩|h
   ·exact(w0.b W).elim
   ·exact h
  obtain rfl:=w0.c v0
  rw[N0]at L0
  have I:∀Z,Z<Q.b->l.c Z=Q.c Z:=λZ b0=>K0.c Z b0 cU
  have T:bu l R i0 (J.map bi) (L.map bc) iF:=i.g.u λZ b0=>I Z (aM (Y.y Z b0) p0)
  obtain⟨_,a1⟩:=w0.d (λH a0=>by refine aA (Y.f.u H a0) λd0 S _=>?_;exact⟨d0,S⟩) h0 z0.r
  have e3:=Au (UQ (C:=l) (f:=f) (r0:=r0) f3 ((I r0 g2).trans g3) Y.f.F a1)
  have T0:=(I m (aM Y.E p0)).trans i.y
  have U0:=(I c1 (aM Y.I p0)).trans i.E
  have e4:cC l .c (.e [.d R.e,.d R.h]) (cS m c1)=a av:=Au (As (sX T.k.d T.k.f) (sX T0 U0) z0.o)
  have Z0:∀Z∈R.m,Z≠f:=λZ b0 e=>by have:=Y.y Z b0;lia
  have e5:∀b:ah,ke b 80 (.d f) (bg R) l=.b (.b,b) (l.d R.k (.b (bv i0 (cL 80) (.d f)))):=λb=>nw T.p T.y rfl
  have b1:=T.n0 (f:=f) (Z0 R.k Hu).symm f3
  have P0:∀Z,Z∉R.m->Z≠R.k:=λZ b0 e=>b0 (by rw[e];exact Hu)
  have R0:∀Z,Z∉R.m->Z<Q.b->Z∉({R with o:=f}:br).m:=λZ n0 n1=>by
   have E:=gH n0
   have N:=gH E
   have h3:=gH N
   have h4:=gH h3
   have h5:=gH h4
   have h6:=gH h5
   have U:=gH h6
   have h8:=gH U
   exact cN (gG n0)<|cN (gG E)<|cN (gG N)<|cN (gG h3)<|cN (gG h4)<|cN (gG h5)<|cN (gG h6)<|cN (bC (aM ‹_› ‹_›))<|cN (gG h8) ni
  have c:eh (l.d R.k (.b (bv i0 (cL 80) (.d f)))) {R with o:=f} (bv i0 (cL 80) (.d f)) (bG k M) V m c1 X J L (J.map bi) (L.map bc):=
   ⟨b1,by rw[cf (P0 V Y.e.o),I V (aM Y.O p0)];exact X0,by rw[cf (P0 m Y.e.q)];exact T0,by rw[cf (P0 c1 Y.e.r)];exact U0,
     R0 V Y.e.o (aM Y.O p0),R0 m Y.e.q (aM Y.E p0),R0 c1 Y.e.r (aM Y.I p0),Y.e.G,Y.e.H,Y.e.L⟩
  obtain⟨O,e6⟩:=UW (n:=n) (b:=y0.c 80 (.d f)) c Y.P z0.z (UM a1) l8 V0 ⟨by exact x0,by exact q0,by exact B0,by rfl,by exact u0,by exact G0⟩
  refine⟨O,?_⟩
  have e7:aO (aq (n+10)) ((cw.drop (18+2)).take 3) y0 Q=.b (.b,y0.c 80 (.d f)) (l.d R.k (.b (bv i0 (cL 80) (.d f)))):=by
   simp[cw,q0,I0,j0,J0,qR m0]
   rw[e1]
   (apply jL (bE J0<|bE j0<|bE I0<|bE L0<|bE q0<|bE u0<|bE B0 jK);intro y0;simp[gI C0,e2,e3,T.k.t,T.k.u,e4,e5])
  rw[fV 3 e7,lP]
  exact e6
end wn
theorem UY{n:Nat}{b:ah}{h:j}{R:br}{i0:List (am×A)}{V G p m c1 g0 u o:Nat}{s X:List Int}{x z:List Nat}{k:List D}{e0:List cx}{d:List (am×A)}:wn.E0 n b h R i0 V G p m c1 g0 u o s X x z k e0 d:=dS (Y:=wn.O0) wn.Q0 (n,b,h,R,i0,V,G,p,m,c1,g0,u,o,s,X,x,z,k,e0,d)
section
variable{n:Nat}{c:v}{b:ah}{C Q h:j}{R:br}{i0 F:List (am×A)}{l w:List A}{V G p m c1 g0 u o r:Nat}{s X:List Int}{x:List Nat}{z:List Nat}{k:List D}{e0:List cx}{d:List (am×A)}
end
namespace wo
noncomputable def E0(n:Nat)(e:List Int):Prop:=∀(l0:e.length<=63),∃O,aq (n+11) (.g 111) [.k (e.map .b)] jZ=.b (.o af) O
noncomputable def O0:Nat×(List Int)->Prop:=W λn=>λe=>E0 n e
def c0:=dQ (J inferInstance) O0
def n:Nat:=c0.1
def e:List Int:=c0.2
theorem Q0:E0 n e:=by
 intro l0
 have j:∀q,aq.leave (aO (aq (n+10)) cw (qU e) jZ)=q->aq (n+11) (.g 111) [.k (e.map .b)] jZ=q:=λq h=>(bh rfl rfl).trans h
 refine aA (Ud (c:=aq (n+10)) (C:=jZ) e l0) λk0 o1 e1=>?_
 have g1:((jZ.e (bF k0)).e (.c [])).c 0=a (bF k0):=rfl
 have w0:((jZ.e (bF k0)).e (.c [])).c 1=a (.c []):=rfl
 refine JV (Ui (n:=n+7) (C:=(jZ.e (bF k0)).e (.c [])) (b:=((qU e).c 153 (.d jZ.b)).c 185 (.d (jZ.b+1))) (V:=0) (G:=1) e rfl o1 (show 0<2 by decide) (show 1<2 by decide) (by decide) g1 w0 (by simp;rfl) (by simp;rfl)) λA0 i l2 z k e2 M g2 S2 S0 n0 l=>?_
 have x0:=(l 153 (by decide)).trans (show _=a (A.d 0) by simp;rfl)
 have j0:=(l 185 (by decide)).trans (show _=a (A.d 1) by simp;rfl)
 have B0:=(l 39 (by decide)).trans (show _=ae by simp)
 refine cX (Ul (n:=n+8) S2 n0 M g2 j0 x0) λe0 l3 e3 p0 T0 Q=>?_
 have S3:=S2.t (dg (z0:=[0]) (r:=0) (o:=bF l3) cg)
 have P:(i.d 0 (bF l3)).b=i.b:=rfl
 have g3:(i.d 0 (bF l3)).c 0=a (bF l3):=cE
 generalize i.d 0 (bF l3)=d0 at e3 S3 P g3
 have o0:0<d0.b:=aM S3.m S3.q
 have Q1:1<d0.b:=aM S3.s S3.q
 refine JY (Un (n:=n+7) (C:=d0) (b:=A0.c 192 (.k (e0.map ec))) Q o0 g3 (by exact x0)) λs l4 H0 y0 a0 U g e4 L8 U0 P4 g4 M4 o4 b1 b2 b3 b4 b5 b6 u0 k4=>?_
 have S4:=S3.t o4
 have J:=o4.b
 refine rG (Uo (n:=n+10) (b:=H0) M4 (by rw[bK];exact az (bw L8) (by decide)) (by simp) b4 b5 b6 u0 ((k4 39 (by decide) (by decide)).trans (by exact B0))) λs2 m c1 e5 o5 F f C0 V0 W0=>?_
 have S5:=S4.t (o5.f (t0:=[0]) λZ a0=>nomatch a0)
 have n5:=o5.b
 have z4:=aM o0 J
 have X0:=aM Q1 J
 have m5:=aM b4 n5
 have v5:=aM b5 n5
 have r5:=aM b6 n5
 have S:m<c1:=by rw[F,f];exact fM _
 have I0:=cT S C0
 have W:0<m:=F▸z4
 have D:=cT W S
 have d2:1<m:=F▸X0
 have L:=cT d2 S
 refine xc (Uq (n:=n+9) (b:=H0.c 39 (cS m c1)) S5 n0 (by simp[k4,j0])) λR0 g0 u d h1=>?_;refine pR h1 λe6 o6 u1 u2 u3 Y0 v Z0=>?_;clear h1
 have S6:=S5.t (o6.f (t0:=[0]) λZ a0=>nomatch a0)
 have n6:=o6.b
 have m6:=aM m5 n6
 have v6:=aM v5 n6
 have r6:=aM r5 n6
 have s0:=aM I0 n6
 have J0:=aM C0 n6
 have K0:=cT u2 u3
 refine rG (Us (n:=n+9) (C:=R0) (b:=(H0.c 39 (cS m c1)).c 195 (.h 14 g0))) λt f0 t1 e7 T p X a1 d1 k7=>?_
 have S7:=S6.t (T.f (t0:=[0]) λZ a0=>nomatch a0)
 have I:=T.b
 have m7:=aM m6 I
 have v7:=aM v6 I
 have r7:=aM r6 I
 have v0:=aM s0 I
 have L0:=aM J0 I
 have f1:=aM K0 I
 have i1:=aM u3 I
 have M7:cY t a0 U g (s.map bi) (kl.map bc):=((M4.y o5 b4 b5 b6 cU cU cU).y o6 (m5) (v5) (r5) cU cU cU).y T (m6) (v6) (r6) cU cU cU
 refine JR (Uy (n:=n+8) (b:=t1) M7 (by rw[bK];exact az (bw L8) (by decide)) (by simp) (m7) (v7) (r7) X a1 ((k7 129 (by decide) (by decide) (by decide)).trans (by exact u0)) d1) λh0 q1 R i0 e8 o8 H8 v1 w1 x1 m1 q0 G0 k8=>?_;obtain rfl:=v1;obtain rfl:=w1;obtain rfl:=x1
 have S8:=S7.t (o8.f (t0:=[0]) λZ a0=>nomatch a0)
 have x:=o8.b
 have D0:=aM v0 x
 have j1:=aM L0 x
 have k1:=aM f1 x
 have l1:=aM i1 x
 have z8:=cT W D0
 have n1:=cT d2 D0
 have p1:aW [] y0 h0:=((o5.trans o6).trans T).trans o8
 have M0:aW [] s2 h0:=(o6.trans T).trans o8
 have N0:aW [] R0 h0:=T.trans o8
 have m0:∀y,y≠163->y≠35->y≠73->y≠204->y≠84->q1 y=((H0.c 39 (cS m c1)).c 195 (.h 14 g0)) y:=λy E N h3 h4 h5=>(k8 y E N).trans (k7 y h3 h4 h5)
 have P0:∀y,y≠129->y≠107->y≠192->H0 y=A0 y:=λy E N h3=>(k4 y E N).trans (mf h3)
 have F0:e0.length<=4:=by rcases p0 with h|h<;>(first|exact az (bw h) n0|exact az (az (dp _ _) (bw h)) n0)
 have w:0<=s.headD 0/\s.headD 0<=50:=by
  clear l0 j o1 e1 g1 w0 e2 M g2 S2 S0 n0 l x0 j0 B0 e3 p0 T0 Q S3 P g3 o0 Q1 e4 P4 g4 M4 o4 b1 b2 b3 b4 b5 b6 u0 k4 S4 J e5 o5 F f C0 V0 W0 S5 n5 z4 X0 m5 v5 r5 S I0 W D d2 L e6 o6 u1 u2 u3 Y0 v Z0 S6 n6 m6 v6 r6 s0 J0 K0 e7 T p X a1 d1 k7 S7 I m7 v7 r7 v0 L0 f1 i1 M7 e8 o8 H8 m1 q0 G0 k8 S8 x D0 j1 k1 l1 z8 n1 p1 M0 N0 m0 P0 F0;induction s using bL with
  |nil=>cases L8
  |cons Z r=>exact U0 Z cg
 have r1:=S8.m
 have y1:=az (bw P.symm) (az J (az n5 (az n6 (az I x))))
 have s1:=S8.s
 have r0:=S2.q
 have Y:At h0 q1 R i0 0 1 ((jZ.e (bF k0)).e (.c [])).b m c1 g0 u i.b l4 s kl z k e0 d:=by
  clear j;refine⟨P4,S8,S0,n0,⟨H8,by rw[p1.c 0 (z4) cU];exact g4,by rw[M0.c m (I0) cU];exact V0,by rw[M0.c c1 C0 cU];exact W0,λa0=>?_,λa0=>?_,λa0=>?_,by exact bC W,by exact bC D,by exact bC S⟩,⟨by exact bw L8.symm,by exact az (kT (bw L8) F0) (by decide),by decide,by show 11+6*e0.length<=90;exact az (kT (bS _) (Nat.mul_le_mul_left _ F0)) (by decide),by decide,w,λZ b0=>by have:=U0 Z b0;exact⟨this.1,bQ this.2 (by decide)⟩⟩,L8,rfl,T0,F0,
   λB r H E N=>(S8.i B r H E N).m (S2.i B r H E N).f,λZ a0=>?_,by exact y1,by rw[N0.c g0 (K0) cU];exact Y0,v,by rw[N0.c u u3 cU];exact Z0,λZ a0=>(m1 Z a0).1,by exact z8,by exact n1,by exact D0,by exact j1,by exact k1,by exact l1,λa0=>?_,by exact bC d2,by exact bC L,q0,?_,?_,?_,?_,?_,?_,?_⟩
  ·exact tL (bC (aM o0 b1)) (bC (aM o0 b2)) (bC (aM o0 b3)) (bC (aM (cT W s0) p)) (cT W v0) (m1 0 a0).2
  ·exact tL (fu (F▸b4)) (fu (F▸b5)) (fu (F▸b6)) (bC (aM s0 p)) v0 (m1 m a0).2
  ·exact tL (fu (cT (F▸b4) S)) (fu (cT (F▸b5) S)) (fu (cT (F▸b6) S)) (bC (aM J0 p)) L0 (m1 c1 a0).2
  ·simp only[iw,cU,or_false]at a0
   clear m0 P0;rcases a0 with rfl|rfl|rfl|rfl<;>(first|exact az (bw P.symm) b2|exact az (bw P.symm) b3|exact az (az (bw P.symm) J) (bw F.symm)|exact az (az (az (bw P.symm) J) (dp _ _)) (bw f.symm))
  ·exact tL (bC (aM Q1 b1)) (bC (aM Q1 b2)) (bC (aM Q1 b3)) (bC (aM (cT d2 s0) p)) (cT d2 v0) (m1 1 a0).2
  ·rw[m0 _ (by decide) (by decide) (by decide) (by decide) (by decide)];simp
  ·rw[m0 _ (by decide) (by decide) (by decide) (by decide) (by decide)];simp[P0,j0]
  ·rw[m0 _ (by decide) (by decide) (by decide) (by decide) (by decide)];simp
  ·rw[m0 _ (by decide) (by decide) (by decide) (by decide) (by decide)];simp[k4]
  ·clear l0 o1 e1 g1 w0 e2 M g2 S2 S0 n0 l x0 j0 B0 e3 p0 T0 Q S3 P g3 o0 Q1 e4 U0 P4 g4 M4 o4 b1 b2 b3 b4 b5 b6 u0 k4 S4 J e5 o5 F f C0 V0 W0 S5 n5 z4 X0 m5 v5 r5 S I0 W D d2 L e6 o6 u1 u2 u3 Y0 v Z0 S6 n6 m6 v6 r6 s0 J0 K0 e7 T p X a1 d1 k7 S7 I m7 v7 r7 v0 L0 f1 i1 M7 e8 o8 H8 m1 q0 k8 S8 x D0 j1 k1 l1 z8 n1 p1 M0 N0 F0 w r1 s1 r0;rw[G0,bK,L8];rfl
  ·rw[m0 _ (by decide) (by decide) (by decide) (by decide) (by decide)];simp[P0,x0]
  ·rw[m0 _ (by decide) (by decide) (by decide) (by decide) (by decide)];simp[u0]
 clear l0 o1 g1 w0 M g2 S2 S0 n0 l x0 j0 B0 p0 T0 Q S3 P g3 o0 Q1 L8 U0 P4 g4 M4 o4 b1 b2 b3 b4 b5 b6 u0 k4 S4 J o5 F f C0 V0 W0 S5 n5 z4 X0 m5 v5 r5 S I0 W D d2 L o6 u1 u2 u3 Y0 v Z0 S6 n6 m6 v6 r6 s0 J0 K0 T p X a1 d1 k7 S7 I m7 v7 r7 v0 L0 f1 i1 M7 o8 H8 m1 q0 G0 k8 S8 x D0 j1 k1 l1 z8 n1 p1 M0 N0 m0 P0 F0 w r1 s1 r0;obtain⟨O,e9⟩:=UY (n:=n) Y
 refine⟨O,j _ ?_⟩
 rw[fV 2 e1,fV 1 e2,lP,fV 2 e3,lP,fV 3 e4,lP,fV 1 e5,lP,fV 2 e6,lP,fV 2 e7,lP,fV 5 e8,lP]
 exact e9
end wo
theorem UZ(n:Nat)(e:List Int):wo.E0 n e:=dS (Y:=wo.O0) wo.Q0 (n,e)
end Mine.Internal.L
namespace Mine.Internal
open PySem PySem.W PySem.Calls PyProof.Rows
noncomputable def wp:List ak:=[7,8,10,13,14]
theorem Va{I S:ak}(h:S∈tO I):I∈wp:=by
 unfold tO at h
 (generalize h8:(I==8)=x9;induction x9);(generalize O:(I==10)=x9;induction x9);(generalize U:(I==7)=x9;induction x9);(generalize g:(I==13)=x9;induction x9);(generalize o:(I==14)=x9;induction x9)
 ·rw[h8,O,U,g,o]at h;exact absurd h cU
 all_goals first|(rw[dr o];decide)|(rw[dr g];decide)|(rw[dr U];decide)|(rw[dr O];decide)|(rw[dr h8];decide)
def HU(g:dF):Bool:=wp.all λI=>(tO I).all λS=>rS g (lw I) (an S)
theorem Vb{g:dF}(h:HU g=af)(I S:ak)(v0:bB I S=af):rS g (lw I) (an S)=af:=by
 unfold bB at v0
 obtain⟨Z,b0,e⟩:=mv.mp v0
 obtain rfl:=of_decide_eq_true e
 exact gY.mp (gY.mp h I (Va b0)) Z b0
def HV(g:dF):Bool:=rT g (lw 8) (an 120) (eV 209)&&rT g (lw 8) (an 177) (eV 210)
theorem Vc{g:dF}(h:HV g=af)(I S f:ak)(L:or I S=a f):rT g (lw I) (an S) (eV f)=af:=by
 unfold or at L
 obtain⟨E,N⟩:=bp h
 (generalize q:(I==8&&S==120)=x9;induction x9)
 ·rw[q]at L
  (generalize q2:(I==8&&S==177)=x9;induction x9)
  ·rw[q2]at L;cases L
  ·rw[q2]at L;cases L
   obtain⟨a1,a2⟩:=bp q2
   rw[dr a1,dr a2];exact N
 ·rw[q]at L;cases L
  obtain⟨a1,a2⟩:=bp q
  rw[dr a1,dr a2];exact E
def HW(g:dF):Bool:=wp.all λI=>match ky I with|some f=>tV g (lw I) (eV f)&&eV I==lw I|none=>av
theorem Vd{I f:ak}(h:ky I=a f):I∈wp:=by
 unfold ky at h
 (generalize h8:(I==8)=x9;induction x9);(generalize O:(I==10)=x9;induction x9);(generalize U:(I==7)=x9;induction x9);(generalize g:(I==13)=x9;induction x9);(generalize o:(I==14)=x9;induction x9)
 ·rw[h8,O,U,g,o]at h;cases h
 all_goals first|(rw[dr o];decide)|(rw[dr g];decide)|(rw[dr U];decide)|(rw[dr O];decide)|(rw[dr h8];decide)
theorem Ve{g:dF}(h:HW g=af)(I f:ak)(L:ky I=a f):tV g (lw I) (eV f)=af/\eV I=lw I:=by
 have:=gY.mp h I (Vd L)
 rw[L]at this
 obtain⟨E,N⟩:=bp this
 exact⟨E,dr N⟩
def wq:iA:={b:=[168,203,157,56,190,176,47,43,52],c:=DI,d:=[.b 32,.b 7,.b 15,.b 38,.b 1000000,.b 19,.b 72,.b 40]}
def Vf(g:dF):P:=vd g (eV 212) λ_ G p=>.k (.q (ve g (eV 212) G wq.b)) (jI wq.c af G.scope.names p)
noncomputable def HX(g:dF):List (ak×iA)->P
 |[]=>.q af
 |V::l=>.k (sJ g af V.1 V.2) (HX g l)
theorem HY{g:dF}:∀{l:List (ak×iA)},(HX g l).b->∀V∈l,(sJ g af V.1 V.2).b
 |q::l,h,V,p0=>by
  rcases iw.mp p0 with rfl|p0
  ·exact h.1
  ·exact HY h.2 V p0
def Vg(g:dF):P:=.k (FK g) (.k (FM g) (.k (Vf g) (.k (sJ g av 20 {b:=[],c:=uA})
 (.q (HU g&&HV g&&HW g&&yp.all λI=>to g (ax (eV I)))))))
theorem Vh{g:dF}(h:(su.all λf=>ba (tI g iL (an f)=a (a (ax (eV f)))))=af)(f:ak)(B0:f∈su):tI g iL (an f)=a (a (ax (eV f))):=of_decide_eq_true (gY.mp h f B0)
structure pf(g:dF):Prop where
 plain:∀V∈FN,(sJ g af V.1 V.2).b
 rest:(Vg g).b
 dflt:∃(o:cu) (G:fL) (p:List x) (c0:ai) (i:cu) (M:Array aj) (a0:Nat) (w:aj->Option (Array aj)->gu (List (aD×aj))),g.lookup (eV 212)=a o/\o.data=lH G/\G.body=.stmts p/\G.defaults=ax c0/\g.lookup c0=a i/\i.data=sZ M a0/\
  (∀S,rq G ⟨[S],[]⟩=seqItems? G.defaults>>=w S)/\(∀S,w S (a M)=bI ((wq.b.map an).zip (S::M.toList)))/\∀(k:aU)D F h,aJ k D F h wq.d M.toList
 gi:∀V∈sr,∃t,tI g iL (an V.1)=a (a (cI V.2 t))
 gf:∀f∈su,tI g iL (an f)=a (a (ax (eV f)))
 blt:(["len","abs","list","tuple","dict","isinstance","str","range"]:List aD).all (λZ=>ba (tI g iL Z=a ae))=af
 fault:∀k:aU,k.h=g->k.g=51->g.In k.d->k.d.Ns iL k.i->k.m "Exception"=a (aK "Exception")->si k
 made:codeHdIn g 394 392=af
 tabs:noTabs g=af
 law:tI g iL (Xu "law")=a (a (ax 616))
section
variable{k:aU}{n:Nat}{g:dF}
theorem Vi(F:pf g)(L0:cn k)(m0:uu k 394)(u:k.h=g)(B0:k.k=eV)(e0:k.l=vi g)(g0:∀{L c},fz k L n c->(L=af->fz k av n (gQ c))->fA k L n c):
 (∀c,fz k af n c->fz k av n (gQ c)->∀r0 d,kJ r0=a d->∃o G I0,mZ k af n c r0 d o G I0)/\
 (∀c d,kJ 20=a d->∃o G I0,mZ k av n c 20 d o G I0)/\
 ∀c,fz k af n c->fz k av n (gQ c)->∀G B,k.l G B->∃I0,uv k af n c G B I0 mY:=by
 obtain⟨r1,s,l,T,_⟩:=F.rest
 refine⟨λc x l1 r0 d z0=>?_,λc d z0=>?_,λc x l1=>Rh (g0 x λ_=>l1) e0 s⟩
 ·have w:=g0 x λ_=>l1
  have L:=FO z0
  by_cases E:r0=212
  ·subst E
   cases z0
   refine zb l λo G p E N h3 h=>?_
   obtain⟨U0,t,P,c0,i,M,a0,w0,e1,e2,e3,e4,e5,e6,e7,e8,e9⟩:=F.dflt
   rw[E]at e1;cases e1;rw[N]at e2;cases e2
   exact(jg o G p (zc u B0 E N h3 h.1 (PN rfl e4 (L0.b _ _ (by rw[u];exact e5)) e6 (e9 k) e7 e8) (sb.d (kL _ w _ _ h.2))))
  ·by_cases N:r0=63
   ·subst N
    cases z0
    exact Rf w m0 u B0 e0 r1
   ·exact FI w u B0 (F.plain (r0,d) (List.mem_filter.mpr ⟨L,by simp[E,N]⟩))
 ·cases z0
  have x:fz k av n (λ_ _ _=>.d):=λU Q F C D H q f X s0 J B0 j0 R m=>m.elim
  obtain⟨o,G,p,f⟩:=FI (g0 x λh=>nomatch h) u B0 T
  have e:aO c uA=aO (λ_ _ _=>.d) uA:=by kernel_rfl
  have W:=f.l
  dsimp only at W
  rw[<-e]at W
  exact(jg o G p ⟨f.e,f.f,f.g,f.keep,f.closure,f.shape,f.bind,f.i,W⟩)
end
end Mine.Internal
namespace Mine.Internal
open PySem PySem.W PySem.Calls PyProof.Rows
def kS(g:dF)(d0:gZ)(h:aG)(H X:aD->Option aj):aU:={b:=Xv.row.prog,c:=d0,d:=h,e:=392,h:=g,i:=H,m:=X,k:=eV,f:=lw,l:=vi g,g:=51}
section
variable{g:dF}{d0:gZ}{h:aG}{V:iK}{d:List aD}{D:ExcName->Option aj}{H X:aD->Option aj}
theorem Vj(F:pf g)(U:g.In h)(c0:Top V d D H X h):jn (kS g d0 h H X):=⟨λZ T L=>by
 have F:=gY.mp F.blt
 simp only[iw,cU,or_false,Prod.mk.injEq]at L
 rcases L with⟨rfl,rfl⟩|⟨rfl,rfl⟩|⟨rfl,rfl⟩|⟨rfl,rfl⟩|⟨rfl,rfl⟩|⟨rfl,rfl⟩|⟨rfl,rfl⟩|⟨rfl,rfl⟩<;>exact⟨mg_none_of U c0.g (of_decide_eq_true (F _ (by decide+kernel))),(c0.builtins _ (by decide+kernel)).trans (by kernel_rfl)⟩⟩
theorem Vk(F:pf g)(U:g.In h)(c0:Top V d D H X h)(f0:h.get? 392=ae):uu (kS g d0 h H X) 394 where
 b:=by
  obtain⟨E,n0,b1,b2,b3,b4,b5,b6⟩:=c0.bmain
  refine(gN E n0 b1 b2 (λq=>?_) (λq=>?_) ⟨b3,b4,b5,b6⟩)
  ·obtain⟨o,t0,X0,e,z0,_⟩:=c0.g
   rw[q,e]at b3;cases b3;rw[z0]at b6;cases b6
  ·have t:E=392:=q
   rw[t,f0]at b3;cases b3
 c:=codeHd_of_K U F.made
 d:=by show iL≠392;decide+kernel
theorem Ax(F:pf g)(U:g.In h)(c0:Top V d D H X h)(E:h.get? ko≠ae):cn (kS g d0 h H X):=
 have r:=F.rest.2.2.2.2
 have T:=bp r
 have l:=bp T.1
 have s:=bp l.1
 {b:=U,e:=c0.nolimit,d:=c0.g,g:=c0.b,c:=E,h:=Vb s.1,i:=Vc s.2,l:=Ve l.2}
theorem Vl(F:pf g)(U:g.In h)(c0:Top V d D H X h)(E:h.get? ko≠ae){L:Bool}{n:Nat}{c:v}(x:fz (kS g d0 h H X) L n c)(l1:L=af->fz (kS g d0 h H X) av n (gQ c)):fA (kS g d0 h H X) L n c:=
 have r:=F.rest.2.2.2.2
 have T:=bp r
 {b:=Ax F U c0 E,d:=Vj F U c0,l:=F.fault _ rfl rfl U c0.g ((c0.builtins _ (by decide+kernel)).trans (by kernel_rfl)),e:=x,q:=l1
  m:=λf i a0=>by
   obtain⟨t,e⟩:=F.gi (f,i) a0
   exact⟨t,mg_of U c0.g e⟩
  o:=λf a0=>mg_of U c0.g (F.gf f a0)
  p:=λI a0=>gY.mp T.2 I a0}
theorem Vm(F:pf g)(U:g.In h)(c0:Top V d D H X h)(E:h.get? ko≠ae)(f0:h.get? 392=ae)(n:Nat):fz (kS g d0 h H X) af n (aq n):=by
 have t:=λn=>Vi (k:=kS g d0 h H X) (n:=n) F (Ax F U c0 E) (Vk F U c0 f0) rfl rfl rfl (Vl F U c0 E)
 exact(PP (Ax F U c0 E) (λn=>(t n).1) (λn=>(t n).2.1) (λn=>(t n).2.2) n).1
end
theorem HZ{k:aU}{D:Nat->Option ai}{F:ai->Prop}{h:aG}{s0:Params}{u:aG}:∀{l:List Int}{X:List aj},WellAll s0 u X (ofPys (l.map iM.int))->aJ k D F h (l.map .b) X
 |[],_,q=>by cases q;rfl
 |i::l,_,q=>by
  cases q with
  |cons q1 q2=>
   cases q1
   exact(bU _ _ rfl ⟨_,rfl⟩ (HZ q2))
theorem Vn{g:dF}{q:iK}(F:pf g)(x0:importsNone q=af){d0:gZ}{c:ay}{d:List aD}{D:ExcName->Option aj}{H X:aD->Option aj}{M S:ai}{y0:List Int}{R:fC->ay->Prop}(U:g.In c.heap)(c0:Top q d D H X c.heap)(i:TabsAt [(394,392)] c.heap)(B0:H (Xu "law")=a (ax M))(w1:Well d0.params c.heap (ax S) (ofPy (iM.list (y0.map iM.int))))(k0:y0.length<=63)(m:∀u t,(∀p o,(tJ c.heap [(394,392)]).get? p=a o->u.get? p=a o)->GrownAll [(394,392)] u->R (.ok (jy (eQ af))) {c with heap:=u,toks:=t}):
 je (aQ Xv.row.prog d0) callerA (la (ax M) {pos:=[ax S]}) R c:=by
 have h:=mg_of U c0.g F.law
 rw[B0]at h
 cases h
 have E:(tJ c.heap [(394,392)]).get? ko≠ae:=by
  obtain⟨N2,⟨o,t0,X0,e,z0,_⟩,_⟩:=(c0.seer x0).mods
  rw[ghost_get i e (λq=>by rw[q]at z0;cases z0)]
  exact nofun
 have f0:(tJ c.heap [(394,392)]).get? 392=ae:=hideAll_none _ (et _)
 have i0:=Vm (d0:=d0) F (ghost_K i U F.tabs) (ghost_top i c0) E f0 14
 obtain⟨O,e⟩:=Mine.Internal.L.UZ 3 y0 k0
 have b:bj (kS g d0 (tJ c.heap [(394,392)]) H X) (λ_=>ae) (λ_=>False) jZ c.heap:={
  t:=λ_ _ _ q=>nomatch q
  g:=λ_ _ q=>nomatch q
  s:=λ_ _ q=>nomatch q
  u:=λ_ _ q=>nomatch q
  b:=λ_ _ q=>nomatch q
  e:=(aw (#[]) ((i _ (et _)).2) (λ_=>rfl))
  c:=λp o q=>of_hideAll _ q
  w:=f0
  d:=λ_ q=>q.elim
  f:=λ_ _ q=>nomatch q}
 have J:lr (kS g d0 (tJ c.heap [(394,392)]) H X) af 14 callerA [] (λ_=>False) jZ (λ_=>ae) c.heap:={
  b:=b
  d:=rfl
  e:=λ_ q=>nomatch q
  f:=λ_=>rfl
  c:=⟨by decide+kernel,by decide+kernel⟩}
 have h0:aJ (kS g d0 (tJ c.heap [(394,392)]) H X) (λ_=>ae) (λ_=>False) c.heap [.k (y0.map .b)] [ax S]:=by
  cases w1 with
  |list w2 w3=>exact(bU _ _ rfl (dY _ _ _ rfl w2 (HZ w3) ⟨λ_=>nofun,id⟩) rfl)
 refine(i0 _ _ _ _ _ _ (.g 111) (ax 616) _ _ J rfl h0 R ?_).2
 rw[e]
 intro G0 A0 u t B _ a1
 cases a1
 obtain⟨Z0,F0,_⟩:=B.e
 exact m u t B.c ⟨⟨Z0,F0⟩,trivial⟩
end Mine.Internal
namespace Mine.Internal
open PySem PySem.W PySem.Calls PyProof.Rows
theorem fin.tw1005422156065106442:True:=trivial
theorem fin.tw10068614229917681054:True:=trivial
theorem fin.tw10101490488506916722:True:=trivial
theorem fin.tw10123968677928051802:True:=trivial
theorem fin.tw10161079841741055073:True:=trivial
theorem fin.tw10244380515609997215:True:=trivial
theorem fin.tw10293282587370518145:True:=trivial
theorem fin.tw10314170614511521932:True:=trivial
theorem fin.tw10326488089735821717:True:=trivial
theorem fin.tw10372168367530659151:True:=trivial
theorem fin.tw10470439036539762163:True:=trivial
theorem fin.tw10482412449805965151:True:=trivial
theorem fin.tw10489730734805531701:True:=trivial
theorem fin.tw10521623200425411407:True:=trivial
theorem fin.tw10523693406819622:True:=trivial
theorem fin.tw10608468712517356265:True:=trivial
theorem fin.tw10609068409300623040:True:=trivial
theorem fin.tw10644677296328468757:True:=trivial
theorem fin.tw10650760199713648968:True:=trivial
theorem fin.tw10666779673806245421:True:=trivial
theorem fin.tw10679947369768285577:True:=trivial
theorem fin.tw10691362535288729317:True:=trivial
theorem fin.tw10707557991538824293:True:=trivial
theorem fin.tw10732134479138160057:True:=trivial
theorem fin.tw10788309051002490768:True:=trivial
theorem fin.tw10831013321863159478:True:=trivial
theorem fin.tw10845141586977317270:True:=trivial
theorem fin.tw10922886366570880915:True:=trivial
theorem fin.tw10952149347000747623:True:=trivial
theorem fin.tw10994592433907375829:True:=trivial
theorem fin.tw11027904882481542724:True:=trivial
theorem fin.tw11071885167217917561:True:=trivial
theorem fin.tw11099496986799534865:True:=trivial
theorem fin.tw11106444311465693002:True:=trivial
theorem fin.tw1112450372344337940:True:=trivial
theorem fin.tw11215357404737381233:True:=trivial
theorem fin.tw11233464361083758497:True:=trivial
theorem fin.tw11307813337805977000:True:=trivial
theorem fin.tw1133573164667390875:True:=trivial
theorem fin.tw1133772979632593500:True:=trivial
theorem fin.tw11349293107220882217:True:=trivial
theorem fin.tw11353252044198500518:True:=trivial
theorem fin.tw11405307174567812190:True:=trivial
theorem fin.tw1141325480001554146:True:=trivial
theorem fin.tw11418718241047915256:True:=trivial
theorem fin.tw1147176709748742994:True:=trivial
theorem fin.tw11504328752854542602:True:=trivial
theorem fin.tw11505652142412690681:True:=trivial
theorem fin.tw11535263601682200794:True:=trivial
theorem fin.tw1154845219758702077:True:=trivial
theorem fin.tw11550936495509033355:True:=trivial
theorem fin.tw1162837958614489709:True:=trivial
theorem fin.tw11667179120957083916:True:=trivial
theorem fin.tw11667253237753083338:True:=trivial
theorem fin.tw11669910393308501227:True:=trivial
theorem fin.tw11733145067409134157:True:=trivial
theorem fin.tw11759521882548977414:True:=trivial
theorem fin.tw11774602554385724854:True:=trivial
theorem fin.tw11791004121083845411:True:=trivial
theorem fin.tw11797687170994982347:True:=trivial
theorem fin.tw11882611590644983702:True:=trivial
theorem fin.tw11890194797150808124:True:=trivial
theorem fin.tw11960471888351719401:True:=trivial
theorem fin.tw11994829364047293607:True:=trivial
theorem fin.tw12005675286897436065:True:=trivial
theorem fin.tw12017921828190240546:True:=trivial
theorem fin.tw12022977700369342391:True:=trivial
theorem fin.tw12063301643352831665:True:=trivial
theorem fin.tw12075258354329309107:True:=trivial
theorem fin.tw12101702456154623484:True:=trivial
theorem fin.tw12123724003775551097:True:=trivial
theorem fin.tw12133140625877761617:True:=trivial
theorem fin.tw12215283620361357505:True:=trivial
theorem fin.tw1224772823539795004:True:=trivial
theorem fin.tw12271225376293204978:True:=trivial
theorem fin.tw12273216458048795975:True:=trivial
theorem fin.tw12303650237671056178:True:=trivial
theorem fin.tw12310287955626512409:True:=trivial
theorem fin.tw1236496036888747617:True:=trivial
theorem fin.tw12366797792384966918:True:=trivial
theorem fin.tw12409447350087201441:True:=trivial
theorem fin.tw1241290964446249857:True:=trivial
theorem fin.tw12419660091751718265:True:=trivial
theorem fin.tw12434613544637517749:True:=trivial
theorem fin.tw12455835498276287761:True:=trivial
theorem fin.tw12495652020141799563:True:=trivial
theorem fin.tw12595489510096018543:True:=trivial
theorem fin.tw12607738285832116911:True:=trivial
theorem fin.tw12624803667846855160:True:=trivial
theorem fin.tw12637019795804627782:True:=trivial
theorem fin.tw12670233009276690644:True:=trivial
theorem fin.tw12729674422467859285:True:=trivial
theorem fin.tw12748706127138181013:True:=trivial
theorem fin.tw12778409855523228992:True:=trivial
theorem fin.tw12786687685773228691:True:=trivial
theorem fin.tw12792066570381711349:True:=trivial
theorem fin.tw12801079811122468228:True:=trivial
theorem fin.tw12820697431815641191:True:=trivial
theorem fin.tw12841943749054962851:True:=trivial
theorem fin.tw1285103265667138118:True:=trivial
theorem fin.tw12880333399034338713:True:=trivial
theorem fin.tw12885255372653770484:True:=trivial
theorem fin.tw12973318590980137679:True:=trivial
theorem fin.tw1298628698680383041:True:=trivial
theorem fin.tw13008528339739614272:True:=trivial
theorem fin.tw13041255243928865386:True:=trivial
theorem fin.tw13055829498245001383:True:=trivial
theorem fin.tw1305876745347171626:True:=trivial
theorem fin.tw13060565531289800327:True:=trivial
theorem fin.tw1307895029255432033:True:=trivial
theorem fin.tw13209526354777866365:True:=trivial
theorem fin.tw13247637036668170788:True:=trivial
theorem fin.tw13340128867176268900:True:=trivial
theorem fin.tw13341561045960212723:True:=trivial
theorem fin.tw1342446416782612118:True:=trivial
theorem fin.tw13478373514589194400:True:=trivial
theorem fin.tw13573744438921304190:True:=trivial
theorem fin.tw13581985440148888740:True:=trivial
theorem fin.tw1363021327180449552:True:=trivial
theorem fin.tw136321853134019834:True:=trivial
theorem fin.tw13634280379617916058:True:=trivial
theorem fin.tw1365833600108757868:True:=trivial
theorem fin.tw13658825025987743643:True:=trivial
theorem fin.tw13718656946785093657:True:=trivial
theorem fin.tw13727305169589185635:True:=trivial
theorem fin.tw13760887549872387974:True:=trivial
theorem fin.tw13795386089393969331:True:=trivial
theorem fin.tw13952892097359526463:True:=trivial
theorem fin.tw13988571870743854241:True:=trivial
theorem fin.tw14087494348329539905:True:=trivial
theorem fin.tw14117478836190910693:True:=trivial
theorem fin.tw14122740417089075017:True:=trivial
theorem fin.tw14155142204247736502:True:=trivial
theorem fin.tw1426954264503836730:True:=trivial
theorem fin.tw14344926081590553889:True:=trivial
theorem fin.tw14357533244682690951:True:=trivial
theorem fin.tw14388343316566068529:True:=trivial
theorem fin.tw14403239695923307830:True:=trivial
theorem fin.tw14464440864516277016:True:=trivial
theorem fin.tw14496633437378376435:True:=trivial
theorem fin.tw14539759953273356423:True:=trivial
theorem fin.tw14609777808758671327:True:=trivial
theorem fin.tw14619809641158103399:True:=trivial
theorem fin.tw14701166523624723219:True:=trivial
theorem fin.tw14710791172244239818:True:=trivial
theorem fin.tw14752972205833155019:True:=trivial
theorem fin.tw14818088776797816495:True:=trivial
theorem fin.tw14820765687774610683:True:=trivial
theorem fin.tw14834411714642155541:True:=trivial
theorem fin.tw14860765532634025764:True:=trivial
theorem fin.tw14861632352375255602:True:=trivial
theorem fin.tw14915809093477394193:True:=trivial
theorem fin.tw1497951249198252366:True:=trivial
theorem fin.tw149957578360090479:True:=trivial
theorem fin.tw15000533820965031710:True:=trivial
theorem fin.tw15014544461211952260:True:=trivial
theorem fin.tw15026265778650035631:True:=trivial
theorem fin.tw1503508723232645471:True:=trivial
theorem fin.tw15037800625898914994:True:=trivial
theorem fin.tw15101849749170484435:True:=trivial
theorem fin.tw15135577336314763024:True:=trivial
theorem fin.tw15170897598717657147:True:=trivial
theorem fin.tw15187119250702228344:True:=trivial
theorem fin.tw15188908750215247026:True:=trivial
theorem fin.tw15209993161204976324:True:=trivial
theorem fin.tw15236052275696951828:True:=trivial
theorem fin.tw15240908891056920309:True:=trivial
theorem fin.tw15265027780411263113:True:=trivial
theorem fin.tw15265327471687389039:True:=trivial
theorem fin.tw15376446210128744419:True:=trivial
theorem fin.tw15401975030235108584:True:=trivial
theorem fin.tw15418646141109290174:True:=trivial
theorem fin.tw1546549413101524333:True:=trivial
theorem fin.tw15479284828457854670:True:=trivial
theorem fin.tw15533964557800470063:True:=trivial
theorem fin.tw15536887994283210034:True:=trivial
theorem fin.tw15557774540311675574:True:=trivial
theorem fin.tw15758281721569874049:True:=trivial
theorem fin.tw15799074499384265573:True:=trivial
theorem fin.tw15800163601140928585:True:=trivial
theorem fin.tw15820624351732698368:True:=trivial
theorem fin.tw15885225976727544930:True:=trivial
theorem fin.tw15902215669375184863:True:=trivial
theorem fin.tw1592332469624304231:True:=trivial
theorem fin.tw15943697347493326796:True:=trivial
theorem fin.tw15973157177614956551:True:=trivial
theorem fin.tw16035885508308169001:True:=trivial
theorem fin.tw16071383217747365158:True:=trivial
theorem fin.tw16100651002913752557:True:=trivial
theorem fin.tw16115503439188816733:True:=trivial
theorem fin.tw16194652528352795075:True:=trivial
theorem fin.tw16200922762308640586:True:=trivial
theorem fin.tw16281550903064857946:True:=trivial
theorem fin.tw1629048070482340020:True:=trivial
theorem fin.tw16298112005621836179:True:=trivial
theorem fin.tw16321975058907048175:True:=trivial
theorem fin.tw16328749798764590958:True:=trivial
theorem fin.tw16347454674512808418:True:=trivial
theorem fin.tw16366287188061282293:True:=trivial
theorem fin.tw16371546859381575323:True:=trivial
theorem fin.tw16374633530017836796:True:=trivial
theorem fin.tw1638945548515751532:True:=trivial
theorem fin.tw16389932788297587636:True:=trivial
theorem fin.tw16410732759625108235:True:=trivial
theorem fin.tw16441759903321071884:True:=trivial
theorem fin.tw16562089958595033815:True:=trivial
theorem fin.tw1657598317135980502:True:=trivial
theorem fin.tw16604260596619533884:True:=trivial
theorem fin.tw16640057102570843524:True:=trivial
theorem fin.tw16757256597003186778:True:=trivial
theorem fin.tw16778370275792819700:True:=trivial
theorem fin.tw16838157672737301897:True:=trivial
theorem fin.tw16845774895885936057:True:=trivial
theorem fin.tw16846778108711060729:True:=trivial
theorem fin.tw16906272122906217559:True:=trivial
theorem fin.tw16937595998969884805:True:=trivial
theorem fin.tw16951405512337198204:True:=trivial
theorem fin.tw17044029230311161277:True:=trivial
theorem fin.tw17050617325425463486:True:=trivial
theorem fin.tw17054221628107439704:True:=trivial
theorem fin.tw17073784211241882456:True:=trivial
theorem fin.tw17084581914527863385:True:=trivial
theorem fin.tw17085421395825597802:True:=trivial
theorem fin.tw17091010244851112628:True:=trivial
theorem fin.tw17113566079157436309:True:=trivial
theorem fin.tw17133814210951708026:True:=trivial
theorem fin.tw171593896665050724:True:=trivial
theorem fin.tw17160753423370284780:True:=trivial
theorem fin.tw1726252561394126390:True:=trivial
theorem fin.tw17295258103225519107:True:=trivial
theorem fin.tw17317397143997949921:True:=trivial
theorem fin.tw17367712702651697676:True:=trivial
theorem fin.tw17382426677952977115:True:=trivial
theorem fin.tw17403993952461513451:True:=trivial
theorem fin.tw17405092777036803270:True:=trivial
theorem fin.tw17490550443658261655:True:=trivial
theorem fin.tw17497384044653587550:True:=trivial
theorem fin.tw17507780133604036630:True:=trivial
theorem fin.tw1756695488919566872:True:=trivial
theorem fin.tw17572628943050503618:True:=trivial
theorem fin.tw1760459659949556912:True:=trivial
theorem fin.tw1762468095632686744:True:=trivial
theorem fin.tw17676370108497383191:True:=trivial
theorem fin.tw1774487488348230048:True:=trivial
theorem fin.tw17751174126797738014:True:=trivial
theorem fin.tw17801176237502626530:True:=trivial
theorem fin.tw17808712238215149565:True:=trivial
theorem fin.tw17815422526759287607:True:=trivial
theorem fin.tw1782557653385649133:True:=trivial
theorem fin.tw17851529462542535704:True:=trivial
theorem fin.tw1786591814142156768:True:=trivial
theorem fin.tw17870461622650377971:True:=trivial
theorem fin.tw17889664323393862910:True:=trivial
theorem fin.tw17978965243732308376:True:=trivial
theorem fin.tw18049670792733563300:True:=trivial
theorem fin.tw18061878447726004089:True:=trivial
theorem fin.tw18111416596337824659:True:=trivial
theorem fin.tw18217444181588553878:True:=trivial
theorem fin.tw1822555842874265722:True:=trivial
theorem fin.tw18230850303737695617:True:=trivial
theorem fin.tw18258702739699397937:True:=trivial
theorem fin.tw18267276709976249006:True:=trivial
theorem fin.tw18304199374698367457:True:=trivial
theorem fin.tw18305244563896863316:True:=trivial
theorem fin.tw18326093330134404023:True:=trivial
theorem fin.tw18348024722865067867:True:=trivial
theorem fin.tw18359831639790005598:True:=trivial
theorem fin.tw18383884582153891543:True:=trivial
theorem fin.tw1843373871816183069:True:=trivial
theorem fin.tw1899298479039496882:True:=trivial
theorem fin.tw1924884993864368095:True:=trivial
theorem fin.tw1926282486692295763:True:=trivial
theorem fin.tw1927341748131895051:True:=trivial
theorem fin.tw193479166602448968:True:=trivial
theorem fin.tw1950042658437101994:True:=trivial
theorem fin.tw1992282939886999841:True:=trivial
theorem fin.tw2005193962085765025:True:=trivial
theorem fin.tw2013573499538432456:True:=trivial
theorem fin.tw2053319275241251331:True:=trivial
theorem fin.tw2065042110328980653:True:=trivial
theorem fin.tw2067356009581370615:True:=trivial
theorem fin.tw2075807722822569211:True:=trivial
theorem fin.tw2093126762689317374:True:=trivial
theorem fin.tw2111008424523219699:True:=trivial
theorem fin.tw2142246565779861945:True:=trivial
theorem fin.tw2222367348276846189:True:=trivial
theorem fin.tw2225830740656305014:True:=trivial
theorem fin.tw2231088294360123128:True:=trivial
theorem fin.tw2298163705763171154:True:=trivial
theorem fin.tw2303841816871181018:True:=trivial
theorem fin.tw2304507573245594120:True:=trivial
theorem fin.tw2319665210841938596:True:=trivial
theorem fin.tw2389371894242673813:True:=trivial
theorem fin.tw2411227103281914080:True:=trivial
theorem fin.tw2458281589698080253:True:=trivial
theorem fin.tw2471491433567289351:True:=trivial
theorem fin.tw2582837821620239396:True:=trivial
theorem fin.tw2623041416059223704:True:=trivial
theorem fin.tw2668735139902573553:True:=trivial
theorem fin.tw2672074330142820413:True:=trivial
theorem fin.tw2686810629243144737:True:=trivial
theorem fin.tw2777873784597383767:True:=trivial
theorem fin.tw2784953666650912415:True:=trivial
theorem fin.tw2831300961885047895:True:=trivial
theorem fin.tw2832719285758901520:True:=trivial
theorem fin.tw2859697498064805113:True:=trivial
theorem fin.tw2877695615546518699:True:=trivial
theorem fin.tw2922205389567996247:True:=trivial
theorem fin.tw2942396688315045822:True:=trivial
theorem fin.tw2963180019789787694:True:=trivial
theorem fin.tw2987068438024194688:True:=trivial
theorem fin.tw302031357825173135:True:=trivial
theorem fin.tw3075823457290342121:True:=trivial
theorem fin.tw3081635913348293676:True:=trivial
theorem fin.tw3143306293639535589:True:=trivial
theorem fin.tw3154711487539058386:True:=trivial
theorem fin.tw3164859423574352977:True:=trivial
theorem fin.tw3166350428417588487:True:=trivial
theorem fin.tw3204201514330459902:True:=trivial
theorem fin.tw3225415209187311972:True:=trivial
theorem fin.tw3241309143330311071:True:=trivial
theorem fin.tw3259727561097786330:True:=trivial
theorem fin.tw3284812988616388399:True:=trivial
theorem fin.tw3291676589430825885:True:=trivial
theorem fin.tw3362020581697521731:True:=trivial
theorem fin.tw3369329008053875776:True:=trivial
theorem fin.tw3372124352283233717:True:=trivial
theorem fin.tw339179083405492265:True:=trivial
theorem fin.tw3458516286207966262:True:=trivial
theorem fin.tw3461576627449299815:True:=trivial
theorem fin.tw3468532265838103333:True:=trivial
theorem fin.tw3485052731119270992:True:=trivial
theorem fin.tw3524825468607569554:True:=trivial
theorem fin.tw3551214526446049719:True:=trivial
theorem fin.tw358883383407531963:True:=trivial
theorem fin.tw3591346508330991105:True:=trivial
theorem fin.tw3609032418198509823:True:=trivial
theorem fin.tw36355025208946619:True:=trivial
theorem fin.tw364659260870562768:True:=trivial
theorem fin.tw3648045012165232011:True:=trivial
theorem fin.tw3729026775820691352:True:=trivial
theorem fin.tw3744667052042127693:True:=trivial
theorem fin.tw3827153074349801881:True:=trivial
theorem fin.tw3830065186380081198:True:=trivial
theorem fin.tw3850753391156195431:True:=trivial
theorem fin.tw3887842251282903678:True:=trivial
theorem fin.tw3893854357075861469:True:=trivial
theorem fin.tw3947647875290263938:True:=trivial
theorem fin.tw3973883270919310198:True:=trivial
theorem fin.tw3999974988048266631:True:=trivial
theorem fin.tw401450657675834961:True:=trivial
theorem fin.tw403723209510414748:True:=trivial
theorem fin.tw4080692684032420285:True:=trivial
theorem fin.tw4090755718833978795:True:=trivial
theorem fin.tw4110493209836507447:True:=trivial
theorem fin.tw4137708413687068251:True:=trivial
theorem fin.tw4149170312656590410:True:=trivial
theorem fin.tw415083717917579486:True:=trivial
theorem fin.tw4193842793225136494:True:=trivial
theorem fin.tw4202405932311538092:True:=trivial
theorem fin.tw4210794121483146420:True:=trivial
theorem fin.tw4233887875564768234:True:=trivial
theorem fin.tw4242307060959347292:True:=trivial
theorem fin.tw4270234628899671759:True:=trivial
theorem fin.tw4306329795006052472:True:=trivial
theorem fin.tw43143259158549800:True:=trivial
theorem fin.tw4316555686772091667:True:=trivial
theorem fin.tw4329951066838320684:True:=trivial
theorem fin.tw4338538923184131922:True:=trivial
theorem fin.tw4345008417907258536:True:=trivial
theorem fin.tw4368442217961896312:True:=trivial
theorem fin.tw4440660885432104164:True:=trivial
theorem fin.tw447841059652388836:True:=trivial
theorem fin.tw4499608828424636342:True:=trivial
theorem fin.tw4527288944889797592:True:=trivial
theorem fin.tw4571393863272343729:True:=trivial
theorem fin.tw4632793915319404799:True:=trivial
theorem fin.tw4664929167478745544:True:=trivial
theorem fin.tw4709110760975780755:True:=trivial
theorem fin.tw4733382143756190017:True:=trivial
theorem fin.tw4772652040318747397:True:=trivial
theorem fin.tw4781409195050689665:True:=trivial
theorem fin.tw48109761597808258:True:=trivial
theorem fin.tw4819352081238163109:True:=trivial
theorem fin.tw4865439984457669208:True:=trivial
theorem fin.tw4876718113578753980:True:=trivial
theorem fin.tw4903321276196179755:True:=trivial
theorem fin.tw4906324749220206463:True:=trivial
theorem fin.tw4911421024668745087:True:=trivial
theorem fin.tw493075759303871932:True:=trivial
theorem fin.tw4935702522589016714:True:=trivial
theorem fin.tw5068429760455950214:True:=trivial
theorem fin.tw5081354488834424462:True:=trivial
theorem fin.tw5090405634821949267:True:=trivial
theorem fin.tw5090740305460321044:True:=trivial
theorem fin.tw5137461089886351155:True:=trivial
theorem fin.tw5237712429660975567:True:=trivial
theorem fin.tw5321512144154391405:True:=trivial
theorem fin.tw5360904708967181729:True:=trivial
theorem fin.tw5361415531462240525:True:=trivial
theorem fin.tw5394761356567239667:True:=trivial
theorem fin.tw5405519914975384177:True:=trivial
theorem fin.tw5413328997934045858:True:=trivial
theorem fin.tw5464735818220816181:True:=trivial
theorem fin.tw5504213739807773925:True:=trivial
theorem fin.tw5557842271988409019:True:=trivial
theorem fin.tw5573569540171526452:True:=trivial
theorem fin.tw5591893660976696991:True:=trivial
theorem fin.tw5608021709066836822:True:=trivial
theorem fin.tw5639334478726127942:True:=trivial
theorem fin.tw5659243373857185480:True:=trivial
theorem fin.tw5710630268834052445:True:=trivial
theorem fin.tw5715935512102088938:True:=trivial
theorem fin.tw5777426015007977494:True:=trivial
theorem fin.tw5783724299334421630:True:=trivial
theorem fin.tw5800964654066253318:True:=trivial
theorem fin.tw5817424916554255205:True:=trivial
theorem fin.tw5822769330399278716:True:=trivial
theorem fin.tw5851184433685413075:True:=trivial
theorem fin.tw5851801125183531796:True:=trivial
theorem fin.tw5897155257031825979:True:=trivial
theorem fin.tw5910005405101859996:True:=trivial
theorem fin.tw5938759870369585484:True:=trivial
theorem fin.tw5951060018038355847:True:=trivial
theorem fin.tw5954334628011988501:True:=trivial
theorem fin.tw6006452360055512145:True:=trivial
theorem fin.tw6033368249412965571:True:=trivial
theorem fin.tw6039387213588814639:True:=trivial
theorem fin.tw6089319508953462050:True:=trivial
theorem fin.tw6146407588150622966:True:=trivial
theorem fin.tw6160278318746985381:True:=trivial
theorem fin.tw6194906951247924608:True:=trivial
theorem fin.tw6197660616995260486:True:=trivial
theorem fin.tw6204523697233530184:True:=trivial
theorem fin.tw6211424757896870482:True:=trivial
theorem fin.tw6214865759962552216:True:=trivial
theorem fin.tw6245523371627125000:True:=trivial
theorem fin.tw6261594215012050701:True:=trivial
theorem fin.tw6264535980514226233:True:=trivial
theorem fin.tw6265300371055846875:True:=trivial
theorem fin.tw6355177784191731080:True:=trivial
theorem fin.tw6405534378581403638:True:=trivial
theorem fin.tw6408894033513605231:True:=trivial
theorem fin.tw6436322892450656229:True:=trivial
theorem fin.tw6489954296673521662:True:=trivial
theorem fin.tw6494460897109443145:True:=trivial
theorem fin.tw654694583751057514:True:=trivial
theorem fin.tw655758171401687013:True:=trivial
theorem fin.tw6559363400069176924:True:=trivial
theorem fin.tw6569248039157227735:True:=trivial
theorem fin.tw6617717300149819883:True:=trivial
theorem fin.tw6623253831264262639:True:=trivial
theorem fin.tw670698272098284844:True:=trivial
theorem fin.tw6739858509444001464:True:=trivial
theorem fin.tw679490402939611082:True:=trivial
theorem fin.tw6805782196363153173:True:=trivial
theorem fin.tw6848054704864564044:True:=trivial
theorem fin.tw686793058979019944:True:=trivial
theorem fin.tw6882469653776878749:True:=trivial
theorem fin.tw6945844652797410072:True:=trivial
theorem fin.tw6976080587702433404:True:=trivial
theorem fin.tw6992839562859069851:True:=trivial
theorem fin.tw70036627400174149:True:=trivial
theorem fin.tw7004120974693217831:True:=trivial
theorem fin.tw7029146105005706768:True:=trivial
theorem fin.tw7045627747351077498:True:=trivial
theorem fin.tw7056639348074376976:True:=trivial
theorem fin.tw7057196080090741619:True:=trivial
theorem fin.tw7068328756223772477:True:=trivial
theorem fin.tw709266261138062935:True:=trivial
theorem fin.tw7119173182990179220:True:=trivial
theorem fin.tw7149954119306332543:True:=trivial
theorem fin.tw7187796282779922742:True:=trivial
theorem fin.tw7198837435271597961:True:=trivial
theorem fin.tw7208655016889017597:True:=trivial
theorem fin.tw7300483859089277090:True:=trivial
theorem fin.tw7346827464360200879:True:=trivial
theorem fin.tw7367103763958869275:True:=trivial
theorem fin.tw7369234335032301380:True:=trivial
theorem fin.tw7392033830427383353:True:=trivial
theorem fin.tw7413661472406123637:True:=trivial
theorem fin.tw7475085968319326428:True:=trivial
theorem fin.tw748581257739681705:True:=trivial
theorem fin.tw7486625136073857102:True:=trivial
theorem fin.tw7492944063583664102:True:=trivial
theorem fin.tw7542810263396207404:True:=trivial
theorem fin.tw7547481670420541123:True:=trivial
theorem fin.tw7550485959853531558:True:=trivial
theorem fin.tw7553186599624231059:True:=trivial
theorem fin.tw755680075625081758:True:=trivial
theorem fin.tw7585356281085385453:True:=trivial
theorem fin.tw7601333858476694761:True:=trivial
theorem fin.tw7627679699511057764:True:=trivial
theorem fin.tw7690288143824071436:True:=trivial
theorem fin.tw7756272061692272218:True:=trivial
theorem fin.tw7796055620434102487:True:=trivial
theorem fin.tw7917885641187607297:True:=trivial
theorem fin.tw7932232492360369566:True:=trivial
theorem fin.tw7939402830262687936:True:=trivial
theorem fin.tw7979937483731265270:True:=trivial
theorem fin.tw8017985559199591872:True:=trivial
theorem fin.tw8032901708519964898:True:=trivial
theorem fin.tw8056830162132315983:True:=trivial
theorem fin.tw8086121793285359537:True:=trivial
theorem fin.tw8107975364947434861:True:=trivial
theorem fin.tw8123426974458658384:True:=trivial
theorem fin.tw8138211742489734316:True:=trivial
theorem fin.tw8168997480859770548:True:=trivial
theorem fin.tw8272667185127315940:True:=trivial
theorem fin.tw8290374431434715908:True:=trivial
theorem fin.tw8316742481880884859:True:=trivial
theorem fin.tw8334960639682471478:True:=trivial
theorem fin.tw8380496369751461820:True:=trivial
theorem fin.tw8405628064388312081:True:=trivial
theorem fin.tw84370608598196685:True:=trivial
theorem fin.tw8463468478498468227:True:=trivial
theorem fin.tw8463981764297957364:True:=trivial
theorem fin.tw857419557916613547:True:=trivial
theorem fin.tw868620330176113057:True:=trivial
theorem fin.tw8699997868502821763:True:=trivial
theorem fin.tw879096738998729684:True:=trivial
theorem fin.tw8804304307337916655:True:=trivial
theorem fin.tw8827624505041938016:True:=trivial
theorem fin.tw8851579021928254536:True:=trivial
theorem fin.tw8865939996980233508:True:=trivial
theorem fin.tw8873142802320841233:True:=trivial
theorem fin.tw8884666341287808908:True:=trivial
theorem fin.tw8922421796085924833:True:=trivial
theorem fin.tw8992944333569150469:True:=trivial
theorem fin.tw9002696411583656333:True:=trivial
theorem fin.tw9039978424516450382:True:=trivial
theorem fin.tw9040096686820372182:True:=trivial
theorem fin.tw9043969222345501967:True:=trivial
theorem fin.tw9063044561202467452:True:=trivial
theorem fin.tw906941095212556784:True:=trivial
theorem fin.tw907388788208265544:True:=trivial
theorem fin.tw9075086464145078051:True:=trivial
theorem fin.tw9084601045415529202:True:=trivial
theorem fin.tw9150613346496913270:True:=trivial
theorem fin.tw9151982319203065131:True:=trivial
theorem fin.tw9162003038368646240:True:=trivial
theorem fin.tw9191307665094092305:True:=trivial
theorem fin.tw9200788267939387854:True:=trivial
theorem fin.tw9254884390393402049:True:=trivial
theorem fin.tw9280377803897316635:True:=trivial
theorem fin.tw9281998050811667320:True:=trivial
theorem fin.tw9320006482614053982:True:=trivial
theorem fin.tw9332456304682044547:True:=trivial
theorem fin.tw9362999279661955675:True:=trivial
theorem fin.tw9370526994402293959:True:=trivial
theorem fin.tw9377643982161390886:True:=trivial
theorem fin.tw9434139747490106690:True:=trivial
theorem fin.tw9470086318399279608:True:=trivial
theorem fin.tw9511379066048165895:True:=trivial
theorem fin.tw9521487962133569829:True:=trivial
theorem fin.tw9534573459992170715:True:=trivial
theorem fin.tw9540101305013350399:True:=trivial
theorem fin.tw9567665406354326009:True:=trivial
theorem fin.tw957409814253645205:True:=trivial
theorem fin.tw9601097234412763036:True:=trivial
theorem fin.tw9667809053637125756:True:=trivial
theorem fin.tw9852420721059971642:True:=trivial
theorem fin.tw9853652781523703998:True:=trivial
theorem fin.tw9863193996221680416:True:=trivial
theorem fin.tw9883144646872038054:True:=trivial
theorem fin.tw9889780094744562753:True:=trivial
theorem fin.tw989344214434648422:True:=trivial
theorem fin.tw9896766970330594443:True:=trivial
theorem fin.tw9954220922458054611:True:=trivial
theorem fin.tw9957523579439319190:True:=trivial
set_option Elab.async true
set_option maxHeartbeats 8000000 in
theorem fin:PySem.Challenge.rw_no0274_01.Holds:=by
 w_on
 o_law
 k_head
 (case hw=>w_witness2)
 k_fill
 intro w s₀ s₁ mg mb G Y fa o pm cd doc dV kV ho hd hcd hD hmg hg args vals as hpre hlay hrd hwl hlo
 have KX:=km_in_of Y
 km_tabs Y
 have X:=(Ground.X G).1
 have V:=(Ground.X G).2
 refine Ground.open G ?_
 intro T B D TE TW
 km_lay T hmg ho hd cd
 wrow_args hpre hlay hrd hwl hlo
 refine enter_call ?_
 w_top on
 kn_posts
 rename_i w1 _ _ _ hcond _
 refine Vn ?kf ?hq KX T hT9 hmg w1 (by omega) λh' t k g=>⟨⟨.inl ⟨_,_,_,rfl,λ_=>rfl,.bool true,?_,λ_=>⟨List.nodup_nil,λ_ q=>nomatch q⟩⟩,k,rfl,hg⟩,g⟩
 case hq=>decide+kernel
 case kf=>
  refine{plain:=HY (l:=FN) (P.y _ (by kernel_rfl)),rest:=P.y _ (by kernel_rfl),dflt:=?_,gi:=λp hp=>?_,gf:=Vh (by kernel_rfl),blt:=by kernel_rfl,fault:=λX hK hf KX hg hb=>?_,made:=by kernel_rfl,tabs:=by kernel_rfl,law:=by kernel_rfl}
  ·refine⟨_,_,_,494,_,_,_,_,rfl,rfl,rfl,rfl,rfl,rfl,λa=>rfl,λa=>?_,?_⟩
   ·kernel_rfl
   ·intro X ρ F h
    show aJ X ρ F h [.b 32,.b 7,.b 15,.b 38,.b 1000000,.b 19,.b 72,.b 40] _
    simp only[cA,cB,du,dv,dw,dx,dy,dz,dA,dB,dC,dD]
    repeat(first|exact⟨_,_,rfl,⟨_,rfl⟩,rfl⟩|refine⟨_,_,rfl,⟨_,rfl⟩,?_⟩)
  ·unfold sr at hp
   simp only[List.mem_cons,List.not_mem_nil,or_false]at hp
   rcases hp with rfl|rfl|rfl|rfl|rfl|rfl|rfl<;>exact⟨_,rfl⟩
  ·exact{
    mg:=by rw[hf];exact mg_of KX hg (by kernel_rfl)
    exMg:=mg_none_of KX hg (by kernel_rfl)
    exMb:=hb
    obj:=⟨_,_,_,_,_,_,_,_,_,_,_,_,_,_,_,by rw[hf];exact KX _ _ rfl⟩
    call:=by rw[hK,hf];kernel_rfl
    typ:=by rw[hK,hf];kernel_rfl
    keep:=by rw[hK,hf];kernel_rfl
    sa:=by rw[hK,hf];kernel_rfl
    text:=by rw[hK,hf];kernel_rfl
    init:=⟨_,_,_,by rw[hK,hf];rfl,by rw[hK];rfl,KX _ _ rfl,rfl,codeRec_of KX (by kernel_rfl),{
     shape:=⟨_,_,_,_,_,_,_,_,_,_,rfl,λ_=>⟨_,rfl⟩,λ_=>rfl,λ_=>rfl,λ_=>rfl⟩
     closure:=rfl,globals:=rfl,builtins:=rfl,kind:=rfl,co:=rfl,gen:=rfl,names:=by kernel_rfl,bind:=λa b=>by kernel_rfl}⟩}
 first|rfl|kernel_rfl
end Mine.Internal
set_option Elab.async false
theorem PySem.Challenge.cw_no0274_01_holds : PySem.Challenge.rw_no0274_01.Holds := by
 exact Mine.Internal.fin
