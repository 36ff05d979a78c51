import PyProof.Rows.All
import OpenK.XOpen
import KE.KEqDict
import KE.KBytesWalk
import KE.BytesMake
import KE.KPop
import KE.KIntText
import Lean
import PySem.Challenge.RW_pq0651_01
set_option Elab.async false
set_option maxRecDepth 100000
set_option linter.all false
set_option genInjectivity false
set_option genSizeOf false
set_option compiler.extract_closed false
open And renaming intro->hZ
open Array renaming any_toList->Gs,mk->p7,toList->N0,toList_inj->Gu
open Bool renaming and_eq_true->cL,and_eq_true_iff->bj,and_self->rC,and_true->zP,eq_false_iff->ET,eq_iff_iff->oH,not_eq_true'->d7,not_false->fx,not_true->eD,or_eq_false_iff->oJ,or_eq_true->oK,or_eq_true_iff->kQ
open Eq renaming trans->yJ
open False renaming elim->T6
open ForInStep renaming yield->gH
open Int renaming add_sub_cancel->Bp,eq_ofNat_of_zero_le->vc,fmod_lt_of_pos->q7,fmod_nonneg_of_pos->m8,lt_of_le_of_lt->Bq,lt_of_lt_of_le->Br,natCast_nonneg->dq,negSucc->qD,negSucc_lt_zero->pR,not_lt->sU,ofNat->am,ofNat_le->N3,ofNat_lt->ib,toNat_of_nonneg->Bd
open Int.negSucc renaming inj->abp
open List renaming all_append->oM,all_cons->rF,all_eq_false->sr,all_eq_true->bZ,any_cons->rG,any_eq_false->EW,any_eq_true->kg,any_toArray->tG,append_assoc->aB,append_nil->aR,append_toArray->Be,cons_append->eZ,contains_iff_mem->w9,drop->Bs,dropLast_eq_take->xa,drop_drop->p9,drop_eq_nil_iff->oN,drop_eq_nil_of_le->hV,drop_zero->l0,filter->Rd,filterMap_cons->kU,find?_cons->oO,flatMap_append->kW,flatMap_cons->aY,flatMap_nil->bI,flatten_cons->mM,foldl->T8,foldl_cons->H3,forIn_cons->gK,getElem?_append_right->kD,getElem?_drop->q8,getElem?_eq_getElem->fb,getElem?_eq_none->n9,getElem?_eq_some_iff->cU,getElem?_map->jM,getElem?_toArray->jT,getElem?_zip_eq_some->sV,getElem_mem->Gw,getLast?_eq_getElem?->sX,isEmpty_cons->EX,isEmpty_iff->eB,isEmpty_nil->Gx,length->na,length_append->ao,length_cons->bT,length_drop->g9,length_eq_zero_iff->mJ,length_filterMap_le->tH,length_map->aS,length_nil->H4,length_range->EY,length_take->kh,lookup->qE,lookup_cons->cD,lookup_cons_self->gn,map->N5,map_append->br,map_congr_left->fX,map_cons->bh,map_id'->tI,map_inj_left->iL,map_map->gL,map_nil->jU,mem_append->cV,mem_cons->aG,mem_cons_of_mem->aQ,mem_cons_self->bf,mem_filterMap->ly,mem_map->dD,mem_of_getElem?->bb,mem_range->qa,mem_range'_1->EZ,mem_singleton->aO,mem_toArray->tJ,nil_append->vt,nodup_cons->dR,nodup_nil->l4,not_mem_nil->bg,of_mem_zip->H5,pairwise_cons->js,pairwise_singleton->vd,push_toArray->E0,range->cB,range'->iV,range'_succ->tK,rec->bu,rel_of_pairwise_cons->k9,replicate->bL,replicate_succ->kX,reverse_cons->E1,size_toArray->aZ,take_append_drop->oa,take_succ_cons->Bf,take_take->Ka,zip_cons_cons->bQ
open List.Perm renaming eq_of_pairwise->N4
open List.cons renaming injEq->vq
open Nat renaming add_assoc->kE,add_comm->lz,add_le_add->aK,add_le_add_left->dy,add_sub_cancel'->Bg,add_sub_cancel_left->mK,beq->aj,beq_refl->N6,ble->cX,ble_eq_true_of_le->gp,blt->bw,blt_eq->dh,eq_of_beq_eq_true->aD,exists_eq_add_of_le->jl,le_add_left->jt,le_add_right->cY,le_antisymm->vu,le_of_ble_eq_true->av,le_of_eq->eH,le_of_lt->i8,le_of_lt_succ->E2,le_of_succ_le->E3,le_of_succ_le_succ->nd,le_refl->ax,le_succ->cR,le_succ_of_le->mN,le_trans->au,le_zero->Rf,log2_lt->Fv,lt_add_of_pos_right->ve,lt_irrefl->zQ,lt_of_add_lt_add_left->sY,lt_of_le_of_lt->fc,lt_of_lt_of_le->fe,lt_of_succ_lt_succ->ng,lt_or_ge->oP,lt_succ_of_lt->cO,lt_succ_self->bU,min->D8,min_eq_left->H7,min_le_right->Gy,mul_le_mul_left->pS,mul_succ->N7,ne_of_gt->oQ,ne_of_lt->ct,noConfusion->dS,not_le->yN,not_lt->ci,not_lt_zero->iw,pow_le_pow_right->iU,pow_lt_pow_right->yO,rec->hH,sub_le->Ua,sub_self->Bt,sub_zero->N8,succ->nP,succ_le_succ->be,succ_ne_zero->ki,succ_sub->N9,succ_sub_succ_eq_sub->tM,zero_add->ic,zero_le->aU,zero_lt_succ->hJ
open Nat.succ renaming inj->jV
open Ne renaming symm->tx
open Option renaming bind_some->nQ,getD_none->tN,getD_some->nR,isNone_iff_eq_none->dG,isSome_iff_exists->fg,map_eq_some_iff->hY,none_or->Kb,rec->bo
open Option.some renaming inj->aH,injEq->Y4
open Prod renaming ext->Oa,rec->Ob
open Prod.mk renaming inj->cK
open PyProof.Rows renaming Assign_Tuple_swapped->yI,Compare_chain->MH,add_int->Ub,add_str->Uc,assign_Name->lA,floordiv_int->Nz,ge_int->V7,getItem_str->Oc,gt_int->V8,in_str->V9,join_list->Rh,join_tuple->Rc,le_int->Wa,len_str->Ud,len_tuple->Ri,lt_int->Wb,mod_int->Ue,mul_int->Uf,neg_int->Ug,notIn_str->Rj,not_of->Wc,pow_int->Uh,sub_int->Ui,truthy_none->Od,truthy_tuple->NA,StrsAre->Sh,isTrue_chain->Oi,slot_str_getitem->GA
open PySem renaming Addr->aC,Around->b7,BindsTo->Sf,ClassData->LA,CmpOp->gW,Comprehension->dQ,Data->Bn,DictEntry->ia,Expr->an,Flow->N1,FuncBody->N2,FuncData->gJ,GenState->yK,Heap->bO,Keyword->tw,Model->lb,NameKind->cQ,Operator->iD,OsState->oc,Program->fY,BoolOp->cF,call->Uk,strKind->rI,strKind_is->tO,wpAt_bind->H9,wpAt_of_wpAny->Bi,Result->tP,Scope->dY,Shared->az,Stmt->bW,UnaryOp->Si,Value->ah,World->dZ,builtinLookup_eq_fast->xi,call_list_seq->MJ,call_meets->mc,codeAny_builtin->Ia,codeAny_call_builtin->oT,codeAny_loop->Og,codeAny_mono->Oh,codeAny_of_tree->Ib,evalPairs_cons->Kf,intKind_is->Ic,pastItsLine_dict->Gz,plainId_quiet->MK,plainObj_wpAny_Assign_Attribute->jj,refuseLoop_ref->Kg,sizeLine_eq->jE,slot_dict_getitem->Fe,slot_list_getitem->Ff,slot_list_setitem->Fg,typeIs_str->me,typeLookup_type->Ie,wpAny_Constant_int->ra,wpAny_Expr_any->Kh,wpAny_askSetting->GB,wpAny_assignInOrder_more->fh,wpAny_assignInOrder_none->tV,wpAny_bind->aq,wpAny_bindName->mf,wpAny_call->oU,wpAny_comprehension_free->tW,wpAny_execs_cons->nS,wpAny_execs_nil->oV,wpAny_getItem_of->GC,wpAny_holding->dJ,wpAny_isSubtype_exc->kZ,wpAny_list_append_plain->vf,wpAny_loadPart->qe,wpAny_loadPart_at->gN,wpAny_lookBehind->GG,wpAny_madeBy_exc->GN,wpAny_mono->jw,wpAny_newObj_type->gO,wpAny_pure->aL,wpAny_pyIter_dict->Fh,wpAny_rule->Ig,wpAny_specialOf->Ih,wpAny_standAt->dA,wpAny_truthy_bool->fO,wpAny_typeOf->Oj,wpAny_unpackItems_tuple->vg
open PySem.Around renaming under_plainId->yH
open PySem.AutoListH renaming list___mul___list_int_3->Fu
open PySem.AutoSeq1 renaming list_extend_list_list_0->Bh
open PySem.BoolOp renaming And->Y7,Or->abq
open PySem.Builtin.BaseException renaming bexcPut->J8
open PySem.Builtin.Int renaming intBits->kR
open PySem.Builtin.List renaming listExtendWith->qV,listFitsIndex->kC,listLengthHint->Lx,listSameRef->tD,listSubscript?->Ly,listTooLong->i6
open PySem.Builtin.Range renaming rangeFitsLong->Lz,rangeSize->mI,small->Bb
open PySem.Builtin.Str renaming glued->Y3,occurrences->Rb,strSliceIndices->qW,strKind->gy
open PySem.Calls renaming Constant_str->oL,Name_function_global->yM,call_len_list->NB,spliced_cons->Bz
open PySem.Challenge renaming pw_pq0651_01->Kc,rw_pq0651_01->co
open PySem.Code renaming builtin->tE,quiet_builtin->Bm
open PySem.DictEntry renaming refKey->Gv
open PySem.Expr.Attribute renaming elim->pP
open PySem.Expr.BinOp renaming elim->vm
open PySem.Expr.BoolOp renaming elim->tF
open PySem.Expr.Call renaming elim->wZ
open PySem.Expr.Compare renaming elim->sj
open PySem.Expr.Constant renaming elim->qX
open PySem.Expr.Dict renaming elim->w0
open PySem.Expr.IfExp renaming elim->vn
open PySem.Expr.List renaming elim->w6
open PySem.Expr.ListComp renaming elim->qY
open PySem.Expr.Name renaming elim->w8
open PySem.Expr.Slice renaming elim->vo
open PySem.Expr.Subscript renaming elim->pQ
open PySem.Expr.Tuple renaming elim->jq
open PySem.Expr.UnaryOp renaming elim->sk
open PySem.F renaming args_str_split_2->qZ,entry_str_split->sp,plainAttrs_list->sq,plain_list_iadd->EU,slot_int_rmul->H1,slot_str_join->vp,slot_str_replace->q6,slot_str_split->nO,type_str_replace->Bo,excBase_Exception->gz
open PySem.Heap renaming MadeExcOf->J9,SameBut->i7,dictOf_iff->jr,get?_none_of_le->yL,get?_push_at->EV,get?_push_of_some->bH,get?_push_size->bp,get?_update_ne->Bc,get?_update_self->jS,lt_size->cv,size_push->p8
open PySem.Heap.SameBut renaming update->ji
open PySem.IsL renaming update->Y8
open PySem.MeetsSeq renaming list_pop_last->Kd
open PySem.NameKind renaming cell->eE,free->dz
open PySem.Obj renaming mapSeq->H8,putName->Rg
open PySem.Pairs renaming nil->We
open PySem.PyData renaming keyHash->qb
open PySem.ScopeKind renaming function->lB
open PySem.Sem.pure renaming elim->zR
open PySem.Stmt.Assign renaming elim->tQ
open PySem.Stmt.Continue renaming elim->q9
open PySem.Stmt.Expr renaming elim->xc
open PySem.Stmt.For renaming elim->zS
open PySem.Stmt.If renaming elim->Bu
open PySem.Stmt.Return renaming elim->tR
open PySem.Stmt.While renaming elim->vv
open PySem.Str renaming append->Ul,empty->Wf,length->Um,ofString->lC
open PySem.StrLaws renaming occBody->ef,occ_eq->xe,subAt_eq->tS
open PySem.Txt renaming join->Oe,replace->Rk,split->LB
open PySem.Value renaming int->Bv,isStr->kM,noConfusion->su,ref->oh,str->gq
open PySem.Value.int renaming elim->xf
open PySem.Value.ref renaming elim->xg
open PySem.Value.str renaming elim->xh
open PySem.W renaming Frag->dL,Looks->H6,SharedT->qc,boot_drawn->sZ,boot_heap->ju,boot_toks->vw,callWith_of->Fx,look_both->Bx,looks_clsIn->wy,looks_findIn->tT,plainGet_of->qF,set_plain->LF
open PySem.W.Fast renaming named_eq->og,sDec_eq->bF,te10110043849684766642->l5,te10501279942588096481->D9,te10792542408131684335->fy,te11788848310118352699->Ea,te11892475500146522536->Eb,te12563942051412417395->l6,te12749700546528644094->Ec,te12862048085361865435->Ed,te12879404354523853263->l7,te13343964577679436407->l8,te13582783067957832011->Ee,te14082659384304107361->Ef,te14364793385576792824->dX,te14374325043358763698->Eg,te14412699480532031325->Eh,te15667345088766844465->Ei,te16286561074155671207->Ej,te17095254045102204799->l9,te17119622794617984870->fz,te17691160309236699985->ma,te17868728402115742887->Ek,te18344453789297297638->fA,te2357444279172408678->E4,te2368527892694137696->aI,te3471404346716756564->bM,te4187177175401517315->mO,te4274047373036748609->E5,te4579403493507170074->E6,te482687673346738481->Fw,te4857012375875476094->E7,te5318747976498570220->iM,te5923862056798008813->mP,te6984425678791042302->iO,te7723801398212525404->E8,te797321630700447069->nh,te8179353310426384613->E9,te8326940854005059898->iP,te8377067652309620493->Fa,te9558739934217749035->Fb,te9572597257264208301->mQ,te9706382859710513879->Fc,te9807087744658564304->Fd
open PySem.W.KIN renaming call_text->Sg
open PySem.W.Looks renaming of_pure->rH
open PySem.W.R renaming allR_eq->cE,anyR_eq->Y5,filterR_eq->yP,mapR_eq->Y6
open PySem.W.S renaming strDecS_eq->Uj
open PySem.W.WData renaming bool->yQ,int->Bw
open PySem.Walks renaming dictKeys->Ke
open PySem.Within renaming cons->Rn,nil->Un
open UInt8 renaming ofNat->Rl
open PySem PySem.W PySem.Calls PyProof.Rows
noncomputable section
namespace Mine
abbrev ac:=List Nat
theorem ae.{u}{α:Sort u}{a b:α}:cond false a b=b:=rfl
theorem af.{u}{α:Sort u}{a b:α}:cond true a b=a:=rfl
theorem ag{p:Prop}[Decidable p](h:decide p=true):p:=of_decide_eq_true h
theorem nn{α:Type}{P:Prop}{r:α}(h:none=some r):P:=Option.noConfusion rfl (heq_of_eq h)
theorem ff{P:Prop}(h:false=true):P:=Bool.noConfusion h
theorem s2{α β:Type}{P:α->β->Prop}{a c:α}{b d:β}(e:some (a,b)=some (c,d))(h:P a b):P c d:=by
 cases e;exact h
theorem s1{α:Type}{P:α->Prop}{a c:α}(e:some a=some c)(h:P a):P c:=by
 cases e;exact h
theorem bS{α:Type}{c:Bool}{x:Option α}{r:α}(h:(bif c then x else none)=some r):c=true/\x=some r:=by
 cases c with
 |true=>exact⟨rfl,h⟩
 |false=>cases h
theorem bN{α:Type}{c:Bool}{x:Option α}{r:α}(h:(bif c then none else x)=some r):c=false/\x=some r:=by
 cases c with
 |false=>exact⟨rfl,h⟩
 |true=>cases h
theorem kS{α:Type}{c:Bool}{x:Option α}{r:α}{P:Prop}(h:(bif c then x else none)=some r)(k:c=true->x=some r->P):P:=k (bS h).1 (bS h).2
theorem kN{α:Type}{c:Bool}{x:Option α}{r:α}{P:Prop}(h:(bif c then none else x)=some r)(k:c=false->x=some r->P):P:=k (bN h).1 (bN h).2
section
variable{P:Prop}
theorem apY{B0:Prop}{B1:Prop}(h:B0/\B1)(k:B0->B1->P):P:=by obtain⟨h0,h1⟩:=h;exact k h0 h1
theorem ug{B0:Prop}{B1:Prop}{B2:Prop}(h:B0/\B1/\B2)(k:B0->B1->B2->P):P:=by obtain⟨h0,h1,h2⟩:=h;exact k h0 h1 h2
theorem Xm{B0:Prop}{B1:Prop}{B2:Prop}{B3:Prop}(h:B0/\B1/\B2/\B3)(k:B0->B1->B2->B3->P):P:=by obtain⟨h0,h1,h2,h3⟩:=h;exact k h0 h1 h2 h3
theorem apZ{B0:Prop}{B1:Prop}{B2:Prop}{B3:Prop}{B4:Prop}{B5:Prop}(h:B0/\B1/\B2/\B3/\B4/\B5)(k:B0->B1->B2->B3->B4->B5->P):P:=by obtain⟨h0,h1,h2,h3,h4,h5⟩:=h;exact k h0 h1 h2 h3 h4 h5
theorem anc{dp:Sort _}{B0:(x0:dp)->Prop}(h: ∃x0:dp,B0 x0)(k:(x0:dp)->B0 x0->P):P:=by obtain⟨x0,h0⟩:=h;exact k x0 h0
theorem eX{dp:Sort _}{B0:(x0:dp)->Prop}{B1:(x0:dp)->Prop}(h: ∃x0:dp,B0 x0/\B1 x0)(k:(x0:dp)->B0 x0->B1 x0->P):P:=by obtain⟨x0,h0,h1⟩:=h;exact k x0 h0 h1
theorem uh{dp:Sort _}{B0:(x0:dp)->Prop}{B1:(x0:dp)->Prop}{B2:(x0:dp)->Prop}(h: ∃x0:dp,B0 x0/\B1 x0/\B2 x0)(k:(x0:dp)->B0 x0->B1 x0->B2 x0->P):P:=by obtain⟨x0,h0,h1,h2⟩:=h;exact k x0 h0 h1 h2
theorem ui{dp:Sort _}{B0:(x0:dp)->Prop}{B1:(x0:dp)->Prop}{B2:(x0:dp)->Prop}{B3:(x0:dp)->Prop}(h: ∃x0:dp,B0 x0/\B1 x0/\B2 x0/\B3 x0)(k:(x0:dp)->B0 x0->B1 x0->B2 x0->B3 x0->P):P:=by obtain⟨x0,h0,h1,h2,h3⟩:=h;exact k x0 h0 h1 h2 h3
theorem ane{dp:Sort _}{B0:(x0:dp)->Prop}{B1:(x0:dp)->Prop}{B2:(x0:dp)->Prop}{B3:(x0:dp)->Prop}{B4:(x0:dp)->Prop}(h: ∃x0:dp,B0 x0/\B1 x0/\B2 x0/\B3 x0/\B4 x0)(k:(x0:dp)->B0 x0->B1 x0->B2 x0->B3 x0->B4 x0->P):P:=by obtain⟨x0,h0,h1,h2,h3,h4⟩:=h;exact k x0 h0 h1 h2 h3 h4
theorem ap0{dp:Sort _}{fN:(x0:dp)->Sort _}{B0:(x0:dp)->(x1:fN x0)->Prop}(h: ∃x0:dp,∃x1:fN x0,B0 x0 x1)(k:(x0:dp)->(x1:fN x0)->B0 x0 x1->P):P:=by obtain⟨x0,x1,h0⟩:=h;exact k x0 x1 h0
theorem SS{dp:Sort _}{fN:(x0:dp)->Sort _}{B0:(x0:dp)->(x1:fN x0)->Prop}{B1:(x0:dp)->(x1:fN x0)->Prop}(h: ∃x0:dp,∃x1:fN x0,B0 x0 x1/\B1 x0 x1)(k:(x0:dp)->(x1:fN x0)->B0 x0 x1->B1 x0 x1->P):P:=by obtain⟨x0,x1,h0,h1⟩:=h;exact k x0 x1 h0 h1
theorem ago{dp:Sort _}{fN:(x0:dp)->Sort _}{B0:(x0:dp)->(x1:fN x0)->Prop}{B1:(x0:dp)->(x1:fN x0)->Prop}{B2:(x0:dp)->(x1:fN x0)->Prop}(h: ∃x0:dp,∃x1:fN x0,B0 x0 x1/\B1 x0 x1/\B2 x0 x1)(k:(x0:dp)->(x1:fN x0)->B0 x0 x1->B1 x0 x1->B2 x0 x1->P):P:=by obtain⟨x0,x1,h0,h1,h2⟩:=h;exact k x0 x1 h0 h1 h2
theorem Xn{dp:Sort _}{fN:(x0:dp)->Sort _}{B0:(x0:dp)->(x1:fN x0)->Prop}{B1:(x0:dp)->(x1:fN x0)->Prop}{B2:(x0:dp)->(x1:fN x0)->Prop}{B3:(x0:dp)->(x1:fN x0)->Prop}(h: ∃x0:dp,∃x1:fN x0,B0 x0 x1/\B1 x0 x1/\B2 x0 x1/\B3 x0 x1)(k:(x0:dp)->(x1:fN x0)->B0 x0 x1->B1 x0 x1->B2 x0 x1->B3 x0 x1->P):P:=by obtain⟨x0,x1,h0,h1,h2,h3⟩:=h;exact k x0 x1 h0 h1 h2 h3
theorem anf{dp:Sort _}{fN:(x0:dp)->Sort _}{B0:(x0:dp)->(x1:fN x0)->Prop}{B1:(x0:dp)->(x1:fN x0)->Prop}{B2:(x0:dp)->(x1:fN x0)->Prop}{B3:(x0:dp)->(x1:fN x0)->Prop}{B4:(x0:dp)->(x1:fN x0)->Prop}(h: ∃x0:dp,∃x1:fN x0,B0 x0 x1/\B1 x0 x1/\B2 x0 x1/\B3 x0 x1/\B4 x0 x1)(k:(x0:dp)->(x1:fN x0)->B0 x0 x1->B1 x0 x1->B2 x0 x1->B3 x0 x1->B4 x0 x1->P):P:=by obtain⟨x0,x1,h0,h1,h2,h3,h4⟩:=h;exact k x0 x1 h0 h1 h2 h3 h4
theorem abV{dp:Sort _}{fN:(x0:dp)->Sort _}{B0:(x0:dp)->(x1:fN x0)->Prop}{B1:(x0:dp)->(x1:fN x0)->Prop}{B2:(x0:dp)->(x1:fN x0)->Prop}{B3:(x0:dp)->(x1:fN x0)->Prop}{B4:(x0:dp)->(x1:fN x0)->Prop}{B5:(x0:dp)->(x1:fN x0)->Prop}(h: ∃x0:dp,∃x1:fN x0,B0 x0 x1/\B1 x0 x1/\B2 x0 x1/\B3 x0 x1/\B4 x0 x1/\B5 x0 x1)(k:(x0:dp)->(x1:fN x0)->B0 x0 x1->B1 x0 x1->B2 x0 x1->B3 x0 x1->B4 x0 x1->B5 x0 x1->P):P:=by obtain⟨x0,x1,h0,h1,h2,h3,h4,h5⟩:=h;exact k x0 x1 h0 h1 h2 h3 h4 h5
theorem Xo{dp:Sort _}{fN:(x0:dp)->Sort _}{si:(x0:dp)->(x1:fN x0)->Sort _}{B0:(x0:dp)->(x1:fN x0)->(x2:si x0 x1)->Prop}{B1:(x0:dp)->(x1:fN x0)->(x2:si x0 x1)->Prop}(h: ∃x0:dp,∃x1:fN x0,∃x2:si x0 x1,B0 x0 x1 x2/\B1 x0 x1 x2)(k:(x0:dp)->(x1:fN x0)->(x2:si x0 x1)->B0 x0 x1 x2->B1 x0 x1 x2->P):P:=by obtain⟨x0,x1,x2,h0,h1⟩:=h;exact k x0 x1 x2 h0 h1
theorem Xp{dp:Sort _}{fN:(x0:dp)->Sort _}{si:(x0:dp)->(x1:fN x0)->Sort _}{B0:(x0:dp)->(x1:fN x0)->(x2:si x0 x1)->Prop}{B1:(x0:dp)->(x1:fN x0)->(x2:si x0 x1)->Prop}{B2:(x0:dp)->(x1:fN x0)->(x2:si x0 x1)->Prop}(h: ∃x0:dp,∃x1:fN x0,∃x2:si x0 x1,B0 x0 x1 x2/\B1 x0 x1 x2/\B2 x0 x1 x2)(k:(x0:dp)->(x1:fN x0)->(x2:si x0 x1)->B0 x0 x1 x2->B1 x0 x1 x2->B2 x0 x1 x2->P):P:=by obtain⟨x0,x1,x2,h0,h1,h2⟩:=h;exact k x0 x1 x2 h0 h1 h2
theorem Xq{dp:Sort _}{fN:(x0:dp)->Sort _}{si:(x0:dp)->(x1:fN x0)->Sort _}{B0:(x0:dp)->(x1:fN x0)->(x2:si x0 x1)->Prop}{B1:(x0:dp)->(x1:fN x0)->(x2:si x0 x1)->Prop}{B2:(x0:dp)->(x1:fN x0)->(x2:si x0 x1)->Prop}{B3:(x0:dp)->(x1:fN x0)->(x2:si x0 x1)->Prop}(h: ∃x0:dp,∃x1:fN x0,∃x2:si x0 x1,B0 x0 x1 x2/\B1 x0 x1 x2/\B2 x0 x1 x2/\B3 x0 x1 x2)(k:(x0:dp)->(x1:fN x0)->(x2:si x0 x1)->B0 x0 x1 x2->B1 x0 x1 x2->B2 x0 x1 x2->B3 x0 x1 x2->P):P:=by obtain⟨x0,x1,x2,h0,h1,h2,h3⟩:=h;exact k x0 x1 x2 h0 h1 h2 h3
theorem ap1{dp:Sort _}{fN:(x0:dp)->Sort _}{si:(x0:dp)->(x1:fN x0)->Sort _}{B0:(x0:dp)->(x1:fN x0)->(x2:si x0 x1)->Prop}{B1:(x0:dp)->(x1:fN x0)->(x2:si x0 x1)->Prop}{B2:(x0:dp)->(x1:fN x0)->(x2:si x0 x1)->Prop}{B3:(x0:dp)->(x1:fN x0)->(x2:si x0 x1)->Prop}{B4:(x0:dp)->(x1:fN x0)->(x2:si x0 x1)->Prop}(h: ∃x0:dp,∃x1:fN x0,∃x2:si x0 x1,B0 x0 x1 x2/\B1 x0 x1 x2/\B2 x0 x1 x2/\B3 x0 x1 x2/\B4 x0 x1 x2)(k:(x0:dp)->(x1:fN x0)->(x2:si x0 x1)->B0 x0 x1 x2->B1 x0 x1 x2->B2 x0 x1 x2->B3 x0 x1 x2->B4 x0 x1 x2->P):P:=by obtain⟨x0,x1,x2,h0,h1,h2,h3,h4⟩:=h;exact k x0 x1 x2 h0 h1 h2 h3 h4
end
inductive AV where
 |unb
 |none
 |opq
 |bool(b:Bool)
 |int(i:Int)
 |str(s:List Nat)
 |bytes(s:List UInt8)
 |tup(l:List AV)
 |lst(l:List AV)
 |frz(c:Nat)(ks:List Nat)(vs:List AV)
 |dct(ks:List (List Nat))(vs:List AV)
 |dcti(ks:List Int)(vs:List AV)
 |rng(a b:Nat)
 |ref(a:Nat)
 |glob(v:ah)
 deriving Inhabited
abbrev aa:=List AV
inductive bJ where
 |lst(l:List AV)
 |inst(c:Nat)(ks:List Nat)(vs:List AV)
 |dct(ks:List (List Nat))(vs:List AV)
 |orc(k:Nat)(l:List AV)
 deriving Inhabited
mutual
noncomputable def noRef:AV->Bool
 | .ref _=>false
 | .tup l=>aN l
 | .lst l=>aN l
 | .frz _ _ l=>aN l
 | .dct _ l=>aN l
 | .dcti _ l=>aN l
 |_=>true
noncomputable def aN:List AV->Bool
 |[]=>true
 |a::l=>noRef a&&aN l
end
noncomputable def Es:bJ->Bool
 | .lst l=>aN l
 | .inst _ _ l=>aN l
 | .dct _ l=>aN l
 | .orc _ _=>false
noncomputable def IJ(K:dL)(C:aC)(name:Str):Bool:=plainGet K C name&&hasDictIn K C&&(match findIn K (.ref C) name with
 |some attr=>noGet K attr
 |none=>false)&&findIn K (.ref C) "__setattr__" ==some (some (.builtin "object.__setattr__"))&&plainOver K C&&takerIn K C name==some none
noncomputable def SJ(c k:Nat):Bool:=aj c 1021&&aj k 18
structure PC where
 prog:fY
 w:dZ
 K:dL
 fname:Nat->Str
 pi:bO
 mg:Str->Option ah
 mb:Str->Option ah
 g:pi.Ns mainGlobals mg
 b:pi.Ns builtinsNs mb
 nolimit:pi.NoLimit
 boot: ∀x:Str,x≠ "__name__" ->mb x=bootBuiltins x
 inK:K.In pi
 sys: ∃o,pi.get? sysModules=some o
 cls:Nat->Bool
 nf:Nat
 attr: ∀c k,cls c=true->k<nf->SJ c k=false->IJ K c (fname k)=true
 conc:Nat->List AV->bJ->Prop
 concFree: ∀k l c,conc k l c->Es c=true
 concInst: ∀k l c,conc k l c->cls k=true-> ∃ks vs,c= .inst k ks vs
 fnameInj: ∀i j,i<nf->j<nf->fname i=fname j->i=j
structure Wd where
 ρ:Nat->Option (aC×aC)
 im:aC->Option Obj
 pr:aC->Option Obj
noncomputable def aP(s:ac):Str:=⟨s.toArray⟩
abbrev tu(vs:List ah)(n:Nat):Obj:={cls:=.type "tuple",data:=.seq vs.toArray n}
abbrev dC(vs:List ah)(n:Nat):Obj:={cls:=.type "list",data:=.seq vs.toArray n}
def oY(C:PC):List Nat->List ah->List ia->Prop
 |k::ks,v::vs,e::es=>k<C.nf/\(∃t,e.key= .str (C.fname k) t)/\e.val=v/\oY C ks vs es
 |[],[],[]=>True
 |_,_,_=>False
def Em(C:PC)(ks:List (List Nat))(vs:List ah)(o:Obj):Prop:=ks.length=vs.length/\o.IsDictOf (strKind C.prog C.w) ((ks.map aP).zip vs)
def abw(C:PC)(ks:List Int)(vs:List ah)(o:Obj):Prop:=ks.length=vs.length/\o.IsDictOf (intKind C.prog C.w) (ks.zip vs)
mutual
def V(C:PC)(W:Wd):AV->ah->Prop
 | .unb,_=>False
 | .none,v=>v= .none
 | .opq,_=>True
 | .bool b,v=>v= .bool b
 | .int i,v=> ∃t,v= .int i t
 | .str s,v=> ∃t,v= .str (aP s) t
 | .bytes s,v=> ∃t,v= .bytes s.toArray t
 | .tup l,v=> ∃x n vs,v= .ref x/\W.im x=some (tu vs n)/\VL C W l vs
 | .lst l,v=> ∃x n vs,v= .ref x/\W.im x=some (dC vs n)/\VL C W l vs
 | .frz c ks fs,v=> ∃x d es n vs,v= .ref x/\C.cls c=true/\W.im x=some (instObj c d)/\W.im d=some (dictOf es n)/\VL C W fs vs/\oY C ks vs es
 | .dct ks fs,v=> ∃x o vs,v= .ref x/\(x==sysModules)=false/\W.im x=some o/\VL C W fs vs/\Em C ks vs o
 | .dcti ks fs,v=> ∃x o vs,v= .ref x/\(x==sysModules)=false/\W.im x=some o/\VL C W fs vs/\abw C ks vs o
 | .rng a b,v=> ∃x t u w,v= .ref x/\W.im x=some {cls:=.type "range",dict:=none,data:=.fields #[.int a t,.int b u,.int 1 w],slots:= #[]}/\a<2^20/\b<2^20
 | .ref a,v=> ∃p,W.ρ a=some p/\v= .ref p.1
 | .glob a,v=>v=a
def VL(C:PC)(W:Wd):List AV->List ah->Prop
 |[],vs=>vs=[]
 |a::l,vs=> ∃v r,vs=v::r/\V C W a v/\VL C W l r
end
def Wd.le0(W W':Wd):Prop:=(∀a p,W.ρ a=some p->W'.ρ a=some p)/\(∀x o,W.im x=some o->W'.im x=some o)
def Wd.le(W W':Wd):Prop:=(∀a p,W.ρ a=some p->W'.ρ a=some p)/\(∀x o,W.im x=some o->W'.im x=some o)/\W'.pr=W.pr
theorem Wd.le.refl(W:Wd):W.le W:=⟨fun _ _ e=>e,fun _ _ e=>e,rfl⟩
theorem Wd.le.trans{W W' W'':Wd}(h:W.le W')(h':W'.le W''):W.le W'':=
 ⟨fun a p e=>h'.1 _ _ (h.1 a p e),fun x o q=>h'.2.1 x o (h.2.1 x o q),h'.2.2.trans h.2.2⟩
mutual
theorem V.mono0{C:PC}{W W':Wd}(h:W.le0 W'): ∀{a:AV} {v:ah},V C W a v->V C W' a v
 | .unb,_,x=>x
 | .none,_,x=>x
 | .opq,_,x=>x
 | .bool _,_,x=>x
 | .int _,_,x=>x
 | .str _,_,x=>x
 | .bytes _,_,x=>x
 | .tup _,_,y=>by obtain⟨x,n,vs,e,q,r⟩:=y;exact⟨x,n,vs,e,h.2 _ _ q,r.mono0 h⟩
 | .lst _,_,y=>by obtain⟨x,n,vs,e,q,r⟩:=y;exact⟨x,n,vs,e,h.2 _ _ q,r.mono0 h⟩
 | .frz _ _ _,_,y=>by obtain⟨x,d,es,n,vs,e,q0,q1,q2,r,z⟩:=y;exact⟨x,d,es,n,vs,e,q0,h.2 _ _ q1,h.2 _ _ q2,r.mono0 h,z⟩
 | .dct _ _,_,y=>by obtain⟨x,o,vs,e,q0,q1,r,z⟩:=y;exact⟨x,o,vs,e,q0,h.2 _ _ q1,r.mono0 h,z⟩
 | .dcti _ _,_,y=>by obtain⟨x,o,vs,e,q0,q1,r,z⟩:=y;exact⟨x,o,vs,e,q0,h.2 _ _ q1,r.mono0 h,z⟩
 | .rng _ _,_,y=>by obtain⟨x,t,u,w,e,q,z⟩:=y;exact⟨x,t,u,w,e,h.2 _ _ q,z⟩
 | .ref _,_,y=>by obtain⟨p,e,q⟩:=y;exact⟨p,h.1 _ _ e,q⟩
 | .glob _,_,x=>x
theorem VL.mono0{C:PC}{W W':Wd}(h:W.le0 W'): ∀{l:aa} {vs:List ah},VL C W l vs->VL C W' l vs
 |[],_,x=>x
 |_::_,_,⟨v,r,e,q,z⟩=>⟨v,r,e,q.mono0 h,z.mono0 h⟩
end
theorem Wd.le.to0{W W':Wd}(h:W.le W'):W.le0 W':=⟨h.1,h.2.1⟩
theorem V.mono{C:PC}{W W':Wd}(h:W.le W'){a:AV}{v:ah}(x:V C W a v):V C W' a v:=x.mono0 h.to0
theorem VL.mono{C:PC}{W W':Wd}(h:W.le W'){l:aa}{vs:List ah}(x:VL C W l vs):VL C W' l vs:=x.mono0 h.to0
theorem VL.length{C:PC}{W:Wd}: ∀{l:aa} {vs:List ah},VL C W l vs->vs.length=l.length
 |[],_,e=>by rw[show _=[] from e];rfl
 |_::_,_,⟨_,_,e,_,z⟩=>by rw[e,bT,bT,z.length]
theorem VL.get{C:PC}{W:Wd}: ∀{l:aa} {vs:List ah} {i:Nat} {a:AV},VL C W l vs->l[i]? =some a-> ∃v,vs[i]? =some v/\V C W a v
 |_::_,_,0,_,⟨v,r,e,q,_⟩,h=>by cases h;subst e;exact⟨v,rfl,q⟩
 |_::_,_,i+1,_,⟨v,r,e,_,z⟩,h=>by
  subst e
  exact z.get (i:=i) h
theorem VL.append{C:PC}{W:Wd}: ∀{l l':aa} {vs vs':List ah},VL C W l vs->VL C W l' vs'->VL C W (l++l') (vs++vs')
 |[],_,_,_,e,h=>by rw[show _=[] from e];exact h
 |_::_,_,_,_,⟨v,r,e,q,z⟩,h=>by subst e;exact⟨v,_,rfl,q,z.append h⟩
theorem VL.nil{C:PC}{W:Wd}:VL C W [] []:=rfl
theorem VL.cons{C:PC}{W:Wd}{a:AV}{v:ah}{l:aa}{vs:List ah}(h:V C W a v)(r:VL C W l vs):VL C W (a::l) (v::vs):=⟨v,vs,rfl,h,r⟩
theorem VL.one{C:PC}{W:Wd}{a:AV}{v:ah}(h:V C W a v):VL C W [a] [v]:=⟨v,[],rfl,h,rfl⟩
theorem VL.set{C:PC}{W:Wd}: ∀{l:aa} {vs:List ah} {i:Nat} {a:AV} {v:ah},VL C W l vs->V C W a v->VL C W (l.set i a) (vs.set i v)
 |[],_,_,_,_,e,_=>by rw[show _=[] from e];rfl
 |_::_,_,0,_,_,⟨v,r,e,q,z⟩,h=>by subst e;exact⟨_,_,rfl,h,z⟩
 |_::_,_,i+1,_,_,⟨v,r,e,q,z⟩,h=>by subst e;exact⟨_,_,rfl,q,z.set (i:=i) h⟩
theorem VL.take{C:PC}{W:Wd}: ∀{l:aa} {vs:List ah} (i:Nat),VL C W l vs->VL C W (l.take i) (vs.take i)
 |[],_,i,e=>by rw[show _=[] from e];simp;exact VL.nil
 |_::_,_,0,_=>VL.nil
 |_::_,_,i+1,⟨v,r,e,q,z⟩=>by subst e;exact⟨_,_,rfl,q,z.take i⟩
theorem VL.drop{C:PC}{W:Wd}: ∀{l:aa} {vs:List ah} (i:Nat),VL C W l vs->VL C W (l.drop i) (vs.drop i)
 |[],_,i,e=>by rw[show _=[] from e];simp;exact VL.nil
 |_::_,_,0,h=>h
 |_::_,_,i+1,⟨v,r,e,q,z⟩=>by subst e;exact z.drop i
structure AS where
 next:Nat
 cells:List (Nat×bJ)
 deriving Inhabited
theorem bR{α:Type}(c:Bool)(x y:α):Bool.rec (motive:=fun _=>α) y x c=cond c x y:=by cases c<;>rfl
def lk(a:Nat)(l:List (Nat×bJ)):Option bJ:=bu (motive:=fun _=>Option bJ) none (fun p _ ih=>Bool.rec (motive:=fun _=>Option bJ) ih (some p.2) (aj a p.1)) l
theorem aci(a:Nat):lk a []=none:=rfl
theorem nq(a b:Nat)(c:bJ)(r:List (Nat×bJ)):lk a ((b,c)::r)=bif aj a b then some c else lk a r:=bR _ _ _
def lx(a:Nat)(c:bJ)(l:List (Nat×bJ)):List (Nat×bJ):=bu (motive:=fun _=>List (Nat×bJ)) [] (fun p r ih=>Bool.rec (motive:=fun _=>List (Nat×bJ)) (p::ih) ((p.1,c)::r) (aj a p.1)) l
theorem akC(a:Nat)(c:bJ):lx a c []=[]:=rfl
theorem EQ(a:Nat)(c:bJ)(b:Nat)(d:bJ)(r:List (Nat×bJ)):lx a c ((b,d)::r)=bif aj a b then(b,c)::r else(b,d)::lx a c r:=bR _ _ _
def drp(a:Nat)(l:List (Nat×bJ)):List (Nat×bJ):=bu (motive:=fun _=>List (Nat×bJ)) [] (fun p _ ih=>Bool.rec (motive:=fun _=>List (Nat×bJ)) (p::ih) ih (aj a p.1)) l
theorem agk(a:Nat):drp a []=[]:=rfl
theorem adl(a b:Nat)(d:bJ)(r:List (Nat×bJ)):drp a ((b,d)::r)=bif aj a b then drp a r else(b,d)::drp a r:=bR _ _ _
def AS.get(σ:AS)(a:Nat):Option bJ:=lk a σ.cells
def AS.set(σ:AS)(a:Nat)(c:bJ):AS:=⟨σ.next,lx a c σ.cells⟩
noncomputable def AS.alloc(σ:AS)(c:bJ):AS:=⟨σ.next+1,(σ.next,c)::σ.cells⟩
def AS.drop(σ:AS)(a:Nat):AS:=⟨σ.next,drp a σ.cells⟩
theorem f8(a b:Nat):aj a b=decide (a=b):=by
 cases h:aj a b with
 |true=>rw[decide_eq_true (aD h)]
 |false=>rw[decide_eq_false (Nat.ne_of_beq_eq_false h)]
theorem AS.get_set(σ:AS)(a:Nat)(c:bJ)(b:Nat):(σ.set a c).get b=if b=a then(σ.get a).map (fun _=>c)else σ.get b:=by
 obtain⟨n,l⟩:=σ
 simp only[AS.get,AS.set]
 induction l with
 |nil=>simp[aci,akC]
 |cons p r ih=>
  obtain⟨x,d⟩:=p
  simp only[EQ,nq,f8]
  by_cases h:a=x
  ·subst h
   simp only[decide_true,af,nq,f8,Option.map_some]
   by_cases q:b=a<;>simp[q]
  ·simp only[h,decide_false,ae,nq,f8]
   rw[ih]
   by_cases q:b=x
   ·subst q
    have:b≠a:=fun e=>h e.symm
    simp[this]
   ·simp[q]
theorem AS.get_alloc(σ:AS)(c:bJ)(b:Nat):(σ.alloc c).get b=if b=σ.next then some c else σ.get b:=by
 simp only[AS.get,AS.alloc,nq,f8]
 by_cases q:b=σ.next<;>simp[q]
theorem AS.get_drop(σ:AS)(a b:Nat):(σ.drop a).get b=if b=a then none else σ.get b:=by
 obtain⟨n,l⟩:=σ
 simp only[AS.get,AS.drop]
 induction l with
 |nil=>simp[aci,agk]
 |cons p r ih=>
  obtain⟨x,d⟩:=p
  simp only[adl,nq,f8]
  by_cases h:a=x
  ·subst h
   simp only[decide_true,af]
   rw[ih]
   by_cases q:b=a<;>simp[q]
  ·simp only[h,decide_false,ae,nq,f8]
   rw[ih]
   by_cases q:b=x
   ·subst q
    have:b≠a:=fun e=>h e.symm
    simp[this]
   ·simp[q]
def iQ(C:PC)(W:Wd)(h:bO)(p:aC×aC):bJ->Prop
 | .lst l=>p.1=p.2/\ ∃vs n,h.get? p.2=some (dC vs n)/\VL C W l vs
 | .inst k ks fs=>C.cls k=true/\W.im p.1=some (instObj k p.2)/\ ∃es n vs,h.get? p.2=some (dictOf es n)/\VL C W fs vs/\oY C ks vs es
 | .dct ks fs=>p.1=p.2/\(p.2==sysModules)=false/\ ∃o vs,h.get? p.2=some o/\VL C W fs vs/\Em C ks vs o
 | .orc _ _=>False
def d4(C:PC)(W:Wd)(h:bO)(p:aC×aC):bJ->Prop
 | .lst l=>p.1=p.2/\ ∃vs n,h.get? p.2=some (dC vs n)/\VL C W l vs
 | .inst k ks fs=>C.cls k=true/\W.im p.1=some (instObj k p.2)/\ ∃es n vs,h.get? p.2=some (dictOf es n)/\VL C W fs vs/\oY C ks vs es
 | .dct ks fs=>p.1=p.2/\(p.2==sysModules)=false/\ ∃o vs,h.get? p.2=some o/\VL C W fs vs/\Em C ks vs o
 | .orc k l=> ∃c,C.conc k l c/\iQ C W h p c
noncomputable def bJ.isOrc:bJ->Bool
 | .orc _ _=>true
 |_=>false
theorem d4.to0{C:PC}{W:Wd}{h:bO}{p:aC×aC}{c:bJ}(hc:c.isOrc=false)(x:d4 C W h p c):iQ C W h p c:=by
 cases c with
 |orc=>cases hc
 |lst=>exact x
 |inst=>exact x
 |dct=>exact x
theorem iQ.to{C:PC}{W:Wd}{h:bO}{p:aC×aC}{c:bJ}(x:iQ C W h p c):d4 C W h p c:=by
 cases c with
 |orc=>exact x.elim
 |_=>exact x
structure cC(C:PC)(W:Wd)(σ:AS)(h:bO):Prop where
 base: ∀b o,C.pi.get? b=some o->W.im b=some o
 im: ∀b o,W.im b=some o->h.get? b=some o
 pr: ∀b o,W.pr b=some o->h.get? b=some o
 dis: ∀b o,W.pr b=some o->W.im b=none
 fresh: ∀a,σ.next<=a->W.ρ a=none
 cell: ∀a c,σ.get a=some c-> ∃p,W.ρ a=some p/\d4 C W h p c/\W.im p.2=none/\W.pr p.2=none
 inj: ∀a b ca cb p q,σ.get a=some ca->σ.get b=some cb->W.ρ a=some p->W.ρ b=some q->p.2=q.2->a=b
theorem iQ.keeps{C:PC}{W:Wd}{h h':bO}{p:aC×aC}{c:bJ}(x:iQ C W h p c)(k: ∀o,h.get? p.2=some o->h'.get? p.2=some o):iQ C W h' p c:=by
 cases c with
 |lst l=>obtain⟨a,vs,n,b,r⟩:=x;exact⟨a,vs,n,k _ b,r⟩
 |inst cc ks fs=>obtain⟨q0,a,es,n,vs,b,r⟩:=x;exact⟨q0,a,es,n,vs,k _ b,r⟩
 |dct ks fs=>obtain⟨a,q0,o,vs,b,r⟩:=x;exact⟨a,q0,o,vs,k _ b,r⟩
 |orc=>exact x
theorem d4.keeps{C:PC}{W:Wd}{h h':bO}{p:aC×aC}{c:bJ}(x:d4 C W h p c)(k: ∀o,h.get? p.2=some o->h'.get? p.2=some o):d4 C W h' p c:=by
 cases c with
 |orc kk l=>obtain⟨c,q,x⟩:=x;exact⟨c,q,x.keeps k⟩
 |_=>exact(iQ.keeps (x.to0 rfl) k).to
theorem iQ.mono{C:PC}{W W':Wd}{h:bO}{p:aC×aC}{c:bJ}(l:W.le0 W')(x:iQ C W h p c):iQ C W' h p c:=by
 cases c with
 |lst _=>obtain⟨a,vs,n,b,r⟩:=x;exact⟨a,vs,n,b,r.mono0 l⟩
 |inst cc ks fs=>obtain⟨q0,a,es,n,vs,b,r,z⟩:=x;exact⟨q0,l.2 _ _ a,es,n,vs,b,r.mono0 l,z⟩
 |dct ks fs=>obtain⟨a,q0,o,vs,b,r,z⟩:=x;exact⟨a,q0,o,vs,b,r.mono0 l,z⟩
 |orc=>exact x
theorem d4.mono0{C:PC}{W W':Wd}{h:bO}{p:aC×aC}{c:bJ}(l:W.le0 W')(x:d4 C W h p c):d4 C W' h p c:=by
 cases c with
 |orc kk ll=>obtain⟨c,q,x⟩:=x;exact⟨c,q,x.mono l⟩
 |_=>exact(iQ.mono l (x.to0 rfl)).to
theorem d4.mono{C:PC}{W W':Wd}{h:bO}{p:aC×aC}{c:bJ}(l:W.le W')(x:d4 C W h p c):d4 C W' h p c:=x.mono0 l.to0
theorem iQ.some{C:PC}{W:Wd}{h:bO}{p:aC×aC}{c:bJ}(x:iQ C W h p c): ∃o,h.get? p.2=some o:=by
 cases c with
 |lst _=>obtain⟨a,vs,n,b,r⟩:=x;exact⟨_,b⟩
 |inst cc ks fs=>obtain⟨q0,a,es,n,vs,b,r,z⟩:=x;exact⟨_,b⟩
 |dct ks fs=>obtain⟨a,q0,o,vs,b,r,z⟩:=x;exact⟨_,b⟩
 |orc=>exact x.elim
theorem d4.some{C:PC}{W:Wd}{h:bO}{p:aC×aC}{c:bJ}(x:d4 C W h p c): ∃o,h.get? p.2=some o:=by
 cases c with
 |orc kk l=>obtain⟨c,q,x⟩:=x;exact x.some
 |_=>exact(x.to0 rfl).some
section
variable{C:PC}{W:Wd}{σ:AS}{h h':bO}
theorem cC.keeps(R:cC C W σ h)(k: ∀b o,h.get? b=some o->h'.get? b=some o):cC C W σ h':=
 ⟨R.base,fun b o e=>k _ _ (R.im b o e),fun b o e=>k _ _ (R.pr b o e),R.dis,R.fresh,
  fun a c e=>let⟨p,a1,a2,a3⟩:=R.cell a c e;⟨p,a1,a2.keeps fun o q=>k _ _ q,a3⟩,R.inj⟩
theorem cC.keepsBut(R:cC C W σ h){d:aC}(hi:W.im d=none)(hp:W.pr d=none)(hc: ∀a c p,σ.get a=some c->W.ρ a=some p->p.2≠d)
  (k: ∀b o,b≠d->h.get? b=some o->h'.get? b=some o):cC C W σ h':=
 ⟨R.base,fun b o e=>k _ _ (fun q=>by rw[q,hi]at e;cases e) (R.im b o e),fun b o e=>k _ _ (fun q=>by rw[q,hp]at e;cases e) (R.pr b o e),R.dis,R.fresh,
  fun a c e=>let⟨p,a1,a2,a3⟩:=R.cell a c e;⟨p,a1,a2.keeps fun o q=>k _ _ (hc a c p e a1) q,a3⟩,R.inj⟩
theorem cC.set(R:cC C W σ h){a:Nat}{eS c:bJ}{p:aC×aC}(hg:σ.get a=some eS)(hp:W.ρ a=some p)(k: ∀b o,b≠p.2->h.get? b=some o->h'.get? b=some o)
  (hc:d4 C W h' p c):cC C W (σ.set a c) h':=by
 obtain⟨p',e,_,hi,hpr⟩:=R.cell a eS hg
 rw[hp]at e;cases e
 refine⟨R.base,fun b o e=>k _ _ (fun q=>by rw[q,hi]at e;cases e) (R.im b o e),fun b o e=>k _ _ (fun q=>by rw[q,hpr]at e;cases e) (R.pr b o e),R.dis,R.fresh,?_,?_⟩
 ·intro b cb e
  rw[AS.get_set]at e
  split at e
  ·rename_i q;subst q;rw[hg]at e;cases e;exact⟨p,hp,hc,hi,hpr⟩
  ·rename_i q
   obtain⟨p',a1,a2,a3⟩:=R.cell b cb e
   exact⟨p',a1,a2.keeps fun o z=>k _ _ (fun w=>q (R.inj _ _ _ _ _ _ e hg a1 hp w)) z,a3⟩
 ·have look: ∀b cb,(σ.set a c).get b=some cb-> ∃c',σ.get b=some c':=by
   intro b cb e
   rw[AS.get_set]at e
   split at e
   ·rename_i q;subst q;exact⟨_,hg⟩
   ·exact⟨_,e⟩
  intro x y cx cy px py ex ey
  obtain⟨_,ex⟩:=look _ _ ex
  obtain⟨_,ey⟩:=look _ _ ey
  exact R.inj x y _ _ px py ex ey
theorem cC.drop(R:cC C W σ h)(a:Nat):cC C W (σ.drop a) h:=by
 have look: ∀b cb,(σ.drop a).get b=some cb->σ.get b=some cb:=by
  intro b cb e
  rw[AS.get_drop]at e
  split at e
  ·cases e
  ·exact e
 exact⟨R.base,R.im,R.pr,R.dis,R.fresh,fun b cb e=>R.cell b cb (look _ _ e),fun x y cx cy px py ex ey=>R.inj x y cx cy px py (look _ _ ex) (look _ _ ey)⟩
noncomputable def Wd.addIm(W:Wd)(x:aC)(o:Obj):Wd:={W with im:=fun b=>if b=x then some o else W.im b}
theorem Wd.le_addIm{W:Wd}{x:aC}{o:Obj}(h: ∀o',W.im x=some o'->o'=o):W.le (W.addIm x o):=
 ⟨fun _ _ e=>e,fun b o' e=>by
  show(if b=x then some o else W.im b)=some o'
  split
  ·rename_i q;subst q;rw[h _ e]
  ·exact e,rfl⟩
theorem cC.addIm(R:cC C W σ h){x:aC}{o:Obj}(ho:h.get? x=some o)(hp:W.pr x=none)(hc: ∀a c p,σ.get a=some c->W.ρ a=some p->p.2≠x):cC C (W.addIm x o) σ h:=by
 have l:W.le (W.addIm x o):=Wd.le_addIm fun o' e=>by have:=R.im _ _ e;rw[ho]at this;exact(aH this).symm
 refine⟨fun b o' e=>l.2.1 _ _ (R.base b o' e),fun b o' e=> ?_,R.pr,fun b o' e=> ?_,R.fresh,fun a c e=> ?_,R.inj⟩
 ·by_cases q:b=x
  ·subst q
   have e:(if b=b then some o else W.im b)=some o':=e
   rw[if_pos rfl]at e;cases e;exact ho
  ·have e:(if b=x then some o else W.im b)=some o':=e
   rw[if_neg q]at e;exact R.im _ _ e
 ·show(if b=x then some o else W.im b)=none
  have e:W.pr b=some o':=e
  rw[if_neg (fun q=>by rw[q,hp]at e;cases e)];exact R.dis _ _ e
 ·obtain⟨p,a1,a2,a3,a4⟩:=R.cell a c e
  refine⟨p,a1,a2.mono l,?_,a4⟩
  show(if p.2=x then some o else W.im p.2)=none
  rw[if_neg (hc a c p e a1)];exact a3
theorem cC.freeze(R:cC C W σ h){a:Nat}{c:bJ}{p:aC×aC}{o:Obj}(hg:σ.get a=some c)(hp:W.ρ a=some p)(ho:h.get? p.2=some o):cC C (W.addIm p.2 o) (σ.drop a) h:=by
 refine(R.drop a).addIm ho ?_ ?_
 ·obtain⟨q,e,_,_,x⟩:=R.cell a c hg
  rw[hp]at e;cases e;exact x
 ·intro b cb q e e' z
  rw[AS.get_drop]at e
  split at e
  ·cases e
  ·rename_i n;exact n (R.inj _ _ _ _ _ _ e hg e' hp z)
noncomputable def Wd.addId(W:Wd)(a:Nat)(p:aC×aC):Wd:={W with ρ:=fun b=>if b=a then some p else W.ρ b}
theorem Wd.le_addId{W:Wd}{a:Nat}{p:aC×aC}(h:W.ρ a=none):W.le (W.addId a p):=
 ⟨fun b q e=>by
  show(if b=a then some p else W.ρ b)=some q
  split
  ·rename_i z;subst z;rw[h]at e;cases e
  ·exact e,fun _ _ e=>e,rfl⟩
theorem cC.alloc(R:cC C W σ h){c:bJ}{p:aC×aC}(hc:d4 C (W.addId σ.next p) h p c)(hi:W.im p.2=none)(hpr:W.pr p.2=none)(hn: ∀a c q,σ.get a=some c->W.ρ a=some q->q.2≠p.2):
  cC C (W.addId σ.next p) (σ.alloc c) h:=by
 have l:W.le (W.addId σ.next p):=Wd.le_addId (R.fresh _ (ax _))
 have old: ∀b cb,σ.get b=some cb->b≠σ.next:=fun b cb e q=>by
  obtain⟨p',z,_⟩:=R.cell b cb e
  rw[q,R.fresh _ (ax _)]at z;cases z
 have at_: ∀b,b≠σ.next->(W.addId σ.next p).ρ b=W.ρ b:=fun b q=>if_neg q
 have at0:(W.addId σ.next p).ρ σ.next=some p:=if_pos rfl
 refine⟨R.base,R.im,R.pr,R.dis,fun b hb=> ?_,fun b cb e=> ?_,fun x y cx cy px py ex ey hx hy z=> ?_⟩
 ·have hb:σ.next+1<=b:=hb
  rw[at_ _ (by omega)];exact R.fresh _ (by omega)
 ·rw[AS.get_alloc]at e
  split at e
  ·rename_i q;subst q;cases e;exact⟨p,at0,hc,hi,hpr⟩
  ·rename_i q
   obtain⟨p',a1,a2,a3⟩:=R.cell b cb e
   exact⟨p',(at_ _ q).trans a1,a2.mono l,a3⟩
 ·rw[AS.get_alloc]at ex ey
  split at ex<;>split at ey
  ·rename_i q q';rw[q,q']
  ·rename_i q q';subst q;rw[at0]at hx;cases hx;rw[at_ _ q']at hy;exact absurd z.symm (hn _ _ _ ey hy)
  ·rename_i q q';subst q';rw[at0]at hy;cases hy;rw[at_ _ q]at hx;exact absurd z (hn _ _ _ ex hx)
  ·rename_i q q';rw[at_ _ q]at hx;rw[at_ _ q']at hy;exact R.inj x y _ _ _ _ ex ey hx hy z
theorem cC.lt(R:cC C W σ h){a:Nat}{c:bJ}{p:aC×aC}(hg:σ.get a=some c)(hp:W.ρ a=some p):p.2<h.objs.size:=by
 obtain⟨q,e,x,_⟩:=R.cell a c hg
 rw[hp]at e;cases e
 obtain⟨o,ho⟩:=x.some
 exact cv ho
theorem cC.im_new(R:cC C W σ h){x:aC}(hx:h.objs.size<=x):W.im x=none:=by
 cases e:W.im x with
 |none=>rfl
 |some o=>exact absurd (cv (R.im _ _ e)) (ci.mpr hx)
theorem cC.pr_new(R:cC C W σ h){x:aC}(hx:h.objs.size<=x):W.pr x=none:=by
 cases e:W.pr x with
 |none=>rfl
 |some o=>exact absurd (cv (R.pr _ _ e)) (ci.mpr hx)
theorem cC.cell_new(R:cC C W σ h){x:aC}(hx:h.objs.size<=x): ∀a c p,σ.get a=some c->W.ρ a=some p->p.2≠x:=fun _ _ _ e e' q=>
 absurd (R.lt e e') (ci.mpr (q▸hx))
theorem cC.sys(R:cC C W σ h):sysModules<h.objs.size:=let⟨_,e⟩:=C.sys;cv (R.im _ _ (R.base _ _ e))
theorem eu(h:bO)(o:Obj): ∀b o',h.get? b=some o'->(h.push o).get? b=some o':=fun _ _ e=>bH _ e
theorem cC.pushIm(R:cC C W σ h){o:Obj}(hf:o.isFreed=false):W.le (W.addIm h.objs.size o)/\cC C (W.addIm h.objs.size o) σ (h.push o):=
 ⟨Wd.le_addIm (fun o' e=>by have z:=R.im_new (x:=h.objs.size) (ax _);rw[z]at e;cases e),
  (R.keeps (eu h o)).addIm (bp _ hf) (R.pr_new (ax _)) (R.cell_new (ax _))⟩
end
structure eN(A:b7)(k:Nat):Prop where
 handled:A.handled=none
 depth:A.depth+k<recursionLimit
 units:A.units+4*k<cLine
theorem eN.le{A:b7}{k k':Nat}(R:eN A k)(h:k'<=k):eN A k':=⟨R.handled,by have:=R.depth;omega,by have:=R.units;omega⟩
theorem eN.in1{A:b7}{k:Nat}(R:eN A (k+1)):eN A.in1 k:=⟨R.handled,by have:=R.depth;show A.depth+k<_;omega,by have:=R.units;show A.units+1+4*k<_;omega⟩
theorem eN.deeper{A:b7}{k:Nat}(R:eN A (k+1))(env:Env):eN (A.deeper env) k:=⟨R.handled,by have:=R.depth;show A.depth+1+k<_;omega,by have:=R.units;show A.units+3+4*k<_;omega⟩
theorem eN.d0{A:b7}{k:Nat}(R:eN A k):A.depth<recursionLimit:=by have:=R.depth;omega
abbrev dI(C:PC):lb:=model C.prog C.w
def dw:ah->az->Prop:=fun _ _=>False
def Sm(s s':az):Prop:= ∃h t,s'={s with heap:=h,toks:=t}/\s.toks<=t
theorem Sm.refl(s:az):Sm s s:=⟨s.heap,s.toks,rfl,ax _⟩
theorem Sm.trans{s s' s'':az}:Sm s s'->Sm s' s''->Sm s s''
 |⟨_,_,e,l⟩,⟨h,t,e',l'⟩=>⟨h,t,by rw[e',e],by subst e;exact au l l'⟩
theorem Sm.mk'{nw s:az}(x:Sm nw s)(h:bO)(t:Nat)(ht:s.toks<=t):Sm nw {s with heap:=h,toks:=t}:=x.trans ⟨h,t,rfl,ht⟩
theorem Sm.le{s s':az}:Sm s s'->s.toks<=s'.toks
 |⟨_,_,e,l⟩=>by subst e;exact l
def Sn(nw s:az):Prop:=1<=nw.toks/\Sm nw s
theorem Sn.trans{s s' s'':az}(x:Sn s s')(y:Sm s' s''):Sn s s'':=⟨x.1,x.2.trans y⟩
theorem Sn.mk'{nw s:az}(x:Sn nw s)(h:bO)(t:Nat)(ht:s.toks<=t):Sn nw {s with heap:=h,toks:=t}:=⟨x.1,x.2.mk' h t ht⟩
theorem Sn.pos{nw s:az}(x:Sn nw s):1<=s.toks:=au x.1 x.2.le
abbrev Fm:=List AV
structure FX where
 C:PC
 env:Env
 names:Nat->Option Str
 own:List aC
 nw:az
def jc(X:FX)(h:bO)(m:Str->Option ah)(x:Str)(v:ah):Prop:=
 match X.env.kindOf x with
 |some .local=>m x=some v
 |some .cell |some .free=> ∃c,X.env.cells.lookup x=some c/\h.IsCell c (some v)
 |_=>False
structure vi(X:FX):Prop where
 kind:X.env.scope.kind= .function
 glob:X.env.globals=mainGlobals
 blt:X.env.builtins=builtinsNs
 loc:X.env.locals∈X.own
 apart:X.env.cells.Pairwise fun x y=>x.2≠y.2
 notL: ∀n c,X.env.cells.lookup n=some c->c≠X.env.locals
 plain: ∀(i:Nat) x,X.names i=some x->(x==("__debug__":Str)||x==("__classdict__":Str))=false
def FX.Has(X:FX)(c:aC):Prop:=c=X.env.locals\/(∃n,X.env.cells.lookup n=some c)\/c∈X.own
def s6(W:Wd)(σ:AS)(c:aC):Prop:= ∀a cc p,σ.get a=some cc->W.ρ a=some p->p.2≠c
structure pT(X:FX)(W:Wd)(fr:Fm)(σ:AS)(h:bO):Prop where
 vars: ∃m,h.Ns X.env.locals m/\ ∀(i:Nat) a,fr[i]? =some a->a= .unb\/ ∀x,X.names i=some x-> ∃v,jc X h m x v/\V X.C W a v
 cells: ∀n c,X.env.cells.lookup n=some c-> ∃v,h.IsCell c v
 apart: ∀c,X.Has c->s6 W σ c
 sep: ∀c,X.Has c->W.im c=none
 own: ∀c∈X.own,W.pr c=none
 live: ∀c,X.Has c-> ∃o,h.get? c=some o
structure St(X:FX)(W:Wd)(fr:Fm)(σ:AS)(s:az):Prop where
 rel:cC X.C W σ s.heap
 fr:pT X W fr σ s.heap
 sm:Sn X.nw s
def fP(X:FX)(W:Wd)(fr:Fm)(a:AV)(σ:AS)(v:ah)(s:az):Prop:= ∃W',W.le W'/\St X W' fr σ s/\V X.C W' a v
def Kr(X:FX)(W:Wd)(fr:Fm)(l:aa)(σ:AS)(vs:List ah)(s:az):Prop:= ∃W',W.le W'/\St X W' fr σ s/\VL X.C W' l vs
def o6(X:FX)(W:Wd)(fr:Fm)(b:Bool)(σ:AS)(b':Bool)(s:az):Prop:=b'=b/\ ∃W',W.le W'/\St X W' fr σ s
def y7(X:FX)(W:Wd)(fr:Fm)(σ:AS)(s:az):Prop:= ∃W',W.le W'/\St X W' fr σ s
abbrev EM:=Fm->AS->Option (AV×AS)
abbrev LM:=Fm->AS->Option (List AV×AS)
abbrev BM:=Fm->AS->Option (Bool×AS)
inductive j8 where
 |next(fr:Fm)(σ:AS)
 |brk(fr:Fm)(σ:AS)
 |cont(fr:Fm)(σ:AS)
 |ret(a:AV)(σ:AS)
abbrev SM:=Fm->AS->Option j8
abbrev aW:=List AV->AS->Option (AV×AS)
def b8(X:FX)(k:Nat)(m:EM)(e:an):Prop:=
 ∀A,eN A k-> ∀W fr σ s,St X W fr σ s-> ∀a ai,m fr σ=some (a,ai)->wpAny (dI X.C) A (eval e X.env) (fP X W fr a ai) dw s
def Ag(X:FX)(k:Nat)(m:LM)(es:List an):Prop:=
 ∀A,eN A k-> ∀W fr σ s,St X W fr σ s-> ∀l ai,m fr σ=some (l,ai)-> ∀pos,wpAny (dI X.C) A (spliced (backTo pos (starEach es X.env))) (Kr X W fr l ai) dw s
def nk(X:FX)(k:Nat)(m:BM)(e:an):Prop:=
 ∀A,eN A k-> ∀W fr σ s,St X W fr σ s-> ∀b ai,m fr σ=some (b,ai)->wpAny (dI X.C) A (isTrue e X.env (eval e X.env)) (o6 X W fr b ai) dw s
def Cf(X:FX)(W:Wd)(r:j8)(f:N1)(s:az):Prop:=match r with
 | .next fr σ=>f= .next/\y7 X W fr σ s
 | .brk fr σ=>f= .brk/\y7 X W fr σ s
 | .cont fr σ=>f= .cont/\y7 X W fr σ s
 | .ret a σ=> ∃v fr,f= .ret v/\fP X W fr a σ v s
def lI(X:FX)(k:Nat)(m:SM)(st:bW):Prop:=
 ∀A,eN A k-> ∀W fr σ s,St X W fr σ s-> ∀r,m fr σ=some r->wpAny (dI X.C) A (exec st X.env) (Cf X W r) dw s
def mU(X:FX)(k:Nat)(m:SM)(sts:List bW):Prop:=
 ∀A,eN A k-> ∀W fr σ s,St X W fr σ s-> ∀r,m fr σ=some r->wpAny (dI X.C) A (execs sts X.env) (Cf X W r) dw s
def aF(C:PC)(k:Nat)(f:ah)(F:aW):Prop:=
 ∀A,eN A k-> ∀W σ s args vs,cC C W σ s.heap->VL C W args vs->1<=s.toks-> ∀a ai,F args σ=some (a,ai)->
  wpAny (dI C) A (call f vs) (fun v s'=>Sm s s'/\ ∃W',W.le W'/\cC C W' ai s'.heap/\V C W' a v) dw s
section
variable{X:FX}{k:Nat}{W W':Wd}{fr:Fm}{σ ai:AS}{s s':az}{h h':bO}
theorem fP.le{a:AV}{v:ah}(l:W.le W')(p:fP X W' fr a σ v s):fP X W fr a σ v s:=let⟨W'',a,b⟩:=p;⟨W'',l.trans a,b⟩
theorem Kr.le{a:aa}{v:List ah}(l:W.le W')(p:Kr X W' fr a σ v s):Kr X W fr a σ v s:=let⟨W'',a,b⟩:=p;⟨W'',l.trans a,b⟩
theorem o6.le{a b:Bool}(l:W.le W')(p:o6 X W' fr a σ b s):o6 X W fr a σ b s:=let⟨e,W'',a,b⟩:=p;⟨e,W'',l.trans a,b⟩
theorem y7.le(l:W.le W')(p:y7 X W' fr σ s):y7 X W fr σ s:=let⟨W'',a,b⟩:=p;⟨W'',l.trans a,b⟩
theorem Cf.le{r:j8}{f:N1}(l:W.le W')(p:Cf X W' r f s):Cf X W r f s:=by
 cases r with
 |next fr σ=>exact⟨p.1,p.2.le l⟩
 |brk fr σ=>exact⟨p.1,p.2.le l⟩
 |cont fr σ=>exact⟨p.1,p.2.le l⟩
 |ret a σ=>obtain⟨v,fr,e,q⟩:=p;exact⟨v,fr,e,q.le l⟩
theorem jc.keeps{m:Str->Option ah}{x:Str}{v:ah}(q:jc X h m x v)(k: ∀c n w,X.env.cells.lookup n=some c->h.IsCell c w->h'.IsCell c w):jc X h' m x v:=by
 unfold jc at q ⊢
 split
 ·simp_all
 ·simp_all;obtain⟨c,a,b⟩:=q;exact⟨c,a,k c _ _ a b⟩
 ·simp_all;obtain⟨c,a,b⟩:=q;exact⟨c,a,k c _ _ a b⟩
 ·simp_all
theorem pT.keeps(F:pT X W fr σ h)(hk: ∀b o,h.get? b=some o->h'.get? b=some o):pT X W fr σ h':=by
 obtain⟨⟨m,a,b⟩,c,d,xP,d',CD⟩:=F
 exact⟨⟨m,a.keeps hk,fun i x e=>(b i x e).imp id fun f y p=>let⟨v,q,r⟩:=f y p;⟨v,q.keeps fun c n w _ z=>z.keeps hk,r⟩⟩,fun n c' e=>let⟨v,z⟩:=c n c' e;⟨v,z.keeps hk⟩,d,xP,d',
  fun c hc=>let⟨o,e⟩:=CD c hc;⟨o,hk _ _ e⟩⟩
theorem St.keeps(T:St X W fr σ s)(hk: ∀b o,s.heap.get? b=some o->h'.get? b=some o)(t:Nat)(ht:s.toks<=t:=by first|exact ax _|exact cR _|omega):St X W fr σ {s with heap:=h',toks:=t}:=
 ⟨T.rel.keeps hk,T.fr.keeps hk,T.sm.mk' _ _ ht⟩
theorem St.toks(T:St X W fr σ s)(t:Nat)(ht:s.toks<=t:=by first|exact ax _|exact cR _|omega):St X W fr σ {s with toks:=t}:=T.keeps (h':=s.heap) (fun _ _ e=>e) t ht
theorem St.post(T:St X W fr σ s){a:AV}{v:ah}(q:V X.C W a v):fP X W fr a σ v s:=⟨W,.refl W,T,q⟩
theorem St.postU(T:St X W fr σ s):y7 X W fr σ s:=⟨W,.refl W,T⟩
theorem St.postB(T:St X W fr σ s)(b:Bool):o6 X W fr b σ b s:=⟨rfl,W,.refl W,T⟩
theorem pT.turn(F:pT X W fr σ h)(l:W.le W')(hn: ∀b o,W.im b=none->W'.im b=some o-> ¬X.Has b)
  (hc: ∀c,X.Has c->s6 W' ai c)(hk: ∀c,X.Has c-> ∀o,h.get? c=some o->h'.get? c=some o):pT X W' fr ai h':=by
 obtain⟨⟨m,a,b⟩,c,d,xP,d',CD⟩:=F
 have kc: ∀c n w,X.env.cells.lookup n=some c->h.IsCell c w->h'.IsCell c w:=fun c n w e ⟨o,p,q⟩=>⟨o,hk _ (.inr (.inl ⟨n,e⟩)) _ p,q⟩
 refine⟨⟨m,?_,fun i x e=>(b i x e).imp id fun f y p=>let⟨v,q,r⟩:=f y p;⟨v,q.keeps kc,r.mono l⟩⟩,fun n c' e=>let⟨v,z⟩:=c n c' e;⟨v,kc _ _ _ e z⟩,hc,fun c hcm=> ?_,fun c hcm=>by rw[l.2.2];exact d' c hcm,
  fun c hc=>let⟨o,e⟩:=CD c hc;⟨o,hk _ hc _ e⟩⟩
 ·obtain⟨o,es,ep,e,r⟩:=a;exact⟨o,es,ep,hk _ (.inl rfl) _ e,r⟩
 ·cases e:W'.im c with
  |none=>rfl
  |some o=>exact absurd hcm (hn _ _ (xP c hcm) e)
theorem pT.lt(F:pT X W fr σ h){c:aC}(hc:X.Has c):c<h.objs.size:=let⟨_,e⟩:=F.live c hc;cv e
theorem pT.grow(F:pT X W fr σ h)(l:W.le W')(hn: ∀b o,W.im b=none->W'.im b=some o->h.objs.size<=b)
  (hc: ∀a cc p,ai.get a=some cc->W'.ρ a=some p->(∃c,σ.get a=some c/\W.ρ a=some p)\/h.objs.size<=p.2)
  (hk: ∀b o,h.get? b=some o->h'.get? b=some o):pT X W' fr ai h':=
 F.turn l (fun b o e e' hb=>absurd (F.lt hb) (ci.mpr (hn b o e e'))) (fun c hb a cc p e e' q=>by
  rcases hc a cc p e e' with⟨c',e1,e2⟩|z
  ·exact F.apart _ hb a c' p e1 e2 q
  ·exact absurd (F.lt hb) (ci.mpr (q▸z))) fun c _ o e=>hk _ _ e
theorem St.pushIm(T:St X W fr σ s){o:Obj}(hf:o.isFreed=false)(t:Nat)(ht:s.toks<=t:=by first|exact ax _|exact cR _|omega):
  W.le (W.addIm s.heap.objs.size o)/\St X (W.addIm s.heap.objs.size o) fr σ {s with heap:=s.heap.push o,toks:=t}:=by
 obtain⟨l,R⟩:=T.rel.pushIm hf
 refine⟨l,R,T.fr.grow l (fun b o' e e'=> ?_) (fun a cc p e e'=>.inl ⟨cc,e,e'⟩) (eu _ _),T.sm.mk' _ _ ht⟩
 have e':(if b=s.heap.objs.size then some o else W.im b)=some o':=e'
 split at e'
 ·rename_i q;exact eH q.symm
 ·rw[e]at e';cases e'
theorem St.pushLst(T:St X W fr σ s){l:aa}{vs:List ah}(q:VL X.C W l vs)(t:Nat)(ht:s.toks<=t:=by first|exact ax _|exact cR _|omega):
  W.le (W.addId σ.next (s.heap.objs.size,s.heap.objs.size))/\St X (W.addId σ.next (s.heap.objs.size,s.heap.objs.size)) fr (σ.alloc (.lst l)) {s with heap:=s.heap.push (dC vs 0),toks:=t}:=by
 have le:W.le (W.addId σ.next (s.heap.objs.size,s.heap.objs.size)):=Wd.le_addId (T.rel.fresh _ (ax _))
 refine⟨le,(T.rel.keeps (eu _ _)).alloc ⟨rfl,vs,0,bp _ rfl,q.mono le⟩ (T.rel.im_new (ax _)) (T.rel.pr_new (ax _)) (T.rel.cell_new (ax _)),
  T.fr.grow le (fun b o e e'=>by rw[show W.im b=some o from e']at e;cases e) (fun a cc p e e'=> ?_) (eu _ _),T.sm.mk' _ _ ht⟩
 rw[AS.get_alloc]at e
 by_cases z:a=σ.next
 ·subst z
  have e':(if σ.next=σ.next then some (s.heap.objs.size,s.heap.objs.size)else W.ρ σ.next)=some p:=e'
  rw[if_pos rfl]at e';cases e';exact .inr (ax _)
 ·rw[if_neg z]at e
  have e':(if a=σ.next then some (s.heap.objs.size,s.heap.objs.size)else W.ρ a)=some p:=e'
  rw[if_neg z]at e';exact .inl ⟨cc,e,e'⟩
theorem St.pushDct(T:St X W fr σ s)(t:Nat)(ht:s.toks<=t:=by first|exact ax _|exact cR _|omega):
  W.le (W.addId σ.next (s.heap.objs.size,s.heap.objs.size))/\St X (W.addId σ.next (s.heap.objs.size,s.heap.objs.size)) fr (σ.alloc (.dct [] [])) {s with heap:=s.heap.push (dictOf [] 0),toks:=t}:=by
 have le:W.le (W.addId σ.next (s.heap.objs.size,s.heap.objs.size)):=Wd.le_addId (T.rel.fresh _ (ax _))
 refine⟨le,(T.rel.keeps (eu _ _)).alloc ⟨rfl,by simpa using oQ T.rel.sys,_,[],bp _ rfl,VL.nil,rfl,#[],0,⟨rfl,rfl,rfl⟩,rfl,fun _ he=>by simp at he,We,by simp⟩ (T.rel.im_new (ax _)) (T.rel.pr_new (ax _)) (T.rel.cell_new (ax _)),
  T.fr.grow le (fun b o e e'=>by rw[show W.im b=some o from e']at e;cases e) (fun a cc p e e'=> ?_) (eu _ _),T.sm.mk' _ _ ht⟩
 rw[AS.get_alloc]at e
 by_cases z:a=σ.next
 ·subst z
  have e':(if σ.next=σ.next then some (s.heap.objs.size,s.heap.objs.size)else W.ρ σ.next)=some p:=e'
  rw[if_pos rfl]at e';cases e';exact .inr (ax _)
 ·rw[if_neg z]at e
  have e':(if a=σ.next then some (s.heap.objs.size,s.heap.objs.size)else W.ρ a)=some p:=e'
  rw[if_neg z]at e';exact .inl ⟨cc,e,e'⟩
theorem rh{C:PC}{n:Nat}{p:aC×aC}:V C (W.addId n p) (.ref n) (.ref p.1):=⟨p,if_pos rfl,rfl⟩
theorem ms{x:aC}{o:Obj}:(W.addIm x o).im x=some o:=if_pos rfl
theorem St.set(T:St X W fr σ s){a:Nat}{eS c:bJ}{p:aC×aC}(hg:σ.get a=some eS)(hp:W.ρ a=some p)(hs:i7 p.2 s.heap h')(hc:d4 X.C W h' p c)(t:Nat)(ht:s.toks<=t:=by first|exact ax _|exact cR _|omega):
  St X W fr (σ.set a c) {s with heap:=h',toks:=t}:=by
 refine⟨T.rel.set hg hp (fun b o hb e=>hs.extBut b o hb e) hc,T.fr.turn (.refl _) (fun b o e e'=>by rw[e]at e';cases e') (fun d hd b cb q e e'=> ?_) (fun b hb o e=> ?_),T.sm.mk' _ _ ht⟩
 ·rw[AS.get_set]at e
  by_cases z:b=a
  ·subst z;exact T.fr.apart _ hd b eS q hg e'
  ·rw[if_neg z]at e;exact T.fr.apart _ hd b cb q e e'
 ·exact hs.extBut b o (fun q=>T.fr.apart _ hb a eS p hg hp q.symm) e
theorem St.drop(T:St X W fr σ s)(a:Nat):St X W fr (σ.drop a) s:=by
 refine⟨T.rel.drop a,T.fr.turn (.refl _) (fun b o e e'=>by rw[e]at e';cases e') (fun d hd b cb q e e'=> ?_) (fun b _ o e=>e),T.sm⟩
 rw[AS.get_drop]at e
 by_cases z:b=a
 ·rw[if_pos z]at e;cases e
 ·rw[if_neg z]at e;exact T.fr.apart _ hd b cb q e e'
end
def ob{α β:Type}(o:Option α)(f:α->Option β):Option β:=bo (motive:=fun _=>Option β) none f o
def bC{α γ β:Type}(o:Option (α×γ))(f:α->γ->Option β):Option β:=bo (motive:=fun _=>Option β) none (fun p=>Ob (motive:=fun _=>Option β) f p) o
def od{α β:Type}(o:Option α)(f:α->Option β)(g:Option β):Option β:=bo (motive:=fun _=>Option β) g f o
theorem oE{α β:Type}{o:Option α}{f:α->Option β}{r:β}{P:Prop}(h:ob o f=some r)(k: ∀a,o=some a->f a=some r->P):P:=by
 cases o with
 |none=>exact nn h
 |some a=>exact k a rfl h
theorem fR{α γ β:Type}{o:Option (α×γ)}{f:α->γ->Option β}{r:β}{P:Prop}(h:bC o f=some r)(k: ∀a b,o=some (a,b)->f a b=some r->P):P:=by
 cases o with
 |none=>exact nn h
 |some p=>exact k p.1 p.2 rfl h
theorem odE{α β:Type}{o:Option α}{f:α->Option β}{g:Option β}{r:β}{P:Prop}(h:od o f g=some r)(k: ∀a,o=some a->f a=some r->P)(k':g=some r->P):P:=by
 cases o with
 |none=>exact k' h
 |some a=>exact k a rfl h
theorem bE{β:Type}{c:Bool}{x y:Option β}{r:β}{P:Prop}(h:(bif c then x else y)=some r)(k:c=true->x=some r->P)(k':c=false->y=some r->P):P:=by
 cases c with
 |true=>exact k rfl h
 |false=>exact k' rfl h
noncomputable def eW{β:Type}(a:AV)(f:Int->Option β):Option β:=match a with
 | .int i=>f i
 |_=>none
noncomputable def ek{β:Type}(a:AV)(f:List Nat->Option β):Option β:=match a with
 | .str s=>f s
 |_=>none
noncomputable def G8{β:Type}(a:AV)(f:List AV->Option β):Option β:=match a with
 | .tup s=>f s
 |_=>none
noncomputable def io{β:Type}(a:AV)(f:Nat->Option β):Option β:=match a with
 | .ref s=>f s
 |_=>none
noncomputable def tc{β:Type}(a:AV)(f:Option β):Option β:=match a with
 | .none=>f
 |_=>none
def nU{β:Type}(a:AV)(f:Nat->Option β):Option β:=match a with
 | .int i=>Int.rec (motive:=fun _=>Option β) f (fun _=>none) i
 |_=>none
def nv{β:Type}(σ:AS)(x:Nat)(f:List AV->Option β):Option β:=ob (σ.get x) fun c=>match c with
 | .lst l=>f l
 |_=>none
def CL{β:Type}(σ:AS)(x:Nat)(f:Nat->List Nat->List AV->Option β):Option β:=ob (σ.get x) fun c=>match c with
 | .inst c ks vs=>f c ks vs
 |_=>none
def SQ{β:Type}(σ:AS)(x:Nat)(f:List (List Nat)->List AV->Option β):Option β:=ob (σ.get x) fun c=>match c with
 | .dct ks vs=>f ks vs
 |_=>none
section
variable{β:Type}{r:β}{P:Prop}{a:AV}{σ:AS}{x:Nat}
theorem lstE{f:List AV->Option β}(h:nv σ x f=some r)(k: ∀l,σ.get x=some (.lst l)->f l=some r->P):P:=oE h fun c hc h=>by
 cases c with
 |lst l=>exact k l hc h
 |_=>exact nn h
theorem instE{f:Nat->List Nat->List AV->Option β}(h:CL σ x f=some r)(k: ∀c ks vs,σ.get x=some (.inst c ks vs)->f c ks vs=some r->P):P:=oE h fun c hc h=>by
 cases c with
 |inst c ks vs=>exact k c ks vs hc h
 |_=>exact nn h
theorem dctE{f:List (List Nat)->List AV->Option β}(h:SQ σ x f=some r)(k: ∀ks vs,σ.get x=some (.dct ks vs)->f ks vs=some r->P):P:=oE h fun c hc h=>by
 cases c with
 |dct ks vs=>exact k ks vs hc h
 |_=>exact nn h
@[elab_as_elim] theorem lp {Q:AV->Prop} {f:Int->Option β} (h:eW a f=some r) (k: ∀i,f i=some r->Q (.int i)):Q a:=by
 cases a<;>first|exact nn h|exact k _ h
@[elab_as_elim] theorem fT {Q:AV->Prop} {f:List Nat->Option β} (h:ek a f=some r) (k: ∀i,f i=some r->Q (.str i)):Q a:=by
 cases a<;>first|exact nn h|exact k _ h
@[elab_as_elim] theorem NG {Q:AV->Prop} {f:List AV->Option β} (h:G8 a f=some r) (k: ∀i,f i=some r->Q (.tup i)):Q a:=by
 cases a<;>first|exact nn h|exact k _ h
@[elab_as_elim] theorem iA {Q:AV->Prop} {f:Nat->Option β} (h:io a f=some r) (k: ∀i,f i=some r->Q (.ref i)):Q a:=by
 cases a<;>first|exact nn h|exact k _ h
@[elab_as_elim] theorem Ct {Q:AV->Prop} {f:Option β} (h:tc a f=some r) (k:f=some r->Q .none):Q a:=by
 cases a<;>first|exact nn h|exact k h
@[elab_as_elim] theorem mm {Q:AV->Prop} {f:Nat->Option β} (h:nU a f=some r) (k: ∀i,f i=some r->Q (.int (.ofNat i))):Q a:=by
 cases a with
 |int i=>cases i with
  |ofNat n=>exact k _ h
  |negSucc n=>exact nn h
 |_=>exact nn h
variable{C:PC}{W:Wd}{v:ah}{Q:ah->Prop}
@[elab_as_elim] theorem V.intE {i:Int} (h:V C W (.int i) v) (k: ∀t,Q (.int i t)):Q v:=by obtain⟨t,rfl⟩:=h;exact k t
@[elab_as_elim] theorem V.strE {i:ac} (h:V C W (.str i) v) (k: ∀t,Q (.str (aP i) t)):Q v:=by obtain⟨t,rfl⟩:=h;exact k t
@[elab_as_elim] theorem V.bytesE {i:List UInt8} (h:V C W (.bytes i) v) (k: ∀t,Q (.bytes i.toArray t)):Q v:=by obtain⟨t,rfl⟩:=h;exact k t
@[elab_as_elim] theorem V.tupE {l:aa} (h:V C W (.tup l) v) (k: ∀x n vs,W.im x=some (tu vs n)->VL C W l vs->Q (.ref x)):Q v:=by obtain⟨x,n,vs,rfl,q,z⟩:=h;exact k x n vs q z
@[elab_as_elim] theorem V.lstE {l:aa} (h:V C W (.lst l) v) (k: ∀x n vs,W.im x=some (dC vs n)->VL C W l vs->Q (.ref x)):Q v:=by obtain⟨x,n,vs,rfl,q,z⟩:=h;exact k x n vs q z
@[elab_as_elim] theorem V.dctE {ks:List (List Nat)} {fs:aa} (h:V C W (.dct ks fs) v) (k: ∀x o vs,(x==sysModules)=false->W.im x=some o->VL C W fs vs->Em C ks vs o->Q (.ref x)):Q v:=by obtain⟨x,o,vs,rfl,q1,q2,q3,q4⟩:=h;exact k x o vs q1 q2 q3 q4
@[elab_as_elim] theorem V.dctiE {ks:List Int} {fs:aa} (h:V C W (.dcti ks fs) v) (k: ∀x o vs,(x==sysModules)=false->W.im x=some o->VL C W fs vs->abw C ks vs o->Q (.ref x)):Q v:=by obtain⟨x,o,vs,rfl,q1,q2,q3,q4⟩:=h;exact k x o vs q1 q2 q3 q4
@[elab_as_elim] theorem V.frzE {c:Nat} {ks:ac} {fs:aa} (h:V C W (.frz c ks fs) v) (k: ∀x d es n vs,C.cls c=true->W.im x=some (instObj c d)->W.im d=some (dictOf es n)->VL C W fs vs->oY C ks vs es->Q (.ref x)):Q v:=by obtain⟨x,d,es,n,vs,rfl,q1,q2,q3,q4,q5⟩:=h;exact k x d es n vs q1 q2 q3 q4 q5
@[elab_as_elim] theorem V.rngE {a b:Nat} (h:V C W (.rng a b) v) (k: ∀x t u w,W.im x=some {cls:=.type "range",dict:=none,data:=.fields #[.int a t,.int b u,.int 1 w],slots:= #[]}->a<2^20->b<2^20->Q (.ref x)):Q v:=by obtain⟨x,t,u,w,rfl,q1,q2,q3⟩:=h;exact k x t u w q1 q2 q3
@[elab_as_elim] theorem V.refE {a:Nat} (h:V C W (.ref a) v) (k: ∀p,W.ρ a=some p->Q (.ref p.1)):Q v:=by obtain⟨p,e,rfl⟩:=h;exact k p e
@[elab_as_elim] theorem V.noneE (h:V C W .none v) (k:Q .none):Q v:=(show v= .none from h)▸k
@[elab_as_elim] theorem V.boolE {b:Bool} (h:V C W (.bool b) v) (k:Q (.bool b)):Q v:=(show v= .bool b from h)▸k
@[elab_as_elim] theorem VL.consE {a:AV} {l:aa} {vs:List ah} {Q:List ah->Prop} (h:VL C W (a::l) vs) (k: ∀v r,V C W a v->VL C W l r->Q (v::r)):Q vs:=by obtain⟨v,r,rfl,q,z⟩:=h;exact k v r q z
@[elab_as_elim] theorem VL.nilE {vs:List ah} {Q:List ah->Prop} (h:VL C W [] vs) (k:Q []):Q vs:=(show vs=[] from h)▸k
@[elab_as_elim] theorem cC.lstE {h:bO} (R:cC C W σ h) {l:aa} (hg:σ.get x=some (.lst l)) (hv:V C W (.ref x) v) (k: ∀p vs n,W.ρ x=some p->p.1=p.2->h.get? p.1=some (dC vs n)->VL C W l vs->Q (.ref p.1)):Q v:=by
 obtain⟨p,q,rfl⟩:=hv
 obtain⟨p',e',⟨z,vs,n,g,r⟩,_⟩:=R.cell _ _ hg
 rw[q]at e';cases e'
 exact k p vs n q z (z▸g) r
@[elab_as_elim] theorem cC.instE {h:bO} (R:cC C W σ h) {c:Nat} {ks:ac} {fs:aa} (hg:σ.get x=some (.inst c ks fs)) (hv:V C W (.ref x) v) (k: ∀p es n vs,W.ρ x=some p->C.cls c=true->W.im p.1=some (instObj c p.2)->h.get? p.2=some (dictOf es n)->VL C W fs vs->oY C ks vs es->Q (.ref p.1)):Q v:=by
 obtain⟨p,q,rfl⟩:=hv
 obtain⟨p',e',⟨q0,q1,es,n,vs,q2,r,z⟩,_⟩:=R.cell _ _ hg
 rw[q]at e';cases e'
 exact k p es n vs q q0 q1 q2 r z
@[elab_as_elim] theorem cC.dctE {h:bO} (R:cC C W σ h) {ks:List (List Nat)} {fs:aa} (hg:σ.get x=some (.dct ks fs)) (hv:V C W (.ref x) v) (k: ∀p o vs,W.ρ x=some p->p.1=p.2->(p.1==sysModules)=false->h.get? p.1=some o->VL C W fs vs->Em C ks vs o->Q (.ref p.1)):Q v:=by
 obtain⟨p,q,rfl⟩:=hv
 obtain⟨p',e',⟨z,q0,o,vs,g,r,z1⟩,_⟩:=R.cell _ _ hg
 rw[q]at e';cases e'
 exact k p o vs q z (z▸q0) (z▸g) r z1
end
def gt(l:aa)(i:Nat):AV:=bu (motive:=fun _=>Nat->AV) (fun _=>.unb) (fun a _ ih i=>hH (motive:=fun _=>AV) a (fun j _=>ih j) i) l i
noncomputable def pad(i:Nat)(v:AV):List AV:=hH (motive:=fun _=>List AV) [v] (fun _ ih=>.unb::ih) i
def put(l:aa)(i:Nat)(v:AV):List AV:=bu (motive:=fun _=>Nat->List AV) (fun i=>pad i v) (fun a r ih i=>hH (motive:=fun _=>List AV) (v::r) (fun j _=>a::ih j) i) l i
def CM(l:ac):Bool:=bu (motive:=fun _=>Bool) true (fun _ _ _=>false) l
def dm(l m:ac):Bool:=bu (motive:=fun _=>List Nat->Bool) CM (fun a _ ih m=>bu (motive:=fun _=>Bool) false (fun b t _=>Bool.rec (motive:=fun _=>Bool) false (ih t) (aj a b)) m) l m
theorem SO(a b:Bool):Bool.rec (motive:=fun _=>Bool) false b a=(a&&b):=by cases a<;>rfl
theorem Pl(a b:Bool):Bool.rec (motive:=fun _=>Bool) b true a=(a||b):=by cases a<;>rfl
theorem agA:dm [] []=true:=rfl
theorem agz(b t):dm [] (b::t)=false:=rfl
theorem agy(a r):dm (a::r) []=false:=rfl
theorem agx(a r b t):dm (a::r) (b::t)=(aj a b&&dm r t):=SO _ _
def jZ(l m:ac):Bool:=bu (motive:=fun _=>List Nat->Bool) (fun _=>true) (fun a _ ih m=>bu (motive:=fun _=>Bool) false (fun b t _=>Bool.rec (motive:=fun _=>Bool) false (ih t) (aj a b)) m) l m
theorem aiK(s):jZ [] s=true:=rfl
theorem aeh(a r):jZ (a::r) []=false:=rfl
theorem TA(a r b t):jZ (a::r) (b::t)=(aj a b&&jZ r t):=SO _ _
def zn(p s:ac):Bool:=bu (motive:=fun _=>Bool) (jZ p []) (fun b t ih=>Bool.rec (motive:=fun _=>Bool) ih true (jZ p (b::t))) s
theorem ahU(p):zn p []=jZ p []:=rfl
theorem I3(p b t):zn p (b::t)=(jZ p (b::t)||zn p t):=Pl _ _
def eY{α:Type}(l:List α):Nat:=bu (motive:=fun _=>Nat) 0 (fun _ _ ih=>nP ih) l
theorem ip{α:Type}(l:List α):eY l=l.length:=by
 induction l with
 |nil=>rfl
 |cons a r ih=>exact congrArg nP ih
def ZR{α:Type}(n:Nat)(l:List α):List α:=bu (motive:=fun _=>Nat->List α) (fun _=>[]) (fun a r ih n=>hH (motive:=fun _=>List α) (a::r) (fun j _=>ih j) n) l n
theorem SR{α:Type}(l:List α): ∀n,ZR n l=l.drop n:=by
 induction l with
 |nil=>intro n;cases n<;>rfl
 |cons a r ih=>intro n;cases n with
  |zero=>rfl
  |succ n=>exact ih n
def akH{α:Type}(n:Nat)(l:List α):List α:=bu (motive:=fun _=>Nat->List α) (fun _=>[]) (fun a r ih n=>hH (motive:=fun _=>List α) [] (fun j _=>a::ih j) n) l n
theorem afb{α:Type}(l:List α): ∀n,akH n l=l.take n:=by
 induction l with
 |nil=>intro n;cases n<;>rfl
 |cons a r ih=>intro n;cases n with
  |zero=>rfl
  |succ n=>exact congrArg (a:: ·) (ih n)
def afz{α:Type}(l m:List α):List α:=bu (motive:=fun _=>List α) m (fun a _ ih=>a::ih) l
theorem WW{α:Type}(l m:List α):afz l m=l++m:=by
 induction l with
 |nil=>rfl
 |cons a r ih=>exact congrArg (a:: ·) ih
def F2(c:Nat)(l:ac):Bool:=bu (motive:=fun _=>Bool) false (fun b _ ih=>Bool.rec (motive:=fun _=>Bool) ih true (aj c b)) l
theorem Jd(c b r):F2 c (b::r)=(aj c b||F2 c r):=Pl _ _
def PP(p s:ac):Bool:=bu (motive:=fun _=>Bool) (zn [] s) (fun c r _=>bu (motive:=fun _=>Bool) (F2 c s) (fun d t _=>zn (c::d::t) s) r) p
noncomputable def CX:List Nat->List Nat->Bool
 |_,[]=>false
 |[],_::_=>true
 |a::r,b::t=>bw a b||(aj a b&&CX r t)
noncomputable def KN(a b:Int):Bool:=match a,b with
 | .ofNat a,.ofNat b=>aj a b
 | .negSucc a,.negSucc b=>aj a b
 |_,_=>false
noncomputable def CW(a b:Int):Bool:=match a,b with
 | .ofNat a,.ofNat b=>bw a b
 | .negSucc a,.negSucc b=>bw b a
 | .negSucc _,.ofNat _=>true
 | .ofNat _,.negSucc _=>false
noncomputable def U5(b:AV):Option Bool:=match b with
 | .none=>some true
 | .int _=>some false
 | .str _=>some false
 | .tup _=>some false
 |_=>none
noncomputable def ZU(x:Int)(b:AV):Option Bool:=match b with
 | .int y=>some (KN x y)
 | .none=>some false
 |_=>none
def ZV(x:ac)(b:AV):Option Bool:=match b with
 | .str y=>some (dm x y)
 | .none=>some false
 |_=>none
noncomputable def PA(x:Bool)(b:AV):Option Bool:=match b with
 | .bool y=>some (x==y)
 |_=>none
noncomputable def IV(x:List UInt8)(b:AV):Option Bool:=match b with
 | .bytes y=>some (x==y)
 |_=>none
def LZ(a b:AV):Option Bool:=match a with
 | .none=>U5 b
 | .bool x=>PA x b
 | .int x=>ZU x b
 | .str x=>ZV x b
 | .tup _=>tc b (some false)
 | .bytes x=>IV x b
 |_=>none
noncomputable def CN(a:AV):Bool:=match a with
 | .tup _=>true
 |_=>false
def KO(f:AV->AV->Option Bool):List AV->List AV->Option Bool
 |[],[]=>some true
 |a::r,b::t=>ob (f a b) fun x=>ob (KO f r t) fun y=>some (x&&y)
 |_,_=>some false
def wF:Nat->AV->AV->Option Bool
 |0,a,b=>LZ a b
 |n+1,a,b=>bif CN a&&CN b then G8 a fun l=>G8 b fun m=>KO (wF n) l m else LZ a b
noncomputable def dB(n:Nat):Bool:=cX n 4000000
noncomputable def PJ(l:aa):Option Bool:=bif dB l.length then some (!l.isEmpty)else none
def qU(σ:AS):AV->Option Bool
 | .none=>some false
 | .bool b=>some b
 | .int i=>some (!KN i 0)
 | .str s=>bif dB s.length then some (!s.isEmpty)else none
 | .tup l=>PJ l
 | .lst l=>PJ l
 | .ref a=>nv σ a PJ
 |_=>none
def nF(σ:AS):AV->Option (List AV)
 | .tup l=>some l
 | .lst l=>some l
 | .ref a=>nv σ a some
 |_=>none
def ahZ(σ:AS):AV->Option (List AV×AS)
 | .tup l=>some (l,σ)
 | .lst l=>some (l,σ)
 | .str s=>some (s.map fun c=>.str [c],σ)
 | .dct ks _=>some (ks.map .str,σ)
 | .bytes b=>some (b.map fun x=>.int (am x.toNat),σ)
 | .rng a b=>some ((cB (b-a)).map fun i=>.int (am (a+i)),σ)
 | .ref a=>nv σ a fun l=>some (l,σ.drop a)
 |_=>none
def fE(σ:AS)(a:AV):Option (List AV×AS):=bC (ahZ σ a) fun l ai=>bif dB l.length then some (l,ai)else none
noncomputable def mG(i:Int):Bool:=cX i.natAbs (2^4000)
def apT(a b:AV):Option AV:=match a with
 | .int i=>eW b fun j=>some (.int (i+j))
 | .str s=>ek b fun t=>bif dB (eY s+eY t)then some (.str (afz s t))else none
 | .tup l=>G8 b fun m=>bif dB (l.length+m.length)&& !l.isEmpty&& !m.isEmpty then some (.tup (l++m))else none
 |_=>none
noncomputable def aqd(a b:AV):Option AV:=match a with
 | .int i=>eW b fun j=>bif mG i&&mG j then some (.int (i*j))else none
 | .str _=>eW b fun j=>bif CW (-1000) j&&CW j 1 then some (.str [])else none
 |_=>none
def am9(op:iD)(a b:AV):Option AV:=match op with
 | .Add=>apT a b
 | .Sub=>eW a fun i=>eW b fun j=>some (.int (i-j))
 | .Mult=>aqd a b
 | .Mod=>eW a fun i=>eW b fun j=>bif KN j 0 then none else some (.int (i.fmod j))
 | .FloorDiv=>eW a fun i=>eW b fun j=>bif KN j 0|| !mG j then none else some (.int (i.fdiv j))
 | .Pow=>eW a fun i=>eW b fun j=>bif mG i&& !CW j 0&&CW j 1000 then some (.int (i^j.toNat))else none
 |_=>none
def iR(σ:AS):AV->Option (List AV)
 | .lst l=>some l
 | .ref a=>nv σ a some
 |_=>none
def apV(op:iD)(a b:AV)(σ:AS):Option (AV×AS):=match op with
 | .Add=>ob (iR σ a) fun l=>ob (iR σ b) fun m=>bif dB (l.length+m.length)then some (.ref σ.next,σ.alloc (.lst (l++m)))else none
 | .Mult=>io a fun x=>nU b fun j=>bif bw j 100 then nv σ x (fun l=>bif cX l.length 1000 then some (.ref σ.next,σ.alloc (.lst ((bL j l).flatten)))else none)else none
 |_=>none
def b4(op:iD)(a b:AV)(σ:AS):Option (AV×AS):=od (am9 op a b) (fun c=>some (c,σ)) (apV op a b σ)
def wG(x:ac)(l:List (List Nat)):Bool:=bu (motive:=fun _=>Bool) false (fun a _ ih=>Bool.rec (motive:=fun _=>Bool) ih true (dm a x)) l
theorem WV(x):wG x []=false:=rfl
theorem WU(x a r):wG x (a::r)=(dm a x||wG x r):=Pl _ _
noncomputable def WT(x:Int):List Int->Bool
 |[]=>false
 |a::r=>KN a x||WT x r
def nN:List AV->Option (List (List Nat))
 |[]=>some []
 |a::r=>ek a fun s=>ob (nN r) fun l=>some (s::l)
def NP:List AV->Option (List Int)
 |[]=>some []
 |a::r=>eW a fun s=>ob (NP r) fun l=>some (s::l)
def inL(x:AV)(l:aa):Option Bool:=match x with
 | .str p=>ob (nN l) fun ss=>some (wG p ss)
 | .int i=>ob (NP l) fun is=>some (WT i is)
 |_=>none
def inA(σ:AS)(x c:AV):Option Bool:=match c with
 | .str s=>ek x fun p=>some (PP p s)
 | .dct ks _=>ek x fun p=>some (wG p ks)
 | .tup l=>inL x l
 | .lst l=>inL x l
 | .ref a=>ob (σ.get a) fun c=>match c with
  | .lst l=>inL x l
  | .dct ks _=>ek x fun p=>some (wG p ks)
  |_=>none
 |_=>none
def Tu(o:Option Bool):Option Bool:=ob o fun b=>some !b
def Pp(σ:AS):AV->Option (List (List Nat))
 | .dct ks _=>some ks
 | .ref a=>SQ σ a fun ks _=>some ks
 |_=>none
def rv{α β:Type}(l:List α)(m:List β):Bool:=aj (eY l) (eY m)
def eqA(σ:AS)(a b:AV):Option Bool:=od (wF 16 a b) some (od (iR σ a) (fun l=>ob (iR σ b) fun m=>bif rv l m then KO (wF 16) l m else some false)
 (ob (Pp σ a) fun ks=>ob (Pp σ b) fun ks'=>bif ks'.isEmpty then some ks.isEmpty else none))
noncomputable def lM:AV->Option Bool
 | .none=>some true
 | .opq=>none
 | .unb=>none
 | .glob _=>none
 |_=>some false
noncomputable def leA(a b:AV):Option Bool:=match a with
 | .int i=>eW b fun j=>some (!CW j i)
 | .str s=>ek b fun t=>some (!CX t s)
 |_=>none
def b5(op:gW)(a b:AV)(σ:AS):Option Bool:=match op with
 | .Eq=>eqA σ a b
 | .NotEq=>Tu (eqA σ a b)
 | .Lt=>eW a fun i=>eW b fun j=>some (CW i j)
 | .LtE=>leA a b
 | .Gt=>eW a fun i=>eW b fun j=>some (CW j i)
 | .GtE=>eW a fun i=>eW b fun j=>some (!CW i j)
 | .Is=>tc b (lM a)
 | .IsNot=>tc b (Tu (lM a))
 | .In=>inA σ a b
 | .NotIn=>Tu (inA σ a b)
def xS(k:Nat)(ks:ac)(vs:aa):Option AV:=bu (motive:=fun _=>List AV->Option AV) (fun _=>none) (fun x _ ih vs=>bu (motive:=fun _=>Option AV) none (fun v t _=>Bool.rec (motive:=fun _=>Option AV) (ih t) (some v) (aj k x)) vs) ks vs
theorem XA(k x ks v vs):xS k (x::ks) (v::vs)=bif aj k x then some v else xS k ks vs:=bR _ _ _
noncomputable def tp(a:AV):Option AV:=match a with
 | .unb=>none
 | .opq=>none
 | .glob _=>none
 |a=>some a
def NN(c k:Nat)(ks:ac)(vs:aa):Option AV:=bif SJ c k then none else xS k ks vs
def aA(k:Nat)(a:AV)(σ:AS):Option AV:=match a with
 | .frz c ks vs=>ob (NN c k ks vs) fun v=>tp v
 | .ref x=>CL σ x fun c ks vs=>ob (NN c k ks vs) fun v=>tp v
 |_=>none
def Ql{α:Type}(l:List α):Nat->Option α:=bu (motive:=fun _=>Nat->Option α) (fun _=>none) (fun a _ ih i=>hH (motive:=fun _=>Option α) (some a) (fun j _=>ih j) i) l
def Yb{α:Type}(l:List α)(i:Int):Option α:=match i with
 | .ofNat n=>bif dB n then Ql l n else none
 | .negSucc n=>bif dB n&&bw n l.length then Ql l (l.length-1-n)else none
def NJ(k:ac):List (List Nat)->List AV->Option AV
 |x::ks,v::vs=>bif dm x k then some v else NJ k ks vs
 |_,_=>none
noncomputable def IT(k:Int):List Int->List AV->Option AV
 |x::ks,v::vs=>bif KN x k then some v else IT k ks vs
 |_,_=>none
def qN(k:ac)(v:AV):List (List Nat)->List AV->List (List Nat)×List AV
 |x::ks,w::vs=>bif dm x k then(x::ks,v::vs)else let r:=qN k v ks vs;(x::r.1,w::r.2)
 |_,_=>([k],[v])
def agg(σ:AS):AV->Option (List (List Nat)×List AV)
 | .dct ks vs=>some (ks,vs)
 | .ref x=>SQ σ x fun ks vs=>some (ks,vs)
 |_=>none
noncomputable def abA{β:Type}(a:AV)(f:List Int->List AV->Option β):Option β:=match a with
 | .dcti ks vs=>f ks vs
 |_=>none
def acb(a i:AV)(σ:AS):Option AV:=match i with
 | .int j=>od (ek a some) (fun s=>ob (Yb s j) fun c=>some (.str [c])) (od (abA a fun ks vs=>some (IT j ks vs)) (fun r=>r) (ob (nF σ a) fun l=>Yb l j))
 | .str k=>bC (agg σ a) fun ks vs=>NJ k ks vs
 |_=>none
noncomputable def kn(n:Nat)(d:Nat):AV->Option Nat
 | .none=>some d
 | .int (.ofNat i)=>some (D8 i n)
 | .int (.negSucc i)=>some (n-(i+1))
 |_=>none
noncomputable def KL{α:Type}(l:List α)(a b:Nat):List α:=(l.drop a).take (b-a)
def Pm{α:Type}(l:List α)(a b:Nat):List α:=akH (b-a) (ZR a l)
theorem Pn{α:Type}(l:List α)(a b:Nat):Pm l a b=KL l a b:=by rw[Pm,KL,afb,SR]
def anB(a lo hi:AV)(σ:AS):Option (AV×AS):=od (ek a some) (fun s=>bif dB (eY s)then ob (kn (eY s) 0 lo) (fun x=>ob (kn (eY s) (eY s) hi) fun y=>some (.str (Pm s x y),σ))else none)
 (ob (iR σ a) fun l=>bif dB (eY l)then ob (kn (eY l) 0 lo) (fun x=>ob (kn (eY l) (eY l) hi) fun y=>some (.ref σ.next,σ.alloc (.lst (Pm l x y))))else none)
def pr{α β γ:Type}(p:α×β)(f:α->β->γ):γ:=Ob (motive:=fun _=>γ) f p
def pW(f:AV->AS->AV×AS):List AV->AS->List AV×AS
 |[],σ=>([],σ)
 |a::r,σ=>pr (f a σ) fun a' ai=>pr (pW f r ai) fun r' fW=>(a'::r',fW)
def Tr(sel:Nat->Bool)(f:AV->AS->AV×AS):List Nat->List AV->AS->List AV×AS
 |k::ks,v::vs,σ=>pr (bif sel k then f v σ else(v,σ)) fun v' ai=>pr (Tr sel f ks vs ai) fun vs' fW=>(v'::vs',fW)
 |[],vs,σ=>(vs,σ)
 |_::_,[],σ=>([],σ)
def SZ(f:AV->AS->AV×AS)(sel:Nat->Bool)(x:Nat)(σ:AS):bJ->AV×AS
 | .lst l=>pr (pW f l (σ.drop x)) fun l' ai=>(.lst l',ai)
 | .inst c ks vs=>pr (Tr sel f ks vs (σ.drop x)) fun vs' ai=>(.frz c ks vs',ai)
 | .dct ks vs=>pr (pW f vs (σ.drop x)) fun vs' ai=>(.dct ks vs',ai)
 | .orc _ _=>(.opq,σ)
def um(sel:Nat->Bool):Nat->AV->AS->AV×AS
 |0,a,σ=>(a,σ)
 |n+1,a,σ=>match a with
  | .ref x=>bo (motive:=fun _=>AV×AS) (.opq,σ) (fun c=>SZ (um sel n) sel x σ c) (σ.get x)
  |a=>(a,σ)
def jJ:Nat->AV->AS->AV×AS:=um fun _=>true
abbrev gR:=AV->AS->Option aW
inductive T where
 |nop
 |cst(a:AV)
 |var(i:Nat)
 |glb(g:Nat)
 |bin(op:iD)(a b:T)
 |neg(a:T)
 |not(a:T)
 |and(a b:T)
 |or(a b:T)
 |ife(c a b:T)
 |cmp(op:gW)(a b:T)
 |cmp2(op op':gW)(a b c:T)
 |atr(k:Nat)(a:T)
 |idx(a i:T)
 |slc(a lo hi:T)
 |lst(l:T)
 |tup(l:T)
 |dic
 |dicI(k1 k2:Int)(a b:List Nat)
 |rep(c:Nat)(a:T)
 |call(f:Nat)(l:T)
 |meth(n:Nat)(o l:T)
 |nil
 |cons(a l:T)
 |comp(xs:List Nat)(it:T)(c:T)(elt:T)
 |comp2(x:Nat)(it:T)(y:Nat)(it2:T)(elt:T)
def vO:List Nat->List AV->Fm->Option Fm
 |[],[],fr=>some fr
 |x::xs,a::l,fr=>vO xs l (put fr x a)
 |_,_,_=>none
def mo(xs:ac)(a:AV)(fr:Fm)(_:AS):Option Fm:=match xs with
 |[x]=>some (put fr x a)
 |xs=>G8 a fun l=>vO xs l fr
def eI(xs:ac)(test:BM)(elt:EM):List AV->Fm->AS->Option (List AV×AS)
 |[],_,σ=>some ([],σ)
 |a::r,fr,σ=>ob (mo xs a fr σ) fun fr'=>bC (test fr' σ) fun t ai=>bif t then bC (elt fr' ai) (fun b fW=>bC (eI xs test elt r fr fW) fun l cN=>some (b::l,cN))else eI xs test elt r fr ai
def jz(x:Nat)(it2:EM)(y:Nat)(elt:EM):List AV->Fm->AS->Option (List AV×AS)
 |[],_,σ=>some ([],σ)
 |a::r,fr,σ=>bC (it2 (put fr x a) σ) fun s ai=>bC (fE ai s) fun l ay=>bC (eI [y] (fun _ σ=>some (true,σ)) elt l (put fr x a) ay) fun bs fW=>bC (jz x it2 y elt r fr fW) fun cs cN=>some (bs++cs,cN)
def jh(m:EM):BM:=fun fr σ=>bC (m fr σ) fun a ai=>ob (qU ai a) fun b=>some (b,ai)
def un(f:AV->AS->Option AV)(m:EM):EM:=fun fr σ=>bC (m fr σ) fun a ai=>ob (f a ai) fun b=>some (b,ai)
def bi(f:AV->AV->AS->Option (AV×AS))(m n:EM):EM:=fun fr σ=>bC (m fr σ) fun a ai=>bC (n fr ai) fun b fW=>f a b fW
def fw(f:AV->AV->AS->Option Bool)(m n:EM):BM:=fun fr σ=>bC (m fr σ) fun a ai=>bC (n fr ai) fun b fW=>ob (f a b fW) fun r=>some (r,fW)
noncomputable def aik(a:AV)(_:AS):Option AV:=eW a fun i=>some (.int (-i))
noncomputable def HF(c:Nat):List Nat->List Nat
 |[]=>[]
 |a::r=>bif aj a c then HF c r else a::HF c r
noncomputable def ajq(c:Nat)(a:AV)(_:AS):Option AV:=ek a fun s=>bif dB s.length then some (.str (HF c s))else none
def one:EM->LM:=fun m fr σ=>bC (m fr σ) fun a ai=>some ([a],ai)
def rW(m:BM):EM:=fun fr σ=>bC (m fr σ) fun b ai=>some (.bool b,ai)
def pf(b:BM):BM:=fun fr σ=>bC (b fr σ) fun b ai=>some (!b,ai)
def am8(a b:BM):BM:=fun fr σ=>bC (a fr σ) fun t ai=>bif t then b fr ai else some (false,ai)
def RM(a b:BM):BM:=fun fr σ=>bC (a fr σ) fun t ai=>bif t then some (true,ai)else b fr ai
def SU(a b:EM):EM:=fun fr σ=>bC (a fr σ) fun v ai=>ob (qU ai v) fun t=>bif t then b fr ai else some (v,ai)
def eOr(a b:EM):EM:=fun fr σ=>bC (a fr σ) fun v ai=>ob (qU ai v) fun t=>bif t then some (v,ai)else b fr ai
def ti(c:BM)(a b:EM):EM:=fun fr σ=>bC (c fr σ) fun t ai=>bif t then a fr ai else b fr ai
noncomputable def bX(a:AV):Bool:=match a with
 | .unb=>true
 |_=>false
def al(i:Nat):EM:=fun fr σ=>bif bX (gt fr i)then none else some (gt fr i,σ)
noncomputable def ba(a:AV):EM:=fun _ σ=>some (a,σ)
def Pb(op op':gW)(a b c:EM):BM:=fun fr σ=>bC (a fr σ) fun x ai=>bC (b fr ai) fun y aM=>ob (b5 op x y aM) fun t=>bif t then bC (c fr aM) (fun z cN=>ob (b5 op' y z cN) fun r=>some (r,cN))else some (false,aM)
def fU(x y:AV)(σ:AS):Option (AV×AS):=ob (acb x y σ) fun z=>some (z,σ)
def SW(a lo hi:EM):EM:=fun fr σ=>bC (a fr σ) fun x ai=>bC (lo fr ai) fun y aM=>bC (hi fr aM) fun z cN=>anB x y z cN
def bv(f:aW)(l:LM):EM:=fun fr σ=>bC (l fr σ) fun vs ai=>f vs ai
def cJ(D:gR)(o:EM)(l:LM):EM:=fun fr σ=>bC (o fr σ) fun x ai=>ob (D x ai) fun F=>bC (l fr ai) fun vs aM=>F (x::vs) aM
noncomputable def de:aW:=fun vs σ=>bif dB vs.length then some (.ref σ.next,σ.alloc (.lst vs))else none
noncomputable def gk:aW:=fun vs σ=>bif dB vs.length then some (.tup vs,σ)else none
noncomputable def Hv(ks:List Int):aW:=fun vs σ=>some (.dcti ks vs,σ)
noncomputable def FT:EM:=fun _ σ=>some (.ref σ.next,σ.alloc (.dct [] []))
def aw(a:EM)(l:LM):LM:=fun fr σ=>bC (a fr σ) fun v ai=>bC (l fr ai) fun vs aM=>some (v::vs,aM)
noncomputable def aJ:LM:=fun _ σ=>some ([],σ)
def eO(xs:ac)(it:EM)(c:BM)(elt:EM):EM:=fun fr σ=>bC (it fr σ) fun x ai=>bC (fE ai x) fun l ay=>bC (eI xs c elt l fr ay) fun vs aM=>bif dB vs.length then some (.ref aM.next,aM.alloc (.lst vs))else none
def qO(x:Nat)(it:EM)(y:Nat)(it2 elt:EM):EM:=fun fr σ=>bC (it fr σ) fun a ai=>bC (fE ai a) fun l ay=>bC (jz x it2 y elt l (put fr y .unb) ay) fun vs aM=>bif dB vs.length then some (.ref aM.next,aM.alloc (.lst vs))else none
structure D where
 e:EM
 b:BM
 l:LM
def D.ofE(e:EM):D:=⟨e,jh e,fun _ _=>none⟩
def D.ofBool(b:BM):D:=⟨rW b,b,fun _ _=>none⟩
noncomputable def D.bad:D:=⟨fun _ _=>none,fun _ _=>none,fun _ _=>none⟩
structure cG where
 glb:List (Str×AV)
 fns:List (Str×aW)
 mts:List (Str×gR)
noncomputable def pX{α:Type}:List (Str×α)->Nat->Option (Str×α)
 |[],_=>none
 |p::_,0=>some p
 |_::r,i+1=>pX r i
noncomputable def acF(l:List (Str×AV))(i:Nat):AV:=match pX l i with
 |some (_,a)=>a
 |none=>.unb
noncomputable def acG(l:List (Str×aW))(i:Nat):aW:=match pX l i with
 |some (_,a)=>a
 |none=>fun _ _=>none
noncomputable def acH(l:List (Str×gR))(i:Nat):gR:=match pX l i with
 |some (_,a)=>a
 |none=>fun _ _=>none
def gS(Γ:cG):T->D
 | .nop=>⟨ba .none,fun _ σ=>some (true,σ),aJ⟩
 | .cst a=>.ofE (ba a)
 | .var i=>.ofE (al i)
 | .glb g=>.ofE (ba (acF Γ.glb g))
 | .bin op a b=>.ofE (bi (b4 op) (gS Γ a).e (gS Γ b).e)
 | .neg a=>.ofE (un aik (gS Γ a).e)
 | .not a=>⟨rW (pf (jh (gS Γ a).e)),pf (gS Γ a).b,fun _ _=>none⟩
 | .and a b=>⟨SU (gS Γ a).e (gS Γ b).e,am8 (gS Γ a).b (gS Γ b).b,fun _ _=>none⟩
 | .or a b=>⟨eOr (gS Γ a).e (gS Γ b).e,RM (gS Γ a).b (gS Γ b).b,fun _ _=>none⟩
 | .ife c a b=>.ofE (ti (gS Γ c).b (gS Γ a).e (gS Γ b).e)
 | .cmp op a b=>.ofBool (fw (b5 op) (gS Γ a).e (gS Γ b).e)
 | .cmp2 op op' a b c=>.ofBool (Pb op op' (gS Γ a).e (gS Γ b).e (gS Γ c).e)
 | .atr k a=>.ofE (un (aA k) (gS Γ a).e)
 | .idx a i=>.ofE (bi fU (gS Γ a).e (gS Γ i).e)
 | .slc a lo hi=>.ofE (SW (gS Γ a).e (gS Γ lo).e (gS Γ hi).e)
 | .lst l=>.ofE (bv de (gS Γ l).l)
 | .tup l=>.ofE (bv gk (gS Γ l).l)
 | .dic=>.ofE FT
 | .dicI k1 k2 a b=>.ofE (bv (Hv [k1,k2]) (aw (ba (.str a)) (aw (ba (.str b)) aJ)))
 | .rep c a=>.ofE (un (ajq c) (gS Γ a).e)
 | .call f l=>.ofE (bv (acG Γ.fns f) (gS Γ l).l)
 | .meth n o l=>.ofE (cJ (acH Γ.mts n) (gS Γ o).e (gS Γ l).l)
 | .comp xs it c elt=>.ofE (eO xs (gS Γ it).e (gS Γ c).b (gS Γ elt).e)
 | .comp2 x it y it2 elt=>.ofE (qO x (gS Γ it).e y (gS Γ it2).e (gS Γ elt).e)
 | .nil=>⟨fun _ _=>none,fun _ _=>none,aJ⟩
 | .cons a l=>⟨fun _ _=>none,fun _ _=>none,aw (gS Γ a).e (gS Γ l).l⟩
termination_by structural t=>t
inductive TS where
 |bad
 |expr(e:T)
 |asg(i:Nat)(e:T)
 |asgT(is:List Nat)(e:T)
 |asgA(k:Nat)(o e:T)
 |asgI(o i e:T)
 |ifs(c:T)(a b:TS)
 |whl(c:T)(b:TS)
 |for_(xs:List Nat)(it:T)(b:TS)
 |ret(e:T)
 |cont
 |frz(i:Nat)
 |nil
 |cons(s r:TS)
def Mk(k:Nat)(v:AV)(ks:ac)(vs:aa):List Nat×List AV:=bu (motive:=fun _=>List AV->List Nat×List AV) (fun _=>([k],[v])) (fun x ks ih vs=>bu (motive:=fun _=>List Nat×List AV) ([k],[v]) (fun w vs _=>cond (aj k x) (x::ks,v::vs) (Ob (motive:=fun _=>List Nat×List AV) (fun ks' vs'=>(x::ks',w::vs')) (ih vs))) vs) ks vs
theorem ajE(k v x ks w vs):Mk k v (x::ks) (w::vs)=bif aj k x then(x::ks,v::vs)else match Mk k v ks vs with
  |(ks',vs')=>(x::ks',w::vs'):=rfl
def oz(k:Nat)(v o:AV)(σ:AS):Option AS:=io o fun x=>CL σ x fun c ks vs=>pr (Mk k v ks vs) fun ks' vs'=>bif cX ks'.length 1000&& !SJ c k then some (σ.set x (.inst c ks' vs'))else none
noncomputable def NW:List AV->Nat->AV->List AV
 |[],_,_=>[]
 |_::r,0,v=>v::r
 |a::r,i+1,v=>a::NW r i v
def Lb(v o i:AV)(σ:AS):Option AS:=io o fun x=>ob (σ.get x) fun c=>match c with
 | .lst l=>nU i fun n=>bif dB n&&bw n l.length then some (σ.set x (.lst (NW l n v)))else none
 | .dct ks vs=>ek i fun k=>pr (qN k v ks vs) fun ks' vs'=>bif dB ks.length then some (σ.set x (.dct ks' vs'))else none
 |_=>none
noncomputable def gU(k:SM)(r:j8):Option j8:=match r with
 | .next fr' ai=>k fr' ai
 |r=>some r
noncomputable def KU(k:SM)(r:j8):Option j8:=match r with
 | .next fr' ai=>k fr' ai
 | .cont fr' ai=>k fr' ai
 | .brk fr' ai=>some (.next fr' ai)
 | .ret a ai=>some (.ret a ai)
def aV(a b:SM):SM:=fun fr σ=>ob (a fr σ) (gU b)
noncomputable def bq:SM:=fun fr σ=>some (.next fr σ)
def sf(c:BM)(a b:SM):SM:=fun fr σ=>bC (c fr σ) fun t ai=>bif t then a fr ai else b fr ai
def k8(e:EM):SM:=fun fr σ=>bC (e fr σ) fun _ ai=>some (.next fr ai)
def cT(is:ac)(e:EM):SM:=fun fr σ=>bC (e fr σ) fun v ai=>ob (mo is v fr ai) fun fr'=>some (.next fr' ai)
def lT(k:Nat)(o e:EM):SM:=fun fr σ=>bC (e fr σ) fun v ai=>bC (o fr ai) fun x aM=>ob (oz k v x aM) fun cN=>some (.next fr cN)
def Qz(o i e:EM):SM:=fun fr σ=>bC (e fr σ) fun v ai=>bC (o fr ai) fun x aM=>bC (i fr aM) fun y cN=>ob (Lb v x y cN) fun vb=>some (.next fr vb)
def eK(e:EM):SM:=fun fr σ=>bC (e fr σ) fun v ai=>some (.ret v ai)
def TH(c:BM)(b:SM):Nat->SM
 |0=>fun _ _=>none
 |n+1=>fun fr σ=>bC (c fr σ) fun t ai=>bif t then ob (b fr ai) (KU (TH c b n))else some (.next fr ai)
def pI(xs:ac)(b:SM):List AV->SM
 |[]=>bq
 |a::r=>fun fr σ=>ob (mo xs a fr σ) fun gT=>ob (b gT σ) (KU (pI xs b r))
def gB(xs:ac)(it:EM)(b:SM):SM:=fun fr σ=>bC (it fr σ) fun x ai=>bC (fE ai x) fun l ay=>pI xs b l fr ay
def QA(i:Nat):SM:=fun fr σ=>pr (jJ 14 (gt fr i) σ) fun a ai=>some (.next (put fr i a) ai)
def cg(Γ:cG):TS->SM
 | .bad=>fun _ _=>none
 | .expr e=>k8 (gS Γ e).e
 | .asg i e=>cT [i] (gS Γ e).e
 | .asgT is e=>cT is (gS Γ e).e
 | .asgA k o e=>lT k (gS Γ o).e (gS Γ e).e
 | .asgI o i e=>Qz (gS Γ o).e (gS Γ i).e (gS Γ e).e
 | .ifs c a b=>sf (gS Γ c).b (cg Γ a) (cg Γ b)
 | .whl c b=>TH (gS Γ c).b (cg Γ b) 2000
 | .for_ xs it b=>gB xs (gS Γ it).e (cg Γ b)
 | .ret e=>eK (gS Γ e).e
 | .cont=>fun fr σ=>some (.cont fr σ)
 | .frz i=>QA i
 | .nil=>bq
 | .cons a b=>aV (cg Γ a) (cg Γ b)
termination_by structural t=>t
noncomputable def ir(r:j8):Option (AV×AS):=match r with
 | .next _ ai=>some (.none,ai)
 | .ret a ai=>some (a,ai)
 |_=>none
def bn(n:Nat)(dfl:aa)(b:SM):aW:=fun args σ=>bif cX (eY args) n&&cX n (eY args+eY dfl)then ob (b (afz args (ZR (eY args+eY dfl-n) dfl)) σ) ir else none
def uy(c:Nat)(init:aW):aW:=fun args σ=>bC (init (.ref σ.next::args) (σ.alloc (.inst c [] []))) fun a ai=>tc a (some (.ref σ.next,ai))
def FW(n:Nat)(F:aW):aW:=fun args σ=>bC (F args σ) fun a ai=>some (jJ n a ai)
def Z0(n:Nat)(F:aW):aW:=fun args σ=>pr (pW (jJ n) args σ) fun args' ai=>F args' ai
noncomputable def dv(c:Nat):List Nat->List Nat->List (List Nat)
 |acc,[]=>[acc.reverse]
 |acc,a::r=>bif aj a c then acc.reverse::dv c [] r else dv c (a::acc) r
noncomputable def lq(sep:ac):List (List Nat)->List Nat
 |[]=>[]
 |[a]=>a
 |a::r=>a++sep++lq sep r
def Ew(p:ac):Nat->List Nat->Option Nat
 |i,[]=>bif jZ p []then some i else none
 |i,a::s=>bif jZ p (a::s)then some i else Ew p (i+1) s
noncomputable def Ps(n:Nat):List Nat:=bif bw n 10 then[48+n]else bif bw n 100 then[48+n / 10,48+n%10]else[48+n / 100,48+n / 10%10,48+n%10]
noncomputable def lP:Nat->List Nat->Option Nat
 |n,[]=>some n
 |n,c::r=>bif cX 48 c&&cX c 57 then lP (n*10+(c-48)) r else none
noncomputable def KR(x:ac):List (List Nat)->List (List Nat)
 |[]=>[x]
 |y::r=>bif CX x y then x::y::r else y::KR x r
noncomputable def jQ:List (List Nat)->List (List Nat)
 |[]=>[]
 |x::r=>KR x (jQ r)
def aaB:List AV->Option (List UInt8)
 |[]=>some []
 |a::r=>nU a fun n=>bif bw n 256 then ob (aaB r) (fun l=>some (Rl n::l))else none
def acg(σ:AS)(a:AV):Option (List (List Nat)):=match a with
 | .dct ks _=>some ks
 |a=>ob (nF σ a) nN
def ri{β:Type}(l:aa)(f:AV->Option β):Option β:=bu (motive:=fun _=>Option β) none (fun a r _=>bu (motive:=fun _=>Option β) (f a) (fun _ _ _=>none) r) l
def vN{β:Type}(l:aa)(f:AV->AV->Option β):Option β:=bu (motive:=fun _=>Option β) none (fun a r _=>ri r (f a)) l
def WX{β:Type}(l:aa)(f:AV->AV->AV->Option β):Option β:=bu (motive:=fun _=>Option β) none (fun a r _=>vN r (f a)) l
def UP{β:Type}(a:AV)(f:Nat->Option β):Option β:=ek a fun s=>arg1' s f
where arg1' {β:Type} (l:List Nat) (f:Nat->Option β):Option β:=bu (motive:=fun _=>Option β) none (fun a r _=>bu (motive:=fun _=>Option β) (f a) (fun _ _ _=>none) r) l
def NH{β:Type}(a:AV)(f:Nat->List Nat->Option β):Option β:=ek a fun s=>bu (motive:=fun _=>Option β) none (fun a r _=>f a r) s
def anm(σ:AS)(a:AV):Option (AV×AS):=match a with
 | .str s=>bif dB (eY s)then some (.int (am (eY s)),σ)else none
 |a=>ob (nF σ a) fun l=>bif dB (eY l)then some (.int (am (eY l)),σ)else none
def eV:aW:=fun args σ=>ri args (anm σ)
def Sk:aW:=fun args σ=>ri args fun a=>nU a fun n=>bif bw n 100000 then some (.rng 0 n,σ)else none
def Sl:aW:=fun args σ=>vN args fun a b=>nU a fun n=>nU b fun m=>bif bw n 100000&&bw m 100000 then some (.rng n m,σ)else none
def lD:aW:=fun args σ=>bif aj (eY args) 1 then Sk args σ else Sl args σ
def Us:aW:=fun args σ=>ri args fun a=>nU a fun n=>bif bw n 1000 then some (.str (Ps n),σ)else none
def aqO(σ:AS)(a:AV):Option (AV×AS):=bif CN a then some (a,σ)else ob (iR σ a) fun l=>bif dB l.length then some (.tup l,σ)else none
def fi:aW:=fun args σ=>ri args (aqO σ)
def abt:aW:=fun args σ=>ri args fun a=>ob (nF σ a) fun l=>bif dB l.length then some (.ref σ.next,σ.alloc (.lst l))else none
def Za:aW:=fun args σ=>ri args fun a=>eW a fun i=>some (.int (am i.natAbs),σ)
def Zb:aW:=fun args σ=>ri args fun a=>nU a fun n=>bif bw n 0xD800 then some (.str [n],σ)else none
def Zc:aW:=fun args σ=>ri args fun a=>UP a fun c=>some (.int (am c),σ)
def qg:aW:=fun args σ=>ri args fun a=>ob (iR σ a) fun l=>ob (nN l) fun ss=>bif bw ss.length 64 then some (.ref σ.next,σ.alloc (.lst ((jQ ss).map .str)))else none
def tY:aW:=fun args σ=>ri args fun a=>NH a fun c r=>bif bw r.length 18 then ob (lP 0 (c::r)) (fun n=>some (.int (am n),σ))else none
def Wk:aW:=fun args σ=>ri args fun a=>ob (iR σ a) fun l=>ob (aaB l) fun b=>bif dB b.length then some (.bytes b,σ)else none
def Ur:aW:=fun args σ=>vN args fun a b=>eW a fun i=>eW b fun j=>some (.int (bif CW j i then j else i),σ)
def kG:aW:=fun args σ=>vN args fun a b=>ek a fun s=>UP b fun c=>bif dB s.length then some (.ref σ.next,σ.alloc (.lst ((dv c [] s).map .str)))else none
def vy:aW:=fun args σ=>vN args fun a b=>ek a fun s=>ob (acg σ b) fun l=>bif dB (eY (lq s l)+eY l*eY s+eY l)then some (.str (lq s l),σ)else none
def tZ:aW:=fun args σ=>WX args fun a b d=>ek a fun s=>NH b fun c p=>ek d fun _=>bif PP (c::p) s then none else some (.str s,σ)
def Ip:aW:=fun args σ=>vN args fun a b=>ek a fun s=>NH b fun c p=>ob (Ew (c::p) 0 s) fun i=>some (.int (am i),σ)
def gu:aW:=fun args σ=>vN args fun a v=>io a fun x=>nv σ x fun l=>bif dB l.length then some (.none,σ.set x (.lst (l++[v])))else none
def ahf(σ:AS)(x:Nat)(b:AV):Option (List AV):=match b with
 | .ref c=>bif aj x c then none else nv σ c some
 | .lst m=>some m
 |_=>none
def fZ:aW:=fun args σ=>vN args fun a b=>io a fun x=>ob (ahf σ x b) fun m=>nv σ x fun l=>bif dB (l.length+m.length)then some (.none,σ.set x (.lst (l++m)))else none
def Zd:aW:=fun args σ=>ri args fun a=>io a fun x=>nv σ x fun l=>ob l.getLast? fun v=>bif dB l.length then some (v,σ.set x (.lst l.dropLast))else none
noncomputable def Uq:aW:=fun _ _=>none
noncomputable def Xa(c:bJ):Option Nat:=match c with
 | .inst d _ _=>some d
 | .orc d _=>some d
 |_=>none
def FQ(a:AV)(σ:AS):Option Nat:=match a with
 | .frz d _ _=>some d
 | .ref x=>ob (σ.get x) Xa
 |_=>none
def fm(c:Nat)(F:aW)(G:gR):gR:=fun a σ=>ob (FQ a σ) fun d=>bif aj c d then some F else G a σ
noncomputable def gP:gR:=fun _ _=>none
noncomputable def iq(F:aW):gR:=fun a _=>ek a fun _=>some F
def fS(F:aW):gR:=fun a σ=>io a fun x=>nv σ x fun _=>some F
section
open PySem.SeqAt
noncomputable section
section
variable{X:FX}{k:Nat}{W W':Wd}{fr:Fm}{σ ai:AS}{s s':az}{h h':bO}{A:b7}
theorem V2{α:Type}{M:lb}{A:b7}{s:az}{t:Sem α}{Q:α->az->Prop}{n:Nat}(hn:n<=s.toks)(h:wpAny M A t (fun a s'=>n<=s'.toks->Q a s') dw s):wpAny M A t Q dw s:=
 jw (wpAny_toks_of hn h) (fun _ _ x=>x.2 x.1) fun _ _ x=>x.2
theorem eC{α:Type}{M:lb}{t:Sem α}{Q Q':α->az->Prop}(h:wpAny M A t Q dw s)(hQ: ∀a s,Q a s->Q' a s):wpAny M A t Q' dw s:=jw h hQ fun _ _ e=>e
theorem ae3{p:Pos}{n:Nat}:b8 X k (ba .none) (.Constant .none n p):=fun A _ W fr σ s T a ai e=>by
 apply s2 e;exact fun _ _ _=>T.post rfl
theorem aeU{b:Bool}{p:Pos}{n:Nat}:b8 X k (ba (.bool b)) (.Constant (.bool b) n p):=fun A _ W fr σ s T a ai e=>by
 apply s2 e;exact fun _ _ _=>T.post rfl
theorem akr{i:Int}{p:Pos}{n:Nat}:b8 X k (ba (.int i)) (.Constant (.int i) n p):=fun A _ W fr σ s T a ai e=>by
 apply s2 e;exact ra ((T.toks _).post ⟨_,rfl⟩)
theorem akx{x:Str}{l:ac}{p:Pos}{n:Nat}(hx:aP l=x):b8 X k (ba (.str l)) (.Constant (.str x) n p):=fun A _ W fr σ s T a ai e=>by
 apply s2 e;exact oL ((T.toks _).post ⟨_,by rw[hx]⟩)
theorem aaX{x:List UInt8}{p:Pos}{n:Nat}:b8 X k (ba (.bytes x)) (.Constant (.bytes x) n p):=fun A _ W fr σ s T a ai e=>by
 apply s2 e;exact Constant_bytes ((T.toks _).post ⟨_,rfl⟩)
theorem Vc: ∀(fr:Fm) (i:Nat),(fr[i]? =some (gt fr i))\/gt fr i= .unb
 |[],_=>.inr rfl
 |_::_,0=>.inl rfl
 |_::r,i+1=>(Vc r i).imp (fun h=>h) (fun h=>h)
theorem St.load(O:vi X)(T:St X W fr σ s){i:Nat}{x:Str}(hx:X.names i=some x)(hu:gt fr i≠ .unb):
  wpAny (dI X.C) A (loadName X.env x) (fun v s'=>s'=s/\V X.C W (gt fr i) v) dw s:=by
 obtain⟨m,hn,hv⟩:=T.fr.vars
 obtain⟨v,e2,e3⟩:=((Vc fr i).resolve_right hu|>hv i _).resolve_left hu x hx
 unfold jc at e2
 split at e2
 ·rename_i q;exact wpAny_loadName_local O.kind q hn e2 ⟨rfl,e3⟩
 ·rename_i q;obtain⟨c,a,b⟩:=e2;exact wpAny_loadName_cell O.kind q a b ⟨rfl,e3⟩
 ·rename_i q;obtain⟨c,a,b⟩:=e2
  by_cases z:(x==("__classdict__":Str))=true
  ·exact absurd (O.plain i x hx) (by rw[beq_iff_eq.mp z];decide)
  ·exact wpAny_loadName_free O.kind q a b ⟨rfl,e3⟩ (by simpa using z)
 ·exact e2.elim
theorem amT{a:AV}(h:bX a=false):a≠ .unb:=fun q=>by rw[q]at h;cases h
theorem uT(O:vi X){i:Nat}{x:Str}{p:Pos}(hx:X.names i=some x):b8 X k (al i) (.Name x p):=fun A _ W fr σ s T a ai e=>by
 refine kN e fun hu e=> ?_
 apply s2 e
 have hd:(x==("__debug__":Str))=false:=by
  cases z:(x==("__debug__":Str))with
  |false=>rfl
  |true=>exact absurd (O.plain i x hx) (by rw[beq_iff_eq.mp z];decide)
 exact wpAny_Name (eC (T.load O hx (amT hu)) fun v s' h=>by rw[h.1];exact T.post h.2) hd
def np(C:PC)(x:Str)(a:AV):Prop:= ∀M A E (env:Env) (W:Wd) σ s (Q:ah->az->Prop),env.globals=mainGlobals->env.builtins=builtinsNs->cC C W σ s.heap->(∀v,V C W a v->Q v s)->wpAny M A (loadGlobal env x) Q E s
theorem YJ(O:vi X){a:AV}{x:Str}{p:Pos}(hx:X.env.kindOf x=some .globalImplicit)(hd:(x==("__debug__":Str))=false)(h:np X.C x a):b8 X k (ba a) (.Name x p):=fun A _ W fr σ s T b ai e=>by
 apply s2 e
 exact yM O.kind hx (h _ A dw X.env W σ s _ O.glob O.blt T.rel fun v q=>T.post q) hd
def am3(X:FX)(k:Nat)(t:ah->ah->Sem ah)(f:AV->AV->AS->Option (AV×AS)):Prop:=
 ∀A,eN A k-> ∀W fr σ s,St X W fr σ s-> ∀a b v w,V X.C W a v->V X.C W b w-> ∀c ai,f a b σ=some (c,ai)->wpAny (dI X.C) A (t v w) (fP X W fr c ai) dw s
theorem W4{f:AV->AV->AS->Option (AV×AS)}{m n:EM}{c:AV}(e:bi f m n fr σ=some (c,ai)){P:Prop}(k: ∀a ay b aM,m fr σ=some (a,ay)->n fr ay=some (b,aM)->f a b aM=some (c,ai)->P):P:=
 fR e fun a ay e1 e=>fR e fun b aM e2 e=>k a ay b aM e1 e2 e
theorem fP.elim{a:AV}{v:ah}{P:Prop}(h:fP X W fr a σ v s)(k: ∀W',W.le W'->St X W' fr σ s->V X.C W' a v->P):P:=by
 obtain⟨W',h1,h2,h3⟩:=h;exact k W' h1 h2 h3
theorem Kr.elim{a:aa}{v:List ah}{P:Prop}(h:Kr X W fr a σ v s)(k: ∀W',W.le W'->St X W' fr σ s->VL X.C W' a v->P):P:=by
 obtain⟨W',h1,h2,h3⟩:=h;exact k W' h1 h2 h3
@[elab_as_elim] theorem o6.elim {b b':Bool} {Q:Bool->Prop} (h:o6 X W fr b σ b' s) (k: ∀W',W.le W'->St X W' fr σ s->Q b):Q b':=by
 obtain⟨rfl,W',h1,h2⟩:=h;exact k W' h1 h2
theorem y7.elim{P:Prop}(h:y7 X W fr σ s)(k: ∀W',W.le W'->St X W' fr σ s->P):P:=by
 obtain⟨W',h1,h2⟩:=h;exact k W' h1 h2
theorem b8.go{m:EM}{x:an}(hm:b8 X k m x)(R:eN A k)(T:St X W fr σ s){a:AV}{ay:AS}(e:m fr σ=some (a,ay)){Q:ah->az->Prop}(h: ∀v bt bm,W.le bm->St X bm fr ay bt->V X.C bm a v->Q v bt):wpAny (dI X.C) A (eval x X.env) Q dw s:=
 eC (hm A R W fr σ s T a ay e) fun v bt z=>z.elim fun bm l bz q=>h v bt bm l bz q
theorem Ag.go{m:LM}{x:List an}(hm:Ag X k m x)(R:eN A k)(T:St X W fr σ s){a:aa}{ay:AS}(e:m fr σ=some (a,ay))(pos:Pos){Q:List ah->az->Prop}(h: ∀v bt bm,W.le bm->St X bm fr ay bt->VL X.C bm a v->Q v bt):wpAny (dI X.C) A (spliced (backTo pos (starEach x X.env))) Q dw s:=
 eC (hm A R W fr σ s T a ay e pos) fun v bt z=>z.elim fun bm l bz q=>h v bt bm l bz q
theorem nk.go{m:BM}{x:an}(hm:nk X k m x)(R:eN A k)(T:St X W fr σ s){b:Bool}{ay:AS}(e:m fr σ=some (b,ay)){Q:Bool->az->Prop}(h: ∀bt bm,W.le bm->St X bm fr ay bt->Q b bt):wpAny (dI X.C) A (isTrue x X.env (eval x X.env)) Q dw s:=
 eC (hm A R W fr σ s T b ay e) fun b' bt z=>z.elim fun bm l bz=>h bt bm l bz
theorem EP{m n:EM}{a b:an}(hm:b8 X k m a)(hn:b8 X k n b){Q:ah->ah->az->Prop}(R:eN A k)(T:St X W fr σ s){x y:AV}{ay aM:AS}(e1:m fr σ=some (x,ay))(e2:n fr ay=some (y,aM))
  (h: ∀v w dU cA,W.le cA->St X cA fr aM dU->V X.C cA x v->V X.C cA y w->Q v w dU):
  wpAny (dI X.C) A (eval a X.env) (fun v bt=>wpAny (dI X.C) A (eval b X.env) (fun w dU=>Q v w dU) dw bt) dw s:=
 hm.go R T e1 fun v bt bm bD bz eg=>hn.go R bz e2 fun w dU cA dP cP j0=>h v w dU cA (bD.trans dP) cP (eg.mono dP) j0
theorem akl{op:iD}{f:AV->AV->AS->Option (AV×AS)}{m n:EM}{a b:an}{p:Pos}(hm:b8 X k m a)(hn:b8 X k n b)(ho:am3 X k (binaryOp op) f):b8 X k (bi f m n) (.BinOp a op b p):=fun A R W fr σ s T c ai e=>
 W4 e fun x ay y aM e1 e2 e3=>wpAny_BinOp (EP hm hn R T e1 e2 fun v w dU cA l cP eg j0=>eC (ho A R cA fr aM dU cP x y v w eg j0 c ai e3) fun _ _ z=>z.le l)
end
end
end
section
open PySem.SeqAt
noncomputable section
theorem kO: ∀{a b:ac},dm a b=decide (a=b)
 |[],[]=>by simp[agA]
 |[],_::_=>by simp[agz]
 |_::_,[]=>by simp[agy]
 |a::r,b::t=>by
  rw[agx,kO,f8]
  by_cases h:a=b<;>by_cases q:r=t<;>simp[h,q]
theorem rj{a b:Int}:KN a b=decide (a=b):=by
 cases a with
 |ofNat a=>cases b with
  |ofNat b=>
   show aj a b=_
   rw[f8]
   exact decide_eq_decide.mpr ⟨fun h=>by rw[h],fun h=>Int.ofNat.inj h⟩
  |negSucc b=>rfl
 |negSucc a=>cases b with
  |ofNat b=>rfl
  |negSucc b=>
   show aj a b=_
   rw[f8]
   exact decide_eq_decide.mpr ⟨fun h=>by rw[h],fun h=>abp h⟩
theorem qA{a b:ac}:(aP a==aP b)=dm a b:=by
 rw[kO,oH,beq_iff_eq,decide_eq_true_iff]
 exact⟨fun h=>by have:=congrArg (fun x=>x.cps.toList) h;simpa[aP] using this,fun h=>by rw[h]⟩
section
variable{A:b7}{s:az}
theorem RcAt.bytes_bytes(a b:Array UInt8)(t u:Tok):RcAt A s (.bytes a t) (.bytes b u) (a.toList==b.toList):=fun prog w E Q h=>PySem.W.eq_bytes h
theorem EqAt.bytes_bytes(a b:Array UInt8)(t u:Tok):EqAt A s (.bytes a t) (.bytes b u) (a.toList==b.toList):=fun prog w E Q h=>by
 unfold eqBool
 refine dJ ?_
 refine wpAny_ite_split (fun hab=> ?_) (fun _=> ?_)
 ·have e:=eq_of_beq hab
  injection e with e1 e2
  subst e1
  exact aq (Ig (aL (by simpa using h)))
 ·exact aq (RcAt.bytes_bytes a b t u prog w E _ (fO h))
theorem RcNeAt.bytes_bytes(a b:Array UInt8)(t u:Tok):RcNeAt A s (.bytes a t) (.bytes b u) (!(a.toList==b.toList)):=fun prog w E Q h=>PySem.W.ne_bytes (by simpa[bne] using h)
variable{C:PC}{W:Wd}
theorem wX{x n:Nat}{vs:List ah}(hi: ∀b o,W.im b=some o->s.heap.get? b=some o)(e:W.im x=some (tu vs n)):s.heap.IsTuple x vs.toArray:=⟨_,hi _ _ e,rfl,n,rfl⟩
structure Eqs(A:b7)(s:az)(v w:ah)(r:Bool):Prop where
 rc:RcAt A s v w r
 ne:RcNeAt A s v w (!r)
 eq:EqAt A s v w r
@[elab_as_elim] theorem Xv {b:AV} {r:Bool} {Q:AV->Bool->Prop} (e:U5 b=some r) (k1:Q .none true) (k2: ∀i,Q (.int i) false) (k3: ∀i,Q (.str i) false) (k4: ∀i,Q (.tup i) false):Q b r:=by
 cases b<;>first|exact nn e|(apply s1 e;first|exact k1|exact k2 _|exact k3 _|exact k4 _)
@[elab_as_elim] theorem abZ {x:Int} {b:AV} {r:Bool} {Q:AV->Bool->Prop} (e:ZU x b=some r) (k1: ∀i,Q (.int i) (KN x i)) (k2:Q .none false):Q b r:=by
 cases b<;>first|exact nn e|(apply s1 e;first|exact k2|exact k1 _)
@[elab_as_elim] theorem ab0 {x:ac} {b:AV} {r:Bool} {Q:AV->Bool->Prop} (e:ZV x b=some r) (k1: ∀i,Q (.str i) (dm x i)) (k2:Q .none false):Q b r:=by
 cases b<;>first|exact nn e|(apply s1 e;first|exact k2|exact k1 _)
@[elab_as_elim] theorem Xu {x:Bool} {b:AV} {r:Bool} {Q:AV->Bool->Prop} (e:PA x b=some r) (k1: ∀i,Q (.bool i) (x==i)):Q b r:=by
 cases b<;>first|exact nn e|(apply s1 e;exact k1 _)
@[elab_as_elim] theorem SX {x:List UInt8} {b:AV} {r:Bool} {Q:AV->Bool->Prop} (e:IV x b=some r) (k1: ∀i,Q (.bytes i) (x==i)):Q b r:=by
 cases b<;>first|exact nn e|(apply s1 e;exact k1 _)
@[elab_as_elim] theorem afx {a b:AV} {r:Bool} {Q:AV->Prop} (e:LZ a b=some r) (k1:U5 b=some r->Q .none) (k2: ∀x,PA x b=some r->Q (.bool x)) (k3: ∀x,ZU x b=some r->Q (.int x)) (k4: ∀x,ZV x b=some r->Q (.str x)) (k5: ∀l,tc b (some false)=some r->Q (.tup l)) (k6: ∀x,IV x b=some r->Q (.bytes x)):Q a:=by
 cases a<;>first|exact nn e|exact k1 e|exact k2 _ e|exact k3 _ e|exact k4 _ e|exact k5 _ e|exact k6 _ e
theorem L1(hi: ∀b o,W.im b=some o->s.heap.get? b=some o)(hu:A.units<cLine){a b:AV}{r:Bool}(e:LZ a b=some r){v w:ah}:V C W a v->V C W b w->Eqs A s v w r:=by
 refine afx e (fun e hv=> ?_) (fun x e hv=> ?_) (fun x e hv=> ?_) (fun x e hv=> ?_) (fun l e hv=> ?_) fun x e hv=> ?_
 ·refine hv.noneE ?_
  exact Xv e (fun hw=>hw.noneE ⟨RcAt.none_none,RcNeAt.none_none,EqAt.same _⟩) (fun _ hw=>hw.intE fun t=>⟨RcAt.none_int _ _,RcNeAt.none_int _ _,EqAt.none_int _ _⟩)
   (fun _ hw=>hw.strE fun t=>⟨RcAt.none_str _ _,RcNeAt.none_str _ _,EqAt.none_str _ _⟩) fun _ hw=>hw.tupE fun x n vs q _=>⟨RcAt.none_tuple (wX hi q) hu,RcNeAt.none_tuple (wX hi q) hu,EqAt.none_tuple (wX hi q) hu⟩
 ·refine hv.boolE ?_
  exact Xu e fun _ hw=>hw.boolE ⟨RcAt.bool_bool _ _,RcNeAt.bool_bool _ _,EqAt.bool_bool _ _⟩
 ·refine hv.intE fun t=> ?_
  exact abZ e (fun _ hw=>by rw[rj];exact hw.intE fun t=>⟨RcAt.int_int _ _ _ _,RcNeAt.int_int _ _ _ _,EqAt.int_int _ _ _ _⟩) fun hw=>hw.noneE ⟨RcAt.int_none _ _,RcNeAt.int_none _ _,EqAt.int_none _ _⟩
 ·refine hv.strE fun t=> ?_
  exact ab0 e (fun _ hw=>by rw[<- qA];exact hw.strE fun t=>⟨RcAt.str_str _ _ _ _,RcNeAt.str_str _ _ _ _,EqAt.str_str _ _ _ _⟩) fun hw=>hw.noneE ⟨RcAt.str_none _ _,RcNeAt.str_none _ _,EqAt.str_none _ _⟩
 ·refine hv.tupE fun x n vs q _=> ?_
  refine Ct e fun e hw=> ?_
  apply s1 e
  exact hw.noneE ⟨RcAt.tuple_none (wX hi q) hu,RcNeAt.tuple_none (wX hi q) hu,EqAt.tuple_none (wX hi q) hu⟩
 ·refine hv.bytesE fun t=> ?_
  refine SX e fun y hw=>hw.bytesE fun u=> ?_
  have z:=fun p q:List UInt8=>show(p.toArray.toList==q.toArray.toList)=(p==q) by simp
  rw[<- z]
  exact⟨RcAt.bytes_bytes _ _ _ _,RcNeAt.bytes_bytes _ _ _ _,EqAt.bytes_bytes _ _ _ _⟩
theorem PB{f:AV->AV->Option Bool}{P:ah->ah->Bool->Prop}(hf: ∀a b r,f a b=some r-> ∀v w,V C W a v->V C W b w->P v w r): ∀{l m:aa} {r:Bool},KO f l m=some r->
  ∀{vs ws:List ah},VL C W l vs->VL C W m ws-> ∃e:Nat->Bool,(∀j (h1:j<vs.length) (h2:j<ws.length),P vs[j] ws[j] (e j))/\r=((cB (min vs.length ws.length)).all e&&vs.length==ws.length):=by
 intro l
 induction l with
 |nil=>
  intro m r h vs ws hv hw
  refine hv.nilE ?_
  cases m with
  |nil=>
   apply s1 h
   exact hw.nilE ⟨fun _=>true,fun j h1=>absurd h1 (iw _),rfl⟩
  |cons=>
   apply s1 h
   exact hw.consE fun w ws _ _=>⟨fun _=>true,fun j h1=>absurd h1 (iw _),by simp⟩
 |cons a l ih=>
  intro m r h vs ws hv hw
  refine hv.consE fun v vs h1 h2=> ?_
  cases m with
  |nil=>
   apply s1 h
   exact hw.nilE ⟨fun _=>true,fun j _ h2=>absurd h2 (iw _),by simp⟩
  |cons b m=>
   refine hw.consE fun w ws h3 h4=>oE h fun x hx h=>oE h fun y hy h=> ?_
   apply s1 h
   obtain⟨e,p,q⟩:=ih hy h2 h4
   refine⟨fun j=>match j with|0=>x|j+1=>e j,fun j h1' h2'=> ?_,?_⟩
   ·cases j with
    |zero=>exact hf _ _ _ hx _ _ h1 h3
    |succ j=>exact p j (ng h1') (ng h2')
   ·rw[q]
    simp only[bT,Nat.succ_min_succ]
    rw[List.range_succ_eq_map]
    simp only[rF,List.all_map]
    cases x<;>simp[Function.comp_def]
theorem O4{a b:AV}{r:Bool}(e:LZ a b=some r){v:ah}:V C W a v->V C W b v->r=true:=by
 refine afx e (fun e hv=> ?_) (fun x e hv=> ?_) (fun x e hv=> ?_) (fun x e hv=> ?_) (fun l e hv=> ?_) fun x e hv=> ?_
 ·refine hv.noneE ?_
  exact Xv e (fun _=>rfl) (fun _ hw=>let⟨t,q⟩:=hw;su q) (fun _ hw=>let⟨t,q⟩:=hw;su q) fun _ hw=>let⟨x,n,vs,q,_⟩:=hw;su q
 ·exact Xu e fun y hw=>by cases hv;cases hw;simp
 ·exact abZ e (fun y hw=>by obtain⟨t,rfl⟩:=hv;obtain⟨u,q⟩:=hw;cases q;simp[rj]) fun hw=>by obtain⟨t,rfl⟩:=hv;cases hw
 ·exact ab0 e (fun y hw=>by
   obtain⟨t,rfl⟩:=hv;obtain⟨u,q⟩:=hw
   rw[<- qA]
   injection q with q1;simp[q1]) fun hw=>by obtain⟨t,rfl⟩:=hv;cases hw
 ·refine Ct e fun e hw=> ?_
  obtain⟨x,n,vs,rfl,q,_⟩:=hv
  cases hw
 ·refine SX e fun y hw=> ?_
  obtain⟨t,rfl⟩:=hv
  obtain⟨u,q⟩:=hw
  injection q with q1
  have q2:=congrArg N0 q1
  simp only at q2
  simp[q2]
theorem adq{f:AV->AV->Option Bool}(hf: ∀a b r,f a b=some r-> ∀v,V C W a v->V C W b v->r=true): ∀{l m:aa} {r:Bool},KO f l m=some r-> ∀{vs:List ah},VL C W l vs->VL C W m vs->r=true:=by
 intro l
 induction l with
 |nil=>
  intro m r h vs hv hw
  cases m with
  |nil=>apply s1 h;rfl
  |cons=>cases hv;obtain⟨_,_,q,_⟩:=hw;cases q
 |cons a l ih=>
  intro m r h vs hv hw
  cases m with
  |nil=>cases hw;obtain⟨_,_,q,_⟩:=hv;cases q
  |cons b m=>
   obtain⟨v,vs,rfl,h1,h2⟩:=hv
   obtain⟨w,ws,q,h3,h4⟩:=hw
   cases q
   refine oE h fun x hx h=>oE h fun y hy h=> ?_
   apply s1 h
   rw[hf _ _ _ hx _ h1 h3,ih hy h2 h4];rfl
@[elab_as_elim] theorem am7 {n:Nat} {a b:AV} {r:Bool} (e:wF (n+1) a b=some r) {Q:AV->AV->Prop} (k: ∀l m,KO (wF n) l m=some r->Q (.tup l) (.tup m)) (k':LZ a b=some r->Q a b):Q a b:=bE e (fun _ e=>NG e fun l e=>NG e fun m e=>k l m e) fun _ e=>k' e
theorem ac5: ∀(n:Nat) (a b:AV) (r:Bool),wF n a b=some r-> ∀v:ah,V C W a v->V C W b v->r=true:=by
 intro n
 induction n with
 |zero=>intro a b r e v hv hw;exact O4 e hv hw
 |succ n ih=>
  intro a b r e v
  refine am7 e (fun l m e hv hw=> ?_) fun e hv hw=>O4 e hv hw
  obtain⟨x,k,vs,rfl,q,hl⟩:=hv
  obtain⟨y,k',ws,q2,q',hm⟩:=hw
  cases q2
  have:=q.symm.trans q'
  simp only[Y4,Obj.mk.injEq,Data.seq.injEq,true_and,and_true]at this
  have e1:vs=ws:=by simpa using this.1
  subst e1
  exact adq ih e hl hm
theorem O6(hi: ∀b o,W.im b=some o->s.heap.get? b=some o): ∀(n:Nat) (A:b7),A.units+n<cLine-> ∀(a b:AV) (r:Bool),wF n a b=some r-> ∀v w:ah,V C W a v->V C W b w->Eqs A s v w r:=by
 intro n
 induction n with
 |zero=>intro A hu a b r e v w hv hw;exact L1 hi hu e hv hw
 |succ n ih=>
  intro A hu a b r e v w
  have hu':A.units<cLine:=fc (cY _ _) hu
  have hu1:A.in1.units+n<cLine:=by show A.units+1+n<_;rw[Nat.add_right_comm];exact hu
  have same:=fun v=>ac5 (C:=C) (W:=W) (n+1) a b r e v
  revert same
  refine am7 e (fun l m e same hv hw=> ?_) (fun e _ hv hw=>L1 hi hu' e hv hw)
  obtain⟨x,k,vs,rfl,q,hl⟩:=hv
  obtain⟨y,k',ws,rfl,q',hm⟩:=hw
  obtain⟨f,p,rfl⟩:=PB (P:=Eqs A.in1 s) (fun a b r e v w hv hw=>ih A.in1 hu1 a b r e v w hv hw) e hl hm
  have key:=RcAt.tuples (e:=f) (wX hi q) (wX hi q') hu' (fun j h1 h2=>by simpa using (p j (by simpa using h1) (by simpa using h2)).eq)
  have key2:=RcNeAt.tuples (e:=f) (wX hi q) (wX hi q') hu' (fun j h1 h2=>by simpa using (p j (by simpa using h1) (by simpa using h2)).eq)
  simp only[aZ]at key key2
  refine⟨key,key2,?_⟩
  by_cases z:x=y
  ·subst z
   rw[same _ ⟨x,k,vs,rfl,q,hl⟩ ⟨x,k',ws,rfl,q',hm⟩];exact EqAt.same _
  ·exact EqAt.of_refs z key
end
end
end
section
open PySem.SeqAt
noncomputable section
theorem bP(s:ac):(aP s).length=s.length:=by simp[aP,Um]
theorem gQ(s:ac):(aP s).cps.toList=s:=by simp[aP]
theorem Sa(s t:ac):aP s++aP t=aP (s++t):=by
 show Ul _ _=_
 simp[Ul,aP]
theorem HB: ∀{p s:ac},jZ p s=true↔s.take p.length=p
 |[],s=>by simp[aiK]
 |_::_,[]=>by simp[aeh]
 |a::r,b::t=>by
  rw[TA,cL,HB,f8,decide_eq_true_iff]
  simp only[bT,Bf,vq]
  exact⟨fun⟨x,y⟩=>⟨x.symm,y⟩,fun⟨x,y⟩=>⟨x.symm,y⟩⟩
theorem PQ: ∀{p s:ac},zn p s=true↔ ∃i,i<=s.length/\jZ p (s.drop i)=true
 |p,[]=>by
  rw[ahU]
  exact⟨fun h=>⟨0,ax _,h⟩,fun⟨i,_,h⟩=>by simpa using h⟩
 |p,b::t=>by
  rw[I3,oK,PQ]
  constructor
  ·rintro(h|⟨i,h1,h2⟩)
   ·exact⟨0,aU _,h⟩
   ·exact⟨i+1,be h1,h2⟩
  ·rintro⟨i,h1,h2⟩
   cases i with
   |zero=>exact .inl h2
   |succ i=>exact .inr ⟨i,nd h1,h2⟩
theorem XX(c:Nat): ∀s:List Nat,F2 c s=zn [c] s
 |[]=>rfl
 |b::t=>by
  rw[Jd,I3,TA,<- XX c t]
  show(aj c b||F2 c t)=(aj c b&&true||F2 c t)
  rw[zP]
theorem XI(p s:ac):PP p s=zn p s:=by
 match p with
 |[]=>rfl
 |[c]=>exact XX _ _
 |_::_::_=>rfl
theorem adT{p s:ac}:PP p s=true↔ ∃i,i<=s.length/\jZ p (s.drop i)=true:=by rw[XI];exact PQ
theorem S6(p s:ac):(!(Rb (aP s) (aP p) 0 (aP s).length 1).isEmpty)=PP p s:=by
 rw[oH,StrLaws.found_iff,adT]
 simp only[bP,tS,gQ,beq_iff_eq,HB]
 constructor
 ·rintro⟨i,h1,h2⟩;exact⟨i,by omega,h2⟩
 ·rintro⟨i,h1,h2⟩
  refine⟨i,?_,h2⟩
  have:=congrArg na h2
  simp only[kh,g9]at this
  omega
theorem Pc{a b:Nat}:bw a b=decide (a<b):=by rw[oH,decide_eq_true_iff,dh]
theorem xY{a b:Int}:CW a b=decide (a<b):=by
 cases a with
 |ofNat a=>cases b with
  |ofNat b=>
   show bw a b=_
   rw[Pc]
   exact decide_eq_decide.mpr ib.symm
  |negSucc b=>
   refine(decide_eq_false ?_).symm
   exact sU.mpr (Int.le_of_lt (Br (pR b) (dq a)))
 |negSucc a=>cases b with
  |ofNat b=>
   refine(decide_eq_true ?_).symm
   exact Br (pR a) (dq b)
  |negSucc b=>
   show bw b a=_
   rw[Pc]
   exact decide_eq_decide.mpr (by omega)
theorem EC: ∀{a b:ac},CX a b=decide (a<b)
 |[],[]=>by simp[CX]
 |_::_,[]=>by simp[CX]
 |[],_::_=>by simp[CX]
 |a::r,b::t=>by
  rw[CX,EC,StrLaws.lt_cons_cons,f8]
  rw[Pc]
  congr 1
section
variable{C:PC}{W:Wd}{σ:AS}{h:bO}{A:b7}{s:az}
@[elab_as_elim] theorem aov {a:AV} {l:aa} {Q:AV->Prop} (e:iR σ a=some l) (k1:Q (.lst l)) (k2: ∀x,σ.get x=some (.lst l)->Q (.ref x)):Q a:=by
 cases a<;>first|exact nn e|skip
 ·cases e;exact k1
 ·refine lstE e fun l' hg e=> ?_
  cases e;exact k2 _ hg
@[elab_as_elim] theorem nt (R:cC C W σ h) {a:AV} {l:aa} (e:iR σ a=some l) {v:ah} {Q:ah->Prop} (hv:V C W a v) (k: ∀x n vs,h.get? x=some (dC vs n)->VL C W l vs->Q (.ref x)):Q v:=by
 revert hv
 refine aov e (fun hv=> ?_) fun x hg hv=> ?_
 ·exact hv.lstE fun x n vs q r=>k x n vs (R.im _ _ q) r
 ·exact R.lstE hg hv fun p vs n _ _ q r=>k p.1 n vs q r
theorem lO{x n:Nat}{vs:List ah}(e:h.get? x=some (dC vs n)):h.IsList x vs.toArray:=⟨_,e,rfl,n,rfl⟩
@[elab_as_elim] theorem Hs (R:cC C W σ h) {a:AV} {l:aa} (e:nF σ a=some l) {v:ah} {Q:ah->Prop} (hv:V C W a v) (k: ∀x n vs,VL C W l vs->(h.get? x=some (dC vs n)\/h.get? x=some (tu vs n))->Q (.ref x)):Q v:=by
 by_cases ht: ∃m,a= .tup m
 ·obtain⟨m,rfl⟩:=ht
  cases e
  exact hv.tupE fun x n vs q r=>k x n vs r (.inr (R.im _ _ q))
 ·have e':iR σ a=some l:=by
   cases a<;>first|exact nn e|exact e|skip
   exact absurd ⟨_,rfl⟩ ht
  exact nt R e' hv fun x n vs q r=>k x n vs r (.inl q)
@[elab_as_elim] theorem Hr (R:cC C W σ h) {a:AV} {l:aa} (e:nF σ a=some l) {v:ah} {Q:ah->Prop} (hv:V C W a v) (k: ∀x vs,VL C W l vs->(h.IsList x vs.toArray\/h.IsTuple x vs.toArray)->Q (.ref x)):Q v:=
 Hs R e hv fun x n vs q z=>k x vs q (z.imp (fun z=>⟨_,z,rfl,n,rfl⟩) fun z=>⟨_,z,rfl,n,rfl⟩)
@[elab_as_elim] theorem anW {a:AV} {ks:List (List Nat)} {Q:AV->Prop} (e:Pp σ a=some ks) (k1: ∀vs,Q (.dct ks vs)) (k2: ∀x vs,σ.get x=some (.dct ks vs)->Q (.ref x)):Q a:=by
 cases a<;>first|exact nn e|skip
 ·cases e;exact k1 _
 ·refine dctE e fun ks' vs hg e=> ?_
  cases e;exact k2 _ _ hg
@[elab_as_elim] theorem Pq (R:cC C W σ h) {a:AV} {ks:List (List Nat)} (e:Pp σ a=some ks) {v:ah} {Q:ah->Prop} (hv:V C W a v) (k: ∀x vs,(x==sysModules)=false->ks.length=vs.length->h.DictOf (strKind C.prog C.w) x ((ks.map aP).zip vs)->Q (.ref x)):Q v:=by
 revert hv
 refine anW e (fun _ hv=> ?_) fun x _ hg hv=> ?_
 ·exact hv.dctE fun x o vs q0 q r z=>k x vs q0 z.1 (jr.mpr ⟨o,R.im _ _ q,z.2⟩)
 ·exact R.dctE hg hv fun p o vs _ _ q0 g r z=>k p.1 vs q0 z.1 (jr.mpr ⟨o,g,z.2⟩)
theorem Jx{α β:Type}{l:List α}{m:List β}:rv l m=decide (l.length=m.length):=by
 unfold rv
 rw[ip,ip,f8]
structure afn(C:PC)(A:b7)(s:az)(v w:ah)(r:Bool):Prop where
 eq: ∀Q:ah->az->Prop,Q (.bool r) s->wpAny (dI C) A (compareOp .Eq v w) Q dw s
 ne: ∀Q:ah->az->Prop,Q (.bool !r) s->wpAny (dI C) A (compareOp .NotEq v w) Q dw s
theorem agv{ks:List (List Nat)}{x y:aC}{vs ws:List ah}(hu:A.units+17<cLine)(x0:(x==sysModules)=false)(xl:ks.length=vs.length)(xd:s.heap.DictOf (strKind C.prog C.w) x ((ks.map aP).zip vs))(y0:(y==sysModules)=false)(yd:s.heap.DictOf (strKind C.prog C.w) y ((([]:List (List Nat)).map aP).zip ws)):afn C A s (.ref x) (.ref y) ks.isEmpty:=by
 have hl:((((ks.map aP).zip vs).length ==((([]:List (List Nat)).map aP).zip ws).length)&&true)=ks.isEmpty:=by
  cases ks with
  |nil=>simp
  |cons k ks=>cases vs with
   |nil=>simp at xl
   |cons v vs=>simp
 have hits:((ks.map aP).zip vs).length=((([]:List (List Nat)).map aP).zip ws).length->KeqHits A.in1 s ((([]:List (List Nat)).map aP).zip ws) ((ks.map aP).zip vs) true:=fun z=>by
  have:(ks.map aP).zip vs=[]:=mJ.mp (by simpa using z)
  rw[this];exact KeqHits.nil
 exact⟨fun Q h=>keq_eq x0 y0 xd yd (by omega) hits (by rw[hl];exact h),fun Q h=>keq_ne x0 y0 xd yd (by omega) hits (by rw[hl];exact h)⟩
theorem agw(hi: ∀b o,W.im b=some o->s.heap.get? b=some o)(hu:A.units+17<cLine){l m:aa}{r:Bool}(e:(bif rv l m then KO (wF 16) l m else some false)=some r){x y n n':Nat}{vs ws:List ah}(g:s.heap.get? x=some (dC vs n))(q:VL C W l vs)(g':s.heap.get? y=some (dC ws n'))(q':VL C W m ws):afn C A s (.ref x) (.ref y) r:=by
 have hu':A.units<cLine:=fc (cY _ _) hu
 refine bE e (fun hs e=> ?_) fun hs e=> ?_
 ·rw[Jx,decide_eq_true_iff]at hs
  have hs':vs.length=ws.length:=by rw[q.length,q'.length,hs]
  obtain⟨f,p,rfl⟩:=PB (P:=Eqs A.in1 s) (fun a b r e v w hv hw=>O6 (C:=C) hi 16 A.in1 (by show A.units+1+16<_;rw[kE];exact hu) a b r e v w hv hw) e q q'
  have he: ∀j (h1:j<vs.toArray.size) (h2:j<ws.toArray.size),EqAt A.in1 s vs.toArray[j] ws.toArray[j] (f j):=fun j h1 h2=>by simpa using (p j (by simpa using h1) (by simpa using h2)).eq
  have k1:=RcAt.lists (e:=f) (lO g) (lO g') (by simpa using hs') hu' he
  have k2:=RcNeAt.lists (e:=f) (lO g) (lO g') (by simpa using hs') hu' he
  simp only[aZ]at k1 k2
  have ez:((cB (min vs.length ws.length)).all f&&vs.length==ws.length)=(cB vs.length).all f:=by rw[hs'];simp
  rw[ez]
  exact⟨fun Q h=>k1 _ _ _ _ h,fun Q h=>k2 _ _ _ _ h⟩
 ·apply s1 e
  rw[Jx,decide_eq_false_iff_not]at hs
  have hs':(vs.toArray.size !=ws.toArray.size)=true:=by simpa[q.length,q'.length] using hs
  exact⟨fun Q h=>RcAt.lists_lengths (lO g) (lO g') hs' hu' _ _ _ _ h,fun Q h=>RcNeAt.lists_lengths (lO g) (lO g') hs' hu' _ _ _ _ h⟩
theorem Pz(R:cC C W σ s.heap)(hu:A.units+17<cLine){a b:AV}{r:Bool}(e:eqA σ a b=some r){v w:ah}(hv:V C W a v)(hw:V C W b w):afn C A s v w r:=by
 have hi:=R.im
 refine odE e (fun b' q e=> ?_) fun e=>odE e (fun l hl e=>oE e fun m hm e=> ?_) fun e=>oE e fun ks hk e=>oE e fun ks' hm e=>kS e fun z e=> ?_
 ·apply s1 e
  have z:=O6 (C:=C) hi 16 A (fc (cR _) hu) a b b' q v w hv hw
  exact⟨fun Q h=>z.rc _ _ _ _ h,fun Q h=>z.ne _ _ _ _ h⟩
 ·exact nt R hl hv fun x n vs g q=>nt R hm hw fun y n' ws g' q'=>agw hi hu e g q g' q'
 ·apply s1 e
  have z:ks'=[]:=eB.mp z
  subst z
  exact Pq R hk hv fun x vs x0 xl xd=>Pq R hm hw fun y ws y0 _ yd=>agv hu x0 xl xd y0 yd
end
end
end
section
open PySem.SeqAt
noncomputable section
section
variable{C:PC}{W:Wd}{σ:AS}{h:bO}{A:b7}{s:az}
structure GP(C:PC)(A:b7)(s:az)(v w:ah)(r:Bool):Prop where
 isIn: ∀Q:ah->az->Prop,(∀t,Q (.bool r) {s with toks:=t})->wpAny (dI C) A (compareOp .In v w) Q dw s
 not: ∀Q:ah->az->Prop,(∀t,Q (.bool !r) {s with toks:=t})->wpAny (dI C) A (compareOp .NotIn v w) Q dw s
theorem O2: ∀{l:aa} {ss:List (List Nat)},nN l=some ss-> ∀{vs:List ah},VL C W l vs-> ∃ts:List Tok,ts.length=ss.length/\vs=(ss.zip ts).map fun p=>.str (aP p.1) p.2:=by
 intro l
 induction l with
 |nil=>intro ss e vs hv;cases e;exact hv.nilE ⟨[],rfl,rfl⟩
 |cons a l ih=>
  intro ss e vs hv
  refine hv.consE fun v r hv h2=> ?_
  revert hv
  refine fT e fun x e hv=>oE e fun ss' q e=> ?_
  cases e
  refine hv.strE fun t=> ?_
  obtain⟨ts,a,b⟩:=ih q h2
  exact⟨t::ts,by simp[a],by simp[b]⟩
theorem afv: ∀{l:aa} {ss:List Int},NP l=some ss-> ∀{vs:List ah},VL C W l vs-> ∃ts:List Tok,ts.length=ss.length/\vs=(ss.zip ts).map fun p=>.int p.1 p.2:=by
 intro l
 induction l with
 |nil=>intro ss e vs hv;cases e;exact hv.nilE ⟨[],rfl,rfl⟩
 |cons a l ih=>
  intro ss e vs hv
  refine hv.consE fun v r hv h2=> ?_
  revert hv
  refine lp e fun x e hv=>oE e fun ss' q e=> ?_
  cases e
  refine hv.intE fun t=> ?_
  obtain⟨ts,a,b⟩:=ih q h2
  exact⟨t::ts,by simp[a],by simp[b]⟩
noncomputable def isS(x:Str)(y:ah):Bool:=match y with
 | .str z _=>z==x
 |_=>false
noncomputable def isI(x:Int)(y:ah):Bool:=match y with
 | .int z _=>z==x
 |_=>false
theorem SG(p:ac): ∀(ss:List (List Nat)) (ts:List Tok),ts.length=ss.length->(((ss.zip ts).map fun p=>gq (aP p.1) p.2).any (isS (aP p)))=wG p ss
 |[],_,_=>by simp[WV]
 |a::r,[],e=>by simp at e
 |a::r,t::ts,e=>by
  rw[bQ,bh,rG,WU,SG p r ts (by simpa using e),<- qA];rfl
theorem SE(i:Int): ∀(ss:List Int) (ts:List Tok),ts.length=ss.length->(((ss.zip ts).map fun p=>Bv p.1 p.2).any (isI i))=WT i ss
 |[],_,_=>by simp[WT]
 |a::r,[],e=>by simp at e
 |a::r,t::ts,e=>by
  have:(a==i)=KN a i:=by rw[rj];rfl
  rw[bQ,bh,rG,WT,SE i r ts (by simpa using e),<- this];rfl
theorem acd{v:ah}{vs:List ah}{r:Bool}{f:ah->Bool}(hf: ∀y,y∈vs.toArray->EqAt A.in1 s y v (f y))(he:vs.toArray.any f=r){w:aC}(hw:s.heap.IsList w vs.toArray\/s.heap.IsTuple w vs.toArray):GP C A s v (.ref w) r:=by
 subst he
 rcases hw with hw|hw
 ·exact⟨fun Q h=>in_listAt f hw hf (h s.toks),fun Q h=>notIn_listAt f hw hf (h s.toks)⟩
 ·exact⟨fun Q h=>in_tupleAt f hw hf (h s.toks),fun Q h=>notIn_tupleAt f hw hf (h s.toks)⟩
theorem aad{x:AV}{l:aa}{r:Bool}(e:inL x l=some r){v:ah}(hv:V C W x v){vs:List ah}(hl:VL C W l vs){w:aC}(hw:s.heap.IsList w vs.toArray\/s.heap.IsTuple w vs.toArray):
  GP C A s v (.ref w) r:=by
 revert hv
 cases x<;>intro hv<;>first|exact nn e|skip
 ·refine oE (show ob (NP l) _=_ from e) fun ss q e=> ?_
  apply s1 e
  refine hv.intE fun t=> ?_
  obtain⟨ts,a,rfl⟩:=afv q hl
  exact acd (f:=isI _) (fun y hy=>by
   simp only[tJ,dD]at hy
   obtain⟨z,_,rfl⟩:=hy
   exact EqAt.int_int _ _ _ _) (by rw[tG];exact SE _ ss ts a) hw
 ·refine oE (show ob (nN l) _=_ from e) fun ss q e=> ?_
  apply s1 e
  refine hv.strE fun t=> ?_
  obtain⟨ts,a,rfl⟩:=O2 q hl
  exact acd (f:=isS _) (fun y hy=>by
   simp only[tJ,dD]at hy
   obtain⟨z,_,rfl⟩:=hy
   exact EqAt.str_str _ _ _ _) (by rw[tG];exact SG _ ss ts a) hw
theorem JS(p:ac): ∀(ks:List (List Nat)) (vs:List ah),ks.length=vs.length->(valueAt ((ks.map aP).zip vs) (aP p)).isSome=wG p ks
 |[],_,_=>by simp[valueAt,WV]
 |k::ks,[],e=>by simp at e
 |k::ks,v::vs,e=>by
  have ih:=JS p ks vs (by simpa using e)
  have z:=qA (a:=k) (b:=p)
  simp only[valueAt,bh,bQ,oO,WU]at ih ⊢
  by_cases q:aP k=aP p
  ·rw[q]at z;simp only[beq_self_eq_true]at z;simp[q,<- z]
  ·have:dm k p=false:=by rw[<- z];exact beq_eq_false_iff_ne.mpr q
   simp[q,this,ih]
theorem aac{x:aC}{ks:List (List Nat)}{vs:List ah}{p:ac}{t:Tok}(x0:(x==sysModules)=false)(xl:ks.length=vs.length)(xd:s.heap.DictOf (strKind C.prog C.w) x ((ks.map aP).zip vs)):
  GP C A s (.str (aP p) t) (.ref x) (wG p ks):=by
 have e:=JS p ks vs xl
 exact⟨fun Q h=>wpAny_in_of (strKind_is C.prog C.w (aP p) t) x0 xd.mapOf (by rw[e];exact h _),fun Q h=>wpAny_notIn_of (strKind_is C.prog C.w (aP p) t) x0 xd.mapOf (by rw[e];exact h _)⟩
theorem aab(R:cC C W σ s.heap){x c:AV}{r:Bool}(e:inA σ x c=some r){v w:ah}(hv:V C W x v)(hw:V C W c w):GP C A s v w r:=by
 have dct: ∀{c:AV} {ks:List (List Nat)},Pp σ c=some ks->V C W c w->(ek x fun p=>some (wG p ks))=some r->GP C A s v w r:=fun hc hw e=>by
  revert hv
  refine fT e fun p e hv=> ?_
  apply s1 e
  exact hv.strE fun u=>Pq R hc hw fun y vs y0 yl yd=>aac y0 yl yd
 have seq: ∀{c:AV} {l:List AV},nF σ c=some l->V C W c w->inL x l=some r->GP C A s v w r:=fun hc hw e=>Hr R hc hw fun y vs q z=>aad e hv q z
 revert hw
 cases c<;>intro hw<;>first|exact nn e|skip
 ·rename_i s'
  revert hv
  refine fT e fun p e hv=> ?_
  apply s1 e
  exact hv.strE fun u=>hw.strE fun t=>⟨fun Q h=>V9 (by rw[S6];exact h s.toks),fun Q h=>Rj (by rw[S6];exact h s.toks)⟩
 ·exact seq rfl hw e
 ·exact seq rfl hw e
 ·exact dct rfl hw e
 ·rename_i a
  refine oE (show ob (σ.get a) _=_ from e) fun cl hg e=> ?_
  cases cl<;>first|exact nn e|skip
  ·exact seq (c:=.ref a) (show nv σ a some=_ by unfold nv;rw[hg];rfl) hw e
  ·exact dct (c:=.ref a) (show SQ σ a (fun ks _=>some ks)=_ by unfold SQ;rw[hg];rfl) hw e
theorem F0{a:AV}{r:Bool}(e:lM a=some r){v:ah}(hv:V C W a v):(v== .none)=r:=by
 revert hv
 cases a<;>intro hv<;>first|exact nn e|(apply s1 e;first|exact hv.noneE rfl|exact hv.boolE rfl|exact hv.intE fun _=>rfl|exact hv.strE fun _=>rfl|exact hv.bytesE fun _=>rfl|exact hv.tupE fun _ _ _ _ _=>rfl|exact hv.lstE fun _ _ _ _ _=>rfl|exact hv.frzE fun _ _ _ _ _ _ _ _ _ _=>rfl|exact hv.dctE fun _ _ _ _ _ _ _=>rfl|exact hv.dctiE fun _ _ _ _ _ _ _=>rfl|exact hv.rngE fun _ _ _ _ _ _ _=>rfl|exact hv.refE fun _ _=>rfl)
end
end
end
section
open PySem.SeqAt
noncomputable section
section
variable{X:FX}{k:Nat}{W W':Wd}{fr:Fm}{σ ai:AS}{s s':az}{A:b7}
@[elab_as_elim] theorem Vq {o:Option Bool} {r:Bool} {P:Bool->Prop} (e:Tu o=some r) (k: ∀b,o=some b->P (!b)):P r:=oE e fun b q e=>by
 apply s1 e;exact k b q
theorem zh(hk:5<=k)(R:eN A k)(T:St X W fr σ s){op:gW}{a b:AV}{r:Bool}(e:b5 op a b σ=some r){v w:ah}(hv:V X.C W a v)(hw:V X.C W b w):
  wpAny (dI X.C) A (compareOp op v w) (fP X W fr (.bool r) σ) dw s:=by
 have hu:A.units+17<cLine:=by have:=R.units;omega
 have fin: ∀r,fP X W fr (.bool r) σ (.bool r) s:=fun r=>T.post rfl
 have two: ∀{f:Int->Int->Bool} {op:gW},(eW a fun i=>eW b fun j=>some (f i j))=some r->(∀i j t u,wpAny (dI X.C) A (compareOp op (.int i t) (.int j u)) (fP X W fr (.bool (f i j)) σ) dw s)->wpAny (dI X.C) A (compareOp op v w) (fP X W fr (.bool r) σ) dw s:=fun e h=>by
  revert hv
  refine lp e fun i e hv=> ?_
  revert hw
  refine lp e fun j e hw=> ?_
  apply s1 e
  exact hv.intE fun t=>hw.intE fun u=>h i j t u
 have inn: ∀{r':Bool},inA σ a b=some r'->GP X.C A s v w r':=fun e=>aab T.rel e hv hw
 have le: ∀i j:Int,(!CW j i)=decide (i<=j):=fun i j=>by rw[xY,<- decide_not];congr 1;rw[sU]
 cases op with
 |Eq=>exact(Pz T.rel hu e hv hw).eq _ (fin _)
 |NotEq=>exact Vq e fun b' q=>(Pz T.rel hu q hv hw).ne _ (fin _)
 |Lt=>exact two e fun i j t u=>by rw[xY];exact Wb (fin _)
 |LtE=>
  revert hv
  cases a<;>intro hv<;>first|exact nn e|skip
  ·rename_i i
   revert hw
   refine lp (show(eW b fun j=>some (!CW j i))=some r from e) fun j e hw=> ?_
   apply s1 e
   refine hv.intE fun t=>hw.intE fun u=> ?_
   rw[le];exact Wa (fin _)
  ·rename_i x
   revert hw
   refine fT (show(ek b fun t=>some (!CX t x))=some r from e) fun j e hw=> ?_
   apply s1 e
   refine hv.strE fun t=>hw.strE fun u=>PySem.P.le_str ?_
   rw[gQ,gQ,EC]
   exact fin _
 |Gt=>exact two (f:=fun i j=>CW j i) e fun i j t u=>by rw[xY];exact V8 (fin _)
 |GtE=>exact two (f:=fun i j=> !CW i j) e fun i j t u=>by rw[le];exact V7 (fin _)
 |Is=>
  revert hw
  exact Ct e fun e hw=>hw.noneE (is_none (by rw[F0 e hv];exact fin _))
 |IsNot=>
  revert hw
  exact Ct e fun e hw=>hw.noneE (Vq e fun b' q=>isNot_none (by rw[F0 q hv];exact fin _))
 |In=>exact V2 (ax s.toks) ((inn e).isIn _ fun t ht=>(T.toks t ht).post rfl)
 |NotIn=>exact Vq e fun b' q=>V2 (ax s.toks) ((inn q).not _ fun t ht=>(T.toks t ht).post rfl)
theorem SK{f:AV->AV->AS->Option Bool}{m n:EM}{r:Bool}(e:fw f m n fr σ=some (r,ai)){P:Prop}(k: ∀a ay b,m fr σ=some (a,ay)->n fr ay=some (b,ai)->f a b ai=some r->P):P:=
 fR e fun a ay e1 e=>fR e fun b aM e2 e=>oE e fun r' e3 e=>by
  cases e;exact k a ay b e1 e2 e3
@[elab_as_elim] theorem aaC {m:BM} {c:AV} {Q:AV->AS->Prop} (e:rW m fr σ=some (c,ai)) (k: ∀b ay,m fr σ=some (b,ay)->Q (.bool b) ay):Q c ai:=fR e fun b ay q e=>by
 apply s2 e;exact k b ay q
theorem akm{op:gW}{m n:EM}{a b:an}{p:Pos}(hk:5<=k)(hm:b8 X k m a)(hn:b8 X k n b)(hb:behindInMarks op b=false):b8 X k (rW (fw (b5 op) m n)) (.Compare a [op] [b] p):=fun A R W fr σ s T c ai e=>by
 refine aaC e fun r ay q=> ?_
 exact SK q fun x ay y e1 e2 e3=>wpAny_Compare1 (EP hm hn R T e1 e2 fun v w dU cA l cP eg j0=>eC (zh hk R cP e3 eg j0) fun _ _ z=>z.le l) hb
theorem aeX{op:gW}{m n:EM}{a b:an}{p:Pos}(hk:5<=k)(hm:b8 X k m a)(hn:b8 X k n b)(hb:behindInMarks op b=false):nk X k (fw (b5 op) m n) (.Compare a [op] [b] p):=fun A R W fr σ s T r ai e=>by
 refine SK e fun x ay y e1 e2 e3=>wpAny_isTrue_Compare1 (EP hm hn R T e1 e2 fun v w dU cA l cP eg j0=>eC (zh hk R cP e3 eg j0) fun u jK z=> ?_) hb
 exact z.elim fun xI gY jb h=>h.boolE (fO ⟨rfl,xI,l.trans gY,jb⟩)
theorem jP{n:Nat}(h:dB n=true):n<=4000000:=av h
theorem iZ{n:Nat}(h:dB n=true):n<=sizeLine:=au (jP h) (by decide)
theorem mu{l:aa}{vs:List ah}(h:VL X.C W l vs):vs.toArray.isEmpty=l.isEmpty:=by
 have:=h.length
 cases l<;>cases vs<;>simp_all
@[elab_as_elim] theorem L9 {l:aa} {b:Bool} (e:PJ l=some b) {P:Bool->Prop} (k:dB l.length=true->P (!l.isEmpty)):P b:=kS e fun h e=>by
 apply s1 e;exact k h
theorem zM(T:St X W fr σ s){a:AV}{b:Bool}(e:qU σ a=some b){v:ah}(hv:V X.C W a v):wpAny (dI X.C) A (truthy v) (o6 X W fr b σ) dw s:=by
 have lst: ∀{a:AV} {l:List AV},iR σ a=some l->V X.C W a v->PJ l=some b->wpAny (dI X.C) A (truthy v) (o6 X W fr b σ) dw s:=fun q1 hv q2=>by
  refine nt T.rel q1 hv fun x n vs g q=> ?_
  refine L9 q2 fun ok=> ?_
  refine wpAny_truthy_list (lO g) (by have:=jP ok;simp only[aZ,q.length];omega) ?_
  rw[mu q];exact(T.toks _).postB _
 revert hv
 cases a<;>intro hv<;>first|exact nn e|skip
 ·apply s1 e;exact hv.noneE (Od (T.postB _))
 ·apply s1 e;exact hv.boolE (fO (T.postB _))
 ·rename_i i
  apply s1 e
  have:(!KN i 0)=(i !=0):=by rw[rj];rfl
  rw[this]
  exact hv.intE fun t=>PySem.P.truthy_int (T.postB _)
 ·rename_i x
  refine kS e fun ok e=> ?_
  apply s1 e
  have hl:=jP ok
  refine hv.strE fun t=>PySem.P.truthy_str (by rw[bP];omega) ?_
  have:(((aP x).length:Int) !=0)= !x.isEmpty:=by
   rw[bP]
   cases x with
   |nil=>rfl
   |cons a l=>simp only[bT,EX,fx];exact bne_iff_ne.mpr (by omega)
  rw[this];exact(T.toks _).postB _
 ·rename_i l
  refine L9 e fun ok=> ?_
  refine hv.tupE fun x n vs g q=> ?_
  refine NA (items:=vs.toArray) ⟨_,T.rel.im _ _ g,rfl,n,rfl⟩ (by have:=jP ok;simp only[aZ,q.length];omega) ?_
  rw[mu q];exact(T.toks _).postB _
 ·exact lst rfl hv e
 ·refine lstE e fun l hg e=>lst (a:=.ref _) ?_ hv e
  show nv σ _ some=some l
  unfold nv;rw[hg];rfl
theorem o6.le'{b b':Bool}(l:W.le W')(z:o6 X W' fr b σ b' s):o6 X W fr b σ b' s:=⟨z.1,let⟨cA,dP,cP⟩:=z.2;⟨cA,l.trans dP,cP⟩⟩
theorem YT{m:EM}{b:Bool}{P:Prop}(e:jh m fr σ=some (b,ai))(k: ∀a,m fr σ=some (a,ai)->qU ai a=some b->P):P:=fR e fun a ay e1 e=>oE e fun b' e2 e=>by
 cases e;exact k a e1 e2
theorem ae6{m:EM}{e:an}(hm:b8 X k m e)(he: ∀env w,isTrue e env w=(do let v <- w;standAt e.pos;holding [v] (truthy v))):nk X k (jh m) e:=fun A R W fr σ s T b ai q=>by
 rw[he]
 exact YT q fun a e1 e2=>aq (hm.go R T e1 fun v bt bm bD bz eg=>aq (dA (dJ (eC (zM bz e2 eg) fun _ _ z=>z.le' bD))))
@[elab_as_elim] theorem abW {m:BM} {b:Bool} {Q:Bool->AS->Prop} (e:pf m fr σ=some (b,ai)) (k: ∀a ay,m fr σ=some (a,ay)->Q (!a) ay):Q b ai:=fR e fun a ay e1 e=>by
 apply s2 e;exact k a ay e1
theorem ae4{b:BM}{e:an}{p:Pos}(hb:nk X k b e):nk X k (pf b) (.UnaryOp .Not e p):=fun A R W fr σ s T r ai q=>by
 refine abW q fun a ay e1=> ?_
 show wpAny _ _ (do return !(<- isTrue e X.env (eval e X.env))) _ _ _
 exact aq (hb.go R T e1 fun bt bm bD bz=>aL ⟨rfl,bm,bD,bz⟩)
theorem aln(op:cF)(x y:an)(env:Env):allTrue op [x,y] env=(do match op,<- isTrue x env (eval x env)with| .And,false=>pure false| .Or,true=>pure true|_,_=>allTrue op [y] env):=rfl
theorem UN{M:lb}{Q:Bool->az->Prop}{E:ah->az->Prop}(op:cF)(y:an)(env:Env)(h:wpAny M A (isTrue y env (eval y env)) Q E s):wpAny M A (allTrue op [y] env) Q E s:=by
 show wpAny M A (do match op,<- isTrue y env (eval y env)with| .And,false=>pure false| .Or,true=>pure true|_,_=>allTrue op [] env) Q E s
 refine aq (jw h (fun b s' hq=> ?_) fun _ _ e=>e)
 cases op<;>cases b<;>exact aL hq
def pU(X:FX)(k:Nat)(op:cF)(m:BM)(es:List an):Prop:=
 ∀A,eN A k-> ∀W fr σ s,St X W fr σ s-> ∀b ai,m fr σ=some (b,ai)->wpAny (dI X.C) A (allTrue op es X.env) (o6 X W fr b ai) dw s
theorem pU.one{op:cF}{b:BM}{e:an}(h:nk X k b e):pU X k op b [e]:=fun A R W fr σ s T r ai q=>UN op e X.env (h A R W fr σ s T r ai q)
theorem pU.and{a b:BM}{e:an}{es:List an}(ha:nk X k a e)(hb:pU X k .And b es):pU X k .And (am8 a b) (e::es):=fun A R W fr σ s T r ai q=>by
 show wpAny _ _ (do match Y7,<- isTrue e X.env (eval e X.env)with| .And,false=>pure false| .Or,true=>pure true|_,_=>allTrue .And es X.env) _ _ _
 refine fR q fun t ay e1 q=>aq (ha.go R T e1 fun bt bm bD bz=> ?_)
 cases t with
 |true=>exact eC (hb A R bm fr ay bt bz r ai q) fun _ _ z=>z.le' bD
 |false=>apply s2 q;exact aL ⟨rfl,bm,bD,bz⟩
theorem pU.or{a b:BM}{e:an}{es:List an}(ha:nk X k a e)(hb:pU X k .Or b es):pU X k .Or (RM a b) (e::es):=fun A R W fr σ s T r ai q=>by
 show wpAny _ _ (do match abq,<- isTrue e X.env (eval e X.env)with| .And,false=>pure false| .Or,true=>pure true|_,_=>allTrue .Or es X.env) _ _ _
 refine fR q fun t ay e1 q=>aq (ha.go R T e1 fun bt bm bD bz=> ?_)
 cases t with
 |true=>apply s2 q;exact aL ⟨rfl,bm,bD,bz⟩
 |false=>exact eC (hb A R bm fr ay bt bz r ai q) fun _ _ z=>z.le' bD
theorem pU.test{op:cF}{m:BM}{es:List an}{p:Pos}(h:pU X k op m es):nk X k m (.BoolOp op es p):=fun A R W fr σ s T r ai q=>h A R W fr σ s T r ai q
def k7(X:FX)(k:Nat)(op:cF)(m:EM)(es:List an):Prop:=
 ∀A,eN A k-> ∀W fr σ s,St X W fr σ s-> ∀a ai,m fr σ=some (a,ai)-> ∀p,wpAny (dI X.C) A (boolOp p op (evalEach es X.env)) (fP X W fr a ai) dw s
theorem k7.one{op:cF}{m:EM}{e:an}(h:b8 X k m e):k7 X k op m [e]:=fun A R W fr σ s T a ai q p=>h A R W fr σ s T a ai q
theorem UW(p:Pos)(op:cF)(x:Sem ah)(y:Sem ah)(r:List (Sem ah)):boolOp p op (x::y::r)=(do
  let v <- x
  standAt p
  let t <- holding [v] (truthy v)
  match op,t with
  | .And,false| .Or,true=>pure v
  |_,_=>boolOp p op (y::r)):=rfl
theorem W9{op:cF}{m:EM}{e e':an}{es:List an}(hm:b8 X k m e)(R:eN A k)(T:St X W fr σ s){a:AV}{ay:AS}(e1:m fr σ=some (a,ay)){t:Bool}(e2:qU ay a=some t){p:Pos}{Q:ah->az->Prop}
  (h: ∀v dU cA,W.le cA->St X cA fr ay dU->V X.C cA a v->wpAny (dI X.C) A (match op,t with| .And,false| .Or,true=>pure v|_,_=>boolOp p op (evalEach (e'::es) X.env)) Q dw dU):wpAny (dI X.C) A (boolOp p op (evalEach (e::e'::es) X.env)) Q dw s:=by
 show wpAny _ _ (boolOp p op (eval e X.env::eval e' X.env::evalEach es X.env)) _ _ _
 rw[UW]
 exact aq (hm.go R T e1 fun v bt bm bD bz eg=>aq (dA (aq (dJ (eC (zM bz e2 eg) fun t dU z=>z.elim fun cA dP cP=>h v dU cA (bD.trans dP) cP (eg.mono dP))))))
theorem k7.and{m n:EM}{e e':an}{es:List an}(hm:b8 X k m e)(hn:k7 X k .And n (e'::es)):k7 X k .And (SU m n) (e::e'::es):=fun A R W fr σ s T a ai q p=>by
 refine fR q fun wo ay e1 q=>oE q fun t e2 q=>W9 hm R T e1 e2 fun v dU cA l cP z=> ?_
 cases t with
 |true=>exact eC (hn A R cA fr ay dU cP a ai q p) fun _ _ z=>z.le l
 |false=>apply s2 q;exact aL ⟨cA,l,cP,z⟩
theorem k7.or{m n:EM}{e e':an}{es:List an}(hm:b8 X k m e)(hn:k7 X k .Or n (e'::es)):k7 X k .Or (eOr m n) (e::e'::es):=fun A R W fr σ s T a ai q p=>by
 refine fR q fun wo ay e1 q=>oE q fun t e2 q=>W9 hm R T e1 e2 fun v dU cA l cP z=> ?_
 cases t with
 |true=>apply s2 q;exact aL ⟨cA,l,cP,z⟩
 |false=>exact eC (hn A R cA fr ay dU cP a ai q p) fun _ _ z=>z.le l
theorem k7.val{op:cF}{m:EM}{es:List an}{p:Pos}(h:k7 X k op m es):b8 X k m (.BoolOp op es p):=fun A R W fr σ s T a ai q=>h A R W fr σ s T a ai q p
theorem akt{m:EM}{e:an}{p:Pos}(hm:b8 X k m e):b8 X k (rW (pf (jh m))) (.UnaryOp .Not e p):=fun A R W fr σ s T a ai q=>by
 refine aaC q fun r ay e0=> ?_
 refine abW e0 fun r ay e0=> ?_
 refine YT e0 fun a e1 e2=> ?_
 show wpAny _ _ (do let v <- eval e X.env;standAt p;holding [v] (unaryOp .Not v)) _ _ _
 exact aq (hm.go R T e1 fun v bt bm bD bz eg=>aq (dA (dJ (Wc (eC (zM bz e2 eg) fun t dU z=>z.elim fun cA dP cP=>⟨cA,bD.trans dP,cP,rfl⟩)))))
theorem aks{m:EM}{e:an}{p:Pos}(hm:b8 X k m e):b8 X k (un aik m) (.UnaryOp .USub e p):=fun A R W fr σ s T a ai q=>by
 refine fR q fun wo ay e1 q=>oE q fun b e2 q=> ?_
 apply s2 q
 show wpAny _ _ (do let v <- eval e X.env;standAt p;holding [v] (unaryOp .USub v)) _ _ _
 refine aq (hm.go R T e1 fun v bt bm bD bz eg=>aq (dA (dJ ?_)))
 revert eg
 refine lp e2 fun i e2 eg=> ?_
 apply s1 e2
 exact eg.intE fun t=>Ug ⟨bm,bD,bz.toks _,_,rfl⟩
theorem akq{c:BM}{m n:EM}{t a b:an}{p:Pos}(hc:nk X k c t)(hm:b8 X k m a)(hn:b8 X k n b):b8 X k (ti c m n) (.IfExp t a b p):=fun A R W fr σ s T v ai q=>by
 show wpAny _ _ (do if <- isTrue t X.env (eval t X.env)then eval a X.env else eval b X.env) _ _ _
 refine fR q fun r ay e1 q=>aq (hc.go R T e1 fun bt bm bD bz=> ?_)
 cases r with
 |true=>exact eC (hm A R bm fr ay bt bz v ai q) fun _ _ z=>z.le bD
 |false=>exact eC (hn A R bm fr ay bt bz v ai q) fun _ _ z=>z.le bD
end
end
end
section
open PySem.SeqAt
noncomputable section
section
variable{X:FX}{k:Nat}{W W':Wd}{fr:Fm}{σ ai:AS}{s s':az}{A:b7}
theorem zG{i:Int}(h:mG i=true):kR i<=4001:=by
 have h1:i.natAbs<=2^4000:=av h
 unfold kR
 split
 ·omega
 ·rename_i q
  have h0:i.natAbs≠0:=by simpa using q
  have:i.natAbs.log2<4001:=(Fv h0).mpr (fc h1 (yO (by decide) (by decide)))
  omega
theorem ul: ∀(n:Nat) (x acc:List ah),((bL n x.toArray).foldl (fun x1 x2=>x1++x2) acc.toArray)=(acc++(bL n x).flatten).toArray
 |0,x,acc=>by simp
 |n+1,x,acc=>by
  rw[kX,H3,kX,mM,<- aB]
  have e:acc.toArray++x.toArray=(acc++x).toArray:=by simp
  rw[e];exact ul n x (acc++x)
theorem abz{C:PC}{l:aa}{vs:List ah}(h:VL C W l vs): ∀n,VL C W ((bL n l).flatten) ((bL n vs).flatten)
 |0=>VL.nil
 |n+1=>by
  rw[kX,mM,kX,mM]
  exact h.append (abz h n)
@[elab_as_elim] theorem afB {a b:AV} {f:Int->Int->Option AV} {r:AV} {C:PC} {W:Wd} {v w:ah} {Q:ah->ah->Prop} (e:(eW a fun i=>eW b fun j=>f i j)=some r) (hv:V C W a v) (hw:V C W b w) (k: ∀i j t u,f i j=some r->Q (.int i t) (.int j u)):Q v w:=by
 revert hv
 refine lp e fun i e hv=> ?_
 revert hw
 refine lp e fun j e hw=> ?_
 exact hv.intE fun t=>hw.intE fun u=>k i j t u e
theorem YB{j:Int}(h:mG j=true)(h0:j≠0):j.natAbs.log2<4001:=by
 have h1:j.natAbs<=2^4000:=av h
 exact(Fv (Int.natAbs_ne_zero.mpr h0)).mpr (fc h1 (yO (by decide) (by decide)))
theorem W5(T:St X W fr σ s){op:iD}{a b c:AV}(e:am9 op a b=some c){v w:ah}(hv:V X.C W a v)(hw:V X.C W b w):
  wpAny (dI X.C) A (binaryOp op v w) (fP X W fr c σ) dw s:=by
 have int: ∀i t,fP X W fr (.int i) σ (.int i t) {s with toks:=s.toks+1}:=fun i t=>(T.toks _).post ⟨_,rfl⟩
 have hii: ∀{op:iD} {f:Int->Int->Option AV},(eW a fun i=>eW b fun j=>f i j)=some c->(∀i j t u,f i j=some c->wpAny (dI X.C) A (binaryOp op (.int i t) (.int j u)) (fP X W fr c σ) dw s)->wpAny (dI X.C) A (binaryOp op v w) (fP X W fr c σ) dw s:=fun e h=>afB e hv hw h
 cases op<;>first|exact nn e|skip
 ·revert hv
  cases a<;>intro hv<;>first|exact nn e|skip
  ·revert hw
   refine lp (show(eW b fun j=>_)=some c from e) fun j e hw=> ?_
   apply s1 e
   exact hv.intE fun t=>hw.intE fun u=>Ub (int _ _)
  ·rename_i x
   revert hw
   refine fT (show(ek b fun t=>_)=some c from e) fun y e hw=>kS e fun ok e=> ?_
   rw[ip,ip]at ok
   rw[WW]at e
   apply s1 e
   refine hv.strE fun t=>hw.strE fun u=>V2 (ax s.toks) (Uc (fun t' tk ht=>(T.toks _ ht).post ⟨t',by rw[Sa]⟩) ?_)
   rw[bP,bP];exact iZ ok
  ·rename_i l
   revert hw
   refine NG (show(G8 b fun t=>_)=some c from e) fun m e hw=>kS e fun z e=> ?_
   apply s1 e
   simp only[cL,d7]at z
   obtain⟨⟨z1,z2⟩,z3⟩:=z
   refine hv.tupE fun x n vs g q=>hw.tupE fun y n' ws g' q'=> ?_
   refine PySem.P.add_tuple (items:=vs.toArray) (items2:=ws.toArray) (T.rel.im _ _ g) (T.rel.im _ _ g') (by rw[mu q,z2];decide) (by rw[mu q',z3];decide) ?_ ?_
   ·rw[Be]
    obtain⟨l,T'⟩:=T.pushIm (o:=tu (vs++ws) 0) rfl s.toks
    exact⟨_,l,T',_,0,vs++ws,rfl,ms,(q.mono l).append (q'.mono l)⟩
   ·rw[aZ,aZ,q.length,q'.length];exact iZ z1
 ·exact hii e fun i j t u e=>by apply s1 e;exact Ui (int _ _)
 ·revert hv
  cases a<;>intro hv<;>first|exact nn e|skip
  ·revert hw
   refine lp (show(eW b fun j=>_)=some c from e) fun j e hw=>kS e fun ok e=> ?_
   apply s1 e
   obtain⟨o1,o2⟩:=bj.mp ok
   exact hv.intE fun t=>hw.intE fun u=>Uf (int _ _) (IntMulOk.of_bits (au (zG o1) (by decide)) (au (zG o2) (by decide)))
  ·revert hw
   refine lp (show(eW b fun j=>_)=some c from e) fun j e hw=>kS e fun z e=> ?_
   apply s1 e
   simp only[cL,xY,decide_eq_true_eq]at z
   obtain⟨z1,z2⟩:=z
   refine hv.strE fun t=>hw.intE fun u=>V2 (ax s.toks) (PySem.SB.mul ⟨by simp;omega,fun h=>absurd z2 h,fun h=>absurd z2 h⟩ fun t' tk ht=>(T.toks _ ht).post ⟨t',?_⟩)
   unfold Txt.mul;rw[if_pos z2];rfl
 ·exact hii e fun i j t u e=>kN e fun z e=>by
   apply s1 e
   rw[rj,decide_eq_false_iff_not]at z
   exact Ue z (int _ _)
 ·exact hii e fun i j t u e=>kS e fun z e=>by
   apply s1 e
   simp only[cL,d7,xY,decide_eq_true_eq,decide_eq_false_iff_not]at z
   obtain⟨⟨z1,z2⟩,z3⟩:=z
   refine Uh (sU.mp z2) ?_ (int _ _)
   have:=zG z1
   have h1:(kR i:Int)<=4001:=by omega
   have h2:(kR i:Int)*j<=4001*1000:=Int.mul_le_mul h1 (by omega) (by omega) (by omega)
   omega
 ·exact hii e fun i j t u e=>kN e fun z e=>by
   apply s1 e
   simp only[oJ,rj,decide_eq_false_iff_not,Bool.not_eq_false']at z
   exact Nz z.1 (int _ _) (.inl (PyProof.noPylong_of_log2 (Nat.lt_trans (YB z.2 z.1) (by decide))))
theorem Vo{prog:fY}{w:dZ}{E:ah->az->Prop}{l:aC}{items:Array ah}{n:Nat}{x:Int}{u:Tok}{Q:ah->az->Prop}(hl:s.heap.get? l=some {cls:=.type "list",dict:=none,data:=.seq items n,slots:= #[]})
  (k1: ¬(!kC x)=true)(k2: ¬items.size*x.toNat>(2^63-1) / 8)(k3: ¬i6 (items.size*x.toNat)=true)
  (h:Q (.ref s.heap.objs.size) {s with heap:=s.heap.push {cls:=.type "list",data:=.seq (T8 (fun x1 x2=>x1++x2) #[] (bL (if items.isEmpty=true then 0 else x.toNat) items))}}):
  wpAny (model prog w) A (binaryOp .Mult (.ref l) (.int x u)) Q E s:=
 wpAny_binaryOp_repeat_ref (T:="list") (U:="int") (by decide) ⟨_,hl,rfl⟩ (fun s'=>typeIs_int s' x u) noFill_list_mul F.fills_int_mul H1 repeat_list F.slot_int_index.lookup
  (mc H1 (typeIs_int s x u) F.entry_int_rmul (F.args_int_rmul_2 _ _) (int___rmul___int_list x u l items n)
   ⟨hl,rfl,⟨_,hl,rfl⟩,mc F.slot_list_mul ⟨_,hl,rfl⟩ F.entry_list_mul (F.args_list_mul_2 _ _)
    (Fu l items n x u k1 k2 k3) ⟨hl,h⟩⟩)
theorem aav(T:St X W fr σ s){x j:Nat}{l:aa}(hg:σ.get x=some (.lst l))(z:bw j 100=true)(z2:cX l.length 1000=true){v:ah}(hv:V X.C W (.ref x) v)(u:Tok):
  wpAny (dI X.C) A (binaryOp .Mult v (.int (.ofNat j) u)) (fP X W fr (.ref σ.next) (σ.alloc (.lst ((bL j l).flatten)))) dw s:=by
 refine T.rel.lstE hg hv fun p vs n _ _ g q=> ?_
 have z:=dh.mp z
 have z2:=av z2
 have hp:vs.length*j<=1000*100:=Nat.mul_le_mul (by rw[q.length];exact z2) (i8 z)
 have hj:(am j).toNat=j:=rfl
 have hz:vs.toArray.size*(am j).toNat <=100000:=by rw[aZ,hj];exact hp
 clear hv hg hp z2
 have k1: ¬(!kC (am j))=true:=by
  have h1:(-(2^63):Int)<=am j:=by have:=dq j;show(-(2^63):Int)<=(j:Int);omega
  have h2:(am j:Int)<2^63:=by show(j:Int)<2^63;omega
  simp only[kC,decide_eq_true h1,decide_eq_true h2];decide
 have k2: ¬vs.toArray.size*(am j).toNat >(2^63-1) / 8:=ci.mpr (au hz (by decide))
 have k3: ¬i6 (vs.toArray.size*(am j).toNat)=true:=by
  unfold i6 sizeLine;rw[decide_eq_true_iff];exact ci.mpr (au hz (by decide))
 refine Vo g k1 k2 k3 ?_
 have e1:(T8 (fun x1 x2=>x1++x2) #[] (bL (if vs.toArray.isEmpty=true then 0 else(am j).toNat) vs.toArray))=((bL j vs).flatten).toArray:=by
  have e2:=ul (if vs.toArray.isEmpty=true then 0 else(am j).toNat) vs []
  rw[vt]at e2
  rw[show(#[]:Array ah)=([]:List ah).toArray from rfl,e2]
  cases vs with
  |nil=>simp
  |cons v vs=>simp
 rw[e1]
 obtain⟨l,T'⟩:=T.pushLst (abz q j) s.toks
 exact⟨_,l,T',rh⟩
theorem Zv{op:iD}:am3 X k (binaryOp op) (b4 op):=fun A R W fr σ s T a b v w hv hw c ai e=>by
 refine odE e (fun c' q e=> ?_) fun e=> ?_
 ·apply s2 e;exact W5 T q hv hw
 cases op<;>first|exact nn e|skip
 ·refine oE (show ob (iR σ a) _=_ from e) fun l hl e=>oE e fun m hm e=>kS e fun ok e=> ?_
  apply s2 e
  refine nt T.rel hl hv fun x n vs g q=>nt T.rel hm hw fun y n' ws g' q'=>PySem.P.add_list (items:=vs.toArray) (items2:=ws.toArray) g g' ?_ ?_
  ·rw[Be]
   obtain⟨l,T'⟩:=T.pushLst (q.append q') s.toks
   exact⟨_,l,T',rh⟩
  ·rw[aZ,aZ,q.length,q'.length];exact iZ ok
 ·revert hv
  refine iA (show(io a fun x=>_)=some (c,ai) from e) fun x e hv=> ?_
  revert hw
  refine mm e fun j e hw=>kS e fun z e=>lstE e fun l hg e=>kS e fun z2 e=> ?_
  apply s2 e
  exact hw.intE fun u=>aav T hg z z2 hv u
end
end
end
section
open PySem.SeqAt
noncomputable section
section
variable{X:FX}{k:Nat}{W W':Wd}{fr:Fm}{σ ai:AS}{s s':az}{A:b7}{h:bO}{C:PC}
noncomputable def td:an->Bool
 | .Call f a _ _=>match f with
  | .Name .. => !a.isEmpty
  | .Attribute .. =>true
  |_=>false
 |_=>true
theorem afN{o:an}(ho:td o=true)(attr:Str)(env:Env)(w:Sem ah):attributeBase o attr env w=w:=by
 cases o with
 |Call f a k p=>cases f with
  |Name x q=>cases a with
   |nil=>exact ff ho
   |cons=>rfl
  |Attribute=>rfl
  |_=>exact ff ho
 |_=>rfl
theorem lZ{M:lb}{E:ah->az->Prop}{o:an}{attr:Str}{env:Env}{Q:ah->az->Prop}(ho:td o=true)
  (h:wpAny M A (eval o env) Q E s):wpAny M A (attributeBase o attr env (eval o env)) Q E s:=by
 rw[afN ho];exact h
theorem Vy{a b:AV}(e:tp a=some b){P:AV->Prop}(k:(∀{v:ah},V C W a v->handedIn v=true)->P a):P b:=by
 cases a<;>first|exact nn e|(apply s1 e;refine k fun{v} hv=> ?_;first|exact hv.noneE rfl|exact hv.boolE rfl|exact hv.intE fun _=>rfl|exact hv.strE fun _=>rfl|exact hv.bytesE fun _=>rfl|exact hv.tupE fun _ _ _ _ _=>rfl|exact hv.lstE fun _ _ _ _ _=>rfl|exact hv.frzE fun _ _ _ _ _ _ _ _ _ _=>rfl|exact hv.dctE fun _ _ _ _ _ _ _=>rfl|exact hv.dctiE fun _ _ _ _ _ _ _=>rfl|exact hv.rngE fun _ _ _ _ _ _ _=>rfl|exact hv.refE fun _ _=>rfl)
theorem Z2{x k:Nat}(hx:x<C.nf)(hk:k<C.nf){en:ia}{es:List ia}{t:Tok}(ht:en.key= .str (C.fname x) t):getL (C.fname k) (en::es)=if k=x then some (some en.val)else getL (C.fname k) es:=by
 by_cases h:k=x
 ·subst h
  rw[if_pos rfl]
  unfold getL
  rw[oO,ht]
  simp[kM]
 ·rw[if_neg h]
  have hne:C.fname x≠C.fname k:=fun q=>h (C.fnameInj _ _ hx hk q).symm
  have hf:en.key.isStr (C.fname k)=false:=by rw[ht];simp[kM,hne]
  have hr:en.refKey=false:=by unfold Gv;rw[ht]
  unfold getL
  rw[oO,hf,rG,hr];rfl
theorem Xz{k:Nat}(hk:k<C.nf): ∀{ks:ac} {fs:aa} {vs:List ah} {es:List ia} {b:AV},xS k ks fs=some b->VL C W fs vs->oY C ks vs es-> ∃v,getL (C.fname k) es=some (some v)/\V C W b v:=by
 intro ks
 induction ks with
 |nil=>intro fs vs es b e;exact nn e
 |cons x ks ih=>
  intro fs vs es b e hv
  cases fs with
  |nil=>exact nn e
  |cons a fs=>
   refine hv.consE fun v r h1 h2 hK=> ?_
   cases es with
   |nil=>exact hK.elim
   |cons en es=>
    obtain⟨hx,⟨t,ht⟩,rfl,hK⟩:=hK
    rw[Z2 hx hk ht]
    rw[XA,f8]at e
    by_cases z:k=x
    ·rw[if_pos z]
     rw[decide_eq_true z]at e
     cases e
     exact⟨_,rfl,h1⟩
    ·rw[if_neg z]
     rw[decide_eq_false z]at e
     exact ih e h2 hK
theorem L2{K:dL}{c:aC}{n:Str}(h:IJ K c n=true):plainGet K c n=true/\hasDictIn K c=true/\(∃a,findIn K (.ref c) n=some a/\noGet K a=true)/\findIn K (.ref c) "__setattr__"=some (some (.builtin "object.__setattr__"))/\plainOver K c=true/\takerIn K c n=some none:=by
 unfold IJ at h
 simp only[cL,beq_iff_eq]at h
 obtain⟨⟨⟨⟨⟨a,b⟩,c⟩,d⟩,e⟩,f⟩:=h
 refine⟨a,b,?_,d,e,f⟩
 revert c
 cases findIn K (.ref _) n with
 |none=>exact fun c=>ff c
 |some x=>exact fun c=>⟨x,rfl,c⟩
theorem cC.K(R:cC C W σ h):C.K.In h:=fun a o e=>R.im _ _ (R.base _ _ (C.inK _ _ e))
structure Op(C:PC)(W:Wd)(h:bO)(v:ah)(c:Nat)(ks:List Nat)(fs:List AV):Prop where
 at_: ∃x d es n vs,v= .ref x/\C.cls c=true/\h.get? x=some (instObj c d)/\h.get? d=some (dictOf es n)/\VL C W fs vs/\oY C ks vs es
theorem S0(R:cC C W σ h){c:Nat}{ks:ac}{fs:aa}{v:ah}(hv:V C W (.frz c ks fs) v):Op C W h v c ks fs:=
 hv.frzE fun x d es n vs q0 q1 q2 r z=>⟨x,d,es,n,vs,rfl,q0,R.im _ _ q1,R.im _ _ q2,r,z⟩
theorem TC(R:cC C W σ h){a c:Nat}{ks:ac}{fs:aa}{v:ah}(hg:σ.get a=some (.inst c ks fs))(hv:V C W (.ref a) v):Op C W h v c ks fs:=
 R.instE hg hv fun p es n vs _ q0 q1 q2 r z=>⟨p.1,p.2,es,n,vs,rfl,q0,R.im _ _ q1,q2,r,z⟩
theorem ajo(R:cC C W σ h){a c:Nat}{l:aa}{v:ah}(hg:σ.get a=some (.orc c l))(hc:C.cls c=true)(hv:V C W (.ref a) v): ∃ks fs,Op C W h v c ks fs:=by
 obtain⟨p,q,rfl⟩:=hv
 obtain⟨p',e',⟨cc,q1,q2⟩,_⟩:=R.cell _ _ hg
 rw[q]at e';cases e'
 obtain⟨ks,fs,rfl⟩:=C.concInst _ _ _ q1 hc
 obtain⟨q0,q1,es,n,vs,q2,r,z⟩:=q2
 exact⟨ks,fs,p.1,p.2,es,n,vs,rfl,q0,R.im _ _ q1,q2,r,z⟩
theorem Pa(T:St X W fr σ s){v:ah}{c kk:Nat}{ks:ac}{fs:aa}(I:Op X.C W s.heap v c ks fs)(hk:kk<X.C.nf){b:AV}(e:(ob (NN c kk ks fs) fun v=>tp v)=some b){ex:Bool}:
  wpAny (dI X.C) A (getAttr v (X.C.fname kk) ex) (fP X W fr b σ) dw s:=by
 obtain⟨x,d,es,n,vs,rfl,q0,q1,q2,r,z⟩:=I.at_
 refine oE e fun aqV e0 e'=>kN e0 fun e0 e=> ?_
 obtain⟨p1,p2,⟨a,p3,p4⟩,_⟩:=L2 (X.C.attr c kk q0 hk e0)
 obtain⟨w,g,q⟩:=Xz hk e r z
 apply Vy (C:=X.C) (W:=W) e';intro e2
 exact get_value T.rel.K (I:=(⟨q1,rfl,rfl,q2⟩:InstAt s.heap x (instObj c d) c (some (dictOf es n)))) (qF p1).1 (findObj_own p2 p3 p4 g) (e2 q) ((T.toks _).post q)
theorem US(T:St X W fr σ s){kk:Nat}(hk:kk<X.C.nf){a b:AV}(e:aA kk a σ=some b){v:ah}(hv:V X.C W a v){ex:Bool}:wpAny (dI X.C) A (getAttr v (X.C.fname kk) ex) (fP X W fr b σ) dw s:=by
 revert hv
 cases a<;>intro hv<;>first|exact nn e|skip
 ·exact Pa T (S0 T.rel hv) hk e
 ·exact instE e fun c ks vs hg e=>Pa T (TC T.rel hg hv) hk e
theorem akk{kk:Nat}{m:EM}{o:an}{p:Pos}(hk:kk<X.C.nf)(hb:td o=true)(hm:b8 X k m o):b8 X k (un (aA kk) m) (.Attribute o (X.C.fname kk) p):=fun A R W fr σ s T a ai q=>by
 refine fR q fun wo ay e1 q=>oE q fun b e2 q=> ?_
 apply s2 q
 rw[arm_eval_Attribute]
 exact aq (lZ hb (hm.go R T e1 fun v bt bm bD bz eg=>aq (dA (aq (dJ
  (eC (US bz hk e2 eg) fun r dU z=>aq (wpAny_letTemporaryGo (aL (z.le bD)))))))))
theorem Qm{α:Type}: ∀{l:List α} {i:Nat} {a:α},Ql l i=some a->l[i]? =some a
 |_::_,0,_,e=>e
 |_::r,i+1,_,e=>Qm (l:=r) e
 |[],_,_,e=>by cases e
theorem amg{n:Nat}(h3:n<=4000000): -(2^63)<= -(n:Int)-1:=by omega
theorem NS(n:Nat): -(n:Int)-1<0:=by omega
theorem acl{m n:Nat}(h2:n<m): -(m:Int)<= -(n:Int)-1:=by omega
theorem acm{m n:Nat}(h2:n<m):m-1-n=(-(n:Int)-1+m).toNat:=by
 rw[show-(n:Int)-1+m=((m-1-n:Nat):Int) by omega];rfl
theorem Tw{α:Type}{l:List α}{i:Int}{a:α}(e:Yb l i=some a): ∃n,seqIndex? i l.length=some n/\l[n]? =some a/\ -(2^63)<=i/\i<2^63/\((0<=i/\n=i.toNat)\/(i<0/\ -(l.length:Int)<=i/\n=(i+l.length).toNat)):=by
 cases i with
 |ofNat n=>
  refine kS e fun ok e=> ?_
  have h1:=Qm e
  have h2:n<l.length:=(cU.mp h1).1
  exact⟨n,StrLaws.seqIndex_nonneg (dq n) (ib.mpr h2),h1,Int.le_trans (by decide) (dq n),Bq (N3.mpr (jP ok)) (by decide),.inl ⟨dq n,rfl⟩⟩
 |negSucc n=>
  refine kS e fun ok e=> ?_
  obtain⟨o1,o2⟩:=bj.mp ok
  have h2:=dh.mp o2
  rw[show(qD n)= -(n:Int)-1 from by omega]
  refine⟨l.length-1-n,?_,Qm e,amg (jP o1),Int.lt_trans (NS n) (by decide),.inr ⟨NS n,acl h2,acm h2⟩⟩
  rw[StrLaws.seqIndex_neg (NS n) (acl h2),acm h2]
theorem ad0(T:St X W fr σ s){a b:AV}{l:aa}(hl:nF σ a=some l){j:Int}{t:Tok}(e:Yb l j=some b){v:ah}(hv:V X.C W a v):
  wpAny (dI X.C) A (getItem v (.int j t)) (fP X W fr b σ) dw s/\ ∃T',s.TypeIs v T'/\ ∃id,typeLookup (.type T') "__getitem__"=pure (some (.builtin id)):=by
 refine Hs T.rel hl hv fun x m vs q z=> ?_
 obtain⟨n,e1,e2,e3,e4,e5⟩:=Tw e
 obtain⟨w,g,r⟩:=q.get e2
 have g':vs.toArray[n]? =some w:=by rw[jT];exact g
 have hs:(vs.toArray.size:Int)=l.length:=by rw[aZ,q.length]
 rcases z with z|z
 ·have z:=lO z
  refine⟨?_,"list",z.typeIs,_,Ff.lookup⟩
  rcases e5 with⟨h0,rfl⟩|⟨h0,h1,rfl⟩
  ·exact wpAny_getItem_list z h0 e4 g' (T.post r)
  ·exact wpAny_getItem_list_neg z h0 (by rw[hs];exact h1) e3 (by rw[hs];exact g') (T.post r)
 ·refine⟨?_,"tuple",⟨_,z,rfl⟩,_,F.slot_tuple_getitem.lookup⟩
  exact PySem.P.getItem_tuple (items:=vs.toArray) z e3 e4 (by rw[aZ,q.length];exact e1) g' (T.post r)
theorem Gj{α:Type}[DecidableEq α]{a p:α}{v:ah}{l:List (α×ah)}:valueAt ((a,v)::l) p=if a=p then some v else valueAt l p:=by
 unfold valueAt
 rw[oO]
 by_cases h:a=p
 ·rw[if_pos h,decide_eq_true h];rfl
 ·rw[if_neg h,decide_eq_false h]
theorem ZM(p:ac): ∀{ks:List (List Nat)} {fs:aa} {vs:List ah} {b:AV},NJ p ks fs=some b->VL C W fs vs-> ∃v,valueAt ((ks.map aP).zip vs) (aP p)=some v/\V C W b v:=by
 intro ks
 induction ks with
 |nil=>intro fs vs b e;exact nn e
 |cons k ks ih=>
  intro fs vs b e hv
  cases fs with
  |nil=>exact nn e
  |cons a fs=>
   refine hv.consE fun v r h1 h2=> ?_
   rw[bh,bQ,Gj]
   have z:=qA (a:=k) (b:=p)
   refine bE e (fun q e=> ?_) fun q e=> ?_
   ·rw[q]at z
    cases e
    exact⟨v,if_pos (beq_iff_eq.mp z),h1⟩
   ·rw[q]at z
    rw[if_neg (beq_eq_false_iff_ne.mp z)]
    exact ih e h2
theorem Xj(p:Int): ∀{ks:List Int} {fs:aa} {vs:List ah} {b:AV},IT p ks fs=some b->VL C W fs vs-> ∃v,valueAt (ks.zip vs) p=some v/\V C W b v:=by
 intro ks
 induction ks with
 |nil=>intro fs vs b e;exact nn e
 |cons k ks ih=>
  intro fs vs b e hv
  cases fs with
  |nil=>exact nn e
  |cons a fs=>
   refine hv.consE fun v r h1 h2=> ?_
   rw[bQ,Gj]
   refine bE e (fun q e=> ?_) fun q e=> ?_
   ·rw[rj,decide_eq_true_iff]at q
    cases e
    exact⟨v,if_pos q,h1⟩
   ·rw[rj,decide_eq_false_iff_not]at q
    rw[if_neg q]
    exact ih e h2
@[elab_as_elim] theorem agh (R:cC C W σ h) {a:AV} {ks:List (List Nat)} {fs:aa} (e:agg σ a=some (ks,fs)) {v:ah} {Q:ah->Prop} (hv:V C W a v) (k: ∀x vs,(x==sysModules)=false->VL C W fs vs->h.DictOf (strKind C.prog C.w) x ((ks.map aP).zip vs)->Q (.ref x)):Q v:=by
 revert hv
 cases a<;>intro hv<;>first|exact nn e|skip
 ·cases e
  exact hv.dctE fun x o vs q0 q r z=>k x vs q0 r (jr.mpr ⟨o,R.im _ _ q,z.2⟩)
 ·refine dctE (show SQ σ _ _=_ from e) fun ks' vs hg e=> ?_
  cases e
  exact R.dctE hg hv fun p o vs _ _ q0 g r z=>k p.1 vs q0 r (jr.mpr ⟨o,g,z.2⟩)
@[elab_as_elim] theorem afA {β:Type} {a:AV} {r:β} {Q:AV->Prop} {f:List Int->List AV->Option β} (h:abA a f=some r) (k: ∀ks vs,f ks vs=some r->Q (.dcti ks vs)):Q a:=by
 cases a<;>first|exact nn h|exact k _ _ h
theorem ahT(T:St X W fr σ s){x:ac}{j:Int}{b:AV}(e:(ob (Yb x j) fun c=>some (AV.str [c]))=some b){v:ah}(hv:V X.C W (.str x) v)(t:Tok):
  wpAny (dI X.C) A (getItem v (.int j t)) (fP X W fr b σ) dw s/\ ∃T',s.TypeIs v T'/\ ∃id,typeLookup (.type T') "__getitem__"=pure (some (.builtin id)):=oE e fun c hc e=>by
 apply s1 e
 refine hv.strE fun u=> ?_
 obtain⟨n,e1,e2,e3,e4,e5⟩:=Tw hc
 refine⟨Oc (c:=c) (by simp;omega) ?_ ((T.toks _).post ⟨_,rfl⟩),"str",rfl,_,GA.lookup⟩
 rw[bP,e1]
 simp only[nQ,aP]
 simpa using e2
theorem adR(T:St X W fr σ s){ks:List Int}{fs:aa}{j:Int}{b:AV}(e:IT j ks fs=some b){v:ah}(hv:V X.C W (.dcti ks fs) v)(t:Tok):
  wpAny (dI X.C) A (getItem v (.int j t)) (fP X W fr b σ) dw s/\ ∃T',s.TypeIs v T'/\ ∃id,typeLookup (.type T') "__getitem__"=pure (some (.builtin id)):=hv.dctiE fun x o vs q0 q r z=>by
 have hd:s.heap.DictOf (intKind X.C.prog X.C.w) x (ks.zip vs):=jr.mpr ⟨o,T.rel.im _ _ q,z.2⟩
 obtain⟨y,g,r'⟩:=Xj j e r
 exact⟨GC (Ic X.C.prog X.C.w j t) hd.mapOf g ((T.toks _).post r'),"dict",hd.typeIs,_,Fe.lookup⟩
theorem ahS(T:St X W fr σ s){a:AV}{p:ac}{b:AV}(e:(bC (agg σ a) fun ks vs=>NJ p ks vs)=some b){v:ah}(hv:V X.C W a v)(t:Tok):
  wpAny (dI X.C) A (getItem v (.str (aP p) t)) (fP X W fr b σ) dw s/\ ∃T',s.TypeIs v T'/\ ∃id,typeLookup (.type T') "__getitem__"=pure (some (.builtin id)):=fR e fun ks fs hd e=>agh T.rel hd hv fun x vs q0 r hd=>by
 obtain⟨y,g,r'⟩:=ZM p e r
 exact⟨GC (strKind_is X.C.prog X.C.w (aP p) t) hd.mapOf g ((T.toks _).post r'),"dict",hd.typeIs,_,Fe.lookup⟩
theorem aaa(T:St X W fr σ s){a i b:AV}(e:acb a i σ=some b){v w:ah}(hv:V X.C W a v)(hw:V X.C W i w):
  wpAny (dI X.C) A (getItem v w) (fP X W fr b σ) dw s/\ ∃T',s.TypeIs v T'/\ ∃id,typeLookup (.type T') "__getitem__"=pure (some (.builtin id)):=by
 revert hw
 cases i<;>intro hw<;>first|exact nn e|skip
 ·refine hw.intE fun t=>odE e (fun x hx e=> ?_) fun e=>odE e (fun r hr e=> ?_) fun e=>oE e fun l hl e=>ad0 T hl e hv
  ·revert hv
   refine fT hx fun x' hx hv=> ?_
   cases hx;exact ahT T e hv t
  ·revert hv
   refine afA hr fun ks fs hr hv=> ?_
   cases hr;exact adR T e hv t
 ·exact hw.strE fun t=>ahS T e hv t
noncomputable def PV:an->Bool
 | .Slice .. =>true
 |_=>false
theorem HN{slice:an}(h:PV slice=false)(o i:ah):subscripted slice false o i=operate [o,i] (getItem o i):=by
 cases slice<;>first|rfl|cases h
theorem akp{m n:EM}{a i:an}{p:Pos}(hs:PV i=false)(hm:b8 X k m a)(hn:b8 X k n i):b8 X k (bi fU m n) (.Subscript a i p):=fun A R W fr σ s T c ai e=>by
 refine W4 e fun x ay y aM e1 e2 e3=>oE e3 fun z e4 e3=> ?_
 apply s2 e3
 refine Subscript_ (EP hm hn R T e1 e2 fun v w dU cA l cP eg j0=> ?_)
 obtain⟨h1,T',hT,id,hl⟩:=aaa cP e4 eg j0
 exact tail_any hT hl (eC h1 fun _ _ z=>z.le l) (HN hs _ _)
end
end
end
section
open PySem.SeqAt
noncomputable section
noncomputable def tm(a:AV):Option Int:=eW a some
@[elab_as_elim] theorem abP {n d a:Nat} {v:AV} {Q:AV->Nat->Prop} (e:kn n d v=some a) (k1:Q .none d) (k2: ∀i,Q (.int (.ofNat i)) (D8 i n)) (k3: ∀i,Q (.int (.negSucc i)) (n-(i+1))):Q v a:=by
 cases v<;>first|exact nn e|skip
 ·apply s1 e;exact k1
 ·rename_i i
  cases i with
  |ofNat i=>apply s1 e;exact k2 i
  |negSucc i=>apply s1 e;exact k3 i
theorem ZC(i n:Nat):max 0 (min (if(i:Int)<0 then(i:Int)+n else i) n)=((min i n:Nat):Int):=by
 rw[if_neg (sU.mpr (dq i)),Int.max_eq_right]
 ·omega
 ·exact Int.le_min.mpr ⟨dq i,dq n⟩
theorem ZB(i n:Nat):max 0 (min (if-(i:Int)-1<0 then-(i:Int)-1+n else-(i:Int)-1) n)=((n-(i+1):Nat):Int):=by
 rw[if_pos (NS i),Int.min_eq_left (by omega),Int.max_def]
 split<;>omega
theorem AD(a b:Nat):sliceRange (a:Int) (b:Int) 1=(cB (b-a)).map fun k=>a+k:=by
 unfold sliceRange
 simp only[show((1:Int)>0)=True from by simp,if_true]
 by_cases hlt:(a:Int)<b
 ·have e3:(((b:Int)-a+1-1) / 1).toNat=b-a:=by first|omega|(simp;done)|(simp;omega)
  simp only[hlt,if_true,e3]
  refine fX fun k _=> ?_
  omega
 ·have:b-a=0:=by omega
  simp[hlt,this]
theorem on{n d a:Nat}{v:AV}(e:kn n d v=some a)(hd:d<=n):a<=n/\(match tm v with|none=>(d:Int)|some i=>max 0 (min (if i<0 then i+n else i) n))=(a:Int):=by
 revert hd
 refine abP e (fun hd=>⟨hd,rfl⟩) (fun i hd=>⟨Gy _ _,ZC i n⟩) fun i hd=>⟨Ua _ _,?_⟩
 show max 0 (min (if qD i<0 then qD i+n else qD i) n)=_
 rw[show(qD i)= -(i:Int)-1 by omega]
 exact ZB i n
theorem vR{n d a:Nat}{v:AV}(e:kn n d v=some a):v= .none\/ ∃i,v= .int i:=by
 exact abP e (.inl rfl) (fun i=>.inr ⟨_,rfl⟩) fun i=>.inr ⟨_,rfl⟩
theorem Zx{n a b:Nat}{lo hi:AV}(h1:kn n 0 lo=some a)(h2:kn n n hi=some b):sliceBounds (tm lo) (tm hi) none n=((a:Int),(b:Int),1):=by
 have e1:=(on h1 (aU _)).2
 have e2:=(on h2 (ax _)).2
 unfold sliceBounds
 simp only[tN,show((1:Int)>0)=True from by simp,if_true]
 refine Oa ?_ (Oa ?_ rfl)
 ·rw[<- e1];rfl
 ·exact e2
theorem R6{n a b:Nat}{lo hi:AV}(h1:kn n 0 lo=some a)(h2:kn n n hi=some b):qW (tm lo) (tm hi) 1 n=(cB (b-a)).map fun k=>a+k:=by
 have e1:=(on h1 (aU _)).2
 have e2:=(on h2 (ax _)).2
 rw[<- AD]
 unfold qW
 simp only[show((1:Int)>0)=True from by simp,if_true]
 congr 1
theorem Po{α:Type}(l:List α){a b:Nat}(ha:a<=l.length)(hb:b<=l.length):((cB (b-a)).map fun k=>a+k).filterMap (l[·]?)=KL l a b:=by
 rw[StrLaws.picks l (b-a) a (by omega)];rfl
theorem agc{α:Type}(l:List α)(a b:Nat):(KL l a b).length <=l.length:=by
 unfold KL
 rw[kh,g9]
 exact au (Gy _ _) (Ua _ _)
theorem ZJ{α:Type}(l:List α){a b:Nat}(ha:a<=l.length)(hb:b<=l.length)(h:b-a=l.length):KL l a b=l:=by
 by_cases z:l.length=0
 ·have:l=[]:=mJ.mp z
  subst this;simp[KL]
 ·have h1:a=0:=by omega
  have h2:b=l.length:=by omega
  subst h1 h2
  simp[KL]
section
variable{X:FX}{k:Nat}{W W':Wd}{fr:Fm}{σ ai:AS}{s s':az}{A:b7}{h:bO}{C:PC}
theorem PU{v:AV}(h:v= .none\/ ∃i,v= .int i){w:ah}(hw:V C W v w):IsPart w (tm v):=by
 rcases h with rfl|⟨i,rfl⟩
 ·cases hw;exact .none
 ·obtain⟨t,rfl⟩:=hw;exact .int i t
theorem Mh{v:AV}(h:v= .none\/ ∃i,v= .int i){w:ah}(hw:V C W v w): ∃p:Option (Int×Tok),w=partValue p/\p.map (·.1)=tm v:=by
 rcases h with rfl|⟨i,rfl⟩
 ·cases hw;exact⟨none,rfl,rfl⟩
 ·obtain⟨t,rfl⟩:=hw;exact⟨some (i,t),rfl,rfl⟩
theorem akh(bz:St X W fr σ s){L:aC}{x:ac}{lo hi b:AV}(e:(bif dB (eY x)then ob (kn (eY x) 0 lo) (fun p=>ob (kn (eY x) (eY x) hi) fun q=>some (AV.str (Pm x p q),σ))else none)=some (b,ai)){v vl vh:ah}(hv:V X.C W (.str x) v)(hl:V X.C W lo vl)(hh:V X.C W hi vh)(hL:s.heap.get? L=some {cls:=.type "slice",data:=.fields #[vl,vh,.none]}):
  wpAny (dI X.C) A (getItem v (.ref L)) (fP X W fr b ai) dw s/\ ∃T',s.TypeIs v T'/\ ∃id,typeLookup (.type T') "__getitem__"=pure (some (.builtin id)):=by
 rw[ip]at e
 refine kS e fun ok e=>oE e fun p h1 e=>oE e fun q h2 e=> ?_
 rw[Pn]at e
 apply s2 e
 refine hv.strE fun t=> ?_
 obtain⟨pl,rfl,el⟩:=Mh (vR h1) hl
 obtain⟨ph,rfl,eh⟩:=Mh (vR h2) hh
 refine⟨V2 (n:=s.toks) (ax _) (wpAny_getItem_str_slice (l:=pl) (u:=ph) (st:=none) ⟨_,hL,rfl,rfl⟩ rfl ?_),"str",rfl,_,GA.lookup⟩
 have ha:=(on h1 (aU _)).1
 have hb:=(on h2 (ax _)).1
 have e1:slicePicked (aP x) pl ph none=(cB (q-p)).map fun k=>p+k:=by
  unfold slicePicked
  rw[el,eh,bP]
  exact R6 h1 h2
 have e2:(slicePicked (aP x) pl ph none).filterMap ((aP x).cps[·]?)=KL x p q:=by
  rw[e1]
  have:=Po x ha hb
  simpa[aP] using this
 unfold sliceMade
 refine post_val_or_made (fun _=> ?_) fun t' tk ht=> ?_
 ·rw[e2]
  show(aP (KL x p q)).length <=_
  rw[bP];exact au (agc x p q) (iZ ok)
 ·refine(bz.toks _ ht).post ⟨t',?_⟩
  congr 1
  rw[e2]
  split
  ·rename_i z
   rw[e1,bP]at z
   have z':q-p=x.length:=by simpa using z
   rw[ZJ x ha hb z']
  ·rfl
theorem akg(bz:St X W fr σ s){L:aC}{l:aa}{lo hi b:AV}(e:(bif dB (eY l)then ob (kn (eY l) 0 lo) (fun p=>ob (kn (eY l) (eY l) hi) fun q=>some (AV.ref σ.next,σ.alloc (.lst (Pm l p q))))else none)=some (b,ai)){x n:Nat}{vs:List ah}{vl vh:ah}(g:s.heap.get? x=some (dC vs n))(r:VL X.C W l vs)(hl:V X.C W lo vl)(hh:V X.C W hi vh)(hL:s.heap.get? L=some {cls:=.type "slice",data:=.fields #[vl,vh,.none]}):
  wpAny (dI X.C) A (getItem (.ref x) (.ref L)) (fP X W fr b ai) dw s/\ ∃T',s.TypeIs (.ref x) T'/\ ∃id,typeLookup (.type T') "__getitem__"=pure (some (.builtin id)):=by
 rw[ip]at e
 refine kS e fun ok e=>oE e fun p h1 e=>oE e fun q h2 e=> ?_
 rw[Pn]at e
 apply s2 e
 refine⟨wpAny_getItem_list_slice (lO g) ⟨_,hL,rfl,rfl⟩ (PU (vR h1) hl) (PU (vR h2) hh) .none (by simp) ?_ ?_,"list",(lO g).typeIs,_,Ff.lookup⟩
 ·have ha:=(on h1 (aU _)).1
  have hb:=(on h2 (ax _)).1
  have e1:slicePick vs.toArray (tm lo) (tm hi) none=(KL vs p q).toArray:=by
   unfold slicePick
   rw[aZ,r.length,Zx h1 h2]
   simp only[AD]
   have:=Po vs (a:=p) (b:=q) (by rw[r.length];exact ha) (by rw[r.length];exact hb)
   simpa using congrArg List.toArray this
  rw[e1]
  obtain⟨le,T'⟩:=bz.pushLst ((r.drop p).take (q-p)) s.toks
  exact⟨_,le,T',rh⟩
 ·rw[aZ,r.length];exact iZ ok
theorem aaS(T:St X W fr σ s){a lo hi b:AV}(e:anB a lo hi σ=some (b,ai)){v vl vh:ah}(hv:V X.C W a v)(hl:V X.C W lo vl)(hh:V X.C W hi vh):
  wpAny (dI X.C) A (getItem v (.ref s.heap.objs.size)) (fP X W fr b ai) dw {s with heap:=s.heap.push {cls:=.type "slice",data:=.fields #[vl,vh,.none]}}/\
   ∃T',Shared.TypeIs {s with heap:=s.heap.push {cls:=.type "slice",data:=.fields #[vl,vh,.none]}} v T'/\ ∃id,typeLookup (.type T') "__getitem__"=pure (some (.builtin id)):=by
 have bz:St X W fr σ {s with heap:=s.heap.push {cls:=.type "slice",data:=.fields #[vl,vh,.none]}}:=T.keeps (eu _ _) s.toks
 refine odE e (fun x hx e=> ?_) fun e=>oE e fun l hla e=>nt T.rel hla hv fun x n vs g r=>akg bz e (eu _ _ _ _ g) r hl hh (bp _ rfl)
 revert hv
 refine fT hx fun x' hx hv=> ?_
 cases hx
 exact akh bz e hv hl hh (bp _ rfl)
def FK(X:FX)(k:Nat)(m:EM)(e:Option an):Prop:=
 ∀A,eN A k-> ∀W fr σ s,St X W fr σ s-> ∀a ai,m fr σ=some (a,ai)->wpAny (dI X.C) A (valueOrNone (evalOpt e X.env)) (fP X W fr a ai) dw s
theorem FK.none:FK X k (ba .none) none:=fun A _ W fr σ s T a ai e=>by apply s2 e;exact aL (T.post rfl)
theorem FK.some{m:EM}{e:an}(h:b8 X k m e):FK X k m (some e):=h
theorem akw{m n o:EM}{a:an}{lo hi:Option an}{p p':Pos}(hm:b8 X k m a)(hn:FK X k n lo)(ho:FK X k o hi):b8 X k (SW m n o) (.Subscript a (.Slice lo hi none p') p):=fun A R W fr σ s T c ai e=>by
 refine fR e fun x ay e1 e=>fR e fun y aM e2 e=>fR e fun z cN e3 e=>Subscript_ (hm.go R T e1 fun v bt bm bD bz eg=> ?_)
 rw[arm_eval_Slice]
 refine aq (eC (hn A R bm fr _ bt bz _ _ e2) fun vl dU z=>z.elim fun cA dP cP j0=> ?_)
 refine aq (dJ (eC (ho A R cA fr _ dU cP _ _ e3) fun vh jK z=>z.elim fun xI gY jb aqB=> ?_))
 refine aq (dJ (aL (gO ?_ (by size_fits))))
 obtain⟨h1,T',hT,id,hl⟩:=aaS (A:=A) jb e ((eg.mono dP).mono gY) (j0.mono gY) aqB
 exact tail_any hT hl (eC h1 fun _ _ z=>z.le (bD.trans (dP.trans gY))) rfl
end
end
end
section
open PySem.SeqAt
noncomputable section
section
variable{X:FX}{k:Nat}{W W':Wd}{fr:Fm}{σ ai:AS}{s s':az}{A:b7}{h h':bO}{C:PC}
noncomputable def jf:an->Bool
 | .Starred .. =>true
 |_=>false
theorem lV{e:an}(he:jf e=false)(es:List an)(env:Env):starEach (e::es) env=(false,eval e env)::starEach es env:=by
 cases e<;>first|rfl|cases he
theorem YK:Ag X k aJ []:=fun A _ W fr σ s T l ai e pos=>by
 apply s2 e;exact spliced_nil ⟨W,.refl W,T,VL.nil⟩
theorem Li{m:EM}{n:LM}{e:an}{es:List an}(he:jf e=false)(hm:b8 X k m e)(hn:Ag X k n es):Ag X k (aw m n) (e::es):=fun A R W fr σ s T l ai q pos=>by
 refine fR q fun wo ay e1 q=>fR q fun aqU aM e2 q=> ?_
 apply s2 q
 rw[lV he]
 show wpAny _ _ (spliced ((false,eval e X.env)::backTo pos (starEach es X.env))) _ _ _
 exact Bz (hm.go R T e1 fun v bt bm bD bz eg=>hn.go R bz e2 pos fun vs dU cA dP cP j0=>⟨cA,bD.trans dP,cP,VL.cons (eg.mono dP) j0⟩)
theorem aaE{f:aW}{l:LM}{c:AV}(e:bv f l fr σ=some (c,ai)){P:Prop}(k: ∀vs ay,l fr σ=some (vs,ay)->f vs ay=some (c,ai)->P):P:=fR e k
theorem ae1{n:LM}{es:List an}{p:Pos}(hn:Ag X k n es):b8 X k (bv de n) (.List es p):=fun A R W fr σ s T c ai e=>by
 refine aaE e fun l ay e1 e2=>kS e2 fun ok e2=> ?_
 apply s2 e2
 refine List_ (hn.go R T e1 p fun vs bt bm bD bz eg=>gO ?_ (by show vs.toArray.size<=sizeLine;rw[aZ,eg.length];exact iZ ok))
 obtain⟨le,T'⟩:=bz.pushLst eg bt.toks
 exact⟨_,bD.trans le,T',rh⟩
theorem aky{n:LM}{es:List an}{p:Pos}{j:Nat}(hn:Ag X k n es):b8 X k (bv gk n) (.Tuple es j p):=fun A R W fr σ s T c ai e=>by
 refine aaE e fun l ay e1 e2=>kS e2 fun ok e2=> ?_
 apply s2 e2
 refine Tuple_ (hn.go R T e1 p fun vs bt bm bD bz eg=>gO ?_ (by show vs.toArray.size<=sizeLine;rw[aZ,eg.length];exact iZ ok))
 obtain⟨le,T'⟩:=bz.pushIm (o:=tu vs 0) rfl bt.toks
 exact⟨_,bD.trans le,T',_,0,vs,rfl,ms,eg.mono le⟩
theorem akn{p:Pos}:b8 X k FT (.Dict [] [] p):=fun A R W fr σ s T c ai e=>by
 apply s2 e
 rw[eval_Dict_empty]
 refine aq (dA (gO ?_ (by size_fits)))
 obtain⟨le,T'⟩:=T.pushDct s.toks
 exact⟨_,le,T',rh⟩
theorem St.other(T:St X W fr σ s){d:aC}(hi:W.im d=none)(hp:W.pr d=none)(hc:s6 W σ d)(hd: ¬X.Has d)(k: ∀b o,b≠d->s.heap.get? b=some o->h'.get? b=some o)(t:Nat)(ht:s.toks<=t:=by first|exact ax _|exact cR _|omega):St X W fr σ {s with heap:=h',toks:=t}:=
 ⟨T.rel.keepsBut hi hp (fun a c p e e'=>hc a c p e e') k,T.fr.turn (.refl _) (fun b o e e'=>by rw[e]at e';cases e') (fun c hc=>T.fr.apart c hc) fun c hc o e=>k _ _ (fun q=>hd (q▸hc)) e,T.sm.mk' _ _ ht⟩
theorem St.addIm(T:St X W fr σ s){x:aC}{o:Obj}(ho:s.heap.get? x=some o)(hp:W.pr x=none)(hc:s6 W σ x)(hd: ¬X.Has x):W.le (W.addIm x o)/\St X (W.addIm x o) fr σ s:=by
 have le:W.le (W.addIm x o):=Wd.le_addIm fun o' e=>by have:=T.rel.im _ _ e;rw[ho]at this;exact(aH this).symm
 refine⟨le,T.rel.addIm ho hp (fun a c p e e'=>hc a c p e e'),T.fr.turn le (fun b o' e e' hb=> ?_) (fun c hc=>T.fr.apart c hc) (fun _ _ _ e=>e),T.sm⟩
 have e':(if b=x then some o else W.im b)=some o':=e'
 split at e'
 ·rename_i q;subst q;exact hd hb
 ·rw[e]at e';cases e'
theorem St.newAddr(T:St X W fr σ s){d:aC}(hd:s.heap.objs.size<=d):W.im d=none/\W.pr d=none/\s6 W σ d/\ ¬X.Has d:=
 ⟨T.rel.im_new hd,T.rel.pr_new hd,T.rel.cell_new hd,fun h=>absurd (T.fr.lt h) (ci.mpr hd)⟩
theorem aeZ{k1 k2:Int}{a b:ac}{x y:Str}{p p1 p2 p3 p4:Pos}{j1 j2 j3 j4:Nat}(hk:k1≠k2)(hx:aP a=x)(hy:aP b=y):
  b8 X k (bv (Hv [k1,k2]) (aw (ba (.str a)) (aw (ba (.str b)) aJ))) (.Dict [some (.Constant (.int k1) j1 p1),some (.Constant (.int k2) j2 p2)] [.Constant (.str x) j3 p3,.Constant (.str y) j4 p4] p):=fun A R W fr σ s T c ai e=>by
 apply s2 e
 refine wpAny_Dict_pairs (knd:=intKind X.C.prog X.C.w) (pairs:=[(eval (.Constant (.int k1) j1 p1) X.env,do let v <- eval (.Constant (.str x) j3 p3) X.env;standAt p;pure v),(eval (.Constant (.int k2) j2 p2) X.env,do let v <- eval (.Constant (.str y) j4 p4) X.env;standAt p;pure v)]) rfl (by simp) (by simp) ?_
 refine Kf (ra (aq (oL (aq (dA (aL ?_))))))
 refine Kf (ra (aq (oL (aq (dA (aL ?_))))))
 refine evalPairs_nil ?_
 refine⟨[(k1,.str x (s.toks+1)),(k2,.str y (s.toks+1+1+1))],⟨Ic _ _ _ _,rfl,Ic _ _ _ _,rfl,trivial⟩,⟨_,#[],0,bp _ rfl,⟨rfl,rfl,rfl⟩,rfl,fun _ he=>by simp at he,We,by simp⟩,fun h' hd hs=> ?_⟩
 obtain⟨n1,n2,n3,n4⟩:=T.newAddr (d:=s.heap.objs.size) (ax _)
 have bz:St X W fr σ {s with heap:=h',toks:=s.toks+1+1+1+1+[(Bv k1 s.toks,gq x (s.toks+1)),(Bv k2 (s.toks+1+1),gq y (s.toks+1+1+1))].length}:=
  T.other n1 n2 n3 n4 (fun b o hb e=>hs.extBut b o hb (bH _ e)) _
 obtain⟨o,ho,hd'⟩:=jr.mp hd
 obtain⟨le,cP⟩:=bz.addIm ho n2 n3 n4
 refine⟨_,le,cP,_,o,[.str x (s.toks+1),.str y (s.toks+1+1+1)],rfl,?_,ms,VL.cons ⟨_,by rw[hx]⟩ (VL.cons ⟨_,by rw[hy]⟩ VL.nil),rfl,?_⟩
 ·simpa using oQ T.rel.sys
 ·have:merged [] [(k1,gq x (s.toks+1)),(k2,gq y (s.toks+1+1+1))]=[(k1,gq x (s.toks+1)),(k2,gq y (s.toks+1+1+1))]:=by
   simp[merged,stored,hk]
  rw[this]at hd'
  exact hd'
end
end
end
section
open PySem.SeqAt
noncomputable section
section
variable{X:FX}{k:Nat}{W W':Wd}{fr:Fm}{σ ai:AS}{s s':az}{A:b7}{h h':bO}{C:PC}
theorem W2{op op':gW}{a b c:EM}{r:Bool}(e:Pb op op' a b c fr σ=some (r,ai)){P:Bool->AS->Prop}(k: ∀x ay y aM,a fr σ=some (x,ay)->b fr ay=some (y,aM)->(b5 op x y aM=some false->P false aM)/\ ∀z cN r,b5 op x y aM=some true->c fr aM=some (z,cN)->b5 op' y z cN=some r->P r cN):P r ai:=
 fR e fun x ay e1 e=>fR e fun y aM e2 e=>oE e fun t e3 e=>bE e (fun ht e=>fR e fun z cN e4 e=>oE e fun r' e5 e=>by apply s2 e;exact(k x ay y aM e1 e2).2 z cN r' (ht▸e3) e4 e5) fun ht e=>by apply s2 e;exact(k x ay y aM e1 e2).1 (ht▸e3)
theorem IR(hk:5<=k)(R:eN A k)(T:St X W fr σ s){op:gW}{a b:AV}{r:Bool}(e:b5 op a b σ=some r){v w:ah}(hv:V X.C W a v)(hw:V X.C W b w){Q:ah->az->Prop}
  (h: ∀bt bm,W.le bm->St X bm fr σ bt->Q (.bool r) bt):wpAny (dI X.C) A (compareOp op v w) Q dw s:=
 eC (zh hk R T e hv hw) fun u bt z=>z.elim fun bm l bz q=>q.boolE (h bt bm l bz)
theorem aeW{op op':gW}{m n o:EM}{a b c:an}{p:Pos}(hk:5<=k)(hm:b8 X k m a)(hn:b8 X k n b)(ho:b8 X k o c)(hb:lastMarks [op,op'] [b,c]=false):b8 X k (rW (Pb op op' m n o)) (.Compare a [op,op'] [b,c] p):=fun A R W fr σ s T v ai e=>by
 refine aaC e fun r ay q=> ?_
 apply W2 q;intro x ay y aM e1 e2
 refine⟨fun e3=> ?_,fun z cN r e3 e4 e5=> ?_⟩
 ·exact MH (hm.go R T e1 fun v bt bm bD bz eg=>chain_link (hn.go R bz e2 fun w dU cA dP cP j0=>IR hk R cP e3 (eg.mono dP) j0 fun jK xI gY jb=>fO ⟨xI,bD.trans (dP.trans gY),jb,rfl⟩)) hb
 ·exact MH (hm.go R T e1 fun v bt bm bD bz eg=>chain_link (hn.go R bz e2 fun w dU cA dP cP j0=>IR hk R cP e3 (eg.mono dP) j0 fun jK xI gY jb=>fO
   (chain_last (ho.go R jb e4 fun w' oG am5 Qe om aiL=>eC (zh hk R om e5 ((j0.mono gY).mono Qe) aiL) fun _ _ z=>z.le (bD.trans (dP.trans (gY.trans Qe))))))) hb
theorem aaY{op op':gW}{m n o:EM}{a b c:an}{p:Pos}(hk:5<=k)(hm:b8 X k m a)(hn:b8 X k n b)(ho:b8 X k o c)(hb:lastMarks [op,op'] [b,c]=false):nk X k (Pb op op' m n o) (.Compare a [op,op'] [b,c] p):=fun A R W fr σ s T v ai e=>by
 apply W2 e;intro x ay y aM e1 e2
 refine⟨fun e3=> ?_,fun z cN r e3 e4 e5=> ?_⟩
 ·exact Oi (hm.go R T e1 fun v bt bm bD bz eg=>test_link (hn.go R bz e2 fun w dU cA dP cP j0=>IR hk R cP e3 (eg.mono dP) j0 fun jK xI gY jb=>fO ⟨rfl,xI,bD.trans (dP.trans gY),jb⟩)) hb
 ·exact Oi (hm.go R T e1 fun v bt bm bD bz eg=>test_link (hn.go R bz e2 fun w dU cA dP cP j0=>IR hk R cP e3 (eg.mono dP) j0 fun jK xI gY jb=>fO
   (test_last (ho.go R jb e4 fun w' oG am5 Qe om aiL=>IR hk R om e5 ((j0.mono gY).mono Qe) aiL fun sI WS XV xH=>fO ⟨rfl,WS,bD.trans (dP.trans (gY.trans (Qe.trans XV))),xH⟩)))) hb
theorem Vi{W W':Wd}(h1:W'.ρ=W.ρ)(h2:W'.im=W.im):W.le0 W':=⟨fun a p e=>by rw[h1];exact e,fun x o e=>by rw[h2];exact e⟩
theorem VL.pr{W W':Wd}{l:aa}{vs:List ah}(q:VL C W l vs)(h1:W'.ρ=W.ρ)(h2:W'.im=W.im):VL C W' l vs:=q.mono0 (Vi h1 h2)
theorem V.pr{W W':Wd}{a:AV}{v:ah}(q:V C W a v)(h1:W'.ρ=W.ρ)(h2:W'.im=W.im):V C W' a v:=q.mono0 (Vi h1 h2)
theorem d4.pr{W W':Wd}{p:aC×aC}{c:bJ}(a2:d4 C W h p c)(h1:W'.ρ=W.ρ)(h2:W'.im=W.im):d4 C W' h p c:=d4.mono0 (Vi h1 h2) a2
open Classical in
def Wd.guard(W:Wd)(X:FX)(h:bO):Wd:={W with pr:=fun b=>if X.Has b then h.get? b else W.pr b}
theorem uq{b:aC}(hb:X.Has b):(W.guard X h).pr b=h.get? b:=if_pos hb
theorem kq{b:aC}(hb: ¬X.Has b):(W.guard X h).pr b=W.pr b:=if_neg hb
theorem St.guard(T:St X W fr σ s):cC X.C (W.guard X s.heap) σ s.heap:=by
 obtain⟨R,F,_⟩:=T
 refine⟨R.base,R.im,fun b o e=> ?_,fun b o e=> ?_,R.fresh,fun a c e=> ?_,R.inj⟩
 ·by_cases hb:X.Has b
  ·rw[uq hb]at e;exact e
  ·rw[kq hb]at e;exact R.pr _ _ e
 ·by_cases hb:X.Has b
  ·exact F.sep _ hb
  ·rw[kq hb]at e;exact R.dis _ _ e
 ·obtain⟨p,a1,a2,a3,a4⟩:=R.cell a c e
  refine⟨p,a1,?_,a3,?_⟩
  ·exact a2.pr rfl rfl
  ·rw[kq fun hb=>F.apart _ hb a c p e a1 rfl];exact a4
theorem St.back(T:St X W fr σ s){bm:Wd}(l:(W.guard X s.heap).le bm)(R:cC X.C bm ai s'.heap)(hs:Sm s s'):W.le {bm with pr:=W.pr}/\St X {bm with pr:=W.pr} fr ai s':=by
 have hpr:bm.pr=(W.guard X s.heap).pr:=l.2.2
 have le:W.le {bm with pr:=W.pr}:=⟨l.1,l.2.1,rfl⟩
 have kept: ∀c,X.Has c-> ∀o,s.heap.get? c=some o->s'.heap.get? c=some o:=fun c hc o e=>R.pr _ _ (by rw[hpr,uq hc];exact e)
 have nc: ∀c,X.Has c->s6 {bm with pr:=W.pr} ai c:=fun c hc a cc p e e' q=>by
  obtain⟨p',a1,a2,a3,a4⟩:=R.cell a cc e
  have e':bm.ρ a=some p:=e'
  rw[e']at a1;cases a1
  rw[q,hpr,uq hc]at a4
  obtain⟨o,z⟩:=T.fr.live c hc
  rw[z]at a4;cases a4
 refine⟨le,⟨R.base,R.im,fun b o e=> ?_,fun b o e=> ?_,R.fresh,fun a c e=> ?_,R.inj⟩,T.fr.turn le (fun b o e e' hb=> ?_) nc kept,T.sm.trans hs⟩
 ·have e:W.pr b=some o:=e
  by_cases hb:X.Has b
  ·exact kept b hb o (T.rel.pr _ _ e)
  ·exact R.pr _ _ (by rw[hpr,kq hb];exact e)
 ·have e:W.pr b=some o:=e
  show bm.im b=none
  by_cases hb:X.Has b
  ·obtain⟨o',z⟩:=T.fr.live b hb
   exact R.dis b o' (by rw[hpr,uq hb];exact z)
  ·exact R.dis b o (by rw[hpr,kq hb];exact e)
 ·obtain⟨p,a1,a2,a3,a4⟩:=R.cell a c e
  refine⟨p,a1,?_,a3,?_⟩
  ·exact a2.pr rfl rfl
  ·have hn: ¬X.Has p.2:=fun hc=>nc _ hc a c p e a1 rfl
   rw[hpr,kq hn]at a4;exact a4
 ·have e':bm.im b=some o:=e'
  obtain⟨o',z⟩:=T.fr.live b hb
  have:=R.dis b o' (by rw[hpr,uq hb];exact z)
  rw[this]at e';cases e'
theorem St.call(T:St X W fr σ s){kF:Nat}{f:ah}{F:aW}(hF:aF X.C kF f F)(R:eN A kF){args:aa}{vs:List ah}(hv:VL X.C W args vs){a:AV}(e:F args σ=some (a,ai)):
  wpAny (dI X.C) A (call f vs) (fP X W fr a ai) dw s:=
 eC (hF A R (W.guard X s.heap) σ s args vs T.guard (hv.pr rfl rfl) T.sm.pos a ai e) fun v s' ⟨hs,bm,l,R',q⟩=>by
  obtain⟨le,T'⟩:=T.back l R' hs
  exact⟨_,le,T',q.pr rfl rfl⟩
def oX(C:PC)(f:ah):Prop:= ∀h,C.K.In h-> ∃k,(k=Keeper.frame\/k=Keeper.machine\/k=Keeper.boundFrame)/\H6 (dI C) h (keeperOf f) k
theorem rn{C:PC}{f:ah}(h:keepIn C.K f=true):oX C f:=fun h' X=>keeps_K h h' X
theorem fu{C:PC}{id:String}:oX C (.builtin id):=fun _ _=>⟨.machine,.inr (.inl rfl),rH rfl⟩
theorem mv{C:PC}{id:String}:oX C (.type id):=fun _ _=>⟨.machine,.inr (.inl rfl),rH rfl⟩
theorem qM{es:List an}{env:Env}{pos:Pos}(hs:es.all (fun e=> !jf e)=true):(backTo pos (starEach es env)).any (·.1)=false:=by
 induction es with
 |nil=>rfl
 |cons e es ih=>
  simp only[rF,cL,d7]at hs
  rw[lV hs.1]
  show(false||(backTo pos (starEach es env)).any (·.1))=false
  rw[ih hs.2];rfl
theorem wI{M:lb}{E:ah->az->Prop}{f:ah}{es:List an}{env:Env}{pos:Pos}(hs:es.all (fun e=> !jf e)=true){Q:Args->az->Prop}
  (h:wpAny M A (spliced (backTo pos (starEach es env))) (fun vs s'=>Q ⟨vs,[]⟩ s') E s):wpAny M A (evalArgs f true (backTo pos (starEach es env)) []) Q E s:=by
 cases es with
 |nil=>
  unfold evalArgs
  show wpAny M A (spliced []>>=_) Q E s
  refine aq (jw h (fun vs s' h'=> ?_) fun _ _ x=>x)
  refine aq (aL ?_)
  refine dJ ?_
  exact aq (aL (aq (aL (aL h'))))
 |cons e es=>
  simp only[rF,cL,d7]at hs
  rw[lV hs.1]at h ⊢
  exact evalArgs_plain h
theorem FP{X:FX}{k kF:Nat}{W:Wd}{fr:Fm}{σ ay ai:AS}{s:az}(T:St X W fr σ s){f:ah}{F:aW}(hf:oX X.C f)(hF:aF X.C kF f F)(hk:kF<=k)(R:eN A k){n:LM}{es:List an}(hs:es.all (fun e=> !jf e)=true)(hn:Ag X k n es)
  {l:List AV}(e1:n fr σ=some (l,ay)){first:List ah}{fa:List AV}(h1:VL X.C W fa first){a:AV}(e2:F (fa++l) ay=some (a,ai))(pos:Pos):
  wpAny (dI X.C) A (callWith pos f first (backTo pos (starEach es X.env)) []) (fP X W fr a ai) dw s:=by
 refine Fx (P:=X.C.K.In) (by rw[qM hs];rfl) hf ?_
 refine wI hs (hn.go R T e1 pos fun vs bt bm bD bz eg=>⟨bz.rel.K,?_⟩)
 exact eC (bz.call hF (R.le hk) ((h1.mono bD).append eg) e2) fun _ _ z=>z.le bD
theorem aeV(O:vi X){kF:Nat}{fv:ah}{F:aW}{n:LM}{x:Str}{es:List an}{p p':Pos}(hx:X.env.kindOf x=some .globalImplicit)(hd:(x==("__debug__":Str))=false)(hg:np X.C x (.glob fv))(hf:oX X.C fv)(hF:aF X.C kF fv F)(hk:kF<=k)
  (hs:es.all (fun e=> !jf e)=true)(hn:Ag X k n es):b8 X k (bv F n) (.Call (.Name x p') es [] p):=fun A R W fr σ s T a ai e=>by
 refine aaE e fun l ay e1 e2=> ?_
 show wpAny _ _ (do callWith p (<- eval (.Name x p') X.env) [] (backTo p (starEach es X.env)) (backToKw p (keywordEach [] X.env))) _ _ _
 refine aq (yM O.kind hx (hg _ A dw X.env W σ s _ O.glob O.blt T.rel fun v q=> ?_) hd)
 cases q
 exact FP T hf hF hk R hs hn e1 VL.nil e2 p
def d6(C:PC)(k:Nat)(name:Str)(D:gR):Prop:= ∀W σ h a v F,cC C W σ h->V C W a v->D a σ=some F->
 ∃f,(∀A s pl E (Q:ah×List ah->az->Prop),s.heap=h->Q (f,[v]) s->wpAny (dI C) A (getMethod v name pl) Q E s)/\oX C f/\aF C k f F
theorem Ts{m:EM}{x:Str}{o:an}{es:List an}{ap p:Pos}(hb:td o=true)(hl:(ap.endLine==p.line)=true)(hfew:es.length<30)(hm:b8 X k m o)(hs:es.all (fun e=> !jf e)=true)
  (R:eN A k)(T:St X W fr σ s){wo:AV}{ay:AS}(e1:m fr σ=some (wo,ay)){Q:ah->az->Prop}
  (h: ∀v bt bm,W.le bm->St X bm fr ay bt->V X.C bm wo v-> ∃f,(∀A s pl E (Q:ah×List ah->az->Prop),s.heap=bt.heap->Q (f,[v]) s->wpAny (dI X.C) A (getMethod v x pl) Q E s)/\
   wpAny (dI X.C) A (callWith p f [v] (backTo p (starEach es X.env)) []) Q dw bt):wpAny (dI X.C) A (eval (.Call (.Attribute o x ap) es [] p) X.env) Q dw s:=by
 show wpAny _ _ (do
  let ov <- attributeBase o x X.env (eval o X.env)
  standAt ap.atName
  methodCall o x ap p X.env ov (es.length+([]:List tw).length) (backTo p (starEach es X.env)) (backToKw p (keywordEach [] X.env))) _ _ _
 refine aq (lZ hb (hm.go R T e1 fun v bt bm bD bz eg=>aq (dA ?_)))
 obtain⟨f,g1,g2⟩:=h v bt bm bD bz eg
 have hform:methodCallForm (es.length+([]:List tw).length) (backTo p (starEach es X.env)) (backToKw p (keywordEach [] X.env))=true:=by
  unfold methodCallForm
  have h1:(backTo p (starEach es X.env)).all (!·.1)=true:=by
   have:=qM (env:=X.env) (pos:=p) hs
   rw[bZ];rw[EW]at this
   intro y hy;simpa using this y hy
  rw[h1]
  have h2:(backToKw p (keywordEach [] X.env)).all (·.1.isSome)=true:=rfl
  rw[h2]
  simp;exact hfew
 unfold methodCall
 rw[hform]
 have hpos:methodCallPos true o X.env ap p=pure p:=by unfold methodCallPos;simp[hl]
 refine aq (dJ ?_)
 show wpAny _ _ (getMethod v x _) _ _ _
 refine g1 A bt _ dw _ rfl ?_
 show wpAny _ _ (do let callPos <- methodCallPos true o X.env ap p;callWith callPos f [v] (backTo p (starEach es X.env)) (backToKw p (keywordEach [] X.env))) _ _ _
 rw[hpos]
 exact aq (aL g2)
theorem ae2{kF:Nat}{D:gR}{m:EM}{n:LM}{x:Str}{o:an}{es:List an}{ap p:Pos}(hb:td o=true)(hl:(ap.endLine==p.line)=true)(hfew:es.length<30)(hm:b8 X k m o)(hD:d6 X.C kF x D)(hk:kF<=k)
  (hs:es.all (fun e=> !jf e)=true)(hn:Ag X k n es):b8 X k (cJ D m n) (.Call (.Attribute o x ap) es [] p):=fun A R W fr σ s T a ai e=>by
 refine fR e fun wo ay e1 e=>oE e fun F e2 e=>fR e fun l aM e3 e=>Ts hb hl hfew hm hs R T e1 fun v bt bm bD bz eg=> ?_
 obtain⟨f,g1,g2,g3⟩:=hD bm _ bt.heap wo v F bz.rel eg e2
 exact⟨f,g1,eC (FP bz g2 g3 hk R hs hn e3 (VL.one eg) e p) fun _ _ z=>z.le bD⟩
end
end
end
section
open PySem.SeqAt
noncomputable section
section
variable{X:FX}{k:Nat}{W W':Wd}{fr:Fm}{σ ai:AS}{s s':az}{A:b7}{h h':bO}{C:PC}
structure ig(X:FX)(W:Wd)(σ:AS)(I:aC):Prop where
 im:W.im I=none
 pr:W.pr I=none
 cell:s6 W σ I
 out: ¬X.Has I
theorem ig.new(T:St X W fr σ s){I:aC}(hI:s.heap.objs.size<=I):ig X W σ I:=
 ⟨T.rel.im_new hI,T.rel.pr_new hI,T.rel.cell_new hI,fun hc=>absurd (T.fr.lt hc) (ci.mpr hI)⟩
theorem St.but(T:St X W fr σ s){I:aC}(L:ig X W σ I)(hk: ∀b o,b≠I->s.heap.get? b=some o->h'.get? b=some o)(t:Nat)(ht:s.toks<=t:=by first|exact ax _|exact cR _|omega):St X W fr σ {s with heap:=h',toks:=t}:=
 ⟨T.rel.keepsBut L.im L.pr L.cell hk,T.fr.turn (.refl _) (fun b o e e'=>by rw[e]at e';cases e') (fun c hc=>T.fr.apart c hc) fun c hc o e=>hk _ _ (fun q=>L.out (q▸hc)) e,T.sm.mk' _ _ ht⟩
noncomputable def Wd.pin(W:Wd)(I:aC)(o:Obj):Wd:={W with pr:=fun b=>if b=I then some o else W.pr b}
theorem Jm{I:aC}{o:Obj}:(W.pin I o).pr I=some o:=if_pos rfl
theorem jB{I b:aC}{o:Obj}(hb:b≠I):(W.pin I o).pr b=W.pr b:=if_neg hb
theorem St.pin(T:St X W fr σ s){I:aC}(L:ig X W σ I){o:Obj}(ho:s.heap.get? I=some o):St X (W.pin I o) fr σ s:=by
 obtain⟨R,⟨⟨m,a,b⟩,c,d,xP,d',CD⟩,S⟩:=T
 refine⟨⟨R.base,R.im,fun b o' e=> ?_,fun b o' e=> ?_,R.fresh,fun a c e=> ?_,R.inj⟩,⟨⟨m,a,fun i x e=>(b i x e).imp id fun f y p=>let⟨v,q,r⟩:=f y p;⟨v,q,r.pr rfl rfl⟩⟩,c,d,xP,fun c hc=> ?_,CD⟩,S⟩
 ·by_cases q:b=I
  ·subst q;rw[Jm]at e;cases e;exact ho
  ·rw[jB q]at e;exact R.pr _ _ e
 ·by_cases q:b=I
  ·subst q;exact L.im
  ·rw[jB q]at e;exact R.dis _ _ e
 ·refine ui (R.cell a c e) fun p a1 a2 a3 a4=> ?_
  exact⟨p,a1,a2.pr rfl rfl,a3,by rw[jB (L.cell a c p e a1)];exact a4⟩
 ·rw[jB fun q=>L.out (by rw[<- q];exact .inr (.inr hc))];exact d' c hc
theorem St.unpin{bm:Wd}{fr':Fm}{I:aC}{o:Obj}(l:(W.pin I o).le bm)(L:ig X W σ I)(T:St X bm fr' ai s'):
  W.le {bm with pr:=W.pr}/\St X {bm with pr:=W.pr} fr' ai s'/\s'.heap.get? I=some o/\ig X {bm with pr:=W.pr} ai I:=by
 have hpr:bm.pr=(W.pin I o).pr:=l.2.2
 have hI:bm.pr I=some o:=by rw[hpr,Jm]
 obtain⟨R,⟨⟨m,a,b⟩,c,d,xP,d',CD⟩,S⟩:=T
 have nc:s6 bm ai I:=fun a cc p e e' q=>by
  refine ui (R.cell a cc e) fun p' a1 a2 a3 a4=> ?_
  rw[e']at a1;cases a1
  rw[q,hI]at a4;cases a4
 refine⟨⟨l.1,l.2.1,rfl⟩,⟨⟨R.base,R.im,fun b o' e=> ?_,fun b o' e=> ?_,R.fresh,fun a c e=> ?_,R.inj⟩,⟨⟨m,a,fun i x e=>(b i x e).imp id fun f y p=>let⟨v,q,r⟩:=f y p;⟨v,q,r.pr rfl rfl⟩⟩,c,d,xP,fun c hc=> ?_,CD⟩,S⟩,
  R.pr _ _ hI,⟨R.dis _ _ hI,L.pr,nc,L.out⟩⟩
 ·have e:W.pr b=some o':=e
  exact R.pr _ _ (by rw[hpr,jB (fun q=>by rw[q,L.pr]at e;cases e)];exact e)
 ·have e:W.pr b=some o':=e
  exact R.dis b o' (by rw[hpr,jB (fun q=>by rw[q,L.pr]at e;cases e)];exact e)
 ·refine ui (R.cell a c e) fun p a1 a2 a3 a4=> ?_
  refine⟨p,a1,a2.pr rfl rfl,a3,?_⟩
  rw[hpr,jB (nc a c p e a1)]at a4;exact a4
 ·have:=d' c hc
  rw[hpr,jB fun q=>L.out (by rw[<- q];exact .inr (.inr hc))]at this;exact this
structure xo(X:FX)(W:Wd)(σ:AS)(I:aC)(l:List AV)(h:bO)(S:Nat->bO->Prop)(fp:List aC)(P:Nat->ah->Prop):Prop where
 walks: ∀A',A'.handled=none->Walks X.C.prog X.C.w A' I fp [I] l.length P S
 st:S 0 h
 fp: ∀b∈fp,b=I\/ ∃o,W.im b=some o
 val: ∀i v,i<l.length->P i v-> ∃a,l[i]? =some a/\V X.C W a v
 obj: ∀i h,S i h-> ∃o n,h.get? I=some o/\o.cls= .type n/\(["enumerate","zip","dict_itemiterator","dict_reverseitemiterator","odict_iterator","itertools.zip_longest","itertools.pairwise"].contains n)=false
theorem xo.mono{I:aC}{l:aa}{S:Nat->bO->Prop}{fp:List aC}{P:Nat->ah->Prop}(q:xo X W σ I l h S fp P)(le:W.le W'):xo X W' σ I l h S fp P:=
 ⟨q.walks,q.st,fun b hb=>(q.fp b hb).imp id fun⟨o,e⟩=>⟨o,le.2.1 _ _ e⟩,fun i v hi p=>let⟨a,e,r⟩:=q.val i v hi p;⟨a,e,r.mono le⟩,q.obj⟩
theorem VL.ith{W:Wd}{l:aa}{vs:List ah}(q:VL C W l vs){i:Nat}{v:ah}(e:vs[i]? =some v): ∃a,l[i]? =some a/\V C W a v:=by
 have hl:i<l.length:=by
  rw[<- q.length]
  exact(cU.mp e).1
 refine eX (q.get (show l[i]? =some l[i] from fb hl)) fun v' e' r=> ?_
 rw[e]at e';cases e'
 exact⟨_,fb hl,r⟩
def mi(X:FX)(W:Wd)(fr:Fm)(σ:AS)(l:aa)(it:ah)(s':az):Prop:=
 ∃I W' S fp P,it= .ref I/\W.le W'/\St X W' fr σ s'/\ig X W' σ I/\xo X W' σ I l s'.heap S fp P
theorem EI(T:St X W fr σ s)(o:Obj):ig X W σ s.heap.objs.size/\St X W fr σ {s with heap:=s.heap.push o}:=
 ⟨ig.new T (ax _),T.keeps (eu _ _) s.toks⟩
theorem Td(T:St X W fr σ s){x n:Nat}{vs:List ah}{l:aa}(hx:W.im x=some (dC vs n))(q:VL X.C W l vs):wpAny (dI X.C) A (pyIter (.ref x)) (mi X W fr σ l) dw s:=by
 have hg:=T.rel.im _ _ hx
 refine wpAny_pyIter_list (lO hg) ?_
 obtain⟨L,T'⟩:=EI T {cls:=.type "list_iterator",data:=.fields #[.ref x,.int 0 0]}
 have ne:x≠s.heap.objs.size:=ct (cv hg)
 have hl:vs.toArray.size=l.length:=by rw[aZ,q.length]
 refine⟨_,W,_,[s.heap.objs.size,x],_,rfl,.refl _,T',L,⟨fun A' hA=>hl▸Walks.list hA _ x ne vs.toArray,⟨⟨_,bp _ rfl,rfl,rfl⟩,lO (eu _ _ _ _ hg)⟩,fun b hb=> ?_,fun i v _ e=> ?_,fun _ _ st=>let⟨o,e1,e2,_⟩:=st.1;⟨o,_,e1,e2,by decide⟩⟩⟩
 ·simp at hb;exact hb.imp id fun e=>⟨_,e▸hx⟩
 ·exact q.ith (by simpa using e)
theorem ad3(T:St X W fr σ s){x n:Nat}{vs:List ah}{l:aa}(hx:W.im x=some (tu vs n))(q:VL X.C W l vs):wpAny (dI X.C) A (pyIter (.ref x)) (mi X W fr σ l) dw s:=by
 have hg:=T.rel.im _ _ hx
 have ht:s.heap.IsTuple x vs.toArray:=⟨_,hg,rfl,n,rfl⟩
 refine wpAny_pyIter_tuple ht ?_
 obtain⟨L,T'⟩:=EI T {cls:=.type "tuple_iterator",data:=.fields #[.ref x,.int 0 0]}
 have ne:x≠s.heap.objs.size:=ct (cv hg)
 have hl:vs.toArray.size=l.length:=by rw[aZ,q.length]
 refine⟨_,W,_,[s.heap.objs.size,x],_,rfl,.refl _,T',L,⟨fun A' hA=>hl▸Walks.tuple hA _ x ne vs.toArray,⟨⟨_,bp _ rfl,rfl,rfl⟩,ht.push _⟩,fun b hb=> ?_,fun i v _ e=> ?_,fun _ _ st=>let⟨o,e1,e2,_⟩:=st.1;⟨o,_,e1,e2,by decide⟩⟩⟩
 ·simp at hb;exact hb.imp id fun e=>⟨_,e▸hx⟩
 ·exact q.ith (by simpa using e)
theorem ah0{a:AV}{l:aa}(e:fE σ a=some (l,ai)){P:Prop}(k:ahZ σ a=some (l,ai)->l.length<=4000000->P):P:=fR e fun l' ay q e=>kS e fun z e=>by
 cases e;exact k q (jP z)
@[elab_as_elim] theorem mi.elim {l:aa} {it:ah} {Q:ah->Prop} (h:mi X W fr σ l it s) (k: ∀I W' S fp P,W.le W'->St X W' fr σ s->ig X W' σ I->xo X W' σ I l s.heap S fp P->Q (.ref I)):Q it:=by
 obtain⟨I,W',S,fp,P,rfl,h1,h2,h3,h4⟩:=h;exact k I W' S fp P h1 h2 h3 h4
theorem St.freezeL(T:St X W fr σ s){a:Nat}{l:aa}(hg:σ.get a=some (.lst l)): ∃x vs n,W.ρ a=some (x,x)/\W.le (W.addIm x (dC vs n))/\St X (W.addIm x (dC vs n)) fr (σ.drop a) s/\VL X.C (W.addIm x (dC vs n)) l vs:=by
 obtain⟨⟨x,y⟩,a1,⟨a2,vs,n,b,r⟩,a3,a4⟩:=T.rel.cell _ _ hg
 obtain rfl:x=y:=a2
 have R:=T.rel.freeze hg a1 b
 have le:W.le (W.addIm x (dC vs n)):=Wd.le_addIm fun o' e=>by have:=T.rel.im _ _ e;rw[b]at this;exact(aH this).symm
 refine⟨x,vs,n,a1,le,⟨R,T.fr.turn le (fun b' o' e e' hb=> ?_) (fun c hc b' cb p e e'=> ?_) fun c _ o e=>e,T.sm⟩,r.mono le⟩
 ·have e':(if b'=x then some (dC vs n)else W.im b')=some o':=e'
  by_cases q:b'=x
  ·exact T.fr.apart _ hb a _ _ hg a1 q.symm
  ·rw[if_neg q,e]at e';cases e'
 ·rw[AS.get_drop]at e
  split at e
  ·cases e
  ·exact T.fr.apart c hc b' cb p e e'
theorem Yr{a b:Nat}(ha:a<2^20)(hb:b<2^20):Bb (a:Int) (b:Int) 1=true/\mI (a:Int) (b:Int) 1=(b-a:Nat):=by
 have h1:mI (a:Int) (b:Int) 1=(b-a:Nat):=by
  unfold mI
  simp
  omega
 refine⟨?_,h1⟩
 unfold Bb
 rw[h1]
 unfold Lz
 simp
 omega
theorem strKind_is{key:Str}{v:ah}(e:(rI C.prog C.w).is key v=true): ∃t,v= .str key t:=by
 exact Value.isStrOf_shape e
theorem aak{M:dZ}{p:fY}{E:ah->az->Prop}{x:Str}{t:Tok}{Q:ah->az->Prop}
  (hQ: ∀(o:Obj) (S:Nat->bO->Prop),(∀A':b7,A'.handled=none->Walks p M A' s.heap.objs.size [s.heap.objs.size] [s.heap.objs.size] x.cps.size (SignAt x) S)->S 0 (s.heap.push o)->
   (∀i h,S i h-> ∃o n,h.get? s.heap.objs.size=some o/\o.cls= .type n/\(["enumerate","zip","dict_itemiterator","dict_reverseitemiterator","odict_iterator","itertools.zip_longest","itertools.pairwise"].contains n)=false)->
   Q (.ref s.heap.objs.size) {s with heap:=s.heap.push o}):wpAny (model p M) A (pyIter (.str x t)) Q E s:=by
 cases ha:x.cps.all (· <128)
 ·exact wpAny_pyIter_wide ha (hQ _ _ (fun A' hA=>Walks.strWide hA _ x t) ⟨_,bp _ rfl,rfl,rfl⟩ fun _ _ st=>let⟨o,e1,e2,_⟩:=st;⟨o,_,e1,e2,by decide⟩)
 ·exact wpAny_pyIter_ascii ha (hQ _ _ (fun A' hA=>Walks.strAscii hA _ x t) ⟨_,bp _ rfl,rfl,rfl⟩ fun _ _ st=>let⟨o,e1,e2,_⟩:=st;⟨o,_,e1,e2,by decide⟩)
theorem aek{n i:Nat}(hi:i<n):(cB n)[i]? =some i:=by rw[List.getElem?_range hi]
theorem aal(T:St X W fr σ s){ss:ac}(t:Tok):wpAny (dI X.C) A (pyIter (.str (aP ss) t)) (mi X W fr σ (ss.map fun c=>.str [c])) dw s:=by
 refine aak fun o S hW hS hO=> ?_
 obtain⟨L,T'⟩:=EI T o
 have hl:(aP ss).cps.size=(ss.map fun c=>AV.str [c]).length:=by rw[aS];rfl
 refine⟨_,W,_,[s.heap.objs.size],_,rfl,.refl _,T',L,⟨fun A' hA=>hl▸hW A' hA,hS,fun b hb=>.inl (aO.mp hb),fun i v _ ⟨c,u,e,ev⟩=> ?_,hO⟩⟩
 subst ev
 have e:ss.toArray[i]? =some c:=e
 rw[jT]at e
 exact⟨.str [c],by rw[jM,e];rfl,u,rfl⟩
theorem ad1(T:St X W fr σ s){x:aC}{o:Obj}{ks:List (List Nat)}{ws:List ah}(h0:(x==sysModules)=false)(h1:W.im x=some o)(h3:Em X.C ks ws o):wpAny (dI X.C) A (pyIter (.ref x)) (mi X W fr σ (ks.map .str)) dw s:=by
 obtain⟨h3,es,ep,hd⟩:=h3
 have hg:=T.rel.im _ _ h1
 have hd':s.heap.DictAt (strKind X.C.prog X.C.w) x ((ks.map aP).zip ws) ep:=⟨o,es,hg,hd⟩
 refine Fh h0 hd' ?_
 have hz:((ks.map aP).zip ws).length=(ks.map AV.str).length:=by simp[h3]
 obtain⟨L,T'⟩:=EI T {cls:=.type "dict_keyiterator",data:=.fields #[.ref x,.int 0 0,.int ((ks.map aP).zip ws).length 0,.int ep 0]}
 have ne:x≠s.heap.objs.size:=ct (cv hg)
 refine⟨_,W,_,[s.heap.objs.size,x],_,rfl,.refl _,T',L,⟨fun A' hA=>hz▸Ke hA _ x ne _ ep,⟨⟨_,bp _ rfl,rfl,by rw[hz];rfl⟩,hd'.at' fun o e=>eu _ _ _ _ e⟩,fun b hb=> ?_,fun i v _ ⟨key,y,e,hk⟩=> ?_,fun _ _ st=>let⟨o,e1,e2,_⟩:=st.1;⟨o,_,e1,e2,by decide⟩⟩⟩
 ·rcases aG.mp hb with hb|hb
  ·exact .inl hb
  ·exact .inr ⟨_,aO.mp hb▸h1⟩
 ·obtain⟨t,rfl⟩:=strKind_is hk
  rw[sV,jM]at e
  refine eX (hY.mp e.1) fun kk e1 e2=> ?_
  exact⟨.str kk,by rw[jM,e1];rfl,t,by rw[e2]⟩
theorem XM(T:St X W fr σ s){b:List UInt8}(t:Tok):wpAny (dI X.C) A (pyIter (.bytes b.toArray t)) (mi X W fr σ (b.map fun x=>.int (am x.toNat))) dw s:=by
 refine KBw.pyIter_bytes ?_
 obtain⟨L,T'⟩:=EI T {cls:=.type "bytes_iterator",data:=.fields #[.bytes b.toArray t,.int 0 0]}
 have hl:b.toArray.size=(b.map fun x=>AV.int (am x.toNat)).length:=by rw[aS];rfl
 refine⟨_,W,_,[s.heap.objs.size],_,rfl,.refl _,T',L,⟨fun A' hA=>hl▸KBw.walks hA _ b.toArray t,⟨_,bp _ rfl,rfl,rfl⟩,fun b hb=>.inl (aO.mp hb),fun i v _ ⟨c,u,e,ev⟩=> ?_,fun _ _ st=>let⟨o,e1,e2,_⟩:=st;⟨o,_,e1,e2,by decide⟩⟩⟩
 subst ev
 rw[jT]at e
 exact⟨.int (am c.toNat),by rw[jM,e];rfl,u,rfl⟩
theorem ad2(T:St X W fr σ s){a b:Nat}{x:aC}{t u w:Tok}(h1:W.im x=some {cls:=.type "range",dict:=none,data:=.fields #[.int a t,.int b u,.int 1 w],slots:= #[]})(h2:a<2^20)(h3:b<2^20):wpAny (dI X.C) A (pyIter (.ref x)) (mi X W fr σ ((cB (b-a)).map fun i=>.int (am (a+i)))) dw s:=by
 have hg:=T.rel.im _ _ h1
 obtain⟨r1,r2⟩:=Yr h2 h3
 refine wpAny_pyIter_range hg r1 ?_
 rw[r2]
 obtain⟨L,T'⟩:=EI T {cls:=.type "range_iterator",data:=.fields #[rawInt a,rawInt (b-a:Nat),rawInt 1]}
 have hl:((cB (b-a)).map fun i=>AV.int (am (a+i))).length=b-a:=by rw[aS,EY]
 refine⟨_,W,_,[s.heap.objs.size],_,rfl,.refl _,T',L,⟨fun A' hA=>by have:=Walks.range (prog:=X.C.prog) (w:=X.C.w) hA s.heap.objs.size a 1 (b-a);rw[hl];exact this,?_,fun b hb=>.inl (aO.mp hb),?_,fun _ _ st=>⟨_,_,st,rfl,by decide⟩⟩⟩
 ·show IsRangeIter _ _ _ _ _
  have:IsRangeIter (s.heap.push {cls:=.type "range_iterator",data:=.fields #[rawInt a,rawInt (b-a:Nat),rawInt 1]}) s.heap.objs.size a (b-a:Nat) 1:=bp _ rfl
  simpa using this
 ·rintro i v hi ⟨u,rfl⟩
  rw[hl]at hi
  exact⟨.int (a+i:Nat),by rw[jM,aek hi];rfl,u,by simp⟩
theorem vV(T:St X W fr σ s){a:AV}{l:aa}(e:fE σ a=some (l,ai)){v:ah}(hv:V X.C W a v):wpAny (dI X.C) A (pyIter v) (mi X W fr ai l) dw s:=ah0 e fun e _=>by
 revert hv
 cases a<;>intro hv<;>first|exact nn e|skip
 ·apply s2 e;exact hv.strE fun t=>aal T t
 ·apply s2 e;exact hv.bytesE fun t=>XM T t
 ·apply s2 e;exact hv.tupE fun x n vs q r=>ad3 T q r
 ·apply s2 e;exact hv.lstE fun x n vs q r=>Td T q r
 ·apply s2 e;exact hv.dctE fun x o vs q0 q1 _ q3=>ad1 T q0 q1 q3
 ·apply s2 e;exact hv.rngE fun x t u w h1 h2 h3=>ad2 T h1 h2 h3
 ·refine lstE e fun l' hg e=> ?_
  apply s2 e
  refine Xq (T.freezeL hg) fun x vs n hr le T' q=> ?_
  obtain⟨p,e1,rfl⟩:=hv
  rw[hr]at e1;cases e1
  exact eC (Td T' ms q) fun it s' z=>z.elim fun I W' S fp P l1 h2 h3 h4=>⟨I,W',S,fp,P,rfl,le.trans l1,h2,h3,h4⟩
end
end
end
section
open PySem.SeqAt
noncomputable section
section
variable{X:FX}{k:Nat}{W W':Wd}{fr fr':Fm}{σ ai:AS}{s s':az}{A:b7}{h h':bO}{C:PC}
theorem x8: ∀(fr:Fm) (i:Nat) (a:AV) (j:Nat) (b:AV),(put fr i a)[j]? =some b->(j=i/\b=a)\/(j≠i/\(fr[j]? =some b\/b= .unb)):=by
 have up: ∀{i j:Nat} {P Q Q':Prop},(Q->Q')->((j=i/\P)\/(j≠i/\Q))->((j+1=i+1/\P)\/(j+1≠i+1/\Q')):=fun f h=>h.imp (fun h=>⟨congrArg _ h.1,h.2⟩) fun h=>⟨fun q=>h.1 (jV q),f h.2⟩
 have nl: ∀(i:Nat) (a:AV) (j:Nat) (b:AV),(put [] i a)[j]? =some b->(j=i/\b=a)\/(j≠i/\(([]:Fm)[j]? =some b\/b= .unb)):=by
  intro i
  induction i with
  |zero=>intro a j b e;cases j with
   |zero=>cases e;exact .inl ⟨rfl,rfl⟩
   |succ j=>cases e
  |succ i ih=>intro a j b e;cases j with
   |zero=>cases e;exact .inr ⟨dS,.inr rfl⟩
   |succ j=>exact up (fun h=>h) (ih a j b e)
 intro fr
 induction fr with
 |nil=>exact nl
 |cons x r ih=>
  intro i a j b e
  cases i with
  |zero=>cases j with
   |zero=>cases e;exact .inl ⟨rfl,rfl⟩
   |succ j=>exact .inr ⟨dS,.inl e⟩
  |succ i=>cases j with
   |zero=>exact .inr ⟨dS,.inl e⟩
   |succ j=>exact up (fun h=>h) (ih i a j b e)
theorem qv: ∀(fr:Fm) {i j:Nat} (a b:AV),i≠j->put (put fr i a) j b=put (put fr j b) i a:=by
 have nl: ∀(i j:Nat) (a b:AV),i≠j->put (put [] i a) j b=put (put [] j b) i a:=by
  intro i
  induction i with
  |zero=>intro j a b h;cases j with
   |zero=>exact absurd rfl h
   |succ j=>rfl
  |succ i ih=>intro j a b h;cases j with
   |zero=>rfl
   |succ j=>exact congrArg (AV.unb:: ·) (ih j a b fun q=>h (congrArg _ q))
 intro fr
 induction fr with
 |nil=>intro i j a b h;exact nl i j a b h
 |cons x r ih=>
  intro i j a b h
  cases i with
  |zero=>cases j with
   |zero=>exact absurd rfl h
   |succ j=>rfl
  |succ i=>cases j with
   |zero=>rfl
   |succ j=>exact congrArg (x:: ·) (ih a b fun q=>h (congrArg _ q))
structure G7(X:FX):Prop where
 uniq: ∀(i j:Nat) x,X.names i=some x->X.names j=some x->i=j
 inter:interactive X.env=false
theorem dM{α β:Type}[BEq α][LawfulBEq α]{n:α}{c:β}: ∀{l:List (α×β)},l.lookup n=some c->(n,c)∈l
 |(m,d)::r,e=>by
  rw[cD]at e
  split at e
  ·rename_i q;cases e;rw[beq_iff_eq.mp q];exact bf
  ·exact aQ _ (dM e)
theorem Jl{l:List (Str×aC)}(h:l.Pairwise fun x y=>x.2≠y.2){n n':Str}{c:aC}(e:(n,c)∈l)(e':(n',c)∈l):n=n':=by
 induction l with
 |nil=>cases e
 |cons p r ih=>
  rw[js]at h
  rcases aG.mp e with q|q<;>rcases aG.mp e' with q'|q'
  ·rw[<- q]at q';exact(cK q').1.symm
  ·exact absurd (by rw[<- q]) (h.1 _ q')
  ·exact absurd (by rw[<- q']) (h.1 _ q)
  ·exact ih h.2 q q'
theorem pT.put(F:pT X W fr σ h)(O':G7 X){i:Nat}{x:Str}(hx:X.names i=some x){a:AV}{v:ah}(hv:V X.C W a v){m':Str->Option ah}(hn:h'.Ns X.env.locals m')(hnew:jc X h' m' x v)
  (hold: ∀m,h.Ns X.env.locals m-> ∀z u,z≠x->jc X h m z u->jc X h' m' z u)(cells: ∀n c,X.env.cells.lookup n=some c-> ∃v,h'.IsCell c v)(live: ∀c,X.Has c-> ∃o,h'.get? c=some o):pT X W (put fr i a) σ h':=by
 obtain⟨⟨m,h1,b⟩,_,d,xP,d',_⟩:=F
 refine⟨⟨m',hn,fun j y e=> ?_⟩,cells,d,xP,d',live⟩
 rcases x8 fr i a j y e with⟨rfl,rfl⟩|⟨hj,e|e⟩
 ·refine .inr fun z p=> ?_
  rw[hx]at p;cases p
  exact⟨v,hnew,hv⟩
 ·refine(b j y e).imp id fun f z p=> ?_
  refine eX (f z p) fun u q r=> ?_
  exact⟨u,hold m h1 z u (fun q=>hj (O'.uniq _ _ _ (q▸p) hx)) q,r⟩
 ·exact .inl e
theorem ait{h:bO}{a:aC}{m m':Str->Option ah}(x:h.Ns a m)(y:h.Ns a m'):m=m':=by
 refine Xq (x) fun o es ep h1 h2 _ h4=> ?_
 refine Xq (y) fun o' es' ep' g1 g2 _ g4=> ?_
 rw[h1]at g1;cases g1
 rw[h2]at g2;cases g2
 funext n;rw[<- h4,<- g4]
theorem jc.turn{m m':Str->Option ah}{z:Str}{u:ah}(q:jc X h m z u)(hl:X.env.kindOf z=some .local->m z=some u->m' z=some u)(hc: ∀c,X.env.cells.lookup z=some c->h.IsCell c (some u)->h'.IsCell c (some u)):jc X h' m' z u:=by
 unfold jc at q ⊢
 revert q hl
 cases X.env.kindOf z with
 |none=>exact fun q _=>q.elim
 |some kd=>
  cases kd with
  |«local»=>exact fun q hl=>hl rfl q
  |cell=>exact fun⟨c,q1,q2⟩ _=>⟨c,q1,hc c q1 q2⟩
  |free=>exact fun⟨c,q1,q2⟩ _=>⟨c,q1,hc c q1 q2⟩
  |_=>exact fun q _=>q.elim
theorem St.store(O:vi X)(O':G7 X)(T:St X W fr σ s){i:Nat}{x:Str}(hx:X.names i=some x)(hk:X.env.kindOf x=some .local\/(X.env.kindOf x=some .cell/\ ∃c,X.env.cells.lookup x=some c/\c∈X.own)){a:AV}{v:ah}(hv:V X.C W a v):
  wpAny (dI X.C) A (storeName X.env x v) (fun _ s'=>St X W (put fr i a) σ s') dw s:=by
 obtain⟨R,F,S⟩:=T
 refine eX (F.vars) fun m hn _=> ?_
 rcases hk with hl|⟨hc,cx,hcx,own⟩
 ·refine wpAny_storeName_local hl hn (fun h' hn' hs=> ?_) (by rw[O.kind];rfl)
  have hb: ∀b o,b≠X.env.locals->s.heap.get? b=some o->h'.get? b=some o:=fun b o q e=>hs.extBut b o q e
  have keepC: ∀c n w,X.env.cells.lookup n=some c->s.heap.IsCell c w->h'.IsCell c w:=fun c n w e ⟨o,p,q⟩=>⟨o,hb _ _ (O.notL n c e) p,q⟩
  refine⟨R.keepsBut (F.sep _ (.inl rfl)) (F.own _ O.loc) (fun a cc p e e'=>F.apart _ (.inl rfl) a cc p e e') hb,F.put O' hx hv hn' (by unfold jc;rw[hl];exact if_pos rfl) (fun aii PO z u hz q=> ?_) (fun n c' e=>let⟨v,z⟩:=F.cells n c' e;⟨v,keepC _ _ _ e z⟩) fun c' hc'=> ?_,S.mk' _ _ (by first|exact ax _|exact cR _|(dsimp only;omega))⟩
  ·rw[ait PO hn]at q
   exact q.turn (fun _ e=>(if_neg hz).trans e) fun c e q=>keepC c z _ e q
  ·by_cases q:c'=X.env.locals
   ·obtain⟨o,_,_,z,_⟩:=hn';exact⟨o,by rw[q];exact z⟩
   ·obtain⟨o,z⟩:=F.live c' hc';exact⟨o,hb _ _ q z⟩
 ·obtain⟨wo,hcv⟩:=F.cells x cx hcx
  refine wpAny_storeName_cell O.kind hc hcx hcv fun h' hn' hs=> ?_
  have hb: ∀b o,b≠cx->s.heap.get? b=some o->h'.get? b=some o:=fun b o q e=>hs.extBut b o q e
  have keepC: ∀c n w,X.env.cells.lookup n=some c->n≠x->s.heap.IsCell c w->h'.IsCell c w:=fun c n w e hne ⟨o,p,q⟩=>⟨o,hb _ _ (fun q=>by subst q;exact hne (Jl O.apart (dM e) (dM hcx))) p,q⟩
  have has:X.Has cx:=.inr (.inr own)
  refine⟨R.keepsBut (F.sep _ has) (F.own _ own) (fun a cc p e e'=>F.apart _ has a cc p e e') hb,F.put O' hx hv (hn.at' fun o e=>hb _ _ (tx (O.notL x cx hcx)) e) (by unfold jc;rw[hc];exact⟨cx,hcx,hn'⟩) (fun aii PO z u hz q=> ?_) (fun n c' e=> ?_) fun c' hc'=> ?_,S.trans ⟨_,_,rfl,ax _⟩⟩
  ·rw[ait PO hn]at q
   exact q.turn (fun _ e=>e) fun c e q=>keepC c z _ e hz q
  ·by_cases q:n=x
   ·subst q;rw[hcx]at e;cases e;exact⟨_,hn'⟩
   ·obtain⟨v,z⟩:=F.cells n c' e;exact⟨v,keepC _ _ _ e q z⟩
  ·by_cases q:c'=cx
   ·obtain⟨o,z,_⟩:=hn';exact⟨o,by rw[q];exact z⟩
   ·obtain⟨o,z⟩:=F.live c' hc';exact⟨o,hb _ _ q z⟩
def Sz(X:FX)(is:ac)(t:an):Prop:=
 ∀A,A.handled=none-> ∀W fr σ s,St X W fr σ s-> ∀a v,V X.C W a v-> ∀fr',mo is a fr σ=some fr'->wpAny (dI X.C) A (assign t X.env v) (fun _ s'=>St X W fr' σ s') dw s
def kj(X:FX)(i:Nat)(x:Str):Prop:=X.names i=some x/\(X.env.kindOf x=some .local\/(X.env.kindOf x=some .cell/\ ∃c,X.env.cells.lookup x=some c/\c∈X.own))
theorem HL(O:vi X)(O':G7 X){i:Nat}{x:Str}{p:Pos}(hx:kj X i x):Sz X [i] (.Name x p):=fun A _ W fr σ s T a v hv fr' e=>by
 apply s1 e
 exact lA (T.store O O' hx.1 hx.2 hv)
inductive qj(X:FX):List Nat->List an->Prop where
 |nil:qj X [] []
 |cons {i x p is ts} (h:kj X i x) (r:qj X is ts):qj X (i::is) (.Name x p::ts)
theorem qj.len{is:ac}{ts:List an}(N:qj X is ts):is.length=ts.length:=by induction N<;>simp_all
theorem qj.each{is:ac}{ts:List an}(N:qj X is ts){env:Env}:(assignEach ts env).findIdx? (·.1)=none/\(assignEach ts env).length=ts.length/\(assignEach ts env).all (fun p=> !p.1)=true:=by
 induction N with
 |nil=>exact⟨rfl,rfl,rfl⟩
 |cons h r ih=>
  rename_i i x p is ts
  have e:assignEach (.Name x p::ts) env=(false,assign (.Name x p) env)::assignEach ts env:=rfl
  rw[e]
  refine⟨?_,by simp[ih.2.1],by simpa using ih.2.2⟩
  rw[List.findIdx?_cons];simp[ih.1]
theorem qj.order(O:vi X)(O':G7 X){is:ac}{ts:List an}(N:qj X is ts): ∀{W fr σ s},St X W fr σ s-> ∀{l vs},VL X.C W l vs-> ∀{fr'},vO is l fr=some fr'->
  wpAny (dI X.C) A (assignInOrder ((assignEach ts X.env).map (·.2)) vs) (fun _ s'=>St X W fr' σ s') dw s:=by
 induction N with
 |nil=>
  intro W fr σ s T l vs q fr' e
  cases l with
  |nil=>cases e;rw[show vs=[] from q];exact aL T
  |cons=>cases e
 |cons h r ih=>
  intro W fr σ s T l vs q fr' e
  cases l with
  |nil=>cases e
  |cons a l=>
   obtain⟨v,vs,rfl,q,q'⟩:=q
   rename_i i x p is ts
   refine fh (eC (lA (T.store O O' h.1 h.2 q)) fun _ s' T'=>ih T' q' e)
theorem L5: ∀{is:ac} {l:aa} {fr fr':Fm},vO is l fr=some fr'->is.length=l.length
 |[],[],_,_,_=>rfl
 |i::is,a::l,fr,fr',e=>congrArg nP (L5 (is:=is) (l:=l) (fr:=put fr i a) (fr':=fr') e)
 |[],_::_,_,_,e=>by cases e
 |_::_,[],_,_,e=>by cases e
@[elab_as_elim] theorem KF {i j:Nat} {is:ac} {a:AV} {fr fr':Fm} {Q:AV->Prop} (e:mo (i::j::is) a fr σ=some fr') (k: ∀l,vO (i::j::is) l fr=some fr'->Q (.tup l)):Q a:=NG (show G8 a (fun l=>vO (i::j::is) l fr)=some fr' from e) k
theorem Lh(O:vi X)(O':G7 X){i j:Nat}{is:ac}{ts:List an}{c:Nat}{p:Pos}(N:qj X (i::j::is) ts):Sz X (i::j::is) (.Tuple ts c p):=fun A hA W fr σ s T a v hv fr' e=>by
 revert hv
 refine KF e fun l e hv=>hv.tupE fun x n vs q r=> ?_
 have ht:s.heap.IsTuple x vs.toArray:=⟨_,T.rel.im _ _ q,rfl,n,rfl⟩
 refine ug (N.each (env:=X.env)) fun n1 n2 n3=> ?_
 refine wpAny_assign_Tuple hA ht ?_ n1 fun h' he=> ?_
 ·rw[n2,<- N.len,L5 e,aZ,r.length]
 ·exact N.order O O' (T.keeps (fun b o z=>he b o (ct (cv z)) z) s.toks) r e
end
end
end
section
open PySem.SeqAt
noncomputable section
section
variable{X:FX}{k:Nat}{W W':Wd}{fr fr':Fm}{σ ai:AS}{s s':az}{A:b7}{h h':bO}{C:PC}
theorem KY{M:lb}{α:Type}{t:Sem α}{Q:α->az->Prop}{E:ah->az->Prop}(h:wpAny M A t Q dw s):wpAny M A t Q E s:=jw h (fun _ _ q=>q) fun _ _ e=>e.elim
theorem ae7:mU X k bq []:=fun A R W fr σ s T r e=>by
 apply s1 e;exact oV ⟨rfl,T.postU⟩
theorem aa1{m n:SM}{st:bW}{sts:List bW}(hm:lI X k m st)(hn:mU X k n sts):mU X k (aV m n) (st::sts):=fun A R W fr σ s T r e=>by
 refine oE e fun o q e=>nS (eC (hm A R W fr σ s T _ q) fun f bt P=> ?_)
 cases o with
 |next gT ay=>
  obtain⟨rfl,P⟩:=P
  exact P.elim fun bm bD bz=>eC (hn A R bm gT ay bt bz r e) fun _ _ z=>z.le bD
 |brk gT ay=>apply s1 e;obtain⟨rfl,P⟩:=P;exact⟨rfl,P⟩
 |cont gT ay=>apply s1 e;obtain⟨rfl,P⟩:=P;exact⟨rfl,P⟩
 |ret a ay=>apply s1 e;obtain⟨v,uo,rfl,P⟩:=P;exact⟨v,uo,rfl,P⟩
theorem YL{m n:SM}{sts:List bW}(hm: ∀W fr σ s,St X W fr σ s-> ∀r,m fr σ=some r-> ∃W' fr' ai,r= .next fr' ai/\W.le W'/\St X W' fr' ai s)(hn:mU X k n sts):mU X k (aV m n) sts:=fun A R W fr σ s T r e=>by
 refine oE e fun o q e=> ?_
 obtain⟨bm,gT,ay,rfl,bD,bz⟩:=hm W fr σ s T _ q
 exact eC (hn A R bm gT ay s bz r e) fun _ _ z=>z.le bD
theorem amO{c:BM}{m n:SM}{test:an}{b o:List bW}{p:Pos}(hc:nk X k c test)(hm:mU X k m b)(hn:mU X k n o):lI X k (sf c m n) (.If test b o p):=fun A R W fr σ s T r e=>by
 refine fR e fun t ay q e=>wpAny_If (hc.go R T q fun bt bm bD bz=> ?_)
 cases t with
 |true=>exact eC (hm A R bm fr ay bt bz r e) fun _ _ z=>z.le bD
 |false=>exact eC (hn A R bm fr ay bt bz r e) fun _ _ z=>z.le bD
noncomputable def qp(e:an):Option dY:=match e with
 | .ListComp _ _ s _| .SetComp _ _ s _| .DictComp _ _ _ s _=>some s
 |_=>none
noncomputable def kv(e:an):Bool:=(qp e).isNone
theorem tC{e:an}(h:kv e=true){t:Option an}{l:Nat}{env:Env}:swapsWith e t l env=pure false:=by
 have h:=dG.mp h
 unfold swapsWith
 show(match qp e with|some scope=>_|x=>pure false)=_
 rw[h]
theorem ae0(O':G7 X){m:EM}{e:an}{p:Pos}(hm:b8 X k m e)(hc:kv e=true):lI X k (k8 m) (.Expr e p):=fun A R W fr σ s T r q=>by
 refine fR q fun a ay q1 q=> ?_
 apply s1 q
 exact Kh (hm.go R T q1 fun v bt bm bD bz _=>⟨rfl,bm,bD,bz⟩) O'.inter (tC hc)
theorem akv{m:EM}{e:an}{p:Pos}(hm:b8 X k m e):lI X k (eK m) (.Return (some e) p):=fun A R W fr σ s T r q=>by
 refine fR q fun a ay q1 q=> ?_
 apply s1 q
 exact wpAny_Return_some (eC (hm A R W fr σ s T _ _ q1) fun v bt z=>⟨v,fr,rfl,z⟩)
theorem ae5{p:Pos}:lI X k (eK (ba .none)) (.Return none p):=fun A R W fr σ s T r q=>by
 apply s1 q
 exact wpAny_Return_none ⟨.none,fr,rfl,T.post rfl⟩
theorem aeY{p:Pos}:lI X k (fun fr σ=>some (.cont fr σ)) (.Continue p):=fun A R W fr σ s T r q=>by
 apply s1 q
 exact fun _ _ _=>⟨rfl,T.postU⟩
theorem Ju{is:ac}{m:EM}{r:j8}{Q:j8->Prop}(e:cT is m fr σ=some r)(k: ∀a ay fr',m fr σ=some (a,ay)->mo is a fr ay=some fr'->Q (.next fr' ay)):Q r:=fR e fun a ay q e=>oE e fun fr' q' e=>by
 apply s1 e;exact k a ay fr' q q'
theorem YI(O:vi X)(O':G7 X){i:Nat}{x:Str}{m:EM}{e:an}{p p':Pos}(hx:kj X i x)(hm:b8 X k m e)(hc:swapsWith e (some (.Name x p')) p.line X.env=pure false):lI X k (cT [i] m) (.Assign [.Name x p'] e p):=fun A R W fr σ s T r q=>by
 apply Ju q;intro a ay fr' q1 q2
 apply s1 q2
 exact wpAny_Assign_Name (hm.go R T q1 fun v bt bm bD bz z=>eC (bz.store O O' hx.1 hx.2 z) fun _ dU cP=>⟨rfl,bm,bD,cP⟩) hc
theorem aeS(O:vi X)(O':G7 X){i j:Nat}{is:ac}{ts:List an}{c:Nat}{m:EM}{e:an}{p p':Pos}(N:qj X (i::j::is) ts)(hm:b8 X k m e)(hc:kv e=true)
  (hw:swappedStores [.Tuple ts c p'] e X.env=pure none):lI X k (cT (i::j::is) m) (.Assign [.Tuple ts c p'] e p):=fun A R W fr σ s T r q=>by
 apply Ju q;intro a ay fr' q1 q2
 exact Assign_Tuple (hm.go R T q1 fun v bt bm bD bz z=>eC (Lh O O' N A R.handled bm fr ay bt bz a v z fr' q2) fun _ dU cP=>⟨rfl,bm,bD,cP⟩) (show swapsWith e (some (.Tuple ts c p')) p.line X.env=pure false from tC hc) hw
theorem aeT(O:vi X)(O':G7 X){i j:Nat}{x y:Str}{ts:List an}{c:Nat}{m:EM}{e:an}{p p':Pos}(hx:kj X i x)(hy:kj X j y)(hij:i≠j)(hm:b8 X k m e)(hc:kv e=true)
  (hw:swappedStores [.Tuple ts c p'] e X.env=pure (some [x,y])):lI X k (cT [i,j] m) (.Assign [.Tuple ts c p'] e p):=fun A R W fr σ s T r q=>by
 apply Ju q;intro a ay fr' q1 q2
 refine yI (hm.go R T q1 fun v bt bm bD bz z=> ?_) (show swapsWith e (some (.Tuple ts c p')) p.line X.env=pure false from tC hc) hw
 clear q1
 revert z
 refine KF q2 fun l q2 z=>z.tupE fun x' n vs q r=> ?_
 revert q2
 match l,r with
 |[a,b],⟨v,_,e1,r1,w,_,e2,r2,r3⟩=>
  intro q2
  cases r3;cases e2;cases e1
  refine vg (items:= #[v,w]) R.handled ⟨_,bz.rel.im _ _ q,rfl,n,rfl⟩ fun h' he=> ?_
  have cP:=bz.keeps (fun b o z=>he b o (ct (cv z)) z) bt.toks
  show wpAny _ _ (assignInOrder [bindName X.env y,bindName X.env x] [w,v]) _ _ _
  refine fh (mf (eC (cP.store O O' hy.1 hy.2 r2) fun _ jK jb=>fh (mf (eC (jb.store O O' hx.1 hx.2 r1) fun _ oG om=>tV ⟨rfl,bm,bD,?_⟩))))
  apply s1 q2
  rw[qv _ _ _ hij];exact om
 |[],_=>exact fun q2=>nn q2
 |[_],_=>exact fun q2=>nn q2
 |_::_::_::_,_=>exact fun q2=>nn q2
theorem aaW(O:vi X)(O':G7 X){i j l:Nat}{x y z:Str}{ts:List an}{c:Nat}{m:EM}{e:an}{p p':Pos}(hx:kj X i x)(hy:kj X j y)(hz:kj X l z)(hij:i≠j)(hil:i≠l)(hjl:j≠l)(hm:b8 X k m e)(hc:kv e=true)
  (hw:swappedStores [.Tuple ts c p'] e X.env=pure (some [x,y,z])):lI X k (cT [i,j,l] m) (.Assign [.Tuple ts c p'] e p):=fun A R W fr σ s T r q=>by
 apply Ju q;intro a ay fr' q1 q2
 refine yI (hm.go R T q1 fun v bt bm bD bz pM=> ?_) (show swapsWith e (some (.Tuple ts c p')) p.line X.env=pure false from tC hc) hw
 clear q1
 revert pM
 refine KF q2 fun la q2 pM=>pM.tupE fun x' n vs q r=> ?_
 revert q2
 match la,r with
 |[a,b,d],⟨v,_,e1,r1,w,_,e2,r2,u,_,e3,r3,r4⟩=>
  intro q2
  cases r4;cases e3;cases e2;cases e1
  refine vg (items:= #[v,w,u]) R.handled ⟨_,bz.rel.im _ _ q,rfl,n,rfl⟩ fun h' he=> ?_
  have cP:=bz.keeps (fun b o z=>he b o (ct (cv z)) z) bt.toks
  show wpAny _ _ (assignInOrder [bindName X.env z,bindName X.env y,bindName X.env x] [u,w,v]) _ _ _
  refine fh (mf (eC (cP.store O O' hz.1 hz.2 r3) fun _ jK jb=>fh (mf (eC (jb.store O O' hy.1 hy.2 r2) fun _ oG om=>fh (mf (eC (om.store O O' hx.1 hx.2 r1) fun _ sI xH=>tV ⟨rfl,bm,bD,?_⟩))))))
  apply s1 q2
  rw[qv (put fr i a) _ _ hjl,qv fr _ _ hil,qv (put fr l d) _ _ hij];exact xH
 |[],_=>exact fun q2=>nn q2
 |[_],_=>exact fun q2=>nn q2
 |[_,_],_=>exact fun q2=>nn q2
 |_::_::_::_::_,_=>exact fun q2=>nn q2
theorem mU.turn{b:SM}{body:List bW}(hb:mU X k b body)(R:eN A k)(T:St X W fr σ s){kk:SM}{r:j8}(e:ob (b fr σ) (KU kk)=some r){Q:N1->az->Prop}
  (h1: ∀fr' ai s' W',W.le W'->St X W' fr' ai s'->kk fr' ai=some r->Q .next s'/\Q .cont s')(h2: ∀fr' ai s' W',W.le W'->St X W' fr' ai s'->r= .next fr' ai->Q .brk s')(h3: ∀a ai v fr' s' W',W.le W'->St X W' fr' ai s'->V X.C W' a v->r= .ret a ai->Q (.ret v) s'):
  wpAny (dI X.C) A (execs body X.env) Q dw s:=oE e fun o q e=>eC (hb A R W fr σ s T _ q) fun f bt P=>by
 cases o with
 |next fr' ai=>obtain⟨rfl,W',l,T'⟩:=P;exact(h1 fr' ai bt W' l T' e).1
 |cont fr' ai=>obtain⟨rfl,W',l,T'⟩:=P;exact(h1 fr' ai bt W' l T' e).2
 |brk fr' ai=>obtain⟨rfl,W',l,T'⟩:=P;exact h2 fr' ai bt W' l T' (aH e).symm
 |ret a ai=>obtain⟨v,fr',rfl,W',l,T',z⟩:=P;exact h3 a ai v fr' bt W' l T' z (aH e).symm
def afw(X:FX)(W:Wd)(c:BM)(b:SM)(r:j8)(n:Nat)(s':az):Prop:= ∃W' fr σ,W.le W'/\St X W' fr σ s'/\TH c b n fr σ=some r
theorem YX{R':tP->az->Prop}{c:BM}{b:SM}{r:j8}{n:Nat}{test:an}{body:List bW}(hc:nk X k c test)(hb:mU X k b body)(R:eN A k)(hR: ∀f s',Cf X W r f s'->R' (.ok f) s')(h:afw X W c b r n s):codeAny (dI X.C) A (.whileLoop test body [] X.env) R' s:=by
 refine codeAny_whileLoop (afw X W c b r) (fun n s' h=> ?_) n h
 refine Xp (h) fun W' fr σ l T e=> ?_
 cases n with
 |zero=>exact nn e
 |succ n=>
  refine fR (show bC (c fr σ) (fun t ai=>bif t then ob (b fr ai) (KU (TH c b n))else some (.next fr ai))=some r from e) fun t ay q e=>KY (hc.go R T q fun bt bm bD bz=> ?_)
  have l:=l.trans bD
  cases t with
  |false=>exact oV (hR _ _ (by apply s1 e;exact⟨rfl,bm,l,bz⟩))
  |true=>
   refine KY (hb.turn R bz e (fun uo aM dU cA dP cP e=> ?_) (fun uo aM dU cA dP cP e=> ?_) fun a aM v uo dU cA dP cP z e=> ?_)
   ·have h: ∃m,m<n+1/\afw X W c b r m dU:=⟨n,bU _,cA,uo,aM,l.trans dP,cP,e⟩
    exact⟨h,h⟩
   ·exact hR _ _ (by rw[e];exact⟨rfl,cA,l.trans dP,cP⟩)
   ·exact hR _ _ (by rw[e];exact⟨v,uo,rfl,cA,l.trans dP,cP,z⟩)
theorem aa0{c:BM}{b:SM}{n:Nat}{test:an}{body:List bW}{p:Pos}(hc:nk X k c test)(hb:mU X k b body):lI X k (TH c b n) (.While test body [] p):=fun A R W fr σ s T r e=>
 wpAny_While (YX hc hb R (fun _ _ h=>h) ⟨W,fr,σ,.refl _,T,e⟩)
structure il(X:FX)(W:Wd)(σ:AS)(I:aC)(l:List AV)(i:Nat)(h:bO)(S:Nat->bO->Prop)(fp:List aC)(P:Nat->ah->Prop):Prop where
 it: ∃pi,xo X W σ I l pi S fp P
 at_:S i h
 loose:ig X W σ I
theorem Pt{α:Type}{l:List α}{i:Nat}{a:α}{r:List α}(h:l.drop i=a::r):i<l.length/\r=l.drop (i+1):=by
 refine⟨?_,?_⟩
 ·rcases oP i l.length with z|z
  ·exact z
  ·rw[hV z]at h;cases h
 ·have:=congrArg (Bs 1) h
  rw[p9]at this
  exact this.symm
theorem il.item{I:aC}{l:aa}{i:Nat}{S:Nat->bO->Prop}{fp:List aC}{P:Nat->ah->Prop}(w:il X W σ I l i s.heap S fp P)(T:St X W fr σ s)(hA:A.handled=none){a:AV}{r:aa}(e:l.drop i=a::r)
  {Q:Option ah->az->Prop}(h: ∀v s',St X W fr σ s'->il X W σ I l (i+1) s'.heap S fp P->V X.C W a v->(∀b o,b≠I->s.heap.get? b=some o->s'.heap.get? b=some o)->Q (some v) s'):wpAny (dI X.C) A (pyNext (.ref I)) Q dw s:=by
 obtain⟨⟨pi,It⟩,st,L⟩:=w
 have hi:=(Pt e).1
 have hg:l[i]? =some a:=by
  have:(l.drop i)[0]? =some a:=by rw[e];rfl
  rwa[q8]at this
 refine V2 (ax s.toks) ?_
 refine(It.walks A hA).item i s _ _ hi st fun v h' tk hP hS hk=>fun ht=> ?_
 refine eX (It.val i v hi hP) fun a' e1 q=> ?_
 rw[hg]at e1;cases e1
 exact h v _ (T.but L (fun b o hb=>hk b o (by simpa using hb)) tk ht) ⟨⟨pi,It⟩,hS,L⟩ q fun b o hb=>hk b o (by simpa using hb)
theorem il.done{I:aC}{l:aa}{i:Nat}{S:Nat->bO->Prop}{fp:List aC}{P:Nat->ah->Prop}(w:il X W σ I l i s.heap S fp P)(T:St X W fr σ s)(hA:A.handled=none)(hl:i<=l.length)(e:l.drop i=[])
  {Q:Option ah->az->Prop}(h: ∀s',St X W fr σ s'->(∀b o,b≠I->s.heap.get? b=some o->s'.heap.get? b=some o)->Q none s'):wpAny (dI X.C) A (pyNext (.ref I)) Q dw s:=by
 obtain⟨⟨pi,It⟩,st,L⟩:=w
 have hi:i=l.length:=by
  exact vu hl (oN.mp e)
 subst hi
 refine V2 (ax s.toks) ?_
 exact(It.walks A hA).done s _ _ st fun h' tk hk=>fun ht=>h _ (T.but L (fun b o hb=>hk b o (by simpa using hb)) tk ht) fun b o hb=>hk b o (by simpa using hb)
theorem il.pin{I:aC}{l:aa}{i:Nat}{S:Nat->bO->Prop}{fp:List aC}{P:Nat->ah->Prop}(w:il X W σ I l i s.heap S fp P)(T:St X W fr σ s):
  ∃o,St X (W.pin I o) fr σ s/\ ∀{bm:Wd} {fr':Fm} {ai:AS} {s':az},(W.pin I o).le bm->St X bm fr' ai s'->W.le {bm with pr:=W.pr}/\St X {bm with pr:=W.pr} fr' ai s'/\il X {bm with pr:=W.pr} ai I l i s'.heap S fp P:=by
 obtain⟨⟨pi,It⟩,st,L⟩:=w
 refine ago (It.obj i _ st) fun o n ho _ _=> ?_
 refine⟨o,T.pin L ho,fun{bm fr' ai s'} bD bz=> ?_⟩
 refine Xm (St.unpin bD L bz) fun le cP e BP=> ?_
 refine⟨le,cP,⟨pi,⟨It.walks,It.st,(It.mono le).fp,(It.mono le).val,It.obj⟩⟩,(It.walks {} rfl).frame i _ _ st fun b hb o' e'=> ?_,BP⟩
 rcases It.fp b hb with rfl|⟨oo,z⟩
 ·rw[ho]at e';cases e';exact e
 ·have z1:=T.rel.im _ _ z
  rw[e']at z1;cases z1
  exact cP.rel.im _ _ (le.2.1 _ _ z)
theorem il.go{I:aC}{l:aa}{i:Nat}{S:Nat->bO->Prop}{fp:List aC}{P:Nat->ah->Prop}(w:il X W σ I l i s.heap S fp P){v:ah}{Q:Unit->az->Prop}{t:an}(hq:Q () s):
  wpAny (dI X.C) A (letOwnedTupleGo t (.ref I) v) Q dw s:=by
 obtain⟨⟨pi,It⟩,st,L⟩:=w
 refine ago (It.obj i _ st) fun o n ho hc hn=> ?_
 have key:wpAny (dI X.C) A (do
   let(.ref r,.ref a):=(oh I,v)|return
   let o <- load r
   match o.cls,o.data with
   | .type n,.fields vs=>
    if["enumerate","zip","dict_itemiterator","dict_reverseitemiterator","odict_iterator","itertools.zip_longest","itertools.pairwise"].contains n&&vs[0]? ==some (rawInt a)then
     rule "for.unpacks-the-owned-tuple"
     updateField r 0 .none
   |_,_=>pure ():Sem Unit) Q dw s:=by
  cases v with
  |ref a=>
   refine aq (wpAny_load ho ?_)
   rw[hc]
   cases hd:o.data with
   |fields vs=>
    dsimp only
    rw[hn,Bool.false_and,if_neg (by decide)]
    exact aL hq
   |_=>exact aL hq
  |_=>exact aL hq
 unfold letOwnedTupleGo
 cases t<;>first|exact aL hq|exact key
def afo(X:FX)(W:Wd)(is:ac)(b:SM)(I:aC)(l:aa)(S:Nat->bO->Prop)(fp:List aC)(P:Nat->ah->Prop)(r:j8)(n:Nat)(s':az):Prop:= ∃i W' fr σ,n=l.length-i/\i<=l.length/\W.le W'/\St X W' fr σ s'/\il X W' σ I l i s'.heap S fp P/\pI is b (l.drop i) fr σ=some r
theorem YQ{n i:Nat}(h:i<n):n-(i+1)<n-i:=Nat.sub_lt_sub_left h (bU i)
theorem adM{R':tP->az->Prop}{is:ac}{b:SM}{tg:an}{body:List bW}{I:aC}{l:aa}{S:Nat->bO->Prop}{fp:List aC}{P:Nat->ah->Prop}{r:j8}(ht:Sz X is tg)(hb:mU X k b body)(R:eN A k)(hR: ∀f s',Cf X W r f s'->R' (.ok f) s'){n:Nat}(h:afo X W is b I l S fp P r n s):codeAny (dI X.C) A (.forLoop tg (.ref I) body [] X.env) R' s:=by
 refine codeAny_forLoop_any (afo X W is b I l S fp P r) (fun n s' h=> ?_) n h
 obtain⟨i,W',fr,σ,rfl,hl,le,T,w,e⟩:=h
 cases hd:l.drop i with
 |nil=>
  rw[hd]at e
  exact KY (w.done T R.handled hl hd fun s' T' _=>oV (hR _ _ (by apply s1 e;exact⟨rfl,W',le,T'⟩)))
 |cons a r'=>
  rw[hd]at e
  obtain⟨hi',hr⟩:=Pt hd
  refine oE (show ob (mo is a fr σ) (fun gT=>ob (b gT σ) (KU (pI is b r')))=some r from e) fun gT q3 e=>KY (w.item T R.handled hd fun v jK jb anG Y1 _=>KY (anG.go ?_))
  refine eX (anG.pin jb) fun o om back=> ?_
  refine KY (eC (ht A R.handled _ fr σ jK om a v (Y1.pr rfl rfl) gT q3) fun _ oG xH=>KY (hb.turn R xH e (fun uo cN sI IH Qf LX e=> ?_) (fun uo cN sI IH Qf LX e=> ?_) fun a cN v uo sI IH Qf LX ale e=> ?_))
  ·obtain⟨le7,T7,w7⟩:=back Qf LX
   have h: ∃m,m<l.length-i/\afo X W is b I l S fp P r m sI:=⟨l.length-(i+1),YQ hi',i+1,_,uo,cN,rfl,hi',le.trans le7,T7,w7,hr▸e⟩
   exact⟨h,h⟩
  ·obtain⟨le7,T7,w7⟩:=back Qf LX
   exact hR _ _ (by rw[e];exact⟨rfl,_,le.trans le7,T7⟩)
  ·refine ug (back Qf LX) fun le7 T7 w7=> ?_
   exact hR _ _ (by rw[e];exact⟨v,uo,rfl,_,le.trans le7,T7,ale.pr rfl rfl⟩)
theorem ako{is:ac}{it:EM}{b:SM}{tg ie:an}{body:List bW}{p:Pos}(hi:b8 X k it ie)(ht:Sz X is tg)(hb:mU X k b body)(hs: ∀x,foldedSetIterable ie X.env x=pure x):lI X k (gB is it b) (.For tg ie body [] p):=fun A R W fr σ s T r e=>by
 refine fR e fun a ay q1 e=>fR e fun l aM q2 e=>wpAny_For (hi.go R T q1 fun v bt bm bD bz pM=>eC (vV bz q2 pM) fun it dU z=>z.elim fun I cA S fp P dP cP BP It=> ?_) hs
 exact adM ht hb R (fun _ _ h=>h) ⟨0,cA,fr,aM,rfl,aU _,bD.trans dP,cP,⟨⟨_,It⟩,It.st,BP⟩,e⟩
end
end
end
section
open PySem.SeqAt
noncomputable section
section
variable{X:FX}{k:Nat}{W W':Wd}{fr fr':Fm}{σ ai:AS}{s s':az}{A:b7}{h h':bO}{C:PC}
theorem ajF{K:dL}{prog:fY}{w:dZ}{E:ah->az->Prop}{x c d:aC}{es es':List ia}{n n':Nat}{name:Str}{v:ah}{Q:Unit->az->Prop}(X:K.In s.heap)(hx:s.heap.get? x=some (instObj c d))(hd:s.heap.get? d=some (dictOf es n))
  (hs:findIn K (.ref c) "__setattr__"=some (some (.builtin "object.__setattr__")))(hp:plainOver K c=true)(ht:takerIn K c name=some none)(hh:hasDictIn K c=true)(hl:(getL name es).isSome=true)
  (e:(putL name (qb w.params name) (.str name (s.toks+1)) v es,putN name es n)=(es',n'))(hz:es'.length<=1000)
  (h: ∀h',h'.get? d=some (dictOf es' n')->i7 d s.heap h'->Q () {s with heap:=h',toks:=s.toks+2}):
  wpAny (model prog w) A (setAttr (.ref x) name v) Q E s:=by
 obtain⟨e1,e2⟩:=cK e
 have I:InstAt s.heap x (instObj c d) c (some (dictOf es n)):=⟨hx,rfl,rfl,hd⟩
 refine LF X I hs (osa_open (s:={s with toks:=s.toks+1}) X I hp ht fun b=> ?_)
 refine eX (any_some hh) fun cd hc hd'=> ?_
 refine aq (aL (aq (aq (qe hx (aq (wy X hc _ _ _ _ (fun _ _ e=>e) ?_))))))
 rw[hd']
 refine aL (a:=some d) (aq (aL (aq ?_)))
 unfold nsSet
 refine aq (aq (GB (aL (aq (wpAny_mkText (aq (qe hd ?_)))))))
 have c0:(!es.toArray.any (·.key.isStr name)&&es.toArray.any (·.refKey))=false:=by
  rw[<- Gs,<- Gs]
  unfold getL at hl
  split at hl
  ·rename_i en he
   rw[kg.mpr ⟨en,List.mem_of_find?_eq_some he,List.find?_some he⟩];rfl
  ·split at hl
   ·cases hl
   ·rename_i z;rw[Bool.not_eq_true]at z;rw[z,Bool.and_false]
 dsimp only
 rw[aRefKeyMayBeTheName_at,c0]
 have hf:Rg name (qb w.params name) (.str name (s.toks+1)) v (dictOf es n)=dictOf es' n':=by rw[putName_dict,e1,e2]
 have D':(s.heap.update d (Rg name (qb w.params name) (.str name (s.toks+1)) v)).get? d=some (dictOf es' n'):=by
  rw[<- hf];exact jS _ hd (by rw[hf];rfl)
 refine wpAny_updatePart hd ?_
 refine aq (GG D' (Gz (by rw[aZ,jE];omega)) ?_)
 exact aL (h _ D' (ji ..))
theorem Hu: ∀{ks:ac} {vs:List ah} {es:List ia},oY C ks vs es->(∀e∈es,e.refKey=false)/\es.length=ks.length:=by
 intro ks
 induction ks with
 |nil=>intro vs es q;cases vs with
  |nil=>cases es with
   |nil=>exact⟨fun e he=>(by cases he),rfl⟩
   |cons=>exact q.elim
  |cons=>exact q.elim
 |cons k ks ih=>intro vs es q;cases vs with
  |nil=>exact q.elim
  |cons v vs=>cases es with
   |nil=>exact q.elim
   |cons en es=>
    obtain⟨_,⟨t,ht⟩,_,q⟩:=q
    obtain⟨h1,h2⟩:=ih q
    refine⟨fun e he=> ?_,congrArg _ h2⟩
    rcases aG.mp he with rfl|he
    ·unfold Gv;rw[ht]
    ·exact h1 e he
theorem XR(q:oY C ks vs es)(name:Str):(getL name es).isSome=true:=by
 unfold getL
 split
 ·rfl
 ·rw[if_neg];rfl
  intro h
  obtain⟨e,he,h⟩:=kg.mp h
  rw[(Hu q).1 e he]at h;cases h
theorem aaO{x kk:Nat}(hx:x<C.nf)(hk:kk<C.nf){hsh:Int}{t u:Tok}{v:ah}{en:ia}{es:List ia}(hu:en.key= .str (C.fname x) u):putL (C.fname kk) hsh (.str (C.fname kk) t) v (en::es)=if kk=x then{en with val:=v}::es else en::putL (C.fname kk) hsh (.str (C.fname kk) t) v es:=by
 by_cases h:kk=x
 ·subst h
  rw[if_pos rfl,putL,if_pos (by rw[hu];simp[kM])]
 ·rw[if_neg h,putL,if_neg]
  rw[hu]
  have:C.fname x≠C.fname kk:=fun q=>h (C.fnameInj _ _ hx hk q).symm
  simp[kM,this]
theorem ajD{kk:Nat}(hk:kk<C.nf){a:AV}{v:ah}{hsh:Int}{t:Tok}(hv:V C W a v): ∀{ks:ac} {fs:aa} {vs:List ah} {es:List ia},VL C W fs vs->oY C ks vs es->
  ∃vs',VL C W (Mk kk a ks fs).2 vs'/\oY C (Mk kk a ks fs).1 vs' (putL (C.fname kk) hsh (.str (C.fname kk) t) v es):=by
 intro ks
 induction ks with
 |nil=>
  intro fs vs es hf q
  cases vs with
  |nil=>cases es with
   |nil=>exact⟨[v],⟨v,[],rfl,hv,rfl⟩,hk,⟨t,rfl⟩,rfl,trivial⟩
   |cons=>exact q.elim
  |cons=>exact q.elim
 |cons x ks ih=>
  intro fs vs es hf
  cases fs with
  |nil=>exact hf.nilE fun q=>q.elim
  |cons b fs=>
   refine hf.consE fun w r h1 h2 q=> ?_
   cases es with
   |nil=>exact q.elim
   |cons en es=>
    obtain⟨hx,⟨u,hu⟩,rfl,q⟩:=q
    rw[aaO hx hk hu,ajE,f8]
    by_cases z:kk=x
    ·rw[if_pos z,decide_eq_true z]
     exact⟨v::r,⟨v,r,rfl,hv,h2⟩,hx,⟨u,hu⟩,rfl,q⟩
    ·rw[if_neg z,decide_eq_false z]
     refine eX (ih h2 q) fun vs' i1 i2=> ?_
     exact⟨en.val::vs',⟨_,_,rfl,h1,i1⟩,hx,⟨u,hu⟩,rfl,i2⟩
theorem QB(T:St X W fr σ s){kk:Nat}(hk:kk<X.C.nf){a o:AV}(e:oz kk a o σ=some ai){v ov:ah}(hv:V X.C W a v)(ho:V X.C W o ov):
  wpAny (dI X.C) A (setAttr ov (X.C.fname kk) v) (fun _ s'=>St X W fr ai s') dw s:=by
 revert ho
 refine iA e fun x e ho=>instE e fun c ks fs hg e=>kS (show(bif cX (Mk kk a ks fs).1.length 1000&& !SJ c kk then some (σ.set x (.inst c (Mk kk a ks fs).1 (Mk kk a ks fs).2))else none)=some ai from e) fun z e=> ?_
 apply s1 e
 obtain⟨z1,z2⟩:=bj.mp z
 refine T.rel.instE hg ho fun p es n vs q q0 q1 q2 r q3=> ?_
 refine apZ (L2 (X.C.attr c kk q0 hk (by rwa[d7]at z2))) fun p1 p2 _ p4 p5 p6=> ?_
 refine eX (ajD (W:=W) hk (hsh:=qb X.C.w.params (X.C.fname kk)) (t:=s.toks+1) hv r q3) fun vs' i1 i2=> ?_
 refine ajF T.rel.K (T.rel.im _ _ q1) q2 p4 p5 p6 p2 (XR q3 _) rfl (by rw[(Hu i2).2];exact av z1) fun h' h1 h2=> ?_
 exact T.set (c:=.inst c _ _) hg q h2 ⟨q0,q1,_,_,vs',h1,i1,i2⟩ _
theorem Dw{e:an}{o:an}{x:Str}{p:Pos}{l:Nat}{env:Env}:swapsWith e (some (.Attribute o x p)) l env=pure false:=by
 unfold swapsWith
 show(match qp e with|some scope=>pure false|x=>pure false)=_
 cases qp e<;>rfl
theorem aa7{e:an}{o x:an}{p:Pos}{l:Nat}{env:Env}:swapsWith e (some (.Subscript o x p)) l env=pure false:=by
 unfold swapsWith
 show(match qp e with|some scope=>pure false|x=>pure false)=_
 cases qp e<;>rfl
theorem aeP{kk:Nat}{o m:EM}{oe e:an}{p ap:Pos}(hk:kk<X.C.nf)(hm:b8 X k m e)(ho:b8 X k o oe):lI X k (lT kk o m) (.Assign [.Attribute oe (X.C.fname kk) ap] e p):=fun A R W fr σ s T r q=>by
 refine fR q fun a ay q1 q=>fR q fun x aM q2 q=>oE q fun cN q3 q=> ?_
 apply s1 q
 refine jj (hm.go R T q1 fun v bt bm bD bz pM=>ho.go R bz q2 fun ov dU cA dP cP MC=> ?_) Dw
 exact eC (QB cP hk q3 (pM.mono dP) MC) fun _ jK jb=>⟨rfl,cA,bD.trans dP,jb⟩
theorem VJ{prog:fY}{w:dZ}{E:ah->az->Prop}{l:aC}{vs:List ah}{n:Nat}{k:Int}{t:Tok}{v:ah}{Q:Unit->az->Prop}(hl:s.heap.get? l=some (dC vs n))(h0:0<=k)(hfit:k<2^63)(hn:k<vs.length)
  (hQ: ∀h' n',h'.get? l=some (dC (vs.set k.toNat v) n')->i7 l s.heap h'->Q () {s with heap:=h'}):wpAny (model prog w) A (setItem (.ref l) (.int k t) v) Q E s:=by
 have hl':=lO hl
 unfold setItem
 refine dJ ?_
 refine aq (wpAny_sequenceKey hl'.typeIs (by decide) ?_)
 refine aq (wpAny_callSpecial?_slot (name:=lC "__setitem__") hl'.typeIs Fg
  (wpAny_call_entry Fg hl'.typeIs entry_list_setitem ?_ (args_list_setitem _ _ _)))
 show wpAny _ _ (Ly (.int k t)>>=_) _ _ s
 refine aq (wpAny_listSubscript_int (fitsIndex_of h0 hfit) ?_)
 clear hfit
 obtain⟨j,rfl⟩:=vc h0
 have hn:j<vs.length:=by omega
 have hx':vs.toArray[j]? =some vs[j]:=by simp[hn]
 show wpAny _ _ ((seqItemAt l j>>=fun r=>pure (r.map (j,·)))>>=_) _ _ s
 refine aq (aq (wpAny_seqItemAt hl rfl (aL ?_)))
 rw[hx']
 show wpAny _ _ (setSeqItemAt l j v>>=_) _ _ s
 obtain⟨n',hd'⟩:=Obj.data_mapSeq (o:=dC vs n) rfl (·.setIfInBounds j v)
 have hfin:(s.heap.update l (H8 (·.setIfInBounds j v))).get? l=some (dC (vs.set j v) n'):=by
  rw[jS (H8 (·.setIfInBounds j v)) hl (Obj.isFreed_of_seq hd')]
  have: ∀o:Obj,o.cls= .type "list" ->o.dict=none->o.slots= #[]->o.data= .seq (vs.toArray.setIfInBounds j v) n'->o=dC (vs.set j v) n':=by
   rintro⟨c,d,da,sl⟩ rfl rfl rfl h
   have h:da=_:=h
   rw[h]
   simp[dC]
  rw[this _ (Obj.cls_mapSeq ..) (by rfl) (by rfl) hd']
 refine aq (wpAny_setSeqItemAt hl rfl ?_)
 first
  |exact aq (aL (aL ⟨.none,rfl,aL (hQ _ _ hfin (ji ..))⟩))
  |exact aL ⟨.none,rfl,aL (hQ _ _ hfin (ji ..))⟩
theorem aaR: ∀(l:aa) (i:Nat) (v:AV),NW l i v=l.set i v:=by
 intro l
 induction l with
 |nil=>intro i v;rfl
 |cons a r ih=>intro i v;cases i with
  |zero=>rfl
  |succ i=>exact congrArg (a:: ·) (ih i v)
theorem Xw{a b:ac}:dm a b=decide (aP a=aP b):=by
 have:=qA (a:=a) (b:=b)
 rw[<- this]
 by_cases q:aP a=aP b<;>simp[q]
theorem VT{x p:Str}{w v:ah}{l:List (Str×ah)}(hN:x∉l.map (·.1)):stored ((x,w)::l) p v=if x=p then(x,v)::l else(x,w)::stored l p v:=by
 unfold stored
 by_cases z:x=p
 ·subst z
  rw[if_pos rfl,if_pos (by simp)]
  simp only[bh,if_true,vq,true_and]
  rw[fX (g:=id),List.map_id]
  intro q hq
  exact if_neg fun e=>hN (dD.mpr ⟨q,hq,e⟩)
 ·rw[if_neg z]
  simp only[rG,z,decide_false,Bool.false_or,bh,if_false]
  split<;>rfl
theorem ZO(k:ac)(v:AV)(x:ac)(ks:List (List Nat))(w:AV)(vs:aa):qN k v (x::ks) (w::vs)=bif dm x k then(x::ks,v::vs)else(x::(qN k v ks vs).1,w::(qN k v ks vs).2):=rfl
theorem ZN{kk:ac}{a:AV}{v:ah}(hv:V C W a v): ∀{ks:List (List Nat)} {fs:aa} {vs:List ah},VL C W fs vs->ks.length=vs.length->(((ks.map aP).zip vs).map (·.1)).Nodup->
  ∃vs',VL C W (qN kk a ks fs).2 vs'/\(qN kk a ks fs).1.length=vs'.length/\stored ((ks.map aP).zip vs) (aP kk) v=((qN kk a ks fs).1.map aP).zip vs':=by
 intro ks
 induction ks with
 |nil=>
  intro fs vs hf hl hN
  cases vs with
  |nil=>exact⟨[v],⟨v,[],rfl,hv,rfl⟩,rfl,rfl⟩
  |cons=>cases hl
 |cons x ks ih=>
  intro fs vs hf hl
  cases fs with
  |nil=>rw[show vs=[] from hf]at hl;cases hl
  |cons b fs=>
   revert hl
   refine hf.consE fun w r h1 h2 hl hN=> ?_
   rw[bh,bQ,bh,dR]at hN
   have hl:=jV hl
   rw[bh,bQ,VT hN.1,ZO,Xw]
   by_cases z:aP x=aP kk
   ·rw[if_pos z,decide_eq_true z]
    exact⟨v::r,⟨v,r,rfl,hv,h2⟩,congrArg _ hl,rfl⟩
   ·rw[if_neg z,decide_eq_false z]
    refine uh (ih h2 hl hN.2) fun vs' i1 i2 i3=> ?_
    exact⟨w::vs',⟨w,vs',rfl,h1,i1⟩,congrArg _ i2,congrArg ((aP x,w):: ·) i3⟩
theorem QC(T:St X W fr σ s){a o i:AV}(e:Lb a o i σ=some ai){v ov iv:ah}(hv:V X.C W a v)(ho:V X.C W o ov)(hi:V X.C W i iv):
  wpAny (dI X.C) A (setItem ov iv v) (fun _ s'=>St X W fr ai s') dw s:=by
 revert ho
 refine iA e fun x e ho=>oE e fun c hg e=> ?_
 revert hi
 cases c<;>first|exact fun _=>nn e|skip
 ·refine mm (show(nU i fun n=>bif dB n&&bw n (na _)then some (σ.set x (.lst (NW _ n a)))else none)=some ai from e) fun n e hi=>kS e fun z e=> ?_
  apply s1 e
  obtain⟨z1,z2⟩:=bj.mp z
  have z1:=jP z1
  have z2:=dh.mp z2
  refine hi.intE fun t=>T.rel.lstE hg ho fun p vs n' q q0 q2 r=> ?_
  rw[q0]at q2 ⊢
  refine VJ (k:=am n) q2 (dq n) (Bq (N3.mpr z1) (by decide)) (by rw[r.length];exact ib.mpr z2) fun h' aqY h1 h2=> ?_
  exact T.set (c:=.lst _) hg q h2 ⟨q0,_,_,h1,by rw[aaR];exact r.set hv⟩ _
 ·rename_i ks fs
  refine fT (show(ek i fun k=>bif dB ks.length then some (σ.set x (.dct (qN k a ks fs).1 (qN k a ks fs).2))else none)=some ai from e) fun kk e hi=>kS e fun z e=> ?_
  apply s1 e
  refine hi.strE fun t=>T.rel.dctE hg ho fun p oo vs q q0 q1 q2 r q4=> ?_
  rw[q0]at q1 q2 ⊢
  obtain⟨q3,es,ep,w1,w2,w3,w4,w5⟩:=q4
  refine uh (ZN (kk:=kk) hv r q3 w5) fun vs' i1 i2 i3=> ?_
  refine wpAny_setItem_pairs (knd:=rI X.C.prog X.C.w) (k:=aP kk) (kvs:=(ks.map aP).zip vs) (tO X.C.prog X.C.w (aP kk) t) ⟨oo,es,ep,q2,w1,w2,w3,w4,w5⟩ (fun h' h1 h2=> ?_) ?_
  ·refine Xo (h1) fun oo' es' ep' g w=> ?_
   rw[i3]at w
   exact T.set (c:=.dct _ _) hg q h2 ⟨q0,q1,oo',vs',g,i1,i2,es',ep',w⟩ _
  ·have:=iZ z
   simp;omega
theorem aeR{o i m:EM}{oe ie e:an}{p ap:Pos}(hm:b8 X k m e)(ho:b8 X k o oe)(hi:b8 X k i ie):lI X k (Qz o i m) (.Assign [.Subscript oe ie ap] e p):=fun A R W fr σ s T r q=>by
 refine fR q fun a ay q1 q=>fR q fun x aM q2 q=>fR q fun y cN q3 q=>oE q fun vb q4 q=> ?_
 apply s1 q
 refine wpAny_Assign_Subscript (hm.go R T q1 fun v bt bm bD bz pM=>ho.go R bz q2 fun ov dU cA dP cP MC=>hi.go R cP q3 fun iv jK xI gY jb Y1=> ?_) aa7
 exact eC (QC jb q4 ((pM.mono dP).mono gY) (MC.mono gY) Y1) fun _ oG om=>⟨rfl,xI,bD.trans (dP.trans gY),om⟩
end
end
end
section
open PySem.SeqAt
noncomputable section
section
variable{X:FX}{k:Nat}{W W' W'':Wd}{fr fr':Fm}{σ ai fW:AS}{s s':az}{A:b7}{h h':bO}{C:PC}
structure Gh(W:Wd)(σ:AS)(W':Wd)(ai:AS):Prop where
 le:W.le W'
 ρ:W'.ρ=W.ρ
 im: ∀b o,W.im b=none->W'.im b=some o-> ∃a c p,σ.get a=some c/\W.ρ a=some p/\p.2=b
 sub: ∀a c,ai.get a=some c->σ.get a=some c
theorem Gh.refl(W:Wd)(σ:AS):Gh W σ W σ:=⟨.refl _,rfl,fun _ _ e e'=>(by rw[e]at e';cases e'),fun _ _ e=>e⟩
theorem Gh.trans(g:Gh W σ W' ai)(g':Gh W' ai W'' fW):Gh W σ W'' fW:=by
 refine⟨g.le.trans g'.le,g'.ρ.trans g.ρ,fun b o e e'=> ?_,fun a c e=>g.sub _ _ (g'.sub _ _ e)⟩
 cases q:W'.im b with
 |some o'=>exact g.im b o' e q
 |none=>
  refine Xp (g'.im b o q e') fun a c p h1 h2 h3=> ?_
  exact⟨a,c,p,g.sub _ _ h1,by rw[<- g.ρ];exact h2,h3⟩
theorem pT.ghost(F:pT X W fr σ h)(g:Gh W σ W' ai):pT X W' fr ai h:=
 F.turn g.le (fun b o e e' hb=>let⟨a,c,p,h1,h2,h3⟩:=g.im b o e e';F.apart b hb a c p h1 h2 h3) (fun c hc a cc p e e'=>F.apart c hc a cc p (g.sub _ _ e) (by rw[<- g.ρ];exact e')) fun _ _ _ e=>e
theorem cC.ghost1(R:cC C W σ h){a:Nat}{c:bJ}{p:aC×aC}{o:Obj}(hg:σ.get a=some c)(hp:W.ρ a=some p)(ho:h.get? p.2=some o):Gh W σ (W.addIm p.2 o) (σ.drop a)/\cC C (W.addIm p.2 o) (σ.drop a) h:=by
 refine⟨⟨Wd.le_addIm fun o' e=>by have:=R.im _ _ e;rw[ho]at this;exact(aH this).symm,rfl,fun b o' e e'=> ?_,fun b cb e=> ?_⟩,R.freeze hg hp ho⟩
 ·have e':(if b=p.2 then some o else W.im b)=some o':=e'
  by_cases q:b=p.2
  ·exact⟨a,c,p,hg,hp,q.symm⟩
  ·rw[if_neg q,e]at e';cases e'
 ·rw[AS.get_drop]at e
  split at e
  ·cases e
  ·exact e
def Frz(C:PC)(h:bO)(f:AV->AS->AV×AS):Prop:= ∀W σ a v,cC C W σ h->V C W a v-> ∃W',Gh W σ W' (f a σ).2/\cC C W' (f a σ).2 h/\V C W' (f a σ).1 v
theorem CI{f:AV->AS->AV×AS}(hf:Frz C h f): ∀(l:aa) (W:Wd) (σ:AS) (vs:List ah),cC C W σ h->VL C W l vs->
  ∃W',Gh W σ W' (pW f l σ).2/\cC C W' (pW f l σ).2 h/\VL C W' (pW f l σ).1 vs:=by
 intro l
 induction l with
 |nil=>exact fun W σ vs R q=>⟨W,.refl _ _,R,q⟩
 |cons a l ih=>
  intro W σ vs R q
  refine q.consE fun v r q1 q2=> ?_
  refine uh (hf W σ a v R q1) fun bm g1 R1 z1=> ?_
  refine uh (ih bm (f a σ).2 r R1 (q2.mono g1.le)) fun cA g2 R2 z2=> ?_
  exact⟨cA,g1.trans g2,R2,v,r,rfl,z1.mono g2.le,z2⟩
theorem Mf{sel:Nat->Bool}{f:AV->AS->AV×AS}(hf:Frz C h f): ∀(ks:ac) (l:aa) (W:Wd) (σ:AS) (vs:List ah),cC C W σ h->VL C W l vs->
  ∃W',Gh W σ W' (Tr sel f ks l σ).2/\cC C W' (Tr sel f ks l σ).2 h/\VL C W' (Tr sel f ks l σ).1 vs:=by
 intro ks
 induction ks with
 |nil=>intro l W σ vs R q;cases l<;>exact⟨W,.refl _ _,R,q⟩
 |cons kk ks ih=>
  intro l W σ vs R q
  cases l with
  |nil=>exact⟨W,.refl _ _,R,q⟩
  |cons a l=>
   refine q.consE fun v r q1 q2=> ?_
   have h1: ∃W',Gh W σ W' (bif sel kk then f a σ else(a,σ)).2/\cC C W' (bif sel kk then f a σ else(a,σ)).2 h/\V C W' (bif sel kk then f a σ else(a,σ)).1 v:=by
    cases sel kk
    ·exact⟨W,.refl _ _,R,q1⟩
    ·exact hf W σ a v R q1
   refine uh (h1) fun bm g1 R1 z1=> ?_
   refine uh (ih l bm _ r R1 (q2.mono g1.le)) fun cA g2 R2 z2=> ?_
   exact⟨cA,g1.trans g2,R2,v,r,rfl,z1.mono g2.le,z2⟩
theorem XD{sel:Nat->Bool}{f:AV->AS->AV×AS}(hf:Frz C h f){x:Nat}{c:bJ}(R:cC C W σ h)(hg:σ.get x=some c){v:ah}(q:V C W (.ref x) v): ∃W',Gh W σ W' (SZ f sel x σ c).2/\cC C W' (SZ f sel x σ c).2 h/\V C W' (SZ f sel x σ c).1 v:=by
 cases c with
 |lst l=>
  refine R.lstE hg q fun p vs m hp q0 q2 r=> ?_
  rw[q0]at q2 ⊢
  obtain⟨g,R1⟩:=R.ghost1 hg hp q2
  refine uh (CI hf l _ _ vs R1 (r.mono g.le)) fun cA g2 R2 z2=> ?_
  exact⟨cA,g.trans g2,R2,p.2,m,vs,rfl,g2.le.2.1 _ _ ms,z2⟩
 |inst c ks fs=>
  refine R.instE hg q fun p es m vs hp q0 q1 q2 r q3=> ?_
  obtain⟨g,R1⟩:=R.ghost1 hg hp q2
  refine uh (Mf (sel:=sel) hf ks fs _ _ vs R1 (r.mono g.le)) fun cA g2 R2 z2=> ?_
  exact⟨cA,g.trans g2,R2,p.1,p.2,es,m,vs,rfl,q0,g2.le.2.1 _ _ (g.le.2.1 _ _ q1),g2.le.2.1 _ _ ms,z2,q3⟩
 |dct ks fs=>
  refine R.dctE hg q fun p oo vs hp q0 q1 q2 r q3=> ?_
  rw[q0]at q1 q2 ⊢
  obtain⟨g,R1⟩:=R.ghost1 hg hp q2
  refine uh (CI hf fs _ _ vs R1 (r.mono g.le)) fun cA g2 R2 z2=> ?_
  exact⟨cA,g.trans g2,R2,p.2,oo,vs,rfl,q1,g2.le.2.1 _ _ ms,z2,q3⟩
 |orc=>exact⟨W,.refl _ _,R,trivial⟩
theorem CH{sel:Nat->Bool}(n:Nat):Frz C h (um sel n):=by
 induction n with
 |zero=>exact fun W σ a v R q=>⟨W,.refl _ _,R,q⟩
 |succ n ih=>
  intro W σ a v R q
  by_cases ha: ∃x,a= .ref x
  ·obtain⟨x,rfl⟩:=ha
   have hd:um sel (n+1) (.ref x) σ=bo (motive:=fun _=>AV×AS) (.opq,σ) (fun c=>SZ (um sel n) sel x σ c) (σ.get x):=rfl
   rw[hd]
   cases hg:σ.get x with
   |none=>exact⟨W,.refl _ _,R,trivial⟩
   |some c=>exact XD (sel:=sel) ih R hg q
  ·have:um sel (n+1) a σ=(a,σ):=by
    cases a<;>first|rfl|exact absurd ⟨_,rfl⟩ ha
   rw[this]
   exact⟨W,.refl _ _,R,q⟩
theorem CG(n:Nat):Frz C h (jJ n):=CH n
theorem St.ghost(T:St X W fr σ s)(g:Gh W σ W' ai)(R:cC X.C W' ai s.heap):St X W' fr ai s:=⟨R,T.fr.ghost g,T.sm⟩
theorem aej: ∀(fr:Fm) (i:Nat) (a b:AV) (j:Nat) (c:AV),fr[i]? =some a->(put fr i b)[j]? =some c->(j=i/\c=b)\/(j≠i/\fr[j]? =some c):=fun fr i a b j c e e'=>by
 rcases x8 fr i b j c e' with h|⟨h1,h2|h2⟩
 ·exact .inl h
 ·exact .inr ⟨h1,h2⟩
 ·subst h2
  refine .inr ⟨h1,?_⟩
  revert i j e e' h1
  induction fr with
  |nil=>intro i j e;cases e
  |cons x r ih=>
   intro i j e h1 e'
   cases i with
   |zero=>cases j with
    |zero=>exact absurd rfl h1
    |succ j=>exact e'
   |succ i=>cases j with
    |zero=>exact e'
    |succ j=>exact ih i j e (fun q=>h1 (congrArg _ q)) (by exact e')
theorem ahq{i:Nat}{y:Str}(hx:X.names i=some y): ∀W fr σ s,St X W fr σ s-> ∀r,QA i fr σ=some r-> ∃W' fr' ai,r= .next fr' ai/\W.le W'/\St X W' fr' ai s:=fun W fr σ s T r e=>by
 have e:some (j8.next (put fr i (jJ 14 (gt fr i) σ).1) (jJ 14 (gt fr i) σ).2)=some r:=e
 apply s1 e
 by_cases hu:gt fr i= .unb
 ·rw[hu]
  refine⟨W,_,_,rfl,.refl _,T.rel,?_,T.sm⟩
  obtain⟨⟨m,a,b⟩,c,d,xP,d',CD⟩:=T.fr
  exact⟨⟨m,a,fun j y e=>by
   rcases x8 fr i _ j y e with⟨rfl,rfl⟩|⟨hj,e|e⟩
   ·exact .inl rfl
   ·exact b j y e
   ·exact .inl e⟩,c,d,xP,d',CD⟩
 ·have hi:=(Vc fr i).resolve_right hu
  refine eX (T.fr.vars) fun m hn hv=> ?_
  refine eX ((hv i _ hi).resolve_left hu y hx) fun v e2 e3=> ?_
  refine uh (CG 14 W σ (gt fr i) v T.rel e3) fun bm g R z=> ?_
  refine⟨bm,_,_,rfl,g.le,?_⟩
  have bz:=T.ghost g R
  refine⟨bz.rel,⟨⟨m,hn,fun j b e=> ?_⟩,bz.fr.cells,bz.fr.apart,bz.fr.sep,bz.fr.own,bz.fr.live⟩,bz.sm⟩
  rcases aej fr i _ _ j b hi e with⟨rfl,rfl⟩|⟨hj,e⟩
  ·refine .inr fun z' p=> ?_
   rw[hx]at p;cases p
   exact⟨v,e2,z⟩
  ·exact(hv j b e).imp id fun f y p=>let⟨v,q,r⟩:=f y p;⟨v,q,r.mono g.le⟩
theorem mH{kF n:Nat}{f:ah}{F:aW}(hF:aF C kF f F):aF C kF f (FW n F):=fun A R W σ s args vs Re hv tk a ai e=>by
 refine fR e fun xJ ay q e=> ?_
 obtain⟨rfl,rfl⟩:a=(jJ n xJ ay).1/\ai=(jJ n xJ ay).2:=by rw[aH e];exact⟨rfl,rfl⟩
 refine eC (hF A R W σ s args vs Re hv tk _ _ q) fun v s' ⟨h1,bm,bD,aft,pM⟩=> ?_
 refine uh (CG n bm ay xJ v aft pM) fun cA g OM MC=> ?_
 exact⟨h1,cA,bD.trans g.le,OM,MC⟩
theorem Mm{kF n:Nat}{f:ah}{F:aW}(hF:aF C kF f F):aF C kF f (Z0 n F):=fun A R W σ s args vs Re hv tk a ai e=>by
 refine uh (CI (CG n) args W σ vs Re hv) fun cA g OM MC=> ?_
 exact eC (hF A R cA _ s _ vs OM MC tk a ai e) fun v s' ⟨h1,bm,bD,aft,pM⟩=>⟨h1,bm,g.le.trans bD,aft,pM⟩
end
end
end
section
open PySem.SeqAt
noncomputable section
section
variable{prog:fY}{w:dZ}{A:b7}{R:tP->az->Prop}{s:az}
def NE(e:an)(d:Nat)(elt target iter:an)(ifs:List an):Prop:= ∀it acc env,compTurn e d it acc env=(do
   standAt iter.pos
   match <- pyNext it with
   |none=>pure (.done .next)
   |some v=>
    letOwnedTupleGo target it v
    assign target env v
    let mut ok:=true
    for c in ifs do
     if ok then ok <- isTrue c env (eval c env)
    if ok then
     (do let _ <- call (.builtin "list.append") [acc,<- eval elt env])
    again (.compLoop e d it acc env))
theorem aff{elt target iter:an}{ifs:List an}{scope:dY}{pos:Pos}:NE (.ListComp elt [⟨target,iter,ifs,0⟩] scope pos) 0 elt target iter ifs:=fun _ _ _=>rfl
theorem afg{elt target iter:an}{g:dQ}{ifs:List an}{scope:dY}{pos:Pos}:NE (.ListComp elt [g,⟨target,iter,ifs,0⟩] scope pos) 1 elt target iter ifs:=fun _ _ _=>rfl
theorem Bj{gs:List dQ}{scope:dY}{pos:Pos}{d:Nat}{elt target iter:an}{ifs:List an}{it acc:ah}{env:Env}(hT:NE (.ListComp elt gs scope pos) d elt target iter ifs)(I:Nat->az->Prop)
  (turn: ∀n s,I n s->wpAny (model prog w) A (pyNext it) (fun r bt=>match r with
   |none=>R (.ok .next) bt
   |some v=>wpAny (model prog w) A (letOwnedTupleGo target it v) (fun _ QL=>wpAny (model prog w) A (assign target env v) (fun _ dU=>
     wpAny (model prog w) A (forIn ifs true fun c r=>if r=true then do let ok <- isTrue c env (eval c env);pure (gH ok)else pure (gH r)) (fun ok jK=>
      if ok=true then wpAny (model prog w) A (eval elt env) (fun x oG=>
       wpAny (model prog w) A (call (.builtin "list.append") [acc,x]) (fun _ sI=> ∃m,m<n/\I m sI) dw oG) dw jK
      else ∃m,m<n/\I m jK) dw dU) dw QL) dw bt) dw s)
  (n:Nat)(h:I n s):codeAny (model prog w) A (.compLoop (.ListComp elt gs scope pos) d it acc env) R s:=by
 refine Og rfl I (fun n s hI=> ?_) n h
 show wpAny _ A ((compTurn (.ListComp elt gs scope pos) d it acc env).onRaise (fun x=>do noteFrame x env;theTreesLotGoes x)) _ _ s
 refine wpAny_noted ?_
 rw[hT it acc env]
 refine KY (aq (dA (aq (eC (turn n s hI) fun r bt sz=> ?_))))
 cases r with
 |none=>exact aL sz
 |some v=>
  refine aq (eC sz fun _ QL Z8=> ?_)
  refine aq (eC Z8 fun _ dU ahQ=>aq (eC ahQ fun ok jK aca=> ?_))
  cases ok with
  |false=>exact aL ⟨rfl,aca⟩
  |true=>
   exact aq (aq (eC aca fun x oG ahR=>aq (eC ahR fun _ sI XG=>aL (aL ⟨rfl,XG⟩))))
end
section
variable{X:FX}{k:Nat}{W W':Wd}{fr fr':Fm}{σ ai:AS}{s s':az}{A:b7}{h h':bO}{C:PC}
theorem St.forget(T:St X W fr σ s)(hf: ∀(j:Nat) b,fr'[j]? =some b->b= .unb\/fr[j]? =some b):St X W fr' σ s:=by
 obtain⟨R,⟨⟨m,a,b⟩,c,d,xP,d',CD⟩,S⟩:=T
 exact⟨R,⟨⟨m,a,fun i x e=>(hf i x e).elim .inl (b i x)⟩,c,d,xP,d',CD⟩,S⟩
def DP:List Nat->Fm->Fm
 |[],fr=>fr
 |x::xs,fr=>DP xs (put fr x .unb)
theorem C9: ∀(fr:Fm) (i:Nat) (a b:AV),put (put fr i a) i b=put fr i b:=by
 have nl: ∀(i:Nat) (a b:AV),put (put [] i a) i b=put [] i b:=fun i a b=>by
  induction i with
  |zero=>rfl
  |succ i ih=>exact congrArg (AV.unb:: ·) ih
 intro fr
 induction fr with
 |nil=>exact nl
 |cons x r ih=>intro i a b;cases i with
  |zero=>rfl
  |succ i=>exact congrArg (x:: ·) (ih i a b)
theorem NU: ∀(fr:Fm) (i:Nat) (a:AV) (j:Nat) (b:AV),j≠i->fr[j]? =some b->(put fr i a)[j]? =some b:=by
 intro fr
 induction fr with
 |nil=>intro i a j b _ e;cases e
 |cons x r ih=>intro i a j b h e;cases i with
  |zero=>cases j with
   |zero=>exact absurd rfl h
   |succ j=>exact e
  |succ i=>cases j with
   |zero=>exact e
   |succ j=>exact ih i a j b (fun q=>h (congrArg _ q)) e
theorem Qs{fr gT:Fm}{i:Nat}(h: ∀(j:Nat) b,j≠i->fr[j]? =some b->b= .unb\/gT[j]? =some b): ∀(j:Nat) b,(put fr i .unb)[j]? =some b->b= .unb\/gT[j]? =some b:=fun j b e=>by
 rcases x8 _ _ _ _ _ e with⟨_,h⟩|⟨h1,h2|h2⟩
 ·exact .inl h
 ·exact h j b h1 h2
 ·exact .inl h2
inductive Tg(X:FX):List Nat->an->Prop where
 |name {i x p} (h:kj X i x):Tg X [i] (.Name x p)
 |two {i j is ts c p} (h:is=[i,j]) (N:qj X is ts) (ij:i≠j):Tg X is (.Tuple ts c p)
theorem Tg.snd(O:vi X)(O':G7 X){is:ac}{t:an}(g:Tg X is t):Sz X is t:=by
 cases g with
 |name h=>exact HL O O' h
 |two h N ij=>subst h;exact Lh O O' N
theorem Tg.binds{is:ac}{t:an}(g:Tg X is t){a:AV}:mo is a (DP is fr) σ=mo is a fr σ:=by
 cases g with
 |name h=>simp only[mo,DP,C9]
 |two h N ij=>
  rename_i i j ts c p
  subst h
  cases a<;>try rfl
  rename_i l
  show vO [i,j] l (put (put fr i .unb) j .unb)=vO [i,j] l fr
  match l with
  |[]=>rfl
  |[a]=>rfl
  |[a,b]=>
   show some (put (put (put (put fr i .unb) j .unb) i a) j b)=some (put (put fr i a) j b)
   rw[qv (put fr i .unb) .unb a (tx ij),C9,C9]
  |_::_::_::_=>rfl
theorem Tg.forget{is:ac}{t:an}(g:Tg X is t){a:AV}(e:mo is a fr σ=some fr'): ∀(j:Nat) b,(DP is fr)[j]? =some b->b= .unb\/fr'[j]? =some b:=by
 cases g with
 |name h=>
  cases e
  exact Qs fun j b h e=>.inr (NU _ _ _ _ _ h e)
 |two h N ij=>
  rename_i i j ts c p
  subst h
  revert e
  cases a<;>intro e<;>first|exact nn e|skip
  rename_i l
  match l,e with
  |[a,b],e=>
   cases e
   refine Qs fun m x hm e=> ?_
   rcases x8 _ _ _ _ _ e with⟨_,h⟩|⟨h3,h4|h4⟩
   ·exact .inl h
   ·exact .inr (NU _ _ _ _ _ hm (NU _ _ _ _ _ h3 h4))
   ·exact .inl h4
def NC(X:FX)(k:Nat)(m:BM)(ifs:List an):Prop:=
 ∀A,eN A k-> ∀W fr σ s,St X W fr σ s-> ∀b ai,m fr σ=some (b,ai)->
  wpAny (dI X.C) A (forIn ifs true fun c r=>if r=true then do let ok <- isTrue c X.env (eval c X.env);pure (gH ok)else pure (gH r)) (o6 X W fr b ai) dw s
theorem Mn:NC X k (fun _ σ=>some (true,σ)) []:=fun A R W fr σ s T b ai e=>by
 apply s2 e;exact wpAny_tests_nil (T.postB _)
theorem Mo{m:BM}{c:an}(h:nk X k m c):NC X k m [c]:=fun A R W fr σ s T b ai e=>wpAny_tests_one (h A R W fr σ s T b ai e)
structure GQ(X:FX)(W:Wd)(fr:Fm)(σ:AS)(I:aC)(l:List AV)(i:Nat)(S:Nat->bO->Prop)(fp:List aC)(P:Nat->ah->Prop)(D:aC)(acc:List AV)(s:az):Prop where
 T:St X W fr σ s
 w:il X W σ I l i s.heap S fp P
 L:ig X W σ D
 g: ∃vs n,s.heap.get? D=some (dC vs n)/\VL X.C W acc vs
def xF(X:FX)(k:Nat)(e:an)(d:Nat)(xs:ac)(body:List AV->Fm->AS->Option (List AV×AS)):Prop:=
 ∀A,eN A k-> ∀W fr σ s I l i S fp P D acc,D≠I->i<=l.length->GQ X W (DP xs fr) σ I l i S fp P D acc s-> ∀out aM,body (l.drop i) fr σ=some (out,aM)->acc.length+out.length<=4000000-> ∀R,
  (∀W' s',W.le W'->St X W' (DP xs fr) aM s'->ig X W' aM D->(∃vs n,s'.heap.get? D=some (dC vs n)/\VL X.C W' (acc++out) vs)->R (.ok .next) s')->
  codeAny (dI X.C) A (.compLoop e d (.ref I) (.ref D) X.env) R s
theorem il.but{I D:aC}{l:aa}{i:Nat}{S:Nat->bO->Prop}{fp:List aC}{P:Nat->ah->Prop}(w:il X W σ I l i h S fp P)(hD:D≠I)(him:W.im D=none)(hk: ∀b o,b≠D->h.get? b=some o->h'.get? b=some o):il X W σ I l i h' S fp P:=by
 obtain⟨⟨pi,It⟩,st,L⟩:=w
 refine⟨⟨pi,It⟩,(It.walks {} rfl).frame i _ _ st fun b hb o' e'=>hk b o' ?_ e',L⟩
 rcases It.fp b hb with rfl|⟨oo,z⟩
 ·exact tx hD
 ·rintro rfl;rw[him]at z;cases z
section
variable{I D:aC}{l acc:aa}{i:Nat}{S:Nat->bO->Prop}{fp:List aC}{P:Nat->ah->Prop}
theorem GQ.forget(h:GQ X W fr σ I l i S fp P D acc s)(hf: ∀(j:Nat) b,fr'[j]? =some b->b= .unb\/fr[j]? =some b):GQ X W fr' σ I l i S fp P D acc s:=⟨h.T.forget hf,h.w,h.L,h.g⟩
theorem GQ.pin(h:GQ X W fr σ I l i S fp P D acc s)(hD:D≠I): ∃FO,St X FO fr σ s/\FO.ρ=W.ρ/\FO.im=W.im/\(∀b,FO.pr b=none->W.pr b=none/\b≠I/\b≠D)/\
  ∀{bm:Wd} {fr':Fm} {ai:AS} {s':az},FO.le bm->St X bm fr' ai s'-> ∃cA,W.le cA/\cA.ρ=bm.ρ/\cA.im=bm.im/\GQ X cA fr' ai I l i S fp P D acc s':=by
 obtain⟨T,w,L,vs,n,g,q⟩:=h
 refine eX (w.pin T) fun oI bz back=> ?_
 have Su:ig X (W.pin I oI) σ D:=⟨L.im,by rw[jB hD];exact L.pr,L.cell,L.out⟩
 refine⟨_,bz.pin Su g,rfl,rfl,fun b e=> ?_,fun{bm fr' ai s'} bD jb=> ?_⟩
 ·have h1:b≠D:=fun q=>by rw[q,Jm]at e;cases e
  rw[jB h1]at e
  have h2:b≠I:=fun q=>by rw[q,Jm]at e;cases e
  rw[jB h2]at e
  exact⟨e,h2,h1⟩
 ·refine Xm (St.unpin bD Su jb) fun le3 T4 g4 L4=> ?_
  refine ug (back le3 T4) fun le5 T5 w5=> ?_
  exact⟨_,le5,rfl,rfl,T5,w5,⟨L4.im,L.pr,L4.cell,L4.out⟩,vs,n,g4,q.mono le5⟩
theorem GQ.push(h:GQ X W fr σ I l i S fp P D acc s)(hD:D≠I){a:AV}{v:ah}(hv:V X.C W a v)(hN:acc.length<4000000){Q:ah->az->Prop}(kk: ∀s',GQ X W fr σ I l i S fp P D (acc++[a]) s'->Q .none s'):wpAny (dI X.C) A (call (.builtin "list.append") [.ref D,v]) Q dw s:=by
 obtain⟨T,w,L,vs,n,g,q⟩:=h
 refine vf (items:=vs.toArray) ⟨n,g⟩ (fun h' hp hs=> ?_) (by rw[aZ,q.length];exact au (i8 hN) (by decide))
 obtain⟨n',hg'⟩:=hp
 rw[E0]at hg'
 exact kk _ ⟨T.but L (fun b o hb e=>hs.extBut b o hb e) _,w.but hD L.im fun b o hb e=>hs.extBut b o hb e,L,_,n',hg',q.append (VL.one hv)⟩
def Fy(X:FX)(W:Wd)(CJ:Fm)(body:List AV->AS->Option (List AV×AS))(I:aC)(l:aa)(S:Nat->bO->Prop)(fp:List aC)(P:Nat->ah->Prop)(D:aC)(tot:aa)(aM:AS)(n:Nat)(s:az):Prop:=
 ∃i W' σ acc out,n=l.length-i/\i<=l.length/\W.le W'/\GQ X W' CJ σ I l i S fp P D acc s/\body (l.drop i) σ=some (out,aM)/\acc++out=tot
theorem Fy.less{CJ:Fm}{body:List AV->AS->Option (List AV×AS)}{tot out:aa}{aM:AS}(hi:i<l.length)(le:W.le W')(La:GQ X W' CJ σ I l (i+1) S fp P D acc s)(e:body (l.drop (i+1)) σ=some (out,aM))(h:acc++out=tot): ∃m,m<l.length-i/\Fy X W CJ body I l S fp P D tot aM m s:=
 ⟨l.length-(i+1),YQ hi,i+1,W',σ,acc,out,rfl,hi,le,La,e,h⟩
theorem Fy.turn{CJ:Fm}{body:List AV->AS->Option (List AV×AS)}{tot:aa}{aM:AS}{n:Nat}(h:Fy X W CJ body I l S fp P D tot aM n s)(hA:A.handled=none)(hD:D≠I){Q:Option ah->az->Prop}
  (hnil: ∀W' σ acc out bt,W.le W'->St X W' CJ σ bt->ig X W' σ D->(∃vs n,bt.heap.get? D=some (dC vs n)/\VL X.C W' acc vs)->body [] σ=some (out,aM)->acc++out=tot->Q none bt)
  (hcons: ∀i W' σ acc out a v bt,i<l.length->n=l.length-i->W.le W'->GQ X W' CJ σ I l (i+1) S fp P D acc bt->V X.C W' a v->body (a::l.drop (i+1)) σ=some (out,aM)->acc++out=tot->Q (some v) bt):wpAny (dI X.C) A (pyNext (.ref I)) Q dw s:=by
 obtain⟨i,W',σ,acc,out,hn,hi,le,⟨T,w,L,vs,m,g,q⟩,e,hEq⟩:=h
 cases hd:l.drop i with
 |nil=>
  rw[hd]at e
  exact w.done T hA hi hd fun bt bz hk=>hnil W' σ acc out bt le bz L ⟨vs,m,hk _ _ hD g,q⟩ e hEq
 |cons a r=>
  rw[hd]at e
  obtain⟨hi',rfl⟩:=Pt hd
  exact w.item T hA hd fun v bt bz aqP pM hk=>hcons i W' σ acc out a v bt hi' hn le ⟨bz,aqP,L,vs,m,hk _ _ hD g,q⟩ pM e hEq
end
theorem aga{xs:ac}{c:BM}{elt:EM}{a:AV}{r out:aa}{aM:AS}(e:eI xs c elt (a::r) fr σ=some (out,aM)){Q:Prop}(kk: ∀gT b ay,mo xs a fr σ=some gT->c gT σ=some (b,ay)->
  (bif b then bC (elt gT ay) (fun y ai=>bC (eI xs c elt r fr ai) fun o cN=>some (y::o,cN))else eI xs c elt r fr ay)=some (out,aM)->Q):Q:=
 oE (show ob (mo xs a fr σ) (fun fr'=>bC (c fr' σ) fun t ai=>bif t then bC (elt fr' ai) (fun b fW=>bC (eI xs c elt r fr fW) fun l cN=>some (b::l,cN))else eI xs c elt r fr ai)=some (out,aM) from e) fun gT h1 e=>fR e fun b ay h2 e=>kk gT b ay h1 h2 e
theorem al6{a b c d:aa}{y:AV}{n:Nat}(h:a++(y::b)=c++d)(hN:c.length+d.length<=n):a.length<n:=by
 have:=congrArg na h
 rw[ao,ao,bT]at this
 omega
theorem To(O:vi X)(O':G7 X){gs:List dQ}{scope:dY}{pos:Pos}{d:Nat}{xs:ac}{tg iter ee:an}{c:BM}{elt:EM}{ifs:List an}(hT:NE (.ListComp ee gs scope pos) d ee tg iter ifs)(g:Tg X xs tg)(hc:NC X k c ifs)(he:b8 X k elt ee):
  xF X k (.ListComp ee gs scope pos) d xs (eI xs c elt):=fun A Rm W fr σ s I l i S fp P D acc hD hi La out aM e hN R hR=>by
 refine Bj hT (Fy X W (DP xs fr) (fun l σ=>eI xs c elt l fr σ) I l S fp P D (acc++out) aM) (fun n s' h=>h.turn Rm.handled hD (fun W' σ acc' out' bt le T L g e hEq=> ?_) fun i W' σ acc' out' a v bt hi' hn le La z e hEq=> ?_) (l.length-i)
  ⟨i,W,σ,acc,out,rfl,hi,.refl _,La,e,rfl⟩
 ·cases e
  rw[aR]at hEq
  exact hR W' bt le T L (hEq▸g)
 ·subst hn
  refine aga e fun gT b ay e1 e2 e=>La.w.go ?_
  refine ane (La.pin hD) fun FO cP xU him _ back=> ?_
  refine eC (g.snd O O' A Rm.handled FO _ σ bt cP a v (z.pr xU him) gT (by rw[g.binds];exact e1)) fun _ dU jb=>eC (hc A Rm FO gT σ dU jb b ay e2) fun ok jK z=>z.elim fun xI gY om=> ?_
  cases b with
  |false=>
   rw[if_neg (by decide)]
   refine ui (back gY om) fun WS le5 _ _ Zf=> ?_
   exact Fy.less hi' (le.trans le5) (Zf.forget (g.forget (σ:=σ) (a:=a) e1)) e hEq
  |true=>
   rw[if_pos rfl]
   rw[af]at e
   refine fR e fun y vb e5 e=>fR e fun o' apG e6 e=> ?_
   cases e
   refine he.go Rm om e5 fun x oG am5 Qe xH anI=> ?_
   refine ui (back (gY.trans Qe) xH) fun WS le5 hV1 hV2 Zf=> ?_
   exact Zf.push hD (anI.pr hV1 hV2) (al6 hEq hN) fun s' wB=>Fy.less hi' (le.trans le5) (wB.forget (g.forget (σ:=σ) (a:=a) e1)) e6 (by rw[aB];exact hEq)
end
end
end
section
open PySem.SeqAt
noncomputable section
section
variable{X:FX}{k:Nat}{W W':Wd}{fr fr':Fm}{σ ai:AS}{s s':az}{A:b7}{h h':bO}{C:PC}
noncomputable def FX.inner(X:FX)(scope:dY)(cl:List (Str×aC))(nm:Nat->Option Str)(L:aC)(nw:az):FX:={C:=X.C,env:=compEnvC scope cl L X.env,names:=nm,own:=[L],nw:=nw}
structure El(X:FX)(scope:dY)(cl:List (Str×aC))(nm:Nat->Option Str)(xs:List Nat):Prop where
 clos:closureFor scope X.env=pure cl
 kind:scope.kind= .function
 nocell: ∀y∈scope.names,y.2≠ .cell
 locals: ∀y∈scope.names,y.2= .local->scope.names.lookup y.1=some .local
 vis: ∀i x,nm i=some x->i∈xs\/(X.names i=some x/\(X.env.kindOf x=some .cell\/X.env.kindOf x=some .free)/\((relabel scope X.env).names.lookup x=some .cell\/(relabel scope X.env).names.lookup x=some .free)/\cl.lookup x=X.env.cells.lookup x)
 sub: ∀n c,cl.lookup n=some c->X.env.cells.lookup n=some c
 apart:cl.Pairwise fun x y=>x.2≠y.2
 plain: ∀i x,nm i=some x->(x==("__debug__":Str)||x==("__classdict__":Str))=false
theorem afh: ∀(xs:ac) (fr:Fm) (i:Nat) (a:AV),(DP xs fr)[i]? =some a->a= .unb\/(i∉xs/\fr[i]? =some a):=by
 intro xs
 induction xs with
 |nil=>exact fun fr i a e=>.inr ⟨bg,e⟩
 |cons x xs ih=>
  intro fr i a e
  rcases ih (put fr x .unb) i a e with h|⟨h1,h2⟩
  ·exact .inl h
  ·rcases x8 _ _ _ _ _ h2 with⟨_,h⟩|⟨h3,h4|h4⟩
   ·exact .inl h
   ·exact .inr ⟨fun q=>(aG.mp q).elim h3 h1,h4⟩
   ·exact .inl h4
theorem jc.ex{X:FX}{m:Str->Option ah}{x:Str}{v:ah}(q:jc X h m x v)(hk:X.env.kindOf x=some .cell\/X.env.kindOf x=some .free): ∃c,X.env.cells.lookup x=some c/\h.IsCell c (some v):=by
 unfold jc at q
 rcases hk with hk|hk<;>rw[hk]at q<;>exact q
theorem jc.mk{X:FX}{m:Str->Option ah}{x:Str}{v:ah}(hk:X.env.kindOf x=some .cell\/X.env.kindOf x=some .free)(q: ∃c,X.env.cells.lookup x=some c/\h.IsCell c (some v)):jc X h m x v:=by
 unfold jc
 rcases hk with hk|hk<;>rw[hk]<;>exact q
theorem adU(O:vi X){scope:dY}{cl:List (Str×aC)}{nm:Nat->Option Str}{xs:ac}{L:aC}{nw:az}(K:El X scope cl nm xs)(hL: ∀n c,X.env.cells.lookup n=some c->c≠L):vi (X.inner scope cl nm L nw):=
 ⟨K.kind,O.glob,O.blt,aO.mpr rfl,K.apart,fun n c e=>hL n c (K.sub n c e),K.plain⟩
theorem St.inner(T:St X W fr σ s){scope:dY}{cl:List (Str×aC)}{nm:Nat->Option Str}{xs:ac}{L:aC}{m:Str->Option ah}(K:El X scope cl nm xs)(hL:s.heap.objs.size<=L)
  (hk: ∀b o,s.heap.get? b=some o->h'.get? b=some o)(hn:h'.Ns L m)(t:Nat)(ht:s.toks<=t):St (X.inner scope cl nm L s) (W.guard X s.heap) (DP xs fr) σ {s with heap:=h',toks:=t}:=by
 have nH: ¬X.Has L:=fun hc=>absurd (T.fr.lt hc) (ci.mpr hL)
 have has: ∀c,(X.inner scope cl nm L s).Has c->c=L\/X.Has c:=fun c hc=>by
  rcases hc with e|⟨n,e⟩|e
  ·exact .inl e
  ·exact .inr (.inr (.inl ⟨n,K.sub n c e⟩))
  ·exact .inl (aO.mp e)
 have kc: ∀c w,s.heap.IsCell c w->h'.IsCell c w:=fun c w ⟨o,p,q⟩=>⟨o,hk _ _ p,q⟩
 refine⟨(T.guard).keeps hk,⟨⟨m,hn,fun i a e=> ?_⟩,fun n c e=> ?_,fun c hc=> ?_,fun c hc=> ?_,fun c hc=> ?_,fun c hc=> ?_⟩,T.sm.pos,⟨_,_,rfl,ht⟩⟩
 ·rcases afh xs fr i a e with h|⟨h1,h2⟩
  ·exact .inl h
  ·refine eX (T.fr.vars) fun aqX aqT hv=> ?_
   refine(hv i a h2).imp id fun f x hx=> ?_
   rcases K.vis i x hx with h|⟨v1,v2,v3,v4⟩
   ·exact absurd h h1
   ·refine eX (f x v1) fun v q r=> ?_
    refine eX (q.ex v2) fun c e1 e2=> ?_
    exact⟨v,jc.mk v3 ⟨c,by rw[show(X.inner scope cl nm L s).env.cells=cl from rfl,v4];exact e1,kc _ _ e2⟩,r.pr rfl rfl⟩
 ·obtain⟨v,z⟩:=T.fr.cells n c (K.sub n c e);exact⟨v,kc _ _ z⟩
 ·rcases has c hc with rfl|hc
  ·exact T.rel.cell_new hL
  ·exact T.fr.apart c hc
 ·rcases has c hc with rfl|hc
  ·exact T.rel.im_new hL
  ·exact T.fr.sep c hc
 ·rw[aO.mp hc,kq nH];exact T.rel.pr_new hL
 ·rcases has c hc with rfl|hc
  ·obtain⟨o,_,_,z,_⟩:=hn;exact⟨o,z⟩
  ·obtain⟨o,z⟩:=T.fr.live c hc;exact⟨o,hk _ _ z⟩
def CP(X:FX)(W:Wd)(fr:Fm)(ai:AS)(a:AV)(D C:aC)(s':az):Prop:= ∃W',W.le W'/\St X W' fr ai s'/\V X.C W' a (.ref D)/\ig X W' ai C/\ ∃m,s'.heap.Ns C m
theorem Pj(T:St X W fr σ s){scope:dY}{cl:List (Str×aC)}{nm:Nat->Option Str}{xs:ac}(K:El X scope cl nm xs){I:aC}{l:aa}{S:Nat->bO->Prop}{fp:List aC}{P:Nat->ah->Prop}
  (LI:ig X W σ I)(It:xo X W σ I l s.heap S fp P){e:an}{body:List AV->Fm->AS->Option (List AV×AS)}{ee tg it:an}{ifs:List an}{rest:List dQ}{pos:Pos}(he:e= .ListComp ee (⟨tg,it,ifs,0⟩::rest) scope pos)
  (hloop: ∀L,(∀n c,X.env.cells.lookup n=some c->c≠L)->xF (X.inner scope cl nm L s) k e 0 xs body)(Rm:eN A k){out:List AV}{aM:AS}(eb:body l fr σ=some (out,aM))(hN:out.length<=4000000){RR:ah->aC->tP->az->Prop}
  (hRR: ∀D C s',CP X W fr (aM.alloc (.lst out)) (.ref aM.next) D C s'->RR (.ref D) C (.ok .next) s'):
  wpAny (dI X.C) A (newList []) (fun acc jK=>wpAny (dI X.C) A (newFunctionEnv scope X.env.globals cl [] X.env.qual none .none (some X.env)) (fun cenv oG=>
   codeAny (dI X.C) A (.compStart e 0 (.ref I) acc {cenv with scope:=relabel scope X.env}) (RR acc cenv.locals) oG) dw jK) dw s:=by
 subst he
 refine gO (wpAny_newFunctionEnv K.nocell (by intro y hy;simp at hy) (fun sz Ve NO=> ?_) K.kind)
 dsimp only at Ve NO ⊢
 generalize hH2:s.heap.push {cls:=.type "list",dict:=none,data:=.seq ([]:List ah).toArray}=H2 at Ve NO ⊢
 have hC:H2.objs.size=s.heap.objs.size+1:=by rw[<- hH2,p8]
 have hDC:s.heap.objs.size≠H2.objs.size:=by rw[hC];exact ct (bU _)
 have hCle:s.heap.objs.size<=H2.objs.size:=by rw[hC];exact cR _
 have old: ∀b o,s.heap.get? b=some o->sz.get? b=some o:=fun b o e=>NO.extBut b o (ct (fe (cv e) hCle)) (bH _ (hH2▸bH _ e))
 have gD:sz.get? s.heap.objs.size=some (dC [] 0):=NO.extBut _ _ hDC (bH _ (hH2▸bp _ rfl))
 have T':=T.inner (nm:=nm) (xs:=xs) K hCle old Ve (s.toks+([]:List (Str×ah)).length) (cY _ _)
 have nHas: ∀c,s.heap.objs.size<=c-> ¬X.Has c:=fun c hc hX=>absurd (T.fr.lt hX) (ci.mpr hc)
 have hasI: ∀c,(X.inner scope cl nm H2.objs.size s).Has c->c=H2.objs.size\/X.Has c:=fun c hc=>by
  rcases hc with e|⟨n,e⟩|e
  ·exact .inl e
  ·exact .inr (.inr (.inl ⟨n,K.sub n c e⟩))
  ·exact .inl (aO.mp e)
 refine SS (It.obj 0 _ It.st) fun oI nI gI _=> ?_
 have hI:I<s.heap.objs.size:=cv gI
 have LI':ig (X.inner scope cl nm H2.objs.size s) (W.guard X s.heap) σ I:=
  ⟨LI.im,by rw[kq LI.out];exact LI.pr,LI.cell,fun hc=>(hasI _ hc).elim (fun e=>absurd hI (by rw[e];exact ci.mpr hCle)) LI.out⟩
 have LD:ig (X.inner scope cl nm H2.objs.size s) (W.guard X s.heap) σ s.heap.objs.size:=
  ⟨T.rel.im_new (ax _),by rw[kq (nHas _ (ax _))];exact T.rel.pr_new (ax _),T.rel.cell_new (ax _),fun hc=>(hasI _ hc).elim hDC (nHas _ (ax _))⟩
 have hst:S 0 sz:=(It.walks {} rfl).frame 0 _ _ It.st fun b _ o e=>old b o e
 have w:il (X.inner scope cl nm H2.objs.size s) (W.guard X s.heap) σ I l 0 sz S fp P:=
  ⟨⟨sz,⟨It.walks,hst,It.fp,fun i v hi p=>let⟨a,e,r⟩:=It.val i v hi p;⟨a,e,r.pr rfl rfl⟩,It.obj⟩⟩,hst,LI'⟩
 have loop: ∀jK:az,jK={s with heap:=sz,toks:=s.toks+([]:List (Str×ah)).length}->
   codeAny (dI X.C) A (.compLoop (.ListComp ee (⟨tg,it,ifs,0⟩::rest) scope pos) 0 (.ref I) (.ref s.heap.objs.size) (compEnvC scope cl H2.objs.size X.env)) (RR (.ref s.heap.objs.size) H2.objs.size) jK:=by
  rintro jK rfl
  refine hloop H2.objs.size (fun n c e=> ?_) A Rm (W.guard X s.heap) fr σ _ I l 0 S fp P s.heap.objs.size [] (ct hI).symm (aU _) ⟨T',w,LD,[],0,gD,VL.nil⟩ out aM eb (by rw[H4,ic];exact hN) _ fun W' s' le cP BP g=> ?_
  ·exact ct (fe (T.fr.lt (.inr (.inl ⟨n,e⟩))) hCle)
  ·refine SS (g) fun vs' n' ap4 j0=> ?_
   have OM:=cP.rel
   have apO:cC X.C (W'.addId aM.next (s.heap.objs.size,s.heap.objs.size)) (aM.alloc (.lst out)) s'.heap:=
    OM.alloc (p:=(s.heap.objs.size,s.heap.objs.size)) ⟨rfl,vs',n',ap4,j0.mono (Wd.le_addId (OM.fresh _ (ax _)))⟩ BP.im BP.pr BP.cell
   obtain⟨aot,om⟩:=T.back (le.trans (Wd.le_addId (OM.fresh _ (ax _)))) apO cP.sm.2
   refine eX (cP.fr.vars) fun aii PO _=> ?_
   refine hRR _ _ s' ⟨_,aot,om,rh (W:={W' with pr:=W.pr}),⟨cP.fr.sep _ (.inl rfl),T.rel.pr_new hCle,fun a cc p e e' q=> ?_,nHas _ hCle⟩,aii,PO⟩
   rw[AS.get_alloc]at e
   have e':(if a=aM.next then some (s.heap.objs.size,s.heap.objs.size)else W'.ρ a)=some p:=e'
   by_cases z:a=aM.next
   ·rw[if_pos z]at e';cases e';exact hDC q
   ·rw[if_neg z]at e e';exact cP.fr.apart _ (.inl rfl) a cc p e e' q
 exact codeAny_compStart_list (loop _ rfl) (KY ((It.walks A Rm.handled).self 0 _ _ _ hst (loop _ rfl)))
def th(it:EM)(body:List AV->Fm->AS->Option (List AV×AS)):EM:=fun fr σ=>bC (it fr σ) fun x ai=>bC (fE ai x) fun l ay=>bC (body l fr ay) fun vs aM=>bif dB vs.length then some (.ref aM.next,aM.alloc (.lst vs))else none
theorem SV{it:EM}{body:List AV->Fm->AS->Option (List AV×AS)}{a:AV}(e:th it body fr σ=some (a,ai)){Q:AV->AS->Prop}(kk: ∀x Lw l ay vs aM,it fr σ=some (x,Lw)->fE Lw x=some (l,ay)->body l fr ay=some (vs,aM)->vs.length<=4000000->Q (.ref aM.next) (aM.alloc (.lst vs))):Q a ai:=
 fR e fun x Lw e1 e=>fR e fun l ay e2 e=>fR e fun vs aM e3 e=>kS e fun z e=>by
  apply s2 e;exact kk x Lw l ay vs aM e1 e2 e3 (jP z)
theorem aaZ{scope:dY}{cl:List (Str×aC)}{nm:Nat->Option Str}{xs:ac}(K:El X scope cl nm xs){it:EM}{body:List AV->Fm->AS->Option (List AV×AS)}{ee tg ie:an}{ifs:List an}{rest:List dQ}{pos:Pos}
  (hi:b8 X k it ie)(hs: ∀x,foldedSetIterable ie X.env x=pure x)
  (hloop: ∀s L,(∀n c,X.env.cells.lookup n=some c->c≠L)->xF (X.inner scope cl nm L s) k (.ListComp ee (⟨tg,ie,ifs,0⟩::rest) scope pos) 0 xs body):b8 X k (th it body) (.ListComp ee (⟨tg,ie,ifs,0⟩::rest) scope pos):=fun A Rm W fr σ s T a ai e=>by
 apply SV e;intro x Lw l ay vs aM e1 e2 e3 e4
 show wpAny _ _ (comprehension (.ListComp ee (⟨tg,ie,ifs,0⟩::rest) scope pos) scope X.env _ (newList []) false (eval ie X.env)) _ _ _
 refine tW (use:=none) rfl hs K.clos K.kind K.locals (hi.go Rm T e1 fun v bt bm bD bz pM=>eC (vV bz e2 pM) fun it dU z=>z.elim fun I cA S fp P dP cP BP It=> ?_)
 refine Pj cP K BP It rfl (hloop dU) Rm e3 e4 (RR:=fun acc C=>compPost (dI X.C) A dw none (fP X W fr (.ref aM.next) (aM.alloc (.lst vs))) acc C) fun D C s' h=> ?_
 obtain⟨W',le,T',q,LC,m,hm⟩:=h
 exact⟨m,hm,fun h' hs=>⟨W',bD.trans (dP.trans le),T'.but LC (fun b o hb e=>hs.extBut b o hb e) _,q⟩⟩
theorem aeQ(O:vi X)(O':G7 X){scope:dY}{cl:List (Str×aC)}{nm:Nat->Option Str}{xs:ac}(K:El X scope cl nm xs){it:EM}{body:List AV->Fm->AS->Option (List AV×AS)}{ee tg ie:an}{ifs:List an}{rest:List dQ}{pos spos:Pos}
  (hi:b8 X k it ie)(hs: ∀x,foldedSetIterable ie X.env x=pure x)
  (hloop: ∀s L,(∀n c,X.env.cells.lookup n=some c->c≠L)->xF (X.inner scope cl nm L s) k (.ListComp ee (⟨tg,ie,ifs,0⟩::rest) scope pos) 0 xs body)
  {i:Nat}{y:Str}{py:Pos}(hx:kj X i y)(hsw:swapsWith (.ListComp ee (⟨tg,ie,ifs,0⟩::rest) scope pos) (some (.Name y py)) spos.line X.env=pure true):
  lI X k (cT [i] (th it body)) (.Assign [.Name y py] (.ListComp ee (⟨tg,ie,ifs,0⟩::rest) scope pos) spos):=fun A Rm W fr σ s T r q=>by
 apply Ju q;intro a ai fr' e q2
 revert q2
 apply SV e;intro x Lw l ay vs aM e1 e2 e3 e4 q2
 apply s1 q2
 rw[exec_Assign_Name_used _ _ _ _ hsw]
 refine aq (dA (aq ?_))
 show wpAny _ A (do let _ <- comprehension (.ListComp ee (⟨tg,ie,ifs,0⟩::rest) scope pos) scope X.env _ (newList []) false (eval ie X.env) (some (assign (.Name y py) X.env))) _ _ s
 generalize hQ:Cf X W (.next (put fr i (.ref aM.next)) (aM.alloc (.lst vs)))=QQ
 refine aq (eC (tW (use:=some (assign (.Name y py) X.env)) (Q:=fun _ s'=>QQ .next s') rfl hs K.clos K.kind K.locals
  (hi.go Rm T e1 fun v bt bm bD bz pM=>eC (vV bz e2 pM) fun it dU z=>z.elim fun I cA S fp P dP cP BP It=> ?_)) fun _ s' hq=>aL (aL hq))
 refine Pj cP K BP It rfl (hloop dU) Rm e3 e4 (RR:=fun acc C=>compPost (dI X.C) A dw (some (assign (.Name y py) X.env)) (fun _ s'=>QQ .next s') acc C) fun D C s' h=> ?_
 obtain⟨W',le,T',q,LC,m,hm⟩:=h
 refine Xo (hm) fun oC es ep gC hr=> ?_
 show wpAny _ A (assign (.Name y py) X.env (.ref D)) _ _ _
 refine lA (eC ((T'.pin LC gC).store O O' hx.1 hx.2 (q.pr rfl rfl)) fun _ oG om=> ?_)
 refine Xm (St.unpin (.refl _) LC om) fun aou xH ap5 apN=> ?_
 exact⟨m,⟨oC,es,ep,ap5,hr⟩,fun h' hs=>by rw[<- hQ];exact⟨rfl,_,bD.trans (dP.trans (le.trans aou)),xH.but apN (fun b o hb e=>hs.extBut b o hb e) _⟩⟩
end
end
end
section
open PySem.SeqAt
noncomputable section
section
variable{prog:fY}{w:dZ}{A:b7}{R:tP->az->Prop}{s:az}
theorem zj{elt target iter it acc env scope pos}{g:dQ}
  (h0:codeAny (model prog w) A (.compLoop (.ListComp elt [g,⟨target,iter,[],0⟩] scope pos) 1 it acc env) R s)
  (h:wpAny (model prog w) A (pyIter it) (fun it' s'=>codeAny (model prog w) A (.compLoop (.ListComp elt [g,⟨target,iter,[],0⟩] scope pos) 1 it' acc env) R s') dw s):
  codeAny (model prog w) A (.compStart (.ListComp elt [g,⟨target,iter,[],0⟩] scope pos) 1 it acc env) R s:=by
 refine Ib ?_
 show wpAny _ _ ((compStart (.ListComp elt [g,⟨target,iter,[],0⟩] scope pos) 1 it acc env).onRaise (fun x=>do noteFrame x env;standAt theWindowsPlace)) _ _ s
 refine wpAny_notedAt (KY ?_)
 unfold compStart
 show wpAny _ _ (ask>>=_) _ _ s
 refine aq (GB (wpAny_ite ?_))
 split
 ·first
   |exact aq (aL (aL (hZ rfl h0)))
   |exact aL (hZ rfl h0)
 ·first
   |exact aq (Ig (aq (dA (aq (jw h (fun it' s' h'=>aL (hZ rfl h')) fun _ _ x=>x)))))
   |(refine aq (Ig ?_);show wpAny _ _ (standAt iter.pos>>=_) _ _ s;exact aq (dA (aq (jw h (fun it' s' h'=>aL (hZ rfl h')) fun _ _ x=>x))))
theorem Ph(elt t1 i1 t2 i2:an)(scope:dY)(pos:Pos)(it acc:ah)(env:Env):
  compTurn (.ListComp elt [⟨t1,i1,[],0⟩,⟨t2,i2,[],0⟩] scope pos) 0 it acc env=(do
   standAt i1.pos
   match <- pyNext it with
   |none=>pure (.done .next)
   |some v=>
    letOwnedTupleGo t1 it v
    assign t1 env v
    let x <- eval i2 env
    standAt i2.pos
    let x <- foldedSetIterable i2 env x
    let _ <- runOwn (.compStart (.ListComp elt [⟨t1,i1,[],0⟩,⟨t2,i2,[],0⟩] scope pos) 1 (<- holding [x] (pyIter x)) acc env) env
    again (.compLoop (.ListComp elt [⟨t1,i1,[],0⟩,⟨t2,i2,[],0⟩] scope pos) 0 it acc env)):=by rfl
theorem zi{elt t1 i1 t2 i2:an}{scope:dY}{pos:Pos}{it acc:ah}{env:Env}(hs: ∀x,foldedSetIterable i2 env x=pure x)(I:Nat->az->Prop)
  (turn: ∀n s,I n s->wpAny (model prog w) A (pyNext it) (fun r bt=>match r with
   |none=>R (.ok .next) bt
   |some v=>wpAny (model prog w) A (letOwnedTupleGo t1 it v) (fun _ QL=>wpAny (model prog w) A (assign t1 env v) (fun _ dU=>
     wpAny (model prog w) A (eval i2 env) (fun x jK=>wpAny (model prog w) A (pyIter x) (fun j oG=>
      codeAny (model prog w) A (.compStart (.ListComp elt [⟨t1,i1,[],0⟩,⟨t2,i2,[],0⟩] scope pos) 1 j acc env) (fun r sI=>r= .ok .next/\ ∃m,m<n/\I m sI) oG) dw jK) dw dU) dw QL) dw bt) dw s)
  (n:Nat)(h:I n s):codeAny (model prog w) A (.compLoop (.ListComp elt [⟨t1,i1,[],0⟩,⟨t2,i2,[],0⟩] scope pos) 0 it acc env) R s:=by
 refine Og rfl I (fun n s hI=> ?_) n h
 show wpAny _ A ((compTurn (.ListComp elt [⟨t1,i1,[],0⟩,⟨t2,i2,[],0⟩] scope pos) 0 it acc env).onRaise (fun x=>do noteFrame x env;theTreesLotGoes x)) _ _ s
 refine wpAny_noted ?_
 rw[Ph]
 refine KY (aq (dA (aq (eC (turn n s hI) fun r bt sz=> ?_))))
 cases r with
 |none=>exact aL sz
 |some v=>
  refine aq (eC sz fun _ QL Z8=> ?_)
  refine aq (eC Z8 fun _ dU ahQ=> ?_)
  refine aq (eC ahQ fun x jK aca=> ?_)
  refine aq (dA ?_)
  refine aq (wpAny_of_eq (hs x) ?_)
  refine aq (dJ (eC aca fun j oG ahR=> ?_))
  refine aq (wpAny_runOwn (h:=none) (Oh ahR fun r sI XG=> ?_))
  obtain⟨rfl,XG⟩:=XG
  exact aL ⟨rfl,XG⟩
end
section
variable{X:FX}{k:Nat}{W W':Wd}{fr fr':Fm}{σ ai:AS}{s s':az}{A:b7}{h h':bO}{C:PC}
theorem adg{x y:Nat}{it2 elt:EM}{a:AV}{r out:aa}{aM:AS}(e:jz x it2 y elt (a::r) fr σ=some (out,aM)){Q:List AV->Prop}(kk: ∀b ay l cN bs vb cs,it2 (put fr x a) σ=some (b,ay)->fE ay b=some (l,cN)->
  eI [y] (fun _ σ=>some (true,σ)) elt l (put fr x a) cN=some (bs,vb)->jz x it2 y elt r fr vb=some (cs,aM)->Q (bs++cs)):Q out:=
 fR (show bC (it2 (put fr x a) σ) (fun s ai=>bC (fE ai s) fun l ay=>bC (eI [y] (fun _ σ=>some (true,σ)) elt l (put fr x a) ay) fun bs fW=>bC (jz x it2 y elt r fr fW) fun cs cN=>some (bs++cs,cN))=some (out,aM) from e) fun b ay e1 e=>fR e fun l cN e2 e=>fR e fun bs vb e3 e=>fR e fun cs apG e4 e=>by
  cases e;exact kk b ay l cN bs vb cs e1 e2 e3 e4
theorem xo.walking{I:aC}{l:aa}{S:Nat->bO->Prop}{fp:List aC}{P:Nat->ah->Prop}(It:xo X W σ I l h S fp P)(L:ig X W σ I):il X W σ I l 0 h S fp P:=⟨⟨h,It⟩,It.st,L⟩
theorem xo.im{bm cA:Wd}{I:aC}{l:aa}{S:Nat->bO->Prop}{fp:List aC}{P:Nat->ah->Prop}(It:xo X bm σ I l h S fp P)(h1:cA.ρ=bm.ρ)(h2:cA.im=bm.im):xo X cA σ I l h S fp P:=
 ⟨It.walks,It.st,fun b hb=>by rw[h2];exact It.fp b hb,fun i v hi p=>let⟨a,e,r⟩:=It.val i v hi p;⟨a,e,r.pr h1 h2⟩,It.obj⟩
theorem al5{a b c d e:aa}{n:Nat}(h:a++(b++e)=c++d)(hN:c.length+d.length<=n):a.length+b.length<=n:=by
 have:=congrArg na h
 rw[ao,ao,ao]at this
 omega
theorem ad9(O:vi X)(O':G7 X){x y:Nat}{nx ny:Str}{px py:Pos}{it2 elt:EM}{ee i1 i2:an}{scope:dY}{pos:Pos}(hx:kj X x nx)(hy:kj X y ny)(hxy:x≠y)(hi:b8 X k it2 i2)(hs: ∀v,foldedSetIterable i2 X.env v=pure v)(he:b8 X k elt ee):
  xF X k (.ListComp ee [⟨.Name nx px,i1,[],0⟩,⟨.Name ny py,i2,[],0⟩] scope pos) 0 [x,y] (fun l fr σ=>jz x it2 y elt l (put fr y .unb) σ):=fun A Rm W fr σ s I l i S fp P D acc hD hi0 La out aM e hN R hR=>by
 have hfr:DP [x,y] fr=put (put fr y .unb) x .unb:=qv _ _ _ hxy
 rw[hfr]at La hR
 have hin:=To O O' (k:=k) (afg (g:=⟨.Name nx px,i1,[],0⟩) (scope:=scope) (pos:=pos)) (Tg.name (p:=py) hy) Mn he (iter:=i2)
 refine zi hs (Fy X W (put (put fr y .unb) x .unb) (fun l σ=>jz x it2 y elt l (put fr y .unb) σ) I l S fp P D (acc++out) aM) (fun n s' h=>h.turn Rm.handled hD (fun W' σ acc' out' bt le T L g e hEq=> ?_) fun i W' σ acc' out' a v bt hi' hn le La z e hEq=> ?_) (l.length-i)
  ⟨i,W,σ,acc,out,rfl,hi0,.refl _,La,e,rfl⟩
 ·cases e
  rw[aR]at hEq
  exact hR W' bt le T L (hEq▸g)
 ·subst hn
  revert hEq
  apply adg e;intro b ay l2 cN bs vb cs e1 e2 e3 e4 hEq
  refine La.w.go ?_
  refine ane (La.pin hD) fun FO cP xU him hpr back=> ?_
  have hfr2:DP [y] (put (put fr y .unb) x a)=put (put fr y .unb) x a:=by show put (put (put fr y .unb) x a) y .unb=_;rw[qv _ _ _ hxy,C9]
  refine eC (HL O O' hx A Rm.handled FO _ σ bt cP a v (z.pr xU him) (put (put fr y .unb) x a) (congrArg some (C9 _ _ _ _))) fun _ dU jb=> ?_
  refine hi.go Rm jb e1 fun xv jK xI gY om aqS=>eC (vV om e2 aqS) fun jv oG z=>z.elim fun J WS S2 fp2 P2 XV xH LJ It2=> ?_
  have l05:=gY.trans XV
  refine ug (hpr J (by rw[<- l05.2.2];exact LJ.pr)) fun hJp hJI hJD=> ?_
  refine ui (back l05 xH) fun IH le6 hV1 hV2 wB=> ?_
  have LJ6:ig X IH cN J:=⟨by rw[hV2];exact LJ.im,by rw[le6.2.2];exact hJp,fun a cc p e e'=>LJ.cell a cc p e (by rw[<- hV1];exact e'),LJ.out⟩
  refine eX (wB.w.pin wB.T) fun oI apQ back7=> ?_
  have anK:GQ X (IH.pin I oI) (put (put fr y .unb) x a) cN J l2 0 S2 fp2 P2 D acc' oG:=by
   refine SS (wB.g) fun vs m g q=> ?_
   exact⟨apQ,(show xo X (IH.pin I oI) cN J l2 oG.heap S2 fp2 P2 from It2.im hV1 hV2).walking ⟨LJ6.im,by rw[jB hJI];exact LJ6.pr,LJ6.cell,LJ6.out⟩,⟨wB.L.im,by rw[jB hD];exact wB.L.pr,wB.L.cell,wB.L.out⟩,vs,m,g,q.pr rfl rfl⟩
  have inner:codeAny (dI X.C) A (.compLoop (.ListComp ee [⟨.Name nx px,i1,[],0⟩,⟨.Name ny py,i2,[],0⟩] scope pos) 1 (.ref J) (.ref D) X.env) (fun r sI=>r= .ok .next/\ ∃m,m<l.length-i/\Fy X W (put (put fr y .unb) x .unb) (fun l σ=>jz x it2 y elt l (put fr y .unb) σ) I l S fp P D (acc++out) aM m sI) oG:=by
   refine hin A Rm (IH.pin I oI) (put (put fr y .unb) x a) cN oG J l2 0 S2 fp2 P2 D acc' (tx hJD) (aU _) (by rw[hfr2];exact anK) bs vb e3 (al5 hEq hN) _ fun apS sI aqb am4 afq g=>⟨rfl,?_⟩
   rw[hfr2]at am4
   refine SS (g) fun vs m ap6 aqC=> ?_
   refine ug (back7 aqb am4) fun le9 apR aqQ=> ?_
   have anL:GQ X {apS with pr:=IH.pr} (put (put fr y .unb) x .unb) vb I l (i+1) S fp P D (acc'++bs) sI:=⟨apR.forget (Qs fun j b h e=>.inr (NU _ _ _ _ _ h e)),aqQ,⟨afq.im,wB.L.pr,afq.cell,afq.out⟩,vs,m,ap6,aqC.pr rfl rfl⟩
   exact Fy.less hi' (le.trans (le6.trans le9)) anL e4 (by rw[aB];exact hEq)
  exact zj inner ((It2.walks A Rm.handled).self 0 _ _ _ It2.st inner)
end
end
end
section
open PySem.SeqAt
noncomputable section
section
variable{X:FX}{k:Nat}{W W':Wd}{fr fr':Fm}{σ ai:AS}{s s':az}{A:b7}{h h':bO}{C:PC}
theorem Ao: ∀{names:List (Str×cQ)} {n:Str} (m:Nat) (acc:List (Str×aC)),((n,eE)∈names\/(acc.lookup n).isSome=true)->((cellsFrom m names acc).lookup n).isSome=true:=by
 intro names
 induction names with
 |nil=>intro n m acc h;exact h.resolve_left bg
 |cons p r ih=>
  intro n m acc h
  obtain⟨x,kd⟩:=p
  unfold cellsFrom
  split
  ·refine ih _ _ ?_
   by_cases hx:n=x
   ·subst hx;exact .inr (by rw[gn];rfl)
   ·refine h.imp (fun h=>(aG.mp h).resolve_left fun e=>hx (congrArg Prod.fst e)) fun h=> ?_
    rw[cD,beq_eq_false_iff_ne.mpr hx];exact h
  ·rename_i hk
   refine ih _ _ (h.imp_left fun h=>(aG.mp h).resolve_left fun e=> ?_)
   cases e;exact hk rfl
theorem W7{kindOf:Str->Option cQ}: ∀{binds:List (Str×ah)} {m:Str->Option ah} {x:Str},x∉binds.map (·.1)->bindL kindOf binds m x=m x:=by
 intro binds
 induction binds with
 |nil=>exact fun _=>rfl
 |cons p r ih=>
  intro m x h
  obtain⟨n,v⟩:=p
  have h1:x≠n:=fun e=>h (e▸bf)
  show bindL kindOf r (if kindOf n=some .local then fun y=>if y=n then some v else m y else m) x=m x
  rw[ih fun q=>h (aQ _ q)]
  split
  ·exact if_neg h1
  ·rfl
theorem W6{kindOf:Str->Option cQ}: ∀{binds:List (Str×ah)} {m:Str->Option ah} {x:Str},x∉binds.map (·.1)->bindC kindOf binds m x=m x:=by
 intro binds
 induction binds with
 |nil=>exact fun _=>rfl
 |cons p r ih=>
  intro m x h
  obtain⟨n,v⟩:=p
  have h1:x≠n:=fun e=>h (e▸bf)
  show bindC kindOf r (if kindOf n=some .local then m else fun y=>if y=n then some v else m y) x=m x
  rw[ih fun q=>h (aQ _ q)]
  split
  ·rfl
  ·exact if_neg h1
theorem HU{ps:List Str}{ws:List ah}(hl:ws.length=ps.length):(ps.zip ws).map (·.1)=ps:=by
 rw[<- List.unzip_fst,List.unzip_zip_left (by omega)]
theorem ada{kindOf:Str->Option cQ}: ∀{ps:List Str} {ws:List ah} {m:Str->Option ah} {i:Nat} {x:Str} {v:ah},ps.Nodup->ps.length=ws.length->ps[i]? =some x->ws[i]? =some v->kindOf x=some .local->bindL kindOf (ps.zip ws) m x=some v:=by
 intro ps
 induction ps with
 |nil=>intro ws m i x v _ _ e;cases e
 |cons p ps ih=>
  intro ws m i x v hN hl e e' hk
  rw[dR]at hN
  cases ws with
  |nil=>cases e'
  |cons w ws=>
   have hl:=jV hl
   cases i with
   |zero=>
    have e:p=x:=aH e
    have e':w=v:=aH e'
    subst e e'
    show bindL kindOf (ps.zip ws) (if kindOf p=some .local then fun y=>if y=p then some w else m y else m) p=some w
    rw[W7 (by rw[HU hl.symm];exact hN.1),if_pos hk,if_pos rfl]
   |succ i=>exact ih hN.2 hl e e' hk
theorem ac9{kindOf:Str->Option cQ}: ∀{ps:List Str} {ws:List ah} {m:Str->Option ah} {i:Nat} {x:Str} {v:ah},ps.Nodup->ps.length=ws.length->ps[i]? =some x->ws[i]? =some v->kindOf x=some .cell->bindC kindOf (ps.zip ws) m x=some v:=by
 intro ps
 induction ps with
 |nil=>intro ws m i x v _ _ e;cases e
 |cons p ps ih=>
  intro ws m i x v hN hl e e' hk
  rw[dR]at hN
  cases ws with
  |nil=>cases e'
  |cons w ws=>
   have hl:=jV hl
   cases i with
   |zero=>
    have e:p=x:=aH e
    have e':w=v:=aH e'
    subst e e'
    show bindC kindOf (ps.zip ws) (if kindOf p=some .local then m else fun y=>if y=p then some w else m y) p=some w
    rw[W6 (by rw[HU hl.symm];exact hN.1),if_neg (by rw[hk];decide),if_pos rfl]
   |succ i=>exact ih hN.2 hl e e' hk
structure abr(C:PC)(fd:gJ)(nm:Nat->Option Str)(X:FX):Prop where
 C:X.C=C
 ok:vi X
 nm:X.names=nm
 scope:X.env.scope=fd.scope
 own: ∀n c,X.env.cells.lookup n=some c->c∈X.own
 cells: ∀n,(n,eE)∈fd.scope.names-> ∃c,X.env.cells.lookup n=some c
structure afp(C:PC)(f:aC)(fd:gJ)(body:List bW)(ps:List Str)(dfl:List AV)(nm:Nat->Option Str):Prop where
 there: ∃o,C.K.lookup f=some o/\o.data= .func fd
 code:codeIn C.K fd.code fd.qualname=true
 body:fd.body= .stmts body
 clo:fd.closure=[]
 glob:fd.globals=mainGlobals
 blt:fd.builtins=builtinsNs
 kind:fd.scope.kind= .function
 coro:fd.scope.isCoroutine=false
 gen:fd.scope.isGenerator=false
 bind: ∀W σ s args vs,cC C W σ s.heap->VL C W args vs->args.length<=ps.length->ps.length<=args.length+dfl.length->
  ∃ws,VL C W (args++dfl.drop (args.length+dfl.length-ps.length)) ws/\Sf s fd ⟨vs,[]⟩ (ps.zip ws)
 nodup:ps.Nodup
 kinds: ∀x∈ps,fd.scope.names.lookup x=some .local\/fd.scope.names.lookup x=some .cell
 nmAt: ∀(i:Nat) x,i<ps.length->nm i=some x->ps[i]? =some x
 plain: ∀i x,nm i=some x->(x==("__debug__":Str)||x==("__classdict__":Str))=false
def pV(C:PC)(k:Nat)(f:ah)(F:aW):Prop:=
 ∀A,eN A k-> ∀W σ s args vs,cC C W σ s.heap->VL C W args vs->1<=s.toks-> ∀a ai,F args σ=some (a,ai)->
  codeAny (dI C) A (.call f ⟨vs,[]⟩) (fun r s'=>match r with| .ok (.ret v)=>Sm s s'/\ ∃W',W.le W'/\cC C W' ai s'.heap/\V C W' a v| .ok _=>False| .error e=>dw e s') s
theorem pV.snd{f:ah}{F:aW}(h:pV C k f F):aF C k f F:=fun A Rm W σ s args vs R hv tk a ai e=>oU (h A Rm W σ s args vs R hv tk a ai e)
theorem SH{a d p:Nat}(h1:a<=p)(h2:p<=a+d):a+(d-(a+d-p))=p:=by omega
theorem ab2{f:aC}{fd:gJ}{body:List bW}{ps:List Str}{dfl:aa}{nm:Nat->Option Str}(F:afp C f fd body ps dfl nm){A:b7}(Rm:eN A (k+1)){args:aa}{vs:List ah}(R:cC C W σ s.heap)(hv:VL C W args vs)(tk:1<=s.toks)(h1:args.length<=ps.length)(h2:ps.length<=args.length+dfl.length){Rz:tP->az->Prop}
  (hb: ∀X,abr C fd nm X->X.nw=s->eN (A.deeper X.env) k-> ∀bt,(∀b o,s.heap.get? b=some o->bt.heap.get? b=some o)->(∀c,X.Has c->s.heap.get? c=none)->St X W (args++dfl.drop (args.length+dfl.length-ps.length)) σ bt->
   wpAny (dI C) (A.deeper X.env) (execs body X.env) (fun fl dU=>Rz (.ok (.ret (match fl with| .ret v=>v|_=>.none))) dU) dw bt):codeAny (dI C) A (.call (.ref f) ⟨vs,[]⟩) Rz s:=by
 refine eX (F.bind W σ s args vs R hv h1 h2) fun ws hws hbind=> ?_
 refine eX (F.there) fun o ho hd=> ?_
 have hwl:ws.length=ps.length:=by rw[hws.length,ao,g9];exact SH h1 h2
 have K:=R.K
 have hcell: ∀x∈ps,fd.scope.names.lookup x=some .cell-> ∀m,((cellsFrom m fd.scope.names []).lookup x).isSome=true:=fun x hx hl m=>Ao _ _ (.inl (mem_of_lookup hl))
 refine codeAny_call_function Rm.d0 (K _ _ ho) hd F.coro F.gen F.body (codeRec_of K F.code) (hbind _ _ _ _ ?_)
 rw[F.clo]
 refine wpAny_with_toks (ax s.toks) (wpAny_newFunctionEnv_cells F.kind (fun x hx=> ?_) fun env he bt x=>fun htk=> ?_)
 ·have hx':x.1∈ps:=by rw[<- HU hwl];exact List.mem_map_of_mem hx
  exact(F.kinds x.1 hx').imp id fun h=>⟨h,hcell x.1 hx' h _⟩
 ·have hns:env.scope=fd.scope:=by rw[he];rfl
  have hcs:env.cells=cellsFrom (s.heap.objs.size+1) fd.scope.names []:=by rw[he];rfl
  have keep:=x.toInCall.keep
  have hL:s.heap.objs.size<=env.locals:=x.toInCall.fresh
  have hC: ∀n c,env.cells.lookup n=some c->s.heap.objs.size<=c:=fun n c e=>i8 (fc hL (x.above n c (mem_of_lookup e)))
  refine⟨(C.nolimit.keeps fun b o e=>R.im _ _ (R.base _ _ e)).keeps keep,codeAny_func ?_⟩
  let X:FX:=⟨C,env,nm,env.locals::env.cells.filterMap (fun p=>env.cells.lookup p.1),s⟩
  have hown: ∀n c,env.cells.lookup n=some c->c∈X.own:=fun n c e=>aQ _ (ly.mpr ⟨(n,c),mem_of_lookup e,e⟩)
  have has: ∀c,X.Has c->s.heap.objs.size<=c:=fun c hc=>by
   rcases hc with rfl|⟨n,e⟩|e
   ·exact hL
   ·exact hC n c e
   ·rcases aG.mp e with rfl|e
    ·exact hL
    ·refine eX (ly.mp e) fun p hp e=> ?_
     exact hC _ _ e
  have ok:vi X:=⟨by show env.scope.kind=_;rw[hns];exact F.kind,by show env.globals=_;rw[he];exact F.glob,by show env.builtins=_;rw[he];exact F.blt,bf,x.apart,
   fun n c e=>oQ (x.above n c (mem_of_lookup e)),F.plain⟩
  have B:abr C fd nm X:=⟨rfl,ok,rfl,hns,hown,fun n hn=>by
   show ∃c,env.cells.lookup n=some c
   rw[hcs];exact fg.mp (Ao _ _ (.inl hn))⟩
  have hsm:Sm s bt:=by obtain⟨sz,akR,e⟩:=x.toInCall.same;exact⟨sz,akR,e,by rw[e]at htk;exact htk⟩
  have T:St X W (args++dfl.drop (args.length+dfl.length-ps.length)) σ bt:=by
   refine⟨R.keeps keep,⟨⟨_,x.toInCall.ns,fun i a e=>.inr fun y hy=> ?_⟩,fun n c e=>⟨_,x.cell n c e⟩,fun c hc=>R.cell_new (has c hc),fun c hc=>R.im_new (has c hc),fun c hc=>R.pr_new (has c (.inr (.inr hc))),fun c hc=> ?_⟩,tk,hsm⟩
   ·have hi:i<ps.length:=by
     have:=(cU.mp e).1
     rwa[ao,g9,SH h1 h2]at this
    refine eX (hws.get e) fun v e' q=> ?_
    have hp:=F.nmAt i y hi hy
    refine⟨v,?_,q⟩
    have hy':y∈ps:=bb hp
    have hk: ∀kd,fd.scope.names.lookup y=some kd->env.kindOf y=some kd:=fun kd h=>by show env.scope.names.lookup y=_;rw[hns];exact h
    unfold jc
    rcases F.kinds y hy' with hl|hl
    ·rw[show X.env.kindOf y=some .local from hk _ hl]
     exact ada F.nodup hwl.symm hp e' (hk _ hl)
    ·rw[show X.env.kindOf y=some .cell from hk _ hl]
     obtain⟨c,hc⟩:=fg.mp (hcell y hy' hl (s.heap.objs.size+1))
     rw[<- hcs]at hc
     refine⟨c,hc,?_⟩
     have z:=x.cell y c hc
     rw[ac9 F.nodup hwl.symm hp e' (hk _ hl)]at z;exact z
   ·rcases hc with rfl|⟨n,e⟩|e
    ·obtain⟨o,_,_,z,_⟩:=x.toInCall.ns;exact⟨o,z⟩
    ·obtain⟨o,z,_⟩:=x.cell n c e;exact⟨o,z⟩
    ·rcases aG.mp e with rfl|e
     ·obtain⟨o,_,_,z,_⟩:=x.toInCall.ns;exact⟨o,z⟩
     ·refine eX (ly.mp e) fun p hp e=> ?_
      obtain⟨o,z,_⟩:=x.cell _ c e;exact⟨o,z⟩
  exact KY (hb X B rfl (Rm.deeper env) bt keep (fun c hc=>by
   cases e:s.heap.get? c with
   |none=>rfl
   |some o=>exact absurd (cv e) (ci.mpr (has c hc))) T)
theorem akj{f:aC}{fd:gJ}{body:List bW}{ps:List Str}{dfl:aa}{nm:Nat->Option Str}{b:SM}(F:afp C f fd body ps dfl nm)(hb: ∀X,abr C fd nm X->mU X k b body):pV C (k+1) (.ref f) (bn ps.length dfl b):=fun A Rm W σ s args vs R hv tk a ai e=>by
 refine kS e fun hc e=> ?_
 rw[ip,ip]at hc e
 rw[WW,SR]at e
 obtain⟨h1,h2⟩:=bj.mp hc
 refine ab2 F Rm R hv tk (av h1) (av h2) fun X B es Rm' bt _ _ T=> ?_
 have hC:=B.C
 subst hC
 refine oE e fun r q e=>eC (hb X B _ Rm' W _ σ bt T r q) fun fl dU P=> ?_
 cases r with
 |next gT ay=>
  apply s2 e
  obtain⟨rfl,bm,bD,bz⟩:=P
  exact⟨es▸bz.sm.2,bm,bD,bz.rel,rfl⟩
 |ret xJ ay=>
  apply s2 e
  obtain⟨v,gT,rfl,bm,bD,bz,z⟩:=P
  exact⟨es▸bz.sm.2,bm,bD,bz.rel,z⟩
 |brk _ _=>exact nn e
 |cont _ _=>exact nn e
end
end
end
section
open PySem.SeqAt
noncomputable section
noncomputable def CE:List (Str×ah)->List (Str×ah)->List (Str×ah)
 |[],sl=>sl
 |(n,d)::r,sl=>CE r (if(sl.lookup n).isNone then sl++[(n,d)]else sl)
theorem XU{ps:List Str}{vs:List ah}: ∀{n:Str},n∈ps.take vs.length->((ps.zip vs).lookup n).isSome=true:=by
 induction ps generalizing vs with
 |nil=>intro n h;simp at h
 |cons p ps ih=>
  intro n h
  cases vs with
  |nil=>simp at h
  |cons v vs=>
   simp only[bT,Bf,aG]at h
   rw[bQ,cD]
   cases q:n==p with
   |true=>rfl
   |false=>exact ih (h.resolve_left fun e=>by rw[e]at q;simp at q)
theorem ZY: ∀(L:List (Str×ah)) (sl:List (Str×ah)),(forIn L sl fun x r=>if(qE x.fst r).isNone=true then pure (gH (r++[(x.fst,x.snd)]))else pure (gH r):Sem (List (Str×ah)))=pure (CE L sl):=by
 intro L
 induction L with
 |nil=>exact fun sl=>rfl
 |cons p L ih=>
  intro sl
  rw[gK]
  show(if(qE p.1 sl).isNone=true then _ else _)>>=_=pure (CE L (if(sl.lookup p.1).isNone then sl++[(p.1,p.2)]else sl))
  split
  ·rw[pure_bind];exact ih _
  ·rw[pure_bind];exact ih _
theorem Nj{fd:gJ}{s:az}{vs ds:List ah}{ps:List Str}{d:Option (Array ah)}(h1:fd.params.posonlyargs=[])(h2:fd.params.kwonlyargs=[])(h3:fd.params.vararg=none)(h4:fd.params.kwarg=none)(hps:fd.params.args.map (·.arg)=ps)
  (hd: ∀(M:lb) (A:b7) (E:ah->az->Prop) (Q:Option (Array ah)->az->Prop),Q d s->wpAny M A (seqItems? fd.defaults) Q E s)(hds:(d.getD #[]).toList=ds)(hl:vs.length<=ps.length)(hl2:ps.length<=vs.length+ds.length)(hl3:ds.length<=ps.length):
  Sf s fd ⟨vs,[]⟩ (ps.filterMap fun n=>((CE ((ps.drop (ps.length-ds.length)).zip ds) (ps.zip vs)).lookup n).map (n,·)):=fun M A E Q hQ=>by
 obtain⟨f1,f2,⟨po,ar,va,ko,kd,ka,ds0⟩,f4,f5,f6,f7,dflt,f9⟩:=fd
 dsimp only at h1 h2 h3 h4 hps hd
 subst h1 h2 h3 h4 hps
 refine aq (m:=seqItems? dflt) (hd M A E _ ?_)
 rw[hds]
 rw[if_neg (by simp only[cL,decide_eq_true_eq,not_and];exact fun h=>absurd h (ci.mpr (by simpa using hl)))]
 have z:ds.length-(ar.map (·.arg)).length=0:=Nat.sub_eq_zero_of_le hl3
 have miss:Rd (fun n=>(((ar.map (·.arg)).zip vs).lookup n).isNone) ((ar.map (·.arg)).take ((ar.map (·.arg)).length -ds.length))=[]:=by
  rw[List.filter_eq_nil_iff]
  intro n hn
  have:(((ar.map (·.arg)).zip vs).lookup n).isSome=true:=XU (by
   have:(ar.map (·.arg)).take ((ar.map (·.arg)).length -ds.length)=((ar.map (·.arg)).take vs.length).take ((ar.map (·.arg)).length -ds.length):=by rw[Ka,H7 (by omega)]
   rw[this]at hn;exact List.mem_of_mem_take hn)
  rw[dG]
  intro q;rw[q]at this;cases this
 rw[if_neg]
 rotate_left
 ·show ¬((!(Rd (fun n=>(((ar.map (·.arg)).zip vs).lookup n).isNone) ((ar.map (·.arg)).take ((ar.map (·.arg)).length -(ds.drop (ds.length-(ar.map (·.arg)).length)).length))).isEmpty)=true)
  rw[z,l0,miss];decide
 refine aq (m:=forIn _ _ _) ?_
 rw[ZY]
 refine aL (aL ?_)
 show Q (List.filterMap (fun n=>Option.map (fun x=>(n,x)) (qE n (CE ((Bs ((ar.map (·.arg)).length -(ds.drop (ds.length-(ar.map (·.arg)).length)).length) (ar.map (·.arg))).zip (ds.drop (ds.length-(ar.map (·.arg)).length))) ((ar.map (·.arg)).zip vs)))) (ar.map (·.arg)++[])) s
 rw[z,l0,aR]
 exact hQ
theorem Me{l m:List (Str×ah)}{x:Str}:(l++m).lookup x=(l.lookup x).or (m.lookup x):=by
 induction l with
 |nil=>simp
 |cons p l ih=>
  rw[eZ,cD,cD]
  split<;>simp_all
theorem FV{x:Str}: ∀(L sl:List (Str×ah)),(CE L sl).lookup x=(sl.lookup x).or (L.lookup x)
 |[],sl=>by simp[CE]
 |(n,d)::r,sl=>by
  unfold CE
  rw[FV r,cD]
  cases q:x==n with
  |true=>
   have:=beq_iff_eq.mp q
   subst this
   cases z:sl.lookup x with
   |none=>
    simp only[Option.isNone_none,if_true]
    rw[Me,z]
    simp
   |some v=>simp[z]
  |false=>
   split
   ·rw[Me]
    have:qE x [(n,d)]=none:=by rw[cD,q];rfl
    rw[this];simp
   ·rfl
theorem ux: ∀{ps:List Str} {vs:List ah} {i:Nat} {x:Str},ps.Nodup->ps[i]? =some x->(ps.zip vs).lookup x=vs[i]?
 |[],_,_,_,_,e=>by simp at e
 |_::_,[],_,_,_,_=>by simp
 |p::ps,v::vs,0,x,_,e=>by cases e;simp
 |p::ps,v::vs,i+1,x,hN,e=>by
  rw[dR]at hN
  have e:ps[i]? =some x:=by simpa using e
  have hx:x∈ps:=bb e
  have:(x==p)=false:=by
   rw[beq_eq_false_iff_ne];rintro rfl;exact hN.1 hx
  rw[bQ,cD,this]
  simpa using ux (vs:=vs) hN.2 e
theorem CF{g:Str->Option ah}: ∀{ps:List Str} {ws:List ah},ps.length=ws.length->(∀(i:Nat) x w,ps[i]? =some x->ws[i]? =some w->g x=some w)->ps.filterMap (fun n=>(g n).map (n,·))=ps.zip ws
 |[],_,_,_=>by simp
 |_::_,[],h,_=>by simp at h
 |p::ps,w::ws,h,hg=>by
  have h0:=hg 0 p w rfl rfl
  have ih:=CF (g:=g) (ps:=ps) (ws:=ws) (by simpa using h) fun i x w e e'=>hg (i+1) x w (by simpa using e) (by simpa using e')
  rw[kU,h0]
  simp[ih]
theorem ix0{i p d v:Nat}(h:p<=v+d)(hv:v<=i):p-d<=i:=Nat.sub_le_of_le_add (au h (Nat.add_le_add_right hv d))
theorem ix1{i q:Nat}(h:q<=i):q+(i-q)=i:=Bg h
theorem ix2{i p d v:Nat}(h:p<=v+d)(h3:d<=p)(hv:v<=i):i-(p-d)=v+d-p+(i-v):=by
 obtain⟨a,rfl⟩:=jl h3
 obtain⟨b,rfl⟩:=jl hv
 rw[mK,lz v d,Nat.add_sub_add_left,mK]
 exact Nat.sub_add_comm (Nat.le_of_add_le_add_left (by rw[lz v d]at h;exact h))
theorem W8{fd:gJ}{s:az}{vs ds:List ah}{ps:List Str}{d:Option (Array ah)}(h1:fd.params.posonlyargs=[])(h2:fd.params.kwonlyargs=[])(h3:fd.params.vararg=none)(h4:fd.params.kwarg=none)(hps:fd.params.args.map (·.arg)=ps)
  (hd: ∀(M:lb) (A:b7) (E:ah->az->Prop) (Q:Option (Array ah)->az->Prop),Q d s->wpAny M A (seqItems? fd.defaults) Q E s)(hds:(d.getD #[]).toList=ds)(hl:vs.length<=ps.length)(hl2:ps.length<=vs.length+ds.length)(hl3:ds.length<=ps.length)(hN:ps.Nodup):
  Sf s fd ⟨vs,[]⟩ (ps.zip (vs++ds.drop (vs.length+ds.length-ps.length))):=by
 have:=Nj h1 h2 h3 h4 hps hd hds hl hl2 hl3
 rw[CF (ws:=vs++ds.drop (vs.length+ds.length-ps.length)) (by rw[ao,g9];omega)]at this
 ·exact this
 ·intro i x w e e'
  have hi:i<ps.length:=(cU.mp e).1
  rw[FV,ux hN e]
  by_cases hv:i<vs.length
  ·rw[List.getElem?_append_left hv]at e'
   rw[e'];rfl
  ·rw[kD (ci.mp hv),q8]at e'
   rw[n9 (ci.mp hv),Kb]
   have hN':(ps.drop (ps.length-ds.length)).Nodup:=hN.sublist (List.drop_sublist _ _)
   rw[ux (i:=i-(ps.length-ds.length)) hN' (by rw[q8,ix1 (ix0 hl2 (ci.mp hv))];exact e),<- e',ix2 hl2 hl3 (ci.mp hv)]
theorem X1{v:ah}{s:az}(hv:v= .none): ∀(M:lb) (A:b7) (E:ah->az->Prop) (Q:Option (Array ah)->az->Prop),Q none s->wpAny M A (seqItems? v) Q E s:=fun _ _ _ _ h=>by
 subst hv;exact aq (aL (aL h))
end
end
section
open PySem.SeqAt
noncomputable section
structure SI where
 names:List (Str×cQ)
 nm:List (Nat×Str)
 own:Bool
noncomputable def SI.kind(st:SI)(x:Str):Option cQ:=st.names.lookup x
def TF(a b:Str):Bool:=dm a.cps.toList b.cps.toList
theorem TG{a b:Str}(h:TF a b=true):a=b:=by
 have h:dm a.cps.toList b.cps.toList=true:=h
 rw[kO]at h
 have h:=Gu.mp (ag h)
 cases a;cases b;cases h;rfl
theorem aaQ{a:Str}:TF a a=true:=by
 show dm a.cps.toList a.cps.toList=true
 rw[kO];exact decide_eq_true rfl
def oS(o:Option Str)(y:Str):Bool:=bo (motive:=fun _=>Bool) false (fun x=>TF x y) o
theorem HA{o:Option Str}{y:Str}(h:oS o y=true):o=some y:=by
 cases o with
 |none=>cases h
 |some x=>exact congrArg some (TG h)
def PZ(l:List (Str×cQ))(x:Str):Option cQ:=bu (motive:=fun _=>Option cQ) none (fun p _ ih=>Bool.rec (motive:=fun _=>Option cQ) ih (some p.2) (TF x p.1)) l
theorem KS(l:List (Str×cQ))(x:Str):PZ l x=l.lookup x:=by
 induction l with
 |nil=>rfl
 |cons p l ih=>
  obtain⟨y,v⟩:=p
  show Bool.rec (motive:=fun _=>Option cQ) (PZ l x) (some v) (TF x y)=_
  rw[cD,<- ih]
  cases h:TF x y with
  |true=>rw[TG h,beq_self_eq_true]
  |false=>rw[beq_eq_false_iff_ne.mpr fun e=>by rw[e,aaQ]at h;cases h]
noncomputable def SI.at_(st:SI)(i:Nat):Option Str:=st.nm.lookup i
noncomputable def pq{α:Type}[BEq α]:List α->Bool
 |[]=>true
 |x::r=> !r.contains x&&pq r
noncomputable def zy(x:Str):Bool:= !(x==("__debug__":Str)||x==("__classdict__":Str))
noncomputable def SI.inner(st:SI)(scope:dY)(xs:ac)(ts:List Str):SI:=
 {names:=scope.names.map fun p=>if(p.2==dz&&st.kind p.1==some eE)then(p.1,eE)else p
  nm:=xs.zip ts++st.nm.filter fun p=> !xs.contains p.1&&scope.names.lookup p.2==some .free
  own:=false}
noncomputable def NI(st:SI)(scope:dY)(xs:ac)(ts:List Str):Bool:=
 scope.kind== .function&&scope.names.all (fun y=>y.2 != .cell)&&scope.names.all (fun y=>y.2 != .local||scope.names.lookup y.1==some .local)&&
 scope.names.all (fun y=>y.2 != .free||(st.kind y.1==some .cell||st.kind y.1==some .free))&&pq (scope.names.map (·.1))&&
 ts.all (fun t=>scope.names.lookup t==some .local&&zy t)&&pq ((st.inner scope xs ts).nm.map (·.2))&&xs.length==ts.length&&pq xs&&pq (st.nm.map (·.1))
theorem aE{a b:Bool}{P:Prop}(h:(a&&b)=true)(k:a=true->b=true->P):P:=by
 cases a with
 |true=>exact k rfl h
 |false=>exact ff h
theorem rE{a b:Bool}{P:Prop}(h:(a||b)=true)(k:a=true->P)(k':b=true->P):P:=by
 cases a with
 |true=>exact k rfl
 |false=>exact k' h
@[elab_as_elim] theorem dE {α:Type} {a b:α} {i:Decidable (a=b)} {Q:α->Prop} (h:decide (a=b)=true) (k:Q a):Q b:=ag h▸k
theorem pu{a:Bool}(h:(!a)=true):a=false:=by cases a with
 |true=>cases h
 |false=>rfl
def C7{α:Type}(o:Option α)(f:α->Bool):Bool:=bo (motive:=fun _=>Bool) false f o
@[elab_as_elim] theorem aiz {α:Type} {Q:Option α->Prop} {o:Option α} {f:α->Bool} (h:C7 o f=true) (k: ∀a,f a=true->Q (some a)):Q o:=by
 cases o with
 |some a=>exact k a h
 |none=>exact ff h
def hd{α:Type}(l:List α)(f:α->List α->Bool):Bool:=bu (motive:=fun _=>Bool) false (fun a r _=>f a r) l
@[elab_as_elim] theorem Vd {α:Type} {Q:List α->Prop} {l:List α} {f:α->List α->Bool} (h:hd l f=true) (k: ∀a r,f a r=true->Q (a::r)):Q l:=by
 cases l with
 |cons a r=>exact k a r h
 |nil=>exact ff h
def nl{α:Type}(l:List α)(b:Bool):Bool:=bu (motive:=fun _=>Bool) b (fun _ _ _=>false) l
@[elab_as_elim] theorem Jf {α:Type} {Q:List α->Prop} {l:List α} {b:Bool} (h:nl l b=true) (k:b=true->Q []):Q l:=by
 cases l with
 |cons a r=>exact ff h
 |nil=>exact k h
def uA{α:Type}(l:List α)(f:α->Bool):Bool:=hd l fun a r=>nl r (f a)
@[elab_as_elim] theorem pw {α:Type} {Q:List α->Prop} {l:List α} {f:α->Bool} (h:uA l f=true) (k: ∀a,f a=true->Q [a]):Q l:=Vd h fun a _ h=>Jf h fun h=>k a h
def DN{α:Type}(l:List α)(f:α->α->Bool):Bool:=hd l fun a r=>uA r (f a)
@[elab_as_elim] theorem wY {α:Type} {Q:List α->Prop} {l:List α} {f:α->α->Bool} (h:DN l f=true) (k: ∀a b,f a b=true->Q [a,b]):Q l:=Vd h fun a _ h=>pw h fun b h=>k a b h
def VY{α:Type}(l:List α)(f:α->α->α->Bool):Bool:=hd l fun a r=>DN r (f a)
@[elab_as_elim] theorem YU {α:Type} {Q:List α->Prop} {l:List α} {f:α->α->α->Bool} (h:VY l f=true) (k: ∀a b c,f a b c=true->Q [a,b,c]):Q l:=Vd h fun a _ h=>wY h fun b c h=>k a b c h
theorem pN{c:Prop}{i:Decidable c}{t:c->Bool}{P:Prop}(h:(if h:c then t h else false)=true)(k: ∀hc,t hc=true->P):P:=by
 cases i with
 |isTrue hc=>exact k hc h
 |isFalse hc=>exact ff h
noncomputable def sh(x:an)(f:Str->Bool):Bool:=if h:x.ctorIdx=23 then w8 (motive_1:=fun _=>Bool) x h (fun x0 _=>f x0)else false
@[elab_as_elim] theorem pL {Q:an->Prop} {x:an} {f:Str->Bool} (h:sh x f=true) (k: ∀(x0:Str) (x1:Pos),f x0=true->Q (.Name x0 x1)):Q x:=pN h fun hc h=>w8 (motive_1:=fun x=> ∀hc:x.ctorIdx=23,w8 (motive_1:=fun _=>Bool) x hc (fun x0 _=>f x0)=true->Q x) x hc (fun x0 x1 _ h=>k x0 x1 h) hc h
noncomputable def acO(x:an)(f:Const->Bool):Bool:=if h:x.ctorIdx=19 then qX (motive_1:=fun _=>Bool) x h (fun x0 _ _=>f x0)else false
@[elab_as_elim] theorem Q3 {Q:an->Prop} {x:an} {f:Const->Bool} (h:acO x f=true) (k: ∀(x0:Const) (x1:Nat) (x2:Pos),f x0=true->Q (.Constant x0 x1 x2)):Q x:=pN h fun hc h=>qX (motive_1:=fun x=> ∀hc:x.ctorIdx=19,qX (motive_1:=fun _=>Bool) x hc (fun x0 _ _=>f x0)=true->Q x) x hc (fun x0 x1 x2 _ h=>k x0 x1 x2 h) hc h
noncomputable def anH(x:an)(f:an->iD->an->Bool):Bool:=if h:x.ctorIdx=2 then vm (motive_1:=fun _=>Bool) x h (fun x0 x1 x2 _=>f x0 x1 x2)else false
@[elab_as_elim] theorem apE {Q:an->Prop} {x:an} {f:an->iD->an->Bool} (h:anH x f=true) (k: ∀(x0:an) (x1:iD) (x2:an) (x3:Pos),f x0 x1 x2=true->Q (.BinOp x0 x1 x2 x3)):Q x:=pN h fun hc h=>vm (motive_1:=fun x=> ∀hc:x.ctorIdx=2,vm (motive_1:=fun _=>Bool) x hc (fun x0 x1 x2 _=>f x0 x1 x2)=true->Q x) x hc (fun x0 x1 x2 x3 _ h=>k x0 x1 x2 x3 h) hc h
noncomputable def xUn(x:an)(f:Si->an->Bool):Bool:=if h:x.ctorIdx=3 then sk (motive_1:=fun _=>Bool) x h (fun x0 x1 _=>f x0 x1)else false
@[elab_as_elim] theorem alb {Q:an->Prop} {x:an} {f:Si->an->Bool} (h:xUn x f=true) (k: ∀(x0:Si) (x1:an) (x2:Pos),f x0 x1=true->Q (.UnaryOp x0 x1 x2)):Q x:=pN h fun hc h=>sk (motive_1:=fun x=> ∀hc:x.ctorIdx=3,sk (motive_1:=fun _=>Bool) x hc (fun x0 x1 _=>f x0 x1)=true->Q x) x hc (fun x0 x1 x2 _ h=>k x0 x1 x2 h) hc h
noncomputable def ak4(x:an)(f:cF->List an->Bool):Bool:=if h:x.ctorIdx=0 then tF (motive_1:=fun _=>Bool) x h (fun x0 x1 _=>f x0 x1)else false
@[elab_as_elim] theorem amU {Q:an->Prop} {x:an} {f:cF->List an->Bool} (h:ak4 x f=true) (k: ∀(x0:cF) (x1:List an) (x2:Pos),f x0 x1=true->Q (.BoolOp x0 x1 x2)):Q x:=pN h fun hc h=>tF (motive_1:=fun x=> ∀hc:x.ctorIdx=0,tF (motive_1:=fun _=>Bool) x hc (fun x0 x1 _=>f x0 x1)=true->Q x) x hc (fun x0 x1 x2 _ h=>k x0 x1 x2 h) hc h
noncomputable def xIf(x:an)(f:an->an->an->Bool):Bool:=if h:x.ctorIdx=5 then vn (motive_1:=fun _=>Bool) x h (fun x0 x1 x2 _=>f x0 x1 x2)else false
@[elab_as_elim] theorem aqR {Q:an->Prop} {x:an} {f:an->an->an->Bool} (h:xIf x f=true) (k: ∀(x0:an) (x1:an) (x2:an) (x3:Pos),f x0 x1 x2=true->Q (.IfExp x0 x1 x2 x3)):Q x:=pN h fun hc h=>vn (motive_1:=fun x=> ∀hc:x.ctorIdx=5,vn (motive_1:=fun _=>Bool) x hc (fun x0 x1 x2 _=>f x0 x1 x2)=true->Q x) x hc (fun x0 x1 x2 x3 _ h=>k x0 x1 x2 x3 h) hc h
noncomputable def ak5(x:an)(f:an->List gW->List an->Bool):Bool:=if h:x.ctorIdx=15 then sj (motive_1:=fun _=>Bool) x h (fun x0 x1 x2 _=>f x0 x1 x2)else false
@[elab_as_elim] theorem ak6 {Q:an->Prop} {x:an} {f:an->List gW->List an->Bool} (h:ak5 x f=true) (k: ∀(x0:an) (x1:List gW) (x2:List an) (x3:Pos),f x0 x1 x2=true->Q (.Compare x0 x1 x2 x3)):Q x:=pN h fun hc h=>sj (motive_1:=fun x=> ∀hc:x.ctorIdx=15,sj (motive_1:=fun _=>Bool) x hc (fun x0 x1 x2 _=>f x0 x1 x2)=true->Q x) x hc (fun x0 x1 x2 x3 _ h=>k x0 x1 x2 x3 h) hc h
noncomputable def Q2(x:an)(f:an->Str->Pos->Bool):Bool:=if h:x.ctorIdx=20 then pP (motive_1:=fun _=>Bool) x h (fun x0 x1 x2=>f x0 x1 x2)else false
@[elab_as_elim] theorem NZ {Q:an->Prop} {x:an} {f:an->Str->Pos->Bool} (h:Q2 x f=true) (k: ∀(x0:an) (x1:Str) (x2:Pos),f x0 x1 x2=true->Q (.Attribute x0 x1 x2)):Q x:=pN h fun hc h=>pP (motive_1:=fun x=> ∀hc:x.ctorIdx=20,pP (motive_1:=fun _=>Bool) x hc (fun x0 x1 x2=>f x0 x1 x2)=true->Q x) x hc (fun x0 x1 x2 _ h=>k x0 x1 x2 h) hc h
noncomputable def acR(x:an)(f:an->an->Bool):Bool:=if h:x.ctorIdx=21 then pQ (motive_1:=fun _=>Bool) x h (fun x0 x1 _=>f x0 x1)else false
@[elab_as_elim] theorem abk {Q:an->Prop} {x:an} {f:an->an->Bool} (h:acR x f=true) (k: ∀(x0:an) (x1:an) (x2:Pos),f x0 x1=true->Q (.Subscript x0 x1 x2)):Q x:=pN h fun hc h=>pQ (motive_1:=fun x=> ∀hc:x.ctorIdx=21,pQ (motive_1:=fun _=>Bool) x hc (fun x0 x1 _=>f x0 x1)=true->Q x) x hc (fun x0 x1 x2 _ h=>k x0 x1 x2 h) hc h
noncomputable def acQ(x:an)(f:Option an->Option an->Option an->Bool):Bool:=if h:x.ctorIdx=26 then vo (motive_1:=fun _=>Bool) x h (fun x0 x1 x2 _=>f x0 x1 x2)else false
@[elab_as_elim] theorem ak9 {Q:an->Prop} {x:an} {f:Option an->Option an->Option an->Bool} (h:acQ x f=true) (k: ∀(x0:Option an) (x1:Option an) (x2:Option an) (x3:Pos),f x0 x1 x2=true->Q (.Slice x0 x1 x2 x3)):Q x:=pN h fun hc h=>vo (motive_1:=fun x=> ∀hc:x.ctorIdx=26,vo (motive_1:=fun _=>Bool) x hc (fun x0 x1 x2 _=>f x0 x1 x2)=true->Q x) x hc (fun x0 x1 x2 x3 _ h=>k x0 x1 x2 x3 h) hc h
noncomputable def ak8(x:an)(f:List an->Bool):Bool:=if h:x.ctorIdx=24 then w6 (motive_1:=fun _=>Bool) x h (fun x0 _=>f x0)else false
@[elab_as_elim] theorem amV {Q:an->Prop} {x:an} {f:List an->Bool} (h:ak8 x f=true) (k: ∀(x0:List an) (x1:Pos),f x0=true->Q (.List x0 x1)):Q x:=pN h fun hc h=>w6 (motive_1:=fun x=> ∀hc:x.ctorIdx=24,w6 (motive_1:=fun _=>Bool) x hc (fun x0 _=>f x0)=true->Q x) x hc (fun x0 x1 _ h=>k x0 x1 h) hc h
noncomputable def acS(x:an)(f:List an->Bool):Bool:=if h:x.ctorIdx=25 then jq (motive_1:=fun _=>Bool) x h (fun x0 _ _=>f x0)else false
@[elab_as_elim] theorem abl {Q:an->Prop} {x:an} {f:List an->Bool} (h:acS x f=true) (k: ∀(x0:List an) (x1:Nat) (x2:Pos),f x0=true->Q (.Tuple x0 x1 x2)):Q x:=pN h fun hc h=>jq (motive_1:=fun x=> ∀hc:x.ctorIdx=25,jq (motive_1:=fun _=>Bool) x hc (fun x0 _ _=>f x0)=true->Q x) x hc (fun x0 x1 x2 _ h=>k x0 x1 x2 h) hc h
noncomputable def ala(x:an)(f:List an->Nat->Pos->Bool):Bool:=if h:x.ctorIdx=25 then jq (motive_1:=fun _=>Bool) x h (fun x0 x1 x2=>f x0 x1 x2)else false
@[elab_as_elim] theorem amW {Q:an->Prop} {x:an} {f:List an->Nat->Pos->Bool} (h:ala x f=true) (k: ∀(x0:List an) (x1:Nat) (x2:Pos),f x0 x1 x2=true->Q (.Tuple x0 x1 x2)):Q x:=pN h fun hc h=>jq (motive_1:=fun x=> ∀hc:x.ctorIdx=25,jq (motive_1:=fun _=>Bool) x hc (fun x0 x1 x2=>f x0 x1 x2)=true->Q x) x hc (fun x0 x1 x2 _ h=>k x0 x1 x2 h) hc h
noncomputable def abj(x:an)(f:List (Option an)->List an->Bool):Bool:=if h:x.ctorIdx=6 then w0 (motive_1:=fun _=>Bool) x h (fun x0 x1 _=>f x0 x1)else false
@[elab_as_elim] theorem acP {Q:an->Prop} {x:an} {f:List (Option an)->List an->Bool} (h:abj x f=true) (k: ∀(x0:List (Option an)) (x1:List an) (x2:Pos),f x0 x1=true->Q (.Dict x0 x1 x2)):Q x:=pN h fun hc h=>w0 (motive_1:=fun x=> ∀hc:x.ctorIdx=6,w0 (motive_1:=fun _=>Bool) x hc (fun x0 x1 _=>f x0 x1)=true->Q x) x hc (fun x0 x1 x2 _ h=>k x0 x1 x2 h) hc h
noncomputable def V3(x:an)(f:an->List an->List tw->Pos->Bool):Bool:=if h:x.ctorIdx=16 then wZ (motive_1:=fun _=>Bool) x h (fun x0 x1 x2 x3=>f x0 x1 x2 x3)else false
@[elab_as_elim] theorem V4 {Q:an->Prop} {x:an} {f:an->List an->List tw->Pos->Bool} (h:V3 x f=true) (k: ∀(x0:an) (x1:List an) (x2:List tw) (x3:Pos),f x0 x1 x2 x3=true->Q (.Call x0 x1 x2 x3)):Q x:=pN h fun hc h=>wZ (motive_1:=fun x=> ∀hc:x.ctorIdx=16,wZ (motive_1:=fun _=>Bool) x hc (fun x0 x1 x2 x3=>f x0 x1 x2 x3)=true->Q x) x hc (fun x0 x1 x2 x3 _ h=>k x0 x1 x2 x3 h) hc h
noncomputable def abi(x:an)(f:an->List dQ->dY->Bool):Bool:=if h:x.ctorIdx=8 then qY (motive_1:=fun _=>Bool) x h (fun x0 x1 x2 _=>f x0 x1 x2)else false
@[elab_as_elim] theorem acN {Q:an->Prop} {x:an} {f:an->List dQ->dY->Bool} (h:abi x f=true) (k: ∀(x0:an) (x1:List dQ) (x2:dY) (x3:Pos),f x0 x1 x2=true->Q (.ListComp x0 x1 x2 x3)):Q x:=pN h fun hc h=>qY (motive_1:=fun x=> ∀hc:x.ctorIdx=8,qY (motive_1:=fun _=>Bool) x hc (fun x0 x1 x2 _=>f x0 x1 x2)=true->Q x) x hc (fun x0 x1 x2 x3 _ h=>k x0 x1 x2 x3 h) hc h
noncomputable def acA(x:bW)(f:an->Bool):Bool:=if h:x.ctorIdx=24 then xc (motive_2:=fun _=>Bool) x h (fun x0 _=>f x0)else false
@[elab_as_elim] theorem ajy {Q:bW->Prop} {x:bW} {f:an->Bool} (h:acA x f=true) (k: ∀(x0:an) (x1:Pos),f x0=true->Q (.Expr x0 x1)):Q x:=pN h fun hc h=>xc (motive_2:=fun x=> ∀hc:x.ctorIdx=24,xc (motive_2:=fun _=>Bool) x hc (fun x0 _=>f x0)=true->Q x) x hc (fun x0 x1 _ h=>k x0 x1 h) hc h
noncomputable def Ds(x:bW)(f:List an->an->Bool):Bool:=if h:x.ctorIdx=5 then tQ (motive_2:=fun _=>Bool) x h (fun x0 x1 _=>f x0 x1)else false
@[elab_as_elim] theorem EK {Q:bW->Prop} {x:bW} {f:List an->an->Bool} (h:Ds x f=true) (k: ∀(x0:List an) (x1:an) (x2:Pos),f x0 x1=true->Q (.Assign x0 x1 x2)):Q x:=pN h fun hc h=>tQ (motive_2:=fun x=> ∀hc:x.ctorIdx=5,tQ (motive_2:=fun _=>Bool) x hc (fun x0 x1 _=>f x0 x1)=true->Q x) x hc (fun x0 x1 x2 _ h=>k x0 x1 x2 h) hc h
noncomputable def anw(x:bW)(f:an->List bW->List bW->Bool):Bool:=if h:x.ctorIdx=12 then Bu (motive_2:=fun _=>Bool) x h (fun x0 x1 x2 _=>f x0 x1 x2)else false
@[elab_as_elim] theorem apr {Q:bW->Prop} {x:bW} {f:an->List bW->List bW->Bool} (h:anw x f=true) (k: ∀(x0:an) (x1:List bW) (x2:List bW) (x3:Pos),f x0 x1 x2=true->Q (.If x0 x1 x2 x3)):Q x:=pN h fun hc h=>Bu (motive_2:=fun x=> ∀hc:x.ctorIdx=12,Bu (motive_2:=fun _=>Bool) x hc (fun x0 x1 x2 _=>f x0 x1 x2)=true->Q x) x hc (fun x0 x1 x2 x3 _ h=>k x0 x1 x2 x3 h) hc h
noncomputable def acB(x:bW)(f:an->List bW->List bW->Bool):Bool:=if h:x.ctorIdx=11 then vv (motive_2:=fun _=>Bool) x h (fun x0 x1 x2 _=>f x0 x1 x2)else false
@[elab_as_elim] theorem ajA {Q:bW->Prop} {x:bW} {f:an->List bW->List bW->Bool} (h:acB x f=true) (k: ∀(x0:an) (x1:List bW) (x2:List bW) (x3:Pos),f x0 x1 x2=true->Q (.While x0 x1 x2 x3)):Q x:=pN h fun hc h=>vv (motive_2:=fun x=> ∀hc:x.ctorIdx=11,vv (motive_2:=fun _=>Bool) x hc (fun x0 x1 x2 _=>f x0 x1 x2)=true->Q x) x hc (fun x0 x1 x2 x3 _ h=>k x0 x1 x2 x3 h) hc h
noncomputable def ajz(x:bW)(f:an->an->List bW->List bW->Bool):Bool:=if h:x.ctorIdx=9 then zS (motive_2:=fun _=>Bool) x h (fun x0 x1 x2 x3 _=>f x0 x1 x2 x3)else false
@[elab_as_elim] theorem amG {Q:bW->Prop} {x:bW} {f:an->an->List bW->List bW->Bool} (h:ajz x f=true) (k: ∀(x0:an) (x1:an) (x2:List bW) (x3:List bW) (x4:Pos),f x0 x1 x2 x3=true->Q (.For x0 x1 x2 x3 x4)):Q x:=pN h fun hc h=>zS (motive_2:=fun x=> ∀hc:x.ctorIdx=9,zS (motive_2:=fun _=>Bool) x hc (fun x0 x1 x2 x3 _=>f x0 x1 x2 x3)=true->Q x) x hc (fun x0 x1 x2 x3 x4 _ h=>k x0 x1 x2 x3 x4 h) hc h
noncomputable def Yy(x:bW)(f:Option an->Bool):Bool:=if h:x.ctorIdx=3 then tR (motive_2:=fun _=>Bool) x h (fun x0 _=>f x0)else false
@[elab_as_elim] theorem aey {Q:bW->Prop} {x:bW} {f:Option an->Bool} (h:Yy x f=true) (k: ∀(x0:Option an) (x1:Pos),f x0=true->Q (.Return x0 x1)):Q x:=pN h fun hc h=>tR (motive_2:=fun x=> ∀hc:x.ctorIdx=3,tR (motive_2:=fun _=>Bool) x hc (fun x0 _=>f x0)=true->Q x) x hc (fun x0 x1 _ h=>k x0 x1 h) hc h
noncomputable def ajx(x:bW)(f:Bool):Bool:=if h:x.ctorIdx=27 then q9 (motive_2:=fun _=>Bool) x h (fun _=>f)else false
@[elab_as_elim] theorem amF {Q:bW->Prop} {x:bW} {f:Bool} (h:ajx x f=true) (k: ∀(x0:Pos),f=true->Q (.Continue x0)):Q x:=pN h fun hc h=>q9 (motive_2:=fun x=> ∀hc:x.ctorIdx=27,q9 (motive_2:=fun _=>Bool) x hc (fun _=>f)=true->Q x) x hc (fun x0 _ h=>k x0 h) hc h
noncomputable def ab4(g:dQ)(f:an->an->List an->Bool):Bool:=decide ((0:Int)=g.is_async)&&f g.target g.iter g.ifs
@[elab_as_elim] theorem Z1 {Q:dQ->Prop} {g:dQ} {f:an->an->List an->Bool} (h:ab4 g f=true) (k: ∀t i fs,f t i fs=true->Q ⟨t,i,fs,0⟩):Q g:=by
 cases g with
 |mk t i fs a=>exact aE h fun h0 h=>dE (Q:=fun a=>Q ⟨t,i,fs,a⟩) h0 (k t i fs h)
structure Ck where
 e:SI->an->Bool
 b:SI->an->Bool
 l:SI->List an->Bool
 o:SI->cF->List an->Bool
 a:SI->cF->List an->Bool
 p:SI->Option an->Bool
 i:SI->List an->Bool
noncomputable def aiG:List Nat:=[19,23,16,20,21,8,2,24,25]
def Qr(x:an):Bool:=F2 x.ctorIdx aiG
noncomputable def no1(_:SI)(_:List an):Bool:=false
def Ck.both(e b:SI->an->Bool):Ck:=⟨e,b,no1,fun st _ xs=>uA xs (e st),fun st _ xs=>uA xs (b st),fun st x=>C7 x (e st),fun st xs=>uA xs (b st)⟩
def Ck.ofE(e:SI->an->Bool):Ck:=.both e fun st x=>Qr x&&e st x
def qo(f:an->Bool)(g:List an->Bool)(l:List an):Bool:=hd l fun x r=>f x&&hd r fun y r=>g (y::r)
noncomputable def tl(op:cF)(g:List an->Bool)(x:an):Bool:=ak4 x fun o l=>decide (op=o)&&g l
def aaF(op op':cF)(f:an->Bool)(g:List an->Bool)(l:List an):Bool:=uA l f||(decide (op=op')&&g l)
def Ck.bool(op:cF)(a b:Ck):Ck:=
 ⟨fun st=>tl op (qo (a.e st) (b.o st op)),fun st=>tl op (qo (a.b st) (b.a st op)),no1,fun st op'=>aaF op op' (tl op (qo (a.e st) (b.o st op))) (qo (a.e st) (b.o st op)),fun st op'=>aaF op op' (tl op (qo (a.b st) (b.a st op))) (qo (a.b st) (b.a st op)),
  fun st x=>C7 x (tl op (qo (a.e st) (b.o st op))),fun st xs=>uA xs (tl op (qo (a.b st) (b.a st op)))⟩
noncomputable def cOf(a:AV)(f:Const->Bool):Bool:=match a with
 | .none=>f .none
 | .bool b=>f (.bool b)
 | .int i=>f (.int i)
 | .str l=>f (.str (aP l))
 | .bytes l=>f (.bytes l)
 |_=>false
noncomputable def Cz(a:AV)(x:an):Bool:=acO x fun c=>cOf a fun d=>decide (d=c)
structure Wt where
 glb:List Str
 fns:List Str
 mts:List Str
noncomputable def cG.nms(Γ:cG):Wt:=⟨Γ.glb.map (·.1),Γ.fns.map (·.1),Γ.mts.map (·.1)⟩
noncomputable def As:List Str->Nat->Option Str
 |[],_=>none
 |x::_,0=>some x
 |_::r,i+1=>As r i
def NR(l:List Str)(i:Nat)(x:Str):Bool:=oS (As l i) x
def Z3(st:SI)(x:Str):Bool:=PZ st.names x==some .globalImplicit&& !(x==("__debug__":Str))
noncomputable def EF(x:an):Bool:= !aj x.ctorIdx 7
def YS(x:an)(f:List Str->Bool):Bool:=sh x (fun n=>f [n])||acS x fun t=>DN t fun a b=>sh a fun n=>sh b fun m=>f [n,m]
noncomputable def X2(es:List an):Bool:=es.all fun e=> !jf e
def aag(i:Int)(o:Option an):Bool:=C7 o fun e=>Cz (.int i) e
def agj(k1 k2:Int)(a b:ac)(x:an):Bool:=abj x fun d e=>DN d fun k k'=>DN e fun v v'=>aag k1 k&&(aag k2 k'&&(Cz (.str a) v&&(Cz (.str b) v'&& !decide (k1=k2))))
noncomputable def af1:Ck:=⟨fun _ _=>false,fun _ _=>false,no1,fun _ _ _=>false,fun _ _ _=>false,fun _ x=>x.isNone,fun _ xs=>xs.isEmpty⟩
def anU(a:AV):Ck:=.ofE fun _ x=>Cz a x
def af8(i:Nat):Ck:=.ofE fun st x=>sh x fun y=>oS (st.at_ i) y
def afV(N:Wt)(g:Nat):Ck:=.ofE fun st x=>sh x fun y=>Z3 st y&&NR N.glb g y
def afS(op:iD)(a b:Ck):Ck:=.ofE fun st x=>anH x fun l o r=>decide (op=o)&&(a.e st l&&b.e st r)
def afZ(a:Ck):Ck:=.ofE fun st x=>xUn x fun o r=>decide (.USub=o)&&a.e st r
def af2(a:Ck):Ck:=.both (fun st x=>xUn x fun o r=>decide (.Not=o)&&a.e st r) (fun st x=>xUn x fun o r=>decide (.Not=o)&&a.b st r)
def afX(c a b:Ck):Ck:=.ofE fun st x=>xIf x fun t l r=>c.b st t&&(a.e st l&&b.e st r)
def ZF(op:gW)(a b:an->Bool)(x:an):Bool:=ak5 x fun l os rs=>uA os fun o=>uA rs fun r=>decide (op=o)&&(!behindInMarks op r&&(a l&&b r))
def afT(op:gW)(a b:Ck):Ck:=.both (fun st=>ZF op (a.e st) (b.e st)) (fun st=>ZF op (a.e st) (b.e st))
def UZ(op op':gW)(a b c:an->Bool)(x:an):Bool:=ak5 x fun l os rs=>DN os fun o o'=>DN rs fun r r'=>decide (op=o)&&(decide (op'=o')&&(!lastMarks [op,op'] [r,r']&&(a l&&(b r&&c r'))))
def abH(op op':gW)(a b c:Ck):Ck:=.both (fun st=>UZ op op' (a.e st) (b.e st) (c.e st)) (fun st=>UZ op op' (a.e st) (b.e st) (c.e st))
def afR(FN:List Str)(k:Nat)(a:Ck):Ck:=.ofE fun st x=>Q2 x fun o n _=>oS (As FN k) n&&(td o&&a.e st o)
def afW(a i:Ck):Ck:=.ofE fun st x=>acR x fun o j=> !PV j&&(a.e st o&&i.e st j)
def af6(a lo hi:Ck):Ck:=.ofE fun st x=>acR x fun o j=>acQ j fun l h s=>decide (none=s)&&(a.e st o&&(lo.p st l&&hi.p st h))
def afY(l:Ck):Ck:=.ofE fun st x=>ak8 x fun es=>l.l st es
def af7(l:Ck):Ck:=.ofE fun st x=>acS x fun es=>l.l st es
def afU:Ck:=.ofE fun _ x=>abj x fun a b=>nl a (nl b true)
def alr(k1 k2:Int)(a b:ac):Ck:=.ofE fun _ x=>agj k1 k2 a b x
def af3(c:Nat)(a:Ck):Ck:=.ofE fun st x=>V3 x fun f es ks p=>Q2 f fun o n ap=>DN es fun v v'=>decide ("replace"=n)&&(td o&&(decide (ap.endLine=p.line)&&nl ks (Cz (.str [c]) v&&(Cz (.str []) v'&&a.e st o))))
def abG(N:Wt)(f:Nat)(l:Ck):Ck:=.ofE fun st x=>V3 x fun g es ks _=>sh g fun y=>Z3 st y&&(NR N.fns f y&&nl ks (X2 es&&l.l st es))
def abJ(N:Wt)(n:Nat)(o l:Ck):Ck:=.ofE fun st x=>V3 x fun g es ks p=>Q2 g fun q y ap=>NR N.mts n y&&(td q&&(decide (ap.endLine=p.line)&&(bw es.length 30&&nl ks (X2 es&&(o.e st q&&l.l st es)))))
def af0:Ck:=⟨fun _ _=>true,fun _ _=>true,fun _ xs=>nl xs true,fun _ _ _=>true,fun _ _ _=>true,fun _ _=>true,fun _ _=>true⟩
def abI(a l:Ck):Ck:=⟨fun _ _=>false,fun _ _=>false,fun st xs=>hd xs fun x r=> !jf x&&(a.e st x&&l.l st r),fun _ _ _=>false,fun _ _ _=>false,fun _ _=>false,fun _ _=>false⟩
def UY(xs:ac)(it c elt:Ck):Ck:=.ofE fun st x=>abi x fun ee gs sc=>uA gs fun g=>ab4 g fun tg ie fs=>YS tg fun ts=>
 it.e st ie&&(EF ie&&(NI st sc xs ts&&(c.i (st.inner sc xs ts) fs&&elt.e (st.inner sc xs ts) ee)))
def Pe(x':Nat)(it:Ck)(y':Nat)(it2 elt:Ck):Ck:=.ofE fun st x=>abi x fun ee gs sc=>DN gs fun g g'=>ab4 g fun tg ie fs=>ab4 g' fun tg' ie' fs'=>sh tg fun nx=>sh tg' fun ny=>
 nl fs (nl fs' (it.e st ie&&(EF ie&&(EF ie'&&(NI st sc [x',y'] [nx,ny]&&(it2.e (st.inner sc [x',y'] [nx,ny]) ie'&&elt.e (st.inner sc [x',y'] [nx,ny]) ee))))))
def ck(FN:List Str)(N:Wt)(t:T):Ck:=T.rec (motive:=fun _=>Ck) af1 anU af8 (afV N) (fun op _ _=>afS op) (fun _=>afZ) (fun _=>af2) (fun _ _=>.bool .And) (fun _ _=>.bool .Or) (fun _ _ _=>afX) (fun op _ _=>afT op) (fun op op' _ _ _=>abH op op')
 (fun k _=>afR FN k) (fun _ _=>afW) (fun _ _ _=>af6) (fun _=>afY) (fun _=>af7) afU alr (fun c _=>af3 c) (fun f _=>abG N f) (fun n _ _=>abJ N n) af0 (fun _ _=>abI) (fun xs _ _ _=>UY xs) (fun x _ y _ _ a=>Pe x a y) t
structure s0 where
 s:SI->bW->Bool
 ss:SI->List bW->Bool
 g:SI->Bool
def pp(st:SI)(i:Nat)(x:Str):Bool:=oS (st.at_ i) x&&(decide (PZ st.names x=some .local)||(st.own&&decide (PZ st.names x=some .cell)))
def CZ(st:SI):List Nat->List an->Bool
 |[],ts=>nl ts true
 |i::is,ts=>hd ts fun t r=>sh t (fun x=>pp st i x)&&CZ st is r
noncomputable def PT(t:T):Bool:=if h:t.ctorIdx=1 then T.cst.elim (motive:=fun _=>Bool) t h fun a=>(tc a (some ())).isSome else false
noncomputable def s0.one(s:SI->bW->Bool):s0:=⟨s,fun _ _=>false,fun _=>false⟩
noncomputable def agu(st:SI):Env:={scope:=⟨.function,st.names,false,false,[]⟩,locals:=0,globals:=0,cells:=[]}
noncomputable def abB{α:Type}(m:Sem α)(f:α->Bool):Bool:=if h:m.ctorIdx=0 then zR (motive:=fun _=>Bool) m h f else false
@[elab_as_elim] theorem afD {α:Type} {Q:Sem α->Prop} {m:Sem α} {f:α->Bool} (h:abB m f=true) (k: ∀a,f a=true->Q (.pure a)):Q m:=pN h fun hc h=>zR (motive:=fun x=> ∀hc:x.ctorIdx=0,zR (motive:=fun _=>Bool) x hc f=true->Q x) m hc (fun a _ h=>k a h) hc h
def aiB(st:SI)(is:ac)(names:List Str):Bool:=DN is fun i j=>DN names fun x y=>pp st i x&&(pp st j y&& !decide (i=j))
def aiC(st:SI)(is:ac)(names:List Str):Bool:=VY is fun i j l=>VY names fun x y z=>
 pp st i x&&(pp st j y&&(pp st l z&&(!decide (i=j)&&(!decide (i=l)&& !decide (j=l)))))
def abC(st:SI)(is:ac)(t:an)(ts:List an)(v:an):Bool:=abB (swappedStores [t] v (agu st)) fun o=>bo (motive:=fun _=>Bool) (bw 1 is.length&&CZ st is ts) (fun names=>aiB st is names||aiC st is names) o
noncomputable def als:s0:=⟨fun _ _=>true,fun _ _=>false,fun _=>false⟩
noncomputable def Xf(e:Ck):s0:=.one fun st x=>acA x fun v=>kv v&&e.e st v
def abK(i:Nat)(e:Ck):s0:=.one fun st x=>Ds x fun ts v=>uA ts fun t=>sh t fun y=>pp st i y&&e.e st v
def Xd(is:ac)(e:Ck):s0:=.one fun st x=>Ds x fun ts v=>uA ts fun t=>ala t fun q c p=>kv v&&(e.e st v&&abC st is (.Tuple q c p) q v)
def Xb(FN:List Str)(k:Nat)(o e:Ck):s0:=.one fun st x=>Ds x fun ts v=>uA ts fun t=>Q2 t fun q n _=>oS (As FN k) n&&(o.e st q&&e.e st v)
def Xc(o i e:Ck):s0:=.one fun st x=>Ds x fun ts v=>uA ts fun t=>acR t fun q j=>o.e st q&&(i.e st j&&e.e st v)
noncomputable def af5(c:Ck)(a b:s0):s0:=.one fun st x=>anw x fun t l r=>c.b st t&&(a.ss st l&&b.ss st r)
def abO(c:Ck)(b:s0):s0:=.one fun st x=>acB x fun t l r=>nl r (c.b st t&&b.ss st l)
def ahl(st:SI)(xs:ac)(t:an):Bool:=uA xs (fun i=>sh t fun y=>pp st i y)||acS t fun q=>bw 1 xs.length&&CZ st xs q
def abL(xs:ac)(it:Ck)(b:s0):s0:=.one fun st x=>ajz x fun t i l r=>nl r (ahl st xs t&&(EF i&&(it.e st i&&b.ss st l)))
def abN(n:Bool)(e:Ck):s0:=.one fun st x=>Yy x fun o=>bo (motive:=fun _=>Bool) n (e.e st) o
noncomputable def af4:s0:=.one fun _ x=>ajx x true
noncomputable def abM(i:Nat):s0:=⟨fun _ _=>false,fun _ _=>false,fun st=>(st.at_ i).isSome⟩
def alt:s0:=⟨fun _ _=>false,fun _ xs=>nl xs true,fun _=>false⟩
def Xe(a b:s0):s0:=⟨fun _ _=>false,fun st xs=>(a.g st&&b.ss st xs)||hd xs fun x r=>a.s st x&&b.ss st r,fun _=>false⟩
def ckS(FN:List Str)(N:Wt)(t:TS):s0:=TS.rec (motive:=fun _=>s0) als (fun e=>Xf (ck FN N e)) (fun i e=>abK i (ck FN N e)) (fun is e=>Xd is (ck FN N e)) (fun k o e=>Xb FN k (ck FN N o) (ck FN N e)) (fun o i e=>Xc (ck FN N o) (ck FN N i) (ck FN N e))
 (fun c _ _=>af5 (ck FN N c)) (fun c _=>abO (ck FN N c)) (fun xs it _=>abL xs (ck FN N it)) (fun e=>abN (PT e) (ck FN N e)) af4 abM alt (fun _ _=>Xe) t
end
end
section
open PySem.SeqAt
noncomputable section
structure gX(X:FX)(st:SI):Prop where
 names:X.env.scope.names=st.names
 nm:X.names=st.at_
 ok:vi X
 sto:G7 X
 cells: ∀n,(n,eE)∈st.names\/(n,dz)∈st.names-> ∃c,X.env.cells.lookup n=some c
 own:st.own=true-> ∀n c,X.env.cells.lookup n=some c->c∈X.own
theorem gX.kind{X:FX}{st:SI}(H:gX X st)(x:Str):X.env.kindOf x=st.kind x:=by
 unfold Env.kindOf SI.kind;rw[H.names]
theorem kb{α:Type}[BEq α][LawfulBEq α]: ∀{l:List α},pq l=true->l.Nodup
 |[],_=>l4
 |x::r,h=>by
  simp only[pq,cL,d7]at h
  rw[dR]
  refine⟨fun hm=> ?_,kb h.2⟩
  rw[w9.mpr hm]at h
  exact absurd h.1 (by decide)
noncomputable def Cw(cells:List (Str×aC)):List (Str×cQ)->List (Str×aC)->List (Str×aC)
 |[],acc=>acc
 |(n,kd)::r,acc=>if kd== .free then Cw cells r ((n,(cells.lookup n).getD 0)::acc)else Cw cells r acc
theorem Cx{env:Env}: ∀(names:List (Str×cQ)) (acc:List (Str×aC)),(∀n,(n,dz)∈names-> ∃c,env.cells.lookup n=some c)->
  (forIn names acc fun x r=>(if x.2==dz then(do let a <- cellOf env x.1;pure (gH ((x.1,a)::r)))else pure (gH r):Sem (ForInStep (List (Str×aC)))))=pure (Cw env.cells names acc)
 |[],acc,_=>rfl
 |(n,kd)::r,acc,h=>by
  rw[gK]
  unfold Cw
  dsimp only
  split
  ·rename_i q
   have q:kd= .free:=by simpa using q
   subst q
   obtain⟨c,hc⟩:=h n bf
   have:cellOf env n=pure c:=by unfold cellOf;rw[hc]
   rw[this,pure_bind,pure_bind,hc]
   exact Cx r _ fun m hm=>h m (aQ _ hm)
  ·rw[pure_bind]
   exact Cx r _ fun m hm=>h m (aQ _ hm)
theorem xN{cells:List (Str×aC)}: ∀{names:List (Str×cQ)} {acc:List (Str×aC)} {p:Str×aC},p∈Cw cells names acc->p∈acc\/((p.1,dz)∈names/\p.2=(cells.lookup p.1).getD 0)
 |[],acc,p,h=>.inl h
 |(n,kd)::r,acc,p,h=>by
  unfold Cw at h
  split at h
  ·rename_i q
   have q:kd= .free:=by simpa using q
   subst q
   rcases xN h with h|h
   ·rcases aG.mp h with e|h
    ·subst e;exact .inr ⟨bf,rfl⟩
    ·exact .inl h
   ·exact .inr ⟨aQ _ h.1,h.2⟩
  ·rcases xN h with h|h
   ·exact .inl h
   ·exact .inr ⟨aQ _ h.1,h.2⟩
theorem KJ{cells:List (Str×aC)}: ∀{names:List (Str×cQ)} {acc:List (Str×aC)} {n:Str},(n,dz)∈names\/n∈acc.map (·.1)->n∈(Cw cells names acc).map (·.1)
 |[],acc,n,h=>by
  rcases h with h|h
  ·cases h
  ·exact h
 |(m,kd)::r,acc,n,h=>by
  unfold Cw
  split
  ·refine KJ ?_
   rcases h with h|h
   ·rcases aG.mp h with e|h
    ·cases e;exact .inr (by simp)
    ·exact .inl h
   ·exact .inr (by rw[bh];exact aQ _ h)
  ·rename_i q
   refine KJ ?_
   rcases h with h|h
   ·rcases aG.mp h with e|h
    ·cases e;exact absurd rfl q
    ·exact .inl h
   ·exact .inr h
theorem vQ{cells:List (Str×aC)}: ∀{names:List (Str×cQ)} {acc:List (Str×aC)},(names.map (·.1)).Nodup->(acc.map (·.1)).Nodup->(∀n,n∈names.map (·.1)->n∉acc.map (·.1))->((Cw cells names acc).map (·.1)).Nodup
 |[],acc,_,h,_=>h
 |(n,kd)::r,acc,h1,h2,h3=>by
  rw[bh,dR]at h1
  unfold Cw
  split
  ·refine vQ h1.2 (by rw[bh,dR];exact⟨h3 n (by simp),h2⟩) fun m hm=> ?_
   rw[bh,aG,not_or]
   exact⟨fun e=>h1.1 (e▸hm),h3 m (aQ _ hm)⟩
  ·exact vQ h1.2 h2 fun m hm=>h3 m (aQ _ hm)
theorem pk{α β:Type}[BEq α][LawfulBEq α]: ∀{l:List (α×β)} {n:α} {c:β},(l.map (·.1)).Nodup->(n,c)∈l->l.lookup n=some c
 |(m,d)::r,n,c,hN,h=>by
  rw[bh,dR]at hN
  rw[cD]
  rcases aG.mp h with e|h'
  ·cases e;simp
  ·have:(n==m)=false:=by
    rw[beq_eq_false_iff_ne];intro e;exact hN.1 (e▸dD.mpr ⟨_,h',rfl⟩)
   rw[this];exact pk hN.2 h'
theorem Vl{α β:Type}[BEq α][LawfulBEq α]{l:List (α×β)}{n:α}(h:n∈l.map (·.1)): ∃c,l.lookup n=some c:=by
 induction l with
 |nil=>cases h
 |cons p r ih=>
  rw[cD]
  cases q:n==p.1 with
  |true=>exact⟨_,rfl⟩
  |false=>
   rw[bh,aG]at h
   exact ih (h.resolve_left fun e=>by rw[e]at q;simp at q)
section
variable{X:FX}{k:Nat}{st:SI}
structure oW(st:SI)(scope:dY)(xs:List Nat)(ts:List Str):Prop where
 kind:scope.kind= .function
 nocell: ∀y∈scope.names,y.2≠ .cell
 locals: ∀y∈scope.names,y.2= .local->scope.names.lookup y.1=some .local
 free: ∀n,(n,dz)∈scope.names->st.kind n=some .cell\/st.kind n=some .free
 nodup:(scope.names.map (·.1)).Nodup
 tloc: ∀t∈ts,scope.names.lookup t=some .local
 tplain: ∀t∈ts,(t==("__debug__":Str)||t==("__classdict__":Str))=false
 uniq:((st.inner scope xs ts).nm.map (·.2)).Nodup
 len:xs.length=ts.length
 xnodup:xs.Nodup
 keys:(st.nm.map (·.1)).Nodup
theorem U0{scope:dY}{xs:ac}{ts:List Str}(h:NI st scope xs ts=true):oW st scope xs ts:=by
 unfold NI at h
 simp only[cL,bZ,beq_iff_eq,bne_iff_ne,ne_eq,oK]at h
 obtain⟨⟨⟨⟨⟨⟨⟨⟨⟨h1,h2⟩,h3⟩,h4⟩,h5⟩,h6⟩,h7⟩,h8⟩,h9⟩,h10⟩:=h
 refine⟨h1,h2,fun y hy e=>(h3 y hy).resolve_left fun q=>q e,fun n hn=>(h4 _ hn).resolve_left fun q=>q rfl,kb h5,fun t ht=>(h6 t ht).1,fun t ht=> ?_,kb h7,h8,kb h9,kb h10⟩
 have:=(h6 t ht).2
 unfold zy at this
 simpa using this
abbrev Pf(X:FX)(scope:dY):List (Str×aC):=Cw X.env.cells scope.names []
theorem Hn(H:gX X st){scope:dY}{xs:ac}{ts:List Str}(K:oW st scope xs ts){n:Str}(hn:(n,dz)∈scope.names): ∃c,X.env.cells.lookup n=some c:=
 H.cells n ((K.free n hn).imp dM dM)
theorem zg(H:gX X st){scope:dY}{xs:ac}{ts:List Str}(K:oW st scope xs ts){n:Str}(hn:(n,dz)∈scope.names):(Pf X scope).lookup n=X.env.cells.lookup n:=by
 have hN:=vQ (cells:=X.env.cells) (acc:=[]) K.nodup l4 (fun _ _ h=>by cases h)
 obtain⟨c,hc⟩:=Vl (KJ (cells:=X.env.cells) (acc:=[]) (.inl hn))
 rcases xN (dM hc)with h|⟨_,h⟩
 ·cases h
 ·obtain⟨d,hd⟩:=Hn H K hn
  have h:c=(X.env.cells.lookup n).getD 0:=h
  rw[hc,hd,h,hd];rfl
theorem MB{xs:ac}{ts:List Str}{i:Nat}{x:Str}(h:(xs.zip ts).lookup i=some x):i∈xs/\x∈ts:=by
 have:=dM h
 exact⟨(H5 this).1,(H5 this).2⟩
theorem Aq{α β:Type}[BEq α]{l m:List (α×β)}{x:α}:(l++m).lookup x=(l.lookup x).or (m.lookup x):=by
 induction l with
 |nil=>simp
 |cons p l ih=>
  rw[eZ,cD,cD]
  split<;>simp_all
theorem S7{scope:dY}{xs:ac}{ts:List Str}(K:oW st scope xs ts){i:Nat}{x:Str}(h:(st.inner scope xs ts).at_ i=some x):((xs.zip ts).lookup i=some x/\i∈xs/\x∈ts)\/(i∉xs/\st.at_ i=some x/\scope.names.lookup x=some .free):=by
 unfold SI.at_ SI.inner at h
 rw[Aq]at h
 cases q:(xs.zip ts).lookup i with
 |some y=>rw[q]at h;cases h;exact .inl ⟨rfl,MB q⟩
 |none=>
  rw[q,Kb]at h
  have:=List.mem_filter.mp (dM h)
  simp only[cL,d7,beq_iff_eq]at this
  obtain⟨h1,h2,h3⟩:=this
  exact .inr ⟨fun hm=>(by rw[w9.mpr hm]at h2;cases h2),pk K.keys h1,h3⟩
theorem uM(H:gX X st){scope:dY}{xs:ac}{ts:List Str}:(relabel scope X.env).names=(st.inner scope xs ts).names:=by
 unfold relabel SI.inner
 dsimp only
 refine fX fun p hp=> ?_
 obtain⟨n,kd⟩:=p
 rw[H.ok.kind,H.kind n]
 dsimp only
 by_cases h:(kd==dz&&st.kind n==some eE)=true
 ·have h':(kd==dz&&(lB==lB)&&st.kind n==some eE)=true:=by simpa using h
  rw[if_pos h,if_pos h']
 ·have h': ¬(kd==dz&&(lB==lB)&&st.kind n==some eE)=true:=by simpa using h
  rw[if_neg h,if_neg h']
theorem FY{scope:dY}{xs:ac}{ts:List Str}(K:oW st scope xs ts){n:Str}{kd:cQ}(h:(n,kd)∈scope.names):(st.inner scope xs ts).names.lookup n=some (if(kd==dz&&st.kind n==some eE)then eE else kd):=by
 refine pk ?_ (dD.mpr ⟨(n,kd),h,?_⟩)
 ·have:(st.inner scope xs ts).names.map (·.1)=scope.names.map (·.1):=by
   show(scope.names.map fun p=>if(p.2==dz&&st.kind p.1==some eE)then(p.1,eE)else p).map (·.1)=_
   rw[gL]
   refine fX fun p _=> ?_
   show(if _ then _ else _:Str×cQ).1=p.1
   split<;>rfl
  rw[this];exact K.nodup
 ·dsimp only
  split<;>rfl
theorem Pk(H:gX X st){scope:dY}{xs:ac}{ts:List Str}(K:oW st scope xs ts):El X scope (Pf X scope) (st.inner scope xs ts).at_ xs:=by
 refine⟨?_,K.kind,K.nocell,K.locals,fun i x hx=> ?_,fun n c e=> ?_,?_,fun i x hx=> ?_⟩
 ·unfold closureFor
  have:=Cx (env:=X.env) scope.names [] fun n hn=>Hn H K hn
  rw[bind_pure]
  exact this
 ·rcases S7 K hx with⟨_,h,_⟩|⟨h1,h2,h3⟩
  ·exact .inl h
  ·have hf:=dM h3
   refine .inr ⟨by rw[H.nm];exact h2,by rw[H.kind];exact K.free x hf,?_,zg H K hf⟩
   rw[uM H (xs:=xs) (ts:=ts),FY K hf]
   split
   ·exact .inl rfl
   ·exact .inr rfl
 ·have hm:=xN (dM e)
  rcases hm with h|⟨h,_⟩
  ·cases h
  ·rw[<- zg H K h];exact e
 ·have hN:=vQ (cells:=X.env.cells) (acc:=[]) K.nodup l4 (fun _ _ h=>by cases h)
  have hP:(Pf X scope).Pairwise fun p q=>p.1≠q.1:=List.pairwise_map.mp hN
  refine hP.imp_of_mem fun{p q} hp hq hne e=>hne ?_
  have look: ∀p∈Pf X scope,X.env.cells.lookup p.1=some p.2:=fun p hp=>by
   rcases xN hp with h|⟨h,_⟩
   ·cases h
   ·rw[<- zg H K h];exact pk hN hp
  have e1:=dM (look p hp)
  have e2:=dM (look q hq)
  rw[<- e]at e2
  exact Jl H.ok.apart e1 e2
 ·rcases S7 K hx with⟨_,_,h⟩|⟨h1,h2,h3⟩
  ·exact K.tplain x h
  ·exact H.ok.plain i x (by rw[H.nm];exact h2)
theorem Lj{x:Str}: ∀{l:List (Nat×Str)} {i j:Nat},(l.map (·.2)).Nodup->(i,x)∈l->(j,x)∈l->i=j
 |(m,d)::r,i,j,hN,h,h'=>by
  rw[bh,dR]at hN
  rcases aG.mp h with e|h1<;>rcases aG.mp h' with e'|h2
  ·cases e;cases e';rfl
  ·cases e;exact absurd (dD.mpr ⟨_,h2,rfl⟩) hN.1
  ·cases e';exact absurd (dD.mpr ⟨_,h1,rfl⟩) hN.1
  ·exact Lj hN.2 h1 h2
theorem Ma(H:gX X st){scope:dY}{xs:ac}{ts:List Str}(K:oW st scope xs ts){n:Str}{kd:cQ}(h:(n,kd)∈(st.inner scope xs ts).names)(hk:kd= .cell\/kd= .free):(n,dz)∈scope.names:=by
 obtain⟨⟨m,d⟩,hm,e⟩:=dD.mp h
 dsimp only at e
 split at e
 ·rename_i q
  cases e
  simp only[cL,beq_iff_eq]at q
  rw[q.1]at hm;exact hm
 ·cases e
  rcases hk with rfl|rfl
  ·exact absurd rfl (K.nocell _ hm)
  ·exact hm
theorem adV(H:gX X st){scope:dY}{xs:ac}{ts:List Str}(K:oW st scope xs ts){s:az}{L:aC}(hL: ∀n c,X.env.cells.lookup n=some c->c≠L):gX (X.inner scope (Pf X scope) (st.inner scope xs ts).at_ L s) (st.inner scope xs ts):=by
 have hk:(X.inner scope (Pf X scope) (st.inner scope xs ts).at_ L s).env.scope.kind= .function:=K.kind
 refine⟨uM H,rfl,adU H.ok (Pk H K) hL,⟨fun i j x hi hj=> ?_,?_⟩,fun n hn=> ?_,fun h=>by cases h⟩
 ·exact Lj K.uniq (dM hi) (dM hj)
 ·unfold interactive;rw[hk];rfl
 ·have hf:(n,dz)∈scope.names:=hn.elim (fun h=>Ma H K h (.inl rfl)) fun h=>Ma H K h (.inr rfl)
  obtain⟨c,hc⟩:=Hn H K hf
  exact⟨c,by show(Pf X scope).lookup n=_;rw[zg H K hf];exact hc⟩
theorem xV(H:gX X st){scope:dY}{xs:ac}{ts:List Str}(K:oW st scope xs ts){s:az}{L:aC}{i:Nat}{x:Str}(h:(xs.zip ts).lookup i=some x):kj (X.inner scope (Pf X scope) (st.inner scope xs ts).at_ L s) i x:=by
 obtain⟨hi,hx⟩:=MB h
 refine⟨?_,.inl ?_⟩
 ·show(st.inner scope xs ts).at_ i=some x
  unfold SI.at_ SI.inner
  rw[Aq,h];rfl
 ·show(relabel scope X.env).names.lookup x=_
  rw[uM H (xs:=xs) (ts:=ts),FY K (dM (K.tloc x hx))]
  rfl
end
end
end
section
open PySem.SeqAt
noncomputable section
noncomputable def akW(v:ah)(f:Int->Bool):Bool:=if h:v.ctorIdx=4 then xf (motive:=fun _=>Bool) v h fun i _=>f i else false
@[elab_as_elim] theorem apB {Q:ah->Prop} {v:ah} {f:Int->Bool} (h:akW v f=true) (k: ∀i t,f i=true->Q (.int i t)):Q v:=pN h fun hc h=>xf (motive:=fun v=> ∀hc:v.ctorIdx=4,xf (motive:=fun _=>Bool) v hc (fun i _=>f i)=true->Q v) v hc (fun i t _ h=>k i t h) hc h
noncomputable def akY(v:ah)(f:Str->Bool):Bool:=if h:v.ctorIdx=6 then xh (motive:=fun _=>Bool) v h fun i _=>f i else false
@[elab_as_elim] theorem apC {Q:ah->Prop} {v:ah} {f:Str->Bool} (h:akY v f=true) (k: ∀i t,f i=true->Q (.str i t)):Q v:=pN h fun hc h=>xh (motive:=fun v=> ∀hc:v.ctorIdx=6,xh (motive:=fun _=>Bool) v hc (fun i _=>f i)=true->Q v) v hc (fun i t _ h=>k i t h) hc h
noncomputable def acJ(v:ah)(f:aC->Bool):Bool:=if h:v.ctorIdx=10 then xg (motive:=fun _=>Bool) v h f else false
@[elab_as_elim] theorem akX {Q:ah->Prop} {v:ah} {f:aC->Bool} (h:acJ v f=true) (k: ∀i,f i=true->Q (.ref i)):Q v:=pN h fun hc h=>xg (motive:=fun v=> ∀hc:v.ctorIdx=10,xg (motive:=fun _=>Bool) v hc f=true->Q v) v hc (fun i _ h=>k i h) hc h
noncomputable def agd(d:Bn)(f:Array ah->Nat->Bool):Bool:=match d with
 | .seq vs n=>f vs n
 |_=>false
@[elab_as_elim] theorem age {Q:Bn->Prop} {d:Bn} {f:Array ah->Nat->Bool} (h:agd d f=true) (k: ∀vs n,f vs n=true->Q (.seq vs n)):Q d:=by
 cases d<;>first|exact ff h|exact k _ _ h
noncomputable def Vg(o:Obj)(f:List ah->Bool):Bool:=o.cls== .type "tuple" &&(o.dict.isNone&&(decide (o.slots= #[])&&agd o.data fun vs _=>f vs.toList))
@[elab_as_elim] theorem ahW {Q:Obj->Prop} {o:Obj} {f:List ah->Bool} (h:Vg o f=true) (k: ∀vs n,f vs=true->Q (tu vs n)):Q o:=by
 cases o with
 |mk c d dt sl=>
  refine aE h fun h1 h=>aE h fun h2 h=>aE h fun h3 h=>age (Q:=fun dt=>Q ⟨c,d,dt,sl⟩) h fun vs n h=> ?_
  rw[show c=_ from beq_iff_eq.mp h1,show d=none from dG.mp h2,show sl=_ from ag h3]
  exact k vs.toList n h
section
variable{k:Nat}{C:PC}
theorem afd{s:Str}{l:ac}(h:dm s.cps.toList l=true):s=aP l:=by
 obtain⟨⟨m⟩⟩:=s
 rw[kO]at h
 exact congrArg aP (ag h)
mutual
def kV(K:dL)(v:ah)(a:AV):Bool:=match a with
 | .none=>v== .none
 | .opq=>true
 | .bool b=>v== .bool b
 | .int i=>akW v fun j=>decide (j=i)
 | .str l=>akY v fun s=>dm s.cps.toList l
 | .tup l=>acJ v fun x=>C7 (K.lookup x) fun o=>Vg o fun vs=>kVL K vs l
 | .glob w=>v==w
 |_=>false
def kVL(K:dL)(vs:List ah)(l:aa):Bool:=match l with
 |[]=>nl vs true
 |a::l=>hd vs fun v r=>kV K v a&&kVL K r l
end
def ImK(C:PC)(W:Wd):Prop:= ∀x o,C.K.lookup x=some o->W.im x=some o
theorem cC.imK{W:Wd}{σ:AS}{h:bO}(R:cC C W σ h):ImK C W:=fun x o e=>R.base _ _ (C.inK _ _ e)
theorem Jj{α:Type}{P:Prop}{o:Option α}{f:α->Bool}(h:C7 o f=true)(k: ∀a,o=some a->f a=true->P):P:=by
 cases o with
 |some a=>exact k a rfl h
 |none=>exact ff h
mutual
theorem Th{W:Wd}(hW:ImK C W): ∀{a:AV} {v:ah},kV C.K v a=true->V C W a v
 | .none,v,h=>beq_iff_eq.mp (show(v== .none)=true from h)
 | .opq,v,h=>trivial
 | .bool b,v,h=>beq_iff_eq.mp (show(v== .bool b)=true from h)
 | .int i,v,h=>apB (show akW v (fun j=>decide (j=i))=true from h) fun j t h=>⟨t,(ag h)▸rfl⟩
 | .str l,v,h=>apC (show akY v (fun s=>dm s.cps.toList l)=true from h) fun j t h=>⟨t,congrArg (fun x=>gq x t) (afd h)⟩
 | .tup l,v,h=>akX (show acJ v (fun x=>C7 (C.K.lookup x) fun o=>Vg o fun vs=>kVL C.K vs l)=true from h) fun x h=>Jj h fun o ho h=>ahW (Q:=fun o=>C.K.lookup x=some o->V C W (.tup l) (.ref x)) h (fun vs n h ho=>⟨x,n,vs,rfl,hW _ _ ho,Ht hW h⟩) ho
 | .glob w,v,h=>(beq_iff_eq.mp (show(v==w)=true from h))
 | .unb,v,h=>ff h
 | .bytes _,v,h=>ff h
 | .lst _,v,h=>ff h
 | .frz _ _ _,v,h=>ff h
 | .dct _ _,v,h=>ff h
 | .dcti _ _,v,h=>ff h
 | .rng _ _,v,h=>ff h
 | .ref _,v,h=>ff h
theorem Ht{W:Wd}(hW:ImK C W): ∀{l:aa} {vs:List ah},kVL C.K vs l=true->VL C W l vs
 |[],vs,h=>Jf (show nl vs true=true from h) fun _=>VL.nil
 |a::l,vs,h=>Vd (show hd vs (fun v r=>kV C.K v a&&kVL C.K r l)=true from h) fun v r h=>aE h fun h1 h2=>VL.cons (Th hW h1) (Ht hW h2)
end
def agi(K:dL)(dfl:aa)(v:ah):Bool:=bu (motive:=fun _=>Bool) (v== .none) (fun _ _ _=>acJ v fun x=>C7 (K.lookup x) fun o=>agd o.data fun vs _=>kVL K vs.toList dfl) dfl
theorem ZP{dfl:aa}{v:ah}(h:agi C.K dfl v=true){W:Wd}{σ:AS}{s:az}(R:cC C W σ s.heap): ∃d:Option (Array ah),VL C W dfl (d.getD #[]).toList/\
  ∀(M:lb) (A:b7) (E:ah->az->Prop) (Q:Option (Array ah)->az->Prop),Q d s->wpAny M A (seqItems? v) Q E s:=by
 cases dfl with
 |nil=>exact⟨none,VL.nil,X1 (beq_iff_eq.mp (show(v== .none)=true from h))⟩
 |cons a l=>
  exact akX h fun x h=>Jj h fun o ho h=>age (d:=o.data) (Q:=fun d'=>o.data=d'-> ∃d:Option (Array ah),VL C W (a::l) (d.getD #[]).toList/\ ∀(M:lb) (A:b7) (E:ah->az->Prop) (Q:Option (Array ah)->az->Prop),Q d s->wpAny M A (seqItems? (.ref x)) Q E s) h
   (fun vs n h hd=>⟨some vs,Ht R.imK h,fun M A E Q hq=>wpAny_seqItems (R.K _ _ ho) hd hq⟩) rfl
end
end
end
section
open PySem.SeqAt
noncomputable section
section
variable{k:Nat}{C:PC}
theorem cC.ns{W:Wd}{σ:AS}{h:bO}(R:cC C W σ h):h.Ns mainGlobals C.mg/\h.Ns builtinsNs C.mb:=
 ⟨C.g.keeps fun b o e=>R.im _ _ (R.base _ _ e),C.b.keeps fun b o e=>R.im _ _ (R.base _ _ e)⟩
theorem lU{x:Str}{a:AV}{v:ah}(hm:C.mg x=some v)(hv: ∀W,ImK C W->V C W a v):np C x a:=fun M A E env W σ s Q hg hb R h=>
 loadGlobal_global (by rw[hg];exact R.ns.1) hm (h v (hv W R.imK))
theorem TO{x:Str}{v:ah}(hm:C.mg x=none)(hn:x≠ "__name__")(hv:bootBuiltins x=some v):np C x (.glob v):=fun M A E env W σ s Q hg hb R h=>
 loadGlobal_builtin (by rw[hg];exact R.ns.1) hm (by rw[hb];exact R.ns.2) (by rw[C.boot x hn];exact hv) (h v rfl)
theorem eN.under{A:b7}(R:eN A (k+1)){c:aC}{v:List ah}{kw:List (Str×ah)}:eN (A.under (.builtin "type.__call__" ⟨.ref c::v,kw⟩)) k:=by
 have h1:(tE "type.__call__" ⟨.ref c::v,kw⟩).weight=1:=by first|rfl|kernel_rfl
 have h2:(tE "type.__call__" ⟨.ref c::v,kw⟩).cUnits=1:=by first|rfl|kernel_rfl
 have:=R.depth
 have:=R.units
 exact⟨R.handled,by show A.depth+(tE "type.__call__" ⟨.ref c::v,kw⟩).weight +k<_;omega,by show A.units+(tE "type.__call__" ⟨.ref c::v,kw⟩).cUnits +4*k<_;omega⟩
theorem aeJ{c fI:aC}{F:aW}(hm:makesIn C.K c=true)(hi:findIn C.K (.ref c) "__init__"=some (some (.ref fI)))(hf:typeIn C.K (.ref fI)=some (.type "function"))(hc:C.cls c=true)(hF:pV C k (.ref fI) F):aF C (k+1) (.ref c) (uy c F):=fun A Rm W σ s args vs R hv tk a ai e=>by
 refine fR (show bC (F (.ref σ.next::args) (σ.alloc (.inst c [] []))) _=_ from e) fun xJ ay q e=> ?_
 revert q
 refine Ct (Q:=fun xJ=>F (.ref σ.next::args) (σ.alloc (.inst c [] []))=some (xJ,ay)->_) e fun e q=> ?_
 apply s2 e
 ·refine oU ?_
  obtain⟨hh,g,d,t,os⟩:=s
  have X:=R.K
  refine make_core (makes_of X hm) (tT X hi) (fun self=>bind_fn X self hf) (.inl rfl) ?_
  have k1: ∀b o,hh.get? b=some o->((hh.push emptyDict).push (instObj c hh.objs.size)).get? b=some o:=fun b o e=>bH _ (bH _ e)
  have gd:((hh.push emptyDict).push (instObj c hh.objs.size)).get? hh.objs.size=some (dictOf [] 0):=bH _ (bp _ rfl)
  have gx:((hh.push emptyDict).push (instObj c hh.objs.size)).get? (hh.objs.size+1)=some (instObj c hh.objs.size):=by
   have:=bp (hh.push emptyDict) (o:=instObj c hh.objs.size) rfl
   rwa[p8]at this
  have R1:cC C W σ ((hh.push emptyDict).push (instObj c hh.objs.size)):=R.keeps k1
  have R2:=R1.addIm (x:=hh.objs.size+1) gx (R.pr_new (cR _)) (R.cell_new (cR _))
  have le1:W.le (W.addIm (hh.objs.size+1) (instObj c hh.objs.size)):=Wd.le_addIm fun o' e=>by rw[R.im_new (cR _)]at e;cases e
  have le2:(W.addIm (hh.objs.size+1) (instObj c hh.objs.size)).le ((W.addIm (hh.objs.size+1) (instObj c hh.objs.size)).addId σ.next (hh.objs.size+1,hh.objs.size)):=Wd.le_addId (R2.fresh _ (ax _))
  have R3:=R2.alloc (c:=.inst c [] []) (p:=(hh.objs.size+1,hh.objs.size)) ⟨hc,ms,[],0,[],gd,VL.nil,trivial⟩
   (by
    show(if hh.objs.size=hh.objs.size+1 then _ else W.im hh.objs.size)=none
    rw[if_neg (ct (bU _))];exact R.im_new (ax _)) (R.pr_new (ax _)) (R.cell_new (ax _))
  have hv':=VL.cons (rh (C:=C) (W:=W.addIm (hh.objs.size+1) (instObj c hh.objs.size)) (n:=σ.next) (p:=(hh.objs.size+1,hh.objs.size))) (hv.mono (le1.trans le2))
  refine Oh (hF _ Rm.under _ _ ⟨(hh.push emptyDict).push (instObj c hh.objs.size),g,d,t,os⟩ _ _ R3 hv' tk _ _ q) fun r s' z=> ?_
  match r,z with
  | .ok (.ret v),z=>
   obtain⟨⟨sz,akR,hs,aoq⟩,W',l',R',hq⟩:=z
   obtain rfl:v= .none:=hq
   exact⟨rfl,⟨sz,akR,hs,aoq⟩,W',(le1.trans le2).trans l',R',_,l'.1 _ _ (if_pos rfl),rfl⟩
  | .error e,z=>exact z.elim
end
end
end
section
open PySem.SeqAt
noncomputable section
section
variable{k:Nat}{C:PC}
theorem aF.le{k':Nat}{f:ah}{F:aW}(h:aF C k f F)(hk:k<=k'):aF C k' f F:=fun A R=>h A (R.le hk)
theorem d6.le{k':Nat}{x:Str}{D:gR}(h:d6 C k x D)(hk:k<=k'):d6 C k' x D:=fun W σ hh a v F R hv e=>let⟨f,h1,h2,h3⟩:=h W σ hh a v F R hv e;⟨f,h1,h2,h3.le hk⟩
theorem du{x:Str}:d6 C k x gP:=fun W σ h a v F R hv e=>by cases e
theorem Tj{x:Str}{ks:ac}{vs:List ah}{es:List ia}(hx: ∀i∈ks,i<C.nf->C.fname i≠x)(q:oY C ks vs es):getL x es=some none:=by
 have h1:es.find? (·.key.isStr x)=none:=by
  rw[List.find?_eq_none]
  intro e he
  induction es generalizing ks vs with
  |nil=>cases he
  |cons en es ih=>
   cases ks with
   |nil=>cases vs<;>exact T6 q
   |cons kk ks=>cases vs with
    |nil=>exact T6 q
    |cons v vs=>
     obtain⟨hk,⟨t,ht⟩,_,q⟩:=q
     rcases aG.mp he with rfl|he
     ·rw[ht];simp[kM,hx kk (bf ..) hk]
     ·exact ih (fun i hi=>hx i (aQ _ hi)) q he
 unfold getL
 rw[h1,if_neg]
 intro h
 obtain⟨e,he,h⟩:=kg.mp h
 rw[(Hu q).1 e he]at h;cases h
theorem ZE{W:Wd}{σ:AS}{h:bO}(R:cC C W σ h){c:Nat}(hcl:C.cls c=true){a:AV}{v:ah}(hv:V C W a v)(hd:FQ a σ=some c): ∃ks fs,Op C W h v c ks fs:=by
 cases a with
 |frz d ks fs=>cases hd;exact⟨ks,fs,S0 R hv⟩
 |ref y=>
  refine oE (show ob (σ.get y) Xa=some c from hd) fun cc hc hd=> ?_
  cases cc with
  |inst d ks fs=>cases hd;exact⟨ks,fs,TC R hc hv⟩
  |orc d l=>cases hd;exact ajo R hc hcl hv
  |_=>exact nn hd
 |_=>exact nn hd
theorem aeG{x:Str}{c f:aC}{F:aW}{G:gR}(hcl:C.cls c=true)(hx: ∀i,i<C.nf->C.fname i≠x)(hg:plainGet C.K c x=true)(hf:findIn C.K (.ref c) x=some (some (.ref f)))(ht:typeIn C.K (.ref f)=some (.type "function"))(hk:keepIn C.K (.ref f)=true)
  (hF:aF C k (.ref f) F)(hG:d6 C k x G):d6 C k x (fm c F G):=fun W σ h a v F' R hv e=>by
 refine oE (show ob (FQ a σ) _=_ from e) fun d hd e=>bE e (fun z e=> ?_) fun z e=>hG W σ h _ v F' R hv e
 apply s1 e
 have z:c=d:=aD z
 obtain⟨ks,fs,I⟩:=ZE R hcl hv (z▸hd)
 obtain⟨y,d,es,n,vs,hy,q0,q1,q2,r,z⟩:=I.at_
 refine⟨.ref f,fun A s pl E Q hs hq=> ?_,rn hk,hF⟩
 subst hs;subst hy
 exact method_fn R.K (I:=(⟨q1,rfl,rfl,q2⟩:InstAt s.heap y (instObj c d) c (some (dictOf es n)))) (qF hg).1 (qF hg).2 hf ht (by show(lookIn x (dictOf es n)).map _=_;rw[lookIn_dict,Tj (fun i _=>hx i) z];rfl) hq
end
end
end
section
open PySem.SeqAt
noncomputable section
section
variable{k:Nat}{C:PC}{W:Wd}{σ:AS}{s:az}{h':bO}
def Sm0(s s':az):Prop:= ∃h t,s'={s with heap:=h,toks:=t}
def rO(C:PC)(W:Wd)(ai:AS)(a:AV)(s:az)(v:ah)(s':az):Prop:=Sm0 s s'/\ ∃W',W.le W'/\cC C W' ai s'.heap/\V C W' a v
theorem JB{f:ah}{F:aW}(h: ∀A,eN A k-> ∀W σ s args vs,cC C W σ s.heap->VL C W args vs->1<=s.toks-> ∀a ai,F args σ=some (a,ai)->wpAny (dI C) A (call f vs) (rO C W ai a s) dw s):aF C k f F:=
 fun A R W σ s args vs Re hv tk a ai e=>V2 (ax s.toks) (eC (h A R W σ s args vs Re hv tk a ai e) fun v s' ⟨⟨h',t',q⟩,z⟩ ht=>⟨⟨h',t',q,by rw[q]at ht;exact ht⟩,z⟩)
theorem cC.same(R:cC C W σ s.heap){a:AV}{v:ah}(q:V C W a v)(t:Nat):rO C W σ a s v {s with toks:=t}:=⟨⟨s.heap,t,rfl⟩,W,.refl _,R,q⟩
theorem cC.grown(R:cC C W σ s.heap){a:AV}{v:ah}(q:V C W a v)(hk: ∀b o,s.heap.get? b=some o->h'.get? b=some o)(t:Nat):rO C W σ a s v {s with heap:=h',toks:=t}:=⟨⟨h',t,rfl⟩,W,.refl _,R.keeps hk,q⟩
theorem cC.free(R:cC C W σ s.heap){x:aC}(hx:s.heap.get? x=none):W.im x=none/\W.pr x=none/\s6 W σ x:=by
 refine⟨?_,?_,fun a cc p e e' q=> ?_⟩
 ·cases e:W.im x with
  |none=>rfl
  |some o=>have:=R.im _ _ e;rw[hx]at this;cases this
 ·cases e:W.pr x with
  |none=>rfl
  |some o=>have:=R.pr _ _ e;rw[hx]at this;cases this
 ·obtain⟨p',a1,a2,_⟩:=R.cell a cc e
  rw[e']at a1;cases a1
  obtain⟨o,ho⟩:=a2.some
  rw[q,hx]at ho;cases ho
theorem tB(h:bO):h.get? h.objs.size=none:=by
 cases e:h.get? h.objs.size with
 |none=>rfl
 |some o=>exact absurd (cv e) (zQ _)
theorem cC.newIm(R:cC C W σ s.heap)(a:AV){x:aC}{o:Obj}(hk: ∀b o,s.heap.get? b=some o->h'.get? b=some o)(hx:s.heap.get? x=none)(ho:h'.get? x=some o)(q: ∀W',W.le W'->W'.im x=some o->V C W' a (.ref x))(t:Nat):rO C W σ a s (.ref x) {s with heap:=h',toks:=t}:=by
 obtain⟨f1,f2,f3⟩:=R.free hx
 have R':=(R.keeps hk).addIm ho f2 f3
 have le:W.le (W.addIm x o):=Wd.le_addIm fun o' e=>by rw[f1]at e;cases e
 exact⟨⟨h',t,rfl⟩,_,le,R',q _ le ms⟩
theorem cC.newLst(R:cC C W σ s.heap){l:aa}{vs:List ah}{n:Nat}{x:aC}(hk: ∀b o,s.heap.get? b=some o->h'.get? b=some o)(hx:s.heap.get? x=none)(ho:h'.get? x=some (dC vs n))(q:VL C W l vs)(t:Nat):
  rO C W (σ.alloc (.lst l)) (.ref σ.next) s (.ref x) {s with heap:=h',toks:=t}:=by
 obtain⟨f1,f2,f3⟩:=R.free hx
 have le:W.le (W.addId σ.next (x,x)):=Wd.le_addId (R.fresh _ (ax _))
 exact⟨⟨h',t,rfl⟩,_,le,(R.keeps hk).alloc (p:=(x,x)) ⟨rfl,vs,n,ho,q.mono le⟩ f1 f2 f3,rh⟩
theorem Cs{i:Int}{t:Tok}:V C W (.int i) (.int i t):=⟨t,rfl⟩
theorem G6{l:ac}{t:Tok}:V C W (.str l) (.str (aP l) t):=⟨t,rfl⟩
theorem Ld{f:ah}:aF C k f Uq:=JB fun A R W σ s args vs Re hv tk a ai e=>by cases e
theorem aaD{n:Nat}(h:dB n=true):(n:Int)<2^63:=by
 have:=jP h
 omega
@[elab_as_elim] theorem UO {β:Type} {Q:List AV->Prop} {l:aa} {f:AV->Option β} {r:β} (h:ri l f=some r) (kk: ∀a,f a=some r->Q [a]):Q l:=by
 cases l with
 |nil=>exact nn h
 |cons a l=>cases l with
  |nil=>exact kk a h
  |cons b l=>exact nn h
@[elab_as_elim] theorem KD {β:Type} {Q:List AV->Prop} {l:aa} {f:AV->AV->Option β} {r:β} (h:vN l f=some r) (kk: ∀a b,f a b=some r->Q [a,b]):Q l:=by
 cases l with
 |nil=>exact nn h
 |cons a l=>exact UO (Q:=fun l=>Q (a::l)) h fun b h=>kk a b h
@[elab_as_elim] theorem Zs {β:Type} {Q:List AV->Prop} {l:aa} {f:AV->AV->AV->Option β} {r:β} (h:WX l f=some r) (kk: ∀a b c,f a b c=some r->Q [a,b,c]):Q l:=by
 cases l with
 |nil=>exact nn h
 |cons a l=>exact KD (Q:=fun l=>Q (a::l)) h fun b c h=>kk a b c h
theorem sg{f:ah}{G:AS->AV->Option (AV×AS)}(h: ∀A,eN A k-> ∀W σ s a v,cC C W σ s.heap->V C W a v->1<=s.toks-> ∀r ai,G σ a=some (r,ai)->wpAny (dI C) A (call f [v]) (rO C W ai r s) dw s):aF C k f (fun args σ=>ri args (G σ)):=
 JB fun A R W σ s args vs Re hv tk r ai e=>UO (Q:=fun args=>VL C W args vs->_) e (fun a e hv=>hv.consE fun v l q hv=>hv.nilE (h A R W σ s a v Re q tk r ai e)) hv
theorem HH{f:ah}{G:AS->AV->AV->Option (AV×AS)}(h: ∀A,eN A k-> ∀W σ s a b v w,cC C W σ s.heap->V C W a v->V C W b w->1<=s.toks-> ∀r ai,G σ a b=some (r,ai)->wpAny (dI C) A (call f [v,w]) (rO C W ai r s) dw s):aF C k f (fun args σ=>vN args (G σ)):=
 JB fun A R W σ s args vs Re hv tk r ai e=>KD (Q:=fun args=>VL C W args vs->_) e (fun a b e hv=>hv.consE fun v l q hv=>hv.consE fun w l q' hv=>hv.nilE (h A R W σ s a b v w Re q q' tk r ai e)) hv
theorem apu{f:ah}{G:AS->AV->AV->AV->Option (AV×AS)}(h: ∀A,eN A k-> ∀W σ s a b d v w u,cC C W σ s.heap->V C W a v->V C W b w->V C W d u->1<=s.toks-> ∀r ai,G σ a b d=some (r,ai)->wpAny (dI C) A (call f [v,w,u]) (rO C W ai r s) dw s):aF C k f (fun args σ=>WX args (G σ)):=
 JB fun A R W σ s args vs Re hv tk r ai e=>Zs (Q:=fun args=>VL C W args vs->_) e (fun a b d e hv=>hv.consE fun v l q hv=>hv.consE fun w l q' hv=>hv.consE fun u l q'' hv=>hv.nilE (h A R W σ s a b d v w u Re q q' q'' tk r ai e)) hv
theorem al4{P:Prop}{a:AV}{p:AV×AS}(h:anm σ a=some p)(k1: ∀s,a= .str s->(bif dB (eY s)then some (AV.int (am (eY s)),σ)else none)=some p->P)(k2:(ob (nF σ a) fun l=>bif dB (eY l)then some (AV.int (am (eY l)),σ)else none)=some p->P):P:=by
 cases a with
 |str s=>exact k1 s rfl h
 |_=>exact k2 h
theorem eM:aF C k (.builtin "len") eV:=sg fun A R W σ s a v Re q tk r ai e=>al4 e (fun x ha e=>kS e fun z e=>by
  rw[ip]at z e
  apply s2 e
  rw[ha]at q
  refine q.strE fun t=>Ud (by rw[bP];exact Int.not_le.mpr (aaD z)) ?_
  rw[bP]
  exact Re.same Cs _) fun e=>oE e fun l hl e=>kS e fun z e=>by
  rw[ip]at z e
  apply s2 e
  refine Hr Re hl q fun x ws hw hx=> ?_
  have h3:ws.toArray.size=l.length:=by rw[aZ];exact hw.length
  rcases hx with hx|hx
  ·refine NB hx (by rw[h3];exact aaD z) ?_
   rw[h3];exact Re.same Cs _
  ·refine Ri hx (by rw[h3];exact aaD z) ?_
   rw[h3];exact Re.same Cs _
theorem QD{n:Nat}(z:bw n 100000=true):n<2^20:=fe (dh.mp z) (by decide)
theorem VN:aF C k (.type "range") Sk:=sg fun A R W σ s a v Re q tk r ai e=>mm (Q:=fun a=>V C W a v->_) e (fun n e q=>q.intE fun t=>kS e fun z e=>by
  apply s2 e
  exact call_range_1 (Re.newIm (.rng 0 n) (eu _ _) (tB _) (bp _ rfl) (fun W' _ e=>⟨_,_,_,_,rfl,e,by decide,QD z⟩) _)) q
theorem VO:aF C k (.type "range") Sl:=HH fun A R W σ s a b v w Re q q' tk r ai e=>mm (Q:=fun a=>V C W a v->_) e (fun n e q=>mm (Q:=fun b=>V C W b w->_) e (fun m e q'=>q.intE fun t=>q'.intE fun u=>kS e fun z e=>aE z fun z1 z2=>by
  apply s2 e
  exact call_range_2 (Re.newIm (.rng n m) (eu _ _) (tB _) (bp _ rfl) (fun W' _ e=>⟨_,_,_,_,rfl,e,QD z1,QD z2⟩) _)) q') q
theorem wg:aF C k (.type "range") lD:=fun A Rm W σ s args vs R hv tk a ai e=>bE e (fun _ e=>VN A Rm W σ s args vs R hv tk a ai e) fun _ e=>VO A Rm W σ s args vs R hv tk a ai e
theorem al2{Q:AV->Prop}{a:AV}(h:CN a=true)(kk: ∀l,Q (.tup l)):Q a:=by
 cases a<;>first|exact ff h|exact kk _
theorem oB:aF C k (.type "tuple") fi:=sg fun A R W σ s a v Re q tk r ai e=>bE e (fun z e=>s2 (P:=fun r ai=>wpAny (dI C) A (call (.type "tuple") [v]) (rO C W ai r s) dw s) e (al2 (Q:=fun a=>V C W a v->wpAny (dI C) A (call (.type "tuple") [v]) (rO C W σ a s) dw s) z (fun l q=>by
  exact V.tupE (Q:=fun v=>V C W (.tup l) v->wpAny (dI C) A (call (.type "tuple") [v]) (rO C W σ (.tup l) s) dw s) q (fun x n ws h1 h2 q'=>call_tuple_same (items:=ws.toArray) ⟨_,Re.im _ _ h1,rfl,n,rfl⟩ (Re.same q' _)) q) q)) fun _ e=>oE e fun l hl e=>kS e fun z e=>by
  apply s2 e
  refine nt Re hl q fun x n ws hx hw=> ?_
  refine call_tuple_list (lO hx) (fun h' hk=> ?_) (by rw[aZ,hw.length];exact iZ z)
  refine Re.newIm (s:=s) (.tup l) (h':=h'.push {cls:=.type "tuple",data:=.seq ws.toArray}) (o:=tu ws 0) (fun b o e=>eu _ _ _ _ (hk b o e)) (by
    cases e:s.heap.get? h'.objs.size with
    |none=>rfl
    |some o=>exact absurd (cv (hk _ _ e)) (zQ _)) (bp _ rfl) (fun W' le e=>⟨_,0,ws,rfl,e,hw.mono le⟩) _
theorem aaU:aF C k (.type "list") abt:=sg fun A R W σ s a v Re q tk r ai e=>oE e fun l hl e=>kS e fun z e=>by
  apply s2 e
  refine Hs Re hl q fun x n ws hw hx=> ?_
  have h2:ws.toArray.size<=sizeLine:=by rw[aZ,hw.length];exact iZ z
  rcases hx with hx|hx
  ·exact MJ x (.inl rfl) hx rfl rfl (fun h' c' hk ho=>Re.newLst hk (tB _) ho hw _) h2
  ·exact MJ x (.inr rfl) hx rfl rfl (fun h' c' hk ho=>Re.newLst hk (tB _) ho hw _) h2
theorem alm{i:Int}:(if i<0 then-i else i)=am i.natAbs:=by
 cases i with
 |ofNat n=>exact if_neg (sU.mpr (dq n))
 |negSucc n=>exact if_pos (pR n)
theorem TK:aF C k (.builtin "abs") Za:=sg fun A R W σ s a v Re q tk r ai e=>lp (Q:=fun a=>V C W a v->_) e (fun i e q=>q.intE fun t=>by
  apply s2 e
  refine call_abs_int fun u tk=> ?_
  rw[alm];exact Re.same Cs _) q
theorem alq{n:Nat}(z:bw n 0xD800=true):(decide ((n:Int)<0)||decide ((n:Int)>1114111))=false:=by
 have:=dh.mp z
 rw[decide_eq_false (by omega),decide_eq_false (by omega)];rfl
theorem TL:aF C k (.builtin "chr") Zb:=sg fun A R W σ s a v Re q tk r ai e=>mm (Q:=fun a=>V C W a v->_) e (fun n e q=>q.intE fun t=>kS e fun z e=>by
  apply s2 e
  exact PySem.P.chr_of_int (alq z) (Re.same (G6 (l:=[n])) _)) q
@[elab_as_elim] theorem W0 {β:Type} {Q:AV->Prop} {a:AV} {f:Nat->Option β} {r:β} (h:UP a f=some r) (kk: ∀c,f c=some r->Q (.str [c])):Q a:=fT h fun s h=>by
 cases s with
 |nil=>exact nn h
 |cons c l=>cases l with
  |nil=>exact kk c h
  |cons=>exact nn h
@[elab_as_elim] theorem O9 {β:Type} {Q:AV->Prop} {a:AV} {f:Nat->List Nat->Option β} {r:β} (h:NH a f=some r) (kk: ∀c l,f c l=some r->Q (.str (c::l))):Q a:=fT h fun s h=>by
 cases s with
 |nil=>exact nn h
 |cons c l=>exact kk c l h
theorem TM:aF C k (.builtin "ord") Zc:=sg fun A R W σ s a v Re q tk r ai e=>W0 (Q:=fun a=>V C W a v->_) e (fun i e q=>q.strE fun t=>by
  apply s2 e
  exact PySem.P.ord_of_char (Re.same Cs _)) q
theorem amf{i j:Int}{t u:Tok}:(if j<i then Bv j u else .int i t)= .int (bif CW j i then j else i) (if j<i then u else t):=by
 rw[xY]
 by_cases q:j<i
 ·rw[if_pos q,if_pos q,decide_eq_true q];rfl
 ·rw[if_neg q,if_neg q,decide_eq_false q];rfl
theorem aeM:aF C k (.builtin "min") Ur:=HH fun A R W σ s a b v w Re q q' tk r ai e=>lp (Q:=fun a=>V C W a v->_) e (fun i e q=>lp (Q:=fun b=>V C W b w->_) e (fun j e q'=>q.intE fun t=>q'.intE fun u=>by
  apply s2 e
  refine min_two_ints R.handled fun h' tk hk=> ?_
  rw[amf];exact Re.grown Cs hk _) q') q
theorem VK:aF C k (.builtin "list.append") gu:=HH fun A R W σ s a b v w Re q q' tk r ai e=>iA (Q:=fun a=>V C W a v->_) e (fun x e q=>lstE e fun l hg e=>kS e fun z e=>by
  apply s2 e
  refine Re.lstE hg q fun p us n q1 q0 q2 r=> ?_
  refine vf (items:=us.toArray) ⟨n,q2⟩ (fun h' hp hs=> ?_) (by rw[aZ,r.length];exact iZ z)
  obtain⟨n',hg'⟩:=hp
  rw[E0]at hg'
  exact⟨⟨h',s.toks,rfl⟩,W,.refl _,Re.set (c:=.lst _) hg q1 (fun b o hb e=>hs.extBut b o (q0▸hb) e) ⟨q0,_,_,q0▸hg',r.append (VL.one q')⟩,rfl⟩) q
end
end
end
section
open PySem.SeqAt
noncomputable section
section
variable{k:Nat}{C:PC}{W:Wd}{σ:AS}{s:az}{h':bO}
theorem TZ{h:bO}{l:aC}{vs ws:List ah}{n:Nat}{f:Array ah->Array ah}(hl:h.get? l=some (dC vs n))(hf:f vs.toArray=ws.toArray): ∃n',(h.update l (H8 f)).get? l=some (dC ws n'):=by
 have q:=Y8 (h:=h) (l:=l) (items:=vs.toArray) (n:=n) hl f
 rw[hf]at q
 exact⟨_,q⟩
theorem VL.last{l:aa}{us:List ah}{y:AV}(q:VL C W l us)(h:l.getLast?=some y): ∃v,us=us.dropLast++[v]/\V C W y v/\VL C W l.dropLast us.dropLast:=by
 have hne:l≠[]:=by rintro rfl;cases h
 have hl:0<l.length:=List.length_pos_iff.mpr hne
 rw[sX]at h
 obtain⟨v,e,q'⟩:=q.get h
 have hu:=q.length
 refine⟨v,?_,q',?_⟩
 ·have hne':us≠[]:=by rintro rfl;simp at hu;omega
  have e2:us.getLast hne'=v:=by
   have:us.getLast?=some v:=by rw[sX,hu];exact e
   rw[List.getLast?_eq_some_getLast hne']at this;exact aH this
  rw[<- e2];exact(List.dropLast_concat_getLast hne').symm
 ·rw[xa,xa,hu];exact q.take _
theorem aiH{A:b7}{x:aC}{us:List ah}{v:ah}{n:Nat}{Q:ah->az->Prop}(e1:us=us.dropLast++[v])(g:s.heap.get? x=some (dC us n))(hz:us.length<=sizeLine)
  (h: ∀h' n',h'.get? x=some (dC us.dropLast n')->i7 x s.heap h'->Q v {s with heap:=h'}):wpAny (dI C) A (call (.builtin "list.pop") [.ref x]) Q dw s:=by
 have hk:us.toArray.size-1=us.dropLast.length:=by rw[aZ,List.length_dropLast]
 have hy':us.toArray[us.toArray.size-1]? =some v:=by
  rw[hk]
  have:us[us.dropLast.length]? =some v:=(congrArg (fun z:List ah=>z[us.dropLast.length]?) e1).trans (by rw[List.getElem?_concat_length])
  rw[jT];exact this
 obtain⟨n',hg'⟩:=TZ (ws:=us.dropLast) (f:=fun x=>x.eraseIdxIfInBounds (us.toArray.size-1)) g (by
  show us.toArray.eraseIdxIfInBounds (us.toArray.size-1)=us.dropLast.toArray
  rw[hk]
  have key:(us.dropLast++[v]).toArray.eraseIdxIfInBounds us.dropLast.length=us.dropLast.toArray:=by rw[kl_erase,aR]
  exact(congrArg (fun z:List ah=>z.toArray.eraseIdxIfInBounds us.dropLast.length) e1).trans key)
 exact mc PySem.F.slot_list_pop ⟨_,g,rfl⟩ PySem.F.entry_list_pop (PySem.F.args_list_pop_1 _) (Kd x _ n v hy' (by rw[aZ];exact hz)) ⟨g,h _ _ hg' (ji ..)⟩
theorem aeN:aF C k (.builtin "list.pop") Zd:=sg fun A R W σ s a v Re q tk r ai e=>iA (Q:=fun a=>V C W a v->_) e (fun x e q=>lstE e fun l hg e=>oE e fun y hy e=>kS e fun z e=>by
  apply s2 e
  refine Re.lstE hg q fun p us n q1 q0 q2 r=> ?_
  obtain⟨v,e1,h1,h2⟩:=r.last hy
  exact aiH e1 q2 (by rw[r.length];exact iZ z) fun h' n' hg' hs=>⟨⟨_,_,rfl⟩,W,.refl _,Re.set (c:=.lst _) hg q1 (fun b o hb e=>hs.extBut b o (q0▸hb) e) ⟨q0,_,_,q0▸hg',h2⟩,h1⟩) q
theorem Xx{A:b7}{E:ah->az->Prop}{x y:aC}{us ws:List ah}{n n2:Nat}{Q:ah->az->Prop}(hx:s.heap.get? x=some (dC us n))(hy:s.heap.get? y=some (dC ws n2))(hz:us.length+ws.length<=4000000)
  (h: ∀h' n',h'.get? x=some (dC (us++ws) n')->i7 x s.heap h'->Q .none {s with heap:=h'}):wpAny (dI C) A (call (.builtin "list.extend") [.ref x,.ref y]) Q E s:=by
 obtain⟨n',hg'⟩:=TZ (ws:=us++ws) (f:=fun x=>x++ws.toArray) hx (by simp)
 refine mc PySem.F.slot_list_extend ⟨_,hx,rfl⟩ PySem.F.entry_list_extend (PySem.F.args_list_extend_2 _ _) (Bh x us.toArray n y ws.toArray n2 ?_ ?_ ?_) ⟨hx,hy,h _ _ hg' (ji ..)⟩
 ·unfold i6
  simp only[aZ,jE]
  have: ¬us.length+ws.length>16777216:=by omega
  simp[this]
 ·rw[aZ,jE];omega
 ·rw[aZ,aZ,jE];omega
theorem Xy(Re:cC C W σ s.heap){x:Nat}{l m:aa}{p:aC×aC}{us ws:List ah}{h':bO}{n':Nat}(h1:σ.get x=some (.lst l))(q1:W.ρ x=some p)(q0:p.1=p.2)(r:VL C W l us)(r2:VL C W m ws)(hg':h'.get? p.1=some (dC (us++ws) n'))(hs:i7 p.1 s.heap h'):
  rO C W (σ.set x (.lst (l++m))) .none s .none {s with heap:=h'}:=⟨⟨h',s.toks,rfl⟩,W,.refl _,Re.set (c:=.lst _) h1 q1 (fun b o hb e=>hs.extBut b o (q0▸hb) e) ⟨q0,_,_,q0▸hg',r.append r2⟩,rfl⟩
theorem aly{x:Nat}{b:AV}{m:aa}{Q:AV->Prop}(e:ahf σ x b=some m)(k1: ∀y,σ.get y=some (.lst m)->Q (.ref y))(k2:Q (.lst m)):Q b:=by
 cases b with
 |ref y=>exact kN e fun _ e=>lstE e fun l hg e=>by cases e;exact k1 y hg
 |lst l=>cases e;exact k2
 |_=>exact nn e
theorem VM:aF C k (.builtin "list.extend") fZ:=HH fun A R W σ s a b v w Re q q' tk r ai e=>iA (Q:=fun a=>V C W a v->_) e (fun x e q=>oE e fun m hm e=>lstE e fun l h1 e=>kS e fun z e=>by
  apply s2 e
  refine Re.lstE h1 q fun p us n q1 q0 g r=> ?_
  have hz: ∀{ws:List ah},VL C W m ws->us.length+ws.length<=4000000:=fun r2=>by rw[r.length,r2.length];exact jP z
  exact aly (Q:=fun b=>V C W b w->_) hm (fun y h2 q'=>Re.lstE h2 q' fun p2 ws n2 _ _ g2 r2=>Xx g g2 (hz r2) fun h' n' hg' hs=>Xy Re h1 q1 q0 r r2 hg' hs)
   (fun q'=>q'.lstE fun y n2 ws g2 r2=>Xx g (Re.im _ _ g2) (hz r2) fun h' n' hg' hs=>Xy Re h1 q1 q0 r r2 hg' hs) q') q
theorem Xk: ∀n:Fin 1000,(lC (toString (am n.val))).cps.toList=Ps n.val:=by decide +kernel
theorem aa4{n:Nat}(hn:n<1000):(am n).natAbs.log2 <1920:=by
 by_cases q:n=0
 ·subst q;decide
 ·exact(Fv q).mpr (show n<2^1920 from fe hn (au (show 1000<=2^10 by decide) (iU (by decide) (by decide))))
theorem YO{n:Nat}(hn:n<1000):lC (toString (am n))=aP (Ps n):=congrArg (fun l:List Nat=>(⟨l.toArray⟩:Str)) (Xk ⟨n,hn⟩)
theorem Lg:aF C k (.type "str") Us:=sg fun A R W σ s a v Re q tk r ai e=>mm (Q:=fun a=>V C W a v->_) e (fun n e q=>q.intE fun t=>kS e fun z e=>by
  apply s2 e
  refine PySem.P.str_of_int (aa4 (dh.mp z)) ?_
  rw[YO (dh.mp z)]
  exact Re.same G6 _) q
theorem RN{n:Nat}{ns:List Int}{l:List UInt8}(h3:byteArr ns=l.toArray):byteArr (am n::ns)=(Rl n::l).toArray:=by
 have h3:ns.map (fun n=>n.toNat.toUInt8)=l:=congrArg N0 h3
 rw[<- h3];rfl
theorem Yh{l:aa}: ∀{b:List UInt8},aaB l=some b-> ∀{vs:List ah},VL C W l vs->(∃ns:List Int,IntsAre vs ns/\(∀n∈ns,0<=n/\n<256)/\byteArr ns=b.toArray)/\b.length=l.length:=by
 induction l with
 |nil=>exact fun e vs q=>s1 (P:=fun b=>(∃ns:List Int,IntsAre vs ns/\(∀n∈ns,0<=n/\n<256)/\byteArr ns=b.toArray)/\b.length=0) e (q.nilE ⟨⟨[],.nil,fun _ h=>absurd h bg,rfl⟩,rfl⟩)
 |cons a r ih=>exact fun{b} e vs q=>q.consE fun v us q1 q2=>mm (Q:=fun a=>V C W a v->_) e (fun n e q1=>kS e fun z e=>oE e fun l hl e=>q1.intE fun t=>by
   apply s1 e
   obtain⟨⟨ns,h1,h2,h3⟩,h4⟩:=ih hl q2
   refine⟨⟨am n::ns,.cons _ _ h1,fun m hm=>(aG.mp hm).elim (fun e=>e▸⟨dq n,ib.mpr (dh.mp z)⟩) (h2 m),RN h3⟩,congrArg nP h4⟩) q1
theorem YC:aF C k (.type "bytes") Wk:=sg fun A R W σ s a v Re q tk r ai e=>oE e fun l hl e=>oE e fun b hb e=>kS e fun z e=>by
  apply s2 e
  refine nt Re hl q fun x n ws hx hw=> ?_
  obtain⟨⟨ns,h1,h2,h3⟩,h5⟩:=Yh hb hw
  refine call_bytes_ints (lO hx) h1 h2 (by rw[hw.length,<- h5];exact iZ z) R.handled fun h' t kk hk=> ?_
  rw[h3]
  exact Re.grown (show V C W (.bytes b) (.bytes b.toArray t) from⟨t,rfl⟩) hk _
end
end
end
section
open PySem.SeqAt
noncomputable section
section
variable{k:Nat}{C:PC}{W:Wd}{σ:AS}{s:az}{h':bO}
noncomputable def zI(sep:ac):List (List Nat)->List Nat
 |[]=>[]
 |b::r=>sep++b++zI sep r
theorem I6(sep:ac): ∀(a:ac) (r:List (List Nat)),lq sep (a::r)=a++zI sep r
 |a,[]=>by simp[lq,zI]
 |a,b::r=>by
  rw[lq,I6 sep b r,zI]
  ·simp
  ·simp
theorem PM(sep:ac): ∀(r:List (List Nat)) (acc:ac),(r.map aP).foldl (fun acc p=>acc++(aP sep).cps++p.cps) acc.toArray=(acc++zI sep r).toArray
 |[],acc=>by simp[zI]
 |b::r,acc=>by
  rw[bh,H3]
  have:acc.toArray++(aP sep).cps++(aP b).cps=(acc++sep++b).toArray:=by simp[aP]
  rw[this,PM sep r,zI]
  simp
theorem Ey(sep:ac)(l:List (List Nat)):Oe (aP sep) (l.map aP)=aP (lq sep l):=by
 unfold Oe Y3
 cases l with
 |nil=>rfl
 |cons a r=>
  rw[I6]
  show(⟨(r.map aP).foldl _ (aP a).cps⟩:Str)=_
  have:=PM sep r a
  unfold aP at this ⊢
  rw[this]
theorem QK: ∀(ss:List (List Nat)) (ts:List Tok),ts.length=ss.length->Sh ((ss.zip ts).map fun p=>.str (aP p.1) p.2) (ss.map aP)
 |[],_,_=>.nil
 |a::ss,t::ts,h=>.cons _ _ (QK ss ts (by simpa using h))
 |_::_,[],h=>by simp at h
theorem Tf(sep:ac): ∀l:List (List Nat),((l.map aP).map (·.length)).sum <=(lq sep l).length
 |[]=>by simp
 |[a]=>by simp[lq,bP]
 |a::b::r=>by
  have:=Tf sep (b::r)
  rw[lq]
  ·simp only[bh,List.sum_cons,ao,bP]at this ⊢;omega
  ·simp
end
end
end
section
open PySem.SeqAt
open Builtin Builtin.Str
noncomputable section
theorem aed:typeLookup (.type "dict_keyiterator") "__len__"=pure none:=by rw[Ie,xi];kernel_rfl
theorem ahO:typeLookup (.type "dict_keyiterator") "__length_hint__"=pure (some (.builtin "dict_keyiterator.__length_hint__")):=by rw[Ie,xi];kernel_rfl
section
variable{prog:fY}{w:dZ}{A:b7}{E:ah->az->Prop}{s:az}{I:aC}{fp wr:List aC}{G:Array yK->Array yK->Prop}{n:Nat}{P:Nat->ah->Prop}{St:Nat->az->Prop}
theorem RP{Q:List ah->az->Prop}(W:WalksS prog w A.in1 I fp wr G n P St)(hT: ∀i s,St i s->s.TypeIs (.ref I) "dict_keyiterator")(hst:St 0 s)(hfp: ∀b∈fp,b<s.heap.objs.size)(hI:I∈fp)
  (hQ: ∀s' acc,Moved wr G s s'->ItemsOf P acc n->Q acc.toList s')(hn:n<=sizeLine):wpAny (model prog w) A (collect (.ref I)) Q E s:=by
 have hSf:s.heap.objs.size∉fp:=fun hm=>zQ _ (hfp _ hm)
 have hSI:s.heap.objs.size≠I:=fun e=>hSf (e▸hI)
 unfold collect
 refine aq (wpAny_runValue (Ia F.entry_proto_collect ?_))
 rw[yH F.plain_proto_collect _]
 show wpAny _ A.in1 (newList []>>=fun l=>again (.builtin "list.__iadd__" ⟨[l,.ref I],[]⟩)) _ _ s
 refine aq (gO ?_)
 refine aL ⟨MK EU _,Ia F.entry_list_iadd ?_⟩
 rw[yH EU _]
 have Ez:=W.frame 0 s (s.heap.push {cls:=.type "list",data:=.seq ([]:List ah).toArray}) s.toks hst (ax _) fun b _ o e=>bH _ e
 have aok:(s.heap.push {cls:=.type "list",data:=.seq ([]:List ah).toArray}).get? s.heap.objs.size=some {cls:=.type "list",data:=.seq ([]:List ah).toArray}:=bp _ rfl
 have h1:tD (.ref s.heap.objs.size) (.ref I)=false:=by simp[tD,hSI]
 show wpAny _ A.in1 (qV (.ref s.heap.objs.size) (.ref I) (.ref s.heap.objs.size)) _ _ _
 unfold qV
 refine aq (Oj (hT 0 _ Ez) ?_)
 rw[if_neg (by rw[h1];decide)]
 refine aq (W.self 0 _ _ _ Ez ?_)
 refine aq (dJ ?_)
 unfold Lx
 refine aq (Ih (hT 0 _ Ez) aed ?_)
 show wpAny _ A.in1 (specialOf (oh I) (lC "__length_hint__")>>=_) _ _ _
 refine aq (Ih (hT 0 _ Ez) ahO ?_)
 generalize hid:("dict_keyiterator.__length_hint__":String)=id0
 wp_delta
 rw[show splitId id0=some ("dict_keyiterator","__length_hint__") from by subst hid;decide +kernel]
 subst hid
 refine aq (wpAny_isInstance (b:=true) (hT 0 _ Ez) (by rw[isSubtype_type];kernel_rfl) ?_)
 refine aL ?_
 rw[if_neg (by decide)]
 refine aL ⟨MK F.plain_extend_loop _,codeAny_extend_loopS W hn _ hSf _ n 0 _ _ _ rfl (aU _) Ez aok (ItemsOf.nil P) fun s' acc' c' hm hS' hacc=> ?_⟩
 show wpAny _ A (load s.heap.objs.size>>=_) _ _ s'
 refine aq (wpAny_load hS' ?_)
 exact aL (hQ s' acc' (Moved.drop_new (o:={cls:=.type "list",data:=.seq ([]:List ah).toArray}) (tk:=s.toks) hm (ax _)) hacc)
end
section
variable{k:Nat}{C:PC}{W:Wd}{σ:AS}{s:az}{h':bO}{A:b7}{E:ah->az->Prop}
theorem ald{ks:List Str}: ∀{vs:List ah} {j:Nat} {a:Str} {y:ah},(ks.zip vs)[j]? =some (a,y)->ks[j]?.getD Wf=a:=by
 induction ks with
 |nil=>exact fun{vs j a y} h=>by cases h
 |cons b ks ih=>
  intro vs j a y h
  cases vs with
  |nil=>cases h
  |cons v vs=>cases j with
   |zero=>cases h;rfl
   |succ j=>exact ih (vs:=vs) (j:=j) h
theorem aa5{L:List ah}: ∀{ks:List Str},(∀(j:Nat) v,L[j]? =some v-> ∃t,v= .str (ks[j]?.getD Wf) t)->L.length=ks.length-> ∃l:List (Str×Tok),strValues l=L/\l.map (·.1)=ks:=by
 induction L with
 |nil=>
  intro ks _ hlen
  cases ks with
  |nil=>exact⟨[],rfl,rfl⟩
  |cons=>cases hlen
 |cons v L ih=>
  intro ks each hlen
  cases ks with
  |nil=>cases hlen
  |cons kk ks=>
   obtain⟨t,ht⟩:=each 0 v rfl
   refine eX (ih (ks:=ks) (fun j v e=>each (j+1) v e) (jV hlen)) fun l h1 h2=> ?_
   exact⟨(kk,t)::l,by rw[<- h1,ht];rfl,by rw[<- h2];rfl⟩
theorem aam{x:Str}{t:Tok}{d:aC}{ks:List Str}{vs:List ah}{ep:Nat}{Q:ah->az->Prop}(hh:A.handled=none)(h0:(d==sysModules)=false)(hl:ks.length=vs.length)(hd:s.heap.DictAt (rI C.prog C.w) d (ks.zip vs) ep)(hN:ks.length<=sizeLine)
  (hok:JoinOk x ks=true)(h: ∀h' t' tk,(∀b o,s.heap.get? b=some o->h'.get? b=some o)->Q (.str (Oe x ks) t') {s with heap:=h',toks:=tk}):wpAny (dI C) A (call (.builtin "str.join") [.str x t,.ref d]) Q E s:=by
 have hT:s.TypeIs (.ref d) "dict":=hd.dictOf.typeIs
 refine oU (oT vp.plain F.entry_str_join (vp.check _ _ _ _ _ _ _ _ (me _ _ _) (F.args_str_join_2 _ _) ?_))
 rw[join_tree_other]
 refine aq (Oj hT ?_)
 show wpAny _ A.in1 ((pyIter (.ref d)).tryCatch _>>=fun it=>collect it>>=fun items=>joinTail x items) _ _ s
 have hz:(ks.zip vs).length=ks.length:=by simp[hl]
 have ne:d≠s.heap.objs.size:=by obtain⟨o,es,ho,_⟩:=hd;exact ct (cv ho)
 refine aq (wpAny_tryCatch (Fh h0 hd ?_))
 have W:=(Ke (A:=A.in1.in1) (knd:=rI C.prog C.w) hh s.heap.objs.size d ne (ks.zip vs) ep).toS
 refine aq (RP W (fun _ _ st=>let⟨o,ho,hc,_⟩:=st.1;⟨o,ho,hc⟩) ⟨⟨_,bp _ rfl,rfl,rfl⟩,hd.at' fun o e=>eu _ _ _ _ e⟩ (fun b hb=> ?_) (by simp) (fun s' acc hm hacc=> ?_) (by rw[hz];exact hN))
 ·rw[p8]
  simp at hb
  rcases hb with rfl|rfl
  ·exact bU _
  ·obtain⟨o,es,ho,_⟩:=hd;exact cO (cv ho)
 ·refine apY (hacc) fun ha hv=> ?_
  have key: ∃l:List (Str×Tok),strValues l=acc.toList/\l.map (·.1)=ks:=aa5 (fun j v e=>by
    refine SS (hv j v (by rw[<- Array.getElem?_toList];exact e)) fun kk y e1 e2=> ?_
    obtain⟨t,rfl⟩:=Mine.strKind_is e2
    exact⟨t,congrArg (gq · t) (ald e1).symm⟩) (by rw[Array.length_toList,ha,hz])
  refine eX (key) fun l hl1 hl2=> ?_
  rw[<- hl1]
  have hs':s'={s with heap:=s'.heap,toks:=s'.toks}:=by
   obtain⟨h1,g1,d1,t1,o1⟩:=s'
   have a1:=hm.gens
   have a2:=hm.drawn
   have a3:=hm.os
   dsimp only at a1 a2 a3 ⊢
   rw[a2,a3,a1]
  have keep: ∀b o,s.heap.get? b=some o->s'.heap.get? b=some o:=fun b o e=>hm.heap b o (by simp;exact ct (cv e)) (eu _ _ _ _ e)
  have hok':=hok
  rw[<- hl2]at hok'
  unfold JoinOk at hok'
  rw[d7]at hok'
  have g:Gives (joinTail x (strValues l)) (joinMade x l):=by
   have g0:=gives_joinTail x l hok'
   cases l with
   |nil=>exact g0
   |cons p r=>cases r with
    |nil=>exact g0
    |cons q r'=>exact g0
  exact g C.prog C.w A (wants Q E) s' (post_join l ⟨joinFit_length hok',fun t' kk=>by rw[hl2,hs'];exact h _ _ _ keep⟩)
theorem ad5{b:AV}{l:List (List Nat)}{P:Prop}(h:acg σ b=some l)(k1: ∀fs,b= .dct l fs->P)(k2: ∀m,nF σ b=some m->nN m=some l->P):P:=by
 have k3:ob (nF σ b) nN=some l->P:=fun h=>oE h k2
 clear k2
 cases b with
 |dct ks fs=>exact s1 (P:=fun l=>(∀fs',AV.dct ks fs= .dct l fs'->P)->P) h (fun k1=>k1 fs rfl) k1
 |_=>exact k3 h
theorem XO{sep:ac}{l:List (List Nat)}(z:dB (eY (lq sep l)+eY l*eY sep+eY l)=true):((l.map aP).map (·.length)).sum +(l.map aP).length *(aP sep).length <=16777216/\l.length<=sizeLine:=by
 rw[ip,ip,ip]at z
 have hz:=jP z
 have hsum:=Tf sep l
 rw[aS,bP,jE]
 generalize l.length*sep.length=q at *
 generalize ((l.map aP).map (·.length)).sum=w at *
 generalize (lq sep l).length=u at *
 exact⟨by omega,by omega⟩
theorem aaT:aF C k (.builtin "str.join") vy:=HH fun A R W σ s a b v w Re q q' tk r ai e=>fT (Q:=fun a=>V C W a v->_) e (fun sep e q=>q.strE fun t=>oE e fun l hl e=>kS e fun z e=>by
  apply s2 e
  have hok:=XO z
  refine ad5 hl (fun fs hb=> ?_) fun m hm hl=> ?_
  ·subst hb
   refine q'.dctE fun x o ws q0 q1 q2 qd=> ?_
   obtain⟨q3,es,ep,qd⟩:=qd
   refine aam R.handled q0 (by rw[aS];exact q3) ⟨o,es,Re.im _ _ q1,qd⟩ ?_ (joinOk_of hok.1) fun h' t' tk hk=> ?_
   ·rw[aS];exact hok.2
   ·rw[Ey];exact Re.grown G6 hk _
  ·refine Hr Re hm q' fun x ws hws hx=> ?_
   refine eX (O2 hl hws) fun ts h1 h2=> ?_
   subst h2
   have hs:=QK l ts h1
   rcases hx with hx|hx
   ·refine Rh hx hs hok.1 fun t' kk=> ?_
    rw[Ey];exact Re.same G6 _
   ·refine Rc hx hs hok.1 fun t' kk=> ?_
    rw[Ey];exact Re.same G6 _) q
end
end
end
section
open PySem.SeqAt
open Builtin Builtin.Str
noncomputable section
def Ii(s p:ac)(i:Nat):Prop:=i+p.length<=s.length/\subAt (aP s) (aP p) i=true
theorem Cy{s p:ac}{i:Nat}(hi:i<=s.length):Ii s p i↔jZ p (s.drop i)=true:=by
 unfold Ii
 simp only[tS,gQ,bP,beq_iff_eq,HB]
 constructor
 ·rintro⟨_,h⟩;exact h
 ·intro h
  refine⟨?_,h⟩
  have:=congrArg na h
  simp only[kh,g9]at this
  omega
theorem Tx(s p:ac): ∀(l:ac) (j f:Nat),(forIn l ((#[j]:Array Nat),f) (ef (aP s) (aP p) s.length 1)).run.fst= #[j]
 |[],_,_=>rfl
 |a::l,j,f=>by
  rw[gK]
  unfold ef
  rw[if_neg (by simp)]
  exact Tx s p l j f
theorem Qp(s p:ac): ∀(pre post:ac) (j free:Nat),(∀i∈pre++[j],free<=i)->(∀i∈pre,¬Ii s p i)->Ii s p j->
  (forIn (pre++j::post) ((#[]:Array Nat),free) (ef (aP s) (aP p) s.length 1)).run.fst= #[j]
 |[],post,j,free,hf,_,hj=>by
  rw[vt,gK]
  unfold ef
  have h1:free<=j:=hf j (by simp)
  have h2:=hj.1
  rw[if_pos ⟨⟨⟨by simp,h1⟩,by rw[bP];exact h2⟩,hj.2⟩]
  exact Tx s p post j _
 |a::pre,post,j,free,hf,hn,hj=>by
  rw[eZ,gK]
  unfold ef
  rw[if_neg (by
   rintro⟨⟨_,h1⟩,h2⟩
   rw[bP]at h1
   exact hn a (bf ..) ⟨h1,h2⟩)]
  exact Qp s p pre post j free (fun i hi=>hf i (by rw[eZ];exact aQ _ hi)) (fun i hi=>hn i (aQ _ hi)) hj
theorem IY(p:ac): ∀(s:ac) (i j:Nat),Ew p i s=some j-> ∃k,j=i+k/\k<=s.length/\jZ p (s.drop k)=true/\ ∀m,m<k->jZ p (s.drop m)=false
 |[],i,j,e=>by
  unfold Ew at e
  cases z:jZ p []<;>rw[z]at e<;>cases e
  exact⟨0,rfl,ax _,z,fun m hm=>absurd hm (iw _)⟩
 |a::s,i,j,e=>by
  unfold Ew at e
  cases z:jZ p (a::s)<;>rw[z]at e
  ·obtain⟨k,h1,h2,h3,h4⟩:=IY p s (i+1) j e
   refine⟨k+1,by omega,by simp;exact h2,h3,fun m hm=> ?_⟩
   cases m with
   |zero=>exact z
   |succ m=>exact h4 m (by omega)
  ·cases e
   exact⟨0,rfl,aU _,z,fun m hm=>absurd hm (iw _)⟩
theorem aaA{s p:ac}{j:Nat}(e:Ew p 0 s=some j):occurrences (aP s) (aP p) 0 (aP s).length 1=[j]:=by
 obtain⟨k,h1,h2,h3,h4⟩:=IY p s 0 j e
 have hk:k=j:=by omega
 subst hk
 rw[xe,bP]
 have hs:iV 0 (s.length+1-0)=iV 0 k++k::iV (k+1) (s.length-k):=by
  have h5:s.length+1-0=k+((s.length-k)+1):=by omega
  rw[h5,<- List.range'_append_1,ic,tK]
 rw[hs,Qp s p _ _ k 0 (fun _ _=>aU _) (fun i hi=> ?_) ((Cy h2).mpr h3)]
 have hi:i<k:=by simpa[EZ] using hi
 rw[Cy (by omega),h4 i hi]
 decide
section
variable{k:Nat}{C:PC}
theorem YD:aF C k (.builtin "str.index") Ip:=HH fun A R W σ s a b v w Re q q' tk r ai e=>fT (Q:=fun a=>V C W a v->_) e (fun sep e q=>O9 (Q:=fun b=>V C W b w->_) e (fun c p e q'=>oE e fun i hi e=>q.strE fun t=>q'.strE fun u=>by
  apply s2 e
  exact PySem.SC.index (aaA hi) (Re.same Cs _)) q') q
end
end
end
section
open PySem.SeqAt
open Builtin Builtin.Str
noncomputable section
noncomputable def pz(c:Nat):Nat->List Nat->List Nat
 |_,[]=>[]
 |i,a::r=>bif aj a c then i::pz c (i+1) r else pz c (i+1) r
theorem aa6{s:ac}{c i a:Nat}{r:ac}(h:s.drop i=a::r):subAt (aP s) (aP [c]) i=aj a c:=by
 rw[tS,gQ,bP,gQ,h,f8]
 by_cases q:a=c<;>simp[q]
theorem Qo(s:ac)(c lim:Nat): ∀(r:ac) (i:Nat) (found:Array Nat) (free:Nat),s.drop i=r->i<=s.length->free<=i->found.size+r.length<lim->
  (forIn (iV i (r.length+1)) (found,free) (ef (aP s) (aP [c]) s.length lim)).run.fst.toList=found.toList++pz c i r
 |[],i,found,free,h,hi,hf,hl=>by
  have:s.length<=i:=oN.mp h
  rw[show iV i (([]:List Nat).length +1)=[i] from rfl,gK]
  unfold ef
  rw[if_neg (by
   rintro⟨⟨_,h1⟩,_⟩
   rw[bP]at h1;simp at h1;omega)]
  simp[pz]
 |a::r,i,found,free,h,hi,hf,hl=>by
  have hlt:i<s.length:=by
   rcases oP i s.length with z|z
   ·exact z
   ·rw[hV z]at h;cases h
  have hr:s.drop (i+1)=r:=by
   have:=congrArg (Bs 1) h
   simpa[p9] using this
  rw[bT,tK,gK]
  unfold pz
  have hs:=aa6 (c:=c) h
  cases q:aj a c with
  |true=>
   rw[q]at hs
   unfold ef
   rw[if_pos ⟨⟨⟨by simp at hl ⊢;omega,hf⟩,by rw[bP];simp;omega⟩,hs⟩]
   have ih:=Qo s c lim r (i+1) (found.push i) (i+(aP [c]).length) hr hlt (by rw[bP];simp) (by simp at hl ⊢;omega)
   simp only[af]
   rw[Array.toList_push]at ih
   exact ih.trans (by simp)
  |false=>
   rw[q]at hs
   unfold ef
   rw[if_neg (by rintro⟨_,h2⟩;rw[hs]at h2;cases h2)]
   exact Qo s c lim r (i+1) found free hr hlt (mN hf) (by simp at hl ⊢;omega)
theorem Yg(s:ac)(c:Nat):occurrences (aP s) (aP [c]) 0 (aP s).length ((aP s).length +1)=pz c 0 s:=by
 rw[xe,bP]
 have:=Qo s c (s.length+1) s 0 #[] 0 rfl (aU _) (ax _) (by simp)
 simpa using this
theorem acE(s:ac)(a b:Nat):strSub (aP s) a b=aP ((s.take b).drop a):=by
 unfold strSub aP
 congr 1
 apply Gu.mp
 simp[List.drop_take]
theorem vX(s:ac)(c:Nat): ∀(r:ac) (i i0:Nat) (acc:ac),s.drop i=r->i0<=i->i<=s.length->acc.reverse=(s.take i).drop i0->
  ((i0::(pz c i r).map (· +1)).zip (pz c i r++[s.length])).map (fun p=>strSub (aP s) p.1 p.2)=(dv c acc r).map aP
 |[],i,i0,acc,h,h0,hi,ha=>by
  have hl:s.length<=i:=oN.mp h
  have:i=s.length:=vu hi hl
  subst this
  simp only[pz,jU,vt,bQ,List.zip_nil_left,bh,dv]
  rw[acE,ha]
 |a::r,i,i0,acc,h,h0,hi,ha=>by
  have hlt:i<s.length:=by
   rcases oP i s.length with z|z
   ·exact z
   ·rw[hV z]at h;cases h
  have hr:s.drop (i+1)=r:=by
   have:=congrArg (Bs 1) h
   simpa[p9] using this
  have hai:s[i]? =some a:=by
   have:(s.drop i)[0]? =some a:=by rw[h];rfl
   simpa using this
  unfold pz dv
  cases q:aj a c with
  |true=>
   simp only[af,bh,eZ,bQ]
   have ih:=vX s c r (i+1) (i+1) [] hr (ax _) hlt (by simp)
   rw[acE,ha]
   exact congrArg _ ih
  |false=>
   simp only[ae]
   refine vX s c r (i+1) i0 (a::acc) hr (mN h0) hlt ?_
   rw[E1,ha,List.take_add_one,hai,List.drop_append_of_le_length (by simp;omega)]
   rfl
end
end
section
open PySem.SeqAt
open Builtin Builtin.Str
noncomputable section
section
variable{k:Nat}{C:PC}{s:az}{A:b7}{E:ah->az->Prop}
theorem aa3{x y:Str}{t u:Tok}{Q:ah->az->Prop}(hy:(y.length==0)=false)
  (h: ∀(l:List (Str×Tok)) k,l.map (·.1)=LB x y->Q (.ref s.heap.objs.size) {s with heap:=s.heap.push (dC (strValues l) 0),toks:=k})
  (hsz:x.length+2<=sizeLine):
  wpAny (dI C) A (call (.builtin "str.split") [.str x t,.str y u]) Q E s:=by
 have hn:(partsBetween x (occurrences x y 0 x.length (x.length+1)) y.length).length <=sizeLine:=by
  have e1:=StrLaws.occ_length_le x y 0 x.length (x.length+1)
  rw[length_partsBetween];omega
 cases h1:(decide (x.length<y.length)||decide (gy x<gy y))
 ·cases hf:(occurrences x y 0 x.length (x.length+1)).isEmpty
  ·refine mc nO (me _ _ _) sp (qZ _ _) (meets_str_split_sep x y t u h1 hy hf (by omega) hn) ?_
   show wants Q E _ {s with toks:=_,heap:=s.heap.push {cls:=.type "list",data:=.seq (strsFrom s.toks (partsBetween x (occurrences x y 0 x.length (x.length+1)) y.length)).toArray}}
   rw[strsFrom_eq]
   exact h (numbered s.toks _) _ ((numbered_texts _ _).trans ((if_neg (ne_true_of_eq_false h1)).trans (if_neg (ne_true_of_eq_false hf))).symm)
  ·exact mc nO (me _ _ _) sp (qZ _ _) (meets_str_split_not_found x y t u h1 hy hf)
    (h [(x,t)] s.toks ((if_neg (ne_true_of_eq_false h1)).trans (if_pos hf)).symm)
 ·exact mc nO (me _ _ _) sp (qZ _ _) (meets_str_split_cannot_occur x y t u h1)
   (h [(x,t)] s.toks (if_pos h1).symm)
theorem Du(c:Nat): ∀(s acc:ac),(∀a∈s,aj a c=false)->dv c acc s=[acc.reverse++s]
 |[],acc,_=>by simp[dv]
 |a::s,acc,h=>by
  unfold dv
  rw[h a (bf ..),ae,Du c s (a::acc) fun b hb=>h b (aQ _ hb)]
  simp
theorem K5(c:Nat): ∀(s:ac) (i:Nat),pz c i s=[]-> ∀a∈s,aj a c=false
 |[],_,_,a,h=>by cases h
 |b::s,i,e,a,h=>by
  unfold pz at e
  cases q:aj b c with
  |true=>rw[q]at e;cases e
  |false=>
   rw[q]at e
   rcases aG.mp h with rfl|h
   ·exact q
   ·exact K5 c s (i+1) e a h
theorem ah2{s:ac}{c:Nat}(h:gy (aP s)<gy (aP [c])): ∀a∈s,aj a c=false:=by
 intro a ha
 cases q:aj a c with
 |false=>rfl
 |true=>
  exfalso
  have:=aD q
  subst this
  unfold gy aP at h
  simp only[List.all_toArray]at h
  by_cases h1:a<256
  ·simp[h1]at h
   split at h<;>(try split at h)<;>omega
  ·by_cases h2:a<65536
   ·have e1:(s.all fun x=>decide (x<256))=false:=by
     rw[sr];exact⟨a,ha,by simp[h1]⟩
    simp[h1,h2,e1]at h
    first|omega|(split at h<;>omega)
   ·have e1:(s.all fun x=>decide (x<256))=false:=by
     rw[sr];exact⟨a,ha,by simp[h1]⟩
    have e2:(s.all fun x=>decide (x<65536))=false:=by
     rw[sr];exact⟨a,ha,by simp[h2]⟩
    simp[h1,h2,e1,e2]at h
theorem ae8(s:ac)(c:Nat):LB (aP s) (aP [c])=(dv c [] s).map aP:=by
 have no:(∀a∈s,aj a c=false)->[aP s]=(dv c [] s).map aP:=fun h=>by rw[Du c s [] h];simp
 unfold LB
 split
 ·rename_i h
  rw[oK,decide_eq_true_iff,decide_eq_true_iff,bP,bP]at h
  rcases h with h|h
  ·have:s=[]:=List.eq_nil_of_length_eq_zero (by simp at h;simp[h])
   subst this;exact no fun a ha=>by cases ha
  ·exact no (ah2 h)
 ·rw[Yg]
  split
  ·rename_i h
   exact no (K5 c s 0 (eB.mp h))
  ·have:=vX s c s 0 0 [] rfl (ax _) (aU _) (by simp)
   rw[<- this]
   unfold partsBetween
   rw[bP,bP]
   rfl
theorem LY{W:Wd}: ∀{ss:List (List Nat)} {l:List (Str×Tok)},l.map (·.1)=ss.map aP->VL C W (ss.map .str) (strValues l)
 |[],[],_=>VL.nil
 |a::ss,(x,t)::l,h=>by
  simp only[bh,vq]at h
  exact⟨.str x t,strValues l,rfl,⟨t,by rw[h.1]⟩,LY h.2⟩
 |[],_::_,h=>by simp at h
 |_::_,[],h=>by simp at h
theorem YH:aF C k (.builtin "str.split") kG:=HH fun A R W σ s a b v w Re q q' tk r ai e=>fT (Q:=fun a=>V C W a v->_) e (fun x e q=>W0 (Q:=fun b=>V C W b w->_) e (fun c e q'=>kS e fun z e=>q.strE fun t=>q'.strE fun u=>by
  apply s2 e
  refine aa3 (by rw[bP];rfl) (fun l tk hl=> ?_) (by have:=jP z;rw[bP,jE];omega)
  rw[ae8]at hl
  exact Re.newLst (eu _ _) (tB _) (bp _ rfl) (LY hl) _) q') q
end
end
end
section
open PySem.SeqAt
open Builtin Builtin.Str
noncomputable section
section
variable{k:Nat}{C:PC}
theorem EO{x:Str}{id:String}{F:aW}(slot:Slot "str" x id)(ty:typeOf (.builtin id)=pure (.type "method_descriptor"))(hF:aF C k (.builtin id) F):d6 C k x (iq F):=fun W σ h a v F' R hv e=>by
 revert hv
 exact fT (Q:=fun a=>V C W a v->_) e fun i e=>by
  apply s1 e
  exact fun hv=>hv.strE fun t=>⟨.builtin id,fun A s pl E Q hs hq=>GM.of _ (me _ _ _) slot ty GM.noRef hq,fu,hF⟩
theorem Lc{x:Str}{id:String}{F:aW}(pa:PlainAttrs "list")(slot:Slot "list" x id)(ty:typeOf (.builtin id)=pure (.type "method_descriptor"))(hF:aF C k (.builtin id) F):d6 C k x (fS F):=fun W σ h a v F' R hv e=>by
 revert hv
 exact iA (Q:=fun a=>V C W a v->_) e fun y e=>lstE e fun l hg e=>by
  apply s1 e
  intro hv
  refine R.lstE hg hv fun p us n q q0 q2 r=>⟨.builtin id,fun A s pl E Q hs hq=> ?_,fu,hF⟩
  subst hs
  exact getMethod_builtin (⟨_,q2,rfl⟩:s.TypeIs (.ref p.1) "list") pa slot ty (fun a ha=>by cases ha;exact⟨_,q2,rfl⟩) hq
theorem rx:d6 C k "split" (iq kG):=EO nO F.type_str_split YH
theorem qz:d6 C k "join" (iq vy):=EO vp F.type_str_join aaT
theorem Ml:d6 C k "index" (iq Ip):=EO F.slot_str_index F.type_str_index YD
theorem fG:d6 C k "append" (fS gu):=Lc sq F.slot_list_append F.type_list_append VK
theorem tt:d6 C k "extend" (fS fZ):=Lc sq F.slot_list_extend F.type_list_extend VM
theorem aeH:d6 C k "pop" (fS Zd):=Lc sq F.slot_list_pop F.type_list_pop aeN
end
end
end
section
open PySem.SeqAt
open PySem.NumText
noncomputable section
section
variable{k:Nat}{C:PC}
theorem F4: ∀(l:ac) (n m:Nat),lP n l=some m->AllDigits l/\l.foldl (fun acc c=>acc*10+(c-48)) n=m
 |[],n,m,e=>by cases e;exact⟨fun c h=>(by cases h),rfl⟩
 |c::r,n,m,e=>by
  unfold lP at e
  cases z:cX 48 c&&cX c 57<;>rw[z]at e
  ·cases e
  ·simp only[cL]at z
   obtain⟨h1,h2⟩:=F4 r _ _ e
   refine⟨fun d hd=> ?_,h2⟩
   rcases aG.mp hd with rfl|hd
   ·exact⟨av z.1,av z.2⟩
   ·exact h1 d hd
theorem adX{c n:Nat}{r:ac}(hl:r.length<18)(hn:lP 0 (c::r)=some n):PySem.intText? (aP (c::r))=some (n:Int):=by
 obtain⟨h1,h2⟩:=F4 _ _ _ hn
 have:=intText_digits (x:=aP (c::r)) (by rw[gQ];exact h1) (by rw[gQ];exact List.cons_ne_nil _ _) (by rw[bP,bT];omega)
 rw[gQ]at this
 rw[<- h2];exact this
theorem aeK:aF C k (.type "int") tY:=sg fun A R W σ s a v Re q tk r ai e=>O9 (Q:=fun a=>V C W a v->_) e (fun c r e q=>kS e fun z e=>oE e fun n hn e=>q.strE fun t=>by
  apply s2 e
  have hl:=dh.mp z
  exact Sg (adX hl hn) (by rw[bP,bT];omega) (Re.same Cs _)) q
end
end
end
section
open PySem.SeqAt
open Builtin Builtin.Str
noncomputable section
theorem acr(s p:ac)(lim:Nat): ∀(l:ac) (free:Nat),(∀i∈l,¬Ii s p i)->(forIn l ((#[]:Array Nat),free) (ef (aP s) (aP p) s.length lim)).run.fst= #[]
 |[],_,_=>rfl
 |a::l,free,hn=>by
  rw[gK]
  unfold ef
  rw[if_neg (by
   rintro⟨⟨_,h1⟩,h2⟩
   rw[bP]at h1
   exact hn a (bf ..) ⟨h1,h2⟩)]
  exact acr s p lim l free fun i hi=>hn i (aQ _ hi)
theorem S5(p:ac): ∀(s:ac) (i:Nat),zn p s=false->i<=s.length->jZ p (s.drop i)=false
 |[],i,h,hi=>by
  have:i=0:=Rf.mp hi
  subst this;exact h
 |a::s,0,h,_=>by rw[I3]at h;exact(oJ.mp h).1
 |a::s,i+1,h,hi=>by
  rw[I3]at h
  exact S5 p s i (oJ.mp h).2 (nd hi)
theorem ahV(p s:ac)(i:Nat)(h:PP p s=false)(hi:i<=s.length):jZ p (s.drop i)=false:=S5 p s i (by rw[<- XI];exact h) hi
theorem Ye{s p:ac}(h:PP p s=false)(lim:Nat):occurrences (aP s) (aP p) 0 (aP s).length lim=[]:=by
 rw[xe,bP,acr s p lim _ 0 fun i hi q=> ?_]
 have hi:i<=s.length:=by
  have:=(EZ.mp hi).2;omega
 rw[Cy hi,ahV p s i h hi]at q
 cases q
section
variable{k:Nat}{C:PC}{X:FX}
theorem R4:aF C k (.builtin "str.replace") tZ:=apu fun A R W σ s a b d v w u Re q q' q'' tk r ai e=>fT (Q:=fun a=>V C W a v->_) e (fun x e q=>O9 (Q:=fun b=>V C W b w->_) e (fun c p e q'=>fT (Q:=fun d=>V C W d u->_) e (fun y e q''=>kN e fun z e=>q.strE fun t=>q'.strE fun t'=>q''.strE fun t''=>by
  apply s2 e
  have ho:=Ye z ((aP x).length +1)
  refine call_gives q6 (me _ _ _) F.entry_str_replace (F.args_str_replace_3 _ _ _) (gives_str_replace (aP x) _ _ t t' t'' fun h=> ?_) ?_
  ·rw[ho]at h;cases h
  ·rw[ho]
   exact Re.same G6 s.toks) q'') q') q
theorem wV:d6 C k "replace" (iq tZ):=EO q6 Bo R4
theorem Mb: ∀l:List (List Nat),lq [] l=l.flatten
 |[]=>rfl
 |[a]=>(aR a).symm
 |a::b::r=>by
  unfold lq
  rw[Mb (b::r),aR];rfl
theorem Dv(c:Nat): ∀(s acc:ac),(dv c acc s).flatten=acc.reverse++HF c s
 |[],acc=>rfl
 |a::s,acc=>by
  unfold dv HF
  cases q:aj a c with
  |true=>rw[af,af,mM,Dv c s []];rfl
  |false=>rw[ae,ae,Dv c s (a::acc),E1,aB];rfl
theorem Vx(s:ac)(c:Nat):partsBetween (aP s) (pz c 0 s) (aP [c]).length=(dv c [] s).map aP:=by
 have:=vX s c s 0 0 [] rfl (ax _) (aU _) (by rw[List.take_zero,List.drop_nil];rfl)
 rw[<- this]
 unfold partsBetween
 rw[bP,bP]
 rfl
theorem Yt(s:ac)(c:Nat):Rk (aP s) (aP [c]) (aP [])=aP (HF c s):=by
 have flat:HF c s=(dv c [] s).flatten:=(Dv c s []).symm
 unfold Rk
 rw[Yg]
 cases ho:(pz c 0 s).isEmpty with
 |true=>
  rw[if_pos (by rfl),flat,Du c s [] (K5 c s 0 (eB.mp ho))]
  exact congrArg aP (aR s).symm
 |false=>
  have h1:(aP [c]).length=1:=bP _
  rw[if_neg (by rw[h1];decide),Vx,flat,<- Mb,<- Ey]
  rfl
theorem aku{c:Nat}{m:EM}{o:an}{ap p p1 p2:Pos}{j1 j2:Nat}(hb:td o=true)(hl:(ap.endLine==p.line)=true)(hm:b8 X k m o):
  b8 X k (un (ajq c) m) (.Call (.Attribute o "replace" ap) [.Constant (.str (aP [c])) j1 p1,.Constant (.str (aP [])) j2 p2] [] p):=fun A R W fr σ s T a ai e=>by
 refine fR e fun wo ay e1 e=>oE e fun b e2 e=> ?_
 apply s2 e
 revert e1
 refine fT (Q:=fun wo=>m fr σ=some (wo,ay)->_) (show ek wo _=some b from e2) fun x e2 e1=>kS e2 fun ok e2=> ?_
 apply s1 e2
 refine Ts (es:=[.Constant (.str (aP [c])) j1 p1,.Constant (.str (aP [])) j2 p2]) hb hl (show 2<30 by decide) hm rfl R T e1 fun v bt bm bD bz eg=> ?_
 refine eg.strE fun t=> ?_
 refine⟨.builtin "str.replace",fun A s pl E Q hs hq=>GM.of _ (me _ _ _) q6 Bo GM.noRef hq,?_⟩
 refine Fx (P:=X.C.K.In) rfl fu (wI rfl ?_)
 rw[lV rfl,lV rfl]
 refine Bz (oL (k:=j1) (pos:=p1) (Bz (oL (k:=j2) (pos:=p2) (spliced_nil ⟨bz.rel.K,?_⟩))))
 have hp:=bz.sm.pos
 refine V2 (n:=bt.toks) (au (cR _) (cR _)) ?_
 refine PySem.SC.replace (oQ hp) (ki _) (ct (bU _)) ?_ ?_ fun t' k' ht=> ?_
 ·rw[beq_eq_false_iff_ne]
  intro q
  have:=congrArg Um q
  rw[bP,bP]at this
  cases this
 ·rw[bP,bP]
  show x.length+(x.length+1)*0<=_
  rw[Nat.mul_zero]
  exact au (jP ok) (by decide)
 ·rw[Yt]
  exact((bz.toks k' ht).post G6).le bD
def xW(a b:ac):Prop:= ¬b<a
theorem CK(x:ac): ∀l,(KR x l).Perm (x::l)
 |[]=>.refl _
 |y::r=>by
  unfold KR
  cases CX x y with
  |true=>exact .refl _
  |false=>exact((CK x r).cons y).trans (.swap x y r)
theorem JC: ∀l,(jQ l).Perm l
 |[]=>.refl _
 |x::r=>(CK x _).trans ((JC r).cons x)
theorem xW.trans{a b c:ac}(h:xW a b)(h':xW b c):xW a c:=List.le_trans (show a<=b from h) (show b<=c from h')
theorem FZ(x:ac): ∀l,l.Pairwise xW->(KR x l).Pairwise xW
 |[],_=>vd ..
 |y::r,h=>by
  unfold KR
  cases q:CX x y with
  |true=>
   have q:x<y:=ag (EC.symm.trans q)
   have hxy:xW x y:=List.lt_asymm q
   refine js.mpr ⟨fun z hz=> ?_,h⟩
   rcases aG.mp hz with rfl|hz
   ·exact hxy
   ·exact hxy.trans (k9 h hz)
  |false=>
   have q:xW y x:=of_decide_eq_false (EC.symm.trans q)
   refine js.mpr ⟨fun z hz=> ?_,FZ x r (js.mp h).2⟩
   rcases aG.mp ((CK x r).mem_iff.mp hz)with rfl|hz
   ·exact q
   ·exact k9 h hz
theorem Dt: ∀l,(jQ l).Pairwise xW
 |[]=>.nil
 |x::r=>FZ x _ (Dt r)
theorem Js: ∀(r:List (List Nat)) (p:ac),risingS (aP p) (r.map aP)=true->(p::r).Pairwise xW
 |[],_,_=>vd ..
 |x::r,p,h=>by
  obtain⟨h1,h2⟩:=bj.mp h
  have ih:=Js r x h2
  have q:xW p x:=by
   rw[ltCps_eq,d7,decide_eq_false_iff_not,gQ,gQ]at h1
   exact h1
  refine js.mpr ⟨fun z hz=> ?_,ih⟩
  rcases aG.mp hz with rfl|hz
  ·exact q
  ·exact q.trans (k9 ih hz)
theorem VS: ∀(l:List (List Nat)),sortedS (l.map aP)=true->l.Pairwise xW
 |[],_=>.nil
 |x::r,h=>Js r x h
theorem aau(l:List Str): ∃m:List (List Nat),l=m.map aP:=⟨l.map fun s=>s.cps.toList,by rw[gL];exact(tI l).symm.trans (fX fun s _=>by obtain⟨⟨l⟩⟩:=s;rfl)⟩
theorem aa2{l:List (List Nat)}{ss':List Str}(hp:ss'.Perm (l.map aP))(hs:sortedS ss'=true):ss'=(jQ l).map aP:=by
 obtain⟨m,rfl⟩:=aau ss'
 have hp':m.Perm l:=by
  have:=hp.map fun s=>s.cps.toList
  rw[gL,gL]at this
  have e: ∀k:List (List Nat),k.map ((fun s:Str=>s.cps.toList)∘aP)=k:=fun k=>(fX fun s _=>gQ s).trans (tI k)
  rwa[e,e]at this
 refine congrArg _ (N4 (le:=xW) (fun a b _ _ h1 h2=>List.le_antisymm (show a<=b from h1) (show b<=a from h2)) (VS m hs) (Dt l) (hp'.trans (JC l).symm))
theorem YP{W:Wd}: ∀{vs:List ah} {l:List (List Nat)},Sh vs (l.map aP)->VL C W (l.map .str) vs
 |[],[],_=>VL.nil
 |[],_::_,h=>by cases h
 |v::vs,a::l,h=>by
  cases h with
  |cons x t h=>exact⟨_,_,rfl,⟨t,rfl⟩,YP h⟩
theorem WR{W:Wd}{l:aa}{ss:List (List Nat)}{vs:List ah}(h:nN l=some ss)(hv:VL C W l vs):Sh vs (ss.map aP):=by
 obtain⟨ts,hl,rfl⟩:=O2 h hv
 exact QK ss ts hl
theorem VR:aF C k (.builtin "sorted") qg:=sg fun A R W σ s a v Re q tk r ai e=>oE e fun l hl e=>oE e fun ss hss e=>kS e fun z e=>by
  apply s2 e
  refine nt Re hl q fun x n us hx hu=> ?_
  have hS:=WR hss hu
  have hlen:us.length=ss.length:=hS.length.trans (aS ..)
  refine sorted_strs ⟨_,hx,rfl,n,rfl⟩ hS (by rw[hlen];exact av z) fun out ss' h1 h2 h3=> ?_
  obtain⟨e',he⟩:=sortedAll_at s.heap us out
  have q':=aa2 h2 h3
  subst q'
  refine Re.newLst (n:=e') (fun b o hb=>sortedAll_old hb) ?_ (by rw[he]) (YP h1) s.toks
  cases g:s.heap.get? (s.heap.objs.size+1)with
  |none=>rfl
  |some o=>exact absurd (cv g) (ci.mpr (cR _))
end
end
end
section
open PySem.SeqAt
noncomputable section
structure KB(C:PC)(k:Nat)(Γ:cG):Prop where
 glb: ∀g x a,pX Γ.glb g=some (x,a)->np C x a
 fns: ∀f x F,pX Γ.fns f=some (x,F)-> ∃fv kF,np C x (.glob fv)/\oX C fv/\aF C kF fv F/\kF<=k
 mts: ∀n x D,pX Γ.mts n=some (x,D)-> ∃kF,d6 C kF x D/\kF<=k
def Sj(C:PC)(FN:List Str):Prop:= ∀i x,As FN i=some x->i<C.nf/\C.fname i=x
def za(X:FX)(k:Nat)(m:EM)(e:an):Prop:= ∀i y py spos,kj X i y->lI X k (cT [i] m) (.Assign [.Name y py] e spos)
section
variable{X:FX}{k:Nat}{st:SI}{C:PC}
structure Gd(X:FX)(k:Nat)(st:SI)(c:Ck)(d:D):Prop where
 e: ∀x,c.e st x=true->b8 X k d.e x
 u: ∀x,c.e st x=true->za X k d.e x
 b: ∀x,c.b st x=true->nk X k d.b x
 l: ∀x,c.l st x=true->Ag X k d.l x
 o: ∀op x,c.o st op x=true->k7 X k op d.e x
 a: ∀op x,c.a st op x=true->pU X k op d.b x
 p: ∀x,c.p st x=true->FK X k d.e x
 i: ∀x,c.i st x=true->NC X k d.b x
theorem Gd.both{e b:SI->an->Bool}{m:EM}{n:BM}(he: ∀x,e st x=true->b8 X k m x)(hu: ∀x,e st x=true->za X k m x)(hb: ∀x,b st x=true->nk X k n x):Gd X k st (.both e b) ⟨m,n,fun _ _=>none⟩:=
 ⟨he,hu,hb,fun _ h=>ff h,fun op xs h=>pw h fun x h=>k7.one (he x h),fun op xs h=>pw h fun x h=>pU.one (hb x h),fun x h=>aiz h fun y h=>FK.some (he y h),fun xs h=>pw h fun x h=>Mo (hb x h)⟩
theorem Yq{e:an}(h:Qr e=true): ∀env w,isTrue e env w=(do let v <- w;standAt e.pos;holding [v] (truthy v)):=by
 cases e<;>first|exact ff h|exact fun _ _=>rfl
theorem Gd.ofE{e:SI->an->Bool}{m:EM}(he: ∀x,e st x=true->b8 X k m x)(hu: ∀x,e st x=true->za X k m x):Gd X k st (.ofE e) (.ofE m):=
 .both he hu fun x h=>aE h fun h1 h=>ae6 (he x h) (Yq h1)
theorem UR(H:gX X st){m:EM}{e:an}(hm:b8 X k m e)(hc:kv e=true):za X k m e:=fun i y py spos hx=>YI H.ok H.sto hx hm (tC hc)
theorem Gd.ofE'(H:gX X st){e:SI->an->Bool}{m:EM}(he: ∀x,e st x=true->b8 X k m x/\kv x=true):Gd X k st (.ofE e) (.ofE m):=
 .ofE (fun x h=>(he x h).1) fun x h=>UR H (he x h).1 (he x h).2
theorem Gd.both'(H:gX X st){e b:SI->an->Bool}{m:EM}{n:BM}(he: ∀x,e st x=true->b8 X k m x/\kv x=true)(hb: ∀x,b st x=true->nk X k n x):Gd X k st (.both e b) ⟨m,n,fun _ _=>none⟩:=
 .both (fun x h=>(he x h).1) (fun x h=>UR H (he x h).1 (he x h).2) hb
@[elab_as_elim] theorem abE {Q:List an->Prop} {f:an->Bool} {g:List an->Bool} {es:List an} (h:qo f g es=true) (kk: ∀x y r,f x=true->g (y::r)=true->Q (x::y::r)):Q es:=
 Vd h fun x r h=>aE h fun h1 h=>Vd (Q:=fun r=>Q (x::r)) h fun y r h=>kk x y r h1 h
@[elab_as_elim] theorem Yj {Q:an->Prop} {op:cF} {g:List an->Bool} {x:an} (h:tl op g x=true) (kk: ∀es p,g es=true->Q (.BoolOp op es p)):Q x:=
 amU h fun o es p h=>aE h fun h1 h=>dE (Q:=fun o=>Q (.BoolOp o es p)) h1 (kk es p h)
theorem act{P:Prop}{op op':cF}{f:an->Bool}{g:List an->Bool}{xs:List an}(h:aaF op op' f g xs=true)(k1: ∀x,xs=[x]->f x=true->P)(k2:op=op'->g xs=true->P):P:=
 rE h (fun h=>pw (Q:=fun xs'=>xs=xs'->P) h (fun x h e=>k1 x e h) rfl) fun h=>aE h fun h1 h=>k2 (ag h1) h
theorem Gd.bool(H:gX X st){op:cF}{a b:Ck}{da db:D}{m:EM}{n:BM}(ga:Gd X k st a da)(gb:Gd X k st b db)(hm: ∀e e' es,b8 X k da.e e->k7 X k op db.e (e'::es)->k7 X k op m (e::e'::es))
  (hn: ∀e es,nk X k da.b e->pU X k op db.b es->pU X k op n (e::es)):Gd X k st (.bool op a b) ⟨m,n,fun _ _=>none⟩:=
 have c1: ∀es,qo (a.e st) (b.o st op) es=true->k7 X k op m es:=fun es h=>abE h fun x y r h1 h2=>hm x y r (ga.e x h1) (gb.o op _ h2)
 have c2: ∀es,qo (a.b st) (b.a st op) es=true->pU X k op n es:=fun es h=>abE h fun x y r h1 h2=>hn x _ (ga.b x h1) (gb.a op _ h2)
 have he: ∀x,tl op (qo (a.e st) (b.o st op)) x=true->b8 X k m x/\kv x=true:=fun x h=>Yj h fun es p h=>⟨(c1 es h).val,rfl⟩
 have hb: ∀x,tl op (qo (a.b st) (b.a st op)) x=true->nk X k n x:=fun x h=>Yj h fun es p h=>(c2 es h).test
 ⟨fun x h=>(he x h).1,fun x h=>UR H (he x h).1 (he x h).2,hb,fun _ h=>ff h,fun op' xs h=>act h (fun x e h=>e▸k7.one (he x h).1) fun e h=>e▸c1 xs h,fun op' xs h=>act h (fun x e h=>e▸pU.one (hb x h)) fun e h=>e▸c2 xs h,
  fun x h=>aiz h fun y h=>FK.some (he y h).1,fun xs h=>pw h fun x h=>Mo (hb x h)⟩
theorem alN:Gd X k st af0 ⟨fun _ _=>none,fun _ _=>none,aJ⟩:=
 ⟨fun _ _ A R W fr σ s T a ai e=>nn e,fun _ _ i y py spos hx A R W fr σ s T a e=>nn e,fun _ _ A R W fr σ s T a ai e=>nn e,fun xs h=>Jf h fun _=>YK,fun _ _ _ A R W fr σ s T a ai e=>nn e,fun _ _ _ A R W fr σ s T a ai e=>nn e,fun _ _ A R W fr σ s T a ai e=>nn e,fun _ _ A R W fr σ s T a ai e=>nn e⟩
theorem aay{α:Type}{x:Str}{l:List (Str×α)}: ∀{i:Nat},As (l.map (·.1)) i=some x-> ∃a,pX l i=some (x,a):=by
 induction l with
 |nil=>intro i h;exact nn h
 |cons p r ih=>
  intro i h
  cases i with
  |zero=>exact s1 (P:=fun x=> ∃a,pX (p::r) 0=some (x,a)) (a:=p.1) h ⟨p.2,rfl⟩
  |succ i=>exact ih h
theorem Qi{α:Type}{l:List (Str×α)}{i:Nat}{x:Str}{P:Prop}(h:NR (l.map (·.1)) i x=true)(kk: ∀a,pX l i=some (x,a)->P):P:=(aay (HA h)).elim kk
theorem ab7(H:gX X st){x:Str}{P:Prop}(h:Z3 st x=true)(kk:X.env.kindOf x=some .globalImplicit->(x==("__debug__":Str))=false->P):P:=
 aE h fun h1 h2=>kk ((H.kind x).trans ((KS _ _).symm.trans (beq_iff_eq.mp h1))) (pu h2)
theorem pv{e:an}(h:EF e=true){env:Env}: ∀x,foldedSetIterable e env x=pure x:=by
 cases e<;>first|exact ff h|exact fun _=>rfl
theorem ZI{a:AV}{x:an}(h:Cz a x=true):b8 X k (ba a) x/\kv x=true:=Q3 h fun c j p h=>by
 refine⟨?_,rfl⟩
 cases a<;>first|exact ff h|skip
 ·exact dE h ae3
 ·exact dE h aeU
 ·exact dE h akr
 ·exact dE h (akx rfl)
 ·exact dE h aaX
@[elab_as_elim] theorem ace {i:Int} {Q:Option an->Prop} {o:Option an} (h:aag i o=true) (kk: ∀j p,Q (some (.Constant (.int i) j p))):Q o:=aiz h fun e h=>Q3 (Q:=fun e=>Q (some e)) h fun c j p h=>dE (Q:=fun c=>Q (some (.Constant c j p))) h (kk j p)
@[elab_as_elim] theorem strE {i:ac} {Q:an->Prop} {o:an} (h:Cz (.str i) o=true) (kk: ∀j p,Q (.Constant (.str (aP i)) j p)):Q o:=Q3 h fun c j p h=>dE (Q:=fun c=>Q (.Constant c j p)) h (kk j p)
theorem ZQ{k1 k2:Int}{a b:ac}{x:an}(h:agj k1 k2 a b x=true):b8 X k (bv (Hv [k1,k2]) (aw (ba (.str a)) (aw (ba (.str b)) aJ))) x/\kv x=true:=
 acP h fun d e p h=>wY h fun y y' h=>wY h fun v v' h=>aE h fun h1 h=>aE h fun h2 h=>aE h fun h3 h=>aE h fun h4 h=>ace h1 fun _ _=>ace h2 fun _ _=>strE h3 fun _ _=>strE h4 fun _ _=>
  ⟨aeZ (of_decide_eq_false (pu h)) rfl rfl,rfl⟩
end
end
end
section
open PySem.SeqAt
noncomputable section
section
variable{k:Nat}{X:FX}{st:SI}
theorem afc(H:gX X st){scope:dY}{xs:ac}{tg:an}{f:List Str->Bool}{P:Prop}(h:YS tg f=true)
  (kk: ∀ts,f ts=true->(oW st scope xs ts-> ∀s L,Tg (X.inner scope (Pf X scope) (st.inner scope xs ts).at_ L s) xs tg)->P):P:=
 rE h (fun h=>pL (Q:=fun t=>t=tg->P) h (fun n p h e=>kk _ h fun K s L=>e▸match xs,K with
  |[i],K=>.name (xV H K (by rw[bQ,gn]))
  |[],K=>dS K.len
  |_::_::_,K=>dS K.len fun h=>dS h) rfl) fun h=>abl (Q:=fun t=>t=tg->P) h (fun l c p h=>wY (Q:=fun l=>.Tuple l c p=tg->P) h fun a b h=>pL (Q:=fun a=>.Tuple [a,b] c p=tg->P) h fun n p1 h=>pL (Q:=fun b=>.Tuple [.Name n p1,b] c p=tg->P) h fun m p2 h e=>
   kk _ h fun K s L=>e▸match xs,K with
  |[i,j],K=>
   have hij:i≠j:=fun e=>(dR.mp K.xnodup).1 (e▸aO.mpr rfl)
   .two rfl (.cons (xV H K (by rw[bQ,gn])) (.cons (xV H K (by rw[bQ,cD,beq_eq_false_iff_ne.mpr (tx hij),bQ,gn])) .nil)) hij
  |[],K=>dS K.len
  |[_],K=>dS K.len fun h=>dS h
  |_::_::_::_,K=>dS K.len fun h=>dS h fun h=>dS h) rfl
section
variable{a b c l lo hi o i:Ck}{da db dc dl dlo dhi do_ di:D}{FN:List Str}{Γ:cG}
theorem alO:Gd X k st af1 ⟨ba .none,fun _ σ=>some (true,σ),aJ⟩:=
 ⟨fun _ h=>ff h,fun _ h=>ff h,fun _ h=>ff h,fun _ h=>ff h,fun _ _ h=>ff h,fun _ _ h=>ff h,fun x h=>(dG.mp h).symm ▸FK.none,fun xs h=>(eB.mp h).symm ▸Mn⟩
theorem alT(H:gX X st){i:Nat}:Gd X k st (af8 i) (.ofE (al i)):=Gd.ofE' H fun x h=>pL h fun y p h=>⟨uT H.ok (by rw[H.nm];exact HA h),rfl⟩
theorem akE{l:List (Str×AV)}{i:Nat}{x:Str}{a:AV}(h:pX l i=some (x,a)):a=acF l i:=by unfold acF;rw[h]
theorem akF{l:List (Str×aW)}{i:Nat}{x:Str}{a:aW}(h:pX l i=some (x,a)):a=acG l i:=by unfold acG;rw[h]
theorem akG{l:List (Str×gR)}{i:Nat}{x:Str}{a:gR}(h:pX l i=some (x,a)):a=acH l i:=by unfold acH;rw[h]
theorem alI(eU:KB X.C k Γ)(H:gX X st){g:Nat}:Gd X k st (afV Γ.nms g) (.ofE (ba (acF Γ.glb g))):=Gd.ofE' H fun x h=>pL h fun y p h=>aE h fun h h'=>ab7 H h fun h1 h2=>Qi h' fun a ha=>
 ⟨akE ha▸YJ H.ok h1 h2 (eU.glb _ _ _ ha),rfl⟩
theorem alF(H:gX X st){op:iD}(ga:Gd X k st a da)(gb:Gd X k st b db):Gd X k st (afS op a b) (.ofE (bi (b4 op) da.e db.e)):=Gd.ofE' H fun x h=>apE h fun l o r p h=>aE h fun h0 h=>aE h fun h1 h2=>dE h0 ⟨akl (ga.e _ h1) (gb.e _ h2) Zv,rfl⟩
theorem alM(H:gX X st)(ga:Gd X k st a da):Gd X k st (afZ a) (.ofE (un aik da.e)):=Gd.ofE' H fun x h=>alb h fun o r p h=>aE h fun h0 h=>dE h0 ⟨aks (ga.e _ h),rfl⟩
theorem alP(H:gX X st)(ga:Gd X k st a da):Gd X k st (af2 a) ⟨rW (pf (jh da.e)),pf da.b,fun _ _=>none⟩:=Gd.both' H (fun x h=>alb h fun o r p h=>aE h fun h0 h=>dE h0 ⟨akt (ga.e _ h),rfl⟩) fun x h=>alb h fun o r p h=>aE h fun h0 h=>dE h0 (ae4 (ga.b _ h))
theorem alK(H:gX X st)(gc:Gd X k st c dc)(ga:Gd X k st a da)(gb:Gd X k st b db):Gd X k st (afX c a b) (.ofE (ti dc.b da.e db.e)):=Gd.ofE' H fun x h=>aqR h fun t l r p h=>aE h fun h0 h=>aE h fun h1 h2=>⟨akq (gc.b _ h0) (ga.e _ h1) (gb.e _ h2),rfl⟩
@[elab_as_elim] theorem abQ {Q:an->Prop} {op:gW} {f g:an->Bool} {x:an} (h:ZF op f g x=true) (kk: ∀l r p,behindInMarks op r=false->f l=true->g r=true->Q (.Compare l [op] [r] p)):Q x:=
 ak6 h fun l os rs p h=>pw h fun o h=>pw h fun r h=>aE h fun h0 h=>aE h fun h1 h=>aE h fun h2 h3=>dE (Q:=fun o=>Q (.Compare l [o] [r] p)) h0 (kk l r p (pu h1) h2 h3)
theorem alG(hk:5<=k)(H:gX X st){op:gW}(ga:Gd X k st a da)(gb:Gd X k st b db):Gd X k st (afT op a b) (.ofBool (fw (b5 op) da.e db.e)):=
 Gd.both' H (fun x h=>abQ h fun l r p h1 h2 h3=>⟨akm hk (ga.e _ h2) (gb.e _ h3) h1,rfl⟩) fun x h=>abQ h fun l r p h1 h2 h3=>aeX hk (ga.e _ h2) (gb.e _ h3) h1
@[elab_as_elim] theorem Xg {Q:an->Prop} {op op':gW} {f g f':an->Bool} {x:an} (h:UZ op op' f g f' x=true) (kk: ∀l r r' p,lastMarks [op,op'] [r,r']=false->f l=true->g r=true->f' r'=true->Q (.Compare l [op,op'] [r,r'] p)):Q x:=
 ak6 h fun l os rs p h=>wY h fun o o' h=>wY h fun r r' h=>aE h fun h0 h=>aE h fun h0' h=>aE h fun h1 h=>aE h fun h2 h=>aE h fun h3 h4=>dE (Q:=fun o=>Q (.Compare l [o,o'] [r,r'] p)) h0 (dE (Q:=fun o'=>Q (.Compare l [op,o'] [r,r'] p)) h0' (kk l r r' p (pu h1) h2 h3 h4))
theorem ahs(hk:5<=k)(H:gX X st){op op':gW}(ga:Gd X k st a da)(gb:Gd X k st b db)(gc:Gd X k st c dc):Gd X k st (abH op op' a b c) (.ofBool (Pb op op' da.e db.e dc.e)):=
 Gd.both' H (fun x h=>Xg h fun l r r' p h1 h2 h3 h4=>⟨aeW hk (ga.e _ h2) (gb.e _ h3) (gc.e _ h4) h1,rfl⟩) fun x h=>Xg h fun l r r' p h1 h2 h3 h4=>aaY hk (ga.e _ h2) (gb.e _ h3) (gc.e _ h4) h1
theorem alE(hF:Sj X.C FN)(H:gX X st){kk:Nat}(ga:Gd X k st a da):Gd X k st (afR FN kk a) (.ofE (un (aA kk) da.e)):=Gd.ofE' H fun x h=>NZ h fun o n p h=>aE h fun h0 h=>aE h fun h1 h2=>(hF _ _ (HA h0)).2▸⟨akk (hF _ _ (HA h0)).1 h1 (ga.e _ h2),rfl⟩
theorem alJ(H:gX X st)(ga:Gd X k st a da)(gi:Gd X k st i di):Gd X k st (afW a i) (.ofE (bi fU da.e di.e)):=Gd.ofE' H fun x h=>abk h fun o j p h=>aE h fun h0 h=>aE h fun h1 h2=>⟨akp (pu h0) (ga.e _ h1) (gi.e _ h2),rfl⟩
theorem alR(H:gX X st)(ga:Gd X k st a da)(gl:Gd X k st lo dlo)(gh:Gd X k st hi dhi):Gd X k st (af6 a lo hi) (.ofE (SW da.e dlo.e dhi.e)):=Gd.ofE' H fun x h=>abk h fun o j p h=>ak9 h fun l u s p' h=>aE h fun h0 h=>aE h fun h1 h=>aE h fun h2 h3=>dE h0 ⟨akw (ga.e _ h1) (gl.p _ h2) (gh.p _ h3),rfl⟩
theorem alL(H:gX X st)(gl:Gd X k st l dl):Gd X k st (afY l) (.ofE (bv de dl.l)):=Gd.ofE' H fun x h=>amV h fun es p h=>⟨ae1 (gl.l _ h),rfl⟩
theorem alS(H:gX X st)(gl:Gd X k st l dl):Gd X k st (af7 l) (.ofE (bv gk dl.l)):=Gd.ofE' H fun x h=>abl h fun es j p h=>⟨aky (gl.l _ h),rfl⟩
theorem alH(H:gX X st):Gd X k st afU (.ofE FT):=Gd.ofE' H fun x h=>acP h fun d e p h=>Jf h fun h=>Jf h fun _=>⟨akn,rfl⟩
theorem alQ(H:gX X st){n:Nat}(ga:Gd X k st a da):Gd X k st (af3 n a) (.ofE (un (ajq n) da.e)):=Gd.ofE' H fun x h=>V4 h fun f es ks p h=>NZ h fun o m ap h=>wY h fun v v' h=>aE h fun h0 h=>aE h fun h1 h=>aE h fun h2 h=>Jf h fun h=>aE h fun h3 h=>aE h fun h4 h=>
 strE h3 fun _ _=>strE h4 fun _ _=>dE h0 ⟨aku h1 (beq_iff_eq.mpr (ag h2)) (ga.e _ h),rfl⟩
theorem ahr(eU:KB X.C k Γ)(H:gX X st){f:Nat}(gl:Gd X k st l dl):Gd X k st (abG Γ.nms f l) (.ofE (bv (acG Γ.fns f) dl.l)):=Gd.ofE' H fun x h=>V4 h fun g es ks p h=>pL h fun y p' h=>aE h fun h0 h=>aE h fun h1 h=>Jf h fun h=>aE h fun h2 h=>
 ab7 H h0 fun g1 g2=>Qi h1 fun F hFn=>Xn (eU.fns _ _ _ hFn) fun fv kF e1 e2 e3 e4=>akF hFn▸⟨aeV H.ok g1 g2 e1 e2 e3 e4 h2 (gl.l _ h),rfl⟩
theorem ahv(eU:KB X.C k Γ)(H:gX X st){n:Nat}(go:Gd X k st o do_)(gl:Gd X k st l dl):Gd X k st (abJ Γ.nms n o l) (.ofE (cJ (acH Γ.mts n) do_.e dl.l)):=Gd.ofE' H fun x h=>V4 h fun g es ks p h=>NZ h fun q y ap h=>aE h fun h0 h=>aE h fun h1 h=>aE h fun h2 h=>aE h fun h3 h=>Jf h fun h=>aE h fun h4 h=>aE h fun h5 h=>
 Qi h0 fun D hD=>eX (eU.mts _ _ _ hD) fun kF e1 e2=>akG hD▸⟨ae2 h1 (beq_iff_eq.mpr (ag h2)) (dh.mp h3) (go.e _ h5) e1 e2 h4 (gl.l _ h),rfl⟩
theorem ahu(ga:Gd X k st a da)(gl:Gd X k st l dl):Gd X k st (abI a l) ⟨fun _ _=>none,fun _ _=>none,aw da.e dl.l⟩:=
 ⟨fun _ h=>ff h,fun _ h=>ff h,fun _ h=>ff h,fun xs h=>Vd h fun x r h=>aE h fun h0 h=>aE h fun h1 h2=>Li (pu h0) (ga.e _ h1) (gl.l _ h2),fun _ _ h=>ff h,fun _ _ h=>ff h,fun _ h=>ff h,fun _ h=>ff h⟩
theorem ao0{P:Prop}{m:Sem Bool}{b:Bool}(h:m=pure b)(kf:m=pure false->P)(kt:m=pure true->P):P:=by
 cases b with
 |false=>exact kf h
 |true=>exact kt h
theorem Pi(H:gX X st){scope:dY}{xs:ac}{ts:List Str}(K:oW st scope xs ts){it:EM}{body:List AV->Fm->AS->Option (List AV×AS)}{ee tg ie:an}{ifs:List an}{rest:List dQ}{pos:Pos}
  (hi:b8 X k it ie)(hs:EF ie=true)(hloop: ∀s L,gX (X.inner scope (Pf X scope) (st.inner scope xs ts).at_ L s) (st.inner scope xs ts)->xF (X.inner scope (Pf X scope) (st.inner scope xs ts).at_ L s) k (.ListComp ee (⟨tg,ie,ifs,0⟩::rest) scope pos) 0 xs body):
  b8 X k (th it body) (.ListComp ee (⟨tg,ie,ifs,0⟩::rest) scope pos)/\za X k (th it body) (.ListComp ee (⟨tg,ie,ifs,0⟩::rest) scope pos):=
 have hl:=fun s L hL=>hloop s L (adV H K hL)
 have hE:=aaZ (Pk H K) hi (pv hs) hl
 ⟨hE,fun i y py spos hx=>ao0 (m:=swapsWith (.ListComp ee (⟨tg,ie,ifs,0⟩::rest) scope pos) (some (.Name y py)) spos.line X.env) rfl (fun h=>YI H.ok H.sto hx hE h) fun h=>aeQ H.ok H.sto (Pk H K) hi (pv hs) hl hx h⟩
theorem I4(X:FX){scope:dY}{cl:List (Str×aC)}{nm:Nat->Option Str}{L:aC}{s:az}:(X.inner scope cl nm L s).C=X.C:=rfl
theorem aht(H:gX X st){xs:ac}(gi:Gd X k st i di)(gc: ∀X' st',X'.C=X.C->gX X' st'->Gd X' k st' c dc)(ge: ∀X' st',X'.C=X.C->gX X' st'->Gd X' k st' a da):Gd X k st (UY xs i c a) (.ofE (eO xs di.e dc.b da.e)):=
 have key: ∀x,(UY xs i c a).e st x=true->b8 X k (th di.e (eI xs dc.b da.e)) x/\za X k (th di.e (eI xs dc.b da.e)) x:=fun x h=>acN h fun ee gs sc p h=>pw h fun g h=>Z1 h fun tg ie fs h=>afc H h fun ts h hT=>aE h fun h1 h=>aE h fun h2 h=>aE h fun h3 h=>aE h fun h4 h5=>
  Pi H (U0 h3) (gi.e _ h1) h2 fun s L HI=>To HI.ok HI.sto aff (hT (U0 h3) s L) ((gc _ _ (I4 X) HI).i _ h4) ((ge _ _ (I4 X) HI).e _ h5)
 Gd.ofE (fun x h=>(key x h).1) fun x h=>(key x h).2
theorem adN(H:gX X st){x' y':Nat}(gi:Gd X k st i di)(g2: ∀X' st',X'.C=X.C->gX X' st'->Gd X' k st' c dc)(ge: ∀X' st',X'.C=X.C->gX X' st'->Gd X' k st' a da):Gd X k st (Pe x' i y' c a) (.ofE (qO x' di.e y' dc.e da.e)):=
 have key: ∀x,(Pe x' i y' c a).e st x=true->b8 X k (th di.e (fun l fr σ=>jz x' dc.e y' da.e l (put fr y' .unb) σ)) x/\za X k (th di.e (fun l fr σ=>jz x' dc.e y' da.e l (put fr y' .unb) σ)) x:=fun x h=>acN h fun ee gs sc p h=>wY h fun g g' h=>Z1 h fun tg ie fs h=>Z1 h fun tg' ie' fs' h=>pL h fun nx px h=>pL h fun ny py h=>Jf h fun h=>Jf h fun h=>
  aE h fun h1 h=>aE h fun h2 h=>aE h fun h2' h=>aE h fun h3 h=>aE h fun h4 h5=>
  have K:=U0 h3
  have hxy:x'≠y':=fun e=>(dR.mp K.xnodup).1 (e▸aO.mpr rfl)
  have q:(y'==x')=false:=beq_eq_false_iff_ne.mpr (tx hxy)
  Pi H K (gi.e _ h1) h2 fun s L HI=>ad9 HI.ok HI.sto (xV H K (by rw[bQ,gn])) (xV H K (by rw[bQ,cD,q,bQ,gn])) hxy ((g2 _ _ (I4 X) HI).e _ h4) (pv h2') ((ge _ _ (I4 X) HI).e _ h5)
 Gd.ofE (fun x h=>(key x h).1) fun x h=>(key x h).2
end
theorem adc(hk:5<=k){FN:List Str}{Γ:cG}(t:T): ∀(X:FX) (st:SI),Sj X.C FN->KB X.C k Γ->gX X st->Gd X k st (ck FN Γ.nms t) (gS Γ t):=by
 induction t with
 |nop=>exact fun X st hF eU H=>alO
 |cst a=>exact fun X st hF eU H=>Gd.ofE' H fun x h=>ZI h
 |var i=>exact fun X st hF eU H=>alT H
 |glb g=>exact fun X st hF eU H=>alI eU H
 |bin op a b ga gb=>exact fun X st hF eU H=>alF H (ga X st hF eU H) (gb X st hF eU H)
 |neg a ga=>exact fun X st hF eU H=>alM H (ga X st hF eU H)
 |not a ga=>exact fun X st hF eU H=>alP H (ga X st hF eU H)
 |and a b ga gb=>exact fun X st hF eU H=>Gd.bool H (ga X st hF eU H) (gb X st hF eU H) (fun _ _ _ h1 h2=>k7.and h1 h2) fun _ _ h1 h2=>pU.and h1 h2
 |or a b ga gb=>exact fun X st hF eU H=>Gd.bool H (ga X st hF eU H) (gb X st hF eU H) (fun _ _ _ h1 h2=>k7.or h1 h2) fun _ _ h1 h2=>pU.or h1 h2
 |ife c a b gc ga gb=>exact fun X st hF eU H=>alK H (gc X st hF eU H) (ga X st hF eU H) (gb X st hF eU H)
 |cmp op a b ga gb=>exact fun X st hF eU H=>alG hk H (ga X st hF eU H) (gb X st hF eU H)
 |cmp2 op op' a b c ga gb gc=>exact fun X st hF eU H=>ahs hk H (ga X st hF eU H) (gb X st hF eU H) (gc X st hF eU H)
 |atr kk a ga=>exact fun X st hF eU H=>alE hF H (ga X st hF eU H)
 |idx a i ga gi=>exact fun X st hF eU H=>alJ H (ga X st hF eU H) (gi X st hF eU H)
 |slc a lo hi ga gl gh=>exact fun X st hF eU H=>alR H (ga X st hF eU H) (gl X st hF eU H) (gh X st hF eU H)
 |lst l gl=>exact fun X st hF eU H=>alL H (gl X st hF eU H)
 |tup l gl=>exact fun X st hF eU H=>alS H (gl X st hF eU H)
 |dic=>exact fun X st hF eU H=>alH H
 |dicI k1 k2 a b=>exact fun X st hF eU H=>Gd.ofE' H fun x h=>ZQ h
 |rep c a ga=>exact fun X st hF eU H=>alQ H (ga X st hF eU H)
 |call f l gl=>exact fun X st hF eU H=>ahr eU H (gl X st hF eU H)
 |meth n o l go gl=>exact fun X st hF eU H=>ahv eU H (go X st hF eU H) (gl X st hF eU H)
 |nil=>exact fun X st hF eU H=>alN
 |cons a l ga gl=>exact fun X st hF eU H=>ahu (ga X st hF eU H) (gl X st hF eU H)
 |comp xs it c elt gi gc ge=>exact fun X st hF eU H=>aht H (gi X st hF eU H) (fun X' st' e HI=>gc X' st' (e▸hF) (e▸eU) HI) (fun X' st' e HI=>ge X' st' (e▸hF) (e▸eU) HI)
 |comp2 x it y it2 elt gi g2 ge=>exact fun X st hF eU H=>adN H (gi X st hF eU H) (fun X' st' e HI=>g2 X' st' (e▸hF) (e▸eU) HI) (fun X' st' e HI=>ge X' st' (e▸hF) (e▸eU) HI)
end
end
end
section
open PySem.SeqAt
noncomputable section
section
variable{k:Nat}{X:FX}{st:SI}
theorem ow(H:gX X st){i:Nat}{x:Str}(h:pp st i x=true):kj X i x:=aE h fun h1 h=>
 ⟨by rw[H.nm];exact HA h1,rE h (fun h=>.inl ((H.kind x).trans ((KS _ _).symm.trans (ag h)))) fun h=>aE h fun h2 h3=>
  have h3:=(KS _ _).symm.trans (ag h3)
  anc (H.cells x (.inl (dM h3))) fun c hc=>.inr ⟨(H.kind x).trans h3,c,hc,H.own h2 _ _ hc⟩⟩
theorem Tt(H:gX X st){is:ac}: ∀{ts:List an},CZ st is ts=true->qj X is ts:=by
 induction is with
 |nil=>exact fun h=>Jf h fun _=>.nil
 |cons i is ih=>exact fun h=>Vd h fun t r h=>aE h fun h1 h2=>pL h1 fun n p h1=>.cons (ow H h1) (ih h2)
@[elab_as_elim] theorem anE {α:Type} {l:List α} {Q:List α->Prop} (h:bw 1 l.length=true) (kk: ∀i j r,Q (i::j::r)):Q l:=by
 cases l with
 |nil=>exact ff h
 |cons i l=>cases l with
  |nil=>exact ff h
  |cons j r=>exact kk i j r
theorem alx{e:Env}{n:List (Str×cQ)}(h1:e.scope.names=n)(h2:e.scope.kind= .function){st:SI}(h3:n=st.names){ts:List an}{v:an}:swappedStores ts v e=swappedStores ts v (agu st):=by
 cases e with
 |mk sc=>cases sc with
  |mk kd nm=>subst h2;subst h1;subst h3;rfl
structure xn(X:FX)(k:Nat)(st:SI)(c:s0)(m:SM):Prop where
 s: ∀x,c.s st x=true->lI X k m x
 ss: ∀x,c.ss st x=true->mU X k m x
 g:c.g st=true-> ∀W fr σ s,St X W fr σ s-> ∀r,m fr σ=some r-> ∃W' fr' ai,r= .next fr' ai/\W.le W'/\St X W' fr' ai s
theorem xn.one{c:SI->bW->Bool}{m:SM}(h: ∀x,c st x=true->lI X k m x):xn X k st (.one c) m:=⟨h,fun _ h=>ff h,fun h=>ff h⟩
theorem Yn(H:gX X st){is:ac}{names:List Str}{ts:List an}{c:Nat}{m:EM}{e:an}{p p':Pos}(h:(aiB st is names||aiC st is names)=true)(hm:b8 X k m e)(hc:kv e=true):swappedStores [.Tuple ts c p'] e X.env=pure (some names)->
  lI X k (cT is m) (.Assign [.Tuple ts c p'] e p):=
 rE h (fun h=>wY h fun i j h=>wY h fun x y h=>aE h fun h1 h=>aE h fun h2 h3 hw=>aeT H.ok H.sto (ow H h1) (ow H h2) (of_decide_eq_false (pu h3)) hm hc hw)
  fun h=>YU h fun i j l h=>YU h fun x y z h=>aE h fun h1 h=>aE h fun h2 h=>aE h fun h3 h=>aE h fun h4 h=>aE h fun h5 h6 hw=>aaW H.ok H.sto (ow H h1) (ow H h2) (ow H h3) (of_decide_eq_false (pu h4)) (of_decide_eq_false (pu h5)) (of_decide_eq_false (pu h6)) hm hc hw
theorem W1(H:gX X st){is:ac}{ts:List an}{c:Nat}{m:EM}{e:an}{p p':Pos}(h:abC st is (.Tuple ts c p') ts e=true)(hm:b8 X k m e)(hc:kv e=true):lI X k (cT is m) (.Assign [.Tuple ts c p'] e p):=
 afD (Q:=fun m'=>swappedStores [.Tuple ts c p'] e X.env=m'->lI X k (cT is m) (.Assign [.Tuple ts c p'] e p)) h (fun o h hw=>match o,h,hw with
  |none,h,hw=>aE h fun h1 h2=>anE (Q:=fun is=>CZ st is ts=true->lI X k (cT is m) (.Assign [.Tuple ts c p'] e p)) h1 (fun i j r h2=>aeS H.ok H.sto (Tt H h2) hm hc hw) h2
  |some names,h,hw=>Yn H h hm hc hw) (alx H.names H.ok.kind rfl)
theorem adY{e:T}{Q:T->Prop}(h:PT e=true)(kk:Q (.cst .none)):Q e:=pN h fun hc h=>T.cst.elim (motive:=fun x=> ∀hc:x.ctorIdx=1,T.cst.elim (motive:=fun _=>Bool) x hc (fun a=>(tc a (some ())).isSome)=true->Q x) e hc (fun a _ h=>by
 cases a<;>first|exact ff h|exact kk) hc h
variable{e c i o it:Ck}{d dc di do_:D}{a b:s0}{m n:SM}{FN:List Str}{Γ:cG}
theorem ahN(H:gX X st)(ge:Gd X k st e d):xn X k st (Xf e) (k8 d.e):=.one fun x h=>ajy h fun v p h=>aE h fun h1 h2=>ae0 H.sto (ge.e _ h2) h1
theorem alW(H:gX X st){j:Nat}(ge:Gd X k st e d):xn X k st (abK j e) (cT [j] d.e):=.one fun x h=>EK h fun ts v p h=>pw h fun t h=>pL h fun y p' h=>aE h fun h1 h2=>ge.u _ h2 _ _ _ _ (ow H h1)
theorem ahL(H:gX X st){is:ac}(ge:Gd X k st e d):xn X k st (Xd is e) (cT is d.e):=.one fun x h=>EK h fun ts v p h=>pw h fun t h=>amW h fun q c p' h=>aE h fun h1 h=>aE h fun h2 h3=>W1 H h3 (ge.e _ h2) h1
theorem ahJ(hF:Sj X.C FN){kk:Nat}(go:Gd X k st o do_)(ge:Gd X k st e d):xn X k st (Xb FN kk o e) (lT kk do_.e d.e):=.one fun x h=>EK h fun ts v p h=>pw h fun t h=>NZ h fun q n p' h=>aE h fun h0 h=>aE h fun h1 h2=>(hF _ _ (HA h0)).2▸aeP (hF _ _ (HA h0)).1 (ge.e _ h2) (go.e _ h1)
theorem ahK(go:Gd X k st o do_)(gi:Gd X k st i di)(ge:Gd X k st e d):xn X k st (Xc o i e) (Qz do_.e di.e d.e):=.one fun x h=>EK h fun ts v p h=>pw h fun t h=>abk h fun q j p' h=>aE h fun h0 h=>aE h fun h1 h2=>aeR (ge.e _ h2) (go.e _ h0) (gi.e _ h1)
theorem aoj(gc:Gd X k st c dc)(ga:xn X k st a m)(gb:xn X k st b n):xn X k st (af5 c a b) (sf dc.b m n):=.one fun x h=>apr h fun t l r p h=>aE h fun h0 h=>aE h fun h1 h2=>amO (gc.b _ h0) (ga.ss _ h1) (gb.ss _ h2)
theorem al0(gc:Gd X k st c dc)(gb:xn X k st b n){j:Nat}:xn X k st (abO c b) (TH dc.b n j):=.one fun x h=>ajA h fun t l r p h=>Jf h fun h=>aE h fun h0 h1=>aa0 (gc.b _ h0) (gb.ss _ h1)
theorem alB(H:gX X st){xs:ac}{t:an}(h:ahl st xs t=true):Sz X xs t:=rE h (fun h=>pw h fun i h=>pL h fun y p h=>HL H.ok H.sto (ow H h)) fun h=>abl h fun q c p h=>aE h fun h1=>anE h1 fun i j r h2=>Lh H.ok H.sto (Tt H h2)
theorem alX(H:gX X st){xs:ac}(gi:Gd X k st it di)(gb:xn X k st b n):xn X k st (abL xs it b) (gB xs di.e n):=.one fun x h=>amG h fun t j l r p h=>Jf h fun h=>aE h fun h1 h=>aE h fun h2 h=>aE h fun h3 h4=>ako (gi.e _ h3) (alB H h1) (gb.ss _ h4) (pv h2)
theorem alZ{Γ:cG}{t:T}{FN:List Str}(ge:Gd X k st (ck FN Γ.nms t) (gS Γ t)):xn X k st (abN (PT t) (ck FN Γ.nms t)) (eK (gS Γ t).e):=.one fun x h=>aey h fun o p h=>match o,h with
 |some v,h=>akv (ge.e _ h)
 |none,h=>adY (Q:=fun t=>lI X k (eK (gS Γ t).e) (.Return none p)) h ae5
theorem alY(H:gX X st){j:Nat}:xn X k st (abM j) (QA j):=⟨fun _ h=>ff h,fun _ h=>ff h,fun h=>(fg.mp h).elim fun y hy=>ahq (y:=y) (by rw[H.nm];exact hy)⟩
theorem ahM(ga:xn X k st a m)(gb:xn X k st b n):xn X k st (Xe a b) (aV m n):=⟨fun _ h=>ff h,fun xs h=>rE h (fun h=>aE h fun h1 h2=>YL (ga.g h1) (gb.ss _ h2)) fun h=>Vd h fun x r h=>aE h fun h1 h2=>aa1 (ga.s _ h1) (gb.ss _ h2),fun h=>ff h⟩
theorem ZA(hk:5<=k){FN:List Str}(hF:Sj X.C FN){Γ:cG}(eU:KB X.C k Γ)(H:gX X st)(t:TS):xn X k st (ckS FN Γ.nms t) (cg Γ t):=by
 have g:=fun t=>adc hk t X st hF eU H
 induction t with
 |bad=>exact⟨fun _ _ A R W fr σ s T r e=>nn e,fun _ h=>ff h,fun h=>ff h⟩
 |expr e=>exact ahN H (g e)
 |asg i e=>exact alW H (g e)
 |asgT is e=>exact ahL H (g e)
 |asgA kk o e=>exact ahJ hF (g o) (g e)
 |asgI o i e=>exact ahK (g o) (g i) (g e)
 |ifs c a b ga gb=>exact aoj (g c) ga gb
 |whl c b gb=>exact al0 (g c) gb
 |for_ xs it b gb=>exact alX H (g it) gb
 |ret e=>exact alZ (g e)
 |cont=>exact .one fun x h=>amF h fun p _=>aeY
 |frz i=>exact alY H
 |nil=>exact⟨fun _ h=>ff h,fun xs h=>Jf h fun _=>ae7,fun h=>ff h⟩
 |cons a b ga gb=>exact ahM ga gb
end
end
end
section
open PySem.SeqAt
noncomputable section
section
variable{k:Nat}{C:PC}
noncomputable def SP(d:Bn)(f:gJ->Bool):Bool:=match d with
 | .func fd=>f fd
 |_=>false
@[elab_as_elim] theorem ZK {Q:Bn->Prop} {d:Bn} {f:gJ->Bool} (h:SP d f=true) (k: ∀fd,f fd=true->Q (.func fd)):Q d:=by
 cases d<;>first|exact ff h|exact k _ h
noncomputable def W3(d:N2)(f:List bW->Bool):Bool:=match d with
 | .stmts b=>f b
 |_=>false
@[elab_as_elim] theorem afF {Q:N2->Prop} {d:N2} {f:List bW->Bool} (h:W3 d f=true) (k: ∀b,f b=true->Q (.stmts b)):Q d:=by
 cases d<;>first|exact ff h|exact k _ h
def RS(K:dL)(n:Nat)(dfl:aa)(nm:List (Nat×Str))(fd:gJ)(ps:List Str):Bool:=
 codeIn K fd.code fd.qualname&&(fd.closure.isEmpty&&(fd.globals==mainGlobals&&(fd.builtins==builtinsNs&&(fd.scope.kind== .function&&(!fd.scope.isCoroutine&&(!fd.scope.isGenerator&&
 (fd.params.posonlyargs.isEmpty&&(fd.params.kwonlyargs.isEmpty&&(fd.params.vararg.isNone&&(fd.params.kwarg.isNone&&(ps.length==n&&(cX dfl.length n&&(agi K dfl fd.defaults&&(pq ps&&
 (ps.all (fun x=>fd.scope.names.lookup x==some .local||fd.scope.names.lookup x==some .cell)&&(((cB n).zip ps).all (fun p=>nm.lookup p.1==some p.2)&&(nm.all (fun p=>zy p.2)&&(pq (nm.map (·.2))&&
 fd.scope.names.all (fun y=>y.2 != .free)))))))))))))))))))
def fnB(K:dL)(FN:List Str)(f:aC)(n:Nat)(dfl:aa)(nm:List (Nat×Str))(N:Wt)(t:TS):Bool:=C7 (K.lookup f) fun o=>SP o.data fun fd=>W3 fd.body fun body=>RS K n dfl nm fd (fd.params.args.map (·.arg))&&(ckS FN N t).ss ⟨fd.scope.names,nm,true⟩ body
theorem abo{ps:List Str}{i:Nat}{x:Str}(h:ps[i]? =some x):(i,x)∈(cB ps.length).zip ps:=by
 rw[List.mem_iff_getElem?]
 refine⟨i,?_⟩
 have hi:=(cU.mp h).1
 rw[sV]
 exact⟨by simp[hi],h⟩
structure FdB(K:dL)(n:Nat)(dfl:List AV)(nm:List (Nat×Str))(fd:gJ)(ps:List Str):Prop where
 h1:codeIn K fd.code fd.qualname=true
 h2:fd.closure.isEmpty=true
 h3:(fd.globals==mainGlobals)=true
 h4:(fd.builtins==builtinsNs)=true
 h5:(fd.scope.kind== .function)=true
 h6:(!fd.scope.isCoroutine)=true
 h7:(!fd.scope.isGenerator)=true
 h8:fd.params.posonlyargs.isEmpty=true
 h9:fd.params.kwonlyargs.isEmpty=true
 ha:fd.params.vararg.isNone=true
 hb:fd.params.kwarg.isNone=true
 hc:(ps.length==n)=true
 hd:cX dfl.length n=true
 he:agi K dfl fd.defaults=true
 hf:pq ps=true
 hg:ps.all (fun x=>fd.scope.names.lookup x==some .local||fd.scope.names.lookup x==some .cell)=true
 hi:((cB n).zip ps).all (fun p=>nm.lookup p.1==some p.2)=true
 hj:nm.all (fun p=>zy p.2)=true
 hk:pq (nm.map (·.2))=true
 hl:fd.scope.names.all (fun y=>y.2 != .free)=true
theorem FdB.of{K:dL}{n:Nat}{dfl:aa}{nm:List (Nat×Str)}{fd:gJ}{ps:List Str}(h:RS K n dfl nm fd ps=true):FdB K n dfl nm fd ps:=
 aE h fun h1 h=>aE h fun h2 h=>aE h fun h3 h=>aE h fun h4 h=>aE h fun h5 h=>aE h fun h6 h=>aE h fun h7 h=>aE h fun h8 h=>aE h fun h9 h=>aE h fun h10 h=>aE h fun h11 h=>aE h fun h12 h=>aE h fun h13 h=>aE h fun h14 h=>aE h fun h15 h=>aE h fun h16 h=>aE h fun h17 h=>aE h fun h18 h=>aE h fun h19 h20=>⟨h1,h2,h3,h4,h5,h6,h7,h8,h9,h10,h11,h12,h13,h14,h15,h16,h17,h18,h19,h20⟩
theorem ahj{f:aC}{o:Obj}(ho:C.K.lookup f=some o){n:Nat}{dfl:aa}{nm:List (Nat×Str)}{fd:gJ}{body:List bW}(hd:o.data= .func fd)(hb:fd.body= .stmts body){ps:List Str}(hps:fd.params.args.map (·.arg)=ps)(h:RS C.K n dfl nm fd ps=true):
  ps.length=n/\afp C f fd body ps dfl (⟨fd.scope.names,nm,true⟩:SI).at_/\ ∀X,abr C fd (⟨fd.scope.names,nm,true⟩:SI).at_ X->gX X ⟨fd.scope.names,nm,true⟩:=
 by
 have H:=FdB.of h
 have h5:=beq_iff_eq.mp H.h5
 obtain rfl:ps.length=n:=beq_iff_eq.mp H.hc
 have hdl:=av H.hd
 refine⟨rfl,⟨⟨o,ho,hd⟩,H.h1,hb,eB.mp H.h2,beq_iff_eq.mp H.h3,beq_iff_eq.mp H.h4,h5,pu H.h6,pu H.h7,fun W σ s args vs R hv hl hl2=> ?_,kb H.hf,fun x hx=> ?_,fun i x hi hx=> ?_,fun i x hx=> ?_⟩,fun X B=> ?_⟩
 ·obtain⟨d,hd1,hd2⟩:=ZP (s:=s) H.he R
  have hlen:=hd1.length
  have hvl:=hv.length
  refine⟨vs++(d.getD #[]).toList.drop (vs.length+(d.getD #[]).toList.length -ps.length),?_,W8 (eB.mp H.h8) (eB.mp H.h9) (dG.mp H.ha) (dG.mp H.hb) hps hd2 rfl (by rw[hvl];exact hl) (by rw[hvl,hlen];exact hl2) (by rw[hlen];exact hdl) (kb H.hf)⟩
  rw[hlen,hvl]
  exact hv.append (hd1.drop _)
 ·exact rE (bZ.mp H.hg x hx) (fun h=>.inl (beq_iff_eq.mp h)) fun h=>.inr (beq_iff_eq.mp h)
 ·have hp:ps[i]? =some ps[i]:=fb hi
  have hz:=beq_iff_eq.mp (bZ.mp H.hi _ (abo hp))
  exact hp.trans (hz.symm.trans hx)
 ·exact pu (bZ.mp H.hj _ (dM hx))
 ·refine⟨by rw[B.scope],B.nm,B.ok,⟨fun i j x hi hj=> ?_,?_⟩,fun n hn=> ?_,fun _=>B.own⟩
  ·rw[B.nm]at hi hj
   exact Lj (kb H.hk) (dM hi) (dM hj)
  ·unfold interactive;rw[B.scope,h5];rfl
  ·exact hn.elim (B.cells n) fun hn=>absurd rfl (bne_iff_ne.mp (bZ.mp H.hl _ hn))
theorem adJ{f:aC}{o:Obj}(ho:C.K.lookup f=some o){n:Nat}{dfl:aa}{nm:List (Nat×Str)}{fd:gJ}{body:List bW}(hd:o.data= .func fd)(hb:fd.body= .stmts body){ps:List Str}(hps:fd.params.args.map (·.arg)=ps){b:SM}(h:RS C.K n dfl nm fd ps=true)
  (hs: ∀X:FX,X.C=C->gX X ⟨fd.scope.names,nm,true⟩->mU X k b body):pV C (k+1) (.ref f) (bn n dfl b):=by
 obtain⟨rfl,F,H⟩:=ahj ho hd hb hps h
 exact akj F fun X B=>hs X B.C (H X B)
theorem adK(hk:5<=k){FN:List Str}(hF:Sj C FN){Γ:cG}(eU:KB C k Γ){f:aC}{n:Nat}{dfl:aa}{nm:List (Nat×Str)}{t:TS}(h:fnB C.K FN f n dfl nm Γ.nms t=true):pV C (k+1) (.ref f) (bn n dfl (cg Γ t)):=Jj h fun o ho h=>
 ZK (d:=o.data) (Q:=fun d=>o.data=d->pV C (k+1) (.ref f) (bn n dfl (cg Γ t))) h (fun fd h hd=>afF (d:=fd.body) (Q:=fun b=>fd.body=b->pV C (k+1) (.ref f) (bn n dfl (cg Γ t))) h (fun body h hb=>aE h fun h1 h2=>
  adJ ho hd hb rfl h1 fun X e H=>(ZA hk (e▸hF) (e▸eU) H t).ss _ h2) rfl) rfl
end
end
end
section
mutual
def uN(f:Nat->Option Nat):AV->Option AV
 | .ref a=>(f a).map .ref
 | .tup l=>(oy f l).map .tup
 | .lst l=>(oy f l).map .lst
 | .frz c ks l=>(oy f l).map (.frz c ks)
 | .dct ks l=>(oy f l).map (.dct ks)
 | .dcti ks l=>(oy f l).map (.dcti ks)
 | .unb=>some .unb
 | .none=>some .none
 | .opq=>some .opq
 | .bool b=>some (.bool b)
 | .int i=>some (.int i)
 | .str s=>some (.str s)
 | .bytes s=>some (.bytes s)
 | .rng a b=>some (.rng a b)
 | .glob v=>some (.glob v)
def oy(f:Nat->Option Nat):List AV->Option (List AV)
 |[]=>some []
 |a::l=>ob (uN f a) fun b=>ob (oy f l) fun m=>some (b::m)
end
def acz(f:Nat->Option Nat):bJ->Option bJ
 | .lst l=>(oy f l).map .lst
 | .inst c ks l=>(oy f l).map (.inst c ks)
 | .dct ks l=>(oy f l).map (.dct ks)
 | .orc k l=>some (.orc k l)
noncomputable def ixN:Nat->List Nat->Nat->Option Nat
 |_,[],_=>none
 |n,b::r,a=>bif aj a b then some n else ixN (n+1) r a
def XH(f:Nat->Option Nat)(σ:AS):Nat->List Nat->Option (List (Nat×bJ))
 |_,[]=>some []
 |n,b::r=>ob (σ.get b) fun c=>ob (acz f c) fun c'=>ob (XH f σ (n+1) r) fun m=>some ((n,c')::m)
noncomputable def F1(a:Nat):List Nat->Bool
 |[]=>false
 |b::r=>aj a b||F1 a r
noncomputable def ndN:List Nat->Bool
 |[]=>true
 |a::r=> !F1 a r&&ndN r
def imp(f:Nat->Option Nat)(ids:ac)(n:Nat)(cells:List (Nat×bJ))(a:AV)(ai:AS):Option (AV×AS):=bif ndN ids then ob (uN f a) (fun b=>ob (XH f ai n ids) fun cs=>some (b,⟨n+ids.length,cs++cells⟩))else none
def vU(pick:AV->AS->List Nat)(F:aW):aW:=fun args σ=>bif aN args then bC (F args ⟨0,[]⟩) (fun a ai=>imp (ixN σ.next (pick a ai)) (pick a ai) σ.next σ.cells a ai)else none
noncomputable def XN(r n:Nat)(ids:ac):Nat->Option Nat
 |0=>some r
 |a+1=>ixN n ids (a+1)
def sC{β:Type}(σ:AS)(x:Nat)(f:Nat->List AV->Option β):Option β:=ob (σ.get x) fun c=>match c with
 | .orc k l=>f k l
 |_=>none
theorem F3{β:Type}{σ:AS}{x:Nat}{f:Nat->List AV->Option β}{r:β}{P:Prop}(h:sC σ x f=some r)(k: ∀n l,σ.get x=some (.orc n l)->f n l=some r->P):P:=oE h fun c hc h=>by
 cases c with
 |orc n l=>exact k n l hc h
 |_=>exact nn h
def rk{α β:Type}(l:List α)(f:α->List α->Option β):Option β:=bu (motive:=fun _=>Option β) none (fun a r _=>f a r) l
@[elab_as_elim] theorem kJ {α β:Type} {Q:List α->Prop} {l:List α} {f:α->List α->Option β} {r:β} (h:rk l f=some r) (k: ∀a m,f a m=some r->Q (a::m)):Q l:=by
 cases l with
 |nil=>exact nn h
 |cons a m=>exact k a m h
def ur(pick:AV->AS->List Nat)(F:aW):aW:=fun args σ=>rk args fun a as=>io a fun r=>bif aN as then sC σ r (fun k l=>bC (F (.ref 0::as) ⟨1,[(0,.orc k l)]⟩) fun a ai=>sC ai 0 fun k' l'=>bif F1 0 (pick a ai)then none else imp (XN r σ.next (pick a ai)) (pick a ai) σ.next (lx r (.orc k' l') σ.cells) a ai)else none
section
variable{k:Nat}{C:PC}{W W' W'':Wd}{σ ai:AS}{h h':bO}
theorem Jc{α β:Type}{o:Option α}{g:α->β}{b:β}{P:β->Prop}(e:o.map g=some b)(k: ∀a,o=some a->P (g a)):P b:=by
 cases o with
 |none=>exact nn e
 |some a=>exact s1 e (k a rfl)
mutual
theorem acy{f:Nat->Option Nat}(xU: ∀i j p,f i=some j->W.ρ i=some p->W'.ρ j=some p)(hi: ∀x o,W.im x=some o->W'.im x=some o):
  ∀{a b:AV} {v:ah},uN f a=some b->V C W a v->V C W' b v
 | .unb,_,_,e,q=>q.elim
 | .none,b,v,e,q=>s1 (P:=fun b=>V C W' b v) e q
 | .opq,b,v,e,q=>s1 (P:=fun b=>V C W' b v) e trivial
 | .bool _,b,v,e,q=>s1 (P:=fun b=>V C W' b v) e q
 | .int _,b,v,e,q=>s1 (P:=fun b=>V C W' b v) e q
 | .str _,b,v,e,q=>s1 (P:=fun b=>V C W' b v) e q
 | .bytes _,b,v,e,q=>s1 (P:=fun b=>V C W' b v) e q
 | .tup l,b,v,e,q=>Jc (P:=fun b=>V C W' b v) e fun m e1=>q.tupE fun x n vs q r=>⟨x,n,vs,rfl,hi _ _ q,qT xU hi e1 r⟩
 | .lst l,b,v,e,q=>Jc (P:=fun b=>V C W' b v) e fun m e1=>q.lstE fun x n vs q r=>⟨x,n,vs,rfl,hi _ _ q,qT xU hi e1 r⟩
 | .frz c ks l,b,v,e,q=>Jc (P:=fun b=>V C W' b v) e fun m e1=>q.frzE fun x d es n vs q0 q1 q2 r z=>⟨x,d,es,n,vs,rfl,q0,hi _ _ q1,hi _ _ q2,qT xU hi e1 r,z⟩
 | .dct ks l,b,v,e,q=>Jc (P:=fun b=>V C W' b v) e fun m e1=>q.dctE fun x o vs q0 q1 r z=>⟨x,o,vs,rfl,q0,hi _ _ q1,qT xU hi e1 r,z⟩
 | .dcti ks l,b,v,e,q=>Jc (P:=fun b=>V C W' b v) e fun m e1=>q.dctiE fun x o vs q0 q1 r z=>⟨x,o,vs,rfl,q0,hi _ _ q1,qT xU hi e1 r,z⟩
 | .rng _ _,b,v,e,q=>s1 (P:=fun b=>V C W' b v) e (q.rngE fun x t u w q z1 z2=>⟨x,t,u,w,rfl,hi _ _ q,z1,z2⟩)
 | .ref _,b,v,e,q=>Jc (P:=fun b=>V C W' b v) e fun m e1=>q.refE fun p e=>⟨p,xU _ _ _ e1 e,rfl⟩
 | .glob _,b,v,e,q=>s1 (P:=fun b=>V C W' b v) e q
theorem qT{f:Nat->Option Nat}(xU: ∀i j p,f i=some j->W.ρ i=some p->W'.ρ j=some p)(hi: ∀x o,W.im x=some o->W'.im x=some o):
  ∀{l m:List AV} {vs:List ah},oy f l=some m->VL C W l vs->VL C W' m vs
 |[],m,vs,e,q=>s1 (P:=fun m=>VL C W' m vs) e q
 |a::l,m,vs,e,q=>q.consE fun v r q1 q2=>oE (show ob (uN f a) (fun b=>ob (oy f l) fun m=>some (b::m))=some m from e) fun b hb e=>oE e fun m' hm e=>s1 (P:=fun m=>VL C W' m (v::r)) e ⟨v,r,rfl,acy xU hi hb q1,qT xU hi hm q2⟩
end
mutual
theorem uz{f:Nat->Option Nat}: ∀{a:AV},noRef a=true->uN f a=some a
 | .unb,_=>rfl
 | .none,_=>rfl
 | .opq,_=>rfl
 | .bool _,_=>rfl
 | .int _,_=>rfl
 | .str _,_=>rfl
 | .bytes _,_=>rfl
 | .tup l,e=>by show(oy f l).map _=_;rw[jA (l:=l) e];rfl
 | .lst l,e=>by show(oy f l).map _=_;rw[jA (l:=l) e];rfl
 | .frz c ks l,e=>by show(oy f l).map _=_;rw[jA (l:=l) e];rfl
 | .dct ks l,e=>by show(oy f l).map _=_;rw[jA (l:=l) e];rfl
 | .dcti ks l,e=>by show(oy f l).map _=_;rw[jA (l:=l) e];rfl
 | .rng _ _,_=>rfl
 | .ref _,e=>by cases e
 | .glob _,_=>rfl
theorem jA{f:Nat->Option Nat}: ∀{l:aa},aN l=true->oy f l=some l
 |[],_=>rfl
 |a::l,e=>by
  have e:(noRef a&&aN l)=true:=e
  rw[cL]at e
  show ob (uN f a) _=_
  rw[uz e.1]
  show ob (oy f l) _=_
  rw[jA e.2];rfl
end
theorem x5(hi: ∀x o,W.im x=some o->W'.im x=some o){l:aa}{vs:List ah}(e:aN l=true)(q:VL C W l vs):VL C W' l vs:=
 qT (f:=fun _=>none) (fun _ _ _ e=>by cases e) hi (jA e) q
theorem RO(hi: ∀x o,W.im x=some o->W'.im x=some o){p:aC×aC}{c:bJ}(e:Es c=true)(x:iQ C W h p c):iQ C W' h p c:=by
 cases c with
 |lst _=>obtain⟨a,vs,n,b,r⟩:=x;exact⟨a,vs,n,b,x5 hi e r⟩
 |inst cc ks fs=>obtain⟨q0,a,es,n,vs,b,r,z⟩:=x;exact⟨q0,hi _ _ a,es,n,vs,b,x5 hi e r,z⟩
 |dct ks fs=>obtain⟨a,q0,o,vs,b,r,z⟩:=x;exact⟨a,q0,o,vs,b,x5 hi e r,z⟩
 |orc=>exact x
theorem zf(hi: ∀x o,W.im x=some o->W'.im x=some o){p:aC×aC}{kk:Nat}{l:aa}(x:d4 C W h p (.orc kk l)):d4 C W' h p (.orc kk l):=by
 refine eX (x) fun c q x=> ?_
 exact⟨c,q,RO hi (C.concFree _ _ _ q) x⟩
theorem amv{f:Nat->Option Nat}(xU: ∀i j p,f i=some j->W.ρ i=some p->W'.ρ j=some p)(hi: ∀x o,W.im x=some o->W'.im x=some o){p:aC×aC}{c c':bJ}(e:acz f c=some c')(x:d4 C W h p c):d4 C W' h p c':=by
 cases c with
 |lst _=>exact Jc (P:=fun c'=>d4 C W' h p c') e fun m e1=>let⟨a,vs,n,b,r⟩:=x;⟨a,vs,n,b,qT xU hi e1 r⟩
 |inst cc ks fs=>exact Jc (P:=fun c'=>d4 C W' h p c') e fun m e1=>let⟨q0,a,es,n,vs,b,r,z⟩:=x;⟨q0,hi _ _ a,es,n,vs,b,qT xU hi e1 r,z⟩
 |dct ks fs=>exact Jc (P:=fun c'=>d4 C W' h p c') e fun m e1=>let⟨a,q0,o,vs,b,r,z⟩:=x;⟨a,q0,o,vs,b,qT xU hi e1 r,z⟩
 |orc=>exact s1 (P:=fun c'=>d4 C W' h p c') e (zf hi x)
theorem Te{ids:ac}: ∀{n a j:Nat},ixN n ids a=some j->n<=j/\ids[j-n]? =some a:=by
 induction ids with
 |nil=>exact fun e=>nn e
 |cons b r ih=>
  intro n a j e
  refine bE (show(bif aj a b then some n else ixN (n+1) r a)=some j from e) (fun q e=> ?_) fun _ e=> ?_
  ·refine s1 (P:=fun j=>n<=j/\(b::r)[j-n]? =some a) e ⟨ax _,?_⟩
   rw[Bt,aD q];rfl
  ·obtain⟨h1,h2⟩:=ih e
   refine⟨E3 h1,?_⟩
   rw[<- tM j n,N9 h1];exact h2
theorem aie{a n:Nat}{c:bJ}{l:List (Nat×bJ)}(h:a≠n):lk a ((n,c)::l)=lk a l:=by rw[nq,f8,decide_eq_false h];rfl
theorem aid{n:Nat}{c:bJ}{l:List (Nat×bJ)}:lk n ((n,c)::l)=some c:=by rw[nq,f8,decide_eq_true rfl];rfl
theorem adS{f:Nat->Option Nat}{ids:ac}: ∀{n:Nat} {cs:List (Nat×bJ)},XH f ai n ids=some cs-> ∀(rest:List (Nat×bJ)) (a:Nat),
  (∃i c c',n<=a/\ids[a-n]? =some i/\ai.get i=some c/\acz f c=some c'/\lk a (cs++rest)=some c')\/((a<n\/n+ids.length<=a)/\lk a (cs++rest)=lk a rest):=by
 induction ids with
 |nil=>exact fun{n cs} e rest a=>s1 (P:=fun cs=>_\/((a<n\/n+([]:List Nat).length <=a)/\lk a (cs++rest)=lk a rest)) e (.inr ⟨oP a n,rfl⟩)
 |cons b r ih=>
  intro n cs e rest a
  refine oE (show ob (ai.get b) _=some cs from e) fun c hc e=>oE e fun c' hc' e=>oE e fun m hm e=> ?_
  apply s1 e
  by_cases q:a=n
  ·subst q
   exact .inl ⟨b,c,c',ax _,by rw[Bt];rfl,hc,hc',aid⟩
  ·rw[eZ,aie q]
   rcases ih hm rest a with⟨i,eS,CA,h1,h2,h3,h4,h5⟩|⟨h1,h2⟩
   ·exact .inl ⟨i,eS,CA,E3 h1,by rw[<- tM a n,N9 h1];exact h2,h3,h4,h5⟩
   ·refine .inr ⟨h1.imp (fun h=>Nat.lt_of_le_of_ne (E2 h) q) fun h=> ?_,h2⟩
    rw[bT,<- Nat.succ_add_eq_add_succ];exact h
theorem KV{a:Nat}: ∀{l:ac},F1 a l=true↔a∈l
 |[]=>by simp[F1]
 |b::r=>by rw[F1,oK,KV,f8,decide_eq_true_iff,aG]
theorem XY: ∀{l:ac},ndN l=true->l.Nodup
 |[],_=>l4
 |a::r,e=>by
  rw[ndN,cL,d7]at e
  refine dR.mpr ⟨fun q=> ?_,XY e.2⟩
  rw[KV.mpr q]at e;cases e.1
def GU(W:Wd)(σ:AS)(ro:Option Nat)(b:aC):Prop:= ∃a c p,some a≠ro/\σ.get a=some c/\W.ρ a=some p/\p.2=b
open Classical in
def Wd.loc(W:Wd)(σ:AS)(h:bO)(ro:Option Nat):Wd:=⟨fun i=>if i=0 then ro.bind W.ρ else none,W.im,fun b=>if GU W σ ro b then h.get? b else W.pr b⟩
noncomputable def PR(n:Nat)(ids:ac)(a:Nat):Option Nat:=if n<=a then ids[a-n]? else none
noncomputable def Wd.imp(W W':Wd)(n:Nat)(ids:ac):Wd:=⟨fun a=>match PR n ids a with
 |some i=>W'.ρ i
 |none=>W.ρ a,W'.im,W.pr⟩
theorem Jb{ro:Option Nat}{b:aC}(hb:GU W σ ro b):(W.loc σ h ro).pr b=h.get? b:=if_pos hb
theorem CV{ro:Option Nat}{b:aC}(hb: ¬GU W σ ro b):(W.loc σ h ro).pr b=W.pr b:=if_neg hb
theorem cC.loc(R:cC C W σ h){ro:Option Nat}{σ0:AS}(hn:1<=σ0.next\/ro=none)(hc: ∀a c,σ0.get a=some c->a=0/\ ∃r kk l,ro=some r/\c= .orc kk l/\σ.get r=some c):cC C (W.loc σ h ro) σ0 h:=by
 refine⟨R.base,R.im,fun b o e=> ?_,fun b o e=> ?_,fun a ha=> ?_,fun a c e=> ?_,fun a b ca cb p q e e' _ _ _=>(hc a ca e).1.trans (hc b cb e').1.symm⟩
 ·by_cases hb:GU W σ ro b
  ·rw[Jb hb]at e;exact e
  ·rw[CV hb]at e;exact R.pr _ _ e
 ·by_cases hb:GU W σ ro b
  ·obtain⟨a,c,p,_,h2,h3,rfl⟩:=hb
   refine ui (R.cell a c h2) fun p' e' _ h4 _=> ?_
   rw[h3]at e';cases e';exact h4
  ·rw[CV hb]at e;exact R.dis _ _ e
 ·show(if a=0 then ro.bind W.ρ else none)=none
  rcases hn with hn|rfl
  ·rw[if_neg (by omega)]
  ·split<;>rfl
 ·obtain⟨rfl,r,kk,l,rfl,rfl,hr⟩:=hc a c e
  refine ui (R.cell _ _ hr) fun p a1 a2 a3 a4=> ?_
  refine⟨p,by show(if 0=0 then(some r).bind W.ρ else none)=_;rw[if_pos rfl];exact a1,zf (W':=W.loc σ h (some r)) (W:=W) (fun _ _ e=>e) a2,a3,?_⟩
  rw[CV]
  ·exact a4
  ·rintro⟨a',c',p',h1,h2,h3,h4⟩
   exact h1 (congrArg some (R.inj _ _ _ _ _ _ h2 hr h3 a1 h4))
abbrev apP(σ ai:AS)(ids:List Nat)(f:Nat->Option Nat)(ro:Option Nat)(a:Nat)(c:bJ):Prop:=
 (∃i eS,σ.next<=a/\ids[a-σ.next]? =some i/\ai.get i=some eS/\acz f eS=some c)\/
   (some a≠ro/\σ.get a=some c)\/(some a=ro/\(∃eS,σ.get a=some eS)/\(∃kk ll,c= .orc kk ll)/\ai.get 0=some c)
abbrev apM(W W':Wd)(σ ai:AS)(ids:List Nat)(ro:Option Nat)(a:Nat)(c:bJ)(p:aC×aC):Prop:=
 (∃i eS,ai.get i=some eS/\W'.ρ i=some p/\W'.pr p.2=none/\((σ.next<=a/\ids[a-σ.next]? =some i)\/(some a=ro/\i=0)))\/(some a≠ro/\σ.get a=some c/\W.ρ a=some p/\ ∃o,W'.pr p.2=some o)
abbrev apJ(C:PC)(W:Wd)(h:bO)(a:Nat)(c:bJ):Prop:= ∃p,W.ρ a=some p/\d4 C W h p c/\W.im p.2=none/\W.pr p.2=none
theorem cC.imp(R:cC C W σ h){ro:Option Nat}(l:(W.loc σ h ro).le W')(R':cC C W' ai h'){ids:ac}(hnd:ids.Nodup)(h0:ro≠none->0∉ids)(hro: ∀r,ro=some r-> ∃eS,σ.get r=some eS){cells:List (Nat×bJ)}{cs:List (Nat×bJ)}{f:Nat->Option Nat}
  (hf: ∀i j,f i=some j->(∃r,ro=some r/\i=0/\j=r)\/(σ.next<=j/\ids[j-σ.next]? =some i))(hi:XH f ai σ.next ids=some cs)
  (hcell: ∀a c,lk a cells=some c->(some a≠ro/\σ.get a=some c)\/(some a=ro/\(∃eS,σ.get a=some eS)/\(∃kk ll,c= .orc kk ll)/\ai.get 0=some c)):
  W.le (W.imp W' σ.next ids)/\cC C (W.imp W' σ.next ids) ⟨σ.next+ids.length,cs++cells⟩ h'/\ ∀a b v,uN f a=some b->V C W' a v->V C (W.imp W' σ.next ids) b v:=by
 have hpr:W'.pr=(W.loc σ h ro).pr:=l.2.2
 have lim: ∀x o,W.im x=some o->W'.im x=some o:=fun x o e=>l.2.1 x o e
 have lt: ∀a p,W.ρ a=some p->a<σ.next:=fun a p e=>by
  by_cases q:σ.next<=a
  ·rw[R.fresh a q]at e;cases e
  ·omega
 have old: ∀a,a<σ.next->(W.imp W' σ.next ids).ρ a=W.ρ a:=fun a ha=>by
  show(match PR σ.next ids a with|some i=>W'.ρ i|none=>W.ρ a)=_
  unfold PR;rw[if_neg (by omega)]
 have new: ∀a i,σ.next<=a->ids[a-σ.next]? =some i->(W.imp W' σ.next ids).ρ a=W'.ρ i:=fun a i ha e=>by
  show(match PR σ.next ids a with|some i=>W'.ρ i|none=>W.ρ a)=_
  unfold PR;rw[if_pos ha,e]
 have le:W.le (W.imp W' σ.next ids):=⟨fun a p e=>(old a (lt a p e)).trans e,lim,rfl⟩
 have loc0: ∀r p,ro=some r->W.ρ r=some p->W'.ρ 0=some p:=fun r p hr e=>l.1 0 p (by show(if 0=0 then ro.bind W.ρ else none)=_;rw[if_pos rfl,hr];exact e)
 have nr: ∀r,ro=some r-> ∀p,W'.ρ 0=some p-> ∀eS,σ.get r=some eS->W.ρ r=some p:=fun r hr p e eS hc=>by
  refine eX (R.cell r eS hc) fun p' a1 _=> ?_
  rw[loc0 r p' hr a1]at e;cases e;exact a1
 have xU: ∀i j p,f i=some j->W'.ρ i=some p->(W.imp W' σ.next ids).ρ j=some p:=fun i j p e e'=>by
  rcases hf i j e with⟨r,hr,rfl,rfl⟩|⟨h1,h2⟩
  ·obtain⟨eS,hc⟩:=hro _ hr
   have:=nr _ hr p e' eS hc
   rw[old _ (lt _ _ this)];exact this
  ·rw[new _ _ h1 h2];exact e'
 have Tu: ∀b,W'.pr b=none->(∃o,h.get? b=some o)->W.pr b=none:=fun b e ⟨o,ho⟩=>by
  rw[hpr]at e
  by_cases hb:GU W σ ro b
  ·rw[Jb hb,ho]at e;cases e
  ·rw[CV hb]at e;exact e
 have wpr: ∀b o,W.pr b=some o->W'.pr b=some o:=fun b o e=>by
  rw[hpr,CV]
  ·exact e
  ·rintro⟨a,c,p,_,h2,h3,rfl⟩
   refine ui (R.cell a c h2) fun p' e' _ _ h4=> ?_
   rw[h3]at e';cases e'
   rw[h4]at e;cases e
 have npr: ∀b,W'.pr b=none->W.pr b=none:=fun b e=>by
  cases q:W.pr b with
  |none=>rfl
  |some o=>rw[wpr b o q]at e;cases e
 have src: ∀a c,lk a (cs++cells)=some c->
   apP σ ai ids f ro a c:=fun a c e=>by
  rcases adS hi cells a with⟨i,eS,CA,h1,h2,h3,h4,h5⟩|⟨_,h2⟩
  ·rw[e]at h5;cases h5;exact .inl ⟨i,eS,h1,h2,h3,h4⟩
  ·rw[h2]at e;exact .inr (hcell a c e)
 refine⟨le,⟨R'.base,R'.im,fun b o e=>R'.pr _ _ (wpr b o e),fun b o e=>R'.dis _ _ (wpr b o e),fun a ha=> ?_,fun a c e=> ?_,fun a b ca cb p q e e' ep eq hpq=> ?_⟩,fun a b v e q=>acy xU (fun _ _ e=>e) e q⟩
 ·have ha:σ.next+ids.length<=a:=ha
  show(match PR σ.next ids a with|some i=>W'.ρ i|none=>W.ρ a)=none
  unfold PR
  rw[if_pos (by omega),n9 (by omega)]
  exact R.fresh _ (by omega)
 ·show apJ C (W.imp W' σ.next ids) h' a c
  rcases src a c e with⟨i,eS,h1,h2,h3,h4⟩|⟨h1,h2⟩|⟨h1,⟨eS,h2⟩,⟨kk,ll,rfl⟩,h3⟩
  ·refine ui (R'.cell i eS h3) fun p a1 a2 a3 a4=> ?_
   exact⟨p,(new _ _ h1 h2).trans a1,amv xU (fun _ _ e=>e) h4 a2,a3,npr _ a4⟩
  ·refine ui (R.cell a c h2) fun p a1 a2 a3 a4=> ?_
   have ho:GU W σ ro p.2:=⟨a,c,p,h1,h2,a1,rfl⟩
   obtain⟨o,hx⟩:=a2.some
   have hp':W'.pr p.2=some o:=by rw[hpr,Jb ho];exact hx
   exact⟨p,(old _ (lt _ _ a1)).trans a1,(a2.keeps fun o' z=>by rw[hx]at z;cases z;exact R'.pr _ _ hp').mono0 le.to0,R'.dis _ _ hp',a4⟩
  ·refine ui (R'.cell 0 _ h3) fun p a1 a2 a3 a4=> ?_
   have hw:=nr a h1.symm p a1 eS h2
   exact⟨p,(old _ (lt _ _ hw)).trans hw,zf (W':=W.imp W' σ.next ids) (W:=W') (fun _ _ e=>e) a2,a3,npr _ a4⟩
 ·
  have key: ∀a c p,lk a (cs++cells)=some c->(W.imp W' σ.next ids).ρ a=some p->
    apM W W' σ ai ids ro a c p:=fun a c p e ep=>by
   rcases src a c e with⟨i,eS,h1,h2,h3,h4⟩|⟨h1,h2⟩|⟨h1,⟨eS,h2⟩,⟨kk,ll,rfl⟩,h3⟩
   ·rw[new _ _ h1 h2]at ep
    refine ui (R'.cell i eS h3) fun p' a1 a2 a3 a4=> ?_
    rw[ep]at a1;cases a1
    exact .inl ⟨i,eS,h3,ep,a4,.inl ⟨h1,h2⟩⟩
   ·refine ui (R.cell a c h2) fun p' a1 a2 a3 a4=> ?_
    rw[old _ (lt _ _ a1)]at ep
    rw[ep]at a1;cases a1
    obtain⟨o,hx⟩:=a2.some
    exact .inr ⟨h1,h2,ep,o,by rw[hpr,Jb ⟨a,c,p,h1,h2,ep,rfl⟩];exact hx⟩
   ·refine ui (R'.cell 0 _ h3) fun p' a1 a2 a3 a4=> ?_
    have hw:=nr a h1.symm p' a1 eS h2
    rw[old _ (lt _ _ hw),hw]at ep;cases ep
    exact .inl ⟨0,_,h3,a1,a4,.inr ⟨h1,rfl⟩⟩
  rcases key a ca p e ep with⟨i,eS,i1,i2,i3,i4⟩|⟨h1,h2,h3,o,h4⟩
  ·rcases key b cb q e' eq with⟨j,CA,j1,j2,j3,j4⟩|⟨h1',h2',h3',o',h4'⟩
   ·have hij:=R'.inj i j _ _ _ _ i1 j1 i2 j2 hpq
    subst hij
    rcases i4 with⟨x1,x2⟩|⟨x1,x2⟩<;>rcases j4 with⟨y1,y2⟩|⟨y1,y2⟩
    ·have hx:=(cU.mp x2).1
     have hy:=(cU.mp y2).1
     have:=(List.getElem?_inj hx hnd).mp (x2.trans y2.symm)
     omega
    ·subst y2
     exact absurd (bb x2) (h0 (by rw[<- y1];exact fun z=>by cases z))
    ·subst x2
     exact absurd (bb y2) (h0 (by rw[<- x1];exact fun z=>by cases z))
    ·exact aH (x1.trans y1.symm)
   ·rw[hpq,h4']at i3;cases i3
  ·rcases key b cb q e' eq with⟨j,CA,j1,j2,j3,j4⟩|⟨h1',h2',h3',o',h4'⟩
   ·rw[<- hpq,h4]at j3;cases j3
   ·exact R.inj a b _ _ _ _ h2 h2' h3 h3' hpq
end
end
section
variable{k:Nat}{C:PC}{W W' W'':Wd}{σ ai:AS}{h h':bO}
@[elab_as_elim] theorem anj {f:Nat->Option Nat} {ids:ac} {n:Nat} {cells:List (Nat×bJ)} {a b:AV} {ay aM:AS} {P:AS->Prop} (e:imp f ids n cells a ay=some (b,aM)) (kk:ids.Nodup->uN f a=some b-> ∀cs,XH f ay n ids=some cs->P ⟨n+ids.length,cs++cells⟩):P aM:=
 kS e fun q e=>oE e fun b' hb e=>oE e fun cs hc e=>s2 (P:=fun b aM=>uN f a=some b->P aM) e (fun hb=>kk (XY q) (s2 (P:=fun b _=>uN f a=some b) e hb) cs hc) (s2 (P:=fun b _=>uN f a=some b) e hb)
theorem jg{kF:Nat}{f:ah}{F:aW}{pick:AV->AS->List Nat}(hF:aF C kF f F):aF C kF f (vU pick F):=fun A Rm W σ s args vs Re hv tk a ai e=>kS e fun q e=>fR e fun xJ ay e1 e=>by
 refine anj e fun hnd hb cs hc=> ?_
 have R0:cC C (W.loc σ s.heap none) ⟨0,[]⟩ s.heap:=Re.loc (.inr rfl) fun a c e=>nn e
 refine eC (hF A Rm (W.loc σ s.heap none) ⟨0,[]⟩ s args vs R0 (x5 (W:=W) (W':=W.loc σ s.heap none) (fun _ _ e=>e) q hv) tk xJ ay e1) fun v s' ⟨hs,W',le,R',hv'⟩=> ?_
 refine ug (Re.imp le R' hnd (fun z=>absurd rfl z) (fun r z=>nn z) (fun i j e=>.inr (Te e)) hc fun a c e=>.inl ⟨(fun z=>nn z.symm),e⟩) fun l2 R2 h2=> ?_
 exact⟨hs,_,l2,R2,h2 _ _ _ hb hv'⟩
theorem ama(a:Nat)(c:bJ)(b:Nat)(cells:List (Nat×bJ)):lk b (lx a c cells)=if b=a then(lk a cells).map (fun _=>c)else lk b cells:=AS.get_set ⟨0,cells⟩ a c b
theorem al8{c d:bJ}{a:Nat}(e:lk a [(0,c)]=some d):a=0/\c=d:=by
 rw[nq]at e
 exact bE e (fun z e=>⟨aD z,aH e⟩) fun _ e=>nn e
theorem ad4{r n:Nat}{ids:ac}{i j:Nat}(e:XN r n ids i=some j):(∃r',some r=some r'/\i=0/\j=r')\/(n<=j/\ids[j-n]? =some i):=by
 cases i with
 |zero=>exact .inl ⟨j,e,rfl,rfl⟩
 |succ i=>exact .inr (Te e)
theorem al9{r a kk:Nat}{l:aa}{c:bJ}(hr:σ.get r=some (.orc kk l)){k':Nat}{l':aa}{o:Option bJ}(h0:o=some (.orc k' l'))(e:lk a (lx r (.orc k' l') σ.cells)=some c):
  (some a≠some r/\σ.get a=some c)\/(some a=some r/\(∃eS,σ.get a=some eS)/\(∃kk ll,c= .orc kk ll)/\o=some c):=by
 rw[ama]at e
 by_cases z:a=r
 ·subst z
  rw[if_pos rfl,show lk a σ.cells=some _ from hr]at e
  exact s1 (P:=fun c=>_\/(some a=some a/\(∃eS,σ.get a=some eS)/\(∃kk ll,c=bJ.orc kk ll)/\o=some c)) e (.inr ⟨rfl,⟨_,hr⟩,⟨_,_,rfl⟩,h0⟩)
 ·rw[if_neg z]at e
  exact .inl ⟨fun y=>z (aH y),e⟩
theorem n8{kF:Nat}{f:ah}{F:aW}{pick:AV->AS->List Nat}(hF:aF C kF f F):aF C kF f (ur pick F):=fun A Rm W σ s args vs Re hv tk a ai e=>by
 revert hv
 refine kJ e fun b as e=> ?_
 refine iA e fun r e=> ?_
 refine fun hv=>kS e fun q e=>F3 e fun kk l hr e=>fR e fun xJ ay e1 e=>F3 e fun k' l' h0 e=>kN e fun q0 e=> ?_
 refine anj e fun hnd hb cs hc=> ?_
 refine hv.consE fun v vr hv1 hv2=> ?_
 have R0:cC C (W.loc σ s.heap (some r)) ⟨1,[(0,.orc kk l)]⟩ s.heap:=Re.loc (.inl (ax _)) fun a c e=>let⟨z1,z2⟩:=al8 e;⟨z1,r,kk,l,rfl,z2.symm,z2▸hr⟩
 have hv1':V C (W.loc σ s.heap (some r)) (.ref 0) v:=hv1
 refine eC (hF A Rm (W.loc σ s.heap (some r)) ⟨1,[(0,.orc kk l)]⟩ s (.ref 0::as) (v::vr) R0 (VL.cons hv1' (x5 (W:=W) (W':=W.loc σ s.heap (some r)) (fun _ _ e=>e) q hv2)) tk xJ ay e1) fun v s' ⟨hs,W',le,R',hv'⟩=> ?_
 refine ug (Re.imp le R' hnd (fun _ z=>by rw[KV.mpr z]at q0;cases q0) (fun r' z=>⟨_,(aH z)▸hr⟩) (fun i j e=>ad4 e) hc (cells:=lx r (.orc k' l') σ.cells) fun a c e=>al9 hr h0 e) fun l2 R2 h2=> ?_
 exact⟨hs,_,l2,R2,h2 _ _ _ hb hv'⟩
theorem oF(a:Nat)(c c':bJ): ∀cells:List (Nat×bJ),lx a c (lx a c' cells)=lx a c cells
 |[]=>rfl
 |(b,d)::r=>by
  simp only[EQ]
  cases h:aj a b<;>simp[EQ,h,oF a c c' r]
theorem TP: ∀(cells:List (Nat×bJ)) (a:Nat) (c:bJ),lk a cells=some c->lx a c cells=cells
 |[],_,_,_=>rfl
 |(b,d)::r,a,c,h=>by
  simp only[nq]at h
  simp only[EQ]
  cases q:aj a b<;>rw[q]at h
  ·simp only[ae]at h ⊢;rw[TP r a c h]
  ·cases h;rw[aD q];rfl
theorem cC.conc(R:cC C W σ h){r kk:Nat}{l:aa}(hr:σ.get r=some (.orc kk l)): ∃c,C.conc kk l c/\cC C W (σ.set r c) h:=by
 obtain⟨p,a1,⟨c,q1,q2⟩,_⟩:=R.cell r _ hr
 exact⟨c,q1,R.set hr a1 (fun _ _ _ e=>e) q2.to⟩
theorem cC.abst(R:cC C W σ h){r kk:Nat}{l:aa}{c:bJ}(hr:σ.get r=some c)(hc:C.conc kk l c):cC C W (σ.set r (.orc kk l)) h:=by
 refine uh (R.cell r _ hr) fun p a1 a2 _=> ?_
 refine R.set hr a1 (fun _ _ _ e=>e) ⟨c,hc,a2.to0 ?_⟩
 have:=C.concFree _ _ _ hc
 cases c with
 |orc=>cases this
 |_=>rfl
theorem cC.sub{ai:AS}(R:cC C W σ h)(hn:σ.next<=ai.next)(hs: ∀a c,ai.get a=some c->σ.get a=some c):cC C W ai h:=
 ⟨R.base,R.im,R.pr,R.dis,fun a ha=>R.fresh a (au hn ha),fun a c e=>R.cell a c (hs a c e),fun a b ca cb p q e e'=>R.inj a b ca cb p q (hs _ _ e) (hs _ _ e')⟩
theorem uS{kF:Nat}{f:ah}{F F':aW}(hF:aF C kF f F)
  (H: ∀args σ a ai,F' args σ=some (a,ai)-> ∃r kk l,σ.get r=some (.orc kk l)/\ ∀c,C.conc kk l c->(∀b d,σ.get b=some d->b<σ.next)-> ∃ay CA Tk bD,F args (σ.set r c)=some (a,ay)/\ay.get r=some CA/\C.conc Tk bD CA/\ay.next<=ai.next/\
   ∀b d,ai.get b=some d->(b=r/\d= .orc Tk bD)\/(b≠r/\ay.get b=some d)):aF C kF f F':=fun A Rm W σ s args vs Re hv tk a ai e=>by
 refine Xo (H args σ a ai e) fun r kk l hr H=> ?_
 obtain⟨c,hc,R1⟩:=Re.conc hr
 have hlt: ∀b d,σ.get b=some d->b<σ.next:=fun b d hb=>by
  by_cases q:σ.next<=b
  ·refine eX (Re.cell b _ hb) fun p e _=> ?_
   rw[Re.fresh b q]at e;cases e
  ·omega
 obtain⟨ay,CA,Tk,bD,e1,e2,e3,e4,e5⟩:=H c hc hlt
 refine eC (hF A Rm W _ s args vs R1 hv tk a ay e1) fun v s' ⟨hs,W',le,R',hv'⟩=>⟨hs,W',le,(R'.abst e2 e3).sub e4 fun b d q=> ?_,hv'⟩
 rw[AS.get_set]
 rcases e5 b d q with⟨rfl,rfl⟩|⟨h1,h2⟩
 ·rw[if_pos rfl,e2];rfl
 ·rw[if_neg h1];exact h2
theorem aaV{kF:Nat}{f:ah}{F F':aW}(hF:aF C kF f F)(H: ∀args σ a ai,F' args σ=some (a,ai)->F args σ=some (a,ai)):aF C kF f F':=fun A Rm W σ s args vs Re hv tk a ai e=>hF A Rm W σ s args vs Re hv tk a ai (H _ _ _ _ e)
end
noncomputable def mV{β:Type}(a:AV)(f:Nat->List Nat->List AV->Option β):Option β:=match a with
 | .frz c ks vs=>f c ks vs
 |_=>none
@[elab_as_elim] theorem tb {β:Type} {a:AV} {Q:AV->Prop} {f:Nat->List Nat->List AV->Option β} {r:β} (h:mV a f=some r) (k: ∀c ks vs,f c ks vs=some r->Q (.frz c ks vs)):Q a:=by
 cases a with
 |frz c ks vs=>exact k c ks vs h
 |_=>exact nn h
def jL(l:aa):Nat->Option (Option AV):=bu (motive:=fun _=>Nat->Option (Option AV)) (fun _=>some none) (fun a _ ih k=>mV a fun c ks _=>bif aj c 0 then(bif CM ks then ih k else none)else hH (motive:=fun _=>Option (Option AV)) (some (some a)) (fun j _=>ih j) k) l
def rT(l:aa):Nat->Option (List AV):=bu (motive:=fun _=>Nat->Option (List AV)) (fun j=>hH (motive:=fun _=>Option (List AV)) (some []) (fun _ _=>none) j) (fun a r ih j=>hH (motive:=fun _=>Option (List AV)) (some (a::r)) (fun i _=>
 mV a fun c ks _=>bif aj c 0 then(bif CM ks then ih (i+1)else none)else hH (motive:=fun _=>Option (List AV)) (some r) (fun i' _=>ih (i'+1)) i) j) l
def pK(k:Nat)(t:AV):Option AV:=mV t fun c ks vs=>ob (NN c k ks vs) tp
noncomputable def pY:List Nat:=[110,117,109,98,101,114]
noncomputable def uQ:List Nat:=[119,111,114,100]
noncomputable def jo:List Nat:=[115,105,103,110]
noncomputable def Yx:List Nat:=[108,105,116,101,114,97,108]
def rd(σ:AS)(r:Nat):Option (List AV):=sC σ r fun d l=>bif aj d 1021 then some l else none
def qQ(l:aa)(k:Nat)(w:ac):Option Bool:=ob (jL l k) fun o=>od o (fun t=>ob (pK 2 t) fun v=>ek v fun s=>some (dm s w)) (some false)
def Q1(l:aa)(k:Nat)(w:ac):Option Bool:=ob (jL l k) fun o=>ob o fun t=>ob (pK 1 t) fun v=>ek v fun s=>some (dm s w)
def vP(l:aa)(k:Nat)(w s:ac):Option Bool:=ob (qQ l k w) fun b=>bif b then Q1 l k s else some false
def DQ(l:aa)(k:Nat)(ws:List (List Nat)):Option Bool:=bu (motive:=fun _=>Nat->Option Bool) (fun _=>some true) (fun w _ ih k=>ob (vP l k uQ w) fun b=>bif b then ih (k+1)else some false) ws k
noncomputable def okW(w:ac):Bool:=dB w.length&&dB (dv 32 [] w).length
def acv{β:Type}(l:aa)(f:Nat->Option β):Option β:=bu (motive:=fun _=>Option β) (f 0) (fun a r _=>bu (motive:=fun _=>Option β) (nU a f) (fun _ _ _=>none) r) l
@[elab_as_elim] theorem aaG {β:Type} {Q:List AV->Prop} {l:aa} {f:Nat->Option β} {r:β} (h:acv l f=some r) (k0:f 0=some r->Q []) (k1: ∀k,f k=some r->Q [.int (.ofNat k)]):Q l:=by
 cases l with
 |nil=>exact k0 h
 |cons a l=>cases l with
  |nil=>exact mm h k1
  |cons=>exact nn h
def self{β:Type}(args:aa)(σ:AS)(f:Nat->List AV->List AV->Option β):Option β:=rk args fun a as=>io a fun r=>ob (rd σ r) fun l=>f r as l
theorem ajm{σ:AS}{r:Nat}{l:aa}(h:rd σ r=some l):σ.get r=some (.orc 1021 l):=F3 h fun d l' e h=>kS h fun q h=>by
 rw[e,aD q];exact congrArg (fun l=>some (bJ.orc 1021 l)) (aH h)
@[elab_as_elim] theorem n7 {β:Type} {Q:List AV->Prop} {args:aa} {σ:AS} {f:Nat->List AV->List AV->Option β} {x:β} (h:self args σ f=some x) (k: ∀r as l,σ.get r=some (.orc 1021 l)->f r as l=some x->Q (.ref r::as)):Q args:=
 kJ h fun a as h=>iA (Q:=fun a=>Q (a::as)) h fun r h=>oE h fun l hl h=>k r as l (ajm hl) h
def KX{β:Type}(l:aa)(x:Option β):Option β:=bu (motive:=fun _=>Option β) x (fun _ _ _=>none) l
@[elab_as_elim] theorem Ar {β:Type} {Q:List AV->Prop} {l:aa} {x:Option β} {r:β} (h:KX l x=some r) (k:x=some r->Q []):Q l:=by
 cases l with
 |nil=>exact k h
 |cons a l=>exact nn h
def QJ{β:Type}(l:aa)(f:List Nat->List AV->Option β):Option β:=rk l fun a r=>ek a fun s=>f s r
@[elab_as_elim] theorem Lk {β:Type} {Q:List AV->Prop} {l:aa} {f:List Nat->List AV->Option β} {r:β} (h:QJ l f=some r) (k: ∀s m,f s m=some r->Q (.str s::m)):Q l:=
 kJ h fun a m h=>fT (Q:=fun a=>Q (a::m)) h fun s h=>k s m h
def Iq:aW:=fun args σ=>self args σ fun _ as l=>acv as fun k=>ob (jL l k) fun o=>some (od o some (some .none)|>.getD .none,σ)
def So:aW:=fun args σ=>self args σ fun _ as l=>QJ as fun _ bs=>KX bs (ob (jL l 0) fun o=>ob o fun t=>ob (pK 4 t) fun _=>some (.opq,σ))
def vz:aW:=fun args σ=>self args σ fun _ as l=>KX as (ob (jL l 0) fun o=>od o (fun _=>some (.bool false,σ)) (some (.bool true,σ)))
def Wn:aW:=fun args σ=>self args σ fun r as l=>KX as (ob (jL l 0) fun o=>ob o fun t=>ob (rT l 1) fun l'=>some (t,σ.set r (.orc 1021 l')))
def ajr(o:Option Bool)(σ:AS):Option (AV×AS):=ob o fun b=>some (.bool b,σ)
def LG:aW:=fun args σ=>self args σ fun _ as l=>QJ as fun w bs=>acv bs fun k=>ajr (qQ l k w) σ
def LH:aW:=fun args σ=>self args σ fun _ as l=>QJ as fun w bs=>acv bs fun k=>ajr (vP l k jo w) σ
def LK:aW:=fun args σ=>self args σ fun _ as l=>QJ as fun w bs=>KX bs (bif okW w then ajr (DQ l 0 (dv 32 [] w)) ⟨σ.next+1,σ.cells⟩else none)
def Wm:aW:=fun args σ=>self args σ fun r as l=>QJ as fun w bs=>KX bs (bif okW w then ob (DQ l 0 (dv 32 [] w)) (fun b=>bif b then ob (rT l (dv 32 [] w).length) (fun l'=>some (.bool true,⟨σ.next+2,lx r (.orc 1021 l') σ.cells⟩))else some (.bool false,⟨σ.next+1,σ.cells⟩))else none)
def Fz:aW:=fun args σ=>self args σ fun r as l=>QJ as fun w bs=>KX bs (ob (vP l 0 jo w) fun b=>bif b then ob (rT l 1) (fun l'=>some (.bool true,σ.set r (.orc 1021 l')))else some (.bool false,σ))
def uB(F:aW)(args:aa):Option AV:=bif aN args then bC (F args ⟨0,[]⟩) (fun a _=>bif noRef a then some a else none)else none
def wN(F:aW):aW:=fun args σ=>ob (uB F args) fun a=>some (a,σ)
noncomputable def UQ{β:Type}(a:AV)(x:Option β):Option β:=match a with
 | .bool b=>bif b then x else none
 |_=>none
theorem afE{β:Type}{a:AV}{x:Option β}{r:β}{P:Prop}(h:UQ a x=some r)(k:a= .bool true->x=some r->P):P:=by
 cases a with
 |bool b=>exact kS h fun hb h=>k (congrArg _ hb) h
 |_=>exact nn h
noncomputable def WY{β:Type}(a:AV)(f:List UInt8->Option β):Option β:=match a with
 | .bytes b=>f b
 |_=>none
theorem ac6{β:Type}{a:AV}{f:List UInt8->Option β}{r:β}{P:Prop}(h:WY a f=some r)(k: ∀b,a= .bytes b->f b=some r->P):P:=by
 cases a with
 |bytes b=>exact k b rfl h
 |_=>exact nn h
def V1{β:Type}(l:aa)(w:ac)(f:AV->List AV->Option β):Option β:=ob (qQ l 0 w) fun b=>bif b then ob (jL l 0) (fun o=>ob o fun t=>ob (pK 1 t) fun v=>ob (rT l 1) fun l'=>f v l')else none
def Sp(dec isw who:aW):aW:=fun args σ=>self args σ fun r as l=>KX as (V1 l pY fun w l'=>ob (uB dec [w]) fun d=>ob (uB isw [d]) fun b=>UQ b (ob (uB who [d]) fun n=>some (n,σ.set r (.orc 1021 l'))))
def Oo(oct:aW):aW:=fun args σ=>self args σ fun r as l=>KX as (V1 l Yx fun w l'=>ob (uB oct [w]) fun v=>WY v fun b=>some (.bytes b,σ.set r (.orc 1021 l')))
noncomputable def xpA(mac:List Nat->List AV)(a:AV)(r:aa):List AV:=match a with
 | .frz c ks _=>bif aj c 0 then mac ks++r else a::r
 |_=>a::r
noncomputable def xp(mac:List Nat->List AV):List AV->List AV
 |[]=>[]
 |a::r=>xpA mac a (xp mac r)
def EE:List AV->Bool
 |[]=>true
 |t::_=>(ob (pK 2 t) fun v=>ek v fun w=>some (!dm w pY)).getD false
def HM(a:AV):Bool:=(mV a fun c ks _=>some (aj c 0&&CM ks)).getD false
def vk(mac:List Nat->List AV):List AV->Prop
 |[]=>True
 |a::r=>(HM a=true->EE (xp mac r)=true)/\vk mac r
noncomputable def cW(L:aa)(m:Nat):bJ:=.inst 1021 [38,4,37,36] [.lst L,.int (.ofNat m),.opq,.opq]
def lL(mac:List Nat->List AV)(l:aa)(c:bJ):Prop:=vk mac l/\ ∃pre,dB (pre.length+(xp mac l).length)=true/\aN pre=true/\aN (xp mac l)=true/\c=cW (pre++xp mac l) pre.length
def cH:List Nat->Int->Prop
 |m::d::r,b=>0<m/\b.fmod (am m)=am d/\cH r (b.fdiv (am m))
 |_,_=>True
noncomputable def xb(bx:List Nat->List AV->List Nat):List AV->List Nat
 |[]=>[]
 |a::r=>match a with
  | .frz _ ks vs=>bx ks vs++xb bx r
  |_=>[]
def agb(bx:List Nat->List AV->List Nat)(VB:AV->Prop)(l:aa)(c:bJ):Prop:=(∀a∈l,VB a)/\ ∃b,c= .lst [.int b]/\cH (xb bx l) b
section
variable{mac:List Nat->List AV}
theorem L8(r:aa):rT r 0=some r:=by cases r<;>rfl
theorem ES{c:Nat}{ks:ac}{vs:aa}(r:aa):xp mac (.frz c ks vs::r)=bif aj c 0 then mac ks++xp mac r else .frz c ks vs::xp mac r:=rfl
theorem PS{l:ac}(h:CM l=true):l=[]:=by
 cases l with
 |nil=>rfl
 |cons=>exact ff h
theorem QY(h0:mac []=[]){l:aa}: ∀{k:Nat} {o:Option AV},jL l k=some o->(xp mac l)[k]? =o:=by
 induction l with
 |nil=>exact fun e=>s1 (P:=fun o=>none=o) e rfl
 |cons a r ih=>
  intro k o e
  refine tb (Q:=fun a'=>a'=a->(xp mac (a'::r))[k]? =o) e (fun c ks vs e ha=> ?_) rfl
  rw[ES]
  refine bE e (fun q e=> ?_) fun q e=> ?_
  ·rw[q]
   refine kS e fun q e=> ?_
   rw[PS q,af,h0];exact ih e
  ·rw[q]
   cases k with
   |zero=>exact s1 (P:=fun o=>(bif false then mac ks++xp mac r else AV.frz c ks vs::xp mac r)[0]? =o) e (congrArg some ha)
   |succ j=>exact ih e
theorem adk(h0:mac []=[]){l:aa}: ∀{j:Nat} {l':aa},vk mac l->rT l j=some l'->xp mac l'=(xp mac l).drop j/\j<=(xp mac l).length/\vk mac l':=by
 induction l with
 |nil=>
  intro j l' w e
  cases j with
  |zero=>exact s1 (P:=fun l'=>xp mac l'=[]/\0<=0/\vk mac l') e ⟨rfl,ax _,w⟩
  |succ j=>exact nn e
 |cons a r ih=>
  intro j l' w e
  cases j with
  |zero=>exact s1 (P:=fun l'=>xp mac l'=xp mac (a::r)/\0<=(xp mac (a::r)).length/\vk mac l') e ⟨rfl,aU _,w⟩
  |succ j=>
   refine tb (Q:=fun a'=>xp mac l'=(xp mac (a'::r)).drop (j+1)/\j+1<=(xp mac (a'::r)).length/\vk mac l') e fun c ks vs e=> ?_
   rw[ES]
   refine bE e (fun q e=> ?_) fun q e=> ?_
   ·rw[q]
    refine kS e fun q e=> ?_
    rw[PS q,af,h0];exact ih w.2 e
   ·rw[q]
    have e:rT r j=some l':=by
     cases j with
     |zero=>rw[L8];exact e
     |succ j=>exact e
    have:=ih w.2 e
    exact⟨this.1,be this.2.1,this.2.2⟩
end
def PH(sel:Nat->Bool)(n:Nat)(a:AV)(σ:AS):AV×AS:=(io a fun x=>CL σ x fun c ks vs=>some (pr (Tr sel (um sel n) ks vs (σ.drop x)) fun vs' ai=>(AV.ref x,(⟨ai.next,(x,.inst c ks vs')::ai.cells⟩:AS)))).getD (a,σ)
def Jk(g:AV->AS->AV×AS)(F:aW):aW:=fun args σ=>bC (F args σ) fun a ai=>some (g a ai)
noncomputable def dj(l:aa):Bool:=l.all fun a=>(mV a fun c _ _=>some (!aj c 0)).getD false
noncomputable def afC{β:Type}(a:AV)(f:List AV->Option β):Option β:=match a with
 | .lst l=>f l
 |_=>none
@[elab_as_elim] theorem alo {β:Type} {a:AV} {Q:AV->Prop} {f:List AV->Option β} {r:β} (h:afC a f=some r) (k: ∀l,f l=some r->Q (.lst l)):Q a:=by
 cases a with
 |lst l=>exact k l h
 |_=>exact nn h
def aah(vs:aa):Option (List AV):=rk vs fun a r=>rk r fun b r=>afC a fun L=>nU b fun n=>bif aj n 0 then vN r (fun _ _=>some L)else none
def anv(F:aW):aW:=fun args σ=>bC (F args σ) fun a ay=>io a fun x=>CL ay x fun c ks vs=>bif aj c 1021&&dm ks [38,4,37,36]then ob (aah vs) (fun L=>bif dB L.length&&aN L&&dj L then some (.ref x,ay.set x (.orc 1021 L))else none)else none
def drA{β:Type}(a:AV)(f:Nat->Nat->Option β):Option β:=mV a fun _ ks _=>rk ks fun m r=>rk r fun d r=>bif CM r then f m d else none
def BA:aW:=fun args σ=>vN args fun a b=>io a fun x=>nU b fun m=>sC σ x fun k l=>bif aj k 0 then rk l (fun t r=>drA t fun m' d=>bif aj m m'&&bw m 1000 then some (.int (.ofNat d),σ.set x (.orc 0 r))else none)else none
def afL(path:Int->List AV)(F:aW):aW:=fun args σ=>ri args fun a=>io a fun x=>nv σ x fun l=>ri l fun v=>eW v fun b=>F [.ref x] (σ.set x (.orc 0 (path b)))
def anq(c:Nat)(F:aW):gR:=fun a σ=>io a fun x=>sC σ x fun d _=>bif aj c d then some F else none
noncomputable def cp:Nat:=680
noncomputable def nE:Nat:=633
noncomputable def lK:Nat:=605
noncomputable def UX:Nat:=204
noncomputable def Zy:Nat:=706
noncomputable def names:List (List Nat):=[[70,49,45,82,69,67],
 [79,76,68,45,82,69,67],
 [87],
 [86,45,49],
 [65,82,71],
 [70,49,45,82,69,67,45,71],
 [79,76,68,45,82,69,67,45,71],
 [87,45,71],
 [86,45,49,45,71],
 [65,82,71,45,71],
 [70,73,76,76,69,82],
 [70,49,45,82,69,67,45,66],
 [79,76,68,45,82,69,67,45,66],
 [87,45,66],
 [86,45,49,45,66],
 [65,82,71,45,66],
 [76,79,87],
 [70,49,45,82,69,67,45,82],
 [79,76,68,45,82,69,67,45,82],
 [87,45,82],
 [86,45,49,45,82],
 [65,82,71,45,82],
 [72,73,71,72,45,79,78,69]]
def nm(i:Nat):List Nat:=(Ql names i).getD []
noncomputable def iY:List (Nat×Nat×Nat):=[(0,0,3),(0,1,3),(0,2,3),(0,3,3),(1,0,3),(1,1,3),(1,2,3),(1,3,3),(2,0,3),(2,1,3),(2,2,3),(2,3,3),(3,0,3),(3,1,3),(3,2,3),(3,3,3),(4,0,3),(4,1,3),(4,2,3),(4,3,3),(0,0,0),(0,0,1),(0,0,2),(0,1,0),(0,1,1),(0,1,2),(0,2,0),(0,2,1),(0,2,2),(0,3,0),(0,3,1),(0,3,2),(1,0,0),(1,0,1),(1,0,2),(1,1,0),(1,1,1),(1,1,2),(1,2,0),(1,2,1),(1,2,2),(1,3,0),(1,3,1),(1,3,2)]
noncomputable def dK:List (Nat×Nat×Nat):=[(5,0,3),(5,1,3),(5,2,3),(5,3,3),(6,0,3),(6,1,3),(6,2,3),(6,3,3),(7,0,3),(7,1,3),(7,2,3),(7,3,3),(8,0,3),(8,1,3),(8,2,3),(8,3,3),(9,0,3),(9,1,3),(9,2,3),(9,3,3),(10,0,0),(10,0,1),(10,0,2),(10,1,0),(10,1,1),(10,1,2),(10,2,0),(10,2,1),(10,2,2),(10,3,0),(10,3,1),(10,3,2),(11,0,0),(11,0,1),(11,0,2),(11,1,0),(11,1,1),(11,1,2),(11,2,0),(11,2,1),(11,2,2),(11,3,0),(11,3,1),(11,3,2),(12,0,0),(12,0,1),(12,0,2),(12,1,0),(12,1,1),(12,1,2),(12,2,0),(12,2,1),(12,2,2),(12,3,0),(12,3,1),(12,3,2),(13,0,0),(13,0,1),(13,0,2),(13,1,0),(13,1,1),(13,1,2),(13,2,0),(13,2,1),(13,2,2),(13,3,0),(13,3,1),(13,3,2),(14,0,0),(14,0,1),(14,0,2),(14,1,0),(14,1,1),(14,1,2),(14,2,0),(14,2,1),(14,2,2),(14,3,0),(14,3,1),(14,3,2),(15,0,0),(15,0,1),(15,0,2),(15,1,0),(15,1,1),(15,1,2),(15,2,0),(15,2,1),(15,2,2),(15,3,0),(15,3,1),(15,3,2)]
noncomputable def sA:List (Nat×Nat×Nat):=[(16,0,0),(16,0,1),(16,0,2),(16,1,0),(16,1,1),(16,1,2),(16,2,0),(16,2,1),(16,2,2),(16,3,0),(16,3,1),(16,3,2)]
noncomputable def gG:List (Nat×Nat×Nat):=[(2,0,0),(2,0,1),(2,0,2),(2,1,0),(2,1,1),(2,1,2),(2,2,0),(2,2,1),(2,2,2),(2,3,0),(2,3,1),(2,3,2),(3,0,0),(3,0,1),(3,0,2),(3,1,0),(3,1,1),(3,1,2),(3,2,0),(3,2,1),(3,2,2),(3,3,0),(3,3,1),(3,3,2),(4,0,0),(4,0,1),(4,0,2),(4,1,0),(4,1,1),(4,1,2),(4,2,0),(4,2,1),(4,2,2),(4,3,0),(4,3,1),(4,3,2)]
noncomputable def kT(lvl:Nat):List (Nat×Nat×Nat):=bif aj lvl 1 then iY else bif aj lvl 5 then dK else bif aj lvl 10 then sA else gG
def kd(lvl i:Nat):Nat×Nat×Nat:=(Ql (kT lvl) i).getD ((Ql (kT lvl) 0).getD (0,0,3))
noncomputable def anF(w:Nat):List Nat:=bif aj w 1 then[112,97,99,107,101,100]else[]
noncomputable def Qn(w:Nat):AV:=bif aj w 2 then .frz lK [8,9,7,6,5] [.int 3,.int 3,.none,.tup [.tup [.bool false,.str [75]]],.tup [.str [73,88]]]
 else bif aj w 3 then .frz lK [8,9,7,6,5] [.int 0,.int 4,.tup [.str [114,101,102],.str [78],.tup [.str [71]],.tup [],.none],.tup [],.tup []]else .none
noncomputable def x7(p:Nat):AV:=bif aj p 0 then .str [88,40,52,41]else bif aj p 1 then .str [83,57,40,51,41,86,57,57]else bif aj p 2 then .str [90,90,57,46,57,57]else .none
noncomputable def gg:List Nat:=[20,18,16,15,10,35,14,17,11,13,12,23,22,34,21,33,32,31,30]
def j9(x:Nat×Nat×Nat)(conds kids par ren:AV):List AV:=[.str (nm x.1),x7 x.2.2,.str (anF x.2.1),.str [],.bool false,Qn x.2.1,.str [],.none,.bool false,.bool false,conds,kids,par,ren,.str [],.int 0,.int 0,.none]
def XK(lvl i:Nat)(conds kids par:AV):List AV:=.int (am lvl)::j9 (kd lvl i) conds kids par .none
def qt(n:Nat):AV:=.frz nE [18,19] [.str ([73,83,45]++nm n),.tup [.tup [.tup [.str [110,117,109,98,101,114],.tup [.int (-5),.int 0]],.tup [.str [110,117,109,98,101,114],.tup [.int 125,.int 2]]],.tup [.tup [.str [116,101,120,116],.bytes [113]],.none]]]
def ye(l:Nat):AV:=.tup [.str (nm 16),bif aj l 0 then .none else .str (nm 22)]
def ke(n l:Nat)(par:AV):List AV:=.int 66::[.str (nm n),.none,.str [],.str [],.bool false,.none,.str [],.none,.bool false,.bool false,.lst [],.lst [],par,ye l,.str [],.int 0,.int 0,.none]
noncomputable def nX(_:AV)(_:AS):List Nat:=[]
noncomputable def aaL(a:AV)(_:AS):List Nat:=(io a fun x=>some [x]).getD []
def rfO(o:Option AV):Option Nat:=ob o fun a=>io a some
def wM(a:AV)(σ:AS):List Nat:=(io a fun x=>CL σ x fun _ ks vs=>od (rfO (xS 22 ks vs)) (fun k=>od (rfO (xS 23 ks vs)) (fun c=>some [c,k,x]) (some [k,x])) (some [x])).getD []
noncomputable def ack{β:Type}(a:AV)(f:List Nat->Option β):Option β:=mV a fun c ks _=>bif aj c 0 then f ks else none
def aaw(σ:AS)(r:Nat)(l:aa)(cd:aa)(f:AV->AV->List AV):Option (AV×AS):=some (.ref (σ.next+2),⟨σ.next+3,(σ.next,.lst cd)::(σ.next+1,.lst [])::(σ.next+2,.inst cp gg (f (.ref σ.next) (.ref (σ.next+1))))::lx r (.orc 1021 l) σ.cells⟩)
def aim(n:Nat)(a b:AV):List AV:=.int 88::[.str ([73,83,45]++nm n),.none,.str [],.str [],.bool false,.none,.str [],.none,.bool false,.bool false,a,b,.none,.none,.str [],.int 0,.int 0,.none]
def aiN(n l:Nat)(a b:AV):List AV:=.int 66::[.str (nm n),.none,.str [],.str [],.bool false,.none,.str [],.none,.bool false,.bool false,a,b,.none,ye l,.str [],.int 0,.int 0,.none]
def ajn(σ:AS)(r:Nat)(l:aa)(m x y:Nat):Option (AV×AS):=bif aj m 1 then aaw σ r l [] (fun a b=>XK x y a b .none)else bif aj m 2 then aaw σ r l [qt (kd x y).1] (aim (kd x y).1)else bif aj m 3 then aaw σ r l [] (aiN (17+(kd 1 x).1) y)else none
def Lo{β:Type}(ks:ac)(f:Nat->Nat->Nat->Option β):Option β:=rk ks fun m ks=>rk ks fun x ks=>rk ks fun y ks=>bif CM ks then f m x y else none
def wz:aW:=fun args σ=>self args σ fun r as L=>KX as (rk L fun t l=>ack t fun ks=>Lo ks (ajn σ r l))
noncomputable def aop(σ:AS)(m:Nat):Option (AV×AS):=bif cX 1 m&&cX m 3 then some (.bool true,σ)else none
def qf:aW:=fun args σ=>self args σ fun _ as L=>KX as (bu (motive:=fun _=>Option (AV×AS)) (some (.bool false,σ)) (fun t _ _=>ack t fun ks=>bif CM ks then some (.bool false,σ)else Lo ks fun m _ _=>aop σ m) L)
structure Lf where
 i:Nat
 c:Bool
inductive Tn where
 |leaf(l:Lf)
 |grp(g a:Lf)
 |grp2(g a b:Lf)
structure Rt where
 lvl:Nat
 it:Lf
 ts:List Tn
 ren:Nat
noncomputable def U2(c:Bool):Nat:=bif c then 1 else 0
noncomputable def Xr(l:Lf):List Nat:=[l.i,U2 l.c]
noncomputable def ZT:Tn->List Nat
 | .leaf l=>0::Xr l
 | .grp g a=>1::(Xr g++Xr a)
 | .grp2 g a b=>2::(Xr g++Xr a++Xr b)
noncomputable def Xs(r:Rt):List Nat:=r.lvl::(Xr r.it++r.ren::(r.ts.map ZT).flatten)
noncomputable def Hg(n:Nat):Bool:=aj n 1
noncomputable def U1:Nat->List Nat->List Tn
 |0,_=>[]
 |n+1,l=>match l with
  |0::i::c::r=>.leaf ⟨i,Hg c⟩::U1 n r
  |1::i::c::j::d::r=>.grp ⟨i,Hg c⟩ ⟨j,Hg d⟩::U1 n r
  |2::i::c::j::d::k::e::r=>.grp2 ⟨i,Hg c⟩ ⟨j,Hg d⟩ ⟨k,Hg e⟩::U1 n r
  |_=>[]
noncomputable def Bk(l:ac):Rt:=match l with
 |lvl::i::c::ren::r=>⟨lvl,⟨i,Hg c⟩,U1 8 r,ren⟩
 |_=>⟨77,⟨0,false⟩,[],0⟩
theorem zk(c:Bool):Hg (U2 c)=c:=by cases c<;>rfl
theorem abT: ∀(ts:List Tn) (n:Nat),ts.length<=n->U1 n (ts.map ZT).flatten=ts
 |[],0,_=>rfl
 |[],n+1,_=>rfl
 |t::ts,n+1,h=>by
  have ih:=abT ts n (nd h)
  cases t with
  |leaf l=>
   show Tn.leaf ⟨l.i,Hg (U2 l.c)⟩::U1 n (ts.map ZT).flatten=_
   rw[ih,zk]
  |grp g a=>
   show Tn.grp ⟨g.i,Hg (U2 g.c)⟩ ⟨a.i,Hg (U2 a.c)⟩::U1 n (ts.map ZT).flatten=_
   rw[ih,zk,zk]
  |grp2 g a b=>
   show Tn.grp2 ⟨g.i,Hg (U2 g.c)⟩ ⟨a.i,Hg (U2 a.c)⟩ ⟨b.i,Hg (U2 b.c)⟩::U1 n (ts.map ZT).flatten=_
   rw[ih,zk,zk,zk]
theorem NK(r:Rt)(h:r.ts.length<=8):Bk (Xs r)=r:=by
 show(⟨r.lvl,⟨r.it.i,Hg (U2 r.it.c)⟩,U1 8 (r.ts.map ZT).flatten,r.ren⟩:Rt)=r
 rw[abT _ _ h,zk]
noncomputable def e1(lvl i:Nat):AV:=.frz 0 [1,lvl,i] []
noncomputable def e2(lvl i:Nat):AV:=.frz 0 [2,lvl,i] []
noncomputable def e3(i l:Nat):AV:=.frz 0 [3,i,l] []
noncomputable def YN:AV:=.frz 0 [] []
def j7(lvl:Nat)(l:Lf):Nat:=(kd lvl l.i).1
noncomputable def CC(lvl:Nat)(l:Lf):List AV:=e1 lvl l.i::(match l.c with
 |true=>[e2 lvl l.i]
 |false=>[])
noncomputable def ags:Tn->List AV
 | .leaf l=>CC 5 l
 | .grp g a=>CC 5 g++CC 10 a
 | .grp2 g a b=>CC 5 g++(CC 10 a++CC 10 b)
noncomputable def U4:List Tn->List AV
 |[]=>[]
 |t::ts=>ags t++U4 ts
noncomputable def agr(r:Rt):List AV:=match r.ren with
 |0=>[]
 |l+1=>[e3 r.it.i l]
noncomputable def FU(r:Rt):List AV:=CC r.lvl r.it++(U4 r.ts++agr r)
def conds(lvl:Nat)(l:Lf):AV:=.lst (match l.c with
 |true=>[qt (j7 lvl l)]
 |false=>[])
def ou(lvl:Nat)(l:Lf)(par:AV):AV:=.frz cp gg (XK lvl l.i (conds lvl l) (.lst []) par)
def sO:Tn->AV
 | .leaf l=>ou 5 l .opq
 | .grp g a=>.frz cp gg (XK 5 g.i (conds 5 g) (.lst [ou 10 a .opq]) .opq)
 | .grp2 g a b=>.frz cp gg (XK 5 g.i (conds 5 g) (.lst [ou 10 a .opq,ou 10 b .opq]) .opq)
def DL:List Tn->List AV
 |[]=>[]
 |t::ts=>sO t::DL ts
def qS(r:Rt):List AV:=match r.ren with
 |0=>[]
 |l+1=>[.frz cp gg (ke (17+j7 1 r.it) l .opq)]
def Dr(r:Rt):List AV:=j9 (kd r.lvl r.it.i) (conds r.lvl r.it) (.lst (DL r.ts++qS r)) .none .none
def d9(r:Rt):AV:=.frz cp gg (.int (am r.lvl)::Dr r)
noncomputable def ajB(k:Nat):Bool:=aj k 22||(aj k 23||aj k 34)
noncomputable def anx(k:Nat):Bool:=aj k 23
noncomputable def anz(k:Nat):Bool:=(cX 24 k&&cX k 27)||(aj k 5||ajB k)
def nz:aW:=fun args σ=>self args σ fun r as L=>KX as (rk L fun t L=>rk L fun t' l=>bif HM t' then ack t (fun ks=>rk ks fun m ks=>bif aj m 4 then rk ks (fun lvl code=>some (.lst [.frz cp gg (.int (am lvl)::Dr (Bk (lvl::code)))],σ.set r (.orc 1021 l)))else none)else none)
def I1(x:ac):List (List Nat)->Nat->Nat
 |[],i=>i
 |a::r,i=>bif dm a x then i else I1 x r (i+1)
noncomputable def m7(d:Nat):Nat:=bif aj d 4 then 0 else d
noncomputable def Fp(lvl n w p:Nat):Nat:=bif aj p 3 then(bif aj lvl 1 then 4*n+w else 4*(n-5)+w)
 else bif aj lvl 1 then 20+12*n+3*w+p else bif aj lvl 5 then 20+12*(n-10)+3*w+p else bif aj lvl 10 then 3*w+p else 12*(n-2)+3*w+p
noncomputable def CO(d:Nat):Bool:=aj d 0
noncomputable def P0(lvl n:Nat):Nat:=bif aj lvl 77&&cX n 1 then 1 else lvl
noncomputable def Vv(lvl n:Nat):Bool:=(aj lvl 1&&bw n 5)||(aj lvl 5&&(cX 5 n&&bw n 10))
noncomputable def Vw(lvl n:Nat):Bool:=(aj lvl 77&&bw n 5)||((aj lvl 5&&(cX 10 n&&bw n 16))||(aj lvl 10&&aj n 16))
def abD{β:Type}(σ:AS)(x:Nat)(f:Nat->List Nat->List AV->Option β):Option β:=sC σ x fun k l=>bif aj k 0 then rk l (fun t r=>mV t fun _ ks _=>rk ks fun m ks=>f m ks r)else none
def ail(σ:AS)(x:Nat)(r:aa)(lvl L:Nat)(f:Lf):Option (AV×AS):=some (.ref (σ.next+1),⟨σ.next+2,(σ.next,.lst [])::(σ.next+1,.inst cp gg (.int (am lvl)::j9 (kd L f.i) (conds L f) (.ref σ.next) .none .none))::lx x (.orc 0 r) σ.cells⟩)
def ap9(σ:AS)(x lvl:Nat)(s:ac)(n:Nat):Option (AV×AS):=bif dm (nm n) s&&Vv lvl n then abD σ x (fun m ks r=>bif aj m 5 then rk ks (fun d ks=>rk ks fun e ks=>bif CM ks then ail σ x r lvl lvl ⟨Fp lvl n (m7 d) 3,CO e⟩else none)else none)else none
def BB:aW:=fun args σ=>WX args fun a b d=>io a fun x=>nU b fun lvl=>ek d fun s=>ap9 σ x lvl s (I1 s names 0)
def aqa(σ:AS)(x lvl:Nat)(s:ac)(n L:Nat):Option (AV×AS):=bif dm (nm n) s&&Vw lvl n then abD σ x (fun m ks r=>bif aj m 6 then Lo ks (fun d e p=>ail σ x r lvl L ⟨Fp L n (m7 d) p,CO e⟩)else none)else none
def BC:aW:=fun args σ=>WX args fun a b d=>io a fun x=>nU b fun lvl=>ek d fun s=>aqa σ x lvl s (I1 s names 0) (P0 lvl (I1 s names 0))
def BD:aW:=fun args σ=>vN args fun a d=>io a fun x=>ek d fun s=>abD σ x fun m ks r=>bif aj m 9 then rk ks (fun n ks=>rk ks fun lv code=>bif dm (nm n) s then some (.ref σ.next,⟨σ.next+1,(σ.next,.inst cp gg (.int (am lv)::Dr (Bk code)))::lx x (.orc 0 r) σ.cells⟩)else none)else none
structure LD where
 d:Nat
 e:Nat
 p:Nat
inductive TD where
 |leaf(z nb:Nat)(l:LD)
 |grp(d e:Nat)(a:LD)
 |grp2(d e:Nat)(a b:LD)
inductive RD where
 |alone(l:LD)
 |std(a d e:Nat)(ts:List TD)(q:Nat)
 |recR(a d e:Nat)(ts:List TD)(l:Nat)
noncomputable def Qa(l:LD):List Nat:=[5,l.d,4,l.e,3,l.p]
noncomputable def tdD:TD->List Nat
 | .leaf z nb l=>3::(z+1)::2::nb::Qa l
 | .grp d e a=>3::0::5::d::4::e::2::0::Qa a
 | .grp2 d e a b=>3::0::5::d::4::e::2::1::(Qa a++Qa b)
noncomputable def AX:List TD->List Nat
 |[]=>[]
 |t::ts=>tdD t++AX ts
noncomputable def Jq:RD->List Nat
 | .alone l=>4::0::Qa l
 | .std a d e ts q=>4::(a+1)::5::d::4::e::3::ts.length::(AX ts++[4,q+1])
 | .recR a d e ts l=>4::(a+1)::5::d::4::e::3::ts.length::(AX ts++[4,0,2,l])
noncomputable def m2(m d:Nat):AV:=.frz 0 [m,d] []
noncomputable def m5(d e:Nat):AV:=.frz 0 [5,d,e] []
noncomputable def m6(l:LD):AV:=.frz 0 [6,l.d,l.e,l.p] []
noncomputable def tdM:TD->List AV
 | .leaf z nb l=>[m2 3 (z+1),m2 2 nb,m6 l]
 | .grp d e a=>[m2 3 0,m5 d e,m2 2 0,m6 a]
 | .grp2 d e a b=>[m2 3 0,m5 d e,m2 2 1,m6 a,m6 b]
noncomputable def Mz:List TD->List AV
 |[]=>[]
 |t::ts=>tdM t++Mz ts
noncomputable def rdM:RD->List AV
 | .alone l=>[m2 4 0,m6 l]
 | .std a d e ts q=>m2 4 (a+1)::m5 d e::m2 3 ts.length::(Mz ts++[m2 4 (q+1)])
 | .recR a d e ts l=>m2 4 (a+1)::m5 d e::m2 3 ts.length::(Mz ts++[m2 4 0,m2 2 l])
noncomputable def Tm(lvl n:Nat)(l:LD):Lf:=⟨Fp lvl n (m7 l.d) l.p,CO l.e⟩
noncomputable def acf(lvl n d e:Nat):Lf:=⟨Fp lvl n (m7 d) 3,CO e⟩
noncomputable def aqM(n:Nat):TD->Tn
 | .leaf _ nb l=>.leaf (Tm 5 (match nb with
  |0=>10
  |_=>11+n) l)
 | .grp d e a=>.grp (acf 5 (5+n) d e) (Tm 10 16 a)
 | .grp2 d e a b=>.grp2 (acf 5 (5+n) d e) (Tm 10 16 a) (Tm 10 16 b)
noncomputable def HT(n:Nat):List TD->List Tn
 |[]=>[]
 |t::ts=>aqM n t::HT n ts
noncomputable def jC(n:Nat):RD->Rt
 | .alone l=>⟨P0 77 n,Tm (P0 77 n) n l,[],0⟩
 | .std _ d e ts _=>⟨1,acf 1 n d e,HT n ts,0⟩
 | .recR _ d e ts l=>⟨1,acf 1 n d e,HT n ts,l+1⟩
noncomputable def RY:RD->Nat
 | .alone _=>77
 |_=>1
def Au:TD->Prop
 | .leaf _ nb _=>nb<2
 |_=>True
def C6:RD->Prop
 | .alone _=>True
 | .std _ _ _ ts _=>ts.length<=2/\ ∀t∈ts,Au t
 | .recR _ _ _ ts l=>ts.length<=2/\(∀t∈ts,Au t)/\l<2
noncomputable def m9(n:Nat)(rd:RD):AV:=.frz 0 (9::n::RY rd::Xs (jC n rd)) [.frz 0 (Jq rd) []]
noncomputable def bx(ks:ac)(vs:aa):List Nat:=match ks with
 |[m,d]=>[m,d]
 |[5,d,e]=>[5,d,4,e]
 |[6,d,e,p]=>[5,d,4,e,3,p]
 |9::_=>(match vs with
  |[.frz _ raw _]=>raw
  |_=>[])
 |_=>[]
def VB(a:AV):Prop:=match a with
 | .frz _ (9::r) _=> ∃n rd,a=m9 n rd/\n<5/\C6 rd
 |_=>True
noncomputable def hU(m:Nat)(b:Int):Nat:=(b.fmod (am m)).toNat
noncomputable def bV(m:Nat)(b:Int):Int:=b.fdiv (am m)
theorem jO{m:Nat}(hm:0<m){b:Int}{r:ac}(h:cH r (bV m b)):cH (m::hU m b::r) b:=by
 refine⟨hm,?_,h⟩
 have:0<=b.fmod (am m):=m8 b (by simpa using hm)
 unfold hU
 exact(Bd this).symm
theorem jd{m d:Nat}(hm:0<m){b:Int}{r:ac}(hd:hU m b=d)(h:cH r (bV m b)):cH (m::d::r) b:=hd▸jO hm h
theorem mq{m:Nat}(hm:0<m)(b:Int):hU m b<m:=by
 have h1:b.fmod (am m)<am m:=q7 b (by simpa using hm)
 have h0:0<=b.fmod (am m):=m8 b (by simpa using hm)
 unfold hU
 have:=Bd h0
 have h2:(am m)=(m:Int):=rfl
 omega
noncomputable def ldP(b:Int):LD:=⟨hU 5 b,hU 4 (bV 5 b),hU 3 (bV 4 (bV 5 b))⟩
noncomputable def ldN(b:Int):Int:=bV 3 (bV 4 (bV 5 b))
theorem Qb{b:Int}{r:ac}(h:cH r (ldN b)):cH (Qa (ldP b)++r) b:=
 jO (by decide) (jO (by decide) (jO (by decide) h))
noncomputable def R9(b:Int):TD×Int:=match hU 3 b with
 |z+1=>(.leaf z (hU 2 (bV 3 b)) (ldP (bV 2 (bV 3 b))),ldN (bV 2 (bV 3 b)))
 |0=>match hU 2 (bV 4 (bV 5 (bV 3 b)))with
  |0=>(.grp (hU 5 (bV 3 b)) (hU 4 (bV 5 (bV 3 b))) (ldP (bV 2 (bV 4 (bV 5 (bV 3 b))))),ldN (bV 2 (bV 4 (bV 5 (bV 3 b)))))
  |_+1=>(.grp2 (hU 5 (bV 3 b)) (hU 4 (bV 5 (bV 3 b))) (ldP (bV 2 (bV 4 (bV 5 (bV 3 b))))) (ldP (ldN (bV 2 (bV 4 (bV 5 (bV 3 b)))))),ldN (ldN (bV 2 (bV 4 (bV 5 (bV 3 b))))))
theorem apx{b:Int}{r:ac}(h:cH r (R9 b).2):cH (tdD (R9 b).1++r) b/\Au (R9 b).1:=by
 unfold R9 at h ⊢
 split at h
 ·rename_i z hz
  refine⟨?_,mq (by decide) _⟩
  show cH (3::(z+1)::2::_::(Qa _++r)) b
  exact jd (by decide) hz (jO (by decide) (Qb h))
 ·rename_i hz
  split at h
  ·rename_i hk
   refine⟨?_,trivial⟩
   show cH (3::0::5::_::4::_::2::0::(Qa _++r)) b
   refine jd (by decide) hz (jO (by decide) (jO (by decide) ?_))
   exact jd (by decide) hk (Qb h)
  ·rename_i n hk
   have hn:n=0:=by
    have:=mq (m:=2) (by decide) (bV 4 (bV 5 (bV 3 b)))
    omega
   subst hn
   refine⟨?_,trivial⟩
   show cH (3::0::5::_::4::_::2::1::((Qa _++Qa _)++r)) b
   refine jd (by decide) hz (jO (by decide) (jO (by decide) ?_))
   refine jd (by decide) hk ?_
   rw[aB]
   exact Qb (Qb h)
noncomputable def sN:Nat->Int->List TD×Int
 |0,b=>([],b)
 |n+1,b=>((R9 b).1::(sN n (R9 b).2).1,(sN n (R9 b).2).2)
theorem VX: ∀(n:Nat) {b:Int} {r:ac},cH r (sN n b).2->cH (AX (sN n b).1++r) b/\(sN n b).1.length=n/\ ∀t∈(sN n b).1,Au t
 |0,b,r,h=>⟨h,rfl,fun _ ht=>by cases ht⟩
 |n+1,b,r,h=>by
  obtain⟨h1,h2,h3⟩:=VX n (b:=(R9 b).2) h
  obtain⟨h4,h5⟩:=apx h1
  refine⟨?_,congrArg nP h2,fun t ht=> ?_⟩
  ·show cH ((tdD (R9 b).1++AX (sN n (R9 b).2).1)++r) b
   rw[aB];exact h4
  ·rcases aG.mp ht with rfl|ht
   ·exact h5
   ·exact h3 t ht
noncomputable def Bl(b:Int):RD×Int:=match hU 4 b with
 |0=>(.alone (ldP (bV 4 b)),ldN (bV 4 b))
 |a+1=>match sN (hU 3 (bV 4 (bV 5 (bV 4 b)))) (bV 3 (bV 4 (bV 5 (bV 4 b))))with
  |(ts,b')=>match hU 4 b' with
   |0=>(.recR a (hU 5 (bV 4 b)) (hU 4 (bV 5 (bV 4 b))) ts (hU 2 (bV 4 b')),bV 2 (bV 4 b'))
   |q+1=>(.std a (hU 5 (bV 4 b)) (hU 4 (bV 5 (bV 4 b))) ts q,bV 4 b')
theorem K9{b:Int}{r:ac}(h:cH r (Bl b).2):cH (Jq (Bl b).1++r) b/\C6 (Bl b).1:=by
 unfold Bl at h ⊢
 split at h
 ·rename_i hz
  refine⟨?_,trivial⟩
  show cH (4::0::(Qa _++r)) b
  exact jd (by decide) hz (Qb h)
 ·rename_i a hz
  have key: ∀r',cH r' (sN (hU 3 (bV 4 (bV 5 (bV 4 b)))) (bV 3 (bV 4 (bV 5 (bV 4 b))))).2->cH (4::(a+1)::5::hU 5 (bV 4 b)::4::hU 4 (bV 5 (bV 4 b))::3::(sN (hU 3 (bV 4 (bV 5 (bV 4 b)))) (bV 3 (bV 4 (bV 5 (bV 4 b))))).1.length::(AX (sN (hU 3 (bV 4 (bV 5 (bV 4 b)))) (bV 3 (bV 4 (bV 5 (bV 4 b))))).1++r')) b:=fun r' h'=>by
   obtain⟨h1,h2,h3⟩:=VX _ h'
   rw[h2]
   exact jd (by decide) hz (jO (by decide) (jO (by decide) (jO (by decide) h1)))
  have lens:(sN (hU 3 (bV 4 (bV 5 (bV 4 b)))) (bV 3 (bV 4 (bV 5 (bV 4 b))))).1.length <=2/\ ∀t∈(sN (hU 3 (bV 4 (bV 5 (bV 4 b)))) (bV 3 (bV 4 (bV 5 (bV 4 b))))).1,Au t:=by
   obtain⟨_,h2,h3⟩:=VX (hU 3 (bV 4 (bV 5 (bV 4 b)))) (b:=bV 3 (bV 4 (bV 5 (bV 4 b)))) (r:=[]) trivial
   exact⟨by rw[h2];have:=mq (m:=3) (by decide) (bV 4 (bV 5 (bV 4 b)));omega,h3⟩
  generalize sN (hU 3 (bV 4 (bV 5 (bV 4 b)))) (bV 3 (bV 4 (bV 5 (bV 4 b))))=p at h key lens ⊢
  obtain⟨ts,b'⟩:=p
  dsimp only at h key lens ⊢
  split at h
  ·rename_i hq
   refine⟨?_,lens.1,lens.2,mq (by decide) _⟩
   show cH (4::(a+1)::5::_::4::_::3::ts.length::((AX ts++[4,0,2,_])++r)) b
   rw[aB]
   refine key _ ?_
   show cH (4::0::2::_::r) b'
   exact jd (by decide) hq (jO (by decide) h)
  ·rename_i q hq
   refine⟨?_,lens.1,lens.2⟩
   show cH (4::(a+1)::5::_::4::_::3::ts.length::((AX ts++[4,q+1])++r)) b
   rw[aB]
   refine key _ ?_
   show cH (4::(q+1)::r) b'
   exact jd (by decide) hq h
inductive FD where
 |none
 |one(o:Bool)(rd:RD)(s:Nat)
inductive WD where
 |none
 |one(v:Bool)(rd:RD)
structure DD where
 f:FD
 w:WD
 l:RD
 k:Nat
noncomputable def fnI(o:Bool):Nat:=match o with
 |true=>1
 |false=>0
noncomputable def wnI(v:Bool):Nat:=match v with
 |true=>3
 |false=>2
noncomputable def fdM:FD->List AV
 | .none=>[m2 3 1]
 | .one o rd s=>[m2 3 (match o with
  |true=>2
  |false=>0),m9 (fnI o) rd,m2 2 s]
noncomputable def wdM:WD->List AV
 | .none=>[m2 3 2]
 | .one v rd=>[m2 3 (match v with
  |true=>1
  |false=>0),m9 (wnI v) rd]
noncomputable def ddM(x:DD):List AV:=fdM x.f++(wdM x.w++[m9 4 x.l,m2 2 x.k])
noncomputable def IX(b:Int):FD×Int:=match hU 3 b with
 |0=>(.one false (Bl (bV 3 b)).1 (hU 2 (Bl (bV 3 b)).2),bV 2 (Bl (bV 3 b)).2)
 |1=>(.none,bV 3 b)
 |_=>(.one true (Bl (bV 3 b)).1 (hU 2 (Bl (bV 3 b)).2),bV 2 (Bl (bV 3 b)).2)
noncomputable def QZ(b:Int):WD×Int:=match hU 3 b with
 |0=>(.one false (Bl (bV 3 b)).1,(Bl (bV 3 b)).2)
 |1=>(.one true (Bl (bV 3 b)).1,(Bl (bV 3 b)).2)
 |_=>(.none,bV 3 b)
noncomputable def Pr(b:Int):DD:=⟨(IX b).1,(QZ (IX b).2).1,(Bl (QZ (IX b).2).2).1,hU 2 (Bl (QZ (IX b).2).2).2⟩
def ant:FD->Prop
 | .none=>True
 | .one _ rd s=>C6 rd/\s<2
def anu:WD->Prop
 | .none=>True
 | .one _ rd=>C6 rd
def ans(x:DD):Prop:=ant x.f/\anu x.w/\C6 x.l/\x.k<2
noncomputable def zw(b:Int):List AV:=ddM (Pr b)
theorem aoe{b:Int}{l:aa}(h:cH (xb bx l) (IX b).2):cH (xb bx (fdM (IX b).1++l)) b/\ant (IX b).1:=by
 unfold IX at h ⊢
 have h3:=mq (m:=3) (by decide) b
 split at h
 ·rename_i hz
  obtain⟨h1,h2⟩:=K9 (jO (m:=2) (by decide) h)
  refine⟨?_,h2,mq (by decide) _⟩
  show cH (3::0::(Jq _++2::_::xb bx l)) b
  exact jd (by decide) hz h1
 ·rename_i hz
  refine⟨?_,trivial⟩
  show cH (3::1::xb bx l) b
  exact jd (by decide) hz h
 ·rename_i n0 n1
  have e0: ¬hU 3 b=0:=n0
  have e1: ¬hU 3 b=1:=n1
  have hz:hU 3 b=2:=by omega
  obtain⟨h1,h2⟩:=K9 (jO (m:=2) (by decide) h)
  refine⟨?_,h2,mq (by decide) _⟩
  show cH (3::2::(Jq _++2::_::xb bx l)) b
  exact jd (by decide) hz h1
theorem apD{b:Int}{l:aa}(h:cH (xb bx l) (QZ b).2):cH (xb bx (wdM (QZ b).1++l)) b/\anu (QZ b).1:=by
 unfold QZ at h ⊢
 have h3:=mq (m:=3) (by decide) b
 split at h
 ·rename_i hz
  obtain⟨h1,h2⟩:=K9 h
  refine⟨?_,h2⟩
  show cH (3::0::(Jq _++xb bx l)) b
  exact jd (by decide) hz h1
 ·rename_i hz
  obtain⟨h1,h2⟩:=K9 h
  refine⟨?_,h2⟩
  show cH (3::1::(Jq _++xb bx l)) b
  exact jd (by decide) hz h1
 ·rename_i n0 n1
  have e0: ¬hU 3 b=0:=n0
  have e1: ¬hU 3 b=1:=n1
  have hz:hU 3 b=2:=by omega
  refine⟨?_,trivial⟩
  show cH (3::2::xb bx l) b
  exact jd (by decide) hz h
theorem aar{n:Nat}{rd:RD}(hn:n<5)(h:C6 rd):VB (m9 n rd):=⟨n,rd,rfl,hn,h⟩
theorem Yo(b:Int):(∀a∈zw b,VB a)/\cH (xb bx (zw b)) b/\ans (Pr b):=by
 have h4:cH (xb bx [m9 4 (Pr b).l,m2 2 (Pr b).k]) (QZ (IX b).2).2/\C6 (Pr b).l:=by
  obtain⟨h1,h2⟩:=K9 (b:=(QZ (IX b).2).2) (r:=[2,(Pr b).k]) (jO (m:=2) (r:=[]) (by decide) trivial)
  exact⟨h1,h2⟩
 obtain⟨h3,h5⟩:=apD h4.1
 obtain⟨h2,h6⟩:=aoe h3
 have hok:ans (Pr b):=⟨h6,h5,h4.2,mq (by decide) _⟩
 refine⟨fun a ha=> ?_,h2,hok⟩
 obtain⟨o1,o2,o3,_⟩:=hok
 unfold zw ddM at ha
 rcases cV.mp ha with ha|ha
 ·generalize (Pr b).f=f at ha o1
  cases f with
  |none=>simp only[fdM,aO]at ha;subst ha;trivial
  |one o rd s=>
   simp only[fdM,aG,bg,or_false]at ha
   rcases ha with rfl|rfl|rfl
   ·cases o<;>trivial
   ·exact aar (by cases o<;>decide) o1.1
   ·trivial
 ·rcases cV.mp ha with ha|ha
  ·generalize (Pr b).w=w at ha o2
   cases w with
   |none=>simp only[wdM,aO]at ha;subst ha;trivial
   |one o rd=>
    simp only[wdM,aG,bg,or_false]at ha
    rcases ha with rfl|rfl
    ·cases o<;>trivial
    ·exact aar (by cases o<;>decide) o2
  ·simp only[aG,bg,or_false]at ha
   rcases ha with rfl|rfl
   ·exact aar (by decide) o3
   ·trivial
noncomputable def cLine:Nat:=45
noncomputable def dr:Nat:=1021
def Wl:aW:=fun l σ=>vN l fun _ _=>some (.opq,σ)
def tL(l:List T):T:=bu (motive:=fun _=>T) .nil (fun a _ ih=>.cons a ih) l
def sL(l:List TS):TS:=bu (motive:=fun _=>TS) .nil (fun a _ ih=>.cons a ih) l
noncomputable def cS(l:ac):T:=.cst (.str l)
noncomputable def cI(i:Int):T:=.cst (.int i)
def kA(f:Nat)(l:List T):T:=.call f (tL l)
def mE(n:Nat)(o:T)(l:List T):T:=.meth n o (tL l)
def lS(l:List T):T:=.lst (tL l)
def tU(l:List T):T:=.tup (tL l)
noncomputable def v0:T:=.var 0
noncomputable def v1:T:=.var 1
noncomputable def v2:T:=.var 2
noncomputable def v3:T:=.var 3
noncomputable def v4:T:=.var 4
noncomputable def v5:T:=.var 5
noncomputable def v6:T:=.var 6
noncomputable def v7:T:=.var 7
noncomputable def v8:T:=.var 8
noncomputable def v9:T:=.var 9
noncomputable def v10:T:=.var 10
noncomputable def v11:T:=.var 11
noncomputable def v12:T:=.var 12
noncomputable def v13:T:=.var 13
noncomputable def v14:T:=.var 14
noncomputable def v15:T:=.var 15
noncomputable def v16:T:=.var 16
noncomputable def mR:AV:=.str [48,49,50,51,52,53,54,55,56,57]
noncomputable def wA:AV:=.str [65,66,67,68,69,70,71,72,73,74,75,76,77,78,79,80,81,82,83,84,85,86,87,88,89,90,48,49,50,51,52,53,54,55,56,57,45]
noncomputable def lc:AV:=.str [48,49,50,51,52,53,54,55,56,57]
noncomputable def abv:AV:=.str [46,44,59]
noncomputable def Ir:AV:=.int (30)
noncomputable def GO:AV:=.str [65,66,67,68,69,70,71,72,73,74,75,76,77,78,79,80,81,82,83,84,85,86,87,88,89,90]
noncomputable def rJ:AV:=.int (18)
noncomputable def zU:AV:=.int (160)
noncomputable def Kj:AV:=.str [34,39]
noncomputable def zV:AV:=.str [40,41,58,43,45,42,47,61,60,62]
noncomputable def zT:AV:=.str [42,42,32,60,61,32,62,61]
noncomputable def Sq:AV:=.int (8)
noncomputable def Sr:AV:=.int (12)
noncomputable def BH:AV:=.dct [[100,105,115,112,108,97,121],[98,105,110,97,114,121],[112,97,99,107,101,100],[105,110,100,101,120]] [.str [68,73,83,80,76,65,89],.str [66,73,78,65,82,89],.str [80,65,67,75,69,68,45,68,69,67,73,77,65,76],.str [73,78,68,69,88]]
noncomputable def xm:AV:=.int (66)
noncomputable def iW:AV:=.tup [.int (1),.int (77)]
noncomputable def t4:AV:=.dct [[68,73,83,80,76,65,89],[67,79,77,80],[67,79,77,80,85,84,65,84,73,79,78,65,76],[66,73,78,65,82,89],[80,65,67,75,69,68,45,68,69,67,73,77,65,76],[67,79,77,80,45,51],[67,79,77,80,85,84,65,84,73,79,78,65,76,45,51],[73,78,68,69,88]] [.str [100,105,115,112,108,97,121],.str [98,105,110,97,114,121],.str [98,105,110,97,114,121],.str [98,105,110,97,114,121],.str [112,97,99,107,101,100],.str [112,97,99,107,101,100],.str [112,97,99,107,101,100],.str [105,110,100,101,120]]
noncomputable def Ki:AV:=.int (88)
noncomputable def BG:AV:=.int (66)
noncomputable def BE:AV:=.int (77)
noncomputable def Ss:AV:=.str [70,73,76,76,69,82]
noncomputable def FA:AV:=.int (49)
noncomputable def BF:AV:=.int (20)
noncomputable def lE:AV:=.str [32,65,67,67,69,80,84,32,65,67,67,69,83,83,32,65,68,68,32,65,68,86,65,78,67,73,78,71,32,65,70,84,69,82,32,65,76,76,32,65,76,80,72,65,66,69,84,73,67,32,65,76,80,72,65,66,69,84,73,67,45,76,79,87,69,82,32,65,76,80,72,65,66,69,84,73,67,45,85,80,80,69,82,32,65,76,80,72,65,78,85,77,69,82,73,67,32,65,76,80,72,65,78,85,77,69,82,73,67,45,69,68,73,84,69,68,32,65,76,83,79,32,65,76,84,69,82,78,65,84,69,32,65,78,68,32,65,78,89,32,65,82,69,32,65,82,69,65,32,65,82,69,65,83,32,65,83,67,69,78,68,73,78,71,32,65,83,83,73,71,78,32,65,84,32,65,85,84,72,79,82,32,66,69,70,79,82,69,32,66,73,78,65,82,89,32,66,76,65,78,75,32,66,76,79,67,75,32,66,89,32,67,65,76,76,32,67,72,65,82,65,67,84,69,82,32,67,72,65,82,65,67,84,69,82,83,32,67,76,79,83,69,32,67,79,77,80,32,67,79,77,80,45,51,32,67,79,77,80,85,84,65,84,73,79,78,65,76,32,67,79,77,80,85,84,65,84,73,79,78,65,76,45,51,32,67,79,77,80,85,84,69,32,67,79,78,70,73,71,85,82,65,84,73,79,78,32,67,79,78,84,65,73,78,83,32,67,79,78,84,69,78,84,32,67,79,78,84,73,78,85,69,32,67,79,78,86,69,82,84,73,78,71,32,67,79,80,89,32,67,79,82,82,32,67,79,82,82,69,83,80,79,78,68,73,78,71,32,67,79,85,78,84,32,68,65,84,65,32,68,65,84,69,45,67,79,77,80,73,76,69,68,32,68,65,84,69,45,87,82,73,84,84,69,78,32,68,69,76,69,84,69,32,68,69,76,73,77,73,84,69,68,32,68,69,76,73,77,73,84,69,82,32,68,69,80,69,78,68,73,78,71,32,68,69,83,67,69,78,68,73,78,71,32,68,73,83,80,76,65,89,32,68,73,86,73,68,69,32,68,73,86,73,83,73,79,78,32,68,79,87,78,32,68,85,80,76,73,67,65,84,69,83,32,68,89,78,65,77,73,67,32,69,76,83,69,32,69,78,68,32,69,78,68,45,65,68,68,32,69,78,68,45,67,65,76,76,32,69,78,68,45,67,79,77,80,85,84,69,32,69,78,68,45,68,69,76,69,84,69,32,69,78,68,45,68,73,86,73,68,69,32,69,78,68,45,69,86,65,76,85,65,84,69,32,69,78,68,45,73,70,32,69,78,68,45,77,85,76,84,73,80,76,89,32,69,78,68,45,80,69,82,70,79,82,77,32,69,78,68,45,82,69,65,68,32,69,78,68,45,82,69,84,85,82,78,32,69,78,68,45,82,69,87,82,73,84,69,32,69,78,68,45,83,69,65,82,67,72,32,69,78,68,45,83,84,65,82,84,32,69,78,68,45,83,84,82,73,78,71,32,69,78,68,45,83,85,66,84,82,65,67,84,32,69,78,68,45,85,78,83,84,82,73,78,71,32,69,78,68,45,87,82,73,84,69,32,69,78,86,73,82,79,78,77,69,78,84,32,69,81,85,65,76,32,69,82,82,79,82,32,69,86,65,76,85,65,84,69,32,69,88,67,69,80,84,73,79,78,32,69,88,73,84,32,69,88,84,69,78,68,32,69,88,84,69,82,78,65,76,32,70,65,76,83,69,32,70,68,32,70,73,76,69,32,70,73,76,69,45,67,79,78,84,82,79,76,32,70,73,76,76,69,82,32,70,73,82,83,84,32,70,79,82,32,70,82,79,77,32,71,73,86,73,78,71,32,71,76,79,66,65,76,32,71,79,32,71,82,69,65,84,69,82,32,72,73,71,72,45,86,65,76,85,69,32,72,73,71,72,45,86,65,76,85,69,83,32,73,45,79,32,73,45,79,45,67,79,78,84,82,79,76,32,73,68,69,78,84,73,70,73,67,65,84,73,79,78,32,73,70,32,73,78,32,73,78,68,69,88,32,73,78,68,69,88,69,68,32,73,78,73,84,73,65,76,32,73,78,73,84,73,65,76,73,90,69,32,73,78,80,85,84,32,73,78,80,85,84,45,79,85,84,80,85,84,32,73,78,83,80,69,67,84,32,73,78,83,84,65,76,76,65,84,73,79,78,32,73,78,84,79,32,73,78,86,65,76,73,68,32,73,83,32,74,85,83,84,32,74,85,83,84,73,70,73,69,68,32,75,69,89,32,76,65,66,69,76,32,76,69,65,68,73,78,71,32,76,69,70,84,32,76,69,83,83,32,76,73,78,69,32,76,73,78,69,83,32,76,73,78,75,65,71,69,32,76,79,67,75,32,76,79,87,45,86,65,76,85,69,32,76,79,87,45,86,65,76,85,69,83,32,77,69,82,71,69,32,77,79,68,69,32,77,79,86,69,32,77,85,76,84,73,80,76,89,32,78,65,84,73,86,69,32,78,69,71,65,84,73,86,69,32,78,69,88,84,32,78,79,32,78,79,84,32,78,85,77,69,82,73,67,32,78,85,77,69,82,73,67,45,69,68,73,84,69,68,32,79,66,74,69,67,84,45,67,79,77,80,85,84,69,82,32,79,67,67,85,82,83,32,79,70,32,79,70,70,32,79,77,73,84,84,69,68,32,79,78,32,79,80,69,78,32,79,80,84,73,79,78,65,76,32,79,82,32,79,82,68,69,82,32,79,82,71,65,78,73,90,65,84,73,79,78,32,79,84,72,69,82,32,79,85,84,80,85,84,32,79,86,69,82,70,76,79,87,32,80,65,67,75,69,68,45,68,69,67,73,77,65,76,32,80,69,82,70,79,82,77,32,80,73,67,32,80,73,67,84,85,82,69,32,80,79,73,78,84,69,82,32,80,79,83,73,84,73,86,69,32,80,82,79,67,69,68,85,82,69,32,80,82,79,67,69,69,68,32,80,82,79,71,82,65,77,32,80,82,79,71,82,65,77,45,73,68,32,81,85,79,84,69,32,81,85,79,84,69,83,32,82,65,78,68,79,77,32,82,69,65,68,32,82,69,67,79,82,68,32,82,69,67,79,82,68,83,32,82,69,68,69,70,73,78,69,83,32,82,69,70,69,82,69,78,67,69,32,82,69,76,65,84,73,86,69,32,82,69,76,69,65,83,69,32,82,69,77,65,73,78,68,69,82,32,82,69,78,65,77,69,83,32,82,69,80,76,65,67,69,32,82,69,80,76,65,67,73,78,71,32,82,69,84,85,82,78,32,82,69,87,82,73,84,69,32,82,73,71,72,84,32,82,79,85,78,68,69,68,32,82,85,78,32,83,65,77,69,32,83,68,32,83,69,65,82,67,72,32,83,69,67,84,73,79,78,32,83,69,67,85,82,73,84,89,32,83,69,76,69,67,84,32,83,69,78,84,69,78,67,69,32,83,69,80,65,82,65,84,69,32,83,69,81,85,69,78,84,73,65,76,32,83,69,84,32,83,73,71,78,32,83,73,90,69,32,83,79,82,84,32,83,79,82,84,45,77,69,82,71,69,32,83,79,85,82,67,69,45,67,79,77,80,85,84,69,82,32,83,80,65,67,69,32,83,80,65,67,69,83,32,83,80,69,67,73,65,76,45,78,65,77,69,83,32,83,84,65,78,68,65,82,68,32,83,84,65,82,84,32,83,84,65,84,85,83,32,83,84,79,80,32,83,84,82,73,78,71,32,83,85,66,84,82,65,67,84,32,83,89,78,67,32,83,89,78,67,72,82,79,78,73,90,69,68,32,84,65,76,76,89,73,78,71,32,84,69,83,84,32,84,72,65,78,32,84,72,69,78,32,84,72,82,79,85,71,72,32,84,72,82,85,32,84,73,77,69,83,32,84,79,32,84,82,65,73,76,73,78,71,32,84,82,85,69,32,85,78,83,84,82,73,78,71,32,85,78,84,73,76,32,85,80,32,85,80,79,78,32,85,83,65,71,69,32,85,83,73,78,71,32,86,65,76,85,69,32,86,65,76,85,69,83,32,86,65,82,89,73,78,71,32,87,72,69,78,32,87,73,84,72,32,87,79,82,75,73,78,71,45,83,84,79,82,65,71,69,32,87,82,73,84,69,32,90,69,82,79,32,90,69,82,79,69,83,32,90,69,82,79,83,32]
noncomputable def FB:AV:=.int (255)
def QS:TS:=sL [.asg 1 (.bin .Add (lS [.atr 20 v0]) (.bin .Mult (lS [cI 88]) (kA 1 [.atr 23 v0]))),.for_ [2] (.atr 22 v0) (sL [.asg 1 (.bin .Add v1 (kA 0 [v2]))]),.ret v1]
def Nx(self:aW):cG:=⟨[],[("_law_walked",self),("len",eV)],[]⟩
def OA(self:aW):SM:=
  (aV (cT [1] (bi (b4 .Add) (bv de (aw (un (aA 20) (al 0)) aJ)) (bi (b4 .Mult) (bv de (aw (ba (.int (88))) aJ)) (bv eV (aw (un (aA 23) (al 0)) aJ)))))
  (aV (gB [2] (un (aA 22) (al 0))
  (aV (cT [1] (bi (b4 .Add) (al 1) (bv self (aw (al 2) aJ))))
  bq))
  (aV (eK (al 1))
  bq)))
def zW(self:aW):aW:=bn 1 [] (OA self)
def bA:Nat->aW
 |0=>Uq
 |n+1=>vU aaL (zW (bA n))
def R8:TS:=sL [.ret (tU [.atr 2 v0,.atr 1 v0])]
noncomputable def Q6:cG:=⟨[],[],[]⟩
def Rr:SM:=
  (aV (eK (bv gk (aw (un (aA 2) (al 0)) (aw (un (aA 1) (al 0)) aJ))))
  bq)
def qJ:aW:=bn 1 [] Rr
def QN:TS:=sL [.ret (tU [.atr 8 v0,.atr 9 v0,.atr 7 v0,.atr 6 v0,.atr 5 v0])]
noncomputable def Nt:cG:=⟨[],[],[]⟩
def Ox:SM:=
  (aV (eK (bv gk (aw (un (aA 8) (al 0)) (aw (un (aA 9) (al 0)) (aw (un (aA 7) (al 0)) (aw (un (aA 6) (al 0)) (aw (un (aA 5) (al 0)) aJ)))))))
  bq)
def i9:aW:=bn 1 [] Ox
def R7:TS:=sL [.ret (tU [.atr 18 v0,.atr 19 v0])]
noncomputable def Q5:cG:=⟨[],[],[]⟩
def Rq:SM:=
  (aV (eK (bv gk (aw (un (aA 18) (al 0)) (aw (un (aA 19) (al 0)) aJ))))
  bq)
def ft:aW:=bn 1 [] Rq
def Nm:TS:=sL [.asg 1 (.ife (.cmp .Is (.atr 14 v0) (.cst (.none))) (.cst (.none)) (mE 0 (.atr 14 v0) [])),.asg 2 (tU [.atr 16 v0,.atr 15 v0,.atr 10 v0,.atr 35 v0,v1,.atr 17 v0]),.ret (.bin .Add v2 (tU [.atr 11 v0,.atr 13 v0,.atr 12 v0,.atr 21 v0]))]
def Lq:cG:=⟨[],[],[("told",(fm lK i9 gP))]⟩
def MM:SM:=
  (aV (cT [1] (ti (fw (b5 .Is) (un (aA 14) (al 0)) (ba (.none))) (ba (.none)) (cJ (fm lK i9 gP) (un (aA 14) (al 0)) aJ)))
  (aV (cT [2] (bv gk (aw (un (aA 16) (al 0)) (aw (un (aA 15) (al 0)) (aw (un (aA 10) (al 0)) (aw (un (aA 35) (al 0)) (aw (al 1) (aw (un (aA 17) (al 0)) aJ))))))))
  (aV (eK (bi (b4 .Add) (al 2) (bv gk (aw (un (aA 11) (al 0)) (aw (un (aA 13) (al 0)) (aw (un (aA 12) (al 0)) (aw (un (aA 21) (al 0)) aJ)))))))
  bq)))
def jp:aW:=bn 1 [] MM
def yW:gR:=(fm cp jp gP)
def VV:TS:=sL [.asg 1 (kA 0 [.comp [3] (.atr 23 v0) .nop (mE 0 v3 [])]),.ret (tU [.atr 20 v0,.atr 18 v0,mE 1 v0 [],v1,kA 0 [.comp [2] (.atr 22 v0) .nop (mE 0 v2 [])]])]
def Sd(self:aW):cG:=⟨[],[("tuple",fi)],[("told",(fm nE ft (fm cp self gP))),("clauses",yW)]⟩
def y8(self:aW):SM:=
  (aV (cT [1] (bv fi (aw (eO [3] (un (aA 23) (al 0)) (fun _ σ=>some (true,σ)) (cJ (fm nE ft (fm cp self gP)) (al 3) aJ)) aJ)))
  (aV (eK (bv gk (aw (un (aA 20) (al 0)) (aw (un (aA 18) (al 0)) (aw (cJ yW (al 0) aJ) (aw (al 1) (aw (bv fi (aw (eO [2] (un (aA 22) (al 0)) (fun _ σ=>some (true,σ)) (cJ (fm nE ft (fm cp self gP)) (al 2) aJ)) aJ)) aJ)))))))
  bq))
def wD(self:aW):aW:=bn 1 [] (y8 self)
def bG:Nat->aW
 |0=>Uq
 |n+1=>vU nX (wD (bG n))
def VU:TS:=sL [.asg 1 (kA 0 [.comp [4] (.atr 26 v0) .nop (tU [v4,.cmp .In v4 (.atr 27 v0),kA 0 [.comp [5] (.idx (.atr 26 v0) v4) .nop (mE 0 v5 [])]])]),.ret (tU [kA 0 [.comp [3] (.atr 24 v0) .nop (mE 0 v3 [])],kA 0 [.comp [2] (.atr 25 v0) .nop (mE 0 v2 [])],v1])]
def Sc:cG:=⟨[],[("tuple",fi)],[("told",(fm cp (bG 6) gP))]⟩
def Ut:SM:=
  (aV (cT [1] (bv fi (aw (eO [4] (un (aA 26) (al 0)) (fun _ σ=>some (true,σ)) (bv gk (aw (al 4) (aw (rW (fw (b5 .In) (al 4) (un (aA 27) (al 0)))) (aw (bv fi (aw (eO [5] (bi fU (un (aA 26) (al 0)) (al 4)) (fun _ σ=>some (true,σ)) (cJ (fm cp (bG 6) gP) (al 5) aJ)) aJ)) aJ))))) aJ)))
  (aV (eK (bv gk (aw (bv fi (aw (eO [3] (un (aA 24) (al 0)) (fun _ σ=>some (true,σ)) (cJ (fm cp (bG 6) gP) (al 3) aJ)) aJ)) (aw (bv fi (aw (eO [2] (un (aA 25) (al 0)) (fun _ σ=>some (true,σ)) (cJ (fm cp (bG 6) gP) (al 2) aJ)) aJ)) (aw (al 1) aJ)))))
  bq))
def wC:aW:=bn 1 [] Ut
def s7:aW:=vU nX wC
def qG:gR:=(fm UX qJ (fm lK i9 (fm nE ft (fm cp (bG 6) (fm Zy s7 gP)))))
def JD:TS:=sL [.ret (.cmp .GtE (.atr 4 v0) (kA 0 [.atr 38 v0]))]
def HV:cG:=⟨[],[("len",eV)],[]⟩
def o7:SM:=
  (aV (eK (rW (fw (b5 .GtE) (un (aA 4) (al 0)) (bv eV (aw (un (aA 38) (al 0)) aJ)))))
  bq)
def lf:aW:=bn 1 [] o7
def Wo:gR:=(fm dr lf gP)
def qh:gR:=(fm dr vz gP)
def QO:TS:=sL [.ifs (.cmp .Lt (.bin .Add (.atr 4 v0) v1) (kA 0 [.atr 38 v0])) (sL [.ret (.idx (.atr 38 v0) (.bin .Add (.atr 4 v0) v1))]) .nil,.ret (.cst (.none))]
def Nu:cG:=⟨[],[("len",eV)],[]⟩
def o8:SM:=
  (aV (sf (fw (b5 .Lt) (bi (b4 .Add) (un (aA 4) (al 0)) (al 1)) (bv eV (aw (un (aA 38) (al 0)) aJ)))
  (aV (eK (bi fU (un (aA 38) (al 0)) (bi (b4 .Add) (un (aA 4) (al 0)) (al 1))))
  bq)
  bq)
  (aV (eK (ba (.none)))
  bq))
def ii:aW:=bn 2 [.int (0)] o8
def gv:gR:=(fm dr ii gP)
def yZ:gR:=(fm dr Iq gP)
def JE:TS:=sL [.asg 3 (mE 0 v0 [v2]),.ret (.and (.cmp .IsNot v3 (.cst (.none))) (.cmp .Eq (.atr 2 v3) v1))]
def HX:cG:=⟨[],[],[("peek",gv)]⟩
def lh:SM:=
  (aV (cT [3] (cJ gv (al 0) (aw (al 2) aJ)))
  (aV (eK (SU (rW (fw (b5 .IsNot) (al 3) (ba (.none)))) (rW (fw (b5 .Eq) (un (aA 2) (al 3)) (al 1)))))
  bq))
def iy:aW:=bn 3 [.int (0)] lh
def fj:gR:=(fm dr iy gP)
def t5:gR:=(fm dr LG gP)
def wj:TS:=sL [.asg 2 (cI 0),.for_ [3] (mE 0 v1 [cS [32]]) (sL [.ifs (.or (.not (mE 2 v0 [cS [119,111,114,100],v2])) (.cmp .NotEq (.atr 1 (mE 1 v0 [v2])) v3)) (sL [.ret (.cst (.bool false))]) .nil,.asg 2 (.bin .Add v2 (cI 1))]),.ret (.cst (.bool true))]
def u4:cG:=⟨[],[],[("split",(iq kG)),("peek",gv),("is_kind",fj)]⟩
def Iz:SM:=
  cg u4 wj
def jy:aW:=bn 2 [] Iz
def rb:gR:=(fm dr jy gP)
def GS:gR:=(fm dr LK gP)
def JF:TS:=sL [.ret (.and (mE 1 v0 [cS [115,105,103,110],v2]) (.cmp .Eq (.atr 1 (mE 0 v0 [v2])) v1))]
def HY:cG:=⟨[],[],[("peek",gv),("is_kind",fj)]⟩
def lj:SM:=
  (aV (eK (SU (cJ fj (al 0) (aw (ba (.str [115,105,103,110])) (aw (al 2) aJ))) (rW (fw (b5 .Eq) (un (aA 1) (cJ gv (al 0) (aw (al 2) aJ))) (al 1)))))
  bq)
def jx:aW:=bn 3 [.int (0)] lj
def vA:gR:=(fm dr jx gP)
def qi:gR:=(fm dr LH gP)
def Fq:TS:=sL [.ifs (.not (mE 0 v0 [v1])) (sL [.ret (.cst (.bool false))]) .nil,.asgA 4 v0 (.bin .Add (.atr 4 v0) (cI 1)),.ret (.cst (.bool true))]
def DR:cG:=⟨[],[],[("is_sign",vA)]⟩
def mT:SM:=
  (aV (sf (pf (jh (cJ vA (al 0) (aw (al 1) aJ))))
  (aV (eK (ba (.bool false)))
  bq)
  bq)
  (aV (lT 4 (al 0) (bi (b4 .Add) (un (aA 4) (al 0)) (ba (.int (1)))))
  (aV (eK (ba (.bool true)))
  bq)))
def jN:aW:=bn 2 [] mT
def Ro:gR:=(fm dr jN gP)
def s5:gR:=(fm dr Fz gP)
def sK:TS:=sL [.ifs (.not (mE 0 v0 [v1])) (sL [.bad]) .nil]
def rA:cG:=⟨[],[],[("skip_sign",s5)]⟩
def Fj:SM:=
  cg rA sK
def sw:aW:=bn 2 [] Fj
def yY:gR:=(fm dr sw gP)
def QP:TS:=sL [.ifs (.not (mE 1 v0 [v1])) (sL [.ret (.cst (.bool false))]) .nil,.asgA 4 v0 (.bin .Add (.atr 4 v0) (kA 0 [mE 0 v1 [cS [32]]])),.ret (.cst (.bool true))]
def Nv:cG:=⟨[],[("len",eV)],[("split",(iq kG)),("is_word",rb)]⟩
def o9:SM:=
  (aV (sf (pf (jh (cJ rb (al 0) (aw (al 1) aJ))))
  (aV (eK (ba (.bool false)))
  bq)
  bq)
  (aV (lT 4 (al 0) (bi (b4 .Add) (un (aA 4) (al 0)) (bv eV (aw (cJ (iq kG) (al 1) (aw (ba (.str [32])) aJ)) aJ))))
  (aV (eK (ba (.bool true)))
  bq)))
def o0:aW:=bn 2 [] o9
def afr:gR:=(fm dr o0 gP)
def vB:gR:=(fm dr Wm gP)
def AW:TS:=sL [.ifs (.not (mE 1 v0 [v1])) (sL [.ret (.cst (.bool false))]) .nil,.expr (mE 0 v0 [cS [46]]),.ret (.cst (.bool true))]
def yG:cG:=⟨[],[],[("need_sign",yY),("skip",vB)]⟩
def M3:SM:=
  cg yG AW
def Af:aW:=bn 2 [] M3
def Mp:TS:=sL [.asgA 34 v1 v0,.expr (mE 0 (.atr 22 v0) [v1])]
def JV:cG:=⟨[],[],[("append",(fS gu))]⟩
def Wu:SM:=
  cg JV Mp
def LN:aW:=bn 2 [] Wu
def yV:gR:=(fm cp LN gP)
def DF:TS:=sL [.whl (.and (.cmp .NotEq v0 (lS [])) (.cmp .GtE (.atr 20 (.idx v0 (.neg (cI 1)))) (.atr 20 v1))) (sL [.expr (mE 2 v0 [])]),.ifs (.or (.cmp .Eq v0 (lS [])) (.cmp .Eq (.atr 20 (.idx v0 (cI 0))) (.glb 1))) (sL [.bad]) .nil,.asg 2 (.idx v0 (.neg (cI 1))),.ifs (.and (.cmp .NotEq (.atr 22 v2) (lS [])) (.cmp .NotEq (.atr 20 (.idx (.atr 22 v2) (cI 0))) (.atr 20 v1))) (sL [.bad]) .nil,.ifs (.cmp .GtE (kA 0 [v0]) (.glb 0)) (sL [.bad]) .nil,.expr (mE 1 v2 [v1]),.expr (mE 0 v0 [v1])]
def A5:cG:=⟨[("MOST_NESTED",BF),("ALONE",BE)],[("len",eV)],[("append",(fS gu)),("add",yV),("pop",(fS Zd))]⟩
def OG:SM:=
  cg A5 DF
def Ca:aW:=bn 2 [] OG
def TR:TS:=sL [.asgT [1,2,3,4] (tU [lS [],lS [],.cst (.none),lS []]),.for_ [5] v0 (sL [.ifs (.cmp .Eq (.atr 20 v5) (.glb 2)) (sL [.ifs (.cmp .Is v3 (.cst (.none))) (sL [.bad]) .nil,.expr (mE 1 (.atr 23 v3) [.idx (.atr 23 v5) (cI 0)]),.cont]) .nil,.ifs (.cmp .Eq (.atr 20 v5) (.glb 0)) (sL [.ifs (.or (.cmp .Eq v1 (lS [])) (.cmp .Eq (.atr 20 (.idx v1 (.neg (cI 1)))) (.glb 1))) (sL [.bad]) .nil,.expr (mE 1 v4 [tU [.bin .Sub (kA 0 [v1]) (cI 1),v5]])]) (sL [.ifs (.and (.cmp .NotEq v4 (lS [])) (.and (.cmp .Eq (.idx (.idx v4 (.neg (cI 1))) (cI 0)) (.bin .Sub (kA 0 [v1]) (cI 1))) (.cmp .NotIn (.atr 20 v5) (tU [cI 1,.glb 1])))) (sL [.bad]) (sL [.ifs (.cmp .In (.atr 20 v5) (tU [cI 1,.glb 1])) (sL [.expr (mE 1 v1 [v5]),.asg 2 (lS [v5])]) (sL [.expr (kA 1 [v2,v5])])])]),.asg 3 v5]),.for_ [6,5] v4 (sL [.expr (mE 0 (.idx v1 v6) [v5])]),.ret v1]
def Q8:cG:=⟨[("RENAMING",BG),("ALONE",BE),("NAMING",Ki)],[("len",eV),("put_beneath",Ca)],[("add",yV),("append",(fS gu))]⟩
def acY:SM:=
  cg Q8 TR
def Sx:aW:=bn 1 [] acY
def Ln:TS:=sL [.asg 1 (mE 0 v0 []),.ret (.and (.cmp .IsNot v1 (.cst (.none))) (.cmp .Eq (.atr 2 v1) (cS [110,117,109,98,101,114])))]
def JZ:cG:=⟨[],[],[("peek",yZ)]⟩
def jX:SM:=
  (aV (cT [1] (cJ yZ (al 0) aJ))
  (aV (eK (SU (rW (fw (b5 .IsNot) (al 1) (ba (.none)))) (rW (fw (b5 .Eq) (un (aA 2) (al 1)) (ba (.str [110,117,109,98,101,114]))))))
  bq))
def jW:aW:=bn 1 [] jX
def wh:TS:=sL [.asgA 18 v0 v1,.asgA 19 v0 (kA 0 [v2])]
def uZ:cG:=⟨[],[("tuple",fi)],[]⟩
def vG:SM:=
  cg uZ wh
def Iu:aW:=bn 3 [] vG
def xu:aW:=FW 8 (uy nE Iu)
def yk:TS:=sL [.for_ [2] (mE 0 v1 [cS [32]]) (sL [.ifs (mE 1 v0 [v2]) (sL [.ret v2]) .nil]),.ret (cS [])]
def wv:cG:=⟨[],[],[("split",(iq kG)),("skip",vB)]⟩
def Ks:SM:=
  cg wv yk
def xy:aW:=bn 2 [] Ks
def tz:gR:=(fm dr xy gP)
def wn:TS:=sL [.asg 1 (.comp [3] v0 .nop (kA 1 [v3])),.frz 1,.ifs (.comp [2] v1 (.cmp .Gt v2 (.glb 0)) v2) (sL [.bad]) .nil,.ret (kA 0 [v1])]
def u9:cG:=⟨[("MOST_OCTET",FB)],[("bytes",Wk),("ord",Zc)],[]⟩
def IB:SM:=
  cg u9 wn
def iz:aW:=bn 1 [] IB
def Ll:TS:=sL [.ifs (.not (mE 1 v0 [cS [108,105,116,101,114,97,108]])) (sL [.bad]) .nil,.asg 1 (kA 0 [.atr 1 (mE 0 v0 [])]),.ifs (.cmp .Is v1 (.cst (.none))) (sL [.bad]) .nil,.asgA 4 v0 (.bin .Add (.atr 4 v0) (cI 1)),.ret v1]
def JW:cG:=⟨[],[("octets_of_text",(wN iz))],[("peek",gv),("is_kind",fj)]⟩
def ql:SM:=
  (aV (sf (pf (jh (cJ fj (al 0) (aw (ba (.str [108,105,116,101,114,97,108])) aJ))))
  (aV (fun _ _=>none)
  bq)
  bq)
  (aV (cT [1] (bv (wN iz) (aw (un (aA 1) (cJ gv (al 0) aJ)) aJ)))
  (aV (sf (fw (b5 .Is) (al 1) (ba (.none)))
  (aV (fun _ _=>none)
  bq)
  bq)
  (aV (lT 4 (al 0) (bi (b4 .Add) (un (aA 4) (al 0)) (ba (.int (1)))))
  (aV (eK (al 1))
  bq)))))
def mj:aW:=bn 1 [] ql
def Zg:gR:=(fm dr mj gP)
def Sv:gR:=(fm dr (Oo iz) gP)
def sJ:TS:=sL [.ifs (.or (mE 1 v0 [cS [43]]) (mE 1 v0 [cS [45]])) (sL [.ret (mE 0 v0 [cS [110,117,109,98,101,114],cI 1])]) .nil,.ret (mE 0 v0 [cS [110,117,109,98,101,114]])]
def rz:cG:=⟨[],[],[("is_kind",t5),("is_sign",qi)]⟩
def Fi:SM:=
  cg rz sJ
def sv:aW:=bn 1 [] Fi
def yX:gR:=(fm dr sv gP)
def QW:TS:=sL [.ret (tU [.neg (.idx v0 (cI 0)),.idx v0 (cI 1)])]
noncomputable def MF:cG:=⟨[],[],[]⟩
def Zl:SM:=
  cg MF QW
def Ow:aW:=bn 1 [] Zl
def QU:TS:=sL [.ifs (.cmp .Lt v1 (cI 0)) (sL [.bad]) .nil,.whl (.and (.cmp .Gt v1 (cI 0)) (.cmp .Eq (.bin .Mod v0 (cI 10)) (cI 0))) (sL [.bad,.bad]),.ret (tU [v0,v1])]
noncomputable def MD:cG:=⟨[],[],[]⟩
def Zj:SM:=
  cg MD QU
def Ou:aW:=bn 2 [.int (0)] Zj
def My:TS:=sL [.asg 1 (cI 0),.for_ [2] v0 (sL [.asg 1 (.bin .Add (.bin .Mult v1 (cI 10)) (mE 0 (.glb 0) [v2]))]),.ret v1]
def J7:cG:=⟨[("FIGURES_decimals",mR)],[],[("index",(iq Ip))]⟩
def WE:SM:=
  cg J7 My
def LW:aW:=bn 1 [] WE
def AL:TS:=sL [.asg 1 (.ife (.cmp .In (.slc v0 .nop (cI 1)) (tU [cS [43],cS [45]])) (cI 1) (cI 0)),.asgT [2,3] (tU [.slc v0 v1 .nop,cS []]),.ifs (.cmp .In (cS [46]) v2) (sL [.asg 4 (mE 0 v2 [cS [46]]),.asgT [2,3] (tU [.slc v2 .nop v4,.slc v2 (.bin .Add v4 (cI 1)) .nop]),.ifs (.cmp .Eq v3 (cS [])) (sL [.bad]) .nil]) .nil,.ifs (.cmp .Eq (.bin .Add v2 v3) (cS [])) (sL [.bad]) .nil,.for_ [5] (kA 3 [v1,kA 1 [v0]]) (sL [.ifs (.and (.cmp .NotIn (.idx v0 v5) (.glb 0)) (.cmp .NotEq v5 (.bin .Add v1 (kA 1 [v2])))) (sL [.bad]) .nil]),.asg 6 (kA 2 [.bin .Add v2 v3]),.ret (kA 0 [.ife (.cmp .Eq (.slc v0 .nop (cI 1)) (cS [45])) (.neg v6) v6,kA 1 [v3]])]
def yy:cG:=⟨[("FIGURES_decimals",mR)],[("decimal",Ou),("len",eV),("worth_of",LW),("range",lD)],[("index",(iq Ip))]⟩
def MV:SM:=
  cg yy AL
def iE:aW:=bn 1 [] MV
def QR:TS:=sL [.asg 1 (mE 0 v0 []),.ifs (.cmp .Is v1 (.cst (.none))) (sL [.bad]) .nil,.asgA 4 v0 (.bin .Add (.atr 4 v0) (cI 1)),.ret v1]
def Nw:cG:=⟨[],[],[("peek",gv)]⟩
def uc:SM:=
  (aV (cT [1] (cJ gv (al 0) aJ))
  (aV (sf (fw (b5 .Is) (al 1) (ba (.none)))
  (aV (fun _ _=>none)
  bq)
  bq)
  (aV (lT 4 (al 0) (bi (b4 .Add) (un (aA 4) (al 0)) (ba (.int (1)))))
  (aV (eK (al 1))
  bq))))
def o4:aW:=bn 1 [] uc
def afs:gR:=(fm dr o4 gP)
def Eo:gR:=(fm dr Wn gP)
def ym:TS:=sL [.ifs (.not (mE 2 v0 [])) (sL [.bad]) .nil,.asg 1 (mE 1 v0 [cS [45]]),.ifs (.not v1) (sL [.expr (mE 1 v0 [cS [43]])]) .nil,.asg 2 (kA 1 [.atr 1 (mE 0 v0 [])]),.ret (.ife v1 (kA 0 [v2]) v2)]
def ww:cG:=⟨[],[("negated",Ow),("read_decimal",iE)],[("take",Eo),("skip_sign",s5),("is_number",yX)]⟩
def Kt:SM:=
  cg ww ym
def xz:aW:=bn 1 [] Kt
def Sw:gR:=(fm dr xz gP)
def AO:TS:=sL [.ifs (mE 2 v0 []) (sL [.ret (tU [cS [110,117,109,98,101,114],mE 3 v0 []])]) .nil,.ifs (mE 0 v0 [cS [108,105,116,101,114,97,108]]) (sL [.ret (tU [cS [116,101,120,116],mE 1 v0 []])]) .nil,.bad,.bad,.bad]
def yB:cG:=⟨[],[],[("is_kind",t5),("octets",Sv),("is_number",yX),("signed",Sw)]⟩
def MY:SM:=
  cg yB AO
def Aa:aW:=bn 2 [] MY
def DB:TS:=sL [.ret (.cmp .In (.bin .Add (.bin .Add (cS [32]) v0) (cS [32])) (.glb 0))]
noncomputable def A2:cG:=⟨[("RESERVED",lE)],[],[]⟩
def OD:SM:=
  cg A2 DB
def BW:aW:=bn 1 [] OD
def wi:TS:=sL [.ret (.and (mE 1 v0 [cS [119,111,114,100],v1]) (.not (kA 0 [.atr 1 (mE 0 v0 [v1])])))]
def u2:cG:=⟨[],[("is_reserved",BW)],[("peek",yZ),("is_kind",t5)]⟩
def Iy:SM:=
  cg u2 wi
def vD:aW:=bn 2 [.int (0)] Iy
def t6:gR:=(fm dr vD gP)
def AN:TS:=sL [.ifs (mE 0 v0 []) (sL [.bad]) .nil,.ret (kA 0 [v0,.glb 0])]
def yA:cG:=⟨[("no_expression",.opq)],[("read_operand",Aa)],[("is_name",t6)]⟩
def MX:SM:=
  cg yA AN
def z8:aW:=bn 1 [] MX
def DH:TS:=sL [.ifs (.cmp .Eq (mE 2 v0 [cS [86,65,76,85,69,32,86,65,76,85,69,83]]) (cS [])) (sL [.bad]) .nil,.expr (mE 2 v0 [cS [73,83,32,65,82,69]]),.asg 1 (lS []),.whl (.or (.cmp .Eq v1 (lS [])) (.not (mE 0 v0 [cS [46]]))) (sL [.asgT [2,3] (tU [kA 0 [v0],.cst (.none)]),.ifs (.cmp .NotEq (mE 2 v0 [cS [84,72,82,85,32,84,72,82,79,85,71,72]]) (cS [])) (sL [.asg 3 (kA 0 [v0])]) .nil,.expr (mE 1 v1 [tU [v2,v3]])]),.ret v1]
def A7:cG:=⟨[],[("read_literal",z8)],[("is_sign",qi),("append",(fS gu)),("one_of",tz)]⟩
def OI:SM:=
  cg A7 DH
def Cc:aW:=bn 1 [] OI
def Dx:TS:=sL [.ifs (.not (mE 1 v0 [])) (sL [.bad]) .nil,.ret (.atr 1 (mE 0 v0 []))]
def AY:cG:=⟨[],[],[("take",Eo),("is_name",t6)]⟩
def Oy:SM:=
  cg AY Dx
def BR:aW:=bn 1 [] Oy
def En:gR:=(anq dr BR)
def Dy:TS:=sL [.ifs (.not (mE 0 v0 [v1])) (sL [.bad]) .nil]
def AZ:cG:=⟨[],[],[("skip",vB)]⟩
def Oz:SM:=
  cg AZ Dy
def BS:aW:=bn 2 [] Oz
def abx:gR:=(fm dr BS gP)
def AP:TS:=sL [.expr (mE 2 v0 [cS [82,69,78,65,77,69,83]]),.asgT [1,2] (tU [mE 1 v0 [],.cst (.none)]),.ifs (.cmp .NotEq (mE 0 v0 [cS [84,72,82,85,32,84,72,82,79,85,71,72]]) (cS [])) (sL [.asg 2 (mE 1 v0 [])]) .nil,.ret (tU [v1,v2])]
def yC:cG:=⟨[],[],[("one_of",tz),("name",En),("need",abx)]⟩
def MZ:SM:=
  cg yC AP
def Ab:aW:=bn 1 [] MZ
def uU:TS:=sL [.asgA 8 v0 v1,.asgA 9 v0 v2,.asgA 7 v0 v3,.asgA 6 v0 (kA 0 [v4]),.asgA 5 v0 (kA 0 [v5])]
def sP:cG:=⟨[],[("tuple",fi)],[]⟩
def ub:SM:=
  cg sP uU
def GV:aW:=bn 6 [.none,.tup [],.tup []] ub
def Kp:aW:=FW 8 (uy lK GV)
def AE:TS:=sL [.asg 1 (lS [mE 1 v0 []]),.whl (mE 0 v0 []) (sL [.bad]),.ret v1]
def yr:cG:=⟨[],[],[("is_name",t6),("name",En)]⟩
def MN:SM:=
  cg yr AE
def zY:aW:=bn 1 [] MN
def Wp:gR:=(fm dr zY gP)
def AH:TS:=sL [.asgT [1,2] (tU [cI 0,cI 0]),.whl (.or (.cmp .Gt v1 (cI 0)) (.and (.cmp .Eq v2 (cI 0)) (mE 0 v0 [cS [40]]))) (sL [.bad,.bad,.bad]),.ret (.cst (.bool false))]
def yu:cG:=⟨[],[],[("is_sign",qi)]⟩
def MQ:SM:=
  cg yu AH
def z4:aW:=bn 1 [] MQ
def Ms:TS:=sL [.asg 2 (mE 3 v0 []),.asg 3 (lS []),.whl (.cmp .NotEq (mE 1 v0 [cS [79,70,32,73,78]]) (cS [])) (sL [.expr (mE 2 v3 [mE 3 v0 []])]),.asg 4 (tU []),.ifs (.and (mE 0 v0 [cS [40]]) (.not (kA 1 [v0]))) (sL [.bad]) .nil,.asg 5 (.ife (kA 1 [v0]) .nil (.cst (.none))),.ret (tU [cS [114,101,102],v2,kA 0 [v3],v4,v5])]
def J1:cG:=⟨[],[("tuple",fi),("is_part_next",z4)],[("is_sign",qi),("one_of",tz),("append",(fS gu)),("name",En)]⟩
def Wx:SM:=
  cg J1 Ms
def LP:aW:=bn 2 [] Wx
def Mv:TS:=sL [.ifs (.cmp .GtE v1 (.idx v0 (cI 1))) (sL [.ret (.bin .Mult (.idx v0 (cI 0)) (.bin .Pow (cI 10) (.bin .Sub v1 (.idx v0 (cI 1)))))]) .nil,.bad,.bad,.bad,.bad]
noncomputable def J4:cG:=⟨[],[],[]⟩
def WA:SM:=
  cg J4 Mv
def LU:aW:=bn 3 [] WA
def Mw:TS:=sL [.ret (kA 0 [v0,cI 0,.cst (.bool false)])]
def J5:cG:=⟨[],[("units_at",LU)],[]⟩
def WB:SM:=
  cg J5 Mw
def ol:aW:=bn 1 [] WB
def Mr:TS:=sL [.ret (.cmp .Eq (.idx v0 (cI 1)) (cI 0))]
noncomputable def J0:cG:=⟨[],[],[]⟩
def Ww:SM:=
  cg J0 Mr
def lG:aW:=bn 1 [] Ww
def Np:TS:=sL [.ifs (.not (mE 1 v0 [cS [110,117,109,98,101,114]])) (sL [.bad]) .nil,.asg 1 (kA 2 [.atr 1 (mE 0 v0 [])]),.ifs (.not (kA 1 [v1])) (sL [.bad]) .nil,.asgA 4 v0 (.bin .Add (.atr 4 v0) (cI 1)),.ret (kA 0 [v1])]
def Ls:cG:=⟨[],[("whole_of",(wN ol)),("is_whole",(wN lG)),("read_decimal",(wN iE))],[("peek",gv),("is_kind",fj)]⟩
def rQ:SM:=
  (aV (sf (pf (jh (cJ fj (al 0) (aw (ba (.str [110,117,109,98,101,114])) aJ))))
  (aV (fun _ _=>none)
  bq)
  bq)
  (aV (cT [1] (bv (wN iE) (aw (un (aA 1) (cJ gv (al 0) aJ)) aJ)))
  (aV (sf (pf (jh (bv (wN lG) (aw (al 1) aJ))))
  (aV (fun _ _=>none)
  bq)
  bq)
  (aV (lT 4 (al 0) (bi (b4 .Add) (un (aA 4) (al 0)) (ba (.int (1)))))
  (aV (eK (bv (wN ol) (aw (al 1) aJ)))
  bq)))))
def nB:aW:=bn 1 [] rQ
def acW:gR:=(fm dr nB gP)
def Os:gR:=(fm dr (Sp iE lG ol) gP)
def DG:TS:=sL [.asg 1 (mE 5 v0 []),.asgT [2,3] (tU [v1,.cst (.none)]),.ifs (mE 0 v0 [cS [84,79]]) (sL [.asg 2 (mE 5 v0 [])]) .nil,.expr (mE 0 v0 [cS [84,73,77,69,83]]),.ifs (mE 0 v0 [cS [68,69,80,69,78,68,73,78,71]]) (sL [.expr (mE 0 v0 [cS [79,78]]),.asg 3 (kA 2 [v0,.glb 0])]) .nil,.asgT [4,5] (tU [lS [],tU []]),.whl (.or (mE 2 v0 [cS [65,83,67,69,78,68,73,78,71]]) (mE 2 v0 [cS [68,69,83,67,69,78,68,73,78,71]])) (sL [.asg 6 (.cmp .Eq (.atr 1 (mE 4 v0 [])) (cS [65,83,67,69,78,68,73,78,71])),.expr (mE 0 v0 [cS [75,69,89]]),.expr (mE 0 v0 [cS [73,83]]),.expr (mE 3 v4 [.comp [7] (mE 1 v0 []) .nop (tU [v6,v7])])]),.ifs (mE 0 v0 [cS [73,78,68,69,88,69,68]]) (sL [.expr (mE 0 v0 [cS [66,89]]),.asg 5 (kA 1 [mE 1 v0 []])]) .nil,.ifs (.or (.cmp .Lt v2 v1) (.or (.cmp .Eq v2 (cI 0)) (.and (.cmp .Is v3 (.cst (.none))) (.cmp .NotEq v2 v1)))) (sL [.bad]) .nil,.ret (kA 0 [v1,v2,v3,v4,v5])]
def A6:cG:=⟨[("no_expression",.opq)],[("Occurs",Kp),("tuple",fi),("read_ref",LP)],[("skip",vB),("names",Wp),("is_word",GS),("extend",(fS fZ)),("take",Eo),("whole",Os)]⟩
def OH:SM:=
  cg A6 DG
def Cb:aW:=bn 1 [] OH
def ry:TS:=sL [.ifs (.cmp .Eq v2 (cS [82,69,68,69,70,73,78,69,83])) (sL [.bad]) (sL [.ifs (.cmp .Eq v2 (cS [79,67,67,85,82,83])) (sL [.asgA 14 v1 (kA 0 [v0])]) (sL [.ifs (.cmp .Eq v2 (cS [74,85,83,84,73,70,73,69,68])) (sL [.bad,.bad]) (sL [.ifs (.cmp .Eq v2 (cS [66,76,65,78,75])) (sL [.bad,.bad,.bad]) (sL [.ifs (.cmp .Eq v2 (cS [86,65,76,85,69])) (sL [.bad,.bad]) (sL [.ifs (.cmp .Eq v2 (cS [85,83,65,71,69])) (sL [.expr (mE 2 v0 [cS [73,83]]),.asg 3 (mE 0 v0 [mE 1 (cS [32]) [.glb 0]]),.ifs (.cmp .Eq v3 (cS [])) (sL [.bad]) .nil,.asgA 15 v1 (.idx (.glb 0) v3)]) (sL [.bad])])])])])])]
def pZ:cG:=⟨[("USAGE_WORDS",t4)],[("read_occurs",Cb)],[("one_of",tz),("join",(iq vy)),("skip",vB)]⟩
def Ch:SM:=
  cg pZ ry
def rf:aW:=bn 3 [] Ch
def Dz:TS:=sL [.for_ [1] (tU [cS [82,69,68,69,70,73,78,69,83],cS [79,67,67,85,82,83],cS [66,76,65,78,75],cS [86,65,76,85,69],cS [85,83,65,71,69],cS [83,73,71,78]]) (sL [.ifs (mE 0 v0 [v1]) (sL [.ret v1]) .nil]),.bad,.bad,.bad]
def A0:cG:=⟨[],[],[("skip",vB)]⟩
def OB:SM:=
  cg A0 Dz
def BU:aW:=bn 1 [] OB
def sM:TS:=sL [.ifs (.cmp .NotEq (mE 0 v0 [cS [80,73,67,32,80,73,67,84,85,82,69]]) (cS [])) (sL [.ifs (.not (mE 3 v0 [cS [112,105,99,116,117,114,101]])) (sL [.bad]) .nil,.asgA 16 v1 (.atr 1 (mE 2 v0 [])),.ret (cS [80,73,67,84,85,82,69])]) .nil,.asg 2 (mE 0 v0 [mE 1 (cS [32]) [.glb 0]]),.ifs (.cmp .NotEq v2 (cS [])) (sL [.bad,.bad]) .nil,.asg 3 (mE 0 v0 [cS [76,69,65,68,73,78,71,32,84,82,65,73,76,73,78,71]]),.ifs (.cmp .NotEq v3 (cS [])) (sL [.bad,.bad]) .nil,.ret (cS [])]
def rB:cG:=⟨[("USAGE_WORDS",t4)],[],[("one_of",tz),("join",(iq vy)),("take",Eo),("is_kind",t5)]⟩
def Fk:SM:=
  cg rB sM
def sx:aW:=bn 2 [] Fk
def AK:TS:=sL [.asg 2 (lS []),.whl (.not (mE 0 v0 [cS [46]])) (sL [.asg 3 (mE 2 v0 []),.asg 4 (kA 2 [v0,v1]),.ifs (.cmp .Eq v4 (cS [])) (sL [.asg 4 (kA 1 [v0]),.ifs (.cmp .Eq v4 (cS [])) (sL [.bad]) .nil,.expr (kA 0 [v0,v1,v4])]) .nil,.ifs (.cmp .In v4 v2) (sL [.bad]) .nil,.expr (mE 1 v2 [v4])])]
def yx:cG:=⟨[],[("read_named_clause",rf),("clause_word",BU),("read_bare_clause",sx)],[("is_sign",qi),("append",(fS gu)),("peek",yZ)]⟩
def MU:SM:=
  cg yx AK
def z7:aW:=bn 2 [] MU
def yi:TS:=sL [.asgA 20 v0 v1,.asgA 18 v0 v2,.asgA 16 v0 (.cst (.none)),.asgA 15 v0 (cS []),.asgA 10 v0 (cS []),.asgA 35 v0 (.cst (.bool false)),.asgA 14 v0 (.cst (.none)),.asgA 17 v0 (cS []),.asgA 11 v0 (.cst (.none)),.asgA 13 v0 (.cst (.bool false)),.asgA 12 v0 (.cst (.bool false)),.asgA 23 v0 (lS []),.asgA 22 v0 (lS []),.asgA 34 v0 (.cst (.none)),.asgA 21 v0 (.cst (.none)),.asgA 33 v0 (cS []),.asgA 32 v0 (cI 0),.asgA 31 v0 (cI 0),.asgA 30 v0 (.cst (.none))]
noncomputable def wt:cG:=⟨[],[],[]⟩
def xC:SM:=
  cg wt yi
def Kn:aW:=bn 3 [] xC
def oZ:aW:=uy cp Kn
def Nn:TS:=sL [.ifs (.not (.atr 38 v0)) (sL [.bad]) .nil,.ret (kA 0 [v1,.atr 4 (.idx (.atr 38 v0) (kA 1 [.atr 4 v0,.bin .Sub (kA 2 [.atr 38 v0]) (cI 1)]))])]
def Lr:cG:=⟨[],[("GrammarFault",Wl),("min",Ur),("len",eV)],[]⟩
def rP:SM:=
  (aV (sf (pf (jh (un (aA 38) (al 0))))
  (aV (fun _ _=>none)
  bq)
  bq)
  (aV (eK (bv Wl (aw (al 1) (aw (un (aA 4) (bi fU (un (aA 38) (al 0)) (bv Ur (aw (un (aA 4) (al 0)) (aw (bi (b4 .Sub) (bv eV (aw (un (aA 38) (al 0)) aJ)) (ba (.int (1)))) aJ))))) aJ))))
  bq))
def nA:aW:=bn 2 [] rP
def acV:gR:=(fm dr nA gP)
def Oq:gR:=(fm dr So gP)
def Gg:TS:=sL [.asg 1 (mE 5 v0 [cS [110,111,32,108,101,118,101,108]]),.asg 2 (mE 4 v0 []),.ifs (.and (.not (.cmp2 .LtE .LtE (cI 1) v2 (.glb 4))) (.cmp .NotIn v2 (tU [.glb 1,.glb 2,.glb 0]))) (sL [.bad]) .nil,.asg 3 (kA 4 [v2,.glb 3]),.ifs (mE 1 v0 []) (sL [.asgA 18 v3 (mE 2 v0 [])]) (sL [.ifs (.cmp .In v2 (tU [.glb 1,.glb 2,.glb 0])) (sL [.bad]) (sL [.expr (mE 3 v0 [.glb 3])])]),.ifs (.cmp .Eq v2 (.glb 0)) (sL [.asgA 23 v3 (lS [kA 0 [.atr 18 v3,kA 1 [v0]]])]) (sL [.ifs (.cmp .Eq v2 (.glb 1)) (sL [.asgA 21 v3 (kA 2 [v0])]) (sL [.expr (kA 3 [v0,v3])])]),.expr (mE 0 v0 [cS [46]]),.ret v3]
def DZ:cG:=⟨[("NAMING",Ki),("RENAMING",BG),("ALONE",BE),("FILLER",Ss),("MOST_LEVEL",FA)],[("Named",xu),("read_worths",Cc),("read_renames",Ab),("read_clauses",z7),("Item",oZ)],[("need_sign",yY),("is_name",t6),("name",En),("skip",vB),("whole",Os),("fault",Oq)]⟩
def RA:SM:=
  cg DZ Gg
def lF:aW:=bn 1 [] RA
def qK:aW:=ur wM lF
def AM:TS:=sL [.asg 1 (lS []),.whl (kA 1 [v0]) (sL [.expr (mE 0 v1 [kA 2 [v0]])]),.ret (kA 0 [v1])]
def yz:cG:=⟨[],[("nested",Sx),("is_level_here",qf),("read_entry",wz)],[("append",(fS gu))]⟩
def MW:SM:=
  cg yz AM
def xr:aW:=Jk (um ajB 12) (bn 1 [] MW)
def nC:aW:=ur nX xr
def uY:TS:=sL [.asg 3 (mE 3 v0 [cS [97,32,102,105,108,101,32,116,119,105,99,101,44,32,111,114,32,111,110,101,32,119,105,116,104,111,117,116,32,114,101,99,111,114,100,115]]),.asg 4 (mE 2 v0 []),.whl (.not (mE 1 v0 [cS [46]])) (sL [.bad,.bad]),.asg 5 (kA 0 [v0]),.ifs (.cmp .NotEq (.comp [6] v5 (.cmp .Eq (.atr 20 v6) (.glb 0)) v6) (lS [])) (sL [.bad]) .nil,.ifs (.or (.cmp .In v4 (.atr 26 v1)) (.cmp .Eq v5 (lS []))) (sL [.bad]) .nil,.asgI (.atr 26 v1) v4 v5,.ifs v2 (sL [.expr (mE 0 (.atr 27 v1) [v4])]) .nil]
def sT:cG:=⟨[("ALONE",BE)],[("read_entries",nz)],[("append",(fS gu)),("skip_sign",s5),("name",En),("fault",Oq)]⟩
def G0:SM:=
  cg sT uY
def ua:aW:=bn 3 [] G0
def yh:TS:=sL [.asgA 24 v0 (lS []),.asgA 25 v0 (lS []),.asgA 26 v0 .dic,.asgA 27 v0 (lS []),.asgA 31 v0 (cI 0),.asgA 5 v0 .dic]
noncomputable def wq:cG:=⟨[],[],[]⟩
def xB:SM:=
  cg wq yh
def Km:aW:=bn 1 [] xB
def vC:aW:=uy Zy Km
def JL:TS:=sL [.asg 1 (kA 3 []),.ifs (.not (kA 0 [v0,cS [68,65,84,65,32,68,73,86,73,83,73,79,78]])) (sL [.ret v1]) .nil,.ifs (kA 0 [v0,cS [70,73,76,69,32,83,69,67,84,73,79,78]]) (sL [.whl (.or (mE 0 v0 [cS [70,68]]) (mE 0 v0 [cS [83,68]])) (sL [.expr (kA 2 [v0,v1,.cmp .Eq (.atr 1 (mE 2 v0 [])) (cS [83,68])])])]) .nil,.ifs (kA 0 [v0,cS [87,79,82,75,73,78,71,45,83,84,79,82,65,71,69,32,83,69,67,84,73,79,78]]) (sL [.asgA 24 v1 (kA 1 [v0])]) .nil,.ifs (kA 0 [v0,cS [76,73,78,75,65,71,69,32,83,69,67,84,73,79,78]]) (sL [.asgA 25 v1 (kA 1 [v0])]) .nil,.ifs (.and (.not (mE 1 v0 [])) (.not (mE 0 v0 [cS [80,82,79,67,69,68,85,82,69,32,68,73,86,73,83,73,79,78]]))) (sL [.bad]) .nil,.ret v1]
def Gp:cG:=⟨[],[("skip_heading",Af),("read_entries",nz),("read_file_entry",ua),("Data",vC)],[("is_word",GS),("is_done",qh),("take",Eo)]⟩
def UA:SM:=
  cg Gp JL
def FE:aW:=Jk (um anz 12) (bn 1 [] UA)
def o5:aW:=ur nX FE
def mh(lab:List AV->List AV):aW:=fun args σ=>self args σ fun r as L=>KX as (o5 [.ref r] (σ.set r (.orc 1021 (lab L))))
def HO:TS:=sL [.asgA 38 v0 v1,.asgA 4 v0 v2,.asgA 37 v0 .dic,.asgA 36 v0 .dic]
noncomputable def Ft:cG:=⟨[],[],[]⟩
def km:SM:=
  (aV (lT 38 (al 0) (al 1))
  (aV (lT 4 (al 0) (al 2))
  (aV (lT 37 (al 0) FT)
  (aV (lT 36 (al 0) FT)
  bq))))
def ja:aW:=bn 3 [.int (0)] km
def xx:aW:=anv (uy dr ja)
def wl:TS:=sL [.asgA 2 v0 v1,.asgA 1 v0 v2,.asgA 4 v0 v3,.asgA 28 v0 v4]
noncomputable def u5:cG:=⟨[],[],[]⟩
def vH:SM:=
  cg u5 wl
def Iv:aW:=bn 5 [.tup [.int (0),.int (0)],.bool false] vH
def Ot:aW:=FW 8 (uy UX Iv)
def uX:TS:=sL [.ret (.and (.cmp .Gt (kA 0 [v0]) (cI 0)) (.and (.cmp .Eq (.atr 2 (.idx v0 (.neg (cI 1)))) (cS [119,111,114,100])) (.cmp .In (.atr 1 (.idx v0 (.neg (cI 1)))) (tU [cS [80,73,67],cS [80,73,67,84,85,82,69]]))))]
def sS:cG:=⟨[],[("len",eV)],[]⟩
def GZ:SM:=
  cg sS uX
def t9:aW:=bn 1 [] GZ
def Ga:TS:=sL [.ret (.ife (.cmp2 .LtE .LtE (cS [97]) v0 (cS [122])) (kA 0 [.bin .Sub (kA 1 [v0]) (cI 32)]) v0)]
def DU:cG:=⟨[],[("chr",Zb),("ord",Zc)],[]⟩
def Ru:SM:=
  cg DU Ga
def ni:aW:=bn 1 [] Ru
def Mq:TS:=sL [.ret (mE 0 (cS []) [.comp [1] v0 .nop (kA 0 [v1])])]
def JY:cG:=⟨[],[("capital_of",ni)],[("join",(iq vy))]⟩
def Wv:SM:=
  cg JY Mq
def vE:aW:=bn 1 [] Wv
def DE:TS:=sL [.asg 2 v1,.whl (.and (.cmp .Lt v2 (kA 0 [v0])) (.cmp .NotIn (.idx v0 v2) (cS [32,61]))) (sL [.asg 2 (.bin .Add v2 (cI 1))]),.ret (.ife (.and (.cmp .Gt v2 v1) (.cmp .In (.idx v0 (.bin .Sub v2 (cI 1))) (.glb 0))) (.bin .Sub v2 (cI 1)) v2)]
def A4:cG:=⟨[("ENDS",abv)],[("len",eV)],[]⟩
def OF:SM:=
  cg A4 DE
def BZ:aW:=bn 2 [] OF
def uW:TS:=sL [.asg 2 (kA 1 [.atr 0 v0,v1]),.ifs (.cmp .Eq v2 v1) (sL [.bad]) .nil,.ret (tU [kA 0 [.slc (.atr 0 v0) v1 v2],v2])]
def sR:cG:=⟨[],[("capitals",vE),("picture_end",BZ)],[]⟩
def GY:SM:=
  cg sR uW
def t8:aW:=bn 2 [] GY
def JK:TS:=sL [.ret (.or (.cmp .GtE v1 (kA 0 [v0])) (.cmp .Eq (.idx v0 v1) (cS [32])))]
def Go:cG:=⟨[],[("len",eV)],[]⟩
def Uy:SM:=
  cg Go JK
def s9:aW:=bn 2 [] Uy
def QV:TS:=sL [.asg 2 (.slc (.atr 0 v0) v1 (.bin .Add v1 (cI 2))),.ifs (.cmp .Eq v2 (cS [61,61])) (sL [.bad]) .nil,.ifs (.cmp .In v2 (mE 0 (.glb 1) [cS [32]])) (sL [.bad]) .nil,.asg 3 (.idx (.atr 0 v0) v1),.ifs (.or (.cmp .In v3 (.glb 0)) (.and (.cmp .Eq v3 (cS [46])) (kA 0 [.atr 0 v0,.bin .Add v1 (cI 1)]))) (sL [.ret (tU [cS [115,105,103,110],v3])]) .nil,.bad]
def ME:cG:=⟨[("SINGLE_SIGNS",zV),("DOUBLE_SIGNS",zT)],[("is_parted",s9)],[("split",(iq kG))]⟩
def Zk:SM:=
  cg ME QV
def Ov:aW:=bn 2 [] Zk
def uV:TS:=sL [.asg 3 (.idx (.atr 0 v0) v1),.asg 4 (mE 0 (.slc (.atr 0 v0) (.bin .Add v1 (cI 1)) (.bin .Sub v2 (cI 1))) [.bin .Add v3 v3,v3]),.ifs (.not (.cmp2 .LtE .LtE (cI 1) (kA 0 [v4]) (.glb 0))) (sL [.bad]) .nil,.ret v4]
def sQ:cG:=⟨[("MOST_LITERAL",zU)],[("len",eV)],[("replace",(iq tZ))]⟩
def GX:SM:=
  cg sQ uV
def t7:aW:=bn 3 [] GX
def AI:TS:=sL [.ret (.cmp .In (kA 0 [v0]) (.glb 0))]
def yv:cG:=⟨[("WORD_SIGNS",wA)],[("capital_of",ni)],[]⟩
def MS:SM:=
  cg yv AI
def z6:aW:=bn 1 [] MS
def Ge:TS:=sL [.asg 2 (.slc (.atr 0 v0) v1 (.bin .Add v1 (cI 2))),.ifs (.cmp .Eq v2 (cS [])) (sL [.bad]) .nil,.ifs (.or (.and (kA 0 [.idx v2 (cI 0)]) (.cmp .NotEq (.idx v2 (cI 0)) (cS [45]))) (.cmp .In (.idx v2 (cI 0)) (.glb 1))) (sL [.bad]) .nil,.ifs (.and (.cmp .Eq (.idx v2 (cI 0)) (cS [46])) (.and (.cmp .NotEq (.slc v2 (cI 1) .nop) (cS [])) (.cmp .In (.idx v2 (cI 1)) (.glb 0)))) (sL [.bad]) .nil]
def DX:cG:=⟨[("FIGURES_tokens",lc),("QUOTES",Kj)],[("is_word_sign",z6)],[]⟩
def Rx:SM:=
  cg DX Ge
def FI:aW:=bn 2 [] Rx
def DC:TS:=sL [.asg 2 (.idx (.atr 0 v0) v1),.asg 3 (.bin .Add v1 (cI 1)),.whl (.cmp .Lt v3 (kA 0 [.atr 0 v0])) (sL [.ifs (.cmp .NotEq (.idx (.atr 0 v0) v3) v2) (sL [.asg 3 (.bin .Add v3 (cI 1))]) (sL [.ifs (.cmp .Eq (.slc (.atr 0 v0) (.bin .Add v3 (cI 1)) (.bin .Add v3 (cI 2))) v2) (sL [.bad]) (sL [.ret (.bin .Add v3 (cI 1))])])]),.bad]
def A3:cG:=⟨[],[("len",eV)],[]⟩
def OE:SM:=
  cg A3 DC
def BX:aW:=bn 2 [] OE
def AF:TS:=sL [.asg 3 (kA 1 [.slc (.atr 0 v0) v1 v2]),.ifs (.cmp .Eq (.comp [4] v3 (.cmp .In v4 (.glb 1)) v4) (lS [])) (sL [.bad]) .nil,.ifs (.cmp .Eq (.idx v3 (.neg (cI 1))) (cS [45])) (sL [.bad]) .nil,.ifs (.cmp .Gt (kA 0 [v3]) (.glb 0)) (sL [.bad]) .nil,.ret v3]
def ys:cG:=⟨[("MOST_WORD",Ir),("LETTERS",GO)],[("len",eV),("capitals",vE)],[]⟩
def MO:SM:=
  cg ys AF
def zZ:aW:=bn 3 [] MO
def wm:TS:=sL [.asg 3 (.slc (.atr 0 v0) v1 v2),.ifs (.cmp .Gt (kA 0 [.rep 46 v3]) (.glb 0)) (sL [.bad]) .nil,.ret v3]
def u6:cG:=⟨[("MOST_FIGURES",rJ)],[("len",eV)],[]⟩
def IA:SM:=
  cg u6 wm
def vF:aW:=bn 3 [] IA
def QX:TS:=sL [.whl (.and (.cmp .Lt v1 (kA 1 [v0])) (.cmp .In (kA 0 [.idx v0 v1]) v2)) (sL [.asg 1 (.bin .Add v1 (cI 1))]),.ret v1]
def MG:cG:=⟨[],[("capital_of",ni),("len",eV)],[]⟩
def Zm:SM:=
  cg MG QX
def GW:aW:=bn 3 [] Zm
def Gf:TS:=sL [.asg 2 (kA 0 [v0,v1,.glb 0]),.ifs (.and (.cmp .Eq (.slc v0 v2 (.bin .Add v2 (cI 1))) (cS [46])) (.and (.cmp .NotEq (.slc v0 (.bin .Add v2 (cI 1)) (.bin .Add v2 (cI 2))) (cS [])) (.cmp .In (.idx v0 (.bin .Add v2 (cI 1))) (.glb 0)))) (sL [.asg 2 (kA 0 [v0,.bin .Add v2 (cI 1),.glb 0])]) .nil,.ret v2]
def DY:cG:=⟨[("FIGURES_tokens",lc)],[("run_end",GW)],[]⟩
def Ry:SM:=
  cg DY Gf
def FJ:aW:=bn 2 [] Ry
def Mx:TS:=sL [.asg 2 (kA 9 [.idx (.atr 0 v0) v1]),.ifs (.or (.cmp .In v2 (.glb 2)) (.cmp .In v2 (.glb 1))) (sL [.asg 3 (kA 8 [.atr 0 v0,v1,.glb 3]),.asg 4 (kA 7 [.atr 0 v0,v1]),.ifs (.and (.cmp .In v2 (.glb 1)) (.cmp .GtE v4 v3)) (sL [.expr (kA 3 [v0,v4]),.ret (tU [cS [110,117,109,98,101,114],kA 6 [v0,v1,v4],v4])]) .nil,.expr (kA 3 [v0,v3]),.ret (tU [cS [119,111,114,100],kA 5 [v0,v1,v3],v3])]) .nil,.ifs (.and (.cmp .Eq v2 (cS [46])) (.and (.cmp .NotEq (.slc (.atr 0 v0) (.bin .Add v1 (cI 1)) (.bin .Add v1 (cI 2))) (cS [])) (.cmp .In (.idx (.atr 0 v0) (.bin .Add v1 (cI 1))) (.glb 1)))) (sL [.bad,.bad,.bad]) .nil,.ifs (.cmp .In v2 (.glb 0)) (sL [.asg 3 (kA 4 [v0,v1]),.expr (kA 3 [v0,v3]),.ret (tU [cS [108,105,116,101,114,97,108],kA 2 [v0,v1,v3],v3])]) .nil,.asgT [5,6] (kA 1 [v0,v1]),.ret (tU [v5,v6,.bin .Add v1 (kA 0 [v6])])]
def J6:cG:=⟨[("QUOTES",Kj),("FIGURES_tokens",lc),("LETTERS",GO),("WORD_SIGNS",wA)],[("len",eV),("mark_at",Ov),("checked_literal",t7),("need_apart",FI),("literal_end",BX),("checked_word",zZ),("checked_number",vF),("number_end",FJ),("run_end",GW),("capital_of",ni)],[]⟩
def WC:SM:=
  cg J6 Mx
def LV:aW:=bn 2 [] WC
def Gb:TS:=sL [.ret (.and (.cmp .Eq (kA 1 [.slc v0 v1 (.bin .Add v1 (cI 2))]) (cS [73,83])) (kA 0 [v0,.bin .Add v1 (cI 2)]))]
def DV:cG:=⟨[],[("is_parted",s9),("capitals",vE)],[]⟩
def Rv:SM:=
  cg DV Gb
def FG:aW:=bn 2 [] Rv
def DA:TS:=sL [.ret (.or (.cmp .Eq (.idx v0 v1) (cS [32])) (.and (.cmp .In (.idx v0 v1) (cS [44,59])) (kA 0 [v0,.bin .Add v1 (cI 1)])))]
def A1:cG:=⟨[],[("is_parted",s9)],[]⟩
def OC:SM:=
  cg A1 DA
def BV:aW:=bn 2 [] OC
def F9:TS:=sL [.asg 2 (cI 0),.asg 3 (.cst (.bool false)),.whl (.cmp .Lt v2 (kA 0 [.atr 0 v1])) (sL [.ifs (kA 6 [.atr 0 v1,v2]) (sL [.asg 2 (.bin .Add v2 (cI 1)),.cont]) .nil,.asg 4 (.idx (.atr 3 v1) v2),.ifs (.and (kA 2 [v0]) (.and (.not v3) (kA 5 [.atr 0 v1,v2]))) (sL [.bad,.bad,.bad]) .nil,.ifs (kA 2 [v0]) (sL [.asg 5 (cS [112,105,99,116,117,114,101]),.asgT [6,7] (kA 3 [v1,v2])]) (sL [.asgT [5,6,7] (kA 4 [v1,v2])]),.expr (mE 0 v0 [kA 1 [v5,v6,v4,.cmp2 .LtE .LtE (cI 8) (.idx v4 (cI 1)) (cI 11)]]),.asg 3 (.cst (.bool false)),.asg 2 v7])]
def DT:cG:=⟨[],[("len",eV),("Token",Ot),("is_picture_next",t9),("checked_picture",t8),("worth_at",LV),("is_word_is",FG),("is_blank_at",BV)],[("append",(fS gu))]⟩
def Rs:SM:=
  cg DT F9
def FF:aW:=bn 2 [] Rs
def JO:TS:=sL [.asg 1 (lS []),.for_ [2] v0 (sL [.expr (kA 0 [v1,v2])]),.ret v1]
def Gr:cG:=⟨[],[("add_tokens",FF)],[]⟩
def UC:SM:=
  cg Gr JO
def Ix:aW:=FW 12 (bn 1 [] UC)
def yj:TS:=sL [.asgA 0 v0 v1,.asgA 3 v0 v2]
noncomputable def wu:cG:=⟨[],[],[]⟩
def xE:SM:=
  cg wu yj
def Ko:aW:=bn 3 [] xE
def aby:aW:=FW 8 (uy cLine Ko)
def DK:TS:=sL [.asg 2 (.ife v1 (.glb 0) (.glb 1)),.asg 3 (kA 3 [lS [kA 4 [v0,.comp [5] (kA 0 [kA 1 [v0]]) .nop (tU [cI 1,.bin .Add v2 v5])]]]),.ret (.comp [4] (kA 0 [kA 1 [v3]]) .nop (kA 2 [.atr 2 (.idx v3 v4),.atr 1 (.idx v3 v4),.atr 4 (.idx v3 v4),.and v1 (.cmp .Eq v4 (cI 0))]))]
def Ba:cG:=⟨[("AREA_A",Sq),("AREA_B",Sr)],[("range",lD),("len",eV),("Token",Ot),("tokens_of",Ix),("Line",aby)],[]⟩
def OL:SM:=
  cg Ba DK
def rM:aW:=bn 2 [.bool false] OL
def cM:aW:=vU aaL rM
def TQ:TS:=sL [.ret (mE 0 (cS [32]) [.comp [1] v0 (.cmp .NotEq v1 (cS [])) v1])]
def Q7:cG:=⟨[],[],[("join",(iq vy))]⟩
def acX:SM:=
  cg Q7 TQ
def Ep:aW:=bn 1 [] acX
def TT:TS:=sL [.ret (.bin .Add (.bin .Add (cS [34]) (mE 0 v0 [cS [34],cS [34,34]])) (cS [34]))]
def Q9:cG:=⟨[],[],[("replace",(iq tZ))]⟩
def acZ:SM:=
  cg Q9 TT
def Sy:aW:=bn 1 [] acZ
def AU:TS:=sL [.ret (kA 0 [mE 0 (cS []) [.comp [1] v0 .nop (kA 1 [v1])]])]
def yF:cG:=⟨[],[("quoted",Sy),("chr",Zb)],[("join",(iq vy))]⟩
def M2:SM:=
  cg yF AU
def Ae:aW:=bn 1 [] M2
def yn:TS:=sL [.asg 1 (kA 1 [kA 2 [.idx v0 (cI 0)]]),.ifs (.cmp .Gt (.idx v0 (cI 1)) (cI 0)) (sL [.asg 1 (.bin .Add (.bin .Mult (cS [48]) (.bin .Sub (.bin .Add (.idx v0 (cI 1)) (cI 1)) (kA 0 [v1]))) v1),.asg 1 (.bin .Add (.bin .Add (.slc v1 .nop (.bin .Sub (kA 0 [v1]) (.idx v0 (cI 1)))) (cS [46])) (.slc v1 (.bin .Sub (kA 0 [v1]) (.idx v0 (cI 1))) .nop))]) .nil,.ret (.ife (.cmp .Lt (.idx v0 (cI 0)) (cI 0)) (.bin .Add (cS [45]) v1) v1)]
def wx:cG:=⟨[],[("len",eV),("str",Us),("abs",Za)],[]⟩
def Ku:SM:=
  cg wx yn
def xA:aW:=bn 1 [] Ku
def AR:TS:=sL [.asg 1 (kA 1 [v0]),.ret (.ife (.and (.cmp .Eq (.idx v0 (cI 1)) (.glb 0)) (.cmp .Lt (kA 0 [.idx v0 (cI 0)]) (.bin .Pow (cI 10) (.idx v0 (cI 1))))) (mE 0 v1 [cS [48,46],cS [46],cI 1]) v1)]
def yE:cG:=⟨[("MOST_FIGURES",rJ)],[("abs",Za),("write_decimal",xA)],[("replace",(iq tZ))]⟩
def M1:SM:=
  cg yE AR
def Ad:aW:=bn 1 [] M1
def AQ:TS:=sL [.ifs (.cmp .Eq (.idx v0 (cI 0)) (cS [114,101,102])) (sL [.bad]) .nil,.ifs (.cmp .Eq (.idx v0 (cI 0)) (cS [110,117,109,98,101,114])) (sL [.ret (kA 1 [.idx v0 (cI 1)])]) .nil,.ifs (.cmp .Eq (.idx v0 (cI 0)) (cS [102,105,103,117,114,101])) (sL [.bad]) .nil,.ret (.bin .Add (.ife (.cmp .Eq (.idx v0 (cI 0)) (cS [97,108,108])) (cS [65,76,76,32]) (cS [])) (kA 0 [.idx v0 (cI 1)]))]
def yD:cG:=⟨[],[("shown_octets",Ae),("shown_number",Ad)],[]⟩
def M0:SM:=
  cg yD AQ
def Ac:aW:=bn 2 [] M0
def AJ:TS:=sL [.ret (kA 0 [v0,.glb 0])]
def yw:cG:=⟨[("show_expression",.opq)],[("show_operand",Ac)],[]⟩
def MT:SM:=
  cg yw AJ
def rN:aW:=bn 1 [] MT
def DJ:TS:=sL [.asg 1 (lS []),.for_ [2,3] (.atr 19 v0) (sL [.expr (mE 0 v1 [.bin .Add (kA 1 [v2]) (.ife (.cmp .Is v3 (.cst (.none))) (cS []) (.bin .Add (cS [32,84,72,82,85,32]) (kA 1 [v3])))])]),.ret (.bin .Add (.bin .Add (.bin .Add (.bin .Add (cS [56,56,32]) (.atr 18 v0)) (cS [32,86,65,76,85,69,32])) (kA 0 [v1])) (cS [32,46]))]
def A9:cG:=⟨[],[("joined",Ep),("operand_text",rN)],[("append",(fS gu))]⟩
def OK:SM:=
  cg A9 DJ
def zX:aW:=bn 1 [] OK
def lH:aW:=vU nX zX
def TU:TS:=sL [.ret (.ife (.cmp .Eq v1 (cS [])) (cS []) (.bin .Add (.bin .Add v0 (cS [32])) v1))]
noncomputable def Ra:cG:=⟨[],[],[]⟩
def ac0:SM:=
  cg Ra TU
def Kq:aW:=bn 2 [] ac0
def Mu:TS:=sL [.asg 2 (mE 0 (cS [32,79,70,32]) [.bin .Add (lS [.idx v0 (cI 1)]) (kA 0 [.idx v0 (cI 2)])]),.ifs (.cmp .NotEq (.idx v0 (cI 3)) (tU [])) (sL [.bad]) .nil,.ifs (.cmp .IsNot (.idx v0 (cI 4)) (.cst (.none))) (sL [.bad,.bad]) .nil,.ret v2]
def J3:cG:=⟨[],[("list",abt)],[("join",(iq vy))]⟩
def Wz:SM:=
  cg J3 Mu
def LS:aW:=bn 2 [] Wz
def Mt:TS:=sL [.ret (kA 0 [v0,.glb 0])]
def J2:cG:=⟨[("show_expression",.opq)],[("show_ref",LS)],[]⟩
def Wy:SM:=
  cg J2 Mt
def LQ:aW:=bn 1 [] Wy
def DI:TS:=sL [.ifs (.cmp .Is (.atr 7 v0) (.cst (.none))) (sL [.asg 1 (.bin .Add (.bin .Add (cS [79,67,67,85,82,83,32]) (kA 2 [.atr 8 v0])) (cS [32,84,73,77,69,83]))]) (sL [.asg 1 (.bin .Add (.bin .Add (.bin .Add (.bin .Add (.bin .Add (cS [79,67,67,85,82,83,32]) (kA 2 [.atr 8 v0])) (cS [32,84,79,32])) (kA 2 [.atr 9 v0])) (cS [32,84,73,77,69,83,32,68,69,80,69,78,68,73,78,71,32,79,78,32])) (kA 3 [.atr 7 v0]))]),.asg 2 (.comp [3,4] (.atr 6 v0) .nop (.bin .Add (.ife v3 (cS [65,83,67,69,78,68,73,78,71,32,75,69,89,32,73,83,32]) (cS [68,69,83,67,69,78,68,73,78,71,32,75,69,89,32,73,83,32])) v4)),.ret (kA 0 [.bin .Add (.bin .Add (lS [v1]) v2) (lS [kA 1 [cS [73,78,68,69,88,69,68,32,66,89],kA 0 [.atr 5 v0]]])])]
def A8:cG:=⟨[],[("joined",Ep),("worded",Kq),("str",Us),("ref_text",LQ)],[]⟩
def OJ:SM:=
  cg A8 DI
def Ce:aW:=bn 1 [] OJ
def JN:TS:=sL [.ifs (.cmp .Eq (.atr 10 v0) (cS [])) (sL [.ret (cS [])]) .nil,.bad]
noncomputable def Gq:cG:=⟨[],[],[]⟩
def UB:SM:=
  cg Gq JN
def Iw:aW:=bn 1 [] UB
def AG:TS:=sL [.ret (lS [kA 3 [cS [82,69,68,69,70,73,78,69,83],.atr 17 v0],.ife (.cmp .Is (.atr 16 v0) (.cst (.none))) (cS []) (.bin .Add (cS [80,73,67,32]) (.atr 16 v0)),.ife (.cmp .Eq (.atr 15 v0) (cS [])) (cS []) (.bin .Add (cS [85,83,65,71,69,32,73,83,32]) (.idx (.glb 0) (.atr 15 v0))),kA 2 [v0],.ife (.cmp .Is (.atr 14 v0) (.cst (.none))) (cS []) (kA 1 [.atr 14 v0]),.ife (.atr 13 v0) (cS [74,85,83,84,73,70,73,69,68,32,82,73,71,72,84]) (cS []),.ife (.atr 12 v0) (cS [66,76,65,78,75,32,87,72,69,78,32,90,69,82,79]) (cS []),.ife (.cmp .Is (.atr 11 v0) (.cst (.none))) (cS []) (.bin .Add (cS [86,65,76,85,69,32,73,83,32]) (kA 0 [.atr 11 v0]))])]
def yt:cG:=⟨[("USAGE_NAMES",BH)],[("operand_text",rN),("show_occurs",Ce),("show_sign",Iw),("worded",Kq)],[]⟩
def MP:SM:=
  cg yt AG
def z0:aW:=bn 1 [] MP
def Gc:TS:=sL [.ret (.slc (.bin .Add (cS [48]) (kA 0 [v0])) (.neg (cI 2)) .nop)]
def DW:cG:=⟨[],[("str",Us)],[]⟩
def Rw:SM:=
  cg DW Gc
def FH:aW:=bn 1 [] Rw
def Gi:TS:=sL [.asg 1 (.bin .Add (.bin .Add (kA 2 [.atr 20 v0]) (cS [32])) (.atr 18 v0)),.ifs (.cmp .Eq (.atr 20 v0) (.glb 0)) (sL [.asgT [2,3] (.atr 21 v0),.ret (.bin .Add (.bin .Add (.bin .Add (.bin .Add v1 (cS [32,82,69,78,65,77,69,83,32])) v2) (.ife (.cmp .Is v3 (.cst (.none))) (cS []) (.bin .Add (cS [32,84,72,82,85,32]) v3))) (cS [32,46]))]) .nil,.ret (kA 0 [.bin .Add (.bin .Add (lS [v1]) (kA 1 [v0])) (lS [cS [46]])])]
def D0:cG:=⟨[("RENAMES_LEVEL",xm)],[("joined",Ep),("clause_texts",z0),("level_text",FH)],[]⟩
def RB:SM:=
  cg D0 Gi
def BQ:aW:=bn 1 [] RB
def nj:aW:=vU nX BQ
def Nq:TS:=sL [.asg 1 (kA 1 [kA 3 [v0],.cmp .In (.atr 20 v0) (.glb 0)]),.for_ [2] (.atr 23 v0) (sL [.expr (mE 0 v1 [kA 1 [kA 2 [v2]]])]),.for_ [3] (.atr 22 v0) (sL [.expr (mE 0 v1 [kA 0 [v3]])]),.ret v1]
def Lu(self:aW):cG:=⟨[("TOP_LEVELS",iW)],[("entry_tokens",self),("text_tokens",cM),("show_worths",lH),("show_entry",nj)],[("extend",(fS fZ))]⟩
def nD(self:aW):SM:=
  (aV (cT [1] (bv cM (aw (bv nj (aw (al 0) aJ)) (aw (rW (fw (b5 .In) (un (aA 20) (al 0)) (ba iW))) aJ))))
  (aV (gB [2] (un (aA 23) (al 0))
  (aV (k8 (cJ (fS fZ) (al 1) (aw (bv cM (aw (bv lH (aw (al 2) aJ)) aJ)) aJ)))
  bq))
  (aV (gB [3] (un (aA 22) (al 0))
  (aV (k8 (cJ (fS fZ) (al 1) (aw (bv self (aw (al 3) aJ)) aJ)))
  bq))
  (aV (eK (al 1))
  bq))))
def xq(self:aW):aW:=FW 12 (bn 1 [] (nD self))
def cu:Nat->aW
 |0=>Uq
 |n+1=>vU nX (xq (cu n))
def Nr:TS:=sL [.asg 1 (lS []),.for_ [2] v0 (sL [.expr (mE 0 v1 [kA 0 [v2]])]),.ret v1]
def Lv:cG:=⟨[],[("entry_tokens",(cu 6))],[("extend",(fS fZ))]⟩
def rR:SM:=
  (aV (cT [1] (bv de aJ))
  (aV (gB [2] (al 0)
  (aV (k8 (cJ (fS fZ) (al 1) (aw (bv (cu 6) (aw (al 2) aJ)) aJ)))
  bq))
  (aV (eK (al 1))
  bq)))
def xt:aW:=FW 12 (bn 1 [] rR)
def iG:aW:=vU nX xt
def JM:TS:=sL [.ifs (.cmp .Eq v1 (lS [])) (sL [.ret (lS [])]) .nil,.ret (.bin .Add (kA 0 [.bin .Add v0 (cS [32,83,69,67,84,73,79,78,46]),.cst (.bool true)]) (kA 1 [v1]))]
def H0:cG:=⟨[],[("text_tokens",cM),("roots_tokens",iG)],[]⟩
def eR:SM:=
  (aV (sf (fw (b5 .Eq) (al 1) (bv de aJ))
  (aV (eK (bv de aJ))
  bq)
  bq)
  (aV (eK (bi (b4 .Add) (bv cM (aw (bi (b4 .Add) (al 0) (ba (.str [32,83,69,67,84,73,79,78,46]))) (aw (ba (.bool true)) aJ))) (bv iG (aw (al 1) aJ))))
  bq))
def nT:aW:=FW 12 (bn 2 [] eR)
def eP:aW:=vU nX nT
def QT:TS:=sL [.asg 1 (lS []),.for_ [2] (.atr 26 v0) (sL [.asg 3 (.ife (.cmp .In v2 (.atr 27 v0)) (cS [83,68,32]) (cS [70,68,32])),.expr (mE 0 v1 [.bin .Add (kA 0 [.bin .Add (.bin .Add v3 v2) (cS [46]),.cst (.bool true)]) (kA 2 [.idx (.atr 26 v0) v2])])]),.ifs (.cmp .NotEq v1 (lS [])) (sL [.asg 1 (.bin .Add (kA 0 [cS [70,73,76,69,32,83,69,67,84,73,79,78,46],.cst (.bool true)]) v1)]) .nil,.asg 1 (.bin .Add (.bin .Add v1 (kA 1 [cS [87,79,82,75,73,78,71,45,83,84,79,82,65,71,69],.atr 24 v0])) (kA 1 [cS [76,73,78,75,65,71,69],.atr 25 v0])),.ret (.ife (.cmp .NotEq v1 (lS [])) (.bin .Add (kA 0 [cS [68,65,84,65,32,68,73,86,73,83,73,79,78,46],.cst (.bool true)]) v1) (lS []))]
def Ny:cG:=⟨[],[("text_tokens",cM),("section_tokens",eP),("roots_tokens",iG)],[("extend",(fS fZ))]⟩
def pc:SM:=
  (aV (cT [1] (bv de aJ))
  (aV (gB [2] (un (aA 26) (al 0))
  (aV (cT [3] (ti (fw (b5 .In) (al 2) (un (aA 27) (al 0))) (ba (.str [83,68,32])) (ba (.str [70,68,32]))))
  (aV (k8 (cJ (fS fZ) (al 1) (aw (bi (b4 .Add) (bv cM (aw (bi (b4 .Add) (bi (b4 .Add) (al 3) (al 2)) (ba (.str [46]))) (aw (ba (.bool true)) aJ))) (bv iG (aw (bi fU (un (aA 26) (al 0)) (al 2)) aJ))) aJ)))
  bq)))
  (aV (sf (fw (b5 .NotEq) (al 1) (bv de aJ))
  (aV (cT [1] (bi (b4 .Add) (bv cM (aw (ba (.str [70,73,76,69,32,83,69,67,84,73,79,78,46])) (aw (ba (.bool true)) aJ))) (al 1)))
  bq)
  bq)
  (aV (cT [1] (bi (b4 .Add) (bi (b4 .Add) (al 1) (bv eP (aw (ba (.str [87,79,82,75,73,78,71,45,83,84,79,82,65,71,69])) (aw (un (aA 24) (al 0)) aJ)))) (bv eP (aw (ba (.str [76,73,78,75,65,71,69])) (aw (un (aA 25) (al 0)) aJ)))))
  (aV (eK (ti (fw (b5 .NotEq) (al 1) (bv de aJ)) (bi (b4 .Add) (bv cM (aw (ba (.str [68,65,84,65,32,68,73,86,73,83,73,79,78,46])) (aw (ba (.bool true)) aJ))) (al 1)) (bv de aJ)))
  bq)))))
def rL:aW:=FW 12 (bn 1 [] pc)
def ik:aW:=Z0 14 (vU nX rL)
def Lm:TS:=sL [.asg 1 (kA 7 [v0]),.asg 2 (kA 6 [v1]),.ifs (.or (.cmp .NotEq (mE 0 (kA 5 [v2]) []) (mE 0 v0 [])) (.not (mE 1 v2 []))) (sL [.bad]) .nil,.asg 3 (.bin .Add (.bin .Add (.comp2 15 (.atr 26 v0) 16 (.idx (.atr 26 v0) v15) v16) (.atr 24 v0)) (.atr 25 v0)),.frz 3,.ifs (.cmp .Eq v3 (lS [])) (sL [.ret (.cmp .Eq v1 (lS []))]) .nil,.asg 4 (.bin .Add (.bin .Add (.bin .Add (lS [cS [68,65,84,65]]) (.ife (.cmp .NotEq (.atr 26 v0) .dic) (lS [cS [70,73,76,69]]) (lS []))) (.ife (.cmp .NotEq (.atr 24 v0) (lS [])) (lS [cS [87,79,82,75,73,78,71,45,83,84,79,82,65,71,69]]) (lS []))) (.ife (.cmp .NotEq (.atr 25 v0) (lS [])) (lS [cS [76,73,78,75,65,71,69]]) (lS []))),.asg 5 (.comp [14] v1 (.atr 28 v14) (.atr 1 v14)),.ifs (.cmp .NotEq (kA 4 [v5]) (kA 4 [.bin .Add (.bin .Add v4 (.comp [12] (.atr 26 v0) .nop (.ife (.cmp .In v12 (.atr 27 v0)) (cS [83,68]) (cS [70,68])))) (.comp [13] v3 .nop (.idx (.dicI 1 77 [48,49] [55,55]) (.atr 20 v13)))])) (sL [.bad]) .nil,.asg 6 (.comp [11] (kA 2 [kA 3 [v1]]) (.or (.cmp .Eq v11 (cI 0)) (.cmp .Eq (mE 0 (.idx v1 (.bin .Sub v11 (cI 1))) []) (tU [cS [115,105,103,110],cS [46]]))) (.idx v1 v11)),.asg 7 (.comp [10] v6 (.cmp .Eq (.atr 2 v10) (cS [110,117,109,98,101,114])) (kA 1 [.atr 1 v10])),.ret (.cmp .Eq v7 (.comp2 8 v3 9 (kA 0 [v8]) v9))]
def JX(lab:List AV->List AV):cG:=⟨[],[("_law_walked",(bA 6)),("int",tY),("range",lD),("len",eV),("sorted",qg),("read_data",(mh lab)),("Reader",xx),("data_tokens",ik)],[("told",qG),("is_done",qh)]⟩
def gw(lab:List AV->List AV):SM:=
  (aV (cT [1] (bv ik (aw (al 0) aJ)))
  (aV (cT [2] (bv xx (aw (al 1) aJ)))
  (aV (sf (RM (fw (b5 .NotEq) (cJ qG (bv (mh lab) (aw (al 2) aJ)) aJ) (cJ qG (al 0) aJ)) (pf (jh (cJ qh (al 2) aJ))))
  (aV (fun _ _=>none)
  bq)
  bq)
  (aV (cT [3] (bi (b4 .Add) (bi (b4 .Add) (qO 15 (un (aA 26) (al 0)) 16 (bi fU (un (aA 26) (al 0)) (al 15)) (al 16)) (un (aA 24) (al 0))) (un (aA 25) (al 0))))
  (aV (QA 3)
  (aV (sf (fw (b5 .Eq) (al 3) (bv de aJ))
  (aV (eK (rW (fw (b5 .Eq) (al 1) (bv de aJ))))
  bq)
  bq)
  (aV (cT [4] (bi (b4 .Add) (bi (b4 .Add) (bi (b4 .Add) (bv de (aw (ba (.str [68,65,84,65])) aJ)) (ti (fw (b5 .NotEq) (un (aA 26) (al 0)) FT) (bv de (aw (ba (.str [70,73,76,69])) aJ)) (bv de aJ))) (ti (fw (b5 .NotEq) (un (aA 24) (al 0)) (bv de aJ)) (bv de (aw (ba (.str [87,79,82,75,73,78,71,45,83,84,79,82,65,71,69])) aJ)) (bv de aJ))) (ti (fw (b5 .NotEq) (un (aA 25) (al 0)) (bv de aJ)) (bv de (aw (ba (.str [76,73,78,75,65,71,69])) aJ)) (bv de aJ))))
  (aV (cT [5] (eO [14] (al 1) (jh (un (aA 28) (al 14))) (un (aA 1) (al 14))))
  (aV (sf (fw (b5 .NotEq) (bv qg (aw (al 5) aJ)) (bv qg (aw (bi (b4 .Add) (bi (b4 .Add) (al 4) (eO [12] (un (aA 26) (al 0)) (fun _ σ=>some (true,σ)) (ti (fw (b5 .In) (al 12) (un (aA 27) (al 0))) (ba (.str [83,68])) (ba (.str [70,68]))))) (eO [13] (al 3) (fun _ σ=>some (true,σ)) (bi fU (bv (Hv [1,77]) (aw (ba (.str [48,49])) (aw (ba (.str [55,55])) aJ))) (un (aA 20) (al 13))))) aJ)))
  (aV (fun _ _=>none)
  bq)
  bq)
  (aV (cT [6] (eO [11] (bv lD (aw (bv eV (aw (al 1) aJ)) aJ)) (RM (fw (b5 .Eq) (al 11) (ba (.int (0)))) (fw (b5 .Eq) (cJ qG (bi fU (al 1) (bi (b4 .Sub) (al 11) (ba (.int (1))))) aJ) (bv gk (aw (ba (.str [115,105,103,110])) (aw (ba (.str [46])) aJ))))) (bi fU (al 1) (al 11))))
  (aV (cT [7] (eO [10] (al 6) (fw (b5 .Eq) (un (aA 2) (al 10)) (ba (.str [110,117,109,98,101,114]))) (bv tY (aw (un (aA 1) (al 10)) aJ))))
  (aV (eK (rW (fw (b5 .Eq) (al 7) (qO 8 (al 3) 9 (bv (bA 6) (aw (al 8) aJ)) (al 9)))))
  bq))))))))))))
def eL(lab:List AV->List AV):aW:=Z0 14 (bn 1 [] (gw lab))
def VW:TS:=sL [.asg 2 (.bin .Mod (.idx v0 (cI 0)) v1),.asgI v0 (cI 0) (.bin .FloorDiv (.idx v0 (cI 0)) v1),.ret v2]
noncomputable def Se:cG:=⟨[],[],[]⟩
def y9:SM:=
  (aV (cT [2] (bi (b4 .Mod) (bi fU (al 0) (ba (.int (0)))) (al 1)))
  (aV (Qz (al 0) (ba (.int (0))) (bi (b4 .FloorDiv) (bi fU (al 0) (ba (.int (0)))) (al 1)))
  (aV (eK (al 2))
  bq)))
def y6:aW:=bn 2 [] y9
def JH:TS:=sL [.asg 3 (kA 3 [v1,v2]),.asg 4 (kA 0 [v0,cI 5]),.ifs (.cmp .Eq v4 (cI 1)) (sL [.asgA 15 v3 (cS [112,97,99,107,101,100])]) (sL [.ifs (.cmp .Eq v4 (cI 2)) (sL [.asgA 14 v3 (kA 2 [cI 3,cI 3,.cst (.none),lS [tU [.cst (.bool false),cS [75]]],lS [cS [73,88]]])]) (sL [.ifs (.cmp .Eq v4 (cI 3)) (sL [.asgA 14 v3 (kA 2 [cI 0,cI 4,tU [cS [114,101,102],cS [78],tU [cS [71]],tU [],.cst (.none)]])]) .nil])]),.ifs (.cmp .Eq (kA 0 [v0,cI 4]) (cI 0)) (sL [.expr (mE 0 (.atr 23 v3) [kA 1 [.bin .Add (cS [73,83,45]) v2,lS [tU [tU [cS [110,117,109,98,101,114],tU [.neg (cI 5),cI 0]],tU [cS [110,117,109,98,101,114],tU [cI 125,cI 2]]],tU [tU [cS [116,101,120,116],.cst (.bytes [113])],.cst (.none)]]]])]) .nil,.ret v3]
def Gl:cG:=⟨[],[("_law_take",BA),("Named",xu),("Occurs",Kp),("Item",oZ)],[("append",(fS gu))]⟩
def Uv:SM:=
  cg Gl JH
def qI:aW:=Jk (PH anx 12) (bn 3 [] Uv)
def y4:aW:=ur wM qI
def JI:TS:=sL [.asg 3 (kA 1 [v0,v1,v2]),.asgA 16 v3 (.idx (lS [cS [88,40,52,41],cS [83,57,40,51,41,86,57,57],cS [90,90,57,46,57,57]]) (kA 0 [v0,cI 3])),.ret v3]
def Gm:cG:=⟨[],[("_law_take",BA),("_law_item",qI)],[]⟩
def Uw:SM:=
  cg Gm JI
def wE:aW:=Jk (PH anx 12) (bn 3 [] Uw)
def y5:aW:=ur wM wE
def JJ:TS:=sL [.ifs (.cmp .Eq (kA 0 [v0,cI 4]) (cI 0)) (sL [.ret (kA 3 [v0,cI 77,v1])]) .nil,.asg 2 (kA 4 [v0,cI 1,v1]),.for_ [3] (kA 2 [kA 0 [v0,cI 3]]) (sL [.ifs (.cmp .Gt (kA 0 [v0,cI 3]) (cI 0)) (sL [.expr (mE 0 v2 [kA 3 [v0,cI 5,.idx (lS [cS [70,73,76,76,69,82],.bin .Add v1 (cS [45,66])]) (kA 0 [v0,cI 2])]]),.cont]) .nil,.asg 4 (kA 4 [v0,cI 5,.bin .Add v1 (cS [45,71])]),.for_ [5] (kA 2 [.bin .Add (cI 1) (kA 0 [v0,cI 2])]) (sL [.expr (mE 0 v4 [kA 3 [v0,cI 10,cS [76,79,87]]])]),.expr (mE 0 v2 [v4])]),.ifs (.cmp .Eq (kA 0 [v0,cI 4]) (cI 0)) (sL [.asg 6 (kA 1 [cI 66,.bin .Add v1 (cS [45,82])]),.asgA 21 v6 (tU [cS [76,79,87],.idx (lS [.cst (.none),cS [72,73,71,72,45,79,78,69]]) (kA 0 [v0,cI 2])]),.expr (mE 0 v2 [v6])]) .nil,.ret v2]
def Gn:cG:=⟨[],[("_law_take",BA),("Item",oZ),("range",lD),("_law_leaf",BC),("_law_item",BB)],[("add",yV)]⟩
def Ux:SM:=
  cg Gn JJ
def FC:aW:=Jk (PH ajB 12) (bn 2 [] Ux)
def s8:aW:=ur wM FC
def JG:TS:=sL [.asg 1 (kA 2 []),.for_ [2] (.idx (lS [lS [cS [70,49]],lS [],lS [cS [79,76,68]]]) (kA 1 [v0,cI 3])) (sL [.asgI (.atr 26 v1) v2 (lS [kA 0 [v0,.bin .Add v2 (cS [45,82,69,67])]]),.asgA 20 (.idx (.idx (.atr 26 v1) v2) (cI 0)) (cI 1),.ifs (.cmp .Eq (kA 1 [v0,cI 2]) (cI 0)) (sL [.expr (mE 0 (.atr 27 v1) [v2])]) .nil]),.asgA 24 v1 (.comp [3] (.idx (lS [lS [cS [87]],lS [cS [86,45,49]],lS []]) (kA 1 [v0,cI 3])) .nop (kA 0 [v0,v3])),.asgA 25 v1 (.slc (lS [kA 0 [v0,cS [65,82,71]]]) .nop (kA 1 [v0,cI 2])),.ret v1]
def Gk:cG:=⟨[],[("_law_root",BD),("_law_take",BA),("Data",vC)],[("append",(fS gu))]⟩
def Uu:SM:=
  cg Gk JG
def qH:aW:=Jk (um anz 12) (bn 1 [] Uu)
def ml:aW:=afL zw (ur nX qH)
def YR:TS:=sL [.asg 1 (cI 23),.for_ [2] (.slc v0 .nop (cI 30)) (sL [.asg 1 (.bin .Add (.bin .Mult v1 (cI 1000003)) (.bin .Mod v2 (.bin .Pow (cI 10) (cI 80))))]),.ret (lS [.ife (.cmp .Gt v1 (.bin .Pow (cI 10) (cI 60))) v1 (.bin .Add (.bin .Pow v1 (cI 6)) (.bin .FloorDiv (.bin .Pow (cI 10) (cI 68)) (cI 13)))])]
noncomputable def V5:cG:=⟨[],[],[]⟩
def Cg:SM:=
  (aV (cT [1] (ba (.int (23))))
  (aV (gB [2] (SW (al 0) (ba .none) (ba (.int (30))))
  (aV (cT [1] (bi (b4 .Add) (bi (b4 .Mult) (al 1) (ba (.int (1000003)))) (bi (b4 .Mod) (al 2) (bi (b4 .Pow) (ba (.int (10))) (ba (.int (80)))))))
  bq))
  (aV (eK (bv de (aw (ti (fw (b5 .Gt) (al 1) (bi (b4 .Pow) (ba (.int (10))) (ba (.int (60))))) (al 1) (bi (b4 .Add) (bi (b4 .Pow) (al 1) (ba (.int (6)))) (bi (b4 .FloorDiv) (bi (b4 .Pow) (ba (.int (10))) (ba (.int (68)))) (ba (.int (13)))))) aJ)))
  bq)))
def re:aW:=bn 1 [] Cg
def apw:TS:=sL [.asgT [1,2,3] (tU [kA 3 [],kA 5 [cI 5,cS [71]],kA 5 [cI 10,cS [76]]]),.asgA 16 v3 (cS [88]),.expr (mE 2 (.atr 23 v2) [kA 6 [cS [79,78],lS [tU [tU [cS [116,101,120,116],.cst (.bytes [121])],.cst (.none)]]]]),.expr (mE 1 v2 [v3]),.asg 4 (kA 5 [cI 1,cS [82]]),.expr (mE 1 v4 [v2]),.asgA 24 v1 (lS [v4]),.asg 5 (.comp [6] (kA 4 [v1]) .nop (.atr 1 v6)),.ifs (.or (.cmp .NotEq v5 (mE 0 (cS [68,65,84,65,32,68,73,86,73,83,73,79,78,32,46,32,87,79,82,75,73,78,71,45,83,84,79,82,65,71,69,32,83,69,67,84,73,79,78,32,46,32,48,49,32,82,32,46,32,48,53,32,71,32,46,32,56,56,32,79,78,32,86,65,76,85,69,32,121,32,46,32,49,48,32,76,32,80,73,67,32,88,32,46]) [cS [32]])) (.not (kA 0 [kA 3 []]))) (sL [.bad]) .nil,.ret (kA 0 [kA 1 [kA 2 [v0]]])]
def am0(lab:List AV->List AV):cG:=⟨[],[("_law_is_right",(eL lab)),("_law_data",ml),("_law_bag",re),("Data",vC),("data_tokens",ik),("Item",oZ),("Named",xu)],[("split",(iq kG)),("add",yV),("append",(fS gu))]⟩
def Uz(lab:List AV->List AV):SM:=
  (aV (cT [1,2,3] (bv gk (aw (bv vC aJ) (aw (bv oZ (aw (ba (.int (5))) (aw (ba (.str [71])) aJ))) (aw (bv oZ (aw (ba (.int (10))) (aw (ba (.str [76])) aJ))) aJ)))))
  (aV (lT 16 (al 3) (ba (.str [88])))
  (aV (k8 (cJ (fS gu) (un (aA 23) (al 2)) (aw (bv xu (aw (ba (.str [79,78])) (aw (bv de (aw (bv gk (aw (bv gk (aw (ba (.str [116,101,120,116])) (aw (ba (.bytes [121])) aJ))) (aw (ba (.none)) aJ))) aJ)) aJ))) aJ)))
  (aV (k8 (cJ yV (al 2) (aw (al 3) aJ)))
  (aV (cT [4] (bv oZ (aw (ba (.int (1))) (aw (ba (.str [82])) aJ))))
  (aV (k8 (cJ yV (al 4) (aw (al 2) aJ)))
  (aV (lT 24 (al 1) (bv de (aw (al 4) aJ)))
  (aV (cT [5] (eO [6] (bv ik (aw (al 1) aJ)) (fun _ σ=>some (true,σ)) (un (aA 1) (al 6))))
  (aV (sf (RM (fw (b5 .NotEq) (al 5) (cJ (iq kG) (ba (.str [68,65,84,65,32,68,73,86,73,83,73,79,78,32,46,32,87,79,82,75,73,78,71,45,83,84,79,82,65,71,69,32,83,69,67,84,73,79,78,32,46,32,48,49,32,82,32,46,32,48,53,32,71,32,46,32,56,56,32,79,78,32,86,65,76,85,69,32,121,32,46,32,49,48,32,76,32,80,73,67,32,88,32,46])) (aw (ba (.str [32])) aJ))) (pf (jh (bv (eL lab) (aw (bv vC aJ) aJ)))))
  (aV (fun _ _=>none)
  bq)
  bq)
  (aV (eK (bv (eL lab) (aw (bv ml (aw (bv re (aw (al 0) aJ)) aJ)) aJ)))
  bq))))))))))
def Zi(lab:List AV->List AV):aW:=bn 1 [] (Uz lab)
noncomputable def FN:List Str:=[("text":Str),("worth":Str),("kind":Str),("places":Str),("at":Str),("indexes":Str),("keys":Str),("depending":Str),("low":Str),("high":Str),("sign":Str),("value":Str),("is_blank_zero":Str),("is_justified":Str),("occurs":Str),("usage":Str),("picture_text":Str),("redefines":Str),("name":Str),("rows":Str),("level":Str),("renames":Str),("kids":Str),("conditions":Str),("working":Str),("linkage":Str),("files":Str),("sorts":Str),("is_in_a":Str),("what":Str),("shape":Str),("size":Str),("offset":Str),("base":Str),("parent":Str),("is_separate":Str),("shared":Str),("named":Str),("tokens":Str)]
structure FR where
 x:Option Str
 f:aC
 n:Nat
 dfl:List AV
 nm:List (Nat×Str)
 N:Wt
 t:TS
def df(i:Nat)(l:List Str):List (Nat×Str):=bu (motive:=fun _=>Nat->List (Nat×Str)) (fun _=>[]) (fun x _ ih i=>(i,x)::ih (i+1)) l i
def pA:FR:=⟨some "_law_walked",1072,1,[],df 0 ["item","found","kid"],⟨[],["_law_walked","len"],[]⟩,QS⟩
def F6:FR:=⟨none,201,1,[],df 0 ["self"],⟨[],[],[]⟩,R8⟩
def Da:FR:=⟨none,602,1,[],df 0 ["self"],⟨[],[],[]⟩,QN⟩
def F5:FR:=⟨none,630,1,[],df 0 ["self"],⟨[],[],[]⟩,R7⟩
def Av:FR:=⟨none,672,1,[],df 0 ["self","often","first"],⟨[],[],["told"]⟩,Nm⟩
def Jp:FR:=⟨none,677,1,[],df 0 ["self","named"],⟨[],["tuple"],["told","clauses"]⟩,VV⟩
def Jo:FR:=⟨none,703,1,[],df 0 ["self","files"],⟨[],["tuple"],["told"]⟩,VU⟩
def vZ:FR:=⟨none,882,1,[],df 0 ["self"],⟨[],["len"],[]⟩,JD⟩
def Dd:FR:=⟨none,875,2,[.int (0)],df 0 ["self","ahead"],⟨[],["len"],[]⟩,QO⟩
def wa:FR:=⟨none,904,3,[.int (0)],df 0 ["self","kind","ahead","token"],⟨[],[],["peek"]⟩,JE⟩
def we:FR:=⟨none,911,2,[],df 0 ["self","words","ahead","word"],⟨[],[],["split","peek","is_kind"]⟩,wj⟩
def wc:FR:=⟨none,969,3,[.int (0)],df 0 ["self","sign","ahead"],⟨[],[],["peek","is_kind"]⟩,JF⟩
def sH:FR:=⟨none,976,2,[],df 0 ["self","sign"],⟨[],[],["is_sign"]⟩,Fq⟩
def sG:FR:=⟨none,983,2,[],df 0 ["self","sign"],⟨[],[],["skip_sign"]⟩,sK⟩
def De:FR:=⟨none,918,2,[],df 0 ["self","words"],⟨[],["len"],["split","is_word"]⟩,QP⟩
def se:FR:=⟨some "skip_heading",833,2,[],df 0 ["reader","words"],⟨[],[],["need_sign","skip"]⟩,AW⟩
def Mi:FR:=⟨none,658,2,[],df 0 ["self","kid"],⟨[],[],["append"]⟩,Mp⟩
def uH:FR:=⟨some "put_beneath",800,2,[],df 0 ["open_items","item","above"],⟨["MOST_NESTED","ALONE"],["len"],["append","add","pop"]⟩,DF⟩
def K7:FR:=⟨some "nested",807,1,[],df 0 ["entries","roots","open_items","last","renaming","item","index"],⟨["RENAMING","ALONE","NAMING"],["len","put_beneath"],["add","append"]⟩,TR⟩
def qx:FR:=⟨some "is_level_here",793,1,[],df 0 ["reader","token"],⟨[],[],["peek"]⟩,Ln⟩
def ls:FR:=⟨none,623,3,[],df 0 ["self","name","rows"],⟨[],["tuple"],[]⟩,wh⟩
def ya:FR:=⟨none,932,2,[],df 0 ["self","words","word"],⟨[],[],["split","skip"]⟩,yk⟩
def pE:FR:=⟨some "octets_of_text",852,1,[],df 0 ["text","numbers"],⟨["MOST_OCTET"],["bytes","ord"],[]⟩,wn⟩
def x9:FR:=⟨none,1018,1,[],df 0 ["self","found"],⟨[],["octets_of_text"],["peek","is_kind"]⟩,Ll⟩
def sF:FR:=⟨none,990,1,[],df 0 ["self"],⟨[],[],["is_kind","is_sign"]⟩,sJ⟩
def HE:FR:=⟨some "negated",136,1,[],df 0 ["a"],⟨[],[],[]⟩,QW⟩
def HC:FR:=⟨some "decimal",129,2,[.int (0)],df 0 ["units","scale"],⟨[],[],[]⟩,QU⟩
def Dp:FR:=⟨some "worth_of",164,1,[],df 0 ["figures","number","figure"],⟨["FIGURES_decimals"],[],["index"]⟩,My⟩
def nK:FR:=⟨some "read_decimal",171,1,[],df 0 ["text","begin","ahead","behind","point","at","units"],⟨["FIGURES_decimals"],["decimal","len","worth_of","range"],["index"]⟩,AL⟩
def Df:FR:=⟨none,896,1,[],df 0 ["self","token"],⟨[],[],["peek"]⟩,QR⟩
def yb:FR:=⟨none,997,1,[],df 0 ["self","is_below","found"],⟨[],["negated","read_decimal"],["take","skip_sign","is_number"]⟩,ym⟩
def r7:FR:=⟨some "read_operand",409,2,[],df 0 ["reader","read_expr","figure"],⟨[],[],["is_kind","octets","is_number","signed"]⟩,AO⟩
def uE:FR:=⟨some "is_reserved",847,1,[],df 0 ["word"],⟨["RESERVED"],[],[]⟩,DB⟩
def wb:FR:=⟨none,947,2,[.int (0)],df 0 ["self","ahead"],⟨[],["is_reserved"],["peek","is_kind"]⟩,wi⟩
def r6:FR:=⟨some "read_literal",725,1,[],df 0 ["reader"],⟨["no_expression"],["read_operand"],["is_name"]⟩,AN⟩
def uJ:FR:=⟨some "read_worths",772,1,[],df 0 ["reader","rows","first","last"],⟨[],["read_literal"],["is_sign","append","one_of"]⟩,DH⟩
def Db:FR:=⟨none,954,1,[],df 0 ["self"],⟨[],[],["take","is_name"]⟩,Dx⟩
def Dc:FR:=⟨none,925,2,[],df 0 ["self","words"],⟨[],[],["skip"]⟩,Dy⟩
def r8:FR:=⟨some "read_renames",779,1,[],df 0 ["reader","first","last"],⟨[],[],["one_of","name","need"]⟩,AP⟩
def ky:FR:=⟨none,595,6,[.none,.tup [],.tup []],df 0 ["self","low","high","depending","keys","indexes"],⟨[],["tuple"],[]⟩,uU⟩
def Ax:FR:=⟨none,961,1,[],df 0 ["self","found"],⟨[],[],["is_name","name"]⟩,AE⟩
def rZ:FR:=⟨some "is_part_next",367,1,[],df 0 ["reader","depth","ahead"],⟨[],[],["is_sign"]⟩,AH⟩
def Di:FR:=⟨some "read_ref",388,2,[],df 0 ["reader","read_expr","name","qualifiers","subscripts","part"],⟨[],["tuple","is_part_next"],["is_sign","one_of","append","name"]⟩,Ms⟩
def Dl:FR:=⟨some "units_at",143,3,[],df 0 ["a","scale","is_rounded","size","half"],⟨[],[],[]⟩,Mv⟩
def Dm:FR:=⟨some "whole_of",157,1,[],df 0 ["a"],⟨[],["units_at"],[]⟩,Mw⟩
def Dh:FR:=⟨some "is_whole",150,1,[],df 0 ["a"],⟨[],[],[]⟩,Mr⟩
def Ay:FR:=⟨none,1004,1,[],df 0 ["self","found"],⟨[],["whole_of","is_whole","read_decimal"],["peek","is_kind"]⟩,Np⟩
def uI:FR:=⟨some "read_occurs",730,1,[],df 0 ["reader","low","high","depending","keys","indexes","is_ascending"],⟨["no_expression"],["Occurs","tuple","read_ref"],["skip","names","is_word","extend","take","whole"]⟩,DG⟩
def lQ:FR:=⟨some "read_named_clause",744,3,[],df 0 ["reader","item","word","told_usage","place"],⟨["USAGE_WORDS"],["read_occurs"],["one_of","join","skip"]⟩,ry⟩
def uC:FR:=⟨some "clause_word",751,1,[],df 0 ["reader","word"],⟨[],[],["skip"]⟩,Dz⟩
def mW:FR:=⟨some "read_bare_clause",758,2,[],df 0 ["reader","item","usage","place"],⟨["USAGE_WORDS"],[],["one_of","join","take","is_kind"]⟩,sM⟩
def r5:FR:=⟨some "read_clauses",765,2,[],df 0 ["reader","item","met","ahead","word"],⟨[],["read_named_clause","clause_word","read_bare_clause"],["is_sign","append","peek"]⟩,AK⟩
def mx:FR:=⟨none,651,3,[],df 0 ["self","level","name"],⟨[],[],[]⟩,yi⟩
def Aw:FR:=⟨none,889,2,[],df 0 ["self","what"],⟨[],["GrammarFault","min","len"],[]⟩,Nn⟩
def wT:FR:=⟨some "read_entry",786,1,[],df 0 ["reader","place","level","item"],⟨["NAMING","RENAMING","ALONE","FILLER","MOST_LEVEL"],["Named","read_worths","read_renames","read_clauses","Item"],["need_sign","is_name","name","skip","whole","fault"]⟩,Gg⟩
def nL:FR:=⟨some "read_entries",814,1,[],df 0 ["reader","entries"],⟨[],["nested","is_level_here","read_entry"],["append"]⟩,AM⟩
def n6:FR:=⟨some "read_file_entry",826,3,[],df 0 ["reader","data","is_sort","place","name","roots"],⟨["ALONE"],["read_entries"],["append","skip_sign","name","fault"]⟩,uY⟩
def mw:FR:=⟨none,698,1,[],df 0 ["self"],⟨[],[],[]⟩,yh⟩
def zC:FR:=⟨some "read_data",840,1,[],df 0 ["reader","data"],⟨[],["skip_heading","read_entries","read_file_entry","Data"],["is_word","is_done","take"]⟩,JL⟩
def kz:FR:=⟨none,867,3,[.int (0)],df 0 ["self","tokens","at"],⟨[],[],[]⟩,HO⟩
def lu:FR:=⟨none,194,5,[.tup [.int (0),.int (0)],.bool false],df 0 ["self","kind","worth","at","is_in_a"],⟨[],[],[]⟩,wl⟩
def n5:FR:=⟨some "is_picture_next",330,1,[],df 0 ["tokens"],⟨[],["len"],[]⟩,uX⟩
def kP:FR:=⟨some "capital_of",215,1,[],df 0 ["sign"],⟨[],["chr","ord"],[]⟩,Ga⟩
def rt:FR:=⟨some "capitals",220,1,[],df 0 ["text"],⟨[],["capital_of"],["join"]⟩,Mq⟩
def uG:FR:=⟨some "picture_end",269,2,[],df 0 ["text","at","end"],⟨["ENDS"],["len"],[]⟩,DE⟩
def nZ:FR:=⟨some "checked_picture",295,2,[],df 0 ["line","at","end"],⟨[],["capitals","picture_end"],[]⟩,uW⟩
def pD:FR:=⟨some "is_parted",234,2,[],df 0 ["text","at"],⟨[],["len"],[]⟩,JK⟩
def HD:FR:=⟨some "mark_at",309,2,[],df 0 ["line","at","pair","sign"],⟨["SINGLE_SIGNS","DOUBLE_SIGNS"],["is_parted"],["split"]⟩,QV⟩
def nY:FR:=⟨some "checked_literal",288,3,[],df 0 ["line","at","end","quote","worth"],⟨["MOST_LITERAL"],["len"],["replace"]⟩,uV⟩
def r0:FR:=⟨some "is_word_sign",227,1,[],df 0 ["sign"],⟨["WORD_SIGNS"],["capital_of"],[]⟩,AI⟩
def wR:FR:=⟨some "need_apart",302,2,[],df 0 ["line","end","behind"],⟨["FIGURES_tokens","QUOTES"],["is_word_sign"],[]⟩,Ge⟩
def uF:FR:=⟨some "literal_end",262,2,[],df 0 ["line","at","quote","end"],⟨[],["len"],[]⟩,DC⟩
def rX:FR:=⟨some "checked_word",274,3,[],df 0 ["line","at","end","worth"],⟨["MOST_WORD","LETTERS"],["len","capitals"],[]⟩,AF⟩
def pB:FR:=⟨some "checked_number",281,3,[],df 0 ["line","at","end","worth"],⟨["MOST_FIGURES"],["len"],[]⟩,wm⟩
def zD:FR:=⟨some "run_end",248,3,[],df 0 ["text","at","signs"],⟨[],["capital_of","len"],[]⟩,QX⟩
def wS:FR:=⟨some "number_end",255,2,[],df 0 ["text","at","end"],⟨["FIGURES_tokens"],["run_end"],[]⟩,Gf⟩
def Dn:FR:=⟨some "worth_at",316,2,[],df 0 ["line","at","sign","end","behind","kind","worth"],⟨["QUOTES","FIGURES_tokens","LETTERS","WORD_SIGNS"],["len","mark_at","checked_literal","need_apart","literal_end","checked_word","checked_number","number_end","run_end","capital_of"],[]⟩,Mx⟩
def wP:FR:=⟨some "is_word_is",344,2,[],df 0 ["text","at"],⟨[],["is_parted","capitals"],[]⟩,Gb⟩
def uD:FR:=⟨some "is_blank_at",323,2,[],df 0 ["text","at"],⟨[],["is_parted"],[]⟩,DA⟩
def wO:FR:=⟨some "add_tokens",337,2,[],df 0 ["tokens","line","at","was_is","place","kind","worth","end"],⟨[],["len","Token","is_picture_next","checked_picture","worth_at","is_word_is","is_blank_at"],["append"]⟩,F9⟩
def zF:FR:=⟨some "tokens_of",351,1,[],df 0 ["lines","tokens","line"],⟨[],["add_tokens"],[]⟩,JO⟩
def my:FR:=⟨none,35,3,[],df 0 ["self","text","spots"],⟨[],[],[]⟩,yj⟩
def lR:FR:=⟨some "text_tokens",510,2,[.bool false],df 0 ["text","is_in_a","begin","found"],⟨["AREA_A","AREA_B"],["range","len","Token","tokens_of","Line"],[]⟩,DK⟩
def yc:FR:=⟨some "joined",495,1,[],df 0 ["parts"],⟨[],[],["join"]⟩,TQ⟩
def K8:FR:=⟨some "quoted",358,1,[],df 0 ["text"],⟨[],[],["replace"]⟩,TT⟩
def sd:FR:=⟨some "shown_octets",414,1,[],df 0 ["octets"],⟨[],["quoted","chr"],["join"]⟩,AU⟩
def qy:FR:=⟨some "write_decimal",178,1,[],df 0 ["a","figures"],⟨[],["len","str","abs"],[]⟩,yn⟩
def sb:FR:=⟨some "shown_number",421,1,[],df 0 ["worth","text"],⟨["MOST_FIGURES"],["abs","write_decimal"],["replace"]⟩,AR⟩
def r9:FR:=⟨some "show_operand",440,2,[],df 0 ["operand","show_expr"],⟨[],["shown_octets","shown_number"],[]⟩,AQ⟩
def nJ:FR:=⟨some "operand_text",483,1,[],df 0 ["operand"],⟨["show_expression"],["show_operand"],[]⟩,AJ⟩
def uL:FR:=⟨some "show_worths",543,1,[],df 0 ["named","rows","first","last"],⟨[],["joined","operand_text"],["append"]⟩,DJ⟩
def EJ:FR:=⟨some "worded",502,2,[],df 0 ["word","text"],⟨[],[],[]⟩,TU⟩
def Dk:FR:=⟨some "show_ref",433,2,[],df 0 ["ref","show_expr","found","length"],⟨[],["list"],["join"]⟩,Mu⟩
def Dj:FR:=⟨some "ref_text",490,1,[],df 0 ["ref"],⟨["show_expression"],["show_ref"],[]⟩,Mt⟩
def uK:FR:=⟨some "show_occurs",522,1,[],df 0 ["occurs","head","keys"],⟨[],["joined","worded","str","ref_text"],[]⟩,DI⟩
def zE:FR:=⟨some "show_sign",529,1,[],df 0 ["item"],⟨[],[],[]⟩,JN⟩
def rY:FR:=⟨some "clause_texts",536,1,[],df 0 ["item"],⟨["USAGE_NAMES"],["operand_text","show_occurs","show_sign","worded"],[]⟩,AG⟩
def wQ:FR:=⟨some "level_text",517,1,[],df 0 ["level"],⟨[],["str"],[]⟩,Gc⟩
def wU:FR:=⟨some "show_entry",550,1,[],df 0 ["item","head","first","last"],⟨["RENAMES_LEVEL"],["joined","clause_texts","level_text"],[]⟩,Gi⟩
def nG:FR:=⟨some "entry_tokens",557,1,[],df 0 ["item","found","named","kid"],⟨["TOP_LEVELS"],["entry_tokens","text_tokens","show_worths","show_entry"],["extend"]⟩,Nq⟩
def nM:FR:=⟨some "roots_tokens",564,1,[],df 0 ["roots","found","root"],⟨[],["entry_tokens"],["extend"]⟩,Nr⟩
def pF:FR:=⟨some "section_tokens",571,2,[],df 0 ["heading","roots"],⟨[],["text_tokens","roots_tokens"],[]⟩,JM⟩
def pC:FR:=⟨some "data_tokens",578,1,[],df 0 ["data","found","name","head"],⟨[],["text_tokens","section_tokens","roots_tokens"],["extend"]⟩,QT⟩
def qw:FR:=⟨some "_law_is_right",1077,1,[],df 0 ["data","tokens","reader","roots","heads","tops","first","levels"],⟨[],["_law_walked","int","range","len","sorted","read_data","Reader","data_tokens"],["told","is_done"]⟩,Lm⟩
def mz:FR:=⟨some "_law_take",1032,2,[],df 0 ["bag","many","worth"],⟨[],[],[]⟩,VW⟩
def tq:FR:=⟨some "_law_item",1046,3,[],df 0 ["bag","level","name","item","way"],⟨[],["_law_take","Named","Occurs","Item"],["append"]⟩,JH⟩
def zA:FR:=⟨some "_law_leaf",1053,3,[],df 0 ["bag","level","name","item"],⟨[],["_law_take","_law_item"],[]⟩,JI⟩
def zB:FR:=⟨some "_law_root",1060,2,[],df 0 ["bag","name","root","turn","group","inner","renaming"],⟨[],["_law_take","Item","range","_law_leaf","_law_item"],["add"]⟩,JJ⟩
def zz:FR:=⟨some "_law_data",1065,1,[],df 0 ["bag","data","name"],⟨[],["_law_root","_law_take","Data"],["append"]⟩,JG⟩
def Dg:FR:=⟨some "_law_bag",1039,1,[],df 0 ["script","number","cell"],⟨[],[],[]⟩,YR⟩
def aaP:FR:=⟨some "law",1082,1,[],df 0 ["script","data","group","leaf","root","words"],⟨[],["_law_is_right","_law_data","_law_bag","Data","data_tokens","Item","Named"],["split","add","append"]⟩,apw⟩
def qm:List FR:=[
 pA,
 F6,
 Da,
 F5,
 Av,
 Jp,
 Jo,
 vZ,
 Dd,
 wa,
 we,
 wc,
 sH,
 sG,
 De,
 se,
 Mi,
 uH,
 K7,
 qx,
 ls,
 ya,
 pE,
 x9,
 sF,
 HE,
 HC,
 Dp,
 nK,
 Df,
 yb,
 r7,
 uE,
 wb,
 r6,
 uJ,
 Db,
 Dc,
 r8,
 ky,
 Ax,
 rZ,
 Di,
 Dl,
 Dm,
 Dh,
 Ay,
 uI,
 lQ,
 uC,
 mW,
 r5,
 mx,
 Aw,
 wT,
 nL,
 n6,
 mw,
 zC,
 kz,
 lu,
 n5,
 kP,
 rt,
 uG,
 nZ,
 pD,
 HD,
 nY,
 r0,
 wR,
 uF,
 rX,
 pB,
 zD,
 wS,
 Dn,
 wP,
 uD,
 wO,
 zF,
 my,
 lR,
 yc,
 K8,
 sd,
 qy,
 sb,
 r9,
 nJ,
 uL,
 EJ,
 Dk,
 Dj,
 uK,
 zE,
 rY,
 wQ,
 wU,
 nG,
 nM,
 pF,
 pC,
 qw,
 mz,
 tq,
 zA,
 zB,
 zz,
 Dg,
 aaP]
structure GR where
 x:Str
 a:AV
noncomputable def O7:List GR:=[⟨"FIGURES_decimals",mR⟩,
 ⟨"WORD_SIGNS",wA⟩,
 ⟨"FIGURES_tokens",lc⟩,
 ⟨"ENDS",abv⟩,
 ⟨"MOST_WORD",Ir⟩,
 ⟨"LETTERS",GO⟩,
 ⟨"MOST_FIGURES",rJ⟩,
 ⟨"MOST_LITERAL",zU⟩,
 ⟨"QUOTES",Kj⟩,
 ⟨"SINGLE_SIGNS",zV⟩,
 ⟨"DOUBLE_SIGNS",zT⟩,
 ⟨"AREA_A",Sq⟩,
 ⟨"AREA_B",Sr⟩,
 ⟨"RENAMES_LEVEL",xm⟩,
 ⟨"TOP_LEVELS",iW⟩,
 ⟨"NAMING",Ki⟩,
 ⟨"RENAMING",BG⟩,
 ⟨"ALONE",BE⟩,
 ⟨"FILLER",Ss⟩,
 ⟨"MOST_LEVEL",FA⟩,
 ⟨"MOST_NESTED",BF⟩,
 ⟨"MOST_OCTET",FB⟩]
structure CR where
 x:Str
 c:aC
 i:aC
noncomputable def zd:List CR:=[⟨"Line",45,35⟩,⟨"Token",204,194⟩,⟨"Occurs",605,595⟩,⟨"Named",633,623⟩,⟨"Item",680,651⟩,⟨"Data",706,698⟩,⟨"Reader",1021,867⟩]
structure MR where
 c:aC
 x:Str
 f:aC
noncomputable def KC:List MR:=[⟨204,"told",201⟩,⟨605,"told",602⟩,⟨633,"told",630⟩,⟨680,"add",658⟩,⟨680,"clauses",672⟩,⟨680,"told",677⟩,⟨706,"told",703⟩,⟨1021,"peek",875⟩,⟨1021,"is_done",882⟩,⟨1021,"fault",889⟩,⟨1021,"take",896⟩,⟨1021,"is_kind",904⟩,⟨1021,"is_word",911⟩,⟨1021,"skip",918⟩,⟨1021,"need",925⟩,⟨1021,"one_of",932⟩,⟨1021,"is_name",947⟩,⟨1021,"name",954⟩,⟨1021,"names",961⟩,⟨1021,"is_sign",969⟩,⟨1021,"skip_sign",976⟩,⟨1021,"need_sign",983⟩,⟨1021,"is_number",990⟩,⟨1021,"signed",997⟩,⟨1021,"whole",1004⟩,⟨1021,"octets",1018⟩]
noncomputable def UM:List Str:=[("len":Str),("range":Str),("str":Str),("tuple":Str),("list":Str),("abs":Str),("chr":Str),("ord":Str),("sorted":Str),("int":Str),("bytes":Str),("min":Str)]
section simps
variable{fr:Fm}{σ:AS}
@[simp] theorem b9 {α β:Type} (a:α) (f:α->Option β):ob (some a) f=f a:=rfl
@[simp] theorem aX {α γ β:Type} (a:α) (b:γ) (f:α->γ->Option β):bC (some (a,b)) f=f a b:=rfl
@[simp] theorem anr {α β:Type} (a:α) (f:α->Option β) (g):od (some a) f g=f a:=rfl
@[simp] theorem gm (f m):un f m fr σ=bC (m fr σ) fun a ai=>ob (f a ai) fun b=>some (b,ai):=rfl
@[simp] theorem jH (f m n):bi f m n fr σ=bC (m fr σ) fun a ai=>bC (n fr ai) fun b fW=>f a b fW:=rfl
@[simp] theorem fD (f m n):fw f m n fr σ=bC (m fr σ) fun a ai=>bC (n fr ai) fun b fW=>ob (f a b fW) fun r=>some (r,fW):=rfl
@[simp] theorem lX (m):jh m fr σ=bC (m fr σ) fun a ai=>ob (qU ai a) fun b=>some (b,ai):=rfl
@[simp] theorem wL (m):rW m fr σ=bC (m fr σ) fun b ai=>some (.bool b,ai):=rfl
@[simp] theorem qP (b):pf b fr σ=bC (b fr σ) fun b ai=>some (!b,ai):=rfl
@[simp] theorem G9 (a b):RM a b fr σ=bC (a fr σ) fun t ai=>bif t then some (true,ai)else b fr ai:=rfl
@[simp] theorem Ev (a b):SU a b fr σ=bC (a fr σ) fun v ai=>ob (qU ai v) fun t=>bif t then b fr ai else some (v,ai):=rfl
@[simp] theorem wH (c a b):ti c a b fr σ=bC (c fr σ) fun t ai=>bif t then a fr ai else b fr ai:=rfl
theorem bk(i):al i fr σ=bif bX (gt fr i)then none else some (gt fr i,σ):=rfl
@[simp] theorem d5 (a):ba a fr σ=some (a,σ):=rfl
@[simp] theorem et (f l):bv f l fr σ=bC (l fr σ) fun vs ai=>f vs ai:=rfl
@[simp] theorem cq:aJ fr σ=some ([],σ):=rfl
@[simp] theorem cz (a l):aw a l fr σ=bC (a fr σ) fun v ai=>bC (l fr ai) fun vs aM=>some (v::vs,aM):=rfl
@[simp] theorem eJ (D o l):cJ D o l fr σ=bC (o fr σ) fun x ai=>ob (D x ai) fun F=>bC (l fr ai) fun vs aM=>F (x::vs) aM:=rfl
@[simp] theorem dk (a b):aV a b fr σ=ob (a fr σ) (gU b):=rfl
@[simp] theorem dF (k fr' ai):gU k (.next fr' ai)=k fr' ai:=rfl
@[simp] theorem dH (k a ai):gU k (.ret a ai)=some (.ret a ai):=rfl
@[simp] theorem fJ:bq fr σ=some (.next fr σ):=rfl
@[simp] theorem j5 (c a b):sf c a b fr σ=bC (c fr σ) fun t ai=>bif t then a fr ai else b fr ai:=rfl
@[simp] theorem ej (e):eK e fr σ=bC (e fr σ) fun v ai=>some (.ret v ai):=rfl
@[simp] theorem fH (i e):cT [i] e fr σ=bC (e fr σ) fun v ai=>some (.next (put fr i v) ai):=rfl
@[simp] theorem yf (k o e):lT k o e fr σ=bC (e fr σ) fun v ai=>bC (o fr ai) fun x aM=>ob (oz k v x aM) fun cN=>some (.next fr cN):=rfl
@[simp] theorem kI (a:AV) (r):gt (a::r) 0=a:=rfl
@[simp] theorem pg (a:AV) (r i):gt (a::r) (i+1)=gt r i:=rfl
@[simp] theorem sD (a v:AV) (r):put (a::r) 0 v=v::r:=rfl
@[simp] theorem sE (a v:AV) (r i):put (a::r) (i+1) v=a::put r i v:=rfl
@[simp] theorem putN (v:AV):put [] 0 v=[v]:=rfl
@[simp] theorem amw (fr' ai):ir (.next fr' ai)=some (.none,ai):=rfl
@[simp] theorem gA (a ai):ir (.ret a ai)=some (a,ai):=rfl
@[simp] theorem iT (b):qU σ (.bool b)=some b:=rfl
@[simp] theorem O3 (a):b4 .Add (.int (.ofNat a)) (.int 1) σ=some (.int (.ofNat (a+1)),σ):=rfl
@[simp] theorem NF (a b):b4 .Add (.int (.ofNat a)) (.int (.ofNat b)) σ=some (.int (.ofNat (a+b)),σ):=rfl
@[simp] theorem aif (a b):b5 .Lt (.int (.ofNat a)) (.int (.ofNat b)) σ=some (bw a b):=rfl
@[simp] theorem aoi (a b):b5 .GtE (.int (.ofNat a)) (.int (.ofNat b)) σ=some (!bw a b):=rfl
@[simp] theorem ZW (a b):b5 .Eq (.str a) (.str b) σ=some (dm a b):=rfl
@[simp] theorem aoD (a b):b5 .NotEq (.str a) (.str b) σ=some (!dm a b):=rfl
@[simp] theorem ahX (a):b5 .Is a .none σ=lM a:=rfl
@[simp] theorem I5 (a):b5 .IsNot a .none σ=ob (lM a) fun b=>some (!b):=rfl
@[simp] theorem S8:lM .none=some true:=rfl
@[simp] theorem adZ (l):lM (.bytes l)=some false:=rfl
@[simp] theorem fq (a):bX (.ref a)=false:=rfl
@[simp] theorem lY (a):bX (.int a)=false:=rfl
@[simp] theorem mZ (a):bX (.str a)=false:=rfl
@[simp] theorem akT:bX .none=false:=rfl
@[simp] theorem apA (a):bX (.bytes a)=false:=rfl
@[simp] theorem Yk (F l):iq F (.str l) σ=some F:=rfl
end simps
theorem ami{α:Type}{l:List α}: ∀(i:Nat),Ql l i=l[i]? :=by
 induction l with
 |nil=>exact fun i=>rfl
 |cons a l ih=>
  intro i
  cases i with
  |zero=>rfl
  |succ i=>exact ih i
theorem fV{n:Nat}(h:n<=4000000):dB n=true:=gp h
theorem Hb{a b:Nat}(h:a<b):bw a b=true:=dh.mpr h
theorem Zw{a b:Nat}(h:b<=a):bw a b=false:=ET.mpr fun e=>ci.mpr h (dh.mp e)
section
variable{σ:AS}{r m:Nat}{L l:aa}{mac:List Nat->List AV}
theorem jm{α β:Type}{o:Option α}{a:α}{f:α->Option β}(h:o=some a):ob o f=f a:=h▸rfl
theorem pd(hg:σ.get r=some (cW L m)):aA 4 (.ref r) σ=some (.int (.ofNat m)):=jm hg
theorem IK(hg:σ.get r=some (cW L m)):aA 38 (.ref r) σ=some (.lst L):=jm hg
theorem xX(hL:dB L.length=true):eV [.lst L] σ=some (.int (.ofNat L.length),σ):=by
 rw[<- ip]at hL ⊢
 show(bif dB (eY L)then _ else none)=_
 rw[hL];rfl
theorem rV{F:aW}{G:gR}(hg:σ.get r=some (cW L m)):fm dr F G (.ref r) σ=some F:=jm (show FQ (.ref r) σ=some 1021 from jm hg)
theorem Jy(hg:σ.get r=some (cW L m))(k:Nat):oz 4 (.int (.ofNat k)) (.ref r) σ=some (σ.set r (cW L k)):=jm hg
theorem I2{i:Nat}{a:AV}(h:dB i=true)(e:L[i]? =some a):fU (.lst L) (.int (.ofNat i)) σ=some (a,σ):=by
 have h1:acb (.lst L) (.int (.ofNat i)) σ=some a:=by
  show(bif dB i then Ql L i else none)=_
  rw[h,ami];exact e
 exact jm h1
theorem aml(hg:σ.get r=some (cW L m))(hL:dB L.length=true)(k:Nat):ii [.ref r,.int (.ofNat k)] σ=some ((L[m+k]?).getD .none,σ):=by
 show ob (o8 [.ref r,.int (.ofNat k)] σ) ir=_
 by_cases hk:m+k<L.length
 ·have hx:L[m+k]? =some L[m+k]:=fb hk
  simp only[o8,dk,j5,fD,jH,gm,bk,kI,pg,fq,lY,ae,aX,b9,pd hg,IK hg,NF,et,cz,cq,xX hL,aif,Hb hk,af,ej,I2 (fV (au (i8 hk) (jP hL))) hx,dH,gA]
  rw[hx];rfl
 ·simp only[o8,dk,j5,fD,jH,gm,bk,kI,pg,fq,lY,ae,aX,b9,pd hg,IK hg,NF,et,cz,cq,xX hL,aif,Zw (ci.mp hk),ej,d5,dH,dF,gA,fJ]
  rw[n9 (ci.mp hk)];rfl
noncomputable def at_(L:aa)(i:Nat):AV:=(L[i]?).getD .none
def lm(mac:List Nat->List AV)(l:aa)(L:aa)(m:Nat):Prop:=mac []=[]/\ ∃pre,pre.length=m/\L=pre++xp mac l
theorem lm.at(S:lm mac l L m){k:Nat}{o:Option AV}(e:jL l k=some o):at_ L (m+k)=o.getD .none:=by
 unfold at_
 obtain⟨pre,h1,h2⟩:=S.2
 rw[h2,<- h1,kD (cY _ _),mK,QY S.1 e]
theorem tn(hg:σ.get r=some (cW L m))(hL:dB L.length=true)(S:lm mac l L m){k:Nat}{o:Option AV}(e:jL l k=some o):ii [.ref r,.int (.ofNat k)] σ=some (o.getD .none,σ):=(aml hg hL k).trans (congrArg (fun x=>some (x,σ)) (S.at e))
theorem j6{k:Nat}{t v:AV}(h:pK k t=some v):aA k t σ=some v/\lM t=some false/\bX t=false:=tb (Q:=fun t=>aA k t σ=some v/\lM t=some false/\bX t=false) h fun c ks vs h=>⟨h,rfl,rfl⟩
theorem aor{k:Nat}{w:ac}{b:Bool}{P:Prop}(e:qQ l k w=some b)(k0:jL l k=some none->b=false->P)(k1: ∀t s,jL l k=some (some t)->pK 2 t=some (.str s)->b=dm s w->P):P:=
 oE e fun o ho e=>by
  cases o with
  |none=>exact k0 ho (aH e).symm
  |some t=>exact oE e fun v hv e=>fT (Q:=fun v=>pK 2 t=some v->P) e (fun s e hv=>k1 t s ho hv (aH e).symm) hv
theorem acM{k:Nat}{w:ac}{b:Bool}{P:Prop}(e:Q1 l k w=some b)(k1: ∀t s,jL l k=some (some t)->pK 1 t=some (.str s)->b=dm s w->P):P:=
 oE e fun o ho e=>oE (o:=o) e fun t ht e=>oE e fun v hv e=>fT (Q:=fun v=>pK 1 t=some v->P) e (fun s e hv=>k1 t s (ht▸ho) hv (aH e).symm) hv
theorem afO{k:Nat}{w s:ac}{b:Bool}{P:Prop}(e:vP l k w s=some b)(k1:qQ l k w=some true->Q1 l k s=some b->P)(k0:qQ l k w=some false->b=false->P):P:=
 oE e fun c hc e=>bE e (fun z e=>k1 (z▸hc) e) fun z e=>k0 (z▸hc) (aH e).symm
theorem lN(hg:σ.get r=some (cW L m))(hL:dB L.length=true)(S:lm mac l L m){k:Nat}{w:ac}{b:Bool}(e:qQ l k w=some b):iy [.ref r,.str w,.int (.ofNat k)] σ=some (.bool b,σ):=by
 show ob (lh [.ref r,.str w,.int (.ofNat k)] σ) ir=_
 refine aor e (fun ht hb=> ?_) fun t s ht h2 hb=> ?_
 ·rw[hb]
  simp only[lh,gv,dk,fH,eJ,bk,kI,pg,fq,lY,ae,aX,b9,rV hg,cz,cq,tn hg hL S ht,tN,dF,sD,sE,putN,ej,Ev,wL,fD,akT,d5,I5,S8,eD,iT,dH,gA]
 ·rw[hb]
  simp only[lh,gv,dk,fH,eJ,bk,kI,pg,fq,lY,mZ,ae,aX,b9,rV hg,cz,cq,tn hg hL S ht,nR,dF,sD,sE,putN,ej,Ev,wL,fD,(j6 (σ:=σ) h2).2.2,d5,I5,(j6 (σ:=σ) h2).2.1,fx,iT,dH,gA,af,gm,(j6 (σ:=σ) h2).1,ZW]
theorem Ho(hg:σ.get r=some (cW L m))(hL:dB L.length=true)(S:lm mac l L m){k:Nat}{w:ac}{b:Bool}(e:vP l k jo w=some b):jx [.ref r,.str w,.int (.ofNat k)] σ=some (.bool b,σ):=by
 show ob (lj [.ref r,.str w,.int (.ofNat k)] σ) ir=_
 refine afO e (fun e1 e2=>acM e2 fun t s ht h2 hb=> ?_) fun e1 hb=> ?_
 ·have h1:=lN hg hL S e1
  unfold jo at h1
  rw[hb]
  simp only[lj,gv,fj,dk,eJ,bk,kI,pg,fq,lY,mZ,ae,aX,b9,rV hg,cz,cq,h1,tn hg hL S ht,nR,ej,Ev,wL,fD,d5,iT,dH,gA,af,gm,(j6 (σ:=σ) h2).1,ZW]
 ·have h1:=lN hg hL S e1
  unfold jo at h1
  rw[hb]
  simp only[lj,fj,dk,eJ,bk,kI,pg,fq,lY,mZ,ae,aX,b9,rV hg,cz,cq,h1,ej,Ev,d5,iT,dH,gA]
def tv:SM:=(aV (sf (RM (pf (jh (cJ fj (al 0) (aw (ba (.str [119,111,114,100])) (aw (al 2) aJ))))) (fw (b5 .NotEq) (un (aA 1) (cJ gv (al 0) (aw (al 2) aJ))) (al 3)))
  (aV (eK (ba (.bool false)))
  bq)
  bq)
  (aV (cT [2] (bi (b4 .Add) (al 2) (ba (.int (1)))))
  bq))
theorem ak2(hg:σ.get r=some (cW L m))(hL:dB L.length=true)(S:lm mac l L m){w:AV}{x:ac}{k:Nat}{b:Bool}(e:vP l k uQ x=some b):
  tv [.ref r,w,.int (.ofNat k),.str x] σ=some (bif b then .next [.ref r,w,.int (.ofNat (k+1)),.str x] σ else .ret (.bool false) σ):=by
 refine afO e (fun e1 e2=>acM e2 fun t s ht h2 hb=> ?_) fun e1 hb=> ?_
 ·have h1:=lN hg hL S e1
  unfold uQ at h1
  rw[hb]
  cases z:dm s x<;>simp only[tv,gv,fj,dk,j5,G9,qP,lX,eJ,bk,kI,pg,fq,lY,mZ,ae,aX,b9,rV hg,cz,cq,h1,tn hg hL S ht,nR,fD,d5,iT,eD,fx,af,gm,(j6 (σ:=σ) h2).1,aoD,z,ej,dH,dF,fJ,fH,jH,O3,sD,sE]
 ·have h1:=lN hg hL S e1
  unfold uQ at h1
  rw[hb]
  simp only[tv,fj,dk,j5,G9,qP,lX,eJ,bk,kI,pg,fq,lY,mZ,ae,aX,b9,rV hg,cz,cq,h1,d5,iT,fx,af,ej,dH]
theorem abh(hg:σ.get r=some (cW L m))(hL:dB L.length=true)(S:lm mac l L m)(w:AV){ws:List (List Nat)}: ∀(k:Nat) (f3:Fm) (b:Bool),f3.length<=1->DQ l k ws=some b->
  ∃fr',pI [3] tv (ws.map .str) (.ref r::w:: .int (.ofNat k)::f3) σ=(bif b then some (.next fr' σ)else some (.ret (.bool false) σ)):=by
 induction ws with
 |nil=>exact fun k f3 b _ e=>s1 (P:=fun b=> ∃fr',some (j8.next (.ref r::w:: .int (.ofNat k)::f3) σ)=(bif b then some (.next fr' σ)else some (.ret (.bool false) σ))) e ⟨_,rfl⟩
 |cons x ws ih=>
  intro k f3 b h3 e
  have hf:put (.ref r::w:: .int (.ofNat k)::f3) 3 (.str x)=[.ref r,w,.int (.ofNat k),.str x]:=by
   cases f3 with
   |nil=>rfl
   |cons a f3=>cases f3 with
    |nil=>rfl
    |cons=>exact absurd h3 (Nat.not_succ_le_self _∘au (be (be (aU _))))
  refine oE (show ob (vP l k uQ x) _=some b from e) fun c hc e=> ?_
  have h:=ak2 hg hL S (w:=w) hc
  have hs: ∀{o},tv [.ref r,w,.int (.ofNat k),.str x] σ=some o->pI [3] tv ((x::ws).map .str) (.ref r::w:: .int (.ofNat k)::f3) σ=KU (pI [3] tv (ws.map .str)) o:=fun{o} h=>by
   show ob (tv (put (.ref r::w:: .int (.ofNat k)::f3) 3 (.str x)) σ) _=_
   rw[hf,h];rfl
  cases c with
  |true=>
   obtain⟨fr',ih⟩:=ih (k+1) [.str x] b (ax _) e
   exact⟨fr',(hs h).trans ih⟩
  |false=>exact s1 (P:=fun b=> ∃fr',_=(bif b then some (j8.next fr' σ)else some (.ret (.bool false) σ))) e ⟨[],hs h⟩
end
section
variable{σ:AS}{r m:Nat}{L l:aa}{mac:List Nat->List AV}
def sW(σ:AS)(w:ac):AS:=(σ.alloc (.lst ((dv 32 [] w).map .str))).drop σ.next
theorem Jw{σ:AS}{w:ac}{b:Nat}(h:b<σ.next):(sW σ w).get b=σ.get b:=by
 have h:=ct h
 unfold sW
 rw[AS.get_drop,AS.get_alloc,if_neg h,if_neg h]
theorem YM{w:ac}(hw:dB w.length=true):kG [.str w,.str [32]] σ=some (.ref σ.next,σ.alloc (.lst ((dv 32 [] w).map .str))):=by
 show(bif dB w.length then _ else none)=_
 rw[hw];rfl
theorem cn{c:bJ}:(σ.alloc c).get σ.next=some c:=by rw[AS.get_alloc,if_pos rfl]
theorem PX(hg:σ.get r=some (cW L m))(hL:dB L.length=true)(S:lm mac l L m)(hr:r<σ.next){w:ac}{b:Bool}(hw:okW w=true)(e:DQ l 0 (dv 32 [] w)=some b):jy [.ref r,.str w] σ=some (.bool b,sW σ w):=aE hw fun hw1 hw2=>by
 obtain⟨fr',h⟩:=abh ((Jw hr).trans hg) hL S (.str w) 0 [] b (aU _) e
 have hit:fE (σ.alloc (.lst ((dv 32 [] w).map .str))) (.ref σ.next)=some ((dv 32 [] w).map .str,sW σ w):=by
  show bC (ob ((σ.alloc _).get σ.next) _) _=_
  rw[cn]
  show(bif dB ((dv 32 [] w).map AV.str).length then _ else none)=_
  rw[aS,hw2];rfl
 have e1:jy [.ref r,.str w] σ=ob (ob (bC (bC (some (AV.str w,σ)) fun x ai=>ob (iq kG x ai) fun F=>F [x,.str [32]] ai) fun x ai=>bC (fE ai x) fun l ay=>pI [3] tv l [.ref r,.str w,.int (.ofNat 0)] ay) (gU (aV (eK (ba (.bool true))) bq))) ir:=rfl
 rw[e1,aX,Yk,b9,YM hw1,aX,hit,aX,h]
 cases b<;>rfl
theorem amQ(hg:σ.get r=some (cW L m))(hL:dB L.length=true)(S:lm mac l L m){t:AV}(e:jL l 0=some (some t))(hr:lM t=some false)(hu:bX t=false):o4 [.ref r] σ=some (t,σ.set r (cW L (m+1))):=by
 have hp:ii [.ref r] σ=some (t,σ):=tn hg hL S e
 show ob (uc [.ref r] σ) ir=_
 simp only[uc,gv,dk,j5,fH,yf,fD,jH,gm,eJ,bk,kI,pg,fq,lY,hu,ae,af,aX,b9,rV hg,cz,cq,hp,dF,sD,sE,putN,ahX,hr,d5,fJ,pd hg,O3,Jy hg,ej,dH,gA]
theorem aaM{t:AV}{k:Nat}: ∀{l:aa} {k:Nat},jL l k=some (some t)-> ∃c ks vs,t= .frz c ks vs:=fun{l}=>by
 induction l with
 |nil=>exact fun e=>nn (aH e)
 |cons a r ih=>
  intro k e
  refine tb (Q:=fun a'=>a'=a-> ∃c ks vs,t= .frz c ks vs) e (fun c ks vs e ha=> ?_) rfl
  refine bE e (fun q e=>kS e fun _ e=>ih e) fun q e=> ?_
  cases k with
  |zero=>exact⟨c,ks,vs,ha.trans (aH (aH e))|>.symm⟩
  |succ j=>exact ih e
theorem Jz(hg:σ.get r=some (cW L m))(hL:dB L.length=true)(S:lm mac l L m){w:ac}{b:Bool}(e:vP l 0 jo w=some b):jN [.ref r,.str w] σ=some (.bool b,bif b then σ.set r (cW L (m+1))else σ):=by
 have h:jx [.ref r,.str w] σ=some (.bool b,σ):=Ho hg hL S (k:=0) e
 show ob (mT [.ref r,.str w] σ) ir=_
 cases b<;>simp only[mT,vA,dk,j5,qP,lX,eJ,bk,kI,pg,fq,mZ,ae,af,aX,b9,rV hg,cz,cq,h,iT,eD,fx,ej,d5,dH,dF,gA,fJ,yf,jH,gm,pd hg,O3,Jy hg]
theorem acD(hg:σ.get r=some (cW L m))(hL:dB L.length=true)(S:lm mac l L m)(hr:r<σ.next){w:ac}{b:Bool}(hw:okW w=true)(e:DQ l 0 (dv 32 [] w)=some b):
  o0 [.ref r,.str w] σ=some (.bool b,bif b then((sW σ w).alloc (.lst ((dv 32 [] w).map .str))).set r (cW L (m+(dv 32 [] w).length))else sW σ w):=aE hw fun hw1 hw2=>by
 have h:=PX hg hL S hr hw e
 have hg':(sW σ w).get r=some (cW L m):=(Jw hr).trans hg
 show ob (o9 [.ref r,.str w] σ) ir=_
 cases b
 ·simp only[o9,rb,dk,j5,qP,lX,eJ,bk,kI,pg,fq,mZ,ae,af,aX,b9,rV hg,cz,cq,h,iT,fx,ej,d5,dH,gA]
 ·have hg2:((sW σ w).alloc (.lst ((dv 32 [] w).map .str))).get r=some (cW L m):=by
   rw[AS.get_alloc,if_neg (show r≠(sW σ w).next from ct (cO hr))];exact hg'
  have hlen:eV [.ref (sW σ w).next] ((sW σ w).alloc (.lst ((dv 32 [] w).map .str)))=some (.int (.ofNat (dv 32 [] w).length),(sW σ w).alloc (.lst ((dv 32 [] w).map .str))):=by
   show ob (ob (((sW σ w).alloc _).get (sW σ w).next) _) _=_
   rw[cn]
   show(bif dB (eY ((dv 32 [] w).map AV.str))then _ else none)=_
   rw[ip,aS,hw2];rfl
  simp only[o9,rb,dk,j5,qP,lX,eJ,bk,kI,pg,fq,mZ,ae,af,aX,b9,rV hg,cz,cq,h,iT,eD,fJ,ej,d5,dH,dF,gA,yf,jH,gm,pd hg',et,Yk,YM hw1,hlen,NF,Jy hg2]
end
section
variable{σ:AS}{r m:Nat}{L l:aa}{mac:List Nat->List AV}
theorem vY{F:aW}{args:aa}{a:AV}(h:uB F args=some a)(σ:AS):wN F args σ=some (a,σ):=jm h
theorem ak3(hg:σ.get r=some (cW L m))(hL:dB L.length=true)(S:lm mac l L m){t w d n:AV}(e1:qQ l 0 pY=some true)(e2:jL l 0=some (some t))(e3:pK 1 t=some w)
  (e4:uB iE [w]=some d)(e5:uB lG [d]=some (.bool true))(e6:uB ol [d]=some n)(hd:bX d=false):nB [.ref r] σ=some (n,σ.set r (cW L (m+1))):=by
 have h:iy [.ref r,.str [110,117,109,98,101,114]] σ=some (.bool true,σ):=lN hg hL S e1
 have hp:ii [.ref r] σ=some (t,σ):=tn hg hL S e2
 show ob (rQ [.ref r] σ) ir=_
 simp only[rQ,fj,gv,dk,j5,G9,qP,lX,eJ,bk,kI,pg,fq,hd,ae,af,aX,b9,rV hg,cz,cq,d5,h,iT,eD,fx,fJ,dF,dH,fH,et,gm,hp,(j6 (σ:=σ) e3).1,vY e4,vY e5,vY e6,sD,sE,putN,yf,jH,pd hg,O3,Jy hg,ej,gA]
theorem aef(hg:σ.get r=some (cW L m))(hL:dB L.length=true)(S:lm mac l L m){t w:AV}{b:List UInt8}(e1:qQ l 0 Yx=some true)(e2:jL l 0=some (some t))(e3:pK 1 t=some w)
  (e4:uB iz [w]=some (.bytes b)):mj [.ref r] σ=some (.bytes b,σ.set r (cW L (m+1))):=by
 have h:iy [.ref r,.str [108,105,116,101,114,97,108]] σ=some (.bool true,σ):=lN hg hL S e1
 have hp:ii [.ref r] σ=some (t,σ):=tn hg hL S e2
 show ob (ql [.ref r] σ) ir=_
 simp only[ql,fj,gv,dk,j5,fD,qP,lX,eJ,bk,kI,pg,fq,apA,ae,af,aX,b9,rV hg,cz,cq,d5,h,iT,eD,fJ,dF,dH,fH,et,gm,hp,(j6 (σ:=σ) e3).1,vY e4,ahX,adZ,sD,sE,putN,yf,jH,pd hg,O3,Jy hg,ej,gA]
theorem abU(hg:σ.get r=some (cW L m))(hL:dB L.length=true):lf [.ref r] σ=some (.bool (!bw m L.length),σ):=by
 show ob (o7 [.ref r] σ) ir=_
 simp only[o7,dk,ej,wL,fD,gm,bk,kI,fq,ae,aX,b9,pd hg,IK hg,et,cz,cq,xX hL,aoi,dH,gA]
theorem lm.lt(S:lm mac l L m){t:AV}(e:jL l 0=some (some t)):L[m]? =some t:=by
 refine eX (S.2) fun pre h1 h2=> ?_
 rw[h2,<- h1,kD (ax _),Bt,QY S.1 e]
theorem aoz(hm:m<L.length):Ur [.int (.ofNat m),.int (am L.length-1)] σ=some (.int (.ofNat m),σ):=by
 obtain⟨j,hj⟩:=Nat.exists_eq_add_of_lt hm
 rw[hj,show am (m+j+1)-1=am (m+j) from Bp (m+j:Nat) 1]
 show some (AV.int (bif bw (m+j) m then am (m+j)else am m),σ)=_
 rw[Zw (cY m j)];rfl
theorem ahi(hg:σ.get r=some (cW L m))(hL:dB L.length=true)(S:lm mac l L m){t w:AV}{x:ac}(e2:jL l 0=some (some t))(e3:pK 4 t=some w):nA [.ref r,.str x] σ=some (.opq,σ):=by
 have hat:=S.lt e2
 have hm:=(cU.mp hat).1
 have ht:qU σ (.lst L)=some true:=by
  show(bif dB L.length then some (!L.isEmpty)else none)=_
  rw[hL]
  cases L with
  |nil=>exact absurd hm (iw _)
  |cons=>rfl
 have hs:b4 .Sub (.int (.ofNat L.length)) (.int 1) σ=some (.int (am L.length-1),σ):=rfl
 have hix:=I2 (σ:=σ) (fV (au (i8 hm) (jP hL))) hat
 have ho: ∀a b,Wl [a,b] σ=some (.opq,σ):=fun _ _=>rfl
 show ob (rP [.ref r,.str x] σ) ir=_
 simp only[rP,dk,j5,qP,eD,fJ,dF,ej,wH,lX,jH,gm,bk,kI,pg,fq,mZ,ae,af,aX,b9,IK hg,pd hg,ht,et,cz,cq,xX hL,d5,hs,aoz hm,hix,(j6 (σ:=σ) e3).1,ho,dH,gA]
end
section
variable{C:PC}{kF:Nat}{f:ah}{mac:List Nat->List AV}{bx:List Nat->List AV->List Nat}{VB:AV->Prop}
structure qk(C:PC)(mac:List Nat->List AV)(bx:List Nat->List AV->List Nat)(VB:AV->Prop):Prop where
 mac0:mac []=[]
 rdr: ∀l c,C.conc 1021 l c↔lL mac l c
 bx2: ∀m d vs,bx [m,d] vs=[m,d]
 bag: ∀l c,C.conc 0 l c↔agb bx VB l c
theorem eA{σ:AS}{r:Nat}{eS c:bJ}(h:σ.get r=some eS):(σ.set r c).get r=some c:=by rw[AS.get_set,if_pos rfl,h];rfl
theorem tr{σ:AS}{r b:Nat}{c:bJ}(h:b≠r):(σ.set r c).get b=σ.get b:=by rw[AS.get_set,if_neg h]
theorem b6{l l':aa}:aN (l++l')=(aN l&&aN l'):=by
 induction l with
 |nil=>rfl
 |cons a l ih=>exact(congrArg (noRef a&& ·) ih).trans (Bool.and_assoc ..).symm
theorem Mg{l:aa}{j:Nat}(h:aN l=true):aN (l.take j)=true/\aN (l.drop j)=true:=by
 rw[<- oa j l,b6]at h
 exact aE h hZ
theorem vS{σ:AS}{l:aa}{r:Nat}{c eS:bJ}(h:lL mac l c)(m0:mac []=[])(hg:σ.get r=some eS): ∃L m,(σ.set r c).get r=some (cW L m)/\c=cW L m/\dB L.length=true/\lm mac l L m/\m+(xp mac l).length=L.length/\
  ∀j l',rT l j=some l'->lL mac l' (cW L (m+j)):=by
 obtain⟨w,pre,h1,h2,h3,rfl⟩:=h
 refine⟨_,_,eA hg,rfl,by rw[ao];exact h1,⟨m0,pre,rfl,rfl⟩,ao.symm,fun j l' e=> ?_⟩
 refine ug (adk m0 w e) fun d1 d2 d3=> ?_
 have hl:(pre++(xp mac l).take j).length=pre.length+j:=by rw[ao,kh,H7 d2]
 refine⟨d3,pre++(xp mac l).take j,?_,?_,?_,?_⟩
 ·rw[hl,d1,g9,kE,Bg d2];exact h1
 ·rw[b6,h2,(Mg h3).1];rfl
 ·rw[d1];exact(Mg h3).2
 ·rw[hl,d1,aB,oa]
theorem uv(O:qk C mac bx VB){F F':aW}(hF:aF C kF f F)(H: ∀args σ a ai,F' args σ=some (a,ai)-> ∃r l,σ.get r=some (.orc 1021 l)/\ai=σ/\
  ∀jD L m,jD.get r=some (cW L m)->dB L.length=true->lm mac l L m->m+(xp mac l).length=L.length->F args jD=some (a,jD)):aF C kF f F':=uS hF fun args σ a ai e=>by
 obtain⟨r,l,hr,rfl,H⟩:=H args σ a ai e
 refine⟨r,1021,l,hr,fun c hc hlt=> ?_⟩
 refine abV (vS ((O.rdr _ _).mp hc) O.mac0 hr) fun L m h1 h2 h3 h4 h5 h6=> ?_
 refine⟨_,c,1021,l,H _ L m h1 h3 h4 h5,h2▸h1,hc,ax _,fun b d q=> ?_⟩
 by_cases z:b=r
 ·exact .inl ⟨z,aH (q.symm.trans (z▸hr))⟩
 ·exact .inr ⟨z,(tr z).trans q⟩
theorem Zq{σ ay:AS}{r:Nat}{c' eS:bJ}(hr:σ.get r=some eS)(h: ∀b d,b≠r->σ.get b=some d->ay.get b=some d)(b:Nat)(d:bJ)(q:(σ.set r c').get b=some d):(b=r/\d=c')\/(b≠r/\ay.get b=some d):=by
 by_cases z:b=r
 ·subst z;rw[eA hr]at q;exact .inl ⟨rfl,(aH q).symm⟩
 ·rw[tr z]at q;exact .inr ⟨z,h b d z q⟩
theorem zp(O:qk C mac bx VB){F F':aW}(hF:aF C kF f F)(H: ∀args σ a ai,F' args σ=some (a,ai)-> ∃r l j l',σ.get r=some (.orc 1021 l)/\rT l j=some l'/\ai=σ.set r (.orc 1021 l')/\
  ∀jD L m,jD.get r=some (cW L m)->dB L.length=true->lm mac l L m->F args jD=some (a,jD.set r (cW L (m+j)))):aF C kF f F':=uS hF fun args σ a ai e=>by
 obtain⟨r,l,j,l',hr,hd,rfl,H⟩:=H args σ a ai e
 refine⟨r,1021,l,hr,fun c hc hlt=> ?_⟩
 refine abV (vS ((O.rdr _ _).mp hc) O.mac0 hr) fun L m h1 h2 h3 h4 h5 h6=> ?_
 exact⟨_,cW L (m+j),1021,l',H _ L m h1 h3 h4,eA h1,(O.rdr _ _).mpr (h6 _ _ hd),ax _,Zq hr fun b d z q=>by rw[tr z,tr z];exact q⟩
theorem zq{F:aW}{args:aa}{σ:AS}{r:Nat}{l:aa}{a b:AV}{ai:AS}(hr:σ.get r=some (.orc 1021 l))(e:some (b,σ)=some (a,ai))(H: ∀jD L m,jD.get r=some (cW L m)->dB L.length=true->lm mac l L m->m+(xp mac l).length=L.length->F args jD=some (b,jD)):
  ∃r l,σ.get r=some (.orc 1021 l)/\ai=σ/\ ∀jD L m,jD.get r=some (cW L m)->dB L.length=true->lm mac l L m->m+(xp mac l).length=L.length->F args jD=some (a,jD):=by
 apply s2 e;exact⟨r,l,hr,rfl,H⟩
theorem QI{F:aW}{args:aa}{σ:AS}{r j:Nat}{l l':aa}{a b:AV}{ai:AS}(hr:σ.get r=some (.orc 1021 l))(hd:rT l j=some l')(e:some (b,σ.set r (.orc 1021 l'))=some (a,ai))(H: ∀jD L m,jD.get r=some (cW L m)->dB L.length=true->lm mac l L m->F args jD=some (b,jD.set r (cW L (m+j)))):
  ∃r l j l',σ.get r=some (.orc 1021 l)/\rT l j=some l'/\ai=σ.set r (.orc 1021 l')/\ ∀jD L m,jD.get r=some (cW L m)->dB L.length=true->lm mac l L m->F args jD=some (a,jD.set r (cW L (m+j))):=by
 apply s2 e;exact⟨r,l,j,l',hr,hd,rfl,H⟩
theorem Vu(o:Option AV):((od o some (some .none)).getD .none)=o.getD .none:=by cases o<;>rfl
theorem YE(O:qk C mac bx VB)(hF:aF C kF f ii):aF C kF f Iq:=uv O hF fun args σ a ai e=>n7 e fun r as l hr e=>aaG e
 (fun e=>oE e fun o ho e=>zq hr e fun jD L m hg hL S _=>by rw[Vu];exact tn hg hL S ho) fun k e=>oE e fun o ho e=>zq hr e fun jD L m hg hL S _=>by rw[Vu];exact tn hg hL S ho
theorem QF(O:qk C mac bx VB)(hF:aF C kF f iy):aF C kF f LG:=uv O hF fun args σ a ai e=>n7 e fun r as l hr e=>Lk e fun w bs e=>aaG e
 (fun e=>oE e fun b e1 e=>zq hr e fun jD L m hg hL S _=>lN hg hL S e1) fun k e=>oE e fun b e1 e=>zq hr e fun jD L m hg hL S _=>lN hg hL S e1
theorem QG(O:qk C mac bx VB)(hF:aF C kF f jx):aF C kF f LH:=uv O hF fun args σ a ai e=>n7 e fun r as l hr e=>Lk e fun w bs e=>aaG e
 (fun e=>oE e fun b e1 e=>zq hr e fun jD L m hg hL S _=>Ho hg hL S e1) fun k e=>oE e fun b e1 e=>zq hr e fun jD L m hg hL S _=>Ho hg hL S e1
theorem QE(O:qk C mac bx VB)(hF:aF C kF f lf):aF C kF f vz:=uv O hF fun args σ a ai e=>n7 e fun r as l hr e=>Ar e fun e=>oE e fun o ho e=>by
 have ho:=fun h=>QY (mac:=mac) h ho
 cases o with
 |some t=>
  exact zq hr e fun jD L m hg hL S hlen=>by
   have h:=(cU.mp (ho O.mac0)).1
   rw[abU hg hL,Hb (by rw[<- hlen];exact ve h)];rfl
 |none=>
  exact zq hr e fun jD L m hg hL S hlen=>by
   have h:=Rf.mp (List.getElem?_eq_none_iff.mp (ho O.mac0))
   rw[abU hg hL,Zw (by rw[<- hlen,h];exact ax _)];rfl
theorem VP(O:qk C mac bx VB)(hF:aF C kF f nA):aF C kF f So:=uv O hF fun args σ a ai e=>n7 e fun r as l hr e=>Lk e fun x bs e=>Ar e fun e=>oE e fun o ho e=>oE (o:=o) e fun t ht e=>oE e fun w hw e=>
 zq hr e fun jD L m hg hL S _=>ahi hg hL S (ht▸ho) hw
theorem YG(O:qk C mac bx VB)(hF:aF C kF f o4):aF C kF f Wn:=zp O hF fun args σ a ai e=>n7 e fun r as l hr e=>Ar e fun e=>oE e fun o ho e=>oE (o:=o) e fun t ht e=>oE e fun l' hd e=>
 QI hr hd e fun jD L m hg hL S=>let⟨c,ks,vs,h⟩:=aaM (k:=0) (ht▸ho);amQ hg hL S (ht▸ho) (h▸rfl) (h▸rfl)
theorem EN{σ:AS}{r:Nat}{c:bJ}(h:σ.get r=some c):σ.set r c=σ:=congrArg (AS.mk σ.next) (TP _ _ _ h)
theorem Le(O:qk C mac bx VB)(hF:aF C kF f jN):aF C kF f Fz:=zp O hF fun args σ a ai e=>n7 e fun r as l hr e=>Lk e fun w bs e=>Ar e fun e=>oE e fun b hb e=>bE e
 (fun z e=>oE e fun l' hd e=>QI hr hd e fun jD L m hg hL S=>Jz hg hL S (z▸hb)) fun z e=>QI (j:=0) hr (L8 l) ((congrArg (fun σ=>some (AV.bool false,σ)) (EN hr)).trans e) fun jD L m hg hL S=>(Jz hg hL S (z▸hb)).trans (congrArg (fun σ=>some (AV.bool false,σ)) (EN hg).symm)
theorem YY{β:Type}{l:aa}{w:ac}{f:AV->List AV->Option β}{x:β}{P:Prop}(e:V1 l w f=some x)(kk: ∀t v l',qQ l 0 w=some true->jL l 0=some (some t)->pK 1 t=some v->rT l 1=some l'->f v l'=some x->P):P:=
 oE e fun b hb e=>kS e fun z e=>oE e fun o ho e=>oE (o:=o) e fun t ht e=>oE e fun v hv e=>oE e fun l' hd e=>kk t v l' (z▸hb) (ht▸ho) hv hd e
theorem abg{d:AV}(h:uB lG [d]=some (.bool true)):bX d=false:=by
 cases d<;>first|rfl|exact nn h
theorem VQ(O:qk C mac bx VB)(hF:aF C kF f nB):aF C kF f (Sp iE lG ol):=zp O hF fun args σ a ai e=>n7 e fun r as l hr e=>Ar e fun e=>YY e fun t v l' hk ht hv hd e=>oE e fun d h1 e=>oE e fun b h2 e=>afE e fun hb e=>oE e fun n h3 e=>
 QI hr hd e fun jD L m hg hL S=>ak3 hg hL S hk ht hv h1 (hb▸h2) h3 (abg (hb▸h2))
theorem R5(O:qk C mac bx VB)(hF:aF C kF f mj):aF C kF f (Oo iz):=zp O hF fun args σ a ai e=>n7 e fun r as l hr e=>Ar e fun e=>YY e fun t v l' hk ht hv hd e=>oE e fun x h1 e=>ac6 e fun b hb e=>
 QI hr hd e fun jD L m hg hL S=>aef hg hL S hk ht hv (hb▸h1)
theorem Q0{F:aW}{args:aa}{σ:AS}{r:Nat}{l:aa}{a:AV}{w:ac}(O:qk C mac bx VB)(hr:σ.get r=some (.orc 1021 l))(H: ∀jD L m,jD.get r=some (cW L m)->dB L.length=true->lm mac l L m->r<jD.next->F args jD=some (a,sW jD w)):
  ∃r kk l,σ.get r=some (.orc kk l)/\ ∀c,C.conc kk l c->(∀b d,σ.get b=some d->b<σ.next)-> ∃ay CA Tk bD,F args (σ.set r c)=some (a,ay)/\ay.get r=some CA/\C.conc Tk bD CA/\ay.next<=(⟨σ.next+1,σ.cells⟩:AS).next/\
   ∀b d,(⟨σ.next+1,σ.cells⟩:AS).get b=some d->(b=r/\d= .orc Tk bD)\/(b≠r/\ay.get b=some d):=by
 refine⟨r,1021,l,hr,fun c hc hlt=> ?_⟩
 refine abV (vS ((O.rdr _ _).mp hc) O.mac0 hr) fun L m h1 h2 h3 h4 h5 h6=> ?_
 refine⟨_,c,1021,l,H _ _ _ h1 h3 h4 (hlt _ _ hr),((Jw (σ:=σ.set r c) (hlt _ _ hr)).trans h1).trans (congrArg some h2.symm),hc,ax _,fun b d q=> ?_⟩
 have q:σ.get b=some d:=q
 by_cases z:b=r
 ·exact .inl ⟨z,aH (q.symm.trans (z▸hr))⟩
 ·exact .inr ⟨z,(Jw (σ:=σ.set r c) (hlt _ _ q)).trans ((tr z).trans q)⟩
theorem QH(O:qk C mac bx VB)(hF:aF C kF f jy):aF C kF f LK:=uS hF fun args σ a ai e=>n7 e fun r as l hr e=>Lk e fun w bs e=>Ar e fun e=>kS e fun hw e=>oE e fun b e1 e=>by
 apply s2 e
 exact Q0 O hr fun jD L m hg hL S hr=>PX hg hL S hr hw e1
theorem YF(O:qk C mac bx VB)(hF:aF C kF f o0):aF C kF f Wm:=uS hF fun args σ a ai e=>n7 e fun r as l hr e=>Lk e fun w bs e=>Ar e fun e=>kS e fun hw e=>oE e fun b e1 e=>bE e
 (fun z e=>oE e fun l' hd e9=>by
  subst z
  apply s2 e9
  refine⟨r,1021,l,hr,fun c hc hlt=> ?_⟩
  refine abV (vS ((O.rdr _ _).mp hc) O.mac0 hr) fun L m h1 h2 h3 h4 h5 h6=> ?_
  have hs: ∀{b:Nat},b<σ.next->((sW (σ.set r c) w).alloc (.lst ((dv 32 [] w).map .str))).get b=(σ.set r c).get b:=fun{b} h=>by
   rw[AS.get_alloc,if_neg (show b≠(sW (σ.set r c) w).next from ct (cO h))];exact Jw (σ:=σ.set r c) h
  exact⟨_,cW L (m+(dv 32 [] w).length),1021,l',acD h1 h3 h4 (hlt _ _ hr) hw e1,eA ((hs (hlt _ _ hr)).trans h1),(O.rdr _ _).mpr (h6 _ _ hd),ax _,
   Zq hr fun b d z q=>(tr (σ:=(sW (σ.set r c) w).alloc _) z).trans ((hs (hlt _ _ q)).trans ((tr z).trans q))⟩) fun z e9=>by
  subst z
  apply s2 e9
  exact Q0 O hr fun jD L m hg hL S hr=>acD hg hL S hr hw e1
theorem zH{F:aW}(hF:aF C kF f F):aF C kF f (wN F):=aaV (jg (pick:=fun _ _=>[]) hF) fun args σ a ai e=>oE e fun b h e=>kS h fun hr h=>fR h fun xJ ay e1 h=>kS h fun ha h=>by
 apply s2 e
 apply s1 h
 show(bif aN args then bC (F args ⟨0,[]⟩) _ else none)=_
 rw[hr,e1]
 show ob (uN _ xJ) _=_
 rw[uz ha];rfl
end
section
variable{k:Nat}{C:PC}{W W' W'':Wd}{σ ai:AS}{h h':bO}
theorem aaf{ay:AS}{cA:Wd}{x:Nat}{c:Nat}{ks:ac}{fs fs':aa}{p:aC×aC}{es:List ia}{m:Nat}{vs:List ah}(R:cC C W σ h)(hg:σ.get x=some (.inst c ks fs))(hp:W.ρ x=some p)(hpr:W.pr p.2=none)(hi:W.im p.2=none)(q0:C.cls c=true)(q1:W.im p.1=some (instObj c p.2))(q2:h.get? p.2=some (dictOf es m))(q3:oY C ks vs es)
  (g2:Gh W (σ.drop x) cA ay)(R2:cC C cA ay h)(z2:VL C cA fs' vs):cC C cA ⟨ay.next,(x,.inst c ks fs')::ay.cells⟩ h:=by
 have hx: ∀b c,(σ.drop x).get b=some c->b≠x/\σ.get b=some c:=fun b c e=>by
  rw[AS.get_drop]at e
  by_cases z:b=x
  ·rw[if_pos z]at e;exact nn e
  ·rw[if_neg z]at e;exact⟨z,e⟩
 have hp2:cA.ρ x=some p:=by rw[g2.ρ];exact hp
 have hi2:cA.im p.2=none:=by
  cases z:cA.im p.2 with
  |none=>rfl
  |some o=>
   refine Xp (g2.im _ _ hi z) fun b c' p' h1 h2 h3=> ?_
   obtain⟨n1,n2⟩:=hx _ _ h1
   exact absurd (R.inj _ _ _ _ _ _ n2 hg h2 hp h3) n1
 have look: ∀b c',AS.get ⟨ay.next,(x,.inst c ks fs')::ay.cells⟩ b=some c'->(b=x/\c'= .inst c ks fs')\/(b≠x/\ay.get b=some c'):=fun b c' e=>by
  by_cases z:b=x
  ·subst z;exact .inl ⟨rfl,(aH (aid.symm.trans e)).symm⟩
  ·exact .inr ⟨z,(aie z).symm.trans e⟩
 refine⟨R2.base,R2.im,R2.pr,R2.dis,R2.fresh,fun b c' e=> ?_,fun b b' cb cb' pb pb' e e' ep ep' hpp=> ?_⟩
 ·rcases look b c' e with⟨rfl,rfl⟩|⟨h1,h2⟩
  ·exact⟨p,hp2,⟨q0,g2.le.2.1 _ _ q1,es,m,vs,q2,z2,q3⟩,hi2,by rw[g2.le.2.2];exact hpr⟩
  ·exact R2.cell _ _ h2
 ·have old: ∀b c',AS.get ⟨ay.next,(x,.inst c ks fs')::ay.cells⟩ b=some c'-> ∃c'',σ.get b=some c'':=fun b c' e=>(look b c' e).elim (fun h=>⟨_,h.1▸hg⟩) fun h=>⟨_,(hx _ _ (g2.sub _ _ h.2)).2⟩
  obtain⟨d,e⟩:=old b cb e
  obtain⟨d',e'⟩:=old b' cb' e'
  exact R.inj _ _ _ _ _ _ e e' (by rw[<- g2.ρ];exact ep) (by rw[<- g2.ρ];exact ep') hpp
theorem XE{sel:Nat->Bool}(n:Nat)(W:Wd)(σ:AS)(a:AV)(v:ah)(R:cC C W σ h)(q:V C W a v): ∃W',W.le W'/\cC C W' (PH sel n a σ).2 h/\V C W' (PH sel n a σ).1 v:=by
 unfold PH
 generalize e:io a _=o
 cases o with
 |none=>exact⟨W,.refl _,R,q⟩
 |some r=>
  show ∃W',W.le W'/\cC C W' r.2 h/\V C W' r.1 v
  revert q
  refine iA e fun x e=>instE e fun c ks fs hg e=> ?_
  apply s1 e
  intro q
  obtain⟨p,hp,rfl⟩:=q
  obtain⟨p',e',⟨q0,q1,es,m,vs,q2,r,q3⟩,hi,hpr⟩:=R.cell _ _ hg
  rw[hp]at e';cases e'
  refine uh (Mf (sel:=sel) (CH (sel:=sel) n) ks fs W (σ.drop x) vs (R.drop x) r) fun cA g2 R2 z2=> ?_
  exact⟨cA,g2.le,aaf R hg hp hpr hi q0 q1 q2 q3 g2 R2 z2,p,g2.le.1 _ _ hp,rfl⟩
theorem TN{kF:Nat}{f:ah}{F:aW}{g:AV->AS->AV×AS}(hg: ∀h W σ a v,cC C W σ h->V C W a v-> ∃W',W.le W'/\cC C W' (g a σ).2 h/\V C W' (g a σ).1 v)(hF:aF C kF f F):aF C kF f (Jk g F):=fun A R W σ s args vs Re hv tk a ai e=>fR e fun b ay e1 e=>by
 refine eC (hF A R W σ s args vs Re hv tk b ay e1) fun v s' ⟨hs,W',le,R',hv'⟩=> ?_
 refine uh (hg _ _ _ _ _ R' hv') fun cA l2 R2 v2=> ?_
 rw[show g b ay=(a,ai) from aH e]at R2 v2
 exact⟨hs,cA,le.trans l2,R2,v2⟩
theorem HJ{kF n:Nat}{sel:Nat->Bool}{f:ah}{F:aW}(hF:aF C kF f F):aF C kF f (Jk (um sel n) F):=TN (fun h W σ a v R q=>let⟨W',g,R',v'⟩:=CH n W σ a v R q;⟨W',g.le,R',v'⟩) hF
theorem HK{kF n:Nat}{sel:Nat->Bool}{f:ah}{F:aW}(hF:aF C kF f F):aF C kF f (Jk (PH sel n) F):=TN (fun h W σ a v R q=>XE n W σ a v R q) hF
end
section
variable{C:PC}{kF:Nat}{f:ah}{mac:List Nat->List AV}{bx:List Nat->List AV->List Nat}{VB:AV->Prop}
theorem Vz{a:AV}{Q:AV->Prop}(h:(mV a fun c _ _=>some (!aj c 0)).getD false=true)(kk: ∀c ks vs,aj c 0=false->Q (.frz c ks vs)):Q a:=by
 cases a with
 |frz c ks vs=>exact kk c ks vs (pu h)
 |_=>exact ff h
theorem T3{l:aa}:dj l=true->xp mac l=l/\vk mac l:=by
 induction l with
 |nil=>exact fun _=>⟨rfl,trivial⟩
 |cons a l ih=>
  refine fun h=>aE (show((mV a fun c _ _=>some (!aj c 0)).getD false&&dj l)=true from h) fun h1 h2=>Vz (Q:=fun a=>xp mac (a::l)=a::l/\vk mac (a::l)) h1 fun c ks vs h1=> ?_
  obtain⟨i1,i2⟩:=ih h2
  refine⟨?_,fun z=> ?_,i2⟩
  ·rw[ES,h1,i1];rfl
  ·have z:(aj c 0&&CM ks)=true:=z
   rw[h1]at z;exact ff z
@[elab_as_elim] theorem al1 {vs:aa} {L:aa} {Q:List AV->Prop} (h:aah vs=some L) (kk: ∀x y,Q [.lst L,.int (.ofNat 0),x,y]):Q vs:=
 kJ h fun a r h=>kJ (Q:=fun r=>Q (a::r)) h fun b r h=>alo (Q:=fun a=>Q (a::b::r)) h fun L' h=>mm (Q:=fun b=>Q (.lst L'::b::r)) h fun n h=>kS h fun z h=>KD (Q:=fun r=>Q (.lst L':: .int (.ofNat n)::r)) h fun x y h=>
  s1 (P:=fun L=>(∀x y,Q [.lst L,.int (.ofNat 0),x,y])->Q [.lst L',.int (.ofNat n),x,y]) h (fun kk=>by rw[aD z];exact kk x y) kk
theorem aeO(O:qk C mac bx VB){F:aW}(hF:aF C kF f F):aF C kF f (anv F):=fun A R W σ s args vs Re hv tk a ai e=>fR e fun b ay e1 e=>by
 revert e1
 refine iA e fun x e=>instE e fun c ks fs hc e=>kS e fun z e=>oE e fun L hL e=>kS e fun q e e1=> ?_
 apply s2 e
 obtain⟨z1,z2⟩:=aE z hZ
 rw[kO,decide_eq_true_iff]at z2
 obtain⟨q,h3⟩:=aE q hZ
 obtain⟨h1,h2⟩:=aE q hZ
 obtain⟨xl,xw⟩:=T3 (mac:=mac) h3
 refine eC (hF A R W σ s args vs Re hv tk _ ay e1) fun v s' ⟨hs,W',le,R',hv'⟩=> ?_
 obtain⟨p,a1,⟨q0,q1,es,n,vs,q2,r,q3⟩,_⟩:=R'.cell _ _ hc
 have r4:VL C W' [.lst L,.int (.ofNat 0),.opq,.opq] vs:=al1 (Q:=fun fs=>VL C W' fs vs->VL C W' [.lst L,.int (.ofNat 0),.opq,.opq] vs) hL (fun x y r=>r.consE fun v1 r1 z1 r=>r.consE fun v2 r2 z2 r=>r.consE fun v3 r3 _ r=>r.consE fun v4 r4 _ r=>.cons z1 (.cons z2 (.cons trivial (.cons trivial r)))) r
 rw[aD z1]at q0 q1
 rw[z2]at q3
 exact⟨hs,W',le,R'.set hc a1 (fun _ _ _ e=>e) ⟨cW L 0,(O.rdr _ _).mpr ⟨xw,[],by rw[xl,H4,ic];exact h1,rfl,by rw[xl];exact h2,by rw[xl];rfl⟩,q0,q1,es,n,vs,q2,r4,q3⟩,hv'⟩
theorem akI{σ:AS}{x m:Nat}{b:Int}(hg:σ.get x=some (.lst [.int b]))(hm:0<m)(hs:bw m 1000=true):y6 [.ref x,.int (.ofNat m)] σ=some (.int (b.fmod (am m)),σ.set x (.lst [.int (b.fdiv (am m))])):=by
 obtain⟨j,rfl⟩:=Nat.exists_eq_succ_of_ne_zero (oQ hm)
 have h1:mG (am (j+1))=true:=gp (au (i8 (dh.mp hs)) (by decide +kernel))
 have hi:fU (.ref x) (.int 0) σ=some (.int b,σ):=jm (show acb (.ref x) (.int 0) σ=some (.int b) from jm (show nF σ (.ref x)=some [.int b] from jm hg))
 have e1:b4 .Mod (.int b) (.int (.ofNat (j+1))) σ=some (.int (b.fmod (am (j+1))),σ):=rfl
 have e2:b4 .FloorDiv (.int b) (.int (.ofNat (j+1))) σ=some (.int (b.fdiv (am (j+1))),σ):=by
  show od (bif false|| !mG (am (j+1))then none else _) _ _=_
  rw[h1];rfl
 have hset:Lb (.int (b.fdiv (am (j+1)))) (.ref x) (.int 0) σ=some (σ.set x (.lst [.int (b.fdiv (am (j+1)))])):=jm hg
 show ob (y9 [.ref x,.int (.ofNat (j+1))] σ) ir=_
 simp only[y9,dk,fH,jH,bk,kI,pg,fq,lY,ae,aX,b9,d5,hi,e1,dF,sD,sE,putN,Qz,e2,hset,ej,dH,gA]
@[elab_as_elim] theorem apW {β:Type} {a:AV} {Q:AV->Prop} {f:Nat->Nat->Option β} {r:β} (h:drA a f=some r) (kk: ∀c m d vs,f m d=some r->Q (.frz c [m,d] vs)):Q a:=
 tb h fun c ks vs h=>kJ (Q:=fun ks=>Q (.frz c ks vs)) h fun m l h=>kJ (Q:=fun l=>Q (.frz c (m::l) vs)) h fun d l h=>kS h fun z h=>by rw[PS z];exact kk c m d vs h
theorem wf(O:qk C mac bx VB)(hF:aF C kF f y6):aF C kF f BA:=uS hF fun args σ a ai e=>KD e fun a1 b1 e=>iA e fun x e=>mm e fun m e=>F3 e fun kk l hg e=>kS e fun q0 e=>by
 rw[aD q0]at hg
 revert hg
 refine kJ (Q:=fun l=>σ.get x=some (.orc 0 l)->_) e fun t r e=> ?_
 refine apW (Q:=fun t=>σ.get x=some (.orc 0 (t::r))->_) e fun eS m' d vs e=> ?_
 refine fun hg=>kS e fun q e=>aE q fun q hs=> ?_
 apply s2 e
 rw[<- aD q]at hg
 refine⟨x,0,_,hg,fun c hc hlt=> ?_⟩
 obtain⟨hv,b,rfl,h3⟩:=(O.bag _ _).mp hc
 rw[show xb bx (.frz eS [m,d] vs::r)=m::d::xb bx r from congrArg (· ++xb bx r) (O.bx2 m d vs)]at h3
 refine ug (h3) fun hm hd hr=> ?_
 have hg1:(σ.set x (.lst [.int b])).get x=some (.lst [.int b]):=eA hg
 exact⟨(σ.set x (.lst [.int b])).set x (.lst [.int (b.fdiv (am m))]),.lst [.int (b.fdiv (am m))],0,r,(akI hg1 hm hs).trans (by rw[hd]),eA hg1,(O.bag _ _).mpr ⟨fun a h=>hv a (aQ _ h),_,rfl,hr⟩,ax _,
  Zq hg fun b d z q=>by rw[tr z,tr z];exact q⟩
theorem aeI(O:qk C mac bx VB){path:Int->List AV}(hp: ∀b,(∀a∈path b,VB a)/\cH (xb bx (path b)) b){F:aW}(hF:aF C kF f F):aF C kF f (afL path F):=fun A R W σ s args vs Re hv tk a ai e=>by
 revert hv
 refine UO e fun b e=> ?_
 refine iA e fun x e=>lstE e fun l hg e=> ?_
 revert hg
 refine UO e fun v e=> ?_
 refine lp e fun b e hg hv=> ?_
 exact hF A R W _ s [.ref x] vs (Re.abst hg ((O.bag _ _).mpr ⟨(hp b).1,b,rfl,(hp b).2⟩)) hv tk a ai e
end
noncomputable def tk(k w:ac)(c:Nat)(a:Bool):AV:=.frz UX [2,1,4,28] [.str k,.str w,.tup [.int 1,.int (am c)],.bool a]
noncomputable def aqH:List Nat:=[112,105,99,116,117,114,101]
noncomputable def wK(a:Bool)(c:Nat):List (List Nat×List Nat×Nat)->List AV
 |[]=>[]
 |(k,w,n)::r=>tk k w c a::wK false (c+n) r
noncomputable def wd(w:ac):List Nat×List Nat×Nat:=(uQ,w,w.length+1)
noncomputable def nu(w:ac):List Nat×List Nat×Nat:=(pY,w,w.length+1)
noncomputable def KM:List Nat×List Nat×Nat:=(jo,[46],2)
noncomputable def nW(l:Nat):List Nat:=bif aj l 1 then[48,49]else bif aj l 5 then[48,53]else bif aj l 10 then[49,48]else[55,55]
noncomputable def RX(p:Nat):List (List Nat×List Nat×Nat):=(ek (x7 p) fun s=>some [wd [80,73,67],(aqH,s,s.length+1)]).getD []
noncomputable def Sb(w:Nat):List (List Nat×List Nat×Nat):=bif aj w 1 then[wd [85,83,65,71,69],wd [73,83],wd [80,65,67,75,69,68,45,68,69,67,73,77,65,76]]else[]
noncomputable def RV(w:Nat):List (List Nat×List Nat×Nat):=bif aj w 2 then[wd [79,67,67,85,82,83],nu [51],wd [84,73,77,69,83],wd [68,69,83,67,69,78,68,73,78,71],wd [75,69,89],wd [73,83],wd [75],wd [73,78,68,69,88,69,68],wd [66,89],wd [73,88]]else bif aj w 3 then[wd [79,67,67,85,82,83],nu [48],wd [84,79],nu [52],wd [84,73,77,69,83],wd [68,69,80,69,78,68,73,78,71],wd [79,78],wd [78],wd [79,70],wd [71]]else[]
def ank(lvl:Nat)(x:Nat×Nat×Nat)(a:Bool):List AV:=wK a (bif a then 8 else 12) (nu (nW lvl)::wd (nm x.1)::(RX x.2.2++(Sb x.2.1++(RV x.2.1++[KM]))))
def ku(lvl:Nat)(x:Nat×Nat×Nat):List AV:=ank lvl x (bif aj lvl 1 then true else aj lvl 77)
def fF(n:Nat):List AV:=wK false 12 [nu [56,56],wd ([73,83,45]++nm n),wd [86,65,76,85,69],(jo,[45],1),nu [53],wd [84,72,82,85],nu [49,46,50,53],(Yx,[113],4),KM]
def gE(n l:Nat):List AV:=wK false 12 ([nu [54,54],wd (nm n),wd [82,69,78,65,77,69,83],wd (nm 16)]++((bif aj l 0 then[]else[wd [84,72,82,85],wd (nm 22)])++[KM]))
def kL(t:ac)(a:Bool):Option (List AV):=bC (rM [.str t,.bool a] ⟨0,[]⟩) fun x σ=>io x fun x=>nv σ x some
def uR(x:AV)(a:Bool):Option (List AV):=bC (BQ [x] ⟨0,[]⟩) fun t _=>ek t fun t=>kL t a
def vT(r n:Nat)(cells:List (Nat×bJ))(x:Option (AV×AS)):Option (AV×AS):=bC x fun a ai=>sC ai 0 fun k' l'=>bif F1 0 (wM a ai)then none else imp (XN r n (wM a ai)) (wM a ai) n (lx r (.orc k' l') cells) a ai
theorem t1(c k p:AV):uR (.frz cp gg (.int (am 10)::j9 (16,2,1) c k p .none)) false=some (ku 10 (16,2,1)):=by kernel_rfl
theorem t2(r n cells rest):vT r n cells (lF [.ref 0] ⟨1,[(0,.orc 1021 (ku 10 (16,2,1)++rest))]⟩)=some (.ref (n+2),⟨n+3,(n,.lst [])::(n+1,.lst [])::(n+2,.inst cp gg (.int (am 10)::j9 (16,2,1) (.ref n) (.ref (n+1)) .none .none))::lx r (.orc 1021 rest) cells⟩):=by kernel_rfl
section
open PySem.SeqAt
noncomputable section
noncomputable def zm(as:List aC)(h:bO):dL:=as.filterMap fun a=>(h.get? a).map (a,·)
def nsO(K:dL)(x:Str)(f:Option ah->Bool):Bool:=C7 (nsIn K 3 x) f
def Hy(K:dL)(x:Str)(v:ah):Bool:=nsO K x fun o=>decide (some v=o)
def frB(K:dL)(r:FR):Bool:=fnB K FN r.f r.n r.dfl r.nm r.N r.t&&(keepIn K (.ref r.f)&&bo (motive:=fun _=>Bool) true (fun x=>Hy K x (.ref r.f)) r.x)
def crB(K:dL)(r:CR):Bool:=makesIn K r.c&&(decide (findIn K (.ref r.c) "__init__"=some (some (.ref r.i)))&&(decide (typeIn K (.ref r.i)=some (.type "function"))&&(keepIn K (.ref r.c)&&(Hy K r.x (.ref r.c)&&(cB FN.length).all fun i=>SJ r.c i||IJ K r.c ((As FN i).getD "")))))
noncomputable def mrB(K:dL)(r:MR):Bool:=plainGet K r.c r.x&&(decide (findIn K (.ref r.c) r.x=some (some (.ref r.f)))&&(decide (typeIn K (.ref r.f)=some (.type "function"))&&keepIn K (.ref r.f)))
def grB(K:dL)(r:GR):Bool:=nsO K r.x fun o=>C7 o fun v=>kV K v r.a
def blB(K:dL)(x:Str):Bool:=nsO K x (·.isNone)
def Qq(K:dL)(x:Str):Bool:=nsO K x (·.isSome)
def Zr(K:dL):Bool:=qm.all (frB K)&&(zd.all (crB K)&&(KC.all (mrB K)&&(O7.all (grB K)&&(UM.all (blB K)&&(Qq K "show_expression" &&(Qq K "no_expression" &&(keepIn K (.ref 112)&&Hy K "GrammarFault" (.ref 112))))))))
structure rK(C:PC):Prop where
 ok:Zr C.K=true
 nf:C.nf=FN.length
 fn: ∀i x,As FN i=some x->C.fname i=x
 cls: ∀r∈zd,C.cls r.c=true
 name: ∀l c,C.conc 1021 l c-> ∃vs,c= .inst 1021 [38,4,37,36] vs
 gf: ∀k,5<=k->aF C (k+1) (.ref 112) Wl
 un:np C "USAGE_NAMES" BH
 uw:np C "USAGE_WORDS" t4
 rs:np C "RESERVED" lE
section
variable{C:PC}{k:Nat}
theorem C5{α:Type}{p:α->Bool}{l:List α}(h:l.all p=true){i:Nat}{r:α}(e:l[i]? =some r):p r=true:=bZ.mp h r (bb e)
theorem aaz{l:List Str}: ∀{i:Nat},i<l.length-> ∃x,As l i=some x/\x∈l:=by
 induction l with
 |nil=>exact fun h=>absurd h (iw _)
 |cons a l ih=>
  intro i h
  cases i with
  |zero=>exact⟨a,rfl,bf ..⟩
  |succ i=>exact(ih (ng h)).imp fun x h=>⟨h.1,aQ _ h.2⟩
theorem aiv{l:List Str}: ∀{i:Nat} {x:Str},As l i=some x->i<l.length:=by
 induction l with
 |nil=>exact fun e=>nn e
 |cons a l ih=>
  intro i x e
  cases i with
  |zero=>exact hJ _
  |succ i=>exact Nat.succ_lt_succ (ih e)
theorem aiu{x:Str}{r:Option ah}(e:nsIn C.K 3 x=some r):C.mg x=r:=by
 refine Xq (C.g) fun o es ep h1 h2 h3 h4=> ?_
 have h1:C.pi.get? 3=some o:=h1
 unfold nsIn at e
 split at e
 ·rename_i c d es' n sl ho
  have:=C.inK _ _ ho
  rw[h1]at this;cases this
  cases h2
  rw[<- h4]
  unfold nsFind findBy
  rw[<- Array.find?_toList]
  split at e
  ·rename_i en he;cases e;rw[he];rfl
  ·rename_i he
   rw[he]
   split at e
   ·cases e
   ·cases e;rfl
 ·cases e
theorem X9{x:Str}{f:Option ah->Bool}(h:nsO C.K x f=true){P:Prop}(kk: ∀o,C.mg x=o->f o=true->P):P:=Jj h fun o ho h=>kk o (aiu ho) h
theorem Jh{x:Str}{v:ah}(h:Hy C.K x v=true):C.mg x=some v:=X9 h fun o ho h=>ho.trans (ag h).symm
section
variable(O:rK C)
include O
theorem rK.partE{P:Prop}(kk:qm.all (frB C.K)=true->zd.all (crB C.K)=true->KC.all (mrB C.K)=true->O7.all (grB C.K)=true->UM.all (blB C.K)=true->Qq C.K "show_expression"=true->Qq C.K "no_expression"=true->keepIn C.K (.ref 112)=true->Hy C.K "GrammarFault" (.ref 112)=true->P):P:=
 aE O.ok fun h1 h=>aE h fun h2 h=>aE h fun h3 h=>aE h fun h4 h=>aE h fun h5 h=>aE h fun h6 h=>aE h fun h7 h=>aE h fun h8 h9=>kk h1 h2 h3 h4 h5 h6 h7 h8 h9
theorem rK.fno:Sj C FN:=fun i x e=>⟨by rw[O.nf];exact aiv e,O.fn i x e⟩
theorem rK.gr{i:Nat}{x:Str}{a:AV}(e:O7[i]? =some ⟨x,a⟩):np C x a:=O.partE fun _ _ _ h _ _ _ _ _=>X9 (C5 h e) fun o ho h=>Jj h fun v hv h=>lU (ho.trans hv) fun W hW=>Th hW h
omit O in
theorem acu{x:Str}(h:Qq C.K x=true):np C x .opq:=X9 h fun o ho h=>(fg.mp h).elim fun v hv=>lU (ho.trans hv) fun W hW=>trivial
end
structure Cl(C:PC)(x:Str)(fv:ah):Prop where
 g:np C x (.glob fv)
 k:oX C fv
theorem rK.show(O:rK C):np C "show_expression" .opq:=O.partE fun _ _ _ _ _ h _ _ _=>acu h
theorem rK.noe(O:rK C):np C "no_expression" .opq:=O.partE fun _ _ _ _ _ _ h _ _=>acu h
section
variable(O:rK C)
include O
theorem rK.bl{i:Nat}{x:Str}{v:ah}(e:UM[i]? =some x)(hn:x≠ "__name__")(hv:bootBuiltins x=some v)(hk:oX C v):Cl C x v:=O.partE fun _ _ _ _ h _ _ _ _=>X9 (C5 h e) fun o ho h=>⟨TO (ho.trans (dG.mp h)) hn hv,hk⟩
theorem rK.frE{i:Nat}{r:FR}(e:qm[i]? =some r){P:Prop}(kk:fnB C.K FN r.f r.n r.dfl r.nm r.N r.t=true->keepIn C.K (.ref r.f)=true->(∀x,r.x=some x->C.mg x=some (.ref r.f))->P):P:=O.partE fun h _ _ _ _ _ _ _ _=>aE (C5 h e) fun h1 h=>aE h fun h2 h=>kk h1 h2 fun x hx=>by
 rw[hx]at h
 exact Jh h
theorem rK.cf{i:Nat}{r:FR}(e:qm[i]? =some r){x:Str}(hx:r.x=some x):Cl C x (.ref r.f):=O.frE e fun _ h2 h3=>⟨lU (h3 x hx) fun W _=>rfl,rn h2⟩
theorem rK.cr{i:Nat}{r:CR}(e:zd[i]? =some r):Cl C r.x (.ref r.c)/\ ∀{F:aW},pV C k (.ref r.i) F->aF C (k+1) (.ref r.c) (uy r.c F):=O.partE fun _ h _ _ _ _ _ _ _=>aE (C5 h e) fun h1 h=>aE h fun h2 h=>aE h fun h3 h=>aE h fun h4 h=>aE h fun h5 h6=>
 ⟨⟨lU (Jh h5) fun W _=>rfl,rn h4⟩,fun hF=>aeJ h1 (ag h2) (ag h3) (O.cls _ (bb e)) hF⟩
theorem rK.gfc:Cl C "GrammarFault" (.ref 112):=O.partE fun _ _ _ _ _ _ _ h1 h2=>⟨lU (Jh h2) fun W _=>rfl,rn h1⟩
end
def Ze(C:PC)(l:List (Str×AV)):Prop:= ∀g x a,pX l g=some (x,a)->np C x a
def On(C:PC)(k:Nat)(l:List (Str×aW)):Prop:= ∀f x F,pX l f=some (x,F)-> ∃fv kF,np C x (.glob fv)/\oX C fv/\aF C kF fv F/\kF<=k
def Zh(C:PC)(k:Nat)(l:List (Str×gR)):Prop:= ∀n x D,pX l n=some (x,D)-> ∃kF,d6 C kF x D/\kF<=k
theorem g0:Ze C []:=fun _ _ _ e=>nn e
theorem f0:On C k []:=fun _ _ _ e=>nn e
theorem m0:Zh C k []:=fun _ _ _ e=>nn e
theorem Hz{α:Type}{p:Str×α}{l:List (Str×α)}{i:Nat}{x:Str}{a:α}{Q:Str->α->Prop}(e:pX (p::l) i=some (x,a))(h:Q p.1 p.2)(r: ∀i x a,pX l i=some (x,a)->Q x a):Q x a:=by
 cases i with
 |zero=>exact s2 (P:=Q) (a:=p.1) (b:=p.2) e h
 |succ i=>exact r i x a e
theorem g1{x:Str}{a:AV}{l:List (Str×AV)}(h:np C x a)(r:Ze C l):Ze C ((x,a)::l):=fun _ _ _ e=>Hz (Q:=np C) e h r
theorem f1{x:Str}{F:aW}{fv:ah}{kF:Nat}{l:List (Str×aW)}(c:Cl C x fv)(h:aF C kF fv F)(hk:kF<=k)(r:On C k l):On C k ((x,F)::l):=fun _ _ _ e=>Hz (Q:=fun x F=> ∃fv kF,np C x (.glob fv)/\oX C fv/\aF C kF fv F/\kF<=k) e ⟨fv,kF,c.g,c.k,h,hk⟩ r
theorem m1{x:Str}{D:gR}{kF:Nat}{l:List (Str×gR)}(h:d6 C kF x D)(hk:kF<=k)(r:Zh C k l):Zh C k ((x,D)::l):=fun _ _ _ e=>Hz (Q:=fun x D=> ∃kF,d6 C kF x D/\kF<=k) e ⟨kF,h,hk⟩ r
theorem aof(O:rK C){i:Nat}{r:FR}(e:qm[i]? =some r)(hk:5<=k){G:List (Str×AV)}{Fs:List (Str×aW)}{M:List (Str×gR)}(hN:cG.nms ⟨G,Fs,M⟩=r.N){Q:SM}(q:Q=cg ⟨G,Fs,M⟩ r.t)(hG:Ze C G)(hF:On C k Fs)(hM:Zh C k M):
  pV C (k+1) (.ref r.f) (bn r.n r.dfl Q):=by
 subst q
 exact O.frE e fun h _ _=>adK hk O.fno (Γ:=⟨G,Fs,M⟩) ⟨hG,hF,hM⟩ (hN▸h)
theorem adL(O:rK C){x:Str}(h:FN.all (fun y=>y !=x)=true): ∀i,i<C.nf->C.fname i≠x:=fun i hi=>by
 rw[O.nf]at hi
 refine eX (aaz hi) fun y e m=> ?_
 rw[O.fn i y e]
 exact bne_iff_ne.mp (bZ.mp h y m)
theorem rK.mrE(O:rK C){i:Nat}{r:MR}(e:KC[i]? =some r){P:Prop}(kk:plainGet C.K r.c r.x=true->findIn C.K (.ref r.c) r.x=some (some (.ref r.f))->typeIn C.K (.ref r.f)=some (.type "function")->keepIn C.K (.ref r.f)=true->P):P:=
 O.partE fun _ _ h _ _ _ _ _ _=>aE (C5 h e) fun h1 h=>aE h fun h2 h=>aE h fun h3 h4=>kk h1 (ag h2) (ag h3) h4
theorem rK.mr(O:rK C){i:Nat}{r:MR}(e:KC[i]? =some r){j:Nat}{cr:CR}(ec:zd[j]? =some cr)(hc:cr.c=r.c)(hx:FN.all (fun y=>y !=r.x)=true){F:aW}{G:gR}(hF:aF C k (.ref r.f) F)(hG:d6 C k r.x G):d6 C k r.x (fm r.c F G):=
 O.mrE e fun h1 h2 h3 h4=>aeG (hc▸O.cls _ (bb ec)) (adL O hx) h1 h2 h3 h4 hF hG
theorem rK.mro(O:rK C){i:Nat}{r:MR}(e:KC[i]? =some r)(hc:r.c=1021)(hx: ∀i∈[38,4,37,36],C.fname i≠r.x){F:aW}(hF:aF C k (.ref r.f) F):d6 C k r.x (anq r.c F):=fun W σ h a v F' R hv e'=>O.mrE e fun h1 h2 h3 h4=>by
 rw[hc]at h1 h2 e'
 revert hv
 refine iA e' fun y e'=>F3 e' fun d l hgt e'=>kS e' fun z e'=> ?_
 apply s1 e'
 rw[<- aD z]at hgt
 rintro⟨p,q,rfl⟩
 obtain⟨p',ep,⟨cc,q1,q2⟩,_⟩:=R.cell _ _ hgt
 rw[q]at ep;cases ep
 obtain⟨vs0,rfl⟩:=O.name _ _ q1
 obtain⟨q0,q1,es,n,vs,q2,r',z⟩:=q2
 refine⟨.ref r.f,fun A s pl E Q hs hq=> ?_,rn h4,hF⟩
 subst hs
 refine method_fn R.K (I:=(⟨R.im _ _ q1,rfl,rfl,q2⟩:InstAt s.heap p.1 (instObj 1021 p.2) 1021 (some (dictOf es n)))) (qF h1).1 (qF h1).2 h2 h3 ?_ hq
 show(lookIn r.x (dictOf es n)).map _=_
 rw[lookIn_dict,Tj (fun i hi _=>hx i hi) z];rfl
theorem pJ{kF:Nat}{f:ah}{F F':aW}(hF:aF C kF f F)
  (H: ∀args σ a ai,F' args σ=some (a,ai)-> ∃r kk l,σ.get r=some (.orc kk l)/\((∃c,C.conc kk l c)->(∀b d,σ.get b=some d->b<σ.next)-> ∃bD,(∀c,C.conc kk l c->C.conc kk bD c)/\F args (σ.set r (.orc kk bD))=some (a,ai))):aF C kF f F':=fun A Rm W σ s args vs Re hv tk a ai e=>by
 obtain⟨r,kk,l,hr,h1⟩:=H args σ a ai e
 obtain⟨p,a1,⟨c,q1,q2⟩,_⟩:=Re.cell r _ hr
 refine eX (h1 ⟨c,q1⟩ fun b d hb=>Nat.lt_of_not_le fun q=>(Re.cell b _ hb).elim fun p h=>nn ((Re.fresh b q).symm.trans h.1)) fun bD h1 e1=> ?_
 have hc:d4 C W s.heap p (.orc kk bD):=⟨c,h1 c q1,q2⟩
 exact hF A Rm W _ s args vs (Re.set hr a1 (fun _ _ _ e=>e) hc) hv tk a ai e1
theorem aeL{kF:Nat}{f:ah}{mac:List Nat->List AV}{bx:List Nat->List AV->List Nat}{VB:AV->Prop}(R:qk C mac bx VB){lab:List AV->List AV}(hl: ∀L c,lL mac L c->lL mac (lab L) c)(hF:aF C kF f o5):aF C kF f (mh lab):=pJ hF fun args σ a ai e=>n7 e fun r as L hL e=>Ar e fun e=>
 ⟨r,1021,L,hL,fun _ _=>⟨lab L,fun c hc=>(R.rdr _ _).mpr (hl _ _ ((R.rdr _ _).mp hc)),e⟩⟩
end
end
end
section
open PySem.SeqAt
open Sem (wp)
noncomputable section
noncomputable def ue:List ah:=[.ref 75,.type "Exception",.type "BaseException",.type "object"]
section
variable{M:lb}{prog:fY}{w:dZ}{A:b7}{E:ah->az->Prop}{h:bO}{g:Array yK}{d:Drawn}{t:Nat}{os:oc}
variable{nm q:Str}{N:aC}{bs:List ah}{hdct:Bool}{sn:List Str}{sub:List ah}{ab:Bool}{col:Option Bool}{dd:Option aC}{k0 k1 k2 k3 k5:Option ah}
theorem PL:(oh 112::ue).contains (.type "Exception")=true:=by decide +kernel
theorem RT{rest:List ah}{Q:Unit->az->Prop}(hC:h.get? 112=some (excClassObj nm q 112 N bs ue hdct sn sub ab col dd k0 k1 k2 k3 k5 "Exception.__new__"))(hq:Q () ⟨h,g,d,t,os⟩):wpAny M A (checkBuiltinCall "Exception.__new__" ⟨.ref 112::rest,[]⟩) Q E ⟨h,g,d,t,os⟩:=by
 have F:=gz
 have hcont:=PL
 have hstar:=F.noStar
 simp only[checkBuiltinCall,F.newKind,F.newSplit,F.newRow]
 repeat (first|refine gN hC ?_|(refine kZ hC ?_;rw[hcont])|refine wpAny_staticBase_exc hC ?_|refine GN hC ?_|simp only[bne_self_eq_false,Bool.false_eq_true,if_false]|wp_step)
 exact hq
theorem alV{R:tP->az->Prop}{rest:List ah}(hC:h.get? 112=some (excClassObj nm q 112 N bs ue hdct sn sub ab col dd k0 k1 k2 k3 k5 "Exception.__new__"))
  (hq:R (.ok (.ret (.ref (h.objs.size+1)))) ⟨(h.push {cls:=.type "tuple",data:=.seq rest.toArray}).push {cls:=.ref 112,data:=.fields #[.ref h.objs.size,.none,.none,.none,.bool false,.none]},g,d,t,os⟩)(hrest:rest.length<=sizeLine):
  codeAny (model prog w) A (.builtin "Exception.__new__" ⟨.ref 112::rest,[]⟩) R ⟨h,g,d,t,os⟩:=by
 have F:=gz
 have hends:=F.ends
 have hcB:=PL
 have hcA:(oh 112::ue).contains (.type "AttributeError")=false:=by decide +kernel
 have hcN:(oh 112::ue).contains (.type "NameError")=false:=by decide +kernel
 refine codeAny_builtinAt F.entry ?_
 unfold Builtin.«BaseException.__new__»
 refine H9 ?_
 show PySem.wpAt _ _ _ (stack>>=_) _ _ _
 refine H9 (PySem.wpAt_stack fun p below=>Bi ?_)
 wp_walk
 refine Bi ?_
 rw[F.owner]
 repeat (first|with_reducible refine wpAny_madeHere_exc F.canon hC ?_|with_reducible refine gN hC ?_|(with_reducible refine kZ hC ?_;first|rw[hcB]|rw[hcA]|rw[hcN])|wp_step)
 show R _ _
 rw[p8]
 exact hq
theorem RU{K:dL}(X:K.In h)(hi:findIn K (.ref 112) "__init__"=some (some (.ref 65)))(hf:typeIn K (.ref 65)=some (.type "function")){rest:List ah}{Q:Fin->az->Prop}
  (hC:h.get? 112=some (excClassObj nm q 112 N bs ue hdct sn sub ab col dd k0 k1 k2 k3 k5 "Exception.__new__"))
  (hq: ∀h' e,J9 h h' e (.ref 112) rest->wpAny (model prog w) A (call (.ref 65) (.ref e::rest)) (fun r s'=>r= .none/\Q (.done (.ret (.ref e))) s') E ⟨h',g,d,t,os⟩)(hrest:rest.length<=sizeLine):
  wpAny (model prog w) A (Builtin.«type.__call__» ⟨.ref 112::rest,[]⟩) Q E ⟨h,g,d,t,os⟩:=by
 have F:=gz
 repeat (first|with_reducible refine gN hC ?_|with_reducible refine GN hC ?_|wp_step)
 refine codeAny_call_builtin_code (Bm _ F.quiet) (RT hC ?_)
 refine alV hC ?_ hrest
 show wpAny _ _ _ _ _ _
 have kk: ∀b o,h.get? b=some o->((h.push {cls:=.type "tuple",data:=.seq rest.toArray}).push {cls:=.ref 112,data:=.fields #[.ref h.objs.size,.none,.none,.none,.bool false,.none]}).get? b=some o:=fun b o e=>bH _ (bH _ e)
 have PN:=kk _ _ hC
 have am6:K.In ((h.push {cls:=.type "tuple",data:=.seq rest.toArray}).push {cls:=.ref 112,data:=.fields #[.ref h.objs.size,.none,.none,.none,.bool false,.none]}):=fun a o e=>kk _ _ (X a o e)
 have hget:((h.push {cls:=.type "tuple",data:=.seq rest.toArray}).push {cls:=.ref 112,data:=.fields #[.ref h.objs.size,.none,.none,.none,.bool false,.none]}).get? (h.objs.size+1)=some {cls:=.ref 112,data:=.fields #[.ref h.objs.size,.none,.none,.none,.bool false,.none]}:=by heap_get
 have hcC:(oh 112::ue).contains (.ref 112)=true:=by decide +kernel
 unfold isInstance
 repeat (first|with_reducible refine gN hget ?_|(with_reducible refine kZ PN ?_;rw[hcC])|wp_step)
 show wpAny _ _ (typeLookup (.ref 112) _) _ _ _
 refine(tT am6 hi).here ?_
 refine dJ (aq ?_)
 refine(bind_fn am6 _ hf).here ?_
 refine(aq (jw (hq _ (h.objs.size+1) ⟨fun b o hb=>kk b o hb,yL (cR _),h.objs.size,hget,yL (ax _),?_⟩) (fun r s' hr=> ?_) fun _ _ x=>x))
 ·exact bH _ (EV rfl rfl)
 ·obtain⟨rfl,hQ⟩:=hr
  wp_walk
  exact hQ
theorem ahz{K:dL}(X:K.In h)(hi:findIn K (.ref 112) "__init__"=some (some (.ref 65)))(hf:typeIn K (.ref 65)=some (.type "function")){rest:List ah}{Q:ah->az->Prop}
  (hC:h.get? 112=some (excClassObj nm q 112 N bs ue hdct sn sub ab col dd k0 k1 k2 k3 k5 "Exception.__new__"))
  (hq: ∀h' e,J9 h h' e (.ref 112) rest->wpAny (model prog w) (A.under (.builtin "type.__call__" ⟨.ref 112::rest,[]⟩)) (call (.ref 65) (.ref e::rest)) (fun r s'=>r= .none/\Q (.ref e) s') E ⟨h',g,d,t,os⟩)(hrest:rest.length<=sizeLine):
  wpAny (model prog w) A (call (.ref 112) rest) Q E ⟨h,g,d,t,os⟩:=by
 have f1:=tc_lookup
 have f2:=tc_bind (.ref 112)
 have hT:(⟨h,g,d,t,os⟩:az).TypeIs (.ref 112) "type":=⟨_,hC,rfl⟩
 refine oU (Ib ?_)
 show wpAny _ _ (callAny (.ref 112) _) _ _ _
 repeat (any_goals (first|assumption|with_reducible refine gN hC ?_|wp_step))
 refine⟨rfl,?_⟩
 refine codeAny_call_builtin_at (Bm _ (by decide +kernel)) entry_typeCall (wpAny_check_type_call_sub hC (RU X hi hf hC (fun h' e hm=> ?_) hrest))
 exact hq h' e hm
end
end
end
section
open PySem.SeqAt
open Sem (wp)
noncomputable section
section
variable{M:lb}{prog:fY}{w:dZ}{A:b7}{E:ah->az->Prop}{h:bO}{g:Array yK}{d:Drawn}{t:Nat}{os:oc}
variable{nm q:Str}{N:aC}{bs:List ah}{hdct:Bool}{sn:List Str}{sub:List ah}{ab:Bool}{col:Option Bool}{dd:Option aC}{k0 k1 k2 k3 k5:Option ah}
abbrev Va(t0:aC)(dx:Option aC):Obj:={cls:=.ref 112,dict:=dx,data:=.fields #[.ref t0,.none,.none,.none,.bool false,.none]}
theorem PK{e:aC}{oe:Obj}{rest:List ah}{Q:Unit->az->Prop}(hC:h.get? 112=some (excClassObj nm q 112 N bs ue hdct sn sub ab col dd k0 k1 k2 k3 k5 "Exception.__new__"))(he:h.get? e=some oe)(hcls:oe.cls= .ref 112)(hq:Q () ⟨h,g,d,t,os⟩):
  wpAny M A (checkBuiltinCall "Exception.__init__" ⟨.ref e::rest,[]⟩) Q E ⟨h,g,d,t,os⟩:=by
 have F:=gz
 have hcB:=PL
 have hshort:=F.noStar
 simp only[checkBuiltinCall,F.initKind,F.initSplit,F.initRow]
 repeat (first|(with_reducible refine gN he ?_;rw[hcls])|with_reducible refine gN hC ?_|(with_reducible refine kZ hC ?_;rw[hcB])|wp_step)
 refine wpAny_onRaise ?_
 rw[show ∀(a b:String) (n:Nat),Bind.check ⟨.positional,"*","Exception",.self,[⟨"args",.varPos,false⟩]⟩ a b n (N5 (fun x=>x.fst) ({pos:=oh e::rest}:Args).kw)=pure () from
  fun a b n=>check_star_args _ _ _ _ _ _]
 exact aL hq
theorem ahB{e t0:aC}{v:ah}{Q:ah->az->Prop}(hC:h.get? 112=some (excClassObj nm q 112 N bs ue hdct sn sub ab col dd k0 k1 k2 k3 k5 "Exception.__new__"))(he:h.get? e=some (Va t0 none))
  (hq: ∀h',h'.get? e=some (Va h.objs.size none)->(∀b o,b≠e->h.get? b=some o->h'.get? b=some o)->Q .none ⟨h',g,d,t,os⟩):
  wpAny (model prog w) A (call (.builtin "Exception.__init__") [.ref e,v]) Q E ⟨h,g,d,t,os⟩:=by
 have F:=gz
 refine oU (oT F.init.plain F.initEntry (PK hC he rfl ?_))
 unfold Builtin.«BaseException.__init__»
 dsimp only
 rw[if_neg (by simp)]
 unfold newTuple J8
 have Z7:=bH (h:=h) {cls:=.type "tuple",data:=.seq #[v]} he
 refine aq (gO (aq (aq (wpAny_field Z7 rfl rfl (aq (wpAny_setField Z7 rfl (by show 0<6;decide) ?_))))) (by size_fits))
 refine wpAny_letGo (aL ?_)
 refine hq _ ?_ fun b o hb hbo=> ?_
 ·rw[jS _ Z7 rfl];rfl
 ·rw[Heap.get?_update_other _ _ (tx hb)];exact bH _ hbo
end
end
end
section
open PySem.SeqAt
open Sem (wp)
open PySem.Builtin PySem.Builtin.ObjectAttr
noncomputable section
section
variable{M:lb}{prog:fY}{w:dZ}{A:b7}{E:ah->az->Prop}{s:az}{K:dL}{x:aC}{ox:Obj}{od:Option Obj}{cd:LA}{name:Str}{tk:Tok}{v:ah}
theorem alU(hc:clsIn K 112=some cd)(hm:cd.mro= .ref 112::ue):mroIn K 112 (.type "object")=some true:=by
 unfold mroIn
 rw[hc,nQ,hm]
 decide +kernel
theorem ab5{R:tP->az->Prop}(X:K.In s.heap)(I:InstAt s.heap x ox 112 od)(hc:clsIn K 112=some cd)(hm:cd.mro= .ref 112::ue)(ht:takerIn K 112 name=some none)
  (h: ∀b,wpAny (model prog w) A.in1 (storeInOwnDict (.ref x) (.ref 112) (.str name tk) name v b) (fun fin s'=>match fin with| .done f=>R (.ok f) s'| .again c'=>c'.quiet=true/\codeAny (model prog w) A c' R s') (fun e s'=>R (.error e) s') s):
  codeAny (model prog w) A (.call (.builtin "object.__setattr__") ⟨[.ref x,.str name tk,v],[]⟩) R s:=by
 have SF:=PySem.F.store_object
 have sub:H6 (model prog w) s.heap (isInstance (.ref x) (.type "object")) true:=I.type.andThen (looks_mroIn X (alU hc hm))
 refine oT SF.slot.plain SF.entry (@check_slot (model prog w) _ _ s "object.__setattr__" "object" "__setattr__" (.ref x) [.str name tk,v] [] _ SF.kind SF.split sub (SF.args (.ref x) (.str name tk) v) ?_)
 obtain⟨attr,ha,hr⟩:=Option.bind_eq_some_iff.mp ht
 have hmr:H6 (model prog w) s.heap (mroOf (.ref 112)) cd.mro:=(wy X hc).andThen .now
 have L3:H6 (model prog w) s.heap (storeTaker? attr) none:=by
  cases attr with
  |none=>exact .now
  |some a=>
   obtain⟨b,hb,e⟩:=hY.mp hr
   refine(looks_takesIn X hb).andThen ?_
   cases b with
   |true=>exact nn e.symm
   |false=>exact .now
 rw[osa_eq,refuse_eq]
 refine aq (aq (I.type.here (aq (hmr.here ?_))))
 rw[hm,ue,Kg,Kg,PySem.F.store_Exception.passes]
 refine aL (aq (I.type.here (aq ((tT X ha).here (aq (L3.here ?_))))))
 exact h _
theorem ab6{d:aC}{m:Str->Option ah}{ns:List Str}{Q:PySem.Fin->az->Prop}(hns:s.heap.Ns1 d m)(hw:Within m ns)(hz:ns.length<=100)
  (h: ∀h',h'.Ns1 d (fun y=>if y=name then some v else m y)->i7 d s.heap h'->Q (.done (.ret .none)) {s with heap:=h',toks:=s.toks+1}):wpAny M A (storeInDict d (.str name tk) name v) Q E s:=by
 unfold storeInDict newKeyGuard
 refine aq (aL (aq (wpAny_nsSet1 hns fun h' hn' hs=> ?_)))
 obtain⟨oD,esD,epD,hoD,hdD,hcD⟩:=hn'.count (Rn name v hw)
 refine aq (GG hoD (by rw[hdD];exact Gz (au hcD (by rw[bT,jE];omega))) ?_)
 exact aL (h h' hn' hs)
theorem ahC{t0:aC}{Q:Unit->az->Prop}(X:K.In s.heap)(he:s.heap.get? x=some (Va t0 none))(hs:findIn K (.ref 112) "__setattr__"=some (some (.builtin "object.__setattr__")))(hc:clsIn K 112=some cd)(hm:cd.mro= .ref 112::ue)(hh:cd.hasDict=true)(ht:takerIn K 112 name=some none)
  (h: ∀h' d,d≠x->s.heap.get? d=none->h'.get? x=some (Va t0 (some d))->h'.Ns1 d (fun y=>if y=name then some v else none)->(∀b o,b≠x->s.heap.get? b=some o->h'.get? b=some o)->Q () {s with heap:=h',toks:=s.toks+2}):wpAny (model prog w) A (setAttr (.ref x) name v) Q E s:=by
 have I:InstAt s.heap x (Va t0 none) 112 none:=⟨he,rfl,rfl,trivial⟩
 refine LF X I hs (ab5 (s:={s with toks:=s.toks+1}) X I hc hm ht fun b=> ?_)
 refine aq (aL (aq (aq (qe he (aq (wy X hc _ _ _ _ (fun _ _ e=>e) ?_))))))
 rw[hh]
 have hxs:x≠s.heap.objs.size:=ct (cv he)
 have ahP:(s.heap.push {cls:=.type "dict",data:=.dict #[]}).get? x=some (Va t0 none):=bH _ he
 show wpAny _ _ (do
  let d <- alloc {cls:=.type "dict",data:=.dict #[]}
  update x fun o=>{o with dict:=some d}
  dictMade (.ref 112) x d) _ _ _
 refine aq (wpAny_alloc' ?_)
 refine aq (wpAny_update' ahP ?_)
 refine aL ?_
 have hgd:((s.heap.push {cls:=.type "dict",data:=.dict #[]}).update x fun o=>{o with dict:=some s.heap.objs.size}).get? s.heap.objs.size=some {cls:=.type "dict",data:=.dict #[]}:=
  (Bc _ _ _ _ hxs.symm).trans (EV rfl rfl)
 have hnd:((s.heap.push {cls:=.type "dict",data:=.dict #[]}).update x fun o=>{o with dict:=some s.heap.objs.size}).Ns s.heap.objs.size (fun _=>none):=
  ⟨_,#[],_,hgd,rfl,fun e he=>absurd he (by simp),fun _=>rfl⟩
 refine aq (aL ?_)
 show wpAny _ _ (storeInDict s.heap.objs.size (.str name s.toks) name v) _ _ _
 refine ab6 (s:={s with heap:=(s.heap.push {cls:=.type "dict",data:=.dict #[]}).update x fun o=>{o with dict:=some s.heap.objs.size},toks:=s.toks+1}) (Heap.Ns1.of_empty hnd) Un (aU _) fun h' hn' hs'=> ?_
 refine h h' s.heap.objs.size hxs.symm (tB _) ?_ hn' fun b o hb ho=> ?_
 ·exact(hs'.2 x hxs).trans (jS _ ahP rfl)
 ·exact(hs'.2 b (ct (cv ho))).trans ((Bc _ _ _ _ hb).trans (bH _ ho))
theorem ahD{t0 d:aC}{m:Str->Option ah}{ns:List Str}{Q:Unit->az->Prop}(X:K.In s.heap)(he:s.heap.get? x=some (Va t0 (some d)))(hns:s.heap.Ns1 d m)(hw:Within m ns)(hz:ns.length<=100)(hs:findIn K (.ref 112) "__setattr__"=some (some (.builtin "object.__setattr__")))(hc:clsIn K 112=some cd)(hm:cd.mro= .ref 112::ue)(hh:cd.hasDict=true)(ht:takerIn K 112 name=some none)
  (h: ∀h',i7 d s.heap h'->Q () {s with heap:=h',toks:=s.toks+2}):wpAny (model prog w) A (setAttr (.ref x) name v) Q E s:=by
 obtain⟨o,es,ep,ho,r⟩:=id hns
 have I:InstAt s.heap x (Va t0 (some d)) 112 (some o):=⟨he,rfl,rfl,ho⟩
 refine LF X I hs (ab5 (s:={s with toks:=s.toks+1}) X I hc hm ht fun b=> ?_)
 refine aq (aL (aq (aq (qe he (aq (wy X hc _ _ _ _ (fun _ _ e=>e) ?_))))))
 rw[hh]
 refine aL (a:=some d) (aq (aL ?_))
 show wpAny _ _ (storeInDict d (.str name s.toks) name v) _ _ _
 exact ab6 (s:={s with toks:=s.toks+1}) hns hw hz fun h' _ hs'=>h h' hs'
end
end
end
section
open PySem.SeqAt
open Sem (wp)
noncomputable section
section
variable{C:PC}{X:FX}{k:Nat}{W W':Wd}{fr:Fm}{σ:AS}{s:az}{A:b7}{E:ah->az->Prop}{K:dL}
theorem ahA{prog:fY}{w:dZ}{pl:Sem Bool}{Q:ah×List ah->az->Prop}(X:K.In s.heap)(h:Q (.builtin "Exception.__init__",[]) {s with toks:=s.toks+1}):wpAny (model prog w) A (getMethod (.type "Exception") "__init__" pl) Q E s:=by
 have ht:typeOf (.type "Exception")=pure (.type "type"):=by kernel_rfl
 have hs:Manifest.isStub "Exception"=false:=by decide +kernel
 have e:findCls K (.type "Exception") (.type "type") "__init__"=some (.val (.builtin "Exception.__init__")):=by kernel_rfl
 have hh:handedIn (.builtin "Exception.__init__")=true:=by decide +kernel
 have hstub:opaqueClassAbove (.type "Exception")=pure none:=by unfold opaqueClassAbove;dsimp only;rw[hs];rfl
 have L0:H6 (model prog w) s.heap (typeOf (.type "Exception")) (.type "type"):=rH ht
 have hg:findIn K (.type "type") "__getattribute__"=some (some (.builtin "type.__getattribute__")):=type_tga
 unfold getMethod specialOf
 refine aq (aq (L0.here ((tT X hg).here ?_)))
 dsimp only
 rw[if_pos canon_tga]
 refine aq (jw (Q:=fun v=>Q (v,[])) (E:=E) ?_ (fun _ _ z=>aL z) fun _ _ z=>z)
 have LO:H6 (model prog w) s.heap (opaqueClassAbove (.type "Exception")) none:=rH hstub
 exact cls_open X LO L0 hg (looks_hook X (r:=none) (by rfl)) (by show subIn K _ _=_;rfl) e
  (aL (by show wpAny _ _ (handedOut (.builtin "Exception.__init__")) _ _ _;rw[handedOut_of hh];exact aL h))
theorem adO{n:LM}{es:List an}{ap p p0:Pos}(O:vi X)(hx:X.env.kindOf "Exception"=some .globalImplicit)(hg:np X.C "Exception" (.glob (.type "Exception")))(hl:(ap.endLine==p.line)=true)(hfew:es.length<30)
  (hs:es.all (fun e=> !jf e)=true)(hn:Ag X k n es)(R:eN A k)(T:St X W fr σ s){l:List AV}(e:n fr σ=some (l,σ)){Q:ah->az->Prop}
  (h: ∀vs bt bm,W.le bm->St X bm fr σ bt->VL X.C bm l vs->wpAny (dI X.C) A (call (.builtin "Exception.__init__") vs) Q dw bt):wpAny (dI X.C) A (eval (.Call (.Attribute (.Name "Exception" p0) "__init__" ap) es [] p) X.env) Q dw s:=by
 show wpAny _ _ (do
  let ov <- attributeBase (.Name "Exception" p0) "__init__" X.env (eval (.Name "Exception" p0) X.env)
  standAt ap.atName
  methodCall (.Name "Exception" p0) "__init__" ap p X.env ov (es.length+([]:List tw).length) (backTo p (starEach es X.env)) (backToKw p (keywordEach [] X.env))) _ _ _
 have hm:b8 X k (ba (.glob (.type "Exception"))) (.Name "Exception" p0):=YJ O hx (by decide) hg
 refine aq (lZ rfl (hm.go R T rfl fun v bt bm bD bz eg=>aq (dA ?_)))
 obtain rfl:v= .type "Exception":=eg
 have hform:methodCallForm (es.length+([]:List tw).length) (backTo p (starEach es X.env)) (backToKw p (keywordEach [] X.env))=true:=by
  unfold methodCallForm
  have h1:(backTo p (starEach es X.env)).all (!·.1)=true:=by
   have:=qM (env:=X.env) (pos:=p) hs
   rw[bZ];rw[EW]at this
   intro y hy;simpa using this y hy
  rw[h1]
  have h2:(backToKw p (keywordEach [] X.env)).all (·.1.isSome)=true:=rfl
  rw[h2]
  simp;exact hfew
 unfold methodCall
 rw[hform]
 have hpos:methodCallPos true (.Name "Exception" p0) X.env ap p=pure p:=by unfold methodCallPos;simp[hl]
 refine aq (dJ ?_)
 show wpAny _ _ (getMethod (.type "Exception") "__init__" _) _ _ _
 refine ahA bz.rel.K ?_
 show wpAny _ _ (do let callPos <- methodCallPos true (.Name "Exception" p0) X.env ap p;callWith callPos (.builtin "Exception.__init__") [] (backTo p (starEach es X.env)) (backToKw p (keywordEach [] X.env))) _ _ _
 rw[hpos]
 refine aq (aL ?_)
 refine Fx (P:=X.C.K.In) (by rw[qM hs];rfl) fu ?_
 exact wI hs (hn.go R (bz.toks (bt.toks+1) (cR _)) e p fun vs dU cA dP cP j0=>⟨cP.rel.K,h vs dU cA (bD.trans dP) cP j0⟩)
end
end
end
section
open PySem.SeqAt
noncomputable section
noncomputable def leB:List bW:=[
 .Expr (.Call (.Attribute (.Name "Exception" ⟨20,8,20,17⟩) "__init__" ⟨20,8,20,26⟩) [.Name "self" ⟨20,27,20,31⟩,.Name "what" ⟨20,33,20,37⟩] [] ⟨20,8,20,38⟩) ⟨20,8,20,38⟩,
 .Assign [.Attribute (.Name "self" ⟨21,8,21,12⟩) "what" ⟨21,8,21,17⟩] (.Name "what" ⟨21,20,21,24⟩) ⟨21,8,21,24⟩,
 .Assign [.Attribute (.Name "self" ⟨22,8,22,12⟩) "at" ⟨22,8,22,15⟩] (.Name "at" ⟨22,18,22,20⟩) ⟨22,8,22,20⟩]
noncomputable def nmG:List (Nat×Str):=[(0,"self"),(1,"what"),(2,"at")]
noncomputable def anb(d:Bn)(f:LA->Bool):Bool:=match d with
 | .cls cd=>f cd
 |_=>false
@[elab_as_elim] theorem anV {Q:Bn->Prop} {d:Bn} {f:LA->Bool} (h:anb d f=true) (k: ∀cd,f cd=true->Q (.cls cd)):Q d:=by
 cases d<;>first|exact ff h|exact k _ h
noncomputable def gfC(o:Obj):Bool:=o.cls== .type "type" &&(anb o.data (fun cd=>decide (cd.mro= .ref 112::ue)&&(!cd.hasDel&&cd.hasDict))&&(o.slots.toList[4]? ==some (some (.builtin "Exception.__new__"))&&o.slots.toList.length==6))
def gfF(K:dL)(fd:gJ):Bool:=RS K 3 [.tup [.int 0,.int 0]] nmG fd (fd.params.args.map (·.arg))&&fd.scope.names.lookup ("Exception":Str)==some .globalImplicit
def gfB(K:dL):Bool:=C7 (K.lookup 112) gfC&&(C7 (K.lookup 65) (fun o=>SP o.data (gfF K))&&(decide (findIn K (.ref 112) "__init__"=some (some (.ref 65)))&&(decide (typeIn K (.ref 65)=some (.type "function"))&&
 (decide (findIn K (.ref 112) "__setattr__"=some (some (.builtin "object.__setattr__")))&&(decide (takerIn K 112 "what"=some none)&&(decide (takerIn K 112 "at"=some none)&&blB K "Exception"))))))
structure GfB(K:dL):Prop where
 c1:C7 (K.lookup 112) gfC=true
 c2:C7 (K.lookup 65) (fun o=>SP o.data (gfF K))=true
 c3:decide (findIn K (.ref 112) "__init__"=some (some (.ref 65)))=true
 c4:decide (typeIn K (.ref 65)=some (.type "function"))=true
 c5:decide (findIn K (.ref 112) "__setattr__"=some (some (.builtin "object.__setattr__")))=true
 c6:decide (takerIn K 112 "what"=some none)=true
 c7:decide (takerIn K 112 "at"=some none)=true
 c8:blB K "Exception"=true
theorem GfB.of{K:dL}(h:gfB K=true):GfB K:=aE h fun c1 h=>aE h fun c2 h=>aE h fun c3 h=>aE h fun c4 h=>aE h fun c5 h=>aE h fun c6 h=>aE h fun c7 c8=>⟨c1,c2,c3,c4,c5,c6,c7,c8⟩
@[elab_as_elim] theorem Tl {α:Type} {P:List α->Prop} {l:List α} {n:Nat} (h:l.length=n+1) (k: ∀a t,t.length=n->P (a::t)):P l:=by
 cases l with
 |nil=>cases h
 |cons a t=>exact k a t (jV h)
theorem six{α:Type}{l:List α}{a:α}(h:l[4]? =some a)(hl:l.length=6): ∃b c d e f,l=[b,c,d,e,a,f]:=by
 revert h
 refine Tl hl fun b l h=>Tl h fun c l h=>Tl h fun d l h=>Tl h fun e l h=>Tl h fun x l h=>Tl h fun f l h h'=> ?_
 rw[mJ.mp h]
 exact⟨b,c,d,e,f,by rw[aH (show some x=some a from h')]⟩
theorem ahx{o:Obj}(h:gfC o=true): ∃nm q N bs hdct sn sub ab col dd k0 k1 k2 k3 k5 cd,o=excClassObj nm q 112 N bs ue hdct sn sub ab col dd k0 k1 k2 k3 k5 "Exception.__new__" /\o.data= .cls cd/\cd.mro= .ref 112::ue/\cd.hasDict=true:=by
 obtain⟨c,dd,dt,sl⟩:=o
 refine aE h fun h1 h=>aE h fun h2 h=>aE h fun h3 h4=> ?_
 have h1:c= .type "type":=beq_iff_eq.mp h1
 obtain⟨k0,k1,k2,k3,k5,hs⟩:=six (beq_iff_eq.mp h3) (beq_iff_eq.mp h4)
 have hsl:sl= #[k0,k1,k2,k3,some (.builtin "Exception.__new__"),k5]:=by
  obtain⟨l⟩:=sl
  exact congrArg p7 hs
 clear h h3 h4 hs
 refine anV (d:=dt) (Q:=fun dt=> ∃nm q N bs hdct sn sub ab col dd' k0 k1 k2 k3 k5 cd,(⟨c,dd,dt,sl⟩:Obj)=excClassObj nm q 112 N bs ue hdct sn sub ab col dd' k0 k1 k2 k3 k5 "Exception.__new__" /\dt= .cls cd/\cd.mro= .ref 112::ue/\cd.hasDict=true) h2 fun cd h2=>aE h2 fun m1 m=>aE m fun m2 m3=> ?_
 obtain⟨nm,bs,mro,ns,qn,hd,sn,sub,ab,col,del⟩:=cd
 have m1:mro= .ref 112::ue:=ag m1
 have m2:del=false:=pu m2
 refine⟨nm,qn,ns,bs,hd,sn,sub,ab,col,dd,k0,k1,k2,k3,k5,_,?_,rfl,m1,m3⟩
 rw[h1,hsl,m1,m2]
theorem S3{o:Obj}{P:Prop}(h:gfC o=true)(k: ∀nm q N bs hdct sn sub ab col dd k0 k1 k2 k3 k5 cd,o=excClassObj nm q 112 N bs ue hdct sn sub ab col dd k0 k1 k2 k3 k5 "Exception.__new__" ->o.data= .cls cd->cd.mro= .ref 112::ue->cd.hasDict=true->P):P:=by
 obtain⟨nm,q,N,bs,hdct,sn,sub,ab,col,dd,k0,k1,k2,k3,k5,cd,a,b,c,d⟩:=ahx h
 exact k nm q N bs hdct sn sub ab col dd k0 k1 k2 k3 k5 cd a b c d
section
variable{C:PC}{X:FX}{k:Nat}{W W':Wd}{fr:Fm}{σ:AS}{s:az}{A:b7}
theorem ig.pin{I J:aC}{o:Obj}(L:ig X W σ J)(h:J≠I):ig X (W.pin I o) σ J:=⟨L.im,by rw[jB h];exact L.pr,L.cell,L.out⟩
theorem ahy{fd:gJ}(hB:gfB X.C.K=true)(H:gX X ⟨fd.scope.names,nmG,true⟩)(hx:fd.scope.names.lookup ("Exception":Str)=some .globalImplicit)(R:eN A k){e t0:aC}{a b:AV}(T:St X W [.glob (.ref e),a,b] σ s)(L:ig X W σ e)(he:s.heap.get? e=some (Va t0 none))(ha:bX a=false)(hb:bX b=false):
  wpAny (dI X.C) A (execs leB X.env) (fun fl s'=>fl= .next/\Sn X.nw s'/\ ∃W',W.le W'/\cC X.C W' σ s'.heap) dw s:=by
 have G:=GfB.of hB
 have O:=H.ok
 have at0:X.names 0=some "self":=by rw[H.nm];rfl
 have at1:X.names 1=some "what":=by rw[H.nm];rfl
 have at2:X.names 2=some "at":=by rw[H.nm];rfl
 have hxE:X.env.kindOf "Exception"=some .globalImplicit:=(H.kind _).trans hx
 have hg:np X.C "Exception" (.glob (.type "Exception")):=X9 G.c8 fun o ho h=>TO (ho.trans (dG.mp h)) (by decide) (by boot_by_name)
 refine Jj G.c1 fun o112 ho hc=> ?_
 refine S3 hc fun nm q N bs hdct sn sub ab col dd k0 k1 k2 k3 k5 cd hobj hdat hmro hdic=> ?_
 have hcls:clsIn X.C.K 112=some cd:=by
  unfold clsIn
  rw[ho]
  obtain⟨c,d,dt,sl⟩:=o112
  obtain rfl:dt= .cls cd:=hdat
  rfl
 have sa:=ag G.c5
 have u0:bX (.glob (.ref e))=false:=rfl
 have e0: ∀σ,al 0 [.glob (.ref e),a,b] σ=some (.glob (.ref e),σ):=fun _=>rfl
 have e1: ∀σ,al 1 [.glob (.ref e),a,b] σ=some (a,σ):=fun σ=>by
  show(bif bX a then none else some (a,σ))=_
  rw[ha];rfl
 have e2: ∀σ,al 2 [.glob (.ref e),a,b] σ=some (b,σ):=fun σ=>by
  show(bif bX b then none else some (b,σ))=_
  rw[hb];rfl
 unfold leB
 refine nS (Kh ?_ H.sto.inter (tC rfl))
 refine adO O hxE hg rfl (by decide) rfl (Li rfl (uT O at0) (Li rfl (uT O at1) YK)) R (T.pin L he) (l:=[.glob (.ref e),a]) (by simp only[cz,cq,e0,e1,aX]) fun vs bt bm bD bz eg=> ?_
 refine Xm (St.unpin bD L bz) fun bD afu ani Su=> ?_
 have PN:=(bz.rel.K _ _ ho)
 clear bz
 rw[hobj]at PN
 obtain⟨w2,rfl⟩: ∃w2,vs=[.ref e,w2]:=by
  obtain⟨v,r,e1,e2,w,r',f1,f2,f3⟩:=eg
  exact⟨w,by rw[e1,f1,show v= .ref e from e2,show r'=[] from f3]⟩
 obtain⟨hp,g,d,tk,os⟩:=bt
 refine ahB PN ani fun h' g2 k2=> ?_
 have T2:=St.but (s:=⟨hp,g,d,tk,os⟩) (h':=h') afu Su k2 tk (ax _)
 clear afu ani PN k2 eg
 refine nS (jj ?_ Dw)
 refine(uT O at1:b8 X k (al 1) (.Name "what" ⟨21,20,21,24⟩)).go R (T2.pin Su g2) (e1 σ) fun v dU cA dP cP MC=> ?_
 refine(uT O at0:b8 X k (al 0) (.Name "self" ⟨21,8,21,12⟩)).go R cP (e0 σ) fun ov jK xI gY jb Y1=> ?_
 obtain rfl:ov= .ref e:=Y1
 have u3:=St.unpin (dP.trans gY) Su jb
 refine ahC jb.rel.K u3.2.2.1 sa hcls hmro hdic (ag G.c6) fun h' dx hd1 hd2 g4 n4 k4=> ?_
 refine ug (u3.2.1.rel.free hd2) fun f1 f2 f3=> ?_
 have L4:ig X _ σ dx:=⟨f1,f2,f3,fun hc=>by
  obtain⟨o,z⟩:=u3.2.1.fr.live _ hc
  rw[hd2]at z;exact nn z⟩
 have T4:=u3.2.1.but u3.2.2.2 k4 (jK.toks+2) (cY _ _)
 clear T2 cP jb dP gY f1 f2 f3
 refine Xo (id n4) fun oD esD epD gD rD=> ?_
 refine nS (jj ?_ Dw)
 refine(uT O at2:b8 X k (al 2) (.Name "at" ⟨22,18,22,20⟩)).go R ((T4.pin u3.2.2.2 g4).pin (L4.pin hd1) gD) (e2 σ) fun v sI WS XV xH anI=> ?_
 refine(uT O at0:b8 X k (al 0) (.Name "self" ⟨22,8,22,12⟩)).go R xH (e0 σ) fun ov aqL IH Qf LX ale=> ?_
 obtain rfl:ov= .ref e:=ale
 have u7:=St.unpin (XV.trans Qf) (L4.pin hd1) LX
 have u8:=St.unpin u7.1 u3.2.2.2 u7.2.1
 refine ahD (d:=dx) LX.rel.K u8.2.2.1 ⟨oD,esD,epD,u7.2.2.1,rD⟩ (Rn _ _ Un) (by decide) sa hcls hmro hdic (ag G.c7) fun h' hsb=> ?_
 have T9:=u8.2.1.but (I:=dx) (h':=h') ⟨u7.2.2.2.im,L4.pr,u7.2.2.2.cell,u7.2.2.2.out⟩ (fun b o hb ho=>(hsb.2 b hb).trans ho) (aqL.toks+2) (cY _ _)
 exact oV ⟨rfl,T9.sm,_,(bD.trans u3.1).trans u8.1,T9.rel⟩
end
end
end
section
open PySem.SeqAt
noncomputable section
section
variable{C:PC}
theorem akS{W:Wd}{a:AV}{v:ah}(h:V C W a v):bX a=false:=by
 cases a<;>first|rfl|exact h.elim
theorem adP(hB:gfB C.K=true)(hbody: ∀o fd,C.K.lookup 65=some o->o.data= .func fd->fd.body= .stmts leB): ∀k,5<=k->aF C (k+1) (.ref 112) Wl:=fun k hk A Rm W σ s args vs R hv tk a ai e=>by
 obtain⟨k,rfl⟩: ∃j,k=j+1:=⟨k-1,by omega⟩
 revert hv
 refine KD (l:=args) (Q:=fun args=>VL C W args vs->_) e fun a1 a2 e hv=> ?_
 apply s2 e
 obtain⟨v1,r,rfl,q1,v2,r',rfl,q2,f3⟩:=hv
 obtain rfl:r'=[]:=f3
 have G:=GfB.of hB
 refine Jj G.c1 fun o112 ho hc=> ?_
 refine S3 hc fun nm q N bs hdct sn sub ab col dd k0 k1 k2 k3 k5 cd hobj _ _ _=> ?_
 have hC:=R.K _ _ ho
 rw[hobj]at hC
 refine Jj G.c2 fun o65 h65 hf65=> ?_
 obtain⟨fd,hd,hfd⟩: ∃fd,o65.data= .func fd/\gfF C.K fd=true:=ZK (d:=o65.data) (Q:=fun d=> ∃fd,d= .func fd/\gfF C.K fd=true) hf65 fun fd h=>⟨fd,rfl,h⟩
 refine aE hfd fun g1 g2=> ?_
 refine ug (ahj h65 hd (hbody _ _ h65 hd) rfl g1) fun hlen F H=> ?_
 obtain⟨hp,g,d,t,os⟩:=s
 refine ahz R.K (ag G.c3) (ag G.c4) hC (fun h' e m=> ?_) (by rw[jE];exact av rfl)
 obtain⟨mk,mn,t0,mt,-⟩:=m
 have R':cC C W σ h':=R.keeps mk
 refine oU (ab2 F Rm.under (s:=⟨h',g,d,t,os⟩) (args:=[.glob (.ref e),a1,a2]) R' (VL.cons rfl (VL.cons q1 (VL.one q2))) tk (by rw[hlen];exact ax _) (by rw[hlen];exact av rfl) fun X B es Rm' bt keep hnew T=> ?_)
 have hCC:=B.C
 subst hCC
 rw[hlen]at T
 refine ug (R.free (s:=⟨hp,g,d,t,os⟩) mn) fun f1 f2 f3=> ?_
 refine eC (ahy hB (H X B) (beq_iff_eq.mp g2) Rm' (a:=a1) (b:=a2) T ⟨f1,f2,f3,fun hc=> ?_⟩ (keep _ _ mt) (akS q1) (akS q2)) fun fl dU P=> ?_
 ·have z:=hnew _ hc
  rw[show(⟨h',g,d,t,os⟩:az).heap.get? e=_ from mt]at z;exact nn z.symm
 ·obtain⟨rfl,hs,W',l,R''⟩:=P
  refine⟨rfl,?_,W',l,R'',trivial⟩
  exact Sm.trans ⟨h',t,rfl,ax _⟩ (es▸hs.2)
end
end
end
noncomputable def ahw(x:qc)(a:aC):Option Obj:=bif bw a x.n then alive ((x.tree.get a).getD default)else none
theorem ac4(x:qc)(a:aC):x.abs.heap.get? a=ahw x a:=by
 unfold ahw
 cases z:bw a x.n with
 |false=>exact abs_get_none fun h=>by rw[dh.mpr h]at z;cases z
 |true=>
  have h:a<x.n:=dh.mp z
  show(absHeap x.tree x.n x.life).get? a=alive ((x.tree.get a).getD default)
  cases g:x.tree.get a with
  |some o=>exact abs_get h g
  |none=>
   unfold Heap.get?
   rw[absHeap_at,if_pos h,g];rfl
noncomputable def Hm(as:List aC)(x:qc):dL:=as.filterMap fun a=>(ahw x a).map (a,·)
theorem ZZ(as:List aC)(x:qc):zm as x.abs.heap=Hm as x:=by
 unfold zm Hm
 exact congrArg (fun f=>as.filterMap f) (funext fun a=>by rw[ac4])
theorem ahm(as:List aC)(h:bO):Frag.In (zm as h) h:=by
 intro a o e
 have m:=dM e
 unfold zm at m
 obtain⟨b,_,hb⟩:=ly.mp m
 obtain⟨o',ho,e'⟩:=hY.mp hb
 cases e'
 exact ho
def WZ:List aC:=[3,1021,1020,680,679,706,705,204,203,605,604,633,632,45,44,112,111,1,2,12,55,56,57,58,64,65,74,75,122,183,184,185,186,187,503,504,505,584,585,586,587,588,711,860,868,897,940,962]++qm.flatMap fun r=>[r.f,r.f-1]
noncomputable def UV(K:dL)(a:aC):Option (List bW):=(K.lookup a).bind fun o=>match o.data with
 | .func fd=>(match fd.body with
  | .stmts b=>some b
  |_=>none)
 |_=>none
def XC(K:dL)(r:FR):Bool:=C7 (K.lookup r.f) (fun o=>SP o.data fun fd=>W3 fd.body fun _=>RS K r.n r.dfl r.nm fd (fd.params.args.map (·.arg)))&&(keepIn K (.ref r.f)&&bo (motive:=fun _=>Bool) true (fun x=>Hy K x (.ref r.f)) r.x)
noncomputable def SL(K:dL)(a:aC):Option (List (Str×cQ)×List bW):=(K.lookup a).bind fun o=>match o.data with
 | .func fd=>(match fd.body with
  | .stmts b=>some (fd.scope.names,b)
  |_=>none)
 |_=>none
def ckr(r:FR)(q:Option (List (Str×cQ)×List bW)):Bool:=C7 q fun q=>(ckS FN r.N r.t).ss ⟨q.1,r.nm,true⟩ q.2
theorem alC{K:dL}{r:FR}(h:XC K r=true)(hc:ckr r (SL K r.f)=true):frB K r=true:=by
 refine aE h fun h1 h2=>bj.mpr ⟨Jj h1 fun o ho h1=> ?_,h2⟩
 unfold SL at hc
 rw[ho]at hc
 unfold fnB
 rw[ho]
 exact ZK (d:=o.data) (Q:=fun d=>ckr r (match d with| .func fd=>(match fd.body with| .stmts b=>some (fd.scope.names,b)|_=>none)|_=>none)=true->SP d (fun fd=>W3 fd.body fun body=>RS K r.n r.dfl r.nm fd (fd.params.args.map (·.arg))&&(ckS FN r.N r.t).ss ⟨fd.scope.names,r.nm,true⟩ body)=true) h1 (fun fd h1=>afF (d:=fd.body) (Q:=fun bd=>ckr r (match bd with| .stmts b=>some (fd.scope.names,b)|_=>none)=true->W3 bd (fun body=>RS K r.n r.dfl r.nm fd (fd.params.args.map (·.arg))&&(ckS FN r.N r.t).ss ⟨fd.scope.names,r.nm,true⟩ body)=true) h1 fun b h1 hc=>bj.mpr ⟨h1,hc⟩) hc
theorem alD{K:dL}{l:List FR}{qs:List (Option (List (Str×cQ)×List bW))}(h0:l.all (XC K)=true)(hb:l.map (fun r=>SL K r.f)=qs)(hc:(l.zip qs).all (fun p=>ckr p.1 p.2)=true):l.all (frB K)=true:=by
 subst hb
 induction l with
 |nil=>rfl
 |cons r l ih=>exact aE h0 fun a b=>aE hc fun c d=>bj.mpr ⟨alC a c,ih b d⟩
def afQ(K:dL):Bool:=(zd.all (crB K)&&(KC.all (mrB K)&&(O7.all (grB K)&&(UM.all (blB K)&&(Qq K "show_expression" &&(Qq K "no_expression" &&(keepIn K (.ref 112)&&(Hy K "GrammarFault" (.ref 112)&&(gfB K&&((K.lookup sysModules).isSome&&(Hy K "USAGE_NAMES" (.ref 503)&&Hy K "USAGE_WORDS" (.ref 711))))))))))))
def afP(K:dL):Bool:=qm.all (XC K)&&afQ K
def abF(K:dL):Bool:=qm.all (frB K)&&afQ K
noncomputable def kY(K:dL):=(K.lookup 503,K.lookup 711,nsIn K 3 "RESERVED",UV K 65)
noncomputable def uf(w:dZ)(k v:Str)(t:Nat):ia:=⟨hashStr w k,.str k t,.str v (t+1)⟩
noncomputable def unO(w:dZ):Obj:={cls:=.type "dict",data:=.dict #[uf w "display" "DISPLAY" 925,uf w "binary" "BINARY" 927,uf w "packed" "PACKED-DECIMAL" 929,uf w "index" "INDEX" 931] 4}
noncomputable def uwO(w:dZ):Obj:={cls:=.type "dict",data:=.dict #[uf w "DISPLAY" "display" 1250,uf w "COMP" "binary" 1252,uf w "COMPUTATIONAL" "binary" 1254,uf w "BINARY" "binary" 1256,uf w "PACKED-DECIMAL" "packed" 1258,uf w "COMP-3" "packed" 1260,uf w "COMPUTATIONAL-3" "packed" 1262,uf w "INDEX" "index" 1264] 8}
noncomputable def F7:Str:=lC " ACCEPT ACCESS ADD ADVANCING AFTER ALL ALPHABETIC ALPHABETIC-LOWER ALPHABETIC-UPPER ALPHANUMERIC ALPHANUMERIC-EDITED ALSO ALTERNATE AND ANY ARE AREA AREAS ASCENDING ASSIGN AT AUTHOR BEFORE BINARY BLANK BLOCK BY CALL CHARACTER CHARACTERS CLOSE COMP COMP-3 COMPUTATIONAL COMPUTATIONAL-3 COMPUTE CONFIGURATION CONTAINS CONTENT CONTINUE CONVERTING COPY CORR CORRESPONDING COUNT DATA DATE-COMPILED DATE-WRITTEN DELETE DELIMITED DELIMITER DEPENDING DESCENDING DISPLAY DIVIDE DIVISION DOWN DUPLICATES DYNAMIC ELSE END END-ADD END-CALL END-COMPUTE END-DELETE END-DIVIDE END-EVALUATE END-IF END-MULTIPLY END-PERFORM END-READ END-RETURN END-REWRITE END-SEARCH END-START END-STRING END-SUBTRACT END-UNSTRING END-WRITE ENVIRONMENT EQUAL ERROR EVALUATE EXCEPTION EXIT EXTEND EXTERNAL FALSE FD FILE FILE-CONTROL FILLER FIRST FOR FROM GIVING GLOBAL GO GREATER HIGH-VALUE HIGH-VALUES I-O I-O-CONTROL IDENTIFICATION IF IN INDEX INDEXED INITIAL INITIALIZE INPUT INPUT-OUTPUT INSPECT INSTALLATION INTO INVALID IS JUST JUSTIFIED KEY LABEL LEADING LEFT LESS LINE LINES LINKAGE LOCK LOW-VALUE LOW-VALUES MERGE MODE MOVE MULTIPLY NATIVE NEGATIVE NEXT NO NOT NUMERIC NUMERIC-EDITED OBJECT-COMPUTER OCCURS OF OFF OMITTED ON OPEN OPTIONAL OR ORDER ORGANIZATION OTHER OUTPUT OVERFLOW PACKED-DECIMAL PERFORM PIC PICTURE POINTER POSITIVE PROCEDURE PROCEED PROGRAM PROGRAM-ID QUOTE QUOTES RANDOM READ RECORD RECORDS REDEFINES REFERENCE RELATIVE RELEASE REMAINDER RENAMES REPLACE REPLACING RETURN REWRITE RIGHT ROUNDED RUN SAME SD SEARCH SECTION SECURITY SELECT SENTENCE SEPARATE SEQUENTIAL SET SIGN SIZE SORT SORT-MERGE SOURCE-COMPUTER SPACE SPACES SPECIAL-NAMES STANDARD START STATUS STOP STRING SUBTRACT SYNC SYNCHRONIZED TALLYING TEST THAN THEN THROUGH THRU TIMES TO TRAILING TRUE UNSTRING UNTIL UP UPON USAGE USING VALUE VALUES VARYING WHEN WITH WORKING-STORAGE WRITE ZERO ZEROES ZEROS "
noncomputable def kYa(w:dZ):=(some (unO w),some (uwO w),some (some (gq F7 1445)),some leB)
abbrev PW:fY:=Kc
noncomputable def IM:List bW:=behindTheImports PW
noncomputable def xR:Env:={scope:=PW.main.scope,locals:=mainNs,globals:=mainNs,cells:=[],code:=.ref 13,frame:=some 14}
noncomputable def anT:Obj:={cls:=.type "code",data:=.fields #[.str "<module>" 182,.str "<module>" 183,.str "/claim/cut.py" 184,.int 1 0,.int 0 0,.int 0 0,.int 0 0,.int 0 0,.ref 11,.bool false,.int 181 0,.ref 12,.none,.none,.none,.none,.int 185 0,.int 1 0,.str "/claim/cut.py" 186]}
noncomputable def aog:Obj:={cls:=.type "frame",slots:= #[some (.ref 13),some (.ref 3),some (.ref 3),none,some (.str "__main__" 164),none,some (.ref 0)]}
noncomputable def tr4(P:Params):BT:=((((((((((((((BT.nil.ins 0 (boot_o_0 P)).ins 1 (boot_o_1 P)).ins 2 (boot_o_2 P)).ins 3 (boot_o_3 P)).ins 4 (boot_o_4 P)).ins 5 (boot_o_5 P)).ins 6 (boot_o_6 P)).ins 7 (boot_o_7 P)).ins 8 (boot_o_8 P)).ins 9 (boot_o_9 P)).ins 10 (boot_o_10 P)).ins 11 (tupObj0)).ins 12 {cls:=.none,data:=.fields #[]}).ins 13 anT).ins 14 aog
where tupObj0:Obj:={cls:=.type "tuple",data:=.seq #[]}
def sT4(w:dZ)(os:oc):qc:=⟨tr4 w.params,15,{},#[],{},187,os⟩
abbrev ps0:Pos:=⟨0,0,0,0⟩
abbrev psE:Pos:=⟨927,0,938,53⟩
abbrev B0:List Frame:=[topFrame ps0]
theorem amm(w:dZ)(os:oc):topGo treeTable PW w 11 (some (.ref 6)) 12 ⟨ju w.params,p7 [],sZ,vw,os⟩ (topStub PW)=some ((sT4 w os).abs,⟨denote treeTable (.body IM xR),.body IM xR,ps0,B0⟩):=by
 rw[Ei,dX,Eb]
 kernel_rfl
theorem adb(w:dZ)(os:oc):segRun treeTable PW w 11 (some (.ref 6)) 1 1 (sT4 w os).abs (blockOf IM xR (.body IM xR) ps0 B0)=some (.next,(sT4 w os).abs,.body IM xR,ps0):=by
 rw[Eg,dX]
 kernel_rfl
theorem alA(w:dZ)(s:az):topRun treeTable PW w 11 (some (.ref 6)) 2 s ⟨doneF .next,.body IM xR,psE,B0⟩=some s:=by
 rw[Ef,dX]
 kernel_rfl
theorem aiA: ∀w:dZ,(fencedOpening treeTable PW w 10000).map (fun s=>(s.heap,s.gens,s.drawn,s.toks))=some (ju w.params,p7 [],sZ,vw):=
 boot_open (by kernel_rfl) (by decide) (fun s=>by kernel_rfl)
theorem akf(w:dZ):((ju w.params).isNs mainGlobals&&(p7 []:Array yK).size ==0,(ju w.params).objs.size,(ju w.params).nsMap mainGlobals "__annotations__")=(true,11,some (.ref 6)):=by
 kernel_rfl
noncomputable def loose0:List Str:=PW.boundNames.filter fun x=> !(x==("law":Str))
noncomputable def q0:fY:=view PW [149]
noncomputable def aih:List Str:=importedModules PW.main.body
def NX(w:dZ)(s:az):Bool:=staticsOk aih (ju w.params) s.heap&&namesBound PW s.heap&&gensDone s&&laidKept (ju w.params) s.heap
def lkF(a:aC)(l:List (aC×Obj)):Option Obj:=bu (motive:=fun _=>Option Obj) none (fun p _ ih=>Bool.rec (motive:=fun _=>Option Obj) ih (some p.2) (aj a p.1)) l
theorem ach: @qE aC Obj instBEqOfDecidableEq=lkF:=funext fun a=>funext fun l=>by
 induction l with
 |nil=>rfl
 |cons p l ih=>
  obtain⟨b,o⟩:=p
  refine yJ (cD ..) ?_
  rw[ih]
  show(match a==b with|true=>some o|false=>lkF a l)=Bool.rec (motive:=fun _=>Option Obj) (lkF a l) (some o) (aj a b)
  rw[show(a==b)=aj a b from by rw[oH,beq_iff_eq,Nat.beq_eq]]
  cases aj a b<;>rfl
noncomputable def thr:Thread:=piecesOf IM xR (.body IM xR) ps0 B0
noncomputable def Xt0(s:az):Bool:=true
def TW(w:dZ)(os:oc):Option (N1×qc×Code×Pos):=segRunT treeTable PW w 11 (some (.ref 6)) 1 7241 (sT4 w os) thr
noncomputable def stF(s:Option bW):Option (List (Str×cQ)×List bW):=s.bind fun s=>if h:s.ctorIdx=0 then Stmt.FunctionDef.elim (motive_2:=fun _=>Option (List (Str×cQ)×List bW)) s h (fun _ _ b _ _ _ sc _ _ _=>some (sc.names,b))else none
noncomputable def stC(s:Option bW)(j:Nat):Option bW:=s.bind fun s=>if h:s.ctorIdx=2 then Stmt.ClassDef.elim (motive_2:=fun _=>Option bW) s h (fun _ _ _ b _ _ _ _ _ _ _=>b[j]?)else none
noncomputable def pbd(n:Nat):Option (List (Str×cQ)×List bW):=bif bw n 1000 then stF PW.main.body[n]? else stF (stC PW.main.body[n%1000]? (n / 1000-1))
noncomputable def pbs:List (Option (List (Str×cQ)×List bW)):=([147,2032,2105,2106,4107,5107,2108,3139,2139,6139,7139,15139,16139,17139,8139,132,2107,127,128,126,1106,10139,138,22139,18139,15,14,19,20,5139,19139,65,137,12139,116,123,13139,9139,124,1105,14139,59,62,16,18,17,20139,117,119,120,121,122,1107,4139,125,129,131,1108,133,1139,1032,50,33,34,41,45,36,47,44,35,46,40,42,43,38,39,48,52,49,51,53,1003,90,84,54,66,21,67,70,82,95,85,69,83,92,93,94,91,96,97,98,99,100,148,141,143,144,145,146,142,149]:List Nat).map pbd
theorem alu:(qm.zip pbs).all (fun p=>ckr p.1 p.2)=true:=by kernel_rfl
def Yd(w:dZ)(x:N1×qc×Code×Pos):=(x.1,x.2.2.1,x.2.2.2,NX w x.2.1.abs,openSeen q0 loose0 aih Xt0 true x.2.1.abs,afP (Hm WZ x.2.1)&&cX 1 x.2.1.toks,kY (Hm WZ x.2.1),qm.map fun r=>SL (Hm WZ x.2.1) r.f)
theorem apo(w:dZ)(os:oc):(TW (w.withFollow "special-get-raises" false) os).map (Yd (w.withFollow "special-get-raises" false))=some (.next,.body IM xR,psE,true,openGood q0 loose0,true,kYa (w.withFollow "special-get-raises" false),pbs):=by
 delta TW thr piecesOf
 rw[l5,dX,l6]
 delta Yd NX staticsOk namesBound laidKept afP XC RS codeIn Hy nsO nsIn kM keepIn SL
 rw[mO,bF,ach]
 kernel_rfl
theorem apq(w:dZ)(os:oc):(TW (w.withFollow "special-get-raises" true) os).map (Yd (w.withFollow "special-get-raises" true))=some (.next,.body IM xR,psE,true,openGood q0 loose0,true,kYa (w.withFollow "special-get-raises" true),pbs):=by
 delta TW thr piecesOf
 rw[l5,dX,l6]
 delta Yd NX staticsOk namesBound laidKept afP XC RS codeIn Hy nsO nsIn kM keepIn SL
 rw[mO,bF,ach]
 kernel_rfl
structure am2(C:PC):Prop where
 read_entry: ∀{k f},aF C k f qK->aF C k f wz
 is_level_here: ∀{k f},aF C k f jW->aF C k f qf
 read_entries: ∀{k f},aF C k f nC->aF C k f nz
 law_item: ∀{k f},aF C k f y4->aF C k f BB
 law_leaf: ∀{k f},aF C k f y5->aF C k f BC
 law_root: ∀{k f},aF C k f s8->aF C k f BD
def Zz(C:PC)(mac:List Nat->List AV):Prop:=rK C/\am2 C/\qk C mac bx VB
section
variable{C:PC}{mac:List Nat->List AV}(Z:Zz C mac){lab:List AV->List AV}{k kF:Nat}{x:Str}
include Z
theorem fC(i:Nat)(r:FR){F:aW}{l:List (Str×aW)}(h:aF C kF (.ref r.f) F)(t:On C k l)(e:qm[i]? =some r:=by rfl)(hx:r.x=some x:=by rfl)(hk:kF<=k:=by first|decide|omega):On C k ((x,F)::l):=f1 (Z.1.cf e hx) h hk t
omit Z in theorem fB {F:aW} {l:List (Str×aW)} {fv:ah} (c:Cl C x fv) (h:aF C 0 fv F) (t:On C k l):On C k ((x,F)::l):=f1 c h (aU _) t
omit Z in theorem fK {F:aW} {l:List (Str×aW)} {fv:ah} (c:Cl C x fv) (h:aF C kF fv F) (t:On C k l) (hk:kF<=k:=by first|decide|omega):On C k ((x,F)::l):=f1 c h hk t
omit Z in theorem mC {D:gR} {l:List (Str×gR)} (h:d6 C kF x D) (t:Zh C k l) (hk:kF<=k:=by first|decide|omega):Zh C k ((x,D)::l):=m1 h hk t
theorem gC(i:Nat){a:AV}{l:List (Str×AV)}(t:Ze C l)(e:O7[i]? =some ⟨x,a⟩:=by rfl):Ze C ((x,a)::l):=g1 (Z.1.gr e) t
theorem cZ(i:Nat)(r:FR)(Γ:cG){Q:SM}(hG:Ze C Γ.glb)(hF:On C k Γ.fns)(hM:Zh C k Γ.mts)(e:qm[i]? =some r:=by rfl)(hk:5<=k:=by first|decide|omega)(hN:Γ.nms=r.N:=by rfl)(q:Q=cg Γ r.t:=by kernel_rfl):pV C (k+1) (.ref r.f) (bn r.n r.dfl Q):=aof Z.1 e hk hN q hG hF hM
theorem jF:Cl C "len" (.builtin "len"):=Z.1.bl (i:=0) rfl (by decide) (by boot_by_name) fu
theorem IL:Cl C "range" (.type "range"):=Z.1.bl (i:=1) rfl (by decide) (by boot_by_name) mv
theorem Zt:Cl C "str" (.type "str"):=Z.1.bl (i:=2) rfl (by decide) (by boot_by_name) mv
theorem xK:Cl C "tuple" (.type "tuple"):=Z.1.bl (i:=3) rfl (by decide) (by boot_by_name) mv
theorem alp:Cl C "list" (.type "list"):=Z.1.bl (i:=4) rfl (by decide) (by boot_by_name) mv
theorem afG:Cl C "abs" (.builtin "abs"):=Z.1.bl (i:=5) rfl (by decide) (by boot_by_name) fu
theorem afI:Cl C "chr" (.builtin "chr"):=Z.1.bl (i:=6) rfl (by decide) (by boot_by_name) fu
theorem afJ:Cl C "ord" (.builtin "ord"):=Z.1.bl (i:=7) rfl (by decide) (by boot_by_name) fu
theorem ac7:Cl C "sorted" (.builtin "sorted"):=Z.1.bl (i:=8) rfl (by decide) (by boot_by_name) fu
theorem anR:Cl C "int" (.type "int"):=Z.1.bl (i:=9) rfl (by decide) (by boot_by_name) mv
theorem afH:Cl C "bytes" (.type "bytes"):=Z.1.bl (i:=10) rfl (by decide) (by boot_by_name) mv
theorem anS:Cl C "min" (.builtin "min"):=Z.1.bl (i:=11) rfl (by decide) (by boot_by_name) fu
theorem Co: ∀n,aF C (5+n) (.ref 1072) (bA n)
 |0=>Ld
 |n+1=>by
  have ih:=Co n
  exact(jg (cZ Z (k:=5+n) 0 pA (Nx (bA n)) g0 (fC Z 0 pA ih (fB (jF Z) eM f0)) m0).snd)
theorem RE:aF C 6 (.ref 201) qJ:=(cZ Z 1 F6 Q6 g0 f0 m0).snd
theorem Ci:aF C 6 (.ref 602) i9:=(cZ Z 2 Da Nt g0 f0 m0).snd
theorem FM:aF C 6 (.ref 630) ft:=(cZ Z 3 F5 Q5 g0 f0 m0).snd
theorem M4:aF C 7 (.ref 672) jp:=(cZ Z 4 Av Lq g0 f0 (mC (Z.1.mr (k:=6) (i:=1) (j:=2) rfl rfl rfl (by decide +kernel) (aF.le (k':=6) (Ci Z) (by decide)) du) m0)).snd
theorem Y9:d6 C 7 "clauses" yW:=(Z.1.mr (k:=7) (i:=4) (j:=4) rfl rfl rfl (by decide +kernel) (aF.le (k':=7) (M4 Z) (by decide)) du)
theorem zb: ∀n,aF C (7+n) (.ref 677) (bG n)
 |0=>Ld
 |n+1=>by
  have ih:=zb n
  exact(jg (cZ Z (k:=7+n) 5 Jp (Sd (bG n)) g0 (fB (xK Z) oB f0) (mC (Z.1.mr (k:=(7+n)) (i:=2) (j:=3) rfl rfl rfl (by decide +kernel) (aF.le (k':=(7+n)) (FM Z) (by omega)) (Z.1.mr (k:=(7+n)) (i:=5) (j:=4) rfl rfl rfl (by decide +kernel) (aF.le (k':=(7+n)) ih (by omega)) du)) (mC (Y9 Z) m0))).snd)
theorem UE:aF C 14 (.ref 703) s7:=(jg (cZ Z 6 Jo Sc g0 (fB (xK Z) oB f0) (mC (Z.1.mr (k:=13) (i:=5) (j:=4) rfl rfl rfl (by decide +kernel) (aF.le (k':=13) (zb Z 6) (by decide)) du) m0)).snd)
theorem alh:d6 C 14 "told" qG:=(Z.1.mr (k:=14) (i:=0) (j:=1) rfl rfl rfl (by decide +kernel) (aF.le (k':=14) (RE Z) (by decide)) (Z.1.mr (k:=14) (i:=1) (j:=2) rfl rfl rfl (by decide +kernel) (aF.le (k':=14) (Ci Z) (by decide)) (Z.1.mr (k:=14) (i:=2) (j:=3) rfl rfl rfl (by decide +kernel) (aF.le (k':=14) (FM Z) (by decide)) (Z.1.mr (k:=14) (i:=5) (j:=4) rfl rfl rfl (by decide +kernel) (aF.le (k':=14) (zb Z 6) (by decide)) (Z.1.mr (k:=14) (i:=6) (j:=5) rfl rfl rfl (by decide +kernel) (aF.le (k':=14) (UE Z) (by decide)) du)))))
theorem vJ:aF C 6 (.ref 882) lf:=(cZ Z 7 vZ HV g0 (fB (jF Z) eM f0) m0).snd
theorem am1:d6 C 6 "is_done" Wo:=(Z.1.mr (k:=6) (i:=8) (j:=6) rfl rfl rfl (by decide +kernel) (aF.le (k':=6) (vJ Z) (by decide)) du)
theorem Ol:d6 C 6 "is_done" qh:=(Z.1.mr (k:=6) (i:=8) (j:=6) rfl rfl rfl (by decide +kernel) (QE Z.2.2 (vJ Z)) du)
theorem Cj:aF C 6 (.ref 875) ii:=(cZ Z 8 Dd Nu g0 (fB (jF Z) eM f0) m0).snd
theorem xj:d6 C 6 "peek" gv:=(Z.1.mr (k:=6) (i:=7) (j:=6) rfl rfl rfl (by decide +kernel) (aF.le (k':=6) (Cj Z) (by decide)) du)
theorem Up:d6 C 6 "peek" yZ:=(Z.1.mr (k:=6) (i:=7) (j:=6) rfl rfl rfl (by decide +kernel) (YE Z.2.2 (Cj Z)) du)
theorem vK:aF C 7 (.ref 904) iy:=(cZ Z 9 wa HX g0 f0 (mC (xj Z) m0)).snd
theorem vx:d6 C 7 "is_kind" fj:=(Z.1.mr (k:=7) (i:=11) (j:=6) rfl rfl rfl (by decide +kernel) (aF.le (k':=7) (vK Z) (by decide)) du)
theorem yR:d6 C 7 "is_kind" t5:=(Z.1.mr (k:=7) (i:=11) (j:=6) rfl rfl rfl (by decide +kernel) (QF Z.2.2 (vK Z)) du)
theorem vM:aF C 8 (.ref 911) jy:=(cZ Z 10 we u4 g0 f0 (mC (rx (k:=0)) (mC (xj Z) (mC (vx Z) m0)))).snd
theorem Wh:d6 C 8 "is_word" rb:=(Z.1.mr (k:=8) (i:=12) (j:=6) rfl rfl rfl (by decide +kernel) (aF.le (k':=8) (vM Z) (by decide)) du)
theorem Om:d6 C 8 "is_word" GS:=(Z.1.mr (k:=8) (i:=12) (j:=6) rfl rfl rfl (by decide +kernel) (QH Z.2.2 (vM Z)) du)
theorem vL:aF C 8 (.ref 969) jx:=(cZ Z 11 wc HY g0 f0 (mC (xj Z) (mC (vx Z) m0))).snd
theorem Wg:d6 C 8 "is_sign" vA:=(Z.1.mr (k:=8) (i:=19) (j:=6) rfl rfl rfl (by decide +kernel) (aF.le (k':=8) (vL Z) (by decide)) du)
theorem tX:d6 C 8 "is_sign" qi:=(Z.1.mr (k:=8) (i:=19) (j:=6) rfl rfl rfl (by decide +kernel) (QG Z.2.2 (vL Z)) du)
theorem sy:aF C 9 (.ref 976) jN:=(cZ Z 12 sH DR g0 f0 (mC (Wg Z) m0)).snd
theorem alf:d6 C 9 "skip_sign" Ro:=(Z.1.mr (k:=9) (i:=20) (j:=6) rfl rfl rfl (by decide +kernel) (aF.le (k':=9) (sy Z) (by decide)) du)
theorem yU:d6 C 9 "skip_sign" s5:=(Z.1.mr (k:=9) (i:=20) (j:=6) rfl rfl rfl (by decide +kernel) (Le Z.2.2 (sy Z)) du)
theorem Fn:aF C 10 (.ref 983) sw:=(cZ Z 13 sG rA g0 f0 (mC (yU Z) m0)).snd
theorem Il:d6 C 10 "need_sign" yY:=(Z.1.mr (k:=10) (i:=21) (j:=6) rfl rfl rfl (by decide +kernel) (aF.le (k':=10) (Fn Z) (by decide)) du)
theorem Cm:aF C 9 (.ref 918) o0:=(cZ Z 14 De Nv g0 (fB (jF Z) eM f0) (mC (rx (k:=0)) (mC (Wh Z) m0))).snd
theorem apK:d6 C 9 "skip" afr:=(Z.1.mr (k:=9) (i:=13) (j:=6) rfl rfl rfl (by decide +kernel) (aF.le (k':=9) (Cm Z) (by decide)) du)
theorem yT:d6 C 9 "skip" vB:=(Z.1.mr (k:=9) (i:=13) (j:=6) rfl rfl rfl (by decide +kernel) (YF Z.2.2 (Cm Z)) du)
theorem Ni:aF C 11 (.ref 833) Af:=(cZ Z 15 se yG g0 f0 (mC (Il Z) (mC (yT Z) m0))).snd
theorem WF:aF C 6 (.ref 658) LN:=(cZ Z 16 Mi JV g0 f0 (mC (fG (k:=0)) m0)).snd
theorem Uo:d6 C 6 "add" yV:=(Z.1.mr (k:=6) (i:=3) (j:=4) rfl rfl rfl (by decide +kernel) (aF.le (k':=6) (WF Z) (by decide)) du)
theorem OW:aF C 7 (.ref 800) Ca:=(cZ Z 17 uH A5 (gC Z 20 (gC Z 17 g0)) (fB (jF Z) eM f0) (mC (fG (k:=0)) (mC (Uo Z) (mC (aeH (k:=0)) m0)))).snd
theorem ac2:aF C 8 (.ref 807) Sx:=(cZ Z 18 K7 Q8 (gC Z 16 (gC Z 17 (gC Z 15 g0))) (fB (jF Z) eM (fC Z 17 uH (OW Z) f0)) (mC (Uo Z) (mC (fG (k:=0)) m0))).snd
theorem Ky:aF C 7 (.ref 793) jW:=(cZ Z 19 qx JZ g0 f0 (mC (Up Z) m0)).snd
theorem IP:pV C 6 (.ref 623) (bn ls.n ls.dfl vG):=cZ Z 20 ls uZ g0 (fB (xK Z) oB f0) m0
theorem ON:aF C 7 (.ref 633) xu:=(mH ((Z.1.cr (i:=3) rfl).2 (IP Z)))
theorem Kv:aF C 10 (.ref 932) xy:=(cZ Z 21 ya wv g0 f0 (mC (rx (k:=0)) (mC (yT Z) m0))).snd
theorem xk:d6 C 10 "one_of" tz:=(Z.1.mr (k:=10) (i:=15) (j:=6) rfl rfl rfl (by decide +kernel) (aF.le (k':=10) (Kv Z) (by decide)) du)
theorem IE:aF C 6 (.ref 852) iz:=(cZ Z 22 pE u9 (gC Z 21 g0) (fB (afH Z) YC (fB (afJ Z) TM f0)) m0).snd
theorem xG:aF C 8 (.ref 1018) mj:=(cZ Z 23 x9 JW g0 (fC Z 22 pE (zH (IE Z)) f0) (mC (xj Z) (mC (vx Z) m0))).snd
theorem anJ:d6 C 8 "octets" Zg:=(Z.1.mr (k:=8) (i:=25) (j:=6) rfl rfl rfl (by decide +kernel) (aF.le (k':=8) (xG Z) (by decide)) du)
theorem acT:d6 C 8 "octets" Sv:=(Z.1.mr (k:=8) (i:=25) (j:=6) rfl rfl rfl (by decide +kernel) (R5 Z.2.2 (xG Z)) du)
theorem Fl:aF C 9 (.ref 990) sv:=(cZ Z 24 sF rz g0 f0 (mC (yR Z) (mC (tX Z) m0))).snd
theorem Ij:d6 C 9 "is_number" yX:=(Z.1.mr (k:=9) (i:=22) (j:=6) rfl rfl rfl (by decide +kernel) (aF.le (k':=9) (Fl Z) (by decide)) du)
theorem Zp:aF C 6 (.ref 136) Ow:=(cZ Z 25 HE MF g0 f0 m0).snd
theorem Zn:aF C 6 (.ref 129) Ou:=(cZ Z 26 HC MD g0 f0 m0).snd
theorem WP:aF C 6 (.ref 164) LW:=(cZ Z 27 Dp J7 (gC Z 0 g0) f0 (mC (Ml (k:=0)) m0)).snd
theorem Al:aF C 7 (.ref 171) iE:=(cZ Z 28 nK yy (gC Z 0 g0) (fC Z 26 HC (Zn Z) (fB (jF Z) eM (fC Z 27 Dp (WP Z) (fB (IL Z) wg f0)))) (mC (Ml (k:=0)) m0)).snd
theorem Cn:aF C 7 (.ref 896) o4:=(cZ Z 29 Df Nw g0 f0 (mC (xj Z) m0)).snd
theorem apL:d6 C 7 "take" afs:=(Z.1.mr (k:=7) (i:=10) (j:=6) rfl rfl rfl (by decide +kernel) (aF.le (k':=7) (Cn Z) (by decide)) du)
theorem Im:d6 C 7 "take" Eo:=(Z.1.mr (k:=7) (i:=10) (j:=6) rfl rfl rfl (by decide +kernel) (YG Z.2.2 (Cn Z)) du)
theorem Kw:aF C 10 (.ref 997) xz:=(cZ Z 30 yb ww g0 (fC Z 25 HE (Zp Z) (fC Z 28 nK (Al Z) f0)) (mC (Im Z) (mC (yU Z) (mC (Ij Z) m0)))).snd
theorem acU:d6 C 10 "signed" Sw:=(Z.1.mr (k:=10) (i:=23) (j:=6) rfl rfl rfl (by decide +kernel) (aF.le (k':=10) (Kw Z) (by decide)) du)
theorem Nc:aF C 11 (.ref 409) Aa:=(cZ Z 31 r7 yB g0 f0 (mC (yR Z) (mC (acT Z) (mC (Ij Z) (mC (acU Z) m0))))).snd
theorem OT:aF C 6 (.ref 847) BW:=(cZ Z 32 uE A2 (g1 Z.1.rs g0) f0 m0).snd
theorem IC:aF C 8 (.ref 947) vD:=(cZ Z 33 wb u2 g0 (fC Z 32 uE (OT Z) f0) (mC (Up Z) (mC (yR Z) m0))).snd
theorem yS:d6 C 8 "is_name" t6:=(Z.1.mr (k:=8) (i:=16) (j:=6) rfl rfl rfl (by decide +kernel) (aF.le (k':=8) (IC Z) (by decide)) du)
theorem Nb:aF C 12 (.ref 725) z8:=(cZ Z 34 r6 yA (g1 Z.1.noe g0) (fC Z 31 r7 (Nc Z) f0) (mC (yS Z) m0)).snd
theorem OY:aF C 13 (.ref 772) Cc:=(cZ Z 35 uJ A7 g0 (fC Z 34 r6 (Nb Z) f0) (mC (tX Z) (mC (fG (k:=0)) (mC (xk Z) m0)))).snd
theorem OO:aF C 9 (.ref 954) BR:=(cZ Z 36 Db AY g0 f0 (mC (Im Z) (mC (yS Z) m0))).snd
theorem Ik:d6 C 9 "name" En:=Z.1.mro (i:=17) (r:=⟨1021,"name",954⟩) rfl rfl (fun i hi=>by simp only[aG,bg,or_false]at hi;rcases hi with rfl|rfl|rfl|rfl<;>(rw[Z.1.fn _ _ rfl];decide)) (OO Z)
theorem OP:aF C 10 (.ref 925) BS:=(cZ Z 37 Dc AZ g0 f0 (mC (yT Z) m0)).snd
theorem alg:d6 C 10 "need" abx:=(Z.1.mr (k:=10) (i:=14) (j:=6) rfl rfl rfl (by decide +kernel) (aF.le (k':=10) (OP Z) (by decide)) du)
theorem Nd:aF C 11 (.ref 779) Ab:=(cZ Z 38 r8 yC g0 f0 (mC (xk Z) (mC (Ik Z) (mC (alg Z) m0)))).snd
theorem Hd:pV C 6 (.ref 595) (bn ky.n ky.dfl ub):=cZ Z 39 ky sP g0 (fB (xK Z) oB f0) m0
theorem SA:aF C 7 (.ref 605) Kp:=(mH ((Z.1.cr (i:=2) rfl).2 (Hd Z)))
theorem M5:aF C 10 (.ref 961) zY:=(cZ Z 40 Ax yr g0 f0 (mC (yS Z) (mC (Ik Z) m0))).snd
theorem afm:d6 C 10 "names" Wp:=(Z.1.mr (k:=10) (i:=18) (j:=6) rfl rfl rfl (by decide +kernel) (aF.le (k':=10) (M5 Z) (by decide)) du)
theorem M8:aF C 9 (.ref 367) z4:=(cZ Z 41 rZ yu g0 f0 (mC (tX Z) m0)).snd
theorem WJ:aF C 11 (.ref 388) LP:=(cZ Z 42 Di J1 g0 (fB (xK Z) oB (fC Z 41 rZ (M8 Z) f0)) (mC (tX Z) (mC (xk Z) (mC (fG (k:=0)) (mC (Ik Z) m0))))).snd
theorem WM:aF C 6 (.ref 143) LU:=(cZ Z 43 Dl J4 g0 f0 m0).snd
theorem WN:aF C 7 (.ref 157) ol:=(cZ Z 44 Dm J5 g0 (fC Z 43 Dl (WM Z) f0) m0).snd
theorem WI:aF C 6 (.ref 150) lG:=(cZ Z 45 Dh J0 g0 f0 m0).snd
theorem Ai:aF C 8 (.ref 1004) nB:=(cZ Z 46 Ay Ls g0 (fC Z 44 Dm (zH (WN Z)) (fC Z 45 Dh (zH (WI Z)) (fC Z 28 nK (zH (Al Z)) f0))) (mC (xj Z) (mC (vx Z) m0))).snd
theorem apI:d6 C 8 "whole" acW:=(Z.1.mr (k:=8) (i:=24) (j:=6) rfl rfl rfl (by decide +kernel) (aF.le (k':=8) (Ai Z) (by decide)) du)
theorem Wj:d6 C 8 "whole" Os:=(Z.1.mr (k:=8) (i:=24) (j:=6) rfl rfl rfl (by decide +kernel) (VQ Z.2.2 (Ai Z)) du)
theorem OX:aF C 12 (.ref 730) Cb:=(cZ Z 47 uI A6 (g1 Z.1.noe g0) (fK ((Z.1.cr (k:=0) (i:=2) rfl).1) (SA Z) (fB (xK Z) oB (fC Z 42 Di (WJ Z) f0))) (mC (yT Z) (mC (afm Z) (mC (Om Z) (mC (tt (k:=0)) (mC (Im Z) (mC (Wj Z) m0))))))).snd
theorem Cr:aF C 13 (.ref 744) rf:=(cZ Z 48 lQ pZ (g1 Z.1.uw g0) (fC Z 47 uI (OX Z) f0) (mC (xk Z) (mC (qz (k:=0)) (mC (yT Z) m0)))).snd
theorem OQ:aF C 10 (.ref 751) BU:=(cZ Z 49 uC A0 g0 f0 (mC (yT Z) m0)).snd
theorem Fo:aF C 11 (.ref 758) sx:=(cZ Z 50 mW rB (g1 Z.1.uw g0) f0 (mC (xk Z) (mC (qz (k:=0)) (mC (Im Z) (mC (yR Z) m0))))).snd
theorem Na:aF C 14 (.ref 765) z7:=(cZ Z 51 r5 yx g0 (fC Z 48 lQ (Cr Z) (fC Z 49 uC (OQ Z) (fC Z 50 mW (Fo Z) f0))) (mC (tX Z) (mC (fG (k:=0)) (mC (Up Z) m0)))).snd
theorem KH:pV C 6 (.ref 651) (bn mx.n mx.dfl xC):=cZ Z 52 mx wt g0 f0 m0
theorem ND:aF C 7 (.ref 680) oZ:=((Z.1.cr (i:=4) rfl).2 (KH Z))
theorem Ah:aF C 7 (.ref 889) nA:=(cZ Z 53 Aw Lr g0 (fK (Z.1.gfc) (Z.1.gf 5 (by decide)) (fB (anS Z) aeM (fB (jF Z) eM f0))) m0).snd
theorem apH:d6 C 7 "fault" acV:=(Z.1.mr (k:=7) (i:=9) (j:=6) rfl rfl rfl (by decide +kernel) (aF.le (k':=7) (Ah Z) (by decide)) du)
theorem Wi:d6 C 7 "fault" Oq:=(Z.1.mr (k:=7) (i:=9) (j:=6) rfl rfl rfl (by decide +kernel) (VP Z.2.2 (Ah Z)) du)
theorem RK:aF C 15 (.ref 786) qK:=(n8 (cZ Z 54 wT DZ (gC Z 15 (gC Z 16 (gC Z 17 (gC Z 18 (gC Z 19 g0))))) (fK ((Z.1.cr (k:=0) (i:=3) rfl).1) (ON Z) (fC Z 35 uJ (OY Z) (fC Z 38 r8 (Nd Z) (fC Z 51 r5 (Na Z) (fK ((Z.1.cr (k:=0) (i:=4) rfl).1) (ND Z) f0))))) (mC (Il Z) (mC (yS Z) (mC (Ik Z) (mC (yT Z) (mC (Wj Z) (mC (Wi Z) m0))))))).snd)
theorem Am:aF C 16 (.ref 814) nC:=(n8 (HJ (cZ Z 55 nL yz g0 (fC Z 18 K7 (ac2 Z) (fC Z 19 qx (Z.2.1.is_level_here (Ky Z)) (fC Z 54 wT (Z.2.1.read_entry (RK Z)) f0))) (mC (fG (k:=0)) m0)).snd))
theorem G5:aF C 17 (.ref 826) ua:=(cZ Z 56 n6 sT (gC Z 17 g0) (fC Z 55 nL (Z.2.1.read_entries (Am Z)) f0) (mC (fG (k:=0)) (mC (yU Z) (mC (Ik Z) (mC (Wi Z) m0))))).snd
theorem KG:pV C 6 (.ref 698) (bn mw.n mw.dfl xB):=cZ Z 57 mw wq g0 f0 m0
theorem UD:aF C 7 (.ref 706) vC:=((Z.1.cr (i:=5) rfl).2 (KG Z))
theorem UJ:aF C 18 (.ref 840) o5:=(n8 (HJ (cZ Z 58 zC Gp g0 (fC Z 15 se (Ni Z) (fC Z 55 nL (Z.2.1.read_entries (Am Z)) (fC Z 56 n6 (G5 Z) (fK ((Z.1.cr (k:=0) (i:=5) rfl).1) (UD Z) f0)))) (mC (Om Z) (mC (Ol Z) (mC (Im Z) m0)))).snd))
theorem He:pV C 6 (.ref 867) (bn kz.n kz.dfl km):=cZ Z 59 kz Ft g0 f0 m0
theorem ac1:aF C 7 (.ref 1021) xx:=(aeO Z.2.2 ((Z.1.cr (i:=6) rfl).2 (He Z)))
theorem IQ:pV C 6 (.ref 194) (bn lu.n lu.dfl vH):=cZ Z 60 lu u5 g0 f0 m0
theorem WG:aF C 7 (.ref 204) Ot:=(mH ((Z.1.cr (i:=1) rfl).2 (IQ Z)))
theorem G4:aF C 6 (.ref 330) t9:=(cZ Z 61 n5 sS g0 (fB (jF Z) eM f0) m0).snd
theorem qL:aF C 6 (.ref 215) ni:=(cZ Z 62 kP DU g0 (fB (afI Z) TL (fB (afJ Z) TM f0)) m0).snd
theorem Cp:aF C 7 (.ref 220) vE:=(cZ Z 63 rt JY g0 (fC Z 62 kP (qL Z) f0) (mC (qz (k:=0)) m0)).snd
theorem OV:aF C 6 (.ref 269) BZ:=(cZ Z 64 uG A4 (gC Z 3 g0) (fB (jF Z) eM f0) m0).snd
theorem G3:aF C 8 (.ref 295) t8:=(cZ Z 65 nZ sR g0 (fC Z 63 rt (Cp Z) (fC Z 64 uG (OV Z) f0)) m0).snd
theorem zc:aF C 6 (.ref 234) s9:=(cZ Z 66 pD Go g0 (fB (jF Z) eM f0) m0).snd
theorem Zo:aF C 7 (.ref 309) Ov:=(cZ Z 67 HD ME (gC Z 9 (gC Z 10 g0)) (fC Z 66 pD (zc Z) f0) (mC (rx (k:=0)) m0)).snd
theorem G2:aF C 6 (.ref 288) t7:=(cZ Z 68 nY sQ (gC Z 7 g0) (fB (jF Z) eM f0) (mC (wV (k:=0)) m0)).snd
theorem M9:aF C 7 (.ref 227) z6:=(cZ Z 69 r0 yv (gC Z 1 g0) (fC Z 62 kP (qL Z) f0) m0).snd
theorem RI:aF C 8 (.ref 302) FI:=(cZ Z 70 wR DX (gC Z 2 (gC Z 8 g0)) (fC Z 69 r0 (M9 Z) f0) m0).snd
theorem OU:aF C 6 (.ref 262) BX:=(cZ Z 71 uF A3 g0 (fB (jF Z) eM f0) m0).snd
theorem M6:aF C 8 (.ref 274) zZ:=(cZ Z 72 rX ys (gC Z 4 (gC Z 5 g0)) (fB (jF Z) eM (fC Z 63 rt (Cp Z) f0)) m0).snd
theorem ID:aF C 6 (.ref 281) vF:=(cZ Z 73 pB u6 (gC Z 6 g0) (fB (jF Z) eM f0) m0).snd
theorem OZ:aF C 7 (.ref 248) GW:=(cZ Z 74 zD MG g0 (fC Z 62 kP (qL Z) (fB (jF Z) eM f0)) m0).snd
theorem RJ:aF C 8 (.ref 255) FJ:=(cZ Z 75 wS DY (gC Z 2 g0) (fC Z 74 zD (OZ Z) f0) m0).snd
theorem WO:aF C 9 (.ref 316) LV:=(cZ Z 76 Dn J6 (gC Z 8 (gC Z 2 (gC Z 5 (gC Z 1 g0)))) (fB (jF Z) eM (fC Z 67 HD (Zo Z) (fC Z 68 nY (G2 Z) (fC Z 70 wR (RI Z) (fC Z 71 uF (OU Z) (fC Z 72 rX (M6 Z) (fC Z 73 pB (ID Z) (fC Z 75 wS (RJ Z) (fC Z 74 zD (OZ Z) (fC Z 62 kP (qL Z) f0)))))))))) m0).snd
theorem RG:aF C 8 (.ref 344) FG:=(cZ Z 77 wP DV g0 (fC Z 66 pD (zc Z) (fC Z 63 rt (Cp Z) f0)) m0).snd
theorem OS:aF C 7 (.ref 323) BV:=(cZ Z 78 uD A1 g0 (fC Z 66 pD (zc Z) f0) m0).snd
theorem RF:aF C 10 (.ref 337) FF:=(cZ Z 79 wO DT g0 (fB (jF Z) eM (fK ((Z.1.cr (k:=0) (i:=1) rfl).1) (WG Z) (fC Z 61 n5 (G4 Z) (fC Z 65 nZ (G3 Z) (fC Z 76 Dn (WO Z) (fC Z 77 wP (RG Z) (fC Z 78 uD (OS Z) f0))))))) (mC (fG (k:=0)) m0)).snd
theorem UL:aF C 11 (.ref 351) Ix:=(mH (cZ Z 80 zF Gr g0 (fC Z 79 wO (RF Z) f0) m0).snd)
theorem KI:pV C 6 (.ref 35) (bn my.n my.dfl xE):=cZ Z 81 my wu g0 f0 m0
theorem alj:aF C 7 (.ref 45) aby:=(mH ((Z.1.cr (i:=0) rfl).2 (KI Z)))
theorem ud:aF C 12 (.ref 510) cM:=(jg (cZ Z 82 lR Ba (gC Z 11 (gC Z 12 g0)) (fB (IL Z) wg (fB (jF Z) eM (fK ((Z.1.cr (k:=0) (i:=1) rfl).1) (WG Z) (fC Z 80 zF (UL Z) (fK ((Z.1.cr (k:=0) (i:=0) rfl).1) (alj Z) f0))))) m0).snd)
theorem Kz:aF C 6 (.ref 495) Ep:=(cZ Z 83 yc Q7 g0 f0 (mC (qz (k:=0)) m0)).snd
theorem ac3:aF C 6 (.ref 358) Sy:=(cZ Z 84 K8 Q9 g0 f0 (mC (wV (k:=0)) m0)).snd
theorem Nh:aF C 7 (.ref 414) Ae:=(cZ Z 85 sd yF g0 (fC Z 84 K8 (ac3 Z) (fB (afI Z) TL f0)) (mC (qz (k:=0)) m0)).snd
theorem KA:aF C 6 (.ref 178) xA:=(cZ Z 86 qy wx g0 (fB (jF Z) eM (fB (Zt Z) Lg (fB (afG Z) TK f0))) m0).snd
theorem Ng:aF C 7 (.ref 421) Ad:=(cZ Z 87 sb yE (gC Z 6 g0) (fB (afG Z) TK (fC Z 86 qy (KA Z) f0)) (mC (wV (k:=0)) m0)).snd
theorem Nf:aF C 8 (.ref 440) Ac:=(cZ Z 88 r9 yD g0 (fC Z 85 sd (Nh Z) (fC Z 87 sb (Ng Z) f0)) m0).snd
theorem Ak:aF C 9 (.ref 483) rN:=(cZ Z 89 nJ yw (g1 Z.1.show g0) (fC Z 88 r9 (Nf Z) f0) m0).snd
theorem O1:aF C 10 (.ref 543) lH:=(jg (cZ Z 90 uL A9 g0 (fC Z 83 yc (Kz Z) (fC Z 89 nJ (Ak Z) f0)) (mC (fG (k:=0)) m0)).snd)
theorem SD:aF C 6 (.ref 502) Kq:=(cZ Z 91 EJ Ra g0 f0 m0).snd
theorem WL:aF C 6 (.ref 433) LS:=(cZ Z 92 Dk J3 g0 (fB (alp Z) aaU f0) (mC (qz (k:=0)) m0)).snd
theorem WK:aF C 7 (.ref 490) LQ:=(cZ Z 93 Dj J2 (g1 Z.1.show g0) (fC Z 92 Dk (WL Z) f0) m0).snd
theorem O0:aF C 8 (.ref 522) Ce:=(cZ Z 94 uK A8 g0 (fC Z 83 yc (Kz Z) (fC Z 91 EJ (SD Z) (fB (Zt Z) Lg (fC Z 93 Dj (WK Z) f0)))) m0).snd
theorem UK:aF C 6 (.ref 529) Iw:=(cZ Z 95 zE Gq g0 f0 m0).snd
theorem M7:aF C 10 (.ref 536) z0:=(cZ Z 96 rY yt (g1 Z.1.un g0) (fC Z 89 nJ (Ak Z) (fC Z 94 uK (O0 Z) (fC Z 95 zE (UK Z) (fC Z 91 EJ (SD Z) f0)))) m0).snd
theorem RH:aF C 6 (.ref 517) FH:=(cZ Z 97 wQ DW g0 (fB (Zt Z) Lg f0) m0).snd
theorem RL:aF C 11 (.ref 550) nj:=(jg (cZ Z 98 wU D0 (gC Z 13 g0) (fC Z 83 yc (Kz Z) (fC Z 96 rY (M7 Z) (fC Z 97 wQ (RH Z) f0))) m0).snd)
theorem Aj: ∀n,aF C (12+n) (.ref 557) (cu n)
 |0=>Ld
 |n+1=>by
  have ih:=Aj n
  exact(jg (mH (cZ Z (k:=12+n) 99 nG (Lu (cu n)) (gC Z 14 g0) (fC Z 99 nG ih (fC Z 82 lR (ud Z) (fC Z 90 uL (O1 Z) (fC Z 98 wU (RL Z) f0)))) (mC (tt (k:=0)) m0)).snd))
theorem An:aF C 19 (.ref 564) iG:=(jg (mH (cZ Z 100 nM Lv g0 (fC Z 99 nG (Aj Z 6) f0) (mC (tt (k:=0)) m0)).snd))
theorem IG:aF C 20 (.ref 571) eP:=(jg (mH (cZ Z 101 pF H0 g0 (fC Z 82 lR (ud Z) (fC Z 100 nM (An Z) f0)) m0).snd))
theorem Cq:aF C 21 (.ref 578) ik:=(Mm (jg (mH (cZ Z 102 pC Ny g0 (fC Z 82 lR (ud Z) (fC Z 101 pF (IG Z) (fC Z 100 nM (An Z) f0))) (mC (tt (k:=0)) m0)).snd)))
theorem Kx(hl: ∀L c,lL mac L c->lL mac (lab L) c):aF C 22 (.ref 1077) (eL lab):=(Mm (cZ Z 103 qw (JX lab) g0 (fC Z 0 pA (Co Z 6) (fB (anR Z) aeK (fB (IL Z) wg (fB (jF Z) eM (fB (ac7 Z) VR (fC Z 58 zC (aeL Z.2.2 hl (UJ Z)) (fK ((Z.1.cr (k:=0) (i:=6) rfl).1) (ac1 Z) (fC Z 102 pC (Cq Z) f0)))))))) (mC (alh Z) (mC (Ol Z) m0))).snd)
theorem ta:aF C 6 (.ref 1032) y6:=(cZ Z 104 mz Se g0 f0 m0).snd
theorem FL:aF C 8 (.ref 1046) qI:=(HK (cZ Z 105 tq Gl g0 (fC Z 104 mz (wf Z.2.2 (ta Z)) (fK ((Z.1.cr (k:=0) (i:=3) rfl).1) (ON Z) (fK ((Z.1.cr (k:=0) (i:=2) rfl).1) (SA Z) (fK ((Z.1.cr (k:=0) (i:=4) rfl).1) (ND Z) f0)))) (mC (fG (k:=0)) m0)).snd)
theorem UG:aF C 8 (.ref 1046) y4:=(n8 (FL Z))
theorem RC:aF C 9 (.ref 1053) wE:=(HK (cZ Z 106 zA Gm g0 (fC Z 104 mz (wf Z.2.2 (ta Z)) (fC Z 105 tq (FL Z) f0)) m0).snd)
theorem UH:aF C 9 (.ref 1053) y5:=(n8 (RC Z))
theorem UI:aF C 10 (.ref 1060) s8:=(n8 (HK (cZ Z 107 zB Gn g0 (fC Z 104 mz (wf Z.2.2 (ta Z)) (fK ((Z.1.cr (k:=0) (i:=4) rfl).1) (ND Z) (fB (IL Z) wg (fC Z 106 zA (Z.2.1.law_leaf (UH Z)) (fC Z 105 tq (Z.2.1.law_item (UG Z)) f0))))) (mC (Uo Z) m0)).snd))
theorem UF:aF C 11 (.ref 1065) ml:=(aeI Z.2.2 (fun b=>⟨(Yo b).1,(Yo b).2.1⟩) (n8 (HJ (cZ Z 108 zz Gk g0 (fC Z 107 zB (Z.2.1.law_root (UI Z)) (fC Z 104 mz (wf Z.2.2 (ta Z)) (fK ((Z.1.cr (k:=0) (i:=5) rfl).1) (UD Z) f0))) (mC (fG (k:=0)) m0)).snd)))
theorem WH:aF C 6 (.ref 1039) re:=(cZ Z 109 Dg V5 g0 f0 m0).snd
theorem anM(hl: ∀L c,lL mac L c->lL mac (lab L) c):aF C 23 (.ref 1082) (Zi lab):=(cZ Z 110 aaP (am0 lab) g0 (fC Z 103 qw (Kx Z hl) (fC Z 108 zz (UF Z) (fC Z 109 Dg (WH Z) (fK ((Z.1.cr (k:=0) (i:=5) rfl).1) (UD Z) (fC Z 102 pC (Cq Z) (fK ((Z.1.cr (k:=0) (i:=4) rfl).1) (ND Z) (fK ((Z.1.cr (k:=0) (i:=3) rfl).1) (ON Z) f0))))))) (mC (rx (k:=0)) (mC (Uo Z) (mC (fG (k:=0)) m0)))).snd
end
noncomputable def ch(a:Nat)(l:List (Nat×Nat×Nat)):List (Nat×Nat×Nat):=(l.drop a).take 4
theorem Cv{β:Type}{l:List (Nat×Nat×Nat)}{a:Nat}{f g:Nat×Nat×Nat->β}(h:l.length<=a):(l.drop a).map f=(l.drop a).map g:=by rw[hV h];rfl
theorem bc{β:Type}{l:List (Nat×Nat×Nat)}{a:Nat}{f g:Nat×Nat×Nat->β}(h:(ch a l).map f=(ch a l).map g)(h':(l.drop (a+4)).map f=(l.drop (a+4)).map g):(l.drop a).map f=(l.drop a).map g:=by
 rw[<- oa 4 (l.drop a),br,br,p9]
 exact congr (congrArg (· ++ ·) h) h'
theorem Cu{β:Type}{l:List (Nat×Nat×Nat)}{f g:Nat×Nat×Nat->β}(h:(l.drop 0).map f=(l.drop 0).map g){x:Nat×Nat×Nat}(hx:x∈l):f x=g x:=iL.mp h x hx
section
variable(c k p:AV)
def iJ(lvl:Nat)(x:Nat×Nat×Nat):Option (List AV):=uR (.frz cp gg (.int (am lvl)::j9 x c k p .none)) (bif aj lvl 1 then true else aj lvl 77)
def iK(lvl:Nat)(x:Nat×Nat×Nat):Option (List AV):=some (ku lvl x)
theorem amH:(ch 0 iY).map (iJ c k p 1)=(ch 0 iY).map (iK 1):=by kernel_rfl
theorem amI:(ch 4 iY).map (iJ c k p 1)=(ch 4 iY).map (iK 1):=by kernel_rfl
theorem amJ:(ch 8 iY).map (iJ c k p 1)=(ch 8 iY).map (iK 1):=by kernel_rfl
theorem ajK:(ch 12 iY).map (iJ c k p 1)=(ch 12 iY).map (iK 1):=by kernel_rfl
theorem ajL:(ch 16 iY).map (iJ c k p 1)=(ch 16 iY).map (iK 1):=by kernel_rfl
theorem ajM:(ch 20 iY).map (iJ c k p 1)=(ch 20 iY).map (iK 1):=by kernel_rfl
theorem ajN:(ch 24 iY).map (iJ c k p 1)=(ch 24 iY).map (iK 1):=by kernel_rfl
theorem ajO:(ch 28 iY).map (iJ c k p 1)=(ch 28 iY).map (iK 1):=by kernel_rfl
theorem ajP:(ch 32 iY).map (iJ c k p 1)=(ch 32 iY).map (iK 1):=by kernel_rfl
theorem ajQ:(ch 36 iY).map (iJ c k p 1)=(ch 36 iY).map (iK 1):=by kernel_rfl
theorem ajR:(ch 40 iY).map (iJ c k p 1)=(ch 40 iY).map (iK 1):=by kernel_rfl
theorem aqJ{x:Nat×Nat×Nat}(hx:x∈iY):iJ c k p 1 x=iK 1 x:=Cu (bc (amH c k p) (bc (amI c k p) (bc (amJ c k p) (bc (ajK c k p) (bc (ajL c k p) (bc (ajM c k p) (bc (ajN c k p) (bc (ajO c k p) (bc (ajP c k p) (bc (ajQ c k p) (bc (ajR c k p) (Cv (by decide))))))))))))) hx
theorem amK:(ch 0 dK).map (iJ c k p 5)=(ch 0 dK).map (iK 5):=by kernel_rfl
theorem amL:(ch 4 dK).map (iJ c k p 5)=(ch 4 dK).map (iK 5):=by kernel_rfl
theorem amM:(ch 8 dK).map (iJ c k p 5)=(ch 8 dK).map (iK 5):=by kernel_rfl
theorem ajS:(ch 12 dK).map (iJ c k p 5)=(ch 12 dK).map (iK 5):=by kernel_rfl
theorem ajT:(ch 16 dK).map (iJ c k p 5)=(ch 16 dK).map (iK 5):=by kernel_rfl
theorem ajU:(ch 20 dK).map (iJ c k p 5)=(ch 20 dK).map (iK 5):=by kernel_rfl
theorem ajV:(ch 24 dK).map (iJ c k p 5)=(ch 24 dK).map (iK 5):=by kernel_rfl
theorem ajW:(ch 28 dK).map (iJ c k p 5)=(ch 28 dK).map (iK 5):=by kernel_rfl
theorem ajX:(ch 32 dK).map (iJ c k p 5)=(ch 32 dK).map (iK 5):=by kernel_rfl
theorem ajY:(ch 36 dK).map (iJ c k p 5)=(ch 36 dK).map (iK 5):=by kernel_rfl
theorem ajZ:(ch 40 dK).map (iJ c k p 5)=(ch 40 dK).map (iK 5):=by kernel_rfl
theorem aj0:(ch 44 dK).map (iJ c k p 5)=(ch 44 dK).map (iK 5):=by kernel_rfl
theorem aj1:(ch 48 dK).map (iJ c k p 5)=(ch 48 dK).map (iK 5):=by kernel_rfl
theorem aj2:(ch 52 dK).map (iJ c k p 5)=(ch 52 dK).map (iK 5):=by kernel_rfl
theorem aj3:(ch 56 dK).map (iJ c k p 5)=(ch 56 dK).map (iK 5):=by kernel_rfl
theorem aj4:(ch 60 dK).map (iJ c k p 5)=(ch 60 dK).map (iK 5):=by kernel_rfl
theorem aj5:(ch 64 dK).map (iJ c k p 5)=(ch 64 dK).map (iK 5):=by kernel_rfl
theorem aj6:(ch 68 dK).map (iJ c k p 5)=(ch 68 dK).map (iK 5):=by kernel_rfl
theorem aj7:(ch 72 dK).map (iJ c k p 5)=(ch 72 dK).map (iK 5):=by kernel_rfl
theorem aj8:(ch 76 dK).map (iJ c k p 5)=(ch 76 dK).map (iK 5):=by kernel_rfl
theorem aj9:(ch 80 dK).map (iJ c k p 5)=(ch 80 dK).map (iK 5):=by kernel_rfl
theorem aka:(ch 84 dK).map (iJ c k p 5)=(ch 84 dK).map (iK 5):=by kernel_rfl
theorem akb:(ch 88 dK).map (iJ c k p 5)=(ch 88 dK).map (iK 5):=by kernel_rfl
theorem aqK{x:Nat×Nat×Nat}(hx:x∈dK):iJ c k p 5 x=iK 5 x:=Cu (bc (amK c k p) (bc (amL c k p) (bc (amM c k p) (bc (ajS c k p) (bc (ajT c k p) (bc (ajU c k p) (bc (ajV c k p) (bc (ajW c k p) (bc (ajX c k p) (bc (ajY c k p) (bc (ajZ c k p) (bc (aj0 c k p) (bc (aj1 c k p) (bc (aj2 c k p) (bc (aj3 c k p) (bc (aj4 c k p) (bc (aj5 c k p) (bc (aj6 c k p) (bc (aj7 c k p) (bc (aj8 c k p) (bc (aj9 c k p) (bc (aka c k p) (bc (akb c k p) (Cv (by decide))))))))))))))))))))))))) hx
theorem ajH:(ch 0 sA).map (iJ c k p 10)=(ch 0 sA).map (iK 10):=by kernel_rfl
theorem ajI:(ch 4 sA).map (iJ c k p 10)=(ch 4 sA).map (iK 10):=by kernel_rfl
theorem ajJ:(ch 8 sA).map (iJ c k p 10)=(ch 8 sA).map (iK 10):=by kernel_rfl
theorem aps{x:Nat×Nat×Nat}(hx:x∈sA):iJ c k p 10 x=iK 10 x:=Cu (bc (ajH c k p) (bc (ajI c k p) (bc (ajJ c k p) (Cv (by decide))))) hx
theorem akc:(ch 0 gG).map (iJ c k p 77)=(ch 0 gG).map (iK 77):=by kernel_rfl
theorem akd:(ch 4 gG).map (iJ c k p 77)=(ch 4 gG).map (iK 77):=by kernel_rfl
theorem ake:(ch 8 gG).map (iJ c k p 77)=(ch 8 gG).map (iK 77):=by kernel_rfl
theorem aez:(ch 12 gG).map (iJ c k p 77)=(ch 12 gG).map (iK 77):=by kernel_rfl
theorem aeA:(ch 16 gG).map (iJ c k p 77)=(ch 16 gG).map (iK 77):=by kernel_rfl
theorem aeB:(ch 20 gG).map (iJ c k p 77)=(ch 20 gG).map (iK 77):=by kernel_rfl
theorem aeC:(ch 24 gG).map (iJ c k p 77)=(ch 24 gG).map (iK 77):=by kernel_rfl
theorem aeD:(ch 28 gG).map (iJ c k p 77)=(ch 28 gG).map (iK 77):=by kernel_rfl
theorem aeE:(ch 32 gG).map (iJ c k p 77)=(ch 32 gG).map (iK 77):=by kernel_rfl
theorem apt{x:Nat×Nat×Nat}(hx:x∈gG):iJ c k p 77 x=iK 77 x:=Cu (bc (akc c k p) (bc (akd c k p) (bc (ake c k p) (bc (aez c k p) (bc (aeA c k p) (bc (aeB c k p) (bc (aeC c k p) (bc (aeD c k p) (bc (aeE c k p) (Cv (by decide))))))))))) hx
end
section
variable(r n:Nat)(cells:List (Nat×bJ))(rest:aa)
def Je(cd:aa)(f:AV->AV->List AV):Option (AV×AS):=some (.ref (n+2),⟨n+3,(n,.lst cd)::(n+1,.lst [])::(n+2,.inst cp gg (f (.ref n) (.ref (n+1))))::lx r (.orc 1021 rest) cells⟩)
def iH(lvl:Nat)(x:Nat×Nat×Nat):Option (AV×AS):=vT r n cells (lF [.ref 0] ⟨1,[(0,.orc 1021 (ku lvl x++rest))]⟩)
def iI(lvl:Nat)(x:Nat×Nat×Nat):Option (AV×AS):=Je r n cells rest [] (fun a b=>.int (am lvl)::j9 x a b .none .none)
theorem amo:(ch 0 iY).map (iH r n cells rest 1)=(ch 0 iY).map (iI r n cells rest 1):=by kernel_rfl
theorem amp:(ch 4 iY).map (iH r n cells rest 1)=(ch 4 iY).map (iI r n cells rest 1):=by kernel_rfl
theorem amq:(ch 8 iY).map (iH r n cells rest 1)=(ch 8 iY).map (iI r n cells rest 1):=by kernel_rfl
theorem aiR:(ch 12 iY).map (iH r n cells rest 1)=(ch 12 iY).map (iI r n cells rest 1):=by kernel_rfl
theorem aiS:(ch 16 iY).map (iH r n cells rest 1)=(ch 16 iY).map (iI r n cells rest 1):=by kernel_rfl
theorem aiT:(ch 20 iY).map (iH r n cells rest 1)=(ch 20 iY).map (iI r n cells rest 1):=by kernel_rfl
theorem aiU:(ch 24 iY).map (iH r n cells rest 1)=(ch 24 iY).map (iI r n cells rest 1):=by kernel_rfl
theorem aiV:(ch 28 iY).map (iH r n cells rest 1)=(ch 28 iY).map (iI r n cells rest 1):=by kernel_rfl
theorem aiW:(ch 32 iY).map (iH r n cells rest 1)=(ch 32 iY).map (iI r n cells rest 1):=by kernel_rfl
theorem aiX:(ch 36 iY).map (iH r n cells rest 1)=(ch 36 iY).map (iI r n cells rest 1):=by kernel_rfl
theorem aiY:(ch 40 iY).map (iH r n cells rest 1)=(ch 40 iY).map (iI r n cells rest 1):=by kernel_rfl
theorem aqD{x:Nat×Nat×Nat}(hx:x∈iY):iH r n cells rest 1 x=iI r n cells rest 1 x:=Cu (bc (amo r n cells rest) (bc (amp r n cells rest) (bc (amq r n cells rest) (bc (aiR r n cells rest) (bc (aiS r n cells rest) (bc (aiT r n cells rest) (bc (aiU r n cells rest) (bc (aiV r n cells rest) (bc (aiW r n cells rest) (bc (aiX r n cells rest) (bc (aiY r n cells rest) (Cv (by decide))))))))))))) hx
theorem amr:(ch 0 dK).map (iH r n cells rest 5)=(ch 0 dK).map (iI r n cells rest 5):=by kernel_rfl
theorem ams:(ch 4 dK).map (iH r n cells rest 5)=(ch 4 dK).map (iI r n cells rest 5):=by kernel_rfl
theorem amt:(ch 8 dK).map (iH r n cells rest 5)=(ch 8 dK).map (iI r n cells rest 5):=by kernel_rfl
theorem aiZ:(ch 12 dK).map (iH r n cells rest 5)=(ch 12 dK).map (iI r n cells rest 5):=by kernel_rfl
theorem ai0:(ch 16 dK).map (iH r n cells rest 5)=(ch 16 dK).map (iI r n cells rest 5):=by kernel_rfl
theorem ai1:(ch 20 dK).map (iH r n cells rest 5)=(ch 20 dK).map (iI r n cells rest 5):=by kernel_rfl
theorem ai2:(ch 24 dK).map (iH r n cells rest 5)=(ch 24 dK).map (iI r n cells rest 5):=by kernel_rfl
theorem ai3:(ch 28 dK).map (iH r n cells rest 5)=(ch 28 dK).map (iI r n cells rest 5):=by kernel_rfl
theorem ai4:(ch 32 dK).map (iH r n cells rest 5)=(ch 32 dK).map (iI r n cells rest 5):=by kernel_rfl
theorem ai5:(ch 36 dK).map (iH r n cells rest 5)=(ch 36 dK).map (iI r n cells rest 5):=by kernel_rfl
theorem ai6:(ch 40 dK).map (iH r n cells rest 5)=(ch 40 dK).map (iI r n cells rest 5):=by kernel_rfl
theorem ai7:(ch 44 dK).map (iH r n cells rest 5)=(ch 44 dK).map (iI r n cells rest 5):=by kernel_rfl
theorem ai8:(ch 48 dK).map (iH r n cells rest 5)=(ch 48 dK).map (iI r n cells rest 5):=by kernel_rfl
theorem ai9:(ch 52 dK).map (iH r n cells rest 5)=(ch 52 dK).map (iI r n cells rest 5):=by kernel_rfl
theorem aja:(ch 56 dK).map (iH r n cells rest 5)=(ch 56 dK).map (iI r n cells rest 5):=by kernel_rfl
theorem ajb:(ch 60 dK).map (iH r n cells rest 5)=(ch 60 dK).map (iI r n cells rest 5):=by kernel_rfl
theorem ajc:(ch 64 dK).map (iH r n cells rest 5)=(ch 64 dK).map (iI r n cells rest 5):=by kernel_rfl
theorem ajd:(ch 68 dK).map (iH r n cells rest 5)=(ch 68 dK).map (iI r n cells rest 5):=by kernel_rfl
theorem aje:(ch 72 dK).map (iH r n cells rest 5)=(ch 72 dK).map (iI r n cells rest 5):=by kernel_rfl
theorem ajf:(ch 76 dK).map (iH r n cells rest 5)=(ch 76 dK).map (iI r n cells rest 5):=by kernel_rfl
theorem ajg:(ch 80 dK).map (iH r n cells rest 5)=(ch 80 dK).map (iI r n cells rest 5):=by kernel_rfl
theorem ajh:(ch 84 dK).map (iH r n cells rest 5)=(ch 84 dK).map (iI r n cells rest 5):=by kernel_rfl
theorem aji:(ch 88 dK).map (iH r n cells rest 5)=(ch 88 dK).map (iI r n cells rest 5):=by kernel_rfl
theorem aqE{x:Nat×Nat×Nat}(hx:x∈dK):iH r n cells rest 5 x=iI r n cells rest 5 x:=Cu (bc (amr r n cells rest) (bc (ams r n cells rest) (bc (amt r n cells rest) (bc (aiZ r n cells rest) (bc (ai0 r n cells rest) (bc (ai1 r n cells rest) (bc (ai2 r n cells rest) (bc (ai3 r n cells rest) (bc (ai4 r n cells rest) (bc (ai5 r n cells rest) (bc (ai6 r n cells rest) (bc (ai7 r n cells rest) (bc (ai8 r n cells rest) (bc (ai9 r n cells rest) (bc (aja r n cells rest) (bc (ajb r n cells rest) (bc (ajc r n cells rest) (bc (ajd r n cells rest) (bc (aje r n cells rest) (bc (ajf r n cells rest) (bc (ajg r n cells rest) (bc (ajh r n cells rest) (bc (aji r n cells rest) (Cv (by decide))))))))))))))))))))))))) hx
theorem aiO:(ch 0 sA).map (iH r n cells rest 10)=(ch 0 sA).map (iI r n cells rest 10):=by kernel_rfl
theorem aiP:(ch 4 sA).map (iH r n cells rest 10)=(ch 4 sA).map (iI r n cells rest 10):=by kernel_rfl
theorem aiQ:(ch 8 sA).map (iH r n cells rest 10)=(ch 8 sA).map (iI r n cells rest 10):=by kernel_rfl
theorem ao1{x:Nat×Nat×Nat}(hx:x∈sA):iH r n cells rest 10 x=iI r n cells rest 10 x:=Cu (bc (aiO r n cells rest) (bc (aiP r n cells rest) (bc (aiQ r n cells rest) (Cv (by decide))))) hx
theorem ajj:(ch 0 gG).map (iH r n cells rest 77)=(ch 0 gG).map (iI r n cells rest 77):=by kernel_rfl
theorem ajk:(ch 4 gG).map (iH r n cells rest 77)=(ch 4 gG).map (iI r n cells rest 77):=by kernel_rfl
theorem ajl:(ch 8 gG).map (iH r n cells rest 77)=(ch 8 gG).map (iI r n cells rest 77):=by kernel_rfl
theorem ael:(ch 12 gG).map (iH r n cells rest 77)=(ch 12 gG).map (iI r n cells rest 77):=by kernel_rfl
theorem aem:(ch 16 gG).map (iH r n cells rest 77)=(ch 16 gG).map (iI r n cells rest 77):=by kernel_rfl
theorem aen:(ch 20 gG).map (iH r n cells rest 77)=(ch 20 gG).map (iI r n cells rest 77):=by kernel_rfl
theorem aeo:(ch 24 gG).map (iH r n cells rest 77)=(ch 24 gG).map (iI r n cells rest 77):=by kernel_rfl
theorem aep:(ch 28 gG).map (iH r n cells rest 77)=(ch 28 gG).map (iI r n cells rest 77):=by kernel_rfl
theorem aer:(ch 32 gG).map (iH r n cells rest 77)=(ch 32 gG).map (iI r n cells rest 77):=by kernel_rfl
theorem ao2{x:Nat×Nat×Nat}(hx:x∈gG):iH r n cells rest 77 x=iI r n cells rest 77 x:=Cu (bc (ajj r n cells rest) (bc (ajk r n cells rest) (bc (ajl r n cells rest) (bc (ael r n cells rest) (bc (aem r n cells rest) (bc (aen r n cells rest) (bc (aeo r n cells rest) (bc (aep r n cells rest) (bc (aer r n cells rest) (Cv (by decide))))))))))) hx
end
def oA(n:Nat):Option (List AV):=bC (zX [qt n] ⟨0,[]⟩) fun t _=>ek t fun t=>kL t false
theorem nmE{P:Nat->Prop}(h0:P 0)(h1:P 1)(h2:P 2)(h3:P 3)(h4:P 4)(h5:P 5)(h6:P 6)(h7:P 7)(h8:P 8)(h9:P 9)(h10:P 10)(h11:P 11)(h12:P 12)(h13:P 13)(h14:P 14)(h15:P 15)(h16:P 16){n:Nat}(hn:n<17):P n:=by
 rcases n with _|_|_|_|_|_|_|_|_|_|_|_|_|_|_|_|_|n
 all_goals first|assumption|exact absurd hn (ci.mpr (jt 17 n))
section
variable(r n:Nat)(cells:List (Nat×bJ))(rest:aa)
def pG(i:Nat):Option (AV×AS):=vT r n cells (lF [.ref 0] ⟨1,[(0,.orc 1021 (fF i++rest))]⟩)
def pH(i:Nat):Option (AV×AS):=Je r n cells rest [qt i] (aim i)
def Az(i l:Nat):Option (AV×AS):=vT r n cells (lF [.ref 0] ⟨1,[(0,.orc 1021 (gE i l++rest))]⟩)
def AA(i l:Nat):Option (AV×AS):=Je r n cells rest [] (aiN i l)
def AC(i l:Nat)(p:AV):Option (List AV):=uR (.frz cp gg (ke i l p)) false
theorem aqp:oA 0=some (fF 0):=by kernel_rfl
theorem aqf:pG r n cells rest 0=pH r n cells rest 0:=by kernel_rfl
theorem aqq:oA 1=some (fF 1):=by kernel_rfl
theorem aqg:pG r n cells rest 1=pH r n cells rest 1:=by kernel_rfl
theorem aqr:oA 2=some (fF 2):=by kernel_rfl
theorem aqh:pG r n cells rest 2=pH r n cells rest 2:=by kernel_rfl
theorem aqs:oA 3=some (fF 3):=by kernel_rfl
theorem aqi:pG r n cells rest 3=pH r n cells rest 3:=by kernel_rfl
theorem aqt:oA 4=some (fF 4):=by kernel_rfl
theorem aqj:pG r n cells rest 4=pH r n cells rest 4:=by kernel_rfl
theorem aqu:oA 5=some (fF 5):=by kernel_rfl
theorem aqk:pG r n cells rest 5=pH r n cells rest 5:=by kernel_rfl
theorem aqv:oA 6=some (fF 6):=by kernel_rfl
theorem aql:pG r n cells rest 6=pH r n cells rest 6:=by kernel_rfl
theorem aqw:oA 7=some (fF 7):=by kernel_rfl
theorem aqm:pG r n cells rest 7=pH r n cells rest 7:=by kernel_rfl
theorem aqx:oA 8=some (fF 8):=by kernel_rfl
theorem aqn:pG r n cells rest 8=pH r n cells rest 8:=by kernel_rfl
theorem aqy:oA 9=some (fF 9):=by kernel_rfl
theorem aqo:pG r n cells rest 9=pH r n cells rest 9:=by kernel_rfl
theorem aoL:oA 10=some (fF 10):=by kernel_rfl
theorem aoE:pG r n cells rest 10=pH r n cells rest 10:=by kernel_rfl
theorem aoM:oA 11=some (fF 11):=by kernel_rfl
theorem aoF:pG r n cells rest 11=pH r n cells rest 11:=by kernel_rfl
theorem aoN:oA 12=some (fF 12):=by kernel_rfl
theorem aoG:pG r n cells rest 12=pH r n cells rest 12:=by kernel_rfl
theorem aoO:oA 13=some (fF 13):=by kernel_rfl
theorem aoH:pG r n cells rest 13=pH r n cells rest 13:=by kernel_rfl
theorem aoP:oA 14=some (fF 14):=by kernel_rfl
theorem aoI:pG r n cells rest 14=pH r n cells rest 14:=by kernel_rfl
theorem aoQ:oA 15=some (fF 15):=by kernel_rfl
theorem aoJ:pG r n cells rest 15=pH r n cells rest 15:=by kernel_rfl
theorem aoR:oA 16=some (fF 16):=by kernel_rfl
theorem aoK:pG r n cells rest 16=pH r n cells rest 16:=by kernel_rfl
theorem nmS{i:Nat}(hi:i<17):oA i=some (fF i):=nmE (P:=fun i=>oA i=some (fF i)) aqp aqq aqr aqs aqt aqu aqv aqw aqx aqy aoL aoM aoN aoO aoP aoQ aoR hi
theorem nmR{i:Nat}(hi:i<17):pG r n cells rest i=pH r n cells rest i:=nmE (P:=fun i=>pG r n cells rest i=pH r n cells rest i) (aqf r n cells rest) (aqg r n cells rest) (aqh r n cells rest) (aqi r n cells rest) (aqj r n cells rest) (aqk r n cells rest) (aql r n cells rest) (aqm r n cells rest) (aqn r n cells rest) (aqo r n cells rest) (aoE r n cells rest) (aoF r n cells rest) (aoG r n cells rest) (aoH r n cells rest) (aoI r n cells rest) (aoJ r n cells rest) (aoK r n cells rest) hi
theorem apd(p:AV):AC 17 0 p=some (gE 17 0):=by kernel_rfl
theorem ao3:Az r n cells rest 17 0=AA r n cells rest 17 0:=by kernel_rfl
theorem ape(l:Nat)(p:AV):AC 17 (l+1) p=some (gE 17 (l+1)):=by kernel_rfl
theorem ao4(l:Nat):Az r n cells rest 17 (l+1)=AA r n cells rest 17 (l+1):=by kernel_rfl
theorem apf(p:AV):AC 18 0 p=some (gE 18 0):=by kernel_rfl
theorem ao5:Az r n cells rest 18 0=AA r n cells rest 18 0:=by kernel_rfl
theorem apg(l:Nat)(p:AV):AC 18 (l+1) p=some (gE 18 (l+1)):=by kernel_rfl
theorem ao6(l:Nat):Az r n cells rest 18 (l+1)=AA r n cells rest 18 (l+1):=by kernel_rfl
theorem aph(p:AV):AC 19 0 p=some (gE 19 0):=by kernel_rfl
theorem ao7:Az r n cells rest 19 0=AA r n cells rest 19 0:=by kernel_rfl
theorem api(l:Nat)(p:AV):AC 19 (l+1) p=some (gE 19 (l+1)):=by kernel_rfl
theorem ao8(l:Nat):Az r n cells rest 19 (l+1)=AA r n cells rest 19 (l+1):=by kernel_rfl
theorem apj(p:AV):AC 20 0 p=some (gE 20 0):=by kernel_rfl
theorem ao9:Az r n cells rest 20 0=AA r n cells rest 20 0:=by kernel_rfl
theorem apk(l:Nat)(p:AV):AC 20 (l+1) p=some (gE 20 (l+1)):=by kernel_rfl
theorem apa(l:Nat):Az r n cells rest 20 (l+1)=AA r n cells rest 20 (l+1):=by kernel_rfl
theorem apl(p:AV):AC 21 0 p=some (gE 21 0):=by kernel_rfl
theorem apb:Az r n cells rest 21 0=AA r n cells rest 21 0:=by kernel_rfl
theorem apm(l:Nat)(p:AV):AC 21 (l+1) p=some (gE 21 (l+1)):=by kernel_rfl
theorem apc(l:Nat):Az r n cells rest 21 (l+1)=AA r n cells rest 21 (l+1):=by kernel_rfl
theorem rnE{P:Nat->Nat->Prop}(h0:P 0 0)(k0: ∀l,P 0 (l+1))(h1:P 1 0)(k1: ∀l,P 1 (l+1))(h2:P 2 0)(k2: ∀l,P 2 (l+1))(h3:P 3 0)(k3: ∀l,P 3 (l+1))(h4:P 4 0)(k4: ∀l,P 4 (l+1)){i:Nat}(hi:i<5)(l:Nat):P i l:=by
 rcases i with _|_|_|_|_|i
 all_goals first|(cases l<;>first|assumption|(first|exact k0 _|exact k1 _|exact k2 _|exact k3 _|exact k4 _))|exact absurd hi (ci.mpr (jt 5 i))
theorem rnS{i:Nat}(hi:i<5)(l:Nat)(p:AV):AC (17+i) l p=some (gE (17+i) l):=rnE (P:=fun i l=>AC (17+i) l p=some (gE (17+i) l)) (apd p) (fun l=>ape l p) (apf p) (fun l=>apg l p) (aph p) (fun l=>api l p) (apj p) (fun l=>apk l p) (apl p) (fun l=>apm l p) hi l
theorem rnR{i:Nat}(hi:i<5)(l:Nat):Az r n cells rest (17+i) l=AA r n cells rest (17+i) l:=rnE (P:=fun i l=>Az r n cells rest (17+i) l=AA r n cells rest (17+i) l) (ao3 r n cells rest) (fun l=>ao4 r n cells rest l) (ao5 r n cells rest) (fun l=>ao6 r n cells rest l) (ao7 r n cells rest) (fun l=>ao8 r n cells rest l) (ao9 r n cells rest) (fun l=>apa r n cells rest l) (apb r n cells rest) (fun l=>apc r n cells rest l) hi l
end
noncomputable def bad:List AV:=[.ref 0]
def rr(lvl:Nat):Bool:=F2 lvl [1,5,10,77]
def itM(lvl i:Nat):List AV:=bif rr lvl then ku lvl (kd lvl i)else bad
def nmM(lv i:Nat):List AV:=bif bw (kd lv i).1 17 then fF (kd lv i).1 else bad
def rnM(i l:Nat):List AV:=bif bw (kd 1 i).1 5 then gE (17+(kd 1 i).1) l else bad
def vW(m x y:Nat):List AV:=bif aj m 1 then itM x y else bif aj m 2 then nmM x y else bif aj m 3 then rnM x y else bad
def iC(ks:ac):List AV:=(Lo ks fun m x y=>some (vW m x y)).getD bad
noncomputable def Yi(r:Rt):Bool:=bif aj r.lvl 1 then cX r.ts.length 2 else aj r.lvl 77&&(r.ts.isEmpty&&aj r.ren 0)
def okC(code:ac):Bool:=(rk code fun lv _=>some (aj (Bk code).lvl lv)).getD false&&Yi (Bk code)
def RZ(code:ac):List AV:=bif okC code then xp iC (FU (Bk code))else bad
def mac(ks:ac):List AV:=bu (motive:=fun _=>List AV) [] (fun m r _=>bif aj m 4 then RZ r else iC ks) ks
theorem lvE{P:Nat->Prop}{x:Nat}(h:rr x=true)(h1:P 1)(h5:P 5)(h10:P 10)(h77:P 77):P x:=by
 have q: ∀{y:Nat},aj x y=true->y=x:=fun h=>(aD h).symm
 have h:F2 x [1,5,10,77]=true:=h
 rw[Jd,Jd,Jd,Jd,show F2 x []=false from rfl,Bool.or_false]at h
 exact rE h (fun h=>q h▸h1) fun h=>rE h (fun h=>q h▸h5) fun h=>rE h (fun h=>q h▸h10) fun h=>q h▸h77
theorem Yc{α:Type}{l:List α}: ∀{i:Nat} {x:α},Ql l i=some x->x∈l:=by
 induction l with
 |nil=>exact fun h=>nn h
 |cons a l ih=>
  intro i x h
  cases i with
  |zero=>exact s1 (P:=fun x=>x∈a::l) h (bf ..)
  |succ i=>exact aQ _ (ih h)
theorem Vh(lvl i:Nat):kd lvl i∈kT lvl:=by
 unfold kd
 cases h:Ql (kT lvl) i with
 |some x=>exact Yc h
 |none=>
  have: ∃x,Ql (kT lvl) 0=some x:=by
   unfold kT
   cases aj lvl 1
   ·cases aj lvl 5
    ·cases aj lvl 10<;>exact⟨_,rfl⟩
    ·exact⟨_,rfl⟩
   ·exact⟨_,rfl⟩
  obtain⟨x,hx⟩:=this
  rw[hx];exact Yc hx
theorem Jn{a:AV}{l:aa}:dj (a::l)=((mV a fun c _ _=>some (!aj c 0)).getD false&&dj l):=rfl
theorem lr{l m:aa}:dj (l++m)=(dj l&&dj m):=oM
theorem EH{a:Bool}{l:List (List Nat×List Nat×Nat)}: ∀{c:Nat} {a:Bool},dj (wK a c l)=true:=by
 induction l with
 |nil=>exact rfl
 |cons x l ih=>exact fun{c a}=>show(true&&dj (wK false (c+x.2.2) l))=true from ih
theorem acn{a:AV}(h:(mV a fun c _ _=>some (!aj c 0)).getD false=true)(mac:List Nat->List AV)(r:aa):xp mac (a::r)=a::xp mac r/\HM a=false:=Vz (Q:=fun a=>xp mac (a::r)=a::xp mac r/\HM a=false) h fun c ks vs h=>⟨by rw[ES,h];rfl,show(aj c 0&&CM ks)=false by rw[h];rfl⟩
theorem ER{mac:List Nat->List AV}{l m:aa}:dj l=true->xp mac (l++m)=l++xp mac m/\(vk mac m->vk mac (l++m)):=by
 induction l with
 |nil=>exact fun _=>⟨rfl,id⟩
 |cons a l ih=>exact fun h=>aE (Jn▸h) fun h1 h2=>⟨((acn h1 mac (l++m)).1).trans (congrArg (a:: ·) (ih h2).1),fun w=>⟨fun z=>ff ((acn h1 mac []).2.symm.trans z),(ih h2).2 w⟩⟩
theorem zr{P:Prop}(h:aN bad=true):P:=ff h
theorem aas{m x y:Nat}{P:Prop}(h:aN (vW m x y)=true)(k1:m=1->rr x=true->vW m x y=ku x (kd x y)->P)(k2:m=2->(kd x y).1<17->vW m x y=fF (kd x y).1->P)(k3:m=3->(kd 1 x).1<5->vW m x y=gE (17+(kd 1 x).1) y->P):P:=by
 unfold vW at h k1 k2 k3
 cases q:aj m 1 with
 |true=>
  rw[q]at h k1
  unfold itM at h k1
  cases z:rr x with
  |true=>rw[z]at k1;exact k1 (aD q) rfl rfl
  |false=>rw[z]at h;exact zr h
 |false=>
  rw[q]at h k2 k3
  cases q:aj m 2 with
  |true=>
   rw[q]at h k2
   unfold nmM at h k2
   cases z:bw (kd x y).1 17 with
   |true=>rw[z]at k2;exact k2 (aD q) (dh.mp z) rfl
   |false=>rw[z]at h;exact zr h
  |false=>
   rw[q]at h k3
   cases q:aj m 3 with
   |true=>
    rw[q]at h k3
    unfold rnM at h k3
    cases z:bw (kd 1 x).1 5 with
    |true=>rw[z]at k3;exact k3 (aD q) (dh.mp z) rfl
    |false=>rw[z]at h;exact zr h
   |false=>rw[q]at h;exact zr h
theorem Tc{lvl:Nat}{x:Nat×Nat×Nat}:dj (ku lvl x)=true:=EH (a:=false)
theorem aig{m x y:Nat}(h:aN (vW m x y)=true):dj (vW m x y)=true:=aas h (fun _ _ e=>e▸Tc) (fun _ _ e=>e▸EH (a:=false)) fun _ _ e=>e▸EH (a:=false)
theorem XW{ks:ac}(h:aN (iC ks)=true):dj (iC ks)=true:=by
 unfold iC at h ⊢
 cases e:Lo ks fun m x y=>some (vW m x y)with
 |none=>rw[e]at h;exact zr h
 |some l=>
  rw[e]at h
  exact kJ (Q:=fun _=>dj l=true) e fun m ks e=>kJ (Q:=fun _=>dj l=true) e fun x ks e=>kJ (Q:=fun _=>dj l=true) e fun y ks e=>kS e fun _ e=>s1 (P:=fun l=>aN l=true->dj l=true) e aig h
noncomputable def rU(l:List (List Nat)):List AV:=l.map fun ks=>.frz 0 ks []
theorem zO{f:List Nat->List AV}{l:List (List Nat)}{m:aa}:xp f (rU l++m)=xp f (rU l)++xp f m:=by
 induction l with
 |nil=>rfl
 |cons a l ih=>exact(congrArg (f a++ ·) ih).trans (aB ..).symm
theorem abm{l:List (List Nat)}(h:aN (xp iC (rU l))=true):dj (xp iC (rU l))=true:=by
 induction l with
 |nil=>rfl
 |cons a l ih=>
  have h:aN (iC a++xp iC (rU l))=true:=h
  rw[b6]at h
  show dj (iC a++xp iC (rU l))=true
  rw[lr]
  exact aE h fun h1 h2=>by rw[XW h1,ih h2];rfl
theorem tA{mac:List Nat->List AV}{l l':aa}{c:bJ}(h:lL mac l c)(he:xp mac l'=xp mac l)(hw:vk mac l->vk mac l'):lL mac l' c:=by
 obtain⟨w,pre,h⟩:=h
 exact⟨hw w,pre,he.symm▸h⟩
theorem adh{mac:List Nat->List AV}{l l':aa}{c:bJ}(h:lL mac l c)(he:xp mac l=l'++xp mac m):aN l'=true:=by
 obtain⟨w,pre,_,_,h,_⟩:=h
 rw[he,b6]at h
 exact aE h fun h _=>h
theorem ZH{mac:List Nat->List AV}(hm: ∀ks,aN (mac ks)=true->dj (mac ks)=true){ks:ac}{vs l:aa}{c:bJ}(h:lL mac (.frz 0 ks vs::l) c):aN (mac ks)=true/\lL mac (mac ks++l) c:=
 have hn:aN (mac ks)=true:=adh (m:=l) h rfl
 have hp:=ER (mac:=mac) (m:=l) (hm ks hn)
 ⟨hn,tA h hp.1 fun w=>hp.2 w.2⟩
theorem Tq{m:Nat}{r:ac}:mac (m::r)=bif aj m 4 then RZ r else iC (m::r):=rfl
noncomputable def Hi(lvl:Nat)(l:Lf):List (List Nat):=[1,lvl,l.i]::(bif l.c then[[2,lvl,l.i]]else[])
noncomputable def abX(t:Tn):List (List Nat):=match t with
 | .leaf l=>Hi 5 l
 | .grp g a=>Hi 5 g++Hi 10 a
 | .grp2 g a b=>Hi 5 g++(Hi 10 a++Hi 10 b)
def abY(ts:List Tn):List (List Nat):=bu (motive:=fun _=>List (List Nat)) [] (fun t _ ih=>abX t++ih) ts
noncomputable def enN(i n:Nat):List (List Nat):=hH (motive:=fun _=>List (List Nat)) [] (fun l _=>[[3,i,l]]) n
def agq(r:Rt):List (List Nat):=Hi r.lvl r.it++(abY r.ts++enN r.it.i r.ren)
theorem kK{l m:List (List Nat)}:rU (l++m)=rU l++rU m:=br
theorem uj(lvl:Nat)(l:Lf):CC lvl l=rU (Hi lvl l):=by
 obtain⟨i,c⟩:=l
 cases c<;>rfl
theorem agt(t:Tn):ags t=rU (abX t):=by
 cases t with
 |leaf l=>exact uj 5 l
 |grp g a=>exact(congr (congrArg _ (uj 5 g)) (uj 10 a)).trans kK.symm
 |grp2 g a b=>exact(congr (congrArg _ (uj 5 g)) ((congr (congrArg _ (uj 10 a)) (uj 10 b)).trans kK.symm)).trans kK.symm
theorem adn(ts:List Tn):U4 ts=rU (abY ts):=by
 induction ts with
 |nil=>rfl
 |cons t ts ih=>exact(congr (congrArg _ (agt t)) ih).trans kK.symm
theorem NL(r:Rt):FU r=rU (agq r):=by
 have h:agr r=rU (enN r.it.i r.ren):=by
  obtain⟨lv,it,ts,n⟩:=r
  cases n<;>rfl
 exact(congr (congrArg _ (uj _ _)) ((congr (congrArg _ (adn _)) h).trans kK.symm)).trans kK.symm
theorem Vn: ∀ks,aN (mac ks)=true->dj (mac ks)=true:=by
 intro ks h
 cases ks with
 |nil=>rfl
 |cons m r=>
  rw[Tq]at h ⊢
  cases q:aj m 4 with
  |true=>
   rw[q]at h
   have h:aN (RZ r)=true:=h
   show dj (RZ r)=true
   unfold RZ at h ⊢
   cases z:okC r with
   |true=>
    rw[z]at h
    have h:aN (xp iC (FU (Bk r)))=true:=h
    show dj (xp iC (FU (Bk r)))=true
    rw[NL]at h ⊢
    exact abm h
   |false=>rw[z]at h;exact zr h
  |false=>rw[q]at h;exact XW h
section
variable{C:PC}{kF:Nat}{f:ah}(R:qk C mac bx VB)
include R
theorem xO{ks:ac}{vs l:aa}{c:bJ}(h:C.conc 1021 (.frz 0 ks vs::l) c):aN (mac ks)=true/\C.conc 1021 (mac ks++l) c:=
 (ZH Vn ((R.rdr _ _).mp h)).imp id (R.rdr _ _).mpr
end
theorem ahY{σ:AS}{r:Nat}{CY L:aa}{PI:aW}(hr:σ.get r=some (.orc 1021 CY)):ur wM PI [.ref r] (σ.set r (.orc 1021 L))=vT r σ.next (lx r (.orc 1021 L) σ.cells) (PI [.ref 0] ⟨1,[(0,.orc 1021 L)]⟩):=by
 show ob ((σ.set r (.orc 1021 L)).get r) _=_
 rw[eA hr];rfl
theorem KW{r n:Nat}{cells:List (Nat×bJ)}{c:bJ}{l cd:aa}{f:AV->AV->List AV}:Je r n (lx r c cells) l cd f=Je r n cells l cd f:=by
 unfold Je;rw[oF]
@[elab_as_elim] theorem aat {β:Type} {t:AV} {f:List Nat->Option β} {x:β} {Q:AV->Prop} (e:ack t f=some x) (kk: ∀ks vs,f ks=some x->Q (.frz 0 ks vs)):Q t:=
 tb e fun c ks vs e=>kS e fun q e=>by rw[aD q];exact kk ks vs e
@[elab_as_elim] theorem VZ {β:Type} {ks:ac} {f:Nat->Nat->Nat->Option β} {x:β} {Q:List Nat->Prop} (e:Lo ks f=some x) (kk: ∀a b c,f a b c=some x->Q [a,b,c]):Q ks:=
 kJ e fun a r e=>kJ (Q:=fun r=>Q (a::r)) e fun b r e=>kJ (Q:=fun r=>Q (a::b::r)) e fun c r e=>kS e fun z e=>by rw[PS z];exact kk a b c e
theorem aes{σ:AS}{r:Nat}{CY l:aa}{m x y:Nat}(hr:σ.get r=some (.orc 1021 CY))(h:aN (vW m x y)=true):qK [.ref r] (σ.set r (.orc 1021 (vW m x y++l)))=ajn σ r l m x y:=by
 refine(ahY hr).trans ?_
 refine aas h (fun h1 h2 e=> ?_) (fun h1 h2 e=> ?_) fun h1 h2 e=> ?_
 ·rw[e,h1]
  show _=Je r σ.next σ.cells l [] (fun a b=>XK x y a b .none)
  refine yJ ?_ (KW (c:=.orc 1021 (ku x (kd x y)++l)))
  exact lvE (P:=fun x=>kd x y∈kT x->iH r σ.next _ l x (kd x y)=iI r σ.next _ l x (kd x y)) h2 (fun h=>aqD _ _ _ _ h) (fun h=>aqE _ _ _ _ h) (fun h=>ao1 _ _ _ _ h) (fun h=>ao2 _ _ _ _ h) (Vh x y)
 ·rw[e,h1]
  show _=Je r σ.next σ.cells l [qt (kd x y).1] (aim (kd x y).1)
  exact(nmR _ _ _ _ h2).trans KW
 ·rw[e,h1]
  show _=Je r σ.next σ.cells l [] (aiN (17+(kd 1 x).1) y)
  exact(rnR _ _ _ _ h2 y).trans KW
theorem Qg{m x y:Nat}(h:aj m 4=false):mac [m,x,y]=vW m x y:=by rw[Tq,h];rfl
theorem Rp{C:PC}{kF:Nat}{f:ah}(R:qk C mac bx VB)(hF:aF C kF f qK):aF C kF f wz:=pJ hF fun args σ a ai e=>n7 e fun r as L hr e=>Ar e fun e=>by
 revert hr
 refine kJ e fun t l e=> ?_
 refine aat e fun ks vs e=> ?_
 refine VZ e fun m x y e hr=> ?_
 have h4:aj m 4=false:=by
  cases z:aj m 4 with
  |false=>rfl
  |true=>rw[aD z]at e;exact nn e
 refine⟨r,1021,_,hr,fun hc _=>⟨mac [m,x,y]++l,fun c h=>(xO R h).2,?_⟩⟩
 obtain⟨c,hc⟩:=hc
 have h:=(xO R hc).1
 rw[Qg h4]at h ⊢
 exact(aes hr h).trans e
section
variable{σ:AS}{r:Nat}{l:aa}
theorem aaH(hr:σ.get r=some (.orc 1021 l)){F:aW}:fm dr F gP (.ref r) σ=some F:=jm (show FQ (.ref r) σ=some 1021 from jm hr)
theorem Yu(hr:σ.get r=some (.orc 1021 l)){o:Option AV}(h:jL l 0=some o):Iq [.ref r] σ=some (o.getD .none,σ):=by
 have h1:rd σ r=some l:=jm hr
 have h2:Iq [.ref r] σ=ob (jL l 0) fun o=>some (od o some (some .none)|>.getD .none,σ):=jm h1
 rw[h2,h,b9,Vu]
theorem ab8(hr:σ.get r=some (.orc 1021 l))(h:jL l 0=some none):jW [.ref r] σ=some (.bool false,σ):=by
 have hp:=Yu hr h
 show ob (jX [.ref r] σ) ir=_
 simp only[jX,yZ,dk,fH,eJ,bk,kI,pg,fq,ae,aX,b9,aaH hr,cq,hp,tN,dF,sD,sE,putN,ej,Ev,wL,fD,akT,d5,I5,S8,eD,iT,dH,gA]
theorem ab9(hr:σ.get r=some (.orc 1021 l)){t:AV}{w:ac}(h:jL l 0=some (some t))(h2:pK 2 t=some (.str w)):jW [.ref r] σ=some (.bool (dm w pY),σ):=by
 have hp:=Yu hr h
 show ob (jX [.ref r] σ) ir=_
 simp only[jX,yZ,dk,fH,eJ,bk,kI,pg,fq,ae,aX,b9,aaH hr,cq,hp,nR,dF,sD,sE,putN,ej,Ev,wL,fD,(j6 (σ:=σ) h2).2.2,d5,I5,(j6 (σ:=σ) h2).2.1,fx,iT,af,gm,(j6 (σ:=σ) h2).1,ZW,dH,gA]
 rfl
end
noncomputable def rq(l:aa):Bool:=l.all fun a=>(mV a fun c _ _=>some (!aj c 0)).getD true
theorem ain{l:aa}:dj l=true->rq l=true:=by
 induction l with
 |nil=>exact fun _=>rfl
 |cons a l ih=>
  refine fun h=>aE (Jn▸h) fun h1 h2=>Vz (Q:=fun a=>rq (a::l)=true) h1 fun c ks vs h=> ?_
  show(!aj c 0&&rq l)=true
  rw[h,ih h2];rfl
theorem aec{l m:aa}:rq (l++m)=(rq l&&rq m):=oM
theorem Q4{mac:List Nat->List AV}{l:aa}:rq l=true->xp mac l=l/\vk mac l:=by
 induction l with
 |nil=>exact fun _=>⟨rfl,trivial⟩
 |cons a l ih=>
  refine fun h=>aE (show((mV a fun c _ _=>some (!aj c 0)).getD true&&rq l)=true from h) fun h1 h2=> ?_
  obtain⟨i1,i2⟩:=ih h2
  by_cases q: ∃c ks vs,a= .frz c ks vs
  ·obtain⟨c,ks,vs,rfl⟩:=q
   have h1:aj c 0=false:=pu h1
   refine⟨by rw[ES,h1,i1];rfl,fun z=> ?_,i2⟩
   have z:(aj c 0&&CM ks)=true:=z
   rw[h1]at z;exact ff z
  ·have:xp mac (a::l)=a::xp mac l/\HM a=false:=by
    cases a<;>first|exact⟨rfl,rfl⟩|exact absurd ⟨_,_,_,rfl⟩ q
   exact⟨this.1.trans (congrArg (a:: ·) i1),fun z=>ff (this.2.symm.trans z),i2⟩
theorem aio{l:aa}:aN (xp mac l)=true->rq (xp mac l)=true:=by
 induction l with
 |nil=>exact fun _=>rfl
 |cons a l ih=>
  intro h
  by_cases q: ∃c ks vs,a= .frz c ks vs
  ·obtain⟨c,ks,vs,rfl⟩:=q
   rw[ES]at h ⊢
   cases z:aj c 0 with
   |true=>
    rw[z]at h
    have h:aN (mac ks++xp mac l)=true:=h
    show rq (mac ks++xp mac l)=true
    rw[b6]at h
    rw[aec]
    exact aE h fun h1 h2=>by rw[ain (Vn ks h1),ih h2];rfl
   |false=>
    rw[z]at h
    have h:(noRef (.frz c ks vs)&&aN (xp mac l))=true:=h
    show(!aj c 0&&rq (xp mac l))=true
    rw[z]
    exact aE h fun _ h2=>ih h2
  ·have:xp mac (a::l)=a::xp mac l/\rq (a::xp mac l)=rq (xp mac l):=by
    cases a<;>first|exact⟨rfl,rfl⟩|exact absurd ⟨_,_,_,rfl⟩ q
   rw[this.1]at h ⊢
   exact this.2.trans (aE (show(noRef a&&aN (xp mac l))=true from h) fun _ h2=>ih h2)
theorem Vp{l:aa}(h:EE l=true)(hm:rq l=true):jL l 0=some none\/ ∃t w,jL l 0=some (some t)/\pK 2 t=some (.str w)/\dm w pY=false:=by
 cases l with
 |nil=>exact .inl rfl
 |cons t l=>
  have h:(ob (pK 2 t) fun v=>ek v fun w=>some (!dm w pY)).getD false=true:=h
  generalize e:ob (pK 2 t) _=o at h
  cases o with
  |none=>exact ff h
  |some b=>
   refine oE e fun v hv e=> ?_
   revert hv
   refine fT e fun w e hv=> ?_
   have hw:dm w pY=false:=pu ((aH e).trans h)
   refine .inr ⟨t,w,?_,hv,hw⟩
   refine tb (Q:=fun t=>rq (t::l)=true->jL (t::l) 0=some (some t)) hv (fun c ks vs _ hm=> ?_) hm
   have hc:aj c 0=false:=aE (show(!aj c 0&&rq l)=true from hm) fun h _=>pu h
   show(bif aj c 0 then _ else _)=_
   rw[hc];rfl
theorem aea{m x y:Nat}(h:aN (vW m x y)=true)(l:aa): ∃t,jL (vW m x y++l) 0=some (some t)/\pK 2 t=some (.str pY):=aas h (fun _ _ e=>e▸⟨_,rfl,rfl⟩) (fun _ _ e=>e▸⟨_,rfl,rfl⟩) fun _ _ e=>e▸⟨_,rfl,rfl⟩
section
variable{C:PC}{kF:Nat}{f:ah}(R:qk C mac bx VB)
include R
theorem SN{l:aa}{c:bJ}(h:C.conc 1021 l c):rq (xp mac l)=true/\C.conc 1021 (xp mac l) c:=by
 have h:=(R.rdr _ _).mp h
 have hn:aN (xp mac l)=true:=by obtain⟨_,_,_,_,h,_⟩:=h;exact h
 have hm:=aio hn
 exact⟨hm,(R.rdr _ _).mpr (tA h (Q4 hm).1 fun _=>(Q4 hm).2)⟩
omit R in
theorem F8{F F':aW}(hF:aF C kF f F)(H: ∀args σ a ai,F' args σ=some (a,ai)-> ∃r kk l,σ.get r=some (.orc kk l)/\((∃c,C.conc kk l c)-> ∃bD dP gY,(∀c,C.conc kk l c->C.conc kk bD c)/\F args (σ.set r (.orc kk bD))=some (a,σ.set r (.orc kk dP))/\(∀c,C.conc kk dP c->C.conc kk gY c)/\ai=σ.set r (.orc kk gY))):aF C kF f F':=fun A Rm W σ s args vs Re hv tk a ai e=>by
 refine Xo (H args σ a ai e) fun r kk l hr h1=> ?_
 obtain⟨p,a1,⟨c,q1,q2⟩,_⟩:=Re.cell r _ hr
 refine Xq (h1 ⟨c,q1⟩) fun bD dP gY h1 e1 h2 h3=> ?_
 have hc:d4 C W s.heap p (.orc kk bD):=⟨c,h1 c q1,q2⟩
 refine eC (hF A Rm W _ s args vs (Re.set hr a1 (fun _ _ _ e=>e) hc) hv tk a _ e1) fun v s' ⟨hs,W',le,R',hv'⟩=>⟨hs,W',le,?_,hv'⟩
 have e2:(σ.set r (.orc kk dP)).get r=some (.orc kk dP):=eA hr
 obtain⟨p,a1,⟨c,q1,q2⟩,_⟩:=R'.cell r _ e2
 have hc:d4 C W' s'.heap p (.orc kk gY):=⟨c,h2 c q1,q2⟩
 have R3:=R'.set e2 a1 (fun _ _ _ e=>e) hc
 rw[h3,show σ.set r (.orc kk gY)=(σ.set r (.orc kk dP)).set r (.orc kk gY) from congrArg (AS.mk σ.next) (oF ..).symm]
 exact R3
theorem Qc{F:aW}{r:Nat}{σ ai:AS}{a b:AV}{l bD:aa}(hr:σ.get r=some (.orc 1021 l))(e:some (b,σ)=some (a,ai))(h: ∀c,C.conc 1021 l c->C.conc 1021 bD c)(he:xp mac bD=xp mac l)(hc: ∃c,C.conc 1021 l c)(hF:F [.ref r] (σ.set r (.orc 1021 bD))=some (b,σ.set r (.orc 1021 bD))):
  ∃bD dP gY,(∀c,C.conc 1021 l c->C.conc 1021 bD c)/\F [.ref r] (σ.set r (.orc 1021 bD))=some (a,σ.set r (.orc 1021 dP))/\(∀c,C.conc 1021 dP c->C.conc 1021 gY c)/\ai=σ.set r (.orc 1021 gY):=by
 apply s2 e
 obtain⟨c,hc⟩:=hc
 exact⟨bD,bD,l,h,hF,fun c h=>(R.rdr _ _).mpr (tA ((R.rdr _ _).mp h) he.symm fun _=>((R.rdr _ _).mp hc).1),(EN hr).symm⟩
theorem Kk(hF:aF C kF f jW):aF C kF f qf:=F8 hF fun args σ a ai e=>n7 e fun r as L hr e=>Ar e fun e=>⟨r,1021,L,hr,fun hc=>by
 cases L with
 |nil=>exact Qc R hr e (fun _ h=>h) rfl hc (ab8 (eA hr) rfl)
 |cons t l=>
  revert hr hc
  refine aat e fun ks vs e=> ?_
  intro hr hc
  obtain⟨c,hc'⟩:=hc
  refine bE e (fun z e=> ?_) fun z e=> ?_
  ·have hz:=PS z
   subst hz
   obtain⟨hm,_⟩:=SN R hc'
   have hx:xp mac (xp mac (.frz 0 [] vs::l))=xp mac (.frz 0 [] vs::l):=(Q4 hm).1
   have hn:EE (xp mac (.frz 0 [] vs::l))=true:=((R.rdr _ _).mp hc').1.1 rfl
   refine Qc R hr e (fun c h=>(SN R h).2) hx ⟨c,hc'⟩ ?_
   rcases Vp hn hm with h|⟨t,w,h1,h2,h3⟩
   ·exact ab8 (eA hr) h
   ·rw[<- h3];exact ab9 (eA hr) h1 h2
  ·revert hr hc'
   refine VZ e fun m x y e=>kS e fun z e hr hc'=> ?_
   have h4:aj m 4=false:=by
    cases q:aj m 4 with
    |false=>rfl
    |true=>rw[aD q]at z;exact ff z
   obtain⟨h1,h2⟩:=xO R hc'
   have hx:xp mac (mac [m,x,y]++l)=xp mac (.frz 0 [m,x,y] vs::l):=(ER (Vn _ h1)).1
   refine Qc R hr e (fun c h=>(xO R h).2) hx ⟨c,hc'⟩ ?_
   rw[Qg h4]at h1 ⊢
   refine eX (aea h1 l) fun t h3 h4=> ?_
   exact ab9 (eA hr) h3 h4⟩
end
def eF(lv i0:Nat)(c:Bool)(n:Nat)(l:aa)(ts:List Tn):Option (AV×Nat×List AV):=bC (xr [.ref 0] ⟨1,[(0,.orc 1021 (FU ⟨lv,⟨i0,c⟩,ts,n⟩++YN::l))]⟩) fun a σ=>sC σ 0 fun k l'=>some (a,k,l')
def eG(lv i0:Nat)(c:Bool)(n:Nat)(l:aa)(ts:List Tn):Option (AV×Nat×List AV):=some (.lst [d9 ⟨lv,⟨i0,c⟩,ts,n⟩],1021,YN::l)
noncomputable def S14(i j k:Nat):List Tn:=[.leaf ⟨i,false⟩,.leaf ⟨i,true⟩,.grp ⟨i,false⟩ ⟨j,false⟩,.grp ⟨i,false⟩ ⟨j,true⟩,.grp ⟨i,true⟩ ⟨j,false⟩,.grp ⟨i,true⟩ ⟨j,true⟩,.grp2 ⟨i,false⟩ ⟨j,false⟩ ⟨k,false⟩,.grp2 ⟨i,false⟩ ⟨j,false⟩ ⟨k,true⟩,.grp2 ⟨i,false⟩ ⟨j,true⟩ ⟨k,false⟩,.grp2 ⟨i,false⟩ ⟨j,true⟩ ⟨k,true⟩,.grp2 ⟨i,true⟩ ⟨j,false⟩ ⟨k,false⟩,.grp2 ⟨i,true⟩ ⟨j,false⟩ ⟨k,true⟩,.grp2 ⟨i,true⟩ ⟨j,true⟩ ⟨k,false⟩,.grp2 ⟨i,true⟩ ⟨j,true⟩ ⟨k,true⟩]
def SF(i0:Nat)(c:Bool)(n:Nat)(l:aa)(i j k:Nat)(p:Tn->List Tn):Prop:=(S14 i j k).map (fun t=>eF 1 i0 c n l (p t))=(S14 i j k).map (fun t=>eG 1 i0 c n l (p t))
section
variable(i0 e:Nat)(l:aa)(a b d i j k:Nat)
theorem an6:eF 1 i0 false 0 l []=eG 1 i0 false 0 l []:=by kernel_rfl
theorem aoa:SF i0 false 0 l i j k (fun t=>[t]):=by unfold SF;kernel_rfl
theorem agB:SF i0 false 0 l i j k (fun t=>[.leaf ⟨a,false⟩,t]):=by unfold SF;kernel_rfl
theorem agC:SF i0 false 0 l i j k (fun t=>[.leaf ⟨a,true⟩,t]):=by unfold SF;kernel_rfl
theorem agD:SF i0 false 0 l i j k (fun t=>[.grp ⟨a,false⟩ ⟨b,false⟩,t]):=by unfold SF;kernel_rfl
theorem agE:SF i0 false 0 l i j k (fun t=>[.grp ⟨a,false⟩ ⟨b,true⟩,t]):=by unfold SF;kernel_rfl
theorem agF:SF i0 false 0 l i j k (fun t=>[.grp ⟨a,true⟩ ⟨b,false⟩,t]):=by unfold SF;kernel_rfl
theorem agG:SF i0 false 0 l i j k (fun t=>[.grp ⟨a,true⟩ ⟨b,true⟩,t]):=by unfold SF;kernel_rfl
theorem agH:SF i0 false 0 l i j k (fun t=>[.grp2 ⟨a,false⟩ ⟨b,false⟩ ⟨d,false⟩,t]):=by unfold SF;kernel_rfl
theorem agI:SF i0 false 0 l i j k (fun t=>[.grp2 ⟨a,false⟩ ⟨b,false⟩ ⟨d,true⟩,t]):=by unfold SF;kernel_rfl
theorem agJ:SF i0 false 0 l i j k (fun t=>[.grp2 ⟨a,false⟩ ⟨b,true⟩ ⟨d,false⟩,t]):=by unfold SF;kernel_rfl
theorem agK:SF i0 false 0 l i j k (fun t=>[.grp2 ⟨a,false⟩ ⟨b,true⟩ ⟨d,true⟩,t]):=by unfold SF;kernel_rfl
theorem ads:SF i0 false 0 l i j k (fun t=>[.grp2 ⟨a,true⟩ ⟨b,false⟩ ⟨d,false⟩,t]):=by unfold SF;kernel_rfl
theorem adt:SF i0 false 0 l i j k (fun t=>[.grp2 ⟨a,true⟩ ⟨b,false⟩ ⟨d,true⟩,t]):=by unfold SF;kernel_rfl
theorem adu:SF i0 false 0 l i j k (fun t=>[.grp2 ⟨a,true⟩ ⟨b,true⟩ ⟨d,false⟩,t]):=by unfold SF;kernel_rfl
theorem adv:SF i0 false 0 l i j k (fun t=>[.grp2 ⟨a,true⟩ ⟨b,true⟩ ⟨d,true⟩,t]):=by unfold SF;kernel_rfl
theorem an7:eF 1 i0 false (e+1) l []=eG 1 i0 false (e+1) l []:=by kernel_rfl
theorem aob:SF i0 false (e+1) l i j k (fun t=>[t]):=by unfold SF;kernel_rfl
theorem agL:SF i0 false (e+1) l i j k (fun t=>[.leaf ⟨a,false⟩,t]):=by unfold SF;kernel_rfl
theorem agM:SF i0 false (e+1) l i j k (fun t=>[.leaf ⟨a,true⟩,t]):=by unfold SF;kernel_rfl
theorem agN:SF i0 false (e+1) l i j k (fun t=>[.grp ⟨a,false⟩ ⟨b,false⟩,t]):=by unfold SF;kernel_rfl
theorem agO:SF i0 false (e+1) l i j k (fun t=>[.grp ⟨a,false⟩ ⟨b,true⟩,t]):=by unfold SF;kernel_rfl
theorem agP:SF i0 false (e+1) l i j k (fun t=>[.grp ⟨a,true⟩ ⟨b,false⟩,t]):=by unfold SF;kernel_rfl
theorem agQ:SF i0 false (e+1) l i j k (fun t=>[.grp ⟨a,true⟩ ⟨b,true⟩,t]):=by unfold SF;kernel_rfl
theorem agR:SF i0 false (e+1) l i j k (fun t=>[.grp2 ⟨a,false⟩ ⟨b,false⟩ ⟨d,false⟩,t]):=by unfold SF;kernel_rfl
theorem agS:SF i0 false (e+1) l i j k (fun t=>[.grp2 ⟨a,false⟩ ⟨b,false⟩ ⟨d,true⟩,t]):=by unfold SF;kernel_rfl
theorem agT:SF i0 false (e+1) l i j k (fun t=>[.grp2 ⟨a,false⟩ ⟨b,true⟩ ⟨d,false⟩,t]):=by unfold SF;kernel_rfl
theorem agU:SF i0 false (e+1) l i j k (fun t=>[.grp2 ⟨a,false⟩ ⟨b,true⟩ ⟨d,true⟩,t]):=by unfold SF;kernel_rfl
theorem adw:SF i0 false (e+1) l i j k (fun t=>[.grp2 ⟨a,true⟩ ⟨b,false⟩ ⟨d,false⟩,t]):=by unfold SF;kernel_rfl
theorem adx:SF i0 false (e+1) l i j k (fun t=>[.grp2 ⟨a,true⟩ ⟨b,false⟩ ⟨d,true⟩,t]):=by unfold SF;kernel_rfl
theorem ady:SF i0 false (e+1) l i j k (fun t=>[.grp2 ⟨a,true⟩ ⟨b,true⟩ ⟨d,false⟩,t]):=by unfold SF;kernel_rfl
theorem adz:SF i0 false (e+1) l i j k (fun t=>[.grp2 ⟨a,true⟩ ⟨b,true⟩ ⟨d,true⟩,t]):=by unfold SF;kernel_rfl
theorem ap2:eF 77 i0 false 0 l []=eG 77 i0 false 0 l []:=by kernel_rfl
theorem an8:eF 1 i0 true 0 l []=eG 1 i0 true 0 l []:=by kernel_rfl
theorem aoc:SF i0 true 0 l i j k (fun t=>[t]):=by unfold SF;kernel_rfl
theorem agV:SF i0 true 0 l i j k (fun t=>[.leaf ⟨a,false⟩,t]):=by unfold SF;kernel_rfl
theorem agW:SF i0 true 0 l i j k (fun t=>[.leaf ⟨a,true⟩,t]):=by unfold SF;kernel_rfl
theorem agX:SF i0 true 0 l i j k (fun t=>[.grp ⟨a,false⟩ ⟨b,false⟩,t]):=by unfold SF;kernel_rfl
theorem agY:SF i0 true 0 l i j k (fun t=>[.grp ⟨a,false⟩ ⟨b,true⟩,t]):=by unfold SF;kernel_rfl
theorem agZ:SF i0 true 0 l i j k (fun t=>[.grp ⟨a,true⟩ ⟨b,false⟩,t]):=by unfold SF;kernel_rfl
theorem ag0:SF i0 true 0 l i j k (fun t=>[.grp ⟨a,true⟩ ⟨b,true⟩,t]):=by unfold SF;kernel_rfl
theorem ag1:SF i0 true 0 l i j k (fun t=>[.grp2 ⟨a,false⟩ ⟨b,false⟩ ⟨d,false⟩,t]):=by unfold SF;kernel_rfl
theorem ag2:SF i0 true 0 l i j k (fun t=>[.grp2 ⟨a,false⟩ ⟨b,false⟩ ⟨d,true⟩,t]):=by unfold SF;kernel_rfl
theorem ag3:SF i0 true 0 l i j k (fun t=>[.grp2 ⟨a,false⟩ ⟨b,true⟩ ⟨d,false⟩,t]):=by unfold SF;kernel_rfl
theorem ag4:SF i0 true 0 l i j k (fun t=>[.grp2 ⟨a,false⟩ ⟨b,true⟩ ⟨d,true⟩,t]):=by unfold SF;kernel_rfl
theorem adA:SF i0 true 0 l i j k (fun t=>[.grp2 ⟨a,true⟩ ⟨b,false⟩ ⟨d,false⟩,t]):=by unfold SF;kernel_rfl
theorem adB:SF i0 true 0 l i j k (fun t=>[.grp2 ⟨a,true⟩ ⟨b,false⟩ ⟨d,true⟩,t]):=by unfold SF;kernel_rfl
theorem adC:SF i0 true 0 l i j k (fun t=>[.grp2 ⟨a,true⟩ ⟨b,true⟩ ⟨d,false⟩,t]):=by unfold SF;kernel_rfl
theorem adE:SF i0 true 0 l i j k (fun t=>[.grp2 ⟨a,true⟩ ⟨b,true⟩ ⟨d,true⟩,t]):=by unfold SF;kernel_rfl
theorem an9:eF 1 i0 true (e+1) l []=eG 1 i0 true (e+1) l []:=by kernel_rfl
theorem aod:SF i0 true (e+1) l i j k (fun t=>[t]):=by unfold SF;kernel_rfl
theorem ag5:SF i0 true (e+1) l i j k (fun t=>[.leaf ⟨a,false⟩,t]):=by unfold SF;kernel_rfl
theorem ag6:SF i0 true (e+1) l i j k (fun t=>[.leaf ⟨a,true⟩,t]):=by unfold SF;kernel_rfl
theorem ag7:SF i0 true (e+1) l i j k (fun t=>[.grp ⟨a,false⟩ ⟨b,false⟩,t]):=by unfold SF;kernel_rfl
theorem ag8:SF i0 true (e+1) l i j k (fun t=>[.grp ⟨a,false⟩ ⟨b,true⟩,t]):=by unfold SF;kernel_rfl
theorem ag9:SF i0 true (e+1) l i j k (fun t=>[.grp ⟨a,true⟩ ⟨b,false⟩,t]):=by unfold SF;kernel_rfl
theorem aha:SF i0 true (e+1) l i j k (fun t=>[.grp ⟨a,true⟩ ⟨b,true⟩,t]):=by unfold SF;kernel_rfl
theorem ahb:SF i0 true (e+1) l i j k (fun t=>[.grp2 ⟨a,false⟩ ⟨b,false⟩ ⟨d,false⟩,t]):=by unfold SF;kernel_rfl
theorem ahc:SF i0 true (e+1) l i j k (fun t=>[.grp2 ⟨a,false⟩ ⟨b,false⟩ ⟨d,true⟩,t]):=by unfold SF;kernel_rfl
theorem ahd:SF i0 true (e+1) l i j k (fun t=>[.grp2 ⟨a,false⟩ ⟨b,true⟩ ⟨d,false⟩,t]):=by unfold SF;kernel_rfl
theorem ahe:SF i0 true (e+1) l i j k (fun t=>[.grp2 ⟨a,false⟩ ⟨b,true⟩ ⟨d,true⟩,t]):=by unfold SF;kernel_rfl
theorem adF:SF i0 true (e+1) l i j k (fun t=>[.grp2 ⟨a,true⟩ ⟨b,false⟩ ⟨d,false⟩,t]):=by unfold SF;kernel_rfl
theorem adG:SF i0 true (e+1) l i j k (fun t=>[.grp2 ⟨a,true⟩ ⟨b,false⟩ ⟨d,true⟩,t]):=by unfold SF;kernel_rfl
theorem adH:SF i0 true (e+1) l i j k (fun t=>[.grp2 ⟨a,true⟩ ⟨b,true⟩ ⟨d,false⟩,t]):=by unfold SF;kernel_rfl
theorem adI:SF i0 true (e+1) l i j k (fun t=>[.grp2 ⟨a,true⟩ ⟨b,true⟩ ⟨d,true⟩,t]):=by unfold SF;kernel_rfl
theorem ap3:eF 77 i0 true 0 l []=eG 77 i0 true 0 l []:=by kernel_rfl
end
theorem tnE{P:Tn->Prop}(h0: ∀i,P (.leaf ⟨i,false⟩))(h1: ∀i,P (.leaf ⟨i,true⟩))(h2: ∀i j,P (.grp ⟨i,false⟩ ⟨j,false⟩))(h3: ∀i j,P (.grp ⟨i,false⟩ ⟨j,true⟩))(h4: ∀i j,P (.grp ⟨i,true⟩ ⟨j,false⟩))(h5: ∀i j,P (.grp ⟨i,true⟩ ⟨j,true⟩))(h6: ∀i j k,P (.grp2 ⟨i,false⟩ ⟨j,false⟩ ⟨k,false⟩))(h7: ∀i j k,P (.grp2 ⟨i,false⟩ ⟨j,false⟩ ⟨k,true⟩))(h8: ∀i j k,P (.grp2 ⟨i,false⟩ ⟨j,true⟩ ⟨k,false⟩))(h9: ∀i j k,P (.grp2 ⟨i,false⟩ ⟨j,true⟩ ⟨k,true⟩))(h10: ∀i j k,P (.grp2 ⟨i,true⟩ ⟨j,false⟩ ⟨k,false⟩))(h11: ∀i j k,P (.grp2 ⟨i,true⟩ ⟨j,false⟩ ⟨k,true⟩))(h12: ∀i j k,P (.grp2 ⟨i,true⟩ ⟨j,true⟩ ⟨k,false⟩))(h13: ∀i j k,P (.grp2 ⟨i,true⟩ ⟨j,true⟩ ⟨k,true⟩))(t:Tn):P t:=by
 cases t with
 |leaf l=>
  obtain⟨i,c⟩:=l
  cases c
  ·exact h0 i
  ·exact h1 i
 |grp g a=>
  obtain⟨i,c⟩:=g
  obtain⟨j,d⟩:=a
  cases c<;>cases d
  ·exact h2 i j
  ·exact h3 i j
  ·exact h4 i j
  ·exact h5 i j
 |grp2 g a b=>
  obtain⟨i,c⟩:=g
  obtain⟨j,d⟩:=a
  obtain⟨k,e⟩:=b
  cases c<;>cases d<;>cases e
  ·exact h6 i j k
  ·exact h7 i j k
  ·exact h8 i j k
  ·exact h9 i j k
  ·exact h10 i j k
  ·exact h11 i j k
  ·exact h12 i j k
  ·exact h13 i j k
theorem aoy{P:Tn->Prop}(h: ∀i j k,∀t∈S14 i j k,P t)(t:Tn):P t:=tnE (P:=P) (fun i=>h i 0 0 _ (bb (i:=0) rfl)) (fun i=>h i 0 0 _ (bb (i:=1) rfl)) (fun i j=>h i j 0 _ (bb (i:=2) rfl)) (fun i j=>h i j 0 _ (bb (i:=3) rfl)) (fun i j=>h i j 0 _ (bb (i:=4) rfl)) (fun i j=>h i j 0 _ (bb (i:=5) rfl)) (fun i j k=>h i j k _ (bb (i:=6) rfl)) (fun i j k=>h i j k _ (bb (i:=7) rfl)) (fun i j k=>h i j k _ (bb (i:=8) rfl)) (fun i j k=>h i j k _ (bb (i:=9) rfl)) (fun i j k=>h i j k _ (bb (i:=10) rfl)) (fun i j k=>h i j k _ (bb (i:=11) rfl)) (fun i j k=>h i j k _ (bb (i:=12) rfl)) (fun i j k=>h i j k _ (bb (i:=13) rfl)) t
theorem vI{i0:Nat}{c:Bool}{n:Nat}{l:aa}{p:Tn->List Tn}(h: ∀i j k,SF i0 c n l i j k p)(t:Tn):eF 1 i0 c n l (p t)=eG 1 i0 c n l (p t):=aoy (P:=fun t=>eF 1 i0 c n l (p t)=eG 1 i0 c n l (p t)) (fun i j k t ht=>iL.mp (h i j k) t ht) t
section
variable(i0 e:Nat)(l:aa)
theorem an0(s t:Tn):eF 1 i0 false 0 l [s,t]=eG 1 i0 false 0 l [s,t]:=vI (p:=fun t=>[s,t]) (fun i j k=>tnE (P:=fun s=>SF i0 false 0 l i j k (fun t=>[s,t])) (fun a=>agB i0 l a i j k) (fun a=>agC i0 l a i j k) (fun a b=>agD i0 l a b i j k) (fun a b=>agE i0 l a b i j k) (fun a b=>agF i0 l a b i j k) (fun a b=>agG i0 l a b i j k) (fun a b d=>agH i0 l a b d i j k) (fun a b d=>agI i0 l a b d i j k) (fun a b d=>agJ i0 l a b d i j k) (fun a b d=>agK i0 l a b d i j k) (fun a b d=>ads i0 l a b d i j k) (fun a b d=>adt i0 l a b d i j k) (fun a b d=>adu i0 l a b d i j k) (fun a b d=>adv i0 l a b d i j k) s) t
theorem an1(s t:Tn):eF 1 i0 false (e+1) l [s,t]=eG 1 i0 false (e+1) l [s,t]:=vI (p:=fun t=>[s,t]) (fun i j k=>tnE (P:=fun s=>SF i0 false (e+1) l i j k (fun t=>[s,t])) (fun a=>agL i0 e l a i j k) (fun a=>agM i0 e l a i j k) (fun a b=>agN i0 e l a b i j k) (fun a b=>agO i0 e l a b i j k) (fun a b=>agP i0 e l a b i j k) (fun a b=>agQ i0 e l a b i j k) (fun a b d=>agR i0 e l a b d i j k) (fun a b d=>agS i0 e l a b d i j k) (fun a b d=>agT i0 e l a b d i j k) (fun a b d=>agU i0 e l a b d i j k) (fun a b d=>adw i0 e l a b d i j k) (fun a b d=>adx i0 e l a b d i j k) (fun a b d=>ady i0 e l a b d i j k) (fun a b d=>adz i0 e l a b d i j k) s) t
theorem an2(s t:Tn):eF 1 i0 true 0 l [s,t]=eG 1 i0 true 0 l [s,t]:=vI (p:=fun t=>[s,t]) (fun i j k=>tnE (P:=fun s=>SF i0 true 0 l i j k (fun t=>[s,t])) (fun a=>agV i0 l a i j k) (fun a=>agW i0 l a i j k) (fun a b=>agX i0 l a b i j k) (fun a b=>agY i0 l a b i j k) (fun a b=>agZ i0 l a b i j k) (fun a b=>ag0 i0 l a b i j k) (fun a b d=>ag1 i0 l a b d i j k) (fun a b d=>ag2 i0 l a b d i j k) (fun a b d=>ag3 i0 l a b d i j k) (fun a b d=>ag4 i0 l a b d i j k) (fun a b d=>adA i0 l a b d i j k) (fun a b d=>adB i0 l a b d i j k) (fun a b d=>adC i0 l a b d i j k) (fun a b d=>adE i0 l a b d i j k) s) t
theorem an3(s t:Tn):eF 1 i0 true (e+1) l [s,t]=eG 1 i0 true (e+1) l [s,t]:=vI (p:=fun t=>[s,t]) (fun i j k=>tnE (P:=fun s=>SF i0 true (e+1) l i j k (fun t=>[s,t])) (fun a=>ag5 i0 e l a i j k) (fun a=>ag6 i0 e l a i j k) (fun a b=>ag7 i0 e l a b i j k) (fun a b=>ag8 i0 e l a b i j k) (fun a b=>ag9 i0 e l a b i j k) (fun a b=>aha i0 e l a b i j k) (fun a b d=>ahb i0 e l a b d i j k) (fun a b d=>ahc i0 e l a b d i j k) (fun a b d=>ahd i0 e l a b d i j k) (fun a b d=>ahe i0 e l a b d i j k) (fun a b d=>adF i0 e l a b d i j k) (fun a b d=>adG i0 e l a b d i j k) (fun a b d=>adH i0 e l a b d i j k) (fun a b d=>adI i0 e l a b d i j k) s) t
theorem an4{lv i0:Nat}{c:Bool}{ts:List Tn}{n:Nat}(h:(bif aj lv 1 then cX ts.length 2 else aj lv 77&&(ts.isEmpty&&aj n 0))=true)(l:aa):eF lv i0 c n l ts=eG lv i0 c n l ts:=by
 cases q:aj lv 1 with
 |true=>
  rw[q]at h
  rw[aD q]
  cases ts with
  |nil=>
   cases c<;>cases n
   ·exact an6 i0 l
   ·exact an7 i0 _ l
   ·exact an8 i0 l
   ·exact an9 i0 _ l
  |cons s ts=>cases ts with
   |nil=>
    cases c<;>cases n
    ·exact vI (p:=fun t=>[t]) (fun i j k=>aoa i0 l i j k) s
    ·exact vI (p:=fun t=>[t]) (fun i j k=>aob i0 _ l i j k) s
    ·exact vI (p:=fun t=>[t]) (fun i j k=>aoc i0 l i j k) s
    ·exact vI (p:=fun t=>[t]) (fun i j k=>aod i0 _ l i j k) s
   |cons t ts=>cases ts with
    |nil=>
     cases c<;>cases n
     ·exact an0 i0 l s t
     ·exact an1 i0 _ l s t
     ·exact an2 i0 l s t
     ·exact an3 i0 _ l s t
    |cons u ts=>exact absurd (av h) (yN.mpr (be (be (be (aU _)))))
 |false=>
  rw[q]at h
  have h:(aj lv 77&&(ts.isEmpty&&aj n 0))=true:=h
  refine aE h fun h1 h=>aE h fun h2 h3=> ?_
  rw[aD h1,eB.mp h2,aD h3]
  cases c
  ·exact ap2 i0 l
  ·exact ap3 i0 l
end
theorem gZ{a:AV}{l:aa}:aN (a::l)=(noRef a&&aN l):=rfl
theorem X7:aN []=true:=rfl
theorem X8{s:ac}:noRef (.str s)=true:=rfl
theorem X6{i:Int}:noRef (.int i)=true:=rfl
theorem X4{b:Bool}:noRef (.bool b)=true:=rfl
theorem X3:noRef .none=true:=rfl
theorem aco:noRef .opq=true:=rfl
theorem sB{l:aa}:noRef (.lst l)=aN l:=rfl
theorem aoT(p:Nat):noRef (x7 p)=true:=by
 unfold x7
 cases aj p 0
 ·cases aj p 1
  ·cases aj p 2<;>rfl
  ·rfl
 ·rfl
theorem aoS(w:Nat):noRef (Qn w)=true:=by
 unfold Qn
 cases aj w 2
 ·cases aj w 3<;>rfl
 ·rfl
theorem Hx{x:Nat×Nat×Nat}{c k p r:AV}:aN (j9 x c k p r)=(noRef c&&(noRef k&&(noRef p&&noRef r))):=by
 simp only[j9,gZ,X8,X6,X4,X3,aoT,aoS,X7,Bool.true_and,zP]
theorem Hw(lvl:Nat)(l:Lf):noRef (conds lvl l)=true:=by
 obtain⟨i,c⟩:=l
 cases c<;>rfl
theorem qu(lvl:Nat)(l:Lf):noRef (ou lvl l .opq)=true:=by
 show(true&&aN (j9 _ _ _ _ _))=true
 rw[Hx,Hw];rfl
theorem aoU(t:Tn):noRef (sO t)=true:=by
 cases t with
 |leaf l=>exact qu 5 l
 |grp g a=>
  show(true&&aN (j9 _ _ (.lst [ou 10 a .opq]) _ _))=true
  rw[Hx,Hw,sB,gZ,qu];rfl
 |grp2 g a b=>
  show(true&&aN (j9 _ _ (.lst [ou 10 a .opq,ou 10 b .opq]) _ _))=true
  rw[Hx,Hw,sB,gZ,gZ,qu,qu];rfl
theorem NT(ts:List Tn):aN (DL ts)=true:=by
 induction ts with
 |nil=>rfl
 |cons t ts ih=>exact(congr (congrArg (· && ·) (aoU t)) ih)
theorem Vs(r:Rt):aN (qS r)=true:=by
 obtain⟨lv,it,ts,n⟩:=r
 cases n with
 |zero=>rfl
 |succ l=>
  show(aN (ke _ l .opq)&&true)=true
  have:noRef (ye l)=true:=by unfold ye;cases l<;>rfl
  simp only[ke,gZ,X8,X6,X4,X3,aco,sB,this,X7,rC]
theorem ais(r:Rt):aN (Dr r)=true:=by
 unfold Dr
 rw[Hx,Hw,sB,b6,NT,Vs];rfl
theorem K0(r:Rt):noRef (d9 r)=true:=by
 show(true&&aN (Dr r))=true
 rw[ais];rfl
theorem XJ{pick:AV->AS->List Nat}{F:aW}{σ:AS}{r k:Nat}{L:aa}(hr:σ.get r=some (.orc k L)):ur pick F [.ref r] σ=bC (F [.ref 0] ⟨1,[(0,.orc k L)]⟩) fun a ai=>sC ai 0 fun k' l'=>bif F1 0 (pick a ai)then none else imp (XN r σ.next (pick a ai)) (pick a ai) σ.next (lx r (.orc k' l') σ.cells) a ai:=jm hr
theorem S9{σ ay:AS}{r:Nat}{CY L l':aa}{PI:aW}{a:AV}(hr:σ.get r=some (.orc 1021 CY))(h:PI [.ref 0] ⟨1,[(0,.orc 1021 L)]⟩=some (a,ay))(h0:ay.get 0=some (.orc 1021 l'))(ha:noRef a=true):
  ur nX PI [.ref r] (σ.set r (.orc 1021 L))=some (a,σ.set r (.orc 1021 l')):=by
 rw[XJ (eA hr),h,aX]
 show ob (ay.get 0) _=_
 rw[h0]
 show ob (uN _ a) _=_
 rw[uz ha]
 show some (a,AS.mk σ.next (lx r (.orc 1021 l') (lx r (.orc 1021 L) σ.cells)))=_
 rw[oF];rfl
theorem U3{σ:AS}{r:Nat}{CY l:aa}(hr:σ.get r=some (.orc 1021 CY)){R:Rt}(hR:Yi R=true):nC [.ref r] (σ.set r (.orc 1021 (FU R++YN::l)))=some (.lst [d9 R],σ.set r (.orc 1021 (YN::l))):=by
 obtain⟨lv,⟨i0,c⟩,ts,n⟩:=R
 have h:eF lv i0 c n l ts=some (.lst [d9 ⟨lv,⟨i0,c⟩,ts,n⟩],1021,YN::l):=an4 hR l
 refine fR h fun a ay h1 h=>F3 h fun k l' h0 h=> ?_
 have h:=aH h
 cases h
 exact S9 hr h1 h0 (by rw[sB,gZ,K0];rfl)
@[elab_as_elim] theorem apv {a:AV} {Q:AV->Prop} (h:HM a=true) (kk: ∀vs,Q (.frz 0 [] vs)):Q a:=by
 unfold HM at h
 generalize e:mV a _=o at h
 cases o with
 |none=>exact ff h
 |some b=>
  refine tb e fun c ks vs e=> ?_
  have e:(aj c 0&&CM ks)=true:=(aH e).trans h
  exact aE e fun h1 h2=>by rw[aD h1,PS h2];exact kk vs
theorem amd{l:List (List Nat)}(h: ∀ks∈l,mac ks=iC ks/\CM ks=false):xp mac (rU l)=xp iC (rU l)/\ ∀m,vk mac m->vk mac (rU l++m):=by
 induction l with
 |nil=>exact⟨rfl,fun _ w=>w⟩
 |cons ks l ih=>
  obtain⟨h1,h2⟩:=h ks (bf ..)
  obtain⟨i1,i2⟩:=ih fun k hk=>h k (aQ _ hk)
  refine⟨?_,fun m w=>⟨fun z=> ?_,i2 m w⟩⟩
  ·show mac ks++xp mac (rU l)=iC ks++xp iC (rU l)
   rw[h1,i1]
  ·have z:CM ks=true:=z
   rw[h2]at z;exact ff z
def en3(ks:ac):Prop:=mac ks=iC ks/\CM ks=false
theorem Hj(lvl:Nat)(l:Lf): ∀ks∈Hi lvl l,en3 ks:=by
 obtain⟨i,c⟩:=l
 cases c with
 |false=>exact fun ks h=>(aO.mp h)▸⟨rfl,rfl⟩
 |true=>exact fun ks h=>(aG.mp h).elim (fun h=>h▸⟨rfl,rfl⟩) fun h=>(aO.mp h)▸⟨rfl,rfl⟩
theorem xQ{l m:List (List Nat)}(h1: ∀ks∈l,en3 ks)(h2: ∀ks∈m,en3 ks): ∀ks∈l++m,en3 ks:=fun ks h=>(cV.mp h).elim (h1 ks) (h2 ks)
theorem an5(r:Rt): ∀ks∈agq r,en3 ks:=by
 refine xQ (Hj _ _) (xQ ?_ ?_)
 ·induction r.ts with
  |nil=>exact fun _ h=>absurd h bg
  |cons t ts ih=>
   refine xQ ?_ ih
   cases t with
   |leaf l=>exact Hj 5 l
   |grp g a=>exact xQ (Hj 5 g) (Hj 10 a)
   |grp2 g a b=>exact xQ (Hj 5 g) (xQ (Hj 10 a) (Hj 10 b))
 ·cases r.ren with
  |zero=>exact fun _ h=>absurd h bg
  |succ l=>exact fun ks h=>(aO.mp h)▸⟨rfl,rfl⟩
section
variable{C:PC}{kF:Nat}{f:ah}(R:qk C mac bx VB)
include R
theorem ML(hF:aF C kF f nC):aF C kF f nz:=F8 hF fun args σ a ai e=>n7 e fun r as L hr e=>Ar e fun e=>by
 revert hr
 refine kJ e fun t L e=> ?_
 refine kJ e fun t' l e=>kS e fun zt e=> ?_
 refine apv zt fun vs'=> ?_
 refine aat e fun ks vs e=> ?_
 refine kJ e fun m ks e=>kS e fun z e=> ?_
 rw[aD z]
 refine kJ e fun lvl code e=> ?_
 intro hr
 refine⟨r,1021,_,hr,fun hc=> ?_⟩
 apply s2 e
 refine anc (hc) fun c hc=> ?_
 have hn:=(xO R hc).1
 have hn:aN (RZ (lvl::code))=true:=hn
 have hk:okC (lvl::code)=true/\mac (4::lvl::code)=xp iC (FU (Bk (lvl::code))):=by
  show _/\RZ (lvl::code)=_
  unfold RZ at hn ⊢
  cases z:okC (lvl::code)with
  |true=>exact⟨rfl,rfl⟩
  |false=>rw[z]at hn;exact zr hn
 obtain⟨hl,hk1⟩:aj (Bk (lvl::code)).lvl lvl=true/\Yi (Bk (lvl::code))=true:=aE hk.1 hZ
 have hl:=aD hl
 obtain⟨m1,m2⟩:=amd (an5 (Bk (lvl::code)))
 refine⟨FU (Bk (lvl::code))++YN::l,YN::l,l,fun c h=> ?_,(U3 hr hk1).trans (by unfold d9;rw[hl]),fun c h=>(R.rdr _ _).mpr (tA ((R.rdr _ _).mp h) rfl fun w=>w.2),rfl⟩
 have h:=(R.rdr _ _).mp h
 refine(R.rdr _ _).mpr (tA h ?_ fun w=> ?_)
 ·show _=mac (4::lvl::code)++xp mac l
  rw[hk.2,NL,zO,m1];rfl
 ·rw[NL];exact m2 _ ⟨fun _=>w.2.1 rfl,w.2.2⟩
end
section
variable(x nn:Nat)(cells:List (Nat×bJ))(r:aa)
def Qj(lvl L:Nat)(f:Lf):Option (AV×AS):=some (.ref (nn+1),⟨nn+2,(nn,.lst [])::(nn+1,.inst cp gg (.int (am lvl)::j9 (kd L f.i) (conds L f) (.ref nn) .none .none))::lx x (.orc 0 r) cells⟩)
def liF(lvl n e d:Nat):Option (AV×AS):=vT x nn cells (qI [.ref 0,.int (.ofNat lvl),.str (nm n)] ⟨1,[(0,.orc 0 (m2 5 d::m2 4 e::r))]⟩)
def liG(lvl n e d:Nat):Option (AV×AS):=Qj x nn cells r lvl lvl ⟨Fp lvl n (m7 d) 3,CO e⟩
def llF(lvl n e:Nat)(p d:Nat):Option (AV×AS):=vT x nn cells (wE [.ref 0,.int (.ofNat lvl),.str (nm n)] ⟨1,[(0,.orc 0 (m2 5 d::m2 4 e::m2 3 p::r))]⟩)
def llG(lvl n e:Nat)(p d:Nat):Option (AV×AS):=Qj x nn cells r lvl (P0 lvl n) ⟨Fp (P0 lvl n) n (m7 d) p,CO e⟩
def LI(lvl n e:Nat):Prop:=(cB 5).map (liF x nn cells r lvl n e)=(cB 5).map (liG x nn cells r lvl n e)
def LL(lvl n e:Nat):Prop:=(cB 3).map (fun p=>(cB 5).map (llF x nn cells r lvl n e p))=(cB 3).map (fun p=>(cB 5).map (llG x nn cells r lvl n e p))
end
theorem rg{β:Type}{f g:Nat->β}{m:Nat}(h:(cB m).map f=(cB m).map g){i:Nat}(hi:i<m):f i=g i:=iL.mp h i (qa.mpr hi)
theorem I7{P:Nat->Prop}(h0:P 0)(h1:P 1)(h2:P 2)(h3:P 3)(h4:P 4){n:Nat}(hn:n<5):P n:=by
 rcases n with _|_|_|_|_|n
 all_goals first|assumption|exact absurd hn (ci.mpr (jt 5 n))
theorem aqz{P:Nat->Nat->Prop}{lvl n:Nat}(h:Vv lvl n=true)(h1: ∀n,n<5->P 1 n)(h5: ∀n,n<5->P 5 (5+n)):P lvl n:=by
 rcases kQ.mp h with h|h
 ·obtain⟨a,b⟩:=bj.mp h
  rw[aD a];exact h1 n (dh.mp b)
 ·obtain⟨a,b⟩:=bj.mp h
  obtain⟨b,c⟩:=bj.mp b
  obtain⟨k,rfl⟩:=jl (av b)
  rw[aD a];exact h5 k (sY (n:=5) (dh.mp c))
theorem aqA{P:Nat->Nat->Prop}{lvl n:Nat}(h:Vw lvl n=true)(h1: ∀n,n<5->P 77 n)(h5: ∀n,n<5->P 5 (10+n))(h6:P 5 15)(h10:P 10 16):P lvl n:=by
 rcases kQ.mp h with h|h
 ·obtain⟨a,b⟩:=bj.mp h
  rw[aD a];exact h1 n (dh.mp b)
 ·rcases kQ.mp h with h|h
  ·obtain⟨a,b⟩:=bj.mp h
   obtain⟨b,c⟩:=bj.mp b
   rw[aD a]
   obtain⟨k,rfl⟩:=jl (av b)
   have hk:k<6:=sY (n:=10) (dh.mp c)
   rcases oP k 5 with q|q
   ·exact h5 k q
   ·have:k=5:=vu (E2 hk) q
    rw[this];exact h6
  ·obtain⟨a,b⟩:=bj.mp h
   rw[aD a,aD b];exact h10
section
variable(x nn:Nat)(cells:List (Nat×bJ))(r:aa)
theorem al7{lvl n d:Nat}(h:Vv lvl n=true)(hd:d<5)(e:Nat):liF x nn cells r lvl n e d=liG x nn cells r lvl n e d:=by
 have t:LI x nn cells r lvl n e:=aqz (P:=fun lvl n=>LI x nn cells r lvl n e) h (fun n hn=>by
  refine I7 (P:=fun n=>LI x nn cells r 1 n e) ?_ ?_ ?_ ?_ ?_ hn<;>(clear h hd hn;cases e<;>(unfold LI;kernel_rfl))) (fun n hn=>by
  refine I7 (P:=fun n=>LI x nn cells r 5 (5+n) e) ?_ ?_ ?_ ?_ ?_ hn<;>(clear h hd hn;cases e<;>(unfold LI;kernel_rfl)))
 exact rg t hd
theorem amb{lvl n d p:Nat}(h:Vw lvl n=true)(hd:d<5)(hp:p<3)(e:Nat):llF x nn cells r lvl n e p d=llG x nn cells r lvl n e p d:=by
 have t:LL x nn cells r lvl n e:=aqA (P:=fun lvl n=>LL x nn cells r lvl n e) h (fun n hn=>by
  refine I7 (P:=fun n=>LL x nn cells r 77 n e) ?_ ?_ ?_ ?_ ?_ hn<;>(clear h hd hp hn;cases e<;>(unfold LL;kernel_rfl))) (fun n hn=>by
  refine I7 (P:=fun n=>LL x nn cells r 5 (10+n) e) ?_ ?_ ?_ ?_ ?_ hn<;>(clear h hd hp hn;cases e<;>(unfold LL;kernel_rfl))) (by clear h hd hp;cases e<;>(unfold LL;kernel_rfl)) (by clear h hd hp;cases e<;>(unfold LL;kernel_rfl))
 exact rg (rg t hp) hd
end
def rnN(n ren:Nat):List AV:=hH (motive:=fun _=>List AV) [] (fun l _=>[.frz cp gg (ke (17+n) l .opq)]) ren
def aju(n:Nat)(r:Rt):List AV:=j9 (kd r.lvl r.it.i) (conds r.lvl r.it) (.lst (DL r.ts++rnN n r.ren)) .none .none
def Qd(n:Nat)(rd:RD)(r:aa):Option (Nat×List Nat×List AV×Nat×List AV):=bC (FC [.ref 0,.str (nm n)] ⟨1,[(0,.orc 0 (rdM rd++r))]⟩) fun a σ=>io a fun x=>CL σ x fun c ks vs=>sC σ 0 fun k l=>bif aj x 0 then none else some (c,ks,vs,k,l)
def Nk(n:Nat)(rd:RD)(r:aa):Option (Nat×List Nat×List AV×Nat×List AV):=some (cp,gg,.int (am (RY rd))::aju n (jC n rd),0,r)
noncomputable def S4(z d e:Nat)(l m:LD):List TD:=[.leaf z 0 l,.leaf z 1 l,.grp d e l,.grp2 d e l m]
def LR(n:Nat)(f:TD->RD)(r:aa)(z d e:Nat)(l m:LD):Prop:=(S4 z d e l m).map (fun t=>Qd n (f t) r)=(S4 z d e l m).map (fun t=>Nk n (f t) r)
theorem s4E{P:TD->Prop}(h: ∀z d e l m,∀t∈S4 z d e l m,P t){t:TD}(ht:Au t):P t:=by
 cases t with
 |leaf z nb l=>
  cases nb with
  |zero=>exact h z 0 0 l l _ (bb (i:=0) rfl)
  |succ nb=>cases nb with
   |zero=>exact h z 0 0 l l _ (bb (i:=1) rfl)
   |succ nb=>exact absurd ht (ci.mpr (jt 2 nb))
 |grp d e l=>exact h 0 d e l l _ (bb (i:=2) rfl)
 |grp2 d e l m=>exact h 0 d e l m _ (bb (i:=3) rfl)
theorem ali{n:Nat}{f:TD->RD}{r:aa}(h: ∀z d e l m,LR n f r z d e l m){t:TD}(ht:Au t):Qd n (f t) r=Nk n (f t) r:=s4E (P:=fun t=>Qd n (f t) r=Nk n (f t) r) (fun z d e l m t ht=>iL.mp (h z d e l m) t ht) ht
theorem amS{P:List TD->Prop}(h0:P [])(h1: ∀t,Au t->P [t])(h2: ∀s t,Au s->Au t->P [s,t]){ts:List TD}(hl:ts.length<=2)(ht: ∀t∈ts,Au t):P ts:=by
 cases ts with
 |nil=>exact h0
 |cons s ts=>cases ts with
  |nil=>exact h1 s (ht s (bf ..))
  |cons t ts=>cases ts with
   |nil=>exact h2 s t (ht s (bf ..)) (ht t (aQ _ (bf ..)))
   |cons u ts=>exact absurd hl (yN.mpr (be (be (be (aU _)))))
def GD(n:Nat)(f:List TD->RD)(r:aa):Prop:=Qd n (f []) r=Nk n (f []) r/\(∀z d e l m,LR n (fun t=>f [t]) r z d e l m)/\ ∀z d e l m z2 d2 e2 l2 m2,(S4 z d e l m).map (fun s=>(S4 z2 d2 e2 l2 m2).map fun t=>Qd n (f [s,t]) r)=(S4 z d e l m).map fun s=>(S4 z2 d2 e2 l2 m2).map fun t=>Nk n (f [s,t]) r
theorem ab3{n:Nat}{f:List TD->RD}{r:aa}(G:GD n f r){ts:List TD}(hl:ts.length<=2)(ht: ∀t∈ts,Au t):Qd n (f ts) r=Nk n (f ts) r:=amS (P:=fun ts=>Qd n (f ts) r=Nk n (f ts) r) G.1 (fun t h=>ali (f:=fun t=>f [t]) G.2.1 h) (fun s t hs ht=>s4E (P:=fun s=>Qd n (f [s,t]) r=Nk n (f [s,t]) r) (fun z d e l m s hs=>s4E (P:=fun t=>Qd n (f [s,t]) r=Nk n (f [s,t]) r) (fun z2 d2 e2 l2 m2 t ht=>iL.mp (iL.mp (G.2.2 z d e l m z2 d2 e2 l2 m2) s hs) t ht) ht) hs) hl ht
theorem amD{n:Nat}(hn:n<5){rd:RD}(h:C6 rd)(r:aa):Qd n rd r=Nk n rd r:=by
 cases rd with
 |alone l=>refine I7 (P:=fun n=>Qd n (.alone l) r=Nk n (.alone l) r) ?_ ?_ ?_ ?_ ?_ hn<;>kernel_rfl
 |std a d e ts q=>
  refine ab3 (f:=fun ts=>.std a d e ts q) ?_ h.1 h.2
  clear h
  refine I7 (P:=fun n=>GD n (fun ts=>.std a d e ts q) r) ?_ ?_ ?_ ?_ ?_ hn<;>exact⟨by kernel_rfl,fun _ _ _ _ _=>by unfold LR;kernel_rfl,fun _ _ _ _ _ _ _ _ _ _=>by kernel_rfl⟩
 |recR a d e ts l=>
  refine ab3 (f:=fun ts=>.recR a d e ts l) ?_ h.1 h.2.1
  have h:=h.2.2
  rcases l with _|_|l
  ·clear h
   refine I7 (P:=fun n=>GD n (fun ts=>.recR a d e ts 0) r) ?_ ?_ ?_ ?_ ?_ hn<;>exact⟨by kernel_rfl,fun _ _ _ _ _=>by unfold LR;kernel_rfl,fun _ _ _ _ _ _ _ _ _ _=>by kernel_rfl⟩
  ·clear h
   refine I7 (P:=fun n=>GD n (fun ts=>.recR a d e ts 1) r) ?_ ?_ ?_ ?_ ?_ hn<;>exact⟨by kernel_rfl,fun _ _ _ _ _=>by unfold LR;kernel_rfl,fun _ _ _ _ _ _ _ _ _ _=>by kernel_rfl⟩
  ·exact absurd h (ci.mpr (jt 2 l))
section
variable{σ:AS}{x:Nat}{CY l:aa}{as:aa}{PI:aW}
theorem Tb{pick:AV->AS->List Nat}{F:aW}{k:Nat}{L:aa}(hr:σ.get x=some (.orc k L))(ha:aN as=true):ur pick F (.ref x::as) σ=bC (F (.ref 0::as) ⟨1,[(0,.orc k L)]⟩) fun a ai=>sC ai 0 fun k' l'=>bif F1 0 (pick a ai)then none else imp (XN x σ.next (pick a ai)) (pick a ai) σ.next (lx x (.orc k' l') σ.cells) a ai:=by
 have h:ur pick F (.ref x::as) σ=bif aN as then sC σ x (fun k l=>bC (F (.ref 0::as) ⟨1,[(0,.orc k l)]⟩) fun a ai=>sC ai 0 fun k' l'=>bif F1 0 (pick a ai)then none else imp (XN x σ.next (pick a ai)) (pick a ai) σ.next (lx x (.orc k' l') σ.cells) a ai)else none:=rfl
 rw[h,ha];exact jm hr
theorem Ta(hr:σ.get x=some (.orc 0 CY))(ha:aN as=true):ur wM PI (.ref x::as) (σ.set x (.orc 0 l))=vT x σ.next (lx x (.orc 0 l) σ.cells) (PI (.ref 0::as) ⟨1,[(0,.orc 0 l)]⟩):=Tb (eA hr) ha
theorem Qk{nn:Nat}{cells:List (Nat×bJ)}{c:bJ}{r:aa}{lvl L:Nat}{f:Lf}:Qj x nn (lx x c cells) r lvl L f=Qj x nn cells r lvl L f:=by
 unfold Qj;rw[oF]
theorem Zu{β:Type}{f:Nat->List Nat->List AV->Option β}{y:β}{P:Prop}(e:abD σ x f=some y)(kk: ∀c m ks vs r,σ.get x=some (.orc 0 (.frz c (m::ks) vs::r))->f m ks r=some y->P):P:=
 F3 e fun k l hg e=>kS e fun q e=>by
  rw[aD q]at hg
  revert hg
  refine kJ e fun t r e=> ?_
  refine tb e fun c ks vs e=> ?_
  refine kJ e fun m ks e hg=> ?_
  exact kk c m ks vs r hg e
end
def two{β:Type}(ks:ac)(f:Nat->Nat->Option β):Option β:=rk ks fun d ks=>rk ks fun e ks=>bif CM ks then f d e else none
@[elab_as_elim] theorem aoW {β:Type} {ks:ac} {f:Nat->Nat->Option β} {y:β} {Q:List Nat->Prop} (e:two ks f=some y) (kk: ∀d e',f d e'=some y->Q [d,e']):Q ks:=
 kJ e fun d ks e=>kJ (Q:=fun ks=>Q (d::ks)) e fun e' ks e=>kS e fun z e=>by rw[PS z];exact kk d e' e
section
variable{C:PC}{kF:Nat}{f:ah}(R:qk C mac bx VB)
include R
theorem UU{l l':aa}{c:bJ}(h:C.conc 0 l c)(hx:xb bx l'=xb bx l)(hv:(∀a∈l,VB a)-> ∀a∈l',VB a):C.conc 0 l' c:=by
 obtain⟨h1,b,h2,h3⟩:=(R.bag _ _).mp h
 exact(R.bag _ _).mpr ⟨hv h1,b,h2,hx.symm▸h3⟩
omit R in
theorem rp{b:Int}{m d:Nat}(hm:0<m)(h:b.fmod (am m)=am d):d<m:=by
 have h1:b.fmod (am m)<am m:=q7 b (ib.mpr hm)
 rw[h]at h1
 exact ib.mp h1
theorem Ha{l:aa}{c:bJ}(h:C.conc 0 l c): ∃b,cH (xb bx l) b:=by
 obtain⟨_,b,_,h⟩:=(R.bag _ _).mp h
 exact⟨b,h⟩
theorem Wq(hF:aF C kF f y4):aF C kF f BB:=pJ hF fun args σ a ai e=>by
 refine Zs e fun a1 a2 a3 e=> ?_
 refine iA e fun x e=> ?_
 refine mm e fun lvl e=> ?_
 refine fT e fun s e=> ?_
 refine kS e fun z e=>Zu e fun c m ks vs r hg e=>kS e fun z5 e=> ?_
 rw[aD z5]at hg
 revert hg
 refine aoW (show two ks (fun d e'=>ail σ x r lvl lvl ⟨Fp lvl (I1 s names 0) (m7 d) 3,CO e'⟩)=some (a,ai) from e) fun d e' e hg=> ?_
 refine⟨x,0,_,hg,fun hc _=>⟨m2 5 d::m2 4 e'::r,fun c h=>UU R h rfl fun hv a ha=> ?_,?_⟩⟩
 ·rcases aG.mp ha with rfl|ha
  ·exact trivial
  ·rcases aG.mp ha with rfl|ha
   ·exact trivial
   ·exact hv a (aQ _ ha)
 ·obtain⟨c,hc⟩:=hc
  obtain⟨b,hb⟩:=Ha R hc
  have hd:d<5:=rp (by decide) hb.2.1
  obtain⟨z1,z2⟩:=aE z hZ
  have hs:nm (I1 s names 0)=s:=by rw[kO,decide_eq_true_iff]at z1;exact z1
  refine(Ta hg rfl).trans ?_
  refine yJ ?_ e
  generalize I1 s names 0=n at hs z2 ⊢
  rw[<- hs]
  exact(al7 x σ.next (lx x _ σ.cells) r z2 hd e').trans Qk
theorem Wr(hF:aF C kF f y5):aF C kF f BC:=pJ hF fun args σ a ai e=>by
 refine Zs e fun a1 a2 a3 e=> ?_
 refine iA e fun x e=> ?_
 refine mm e fun lvl e=> ?_
 refine fT e fun s e=> ?_
 refine kS e fun z e=>Zu e fun c m ks vs r hg e=>kS e fun z5 e=> ?_
 rw[aD z5]at hg
 revert hg
 refine VZ e fun d e' p e hg=> ?_
 refine⟨x,0,_,hg,fun hc _=>⟨m2 5 d::m2 4 e'::m2 3 p::r,fun c h=>UU R h rfl fun hv a ha=> ?_,?_⟩⟩
 ·rcases aG.mp ha with rfl|ha
  ·exact trivial
  ·rcases aG.mp ha with rfl|ha
   ·exact trivial
   ·rcases aG.mp ha with rfl|ha
    ·exact trivial
    ·exact hv a (aQ _ ha)
 ·obtain⟨c,hc⟩:=hc
  obtain⟨b,hb⟩:=Ha R hc
  have hd:d<5:=rp (by decide) hb.2.1
  have hp:p<3:=rp (by decide) hb.2.2.2.2.2.1
  obtain⟨z1,z2⟩:=aE z hZ
  have hs:nm (I1 s names 0)=s:=by rw[kO,decide_eq_true_iff]at z1;exact z1
  refine(Ta hg rfl).trans ?_
  refine yJ ?_ e
  generalize I1 s names 0=n at hs z2 ⊢
  rw[<- hs]
  exact(amb x σ.next (lx x _ σ.cells) r z2 hd hp e').trans Qk
end
theorem amY(t:TD)(l:aa):xb bx (tdM t++l)=tdD t++xb bx l:=by cases t<;>rfl
theorem YZ(ts:List TD)(l:aa):xb bx (Mz ts++l)=AX ts++xb bx l:=by
 induction ts with
 |nil=>rfl
 |cons t ts ih=>
  show xb bx ((tdM t++Mz ts)++l)=(tdD t++AX ts)++xb bx l
  rw[aB,amY,ih,aB]
theorem amX(rd:RD)(l:aa):xb bx (rdM rd++l)=Jq rd++xb bx l:=by
 cases rd with
 |alone l=>rfl
 |std a d e ts q=>
  show 4::(a+1)::5::d::4::e::3::ts.length::xb bx ((Mz ts++[m2 4 (q+1)])++l)=4::(a+1)::5::d::4::e::3::ts.length::((AX ts++[4,q+1])++xb bx l)
  rw[aB,YZ,aB];rfl
 |recR a d e ts q=>
  show 4::(a+1)::5::d::4::e::3::ts.length::xb bx ((Mz ts++[m2 4 0,m2 2 q])++l)=4::(a+1)::5::d::4::e::3::ts.length::((AX ts++[4,0,2,q])++xb bx l)
  rw[aB,YZ,aB];rfl
theorem WQ(ts:List TD): ∀a∈Mz ts,VB a:=by
 induction ts with
 |nil=>exact fun _ h=>absurd h bg
 |cons t ts ih=>
  refine fun a h=>(cV.mp h).elim (fun h=> ?_) (ih a)
  cases t with
  |leaf z nb l=>
   rcases aG.mp h with rfl|h
   ·exact trivial
   rcases aG.mp h with rfl|h
   ·exact trivial
   rw[aO.mp h];exact trivial
  |grp d e l=>
   rcases aG.mp h with rfl|h
   ·exact trivial
   rcases aG.mp h with rfl|h
   ·exact trivial
   rcases aG.mp h with rfl|h
   ·exact trivial
   rw[aO.mp h];exact trivial
  |grp2 d e l m=>
   rcases aG.mp h with rfl|h
   ·exact trivial
   rcases aG.mp h with rfl|h
   ·exact trivial
   rcases aG.mp h with rfl|h
   ·exact trivial
   rcases aG.mp h with rfl|h
   ·exact trivial
   rw[aO.mp h];exact trivial
theorem alk(rd:RD): ∀a∈rdM rd,VB a:=by
 cases rd with
 |alone l=>
  intro a h
  rcases aG.mp h with rfl|h
  ·exact trivial
  rw[aO.mp h];exact trivial
 |std a d e ts q=>
  intro a h
  rcases aG.mp h with rfl|h
  ·exact trivial
  rcases aG.mp h with rfl|h
  ·exact trivial
  rcases aG.mp h with rfl|h
  ·exact trivial
  rcases cV.mp h with h|h
  ·exact WQ ts a h
  rw[aO.mp h];exact trivial
 |recR a d e ts q=>
  intro a h
  rcases aG.mp h with rfl|h
  ·exact trivial
  rcases aG.mp h with rfl|h
  ·exact trivial
  rcases aG.mp h with rfl|h
  ·exact trivial
  rcases cV.mp h with h|h
  ·exact WQ ts a h
  rcases aG.mp h with rfl|h
  ·exact trivial
  rw[aO.mp h];exact trivial
theorem XQ{n d:Nat}(hn:n<5)(hd:d<5):(kd 1 (Fp 1 n (m7 d) 3)).1=n:=
 I7 (P:=fun n=>(kd 1 (Fp 1 n (m7 d) 3)).1=n) (I7 (P:=fun d=>(kd 1 (Fp 1 0 (m7 d) 3)).1=0) rfl rfl rfl rfl rfl hd) (I7 (P:=fun d=>(kd 1 (Fp 1 1 (m7 d) 3)).1=1) rfl rfl rfl rfl rfl hd) (I7 (P:=fun d=>(kd 1 (Fp 1 2 (m7 d) 3)).1=2) rfl rfl rfl rfl rfl hd) (I7 (P:=fun d=>(kd 1 (Fp 1 3 (m7 d) 3)).1=3) rfl rfl rfl rfl rfl hd) (I7 (P:=fun d=>(kd 1 (Fp 1 4 (m7 d) 3)).1=4) rfl rfl rfl rfl rfl hd) hn
noncomputable def T1(rd:RD):Nat:=match rd with
 | .alone _=>0
 | .std _ d _ _ _=>d
 | .recR _ d _ _ _=>d
theorem aex{n:Nat}{rd:RD}(hn:n<5)(hd:T1 rd<5):aju n (jC n rd)=Dr (jC n rd):=by
 cases rd with
 |alone l=>rfl
 |std a d e ts q=>rfl
 |recR a d e ts l=>
  show j9 _ _ (.lst (_++[.frz cp gg (ke (17+n) l .opq)])) _ _=j9 _ _ (.lst (_++[.frz cp gg (ke (17+(kd 1 (Fp 1 n (m7 d) 3)).1) l .opq)])) _ _
  rw[XQ hn (show d<5 from hd)]
theorem amu{rd:RD}{l:ac}{b:Int}(h:cH (Jq rd++l) b):T1 rd<5:=by
 cases rd with
 |alone l=>exact hJ _
 |std a d e ts q=>exact rp (by decide) h.2.2.2.1
 |recR a d e ts q=>exact rp (by decide) h.2.2.2.1
theorem air{n:Nat}{rd:RD}:aN (.int (am (RY rd))::Dr (jC n rd))=true:=by
 rw[gZ,ais];rfl
theorem ze(n:Nat):aj n n=true:=by rw[f8];exact decide_eq_true rfl
theorem aew{σ:AS}{x n:Nat}{CY r:aa}{rd:RD}(hg:σ.get x=some (.orc 0 CY))(hn:n<5)(h:C6 rd)(hd:T1 rd<5):
  s8 [.ref x,.str (nm n)] (σ.set x (.orc 0 (rdM rd++r)))=some (.ref σ.next,⟨σ.next+1,(σ.next,.inst cp gg (.int (am (RY rd))::Dr (jC n rd)))::lx x (.orc 0 r) σ.cells⟩):=by
 have h:=amD hn h r
 unfold Nk at h
 rw[aex hn hd]at h
 refine fR h fun a ay h1 h=> ?_
 revert h1
 refine iA h fun y h=>instE h fun c ks vs hy h=>F3 h fun k l h0 h=>kN h fun q h h1=> ?_
 have h:=aH h
 cases h
 have hp:wM (.ref y) ay=[y]:=by
  show(ob (ay.get y) _).getD []=_
  rw[hy];rfl
 refine(Tb (eA hg) rfl).trans ?_
 rw[h1,aX]
 show ob (ay.get 0) _=_
 rw[h0,hp]
 show(bif (aj 0 y||false)then none else _)=_
 have q0:aj 0 y=false:=by cases y with
  |zero=>exact absurd q (by decide)
  |succ y=>rfl
 rw[q0]
 have hx:XN x σ.next [y] y=some σ.next:=by
  cases y with
  |zero=>exact absurd q (by decide)
  |succ y=>
   show(bif aj (y+1) (y+1)then some σ.next else _)=_
   rw[ze];rfl
 show ob ((XN x σ.next [y] y).map AV.ref) _=_
 rw[hx]
 show ob (ob (ay.get y) _) _=_
 rw[hy]
 show ob (ob ((oy _ _).map (bJ.inst cp gg)) _) _=_
 rw[jA air]
 show some (AV.ref σ.next,AS.mk (σ.next+1) (_::lx x (.orc 0 r) (lx x (.orc 0 (rdM rd++r)) σ.cells)))=_
 rw[oF];rfl
section
variable{C:PC}{kF:Nat}{f:ah}(R:qk C mac bx VB)
include R
omit R in theorem amE {n:Nat} {rd:RD} (h:C6 rd):(jC n rd).ts.length <=8:=by
 have: ∀ts:List TD,(HT n ts).length=ts.length:=fun ts=>by
  induction ts with
  |nil=>rfl
  |cons t ts ih=>exact congrArg nP ih
 cases rd with
 |alone l=>exact aU _
 |std a d e ts q=>exact au (eH (this ts)) (au h.1 (by decide))
 |recR a d e ts q=>exact au (eH (this ts)) (au h.1 (by decide))
theorem Ws(hF:aF C kF f s8):aF C kF f BD:=pJ hF fun args σ a ai e=>by
 refine KD e fun a1 a2 e=> ?_
 refine iA e fun x e=> ?_
 refine fT e fun s e=> ?_
 refine Zu e fun c m ks vs r hg e=>kS e fun z9 e=> ?_
 rw[aD z9]at hg
 revert hg
 refine kJ e fun n ks e=> ?_
 refine kJ e fun lv code e=>kS e fun zs e hg=> ?_
 have hs:nm n=s:=by rw[kO,decide_eq_true_iff]at zs;exact zs
 by_cases hv:VB (.frz c (9::n::lv::code) vs)
 ·refine ago (hv) fun n' rd h1 h2 h3=> ?_
  have h1:AV.frz c (9::n::lv::code) vs= .frz 0 (9::n'::RY rd::Xs (jC n' rd)) [.frz 0 (Jq rd) []]:=h1
  cases h1
  have hx: ∀l,xb bx (.frz 0 (9::n::RY rd::Xs (jC n rd)) [.frz 0 (Jq rd) []]::l)=Jq rd++xb bx l:=fun _=>rfl
  refine⟨x,0,_,hg,fun hc _=>⟨rdM rd++r,fun c h=>UU R h ((amX rd r).trans (hx r).symm) fun hv a ha=>(cV.mp ha).elim (alk rd a) fun h=>hv a (aQ _ h),?_⟩⟩
  obtain⟨c,hc⟩:=hc
  obtain⟨b,hb⟩:=Ha R hc
  rw[hx]at hb
  rw[<- hs]
  refine(aew hg h2 h3 (amu hb)).trans ?_
  refine yJ ?_ e
  have hlen:=amE (n:=n) h3
  rw[NK _ hlen]
 ·exact⟨x,0,_,hg,fun hc _=>hc.elim fun c hc=>absurd (((R.bag _ _).mp hc).1 _ (bf ..)) hv⟩
theorem aqe:am2 C:=⟨Rp R,Kk R,ML R,Wq R,Wr R,Ws R⟩
end
theorem zo{PI:aW}{args:aa}{σ ay:AS}{a:AV}(hn:aN args=true)(h:PI args ⟨0,[]⟩=some (a,ay))(ha:noRef a=true):vU nX PI args σ=some (a,σ):=by
 show(bif aN args then bC (PI args ⟨0,[]⟩) _ else none)=_
 rw[hn,h]
 show ob (uN _ a) _=_
 rw[uz ha];rfl
theorem aai{PI:aW}{args:aa}{σ ay:AS}{x:Nat}{l:aa}(hn:aN args=true)(h:PI args ⟨0,[]⟩=some (.ref x,ay))(hx:ay.get x=some (.lst l))(hl:aN l=true):vU aaL PI args σ=some (.ref σ.next,σ.alloc (.lst l)):=by
 show(bif aN args then bC (PI args ⟨0,[]⟩) _ else none)=_
 rw[hn,h]
 have hi:ixN σ.next [x] x=some σ.next:=by
  show(bif aj x x then some σ.next else _)=_
  rw[ze];rfl
 show ob ((ixN σ.next [x] x).map AV.ref) _=_
 rw[hi]
 show ob (ob (ay.get x) _) _=_
 rw[hx]
 show ob (ob ((oy _ l).map bJ.lst) _) _=_
 rw[jA hl];rfl
theorem zv{l:List (List Nat×List Nat×Nat)}: ∀{c:Nat} {a:Bool},aN (wK a c l)=true:=by
 induction l with
 |nil=>exact rfl
 |cons x l ih=>exact fun{c a}=>show(true&&aN (wK false (c+x.2.2) l))=true from ih
theorem yo{t:ac}{a:Bool}{l:aa}(h:kL t a=some l)(hl:aN l=true)(σ:AS):cM [.str t,.bool a] σ=some (.ref σ.next,σ.alloc (.lst l)):=fR h fun x ay h1 h=>by
 revert h1
 refine iA h fun x h=>lstE h fun l' hx h h1=> ?_
 rw[aH h]at hx
 exact aai rfl h1 hx hl
theorem aa9{t:ac}{l:aa}(h:kL t false=some l)(hl:aN l=true)(σ:AS):cM [.str t] σ=some (.ref σ.next,σ.alloc (.lst l)):=fR h fun x ay h1 h=>by
 revert h1
 refine iA h fun x h=>lstE h fun l' hx h h1=> ?_
 rw[aH h]at hx
 exact aai (PI:=rM) rfl h1 hx hl
theorem aeF{it:AV}{a:Bool}{l:aa}(h:uR it a=some l)(hn:aN [it]=true): ∃t,kL t a=some l/\ ∀σ,nj [it] σ=some (.str t,σ):=fR h fun x ay h1 h=>by
 revert h1
 refine fT h fun t h h1=> ?_
 exact⟨t,h,fun σ=>zo hn h1 rfl⟩
theorem YA{n:Nat}{l:aa}(h:oA n=some l): ∃t,kL t false=some l/\ ∀σ,lH [qt n] σ=some (.str t,σ):=fR h fun x ay h1 h=>by
 revert h1
 refine fT h fun t h h1=> ?_
 exact⟨t,h,fun σ=>zo rfl h1 rfl⟩
theorem c9{v:AV}{i:Nat}: ∀{fr:Fm},gt (put fr i v) i=v:=by
 induction i with
 |zero=>intro fr;cases fr<;>rfl
 |succ i ih=>intro fr;cases fr with
  |nil=>exact ih (fr:=[])
  |cons a fr=>exact ih
theorem fQ{v:AV}{i:Nat}: ∀{j:Nat} {fr:Fm},aj i j=false->gt (put fr i v) j=gt fr j:=by
 induction i with
 |zero=>
  intro j fr h
  cases j with
  |zero=>exact ff h.symm
  |succ j=>cases fr with
   |nil=>rfl
   |cons a fr=>rfl
 |succ i ih=>
  intro j fr h
  cases j with
  |zero=>cases fr<;>rfl
  |succ j=>cases fr with
   |nil=>exact ih (fr:=[]) h
   |cons a fr=>exact ih h
theorem ajG{σ:AS}{i:Nat}{a b:bJ}:(σ.set i a).set i b=σ.set i b:=congrArg (AS.mk σ.next) (oF ..)
theorem ahg{σ:AS}{i:Nat}{l m:aa}(hi:σ.get i=some (.lst l))(hk:l.length+m.length<=4000000):fZ [.ref i,.lst m] σ=some (.none,σ.set i (.lst (l++m))):=by
 have h:fZ [.ref i,.lst m] σ=bif dB (l.length+m.length)then some (.none,σ.set i (.lst (l++m)))else none:=jm hi
 rw[h,fV hk];rfl
theorem ahh{σ:AS}{i j:Nat}{l m:aa}(hi:σ.get i=some (.lst l))(hj:σ.get j=some (.lst m))(hij:aj i j=false)(hk:l.length+m.length<=4000000):fZ [.ref i,.ref j] σ=some (.none,σ.set i (.lst (l++m))):=by
 have h1:ahf σ i (.ref j)=some m:=by
  show(bif aj i j then none else nv σ j some)=_
  rw[hij];exact jm hj
 have h2:fZ [.ref i,.ref j] σ=ob (nv σ i some) fun l=>bif dB (l.length+m.length)then some (.none,σ.set i (.lst (l++m)))else none:=by
  refine(jm h1).trans ?_
  rw[show nv σ i some=some l from jm hi];exact jm hi
 rw[h2,show nv σ i some=some l from jm hi,b9,fV hk];rfl
theorem Ji{σ:AS}{i:Nat}{l:aa}{F:aW}(hi:σ.get i=some (.lst l)):fS F (.ref i) σ=some F:=jm hi
theorem dN{σ:AS}{i:Nat}{c d:bJ}(hi:σ.get i=some c)(h:i<σ.next):(σ.alloc d).get i=some c:=by rw[AS.get_alloc,if_neg (ct h)];exact hi
theorem ahp{sel:Nat->Bool}{n:Nat}{a:AV}{σ:AS}(h:noRef a=true):um sel n a σ=(a,σ):=by
 cases n with
 |zero=>rfl
 |succ n=>cases a<;>first|rfl|exact ff h
theorem aaN{α β γ:Type}{p:α×β}{a:α}{b:β}{f:α->β->γ}(h:p=(a,b)):pr p f=f a b:=by rw[h];rfl
theorem Qh{sel:Nat->Bool}{n:Nat}{l:aa}: ∀{σ:AS},aN l=true->pW (um sel n) l σ=(l,σ):=by
 induction l with
 |nil=>exact fun _=>rfl
 |cons a l ih=>
  intro σ h
  refine aE (show(noRef a&&aN l)=true from h) fun h1 h2=> ?_
  exact(aaN (ahp h1)).trans (aaN (ih h2))
theorem xT{n:Nat}{x:Nat}{l:aa}{σ:AS}(hx:σ.get x=some (.lst l))(h:aN l=true):jJ (n+1) (.ref x) σ=(.lst l,σ.drop x):=by
 show bo (motive:=fun _=>AV×AS) (.opq,σ) (fun c=>SZ (um _ n) _ x σ c) (σ.get x)=_
 rw[hx]
 show pr (pW (um (fun _=>true) n) l (σ.drop x)) (fun l' ai=>(AV.lst l',ai))=_
 exact aaN (Qh h)
noncomputable def MA(lvl:Nat):Bool:=bif aj lvl 1 then true else aj lvl 77
theorem amR{lvl:Nat}(h:rr lvl=true)(σ:AS):b5 .In (.int (am lvl)) iW σ=some (MA lvl):=lvE (P:=fun lvl=>b5 .In (.int (am lvl)) iW σ=some (MA lvl)) h rfl rfl rfl rfl
theorem amN{lvl:Nat}(h:rr lvl=true)(i:Nat)(c k p:AV):uR (.frz cp gg (.int (am lvl)::j9 (kd lvl i) c k p .none)) (MA lvl)=some (ku lvl (kd lvl i)):=
 lvE (P:=fun lvl=>kd lvl i∈kT lvl->iJ c k p lvl (kd lvl i)=iK lvl (kd lvl i)) h (fun h=>aqJ _ _ _ h) (fun h=>aqK _ _ _ h) (fun h=>aps _ _ _ h) (fun h=>apt _ _ _ h) (Vh lvl i)
def IU:EM:=bv cM (aw (bv nj (aw (al 0) aJ)) (aw (rW (fw (b5 .In) (un (aA 20) (al 0)) (ba iW))) aJ))
theorem adQ{it:AV}{fr:Fm}{σ:AS}{b:Bool}{lv:AV}{l:aa}(hf:gt fr 0=it)(hu:bX it=false)(hn:aN [it]=true)(hs:uR it b=some l)(hl:aN l=true)(ha:aA 20 it σ=some lv)(hb:b5 .In lv iW σ=some b):IU fr σ=some (.ref σ.next,σ.alloc (.lst l)):=by
 refine eX (aeF hs hn) fun t h1 h2=> ?_
 unfold IU
 simp only[et,cz,cq,bk,hf,hu,ae,aX,h2,wL,fD,gm,ha,b9,d5,hb,yo h1 hl]
def Hc:SM:=aV (k8 (cJ (fS fZ) (al 1) (aw (bv cM (aw (bv lH (aw (al 2) aJ)) aJ)) aJ))) bq
def PY(self:aW):SM:=aV (k8 (cJ (fS fZ) (al 1) (aw (bv self (aw (al 3) aJ)) aJ))) bq
@[simp] theorem Jv (e) {fr:Fm} {σ:AS}:k8 e fr σ=bC (e fr σ) fun _ ai=>some (.next fr ai):=rfl
theorem EL{i:Nat}{b:SM}{a:AV}{r:aa}{fr gT:Fm}{σ ay:AS}(h:b (put fr i a) σ=some (.next gT ay)):pI [i] b (a::r) fr σ=pI [i] b r gT ay:=by
 show ob (b (put fr i a) σ) _=_
 rw[h];rfl
theorem aan{self:aW}{ks:List (AV×List AV)}: ∀{fr:Fm} {σ:AS} {i:Nat} {L:aa},(∀k∈ks,bX k.1=false/\ ∀σ,self [k.1] σ=some (.lst k.2,σ))->gt fr 1= .ref i->σ.get i=some (.lst L)->L.length+(ks.flatMap (·.2)).length <=4000000->
  ∃fr',pI [3] (PY self) (ks.map (·.1)) fr σ=some (.next fr' (σ.set i (.lst (L++ks.flatMap (·.2)))))/\gt fr' 1= .ref i:=by
 induction ks with
 |nil=>exact fun{fr σ i L} _ hf hi _=>⟨fr,by rw[bI,aR,EN hi];rfl,hf⟩
 |cons k ks ih=>
  intro fr σ i L h hf hi hk
  obtain⟨hu,hs⟩:=h k (bf ..)
  rw[aY]at hk ⊢
  have hk1:L.length+k.2.length<=4000000:=au (dy (by rw[ao];exact cY _ _) _) hk
  have h1:gt (put fr 3 k.1) 1= .ref i:=(fQ rfl).trans hf
  have e1:PY self (put fr 3 k.1) σ=some (.next (put fr 3 k.1) (σ.set i (.lst (L++k.2)))):=by
   unfold PY
   simp only[dk,Jv,eJ,bk,h1,c9,fq,hu,ae,aX,Ji hi,b9,cz,cq,et,hs,ahg hi hk1,dF,fJ]
  refine eX (ih (fr:=put fr 3 k.1) (σ:=σ.set i (.lst (L++k.2))) (L:=L++k.2) (fun k hk=>h k (aQ _ hk)) h1 (eA hi) (by rw[ao,kE,<- ao];exact hk)) fun fr' e2 h2=> ?_
  refine⟨fr',?_,h2⟩
  rw[bh,EL e1,e2,ajG,aB]
theorem adi{n:Nat}{fr:Fm}{σ:AS}{i:Nat}{L:aa}(hn:n<17)(hf:gt fr 1= .ref i)(hi:σ.get i=some (.lst L))(hs:i<σ.next)(hk:L.length+(fF n).length <=4000000):
  Hc (put fr 2 (qt n)) σ=some (.next (put fr 2 (qt n)) ((σ.alloc (.lst (fF n))).set i (.lst (L++fF n)))):=by
 refine eX (YA (nmS hn)) fun t h1 h2=> ?_
 have h3:gt (put fr 2 (qt n)) 1= .ref i:=(fQ rfl).trans hf
 have hu:bX (qt n)=false:=rfl
 have hij:aj i σ.next=false:=by rw[f8];exact decide_eq_false (ct hs)
 unfold Hc
 simp only[dk,Jv,eJ,bk,h3,c9,fq,hu,ae,aX,Ji hi,b9,cz,cq,et,h2,aa9 h1 zv,ahh (dN hi hs) cn hij hk,dF,fJ]
def rS(lvl:Nat)(l:Lf):List AV:=bif l.c then fF (j7 lvl l)else[]
theorem L7{lvl:Nat}{l:Lf}{fr:Fm}{σ:AS}{i:Nat}{L:aa}(hn:j7 lvl l<17)(hf:gt fr 1= .ref i)(hi:σ.get i=some (.lst L))(hs:i<σ.next)(hk:L.length+(rS lvl l).length <=4000000):
  ∃fr' ai cs,conds lvl l= .lst cs/\cs.length<=1/\pI [2] Hc cs fr σ=some (.next fr' ai)/\gt fr' 1= .ref i/\ai.get i=some (.lst (L++rS lvl l))/\(∀j,aj 2 j=false->gt fr' j=gt fr j):=by
 obtain⟨k,c⟩:=l
 cases c with
 |false=>exact⟨fr,σ,[],rfl,aU _,rfl,hf,by rw[show rS lvl ⟨k,false⟩=[] from rfl,aR];exact hi,fun _ _=>rfl⟩
 |true=>exact⟨_,_,[qt (j7 lvl ⟨k,true⟩)],rfl,ax _,(EL (adi hn hf hi hs hk)).trans rfl,(fQ rfl).trans hf,eA (dN hi hs),fun j h=>fQ h⟩
theorem ah1(lvl i:Nat):(kd lvl i).1<17:=by
 have h1: ∀x∈iY,x.1<17:=by decide +kernel
 have h5: ∀x∈dK,x.1<17:=by decide +kernel
 have h10: ∀x∈sA,x.1<17:=by decide +kernel
 have h77: ∀x∈gG,x.1<17:=by decide +kernel
 have h:=Vh lvl i
 generalize kd lvl i=x at h
 unfold kT at h
 revert h
 cases aj lvl 1
 ·cases aj lvl 5
  ·cases aj lvl 10
   ·exact h77 x
   ·exact h10 x
  ·exact h5 x
 ·exact h1 x
def dT(lvl:Nat)(l:Lf):List AV:=ku lvl (kd lvl l.i)++rS lvl l
theorem adm{self:aW}{args:aa}{σ:AS}:bn 1 [] (nD self) args σ=bn 1 [] (aV (cT [1] IU) (aV (gB [2] (un (aA 23) (al 0)) Hc) (aV (gB [3] (un (aA 22) (al 0)) (PY self)) (aV (eK (al 1)) bq)))) args σ:=rfl
theorem zl{xs:ac}{it:EM}{b:SM}{l:aa}{fr:Fm}{σ:AS}(h:it fr σ=some (.lst l,σ))(hl:l.length<=4000000):gB xs it b fr σ=pI xs b l fr σ:=by
 have h2:fE σ (.lst l)=some (l,σ):=by
  show(bif dB l.length then some (l,σ)else none)=_
  rw[fV hl];rfl
 show bC (it fr σ) (fun x ai=>bC (fE ai x) fun l ay=>pI xs b l fr ay)=_
 rw[h,aX,h2];rfl
theorem Py{n:Nat}{it lv:AV}{b:Bool}{T Cd:aa}{cs:aa}{ks:List (AV×List AV)}(hit:noRef it=true)(hu:bX it=false)(ha: ∀σ,aA 20 it σ=some lv)(hb: ∀σ,b5 .In lv iW σ=some b)(hc: ∀σ,aA 23 it σ=some (.lst cs))(hkd: ∀σ,aA 22 it σ=some (.lst (ks.map (·.1))))
  (hsh:uR it b=some T)(hT:aN T=true)(hC:aN Cd=true)(hcl:cs.length<=4000000)
  (hcs: ∀{fr σ i L},gt fr 1= .ref i->σ.get i=some (.lst L)->i<σ.next->L.length+Cd.length<=4000000-> ∃fr' ai,pI [2] Hc cs fr σ=some (.next fr' ai)/\gt fr' 1= .ref i/\ai.get i=some (.lst (L++Cd))/\(∀j,aj 2 j=false->gt fr' j=gt fr j))
  (hg: ∀k∈ks,bX k.1=false/\ ∀σ,cu n [k.1] σ=some (.lst k.2,σ))(hgn:aN (ks.flatMap (·.2))=true)(hk:((T++Cd)++ks.flatMap (·.2)).length <=4000000)(hkl:ks.length<=4000000)(σ:AS):
  cu (n+1) [it] σ=some (.lst ((T++Cd)++ks.flatMap (·.2)),σ):=by
 have h1:=adQ (it:=it) (fr:=[it]) (σ:=⟨0,[]⟩) rfl hu (by rw[gZ,hit];rfl) hsh hT (ha _) (hb _)
 have hk1:T.length+Cd.length<=4000000:=by
  rw[<- ao]
  exact au (by rw[ao (as:=T++Cd)];exact cY _ _) hk
 refine Xn (hcs (fr:=[it,.ref 0]) (σ:=AS.alloc ⟨0,[]⟩ (.lst T)) (i:=0) rfl rfl (hJ _) hk1) fun fr2 g8 h2 hf2 hi2 hj2=> ?_
 have h0:gt fr2 0=it:=(hj2 0 rfl).trans rfl
 refine eX (aan (self:=cu n) hg hf2 hi2 (by rw[<- ao];exact hk)) fun fr3 h3 hf3=> ?_
 have e2:gB [2] (un (aA 23) (al 0)) Hc [it,.ref 0] (AS.alloc ⟨0,[]⟩ (.lst T))=some (.next fr2 g8):=by
  refine(zl (l:=cs) ?_ hcl).trans h2
  simp only[gm,bk,kI,hu,ae,aX,hc,b9]
 have e3:gB [3] (un (aA 22) (al 0)) (PY (cu n)) fr2 g8=some (.next fr3 (g8.set 0 (.lst ((T++Cd)++ks.flatMap (·.2))))):=by
  refine(zl (l:=ks.map (·.1)) ?_ (by rw[aS];exact hkl)).trans h3
  simp only[gm,bk,h0,hu,ae,aX,hkd,b9]
 have e4:bn 1 [] (nD (cu n)) [it] ⟨0,[]⟩=some (.ref 0,g8.set 0 (.lst ((T++Cd)++ks.flatMap (·.2)))):=by
  rw[adm]
  show ob (aV (cT [1] IU) _ [it] ⟨0,[]⟩) ir=_
  simp only[dk,fH,h1,aX,b9,dF]
  show ob (ob (gB [2] (un (aA 23) (al 0)) Hc [it,.ref 0] _) _) ir=_
  simp only[e2,b9,dF,dk,e3,ej,bk,hf3,fq,ae,aX,dH,gA]
 have hnr:aN ((T++Cd)++ks.flatMap (·.2))=true:=by
  rw[b6,b6,hgn,hT,hC];rfl
 refine zo (PI:=xq (cu n)) (by rw[gZ,hit];rfl) (ay:=(g8.set 0 (.lst ((T++Cd)++ks.flatMap (·.2)))).drop 0) ?_ hnr
 show bC (bn 1 [] (nD (cu n)) [it] ⟨0,[]⟩) (fun a ai=>some (jJ 12 a ai))=_
 rw[e4]
 show some (jJ 12 (.ref 0) _)=_
 rw[xT (eA hi2) hnr]
theorem X5{lvl:Nat}{l:Lf}:aN (rS lvl l)=true:=by
 unfold rS
 cases l.c
 ·rfl
 ·exact zv
def pj(lvl:Nat)(l:Lf)(ks:aa)(p:AV):AV:=.frz cp gg (.int (am lvl)::j9 (kd lvl l.i) (conds lvl l) (.lst ks) p .none)
theorem EA{n lvl:Nat}{l:Lf}{ks:List (AV×List AV)}{p:AV}(hlv:rr lvl=true)(hks:aN (ks.map (·.1))=true)(hp:noRef p=true)(hg: ∀k∈ks,bX k.1=false/\ ∀σ,cu n [k.1] σ=some (.lst k.2,σ))(hgn:aN (ks.flatMap (·.2))=true)(hk:(dT lvl l++ks.flatMap (·.2)).length <=4000000)(hkl:ks.length<=4000000)(σ:AS):
  cu (n+1) [pj lvl l (ks.map (·.1)) p] σ=some (.lst (dT lvl l++ks.flatMap (·.2)),σ):=by
 have hit:noRef (pj lvl l (ks.map (·.1)) p)=true:=by
  show(true&&aN (j9 _ _ _ _ _))=true
  rw[Hx,Hw,sB,hks,hp];rfl
 refine Xp (L7 (lvl:=lvl) (l:=l) (fr:=[.none,.ref 0]) (σ:=⟨1,[(0,.lst [])]⟩) (i:=0) (L:=[]) (ah1 lvl l.i) rfl rfl (hJ _) (au (eH (ic _)) (au (by unfold dT;rw[ao,ao];exact au (jt _ _) (cY _ _)) hk))) fun _ _ cs hcs hcl _=> ?_
 refine Py (it:=pj lvl l (ks.map (·.1)) p) hit rfl (fun _=>rfl) (amR hlv) (cs:=cs) (fun σ=> ?_) (fun _=>rfl) (amN hlv _ _ _ _) zv X5 (au hcl (by decide)) (fun{fr σ i L} h1 h2 h3 h4=> ?_) hg hgn hk hkl σ
 ·rw[<- hcs]
  obtain⟨i,c⟩:=l
  cases c<;>rfl
 ·obtain⟨fr',ai,cs',e,_,h⟩:=L7 (lvl:=lvl) (l:=l) (ah1 lvl l.i) h1 h2 h3 h4
  rw[hcs]at e
  cases e
  exact⟨fr',ai,h⟩
theorem ajp{n i l:Nat}(hi:i<5)(σ:AS):cu (n+1) [.frz cp gg (ke (17+i) l .opq)] σ=some (.lst (gE (17+i) l),σ):=by
 have hrn:noRef (ye l)=true:=by unfold ye;cases l<;>rfl
 have hit:noRef (.frz cp gg (ke (17+i) l .opq))=true:=by
  show aN (ke (17+i) l .opq)=true
  simp only[ke,gZ,X8,X6,X4,X3,aco,sB,hrn,X7,rC]
 have hlen:(gE (17+i) l).length <=4000000:=by
  unfold gE
  cases l<;>exact av rfl
 have h:=Py (n:=n) (it:=.frz cp gg (ke (17+i) l .opq)) (T:=gE (17+i) l) (Cd:=[]) (cs:=[]) (ks:=[]) (b:=false) hit rfl (fun _=>rfl) (fun _=>rfl) (fun _=>rfl) (fun _=>rfl) (rnS hi l .opq) zv rfl (aU _) (fun{fr σ i L} h1 h2 _ _=>⟨fr,σ,rfl,h1,by rw[aR];exact h2,fun _ _=>rfl⟩) (fun _ h=>absurd h bg) rfl (by rw[bI,aR,aR];exact hlen) (aU _) σ
 rw[bI,aR,aR]at h
 exact h
theorem CT{l:List (List Nat×List Nat×Nat)}: ∀{c:Nat} {a:Bool},(wK a c l).length=l.length:=by
 induction l with
 |nil=>exact rfl
 |cons x l ih=>exact congrArg nP ih
theorem aiE(p:Nat):(RX p).length <=2:=by
 unfold RX x7
 cases aj p 0
 ·cases aj p 1
  ·cases aj p 2
   ·exact aU _
   ·exact ax _
  ·exact ax _
 ·exact ax _
theorem akV(p:Nat):(Sb p).length <=3:=by
 unfold Sb
 cases aj p 1
 ·exact aU _
 ·exact ax _
theorem aix(p:Nat):(RV p).length <=10:=by
 unfold RV
 cases aj p 2
 ·cases aj p 3
  ·exact aU _
  ·exact ax _
 ·exact ax _
theorem aaj(lvl:Nat)(x:Nat×Nat×Nat):(ku lvl x).length <=18:=by
 unfold ku ank
 rw[CT]
 show((RX x.2.2++(Sb x.2.1++(RV x.2.1++[KM]))).length +1+1)<=18
 rw[ao,ao,ao]
 exact be (be (au (aK (aiE _) (aK (akV _) (aK (aix _) (ax 1)))) (by decide)))
theorem oq(lvl:Nat)(l:Lf):(dT lvl l).length <=30:=by
 unfold dT rS
 rw[ao]
 refine aK (b:=18) (d:=12) (aaj _ _) ?_
 cases l.c
 ·exact aU _
 ·show(fF _).length <=12
  unfold fF;rw[CT];exact av rfl
def vj(t:Tn):List AV:=match t with
 | .leaf l=>dT 5 l
 | .grp g a=>dT 5 g++dT 10 a
 | .grp2 g a b=>dT 5 g++(dT 10 a++dT 10 b)
theorem DM(t:Tn):(vj t).length <=90:=by
 cases t with
 |leaf l=>exact au (oq 5 l) (by decide)
 |grp g a=>exact(ao (as:=dT 5 g))▸au (aK (oq 5 g) (oq 10 a)) (by decide)
 |grp2 g a b=>
  show(dT 5 g++(dT 10 a++dT 10 b)).length <=90
  rw[ao,ao]
  exact aK (oq 5 g) (aK (oq 10 a) (oq 10 b))
def VD(i n:Nat):List AV:=hH (motive:=fun _=>List AV) [] (fun l _=>gE (17+i) l) n
theorem ajs(i n:Nat):(VD i n).length <=90:=by
 cases n with
 |zero=>exact aU _
 |succ l=>
  show(gE (17+i) l).length <=90
  unfold gE;rw[CT]
  cases l<;>exact av rfl
theorem qR{lvl:Nat}{l:Lf}:aN (dT lvl l)=true:=by
 unfold dT;rw[b6,show aN (ku lvl (kd lvl l.i))=true from zv,X5];rfl
theorem amh{t:Tn}:aN (vj t)=true:=by
 cases t with
 |leaf l=>exact qR
 |grp g a=>
  show aN (dT 5 g++dT 10 a)=true
  rw[b6,qR,qR];rfl
 |grp2 g a b=>
  show aN (dT 5 g++(dT 10 a++dT 10 b))=true
  rw[b6,b6,qR,qR,qR];rfl
theorem acp{i n:Nat}:aN (VD i n)=true:=by
 cases n with
 |zero=>rfl
 |succ l=>exact zv
theorem EB{n lvl:Nat}{l:Lf}(h:rr lvl=true)(σ:AS):cu (n+1) [ou lvl l .opq] σ=some (.lst (dT lvl l),σ):=by
 have h:=EA (n:=n) (l:=l) (ks:=[]) (p:=.opq) h rfl rfl (fun _ h=>absurd h bg) rfl (by rw[bI,aR];exact au (oq lvl l) (by decide)) (aU _) σ
 rw[bI,aR]at h
 exact h
theorem JA{l:aa}{m:Nat}(h:l.length<=m)(hm:cX m 4000000=true):l.length<=4000000:=au h (av hm)
theorem aeg{n:Nat}(t:Tn)(σ:AS):cu (n+2) [sO t] σ=some (.lst (vj t),σ):=by
 cases t with
 |leaf l=>exact EB (n:=n+1) rfl σ
 |grp g a=>
  have h:=EA (n:=n+1) (lvl:=5) (l:=g) (ks:=[(ou 10 a .opq,dT 10 a)]) (p:=.opq) rfl (by rw[bh,jU,gZ,qu];rfl) rfl (fun k hk=>(aO.mp hk)▸⟨rfl,fun σ=>EB (n:=n) rfl σ⟩)
   (by rw[aY,bI,aR];exact qR) (by rw[aY,bI,aR];exact JA (DM (.grp g a)) rfl) (by exact av rfl) σ
  rw[aY,bI,aR]at h
  exact h
 |grp2 g a b=>
  have h:=EA (n:=n+1) (lvl:=5) (l:=g) (ks:=[(ou 10 a .opq,dT 10 a),(ou 10 b .opq,dT 10 b)]) (p:=.opq) rfl (by rw[bh,bh,jU,gZ,gZ,qu,qu];rfl) rfl
   (fun k hk=>(aG.mp hk).elim (fun h=>h▸⟨rfl,fun σ=>EB (n:=n) rfl σ⟩) fun hk=>(aO.mp hk)▸⟨rfl,fun σ=>EB (n:=n) rfl σ⟩)
   (by rw[aY,aY,bI,aR,b6,qR,qR];rfl) (by rw[aY,aY,bI,aR];exact JA (DM (.grp2 g a b)) rfl) (by exact av rfl) σ
  rw[aY,aY,bI,aR]at h
  exact h
def EG(ts:List Tn):List (AV×List AV):=ts.map fun t=>(sO t,vj t)
def HG(i n:Nat):List (AV×List AV):=hH (motive:=fun _=>List (AV×List AV)) [] (fun l _=>[(.frz cp gg (ke (17+i) l .opq),gE (17+i) l)]) n
def iu(r:Rt):List AV:=dT r.lvl r.it++(r.ts.flatMap vj++VD (j7 1 r.it) r.ren)
theorem aaI(ts:List Tn):(EG ts).map (·.1)=DL ts:=by
 induction ts with
 |nil=>rfl
 |cons t ts ih=>exact congrArg (sO t:: ·) ih
theorem aaK(ts:List Tn):(EG ts).flatMap (·.2)=ts.flatMap vj:=by
 induction ts with
 |nil=>rfl
 |cons t ts ih=>
  show vj t++(EG ts).flatMap (·.2)=_
  rw[ih];rfl
theorem Tv(ts:List Tn):aN (ts.flatMap vj)=true:=by
 induction ts with
 |nil=>rfl
 |cons t ts ih=>rw[aY,b6,amh,ih];rfl
theorem aaJ{ts:List Tn}(h:ts.length<=2):(ts.flatMap vj).length <=180:=by
 cases ts with
 |nil=>exact aU _
 |cons s ts=>cases ts with
  |nil=>rw[aY,bI,aR];exact au (DM s) (by decide)
  |cons t ts=>cases ts with
   |nil=>rw[aY,aY,bI,aR,ao];exact aK (DM s) (DM t)
   |cons u ts=>exact absurd h (yN.mpr (be (be (be (aU _)))))
structure oj(r:Rt):Prop where
 ok:Yi r=true
 nm:r.ren≠0->j7 1 r.it<5
theorem oj.lv{r:Rt}(h:oj r):rr r.lvl=true/\r.ts.length<=2:=by
 have q:=h.ok
 unfold Yi at q
 cases z:aj r.lvl 1 with
 |true=>
  rw[z]at q
  rw[aD z];exact⟨rfl,av q⟩
 |false=>
  rw[z]at q
  refine aE (show(aj r.lvl 77&&(r.ts.isEmpty&&aj r.ren 0))=true from q) fun h1 h=>aE h fun h2 _=> ?_
  rw[aD h1,eB.mp h2];exact⟨rfl,aU _⟩
theorem uO{r:Rt}(h:oj r):(iu r).length <=300:=by
 unfold iu
 rw[ao,ao]
 exact au (aK (oq _ _) (aK (aaJ h.lv.2) (ajs _ _))) (by decide)
theorem Jg{r:Rt}:aN (iu r)=true:=by
 unfold iu
 rw[b6,b6,qR,Tv,acp];rfl
theorem VE{r:Rt}(h:oj r)(σ:AS):cu 6 [d9 r] σ=some (.lst (iu r),σ):=by
 obtain⟨h1,h2⟩:=h.lv
 have hr:(HG (j7 1 r.it) r.ren).map (·.1)=qS r/\(HG (j7 1 r.it) r.ren).flatMap (·.2)=VD (j7 1 r.it) r.ren/\(HG (j7 1 r.it) r.ren).length <=1/\ ∀k∈HG (j7 1 r.it) r.ren,bX k.1=false/\ ∀σ,cu 5 [k.1] σ=some (.lst k.2,σ):=by
  have hn:=h.nm
  obtain⟨lv,it,ts,n⟩:=r
  cases n with
  |zero=>exact⟨rfl,rfl,aU _,fun _ h=>absurd h bg⟩
  |succ l=>exact⟨rfl,aR _,ax _,fun k hk=>(aO.mp hk)▸⟨rfl,fun σ=>ajp (n:=4) (hn (ki _)) σ⟩⟩
 obtain⟨r1,r2,r3,r4⟩:=hr
 have hf:(EG r.ts++HG (j7 1 r.it) r.ren).map (·.1)=DL r.ts++qS r:=by rw[br,aaI,r1]
 have hs:(EG r.ts++HG (j7 1 r.it) r.ren).flatMap (·.2)=r.ts.flatMap vj++VD (j7 1 r.it) r.ren:=by rw[kW,aaK,r2]
 have q:=EA (n:=5) (lvl:=r.lvl) (l:=r.it) (ks:=EG r.ts++HG (j7 1 r.it) r.ren) (p:=.none) h1 (by rw[hf,b6,NT,Vs];rfl) rfl
  (fun k hk=>(cV.mp hk).elim (fun hk=>by
   obtain⟨t,_,rfl⟩:=dD.mp hk
   exact⟨by cases t<;>rfl,fun σ=>aeg (n:=3) t σ⟩) (r4 k))
  (by rw[hs,b6,Tv,acp];rfl) (by rw[hs];exact JA (uO h) rfl) (by rw[ao];exact au (aK (au (eH (aS ..)) h2) r3) (by decide)) σ
 rw[hf,hs]at q
 exact q
noncomputable def Eu(wk lk:aa)(fk:List (List Nat))(fv so:aa):AV:=.frz Zy [24,25,26,27,31,5] [.lst wk,.lst lk,.dct fk fv,.lst so,.int 0,.dct [] []]
section
variable{σ:AS}{i j:Nat}{l m:aa}
theorem pn:de [] σ=some (.ref σ.next,σ.alloc (.lst [])):=rfl
theorem Er(hi:σ.get i=some (.lst l))(hk:l.length+m.length<=4000000):b4 .Add (.ref i) (.lst m) σ=some (.ref σ.next,σ.alloc (.lst (l++m))):=by
 have h1:iR σ (.ref i)=some l:=jm hi
 show ob (iR σ (.ref i)) _=_
 rw[h1]
 show(bif dB (l.length+m.length)then _ else none)=_
 rw[fV hk];rfl
theorem II(hi:σ.get i=some (.lst l))(hj:σ.get j=some (.lst m))(hk:l.length+m.length<=4000000):b4 .Add (.ref i) (.ref j) σ=some (.ref σ.next,σ.alloc (.lst (l++m))):=by
 have h1:iR σ (.ref i)=some l:=jm hi
 have h2:iR σ (.ref j)=some m:=jm hj
 show ob (iR σ (.ref i)) (fun l=>ob (iR σ (.ref j)) fun m=>bif dB (l.length+m.length)then some (AV.ref σ.next,σ.alloc (.lst (l++m)))else none)=_
 rw[h1,b9,h2,b9,fV hk];rfl
theorem X0(hi:σ.get i=some (.lst l))(hj:σ.get j=some (.lst [])):b5 .NotEq (.ref i) (.ref j) σ=some (!l.isEmpty):=by
 have h1:iR σ (.ref i)=some l:=jm hi
 have h2:iR σ (.ref j)=some []:=jm hj
 show ob (od (iR σ (.ref i)) (fun l=>ob (iR σ (.ref j)) fun m=>bif rv l m then KO (wF 16) l m else some false) _) _=_
 rw[h1,anr,h2]
 cases l<;>rfl
theorem IW(hj:σ.get j=some (.lst [])):b5 .Eq (.lst l) (.ref j) σ=some l.isEmpty:=by
 have h2:iR σ (.ref j)=some []:=jm hj
 show ob (iR σ (.ref j)) (fun m=>bif rv l m then KO (wF 16) l m else some false)=_
 rw[h2]
 cases l<;>rfl
end
def VA:SM:=aV (k8 (cJ (fS fZ) (al 1) (aw (bv (cu 6) (aw (al 2) aJ)) aJ))) bq
theorem Qx{r:Rt}(h:oj r)(σ:AS):iG [.lst [d9 r]] σ=some (.lst (iu r),σ):=by
 have e1:VA [.lst [d9 r],.ref 0,d9 r] (AS.alloc ⟨0,[]⟩ (.lst []))=some (.next [.lst [d9 r],.ref 0,d9 r] ((AS.alloc ⟨0,[]⟩ (.lst [])).set 0 (.lst ([]++iu r)))):=by
  have hu:bX (d9 r)=false:=rfl
  unfold VA
  simp only[dk,Jv,eJ,bk,kI,pg,fq,hu,ae,aX,Ji (i:=0) (σ:=AS.alloc ⟨0,[]⟩ (.lst [])) (l:=[]) rfl,b9,cz,cq,et,VE h,ahg (i:=0) (σ:=AS.alloc ⟨0,[]⟩ (.lst [])) (l:=[]) rfl (au (eH (ic _)) (JA (uO h) rfl)),dF,fJ]
 have e2:gB [2] (al 0) VA [.lst [d9 r],.ref 0] (AS.alloc ⟨0,[]⟩ (.lst []))=some (.next [.lst [d9 r],.ref 0,d9 r] ((AS.alloc ⟨0,[]⟩ (.lst [])).set 0 (.lst (iu r)))):=(zl (l:=[d9 r]) rfl (av rfl)).trans (EL e1)
 have e3:bn 1 [] rR [.lst [d9 r]] ⟨0,[]⟩=some (.ref 0,(AS.alloc ⟨0,[]⟩ (.lst [])).set 0 (.lst (iu r))):=by
  show ob (ob (gB [2] (al 0) VA [.lst [d9 r],.ref 0] (AS.alloc ⟨0,[]⟩ (.lst []))) (gU (aV (eK (al 1)) bq))) ir=_
  rw[e2];rfl
 refine zo (PI:=xt) (by rw[gZ,sB,gZ,K0];rfl) (ay:=((AS.alloc ⟨0,[]⟩ (.lst [])).set 0 (.lst (iu r))).drop 0) ?_ Jg
 show bC (bn 1 [] rR [.lst [d9 r]] ⟨0,[]⟩) (fun a ai=>some (jJ 12 a ai))=_
 rw[e3]
 show some (jJ 12 (.ref 0) _)=_
 rw[xT (l:=iu r) rfl Jg]
noncomputable def cj(a b:ac):List AV:=wK true 8 [wd a,(uQ,b,b.length),KM]
noncomputable def mD:List Nat:=[87,79,82,75,73,78,71,45,83,84,79,82,65,71,69]
noncomputable def pO:List Nat:=[76,73,78,75,65,71,69]
noncomputable def dg:List Nat:=[83,69,67,84,73,79,78]
noncomputable def gV:List Nat:=[70,73,76,69]
noncomputable def jG:List Nat:=[68,65,84,65]
noncomputable def uP:List Nat:=[68,73,86,73,83,73,79,78]
noncomputable def sFD:List Nat:=[70,68]
noncomputable def sSD:List Nat:=[83,68]
noncomputable def sF1:List Nat:=[70,49]
noncomputable def aqG:List Nat:=[79,76,68]
noncomputable def kp(s:Bool):List Nat:=bif s then sSD else sFD
noncomputable def eo(o:Bool):List Nat:=bif o then aqG else sF1
theorem aoo:kL (mD++32::dg++[46]) true=some (cj mD dg):=by kernel_rfl
theorem aon:kL (pO++32::dg++[46]) true=some (cj pO dg):=by kernel_rfl
theorem aom:kL (gV++32::dg++[46]) true=some (cj gV dg):=by kernel_rfl
theorem aol:kL (jG++32::uP++[46]) true=some (cj jG uP):=by kernel_rfl
theorem ap7(o s:Bool):kL (kp s++32::eo o++[46]) true=some (cj (kp s) (eo o)):=by
 cases o<;>cases s<;>kernel_rfl
theorem zu{a b:ac}:aN (cj a b)=true:=zv
def fM(h:aa)(o:Option Rt):List AV:=bo (motive:=fun _=>List AV) [] (fun r=>h++iu r) o
def jn(o:Option Rt):List AV:=bo (motive:=fun _=>List AV) [] (fun r=>[d9 r]) o
def Kl(o:Option Rt):Prop:= ∀r,o=some r->oj r
theorem Yz{h t a b:ac}{o:Option Rt}(he: ∀σ,b4 .Add (.str h) (.str [32,83,69,67,84,73,79,78,46]) σ=some (.str t,σ))(hh:kL t true=some (cj a b))(ho:Kl o)(σ:AS):eP [.str h,.lst (jn o)] σ=some (.lst (fM (cj a b) o),σ):=by
 cases o with
 |none=>
  have e3:bn 2 [] eR [.str h,.lst []] ⟨0,[]⟩=some (.ref 1,AS.alloc (AS.alloc ⟨0,[]⟩ (.lst [])) (.lst [])):=by
   show ob (eR [.str h,.lst []] ⟨0,[]⟩) ir=_
   have hu:bX (.lst [])=false:=rfl
   simp only[eR,dk,j5,fD,bk,kI,pg,hu,ae,aX,b9,et,cq,pn,IW (σ:=AS.alloc ⟨0,[]⟩ (.lst [])) (j:=0) (l:=[]) rfl,Gx,af,ej,dH,gA]
   rfl
  refine zo (PI:=nT) rfl (ay:=AS.drop (AS.alloc (AS.alloc ⟨0,[]⟩ (.lst [])) (.lst [])) 1) ?_ rfl
  show bC (bn 2 [] eR [.str h,.lst []] ⟨0,[]⟩) (fun a ai=>some (jJ 12 a ai))=_
  rw[e3];rfl
 |some r=>
  have hr:=ho r rfl
  have hk:(cj a b).length +(iu r).length <=4000000:=au (aK (b:=3) (eH CT) (uO hr)) (by decide)
  have hn:aN (cj a b++iu r)=true:=by rw[b6,zu,Jg];rfl
  have e3:bn 2 [] eR [.str h,.lst [d9 r]] ⟨0,[]⟩=some (.ref 2,AS.alloc (AS.alloc (AS.alloc ⟨0,[]⟩ (.lst [])) (.lst (cj a b))) (.lst (cj a b++iu r))):=by
   show ob (eR [.str h,.lst [d9 r]] ⟨0,[]⟩) ir=_
   have hu:bX (.lst [d9 r])=false:=rfl
   simp only[eR,dk,j5,fD,bk,kI,pg,hu,mZ,ae,aX,b9,et,cq,cz,d5,pn,IW (σ:=AS.alloc ⟨0,[]⟩ (.lst [])) (j:=0) (l:=[d9 r]) rfl,EX,fJ,dF,ej,jH,he,yo hh zu,Qx hr,Er (σ:=AS.alloc (AS.alloc ⟨0,[]⟩ (.lst [])) (.lst (cj a b))) (i:=(AS.alloc ⟨0,[]⟩ (.lst [])).next) (l:=cj a b) rfl hk,dH,gA]
   rfl
  refine zo (PI:=nT) (by rw[gZ,gZ,show noRef (.lst (jn (some r)))=true from by show aN [d9 r]=true;rw[gZ,K0];rfl];rfl) (ay:=AS.drop (AS.alloc (AS.alloc (AS.alloc ⟨0,[]⟩ (.lst [])) (.lst (cj a b))) (.lst (cj a b++iu r))) 2) ?_ hn
  show bC (bn 2 [] eR [.str h,.lst [d9 r]] ⟨0,[]⟩) (fun a ai=>some (jJ 12 a ai))=_
  rw[e3]
  show some (jJ 12 (.ref 2) _)=_
  rw[xT (l:=cj a b++iu r) rfl hn];rfl
structure DS where
 f:Option (Bool×Bool×Rt)
 w:Option Rt
 l:Option Rt
structure jk(d:DS):Prop where
 f: ∀x,d.f=some x->oj x.2.2/\x.2.2.lvl=1
 w:Kl d.w
 l:Kl d.l
def RQ(d:DS):List (List Nat):=bo (motive:=fun _=>List (List Nat)) [] (fun x=>[eo x.1]) d.f
def PF(d:DS):List AV:=bo (motive:=fun _=>List AV) [] (fun x=>[.lst [d9 x.2.2]]) d.f
def fSo(d:DS):List AV:=bo (motive:=fun _=>List AV) [] (fun x=>bif x.2.1 then[.str (eo x.1)]else[]) d.f
def bK(d:DS):AV:=Eu (jn d.w) (jn d.l) (RQ d) (PF d) (fSo d)
def flT(d:DS):List AV:=bo (motive:=fun _=>List AV) [] (fun x=>cj (kp x.2.1) (eo x.1)++iu x.2.2) d.f
def je(d:DS):List AV:=bo (motive:=fun _=>List AV) [] (fun x=>cj gV dg++(cj (kp x.2.1) (eo x.1)++iu x.2.2)) d.f
def dW(d:DS):List AV:=(je d++fM (cj mD dg) d.w)++fM (cj pO dg) d.l
def gM(d:DS):List AV:=bif (dW d).isEmpty then[]else cj jG uP++dW d
theorem rl{a b:ac}:(cj a b).length=3:=CT
theorem yg{a b:ac}{o:Option Rt}(h:Kl o):(fM (cj a b) o).length <=303:=by
 cases o with
 |none=>exact aU _
 |some r=>
  show(cj a b++iu r).length <=303
  rw[ao,rl];exact dy (uO (h r rfl)) 3
theorem acq{a b:ac}{o:Option Rt}:aN (fM (cj a b) o)=true:=by
 cases o with
 |none=>rfl
 |some r=>
  show aN (cj a b++iu r)=true
  rw[b6,zu,Jg];rfl
theorem Hl{d:DS}(h:jk d):(je d).length <=306:=by
 obtain⟨f,w,l⟩:=d
 cases f with
 |none=>exact aU _
 |some x=>
  show(cj gV dg++(cj (kp x.2.1) (eo x.1)++iu x.2.2)).length <=306
  rw[ao,ao,rl,rl];exact dy (dy (uO (h.f x rfl).1) 3) 3
theorem aiq{d:DS}:aN (je d)=true:=by
 obtain⟨f,w,l⟩:=d
 cases f with
 |none=>rfl
 |some x=>
  show aN (cj gV dg++(cj (kp x.2.1) (eo x.1)++iu x.2.2))=true
  rw[b6,b6,zu,zu,Jg];rfl
theorem Pd{d:DS}(h:jk d):(dW d).length <=1000:=by
 unfold dW
 rw[ao,ao]
 exact au (aK (aK (Hl h) (yg h.w)) (yg h.l)) (by decide)
theorem aip{d:DS}:aN (dW d)=true:=by
 unfold dW;rw[b6,b6,aiq,acq,acq];rfl
theorem Vr{d:DS}:aN (gM d)=true:=by
 unfold gM
 cases (dW d).isEmpty
 ·show aN (cj jG uP++dW d)=true
  rw[b6,zu,aip];rfl
 ·rfl
def KP:SM:=aV (cT [3] (ti (fw (b5 .In) (al 2) (un (aA 27) (al 0))) (ba (.str [83,68,32])) (ba (.str [70,68,32]))))
  (aV (k8 (cJ (fS fZ) (al 1) (aw (bi (b4 .Add) (bv cM (aw (bi (b4 .Add) (bi (b4 .Add) (al 3) (al 2)) (ba (.str [46]))) (aw (ba (.bool true)) aJ))) (bv iG (aw (bi fU (un (aA 26) (al 0)) (al 2)) aJ))) aJ))) bq)
def Et:SM:=sf (fw (b5 .NotEq) (al 1) (bv de aJ)) (aV (cT [1] (bi (b4 .Add) (bv cM (aw (ba (.str [70,73,76,69,32,83,69,67,84,73,79,78,46])) (aw (ba (.bool true)) aJ))) (al 1))) bq) bq
def tf:SM:=cT [1] (bi (b4 .Add) (bi (b4 .Add) (al 1) (bv eP (aw (ba (.str [87,79,82,75,73,78,71,45,83,84,79,82,65,71,69])) (aw (un (aA 24) (al 0)) aJ)))) (bv eP (aw (ba (.str [76,73,78,75,65,71,69])) (aw (un (aA 25) (al 0)) aJ))))
def pe:SM:=aV (eK (ti (fw (b5 .NotEq) (al 1) (bv de aJ)) (bi (b4 .Add) (bv cM (aw (ba (.str [68,65,84,65,32,68,73,86,73,83,73,79,78,46])) (aw (ba (.bool true)) aJ))) (al 1)) (bv de aJ))) bq
theorem agf:pc=aV (cT [1] (bv de aJ)) (aV (gB [2] (un (aA 26) (al 0)) KP) (aV Et (aV tf pe))):=rfl
theorem aet{d:DS}(h:jk d){fr:Fm}{σ:AS}{i:Nat}(h0:gt fr 0=bK d)(h1:gt fr 1= .ref i)(hi:σ.get i=some (.lst (je d)))(hs:i<σ.next): ∃k ai,aV tf pe fr σ=some (.ret (.ref k) ai)/\ai.get k=some (.lst (gM d)):=by
 have hu:bX (bK d)=false:=rfl
 have a24: ∀σ,aA 24 (bK d) σ=some (.lst (jn d.w)):=fun _=>rfl
 have a25: ∀σ,aA 25 (bK d) σ=some (.lst (jn d.l)):=fun _=>rfl
 have s1: ∀σ,eP [.str [87,79,82,75,73,78,71,45,83,84,79,82,65,71,69],.lst (jn d.w)] σ=some (.lst (fM (cj mD dg) d.w),σ):=Yz (fun _=>rfl) aoo h.w
 have s2: ∀σ,eP [.str [76,73,78,75,65,71,69],.lst (jn d.l)] σ=some (.lst (fM (cj pO dg) d.l),σ):=Yz (fun _=>rfl) aon h.l
 have k1:(je d).length +(fM (cj mD dg) d.w).length <=4000000:=au (aK (Hl h) (yg h.w)) (by decide)
 have k2:(je d++fM (cj mD dg) d.w).length +(fM (cj pO dg) d.l).length <=4000000:=by
  rw[ao];exact au (aK (aK (Hl h) (yg h.w)) (yg h.l)) (by decide)
 have e1:=Er (m:=fM (cj mD dg) d.w) hi k1
 have e2:=Er (σ:=σ.alloc (.lst (je d++fM (cj mD dg) d.w))) (i:=σ.next) (l:=je d++fM (cj mD dg) d.w) (m:=fM (cj pO dg) d.l) cn k2
 generalize hσ:(σ.alloc (.lst (je d++fM (cj mD dg) d.w))).alloc (.lst ((je d++fM (cj mD dg) d.w)++fM (cj pO dg) d.l))=aM at e2
 have g2:aM.get (σ.alloc (.lst (je d++fM (cj mD dg) d.w))).next=some (.lst (dW d)):=by rw[<- hσ];exact cn
 have l2:(σ.alloc (.lst (je d++fM (cj mD dg) d.w))).next <aM.next:=by rw[<- hσ];exact bU _
 generalize (σ.alloc (.lst (je d++fM (cj mD dg) d.w))).next=j at e2 g2 l2
 have r2:tf fr σ=some (.next (put fr 1 (.ref j)) aM):=by
  unfold tf
  simp only[fH,jH,bk,h0,h1,hu,fq,ae,aX,et,cz,cq,d5,gm,a24,a25,b9,s1,s2,e1,e2]
 have n1:=X0 (σ:=aM.alloc (.lst [])) (i:=j) (j:=aM.next) (l:=dW d) (dN g2 l2) cn
 have hj:gt (put fr 1 (.ref j)) 1= .ref j:=c9
 cases hb:(dW d).isEmpty with
 |true=>
  refine⟨(aM.alloc (.lst [])).next,(aM.alloc (.lst [])).alloc (.lst []),?_,?_⟩
  ·show ob (tf fr σ) (gU pe)=_
   rw[r2]
   show pe (put fr 1 (.ref j)) aM=_
   unfold pe
   simp only[dk,ej,wH,fD,bk,hj,fq,ae,aX,et,cq,pn,n1,hb,eD,b9,dH]
  ·rw[cn];unfold gM;rw[hb];rfl
 |false=>
  have t1:=yo aol zu (aM.alloc (.lst []))
  have g3:((aM.alloc (.lst [])).alloc (.lst (cj jG uP))).get j=some (.lst (dW d)):=dN (dN g2 l2) (cO l2)
  have e3:=II (σ:=(aM.alloc (.lst [])).alloc (.lst (cj jG uP))) (i:=(aM.alloc (.lst [])).next) (j:=j) cn g3 (au (aK (eH rl) (Pd h)) (by decide))
  refine⟨((aM.alloc (.lst [])).alloc (.lst (cj jG uP))).next,((aM.alloc (.lst [])).alloc (.lst (cj jG uP))).alloc (.lst (cj jG uP++dW d)),?_,?_⟩
  ·show ob (tf fr σ) (gU pe)=_
   rw[r2]
   show pe (put fr 1 (.ref j)) aM=_
   unfold pe
   have t1':cM [.str [68,65,84,65,32,68,73,86,73,83,73,79,78,46],.bool true] (aM.alloc (.lst []))=some (.ref (aM.alloc (.lst [])).next,(aM.alloc (.lst [])).alloc (.lst (cj jG uP))):=t1
   simp only[dk,ej,wH,fD,jH,bk,hj,fq,ae,af,aX,et,cq,cz,d5,pn,n1,hb,fx,b9,t1',e3,dH]
  ·rw[cn];unfold gM;rw[hb];rfl
theorem aae(o s:Bool)(σ:AS):b5 .In (.str (eo o)) (.lst (bif s then[.str (eo o)]else[])) σ=some s:=by cases o<;>cases s<;>rfl
theorem Z9(o:Bool)(v:AV)(σ:AS):fU (.dct [eo o] [v]) (.str (eo o)) σ=some (v,σ):=by cases o<;>rfl
theorem anP(o s:Bool)(σ:AS):b4 .Add (.str (bif s then[83,68,32]else[70,68,32])) (.str (eo o)) σ=some (.str (kp s++32::eo o),σ):=by cases o<;>cases s<;>rfl
theorem anO(o s:Bool)(σ:AS):b4 .Add (.str (kp s++32::eo o)) (.str [46]) σ=some (.str (kp s++32::eo o++[46]),σ):=by cases o<;>cases s<;>rfl
theorem ZX{o s:Bool}{r:Rt}{w l:Option Rt}{fr:Fm}{σ:AS}{i:Nat}(h:oj r)(h0:gt fr 0=bK ⟨some (o,s,r),w,l⟩)(h1:gt fr 1= .ref i)(hi:σ.get i=some (.lst []))(hs:i<σ.next):
  ∃fr' ai,KP (put fr 2 (.str (eo o))) σ=some (.next fr' ai)/\gt fr' 0=bK ⟨some (o,s,r),w,l⟩/\gt fr' 1= .ref i/\ai.get i=some (.lst (cj (kp s) (eo o)++iu r))/\i<ai.next:=by
 have hu:bX (bK ⟨some (o,s,r),w,l⟩)=false:=rfl
 have a26: ∀σ,aA 26 (bK ⟨some (o,s,r),w,l⟩) σ=some (.dct [eo o] [.lst [d9 r]]):=fun _=>rfl
 have a27: ∀σ,aA 27 (bK ⟨some (o,s,r),w,l⟩) σ=some (.lst (bif s then[.str (eo o)]else[])):=fun _=>rfl
 have g0:gt (put fr 2 (.str (eo o))) 0=bK ⟨some (o,s,r),w,l⟩:=(fQ rfl).trans h0
 have g2:gt (put fr 2 (.str (eo o))) 2= .str (eo o):=c9
 have e0:cT [3] (ti (fw (b5 .In) (al 2) (un (aA 27) (al 0))) (ba (.str [83,68,32])) (ba (.str [70,68,32]))) (put fr 2 (.str (eo o))) σ=some (.next (put (put fr 2 (.str (eo o))) 3 (.str (bif s then[83,68,32]else[70,68,32]))) σ):=by
  simp only[fH,wH,fD,bk,g0,g2,hu,mZ,ae,aX,gm,a27,b9,aae,d5]
  cases s<;>rfl
 generalize hf:put (put fr 2 (.str (eo o))) 3 (.str (bif s then[83,68,32]else[70,68,32]))=fr2 at e0
 have f0:gt fr2 0=bK ⟨some (o,s,r),w,l⟩:=by rw[<- hf];exact(fQ rfl).trans g0
 have f1:gt fr2 1= .ref i:=by rw[<- hf];exact(fQ rfl).trans ((fQ rfl).trans h1)
 have f2:gt fr2 2= .str (eo o):=by rw[<- hf];exact(fQ rfl).trans g2
 have f3:gt fr2 3= .str (bif s then[83,68,32]else[70,68,32]):=by rw[<- hf];exact c9
 have t1:=yo (ap7 o s) zu σ
 have k1:(cj (kp s) (eo o)).length +(iu r).length <=4000000:=au (aK (eH rl) (uO h)) (by decide)
 have e1:=Er (σ:=σ.alloc (.lst (cj (kp s) (eo o)))) (i:=σ.next) (l:=cj (kp s) (eo o)) (m:=iu r) cn k1
 generalize hσ:(σ.alloc (.lst (cj (kp s) (eo o)))).alloc (.lst (cj (kp s) (eo o)++iu r))=aM at e1
 have g3:aM.get (σ.alloc (.lst (cj (kp s) (eo o)))).next=some (.lst (cj (kp s) (eo o)++iu r)):=by rw[<- hσ];exact cn
 have g4:aM.get i=some (.lst []):=by rw[<- hσ];exact dN (dN hi hs) (cO hs)
 have l2:i<(σ.alloc (.lst (cj (kp s) (eo o)))).next:=cO hs
 have l3:i<aM.next:=by rw[<- hσ];exact cO (cO hs)
 generalize (σ.alloc (.lst (cj (kp s) (eo o)))).next=j at e1 g3 l2
 have hij:aj i j=false:=by rw[f8];exact decide_eq_false (ct l2)
 have k2:([]:List AV).length +(cj (kp s) (eo o)++iu r).length <=4000000:=by rw[ao];exact au (eH (ic _)) k1
 have e2:=ahh g4 g3 hij k2
 refine⟨fr2,aM.set i (.lst ([]++(cj (kp s) (eo o)++iu r))),?_,f0,f1,eA g4,l3⟩
 show ob (cT [3] (ti (fw (b5 .In) (al 2) (un (aA 27) (al 0))) (ba (.str [83,68,32])) (ba (.str [70,68,32]))) (put fr 2 (.str (eo o))) σ) _=_
 rw[e0]
 show aV _ _ fr2 σ=_
 simp only[dk,Jv,eJ,bk,f0,f1,f2,f3,hu,fq,mZ,ae,aX,Ji hi,b9,cz,cq,et,jH,anP,anO,d5,t1,gm,a26,Z9,Qx h,e1,e2,dF,fJ]
theorem Z5{d:DS}(h:jk d){fr:Fm}{σ:AS}{i:Nat}{L:aa}(h0:gt fr 0=bK d)(h1:gt fr 1= .ref i)(hi:σ.get i=some (.lst L))(hs:i<σ.next)(hL:L=flT d): ∃fr' ai j,Et fr σ=some (.next fr' ai)/\gt fr' 0=bK d/\gt fr' 1= .ref j/\ai.get j=some (.lst (je d))/\j<ai.next:=by
 have n1:=X0 (σ:=σ.alloc (.lst [])) (i:=i) (j:=σ.next) (l:=L) (dN hi hs) cn
 obtain⟨f,w,l⟩:=d
 cases f with
 |none=>
  have hL:L=[]:=hL
  subst hL
  refine⟨fr,σ.alloc (.lst []),i,?_,h0,h1,dN hi hs,cO hs⟩
  unfold Et
  simp only[j5,fD,bk,h1,fq,ae,aX,et,cq,pn,n1,Gx,eD,b9,fJ]
 |some x=>
  have hL:L=cj (kp x.2.1) (eo x.1)++iu x.2.2:=hL
  have he:L.isEmpty=false:=by rw[hL];rfl
  have t1:=yo aom zu (σ.alloc (.lst []))
  have t1':cM [.str [70,73,76,69,32,83,69,67,84,73,79,78,46],.bool true] (σ.alloc (.lst []))=some (.ref (σ.alloc (.lst [])).next,(σ.alloc (.lst [])).alloc (.lst (cj gV dg))):=t1
  have g3:((σ.alloc (.lst [])).alloc (.lst (cj gV dg))).get i=some (.lst L):=dN (dN hi hs) (cO hs)
  have hk:(cj gV dg).length +L.length<=4000000:=by
   rw[hL,ao]
   exact au (aK (eH rl) (aK (eH rl) (uO (h.f x rfl).1))) (by decide)
  have e3:=II (σ:=(σ.alloc (.lst [])).alloc (.lst (cj gV dg))) (i:=(σ.alloc (.lst [])).next) (j:=i) cn g3 hk
  refine⟨put fr 1 (.ref ((σ.alloc (.lst [])).alloc (.lst (cj gV dg))).next),((σ.alloc (.lst [])).alloc (.lst (cj gV dg))).alloc (.lst (cj gV dg++L)),((σ.alloc (.lst [])).alloc (.lst (cj gV dg))).next,?_,(fQ rfl).trans h0,c9,?_,bU _⟩
  ·unfold Et
   simp only[j5,fD,bk,h1,fq,ae,af,aX,et,cq,cz,d5,pn,n1,he,fx,b9,dk,fH,jH,t1',e3,dF,fJ]
  ·rw[cn,hL];rfl
theorem KZ{d:DS}:aN [bK d]=true:=by
 have h: ∀o:Option Rt,aN (jn o)=true:=fun o=>by
  cases o with
  |none=>rfl
  |some r=>show aN [d9 r]=true;rw[gZ,K0];rfl
 obtain⟨f,w,l⟩:=d
 have hf:aN (PF ⟨f,w,l⟩)=true:=by
  cases f with
  |none=>rfl
  |some x=>show aN [.lst [d9 x.2.2]]=true;rw[gZ,sB,gZ,K0];rfl
 have hs:aN (fSo ⟨f,w,l⟩)=true:=by
  cases f with
  |none=>rfl
  |some x=>show aN (bif x.2.1 then[.str (eo x.1)]else[])=true;cases x.2.1<;>rfl
 show(aN [.lst (jn w),.lst (jn l),.dct _ (PF ⟨f,w,l⟩),.lst (fSo ⟨f,w,l⟩),.int 0,.dct [] []]&&true)=true
 rw[gZ,gZ,gZ,gZ,sB,sB,sB,h,h,hs,show noRef (.dct (RQ ⟨f,w,l⟩) (PF ⟨f,w,l⟩))=true from hf];rfl
theorem adj{d:DS}(h:jk d)(σ:AS):ik [bK d] σ=some (.lst (gM d),σ):=by
 have hu:bX (bK d)=false:=rfl
 have start: ∃fr' ai,gB [2] (un (aA 26) (al 0)) KP [bK d,.ref 0] (AS.alloc ⟨0,[]⟩ (.lst []))=some (.next fr' ai)/\gt fr' 0=bK d/\gt fr' 1= .ref 0/\ai.get 0=some (.lst (flT d))/\0<ai.next:=by
  obtain⟨f,w,l⟩:=d
  cases f with
  |none=>exact⟨_,_,rfl,rfl,rfl,rfl,hJ _⟩
  |some x=>
   refine anf (ZX (o:=x.1) (s:=x.2.1) (r:=x.2.2) (w:=w) (l:=l) (fr:=[bK ⟨some (x.1,x.2.1,x.2.2),w,l⟩,.ref 0]) (σ:=AS.alloc ⟨0,[]⟩ (.lst [])) (i:=0) (h.f x rfl).1 rfl rfl rfl (hJ _)) fun fr' ai e h0 h1 h2 h3=> ?_
   exact⟨fr',ai,(show gB [2] (un (aA 26) (al 0)) KP [bK ⟨some x,w,l⟩,.ref 0] (AS.alloc ⟨0,[]⟩ (.lst []))=pI [2] KP [.str (eo x.1)] [bK ⟨some x,w,l⟩,.ref 0] (AS.alloc ⟨0,[]⟩ (.lst [])) from rfl).trans ((EL e).trans rfl),h0,h1,h2,h3⟩
 refine anf (start) fun fr1 gF e1 a0 a1 a2 a3=> ?_
 refine ap1 (Z5 h a0 a1 a2 a3 rfl) fun fr2 g8 j e2 b0 b1 b2 b3=> ?_
 refine SS (aet h b0 b1 b2 b3) fun k qC e3 c1=> ?_
 have e4:bn 1 [] pc [bK d] ⟨0,[]⟩=some (.ref k,qC):=by
  rw[agf]
  show ob (ob (gB [2] (un (aA 26) (al 0)) KP [bK d,.ref 0] (AS.alloc ⟨0,[]⟩ (.lst []))) (gU (aV Et (aV tf pe)))) ir=_
  rw[e1]
  show ob (ob (Et fr1 gF) (gU (aV tf pe))) ir=_
  rw[e2]
  show ob (aV tf pe fr2 g8) ir=_
  rw[e3];rfl
 have e5:rL [bK d] ⟨0,[]⟩=some (.lst (gM d),qC.drop k):=by
  show bC (bn 1 [] pc [bK d] ⟨0,[]⟩) (fun a ai=>some (jJ 12 a ai))=_
  rw[e4]
  show some (jJ 12 (.ref k) _)=_
  rw[xT c1 Vr]
 show pr (pW (jJ 14) [bK d] σ) (fun args' ai=>vU nX rL args' ai)=_
 rw[show pW (jJ 14) [bK d] σ=([bK d],σ) from Qh KZ]
 exact zo KZ e5 Vr
noncomputable def flat:Nat->AV->Bool
 |n,a=>match a with
  | .none=>true
  | .bool _=>true
  | .int _=>true
  | .str _=>true
  | .bytes _=>true
  | .tup l=>match n with
   |0=>false
   |n+1=>l.all (flat n)
  |_=>false
theorem PD(s:ac):dm s s=true:=by rw[kO];exact decide_eq_true rfl
theorem adp(i:Int):KN i i=true:=by cases i<;>exact ze _
theorem ado(b:List UInt8):IV b (.bytes b)=some true:=congrArg some (beq_self_eq_true b)
theorem O5{n:Nat}{a:AV}(h:flat n a=true)(ht:CN a=false):LZ a a=some true:=by
 cases a with
 |none=>rfl
 |bool b=>cases b<;>rfl
 |int i=>exact congrArg some (adp i)
 |str s=>exact congrArg some (PD s)
 |bytes b=>exact ado b
 |tup l=>exact ff ht.symm
 |_=>cases n<;>exact ff h
theorem SY{n:Nat}: ∀{a:AV},flat n a=true->wF n a a=some true:=by
 induction n with
 |zero=>
  intro a h
  refine O5 h ?_
  cases a<;>first|rfl|exact ff h
 |succ n ih=>
  intro a h
  by_cases q: ∃l,a= .tup l
  ·obtain⟨l,rfl⟩:=q
   have h:l.all (flat n)=true:=h
   show KO (wF n) l l=some true
   induction l with
   |nil=>rfl
   |cons a l ihl=>
    obtain⟨h1,h2⟩:=bj.mp (show(flat n a&&l.all (flat n))=true from h)
    show ob (wF n a a) (fun x=>ob (KO (wF n) l l) fun y=>some (x&&y))=_
    rw[ih h1,b9,ihl (by exact h2) (by exact h2)];rfl
  ·have ht:CN a=false:=by cases a<;>first|rfl|exact absurd ⟨_,rfl⟩ q
   show(bif CN a&&CN a then _ else LZ a a)=_
   rw[ht];exact O5 h ht
theorem Hf{i:Nat}{elt:EM}{fr:Fm}{ps:List (AV×AV)}: ∀{σ:AS},(∀p∈ps,∀σ,elt (put fr i p.1) σ=some (p.2,σ))->eI [i] (fun _ σ=>some (true,σ)) elt (ps.map (·.1)) fr σ=some (ps.map (·.2),σ):=by
 induction ps with
 |nil=>exact fun _=>rfl
 |cons p ps ih=>
  intro σ h
  show bC (elt (put fr i p.1) σ) (fun b fW=>bC (eI [i] (fun _ σ=>some (true,σ)) elt (ps.map (·.1)) fr fW) fun l cN=>some (b::l,cN))=_
  rw[h p (bf ..),aX,ih fun q hq=>h q (aQ _ hq)];rfl
theorem NQ{l:aa}{σ:AS}(h:l.length<=4000000):fE σ (.lst l)=some (l,σ):=by
 show(bif dB l.length then some (l,σ)else none)=_
 rw[fV h];rfl
theorem Hh{i:Nat}{it elt:EM}{fr:Fm}{ps:List (AV×AV)}{σ:AS}(hi:it fr σ=some (.lst (ps.map (·.1)),σ))(hl:ps.length<=4000000)(h: ∀p∈ps,∀σ,elt (put fr i p.1) σ=some (p.2,σ)):
  eO [i] it (fun _ σ=>some (true,σ)) elt fr σ=some (.ref σ.next,σ.alloc (.lst (ps.map (·.2)))):=by
 show bC (it fr σ) (fun x ai=>bC (fE ai x) fun l ay=>bC (eI [i] (fun _ σ=>some (true,σ)) elt l fr ay) fun vs aM=>bif dB vs.length then some (AV.ref aM.next,aM.alloc (.lst vs))else none)=_
 rw[hi,aX,NQ (by rw[aS];exact hl),aX,Hf h,aX,fV (by rw[aS];exact hl)];rfl
theorem yq{l:aa}{σ:AS}{j:Nat}(hj:σ.get j=some (.lst l))(h:l.length<=4000000):fi [.ref j] σ=some (.tup l,σ):=by
 show ob (iR σ (.ref j)) (fun l=>bif dB l.length then some (AV.tup l,σ)else none)=_
 rw[show iR σ (.ref j)=some l from jm hj,b9,fV h];rfl
noncomputable def QM(lv nmv cl:AV)(nds kds:aa):AV:=.tup [lv,nmv,cl,.tup nds,.tup kds]
def ndT(n:Nat):AV:=.tup [.str ([73,83,45]++nm n),.tup [.tup [.tup [.str [110,117,109,98,101,114],.tup [.int (-5),.int 0]],.tup [.str [110,117,109,98,101,114],.tup [.int 125,.int 2]]],.tup [.tup [.str [116,101,120,116],.bytes [113]],.none]]]
theorem TV{n:Nat}{it lv nmv cl:AV}{cs ks:List (AV×AV)}(hit:noRef it=true)(hu:bX it=false)(h20: ∀σ,aA 20 it σ=some lv)(h18: ∀σ,aA 18 it σ=some nmv)(h23: ∀σ,aA 23 it σ=some (.lst (cs.map (·.1))))(h22: ∀σ,aA 22 it σ=some (.lst (ks.map (·.1))))(hm: ∀σ,yW it σ=some jp)(hcl: ∀σ,jp [it] σ=some (cl,σ))
  (hc: ∀p∈cs,∀σ,bX p.1=false/\FQ p.1 σ=some nE/\ft [p.1] σ=some (p.2,σ))(hk: ∀p∈ks,∀σ,bX p.1=false/\FQ p.1 σ=some cp/\bG n [p.1] σ=some (p.2,σ))(hcl1:cs.length<=4000000)(hkl:ks.length<=4000000)(hr:noRef (QM lv nmv cl (cs.map (·.2)) (ks.map (·.2)))=true)(σ:AS):
  bG (n+1) [it] σ=some (QM lv nmv cl (cs.map (·.2)) (ks.map (·.2)),σ):=by
 have c1: ∀σ,eO [3] (un (aA 23) (al 0)) (fun _ σ=>some (true,σ)) (cJ (fm nE ft (fm cp (bG n) gP)) (al 3) aJ) [it] σ=some (.ref σ.next,σ.alloc (.lst (cs.map (·.2)))):=fun σ=>Hh (by simp only[gm,bk,kI,hu,ae,aX,h23,b9]) hcl1 fun p hp σ=>by
  obtain⟨u,q1,q2⟩:=hc p hp σ
  have hd:fm nE ft (fm cp (bG n) gP) p.1 σ=some ft:=jm q1
  simp only[eJ,bk,c9,u,ae,aX,hd,b9,cq,q2]
 have c2: ∀fr σ,gt fr 0=it->eO [2] (un (aA 22) (al 0)) (fun _ σ=>some (true,σ)) (cJ (fm nE ft (fm cp (bG n) gP)) (al 2) aJ) fr σ=some (.ref σ.next,σ.alloc (.lst (ks.map (·.2)))):=fun fr σ hf=>Hh (by simp only[gm,bk,hf,hu,ae,aX,h22,b9]) hkl fun p hp σ=>by
  obtain⟨u,q1,q2⟩:=hk p hp σ
  have hd:fm nE ft (fm cp (bG n) gP) p.1 σ=some (bG n):=(jm q1).trans (jm q1)
  simp only[eJ,bk,c9,u,ae,aX,hd,b9,cq,q2]
 have t1: ∀σ:AS,fi [.ref σ.next] (σ.alloc (.lst (cs.map (·.2))))=some (.tup (cs.map (·.2)),σ.alloc (.lst (cs.map (·.2)))):=fun σ=>yq cn (by rw[aS];exact hcl1)
 have t2: ∀σ:AS,fi [.ref σ.next] (σ.alloc (.lst (ks.map (·.2))))=some (.tup (ks.map (·.2)),σ.alloc (.lst (ks.map (·.2)))):=fun σ=>yq cn (by rw[aS];exact hkl)
 have hmk: ∀a b c d e σ,gk [a,b,c,d,e] σ=some (.tup [a,b,c,d,e],σ):=fun _ _ _ _ _ _=>rfl
 have e1: ∀σ:AS,wD (bG n) [it] σ=some (QM lv nmv cl (cs.map (·.2)) (ks.map (·.2)),(σ.alloc (.lst (cs.map (·.2)))).alloc (.lst (ks.map (·.2)))):=fun σ=>by
  show ob (y8 (bG n) [it] σ) ir=_
  have hut:bX (.tup (cs.map (·.2)))=false:=rfl
  simp only[y8,dk,fH,et,cz,cq,c1,aX,t1,b9,dF,sD,sE,putN,ej,gm,bk,kI,pg,hu,hut,ae,h20,h18,eJ,hm,hcl,c2 [it,.tup (cs.map (·.2))] _ rfl,t2,hmk,dH,gA]
  rfl
 exact zo (PI:=wD (bG n)) (by rw[gZ,hit];rfl) (e1 _) hr
theorem uk{n:Nat}: ∀{a:AV},flat n a=true->flat (n+1) a=true:=by
 induction n with
 |zero=>intro a h;cases a<;>first|rfl|exact ff h
 |succ n ih=>
  intro a h
  cases a with
  |tup l=>exact bZ.mpr fun b hb=>ih (bZ.mp (show l.all (flat n)=true from h) b hb)
  |_=>first|rfl|exact ff h
theorem Ex{n k:Nat}{a:AV}(h:flat n a=true):flat (n+k) a=true:=by
 induction k with
 |zero=>exact h
 |succ k ih=>exact uk ih
theorem PG{n:Nat}: ∀{a:AV},flat n a=true->noRef a=true:=by
 induction n with
 |zero=>intro a h;cases a<;>first|rfl|exact ff h
 |succ n ih=>
  intro a h
  cases a with
  |tup l=>
   have h:l.all (flat n)=true:=h
   show aN l=true
   induction l with
   |nil=>rfl
   |cons a l ihl=>
    obtain⟨h1,h2⟩:=bj.mp (show(flat n a&&l.all (flat n))=true from h)
    rw[gZ,ih h1,ihl h2 h2];rfl
  |_=>first|rfl|exact ff h
theorem U9{n:Nat}{a:AV}{l:aa}:(a::l).all (flat n)=(flat n a&&l.all (flat n)):=rfl
noncomputable def ocT(w:Nat):AV:=bif aj w 2 then .tup [.int 3,.int 3,.none,.tup [.tup [.bool false,.str [75]]],.tup [.str [73,88]]]
 else bif aj w 3 then .tup [.int 0,.int 4,.tup [.str [114,101,102],.str [78],.tup [.str [71]],.tup [],.none],.tup [],.tup []]else .none
noncomputable def clT(x:Nat×Nat×Nat):AV:=.tup [x7 x.2.2,.str (anF x.2.1),.str [],.bool false,ocT x.2.1,.str [],.none,.bool false,.bool false,.none]
theorem Tz(p:Nat):tp (x7 p)=some (x7 p)/\flat 1 (x7 p)=true:=by
 unfold x7
 cases aj p 0
 ·cases aj p 1
  ·cases aj p 2<;>exact⟨rfl,rfl⟩
  ·exact⟨rfl,rfl⟩
 ·exact⟨rfl,rfl⟩
theorem x6{P:AV->AV->Prop}{w:Nat}(h0:P .none .none)(h2:P (.frz lK [8,9,7,6,5] [.int 3,.int 3,.none,.tup [.tup [.bool false,.str [75]]],.tup [.str [73,88]]]) (.tup [.int 3,.int 3,.none,.tup [.tup [.bool false,.str [75]]],.tup [.str [73,88]]]))
  (h3:P (.frz lK [8,9,7,6,5] [.int 0,.int 4,.tup [.str [114,101,102],.str [78],.tup [.str [71]],.tup [],.none],.tup [],.tup []]) (.tup [.int 0,.int 4,.tup [.str [114,101,102],.str [78],.tup [.str [71]],.tup [],.none],.tup [],.tup []])):P (Qn w) (ocT w):=by
 unfold Qn ocT
 cases aj w 2
 ·cases aj w 3
  ·exact h0
  ·exact h3
 ·exact h2
theorem L6{it o ot a16 a15 a10 a35 a17 a11 a13 a12 a21:AV}(hu:bX it=false)(h14: ∀σ,aA 14 it σ=some o)(ho: ∀σ,(ti (fw (b5 .Is) (un (aA 14) (al 0)) (ba (.none))) (ba (.none)) (cJ (fm lK i9 gP) (un (aA 14) (al 0)) aJ)) [it] σ=some (ot,σ))(hou:bX ot=false)
  (h16: ∀σ,aA 16 it σ=some a16)(h15: ∀σ,aA 15 it σ=some a15)(h10: ∀σ,aA 10 it σ=some a10)(h35: ∀σ,aA 35 it σ=some a35)(h17: ∀σ,aA 17 it σ=some a17)(h11: ∀σ,aA 11 it σ=some a11)(h13: ∀σ,aA 13 it σ=some a13)(h12: ∀σ,aA 12 it σ=some a12)(h21: ∀σ,aA 21 it σ=some a21)(σ:AS):
  jp [it] σ=some (.tup [a16,a15,a10,a35,ot,a17,a11,a13,a12,a21],σ):=by
 have m6: ∀a b c d e f σ,gk [a,b,c,d,e,f] σ=some (.tup [a,b,c,d,e,f],σ):=fun _ _ _ _ _ _ _=>rfl
 have m4: ∀a b c d σ,gk [a,b,c,d] σ=some (.tup [a,b,c,d],σ):=fun _ _ _ _ _=>rfl
 have ad: ∀a b c d e f g h i j σ,b4 .Add (.tup [a,b,c,d,e,f]) (.tup [g,h,i,j]) σ=some (.tup [a,b,c,d,e,f,g,h,i,j],σ):=fun _ _ _ _ _ _ _ _ _ _ _=>rfl
 show ob (ob (bC ((ti (fw (b5 .Is) (un (aA 14) (al 0)) (ba (.none))) (ba (.none)) (cJ (fm lK i9 gP) (un (aA 14) (al 0)) aJ)) [it] σ) fun v ai=>some (j8.next (put [it] 1 v) ai)) (gU (aV (cT [2] (bv gk (aw (un (aA 16) (al 0)) (aw (un (aA 15) (al 0)) (aw (un (aA 10) (al 0)) (aw (un (aA 35) (al 0)) (aw (al 1) (aw (un (aA 17) (al 0)) aJ))))))))
  (aV (eK (bi (b4 .Add) (al 2) (bv gk (aw (un (aA 11) (al 0)) (aw (un (aA 13) (al 0)) (aw (un (aA 12) (al 0)) (aw (un (aA 21) (al 0)) aJ))))))) bq)))) ir=_
 rw[ho]
 have hut: ∀l,bX (.tup l)=false:=fun _=>rfl
 simp only[aX,b9,dF,sD,sE,putN,dk,fH,et,cz,cq,gm,bk,kI,pg,hu,hou,hut,ae,h16,h15,h10,h35,h17,h11,h13,h12,h21,m6,m4,ej,jH,ad,dH,gA]
theorem ZD{x:Nat×Nat×Nat}{lv:Int}{c k p:AV}(σ:AS):jp [.frz cp gg (.int lv::j9 x c k p .none)] σ=some (clT x,σ):=by
 refine L6 (it:=.frz cp gg (.int lv::j9 x c k p .none)) (o:=Qn x.2.1) (ot:=ocT x.2.1) rfl (fun _=> ?_) (fun σ=> ?_) ?_ (fun _=>(Tz x.2.2).1) (fun _=>rfl) (fun _=>rfl) (fun _=>rfl) (fun _=>rfl) (fun _=>rfl) (fun _=>rfl) (fun _=>rfl) (fun _=>rfl) σ
 ·exact x6 (P:=fun o _=>tp o=some o) rfl rfl rfl
 ·have h: ∀σ,aA 14 (.frz cp gg (.int lv::j9 x c k p .none)) σ=some (Qn x.2.1):=fun _=>x6 (P:=fun o _=>tp o=some o) rfl rfl rfl
  have hu:bX (.frz cp gg (.int lv::j9 x c k p .none))=false:=rfl
  revert h hu
  generalize AV.frz cp gg (.int lv::j9 x c k p .none)=it
  intro h hu
  simp only[wH,fD,gm,bk,kI,hu,ae,aX,h,b9,d5,ahX,eJ,cq]
  exact x6 (P:=fun o t=>(bC (ob (lM o) fun r=>some (r,σ)) fun t' ai=>bif t' then some (AV.none,ai)else ob (fm lK i9 gP o ai) fun F=>F [o] ai)=some (t,σ)) rfl rfl rfl
 ·exact x6 (P:=fun _ t=>bX t=false) rfl rfl rfl
theorem ade(x:Nat×Nat×Nat):flat 6 (clT x)=true:=by
 have h1:flat 5 (x7 x.2.2)=true:=Ex (n:=1) (k:=4) (Tz x.2.2).2
 have h2:flat 5 (ocT x.2.1)=true:=x6 (P:=fun _ t=>flat 5 t=true) rfl rfl rfl
 show(flat 5 (x7 x.2.2)&&(true&&(true&&(true&&(flat 5 (ocT x.2.1)&&true)))))=true
 rw[h1,h2];rfl
theorem aeb(n:Nat):flat 5 (ndT n)=true:=rfl
def XZ(lvl:Nat)(l:Lf):List AV:=bif l.c then[ndT (j7 lvl l)]else[]
def Hq(lvl:Nat)(l:Lf)(kds:aa):AV:=QM (.int (am lvl)) (.str (nm (j7 lvl l))) (clT (kd lvl l.i)) (XZ lvl l) kds
theorem rm{n lvl:Nat}{l:Lf}{kds:aa}(h:kds.all (flat (n+5))=true):flat (n+7) (Hq lvl l kds)=true:=by
 have h1:flat (n+6) (clT (kd lvl l.i))=true:=lz 6 n▸Ex (k:=n) (ade (kd lvl l.i))
 have h2:(XZ lvl l).all (flat (n+5))=true:=by
  unfold XZ
  cases l.c
  ·rfl
  ·show(flat (n+5) (ndT (j7 lvl l))&&true)=true
   rw[show flat (n+5) (ndT (j7 lvl l))=true from lz 5 n▸Ex (k:=n) (aeb (j7 lvl l))];rfl
 show(true&&(true&&(flat (n+6) (clT (kd lvl l.i))&&((XZ lvl l).all (flat (n+5))&&(kds.all (flat (n+5))&&true)))))=true
 rw[h1,h2,h];rfl
theorem zL{n m lvl:Nat}{l:Lf}{ks:List (AV×AV)}{p:AV}(hks:aN (ks.map (·.1))=true)(hp:noRef p=true)(hk: ∀q∈ks,∀σ,bX q.1=false/\FQ q.1 σ=some cp/\bG n [q.1] σ=some (q.2,σ))(hkl:ks.length<=4000000)(hf:(ks.map (·.2)).all (flat (m+5))=true)(σ:AS):
  bG (n+1) [pj lvl l (ks.map (·.1)) p] σ=some (Hq lvl l (ks.map (·.2)),σ):=by
 have hit:noRef (pj lvl l (ks.map (·.1)) p)=true:=by
  show(true&&aN (j9 _ _ _ _ _))=true
  rw[Hx,Hw,sB,hks,hp];rfl
 have hr:=PG (rm (n:=m) (lvl:=lvl) (l:=l) hf)
 have key: ∀cs:List (AV×AV),conds lvl l= .lst (cs.map (·.1))->cs.map (·.2)=XZ lvl l->cs.length<=4000000->(∀q∈cs,∀σ,bX q.1=false/\FQ q.1 σ=some nE/\ft [q.1] σ=some (q.2,σ))->bG (n+1) [pj lvl l (ks.map (·.1)) p] σ=some (Hq lvl l (ks.map (·.2)),σ):=fun cs h1 h2 h3 h4=>by
  have h:=TV (n:=n) (it:=pj lvl l (ks.map (·.1)) p) (lv:=.int (am lvl)) (nmv:=.str (nm (j7 lvl l))) (cl:=clT (kd lvl l.i)) (cs:=cs) (ks:=ks) hit rfl (fun _=>rfl) (fun _=>rfl) (fun σ=> ?_) (fun _=>rfl) (fun _=>rfl) (fun _=>ZD _) h4 hk h3 hkl (by rw[h2];exact hr) σ
  ·rw[h2]at h;exact h
  ·rw[<- h1]
   obtain⟨i,c⟩:=l
   cases c<;>rfl
 obtain⟨i,c⟩:=l
 cases c with
 |false=>exact key [] rfl rfl (aU _) fun _ h=>absurd h bg
 |true=>exact key [(qt (j7 lvl ⟨i,true⟩),ndT (j7 lvl ⟨i,true⟩))] rfl rfl (av rfl) fun q hq σ=>(aO.mp hq)▸⟨rfl,rfl,rfl⟩
def rnC(l:Nat):AV:=.tup [.none,.str [],.str [],.bool false,.none,.str [],.none,.bool false,.bool false,ye l]
def TE(n l:Nat):AV:=QM (.int 66) (.str (nm n)) (rnC l) [] []
theorem NV{P:AV->Prop}(h0:P (.tup [.str (nm 16),.none]))(h1:P (.tup [.str (nm 16),.str (nm 22)]))(l:Nat):P (ye l):=by
 cases l with
 |zero=>exact h0
 |succ l=>exact h1
theorem Qv(n l:Nat):flat 6 (TE n l)=true:=by
 have h:flat 4 (ye l)=true:=NV (P:=fun a=>flat 4 a=true) rfl rfl l
 show(true&&(true&&((true&&(true&&(true&&(true&&(true&&(true&&(true&&(true&&(true&&(flat 4 (ye l)&&true))))))))))&&(true&&(true&&true)))))=true
 rw[h];rfl
theorem afe{n i l:Nat}(σ:AS):bG (n+1) [.frz cp gg (ke i l .opq)] σ=some (TE i l,σ):=by
 have hrn:noRef (ye l)=true:=NV (P:=fun a=>noRef a=true) rfl rfl l
 have hit:noRef (.frz cp gg (ke i l .opq))=true:=by
  show aN (ke i l .opq)=true
  simp only[ke,gZ,X8,X6,X4,X3,aco,sB,hrn,X7,rC]
 exact TV (n:=n) (it:=.frz cp gg (ke i l .opq)) (lv:=.int 66) (nmv:=.str (nm i)) (cl:=rnC l) (cs:=[]) (ks:=[]) hit rfl (fun _=>rfl) (fun _=>rfl) (fun _=>rfl) (fun _=>rfl) (fun _=>rfl)
  (fun σ=>L6 (it:=.frz cp gg (ke i l .opq)) (o:=.none) (ot:=.none) (a21:=ye l) rfl (fun _=>rfl) (fun _=>rfl) rfl (fun _=>rfl) (fun _=>rfl) (fun _=>rfl) (fun _=>rfl) (fun _=>rfl) (fun _=>rfl) (fun _=>rfl) (fun _=>rfl) (fun _=>NV (P:=fun a=>tp a=some a) rfl rfl l) σ)
  (fun _ h=>absurd h bg) (fun _ h=>absurd h bg) (aU _) (aU _) (PG (Qv i l)) σ
def CU(lvl:Nat)(l:Lf):AV:=Hq lvl l []
theorem KT(lvl:Nat)(l:Lf):flat 7 (CU lvl l)=true:=rm (n:=0) rfl
theorem JQ{n lvl:Nat}{l:Lf}(σ:AS):bG (n+1) [ou lvl l .opq] σ=some (CU lvl l,σ):=zL (m:=0) (ks:=[]) rfl rfl (fun _ h=>absurd h bg) (aU _) rfl σ
def JP(t:Tn):AV:=match t with
 | .leaf l=>CU 5 l
 | .grp g a=>Hq 5 g [CU 10 a]
 | .grp2 g a b=>Hq 5 g [CU 10 a,CU 10 b]
theorem abb(t:Tn):flat 9 (JP t)=true:=by
 have h: ∀a,flat 7 (CU 10 a)=true:=KT 10
 cases t with
 |leaf l=>exact uk (uk (KT 5 l))
 |grp g a=>exact rm (n:=2) (by rw[U9];show(flat 7 (CU 10 a)&&true)=true;rw[h];rfl)
 |grp2 g a b=>exact rm (n:=2) (by rw[U9,U9];show(flat 7 (CU 10 a)&&(flat 7 (CU 10 b)&&true))=true;rw[h,h];rfl)
theorem akM{n:Nat}(t:Tn)(σ:AS):bG (n+2) [sO t] σ=some (JP t,σ):=by
 have h: ∀a,flat 7 (CU 10 a)=true:=KT 10
 cases t with
 |leaf l=>exact JQ (n:=n+1) σ
 |grp g a=>exact zL (n:=n+1) (m:=2) (lvl:=5) (l:=g) (ks:=[(ou 10 a .opq,CU 10 a)]) (p:=.opq) (by rw[bh,jU,gZ,qu];rfl) rfl (fun q hq σ=>(aO.mp hq)▸⟨rfl,rfl,JQ σ⟩) (av rfl) (by show(flat 7 (CU 10 a)&&true)=true;rw[h];rfl) σ
 |grp2 g a b=>exact zL (n:=n+1) (m:=2) (lvl:=5) (l:=g) (ks:=[(ou 10 a .opq,CU 10 a),(ou 10 b .opq,CU 10 b)]) (p:=.opq) (by rw[bh,bh,jU,gZ,gZ,qu,qu];rfl) rfl (fun q hq σ=>(aG.mp hq).elim (fun h=>h▸⟨rfl,rfl,JQ σ⟩) fun hq=>(aO.mp hq)▸⟨rfl,rfl,JQ σ⟩) (av rfl) (by show(flat 7 (CU 10 a)&&(flat 7 (CU 10 b)&&true))=true;rw[h,h];rfl) σ
def Qw(i n:Nat):List AV:=hH (motive:=fun _=>List AV) [] (fun l _=>[TE (17+i) l]) n
def Jt(r:Rt):AV:=Hq r.lvl r.it (r.ts.map JP++Qw (j7 1 r.it) r.ren)
theorem Ti(r:Rt):(r.ts.map JP++Qw (j7 1 r.it) r.ren).all (flat 9)=true:=by
 rw[oM]
 have h1:(r.ts.map JP).all (flat 9)=true:=bZ.mpr fun a ha=>by
  obtain⟨t,_,rfl⟩:=dD.mp ha
  exact abb t
 have h2:(Qw (j7 1 r.it) r.ren).all (flat 9)=true:=by
  cases r.ren with
  |zero=>rfl
  |succ l=>
   show(flat 9 (TE (17+j7 1 r.it) l)&&true)=true
   rw[show flat 9 (TE (17+j7 1 r.it) l)=true from Ex (n:=6) (k:=3) (Qv _ _)];rfl
 rw[h1,h2];rfl
theorem Qy(r:Rt):flat 11 (Jt r)=true:=rm (n:=4) (Ti r)
theorem akL{r:Rt}(h:r.ts.length<=8)(σ:AS):bG 6 [d9 r] σ=some (Jt r,σ):=by
 have hr: ∃ks:List (AV×AV),ks.map (·.1)=qS r/\ks.map (·.2)=Qw (j7 1 r.it) r.ren/\ks.length<=1/\ ∀k∈ks,∀σ,bX k.1=false/\FQ k.1 σ=some cp/\bG 5 [k.1] σ=some (k.2,σ):=by
  obtain⟨lv,it,ts,n⟩:=r
  cases n with
  |zero=>exact⟨[],rfl,rfl,aU _,fun _ h=>absurd h bg⟩
  |succ l=>exact⟨[(.frz cp gg (ke (17+j7 1 it) l .opq),TE (17+j7 1 it) l)],rfl,rfl,ax _,fun k hk σ=>(aO.mp hk)▸⟨rfl,rfl,afe σ⟩⟩
 obtain⟨ks,r1,r2,r3,r4⟩:=hr
 have hf:(r.ts.map (fun t=>(sO t,JP t))++ks).map (·.1)=DL r.ts++qS r:=by
  rw[br,r1,gL]
  refine congrArg (· ++qS r) ?_
  induction r.ts with
  |nil=>rfl
  |cons t ts ih=>exact congrArg (sO t:: ·) ih
 have hs:(r.ts.map (fun t=>(sO t,JP t))++ks).map (·.2)=r.ts.map JP++Qw (j7 1 r.it) r.ren:=by
  rw[br,r2,gL];rfl
 have q:=zL (n:=5) (m:=4) (lvl:=r.lvl) (l:=r.it) (ks:=r.ts.map (fun t=>(sO t,JP t))++ks) (p:=.none) (by rw[hf,b6,NT,Vs];rfl) rfl
  (fun q hq σ=>(cV.mp hq).elim (fun hq=>by
   obtain⟨t,_,rfl⟩:=dD.mp hq
   exact⟨by cases t<;>rfl,by cases t<;>rfl,akM (n:=3) t σ⟩) fun hq=>r4 q hq σ)
  (by rw[ao,aS];exact au (aK h r3) (by decide))
  (by rw[hs];exact Ti r) σ
 rw[hf,hs]at q
 exact q
def kB(o:Option Rt):List AV:=bo (motive:=fun _=>List AV) [] (fun r=>[Jt r]) o
def PE(d:DS):List AV:=bo (motive:=fun _=>List AV) [] (fun x=>[.tup [.str (eo x.1),.bool x.2.1,.tup [Jt x.2.2]]]) d.f
def agn(d:DS):AV:=.tup [.tup (kB d.w),.tup (kB d.l),.tup (PE d)]
theorem Yv(o:Option Rt):(kB o).all (flat 11)=true:=by
 cases o with
 |none=>rfl
 |some r=>
  show(flat 11 (Jt r)&&true)=true
  rw[Qy];rfl
theorem Pv(d:DS):flat 16 (agn d)=true:=by
 have up: ∀o,(kB o).all (flat 14)=true:=fun o=>bZ.mpr fun a ha=>uk (uk (uk (bZ.mp (Yv o) a ha)))
 have hf:(PE d).all (flat 14)=true:=by
  obtain⟨f,w,l⟩:=d
  cases f with
  |none=>rfl
  |some x=>
   show((true&&(true&&((flat 12 (Jt x.2.2)&&true)&&true)))&&true)=true
   have:flat 12 (Jt x.2.2)=true:=uk (Qy x.2.2)
   rw[this];rfl
 show(((kB d.w).all (flat 14))&&((kB d.l).all (flat 14)&&((PE d).all (flat 14)&&true)))=true
 rw[up,up,hf];rfl
theorem Pw{i:Nat}{it elt:EM}{fr:Fm}{ps:List (AV×AV)}{σ:AS}{x:AV}(hi:it fr σ=some (x,σ))(hx:fE σ x=some (ps.map (·.1),σ))(hl:ps.length<=4000000)(h: ∀p∈ps,∀σ,∃ai,elt (put fr i p.1) σ=some (p.2,ai)):
  ∃ai:AS,eO [i] it (fun _ σ=>some (true,σ)) elt fr σ=some (.ref ai.next,ai.alloc (.lst (ps.map (·.2)))):=by
 have hc: ∀(ps:List (AV×AV)),(∀p∈ps,∀σ,∃ai,elt (put fr i p.1) σ=some (p.2,ai))-> ∀σ,∃ai,eI [i] (fun _ σ=>some (true,σ)) elt (ps.map (·.1)) fr σ=some (ps.map (·.2),ai):=fun ps=>by
  induction ps with
  |nil=>exact fun _ σ=>⟨σ,rfl⟩
  |cons p ps ih=>
   intro h σ
   obtain⟨gF,e1⟩:=h p (bf ..) σ
   obtain⟨g8,e2⟩:=ih (fun q hq=>h q (aQ _ hq)) gF
   refine⟨g8,?_⟩
   show bC (elt (put fr i p.1) σ) (fun b fW=>bC (eI [i] (fun _ σ=>some (true,σ)) elt (ps.map (·.1)) fr fW) fun l cN=>some (b::l,cN))=_
   rw[e1,aX,e2];rfl
 obtain⟨ai,e⟩:=hc ps h σ
 refine⟨ai,?_⟩
 show bC (it fr σ) (fun x ai=>bC (fE ai x) fun l ay=>bC (eI [i] (fun _ σ=>some (true,σ)) elt l fr ay) fun vs aM=>bif dB vs.length then some (AV.ref aM.next,aM.alloc (.lst vs))else none)=_
 rw[hi,aX,hx,aX,e,aX,fV (by rw[aS];exact hl)];rfl
theorem Kl.ts{o:Option Rt}(h:Kl o): ∀r,o=some r->r.ts.length<=8:=fun r e=>au (h r e).lv.2 (by decide)
def rtP(o:Option Rt):List (AV×AV):=bo (motive:=fun _=>List (AV×AV)) [] (fun r=>[(d9 r,Jt r)]) o
theorem Dq{o:Option Rt}(h: ∀r,o=some r->r.ts.length<=8){i:Nat}{it:EM}{fr:Fm}{σ:AS}(hi:it fr σ=some (.lst (jn o),σ)):eO [i] it (fun _ σ=>some (true,σ)) (cJ (fm cp (bG 6) gP) (al i) aJ) fr σ=some (.ref σ.next,σ.alloc (.lst (kB o))):=by
 have h1:(rtP o).map (·.1)=jn o/\(rtP o).map (·.2)=kB o/\(rtP o).length <=4000000:=by cases o<;>exact⟨rfl,rfl,av rfl⟩
 rw[<- h1.2.1]
 refine Hh (ps:=rtP o) (by rw[h1.1];exact hi) h1.2.2 fun p hp σ=> ?_
 cases o with
 |none=>exact absurd hp bg
 |some r=>
  rw[aO.mp hp]
  have hd:fm cp (bG 6) gP (d9 r) σ=some (bG 6):=rfl
  have hu:bX (d9 r)=false:=rfl
  simp only[eJ,bk,c9,hu,ae,aX,hd,b9,cq,akL (h r rfl)]
theorem abc{d:DS}(h:jk d)(σ:AS):s7 [bK d] σ=some (agn d,σ):=by
 have hu:bX (bK d)=false:=rfl
 have a24: ∀σ,aA 24 (bK d) σ=some (.lst (jn d.w)):=fun _=>rfl
 have a25: ∀σ,aA 25 (bK d) σ=some (.lst (jn d.l)):=fun _=>rfl
 have start: ∀σ,∃ai,cT [1] (bv fi (aw (eO [4] (un (aA 26) (al 0)) (fun _ σ=>some (true,σ)) (bv gk (aw (al 4) (aw (rW (fw (b5 .In) (al 4) (un (aA 27) (al 0)))) (aw (bv fi (aw (eO [5] (bi fU (un (aA 26) (al 0)) (al 4)) (fun _ σ=>some (true,σ)) (cJ (fm cp (bG 6) gP) (al 5) aJ)) aJ)) aJ))))) aJ)) [bK d] σ=some (.next [bK d,.tup (PE d)] ai):=fun σ=>by
  have hc: ∃ai:AS,eO [4] (un (aA 26) (al 0)) (fun _ σ=>some (true,σ)) (bv gk (aw (al 4) (aw (rW (fw (b5 .In) (al 4) (un (aA 27) (al 0)))) (aw (bv fi (aw (eO [5] (bi fU (un (aA 26) (al 0)) (al 4)) (fun _ σ=>some (true,σ)) (cJ (fm cp (bG 6) gP) (al 5) aJ)) aJ)) aJ)))) [bK d] σ=some (.ref ai.next,ai.alloc (.lst (PE d)))/\(PE d).length <=4000000:=by
   obtain⟨f,w,l⟩:=d
   cases f with
   |none=>
    obtain⟨ai,e⟩:=Pw (i:=4) (it:=un (aA 26) (al 0)) (elt:=bv gk (aw (al 4) (aw (rW (fw (b5 .In) (al 4) (un (aA 27) (al 0)))) (aw (bv fi (aw (eO [5] (bi fU (un (aA 26) (al 0)) (al 4)) (fun _ σ=>some (true,σ)) (cJ (fm cp (bG 6) gP) (al 5) aJ)) aJ)) aJ)))) (fr:=[bK ⟨none,w,l⟩]) (ps:=[]) (σ:=σ) (x:=.dct [] []) rfl rfl (aU _) (fun _ h=>absurd h bg)
    exact⟨ai,e,aU _⟩
   |some x=>
    obtain⟨o,s,r⟩:=x
    have hr: ∀r',some r=some r'->r'.ts.length<=8:=fun r' e=>by cases e;exact au (h.f _ rfl).1.lv.2 (by decide)
    obtain⟨ai,e⟩:=Pw (i:=4) (it:=un (aA 26) (al 0)) (elt:=bv gk (aw (al 4) (aw (rW (fw (b5 .In) (al 4) (un (aA 27) (al 0)))) (aw (bv fi (aw (eO [5] (bi fU (un (aA 26) (al 0)) (al 4)) (fun _ σ=>some (true,σ)) (cJ (fm cp (bG 6) gP) (al 5) aJ)) aJ)) aJ)))) (fr:=[bK ⟨some (o,s,r),w,l⟩]) (ps:=[(.str (eo o),.tup [.str (eo o),.bool s,.tup [Jt r]])]) (σ:=σ) (x:=.dct [eo o] [.lst [d9 r]]) rfl rfl (av rfl) (fun p hp σ=>by
     rw[aO.mp hp]
     have a26: ∀σ,aA 26 (bK ⟨some (o,s,r),w,l⟩) σ=some (.dct [eo o] [.lst [d9 r]]):=fun _=>rfl
     have a27: ∀σ,aA 27 (bK ⟨some (o,s,r),w,l⟩) σ=some (.lst (bif s then[.str (eo o)]else[])):=fun _=>rfl
     have g0:gt (put [bK ⟨some (o,s,r),w,l⟩] 4 (.str (eo o))) 0=bK ⟨some (o,s,r),w,l⟩:=rfl
     have m3: ∀a b c σ,gk [a,b,c] σ=some (.tup [a,b,c],σ):=fun _ _ _ _=>rfl
     have hrt:=Dq (o:=some r) hr (i:=5) (it:=bi fU (un (aA 26) (al 0)) (al 4)) (fr:=put [bK ⟨some (o,s,r),w,l⟩] 4 (.str (eo o))) (σ:=σ) (by simp only[jH,gm,bk,g0,c9,hu,mZ,ae,aX,a26,b9,Z9];rfl)
     have ht:=yq (σ:=σ.alloc (.lst (kB (some r)))) (j:=σ.next) cn (show(kB (some r)).length <=4000000 from av rfl)
     exact⟨_,by
      simp only[et,cz,cq,bk,c9,g0,hu,mZ,ae,aX,wL,fD,gm,a27,b9,aae,hrt,ht,m3]
      rfl⟩)
    exact⟨ai,e,av rfl⟩
  refine eX (hc) fun ai e hl=> ?_
  have ht:=yq (σ:=ai.alloc (.lst (PE d))) (j:=ai.next) cn hl
  exact⟨ai.alloc (.lst (PE d)),by simp only[fH,et,cz,cq,e,aX,ht,sD,sE,putN]⟩
 obtain⟨gF,e1⟩:=start ⟨0,[]⟩
 have c3:=Dq h.w.ts (i:=3) (it:=un (aA 24) (al 0)) (fr:=[bK d,.tup (PE d)]) (σ:=gF) (by simp only[gm,bk,kI,hu,ae,aX,a24,b9])
 have c2:=Dq h.l.ts (i:=2) (it:=un (aA 25) (al 0)) (fr:=[bK d,.tup (PE d)]) (σ:=gF.alloc (.lst (kB d.w))) (by simp only[gm,bk,kI,hu,ae,aX,a25,b9])
 have t3:=yq (σ:=gF.alloc (.lst (kB d.w))) (j:=gF.next) cn (show(kB d.w).length <=4000000 by cases d.w<;>exact av rfl)
 have t2:=yq (σ:=(gF.alloc (.lst (kB d.w))).alloc (.lst (kB d.l))) (j:=(gF.alloc (.lst (kB d.w))).next) cn (show(kB d.l).length <=4000000 by cases d.l<;>exact av rfl)
 have m3: ∀a b c σ,gk [a,b,c] σ=some (.tup [a,b,c],σ):=fun _ _ _ _=>rfl
 have e2:wC [bK d] ⟨0,[]⟩=some (agn d,(gF.alloc (.lst (kB d.w))).alloc (.lst (kB d.l))):=by
  show ob (ob (cT [1] _ [bK d] ⟨0,[]⟩) (gU (aV (eK (bv gk (aw (bv fi (aw (eO [3] (un (aA 24) (al 0)) (fun _ σ=>some (true,σ)) (cJ (fm cp (bG 6) gP) (al 3) aJ)) aJ)) (aw (bv fi (aw (eO [2] (un (aA 25) (al 0)) (fun _ σ=>some (true,σ)) (cJ (fm cp (bG 6) gP) (al 2) aJ)) aJ)) (aw (al 1) aJ))))) bq))) ir=_
  rw[e1]
  have hut:bX (.tup (PE d))=false:=rfl
  simp only[b9,dF,dk,ej,et,cz,cq,c3,c2,aX,t3,t2,bk,kI,pg,hut,ae,m3,dH,gA]
  rfl
 exact zo (PI:=wC) KZ e2 (PG (Pv d))
def rtX(lvl:Nat)(code:ac):AV:=.frz cp gg (.int (am lvl)::Dr (Bk (lvl::code)))
noncomputable def mX(lvl:Nat)(code:ac):List AV:=[.frz 0 (4::lvl::code) [],YN]
def mF(f:Option (Bool×Bool×List Nat)):List AV:=bo (motive:=fun _=>List AV) [] (fun x=>cj gV dg++(cj (kp x.2.1) (eo x.1)++mX 1 x.2.2)) f
def mS(h:aa)(o:Option (Nat×List Nat)):List AV:=bo (motive:=fun _=>List AV) [] (fun x=>h++mX x.1 x.2) o
def mB(f:Option (Bool×Bool×List Nat))(w l:Option (Nat×List Nat)):List AV:=(mF f++mS (cj mD dg) w)++mS (cj pO dg) l
def mA(f:Option (Bool×Bool×List Nat))(w l:Option (Nat×List Nat)):List AV:=bif (mB f w l).isEmpty then[]else cj jG uP++mB f w l
def xL(o:Option (Nat×List Nat)):List AV:=bo (motive:=fun _=>List AV) [] (fun x=>[rtX x.1 x.2]) o
def xD(f:Option (Bool×Bool×List Nat))(w l:Option (Nat×List Nat)):AV:=Eu (xL w) (xL l) (bo (motive:=fun _=>List (List Nat)) [] (fun x=>[eo x.1]) f) (bo (motive:=fun _=>List AV) [] (fun x=>[.lst [rtX 1 x.2.2]]) f) (bo (motive:=fun _=>List AV) [] (fun x=>bif x.2.1 then[.str (eo x.1)]else[]) f)
def rdO(f:Option (Bool×Bool×List Nat))(w l:Option (Nat×List Nat)):Option (AV×Nat×List AV):=bC (FE [.ref 0] ⟨1,[(0,.orc 1021 (mA f w l))]⟩) fun a σ=>sC σ 0 fun k l=>some (a,k,l)
theorem aiM(f:Option (Bool×Bool×List Nat))(w l:Option (Nat×List Nat)):rdO f w l=some (xD f w l,1021,[]):=by
 rcases f with _|⟨_|_,_|_,cf⟩<;>rcases w with _|⟨lw,cw⟩<;>rcases l with _|⟨ll,cl⟩<;>kernel_rfl
section
noncomputable def xM(r:Rt):List Nat:=Xr r.it++r.ren::(r.ts.map ZT).flatten
noncomputable def FS(d:DS):Option (Bool×Bool×List Nat):=d.f.map fun x=>(x.1,x.2.1,xM x.2.2)
noncomputable def jI(o:Option Rt):Option (Nat×List Nat):=o.map fun r=>(r.lvl,xM r)
def Pu(d:DS):List AV:=mA (FS d) (jI d.w) (jI d.l)
theorem oj.ts8{r:Rt}(h:oj r):r.ts.length<=8:=au h.lv.2 (by decide)
theorem VG{r:Rt}(h:r.ts.length<=8):rtX r.lvl (xM r)=d9 r:=by
 unfold rtX
 rw[show r.lvl::xM r=Xs r from rfl,NK r h];rfl
theorem ak7{o:Option Rt}(h:Kl o):xL (jI o)=jn o:=by
 cases o with
 |none=>rfl
 |some r=>exact congrArg (fun a=>[a]) (VG (h r rfl).ts8)
theorem apF{d:DS}(h:jk d):xD (FS d) (jI d.w) (jI d.l)=bK d:=by
 unfold xD bK
 rw[ak7 h.w,ak7 h.l]
 obtain⟨f,w,l⟩:=d
 cases f with
 |none=>rfl
 |some x=>
  obtain⟨h1,h2⟩:=h.f x rfl
  show Eu _ _ [eo x.1] [.lst [rtX 1 (xM x.2.2)]] _=Eu _ _ [eo x.1] [.lst [d9 x.2.2]] _
  rw[<- h2,VG h1.ts8];rfl
theorem Qt{d:DS}(h:jk d){σ:AS}{x:Nat}{L:aa}(hx:σ.get x=some (.orc 1021 L)):o5 [.ref x] (σ.set x (.orc 1021 (Pu d)))=some (bK d,σ.set x (.orc 1021 [])):=by
 have hr:=aiM (FS d) (jI d.w) (jI d.l)
 rw[apF h]at hr
 refine fR hr fun a ay h1 hr=>F3 hr fun k l' h0 hr=> ?_
 have hr:=aH hr
 cases hr
 exact S9 hx h1 h0 (by have:=KZ (d:=d);exact aE (show(noRef (bK d)&&aN [])=true from this) fun h _=>h)
theorem Hk{lvl:Nat}{l:Lf}(h:rr lvl=true):xp iC (rU (Hi lvl l))=dT lvl l:=by
 obtain⟨i,c⟩:=l
 have h1:iC [1,lvl,i]=ku lvl (kd lvl i):=by
  show(bif rr lvl then ku lvl (kd lvl i)else bad)=_
  rw[h];rfl
 have h2:iC [2,lvl,i]=fF (kd lvl i).1:=by
  show(bif bw (kd lvl i).1 17 then fF (kd lvl i).1 else bad)=_
  rw[Hb (ah1 lvl i)];rfl
 cases c with
 |false=>exact(congrArg (· ++[]) h1)
 |true=>
  show iC [1,lvl,i]++(iC [2,lvl,i]++[])=ku lvl (kd lvl i)++fF (kd lvl i).1
  rw[h1,h2,aR]
theorem aqN(t:Tn):xp iC (rU (abX t))=vj t:=by
 cases t with
 |leaf l=>exact Hk rfl
 |grp g a=>
  show xp iC (rU (Hi 5 g++Hi 10 a))=dT 5 g++dT 10 a
  rw[kK,zO,Hk rfl,Hk rfl]
 |grp2 g a b=>
  show xp iC (rU (Hi 5 g++(Hi 10 a++Hi 10 b)))=dT 5 g++(dT 10 a++dT 10 b)
  rw[kK,zO,kK,zO,Hk rfl,Hk rfl,Hk rfl]
theorem apz(ts:List Tn):xp iC (rU (abY ts))=ts.flatMap vj:=by
 induction ts with
 |nil=>rfl
 |cons t ts ih=>
  show xp iC (rU (abX t++abY ts))=_
  rw[kK,zO,aqN,ih,aY]
theorem aqF{r:Rt}(h:oj r):xp iC (FU r)=iu r:=by
 rw[NL]
 unfold agq iu
 rw[kK,kK,zO,zO,Hk h.lv.1,apz]
 refine congrArg (fun q=>dT r.lvl r.it++(r.ts.flatMap vj++q)) ?_
 have hn:=h.nm
 obtain⟨lv,it,ts,n⟩:=r
 cases n with
 |zero=>rfl
 |succ l=>
  have:iC [3,it.i,l]=gE (17+(kd 1 it.i).1) l:=by
   show(bif bw (kd 1 it.i).1 5 then gE (17+(kd 1 it.i).1) l else bad)=_
   rw[Hb (show(kd 1 it.i).1<5 from hn (ki _))];rfl
  show iC [3,it.i,l]++[]=gE (17+(kd 1 it.i).1) l
  rw[this,aR]
theorem ame{r:Rt}(h:oj r):mac (4::r.lvl::xM r)=iu r:=by
 have hc:okC (r.lvl::xM r)=true:=by
  show(aj (Bk (Xs r)).lvl r.lvl&&Yi (Bk (Xs r)))=true
  rw[NK r h.ts8,ze,h.ok];rfl
 show RZ (r.lvl::xM r)=_
 unfold RZ
 rw[hc]
 show xp iC (FU (Bk (Xs r)))=_
 rw[NK r h.ts8,aqF h]
theorem C8{a b:ac}:dj (cj a b)=true:=EH (a:=false)
theorem anp{r:Rt}(h:oj r){m:aa}(hm:vk mac m)(hn:EE (xp mac m)=true):xp mac (mX r.lvl (xM r)++m)=iu r++xp mac m/\vk mac (mX r.lvl (xM r)++m):=
 ⟨congrArg (· ++xp mac m) (ame h),fun z=>ff z,fun _=>hn,hm⟩
theorem ano{a b:ac}{o:Option Rt}(h:Kl o){m:aa}(hm:vk mac m)(hn:EE (xp mac m)=true):xp mac (mS (cj a b) (jI o)++m)=fM (cj a b) o++xp mac m/\vk mac (mS (cj a b) (jI o)++m)/\EE (xp mac (mS (cj a b) (jI o)++m))=true:=by
 cases o with
 |none=>exact⟨rfl,hm,hn⟩
 |some r=>
  obtain⟨h1,h2⟩:=anp (h r rfl) hm hn
  have h3:=ER (mac:=mac) (m:=mX r.lvl (xM r)++m) (C8 (a:=a) (b:=b))
  have e:mS (cj a b) (jI (some r))++m=cj a b++(mX r.lvl (xM r)++m):=aB ..
  have e2:xp mac (mS (cj a b) (jI (some r))++m)=fM (cj a b) (some r)++xp mac m:=by
   rw[e,h3.1,h1];exact(aB ..).symm
  refine⟨e2,by rw[e];exact h3.2 h2,?_⟩
  rw[e2];rfl
theorem aqc{d:DS}(h:jk d):xp mac (mB (FS d) (jI d.w) (jI d.l))=dW d/\vk mac (mB (FS d) (jI d.w) (jI d.l)):=by
 obtain⟨l1,l2,l3⟩:=ano (a:=pO) (b:=dg) h.l (m:=[]) trivial rfl
 obtain⟨w1,w2,w3⟩:=ano (a:=mD) (b:=dg) h.w l2 l3
 have e:mB (FS d) (jI d.w) (jI d.l)=mF (FS d)++(mS (cj mD dg) (jI d.w)++(mS (cj pO dg) (jI d.l)++[])):=by
  unfold mB;rw[aR,aB]
 have e3:dW d=je d++(fM (cj mD dg) d.w++(fM (cj pO dg) d.l++[])):=by
  unfold dW;rw[aR,aB]
 rw[e,e3]
 rw[l1]at w1
 have w1:xp mac (mS (cj mD dg) (jI d.w)++(mS (cj pO dg) (jI d.l)++[]))=fM (cj mD dg) d.w++(fM (cj pO dg) d.l++[]):=w1
 rw[<- w1]
 generalize mS (cj mD dg) (jI d.w)++(mS (cj pO dg) (jI d.l)++[])=m at w2 w3 ⊢
 obtain⟨f,w,l⟩:=d
 cases f with
 |none=>exact⟨rfl,w2⟩
 |some x=>
  obtain⟨h1,h2⟩:=h.f x rfl
  obtain⟨x1,x2⟩:=anp h1 w2 w3
  rw[h2]at x1 x2
  have h3:=ER (mac:=mac) (m:=mX 1 (xM x.2.2)++m) (C8 (a:=kp x.2.1) (b:=eo x.1))
  have h4:=ER (mac:=mac) (m:=cj (kp x.2.1) (eo x.1)++(mX 1 (xM x.2.2)++m)) (C8 (a:=gV) (b:=dg))
  have e:mF (FS ⟨some x,w,l⟩)++m=cj gV dg++(cj (kp x.2.1) (eo x.1)++(mX 1 (xM x.2.2)++m)):=by
   show(cj gV dg++(cj (kp x.2.1) (eo x.1)++mX 1 (xM x.2.2)))++m=_
   rw[aB,aB]
  have e':je ⟨some x,w,l⟩++xp mac m=cj gV dg++(cj (kp x.2.1) (eo x.1)++(iu x.2.2++xp mac m)):=by
   show(cj gV dg++(cj (kp x.2.1) (eo x.1)++iu x.2.2))++xp mac m=_
   rw[aB,aB]
  rw[e,e',h4.1,h3.1,x1]
  exact⟨rfl,h4.2 (h3.2 x2)⟩
theorem acj{d:DS}:(mB (FS d) (jI d.w) (jI d.l)).isEmpty=(dW d).isEmpty:=by
 obtain⟨f,w,l⟩:=d
 cases f<;>cases w<;>cases l<;>rfl
theorem anY{d:DS}(h:jk d):xp mac (Pu d)=gM d/\vk mac (Pu d):=by
 obtain⟨h1,h2⟩:=aqc h
 unfold Pu mA gM
 rw[acj]
 cases (dW d).isEmpty with
 |true=>exact⟨rfl,trivial⟩
 |false=>
  have h3:=ER (mac:=mac) (m:=mB (FS d) (jI d.w) (jI d.l)) (C8 (a:=jG) (b:=uP))
  exact⟨h3.1.trans (congrArg _ h1),h3.2 h2⟩
theorem zx{lvl:Nat}{l:Lf}:dj (dT lvl l)=true:=by
 unfold dT rS
 rw[lr,Tc]
 cases l.c
 ·rfl
 ·exact EH (a:=false)
theorem aoX{t:Tn}:dj (vj t)=true:=by
 cases t with
 |leaf l=>exact zx
 |grp g a=>
  show dj (dT 5 g++dT 10 a)=true
  rw[lr,zx,zx];rfl
 |grp2 g a b=>
  show dj (dT 5 g++(dT 10 a++dT 10 b))=true
  rw[lr,lr,zx,zx,zx];rfl
theorem aiF{r:Rt}:dj (iu r)=true:=by
 unfold iu
 have h1:dj (r.ts.flatMap vj)=true:=by
  induction r.ts with
  |nil=>rfl
  |cons t ts ih=>rw[aY,lr,aoX,ih];rfl
 have h2:dj (VD (j7 1 r.it) r.ren)=true:=by
  cases r.ren with
  |zero=>rfl
  |succ l=>exact EH (a:=false)
 rw[lr,lr,zx,h1,h2];rfl
theorem acx{a b:ac}{o:Option Rt}:dj (fM (cj a b) o)=true:=by
 cases o with
 |none=>rfl
 |some r=>
  show dj (cj a b++iu r)=true
  rw[lr,C8,aiF];rfl
theorem acw{d:DS}:dj (gM d)=true:=by
 have hf:dj (je d)=true:=by
  obtain⟨f,w,l⟩:=d
  cases f with
  |none=>rfl
  |some x=>
   show dj (cj gV dg++(cj (kp x.2.1) (eo x.1)++iu x.2.2))=true
   rw[lr,lr,C8,C8,aiF];rfl
 have hb:dj (dW d)=true:=by
  unfold dW;rw[lr,lr,hf,acx,acx];rfl
 unfold gM
 cases (dW d).isEmpty with
 |true=>rfl
 |false=>
  show dj (cj jG uP++dW d)=true
  rw[lr,C8,hb];rfl
open Classical in
def CS(d:DS)(L:aa):List AV:=if L=gM d then Pu d else L
theorem ah4{d:DS}(h:jk d)(L:aa)(c:bJ)(hc:lL mac L c):lL mac (CS d L) c:=by
 unfold CS
 by_cases q:L=gM d
 ·rw[if_pos q]
  obtain⟨h1,h2⟩:=anY h
  refine tA hc ?_ fun _=>h2
  rw[h1,q,(T3 acw).1]
 ·rw[if_neg q];exact hc
theorem ah3(d:DS):CS d (gM d)=Pu d:=if_pos rfl
theorem ad6(d:DS):CS d []=[]:=by
 unfold CS
 by_cases q:[]=gM d
 ·rw[if_pos q]
  unfold gM at q
  unfold Pu mA
  rw[acj]
  cases z:(dW d).isEmpty with
  |true=>rfl
  |false=>rw[z]at q;exact absurd q (by intro q;cases q)
 ·rw[if_neg q]
end
theorem Ys{T:aa}(hk:T.length<=4000000)(hn:aN T=true)(hp:dj T=true)(σ:AS): ∃x ai,xx [.lst T] σ=some (.ref x,ai)/\ai.get x=some (.orc 1021 T):=by
 have g0:(σ.alloc (.inst 1021 [] [])).get σ.next=some (.inst 1021 [] []):=cn
 have s1:oz 38 (.lst T) (.ref σ.next) (σ.alloc (.inst 1021 [] []))=some ((σ.alloc (.inst 1021 [] [])).set σ.next (.inst 1021 [38] [.lst T])):=jm g0
 have l1:σ.next<((σ.alloc (.inst 1021 [] [])).set σ.next (.inst 1021 [38] [.lst T])).next:=bU _
 have g1:((σ.alloc (.inst 1021 [] [])).set σ.next (.inst 1021 [38] [.lst T])).get σ.next=some (.inst 1021 [38] [.lst T]):=eA g0
 generalize (σ.alloc (.inst 1021 [] [])).set σ.next (.inst 1021 [38] [.lst T])=gF at s1 l1 g1
 have s2:oz 4 (.int 0) (.ref σ.next) gF=some (gF.set σ.next (.inst 1021 [38,4] [.lst T,.int 0])):=jm g1
 have l2:σ.next<(gF.set σ.next (.inst 1021 [38,4] [.lst T,.int 0])).next:=l1
 have g2:(gF.set σ.next (.inst 1021 [38,4] [.lst T,.int 0])).get σ.next=some (.inst 1021 [38,4] [.lst T,.int 0]):=eA g1
 generalize gF.set σ.next (.inst 1021 [38,4] [.lst T,.int 0])=g8 at s2 l2 g2
 have g3:(g8.alloc (.dct [] [])).get σ.next=some (.inst 1021 [38,4] [.lst T,.int 0]):=dN g2 l2
 have s3:oz 37 (.ref g8.next) (.ref σ.next) (g8.alloc (.dct [] []))=some ((g8.alloc (.dct [] [])).set σ.next (.inst 1021 [38,4,37] [.lst T,.int 0,.ref g8.next])):=jm g3
 have l3:σ.next<((g8.alloc (.dct [] [])).set σ.next (.inst 1021 [38,4,37] [.lst T,.int 0,.ref g8.next])).next:=cO l2
 have g4:((g8.alloc (.dct [] [])).set σ.next (.inst 1021 [38,4,37] [.lst T,.int 0,.ref g8.next])).get σ.next=some (.inst 1021 [38,4,37] [.lst T,.int 0,.ref g8.next]):=eA g3
 generalize (g8.alloc (.dct [] [])).set σ.next (.inst 1021 [38,4,37] [.lst T,.int 0,.ref g8.next])=qC at s3 l3 g4
 have g5:(qC.alloc (.dct [] [])).get σ.next=some (.inst 1021 [38,4,37] [.lst T,.int 0,.ref g8.next]):=dN g4 l3
 have s4:oz 36 (.ref qC.next) (.ref σ.next) (qC.alloc (.dct [] []))=some ((qC.alloc (.dct [] [])).set σ.next (.inst 1021 [38,4,37,36] [.lst T,.int 0,.ref g8.next,.ref qC.next])):=jm g5
 have g6:((qC.alloc (.dct [] [])).set σ.next (.inst 1021 [38,4,37,36] [.lst T,.int 0,.ref g8.next,.ref qC.next])).get σ.next=some (.inst 1021 [38,4,37,36] [.lst T,.int 0,.ref g8.next,.ref qC.next]):=eA g5
 generalize (qC.alloc (.dct [] [])).set σ.next (.inst 1021 [38,4,37,36] [.lst T,.int 0,.ref g8.next,.ref qC.next])=σ4 at s4 g6
 have ed: ∀fr σ,FT fr σ=some (.ref σ.next,σ.alloc (.dct [] [])):=fun _ _=>rfl
 have e1:ja [.ref σ.next,.lst T] (σ.alloc (.inst 1021 [] []))=some (.none,σ4):=by
  show ob (km [.ref σ.next,.lst T,.int 0] (σ.alloc (.inst 1021 [] []))) ir=_
  have hu:bX (.lst T)=false:=rfl
  simp only[km,dk,yf,bk,kI,pg,fq,lY,hu,ae,aX,s1,b9,dF,s2,ed,s3,s4,fJ,amw]
 have e2:uy dr ja [.lst T] σ=some (.ref σ.next,σ4):=by
  show bC (ja [.ref σ.next,.lst T] (σ.alloc (.inst 1021 [] []))) (fun a ai=>tc a (some (AV.ref σ.next,ai)))=_
  rw[e1];rfl
 refine⟨σ.next,σ4.set σ.next (.orc 1021 T),?_,eA g6⟩
 show bC (uy dr ja [.lst T] σ) (fun a ay=>io a fun x=>CL ay x fun c ks vs=>bif aj c 1021&&dm ks [38,4,37,36]then ob (aah vs) (fun L=>bif dB L.length&&aN L&&dj L then some (AV.ref x,ay.set x (.orc 1021 L))else none)else none)=_
 rw[e2]
 show ob (σ4.get σ.next) _=_
 rw[g6]
 show(bif dB T.length&&aN T&&dj T then some (AV.ref σ.next,σ4.set σ.next (.orc 1021 T))else none)=_
 rw[fV hk,hn,hp];rfl
theorem Xl{d:DS}(h:jk d):(gM d).length <=1003:=by
 unfold gM
 cases (dW d).isEmpty with
 |true=>exact aU _
 |false=>
  show(cj jG uP++dW d).length <=1003
  rw[ao,rl];exact au (dy (Pd h) 3) (by decide)
theorem aij{a:AV}(h:flat 16 a=true)(σ:AS):b5 .NotEq a a σ=some false:=by
 show ob (od (wF 16 a a) some _) _=_
 rw[SY h];rfl
theorem amx{d:DS}(h:jk d){lab:List AV->List AV}(hl:lab (gM d)=Pu d)(σ:AS): ∃ai x,(aV (cT [1] (bv ik (aw (al 0) aJ))) (aV (cT [2] (bv xx (aw (al 1) aJ))) (sf (RM (fw (b5 .NotEq) (cJ qG (bv (mh lab) (aw (al 2) aJ)) aJ) (cJ qG (al 0) aJ)) (pf (jh (cJ qh (al 2) aJ)))) (aV (fun _ _=>none) bq) bq))) [bK d] σ=some (.next [bK d,.lst (gM d),.ref x] ai):=by
 obtain⟨x,gF,r1,r2⟩:=Ys (T:=gM d) (au (Xl h) (by decide)) Vr acw σ
 have hu:bX (bK d)=false:=rfl
 have hut:bX (.lst (gM d))=false:=rfl
 have rd1:mh lab [.ref x] gF=some (bK d,gF.set x (.orc 1021 [])):=by
  have h1:rd gF x=some (gM d):=jm r2
  have h2:mh lab [.ref x] gF=o5 [.ref x] (gF.set x (.orc 1021 (lab (gM d)))):=jm h1
  rw[h2,hl];exact Qt h r2
 have g2:(gF.set x (.orc 1021 [])).get x=some (.orc 1021 []):=eA r2
 have dn:vz [.ref x] (gF.set x (.orc 1021 []))=some (.bool true,gF.set x (.orc 1021 [])):=jm (show rd (gF.set x (.orc 1021 [])) x=some [] from jm g2)
 have mt: ∀σ,qG (bK d) σ=some s7:=fun _=>rfl
 have md:qh (.ref x) (gF.set x (.orc 1021 []))=some vz:=aaH g2
 refine⟨gF.set x (.orc 1021 []),x,?_⟩
 simp only[dk,fH,et,cz,cq,bk,kI,pg,hu,hut,fq,ae,aX,adj h,b9,dF,sD,sE,putN,r1,j5,G9,fD,eJ,rd1,mt,abc h,aij (Pv d),qP,lX,md,dn,iT,eD,fJ]
def anC(t:AV):Option AV:=ob (aA 28 t ⟨0,[]⟩) fun b=>UQ b (aA 1 t ⟨0,[]⟩)
def wJ(t:AV):Bool:=(ob (aA 2 t ⟨0,[]⟩) fun k=>ob (aA 1 t ⟨0,[]⟩) fun w=>ek k fun k=>ek w fun w=>some (dm k jo&&dm w [46])).getD false
def Md(t:AV):Option Int:=ob (aA 2 t ⟨0,[]⟩) fun k=>ob (aA 1 t ⟨0,[]⟩) fun w=>ek k fun k=>ek w fun w=>bif dm k pY then ob (lP 0 w) (fun n=>some (am n))else none
def jY(p:Bool)(T:aa):List AV:=bu (motive:=fun _=>Bool->List AV) (fun _=>[]) (fun t _ ih p=>bif p then t::ih (wJ t)else ih (wJ t)) T p
def mL(T:aa):List AV:=T.filterMap anC
def iB(T:aa):List Int:=(jY true T).filterMap Md
theorem i5(l m:aa):mL (l++m)=mL l++mL m:=List.filterMap_append
theorem NY{l:List (List Nat×List Nat×Nat)}: ∀{c:Nat},mL (wK false c l)=[]:=by
 induction l with
 |nil=>exact rfl
 |cons x l ih=>exact fun{c}=>ih (c:=c+x.2.2)
theorem TX{a:Bool}{c:Nat}{x:List Nat×List Nat×Nat}{l:List (List Nat×List Nat×Nat)}:mL (wK a c (x::l))=bif a then[.str x.2.1]else[]:=by
 cases a with
 |false=>exact NY
 |true=>exact congrArg (AV.str x.2.1:: ·) (NY (c:=c+x.2.2))
def xZ(l:List (List Nat×List Nat×Nat)):Bool:=l.all fun x=> !(dm x.1 jo&&dm x.2.1 [46])
theorem ED{l m:List (List Nat×List Nat×Nat)}:xZ (l++m)=(xZ l&&xZ m):=oM
theorem aoh{l:List (List Nat×List Nat×Nat)}{m:aa}: ∀{a:Bool} {c:Nat},xZ l=true->jY false (wK a c (l++[KM])++m)=jY true m:=by
 induction l with
 |nil=>exact fun _=>rfl
 |cons x l ih=>
  intro a c h
  refine aE (show(!(dm x.1 jo&&dm x.2.1 [46])&&xZ l)=true from h) fun h1 h2=> ?_
  show jY (dm x.1 jo&&dm x.2.1 [46]) (wK false (c+x.2.2) (l++[KM])++m)=_
  rw[pu h1];exact ih h2
theorem ahn{x:List Nat×List Nat×Nat}{l:List (List Nat×List Nat×Nat)}{m:aa}{a:Bool}{c:Nat}(hx:(dm x.1 jo&&dm x.2.1 [46])=false)(h:xZ l=true):jY true (wK a c (x::(l++[KM]))++m)=tk x.1 x.2.1 c a::jY true m:=by
 show tk x.1 x.2.1 c a::jY (dm x.1 jo&&dm x.2.1 [46]) (wK false (c+x.2.2) (l++[KM])++m)=_
 rw[hx,aoh h]
theorem I8{x:List Nat×List Nat×Nat}{l:List (List Nat×List Nat×Nat)}{m:aa}{a:Bool}{c:Nat}(hx:(dm x.1 jo&&dm x.2.1 [46])=false)(h:xZ l=true):iB (wK a c (x::(l++[KM]))++m)=(Md (tk x.1 x.2.1 c a)).toList++iB m:=by
 unfold iB
 rw[ahn hx h,kU]
 cases Md (tk x.1 x.2.1 c a)<;>rfl
theorem aiD(p:Nat):xZ (RX p)=true:=by
 unfold RX x7
 cases aj p 0
 ·cases aj p 1
  ·cases aj p 2<;>rfl
  ·rfl
 ·rfl
theorem akU(p:Nat):xZ (Sb p)=true:=by
 unfold Sb
 cases aj p 1<;>rfl
theorem aiw(p:Nat):xZ (RV p)=true:=by
 unfold RV
 cases aj p 2
 ·cases aj p 3<;>rfl
 ·rfl
theorem Hp(lvl:Nat)(x:Nat×Nat×Nat):ku lvl x=wK (MA lvl) (bif MA lvl then 8 else 12) (nu (nW lvl)::((wd (nm x.1)::(RX x.2.2++(Sb x.2.1++RV x.2.1)))++[KM])):=by
 show wK _ _ (nu (nW lvl)::wd (nm x.1)::(RX x.2.2++(Sb x.2.1++(RV x.2.1++[KM]))))=_
 rw[eZ,aB,aB];rfl
def lvI(lvl:Nat):Option Int:=Md (tk pY (nW lvl) 0 false)
theorem aox{lvl:Nat}(h:rr lvl=true):lvI lvl=some (am lvl):=lvE (P:=fun lvl=>lvI lvl=some (am lvl)) h rfl rfl rfl rfl
theorem ah9{lvl:Nat}{x:Nat×Nat×Nat}{m:aa}(h:rr lvl=true):iB (ku lvl x++m)=am lvl::iB m:=by
 rw[Hp,I8 rfl (by
  show(!(dm uQ jo&&dm (nm x.1) [46])&&xZ (RX x.2.2++(Sb x.2.1++RV x.2.1)))=true
  rw[ED,ED,aiD,akU,aiw];rfl)]
 have:Md (tk (nu (nW lvl)).1 (nu (nW lvl)).2.1 (bif MA lvl then 8 else 12) (MA lvl))=some (am lvl):=(show _=lvI lvl from rfl).trans (aox h)
 rw[this];rfl
theorem aia{n:Nat}{m:aa}:iB (fF n++m)=88::iB m:=I8 (x:=nu [56,56]) (l:=[wd ([73,83,45]++nm n),wd [86,65,76,85,69],(jo,[45],1),nu [53],wd [84,72,82,85],nu [49,46,50,53],(Yx,[113],4)]) rfl rfl
theorem aib{n l:Nat}{m:aa}:iB (gE n l++m)=66::iB m:=by
 unfold gE
 cases l with
 |zero=>exact I8 (x:=nu [54,54]) (l:=[wd (nm n),wd [82,69,78,65,77,69,83],wd (nm 16)]) rfl rfl
 |succ l=>exact I8 (x:=nu [54,54]) (l:=[wd (nm n),wd [82,69,78,65,77,69,83],wd (nm 16),wd [84,72,82,85],wd (nm 22)]) rfl rfl
theorem I9{a b:ac}{m:aa}:iB (cj a b++m)=iB m:=I8 (x:=wd a) (l:=[(uQ,b,b.length)]) rfl rfl
noncomputable def nV(l:Lf):List Int:=bif l.c then[88]else[]
theorem qr{lvl:Nat}{l:Lf}{m:aa}(h:rr lvl=true):iB (dT lvl l++m)=am lvl::(nV l++iB m):=by
 obtain⟨i,c⟩:=l
 unfold dT rS
 rw[aB,ah9 h]
 cases c with
 |false=>rfl
 |true=>exact congrArg (am lvl:: ·) aia
noncomputable def yp(t:Tn):List Int:=match t with
 | .leaf l=>5::nV l
 | .grp g a=>5::(nV g++10::nV a)
 | .grp2 g a b=>5::(nV g++10::(nV a++10::nV b))
theorem aic{t:Tn}{m:aa}:iB (vj t++m)=yp t++iB m:=by
 cases t with
 |leaf l=>exact qr rfl
 |grp g a=>
  show iB ((dT 5 g++dT 10 a)++m)=5::((nV g++10::nV a)++iB m)
  rw[aB,qr rfl,qr rfl,aB];rfl
 |grp2 g a b=>
  show iB ((dT 5 g++(dT 10 a++dT 10 b))++m)=5::((nV g++10::(nV a++10::nV b))++iB m)
  rw[aB,qr rfl,aB,qr rfl,qr rfl,aB,eZ,aB];rfl
noncomputable def Qu(n:Nat):List Int:=hH (motive:=fun _=>List Int) [] (fun _ _=>[66]) n
noncomputable def AB(r:Rt):List Int:=am r.lvl::(nV r.it++(r.ts.flatMap yp++Qu r.ren))
theorem ad8{ts:List Tn}{m:aa}:iB (ts.flatMap vj++m)=ts.flatMap yp++iB m:=by
 induction ts with
 |nil=>rfl
 |cons t ts ih=>rw[aY,aY,aB,aic,ih,aB]
theorem XT{r:Rt}(h:oj r){m:aa}:iB (iu r++m)=AB r++iB m:=by
 unfold iu AB
 rw[aB,qr h.lv.1,aB,ad8]
 have:iB (VD (j7 1 r.it) r.ren++m)=Qu r.ren++iB m:=by
  cases r.ren with
  |zero=>rfl
  |succ l=>exact aib
 rw[this,eZ,aB,aB]
theorem qB{lvl:Nat}{l:Lf}:mL (dT lvl l)=bif MA lvl then[.str (nW lvl)]else[]:=by
 unfold dT rS
 rw[i5,Hp,TX]
 have:mL (bif l.c then fF (j7 lvl l)else[])=[]:=by
  cases l.c
  ·rfl
  ·exact NY
 rw[this,aR];rfl
theorem akQ{t:Tn}:mL (vj t)=[]:=by
 cases t with
 |leaf l=>exact qB
 |grp g a=>exact(i5 _ _).trans (by rw[qB,qB];rfl)
 |grp2 g a b=>exact(i5 _ _).trans (by rw[i5,qB,qB,qB];rfl)
theorem oj.top{r:Rt}(h:oj r):r.lvl=1\/r.lvl=77:=by
 have q:=h.ok
 unfold Yi at q
 cases z:aj r.lvl 1 with
 |true=>exact .inl (aD z)
 |false=>
  rw[z]at q
  exact aE (show(aj r.lvl 77&&(r.ts.isEmpty&&aj r.ren 0))=true from q) fun h1 _=>.inr (aD h1)
theorem YW{r:Rt}(h:oj r):mL (iu r)=[.str (nW r.lvl)]:=by
 unfold iu
 have h1:mL (r.ts.flatMap vj)=[]:=by
  induction r.ts with
  |nil=>rfl
  |cons t ts ih=>rw[aY,i5,akQ,ih];rfl
 have h2:mL (VD (j7 1 r.it) r.ren)=[]:=by
  cases r.ren with
  |zero=>rfl
  |succ l=>exact NY
 rw[i5,i5,qB,h1,h2]
 rcases h.top with e|e<;>rw[e]<;>rfl
theorem JR{a b:ac}:mL (cj a b)=[.str a]:=TX
def fL(d:DS):List AV:=jn (d.f.map (·.2.2))
def d8(d:DS):List AV:=(fL d++jn d.w)++jn d.l
theorem ru(o:Option Rt):(jn o).length <=1:=by cases o<;>exact av rfl
theorem Vt(o:Option Rt):aN (jn o)=true:=by
 cases o with
 |none=>rfl
 |some r=>show aN [d9 r]=true;rw[gZ,K0];rfl
theorem aee(d:DS):aN (d8 d)=true:=by
 unfold d8 fL;rw[b6,b6,Vt,Vt,Vt];rfl
theorem af9{i:Nat}{fr:Fm}{σ:AS}{l:aa}(hu: ∀a∈l,bX a=false):eI [i] (fun _ σ=>some (true,σ)) (al i) l fr σ=some (l,σ):=by
 have h:=Hf (i:=i) (elt:=al i) (fr:=fr) (ps:=l.map fun a=>(a,a)) (σ:=σ) fun p hp σ=>by
  obtain⟨a,ha,rfl⟩:=dD.mp hp
  rw[bk,c9,hu a ha];rfl
 rw[gL,gL]at h
 rwa[show N5 ((fun x:AV×AV=>x.1)∘fun a=>(a,a)) l=l from tI l,show N5 ((fun x:AV×AV=>x.2)∘fun a=>(a,a)) l=l from tI l]at h
theorem XB{d:DS}{fr:Fm}{σ:AS}(h0:gt fr 0=bK d):qO 15 (un (aA 26) (al 0)) 16 (bi fU (un (aA 26) (al 0)) (al 15)) (al 16) fr σ=some (.ref σ.next,σ.alloc (.lst (fL d))):=by
 have hu:bX (bK d)=false:=rfl
 obtain⟨f,w,l⟩:=d
 cases f with
 |none=>
  have a26: ∀σ,aA 26 (bK ⟨none,w,l⟩) σ=some (.dct [] []):=fun _=>rfl
  have e1:un (aA 26) (al 0) fr σ=some (.dct [] [],σ):=by simp only[gm,bk,h0,hu,ae,aX,a26,b9]
  show bC (un (aA 26) (al 0) fr σ) (fun a ai=>bC (fE ai a) fun l ay=>bC (jz 15 (bi fU (un (aA 26) (al 0)) (al 15)) 16 (al 16) l (put fr 16 .unb) ay) fun vs aM=>bif dB vs.length then some (AV.ref aM.next,aM.alloc (.lst vs))else none)=_
  rw[e1];rfl
 |some x=>
  obtain⟨o,s,r⟩:=x
  have a26: ∀σ,aA 26 (bK ⟨some (o,s,r),w,l⟩) σ=some (.dct [eo o] [.lst [d9 r]]):=fun _=>rfl
  have e1:un (aA 26) (al 0) fr σ=some (.dct [eo o] [.lst [d9 r]],σ):=by simp only[gm,bk,h0,hu,ae,aX,a26,b9]
  have g0:gt (put (put fr 16 .unb) 15 (.str (eo o))) 0=bK ⟨some (o,s,r),w,l⟩:=(fQ rfl).trans ((fQ rfl).trans h0)
  have e2:bi fU (un (aA 26) (al 0)) (al 15) (put (put fr 16 .unb) 15 (.str (eo o))) σ=some (.lst [d9 r],σ):=by simp only[jH,gm,bk,g0,c9,hu,mZ,ae,aX,a26,b9,Z9]
  have e3:eI [16] (fun _ σ=>some (true,σ)) (al 16) [d9 r] (put (put fr 16 .unb) 15 (.str (eo o))) σ=some ([d9 r],σ):=af9 fun a ha=>by rw[aO.mp ha];rfl
  show bC (un (aA 26) (al 0) fr σ) (fun a ai=>bC (fE ai a) fun l ay=>bC (jz 15 (bi fU (un (aA 26) (al 0)) (al 15)) 16 (al 16) l (put fr 16 .unb) ay) fun vs aM=>bif dB vs.length then some (AV.ref aM.next,aM.alloc (.lst vs))else none)=_
  rw[e1]
  show bC (bC (bi fU (un (aA 26) (al 0)) (al 15) (put (put fr 16 .unb) 15 (.str (eo o))) σ) fun s ai=>bC (fE ai s) fun l ay=>bC (eI [16] (fun _ σ=>some (true,σ)) (al 16) l (put (put fr 16 .unb) 15 (.str (eo o))) ay) fun bs fW=>bC (jz 15 (bi fU (un (aA 26) (al 0)) (al 15)) 16 (al 16) [] (put fr 16 .unb) fW) fun cs cN=>some (bs++cs,cN)) (fun vs aM=>bif dB vs.length then some (AV.ref aM.next,aM.alloc (.lst vs))else none)=_
  rw[e2]
  show bC (bC (eI [16] (fun _ σ=>some (true,σ)) (al 16) [d9 r] (put (put fr 16 .unb) 15 (.str (eo o))) σ) fun bs fW=>bC (jz 15 (bi fU (un (aA 26) (al 0)) (al 15)) 16 (al 16) [] (put fr 16 .unb) fW) fun cs cN=>some (bs++cs,cN)) (fun vs aM=>bif dB vs.length then some (AV.ref aM.next,aM.alloc (.lst vs))else none)=_
  rw[e3];rfl
theorem amy{d:DS}{T:AV}{x:Nat}(σ:AS)(hT:bX T=false): ∃ai,(aV (cT [3] (bi (b4 .Add) (bi (b4 .Add) (qO 15 (un (aA 26) (al 0)) 16 (bi fU (un (aA 26) (al 0)) (al 15)) (al 16)) (un (aA 24) (al 0))) (un (aA 25) (al 0)))) (QA 3)) [bK d,T,.ref x] σ=some (.next [bK d,T,.ref x,.lst (d8 d)] ai):=by
 have hu:bX (bK d)=false:=rfl
 have a24: ∀σ,aA 24 (bK d) σ=some (.lst (jn d.w)):=fun _=>rfl
 have a25: ∀σ,aA 25 (bK d) σ=some (.lst (jn d.l)):=fun _=>rfl
 have c1:=XB (d:=d) (fr:=[bK d,T,.ref x]) (σ:=σ) rfl
 have k1:(fL d).length +(jn d.w).length <=4000000:=au (aK (ru _) (ru _)) (by decide)
 have k2:(fL d++jn d.w).length +(jn d.l).length <=4000000:=by
  rw[ao];exact au (aK (aK (ru _) (ru _)) (ru _)) (by decide)
 have e1:=Er (σ:=σ.alloc (.lst (fL d))) (i:=σ.next) (l:=fL d) (m:=jn d.w) cn k1
 have e2:=Er (σ:=(σ.alloc (.lst (fL d))).alloc (.lst (fL d++jn d.w))) (i:=(σ.alloc (.lst (fL d))).next) (l:=fL d++jn d.w) (m:=jn d.l) cn k2
 have hz:=xT (n:=13) (x:=((σ.alloc (.lst (fL d))).alloc (.lst (fL d++jn d.w))).next) (l:=d8 d) (σ:=((σ.alloc (.lst (fL d))).alloc (.lst (fL d++jn d.w))).alloc (.lst (d8 d))) cn (aee d)
 refine⟨AS.drop (((σ.alloc (.lst (fL d))).alloc (.lst (fL d++jn d.w))).alloc (.lst (d8 d))) ((σ.alloc (.lst (fL d))).alloc (.lst (fL d++jn d.w))).next,?_⟩
 show ob (cT [3] _ [bK d,T,.ref x] σ) (gU (QA 3))=_
 have e3:cT [3] (bi (b4 .Add) (bi (b4 .Add) (qO 15 (un (aA 26) (al 0)) 16 (bi fU (un (aA 26) (al 0)) (al 15)) (al 16)) (un (aA 24) (al 0))) (un (aA 25) (al 0))) [bK d,T,.ref x] σ=some (.next [bK d,T,.ref x,.ref ((σ.alloc (.lst (fL d))).alloc (.lst (fL d++jn d.w))).next] (((σ.alloc (.lst (fL d))).alloc (.lst (fL d++jn d.w))).alloc (.lst (d8 d)))):=by
  simp only[fH,jH,c1,aX,gm,bk,kI,hu,ae,a24,a25,b9,e1,e2,sD,sE,putN]
  rfl
 rw[e3]
 show pr (jJ 14 (.ref _) _) (fun a ai=>some (j8.next (put [bK d,T,.ref x,.ref _] 3 a) ai))=_
 rw[hz];rfl
theorem Pg{i:Nat}{test:BM}{elt:EM}{fr:Fm}{g:AV->Option AV}{l:aa}: ∀{σ:AS},(∀t∈l,∀σ,∃b,test (put fr i t) σ=some (b,σ)/\(b=true-> ∃v,elt (put fr i t) σ=some (v,σ)/\g t=some v)/\(b=false->g t=none))->eI [i] test elt l fr σ=some (l.filterMap g,σ):=by
 induction l with
 |nil=>exact fun _=>rfl
 |cons t l ih=>
  intro σ h
  have ih:=ih (σ:=σ) fun t ht=>h t (aQ _ ht)
  obtain⟨b,h1,h2,h3⟩:=h t (bf ..) σ
  show bC (test (put fr i t) σ) (fun b ai=>bif b then bC (elt (put fr i t) ai) (fun v fW=>bC (eI [i] test elt l fr fW) fun l cN=>some (v::l,cN))else eI [i] test elt l fr ai)=_
  rw[h1,aX]
  cases b with
  |true=>
   obtain⟨v,e1,e2⟩:=h2 rfl
   rw[af,e1,aX,ih,kU,e2];rfl
  |false=>
   rw[ae,ih,kU,h3 rfl]
def lJ(l:aa):Prop:= ∀t∈l,∃k w c a,t=tk k w c a
theorem lJ.app{l m:aa}(h:lJ l)(h':lJ m):lJ (l++m):=fun t ht=>(cV.mp ht).elim (h t) (h' t)
theorem lJ.nil:lJ []:=fun _ h=>absurd h bg
theorem zK{l:List (List Nat×List Nat×Nat)}: ∀{c:Nat} {a:Bool},lJ (wK a c l):=by
 induction l with
 |nil=>exact lJ.nil
 |cons x l ih=>exact fun{c a} t ht=>(aG.mp ht).elim (fun h=>⟨_,_,_,_,h⟩) (ih t)
theorem zJ{lvl:Nat}{l:Lf}:lJ (dT lvl l):=by
 refine lJ.app zK ?_
 unfold rS
 cases l.c
 ·exact lJ.nil
 ·exact zK
theorem apy{t:Tn}:lJ (vj t):=by
 cases t with
 |leaf l=>exact zJ
 |grp g a=>exact lJ.app zJ zJ
 |grp2 g a b=>exact lJ.app zJ (lJ.app zJ zJ)
theorem akJ{r:Rt}:lJ (iu r):=by
 refine lJ.app zJ (lJ.app ?_ ?_)
 ·exact fun t ht=>(List.mem_flatMap.mp ht).elim fun s h=>apy t h.2
 ·cases r.ren with
  |zero=>exact lJ.nil
  |succ l=>exact zK
theorem acI{a b:ac}{o:Option Rt}:lJ (fM (cj a b) o):=by
 cases o with
 |none=>exact lJ.nil
 |some r=>exact lJ.app zK akJ
theorem aba{d:DS}:lJ (gM d):=by
 have hf:lJ (je d):=by
  obtain⟨f,w,l⟩:=d
  cases f with
  |none=>exact lJ.nil
  |some x=>exact lJ.app zK (lJ.app zK akJ)
 unfold gM
 cases (dW d).isEmpty
 ·exact lJ.app zK (lJ.app (lJ.app hf acI) acI)
 ·exact lJ.nil
theorem abd{T:aa}(hT:lJ T)(hk:T.length<=4000000){fr:Fm}{σ:AS}(h1:gt fr 1= .lst T):eO [14] (al 1) (jh (un (aA 28) (al 14))) (un (aA 1) (al 14)) fr σ=some (.ref σ.next,σ.alloc (.lst (mL T))):=by
 have e1:al 1 fr σ=some (.lst T,σ):=by rw[bk,h1];rfl
 have c:eI [14] (jh (un (aA 28) (al 14))) (un (aA 1) (al 14)) T fr σ=some (mL T,σ):=Pg (g:=anC) fun t ht σ=>by
  obtain⟨k,w,c,a,rfl⟩:=hT t ht
  have a28: ∀σ,aA 28 (tk k w c a) σ=some (.bool a):=fun _=>rfl
  have a1: ∀σ,aA 1 (tk k w c a) σ=some (.str w):=fun _=>rfl
  have hu:bX (tk k w c a)=false:=rfl
  refine⟨a,by simp only[lX,gm,bk,c9,hu,ae,aX,a28,b9,iT],fun ha=>⟨.str w,by simp only[gm,bk,c9,hu,ae,aX,a1,b9],by rw[ha];rfl⟩,fun ha=>by rw[ha];rfl⟩
 show bC (al 1 fr σ) (fun x ai=>bC (fE ai x) fun l ay=>bC (eI [14] (jh (un (aA 28) (al 14))) (un (aA 1) (al 14)) l fr ay) fun vs aM=>bif dB vs.length then some (AV.ref aM.next,aM.alloc (.lst vs))else none)=_
 rw[e1,aX,NQ hk,aX,c,aX,fV (n:=(mL T).length) (au (tH ..) hk)];rfl
def tj:BM:=RM (fw (b5 .Eq) (al 11) (ba (.int (0)))) (fw (b5 .Eq) (cJ qG (bi fU (al 1) (bi (b4 .Sub) (al 11) (ba (.int (1))))) aJ) (bv gk (aw (ba (.str [115,105,103,110])) (aw (ba (.str [46])) aJ))))
theorem U8{T:aa}(hT:lJ T)(hk:T.length<=99999){fr:Fm}{σ:AS}(h1:gt fr 1= .lst T): ∀(m i:Nat) (p:Bool),i+m=T.length->(i=0->p=true)->(∀j t,i=j+1->T[j]? =some t->p=wJ t)->
  eI [11] tj (bi fU (al 1) (al 11)) ((iV i m).map fun i=>.int (am i)) fr σ=some (jY p (T.drop i),σ):=by
 intro m
 induction m with
 |zero=>
  intro i p hi _ _
  rw[hV (show T.length<=i from eH hi.symm)];rfl
 |succ m ih=>
  intro i p hi hp0 hp
  have hlt:i<T.length:=by rw[<- hi];exact ve (Nat.succ_pos m)
  have hx:T[i]? =some T[i]:=fb hlt
  obtain⟨k,w,c,a,ht⟩:=hT _ (Gw hlt)
  have ih:=ih (i+1) (wJ T[i]) (by rw[<- hi];omega) (fun h=>absurd h (ki _)) fun j t hj ht=>by
   have:j=i:=(jV hj).symm
   rw[this,hx]at ht
   exact congrArg wJ (aH ht)
  have u1:bX (.lst T)=false:=rfl
  have g1:gt (put fr 11 (.int (am i))) 1= .lst T:=(fQ rfl).trans h1
  have oi: ∀{i},i<T.length->dB i=true:=fun h=>fV (au (i8 h) (au hk (by decide)))
  have el:bi fU (al 1) (al 11) (put fr 11 (.int (am i))) σ=some (T[i],σ):=by
   simp only[jH,bk,g1,c9,u1,lY,ae,aX,I2 (oi hlt) hx]
  have te:tj (put fr 11 (.int (am i))) σ=some (p,σ):=by
   unfold tj
   cases i with
   |zero=>
    have e0: ∀σ,b5 .Eq (.int (am 0)) (.int 0) σ=some true:=fun _=>rfl
    rw[hp0 rfl]
    simp only[G9,fD,bk,c9,lY,ae,af,aX,d5,e0,b9]
   |succ j=>
    have e0: ∀σ,b5 .Eq (.int (am (j+1))) (.int 0) σ=some false:=fun _=>rfl
    have e1: ∀σ,b4 .Sub (.int (am (j+1))) (.int 1) σ=some (.int (am j),σ):=fun σ=>by
     show some (AV.int (am (j+1)-1),σ)=_
     rw[show am (j+1)-1=am j from Bp (j:Int) 1]
    have hj:j<T.length:=Nat.lt_of_succ_lt hlt
    have hy:T[j]? =some T[j]:=fb hj
    obtain⟨k,w,c,a,ht⟩:=hT _ (Gw hj)
    rw[hp j _ rfl hy]
    rw[ht]at hy ⊢
    have mt: ∀σ,qG (tk k w c a) σ=some qJ:=fun _=>rfl
    have pt: ∀σ,qJ [tk k w c a] σ=some (.tup [.str k,.str w],σ):=fun _=>rfl
    have m2: ∀a b σ,gk [a,b] σ=some (.tup [a,b],σ):=fun _ _ _=>rfl
    have ce: ∀σ,b5 .Eq (.tup [.str k,.str w]) (.tup [.str [115,105,103,110],.str [46]]) σ=some (wJ (tk k w c a)):=fun σ=>by
     show some (dm k jo&&(dm w [46]&&true))=some (dm k jo&&dm w [46])
     rw[zP]
    have ut:bX (tk k w c a)=false:=rfl
    simp only[G9,fD,bk,c9,g1,u1,lY,ae,aX,d5,e0,b9,eJ,jH,e1,I2 (oi hj) hy,mt,cq,pt,et,cz,m2,ce]
  rw[tK,bh]
  show bC (tj (put fr 11 (.int (am i))) σ) (fun b ai=>bif b then bC (bi fU (al 1) (al 11) (put fr 11 (.int (am i))) ai) (fun v fW=>bC (eI [11] tj (bi fU (al 1) (al 11)) ((iV (i+1) m).map fun i=>.int (am i)) fr fW) fun l cN=>some (v::l,cN))else eI [11] tj (bi fU (al 1) (al 11)) ((iV (i+1) m).map fun i=>.int (am i)) fr ai)=_
  rw[te,aX,List.drop_eq_getElem_cons hlt]
  cases p with
  |true=>rw[af,el,aX,ih];rfl
  |false=>rw[ae,ih];rfl
theorem U7{T:aa}(hT:lJ T)(hk:T.length<=99999){fr:Fm}{σ:AS}(h1:gt fr 1= .lst T):eO [11] (bv lD (aw (bv eV (aw (al 1) aJ)) aJ)) tj (bi fU (al 1) (al 11)) fr σ=some (.ref σ.next,σ.alloc (.lst (jY true T))):=by
 have u1:bX (.lst T)=false:=rfl
 have hk':T.length<=4000000:=au hk (by decide)
 have er:lD [.int (am T.length)] σ=some (.rng 0 T.length,σ):=by
  show(bif bw T.length 100000 then some (AV.rng 0 T.length,σ)else none)=_
  rw[Hb (Nat.lt_succ_of_le hk)];rfl
 have e1:bv lD (aw (bv eV (aw (al 1) aJ)) aJ) fr σ=some (.rng 0 T.length,σ):=by
  simp only[et,cz,cq,bk,h1,u1,ae,aX,xX (fV hk'),er]
 have e2:fE σ (.rng 0 T.length)=some ((iV 0 T.length).map (fun i=>.int (am i)),σ):=by
  show bC (some ((cB (T.length-0)).map (fun i=>AV.int (am (0+i))),σ)) (fun l ai=>bif dB l.length then some (l,ai)else none)=_
  rw[aX,aS,EY,N8,fV hk',List.range_eq_range']
  refine congrArg (fun l=>some (l,σ)) (fX fun i _=> ?_)
  rw[ic]
 have c:=U8 hT hk h1 (σ:=σ) T.length 0 true (ic _) (fun _=>rfl) fun j t hj _=>absurd hj.symm (ki _)
 have hl: ∀(T:List AV) (p:Bool),(jY p T).length <=T.length:=fun T=>by
  induction T with
  |nil=>exact fun _=>ax _
  |cons t T ih=>
   intro p
   cases p with
   |true=>exact be (ih (wJ t))
   |false=>exact mN (ih (wJ t))
 show bC (bv lD (aw (bv eV (aw (al 1) aJ)) aJ) fr σ) (fun x ai=>bC (fE ai x) fun l ay=>bC (eI [11] tj (bi fU (al 1) (al 11)) l fr ay) fun vs aM=>bif dB vs.length then some (AV.ref aM.next,aM.alloc (.lst vs))else none)=_
 rw[e1,aX,e2,aX,c,aX,l0,fV (au (hl T true) hk')];rfl
def Vb(t:AV):Bool:=(ob (aA 2 t ⟨0,[]⟩) fun k=>ob (aA 1 t ⟨0,[]⟩) fun w=>ek k fun k=>some (bif dm k pY then(tY [w] ⟨0,[]⟩).isSome else true)).getD false
def iX(T:aa):Bool:=(jY true T).all Vb
theorem IZ{x:List Nat×List Nat×Nat}{l:List (List Nat×List Nat×Nat)}{m:aa}{a:Bool}{c:Nat}(hx:(dm x.1 jo&&dm x.2.1 [46])=false)(h:xZ l=true)(hg:Vb (tk x.1 x.2.1 c a)=true):iX (wK a c (x::(l++[KM]))++m)=iX m:=by
 unfold iX
 rw[ahn hx h,rF,hg];rfl
theorem ahF{lvl:Nat}(h:rr lvl=true)(c:Nat)(a:Bool):Vb (tk pY (nW lvl) c a)=true:=lvE (P:=fun lvl=>Vb (tk pY (nW lvl) c a)=true) h rfl rfl rfl rfl
theorem ahE{lvl:Nat}{x:Nat×Nat×Nat}{m:aa}(h:rr lvl=true):iX (ku lvl x++m)=iX m:=by
 rw[Hp,IZ rfl (by
  show(!(dm uQ jo&&dm (nm x.1) [46])&&xZ (RX x.2.2++(Sb x.2.1++RV x.2.1)))=true
  rw[ED,ED,aiD,akU,aiw];rfl) (ahF h _ _)]
theorem ahG{n:Nat}{m:aa}:iX (fF n++m)=iX m:=IZ (x:=nu [56,56]) (l:=[wd ([73,83,45]++nm n),wd [86,65,76,85,69],(jo,[45],1),nu [53],wd [84,72,82,85],nu [49,46,50,53],(Yx,[113],4)]) rfl rfl rfl
theorem ahH{n l:Nat}{m:aa}:iX (gE n l++m)=iX m:=by
 unfold gE
 cases l with
 |zero=>exact IZ (x:=nu [54,54]) (l:=[wd (nm n),wd [82,69,78,65,77,69,83],wd (nm 16)]) rfl rfl rfl
 |succ l=>exact IZ (x:=nu [54,54]) (l:=[wd (nm n),wd [82,69,78,65,77,69,83],wd (nm 16),wd [84,72,82,85],wd (nm 22)]) rfl rfl rfl
theorem I0{a b:ac}{m:aa}:iX (cj a b++m)=iX m:=IZ (x:=wd a) (l:=[(uQ,b,b.length)]) rfl rfl rfl
theorem qq{lvl:Nat}{l:Lf}{m:aa}(h:rr lvl=true):iX (dT lvl l++m)=iX m:=by
 obtain⟨i,c⟩:=l
 unfold dT rS
 rw[aB,ahE h]
 cases c with
 |false=>rfl
 |true=>exact ahG
theorem ahI{t:Tn}{m:aa}:iX (vj t++m)=iX m:=by
 cases t with
 |leaf l=>exact qq rfl
 |grp g a=>
  show iX ((dT 5 g++dT 10 a)++m)=iX m
  rw[aB,qq rfl,qq rfl]
 |grp2 g a b=>
  show iX ((dT 5 g++(dT 10 a++dT 10 b))++m)=iX m
  rw[aB,qq rfl,aB,qq rfl,qq rfl]
theorem XF{r:Rt}(h:oj r){m:aa}:iX (iu r++m)=iX m:=by
 unfold iu
 have h1: ∀(ts:List Tn) (m:List AV),iX (ts.flatMap vj++m)=iX m:=fun ts m=>by
  induction ts with
  |nil=>rfl
  |cons t ts ih=>rw[aY,aB,ahI,ih]
 have h2:iX (VD (j7 1 r.it) r.ren++m)=iX m:=by
  cases r.ren with
  |zero=>rfl
  |succ l=>exact ahH
 rw[aB,qq h.lv.1,aB,h1,h2]
theorem acC{a b:ac}{o:Option Rt}(h:Kl o){m:aa}:iX (fM (cj a b) o++m)=iX m/\iB (fM (cj a b) o++m)=(o.map AB).getD []++iB m:=by
 cases o with
 |none=>exact⟨rfl,rfl⟩
 |some r=>
  have e:fM (cj a b) (some r)++m=cj a b++(iu r++m):=aB ..
  rw[e]
  exact⟨by rw[I0,XF (h r rfl)],by rw[I9,XT (h r rfl)];rfl⟩
noncomputable def CB(d:DS):List Int:=((d.f.map (·.2.2)).map AB).getD []++((d.w.map AB).getD []++(d.l.map AB).getD [])
theorem anZ{d:DS}(h:jk d):iX (gM d)=true/\iB (gM d)=CB d:=by
 obtain⟨l1,l2⟩:=acC (a:=pO) (b:=dg) h.l (m:=[])
 obtain⟨w1,w2⟩:=acC (a:=mD) (b:=dg) h.w (m:=fM (cj pO dg) d.l++[])
 have hb:iX (dW d)=true/\iB (dW d)=CB d:=by
  have e3:dW d=je d++(fM (cj mD dg) d.w++(fM (cj pO dg) d.l++[])):=by
   unfold dW;rw[aR,aB]
  have hf:iX (je d++(fM (cj mD dg) d.w++(fM (cj pO dg) d.l++[])))=iX (fM (cj mD dg) d.w++(fM (cj pO dg) d.l++[]))/\iB (je d++(fM (cj mD dg) d.w++(fM (cj pO dg) d.l++[])))=((d.f.map (·.2.2)).map AB).getD []++iB (fM (cj mD dg) d.w++(fM (cj pO dg) d.l++[])):=by
   generalize fM (cj mD dg) d.w++(fM (cj pO dg) d.l++[])=m
   obtain⟨f,w,l⟩:=d
   cases f with
   |none=>exact⟨rfl,rfl⟩
   |some x=>
    have e:je ⟨some x,w,l⟩++m=cj gV dg++(cj (kp x.2.1) (eo x.1)++(iu x.2.2++m)):=by
     show(cj gV dg++(cj (kp x.2.1) (eo x.1)++iu x.2.2))++m=_
     rw[aB,aB]
    have hr:=(h.f x rfl).1
    rw[e]
    exact⟨by rw[I0,I0,XF hr],by rw[I9,I9,XT hr];rfl⟩
  rw[e3,hf.1,hf.2,w1,w2,l1,l2]
  refine⟨rfl,?_⟩
  unfold CB
  rw[show iB []=[] from rfl,aR]
 unfold gM
 cases z:(dW d).isEmpty with
 |true=>
  have hb0:=eB.mp z
  rw[hb0]at hb
  exact hb
 |false=>exact⟨I0.trans hb.1,I9.trans hb.2⟩
theorem aho{T:aa}: ∀{p:Bool},∀t∈jY p T,t∈T:=by
 induction T with
 |nil=>exact fun t h=>h
 |cons x T ih=>
  intro p t h
  cases p with
  |true=>exact(aG.mp (show t∈x::jY (wJ x) T from h)).elim (fun h=>h▸bf ..) fun h=>aQ _ (ih t h)
  |false=>exact aQ _ (ih t (show t∈jY (wJ x) T from h))
theorem adW{w:ac}(h:(tY [.str w] ⟨0,[]⟩).isSome=true): ∃n,lP 0 w=some n/\ ∀σ,tY [.str w] σ=some (.int (am n),σ):=by
 cases w with
 |nil=>exact ff h
 |cons c r=>
  have h:(bif bw r.length 18 then ob (lP 0 (c::r)) (fun n=>some (AV.int (am n),(⟨0,[]⟩:AS)))else none).isSome=true:=h
  cases z:bw r.length 18 with
  |false=>rw[z]at h;exact ff h
  |true=>
   rw[z,af]at h
   cases e:lP 0 (c::r)with
   |none=>rw[e]at h;exact ff h
   |some n=>
    refine⟨n,rfl,fun σ=> ?_⟩
    show(bif bw r.length 18 then ob (lP 0 (c::r)) (fun n=>some (AV.int (am n),σ))else none)=_
    rw[z,e];rfl
theorem Vj{T:aa}(hT:lJ T)(hg:iX T=true){fr:Fm}{σ:AS}{j:Nat}(h6:gt fr 6= .ref j)(hj:σ.get j=some (.lst (jY true T)))(hk:(jY true T).length <=4000000):
  eO [10] (al 6) (fw (b5 .Eq) (un (aA 2) (al 10)) (ba (.str [110,117,109,98,101,114]))) (bv tY (aw (un (aA 1) (al 10)) aJ)) fr σ=some (.ref (σ.drop j).next,(σ.drop j).alloc (.lst ((iB T).map .int))):=by
 have e1:al 6 fr σ=some (.ref j,σ):=by rw[bk,h6];rfl
 have e2:fE σ (.ref j)=some (jY true T,σ.drop j):=by
  show bC (ob (σ.get j) _) _=_
  rw[hj]
  show(bif dB (jY true T).length then some (jY true T,σ.drop j)else none)=_
  rw[fV hk];rfl
 have c:eI [10] (fw (b5 .Eq) (un (aA 2) (al 10)) (ba (.str [110,117,109,98,101,114]))) (bv tY (aw (un (aA 1) (al 10)) aJ)) (jY true T) fr (σ.drop j)=some ((jY true T).filterMap (fun t=>(Md t).map AV.int),σ.drop j):=Pg fun t ht σ=>by
  obtain⟨k,w,c,a,rfl⟩:=hT t (aho t ht)
  have a2: ∀σ,aA 2 (tk k w c a) σ=some (.str k):=fun _=>rfl
  have a1: ∀σ,aA 1 (tk k w c a) σ=some (.str w):=fun _=>rfl
  have hu:bX (tk k w c a)=false:=rfl
  have gd:(bif dm k pY then(tY [.str w] ⟨0,[]⟩).isSome else true)=true:=bZ.mp hg _ ht
  have lg:Md (tk k w c a)=bif dm k pY then ob (lP 0 w) (fun n=>some (am n))else none:=rfl
  have ce: ∀σ,b5 .Eq (.str k) (.str [110,117,109,98,101,114]) σ=some (dm k pY):=fun _=>rfl
  refine⟨dm k pY,by simp only[fD,gm,bk,c9,hu,ae,aX,a2,b9,d5,ce],fun hb=> ?_,fun hb=>by rw[lg,hb];rfl⟩
  rw[hb]at gd
  refine eX (adW gd) fun n p1 p2=> ?_
  exact⟨.int (am n),by simp only[et,cz,cq,gm,bk,c9,hu,ae,aX,a1,b9,p2],by rw[lg,hb,af,p1];rfl⟩
 have hm:(jY true T).filterMap (fun t=>(Md t).map AV.int)=(iB T).map AV.int:=List.map_filterMap.symm
 show bC (al 6 fr σ) (fun x ai=>bC (fE ai x) fun l ay=>bC (eI [10] (fw (b5 .Eq) (un (aA 2) (al 10)) (ba (.str [110,117,109,98,101,114]))) (bv tY (aw (un (aA 1) (al 10)) aJ)) l fr ay) fun vs aM=>bif dB vs.length then some (AV.ref aM.next,aM.alloc (.lst vs))else none)=_
 rw[e1,aX,e2,aX,c,aX,fV (au (tH ..) hk),hm];rfl
def Lp(self:aW):SM:=aV (cT [1] (bi (b4 .Add) (al 1) (bv self (aw (al 2) aJ)))) bq
theorem abe{self:aW}{ks:List (AV×List AV)}: ∀{fr:Fm} {σ:AS} {i:Nat} {L:aa},(∀k∈ks,bX k.1=false/\ ∀σ,self [k.1] σ=some (.ref σ.next,σ.alloc (.lst k.2)))->gt fr 1= .ref i->σ.get i=some (.lst L)->i<σ.next->L.length+(ks.flatMap (·.2)).length <=4000000->
  ∃fr' ai j,pI [2] (Lp self) (ks.map (·.1)) fr σ=some (.next fr' ai)/\gt fr' 1= .ref j/\ai.get j=some (.lst (L++ks.flatMap (·.2))):=by
 induction ks with
 |nil=>exact fun{fr σ i L} _ hf hi _ _=>⟨fr,σ,i,rfl,hf,by rw[bI,aR];exact hi⟩
 |cons k ks ih=>
  intro fr σ i L h hf hi hs hk
  obtain⟨hu,hself⟩:=h k (bf ..)
  rw[aY]at hk ⊢
  have hk1:L.length+k.2.length<=4000000:=au (dy (by rw[ao];exact cY _ _) _) hk
  have h1:gt (put fr 2 k.1) 1= .ref i:=(fQ rfl).trans hf
  have ea:=II (σ:=σ.alloc (.lst k.2)) (i:=i) (j:=σ.next) (dN hi hs) cn hk1
  have e1:Lp self (put fr 2 k.1) σ=some (.next (put (put fr 2 k.1) 1 (.ref (σ.alloc (.lst k.2)).next)) ((σ.alloc (.lst k.2)).alloc (.lst (L++k.2)))):=by
   unfold Lp
   simp only[dk,fH,jH,bk,h1,c9,fq,hu,ae,aX,et,cz,cq,hself,ea,b9,dF,fJ]
  refine Xp (ih (fr:=put (put fr 2 k.1) 1 (.ref (σ.alloc (.lst k.2)).next)) (σ:=(σ.alloc (.lst k.2)).alloc (.lst (L++k.2))) (i:=(σ.alloc (.lst k.2)).next) (L:=L++k.2) (fun k hk=>h k (aQ _ hk)) c9 cn (bU _) (by rw[ao,kE,<- ao];exact hk)) fun fr' ai j e2 h2 h3=> ?_
  refine⟨fr',ai,j,?_,h2,by rw[h3,aB]⟩
  rw[bh,EL e1,e2]
theorem aoC{σ:AS}{j m:Nat}{l:aa}(hj:σ.get j=some (.lst l))(hm:m<100)(hl:l.length<=1000):b4 .Mult (.ref j) (.int (am m)) σ=some (.ref σ.next,σ.alloc (.lst (bL m l).flatten)):=by
 show(bif bw m 100 then ob (σ.get j) _ else none)=_
 rw[Hb hm,hj]
 show(bif cX l.length 1000 then _ else none)=_
 rw[gp hl];rfl
theorem T0{n:Nat}{it lv:AV}{cs:aa}{ks:List (AV×List AV)}(hit:noRef it=true)(hu:bX it=false)(ha: ∀σ,aA 20 it σ=some lv)(hlv:noRef lv=true)(hc: ∀σ,aA 23 it σ=some (.lst cs))(hcl:cs.length<100)(hkd: ∀σ,aA 22 it σ=some (.lst (ks.map (·.1))))
  (hk: ∀k∈ks,bX k.1=false/\ ∀σ,bA n [k.1] σ=some (.ref σ.next,σ.alloc (.lst k.2)))(hn:aN (([lv]++(bL cs.length [AV.int 88]).flatten)++ks.flatMap (·.2))=true)(hl:(([lv]++(bL cs.length [AV.int 88]).flatten)++ks.flatMap (·.2)).length <=4000000)(hkl:ks.length<=4000000)(σ:AS):
  bA (n+1) [it] σ=some (.ref σ.next,σ.alloc (.lst (([lv]++(bL cs.length [AV.int 88]).flatten)++ks.flatMap (·.2)))):=by
 have mk1: ∀a σ,de [a] σ=some (.ref σ.next,σ.alloc (.lst [a])):=fun _ _=>rfl
 have key: ∀σ:AS,∃x ai,zW (bA n) [it] σ=some (.ref x,ai)/\ai.get x=some (.lst (([lv]++(bL cs.length [AV.int 88]).flatten)++ks.flatMap (·.2))):=fun σ=>by
  have k1:[lv].length +((bL cs.length [AV.int 88]).flatten).length <=4000000:=by
   rw[<- ao]
   exact au (by rw[ao (as:=[lv]++(bL cs.length [AV.int 88]).flatten)];exact cY _ _) hl
  have em:=aoC (σ:=(σ.alloc (.lst [lv])).alloc (.lst [.int 88])) (j:=(σ.alloc (.lst [lv])).next) (l:=[.int 88]) cn hcl (by decide)
  have g1:(((σ.alloc (.lst [lv])).alloc (.lst [.int 88])).alloc (.lst (bL cs.length [AV.int 88]).flatten)).get σ.next=some (.lst [lv]):=dN (dN cn (bU _)) (cO (bU _))
  have ea:=II (σ:=((σ.alloc (.lst [lv])).alloc (.lst [.int 88])).alloc (.lst (bL cs.length [AV.int 88]).flatten)) (i:=σ.next) (j:=((σ.alloc (.lst [lv])).alloc (.lst [.int 88])).next) g1 cn k1
  generalize hS:(((σ.alloc (.lst [lv])).alloc (.lst [.int 88])).alloc (.lst (bL cs.length [AV.int 88]).flatten)).alloc (.lst ([lv]++(bL cs.length [AV.int 88]).flatten))=g8 at ea
  have g2:g8.get (((σ.alloc (.lst [lv])).alloc (.lst [.int 88])).alloc (.lst (bL cs.length [AV.int 88]).flatten)).next=some (.lst ([lv]++(bL cs.length [AV.int 88]).flatten)):=by rw[<- hS];exact cn
  have l2:(((σ.alloc (.lst [lv])).alloc (.lst [.int 88])).alloc (.lst (bL cs.length [AV.int 88]).flatten)).next <g8.next:=by rw[<- hS];exact bU _
  generalize (((σ.alloc (.lst [lv])).alloc (.lst [.int 88])).alloc (.lst (bL cs.length [AV.int 88]).flatten)).next=i at ea g2 l2
  have ln: ∀σ:AS,eV [.lst cs] σ=some (.int (.ofNat cs.length),σ):=fun σ=>xX (fV (au (i8 hcl) (by decide)))
  have e1:cT [1] (bi (b4 .Add) (bv de (aw (un (aA 20) (al 0)) aJ)) (bi (b4 .Mult) (bv de (aw (ba (.int (88))) aJ)) (bv eV (aw (un (aA 23) (al 0)) aJ)))) [it] σ=some (.next [it,.ref i] g8):=by
   simp only[fH,jH,et,cz,cq,gm,bk,kI,hu,ae,aX,ha,b9,mk1,d5,hc,ln,em,ea,sD,sE,putN]
  obtain⟨fr',ai,j,e2,h2,h3⟩:=abe (self:=bA n) (fr:=[it,.ref i]) (σ:=g8) (i:=i) hk rfl g2 l2 (by rw[<- ao];exact hl)
  have e3:gB [2] (un (aA 22) (al 0)) (Lp (bA n)) [it,.ref i] g8=some (.next fr' ai):=by
   refine(zl (l:=ks.map (·.1)) ?_ (by rw[aS];exact hkl)).trans e2
   simp only[gm,bk,kI,hu,ae,aX,hkd,b9]
  refine⟨j,ai,?_,h3⟩
  show ob (ob (cT [1] _ [it] σ) (gU (aV (gB [2] (un (aA 22) (al 0)) (Lp (bA n))) (aV (eK (al 1)) bq)))) ir=_
  rw[e1]
  show ob (ob (gB [2] (un (aA 22) (al 0)) (Lp (bA n)) [it,.ref i] g8) (gU (aV (eK (al 1)) bq))) ir=_
  rw[e3]
  show ob (aV (eK (al 1)) bq fr' ai) ir=_
  simp only[dk,ej,bk,h2,fq,ae,aX,b9,dH,gA]
 obtain⟨x,ai,e,g⟩:=key ⟨0,[]⟩
 exact aai (by rw[gZ,hit];rfl) e g hn
theorem C0(l:List Int):aN (l.map AV.int)=true:=by
 induction l with
 |nil=>rfl
 |cons a l ih=>exact ih
noncomputable def CQ(lvl:Nat)(l:Lf):List AV:=(am lvl::nV l).map AV.int
theorem zN{n lvl:Nat}{l:Lf}{ks:List (AV×List AV)}{p:AV}(hks:aN (ks.map (·.1))=true)(hp:noRef p=true)(hk: ∀k∈ks,bX k.1=false/\ ∀σ,bA n [k.1] σ=some (.ref σ.next,σ.alloc (.lst k.2)))(hn:aN (ks.flatMap (·.2))=true)(hl:(CQ lvl l++ks.flatMap (·.2)).length <=4000000)(hkl:ks.length<=4000000)(σ:AS):
  bA (n+1) [pj lvl l (ks.map (·.1)) p] σ=some (.ref σ.next,σ.alloc (.lst (CQ lvl l++ks.flatMap (·.2)))):=by
 have hit:noRef (pj lvl l (ks.map (·.1)) p)=true:=by
  show(true&&aN (j9 _ _ _ _ _))=true
  rw[Hx,Hw,sB,hks,hp];rfl
 have key: ∀cs:List AV,conds lvl l= .lst cs->[AV.int (am lvl)]++(bL cs.length [AV.int 88]).flatten=CQ lvl l->cs.length<100->bA (n+1) [pj lvl l (ks.map (·.1)) p] σ=some (.ref σ.next,σ.alloc (.lst (CQ lvl l++ks.flatMap (·.2)))):=fun cs h1 h2 h3=>by
  have h:=T0 (n:=n) (it:=pj lvl l (ks.map (·.1)) p) (lv:=.int (am lvl)) (cs:=cs) (ks:=ks) hit rfl (fun _=>rfl) rfl (fun σ=> ?_) h3 (fun _=>rfl) hk (by rw[h2,b6,hn,show aN (CQ lvl l)=true from C0 _];rfl) (by rw[h2];exact hl) hkl σ
  ·rw[h2]at h;exact h
  ·rw[<- h1]
   obtain⟨i,c⟩:=l
   cases c<;>rfl
 obtain⟨i,c⟩:=l
 cases c with
 |false=>exact key [] rfl rfl (by decide)
 |true=>exact key [qt (j7 lvl ⟨i,true⟩)] rfl rfl (show 1<100 by decide)
theorem uu(lvl:Nat)(l:Lf):(CQ lvl l).length <=2:=by
 unfold CQ nV
 cases l.c<;>exact av rfl
theorem JT{n lvl:Nat}{l:Lf}(σ:AS):bA (n+1) [ou lvl l .opq] σ=some (.ref σ.next,σ.alloc (.lst (CQ lvl l))):=by
 have h:=zN (n:=n) (lvl:=lvl) (l:=l) (ks:=[]) (p:=.opq) rfl rfl (fun _ h=>absurd h bg) rfl (by rw[bI,aR];exact au (uu lvl l) (by decide)) (aU _) σ
 rw[bI,aR]at h
 exact h
theorem afj{n i l:Nat}(σ:AS):bA (n+1) [.frz cp gg (ke i l .opq)] σ=some (.ref σ.next,σ.alloc (.lst [.int 66])):=by
 have hrn:noRef (ye l)=true:=NV (P:=fun a=>noRef a=true) rfl rfl l
 have hit:noRef (.frz cp gg (ke i l .opq))=true:=by
  show aN (ke i l .opq)=true
  simp only[ke,gZ,X8,X6,X4,X3,aco,sB,hrn,X7,rC]
 exact T0 (n:=n) (it:=.frz cp gg (ke i l .opq)) (lv:=.int 66) (cs:=[]) (ks:=[]) hit rfl (fun _=>rfl) rfl (fun _=>rfl) (by decide) (fun _=>rfl) (fun _ h=>absurd h bg) rfl (av rfl) (aU _) σ
theorem ak1{n:Nat}(t:Tn)(σ:AS):bA (n+2) [sO t] σ=some (.ref σ.next,σ.alloc (.lst ((yp t).map AV.int))):=by
 cases t with
 |leaf l=>exact JT (n:=n+1) σ
 |grp g a=>
  have h:=zN (n:=n+1) (lvl:=5) (l:=g) (ks:=[(ou 10 a .opq,CQ 10 a)]) (p:=.opq) (by rw[bh,jU,gZ,qu];rfl) rfl (fun k hk=>(aO.mp hk)▸⟨rfl,fun σ=>JT σ⟩)
   (by rw[aY,bI,aR];exact C0 _) (by rw[aY,bI,aR,ao];exact au (aK (uu _ _) (uu _ _)) (by decide)) (av rfl) σ
  rw[aY,bI,aR,show CQ 5 g++CQ 10 a=(yp (.grp g a)).map AV.int from(br ..).symm]at h
  exact h
 |grp2 g a b=>
  have h:=zN (n:=n+1) (lvl:=5) (l:=g) (ks:=[(ou 10 a .opq,CQ 10 a),(ou 10 b .opq,CQ 10 b)]) (p:=.opq) (by rw[bh,bh,jU,gZ,gZ,qu,qu];rfl) rfl
   (fun k hk=>(aG.mp hk).elim (fun h=>h▸⟨rfl,fun σ=>JT σ⟩) fun hk=>(aO.mp hk)▸⟨rfl,fun σ=>JT σ⟩)
   (by rw[aY,aY,bI,aR,b6];exact(congr (congrArg and (C0 _)) (C0 _))) (by rw[aY,aY,bI,aR,ao,ao];exact au (aK (uu _ _) (aK (uu _ _) (uu _ _))) (by decide)) (av rfl) σ
  rw[aY,aY,bI,aR]at h
  have e:CQ 5 g++(CQ 10 a++CQ 10 b)=(yp (.grp2 g a b)).map AV.int:=by
   show(am 5::nV g).map AV.int++((am 10::nV a).map AV.int++(am 10::nV b).map AV.int)=_
   rw[<- br,<- br];rfl
  rw[e]at h
  exact h
theorem akK(t:Tn):(yp t).length <=6:=by
 have h: ∀l:Lf,(nV l).length <=1:=fun l=>by unfold nV;cases l.c<;>exact av rfl
 cases t with
 |leaf l=>exact au (be (h l)) (by decide)
 |grp g a=>
  show(5::(nV g++10::nV a)).length <=6
  rw[bT,ao,bT]
  exact au (be (aK (h g) (be (h a)))) (by decide)
 |grp2 g a b=>
  show(5::(nV g++10::(nV a++10::nV b))).length <=6
  rw[bT,ao,bT,ao,bT]
  exact be (aK (h g) (be (aK (h a) (be (h b)))))
theorem K4{ts:List Tn}(h:ts.length<=8):(ts.flatMap yp).length <=48:=by
 have: ∀ts:List Tn,(ts.flatMap yp).length <=6*ts.length:=fun ts=>by
  induction ts with
  |nil=>exact ax _
  |cons t ts ih=>
   rw[aY,ao,bT,N7,lz]
   exact aK ih (akK t)
 exact au (this ts) (pS 6 h)
theorem ak0{r:Rt}(h:r.ts.length<=8)(σ:AS):bA 6 [d9 r] σ=some (.ref σ.next,σ.alloc (.lst ((AB r).map AV.int))):=by
 have hr: ∃ks:List (AV×List AV),ks.map (·.1)=qS r/\ks.flatMap (·.2)=(Qu r.ren).map AV.int/\ks.length<=1/\ ∀k∈ks,bX k.1=false/\ ∀σ,bA 5 [k.1] σ=some (.ref σ.next,σ.alloc (.lst k.2)):=by
  obtain⟨lv,it,ts,n⟩:=r
  cases n with
  |zero=>exact⟨[],rfl,rfl,aU _,fun _ h=>absurd h bg⟩
  |succ l=>exact⟨[(.frz cp gg (ke (17+j7 1 it) l .opq),[.int 66])],rfl,rfl,ax _,fun k hk=>(aO.mp hk)▸⟨rfl,fun σ=>afj σ⟩⟩
 obtain⟨ks,r1,r2,r3,r4⟩:=hr
 have hf:(r.ts.map (fun t=>(sO t,(yp t).map AV.int))++ks).map (·.1)=DL r.ts++qS r:=by
  rw[br,r1,gL]
  refine congrArg (· ++qS r) ?_
  induction r.ts with
  |nil=>rfl
  |cons t ts ih=>exact congrArg (sO t:: ·) ih
 have hs:(r.ts.map (fun t=>(sO t,(yp t).map AV.int))++ks).flatMap (·.2)=(r.ts.flatMap yp++Qu r.ren).map AV.int:=by
  rw[kW,r2,br]
  refine congrArg (· ++(Qu r.ren).map AV.int) ?_
  induction r.ts with
  |nil=>rfl
  |cons t ts ih=>
   show(yp t).map AV.int++(ts.map (fun t=>(sO t,(yp t).map AV.int))).flatMap (·.2)=(yp t++ts.flatMap yp).map AV.int
   rw[ih,br]
 have hrn:(Qu r.ren).length <=1:=by cases r.ren<;>exact av rfl
 have q:=zN (n:=5) (lvl:=r.lvl) (l:=r.it) (ks:=r.ts.map (fun t=>(sO t,(yp t).map AV.int))++ks) (p:=.none) (by rw[hf,b6,NT,Vs];rfl) rfl
  (fun k hk=>(cV.mp hk).elim (fun hk=>by
   obtain⟨t,_,rfl⟩:=dD.mp hk
   exact⟨by cases t<;>rfl,fun σ=>ak1 (n:=3) t σ⟩) (r4 k))
  (by rw[hs];exact C0 _)
  (by rw[hs,ao,aS,ao];exact au (aK (uu _ _) (aK (K4 h) hrn)) (by decide))
  (by rw[ao,aS];exact au (aK h r3) (by decide)) σ
 have e:CQ r.lvl r.it++(r.ts.flatMap yp++Qu r.ren).map AV.int=(AB r).map AV.int:=(br ..).symm
 rw[hf,hs,e]at q
 exact q
def kH(σ ai:AS):Prop:=σ.next<=ai.next/\ ∀j c,j<σ.next->σ.get j=some c->ai.get j=some c
theorem kH.rfl'{σ:AS}:kH σ σ:=⟨ax _,fun _ _ _ h=>h⟩
theorem kH.trans{a b c:AS}(h:kH a b)(h':kH b c):kH a c:=⟨au h.1 h'.1,fun j x hj hx=>h'.2 j x (fe hj h.1) (h.2 j x hj hx)⟩
theorem kH.alloc{σ:AS}{d:bJ}:kH σ (σ.alloc d):=⟨cR _,fun _ _ hj hx=>dN hx hj⟩
theorem kH.adrop{σ:AS}{d:bJ}:kH σ ((σ.alloc d).drop σ.next):=⟨cR _,fun _ _ hj hx=>by rw[AS.get_drop,if_neg (ct hj)];exact dN hx hj⟩
theorem afi{rs:List (AV×List AV)}{fr:Fm}: ∀{σ:AS},(∀p∈rs,bX p.1=false/\(∀a∈p.2,bX a=false)/\p.2.length<=4000000/\ ∀σ,bA 6 [p.1] σ=some (.ref σ.next,σ.alloc (.lst p.2)))->
  ∃ai,jz 8 (bv (bA 6) (aw (al 8) aJ)) 9 (al 9) (rs.map (·.1)) fr σ=some (rs.flatMap (·.2),ai)/\kH σ ai:=by
 induction rs with
 |nil=>exact fun{σ} _=>⟨σ,rfl,kH.rfl'⟩
 |cons p rs ih=>
  intro σ h
  obtain⟨hu,hi,hk,hw⟩:=h p (bf ..)
  have e1:bv (bA 6) (aw (al 8) aJ) (put fr 8 p.1) σ=some (.ref σ.next,σ.alloc (.lst p.2)):=by
   simp only[et,cz,cq,bk,c9,hu,ae,aX,hw]
  have e2:fE (σ.alloc (.lst p.2)) (.ref σ.next)=some (p.2,(σ.alloc (.lst p.2)).drop σ.next):=by
   show bC (ob ((σ.alloc (.lst p.2)).get σ.next) _) _=_
   rw[cn]
   show(bif dB p.2.length then some (p.2,(σ.alloc (.lst p.2)).drop σ.next)else none)=_
   rw[fV hk];rfl
  obtain⟨ai,e4,hK⟩:=ih (σ:=(σ.alloc (.lst p.2)).drop σ.next) fun q hq=>h q (aQ _ hq)
  refine⟨ai,?_,kH.adrop.trans hK⟩
  show bC (bv (bA 6) (aw (al 8) aJ) (put fr 8 p.1) σ) (fun s ai=>bC (fE ai s) fun l ay=>bC (eI [9] (fun _ σ=>some (true,σ)) (al 9) l (put fr 8 p.1) ay) fun bs fW=>bC (jz 8 (bv (bA 6) (aw (al 8) aJ)) 9 (al 9) (rs.map (·.1)) fr fW) fun cs cN=>some (bs++cs,cN))=_
  rw[e1,aX,e2,aX,af9 hi,aX,e4];rfl
def Nl(o:Option Rt):List (AV×List AV):=bo (motive:=fun _=>List (AV×List AV)) [] (fun r=>[(d9 r,(AB r).map AV.int)]) o
theorem VF{o:Option Rt}(h: ∀r,o=some r->r.ts.length<=8):(Nl o).map (·.1)=jn o/\(Nl o).flatMap (·.2)=((o.map AB).getD []).map AV.int/\ ∀p∈Nl o,bX p.1=false/\(∀a∈p.2,bX a=false)/\p.2.length<=4000000/\ ∀σ,bA 6 [p.1] σ=some (.ref σ.next,σ.alloc (.lst p.2)):=by
 cases o with
 |none=>exact⟨rfl,rfl,fun _ h=>absurd h bg⟩
 |some r=>
  refine⟨rfl,aR _,fun p hp=> ?_⟩
  rw[aO.mp hp]
  refine⟨rfl,fun a ha=> ?_,?_,ak0 (h r rfl)⟩
  ·obtain⟨i,_,rfl⟩:=dD.mp ha
   rfl
  ·have hc:(nV r.it).length <=1:=by unfold nV;cases r.it.c<;>exact av rfl
   have hrn:(Qu r.ren).length <=1:=by cases r.ren<;>exact av rfl
   rw[aS]
   show(am r.lvl::(nV r.it++(r.ts.flatMap yp++Qu r.ren))).length <=4000000
   rw[bT,ao,ao]
   exact au (be (aK hc (aK (K4 (h r rfl)) hrn))) (by decide)
theorem jk.fo{d:DS}(h:jk d): ∀r,d.f.map (·.2.2)=some r->r.ts.length<=8:=fun r e=>by
 cases q:d.f with
 |none=>rw[q]at e;exact nn e
 |some x=>
  rw[q]at e
  rw[<- aH e]
  exact(h.f x q).1.ts8
theorem V0{d:DS}(h:jk d){fr:Fm}{σ:AS}(h3:gt fr 3= .lst (d8 d)): ∃ai:AS,qO 8 (al 3) 9 (bv (bA 6) (aw (al 8) aJ)) (al 9) fr σ=some (.ref ai.next,ai.alloc (.lst ((CB d).map AV.int)))/\kH σ ai:=by
 obtain⟨a1,a2,a3⟩:=VF h.fo
 obtain⟨b1,b2,b3⟩:=VF h.w.ts
 obtain⟨c1,c2,c3⟩:=VF h.l.ts
 have m1:(((Nl (d.f.map (·.2.2))++Nl d.w)++Nl d.l)).map (·.1)=d8 d:=by
  rw[br,br,a1,b1,c1];rfl
 have m2:(((Nl (d.f.map (·.2.2))++Nl d.w)++Nl d.l)).flatMap (·.2)=(CB d).map AV.int:=by
  rw[kW,kW,a2,b2,c2,<- br,<- br,aB];rfl
 have all: ∀p∈(Nl (d.f.map (·.2.2))++Nl d.w)++Nl d.l,bX p.1=false/\(∀a∈p.2,bX a=false)/\p.2.length<=4000000/\ ∀σ,bA 6 [p.1] σ=some (.ref σ.next,σ.alloc (.lst p.2)):=fun p hp=>(cV.mp hp).elim (fun hp=>(cV.mp hp).elim (a3 p) (b3 p)) (c3 p)
 obtain⟨ai,e,hK⟩:=afi (fr:=put fr 9 .unb) (σ:=σ) all
 rw[m1,m2]at e
 refine⟨ai,?_,hK⟩
 have e1:al 3 fr σ=some (.lst (d8 d),σ):=by rw[bk,h3];rfl
 have hr:(d8 d).length <=4000000:=by
  unfold d8 fL
  rw[ao,ao]
  exact au (aK (aK (ru _) (ru _)) (ru _)) (by decide)
 have hl:(CB d).length <=4000000:=by
  have ho: ∀o:Option Rt,(∀r,o=some r->r.ts.length<=8)->((o.map AB).getD []).length <=1000:=fun o h=>by
   cases o with
   |none=>exact aU _
   |some r=>
    have hc:(nV r.it).length <=1:=by unfold nV;cases r.it.c<;>exact av rfl
    have hrn:(Qu r.ren).length <=1:=by cases r.ren<;>exact av rfl
    show(am r.lvl::(nV r.it++(r.ts.flatMap yp++Qu r.ren))).length <=1000
    rw[bT,ao,ao]
    exact au (be (aK hc (aK (K4 (h r rfl)) hrn))) (by decide)
  unfold CB
  rw[ao,ao]
  exact au (aK (ho _ h.fo) (aK (ho _ h.w.ts) (ho _ h.l.ts))) (by decide)
 show bC (al 3 fr σ) (fun a ai=>bC (fE ai a) fun l ay=>bC (jz 8 (bv (bA 6) (aw (al 8) aJ)) 9 (al 9) l (put fr 9 .unb) ay) fun vs aM=>bif dB vs.length then some (AV.ref aM.next,aM.alloc (.lst vs))else none)=_
 rw[e1,aX,NQ hr,aX,e,aX,fV (by rw[aS];exact hl)];rfl
def Mj(h:ac)(o:Option Rt):List (List Nat):=bo (motive:=fun _=>List (List Nat)) [] (fun r=>[h,nW r.lvl]) o
def U6(d:DS):List (List Nat):=bo (motive:=fun _=>List (List Nat)) [] (fun x=>[gV,kp x.2.1,nW x.2.2.lvl]) d.f
def wW(d:DS):List (List Nat):=bif (dW d).isEmpty then[]else jG::((U6 d++Mj mD d.w)++Mj pO d.l)
theorem TY{a b:ac}{o:Option Rt}(h:Kl o):mL (fM (cj a b) o)=(Mj a o).map .str:=by
 cases o with
 |none=>rfl
 |some r=>
  show mL (cj a b++iu r)=_
  rw[i5,JR,YW (h r rfl)];rfl
theorem akP{d:DS}(h:jk d):mL (gM d)=(wW d).map .str:=by
 have hf:mL (je d)=(U6 d).map .str:=by
  obtain⟨f,w,l⟩:=d
  cases f with
  |none=>rfl
  |some x=>
   show mL (cj gV dg++(cj (kp x.2.1) (eo x.1)++iu x.2.2))=_
   rw[i5,i5,JR,JR,YW (h.f x rfl).1];rfl
 have hb:mL (dW d)=((U6 d++Mj mD d.w)++Mj pO d.l).map .str:=by
  unfold dW
  rw[i5,i5,hf,TY h.w,TY h.l,<- br,<- br]
 unfold gM wW
 cases (dW d).isEmpty with
 |true=>rfl
 |false=>
  show mL (cj jG uP++dW d)=_
  rw[i5,JR,hb];rfl
def hW(h:ac)(o:Option Rt):List (List Nat):=bo (motive:=fun _=>List (List Nat)) [] (fun _=>[h]) o
def lW(o:Option Rt):List (List Nat):=bo (motive:=fun _=>List (List Nat)) [] (fun r=>[nW r.lvl]) o
def fdW(d:DS):List (List Nat):=bo (motive:=fun _=>List (List Nat)) [] (fun x=>[kp x.2.1]) d.f
def Ap(d:DS):List (List Nat):=((([jG]++hW gV (d.f.map (·.2.2)))++hW mD d.w)++hW pO d.l)++fdW d++((lW (d.f.map (·.2.2))++lW d.w)++lW d.l)
theorem akz{d:DS}(h:jk d)(hb:(dW d).isEmpty=false):jQ (wW d)=jQ (Ap d):=by
 have lv: ∀r,oj r->nW r.lvl=[48,49]\/nW r.lvl=[55,55]:=fun r h=>h.top.elim (fun e=>.inl (by rw[e];rfl)) fun e=>.inr (by rw[e];rfl)
 have e:wW d=jG::((U6 d++Mj mD d.w)++Mj pO d.l):=by unfold wW;rw[hb];rfl
 rw[e]
 unfold Ap
 clear e hb
 obtain⟨hf,hw,hl⟩:=h
 obtain⟨f,w,l⟩:=d
 have kl: ∀{o:Option Rt},Kl o->o.map (fun r=>nW r.lvl)=none\/o.map (fun r=>nW r.lvl)=some [48,49]\/o.map (fun r=>nW r.lvl)=some [55,55]:=by
  intro o h
  cases o with
  |none=>exact .inl rfl
  |some r=>exact .inr ((lv r (h r rfl)).imp (congrArg some) (congrArg some))
 have e1: ∀(a:List Nat) (o:Option Rt),Mj a o=bo (motive:=fun _=>List (List Nat)) [] (fun x=>[a,x]) (o.map fun r=>nW r.lvl):=fun a o=>by cases o<;>rfl
 have e2: ∀(a:List Nat) (o:Option Rt),hW a o=bo (motive:=fun _=>List (List Nat)) [] (fun _=>[a]) (o.map fun r=>nW r.lvl):=fun a o=>by cases o<;>rfl
 have e3: ∀(o:Option Rt),lW o=bo (motive:=fun _=>List (List Nat)) [] (fun x=>[x]) (o.map fun r=>nW r.lvl):=fun o=>by cases o<;>rfl
 have kf:(f=none)\/ ∃o s r,f=some (o,s,r)/\(nW r.lvl=[48,49]\/nW r.lvl=[55,55]):=by
  cases f with
  |none=>exact .inl rfl
  |some x=>exact .inr ⟨x.1,x.2.1,x.2.2,rfl,lv _ (hf x rfl).1⟩
 have kw:=kl hw
 have k3:=kl hl
 rw[e1,e1,e2 mD,e2 pO,e3 w,e3 l]
 revert kw k3
 generalize w.map (fun r=>nW r.lvl)=w'
 generalize l.map (fun r=>nW r.lvl)=l'
 intro kw k3
 rcases kf with rfl|⟨o,s,r,rfl,kr⟩
 ·rcases kw with rfl|rfl|rfl<;>rcases k3 with rfl|rfl|rfl<;>rfl
 ·show jQ (jG::(([gV,kp s,nW r.lvl]++_)++_))=jQ (((([jG]++[gV])++_)++_)++[kp s]++(([nW r.lvl]++_)++_))
  revert kr
  generalize nW r.lvl=x
  intro kr
  cases s<;>rcases kr with rfl|rfl<;>rcases kw with rfl|rfl|rfl<;>rcases k3 with rfl|rfl|rfl<;>rfl
def Yl(σ:AS)(e:EM)(fr:Fm)(l:aa):Prop:= ∃i ai,e fr σ=some (.ref i,ai)/\ai.get i=some (.lst l)/\i<ai.next/\kH σ ai
theorem alc{as:LM}{fr:Fm}{l:aa}{σ:AS}(h:as fr σ=some (l,σ))(hk:l.length<=4000000):Yl σ (bv de as) fr l:=by
 refine⟨σ.next,σ.alloc (.lst l),?_,cn,bU _,kH.alloc⟩
 rw[et,h,aX]
 show(bif dB l.length then some (AV.ref σ.next,σ.alloc (.lst l))else none)=_
 rw[fV hk];rfl
theorem amZ{i j:Nat}{fr:Fm}{σ:AS}{l:aa}(h:gt fr i= .ref j)(g:σ.get j=some (.lst l))(hj:j<σ.next):Yl σ (al i) fr l:=⟨j,σ,by rw[bk,h];rfl,g,hj,kH.rfl'⟩
theorem JU{a b:EM}{fr:Fm}{l m:aa}{σ:AS}(ha:Yl σ a fr l)(hb: ∀ai,kH σ ai->Yl ai b fr m)(hk:l.length+m.length<=4000000):Yl σ (bi (b4 .Add) a b) fr (l++m):=by
 refine Xn (ha) fun i gF e1 g1 l1 k1=> ?_
 refine Xn (hb gF k1) fun j g8 e2 g2 l2 k2=> ?_
 refine⟨g8.next,g8.alloc (.lst (l++m)),?_,cn,bU _,k1.trans (k2.trans kH.alloc)⟩
 rw[jH,e1,aX,e2,aX,II (k2.2 _ _ l1 g1) g2 hk]
theorem abn{c:BM}{a b:EM}{fr:Fm}{t:Bool}{l m:aa}{σ:AS}(hc: ∃ai,c fr σ=some (t,ai)/\kH σ ai)(ha: ∀σ,Yl σ a fr l)(hb: ∀σ,Yl σ b fr m):Yl σ (ti c a b) fr (bif t then l else m):=by
 obtain⟨gF,e1,k1⟩:=hc
 cases t with
 |true=>
  obtain⟨i,g8,e2,g,l2,k2⟩:=ha gF
  exact⟨i,g8,by rw[wH,e1,aX];exact e2,g,l2,k1.trans k2⟩
 |false=>
  obtain⟨i,g8,e2,g,l2,k2⟩:=hb gF
  exact⟨i,g8,by rw[wH,e1,aX];exact e2,g,l2,k1.trans k2⟩
theorem Y0{i:Nat}{it elt:EM}{fr:Fm}{ps:List (AV×AV)}{σ:AS}{a:AV}(e1:it fr σ=some (a,σ))(e2:fE σ a=some (ps.map (·.1),σ))(hl:ps.length<=4000000)(h: ∀p∈ps,∀σ,elt (put fr i p.1) σ=some (p.2,σ)):
  Yl σ (eO [i] it (fun _ σ=>some (true,σ)) elt) fr (ps.map (·.2)):=by
 refine⟨σ.next,σ.alloc (.lst (ps.map (·.2))),?_,cn,bU _,kH.alloc⟩
 show bC (it fr σ) (fun x ai=>bC (fE ai x) fun l ay=>bC (eI [i] (fun _ σ=>some (true,σ)) elt l fr ay) fun vs aM=>bif dB vs.length then some (AV.ref aM.next,aM.alloc (.lst vs))else none)=_
 rw[e1,aX,e2,aX,Hf (i:=i) (elt:=elt) (fr:=fr) (ps:=ps) (σ:=σ) h,aX,fV (by rw[aS];exact hl)];rfl
theorem ae9{l:List (List Nat)}:nN (l.map AV.str)=some l:=by
 induction l with
 |nil=>rfl
 |cons a l ih=>
  show ob (nN (l.map AV.str)) (fun l=>some (a::l))=_
  rw[ih];rfl
theorem srt{σ:AS}{i:Nat}{l:List (List Nat)}(h:σ.get i=some (.lst (l.map AV.str)))(hk:l.length<64):qg [.ref i] σ=some (.ref σ.next,σ.alloc (.lst ((jQ l).map .str))):=by
 have h1:iR σ (.ref i)=some (l.map AV.str):=jm h
 show ob (iR σ (.ref i)) (fun l=>ob (nN l) fun ss=>bif bw ss.length 64 then some (AV.ref σ.next,σ.alloc (.lst ((jQ ss).map .str)))else none)=_
 rw[h1,b9,ae9,b9,Hb hk];rfl
theorem adr{n:Nat}{l:aa}(h: ∀a∈l,wF n a a=some true):KO (wF n) l l=some true:=by
 induction l with
 |nil=>rfl
 |cons a l ih=>
  show ob (wF n a a) _=_
  rw[h a (bf ..),b9]
  rw[ih fun b hb=>h b (aQ _ hb)];rfl
theorem abR{σ:AS}{i j:Nat}{l:aa}(hi:σ.get i=some (.lst l))(hj:σ.get j=some (.lst l))(h: ∀a∈l,wF 16 a a=some true):eqA σ (.ref i) (.ref j)=some true:=by
 have h1:iR σ (.ref i)=some l:=jm hi
 have h2:iR σ (.ref j)=some l:=jm hj
 show od (iR σ (.ref i)) (fun l=>ob (iR σ (.ref j)) fun m=>bif rv l m then KO (wF 16) l m else some false) _=_
 rw[h1,anr,h2,b9,show rv l l=true from N6 _]
 exact adr h
theorem afy(s:ac):wF 16 (.str s) (.str s)=some true:=by
 show some (dm s s)=_
 rw[PD]
theorem c26{d:DS}{fr:Fm}{σ:AS}(h0:gt fr 0=bK d): ∃ai,fw (b5 .NotEq) (un (aA 26) (al 0)) FT fr σ=some (d.f.isSome,ai)/\kH σ ai:=by
 refine⟨σ.alloc (.dct [] []),?_,kH.alloc⟩
 have hu:bX (bK d)=false:=rfl
 have a26: ∀σ,aA 26 (bK d) σ=some (.dct (RQ d) (PF d)):=fun _=>rfl
 have ed:FT fr σ=some (.ref σ.next,σ.alloc (.dct [] [])):=rfl
 have h1:Pp (σ.alloc (.dct [] [])) (.ref σ.next)=some []:=(show ob ((σ.alloc (.dct [] [])).get σ.next) _=_ by rw[cn];rfl)
 have ne:b5 .NotEq (.dct (RQ d) (PF d)) (.ref σ.next) (σ.alloc (.dct [] []))=some d.f.isSome:=by
  show ob (ob (Pp (σ.alloc (.dct [] [])) (.ref σ.next)) fun ks'=>bif ks'.isEmpty then some (RQ d).isEmpty else none) (fun b=>some !b)=_
  rw[h1]
  obtain⟨f,w,l⟩:=d
  cases f<;>rfl
 simp only[fD,gm,bk,h0,hu,ae,aX,a26,b9,ed,ne]
theorem ana{d:DS}{k:Nat}{o:Option Rt}{fr:Fm}{σ:AS}(h0:gt fr 0=bK d)(ak: ∀σ,aA k (bK d) σ=some (.lst (jn o))): ∃ai,fw (b5 .NotEq) (un (aA k) (al 0)) (bv de aJ) fr σ=some (o.isSome,ai)/\kH σ ai:=by
 refine⟨σ.alloc (.lst []),?_,kH.alloc⟩
 have hu:bX (bK d)=false:=rfl
 have ne:b5 .NotEq (.lst (jn o)) (.ref σ.next) (σ.alloc (.lst []))=some o.isSome:=by
  show Tu (b5 .Eq (.lst (jn o)) (.ref σ.next) (σ.alloc (.lst [])))=_
  rw[IW cn]
  cases o<;>rfl
 simp only[fD,gm,bk,h0,hu,ae,aX,ak,b9,et,cq,pn,ne]
def Z4:EM:=bi (b4 .Add) (bi (b4 .Add) (bi (b4 .Add) (bv de (aw (ba (.str [68,65,84,65])) aJ)) (ti (fw (b5 .NotEq) (un (aA 26) (al 0)) FT) (bv de (aw (ba (.str [70,73,76,69])) aJ)) (bv de aJ))) (ti (fw (b5 .NotEq) (un (aA 24) (al 0)) (bv de aJ)) (bv de (aw (ba (.str [87,79,82,75,73,78,71,45,83,84,79,82,65,71,69])) aJ)) (bv de aJ))) (ti (fw (b5 .NotEq) (un (aA 25) (al 0)) (bv de aJ)) (bv de (aw (ba (.str [76,73,78,75,65,71,69])) aJ)) (bv de aJ))
def KQ(d:DS):List (List Nat):=(([jG]++hW gV (d.f.map (·.2.2)))++hW mD d.w)++hW pO d.l
theorem Z6{d:DS}{fr:Fm}{σ:AS}(h0:gt fr 0=bK d):Yl σ Z4 fr ((KQ d).map .str):=by
 have m0: ∀σ,Yl σ (bv de aJ) fr []:=fun σ=>alc rfl (aU _)
 have m1: ∀s σ,Yl σ (bv de (aw (ba (.str s)) aJ)) fr [.str s]:=fun s σ=>alc rfl (av rfl)
 have le: ∀(t:Bool) (s:List Nat),(bif t then[AV.str s]else[]).length <=1:=fun t s=>by cases t<;>exact av rfl
 have y1:=JU (m1 [68,65,84,65] σ) (fun ai _=>abn (c26 (σ:=ai) h0) (m1 [70,73,76,69]) m0) (au (dy (le _ _) 1) (by decide))
 have y2:=JU y1 (fun ai _=>abn (ana (k:=24) (o:=d.w) (σ:=ai) h0 fun _=>rfl) (m1 [87,79,82,75,73,78,71,45,83,84,79,82,65,71,69]) m0) (by rw[ao];exact au (aK (dy (le _ _) 1) (le _ _)) (by decide))
 have y3:=JU y2 (fun ai _=>abn (ana (k:=25) (o:=d.l) (σ:=ai) h0 fun _=>rfl) (m1 [76,73,78,75,65,71,69]) m0) (by rw[ao,ao];exact au (aK (aK (dy (le _ _) 1) (le _ _)) (le _ _)) (by decide))
 have e:(KQ d).map AV.str=(([AV.str [68,65,84,65]]++bif d.f.isSome then[AV.str [70,73,76,69]]else[])++bif d.w.isSome then[AV.str [87,79,82,75,73,78,71,45,83,84,79,82,65,71,69]]else[])++bif d.l.isSome then[AV.str [76,73,78,75,65,71,69]]else[]:=by
  obtain⟨f,w,l⟩:=d
  cases f<;>cases w<;>cases l<;>rfl
 rw[e];exact y3
def fdE:EM:=eO [12] (un (aA 26) (al 0)) (fun _ σ=>some (true,σ)) (ti (fw (b5 .In) (al 12) (un (aA 27) (al 0))) (ba (.str [83,68])) (ba (.str [70,68])))
def aap:EM:=eO [13] (al 3) (fun _ σ=>some (true,σ)) (bi fU (bv (Hv [1,77]) (aw (ba (.str [48,49])) (aw (ba (.str [55,55])) aJ))) (un (aA 20) (al 13)))
def ang(d:DS):List (AV×AV):=bo (motive:=fun _=>List (AV×AV)) [] (fun x=>[(.str (eo x.1),.str (kp x.2.1))]) d.f
def lvP(o:Option Rt):List (AV×AV):=bo (motive:=fun _=>List (AV×AV)) [] (fun r=>[(d9 r,.str (nW r.lvl))]) o
def Tp(d:DS):List (AV×AV):=(lvP (d.f.map (·.2.2))++lvP d.w)++lvP d.l
theorem alz{d:DS}{fr:Fm}{σ:AS}(h0:gt fr 0=bK d):Yl σ fdE fr ((fdW d).map .str):=by
 have hu:bX (bK d)=false:=rfl
 obtain⟨f,w,l⟩:=d
 have a26: ∀σ,aA 26 (bK ⟨f,w,l⟩) σ=some (.dct (RQ ⟨f,w,l⟩) (PF ⟨f,w,l⟩)):=fun _=>rfl
 have e1:un (aA 26) (al 0) fr σ=some (.dct (RQ ⟨f,w,l⟩) (PF ⟨f,w,l⟩),σ):=by simp only[gm,bk,h0,hu,ae,aX,a26,b9]
 have e2:fE σ (.dct (RQ ⟨f,w,l⟩) (PF ⟨f,w,l⟩))=some ((ang ⟨f,w,l⟩).map (·.1),σ):=by cases f<;>rfl
 have e3:(fdW ⟨f,w,l⟩).map AV.str=(ang ⟨f,w,l⟩).map (·.2):=by cases f<;>rfl
 rw[e3]
 refine Y0 e1 e2 (by cases f<;>exact av rfl) ?_
 cases f with
 |none=>exact fun _ h=>absurd h bg
 |some x=>
  obtain⟨o,s,r⟩:=x
  intro p hp σ
  rw[show p=(.str (eo o),.str (kp s)) from aO.mp hp]
  have g0:gt (put fr 12 (.str (eo o))) 0=bK ⟨some (o,s,r),w,l⟩:=(fQ rfl).trans h0
  have a27: ∀σ,aA 27 (bK ⟨some (o,s,r),w,l⟩) σ=some (.lst (bif s then[.str (eo o)]else[])):=fun _=>rfl
  simp only[wH,fD,gm,bk,g0,c9,hu,mZ,ae,aX,a27,b9,aae,d5]
  cases s<;>rfl
theorem aaq(o:Option Rt):(lvP o).map (·.1)=jn o/\(lvP o).map (·.2)=(lW o).map AV.str/\(lvP o).length <=1:=by
 cases o with
 |none=>exact⟨rfl,rfl,aU _⟩
 |some r=>exact⟨rfl,rfl,ax _⟩
theorem jk.fok{d:DS}(h:jk d):Kl (d.f.map (·.2.2)):=fun r e=>by
 cases q:d.f with
 |none=>rw[q]at e;exact nn e
 |some x=>
  rw[q]at e
  rw[<- aH e]
  exact(h.f x q).1
theorem Vm{o:Option Rt}(h:Kl o){fr:Fm}: ∀p∈lvP o,∀σ,bi fU (bv (Hv [1,77]) (aw (ba (.str [48,49])) (aw (ba (.str [55,55])) aJ))) (un (aA 20) (al 13)) (put fr 13 p.1) σ=some (p.2,σ):=by
 cases o with
 |none=>exact fun _ h=>absurd h bg
 |some r=>
  intro p hp σ
  rw[show p=(d9 r,.str (nW r.lvl)) from aO.mp hp]
  have hu:bX (d9 r)=false:=rfl
  have a20: ∀σ,aA 20 (d9 r) σ=some (.int (am r.lvl)):=fun _=>rfl
  have md: ∀a b σ,Hv [1,77] [a,b] σ=some (.dcti [1,77] [a,b],σ):=fun _ _ _=>rfl
  have ix: ∀σ,fU (.dcti [1,77] [.str [48,49],.str [55,55]]) (.int (am r.lvl)) σ=some (.str (nW r.lvl),σ):=fun σ=>by
   rcases(h r rfl).top with e|e<;>rw[e]<;>rfl
  simp only[jH,et,cz,cq,d5,aX,md,gm,bk,c9,hu,ae,a20,b9,ix]
theorem amc{d:DS}(h:jk d){fr:Fm}{σ:AS}(h3:gt fr 3= .lst (d8 d)):Yl σ aap fr (((lW (d.f.map (·.2.2))++lW d.w)++lW d.l).map .str):=by
 refine ug (aaq (d.f.map (·.2.2))) fun a1 a2 a3=> ?_
 refine ug (aaq d.w) fun b1 b2 b3=> ?_
 refine ug (aaq d.l) fun c1 c2 c3=> ?_
 have m1:(Tp d).map (·.1)=d8 d:=by unfold Tp;rw[br,br,a1,b1,c1];rfl
 have m2:((lW (d.f.map (·.2.2))++lW d.w)++lW d.l).map AV.str=(Tp d).map (·.2):=by unfold Tp;rw[br,br,br,br,a2,b2,c2]
 have hk:(Tp d).length <=4000000:=by
  unfold Tp;rw[ao,ao];exact au (aK (aK a3 b3) c3) (by decide)
 have e1:al 3 fr σ=some (.lst (d8 d),σ):=by rw[bk,h3];rfl
 rw[m2]
 refine Y0 e1 (by rw[m1];refine NQ ?_;rw[<- m1,aS];exact hk) hk ?_
 exact fun p hp=>(cV.mp hp).elim (fun hp=>(cV.mp hp).elim (Vm h.fok p) (Vm h.w p)) (Vm h.l p)
theorem ab1(d:DS):(Ap d).map AV.str=((KQ d).map .str++(fdW d).map .str)++((lW (d.f.map (·.2.2))++lW d.w)++lW d.l).map .str:=by
 unfold Ap KQ
 rw[br,br]
theorem anN(d:DS):(KQ d).length <=4/\(fdW d).length <=1/\((lW (d.f.map (·.2.2))++lW d.w)++lW d.l).length <=3/\(wW d).length <=8:=by
 obtain⟨f,w,l⟩:=d
 refine⟨?_,?_,?_,?_⟩
 ·cases f<;>cases w<;>cases l<;>exact av rfl
 ·cases f<;>exact av rfl
 ·cases f<;>cases w<;>cases l<;>exact av rfl
 ·unfold wW
  cases (dW ⟨f,w,l⟩).isEmpty
  ·cases f<;>cases w<;>cases l<;>exact av rfl
  ·exact aU _
def akA:BM:=fw (b5 .NotEq) (bv qg (aw (al 5) aJ)) (bv qg (aw (bi (b4 .Add) (bi (b4 .Add) (al 4) fdE) aap) aJ))
theorem akB{d:DS}(h:jk d)(hb:(dW d).isEmpty=false){fr:Fm}{σ:AS}{i j:Nat}(h0:gt fr 0=bK d)(h3:gt fr 3= .lst (d8 d))(h4:gt fr 4= .ref i)(h5:gt fr 5= .ref j)
  (gi:σ.get i=some (.lst ((KQ d).map .str)))(li:i<σ.next)(gj:σ.get j=some (.lst ((wW d).map .str))): ∃ai,akA fr σ=some (false,ai):=by
 refine Xm (anN d) fun k1 k2 k3 k4=> ?_
 have s1:=srt gj (fc k4 (by decide))
 have y1:Yl (σ.alloc (.lst ((jQ (wW d)).map .str))) (bi (b4 .Add) (bi (b4 .Add) (al 4) fdE) aap) fr ((Ap d).map .str):=by
  rw[ab1]
  refine JU (JU (amZ h4 (dN gi li) (cO li)) (fun ai _=>alz h0) ?_) (fun ai _=>amc h h3) ?_
  ·rw[aS,aS];exact au (aK k1 k2) (by decide)
  ·rw[ao,aS,aS,aS];exact au (aK (aK k1 k2) k3) (by decide)
 refine Xn (y1) fun x g8 e2 g2 l2 K2=> ?_
 have kx:(Ap d).length <64:=by
  have:((Ap d).map AV.str).length=(Ap d).length:=aS ..
  rw[<- this,ab1,ao,ao,aS,aS,aS]
  exact fc (aK (aK k1 k2) k3) (by decide)
 have s2:=srt g2 kx
 have gf:(g8.alloc (.lst ((jQ (Ap d)).map .str))).get σ.next=some (.lst ((jQ (Ap d)).map .str)):=by
  have h6:=K2.2 σ.next _ (bU _) cn
  rw[akz h hb]at h6
  exact dN h6 (fe (bU _) K2.1)
 have cm:b5 .NotEq (.ref σ.next) (.ref g8.next) (g8.alloc (.lst ((jQ (Ap d)).map .str)))=some false:=by
  show ob (eqA _ (.ref σ.next) (.ref g8.next)) (fun b=>some (!b))=_
  rw[abR gf cn fun a ha=>by
   obtain⟨s,_,rfl⟩:=dD.mp ha
   exact afy s]
  rfl
 refine⟨g8.alloc (.lst ((jQ (Ap d)).map .str)),?_⟩
 unfold akA
 simp only[fD,et,cz,cq,bk,h5,fq,ae,aX,s1,e2,s2,cm,b9]
def akO:EM:=eO [14] (al 1) (jh (un (aA 28) (al 14))) (un (aA 1) (al 14))
def anh:EM:=eO [11] (bv lD (aw (bv eV (aw (al 1) aJ)) aJ)) tj (bi fU (al 1) (al 11))
def ann:EM:=eO [10] (al 6) (fw (b5 .Eq) (un (aA 2) (al 10)) (ba (.str [110,117,109,98,101,114]))) (bv tY (aw (un (aA 1) (al 10)) aJ))
def akZ:EM:=qO 8 (al 3) 9 (bv (bA 6) (aw (al 8) aJ)) (al 9)
def Px:SM:=sf (fw (b5 .Eq) (al 3) (bv de aJ)) (aV (eK (rW (fw (b5 .Eq) (al 1) (bv de aJ)))) bq) bq
def aa8:SM:=aV (cT [4] Z4) (aV (cT [5] akO) (aV (sf akA (aV (fun _ _=>none) bq) bq) (aV (cT [6] anh) (aV (cT [7] ann) (aV (eK (rW (fw (b5 .Eq) (al 7) akZ))) bq)))))
theorem anA{a b r:SM}{fr fr':Fm}{σ ai:AS}(h:aV a b fr σ=some (.next fr' ai)):aV a (aV b r) fr σ=r fr' ai:=by
 have h:ob (a fr σ) (gU b)=_:=h
 show ob (a fr σ) (gU (aV b r))=_
 revert h
 cases a fr σ with
 |none=>exact fun h=>nn h
 |some o=>
  cases o with
  |next f s=>
   intro h
   have h:b f s=_:=h
   show ob (b f s) (gU r)=_
   rw[h];rfl
  |ret x s=>exact fun h=>j8.noConfusion (aH h)
  |brk x s=>exact fun h=>j8.noConfusion (aH h)
  |cont x s=>exact fun h=>j8.noConfusion (aH h)
theorem aqI{a b c r:SM}{fr fr':Fm}{σ ai:AS}(h:aV a (aV b c) fr σ=some (.next fr' ai)):aV a (aV b (aV c r)) fr σ=r fr' ai:=by
 have e:aV a (aV b (aV c r)) fr σ=aV a (aV (aV b c) r) fr σ:=by
  show ob (a fr σ) (gU (aV b (aV c r)))=ob (a fr σ) (gU (aV (aV b c) r))
  refine congrArg (ob (a fr σ)) (funext fun o=> ?_)
  cases o with
  |next f s=>
   show ob (b f s) (gU (aV c r))=ob (ob (b f s) (gU c)) (gU r)
   cases b f s with
   |none=>rfl
   |some o=>cases o<;>rfl
  |ret x s=>rfl
  |brk x s=>rfl
  |cont x s=>rfl
 rw[e];exact anA h
theorem ajt(d:DS):(d8 d).isEmpty=(dW d).isEmpty:=by
 obtain⟨f,w,l⟩:=d
 cases f<;>cases w<;>cases l<;>rfl
theorem afa{d:DS}(h:jk d)(hb:(dW d).isEmpty=false){x:Nat}(σ:AS): ∃ai,aa8 [bK d,.lst (gM d),.ref x,.lst (d8 d)] σ=some (.ret (.bool true) ai):=by
 have hk:(gM d).length <=99999:=au (Xl h) (by decide)
 obtain⟨i,gF,e1,g1,l1,-⟩:=Z6 (d:=d) (fr:=[bK d,.lst (gM d),.ref x,.lst (d8 d)]) (σ:=σ) rfl
 have e2:=abd (aba (d:=d)) (au hk (by decide)) (fr:=[bK d,.lst (gM d),.ref x,.lst (d8 d),.ref i]) (σ:=gF) rfl
 rw[akP h]at e2
 obtain⟨qC,e3⟩:=akB h hb (fr:=[bK d,.lst (gM d),.ref x,.lst (d8 d),.ref i,.ref gF.next]) (σ:=gF.alloc (.lst ((wW d).map .str))) rfl rfl rfl rfl (dN g1 l1) (cO l1) cn
 have e4:=U7 (aba (d:=d)) hk (fr:=[bK d,.lst (gM d),.ref x,.lst (d8 d),.ref i,.ref gF.next]) (σ:=qC) rfl
 obtain⟨gd,lv⟩:=anZ h
 have hf:(jY true (gM d)).length <=4000000:=by
  have fl: ∀(T:List AV) (p:Bool),(jY p T).length <=T.length:=fun T=>by
   induction T with
   |nil=>exact fun _=>ax _
   |cons t T ih=>
    intro p
    cases p with
    |true=>exact be (ih _)
    |false=>exact mN (ih _)
  exact au (fl _ _) (au hk (by decide))
 have e5:=Vj (aba (d:=d)) gd (fr:=[bK d,.lst (gM d),.ref x,.lst (d8 d),.ref i,.ref gF.next,.ref qC.next]) (σ:=qC.alloc (.lst (jY true (gM d)))) rfl cn hf
 rw[lv]at e5
 generalize aqW:(qC.alloc (.lst (jY true (gM d)))).drop qC.next=V6 at e5
 refine eX (V0 h (fr:=[bK d,.lst (gM d),.ref x,.lst (d8 d),.ref i,.ref gF.next,.ref qC.next,.ref V6.next]) (σ:=V6.alloc (.lst ((CB d).map AV.int))) rfl) fun Y2 e6 K6=> ?_
 have g7:=K6.2 V6.next _ (bU _) cn
 have e7:b5 .Eq (.ref V6.next) (.ref Y2.next) (Y2.alloc (.lst ((CB d).map AV.int)))=some true:=by
  show eqA _ (.ref V6.next) (.ref Y2.next)=_
  refine abR (dN g7 (fe (bU _) K6.1)) cn fun a ha=> ?_
  obtain⟨n,_,rfl⟩:=dD.mp ha
  exact SY (a:=.int n) rfl
 have e1:Z4 [bK d,.lst (gM d),.ref x,.lst (d8 d)] σ=_:=e1
 have e2:akO [bK d,.lst (gM d),.ref x,.lst (d8 d),.ref i] gF=_:=e2
 have e4:anh [bK d,.lst (gM d),.ref x,.lst (d8 d),.ref i,.ref gF.next] qC=_:=e4
 have e5:ann [bK d,.lst (gM d),.ref x,.lst (d8 d),.ref i,.ref gF.next,.ref qC.next] (qC.alloc (.lst (jY true (gM d))))=_:=e5
 have e6:akZ [bK d,.lst (gM d),.ref x,.lst (d8 d),.ref i,.ref gF.next,.ref qC.next,.ref V6.next] (V6.alloc (.lst ((CB d).map AV.int)))=_:=e6
 refine⟨Y2.alloc (.lst ((CB d).map AV.int)),?_⟩
 unfold aa8
 simp only[dk,fH,e1,e2,e3,e4,e5,e6,e7,aX,b9,dF,dH,sD,sE,putN,j5,ae,fJ,ej,wL,fD,bk,pg,kI,fq]
theorem Mc{d:DS}(h:jk d){lab:List AV->List AV}(hl:lab (gM d)=Pu d)(σ:AS): ∃ai,bn 1 [] (gw lab) [bK d] σ=some (.bool true,ai):=by
 refine ap0 (amx h hl σ) fun gF x e1=> ?_
 obtain⟨g8,e2⟩:=amy (d:=d) (T:=.lst (gM d)) (x:=x) gF rfl
 have body: ∃ai,gw lab [bK d] σ=some (.ret (.bool true) ai):=by
  have q1:gw lab [bK d] σ=aV (cT [3] (bi (b4 .Add) (bi (b4 .Add) (qO 15 (un (aA 26) (al 0)) 16 (bi fU (un (aA 26) (al 0)) (al 15)) (al 16)) (un (aA 24) (al 0))) (un (aA 25) (al 0)))) (aV (QA 3) (aV Px aa8)) [bK d,.lst (gM d),.ref x] gF:=aqI e1
  rw[q1,anA e2]
  have ee:fw (b5 .Eq) (al 3) (bv de aJ) [bK d,.lst (gM d),.ref x,.lst (d8 d)] g8=some ((dW d).isEmpty,g8.alloc (.lst [])):=by
   have hu:bX (.lst (d8 d))=false:=rfl
   simp only[fD,bk,pg,kI,hu,ae,aX,et,cq,pn,IW (σ:=g8.alloc (.lst [])) (l:=d8 d) cn,b9,ajt]
  cases z:(dW d).isEmpty with
  |true=>
   have hT:gM d=[]:=by unfold gM;rw[z];rfl
   have hu:bX (.lst (gM d))=false:=rfl
   have e9:fw (b5 .Eq) (al 1) (bv de aJ) [bK d,.lst (gM d),.ref x,.lst (d8 d)] (g8.alloc (.lst []))=some (true,(g8.alloc (.lst [])).alloc (.lst [])):=by
    simp only[fD,bk,pg,kI,hu,ae,aX,et,cq,pn,IW (σ:=(g8.alloc (.lst [])).alloc (.lst [])) (l:=gM d) cn,b9]
    rw[hT];rfl
   rw[z]at ee
   refine⟨(g8.alloc (.lst [])).alloc (.lst []),?_⟩
   unfold Px
   simp only[dk,j5,ee,aX,af,ej,wL,e9,b9,dH]
  |false=>
   rw[z]at ee
   obtain⟨ai,e⟩:=afa (x:=x) h z (g8.alloc (.lst []))
   refine⟨ai,?_⟩
   unfold Px
   simp only[dk,j5,ee,aX,ae,fJ,b9,dF,e]
 obtain⟨ai,e⟩:=body
 refine⟨ai,?_⟩
 show ob (gw lab [bK d] σ) ir=_
 rw[e];rfl
theorem aao{d:DS}(h:jk d){lab:List AV->List AV}(hl:lab (gM d)=Pu d)(σ:AS): ∃ai,eL lab [bK d] σ=some (.bool true,ai):=by
 have e:eL lab [bK d] σ=bn 1 [] (gw lab) [bK d] σ:=by
  show pr (pW (jJ 14) [bK d] σ) (fun args' ai=>bn 1 [] (gw lab) args' ai)=_
  rw[show pW (jJ 14) [bK d] σ=([bK d],σ) from Qh KZ];rfl
 rw[e];exact Mc h hl σ
def Yw(n lvl:Nat)(code:ac):AV:=.frz cp gg (.int (am n)::Dr (Bk (lvl::code)))
noncomputable def mY(n lv lvl:Nat)(code:ac)(z:aa):AV:=.frz 0 (9::n::lv::lvl::code) z
def drO(L:aa):Option (AV×Nat×List AV):=bC (qH [.ref 0] ⟨1,[(0,.orc 0 L)]⟩) fun a σ=>sC σ 0 fun k l=>some (a,k,l)
def drF(a b:Nat)(c:ac)(z:aa)(f:Option (Bool×Bool)):List AV:=bo (motive:=fun _=>List AV) [m2 3 1] (fun x=>[m2 3 (bif x.1 then 2 else 0),mY (bif x.1 then 1 else 0) a b c z,m2 2 (bif x.2 then 0 else 1)]) f
def drW(a b:Nat)(c:ac)(z:aa)(w:Option Bool):List AV:=bo (motive:=fun _=>List AV) [m2 3 2] (fun v=>[m2 3 (bif v then 1 else 0),mY (bif v then 3 else 2) a b c z]) w
def Ym{α β:Type}(o:Option α)(f:α->List β):List β:=bo (motive:=fun _=>List β) [] f o
theorem drX(a b:Nat)(c:ac)(z:aa)(a' b':Nat)(c':ac)(z':aa)(a'' b'':Nat)(c'':ac)(z'':aa)(f:Option (Bool×Bool))(w:Option Bool)(k:Bool):
  drO (drF a b c z f++(drW a' b' c' z' w++[mY 4 a'' b'' c'' z'',m2 2 (bif k then 0 else 1)]))=some (Eu (Ym w fun _=>[Yw a' b' c']) (bif k then[]else[Yw a'' b'' c'']) (Ym f fun x=>[eo x.1]) (Ym f fun _=>[.lst [Yw 1 b c]]) (Ym f fun x=>bif x.2 then[.str (eo x.1)]else[]),0,[]):=by
 rcases f with _|⟨_|_,_|_⟩<;>rcases w with _|_|_<;>cases k<;>kernel_rfl
noncomputable def ZS:FD->Option (Bool×Bool×Rt)
 | .none=>none
 | .one o rd s=>some (o,CO s,jC (fnI o) rd)
noncomputable def dsW:WD->Option Rt
 | .none=>none
 | .one v rd=>some (jC (wnI v) rd)
noncomputable def agl(x:DD):DS:=⟨ZS x.f,dsW x.w,bif CO x.k then none else some (jC 4 x.l)⟩
def TB(rd:RD):Prop:=C6 rd/\T1 rd<5
theorem Jr(b:Int):TB (Bl b).1:=by
 refine⟨(K9 (b:=b) (r:=[]) trivial).2,?_⟩
 unfold Bl
 cases hU 4 b with
 |zero=>exact hJ _
 |succ a=>
  show T1 (match sN (hU 3 (bV 4 (bV 5 (bV 4 b)))) (bV 3 (bV 4 (bV 5 (bV 4 b))))with
   |(ts,b')=>_:RD×Int).1<5
  obtain⟨ts,b'⟩:=sN (hU 3 (bV 4 (bV 5 (bV 4 b)))) (bV 3 (bV 4 (bV 5 (bV 4 b))))
  show T1 (match hU 4 b' with
   |0=>(RD.recR a (hU 5 (bV 4 b)) (hU 4 (bV 5 (bV 4 b))) ts (hU 2 (bV 4 b')),bV 2 (bV 4 b'))
   |q+1=>(RD.std a (hU 5 (bV 4 b)) (hU 4 (bV 5 (bV 4 b))) ts q,bV 4 b')).1<5
  cases hU 4 b'<;>exact mq (by decide) _
structure afl(x:DD):Prop where
 f: ∀o rd s,x.f= .one o rd s->TB rd/\s<2
 w: ∀v rd,x.w= .one v rd->TB rd
 l:TB x.l
 k:x.k<2
theorem NM{o o2:Bool}{a a2:RD}{s s2:Nat}(h:FD.one o a s=FD.one o2 a2 s2):a=a2/\s=s2:=by cases h;exact⟨rfl,rfl⟩
theorem acK{o o2:Bool}{a a2:RD}(h:WD.one o a=WD.one o2 a2):a=a2:=by cases h;rfl
theorem abS(b:Int):afl (Pr b):=by
 refine⟨fun o rd s h=> ?_,fun v rd h=> ?_,Jr _,mq (by decide) _⟩
 ·have h:(IX b).1= .one o rd s:=h
  unfold IX at h
  revert h
  cases hU 3 b with
  |zero=>exact fun h=>(NM h).1▸(NM h).2▸⟨Jr _,mq (by decide) _⟩
  |succ n=>cases n with
   |zero=>exact fun h=>FD.noConfusion h
   |succ n=>exact fun h=>(NM h).1▸(NM h).2▸⟨Jr _,mq (by decide) _⟩
 ·have h:(QZ (IX b).2).1= .one v rd:=h
  unfold QZ at h
  revert h
  cases hU 3 (IX b).2 with
  |zero=>exact fun h=>acK h▸Jr _
  |succ n=>cases n with
   |zero=>exact fun h=>acK h▸Jr _
   |succ n=>exact fun h=>WD.noConfusion h
theorem YV(n:Nat)(ts:List TD):(HT n ts).length=ts.length:=by
 induction ts with
 |nil=>rfl
 |cons t ts ih=>exact congrArg nP ih
theorem aos{n:Nat}(hn:n<2):P0 77 n=1:=by
 cases n with
 |zero=>rfl
 |succ n=>cases n with
  |zero=>rfl
  |succ n=>exact absurd hn (ci.mpr (be (be (aU _))))
theorem VI{n:Nat}{rd:RD}(hn:n<5)(h:TB rd):oj (jC n rd):=by
 obtain⟨h1,h2⟩:=h
 cases rd with
 |alone l=>
  refine⟨?_,fun h=>absurd rfl h⟩
  have: ∀n:Nat,Yi ⟨P0 77 n,Tm (P0 77 n) n l,[],0⟩=true:=fun n=>by
   unfold P0
   cases aj 77 77&&cX n 1<;>rfl
  exact this n
 |std a d e ts q=>
  refine⟨?_,fun h=>absurd rfl h⟩
  show cX (HT n ts).length 2=true
  rw[YV];exact gp h1.1
 |recR a d e ts l=>
  refine⟨?_,fun _=> ?_⟩
  ·show cX (HT n ts).length 2=true
   rw[YV];exact gp h1.1
  ·show(kd 1 (Fp 1 n (m7 d) 3)).1<5
   rw[XQ hn (show d<5 from h2)];exact hn
theorem ajw{n:Nat}{rd:RD}(hn:1<n):(jC n rd).lvl=RY rd:=by
 cases rd with
 |alone l=>
  show P0 77 n=77
  unfold P0
  rw[show cX n 1=false from ET.mpr fun h=>absurd (av h) (yN.mpr hn)]
  rfl
 |_=>rfl
theorem ajv{n:Nat}{rd:RD}(hn:n<2):(jC n rd).lvl=1:=by
 cases rd with
 |alone l=>exact aos hn
 |_=>rfl
theorem VH{n:Nat}{rd:RD}{m:Nat}(hn:n<5)(h:TB rd)(hm:m=(jC n rd).lvl):Yw m (jC n rd).lvl (xM (jC n rd))=d9 (jC n rd):=by
 rw[hm];exact VG (VI hn h).ts8
theorem aow{s:Nat}(h:s<2){P:Nat->Prop}(h0:P 0)(h1:P 1):P s:=by
 cases s with
 |zero=>exact h0
 |succ s=>cases s with
  |zero=>exact h1
  |succ s=>exact absurd h (ci.mpr (be (be (aU _))))
theorem agm{x:DD}(h:afl x):jk (agl x):=by
 obtain⟨f,w,l,k⟩:=x
 refine⟨fun y e=> ?_,fun r e=> ?_,fun r e=> ?_⟩
 ·cases f with
  |none=>exact nn e
  |one o rd s=>
   rw[<- aH e]
   have:fnI o<2:=by cases o<;>decide
   exact⟨VI (fe this (by decide)) (h.f o rd s rfl).1,ajv this⟩
 ·cases w with
  |none=>exact nn e
  |one v rd=>
   rw[<- aH e]
   exact VI (by cases v<;>decide) (h.w v rd rfl)
 ·have e:(bif CO k then none else some (jC 4 l))=some r:=e
  cases z:CO k with
  |true=>rw[z]at e;exact nn e
  |false=>
   rw[z]at e
   rw[<- aH e]
   exact VI (by decide) h.l
theorem bit{s:Nat}(h:s<2):s=bif CO s then 0 else 1:=aow (P:=fun s=>s=bif CO s then 0 else 1) h rfl rfl
theorem apn(b:Bool)(r:Rt):jn (bif b then none else some r)=bif b then[]else[d9 r]:=by cases b<;>rfl
theorem apX{x:DD}(h:afl x):drO (ddM x)=some (bK (agl x),0,[]):=by
 obtain⟨f,w,l,k⟩:=x
 have hl:=VH (n:=4) (by decide) h.l (ajw (n:=4) (by decide)).symm
 have hk:m2 2 k=m2 2 (bif CO k then 0 else 1):=congrArg (m2 2) (bit h.k)
 have hw: ∃a b c z w',wdM w=drW a b c z w'/\jn (dsW w)=Ym w' fun _=>[Yw a b c]:=by
  cases w with
  |none=>exact⟨0,0,[],[],none,rfl,rfl⟩
  |one v rd=>
   refine⟨RY rd,(jC (wnI v) rd).lvl,xM (jC (wnI v) rd),[.frz 0 (Jq rd) []],some v,by cases v<;>rfl,?_⟩
   show[d9 (jC (wnI v) rd)]=[Yw _ _ _]
   rw[VH (by cases v<;>decide) (h.w v rd rfl) (ajw (by cases v<;>decide)).symm]
 have hf: ∃a b c z f',fdM f=drF a b c z f'/\RQ ⟨ZS f,none,none⟩=(Ym f' fun x=>[eo x.1])/\PF ⟨ZS f,none,none⟩=(Ym f' fun _=>[.lst [Yw 1 b c]])/\fSo ⟨ZS f,none,none⟩=Ym f' fun x=>bif x.2 then[.str (eo x.1)]else[]:=by
  cases f with
  |none=>exact⟨0,0,[],[],none,rfl,rfl,rfl,rfl⟩
  |one o rd s=>
   obtain⟨h1,h2⟩:=h.f o rd s rfl
   refine⟨RY rd,(jC (fnI o) rd).lvl,xM (jC (fnI o) rd),[.frz 0 (Jq rd) []],some (o,CO s),?_,rfl,?_,rfl⟩
   ·show _=[_,_,m2 2 (bif CO s then 0 else 1)]
    rw[<- bit h2]
    cases o<;>rfl
   ·show[AV.lst [d9 (jC (fnI o) rd)]]=[AV.lst [Yw 1 _ _]]
    rw[VH (by cases o<;>decide) h1 (ajv (by cases o<;>decide)).symm]
 obtain⟨a',b',c',z',w',w1,w2⟩:=hw
 obtain⟨a,b,c,z,f',f1,f2,f3,f4⟩:=hf
 show drO (fdM f++(wdM w++[mY 4 (RY l) (jC 4 l).lvl (xM (jC 4 l)) [.frz 0 (Jq l) []],m2 2 k]))=some (Eu (jn (dsW w)) (jn (bif CO k then none else some (jC 4 l))) (RQ ⟨ZS f,none,none⟩) (PF ⟨ZS f,none,none⟩) (fSo ⟨ZS f,none,none⟩),0,[])
 rw[hk,f1,w1,w2,f2,f3,f4,apn,<- hl]
 exact drX ..
noncomputable def bB(k:Nat):Nat:=10^(81+7*k)
def UT:SM:=aV (cT [1] (bi (b4 .Add) (bi (b4 .Mult) (al 1) (ba (.int (1000003)))) (bi (b4 .Mod) (al 2) (bi (b4 .Pow) (ba (.int (10))) (ba (.int (80))))))) bq
theorem aoZ(σ:AS):b4 .Pow (.int 10) (.int 80) σ=some (.int (am (10^80)),σ):=by kernel_rfl
theorem aiJ(σ:AS):b4 .Pow (.int 10) (.int 60) σ=some (.int (am (10^60)),σ):=by kernel_rfl
theorem aoY(σ:AS):b4 .Pow (.int 10) (.int 68) σ=some (.int (am (10^68)),σ):=by kernel_rfl
theorem anX(σ:AS):b4 .FloorDiv (.int (am (10^68))) (.int 13) σ=some (.int (am (10^68 / 13)),σ):=by kernel_rfl
theorem anQ{k:Nat}(h:k<=30):bB k<=2^4000:=au (iU (by decide) (dy (pS 7 h) 81)) (av (by kernel_rfl))
theorem TJ{n k:Nat}(h:n<=bB k)(hk:k<=30):mG (am n)=true:=gp (au h (anQ hk))
theorem aki:mG 1000003=true:=by kernel_rfl
theorem apU{n k m:Nat}(h:n<=bB k)(hm:m<10^80):n*1000003+m<=bB (k+1):=by
 have e:bB (k+1)=bB k*10^7:=by
  show 10^(81+7*(k+1))=_
  rw[N7,<- kE,Nat.pow_add];rfl
 have l:10^80<=bB k:=iU (by decide) (au (by decide) (cY 81 _))
 rw[e]
 generalize bB k=B at h l
 generalize 10^80=P at hm l
 omega
theorem aoB{n k:Nat}(h:n<=bB k)(hk:k<=30)(σ:AS):b4 .Mult (.int (am n)) (.int 1000003) σ=some (.int (am (n*1000003)),σ):=by
 show od (bif mG (am n)&&mG 1000003 then some (AV.int (am n*1000003))else none) (fun c=>some (c,σ)) _=_
 rw[TJ h hk,aki];rfl
theorem aoA(c:Int): ∃m,m<10^80/\ ∀σ,b4 .Mod (.int c) (.int (am (10^80))) σ=some (.int (am m),σ):=by
 have z:KN (am (10^80)) 0=false:=by kernel_rfl
 have p:(0:Int)<am (10^80):=ib.mpr (Nat.pow_pos (by decide))
 have a:=m8 c p
 have b:=q7 c p
 obtain⟨m,hm⟩:=vc a
 refine⟨m,?_,fun σ=> ?_⟩
 ·rw[hm]at b;exact ib.mp b
 ·show od (bif KN (am (10^80)) 0 then none else some (AV.int (c.fmod (am (10^80))))) (fun c=>some (c,σ)) _=_
  rw[z,hm];rfl
theorem ac8{cs:List Int}: ∀{n k:Nat},n<=bB k->k+cs.length<=30-> ∃n',n'<=bB 30/\ ∀{fr:Fm} {σ:AS},gt fr 1= .int (am n)-> ∃fr',pI [2] UT (cs.map .int) fr σ=some (.next fr' σ)/\gt fr' 1= .int (am n'):=by
 induction cs with
 |nil=>
  intro n k hn hk
  exact⟨n,au hn (iU (by decide) (dy (pS 7 hk) 81)),fun{fr σ} h1=>⟨fr,rfl,h1⟩⟩
 |cons c cs ih=>
  intro n k hn hk
  have hk':k<=30:=au (cY _ _) hk
  refine eX (aoA c) fun m hm em=> ?_
  refine eX (ih (n:=n*1000003+m) (k:=k+1) (apU hn hm) (by rw[kE,lz 1];exact hk)) fun n' h3 h4=> ?_
  refine⟨n',h3,fun{fr σ} h1=> ?_⟩
  have g1:gt (put fr 2 (.int c)) 1= .int (am n):=(fQ rfl).trans h1
  have e1:UT (put fr 2 (.int c)) σ=some (.next (put (put fr 2 (.int c)) 1 (.int (am (n*1000003+m)))) σ):=by
   unfold UT
   simp only[dk,fH,jH,bk,g1,c9,lY,ae,aX,d5,aoB hn hk',aoZ,em,NF,b9,dF,fJ]
  refine eX (h4 (fr:=put (put fr 2 (.int c)) 1 (.int (am (n*1000003+m)))) (σ:=σ) c9) fun fr' e2 h2=> ?_
  refine⟨fr',?_,h2⟩
  rw[bh,EL e1,e2]
def afK:EM:=bv de (aw (ti (fw (b5 .Gt) (al 1) (bi (b4 .Pow) (ba (.int (10))) (ba (.int (60))))) (al 1) (bi (b4 .Add) (bi (b4 .Pow) (al 1) (ba (.int (6)))) (bi (b4 .FloorDiv) (bi (b4 .Pow) (ba (.int (10))) (ba (.int (68)))) (ba (.int (13)))))) aJ)
theorem afM{cs:List Int}(hl:cs.length<=99999): ∃b,∀σ,∃ai i,re [.lst (cs.map .int)] σ=some (.ref i,ai)/\ai.get i=some (.lst [.int b]):=by
 have hL:dB (eY (cs.map AV.int))=true:=by
  rw[ip,aS];exact fV (au hl (by decide))
 have hk:(cs.take 30).length <=30:=by rw[kh];exact Nat.min_le_left _ _
 refine eX (ac8 (cs:=cs.take 30) (n:=23) (k:=0) (au (show 23<=10^2 by decide) (iU (by decide) (by decide))) (by rw[ic];exact hk)) fun n hn hloop=> ?_
 have gt1: ∀σ,b5 .Gt (.int (am n)) (.int (am (10^60))) σ=some (bw (10^60) n):=fun _=>rfl
 have p6: ∀σ,b4 .Pow (.int (am n)) (.int 6) σ=some (.int (am n^6),σ):=fun σ=>by
  show od (bif (mG (am n)&& !CW 6 0)&&CW 6 1000 then some (AV.int (am n^Int.toNat 6))else none) (fun c=>some (c,σ)) _=_
  rw[TJ hn (ax _)];rfl
 have ad: ∀a b σ,b4 .Add (.int a) (.int b) σ=some (.int (a+b),σ):=fun _ _ _=>rfl
 have mk: ∀a σ,de [a] σ=some (.ref σ.next,σ.alloc (.lst [a])):=fun _ _=>rfl
 have er: ∃b,∀fr',gt fr' 1= .int (am n)-> ∀gF,afK fr' gF=some (.ref gF.next,gF.alloc (.lst [.int b])):=by
  unfold afK
  cases z:bw (10^60) n with
  |true=>exact⟨am n,fun fr' h1 gF=>by simp only[et,cz,cq,wH,fD,jH,bk,d5,h1,lY,ae,af,aX,aiJ,gt1,z,b9,mk]⟩
  |false=>exact⟨am n^6+am (10^68 / 13),fun fr' h1 gF=>by simp only[et,cz,cq,wH,fD,jH,bk,d5,h1,lY,ae,aX,aiJ,gt1,z,b9,p6,aoY,anX,ad,mk]⟩
 obtain⟨b,er⟩:=er
 refine⟨b,fun σ=> ?_⟩
 have es:SW (al 0) (ba .none) (ba (.int (30))) [.lst (cs.map .int),.int 23] σ=some (.ref σ.next,σ.alloc (.lst ((cs.take 30).map .int))):=by
  show ob (some (cs.map AV.int)) (fun l=>bif dB (eY l)then ob (some 0) (fun x=>ob (some (D8 30 (eY l))) fun y=>some (AV.ref σ.next,σ.alloc (.lst (Pm l x y))))else none)=_
  rw[b9,hL,af,b9,b9,Pn,ip,aS]
  have:KL (cs.map AV.int) 0 (D8 30 cs.length)=(cs.take 30).map AV.int:=by
   unfold KL
   rw[l0,N8,<- List.map_take]
   refine congrArg _ ?_
   rw[show D8 30 cs.length=min 30 cs.length from rfl,<- Ka,List.take_of_length_le (ax cs.length)]
  rw[this]
 have ei:fE (σ.alloc (.lst ((cs.take 30).map .int))) (.ref σ.next)=some ((cs.take 30).map .int,(σ.alloc (.lst ((cs.take 30).map .int))).drop σ.next):=by
  show bC (ob ((σ.alloc (.lst ((cs.take 30).map .int))).get σ.next) _) _=_
  rw[cn]
  show(bif dB ((cs.take 30).map AV.int).length then some _ else none)=_
  rw[fV (by rw[aS];exact au hk (by decide))];rfl
 generalize (σ.alloc (.lst ((cs.take 30).map .int))).drop σ.next=gF at ei
 refine eX (hloop (fr:=[.lst (cs.map .int),.int 23]) (σ:=gF) rfl) fun fr' el h1=> ?_
 have er:=er fr' h1 gF
 refine⟨gF.alloc (.lst [.int b]),gF.next,?_,cn⟩
 have q:Cg [.lst (cs.map .int)] σ=some (.ret (.ref gF.next) (gF.alloc (.lst [.int b]))):=by
  show ob (bC (SW (al 0) (ba .none) (ba (.int (30))) [.lst (cs.map .int),.int 23] σ) fun x ai=>bC (fE ai x) fun l ay=>pI [2] UT l [.lst (cs.map .int),.int 23] ay) (gU (aV (eK afK) bq))=_
  rw[es,aX,ei,aX,el,b9,dF]
  simp only[dk,ej,er,aX,b9,dH]
 show ob (Cg [.lst (cs.map .int)] σ) ir=_
 rw[q];rfl
theorem ZL(b:Int): ∃d,jk d/\ ∀{σ:AS} {x:Nat},σ.get x=some (.lst [.int b])-> ∃ai,ml [.ref x] σ=some (bK d,ai):=by
 have hd:=apX (abS b)
 have ok:=agm (abS b)
 generalize agl (Pr b)=d at hd ok
 refine⟨d,ok,fun{σ x} hx=> ?_⟩
 have hg:(σ.set x (.orc 0 (zw b))).get x=some (.orc 0 (zw b)):=eA hx
 have hb:ml [.ref x] σ=ur nX qH [.ref x] (σ.set x (.orc 0 (zw b))):=by
  show ob (σ.get x) _=_
  rw[hx];rfl
 refine⟨σ.set x (.orc 0 []),hb.trans ?_⟩
 refine fR hd fun a ay h1 hr=>F3 hr fun k l' h0 hr=> ?_
 have hr:=aH hr
 cases hr
 have h1:qH [.ref 0] ⟨1,[(0,.orc 0 (zw b))]⟩=some (bK d,ay):=h1
 rw[XJ hg,h1,aX]
 show ob (ay.get 0) _=_
 rw[h0]
 show ob (uN _ (bK d)) _=_
 rw[uz (by have:=KZ (d:=d);exact aE (show(noRef (bK d)&&aN [])=true from this) fun h _=>h)]
 show some (bK d,AS.mk σ.next (lx x (.orc 0 []) (lx x (.orc 0 (zw b)) σ.cells)))=_
 rw[oF];rfl
def TI(l:List SM)(k:SM):SM:=l.foldr aV k
theorem ajC{l:List SM}{k:SM}: ∀{fr:Fm} {σ:AS},TI l k fr σ=ob (TI l bq fr σ) (gU k):=by
 induction l with
 |nil=>exact fun{fr σ}=>rfl
 |cons a l ih=>
  intro fr σ
  show ob (a fr σ) (gU (TI l k))=ob (ob (a fr σ) (gU (TI l bq))) (gU k)
  cases a fr σ with
  |none=>rfl
  |some o=>
   cases o with
   |next f s=>exact ih
   |ret x s=>rfl
   |brk x s=>rfl
   |cont x s=>rfl
def anl:List SM:=[(cT [1,2,3] (bv gk (aw (bv vC aJ) (aw (bv oZ (aw (ba (.int (5))) (aw (ba (.str [71])) aJ))) (aw (bv oZ (aw (ba (.int (10))) (aw (ba (.str [76])) aJ))) aJ))))),
 (lT 16 (al 3) (ba (.str [88]))),
 (k8 (cJ (fS gu) (un (aA 23) (al 2)) (aw (bv xu (aw (ba (.str [79,78])) (aw (bv de (aw (bv gk (aw (bv gk (aw (ba (.str [116,101,120,116])) (aw (ba (.bytes [121])) aJ))) (aw (ba (.none)) aJ))) aJ)) aJ))) aJ))),
 (k8 (cJ yV (al 2) (aw (al 3) aJ))),
 (cT [4] (bv oZ (aw (ba (.int (1))) (aw (ba (.str [82])) aJ)))),
 (k8 (cJ yV (al 4) (aw (al 2) aJ))),
 (lT 24 (al 1) (bv de (aw (al 4) aJ))),
 (cT [5] (eO [6] (bv ik (aw (al 1) aJ)) (fun _ σ=>some (true,σ)) (un (aA 1) (al 6))))]
def acL:BM:=(fw (b5 .NotEq) (al 5) (cJ (iq kG) (ba (.str [68,65,84,65,32,68,73,86,73,83,73,79,78,32,46,32,87,79,82,75,73,78,71,45,83,84,79,82,65,71,69,32,83,69,67,84,73,79,78,32,46,32,48,49,32,82,32,46,32,48,53,32,71,32,46,32,56,56,32,79,78,32,86,65,76,85,69,32,121,32,46,32,49,48,32,76,32,80,73,67,32,88,32,46])) (aw (ba (.str [32])) aJ)))
def mkD:EM:=bv vC aJ
def acs{β:Type}(o:Option j8)(f:Fm->AS->Option β):Option β:=ob o fun o=>j8.rec (motive:=fun _=>Option β) (fun fr σ=>f fr σ) (fun _ _=>none) (fun _ _=>none) (fun _ _=>none) o
theorem aiy{β:Type}{o:Option j8}{f:Fm->AS->Option β}{r:β}{P:Prop}(h:acs o f=some r)(k: ∀fr σ,o=some (.next fr σ)->f fr σ=some r->P):P:=by
 cases o with
 |none=>exact nn h
 |some o=>
  cases o with
  |next fr σ=>exact k fr σ rfl h
  |ret x s=>exact nn h
  |brk x s=>exact nn h
  |cont x s=>exact nn h
def ap8(L:aa):Option (Bool×AV×List AV):=acs (TI anl bq [.lst L] ⟨0,[]⟩) fun fr σ=>bC (acL fr σ) fun b ai=>bC (mkD fr ai) fun a fW=>some (b,gt fr 0,(pW (jJ 14) [a] fW).1)
theorem ad7(L:aa):ap8 L=some (false,.lst L,[bK ⟨none,none,none⟩]):=by kernel_rfl
def ah5(lab:List AV->List AV):SM:=aV (sf (RM acL (pf (jh (bv (eL lab) (aw mkD aJ))))) (aV (fun _ _=>none) bq) bq) (aV (eK (bv (eL lab) (aw (bv ml (aw (bv re (aw (al 0) aJ)) aJ)) aJ))) bq)
theorem ah6(lab:List AV->List AV):Uz lab=TI anl (ah5 lab):=rfl
theorem al3(lab:List AV->List AV)(a:AV)(σ:AS):Zi lab [a] σ=ob (Uz lab [a] σ) ir:=rfl
theorem aeu(lab:List AV->List AV)(a:AV)(σ:AS):eL lab [a] σ=bn 1 [] (gw lab) (pW (jJ 14) [a] σ).1 (pW (jJ 14) [a] σ).2:=rfl
theorem alw:jk ⟨none,none,none⟩:=⟨fun _ e=>nn e,fun _ e=>nn e,fun _ e=>nn e⟩
theorem agp(d:DS):CS d (gM ⟨none,none,none⟩)=Pu ⟨none,none,none⟩:=ad6 d
theorem ah8{cs:List Int}(hl:cs.length<=99999): ∃d,jk d/\ ∃ai,Zi (CS d) [.lst (cs.map .int)] ⟨0,[]⟩=some (.bool true,ai):=by
 obtain⟨b,hb⟩:=afM hl
 obtain⟨d,ok,hd⟩:=ZL b
 refine⟨d,ok,?_⟩
 refine aiy (ad7 (cs.map .int)) fun fr σ e8 h=>fR h fun t ai ew h=>fR h fun a fW ed h=> ?_
 have h:=aH h
 have h1:t=false:=congrArg (·.1) h
 have h2:gt fr 0= .lst (cs.map .int):=congrArg (·.2.1) h
 have h3:(pW (jJ 14) [a] fW).1=[bK ⟨none,none,none⟩]:=congrArg (·.2.2) h
 clear h
 obtain⟨qC,e3⟩:=Mc alw (agp d) (pW (jJ 14) [a] fW).2
 have e3:eL (CS d) [a] fW=some (.bool true,qC):=by
  rw[aeu,h3];exact e3
 obtain⟨σ4,i,e4,g4⟩:=hb qC
 obtain⟨V6,e5⟩:=hd g4
 obtain⟨Y2,e6⟩:=aao ok (ah3 d) V6
 refine⟨Y2,?_⟩
 have hu:bX (.lst (cs.map .int))=false:=rfl
 have eT:ah5 (CS d) fr σ=some (.ret (.bool true) Y2):=by
  rw[h1]at ew
  unfold ah5
  simp only[dk,j5,G9,ew,aX,ae,qP,lX,et,cz,ed,cq,e3,iT,b9,eD,fJ,dF,ej,bk,h2,hu,e4,e5,e6,dH]
 have eQ:Uz (CS d) [.lst (cs.map .int)] ⟨0,[]⟩=some (.ret (.bool true) Y2):=by
  rw[ah6,ajC,e8,b9,dF,eT]
 rw[al3,eQ];rfl
noncomputable def Vf(c:Nat):Bool:=zd.any fun r=>aj r.c c
noncomputable def fnm(i:Nat):Str:=(As FN i).getD ""
def ZG(k:Nat)(l:aa)(c:bJ):Prop:=(k=1021/\lL mac l c)\/(k=0/\agb bx VB l c)
theorem ahk: ∀i j,i<FN.length->j<FN.length->fnm i=fnm j->i=j:=by
 have h:(cB FN.length).all (fun i=>(cB FN.length).all fun j=>aj i j|| !(fnm i==fnm j))=true:=by kernel_rfl
 intro i j hi hj e
 have h1:=bZ.mp (bZ.mp h i (qa.mpr hi)) j (qa.mpr hj)
 rcases kQ.mp h1 with q|q
 ·exact aD q
 ·rw[e,beq_self_eq_true]at q;exact absurd q (by decide)
theorem amn{L:aa}{m:Nat}(h:aN L=true):Es (cW L m)=true:=by
 show(noRef (.lst L)&&(true&&(true&&(true&&true))))=true
 rw[show noRef (.lst L)=aN L from rfl,h];rfl
theorem Xh: ∀k l c,ZG k l c->Es c=true:=fun k l c h=>by
 rcases h with⟨_,_,pre,_,h1,h2,rfl⟩|⟨_,_,b,rfl,_⟩
 ·exact amn (by rw[b6,h1,h2];rfl)
 ·rfl
theorem Xi: ∀k l c,ZG k l c->Vf k=true-> ∃ks vs,c= .inst k ks vs:=fun k l c h hc=>by
 rcases h with⟨rfl,_,pre,_,_,_,rfl⟩|⟨rfl,_⟩
 ·exact⟨_,_,rfl⟩
 ·exact absurd hc (by decide)
theorem adf{K:dL}(h:zd.all (crB K)=true): ∀c k,Vf c=true->k<FN.length->SJ c k=false->IJ K c (fnm k)=true:=fun c k hc hk hb=>by
 refine eX (kg.mp hc) fun r hr e=> ?_
 obtain rfl:=aD e
 refine aE (bZ.mp h r hr) fun _ h=>aE h fun _ h=>aE h fun _ h=>aE h fun _ h=>aE h fun _ h=> ?_
 have:=bZ.mp h k (qa.mpr hk)
 rw[hb]at this
 exact this
structure Ok(K:dL):Prop where
 ok:Zr K=true
 gf:gfB K=true
 sys:(K.lookup sysModules).isSome=true
theorem Ok.of{K:dL}(h:abF K=true):Ok K:=by
 refine aE h fun h1 h=>aE h fun h3 h=>aE h fun h4 h=>aE h fun h5 h=>aE h fun h6 h=>aE h fun h7 h=>aE h fun h8 h=>aE h fun h9 h=>aE h fun h10 h=>aE h fun h11 h=>aE h fun h12 _=>⟨?_,h11,h12⟩
 unfold Zr
 rw[h1,h3,h4,h5,h6,h7,h8,h9,h10];rfl
theorem Ok.n{K:dL}(h:abF K=true):Hy K "USAGE_NAMES" (.ref 503)=true/\Hy K "USAGE_WORDS" (.ref 711)=true:=
 aE h fun _ h=>aE h fun _ h=>aE h fun _ h=>aE h fun _ h=>aE h fun _ h=>aE h fun _ h=>aE h fun _ h=>aE h fun _ h=>aE h fun _ h=>aE h fun _ h=>aE h fun _ h=>aE h hZ
theorem Ok.cr{K:dL}(h:Ok K):zd.all (crB K)=true:=aE h.ok fun _ h=>aE h fun h _=>h
section
variable{w:dZ}{h:bO}{K:dL}{p:fY}{loose:List Str}{mean:ExcName->Option ah}{mg mb:Str->Option ah}
noncomputable def Yp(prog:fY)(w:dZ)(T:Top p loose mean mg mb h)(X:K.In h)(ck:Ok K):PC where
 prog:=prog
 w:=w
 K:=K
 fname:=fnm
 pi:=h
 mg:=mg
 mb:=mb
 g:=T.g
 b:=T.b
 nolimit:=T.nolimit
 boot:=T.builtins
 inK:=X
 sys:=(fg.mp ck.sys).imp fun o e=>X _ _ e
 cls:=Vf
 nf:=FN.length
 attr:=adf ck.cr
 conc:=ZG
 concFree:=Xh
 concInst:=Xi
 fnameInj:=ahk
theorem amk{prog:fY}{T:Top p loose mean mg mb h}{X:K.In h}{ck:Ok K}:qk (Yp prog w T X ck) mac bx VB where
 mac0:=rfl
 rdr:=fun l c=>⟨fun h=>h.elim (fun h=>h.2) fun h=>absurd h.1 (by decide),fun h=>.inl ⟨rfl,h⟩⟩
 bx2:=fun m d vs=>rfl
 bag:=fun l c=>⟨fun h=>h.elim (fun h=>absurd h.1 (by decide)) fun h=>h.2,fun h=>.inr ⟨rfl,h⟩⟩
theorem alv{C:PC}{o:Obj}{ws:List (Str×Str×Nat)}(ho:o={cls:=.type "dict",data:=.dict (ws.map fun x=>uf C.w x.1 x.2.1 x.2.2).toArray ws.length})(hn:(ws.map (·.1)).Nodup):
  o.IsDictOf (strKind C.prog C.w) (ws.map fun x=>(x.1,gq x.2.1 (x.2.2+1))):=by
 subst ho
 refine⟨_,_,⟨rfl,rfl,rfl⟩,rfl,fun e he=> ?_,?_,by rw[gL];exact hn⟩
 ·rw[tJ]at he
  obtain⟨x,_,rfl⟩:=dD.mp he
  exact⟨x.1,tO _ _ _ _,rfl⟩
 ·show Pairs _ (ws.map fun x=>uf C.w x.1 x.2.1 x.2.2) _
  clear hn
  induction ws with
  |nil=>exact .nil
  |cons x ws ih=>exact .cons (tO _ _ _ _) rfl ih
theorem dcV{C:PC}{W:Wd}(hW:ImK C W){a:aC}{o:Obj}(hl:C.K.lookup a=some o)(ha:(a==sysModules)=false){ws:List (Str×Str×Nat)}(ho:o={cls:=.type "dict",data:=.dict (ws.map fun x=>uf C.w x.1 x.2.1 x.2.2).toArray ws.length})(hn:(ws.map (·.1)).Nodup)
  {ks ss:List (List Nat)}(hk:ws.map (·.1)=ks.map aP)(hv:ws.map (·.2.1)=ss.map aP):V C W (.dct ks (ss.map .str)) (.ref a):=by
 have hl1:ks.length=ws.length:=by
  have:=congrArg na hk
  rwa[aS,aS,eq_comm]at this
 refine⟨a,o,ws.map fun x=>gq x.2.1 (x.2.2+1),rfl,ha,hW _ _ hl,?_,by rw[aS];exact hl1,?_⟩
 ·clear ho hn hk hl1 hl
  induction ws generalizing ss with
  |nil=>
   cases ss with
   |nil=>rfl
   |cons s ss=>exact absurd hv (fun h=>by cases h)
  |cons x ws ih=>
   cases ss with
   |nil=>exact absurd hv (fun h=>by cases h)
   |cons s ss=>
    have h:=List.cons.inj (show x.2.1::ws.map (·.2.1)=aP s::ss.map aP from hv)
    exact⟨_,_,rfl,⟨_,congrArg (fun s=>gq s (x.2.2+1)) h.1⟩,ih h.2⟩
 ·have:=alv (C:=C) ho hn
  rw[<- hk,List.zip_map']
  exact this
structure abu(w:dZ)(K:dL):Prop where
 ck:Ok K
 un:K.lookup 503=some (unO w)
 uw:K.lookup 711=some (uwO w)
 rs:nsIn K 3 "RESERVED"=some (some (.str F7 1445))
 le:UV K 65=some leB
 n1:Hy K "USAGE_NAMES" (.ref 503)=true
 n2:Hy K "USAGE_WORDS" (.ref 711)=true
theorem abu.of{w:dZ}{K:dL}(h:abF K=true)(e:kY K=kYa w):abu w K:=by
 obtain⟨e1,e⟩:=cK e
 obtain⟨e2,e⟩:=cK e
 obtain⟨e3,e4⟩:=cK e
 exact⟨Ok.of h,e1,e2,e3,e4,Ok.n h |>.1,Ok.n h |>.2⟩
noncomputable def Ja(a:AV):List Nat:=match a with
 | .str l=>l
 |_=>[]
theorem aoV{s:String}{cs:List Char}(h:s=String.ofList cs):lC s=aP (cs.map Char.toNat):=by
 rw[h,Str.ofString_eq_toList,String.toList_ofList];rfl
theorem VC:F7=aP (Ja lE):=(aoV (cs:=(Ja lE).map Char.ofNat) (by kernel_rfl)).trans (by kernel_rfl)
theorem amj{w:dZ}{h:bO}{K:dL}{p:fY}{loose:List Str}{mean:ExcName->Option ah}{mg mb:Str->Option ah}{prog:fY}(T:Top p loose mean mg mb h)(X:K.In h)(F:abu w K):rK (Yp prog w T X F.ck) where
 ok:=F.ck.ok
 nf:=rfl
 fn:=fun i x e=>by show(As FN i).getD ""=x;rw[e];rfl
 cls:=fun r hr=>kg.mpr ⟨r,hr,N6 _⟩
 name:=fun l c h=>h.elim (fun h=>by obtain⟨_,_,pre,_,_,_,rfl⟩:=h;exact⟨_,rfl⟩) fun h=>absurd h.1 (by decide)
 gf:=adP F.ck.gf fun o fd ho hd=>by
  have h:=F.le
  unfold UV at h
  rw[show K.lookup 65=some o from ho,nQ,hd]at h
  revert h
  show(match fd.body with| .stmts b=>some b|_=>none)=some leB->_
  cases fd.body with
  |stmts b=>exact fun h=>congrArg _ (aH h)
  |_=>exact fun h=>nn h
 un:=lU (Jh (C:=Yp prog w T X F.ck) F.n1) fun W hW=>dcV hW F.un rfl (ws:=[("display","DISPLAY",925),("binary","BINARY",927),("packed","PACKED-DECIMAL",929),("index","INDEX",931)]) rfl (by decide +kernel)
  (ks:=[[100,105,115,112,108,97,121],[98,105,110,97,114,121],[112,97,99,107,101,100],[105,110,100,101,120]]) (ss:=[[68,73,83,80,76,65,89],[66,73,78,65,82,89],[80,65,67,75,69,68,45,68,69,67,73,77,65,76],[73,78,68,69,88]]) (by kernel_rfl) (by kernel_rfl)
 uw:=lU (Jh (C:=Yp prog w T X F.ck) F.n2) fun W hW=>dcV hW F.uw rfl (ws:=[("DISPLAY","display",1250),("COMP","binary",1252),("COMPUTATIONAL","binary",1254),("BINARY","binary",1256),("PACKED-DECIMAL","packed",1258),("COMP-3","packed",1260),("COMPUTATIONAL-3","packed",1262),("INDEX","index",1264)]) rfl (by decide +kernel)
  (ks:=[[68,73,83,80,76,65,89],[67,79,77,80],[67,79,77,80,85,84,65,84,73,79,78,65,76],[66,73,78,65,82,89],[80,65,67,75,69,68,45,68,69,67,73,77,65,76],[67,79,77,80,45,51],[67,79,77,80,85,84,65,84,73,79,78,65,76,45,51],[73,78,68,69,88]]) (ss:=[[100,105,115,112,108,97,121],[98,105,110,97,114,121],[98,105,110,97,114,121],[98,105,110,97,114,121],[112,97,99,107,101,100],[112,97,99,107,101,100],[112,97,99,107,101,100],[105,110,100,101,120]]) (by kernel_rfl) (by kernel_rfl)
 rs:=lU (aiu (C:=Yp prog w T X F.ck) F.rs) fun W hW=>⟨1445,congrArg (fun s=>gq s 1445) VC⟩
end
abbrev RW:OpenLaw:=co
def Yf0(s:az):=(abF (zm WZ s.heap)&&cX 1 s.toks,kY (zm WZ s.heap))
noncomputable def Ya0(w:dZ):=(true,kYa w)
theorem aei{args:List WData}(h:RW.row.toRowW.claim.pre args=true): ∃cs:List Int,args=[.list (cs.map .int)]/\cs.length<=63:=by
 obtain⟨h1,h2⟩:=pre_splitW h
 obtain⟨d,r,rfl,h3,h4⟩:=hasAllW_cons (R:=RW.row.records) (e:=.list .int) (es:=[]) h1
 obtain rfl:=hasAllW_nil h4
 obtain⟨xs,rfl,h5⟩:=hasW_list h3
 obtain⟨cs,rfl⟩:=items_int h5
 refine⟨cs,rfl,?_⟩
 have h2:(match(match(match(match(some (Bw ((cs.map Bw).length:Nat)))with|some y=>((less? (.int 63) y).map yQ)|_=>none)with|some (.bool b)=>some (yQ (!b))|_=>none)with
  |some (.bool false)=>some (yQ false)
  |some (.bool true)=>some (.bool true)
  |_=>none)with|some (.bool true)=>true|_=>false)=true:=h2
 have h6:less? (.int 63) (.int ((cs.map Bw).length:Nat))=some (decide ((63:Int)<((cs.map Bw).length:Nat))):=rfl
 rw[aS]at h6 h2
 cases z:decide ((63:Int)<(cs.length:Nat))with
 |true=>
  rw[z]at h6
  simp only[h6]at h2
  exact absurd h2 (by decide)
 |false=>exact Nat.le_of_not_lt fun q=>of_decide_eq_false z (ib.mpr q)
theorem abf{P:Params}{h:bO}{C:PC}{W:Wd}: ∀{cs:List Int} {vs:List ah},WellAll P h vs (cs.map .int)->VL C W (cs.map .int) vs:=by
 intro cs
 induction cs with
 |nil=>intro vs h;cases h;rfl
 |cons c cs ih=>
  intro vs h
  cases h with
  |cons h1 h2=>cases h1 with
   |int i t=>exact⟨_,_,rfl,⟨_,rfl⟩,ih h2⟩
theorem aiI{a b:List WData}:RW.row.toRowW.claim.post a (.bool true) b=true:=by
 have h:same (.bool true) (.bool true)=true:=by kernel_rfl
 show(WShape.has RW.row.records (.bool true) .bool&&(match some (yQ (same (.bool true) (.bool true)))with|some (.bool true)=>true|_=>false))=true
 rw[h];rfl
theorem amC:eN callerA 23:=⟨rfl,by decide,by decide⟩
theorem ah7{C:PC}(O:rK C)(R:qk C mac bx VB){s:az}(hb: ∀b o,C.pi.get? b=some o->s.heap.get? b=some o)(tk:1<=s.toks){x:aC}{vs:List ah}{cs:List Int}(hx:s.heap.get? x=some (dC vs 0))(hw: ∀W,VL C W (cs.map .int) vs)(hlen:cs.length<=63):
  wpAny (dI C) callerA (Uk (.ref 1082) [.ref x]) (fun v s'=>v= .bool true/\Sm s s'/\ ∀b o,s.heap.get? b=some o->s'.heap.get? b=some o) dw s:=by
 obtain⟨ds,ok,ai,e⟩:=ah8 (cs:=cs) (au hlen (by decide))
 have hv:V C ⟨fun _=>none,s.heap.get?,fun _=>none⟩ (.lst (cs.map .int)) (.ref x):=⟨x,0,vs,rfl,hx,hw _⟩
 refine eC (anM (lab:=CS ds) ⟨O,aqe R,R⟩ (ah4 ok) callerA amC ⟨fun _=>none,s.heap.get?,fun _=>none⟩ ⟨0,[]⟩ s [.lst (cs.map .int)] [.ref x] ⟨hb,fun _ _ e=>e,fun _ _ e=>nn e,fun _ _ e=>nn e,fun _ _=>rfl,fun _ _ e=>nn e,fun _ _ _ _ _ _ e=>nn e⟩ (VL.one hv) tk _ _ e) fun v s' P=> ?_
 obtain⟨h1,W',l,R',hq⟩:=P
 exact⟨hq,h1,fun b o e=>R'.im _ _ (l.2.1 b o e)⟩
theorem law_walk{d:DefRec}{kwd:List (Str×PySem.Expr)}(hn:d.name="law"):WalkX q0 loose0 (fun _ _=>True) Yf0 Ya0 RW.row.toRowW d kwd fun f vs=>Uk f vs:=by
 intro w nw bt mg mb G Y a o pm cd doc dV kV ho hdt hcd hD hmg hgens args vals as L hpre hlay hrd hwl hlo
 have X:Frag.In (zm WZ nw.heap) bt.heap:=fun b o e=>L.keeps _ _ (ahm _ _ b o e)
 have y:=bj.mp (cK Y).1
 have F:=abu.of y.1 (cK Y).2
 have tk:1<=bt.toks:=by
  refine eX (L.laid) fun ord _ e=> ?_
  exact au (av y.2) (layAllW_grows _ _ _ e).toks
 have O:=amj (w:=w) (prog:=RW.row.prog) G.T X F
 have R:=amk (w:=w) (prog:=RW.row.prog) (T:=G.T) (X:=X) (ck:=F.ck)
 have ha:a=1082:=by
  have e:mg "law"=some (.ref 1082):=O.frE (i:=110) (r:=aaP) rfl fun _ _ h=>h "law" rfl
  rw[hn,e]at hmg
  cases hmg;rfl
 subst ha
 obtain⟨cs,rfl,hlen⟩:=aei hpre
 obtain⟨v,x,vs,rfl,rfl,hx,hvs⟩: ∃v x vs,vals=[v]/\v= .ref x/\bt.heap.get? x=some (dC vs 0)/\WellAll w.params bt.heap vs (cs.map .int):=by
  cases hwl with
  |cons h1 h2=>
   cases h2
   cases h1 with
   |list h3 h4=>exact⟨_,_,_,rfl,rfl,h3,h4⟩
 refine KY (eC (ah7 O R (fun _ _ e=>e) tk hx (fun _=>abf hvs) hlen) fun v s' P=> ?_)
 obtain⟨rfl,⟨h',t',rfl,_⟩,hk⟩:=P
 exact⟨.inl ⟨_,.bool true,[],rfl,fun _=>rfl,.bool true,aiI,fun _=>⟨l4,fun a ha=>absurd ha bg⟩⟩,OldK.of_keep hk,rfl,AllBare.of_eq hgens⟩
theorem akN{w:dZ}{os:oc}{x:N1×qc×Code×Pos}(h:TW w os=some x)(h1:x.1= .next)(h2:x.2.2.1= .body IM xR)(h3:x.2.2.2=psE):
  topRun treeTable PW w 11 (some (.ref 6)) 10000 ⟨ju w.params,p7 [],sZ,vw,os⟩ (topStub PW)=some x.2.1.abs:=by
 obtain⟨f,s,c,q⟩:=x
 obtain rfl:f= .next:=h1
 obtain rfl:c= .body IM xR:=h2
 obtain rfl:q=psE:=h3
 have k1:=alA w s.abs
 have k2:=piece_app (l:=IM) (rest:=[]) (segRun_of h) (piece_nil k1)
 rw[aR]at k2
 have k3:=piece_block (adb w os) k2
 have k4:=go_top (amm w os) k3
 have k5:=topRun_mono 2744 _ _ _ _ k4
 have e:12+(1+(7241+2))+2744=10000:=by decide
 rw[e]at k5
 exact k5
theorem XS(w:dZ)(hA: ∀os,(TW w os).map (Yd w)=some (.next,.body IM xR,psE,true,openGood q0 loose0,true,kYa w,pbs)):
  (openEnds treeTable PW w 10000).map (fun s=>(openSeen q0 loose0 (importedModules PW.main.body) Xt0 true s,Yf0 s))=some (openGood q0 loose0,Ya0 w):=by
 obtain⟨⟨h,gs,d,k,os⟩,e,e'⟩:=hY.mp (aiA w)
 obtain⟨e1,e'⟩:=cK e'
 obtain⟨e2,e'⟩:=cK e'
 obtain⟨e3,e4⟩:=cK e'
 have e1:h=ju w.params:=e1
 have e2:gs=p7 []:=e2
 have e3:d=sZ:=e3
 have e4:k=vw:=e4
 subst e1 e2 e3 e4
 refine eX (hY.mp (hA os)) fun x hx a=> ?_
 obtain⟨a1,a⟩:=cK a
 obtain⟨a2,a⟩:=cK a
 obtain⟨a3,a⟩:=cK a
 obtain⟨a4,a⟩:=cK a
 obtain⟨a5,a⟩:=cK a
 obtain⟨a6,a⟩:=cK a
 obtain⟨a7,a8⟩:=cK a
 obtain⟨a6,a9⟩:=bj.mp a6
 obtain⟨b1,b2⟩:=bj.mp a6
 obtain⟨z1,z'⟩:=cK (akf w)
 obtain⟨z2,z3⟩:=cK z'
 have t:topFrom treeTable PW w 10000 ⟨ju w.params,p7 [],sZ,vw,os⟩=some x.2.1.abs:=by
  unfold topFrom
  dsimp only
  rw[z1,z2,z3,akN hx a1 a2 a3]
  show(match NX w x.2.1.abs with|true=>some x.2.1.abs|false=>none)=_
  rw[a4]
 unfold openEnds
 rw[e,nQ,t]
 have y:Yf0 x.2.1.abs=Ya0 w:=by
  unfold Yf0 Ya0
  rw[ZZ,a7]
  refine congrArg (fun b=>(b,kYa w)) ?_
  show(qm.all (frB (Hm WZ x.2.1))&&afQ (Hm WZ x.2.1)&&cX 1 x.2.1.toks)=true
  rw[alD b1 a8 alu,b2,a9];rfl
 exact congrArg some (Oa a5 y)
theorem left:LeftO PW q0 loose0 Xt0 Yf0 Ya0 10000:=fun w=>by
 have e:=World.withFollow_self w "special-get-raises"
 cases hb:w.params.followText "special-get-raises" with
 |false=>
  rw[hb]at e
  exact XS w fun os=>by have:=apo w os;rwa[e]at this
 |true=>
  rw[hb]at e
  exact XS w fun os=>by have:=apq w os;rwa[e]at this
theorem aax{lk:Look}{s:bW}{r:List bW}: ∀{n:Nat} {l:List bW},l.drop n=s::r->noRoadLSs lk (l.take n)=true->noRoadLS lk s=true->noRoadLSs lk r=true->noRoadLSs lk l=true:=by
 intro n
 induction n with
 |zero=>
  intro l h _ h2 h3
  rw[l0]at h
  rw[h]
  exact Bx h2 h3
 |succ n ih=>
  intro l h h1 h2 h3
  cases l with
  |nil=>cases h
  |cons a l=>
   obtain⟨a1,a2⟩:=bj.mp (show(noRoadLS lk a&&noRoadLSs lk (l.take n))=true from h1)
   exact Bx a1 (ih (l:=l) h a2 h2 h3)
theorem O8{α:Type}{l:List α}{p:α->Bool}:l.toArray.any p=l.any p:=tG
noncomputable def Vk:Look:={strict:= !(importedModules co.row.prog.main.body).all cThrough.contains,foot:=none,bare:=(["vars","dir","locals"]:List Str).filter (readsOut co.row.prog co.row.prog.main.body)}
theorem aev:roadStr F7=false:=by
 rw[VC]
 show(((Ja lE).toArray.any fun c=>c==123||c==125)||((Ja lE).toArray.any (· ==46)&& !(Ja lE).toArray.any (· <=32)))=false
 rw[O8,O8,O8]
 kernel_rfl
theorem akD{lk:Look}(h:lk.word F7=true):lk.str F7=true:=by
 unfold Look.str
 rw[h,aev,Bool.or_true];rfl
theorem afk:Vk.word F7=true:=by
 rw[VC]
 kernel_rfl
theorem amP:noRoadLS Vk (.Assign [.Name "RESERVED" ⟨722,0,722,8⟩] (.Constant (.str F7) 0 ⟨722,11,722,1873⟩) ⟨722,0,722,1873⟩)=true:=by
 show(Vk.stores [.Name "RESERVED" ⟨722,0,722,8⟩]&&noRoadLs Vk [.Name "RESERVED" ⟨722,0,722,8⟩]&&Vk.str F7)=true
 refine Bx ?_ (akD afk)
 kernel_rfl
theorem amz:noRoadLSs Vk (co.row.prog.main.body.take 136)=true:=by
 unfold Vk
 rw[iP,cE,mP,aI,bM,bF,ma,yP,l8]
 kernel_rfl
theorem amA:noRoadLSs Vk (co.row.prog.main.body.drop 137)=true:=by
 unfold Vk
 rw[iP,cE,mP,aI,bM,bF,ma,yP,l8]
 kernel_rfl
theorem amB:co.row.prog.main.body.drop 136= .Assign [.Name "RESERVED" ⟨722,0,722,8⟩] (.Constant (.str F7) 0 ⟨722,11,722,1873⟩) ⟨722,0,722,1873⟩::co.row.prog.main.body.drop 137:=by kernel_rfl
theorem said:co.wellSaid=true:=by
 unfold OpenLaw.wellSaid OpenRow.wellSaid OpenRow.partSaid looksOpen
 repeat' with_reducible refine Bx ?_ ?_
 ·rw[Ea,aI]
  kernel_rfl
 ·rw[Fd,aI,Ed]
  kernel_rfl
 ·rw[Fa,aI]
  kernel_rfl
 ·rw[cE,fA,aI,bM,bF,Eh]
  kernel_rfl
 ·exact aax amB amz amP amA
 ·rw[fz,aI,Ek]
  kernel_rfl
 ·rw[aI]
  kernel_rfl
 ·rw[aI]
  kernel_rfl
 ·rw[aI,cE,Fc]
  kernel_rfl
 ·rw[cE,aI,bM,bF,fA,Uj,E4]
  kernel_rfl
 ·rw[Y6,aI,bF]
  kernel_rfl
 ·rw[cE,aI,E7,og,bM,bF,fA]
  kernel_rfl
 ·rw[Ee,aI]
  kernel_rfl
 ·rw[iM,aI]
  kernel_rfl
 ·rw[iM,aI]
  kernel_rfl
 ·rw[cE,aI,iM]
  kernel_rfl
 ·rw[cE,aI,E6,Y5,E5]
  kernel_rfl
 ·rw[cE,aI]
  kernel_rfl
 ·rw[aI]
  kernel_rfl
 ·rw[bM,bF,fA,aI]
  kernel_rfl
 ·rw[bM,bF,Ec,aI]
  kernel_rfl
 ·kernel_rfl
 ·rw[cE,D9]
  kernel_rfl
 ·rw[E9]
  kernel_rfl
 ·kernel_rfl
 ·kernel_rfl
 ·rw[iP,nh,mQ]
  kernel_rfl
 ·rw[Fb]
  kernel_rfl
 ·rw[Ej]
  kernel_rfl
 ·rw[cE,bF]
  kernel_rfl
 ·rw[cE,nh,og,bF,iO]
  kernel_rfl
 ·rw[cE,l9,l7,iO]
  kernel_rfl
 ·rw[cE,l9,l7,iO,Fw,bF]
  kernel_rfl
 ·rw[fz,bM,bF,mQ]
  kernel_rfl
 ·rw[bM,bF,fy]
  kernel_rfl
 ·rw[E8,bF,fy]
  kernel_rfl
 ·rw[cE,fy,og]
  kernel_rfl
 ·rw[fz,bM,bF,fy]
  kernel_rfl
 ·rw[fz,bF]
  kernel_rfl
theorem def_ok:(defOf q0 RW.row.name).map (fun x=>(x.1.name,kwWritten? x.1.params.kwonlyargs x.1.params.kw_defaults,x.2,RW.row.prog.theDef RW.row.name))=(defOf q0 RW.row.name).map (fun x=>(("law":Str),some x.2,x.2,some (x.1.params,x.1.body,x.1.scope))):=by kernel_rfl
theorem def_some:(defOf q0 RW.row.name).isSome=true:=by kernel_rfl
theorem ok_ok:(chainsOk q0&&opensWell RW.row.prog&&(frees RW.row.toRowW&&RW.row.within.isEmpty))=true:=by decide +kernel
theorem bare_ok:RW.row.prog.bare:=⟨rfl,rfl,rfl,rfl,rfl,by decide +kernel⟩
theorem prom_ok:RW.row.toRowW.promised:=⟨[.list []],by decide +kernel,by decide +kernel⟩
end Mine
end
set_option maxHeartbeats 4000000 in
theorem PySem.Challenge.cw_pq0651_01_holds : PySem.Challenge.rw_pq0651_01.Holds := by
 obtain⟨⟨d,kwd⟩,hdef⟩:=fg.mp Mine.def_some
 have h:=Mine.def_ok
 rw[hdef]at h
 have h:=aH h
 obtain⟨h1,h⟩:=cK h
 obtain⟨h2,h⟩:=cK h
 obtain⟨_,h3⟩:=cK h
 exact holds_law Mine.said fun k1=>holds_openX (q:=Mine.q0) (loose:=Mine.loose0) (Xt:=Mine.Xt0) (XP:=fun _ _=>True) (Yf:=Mine.Yf0) (Ya:=Mine.Ya0) (N:=10000) Mine.left (fun _ _=>trivial) (fun _ _ _ _ _=>trivial) hdef h3 h2 (fun _ _=>recFacts_nil rfl) rfl k1 Mine.ok_ok Mine.bare_ok Mine.prom_ok (Mine.law_walk h1)
