import PyProof.Rows.All
import OpenK.XOpen
import KE.KEqDict
import KE.KBytesWalk
import KE.BytesMake
import KE.KPop
import KE.KIntText
import Lean
import PySem.Challenge.RW_pq0651_01
set_option Elab.async false
set_option maxRecDepth 100000
set_option linter.all false
set_option genInjectivity false
set_option genSizeOf false
set_option compiler.extract_closed false
open And renaming intro->hZ
open Array renaming any_toList->Gp,mk->pX,toList->NY,toList_inj->Gq
open Bool renaming and_eq_true->cK,and_eq_true_iff->bj,and_self->rz,and_true->zL,eq_false_iff->EQ,eq_iff_iff->oB,not_eq_true'->d9,not_false->fx,not_true->eD,or_eq_false_iff->oF,or_eq_true->oG,or_eq_true_iff->kR
open Eq renaming trans->yG
open False renaming elim->T3
open ForInStep renaming yield->gJ
open Int renaming add_sub_cancel->Bl,eq_ofNat_of_zero_le->u6,fmod_lt_of_pos->qY,fmod_nonneg_of_pos->mW,lt_of_le_of_lt->Bm,lt_of_lt_of_le->Bn,natCast_nonneg->dq,negSucc->qA,negSucc_lt_zero->pO,not_lt->sR,ofNat->am,ofNat_le->N1,ofNat_lt->ib,toNat_of_nonneg->A9
open Int.negSucc renaming inj->abr
open List renaming all_append->oJ,all_cons->rA,all_eq_false->sk,all_eq_true->bZ,any_cons->rB,any_eq_false->ET,any_eq_true->kh,any_toArray->tD,append_assoc->aB,append_nil->aR,append_toArray->Ba,cons_append->eZ,contains_iff_mem->w0,drop->Bo,dropLast_eq_take->w6,drop_drop->pZ,drop_eq_nil_iff->oK,drop_eq_nil_of_le->hV,drop_zero->l4,filter->Rc,filterMap_cons->kW,find?_cons->oL,flatMap_append->kX,flatMap_cons->aY,flatMap_nil->bI,flatten_cons->mK,foldl->T6,foldl_cons->HY,forIn_cons->gL,getElem?_append_right->kD,getElem?_drop->qZ,getElem?_eq_getElem->fb,getElem?_eq_none->n6,getElem?_eq_some_iff->cU,getElem?_map->jM,getElem?_toArray->jU,getElem?_zip_eq_some->sS,getElem_mem->Gs,getLast?_eq_getElem?->sT,isEmpty_cons->EU,isEmpty_iff->dM,isEmpty_nil->Gu,length->mZ,length_append->ao,length_cons->bQ,length_drop->g9,length_eq_zero_iff->mH,length_filterMap_le->tE,length_map->aS,length_nil->H0,length_range->EV,length_take->ki,lookup->qB,lookup_cons->cD,lookup_cons_self->gp,map->N3,map_append->bt,map_congr_left->fY,map_cons->bh,map_id'->tF,map_inj_left->iL,map_map->gM,map_nil->jV,mem_append->cV,mem_cons->aG,mem_cons_of_mem->aQ,mem_cons_self->bf,mem_filterMap->lz,mem_map->dD,mem_of_getElem?->bb,mem_range->p7,mem_range'_1->EW,mem_singleton->aP,mem_toArray->tG,nil_append->vo,nodup_cons->dS,nodup_nil->l5,not_mem_nil->bg,of_mem_zip->H1,pairwise_cons->js,pairwise_singleton->u9,push_toArray->EX,range->cB,range'->iV,range'_succ->tH,rec->bu,rel_of_pairwise_cons->lb,replicate->bL,replicate_succ->kZ,reverse_cons->EY,size_toArray->aZ,take_append_drop->n7,take_succ_cons->Bb,take_take->J7,zip_cons_cons->bP
open List.Perm renaming eq_of_pairwise->N2
open List.cons renaming injEq->vn
open Nat renaming add_assoc->kE,add_comm->lA,add_le_add->aJ,add_le_add_left->dz,add_sub_cancel'->Bc,add_sub_cancel_left->mI,beq->aj,beq_refl->N4,ble->cX,ble_eq_true_of_le->gq,blt->bz,blt_eq->dh,eq_of_beq_eq_true->aD,exists_eq_add_of_le->jl,le_add_left->jt,le_add_right->cY,le_antisymm->vp,le_of_ble_eq_true->av,le_of_eq->eH,le_of_lt->i8,le_of_lt_succ->EZ,le_of_succ_le->E0,le_of_succ_le_succ->m7,le_refl->ax,le_succ->cR,le_succ_of_le->mL,le_trans->au,le_zero->Rd,log2_lt->Fq,lt_add_of_pos_right->vb,lt_irrefl->zM,lt_of_add_lt_add_left->sU,lt_of_le_of_lt->fc,lt_of_lt_of_le->fe,lt_of_succ_lt_succ->m8,lt_or_ge->oM,lt_succ_of_lt->cN,lt_succ_self->bT,min->DX,min_eq_left->H4,min_le_right->Gv,mul_le_mul_left->pP,mul_succ->N5,ne_of_gt->oN,ne_of_lt->ct,noConfusion->dT,not_le->yK,not_lt->ci,not_lt_zero->iw,pow_le_pow_right->iU,pow_lt_pow_right->yL,rec->hH,sub_le->T8,sub_self->Bp,sub_zero->N6,succ->nM,succ_le_succ->be,succ_ne_zero->kj,succ_sub->N7,succ_sub_succ_eq_sub->tI,zero_add->ic,zero_le->aU,zero_lt_succ->hJ
open Nat.succ renaming inj->jW
open Ne renaming symm->tu
open Option renaming bind_some->nN,getD_none->tJ,getD_some->nO,isNone_iff_eq_none->dG,isSome_iff_exists->fg,map_eq_some_iff->hY,none_or->J8,rec->bo
open Option.some renaming inj->aH,injEq->Y4
open Prod renaming ext->N8,rec->N9
open Prod.mk renaming inj->cJ
open PyProof.Rows renaming Assign_Tuple_swapped->yF,Compare_chain->ME,add_int->Ua,add_str->Ub,assign_Name->lB,floordiv_int->Nw,ge_int->V7,getItem_str->Oa,gt_int->V8,in_str->V9,join_list->Rg,join_tuple->Rb,le_int->Wa,len_str->Uc,len_tuple->Rh,lt_int->Wb,mod_int->Ud,mul_int->Ue,neg_int->Uf,notIn_str->Ri,not_of->Wc,pow_int->Ug,sub_int->Uh,truthy_none->Ob,truthy_tuple->Nx,StrsAre->Sg,isTrue_chain->Og,slot_str_getitem->Gx
open PySem renaming Addr->aC,Around->b5,BindsTo->Se,ClassData->Lx,CmpOp->gW,Comprehension->dR,Data->Bj,DictEntry->ia,Expr->an,Flow->NZ,FuncBody->N0,FuncData->gK,GenState->yH,Heap->bM,Keyword->tt,Model->lc,NameKind->cQ,Operator->iD,OsState->n8,Program->fZ,BoolOp->cE,call->Uk,strKind->rF,strKind_is->tK,wpAt_bind->H6,wpAt_of_wpAny->Be,Result->tM,Scope->dZ,Shared->az,Stmt->bV,UnaryOp->Sh,Value->ah,World->d4,builtinLookup_eq_fast->xf,call_list_seq->MG,call_meets->ma,codeAny_builtin->H7,codeAny_call_builtin->oO,codeAny_loop->Od,codeAny_mono->Oe,codeAny_of_tree->H8,evalPairs_cons->Kc,intKind_is->H9,pastItsLine_dict->Gw,plainId_quiet->MH,plainObj_wpAny_Assign_Attribute->jj,refuseLoop_ref->Kd,sizeLine_eq->jE,slot_dict_getitem->Fb,slot_list_getitem->Fc,slot_list_setitem->Fd,typeIs_str->mc,typeLookup_type->Ia,wpAny_Constant_int->q7,wpAny_Expr_any->Ke,wpAny_askSetting->Gy,wpAny_assignInOrder_more->fh,wpAny_assignInOrder_none->tR,wpAny_bind->aq,wpAny_bindName->me,wpAny_call->oP,wpAny_comprehension_free->tS,wpAny_execs_cons->nP,wpAny_execs_nil->oQ,wpAny_getItem_of->Gz,wpAny_holding->dJ,wpAny_isSubtype_exc->k7,wpAny_list_append_plain->vc,wpAny_loadPart->qa,wpAny_loadPart_at->gO,wpAny_lookBehind->GA,wpAny_madeBy_exc->GB,wpAny_mono->jw,wpAny_newObj_type->fO,wpAny_pure->aL,wpAny_pyIter_dict->Fe,wpAny_rule->Ib,wpAny_specialOf->Ic,wpAny_standAt->dB,wpAny_truthy_bool->fP,wpAny_typeOf->Oh,wpAny_unpackItems_tuple->vd
open PySem.Around renaming under_plainId->yE
open PySem.AutoListH renaming list___mul___list_int_3->Fp
open PySem.AutoSeq1 renaming list_extend_list_list_0->Bd
open PySem.BoolOp renaming And->Y7,Or->abt
open PySem.Builtin.BaseException renaming bexcPut->J5
open PySem.Builtin.Int renaming intBits->kU
open PySem.Builtin.List renaming listExtendWith->qS,listFitsIndex->kC,listLengthHint->Lu,listSameRef->tA,listSubscript?->Lv,listTooLong->i6
open PySem.Builtin.Range renaming rangeFitsLong->Lw,rangeSize->mG,small->A7
open PySem.Builtin.Str renaming glued->Y3,occurrences->Ra,strSliceIndices->qT,strKind->gz
open PySem.Calls renaming Constant_str->oH,Name_function_global->yJ,call_len_list->Ny,spliced_cons->Bu
open PySem.Challenge renaming pw_pq0651_01->J9,rw_pq0651_01->co
open PySem.Code renaming builtin->tB,quiet_builtin->Bi
open PySem.DictEntry renaming refKey->Gr
open PySem.Expr.Attribute renaming elim->pM
open PySem.Expr.BinOp renaming elim->vi
open PySem.Expr.BoolOp renaming elim->tC
open PySem.Expr.Call renaming elim->wW
open PySem.Expr.Compare renaming elim->sg
open PySem.Expr.Constant renaming elim->qU
open PySem.Expr.Dict renaming elim->wX
open PySem.Expr.IfExp renaming elim->vj
open PySem.Expr.List renaming elim->wY
open PySem.Expr.ListComp renaming elim->qV
open PySem.Expr.Name renaming elim->wZ
open PySem.Expr.Slice renaming elim->vk
open PySem.Expr.Subscript renaming elim->pN
open PySem.Expr.Tuple renaming elim->jq
open PySem.Expr.UnaryOp renaming elim->sh
open PySem.F renaming args_str_split_2->qW,entry_str_split->si,plainAttrs_list->sj,plain_list_iadd->ER,slot_int_rmul->HX,slot_str_join->vm,slot_str_replace->qX,slot_str_split->nL,type_str_replace->Bk,excBase_Exception->gA
open PySem.Heap renaming MadeExcOf->J6,SameBut->i7,dictOf_iff->jr,get?_none_of_le->yI,get?_push_at->ES,get?_push_of_some->bH,get?_push_size->bp,get?_update_ne->A8,get?_update_self->jT,lt_size->cv,size_push->pY
open PySem.Heap.SameBut renaming update->ji
open PySem.IsL renaming update->Y8
open PySem.MeetsSeq renaming list_pop_last->Ka
open PySem.NameKind renaming cell->eE,free->dA
open PySem.Obj renaming mapSeq->H5,putName->Rf
open PySem.Pairs renaming nil->We
open PySem.PyData renaming keyHash->p8
open PySem.ScopeKind renaming function->lC
open PySem.Sem.pure renaming elim->zN
open PySem.Stmt.Assign renaming elim->tN
open PySem.Stmt.Continue renaming elim->q6
open PySem.Stmt.Expr renaming elim->w8
open PySem.Stmt.For renaming elim->zO
open PySem.Stmt.If renaming elim->Bq
open PySem.Stmt.Return renaming elim->tO
open PySem.Stmt.While renaming elim->vq
open PySem.Str renaming append->Ul,empty->Wf,length->Um,ofString->lD
open PySem.StrLaws renaming occBody->ej,occ_eq->w9,subAt_eq->tP
open PySem.Txt renaming join->Oc,replace->Rj,split->Ly
open PySem.Value renaming int->Br,isStr->kM,noConfusion->sp,ref->oa,str->gu
open PySem.Value.int renaming elim->xa
open PySem.Value.ref renaming elim->xc
open PySem.Value.str renaming elim->xe
open PySem.W renaming Frag->dL,Looks->H3,SharedT->p9,boot_drawn->sV,boot_heap->ju,boot_toks->vt,callWith_of->Fu,look_both->Bt,looks_clsIn->wv,looks_findIn->tQ,plainGet_of->qC,set_plain->Lz
open PySem.W.Fast renaming named_eq->n9,sDec_eq->bF,te10110043849684766642->l6,te10501279942588096481->DY,te10792542408131684335->fy,te11788848310118352699->DZ,te11892475500146522536->D0,te12563942051412417395->l7,te12749700546528644094->D8,te12862048085361865435->D9,te12879404354523853263->l8,te13343964577679436407->Ea,te13582783067957832011->Eb,te14082659384304107361->Ec,te14364793385576792824->dY,te14374325043358763698->Ed,te14412699480532031325->Ee,te15667345088766844465->Ef,te16286561074155671207->Eg,te17095254045102204799->l9,te17119622794617984870->fz,te17868728402115742887->Eh,te18344453789297297638->fA,te2357444279172408678->E1,te2368527892694137696->aK,te3471404346716756564->bX,te4187177175401517315->mM,te4274047373036748609->E2,te4579403493507170074->E3,te482687673346738481->Ft,te4857012375875476094->E4,te5318747976498570220->iM,te6984425678791042302->iO,te7723801398212525404->E5,te797321630700447069->na,te8179353310426384613->E6,te8326940854005059898->iP,te8377067652309620493->E7,te9558739934217749035->E8,te9572597257264208301->mN,te9706382859710513879->E9,te9807087744658564304->Fa
open PySem.W.KIN renaming call_text->Sf
open PySem.W.Looks renaming of_pure->rC
open PySem.W.R renaming allR_eq->cO,anyR_eq->Y5,filterR_eq->Ui,mapR_eq->Y6
open PySem.W.S renaming strDecS_eq->Uj
open PySem.W.WData renaming bool->yM,int->Bs
open PySem.Walks renaming dictKeys->Kb
open PySem.Within renaming cons->Rl,nil->Un
open UInt8 renaming ofNat->Rk
open PySem PySem.W PySem.Calls PyProof.Rows
noncomputable section
namespace Mine
abbrev ac:=List Nat
theorem ae.{u}{α:Sort u}{a b:α}:cond false a b=b:=rfl
theorem af.{u}{α:Sort u}{a b:α}:cond true a b=a:=rfl
theorem ag{p:Prop}[Decidable p](h:decide p=true):p:=of_decide_eq_true h
theorem nn{α:Type}{P:Prop}{r:α}(h:none=some r):P:=Option.noConfusion rfl (heq_of_eq h)
theorem ff{P:Prop}(h:false=true):P:=Bool.noConfusion h
theorem s2{α β:Type}{P:α->β->Prop}{a c:α}{b d:β}(e:some (a,b)=some (c,d))(h:P a b):P c d:=by
 cases e;exact h
theorem s1{α:Type}{P:α->Prop}{a c:α}(e:some a=some c)(h:P a):P c:=by
 cases e;exact h
theorem bS{α:Type}{c:Bool}{x:Option α}{r:α}(h:(bif c then x else none)=some r):c=true/\x=some r:=by
 cases c with
 |true=>exact⟨rfl,h⟩
 |false=>cases h
theorem bN{α:Type}{c:Bool}{x:Option α}{r:α}(h:(bif c then none else x)=some r):c=false/\x=some r:=by
 cases c with
 |false=>exact⟨rfl,h⟩
 |true=>cases h
theorem kS{α:Type}{c:Bool}{x:Option α}{r:α}{P:Prop}(h:(bif c then x else none)=some r)(k:c=true->x=some r->P):P:=k (bS h).1 (bS h).2
theorem kN{α:Type}{c:Bool}{x:Option α}{r:α}{P:Prop}(h:(bif c then none else x)=some r)(k:c=false->x=some r->P):P:=k (bN h).1 (bN h).2
section
variable{P:Prop}
theorem ap3{B0:Prop}{B1:Prop}(h:B0/\B1)(k:B0->B1->P):P:=by obtain⟨h0,h1⟩:=h;exact k h0 h1
theorem ud{B0:Prop}{B1:Prop}{B2:Prop}(h:B0/\B1/\B2)(k:B0->B1->B2->P):P:=by obtain⟨h0,h1,h2⟩:=h;exact k h0 h1 h2
theorem Xm{B0:Prop}{B1:Prop}{B2:Prop}{B3:Prop}(h:B0/\B1/\B2/\B3)(k:B0->B1->B2->B3->P):P:=by obtain⟨h0,h1,h2,h3⟩:=h;exact k h0 h1 h2 h3
theorem ap4{B0:Prop}{B1:Prop}{B2:Prop}{B3:Prop}{B4:Prop}{B5:Prop}(h:B0/\B1/\B2/\B3/\B4/\B5)(k:B0->B1->B2->B3->B4->B5->P):P:=by obtain⟨h0,h1,h2,h3,h4,h5⟩:=h;exact k h0 h1 h2 h3 h4 h5
theorem anh{dp:Sort _}{B0:(x0:dp)->Prop}(h: ∃x0:dp,B0 x0)(k:(x0:dp)->B0 x0->P):P:=by obtain⟨x0,h0⟩:=h;exact k x0 h0
theorem eX{dp:Sort _}{B0:(x0:dp)->Prop}{B1:(x0:dp)->Prop}(h: ∃x0:dp,B0 x0/\B1 x0)(k:(x0:dp)->B0 x0->B1 x0->P):P:=by obtain⟨x0,h0,h1⟩:=h;exact k x0 h0 h1
theorem ue{dp:Sort _}{B0:(x0:dp)->Prop}{B1:(x0:dp)->Prop}{B2:(x0:dp)->Prop}(h: ∃x0:dp,B0 x0/\B1 x0/\B2 x0)(k:(x0:dp)->B0 x0->B1 x0->B2 x0->P):P:=by obtain⟨x0,h0,h1,h2⟩:=h;exact k x0 h0 h1 h2
theorem uf{dp:Sort _}{B0:(x0:dp)->Prop}{B1:(x0:dp)->Prop}{B2:(x0:dp)->Prop}{B3:(x0:dp)->Prop}(h: ∃x0:dp,B0 x0/\B1 x0/\B2 x0/\B3 x0)(k:(x0:dp)->B0 x0->B1 x0->B2 x0->B3 x0->P):P:=by obtain⟨x0,h0,h1,h2,h3⟩:=h;exact k x0 h0 h1 h2 h3
theorem ani{dp:Sort _}{B0:(x0:dp)->Prop}{B1:(x0:dp)->Prop}{B2:(x0:dp)->Prop}{B3:(x0:dp)->Prop}{B4:(x0:dp)->Prop}(h: ∃x0:dp,B0 x0/\B1 x0/\B2 x0/\B3 x0/\B4 x0)(k:(x0:dp)->B0 x0->B1 x0->B2 x0->B3 x0->B4 x0->P):P:=by obtain⟨x0,h0,h1,h2,h3,h4⟩:=h;exact k x0 h0 h1 h2 h3 h4
theorem ap5{dp:Sort _}{fN:(x0:dp)->Sort _}{B0:(x0:dp)->(x1:fN x0)->Prop}(h: ∃x0:dp,∃x1:fN x0,B0 x0 x1)(k:(x0:dp)->(x1:fN x0)->B0 x0 x1->P):P:=by obtain⟨x0,x1,h0⟩:=h;exact k x0 x1 h0
theorem SR{dp:Sort _}{fN:(x0:dp)->Sort _}{B0:(x0:dp)->(x1:fN x0)->Prop}{B1:(x0:dp)->(x1:fN x0)->Prop}(h: ∃x0:dp,∃x1:fN x0,B0 x0 x1/\B1 x0 x1)(k:(x0:dp)->(x1:fN x0)->B0 x0 x1->B1 x0 x1->P):P:=by obtain⟨x0,x1,h0,h1⟩:=h;exact k x0 x1 h0 h1
theorem agr{dp:Sort _}{fN:(x0:dp)->Sort _}{B0:(x0:dp)->(x1:fN x0)->Prop}{B1:(x0:dp)->(x1:fN x0)->Prop}{B2:(x0:dp)->(x1:fN x0)->Prop}(h: ∃x0:dp,∃x1:fN x0,B0 x0 x1/\B1 x0 x1/\B2 x0 x1)(k:(x0:dp)->(x1:fN x0)->B0 x0 x1->B1 x0 x1->B2 x0 x1->P):P:=by obtain⟨x0,x1,h0,h1,h2⟩:=h;exact k x0 x1 h0 h1 h2
theorem Xn{dp:Sort _}{fN:(x0:dp)->Sort _}{B0:(x0:dp)->(x1:fN x0)->Prop}{B1:(x0:dp)->(x1:fN x0)->Prop}{B2:(x0:dp)->(x1:fN x0)->Prop}{B3:(x0:dp)->(x1:fN x0)->Prop}(h: ∃x0:dp,∃x1:fN x0,B0 x0 x1/\B1 x0 x1/\B2 x0 x1/\B3 x0 x1)(k:(x0:dp)->(x1:fN x0)->B0 x0 x1->B1 x0 x1->B2 x0 x1->B3 x0 x1->P):P:=by obtain⟨x0,x1,h0,h1,h2,h3⟩:=h;exact k x0 x1 h0 h1 h2 h3
theorem anj{dp:Sort _}{fN:(x0:dp)->Sort _}{B0:(x0:dp)->(x1:fN x0)->Prop}{B1:(x0:dp)->(x1:fN x0)->Prop}{B2:(x0:dp)->(x1:fN x0)->Prop}{B3:(x0:dp)->(x1:fN x0)->Prop}{B4:(x0:dp)->(x1:fN x0)->Prop}(h: ∃x0:dp,∃x1:fN x0,B0 x0 x1/\B1 x0 x1/\B2 x0 x1/\B3 x0 x1/\B4 x0 x1)(k:(x0:dp)->(x1:fN x0)->B0 x0 x1->B1 x0 x1->B2 x0 x1->B3 x0 x1->B4 x0 x1->P):P:=by obtain⟨x0,x1,h0,h1,h2,h3,h4⟩:=h;exact k x0 x1 h0 h1 h2 h3 h4
theorem abX{dp:Sort _}{fN:(x0:dp)->Sort _}{B0:(x0:dp)->(x1:fN x0)->Prop}{B1:(x0:dp)->(x1:fN x0)->Prop}{B2:(x0:dp)->(x1:fN x0)->Prop}{B3:(x0:dp)->(x1:fN x0)->Prop}{B4:(x0:dp)->(x1:fN x0)->Prop}{B5:(x0:dp)->(x1:fN x0)->Prop}(h: ∃x0:dp,∃x1:fN x0,B0 x0 x1/\B1 x0 x1/\B2 x0 x1/\B3 x0 x1/\B4 x0 x1/\B5 x0 x1)(k:(x0:dp)->(x1:fN x0)->B0 x0 x1->B1 x0 x1->B2 x0 x1->B3 x0 x1->B4 x0 x1->B5 x0 x1->P):P:=by obtain⟨x0,x1,h0,h1,h2,h3,h4,h5⟩:=h;exact k x0 x1 h0 h1 h2 h3 h4 h5
theorem Xo{dp:Sort _}{fN:(x0:dp)->Sort _}{sf:(x0:dp)->(x1:fN x0)->Sort _}{B0:(x0:dp)->(x1:fN x0)->(x2:sf x0 x1)->Prop}{B1:(x0:dp)->(x1:fN x0)->(x2:sf x0 x1)->Prop}(h: ∃x0:dp,∃x1:fN x0,∃x2:sf x0 x1,B0 x0 x1 x2/\B1 x0 x1 x2)(k:(x0:dp)->(x1:fN x0)->(x2:sf x0 x1)->B0 x0 x1 x2->B1 x0 x1 x2->P):P:=by obtain⟨x0,x1,x2,h0,h1⟩:=h;exact k x0 x1 x2 h0 h1
theorem Xp{dp:Sort _}{fN:(x0:dp)->Sort _}{sf:(x0:dp)->(x1:fN x0)->Sort _}{B0:(x0:dp)->(x1:fN x0)->(x2:sf x0 x1)->Prop}{B1:(x0:dp)->(x1:fN x0)->(x2:sf x0 x1)->Prop}{B2:(x0:dp)->(x1:fN x0)->(x2:sf x0 x1)->Prop}(h: ∃x0:dp,∃x1:fN x0,∃x2:sf x0 x1,B0 x0 x1 x2/\B1 x0 x1 x2/\B2 x0 x1 x2)(k:(x0:dp)->(x1:fN x0)->(x2:sf x0 x1)->B0 x0 x1 x2->B1 x0 x1 x2->B2 x0 x1 x2->P):P:=by obtain⟨x0,x1,x2,h0,h1,h2⟩:=h;exact k x0 x1 x2 h0 h1 h2
theorem Xq{dp:Sort _}{fN:(x0:dp)->Sort _}{sf:(x0:dp)->(x1:fN x0)->Sort _}{B0:(x0:dp)->(x1:fN x0)->(x2:sf x0 x1)->Prop}{B1:(x0:dp)->(x1:fN x0)->(x2:sf x0 x1)->Prop}{B2:(x0:dp)->(x1:fN x0)->(x2:sf x0 x1)->Prop}{B3:(x0:dp)->(x1:fN x0)->(x2:sf x0 x1)->Prop}(h: ∃x0:dp,∃x1:fN x0,∃x2:sf x0 x1,B0 x0 x1 x2/\B1 x0 x1 x2/\B2 x0 x1 x2/\B3 x0 x1 x2)(k:(x0:dp)->(x1:fN x0)->(x2:sf x0 x1)->B0 x0 x1 x2->B1 x0 x1 x2->B2 x0 x1 x2->B3 x0 x1 x2->P):P:=by obtain⟨x0,x1,x2,h0,h1,h2,h3⟩:=h;exact k x0 x1 x2 h0 h1 h2 h3
theorem ap6{dp:Sort _}{fN:(x0:dp)->Sort _}{sf:(x0:dp)->(x1:fN x0)->Sort _}{B0:(x0:dp)->(x1:fN x0)->(x2:sf x0 x1)->Prop}{B1:(x0:dp)->(x1:fN x0)->(x2:sf x0 x1)->Prop}{B2:(x0:dp)->(x1:fN x0)->(x2:sf x0 x1)->Prop}{B3:(x0:dp)->(x1:fN x0)->(x2:sf x0 x1)->Prop}{B4:(x0:dp)->(x1:fN x0)->(x2:sf x0 x1)->Prop}(h: ∃x0:dp,∃x1:fN x0,∃x2:sf x0 x1,B0 x0 x1 x2/\B1 x0 x1 x2/\B2 x0 x1 x2/\B3 x0 x1 x2/\B4 x0 x1 x2)(k:(x0:dp)->(x1:fN x0)->(x2:sf x0 x1)->B0 x0 x1 x2->B1 x0 x1 x2->B2 x0 x1 x2->B3 x0 x1 x2->B4 x0 x1 x2->P):P:=by obtain⟨x0,x1,x2,h0,h1,h2,h3,h4⟩:=h;exact k x0 x1 x2 h0 h1 h2 h3 h4
end
inductive AV where
 |unb
 |none
 |opq
 |bool(b:Bool)
 |int(i:Int)
 |str(s:List Nat)
 |bytes(s:List UInt8)
 |tup(l:List AV)
 |lst(l:List AV)
 |frz(c:Nat)(ks:List Nat)(vs:List AV)
 |dct(ks:List (List Nat))(vs:List AV)
 |dcti(ks:List Int)(vs:List AV)
 |rng(a b:Nat)
 |ref(a:Nat)
 |glob(v:ah)
 deriving Inhabited
abbrev aa:=List AV
inductive bJ where
 |lst(l:List AV)
 |inst(c:Nat)(ks:List Nat)(vs:List AV)
 |dct(ks:List (List Nat))(vs:List AV)
 |orc(k:Nat)(l:List AV)
 deriving Inhabited
mutual
noncomputable def noRef:AV->Bool
 | .ref _=>false
 | .tup l=>aN l
 | .lst l=>aN l
 | .frz _ _ l=>aN l
 | .dct _ l=>aN l
 | .dcti _ l=>aN l
 |_=>true
noncomputable def aN:List AV->Bool
 |[]=>true
 |a::l=>noRef a&&aN l
end
noncomputable def Eo:bJ->Bool
 | .lst l=>aN l
 | .inst _ _ l=>aN l
 | .dct _ l=>aN l
 | .orc _ _=>false
noncomputable def IG(K:dL)(C:aC)(name:Str):Bool:=plainGet K C name&&hasDictIn K C&&(match findIn K (.ref C) name with
 |some attr=>noGet K attr
 |none=>false)&&findIn K (.ref C) "__setattr__" ==some (some (.builtin "object.__setattr__"))&&plainOver K C&&takerIn K C name==some none
noncomputable def SH(c k:Nat):Bool:=aj c 1021&&aj k 18
structure PC where
 prog:fZ
 w:d4
 K:dL
 fname:Nat->Str
 pe:bM
 mg:Str->Option ah
 mb:Str->Option ah
 g:pe.Ns mainGlobals mg
 b:pe.Ns builtinsNs mb
 nolimit:pe.NoLimit
 boot: ∀x:Str,x≠ "__name__" ->mb x=bootBuiltins x
 inK:K.In pe
 sys: ∃o,pe.get? sysModules=some o
 cls:Nat->Bool
 nf:Nat
 attr: ∀c k,cls c=true->k<nf->SH c k=false->IG K c (fname k)=true
 conc:Nat->List AV->bJ->Prop
 concFree: ∀k l c,conc k l c->Eo c=true
 concInst: ∀k l c,conc k l c->cls k=true-> ∃ks vs,c= .inst k ks vs
 fnameInj: ∀i j,i<nf->j<nf->fname i=fname j->i=j
structure Wd where
 ρ:Nat->Option (aC×aC)
 im:aC->Option Obj
 pr:aC->Option Obj
noncomputable def aO(s:ac):Str:=⟨s.toArray⟩
abbrev tq(vs:List ah)(n:Nat):Obj:={cls:=.type "tuple",data:=.seq vs.toArray n}
abbrev dy(vs:List ah)(n:Nat):Obj:={cls:=.type "list",data:=.seq vs.toArray n}
def oV(C:PC):List Nat->List ah->List ia->Prop
 |k::ks,v::vs,e::es=>k<C.nf/\(∃t,e.key= .str (C.fname k) t)/\e.val=v/\oV C ks vs es
 |[],[],[]=>True
 |_,_,_=>False
def Ej(C:PC)(ks:List (List Nat))(vs:List ah)(o:Obj):Prop:=ks.length=vs.length/\o.IsDictOf (strKind C.prog C.w) ((ks.map aO).zip vs)
def aby(C:PC)(ks:List Int)(vs:List ah)(o:Obj):Prop:=ks.length=vs.length/\o.IsDictOf (intKind C.prog C.w) (ks.zip vs)
mutual
def V(C:PC)(W:Wd):AV->ah->Prop
 | .unb,_=>False
 | .none,v=>v= .none
 | .opq,_=>True
 | .bool b,v=>v= .bool b
 | .int i,v=> ∃t,v= .int i t
 | .str s,v=> ∃t,v= .str (aO s) t
 | .bytes s,v=> ∃t,v= .bytes s.toArray t
 | .tup l,v=> ∃x n vs,v= .ref x/\W.im x=some (tq vs n)/\VL C W l vs
 | .lst l,v=> ∃x n vs,v= .ref x/\W.im x=some (dy vs n)/\VL C W l vs
 | .frz c ks fs,v=> ∃x d es n vs,v= .ref x/\C.cls c=true/\W.im x=some (instObj c d)/\W.im d=some (dictOf es n)/\VL C W fs vs/\oV C ks vs es
 | .dct ks fs,v=> ∃x o vs,v= .ref x/\(x==sysModules)=false/\W.im x=some o/\VL C W fs vs/\Ej C ks vs o
 | .dcti ks fs,v=> ∃x o vs,v= .ref x/\(x==sysModules)=false/\W.im x=some o/\VL C W fs vs/\aby C ks vs o
 | .rng a b,v=> ∃x t u w,v= .ref x/\W.im x=some {cls:=.type "range",dict:=none,data:=.fields #[.int a t,.int b u,.int 1 w],slots:= #[]}/\a<2^20/\b<2^20
 | .ref a,v=> ∃p,W.ρ a=some p/\v= .ref p.1
 | .glob a,v=>v=a
def VL(C:PC)(W:Wd):List AV->List ah->Prop
 |[],vs=>vs=[]
 |a::l,vs=> ∃v r,vs=v::r/\V C W a v/\VL C W l r
end
def Wd.le0(W W':Wd):Prop:=(∀a p,W.ρ a=some p->W'.ρ a=some p)/\(∀x o,W.im x=some o->W'.im x=some o)
def Wd.le(W W':Wd):Prop:=(∀a p,W.ρ a=some p->W'.ρ a=some p)/\(∀x o,W.im x=some o->W'.im x=some o)/\W'.pr=W.pr
theorem Wd.le.refl(W:Wd):W.le W:=⟨fun _ _ e=>e,fun _ _ e=>e,rfl⟩
theorem Wd.le.trans{W W' W'':Wd}(h:W.le W')(h':W'.le W''):W.le W'':=
 ⟨fun a p e=>h'.1 _ _ (h.1 a p e),fun x o q=>h'.2.1 x o (h.2.1 x o q),h'.2.2.trans h.2.2⟩
mutual
theorem V.mono0{C:PC}{W W':Wd}(h:W.le0 W'): ∀{a:AV} {v:ah},V C W a v->V C W' a v
 | .unb,_,x=>x
 | .none,_,x=>x
 | .opq,_,x=>x
 | .bool _,_,x=>x
 | .int _,_,x=>x
 | .str _,_,x=>x
 | .bytes _,_,x=>x
 | .tup _,_,y=>by obtain⟨x,n,vs,e,q,r⟩:=y;exact⟨x,n,vs,e,h.2 _ _ q,r.mono0 h⟩
 | .lst _,_,y=>by obtain⟨x,n,vs,e,q,r⟩:=y;exact⟨x,n,vs,e,h.2 _ _ q,r.mono0 h⟩
 | .frz _ _ _,_,y=>by obtain⟨x,d,es,n,vs,e,q0,q1,q2,r,z⟩:=y;exact⟨x,d,es,n,vs,e,q0,h.2 _ _ q1,h.2 _ _ q2,r.mono0 h,z⟩
 | .dct _ _,_,y=>by obtain⟨x,o,vs,e,q0,q1,r,z⟩:=y;exact⟨x,o,vs,e,q0,h.2 _ _ q1,r.mono0 h,z⟩
 | .dcti _ _,_,y=>by obtain⟨x,o,vs,e,q0,q1,r,z⟩:=y;exact⟨x,o,vs,e,q0,h.2 _ _ q1,r.mono0 h,z⟩
 | .rng _ _,_,y=>by obtain⟨x,t,u,w,e,q,z⟩:=y;exact⟨x,t,u,w,e,h.2 _ _ q,z⟩
 | .ref _,_,y=>by obtain⟨p,e,q⟩:=y;exact⟨p,h.1 _ _ e,q⟩
 | .glob _,_,x=>x
theorem VL.mono0{C:PC}{W W':Wd}(h:W.le0 W'): ∀{l:aa} {vs:List ah},VL C W l vs->VL C W' l vs
 |[],_,x=>x
 |_::_,_,⟨v,r,e,q,z⟩=>⟨v,r,e,q.mono0 h,z.mono0 h⟩
end
theorem Wd.le.to0{W W':Wd}(h:W.le W'):W.le0 W':=⟨h.1,h.2.1⟩
theorem V.mono{C:PC}{W W':Wd}(h:W.le W'){a:AV}{v:ah}(x:V C W a v):V C W' a v:=x.mono0 h.to0
theorem VL.mono{C:PC}{W W':Wd}(h:W.le W'){l:aa}{vs:List ah}(x:VL C W l vs):VL C W' l vs:=x.mono0 h.to0
theorem VL.length{C:PC}{W:Wd}: ∀{l:aa} {vs:List ah},VL C W l vs->vs.length=l.length
 |[],_,e=>by rw[show _=[] from e];rfl
 |_::_,_,⟨_,_,e,_,z⟩=>by rw[e,bQ,bQ,z.length]
theorem VL.get{C:PC}{W:Wd}: ∀{l:aa} {vs:List ah} {i:Nat} {a:AV},VL C W l vs->l[i]? =some a-> ∃v,vs[i]? =some v/\V C W a v
 |_::_,_,0,_,⟨v,r,e,q,_⟩,h=>by cases h;subst e;exact⟨v,rfl,q⟩
 |_::_,_,i+1,_,⟨v,r,e,_,z⟩,h=>by
  subst e
  exact z.get (i:=i) h
theorem VL.append{C:PC}{W:Wd}: ∀{l l':aa} {vs vs':List ah},VL C W l vs->VL C W l' vs'->VL C W (l++l') (vs++vs')
 |[],_,_,_,e,h=>by rw[show _=[] from e];exact h
 |_::_,_,_,_,⟨v,r,e,q,z⟩,h=>by subst e;exact⟨v,_,rfl,q,z.append h⟩
theorem VL.nil{C:PC}{W:Wd}:VL C W [] []:=rfl
theorem VL.cons{C:PC}{W:Wd}{a:AV}{v:ah}{l:aa}{vs:List ah}(h:V C W a v)(r:VL C W l vs):VL C W (a::l) (v::vs):=⟨v,vs,rfl,h,r⟩
theorem VL.one{C:PC}{W:Wd}{a:AV}{v:ah}(h:V C W a v):VL C W [a] [v]:=⟨v,[],rfl,h,rfl⟩
theorem VL.set{C:PC}{W:Wd}: ∀{l:aa} {vs:List ah} {i:Nat} {a:AV} {v:ah},VL C W l vs->V C W a v->VL C W (l.set i a) (vs.set i v)
 |[],_,_,_,_,e,_=>by rw[show _=[] from e];rfl
 |_::_,_,0,_,_,⟨v,r,e,q,z⟩,h=>by subst e;exact⟨_,_,rfl,h,z⟩
 |_::_,_,i+1,_,_,⟨v,r,e,q,z⟩,h=>by subst e;exact⟨_,_,rfl,q,z.set (i:=i) h⟩
theorem VL.take{C:PC}{W:Wd}: ∀{l:aa} {vs:List ah} (i:Nat),VL C W l vs->VL C W (l.take i) (vs.take i)
 |[],_,i,e=>by rw[show _=[] from e];simp;exact VL.nil
 |_::_,_,0,_=>VL.nil
 |_::_,_,i+1,⟨v,r,e,q,z⟩=>by subst e;exact⟨_,_,rfl,q,z.take i⟩
theorem VL.drop{C:PC}{W:Wd}: ∀{l:aa} {vs:List ah} (i:Nat),VL C W l vs->VL C W (l.drop i) (vs.drop i)
 |[],_,i,e=>by rw[show _=[] from e];simp;exact VL.nil
 |_::_,_,0,h=>h
 |_::_,_,i+1,⟨v,r,e,q,z⟩=>by subst e;exact z.drop i
structure AS where
 next:Nat
 cells:List (Nat×bJ)
 deriving Inhabited
theorem bR{α:Type}(c:Bool)(x y:α):Bool.rec (motive:=fun _=>α) y x c=cond c x y:=by cases c<;>rfl
def lk(a:Nat)(l:List (Nat×bJ)):Option bJ:=bu (motive:=fun _=>Option bJ) none (fun p _ ih=>Bool.rec (motive:=fun _=>Option bJ) ih (some p.2) (aj a p.1)) l
theorem ack(a:Nat):lk a []=none:=rfl
theorem nj(a b:Nat)(c:bJ)(r:List (Nat×bJ)):lk a ((b,c)::r)=bif aj a b then some c else lk a r:=bR _ _ _
def ly(a:Nat)(c:bJ)(l:List (Nat×bJ)):List (Nat×bJ):=bu (motive:=fun _=>List (Nat×bJ)) [] (fun p r ih=>Bool.rec (motive:=fun _=>List (Nat×bJ)) (p::ih) ((p.1,c)::r) (aj a p.1)) l
theorem akG(a:Nat)(c:bJ):ly a c []=[]:=rfl
theorem EN(a:Nat)(c:bJ)(b:Nat)(d:bJ)(r:List (Nat×bJ)):ly a c ((b,d)::r)=bif aj a b then(b,c)::r else(b,d)::ly a c r:=bR _ _ _
def drp(a:Nat)(l:List (Nat×bJ)):List (Nat×bJ):=bu (motive:=fun _=>List (Nat×bJ)) [] (fun p _ ih=>Bool.rec (motive:=fun _=>List (Nat×bJ)) (p::ih) ih (aj a p.1)) l
theorem agn(a:Nat):drp a []=[]:=rfl
theorem ado(a b:Nat)(d:bJ)(r:List (Nat×bJ)):drp a ((b,d)::r)=bif aj a b then drp a r else(b,d)::drp a r:=bR _ _ _
def AS.get(σ:AS)(a:Nat):Option bJ:=lk a σ.cells
def AS.set(σ:AS)(a:Nat)(c:bJ):AS:=⟨σ.next,ly a c σ.cells⟩
noncomputable def AS.alloc(σ:AS)(c:bJ):AS:=⟨σ.next+1,(σ.next,c)::σ.cells⟩
def AS.drop(σ:AS)(a:Nat):AS:=⟨σ.next,drp a σ.cells⟩
theorem gg(a b:Nat):aj a b=decide (a=b):=by
 cases h:aj a b with
 |true=>rw[decide_eq_true (aD h)]
 |false=>rw[decide_eq_false (Nat.ne_of_beq_eq_false h)]
theorem AS.get_set(σ:AS)(a:Nat)(c:bJ)(b:Nat):(σ.set a c).get b=if b=a then(σ.get a).map (fun _=>c)else σ.get b:=by
 obtain⟨n,l⟩:=σ
 simp only[AS.get,AS.set]
 induction l with
 |nil=>simp[ack,akG]
 |cons p r ih=>
  obtain⟨x,d⟩:=p
  simp only[EN,nj,gg]
  by_cases h:a=x
  ·subst h
   simp only[decide_true,af,nj,gg,Option.map_some]
   by_cases q:b=a<;>simp[q]
  ·simp only[h,decide_false,ae,nj,gg]
   rw[ih]
   by_cases q:b=x
   ·subst q
    have:b≠a:=fun e=>h e.symm
    simp[this]
   ·simp[q]
theorem AS.get_alloc(σ:AS)(c:bJ)(b:Nat):(σ.alloc c).get b=if b=σ.next then some c else σ.get b:=by
 simp only[AS.get,AS.alloc,nj,gg]
 by_cases q:b=σ.next<;>simp[q]
theorem AS.get_drop(σ:AS)(a b:Nat):(σ.drop a).get b=if b=a then none else σ.get b:=by
 obtain⟨n,l⟩:=σ
 simp only[AS.get,AS.drop]
 induction l with
 |nil=>simp[ack,agn]
 |cons p r ih=>
  obtain⟨x,d⟩:=p
  simp only[ado,nj,gg]
  by_cases h:a=x
  ·subst h
   simp only[decide_true,af]
   rw[ih]
   by_cases q:b=a<;>simp[q]
  ·simp only[h,decide_false,ae,nj,gg]
   rw[ih]
   by_cases q:b=x
   ·subst q
    have:b≠a:=fun e=>h e.symm
    simp[this]
   ·simp[q]
def iQ(C:PC)(W:Wd)(h:bM)(p:aC×aC):bJ->Prop
 | .lst l=>p.1=p.2/\ ∃vs n,h.get? p.2=some (dy vs n)/\VL C W l vs
 | .inst k ks fs=>C.cls k=true/\W.im p.1=some (instObj k p.2)/\ ∃es n vs,h.get? p.2=some (dictOf es n)/\VL C W fs vs/\oV C ks vs es
 | .dct ks fs=>p.1=p.2/\(p.2==sysModules)=false/\ ∃o vs,h.get? p.2=some o/\VL C W fs vs/\Ej C ks vs o
 | .orc _ _=>False
def d5(C:PC)(W:Wd)(h:bM)(p:aC×aC):bJ->Prop
 | .lst l=>p.1=p.2/\ ∃vs n,h.get? p.2=some (dy vs n)/\VL C W l vs
 | .inst k ks fs=>C.cls k=true/\W.im p.1=some (instObj k p.2)/\ ∃es n vs,h.get? p.2=some (dictOf es n)/\VL C W fs vs/\oV C ks vs es
 | .dct ks fs=>p.1=p.2/\(p.2==sysModules)=false/\ ∃o vs,h.get? p.2=some o/\VL C W fs vs/\Ej C ks vs o
 | .orc k l=> ∃c,C.conc k l c/\iQ C W h p c
noncomputable def bJ.isOrc:bJ->Bool
 | .orc _ _=>true
 |_=>false
theorem d5.to0{C:PC}{W:Wd}{h:bM}{p:aC×aC}{c:bJ}(hc:c.isOrc=false)(x:d5 C W h p c):iQ C W h p c:=by
 cases c with
 |orc=>cases hc
 |lst=>exact x
 |inst=>exact x
 |dct=>exact x
theorem iQ.to{C:PC}{W:Wd}{h:bM}{p:aC×aC}{c:bJ}(x:iQ C W h p c):d5 C W h p c:=by
 cases c with
 |orc=>exact x.elim
 |_=>exact x
structure cC(C:PC)(W:Wd)(σ:AS)(h:bM):Prop where
 base: ∀b o,C.pe.get? b=some o->W.im b=some o
 im: ∀b o,W.im b=some o->h.get? b=some o
 pr: ∀b o,W.pr b=some o->h.get? b=some o
 dis: ∀b o,W.pr b=some o->W.im b=none
 fresh: ∀a,σ.next<=a->W.ρ a=none
 cell: ∀a c,σ.get a=some c-> ∃p,W.ρ a=some p/\d5 C W h p c/\W.im p.2=none/\W.pr p.2=none
 inj: ∀a b ca cb p q,σ.get a=some ca->σ.get b=some cb->W.ρ a=some p->W.ρ b=some q->p.2=q.2->a=b
theorem iQ.keeps{C:PC}{W:Wd}{h h':bM}{p:aC×aC}{c:bJ}(x:iQ C W h p c)(k: ∀o,h.get? p.2=some o->h'.get? p.2=some o):iQ C W h' p c:=by
 cases c with
 |lst l=>obtain⟨a,vs,n,b,r⟩:=x;exact⟨a,vs,n,k _ b,r⟩
 |inst cc ks fs=>obtain⟨q0,a,es,n,vs,b,r⟩:=x;exact⟨q0,a,es,n,vs,k _ b,r⟩
 |dct ks fs=>obtain⟨a,q0,o,vs,b,r⟩:=x;exact⟨a,q0,o,vs,k _ b,r⟩
 |orc=>exact x
theorem d5.keeps{C:PC}{W:Wd}{h h':bM}{p:aC×aC}{c:bJ}(x:d5 C W h p c)(k: ∀o,h.get? p.2=some o->h'.get? p.2=some o):d5 C W h' p c:=by
 cases c with
 |orc kk l=>obtain⟨c,q,x⟩:=x;exact⟨c,q,x.keeps k⟩
 |_=>exact(iQ.keeps (x.to0 rfl) k).to
theorem iQ.mono{C:PC}{W W':Wd}{h:bM}{p:aC×aC}{c:bJ}(l:W.le0 W')(x:iQ C W h p c):iQ C W' h p c:=by
 cases c with
 |lst _=>obtain⟨a,vs,n,b,r⟩:=x;exact⟨a,vs,n,b,r.mono0 l⟩
 |inst cc ks fs=>obtain⟨q0,a,es,n,vs,b,r,z⟩:=x;exact⟨q0,l.2 _ _ a,es,n,vs,b,r.mono0 l,z⟩
 |dct ks fs=>obtain⟨a,q0,o,vs,b,r,z⟩:=x;exact⟨a,q0,o,vs,b,r.mono0 l,z⟩
 |orc=>exact x
theorem d5.mono0{C:PC}{W W':Wd}{h:bM}{p:aC×aC}{c:bJ}(l:W.le0 W')(x:d5 C W h p c):d5 C W' h p c:=by
 cases c with
 |orc kk ll=>obtain⟨c,q,x⟩:=x;exact⟨c,q,x.mono l⟩
 |_=>exact(iQ.mono l (x.to0 rfl)).to
theorem d5.mono{C:PC}{W W':Wd}{h:bM}{p:aC×aC}{c:bJ}(l:W.le W')(x:d5 C W h p c):d5 C W' h p c:=x.mono0 l.to0
theorem iQ.some{C:PC}{W:Wd}{h:bM}{p:aC×aC}{c:bJ}(x:iQ C W h p c): ∃o,h.get? p.2=some o:=by
 cases c with
 |lst _=>obtain⟨a,vs,n,b,r⟩:=x;exact⟨_,b⟩
 |inst cc ks fs=>obtain⟨q0,a,es,n,vs,b,r,z⟩:=x;exact⟨_,b⟩
 |dct ks fs=>obtain⟨a,q0,o,vs,b,r,z⟩:=x;exact⟨_,b⟩
 |orc=>exact x.elim
theorem d5.some{C:PC}{W:Wd}{h:bM}{p:aC×aC}{c:bJ}(x:d5 C W h p c): ∃o,h.get? p.2=some o:=by
 cases c with
 |orc kk l=>obtain⟨c,q,x⟩:=x;exact x.some
 |_=>exact(x.to0 rfl).some
section
variable{C:PC}{W:Wd}{σ:AS}{h h':bM}
theorem cC.keeps(R:cC C W σ h)(k: ∀b o,h.get? b=some o->h'.get? b=some o):cC C W σ h':=
 ⟨R.base,fun b o e=>k _ _ (R.im b o e),fun b o e=>k _ _ (R.pr b o e),R.dis,R.fresh,
  fun a c e=>let⟨p,a1,a2,a3⟩:=R.cell a c e;⟨p,a1,a2.keeps fun o q=>k _ _ q,a3⟩,R.inj⟩
theorem cC.keepsBut(R:cC C W σ h){d:aC}(hi:W.im d=none)(hp:W.pr d=none)(hc: ∀a c p,σ.get a=some c->W.ρ a=some p->p.2≠d)
  (k: ∀b o,b≠d->h.get? b=some o->h'.get? b=some o):cC C W σ h':=
 ⟨R.base,fun b o e=>k _ _ (fun q=>by rw[q,hi]at e;cases e) (R.im b o e),fun b o e=>k _ _ (fun q=>by rw[q,hp]at e;cases e) (R.pr b o e),R.dis,R.fresh,
  fun a c e=>let⟨p,a1,a2,a3⟩:=R.cell a c e;⟨p,a1,a2.keeps fun o q=>k _ _ (hc a c p e a1) q,a3⟩,R.inj⟩
theorem cC.set(R:cC C W σ h){a:Nat}{eS c:bJ}{p:aC×aC}(hg:σ.get a=some eS)(hp:W.ρ a=some p)(k: ∀b o,b≠p.2->h.get? b=some o->h'.get? b=some o)
  (hc:d5 C W h' p c):cC C W (σ.set a c) h':=by
 obtain⟨p',e,_,hi,hpr⟩:=R.cell a eS hg
 rw[hp]at e;cases e
 refine⟨R.base,fun b o e=>k _ _ (fun q=>by rw[q,hi]at e;cases e) (R.im b o e),fun b o e=>k _ _ (fun q=>by rw[q,hpr]at e;cases e) (R.pr b o e),R.dis,R.fresh,?_,?_⟩
 ·intro b cb e
  rw[AS.get_set]at e
  split at e
  ·rename_i q;subst q;rw[hg]at e;cases e;exact⟨p,hp,hc,hi,hpr⟩
  ·rename_i q
   obtain⟨p',a1,a2,a3⟩:=R.cell b cb e
   exact⟨p',a1,a2.keeps fun o z=>k _ _ (fun w=>q (R.inj _ _ _ _ _ _ e hg a1 hp w)) z,a3⟩
 ·have look: ∀b cb,(σ.set a c).get b=some cb-> ∃c',σ.get b=some c':=by
   intro b cb e
   rw[AS.get_set]at e
   split at e
   ·rename_i q;subst q;exact⟨_,hg⟩
   ·exact⟨_,e⟩
  intro x y cx cy px py ex ey
  obtain⟨_,ex⟩:=look _ _ ex
  obtain⟨_,ey⟩:=look _ _ ey
  exact R.inj x y _ _ px py ex ey
theorem cC.drop(R:cC C W σ h)(a:Nat):cC C W (σ.drop a) h:=by
 have look: ∀b cb,(σ.drop a).get b=some cb->σ.get b=some cb:=by
  intro b cb e
  rw[AS.get_drop]at e
  split at e
  ·cases e
  ·exact e
 exact⟨R.base,R.im,R.pr,R.dis,R.fresh,fun b cb e=>R.cell b cb (look _ _ e),fun x y cx cy px py ex ey=>R.inj x y cx cy px py (look _ _ ex) (look _ _ ey)⟩
noncomputable def Wd.addIm(W:Wd)(x:aC)(o:Obj):Wd:={W with im:=fun b=>if b=x then some o else W.im b}
theorem Wd.le_addIm{W:Wd}{x:aC}{o:Obj}(h: ∀o',W.im x=some o'->o'=o):W.le (W.addIm x o):=
 ⟨fun _ _ e=>e,fun b o' e=>by
  show(if b=x then some o else W.im b)=some o'
  split
  ·rename_i q;subst q;rw[h _ e]
  ·exact e,rfl⟩
theorem cC.addIm(R:cC C W σ h){x:aC}{o:Obj}(ho:h.get? x=some o)(hp:W.pr x=none)(hc: ∀a c p,σ.get a=some c->W.ρ a=some p->p.2≠x):cC C (W.addIm x o) σ h:=by
 have l:W.le (W.addIm x o):=Wd.le_addIm fun o' e=>by have:=R.im _ _ e;rw[ho]at this;exact(aH this).symm
 refine⟨fun b o' e=>l.2.1 _ _ (R.base b o' e),fun b o' e=> ?_,R.pr,fun b o' e=> ?_,R.fresh,fun a c e=> ?_,R.inj⟩
 ·by_cases q:b=x
  ·subst q
   have e:(if b=b then some o else W.im b)=some o':=e
   rw[if_pos rfl]at e;cases e;exact ho
  ·have e:(if b=x then some o else W.im b)=some o':=e
   rw[if_neg q]at e;exact R.im _ _ e
 ·show(if b=x then some o else W.im b)=none
  have e:W.pr b=some o':=e
  rw[if_neg (fun q=>by rw[q,hp]at e;cases e)];exact R.dis _ _ e
 ·obtain⟨p,a1,a2,a3,a4⟩:=R.cell a c e
  refine⟨p,a1,a2.mono l,?_,a4⟩
  show(if p.2=x then some o else W.im p.2)=none
  rw[if_neg (hc a c p e a1)];exact a3
theorem cC.freeze(R:cC C W σ h){a:Nat}{c:bJ}{p:aC×aC}{o:Obj}(hg:σ.get a=some c)(hp:W.ρ a=some p)(ho:h.get? p.2=some o):cC C (W.addIm p.2 o) (σ.drop a) h:=by
 refine(R.drop a).addIm ho ?_ ?_
 ·obtain⟨q,e,_,_,x⟩:=R.cell a c hg
  rw[hp]at e;cases e;exact x
 ·intro b cb q e e' z
  rw[AS.get_drop]at e
  split at e
  ·cases e
  ·rename_i n;exact n (R.inj _ _ _ _ _ _ e hg e' hp z)
noncomputable def Wd.addId(W:Wd)(a:Nat)(p:aC×aC):Wd:={W with ρ:=fun b=>if b=a then some p else W.ρ b}
theorem Wd.le_addId{W:Wd}{a:Nat}{p:aC×aC}(h:W.ρ a=none):W.le (W.addId a p):=
 ⟨fun b q e=>by
  show(if b=a then some p else W.ρ b)=some q
  split
  ·rename_i z;subst z;rw[h]at e;cases e
  ·exact e,fun _ _ e=>e,rfl⟩
theorem cC.alloc(R:cC C W σ h){c:bJ}{p:aC×aC}(hc:d5 C (W.addId σ.next p) h p c)(hi:W.im p.2=none)(hpr:W.pr p.2=none)(hn: ∀a c q,σ.get a=some c->W.ρ a=some q->q.2≠p.2):
  cC C (W.addId σ.next p) (σ.alloc c) h:=by
 have l:W.le (W.addId σ.next p):=Wd.le_addId (R.fresh _ (ax _))
 have old: ∀b cb,σ.get b=some cb->b≠σ.next:=fun b cb e q=>by
  obtain⟨p',z,_⟩:=R.cell b cb e
  rw[q,R.fresh _ (ax _)]at z;cases z
 have at_: ∀b,b≠σ.next->(W.addId σ.next p).ρ b=W.ρ b:=fun b q=>if_neg q
 have at0:(W.addId σ.next p).ρ σ.next=some p:=if_pos rfl
 refine⟨R.base,R.im,R.pr,R.dis,fun b hb=> ?_,fun b cb e=> ?_,fun x y cx cy px py ex ey hx hy z=> ?_⟩
 ·have hb:σ.next+1<=b:=hb
  rw[at_ _ (by omega)];exact R.fresh _ (by omega)
 ·rw[AS.get_alloc]at e
  split at e
  ·rename_i q;subst q;cases e;exact⟨p,at0,hc,hi,hpr⟩
  ·rename_i q
   obtain⟨p',a1,a2,a3⟩:=R.cell b cb e
   exact⟨p',(at_ _ q).trans a1,a2.mono l,a3⟩
 ·rw[AS.get_alloc]at ex ey
  split at ex<;>split at ey
  ·rename_i q q';rw[q,q']
  ·rename_i q q';subst q;rw[at0]at hx;cases hx;rw[at_ _ q']at hy;exact absurd z.symm (hn _ _ _ ey hy)
  ·rename_i q q';subst q';rw[at0]at hy;cases hy;rw[at_ _ q]at hx;exact absurd z (hn _ _ _ ex hx)
  ·rename_i q q';rw[at_ _ q]at hx;rw[at_ _ q']at hy;exact R.inj x y _ _ _ _ ex ey hx hy z
theorem cC.lt(R:cC C W σ h){a:Nat}{c:bJ}{p:aC×aC}(hg:σ.get a=some c)(hp:W.ρ a=some p):p.2<h.objs.size:=by
 obtain⟨q,e,x,_⟩:=R.cell a c hg
 rw[hp]at e;cases e
 obtain⟨o,ho⟩:=x.some
 exact cv ho
theorem cC.im_new(R:cC C W σ h){x:aC}(hx:h.objs.size<=x):W.im x=none:=by
 cases e:W.im x with
 |none=>rfl
 |some o=>exact absurd (cv (R.im _ _ e)) (ci.mpr hx)
theorem cC.pr_new(R:cC C W σ h){x:aC}(hx:h.objs.size<=x):W.pr x=none:=by
 cases e:W.pr x with
 |none=>rfl
 |some o=>exact absurd (cv (R.pr _ _ e)) (ci.mpr hx)
theorem cC.cell_new(R:cC C W σ h){x:aC}(hx:h.objs.size<=x): ∀a c p,σ.get a=some c->W.ρ a=some p->p.2≠x:=fun _ _ _ e e' q=>
 absurd (R.lt e e') (ci.mpr (q▸hx))
theorem cC.sys(R:cC C W σ h):sysModules<h.objs.size:=let⟨_,e⟩:=C.sys;cv (R.im _ _ (R.base _ _ e))
theorem eA(h:bM)(o:Obj): ∀b o',h.get? b=some o'->(h.push o).get? b=some o':=fun _ _ e=>bH _ e
theorem cC.pushIm(R:cC C W σ h){o:Obj}(hf:o.isFreed=false):W.le (W.addIm h.objs.size o)/\cC C (W.addIm h.objs.size o) σ (h.push o):=
 ⟨Wd.le_addIm (fun o' e=>by have z:=R.im_new (x:=h.objs.size) (ax _);rw[z]at e;cases e),
  (R.keeps (eA h o)).addIm (bp _ hf) (R.pr_new (ax _)) (R.cell_new (ax _))⟩
end
structure eN(A:b5)(k:Nat):Prop where
 handled:A.handled=none
 depth:A.depth+k<recursionLimit
 units:A.units+4*k<cLine
theorem eN.le{A:b5}{k k':Nat}(R:eN A k)(h:k'<=k):eN A k':=⟨R.handled,by have:=R.depth;omega,by have:=R.units;omega⟩
theorem eN.in1{A:b5}{k:Nat}(R:eN A (k+1)):eN A.in1 k:=⟨R.handled,by have:=R.depth;show A.depth+k<_;omega,by have:=R.units;show A.units+1+4*k<_;omega⟩
theorem eN.deeper{A:b5}{k:Nat}(R:eN A (k+1))(env:Env):eN (A.deeper env) k:=⟨R.handled,by have:=R.depth;show A.depth+1+k<_;omega,by have:=R.units;show A.units+3+4*k<_;omega⟩
theorem eN.d0{A:b5}{k:Nat}(R:eN A k):A.depth<recursionLimit:=by have:=R.depth;omega
abbrev dH(C:PC):lc:=model C.prog C.w
def dw:ah->az->Prop:=fun _ _=>False
def Sm(s s':az):Prop:= ∃h t,s'={s with heap:=h,toks:=t}/\s.toks<=t
theorem Sm.refl(s:az):Sm s s:=⟨s.heap,s.toks,rfl,ax _⟩
theorem Sm.trans{s s' s'':az}:Sm s s'->Sm s' s''->Sm s s''
 |⟨_,_,e,l⟩,⟨h,t,e',l'⟩=>⟨h,t,by rw[e',e],by subst e;exact au l l'⟩
theorem Sm.mk'{nq s:az}(x:Sm nq s)(h:bM)(t:Nat)(ht:s.toks<=t):Sm nq {s with heap:=h,toks:=t}:=x.trans ⟨h,t,rfl,ht⟩
theorem Sm.le{s s':az}:Sm s s'->s.toks<=s'.toks
 |⟨_,_,e,l⟩=>by subst e;exact l
def Sn(nq s:az):Prop:=1<=nq.toks/\Sm nq s
theorem Sn.trans{s s' s'':az}(x:Sn s s')(y:Sm s' s''):Sn s s'':=⟨x.1,x.2.trans y⟩
theorem Sn.mk'{nq s:az}(x:Sn nq s)(h:bM)(t:Nat)(ht:s.toks<=t):Sn nq {s with heap:=h,toks:=t}:=⟨x.1,x.2.mk' h t ht⟩
theorem Sn.pos{nq s:az}(x:Sn nq s):1<=s.toks:=au x.1 x.2.le
abbrev Fm:=List AV
structure FX where
 C:PC
 env:Env
 names:Nat->Option Str
 own:List aC
 nq:az
def jc(X:FX)(h:bM)(m:Str->Option ah)(x:Str)(v:ah):Prop:=
 match X.env.kindOf x with
 |some .local=>m x=some v
 |some .cell |some .free=> ∃c,X.env.cells.lookup x=some c/\h.IsCell c (some v)
 |_=>False
structure ve(X:FX):Prop where
 kind:X.env.scope.kind= .function
 glob:X.env.globals=mainGlobals
 blt:X.env.builtins=builtinsNs
 loc:X.env.locals∈X.own
 apart:X.env.cells.Pairwise fun x y=>x.2≠y.2
 notL: ∀n c,X.env.cells.lookup n=some c->c≠X.env.locals
 plain: ∀(i:Nat) x,X.names i=some x->(x==("__debug__":Str)||x==("__classdict__":Str))=false
def FX.Has(X:FX)(c:aC):Prop:=c=X.env.locals\/(∃n,X.env.cells.lookup n=some c)\/c∈X.own
def sZ(W:Wd)(σ:AS)(c:aC):Prop:= ∀a cc p,σ.get a=some cc->W.ρ a=some p->p.2≠c
structure pQ(X:FX)(W:Wd)(fr:Fm)(σ:AS)(h:bM):Prop where
 vars: ∃m,h.Ns X.env.locals m/\ ∀(i:Nat) a,fr[i]? =some a->a= .unb\/ ∀x,X.names i=some x-> ∃v,jc X h m x v/\V X.C W a v
 cells: ∀n c,X.env.cells.lookup n=some c-> ∃v,h.IsCell c v
 apart: ∀c,X.Has c->sZ W σ c
 sep: ∀c,X.Has c->W.im c=none
 own: ∀c∈X.own,W.pr c=none
 live: ∀c,X.Has c-> ∃o,h.get? c=some o
structure St(X:FX)(W:Wd)(fr:Fm)(σ:AS)(s:az):Prop where
 rel:cC X.C W σ s.heap
 fr:pQ X W fr σ s.heap
 sm:Sn X.nq s
def fQ(X:FX)(W:Wd)(fr:Fm)(a:AV)(σ:AS)(v:ah)(s:az):Prop:= ∃W',W.le W'/\St X W' fr σ s/\V X.C W' a v
def Ko(X:FX)(W:Wd)(fr:Fm)(l:aa)(σ:AS)(vs:List ah)(s:az):Prop:= ∃W',W.le W'/\St X W' fr σ s/\VL X.C W' l vs
def o0(X:FX)(W:Wd)(fr:Fm)(b:Bool)(σ:AS)(b':Bool)(s:az):Prop:=b'=b/\ ∃W',W.le W'/\St X W' fr σ s
def yZ(X:FX)(W:Wd)(fr:Fm)(σ:AS)(s:az):Prop:= ∃W',W.le W'/\St X W' fr σ s
abbrev EM:=Fm->AS->Option (AV×AS)
abbrev LM:=Fm->AS->Option (List AV×AS)
abbrev BM:=Fm->AS->Option (Bool×AS)
inductive j9 where
 |next(fr:Fm)(σ:AS)
 |brk(fr:Fm)(σ:AS)
 |cont(fr:Fm)(σ:AS)
 |ret(a:AV)(σ:AS)
abbrev SM:=Fm->AS->Option j9
abbrev aW:=List AV->AS->Option (AV×AS)
def b6(X:FX)(k:Nat)(m:EM)(e:an):Prop:=
 ∀A,eN A k-> ∀W fr σ s,St X W fr σ s-> ∀a ai,m fr σ=some (a,ai)->wpAny (dH X.C) A (eval e X.env) (fQ X W fr a ai) dw s
def Ac(X:FX)(k:Nat)(m:LM)(es:List an):Prop:=
 ∀A,eN A k-> ∀W fr σ s,St X W fr σ s-> ∀l ai,m fr σ=some (l,ai)-> ∀pos,wpAny (dH X.C) A (spliced (backTo pos (starEach es X.env))) (Ko X W fr l ai) dw s
def nh(X:FX)(k:Nat)(m:BM)(e:an):Prop:=
 ∀A,eN A k-> ∀W fr σ s,St X W fr σ s-> ∀b ai,m fr σ=some (b,ai)->wpAny (dH X.C) A (isTrue e X.env (eval e X.env)) (o0 X W fr b ai) dw s
def Ca(X:FX)(W:Wd)(r:j9)(f:NZ)(s:az):Prop:=match r with
 | .next fr σ=>f= .next/\yZ X W fr σ s
 | .brk fr σ=>f= .brk/\yZ X W fr σ s
 | .cont fr σ=>f= .cont/\yZ X W fr σ s
 | .ret a σ=> ∃v fr,f= .ret v/\fQ X W fr a σ v s
def lJ(X:FX)(k:Nat)(m:SM)(st:bV):Prop:=
 ∀A,eN A k-> ∀W fr σ s,St X W fr σ s-> ∀r,m fr σ=some r->wpAny (dH X.C) A (exec st X.env) (Ca X W r) dw s
def mQ(X:FX)(k:Nat)(m:SM)(sts:List bV):Prop:=
 ∀A,eN A k-> ∀W fr σ s,St X W fr σ s-> ∀r,m fr σ=some r->wpAny (dH X.C) A (execs sts X.env) (Ca X W r) dw s
def aF(C:PC)(k:Nat)(f:ah)(F:aW):Prop:=
 ∀A,eN A k-> ∀W σ s args vs,cC C W σ s.heap->VL C W args vs->1<=s.toks-> ∀a ai,F args σ=some (a,ai)->
  wpAny (dH C) A (call f vs) (fun v s'=>Sm s s'/\ ∃W',W.le W'/\cC C W' ai s'.heap/\V C W' a v) dw s
section
variable{X:FX}{k:Nat}{W W':Wd}{fr:Fm}{σ ai:AS}{s s':az}{h h':bM}
theorem fQ.le{a:AV}{v:ah}(l:W.le W')(p:fQ X W' fr a σ v s):fQ X W fr a σ v s:=let⟨W'',a,b⟩:=p;⟨W'',l.trans a,b⟩
theorem Ko.le{a:aa}{v:List ah}(l:W.le W')(p:Ko X W' fr a σ v s):Ko X W fr a σ v s:=let⟨W'',a,b⟩:=p;⟨W'',l.trans a,b⟩
theorem o0.le{a b:Bool}(l:W.le W')(p:o0 X W' fr a σ b s):o0 X W fr a σ b s:=let⟨e,W'',a,b⟩:=p;⟨e,W'',l.trans a,b⟩
theorem yZ.le(l:W.le W')(p:yZ X W' fr σ s):yZ X W fr σ s:=let⟨W'',a,b⟩:=p;⟨W'',l.trans a,b⟩
theorem Ca.le{r:j9}{f:NZ}(l:W.le W')(p:Ca X W' r f s):Ca X W r f s:=by
 cases r with
 |next fr σ=>exact⟨p.1,p.2.le l⟩
 |brk fr σ=>exact⟨p.1,p.2.le l⟩
 |cont fr σ=>exact⟨p.1,p.2.le l⟩
 |ret a σ=>obtain⟨v,fr,e,q⟩:=p;exact⟨v,fr,e,q.le l⟩
theorem jc.keeps{m:Str->Option ah}{x:Str}{v:ah}(q:jc X h m x v)(k: ∀c n w,X.env.cells.lookup n=some c->h.IsCell c w->h'.IsCell c w):jc X h' m x v:=by
 unfold jc at q ⊢
 split
 ·simp_all
 ·simp_all;obtain⟨c,a,b⟩:=q;exact⟨c,a,k c _ _ a b⟩
 ·simp_all;obtain⟨c,a,b⟩:=q;exact⟨c,a,k c _ _ a b⟩
 ·simp_all
theorem pQ.keeps(F:pQ X W fr σ h)(hk: ∀b o,h.get? b=some o->h'.get? b=some o):pQ X W fr σ h':=by
 obtain⟨⟨m,a,b⟩,c,d,xM,d',Cz⟩:=F
 exact⟨⟨m,a.keeps hk,fun i x e=>(b i x e).imp id fun f y p=>let⟨v,q,r⟩:=f y p;⟨v,q.keeps fun c n w _ z=>z.keeps hk,r⟩⟩,fun n c' e=>let⟨v,z⟩:=c n c' e;⟨v,z.keeps hk⟩,d,xM,d',
  fun c hc=>let⟨o,e⟩:=Cz c hc;⟨o,hk _ _ e⟩⟩
theorem St.keeps(T:St X W fr σ s)(hk: ∀b o,s.heap.get? b=some o->h'.get? b=some o)(t:Nat)(ht:s.toks<=t:=by first|exact ax _|exact cR _|omega):St X W fr σ {s with heap:=h',toks:=t}:=
 ⟨T.rel.keeps hk,T.fr.keeps hk,T.sm.mk' _ _ ht⟩
theorem St.toks(T:St X W fr σ s)(t:Nat)(ht:s.toks<=t:=by first|exact ax _|exact cR _|omega):St X W fr σ {s with toks:=t}:=T.keeps (h':=s.heap) (fun _ _ e=>e) t ht
theorem St.post(T:St X W fr σ s){a:AV}{v:ah}(q:V X.C W a v):fQ X W fr a σ v s:=⟨W,.refl W,T,q⟩
theorem St.postU(T:St X W fr σ s):yZ X W fr σ s:=⟨W,.refl W,T⟩
theorem St.postB(T:St X W fr σ s)(b:Bool):o0 X W fr b σ b s:=⟨rfl,W,.refl W,T⟩
theorem pQ.turn(F:pQ X W fr σ h)(l:W.le W')(hn: ∀b o,W.im b=none->W'.im b=some o-> ¬X.Has b)
  (hc: ∀c,X.Has c->sZ W' ai c)(hk: ∀c,X.Has c-> ∀o,h.get? c=some o->h'.get? c=some o):pQ X W' fr ai h':=by
 obtain⟨⟨m,a,b⟩,c,d,xM,d',Cz⟩:=F
 have kc: ∀c n w,X.env.cells.lookup n=some c->h.IsCell c w->h'.IsCell c w:=fun c n w e ⟨o,p,q⟩=>⟨o,hk _ (.inr (.inl ⟨n,e⟩)) _ p,q⟩
 refine⟨⟨m,?_,fun i x e=>(b i x e).imp id fun f y p=>let⟨v,q,r⟩:=f y p;⟨v,q.keeps kc,r.mono l⟩⟩,fun n c' e=>let⟨v,z⟩:=c n c' e;⟨v,kc _ _ _ e z⟩,hc,fun c hcm=> ?_,fun c hcm=>by rw[l.2.2];exact d' c hcm,
  fun c hc=>let⟨o,e⟩:=Cz c hc;⟨o,hk _ hc _ e⟩⟩
 ·obtain⟨o,es,ep,e,r⟩:=a;exact⟨o,es,ep,hk _ (.inl rfl) _ e,r⟩
 ·cases e:W'.im c with
  |none=>rfl
  |some o=>exact absurd hcm (hn _ _ (xM c hcm) e)
theorem pQ.lt(F:pQ X W fr σ h){c:aC}(hc:X.Has c):c<h.objs.size:=let⟨_,e⟩:=F.live c hc;cv e
theorem pQ.grow(F:pQ X W fr σ h)(l:W.le W')(hn: ∀b o,W.im b=none->W'.im b=some o->h.objs.size<=b)
  (hc: ∀a cc p,ai.get a=some cc->W'.ρ a=some p->(∃c,σ.get a=some c/\W.ρ a=some p)\/h.objs.size<=p.2)
  (hk: ∀b o,h.get? b=some o->h'.get? b=some o):pQ X W' fr ai h':=
 F.turn l (fun b o e e' hb=>absurd (F.lt hb) (ci.mpr (hn b o e e'))) (fun c hb a cc p e e' q=>by
  rcases hc a cc p e e' with⟨c',e1,e2⟩|z
  ·exact F.apart _ hb a c' p e1 e2 q
  ·exact absurd (F.lt hb) (ci.mpr (q▸z))) fun c _ o e=>hk _ _ e
theorem St.pushIm(T:St X W fr σ s){o:Obj}(hf:o.isFreed=false)(t:Nat)(ht:s.toks<=t:=by first|exact ax _|exact cR _|omega):
  W.le (W.addIm s.heap.objs.size o)/\St X (W.addIm s.heap.objs.size o) fr σ {s with heap:=s.heap.push o,toks:=t}:=by
 obtain⟨l,R⟩:=T.rel.pushIm hf
 refine⟨l,R,T.fr.grow l (fun b o' e e'=> ?_) (fun a cc p e e'=>.inl ⟨cc,e,e'⟩) (eA _ _),T.sm.mk' _ _ ht⟩
 have e':(if b=s.heap.objs.size then some o else W.im b)=some o':=e'
 split at e'
 ·rename_i q;exact eH q.symm
 ·rw[e]at e';cases e'
theorem St.pushLst(T:St X W fr σ s){l:aa}{vs:List ah}(q:VL X.C W l vs)(t:Nat)(ht:s.toks<=t:=by first|exact ax _|exact cR _|omega):
  W.le (W.addId σ.next (s.heap.objs.size,s.heap.objs.size))/\St X (W.addId σ.next (s.heap.objs.size,s.heap.objs.size)) fr (σ.alloc (.lst l)) {s with heap:=s.heap.push (dy vs 0),toks:=t}:=by
 have le:W.le (W.addId σ.next (s.heap.objs.size,s.heap.objs.size)):=Wd.le_addId (T.rel.fresh _ (ax _))
 refine⟨le,(T.rel.keeps (eA _ _)).alloc ⟨rfl,vs,0,bp _ rfl,q.mono le⟩ (T.rel.im_new (ax _)) (T.rel.pr_new (ax _)) (T.rel.cell_new (ax _)),
  T.fr.grow le (fun b o e e'=>by rw[show W.im b=some o from e']at e;cases e) (fun a cc p e e'=> ?_) (eA _ _),T.sm.mk' _ _ ht⟩
 rw[AS.get_alloc]at e
 by_cases z:a=σ.next
 ·subst z
  have e':(if σ.next=σ.next then some (s.heap.objs.size,s.heap.objs.size)else W.ρ σ.next)=some p:=e'
  rw[if_pos rfl]at e';cases e';exact .inr (ax _)
 ·rw[if_neg z]at e
  have e':(if a=σ.next then some (s.heap.objs.size,s.heap.objs.size)else W.ρ a)=some p:=e'
  rw[if_neg z]at e';exact .inl ⟨cc,e,e'⟩
theorem St.pushDct(T:St X W fr σ s)(t:Nat)(ht:s.toks<=t:=by first|exact ax _|exact cR _|omega):
  W.le (W.addId σ.next (s.heap.objs.size,s.heap.objs.size))/\St X (W.addId σ.next (s.heap.objs.size,s.heap.objs.size)) fr (σ.alloc (.dct [] [])) {s with heap:=s.heap.push (dictOf [] 0),toks:=t}:=by
 have le:W.le (W.addId σ.next (s.heap.objs.size,s.heap.objs.size)):=Wd.le_addId (T.rel.fresh _ (ax _))
 refine⟨le,(T.rel.keeps (eA _ _)).alloc ⟨rfl,by simpa using oN T.rel.sys,_,[],bp _ rfl,VL.nil,rfl,#[],0,⟨rfl,rfl,rfl⟩,rfl,fun _ he=>by simp at he,We,by simp⟩ (T.rel.im_new (ax _)) (T.rel.pr_new (ax _)) (T.rel.cell_new (ax _)),
  T.fr.grow le (fun b o e e'=>by rw[show W.im b=some o from e']at e;cases e) (fun a cc p e e'=> ?_) (eA _ _),T.sm.mk' _ _ ht⟩
 rw[AS.get_alloc]at e
 by_cases z:a=σ.next
 ·subst z
  have e':(if σ.next=σ.next then some (s.heap.objs.size,s.heap.objs.size)else W.ρ σ.next)=some p:=e'
  rw[if_pos rfl]at e';cases e';exact .inr (ax _)
 ·rw[if_neg z]at e
  have e':(if a=σ.next then some (s.heap.objs.size,s.heap.objs.size)else W.ρ a)=some p:=e'
  rw[if_neg z]at e';exact .inl ⟨cc,e,e'⟩
theorem rb{C:PC}{n:Nat}{p:aC×aC}:V C (W.addId n p) (.ref n) (.ref p.1):=⟨p,if_pos rfl,rfl⟩
theorem kP{x:aC}{o:Obj}:(W.addIm x o).im x=some o:=if_pos rfl
theorem St.set(T:St X W fr σ s){a:Nat}{eS c:bJ}{p:aC×aC}(hg:σ.get a=some eS)(hp:W.ρ a=some p)(hs:i7 p.2 s.heap h')(hc:d5 X.C W h' p c)(t:Nat)(ht:s.toks<=t:=by first|exact ax _|exact cR _|omega):
  St X W fr (σ.set a c) {s with heap:=h',toks:=t}:=by
 refine⟨T.rel.set hg hp (fun b o hb e=>hs.extBut b o hb e) hc,T.fr.turn (.refl _) (fun b o e e'=>by rw[e]at e';cases e') (fun d hd b cb q e e'=> ?_) (fun b hb o e=> ?_),T.sm.mk' _ _ ht⟩
 ·rw[AS.get_set]at e
  by_cases z:b=a
  ·subst z;exact T.fr.apart _ hd b eS q hg e'
  ·rw[if_neg z]at e;exact T.fr.apart _ hd b cb q e e'
 ·exact hs.extBut b o (fun q=>T.fr.apart _ hb a eS p hg hp q.symm) e
theorem St.drop(T:St X W fr σ s)(a:Nat):St X W fr (σ.drop a) s:=by
 refine⟨T.rel.drop a,T.fr.turn (.refl _) (fun b o e e'=>by rw[e]at e';cases e') (fun d hd b cb q e e'=> ?_) (fun b _ o e=>e),T.sm⟩
 rw[AS.get_drop]at e
 by_cases z:b=a
 ·rw[if_pos z]at e;cases e
 ·rw[if_neg z]at e;exact T.fr.apart _ hd b cb q e e'
end
def ob{α β:Type}(o:Option α)(f:α->Option β):Option β:=bo (motive:=fun _=>Option β) none f o
def bD{α γ β:Type}(o:Option (α×γ))(f:α->γ->Option β):Option β:=bo (motive:=fun _=>Option β) none (fun p=>N9 (motive:=fun _=>Option β) f p) o
def od{α β:Type}(o:Option α)(f:α->Option β)(g:Option β):Option β:=bo (motive:=fun _=>Option β) g f o
theorem oE{α β:Type}{o:Option α}{f:α->Option β}{r:β}{P:Prop}(h:ob o f=some r)(k: ∀a,o=some a->f a=some r->P):P:=by
 cases o with
 |none=>exact nn h
 |some a=>exact k a rfl h
theorem fS{α γ β:Type}{o:Option (α×γ)}{f:α->γ->Option β}{r:β}{P:Prop}(h:bD o f=some r)(k: ∀a b,o=some (a,b)->f a b=some r->P):P:=by
 cases o with
 |none=>exact nn h
 |some p=>exact k p.1 p.2 rfl h
theorem odE{α β:Type}{o:Option α}{f:α->Option β}{g:Option β}{r:β}{P:Prop}(h:od o f g=some r)(k: ∀a,o=some a->f a=some r->P)(k':g=some r->P):P:=by
 cases o with
 |none=>exact k' h
 |some a=>exact k a rfl h
theorem bE{β:Type}{c:Bool}{x y:Option β}{r:β}{P:Prop}(h:(bif c then x else y)=some r)(k:c=true->x=some r->P)(k':c=false->y=some r->P):P:=by
 cases c with
 |true=>exact k rfl h
 |false=>exact k' rfl h
noncomputable def eW{β:Type}(a:AV)(f:Int->Option β):Option β:=match a with
 | .int i=>f i
 |_=>none
noncomputable def eo{β:Type}(a:AV)(f:List Nat->Option β):Option β:=match a with
 | .str s=>f s
 |_=>none
noncomputable def G5{β:Type}(a:AV)(f:List AV->Option β):Option β:=match a with
 | .tup s=>f s
 |_=>none
noncomputable def io{β:Type}(a:AV)(f:Nat->Option β):Option β:=match a with
 | .ref s=>f s
 |_=>none
noncomputable def s9{β:Type}(a:AV)(f:Option β):Option β:=match a with
 | .none=>f
 |_=>none
def nR{β:Type}(a:AV)(f:Nat->Option β):Option β:=match a with
 | .int i=>Int.rec (motive:=fun _=>Option β) f (fun _=>none) i
 |_=>none
def np{β:Type}(σ:AS)(x:Nat)(f:List AV->Option β):Option β:=ob (σ.get x) fun c=>match c with
 | .lst l=>f l
 |_=>none
def CH{β:Type}(σ:AS)(x:Nat)(f:Nat->List Nat->List AV->Option β):Option β:=ob (σ.get x) fun c=>match c with
 | .inst c ks vs=>f c ks vs
 |_=>none
def SP{β:Type}(σ:AS)(x:Nat)(f:List (List Nat)->List AV->Option β):Option β:=ob (σ.get x) fun c=>match c with
 | .dct ks vs=>f ks vs
 |_=>none
section
variable{β:Type}{r:β}{P:Prop}{a:AV}{σ:AS}{x:Nat}
theorem lstE{f:List AV->Option β}(h:np σ x f=some r)(k: ∀l,σ.get x=some (.lst l)->f l=some r->P):P:=oE h fun c hc h=>by
 cases c with
 |lst l=>exact k l hc h
 |_=>exact nn h
theorem instE{f:Nat->List Nat->List AV->Option β}(h:CH σ x f=some r)(k: ∀c ks vs,σ.get x=some (.inst c ks vs)->f c ks vs=some r->P):P:=oE h fun c hc h=>by
 cases c with
 |inst c ks vs=>exact k c ks vs hc h
 |_=>exact nn h
theorem dctE{f:List (List Nat)->List AV->Option β}(h:SP σ x f=some r)(k: ∀ks vs,σ.get x=some (.dct ks vs)->f ks vs=some r->P):P:=oE h fun c hc h=>by
 cases c with
 |dct ks vs=>exact k ks vs hc h
 |_=>exact nn h
@[elab_as_elim] theorem lq {Q:AV->Prop} {f:Int->Option β} (h:eW a f=some r) (k: ∀i,f i=some r->Q (.int i)):Q a:=by
 cases a<;>first|exact nn h|exact k _ h
@[elab_as_elim] theorem fU {Q:AV->Prop} {f:List Nat->Option β} (h:eo a f=some r) (k: ∀i,f i=some r->Q (.str i)):Q a:=by
 cases a<;>first|exact nn h|exact k _ h
@[elab_as_elim] theorem ND {Q:AV->Prop} {f:List AV->Option β} (h:G5 a f=some r) (k: ∀i,f i=some r->Q (.tup i)):Q a:=by
 cases a<;>first|exact nn h|exact k _ h
@[elab_as_elim] theorem iA {Q:AV->Prop} {f:Nat->Option β} (h:io a f=some r) (k: ∀i,f i=some r->Q (.ref i)):Q a:=by
 cases a<;>first|exact nn h|exact k _ h
@[elab_as_elim] theorem Cp {Q:AV->Prop} {f:Option β} (h:s9 a f=some r) (k:f=some r->Q .none):Q a:=by
 cases a<;>first|exact nn h|exact k h
@[elab_as_elim] theorem ml {Q:AV->Prop} {f:Nat->Option β} (h:nR a f=some r) (k: ∀i,f i=some r->Q (.int (.ofNat i))):Q a:=by
 cases a with
 |int i=>cases i with
  |ofNat n=>exact k _ h
  |negSucc n=>exact nn h
 |_=>exact nn h
variable{C:PC}{W:Wd}{v:ah}{Q:ah->Prop}
@[elab_as_elim] theorem V.intE {i:Int} (h:V C W (.int i) v) (k: ∀t,Q (.int i t)):Q v:=by obtain⟨t,rfl⟩:=h;exact k t
@[elab_as_elim] theorem V.strE {i:ac} (h:V C W (.str i) v) (k: ∀t,Q (.str (aO i) t)):Q v:=by obtain⟨t,rfl⟩:=h;exact k t
@[elab_as_elim] theorem V.bytesE {i:List UInt8} (h:V C W (.bytes i) v) (k: ∀t,Q (.bytes i.toArray t)):Q v:=by obtain⟨t,rfl⟩:=h;exact k t
@[elab_as_elim] theorem V.tupE {l:aa} (h:V C W (.tup l) v) (k: ∀x n vs,W.im x=some (tq vs n)->VL C W l vs->Q (.ref x)):Q v:=by obtain⟨x,n,vs,rfl,q,z⟩:=h;exact k x n vs q z
@[elab_as_elim] theorem V.lstE {l:aa} (h:V C W (.lst l) v) (k: ∀x n vs,W.im x=some (dy vs n)->VL C W l vs->Q (.ref x)):Q v:=by obtain⟨x,n,vs,rfl,q,z⟩:=h;exact k x n vs q z
@[elab_as_elim] theorem V.dctE {ks:List (List Nat)} {fs:aa} (h:V C W (.dct ks fs) v) (k: ∀x o vs,(x==sysModules)=false->W.im x=some o->VL C W fs vs->Ej C ks vs o->Q (.ref x)):Q v:=by obtain⟨x,o,vs,rfl,q1,q2,q3,q4⟩:=h;exact k x o vs q1 q2 q3 q4
@[elab_as_elim] theorem V.dctiE {ks:List Int} {fs:aa} (h:V C W (.dcti ks fs) v) (k: ∀x o vs,(x==sysModules)=false->W.im x=some o->VL C W fs vs->aby C ks vs o->Q (.ref x)):Q v:=by obtain⟨x,o,vs,rfl,q1,q2,q3,q4⟩:=h;exact k x o vs q1 q2 q3 q4
@[elab_as_elim] theorem V.frzE {c:Nat} {ks:ac} {fs:aa} (h:V C W (.frz c ks fs) v) (k: ∀x d es n vs,C.cls c=true->W.im x=some (instObj c d)->W.im d=some (dictOf es n)->VL C W fs vs->oV C ks vs es->Q (.ref x)):Q v:=by obtain⟨x,d,es,n,vs,rfl,q1,q2,q3,q4,q5⟩:=h;exact k x d es n vs q1 q2 q3 q4 q5
@[elab_as_elim] theorem V.rngE {a b:Nat} (h:V C W (.rng a b) v) (k: ∀x t u w,W.im x=some {cls:=.type "range",dict:=none,data:=.fields #[.int a t,.int b u,.int 1 w],slots:= #[]}->a<2^20->b<2^20->Q (.ref x)):Q v:=by obtain⟨x,t,u,w,rfl,q1,q2,q3⟩:=h;exact k x t u w q1 q2 q3
@[elab_as_elim] theorem V.refE {a:Nat} (h:V C W (.ref a) v) (k: ∀p,W.ρ a=some p->Q (.ref p.1)):Q v:=by obtain⟨p,e,rfl⟩:=h;exact k p e
@[elab_as_elim] theorem V.noneE (h:V C W .none v) (k:Q .none):Q v:=(show v= .none from h)▸k
@[elab_as_elim] theorem V.boolE {b:Bool} (h:V C W (.bool b) v) (k:Q (.bool b)):Q v:=(show v= .bool b from h)▸k
@[elab_as_elim] theorem VL.consE {a:AV} {l:aa} {vs:List ah} {Q:List ah->Prop} (h:VL C W (a::l) vs) (k: ∀v r,V C W a v->VL C W l r->Q (v::r)):Q vs:=by obtain⟨v,r,rfl,q,z⟩:=h;exact k v r q z
@[elab_as_elim] theorem VL.nilE {vs:List ah} {Q:List ah->Prop} (h:VL C W [] vs) (k:Q []):Q vs:=(show vs=[] from h)▸k
@[elab_as_elim] theorem cC.lstE {h:bM} (R:cC C W σ h) {l:aa} (hg:σ.get x=some (.lst l)) (hv:V C W (.ref x) v) (k: ∀p vs n,W.ρ x=some p->p.1=p.2->h.get? p.1=some (dy vs n)->VL C W l vs->Q (.ref p.1)):Q v:=by
 obtain⟨p,q,rfl⟩:=hv
 obtain⟨p',e',⟨z,vs,n,g,r⟩,_⟩:=R.cell _ _ hg
 rw[q]at e';cases e'
 exact k p vs n q z (z▸g) r
@[elab_as_elim] theorem cC.instE {h:bM} (R:cC C W σ h) {c:Nat} {ks:ac} {fs:aa} (hg:σ.get x=some (.inst c ks fs)) (hv:V C W (.ref x) v) (k: ∀p es n vs,W.ρ x=some p->C.cls c=true->W.im p.1=some (instObj c p.2)->h.get? p.2=some (dictOf es n)->VL C W fs vs->oV C ks vs es->Q (.ref p.1)):Q v:=by
 obtain⟨p,q,rfl⟩:=hv
 obtain⟨p',e',⟨q0,q1,es,n,vs,q2,r,z⟩,_⟩:=R.cell _ _ hg
 rw[q]at e';cases e'
 exact k p es n vs q q0 q1 q2 r z
@[elab_as_elim] theorem cC.dctE {h:bM} (R:cC C W σ h) {ks:List (List Nat)} {fs:aa} (hg:σ.get x=some (.dct ks fs)) (hv:V C W (.ref x) v) (k: ∀p o vs,W.ρ x=some p->p.1=p.2->(p.1==sysModules)=false->h.get? p.1=some o->VL C W fs vs->Ej C ks vs o->Q (.ref p.1)):Q v:=by
 obtain⟨p,q,rfl⟩:=hv
 obtain⟨p',e',⟨z,q0,o,vs,g,r,z1⟩,_⟩:=R.cell _ _ hg
 rw[q]at e';cases e'
 exact k p o vs q z (z▸q0) (z▸g) r z1
end
def gt(l:aa)(i:Nat):AV:=bu (motive:=fun _=>Nat->AV) (fun _=>.unb) (fun a _ ih i=>hH (motive:=fun _=>AV) a (fun j _=>ih j) i) l i
noncomputable def pad(i:Nat)(v:AV):List AV:=hH (motive:=fun _=>List AV) [v] (fun _ ih=>.unb::ih) i
def put(l:aa)(i:Nat)(v:AV):List AV:=bu (motive:=fun _=>Nat->List AV) (fun i=>pad i v) (fun a r ih i=>hH (motive:=fun _=>List AV) (v::r) (fun j _=>a::ih j) i) l i
def CI(l:ac):Bool:=bu (motive:=fun _=>Bool) true (fun _ _ _=>false) l
def dm(l m:ac):Bool:=bu (motive:=fun _=>List Nat->Bool) CI (fun a _ ih m=>bu (motive:=fun _=>Bool) false (fun b t _=>Bool.rec (motive:=fun _=>Bool) false (ih t) (aj a b)) m) l m
theorem SN(a b:Bool):Bool.rec (motive:=fun _=>Bool) false b a=(a&&b):=by cases a<;>rfl
theorem Pj(a b:Bool):Bool.rec (motive:=fun _=>Bool) b true a=(a||b):=by cases a<;>rfl
theorem agD:dm [] []=true:=rfl
theorem agC(b t):dm [] (b::t)=false:=rfl
theorem agB(a r):dm (a::r) []=false:=rfl
theorem agA(a r b t):dm (a::r) (b::t)=(aj a b&&dm r t):=SN _ _
def j0(l m:ac):Bool:=bu (motive:=fun _=>List Nat->Bool) (fun _=>true) (fun a _ ih m=>bu (motive:=fun _=>Bool) false (fun b t _=>Bool.rec (motive:=fun _=>Bool) false (ih t) (aj a b)) m) l m
theorem aiO(s):j0 [] s=true:=rfl
theorem aek(a r):j0 (a::r) []=false:=rfl
theorem Tz(a r b t):j0 (a::r) (b::t)=(aj a b&&j0 r t):=SN _ _
def zj(p s:ac):Bool:=bu (motive:=fun _=>Bool) (j0 p []) (fun b t ih=>Bool.rec (motive:=fun _=>Bool) ih true (j0 p (b::t))) s
theorem ahX(p):zj p []=j0 p []:=rfl
theorem I0(p b t):zj p (b::t)=(j0 p (b::t)||zj p t):=Pj _ _
def eY{α:Type}(l:List α):Nat:=bu (motive:=fun _=>Nat) 0 (fun _ _ ih=>nM ih) l
theorem ip{α:Type}(l:List α):eY l=l.length:=by
 induction l with
 |nil=>rfl
 |cons a r ih=>exact congrArg nM ih
def ZR{α:Type}(n:Nat)(l:List α):List α:=bu (motive:=fun _=>Nat->List α) (fun _=>[]) (fun a r ih n=>hH (motive:=fun _=>List α) (a::r) (fun j _=>ih j) n) l n
theorem SQ{α:Type}(l:List α): ∀n,ZR n l=l.drop n:=by
 induction l with
 |nil=>intro n;cases n<;>rfl
 |cons a r ih=>intro n;cases n with
  |zero=>rfl
  |succ n=>exact ih n
def akL{α:Type}(n:Nat)(l:List α):List α:=bu (motive:=fun _=>Nat->List α) (fun _=>[]) (fun a r ih n=>hH (motive:=fun _=>List α) [] (fun j _=>a::ih j) n) l n
theorem afe{α:Type}(l:List α): ∀n,akL n l=l.take n:=by
 induction l with
 |nil=>intro n;cases n<;>rfl
 |cons a r ih=>intro n;cases n with
  |zero=>rfl
  |succ n=>exact congrArg (a:: ·) (ih n)
def afC{α:Type}(l m:List α):List α:=bu (motive:=fun _=>List α) m (fun a _ ih=>a::ih) l
theorem WW{α:Type}(l m:List α):afC l m=l++m:=by
 induction l with
 |nil=>rfl
 |cons a r ih=>exact congrArg (a:: ·) ih
def FZ(c:Nat)(l:ac):Bool:=bu (motive:=fun _=>Bool) false (fun b _ ih=>Bool.rec (motive:=fun _=>Bool) ih true (aj c b)) l
theorem Ja(c b r):FZ c (b::r)=(aj c b||FZ c r):=Pj _ _
def PN(p s:ac):Bool:=bu (motive:=fun _=>Bool) (zj [] s) (fun c r _=>bu (motive:=fun _=>Bool) (FZ c s) (fun d t _=>zj (c::d::t) s) r) p
noncomputable def CT:List Nat->List Nat->Bool
 |_,[]=>false
 |[],_::_=>true
 |a::r,b::t=>bz a b||(aj a b&&CT r t)
noncomputable def KJ(a b:Int):Bool:=match a,b with
 | .ofNat a,.ofNat b=>aj a b
 | .negSucc a,.negSucc b=>aj a b
 |_,_=>false
noncomputable def CS(a b:Int):Bool:=match a,b with
 | .ofNat a,.ofNat b=>bz a b
 | .negSucc a,.negSucc b=>bz b a
 | .negSucc _,.ofNat _=>true
 | .ofNat _,.negSucc _=>false
noncomputable def U5(b:AV):Option Bool:=match b with
 | .none=>some true
 | .int _=>some false
 | .str _=>some false
 | .tup _=>some false
 |_=>none
noncomputable def ZU(x:Int)(b:AV):Option Bool:=match b with
 | .int y=>some (KJ x y)
 | .none=>some false
 |_=>none
def ZV(x:ac)(b:AV):Option Bool:=match b with
 | .str y=>some (dm x y)
 | .none=>some false
 |_=>none
noncomputable def Py(x:Bool)(b:AV):Option Bool:=match b with
 | .bool y=>some (x==y)
 |_=>none
noncomputable def IR(x:List UInt8)(b:AV):Option Bool:=match b with
 | .bytes y=>some (x==y)
 |_=>none
def LW(a b:AV):Option Bool:=match a with
 | .none=>U5 b
 | .bool x=>Py x b
 | .int x=>ZU x b
 | .str x=>ZV x b
 | .tup _=>s9 b (some false)
 | .bytes x=>IR x b
 |_=>none
noncomputable def CJ(a:AV):Bool:=match a with
 | .tup _=>true
 |_=>false
def KL(f:AV->AV->Option Bool):List AV->List AV->Option Bool
 |[],[]=>some true
 |a::r,b::t=>ob (f a b) fun x=>ob (KL f r t) fun y=>some (x&&y)
 |_,_=>some false
def wC:Nat->AV->AV->Option Bool
 |0,a,b=>LW a b
 |n+1,a,b=>bif CJ a&&CJ b then G5 a fun l=>G5 b fun m=>KL (wC n) l m else LW a b
noncomputable def dC(n:Nat):Bool:=cX n 4000000
noncomputable def PG(l:aa):Option Bool:=bif dC l.length then some (!l.isEmpty)else none
def qR(σ:AS):AV->Option Bool
 | .none=>some false
 | .bool b=>some b
 | .int i=>some (!KJ i 0)
 | .str s=>bif dC s.length then some (!s.isEmpty)else none
 | .tup l=>PG l
 | .lst l=>PG l
 | .ref a=>np σ a PG
 |_=>none
def nC(σ:AS):AV->Option (List AV)
 | .tup l=>some l
 | .lst l=>some l
 | .ref a=>np σ a some
 |_=>none
def ah3(σ:AS):AV->Option (List AV×AS)
 | .tup l=>some (l,σ)
 | .lst l=>some (l,σ)
 | .str s=>some (s.map fun c=>.str [c],σ)
 | .dct ks _=>some (ks.map .str,σ)
 | .bytes b=>some (b.map fun x=>.int (am x.toNat),σ)
 | .rng a b=>some ((cB (b-a)).map fun i=>.int (am (a+i)),σ)
 | .ref a=>np σ a fun l=>some (l,σ.drop a)
 |_=>none
def fE(σ:AS)(a:AV):Option (List AV×AS):=bD (ah3 σ a) fun l ai=>bif dC l.length then some (l,ai)else none
noncomputable def mz(i:Int):Bool:=cX i.natAbs (2^4000)
def apY(a b:AV):Option AV:=match a with
 | .int i=>eW b fun j=>some (.int (i+j))
 | .str s=>eo b fun t=>bif dC (eY s+eY t)then some (.str (afC s t))else none
 | .tup l=>G5 b fun m=>bif dC (l.length+m.length)&& !l.isEmpty&& !m.isEmpty then some (.tup (l++m))else none
 |_=>none
noncomputable def aqi(a b:AV):Option AV:=match a with
 | .int i=>eW b fun j=>bif mz i&&mz j then some (.int (i*j))else none
 | .str _=>eW b fun j=>bif CS (-1000) j&&CS j 1 then some (.str [])else none
 |_=>none
def ane(op:iD)(a b:AV):Option AV:=match op with
 | .Add=>apY a b
 | .Sub=>eW a fun i=>eW b fun j=>some (.int (i-j))
 | .Mult=>aqi a b
 | .Mod=>eW a fun i=>eW b fun j=>bif KJ j 0 then none else some (.int (i.fmod j))
 | .FloorDiv=>eW a fun i=>eW b fun j=>bif KJ j 0|| !mz j then none else some (.int (i.fdiv j))
 | .Pow=>eW a fun i=>eW b fun j=>bif mz i&& !CS j 0&&CS j 1000 then some (.int (i^j.toNat))else none
 |_=>none
def iR(σ:AS):AV->Option (List AV)
 | .lst l=>some l
 | .ref a=>np σ a some
 |_=>none
def ap0(op:iD)(a b:AV)(σ:AS):Option (AV×AS):=match op with
 | .Add=>ob (iR σ a) fun l=>ob (iR σ b) fun m=>bif dC (l.length+m.length)then some (.ref σ.next,σ.alloc (.lst (l++m)))else none
 | .Mult=>io a fun x=>nR b fun j=>bif bz j 100 then np σ x (fun l=>bif cX l.length 1000 then some (.ref σ.next,σ.alloc (.lst ((bL j l).flatten)))else none)else none
 |_=>none
def b4(op:iD)(a b:AV)(σ:AS):Option (AV×AS):=od (ane op a b) (fun c=>some (c,σ)) (ap0 op a b σ)
def wD(x:ac)(l:List (List Nat)):Bool:=bu (motive:=fun _=>Bool) false (fun a _ ih=>Bool.rec (motive:=fun _=>Bool) ih true (dm a x)) l
theorem WV(x):wD x []=false:=rfl
theorem WU(x a r):wD x (a::r)=(dm a x||wD x r):=Pj _ _
noncomputable def WT(x:Int):List Int->Bool
 |[]=>false
 |a::r=>KJ a x||WT x r
def nK:List AV->Option (List (List Nat))
 |[]=>some []
 |a::r=>eo a fun s=>ob (nK r) fun l=>some (s::l)
def NM:List AV->Option (List Int)
 |[]=>some []
 |a::r=>eW a fun s=>ob (NM r) fun l=>some (s::l)
def inL(x:AV)(l:aa):Option Bool:=match x with
 | .str p=>ob (nK l) fun ss=>some (wD p ss)
 | .int i=>ob (NM l) fun is=>some (WT i is)
 |_=>none
def inA(σ:AS)(x c:AV):Option Bool:=match c with
 | .str s=>eo x fun p=>some (PN p s)
 | .dct ks _=>eo x fun p=>some (wD p ks)
 | .tup l=>inL x l
 | .lst l=>inL x l
 | .ref a=>ob (σ.get a) fun c=>match c with
  | .lst l=>inL x l
  | .dct ks _=>eo x fun p=>some (wD p ks)
  |_=>none
 |_=>none
def Tt(o:Option Bool):Option Bool:=ob o fun b=>some !b
def Pn(σ:AS):AV->Option (List (List Nat))
 | .dct ks _=>some ks
 | .ref a=>SP σ a fun ks _=>some ks
 |_=>none
def rr{α β:Type}(l:List α)(m:List β):Bool:=aj (eY l) (eY m)
def eqA(σ:AS)(a b:AV):Option Bool:=od (wC 16 a b) some (od (iR σ a) (fun l=>ob (iR σ b) fun m=>bif rr l m then KL (wC 16) l m else some false)
 (ob (Pn σ a) fun ks=>ob (Pn σ b) fun ks'=>bif ks'.isEmpty then some ks.isEmpty else none))
noncomputable def lN:AV->Option Bool
 | .none=>some true
 | .opq=>none
 | .unb=>none
 | .glob _=>none
 |_=>some false
noncomputable def leA(a b:AV):Option Bool:=match a with
 | .int i=>eW b fun j=>some (!CS j i)
 | .str s=>eo b fun t=>some (!CT t s)
 |_=>none
def b7(op:gW)(a b:AV)(σ:AS):Option Bool:=match op with
 | .Eq=>eqA σ a b
 | .NotEq=>Tt (eqA σ a b)
 | .Lt=>eW a fun i=>eW b fun j=>some (CS i j)
 | .LtE=>leA a b
 | .Gt=>eW a fun i=>eW b fun j=>some (CS j i)
 | .GtE=>eW a fun i=>eW b fun j=>some (!CS i j)
 | .Is=>s9 b (lN a)
 | .IsNot=>s9 b (Tt (lN a))
 | .In=>inA σ a b
 | .NotIn=>Tt (inA σ a b)
def xP(k:Nat)(ks:ac)(vs:aa):Option AV:=bu (motive:=fun _=>List AV->Option AV) (fun _=>none) (fun x _ ih vs=>bu (motive:=fun _=>Option AV) none (fun v t _=>Bool.rec (motive:=fun _=>Option AV) (ih t) (some v) (aj k x)) vs) ks vs
theorem XA(k x ks v vs):xP k (x::ks) (v::vs)=bif aj k x then some v else xP k ks vs:=bR _ _ _
noncomputable def tl(a:AV):Option AV:=match a with
 | .unb=>none
 | .opq=>none
 | .glob _=>none
 |a=>some a
def NK(c k:Nat)(ks:ac)(vs:aa):Option AV:=bif SH c k then none else xP k ks vs
def aA(k:Nat)(a:AV)(σ:AS):Option AV:=match a with
 | .frz c ks vs=>ob (NK c k ks vs) fun v=>tl v
 | .ref x=>CH σ x fun c ks vs=>ob (NK c k ks vs) fun v=>tl v
 |_=>none
def Qj{α:Type}(l:List α):Nat->Option α:=bu (motive:=fun _=>Nat->Option α) (fun _=>none) (fun a _ ih i=>hH (motive:=fun _=>Option α) (some a) (fun j _=>ih j) i) l
def Yc{α:Type}(l:List α)(i:Int):Option α:=match i with
 | .ofNat n=>bif dC n then Qj l n else none
 | .negSucc n=>bif dC n&&bz n l.length then Qj l (l.length-1-n)else none
def NG(k:ac):List (List Nat)->List AV->Option AV
 |x::ks,v::vs=>bif dm x k then some v else NG k ks vs
 |_,_=>none
noncomputable def IP(k:Int):List Int->List AV->Option AV
 |x::ks,v::vs=>bif KJ x k then some v else IP k ks vs
 |_,_=>none
def qK(k:ac)(v:AV):List (List Nat)->List AV->List (List Nat)×List AV
 |x::ks,w::vs=>bif dm x k then(x::ks,v::vs)else let r:=qK k v ks vs;(x::r.1,w::r.2)
 |_,_=>([k],[v])
def agj(σ:AS):AV->Option (List (List Nat)×List AV)
 | .dct ks vs=>some (ks,vs)
 | .ref x=>SP σ x fun ks vs=>some (ks,vs)
 |_=>none
noncomputable def abC{β:Type}(a:AV)(f:List Int->List AV->Option β):Option β:=match a with
 | .dcti ks vs=>f ks vs
 |_=>none
def ace(a i:AV)(σ:AS):Option AV:=match i with
 | .int j=>od (eo a some) (fun s=>ob (Yc s j) fun c=>some (.str [c])) (od (abC a fun ks vs=>some (IP j ks vs)) (fun r=>r) (ob (nC σ a) fun l=>Yc l j))
 | .str k=>bD (agj σ a) fun ks vs=>NG k ks vs
 |_=>none
noncomputable def kp(n:Nat)(d:Nat):AV->Option Nat
 | .none=>some d
 | .int (.ofNat i)=>some (DX i n)
 | .int (.negSucc i)=>some (n-(i+1))
 |_=>none
noncomputable def KH{α:Type}(l:List α)(a b:Nat):List α:=(l.drop a).take (b-a)
def Pk{α:Type}(l:List α)(a b:Nat):List α:=akL (b-a) (ZR a l)
theorem Pl{α:Type}(l:List α)(a b:Nat):Pk l a b=KH l a b:=by rw[Pk,KH,afe,SQ]
def anG(a lo hi:AV)(σ:AS):Option (AV×AS):=od (eo a some) (fun s=>bif dC (eY s)then ob (kp (eY s) 0 lo) (fun x=>ob (kp (eY s) (eY s) hi) fun y=>some (.str (Pk s x y),σ))else none)
 (ob (iR σ a) fun l=>bif dC (eY l)then ob (kp (eY l) 0 lo) (fun x=>ob (kp (eY l) (eY l) hi) fun y=>some (.ref σ.next,σ.alloc (.lst (Pk l x y))))else none)
def pr{α β γ:Type}(p:α×β)(f:α->β->γ):γ:=N9 (motive:=fun _=>γ) f p
def pT(f:AV->AS->AV×AS):List AV->AS->List AV×AS
 |[],σ=>([],σ)
 |a::r,σ=>pr (f a σ) fun a' ai=>pr (pT f r ai) fun r' fX=>(a'::r',fX)
def Tq(sel:Nat->Bool)(f:AV->AS->AV×AS):List Nat->List AV->AS->List AV×AS
 |k::ks,v::vs,σ=>pr (bif sel k then f v σ else(v,σ)) fun v' ai=>pr (Tq sel f ks vs ai) fun vs' fX=>(v'::vs',fX)
 |[],vs,σ=>(vs,σ)
 |_::_,[],σ=>([],σ)
def SY(f:AV->AS->AV×AS)(sel:Nat->Bool)(x:Nat)(σ:AS):bJ->AV×AS
 | .lst l=>pr (pT f l (σ.drop x)) fun l' ai=>(.lst l',ai)
 | .inst c ks vs=>pr (Tq sel f ks vs (σ.drop x)) fun vs' ai=>(.frz c ks vs',ai)
 | .dct ks vs=>pr (pT f vs (σ.drop x)) fun vs' ai=>(.dct ks vs',ai)
 | .orc _ _=>(.opq,σ)
def uj(sel:Nat->Bool):Nat->AV->AS->AV×AS
 |0,a,σ=>(a,σ)
 |n+1,a,σ=>match a with
  | .ref x=>bo (motive:=fun _=>AV×AS) (.opq,σ) (fun c=>SY (uj sel n) sel x σ c) (σ.get x)
  |a=>(a,σ)
def jJ:Nat->AV->AS->AV×AS:=uj fun _=>true
abbrev gR:=AV->AS->Option aW
inductive T where
 |nop
 |cst(a:AV)
 |var(i:Nat)
 |glb(g:Nat)
 |bin(op:iD)(a b:T)
 |neg(a:T)
 |not(a:T)
 |and(a b:T)
 |or(a b:T)
 |ife(c a b:T)
 |cmp(op:gW)(a b:T)
 |cmp2(op op':gW)(a b c:T)
 |atr(k:Nat)(a:T)
 |idx(a i:T)
 |slc(a lo hi:T)
 |lst(l:T)
 |tup(l:T)
 |dic
 |dicI(k1 k2:Int)(a b:List Nat)
 |rep(c:Nat)(a:T)
 |call(f:Nat)(l:T)
 |meth(n:Nat)(o l:T)
 |nil
 |cons(a l:T)
 |comp(xs:List Nat)(it:T)(c:T)(elt:T)
 |comp2(x:Nat)(it:T)(y:Nat)(it2:T)(elt:T)
def vL:List Nat->List AV->Fm->Option Fm
 |[],[],fr=>some fr
 |x::xs,a::l,fr=>vL xs l (put fr x a)
 |_,_,_=>none
def mm(xs:ac)(a:AV)(fr:Fm)(_:AS):Option Fm:=match xs with
 |[x]=>some (put fr x a)
 |xs=>G5 a fun l=>vL xs l fr
def eI(xs:ac)(test:BM)(elt:EM):List AV->Fm->AS->Option (List AV×AS)
 |[],_,σ=>some ([],σ)
 |a::r,fr,σ=>ob (mm xs a fr σ) fun fr'=>bD (test fr' σ) fun t ai=>bif t then bD (elt fr' ai) (fun b fX=>bD (eI xs test elt r fr fX) fun l cM=>some (b::l,cM))else eI xs test elt r fr ai
def jz(x:Nat)(it2:EM)(y:Nat)(elt:EM):List AV->Fm->AS->Option (List AV×AS)
 |[],_,σ=>some ([],σ)
 |a::r,fr,σ=>bD (it2 (put fr x a) σ) fun s ai=>bD (fE ai s) fun l ay=>bD (eI [y] (fun _ σ=>some (true,σ)) elt l (put fr x a) ay) fun bs fX=>bD (jz x it2 y elt r fr fX) fun cs cM=>some (bs++cs,cM)
def jh(m:EM):BM:=fun fr σ=>bD (m fr σ) fun a ai=>ob (qR ai a) fun b=>some (b,ai)
def un(f:AV->AS->Option AV)(m:EM):EM:=fun fr σ=>bD (m fr σ) fun a ai=>ob (f a ai) fun b=>some (b,ai)
def bi(f:AV->AV->AS->Option (AV×AS))(m n:EM):EM:=fun fr σ=>bD (m fr σ) fun a ai=>bD (n fr ai) fun b fX=>f a b fX
def fw(f:AV->AV->AS->Option Bool)(m n:EM):BM:=fun fr σ=>bD (m fr σ) fun a ai=>bD (n fr ai) fun b fX=>ob (f a b fX) fun r=>some (r,fX)
noncomputable def aio(a:AV)(_:AS):Option AV:=eW a fun i=>some (.int (-i))
noncomputable def HC(c:Nat):List Nat->List Nat
 |[]=>[]
 |a::r=>bif aj a c then HC c r else a::HC c r
noncomputable def aju(c:Nat)(a:AV)(_:AS):Option AV:=eo a fun s=>bif dC s.length then some (.str (HC c s))else none
def one:EM->LM:=fun m fr σ=>bD (m fr σ) fun a ai=>some ([a],ai)
def rT(m:BM):EM:=fun fr σ=>bD (m fr σ) fun b ai=>some (.bool b,ai)
def pc(b:BM):BM:=fun fr σ=>bD (b fr σ) fun b ai=>some (!b,ai)
def anc(a b:BM):BM:=fun fr σ=>bD (a fr σ) fun t ai=>bif t then b fr ai else some (false,ai)
def RL(a b:BM):BM:=fun fr σ=>bD (a fr σ) fun t ai=>bif t then some (true,ai)else b fr ai
def SS(a b:EM):EM:=fun fr σ=>bD (a fr σ) fun v ai=>ob (qR ai v) fun t=>bif t then b fr ai else some (v,ai)
def eOr(a b:EM):EM:=fun fr σ=>bD (a fr σ) fun v ai=>ob (qR ai v) fun t=>bif t then some (v,ai)else b fr ai
def td(c:BM)(a b:EM):EM:=fun fr σ=>bD (c fr σ) fun t ai=>bif t then a fr ai else b fr ai
noncomputable def bW(a:AV):Bool:=match a with
 | .unb=>true
 |_=>false
def al(i:Nat):EM:=fun fr σ=>bif bW (gt fr i)then none else some (gt fr i,σ)
noncomputable def ba(a:AV):EM:=fun _ σ=>some (a,σ)
def O9(op op':gW)(a b c:EM):BM:=fun fr σ=>bD (a fr σ) fun x ai=>bD (b fr ai) fun y aM=>ob (b7 op x y aM) fun t=>bif t then bD (c fr aM) (fun z cM=>ob (b7 op' y z cM) fun r=>some (r,cM))else some (false,aM)
def fV(x y:AV)(σ:AS):Option (AV×AS):=ob (ace x y σ) fun z=>some (z,σ)
def SV(a lo hi:EM):EM:=fun fr σ=>bD (a fr σ) fun x ai=>bD (lo fr ai) fun y aM=>bD (hi fr aM) fun z cM=>anG x y z cM
def bv(f:aW)(l:LM):EM:=fun fr σ=>bD (l fr σ) fun vs ai=>f vs ai
def cH(D:gR)(o:EM)(l:LM):EM:=fun fr σ=>bD (o fr σ) fun x ai=>ob (D x ai) fun F=>bD (l fr ai) fun vs aM=>F (x::vs) aM
noncomputable def de:aW:=fun vs σ=>bif dC vs.length then some (.ref σ.next,σ.alloc (.lst vs))else none
noncomputable def gm:aW:=fun vs σ=>bif dC vs.length then some (.tup vs,σ)else none
noncomputable def Hs(ks:List Int):aW:=fun vs σ=>some (.dcti ks vs,σ)
noncomputable def FP:EM:=fun _ σ=>some (.ref σ.next,σ.alloc (.dct [] []))
def aw(a:EM)(l:LM):LM:=fun fr σ=>bD (a fr σ) fun v ai=>bD (l fr ai) fun vs aM=>some (v::vs,aM)
noncomputable def aI:LM:=fun _ σ=>some ([],σ)
def eO(xs:ac)(it:EM)(c:BM)(elt:EM):EM:=fun fr σ=>bD (it fr σ) fun x ai=>bD (fE ai x) fun l ay=>bD (eI xs c elt l fr ay) fun vs aM=>bif dC vs.length then some (.ref aM.next,aM.alloc (.lst vs))else none
def qL(x:Nat)(it:EM)(y:Nat)(it2 elt:EM):EM:=fun fr σ=>bD (it fr σ) fun a ai=>bD (fE ai a) fun l ay=>bD (jz x it2 y elt l (put fr y .unb) ay) fun vs aM=>bif dC vs.length then some (.ref aM.next,aM.alloc (.lst vs))else none
structure D where
 e:EM
 b:BM
 l:LM
def D.ofE(e:EM):D:=⟨e,jh e,fun _ _=>none⟩
def D.ofBool(b:BM):D:=⟨rT b,b,fun _ _=>none⟩
noncomputable def D.bad:D:=⟨fun _ _=>none,fun _ _=>none,fun _ _=>none⟩
structure cF where
 glb:List (Str×AV)
 fns:List (Str×aW)
 mts:List (Str×gR)
noncomputable def pU{α:Type}:List (Str×α)->Nat->Option (Str×α)
 |[],_=>none
 |p::_,0=>some p
 |_::r,i+1=>pU r i
noncomputable def acH(l:List (Str×AV))(i:Nat):AV:=match pU l i with
 |some (_,a)=>a
 |none=>.unb
noncomputable def acI(l:List (Str×aW))(i:Nat):aW:=match pU l i with
 |some (_,a)=>a
 |none=>fun _ _=>none
noncomputable def acJ(l:List (Str×gR))(i:Nat):gR:=match pU l i with
 |some (_,a)=>a
 |none=>fun _ _=>none
def gS(Γ:cF):T->D
 | .nop=>⟨ba .none,fun _ σ=>some (true,σ),aI⟩
 | .cst a=>.ofE (ba a)
 | .var i=>.ofE (al i)
 | .glb g=>.ofE (ba (acH Γ.glb g))
 | .bin op a b=>.ofE (bi (b4 op) (gS Γ a).e (gS Γ b).e)
 | .neg a=>.ofE (un aio (gS Γ a).e)
 | .not a=>⟨rT (pc (jh (gS Γ a).e)),pc (gS Γ a).b,fun _ _=>none⟩
 | .and a b=>⟨SS (gS Γ a).e (gS Γ b).e,anc (gS Γ a).b (gS Γ b).b,fun _ _=>none⟩
 | .or a b=>⟨eOr (gS Γ a).e (gS Γ b).e,RL (gS Γ a).b (gS Γ b).b,fun _ _=>none⟩
 | .ife c a b=>.ofE (td (gS Γ c).b (gS Γ a).e (gS Γ b).e)
 | .cmp op a b=>.ofBool (fw (b7 op) (gS Γ a).e (gS Γ b).e)
 | .cmp2 op op' a b c=>.ofBool (O9 op op' (gS Γ a).e (gS Γ b).e (gS Γ c).e)
 | .atr k a=>.ofE (un (aA k) (gS Γ a).e)
 | .idx a i=>.ofE (bi fV (gS Γ a).e (gS Γ i).e)
 | .slc a lo hi=>.ofE (SV (gS Γ a).e (gS Γ lo).e (gS Γ hi).e)
 | .lst l=>.ofE (bv de (gS Γ l).l)
 | .tup l=>.ofE (bv gm (gS Γ l).l)
 | .dic=>.ofE FP
 | .dicI k1 k2 a b=>.ofE (bv (Hs [k1,k2]) (aw (ba (.str a)) (aw (ba (.str b)) aI)))
 | .rep c a=>.ofE (un (aju c) (gS Γ a).e)
 | .call f l=>.ofE (bv (acI Γ.fns f) (gS Γ l).l)
 | .meth n o l=>.ofE (cH (acJ Γ.mts n) (gS Γ o).e (gS Γ l).l)
 | .comp xs it c elt=>.ofE (eO xs (gS Γ it).e (gS Γ c).b (gS Γ elt).e)
 | .comp2 x it y it2 elt=>.ofE (qL x (gS Γ it).e y (gS Γ it2).e (gS Γ elt).e)
 | .nil=>⟨fun _ _=>none,fun _ _=>none,aI⟩
 | .cons a l=>⟨fun _ _=>none,fun _ _=>none,aw (gS Γ a).e (gS Γ l).l⟩
termination_by structural t=>t
inductive TS where
 |bad
 |expr(e:T)
 |asg(i:Nat)(e:T)
 |asgT(is:List Nat)(e:T)
 |asgA(k:Nat)(o e:T)
 |asgI(o i e:T)
 |ifs(c:T)(a b:TS)
 |whl(c:T)(b:TS)
 |for_(xs:List Nat)(it:T)(b:TS)
 |ret(e:T)
 |cont
 |frz(i:Nat)
 |nil
 |cons(s r:TS)
def Mh(k:Nat)(v:AV)(ks:ac)(vs:aa):List Nat×List AV:=bu (motive:=fun _=>List AV->List Nat×List AV) (fun _=>([k],[v])) (fun x ks ih vs=>bu (motive:=fun _=>List Nat×List AV) ([k],[v]) (fun w vs _=>cond (aj k x) (x::ks,v::vs) (N9 (motive:=fun _=>List Nat×List AV) (fun ks' vs'=>(x::ks',w::vs')) (ih vs))) vs) ks vs
theorem ajI(k v x ks w vs):Mh k v (x::ks) (w::vs)=bif aj k x then(x::ks,v::vs)else match Mh k v ks vs with
  |(ks',vs')=>(x::ks',w::vs'):=rfl
def ou(k:Nat)(v o:AV)(σ:AS):Option AS:=io o fun x=>CH σ x fun c ks vs=>pr (Mh k v ks vs) fun ks' vs'=>bif cX ks'.length 1000&& !SH c k then some (σ.set x (.inst c ks' vs'))else none
noncomputable def NU:List AV->Nat->AV->List AV
 |[],_,_=>[]
 |_::r,0,v=>v::r
 |a::r,i+1,v=>a::NU r i v
def K7(v o i:AV)(σ:AS):Option AS:=io o fun x=>ob (σ.get x) fun c=>match c with
 | .lst l=>nR i fun n=>bif dC n&&bz n l.length then some (σ.set x (.lst (NU l n v)))else none
 | .dct ks vs=>eo i fun k=>pr (qK k v ks vs) fun ks' vs'=>bif dC ks.length then some (σ.set x (.dct ks' vs'))else none
 |_=>none
noncomputable def gU(k:SM)(r:j9):Option j9:=match r with
 | .next fr' ai=>k fr' ai
 |r=>some r
noncomputable def KR(k:SM)(r:j9):Option j9:=match r with
 | .next fr' ai=>k fr' ai
 | .cont fr' ai=>k fr' ai
 | .brk fr' ai=>some (.next fr' ai)
 | .ret a ai=>some (.ret a ai)
def aV(a b:SM):SM:=fun fr σ=>ob (a fr σ) (gU b)
noncomputable def br:SM:=fun fr σ=>some (.next fr σ)
def sb(c:BM)(a b:SM):SM:=fun fr σ=>bD (c fr σ) fun t ai=>bif t then a fr ai else b fr ai
def k9(e:EM):SM:=fun fr σ=>bD (e fr σ) fun _ ai=>some (.next fr ai)
def cT(is:ac)(e:EM):SM:=fun fr σ=>bD (e fr σ) fun v ai=>ob (mm is v fr ai) fun fr'=>some (.next fr' ai)
def lU(k:Nat)(o e:EM):SM:=fun fr σ=>bD (e fr σ) fun v ai=>bD (o fr ai) fun x aM=>ob (ou k v x aM) fun cM=>some (.next fr cM)
def Qx(o i e:EM):SM:=fun fr σ=>bD (e fr σ) fun v ai=>bD (o fr ai) fun x aM=>bD (i fr aM) fun y cM=>ob (K7 v x y cM) fun u5=>some (.next fr u5)
def eK(e:EM):SM:=fun fr σ=>bD (e fr σ) fun v ai=>some (.ret v ai)
def TG(c:BM)(b:SM):Nat->SM
 |0=>fun _ _=>none
 |n+1=>fun fr σ=>bD (c fr σ) fun t ai=>bif t then ob (b fr ai) (KR (TG c b n))else some (.next fr ai)
def pF(xs:ac)(b:SM):List AV->SM
 |[]=>br
 |a::r=>fun fr σ=>ob (mm xs a fr σ) fun gT=>ob (b gT σ) (KR (pF xs b r))
def gE(xs:ac)(it:EM)(b:SM):SM:=fun fr σ=>bD (it fr σ) fun x ai=>bD (fE ai x) fun l ay=>pF xs b l fr ay
def Qy(i:Nat):SM:=fun fr σ=>pr (jJ 14 (gt fr i) σ) fun a ai=>some (.next (put fr i a) ai)
def cg(Γ:cF):TS->SM
 | .bad=>fun _ _=>none
 | .expr e=>k9 (gS Γ e).e
 | .asg i e=>cT [i] (gS Γ e).e
 | .asgT is e=>cT is (gS Γ e).e
 | .asgA k o e=>lU k (gS Γ o).e (gS Γ e).e
 | .asgI o i e=>Qx (gS Γ o).e (gS Γ i).e (gS Γ e).e
 | .ifs c a b=>sb (gS Γ c).b (cg Γ a) (cg Γ b)
 | .whl c b=>TG (gS Γ c).b (cg Γ b) 2000
 | .for_ xs it b=>gE xs (gS Γ it).e (cg Γ b)
 | .ret e=>eK (gS Γ e).e
 | .cont=>fun fr σ=>some (.cont fr σ)
 | .frz i=>Qy i
 | .nil=>br
 | .cons a b=>aV (cg Γ a) (cg Γ b)
termination_by structural t=>t
noncomputable def ir(r:j9):Option (AV×AS):=match r with
 | .next _ ai=>some (.none,ai)
 | .ret a ai=>some (a,ai)
 |_=>none
def bn(n:Nat)(dfl:aa)(b:SM):aW:=fun args σ=>bif cX (eY args) n&&cX n (eY args+eY dfl)then ob (b (afC args (ZR (eY args+eY dfl-n) dfl)) σ) ir else none
def uu(c:Nat)(init:aW):aW:=fun args σ=>bD (init (.ref σ.next::args) (σ.alloc (.inst c [] []))) fun a ai=>s9 a (some (.ref σ.next,ai))
def FT(n:Nat)(F:aW):aW:=fun args σ=>bD (F args σ) fun a ai=>some (jJ n a ai)
def Z0(n:Nat)(F:aW):aW:=fun args σ=>pr (pT (jJ n) args σ) fun args' ai=>F args' ai
noncomputable def dv(c:Nat):List Nat->List Nat->List (List Nat)
 |acc,[]=>[acc.reverse]
 |acc,a::r=>bif aj a c then acc.reverse::dv c [] r else dv c (a::acc) r
noncomputable def lr(sep:ac):List (List Nat)->List Nat
 |[]=>[]
 |[a]=>a
 |a::r=>a++sep++lr sep r
def Et(p:ac):Nat->List Nat->Option Nat
 |i,[]=>bif j0 p []then some i else none
 |i,a::s=>bif j0 p (a::s)then some i else Et p (i+1) s
noncomputable def Pq(n:Nat):List Nat:=bif bz n 10 then[48+n]else bif bz n 100 then[48+n / 10,48+n%10]else[48+n / 100,48+n / 10%10,48+n%10]
noncomputable def lQ:Nat->List Nat->Option Nat
 |n,[]=>some n
 |n,c::r=>bif cX 48 c&&cX c 57 then lQ (n*10+(c-48)) r else none
noncomputable def KO(x:ac):List (List Nat)->List (List Nat)
 |[]=>[x]
 |y::r=>bif CT x y then x::y::r else y::KO x r
noncomputable def jR:List (List Nat)->List (List Nat)
 |[]=>[]
 |x::r=>KO x (jR r)
def aaC:List AV->Option (List UInt8)
 |[]=>some []
 |a::r=>nR a fun n=>bif bz n 256 then ob (aaC r) (fun l=>some (Rk n::l))else none
def aci(σ:AS)(a:AV):Option (List (List Nat)):=match a with
 | .dct ks _=>some ks
 |a=>ob (nC σ a) nK
def re{β:Type}(l:aa)(f:AV->Option β):Option β:=bu (motive:=fun _=>Option β) none (fun a r _=>bu (motive:=fun _=>Option β) (f a) (fun _ _ _=>none) r) l
def vK{β:Type}(l:aa)(f:AV->AV->Option β):Option β:=bu (motive:=fun _=>Option β) none (fun a r _=>re r (f a)) l
def WX{β:Type}(l:aa)(f:AV->AV->AV->Option β):Option β:=bu (motive:=fun _=>Option β) none (fun a r _=>vK r (f a)) l
def UP{β:Type}(a:AV)(f:Nat->Option β):Option β:=eo a fun s=>arg1' s f
where arg1' {β:Type} (l:List Nat) (f:Nat->Option β):Option β:=bu (motive:=fun _=>Option β) none (fun a r _=>bu (motive:=fun _=>Option β) (f a) (fun _ _ _=>none) r) l
def NE{β:Type}(a:AV)(f:Nat->List Nat->Option β):Option β:=eo a fun s=>bu (motive:=fun _=>Option β) none (fun a r _=>f a r) s
def anq(σ:AS)(a:AV):Option (AV×AS):=match a with
 | .str s=>bif dC (eY s)then some (.int (am (eY s)),σ)else none
 |a=>ob (nC σ a) fun l=>bif dC (eY l)then some (.int (am (eY l)),σ)else none
def eV:aW:=fun args σ=>re args (anq σ)
def Sj:aW:=fun args σ=>re args fun a=>nR a fun n=>bif bz n 100000 then some (.rng 0 n,σ)else none
def Sk:aW:=fun args σ=>vK args fun a b=>nR a fun n=>nR b fun m=>bif bz n 100000&&bz m 100000 then some (.rng n m,σ)else none
def lE:aW:=fun args σ=>bif aj (eY args) 1 then Sj args σ else Sk args σ
def Us:aW:=fun args σ=>re args fun a=>nR a fun n=>bif bz n 128 then some (.str (Pq n),σ)else none
def aqT(σ:AS)(a:AV):Option (AV×AS):=bif CJ a then some (a,σ)else ob (iR σ a) fun l=>bif dC l.length then some (.tup l,σ)else none
def fi:aW:=fun args σ=>re args (aqT σ)
def abv:aW:=fun args σ=>re args fun a=>ob (nC σ a) fun l=>bif dC l.length then some (.ref σ.next,σ.alloc (.lst l))else none
def Za:aW:=fun args σ=>re args fun a=>eW a fun i=>some (.int (am i.natAbs),σ)
def Zb:aW:=fun args σ=>re args fun a=>nR a fun n=>bif bz n 0xD800 then some (.str [n],σ)else none
def Zc:aW:=fun args σ=>re args fun a=>UP a fun c=>some (.int (am c),σ)
def qc:aW:=fun args σ=>re args fun a=>ob (iR σ a) fun l=>ob (nK l) fun ss=>bif bz ss.length 64 then some (.ref σ.next,σ.alloc (.lst ((jR ss).map .str)))else none
def tV:aW:=fun args σ=>re args fun a=>NE a fun c r=>bif bz r.length 18 then ob (lQ 0 (c::r)) (fun n=>some (.int (am n),σ))else none
def Wk:aW:=fun args σ=>re args fun a=>ob (iR σ a) fun l=>ob (aaC l) fun b=>bif dC b.length then some (.bytes b,σ)else none
def Ur:aW:=fun args σ=>vK args fun a b=>eW a fun i=>eW b fun j=>some (.int (bif CS j i then j else i),σ)
def kG:aW:=fun args σ=>vK args fun a b=>eo a fun s=>UP b fun c=>bif dC s.length then some (.ref σ.next,σ.alloc (.lst ((dv c [] s).map .str)))else none
def vv:aW:=fun args σ=>vK args fun a b=>eo a fun s=>ob (aci σ b) fun l=>bif dC (eY (lr s l)+eY l*eY s+eY l)then some (.str (lr s l),σ)else none
def tW:aW:=fun args σ=>WX args fun a b d=>eo a fun s=>NE b fun c p=>eo d fun _=>bif PN (c::p) s then none else some (.str s,σ)
def Ik:aW:=fun args σ=>vK args fun a b=>eo a fun s=>NE b fun c p=>ob (Et (c::p) 0 s) fun i=>some (.int (am i),σ)
def gv:aW:=fun args σ=>vK args fun a v=>io a fun x=>np σ x fun l=>bif dC l.length then some (.none,σ.set x (.lst (l++[v])))else none
def ahi(σ:AS)(x:Nat)(b:AV):Option (List AV):=match b with
 | .ref c=>bif aj x c then none else np σ c some
 | .lst m=>some m
 |_=>none
def f8:aW:=fun args σ=>vK args fun a b=>io a fun x=>ob (ahi σ x b) fun m=>np σ x fun l=>bif dC (l.length+m.length)then some (.none,σ.set x (.lst (l++m)))else none
def Zd:aW:=fun args σ=>re args fun a=>io a fun x=>np σ x fun l=>ob l.getLast? fun v=>bif dC l.length then some (v,σ.set x (.lst l.dropLast))else none
noncomputable def Uq:aW:=fun _ _=>none
noncomputable def Xa(c:bJ):Option Nat:=match c with
 | .inst d _ _=>some d
 | .orc d _=>some d
 |_=>none
def FM(a:AV)(σ:AS):Option Nat:=match a with
 | .frz d _ _=>some d
 | .ref x=>ob (σ.get x) Xa
 |_=>none
def fm(c:Nat)(F:aW)(G:gR):gR:=fun a σ=>ob (FM a σ) fun d=>bif aj c d then some F else G a σ
noncomputable def gP:gR:=fun _ _=>none
noncomputable def iq(F:aW):gR:=fun a _=>eo a fun _=>some F
def fT(F:aW):gR:=fun a σ=>io a fun x=>np σ x fun _=>some F
section
open PySem.SeqAt
noncomputable section
section
variable{X:FX}{k:Nat}{W W':Wd}{fr:Fm}{σ ai:AS}{s s':az}{h h':bM}{A:b5}
theorem V2{α:Type}{M:lc}{A:b5}{s:az}{t:Sem α}{Q:α->az->Prop}{n:Nat}(hn:n<=s.toks)(h:wpAny M A t (fun a s'=>n<=s'.toks->Q a s') dw s):wpAny M A t Q dw s:=
 jw (wpAny_toks_of hn h) (fun _ _ x=>x.2 x.1) fun _ _ x=>x.2
theorem eC{α:Type}{M:lc}{t:Sem α}{Q Q':α->az->Prop}(h:wpAny M A t Q dw s)(hQ: ∀a s,Q a s->Q' a s):wpAny M A t Q' dw s:=jw h hQ fun _ _ e=>e
theorem ae6{p:Pos}{n:Nat}:b6 X k (ba .none) (.Constant .none n p):=fun A _ W fr σ s T a ai e=>by
 apply s2 e;exact fun _ _ _=>T.post rfl
theorem aeX{b:Bool}{p:Pos}{n:Nat}:b6 X k (ba (.bool b)) (.Constant (.bool b) n p):=fun A _ W fr σ s T a ai e=>by
 apply s2 e;exact fun _ _ _=>T.post rfl
theorem akv{i:Int}{p:Pos}{n:Nat}:b6 X k (ba (.int i)) (.Constant (.int i) n p):=fun A _ W fr σ s T a ai e=>by
 apply s2 e;exact q7 ((T.toks _).post ⟨_,rfl⟩)
theorem akB{x:Str}{l:ac}{p:Pos}{n:Nat}(hx:aO l=x):b6 X k (ba (.str l)) (.Constant (.str x) n p):=fun A _ W fr σ s T a ai e=>by
 apply s2 e;exact oH ((T.toks _).post ⟨_,by rw[hx]⟩)
theorem aaY{x:List UInt8}{p:Pos}{n:Nat}:b6 X k (ba (.bytes x)) (.Constant (.bytes x) n p):=fun A _ W fr σ s T a ai e=>by
 apply s2 e;exact Constant_bytes ((T.toks _).post ⟨_,rfl⟩)
theorem Vc: ∀(fr:Fm) (i:Nat),(fr[i]? =some (gt fr i))\/gt fr i= .unb
 |[],_=>.inr rfl
 |_::_,0=>.inl rfl
 |_::r,i+1=>(Vc r i).imp (fun h=>h) (fun h=>h)
theorem St.load(O:ve X)(T:St X W fr σ s){i:Nat}{x:Str}(hx:X.names i=some x)(hu:gt fr i≠ .unb):
  wpAny (dH X.C) A (loadName X.env x) (fun v s'=>s'=s/\V X.C W (gt fr i) v) dw s:=by
 obtain⟨m,hn,hv⟩:=T.fr.vars
 obtain⟨v,e2,e3⟩:=((Vc fr i).resolve_right hu|>hv i _).resolve_left hu x hx
 unfold jc at e2
 split at e2
 ·rename_i q;exact wpAny_loadName_local O.kind q hn e2 ⟨rfl,e3⟩
 ·rename_i q;obtain⟨c,a,b⟩:=e2;exact wpAny_loadName_cell O.kind q a b ⟨rfl,e3⟩
 ·rename_i q;obtain⟨c,a,b⟩:=e2
  by_cases z:(x==("__classdict__":Str))=true
  ·exact absurd (O.plain i x hx) (by rw[beq_iff_eq.mp z];decide)
  ·exact wpAny_loadName_free O.kind q a b ⟨rfl,e3⟩ (by simpa using z)
 ·exact e2.elim
theorem amY{a:AV}(h:bW a=false):a≠ .unb:=fun q=>by rw[q]at h;cases h
theorem uQ(O:ve X){i:Nat}{x:Str}{p:Pos}(hx:X.names i=some x):b6 X k (al i) (.Name x p):=fun A _ W fr σ s T a ai e=>by
 refine kN e fun hu e=> ?_
 apply s2 e
 have hd:(x==("__debug__":Str))=false:=by
  cases z:(x==("__debug__":Str))with
  |false=>rfl
  |true=>exact absurd (O.plain i x hx) (by rw[beq_iff_eq.mp z];decide)
 exact wpAny_Name (eC (T.load O hx (amY hu)) fun v s' h=>by rw[h.1];exact T.post h.2) hd
def ni(C:PC)(x:Str)(a:AV):Prop:= ∀M A E (env:Env) (W:Wd) σ s (Q:ah->az->Prop),env.globals=mainGlobals->env.builtins=builtinsNs->cC C W σ s.heap->(∀v,V C W a v->Q v s)->wpAny M A (loadGlobal env x) Q E s
theorem YK(O:ve X){a:AV}{x:Str}{p:Pos}(hx:X.env.kindOf x=some .globalImplicit)(hd:(x==("__debug__":Str))=false)(h:ni X.C x a):b6 X k (ba a) (.Name x p):=fun A _ W fr σ s T b ai e=>by
 apply s2 e
 exact yJ O.kind hx (h _ A dw X.env W σ s _ O.glob O.blt T.rel fun v q=>T.post q) hd
def am7(X:FX)(k:Nat)(t:ah->ah->Sem ah)(f:AV->AV->AS->Option (AV×AS)):Prop:=
 ∀A,eN A k-> ∀W fr σ s,St X W fr σ s-> ∀a b v w,V X.C W a v->V X.C W b w-> ∀c ai,f a b σ=some (c,ai)->wpAny (dH X.C) A (t v w) (fQ X W fr c ai) dw s
theorem W4{f:AV->AV->AS->Option (AV×AS)}{m n:EM}{c:AV}(e:bi f m n fr σ=some (c,ai)){P:Prop}(k: ∀a ay b aM,m fr σ=some (a,ay)->n fr ay=some (b,aM)->f a b aM=some (c,ai)->P):P:=
 fS e fun a ay e1 e=>fS e fun b aM e2 e=>k a ay b aM e1 e2 e
theorem fQ.elim{a:AV}{v:ah}{P:Prop}(h:fQ X W fr a σ v s)(k: ∀W',W.le W'->St X W' fr σ s->V X.C W' a v->P):P:=by
 obtain⟨W',h1,h2,h3⟩:=h;exact k W' h1 h2 h3
theorem Ko.elim{a:aa}{v:List ah}{P:Prop}(h:Ko X W fr a σ v s)(k: ∀W',W.le W'->St X W' fr σ s->VL X.C W' a v->P):P:=by
 obtain⟨W',h1,h2,h3⟩:=h;exact k W' h1 h2 h3
@[elab_as_elim] theorem o0.elim {b b':Bool} {Q:Bool->Prop} (h:o0 X W fr b σ b' s) (k: ∀W',W.le W'->St X W' fr σ s->Q b):Q b':=by
 obtain⟨rfl,W',h1,h2⟩:=h;exact k W' h1 h2
theorem yZ.elim{P:Prop}(h:yZ X W fr σ s)(k: ∀W',W.le W'->St X W' fr σ s->P):P:=by
 obtain⟨W',h1,h2⟩:=h;exact k W' h1 h2
theorem b6.go{m:EM}{x:an}(hm:b6 X k m x)(R:eN A k)(T:St X W fr σ s){a:AV}{ay:AS}(e:m fr σ=some (a,ay)){Q:ah->az->Prop}(h: ∀v bq bm,W.le bm->St X bm fr ay bq->V X.C bm a v->Q v bq):wpAny (dH X.C) A (eval x X.env) Q dw s:=
 eC (hm A R W fr σ s T a ay e) fun v bq z=>z.elim fun bm l bw q=>h v bq bm l bw q
theorem Ac.go{m:LM}{x:List an}(hm:Ac X k m x)(R:eN A k)(T:St X W fr σ s){a:aa}{ay:AS}(e:m fr σ=some (a,ay))(pos:Pos){Q:List ah->az->Prop}(h: ∀v bq bm,W.le bm->St X bm fr ay bq->VL X.C bm a v->Q v bq):wpAny (dH X.C) A (spliced (backTo pos (starEach x X.env))) Q dw s:=
 eC (hm A R W fr σ s T a ay e pos) fun v bq z=>z.elim fun bm l bw q=>h v bq bm l bw q
theorem nh.go{m:BM}{x:an}(hm:nh X k m x)(R:eN A k)(T:St X W fr σ s){b:Bool}{ay:AS}(e:m fr σ=some (b,ay)){Q:Bool->az->Prop}(h: ∀bq bm,W.le bm->St X bm fr ay bq->Q b bq):wpAny (dH X.C) A (isTrue x X.env (eval x X.env)) Q dw s:=
 eC (hm A R W fr σ s T b ay e) fun b' bq z=>z.elim fun bm l bw=>h bq bm l bw
theorem EL{m n:EM}{a b:an}(hm:b6 X k m a)(hn:b6 X k n b){Q:ah->ah->az->Prop}(R:eN A k)(T:St X W fr σ s){x y:AV}{ay aM:AS}(e1:m fr σ=some (x,ay))(e2:n fr ay=some (y,aM))
  (h: ∀v w dW cA,W.le cA->St X cA fr aM dW->V X.C cA x v->V X.C cA y w->Q v w dW):
  wpAny (dH X.C) A (eval a X.env) (fun v bq=>wpAny (dH X.C) A (eval b X.env) (fun w dW=>Q v w dW) dw bq) dw s:=
 hm.go R T e1 fun v bq bm bC bw d8=>hn.go R bw e2 fun w dW cA dQ cP j5=>h v w dW cA (bC.trans dQ) cP (d8.mono dQ) j5
theorem akp{op:iD}{f:AV->AV->AS->Option (AV×AS)}{m n:EM}{a b:an}{p:Pos}(hm:b6 X k m a)(hn:b6 X k n b)(ho:am7 X k (binaryOp op) f):b6 X k (bi f m n) (.BinOp a op b p):=fun A R W fr σ s T c ai e=>
 W4 e fun x ay y aM e1 e2 e3=>wpAny_BinOp (EL hm hn R T e1 e2 fun v w dW cA l cP d8 j5=>eC (ho A R cA fr aM dW cP x y v w d8 j5 c ai e3) fun _ _ z=>z.le l)
end
end
end
section
open PySem.SeqAt
noncomputable section
theorem kO: ∀{a b:ac},dm a b=decide (a=b)
 |[],[]=>by simp[agD]
 |[],_::_=>by simp[agC]
 |_::_,[]=>by simp[agB]
 |a::r,b::t=>by
  rw[agA,kO,gg]
  by_cases h:a=b<;>by_cases q:r=t<;>simp[h,q]
theorem rf{a b:Int}:KJ a b=decide (a=b):=by
 cases a with
 |ofNat a=>cases b with
  |ofNat b=>
   show aj a b=_
   rw[gg]
   exact decide_eq_decide.mpr ⟨fun h=>by rw[h],fun h=>Int.ofNat.inj h⟩
  |negSucc b=>rfl
 |negSucc a=>cases b with
  |ofNat b=>rfl
  |negSucc b=>
   show aj a b=_
   rw[gg]
   exact decide_eq_decide.mpr ⟨fun h=>by rw[h],fun h=>abr h⟩
theorem qx{a b:ac}:(aO a==aO b)=dm a b:=by
 rw[kO,oB,beq_iff_eq,decide_eq_true_iff]
 exact⟨fun h=>by have:=congrArg (fun x=>x.cps.toList) h;simpa[aO] using this,fun h=>by rw[h]⟩
section
variable{A:b5}{s:az}
theorem RcAt.bytes_bytes(a b:Array UInt8)(t u:Tok):RcAt A s (.bytes a t) (.bytes b u) (a.toList==b.toList):=fun prog w E Q h=>PySem.W.eq_bytes h
theorem EqAt.bytes_bytes(a b:Array UInt8)(t u:Tok):EqAt A s (.bytes a t) (.bytes b u) (a.toList==b.toList):=fun prog w E Q h=>by
 unfold eqBool
 refine dJ ?_
 refine wpAny_ite_split (fun hab=> ?_) (fun _=> ?_)
 ·have e:=eq_of_beq hab
  injection e with e1 e2
  subst e1
  exact aq (Ib (aL (by simpa using h)))
 ·exact aq (RcAt.bytes_bytes a b t u prog w E _ (fP h))
theorem RcNeAt.bytes_bytes(a b:Array UInt8)(t u:Tok):RcNeAt A s (.bytes a t) (.bytes b u) (!(a.toList==b.toList)):=fun prog w E Q h=>PySem.W.ne_bytes (by simpa[bne] using h)
variable{C:PC}{W:Wd}
theorem wU{x n:Nat}{vs:List ah}(hi: ∀b o,W.im b=some o->s.heap.get? b=some o)(e:W.im x=some (tq vs n)):s.heap.IsTuple x vs.toArray:=⟨_,hi _ _ e,rfl,n,rfl⟩
structure Eqs(A:b5)(s:az)(v w:ah)(r:Bool):Prop where
 rc:RcAt A s v w r
 ne:RcNeAt A s v w (!r)
 eq:EqAt A s v w r
@[elab_as_elim] theorem Xv {b:AV} {r:Bool} {Q:AV->Bool->Prop} (e:U5 b=some r) (k1:Q .none true) (k2: ∀i,Q (.int i) false) (k3: ∀i,Q (.str i) false) (k4: ∀i,Q (.tup i) false):Q b r:=by
 cases b<;>first|exact nn e|(apply s1 e;first|exact k1|exact k2 _|exact k3 _|exact k4 _)
@[elab_as_elim] theorem ab1 {x:Int} {b:AV} {r:Bool} {Q:AV->Bool->Prop} (e:ZU x b=some r) (k1: ∀i,Q (.int i) (KJ x i)) (k2:Q .none false):Q b r:=by
 cases b<;>first|exact nn e|(apply s1 e;first|exact k2|exact k1 _)
@[elab_as_elim] theorem ab2 {x:ac} {b:AV} {r:Bool} {Q:AV->Bool->Prop} (e:ZV x b=some r) (k1: ∀i,Q (.str i) (dm x i)) (k2:Q .none false):Q b r:=by
 cases b<;>first|exact nn e|(apply s1 e;first|exact k2|exact k1 _)
@[elab_as_elim] theorem Xu {x:Bool} {b:AV} {r:Bool} {Q:AV->Bool->Prop} (e:Py x b=some r) (k1: ∀i,Q (.bool i) (x==i)):Q b r:=by
 cases b<;>first|exact nn e|(apply s1 e;exact k1 _)
@[elab_as_elim] theorem SW {x:List UInt8} {b:AV} {r:Bool} {Q:AV->Bool->Prop} (e:IR x b=some r) (k1: ∀i,Q (.bytes i) (x==i)):Q b r:=by
 cases b<;>first|exact nn e|(apply s1 e;exact k1 _)
@[elab_as_elim] theorem afA {a b:AV} {r:Bool} {Q:AV->Prop} (e:LW a b=some r) (k1:U5 b=some r->Q .none) (k2: ∀x,Py x b=some r->Q (.bool x)) (k3: ∀x,ZU x b=some r->Q (.int x)) (k4: ∀x,ZV x b=some r->Q (.str x)) (k5: ∀l,s9 b (some false)=some r->Q (.tup l)) (k6: ∀x,IR x b=some r->Q (.bytes x)):Q a:=by
 cases a<;>first|exact nn e|exact k1 e|exact k2 _ e|exact k3 _ e|exact k4 _ e|exact k5 _ e|exact k6 _ e
theorem LX(hi: ∀b o,W.im b=some o->s.heap.get? b=some o)(hu:A.units<cLine){a b:AV}{r:Bool}(e:LW a b=some r){v w:ah}:V C W a v->V C W b w->Eqs A s v w r:=by
 refine afA e (fun e hv=> ?_) (fun x e hv=> ?_) (fun x e hv=> ?_) (fun x e hv=> ?_) (fun l e hv=> ?_) fun x e hv=> ?_
 ·refine hv.noneE ?_
  exact Xv e (fun hw=>hw.noneE ⟨RcAt.none_none,RcNeAt.none_none,EqAt.same _⟩) (fun _ hw=>hw.intE fun t=>⟨RcAt.none_int _ _,RcNeAt.none_int _ _,EqAt.none_int _ _⟩)
   (fun _ hw=>hw.strE fun t=>⟨RcAt.none_str _ _,RcNeAt.none_str _ _,EqAt.none_str _ _⟩) fun _ hw=>hw.tupE fun x n vs q _=>⟨RcAt.none_tuple (wU hi q) hu,RcNeAt.none_tuple (wU hi q) hu,EqAt.none_tuple (wU hi q) hu⟩
 ·refine hv.boolE ?_
  exact Xu e fun _ hw=>hw.boolE ⟨RcAt.bool_bool _ _,RcNeAt.bool_bool _ _,EqAt.bool_bool _ _⟩
 ·refine hv.intE fun t=> ?_
  exact ab1 e (fun _ hw=>by rw[rf];exact hw.intE fun t=>⟨RcAt.int_int _ _ _ _,RcNeAt.int_int _ _ _ _,EqAt.int_int _ _ _ _⟩) fun hw=>hw.noneE ⟨RcAt.int_none _ _,RcNeAt.int_none _ _,EqAt.int_none _ _⟩
 ·refine hv.strE fun t=> ?_
  exact ab2 e (fun _ hw=>by rw[<- qx];exact hw.strE fun t=>⟨RcAt.str_str _ _ _ _,RcNeAt.str_str _ _ _ _,EqAt.str_str _ _ _ _⟩) fun hw=>hw.noneE ⟨RcAt.str_none _ _,RcNeAt.str_none _ _,EqAt.str_none _ _⟩
 ·refine hv.tupE fun x n vs q _=> ?_
  refine Cp e fun e hw=> ?_
  apply s1 e
  exact hw.noneE ⟨RcAt.tuple_none (wU hi q) hu,RcNeAt.tuple_none (wU hi q) hu,EqAt.tuple_none (wU hi q) hu⟩
 ·refine hv.bytesE fun t=> ?_
  refine SW e fun y hw=>hw.bytesE fun u=> ?_
  have z:=fun p q:List UInt8=>show(p.toArray.toList==q.toArray.toList)=(p==q) by simp
  rw[<- z]
  exact⟨RcAt.bytes_bytes _ _ _ _,RcNeAt.bytes_bytes _ _ _ _,EqAt.bytes_bytes _ _ _ _⟩
theorem Pz{f:AV->AV->Option Bool}{P:ah->ah->Bool->Prop}(hf: ∀a b r,f a b=some r-> ∀v w,V C W a v->V C W b w->P v w r): ∀{l m:aa} {r:Bool},KL f l m=some r->
  ∀{vs ws:List ah},VL C W l vs->VL C W m ws-> ∃e:Nat->Bool,(∀j (h1:j<vs.length) (h2:j<ws.length),P vs[j] ws[j] (e j))/\r=((cB (min vs.length ws.length)).all e&&vs.length==ws.length):=by
 intro l
 induction l with
 |nil=>
  intro m r h vs ws hv hw
  refine hv.nilE ?_
  cases m with
  |nil=>
   apply s1 h
   exact hw.nilE ⟨fun _=>true,fun j h1=>absurd h1 (iw _),rfl⟩
  |cons=>
   apply s1 h
   exact hw.consE fun w ws _ _=>⟨fun _=>true,fun j h1=>absurd h1 (iw _),by simp⟩
 |cons a l ih=>
  intro m r h vs ws hv hw
  refine hv.consE fun v vs h1 h2=> ?_
  cases m with
  |nil=>
   apply s1 h
   exact hw.nilE ⟨fun _=>true,fun j _ h2=>absurd h2 (iw _),by simp⟩
  |cons b m=>
   refine hw.consE fun w ws h3 h4=>oE h fun x hx h=>oE h fun y hy h=> ?_
   apply s1 h
   obtain⟨e,p,q⟩:=ih hy h2 h4
   refine⟨fun j=>match j with|0=>x|j+1=>e j,fun j h1' h2'=> ?_,?_⟩
   ·cases j with
    |zero=>exact hf _ _ _ hx _ _ h1 h3
    |succ j=>exact p j (m8 h1') (m8 h2')
   ·rw[q]
    simp only[bQ,Nat.succ_min_succ]
    rw[List.range_succ_eq_map]
    simp only[rA,List.all_map]
    cases x<;>simp[Function.comp_def]
theorem O2{a b:AV}{r:Bool}(e:LW a b=some r){v:ah}:V C W a v->V C W b v->r=true:=by
 refine afA e (fun e hv=> ?_) (fun x e hv=> ?_) (fun x e hv=> ?_) (fun x e hv=> ?_) (fun l e hv=> ?_) fun x e hv=> ?_
 ·refine hv.noneE ?_
  exact Xv e (fun _=>rfl) (fun _ hw=>let⟨t,q⟩:=hw;sp q) (fun _ hw=>let⟨t,q⟩:=hw;sp q) fun _ hw=>let⟨x,n,vs,q,_⟩:=hw;sp q
 ·exact Xu e fun y hw=>by cases hv;cases hw;simp
 ·exact ab1 e (fun y hw=>by obtain⟨t,rfl⟩:=hv;obtain⟨u,q⟩:=hw;cases q;simp[rf]) fun hw=>by obtain⟨t,rfl⟩:=hv;cases hw
 ·exact ab2 e (fun y hw=>by
   obtain⟨t,rfl⟩:=hv;obtain⟨u,q⟩:=hw
   rw[<- qx]
   injection q with q1;simp[q1]) fun hw=>by obtain⟨t,rfl⟩:=hv;cases hw
 ·refine Cp e fun e hw=> ?_
  obtain⟨x,n,vs,rfl,q,_⟩:=hv
  cases hw
 ·refine SW e fun y hw=> ?_
  obtain⟨t,rfl⟩:=hv
  obtain⟨u,q⟩:=hw
  injection q with q1
  have q2:=congrArg NY q1
  simp only at q2
  simp[q2]
theorem adt{f:AV->AV->Option Bool}(hf: ∀a b r,f a b=some r-> ∀v,V C W a v->V C W b v->r=true): ∀{l m:aa} {r:Bool},KL f l m=some r-> ∀{vs:List ah},VL C W l vs->VL C W m vs->r=true:=by
 intro l
 induction l with
 |nil=>
  intro m r h vs hv hw
  cases m with
  |nil=>apply s1 h;rfl
  |cons=>cases hv;obtain⟨_,_,q,_⟩:=hw;cases q
 |cons a l ih=>
  intro m r h vs hv hw
  cases m with
  |nil=>cases hw;obtain⟨_,_,q,_⟩:=hv;cases q
  |cons b m=>
   obtain⟨v,vs,rfl,h1,h2⟩:=hv
   obtain⟨w,ws,q,h3,h4⟩:=hw
   cases q
   refine oE h fun x hx h=>oE h fun y hy h=> ?_
   apply s1 h
   rw[hf _ _ _ hx _ h1 h3,ih hy h2 h4];rfl
@[elab_as_elim] theorem anb {n:Nat} {a b:AV} {r:Bool} (e:wC (n+1) a b=some r) {Q:AV->AV->Prop} (k: ∀l m,KL (wC n) l m=some r->Q (.tup l) (.tup m)) (k':LW a b=some r->Q a b):Q a b:=bE e (fun _ e=>ND e fun l e=>ND e fun m e=>k l m e) fun _ e=>k' e
theorem ac8: ∀(n:Nat) (a b:AV) (r:Bool),wC n a b=some r-> ∀v:ah,V C W a v->V C W b v->r=true:=by
 intro n
 induction n with
 |zero=>intro a b r e v hv hw;exact O2 e hv hw
 |succ n ih=>
  intro a b r e v
  refine anb e (fun l m e hv hw=> ?_) fun e hv hw=>O2 e hv hw
  obtain⟨x,k,vs,rfl,q,hl⟩:=hv
  obtain⟨y,k',ws,q2,q',hm⟩:=hw
  cases q2
  have:=q.symm.trans q'
  simp only[Y4,Obj.mk.injEq,Data.seq.injEq,true_and,and_true]at this
  have e1:vs=ws:=by simpa using this.1
  subst e1
  exact adt ih e hl hm
theorem O4(hi: ∀b o,W.im b=some o->s.heap.get? b=some o): ∀(n:Nat) (A:b5),A.units+n<cLine-> ∀(a b:AV) (r:Bool),wC n a b=some r-> ∀v w:ah,V C W a v->V C W b w->Eqs A s v w r:=by
 intro n
 induction n with
 |zero=>intro A hu a b r e v w hv hw;exact LX hi hu e hv hw
 |succ n ih=>
  intro A hu a b r e v w
  have hu':A.units<cLine:=fc (cY _ _) hu
  have hu1:A.in1.units+n<cLine:=by show A.units+1+n<_;rw[Nat.add_right_comm];exact hu
  have same:=fun v=>ac8 (C:=C) (W:=W) (n+1) a b r e v
  revert same
  refine anb e (fun l m e same hv hw=> ?_) (fun e _ hv hw=>LX hi hu' e hv hw)
  obtain⟨x,k,vs,rfl,q,hl⟩:=hv
  obtain⟨y,k',ws,rfl,q',hm⟩:=hw
  obtain⟨f,p,rfl⟩:=Pz (P:=Eqs A.in1 s) (fun a b r e v w hv hw=>ih A.in1 hu1 a b r e v w hv hw) e hl hm
  have key:=RcAt.tuples (e:=f) (wU hi q) (wU hi q') hu' (fun j h1 h2=>by simpa using (p j (by simpa using h1) (by simpa using h2)).eq)
  have key2:=RcNeAt.tuples (e:=f) (wU hi q) (wU hi q') hu' (fun j h1 h2=>by simpa using (p j (by simpa using h1) (by simpa using h2)).eq)
  simp only[aZ]at key key2
  refine⟨key,key2,?_⟩
  by_cases z:x=y
  ·subst z
   rw[same _ ⟨x,k,vs,rfl,q,hl⟩ ⟨x,k',ws,rfl,q',hm⟩];exact EqAt.same _
  ·exact EqAt.of_refs z key
end
end
end
section
open PySem.SeqAt
noncomputable section
theorem bO(s:ac):(aO s).length=s.length:=by simp[aO,Um]
theorem gQ(s:ac):(aO s).cps.toList=s:=by simp[aO]
theorem R9(s t:ac):aO s++aO t=aO (s++t):=by
 show Ul _ _=_
 simp[Ul,aO]
theorem Hy: ∀{p s:ac},j0 p s=true↔s.take p.length=p
 |[],s=>by simp[aiO]
 |_::_,[]=>by simp[aek]
 |a::r,b::t=>by
  rw[Tz,cK,Hy,gg,decide_eq_true_iff]
  simp only[bQ,Bb,vn]
  exact⟨fun⟨x,y⟩=>⟨x.symm,y⟩,fun⟨x,y⟩=>⟨x.symm,y⟩⟩
theorem PO: ∀{p s:ac},zj p s=true↔ ∃i,i<=s.length/\j0 p (s.drop i)=true
 |p,[]=>by
  rw[ahX]
  exact⟨fun h=>⟨0,ax _,h⟩,fun⟨i,_,h⟩=>by simpa using h⟩
 |p,b::t=>by
  rw[I0,oG,PO]
  constructor
  ·rintro(h|⟨i,h1,h2⟩)
   ·exact⟨0,aU _,h⟩
   ·exact⟨i+1,be h1,h2⟩
  ·rintro⟨i,h1,h2⟩
   cases i with
   |zero=>exact .inl h2
   |succ i=>exact .inr ⟨i,m7 h1,h2⟩
theorem XY(c:Nat): ∀s:List Nat,FZ c s=zj [c] s
 |[]=>rfl
 |b::t=>by
  rw[Ja,I0,Tz,<- XY c t]
  show(aj c b||FZ c t)=(aj c b&&true||FZ c t)
  rw[zL]
theorem XI(p s:ac):PN p s=zj p s:=by
 match p with
 |[]=>rfl
 |[c]=>exact XY _ _
 |_::_::_=>rfl
theorem adW{p s:ac}:PN p s=true↔ ∃i,i<=s.length/\j0 p (s.drop i)=true:=by rw[XI];exact PO
theorem S5(p s:ac):(!(Ra (aO s) (aO p) 0 (aO s).length 1).isEmpty)=PN p s:=by
 rw[oB,StrLaws.found_iff,adW]
 simp only[bO,tP,gQ,beq_iff_eq,Hy]
 constructor
 ·rintro⟨i,h1,h2⟩;exact⟨i,by omega,h2⟩
 ·rintro⟨i,h1,h2⟩
  refine⟨i,?_,h2⟩
  have:=congrArg mZ h2
  simp only[ki,g9]at this
  omega
theorem Pa{a b:Nat}:bz a b=decide (a<b):=by rw[oB,decide_eq_true_iff,dh]
theorem xV{a b:Int}:CS a b=decide (a<b):=by
 cases a with
 |ofNat a=>cases b with
  |ofNat b=>
   show bz a b=_
   rw[Pa]
   exact decide_eq_decide.mpr ib.symm
  |negSucc b=>
   refine(decide_eq_false ?_).symm
   exact sR.mpr (Int.le_of_lt (Bn (pO b) (dq a)))
 |negSucc a=>cases b with
  |ofNat b=>
   refine(decide_eq_true ?_).symm
   exact Bn (pO a) (dq b)
  |negSucc b=>
   show bz b a=_
   rw[Pa]
   exact decide_eq_decide.mpr (by omega)
theorem Ez: ∀{a b:ac},CT a b=decide (a<b)
 |[],[]=>by simp[CT]
 |_::_,[]=>by simp[CT]
 |[],_::_=>by simp[CT]
 |a::r,b::t=>by
  rw[CT,Ez,StrLaws.lt_cons_cons,gg]
  rw[Pa]
  congr 1
section
variable{C:PC}{W:Wd}{σ:AS}{h:bM}{A:b5}{s:az}
@[elab_as_elim] theorem aoz {a:AV} {l:aa} {Q:AV->Prop} (e:iR σ a=some l) (k1:Q (.lst l)) (k2: ∀x,σ.get x=some (.lst l)->Q (.ref x)):Q a:=by
 cases a<;>first|exact nn e|skip
 ·cases e;exact k1
 ·refine lstE e fun l' hg e=> ?_
  cases e;exact k2 _ hg
@[elab_as_elim] theorem nk (R:cC C W σ h) {a:AV} {l:aa} (e:iR σ a=some l) {v:ah} {Q:ah->Prop} (hv:V C W a v) (k: ∀x n vs,h.get? x=some (dy vs n)->VL C W l vs->Q (.ref x)):Q v:=by
 revert hv
 refine aoz e (fun hv=> ?_) fun x hg hv=> ?_
 ·exact hv.lstE fun x n vs q r=>k x n vs (R.im _ _ q) r
 ·exact R.lstE hg hv fun p vs n _ _ q r=>k p.1 n vs q r
theorem lP{x n:Nat}{vs:List ah}(e:h.get? x=some (dy vs n)):h.IsList x vs.toArray:=⟨_,e,rfl,n,rfl⟩
@[elab_as_elim] theorem Hp (R:cC C W σ h) {a:AV} {l:aa} (e:nC σ a=some l) {v:ah} {Q:ah->Prop} (hv:V C W a v) (k: ∀x n vs,VL C W l vs->(h.get? x=some (dy vs n)\/h.get? x=some (tq vs n))->Q (.ref x)):Q v:=by
 by_cases ht: ∃m,a= .tup m
 ·obtain⟨m,rfl⟩:=ht
  cases e
  exact hv.tupE fun x n vs q r=>k x n vs r (.inr (R.im _ _ q))
 ·have e':iR σ a=some l:=by
   cases a<;>first|exact nn e|exact e|skip
   exact absurd ⟨_,rfl⟩ ht
  exact nk R e' hv fun x n vs q r=>k x n vs r (.inl q)
@[elab_as_elim] theorem Ho (R:cC C W σ h) {a:AV} {l:aa} (e:nC σ a=some l) {v:ah} {Q:ah->Prop} (hv:V C W a v) (k: ∀x vs,VL C W l vs->(h.IsList x vs.toArray\/h.IsTuple x vs.toArray)->Q (.ref x)):Q v:=
 Hp R e hv fun x n vs q z=>k x vs q (z.imp (fun z=>⟨_,z,rfl,n,rfl⟩) fun z=>⟨_,z,rfl,n,rfl⟩)
@[elab_as_elim] theorem an0 {a:AV} {ks:List (List Nat)} {Q:AV->Prop} (e:Pn σ a=some ks) (k1: ∀vs,Q (.dct ks vs)) (k2: ∀x vs,σ.get x=some (.dct ks vs)->Q (.ref x)):Q a:=by
 cases a<;>first|exact nn e|skip
 ·cases e;exact k1 _
 ·refine dctE e fun ks' vs hg e=> ?_
  cases e;exact k2 _ _ hg
@[elab_as_elim] theorem Po (R:cC C W σ h) {a:AV} {ks:List (List Nat)} (e:Pn σ a=some ks) {v:ah} {Q:ah->Prop} (hv:V C W a v) (k: ∀x vs,(x==sysModules)=false->ks.length=vs.length->h.DictOf (strKind C.prog C.w) x ((ks.map aO).zip vs)->Q (.ref x)):Q v:=by
 revert hv
 refine an0 e (fun _ hv=> ?_) fun x _ hg hv=> ?_
 ·exact hv.dctE fun x o vs q0 q r z=>k x vs q0 z.1 (jr.mpr ⟨o,R.im _ _ q,z.2⟩)
 ·exact R.dctE hg hv fun p o vs _ _ q0 g r z=>k p.1 vs q0 z.1 (jr.mpr ⟨o,g,z.2⟩)
theorem Ju{α β:Type}{l:List α}{m:List β}:rr l m=decide (l.length=m.length):=by
 unfold rr
 rw[ip,ip,gg]
structure afq(C:PC)(A:b5)(s:az)(v w:ah)(r:Bool):Prop where
 eq: ∀Q:ah->az->Prop,Q (.bool r) s->wpAny (dH C) A (compareOp .Eq v w) Q dw s
 ne: ∀Q:ah->az->Prop,Q (.bool !r) s->wpAny (dH C) A (compareOp .NotEq v w) Q dw s
theorem agy{ks:List (List Nat)}{x y:aC}{vs ws:List ah}(hu:A.units+17<cLine)(x0:(x==sysModules)=false)(xl:ks.length=vs.length)(xd:s.heap.DictOf (strKind C.prog C.w) x ((ks.map aO).zip vs))(y0:(y==sysModules)=false)(yd:s.heap.DictOf (strKind C.prog C.w) y ((([]:List (List Nat)).map aO).zip ws)):afq C A s (.ref x) (.ref y) ks.isEmpty:=by
 have hl:((((ks.map aO).zip vs).length ==((([]:List (List Nat)).map aO).zip ws).length)&&true)=ks.isEmpty:=by
  cases ks with
  |nil=>simp
  |cons k ks=>cases vs with
   |nil=>simp at xl
   |cons v vs=>simp
 have hits:((ks.map aO).zip vs).length=((([]:List (List Nat)).map aO).zip ws).length->KeqHits A.in1 s ((([]:List (List Nat)).map aO).zip ws) ((ks.map aO).zip vs) true:=fun z=>by
  have:(ks.map aO).zip vs=[]:=mH.mp (by simpa using z)
  rw[this];exact KeqHits.nil
 exact⟨fun Q h=>keq_eq x0 y0 xd yd (by omega) hits (by rw[hl];exact h),fun Q h=>keq_ne x0 y0 xd yd (by omega) hits (by rw[hl];exact h)⟩
theorem agz(hi: ∀b o,W.im b=some o->s.heap.get? b=some o)(hu:A.units+17<cLine){l m:aa}{r:Bool}(e:(bif rr l m then KL (wC 16) l m else some false)=some r){x y n n':Nat}{vs ws:List ah}(g:s.heap.get? x=some (dy vs n))(q:VL C W l vs)(g':s.heap.get? y=some (dy ws n'))(q':VL C W m ws):afq C A s (.ref x) (.ref y) r:=by
 have hu':A.units<cLine:=fc (cY _ _) hu
 refine bE e (fun hs e=> ?_) fun hs e=> ?_
 ·rw[Ju,decide_eq_true_iff]at hs
  have hs':vs.length=ws.length:=by rw[q.length,q'.length,hs]
  obtain⟨f,p,rfl⟩:=Pz (P:=Eqs A.in1 s) (fun a b r e v w hv hw=>O4 (C:=C) hi 16 A.in1 (by show A.units+1+16<_;rw[kE];exact hu) a b r e v w hv hw) e q q'
  have he: ∀j (h1:j<vs.toArray.size) (h2:j<ws.toArray.size),EqAt A.in1 s vs.toArray[j] ws.toArray[j] (f j):=fun j h1 h2=>by simpa using (p j (by simpa using h1) (by simpa using h2)).eq
  have k1:=RcAt.lists (e:=f) (lP g) (lP g') (by simpa using hs') hu' he
  have k2:=RcNeAt.lists (e:=f) (lP g) (lP g') (by simpa using hs') hu' he
  simp only[aZ]at k1 k2
  have ez:((cB (min vs.length ws.length)).all f&&vs.length==ws.length)=(cB vs.length).all f:=by rw[hs'];simp
  rw[ez]
  exact⟨fun Q h=>k1 _ _ _ _ h,fun Q h=>k2 _ _ _ _ h⟩
 ·apply s1 e
  rw[Ju,decide_eq_false_iff_not]at hs
  have hs':(vs.toArray.size !=ws.toArray.size)=true:=by simpa[q.length,q'.length] using hs
  exact⟨fun Q h=>RcAt.lists_lengths (lP g) (lP g') hs' hu' _ _ _ _ h,fun Q h=>RcNeAt.lists_lengths (lP g) (lP g') hs' hu' _ _ _ _ h⟩
theorem Px(R:cC C W σ s.heap)(hu:A.units+17<cLine){a b:AV}{r:Bool}(e:eqA σ a b=some r){v w:ah}(hv:V C W a v)(hw:V C W b w):afq C A s v w r:=by
 have hi:=R.im
 refine odE e (fun b' q e=> ?_) fun e=>odE e (fun l hl e=>oE e fun m hm e=> ?_) fun e=>oE e fun ks hk e=>oE e fun ks' hm e=>kS e fun z e=> ?_
 ·apply s1 e
  have z:=O4 (C:=C) hi 16 A (fc (cR _) hu) a b b' q v w hv hw
  exact⟨fun Q h=>z.rc _ _ _ _ h,fun Q h=>z.ne _ _ _ _ h⟩
 ·exact nk R hl hv fun x n vs g q=>nk R hm hw fun y n' ws g' q'=>agz hi hu e g q g' q'
 ·apply s1 e
  have z:ks'=[]:=dM.mp z
  subst z
  exact Po R hk hv fun x vs x0 xl xd=>Po R hm hw fun y ws y0 _ yd=>agy hu x0 xl xd y0 yd
end
end
end
section
open PySem.SeqAt
noncomputable section
section
variable{C:PC}{W:Wd}{σ:AS}{h:bM}{A:b5}{s:az}
structure GG(C:PC)(A:b5)(s:az)(v w:ah)(r:Bool):Prop where
 isIn: ∀Q:ah->az->Prop,(∀t,Q (.bool r) {s with toks:=t})->wpAny (dH C) A (compareOp .In v w) Q dw s
 not: ∀Q:ah->az->Prop,(∀t,Q (.bool !r) {s with toks:=t})->wpAny (dH C) A (compareOp .NotIn v w) Q dw s
theorem O0: ∀{l:aa} {ss:List (List Nat)},nK l=some ss-> ∀{vs:List ah},VL C W l vs-> ∃ts:List Tok,ts.length=ss.length/\vs=(ss.zip ts).map fun p=>.str (aO p.1) p.2:=by
 intro l
 induction l with
 |nil=>intro ss e vs hv;cases e;exact hv.nilE ⟨[],rfl,rfl⟩
 |cons a l ih=>
  intro ss e vs hv
  refine hv.consE fun v r hv h2=> ?_
  revert hv
  refine fU e fun x e hv=>oE e fun ss' q e=> ?_
  cases e
  refine hv.strE fun t=> ?_
  obtain⟨ts,a,b⟩:=ih q h2
  exact⟨t::ts,by simp[a],by simp[b]⟩
theorem afy: ∀{l:aa} {ss:List Int},NM l=some ss-> ∀{vs:List ah},VL C W l vs-> ∃ts:List Tok,ts.length=ss.length/\vs=(ss.zip ts).map fun p=>.int p.1 p.2:=by
 intro l
 induction l with
 |nil=>intro ss e vs hv;cases e;exact hv.nilE ⟨[],rfl,rfl⟩
 |cons a l ih=>
  intro ss e vs hv
  refine hv.consE fun v r hv h2=> ?_
  revert hv
  refine lq e fun x e hv=>oE e fun ss' q e=> ?_
  cases e
  refine hv.intE fun t=> ?_
  obtain⟨ts,a,b⟩:=ih q h2
  exact⟨t::ts,by simp[a],by simp[b]⟩
noncomputable def isS(x:Str)(y:ah):Bool:=match y with
 | .str z _=>z==x
 |_=>false
noncomputable def isI(x:Int)(y:ah):Bool:=match y with
 | .int z _=>z==x
 |_=>false
theorem SE(p:ac): ∀(ss:List (List Nat)) (ts:List Tok),ts.length=ss.length->(((ss.zip ts).map fun p=>gu (aO p.1) p.2).any (isS (aO p)))=wD p ss
 |[],_,_=>by simp[WV]
 |a::r,[],e=>by simp at e
 |a::r,t::ts,e=>by
  rw[bP,bh,rB,WU,SE p r ts (by simpa using e),<- qx];rfl
theorem SD(i:Int): ∀(ss:List Int) (ts:List Tok),ts.length=ss.length->(((ss.zip ts).map fun p=>Br p.1 p.2).any (isI i))=WT i ss
 |[],_,_=>by simp[WT]
 |a::r,[],e=>by simp at e
 |a::r,t::ts,e=>by
  have:(a==i)=KJ a i:=by rw[rf];rfl
  rw[bP,bh,rB,WT,SD i r ts (by simpa using e),<- this];rfl
theorem acf{v:ah}{vs:List ah}{r:Bool}{f:ah->Bool}(hf: ∀y,y∈vs.toArray->EqAt A.in1 s y v (f y))(he:vs.toArray.any f=r){w:aC}(hw:s.heap.IsList w vs.toArray\/s.heap.IsTuple w vs.toArray):GG C A s v (.ref w) r:=by
 subst he
 rcases hw with hw|hw
 ·exact⟨fun Q h=>in_listAt f hw hf (h s.toks),fun Q h=>notIn_listAt f hw hf (h s.toks)⟩
 ·exact⟨fun Q h=>in_tupleAt f hw hf (h s.toks),fun Q h=>notIn_tupleAt f hw hf (h s.toks)⟩
theorem aad{x:AV}{l:aa}{r:Bool}(e:inL x l=some r){v:ah}(hv:V C W x v){vs:List ah}(hl:VL C W l vs){w:aC}(hw:s.heap.IsList w vs.toArray\/s.heap.IsTuple w vs.toArray):
  GG C A s v (.ref w) r:=by
 revert hv
 cases x<;>intro hv<;>first|exact nn e|skip
 ·refine oE (show ob (NM l) _=_ from e) fun ss q e=> ?_
  apply s1 e
  refine hv.intE fun t=> ?_
  obtain⟨ts,a,rfl⟩:=afy q hl
  exact acf (f:=isI _) (fun y hy=>by
   simp only[tG,dD]at hy
   obtain⟨z,_,rfl⟩:=hy
   exact EqAt.int_int _ _ _ _) (by rw[tD];exact SD _ ss ts a) hw
 ·refine oE (show ob (nK l) _=_ from e) fun ss q e=> ?_
  apply s1 e
  refine hv.strE fun t=> ?_
  obtain⟨ts,a,rfl⟩:=O0 q hl
  exact acf (f:=isS _) (fun y hy=>by
   simp only[tG,dD]at hy
   obtain⟨z,_,rfl⟩:=hy
   exact EqAt.str_str _ _ _ _) (by rw[tD];exact SE _ ss ts a) hw
theorem JP(p:ac): ∀(ks:List (List Nat)) (vs:List ah),ks.length=vs.length->(valueAt ((ks.map aO).zip vs) (aO p)).isSome=wD p ks
 |[],_,_=>by simp[valueAt,WV]
 |k::ks,[],e=>by simp at e
 |k::ks,v::vs,e=>by
  have ih:=JP p ks vs (by simpa using e)
  have z:=qx (a:=k) (b:=p)
  simp only[valueAt,bh,bP,oL,WU]at ih ⊢
  by_cases q:aO k=aO p
  ·rw[q]at z;simp only[beq_self_eq_true]at z;simp[q,<- z]
  ·have:dm k p=false:=by rw[<- z];exact beq_eq_false_iff_ne.mpr q
   simp[q,this,ih]
theorem aac{x:aC}{ks:List (List Nat)}{vs:List ah}{p:ac}{t:Tok}(x0:(x==sysModules)=false)(xl:ks.length=vs.length)(xd:s.heap.DictOf (strKind C.prog C.w) x ((ks.map aO).zip vs)):
  GG C A s (.str (aO p) t) (.ref x) (wD p ks):=by
 have e:=JP p ks vs xl
 exact⟨fun Q h=>wpAny_in_of (strKind_is C.prog C.w (aO p) t) x0 xd.mapOf (by rw[e];exact h _),fun Q h=>wpAny_notIn_of (strKind_is C.prog C.w (aO p) t) x0 xd.mapOf (by rw[e];exact h _)⟩
theorem aab(R:cC C W σ s.heap){x c:AV}{r:Bool}(e:inA σ x c=some r){v w:ah}(hv:V C W x v)(hw:V C W c w):GG C A s v w r:=by
 have dct: ∀{c:AV} {ks:List (List Nat)},Pn σ c=some ks->V C W c w->(eo x fun p=>some (wD p ks))=some r->GG C A s v w r:=fun hc hw e=>by
  revert hv
  refine fU e fun p e hv=> ?_
  apply s1 e
  exact hv.strE fun u=>Po R hc hw fun y vs y0 yl yd=>aac y0 yl yd
 have seq: ∀{c:AV} {l:List AV},nC σ c=some l->V C W c w->inL x l=some r->GG C A s v w r:=fun hc hw e=>Ho R hc hw fun y vs q z=>aad e hv q z
 revert hw
 cases c<;>intro hw<;>first|exact nn e|skip
 ·rename_i s'
  revert hv
  refine fU e fun p e hv=> ?_
  apply s1 e
  exact hv.strE fun u=>hw.strE fun t=>⟨fun Q h=>V9 (by rw[S5];exact h s.toks),fun Q h=>Ri (by rw[S5];exact h s.toks)⟩
 ·exact seq rfl hw e
 ·exact seq rfl hw e
 ·exact dct rfl hw e
 ·rename_i a
  refine oE (show ob (σ.get a) _=_ from e) fun cl hg e=> ?_
  cases cl<;>first|exact nn e|skip
  ·exact seq (c:=.ref a) (show np σ a some=_ by unfold np;rw[hg];rfl) hw e
  ·exact dct (c:=.ref a) (show SP σ a (fun ks _=>some ks)=_ by unfold SP;rw[hg];rfl) hw e
theorem FW{a:AV}{r:Bool}(e:lN a=some r){v:ah}(hv:V C W a v):(v== .none)=r:=by
 revert hv
 cases a<;>intro hv<;>first|exact nn e|(apply s1 e;first|exact hv.noneE rfl|exact hv.boolE rfl|exact hv.intE fun _=>rfl|exact hv.strE fun _=>rfl|exact hv.bytesE fun _=>rfl|exact hv.tupE fun _ _ _ _ _=>rfl|exact hv.lstE fun _ _ _ _ _=>rfl|exact hv.frzE fun _ _ _ _ _ _ _ _ _ _=>rfl|exact hv.dctE fun _ _ _ _ _ _ _=>rfl|exact hv.dctiE fun _ _ _ _ _ _ _=>rfl|exact hv.rngE fun _ _ _ _ _ _ _=>rfl|exact hv.refE fun _ _=>rfl)
end
end
end
section
open PySem.SeqAt
noncomputable section
section
variable{X:FX}{k:Nat}{W W':Wd}{fr:Fm}{σ ai:AS}{s s':az}{A:b5}
@[elab_as_elim] theorem Vq {o:Option Bool} {r:Bool} {P:Bool->Prop} (e:Tt o=some r) (k: ∀b,o=some b->P (!b)):P r:=oE e fun b q e=>by
 apply s1 e;exact k b q
theorem zd(hk:5<=k)(R:eN A k)(T:St X W fr σ s){op:gW}{a b:AV}{r:Bool}(e:b7 op a b σ=some r){v w:ah}(hv:V X.C W a v)(hw:V X.C W b w):
  wpAny (dH X.C) A (compareOp op v w) (fQ X W fr (.bool r) σ) dw s:=by
 have hu:A.units+17<cLine:=by have:=R.units;omega
 have fin: ∀r,fQ X W fr (.bool r) σ (.bool r) s:=fun r=>T.post rfl
 have two: ∀{f:Int->Int->Bool} {op:gW},(eW a fun i=>eW b fun j=>some (f i j))=some r->(∀i j t u,wpAny (dH X.C) A (compareOp op (.int i t) (.int j u)) (fQ X W fr (.bool (f i j)) σ) dw s)->wpAny (dH X.C) A (compareOp op v w) (fQ X W fr (.bool r) σ) dw s:=fun e h=>by
  revert hv
  refine lq e fun i e hv=> ?_
  revert hw
  refine lq e fun j e hw=> ?_
  apply s1 e
  exact hv.intE fun t=>hw.intE fun u=>h i j t u
 have inn: ∀{r':Bool},inA σ a b=some r'->GG X.C A s v w r':=fun e=>aab T.rel e hv hw
 have le: ∀i j:Int,(!CS j i)=decide (i<=j):=fun i j=>by rw[xV,<- decide_not];congr 1;rw[sR]
 cases op with
 |Eq=>exact(Px T.rel hu e hv hw).eq _ (fin _)
 |NotEq=>exact Vq e fun b' q=>(Px T.rel hu q hv hw).ne _ (fin _)
 |Lt=>exact two e fun i j t u=>by rw[xV];exact Wb (fin _)
 |LtE=>
  revert hv
  cases a<;>intro hv<;>first|exact nn e|skip
  ·rename_i i
   revert hw
   refine lq (show(eW b fun j=>some (!CS j i))=some r from e) fun j e hw=> ?_
   apply s1 e
   refine hv.intE fun t=>hw.intE fun u=> ?_
   rw[le];exact Wa (fin _)
  ·rename_i x
   revert hw
   refine fU (show(eo b fun t=>some (!CT t x))=some r from e) fun j e hw=> ?_
   apply s1 e
   refine hv.strE fun t=>hw.strE fun u=>PySem.P.le_str ?_
   rw[gQ,gQ,Ez]
   exact fin _
 |Gt=>exact two (f:=fun i j=>CS j i) e fun i j t u=>by rw[xV];exact V8 (fin _)
 |GtE=>exact two (f:=fun i j=> !CS i j) e fun i j t u=>by rw[le];exact V7 (fin _)
 |Is=>
  revert hw
  exact Cp e fun e hw=>hw.noneE (is_none (by rw[FW e hv];exact fin _))
 |IsNot=>
  revert hw
  exact Cp e fun e hw=>hw.noneE (Vq e fun b' q=>isNot_none (by rw[FW q hv];exact fin _))
 |In=>exact V2 (ax s.toks) ((inn e).isIn _ fun t ht=>(T.toks t ht).post rfl)
 |NotIn=>exact Vq e fun b' q=>V2 (ax s.toks) ((inn q).not _ fun t ht=>(T.toks t ht).post rfl)
theorem SJ{f:AV->AV->AS->Option Bool}{m n:EM}{r:Bool}(e:fw f m n fr σ=some (r,ai)){P:Prop}(k: ∀a ay b,m fr σ=some (a,ay)->n fr ay=some (b,ai)->f a b ai=some r->P):P:=
 fS e fun a ay e1 e=>fS e fun b aM e2 e=>oE e fun r' e3 e=>by
  cases e;exact k a ay b e1 e2 e3
@[elab_as_elim] theorem aaD {m:BM} {c:AV} {Q:AV->AS->Prop} (e:rT m fr σ=some (c,ai)) (k: ∀b ay,m fr σ=some (b,ay)->Q (.bool b) ay):Q c ai:=fS e fun b ay q e=>by
 apply s2 e;exact k b ay q
theorem akq{op:gW}{m n:EM}{a b:an}{p:Pos}(hk:5<=k)(hm:b6 X k m a)(hn:b6 X k n b)(hb:behindInMarks op b=false):b6 X k (rT (fw (b7 op) m n)) (.Compare a [op] [b] p):=fun A R W fr σ s T c ai e=>by
 refine aaD e fun r ay q=> ?_
 exact SJ q fun x ay y e1 e2 e3=>wpAny_Compare1 (EL hm hn R T e1 e2 fun v w dW cA l cP d8 j5=>eC (zd hk R cP e3 d8 j5) fun _ _ z=>z.le l) hb
theorem ae0{op:gW}{m n:EM}{a b:an}{p:Pos}(hk:5<=k)(hm:b6 X k m a)(hn:b6 X k n b)(hb:behindInMarks op b=false):nh X k (fw (b7 op) m n) (.Compare a [op] [b] p):=fun A R W fr σ s T r ai e=>by
 refine SJ e fun x ay y e1 e2 e3=>wpAny_isTrue_Compare1 (EL hm hn R T e1 e2 fun v w dW cA l cP d8 j5=>eC (zd hk R cP e3 d8 j5) fun u jK z=> ?_) hb
 exact z.elim fun xF gY jb h=>h.boolE (fP ⟨rfl,xF,l.trans gY,jb⟩)
theorem jQ{n:Nat}(h:dC n=true):n<=4000000:=av h
theorem iZ{n:Nat}(h:dC n=true):n<=sizeLine:=au (jQ h) (by decide)
theorem mq{l:aa}{vs:List ah}(h:VL X.C W l vs):vs.toArray.isEmpty=l.isEmpty:=by
 have:=h.length
 cases l<;>cases vs<;>simp_all
@[elab_as_elim] theorem L6 {l:aa} {b:Bool} (e:PG l=some b) {P:Bool->Prop} (k:dC l.length=true->P (!l.isEmpty)):P b:=kS e fun h e=>by
 apply s1 e;exact k h
theorem zI(T:St X W fr σ s){a:AV}{b:Bool}(e:qR σ a=some b){v:ah}(hv:V X.C W a v):wpAny (dH X.C) A (truthy v) (o0 X W fr b σ) dw s:=by
 have lst: ∀{a:AV} {l:List AV},iR σ a=some l->V X.C W a v->PG l=some b->wpAny (dH X.C) A (truthy v) (o0 X W fr b σ) dw s:=fun q1 hv q2=>by
  refine nk T.rel q1 hv fun x n vs g q=> ?_
  refine L6 q2 fun ok=> ?_
  refine wpAny_truthy_list (lP g) (by have:=jQ ok;simp only[aZ,q.length];omega) ?_
  rw[mq q];exact(T.toks _).postB _
 revert hv
 cases a<;>intro hv<;>first|exact nn e|skip
 ·apply s1 e;exact hv.noneE (Ob (T.postB _))
 ·apply s1 e;exact hv.boolE (fP (T.postB _))
 ·rename_i i
  apply s1 e
  have:(!KJ i 0)=(i !=0):=by rw[rf];rfl
  rw[this]
  exact hv.intE fun t=>PySem.P.truthy_int (T.postB _)
 ·rename_i x
  refine kS e fun ok e=> ?_
  apply s1 e
  have hl:=jQ ok
  refine hv.strE fun t=>PySem.P.truthy_str (by rw[bO];omega) ?_
  have:(((aO x).length:Int) !=0)= !x.isEmpty:=by
   rw[bO]
   cases x with
   |nil=>rfl
   |cons a l=>simp only[bQ,EU,fx];exact bne_iff_ne.mpr (by omega)
  rw[this];exact(T.toks _).postB _
 ·rename_i l
  refine L6 e fun ok=> ?_
  refine hv.tupE fun x n vs g q=> ?_
  refine Nx (items:=vs.toArray) ⟨_,T.rel.im _ _ g,rfl,n,rfl⟩ (by have:=jQ ok;simp only[aZ,q.length];omega) ?_
  rw[mq q];exact(T.toks _).postB _
 ·exact lst rfl hv e
 ·refine lstE e fun l hg e=>lst (a:=.ref _) ?_ hv e
  show np σ _ some=some l
  unfold np;rw[hg];rfl
theorem o0.le'{b b':Bool}(l:W.le W')(z:o0 X W' fr b σ b' s):o0 X W fr b σ b' s:=⟨z.1,let⟨cA,dQ,cP⟩:=z.2;⟨cA,l.trans dQ,cP⟩⟩
theorem YT{m:EM}{b:Bool}{P:Prop}(e:jh m fr σ=some (b,ai))(k: ∀a,m fr σ=some (a,ai)->qR ai a=some b->P):P:=fS e fun a ay e1 e=>oE e fun b' e2 e=>by
 cases e;exact k a e1 e2
theorem ae9{m:EM}{e:an}(hm:b6 X k m e)(he: ∀env w,isTrue e env w=(do let v <- w;standAt e.pos;holding [v] (truthy v))):nh X k (jh m) e:=fun A R W fr σ s T b ai q=>by
 rw[he]
 exact YT q fun a e1 e2=>aq (hm.go R T e1 fun v bq bm bC bw d8=>aq (dB (dJ (eC (zI bw e2 d8) fun _ _ z=>z.le' bC))))
@[elab_as_elim] theorem abY {m:BM} {b:Bool} {Q:Bool->AS->Prop} (e:pc m fr σ=some (b,ai)) (k: ∀a ay,m fr σ=some (a,ay)->Q (!a) ay):Q b ai:=fS e fun a ay e1 e=>by
 apply s2 e;exact k a ay e1
theorem ae7{b:BM}{e:an}{p:Pos}(hb:nh X k b e):nh X k (pc b) (.UnaryOp .Not e p):=fun A R W fr σ s T r ai q=>by
 refine abY q fun a ay e1=> ?_
 show wpAny _ _ (do return !(<- isTrue e X.env (eval e X.env))) _ _ _
 exact aq (hb.go R T e1 fun bq bm bC bw=>aL ⟨rfl,bm,bC,bw⟩)
theorem alq(op:cE)(x y:an)(env:Env):allTrue op [x,y] env=(do match op,<- isTrue x env (eval x env)with| .And,false=>pure false| .Or,true=>pure true|_,_=>allTrue op [y] env):=rfl
theorem UN{M:lc}{Q:Bool->az->Prop}{E:ah->az->Prop}(op:cE)(y:an)(env:Env)(h:wpAny M A (isTrue y env (eval y env)) Q E s):wpAny M A (allTrue op [y] env) Q E s:=by
 show wpAny M A (do match op,<- isTrue y env (eval y env)with| .And,false=>pure false| .Or,true=>pure true|_,_=>allTrue op [] env) Q E s
 refine aq (jw h (fun b s' hq=> ?_) fun _ _ e=>e)
 cases op<;>cases b<;>exact aL hq
def pR(X:FX)(k:Nat)(op:cE)(m:BM)(es:List an):Prop:=
 ∀A,eN A k-> ∀W fr σ s,St X W fr σ s-> ∀b ai,m fr σ=some (b,ai)->wpAny (dH X.C) A (allTrue op es X.env) (o0 X W fr b ai) dw s
theorem pR.one{op:cE}{b:BM}{e:an}(h:nh X k b e):pR X k op b [e]:=fun A R W fr σ s T r ai q=>UN op e X.env (h A R W fr σ s T r ai q)
theorem pR.and{a b:BM}{e:an}{es:List an}(ha:nh X k a e)(hb:pR X k .And b es):pR X k .And (anc a b) (e::es):=fun A R W fr σ s T r ai q=>by
 show wpAny _ _ (do match Y7,<- isTrue e X.env (eval e X.env)with| .And,false=>pure false| .Or,true=>pure true|_,_=>allTrue .And es X.env) _ _ _
 refine fS q fun t ay e1 q=>aq (ha.go R T e1 fun bq bm bC bw=> ?_)
 cases t with
 |true=>exact eC (hb A R bm fr ay bq bw r ai q) fun _ _ z=>z.le' bC
 |false=>apply s2 q;exact aL ⟨rfl,bm,bC,bw⟩
theorem pR.or{a b:BM}{e:an}{es:List an}(ha:nh X k a e)(hb:pR X k .Or b es):pR X k .Or (RL a b) (e::es):=fun A R W fr σ s T r ai q=>by
 show wpAny _ _ (do match abt,<- isTrue e X.env (eval e X.env)with| .And,false=>pure false| .Or,true=>pure true|_,_=>allTrue .Or es X.env) _ _ _
 refine fS q fun t ay e1 q=>aq (ha.go R T e1 fun bq bm bC bw=> ?_)
 cases t with
 |true=>apply s2 q;exact aL ⟨rfl,bm,bC,bw⟩
 |false=>exact eC (hb A R bm fr ay bq bw r ai q) fun _ _ z=>z.le' bC
theorem pR.test{op:cE}{m:BM}{es:List an}{p:Pos}(h:pR X k op m es):nh X k m (.BoolOp op es p):=fun A R W fr σ s T r ai q=>h A R W fr σ s T r ai q
def k8(X:FX)(k:Nat)(op:cE)(m:EM)(es:List an):Prop:=
 ∀A,eN A k-> ∀W fr σ s,St X W fr σ s-> ∀a ai,m fr σ=some (a,ai)-> ∀p,wpAny (dH X.C) A (boolOp p op (evalEach es X.env)) (fQ X W fr a ai) dw s
theorem k8.one{op:cE}{m:EM}{e:an}(h:b6 X k m e):k8 X k op m [e]:=fun A R W fr σ s T a ai q p=>h A R W fr σ s T a ai q
theorem UW(p:Pos)(op:cE)(x:Sem ah)(y:Sem ah)(r:List (Sem ah)):boolOp p op (x::y::r)=(do
  let v <- x
  standAt p
  let t <- holding [v] (truthy v)
  match op,t with
  | .And,false| .Or,true=>pure v
  |_,_=>boolOp p op (y::r)):=rfl
theorem W9{op:cE}{m:EM}{e e':an}{es:List an}(hm:b6 X k m e)(R:eN A k)(T:St X W fr σ s){a:AV}{ay:AS}(e1:m fr σ=some (a,ay)){t:Bool}(e2:qR ay a=some t){p:Pos}{Q:ah->az->Prop}
  (h: ∀v dW cA,W.le cA->St X cA fr ay dW->V X.C cA a v->wpAny (dH X.C) A (match op,t with| .And,false| .Or,true=>pure v|_,_=>boolOp p op (evalEach (e'::es) X.env)) Q dw dW):wpAny (dH X.C) A (boolOp p op (evalEach (e::e'::es) X.env)) Q dw s:=by
 show wpAny _ _ (boolOp p op (eval e X.env::eval e' X.env::evalEach es X.env)) _ _ _
 rw[UW]
 exact aq (hm.go R T e1 fun v bq bm bC bw d8=>aq (dB (aq (dJ (eC (zI bw e2 d8) fun t dW z=>z.elim fun cA dQ cP=>h v dW cA (bC.trans dQ) cP (d8.mono dQ))))))
theorem k8.and{m n:EM}{e e':an}{es:List an}(hm:b6 X k m e)(hn:k8 X k .And n (e'::es)):k8 X k .And (SS m n) (e::e'::es):=fun A R W fr σ s T a ai q p=>by
 refine fS q fun wl ay e1 q=>oE q fun t e2 q=>W9 hm R T e1 e2 fun v dW cA l cP z=> ?_
 cases t with
 |true=>exact eC (hn A R cA fr ay dW cP a ai q p) fun _ _ z=>z.le l
 |false=>apply s2 q;exact aL ⟨cA,l,cP,z⟩
theorem k8.or{m n:EM}{e e':an}{es:List an}(hm:b6 X k m e)(hn:k8 X k .Or n (e'::es)):k8 X k .Or (eOr m n) (e::e'::es):=fun A R W fr σ s T a ai q p=>by
 refine fS q fun wl ay e1 q=>oE q fun t e2 q=>W9 hm R T e1 e2 fun v dW cA l cP z=> ?_
 cases t with
 |true=>apply s2 q;exact aL ⟨cA,l,cP,z⟩
 |false=>exact eC (hn A R cA fr ay dW cP a ai q p) fun _ _ z=>z.le l
theorem k8.val{op:cE}{m:EM}{es:List an}{p:Pos}(h:k8 X k op m es):b6 X k m (.BoolOp op es p):=fun A R W fr σ s T a ai q=>h A R W fr σ s T a ai q p
theorem akx{m:EM}{e:an}{p:Pos}(hm:b6 X k m e):b6 X k (rT (pc (jh m))) (.UnaryOp .Not e p):=fun A R W fr σ s T a ai q=>by
 refine aaD q fun r ay e0=> ?_
 refine abY e0 fun r ay e0=> ?_
 refine YT e0 fun a e1 e2=> ?_
 show wpAny _ _ (do let v <- eval e X.env;standAt p;holding [v] (unaryOp .Not v)) _ _ _
 exact aq (hm.go R T e1 fun v bq bm bC bw d8=>aq (dB (dJ (Wc (eC (zI bw e2 d8) fun t dW z=>z.elim fun cA dQ cP=>⟨cA,bC.trans dQ,cP,rfl⟩)))))
theorem akw{m:EM}{e:an}{p:Pos}(hm:b6 X k m e):b6 X k (un aio m) (.UnaryOp .USub e p):=fun A R W fr σ s T a ai q=>by
 refine fS q fun wl ay e1 q=>oE q fun b e2 q=> ?_
 apply s2 q
 show wpAny _ _ (do let v <- eval e X.env;standAt p;holding [v] (unaryOp .USub v)) _ _ _
 refine aq (hm.go R T e1 fun v bq bm bC bw d8=>aq (dB (dJ ?_)))
 revert d8
 refine lq e2 fun i e2 d8=> ?_
 apply s1 e2
 exact d8.intE fun t=>Uf ⟨bm,bC,bw.toks _,_,rfl⟩
theorem aku{c:BM}{m n:EM}{t a b:an}{p:Pos}(hc:nh X k c t)(hm:b6 X k m a)(hn:b6 X k n b):b6 X k (td c m n) (.IfExp t a b p):=fun A R W fr σ s T v ai q=>by
 show wpAny _ _ (do if <- isTrue t X.env (eval t X.env)then eval a X.env else eval b X.env) _ _ _
 refine fS q fun r ay e1 q=>aq (hc.go R T e1 fun bq bm bC bw=> ?_)
 cases r with
 |true=>exact eC (hm A R bm fr ay bq bw v ai q) fun _ _ z=>z.le bC
 |false=>exact eC (hn A R bm fr ay bq bw v ai q) fun _ _ z=>z.le bC
end
end
end
section
open PySem.SeqAt
noncomputable section
section
variable{X:FX}{k:Nat}{W W':Wd}{fr:Fm}{σ ai:AS}{s s':az}{A:b5}
theorem zC{i:Int}(h:mz i=true):kU i<=4001:=by
 have h1:i.natAbs<=2^4000:=av h
 unfold kU
 split
 ·omega
 ·rename_i q
  have h0:i.natAbs≠0:=by simpa using q
  have:i.natAbs.log2<4001:=(Fq h0).mpr (fc h1 (yL (by decide) (by decide)))
  omega
theorem ui: ∀(n:Nat) (x acc:List ah),((bL n x.toArray).foldl (fun x1 x2=>x1++x2) acc.toArray)=(acc++(bL n x).flatten).toArray
 |0,x,acc=>by simp
 |n+1,x,acc=>by
  rw[kZ,HY,kZ,mK,<- aB]
  have e:acc.toArray++x.toArray=(acc++x).toArray:=by simp
  rw[e];exact ui n x (acc++x)
theorem abB{C:PC}{l:aa}{vs:List ah}(h:VL C W l vs): ∀n,VL C W ((bL n l).flatten) ((bL n vs).flatten)
 |0=>VL.nil
 |n+1=>by
  rw[kZ,mK,kZ,mK]
  exact h.append (abB h n)
@[elab_as_elim] theorem afE {a b:AV} {f:Int->Int->Option AV} {r:AV} {C:PC} {W:Wd} {v w:ah} {Q:ah->ah->Prop} (e:(eW a fun i=>eW b fun j=>f i j)=some r) (hv:V C W a v) (hw:V C W b w) (k: ∀i j t u,f i j=some r->Q (.int i t) (.int j u)):Q v w:=by
 revert hv
 refine lq e fun i e hv=> ?_
 revert hw
 refine lq e fun j e hw=> ?_
 exact hv.intE fun t=>hw.intE fun u=>k i j t u e
theorem YC{j:Int}(h:mz j=true)(h0:j≠0):j.natAbs.log2<4001:=by
 have h1:j.natAbs<=2^4000:=av h
 exact(Fq (Int.natAbs_ne_zero.mpr h0)).mpr (fc h1 (yL (by decide) (by decide)))
theorem W5(T:St X W fr σ s){op:iD}{a b c:AV}(e:ane op a b=some c){v w:ah}(hv:V X.C W a v)(hw:V X.C W b w):
  wpAny (dH X.C) A (binaryOp op v w) (fQ X W fr c σ) dw s:=by
 have int: ∀i t,fQ X W fr (.int i) σ (.int i t) {s with toks:=s.toks+1}:=fun i t=>(T.toks _).post ⟨_,rfl⟩
 have hii: ∀{op:iD} {f:Int->Int->Option AV},(eW a fun i=>eW b fun j=>f i j)=some c->(∀i j t u,f i j=some c->wpAny (dH X.C) A (binaryOp op (.int i t) (.int j u)) (fQ X W fr c σ) dw s)->wpAny (dH X.C) A (binaryOp op v w) (fQ X W fr c σ) dw s:=fun e h=>afE e hv hw h
 cases op<;>first|exact nn e|skip
 ·revert hv
  cases a<;>intro hv<;>first|exact nn e|skip
  ·revert hw
   refine lq (show(eW b fun j=>_)=some c from e) fun j e hw=> ?_
   apply s1 e
   exact hv.intE fun t=>hw.intE fun u=>Ua (int _ _)
  ·rename_i x
   revert hw
   refine fU (show(eo b fun t=>_)=some c from e) fun y e hw=>kS e fun ok e=> ?_
   rw[ip,ip]at ok
   rw[WW]at e
   apply s1 e
   refine hv.strE fun t=>hw.strE fun u=>V2 (ax s.toks) (Ub (fun t' tk ht=>(T.toks _ ht).post ⟨t',by rw[R9]⟩) ?_)
   rw[bO,bO];exact iZ ok
  ·rename_i l
   revert hw
   refine ND (show(G5 b fun t=>_)=some c from e) fun m e hw=>kS e fun z e=> ?_
   apply s1 e
   simp only[cK,d9]at z
   obtain⟨⟨z1,z2⟩,z3⟩:=z
   refine hv.tupE fun x n vs g q=>hw.tupE fun y n' ws g' q'=> ?_
   refine PySem.P.add_tuple (items:=vs.toArray) (items2:=ws.toArray) (T.rel.im _ _ g) (T.rel.im _ _ g') (by rw[mq q,z2];decide) (by rw[mq q',z3];decide) ?_ ?_
   ·rw[Ba]
    obtain⟨l,T'⟩:=T.pushIm (o:=tq (vs++ws) 0) rfl s.toks
    exact⟨_,l,T',_,0,vs++ws,rfl,kP,(q.mono l).append (q'.mono l)⟩
   ·rw[aZ,aZ,q.length,q'.length];exact iZ z1
 ·exact hii e fun i j t u e=>by apply s1 e;exact Uh (int _ _)
 ·revert hv
  cases a<;>intro hv<;>first|exact nn e|skip
  ·revert hw
   refine lq (show(eW b fun j=>_)=some c from e) fun j e hw=>kS e fun ok e=> ?_
   apply s1 e
   obtain⟨o1,o2⟩:=bj.mp ok
   exact hv.intE fun t=>hw.intE fun u=>Ue (int _ _) (IntMulOk.of_bits (au (zC o1) (by decide)) (au (zC o2) (by decide)))
  ·revert hw
   refine lq (show(eW b fun j=>_)=some c from e) fun j e hw=>kS e fun z e=> ?_
   apply s1 e
   simp only[cK,xV,decide_eq_true_eq]at z
   obtain⟨z1,z2⟩:=z
   refine hv.strE fun t=>hw.intE fun u=>V2 (ax s.toks) (PySem.SB.mul ⟨by simp;omega,fun h=>absurd z2 h,fun h=>absurd z2 h⟩ fun t' tk ht=>(T.toks _ ht).post ⟨t',?_⟩)
   unfold Txt.mul;rw[if_pos z2];rfl
 ·exact hii e fun i j t u e=>kN e fun z e=>by
   apply s1 e
   rw[rf,decide_eq_false_iff_not]at z
   exact Ud z (int _ _)
 ·exact hii e fun i j t u e=>kS e fun z e=>by
   apply s1 e
   simp only[cK,d9,xV,decide_eq_true_eq,decide_eq_false_iff_not]at z
   obtain⟨⟨z1,z2⟩,z3⟩:=z
   refine Ug (sR.mp z2) ?_ (int _ _)
   have:=zC z1
   have h1:(kU i:Int)<=4001:=by omega
   have h2:(kU i:Int)*j<=4001*1000:=Int.mul_le_mul h1 (by omega) (by omega) (by omega)
   omega
 ·exact hii e fun i j t u e=>kN e fun z e=>by
   apply s1 e
   simp only[oF,rf,decide_eq_false_iff_not,Bool.not_eq_false']at z
   exact Nw z.1 (int _ _) (.inl (PyProof.noPylong_of_log2 (Nat.lt_trans (YC z.2 z.1) (by decide))))
theorem Vo{prog:fZ}{w:d4}{E:ah->az->Prop}{l:aC}{items:Array ah}{n:Nat}{x:Int}{u:Tok}{Q:ah->az->Prop}(hl:s.heap.get? l=some {cls:=.type "list",dict:=none,data:=.seq items n,slots:= #[]})
  (k1: ¬(!kC x)=true)(k2: ¬items.size*x.toNat>(2^63-1) / 8)(k3: ¬i6 (items.size*x.toNat)=true)
  (h:Q (.ref s.heap.objs.size) {s with heap:=s.heap.push {cls:=.type "list",data:=.seq (T6 (fun x1 x2=>x1++x2) #[] (bL (if items.isEmpty=true then 0 else x.toNat) items))}}):
  wpAny (model prog w) A (binaryOp .Mult (.ref l) (.int x u)) Q E s:=
 wpAny_binaryOp_repeat_ref (T:="list") (U:="int") (by decide) ⟨_,hl,rfl⟩ (fun s'=>typeIs_int s' x u) noFill_list_mul F.fills_int_mul HX repeat_list F.slot_int_index.lookup
  (ma HX (typeIs_int s x u) F.entry_int_rmul (F.args_int_rmul_2 _ _) (int___rmul___int_list x u l items n)
   ⟨hl,rfl,⟨_,hl,rfl⟩,ma F.slot_list_mul ⟨_,hl,rfl⟩ F.entry_list_mul (F.args_list_mul_2 _ _)
    (Fp l items n x u k1 k2 k3) ⟨hl,h⟩⟩)
theorem aav(T:St X W fr σ s){x j:Nat}{l:aa}(hg:σ.get x=some (.lst l))(z:bz j 100=true)(z2:cX l.length 1000=true){v:ah}(hv:V X.C W (.ref x) v)(u:Tok):
  wpAny (dH X.C) A (binaryOp .Mult v (.int (.ofNat j) u)) (fQ X W fr (.ref σ.next) (σ.alloc (.lst ((bL j l).flatten)))) dw s:=by
 refine T.rel.lstE hg hv fun p vs n _ _ g q=> ?_
 have z:=dh.mp z
 have z2:=av z2
 have hp:vs.length*j<=1000*100:=Nat.mul_le_mul (by rw[q.length];exact z2) (i8 z)
 have hj:(am j).toNat=j:=rfl
 have hz:vs.toArray.size*(am j).toNat <=100000:=by rw[aZ,hj];exact hp
 clear hv hg hp z2
 have k1: ¬(!kC (am j))=true:=by
  have h1:(-(2^63):Int)<=am j:=by have:=dq j;show(-(2^63):Int)<=(j:Int);omega
  have h2:(am j:Int)<2^63:=by show(j:Int)<2^63;omega
  simp only[kC,decide_eq_true h1,decide_eq_true h2];decide
 have k2: ¬vs.toArray.size*(am j).toNat >(2^63-1) / 8:=ci.mpr (au hz (by decide))
 have k3: ¬i6 (vs.toArray.size*(am j).toNat)=true:=by
  unfold i6 sizeLine;rw[decide_eq_true_iff];exact ci.mpr (au hz (by decide))
 refine Vo g k1 k2 k3 ?_
 have e1:(T6 (fun x1 x2=>x1++x2) #[] (bL (if vs.toArray.isEmpty=true then 0 else(am j).toNat) vs.toArray))=((bL j vs).flatten).toArray:=by
  have e2:=ui (if vs.toArray.isEmpty=true then 0 else(am j).toNat) vs []
  rw[vo]at e2
  rw[show(#[]:Array ah)=([]:List ah).toArray from rfl,e2]
  cases vs with
  |nil=>simp
  |cons v vs=>simp
 rw[e1]
 obtain⟨l,T'⟩:=T.pushLst (abB q j) s.toks
 exact⟨_,l,T',rb⟩
theorem Zv{op:iD}:am7 X k (binaryOp op) (b4 op):=fun A R W fr σ s T a b v w hv hw c ai e=>by
 refine odE e (fun c' q e=> ?_) fun e=> ?_
 ·apply s2 e;exact W5 T q hv hw
 cases op<;>first|exact nn e|skip
 ·refine oE (show ob (iR σ a) _=_ from e) fun l hl e=>oE e fun m hm e=>kS e fun ok e=> ?_
  apply s2 e
  refine nk T.rel hl hv fun x n vs g q=>nk T.rel hm hw fun y n' ws g' q'=>PySem.P.add_list (items:=vs.toArray) (items2:=ws.toArray) g g' ?_ ?_
  ·rw[Ba]
   obtain⟨l,T'⟩:=T.pushLst (q.append q') s.toks
   exact⟨_,l,T',rb⟩
  ·rw[aZ,aZ,q.length,q'.length];exact iZ ok
 ·revert hv
  refine iA (show(io a fun x=>_)=some (c,ai) from e) fun x e hv=> ?_
  revert hw
  refine ml e fun j e hw=>kS e fun z e=>lstE e fun l hg e=>kS e fun z2 e=> ?_
  apply s2 e
  exact hw.intE fun u=>aav T hg z z2 hv u
end
end
end
section
open PySem.SeqAt
noncomputable section
section
variable{X:FX}{k:Nat}{W W':Wd}{fr:Fm}{σ ai:AS}{s s':az}{A:b5}{h:bM}{C:PC}
noncomputable def ta:an->Bool
 | .Call f a _ _=>match f with
  | .Name .. => !a.isEmpty
  | .Attribute .. =>true
  |_=>false
 |_=>true
theorem afQ{o:an}(ho:ta o=true)(attr:Str)(env:Env)(w:Sem ah):attributeBase o attr env w=w:=by
 cases o with
 |Call f a k p=>cases f with
  |Name x q=>cases a with
   |nil=>exact ff ho
   |cons=>rfl
  |Attribute=>rfl
  |_=>exact ff ho
 |_=>rfl
theorem l0{M:lc}{E:ah->az->Prop}{o:an}{attr:Str}{env:Env}{Q:ah->az->Prop}(ho:ta o=true)
  (h:wpAny M A (eval o env) Q E s):wpAny M A (attributeBase o attr env (eval o env)) Q E s:=by
 rw[afQ ho];exact h
theorem Vy{a b:AV}(e:tl a=some b){P:AV->Prop}(k:(∀{v:ah},V C W a v->handedIn v=true)->P a):P b:=by
 cases a<;>first|exact nn e|(apply s1 e;refine k fun{v} hv=> ?_;first|exact hv.noneE rfl|exact hv.boolE rfl|exact hv.intE fun _=>rfl|exact hv.strE fun _=>rfl|exact hv.bytesE fun _=>rfl|exact hv.tupE fun _ _ _ _ _=>rfl|exact hv.lstE fun _ _ _ _ _=>rfl|exact hv.frzE fun _ _ _ _ _ _ _ _ _ _=>rfl|exact hv.dctE fun _ _ _ _ _ _ _=>rfl|exact hv.dctiE fun _ _ _ _ _ _ _=>rfl|exact hv.rngE fun _ _ _ _ _ _ _=>rfl|exact hv.refE fun _ _=>rfl)
theorem Z2{x k:Nat}(hx:x<C.nf)(hk:k<C.nf){en:ia}{es:List ia}{t:Tok}(ht:en.key= .str (C.fname x) t):getL (C.fname k) (en::es)=if k=x then some (some en.val)else getL (C.fname k) es:=by
 by_cases h:k=x
 ·subst h
  rw[if_pos rfl]
  unfold getL
  rw[oL,ht]
  simp[kM]
 ·rw[if_neg h]
  have hne:C.fname x≠C.fname k:=fun q=>h (C.fnameInj _ _ hx hk q).symm
  have hf:en.key.isStr (C.fname k)=false:=by rw[ht];simp[kM,hne]
  have hr:en.refKey=false:=by unfold Gr;rw[ht]
  unfold getL
  rw[oL,hf,rB,hr];rfl
theorem Xz{k:Nat}(hk:k<C.nf): ∀{ks:ac} {fs:aa} {vs:List ah} {es:List ia} {b:AV},xP k ks fs=some b->VL C W fs vs->oV C ks vs es-> ∃v,getL (C.fname k) es=some (some v)/\V C W b v:=by
 intro ks
 induction ks with
 |nil=>intro fs vs es b e;exact nn e
 |cons x ks ih=>
  intro fs vs es b e hv
  cases fs with
  |nil=>exact nn e
  |cons a fs=>
   refine hv.consE fun v r h1 h2 hK=> ?_
   cases es with
   |nil=>exact hK.elim
   |cons en es=>
    obtain⟨hx,⟨t,ht⟩,rfl,hK⟩:=hK
    rw[Z2 hx hk ht]
    rw[XA,gg]at e
    by_cases z:k=x
    ·rw[if_pos z]
     rw[decide_eq_true z]at e
     cases e
     exact⟨_,rfl,h1⟩
    ·rw[if_neg z]
     rw[decide_eq_false z]at e
     exact ih e h2 hK
theorem LY{K:dL}{c:aC}{n:Str}(h:IG K c n=true):plainGet K c n=true/\hasDictIn K c=true/\(∃a,findIn K (.ref c) n=some a/\noGet K a=true)/\findIn K (.ref c) "__setattr__"=some (some (.builtin "object.__setattr__"))/\plainOver K c=true/\takerIn K c n=some none:=by
 unfold IG at h
 simp only[cK,beq_iff_eq]at h
 obtain⟨⟨⟨⟨⟨a,b⟩,c⟩,d⟩,e⟩,f⟩:=h
 refine⟨a,b,?_,d,e,f⟩
 revert c
 cases findIn K (.ref _) n with
 |none=>exact fun c=>ff c
 |some x=>exact fun c=>⟨x,rfl,c⟩
theorem cC.K(R:cC C W σ h):C.K.In h:=fun a o e=>R.im _ _ (R.base _ _ (C.inK _ _ e))
structure On(C:PC)(W:Wd)(h:bM)(v:ah)(c:Nat)(ks:List Nat)(fs:List AV):Prop where
 at_: ∃x d es n vs,v= .ref x/\C.cls c=true/\h.get? x=some (instObj c d)/\h.get? d=some (dictOf es n)/\VL C W fs vs/\oV C ks vs es
theorem SZ(R:cC C W σ h){c:Nat}{ks:ac}{fs:aa}{v:ah}(hv:V C W (.frz c ks fs) v):On C W h v c ks fs:=
 hv.frzE fun x d es n vs q0 q1 q2 r z=>⟨x,d,es,n,vs,rfl,q0,R.im _ _ q1,R.im _ _ q2,r,z⟩
theorem TB(R:cC C W σ h){a c:Nat}{ks:ac}{fs:aa}{v:ah}(hg:σ.get a=some (.inst c ks fs))(hv:V C W (.ref a) v):On C W h v c ks fs:=
 R.instE hg hv fun p es n vs _ q0 q1 q2 r z=>⟨p.1,p.2,es,n,vs,rfl,q0,R.im _ _ q1,q2,r,z⟩
theorem ajs(R:cC C W σ h){a c:Nat}{l:aa}{v:ah}(hg:σ.get a=some (.orc c l))(hc:C.cls c=true)(hv:V C W (.ref a) v): ∃ks fs,On C W h v c ks fs:=by
 obtain⟨p,q,rfl⟩:=hv
 obtain⟨p',e',⟨cc,q1,q2⟩,_⟩:=R.cell _ _ hg
 rw[q]at e';cases e'
 obtain⟨ks,fs,rfl⟩:=C.concInst _ _ _ q1 hc
 obtain⟨q0,q1,es,n,vs,q2,r,z⟩:=q2
 exact⟨ks,fs,p.1,p.2,es,n,vs,rfl,q0,R.im _ _ q1,q2,r,z⟩
theorem O8(T:St X W fr σ s){v:ah}{c kk:Nat}{ks:ac}{fs:aa}(I:On X.C W s.heap v c ks fs)(hk:kk<X.C.nf){b:AV}(e:(ob (NK c kk ks fs) fun v=>tl v)=some b){ex:Bool}:
  wpAny (dH X.C) A (getAttr v (X.C.fname kk) ex) (fQ X W fr b σ) dw s:=by
 obtain⟨x,d,es,n,vs,rfl,q0,q1,q2,r,z⟩:=I.at_
 refine oE e fun aq0 e0 e'=>kN e0 fun e0 e=> ?_
 obtain⟨p1,p2,⟨a,p3,p4⟩,_⟩:=LY (X.C.attr c kk q0 hk e0)
 obtain⟨w,g,q⟩:=Xz hk e r z
 apply Vy (C:=X.C) (W:=W) e';intro e2
 exact get_value T.rel.K (I:=(⟨q1,rfl,rfl,q2⟩:InstAt s.heap x (instObj c d) c (some (dictOf es n)))) (qC p1).1 (findObj_own p2 p3 p4 g) (e2 q) ((T.toks _).post q)
theorem US(T:St X W fr σ s){kk:Nat}(hk:kk<X.C.nf){a b:AV}(e:aA kk a σ=some b){v:ah}(hv:V X.C W a v){ex:Bool}:wpAny (dH X.C) A (getAttr v (X.C.fname kk) ex) (fQ X W fr b σ) dw s:=by
 revert hv
 cases a<;>intro hv<;>first|exact nn e|skip
 ·exact O8 T (SZ T.rel hv) hk e
 ·exact instE e fun c ks vs hg e=>O8 T (TB T.rel hg hv) hk e
theorem ako{kk:Nat}{m:EM}{o:an}{p:Pos}(hk:kk<X.C.nf)(hb:ta o=true)(hm:b6 X k m o):b6 X k (un (aA kk) m) (.Attribute o (X.C.fname kk) p):=fun A R W fr σ s T a ai q=>by
 refine fS q fun wl ay e1 q=>oE q fun b e2 q=> ?_
 apply s2 q
 rw[arm_eval_Attribute]
 exact aq (l0 hb (hm.go R T e1 fun v bq bm bC bw d8=>aq (dB (aq (dJ
  (eC (US bw hk e2 d8) fun r dW z=>aq (wpAny_letTemporaryGo (aL (z.le bC)))))))))
theorem Qk{α:Type}: ∀{l:List α} {i:Nat} {a:α},Qj l i=some a->l[i]? =some a
 |_::_,0,_,e=>e
 |_::r,i+1,_,e=>Qk (l:=r) e
 |[],_,_,e=>by cases e
theorem amk{n:Nat}(h3:n<=4000000): -(2^63)<= -(n:Int)-1:=by omega
theorem NQ(n:Nat): -(n:Int)-1<0:=by omega
theorem acn{m n:Nat}(h2:n<m): -(m:Int)<= -(n:Int)-1:=by omega
theorem aco{m n:Nat}(h2:n<m):m-1-n=(-(n:Int)-1+m).toNat:=by
 rw[show-(n:Int)-1+m=((m-1-n:Nat):Int) by omega];rfl
theorem Tv{α:Type}{l:List α}{i:Int}{a:α}(e:Yc l i=some a): ∃n,seqIndex? i l.length=some n/\l[n]? =some a/\ -(2^63)<=i/\i<2^63/\((0<=i/\n=i.toNat)\/(i<0/\ -(l.length:Int)<=i/\n=(i+l.length).toNat)):=by
 cases i with
 |ofNat n=>
  refine kS e fun ok e=> ?_
  have h1:=Qk e
  have h2:n<l.length:=(cU.mp h1).1
  exact⟨n,StrLaws.seqIndex_nonneg (dq n) (ib.mpr h2),h1,Int.le_trans (by decide) (dq n),Bm (N1.mpr (jQ ok)) (by decide),.inl ⟨dq n,rfl⟩⟩
 |negSucc n=>
  refine kS e fun ok e=> ?_
  obtain⟨o1,o2⟩:=bj.mp ok
  have h2:=dh.mp o2
  rw[show(qA n)= -(n:Int)-1 from by omega]
  refine⟨l.length-1-n,?_,Qk e,amk (jQ o1),Int.lt_trans (NQ n) (by decide),.inr ⟨NQ n,acn h2,aco h2⟩⟩
  rw[StrLaws.seqIndex_neg (NQ n) (acn h2),aco h2]
theorem ad3(T:St X W fr σ s){a b:AV}{l:aa}(hl:nC σ a=some l){j:Int}{t:Tok}(e:Yc l j=some b){v:ah}(hv:V X.C W a v):
  wpAny (dH X.C) A (getItem v (.int j t)) (fQ X W fr b σ) dw s/\ ∃T',s.TypeIs v T'/\ ∃id,typeLookup (.type T') "__getitem__"=pure (some (.builtin id)):=by
 refine Hp T.rel hl hv fun x m vs q z=> ?_
 obtain⟨n,e1,e2,e3,e4,e5⟩:=Tv e
 obtain⟨w,g,r⟩:=q.get e2
 have g':vs.toArray[n]? =some w:=by rw[jU];exact g
 have hs:(vs.toArray.size:Int)=l.length:=by rw[aZ,q.length]
 rcases z with z|z
 ·have z:=lP z
  refine⟨?_,"list",z.typeIs,_,Fc.lookup⟩
  rcases e5 with⟨h0,rfl⟩|⟨h0,h1,rfl⟩
  ·exact wpAny_getItem_list z h0 e4 g' (T.post r)
  ·exact wpAny_getItem_list_neg z h0 (by rw[hs];exact h1) e3 (by rw[hs];exact g') (T.post r)
 ·refine⟨?_,"tuple",⟨_,z,rfl⟩,_,F.slot_tuple_getitem.lookup⟩
  exact PySem.P.getItem_tuple (items:=vs.toArray) z e3 e4 (by rw[aZ,q.length];exact e1) g' (T.post r)
theorem Gf{α:Type}[DecidableEq α]{a p:α}{v:ah}{l:List (α×ah)}:valueAt ((a,v)::l) p=if a=p then some v else valueAt l p:=by
 unfold valueAt
 rw[oL]
 by_cases h:a=p
 ·rw[if_pos h,decide_eq_true h];rfl
 ·rw[if_neg h,decide_eq_false h]
theorem ZM(p:ac): ∀{ks:List (List Nat)} {fs:aa} {vs:List ah} {b:AV},NG p ks fs=some b->VL C W fs vs-> ∃v,valueAt ((ks.map aO).zip vs) (aO p)=some v/\V C W b v:=by
 intro ks
 induction ks with
 |nil=>intro fs vs b e;exact nn e
 |cons k ks ih=>
  intro fs vs b e hv
  cases fs with
  |nil=>exact nn e
  |cons a fs=>
   refine hv.consE fun v r h1 h2=> ?_
   rw[bh,bP,Gf]
   have z:=qx (a:=k) (b:=p)
   refine bE e (fun q e=> ?_) fun q e=> ?_
   ·rw[q]at z
    cases e
    exact⟨v,if_pos (beq_iff_eq.mp z),h1⟩
   ·rw[q]at z
    rw[if_neg (beq_eq_false_iff_ne.mp z)]
    exact ih e h2
theorem Xj(p:Int): ∀{ks:List Int} {fs:aa} {vs:List ah} {b:AV},IP p ks fs=some b->VL C W fs vs-> ∃v,valueAt (ks.zip vs) p=some v/\V C W b v:=by
 intro ks
 induction ks with
 |nil=>intro fs vs b e;exact nn e
 |cons k ks ih=>
  intro fs vs b e hv
  cases fs with
  |nil=>exact nn e
  |cons a fs=>
   refine hv.consE fun v r h1 h2=> ?_
   rw[bP,Gf]
   refine bE e (fun q e=> ?_) fun q e=> ?_
   ·rw[rf,decide_eq_true_iff]at q
    cases e
    exact⟨v,if_pos q,h1⟩
   ·rw[rf,decide_eq_false_iff_not]at q
    rw[if_neg q]
    exact ih e h2
@[elab_as_elim] theorem agk (R:cC C W σ h) {a:AV} {ks:List (List Nat)} {fs:aa} (e:agj σ a=some (ks,fs)) {v:ah} {Q:ah->Prop} (hv:V C W a v) (k: ∀x vs,(x==sysModules)=false->VL C W fs vs->h.DictOf (strKind C.prog C.w) x ((ks.map aO).zip vs)->Q (.ref x)):Q v:=by
 revert hv
 cases a<;>intro hv<;>first|exact nn e|skip
 ·cases e
  exact hv.dctE fun x o vs q0 q r z=>k x vs q0 r (jr.mpr ⟨o,R.im _ _ q,z.2⟩)
 ·refine dctE (show SP σ _ _=_ from e) fun ks' vs hg e=> ?_
  cases e
  exact R.dctE hg hv fun p o vs _ _ q0 g r z=>k p.1 vs q0 r (jr.mpr ⟨o,g,z.2⟩)
@[elab_as_elim] theorem afD {β:Type} {a:AV} {r:β} {Q:AV->Prop} {f:List Int->List AV->Option β} (h:abC a f=some r) (k: ∀ks vs,f ks vs=some r->Q (.dcti ks vs)):Q a:=by
 cases a<;>first|exact nn h|exact k _ _ h
theorem ahW(T:St X W fr σ s){x:ac}{j:Int}{b:AV}(e:(ob (Yc x j) fun c=>some (AV.str [c]))=some b){v:ah}(hv:V X.C W (.str x) v)(t:Tok):
  wpAny (dH X.C) A (getItem v (.int j t)) (fQ X W fr b σ) dw s/\ ∃T',s.TypeIs v T'/\ ∃id,typeLookup (.type T') "__getitem__"=pure (some (.builtin id)):=oE e fun c hc e=>by
 apply s1 e
 refine hv.strE fun u=> ?_
 obtain⟨n,e1,e2,e3,e4,e5⟩:=Tv hc
 refine⟨Oa (c:=c) (by simp;omega) ?_ ((T.toks _).post ⟨_,rfl⟩),"str",rfl,_,Gx.lookup⟩
 rw[bO,e1]
 simp only[nN,aO]
 simpa using e2
theorem adU(T:St X W fr σ s){ks:List Int}{fs:aa}{j:Int}{b:AV}(e:IP j ks fs=some b){v:ah}(hv:V X.C W (.dcti ks fs) v)(t:Tok):
  wpAny (dH X.C) A (getItem v (.int j t)) (fQ X W fr b σ) dw s/\ ∃T',s.TypeIs v T'/\ ∃id,typeLookup (.type T') "__getitem__"=pure (some (.builtin id)):=hv.dctiE fun x o vs q0 q r z=>by
 have hd:s.heap.DictOf (intKind X.C.prog X.C.w) x (ks.zip vs):=jr.mpr ⟨o,T.rel.im _ _ q,z.2⟩
 obtain⟨y,g,r'⟩:=Xj j e r
 exact⟨Gz (H9 X.C.prog X.C.w j t) hd.mapOf g ((T.toks _).post r'),"dict",hd.typeIs,_,Fb.lookup⟩
theorem ahV(T:St X W fr σ s){a:AV}{p:ac}{b:AV}(e:(bD (agj σ a) fun ks vs=>NG p ks vs)=some b){v:ah}(hv:V X.C W a v)(t:Tok):
  wpAny (dH X.C) A (getItem v (.str (aO p) t)) (fQ X W fr b σ) dw s/\ ∃T',s.TypeIs v T'/\ ∃id,typeLookup (.type T') "__getitem__"=pure (some (.builtin id)):=fS e fun ks fs hd e=>agk T.rel hd hv fun x vs q0 r hd=>by
 obtain⟨y,g,r'⟩:=ZM p e r
 exact⟨Gz (strKind_is X.C.prog X.C.w (aO p) t) hd.mapOf g ((T.toks _).post r'),"dict",hd.typeIs,_,Fb.lookup⟩
theorem aaa(T:St X W fr σ s){a i b:AV}(e:ace a i σ=some b){v w:ah}(hv:V X.C W a v)(hw:V X.C W i w):
  wpAny (dH X.C) A (getItem v w) (fQ X W fr b σ) dw s/\ ∃T',s.TypeIs v T'/\ ∃id,typeLookup (.type T') "__getitem__"=pure (some (.builtin id)):=by
 revert hw
 cases i<;>intro hw<;>first|exact nn e|skip
 ·refine hw.intE fun t=>odE e (fun x hx e=> ?_) fun e=>odE e (fun r hr e=> ?_) fun e=>oE e fun l hl e=>ad3 T hl e hv
  ·revert hv
   refine fU hx fun x' hx hv=> ?_
   cases hx;exact ahW T e hv t
  ·revert hv
   refine afD hr fun ks fs hr hv=> ?_
   cases hr;exact adU T e hv t
 ·exact hw.strE fun t=>ahV T e hv t
noncomputable def PT:an->Bool
 | .Slice .. =>true
 |_=>false
theorem HK{slice:an}(h:PT slice=false)(o i:ah):subscripted slice false o i=operate [o,i] (getItem o i):=by
 cases slice<;>first|rfl|cases h
theorem akt{m n:EM}{a i:an}{p:Pos}(hs:PT i=false)(hm:b6 X k m a)(hn:b6 X k n i):b6 X k (bi fV m n) (.Subscript a i p):=fun A R W fr σ s T c ai e=>by
 refine W4 e fun x ay y aM e1 e2 e3=>oE e3 fun z e4 e3=> ?_
 apply s2 e3
 refine Subscript_ (EL hm hn R T e1 e2 fun v w dW cA l cP d8 j5=> ?_)
 obtain⟨h1,T',hT,id,hl⟩:=aaa cP e4 d8 j5
 exact tail_any hT hl (eC h1 fun _ _ z=>z.le l) (HK hs _ _)
end
end
end
section
open PySem.SeqAt
noncomputable section
noncomputable def ti(a:AV):Option Int:=eW a some
@[elab_as_elim] theorem abR {n d a:Nat} {v:AV} {Q:AV->Nat->Prop} (e:kp n d v=some a) (k1:Q .none d) (k2: ∀i,Q (.int (.ofNat i)) (DX i n)) (k3: ∀i,Q (.int (.negSucc i)) (n-(i+1))):Q v a:=by
 cases v<;>first|exact nn e|skip
 ·apply s1 e;exact k1
 ·rename_i i
  cases i with
  |ofNat i=>apply s1 e;exact k2 i
  |negSucc i=>apply s1 e;exact k3 i
theorem ZC(i n:Nat):max 0 (min (if(i:Int)<0 then(i:Int)+n else i) n)=((min i n:Nat):Int):=by
 rw[if_neg (sR.mpr (dq i)),Int.max_eq_right]
 ·omega
 ·exact Int.le_min.mpr ⟨dq i,dq n⟩
theorem ZB(i n:Nat):max 0 (min (if-(i:Int)-1<0 then-(i:Int)-1+n else-(i:Int)-1) n)=((n-(i+1):Nat):Int):=by
 rw[if_pos (NQ i),Int.min_eq_left (by omega),Int.max_def]
 split<;>omega
theorem Az(a b:Nat):sliceRange (a:Int) (b:Int) 1=(cB (b-a)).map fun k=>a+k:=by
 unfold sliceRange
 simp only[show((1:Int)>0)=True from by simp,if_true]
 by_cases hlt:(a:Int)<b
 ·have e3:(((b:Int)-a+1-1) / 1).toNat=b-a:=by first|omega|(simp;done)|(simp;omega)
  simp only[hlt,if_true,e3]
  refine fY fun k _=> ?_
  omega
 ·have:b-a=0:=by omega
  simp[hlt,this]
theorem oj{n d a:Nat}{v:AV}(e:kp n d v=some a)(hd:d<=n):a<=n/\(match ti v with|none=>(d:Int)|some i=>max 0 (min (if i<0 then i+n else i) n))=(a:Int):=by
 revert hd
 refine abR e (fun hd=>⟨hd,rfl⟩) (fun i hd=>⟨Gv _ _,ZC i n⟩) fun i hd=>⟨T8 _ _,?_⟩
 show max 0 (min (if qA i<0 then qA i+n else qA i) n)=_
 rw[show(qA i)= -(i:Int)-1 by omega]
 exact ZB i n
theorem vO{n d a:Nat}{v:AV}(e:kp n d v=some a):v= .none\/ ∃i,v= .int i:=by
 exact abR e (.inl rfl) (fun i=>.inr ⟨_,rfl⟩) fun i=>.inr ⟨_,rfl⟩
theorem Zx{n a b:Nat}{lo hi:AV}(h1:kp n 0 lo=some a)(h2:kp n n hi=some b):sliceBounds (ti lo) (ti hi) none n=((a:Int),(b:Int),1):=by
 have e1:=(oj h1 (aU _)).2
 have e2:=(oj h2 (ax _)).2
 unfold sliceBounds
 simp only[tJ,show((1:Int)>0)=True from by simp,if_true]
 refine N8 ?_ (N8 ?_ rfl)
 ·rw[<- e1];rfl
 ·exact e2
theorem R5{n a b:Nat}{lo hi:AV}(h1:kp n 0 lo=some a)(h2:kp n n hi=some b):qT (ti lo) (ti hi) 1 n=(cB (b-a)).map fun k=>a+k:=by
 have e1:=(oj h1 (aU _)).2
 have e2:=(oj h2 (ax _)).2
 rw[<- Az]
 unfold qT
 simp only[show((1:Int)>0)=True from by simp,if_true]
 congr 1
theorem Pm{α:Type}(l:List α){a b:Nat}(ha:a<=l.length)(hb:b<=l.length):((cB (b-a)).map fun k=>a+k).filterMap (l[·]?)=KH l a b:=by
 rw[StrLaws.picks l (b-a) a (by omega)];rfl
theorem agf{α:Type}(l:List α)(a b:Nat):(KH l a b).length <=l.length:=by
 unfold KH
 rw[ki,g9]
 exact au (Gv _ _) (T8 _ _)
theorem ZJ{α:Type}(l:List α){a b:Nat}(ha:a<=l.length)(hb:b<=l.length)(h:b-a=l.length):KH l a b=l:=by
 by_cases z:l.length=0
 ·have:l=[]:=mH.mp z
  subst this;simp[KH]
 ·have h1:a=0:=by omega
  have h2:b=l.length:=by omega
  subst h1 h2
  simp[KH]
section
variable{X:FX}{k:Nat}{W W':Wd}{fr:Fm}{σ ai:AS}{s s':az}{A:b5}{h:bM}{C:PC}
theorem PS{v:AV}(h:v= .none\/ ∃i,v= .int i){w:ah}(hw:V C W v w):IsPart w (ti v):=by
 rcases h with rfl|⟨i,rfl⟩
 ·cases hw;exact .none
 ·obtain⟨t,rfl⟩:=hw;exact .int i t
theorem Me{v:AV}(h:v= .none\/ ∃i,v= .int i){w:ah}(hw:V C W v w): ∃p:Option (Int×Tok),w=partValue p/\p.map (·.1)=ti v:=by
 rcases h with rfl|⟨i,rfl⟩
 ·cases hw;exact⟨none,rfl,rfl⟩
 ·obtain⟨t,rfl⟩:=hw;exact⟨some (i,t),rfl,rfl⟩
theorem akl(bw:St X W fr σ s){L:aC}{x:ac}{lo hi b:AV}(e:(bif dC (eY x)then ob (kp (eY x) 0 lo) (fun p=>ob (kp (eY x) (eY x) hi) fun q=>some (AV.str (Pk x p q),σ))else none)=some (b,ai)){v vl vh:ah}(hv:V X.C W (.str x) v)(hl:V X.C W lo vl)(hh:V X.C W hi vh)(hL:s.heap.get? L=some {cls:=.type "slice",data:=.fields #[vl,vh,.none]}):
  wpAny (dH X.C) A (getItem v (.ref L)) (fQ X W fr b ai) dw s/\ ∃T',s.TypeIs v T'/\ ∃id,typeLookup (.type T') "__getitem__"=pure (some (.builtin id)):=by
 rw[ip]at e
 refine kS e fun ok e=>oE e fun p h1 e=>oE e fun q h2 e=> ?_
 rw[Pl]at e
 apply s2 e
 refine hv.strE fun t=> ?_
 obtain⟨pl,rfl,el⟩:=Me (vO h1) hl
 obtain⟨ph,rfl,eh⟩:=Me (vO h2) hh
 refine⟨V2 (n:=s.toks) (ax _) (wpAny_getItem_str_slice (l:=pl) (u:=ph) (st:=none) ⟨_,hL,rfl,rfl⟩ rfl ?_),"str",rfl,_,Gx.lookup⟩
 have ha:=(oj h1 (aU _)).1
 have hb:=(oj h2 (ax _)).1
 have e1:slicePicked (aO x) pl ph none=(cB (q-p)).map fun k=>p+k:=by
  unfold slicePicked
  rw[el,eh,bO]
  exact R5 h1 h2
 have e2:(slicePicked (aO x) pl ph none).filterMap ((aO x).cps[·]?)=KH x p q:=by
  rw[e1]
  have:=Pm x ha hb
  simpa[aO] using this
 unfold sliceMade
 refine post_val_or_made (fun _=> ?_) fun t' tk ht=> ?_
 ·rw[e2]
  show(aO (KH x p q)).length <=_
  rw[bO];exact au (agf x p q) (iZ ok)
 ·refine(bw.toks _ ht).post ⟨t',?_⟩
  congr 1
  rw[e2]
  split
  ·rename_i z
   rw[e1,bO]at z
   have z':q-p=x.length:=by simpa using z
   rw[ZJ x ha hb z']
  ·rfl
theorem akk(bw:St X W fr σ s){L:aC}{l:aa}{lo hi b:AV}(e:(bif dC (eY l)then ob (kp (eY l) 0 lo) (fun p=>ob (kp (eY l) (eY l) hi) fun q=>some (AV.ref σ.next,σ.alloc (.lst (Pk l p q))))else none)=some (b,ai)){x n:Nat}{vs:List ah}{vl vh:ah}(g:s.heap.get? x=some (dy vs n))(r:VL X.C W l vs)(hl:V X.C W lo vl)(hh:V X.C W hi vh)(hL:s.heap.get? L=some {cls:=.type "slice",data:=.fields #[vl,vh,.none]}):
  wpAny (dH X.C) A (getItem (.ref x) (.ref L)) (fQ X W fr b ai) dw s/\ ∃T',s.TypeIs (.ref x) T'/\ ∃id,typeLookup (.type T') "__getitem__"=pure (some (.builtin id)):=by
 rw[ip]at e
 refine kS e fun ok e=>oE e fun p h1 e=>oE e fun q h2 e=> ?_
 rw[Pl]at e
 apply s2 e
 refine⟨wpAny_getItem_list_slice (lP g) ⟨_,hL,rfl,rfl⟩ (PS (vO h1) hl) (PS (vO h2) hh) .none (by simp) ?_ ?_,"list",(lP g).typeIs,_,Fc.lookup⟩
 ·have ha:=(oj h1 (aU _)).1
  have hb:=(oj h2 (ax _)).1
  have e1:slicePick vs.toArray (ti lo) (ti hi) none=(KH vs p q).toArray:=by
   unfold slicePick
   rw[aZ,r.length,Zx h1 h2]
   simp only[Az]
   have:=Pm vs (a:=p) (b:=q) (by rw[r.length];exact ha) (by rw[r.length];exact hb)
   simpa using congrArg List.toArray this
  rw[e1]
  obtain⟨le,T'⟩:=bw.pushLst ((r.drop p).take (q-p)) s.toks
  exact⟨_,le,T',rb⟩
 ·rw[aZ,r.length];exact iZ ok
theorem aaT(T:St X W fr σ s){a lo hi b:AV}(e:anG a lo hi σ=some (b,ai)){v vl vh:ah}(hv:V X.C W a v)(hl:V X.C W lo vl)(hh:V X.C W hi vh):
  wpAny (dH X.C) A (getItem v (.ref s.heap.objs.size)) (fQ X W fr b ai) dw {s with heap:=s.heap.push {cls:=.type "slice",data:=.fields #[vl,vh,.none]}}/\
   ∃T',Shared.TypeIs {s with heap:=s.heap.push {cls:=.type "slice",data:=.fields #[vl,vh,.none]}} v T'/\ ∃id,typeLookup (.type T') "__getitem__"=pure (some (.builtin id)):=by
 have bw:St X W fr σ {s with heap:=s.heap.push {cls:=.type "slice",data:=.fields #[vl,vh,.none]}}:=T.keeps (eA _ _) s.toks
 refine odE e (fun x hx e=> ?_) fun e=>oE e fun l hla e=>nk T.rel hla hv fun x n vs g r=>akk bw e (eA _ _ _ _ g) r hl hh (bp _ rfl)
 revert hv
 refine fU hx fun x' hx hv=> ?_
 cases hx
 exact akl bw e hv hl hh (bp _ rfl)
def FH(X:FX)(k:Nat)(m:EM)(e:Option an):Prop:=
 ∀A,eN A k-> ∀W fr σ s,St X W fr σ s-> ∀a ai,m fr σ=some (a,ai)->wpAny (dH X.C) A (valueOrNone (evalOpt e X.env)) (fQ X W fr a ai) dw s
theorem FH.none:FH X k (ba .none) none:=fun A _ W fr σ s T a ai e=>by apply s2 e;exact aL (T.post rfl)
theorem FH.some{m:EM}{e:an}(h:b6 X k m e):FH X k m (some e):=h
theorem akA{m n o:EM}{a:an}{lo hi:Option an}{p p':Pos}(hm:b6 X k m a)(hn:FH X k n lo)(ho:FH X k o hi):b6 X k (SV m n o) (.Subscript a (.Slice lo hi none p') p):=fun A R W fr σ s T c ai e=>by
 refine fS e fun x ay e1 e=>fS e fun y aM e2 e=>fS e fun z cM e3 e=>Subscript_ (hm.go R T e1 fun v bq bm bC bw d8=> ?_)
 rw[arm_eval_Slice]
 refine aq (eC (hn A R bm fr _ bq bw _ _ e2) fun vl dW z=>z.elim fun cA dQ cP j5=> ?_)
 refine aq (dJ (eC (ho A R cA fr _ dW cP _ _ e3) fun vh jK z=>z.elim fun xF gY jb aqG=> ?_))
 refine aq (dJ (aL (fO ?_ (by size_fits))))
 obtain⟨h1,T',hT,id,hl⟩:=aaT (A:=A) jb e ((d8.mono dQ).mono gY) (j5.mono gY) aqG
 exact tail_any hT hl (eC h1 fun _ _ z=>z.le (bC.trans (dQ.trans gY))) rfl
end
end
end
section
open PySem.SeqAt
noncomputable section
section
variable{X:FX}{k:Nat}{W W':Wd}{fr:Fm}{σ ai:AS}{s s':az}{A:b5}{h h':bM}{C:PC}
noncomputable def jf:an->Bool
 | .Starred .. =>true
 |_=>false
theorem lX{e:an}(he:jf e=false)(es:List an)(env:Env):starEach (e::es) env=(false,eval e env)::starEach es env:=by
 cases e<;>first|rfl|cases he
theorem QG:Ac X k aI []:=fun A _ W fr σ s T l ai e pos=>by
 apply s2 e;exact spliced_nil ⟨W,.refl W,T,VL.nil⟩
theorem Le{m:EM}{n:LM}{e:an}{es:List an}(he:jf e=false)(hm:b6 X k m e)(hn:Ac X k n es):Ac X k (aw m n) (e::es):=fun A R W fr σ s T l ai q pos=>by
 refine fS q fun wl ay e1 q=>fS q fun aqZ aM e2 q=> ?_
 apply s2 q
 rw[lX he]
 show wpAny _ _ (spliced ((false,eval e X.env)::backTo pos (starEach es X.env))) _ _ _
 exact Bu (hm.go R T e1 fun v bq bm bC bw d8=>hn.go R bw e2 pos fun vs dW cA dQ cP j5=>⟨cA,bC.trans dQ,cP,VL.cons (d8.mono dQ) j5⟩)
theorem aaF{f:aW}{l:LM}{c:AV}(e:bv f l fr σ=some (c,ai)){P:Prop}(k: ∀vs ay,l fr σ=some (vs,ay)->f vs ay=some (c,ai)->P):P:=fS e k
theorem ae4{n:LM}{es:List an}{p:Pos}(hn:Ac X k n es):b6 X k (bv de n) (.List es p):=fun A R W fr σ s T c ai e=>by
 refine aaF e fun l ay e1 e2=>kS e2 fun ok e2=> ?_
 apply s2 e2
 refine List_ (hn.go R T e1 p fun vs bq bm bC bw d8=>fO ?_ (by show vs.toArray.size<=sizeLine;rw[aZ,d8.length];exact iZ ok))
 obtain⟨le,T'⟩:=bw.pushLst d8 bq.toks
 exact⟨_,bC.trans le,T',rb⟩
theorem amT{p:Pos}:b6 X k (ba (.lst [])) (.List [] p):=fun A R W fr σ s T c ai e=>by
 apply s2 e
 refine List_ (QG.go R T rfl p fun vs bq bm bC bw d8=>fO ?_ (by show vs.toArray.size<=sizeLine;rw[aZ,d8.length];exact aU _))
 obtain⟨le,T'⟩:=bw.pushIm (o:=dy vs 0) rfl bq.toks
 exact⟨_,bC.trans le,T',_,0,vs,rfl,kP,d8.mono le⟩
theorem akC{n:LM}{es:List an}{p:Pos}{j:Nat}(hn:Ac X k n es):b6 X k (bv gm n) (.Tuple es j p):=fun A R W fr σ s T c ai e=>by
 refine aaF e fun l ay e1 e2=>kS e2 fun ok e2=> ?_
 apply s2 e2
 refine Tuple_ (hn.go R T e1 p fun vs bq bm bC bw d8=>fO ?_ (by show vs.toArray.size<=sizeLine;rw[aZ,d8.length];exact iZ ok))
 obtain⟨le,T'⟩:=bw.pushIm (o:=tq vs 0) rfl bq.toks
 exact⟨_,bC.trans le,T',_,0,vs,rfl,kP,d8.mono le⟩
theorem akr{p:Pos}:b6 X k FP (.Dict [] [] p):=fun A R W fr σ s T c ai e=>by
 apply s2 e
 rw[eval_Dict_empty]
 refine aq (dB (fO ?_ (by size_fits)))
 obtain⟨le,T'⟩:=T.pushDct s.toks
 exact⟨_,le,T',rb⟩
theorem St.other(T:St X W fr σ s){d:aC}(hi:W.im d=none)(hp:W.pr d=none)(hc:sZ W σ d)(hd: ¬X.Has d)(k: ∀b o,b≠d->s.heap.get? b=some o->h'.get? b=some o)(t:Nat)(ht:s.toks<=t:=by first|exact ax _|exact cR _|omega):St X W fr σ {s with heap:=h',toks:=t}:=
 ⟨T.rel.keepsBut hi hp (fun a c p e e'=>hc a c p e e') k,T.fr.turn (.refl _) (fun b o e e'=>by rw[e]at e';cases e') (fun c hc=>T.fr.apart c hc) fun c hc o e=>k _ _ (fun q=>hd (q▸hc)) e,T.sm.mk' _ _ ht⟩
theorem St.addIm(T:St X W fr σ s){x:aC}{o:Obj}(ho:s.heap.get? x=some o)(hp:W.pr x=none)(hc:sZ W σ x)(hd: ¬X.Has x):W.le (W.addIm x o)/\St X (W.addIm x o) fr σ s:=by
 have le:W.le (W.addIm x o):=Wd.le_addIm fun o' e=>by have:=T.rel.im _ _ e;rw[ho]at this;exact(aH this).symm
 refine⟨le,T.rel.addIm ho hp (fun a c p e e'=>hc a c p e e'),T.fr.turn le (fun b o' e e' hb=> ?_) (fun c hc=>T.fr.apart c hc) (fun _ _ _ e=>e),T.sm⟩
 have e':(if b=x then some o else W.im b)=some o':=e'
 split at e'
 ·rename_i q;subst q;exact hd hb
 ·rw[e]at e';cases e'
theorem St.newAddr(T:St X W fr σ s){d:aC}(hd:s.heap.objs.size<=d):W.im d=none/\W.pr d=none/\sZ W σ d/\ ¬X.Has d:=
 ⟨T.rel.im_new hd,T.rel.pr_new hd,T.rel.cell_new hd,fun h=>absurd (T.fr.lt h) (ci.mpr hd)⟩
theorem ae2{k1 k2:Int}{a b:ac}{x y:Str}{p p1 p2 p3 p4:Pos}{j1 j2 j3 j4:Nat}(hk:k1≠k2)(hx:aO a=x)(hy:aO b=y):
  b6 X k (bv (Hs [k1,k2]) (aw (ba (.str a)) (aw (ba (.str b)) aI))) (.Dict [some (.Constant (.int k1) j1 p1),some (.Constant (.int k2) j2 p2)] [.Constant (.str x) j3 p3,.Constant (.str y) j4 p4] p):=fun A R W fr σ s T c ai e=>by
 apply s2 e
 refine wpAny_Dict_pairs (knd:=intKind X.C.prog X.C.w) (pairs:=[(eval (.Constant (.int k1) j1 p1) X.env,do let v <- eval (.Constant (.str x) j3 p3) X.env;standAt p;pure v),(eval (.Constant (.int k2) j2 p2) X.env,do let v <- eval (.Constant (.str y) j4 p4) X.env;standAt p;pure v)]) rfl (by simp) (by simp) ?_
 refine Kc (q7 (aq (oH (aq (dB (aL ?_))))))
 refine Kc (q7 (aq (oH (aq (dB (aL ?_))))))
 refine evalPairs_nil ?_
 refine⟨[(k1,.str x (s.toks+1)),(k2,.str y (s.toks+1+1+1))],⟨H9 _ _ _ _,rfl,H9 _ _ _ _,rfl,trivial⟩,⟨_,#[],0,bp _ rfl,⟨rfl,rfl,rfl⟩,rfl,fun _ he=>by simp at he,We,by simp⟩,fun h' hd hs=> ?_⟩
 obtain⟨n1,n2,n3,n4⟩:=T.newAddr (d:=s.heap.objs.size) (ax _)
 have bw:St X W fr σ {s with heap:=h',toks:=s.toks+1+1+1+1+[(Br k1 s.toks,gu x (s.toks+1)),(Br k2 (s.toks+1+1),gu y (s.toks+1+1+1))].length}:=
  T.other n1 n2 n3 n4 (fun b o hb e=>hs.extBut b o hb (bH _ e)) _
 obtain⟨o,ho,hd'⟩:=jr.mp hd
 obtain⟨le,cP⟩:=bw.addIm ho n2 n3 n4
 refine⟨_,le,cP,_,o,[.str x (s.toks+1),.str y (s.toks+1+1+1)],rfl,?_,kP,VL.cons ⟨_,by rw[hx]⟩ (VL.cons ⟨_,by rw[hy]⟩ VL.nil),rfl,?_⟩
 ·simpa using oN T.rel.sys
 ·have:merged [] [(k1,gu x (s.toks+1)),(k2,gu y (s.toks+1+1+1))]=[(k1,gu x (s.toks+1)),(k2,gu y (s.toks+1+1+1))]:=by
   simp[merged,stored,hk]
  rw[this]at hd'
  exact hd'
end
end
end
section
open PySem.SeqAt
noncomputable section
section
variable{X:FX}{k:Nat}{W W':Wd}{fr:Fm}{σ ai:AS}{s s':az}{A:b5}{h h':bM}{C:PC}
theorem W2{op op':gW}{a b c:EM}{r:Bool}(e:O9 op op' a b c fr σ=some (r,ai)){P:Bool->AS->Prop}(k: ∀x ay y aM,a fr σ=some (x,ay)->b fr ay=some (y,aM)->(b7 op x y aM=some false->P false aM)/\ ∀z cM r,b7 op x y aM=some true->c fr aM=some (z,cM)->b7 op' y z cM=some r->P r cM):P r ai:=
 fS e fun x ay e1 e=>fS e fun y aM e2 e=>oE e fun t e3 e=>bE e (fun ht e=>fS e fun z cM e4 e=>oE e fun r' e5 e=>by apply s2 e;exact(k x ay y aM e1 e2).2 z cM r' (ht▸e3) e4 e5) fun ht e=>by apply s2 e;exact(k x ay y aM e1 e2).1 (ht▸e3)
theorem IM(hk:5<=k)(R:eN A k)(T:St X W fr σ s){op:gW}{a b:AV}{r:Bool}(e:b7 op a b σ=some r){v w:ah}(hv:V X.C W a v)(hw:V X.C W b w){Q:ah->az->Prop}
  (h: ∀bq bm,W.le bm->St X bm fr σ bq->Q (.bool r) bq):wpAny (dH X.C) A (compareOp op v w) Q dw s:=
 eC (zd hk R T e hv hw) fun u bq z=>z.elim fun bm l bw q=>q.boolE (h bq bm l bw)
theorem aeZ{op op':gW}{m n o:EM}{a b c:an}{p:Pos}(hk:5<=k)(hm:b6 X k m a)(hn:b6 X k n b)(ho:b6 X k o c)(hb:lastMarks [op,op'] [b,c]=false):b6 X k (rT (O9 op op' m n o)) (.Compare a [op,op'] [b,c] p):=fun A R W fr σ s T v ai e=>by
 refine aaD e fun r ay q=> ?_
 apply W2 q;intro x ay y aM e1 e2
 refine⟨fun e3=> ?_,fun z cM r e3 e4 e5=> ?_⟩
 ·exact ME (hm.go R T e1 fun v bq bm bC bw d8=>chain_link (hn.go R bw e2 fun w dW cA dQ cP j5=>IM hk R cP e3 (d8.mono dQ) j5 fun jK xF gY jb=>fP ⟨xF,bC.trans (dQ.trans gY),jb,rfl⟩)) hb
 ·exact ME (hm.go R T e1 fun v bq bm bC bw d8=>chain_link (hn.go R bw e2 fun w dW cA dQ cP j5=>IM hk R cP e3 (d8.mono dQ) j5 fun jK xF gY jb=>fP
   (chain_last (ho.go R jb e4 fun w' oA am9 Qc oh aiP=>eC (zd hk R oh e5 ((j5.mono gY).mono Qc) aiP) fun _ _ z=>z.le (bC.trans (dQ.trans (gY.trans Qc))))))) hb
theorem aaZ{op op':gW}{m n o:EM}{a b c:an}{p:Pos}(hk:5<=k)(hm:b6 X k m a)(hn:b6 X k n b)(ho:b6 X k o c)(hb:lastMarks [op,op'] [b,c]=false):nh X k (O9 op op' m n o) (.Compare a [op,op'] [b,c] p):=fun A R W fr σ s T v ai e=>by
 apply W2 e;intro x ay y aM e1 e2
 refine⟨fun e3=> ?_,fun z cM r e3 e4 e5=> ?_⟩
 ·exact Og (hm.go R T e1 fun v bq bm bC bw d8=>test_link (hn.go R bw e2 fun w dW cA dQ cP j5=>IM hk R cP e3 (d8.mono dQ) j5 fun jK xF gY jb=>fP ⟨rfl,xF,bC.trans (dQ.trans gY),jb⟩)) hb
 ·exact Og (hm.go R T e1 fun v bq bm bC bw d8=>test_link (hn.go R bw e2 fun w dW cA dQ cP j5=>IM hk R cP e3 (d8.mono dQ) j5 fun jK xF gY jb=>fP
   (test_last (ho.go R jb e4 fun w' oA am9 Qc oh aiP=>IM hk R oh e5 ((j5.mono gY).mono Qc) aiP fun sF WS XW xE=>fP ⟨rfl,WS,bC.trans (dQ.trans (gY.trans (Qc.trans XW))),xE⟩)))) hb
theorem Vi{W W':Wd}(h1:W'.ρ=W.ρ)(h2:W'.im=W.im):W.le0 W':=⟨fun a p e=>by rw[h1];exact e,fun x o e=>by rw[h2];exact e⟩
theorem VL.pr{W W':Wd}{l:aa}{vs:List ah}(q:VL C W l vs)(h1:W'.ρ=W.ρ)(h2:W'.im=W.im):VL C W' l vs:=q.mono0 (Vi h1 h2)
theorem V.pr{W W':Wd}{a:AV}{v:ah}(q:V C W a v)(h1:W'.ρ=W.ρ)(h2:W'.im=W.im):V C W' a v:=q.mono0 (Vi h1 h2)
theorem d5.pr{W W':Wd}{p:aC×aC}{c:bJ}(a2:d5 C W h p c)(h1:W'.ρ=W.ρ)(h2:W'.im=W.im):d5 C W' h p c:=d5.mono0 (Vi h1 h2) a2
open Classical in
def Wd.guard(W:Wd)(X:FX)(h:bM):Wd:={W with pr:=fun b=>if X.Has b then h.get? b else W.pr b}
theorem ul{b:aC}(hb:X.Has b):(W.guard X h).pr b=h.get? b:=if_pos hb
theorem ku{b:aC}(hb: ¬X.Has b):(W.guard X h).pr b=W.pr b:=if_neg hb
theorem St.guard(T:St X W fr σ s):cC X.C (W.guard X s.heap) σ s.heap:=by
 obtain⟨R,F,_⟩:=T
 refine⟨R.base,R.im,fun b o e=> ?_,fun b o e=> ?_,R.fresh,fun a c e=> ?_,R.inj⟩
 ·by_cases hb:X.Has b
  ·rw[ul hb]at e;exact e
  ·rw[ku hb]at e;exact R.pr _ _ e
 ·by_cases hb:X.Has b
  ·exact F.sep _ hb
  ·rw[ku hb]at e;exact R.dis _ _ e
 ·obtain⟨p,a1,a2,a3,a4⟩:=R.cell a c e
  refine⟨p,a1,?_,a3,?_⟩
  ·exact a2.pr rfl rfl
  ·rw[ku fun hb=>F.apart _ hb a c p e a1 rfl];exact a4
theorem St.back(T:St X W fr σ s){bm:Wd}(l:(W.guard X s.heap).le bm)(R:cC X.C bm ai s'.heap)(hs:Sm s s'):W.le {bm with pr:=W.pr}/\St X {bm with pr:=W.pr} fr ai s':=by
 have hpr:bm.pr=(W.guard X s.heap).pr:=l.2.2
 have le:W.le {bm with pr:=W.pr}:=⟨l.1,l.2.1,rfl⟩
 have kept: ∀c,X.Has c-> ∀o,s.heap.get? c=some o->s'.heap.get? c=some o:=fun c hc o e=>R.pr _ _ (by rw[hpr,ul hc];exact e)
 have nc: ∀c,X.Has c->sZ {bm with pr:=W.pr} ai c:=fun c hc a cc p e e' q=>by
  obtain⟨p',a1,a2,a3,a4⟩:=R.cell a cc e
  have e':bm.ρ a=some p:=e'
  rw[e']at a1;cases a1
  rw[q,hpr,ul hc]at a4
  obtain⟨o,z⟩:=T.fr.live c hc
  rw[z]at a4;cases a4
 refine⟨le,⟨R.base,R.im,fun b o e=> ?_,fun b o e=> ?_,R.fresh,fun a c e=> ?_,R.inj⟩,T.fr.turn le (fun b o e e' hb=> ?_) nc kept,T.sm.trans hs⟩
 ·have e:W.pr b=some o:=e
  by_cases hb:X.Has b
  ·exact kept b hb o (T.rel.pr _ _ e)
  ·exact R.pr _ _ (by rw[hpr,ku hb];exact e)
 ·have e:W.pr b=some o:=e
  show bm.im b=none
  by_cases hb:X.Has b
  ·obtain⟨o',z⟩:=T.fr.live b hb
   exact R.dis b o' (by rw[hpr,ul hb];exact z)
  ·exact R.dis b o (by rw[hpr,ku hb];exact e)
 ·obtain⟨p,a1,a2,a3,a4⟩:=R.cell a c e
  refine⟨p,a1,?_,a3,?_⟩
  ·exact a2.pr rfl rfl
  ·have hn: ¬X.Has p.2:=fun hc=>nc _ hc a c p e a1 rfl
   rw[hpr,ku hn]at a4;exact a4
 ·have e':bm.im b=some o:=e'
  obtain⟨o',z⟩:=T.fr.live b hb
  have:=R.dis b o' (by rw[hpr,ul hb];exact z)
  rw[this]at e';cases e'
theorem St.call(T:St X W fr σ s){kF:Nat}{f:ah}{F:aW}(hF:aF X.C kF f F)(R:eN A kF){args:aa}{vs:List ah}(hv:VL X.C W args vs){a:AV}(e:F args σ=some (a,ai)):
  wpAny (dH X.C) A (call f vs) (fQ X W fr a ai) dw s:=
 eC (hF A R (W.guard X s.heap) σ s args vs T.guard (hv.pr rfl rfl) T.sm.pos a ai e) fun v s' ⟨hs,bm,l,R',q⟩=>by
  obtain⟨le,T'⟩:=T.back l R' hs
  exact⟨_,le,T',q.pr rfl rfl⟩
def oU(C:PC)(f:ah):Prop:= ∀h,C.K.In h-> ∃k,(k=Keeper.frame\/k=Keeper.machine\/k=Keeper.boundFrame)/\H3 (dH C) h (keeperOf f) k
theorem rk{C:PC}{f:ah}(h:keepIn C.K f=true):oU C f:=fun h' X=>keeps_K h h' X
theorem fu{C:PC}{id:String}:oU C (.builtin id):=fun _ _=>⟨.machine,.inr (.inl rfl),rC rfl⟩
theorem ms{C:PC}{id:String}:oU C (.type id):=fun _ _=>⟨.machine,.inr (.inl rfl),rC rfl⟩
theorem qJ{es:List an}{env:Env}{pos:Pos}(hs:es.all (fun e=> !jf e)=true):(backTo pos (starEach es env)).any (·.1)=false:=by
 induction es with
 |nil=>rfl
 |cons e es ih=>
  simp only[rA,cK,d9]at hs
  rw[lX hs.1]
  show(false||(backTo pos (starEach es env)).any (·.1))=false
  rw[ih hs.2];rfl
theorem wF{M:lc}{E:ah->az->Prop}{f:ah}{es:List an}{env:Env}{pos:Pos}(hs:es.all (fun e=> !jf e)=true){Q:Args->az->Prop}
  (h:wpAny M A (spliced (backTo pos (starEach es env))) (fun vs s'=>Q ⟨vs,[]⟩ s') E s):wpAny M A (evalArgs f true (backTo pos (starEach es env)) []) Q E s:=by
 cases es with
 |nil=>
  unfold evalArgs
  show wpAny M A (spliced []>>=_) Q E s
  refine aq (jw h (fun vs s' h'=> ?_) fun _ _ x=>x)
  refine aq (aL ?_)
  refine dJ ?_
  exact aq (aL (aq (aL (aL h'))))
 |cons e es=>
  simp only[rA,cK,d9]at hs
  rw[lX hs.1]at h ⊢
  exact evalArgs_plain h
theorem FL{X:FX}{k kF:Nat}{W:Wd}{fr:Fm}{σ ay ai:AS}{s:az}(T:St X W fr σ s){f:ah}{F:aW}(hf:oU X.C f)(hF:aF X.C kF f F)(hk:kF<=k)(R:eN A k){n:LM}{es:List an}(hs:es.all (fun e=> !jf e)=true)(hn:Ac X k n es)
  {l:List AV}(e1:n fr σ=some (l,ay)){first:List ah}{fa:List AV}(h1:VL X.C W fa first){a:AV}(e2:F (fa++l) ay=some (a,ai))(pos:Pos):
  wpAny (dH X.C) A (callWith pos f first (backTo pos (starEach es X.env)) []) (fQ X W fr a ai) dw s:=by
 refine Fu (P:=X.C.K.In) (by rw[qJ hs];rfl) hf ?_
 refine wF hs (hn.go R T e1 pos fun vs bq bm bC bw d8=>⟨bw.rel.K,?_⟩)
 exact eC (bw.call hF (R.le hk) ((h1.mono bC).append d8) e2) fun _ _ z=>z.le bC
theorem aeY(O:ve X){kF:Nat}{fv:ah}{F:aW}{n:LM}{x:Str}{es:List an}{p p':Pos}(hx:X.env.kindOf x=some .globalImplicit)(hd:(x==("__debug__":Str))=false)(hg:ni X.C x (.glob fv))(hf:oU X.C fv)(hF:aF X.C kF fv F)(hk:kF<=k)
  (hs:es.all (fun e=> !jf e)=true)(hn:Ac X k n es):b6 X k (bv F n) (.Call (.Name x p') es [] p):=fun A R W fr σ s T a ai e=>by
 refine aaF e fun l ay e1 e2=> ?_
 show wpAny _ _ (do callWith p (<- eval (.Name x p') X.env) [] (backTo p (starEach es X.env)) (backToKw p (keywordEach [] X.env))) _ _ _
 refine aq (yJ O.kind hx (hg _ A dw X.env W σ s _ O.glob O.blt T.rel fun v q=> ?_) hd)
 cases q
 exact FL T hf hF hk R hs hn e1 VL.nil e2 p
def d7(C:PC)(k:Nat)(name:Str)(D:gR):Prop:= ∀W σ h a v F,cC C W σ h->V C W a v->D a σ=some F->
 ∃f,(∀A s pl E (Q:ah×List ah->az->Prop),s.heap=h->Q (f,[v]) s->wpAny (dH C) A (getMethod v name pl) Q E s)/\oU C f/\aF C k f F
theorem Tr{m:EM}{x:Str}{o:an}{es:List an}{ap p:Pos}(hb:ta o=true)(hl:(ap.endLine==p.line)=true)(hfew:es.length<30)(hm:b6 X k m o)(hs:es.all (fun e=> !jf e)=true)
  (R:eN A k)(T:St X W fr σ s){wl:AV}{ay:AS}(e1:m fr σ=some (wl,ay)){Q:ah->az->Prop}
  (h: ∀v bq bm,W.le bm->St X bm fr ay bq->V X.C bm wl v-> ∃f,(∀A s pl E (Q:ah×List ah->az->Prop),s.heap=bq.heap->Q (f,[v]) s->wpAny (dH X.C) A (getMethod v x pl) Q E s)/\
   wpAny (dH X.C) A (callWith p f [v] (backTo p (starEach es X.env)) []) Q dw bq):wpAny (dH X.C) A (eval (.Call (.Attribute o x ap) es [] p) X.env) Q dw s:=by
 show wpAny _ _ (do
  let ov <- attributeBase o x X.env (eval o X.env)
  standAt ap.atName
  methodCall o x ap p X.env ov (es.length+([]:List tt).length) (backTo p (starEach es X.env)) (backToKw p (keywordEach [] X.env))) _ _ _
 refine aq (l0 hb (hm.go R T e1 fun v bq bm bC bw d8=>aq (dB ?_)))
 obtain⟨f,g1,g2⟩:=h v bq bm bC bw d8
 have hform:methodCallForm (es.length+([]:List tt).length) (backTo p (starEach es X.env)) (backToKw p (keywordEach [] X.env))=true:=by
  unfold methodCallForm
  have h1:(backTo p (starEach es X.env)).all (!·.1)=true:=by
   have:=qJ (env:=X.env) (pos:=p) hs
   rw[bZ];rw[ET]at this
   intro y hy;simpa using this y hy
  rw[h1]
  have h2:(backToKw p (keywordEach [] X.env)).all (·.1.isSome)=true:=rfl
  rw[h2]
  simp;exact hfew
 unfold methodCall
 rw[hform]
 have hpos:methodCallPos true o X.env ap p=pure p:=by unfold methodCallPos;simp[hl]
 refine aq (dJ ?_)
 show wpAny _ _ (getMethod v x _) _ _ _
 refine g1 A bq _ dw _ rfl ?_
 show wpAny _ _ (do let callPos <- methodCallPos true o X.env ap p;callWith callPos f [v] (backTo p (starEach es X.env)) (backToKw p (keywordEach [] X.env))) _ _ _
 rw[hpos]
 exact aq (aL g2)
theorem ae5{kF:Nat}{D:gR}{m:EM}{n:LM}{x:Str}{o:an}{es:List an}{ap p:Pos}(hb:ta o=true)(hl:(ap.endLine==p.line)=true)(hfew:es.length<30)(hm:b6 X k m o)(hD:d7 X.C kF x D)(hk:kF<=k)
  (hs:es.all (fun e=> !jf e)=true)(hn:Ac X k n es):b6 X k (cH D m n) (.Call (.Attribute o x ap) es [] p):=fun A R W fr σ s T a ai e=>by
 refine fS e fun wl ay e1 e=>oE e fun F e2 e=>fS e fun l aM e3 e=>Tr hb hl hfew hm hs R T e1 fun v bq bm bC bw d8=> ?_
 obtain⟨f,g1,g2,g3⟩:=hD bm _ bq.heap wl v F bw.rel d8 e2
 exact⟨f,g1,eC (FL bw g2 g3 hk R hs hn e3 (VL.one d8) e p) fun _ _ z=>z.le bC⟩
end
end
end
section
open PySem.SeqAt
noncomputable section
section
variable{X:FX}{k:Nat}{W W':Wd}{fr:Fm}{σ ai:AS}{s s':az}{A:b5}{h h':bM}{C:PC}
structure ig(X:FX)(W:Wd)(σ:AS)(I:aC):Prop where
 im:W.im I=none
 pr:W.pr I=none
 cell:sZ W σ I
 out: ¬X.Has I
theorem ig.new(T:St X W fr σ s){I:aC}(hI:s.heap.objs.size<=I):ig X W σ I:=
 ⟨T.rel.im_new hI,T.rel.pr_new hI,T.rel.cell_new hI,fun hc=>absurd (T.fr.lt hc) (ci.mpr hI)⟩
theorem St.but(T:St X W fr σ s){I:aC}(L:ig X W σ I)(hk: ∀b o,b≠I->s.heap.get? b=some o->h'.get? b=some o)(t:Nat)(ht:s.toks<=t:=by first|exact ax _|exact cR _|omega):St X W fr σ {s with heap:=h',toks:=t}:=
 ⟨T.rel.keepsBut L.im L.pr L.cell hk,T.fr.turn (.refl _) (fun b o e e'=>by rw[e]at e';cases e') (fun c hc=>T.fr.apart c hc) fun c hc o e=>hk _ _ (fun q=>L.out (q▸hc)) e,T.sm.mk' _ _ ht⟩
noncomputable def Wd.pin(W:Wd)(I:aC)(o:Obj):Wd:={W with pr:=fun b=>if b=I then some o else W.pr b}
theorem Jj{I:aC}{o:Obj}:(W.pin I o).pr I=some o:=if_pos rfl
theorem jB{I b:aC}{o:Obj}(hb:b≠I):(W.pin I o).pr b=W.pr b:=if_neg hb
theorem St.pin(T:St X W fr σ s){I:aC}(L:ig X W σ I){o:Obj}(ho:s.heap.get? I=some o):St X (W.pin I o) fr σ s:=by
 obtain⟨R,⟨⟨m,a,b⟩,c,d,xM,d',Cz⟩,S⟩:=T
 refine⟨⟨R.base,R.im,fun b o' e=> ?_,fun b o' e=> ?_,R.fresh,fun a c e=> ?_,R.inj⟩,⟨⟨m,a,fun i x e=>(b i x e).imp id fun f y p=>let⟨v,q,r⟩:=f y p;⟨v,q,r.pr rfl rfl⟩⟩,c,d,xM,fun c hc=> ?_,Cz⟩,S⟩
 ·by_cases q:b=I
  ·subst q;rw[Jj]at e;cases e;exact ho
  ·rw[jB q]at e;exact R.pr _ _ e
 ·by_cases q:b=I
  ·subst q;exact L.im
  ·rw[jB q]at e;exact R.dis _ _ e
 ·refine uf (R.cell a c e) fun p a1 a2 a3 a4=> ?_
  exact⟨p,a1,a2.pr rfl rfl,a3,by rw[jB (L.cell a c p e a1)];exact a4⟩
 ·rw[jB fun q=>L.out (by rw[<- q];exact .inr (.inr hc))];exact d' c hc
theorem St.unpin{bm:Wd}{fr':Fm}{I:aC}{o:Obj}(l:(W.pin I o).le bm)(L:ig X W σ I)(T:St X bm fr' ai s'):
  W.le {bm with pr:=W.pr}/\St X {bm with pr:=W.pr} fr' ai s'/\s'.heap.get? I=some o/\ig X {bm with pr:=W.pr} ai I:=by
 have hpr:bm.pr=(W.pin I o).pr:=l.2.2
 have hI:bm.pr I=some o:=by rw[hpr,Jj]
 obtain⟨R,⟨⟨m,a,b⟩,c,d,xM,d',Cz⟩,S⟩:=T
 have nc:sZ bm ai I:=fun a cc p e e' q=>by
  refine uf (R.cell a cc e) fun p' a1 a2 a3 a4=> ?_
  rw[e']at a1;cases a1
  rw[q,hI]at a4;cases a4
 refine⟨⟨l.1,l.2.1,rfl⟩,⟨⟨R.base,R.im,fun b o' e=> ?_,fun b o' e=> ?_,R.fresh,fun a c e=> ?_,R.inj⟩,⟨⟨m,a,fun i x e=>(b i x e).imp id fun f y p=>let⟨v,q,r⟩:=f y p;⟨v,q,r.pr rfl rfl⟩⟩,c,d,xM,fun c hc=> ?_,Cz⟩,S⟩,
  R.pr _ _ hI,⟨R.dis _ _ hI,L.pr,nc,L.out⟩⟩
 ·have e:W.pr b=some o':=e
  exact R.pr _ _ (by rw[hpr,jB (fun q=>by rw[q,L.pr]at e;cases e)];exact e)
 ·have e:W.pr b=some o':=e
  exact R.dis b o' (by rw[hpr,jB (fun q=>by rw[q,L.pr]at e;cases e)];exact e)
 ·refine uf (R.cell a c e) fun p a1 a2 a3 a4=> ?_
  refine⟨p,a1,a2.pr rfl rfl,a3,?_⟩
  rw[hpr,jB (nc a c p e a1)]at a4;exact a4
 ·have:=d' c hc
  rw[hpr,jB fun q=>L.out (by rw[<- q];exact .inr (.inr hc))]at this;exact this
structure xk(X:FX)(W:Wd)(σ:AS)(I:aC)(l:List AV)(h:bM)(S:Nat->bM->Prop)(fp:List aC)(P:Nat->ah->Prop):Prop where
 walks: ∀A',A'.handled=none->Walks X.C.prog X.C.w A' I fp [I] l.length P S
 st:S 0 h
 fp: ∀b∈fp,b=I\/ ∃o,W.im b=some o
 val: ∀i v,i<l.length->P i v-> ∃a,l[i]? =some a/\V X.C W a v
 obj: ∀i h,S i h-> ∃o n,h.get? I=some o/\o.cls= .type n/\(["enumerate","zip","dict_itemiterator","dict_reverseitemiterator","odict_iterator","itertools.zip_longest","itertools.pairwise"].contains n)=false
theorem xk.mono{I:aC}{l:aa}{S:Nat->bM->Prop}{fp:List aC}{P:Nat->ah->Prop}(q:xk X W σ I l h S fp P)(le:W.le W'):xk X W' σ I l h S fp P:=
 ⟨q.walks,q.st,fun b hb=>(q.fp b hb).imp id fun⟨o,e⟩=>⟨o,le.2.1 _ _ e⟩,fun i v hi p=>let⟨a,e,r⟩:=q.val i v hi p;⟨a,e,r.mono le⟩,q.obj⟩
theorem VL.ith{W:Wd}{l:aa}{vs:List ah}(q:VL C W l vs){i:Nat}{v:ah}(e:vs[i]? =some v): ∃a,l[i]? =some a/\V C W a v:=by
 have hl:i<l.length:=by
  rw[<- q.length]
  exact(cU.mp e).1
 refine eX (q.get (show l[i]? =some l[i] from fb hl)) fun v' e' r=> ?_
 rw[e]at e';cases e'
 exact⟨_,fb hl,r⟩
def mh(X:FX)(W:Wd)(fr:Fm)(σ:AS)(l:aa)(it:ah)(s':az):Prop:=
 ∃I W' S fp P,it= .ref I/\W.le W'/\St X W' fr σ s'/\ig X W' σ I/\xk X W' σ I l s'.heap S fp P
theorem EF(T:St X W fr σ s)(o:Obj):ig X W σ s.heap.objs.size/\St X W fr σ {s with heap:=s.heap.push o}:=
 ⟨ig.new T (ax _),T.keeps (eA _ _) s.toks⟩
theorem Tc(T:St X W fr σ s){x n:Nat}{vs:List ah}{l:aa}(hx:W.im x=some (dy vs n))(q:VL X.C W l vs):wpAny (dH X.C) A (pyIter (.ref x)) (mh X W fr σ l) dw s:=by
 have hg:=T.rel.im _ _ hx
 refine wpAny_pyIter_list (lP hg) ?_
 obtain⟨L,T'⟩:=EF T {cls:=.type "list_iterator",data:=.fields #[.ref x,.int 0 0]}
 have ne:x≠s.heap.objs.size:=ct (cv hg)
 have hl:vs.toArray.size=l.length:=by rw[aZ,q.length]
 refine⟨_,W,_,[s.heap.objs.size,x],_,rfl,.refl _,T',L,⟨fun A' hA=>hl▸Walks.list hA _ x ne vs.toArray,⟨⟨_,bp _ rfl,rfl,rfl⟩,lP (eA _ _ _ _ hg)⟩,fun b hb=> ?_,fun i v _ e=> ?_,fun _ _ st=>let⟨o,e1,e2,_⟩:=st.1;⟨o,_,e1,e2,by decide⟩⟩⟩
 ·simp at hb;exact hb.imp id fun e=>⟨_,e▸hx⟩
 ·exact q.ith (by simpa using e)
theorem ad6(T:St X W fr σ s){x n:Nat}{vs:List ah}{l:aa}(hx:W.im x=some (tq vs n))(q:VL X.C W l vs):wpAny (dH X.C) A (pyIter (.ref x)) (mh X W fr σ l) dw s:=by
 have hg:=T.rel.im _ _ hx
 have ht:s.heap.IsTuple x vs.toArray:=⟨_,hg,rfl,n,rfl⟩
 refine wpAny_pyIter_tuple ht ?_
 obtain⟨L,T'⟩:=EF T {cls:=.type "tuple_iterator",data:=.fields #[.ref x,.int 0 0]}
 have ne:x≠s.heap.objs.size:=ct (cv hg)
 have hl:vs.toArray.size=l.length:=by rw[aZ,q.length]
 refine⟨_,W,_,[s.heap.objs.size,x],_,rfl,.refl _,T',L,⟨fun A' hA=>hl▸Walks.tuple hA _ x ne vs.toArray,⟨⟨_,bp _ rfl,rfl,rfl⟩,ht.push _⟩,fun b hb=> ?_,fun i v _ e=> ?_,fun _ _ st=>let⟨o,e1,e2,_⟩:=st.1;⟨o,_,e1,e2,by decide⟩⟩⟩
 ·simp at hb;exact hb.imp id fun e=>⟨_,e▸hx⟩
 ·exact q.ith (by simpa using e)
theorem ah4{a:AV}{l:aa}(e:fE σ a=some (l,ai)){P:Prop}(k:ah3 σ a=some (l,ai)->l.length<=4000000->P):P:=fS e fun l' ay q e=>kS e fun z e=>by
 cases e;exact k q (jQ z)
@[elab_as_elim] theorem mh.elim {l:aa} {it:ah} {Q:ah->Prop} (h:mh X W fr σ l it s) (k: ∀I W' S fp P,W.le W'->St X W' fr σ s->ig X W' σ I->xk X W' σ I l s.heap S fp P->Q (.ref I)):Q it:=by
 obtain⟨I,W',S,fp,P,rfl,h1,h2,h3,h4⟩:=h;exact k I W' S fp P h1 h2 h3 h4
theorem St.freezeL(T:St X W fr σ s){a:Nat}{l:aa}(hg:σ.get a=some (.lst l)): ∃x vs n,W.ρ a=some (x,x)/\W.le (W.addIm x (dy vs n))/\St X (W.addIm x (dy vs n)) fr (σ.drop a) s/\VL X.C (W.addIm x (dy vs n)) l vs:=by
 obtain⟨⟨x,y⟩,a1,⟨a2,vs,n,b,r⟩,a3,a4⟩:=T.rel.cell _ _ hg
 obtain rfl:x=y:=a2
 have R:=T.rel.freeze hg a1 b
 have le:W.le (W.addIm x (dy vs n)):=Wd.le_addIm fun o' e=>by have:=T.rel.im _ _ e;rw[b]at this;exact(aH this).symm
 refine⟨x,vs,n,a1,le,⟨R,T.fr.turn le (fun b' o' e e' hb=> ?_) (fun c hc b' cb p e e'=> ?_) fun c _ o e=>e,T.sm⟩,r.mono le⟩
 ·have e':(if b'=x then some (dy vs n)else W.im b')=some o':=e'
  by_cases q:b'=x
  ·exact T.fr.apart _ hb a _ _ hg a1 q.symm
  ·rw[if_neg q,e]at e';cases e'
 ·rw[AS.get_drop]at e
  split at e
  ·cases e
  ·exact T.fr.apart c hc b' cb p e e'
theorem Ys{a b:Nat}(ha:a<2^20)(hb:b<2^20):A7 (a:Int) (b:Int) 1=true/\mG (a:Int) (b:Int) 1=(b-a:Nat):=by
 have h1:mG (a:Int) (b:Int) 1=(b-a:Nat):=by
  unfold mG
  simp
  omega
 refine⟨?_,h1⟩
 unfold A7
 rw[h1]
 unfold Lw
 simp
 omega
theorem strKind_is{key:Str}{v:ah}(e:(rF C.prog C.w).is key v=true): ∃t,v= .str key t:=by
 exact Value.isStrOf_shape e
theorem aak{M:d4}{p:fZ}{E:ah->az->Prop}{x:Str}{t:Tok}{Q:ah->az->Prop}
  (hQ: ∀(o:Obj) (S:Nat->bM->Prop),(∀A':b5,A'.handled=none->Walks p M A' s.heap.objs.size [s.heap.objs.size] [s.heap.objs.size] x.cps.size (SignAt x) S)->S 0 (s.heap.push o)->
   (∀i h,S i h-> ∃o n,h.get? s.heap.objs.size=some o/\o.cls= .type n/\(["enumerate","zip","dict_itemiterator","dict_reverseitemiterator","odict_iterator","itertools.zip_longest","itertools.pairwise"].contains n)=false)->
   Q (.ref s.heap.objs.size) {s with heap:=s.heap.push o}):wpAny (model p M) A (pyIter (.str x t)) Q E s:=by
 cases ha:x.cps.all (· <128)
 ·exact wpAny_pyIter_wide ha (hQ _ _ (fun A' hA=>Walks.strWide hA _ x t) ⟨_,bp _ rfl,rfl,rfl⟩ fun _ _ st=>let⟨o,e1,e2,_⟩:=st;⟨o,_,e1,e2,by decide⟩)
 ·exact wpAny_pyIter_ascii ha (hQ _ _ (fun A' hA=>Walks.strAscii hA _ x t) ⟨_,bp _ rfl,rfl,rfl⟩ fun _ _ st=>let⟨o,e1,e2,_⟩:=st;⟨o,_,e1,e2,by decide⟩)
theorem aen{n i:Nat}(hi:i<n):(cB n)[i]? =some i:=by rw[List.getElem?_range hi]
theorem aal(T:St X W fr σ s){ss:ac}(t:Tok):wpAny (dH X.C) A (pyIter (.str (aO ss) t)) (mh X W fr σ (ss.map fun c=>.str [c])) dw s:=by
 refine aak fun o S hW hS hO=> ?_
 obtain⟨L,T'⟩:=EF T o
 have hl:(aO ss).cps.size=(ss.map fun c=>AV.str [c]).length:=by rw[aS];rfl
 refine⟨_,W,_,[s.heap.objs.size],_,rfl,.refl _,T',L,⟨fun A' hA=>hl▸hW A' hA,hS,fun b hb=>.inl (aP.mp hb),fun i v _ ⟨c,u,e,ev⟩=> ?_,hO⟩⟩
 subst ev
 have e:ss.toArray[i]? =some c:=e
 rw[jU]at e
 exact⟨.str [c],by rw[jM,e];rfl,u,rfl⟩
theorem ad4(T:St X W fr σ s){x:aC}{o:Obj}{ks:List (List Nat)}{ws:List ah}(h0:(x==sysModules)=false)(h1:W.im x=some o)(h3:Ej X.C ks ws o):wpAny (dH X.C) A (pyIter (.ref x)) (mh X W fr σ (ks.map .str)) dw s:=by
 obtain⟨h3,es,ep,hd⟩:=h3
 have hg:=T.rel.im _ _ h1
 have hd':s.heap.DictAt (strKind X.C.prog X.C.w) x ((ks.map aO).zip ws) ep:=⟨o,es,hg,hd⟩
 refine Fe h0 hd' ?_
 have hz:((ks.map aO).zip ws).length=(ks.map AV.str).length:=by simp[h3]
 obtain⟨L,T'⟩:=EF T {cls:=.type "dict_keyiterator",data:=.fields #[.ref x,.int 0 0,.int ((ks.map aO).zip ws).length 0,.int ep 0]}
 have ne:x≠s.heap.objs.size:=ct (cv hg)
 refine⟨_,W,_,[s.heap.objs.size,x],_,rfl,.refl _,T',L,⟨fun A' hA=>hz▸Kb hA _ x ne _ ep,⟨⟨_,bp _ rfl,rfl,by rw[hz];rfl⟩,hd'.at' fun o e=>eA _ _ _ _ e⟩,fun b hb=> ?_,fun i v _ ⟨key,y,e,hk⟩=> ?_,fun _ _ st=>let⟨o,e1,e2,_⟩:=st.1;⟨o,_,e1,e2,by decide⟩⟩⟩
 ·rcases aG.mp hb with hb|hb
  ·exact .inl hb
  ·exact .inr ⟨_,aP.mp hb▸h1⟩
 ·obtain⟨t,rfl⟩:=strKind_is hk
  rw[sS,jM]at e
  refine eX (hY.mp e.1) fun kk e1 e2=> ?_
  exact⟨.str kk,by rw[jM,e1];rfl,t,by rw[e2]⟩
theorem XN(T:St X W fr σ s){b:List UInt8}(t:Tok):wpAny (dH X.C) A (pyIter (.bytes b.toArray t)) (mh X W fr σ (b.map fun x=>.int (am x.toNat))) dw s:=by
 refine KBw.pyIter_bytes ?_
 obtain⟨L,T'⟩:=EF T {cls:=.type "bytes_iterator",data:=.fields #[.bytes b.toArray t,.int 0 0]}
 have hl:b.toArray.size=(b.map fun x=>AV.int (am x.toNat)).length:=by rw[aS];rfl
 refine⟨_,W,_,[s.heap.objs.size],_,rfl,.refl _,T',L,⟨fun A' hA=>hl▸KBw.walks hA _ b.toArray t,⟨_,bp _ rfl,rfl,rfl⟩,fun b hb=>.inl (aP.mp hb),fun i v _ ⟨c,u,e,ev⟩=> ?_,fun _ _ st=>let⟨o,e1,e2,_⟩:=st;⟨o,_,e1,e2,by decide⟩⟩⟩
 subst ev
 rw[jU]at e
 exact⟨.int (am c.toNat),by rw[jM,e];rfl,u,rfl⟩
theorem ad5(T:St X W fr σ s){a b:Nat}{x:aC}{t u w:Tok}(h1:W.im x=some {cls:=.type "range",dict:=none,data:=.fields #[.int a t,.int b u,.int 1 w],slots:= #[]})(h2:a<2^20)(h3:b<2^20):wpAny (dH X.C) A (pyIter (.ref x)) (mh X W fr σ ((cB (b-a)).map fun i=>.int (am (a+i)))) dw s:=by
 have hg:=T.rel.im _ _ h1
 obtain⟨r1,r2⟩:=Ys h2 h3
 refine wpAny_pyIter_range hg r1 ?_
 rw[r2]
 obtain⟨L,T'⟩:=EF T {cls:=.type "range_iterator",data:=.fields #[rawInt a,rawInt (b-a:Nat),rawInt 1]}
 have hl:((cB (b-a)).map fun i=>AV.int (am (a+i))).length=b-a:=by rw[aS,EV]
 refine⟨_,W,_,[s.heap.objs.size],_,rfl,.refl _,T',L,⟨fun A' hA=>by have:=Walks.range (prog:=X.C.prog) (w:=X.C.w) hA s.heap.objs.size a 1 (b-a);rw[hl];exact this,?_,fun b hb=>.inl (aP.mp hb),?_,fun _ _ st=>⟨_,_,st,rfl,by decide⟩⟩⟩
 ·show IsRangeIter _ _ _ _ _
  have:IsRangeIter (s.heap.push {cls:=.type "range_iterator",data:=.fields #[rawInt a,rawInt (b-a:Nat),rawInt 1]}) s.heap.objs.size a (b-a:Nat) 1:=bp _ rfl
  simpa using this
 ·rintro i v hi ⟨u,rfl⟩
  rw[hl]at hi
  exact⟨.int (a+i:Nat),by rw[jM,aen hi];rfl,u,by simp⟩
theorem vS(T:St X W fr σ s){a:AV}{l:aa}(e:fE σ a=some (l,ai)){v:ah}(hv:V X.C W a v):wpAny (dH X.C) A (pyIter v) (mh X W fr ai l) dw s:=ah4 e fun e _=>by
 revert hv
 cases a<;>intro hv<;>first|exact nn e|skip
 ·apply s2 e;exact hv.strE fun t=>aal T t
 ·apply s2 e;exact hv.bytesE fun t=>XN T t
 ·apply s2 e;exact hv.tupE fun x n vs q r=>ad6 T q r
 ·apply s2 e;exact hv.lstE fun x n vs q r=>Tc T q r
 ·apply s2 e;exact hv.dctE fun x o vs q0 q1 _ q3=>ad4 T q0 q1 q3
 ·apply s2 e;exact hv.rngE fun x t u w h1 h2 h3=>ad5 T h1 h2 h3
 ·refine lstE e fun l' hg e=> ?_
  apply s2 e
  refine Xq (T.freezeL hg) fun x vs n hr le T' q=> ?_
  obtain⟨p,e1,rfl⟩:=hv
  rw[hr]at e1;cases e1
  exact eC (Tc T' kP q) fun it s' z=>z.elim fun I W' S fp P l1 h2 h3 h4=>⟨I,W',S,fp,P,rfl,le.trans l1,h2,h3,h4⟩
end
end
end
section
open PySem.SeqAt
noncomputable section
section
variable{X:FX}{k:Nat}{W W':Wd}{fr fr':Fm}{σ ai:AS}{s s':az}{A:b5}{h h':bM}{C:PC}
theorem x5: ∀(fr:Fm) (i:Nat) (a:AV) (j:Nat) (b:AV),(put fr i a)[j]? =some b->(j=i/\b=a)\/(j≠i/\(fr[j]? =some b\/b= .unb)):=by
 have up: ∀{i j:Nat} {P Q Q':Prop},(Q->Q')->((j=i/\P)\/(j≠i/\Q))->((j+1=i+1/\P)\/(j+1≠i+1/\Q')):=fun f h=>h.imp (fun h=>⟨congrArg _ h.1,h.2⟩) fun h=>⟨fun q=>h.1 (jW q),f h.2⟩
 have nl: ∀(i:Nat) (a:AV) (j:Nat) (b:AV),(put [] i a)[j]? =some b->(j=i/\b=a)\/(j≠i/\(([]:Fm)[j]? =some b\/b= .unb)):=by
  intro i
  induction i with
  |zero=>intro a j b e;cases j with
   |zero=>cases e;exact .inl ⟨rfl,rfl⟩
   |succ j=>cases e
  |succ i ih=>intro a j b e;cases j with
   |zero=>cases e;exact .inr ⟨dT,.inr rfl⟩
   |succ j=>exact up (fun h=>h) (ih a j b e)
 intro fr
 induction fr with
 |nil=>exact nl
 |cons x r ih=>
  intro i a j b e
  cases i with
  |zero=>cases j with
   |zero=>cases e;exact .inl ⟨rfl,rfl⟩
   |succ j=>exact .inr ⟨dT,.inl e⟩
  |succ i=>cases j with
   |zero=>exact .inr ⟨dT,.inl e⟩
   |succ j=>exact up (fun h=>h) (ih i a j b e)
theorem qr: ∀(fr:Fm) {i j:Nat} (a b:AV),i≠j->put (put fr i a) j b=put (put fr j b) i a:=by
 have nl: ∀(i j:Nat) (a b:AV),i≠j->put (put [] i a) j b=put (put [] j b) i a:=by
  intro i
  induction i with
  |zero=>intro j a b h;cases j with
   |zero=>exact absurd rfl h
   |succ j=>rfl
  |succ i ih=>intro j a b h;cases j with
   |zero=>rfl
   |succ j=>exact congrArg (AV.unb:: ·) (ih j a b fun q=>h (congrArg _ q))
 intro fr
 induction fr with
 |nil=>intro i j a b h;exact nl i j a b h
 |cons x r ih=>
  intro i j a b h
  cases i with
  |zero=>cases j with
   |zero=>exact absurd rfl h
   |succ j=>rfl
  |succ i=>cases j with
   |zero=>rfl
   |succ j=>exact congrArg (x:: ·) (ih a b fun q=>h (congrArg _ q))
structure G4(X:FX):Prop where
 uniq: ∀(i j:Nat) x,X.names i=some x->X.names j=some x->i=j
 inter:interactive X.env=false
theorem dN{α β:Type}[BEq α][LawfulBEq α]{n:α}{c:β}: ∀{l:List (α×β)},l.lookup n=some c->(n,c)∈l
 |(m,d)::r,e=>by
  rw[cD]at e
  split at e
  ·rename_i q;cases e;rw[beq_iff_eq.mp q];exact bf
  ·exact aQ _ (dN e)
theorem Ji{l:List (Str×aC)}(h:l.Pairwise fun x y=>x.2≠y.2){n n':Str}{c:aC}(e:(n,c)∈l)(e':(n',c)∈l):n=n':=by
 induction l with
 |nil=>cases e
 |cons p r ih=>
  rw[js]at h
  rcases aG.mp e with q|q<;>rcases aG.mp e' with q'|q'
  ·rw[<- q]at q';exact(cJ q').1.symm
  ·exact absurd (by rw[<- q]) (h.1 _ q')
  ·exact absurd (by rw[<- q']) (h.1 _ q)
  ·exact ih h.2 q q'
theorem pQ.put(F:pQ X W fr σ h)(O':G4 X){i:Nat}{x:Str}(hx:X.names i=some x){a:AV}{v:ah}(hv:V X.C W a v){m':Str->Option ah}(hn:h'.Ns X.env.locals m')(hnew:jc X h' m' x v)
  (hold: ∀m,h.Ns X.env.locals m-> ∀z u,z≠x->jc X h m z u->jc X h' m' z u)(cells: ∀n c,X.env.cells.lookup n=some c-> ∃v,h'.IsCell c v)(live: ∀c,X.Has c-> ∃o,h'.get? c=some o):pQ X W (put fr i a) σ h':=by
 obtain⟨⟨m,h1,b⟩,_,d,xM,d',_⟩:=F
 refine⟨⟨m',hn,fun j y e=> ?_⟩,cells,d,xM,d',live⟩
 rcases x5 fr i a j y e with⟨rfl,rfl⟩|⟨hj,e|e⟩
 ·refine .inr fun z p=> ?_
  rw[hx]at p;cases p
  exact⟨v,hnew,hv⟩
 ·refine(b j y e).imp id fun f z p=> ?_
  refine eX (f z p) fun u q r=> ?_
  exact⟨u,hold m h1 z u (fun q=>hj (O'.uniq _ _ _ (q▸p) hx)) q,r⟩
 ·exact .inl e
theorem aix{h:bM}{a:aC}{m m':Str->Option ah}(x:h.Ns a m)(y:h.Ns a m'):m=m':=by
 refine Xq (x) fun o es ep h1 h2 _ h4=> ?_
 refine Xq (y) fun o' es' ep' g1 g2 _ g4=> ?_
 rw[h1]at g1;cases g1
 rw[h2]at g2;cases g2
 funext n;rw[<- h4,<- g4]
theorem jc.turn{m m':Str->Option ah}{z:Str}{u:ah}(q:jc X h m z u)(hl:X.env.kindOf z=some .local->m z=some u->m' z=some u)(hc: ∀c,X.env.cells.lookup z=some c->h.IsCell c (some u)->h'.IsCell c (some u)):jc X h' m' z u:=by
 unfold jc at q ⊢
 revert q hl
 cases X.env.kindOf z with
 |none=>exact fun q _=>q.elim
 |some kd=>
  cases kd with
  |«local»=>exact fun q hl=>hl rfl q
  |cell=>exact fun⟨c,q1,q2⟩ _=>⟨c,q1,hc c q1 q2⟩
  |free=>exact fun⟨c,q1,q2⟩ _=>⟨c,q1,hc c q1 q2⟩
  |_=>exact fun q _=>q.elim
theorem St.store(O:ve X)(O':G4 X)(T:St X W fr σ s){i:Nat}{x:Str}(hx:X.names i=some x)(hk:X.env.kindOf x=some .local\/(X.env.kindOf x=some .cell/\ ∃c,X.env.cells.lookup x=some c/\c∈X.own)){a:AV}{v:ah}(hv:V X.C W a v):
  wpAny (dH X.C) A (storeName X.env x v) (fun _ s'=>St X W (put fr i a) σ s') dw s:=by
 obtain⟨R,F,S⟩:=T
 refine eX (F.vars) fun m hn _=> ?_
 rcases hk with hl|⟨hc,cx,hcx,own⟩
 ·refine wpAny_storeName_local hl hn (fun h' hn' hs=> ?_) (by rw[O.kind];rfl)
  have hb: ∀b o,b≠X.env.locals->s.heap.get? b=some o->h'.get? b=some o:=fun b o q e=>hs.extBut b o q e
  have keepC: ∀c n w,X.env.cells.lookup n=some c->s.heap.IsCell c w->h'.IsCell c w:=fun c n w e ⟨o,p,q⟩=>⟨o,hb _ _ (O.notL n c e) p,q⟩
  refine⟨R.keepsBut (F.sep _ (.inl rfl)) (F.own _ O.loc) (fun a cc p e e'=>F.apart _ (.inl rfl) a cc p e e') hb,F.put O' hx hv hn' (by unfold jc;rw[hl];exact if_pos rfl) (fun aim PM z u hz q=> ?_) (fun n c' e=>let⟨v,z⟩:=F.cells n c' e;⟨v,keepC _ _ _ e z⟩) fun c' hc'=> ?_,S.mk' _ _ (by first|exact ax _|exact cR _|(dsimp only;omega))⟩
  ·rw[aix PM hn]at q
   exact q.turn (fun _ e=>(if_neg hz).trans e) fun c e q=>keepC c z _ e q
  ·by_cases q:c'=X.env.locals
   ·obtain⟨o,_,_,z,_⟩:=hn';exact⟨o,by rw[q];exact z⟩
   ·obtain⟨o,z⟩:=F.live c' hc';exact⟨o,hb _ _ q z⟩
 ·obtain⟨wl,hcv⟩:=F.cells x cx hcx
  refine wpAny_storeName_cell O.kind hc hcx hcv fun h' hn' hs=> ?_
  have hb: ∀b o,b≠cx->s.heap.get? b=some o->h'.get? b=some o:=fun b o q e=>hs.extBut b o q e
  have keepC: ∀c n w,X.env.cells.lookup n=some c->n≠x->s.heap.IsCell c w->h'.IsCell c w:=fun c n w e hne ⟨o,p,q⟩=>⟨o,hb _ _ (fun q=>by subst q;exact hne (Ji O.apart (dN e) (dN hcx))) p,q⟩
  have has:X.Has cx:=.inr (.inr own)
  refine⟨R.keepsBut (F.sep _ has) (F.own _ own) (fun a cc p e e'=>F.apart _ has a cc p e e') hb,F.put O' hx hv (hn.at' fun o e=>hb _ _ (tu (O.notL x cx hcx)) e) (by unfold jc;rw[hc];exact⟨cx,hcx,hn'⟩) (fun aim PM z u hz q=> ?_) (fun n c' e=> ?_) fun c' hc'=> ?_,S.trans ⟨_,_,rfl,ax _⟩⟩
  ·rw[aix PM hn]at q
   exact q.turn (fun _ e=>e) fun c e q=>keepC c z _ e hz q
  ·by_cases q:n=x
   ·subst q;rw[hcx]at e;cases e;exact⟨_,hn'⟩
   ·obtain⟨v,z⟩:=F.cells n c' e;exact⟨v,keepC _ _ _ e q z⟩
  ·by_cases q:c'=cx
   ·obtain⟨o,z,_⟩:=hn';exact⟨o,by rw[q];exact z⟩
   ·obtain⟨o,z⟩:=F.live c' hc';exact⟨o,hb _ _ q z⟩
def Sy(X:FX)(is:ac)(t:an):Prop:=
 ∀A,A.handled=none-> ∀W fr σ s,St X W fr σ s-> ∀a v,V X.C W a v-> ∀fr',mm is a fr σ=some fr'->wpAny (dH X.C) A (assign t X.env v) (fun _ s'=>St X W fr' σ s') dw s
def km(X:FX)(i:Nat)(x:Str):Prop:=X.names i=some x/\(X.env.kindOf x=some .local\/(X.env.kindOf x=some .cell/\ ∃c,X.env.cells.lookup x=some c/\c∈X.own))
theorem HH(O:ve X)(O':G4 X){i:Nat}{x:Str}{p:Pos}(hx:km X i x):Sy X [i] (.Name x p):=fun A _ W fr σ s T a v hv fr' e=>by
 apply s1 e
 exact lB (T.store O O' hx.1 hx.2 hv)
inductive qg(X:FX):List Nat->List an->Prop where
 |nil:qg X [] []
 |cons {i x p is ts} (h:km X i x) (r:qg X is ts):qg X (i::is) (.Name x p::ts)
theorem qg.len{is:ac}{ts:List an}(N:qg X is ts):is.length=ts.length:=by induction N<;>simp_all
theorem qg.each{is:ac}{ts:List an}(N:qg X is ts){env:Env}:(assignEach ts env).findIdx? (·.1)=none/\(assignEach ts env).length=ts.length/\(assignEach ts env).all (fun p=> !p.1)=true:=by
 induction N with
 |nil=>exact⟨rfl,rfl,rfl⟩
 |cons h r ih=>
  rename_i i x p is ts
  have e:assignEach (.Name x p::ts) env=(false,assign (.Name x p) env)::assignEach ts env:=rfl
  rw[e]
  refine⟨?_,by simp[ih.2.1],by simpa using ih.2.2⟩
  rw[List.findIdx?_cons];simp[ih.1]
theorem qg.order(O:ve X)(O':G4 X){is:ac}{ts:List an}(N:qg X is ts): ∀{W fr σ s},St X W fr σ s-> ∀{l vs},VL X.C W l vs-> ∀{fr'},vL is l fr=some fr'->
  wpAny (dH X.C) A (assignInOrder ((assignEach ts X.env).map (·.2)) vs) (fun _ s'=>St X W fr' σ s') dw s:=by
 induction N with
 |nil=>
  intro W fr σ s T l vs q fr' e
  cases l with
  |nil=>cases e;rw[show vs=[] from q];exact aL T
  |cons=>cases e
 |cons h r ih=>
  intro W fr σ s T l vs q fr' e
  cases l with
  |nil=>cases e
  |cons a l=>
   obtain⟨v,vs,rfl,q,q'⟩:=q
   rename_i i x p is ts
   refine fh (eC (lB (T.store O O' h.1 h.2 q)) fun _ s' T'=>ih T' q' e)
theorem LZ: ∀{is:ac} {l:aa} {fr fr':Fm},vL is l fr=some fr'->is.length=l.length
 |[],[],_,_,_=>rfl
 |i::is,a::l,fr,fr',e=>congrArg nM (LZ (is:=is) (l:=l) (fr:=put fr i a) (fr':=fr') e)
 |[],_::_,_,_,e=>by cases e
 |_::_,[],_,_,e=>by cases e
@[elab_as_elim] theorem KB {i j:Nat} {is:ac} {a:AV} {fr fr':Fm} {Q:AV->Prop} (e:mm (i::j::is) a fr σ=some fr') (k: ∀l,vL (i::j::is) l fr=some fr'->Q (.tup l)):Q a:=ND (show G5 a (fun l=>vL (i::j::is) l fr)=some fr' from e) k
theorem Ld(O:ve X)(O':G4 X){i j:Nat}{is:ac}{ts:List an}{c:Nat}{p:Pos}(N:qg X (i::j::is) ts):Sy X (i::j::is) (.Tuple ts c p):=fun A hA W fr σ s T a v hv fr' e=>by
 revert hv
 refine KB e fun l e hv=>hv.tupE fun x n vs q r=> ?_
 have ht:s.heap.IsTuple x vs.toArray:=⟨_,T.rel.im _ _ q,rfl,n,rfl⟩
 refine ud (N.each (env:=X.env)) fun n1 n2 n3=> ?_
 refine wpAny_assign_Tuple hA ht ?_ n1 fun h' he=> ?_
 ·rw[n2,<- N.len,LZ e,aZ,r.length]
 ·exact N.order O O' (T.keeps (fun b o z=>he b o (ct (cv z)) z) s.toks) r e
end
end
end
section
open PySem.SeqAt
noncomputable section
section
variable{X:FX}{k:Nat}{W W':Wd}{fr fr':Fm}{σ ai:AS}{s s':az}{A:b5}{h h':bM}{C:PC}
theorem KV{M:lc}{α:Type}{t:Sem α}{Q:α->az->Prop}{E:ah->az->Prop}(h:wpAny M A t Q dw s):wpAny M A t Q E s:=jw h (fun _ _ q=>q) fun _ _ e=>e.elim
theorem afa:mQ X k br []:=fun A R W fr σ s T r e=>by
 apply s1 e;exact oQ ⟨rfl,T.postU⟩
theorem aa2{m n:SM}{st:bV}{sts:List bV}(hm:lJ X k m st)(hn:mQ X k n sts):mQ X k (aV m n) (st::sts):=fun A R W fr σ s T r e=>by
 refine oE e fun o q e=>nP (eC (hm A R W fr σ s T _ q) fun f bq P=> ?_)
 cases o with
 |next gT ay=>
  obtain⟨rfl,P⟩:=P
  exact P.elim fun bm bC bw=>eC (hn A R bm gT ay bq bw r e) fun _ _ z=>z.le bC
 |brk gT ay=>apply s1 e;obtain⟨rfl,P⟩:=P;exact⟨rfl,P⟩
 |cont gT ay=>apply s1 e;obtain⟨rfl,P⟩:=P;exact⟨rfl,P⟩
 |ret a ay=>apply s1 e;obtain⟨v,uk,rfl,P⟩:=P;exact⟨v,uk,rfl,P⟩
theorem YL{m n:SM}{sts:List bV}(hm: ∀W fr σ s,St X W fr σ s-> ∀r,m fr σ=some r-> ∃W' fr' ai,r= .next fr' ai/\W.le W'/\St X W' fr' ai s)(hn:mQ X k n sts):mQ X k (aV m n) sts:=fun A R W fr σ s T r e=>by
 refine oE e fun o q e=> ?_
 obtain⟨bm,gT,ay,rfl,bC,bw⟩:=hm W fr σ s T _ q
 exact eC (hn A R bm gT ay s bw r e) fun _ _ z=>z.le bC
theorem amS{c:BM}{m n:SM}{test:an}{b o:List bV}{p:Pos}(hc:nh X k c test)(hm:mQ X k m b)(hn:mQ X k n o):lJ X k (sb c m n) (.If test b o p):=fun A R W fr σ s T r e=>by
 refine fS e fun t ay q e=>wpAny_If (hc.go R T q fun bq bm bC bw=> ?_)
 cases t with
 |true=>exact eC (hm A R bm fr ay bq bw r e) fun _ _ z=>z.le bC
 |false=>exact eC (hn A R bm fr ay bq bw r e) fun _ _ z=>z.le bC
noncomputable def ql(e:an):Option dZ:=match e with
 | .ListComp _ _ s _| .SetComp _ _ s _| .DictComp _ _ _ s _=>some s
 |_=>none
noncomputable def jP(e:an):Bool:=(ql e).isNone
theorem tz{e:an}(h:jP e=true){t:Option an}{l:Nat}{env:Env}:swapsWith e t l env=pure false:=by
 have h:=dG.mp h
 unfold swapsWith
 show(match ql e with|some scope=>_|x=>pure false)=_
 rw[h]
theorem ae3(O':G4 X){m:EM}{e:an}{p:Pos}(hm:b6 X k m e)(hc:jP e=true):lJ X k (k9 m) (.Expr e p):=fun A R W fr σ s T r q=>by
 refine fS q fun a ay q1 q=> ?_
 apply s1 q
 exact Ke (hm.go R T q1 fun v bq bm bC bw _=>⟨rfl,bm,bC,bw⟩) O'.inter (tz hc)
theorem akz{m:EM}{e:an}{p:Pos}(hm:b6 X k m e):lJ X k (eK m) (.Return (some e) p):=fun A R W fr σ s T r q=>by
 refine fS q fun a ay q1 q=> ?_
 apply s1 q
 exact wpAny_Return_some (eC (hm A R W fr σ s T _ _ q1) fun v bq z=>⟨v,fr,rfl,z⟩)
theorem ae8{p:Pos}:lJ X k (eK (ba .none)) (.Return none p):=fun A R W fr σ s T r q=>by
 apply s1 q
 exact wpAny_Return_none ⟨.none,fr,rfl,T.post rfl⟩
theorem ae1{p:Pos}:lJ X k (fun fr σ=>some (.cont fr σ)) (.Continue p):=fun A R W fr σ s T r q=>by
 apply s1 q
 exact fun _ _ _=>⟨rfl,T.postU⟩
theorem Jr{is:ac}{m:EM}{r:j9}{Q:j9->Prop}(e:cT is m fr σ=some r)(k: ∀a ay fr',m fr σ=some (a,ay)->mm is a fr ay=some fr'->Q (.next fr' ay)):Q r:=fS e fun a ay q e=>oE e fun fr' q' e=>by
 apply s1 e;exact k a ay fr' q q'
theorem YJ(O:ve X)(O':G4 X){i:Nat}{x:Str}{m:EM}{e:an}{p p':Pos}(hx:km X i x)(hm:b6 X k m e)(hc:swapsWith e (some (.Name x p')) p.line X.env=pure false):lJ X k (cT [i] m) (.Assign [.Name x p'] e p):=fun A R W fr σ s T r q=>by
 apply Jr q;intro a ay fr' q1 q2
 apply s1 q2
 exact wpAny_Assign_Name (hm.go R T q1 fun v bq bm bC bw z=>eC (bw.store O O' hx.1 hx.2 z) fun _ dW cP=>⟨rfl,bm,bC,cP⟩) hc
theorem aeV(O:ve X)(O':G4 X){i j:Nat}{is:ac}{ts:List an}{c:Nat}{m:EM}{e:an}{p p':Pos}(N:qg X (i::j::is) ts)(hm:b6 X k m e)(hc:jP e=true)
  (hw:swappedStores [.Tuple ts c p'] e X.env=pure none):lJ X k (cT (i::j::is) m) (.Assign [.Tuple ts c p'] e p):=fun A R W fr σ s T r q=>by
 apply Jr q;intro a ay fr' q1 q2
 exact Assign_Tuple (hm.go R T q1 fun v bq bm bC bw z=>eC (Ld O O' N A R.handled bm fr ay bq bw a v z fr' q2) fun _ dW cP=>⟨rfl,bm,bC,cP⟩) (show swapsWith e (some (.Tuple ts c p')) p.line X.env=pure false from tz hc) hw
theorem aeW(O:ve X)(O':G4 X){i j:Nat}{x y:Str}{ts:List an}{c:Nat}{m:EM}{e:an}{p p':Pos}(hx:km X i x)(hy:km X j y)(hij:i≠j)(hm:b6 X k m e)(hc:jP e=true)
  (hw:swappedStores [.Tuple ts c p'] e X.env=pure (some [x,y])):lJ X k (cT [i,j] m) (.Assign [.Tuple ts c p'] e p):=fun A R W fr σ s T r q=>by
 apply Jr q;intro a ay fr' q1 q2
 refine yF (hm.go R T q1 fun v bq bm bC bw z=> ?_) (show swapsWith e (some (.Tuple ts c p')) p.line X.env=pure false from tz hc) hw
 clear q1
 revert z
 refine KB q2 fun l q2 z=>z.tupE fun x' n vs q r=> ?_
 revert q2
 match l,r with
 |[a,b],⟨v,_,e1,r1,w,_,e2,r2,r3⟩=>
  intro q2
  cases r3;cases e2;cases e1
  refine vd (items:= #[v,w]) R.handled ⟨_,bw.rel.im _ _ q,rfl,n,rfl⟩ fun h' he=> ?_
  have cP:=bw.keeps (fun b o z=>he b o (ct (cv z)) z) bq.toks
  show wpAny _ _ (assignInOrder [bindName X.env y,bindName X.env x] [w,v]) _ _ _
  refine fh (me (eC (cP.store O O' hy.1 hy.2 r2) fun _ jK jb=>fh (me (eC (jb.store O O' hx.1 hx.2 r1) fun _ oA oh=>tR ⟨rfl,bm,bC,?_⟩))))
  apply s1 q2
  rw[qr _ _ _ hij];exact oh
 |[],_=>exact fun q2=>nn q2
 |[_],_=>exact fun q2=>nn q2
 |_::_::_::_,_=>exact fun q2=>nn q2
theorem aaX(O:ve X)(O':G4 X){i j l:Nat}{x y z:Str}{ts:List an}{c:Nat}{m:EM}{e:an}{p p':Pos}(hx:km X i x)(hy:km X j y)(hz:km X l z)(hij:i≠j)(hil:i≠l)(hjl:j≠l)(hm:b6 X k m e)(hc:jP e=true)
  (hw:swappedStores [.Tuple ts c p'] e X.env=pure (some [x,y,z])):lJ X k (cT [i,j,l] m) (.Assign [.Tuple ts c p'] e p):=fun A R W fr σ s T r q=>by
 apply Jr q;intro a ay fr' q1 q2
 refine yF (hm.go R T q1 fun v bq bm bC bw pJ=> ?_) (show swapsWith e (some (.Tuple ts c p')) p.line X.env=pure false from tz hc) hw
 clear q1
 revert pJ
 refine KB q2 fun la q2 pJ=>pJ.tupE fun x' n vs q r=> ?_
 revert q2
 match la,r with
 |[a,b,d],⟨v,_,e1,r1,w,_,e2,r2,u,_,e3,r3,r4⟩=>
  intro q2
  cases r4;cases e3;cases e2;cases e1
  refine vd (items:= #[v,w,u]) R.handled ⟨_,bw.rel.im _ _ q,rfl,n,rfl⟩ fun h' he=> ?_
  have cP:=bw.keeps (fun b o z=>he b o (ct (cv z)) z) bq.toks
  show wpAny _ _ (assignInOrder [bindName X.env z,bindName X.env y,bindName X.env x] [u,w,v]) _ _ _
  refine fh (me (eC (cP.store O O' hz.1 hz.2 r3) fun _ jK jb=>fh (me (eC (jb.store O O' hy.1 hy.2 r2) fun _ oA oh=>fh (me (eC (oh.store O O' hx.1 hx.2 r1) fun _ sF xE=>tR ⟨rfl,bm,bC,?_⟩))))))
  apply s1 q2
  rw[qr (put fr i a) _ _ hjl,qr fr _ _ hil,qr (put fr l d) _ _ hij];exact xE
 |[],_=>exact fun q2=>nn q2
 |[_],_=>exact fun q2=>nn q2
 |[_,_],_=>exact fun q2=>nn q2
 |_::_::_::_::_,_=>exact fun q2=>nn q2
theorem mQ.turn{b:SM}{body:List bV}(hb:mQ X k b body)(R:eN A k)(T:St X W fr σ s){kk:SM}{r:j9}(e:ob (b fr σ) (KR kk)=some r){Q:NZ->az->Prop}
  (h1: ∀fr' ai s' W',W.le W'->St X W' fr' ai s'->kk fr' ai=some r->Q .next s'/\Q .cont s')(h2: ∀fr' ai s' W',W.le W'->St X W' fr' ai s'->r= .next fr' ai->Q .brk s')(h3: ∀a ai v fr' s' W',W.le W'->St X W' fr' ai s'->V X.C W' a v->r= .ret a ai->Q (.ret v) s'):
  wpAny (dH X.C) A (execs body X.env) Q dw s:=oE e fun o q e=>eC (hb A R W fr σ s T _ q) fun f bq P=>by
 cases o with
 |next fr' ai=>obtain⟨rfl,W',l,T'⟩:=P;exact(h1 fr' ai bq W' l T' e).1
 |cont fr' ai=>obtain⟨rfl,W',l,T'⟩:=P;exact(h1 fr' ai bq W' l T' e).2
 |brk fr' ai=>obtain⟨rfl,W',l,T'⟩:=P;exact h2 fr' ai bq W' l T' (aH e).symm
 |ret a ai=>obtain⟨v,fr',rfl,W',l,T',z⟩:=P;exact h3 a ai v fr' bq W' l T' z (aH e).symm
def afz(X:FX)(W:Wd)(c:BM)(b:SM)(r:j9)(n:Nat)(s':az):Prop:= ∃W' fr σ,W.le W'/\St X W' fr σ s'/\TG c b n fr σ=some r
theorem YX{R':tM->az->Prop}{c:BM}{b:SM}{r:j9}{n:Nat}{test:an}{body:List bV}(hc:nh X k c test)(hb:mQ X k b body)(R:eN A k)(hR: ∀f s',Ca X W r f s'->R' (.ok f) s')(h:afz X W c b r n s):codeAny (dH X.C) A (.whileLoop test body [] X.env) R' s:=by
 refine codeAny_whileLoop (afz X W c b r) (fun n s' h=> ?_) n h
 refine Xp (h) fun W' fr σ l T e=> ?_
 cases n with
 |zero=>exact nn e
 |succ n=>
  refine fS (show bD (c fr σ) (fun t ai=>bif t then ob (b fr ai) (KR (TG c b n))else some (.next fr ai))=some r from e) fun t ay q e=>KV (hc.go R T q fun bq bm bC bw=> ?_)
  have l:=l.trans bC
  cases t with
  |false=>exact oQ (hR _ _ (by apply s1 e;exact⟨rfl,bm,l,bw⟩))
  |true=>
   refine KV (hb.turn R bw e (fun uk aM dW cA dQ cP e=> ?_) (fun uk aM dW cA dQ cP e=> ?_) fun a aM v uk dW cA dQ cP z e=> ?_)
   ·have h: ∃m,m<n+1/\afz X W c b r m dW:=⟨n,bT _,cA,uk,aM,l.trans dQ,cP,e⟩
    exact⟨h,h⟩
   ·exact hR _ _ (by rw[e];exact⟨rfl,cA,l.trans dQ,cP⟩)
   ·exact hR _ _ (by rw[e];exact⟨v,uk,rfl,cA,l.trans dQ,cP,z⟩)
theorem aa1{c:BM}{b:SM}{n:Nat}{test:an}{body:List bV}{p:Pos}(hc:nh X k c test)(hb:mQ X k b body):lJ X k (TG c b n) (.While test body [] p):=fun A R W fr σ s T r e=>
 wpAny_While (YX hc hb R (fun _ _ h=>h) ⟨W,fr,σ,.refl _,T,e⟩)
structure il(X:FX)(W:Wd)(σ:AS)(I:aC)(l:List AV)(i:Nat)(h:bM)(S:Nat->bM->Prop)(fp:List aC)(P:Nat->ah->Prop):Prop where
 it: ∃pe,xk X W σ I l pe S fp P
 at_:S i h
 loose:ig X W σ I
theorem Pr{α:Type}{l:List α}{i:Nat}{a:α}{r:List α}(h:l.drop i=a::r):i<l.length/\r=l.drop (i+1):=by
 refine⟨?_,?_⟩
 ·rcases oM i l.length with z|z
  ·exact z
  ·rw[hV z]at h;cases h
 ·have:=congrArg (Bo 1) h
  rw[pZ]at this
  exact this.symm
theorem il.item{I:aC}{l:aa}{i:Nat}{S:Nat->bM->Prop}{fp:List aC}{P:Nat->ah->Prop}(w:il X W σ I l i s.heap S fp P)(T:St X W fr σ s)(hA:A.handled=none){a:AV}{r:aa}(e:l.drop i=a::r)
  {Q:Option ah->az->Prop}(h: ∀v s',St X W fr σ s'->il X W σ I l (i+1) s'.heap S fp P->V X.C W a v->(∀b o,b≠I->s.heap.get? b=some o->s'.heap.get? b=some o)->Q (some v) s'):wpAny (dH X.C) A (pyNext (.ref I)) Q dw s:=by
 obtain⟨⟨pe,It⟩,st,L⟩:=w
 have hi:=(Pr e).1
 have hg:l[i]? =some a:=by
  have:(l.drop i)[0]? =some a:=by rw[e];rfl
  rwa[qZ]at this
 refine V2 (ax s.toks) ?_
 refine(It.walks A hA).item i s _ _ hi st fun v h' tk hP hS hk=>fun ht=> ?_
 refine eX (It.val i v hi hP) fun a' e1 q=> ?_
 rw[hg]at e1;cases e1
 exact h v _ (T.but L (fun b o hb=>hk b o (by simpa using hb)) tk ht) ⟨⟨pe,It⟩,hS,L⟩ q fun b o hb=>hk b o (by simpa using hb)
theorem il.done{I:aC}{l:aa}{i:Nat}{S:Nat->bM->Prop}{fp:List aC}{P:Nat->ah->Prop}(w:il X W σ I l i s.heap S fp P)(T:St X W fr σ s)(hA:A.handled=none)(hl:i<=l.length)(e:l.drop i=[])
  {Q:Option ah->az->Prop}(h: ∀s',St X W fr σ s'->(∀b o,b≠I->s.heap.get? b=some o->s'.heap.get? b=some o)->Q none s'):wpAny (dH X.C) A (pyNext (.ref I)) Q dw s:=by
 obtain⟨⟨pe,It⟩,st,L⟩:=w
 have hi:i=l.length:=by
  exact vp hl (oK.mp e)
 subst hi
 refine V2 (ax s.toks) ?_
 exact(It.walks A hA).done s _ _ st fun h' tk hk=>fun ht=>h _ (T.but L (fun b o hb=>hk b o (by simpa using hb)) tk ht) fun b o hb=>hk b o (by simpa using hb)
theorem il.pin{I:aC}{l:aa}{i:Nat}{S:Nat->bM->Prop}{fp:List aC}{P:Nat->ah->Prop}(w:il X W σ I l i s.heap S fp P)(T:St X W fr σ s):
  ∃o,St X (W.pin I o) fr σ s/\ ∀{bm:Wd} {fr':Fm} {ai:AS} {s':az},(W.pin I o).le bm->St X bm fr' ai s'->W.le {bm with pr:=W.pr}/\St X {bm with pr:=W.pr} fr' ai s'/\il X {bm with pr:=W.pr} ai I l i s'.heap S fp P:=by
 obtain⟨⟨pe,It⟩,st,L⟩:=w
 refine agr (It.obj i _ st) fun o n ho _ _=> ?_
 refine⟨o,T.pin L ho,fun{bm fr' ai s'} bC bw=> ?_⟩
 refine Xm (St.unpin bC L bw) fun le cP e BE=> ?_
 refine⟨le,cP,⟨pe,⟨It.walks,It.st,(It.mono le).fp,(It.mono le).val,It.obj⟩⟩,(It.walks {} rfl).frame i _ _ st fun b hb o' e'=> ?_,BE⟩
 rcases It.fp b hb with rfl|⟨oo,z⟩
 ·rw[ho]at e';cases e';exact e
 ·have z1:=T.rel.im _ _ z
  rw[e']at z1;cases z1
  exact cP.rel.im _ _ (le.2.1 _ _ z)
theorem il.go{I:aC}{l:aa}{i:Nat}{S:Nat->bM->Prop}{fp:List aC}{P:Nat->ah->Prop}(w:il X W σ I l i s.heap S fp P){v:ah}{Q:Unit->az->Prop}{t:an}(hq:Q () s):
  wpAny (dH X.C) A (letOwnedTupleGo t (.ref I) v) Q dw s:=by
 obtain⟨⟨pe,It⟩,st,L⟩:=w
 refine agr (It.obj i _ st) fun o n ho hc hn=> ?_
 have key:wpAny (dH X.C) A (do
   let(.ref r,.ref a):=(oa I,v)|return
   let o <- load r
   match o.cls,o.data with
   | .type n,.fields vs=>
    if["enumerate","zip","dict_itemiterator","dict_reverseitemiterator","odict_iterator","itertools.zip_longest","itertools.pairwise"].contains n&&vs[0]? ==some (rawInt a)then
     rule "for.unpacks-the-owned-tuple"
     updateField r 0 .none
   |_,_=>pure ():Sem Unit) Q dw s:=by
  cases v with
  |ref a=>
   refine aq (wpAny_load ho ?_)
   rw[hc]
   cases hd:o.data with
   |fields vs=>
    dsimp only
    rw[hn,Bool.false_and,if_neg (by decide)]
    exact aL hq
   |_=>exact aL hq
  |_=>exact aL hq
 unfold letOwnedTupleGo
 cases t<;>first|exact aL hq|exact key
def afr(X:FX)(W:Wd)(is:ac)(b:SM)(I:aC)(l:aa)(S:Nat->bM->Prop)(fp:List aC)(P:Nat->ah->Prop)(r:j9)(n:Nat)(s':az):Prop:= ∃i W' fr σ,n=l.length-i/\i<=l.length/\W.le W'/\St X W' fr σ s'/\il X W' σ I l i s'.heap S fp P/\pF is b (l.drop i) fr σ=some r
theorem YQ{n i:Nat}(h:i<n):n-(i+1)<n-i:=Nat.sub_lt_sub_left h (bT i)
theorem adP{R':tM->az->Prop}{is:ac}{b:SM}{tg:an}{body:List bV}{I:aC}{l:aa}{S:Nat->bM->Prop}{fp:List aC}{P:Nat->ah->Prop}{r:j9}(ht:Sy X is tg)(hb:mQ X k b body)(R:eN A k)(hR: ∀f s',Ca X W r f s'->R' (.ok f) s'){n:Nat}(h:afr X W is b I l S fp P r n s):codeAny (dH X.C) A (.forLoop tg (.ref I) body [] X.env) R' s:=by
 refine codeAny_forLoop_any (afr X W is b I l S fp P r) (fun n s' h=> ?_) n h
 obtain⟨i,W',fr,σ,rfl,hl,le,T,w,e⟩:=h
 cases hd:l.drop i with
 |nil=>
  rw[hd]at e
  exact KV (w.done T R.handled hl hd fun s' T' _=>oQ (hR _ _ (by apply s1 e;exact⟨rfl,W',le,T'⟩)))
 |cons a r'=>
  rw[hd]at e
  obtain⟨hi',hr⟩:=Pr hd
  refine oE (show ob (mm is a fr σ) (fun gT=>ob (b gT σ) (KR (pF is b r')))=some r from e) fun gT q3 e=>KV (w.item T R.handled hd fun v jK jb anK Y1 _=>KV (anK.go ?_))
  refine eX (anK.pin jb) fun o oh back=> ?_
  refine KV (eC (ht A R.handled _ fr σ jK oh a v (Y1.pr rfl rfl) gT q3) fun _ oA xE=>KV (hb.turn R xE e (fun uk cM sF ID Qd LU e=> ?_) (fun uk cM sF ID Qd LU e=> ?_) fun a cM v uk sF ID Qd LU alh e=> ?_))
  ·obtain⟨le7,T7,w7⟩:=back Qd LU
   have h: ∃m,m<l.length-i/\afr X W is b I l S fp P r m sF:=⟨l.length-(i+1),YQ hi',i+1,_,uk,cM,rfl,hi',le.trans le7,T7,w7,hr▸e⟩
   exact⟨h,h⟩
  ·obtain⟨le7,T7,w7⟩:=back Qd LU
   exact hR _ _ (by rw[e];exact⟨rfl,_,le.trans le7,T7⟩)
  ·refine ud (back Qd LU) fun le7 T7 w7=> ?_
   exact hR _ _ (by rw[e];exact⟨v,uk,rfl,_,le.trans le7,T7,alh.pr rfl rfl⟩)
theorem aks{is:ac}{it:EM}{b:SM}{tg ie:an}{body:List bV}{p:Pos}(hi:b6 X k it ie)(ht:Sy X is tg)(hb:mQ X k b body)(hs: ∀x,foldedSetIterable ie X.env x=pure x):lJ X k (gE is it b) (.For tg ie body [] p):=fun A R W fr σ s T r e=>by
 refine fS e fun a ay q1 e=>fS e fun l aM q2 e=>wpAny_For (hi.go R T q1 fun v bq bm bC bw pJ=>eC (vS bw q2 pJ) fun it dW z=>z.elim fun I cA S fp P dQ cP BE It=> ?_) hs
 exact adP ht hb R (fun _ _ h=>h) ⟨0,cA,fr,aM,rfl,aU _,bC.trans dQ,cP,⟨⟨_,It⟩,It.st,BE⟩,e⟩
end
end
end
section
open PySem.SeqAt
noncomputable section
section
variable{X:FX}{k:Nat}{W W':Wd}{fr fr':Fm}{σ ai:AS}{s s':az}{A:b5}{h h':bM}{C:PC}
theorem ajJ{K:dL}{prog:fZ}{w:d4}{E:ah->az->Prop}{x c d:aC}{es es':List ia}{n n':Nat}{name:Str}{v:ah}{Q:Unit->az->Prop}(X:K.In s.heap)(hx:s.heap.get? x=some (instObj c d))(hd:s.heap.get? d=some (dictOf es n))
  (hs:findIn K (.ref c) "__setattr__"=some (some (.builtin "object.__setattr__")))(hp:plainOver K c=true)(ht:takerIn K c name=some none)(hh:hasDictIn K c=true)(hl:(getL name es).isSome=true)
  (e:(putL name (p8 w.params name) (.str name (s.toks+1)) v es,putN name es n)=(es',n'))(hz:es'.length<=1000)
  (h: ∀h',h'.get? d=some (dictOf es' n')->i7 d s.heap h'->Q () {s with heap:=h',toks:=s.toks+2}):
  wpAny (model prog w) A (setAttr (.ref x) name v) Q E s:=by
 obtain⟨e1,e2⟩:=cJ e
 have I:InstAt s.heap x (instObj c d) c (some (dictOf es n)):=⟨hx,rfl,rfl,hd⟩
 refine Lz X I hs (osa_open (s:={s with toks:=s.toks+1}) X I hp ht fun b=> ?_)
 refine eX (any_some hh) fun cd hc hd'=> ?_
 refine aq (aL (aq (aq (qa hx (aq (wv X hc _ _ _ _ (fun _ _ e=>e) ?_))))))
 rw[hd']
 refine aL (a:=some d) (aq (aL (aq ?_)))
 unfold nsSet
 refine aq (aq (Gy (aL (aq (wpAny_mkText (aq (qa hd ?_)))))))
 have c0:(!es.toArray.any (·.key.isStr name)&&es.toArray.any (·.refKey))=false:=by
  rw[<- Gp,<- Gp]
  unfold getL at hl
  split at hl
  ·rename_i en he
   rw[kh.mpr ⟨en,List.mem_of_find?_eq_some he,List.find?_some he⟩];rfl
  ·split at hl
   ·cases hl
   ·rename_i z;rw[Bool.not_eq_true]at z;rw[z,Bool.and_false]
 dsimp only
 rw[aRefKeyMayBeTheName_at,c0]
 have hf:Rf name (p8 w.params name) (.str name (s.toks+1)) v (dictOf es n)=dictOf es' n':=by rw[putName_dict,e1,e2]
 have D':(s.heap.update d (Rf name (p8 w.params name) (.str name (s.toks+1)) v)).get? d=some (dictOf es' n'):=by
  rw[<- hf];exact jT _ hd (by rw[hf];rfl)
 refine wpAny_updatePart hd ?_
 refine aq (GA D' (Gw (by rw[aZ,jE];omega)) ?_)
 exact aL (h _ D' (ji ..))
theorem Hr: ∀{ks:ac} {vs:List ah} {es:List ia},oV C ks vs es->(∀e∈es,e.refKey=false)/\es.length=ks.length:=by
 intro ks
 induction ks with
 |nil=>intro vs es q;cases vs with
  |nil=>cases es with
   |nil=>exact⟨fun e he=>(by cases he),rfl⟩
   |cons=>exact q.elim
  |cons=>exact q.elim
 |cons k ks ih=>intro vs es q;cases vs with
  |nil=>exact q.elim
  |cons v vs=>cases es with
   |nil=>exact q.elim
   |cons en es=>
    obtain⟨_,⟨t,ht⟩,_,q⟩:=q
    obtain⟨h1,h2⟩:=ih q
    refine⟨fun e he=> ?_,congrArg _ h2⟩
    rcases aG.mp he with rfl|he
    ·unfold Gr;rw[ht]
    ·exact h1 e he
theorem XS(q:oV C ks vs es)(name:Str):(getL name es).isSome=true:=by
 unfold getL
 split
 ·rfl
 ·rw[if_neg];rfl
  intro h
  obtain⟨e,he,h⟩:=kh.mp h
  rw[(Hr q).1 e he]at h;cases h
theorem aaP{x kk:Nat}(hx:x<C.nf)(hk:kk<C.nf){hsh:Int}{t u:Tok}{v:ah}{en:ia}{es:List ia}(hu:en.key= .str (C.fname x) u):putL (C.fname kk) hsh (.str (C.fname kk) t) v (en::es)=if kk=x then{en with val:=v}::es else en::putL (C.fname kk) hsh (.str (C.fname kk) t) v es:=by
 by_cases h:kk=x
 ·subst h
  rw[if_pos rfl,putL,if_pos (by rw[hu];simp[kM])]
 ·rw[if_neg h,putL,if_neg]
  rw[hu]
  have:C.fname x≠C.fname kk:=fun q=>h (C.fnameInj _ _ hx hk q).symm
  simp[kM,this]
theorem ajH{kk:Nat}(hk:kk<C.nf){a:AV}{v:ah}{hsh:Int}{t:Tok}(hv:V C W a v): ∀{ks:ac} {fs:aa} {vs:List ah} {es:List ia},VL C W fs vs->oV C ks vs es->
  ∃vs',VL C W (Mh kk a ks fs).2 vs'/\oV C (Mh kk a ks fs).1 vs' (putL (C.fname kk) hsh (.str (C.fname kk) t) v es):=by
 intro ks
 induction ks with
 |nil=>
  intro fs vs es hf q
  cases vs with
  |nil=>cases es with
   |nil=>exact⟨[v],⟨v,[],rfl,hv,rfl⟩,hk,⟨t,rfl⟩,rfl,trivial⟩
   |cons=>exact q.elim
  |cons=>exact q.elim
 |cons x ks ih=>
  intro fs vs es hf
  cases fs with
  |nil=>exact hf.nilE fun q=>q.elim
  |cons b fs=>
   refine hf.consE fun w r h1 h2 q=> ?_
   cases es with
   |nil=>exact q.elim
   |cons en es=>
    obtain⟨hx,⟨u,hu⟩,rfl,q⟩:=q
    rw[aaP hx hk hu,ajI,gg]
    by_cases z:kk=x
    ·rw[if_pos z,decide_eq_true z]
     exact⟨v::r,⟨v,r,rfl,hv,h2⟩,hx,⟨u,hu⟩,rfl,q⟩
    ·rw[if_neg z,decide_eq_false z]
     refine eX (ih h2 q) fun vs' i1 i2=> ?_
     exact⟨en.val::vs',⟨_,_,rfl,h1,i1⟩,hx,⟨u,hu⟩,rfl,i2⟩
theorem Qz(T:St X W fr σ s){kk:Nat}(hk:kk<X.C.nf){a o:AV}(e:ou kk a o σ=some ai){v ov:ah}(hv:V X.C W a v)(ho:V X.C W o ov):
  wpAny (dH X.C) A (setAttr ov (X.C.fname kk) v) (fun _ s'=>St X W fr ai s') dw s:=by
 revert ho
 refine iA e fun x e ho=>instE e fun c ks fs hg e=>kS (show(bif cX (Mh kk a ks fs).1.length 1000&& !SH c kk then some (σ.set x (.inst c (Mh kk a ks fs).1 (Mh kk a ks fs).2))else none)=some ai from e) fun z e=> ?_
 apply s1 e
 obtain⟨z1,z2⟩:=bj.mp z
 refine T.rel.instE hg ho fun p es n vs q q0 q1 q2 r q3=> ?_
 refine ap4 (LY (X.C.attr c kk q0 hk (by rwa[d9]at z2))) fun p1 p2 _ p4 p5 p6=> ?_
 refine eX (ajH (W:=W) hk (hsh:=p8 X.C.w.params (X.C.fname kk)) (t:=s.toks+1) hv r q3) fun vs' i1 i2=> ?_
 refine ajJ T.rel.K (T.rel.im _ _ q1) q2 p4 p5 p6 p2 (XS q3 _) rfl (by rw[(Hr i2).2];exact av z1) fun h' h1 h2=> ?_
 exact T.set (c:=.inst c _ _) hg q h2 ⟨q0,q1,_,_,vs',h1,i1,i2⟩ _
theorem Ds{e:an}{o:an}{x:Str}{p:Pos}{l:Nat}{env:Env}:swapsWith e (some (.Attribute o x p)) l env=pure false:=by
 unfold swapsWith
 show(match ql e with|some scope=>pure false|x=>pure false)=_
 cases ql e<;>rfl
theorem aa8{e:an}{o x:an}{p:Pos}{l:Nat}{env:Env}:swapsWith e (some (.Subscript o x p)) l env=pure false:=by
 unfold swapsWith
 show(match ql e with|some scope=>pure false|x=>pure false)=_
 cases ql e<;>rfl
theorem aeS{kk:Nat}{o m:EM}{oe e:an}{p ap:Pos}(hk:kk<X.C.nf)(hm:b6 X k m e)(ho:b6 X k o oe):lJ X k (lU kk o m) (.Assign [.Attribute oe (X.C.fname kk) ap] e p):=fun A R W fr σ s T r q=>by
 refine fS q fun a ay q1 q=>fS q fun x aM q2 q=>oE q fun cM q3 q=> ?_
 apply s1 q
 refine jj (hm.go R T q1 fun v bq bm bC bw pJ=>ho.go R bw q2 fun ov dW cA dQ cP Mz=> ?_) Ds
 exact eC (Qz cP hk q3 (pJ.mono dQ) Mz) fun _ jK jb=>⟨rfl,cA,bC.trans dQ,jb⟩
theorem VJ{prog:fZ}{w:d4}{E:ah->az->Prop}{l:aC}{vs:List ah}{n:Nat}{k:Int}{t:Tok}{v:ah}{Q:Unit->az->Prop}(hl:s.heap.get? l=some (dy vs n))(h0:0<=k)(hfit:k<2^63)(hn:k<vs.length)
  (hQ: ∀h' n',h'.get? l=some (dy (vs.set k.toNat v) n')->i7 l s.heap h'->Q () {s with heap:=h'}):wpAny (model prog w) A (setItem (.ref l) (.int k t) v) Q E s:=by
 have hl':=lP hl
 unfold setItem
 refine dJ ?_
 refine aq (wpAny_sequenceKey hl'.typeIs (by decide) ?_)
 refine aq (wpAny_callSpecial?_slot (name:=lD "__setitem__") hl'.typeIs Fd
  (wpAny_call_entry Fd hl'.typeIs entry_list_setitem ?_ (args_list_setitem _ _ _)))
 show wpAny _ _ (Lv (.int k t)>>=_) _ _ s
 refine aq (wpAny_listSubscript_int (fitsIndex_of h0 hfit) ?_)
 clear hfit
 obtain⟨j,rfl⟩:=u6 h0
 have hn:j<vs.length:=by omega
 have hx':vs.toArray[j]? =some vs[j]:=by simp[hn]
 show wpAny _ _ ((seqItemAt l j>>=fun r=>pure (r.map (j,·)))>>=_) _ _ s
 refine aq (aq (wpAny_seqItemAt hl rfl (aL ?_)))
 rw[hx']
 show wpAny _ _ (setSeqItemAt l j v>>=_) _ _ s
 obtain⟨n',hd'⟩:=Obj.data_mapSeq (o:=dy vs n) rfl (·.setIfInBounds j v)
 have hfin:(s.heap.update l (H5 (·.setIfInBounds j v))).get? l=some (dy (vs.set j v) n'):=by
  rw[jT (H5 (·.setIfInBounds j v)) hl (Obj.isFreed_of_seq hd')]
  have: ∀o:Obj,o.cls= .type "list" ->o.dict=none->o.slots= #[]->o.data= .seq (vs.toArray.setIfInBounds j v) n'->o=dy (vs.set j v) n':=by
   rintro⟨c,d,da,sl⟩ rfl rfl rfl h
   have h:da=_:=h
   rw[h]
   simp[dy]
  rw[this _ (Obj.cls_mapSeq ..) (by rfl) (by rfl) hd']
 refine aq (wpAny_setSeqItemAt hl rfl ?_)
 first
  |exact aq (aL (aL ⟨.none,rfl,aL (hQ _ _ hfin (ji ..))⟩))
  |exact aL ⟨.none,rfl,aL (hQ _ _ hfin (ji ..))⟩
theorem aaS: ∀(l:aa) (i:Nat) (v:AV),NU l i v=l.set i v:=by
 intro l
 induction l with
 |nil=>intro i v;rfl
 |cons a r ih=>intro i v;cases i with
  |zero=>rfl
  |succ i=>exact congrArg (a:: ·) (ih i v)
theorem Xw{a b:ac}:dm a b=decide (aO a=aO b):=by
 have:=qx (a:=a) (b:=b)
 rw[<- this]
 by_cases q:aO a=aO b<;>simp[q]
theorem VT{x p:Str}{w v:ah}{l:List (Str×ah)}(hN:x∉l.map (·.1)):stored ((x,w)::l) p v=if x=p then(x,v)::l else(x,w)::stored l p v:=by
 unfold stored
 by_cases z:x=p
 ·subst z
  rw[if_pos rfl,if_pos (by simp)]
  simp only[bh,if_true,vn,true_and]
  rw[fY (g:=id),List.map_id]
  intro q hq
  exact if_neg fun e=>hN (dD.mpr ⟨q,hq,e⟩)
 ·rw[if_neg z]
  simp only[rB,z,decide_false,Bool.false_or,bh,if_false]
  split<;>rfl
theorem ZO(k:ac)(v:AV)(x:ac)(ks:List (List Nat))(w:AV)(vs:aa):qK k v (x::ks) (w::vs)=bif dm x k then(x::ks,v::vs)else(x::(qK k v ks vs).1,w::(qK k v ks vs).2):=rfl
theorem ZN{kk:ac}{a:AV}{v:ah}(hv:V C W a v): ∀{ks:List (List Nat)} {fs:aa} {vs:List ah},VL C W fs vs->ks.length=vs.length->(((ks.map aO).zip vs).map (·.1)).Nodup->
  ∃vs',VL C W (qK kk a ks fs).2 vs'/\(qK kk a ks fs).1.length=vs'.length/\stored ((ks.map aO).zip vs) (aO kk) v=((qK kk a ks fs).1.map aO).zip vs':=by
 intro ks
 induction ks with
 |nil=>
  intro fs vs hf hl hN
  cases vs with
  |nil=>exact⟨[v],⟨v,[],rfl,hv,rfl⟩,rfl,rfl⟩
  |cons=>cases hl
 |cons x ks ih=>
  intro fs vs hf hl
  cases fs with
  |nil=>rw[show vs=[] from hf]at hl;cases hl
  |cons b fs=>
   revert hl
   refine hf.consE fun w r h1 h2 hl hN=> ?_
   rw[bh,bP,bh,dS]at hN
   have hl:=jW hl
   rw[bh,bP,VT hN.1,ZO,Xw]
   by_cases z:aO x=aO kk
   ·rw[if_pos z,decide_eq_true z]
    exact⟨v::r,⟨v,r,rfl,hv,h2⟩,congrArg _ hl,rfl⟩
   ·rw[if_neg z,decide_eq_false z]
    refine ue (ih h2 hl hN.2) fun vs' i1 i2 i3=> ?_
    exact⟨w::vs',⟨w,vs',rfl,h1,i1⟩,congrArg _ i2,congrArg ((aO x,w):: ·) i3⟩
theorem QA(T:St X W fr σ s){a o i:AV}(e:K7 a o i σ=some ai){v ov iv:ah}(hv:V X.C W a v)(ho:V X.C W o ov)(hi:V X.C W i iv):
  wpAny (dH X.C) A (setItem ov iv v) (fun _ s'=>St X W fr ai s') dw s:=by
 revert ho
 refine iA e fun x e ho=>oE e fun c hg e=> ?_
 revert hi
 cases c<;>first|exact fun _=>nn e|skip
 ·refine ml (show(nR i fun n=>bif dC n&&bz n (mZ _)then some (σ.set x (.lst (NU _ n a)))else none)=some ai from e) fun n e hi=>kS e fun z e=> ?_
  apply s1 e
  obtain⟨z1,z2⟩:=bj.mp z
  have z1:=jQ z1
  have z2:=dh.mp z2
  refine hi.intE fun t=>T.rel.lstE hg ho fun p vs n' q q0 q2 r=> ?_
  rw[q0]at q2 ⊢
  refine VJ (k:=am n) q2 (dq n) (Bm (N1.mpr z1) (by decide)) (by rw[r.length];exact ib.mpr z2) fun h' aq3 h1 h2=> ?_
  exact T.set (c:=.lst _) hg q h2 ⟨q0,_,_,h1,by rw[aaS];exact r.set hv⟩ _
 ·rename_i ks fs
  refine fU (show(eo i fun k=>bif dC ks.length then some (σ.set x (.dct (qK k a ks fs).1 (qK k a ks fs).2))else none)=some ai from e) fun kk e hi=>kS e fun z e=> ?_
  apply s1 e
  refine hi.strE fun t=>T.rel.dctE hg ho fun p oo vs q q0 q1 q2 r q4=> ?_
  rw[q0]at q1 q2 ⊢
  obtain⟨q3,es,ep,w1,w2,w3,w4,w5⟩:=q4
  refine ue (ZN (kk:=kk) hv r q3 w5) fun vs' i1 i2 i3=> ?_
  refine wpAny_setItem_pairs (knd:=rF X.C.prog X.C.w) (k:=aO kk) (kvs:=(ks.map aO).zip vs) (tK X.C.prog X.C.w (aO kk) t) ⟨oo,es,ep,q2,w1,w2,w3,w4,w5⟩ (fun h' h1 h2=> ?_) ?_
  ·refine Xo (h1) fun oo' es' ep' g w=> ?_
   rw[i3]at w
   exact T.set (c:=.dct _ _) hg q h2 ⟨q0,q1,oo',vs',g,i1,i2,es',ep',w⟩ _
  ·have:=iZ z
   simp;omega
theorem aeU{o i m:EM}{oe ie e:an}{p ap:Pos}(hm:b6 X k m e)(ho:b6 X k o oe)(hi:b6 X k i ie):lJ X k (Qx o i m) (.Assign [.Subscript oe ie ap] e p):=fun A R W fr σ s T r q=>by
 refine fS q fun a ay q1 q=>fS q fun x aM q2 q=>fS q fun y cM q3 q=>oE q fun u5 q4 q=> ?_
 apply s1 q
 refine wpAny_Assign_Subscript (hm.go R T q1 fun v bq bm bC bw pJ=>ho.go R bw q2 fun ov dW cA dQ cP Mz=>hi.go R cP q3 fun iv jK xF gY jb Y1=> ?_) aa8
 exact eC (QA jb q4 ((pJ.mono dQ).mono gY) (Mz.mono gY) Y1) fun _ oA oh=>⟨rfl,xF,bC.trans (dQ.trans gY),oh⟩
end
end
end
section
open PySem.SeqAt
noncomputable section
section
variable{X:FX}{k:Nat}{W W' W'':Wd}{fr fr':Fm}{σ ai fX:AS}{s s':az}{A:b5}{h h':bM}{C:PC}
structure Gh(W:Wd)(σ:AS)(W':Wd)(ai:AS):Prop where
 le:W.le W'
 ρ:W'.ρ=W.ρ
 im: ∀b o,W.im b=none->W'.im b=some o-> ∃a c p,σ.get a=some c/\W.ρ a=some p/\p.2=b
 sub: ∀a c,ai.get a=some c->σ.get a=some c
theorem Gh.refl(W:Wd)(σ:AS):Gh W σ W σ:=⟨.refl _,rfl,fun _ _ e e'=>(by rw[e]at e';cases e'),fun _ _ e=>e⟩
theorem Gh.trans(g:Gh W σ W' ai)(g':Gh W' ai W'' fX):Gh W σ W'' fX:=by
 refine⟨g.le.trans g'.le,g'.ρ.trans g.ρ,fun b o e e'=> ?_,fun a c e=>g.sub _ _ (g'.sub _ _ e)⟩
 cases q:W'.im b with
 |some o'=>exact g.im b o' e q
 |none=>
  refine Xp (g'.im b o q e') fun a c p h1 h2 h3=> ?_
  exact⟨a,c,p,g.sub _ _ h1,by rw[<- g.ρ];exact h2,h3⟩
theorem pQ.ghost(F:pQ X W fr σ h)(g:Gh W σ W' ai):pQ X W' fr ai h:=
 F.turn g.le (fun b o e e' hb=>let⟨a,c,p,h1,h2,h3⟩:=g.im b o e e';F.apart b hb a c p h1 h2 h3) (fun c hc a cc p e e'=>F.apart c hc a cc p (g.sub _ _ e) (by rw[<- g.ρ];exact e')) fun _ _ _ e=>e
theorem cC.ghost1(R:cC C W σ h){a:Nat}{c:bJ}{p:aC×aC}{o:Obj}(hg:σ.get a=some c)(hp:W.ρ a=some p)(ho:h.get? p.2=some o):Gh W σ (W.addIm p.2 o) (σ.drop a)/\cC C (W.addIm p.2 o) (σ.drop a) h:=by
 refine⟨⟨Wd.le_addIm fun o' e=>by have:=R.im _ _ e;rw[ho]at this;exact(aH this).symm,rfl,fun b o' e e'=> ?_,fun b cb e=> ?_⟩,R.freeze hg hp ho⟩
 ·have e':(if b=p.2 then some o else W.im b)=some o':=e'
  by_cases q:b=p.2
  ·exact⟨a,c,p,hg,hp,q.symm⟩
  ·rw[if_neg q,e]at e';cases e'
 ·rw[AS.get_drop]at e
  split at e
  ·cases e
  ·exact e
def Frz(C:PC)(h:bM)(f:AV->AS->AV×AS):Prop:= ∀W σ a v,cC C W σ h->V C W a v-> ∃W',Gh W σ W' (f a σ).2/\cC C W' (f a σ).2 h/\V C W' (f a σ).1 v
theorem CE{f:AV->AS->AV×AS}(hf:Frz C h f): ∀(l:aa) (W:Wd) (σ:AS) (vs:List ah),cC C W σ h->VL C W l vs->
  ∃W',Gh W σ W' (pT f l σ).2/\cC C W' (pT f l σ).2 h/\VL C W' (pT f l σ).1 vs:=by
 intro l
 induction l with
 |nil=>exact fun W σ vs R q=>⟨W,.refl _ _,R,q⟩
 |cons a l ih=>
  intro W σ vs R q
  refine q.consE fun v r q1 q2=> ?_
  refine ue (hf W σ a v R q1) fun bm g1 R1 z1=> ?_
  refine ue (ih bm (f a σ).2 r R1 (q2.mono g1.le)) fun cA g2 R2 z2=> ?_
  exact⟨cA,g1.trans g2,R2,v,r,rfl,z1.mono g2.le,z2⟩
theorem Mc{sel:Nat->Bool}{f:AV->AS->AV×AS}(hf:Frz C h f): ∀(ks:ac) (l:aa) (W:Wd) (σ:AS) (vs:List ah),cC C W σ h->VL C W l vs->
  ∃W',Gh W σ W' (Tq sel f ks l σ).2/\cC C W' (Tq sel f ks l σ).2 h/\VL C W' (Tq sel f ks l σ).1 vs:=by
 intro ks
 induction ks with
 |nil=>intro l W σ vs R q;cases l<;>exact⟨W,.refl _ _,R,q⟩
 |cons kk ks ih=>
  intro l W σ vs R q
  cases l with
  |nil=>exact⟨W,.refl _ _,R,q⟩
  |cons a l=>
   refine q.consE fun v r q1 q2=> ?_
   have h1: ∃W',Gh W σ W' (bif sel kk then f a σ else(a,σ)).2/\cC C W' (bif sel kk then f a σ else(a,σ)).2 h/\V C W' (bif sel kk then f a σ else(a,σ)).1 v:=by
    cases sel kk
    ·exact⟨W,.refl _ _,R,q1⟩
    ·exact hf W σ a v R q1
   refine ue (h1) fun bm g1 R1 z1=> ?_
   refine ue (ih l bm _ r R1 (q2.mono g1.le)) fun cA g2 R2 z2=> ?_
   exact⟨cA,g1.trans g2,R2,v,r,rfl,z1.mono g2.le,z2⟩
theorem XD{sel:Nat->Bool}{f:AV->AS->AV×AS}(hf:Frz C h f){x:Nat}{c:bJ}(R:cC C W σ h)(hg:σ.get x=some c){v:ah}(q:V C W (.ref x) v): ∃W',Gh W σ W' (SY f sel x σ c).2/\cC C W' (SY f sel x σ c).2 h/\V C W' (SY f sel x σ c).1 v:=by
 cases c with
 |lst l=>
  refine R.lstE hg q fun p vs m hp q0 q2 r=> ?_
  rw[q0]at q2 ⊢
  obtain⟨g,R1⟩:=R.ghost1 hg hp q2
  refine ue (CE hf l _ _ vs R1 (r.mono g.le)) fun cA g2 R2 z2=> ?_
  exact⟨cA,g.trans g2,R2,p.2,m,vs,rfl,g2.le.2.1 _ _ kP,z2⟩
 |inst c ks fs=>
  refine R.instE hg q fun p es m vs hp q0 q1 q2 r q3=> ?_
  obtain⟨g,R1⟩:=R.ghost1 hg hp q2
  refine ue (Mc (sel:=sel) hf ks fs _ _ vs R1 (r.mono g.le)) fun cA g2 R2 z2=> ?_
  exact⟨cA,g.trans g2,R2,p.1,p.2,es,m,vs,rfl,q0,g2.le.2.1 _ _ (g.le.2.1 _ _ q1),g2.le.2.1 _ _ kP,z2,q3⟩
 |dct ks fs=>
  refine R.dctE hg q fun p oo vs hp q0 q1 q2 r q3=> ?_
  rw[q0]at q1 q2 ⊢
  obtain⟨g,R1⟩:=R.ghost1 hg hp q2
  refine ue (CE hf fs _ _ vs R1 (r.mono g.le)) fun cA g2 R2 z2=> ?_
  exact⟨cA,g.trans g2,R2,p.2,oo,vs,rfl,q1,g2.le.2.1 _ _ kP,z2,q3⟩
 |orc=>exact⟨W,.refl _ _,R,trivial⟩
theorem CD{sel:Nat->Bool}(n:Nat):Frz C h (uj sel n):=by
 induction n with
 |zero=>exact fun W σ a v R q=>⟨W,.refl _ _,R,q⟩
 |succ n ih=>
  intro W σ a v R q
  by_cases ha: ∃x,a= .ref x
  ·obtain⟨x,rfl⟩:=ha
   have hd:uj sel (n+1) (.ref x) σ=bo (motive:=fun _=>AV×AS) (.opq,σ) (fun c=>SY (uj sel n) sel x σ c) (σ.get x):=rfl
   rw[hd]
   cases hg:σ.get x with
   |none=>exact⟨W,.refl _ _,R,trivial⟩
   |some c=>exact XD (sel:=sel) ih R hg q
  ·have:uj sel (n+1) a σ=(a,σ):=by
    cases a<;>first|rfl|exact absurd ⟨_,rfl⟩ ha
   rw[this]
   exact⟨W,.refl _ _,R,q⟩
theorem CC(n:Nat):Frz C h (jJ n):=CD n
theorem St.ghost(T:St X W fr σ s)(g:Gh W σ W' ai)(R:cC X.C W' ai s.heap):St X W' fr ai s:=⟨R,T.fr.ghost g,T.sm⟩
theorem aem: ∀(fr:Fm) (i:Nat) (a b:AV) (j:Nat) (c:AV),fr[i]? =some a->(put fr i b)[j]? =some c->(j=i/\c=b)\/(j≠i/\fr[j]? =some c):=fun fr i a b j c e e'=>by
 rcases x5 fr i b j c e' with h|⟨h1,h2|h2⟩
 ·exact .inl h
 ·exact .inr ⟨h1,h2⟩
 ·subst h2
  refine .inr ⟨h1,?_⟩
  revert i j e e' h1
  induction fr with
  |nil=>intro i j e;cases e
  |cons x r ih=>
   intro i j e h1 e'
   cases i with
   |zero=>cases j with
    |zero=>exact absurd rfl h1
    |succ j=>exact e'
   |succ i=>cases j with
    |zero=>exact e'
    |succ j=>exact ih i j e (fun q=>h1 (congrArg _ q)) (by exact e')
theorem aht{i:Nat}{y:Str}(hx:X.names i=some y): ∀W fr σ s,St X W fr σ s-> ∀r,Qy i fr σ=some r-> ∃W' fr' ai,r= .next fr' ai/\W.le W'/\St X W' fr' ai s:=fun W fr σ s T r e=>by
 have e:some (j9.next (put fr i (jJ 14 (gt fr i) σ).1) (jJ 14 (gt fr i) σ).2)=some r:=e
 apply s1 e
 by_cases hu:gt fr i= .unb
 ·rw[hu]
  refine⟨W,_,_,rfl,.refl _,T.rel,?_,T.sm⟩
  obtain⟨⟨m,a,b⟩,c,d,xM,d',Cz⟩:=T.fr
  exact⟨⟨m,a,fun j y e=>by
   rcases x5 fr i _ j y e with⟨rfl,rfl⟩|⟨hj,e|e⟩
   ·exact .inl rfl
   ·exact b j y e
   ·exact .inl e⟩,c,d,xM,d',Cz⟩
 ·have hi:=(Vc fr i).resolve_right hu
  refine eX (T.fr.vars) fun m hn hv=> ?_
  refine eX ((hv i _ hi).resolve_left hu y hx) fun v e2 e3=> ?_
  refine ue (CC 14 W σ (gt fr i) v T.rel e3) fun bm g R z=> ?_
  refine⟨bm,_,_,rfl,g.le,?_⟩
  have bw:=T.ghost g R
  refine⟨bw.rel,⟨⟨m,hn,fun j b e=> ?_⟩,bw.fr.cells,bw.fr.apart,bw.fr.sep,bw.fr.own,bw.fr.live⟩,bw.sm⟩
  rcases aem fr i _ _ j b hi e with⟨rfl,rfl⟩|⟨hj,e⟩
  ·refine .inr fun z' p=> ?_
   rw[hx]at p;cases p
   exact⟨v,e2,z⟩
  ·exact(hv j b e).imp id fun f y p=>let⟨v,q,r⟩:=f y p;⟨v,q,r.mono g.le⟩
theorem mD{kF n:Nat}{f:ah}{F:aW}(hF:aF C kF f F):aF C kF f (FT n F):=fun A R W σ s args vs Re hv tk a ai e=>by
 refine fS e fun xG ay q e=> ?_
 obtain⟨rfl,rfl⟩:a=(jJ n xG ay).1/\ai=(jJ n xG ay).2:=by rw[aH e];exact⟨rfl,rfl⟩
 refine eC (hF A R W σ s args vs Re hv tk _ _ q) fun v s' ⟨h1,bm,bC,afw,pJ⟩=> ?_
 refine ue (CC n bm ay xG v afw pJ) fun cA g OK Mz=> ?_
 exact⟨h1,cA,bC.trans g.le,OK,Mz⟩
theorem Mj{kF n:Nat}{f:ah}{F:aW}(hF:aF C kF f F):aF C kF f (Z0 n F):=fun A R W σ s args vs Re hv tk a ai e=>by
 refine ue (CE (CC n) args W σ vs Re hv) fun cA g OK Mz=> ?_
 exact eC (hF A R cA _ s _ vs OK Mz tk a ai e) fun v s' ⟨h1,bm,bC,afw,pJ⟩=>⟨h1,bm,g.le.trans bC,afw,pJ⟩
end
end
end
section
open PySem.SeqAt
noncomputable section
section
variable{prog:fZ}{w:d4}{A:b5}{R:tM->az->Prop}{s:az}
def NB(e:an)(d:Nat)(elt target iter:an)(ifs:List an):Prop:= ∀it acc env,compTurn e d it acc env=(do
   standAt iter.pos
   match <- pyNext it with
   |none=>pure (.done .next)
   |some v=>
    letOwnedTupleGo target it v
    assign target env v
    let mut ok:=true
    for c in ifs do
     if ok then ok <- isTrue c env (eval c env)
    if ok then
     (do let _ <- call (.builtin "list.append") [acc,<- eval elt env])
    again (.compLoop e d it acc env))
theorem afi{elt target iter:an}{ifs:List an}{scope:dZ}{pos:Pos}:NB (.ListComp elt [⟨target,iter,ifs,0⟩] scope pos) 0 elt target iter ifs:=fun _ _ _=>rfl
theorem afj{elt target iter:an}{g:dR}{ifs:List an}{scope:dZ}{pos:Pos}:NB (.ListComp elt [g,⟨target,iter,ifs,0⟩] scope pos) 1 elt target iter ifs:=fun _ _ _=>rfl
theorem Bf{gs:List dR}{scope:dZ}{pos:Pos}{d:Nat}{elt target iter:an}{ifs:List an}{it acc:ah}{env:Env}(hT:NB (.ListComp elt gs scope pos) d elt target iter ifs)(I:Nat->az->Prop)
  (turn: ∀n s,I n s->wpAny (model prog w) A (pyNext it) (fun r bq=>match r with
   |none=>R (.ok .next) bq
   |some v=>wpAny (model prog w) A (letOwnedTupleGo target it v) (fun _ QK=>wpAny (model prog w) A (assign target env v) (fun _ dW=>
     wpAny (model prog w) A (forIn ifs true fun c r=>if r=true then do let ok <- isTrue c env (eval c env);pure (gJ ok)else pure (gJ r)) (fun ok jK=>
      if ok=true then wpAny (model prog w) A (eval elt env) (fun x oA=>
       wpAny (model prog w) A (call (.builtin "list.append") [acc,x]) (fun _ sF=> ∃m,m<n/\I m sF) dw oA) dw jK
      else ∃m,m<n/\I m jK) dw dW) dw QK) dw bq) dw s)
  (n:Nat)(h:I n s):codeAny (model prog w) A (.compLoop (.ListComp elt gs scope pos) d it acc env) R s:=by
 refine Od rfl I (fun n s hI=> ?_) n h
 show wpAny _ A ((compTurn (.ListComp elt gs scope pos) d it acc env).onRaise (fun x=>do noteFrame x env;theTreesLotGoes x)) _ _ s
 refine wpAny_noted ?_
 rw[hT it acc env]
 refine KV (aq (dB (aq (eC (turn n s hI) fun r bq sw=> ?_))))
 cases r with
 |none=>exact aL sw
 |some v=>
  refine aq (eC sw fun _ QK Z8=> ?_)
  refine aq (eC Z8 fun _ dW ahT=>aq (eC ahT fun ok jK acd=> ?_))
  cases ok with
  |false=>exact aL ⟨rfl,acd⟩
  |true=>
   exact aq (aq (eC acd fun x oA ahU=>aq (eC ahU fun _ sF XG=>aL (aL ⟨rfl,XG⟩))))
end
section
variable{X:FX}{k:Nat}{W W':Wd}{fr fr':Fm}{σ ai:AS}{s s':az}{A:b5}{h h':bM}{C:PC}
theorem St.forget(T:St X W fr σ s)(hf: ∀(j:Nat) b,fr'[j]? =some b->b= .unb\/fr[j]? =some b):St X W fr' σ s:=by
 obtain⟨R,⟨⟨m,a,b⟩,c,d,xM,d',Cz⟩,S⟩:=T
 exact⟨R,⟨⟨m,a,fun i x e=>(hf i x e).elim .inl (b i x)⟩,c,d,xM,d',Cz⟩,S⟩
def DK:List Nat->Fm->Fm
 |[],fr=>fr
 |x::xs,fr=>DK xs (put fr x .unb)
theorem C5: ∀(fr:Fm) (i:Nat) (a b:AV),put (put fr i a) i b=put fr i b:=by
 have nl: ∀(i:Nat) (a b:AV),put (put [] i a) i b=put [] i b:=fun i a b=>by
  induction i with
  |zero=>rfl
  |succ i ih=>exact congrArg (AV.unb:: ·) ih
 intro fr
 induction fr with
 |nil=>exact nl
 |cons x r ih=>intro i a b;cases i with
  |zero=>rfl
  |succ i=>exact congrArg (x:: ·) (ih i a b)
theorem NS: ∀(fr:Fm) (i:Nat) (a:AV) (j:Nat) (b:AV),j≠i->fr[j]? =some b->(put fr i a)[j]? =some b:=by
 intro fr
 induction fr with
 |nil=>intro i a j b _ e;cases e
 |cons x r ih=>intro i a j b h e;cases i with
  |zero=>cases j with
   |zero=>exact absurd rfl h
   |succ j=>exact e
  |succ i=>cases j with
   |zero=>exact e
   |succ j=>exact ih i a j b (fun q=>h (congrArg _ q)) e
theorem Qq{fr gT:Fm}{i:Nat}(h: ∀(j:Nat) b,j≠i->fr[j]? =some b->b= .unb\/gT[j]? =some b): ∀(j:Nat) b,(put fr i .unb)[j]? =some b->b= .unb\/gT[j]? =some b:=fun j b e=>by
 rcases x5 _ _ _ _ _ e with⟨_,h⟩|⟨h1,h2|h2⟩
 ·exact .inl h
 ·exact h j b h1 h2
 ·exact .inl h2
inductive Tg(X:FX):List Nat->an->Prop where
 |name {i x p} (h:km X i x):Tg X [i] (.Name x p)
 |two {i j is ts c p} (h:is=[i,j]) (N:qg X is ts) (ij:i≠j):Tg X is (.Tuple ts c p)
theorem Tg.snd(O:ve X)(O':G4 X){is:ac}{t:an}(g:Tg X is t):Sy X is t:=by
 cases g with
 |name h=>exact HH O O' h
 |two h N ij=>subst h;exact Ld O O' N
theorem Tg.binds{is:ac}{t:an}(g:Tg X is t){a:AV}:mm is a (DK is fr) σ=mm is a fr σ:=by
 cases g with
 |name h=>simp only[mm,DK,C5]
 |two h N ij=>
  rename_i i j ts c p
  subst h
  cases a<;>try rfl
  rename_i l
  show vL [i,j] l (put (put fr i .unb) j .unb)=vL [i,j] l fr
  match l with
  |[]=>rfl
  |[a]=>rfl
  |[a,b]=>
   show some (put (put (put (put fr i .unb) j .unb) i a) j b)=some (put (put fr i a) j b)
   rw[qr (put fr i .unb) .unb a (tu ij),C5,C5]
  |_::_::_::_=>rfl
theorem Tg.forget{is:ac}{t:an}(g:Tg X is t){a:AV}(e:mm is a fr σ=some fr'): ∀(j:Nat) b,(DK is fr)[j]? =some b->b= .unb\/fr'[j]? =some b:=by
 cases g with
 |name h=>
  cases e
  exact Qq fun j b h e=>.inr (NS _ _ _ _ _ h e)
 |two h N ij=>
  rename_i i j ts c p
  subst h
  revert e
  cases a<;>intro e<;>first|exact nn e|skip
  rename_i l
  match l,e with
  |[a,b],e=>
   cases e
   refine Qq fun m x hm e=> ?_
   rcases x5 _ _ _ _ _ e with⟨_,h⟩|⟨h3,h4|h4⟩
   ·exact .inl h
   ·exact .inr (NS _ _ _ _ _ hm (NS _ _ _ _ _ h3 h4))
   ·exact .inl h4
def Nz(X:FX)(k:Nat)(m:BM)(ifs:List an):Prop:=
 ∀A,eN A k-> ∀W fr σ s,St X W fr σ s-> ∀b ai,m fr σ=some (b,ai)->
  wpAny (dH X.C) A (forIn ifs true fun c r=>if r=true then do let ok <- isTrue c X.env (eval c X.env);pure (gJ ok)else pure (gJ r)) (o0 X W fr b ai) dw s
theorem Mk:Nz X k (fun _ σ=>some (true,σ)) []:=fun A R W fr σ s T b ai e=>by
 apply s2 e;exact wpAny_tests_nil (T.postB _)
theorem Ml{m:BM}{c:an}(h:nh X k m c):Nz X k m [c]:=fun A R W fr σ s T b ai e=>wpAny_tests_one (h A R W fr σ s T b ai e)
structure GN(X:FX)(W:Wd)(fr:Fm)(σ:AS)(I:aC)(l:List AV)(i:Nat)(S:Nat->bM->Prop)(fp:List aC)(P:Nat->ah->Prop)(D:aC)(acc:List AV)(s:az):Prop where
 T:St X W fr σ s
 w:il X W σ I l i s.heap S fp P
 L:ig X W σ D
 g: ∃vs n,s.heap.get? D=some (dy vs n)/\VL X.C W acc vs
def xB(X:FX)(k:Nat)(e:an)(d:Nat)(xs:ac)(body:List AV->Fm->AS->Option (List AV×AS)):Prop:=
 ∀A,eN A k-> ∀W fr σ s I l i S fp P D acc,D≠I->i<=l.length->GN X W (DK xs fr) σ I l i S fp P D acc s-> ∀out aM,body (l.drop i) fr σ=some (out,aM)->acc.length+out.length<=4000000-> ∀R,
  (∀W' s',W.le W'->St X W' (DK xs fr) aM s'->ig X W' aM D->(∃vs n,s'.heap.get? D=some (dy vs n)/\VL X.C W' (acc++out) vs)->R (.ok .next) s')->
  codeAny (dH X.C) A (.compLoop e d (.ref I) (.ref D) X.env) R s
theorem il.but{I D:aC}{l:aa}{i:Nat}{S:Nat->bM->Prop}{fp:List aC}{P:Nat->ah->Prop}(w:il X W σ I l i h S fp P)(hD:D≠I)(him:W.im D=none)(hk: ∀b o,b≠D->h.get? b=some o->h'.get? b=some o):il X W σ I l i h' S fp P:=by
 obtain⟨⟨pe,It⟩,st,L⟩:=w
 refine⟨⟨pe,It⟩,(It.walks {} rfl).frame i _ _ st fun b hb o' e'=>hk b o' ?_ e',L⟩
 rcases It.fp b hb with rfl|⟨oo,z⟩
 ·exact tu hD
 ·rintro rfl;rw[him]at z;cases z
section
variable{I D:aC}{l acc:aa}{i:Nat}{S:Nat->bM->Prop}{fp:List aC}{P:Nat->ah->Prop}
theorem GN.forget(h:GN X W fr σ I l i S fp P D acc s)(hf: ∀(j:Nat) b,fr'[j]? =some b->b= .unb\/fr[j]? =some b):GN X W fr' σ I l i S fp P D acc s:=⟨h.T.forget hf,h.w,h.L,h.g⟩
theorem GN.pin(h:GN X W fr σ I l i S fp P D acc s)(hD:D≠I): ∃FK,St X FK fr σ s/\FK.ρ=W.ρ/\FK.im=W.im/\(∀b,FK.pr b=none->W.pr b=none/\b≠I/\b≠D)/\
  ∀{bm:Wd} {fr':Fm} {ai:AS} {s':az},FK.le bm->St X bm fr' ai s'-> ∃cA,W.le cA/\cA.ρ=bm.ρ/\cA.im=bm.im/\GN X cA fr' ai I l i S fp P D acc s':=by
 obtain⟨T,w,L,vs,n,g,q⟩:=h
 refine eX (w.pin T) fun oI bw back=> ?_
 have Ss:ig X (W.pin I oI) σ D:=⟨L.im,by rw[jB hD];exact L.pr,L.cell,L.out⟩
 refine⟨_,bw.pin Ss g,rfl,rfl,fun b e=> ?_,fun{bm fr' ai s'} bC jb=> ?_⟩
 ·have h1:b≠D:=fun q=>by rw[q,Jj]at e;cases e
  rw[jB h1]at e
  have h2:b≠I:=fun q=>by rw[q,Jj]at e;cases e
  rw[jB h2]at e
  exact⟨e,h2,h1⟩
 ·refine Xm (St.unpin bC Ss jb) fun le3 T4 g4 L4=> ?_
  refine ud (back le3 T4) fun le5 T5 w5=> ?_
  exact⟨_,le5,rfl,rfl,T5,w5,⟨L4.im,L.pr,L4.cell,L4.out⟩,vs,n,g4,q.mono le5⟩
theorem GN.push(h:GN X W fr σ I l i S fp P D acc s)(hD:D≠I){a:AV}{v:ah}(hv:V X.C W a v)(hN:acc.length<4000000){Q:ah->az->Prop}(kk: ∀s',GN X W fr σ I l i S fp P D (acc++[a]) s'->Q .none s'):wpAny (dH X.C) A (call (.builtin "list.append") [.ref D,v]) Q dw s:=by
 obtain⟨T,w,L,vs,n,g,q⟩:=h
 refine vc (items:=vs.toArray) ⟨n,g⟩ (fun h' hp hs=> ?_) (by rw[aZ,q.length];exact au (i8 hN) (by decide))
 obtain⟨n',hg'⟩:=hp
 rw[EX]at hg'
 exact kk _ ⟨T.but L (fun b o hb e=>hs.extBut b o hb e) _,w.but hD L.im fun b o hb e=>hs.extBut b o hb e,L,_,n',hg',q.append (VL.one hv)⟩
def Fv(X:FX)(W:Wd)(CF:Fm)(body:List AV->AS->Option (List AV×AS))(I:aC)(l:aa)(S:Nat->bM->Prop)(fp:List aC)(P:Nat->ah->Prop)(D:aC)(tot:aa)(aM:AS)(n:Nat)(s:az):Prop:=
 ∃i W' σ acc out,n=l.length-i/\i<=l.length/\W.le W'/\GN X W' CF σ I l i S fp P D acc s/\body (l.drop i) σ=some (out,aM)/\acc++out=tot
theorem Fv.less{CF:Fm}{body:List AV->AS->Option (List AV×AS)}{tot out:aa}{aM:AS}(hi:i<l.length)(le:W.le W')(La:GN X W' CF σ I l (i+1) S fp P D acc s)(e:body (l.drop (i+1)) σ=some (out,aM))(h:acc++out=tot): ∃m,m<l.length-i/\Fv X W CF body I l S fp P D tot aM m s:=
 ⟨l.length-(i+1),YQ hi,i+1,W',σ,acc,out,rfl,hi,le,La,e,h⟩
theorem Fv.turn{CF:Fm}{body:List AV->AS->Option (List AV×AS)}{tot:aa}{aM:AS}{n:Nat}(h:Fv X W CF body I l S fp P D tot aM n s)(hA:A.handled=none)(hD:D≠I){Q:Option ah->az->Prop}
  (hnil: ∀W' σ acc out bq,W.le W'->St X W' CF σ bq->ig X W' σ D->(∃vs n,bq.heap.get? D=some (dy vs n)/\VL X.C W' acc vs)->body [] σ=some (out,aM)->acc++out=tot->Q none bq)
  (hcons: ∀i W' σ acc out a v bq,i<l.length->n=l.length-i->W.le W'->GN X W' CF σ I l (i+1) S fp P D acc bq->V X.C W' a v->body (a::l.drop (i+1)) σ=some (out,aM)->acc++out=tot->Q (some v) bq):wpAny (dH X.C) A (pyNext (.ref I)) Q dw s:=by
 obtain⟨i,W',σ,acc,out,hn,hi,le,⟨T,w,L,vs,m,g,q⟩,e,hEq⟩:=h
 cases hd:l.drop i with
 |nil=>
  rw[hd]at e
  exact w.done T hA hi hd fun bq bw hk=>hnil W' σ acc out bq le bw L ⟨vs,m,hk _ _ hD g,q⟩ e hEq
 |cons a r=>
  rw[hd]at e
  obtain⟨hi',rfl⟩:=Pr hd
  exact w.item T hA hd fun v bq bw aqU pJ hk=>hcons i W' σ acc out a v bq hi' hn le ⟨bw,aqU,L,vs,m,hk _ _ hD g,q⟩ pJ e hEq
end
theorem agd{xs:ac}{c:BM}{elt:EM}{a:AV}{r out:aa}{aM:AS}(e:eI xs c elt (a::r) fr σ=some (out,aM)){Q:Prop}(kk: ∀gT b ay,mm xs a fr σ=some gT->c gT σ=some (b,ay)->
  (bif b then bD (elt gT ay) (fun y ai=>bD (eI xs c elt r fr ai) fun o cM=>some (y::o,cM))else eI xs c elt r fr ay)=some (out,aM)->Q):Q:=
 oE (show ob (mm xs a fr σ) (fun fr'=>bD (c fr' σ) fun t ai=>bif t then bD (elt fr' ai) (fun b fX=>bD (eI xs c elt r fr fX) fun l cM=>some (b::l,cM))else eI xs c elt r fr ai)=some (out,aM) from e) fun gT h1 e=>fS e fun b ay h2 e=>kk gT b ay h1 h2 e
theorem ama{a b c d:aa}{y:AV}{n:Nat}(h:a++(y::b)=c++d)(hN:c.length+d.length<=n):a.length<n:=by
 have:=congrArg mZ h
 rw[ao,ao,bQ]at this
 omega
theorem Tm(O:ve X)(O':G4 X){gs:List dR}{scope:dZ}{pos:Pos}{d:Nat}{xs:ac}{tg iter ee:an}{c:BM}{elt:EM}{ifs:List an}(hT:NB (.ListComp ee gs scope pos) d ee tg iter ifs)(g:Tg X xs tg)(hc:Nz X k c ifs)(he:b6 X k elt ee):
  xB X k (.ListComp ee gs scope pos) d xs (eI xs c elt):=fun A Rm W fr σ s I l i S fp P D acc hD hi La out aM e hN R hR=>by
 refine Bf hT (Fv X W (DK xs fr) (fun l σ=>eI xs c elt l fr σ) I l S fp P D (acc++out) aM) (fun n s' h=>h.turn Rm.handled hD (fun W' σ acc' out' bq le T L g e hEq=> ?_) fun i W' σ acc' out' a v bq hi' hn le La z e hEq=> ?_) (l.length-i)
  ⟨i,W,σ,acc,out,rfl,hi,.refl _,La,e,rfl⟩
 ·cases e
  rw[aR]at hEq
  exact hR W' bq le T L (hEq▸g)
 ·subst hn
  refine agd e fun gT b ay e1 e2 e=>La.w.go ?_
  refine ani (La.pin hD) fun FK cP xR him _ back=> ?_
  refine eC (g.snd O O' A Rm.handled FK _ σ bq cP a v (z.pr xR him) gT (by rw[g.binds];exact e1)) fun _ dW jb=>eC (hc A Rm FK gT σ dW jb b ay e2) fun ok jK z=>z.elim fun xF gY oh=> ?_
  cases b with
  |false=>
   rw[if_neg (by decide)]
   refine uf (back gY oh) fun WS le5 _ _ Zf=> ?_
   exact Fv.less hi' (le.trans le5) (Zf.forget (g.forget (σ:=σ) (a:=a) e1)) e hEq
  |true=>
   rw[if_pos rfl]
   rw[af]at e
   refine fS e fun y u5 e5 e=>fS e fun o' apL e6 e=> ?_
   cases e
   refine he.go Rm oh e5 fun x oA am9 Qc xE anM=> ?_
   refine uf (back (gY.trans Qc) xE) fun WS le5 hV1 hV2 Zf=> ?_
   exact Zf.push hD (anM.pr hV1 hV2) (ama hEq hN) fun s' wy=>Fv.less hi' (le.trans le5) (wy.forget (g.forget (σ:=σ) (a:=a) e1)) e6 (by rw[aB];exact hEq)
end
end
end
section
open PySem.SeqAt
noncomputable section
section
variable{X:FX}{k:Nat}{W W':Wd}{fr fr':Fm}{σ ai:AS}{s s':az}{A:b5}{h h':bM}{C:PC}
noncomputable def FX.inner(X:FX)(scope:dZ)(cl:List (Str×aC))(nm:Nat->Option Str)(L:aC)(nq:az):FX:={C:=X.C,env:=compEnvC scope cl L X.env,names:=nm,own:=[L],nq:=nq}
structure Ei(X:FX)(scope:dZ)(cl:List (Str×aC))(nm:Nat->Option Str)(xs:List Nat):Prop where
 clos:closureFor scope X.env=pure cl
 kind:scope.kind= .function
 nocell: ∀y∈scope.names,y.2≠ .cell
 locals: ∀y∈scope.names,y.2= .local->scope.names.lookup y.1=some .local
 vis: ∀i x,nm i=some x->i∈xs\/(X.names i=some x/\(X.env.kindOf x=some .cell\/X.env.kindOf x=some .free)/\((relabel scope X.env).names.lookup x=some .cell\/(relabel scope X.env).names.lookup x=some .free)/\cl.lookup x=X.env.cells.lookup x)
 sub: ∀n c,cl.lookup n=some c->X.env.cells.lookup n=some c
 apart:cl.Pairwise fun x y=>x.2≠y.2
 plain: ∀i x,nm i=some x->(x==("__debug__":Str)||x==("__classdict__":Str))=false
theorem afk: ∀(xs:ac) (fr:Fm) (i:Nat) (a:AV),(DK xs fr)[i]? =some a->a= .unb\/(i∉xs/\fr[i]? =some a):=by
 intro xs
 induction xs with
 |nil=>exact fun fr i a e=>.inr ⟨bg,e⟩
 |cons x xs ih=>
  intro fr i a e
  rcases ih (put fr x .unb) i a e with h|⟨h1,h2⟩
  ·exact .inl h
  ·rcases x5 _ _ _ _ _ h2 with⟨_,h⟩|⟨h3,h4|h4⟩
   ·exact .inl h
   ·exact .inr ⟨fun q=>(aG.mp q).elim h3 h1,h4⟩
   ·exact .inl h4
theorem jc.ex{X:FX}{m:Str->Option ah}{x:Str}{v:ah}(q:jc X h m x v)(hk:X.env.kindOf x=some .cell\/X.env.kindOf x=some .free): ∃c,X.env.cells.lookup x=some c/\h.IsCell c (some v):=by
 unfold jc at q
 rcases hk with hk|hk<;>rw[hk]at q<;>exact q
theorem jc.mk{X:FX}{m:Str->Option ah}{x:Str}{v:ah}(hk:X.env.kindOf x=some .cell\/X.env.kindOf x=some .free)(q: ∃c,X.env.cells.lookup x=some c/\h.IsCell c (some v)):jc X h m x v:=by
 unfold jc
 rcases hk with hk|hk<;>rw[hk]<;>exact q
theorem adX(O:ve X){scope:dZ}{cl:List (Str×aC)}{nm:Nat->Option Str}{xs:ac}{L:aC}{nq:az}(K:Ei X scope cl nm xs)(hL: ∀n c,X.env.cells.lookup n=some c->c≠L):ve (X.inner scope cl nm L nq):=
 ⟨K.kind,O.glob,O.blt,aP.mpr rfl,K.apart,fun n c e=>hL n c (K.sub n c e),K.plain⟩
theorem St.inner(T:St X W fr σ s){scope:dZ}{cl:List (Str×aC)}{nm:Nat->Option Str}{xs:ac}{L:aC}{m:Str->Option ah}(K:Ei X scope cl nm xs)(hL:s.heap.objs.size<=L)
  (hk: ∀b o,s.heap.get? b=some o->h'.get? b=some o)(hn:h'.Ns L m)(t:Nat)(ht:s.toks<=t):St (X.inner scope cl nm L s) (W.guard X s.heap) (DK xs fr) σ {s with heap:=h',toks:=t}:=by
 have nH: ¬X.Has L:=fun hc=>absurd (T.fr.lt hc) (ci.mpr hL)
 have has: ∀c,(X.inner scope cl nm L s).Has c->c=L\/X.Has c:=fun c hc=>by
  rcases hc with e|⟨n,e⟩|e
  ·exact .inl e
  ·exact .inr (.inr (.inl ⟨n,K.sub n c e⟩))
  ·exact .inl (aP.mp e)
 have kc: ∀c w,s.heap.IsCell c w->h'.IsCell c w:=fun c w ⟨o,p,q⟩=>⟨o,hk _ _ p,q⟩
 refine⟨(T.guard).keeps hk,⟨⟨m,hn,fun i a e=> ?_⟩,fun n c e=> ?_,fun c hc=> ?_,fun c hc=> ?_,fun c hc=> ?_,fun c hc=> ?_⟩,T.sm.pos,⟨_,_,rfl,ht⟩⟩
 ·rcases afk xs fr i a e with h|⟨h1,h2⟩
  ·exact .inl h
  ·refine eX (T.fr.vars) fun aq2 aqY hv=> ?_
   refine(hv i a h2).imp id fun f x hx=> ?_
   rcases K.vis i x hx with h|⟨v1,v2,v3,v4⟩
   ·exact absurd h h1
   ·refine eX (f x v1) fun v q r=> ?_
    refine eX (q.ex v2) fun c e1 e2=> ?_
    exact⟨v,jc.mk v3 ⟨c,by rw[show(X.inner scope cl nm L s).env.cells=cl from rfl,v4];exact e1,kc _ _ e2⟩,r.pr rfl rfl⟩
 ·obtain⟨v,z⟩:=T.fr.cells n c (K.sub n c e);exact⟨v,kc _ _ z⟩
 ·rcases has c hc with rfl|hc
  ·exact T.rel.cell_new hL
  ·exact T.fr.apart c hc
 ·rcases has c hc with rfl|hc
  ·exact T.rel.im_new hL
  ·exact T.fr.sep c hc
 ·rw[aP.mp hc,ku nH];exact T.rel.pr_new hL
 ·rcases has c hc with rfl|hc
  ·obtain⟨o,_,_,z,_⟩:=hn;exact⟨o,z⟩
  ·obtain⟨o,z⟩:=T.fr.live c hc;exact⟨o,hk _ _ z⟩
def CP(X:FX)(W:Wd)(fr:Fm)(ai:AS)(a:AV)(D C:aC)(s':az):Prop:= ∃W',W.le W'/\St X W' fr ai s'/\V X.C W' a (.ref D)/\ig X W' ai C/\ ∃m,s'.heap.Ns C m
theorem Ph(T:St X W fr σ s){scope:dZ}{cl:List (Str×aC)}{nm:Nat->Option Str}{xs:ac}(K:Ei X scope cl nm xs){I:aC}{l:aa}{S:Nat->bM->Prop}{fp:List aC}{P:Nat->ah->Prop}
  (LI:ig X W σ I)(It:xk X W σ I l s.heap S fp P){e:an}{body:List AV->Fm->AS->Option (List AV×AS)}{ee tg it:an}{ifs:List an}{rest:List dR}{pos:Pos}(he:e= .ListComp ee (⟨tg,it,ifs,0⟩::rest) scope pos)
  (hloop: ∀L,(∀n c,X.env.cells.lookup n=some c->c≠L)->xB (X.inner scope cl nm L s) k e 0 xs body)(Rm:eN A k){out:List AV}{aM:AS}(eb:body l fr σ=some (out,aM))(hN:out.length<=4000000){RR:ah->aC->tM->az->Prop}
  (hRR: ∀D C s',CP X W fr (aM.alloc (.lst out)) (.ref aM.next) D C s'->RR (.ref D) C (.ok .next) s'):
  wpAny (dH X.C) A (newList []) (fun acc jK=>wpAny (dH X.C) A (newFunctionEnv scope X.env.globals cl [] X.env.qual none .none (some X.env)) (fun cenv oA=>
   codeAny (dH X.C) A (.compStart e 0 (.ref I) acc {cenv with scope:=relabel scope X.env}) (RR acc cenv.locals) oA) dw jK) dw s:=by
 subst he
 refine fO (wpAny_newFunctionEnv K.nocell (by intro y hy;simp at hy) (fun sw Ve NL=> ?_) K.kind)
 dsimp only at Ve NL ⊢
 generalize hH2:s.heap.push {cls:=.type "list",dict:=none,data:=.seq ([]:List ah).toArray}=H2 at Ve NL ⊢
 have hC:H2.objs.size=s.heap.objs.size+1:=by rw[<- hH2,pY]
 have hDC:s.heap.objs.size≠H2.objs.size:=by rw[hC];exact ct (bT _)
 have hCle:s.heap.objs.size<=H2.objs.size:=by rw[hC];exact cR _
 have old: ∀b o,s.heap.get? b=some o->sw.get? b=some o:=fun b o e=>NL.extBut b o (ct (fe (cv e) hCle)) (bH _ (hH2▸bH _ e))
 have gD:sw.get? s.heap.objs.size=some (dy [] 0):=NL.extBut _ _ hDC (bH _ (hH2▸bp _ rfl))
 have T':=T.inner (nm:=nm) (xs:=xs) K hCle old Ve (s.toks+([]:List (Str×ah)).length) (cY _ _)
 have nHas: ∀c,s.heap.objs.size<=c-> ¬X.Has c:=fun c hc hX=>absurd (T.fr.lt hX) (ci.mpr hc)
 have hasI: ∀c,(X.inner scope cl nm H2.objs.size s).Has c->c=H2.objs.size\/X.Has c:=fun c hc=>by
  rcases hc with e|⟨n,e⟩|e
  ·exact .inl e
  ·exact .inr (.inr (.inl ⟨n,K.sub n c e⟩))
  ·exact .inl (aP.mp e)
 refine SR (It.obj 0 _ It.st) fun oI nI gI _=> ?_
 have hI:I<s.heap.objs.size:=cv gI
 have LI':ig (X.inner scope cl nm H2.objs.size s) (W.guard X s.heap) σ I:=
  ⟨LI.im,by rw[ku LI.out];exact LI.pr,LI.cell,fun hc=>(hasI _ hc).elim (fun e=>absurd hI (by rw[e];exact ci.mpr hCle)) LI.out⟩
 have LD:ig (X.inner scope cl nm H2.objs.size s) (W.guard X s.heap) σ s.heap.objs.size:=
  ⟨T.rel.im_new (ax _),by rw[ku (nHas _ (ax _))];exact T.rel.pr_new (ax _),T.rel.cell_new (ax _),fun hc=>(hasI _ hc).elim hDC (nHas _ (ax _))⟩
 have hst:S 0 sw:=(It.walks {} rfl).frame 0 _ _ It.st fun b _ o e=>old b o e
 have w:il (X.inner scope cl nm H2.objs.size s) (W.guard X s.heap) σ I l 0 sw S fp P:=
  ⟨⟨sw,⟨It.walks,hst,It.fp,fun i v hi p=>let⟨a,e,r⟩:=It.val i v hi p;⟨a,e,r.pr rfl rfl⟩,It.obj⟩⟩,hst,LI'⟩
 have loop: ∀jK:az,jK={s with heap:=sw,toks:=s.toks+([]:List (Str×ah)).length}->
   codeAny (dH X.C) A (.compLoop (.ListComp ee (⟨tg,it,ifs,0⟩::rest) scope pos) 0 (.ref I) (.ref s.heap.objs.size) (compEnvC scope cl H2.objs.size X.env)) (RR (.ref s.heap.objs.size) H2.objs.size) jK:=by
  rintro jK rfl
  refine hloop H2.objs.size (fun n c e=> ?_) A Rm (W.guard X s.heap) fr σ _ I l 0 S fp P s.heap.objs.size [] (ct hI).symm (aU _) ⟨T',w,LD,[],0,gD,VL.nil⟩ out aM eb (by rw[H0,ic];exact hN) _ fun W' s' le cP BE g=> ?_
  ·exact ct (fe (T.fr.lt (.inr (.inl ⟨n,e⟩))) hCle)
  ·refine SR (g) fun vs' n' ap9 j5=> ?_
   have OK:=cP.rel
   have apT:cC X.C (W'.addId aM.next (s.heap.objs.size,s.heap.objs.size)) (aM.alloc (.lst out)) s'.heap:=
    OK.alloc (p:=(s.heap.objs.size,s.heap.objs.size)) ⟨rfl,vs',n',ap9,j5.mono (Wd.le_addId (OK.fresh _ (ax _)))⟩ BE.im BE.pr BE.cell
   obtain⟨aox,oh⟩:=T.back (le.trans (Wd.le_addId (OK.fresh _ (ax _)))) apT cP.sm.2
   refine eX (cP.fr.vars) fun aim PM _=> ?_
   refine hRR _ _ s' ⟨_,aox,oh,rb (W:={W' with pr:=W.pr}),⟨cP.fr.sep _ (.inl rfl),T.rel.pr_new hCle,fun a cc p e e' q=> ?_,nHas _ hCle⟩,aim,PM⟩
   rw[AS.get_alloc]at e
   have e':(if a=aM.next then some (s.heap.objs.size,s.heap.objs.size)else W'.ρ a)=some p:=e'
   by_cases z:a=aM.next
   ·rw[if_pos z]at e';cases e';exact hDC q
   ·rw[if_neg z]at e e';exact cP.fr.apart _ (.inl rfl) a cc p e e' q
 exact codeAny_compStart_list (loop _ rfl) (KV ((It.walks A Rm.handled).self 0 _ _ _ hst (loop _ rfl)))
def tc(it:EM)(body:List AV->Fm->AS->Option (List AV×AS)):EM:=fun fr σ=>bD (it fr σ) fun x ai=>bD (fE ai x) fun l ay=>bD (body l fr ay) fun vs aM=>bif dC vs.length then some (.ref aM.next,aM.alloc (.lst vs))else none
theorem SU{it:EM}{body:List AV->Fm->AS->Option (List AV×AS)}{a:AV}(e:tc it body fr σ=some (a,ai)){Q:AV->AS->Prop}(kk: ∀x Ls l ay vs aM,it fr σ=some (x,Ls)->fE Ls x=some (l,ay)->body l fr ay=some (vs,aM)->vs.length<=4000000->Q (.ref aM.next) (aM.alloc (.lst vs))):Q a ai:=
 fS e fun x Ls e1 e=>fS e fun l ay e2 e=>fS e fun vs aM e3 e=>kS e fun z e=>by
  apply s2 e;exact kk x Ls l ay vs aM e1 e2 e3 (jQ z)
theorem aa0{scope:dZ}{cl:List (Str×aC)}{nm:Nat->Option Str}{xs:ac}(K:Ei X scope cl nm xs){it:EM}{body:List AV->Fm->AS->Option (List AV×AS)}{ee tg ie:an}{ifs:List an}{rest:List dR}{pos:Pos}
  (hi:b6 X k it ie)(hs: ∀x,foldedSetIterable ie X.env x=pure x)
  (hloop: ∀s L,(∀n c,X.env.cells.lookup n=some c->c≠L)->xB (X.inner scope cl nm L s) k (.ListComp ee (⟨tg,ie,ifs,0⟩::rest) scope pos) 0 xs body):b6 X k (tc it body) (.ListComp ee (⟨tg,ie,ifs,0⟩::rest) scope pos):=fun A Rm W fr σ s T a ai e=>by
 apply SU e;intro x Ls l ay vs aM e1 e2 e3 e4
 show wpAny _ _ (comprehension (.ListComp ee (⟨tg,ie,ifs,0⟩::rest) scope pos) scope X.env _ (newList []) false (eval ie X.env)) _ _ _
 refine tS (use:=none) rfl hs K.clos K.kind K.locals (hi.go Rm T e1 fun v bq bm bC bw pJ=>eC (vS bw e2 pJ) fun it dW z=>z.elim fun I cA S fp P dQ cP BE It=> ?_)
 refine Ph cP K BE It rfl (hloop dW) Rm e3 e4 (RR:=fun acc C=>compPost (dH X.C) A dw none (fQ X W fr (.ref aM.next) (aM.alloc (.lst vs))) acc C) fun D C s' h=> ?_
 obtain⟨W',le,T',q,LC,m,hm⟩:=h
 exact⟨m,hm,fun h' hs=>⟨W',bC.trans (dQ.trans le),T'.but LC (fun b o hb e=>hs.extBut b o hb e) _,q⟩⟩
theorem aeT(O:ve X)(O':G4 X){scope:dZ}{cl:List (Str×aC)}{nm:Nat->Option Str}{xs:ac}(K:Ei X scope cl nm xs){it:EM}{body:List AV->Fm->AS->Option (List AV×AS)}{ee tg ie:an}{ifs:List an}{rest:List dR}{pos spos:Pos}
  (hi:b6 X k it ie)(hs: ∀x,foldedSetIterable ie X.env x=pure x)
  (hloop: ∀s L,(∀n c,X.env.cells.lookup n=some c->c≠L)->xB (X.inner scope cl nm L s) k (.ListComp ee (⟨tg,ie,ifs,0⟩::rest) scope pos) 0 xs body)
  {i:Nat}{y:Str}{py:Pos}(hx:km X i y)(hsw:swapsWith (.ListComp ee (⟨tg,ie,ifs,0⟩::rest) scope pos) (some (.Name y py)) spos.line X.env=pure true):
  lJ X k (cT [i] (tc it body)) (.Assign [.Name y py] (.ListComp ee (⟨tg,ie,ifs,0⟩::rest) scope pos) spos):=fun A Rm W fr σ s T r q=>by
 apply Jr q;intro a ai fr' e q2
 revert q2
 apply SU e;intro x Ls l ay vs aM e1 e2 e3 e4 q2
 apply s1 q2
 rw[exec_Assign_Name_used _ _ _ _ hsw]
 refine aq (dB (aq ?_))
 show wpAny _ A (do let _ <- comprehension (.ListComp ee (⟨tg,ie,ifs,0⟩::rest) scope pos) scope X.env _ (newList []) false (eval ie X.env) (some (assign (.Name y py) X.env))) _ _ s
 generalize hQ:Ca X W (.next (put fr i (.ref aM.next)) (aM.alloc (.lst vs)))=QQ
 refine aq (eC (tS (use:=some (assign (.Name y py) X.env)) (Q:=fun _ s'=>QQ .next s') rfl hs K.clos K.kind K.locals
  (hi.go Rm T e1 fun v bq bm bC bw pJ=>eC (vS bw e2 pJ) fun it dW z=>z.elim fun I cA S fp P dQ cP BE It=> ?_)) fun _ s' hq=>aL (aL hq))
 refine Ph cP K BE It rfl (hloop dW) Rm e3 e4 (RR:=fun acc C=>compPost (dH X.C) A dw (some (assign (.Name y py) X.env)) (fun _ s'=>QQ .next s') acc C) fun D C s' h=> ?_
 obtain⟨W',le,T',q,LC,m,hm⟩:=h
 refine Xo (hm) fun oC es ep gC hr=> ?_
 show wpAny _ A (assign (.Name y py) X.env (.ref D)) _ _ _
 refine lB (eC ((T'.pin LC gC).store O O' hx.1 hx.2 (q.pr rfl rfl)) fun _ oA oh=> ?_)
 refine Xm (St.unpin (.refl _) LC oh) fun aoy xE aqa apS=> ?_
 exact⟨m,⟨oC,es,ep,aqa,hr⟩,fun h' hs=>by rw[<- hQ];exact⟨rfl,_,bC.trans (dQ.trans (le.trans aoy)),xE.but apS (fun b o hb e=>hs.extBut b o hb e) _⟩⟩
end
end
end
section
open PySem.SeqAt
noncomputable section
section
variable{prog:fZ}{w:d4}{A:b5}{R:tM->az->Prop}{s:az}
theorem zf{elt target iter it acc env scope pos}{g:dR}
  (h0:codeAny (model prog w) A (.compLoop (.ListComp elt [g,⟨target,iter,[],0⟩] scope pos) 1 it acc env) R s)
  (h:wpAny (model prog w) A (pyIter it) (fun it' s'=>codeAny (model prog w) A (.compLoop (.ListComp elt [g,⟨target,iter,[],0⟩] scope pos) 1 it' acc env) R s') dw s):
  codeAny (model prog w) A (.compStart (.ListComp elt [g,⟨target,iter,[],0⟩] scope pos) 1 it acc env) R s:=by
 refine H8 ?_
 show wpAny _ _ ((compStart (.ListComp elt [g,⟨target,iter,[],0⟩] scope pos) 1 it acc env).onRaise (fun x=>do noteFrame x env;standAt theWindowsPlace)) _ _ s
 refine wpAny_notedAt (KV ?_)
 unfold compStart
 show wpAny _ _ (ask>>=_) _ _ s
 refine aq (Gy (wpAny_ite ?_))
 split
 ·first
   |exact aq (aL (aL (hZ rfl h0)))
   |exact aL (hZ rfl h0)
 ·first
   |exact aq (Ib (aq (dB (aq (jw h (fun it' s' h'=>aL (hZ rfl h')) fun _ _ x=>x)))))
   |(refine aq (Ib ?_);show wpAny _ _ (standAt iter.pos>>=_) _ _ s;exact aq (dB (aq (jw h (fun it' s' h'=>aL (hZ rfl h')) fun _ _ x=>x))))
theorem Pf(elt t1 i1 t2 i2:an)(scope:dZ)(pos:Pos)(it acc:ah)(env:Env):
  compTurn (.ListComp elt [⟨t1,i1,[],0⟩,⟨t2,i2,[],0⟩] scope pos) 0 it acc env=(do
   standAt i1.pos
   match <- pyNext it with
   |none=>pure (.done .next)
   |some v=>
    letOwnedTupleGo t1 it v
    assign t1 env v
    let x <- eval i2 env
    standAt i2.pos
    let x <- foldedSetIterable i2 env x
    let _ <- runOwn (.compStart (.ListComp elt [⟨t1,i1,[],0⟩,⟨t2,i2,[],0⟩] scope pos) 1 (<- holding [x] (pyIter x)) acc env) env
    again (.compLoop (.ListComp elt [⟨t1,i1,[],0⟩,⟨t2,i2,[],0⟩] scope pos) 0 it acc env)):=by rfl
theorem ze{elt t1 i1 t2 i2:an}{scope:dZ}{pos:Pos}{it acc:ah}{env:Env}(hs: ∀x,foldedSetIterable i2 env x=pure x)(I:Nat->az->Prop)
  (turn: ∀n s,I n s->wpAny (model prog w) A (pyNext it) (fun r bq=>match r with
   |none=>R (.ok .next) bq
   |some v=>wpAny (model prog w) A (letOwnedTupleGo t1 it v) (fun _ QK=>wpAny (model prog w) A (assign t1 env v) (fun _ dW=>
     wpAny (model prog w) A (eval i2 env) (fun x jK=>wpAny (model prog w) A (pyIter x) (fun j oA=>
      codeAny (model prog w) A (.compStart (.ListComp elt [⟨t1,i1,[],0⟩,⟨t2,i2,[],0⟩] scope pos) 1 j acc env) (fun r sF=>r= .ok .next/\ ∃m,m<n/\I m sF) oA) dw jK) dw dW) dw QK) dw bq) dw s)
  (n:Nat)(h:I n s):codeAny (model prog w) A (.compLoop (.ListComp elt [⟨t1,i1,[],0⟩,⟨t2,i2,[],0⟩] scope pos) 0 it acc env) R s:=by
 refine Od rfl I (fun n s hI=> ?_) n h
 show wpAny _ A ((compTurn (.ListComp elt [⟨t1,i1,[],0⟩,⟨t2,i2,[],0⟩] scope pos) 0 it acc env).onRaise (fun x=>do noteFrame x env;theTreesLotGoes x)) _ _ s
 refine wpAny_noted ?_
 rw[Pf]
 refine KV (aq (dB (aq (eC (turn n s hI) fun r bq sw=> ?_))))
 cases r with
 |none=>exact aL sw
 |some v=>
  refine aq (eC sw fun _ QK Z8=> ?_)
  refine aq (eC Z8 fun _ dW ahT=> ?_)
  refine aq (eC ahT fun x jK acd=> ?_)
  refine aq (dB ?_)
  refine aq (wpAny_of_eq (hs x) ?_)
  refine aq (dJ (eC acd fun j oA ahU=> ?_))
  refine aq (wpAny_runOwn (h:=none) (Oe ahU fun r sF XG=> ?_))
  obtain⟨rfl,XG⟩:=XG
  exact aL ⟨rfl,XG⟩
end
section
variable{X:FX}{k:Nat}{W W':Wd}{fr fr':Fm}{σ ai:AS}{s s':az}{A:b5}{h h':bM}{C:PC}
theorem adj{x y:Nat}{it2 elt:EM}{a:AV}{r out:aa}{aM:AS}(e:jz x it2 y elt (a::r) fr σ=some (out,aM)){Q:List AV->Prop}(kk: ∀b ay l cM bs u5 cs,it2 (put fr x a) σ=some (b,ay)->fE ay b=some (l,cM)->
  eI [y] (fun _ σ=>some (true,σ)) elt l (put fr x a) cM=some (bs,u5)->jz x it2 y elt r fr u5=some (cs,aM)->Q (bs++cs)):Q out:=
 fS (show bD (it2 (put fr x a) σ) (fun s ai=>bD (fE ai s) fun l ay=>bD (eI [y] (fun _ σ=>some (true,σ)) elt l (put fr x a) ay) fun bs fX=>bD (jz x it2 y elt r fr fX) fun cs cM=>some (bs++cs,cM))=some (out,aM) from e) fun b ay e1 e=>fS e fun l cM e2 e=>fS e fun bs u5 e3 e=>fS e fun cs apL e4 e=>by
  cases e;exact kk b ay l cM bs u5 cs e1 e2 e3 e4
theorem xk.walking{I:aC}{l:aa}{S:Nat->bM->Prop}{fp:List aC}{P:Nat->ah->Prop}(It:xk X W σ I l h S fp P)(L:ig X W σ I):il X W σ I l 0 h S fp P:=⟨⟨h,It⟩,It.st,L⟩
theorem xk.im{bm cA:Wd}{I:aC}{l:aa}{S:Nat->bM->Prop}{fp:List aC}{P:Nat->ah->Prop}(It:xk X bm σ I l h S fp P)(h1:cA.ρ=bm.ρ)(h2:cA.im=bm.im):xk X cA σ I l h S fp P:=
 ⟨It.walks,It.st,fun b hb=>by rw[h2];exact It.fp b hb,fun i v hi p=>let⟨a,e,r⟩:=It.val i v hi p;⟨a,e,r.pr h1 h2⟩,It.obj⟩
theorem al9{a b c d e:aa}{n:Nat}(h:a++(b++e)=c++d)(hN:c.length+d.length<=n):a.length+b.length<=n:=by
 have:=congrArg mZ h
 rw[ao,ao,ao]at this
 omega
theorem aec(O:ve X)(O':G4 X){x y:Nat}{nx ny:Str}{px py:Pos}{it2 elt:EM}{ee i1 i2:an}{scope:dZ}{pos:Pos}(hx:km X x nx)(hy:km X y ny)(hxy:x≠y)(hi:b6 X k it2 i2)(hs: ∀v,foldedSetIterable i2 X.env v=pure v)(he:b6 X k elt ee):
  xB X k (.ListComp ee [⟨.Name nx px,i1,[],0⟩,⟨.Name ny py,i2,[],0⟩] scope pos) 0 [x,y] (fun l fr σ=>jz x it2 y elt l (put fr y .unb) σ):=fun A Rm W fr σ s I l i S fp P D acc hD hi0 La out aM e hN R hR=>by
 have hfr:DK [x,y] fr=put (put fr y .unb) x .unb:=qr _ _ _ hxy
 rw[hfr]at La hR
 have hin:=Tm O O' (k:=k) (afj (g:=⟨.Name nx px,i1,[],0⟩) (scope:=scope) (pos:=pos)) (Tg.name (p:=py) hy) Mk he (iter:=i2)
 refine ze hs (Fv X W (put (put fr y .unb) x .unb) (fun l σ=>jz x it2 y elt l (put fr y .unb) σ) I l S fp P D (acc++out) aM) (fun n s' h=>h.turn Rm.handled hD (fun W' σ acc' out' bq le T L g e hEq=> ?_) fun i W' σ acc' out' a v bq hi' hn le La z e hEq=> ?_) (l.length-i)
  ⟨i,W,σ,acc,out,rfl,hi0,.refl _,La,e,rfl⟩
 ·cases e
  rw[aR]at hEq
  exact hR W' bq le T L (hEq▸g)
 ·subst hn
  revert hEq
  apply adj e;intro b ay l2 cM bs u5 cs e1 e2 e3 e4 hEq
  refine La.w.go ?_
  refine ani (La.pin hD) fun FK cP xR him hpr back=> ?_
  have hfr2:DK [y] (put (put fr y .unb) x a)=put (put fr y .unb) x a:=by show put (put (put fr y .unb) x a) y .unb=_;rw[qr _ _ _ hxy,C5]
  refine eC (HH O O' hx A Rm.handled FK _ σ bq cP a v (z.pr xR him) (put (put fr y .unb) x a) (congrArg some (C5 _ _ _ _))) fun _ dW jb=> ?_
  refine hi.go Rm jb e1 fun xv jK xF gY oh aqX=>eC (vS oh e2 aqX) fun jv oA z=>z.elim fun J WS S2 fp2 P2 XW xE LJ It2=> ?_
  have l05:=gY.trans XW
  refine ud (hpr J (by rw[<- l05.2.2];exact LJ.pr)) fun hJp hJI hJD=> ?_
  refine uf (back l05 xE) fun ID le6 hV1 hV2 wy=> ?_
  have LJ6:ig X ID cM J:=⟨by rw[hV2];exact LJ.im,by rw[le6.2.2];exact hJp,fun a cc p e e'=>LJ.cell a cc p e (by rw[<- hV1];exact e'),LJ.out⟩
  refine eX (wy.w.pin wy.T) fun oI apV back7=> ?_
  have anO:GN X (ID.pin I oI) (put (put fr y .unb) x a) cM J l2 0 S2 fp2 P2 D acc' oA:=by
   refine SR (wy.g) fun vs m g q=> ?_
   exact⟨apV,(show xk X (ID.pin I oI) cM J l2 oA.heap S2 fp2 P2 from It2.im hV1 hV2).walking ⟨LJ6.im,by rw[jB hJI];exact LJ6.pr,LJ6.cell,LJ6.out⟩,⟨wy.L.im,by rw[jB hD];exact wy.L.pr,wy.L.cell,wy.L.out⟩,vs,m,g,q.pr rfl rfl⟩
  have inner:codeAny (dH X.C) A (.compLoop (.ListComp ee [⟨.Name nx px,i1,[],0⟩,⟨.Name ny py,i2,[],0⟩] scope pos) 1 (.ref J) (.ref D) X.env) (fun r sF=>r= .ok .next/\ ∃m,m<l.length-i/\Fv X W (put (put fr y .unb) x .unb) (fun l σ=>jz x it2 y elt l (put fr y .unb) σ) I l S fp P D (acc++out) aM m sF) oA:=by
   refine hin A Rm (ID.pin I oI) (put (put fr y .unb) x a) cM oA J l2 0 S2 fp2 P2 D acc' (tu hJD) (aU _) (by rw[hfr2];exact anO) bs u5 e3 (al9 hEq hN) _ fun apX sF aqg am8 aft g=>⟨rfl,?_⟩
   rw[hfr2]at am8
   refine SR (g) fun vs m aqb aqH=> ?_
   refine ud (back7 aqg am8) fun le9 apW aqV=> ?_
   have anP:GN X {apX with pr:=ID.pr} (put (put fr y .unb) x .unb) u5 I l (i+1) S fp P D (acc'++bs) sF:=⟨apW.forget (Qq fun j b h e=>.inr (NS _ _ _ _ _ h e)),aqV,⟨aft.im,wy.L.pr,aft.cell,aft.out⟩,vs,m,aqb,aqH.pr rfl rfl⟩
   exact Fv.less hi' (le.trans (le6.trans le9)) anP e4 (by rw[aB];exact hEq)
  exact zf inner ((It2.walks A Rm.handled).self 0 _ _ _ It2.st inner)
end
end
end
section
open PySem.SeqAt
noncomputable section
section
variable{X:FX}{k:Nat}{W W':Wd}{fr fr':Fm}{σ ai:AS}{s s':az}{A:b5}{h h':bM}{C:PC}
theorem Ak: ∀{names:List (Str×cQ)} {n:Str} (m:Nat) (acc:List (Str×aC)),((n,eE)∈names\/(acc.lookup n).isSome=true)->((cellsFrom m names acc).lookup n).isSome=true:=by
 intro names
 induction names with
 |nil=>intro n m acc h;exact h.resolve_left bg
 |cons p r ih=>
  intro n m acc h
  obtain⟨x,kd⟩:=p
  unfold cellsFrom
  split
  ·refine ih _ _ ?_
   by_cases hx:n=x
   ·subst hx;exact .inr (by rw[gp];rfl)
   ·refine h.imp (fun h=>(aG.mp h).resolve_left fun e=>hx (congrArg Prod.fst e)) fun h=> ?_
    rw[cD,beq_eq_false_iff_ne.mpr hx];exact h
  ·rename_i hk
   refine ih _ _ (h.imp_left fun h=>(aG.mp h).resolve_left fun e=> ?_)
   cases e;exact hk rfl
theorem W7{kindOf:Str->Option cQ}: ∀{binds:List (Str×ah)} {m:Str->Option ah} {x:Str},x∉binds.map (·.1)->bindL kindOf binds m x=m x:=by
 intro binds
 induction binds with
 |nil=>exact fun _=>rfl
 |cons p r ih=>
  intro m x h
  obtain⟨n,v⟩:=p
  have h1:x≠n:=fun e=>h (e▸bf)
  show bindL kindOf r (if kindOf n=some .local then fun y=>if y=n then some v else m y else m) x=m x
  rw[ih fun q=>h (aQ _ q)]
  split
  ·exact if_neg h1
  ·rfl
theorem W6{kindOf:Str->Option cQ}: ∀{binds:List (Str×ah)} {m:Str->Option ah} {x:Str},x∉binds.map (·.1)->bindC kindOf binds m x=m x:=by
 intro binds
 induction binds with
 |nil=>exact fun _=>rfl
 |cons p r ih=>
  intro m x h
  obtain⟨n,v⟩:=p
  have h1:x≠n:=fun e=>h (e▸bf)
  show bindC kindOf r (if kindOf n=some .local then m else fun y=>if y=n then some v else m y) x=m x
  rw[ih fun q=>h (aQ _ q)]
  split
  ·rfl
  ·exact if_neg h1
theorem HN{ps:List Str}{ws:List ah}(hl:ws.length=ps.length):(ps.zip ws).map (·.1)=ps:=by
 rw[<- List.unzip_fst,List.unzip_zip_left (by omega)]
theorem ade{kindOf:Str->Option cQ}: ∀{ps:List Str} {ws:List ah} {m:Str->Option ah} {i:Nat} {x:Str} {v:ah},ps.Nodup->ps.length=ws.length->ps[i]? =some x->ws[i]? =some v->kindOf x=some .local->bindL kindOf (ps.zip ws) m x=some v:=by
 intro ps
 induction ps with
 |nil=>intro ws m i x v _ _ e;cases e
 |cons p ps ih=>
  intro ws m i x v hN hl e e' hk
  rw[dS]at hN
  cases ws with
  |nil=>cases e'
  |cons w ws=>
   have hl:=jW hl
   cases i with
   |zero=>
    have e:p=x:=aH e
    have e':w=v:=aH e'
    subst e e'
    show bindL kindOf (ps.zip ws) (if kindOf p=some .local then fun y=>if y=p then some w else m y else m) p=some w
    rw[W7 (by rw[HN hl.symm];exact hN.1),if_pos hk,if_pos rfl]
   |succ i=>exact ih hN.2 hl e e' hk
theorem adc{kindOf:Str->Option cQ}: ∀{ps:List Str} {ws:List ah} {m:Str->Option ah} {i:Nat} {x:Str} {v:ah},ps.Nodup->ps.length=ws.length->ps[i]? =some x->ws[i]? =some v->kindOf x=some .cell->bindC kindOf (ps.zip ws) m x=some v:=by
 intro ps
 induction ps with
 |nil=>intro ws m i x v _ _ e;cases e
 |cons p ps ih=>
  intro ws m i x v hN hl e e' hk
  rw[dS]at hN
  cases ws with
  |nil=>cases e'
  |cons w ws=>
   have hl:=jW hl
   cases i with
   |zero=>
    have e:p=x:=aH e
    have e':w=v:=aH e'
    subst e e'
    show bindC kindOf (ps.zip ws) (if kindOf p=some .local then m else fun y=>if y=p then some w else m y) p=some w
    rw[W6 (by rw[HN hl.symm];exact hN.1),if_neg (by rw[hk];decide),if_pos rfl]
   |succ i=>exact ih hN.2 hl e e' hk
structure abu(C:PC)(fd:gK)(nm:Nat->Option Str)(X:FX):Prop where
 C:X.C=C
 ok:ve X
 nm:X.names=nm
 scope:X.env.scope=fd.scope
 own: ∀n c,X.env.cells.lookup n=some c->c∈X.own
 cells: ∀n,(n,eE)∈fd.scope.names-> ∃c,X.env.cells.lookup n=some c
structure afs(C:PC)(f:aC)(fd:gK)(body:List bV)(ps:List Str)(dfl:List AV)(nm:Nat->Option Str):Prop where
 there: ∃o,C.K.lookup f=some o/\o.data= .func fd
 code:codeIn C.K fd.code fd.qualname=true
 body:fd.body= .stmts body
 clo:fd.closure=[]
 glob:fd.globals=mainGlobals
 blt:fd.builtins=builtinsNs
 kind:fd.scope.kind= .function
 coro:fd.scope.isCoroutine=false
 gen:fd.scope.isGenerator=false
 bind: ∀W σ s args vs,cC C W σ s.heap->VL C W args vs->args.length<=ps.length->ps.length<=args.length+dfl.length->
  ∃ws,VL C W (args++dfl.drop (args.length+dfl.length-ps.length)) ws/\Se s fd ⟨vs,[]⟩ (ps.zip ws)
 nodup:ps.Nodup
 kinds: ∀x∈ps,fd.scope.names.lookup x=some .local\/fd.scope.names.lookup x=some .cell
 nmAt: ∀(i:Nat) x,i<ps.length->nm i=some x->ps[i]? =some x
 plain: ∀i x,nm i=some x->(x==("__debug__":Str)||x==("__classdict__":Str))=false
def pS(C:PC)(k:Nat)(f:ah)(F:aW):Prop:=
 ∀A,eN A k-> ∀W σ s args vs,cC C W σ s.heap->VL C W args vs->1<=s.toks-> ∀a ai,F args σ=some (a,ai)->
  codeAny (dH C) A (.call f ⟨vs,[]⟩) (fun r s'=>match r with| .ok (.ret v)=>Sm s s'/\ ∃W',W.le W'/\cC C W' ai s'.heap/\V C W' a v| .ok _=>False| .error e=>dw e s') s
theorem pS.snd{f:ah}{F:aW}(h:pS C k f F):aF C k f F:=fun A Rm W σ s args vs R hv tk a ai e=>oP (h A Rm W σ s args vs R hv tk a ai e)
theorem SG{a d p:Nat}(h1:a<=p)(h2:p<=a+d):a+(d-(a+d-p))=p:=by omega
theorem ab4{f:aC}{fd:gK}{body:List bV}{ps:List Str}{dfl:aa}{nm:Nat->Option Str}(F:afs C f fd body ps dfl nm){A:b5}(Rm:eN A (k+1)){args:aa}{vs:List ah}(R:cC C W σ s.heap)(hv:VL C W args vs)(tk:1<=s.toks)(h1:args.length<=ps.length)(h2:ps.length<=args.length+dfl.length){Rz:tM->az->Prop}
  (hb: ∀X,abu C fd nm X->X.nq=s->eN (A.deeper X.env) k-> ∀bq,(∀b o,s.heap.get? b=some o->bq.heap.get? b=some o)->(∀c,X.Has c->s.heap.get? c=none)->St X W (args++dfl.drop (args.length+dfl.length-ps.length)) σ bq->
   wpAny (dH C) (A.deeper X.env) (execs body X.env) (fun fl dW=>Rz (.ok (.ret (match fl with| .ret v=>v|_=>.none))) dW) dw bq):codeAny (dH C) A (.call (.ref f) ⟨vs,[]⟩) Rz s:=by
 refine eX (F.bind W σ s args vs R hv h1 h2) fun ws hws hbind=> ?_
 refine eX (F.there) fun o ho hd=> ?_
 have hwl:ws.length=ps.length:=by rw[hws.length,ao,g9];exact SG h1 h2
 have K:=R.K
 have hcell: ∀x∈ps,fd.scope.names.lookup x=some .cell-> ∀m,((cellsFrom m fd.scope.names []).lookup x).isSome=true:=fun x hx hl m=>Ak _ _ (.inl (mem_of_lookup hl))
 refine codeAny_call_function Rm.d0 (K _ _ ho) hd F.coro F.gen F.body (codeRec_of K F.code) (hbind _ _ _ _ ?_)
 rw[F.clo]
 refine wpAny_with_toks (ax s.toks) (wpAny_newFunctionEnv_cells F.kind (fun x hx=> ?_) fun env he bq x=>fun htk=> ?_)
 ·have hx':x.1∈ps:=by rw[<- HN hwl];exact List.mem_map_of_mem hx
  exact(F.kinds x.1 hx').imp id fun h=>⟨h,hcell x.1 hx' h _⟩
 ·have hns:env.scope=fd.scope:=by rw[he];rfl
  have hcs:env.cells=cellsFrom (s.heap.objs.size+1) fd.scope.names []:=by rw[he];rfl
  have keep:=x.toInCall.keep
  have hL:s.heap.objs.size<=env.locals:=x.toInCall.fresh
  have hC: ∀n c,env.cells.lookup n=some c->s.heap.objs.size<=c:=fun n c e=>i8 (fc hL (x.above n c (mem_of_lookup e)))
  refine⟨(C.nolimit.keeps fun b o e=>R.im _ _ (R.base _ _ e)).keeps keep,codeAny_func ?_⟩
  let X:FX:=⟨C,env,nm,env.locals::env.cells.filterMap (fun p=>env.cells.lookup p.1),s⟩
  have hown: ∀n c,env.cells.lookup n=some c->c∈X.own:=fun n c e=>aQ _ (lz.mpr ⟨(n,c),mem_of_lookup e,e⟩)
  have has: ∀c,X.Has c->s.heap.objs.size<=c:=fun c hc=>by
   rcases hc with rfl|⟨n,e⟩|e
   ·exact hL
   ·exact hC n c e
   ·rcases aG.mp e with rfl|e
    ·exact hL
    ·refine eX (lz.mp e) fun p hp e=> ?_
     exact hC _ _ e
  have ok:ve X:=⟨by show env.scope.kind=_;rw[hns];exact F.kind,by show env.globals=_;rw[he];exact F.glob,by show env.builtins=_;rw[he];exact F.blt,bf,x.apart,
   fun n c e=>oN (x.above n c (mem_of_lookup e)),F.plain⟩
  have B:abu C fd nm X:=⟨rfl,ok,rfl,hns,hown,fun n hn=>by
   show ∃c,env.cells.lookup n=some c
   rw[hcs];exact fg.mp (Ak _ _ (.inl hn))⟩
  have hsm:Sm s bq:=by obtain⟨sw,akV,e⟩:=x.toInCall.same;exact⟨sw,akV,e,by rw[e]at htk;exact htk⟩
  have T:St X W (args++dfl.drop (args.length+dfl.length-ps.length)) σ bq:=by
   refine⟨R.keeps keep,⟨⟨_,x.toInCall.ns,fun i a e=>.inr fun y hy=> ?_⟩,fun n c e=>⟨_,x.cell n c e⟩,fun c hc=>R.cell_new (has c hc),fun c hc=>R.im_new (has c hc),fun c hc=>R.pr_new (has c (.inr (.inr hc))),fun c hc=> ?_⟩,tk,hsm⟩
   ·have hi:i<ps.length:=by
     have:=(cU.mp e).1
     rwa[ao,g9,SG h1 h2]at this
    refine eX (hws.get e) fun v e' q=> ?_
    have hp:=F.nmAt i y hi hy
    refine⟨v,?_,q⟩
    have hy':y∈ps:=bb hp
    have hk: ∀kd,fd.scope.names.lookup y=some kd->env.kindOf y=some kd:=fun kd h=>by show env.scope.names.lookup y=_;rw[hns];exact h
    unfold jc
    rcases F.kinds y hy' with hl|hl
    ·rw[show X.env.kindOf y=some .local from hk _ hl]
     exact ade F.nodup hwl.symm hp e' (hk _ hl)
    ·rw[show X.env.kindOf y=some .cell from hk _ hl]
     obtain⟨c,hc⟩:=fg.mp (hcell y hy' hl (s.heap.objs.size+1))
     rw[<- hcs]at hc
     refine⟨c,hc,?_⟩
     have z:=x.cell y c hc
     rw[adc F.nodup hwl.symm hp e' (hk _ hl)]at z;exact z
   ·rcases hc with rfl|⟨n,e⟩|e
    ·obtain⟨o,_,_,z,_⟩:=x.toInCall.ns;exact⟨o,z⟩
    ·obtain⟨o,z,_⟩:=x.cell n c e;exact⟨o,z⟩
    ·rcases aG.mp e with rfl|e
     ·obtain⟨o,_,_,z,_⟩:=x.toInCall.ns;exact⟨o,z⟩
     ·refine eX (lz.mp e) fun p hp e=> ?_
      obtain⟨o,z,_⟩:=x.cell _ c e;exact⟨o,z⟩
  exact KV (hb X B rfl (Rm.deeper env) bq keep (fun c hc=>by
   cases e:s.heap.get? c with
   |none=>rfl
   |some o=>exact absurd (cv e) (ci.mpr (has c hc))) T)
theorem akn{f:aC}{fd:gK}{body:List bV}{ps:List Str}{dfl:aa}{nm:Nat->Option Str}{b:SM}(F:afs C f fd body ps dfl nm)(hb: ∀X,abu C fd nm X->mQ X k b body):pS C (k+1) (.ref f) (bn ps.length dfl b):=fun A Rm W σ s args vs R hv tk a ai e=>by
 refine kS e fun hc e=> ?_
 rw[ip,ip]at hc e
 rw[WW,SQ]at e
 obtain⟨h1,h2⟩:=bj.mp hc
 refine ab4 F Rm R hv tk (av h1) (av h2) fun X B es Rm' bq _ _ T=> ?_
 have hC:=B.C
 subst hC
 refine oE e fun r q e=>eC (hb X B _ Rm' W _ σ bq T r q) fun fl dW P=> ?_
 cases r with
 |next gT ay=>
  apply s2 e
  obtain⟨rfl,bm,bC,bw⟩:=P
  exact⟨es▸bw.sm.2,bm,bC,bw.rel,rfl⟩
 |ret xG ay=>
  apply s2 e
  obtain⟨v,gT,rfl,bm,bC,bw,z⟩:=P
  exact⟨es▸bw.sm.2,bm,bC,bw.rel,z⟩
 |brk _ _=>exact nn e
 |cont _ _=>exact nn e
end
end
end
section
open PySem.SeqAt
noncomputable section
noncomputable def CA:List (Str×ah)->List (Str×ah)->List (Str×ah)
 |[],sl=>sl
 |(n,d)::r,sl=>CA r (if(sl.lookup n).isNone then sl++[(n,d)]else sl)
theorem XV{ps:List Str}{vs:List ah}: ∀{n:Str},n∈ps.take vs.length->((ps.zip vs).lookup n).isSome=true:=by
 induction ps generalizing vs with
 |nil=>intro n h;simp at h
 |cons p ps ih=>
  intro n h
  cases vs with
  |nil=>simp at h
  |cons v vs=>
   simp only[bQ,Bb,aG]at h
   rw[bP,cD]
   cases q:n==p with
   |true=>rfl
   |false=>exact ih (h.resolve_left fun e=>by rw[e]at q;simp at q)
theorem ZY: ∀(L:List (Str×ah)) (sl:List (Str×ah)),(forIn L sl fun x r=>if(qB x.fst r).isNone=true then pure (gJ (r++[(x.fst,x.snd)]))else pure (gJ r):Sem (List (Str×ah)))=pure (CA L sl):=by
 intro L
 induction L with
 |nil=>exact fun sl=>rfl
 |cons p L ih=>
  intro sl
  rw[gL]
  show(if(qB p.1 sl).isNone=true then _ else _)>>=_=pure (CA L (if(sl.lookup p.1).isNone then sl++[(p.1,p.2)]else sl))
  split
  ·rw[pure_bind];exact ih _
  ·rw[pure_bind];exact ih _
theorem Ng{fd:gK}{s:az}{vs ds:List ah}{ps:List Str}{d:Option (Array ah)}(h1:fd.params.posonlyargs=[])(h2:fd.params.kwonlyargs=[])(h3:fd.params.vararg=none)(h4:fd.params.kwarg=none)(hps:fd.params.args.map (·.arg)=ps)
  (hd: ∀(M:lc) (A:b5) (E:ah->az->Prop) (Q:Option (Array ah)->az->Prop),Q d s->wpAny M A (seqItems? fd.defaults) Q E s)(hds:(d.getD #[]).toList=ds)(hl:vs.length<=ps.length)(hl2:ps.length<=vs.length+ds.length)(hl3:ds.length<=ps.length):
  Se s fd ⟨vs,[]⟩ (ps.filterMap fun n=>((CA ((ps.drop (ps.length-ds.length)).zip ds) (ps.zip vs)).lookup n).map (n,·)):=fun M A E Q hQ=>by
 obtain⟨f1,f2,⟨po,ar,va,ko,kd,ka,ds0⟩,f4,f5,f6,f7,dflt,f9⟩:=fd
 dsimp only at h1 h2 h3 h4 hps hd
 subst h1 h2 h3 h4 hps
 refine aq (m:=seqItems? dflt) (hd M A E _ ?_)
 rw[hds]
 rw[if_neg (by simp only[cK,decide_eq_true_eq,not_and];exact fun h=>absurd h (ci.mpr (by simpa using hl)))]
 have z:ds.length-(ar.map (·.arg)).length=0:=Nat.sub_eq_zero_of_le hl3
 have miss:Rc (fun n=>(((ar.map (·.arg)).zip vs).lookup n).isNone) ((ar.map (·.arg)).take ((ar.map (·.arg)).length -ds.length))=[]:=by
  rw[List.filter_eq_nil_iff]
  intro n hn
  have:(((ar.map (·.arg)).zip vs).lookup n).isSome=true:=XV (by
   have:(ar.map (·.arg)).take ((ar.map (·.arg)).length -ds.length)=((ar.map (·.arg)).take vs.length).take ((ar.map (·.arg)).length -ds.length):=by rw[J7,H4 (by omega)]
   rw[this]at hn;exact List.mem_of_mem_take hn)
  rw[dG]
  intro q;rw[q]at this;cases this
 rw[if_neg]
 rotate_left
 ·show ¬((!(Rc (fun n=>(((ar.map (·.arg)).zip vs).lookup n).isNone) ((ar.map (·.arg)).take ((ar.map (·.arg)).length -(ds.drop (ds.length-(ar.map (·.arg)).length)).length))).isEmpty)=true)
  rw[z,l4,miss];decide
 refine aq (m:=forIn _ _ _) ?_
 rw[ZY]
 refine aL (aL ?_)
 show Q (List.filterMap (fun n=>Option.map (fun x=>(n,x)) (qB n (CA ((Bo ((ar.map (·.arg)).length -(ds.drop (ds.length-(ar.map (·.arg)).length)).length) (ar.map (·.arg))).zip (ds.drop (ds.length-(ar.map (·.arg)).length))) ((ar.map (·.arg)).zip vs)))) (ar.map (·.arg)++[])) s
 rw[z,l4,aR]
 exact hQ
theorem Mb{l m:List (Str×ah)}{x:Str}:(l++m).lookup x=(l.lookup x).or (m.lookup x):=by
 induction l with
 |nil=>simp
 |cons p l ih=>
  rw[eZ,cD,cD]
  split<;>simp_all
theorem FS{x:Str}: ∀(L sl:List (Str×ah)),(CA L sl).lookup x=(sl.lookup x).or (L.lookup x)
 |[],sl=>by simp[CA]
 |(n,d)::r,sl=>by
  unfold CA
  rw[FS r,cD]
  cases q:x==n with
  |true=>
   have:=beq_iff_eq.mp q
   subst this
   cases z:sl.lookup x with
   |none=>
    simp only[Option.isNone_none,if_true]
    rw[Mb,z]
    simp
   |some v=>simp[z]
  |false=>
   split
   ·rw[Mb]
    have:qB x [(n,d)]=none:=by rw[cD,q];rfl
    rw[this];simp
   ·rfl
theorem ur: ∀{ps:List Str} {vs:List ah} {i:Nat} {x:Str},ps.Nodup->ps[i]? =some x->(ps.zip vs).lookup x=vs[i]?
 |[],_,_,_,_,e=>by simp at e
 |_::_,[],_,_,_,_=>by simp
 |p::ps,v::vs,0,x,_,e=>by cases e;simp
 |p::ps,v::vs,i+1,x,hN,e=>by
  rw[dS]at hN
  have e:ps[i]? =some x:=by simpa using e
  have hx:x∈ps:=bb e
  have:(x==p)=false:=by
   rw[beq_eq_false_iff_ne];rintro rfl;exact hN.1 hx
  rw[bP,cD,this]
  simpa using ur (vs:=vs) hN.2 e
theorem CB{g:Str->Option ah}: ∀{ps:List Str} {ws:List ah},ps.length=ws.length->(∀(i:Nat) x w,ps[i]? =some x->ws[i]? =some w->g x=some w)->ps.filterMap (fun n=>(g n).map (n,·))=ps.zip ws
 |[],_,_,_=>by simp
 |_::_,[],h,_=>by simp at h
 |p::ps,w::ws,h,hg=>by
  have h0:=hg 0 p w rfl rfl
  have ih:=CB (g:=g) (ps:=ps) (ws:=ws) (by simpa using h) fun i x w e e'=>hg (i+1) x w (by simpa using e) (by simpa using e')
  rw[kW,h0]
  simp[ih]
theorem ix0{i p d v:Nat}(h:p<=v+d)(hv:v<=i):p-d<=i:=Nat.sub_le_of_le_add (au h (Nat.add_le_add_right hv d))
theorem ix1{i q:Nat}(h:q<=i):q+(i-q)=i:=Bc h
theorem ix2{i p d v:Nat}(h:p<=v+d)(h3:d<=p)(hv:v<=i):i-(p-d)=v+d-p+(i-v):=by
 obtain⟨a,rfl⟩:=jl h3
 obtain⟨b,rfl⟩:=jl hv
 rw[mI,lA v d,Nat.add_sub_add_left,mI]
 exact Nat.sub_add_comm (Nat.le_of_add_le_add_left (by rw[lA v d]at h;exact h))
theorem W8{fd:gK}{s:az}{vs ds:List ah}{ps:List Str}{d:Option (Array ah)}(h1:fd.params.posonlyargs=[])(h2:fd.params.kwonlyargs=[])(h3:fd.params.vararg=none)(h4:fd.params.kwarg=none)(hps:fd.params.args.map (·.arg)=ps)
  (hd: ∀(M:lc) (A:b5) (E:ah->az->Prop) (Q:Option (Array ah)->az->Prop),Q d s->wpAny M A (seqItems? fd.defaults) Q E s)(hds:(d.getD #[]).toList=ds)(hl:vs.length<=ps.length)(hl2:ps.length<=vs.length+ds.length)(hl3:ds.length<=ps.length)(hN:ps.Nodup):
  Se s fd ⟨vs,[]⟩ (ps.zip (vs++ds.drop (vs.length+ds.length-ps.length))):=by
 have:=Ng h1 h2 h3 h4 hps hd hds hl hl2 hl3
 rw[CB (ws:=vs++ds.drop (vs.length+ds.length-ps.length)) (by rw[ao,g9];omega)]at this
 ·exact this
 ·intro i x w e e'
  have hi:i<ps.length:=(cU.mp e).1
  rw[FS,ur hN e]
  by_cases hv:i<vs.length
  ·rw[List.getElem?_append_left hv]at e'
   rw[e'];rfl
  ·rw[kD (ci.mp hv),qZ]at e'
   rw[n6 (ci.mp hv),J8]
   have hN':(ps.drop (ps.length-ds.length)).Nodup:=hN.sublist (List.drop_sublist _ _)
   rw[ur (i:=i-(ps.length-ds.length)) hN' (by rw[qZ,ix1 (ix0 hl2 (ci.mp hv))];exact e),<- e',ix2 hl2 hl3 (ci.mp hv)]
theorem X2{v:ah}{s:az}(hv:v= .none): ∀(M:lc) (A:b5) (E:ah->az->Prop) (Q:Option (Array ah)->az->Prop),Q none s->wpAny M A (seqItems? v) Q E s:=fun _ _ _ _ h=>by
 subst hv;exact aq (aL (aL h))
end
end
section
open PySem.SeqAt
noncomputable section
structure SI where
 names:List (Str×cQ)
 nm:List (Nat×Str)
 own:Bool
noncomputable def SI.kind(st:SI)(x:Str):Option cQ:=st.names.lookup x
def TE(a b:Str):Bool:=dm a.cps.toList b.cps.toList
theorem TF{a b:Str}(h:TE a b=true):a=b:=by
 have h:dm a.cps.toList b.cps.toList=true:=h
 rw[kO]at h
 have h:=Gq.mp (ag h)
 cases a;cases b;cases h;rfl
theorem aaR{a:Str}:TE a a=true:=by
 show dm a.cps.toList a.cps.toList=true
 rw[kO];exact decide_eq_true rfl
def oS(o:Option Str)(y:Str):Bool:=bo (motive:=fun _=>Bool) false (fun x=>TE x y) o
theorem Hx{o:Option Str}{y:Str}(h:oS o y=true):o=some y:=by
 cases o with
 |none=>cases h
 |some x=>exact congrArg some (TF h)
def PX(l:List (Str×cQ))(x:Str):Option cQ:=bu (motive:=fun _=>Option cQ) none (fun p _ ih=>Bool.rec (motive:=fun _=>Option cQ) ih (some p.2) (TE x p.1)) l
theorem KP(l:List (Str×cQ))(x:Str):PX l x=l.lookup x:=by
 induction l with
 |nil=>rfl
 |cons p l ih=>
  obtain⟨y,v⟩:=p
  show Bool.rec (motive:=fun _=>Option cQ) (PX l x) (some v) (TE x y)=_
  rw[cD,<- ih]
  cases h:TE x y with
  |true=>rw[TF h,beq_self_eq_true]
  |false=>rw[beq_eq_false_iff_ne.mpr fun e=>by rw[e,aaR]at h;cases h]
noncomputable def SI.at_(st:SI)(i:Nat):Option Str:=st.nm.lookup i
noncomputable def pk{α:Type}[BEq α]:List α->Bool
 |[]=>true
 |x::r=> !r.contains x&&pk r
noncomputable def zu(x:Str):Bool:= !(x==("__debug__":Str)||x==("__classdict__":Str))
noncomputable def SI.inner(st:SI)(scope:dZ)(xs:ac)(ts:List Str):SI:=
 {names:=scope.names.map fun p=>if(p.2==dA&&st.kind p.1==some eE)then(p.1,eE)else p
  nm:=xs.zip ts++st.nm.filter fun p=> !xs.contains p.1&&scope.names.lookup p.2==some .free
  own:=false}
noncomputable def NF(st:SI)(scope:dZ)(xs:ac)(ts:List Str):Bool:=
 scope.kind== .function&&scope.names.all (fun y=>y.2 != .cell)&&scope.names.all (fun y=>y.2 != .local||scope.names.lookup y.1==some .local)&&
 scope.names.all (fun y=>y.2 != .free||(st.kind y.1==some .cell||st.kind y.1==some .free))&&pk (scope.names.map (·.1))&&
 ts.all (fun t=>scope.names.lookup t==some .local&&zu t)&&pk ((st.inner scope xs ts).nm.map (·.2))&&xs.length==ts.length&&pk xs&&pk (st.nm.map (·.1))
theorem aE{a b:Bool}{P:Prop}(h:(a&&b)=true)(k:a=true->b=true->P):P:=by
 cases a with
 |true=>exact k rfl h
 |false=>exact ff h
theorem rE{a b:Bool}{P:Prop}(h:(a||b)=true)(k:a=true->P)(k':b=true->P):P:=by
 cases a with
 |true=>exact k rfl
 |false=>exact k' h
@[elab_as_elim] theorem dE {α:Type} {a b:α} {i:Decidable (a=b)} {Q:α->Prop} (h:decide (a=b)=true) (k:Q a):Q b:=ag h▸k
theorem pn{a:Bool}(h:(!a)=true):a=false:=by cases a with
 |true=>cases h
 |false=>rfl
def CZ{α:Type}(o:Option α)(f:α->Bool):Bool:=bo (motive:=fun _=>Bool) false f o
@[elab_as_elim] theorem aiD {α:Type} {Q:Option α->Prop} {o:Option α} {f:α->Bool} (h:CZ o f=true) (k: ∀a,f a=true->Q (some a)):Q o:=by
 cases o with
 |some a=>exact k a h
 |none=>exact ff h
def hd{α:Type}(l:List α)(f:α->List α->Bool):Bool:=bu (motive:=fun _=>Bool) false (fun a r _=>f a r) l
@[elab_as_elim] theorem Vd {α:Type} {Q:List α->Prop} {l:List α} {f:α->List α->Bool} (h:hd l f=true) (k: ∀a r,f a r=true->Q (a::r)):Q l:=by
 cases l with
 |cons a r=>exact k a r h
 |nil=>exact ff h
def nl{α:Type}(l:List α)(b:Bool):Bool:=bu (motive:=fun _=>Bool) b (fun _ _ _=>false) l
@[elab_as_elim] theorem Jc {α:Type} {Q:List α->Prop} {l:List α} {b:Bool} (h:nl l b=true) (k:b=true->Q []):Q l:=by
 cases l with
 |cons a r=>exact ff h
 |nil=>exact k h
def ux{α:Type}(l:List α)(f:α->Bool):Bool:=hd l fun a r=>nl r (f a)
@[elab_as_elim] theorem pq {α:Type} {Q:List α->Prop} {l:List α} {f:α->Bool} (h:ux l f=true) (k: ∀a,f a=true->Q [a]):Q l:=Vd h fun a _ h=>Jc h fun h=>k a h
def DJ{α:Type}(l:List α)(f:α->α->Bool):Bool:=hd l fun a r=>ux r (f a)
@[elab_as_elim] theorem wV {α:Type} {Q:List α->Prop} {l:List α} {f:α->α->Bool} (h:DJ l f=true) (k: ∀a b,f a b=true->Q [a,b]):Q l:=Vd h fun a _ h=>pq h fun b h=>k a b h
def VY{α:Type}(l:List α)(f:α->α->α->Bool):Bool:=hd l fun a r=>DJ r (f a)
@[elab_as_elim] theorem YU {α:Type} {Q:List α->Prop} {l:List α} {f:α->α->α->Bool} (h:VY l f=true) (k: ∀a b c,f a b c=true->Q [a,b,c]):Q l:=Vd h fun a _ h=>wV h fun b c h=>k a b c h
theorem pK{c:Prop}{i:Decidable c}{t:c->Bool}{P:Prop}(h:(if h:c then t h else false)=true)(k: ∀hc,t hc=true->P):P:=by
 cases i with
 |isTrue hc=>exact k hc h
 |isFalse hc=>exact ff h
noncomputable def se(x:an)(f:Str->Bool):Bool:=if h:x.ctorIdx=23 then wZ (motive_1:=fun _=>Bool) x h (fun x0 _=>f x0)else false
@[elab_as_elim] theorem pI {Q:an->Prop} {x:an} {f:Str->Bool} (h:se x f=true) (k: ∀(x0:Str) (x1:Pos),f x0=true->Q (.Name x0 x1)):Q x:=pK h fun hc h=>wZ (motive_1:=fun x=> ∀hc:x.ctorIdx=23,wZ (motive_1:=fun _=>Bool) x hc (fun x0 _=>f x0)=true->Q x) x hc (fun x0 x1 _ h=>k x0 x1 h) hc h
noncomputable def acQ(x:an)(f:Const->Bool):Bool:=if h:x.ctorIdx=19 then qU (motive_1:=fun _=>Bool) x h (fun x0 _ _=>f x0)else false
@[elab_as_elim] theorem Q2 {Q:an->Prop} {x:an} {f:Const->Bool} (h:acQ x f=true) (k: ∀(x0:Const) (x1:Nat) (x2:Pos),f x0=true->Q (.Constant x0 x1 x2)):Q x:=pK h fun hc h=>qU (motive_1:=fun x=> ∀hc:x.ctorIdx=19,qU (motive_1:=fun _=>Bool) x hc (fun x0 _ _=>f x0)=true->Q x) x hc (fun x0 x1 x2 _ h=>k x0 x1 x2 h) hc h
noncomputable def anL(x:an)(f:an->iD->an->Bool):Bool:=if h:x.ctorIdx=2 then vi (motive_1:=fun _=>Bool) x h (fun x0 x1 x2 _=>f x0 x1 x2)else false
@[elab_as_elim] theorem apJ {Q:an->Prop} {x:an} {f:an->iD->an->Bool} (h:anL x f=true) (k: ∀(x0:an) (x1:iD) (x2:an) (x3:Pos),f x0 x1 x2=true->Q (.BinOp x0 x1 x2 x3)):Q x:=pK h fun hc h=>vi (motive_1:=fun x=> ∀hc:x.ctorIdx=2,vi (motive_1:=fun _=>Bool) x hc (fun x0 x1 x2 _=>f x0 x1 x2)=true->Q x) x hc (fun x0 x1 x2 x3 _ h=>k x0 x1 x2 x3 h) hc h
noncomputable def xUn(x:an)(f:Sh->an->Bool):Bool:=if h:x.ctorIdx=3 then sh (motive_1:=fun _=>Bool) x h (fun x0 x1 _=>f x0 x1)else false
@[elab_as_elim] theorem ale {Q:an->Prop} {x:an} {f:Sh->an->Bool} (h:xUn x f=true) (k: ∀(x0:Sh) (x1:an) (x2:Pos),f x0 x1=true->Q (.UnaryOp x0 x1 x2)):Q x:=pK h fun hc h=>sh (motive_1:=fun x=> ∀hc:x.ctorIdx=3,sh (motive_1:=fun _=>Bool) x hc (fun x0 x1 _=>f x0 x1)=true->Q x) x hc (fun x0 x1 x2 _ h=>k x0 x1 x2 h) hc h
noncomputable def ak8(x:an)(f:cE->List an->Bool):Bool:=if h:x.ctorIdx=0 then tC (motive_1:=fun _=>Bool) x h (fun x0 x1 _=>f x0 x1)else false
@[elab_as_elim] theorem amZ {Q:an->Prop} {x:an} {f:cE->List an->Bool} (h:ak8 x f=true) (k: ∀(x0:cE) (x1:List an) (x2:Pos),f x0 x1=true->Q (.BoolOp x0 x1 x2)):Q x:=pK h fun hc h=>tC (motive_1:=fun x=> ∀hc:x.ctorIdx=0,tC (motive_1:=fun _=>Bool) x hc (fun x0 x1 _=>f x0 x1)=true->Q x) x hc (fun x0 x1 x2 _ h=>k x0 x1 x2 h) hc h
noncomputable def xIf(x:an)(f:an->an->an->Bool):Bool:=if h:x.ctorIdx=5 then vj (motive_1:=fun _=>Bool) x h (fun x0 x1 x2 _=>f x0 x1 x2)else false
@[elab_as_elim] theorem aqW {Q:an->Prop} {x:an} {f:an->an->an->Bool} (h:xIf x f=true) (k: ∀(x0:an) (x1:an) (x2:an) (x3:Pos),f x0 x1 x2=true->Q (.IfExp x0 x1 x2 x3)):Q x:=pK h fun hc h=>vj (motive_1:=fun x=> ∀hc:x.ctorIdx=5,vj (motive_1:=fun _=>Bool) x hc (fun x0 x1 x2 _=>f x0 x1 x2)=true->Q x) x hc (fun x0 x1 x2 x3 _ h=>k x0 x1 x2 x3 h) hc h
noncomputable def ak9(x:an)(f:an->List gW->List an->Bool):Bool:=if h:x.ctorIdx=15 then sg (motive_1:=fun _=>Bool) x h (fun x0 x1 x2 _=>f x0 x1 x2)else false
@[elab_as_elim] theorem ala {Q:an->Prop} {x:an} {f:an->List gW->List an->Bool} (h:ak9 x f=true) (k: ∀(x0:an) (x1:List gW) (x2:List an) (x3:Pos),f x0 x1 x2=true->Q (.Compare x0 x1 x2 x3)):Q x:=pK h fun hc h=>sg (motive_1:=fun x=> ∀hc:x.ctorIdx=15,sg (motive_1:=fun _=>Bool) x hc (fun x0 x1 x2 _=>f x0 x1 x2)=true->Q x) x hc (fun x0 x1 x2 x3 _ h=>k x0 x1 x2 x3 h) hc h
noncomputable def Q1(x:an)(f:an->Str->Pos->Bool):Bool:=if h:x.ctorIdx=20 then pM (motive_1:=fun _=>Bool) x h (fun x0 x1 x2=>f x0 x1 x2)else false
@[elab_as_elim] theorem NX {Q:an->Prop} {x:an} {f:an->Str->Pos->Bool} (h:Q1 x f=true) (k: ∀(x0:an) (x1:Str) (x2:Pos),f x0 x1 x2=true->Q (.Attribute x0 x1 x2)):Q x:=pK h fun hc h=>pM (motive_1:=fun x=> ∀hc:x.ctorIdx=20,pM (motive_1:=fun _=>Bool) x hc (fun x0 x1 x2=>f x0 x1 x2)=true->Q x) x hc (fun x0 x1 x2 _ h=>k x0 x1 x2 h) hc h
noncomputable def acU(x:an)(f:an->an->Bool):Bool:=if h:x.ctorIdx=21 then pN (motive_1:=fun _=>Bool) x h (fun x0 x1 _=>f x0 x1)else false
@[elab_as_elim] theorem abm {Q:an->Prop} {x:an} {f:an->an->Bool} (h:acU x f=true) (k: ∀(x0:an) (x1:an) (x2:Pos),f x0 x1=true->Q (.Subscript x0 x1 x2)):Q x:=pK h fun hc h=>pN (motive_1:=fun x=> ∀hc:x.ctorIdx=21,pN (motive_1:=fun _=>Bool) x hc (fun x0 x1 _=>f x0 x1)=true->Q x) x hc (fun x0 x1 x2 _ h=>k x0 x1 x2 h) hc h
noncomputable def acT(x:an)(f:Option an->Option an->Option an->Bool):Bool:=if h:x.ctorIdx=26 then vk (motive_1:=fun _=>Bool) x h (fun x0 x1 x2 _=>f x0 x1 x2)else false
@[elab_as_elim] theorem alc {Q:an->Prop} {x:an} {f:Option an->Option an->Option an->Bool} (h:acT x f=true) (k: ∀(x0:Option an) (x1:Option an) (x2:Option an) (x3:Pos),f x0 x1 x2=true->Q (.Slice x0 x1 x2 x3)):Q x:=pK h fun hc h=>vk (motive_1:=fun x=> ∀hc:x.ctorIdx=26,vk (motive_1:=fun _=>Bool) x hc (fun x0 x1 x2 _=>f x0 x1 x2)=true->Q x) x hc (fun x0 x1 x2 x3 _ h=>k x0 x1 x2 x3 h) hc h
noncomputable def abl(x:an)(f:List an->Bool):Bool:=if h:x.ctorIdx=24 then wY (motive_1:=fun _=>Bool) x h (fun x0 _=>f x0)else false
@[elab_as_elim] theorem acS {Q:an->Prop} {x:an} {f:List an->Bool} (h:abl x f=true) (k: ∀(x0:List an) (x1:Pos),f x0=true->Q (.List x0 x1)):Q x:=pK h fun hc h=>wY (motive_1:=fun x=> ∀hc:x.ctorIdx=24,wY (motive_1:=fun _=>Bool) x hc (fun x0 _=>f x0)=true->Q x) x hc (fun x0 x1 _ h=>k x0 x1 h) hc h
noncomputable def acV(x:an)(f:List an->Bool):Bool:=if h:x.ctorIdx=25 then jq (motive_1:=fun _=>Bool) x h (fun x0 _ _=>f x0)else false
@[elab_as_elim] theorem abn {Q:an->Prop} {x:an} {f:List an->Bool} (h:acV x f=true) (k: ∀(x0:List an) (x1:Nat) (x2:Pos),f x0=true->Q (.Tuple x0 x1 x2)):Q x:=pK h fun hc h=>jq (motive_1:=fun x=> ∀hc:x.ctorIdx=25,jq (motive_1:=fun _=>Bool) x hc (fun x0 _ _=>f x0)=true->Q x) x hc (fun x0 x1 x2 _ h=>k x0 x1 x2 h) hc h
noncomputable def ald(x:an)(f:List an->Nat->Pos->Bool):Bool:=if h:x.ctorIdx=25 then jq (motive_1:=fun _=>Bool) x h (fun x0 x1 x2=>f x0 x1 x2)else false
@[elab_as_elim] theorem am0 {Q:an->Prop} {x:an} {f:List an->Nat->Pos->Bool} (h:ald x f=true) (k: ∀(x0:List an) (x1:Nat) (x2:Pos),f x0 x1 x2=true->Q (.Tuple x0 x1 x2)):Q x:=pK h fun hc h=>jq (motive_1:=fun x=> ∀hc:x.ctorIdx=25,jq (motive_1:=fun _=>Bool) x hc (fun x0 x1 x2=>f x0 x1 x2)=true->Q x) x hc (fun x0 x1 x2 _ h=>k x0 x1 x2 h) hc h
noncomputable def abk(x:an)(f:List (Option an)->List an->Bool):Bool:=if h:x.ctorIdx=6 then wX (motive_1:=fun _=>Bool) x h (fun x0 x1 _=>f x0 x1)else false
@[elab_as_elim] theorem acR {Q:an->Prop} {x:an} {f:List (Option an)->List an->Bool} (h:abk x f=true) (k: ∀(x0:List (Option an)) (x1:List an) (x2:Pos),f x0 x1=true->Q (.Dict x0 x1 x2)):Q x:=pK h fun hc h=>wX (motive_1:=fun x=> ∀hc:x.ctorIdx=6,wX (motive_1:=fun _=>Bool) x hc (fun x0 x1 _=>f x0 x1)=true->Q x) x hc (fun x0 x1 x2 _ h=>k x0 x1 x2 h) hc h
noncomputable def V3(x:an)(f:an->List an->List tt->Pos->Bool):Bool:=if h:x.ctorIdx=16 then wW (motive_1:=fun _=>Bool) x h (fun x0 x1 x2 x3=>f x0 x1 x2 x3)else false
@[elab_as_elim] theorem V4 {Q:an->Prop} {x:an} {f:an->List an->List tt->Pos->Bool} (h:V3 x f=true) (k: ∀(x0:an) (x1:List an) (x2:List tt) (x3:Pos),f x0 x1 x2 x3=true->Q (.Call x0 x1 x2 x3)):Q x:=pK h fun hc h=>wW (motive_1:=fun x=> ∀hc:x.ctorIdx=16,wW (motive_1:=fun _=>Bool) x hc (fun x0 x1 x2 x3=>f x0 x1 x2 x3)=true->Q x) x hc (fun x0 x1 x2 x3 _ h=>k x0 x1 x2 x3 h) hc h
noncomputable def abj(x:an)(f:an->List dR->dZ->Bool):Bool:=if h:x.ctorIdx=8 then qV (motive_1:=fun _=>Bool) x h (fun x0 x1 x2 _=>f x0 x1 x2)else false
@[elab_as_elim] theorem acP {Q:an->Prop} {x:an} {f:an->List dR->dZ->Bool} (h:abj x f=true) (k: ∀(x0:an) (x1:List dR) (x2:dZ) (x3:Pos),f x0 x1 x2=true->Q (.ListComp x0 x1 x2 x3)):Q x:=pK h fun hc h=>qV (motive_1:=fun x=> ∀hc:x.ctorIdx=8,qV (motive_1:=fun _=>Bool) x hc (fun x0 x1 x2 _=>f x0 x1 x2)=true->Q x) x hc (fun x0 x1 x2 x3 _ h=>k x0 x1 x2 x3 h) hc h
noncomputable def acC(x:bV)(f:an->Bool):Bool:=if h:x.ctorIdx=24 then w8 (motive_2:=fun _=>Bool) x h (fun x0 _=>f x0)else false
@[elab_as_elim] theorem ajC {Q:bV->Prop} {x:bV} {f:an->Bool} (h:acC x f=true) (k: ∀(x0:an) (x1:Pos),f x0=true->Q (.Expr x0 x1)):Q x:=pK h fun hc h=>w8 (motive_2:=fun x=> ∀hc:x.ctorIdx=24,w8 (motive_2:=fun _=>Bool) x hc (fun x0 _=>f x0)=true->Q x) x hc (fun x0 x1 _ h=>k x0 x1 h) hc h
noncomputable def Dn(x:bV)(f:List an->an->Bool):Bool:=if h:x.ctorIdx=5 then tN (motive_2:=fun _=>Bool) x h (fun x0 x1 _=>f x0 x1)else false
@[elab_as_elim] theorem EH {Q:bV->Prop} {x:bV} {f:List an->an->Bool} (h:Dn x f=true) (k: ∀(x0:List an) (x1:an) (x2:Pos),f x0 x1=true->Q (.Assign x0 x1 x2)):Q x:=pK h fun hc h=>tN (motive_2:=fun x=> ∀hc:x.ctorIdx=5,tN (motive_2:=fun _=>Bool) x hc (fun x0 x1 _=>f x0 x1)=true->Q x) x hc (fun x0 x1 x2 _ h=>k x0 x1 x2 h) hc h
noncomputable def anB(x:bV)(f:an->List bV->List bV->Bool):Bool:=if h:x.ctorIdx=12 then Bq (motive_2:=fun _=>Bool) x h (fun x0 x1 x2 _=>f x0 x1 x2)else false
@[elab_as_elim] theorem apv {Q:bV->Prop} {x:bV} {f:an->List bV->List bV->Bool} (h:anB x f=true) (k: ∀(x0:an) (x1:List bV) (x2:List bV) (x3:Pos),f x0 x1 x2=true->Q (.If x0 x1 x2 x3)):Q x:=pK h fun hc h=>Bq (motive_2:=fun x=> ∀hc:x.ctorIdx=12,Bq (motive_2:=fun _=>Bool) x hc (fun x0 x1 x2 _=>f x0 x1 x2)=true->Q x) x hc (fun x0 x1 x2 x3 _ h=>k x0 x1 x2 x3 h) hc h
noncomputable def acD(x:bV)(f:an->List bV->List bV->Bool):Bool:=if h:x.ctorIdx=11 then vq (motive_2:=fun _=>Bool) x h (fun x0 x1 x2 _=>f x0 x1 x2)else false
@[elab_as_elim] theorem ajE {Q:bV->Prop} {x:bV} {f:an->List bV->List bV->Bool} (h:acD x f=true) (k: ∀(x0:an) (x1:List bV) (x2:List bV) (x3:Pos),f x0 x1 x2=true->Q (.While x0 x1 x2 x3)):Q x:=pK h fun hc h=>vq (motive_2:=fun x=> ∀hc:x.ctorIdx=11,vq (motive_2:=fun _=>Bool) x hc (fun x0 x1 x2 _=>f x0 x1 x2)=true->Q x) x hc (fun x0 x1 x2 x3 _ h=>k x0 x1 x2 x3 h) hc h
noncomputable def ajD(x:bV)(f:an->an->List bV->List bV->Bool):Bool:=if h:x.ctorIdx=9 then zO (motive_2:=fun _=>Bool) x h (fun x0 x1 x2 x3 _=>f x0 x1 x2 x3)else false
@[elab_as_elim] theorem amK {Q:bV->Prop} {x:bV} {f:an->an->List bV->List bV->Bool} (h:ajD x f=true) (k: ∀(x0:an) (x1:an) (x2:List bV) (x3:List bV) (x4:Pos),f x0 x1 x2 x3=true->Q (.For x0 x1 x2 x3 x4)):Q x:=pK h fun hc h=>zO (motive_2:=fun x=> ∀hc:x.ctorIdx=9,zO (motive_2:=fun _=>Bool) x hc (fun x0 x1 x2 x3 _=>f x0 x1 x2 x3)=true->Q x) x hc (fun x0 x1 x2 x3 x4 _ h=>k x0 x1 x2 x3 x4 h) hc h
noncomputable def Yz(x:bV)(f:Option an->Bool):Bool:=if h:x.ctorIdx=3 then tO (motive_2:=fun _=>Bool) x h (fun x0 _=>f x0)else false
@[elab_as_elim] theorem aeB {Q:bV->Prop} {x:bV} {f:Option an->Bool} (h:Yz x f=true) (k: ∀(x0:Option an) (x1:Pos),f x0=true->Q (.Return x0 x1)):Q x:=pK h fun hc h=>tO (motive_2:=fun x=> ∀hc:x.ctorIdx=3,tO (motive_2:=fun _=>Bool) x hc (fun x0 _=>f x0)=true->Q x) x hc (fun x0 x1 _ h=>k x0 x1 h) hc h
noncomputable def ajB(x:bV)(f:Bool):Bool:=if h:x.ctorIdx=27 then q6 (motive_2:=fun _=>Bool) x h (fun _=>f)else false
@[elab_as_elim] theorem amJ {Q:bV->Prop} {x:bV} {f:Bool} (h:ajB x f=true) (k: ∀(x0:Pos),f=true->Q (.Continue x0)):Q x:=pK h fun hc h=>q6 (motive_2:=fun x=> ∀hc:x.ctorIdx=27,q6 (motive_2:=fun _=>Bool) x hc (fun _=>f)=true->Q x) x hc (fun x0 _ h=>k x0 h) hc h
noncomputable def ab6(g:dR)(f:an->an->List an->Bool):Bool:=decide ((0:Int)=g.is_async)&&f g.target g.iter g.ifs
@[elab_as_elim] theorem Z1 {Q:dR->Prop} {g:dR} {f:an->an->List an->Bool} (h:ab6 g f=true) (k: ∀t i fs,f t i fs=true->Q ⟨t,i,fs,0⟩):Q g:=by
 cases g with
 |mk t i fs a=>exact aE h fun h0 h=>dE (Q:=fun a=>Q ⟨t,i,fs,a⟩) h0 (k t i fs h)
structure Ck where
 e:SI->an->Bool
 b:SI->an->Bool
 l:SI->List an->Bool
 o:SI->cE->List an->Bool
 a:SI->cE->List an->Bool
 p:SI->Option an->Bool
 i:SI->List an->Bool
noncomputable def aiK:List Nat:=[19,23,16,20,21,8,2,24,25]
def Qp(x:an):Bool:=FZ x.ctorIdx aiK
noncomputable def no1(_:SI)(_:List an):Bool:=false
def Ck.both(e b:SI->an->Bool):Ck:=⟨e,b,no1,fun st _ xs=>ux xs (e st),fun st _ xs=>ux xs (b st),fun st x=>CZ x (e st),fun st xs=>ux xs (b st)⟩
def Ck.ofE(e:SI->an->Bool):Ck:=.both e fun st x=>Qp x&&e st x
def qk(f:an->Bool)(g:List an->Bool)(l:List an):Bool:=hd l fun x r=>f x&&hd r fun y r=>g (y::r)
noncomputable def th(op:cE)(g:List an->Bool)(x:an):Bool:=ak8 x fun o l=>decide (op=o)&&g l
def aaG(op op':cE)(f:an->Bool)(g:List an->Bool)(l:List an):Bool:=ux l f||(decide (op=op')&&g l)
def Ck.bool(op:cE)(a b:Ck):Ck:=
 ⟨fun st=>th op (qk (a.e st) (b.o st op)),fun st=>th op (qk (a.b st) (b.a st op)),no1,fun st op'=>aaG op op' (th op (qk (a.e st) (b.o st op))) (qk (a.e st) (b.o st op)),fun st op'=>aaG op op' (th op (qk (a.b st) (b.a st op))) (qk (a.b st) (b.a st op)),
  fun st x=>CZ x (th op (qk (a.e st) (b.o st op))),fun st xs=>ux xs (th op (qk (a.b st) (b.a st op)))⟩
noncomputable def cOf(a:AV)(f:Const->Bool):Bool:=match a with
 | .none=>f .none
 | .bool b=>f (.bool b)
 | .int i=>f (.int i)
 | .str l=>f (.str (aO l))
 | .bytes l=>f (.bytes l)
 |_=>false
noncomputable def Cv(a:AV)(x:an):Bool:=acQ x fun c=>cOf a fun d=>decide (d=c)
structure Wt where
 glb:List Str
 fns:List Str
 mts:List Str
noncomputable def cF.nms(Γ:cF):Wt:=⟨Γ.glb.map (·.1),Γ.fns.map (·.1),Γ.mts.map (·.1)⟩
noncomputable def Ao:List Str->Nat->Option Str
 |[],_=>none
 |x::_,0=>some x
 |_::r,i+1=>Ao r i
def NP(l:List Str)(i:Nat)(x:Str):Bool:=oS (Ao l i) x
def Z3(st:SI)(x:Str):Bool:=PX st.names x==some .globalImplicit&& !(x==("__debug__":Str))
noncomputable def EC(x:an):Bool:= !aj x.ctorIdx 7
def YS(x:an)(f:List Str->Bool):Bool:=se x (fun n=>f [n])||acV x fun t=>DJ t fun a b=>se a fun n=>se b fun m=>f [n,m]
noncomputable def X3(es:List an):Bool:=es.all fun e=> !jf e
def aag(i:Int)(o:Option an):Bool:=CZ o fun e=>Cv (.int i) e
def agm(k1 k2:Int)(a b:ac)(x:an):Bool:=abk x fun d e=>DJ d fun k k'=>DJ e fun v v'=>aag k1 k&&(aag k2 k'&&(Cv (.str a) v&&(Cv (.str b) v'&& !decide (k1=k2))))
noncomputable def af4:Ck:=⟨fun _ _=>false,fun _ _=>false,no1,fun _ _ _=>false,fun _ _ _=>false,fun _ x=>x.isNone,fun _ xs=>xs.isEmpty⟩
def nlA(a:AV)(x:an):Bool:=match a with
 | .lst l=>l.isEmpty&&abl x (·.isEmpty)
 |_=>false
def anY(a:AV):Ck:=.ofE fun _ x=>Cv a x||nlA a x
def agb(i:Nat):Ck:=.ofE fun st x=>se x fun y=>oS (st.at_ i) y
def afY(N:Wt)(g:Nat):Ck:=.ofE fun st x=>se x fun y=>Z3 st y&&NP N.glb g y
def afV(op:iD)(a b:Ck):Ck:=.ofE fun st x=>anL x fun l o r=>decide (op=o)&&(a.e st l&&b.e st r)
def af2(a:Ck):Ck:=.ofE fun st x=>xUn x fun o r=>decide (.USub=o)&&a.e st r
def af5(a:Ck):Ck:=.both (fun st x=>xUn x fun o r=>decide (.Not=o)&&a.e st r) (fun st x=>xUn x fun o r=>decide (.Not=o)&&a.b st r)
def af0(c a b:Ck):Ck:=.ofE fun st x=>xIf x fun t l r=>c.b st t&&(a.e st l&&b.e st r)
def ZF(op:gW)(a b:an->Bool)(x:an):Bool:=ak9 x fun l os rs=>ux os fun o=>ux rs fun r=>decide (op=o)&&(!behindInMarks op r&&(a l&&b r))
def afW(op:gW)(a b:Ck):Ck:=.both (fun st=>ZF op (a.e st) (b.e st)) (fun st=>ZF op (a.e st) (b.e st))
def UZ(op op':gW)(a b c:an->Bool)(x:an):Bool:=ak9 x fun l os rs=>DJ os fun o o'=>DJ rs fun r r'=>decide (op=o)&&(decide (op'=o')&&(!lastMarks [op,op'] [r,r']&&(a l&&(b r&&c r'))))
def abJ(op op':gW)(a b c:Ck):Ck:=.both (fun st=>UZ op op' (a.e st) (b.e st) (c.e st)) (fun st=>UZ op op' (a.e st) (b.e st) (c.e st))
def afU(FN:List Str)(k:Nat)(a:Ck):Ck:=.ofE fun st x=>Q1 x fun o n _=>oS (Ao FN k) n&&(ta o&&a.e st o)
def afZ(a i:Ck):Ck:=.ofE fun st x=>acU x fun o j=> !PT j&&(a.e st o&&i.e st j)
def af9(a lo hi:Ck):Ck:=.ofE fun st x=>acU x fun o j=>acT j fun l h s=>decide (none=s)&&(a.e st o&&(lo.p st l&&hi.p st h))
def af1(l:Ck):Ck:=.ofE fun st x=>abl x fun es=>l.l st es
def aga(l:Ck):Ck:=.ofE fun st x=>acV x fun es=>l.l st es
def afX:Ck:=.ofE fun _ x=>abk x fun a b=>nl a (nl b true)
def alu(k1 k2:Int)(a b:ac):Ck:=.ofE fun _ x=>agm k1 k2 a b x
def af6(c:Nat)(a:Ck):Ck:=.ofE fun st x=>V3 x fun f es ks p=>Q1 f fun o n ap=>DJ es fun v v'=>decide ("replace"=n)&&(ta o&&(decide (ap.endLine=p.line)&&nl ks (Cv (.str [c]) v&&(Cv (.str []) v'&&a.e st o))))
def abI(N:Wt)(f:Nat)(l:Ck):Ck:=.ofE fun st x=>V3 x fun g es ks _=>se g fun y=>Z3 st y&&(NP N.fns f y&&nl ks (X3 es&&l.l st es))
def abL(N:Wt)(n:Nat)(o l:Ck):Ck:=.ofE fun st x=>V3 x fun g es ks p=>Q1 g fun q y ap=>NP N.mts n y&&(ta q&&(decide (ap.endLine=p.line)&&(bz es.length 30&&nl ks (X3 es&&(o.e st q&&l.l st es)))))
def af3:Ck:=⟨fun _ _=>true,fun _ _=>true,fun _ xs=>nl xs true,fun _ _ _=>true,fun _ _ _=>true,fun _ _=>true,fun _ _=>true⟩
def abK(a l:Ck):Ck:=⟨fun _ _=>false,fun _ _=>false,fun st xs=>hd xs fun x r=> !jf x&&(a.e st x&&l.l st r),fun _ _ _=>false,fun _ _ _=>false,fun _ _=>false,fun _ _=>false⟩
def UY(xs:ac)(it c elt:Ck):Ck:=.ofE fun st x=>abj x fun ee gs sc=>ux gs fun g=>ab6 g fun tg ie fs=>YS tg fun ts=>
 it.e st ie&&(EC ie&&(NF st sc xs ts&&(c.i (st.inner sc xs ts) fs&&elt.e (st.inner sc xs ts) ee)))
def Pc(x':Nat)(it:Ck)(y':Nat)(it2 elt:Ck):Ck:=.ofE fun st x=>abj x fun ee gs sc=>DJ gs fun g g'=>ab6 g fun tg ie fs=>ab6 g' fun tg' ie' fs'=>se tg fun nx=>se tg' fun ny=>
 nl fs (nl fs' (it.e st ie&&(EC ie&&(EC ie'&&(NF st sc [x',y'] [nx,ny]&&(it2.e (st.inner sc [x',y'] [nx,ny]) ie'&&elt.e (st.inner sc [x',y'] [nx,ny]) ee))))))
def ck(FN:List Str)(N:Wt)(t:T):Ck:=T.rec (motive:=fun _=>Ck) af4 anY agb (afY N) (fun op _ _=>afV op) (fun _=>af2) (fun _=>af5) (fun _ _=>.bool .And) (fun _ _=>.bool .Or) (fun _ _ _=>af0) (fun op _ _=>afW op) (fun op op' _ _ _=>abJ op op')
 (fun k _=>afU FN k) (fun _ _=>afZ) (fun _ _ _=>af9) (fun _=>af1) (fun _=>aga) afX alu (fun c _=>af6 c) (fun f _=>abI N f) (fun n _ _=>abL N n) af3 (fun _ _=>abK) (fun xs _ _ _=>UY xs) (fun x _ y _ _ a=>Pc x a y) t
structure sX where
 s:SI->bV->Bool
 ss:SI->List bV->Bool
 g:SI->Bool
def pj(st:SI)(i:Nat)(x:Str):Bool:=oS (st.at_ i) x&&(decide (PX st.names x=some .local)||(st.own&&decide (PX st.names x=some .cell)))
def CV(st:SI):List Nat->List an->Bool
 |[],ts=>nl ts true
 |i::is,ts=>hd ts fun t r=>se t (fun x=>pj st i x)&&CV st is r
noncomputable def PR(t:T):Bool:=if h:t.ctorIdx=1 then T.cst.elim (motive:=fun _=>Bool) t h fun a=>(s9 a (some ())).isSome else false
noncomputable def sX.one(s:SI->bV->Bool):sX:=⟨s,fun _ _=>false,fun _=>false⟩
noncomputable def agx(st:SI):Env:={scope:=⟨.function,st.names,false,false,[]⟩,locals:=0,globals:=0,cells:=[]}
noncomputable def abD{α:Type}(m:Sem α)(f:α->Bool):Bool:=if h:m.ctorIdx=0 then zN (motive:=fun _=>Bool) m h f else false
@[elab_as_elim] theorem afG {α:Type} {Q:Sem α->Prop} {m:Sem α} {f:α->Bool} (h:abD m f=true) (k: ∀a,f a=true->Q (.pure a)):Q m:=pK h fun hc h=>zN (motive:=fun x=> ∀hc:x.ctorIdx=0,zN (motive:=fun _=>Bool) x hc f=true->Q x) m hc (fun a _ h=>k a h) hc h
def aiF(st:SI)(is:ac)(names:List Str):Bool:=DJ is fun i j=>DJ names fun x y=>pj st i x&&(pj st j y&& !decide (i=j))
def aiG(st:SI)(is:ac)(names:List Str):Bool:=VY is fun i j l=>VY names fun x y z=>
 pj st i x&&(pj st j y&&(pj st l z&&(!decide (i=j)&&(!decide (i=l)&& !decide (j=l)))))
def abE(st:SI)(is:ac)(t:an)(ts:List an)(v:an):Bool:=abD (swappedStores [t] v (agx st)) fun o=>bo (motive:=fun _=>Bool) (bz 1 is.length&&CV st is ts) (fun names=>aiF st is names||aiG st is names) o
noncomputable def alv:sX:=⟨fun _ _=>true,fun _ _=>false,fun _=>false⟩
noncomputable def Xf(e:Ck):sX:=.one fun st x=>acC x fun v=>jP v&&e.e st v
def abM(i:Nat)(e:Ck):sX:=.one fun st x=>Dn x fun ts v=>ux ts fun t=>se t fun y=>pj st i y&&e.e st v
def Xd(is:ac)(e:Ck):sX:=.one fun st x=>Dn x fun ts v=>ux ts fun t=>ald t fun q c p=>jP v&&(e.e st v&&abE st is (.Tuple q c p) q v)
def Xb(FN:List Str)(k:Nat)(o e:Ck):sX:=.one fun st x=>Dn x fun ts v=>ux ts fun t=>Q1 t fun q n _=>oS (Ao FN k) n&&(o.e st q&&e.e st v)
def Xc(o i e:Ck):sX:=.one fun st x=>Dn x fun ts v=>ux ts fun t=>acU t fun q j=>o.e st q&&(i.e st j&&e.e st v)
noncomputable def af8(c:Ck)(a b:sX):sX:=.one fun st x=>anB x fun t l r=>c.b st t&&(a.ss st l&&b.ss st r)
def abQ(c:Ck)(b:sX):sX:=.one fun st x=>acD x fun t l r=>nl r (c.b st t&&b.ss st l)
def aho(st:SI)(xs:ac)(t:an):Bool:=ux xs (fun i=>se t fun y=>pj st i y)||acV t fun q=>bz 1 xs.length&&CV st xs q
def abN(xs:ac)(it:Ck)(b:sX):sX:=.one fun st x=>ajD x fun t i l r=>nl r (aho st xs t&&(EC i&&(it.e st i&&b.ss st l)))
def abP(n:Bool)(e:Ck):sX:=.one fun st x=>Yz x fun o=>bo (motive:=fun _=>Bool) n (e.e st) o
noncomputable def af7:sX:=.one fun _ x=>ajB x true
noncomputable def abO(i:Nat):sX:=⟨fun _ _=>false,fun _ _=>false,fun st=>(st.at_ i).isSome⟩
def alw:sX:=⟨fun _ _=>false,fun _ xs=>nl xs true,fun _=>false⟩
def Xe(a b:sX):sX:=⟨fun _ _=>false,fun st xs=>(a.g st&&b.ss st xs)||hd xs fun x r=>a.s st x&&b.ss st r,fun _=>false⟩
def ckS(FN:List Str)(N:Wt)(t:TS):sX:=TS.rec (motive:=fun _=>sX) alv (fun e=>Xf (ck FN N e)) (fun i e=>abM i (ck FN N e)) (fun is e=>Xd is (ck FN N e)) (fun k o e=>Xb FN k (ck FN N o) (ck FN N e)) (fun o i e=>Xc (ck FN N o) (ck FN N i) (ck FN N e))
 (fun c _ _=>af8 (ck FN N c)) (fun c _=>abQ (ck FN N c)) (fun xs it _=>abN xs (ck FN N it)) (fun e=>abP (PR e) (ck FN N e)) af7 abO alw (fun _ _=>Xe) t
end
end
section
open PySem.SeqAt
noncomputable section
structure gX(X:FX)(st:SI):Prop where
 names:X.env.scope.names=st.names
 nm:X.names=st.at_
 ok:ve X
 sto:G4 X
 cells: ∀n,(n,eE)∈st.names\/(n,dA)∈st.names-> ∃c,X.env.cells.lookup n=some c
 own:st.own=true-> ∀n c,X.env.cells.lookup n=some c->c∈X.own
theorem gX.kind{X:FX}{st:SI}(H:gX X st)(x:Str):X.env.kindOf x=st.kind x:=by
 unfold Env.kindOf SI.kind;rw[H.names]
theorem ke{α:Type}[BEq α][LawfulBEq α]: ∀{l:List α},pk l=true->l.Nodup
 |[],_=>l5
 |x::r,h=>by
  simp only[pk,cK,d9]at h
  rw[dS]
  refine⟨fun hm=> ?_,ke h.2⟩
  rw[w0.mpr hm]at h
  exact absurd h.1 (by decide)
noncomputable def Cs(cells:List (Str×aC)):List (Str×cQ)->List (Str×aC)->List (Str×aC)
 |[],acc=>acc
 |(n,kd)::r,acc=>if kd== .free then Cs cells r ((n,(cells.lookup n).getD 0)::acc)else Cs cells r acc
theorem Ct{env:Env}: ∀(names:List (Str×cQ)) (acc:List (Str×aC)),(∀n,(n,dA)∈names-> ∃c,env.cells.lookup n=some c)->
  (forIn names acc fun x r=>(if x.2==dA then(do let a <- cellOf env x.1;pure (gJ ((x.1,a)::r)))else pure (gJ r):Sem (ForInStep (List (Str×aC)))))=pure (Cs env.cells names acc)
 |[],acc,_=>rfl
 |(n,kd)::r,acc,h=>by
  rw[gL]
  unfold Cs
  dsimp only
  split
  ·rename_i q
   have q:kd= .free:=by simpa using q
   subst q
   obtain⟨c,hc⟩:=h n bf
   have:cellOf env n=pure c:=by unfold cellOf;rw[hc]
   rw[this,pure_bind,pure_bind,hc]
   exact Ct r _ fun m hm=>h m (aQ _ hm)
  ·rw[pure_bind]
   exact Ct r _ fun m hm=>h m (aQ _ hm)
theorem xJ{cells:List (Str×aC)}: ∀{names:List (Str×cQ)} {acc:List (Str×aC)} {p:Str×aC},p∈Cs cells names acc->p∈acc\/((p.1,dA)∈names/\p.2=(cells.lookup p.1).getD 0)
 |[],acc,p,h=>.inl h
 |(n,kd)::r,acc,p,h=>by
  unfold Cs at h
  split at h
  ·rename_i q
   have q:kd= .free:=by simpa using q
   subst q
   rcases xJ h with h|h
   ·rcases aG.mp h with e|h
    ·subst e;exact .inr ⟨bf,rfl⟩
    ·exact .inl h
   ·exact .inr ⟨aQ _ h.1,h.2⟩
  ·rcases xJ h with h|h
   ·exact .inl h
   ·exact .inr ⟨aQ _ h.1,h.2⟩
theorem KG{cells:List (Str×aC)}: ∀{names:List (Str×cQ)} {acc:List (Str×aC)} {n:Str},(n,dA)∈names\/n∈acc.map (·.1)->n∈(Cs cells names acc).map (·.1)
 |[],acc,n,h=>by
  rcases h with h|h
  ·cases h
  ·exact h
 |(m,kd)::r,acc,n,h=>by
  unfold Cs
  split
  ·refine KG ?_
   rcases h with h|h
   ·rcases aG.mp h with e|h
    ·cases e;exact .inr (by simp)
    ·exact .inl h
   ·exact .inr (by rw[bh];exact aQ _ h)
  ·rename_i q
   refine KG ?_
   rcases h with h|h
   ·rcases aG.mp h with e|h
    ·cases e;exact absurd rfl q
    ·exact .inl h
   ·exact .inr h
theorem vN{cells:List (Str×aC)}: ∀{names:List (Str×cQ)} {acc:List (Str×aC)},(names.map (·.1)).Nodup->(acc.map (·.1)).Nodup->(∀n,n∈names.map (·.1)->n∉acc.map (·.1))->((Cs cells names acc).map (·.1)).Nodup
 |[],acc,_,h,_=>h
 |(n,kd)::r,acc,h1,h2,h3=>by
  rw[bh,dS]at h1
  unfold Cs
  split
  ·refine vN h1.2 (by rw[bh,dS];exact⟨h3 n (by simp),h2⟩) fun m hm=> ?_
   rw[bh,aG,not_or]
   exact⟨fun e=>h1.1 (e▸hm),h3 m (aQ _ hm)⟩
  ·exact vN h1.2 h2 fun m hm=>h3 m (aQ _ hm)
theorem pg{α β:Type}[BEq α][LawfulBEq α]: ∀{l:List (α×β)} {n:α} {c:β},(l.map (·.1)).Nodup->(n,c)∈l->l.lookup n=some c
 |(m,d)::r,n,c,hN,h=>by
  rw[bh,dS]at hN
  rw[cD]
  rcases aG.mp h with e|h'
  ·cases e;simp
  ·have:(n==m)=false:=by
    rw[beq_eq_false_iff_ne];intro e;exact hN.1 (e▸dD.mpr ⟨_,h',rfl⟩)
   rw[this];exact pg hN.2 h'
theorem Vl{α β:Type}[BEq α][LawfulBEq α]{l:List (α×β)}{n:α}(h:n∈l.map (·.1)): ∃c,l.lookup n=some c:=by
 induction l with
 |nil=>cases h
 |cons p r ih=>
  rw[cD]
  cases q:n==p.1 with
  |true=>exact⟨_,rfl⟩
  |false=>
   rw[bh,aG]at h
   exact ih (h.resolve_left fun e=>by rw[e]at q;simp at q)
section
variable{X:FX}{k:Nat}{st:SI}
structure oT(st:SI)(scope:dZ)(xs:List Nat)(ts:List Str):Prop where
 kind:scope.kind= .function
 nocell: ∀y∈scope.names,y.2≠ .cell
 locals: ∀y∈scope.names,y.2= .local->scope.names.lookup y.1=some .local
 free: ∀n,(n,dA)∈scope.names->st.kind n=some .cell\/st.kind n=some .free
 nodup:(scope.names.map (·.1)).Nodup
 tloc: ∀t∈ts,scope.names.lookup t=some .local
 tplain: ∀t∈ts,(t==("__debug__":Str)||t==("__classdict__":Str))=false
 uniq:((st.inner scope xs ts).nm.map (·.2)).Nodup
 len:xs.length=ts.length
 xnodup:xs.Nodup
 keys:(st.nm.map (·.1)).Nodup
theorem U0{scope:dZ}{xs:ac}{ts:List Str}(h:NF st scope xs ts=true):oT st scope xs ts:=by
 unfold NF at h
 simp only[cK,bZ,beq_iff_eq,bne_iff_ne,ne_eq,oG]at h
 obtain⟨⟨⟨⟨⟨⟨⟨⟨⟨h1,h2⟩,h3⟩,h4⟩,h5⟩,h6⟩,h7⟩,h8⟩,h9⟩,h10⟩:=h
 refine⟨h1,h2,fun y hy e=>(h3 y hy).resolve_left fun q=>q e,fun n hn=>(h4 _ hn).resolve_left fun q=>q rfl,ke h5,fun t ht=>(h6 t ht).1,fun t ht=> ?_,ke h7,h8,ke h9,ke h10⟩
 have:=(h6 t ht).2
 unfold zu at this
 simpa using this
abbrev Pd(X:FX)(scope:dZ):List (Str×aC):=Cs X.env.cells scope.names []
theorem Hk(H:gX X st){scope:dZ}{xs:ac}{ts:List Str}(K:oT st scope xs ts){n:Str}(hn:(n,dA)∈scope.names): ∃c,X.env.cells.lookup n=some c:=
 H.cells n ((K.free n hn).imp dN dN)
theorem zc(H:gX X st){scope:dZ}{xs:ac}{ts:List Str}(K:oT st scope xs ts){n:Str}(hn:(n,dA)∈scope.names):(Pd X scope).lookup n=X.env.cells.lookup n:=by
 have hN:=vN (cells:=X.env.cells) (acc:=[]) K.nodup l5 (fun _ _ h=>by cases h)
 obtain⟨c,hc⟩:=Vl (KG (cells:=X.env.cells) (acc:=[]) (.inl hn))
 rcases xJ (dN hc)with h|⟨_,h⟩
 ·cases h
 ·obtain⟨d,hd⟩:=Hk H K hn
  have h:c=(X.env.cells.lookup n).getD 0:=h
  rw[hc,hd,h,hd];rfl
theorem My{xs:ac}{ts:List Str}{i:Nat}{x:Str}(h:(xs.zip ts).lookup i=some x):i∈xs/\x∈ts:=by
 have:=dN h
 exact⟨(H1 this).1,(H1 this).2⟩
theorem Am{α β:Type}[BEq α]{l m:List (α×β)}{x:α}:(l++m).lookup x=(l.lookup x).or (m.lookup x):=by
 induction l with
 |nil=>simp
 |cons p l ih=>
  rw[eZ,cD,cD]
  split<;>simp_all
theorem S6{scope:dZ}{xs:ac}{ts:List Str}(K:oT st scope xs ts){i:Nat}{x:Str}(h:(st.inner scope xs ts).at_ i=some x):((xs.zip ts).lookup i=some x/\i∈xs/\x∈ts)\/(i∉xs/\st.at_ i=some x/\scope.names.lookup x=some .free):=by
 unfold SI.at_ SI.inner at h
 rw[Am]at h
 cases q:(xs.zip ts).lookup i with
 |some y=>rw[q]at h;cases h;exact .inl ⟨rfl,My q⟩
 |none=>
  rw[q,J8]at h
  have:=List.mem_filter.mp (dN h)
  simp only[cK,d9,beq_iff_eq]at this
  obtain⟨h1,h2,h3⟩:=this
  exact .inr ⟨fun hm=>(by rw[w0.mpr hm]at h2;cases h2),pg K.keys h1,h3⟩
theorem uJ(H:gX X st){scope:dZ}{xs:ac}{ts:List Str}:(relabel scope X.env).names=(st.inner scope xs ts).names:=by
 unfold relabel SI.inner
 dsimp only
 refine fY fun p hp=> ?_
 obtain⟨n,kd⟩:=p
 rw[H.ok.kind,H.kind n]
 dsimp only
 by_cases h:(kd==dA&&st.kind n==some eE)=true
 ·have h':(kd==dA&&(lC==lC)&&st.kind n==some eE)=true:=by simpa using h
  rw[if_pos h,if_pos h']
 ·have h': ¬(kd==dA&&(lC==lC)&&st.kind n==some eE)=true:=by simpa using h
  rw[if_neg h,if_neg h']
theorem FU{scope:dZ}{xs:ac}{ts:List Str}(K:oT st scope xs ts){n:Str}{kd:cQ}(h:(n,kd)∈scope.names):(st.inner scope xs ts).names.lookup n=some (if(kd==dA&&st.kind n==some eE)then eE else kd):=by
 refine pg ?_ (dD.mpr ⟨(n,kd),h,?_⟩)
 ·have:(st.inner scope xs ts).names.map (·.1)=scope.names.map (·.1):=by
   show(scope.names.map fun p=>if(p.2==dA&&st.kind p.1==some eE)then(p.1,eE)else p).map (·.1)=_
   rw[gM]
   refine fY fun p _=> ?_
   show(if _ then _ else _:Str×cQ).1=p.1
   split<;>rfl
  rw[this];exact K.nodup
 ·dsimp only
  split<;>rfl
theorem Pi(H:gX X st){scope:dZ}{xs:ac}{ts:List Str}(K:oT st scope xs ts):Ei X scope (Pd X scope) (st.inner scope xs ts).at_ xs:=by
 refine⟨?_,K.kind,K.nocell,K.locals,fun i x hx=> ?_,fun n c e=> ?_,?_,fun i x hx=> ?_⟩
 ·unfold closureFor
  have:=Ct (env:=X.env) scope.names [] fun n hn=>Hk H K hn
  rw[bind_pure]
  exact this
 ·rcases S6 K hx with⟨_,h,_⟩|⟨h1,h2,h3⟩
  ·exact .inl h
  ·have hf:=dN h3
   refine .inr ⟨by rw[H.nm];exact h2,by rw[H.kind];exact K.free x hf,?_,zc H K hf⟩
   rw[uJ H (xs:=xs) (ts:=ts),FU K hf]
   split
   ·exact .inl rfl
   ·exact .inr rfl
 ·have hm:=xJ (dN e)
  rcases hm with h|⟨h,_⟩
  ·cases h
  ·rw[<- zc H K h];exact e
 ·have hN:=vN (cells:=X.env.cells) (acc:=[]) K.nodup l5 (fun _ _ h=>by cases h)
  have hP:(Pd X scope).Pairwise fun p q=>p.1≠q.1:=List.pairwise_map.mp hN
  refine hP.imp_of_mem fun{p q} hp hq hne e=>hne ?_
  have look: ∀p∈Pd X scope,X.env.cells.lookup p.1=some p.2:=fun p hp=>by
   rcases xJ hp with h|⟨h,_⟩
   ·cases h
   ·rw[<- zc H K h];exact pg hN hp
  have e1:=dN (look p hp)
  have e2:=dN (look q hq)
  rw[<- e]at e2
  exact Ji H.ok.apart e1 e2
 ·rcases S6 K hx with⟨_,_,h⟩|⟨h1,h2,h3⟩
  ·exact K.tplain x h
  ·exact H.ok.plain i x (by rw[H.nm];exact h2)
theorem Lg{x:Str}: ∀{l:List (Nat×Str)} {i j:Nat},(l.map (·.2)).Nodup->(i,x)∈l->(j,x)∈l->i=j
 |(m,d)::r,i,j,hN,h,h'=>by
  rw[bh,dS]at hN
  rcases aG.mp h with e|h1<;>rcases aG.mp h' with e'|h2
  ·cases e;cases e';rfl
  ·cases e;exact absurd (dD.mpr ⟨_,h2,rfl⟩) hN.1
  ·cases e';exact absurd (dD.mpr ⟨_,h1,rfl⟩) hN.1
  ·exact Lg hN.2 h1 h2
theorem L7(H:gX X st){scope:dZ}{xs:ac}{ts:List Str}(K:oT st scope xs ts){n:Str}{kd:cQ}(h:(n,kd)∈(st.inner scope xs ts).names)(hk:kd= .cell\/kd= .free):(n,dA)∈scope.names:=by
 obtain⟨⟨m,d⟩,hm,e⟩:=dD.mp h
 dsimp only at e
 split at e
 ·rename_i q
  cases e
  simp only[cK,beq_iff_eq]at q
  rw[q.1]at hm;exact hm
 ·cases e
  rcases hk with rfl|rfl
  ·exact absurd rfl (K.nocell _ hm)
  ·exact hm
theorem adY(H:gX X st){scope:dZ}{xs:ac}{ts:List Str}(K:oT st scope xs ts){s:az}{L:aC}(hL: ∀n c,X.env.cells.lookup n=some c->c≠L):gX (X.inner scope (Pd X scope) (st.inner scope xs ts).at_ L s) (st.inner scope xs ts):=by
 have hk:(X.inner scope (Pd X scope) (st.inner scope xs ts).at_ L s).env.scope.kind= .function:=K.kind
 refine⟨uJ H,rfl,adX H.ok (Pi H K) hL,⟨fun i j x hi hj=> ?_,?_⟩,fun n hn=> ?_,fun h=>by cases h⟩
 ·exact Lg K.uniq (dN hi) (dN hj)
 ·unfold interactive;rw[hk];rfl
 ·have hf:(n,dA)∈scope.names:=hn.elim (fun h=>L7 H K h (.inl rfl)) fun h=>L7 H K h (.inr rfl)
  obtain⟨c,hc⟩:=Hk H K hf
  exact⟨c,by show(Pd X scope).lookup n=_;rw[zc H K hf];exact hc⟩
theorem xS(H:gX X st){scope:dZ}{xs:ac}{ts:List Str}(K:oT st scope xs ts){s:az}{L:aC}{i:Nat}{x:Str}(h:(xs.zip ts).lookup i=some x):km (X.inner scope (Pd X scope) (st.inner scope xs ts).at_ L s) i x:=by
 obtain⟨hi,hx⟩:=My h
 refine⟨?_,.inl ?_⟩
 ·show(st.inner scope xs ts).at_ i=some x
  unfold SI.at_ SI.inner
  rw[Am,h];rfl
 ·show(relabel scope X.env).names.lookup x=_
  rw[uJ H (xs:=xs) (ts:=ts),FU K (dN (K.tloc x hx))]
  rfl
end
end
end
section
open PySem.SeqAt
noncomputable section
noncomputable def ak0(v:ah)(f:Int->Bool):Bool:=if h:v.ctorIdx=4 then xa (motive:=fun _=>Bool) v h fun i _=>f i else false
@[elab_as_elim] theorem apF {Q:ah->Prop} {v:ah} {f:Int->Bool} (h:ak0 v f=true) (k: ∀i t,f i=true->Q (.int i t)):Q v:=pK h fun hc h=>xa (motive:=fun v=> ∀hc:v.ctorIdx=4,xa (motive:=fun _=>Bool) v hc (fun i _=>f i)=true->Q v) v hc (fun i t _ h=>k i t h) hc h
noncomputable def ak2(v:ah)(f:Str->Bool):Bool:=if h:v.ctorIdx=6 then xe (motive:=fun _=>Bool) v h fun i _=>f i else false
@[elab_as_elim] theorem apG {Q:ah->Prop} {v:ah} {f:Str->Bool} (h:ak2 v f=true) (k: ∀i t,f i=true->Q (.str i t)):Q v:=pK h fun hc h=>xe (motive:=fun v=> ∀hc:v.ctorIdx=6,xe (motive:=fun _=>Bool) v hc (fun i _=>f i)=true->Q v) v hc (fun i t _ h=>k i t h) hc h
noncomputable def acL(v:ah)(f:aC->Bool):Bool:=if h:v.ctorIdx=10 then xc (motive:=fun _=>Bool) v h f else false
@[elab_as_elim] theorem ak1 {Q:ah->Prop} {v:ah} {f:aC->Bool} (h:acL v f=true) (k: ∀i,f i=true->Q (.ref i)):Q v:=pK h fun hc h=>xc (motive:=fun v=> ∀hc:v.ctorIdx=10,xc (motive:=fun _=>Bool) v hc f=true->Q v) v hc (fun i _ h=>k i h) hc h
noncomputable def agg(d:Bj)(f:Array ah->Nat->Bool):Bool:=match d with
 | .seq vs n=>f vs n
 |_=>false
@[elab_as_elim] theorem agh {Q:Bj->Prop} {d:Bj} {f:Array ah->Nat->Bool} (h:agg d f=true) (k: ∀vs n,f vs n=true->Q (.seq vs n)):Q d:=by
 cases d<;>first|exact ff h|exact k _ _ h
noncomputable def Vg(o:Obj)(f:List ah->Bool):Bool:=o.cls== .type "tuple" &&(o.dict.isNone&&(decide (o.slots= #[])&&agg o.data fun vs _=>f vs.toList))
@[elab_as_elim] theorem ah0 {Q:Obj->Prop} {o:Obj} {f:List ah->Bool} (h:Vg o f=true) (k: ∀vs n,f vs=true->Q (tq vs n)):Q o:=by
 cases o with
 |mk c d dt sl=>
  refine aE h fun h1 h=>aE h fun h2 h=>aE h fun h3 h=>agh (Q:=fun dt=>Q ⟨c,d,dt,sl⟩) h fun vs n h=> ?_
  rw[show c=_ from beq_iff_eq.mp h1,show d=none from dG.mp h2,show sl=_ from ag h3]
  exact k vs.toList n h
section
variable{k:Nat}{C:PC}
theorem afg{s:Str}{l:ac}(h:dm s.cps.toList l=true):s=aO l:=by
 obtain⟨⟨m⟩⟩:=s
 rw[kO]at h
 exact congrArg aO (ag h)
mutual
def kV(K:dL)(v:ah)(a:AV):Bool:=match a with
 | .none=>v== .none
 | .opq=>true
 | .bool b=>v== .bool b
 | .int i=>ak0 v fun j=>decide (j=i)
 | .str l=>ak2 v fun s=>dm s.cps.toList l
 | .tup l=>acL v fun x=>CZ (K.lookup x) fun o=>Vg o fun vs=>kVL K vs l
 | .glob w=>v==w
 |_=>false
def kVL(K:dL)(vs:List ah)(l:aa):Bool:=match l with
 |[]=>nl vs true
 |a::l=>hd vs fun v r=>kV K v a&&kVL K r l
end
def ImK(C:PC)(W:Wd):Prop:= ∀x o,C.K.lookup x=some o->W.im x=some o
theorem cC.imK{W:Wd}{σ:AS}{h:bM}(R:cC C W σ h):ImK C W:=fun x o e=>R.base _ _ (C.inK _ _ e)
theorem Jg{α:Type}{P:Prop}{o:Option α}{f:α->Bool}(h:CZ o f=true)(k: ∀a,o=some a->f a=true->P):P:=by
 cases o with
 |some a=>exact k a rfl h
 |none=>exact ff h
mutual
theorem Tf{W:Wd}(hW:ImK C W): ∀{a:AV} {v:ah},kV C.K v a=true->V C W a v
 | .none,v,h=>beq_iff_eq.mp (show(v== .none)=true from h)
 | .opq,v,h=>trivial
 | .bool b,v,h=>beq_iff_eq.mp (show(v== .bool b)=true from h)
 | .int i,v,h=>apF (show ak0 v (fun j=>decide (j=i))=true from h) fun j t h=>⟨t,(ag h)▸rfl⟩
 | .str l,v,h=>apG (show ak2 v (fun s=>dm s.cps.toList l)=true from h) fun j t h=>⟨t,congrArg (fun x=>gu x t) (afg h)⟩
 | .tup l,v,h=>ak1 (show acL v (fun x=>CZ (C.K.lookup x) fun o=>Vg o fun vs=>kVL C.K vs l)=true from h) fun x h=>Jg h fun o ho h=>ah0 (Q:=fun o=>C.K.lookup x=some o->V C W (.tup l) (.ref x)) h (fun vs n h ho=>⟨x,n,vs,rfl,hW _ _ ho,Hq hW h⟩) ho
 | .glob w,v,h=>(beq_iff_eq.mp (show(v==w)=true from h))
 | .unb,v,h=>ff h
 | .bytes _,v,h=>ff h
 | .lst _,v,h=>ff h
 | .frz _ _ _,v,h=>ff h
 | .dct _ _,v,h=>ff h
 | .dcti _ _,v,h=>ff h
 | .rng _ _,v,h=>ff h
 | .ref _,v,h=>ff h
theorem Hq{W:Wd}(hW:ImK C W): ∀{l:aa} {vs:List ah},kVL C.K vs l=true->VL C W l vs
 |[],vs,h=>Jc (show nl vs true=true from h) fun _=>VL.nil
 |a::l,vs,h=>Vd (show hd vs (fun v r=>kV C.K v a&&kVL C.K r l)=true from h) fun v r h=>aE h fun h1 h2=>VL.cons (Tf hW h1) (Hq hW h2)
end
def agl(K:dL)(dfl:aa)(v:ah):Bool:=bu (motive:=fun _=>Bool) (v== .none) (fun _ _ _=>acL v fun x=>CZ (K.lookup x) fun o=>agg o.data fun vs _=>kVL K vs.toList dfl) dfl
theorem ZP{dfl:aa}{v:ah}(h:agl C.K dfl v=true){W:Wd}{σ:AS}{s:az}(R:cC C W σ s.heap): ∃d:Option (Array ah),VL C W dfl (d.getD #[]).toList/\
  ∀(M:lc) (A:b5) (E:ah->az->Prop) (Q:Option (Array ah)->az->Prop),Q d s->wpAny M A (seqItems? v) Q E s:=by
 cases dfl with
 |nil=>exact⟨none,VL.nil,X2 (beq_iff_eq.mp (show(v== .none)=true from h))⟩
 |cons a l=>
  exact ak1 h fun x h=>Jg h fun o ho h=>agh (d:=o.data) (Q:=fun d'=>o.data=d'-> ∃d:Option (Array ah),VL C W (a::l) (d.getD #[]).toList/\ ∀(M:lc) (A:b5) (E:ah->az->Prop) (Q:Option (Array ah)->az->Prop),Q d s->wpAny M A (seqItems? (.ref x)) Q E s) h
   (fun vs n h hd=>⟨some vs,Hq R.imK h,fun M A E Q hq=>wpAny_seqItems (R.K _ _ ho) hd hq⟩) rfl
end
end
end
section
open PySem.SeqAt
noncomputable section
section
variable{k:Nat}{C:PC}
theorem cC.ns{W:Wd}{σ:AS}{h:bM}(R:cC C W σ h):h.Ns mainGlobals C.mg/\h.Ns builtinsNs C.mb:=
 ⟨C.g.keeps fun b o e=>R.im _ _ (R.base _ _ e),C.b.keeps fun b o e=>R.im _ _ (R.base _ _ e)⟩
theorem lV{x:Str}{a:AV}{v:ah}(hm:C.mg x=some v)(hv: ∀W,ImK C W->V C W a v):ni C x a:=fun M A E env W σ s Q hg hb R h=>
 loadGlobal_global (by rw[hg];exact R.ns.1) hm (h v (hv W R.imK))
theorem TN{x:Str}{v:ah}(hm:C.mg x=none)(hn:x≠ "__name__")(hv:bootBuiltins x=some v):ni C x (.glob v):=fun M A E env W σ s Q hg hb R h=>
 loadGlobal_builtin (by rw[hg];exact R.ns.1) hm (by rw[hb];exact R.ns.2) (by rw[C.boot x hn];exact hv) (h v rfl)
theorem eN.under{A:b5}(R:eN A (k+1)){c:aC}{v:List ah}{kw:List (Str×ah)}:eN (A.under (.builtin "type.__call__" ⟨.ref c::v,kw⟩)) k:=by
 have h1:(tB "type.__call__" ⟨.ref c::v,kw⟩).weight=1:=by first|rfl|kernel_rfl
 have h2:(tB "type.__call__" ⟨.ref c::v,kw⟩).cUnits=1:=by first|rfl|kernel_rfl
 have:=R.depth
 have:=R.units
 exact⟨R.handled,by show A.depth+(tB "type.__call__" ⟨.ref c::v,kw⟩).weight +k<_;omega,by show A.units+(tB "type.__call__" ⟨.ref c::v,kw⟩).cUnits +4*k<_;omega⟩
theorem aeM{c fI:aC}{F:aW}(hm:makesIn C.K c=true)(hi:findIn C.K (.ref c) "__init__"=some (some (.ref fI)))(hf:typeIn C.K (.ref fI)=some (.type "function"))(hc:C.cls c=true)(hF:pS C k (.ref fI) F):aF C (k+1) (.ref c) (uu c F):=fun A Rm W σ s args vs R hv tk a ai e=>by
 refine fS (show bD (F (.ref σ.next::args) (σ.alloc (.inst c [] []))) _=_ from e) fun xG ay q e=> ?_
 revert q
 refine Cp (Q:=fun xG=>F (.ref σ.next::args) (σ.alloc (.inst c [] []))=some (xG,ay)->_) e fun e q=> ?_
 apply s2 e
 ·refine oP ?_
  obtain⟨hh,g,d,t,os⟩:=s
  have X:=R.K
  refine make_core (makes_of X hm) (tQ X hi) (fun self=>bind_fn X self hf) (.inl rfl) ?_
  have k1: ∀b o,hh.get? b=some o->((hh.push emptyDict).push (instObj c hh.objs.size)).get? b=some o:=fun b o e=>bH _ (bH _ e)
  have gd:((hh.push emptyDict).push (instObj c hh.objs.size)).get? hh.objs.size=some (dictOf [] 0):=bH _ (bp _ rfl)
  have gx:((hh.push emptyDict).push (instObj c hh.objs.size)).get? (hh.objs.size+1)=some (instObj c hh.objs.size):=by
   have:=bp (hh.push emptyDict) (o:=instObj c hh.objs.size) rfl
   rwa[pY]at this
  have R1:cC C W σ ((hh.push emptyDict).push (instObj c hh.objs.size)):=R.keeps k1
  have R2:=R1.addIm (x:=hh.objs.size+1) gx (R.pr_new (cR _)) (R.cell_new (cR _))
  have le1:W.le (W.addIm (hh.objs.size+1) (instObj c hh.objs.size)):=Wd.le_addIm fun o' e=>by rw[R.im_new (cR _)]at e;cases e
  have le2:(W.addIm (hh.objs.size+1) (instObj c hh.objs.size)).le ((W.addIm (hh.objs.size+1) (instObj c hh.objs.size)).addId σ.next (hh.objs.size+1,hh.objs.size)):=Wd.le_addId (R2.fresh _ (ax _))
  have R3:=R2.alloc (c:=.inst c [] []) (p:=(hh.objs.size+1,hh.objs.size)) ⟨hc,kP,[],0,[],gd,VL.nil,trivial⟩
   (by
    show(if hh.objs.size=hh.objs.size+1 then _ else W.im hh.objs.size)=none
    rw[if_neg (ct (bT _))];exact R.im_new (ax _)) (R.pr_new (ax _)) (R.cell_new (ax _))
  have hv':=VL.cons (rb (C:=C) (W:=W.addIm (hh.objs.size+1) (instObj c hh.objs.size)) (n:=σ.next) (p:=(hh.objs.size+1,hh.objs.size))) (hv.mono (le1.trans le2))
  refine Oe (hF _ Rm.under _ _ ⟨(hh.push emptyDict).push (instObj c hh.objs.size),g,d,t,os⟩ _ _ R3 hv' tk _ _ q) fun r s' z=> ?_
  match r,z with
  | .ok (.ret v),z=>
   obtain⟨⟨sw,akV,hs,aou⟩,W',l',R',hq⟩:=z
   obtain rfl:v= .none:=hq
   exact⟨rfl,⟨sw,akV,hs,aou⟩,W',(le1.trans le2).trans l',R',_,l'.1 _ _ (if_pos rfl),rfl⟩
  | .error e,z=>exact z.elim
end
end
end
section
open PySem.SeqAt
noncomputable section
section
variable{k:Nat}{C:PC}
theorem aF.le{k':Nat}{f:ah}{F:aW}(h:aF C k f F)(hk:k<=k'):aF C k' f F:=fun A R=>h A (R.le hk)
theorem d7.le{k':Nat}{x:Str}{D:gR}(h:d7 C k x D)(hk:k<=k'):d7 C k' x D:=fun W σ hh a v F R hv e=>let⟨f,h1,h2,h3⟩:=h W σ hh a v F R hv e;⟨f,h1,h2,h3.le hk⟩
theorem du{x:Str}:d7 C k x gP:=fun W σ h a v F R hv e=>by cases e
theorem Ti{x:Str}{ks:ac}{vs:List ah}{es:List ia}(hx: ∀i∈ks,i<C.nf->C.fname i≠x)(q:oV C ks vs es):getL x es=some none:=by
 have h1:es.find? (·.key.isStr x)=none:=by
  rw[List.find?_eq_none]
  intro e he
  induction es generalizing ks vs with
  |nil=>cases he
  |cons en es ih=>
   cases ks with
   |nil=>cases vs<;>exact T3 q
   |cons kk ks=>cases vs with
    |nil=>exact T3 q
    |cons v vs=>
     obtain⟨hk,⟨t,ht⟩,_,q⟩:=q
     rcases aG.mp he with rfl|he
     ·rw[ht];simp[kM,hx kk (bf ..) hk]
     ·exact ih (fun i hi=>hx i (aQ _ hi)) q he
 unfold getL
 rw[h1,if_neg]
 intro h
 obtain⟨e,he,h⟩:=kh.mp h
 rw[(Hr q).1 e he]at h;cases h
theorem ZE{W:Wd}{σ:AS}{h:bM}(R:cC C W σ h){c:Nat}(hcl:C.cls c=true){a:AV}{v:ah}(hv:V C W a v)(hd:FM a σ=some c): ∃ks fs,On C W h v c ks fs:=by
 cases a with
 |frz d ks fs=>cases hd;exact⟨ks,fs,SZ R hv⟩
 |ref y=>
  refine oE (show ob (σ.get y) Xa=some c from hd) fun cc hc hd=> ?_
  cases cc with
  |inst d ks fs=>cases hd;exact⟨ks,fs,TB R hc hv⟩
  |orc d l=>cases hd;exact ajs R hc hcl hv
  |_=>exact nn hd
 |_=>exact nn hd
theorem aeJ{x:Str}{c f:aC}{F:aW}{G:gR}(hcl:C.cls c=true)(hx: ∀i,i<C.nf->C.fname i≠x)(hg:plainGet C.K c x=true)(hf:findIn C.K (.ref c) x=some (some (.ref f)))(ht:typeIn C.K (.ref f)=some (.type "function"))(hk:keepIn C.K (.ref f)=true)
  (hF:aF C k (.ref f) F)(hG:d7 C k x G):d7 C k x (fm c F G):=fun W σ h a v F' R hv e=>by
 refine oE (show ob (FM a σ) _=_ from e) fun d hd e=>bE e (fun z e=> ?_) fun z e=>hG W σ h _ v F' R hv e
 apply s1 e
 have z:c=d:=aD z
 obtain⟨ks,fs,I⟩:=ZE R hcl hv (z▸hd)
 obtain⟨y,d,es,n,vs,hy,q0,q1,q2,r,z⟩:=I.at_
 refine⟨.ref f,fun A s pl E Q hs hq=> ?_,rk hk,hF⟩
 subst hs;subst hy
 exact method_fn R.K (I:=(⟨q1,rfl,rfl,q2⟩:InstAt s.heap y (instObj c d) c (some (dictOf es n)))) (qC hg).1 (qC hg).2 hf ht (by show(lookIn x (dictOf es n)).map _=_;rw[lookIn_dict,Ti (fun i _=>hx i) z];rfl) hq
end
end
end
section
open PySem.SeqAt
noncomputable section
section
variable{k:Nat}{C:PC}{W:Wd}{σ:AS}{s:az}{h':bM}
def Sm0(s s':az):Prop:= ∃h t,s'={s with heap:=h,toks:=t}
def rL(C:PC)(W:Wd)(ai:AS)(a:AV)(s:az)(v:ah)(s':az):Prop:=Sm0 s s'/\ ∃W',W.le W'/\cC C W' ai s'.heap/\V C W' a v
theorem Jy{f:ah}{F:aW}(h: ∀A,eN A k-> ∀W σ s args vs,cC C W σ s.heap->VL C W args vs->1<=s.toks-> ∀a ai,F args σ=some (a,ai)->wpAny (dH C) A (call f vs) (rL C W ai a s) dw s):aF C k f F:=
 fun A R W σ s args vs Re hv tk a ai e=>V2 (ax s.toks) (eC (h A R W σ s args vs Re hv tk a ai e) fun v s' ⟨⟨h',t',q⟩,z⟩ ht=>⟨⟨h',t',q,by rw[q]at ht;exact ht⟩,z⟩)
theorem cC.same(R:cC C W σ s.heap){a:AV}{v:ah}(q:V C W a v)(t:Nat):rL C W σ a s v {s with toks:=t}:=⟨⟨s.heap,t,rfl⟩,W,.refl _,R,q⟩
theorem cC.grown(R:cC C W σ s.heap){a:AV}{v:ah}(q:V C W a v)(hk: ∀b o,s.heap.get? b=some o->h'.get? b=some o)(t:Nat):rL C W σ a s v {s with heap:=h',toks:=t}:=⟨⟨h',t,rfl⟩,W,.refl _,R.keeps hk,q⟩
theorem cC.free(R:cC C W σ s.heap){x:aC}(hx:s.heap.get? x=none):W.im x=none/\W.pr x=none/\sZ W σ x:=by
 refine⟨?_,?_,fun a cc p e e' q=> ?_⟩
 ·cases e:W.im x with
  |none=>rfl
  |some o=>have:=R.im _ _ e;rw[hx]at this;cases this
 ·cases e:W.pr x with
  |none=>rfl
  |some o=>have:=R.pr _ _ e;rw[hx]at this;cases this
 ·obtain⟨p',a1,a2,_⟩:=R.cell a cc e
  rw[e']at a1;cases a1
  obtain⟨o,ho⟩:=a2.some
  rw[q,hx]at ho;cases ho
theorem tx(h:bM):h.get? h.objs.size=none:=by
 cases e:h.get? h.objs.size with
 |none=>rfl
 |some o=>exact absurd (cv e) (zM _)
theorem cC.newIm(R:cC C W σ s.heap)(a:AV){x:aC}{o:Obj}(hk: ∀b o,s.heap.get? b=some o->h'.get? b=some o)(hx:s.heap.get? x=none)(ho:h'.get? x=some o)(q: ∀W',W.le W'->W'.im x=some o->V C W' a (.ref x))(t:Nat):rL C W σ a s (.ref x) {s with heap:=h',toks:=t}:=by
 obtain⟨f1,f2,f3⟩:=R.free hx
 have R':=(R.keeps hk).addIm ho f2 f3
 have le:W.le (W.addIm x o):=Wd.le_addIm fun o' e=>by rw[f1]at e;cases e
 exact⟨⟨h',t,rfl⟩,_,le,R',q _ le kP⟩
theorem cC.newLst(R:cC C W σ s.heap){l:aa}{vs:List ah}{n:Nat}{x:aC}(hk: ∀b o,s.heap.get? b=some o->h'.get? b=some o)(hx:s.heap.get? x=none)(ho:h'.get? x=some (dy vs n))(q:VL C W l vs)(t:Nat):
  rL C W (σ.alloc (.lst l)) (.ref σ.next) s (.ref x) {s with heap:=h',toks:=t}:=by
 obtain⟨f1,f2,f3⟩:=R.free hx
 have le:W.le (W.addId σ.next (x,x)):=Wd.le_addId (R.fresh _ (ax _))
 exact⟨⟨h',t,rfl⟩,_,le,(R.keeps hk).alloc (p:=(x,x)) ⟨rfl,vs,n,ho,q.mono le⟩ f1 f2 f3,rb⟩
theorem Co{i:Int}{t:Tok}:V C W (.int i) (.int i t):=⟨t,rfl⟩
theorem G3{l:ac}{t:Tok}:V C W (.str l) (.str (aO l) t):=⟨t,rfl⟩
theorem K9{f:ah}:aF C k f Uq:=Jy fun A R W σ s args vs Re hv tk a ai e=>by cases e
theorem aaE{n:Nat}(h:dC n=true):(n:Int)<2^63:=by
 have:=jQ h
 omega
@[elab_as_elim] theorem UO {β:Type} {Q:List AV->Prop} {l:aa} {f:AV->Option β} {r:β} (h:re l f=some r) (kk: ∀a,f a=some r->Q [a]):Q l:=by
 cases l with
 |nil=>exact nn h
 |cons a l=>cases l with
  |nil=>exact kk a h
  |cons b l=>exact nn h
@[elab_as_elim] theorem KA {β:Type} {Q:List AV->Prop} {l:aa} {f:AV->AV->Option β} {r:β} (h:vK l f=some r) (kk: ∀a b,f a b=some r->Q [a,b]):Q l:=by
 cases l with
 |nil=>exact nn h
 |cons a l=>exact UO (Q:=fun l=>Q (a::l)) h fun b h=>kk a b h
@[elab_as_elim] theorem Zs {β:Type} {Q:List AV->Prop} {l:aa} {f:AV->AV->AV->Option β} {r:β} (h:WX l f=some r) (kk: ∀a b c,f a b c=some r->Q [a,b,c]):Q l:=by
 cases l with
 |nil=>exact nn h
 |cons a l=>exact KA (Q:=fun l=>Q (a::l)) h fun b c h=>kk a b c h
theorem sd{f:ah}{G:AS->AV->Option (AV×AS)}(h: ∀A,eN A k-> ∀W σ s a v,cC C W σ s.heap->V C W a v->1<=s.toks-> ∀r ai,G σ a=some (r,ai)->wpAny (dH C) A (call f [v]) (rL C W ai r s) dw s):aF C k f (fun args σ=>re args (G σ)):=
 Jy fun A R W σ s args vs Re hv tk r ai e=>UO (Q:=fun args=>VL C W args vs->_) e (fun a e hv=>hv.consE fun v l q hv=>hv.nilE (h A R W σ s a v Re q tk r ai e)) hv
theorem HE{f:ah}{G:AS->AV->AV->Option (AV×AS)}(h: ∀A,eN A k-> ∀W σ s a b v w,cC C W σ s.heap->V C W a v->V C W b w->1<=s.toks-> ∀r ai,G σ a b=some (r,ai)->wpAny (dH C) A (call f [v,w]) (rL C W ai r s) dw s):aF C k f (fun args σ=>vK args (G σ)):=
 Jy fun A R W σ s args vs Re hv tk r ai e=>KA (Q:=fun args=>VL C W args vs->_) e (fun a b e hv=>hv.consE fun v l q hv=>hv.consE fun w l q' hv=>hv.nilE (h A R W σ s a b v w Re q q' tk r ai e)) hv
theorem apy{f:ah}{G:AS->AV->AV->AV->Option (AV×AS)}(h: ∀A,eN A k-> ∀W σ s a b d v w u,cC C W σ s.heap->V C W a v->V C W b w->V C W d u->1<=s.toks-> ∀r ai,G σ a b d=some (r,ai)->wpAny (dH C) A (call f [v,w,u]) (rL C W ai r s) dw s):aF C k f (fun args σ=>WX args (G σ)):=
 Jy fun A R W σ s args vs Re hv tk r ai e=>Zs (Q:=fun args=>VL C W args vs->_) e (fun a b d e hv=>hv.consE fun v l q hv=>hv.consE fun w l q' hv=>hv.consE fun u l q'' hv=>hv.nilE (h A R W σ s a b d v w u Re q q' q'' tk r ai e)) hv
theorem al8{P:Prop}{a:AV}{p:AV×AS}(h:anq σ a=some p)(k1: ∀s,a= .str s->(bif dC (eY s)then some (AV.int (am (eY s)),σ)else none)=some p->P)(k2:(ob (nC σ a) fun l=>bif dC (eY l)then some (AV.int (am (eY l)),σ)else none)=some p->P):P:=by
 cases a with
 |str s=>exact k1 s rfl h
 |_=>exact k2 h
theorem eM:aF C k (.builtin "len") eV:=sd fun A R W σ s a v Re q tk r ai e=>al8 e (fun x ha e=>kS e fun z e=>by
  rw[ip]at z e
  apply s2 e
  rw[ha]at q
  refine q.strE fun t=>Uc (by rw[bO];exact Int.not_le.mpr (aaE z)) ?_
  rw[bO]
  exact Re.same Co _) fun e=>oE e fun l hl e=>kS e fun z e=>by
  rw[ip]at z e
  apply s2 e
  refine Ho Re hl q fun x ws hw hx=> ?_
  have h3:ws.toArray.size=l.length:=by rw[aZ];exact hw.length
  rcases hx with hx|hx
  ·refine Ny hx (by rw[h3];exact aaE z) ?_
   rw[h3];exact Re.same Co _
  ·refine Rh hx (by rw[h3];exact aaE z) ?_
   rw[h3];exact Re.same Co _
theorem QB{n:Nat}(z:bz n 100000=true):n<2^20:=fe (dh.mp z) (by decide)
theorem VN:aF C k (.type "range") Sj:=sd fun A R W σ s a v Re q tk r ai e=>ml (Q:=fun a=>V C W a v->_) e (fun n e q=>q.intE fun t=>kS e fun z e=>by
  apply s2 e
  exact call_range_1 (Re.newIm (.rng 0 n) (eA _ _) (tx _) (bp _ rfl) (fun W' _ e=>⟨_,_,_,_,rfl,e,by decide,QB z⟩) _)) q
theorem VO:aF C k (.type "range") Sk:=HE fun A R W σ s a b v w Re q q' tk r ai e=>ml (Q:=fun a=>V C W a v->_) e (fun n e q=>ml (Q:=fun b=>V C W b w->_) e (fun m e q'=>q.intE fun t=>q'.intE fun u=>kS e fun z e=>aE z fun z1 z2=>by
  apply s2 e
  exact call_range_2 (Re.newIm (.rng n m) (eA _ _) (tx _) (bp _ rfl) (fun W' _ e=>⟨_,_,_,_,rfl,e,QB z1,QB z2⟩) _)) q') q
theorem wc:aF C k (.type "range") lE:=fun A Rm W σ s args vs R hv tk a ai e=>bE e (fun _ e=>VN A Rm W σ s args vs R hv tk a ai e) fun _ e=>VO A Rm W σ s args vs R hv tk a ai e
theorem al6{Q:AV->Prop}{a:AV}(h:CJ a=true)(kk: ∀l,Q (.tup l)):Q a:=by
 cases a<;>first|exact ff h|exact kk _
theorem oy:aF C k (.type "tuple") fi:=sd fun A R W σ s a v Re q tk r ai e=>bE e (fun z e=>s2 (P:=fun r ai=>wpAny (dH C) A (call (.type "tuple") [v]) (rL C W ai r s) dw s) e (al6 (Q:=fun a=>V C W a v->wpAny (dH C) A (call (.type "tuple") [v]) (rL C W σ a s) dw s) z (fun l q=>by
  exact V.tupE (Q:=fun v=>V C W (.tup l) v->wpAny (dH C) A (call (.type "tuple") [v]) (rL C W σ (.tup l) s) dw s) q (fun x n ws h1 h2 q'=>call_tuple_same (items:=ws.toArray) ⟨_,Re.im _ _ h1,rfl,n,rfl⟩ (Re.same q' _)) q) q)) fun _ e=>oE e fun l hl e=>kS e fun z e=>by
  apply s2 e
  refine nk Re hl q fun x n ws hx hw=> ?_
  refine call_tuple_list (lP hx) (fun h' hk=> ?_) (by rw[aZ,hw.length];exact iZ z)
  refine Re.newIm (s:=s) (.tup l) (h':=h'.push {cls:=.type "tuple",data:=.seq ws.toArray}) (o:=tq ws 0) (fun b o e=>eA _ _ _ _ (hk b o e)) (by
    cases e:s.heap.get? h'.objs.size with
    |none=>rfl
    |some o=>exact absurd (cv (hk _ _ e)) (zM _)) (bp _ rfl) (fun W' le e=>⟨_,0,ws,rfl,e,hw.mono le⟩) _
theorem aaV:aF C k (.type "list") abv:=sd fun A R W σ s a v Re q tk r ai e=>oE e fun l hl e=>kS e fun z e=>by
  apply s2 e
  refine Hp Re hl q fun x n ws hw hx=> ?_
  have h2:ws.toArray.size<=sizeLine:=by rw[aZ,hw.length];exact iZ z
  rcases hx with hx|hx
  ·exact MG x (.inl rfl) hx rfl rfl (fun h' c' hk ho=>Re.newLst hk (tx _) ho hw _) h2
  ·exact MG x (.inr rfl) hx rfl rfl (fun h' c' hk ho=>Re.newLst hk (tx _) ho hw _) h2
theorem alp{i:Int}:(if i<0 then-i else i)=am i.natAbs:=by
 cases i with
 |ofNat n=>exact if_neg (sR.mpr (dq n))
 |negSucc n=>exact if_pos (pO n)
theorem TJ:aF C k (.builtin "abs") Za:=sd fun A R W σ s a v Re q tk r ai e=>lq (Q:=fun a=>V C W a v->_) e (fun i e q=>q.intE fun t=>by
  apply s2 e
  refine call_abs_int fun u tk=> ?_
  rw[alp];exact Re.same Co _) q
theorem alt{n:Nat}(z:bz n 0xD800=true):(decide ((n:Int)<0)||decide ((n:Int)>1114111))=false:=by
 have:=dh.mp z
 rw[decide_eq_false (by omega),decide_eq_false (by omega)];rfl
theorem TK:aF C k (.builtin "chr") Zb:=sd fun A R W σ s a v Re q tk r ai e=>ml (Q:=fun a=>V C W a v->_) e (fun n e q=>q.intE fun t=>kS e fun z e=>by
  apply s2 e
  exact PySem.P.chr_of_int (alt z) (Re.same (G3 (l:=[n])) _)) q
@[elab_as_elim] theorem W0 {β:Type} {Q:AV->Prop} {a:AV} {f:Nat->Option β} {r:β} (h:UP a f=some r) (kk: ∀c,f c=some r->Q (.str [c])):Q a:=fU h fun s h=>by
 cases s with
 |nil=>exact nn h
 |cons c l=>cases l with
  |nil=>exact kk c h
  |cons=>exact nn h
@[elab_as_elim] theorem O7 {β:Type} {Q:AV->Prop} {a:AV} {f:Nat->List Nat->Option β} {r:β} (h:NE a f=some r) (kk: ∀c l,f c l=some r->Q (.str (c::l))):Q a:=fU h fun s h=>by
 cases s with
 |nil=>exact nn h
 |cons c l=>exact kk c l h
theorem TL:aF C k (.builtin "ord") Zc:=sd fun A R W σ s a v Re q tk r ai e=>W0 (Q:=fun a=>V C W a v->_) e (fun i e q=>q.strE fun t=>by
  apply s2 e
  exact PySem.P.ord_of_char (Re.same Co _)) q
theorem amj{i j:Int}{t u:Tok}:(if j<i then Br j u else .int i t)= .int (bif CS j i then j else i) (if j<i then u else t):=by
 rw[xV]
 by_cases q:j<i
 ·rw[if_pos q,if_pos q,decide_eq_true q];rfl
 ·rw[if_neg q,if_neg q,decide_eq_false q];rfl
theorem aeP:aF C k (.builtin "min") Ur:=HE fun A R W σ s a b v w Re q q' tk r ai e=>lq (Q:=fun a=>V C W a v->_) e (fun i e q=>lq (Q:=fun b=>V C W b w->_) e (fun j e q'=>q.intE fun t=>q'.intE fun u=>by
  apply s2 e
  refine min_two_ints R.handled fun h' tk hk=> ?_
  rw[amj];exact Re.grown Co hk _) q') q
theorem VK:aF C k (.builtin "list.append") gv:=HE fun A R W σ s a b v w Re q q' tk r ai e=>iA (Q:=fun a=>V C W a v->_) e (fun x e q=>lstE e fun l hg e=>kS e fun z e=>by
  apply s2 e
  refine Re.lstE hg q fun p us n q1 q0 q2 r=> ?_
  refine vc (items:=us.toArray) ⟨n,q2⟩ (fun h' hp hs=> ?_) (by rw[aZ,r.length];exact iZ z)
  obtain⟨n',hg'⟩:=hp
  rw[EX]at hg'
  exact⟨⟨h',s.toks,rfl⟩,W,.refl _,Re.set (c:=.lst _) hg q1 (fun b o hb e=>hs.extBut b o (q0▸hb) e) ⟨q0,_,_,q0▸hg',r.append (VL.one q')⟩,rfl⟩) q
end
end
end
section
open PySem.SeqAt
noncomputable section
section
variable{k:Nat}{C:PC}{W:Wd}{σ:AS}{s:az}{h':bM}
theorem TY{h:bM}{l:aC}{vs ws:List ah}{n:Nat}{f:Array ah->Array ah}(hl:h.get? l=some (dy vs n))(hf:f vs.toArray=ws.toArray): ∃n',(h.update l (H5 f)).get? l=some (dy ws n'):=by
 have q:=Y8 (h:=h) (l:=l) (items:=vs.toArray) (n:=n) hl f
 rw[hf]at q
 exact⟨_,q⟩
theorem VL.last{l:aa}{us:List ah}{y:AV}(q:VL C W l us)(h:l.getLast?=some y): ∃v,us=us.dropLast++[v]/\V C W y v/\VL C W l.dropLast us.dropLast:=by
 have hne:l≠[]:=by rintro rfl;cases h
 have hl:0<l.length:=List.length_pos_iff.mpr hne
 rw[sT]at h
 obtain⟨v,e,q'⟩:=q.get h
 have hu:=q.length
 refine⟨v,?_,q',?_⟩
 ·have hne':us≠[]:=by rintro rfl;simp at hu;omega
  have e2:us.getLast hne'=v:=by
   have:us.getLast?=some v:=by rw[sT,hu];exact e
   rw[List.getLast?_eq_some_getLast hne']at this;exact aH this
  rw[<- e2];exact(List.dropLast_concat_getLast hne').symm
 ·rw[w6,w6,hu];exact q.take _
theorem aiL{A:b5}{x:aC}{us:List ah}{v:ah}{n:Nat}{Q:ah->az->Prop}(e1:us=us.dropLast++[v])(g:s.heap.get? x=some (dy us n))(hz:us.length<=sizeLine)
  (h: ∀h' n',h'.get? x=some (dy us.dropLast n')->i7 x s.heap h'->Q v {s with heap:=h'}):wpAny (dH C) A (call (.builtin "list.pop") [.ref x]) Q dw s:=by
 have hk:us.toArray.size-1=us.dropLast.length:=by rw[aZ,List.length_dropLast]
 have hy':us.toArray[us.toArray.size-1]? =some v:=by
  rw[hk]
  have:us[us.dropLast.length]? =some v:=(congrArg (fun z:List ah=>z[us.dropLast.length]?) e1).trans (by rw[List.getElem?_concat_length])
  rw[jU];exact this
 obtain⟨n',hg'⟩:=TY (ws:=us.dropLast) (f:=fun x=>x.eraseIdxIfInBounds (us.toArray.size-1)) g (by
  show us.toArray.eraseIdxIfInBounds (us.toArray.size-1)=us.dropLast.toArray
  rw[hk]
  have key:(us.dropLast++[v]).toArray.eraseIdxIfInBounds us.dropLast.length=us.dropLast.toArray:=by rw[kl_erase,aR]
  exact(congrArg (fun z:List ah=>z.toArray.eraseIdxIfInBounds us.dropLast.length) e1).trans key)
 exact ma PySem.F.slot_list_pop ⟨_,g,rfl⟩ PySem.F.entry_list_pop (PySem.F.args_list_pop_1 _) (Ka x _ n v hy' (by rw[aZ];exact hz)) ⟨g,h _ _ hg' (ji ..)⟩
theorem aeQ:aF C k (.builtin "list.pop") Zd:=sd fun A R W σ s a v Re q tk r ai e=>iA (Q:=fun a=>V C W a v->_) e (fun x e q=>lstE e fun l hg e=>oE e fun y hy e=>kS e fun z e=>by
  apply s2 e
  refine Re.lstE hg q fun p us n q1 q0 q2 r=> ?_
  obtain⟨v,e1,h1,h2⟩:=r.last hy
  exact aiL e1 q2 (by rw[r.length];exact iZ z) fun h' n' hg' hs=>⟨⟨_,_,rfl⟩,W,.refl _,Re.set (c:=.lst _) hg q1 (fun b o hb e=>hs.extBut b o (q0▸hb) e) ⟨q0,_,_,q0▸hg',h2⟩,h1⟩) q
theorem Xx{A:b5}{E:ah->az->Prop}{x y:aC}{us ws:List ah}{n n2:Nat}{Q:ah->az->Prop}(hx:s.heap.get? x=some (dy us n))(hy:s.heap.get? y=some (dy ws n2))(hz:us.length+ws.length<=4000000)
  (h: ∀h' n',h'.get? x=some (dy (us++ws) n')->i7 x s.heap h'->Q .none {s with heap:=h'}):wpAny (dH C) A (call (.builtin "list.extend") [.ref x,.ref y]) Q E s:=by
 obtain⟨n',hg'⟩:=TY (ws:=us++ws) (f:=fun x=>x++ws.toArray) hx (by simp)
 refine ma PySem.F.slot_list_extend ⟨_,hx,rfl⟩ PySem.F.entry_list_extend (PySem.F.args_list_extend_2 _ _) (Bd x us.toArray n y ws.toArray n2 ?_ ?_ ?_) ⟨hx,hy,h _ _ hg' (ji ..)⟩
 ·unfold i6
  simp only[aZ,jE]
  have: ¬us.length+ws.length>16777216:=by omega
  simp[this]
 ·rw[aZ,jE];omega
 ·rw[aZ,aZ,jE];omega
theorem Xy(Re:cC C W σ s.heap){x:Nat}{l m:aa}{p:aC×aC}{us ws:List ah}{h':bM}{n':Nat}(h1:σ.get x=some (.lst l))(q1:W.ρ x=some p)(q0:p.1=p.2)(r:VL C W l us)(r2:VL C W m ws)(hg':h'.get? p.1=some (dy (us++ws) n'))(hs:i7 p.1 s.heap h'):
  rL C W (σ.set x (.lst (l++m))) .none s .none {s with heap:=h'}:=⟨⟨h',s.toks,rfl⟩,W,.refl _,Re.set (c:=.lst _) h1 q1 (fun b o hb e=>hs.extBut b o (q0▸hb) e) ⟨q0,_,_,q0▸hg',r.append r2⟩,rfl⟩
theorem alB{x:Nat}{b:AV}{m:aa}{Q:AV->Prop}(e:ahi σ x b=some m)(k1: ∀y,σ.get y=some (.lst m)->Q (.ref y))(k2:Q (.lst m)):Q b:=by
 cases b with
 |ref y=>exact kN e fun _ e=>lstE e fun l hg e=>by cases e;exact k1 y hg
 |lst l=>cases e;exact k2
 |_=>exact nn e
theorem VM:aF C k (.builtin "list.extend") f8:=HE fun A R W σ s a b v w Re q q' tk r ai e=>iA (Q:=fun a=>V C W a v->_) e (fun x e q=>oE e fun m hm e=>lstE e fun l h1 e=>kS e fun z e=>by
  apply s2 e
  refine Re.lstE h1 q fun p us n q1 q0 g r=> ?_
  have hz: ∀{ws:List ah},VL C W m ws->us.length+ws.length<=4000000:=fun r2=>by rw[r.length,r2.length];exact jQ z
  exact alB (Q:=fun b=>V C W b w->_) hm (fun y h2 q'=>Re.lstE h2 q' fun p2 ws n2 _ _ g2 r2=>Xx g g2 (hz r2) fun h' n' hg' hs=>Xy Re h1 q1 q0 r r2 hg' hs)
   (fun q'=>q'.lstE fun y n2 ws g2 r2=>Xx g (Re.im _ _ g2) (hz r2) fun h' n' hg' hs=>Xy Re h1 q1 q0 r r2 hg' hs) q') q
theorem Xk: ∀n:Fin 128,(lD (toString (am n.val))).cps.toList=Pq n.val:=by decide +kernel
theorem aa5{n:Nat}(hn:n<128):(am n).natAbs.log2 <1920:=by
 by_cases q:n=0
 ·subst q;decide
 ·exact(Fq q).mpr (show n<2^1920 from fe hn (au (show 128<=2^10 by decide) (iU (by decide) (by decide))))
theorem YO{n:Nat}(hn:n<128):lD (toString (am n))=aO (Pq n):=congrArg (fun l:List Nat=>(⟨l.toArray⟩:Str)) (Xk ⟨n,hn⟩)
theorem Lc:aF C k (.type "str") Us:=sd fun A R W σ s a v Re q tk r ai e=>ml (Q:=fun a=>V C W a v->_) e (fun n e q=>q.intE fun t=>kS e fun z e=>by
  apply s2 e
  refine PySem.P.str_of_int (aa5 (dh.mp z)) ?_
  rw[YO (dh.mp z)]
  exact Re.same G3 _) q
theorem RM{n:Nat}{ns:List Int}{l:List UInt8}(h3:byteArr ns=l.toArray):byteArr (am n::ns)=(Rk n::l).toArray:=by
 have h3:ns.map (fun n=>n.toNat.toUInt8)=l:=congrArg NY h3
 rw[<- h3];rfl
theorem Yi{l:aa}: ∀{b:List UInt8},aaC l=some b-> ∀{vs:List ah},VL C W l vs->(∃ns:List Int,IntsAre vs ns/\(∀n∈ns,0<=n/\n<256)/\byteArr ns=b.toArray)/\b.length=l.length:=by
 induction l with
 |nil=>exact fun e vs q=>s1 (P:=fun b=>(∃ns:List Int,IntsAre vs ns/\(∀n∈ns,0<=n/\n<256)/\byteArr ns=b.toArray)/\b.length=0) e (q.nilE ⟨⟨[],.nil,fun _ h=>absurd h bg,rfl⟩,rfl⟩)
 |cons a r ih=>exact fun{b} e vs q=>q.consE fun v us q1 q2=>ml (Q:=fun a=>V C W a v->_) e (fun n e q1=>kS e fun z e=>oE e fun l hl e=>q1.intE fun t=>by
   apply s1 e
   obtain⟨⟨ns,h1,h2,h3⟩,h4⟩:=ih hl q2
   refine⟨⟨am n::ns,.cons _ _ h1,fun m hm=>(aG.mp hm).elim (fun e=>e▸⟨dq n,ib.mpr (dh.mp z)⟩) (h2 m),RM h3⟩,congrArg nM h4⟩) q1
theorem YD:aF C k (.type "bytes") Wk:=sd fun A R W σ s a v Re q tk r ai e=>oE e fun l hl e=>oE e fun b hb e=>kS e fun z e=>by
  apply s2 e
  refine nk Re hl q fun x n ws hx hw=> ?_
  obtain⟨⟨ns,h1,h2,h3⟩,h5⟩:=Yi hb hw
  refine call_bytes_ints (lP hx) h1 h2 (by rw[hw.length,<- h5];exact iZ z) R.handled fun h' t kk hk=> ?_
  rw[h3]
  exact Re.grown (show V C W (.bytes b) (.bytes b.toArray t) from⟨t,rfl⟩) hk _
end
end
end
section
open PySem.SeqAt
noncomputable section
section
variable{k:Nat}{C:PC}{W:Wd}{σ:AS}{s:az}{h':bM}
noncomputable def zE(sep:ac):List (List Nat)->List Nat
 |[]=>[]
 |b::r=>sep++b++zE sep r
theorem I3(sep:ac): ∀(a:ac) (r:List (List Nat)),lr sep (a::r)=a++zE sep r
 |a,[]=>by simp[lr,zE]
 |a,b::r=>by
  rw[lr,I3 sep b r,zE]
  ·simp
  ·simp
theorem PK(sep:ac): ∀(r:List (List Nat)) (acc:ac),(r.map aO).foldl (fun acc p=>acc++(aO sep).cps++p.cps) acc.toArray=(acc++zE sep r).toArray
 |[],acc=>by simp[zE]
 |b::r,acc=>by
  rw[bh,HY]
  have:acc.toArray++(aO sep).cps++(aO b).cps=(acc++sep++b).toArray:=by simp[aO]
  rw[this,PK sep r,zE]
  simp
theorem Ev(sep:ac)(l:List (List Nat)):Oc (aO sep) (l.map aO)=aO (lr sep l):=by
 unfold Oc Y3
 cases l with
 |nil=>rfl
 |cons a r=>
  rw[I3]
  show(⟨(r.map aO).foldl _ (aO a).cps⟩:Str)=_
  have:=PK sep r a
  unfold aO at this ⊢
  rw[this]
theorem QJ: ∀(ss:List (List Nat)) (ts:List Tok),ts.length=ss.length->Sg ((ss.zip ts).map fun p=>.str (aO p.1) p.2) (ss.map aO)
 |[],_,_=>.nil
 |a::ss,t::ts,h=>.cons _ _ (QJ ss ts (by simpa using h))
 |_::_,[],h=>by simp at h
theorem Te(sep:ac): ∀l:List (List Nat),((l.map aO).map (·.length)).sum <=(lr sep l).length
 |[]=>by simp
 |[a]=>by simp[lr,bO]
 |a::b::r=>by
  have:=Te sep (b::r)
  rw[lr]
  ·simp only[bh,List.sum_cons,ao,bO]at this ⊢;omega
  ·simp
end
end
end
section
open PySem.SeqAt
open Builtin Builtin.Str
noncomputable section
theorem aeg:typeLookup (.type "dict_keyiterator") "__len__"=pure none:=by rw[Ia,xf];kernel_rfl
theorem ahR:typeLookup (.type "dict_keyiterator") "__length_hint__"=pure (some (.builtin "dict_keyiterator.__length_hint__")):=by rw[Ia,xf];kernel_rfl
section
variable{prog:fZ}{w:d4}{A:b5}{E:ah->az->Prop}{s:az}{I:aC}{fp wr:List aC}{G:Array yH->Array yH->Prop}{n:Nat}{P:Nat->ah->Prop}{St:Nat->az->Prop}
theorem RO{Q:List ah->az->Prop}(W:WalksS prog w A.in1 I fp wr G n P St)(hT: ∀i s,St i s->s.TypeIs (.ref I) "dict_keyiterator")(hst:St 0 s)(hfp: ∀b∈fp,b<s.heap.objs.size)(hI:I∈fp)
  (hQ: ∀s' acc,Moved wr G s s'->ItemsOf P acc n->Q acc.toList s')(hn:n<=sizeLine):wpAny (model prog w) A (collect (.ref I)) Q E s:=by
 have hSf:s.heap.objs.size∉fp:=fun hm=>zM _ (hfp _ hm)
 have hSI:s.heap.objs.size≠I:=fun e=>hSf (e▸hI)
 unfold collect
 refine aq (wpAny_runValue (H7 F.entry_proto_collect ?_))
 rw[yE F.plain_proto_collect _]
 show wpAny _ A.in1 (newList []>>=fun l=>again (.builtin "list.__iadd__" ⟨[l,.ref I],[]⟩)) _ _ s
 refine aq (fO ?_)
 refine aL ⟨MH ER _,H7 F.entry_list_iadd ?_⟩
 rw[yE ER _]
 have Ew:=W.frame 0 s (s.heap.push {cls:=.type "list",data:=.seq ([]:List ah).toArray}) s.toks hst (ax _) fun b _ o e=>bH _ e
 have aoo:(s.heap.push {cls:=.type "list",data:=.seq ([]:List ah).toArray}).get? s.heap.objs.size=some {cls:=.type "list",data:=.seq ([]:List ah).toArray}:=bp _ rfl
 have h1:tA (.ref s.heap.objs.size) (.ref I)=false:=by simp[tA,hSI]
 show wpAny _ A.in1 (qS (.ref s.heap.objs.size) (.ref I) (.ref s.heap.objs.size)) _ _ _
 unfold qS
 refine aq (Oh (hT 0 _ Ew) ?_)
 rw[if_neg (by rw[h1];decide)]
 refine aq (W.self 0 _ _ _ Ew ?_)
 refine aq (dJ ?_)
 unfold Lu
 refine aq (Ic (hT 0 _ Ew) aeg ?_)
 show wpAny _ A.in1 (specialOf (oa I) (lD "__length_hint__")>>=_) _ _ _
 refine aq (Ic (hT 0 _ Ew) ahR ?_)
 generalize hid:("dict_keyiterator.__length_hint__":String)=id0
 wp_delta
 rw[show splitId id0=some ("dict_keyiterator","__length_hint__") from by subst hid;decide +kernel]
 subst hid
 refine aq (wpAny_isInstance (b:=true) (hT 0 _ Ew) (by rw[isSubtype_type];kernel_rfl) ?_)
 refine aL ?_
 rw[if_neg (by decide)]
 refine aL ⟨MH F.plain_extend_loop _,codeAny_extend_loopS W hn _ hSf _ n 0 _ _ _ rfl (aU _) Ew aoo (ItemsOf.nil P) fun s' acc' c' hm hS' hacc=> ?_⟩
 show wpAny _ A (load s.heap.objs.size>>=_) _ _ s'
 refine aq (wpAny_load hS' ?_)
 exact aL (hQ s' acc' (Moved.drop_new (o:={cls:=.type "list",data:=.seq ([]:List ah).toArray}) (tk:=s.toks) hm (ax _)) hacc)
end
section
variable{k:Nat}{C:PC}{W:Wd}{σ:AS}{s:az}{h':bM}{A:b5}{E:ah->az->Prop}
theorem alg{ks:List Str}: ∀{vs:List ah} {j:Nat} {a:Str} {y:ah},(ks.zip vs)[j]? =some (a,y)->ks[j]?.getD Wf=a:=by
 induction ks with
 |nil=>exact fun{vs j a y} h=>by cases h
 |cons b ks ih=>
  intro vs j a y h
  cases vs with
  |nil=>cases h
  |cons v vs=>cases j with
   |zero=>cases h;rfl
   |succ j=>exact ih (vs:=vs) (j:=j) h
theorem aa6{L:List ah}: ∀{ks:List Str},(∀(j:Nat) v,L[j]? =some v-> ∃t,v= .str (ks[j]?.getD Wf) t)->L.length=ks.length-> ∃l:List (Str×Tok),strValues l=L/\l.map (·.1)=ks:=by
 induction L with
 |nil=>
  intro ks _ hlen
  cases ks with
  |nil=>exact⟨[],rfl,rfl⟩
  |cons=>cases hlen
 |cons v L ih=>
  intro ks each hlen
  cases ks with
  |nil=>cases hlen
  |cons kk ks=>
   obtain⟨t,ht⟩:=each 0 v rfl
   refine eX (ih (ks:=ks) (fun j v e=>each (j+1) v e) (jW hlen)) fun l h1 h2=> ?_
   exact⟨(kk,t)::l,by rw[<- h1,ht];rfl,by rw[<- h2];rfl⟩
theorem aam{x:Str}{t:Tok}{d:aC}{ks:List Str}{vs:List ah}{ep:Nat}{Q:ah->az->Prop}(hh:A.handled=none)(h0:(d==sysModules)=false)(hl:ks.length=vs.length)(hd:s.heap.DictAt (rF C.prog C.w) d (ks.zip vs) ep)(hN:ks.length<=sizeLine)
  (hok:JoinOk x ks=true)(h: ∀h' t' tk,(∀b o,s.heap.get? b=some o->h'.get? b=some o)->Q (.str (Oc x ks) t') {s with heap:=h',toks:=tk}):wpAny (dH C) A (call (.builtin "str.join") [.str x t,.ref d]) Q E s:=by
 have hT:s.TypeIs (.ref d) "dict":=hd.dictOf.typeIs
 refine oP (oO vm.plain F.entry_str_join (vm.check _ _ _ _ _ _ _ _ (mc _ _ _) (F.args_str_join_2 _ _) ?_))
 rw[join_tree_other]
 refine aq (Oh hT ?_)
 show wpAny _ A.in1 ((pyIter (.ref d)).tryCatch _>>=fun it=>collect it>>=fun items=>joinTail x items) _ _ s
 have hz:(ks.zip vs).length=ks.length:=by simp[hl]
 have ne:d≠s.heap.objs.size:=by obtain⟨o,es,ho,_⟩:=hd;exact ct (cv ho)
 refine aq (wpAny_tryCatch (Fe h0 hd ?_))
 have W:=(Kb (A:=A.in1.in1) (knd:=rF C.prog C.w) hh s.heap.objs.size d ne (ks.zip vs) ep).toS
 refine aq (RO W (fun _ _ st=>let⟨o,ho,hc,_⟩:=st.1;⟨o,ho,hc⟩) ⟨⟨_,bp _ rfl,rfl,rfl⟩,hd.at' fun o e=>eA _ _ _ _ e⟩ (fun b hb=> ?_) (by simp) (fun s' acc hm hacc=> ?_) (by rw[hz];exact hN))
 ·rw[pY]
  simp at hb
  rcases hb with rfl|rfl
  ·exact bT _
  ·obtain⟨o,es,ho,_⟩:=hd;exact cN (cv ho)
 ·refine ap3 (hacc) fun ha hv=> ?_
  have key: ∃l:List (Str×Tok),strValues l=acc.toList/\l.map (·.1)=ks:=aa6 (fun j v e=>by
    refine SR (hv j v (by rw[<- Array.getElem?_toList];exact e)) fun kk y e1 e2=> ?_
    obtain⟨t,rfl⟩:=Mine.strKind_is e2
    exact⟨t,congrArg (gu · t) (alg e1).symm⟩) (by rw[Array.length_toList,ha,hz])
  refine eX (key) fun l hl1 hl2=> ?_
  rw[<- hl1]
  have hs':s'={s with heap:=s'.heap,toks:=s'.toks}:=by
   obtain⟨h1,g1,d1,t1,o1⟩:=s'
   have a1:=hm.gens
   have a2:=hm.drawn
   have a3:=hm.os
   dsimp only at a1 a2 a3 ⊢
   rw[a2,a3,a1]
  have keep: ∀b o,s.heap.get? b=some o->s'.heap.get? b=some o:=fun b o e=>hm.heap b o (by simp;exact ct (cv e)) (eA _ _ _ _ e)
  have hok':=hok
  rw[<- hl2]at hok'
  unfold JoinOk at hok'
  rw[d9]at hok'
  have g:Gives (joinTail x (strValues l)) (joinMade x l):=by
   have g0:=gives_joinTail x l hok'
   cases l with
   |nil=>exact g0
   |cons p r=>cases r with
    |nil=>exact g0
    |cons q r'=>exact g0
  exact g C.prog C.w A (wants Q E) s' (post_join l ⟨joinFit_length hok',fun t' kk=>by rw[hl2,hs'];exact h _ _ _ keep⟩)
theorem ad8{b:AV}{l:List (List Nat)}{P:Prop}(h:aci σ b=some l)(k1: ∀fs,b= .dct l fs->P)(k2: ∀m,nC σ b=some m->nK m=some l->P):P:=by
 have k3:ob (nC σ b) nK=some l->P:=fun h=>oE h k2
 clear k2
 cases b with
 |dct ks fs=>exact s1 (P:=fun l=>(∀fs',AV.dct ks fs= .dct l fs'->P)->P) h (fun k1=>k1 fs rfl) k1
 |_=>exact k3 h
theorem XQ{sep:ac}{l:List (List Nat)}(z:dC (eY (lr sep l)+eY l*eY sep+eY l)=true):((l.map aO).map (·.length)).sum +(l.map aO).length *(aO sep).length <=16777216/\l.length<=sizeLine:=by
 rw[ip,ip,ip]at z
 have hz:=jQ z
 have hsum:=Te sep l
 rw[aS,bO,jE]
 generalize l.length*sep.length=q at *
 generalize ((l.map aO).map (·.length)).sum=w at *
 generalize (lr sep l).length=u at *
 exact⟨by omega,by omega⟩
theorem aaU:aF C k (.builtin "str.join") vv:=HE fun A R W σ s a b v w Re q q' tk r ai e=>fU (Q:=fun a=>V C W a v->_) e (fun sep e q=>q.strE fun t=>oE e fun l hl e=>kS e fun z e=>by
  apply s2 e
  have hok:=XQ z
  refine ad8 hl (fun fs hb=> ?_) fun m hm hl=> ?_
  ·subst hb
   refine q'.dctE fun x o ws q0 q1 q2 qd=> ?_
   obtain⟨q3,es,ep,qd⟩:=qd
   refine aam R.handled q0 (by rw[aS];exact q3) ⟨o,es,Re.im _ _ q1,qd⟩ ?_ (joinOk_of hok.1) fun h' t' tk hk=> ?_
   ·rw[aS];exact hok.2
   ·rw[Ev];exact Re.grown G3 hk _
  ·refine Ho Re hm q' fun x ws hws hx=> ?_
   refine eX (O0 hl hws) fun ts h1 h2=> ?_
   subst h2
   have hs:=QJ l ts h1
   rcases hx with hx|hx
   ·refine Rg hx hs hok.1 fun t' kk=> ?_
    rw[Ev];exact Re.same G3 _
   ·refine Rb hx hs hok.1 fun t' kk=> ?_
    rw[Ev];exact Re.same G3 _) q
end
end
end
section
open PySem.SeqAt
open Builtin Builtin.Str
noncomputable section
def Ie(s p:ac)(i:Nat):Prop:=i+p.length<=s.length/\subAt (aO s) (aO p) i=true
theorem Cu{s p:ac}{i:Nat}(hi:i<=s.length):Ie s p i↔j0 p (s.drop i)=true:=by
 unfold Ie
 simp only[tP,gQ,bO,beq_iff_eq,Hy]
 constructor
 ·rintro⟨_,h⟩;exact h
 ·intro h
  refine⟨?_,h⟩
  have:=congrArg mZ h
  simp only[ki,g9]at this
  omega
theorem Tw(s p:ac): ∀(l:ac) (j f:Nat),(forIn l ((#[j]:Array Nat),f) (ej (aO s) (aO p) s.length 1)).run.fst= #[j]
 |[],_,_=>rfl
 |a::l,j,f=>by
  rw[gL]
  unfold ej
  rw[if_neg (by simp)]
  exact Tw s p l j f
theorem Qn(s p:ac): ∀(pre post:ac) (j free:Nat),(∀i∈pre++[j],free<=i)->(∀i∈pre,¬Ie s p i)->Ie s p j->
  (forIn (pre++j::post) ((#[]:Array Nat),free) (ej (aO s) (aO p) s.length 1)).run.fst= #[j]
 |[],post,j,free,hf,_,hj=>by
  rw[vo,gL]
  unfold ej
  have h1:free<=j:=hf j (by simp)
  have h2:=hj.1
  rw[if_pos ⟨⟨⟨by simp,h1⟩,by rw[bO];exact h2⟩,hj.2⟩]
  exact Tw s p post j _
 |a::pre,post,j,free,hf,hn,hj=>by
  rw[eZ,gL]
  unfold ej
  rw[if_neg (by
   rintro⟨⟨_,h1⟩,h2⟩
   rw[bO]at h1
   exact hn a (bf ..) ⟨h1,h2⟩)]
  exact Qn s p pre post j free (fun i hi=>hf i (by rw[eZ];exact aQ _ hi)) (fun i hi=>hn i (aQ _ hi)) hj
theorem IV(p:ac): ∀(s:ac) (i j:Nat),Et p i s=some j-> ∃k,j=i+k/\k<=s.length/\j0 p (s.drop k)=true/\ ∀m,m<k->j0 p (s.drop m)=false
 |[],i,j,e=>by
  unfold Et at e
  cases z:j0 p []<;>rw[z]at e<;>cases e
  exact⟨0,rfl,ax _,z,fun m hm=>absurd hm (iw _)⟩
 |a::s,i,j,e=>by
  unfold Et at e
  cases z:j0 p (a::s)<;>rw[z]at e
  ·obtain⟨k,h1,h2,h3,h4⟩:=IV p s (i+1) j e
   refine⟨k+1,by omega,by simp;exact h2,h3,fun m hm=> ?_⟩
   cases m with
   |zero=>exact z
   |succ m=>exact h4 m (by omega)
  ·cases e
   exact⟨0,rfl,aU _,z,fun m hm=>absurd hm (iw _)⟩
theorem aaB{s p:ac}{j:Nat}(e:Et p 0 s=some j):occurrences (aO s) (aO p) 0 (aO s).length 1=[j]:=by
 obtain⟨k,h1,h2,h3,h4⟩:=IV p s 0 j e
 have hk:k=j:=by omega
 subst hk
 rw[w9,bO]
 have hs:iV 0 (s.length+1-0)=iV 0 k++k::iV (k+1) (s.length-k):=by
  have h5:s.length+1-0=k+((s.length-k)+1):=by omega
  rw[h5,<- List.range'_append_1,ic,tH]
 rw[hs,Qn s p _ _ k 0 (fun _ _=>aU _) (fun i hi=> ?_) ((Cu h2).mpr h3)]
 have hi:i<k:=by simpa[EW] using hi
 rw[Cu (by omega),h4 i hi]
 decide
section
variable{k:Nat}{C:PC}
theorem YE:aF C k (.builtin "str.index") Ik:=HE fun A R W σ s a b v w Re q q' tk r ai e=>fU (Q:=fun a=>V C W a v->_) e (fun sep e q=>O7 (Q:=fun b=>V C W b w->_) e (fun c p e q'=>oE e fun i hi e=>q.strE fun t=>q'.strE fun u=>by
  apply s2 e
  exact PySem.SC.index (aaB hi) (Re.same Co _)) q') q
end
end
end
section
open PySem.SeqAt
open Builtin Builtin.Str
noncomputable section
noncomputable def pu(c:Nat):Nat->List Nat->List Nat
 |_,[]=>[]
 |i,a::r=>bif aj a c then i::pu c (i+1) r else pu c (i+1) r
theorem aa7{s:ac}{c i a:Nat}{r:ac}(h:s.drop i=a::r):subAt (aO s) (aO [c]) i=aj a c:=by
 rw[tP,gQ,bO,gQ,h,gg]
 by_cases q:a=c<;>simp[q]
theorem Qm(s:ac)(c lim:Nat): ∀(r:ac) (i:Nat) (found:Array Nat) (free:Nat),s.drop i=r->i<=s.length->free<=i->found.size+r.length<lim->
  (forIn (iV i (r.length+1)) (found,free) (ej (aO s) (aO [c]) s.length lim)).run.fst.toList=found.toList++pu c i r
 |[],i,found,free,h,hi,hf,hl=>by
  have:s.length<=i:=oK.mp h
  rw[show iV i (([]:List Nat).length +1)=[i] from rfl,gL]
  unfold ej
  rw[if_neg (by
   rintro⟨⟨_,h1⟩,_⟩
   rw[bO]at h1;simp at h1;omega)]
  simp[pu]
 |a::r,i,found,free,h,hi,hf,hl=>by
  have hlt:i<s.length:=by
   rcases oM i s.length with z|z
   ·exact z
   ·rw[hV z]at h;cases h
  have hr:s.drop (i+1)=r:=by
   have:=congrArg (Bo 1) h
   simpa[pZ] using this
  rw[bQ,tH,gL]
  unfold pu
  have hs:=aa7 (c:=c) h
  cases q:aj a c with
  |true=>
   rw[q]at hs
   unfold ej
   rw[if_pos ⟨⟨⟨by simp at hl ⊢;omega,hf⟩,by rw[bO];simp;omega⟩,hs⟩]
   have ih:=Qm s c lim r (i+1) (found.push i) (i+(aO [c]).length) hr hlt (by rw[bO];simp) (by simp at hl ⊢;omega)
   simp only[af]
   rw[Array.toList_push]at ih
   exact ih.trans (by simp)
  |false=>
   rw[q]at hs
   unfold ej
   rw[if_neg (by rintro⟨_,h2⟩;rw[hs]at h2;cases h2)]
   exact Qm s c lim r (i+1) found free hr hlt (mL hf) (by simp at hl ⊢;omega)
theorem Yh(s:ac)(c:Nat):occurrences (aO s) (aO [c]) 0 (aO s).length ((aO s).length +1)=pu c 0 s:=by
 rw[w9,bO]
 have:=Qm s c (s.length+1) s 0 #[] 0 rfl (aU _) (ax _) (by simp)
 simpa using this
theorem acG(s:ac)(a b:Nat):strSub (aO s) a b=aO ((s.take b).drop a):=by
 unfold strSub aO
 congr 1
 apply Gq.mp
 simp[List.drop_take]
theorem vU(s:ac)(c:Nat): ∀(r:ac) (i i0:Nat) (acc:ac),s.drop i=r->i0<=i->i<=s.length->acc.reverse=(s.take i).drop i0->
  ((i0::(pu c i r).map (· +1)).zip (pu c i r++[s.length])).map (fun p=>strSub (aO s) p.1 p.2)=(dv c acc r).map aO
 |[],i,i0,acc,h,h0,hi,ha=>by
  have hl:s.length<=i:=oK.mp h
  have:i=s.length:=vp hi hl
  subst this
  simp only[pu,jV,vo,bP,List.zip_nil_left,bh,dv]
  rw[acG,ha]
 |a::r,i,i0,acc,h,h0,hi,ha=>by
  have hlt:i<s.length:=by
   rcases oM i s.length with z|z
   ·exact z
   ·rw[hV z]at h;cases h
  have hr:s.drop (i+1)=r:=by
   have:=congrArg (Bo 1) h
   simpa[pZ] using this
  have hai:s[i]? =some a:=by
   have:(s.drop i)[0]? =some a:=by rw[h];rfl
   simpa using this
  unfold pu dv
  cases q:aj a c with
  |true=>
   simp only[af,bh,eZ,bP]
   have ih:=vU s c r (i+1) (i+1) [] hr (ax _) hlt (by simp)
   rw[acG,ha]
   exact congrArg _ ih
  |false=>
   simp only[ae]
   refine vU s c r (i+1) i0 (a::acc) hr (mL h0) hlt ?_
   rw[EY,ha,List.take_add_one,hai,List.drop_append_of_le_length (by simp;omega)]
   rfl
end
end
section
open PySem.SeqAt
open Builtin Builtin.Str
noncomputable section
section
variable{k:Nat}{C:PC}{s:az}{A:b5}{E:ah->az->Prop}
theorem aa4{x y:Str}{t u:Tok}{Q:ah->az->Prop}(hy:(y.length==0)=false)
  (h: ∀(l:List (Str×Tok)) k,l.map (·.1)=Ly x y->Q (.ref s.heap.objs.size) {s with heap:=s.heap.push (dy (strValues l) 0),toks:=k})
  (hsz:x.length+2<=sizeLine):
  wpAny (dH C) A (call (.builtin "str.split") [.str x t,.str y u]) Q E s:=by
 have hn:(partsBetween x (occurrences x y 0 x.length (x.length+1)) y.length).length <=sizeLine:=by
  have e1:=StrLaws.occ_length_le x y 0 x.length (x.length+1)
  rw[length_partsBetween];omega
 cases h1:(decide (x.length<y.length)||decide (gz x<gz y))
 ·cases hf:(occurrences x y 0 x.length (x.length+1)).isEmpty
  ·refine ma nL (mc _ _ _) si (qW _ _) (meets_str_split_sep x y t u h1 hy hf (by omega) hn) ?_
   show wants Q E _ {s with toks:=_,heap:=s.heap.push {cls:=.type "list",data:=.seq (strsFrom s.toks (partsBetween x (occurrences x y 0 x.length (x.length+1)) y.length)).toArray}}
   rw[strsFrom_eq]
   exact h (numbered s.toks _) _ ((numbered_texts _ _).trans ((if_neg (ne_true_of_eq_false h1)).trans (if_neg (ne_true_of_eq_false hf))).symm)
  ·exact ma nL (mc _ _ _) si (qW _ _) (meets_str_split_not_found x y t u h1 hy hf)
    (h [(x,t)] s.toks ((if_neg (ne_true_of_eq_false h1)).trans (if_pos hf)).symm)
 ·exact ma nL (mc _ _ _) si (qW _ _) (meets_str_split_cannot_occur x y t u h1)
   (h [(x,t)] s.toks (if_pos h1).symm)
theorem Dq(c:Nat): ∀(s acc:ac),(∀a∈s,aj a c=false)->dv c acc s=[acc.reverse++s]
 |[],acc,_=>by simp[dv]
 |a::s,acc,h=>by
  unfold dv
  rw[h a (bf ..),ae,Dq c s (a::acc) fun b hb=>h b (aQ _ hb)]
  simp
theorem KZ(c:Nat): ∀(s:ac) (i:Nat),pu c i s=[]-> ∀a∈s,aj a c=false
 |[],_,_,a,h=>by cases h
 |b::s,i,e,a,h=>by
  unfold pu at e
  cases q:aj b c with
  |true=>rw[q]at e;cases e
  |false=>
   rw[q]at e
   rcases aG.mp h with rfl|h
   ·exact q
   ·exact KZ c s (i+1) e a h
theorem ah6{s:ac}{c:Nat}(h:gz (aO s)<gz (aO [c])): ∀a∈s,aj a c=false:=by
 intro a ha
 cases q:aj a c with
 |false=>rfl
 |true=>
  exfalso
  have:=aD q
  subst this
  unfold gz aO at h
  simp only[List.all_toArray]at h
  by_cases h1:a<256
  ·simp[h1]at h
   split at h<;>(try split at h)<;>omega
  ·by_cases h2:a<65536
   ·have e1:(s.all fun x=>decide (x<256))=false:=by
     rw[sk];exact⟨a,ha,by simp[h1]⟩
    simp[h1,h2,e1]at h
    first|omega|(split at h<;>omega)
   ·have e1:(s.all fun x=>decide (x<256))=false:=by
     rw[sk];exact⟨a,ha,by simp[h1]⟩
    have e2:(s.all fun x=>decide (x<65536))=false:=by
     rw[sk];exact⟨a,ha,by simp[h2]⟩
    simp[h1,h2,e1,e2]at h
theorem afb(s:ac)(c:Nat):Ly (aO s) (aO [c])=(dv c [] s).map aO:=by
 have no:(∀a∈s,aj a c=false)->[aO s]=(dv c [] s).map aO:=fun h=>by rw[Dq c s [] h];simp
 unfold Ly
 split
 ·rename_i h
  rw[oG,decide_eq_true_iff,decide_eq_true_iff,bO,bO]at h
  rcases h with h|h
  ·have:s=[]:=List.eq_nil_of_length_eq_zero (by simp at h;simp[h])
   subst this;exact no fun a ha=>by cases ha
  ·exact no (ah6 h)
 ·rw[Yh]
  split
  ·rename_i h
   exact no (KZ c s 0 (dM.mp h))
  ·have:=vU s c s 0 0 [] rfl (ax _) (aU _) (by simp)
   rw[<- this]
   unfold partsBetween
   rw[bO,bO]
   rfl
theorem LV{W:Wd}: ∀{ss:List (List Nat)} {l:List (Str×Tok)},l.map (·.1)=ss.map aO->VL C W (ss.map .str) (strValues l)
 |[],[],_=>VL.nil
 |a::ss,(x,t)::l,h=>by
  simp only[bh,vn]at h
  exact⟨.str x t,strValues l,rfl,⟨t,by rw[h.1]⟩,LV h.2⟩
 |[],_::_,h=>by simp at h
 |_::_,[],h=>by simp at h
theorem YI:aF C k (.builtin "str.split") kG:=HE fun A R W σ s a b v w Re q q' tk r ai e=>fU (Q:=fun a=>V C W a v->_) e (fun x e q=>W0 (Q:=fun b=>V C W b w->_) e (fun c e q'=>kS e fun z e=>q.strE fun t=>q'.strE fun u=>by
  apply s2 e
  refine aa4 (by rw[bO];rfl) (fun l tk hl=> ?_) (by have:=jQ z;rw[bO,jE];omega)
  rw[afb]at hl
  exact Re.newLst (eA _ _) (tx _) (bp _ rfl) (LV hl) _) q') q
end
end
end
section
open PySem.SeqAt
open Builtin Builtin.Str
noncomputable section
section
variable{k:Nat}{C:PC}
theorem EK{x:Str}{id:String}{F:aW}(slot:Slot "str" x id)(ty:typeOf (.builtin id)=pure (.type "method_descriptor"))(hF:aF C k (.builtin id) F):d7 C k x (iq F):=fun W σ h a v F' R hv e=>by
 revert hv
 exact fU (Q:=fun a=>V C W a v->_) e fun i e=>by
  apply s1 e
  exact fun hv=>hv.strE fun t=>⟨.builtin id,fun A s pl E Q hs hq=>GM.of _ (mc _ _ _) slot ty GM.noRef hq,fu,hF⟩
theorem K8{x:Str}{id:String}{F:aW}(pa:PlainAttrs "list")(slot:Slot "list" x id)(ty:typeOf (.builtin id)=pure (.type "method_descriptor"))(hF:aF C k (.builtin id) F):d7 C k x (fT F):=fun W σ h a v F' R hv e=>by
 revert hv
 exact iA (Q:=fun a=>V C W a v->_) e fun y e=>lstE e fun l hg e=>by
  apply s1 e
  intro hv
  refine R.lstE hg hv fun p us n q q0 q2 r=>⟨.builtin id,fun A s pl E Q hs hq=> ?_,fu,hF⟩
  subst hs
  exact getMethod_builtin (⟨_,q2,rfl⟩:s.TypeIs (.ref p.1) "list") pa slot ty (fun a ha=>by cases ha;exact⟨_,q2,rfl⟩) hq
theorem rt:d7 C k "split" (iq kG):=EK nL F.type_str_split YI
theorem qw:d7 C k "join" (iq vv):=EK vm F.type_str_join aaU
theorem Mi:d7 C k "index" (iq Ik):=EK F.slot_str_index F.type_str_index YE
theorem fG:d7 C k "append" (fT gv):=K8 sj F.slot_list_append F.type_list_append VK
theorem tp:d7 C k "extend" (fT f8):=K8 sj F.slot_list_extend F.type_list_extend VM
theorem aeK:d7 C k "pop" (fT Zd):=K8 sj F.slot_list_pop F.type_list_pop aeQ
end
end
end
section
open PySem.SeqAt
open PySem.NumText
noncomputable section
section
variable{k:Nat}{C:PC}
theorem F1: ∀(l:ac) (n m:Nat),lQ n l=some m->AllDigits l/\l.foldl (fun acc c=>acc*10+(c-48)) n=m
 |[],n,m,e=>by cases e;exact⟨fun c h=>(by cases h),rfl⟩
 |c::r,n,m,e=>by
  unfold lQ at e
  cases z:cX 48 c&&cX c 57<;>rw[z]at e
  ·cases e
  ·simp only[cK]at z
   obtain⟨h1,h2⟩:=F1 r _ _ e
   refine⟨fun d hd=> ?_,h2⟩
   rcases aG.mp hd with rfl|hd
   ·exact⟨av z.1,av z.2⟩
   ·exact h1 d hd
theorem ad0{c n:Nat}{r:ac}(hl:r.length<18)(hn:lQ 0 (c::r)=some n):PySem.intText? (aO (c::r))=some (n:Int):=by
 obtain⟨h1,h2⟩:=F1 _ _ _ hn
 have:=intText_digits (x:=aO (c::r)) (by rw[gQ];exact h1) (by rw[gQ];exact List.cons_ne_nil _ _) (by rw[bO,bQ];omega)
 rw[gQ]at this
 rw[<- h2];exact this
theorem aeN:aF C k (.type "int") tV:=sd fun A R W σ s a v Re q tk r ai e=>O7 (Q:=fun a=>V C W a v->_) e (fun c r e q=>kS e fun z e=>oE e fun n hn e=>q.strE fun t=>by
  apply s2 e
  have hl:=dh.mp z
  exact Sf (ad0 hl hn) (by rw[bO,bQ];omega) (Re.same Co _)) q
end
end
end
section
open PySem.SeqAt
open Builtin Builtin.Str
noncomputable section
theorem act(s p:ac)(lim:Nat): ∀(l:ac) (free:Nat),(∀i∈l,¬Ie s p i)->(forIn l ((#[]:Array Nat),free) (ej (aO s) (aO p) s.length lim)).run.fst= #[]
 |[],_,_=>rfl
 |a::l,free,hn=>by
  rw[gL]
  unfold ej
  rw[if_neg (by
   rintro⟨⟨_,h1⟩,h2⟩
   rw[bO]at h1
   exact hn a (bf ..) ⟨h1,h2⟩)]
  exact act s p lim l free fun i hi=>hn i (aQ _ hi)
theorem S3(p:ac): ∀(s:ac) (i:Nat),zj p s=false->i<=s.length->j0 p (s.drop i)=false
 |[],i,h,hi=>by
  have:i=0:=Rd.mp hi
  subst this;exact h
 |a::s,0,h,_=>by rw[I0]at h;exact(oF.mp h).1
 |a::s,i+1,h,hi=>by
  rw[I0]at h
  exact S3 p s i (oF.mp h).2 (m7 hi)
theorem ahY(p s:ac)(i:Nat)(h:PN p s=false)(hi:i<=s.length):j0 p (s.drop i)=false:=S3 p s i (by rw[<- XI];exact h) hi
theorem Yg{s p:ac}(h:PN p s=false)(lim:Nat):occurrences (aO s) (aO p) 0 (aO s).length lim=[]:=by
 rw[w9,bO,act s p lim _ 0 fun i hi q=> ?_]
 have hi:i<=s.length:=by
  have:=(EW.mp hi).2;omega
 rw[Cu hi,ahY p s i h hi]at q
 cases q
section
variable{k:Nat}{C:PC}{X:FX}
theorem RZ:aF C k (.builtin "str.replace") tW:=apy fun A R W σ s a b d v w u Re q q' q'' tk r ai e=>fU (Q:=fun a=>V C W a v->_) e (fun x e q=>O7 (Q:=fun b=>V C W b w->_) e (fun c p e q'=>fU (Q:=fun d=>V C W d u->_) e (fun y e q''=>kN e fun z e=>q.strE fun t=>q'.strE fun t'=>q''.strE fun t''=>by
  apply s2 e
  have ho:=Yg z ((aO x).length +1)
  refine call_gives qX (mc _ _ _) F.entry_str_replace (F.args_str_replace_3 _ _ _) (gives_str_replace (aO x) _ _ t t' t'' fun h=> ?_) ?_
  ·rw[ho]at h;cases h
  ·rw[ho]
   exact Re.same G3 s.toks) q'') q') q
theorem wS:d7 C k "replace" (iq tW):=EK qX Bk RZ
theorem L8: ∀l:List (List Nat),lr [] l=l.flatten
 |[]=>rfl
 |[a]=>(aR a).symm
 |a::b::r=>by
  unfold lr
  rw[L8 (b::r),aR];rfl
theorem Dr(c:Nat): ∀(s acc:ac),(dv c acc s).flatten=acc.reverse++HC c s
 |[],acc=>rfl
 |a::s,acc=>by
  unfold dv HC
  cases q:aj a c with
  |true=>rw[af,af,mK,Dr c s []];rfl
  |false=>rw[ae,ae,Dr c s (a::acc),EY,aB];rfl
theorem Vx(s:ac)(c:Nat):partsBetween (aO s) (pu c 0 s) (aO [c]).length=(dv c [] s).map aO:=by
 have:=vU s c s 0 0 [] rfl (ax _) (aU _) (by rw[List.take_zero,List.drop_nil];rfl)
 rw[<- this]
 unfold partsBetween
 rw[bO,bO]
 rfl
theorem Yu(s:ac)(c:Nat):Rj (aO s) (aO [c]) (aO [])=aO (HC c s):=by
 have flat:HC c s=(dv c [] s).flatten:=(Dr c s []).symm
 unfold Rj
 rw[Yh]
 cases ho:(pu c 0 s).isEmpty with
 |true=>
  rw[if_pos (by rfl),flat,Dq c s [] (KZ c s 0 (dM.mp ho))]
  exact congrArg aO (aR s).symm
 |false=>
  have h1:(aO [c]).length=1:=bO _
  rw[if_neg (by rw[h1];decide),Vx,flat,<- L8,<- Ev]
  rfl
theorem alZ{C:PC}{v:Str}{t:Tok}{h:bM}{x:Str}{id:String}(slot:Slot "str" x id)(ty:typeOf (.builtin id)=pure (.type "method_descriptor"))(A:b5)(s:az)(pl:Sem Bool)(E:ah->az->Prop)(Q:ah×List ah->az->Prop)(_:s.heap=h)(hq:Q (.builtin id,[.str v t]) s):wpAny (dH C) A (getMethod (.str v t) x pl) Q E s:=GM.of _ (mc _ _ _) slot ty GM.noRef hq
theorem aky{c:Nat}{m:EM}{o:an}{ap p p1 p2:Pos}{j1 j2:Nat}(hb:ta o=true)(hl:(ap.endLine==p.line)=true)(hm:b6 X k m o):
  b6 X k (un (aju c) m) (.Call (.Attribute o "replace" ap) [.Constant (.str (aO [c])) j1 p1,.Constant (.str (aO [])) j2 p2] [] p):=fun A R W fr σ s T a ai e=>by
 refine fS e fun wl ay e1 e=>oE e fun b e2 e=> ?_
 apply s2 e
 revert e1
 refine fU (Q:=fun wl=>m fr σ=some (wl,ay)->_) (show eo wl _=some b from e2) fun x e2 e1=>kS e2 fun ok e2=> ?_
 apply s1 e2
 refine Tr (es:=[.Constant (.str (aO [c])) j1 p1,.Constant (.str (aO [])) j2 p2]) hb hl (show 2<30 by decide) hm rfl R T e1 fun v bq bm bC bw d8=> ?_
 refine d8.strE fun t=> ?_
 refine⟨_,@alZ X.C (aO x) t bq.heap _ _ qX Bk,?_⟩
 refine Fu (P:=X.C.K.In) rfl fu (wF rfl ?_)
 rw[lX rfl,lX rfl]
 refine Bu (oH (k:=j1) (pos:=p1) (Bu (oH (k:=j2) (pos:=p2) (spliced_nil ⟨bw.rel.K,?_⟩))))
 have hp:=bw.sm.pos
 refine V2 (n:=bq.toks) (au (cR _) (cR _)) ?_
 refine PySem.SC.replace (oN hp) (kj _) (ct (bT _)) ?_ ?_ fun t' k' ht=> ?_
 ·rw[beq_eq_false_iff_ne]
  intro q
  have:=congrArg Um q
  rw[bO,bO]at this
  cases this
 ·rw[bO,bO]
  show x.length+(x.length+1)*0<=_
  rw[Nat.mul_zero]
  exact au (jQ ok) (by decide)
 ·rw[Yu]
  exact((bw.toks k' ht).post G3).le bC
def xT(a b:ac):Prop:= ¬b<a
theorem CG(x:ac): ∀l,(KO x l).Perm (x::l)
 |[]=>.refl _
 |y::r=>by
  unfold KO
  cases CT x y with
  |true=>exact .refl _
  |false=>exact((CG x r).cons y).trans (.swap x y r)
theorem Jz: ∀l,(jR l).Perm l
 |[]=>.refl _
 |x::r=>(CG x _).trans ((Jz r).cons x)
theorem xT.trans{a b c:ac}(h:xT a b)(h':xT b c):xT a c:=List.le_trans (show a<=b from h) (show b<=c from h')
theorem FV(x:ac): ∀l,l.Pairwise xT->(KO x l).Pairwise xT
 |[],_=>u9 ..
 |y::r,h=>by
  unfold KO
  cases q:CT x y with
  |true=>
   have q:x<y:=ag (Ez.symm.trans q)
   have hxy:xT x y:=List.lt_asymm q
   refine js.mpr ⟨fun z hz=> ?_,h⟩
   rcases aG.mp hz with rfl|hz
   ·exact hxy
   ·exact hxy.trans (lb h hz)
  |false=>
   have q:xT y x:=of_decide_eq_false (Ez.symm.trans q)
   refine js.mpr ⟨fun z hz=> ?_,FV x r (js.mp h).2⟩
   rcases aG.mp ((CG x r).mem_iff.mp hz)with rfl|hz
   ·exact q
   ·exact lb h hz
theorem Dp: ∀l,(jR l).Pairwise xT
 |[]=>.nil
 |x::r=>FV x _ (Dp r)
theorem Jp: ∀(r:List (List Nat)) (p:ac),risingS (aO p) (r.map aO)=true->(p::r).Pairwise xT
 |[],_,_=>u9 ..
 |x::r,p,h=>by
  obtain⟨h1,h2⟩:=bj.mp h
  have ih:=Jp r x h2
  have q:xT p x:=by
   rw[ltCps_eq,d9,decide_eq_false_iff_not,gQ,gQ]at h1
   exact h1
  refine js.mpr ⟨fun z hz=> ?_,ih⟩
  rcases aG.mp hz with rfl|hz
  ·exact q
  ·exact q.trans (lb ih hz)
theorem VS: ∀(l:List (List Nat)),sortedS (l.map aO)=true->l.Pairwise xT
 |[],_=>.nil
 |x::r,h=>Jp r x h
theorem aau(l:List Str): ∃m:List (List Nat),l=m.map aO:=⟨l.map fun s=>s.cps.toList,by rw[gM];exact(tF l).symm.trans (fY fun s _=>by obtain⟨⟨l⟩⟩:=s;rfl)⟩
theorem aa3{l:List (List Nat)}{ss':List Str}(hp:ss'.Perm (l.map aO))(hs:sortedS ss'=true):ss'=(jR l).map aO:=by
 obtain⟨m,rfl⟩:=aau ss'
 have hp':m.Perm l:=by
  have:=hp.map fun s=>s.cps.toList
  rw[gM,gM]at this
  have e: ∀k:List (List Nat),k.map ((fun s:Str=>s.cps.toList)∘aO)=k:=fun k=>(fY fun s _=>gQ s).trans (tF k)
  rwa[e,e]at this
 refine congrArg _ (N2 (le:=xT) (fun a b _ _ h1 h2=>List.le_antisymm (show a<=b from h1) (show b<=a from h2)) (VS m hs) (Dp l) (hp'.trans (Jz l).symm))
theorem YP{W:Wd}: ∀{vs:List ah} {l:List (List Nat)},Sg vs (l.map aO)->VL C W (l.map .str) vs
 |[],[],_=>VL.nil
 |[],_::_,h=>by cases h
 |v::vs,a::l,h=>by
  cases h with
  |cons x t h=>exact⟨_,_,rfl,⟨t,rfl⟩,YP h⟩
theorem WR{W:Wd}{l:aa}{ss:List (List Nat)}{vs:List ah}(h:nK l=some ss)(hv:VL C W l vs):Sg vs (ss.map aO):=by
 obtain⟨ts,hl,rfl⟩:=O0 h hv
 exact QJ ss ts hl
theorem VR:aF C k (.builtin "sorted") qc:=sd fun A R W σ s a v Re q tk r ai e=>oE e fun l hl e=>oE e fun ss hss e=>kS e fun z e=>by
  apply s2 e
  refine nk Re hl q fun x n us hx hu=> ?_
  have hS:=WR hss hu
  have hlen:us.length=ss.length:=hS.length.trans (aS ..)
  refine sorted_strs ⟨_,hx,rfl,n,rfl⟩ hS (by rw[hlen];exact av z) fun out ss' h1 h2 h3=> ?_
  obtain⟨e',he⟩:=sortedAll_at s.heap us out
  have q':=aa3 h2 h3
  subst q'
  refine Re.newLst (n:=e') (fun b o hb=>sortedAll_old hb) ?_ (by rw[he]) (YP h1) s.toks
  cases g:s.heap.get? (s.heap.objs.size+1)with
  |none=>rfl
  |some o=>exact absurd (cv g) (ci.mpr (cR _))
end
end
end
section
open PySem.SeqAt
noncomputable section
structure Ky(C:PC)(k:Nat)(Γ:cF):Prop where
 glb: ∀g x a,pU Γ.glb g=some (x,a)->ni C x a
 fns: ∀f x F,pU Γ.fns f=some (x,F)-> ∃fv kF,ni C x (.glob fv)/\oU C fv/\aF C kF fv F/\kF<=k
 mts: ∀n x D,pU Γ.mts n=some (x,D)-> ∃kF,d7 C kF x D/\kF<=k
def Si(C:PC)(FN:List Str):Prop:= ∀i x,Ao FN i=some x->i<C.nf/\C.fname i=x
def y6(X:FX)(k:Nat)(m:EM)(e:an):Prop:= ∀i y py spos,km X i y->lJ X k (cT [i] m) (.Assign [.Name y py] e spos)
section
variable{X:FX}{k:Nat}{st:SI}{C:PC}
structure Gd(X:FX)(k:Nat)(st:SI)(c:Ck)(d:D):Prop where
 e: ∀x,c.e st x=true->b6 X k d.e x
 u: ∀x,c.e st x=true->y6 X k d.e x
 b: ∀x,c.b st x=true->nh X k d.b x
 l: ∀x,c.l st x=true->Ac X k d.l x
 o: ∀op x,c.o st op x=true->k8 X k op d.e x
 a: ∀op x,c.a st op x=true->pR X k op d.b x
 p: ∀x,c.p st x=true->FH X k d.e x
 i: ∀x,c.i st x=true->Nz X k d.b x
theorem Gd.both{e b:SI->an->Bool}{m:EM}{n:BM}(he: ∀x,e st x=true->b6 X k m x)(hu: ∀x,e st x=true->y6 X k m x)(hb: ∀x,b st x=true->nh X k n x):Gd X k st (.both e b) ⟨m,n,fun _ _=>none⟩:=
 ⟨he,hu,hb,fun _ h=>ff h,fun op xs h=>pq h fun x h=>k8.one (he x h),fun op xs h=>pq h fun x h=>pR.one (hb x h),fun x h=>aiD h fun y h=>FH.some (he y h),fun xs h=>pq h fun x h=>Ml (hb x h)⟩
theorem Yr{e:an}(h:Qp e=true): ∀env w,isTrue e env w=(do let v <- w;standAt e.pos;holding [v] (truthy v)):=by
 cases e<;>first|exact ff h|exact fun _ _=>rfl
theorem Gd.ofE{e:SI->an->Bool}{m:EM}(he: ∀x,e st x=true->b6 X k m x)(hu: ∀x,e st x=true->y6 X k m x):Gd X k st (.ofE e) (.ofE m):=
 .both he hu fun x h=>aE h fun h1 h=>ae9 (he x h) (Yr h1)
theorem UR(H:gX X st){m:EM}{e:an}(hm:b6 X k m e)(hc:jP e=true):y6 X k m e:=fun i y py spos hx=>YJ H.ok H.sto hx hm (tz hc)
theorem Gd.ofE'(H:gX X st){e:SI->an->Bool}{m:EM}(he: ∀x,e st x=true->b6 X k m x/\jP x=true):Gd X k st (.ofE e) (.ofE m):=
 .ofE (fun x h=>(he x h).1) fun x h=>UR H (he x h).1 (he x h).2
theorem Gd.both'(H:gX X st){e b:SI->an->Bool}{m:EM}{n:BM}(he: ∀x,e st x=true->b6 X k m x/\jP x=true)(hb: ∀x,b st x=true->nh X k n x):Gd X k st (.both e b) ⟨m,n,fun _ _=>none⟩:=
 .both (fun x h=>(he x h).1) (fun x h=>UR H (he x h).1 (he x h).2) hb
@[elab_as_elim] theorem abG {Q:List an->Prop} {f:an->Bool} {g:List an->Bool} {es:List an} (h:qk f g es=true) (kk: ∀x y r,f x=true->g (y::r)=true->Q (x::y::r)):Q es:=
 Vd h fun x r h=>aE h fun h1 h=>Vd (Q:=fun r=>Q (x::r)) h fun y r h=>kk x y r h1 h
@[elab_as_elim] theorem Yk {Q:an->Prop} {op:cE} {g:List an->Bool} {x:an} (h:th op g x=true) (kk: ∀es p,g es=true->Q (.BoolOp op es p)):Q x:=
 amZ h fun o es p h=>aE h fun h1 h=>dE (Q:=fun o=>Q (.BoolOp o es p)) h1 (kk es p h)
theorem acv{P:Prop}{op op':cE}{f:an->Bool}{g:List an->Bool}{xs:List an}(h:aaG op op' f g xs=true)(k1: ∀x,xs=[x]->f x=true->P)(k2:op=op'->g xs=true->P):P:=
 rE h (fun h=>pq (Q:=fun xs'=>xs=xs'->P) h (fun x h e=>k1 x e h) rfl) fun h=>aE h fun h1 h=>k2 (ag h1) h
theorem Gd.bool(H:gX X st){op:cE}{a b:Ck}{da db:D}{m:EM}{n:BM}(ga:Gd X k st a da)(gb:Gd X k st b db)(hm: ∀e e' es,b6 X k da.e e->k8 X k op db.e (e'::es)->k8 X k op m (e::e'::es))
  (hn: ∀e es,nh X k da.b e->pR X k op db.b es->pR X k op n (e::es)):Gd X k st (.bool op a b) ⟨m,n,fun _ _=>none⟩:=
 have c1: ∀es,qk (a.e st) (b.o st op) es=true->k8 X k op m es:=fun es h=>abG h fun x y r h1 h2=>hm x y r (ga.e x h1) (gb.o op _ h2)
 have c2: ∀es,qk (a.b st) (b.a st op) es=true->pR X k op n es:=fun es h=>abG h fun x y r h1 h2=>hn x _ (ga.b x h1) (gb.a op _ h2)
 have he: ∀x,th op (qk (a.e st) (b.o st op)) x=true->b6 X k m x/\jP x=true:=fun x h=>Yk h fun es p h=>⟨(c1 es h).val,rfl⟩
 have hb: ∀x,th op (qk (a.b st) (b.a st op)) x=true->nh X k n x:=fun x h=>Yk h fun es p h=>(c2 es h).test
 ⟨fun x h=>(he x h).1,fun x h=>UR H (he x h).1 (he x h).2,hb,fun _ h=>ff h,fun op' xs h=>acv h (fun x e h=>e▸k8.one (he x h).1) fun e h=>e▸c1 xs h,fun op' xs h=>acv h (fun x e h=>e▸pR.one (hb x h)) fun e h=>e▸c2 xs h,
  fun x h=>aiD h fun y h=>FH.some (he y h).1,fun xs h=>pq h fun x h=>Ml (hb x h)⟩
theorem alQ:Gd X k st af3 ⟨fun _ _=>none,fun _ _=>none,aI⟩:=
 ⟨fun _ _ A R W fr σ s T a ai e=>nn e,fun _ _ i y py spos hx A R W fr σ s T a e=>nn e,fun _ _ A R W fr σ s T a ai e=>nn e,fun xs h=>Jc h fun _=>QG,fun _ _ _ A R W fr σ s T a ai e=>nn e,fun _ _ _ A R W fr σ s T a ai e=>nn e,fun _ _ A R W fr σ s T a ai e=>nn e,fun _ _ A R W fr σ s T a ai e=>nn e⟩
theorem aaz{α:Type}{x:Str}{l:List (Str×α)}: ∀{i:Nat},Ao (l.map (·.1)) i=some x-> ∃a,pU l i=some (x,a):=by
 induction l with
 |nil=>intro i h;exact nn h
 |cons p r ih=>
  intro i h
  cases i with
  |zero=>exact s1 (P:=fun x=> ∃a,pU (p::r) 0=some (x,a)) (a:=p.1) h ⟨p.2,rfl⟩
  |succ i=>exact ih h
theorem Qg{α:Type}{l:List (Str×α)}{i:Nat}{x:Str}{P:Prop}(h:NP (l.map (·.1)) i x=true)(kk: ∀a,pU l i=some (x,a)->P):P:=(aaz (Hx h)).elim kk
theorem ab9(H:gX X st){x:Str}{P:Prop}(h:Z3 st x=true)(kk:X.env.kindOf x=some .globalImplicit->(x==("__debug__":Str))=false->P):P:=
 aE h fun h1 h2=>kk ((H.kind x).trans ((KP _ _).symm.trans (beq_iff_eq.mp h1))) (pn h2)
theorem pp{e:an}(h:EC e=true){env:Env}: ∀x,foldedSetIterable e env x=pure x:=by
 cases e<;>first|exact ff h|exact fun _=>rfl
theorem ZI{a:AV}{x:an}(h:Cv a x=true):b6 X k (ba a) x/\jP x=true:=Q2 h fun c j p h=>by
 refine⟨?_,rfl⟩
 cases a<;>first|exact ff h|skip
 ·exact dE h ae6
 ·exact dE h aeX
 ·exact dE h akv
 ·exact dE h (akB rfl)
 ·exact dE h aaY
@[elab_as_elim] theorem acg {i:Int} {Q:Option an->Prop} {o:Option an} (h:aag i o=true) (kk: ∀j p,Q (some (.Constant (.int i) j p))):Q o:=aiD h fun e h=>Q2 (Q:=fun e=>Q (some e)) h fun c j p h=>dE (Q:=fun c=>Q (some (.Constant c j p))) h (kk j p)
@[elab_as_elim] theorem strE {i:ac} {Q:an->Prop} {o:an} (h:Cv (.str i) o=true) (kk: ∀j p,Q (.Constant (.str (aO i)) j p)):Q o:=Q2 h fun c j p h=>dE (Q:=fun c=>Q (.Constant c j p)) h (kk j p)
theorem ZQ{k1 k2:Int}{a b:ac}{x:an}(h:agm k1 k2 a b x=true):b6 X k (bv (Hs [k1,k2]) (aw (ba (.str a)) (aw (ba (.str b)) aI))) x/\jP x=true:=
 acR h fun d e p h=>wV h fun y y' h=>wV h fun v v' h=>aE h fun h1 h=>aE h fun h2 h=>aE h fun h3 h=>aE h fun h4 h=>acg h1 fun _ _=>acg h2 fun _ _=>strE h3 fun _ _=>strE h4 fun _ _=>
  ⟨ae2 (of_decide_eq_false (pn h)) rfl rfl,rfl⟩
end
end
end
section
open PySem.SeqAt
noncomputable section
section
variable{k:Nat}{X:FX}{st:SI}
theorem aff(H:gX X st){scope:dZ}{xs:ac}{tg:an}{f:List Str->Bool}{P:Prop}(h:YS tg f=true)
  (kk: ∀ts,f ts=true->(oT st scope xs ts-> ∀s L,Tg (X.inner scope (Pd X scope) (st.inner scope xs ts).at_ L s) xs tg)->P):P:=
 rE h (fun h=>pI (Q:=fun t=>t=tg->P) h (fun n p h e=>kk _ h fun K s L=>e▸match xs,K with
  |[i],K=>.name (xS H K (by rw[bP,gp]))
  |[],K=>dT K.len
  |_::_::_,K=>dT K.len fun h=>dT h) rfl) fun h=>abn (Q:=fun t=>t=tg->P) h (fun l c p h=>wV (Q:=fun l=>.Tuple l c p=tg->P) h fun a b h=>pI (Q:=fun a=>.Tuple [a,b] c p=tg->P) h fun n p1 h=>pI (Q:=fun b=>.Tuple [.Name n p1,b] c p=tg->P) h fun m p2 h e=>
   kk _ h fun K s L=>e▸match xs,K with
  |[i,j],K=>
   have hij:i≠j:=fun e=>(dS.mp K.xnodup).1 (e▸aP.mpr rfl)
   .two rfl (.cons (xS H K (by rw[bP,gp])) (.cons (xS H K (by rw[bP,cD,beq_eq_false_iff_ne.mpr (tu hij),bP,gp])) .nil)) hij
  |[],K=>dT K.len
  |[_],K=>dT K.len fun h=>dT h
  |_::_::_::_,K=>dT K.len fun h=>dT h fun h=>dT h) rfl
section
variable{a b c l lo hi o i:Ck}{da db dc dl dlo dhi do_ di:D}{FN:List Str}{Γ:cF}
theorem alR:Gd X k st af4 ⟨ba .none,fun _ σ=>some (true,σ),aI⟩:=
 ⟨fun _ h=>ff h,fun _ h=>ff h,fun _ h=>ff h,fun _ h=>ff h,fun _ _ h=>ff h,fun _ _ h=>ff h,fun x h=>(dG.mp h).symm ▸FH.none,fun xs h=>(dM.mp h).symm ▸Mk⟩
theorem alW(H:gX X st){i:Nat}:Gd X k st (agb i) (.ofE (al i)):=Gd.ofE' H fun x h=>pI h fun y p h=>⟨uQ H.ok (by rw[H.nm];exact Hx h),rfl⟩
theorem akI{l:List (Str×AV)}{i:Nat}{x:Str}{a:AV}(h:pU l i=some (x,a)):a=acH l i:=by unfold acH;rw[h]
theorem akJ{l:List (Str×aW)}{i:Nat}{x:Str}{a:aW}(h:pU l i=some (x,a)):a=acI l i:=by unfold acI;rw[h]
theorem akK{l:List (Str×gR)}{i:Nat}{x:Str}{a:gR}(h:pU l i=some (x,a)):a=acJ l i:=by unfold acJ;rw[h]
theorem alL(eU:Ky X.C k Γ)(H:gX X st){g:Nat}:Gd X k st (afY Γ.nms g) (.ofE (ba (acH Γ.glb g))):=Gd.ofE' H fun x h=>pI h fun y p h=>aE h fun h h'=>ab9 H h fun h1 h2=>Qg h' fun a ha=>
 ⟨akI ha▸YK H.ok h1 h2 (eU.glb _ _ _ ha),rfl⟩
theorem alI(H:gX X st){op:iD}(ga:Gd X k st a da)(gb:Gd X k st b db):Gd X k st (afV op a b) (.ofE (bi (b4 op) da.e db.e)):=Gd.ofE' H fun x h=>apJ h fun l o r p h=>aE h fun h0 h=>aE h fun h1 h2=>dE h0 ⟨akp (ga.e _ h1) (gb.e _ h2) Zv,rfl⟩
theorem alP(H:gX X st)(ga:Gd X k st a da):Gd X k st (af2 a) (.ofE (un aio da.e)):=Gd.ofE' H fun x h=>ale h fun o r p h=>aE h fun h0 h=>dE h0 ⟨akw (ga.e _ h),rfl⟩
theorem alS(H:gX X st)(ga:Gd X k st a da):Gd X k st (af5 a) ⟨rT (pc (jh da.e)),pc da.b,fun _ _=>none⟩:=Gd.both' H (fun x h=>ale h fun o r p h=>aE h fun h0 h=>dE h0 ⟨akx (ga.e _ h),rfl⟩) fun x h=>ale h fun o r p h=>aE h fun h0 h=>dE h0 (ae7 (ga.b _ h))
theorem alN(H:gX X st)(gc:Gd X k st c dc)(ga:Gd X k st a da)(gb:Gd X k st b db):Gd X k st (af0 c a b) (.ofE (td dc.b da.e db.e)):=Gd.ofE' H fun x h=>aqW h fun t l r p h=>aE h fun h0 h=>aE h fun h1 h2=>⟨aku (gc.b _ h0) (ga.e _ h1) (gb.e _ h2),rfl⟩
@[elab_as_elim] theorem abS {Q:an->Prop} {op:gW} {f g:an->Bool} {x:an} (h:ZF op f g x=true) (kk: ∀l r p,behindInMarks op r=false->f l=true->g r=true->Q (.Compare l [op] [r] p)):Q x:=
 ala h fun l os rs p h=>pq h fun o h=>pq h fun r h=>aE h fun h0 h=>aE h fun h1 h=>aE h fun h2 h3=>dE (Q:=fun o=>Q (.Compare l [o] [r] p)) h0 (kk l r p (pn h1) h2 h3)
theorem alJ(hk:5<=k)(H:gX X st){op:gW}(ga:Gd X k st a da)(gb:Gd X k st b db):Gd X k st (afW op a b) (.ofBool (fw (b7 op) da.e db.e)):=
 Gd.both' H (fun x h=>abS h fun l r p h1 h2 h3=>⟨akq hk (ga.e _ h2) (gb.e _ h3) h1,rfl⟩) fun x h=>abS h fun l r p h1 h2 h3=>ae0 hk (ga.e _ h2) (gb.e _ h3) h1
@[elab_as_elim] theorem Xg {Q:an->Prop} {op op':gW} {f g f':an->Bool} {x:an} (h:UZ op op' f g f' x=true) (kk: ∀l r r' p,lastMarks [op,op'] [r,r']=false->f l=true->g r=true->f' r'=true->Q (.Compare l [op,op'] [r,r'] p)):Q x:=
 ala h fun l os rs p h=>wV h fun o o' h=>wV h fun r r' h=>aE h fun h0 h=>aE h fun h0' h=>aE h fun h1 h=>aE h fun h2 h=>aE h fun h3 h4=>dE (Q:=fun o=>Q (.Compare l [o,o'] [r,r'] p)) h0 (dE (Q:=fun o'=>Q (.Compare l [op,o'] [r,r'] p)) h0' (kk l r r' p (pn h1) h2 h3 h4))
theorem ahv(hk:5<=k)(H:gX X st){op op':gW}(ga:Gd X k st a da)(gb:Gd X k st b db)(gc:Gd X k st c dc):Gd X k st (abJ op op' a b c) (.ofBool (O9 op op' da.e db.e dc.e)):=
 Gd.both' H (fun x h=>Xg h fun l r r' p h1 h2 h3 h4=>⟨aeZ hk (ga.e _ h2) (gb.e _ h3) (gc.e _ h4) h1,rfl⟩) fun x h=>Xg h fun l r r' p h1 h2 h3 h4=>aaZ hk (ga.e _ h2) (gb.e _ h3) (gc.e _ h4) h1
theorem alH(hF:Si X.C FN)(H:gX X st){kk:Nat}(ga:Gd X k st a da):Gd X k st (afU FN kk a) (.ofE (un (aA kk) da.e)):=Gd.ofE' H fun x h=>NX h fun o n p h=>aE h fun h0 h=>aE h fun h1 h2=>(hF _ _ (Hx h0)).2▸⟨ako (hF _ _ (Hx h0)).1 h1 (ga.e _ h2),rfl⟩
theorem alM(H:gX X st)(ga:Gd X k st a da)(gi:Gd X k st i di):Gd X k st (afZ a i) (.ofE (bi fV da.e di.e)):=Gd.ofE' H fun x h=>abm h fun o j p h=>aE h fun h0 h=>aE h fun h1 h2=>⟨akt (pn h0) (ga.e _ h1) (gi.e _ h2),rfl⟩
theorem alU(H:gX X st)(ga:Gd X k st a da)(gl:Gd X k st lo dlo)(gh:Gd X k st hi dhi):Gd X k st (af9 a lo hi) (.ofE (SV da.e dlo.e dhi.e)):=Gd.ofE' H fun x h=>abm h fun o j p h=>alc h fun l u s p' h=>aE h fun h0 h=>aE h fun h1 h=>aE h fun h2 h3=>dE h0 ⟨akA (ga.e _ h1) (gl.p _ h2) (gh.p _ h3),rfl⟩
theorem alO(H:gX X st)(gl:Gd X k st l dl):Gd X k st (af1 l) (.ofE (bv de dl.l)):=Gd.ofE' H fun x h=>acS h fun es p h=>⟨ae4 (gl.l _ h),rfl⟩
theorem alV(H:gX X st)(gl:Gd X k st l dl):Gd X k st (aga l) (.ofE (bv gm dl.l)):=Gd.ofE' H fun x h=>abn h fun es j p h=>⟨akC (gl.l _ h),rfl⟩
theorem alK(H:gX X st):Gd X k st afX (.ofE FP):=Gd.ofE' H fun x h=>acR h fun d e p h=>Jc h fun h=>Jc h fun _=>⟨akr,rfl⟩
theorem alT(H:gX X st){n:Nat}(ga:Gd X k st a da):Gd X k st (af6 n a) (.ofE (un (aju n) da.e)):=Gd.ofE' H fun x h=>V4 h fun f es ks p h=>NX h fun o m ap h=>wV h fun v v' h=>aE h fun h0 h=>aE h fun h1 h=>aE h fun h2 h=>Jc h fun h=>aE h fun h3 h=>aE h fun h4 h=>
 strE h3 fun _ _=>strE h4 fun _ _=>dE h0 ⟨aky h1 (beq_iff_eq.mpr (ag h2)) (ga.e _ h),rfl⟩
theorem ahu(eU:Ky X.C k Γ)(H:gX X st){f:Nat}(gl:Gd X k st l dl):Gd X k st (abI Γ.nms f l) (.ofE (bv (acI Γ.fns f) dl.l)):=Gd.ofE' H fun x h=>V4 h fun g es ks p h=>pI h fun y p' h=>aE h fun h0 h=>aE h fun h1 h=>Jc h fun h=>aE h fun h2 h=>
 ab9 H h0 fun g1 g2=>Qg h1 fun F hFn=>Xn (eU.fns _ _ _ hFn) fun fv kF e1 e2 e3 e4=>akJ hFn▸⟨aeY H.ok g1 g2 e1 e2 e3 e4 h2 (gl.l _ h),rfl⟩
theorem ahy(eU:Ky X.C k Γ)(H:gX X st){n:Nat}(go:Gd X k st o do_)(gl:Gd X k st l dl):Gd X k st (abL Γ.nms n o l) (.ofE (cH (acJ Γ.mts n) do_.e dl.l)):=Gd.ofE' H fun x h=>V4 h fun g es ks p h=>NX h fun q y ap h=>aE h fun h0 h=>aE h fun h1 h=>aE h fun h2 h=>aE h fun h3 h=>Jc h fun h=>aE h fun h4 h=>aE h fun h5 h=>
 Qg h0 fun D hD=>eX (eU.mts _ _ _ hD) fun kF e1 e2=>akK hD▸⟨ae5 h1 (beq_iff_eq.mpr (ag h2)) (dh.mp h3) (go.e _ h5) e1 e2 h4 (gl.l _ h),rfl⟩
theorem ahx(ga:Gd X k st a da)(gl:Gd X k st l dl):Gd X k st (abK a l) ⟨fun _ _=>none,fun _ _=>none,aw da.e dl.l⟩:=
 ⟨fun _ h=>ff h,fun _ h=>ff h,fun _ h=>ff h,fun xs h=>Vd h fun x r h=>aE h fun h0 h=>aE h fun h1 h2=>Le (pn h0) (ga.e _ h1) (gl.l _ h2),fun _ _ h=>ff h,fun _ _ h=>ff h,fun _ h=>ff h,fun _ h=>ff h⟩
theorem ao4{P:Prop}{m:Sem Bool}{b:Bool}(h:m=pure b)(kf:m=pure false->P)(kt:m=pure true->P):P:=by
 cases b with
 |false=>exact kf h
 |true=>exact kt h
theorem Pg(H:gX X st){scope:dZ}{xs:ac}{ts:List Str}(K:oT st scope xs ts){it:EM}{body:List AV->Fm->AS->Option (List AV×AS)}{ee tg ie:an}{ifs:List an}{rest:List dR}{pos:Pos}
  (hi:b6 X k it ie)(hs:EC ie=true)(hloop: ∀s L,gX (X.inner scope (Pd X scope) (st.inner scope xs ts).at_ L s) (st.inner scope xs ts)->xB (X.inner scope (Pd X scope) (st.inner scope xs ts).at_ L s) k (.ListComp ee (⟨tg,ie,ifs,0⟩::rest) scope pos) 0 xs body):
  b6 X k (tc it body) (.ListComp ee (⟨tg,ie,ifs,0⟩::rest) scope pos)/\y6 X k (tc it body) (.ListComp ee (⟨tg,ie,ifs,0⟩::rest) scope pos):=
 have hl:=fun s L hL=>hloop s L (adY H K hL)
 have hE:=aa0 (Pi H K) hi (pp hs) hl
 ⟨hE,fun i y py spos hx=>ao4 (m:=swapsWith (.ListComp ee (⟨tg,ie,ifs,0⟩::rest) scope pos) (some (.Name y py)) spos.line X.env) rfl (fun h=>YJ H.ok H.sto hx hE h) fun h=>aeT H.ok H.sto (Pi H K) hi (pp hs) hl hx h⟩
theorem I1(X:FX){scope:dZ}{cl:List (Str×aC)}{nm:Nat->Option Str}{L:aC}{s:az}:(X.inner scope cl nm L s).C=X.C:=rfl
theorem ahw(H:gX X st){xs:ac}(gi:Gd X k st i di)(gc: ∀X' st',X'.C=X.C->gX X' st'->Gd X' k st' c dc)(ge: ∀X' st',X'.C=X.C->gX X' st'->Gd X' k st' a da):Gd X k st (UY xs i c a) (.ofE (eO xs di.e dc.b da.e)):=
 have key: ∀x,(UY xs i c a).e st x=true->b6 X k (tc di.e (eI xs dc.b da.e)) x/\y6 X k (tc di.e (eI xs dc.b da.e)) x:=fun x h=>acP h fun ee gs sc p h=>pq h fun g h=>Z1 h fun tg ie fs h=>aff H h fun ts h hT=>aE h fun h1 h=>aE h fun h2 h=>aE h fun h3 h=>aE h fun h4 h5=>
  Pg H (U0 h3) (gi.e _ h1) h2 fun s L HI=>Tm HI.ok HI.sto afi (hT (U0 h3) s L) ((gc _ _ (I1 X) HI).i _ h4) ((ge _ _ (I1 X) HI).e _ h5)
 Gd.ofE (fun x h=>(key x h).1) fun x h=>(key x h).2
theorem adQ(H:gX X st){x' y':Nat}(gi:Gd X k st i di)(g2: ∀X' st',X'.C=X.C->gX X' st'->Gd X' k st' c dc)(ge: ∀X' st',X'.C=X.C->gX X' st'->Gd X' k st' a da):Gd X k st (Pc x' i y' c a) (.ofE (qL x' di.e y' dc.e da.e)):=
 have key: ∀x,(Pc x' i y' c a).e st x=true->b6 X k (tc di.e (fun l fr σ=>jz x' dc.e y' da.e l (put fr y' .unb) σ)) x/\y6 X k (tc di.e (fun l fr σ=>jz x' dc.e y' da.e l (put fr y' .unb) σ)) x:=fun x h=>acP h fun ee gs sc p h=>wV h fun g g' h=>Z1 h fun tg ie fs h=>Z1 h fun tg' ie' fs' h=>pI h fun nx px h=>pI h fun ny py h=>Jc h fun h=>Jc h fun h=>
  aE h fun h1 h=>aE h fun h2 h=>aE h fun h2' h=>aE h fun h3 h=>aE h fun h4 h5=>
  have K:=U0 h3
  have hxy:x'≠y':=fun e=>(dS.mp K.xnodup).1 (e▸aP.mpr rfl)
  have q:(y'==x')=false:=beq_eq_false_iff_ne.mpr (tu hxy)
  Pg H K (gi.e _ h1) h2 fun s L HI=>aec HI.ok HI.sto (xS H K (by rw[bP,gp])) (xS H K (by rw[bP,cD,q,bP,gp])) hxy ((g2 _ _ (I1 X) HI).e _ h4) (pp h2') ((ge _ _ (I1 X) HI).e _ h5)
 Gd.ofE (fun x h=>(key x h).1) fun x h=>(key x h).2
end
theorem aax{a:AV}{x:an}(h:nlA a x=true):b6 X k (ba a) x/\jP x=true:=by
 unfold nlA at h
 cases a with
 |lst l=>
  refine aE h fun h1 h2=>acS h2 fun es p h2=> ?_
  rw[dM.mp h1,dM.mp h2]
  exact⟨amT,rfl⟩
 |_=>exact ff h
theorem adg(hk:5<=k){FN:List Str}{Γ:cF}(t:T): ∀(X:FX) (st:SI),Si X.C FN->Ky X.C k Γ->gX X st->Gd X k st (ck FN Γ.nms t) (gS Γ t):=by
 induction t with
 |nop=>exact fun X st hF eU H=>alR
 |cst a=>exact fun X st hF eU H=>Gd.ofE' H fun x h=>rE h ZI aax
 |var i=>exact fun X st hF eU H=>alW H
 |glb g=>exact fun X st hF eU H=>alL eU H
 |bin op a b ga gb=>exact fun X st hF eU H=>alI H (ga X st hF eU H) (gb X st hF eU H)
 |neg a ga=>exact fun X st hF eU H=>alP H (ga X st hF eU H)
 |not a ga=>exact fun X st hF eU H=>alS H (ga X st hF eU H)
 |and a b ga gb=>exact fun X st hF eU H=>Gd.bool H (ga X st hF eU H) (gb X st hF eU H) (fun _ _ _ h1 h2=>k8.and h1 h2) fun _ _ h1 h2=>pR.and h1 h2
 |or a b ga gb=>exact fun X st hF eU H=>Gd.bool H (ga X st hF eU H) (gb X st hF eU H) (fun _ _ _ h1 h2=>k8.or h1 h2) fun _ _ h1 h2=>pR.or h1 h2
 |ife c a b gc ga gb=>exact fun X st hF eU H=>alN H (gc X st hF eU H) (ga X st hF eU H) (gb X st hF eU H)
 |cmp op a b ga gb=>exact fun X st hF eU H=>alJ hk H (ga X st hF eU H) (gb X st hF eU H)
 |cmp2 op op' a b c ga gb gc=>exact fun X st hF eU H=>ahv hk H (ga X st hF eU H) (gb X st hF eU H) (gc X st hF eU H)
 |atr kk a ga=>exact fun X st hF eU H=>alH hF H (ga X st hF eU H)
 |idx a i ga gi=>exact fun X st hF eU H=>alM H (ga X st hF eU H) (gi X st hF eU H)
 |slc a lo hi ga gl gh=>exact fun X st hF eU H=>alU H (ga X st hF eU H) (gl X st hF eU H) (gh X st hF eU H)
 |lst l gl=>exact fun X st hF eU H=>alO H (gl X st hF eU H)
 |tup l gl=>exact fun X st hF eU H=>alV H (gl X st hF eU H)
 |dic=>exact fun X st hF eU H=>alK H
 |dicI k1 k2 a b=>exact fun X st hF eU H=>Gd.ofE' H fun x h=>ZQ h
 |rep c a ga=>exact fun X st hF eU H=>alT H (ga X st hF eU H)
 |call f l gl=>exact fun X st hF eU H=>ahu eU H (gl X st hF eU H)
 |meth n o l go gl=>exact fun X st hF eU H=>ahy eU H (go X st hF eU H) (gl X st hF eU H)
 |nil=>exact fun X st hF eU H=>alQ
 |cons a l ga gl=>exact fun X st hF eU H=>ahx (ga X st hF eU H) (gl X st hF eU H)
 |comp xs it c elt gi gc ge=>exact fun X st hF eU H=>ahw H (gi X st hF eU H) (fun X' st' e HI=>gc X' st' (e▸hF) (e▸eU) HI) (fun X' st' e HI=>ge X' st' (e▸hF) (e▸eU) HI)
 |comp2 x it y it2 elt gi g2 ge=>exact fun X st hF eU H=>adQ H (gi X st hF eU H) (fun X' st' e HI=>g2 X' st' (e▸hF) (e▸eU) HI) (fun X' st' e HI=>ge X' st' (e▸hF) (e▸eU) HI)
end
end
end
section
open PySem.SeqAt
noncomputable section
section
variable{k:Nat}{X:FX}{st:SI}
theorem on(H:gX X st){i:Nat}{x:Str}(h:pj st i x=true):km X i x:=aE h fun h1 h=>
 ⟨by rw[H.nm];exact Hx h1,rE h (fun h=>.inl ((H.kind x).trans ((KP _ _).symm.trans (ag h)))) fun h=>aE h fun h2 h3=>
  have h3:=(KP _ _).symm.trans (ag h3)
  anh (H.cells x (.inl (dN h3))) fun c hc=>.inr ⟨(H.kind x).trans h3,c,hc,H.own h2 _ _ hc⟩⟩
theorem Ts(H:gX X st){is:ac}: ∀{ts:List an},CV st is ts=true->qg X is ts:=by
 induction is with
 |nil=>exact fun h=>Jc h fun _=>.nil
 |cons i is ih=>exact fun h=>Vd h fun t r h=>aE h fun h1 h2=>pI h1 fun n p h1=>.cons (on H h1) (ih h2)
@[elab_as_elim] theorem anI {α:Type} {l:List α} {Q:List α->Prop} (h:bz 1 l.length=true) (kk: ∀i j r,Q (i::j::r)):Q l:=by
 cases l with
 |nil=>exact ff h
 |cons i l=>cases l with
  |nil=>exact ff h
  |cons j r=>exact kk i j r
theorem alA{e:Env}{n:List (Str×cQ)}(h1:e.scope.names=n)(h2:e.scope.kind= .function){st:SI}(h3:n=st.names){ts:List an}{v:an}:swappedStores ts v e=swappedStores ts v (agx st):=by
 cases e with
 |mk sc=>cases sc with
  |mk kd nm=>subst h2;subst h1;subst h3;rfl
structure xj(X:FX)(k:Nat)(st:SI)(c:sX)(m:SM):Prop where
 s: ∀x,c.s st x=true->lJ X k m x
 ss: ∀x,c.ss st x=true->mQ X k m x
 g:c.g st=true-> ∀W fr σ s,St X W fr σ s-> ∀r,m fr σ=some r-> ∃W' fr' ai,r= .next fr' ai/\W.le W'/\St X W' fr' ai s
theorem xj.one{c:SI->bV->Bool}{m:SM}(h: ∀x,c st x=true->lJ X k m x):xj X k st (.one c) m:=⟨h,fun _ h=>ff h,fun h=>ff h⟩
theorem Yo(H:gX X st){is:ac}{names:List Str}{ts:List an}{c:Nat}{m:EM}{e:an}{p p':Pos}(h:(aiF st is names||aiG st is names)=true)(hm:b6 X k m e)(hc:jP e=true):swappedStores [.Tuple ts c p'] e X.env=pure (some names)->
  lJ X k (cT is m) (.Assign [.Tuple ts c p'] e p):=
 rE h (fun h=>wV h fun i j h=>wV h fun x y h=>aE h fun h1 h=>aE h fun h2 h3 hw=>aeW H.ok H.sto (on H h1) (on H h2) (of_decide_eq_false (pn h3)) hm hc hw)
  fun h=>YU h fun i j l h=>YU h fun x y z h=>aE h fun h1 h=>aE h fun h2 h=>aE h fun h3 h=>aE h fun h4 h=>aE h fun h5 h6 hw=>aaX H.ok H.sto (on H h1) (on H h2) (on H h3) (of_decide_eq_false (pn h4)) (of_decide_eq_false (pn h5)) (of_decide_eq_false (pn h6)) hm hc hw
theorem W1(H:gX X st){is:ac}{ts:List an}{c:Nat}{m:EM}{e:an}{p p':Pos}(h:abE st is (.Tuple ts c p') ts e=true)(hm:b6 X k m e)(hc:jP e=true):lJ X k (cT is m) (.Assign [.Tuple ts c p'] e p):=
 afG (Q:=fun m'=>swappedStores [.Tuple ts c p'] e X.env=m'->lJ X k (cT is m) (.Assign [.Tuple ts c p'] e p)) h (fun o h hw=>match o,h,hw with
  |none,h,hw=>aE h fun h1 h2=>anI (Q:=fun is=>CV st is ts=true->lJ X k (cT is m) (.Assign [.Tuple ts c p'] e p)) h1 (fun i j r h2=>aeV H.ok H.sto (Ts H h2) hm hc hw) h2
  |some names,h,hw=>Yo H h hm hc hw) (alA H.names H.ok.kind rfl)
theorem ad1{e:T}{Q:T->Prop}(h:PR e=true)(kk:Q (.cst .none)):Q e:=pK h fun hc h=>T.cst.elim (motive:=fun x=> ∀hc:x.ctorIdx=1,T.cst.elim (motive:=fun _=>Bool) x hc (fun a=>(s9 a (some ())).isSome)=true->Q x) e hc (fun a _ h=>by
 cases a<;>first|exact ff h|exact kk) hc h
variable{e c i o it:Ck}{d dc di do_:D}{a b:sX}{m n:SM}{FN:List Str}{Γ:cF}
theorem ahQ(H:gX X st)(ge:Gd X k st e d):xj X k st (Xf e) (k9 d.e):=.one fun x h=>ajC h fun v p h=>aE h fun h1 h2=>ae3 H.sto (ge.e _ h2) h1
theorem al0(H:gX X st){j:Nat}(ge:Gd X k st e d):xj X k st (abM j e) (cT [j] d.e):=.one fun x h=>EH h fun ts v p h=>pq h fun t h=>pI h fun y p' h=>aE h fun h1 h2=>ge.u _ h2 _ _ _ _ (on H h1)
theorem ahO(H:gX X st){is:ac}(ge:Gd X k st e d):xj X k st (Xd is e) (cT is d.e):=.one fun x h=>EH h fun ts v p h=>pq h fun t h=>am0 h fun q c p' h=>aE h fun h1 h=>aE h fun h2 h3=>W1 H h3 (ge.e _ h2) h1
theorem ahM(hF:Si X.C FN){kk:Nat}(go:Gd X k st o do_)(ge:Gd X k st e d):xj X k st (Xb FN kk o e) (lU kk do_.e d.e):=.one fun x h=>EH h fun ts v p h=>pq h fun t h=>NX h fun q n p' h=>aE h fun h0 h=>aE h fun h1 h2=>(hF _ _ (Hx h0)).2▸aeS (hF _ _ (Hx h0)).1 (ge.e _ h2) (go.e _ h1)
theorem ahN(go:Gd X k st o do_)(gi:Gd X k st i di)(ge:Gd X k st e d):xj X k st (Xc o i e) (Qx do_.e di.e d.e):=.one fun x h=>EH h fun ts v p h=>pq h fun t h=>abm h fun q j p' h=>aE h fun h0 h=>aE h fun h1 h2=>aeU (ge.e _ h2) (go.e _ h0) (gi.e _ h1)
theorem aon(gc:Gd X k st c dc)(ga:xj X k st a m)(gb:xj X k st b n):xj X k st (af8 c a b) (sb dc.b m n):=.one fun x h=>apv h fun t l r p h=>aE h fun h0 h=>aE h fun h1 h2=>amS (gc.b _ h0) (ga.ss _ h1) (gb.ss _ h2)
theorem al4(gc:Gd X k st c dc)(gb:xj X k st b n){j:Nat}:xj X k st (abQ c b) (TG dc.b n j):=.one fun x h=>ajE h fun t l r p h=>Jc h fun h=>aE h fun h0 h1=>aa1 (gc.b _ h0) (gb.ss _ h1)
theorem alE(H:gX X st){xs:ac}{t:an}(h:aho st xs t=true):Sy X xs t:=rE h (fun h=>pq h fun i h=>pI h fun y p h=>HH H.ok H.sto (on H h)) fun h=>abn h fun q c p h=>aE h fun h1=>anI h1 fun i j r h2=>Ld H.ok H.sto (Ts H h2)
theorem al1(H:gX X st){xs:ac}(gi:Gd X k st it di)(gb:xj X k st b n):xj X k st (abN xs it b) (gE xs di.e n):=.one fun x h=>amK h fun t j l r p h=>Jc h fun h=>aE h fun h1 h=>aE h fun h2 h=>aE h fun h3 h4=>aks (gi.e _ h3) (alE H h1) (gb.ss _ h4) (pp h2)
theorem al3{Γ:cF}{t:T}{FN:List Str}(ge:Gd X k st (ck FN Γ.nms t) (gS Γ t)):xj X k st (abP (PR t) (ck FN Γ.nms t)) (eK (gS Γ t).e):=.one fun x h=>aeB h fun o p h=>match o,h with
 |some v,h=>akz (ge.e _ h)
 |none,h=>ad1 (Q:=fun t=>lJ X k (eK (gS Γ t).e) (.Return none p)) h ae8
theorem al2(H:gX X st){j:Nat}:xj X k st (abO j) (Qy j):=⟨fun _ h=>ff h,fun _ h=>ff h,fun h=>(fg.mp h).elim fun y hy=>aht (y:=y) (by rw[H.nm];exact hy)⟩
theorem ahP(ga:xj X k st a m)(gb:xj X k st b n):xj X k st (Xe a b) (aV m n):=⟨fun _ h=>ff h,fun xs h=>rE h (fun h=>aE h fun h1 h2=>YL (ga.g h1) (gb.ss _ h2)) fun h=>Vd h fun x r h=>aE h fun h1 h2=>aa2 (ga.s _ h1) (gb.ss _ h2),fun h=>ff h⟩
theorem ZA(hk:5<=k){FN:List Str}(hF:Si X.C FN){Γ:cF}(eU:Ky X.C k Γ)(H:gX X st)(t:TS):xj X k st (ckS FN Γ.nms t) (cg Γ t):=by
 have g:=fun t=>adg hk t X st hF eU H
 induction t with
 |bad=>exact⟨fun _ _ A R W fr σ s T r e=>nn e,fun _ h=>ff h,fun h=>ff h⟩
 |expr e=>exact ahQ H (g e)
 |asg i e=>exact al0 H (g e)
 |asgT is e=>exact ahO H (g e)
 |asgA kk o e=>exact ahM hF (g o) (g e)
 |asgI o i e=>exact ahN (g o) (g i) (g e)
 |ifs c a b ga gb=>exact aon (g c) ga gb
 |whl c b gb=>exact al4 (g c) gb
 |for_ xs it b gb=>exact al1 H (g it) gb
 |ret e=>exact al3 (g e)
 |cont=>exact .one fun x h=>amJ h fun p _=>ae1
 |frz i=>exact al2 H
 |nil=>exact⟨fun _ h=>ff h,fun xs h=>Jc h fun _=>afa,fun h=>ff h⟩
 |cons a b ga gb=>exact ahP ga gb
end
end
end
section
open PySem.SeqAt
noncomputable section
section
variable{k:Nat}{C:PC}
noncomputable def SO(d:Bj)(f:gK->Bool):Bool:=match d with
 | .func fd=>f fd
 |_=>false
@[elab_as_elim] theorem ZK {Q:Bj->Prop} {d:Bj} {f:gK->Bool} (h:SO d f=true) (k: ∀fd,f fd=true->Q (.func fd)):Q d:=by
 cases d<;>first|exact ff h|exact k _ h
noncomputable def W3(d:N0)(f:List bV->Bool):Bool:=match d with
 | .stmts b=>f b
 |_=>false
@[elab_as_elim] theorem afI {Q:N0->Prop} {d:N0} {f:List bV->Bool} (h:W3 d f=true) (k: ∀b,f b=true->Q (.stmts b)):Q d:=by
 cases d<;>first|exact ff h|exact k _ h
def RQ(K:dL)(n:Nat)(dfl:aa)(nm:List (Nat×Str))(fd:gK)(ps:List Str):Bool:=
 codeIn K fd.code fd.qualname&&(fd.closure.isEmpty&&(fd.globals==mainGlobals&&(fd.builtins==builtinsNs&&(fd.scope.kind== .function&&(!fd.scope.isCoroutine&&(!fd.scope.isGenerator&&
 (fd.params.posonlyargs.isEmpty&&(fd.params.kwonlyargs.isEmpty&&(fd.params.vararg.isNone&&(fd.params.kwarg.isNone&&(ps.length==n&&(cX dfl.length n&&(agl K dfl fd.defaults&&(pk ps&&
 (ps.all (fun x=>fd.scope.names.lookup x==some .local||fd.scope.names.lookup x==some .cell)&&(((cB n).zip ps).all (fun p=>nm.lookup p.1==some p.2)&&(nm.all (fun p=>zu p.2)&&(pk (nm.map (·.2))&&
 fd.scope.names.all (fun y=>y.2 != .free)))))))))))))))))))
def fnB(K:dL)(FN:List Str)(f:aC)(n:Nat)(dfl:aa)(nm:List (Nat×Str))(N:Wt)(t:TS):Bool:=CZ (K.lookup f) fun o=>SO o.data fun fd=>W3 fd.body fun body=>RQ K n dfl nm fd (fd.params.args.map (·.arg))&&(ckS FN N t).ss ⟨fd.scope.names,nm,true⟩ body
theorem abq{ps:List Str}{i:Nat}{x:Str}(h:ps[i]? =some x):(i,x)∈(cB ps.length).zip ps:=by
 rw[List.mem_iff_getElem?]
 refine⟨i,?_⟩
 have hi:=(cU.mp h).1
 rw[sS]
 exact⟨by simp[hi],h⟩
structure FdB(K:dL)(n:Nat)(dfl:List AV)(nm:List (Nat×Str))(fd:gK)(ps:List Str):Prop where
 h1:codeIn K fd.code fd.qualname=true
 h2:fd.closure.isEmpty=true
 h3:(fd.globals==mainGlobals)=true
 h4:(fd.builtins==builtinsNs)=true
 h5:(fd.scope.kind== .function)=true
 h6:(!fd.scope.isCoroutine)=true
 h7:(!fd.scope.isGenerator)=true
 h8:fd.params.posonlyargs.isEmpty=true
 h9:fd.params.kwonlyargs.isEmpty=true
 ha:fd.params.vararg.isNone=true
 hb:fd.params.kwarg.isNone=true
 hc:(ps.length==n)=true
 hd:cX dfl.length n=true
 he:agl K dfl fd.defaults=true
 hf:pk ps=true
 hg:ps.all (fun x=>fd.scope.names.lookup x==some .local||fd.scope.names.lookup x==some .cell)=true
 hi:((cB n).zip ps).all (fun p=>nm.lookup p.1==some p.2)=true
 hj:nm.all (fun p=>zu p.2)=true
 hk:pk (nm.map (·.2))=true
 hl:fd.scope.names.all (fun y=>y.2 != .free)=true
theorem FdB.of{K:dL}{n:Nat}{dfl:aa}{nm:List (Nat×Str)}{fd:gK}{ps:List Str}(h:RQ K n dfl nm fd ps=true):FdB K n dfl nm fd ps:=
 aE h fun h1 h=>aE h fun h2 h=>aE h fun h3 h=>aE h fun h4 h=>aE h fun h5 h=>aE h fun h6 h=>aE h fun h7 h=>aE h fun h8 h=>aE h fun h9 h=>aE h fun h10 h=>aE h fun h11 h=>aE h fun h12 h=>aE h fun h13 h=>aE h fun h14 h=>aE h fun h15 h=>aE h fun h16 h=>aE h fun h17 h=>aE h fun h18 h=>aE h fun h19 h20=>⟨h1,h2,h3,h4,h5,h6,h7,h8,h9,h10,h11,h12,h13,h14,h15,h16,h17,h18,h19,h20⟩
theorem ahm{f:aC}{o:Obj}(ho:C.K.lookup f=some o){n:Nat}{dfl:aa}{nm:List (Nat×Str)}{fd:gK}{body:List bV}(hd:o.data= .func fd)(hb:fd.body= .stmts body){ps:List Str}(hps:fd.params.args.map (·.arg)=ps)(h:RQ C.K n dfl nm fd ps=true):
  ps.length=n/\afs C f fd body ps dfl (⟨fd.scope.names,nm,true⟩:SI).at_/\ ∀X,abu C fd (⟨fd.scope.names,nm,true⟩:SI).at_ X->gX X ⟨fd.scope.names,nm,true⟩:=
 by
 have H:=FdB.of h
 have h5:=beq_iff_eq.mp H.h5
 obtain rfl:ps.length=n:=beq_iff_eq.mp H.hc
 have hdl:=av H.hd
 refine⟨rfl,⟨⟨o,ho,hd⟩,H.h1,hb,dM.mp H.h2,beq_iff_eq.mp H.h3,beq_iff_eq.mp H.h4,h5,pn H.h6,pn H.h7,fun W σ s args vs R hv hl hl2=> ?_,ke H.hf,fun x hx=> ?_,fun i x hi hx=> ?_,fun i x hx=> ?_⟩,fun X B=> ?_⟩
 ·obtain⟨d,hd1,hd2⟩:=ZP (s:=s) H.he R
  have hlen:=hd1.length
  have hvl:=hv.length
  refine⟨vs++(d.getD #[]).toList.drop (vs.length+(d.getD #[]).toList.length -ps.length),?_,W8 (dM.mp H.h8) (dM.mp H.h9) (dG.mp H.ha) (dG.mp H.hb) hps hd2 rfl (by rw[hvl];exact hl) (by rw[hvl,hlen];exact hl2) (by rw[hlen];exact hdl) (ke H.hf)⟩
  rw[hlen,hvl]
  exact hv.append (hd1.drop _)
 ·exact rE (bZ.mp H.hg x hx) (fun h=>.inl (beq_iff_eq.mp h)) fun h=>.inr (beq_iff_eq.mp h)
 ·have hp:ps[i]? =some ps[i]:=fb hi
  have hz:=beq_iff_eq.mp (bZ.mp H.hi _ (abq hp))
  exact hp.trans (hz.symm.trans hx)
 ·exact pn (bZ.mp H.hj _ (dN hx))
 ·refine⟨by rw[B.scope],B.nm,B.ok,⟨fun i j x hi hj=> ?_,?_⟩,fun n hn=> ?_,fun _=>B.own⟩
  ·rw[B.nm]at hi hj
   exact Lg (ke H.hk) (dN hi) (dN hj)
  ·unfold interactive;rw[B.scope,h5];rfl
  ·exact hn.elim (B.cells n) fun hn=>absurd rfl (bne_iff_ne.mp (bZ.mp H.hl _ hn))
theorem adM{f:aC}{o:Obj}(ho:C.K.lookup f=some o){n:Nat}{dfl:aa}{nm:List (Nat×Str)}{fd:gK}{body:List bV}(hd:o.data= .func fd)(hb:fd.body= .stmts body){ps:List Str}(hps:fd.params.args.map (·.arg)=ps){b:SM}(h:RQ C.K n dfl nm fd ps=true)
  (hs: ∀X:FX,X.C=C->gX X ⟨fd.scope.names,nm,true⟩->mQ X k b body):pS C (k+1) (.ref f) (bn n dfl b):=by
 obtain⟨rfl,F,H⟩:=ahm ho hd hb hps h
 exact akn F fun X B=>hs X B.C (H X B)
theorem adN(hk:5<=k){FN:List Str}(hF:Si C FN){Γ:cF}(eU:Ky C k Γ){f:aC}{n:Nat}{dfl:aa}{nm:List (Nat×Str)}{t:TS}(h:fnB C.K FN f n dfl nm Γ.nms t=true):pS C (k+1) (.ref f) (bn n dfl (cg Γ t)):=Jg h fun o ho h=>
 ZK (d:=o.data) (Q:=fun d=>o.data=d->pS C (k+1) (.ref f) (bn n dfl (cg Γ t))) h (fun fd h hd=>afI (d:=fd.body) (Q:=fun b=>fd.body=b->pS C (k+1) (.ref f) (bn n dfl (cg Γ t))) h (fun body h hb=>aE h fun h1 h2=>
  adM ho hd hb rfl h1 fun X e H=>(ZA hk (e▸hF) (e▸eU) H t).ss _ h2) rfl) rfl
end
end
end
section
mutual
def uK(f:Nat->Option Nat):AV->Option AV
 | .ref a=>(f a).map .ref
 | .tup l=>(oq f l).map .tup
 | .lst l=>(oq f l).map .lst
 | .frz c ks l=>(oq f l).map (.frz c ks)
 | .dct ks l=>(oq f l).map (.dct ks)
 | .dcti ks l=>(oq f l).map (.dcti ks)
 | .unb=>some .unb
 | .none=>some .none
 | .opq=>some .opq
 | .bool b=>some (.bool b)
 | .int i=>some (.int i)
 | .str s=>some (.str s)
 | .bytes s=>some (.bytes s)
 | .rng a b=>some (.rng a b)
 | .glob v=>some (.glob v)
def oq(f:Nat->Option Nat):List AV->Option (List AV)
 |[]=>some []
 |a::l=>ob (uK f a) fun b=>ob (oq f l) fun m=>some (b::m)
end
def acB(f:Nat->Option Nat):bJ->Option bJ
 | .lst l=>(oq f l).map .lst
 | .inst c ks l=>(oq f l).map (.inst c ks)
 | .dct ks l=>(oq f l).map (.dct ks)
 | .orc k l=>some (.orc k l)
noncomputable def ixN:Nat->List Nat->Nat->Option Nat
 |_,[],_=>none
 |n,b::r,a=>bif aj a b then some n else ixN (n+1) r a
def XH(f:Nat->Option Nat)(σ:AS):Nat->List Nat->Option (List (Nat×bJ))
 |_,[]=>some []
 |n,b::r=>ob (σ.get b) fun c=>ob (acB f c) fun c'=>ob (XH f σ (n+1) r) fun m=>some ((n,c')::m)
noncomputable def FY(a:Nat):List Nat->Bool
 |[]=>false
 |b::r=>aj a b||FY a r
noncomputable def ndN:List Nat->Bool
 |[]=>true
 |a::r=> !FY a r&&ndN r
def imp(f:Nat->Option Nat)(ids:ac)(n:Nat)(cells:List (Nat×bJ))(a:AV)(ai:AS):Option (AV×AS):=bif ndN ids then ob (uK f a) (fun b=>ob (XH f ai n ids) fun cs=>some (b,⟨n+ids.length,cs++cells⟩))else none
def vR(pick:AV->AS->List Nat)(F:aW):aW:=fun args σ=>bif aN args then bD (F args ⟨0,[]⟩) (fun a ai=>imp (ixN σ.next (pick a ai)) (pick a ai) σ.next σ.cells a ai)else none
noncomputable def XO(r n:Nat)(ids:ac):Nat->Option Nat
 |0=>some r
 |a+1=>ixN n ids (a+1)
def sz{β:Type}(σ:AS)(x:Nat)(f:Nat->List AV->Option β):Option β:=ob (σ.get x) fun c=>match c with
 | .orc k l=>f k l
 |_=>none
theorem F0{β:Type}{σ:AS}{x:Nat}{f:Nat->List AV->Option β}{r:β}{P:Prop}(h:sz σ x f=some r)(k: ∀n l,σ.get x=some (.orc n l)->f n l=some r->P):P:=oE h fun c hc h=>by
 cases c with
 |orc n l=>exact k n l hc h
 |_=>exact nn h
def rh{α β:Type}(l:List α)(f:α->List α->Option β):Option β:=bu (motive:=fun _=>Option β) none (fun a r _=>f a r) l
@[elab_as_elim] theorem kJ {α β:Type} {Q:List α->Prop} {l:List α} {f:α->List α->Option β} {r:β} (h:rh l f=some r) (k: ∀a m,f a m=some r->Q (a::m)):Q l:=by
 cases l with
 |nil=>exact nn h
 |cons a m=>exact k a m h
def um(pick:AV->AS->List Nat)(F:aW):aW:=fun args σ=>rh args fun a as=>io a fun r=>bif aN as then sz σ r (fun k l=>bD (F (.ref 0::as) ⟨1,[(0,.orc k l)]⟩) fun a ai=>sz ai 0 fun k' l'=>bif FY 0 (pick a ai)then none else imp (XO r σ.next (pick a ai)) (pick a ai) σ.next (ly r (.orc k' l') σ.cells) a ai)else none
section
variable{k:Nat}{C:PC}{W W' W'':Wd}{σ ai:AS}{h h':bM}
theorem I9{α β:Type}{o:Option α}{g:α->β}{b:β}{P:β->Prop}(e:o.map g=some b)(k: ∀a,o=some a->P (g a)):P b:=by
 cases o with
 |none=>exact nn e
 |some a=>exact s1 e (k a rfl)
mutual
theorem acA{f:Nat->Option Nat}(xR: ∀i j p,f i=some j->W.ρ i=some p->W'.ρ j=some p)(hi: ∀x o,W.im x=some o->W'.im x=some o):
  ∀{a b:AV} {v:ah},uK f a=some b->V C W a v->V C W' b v
 | .unb,_,_,e,q=>q.elim
 | .none,b,v,e,q=>s1 (P:=fun b=>V C W' b v) e q
 | .opq,b,v,e,q=>s1 (P:=fun b=>V C W' b v) e trivial
 | .bool _,b,v,e,q=>s1 (P:=fun b=>V C W' b v) e q
 | .int _,b,v,e,q=>s1 (P:=fun b=>V C W' b v) e q
 | .str _,b,v,e,q=>s1 (P:=fun b=>V C W' b v) e q
 | .bytes _,b,v,e,q=>s1 (P:=fun b=>V C W' b v) e q
 | .tup l,b,v,e,q=>I9 (P:=fun b=>V C W' b v) e fun m e1=>q.tupE fun x n vs q r=>⟨x,n,vs,rfl,hi _ _ q,qQ xR hi e1 r⟩
 | .lst l,b,v,e,q=>I9 (P:=fun b=>V C W' b v) e fun m e1=>q.lstE fun x n vs q r=>⟨x,n,vs,rfl,hi _ _ q,qQ xR hi e1 r⟩
 | .frz c ks l,b,v,e,q=>I9 (P:=fun b=>V C W' b v) e fun m e1=>q.frzE fun x d es n vs q0 q1 q2 r z=>⟨x,d,es,n,vs,rfl,q0,hi _ _ q1,hi _ _ q2,qQ xR hi e1 r,z⟩
 | .dct ks l,b,v,e,q=>I9 (P:=fun b=>V C W' b v) e fun m e1=>q.dctE fun x o vs q0 q1 r z=>⟨x,o,vs,rfl,q0,hi _ _ q1,qQ xR hi e1 r,z⟩
 | .dcti ks l,b,v,e,q=>I9 (P:=fun b=>V C W' b v) e fun m e1=>q.dctiE fun x o vs q0 q1 r z=>⟨x,o,vs,rfl,q0,hi _ _ q1,qQ xR hi e1 r,z⟩
 | .rng _ _,b,v,e,q=>s1 (P:=fun b=>V C W' b v) e (q.rngE fun x t u w q z1 z2=>⟨x,t,u,w,rfl,hi _ _ q,z1,z2⟩)
 | .ref _,b,v,e,q=>I9 (P:=fun b=>V C W' b v) e fun m e1=>q.refE fun p e=>⟨p,xR _ _ _ e1 e,rfl⟩
 | .glob _,b,v,e,q=>s1 (P:=fun b=>V C W' b v) e q
theorem qQ{f:Nat->Option Nat}(xR: ∀i j p,f i=some j->W.ρ i=some p->W'.ρ j=some p)(hi: ∀x o,W.im x=some o->W'.im x=some o):
  ∀{l m:List AV} {vs:List ah},oq f l=some m->VL C W l vs->VL C W' m vs
 |[],m,vs,e,q=>s1 (P:=fun m=>VL C W' m vs) e q
 |a::l,m,vs,e,q=>q.consE fun v r q1 q2=>oE (show ob (uK f a) (fun b=>ob (oq f l) fun m=>some (b::m))=some m from e) fun b hb e=>oE e fun m' hm e=>s1 (P:=fun m=>VL C W' m (v::r)) e ⟨v,r,rfl,acA xR hi hb q1,qQ xR hi hm q2⟩
end
mutual
theorem uv{f:Nat->Option Nat}: ∀{a:AV},noRef a=true->uK f a=some a
 | .unb,_=>rfl
 | .none,_=>rfl
 | .opq,_=>rfl
 | .bool _,_=>rfl
 | .int _,_=>rfl
 | .str _,_=>rfl
 | .bytes _,_=>rfl
 | .tup l,e=>by show(oq f l).map _=_;rw[jA (l:=l) e];rfl
 | .lst l,e=>by show(oq f l).map _=_;rw[jA (l:=l) e];rfl
 | .frz c ks l,e=>by show(oq f l).map _=_;rw[jA (l:=l) e];rfl
 | .dct ks l,e=>by show(oq f l).map _=_;rw[jA (l:=l) e];rfl
 | .dcti ks l,e=>by show(oq f l).map _=_;rw[jA (l:=l) e];rfl
 | .rng _ _,_=>rfl
 | .ref _,e=>by cases e
 | .glob _,_=>rfl
theorem jA{f:Nat->Option Nat}: ∀{l:aa},aN l=true->oq f l=some l
 |[],_=>rfl
 |a::l,e=>by
  have e:(noRef a&&aN l)=true:=e
  rw[cK]at e
  show ob (uK f a) _=_
  rw[uv e.1]
  show ob (oq f l) _=_
  rw[jA e.2];rfl
end
theorem xX(hi: ∀x o,W.im x=some o->W'.im x=some o){l:aa}{vs:List ah}(e:aN l=true)(q:VL C W l vs):VL C W' l vs:=
 qQ (f:=fun _=>none) (fun _ _ _ e=>by cases e) hi (jA e) q
theorem RN(hi: ∀x o,W.im x=some o->W'.im x=some o){p:aC×aC}{c:bJ}(e:Eo c=true)(x:iQ C W h p c):iQ C W' h p c:=by
 cases c with
 |lst _=>obtain⟨a,vs,n,b,r⟩:=x;exact⟨a,vs,n,b,xX hi e r⟩
 |inst cc ks fs=>obtain⟨q0,a,es,n,vs,b,r,z⟩:=x;exact⟨q0,hi _ _ a,es,n,vs,b,xX hi e r,z⟩
 |dct ks fs=>obtain⟨a,q0,o,vs,b,r,z⟩:=x;exact⟨a,q0,o,vs,b,xX hi e r,z⟩
 |orc=>exact x
theorem zb(hi: ∀x o,W.im x=some o->W'.im x=some o){p:aC×aC}{kk:Nat}{l:aa}(x:d5 C W h p (.orc kk l)):d5 C W' h p (.orc kk l):=by
 refine eX (x) fun c q x=> ?_
 exact⟨c,q,RN hi (C.concFree _ _ _ q) x⟩
theorem amz{f:Nat->Option Nat}(xR: ∀i j p,f i=some j->W.ρ i=some p->W'.ρ j=some p)(hi: ∀x o,W.im x=some o->W'.im x=some o){p:aC×aC}{c c':bJ}(e:acB f c=some c')(x:d5 C W h p c):d5 C W' h p c':=by
 cases c with
 |lst _=>exact I9 (P:=fun c'=>d5 C W' h p c') e fun m e1=>let⟨a,vs,n,b,r⟩:=x;⟨a,vs,n,b,qQ xR hi e1 r⟩
 |inst cc ks fs=>exact I9 (P:=fun c'=>d5 C W' h p c') e fun m e1=>let⟨q0,a,es,n,vs,b,r,z⟩:=x;⟨q0,hi _ _ a,es,n,vs,b,qQ xR hi e1 r,z⟩
 |dct ks fs=>exact I9 (P:=fun c'=>d5 C W' h p c') e fun m e1=>let⟨a,q0,o,vs,b,r,z⟩:=x;⟨a,q0,o,vs,b,qQ xR hi e1 r,z⟩
 |orc=>exact s1 (P:=fun c'=>d5 C W' h p c') e (zb hi x)
theorem Td{ids:ac}: ∀{n a j:Nat},ixN n ids a=some j->n<=j/\ids[j-n]? =some a:=by
 induction ids with
 |nil=>exact fun e=>nn e
 |cons b r ih=>
  intro n a j e
  refine bE (show(bif aj a b then some n else ixN (n+1) r a)=some j from e) (fun q e=> ?_) fun _ e=> ?_
  ·refine s1 (P:=fun j=>n<=j/\(b::r)[j-n]? =some a) e ⟨ax _,?_⟩
   rw[Bp,aD q];rfl
  ·obtain⟨h1,h2⟩:=ih e
   refine⟨E0 h1,?_⟩
   rw[<- tI j n,N7 h1];exact h2
theorem aii{a n:Nat}{c:bJ}{l:List (Nat×bJ)}(h:a≠n):lk a ((n,c)::l)=lk a l:=by rw[nj,gg,decide_eq_false h];rfl
theorem aih{n:Nat}{c:bJ}{l:List (Nat×bJ)}:lk n ((n,c)::l)=some c:=by rw[nj,gg,decide_eq_true rfl];rfl
theorem adV{f:Nat->Option Nat}{ids:ac}: ∀{n:Nat} {cs:List (Nat×bJ)},XH f ai n ids=some cs-> ∀(rest:List (Nat×bJ)) (a:Nat),
  (∃i c c',n<=a/\ids[a-n]? =some i/\ai.get i=some c/\acB f c=some c'/\lk a (cs++rest)=some c')\/((a<n\/n+ids.length<=a)/\lk a (cs++rest)=lk a rest):=by
 induction ids with
 |nil=>exact fun{n cs} e rest a=>s1 (P:=fun cs=>_\/((a<n\/n+([]:List Nat).length <=a)/\lk a (cs++rest)=lk a rest)) e (.inr ⟨oM a n,rfl⟩)
 |cons b r ih=>
  intro n cs e rest a
  refine oE (show ob (ai.get b) _=some cs from e) fun c hc e=>oE e fun c' hc' e=>oE e fun m hm e=> ?_
  apply s1 e
  by_cases q:a=n
  ·subst q
   exact .inl ⟨b,c,c',ax _,by rw[Bp];rfl,hc,hc',aih⟩
  ·rw[eZ,aii q]
   rcases ih hm rest a with⟨i,eS,Cw,h1,h2,h3,h4,h5⟩|⟨h1,h2⟩
   ·exact .inl ⟨i,eS,Cw,E0 h1,by rw[<- tI a n,N7 h1];exact h2,h3,h4,h5⟩
   ·refine .inr ⟨h1.imp (fun h=>Nat.lt_of_le_of_ne (EZ h) q) fun h=> ?_,h2⟩
    rw[bQ,<- Nat.succ_add_eq_add_succ];exact h
theorem KS{a:Nat}: ∀{l:ac},FY a l=true↔a∈l
 |[]=>by simp[FY]
 |b::r=>by rw[FY,oG,KS,gg,decide_eq_true_iff,aG]
theorem XZ: ∀{l:ac},ndN l=true->l.Nodup
 |[],_=>l5
 |a::r,e=>by
  rw[ndN,cK,d9]at e
  refine dS.mpr ⟨fun q=> ?_,XZ e.2⟩
  rw[KS.mpr q]at e;cases e.1
def GP(W:Wd)(σ:AS)(ro:Option Nat)(b:aC):Prop:= ∃a c p,some a≠ro/\σ.get a=some c/\W.ρ a=some p/\p.2=b
open Classical in
def Wd.loc(W:Wd)(σ:AS)(h:bM)(ro:Option Nat):Wd:=⟨fun i=>if i=0 then ro.bind W.ρ else none,W.im,fun b=>if GP W σ ro b then h.get? b else W.pr b⟩
noncomputable def PP(n:Nat)(ids:ac)(a:Nat):Option Nat:=if n<=a then ids[a-n]? else none
noncomputable def Wd.imp(W W':Wd)(n:Nat)(ids:ac):Wd:=⟨fun a=>match PP n ids a with
 |some i=>W'.ρ i
 |none=>W.ρ a,W'.im,W.pr⟩
theorem I8{ro:Option Nat}{b:aC}(hb:GP W σ ro b):(W.loc σ h ro).pr b=h.get? b:=if_pos hb
theorem CQ{ro:Option Nat}{b:aC}(hb: ¬GP W σ ro b):(W.loc σ h ro).pr b=W.pr b:=if_neg hb
theorem cC.loc(R:cC C W σ h){ro:Option Nat}{σ0:AS}(hn:1<=σ0.next\/ro=none)(hc: ∀a c,σ0.get a=some c->a=0/\ ∃r kk l,ro=some r/\c= .orc kk l/\σ.get r=some c):cC C (W.loc σ h ro) σ0 h:=by
 refine⟨R.base,R.im,fun b o e=> ?_,fun b o e=> ?_,fun a ha=> ?_,fun a c e=> ?_,fun a b ca cb p q e e' _ _ _=>(hc a ca e).1.trans (hc b cb e').1.symm⟩
 ·by_cases hb:GP W σ ro b
  ·rw[I8 hb]at e;exact e
  ·rw[CQ hb]at e;exact R.pr _ _ e
 ·by_cases hb:GP W σ ro b
  ·obtain⟨a,c,p,_,h2,h3,rfl⟩:=hb
   refine uf (R.cell a c h2) fun p' e' _ h4 _=> ?_
   rw[h3]at e';cases e';exact h4
  ·rw[CQ hb]at e;exact R.dis _ _ e
 ·show(if a=0 then ro.bind W.ρ else none)=none
  rcases hn with hn|rfl
  ·rw[if_neg (by omega)]
  ·split<;>rfl
 ·obtain⟨rfl,r,kk,l,rfl,rfl,hr⟩:=hc a c e
  refine uf (R.cell _ _ hr) fun p a1 a2 a3 a4=> ?_
  refine⟨p,by show(if 0=0 then(some r).bind W.ρ else none)=_;rw[if_pos rfl];exact a1,zb (W':=W.loc σ h (some r)) (W:=W) (fun _ _ e=>e) a2,a3,?_⟩
  rw[CQ]
  ·exact a4
  ·rintro⟨a',c',p',h1,h2,h3,h4⟩
   exact h1 (congrArg some (R.inj _ _ _ _ _ _ h2 hr h3 a1 h4))
abbrev apU(σ ai:AS)(ids:List Nat)(f:Nat->Option Nat)(ro:Option Nat)(a:Nat)(c:bJ):Prop:=
 (∃i eS,σ.next<=a/\ids[a-σ.next]? =some i/\ai.get i=some eS/\acB f eS=some c)\/
   (some a≠ro/\σ.get a=some c)\/(some a=ro/\(∃eS,σ.get a=some eS)/\(∃kk ll,c= .orc kk ll)/\ai.get 0=some c)
abbrev apR(W W':Wd)(σ ai:AS)(ids:List Nat)(ro:Option Nat)(a:Nat)(c:bJ)(p:aC×aC):Prop:=
 (∃i eS,ai.get i=some eS/\W'.ρ i=some p/\W'.pr p.2=none/\((σ.next<=a/\ids[a-σ.next]? =some i)\/(some a=ro/\i=0)))\/(some a≠ro/\σ.get a=some c/\W.ρ a=some p/\ ∃o,W'.pr p.2=some o)
abbrev apO(C:PC)(W:Wd)(h:bM)(a:Nat)(c:bJ):Prop:= ∃p,W.ρ a=some p/\d5 C W h p c/\W.im p.2=none/\W.pr p.2=none
theorem cC.imp(R:cC C W σ h){ro:Option Nat}(l:(W.loc σ h ro).le W')(R':cC C W' ai h'){ids:ac}(hnd:ids.Nodup)(h0:ro≠none->0∉ids)(hro: ∀r,ro=some r-> ∃eS,σ.get r=some eS){cells:List (Nat×bJ)}{cs:List (Nat×bJ)}{f:Nat->Option Nat}
  (hf: ∀i j,f i=some j->(∃r,ro=some r/\i=0/\j=r)\/(σ.next<=j/\ids[j-σ.next]? =some i))(hi:XH f ai σ.next ids=some cs)
  (hcell: ∀a c,lk a cells=some c->(some a≠ro/\σ.get a=some c)\/(some a=ro/\(∃eS,σ.get a=some eS)/\(∃kk ll,c= .orc kk ll)/\ai.get 0=some c)):
  W.le (W.imp W' σ.next ids)/\cC C (W.imp W' σ.next ids) ⟨σ.next+ids.length,cs++cells⟩ h'/\ ∀a b v,uK f a=some b->V C W' a v->V C (W.imp W' σ.next ids) b v:=by
 have hpr:W'.pr=(W.loc σ h ro).pr:=l.2.2
 have lim: ∀x o,W.im x=some o->W'.im x=some o:=fun x o e=>l.2.1 x o e
 have lt: ∀a p,W.ρ a=some p->a<σ.next:=fun a p e=>by
  by_cases q:σ.next<=a
  ·rw[R.fresh a q]at e;cases e
  ·omega
 have old: ∀a,a<σ.next->(W.imp W' σ.next ids).ρ a=W.ρ a:=fun a ha=>by
  show(match PP σ.next ids a with|some i=>W'.ρ i|none=>W.ρ a)=_
  unfold PP;rw[if_neg (by omega)]
 have new: ∀a i,σ.next<=a->ids[a-σ.next]? =some i->(W.imp W' σ.next ids).ρ a=W'.ρ i:=fun a i ha e=>by
  show(match PP σ.next ids a with|some i=>W'.ρ i|none=>W.ρ a)=_
  unfold PP;rw[if_pos ha,e]
 have le:W.le (W.imp W' σ.next ids):=⟨fun a p e=>(old a (lt a p e)).trans e,lim,rfl⟩
 have loc0: ∀r p,ro=some r->W.ρ r=some p->W'.ρ 0=some p:=fun r p hr e=>l.1 0 p (by show(if 0=0 then ro.bind W.ρ else none)=_;rw[if_pos rfl,hr];exact e)
 have nr: ∀r,ro=some r-> ∀p,W'.ρ 0=some p-> ∀eS,σ.get r=some eS->W.ρ r=some p:=fun r hr p e eS hc=>by
  refine eX (R.cell r eS hc) fun p' a1 _=> ?_
  rw[loc0 r p' hr a1]at e;cases e;exact a1
 have xR: ∀i j p,f i=some j->W'.ρ i=some p->(W.imp W' σ.next ids).ρ j=some p:=fun i j p e e'=>by
  rcases hf i j e with⟨r,hr,rfl,rfl⟩|⟨h1,h2⟩
  ·obtain⟨eS,hc⟩:=hro _ hr
   have:=nr _ hr p e' eS hc
   rw[old _ (lt _ _ this)];exact this
  ·rw[new _ _ h1 h2];exact e'
 have Tt: ∀b,W'.pr b=none->(∃o,h.get? b=some o)->W.pr b=none:=fun b e ⟨o,ho⟩=>by
  rw[hpr]at e
  by_cases hb:GP W σ ro b
  ·rw[I8 hb,ho]at e;cases e
  ·rw[CQ hb]at e;exact e
 have wpr: ∀b o,W.pr b=some o->W'.pr b=some o:=fun b o e=>by
  rw[hpr,CQ]
  ·exact e
  ·rintro⟨a,c,p,_,h2,h3,rfl⟩
   refine uf (R.cell a c h2) fun p' e' _ _ h4=> ?_
   rw[h3]at e';cases e'
   rw[h4]at e;cases e
 have npr: ∀b,W'.pr b=none->W.pr b=none:=fun b e=>by
  cases q:W.pr b with
  |none=>rfl
  |some o=>rw[wpr b o q]at e;cases e
 have src: ∀a c,lk a (cs++cells)=some c->
   apU σ ai ids f ro a c:=fun a c e=>by
  rcases adV hi cells a with⟨i,eS,Cw,h1,h2,h3,h4,h5⟩|⟨_,h2⟩
  ·rw[e]at h5;cases h5;exact .inl ⟨i,eS,h1,h2,h3,h4⟩
  ·rw[h2]at e;exact .inr (hcell a c e)
 refine⟨le,⟨R'.base,R'.im,fun b o e=>R'.pr _ _ (wpr b o e),fun b o e=>R'.dis _ _ (wpr b o e),fun a ha=> ?_,fun a c e=> ?_,fun a b ca cb p q e e' ep eq hpq=> ?_⟩,fun a b v e q=>acA xR (fun _ _ e=>e) e q⟩
 ·have ha:σ.next+ids.length<=a:=ha
  show(match PP σ.next ids a with|some i=>W'.ρ i|none=>W.ρ a)=none
  unfold PP
  rw[if_pos (by omega),n6 (by omega)]
  exact R.fresh _ (by omega)
 ·show apO C (W.imp W' σ.next ids) h' a c
  rcases src a c e with⟨i,eS,h1,h2,h3,h4⟩|⟨h1,h2⟩|⟨h1,⟨eS,h2⟩,⟨kk,ll,rfl⟩,h3⟩
  ·refine uf (R'.cell i eS h3) fun p a1 a2 a3 a4=> ?_
   exact⟨p,(new _ _ h1 h2).trans a1,amz xR (fun _ _ e=>e) h4 a2,a3,npr _ a4⟩
  ·refine uf (R.cell a c h2) fun p a1 a2 a3 a4=> ?_
   have ho:GP W σ ro p.2:=⟨a,c,p,h1,h2,a1,rfl⟩
   obtain⟨o,hx⟩:=a2.some
   have hp':W'.pr p.2=some o:=by rw[hpr,I8 ho];exact hx
   exact⟨p,(old _ (lt _ _ a1)).trans a1,(a2.keeps fun o' z=>by rw[hx]at z;cases z;exact R'.pr _ _ hp').mono0 le.to0,R'.dis _ _ hp',a4⟩
  ·refine uf (R'.cell 0 _ h3) fun p a1 a2 a3 a4=> ?_
   have hw:=nr a h1.symm p a1 eS h2
   exact⟨p,(old _ (lt _ _ hw)).trans hw,zb (W':=W.imp W' σ.next ids) (W:=W') (fun _ _ e=>e) a2,a3,npr _ a4⟩
 ·
  have key: ∀a c p,lk a (cs++cells)=some c->(W.imp W' σ.next ids).ρ a=some p->
    apR W W' σ ai ids ro a c p:=fun a c p e ep=>by
   rcases src a c e with⟨i,eS,h1,h2,h3,h4⟩|⟨h1,h2⟩|⟨h1,⟨eS,h2⟩,⟨kk,ll,rfl⟩,h3⟩
   ·rw[new _ _ h1 h2]at ep
    refine uf (R'.cell i eS h3) fun p' a1 a2 a3 a4=> ?_
    rw[ep]at a1;cases a1
    exact .inl ⟨i,eS,h3,ep,a4,.inl ⟨h1,h2⟩⟩
   ·refine uf (R.cell a c h2) fun p' a1 a2 a3 a4=> ?_
    rw[old _ (lt _ _ a1)]at ep
    rw[ep]at a1;cases a1
    obtain⟨o,hx⟩:=a2.some
    exact .inr ⟨h1,h2,ep,o,by rw[hpr,I8 ⟨a,c,p,h1,h2,ep,rfl⟩];exact hx⟩
   ·refine uf (R'.cell 0 _ h3) fun p' a1 a2 a3 a4=> ?_
    have hw:=nr a h1.symm p' a1 eS h2
    rw[old _ (lt _ _ hw),hw]at ep;cases ep
    exact .inl ⟨0,_,h3,a1,a4,.inr ⟨h1,rfl⟩⟩
  rcases key a ca p e ep with⟨i,eS,i1,i2,i3,i4⟩|⟨h1,h2,h3,o,h4⟩
  ·rcases key b cb q e' eq with⟨j,Cw,j1,j2,j3,j4⟩|⟨h1',h2',h3',o',h4'⟩
   ·have hij:=R'.inj i j _ _ _ _ i1 j1 i2 j2 hpq
    subst hij
    rcases i4 with⟨x1,x2⟩|⟨x1,x2⟩<;>rcases j4 with⟨y1,y2⟩|⟨y1,y2⟩
    ·have hx:=(cU.mp x2).1
     have hy:=(cU.mp y2).1
     have:=(List.getElem?_inj hx hnd).mp (x2.trans y2.symm)
     omega
    ·subst y2
     exact absurd (bb x2) (h0 (by rw[<- y1];exact fun z=>by cases z))
    ·subst x2
     exact absurd (bb y2) (h0 (by rw[<- x1];exact fun z=>by cases z))
    ·exact aH (x1.trans y1.symm)
   ·rw[hpq,h4']at i3;cases i3
  ·rcases key b cb q e' eq with⟨j,Cw,j1,j2,j3,j4⟩|⟨h1',h2',h3',o',h4'⟩
   ·rw[<- hpq,h4]at j3;cases j3
   ·exact R.inj a b _ _ _ _ h2 h2' h3 h3' hpq
end
end
section
variable{k:Nat}{C:PC}{W W' W'':Wd}{σ ai:AS}{h h':bM}
@[elab_as_elim] theorem ann {f:Nat->Option Nat} {ids:ac} {n:Nat} {cells:List (Nat×bJ)} {a b:AV} {ay aM:AS} {P:AS->Prop} (e:imp f ids n cells a ay=some (b,aM)) (kk:ids.Nodup->uK f a=some b-> ∀cs,XH f ay n ids=some cs->P ⟨n+ids.length,cs++cells⟩):P aM:=
 kS e fun q e=>oE e fun b' hb e=>oE e fun cs hc e=>s2 (P:=fun b aM=>uK f a=some b->P aM) e (fun hb=>kk (XZ q) (s2 (P:=fun b _=>uK f a=some b) e hb) cs hc) (s2 (P:=fun b _=>uK f a=some b) e hb)
theorem jg{kF:Nat}{f:ah}{F:aW}{pick:AV->AS->List Nat}(hF:aF C kF f F):aF C kF f (vR pick F):=fun A Rm W σ s args vs Re hv tk a ai e=>kS e fun q e=>fS e fun xG ay e1 e=>by
 refine ann e fun hnd hb cs hc=> ?_
 have R0:cC C (W.loc σ s.heap none) ⟨0,[]⟩ s.heap:=Re.loc (.inr rfl) fun a c e=>nn e
 refine eC (hF A Rm (W.loc σ s.heap none) ⟨0,[]⟩ s args vs R0 (xX (W:=W) (W':=W.loc σ s.heap none) (fun _ _ e=>e) q hv) tk xG ay e1) fun v s' ⟨hs,W',le,R',hv'⟩=> ?_
 refine ud (Re.imp le R' hnd (fun z=>absurd rfl z) (fun r z=>nn z) (fun i j e=>.inr (Td e)) hc fun a c e=>.inl ⟨(fun z=>nn z.symm),e⟩) fun l2 R2 h2=> ?_
 exact⟨hs,_,l2,R2,h2 _ _ _ hb hv'⟩
theorem ame(a:Nat)(c:bJ)(b:Nat)(cells:List (Nat×bJ)):lk b (ly a c cells)=if b=a then(lk a cells).map (fun _=>c)else lk b cells:=AS.get_set ⟨0,cells⟩ a c b
theorem amc{c d:bJ}{a:Nat}(e:lk a [(0,c)]=some d):a=0/\c=d:=by
 rw[nj]at e
 exact bE e (fun z e=>⟨aD z,aH e⟩) fun _ e=>nn e
theorem ad7{r n:Nat}{ids:ac}{i j:Nat}(e:XO r n ids i=some j):(∃r',some r=some r'/\i=0/\j=r')\/(n<=j/\ids[j-n]? =some i):=by
 cases i with
 |zero=>exact .inl ⟨j,e,rfl,rfl⟩
 |succ i=>exact .inr (Td e)
theorem amd{r a kk:Nat}{l:aa}{c:bJ}(hr:σ.get r=some (.orc kk l)){k':Nat}{l':aa}{o:Option bJ}(h0:o=some (.orc k' l'))(e:lk a (ly r (.orc k' l') σ.cells)=some c):
  (some a≠some r/\σ.get a=some c)\/(some a=some r/\(∃eS,σ.get a=some eS)/\(∃kk ll,c= .orc kk ll)/\o=some c):=by
 rw[ame]at e
 by_cases z:a=r
 ·subst z
  rw[if_pos rfl,show lk a σ.cells=some _ from hr]at e
  exact s1 (P:=fun c=>_\/(some a=some a/\(∃eS,σ.get a=some eS)/\(∃kk ll,c=bJ.orc kk ll)/\o=some c)) e (.inr ⟨rfl,⟨_,hr⟩,⟨_,_,rfl⟩,h0⟩)
 ·rw[if_neg z]at e
  exact .inl ⟨fun y=>z (aH y),e⟩
theorem n5{kF:Nat}{f:ah}{F:aW}{pick:AV->AS->List Nat}(hF:aF C kF f F):aF C kF f (um pick F):=fun A Rm W σ s args vs Re hv tk a ai e=>by
 revert hv
 refine kJ e fun b as e=> ?_
 refine iA e fun r e=> ?_
 refine fun hv=>kS e fun q e=>F0 e fun kk l hr e=>fS e fun xG ay e1 e=>F0 e fun k' l' h0 e=>kN e fun q0 e=> ?_
 refine ann e fun hnd hb cs hc=> ?_
 refine hv.consE fun v vr hv1 hv2=> ?_
 have R0:cC C (W.loc σ s.heap (some r)) ⟨1,[(0,.orc kk l)]⟩ s.heap:=Re.loc (.inl (ax _)) fun a c e=>let⟨z1,z2⟩:=amc e;⟨z1,r,kk,l,rfl,z2.symm,z2▸hr⟩
 have hv1':V C (W.loc σ s.heap (some r)) (.ref 0) v:=hv1
 refine eC (hF A Rm (W.loc σ s.heap (some r)) ⟨1,[(0,.orc kk l)]⟩ s (.ref 0::as) (v::vr) R0 (VL.cons hv1' (xX (W:=W) (W':=W.loc σ s.heap (some r)) (fun _ _ e=>e) q hv2)) tk xG ay e1) fun v s' ⟨hs,W',le,R',hv'⟩=> ?_
 refine ud (Re.imp le R' hnd (fun _ z=>by rw[KS.mpr z]at q0;cases q0) (fun r' z=>⟨_,(aH z)▸hr⟩) (fun i j e=>ad7 e) hc (cells:=ly r (.orc k' l') σ.cells) fun a c e=>amd hr h0 e) fun l2 R2 h2=> ?_
 exact⟨hs,_,l2,R2,h2 _ _ _ hb hv'⟩
theorem oz(a:Nat)(c c':bJ): ∀cells:List (Nat×bJ),ly a c (ly a c' cells)=ly a c cells
 |[]=>rfl
 |(b,d)::r=>by
  simp only[EN]
  cases h:aj a b<;>simp[EN,h,oz a c c' r]
theorem TO: ∀(cells:List (Nat×bJ)) (a:Nat) (c:bJ),lk a cells=some c->ly a c cells=cells
 |[],_,_,_=>rfl
 |(b,d)::r,a,c,h=>by
  simp only[nj]at h
  simp only[EN]
  cases q:aj a b<;>rw[q]at h
  ·simp only[ae]at h ⊢;rw[TO r a c h]
  ·cases h;rw[aD q];rfl
theorem cC.conc(R:cC C W σ h){r kk:Nat}{l:aa}(hr:σ.get r=some (.orc kk l)): ∃c,C.conc kk l c/\cC C W (σ.set r c) h:=by
 obtain⟨p,a1,⟨c,q1,q2⟩,_⟩:=R.cell r _ hr
 exact⟨c,q1,R.set hr a1 (fun _ _ _ e=>e) q2.to⟩
theorem cC.abst(R:cC C W σ h){r kk:Nat}{l:aa}{c:bJ}(hr:σ.get r=some c)(hc:C.conc kk l c):cC C W (σ.set r (.orc kk l)) h:=by
 refine ue (R.cell r _ hr) fun p a1 a2 _=> ?_
 refine R.set hr a1 (fun _ _ _ e=>e) ⟨c,hc,a2.to0 ?_⟩
 have:=C.concFree _ _ _ hc
 cases c with
 |orc=>cases this
 |_=>rfl
theorem cC.sub{ai:AS}(R:cC C W σ h)(hn:σ.next<=ai.next)(hs: ∀a c,ai.get a=some c->σ.get a=some c):cC C W ai h:=
 ⟨R.base,R.im,R.pr,R.dis,fun a ha=>R.fresh a (au hn ha),fun a c e=>R.cell a c (hs a c e),fun a b ca cb p q e e'=>R.inj a b ca cb p q (hs _ _ e) (hs _ _ e')⟩
theorem uP{kF:Nat}{f:ah}{F F':aW}(hF:aF C kF f F)
  (H: ∀args σ a ai,F' args σ=some (a,ai)-> ∃r kk l,σ.get r=some (.orc kk l)/\ ∀c,C.conc kk l c->(∀b d,σ.get b=some d->b<σ.next)-> ∃ay Cw Tj bC,F args (σ.set r c)=some (a,ay)/\ay.get r=some Cw/\C.conc Tj bC Cw/\ay.next<=ai.next/\
   ∀b d,ai.get b=some d->(b=r/\d= .orc Tj bC)\/(b≠r/\ay.get b=some d)):aF C kF f F':=fun A Rm W σ s args vs Re hv tk a ai e=>by
 refine Xo (H args σ a ai e) fun r kk l hr H=> ?_
 obtain⟨c,hc,R1⟩:=Re.conc hr
 have hlt: ∀b d,σ.get b=some d->b<σ.next:=fun b d hb=>by
  by_cases q:σ.next<=b
  ·refine eX (Re.cell b _ hb) fun p e _=> ?_
   rw[Re.fresh b q]at e;cases e
  ·omega
 obtain⟨ay,Cw,Tj,bC,e1,e2,e3,e4,e5⟩:=H c hc hlt
 refine eC (hF A Rm W _ s args vs R1 hv tk a ay e1) fun v s' ⟨hs,W',le,R',hv'⟩=>⟨hs,W',le,(R'.abst e2 e3).sub e4 fun b d q=> ?_,hv'⟩
 rw[AS.get_set]
 rcases e5 b d q with⟨rfl,rfl⟩|⟨h1,h2⟩
 ·rw[if_pos rfl,e2];rfl
 ·rw[if_neg h1];exact h2
theorem aaW{kF:Nat}{f:ah}{F F':aW}(hF:aF C kF f F)(H: ∀args σ a ai,F' args σ=some (a,ai)->F args σ=some (a,ai)):aF C kF f F':=fun A Rm W σ s args vs Re hv tk a ai e=>hF A Rm W σ s args vs Re hv tk a ai (H _ _ _ _ e)
end
noncomputable def mR{β:Type}(a:AV)(f:Nat->List Nat->List AV->Option β):Option β:=match a with
 | .frz c ks vs=>f c ks vs
 |_=>none
@[elab_as_elim] theorem s8 {β:Type} {a:AV} {Q:AV->Prop} {f:Nat->List Nat->List AV->Option β} {r:β} (h:mR a f=some r) (k: ∀c ks vs,f c ks vs=some r->Q (.frz c ks vs)):Q a:=by
 cases a with
 |frz c ks vs=>exact k c ks vs h
 |_=>exact nn h
def jL(l:aa):Nat->Option (Option AV):=bu (motive:=fun _=>Nat->Option (Option AV)) (fun _=>some none) (fun a _ ih k=>mR a fun c ks _=>bif aj c 0 then(bif CI ks then ih k else none)else hH (motive:=fun _=>Option (Option AV)) (some (some a)) (fun j _=>ih j) k) l
def rQ(l:aa):Nat->Option (List AV):=bu (motive:=fun _=>Nat->Option (List AV)) (fun j=>hH (motive:=fun _=>Option (List AV)) (some []) (fun _ _=>none) j) (fun a r ih j=>hH (motive:=fun _=>Option (List AV)) (some (a::r)) (fun i _=>
 mR a fun c ks _=>bif aj c 0 then(bif CI ks then ih (i+1)else none)else hH (motive:=fun _=>Option (List AV)) (some r) (fun i' _=>ih (i'+1)) i) j) l
def pH(k:Nat)(t:AV):Option AV:=mR t fun c ks vs=>ob (NK c k ks vs) tl
noncomputable def pV:List Nat:=[110,117,109,98,101,114]
noncomputable def uN:List Nat:=[119,111,114,100]
noncomputable def jo:List Nat:=[115,105,103,110]
noncomputable def Yy:List Nat:=[108,105,116,101,114,97,108]
def rd(σ:AS)(r:Nat):Option (List AV):=sz σ r fun d l=>bif aj d 1021 then some l else none
def qN(l:aa)(k:Nat)(w:ac):Option Bool:=ob (jL l k) fun o=>od o (fun t=>ob (pH 2 t) fun v=>eo v fun s=>some (dm s w)) (some false)
def Q0(l:aa)(k:Nat)(w:ac):Option Bool:=ob (jL l k) fun o=>ob o fun t=>ob (pH 1 t) fun v=>eo v fun s=>some (dm s w)
def vM(l:aa)(k:Nat)(w s:ac):Option Bool:=ob (qN l k w) fun b=>bif b then Q0 l k s else some false
def DL(l:aa)(k:Nat)(ws:List (List Nat)):Option Bool:=bu (motive:=fun _=>Nat->Option Bool) (fun _=>some true) (fun w _ ih k=>ob (vM l k uN w) fun b=>bif b then ih (k+1)else some false) ws k
noncomputable def okW(w:ac):Bool:=dC w.length&&dC (dv 32 [] w).length
def acx{β:Type}(l:aa)(f:Nat->Option β):Option β:=bu (motive:=fun _=>Option β) (f 0) (fun a r _=>bu (motive:=fun _=>Option β) (nR a f) (fun _ _ _=>none) r) l
@[elab_as_elim] theorem aaH {β:Type} {Q:List AV->Prop} {l:aa} {f:Nat->Option β} {r:β} (h:acx l f=some r) (k0:f 0=some r->Q []) (k1: ∀k,f k=some r->Q [.int (.ofNat k)]):Q l:=by
 cases l with
 |nil=>exact k0 h
 |cons a l=>cases l with
  |nil=>exact ml h k1
  |cons=>exact nn h
def self{β:Type}(args:aa)(σ:AS)(f:Nat->List AV->List AV->Option β):Option β:=rh args fun a as=>io a fun r=>ob (rd σ r) fun l=>f r as l
theorem ajq{σ:AS}{r:Nat}{l:aa}(h:rd σ r=some l):σ.get r=some (.orc 1021 l):=F0 h fun d l' e h=>kS h fun q h=>by
 rw[e,aD q];exact congrArg (fun l=>some (bJ.orc 1021 l)) (aH h)
@[elab_as_elim] theorem nZ {β:Type} {Q:List AV->Prop} {args:aa} {σ:AS} {f:Nat->List AV->List AV->Option β} {x:β} (h:self args σ f=some x) (k: ∀r as l,σ.get r=some (.orc 1021 l)->f r as l=some x->Q (.ref r::as)):Q args:=
 kJ h fun a as h=>iA (Q:=fun a=>Q (a::as)) h fun r h=>oE h fun l hl h=>k r as l (ajq hl) h
def KU{β:Type}(l:aa)(x:Option β):Option β:=bu (motive:=fun _=>Option β) x (fun _ _ _=>none) l
@[elab_as_elim] theorem An {β:Type} {Q:List AV->Prop} {l:aa} {x:Option β} {r:β} (h:KU l x=some r) (k:x=some r->Q []):Q l:=by
 cases l with
 |nil=>exact k h
 |cons a l=>exact nn h
def QI{β:Type}(l:aa)(f:List Nat->List AV->Option β):Option β:=rh l fun a r=>eo a fun s=>f s r
@[elab_as_elim] theorem Lh {β:Type} {Q:List AV->Prop} {l:aa} {f:List Nat->List AV->Option β} {r:β} (h:QI l f=some r) (k: ∀s m,f s m=some r->Q (.str s::m)):Q l:=
 kJ h fun a m h=>fU (Q:=fun a=>Q (a::m)) h fun s h=>k s m h
def Il:aW:=fun args σ=>self args σ fun _ as l=>acx as fun k=>ob (jL l k) fun o=>some (od o some (some .none)|>.getD .none,σ)
def Sl:aW:=fun args σ=>self args σ fun _ as l=>QI as fun _ bs=>KU bs (ob (jL l 0) fun o=>ob o fun t=>ob (pH 4 t) fun _=>some (.opq,σ))
def vw:aW:=fun args σ=>self args σ fun _ as l=>KU as (ob (jL l 0) fun o=>od o (fun _=>some (.bool false,σ)) (some (.bool true,σ)))
def Wn:aW:=fun args σ=>self args σ fun r as l=>KU as (ob (jL l 0) fun o=>ob o fun t=>ob (rQ l 1) fun l'=>some (t,σ.set r (.orc 1021 l')))
def ajv(o:Option Bool)(σ:AS):Option (AV×AS):=ob o fun b=>some (.bool b,σ)
def LA:aW:=fun args σ=>self args σ fun _ as l=>QI as fun w bs=>acx bs fun k=>ajv (qN l k w) σ
def LB:aW:=fun args σ=>self args σ fun _ as l=>QI as fun w bs=>acx bs fun k=>ajv (vM l k jo w) σ
def LF:aW:=fun args σ=>self args σ fun _ as l=>QI as fun w bs=>KU bs (bif okW w then ajv (DL l 0 (dv 32 [] w)) ⟨σ.next+1,σ.cells⟩else none)
def Wm:aW:=fun args σ=>self args σ fun r as l=>QI as fun w bs=>KU bs (bif okW w then ob (DL l 0 (dv 32 [] w)) (fun b=>bif b then ob (rQ l (dv 32 [] w).length) (fun l'=>some (.bool true,⟨σ.next+2,ly r (.orc 1021 l') σ.cells⟩))else some (.bool false,⟨σ.next+1,σ.cells⟩))else none)
def Fw:aW:=fun args σ=>self args σ fun r as l=>QI as fun w bs=>KU bs (ob (vM l 0 jo w) fun b=>bif b then ob (rQ l 1) (fun l'=>some (.bool true,σ.set r (.orc 1021 l')))else some (.bool false,σ))
def uy(F:aW)(args:aa):Option AV:=bif aN args then bD (F args ⟨0,[]⟩) (fun a _=>bif noRef a then some a else none)else none
def wK(F:aW):aW:=fun args σ=>ob (uy F args) fun a=>some (a,σ)
noncomputable def UQ{β:Type}(a:AV)(x:Option β):Option β:=match a with
 | .bool b=>bif b then x else none
 |_=>none
theorem afH{β:Type}{a:AV}{x:Option β}{r:β}{P:Prop}(h:UQ a x=some r)(k:a= .bool true->x=some r->P):P:=by
 cases a with
 |bool b=>exact kS h fun hb h=>k (congrArg _ hb) h
 |_=>exact nn h
noncomputable def WY{β:Type}(a:AV)(f:List UInt8->Option β):Option β:=match a with
 | .bytes b=>f b
 |_=>none
theorem ac9{β:Type}{a:AV}{f:List UInt8->Option β}{r:β}{P:Prop}(h:WY a f=some r)(k: ∀b,a= .bytes b->f b=some r->P):P:=by
 cases a with
 |bytes b=>exact k b rfl h
 |_=>exact nn h
def V1{β:Type}(l:aa)(w:ac)(f:AV->List AV->Option β):Option β:=ob (qN l 0 w) fun b=>bif b then ob (jL l 0) (fun o=>ob o fun t=>ob (pH 1 t) fun v=>ob (rQ l 1) fun l'=>f v l')else none
def So(dec isw who:aW):aW:=fun args σ=>self args σ fun r as l=>KU as (V1 l pV fun w l'=>ob (uy dec [w]) fun d=>ob (uy isw [d]) fun b=>UQ b (ob (uy who [d]) fun n=>some (n,σ.set r (.orc 1021 l'))))
def Om(oct:aW):aW:=fun args σ=>self args σ fun r as l=>KU as (V1 l Yy fun w l'=>ob (uy oct [w]) fun v=>WY v fun b=>some (.bytes b,σ.set r (.orc 1021 l')))
noncomputable def xpA(mac:List Nat->List AV)(a:AV)(r:aa):List AV:=match a with
 | .frz c ks _=>bif aj c 0 then mac ks++r else a::r
 |_=>a::r
noncomputable def xp(mac:List Nat->List AV):List AV->List AV
 |[]=>[]
 |a::r=>xpA mac a (xp mac r)
def EB:List AV->Bool
 |[]=>true
 |t::_=>(ob (pH 2 t) fun v=>eo v fun w=>some (!dm w pV)).getD false
def HJ(a:AV):Bool:=(mR a fun c ks _=>some (aj c 0&&CI ks)).getD false
def vg(mac:List Nat->List AV):List AV->Prop
 |[]=>True
 |a::r=>(HJ a=true->EB (xp mac r)=true)/\vg mac r
noncomputable def cW(L:aa)(m:Nat):bJ:=.inst 1021 [38,4,37,36] [.lst L,.int (.ofNat m),.opq,.opq]
def lM(mac:List Nat->List AV)(l:aa)(c:bJ):Prop:=vg mac l/\ ∃pre,dC (pre.length+(xp mac l).length)=true/\aN pre=true/\aN (xp mac l)=true/\c=cW (pre++xp mac l) pre.length
def cG:List Nat->Int->Prop
 |m::d::r,b=>0<m/\b.fmod (am m)=am d/\cG r (b.fdiv (am m))
 |_,_=>True
noncomputable def xb(bx:List Nat->List AV->List Nat):List AV->List Nat
 |[]=>[]
 |a::r=>match a with
  | .frz _ ks vs=>bx ks vs++xb bx r
  |_=>[]
def age(bx:List Nat->List AV->List Nat)(VB:AV->Prop)(l:aa)(c:bJ):Prop:=(∀a∈l,VB a)/\ ∃b,c= .lst [.int b]/\cG (xb bx l) b
section
variable{mac:List Nat->List AV}
theorem L5(r:aa):rQ r 0=some r:=by cases r<;>rfl
theorem EP{c:Nat}{ks:ac}{vs:aa}(r:aa):xp mac (.frz c ks vs::r)=bif aj c 0 then mac ks++xp mac r else .frz c ks vs::xp mac r:=rfl
theorem PQ{l:ac}(h:CI l=true):l=[]:=by
 cases l with
 |nil=>rfl
 |cons=>exact ff h
theorem QX(h0:mac []=[]){l:aa}: ∀{k:Nat} {o:Option AV},jL l k=some o->(xp mac l)[k]? =o:=by
 induction l with
 |nil=>exact fun e=>s1 (P:=fun o=>none=o) e rfl
 |cons a r ih=>
  intro k o e
  refine s8 (Q:=fun a'=>a'=a->(xp mac (a'::r))[k]? =o) e (fun c ks vs e ha=> ?_) rfl
  rw[EP]
  refine bE e (fun q e=> ?_) fun q e=> ?_
  ·rw[q]
   refine kS e fun q e=> ?_
   rw[PQ q,af,h0];exact ih e
  ·rw[q]
   cases k with
   |zero=>exact s1 (P:=fun o=>(bif false then mac ks++xp mac r else AV.frz c ks vs::xp mac r)[0]? =o) e (congrArg some ha)
   |succ j=>exact ih e
theorem adn(h0:mac []=[]){l:aa}: ∀{j:Nat} {l':aa},vg mac l->rQ l j=some l'->xp mac l'=(xp mac l).drop j/\j<=(xp mac l).length/\vg mac l':=by
 induction l with
 |nil=>
  intro j l' w e
  cases j with
  |zero=>exact s1 (P:=fun l'=>xp mac l'=[]/\0<=0/\vg mac l') e ⟨rfl,ax _,w⟩
  |succ j=>exact nn e
 |cons a r ih=>
  intro j l' w e
  cases j with
  |zero=>exact s1 (P:=fun l'=>xp mac l'=xp mac (a::r)/\0<=(xp mac (a::r)).length/\vg mac l') e ⟨rfl,aU _,w⟩
  |succ j=>
   refine s8 (Q:=fun a'=>xp mac l'=(xp mac (a'::r)).drop (j+1)/\j+1<=(xp mac (a'::r)).length/\vg mac l') e fun c ks vs e=> ?_
   rw[EP]
   refine bE e (fun q e=> ?_) fun q e=> ?_
   ·rw[q]
    refine kS e fun q e=> ?_
    rw[PQ q,af,h0];exact ih w.2 e
   ·rw[q]
    have e:rQ r j=some l':=by
     cases j with
     |zero=>rw[L5];exact e
     |succ j=>exact e
    have:=ih w.2 e
    exact⟨this.1,be this.2.1,this.2.2⟩
end
def PF(sel:Nat->Bool)(n:Nat)(a:AV)(σ:AS):AV×AS:=(io a fun x=>CH σ x fun c ks vs=>some (pr (Tq sel (uj sel n) ks vs (σ.drop x)) fun vs' ai=>(AV.ref x,(⟨ai.next,(x,.inst c ks vs')::ai.cells⟩:AS)))).getD (a,σ)
def Jh(g:AV->AS->AV×AS)(F:aW):aW:=fun args σ=>bD (F args σ) fun a ai=>some (g a ai)
noncomputable def dj(l:aa):Bool:=l.all fun a=>(mR a fun c _ _=>some (!aj c 0)).getD false
noncomputable def afF{β:Type}(a:AV)(f:List AV->Option β):Option β:=match a with
 | .lst l=>f l
 |_=>none
@[elab_as_elim] theorem alr {β:Type} {a:AV} {Q:AV->Prop} {f:List AV->Option β} {r:β} (h:afF a f=some r) (k: ∀l,f l=some r->Q (.lst l)):Q a:=by
 cases a with
 |lst l=>exact k l h
 |_=>exact nn h
def aah(vs:aa):Option (List AV):=rh vs fun a r=>rh r fun b r=>afF a fun L=>nR b fun n=>bif aj n 0 then vK r (fun _ _=>some L)else none
def anA(F:aW):aW:=fun args σ=>bD (F args σ) fun a ay=>io a fun x=>CH ay x fun c ks vs=>bif aj c 1021&&dm ks [38,4,37,36]then ob (aah vs) (fun L=>bif dC L.length&&aN L&&dj L then some (.ref x,ay.set x (.orc 1021 L))else none)else none
def drA{β:Type}(a:AV)(f:Nat->Nat->Option β):Option β:=mR a fun _ ks _=>rh ks fun m r=>rh r fun d r=>bif CI r then f m d else none
def Bv:aW:=fun args σ=>vK args fun a b=>io a fun x=>nR b fun m=>sz σ x fun k l=>bif aj k 0 then rh l (fun t r=>drA t fun m' d=>bif aj m m'&&bz m 1000 then some (.int (.ofNat d),σ.set x (.orc 0 r))else none)else none
def afO(path:Int->List AV)(F:aW):aW:=fun args σ=>re args fun a=>io a fun x=>np σ x fun l=>re l fun v=>eW v fun b=>F [.ref x] (σ.set x (.orc 0 (path b)))
def anu(c:Nat)(F:aW):gR:=fun a σ=>io a fun x=>sz σ x fun d _=>bif aj c d then some F else none
noncomputable def cp:Nat:=680
noncomputable def nB:Nat:=633
noncomputable def lL:Nat:=605
noncomputable def UX:Nat:=204
noncomputable def Zy:Nat:=706
noncomputable def names:List (List Nat):=[[70,49,45,82,69,67],
 [79,76,68,45,82,69,67],
 [87],
 [86,45,49],
 [65,82,71],
 [70,49,45,82,69,67,45,71],
 [79,76,68,45,82,69,67,45,71],
 [87,45,71],
 [86,45,49,45,71],
 [65,82,71,45,71],
 [70,73,76,76,69,82],
 [70,49,45,82,69,67,45,66],
 [79,76,68,45,82,69,67,45,66],
 [87,45,66],
 [86,45,49,45,66],
 [65,82,71,45,66],
 [76,79,87],
 [70,49,45,82,69,67,45,82],
 [79,76,68,45,82,69,67,45,82],
 [87,45,82],
 [86,45,49,45,82],
 [65,82,71,45,82],
 [72,73,71,72,45,79,78,69]]
def nm(i:Nat):List Nat:=(Qj names i).getD []
noncomputable def iY:List (Nat×Nat×Nat):=[(0,0,3),(0,1,3),(0,2,3),(0,3,3),(1,0,3),(1,1,3),(1,2,3),(1,3,3),(2,0,3),(2,1,3),(2,2,3),(2,3,3),(3,0,3),(3,1,3),(3,2,3),(3,3,3),(4,0,3),(4,1,3),(4,2,3),(4,3,3),(0,0,0),(0,0,1),(0,0,2),(0,1,0),(0,1,1),(0,1,2),(0,2,0),(0,2,1),(0,2,2),(0,3,0),(0,3,1),(0,3,2),(1,0,0),(1,0,1),(1,0,2),(1,1,0),(1,1,1),(1,1,2),(1,2,0),(1,2,1),(1,2,2),(1,3,0),(1,3,1),(1,3,2)]
noncomputable def dK:List (Nat×Nat×Nat):=[(5,0,3),(5,1,3),(5,2,3),(5,3,3),(6,0,3),(6,1,3),(6,2,3),(6,3,3),(7,0,3),(7,1,3),(7,2,3),(7,3,3),(8,0,3),(8,1,3),(8,2,3),(8,3,3),(9,0,3),(9,1,3),(9,2,3),(9,3,3),(10,0,0),(10,0,1),(10,0,2),(10,1,0),(10,1,1),(10,1,2),(10,2,0),(10,2,1),(10,2,2),(10,3,0),(10,3,1),(10,3,2),(11,0,0),(11,0,1),(11,0,2),(11,1,0),(11,1,1),(11,1,2),(11,2,0),(11,2,1),(11,2,2),(11,3,0),(11,3,1),(11,3,2),(12,0,0),(12,0,1),(12,0,2),(12,1,0),(12,1,1),(12,1,2),(12,2,0),(12,2,1),(12,2,2),(12,3,0),(12,3,1),(12,3,2),(13,0,0),(13,0,1),(13,0,2),(13,1,0),(13,1,1),(13,1,2),(13,2,0),(13,2,1),(13,2,2),(13,3,0),(13,3,1),(13,3,2),(14,0,0),(14,0,1),(14,0,2),(14,1,0),(14,1,1),(14,1,2),(14,2,0),(14,2,1),(14,2,2),(14,3,0),(14,3,1),(14,3,2),(15,0,0),(15,0,1),(15,0,2),(15,1,0),(15,1,1),(15,1,2),(15,2,0),(15,2,1),(15,2,2),(15,3,0),(15,3,1),(15,3,2)]
noncomputable def sx:List (Nat×Nat×Nat):=[(16,0,0),(16,0,1),(16,0,2),(16,1,0),(16,1,1),(16,1,2),(16,2,0),(16,2,1),(16,2,2),(16,3,0),(16,3,1),(16,3,2)]
noncomputable def gH:List (Nat×Nat×Nat):=[(2,0,0),(2,0,1),(2,0,2),(2,1,0),(2,1,1),(2,1,2),(2,2,0),(2,2,1),(2,2,2),(2,3,0),(2,3,1),(2,3,2),(3,0,0),(3,0,1),(3,0,2),(3,1,0),(3,1,1),(3,1,2),(3,2,0),(3,2,1),(3,2,2),(3,3,0),(3,3,1),(3,3,2),(4,0,0),(4,0,1),(4,0,2),(4,1,0),(4,1,1),(4,1,2),(4,2,0),(4,2,1),(4,2,2),(4,3,0),(4,3,1),(4,3,2)]
noncomputable def kT(lvl:Nat):List (Nat×Nat×Nat):=bif aj lvl 1 then iY else bif aj lvl 5 then dK else bif aj lvl 10 then sx else gH
def kd(lvl i:Nat):Nat×Nat×Nat:=(Qj (kT lvl) i).getD ((Qj (kT lvl) 0).getD (0,0,3))
noncomputable def anJ(w:Nat):List Nat:=bif aj w 1 then[112,97,99,107,101,100]else[]
noncomputable def Ql(w:Nat):AV:=bif aj w 2 then .frz lL [8,9,7,6,5] [.int 3,.int 3,.none,.tup [.tup [.bool false,.str [75]]],.tup [.str [73,88]]]
 else bif aj w 3 then .frz lL [8,9,7,6,5] [.int 0,.int 4,.tup [.str [114,101,102],.str [78],.tup [.str [71]],.tup [],.none],.tup [],.tup []]else .none
noncomputable def xZ(p:Nat):AV:=bif aj p 0 then .str [88,40,52,41]else bif aj p 1 then .str [83,57,40,51,41,86,57,57]else bif aj p 2 then .str [90,90,57,46,57,57]else .none
noncomputable def gk:List Nat:=[20,18,16,15,10,35,14,17,11,13,12,23,22,34,21,33,32,31,30]
def kb(x:Nat×Nat×Nat)(conds kids par ren:AV):List AV:=[.str (nm x.1),xZ x.2.2,.str (anJ x.2.1),.str [],.bool false,Ql x.2.1,.str [],.none,.bool false,.bool false,conds,kids,par,ren,.str [],.int 0,.int 0,.none]
def XM(lvl i:Nat)(conds kids par:AV):List AV:=.int (am lvl)::kb (kd lvl i) conds kids par .none
def qp(n:Nat):AV:=.frz nB [18,19] [.str ([73,83,45]++nm n),.tup [.tup [.tup [.str [110,117,109,98,101,114],.tup [.int (-5),.int 0]],.tup [.str [110,117,109,98,101,114],.tup [.int 125,.int 2]]],.tup [.tup [.str [116,101,120,116],.bytes [113]],.none]]]
def ya(l:Nat):AV:=.tup [.str (nm 16),bif aj l 0 then .none else .str (nm 22)]
def kg(n l:Nat)(par:AV):List AV:=.int 66::[.str (nm n),.none,.str [],.str [],.bool false,.none,.str [],.none,.bool false,.bool false,.lst [],.lst [],par,ya l,.str [],.int 0,.int 0,.none]
noncomputable def nU(_:AV)(_:AS):List Nat:=[]
noncomputable def aaM(a:AV)(_:AS):List Nat:=(io a fun x=>some [x]).getD []
def rfO(o:Option AV):Option Nat:=ob o fun a=>io a some
def wJ(a:AV)(σ:AS):List Nat:=(io a fun x=>CH σ x fun _ ks vs=>od (rfO (xP 22 ks vs)) (fun k=>od (rfO (xP 23 ks vs)) (fun c=>some [c,k,x]) (some [k,x])) (some [x])).getD []
noncomputable def acm{β:Type}(a:AV)(f:List Nat->Option β):Option β:=mR a fun c ks _=>bif aj c 0 then f ks else none
def aaw(σ:AS)(r:Nat)(l:aa)(cd:aa)(f:AV->AV->List AV):Option (AV×AS):=some (.ref (σ.next+2),⟨σ.next+3,(σ.next,.lst cd)::(σ.next+1,.lst [])::(σ.next+2,.inst cp gk (f (.ref σ.next) (.ref (σ.next+1))))::ly r (.orc 1021 l) σ.cells⟩)
def aiq(n:Nat)(a b:AV):List AV:=.int 88::[.str ([73,83,45]++nm n),.none,.str [],.str [],.bool false,.none,.str [],.none,.bool false,.bool false,a,b,.none,.none,.str [],.int 0,.int 0,.none]
def aiR(n l:Nat)(a b:AV):List AV:=.int 66::[.str (nm n),.none,.str [],.str [],.bool false,.none,.str [],.none,.bool false,.bool false,a,b,.none,ya l,.str [],.int 0,.int 0,.none]
def ajr(σ:AS)(r:Nat)(l:aa)(m x y:Nat):Option (AV×AS):=bif aj m 1 then aaw σ r l [] (fun a b=>XM x y a b .none)else bif aj m 2 then aaw σ r l [qp (kd x y).1] (aiq (kd x y).1)else bif aj m 3 then aaw σ r l [] (aiR (17+(kd 1 x).1) y)else none
def Ll{β:Type}(ks:ac)(f:Nat->Nat->Nat->Option β):Option β:=rh ks fun m ks=>rh ks fun x ks=>rh ks fun y ks=>bif CI ks then f m x y else none
def ww:aW:=fun args σ=>self args σ fun r as L=>KU as (rh L fun t l=>acm t fun ks=>Ll ks (ajr σ r l))
noncomputable def aot(σ:AS)(m:Nat):Option (AV×AS):=bif cX 1 m&&cX m 3 then some (.bool true,σ)else none
def qb:aW:=fun args σ=>self args σ fun _ as L=>KU as (bu (motive:=fun _=>Option (AV×AS)) (some (.bool false,σ)) (fun t _ _=>acm t fun ks=>bif CI ks then some (.bool false,σ)else Ll ks fun m _ _=>aot σ m) L)
structure Lf where
 i:Nat
 c:Bool
inductive Tn where
 |leaf(l:Lf)
 |grp(g a:Lf)
 |grp2(g a b:Lf)
structure Rt where
 lvl:Nat
 it:Lf
 ts:List Tn
 ren:Nat
noncomputable def U2(c:Bool):Nat:=bif c then 1 else 0
noncomputable def Xr(l:Lf):List Nat:=[l.i,U2 l.c]
noncomputable def ZT:Tn->List Nat
 | .leaf l=>0::Xr l
 | .grp g a=>1::(Xr g++Xr a)
 | .grp2 g a b=>2::(Xr g++Xr a++Xr b)
noncomputable def Xs(r:Rt):List Nat:=r.lvl::(Xr r.it++r.ren::(r.ts.map ZT).flatten)
noncomputable def Hd(n:Nat):Bool:=aj n 1
noncomputable def U1:Nat->List Nat->List Tn
 |0,_=>[]
 |n+1,l=>match l with
  |0::i::c::r=>.leaf ⟨i,Hd c⟩::U1 n r
  |1::i::c::j::d::r=>.grp ⟨i,Hd c⟩ ⟨j,Hd d⟩::U1 n r
  |2::i::c::j::d::k::e::r=>.grp2 ⟨i,Hd c⟩ ⟨j,Hd d⟩ ⟨k,Hd e⟩::U1 n r
  |_=>[]
noncomputable def Bg(l:ac):Rt:=match l with
 |lvl::i::c::ren::r=>⟨lvl,⟨i,Hd c⟩,U1 8 r,ren⟩
 |_=>⟨77,⟨0,false⟩,[],0⟩
theorem zg(c:Bool):Hd (U2 c)=c:=by cases c<;>rfl
theorem abV: ∀(ts:List Tn) (n:Nat),ts.length<=n->U1 n (ts.map ZT).flatten=ts
 |[],0,_=>rfl
 |[],n+1,_=>rfl
 |t::ts,n+1,h=>by
  have ih:=abV ts n (m7 h)
  cases t with
  |leaf l=>
   show Tn.leaf ⟨l.i,Hd (U2 l.c)⟩::U1 n (ts.map ZT).flatten=_
   rw[ih,zg]
  |grp g a=>
   show Tn.grp ⟨g.i,Hd (U2 g.c)⟩ ⟨a.i,Hd (U2 a.c)⟩::U1 n (ts.map ZT).flatten=_
   rw[ih,zg,zg]
  |grp2 g a b=>
   show Tn.grp2 ⟨g.i,Hd (U2 g.c)⟩ ⟨a.i,Hd (U2 a.c)⟩ ⟨b.i,Hd (U2 b.c)⟩::U1 n (ts.map ZT).flatten=_
   rw[ih,zg,zg,zg]
theorem NH(r:Rt)(h:r.ts.length<=8):Bg (Xs r)=r:=by
 show(⟨r.lvl,⟨r.it.i,Hd (U2 r.it.c)⟩,U1 8 (r.ts.map ZT).flatten,r.ren⟩:Rt)=r
 rw[abV _ _ h,zg]
noncomputable def e1(lvl i:Nat):AV:=.frz 0 [1,lvl,i] []
noncomputable def e2(lvl i:Nat):AV:=.frz 0 [2,lvl,i] []
noncomputable def e3(i l:Nat):AV:=.frz 0 [3,i,l] []
noncomputable def YN:AV:=.frz 0 [] []
def j8(lvl:Nat)(l:Lf):Nat:=(kd lvl l.i).1
noncomputable def Cy(lvl:Nat)(l:Lf):List AV:=e1 lvl l.i::(match l.c with
 |true=>[e2 lvl l.i]
 |false=>[])
noncomputable def agv:Tn->List AV
 | .leaf l=>Cy 5 l
 | .grp g a=>Cy 5 g++Cy 10 a
 | .grp2 g a b=>Cy 5 g++(Cy 10 a++Cy 10 b)
noncomputable def U4:List Tn->List AV
 |[]=>[]
 |t::ts=>agv t++U4 ts
noncomputable def agu(r:Rt):List AV:=match r.ren with
 |0=>[]
 |l+1=>[e3 r.it.i l]
noncomputable def FQ(r:Rt):List AV:=Cy r.lvl r.it++(U4 r.ts++agu r)
def conds(lvl:Nat)(l:Lf):AV:=.lst (match l.c with
 |true=>[qp (j8 lvl l)]
 |false=>[])
def om(lvl:Nat)(l:Lf)(par:AV):AV:=.frz cp gk (XM lvl l.i (conds lvl l) (.lst []) par)
def sK:Tn->AV
 | .leaf l=>om 5 l .opq
 | .grp g a=>.frz cp gk (XM 5 g.i (conds 5 g) (.lst [om 10 a .opq]) .opq)
 | .grp2 g a b=>.frz cp gk (XM 5 g.i (conds 5 g) (.lst [om 10 a .opq,om 10 b .opq]) .opq)
def DH:List Tn->List AV
 |[]=>[]
 |t::ts=>sK t::DH ts
def qP(r:Rt):List AV:=match r.ren with
 |0=>[]
 |l+1=>[.frz cp gk (kg (17+j8 1 r.it) l .opq)]
def Dm(r:Rt):List AV:=kb (kd r.lvl r.it.i) (conds r.lvl r.it) (.lst (DH r.ts++qP r)) .none .none
def eg(r:Rt):AV:=.frz cp gk (.int (am r.lvl)::Dm r)
noncomputable def ajF(k:Nat):Bool:=aj k 22||(aj k 23||aj k 34)
noncomputable def anC(k:Nat):Bool:=aj k 23
noncomputable def anE(k:Nat):Bool:=(cX 24 k&&cX k 27)||(aj k 5||ajF k)
def nt:aW:=fun args σ=>self args σ fun r as L=>KU as (rh L fun t L=>rh L fun t' l=>bif HJ t' then acm t (fun ks=>rh ks fun m ks=>bif aj m 4 then rh ks (fun lvl code=>some (.lst [.frz cp gk (.int (am lvl)::Dm (Bg (lvl::code)))],σ.set r (.orc 1021 l)))else none)else none)
def IY(x:ac):List (List Nat)->Nat->Nat
 |[],i=>i
 |a::r,i=>bif dm a x then i else IY x r (i+1)
noncomputable def mV(d:Nat):Nat:=bif aj d 4 then 0 else d
noncomputable def Fl(lvl n w p:Nat):Nat:=bif aj p 3 then(bif aj lvl 1 then 4*n+w else 4*(n-5)+w)
 else bif aj lvl 1 then 20+12*n+3*w+p else bif aj lvl 5 then 20+12*(n-10)+3*w+p else bif aj lvl 10 then 3*w+p else 12*(n-2)+3*w+p
noncomputable def CK(d:Nat):Bool:=aj d 0
noncomputable def PY(lvl n:Nat):Nat:=bif aj lvl 77&&cX n 1 then 1 else lvl
noncomputable def Vv(lvl n:Nat):Bool:=(aj lvl 1&&bz n 5)||(aj lvl 5&&(cX 5 n&&bz n 10))
noncomputable def Vw(lvl n:Nat):Bool:=(aj lvl 77&&bz n 5)||((aj lvl 5&&(cX 10 n&&bz n 16))||(aj lvl 10&&aj n 16))
def abF{β:Type}(σ:AS)(x:Nat)(f:Nat->List Nat->List AV->Option β):Option β:=sz σ x fun k l=>bif aj k 0 then rh l (fun t r=>mR t fun _ ks _=>rh ks fun m ks=>f m ks r)else none
def aip(σ:AS)(x:Nat)(r:aa)(lvl L:Nat)(f:Lf):Option (AV×AS):=some (.ref (σ.next+1),⟨σ.next+2,(σ.next,.lst [])::(σ.next+1,.inst cp gk (.int (am lvl)::kb (kd L f.i) (conds L f) (.ref σ.next) .none .none))::ly x (.orc 0 r) σ.cells⟩)
def aqe(σ:AS)(x lvl:Nat)(s:ac)(n:Nat):Option (AV×AS):=bif dm (nm n) s&&Vv lvl n then abF σ x (fun m ks r=>bif aj m 5 then rh ks (fun d ks=>rh ks fun e ks=>bif CI ks then aip σ x r lvl lvl ⟨Fl lvl n (mV d) 3,CK e⟩else none)else none)else none
def Bw:aW:=fun args σ=>WX args fun a b d=>io a fun x=>nR b fun lvl=>eo d fun s=>aqe σ x lvl s (IY s names 0)
def aqf(σ:AS)(x lvl:Nat)(s:ac)(n L:Nat):Option (AV×AS):=bif dm (nm n) s&&Vw lvl n then abF σ x (fun m ks r=>bif aj m 6 then Ll ks (fun d e p=>aip σ x r lvl L ⟨Fl L n (mV d) p,CK e⟩)else none)else none
def Bx:aW:=fun args σ=>WX args fun a b d=>io a fun x=>nR b fun lvl=>eo d fun s=>aqf σ x lvl s (IY s names 0) (PY lvl (IY s names 0))
def Bz:aW:=fun args σ=>vK args fun a d=>io a fun x=>eo d fun s=>abF σ x fun m ks r=>bif aj m 9 then rh ks (fun n ks=>rh ks fun lv code=>bif dm (nm n) s then some (.ref σ.next,⟨σ.next+1,(σ.next,.inst cp gk (.int (am lv)::Dm (Bg code)))::ly x (.orc 0 r) σ.cells⟩)else none)else none
structure LD where
 d:Nat
 e:Nat
 p:Nat
inductive TD where
 |leaf(z nb:Nat)(l:LD)
 |grp(d e:Nat)(a:LD)
 |grp2(d e:Nat)(a b:LD)
inductive RD where
 |alone(l:LD)
 |std(a d e:Nat)(ts:List TD)(q:Nat)
 |recR(a d e:Nat)(ts:List TD)(l:Nat)
noncomputable def PZ(l:LD):List Nat:=[5,l.d,4,l.e,3,l.p]
noncomputable def tdD:TD->List Nat
 | .leaf z nb l=>3::(z+1)::2::nb::PZ l
 | .grp d e a=>3::0::5::d::4::e::2::0::PZ a
 | .grp2 d e a b=>3::0::5::d::4::e::2::1::(PZ a++PZ b)
noncomputable def AQ:List TD->List Nat
 |[]=>[]
 |t::ts=>tdD t++AQ ts
noncomputable def Jn:RD->List Nat
 | .alone l=>4::0::PZ l
 | .std a d e ts q=>4::(a+1)::5::d::4::e::3::ts.length::(AQ ts++[4,q+1])
 | .recR a d e ts l=>4::(a+1)::5::d::4::e::3::ts.length::(AQ ts++[4,0,2,l])
noncomputable def m2(m d:Nat):AV:=.frz 0 [m,d] []
noncomputable def m5(d e:Nat):AV:=.frz 0 [5,d,e] []
noncomputable def m6(l:LD):AV:=.frz 0 [6,l.d,l.e,l.p] []
noncomputable def tdM:TD->List AV
 | .leaf z nb l=>[m2 3 (z+1),m2 2 nb,m6 l]
 | .grp d e a=>[m2 3 0,m5 d e,m2 2 0,m6 a]
 | .grp2 d e a b=>[m2 3 0,m5 d e,m2 2 1,m6 a,m6 b]
noncomputable def Mw:List TD->List AV
 |[]=>[]
 |t::ts=>tdM t++Mw ts
noncomputable def rdM:RD->List AV
 | .alone l=>[m2 4 0,m6 l]
 | .std a d e ts q=>m2 4 (a+1)::m5 d e::m2 3 ts.length::(Mw ts++[m2 4 (q+1)])
 | .recR a d e ts l=>m2 4 (a+1)::m5 d e::m2 3 ts.length::(Mw ts++[m2 4 0,m2 2 l])
noncomputable def Tl(lvl n:Nat)(l:LD):Lf:=⟨Fl lvl n (mV l.d) l.p,CK l.e⟩
noncomputable def ach(lvl n d e:Nat):Lf:=⟨Fl lvl n (mV d) 3,CK e⟩
noncomputable def aqR(n:Nat):TD->Tn
 | .leaf _ nb l=>.leaf (Tl 5 (match nb with
  |0=>10
  |_=>11+n) l)
 | .grp d e a=>.grp (ach 5 (5+n) d e) (Tl 10 16 a)
 | .grp2 d e a b=>.grp2 (ach 5 (5+n) d e) (Tl 10 16 a) (Tl 10 16 b)
noncomputable def HM(n:Nat):List TD->List Tn
 |[]=>[]
 |t::ts=>aqR n t::HM n ts
noncomputable def jC(n:Nat):RD->Rt
 | .alone l=>⟨PY 77 n,Tl (PY 77 n) n l,[],0⟩
 | .std _ d e ts _=>⟨1,ach 1 n d e,HM n ts,0⟩
 | .recR _ d e ts l=>⟨1,ach 1 n d e,HM n ts,l+1⟩
noncomputable def RX:RD->Nat
 | .alone _=>77
 |_=>1
def Ap:TD->Prop
 | .leaf _ nb _=>nb<2
 |_=>True
def CY:RD->Prop
 | .alone _=>True
 | .std _ _ _ ts _=>ts.length<=2/\ ∀t∈ts,Ap t
 | .recR _ _ _ ts l=>ts.length<=2/\(∀t∈ts,Ap t)/\l<2
noncomputable def m9(n:Nat)(rd:RD):AV:=.frz 0 (9::n::RX rd::Xs (jC n rd)) [.frz 0 (Jn rd) []]
noncomputable def bx(ks:ac)(vs:aa):List Nat:=match ks with
 |[m,d]=>[m,d]
 |[5,d,e]=>[5,d,4,e]
 |[6,d,e,p]=>[5,d,4,e,3,p]
 |9::_=>(match vs with
  |[.frz _ raw _]=>raw
  |_=>[])
 |_=>[]
def VB(a:AV):Prop:=match a with
 | .frz _ (9::r) _=> ∃n rd,a=m9 n rd/\n<5/\CY rd
 |_=>True
noncomputable def hU(m:Nat)(b:Int):Nat:=(b.fmod (am m)).toNat
noncomputable def bU(m:Nat)(b:Int):Int:=b.fdiv (am m)
theorem jO{m:Nat}(hm:0<m){b:Int}{r:ac}(h:cG r (bU m b)):cG (m::hU m b::r) b:=by
 refine⟨hm,?_,h⟩
 have:0<=b.fmod (am m):=mW b (by simpa using hm)
 unfold hU
 exact(A9 this).symm
theorem jd{m d:Nat}(hm:0<m){b:Int}{r:ac}(hd:hU m b=d)(h:cG r (bU m b)):cG (m::d::r) b:=hd▸jO hm h
theorem mo{m:Nat}(hm:0<m)(b:Int):hU m b<m:=by
 have h1:b.fmod (am m)<am m:=qY b (by simpa using hm)
 have h0:0<=b.fmod (am m):=mW b (by simpa using hm)
 unfold hU
 have:=A9 h0
 have h2:(am m)=(m:Int):=rfl
 omega
noncomputable def ldP(b:Int):LD:=⟨hU 5 b,hU 4 (bU 5 b),hU 3 (bU 4 (bU 5 b))⟩
noncomputable def ldN(b:Int):Int:=bU 3 (bU 4 (bU 5 b))
theorem P0{b:Int}{r:ac}(h:cG r (ldN b)):cG (PZ (ldP b)++r) b:=
 jO (by decide) (jO (by decide) (jO (by decide) h))
noncomputable def R8(b:Int):TD×Int:=match hU 3 b with
 |z+1=>(.leaf z (hU 2 (bU 3 b)) (ldP (bU 2 (bU 3 b))),ldN (bU 2 (bU 3 b)))
 |0=>match hU 2 (bU 4 (bU 5 (bU 3 b)))with
  |0=>(.grp (hU 5 (bU 3 b)) (hU 4 (bU 5 (bU 3 b))) (ldP (bU 2 (bU 4 (bU 5 (bU 3 b))))),ldN (bU 2 (bU 4 (bU 5 (bU 3 b)))))
  |_+1=>(.grp2 (hU 5 (bU 3 b)) (hU 4 (bU 5 (bU 3 b))) (ldP (bU 2 (bU 4 (bU 5 (bU 3 b))))) (ldP (ldN (bU 2 (bU 4 (bU 5 (bU 3 b)))))),ldN (ldN (bU 2 (bU 4 (bU 5 (bU 3 b))))))
theorem apB{b:Int}{r:ac}(h:cG r (R8 b).2):cG (tdD (R8 b).1++r) b/\Ap (R8 b).1:=by
 unfold R8 at h ⊢
 split at h
 ·rename_i z hz
  refine⟨?_,mo (by decide) _⟩
  show cG (3::(z+1)::2::_::(PZ _++r)) b
  exact jd (by decide) hz (jO (by decide) (P0 h))
 ·rename_i hz
  split at h
  ·rename_i hk
   refine⟨?_,trivial⟩
   show cG (3::0::5::_::4::_::2::0::(PZ _++r)) b
   refine jd (by decide) hz (jO (by decide) (jO (by decide) ?_))
   exact jd (by decide) hk (P0 h)
  ·rename_i n hk
   have hn:n=0:=by
    have:=mo (m:=2) (by decide) (bU 4 (bU 5 (bU 3 b)))
    omega
   subst hn
   refine⟨?_,trivial⟩
   show cG (3::0::5::_::4::_::2::1::((PZ _++PZ _)++r)) b
   refine jd (by decide) hz (jO (by decide) (jO (by decide) ?_))
   refine jd (by decide) hk ?_
   rw[aB]
   exact P0 (P0 h)
noncomputable def sJ:Nat->Int->List TD×Int
 |0,b=>([],b)
 |n+1,b=>((R8 b).1::(sJ n (R8 b).2).1,(sJ n (R8 b).2).2)
theorem VX: ∀(n:Nat) {b:Int} {r:ac},cG r (sJ n b).2->cG (AQ (sJ n b).1++r) b/\(sJ n b).1.length=n/\ ∀t∈(sJ n b).1,Ap t
 |0,b,r,h=>⟨h,rfl,fun _ ht=>by cases ht⟩
 |n+1,b,r,h=>by
  obtain⟨h1,h2,h3⟩:=VX n (b:=(R8 b).2) h
  obtain⟨h4,h5⟩:=apB h1
  refine⟨?_,congrArg nM h2,fun t ht=> ?_⟩
  ·show cG ((tdD (R8 b).1++AQ (sJ n (R8 b).2).1)++r) b
   rw[aB];exact h4
  ·rcases aG.mp ht with rfl|ht
   ·exact h5
   ·exact h3 t ht
noncomputable def Bh(b:Int):RD×Int:=match hU 4 b with
 |0=>(.alone (ldP (bU 4 b)),ldN (bU 4 b))
 |a+1=>match sJ (hU 3 (bU 4 (bU 5 (bU 4 b)))) (bU 3 (bU 4 (bU 5 (bU 4 b))))with
  |(ts,b')=>match hU 4 b' with
   |0=>(.recR a (hU 5 (bU 4 b)) (hU 4 (bU 5 (bU 4 b))) ts (hU 2 (bU 4 b')),bU 2 (bU 4 b'))
   |q+1=>(.std a (hU 5 (bU 4 b)) (hU 4 (bU 5 (bU 4 b))) ts q,bU 4 b')
theorem K5{b:Int}{r:ac}(h:cG r (Bh b).2):cG (Jn (Bh b).1++r) b/\CY (Bh b).1:=by
 unfold Bh at h ⊢
 split at h
 ·rename_i hz
  refine⟨?_,trivial⟩
  show cG (4::0::(PZ _++r)) b
  exact jd (by decide) hz (P0 h)
 ·rename_i a hz
  have key: ∀r',cG r' (sJ (hU 3 (bU 4 (bU 5 (bU 4 b)))) (bU 3 (bU 4 (bU 5 (bU 4 b))))).2->cG (4::(a+1)::5::hU 5 (bU 4 b)::4::hU 4 (bU 5 (bU 4 b))::3::(sJ (hU 3 (bU 4 (bU 5 (bU 4 b)))) (bU 3 (bU 4 (bU 5 (bU 4 b))))).1.length::(AQ (sJ (hU 3 (bU 4 (bU 5 (bU 4 b)))) (bU 3 (bU 4 (bU 5 (bU 4 b))))).1++r')) b:=fun r' h'=>by
   obtain⟨h1,h2,h3⟩:=VX _ h'
   rw[h2]
   exact jd (by decide) hz (jO (by decide) (jO (by decide) (jO (by decide) h1)))
  have lens:(sJ (hU 3 (bU 4 (bU 5 (bU 4 b)))) (bU 3 (bU 4 (bU 5 (bU 4 b))))).1.length <=2/\ ∀t∈(sJ (hU 3 (bU 4 (bU 5 (bU 4 b)))) (bU 3 (bU 4 (bU 5 (bU 4 b))))).1,Ap t:=by
   obtain⟨_,h2,h3⟩:=VX (hU 3 (bU 4 (bU 5 (bU 4 b)))) (b:=bU 3 (bU 4 (bU 5 (bU 4 b)))) (r:=[]) trivial
   exact⟨by rw[h2];have:=mo (m:=3) (by decide) (bU 4 (bU 5 (bU 4 b)));omega,h3⟩
  generalize sJ (hU 3 (bU 4 (bU 5 (bU 4 b)))) (bU 3 (bU 4 (bU 5 (bU 4 b))))=p at h key lens ⊢
  obtain⟨ts,b'⟩:=p
  dsimp only at h key lens ⊢
  split at h
  ·rename_i hq
   refine⟨?_,lens.1,lens.2,mo (by decide) _⟩
   show cG (4::(a+1)::5::_::4::_::3::ts.length::((AQ ts++[4,0,2,_])++r)) b
   rw[aB]
   refine key _ ?_
   show cG (4::0::2::_::r) b'
   exact jd (by decide) hq (jO (by decide) h)
  ·rename_i q hq
   refine⟨?_,lens.1,lens.2⟩
   show cG (4::(a+1)::5::_::4::_::3::ts.length::((AQ ts++[4,q+1])++r)) b
   rw[aB]
   refine key _ ?_
   show cG (4::(q+1)::r) b'
   exact jd (by decide) hq h
inductive FD where
 |none
 |one(o:Bool)(rd:RD)(s:Nat)
inductive WD where
 |none
 |one(v:Bool)(rd:RD)
structure DD where
 f:FD
 w:WD
 l:RD
 k:Nat
noncomputable def fnI(o:Bool):Nat:=match o with
 |true=>1
 |false=>0
noncomputable def wnI(v:Bool):Nat:=match v with
 |true=>3
 |false=>2
noncomputable def fdM:FD->List AV
 | .none=>[m2 3 1]
 | .one o rd s=>[m2 3 (match o with
  |true=>2
  |false=>0),m9 (fnI o) rd,m2 2 s]
noncomputable def wdM:WD->List AV
 | .none=>[m2 3 2]
 | .one v rd=>[m2 3 (match v with
  |true=>1
  |false=>0),m9 (wnI v) rd]
noncomputable def ddM(x:DD):List AV:=fdM x.f++(wdM x.w++[m9 4 x.l,m2 2 x.k])
noncomputable def IU(b:Int):FD×Int:=match hU 3 b with
 |0=>(.one false (Bh (bU 3 b)).1 (hU 2 (Bh (bU 3 b)).2),bU 2 (Bh (bU 3 b)).2)
 |1=>(.none,bU 3 b)
 |_=>(.one true (Bh (bU 3 b)).1 (hU 2 (Bh (bU 3 b)).2),bU 2 (Bh (bU 3 b)).2)
noncomputable def QY(b:Int):WD×Int:=match hU 3 b with
 |0=>(.one false (Bh (bU 3 b)).1,(Bh (bU 3 b)).2)
 |1=>(.one true (Bh (bU 3 b)).1,(Bh (bU 3 b)).2)
 |_=>(.none,bU 3 b)
noncomputable def Pp(b:Int):DD:=⟨(IU b).1,(QY (IU b).2).1,(Bh (QY (IU b).2).2).1,hU 2 (Bh (QY (IU b).2).2).2⟩
def anx:FD->Prop
 | .none=>True
 | .one _ rd s=>CY rd/\s<2
def anz:WD->Prop
 | .none=>True
 | .one _ rd=>CY rd
def anw(x:DD):Prop:=anx x.f/\anz x.w/\CY x.l/\x.k<2
noncomputable def zq(b:Int):List AV:=ddM (Pp b)
theorem aoi{b:Int}{l:aa}(h:cG (xb bx l) (IU b).2):cG (xb bx (fdM (IU b).1++l)) b/\anx (IU b).1:=by
 unfold IU at h ⊢
 have h3:=mo (m:=3) (by decide) b
 split at h
 ·rename_i hz
  obtain⟨h1,h2⟩:=K5 (jO (m:=2) (by decide) h)
  refine⟨?_,h2,mo (by decide) _⟩
  show cG (3::0::(Jn _++2::_::xb bx l)) b
  exact jd (by decide) hz h1
 ·rename_i hz
  refine⟨?_,trivial⟩
  show cG (3::1::xb bx l) b
  exact jd (by decide) hz h
 ·rename_i n0 n1
  have e0: ¬hU 3 b=0:=n0
  have e1: ¬hU 3 b=1:=n1
  have hz:hU 3 b=2:=by omega
  obtain⟨h1,h2⟩:=K5 (jO (m:=2) (by decide) h)
  refine⟨?_,h2,mo (by decide) _⟩
  show cG (3::2::(Jn _++2::_::xb bx l)) b
  exact jd (by decide) hz h1
theorem apH{b:Int}{l:aa}(h:cG (xb bx l) (QY b).2):cG (xb bx (wdM (QY b).1++l)) b/\anz (QY b).1:=by
 unfold QY at h ⊢
 have h3:=mo (m:=3) (by decide) b
 split at h
 ·rename_i hz
  obtain⟨h1,h2⟩:=K5 h
  refine⟨?_,h2⟩
  show cG (3::0::(Jn _++xb bx l)) b
  exact jd (by decide) hz h1
 ·rename_i hz
  obtain⟨h1,h2⟩:=K5 h
  refine⟨?_,h2⟩
  show cG (3::1::(Jn _++xb bx l)) b
  exact jd (by decide) hz h1
 ·rename_i n0 n1
  have e0: ¬hU 3 b=0:=n0
  have e1: ¬hU 3 b=1:=n1
  have hz:hU 3 b=2:=by omega
  refine⟨?_,trivial⟩
  show cG (3::2::xb bx l) b
  exact jd (by decide) hz h
theorem aar{n:Nat}{rd:RD}(hn:n<5)(h:CY rd):VB (m9 n rd):=⟨n,rd,rfl,hn,h⟩
theorem Yp(b:Int):(∀a∈zq b,VB a)/\cG (xb bx (zq b)) b/\anw (Pp b):=by
 have h4:cG (xb bx [m9 4 (Pp b).l,m2 2 (Pp b).k]) (QY (IU b).2).2/\CY (Pp b).l:=by
  obtain⟨h1,h2⟩:=K5 (b:=(QY (IU b).2).2) (r:=[2,(Pp b).k]) (jO (m:=2) (r:=[]) (by decide) trivial)
  exact⟨h1,h2⟩
 obtain⟨h3,h5⟩:=apH h4.1
 obtain⟨h2,h6⟩:=aoi h3
 have hok:anw (Pp b):=⟨h6,h5,h4.2,mo (by decide) _⟩
 refine⟨fun a ha=> ?_,h2,hok⟩
 obtain⟨o1,o2,o3,_⟩:=hok
 unfold zq ddM at ha
 rcases cV.mp ha with ha|ha
 ·generalize (Pp b).f=f at ha o1
  cases f with
  |none=>simp only[fdM,aP]at ha;subst ha;trivial
  |one o rd s=>
   simp only[fdM,aG,bg,or_false]at ha
   rcases ha with rfl|rfl|rfl
   ·cases o<;>trivial
   ·exact aar (by cases o<;>decide) o1.1
   ·trivial
 ·rcases cV.mp ha with ha|ha
  ·generalize (Pp b).w=w at ha o2
   cases w with
   |none=>simp only[wdM,aP]at ha;subst ha;trivial
   |one o rd=>
    simp only[wdM,aG,bg,or_false]at ha
    rcases ha with rfl|rfl
    ·cases o<;>trivial
    ·exact aar (by cases o<;>decide) o2
  ·simp only[aG,bg,or_false]at ha
   rcases ha with rfl|rfl
   ·exact aar (by decide) o3
   ·trivial
noncomputable def cLine:Nat:=45
noncomputable def dr:Nat:=1021
def Wl:aW:=fun l σ=>vK l fun _ _=>some (.opq,σ)
def tL(l:List T):T:=bu (motive:=fun _=>T) .nil (fun a _ ih=>.cons a ih) l
def sL(l:List TS):TS:=bu (motive:=fun _=>TS) .nil (fun a _ ih=>.cons a ih) l
noncomputable def cS(l:ac):T:=.cst (.str l)
noncomputable def cI(i:Int):T:=.cst (.int i)
def kA(f:Nat)(l:List T):T:=.call f (tL l)
def mE(n:Nat)(o:T)(l:List T):T:=.meth n o (tL l)
def lS(l:List T):T:=.lst (tL l)
def tU(l:List T):T:=.tup (tL l)
noncomputable def v0:T:=.var 0
noncomputable def v1:T:=.var 1
noncomputable def v2:T:=.var 2
noncomputable def v3:T:=.var 3
noncomputable def v4:T:=.var 4
noncomputable def v5:T:=.var 5
noncomputable def v6:T:=.var 6
noncomputable def v7:T:=.var 7
noncomputable def v8:T:=.var 8
noncomputable def v9:T:=.var 9
noncomputable def v10:T:=.var 10
noncomputable def v11:T:=.var 11
noncomputable def v12:T:=.var 12
noncomputable def v13:T:=.var 13
noncomputable def v14:T:=.var 14
noncomputable def v15:T:=.var 15
noncomputable def v16:T:=.var 16
noncomputable def mO:AV:=.str [48,49,50,51,52,53,54,55,56,57]
noncomputable def wx:AV:=.str [65,66,67,68,69,70,71,72,73,74,75,76,77,78,79,80,81,82,83,84,85,86,87,88,89,90,48,49,50,51,52,53,54,55,56,57,45]
noncomputable def lf:AV:=.str [48,49,50,51,52,53,54,55,56,57]
noncomputable def abx:AV:=.str [46,44,59]
noncomputable def Im:AV:=.int (30)
noncomputable def GC:AV:=.str [65,66,67,68,69,70,71,72,73,74,75,76,77,78,79,80,81,82,83,84,85,86,87,88,89,90]
noncomputable def rG:AV:=.int (18)
noncomputable def zQ:AV:=.int (160)
noncomputable def Kg:AV:=.str [34,39]
noncomputable def zR:AV:=.str [40,41,58,43,45,42,47,61,60,62]
noncomputable def zP:AV:=.str [42,42,32,60,61,32,62,61]
noncomputable def Sp:AV:=.int (8)
noncomputable def Sq:AV:=.int (12)
noncomputable def BD:AV:=.dct [[100,105,115,112,108,97,121],[98,105,110,97,114,121],[112,97,99,107,101,100],[105,110,100,101,120]] [.str [68,73,83,80,76,65,89],.str [66,73,78,65,82,89],.str [80,65,67,75,69,68,45,68,69,67,73,77,65,76],.str [73,78,68,69,88]]
noncomputable def xi:AV:=.int (66)
noncomputable def iW:AV:=.tup [.int (1),.int (77)]
noncomputable def tX:AV:=.dct [[68,73,83,80,76,65,89],[67,79,77,80],[67,79,77,80,85,84,65,84,73,79,78,65,76],[66,73,78,65,82,89],[80,65,67,75,69,68,45,68,69,67,73,77,65,76],[67,79,77,80,45,51],[67,79,77,80,85,84,65,84,73,79,78,65,76,45,51],[73,78,68,69,88]] [.str [100,105,115,112,108,97,121],.str [98,105,110,97,114,121],.str [98,105,110,97,114,121],.str [98,105,110,97,114,121],.str [112,97,99,107,101,100],.str [112,97,99,107,101,100],.str [112,97,99,107,101,100],.str [105,110,100,101,120]]
noncomputable def Kf:AV:=.int (88)
noncomputable def BC:AV:=.int (66)
noncomputable def BA:AV:=.int (77)
noncomputable def Sr:AV:=.str [70,73,76,76,69,82]
noncomputable def Fx:AV:=.int (49)
noncomputable def BB:AV:=.int (20)
noncomputable def lF:AV:=.str [32,65,67,67,69,80,84,32,65,67,67,69,83,83,32,65,68,68,32,65,68,86,65,78,67,73,78,71,32,65,70,84,69,82,32,65,76,76,32,65,76,80,72,65,66,69,84,73,67,32,65,76,80,72,65,66,69,84,73,67,45,76,79,87,69,82,32,65,76,80,72,65,66,69,84,73,67,45,85,80,80,69,82,32,65,76,80,72,65,78,85,77,69,82,73,67,32,65,76,80,72,65,78,85,77,69,82,73,67,45,69,68,73,84,69,68,32,65,76,83,79,32,65,76,84,69,82,78,65,84,69,32,65,78,68,32,65,78,89,32,65,82,69,32,65,82,69,65,32,65,82,69,65,83,32,65,83,67,69,78,68,73,78,71,32,65,83,83,73,71,78,32,65,84,32,65,85,84,72,79,82,32,66,69,70,79,82,69,32,66,73,78,65,82,89,32,66,76,65,78,75,32,66,76,79,67,75,32,66,89,32,67,65,76,76,32,67,72,65,82,65,67,84,69,82,32,67,72,65,82,65,67,84,69,82,83,32,67,76,79,83,69,32,67,79,77,80,32,67,79,77,80,45,51,32,67,79,77,80,85,84,65,84,73,79,78,65,76,32,67,79,77,80,85,84,65,84,73,79,78,65,76,45,51,32,67,79,77,80,85,84,69,32,67,79,78,70,73,71,85,82,65,84,73,79,78,32,67,79,78,84,65,73,78,83,32,67,79,78,84,69,78,84,32,67,79,78,84,73,78,85,69,32,67,79,78,86,69,82,84,73,78,71,32,67,79,80,89,32,67,79,82,82,32,67,79,82,82,69,83,80,79,78,68,73,78,71,32,67,79,85,78,84,32,68,65,84,65,32,68,65,84,69,45,67,79,77,80,73,76,69,68,32,68,65,84,69,45,87,82,73,84,84,69,78,32,68,69,76,69,84,69,32,68,69,76,73,77,73,84,69,68,32,68,69,76,73,77,73,84,69,82,32,68,69,80,69,78,68,73,78,71,32,68,69,83,67,69,78,68,73,78,71,32,68,73,83,80,76,65,89,32,68,73,86,73,68,69,32,68,73,86,73,83,73,79,78,32,68,79,87,78,32,68,85,80,76,73,67,65,84,69,83,32,68,89,78,65,77,73,67,32,69,76,83,69,32,69,78,68,32,69,78,68,45,65,68,68,32,69,78,68,45,67,65,76,76,32,69,78,68,45,67,79,77,80,85,84,69,32,69,78,68,45,68,69,76,69,84,69,32,69,78,68,45,68,73,86,73,68,69,32,69,78,68,45,69,86,65,76,85,65,84,69,32,69,78,68,45,73,70,32,69,78,68,45,77,85,76,84,73,80,76,89,32,69,78,68,45,80,69,82,70,79,82,77,32,69,78,68,45,82,69,65,68,32,69,78,68,45,82,69,84,85,82,78,32,69,78,68,45,82,69,87,82,73,84,69,32,69,78,68,45,83,69,65,82,67,72,32,69,78,68,45,83,84,65,82,84,32,69,78,68,45,83,84,82,73,78,71,32,69,78,68,45,83,85,66,84,82,65,67,84,32,69,78,68,45,85,78,83,84,82,73,78,71,32,69,78,68,45,87,82,73,84,69,32,69,78,86,73,82,79,78,77,69,78,84,32,69,81,85,65,76,32,69,82,82,79,82,32,69,86,65,76,85,65,84,69,32,69,88,67,69,80,84,73,79,78,32,69,88,73,84,32,69,88,84,69,78,68,32,69,88,84,69,82,78,65,76,32,70,65,76,83,69,32,70,68,32,70,73,76,69,32,70,73,76,69,45,67,79,78,84,82,79,76,32,70,73,76,76,69,82,32,70,73,82,83,84,32,70,79,82,32,70,82,79,77,32,71,73,86,73,78,71,32,71,76,79,66,65,76,32,71,79,32,71,82,69,65,84,69,82,32,72,73,71,72,45,86,65,76,85,69,32,72,73,71,72,45,86,65,76,85,69,83,32,73,45,79,32,73,45,79,45,67,79,78,84,82,79,76,32,73,68,69,78,84,73,70,73,67,65,84,73,79,78,32,73,70,32,73,78,32,73,78,68,69,88,32,73,78,68,69,88,69,68,32,73,78,73,84,73,65,76,32,73,78,73,84,73,65,76,73,90,69,32,73,78,80,85,84,32,73,78,80,85,84,45,79,85,84,80,85,84,32,73,78,83,80,69,67,84,32,73,78,83,84,65,76,76,65,84,73,79,78,32,73,78,84,79,32,73,78,86,65,76,73,68,32,73,83,32,74,85,83,84,32,74,85,83,84,73,70,73,69,68,32,75,69,89,32,76,65,66,69,76,32,76,69,65,68,73,78,71,32,76,69,70,84,32,76,69,83,83,32,76,73,78,69,32,76,73,78,69,83,32,76,73,78,75,65,71,69,32,76,79,67,75,32,76,79,87,45,86,65,76,85,69,32,76,79,87,45,86,65,76,85,69,83,32,77,69,82,71,69,32,77,79,68,69,32,77,79,86,69,32,77,85,76,84,73,80,76,89,32,78,65,84,73,86,69,32,78,69,71,65,84,73,86,69,32,78,69,88,84,32,78,79,32,78,79,84,32,78,85,77,69,82,73,67,32,78,85,77,69,82,73,67,45,69,68,73,84,69,68,32,79,66,74,69,67,84,45,67,79,77,80,85,84,69,82,32,79,67,67,85,82,83,32,79,70,32,79,70,70,32,79,77,73,84,84,69,68,32,79,78,32,79,80,69,78,32,79,80,84,73,79,78,65,76,32,79,82,32,79,82,68,69,82,32,79,82,71,65,78,73,90,65,84,73,79,78,32,79,84,72,69,82,32,79,85,84,80,85,84,32,79,86,69,82,70,76,79,87,32,80,65,67,75,69,68,45,68,69,67,73,77,65,76,32,80,69,82,70,79,82,77,32,80,73,67,32,80,73,67,84,85,82,69,32,80,79,73,78,84,69,82,32,80,79,83,73,84,73,86,69,32,80,82,79,67,69,68,85,82,69,32,80,82,79,67,69,69,68,32,80,82,79,71,82,65,77,32,80,82,79,71,82,65,77,45,73,68,32,81,85,79,84,69,32,81,85,79,84,69,83,32,82,65,78,68,79,77,32,82,69,65,68,32,82,69,67,79,82,68,32,82,69,67,79,82,68,83,32,82,69,68,69,70,73,78,69,83,32,82,69,70,69,82,69,78,67,69,32,82,69,76,65,84,73,86,69,32,82,69,76,69,65,83,69,32,82,69,77,65,73,78,68,69,82,32,82,69,78,65,77,69,83,32,82,69,80,76,65,67,69,32,82,69,80,76,65,67,73,78,71,32,82,69,84,85,82,78,32,82,69,87,82,73,84,69,32,82,73,71,72,84,32,82,79,85,78,68,69,68,32,82,85,78,32,83,65,77,69,32,83,68,32,83,69,65,82,67,72,32,83,69,67,84,73,79,78,32,83,69,67,85,82,73,84,89,32,83,69,76,69,67,84,32,83,69,78,84,69,78,67,69,32,83,69,80,65,82,65,84,69,32,83,69,81,85,69,78,84,73,65,76,32,83,69,84,32,83,73,71,78,32,83,73,90,69,32,83,79,82,84,32,83,79,82,84,45,77,69,82,71,69,32,83,79,85,82,67,69,45,67,79,77,80,85,84,69,82,32,83,80,65,67,69,32,83,80,65,67,69,83,32,83,80,69,67,73,65,76,45,78,65,77,69,83,32,83,84,65,78,68,65,82,68,32,83,84,65,82,84,32,83,84,65,84,85,83,32,83,84,79,80,32,83,84,82,73,78,71,32,83,85,66,84,82,65,67,84,32,83,89,78,67,32,83,89,78,67,72,82,79,78,73,90,69,68,32,84,65,76,76,89,73,78,71,32,84,69,83,84,32,84,72,65,78,32,84,72,69,78,32,84,72,82,79,85,71,72,32,84,72,82,85,32,84,73,77,69,83,32,84,79,32,84,82,65,73,76,73,78,71,32,84,82,85,69,32,85,78,83,84,82,73,78,71,32,85,78,84,73,76,32,85,80,32,85,80,79,78,32,85,83,65,71,69,32,85,83,73,78,71,32,86,65,76,85,69,32,86,65,76,85,69,83,32,86,65,82,89,73,78,71,32,87,72,69,78,32,87,73,84,72,32,87,79,82,75,73,78,71,45,83,84,79,82,65,71,69,32,87,82,73,84,69,32,90,69,82,79,32,90,69,82,79,69,83,32,90,69,82,79,83,32]
noncomputable def Fy:AV:=.int (255)
def QR:TS:=sL [.asg 1 (.bin .Add (lS [.atr 20 v0]) (.bin .Mult (lS [cI 88]) (kA 1 [.atr 23 v0]))),.for_ [2] (.atr 22 v0) (sL [.asg 1 (.bin .Add v1 (kA 0 [v2]))]),.ret v1]
def Nu(self:aW):cF:=⟨[],[("_law_walked",self),("len",eV)],[]⟩
def Oy(self:aW):SM:=
  (aV (cT [1] (bi (b4 .Add) (bv de (aw (un (aA 20) (al 0)) aI)) (bi (b4 .Mult) (bv de (aw (ba (.int (88))) aI)) (bv eV (aw (un (aA 23) (al 0)) aI)))))
  (aV (gE [2] (un (aA 22) (al 0))
  (aV (cT [1] (bi (b4 .Add) (al 1) (bv self (aw (al 2) aI))))
  br))
  (aV (eK (al 1))
  br)))
def zS(self:aW):aW:=bn 1 [] (Oy self)
def bA:Nat->aW
 |0=>Uq
 |n+1=>vR aaM (zS (bA n))
def R7:TS:=sL [.ret (tU [.atr 2 v0,.atr 1 v0])]
noncomputable def Q5:cF:=⟨[],[],[]⟩
def Rq:SM:=
  (aV (eK (bv gm (aw (un (aA 2) (al 0)) (aw (un (aA 1) (al 0)) aI))))
  br)
def qG:aW:=bn 1 [] Rq
def QM:TS:=sL [.ret (tU [.atr 8 v0,.atr 9 v0,.atr 7 v0,.atr 6 v0,.atr 5 v0])]
noncomputable def Np:cF:=⟨[],[],[]⟩
def Ov:SM:=
  (aV (eK (bv gm (aw (un (aA 8) (al 0)) (aw (un (aA 9) (al 0)) (aw (un (aA 7) (al 0)) (aw (un (aA 6) (al 0)) (aw (un (aA 5) (al 0)) aI)))))))
  br)
def i9:aW:=bn 1 [] Ov
def R6:TS:=sL [.ret (tU [.atr 18 v0,.atr 19 v0])]
noncomputable def Q4:cF:=⟨[],[],[]⟩
def Rp:SM:=
  (aV (eK (bv gm (aw (un (aA 18) (al 0)) (aw (un (aA 19) (al 0)) aI))))
  br)
def ft:aW:=bn 1 [] Rp
def Nj:TS:=sL [.asg 1 (.ife (.cmp .Is (.atr 14 v0) (.cst (.none))) (.cst (.none)) (mE 0 (.atr 14 v0) [])),.asg 2 (tU [.atr 16 v0,.atr 15 v0,.atr 10 v0,.atr 35 v0,v1,.atr 17 v0]),.ret (.bin .Add v2 (tU [.atr 11 v0,.atr 13 v0,.atr 12 v0,.atr 21 v0]))]
def Ln:cF:=⟨[],[],[("told",(fm lL i9 gP))]⟩
def MJ:SM:=
  (aV (cT [1] (td (fw (b7 .Is) (un (aA 14) (al 0)) (ba (.none))) (ba (.none)) (cH (fm lL i9 gP) (un (aA 14) (al 0)) aI)))
  (aV (cT [2] (bv gm (aw (un (aA 16) (al 0)) (aw (un (aA 15) (al 0)) (aw (un (aA 10) (al 0)) (aw (un (aA 35) (al 0)) (aw (al 1) (aw (un (aA 17) (al 0)) aI))))))))
  (aV (eK (bi (b4 .Add) (al 2) (bv gm (aw (un (aA 11) (al 0)) (aw (un (aA 13) (al 0)) (aw (un (aA 12) (al 0)) (aw (un (aA 21) (al 0)) aI)))))))
  br)))
def jp:aW:=bn 1 [] MJ
def yS:gR:=(fm cp jp gP)
def VV:TS:=sL [.asg 1 (kA 0 [.comp [3] (.atr 23 v0) .nop (mE 0 v3 [])]),.ret (tU [.atr 20 v0,.atr 18 v0,mE 1 v0 [],v1,kA 0 [.comp [2] (.atr 22 v0) .nop (mE 0 v2 [])]])]
def Sc(self:aW):cF:=⟨[],[("tuple",fi)],[("told",(fm nB ft (fm cp self gP))),("clauses",yS)]⟩
def y4(self:aW):SM:=
  (aV (cT [1] (bv fi (aw (eO [3] (un (aA 23) (al 0)) (fun _ σ=>some (true,σ)) (cH (fm nB ft (fm cp self gP)) (al 3) aI)) aI)))
  (aV (eK (bv gm (aw (un (aA 20) (al 0)) (aw (un (aA 18) (al 0)) (aw (cH yS (al 0) aI) (aw (al 1) (aw (bv fi (aw (eO [2] (un (aA 22) (al 0)) (fun _ σ=>some (true,σ)) (cH (fm nB ft (fm cp self gP)) (al 2) aI)) aI)) aI)))))))
  br))
def wA(self:aW):aW:=bn 1 [] (y4 self)
def bG:Nat->aW
 |0=>Uq
 |n+1=>vR nU (wA (bG n))
def VU:TS:=sL [.asg 1 (kA 0 [.comp [4] (.atr 26 v0) .nop (tU [v4,.cmp .In v4 (.atr 27 v0),kA 0 [.comp [5] (.idx (.atr 26 v0) v4) .nop (mE 0 v5 [])]])]),.ret (tU [kA 0 [.comp [3] (.atr 24 v0) .nop (mE 0 v3 [])],kA 0 [.comp [2] (.atr 25 v0) .nop (mE 0 v2 [])],v1])]
def Sb:cF:=⟨[],[("tuple",fi)],[("told",(fm cp (bG 6) gP))]⟩
def Ut:SM:=
  (aV (cT [1] (bv fi (aw (eO [4] (un (aA 26) (al 0)) (fun _ σ=>some (true,σ)) (bv gm (aw (al 4) (aw (rT (fw (b7 .In) (al 4) (un (aA 27) (al 0)))) (aw (bv fi (aw (eO [5] (bi fV (un (aA 26) (al 0)) (al 4)) (fun _ σ=>some (true,σ)) (cH (fm cp (bG 6) gP) (al 5) aI)) aI)) aI))))) aI)))
  (aV (eK (bv gm (aw (bv fi (aw (eO [3] (un (aA 24) (al 0)) (fun _ σ=>some (true,σ)) (cH (fm cp (bG 6) gP) (al 3) aI)) aI)) (aw (bv fi (aw (eO [2] (un (aA 25) (al 0)) (fun _ σ=>some (true,σ)) (cH (fm cp (bG 6) gP) (al 2) aI)) aI)) (aw (al 1) aI)))))
  br))
def wz:aW:=bn 1 [] Ut
def s0:aW:=vR nU wz
def qD:gR:=(fm UX qG (fm lL i9 (fm nB ft (fm cp (bG 6) (fm Zy s0 gP)))))
def JA:TS:=sL [.ret (.cmp .GtE (.atr 4 v0) (kA 0 [.atr 38 v0]))]
def HO:cF:=⟨[],[("len",eV)],[]⟩
def o4:SM:=
  (aV (eK (rT (fw (b7 .GtE) (un (aA 4) (al 0)) (bv eV (aw (un (aA 38) (al 0)) aI)))))
  br)
def lh:aW:=bn 1 [] o4
def Wo:gR:=(fm dr lh gP)
def qe:gR:=(fm dr vw gP)
def QN:TS:=sL [.ifs (.cmp .Lt (.bin .Add (.atr 4 v0) v1) (kA 0 [.atr 38 v0])) (sL [.ret (.idx (.atr 38 v0) (.bin .Add (.atr 4 v0) v1))]) .nil,.ret (.cst (.none))]
def Nq:cF:=⟨[],[("len",eV)],[]⟩
def o5:SM:=
  (aV (sb (fw (b7 .Lt) (bi (b4 .Add) (un (aA 4) (al 0)) (al 1)) (bv eV (aw (un (aA 38) (al 0)) aI)))
  (aV (eK (bi fV (un (aA 38) (al 0)) (bi (b4 .Add) (un (aA 4) (al 0)) (al 1))))
  br)
  br)
  (aV (eK (ba (.none)))
  br))
def ii:aW:=bn 2 [.int (0)] o5
def gw:gR:=(fm dr ii gP)
def yV:gR:=(fm dr Il gP)
def JB:TS:=sL [.asg 3 (mE 0 v0 [v2]),.ret (.and (.cmp .IsNot v3 (.cst (.none))) (.cmp .Eq (.atr 2 v3) v1))]
def HT:cF:=⟨[],[],[("peek",gw)]⟩
def lj:SM:=
  (aV (cT [3] (cH gw (al 0) (aw (al 2) aI)))
  (aV (eK (SS (rT (fw (b7 .IsNot) (al 3) (ba (.none)))) (rT (fw (b7 .Eq) (un (aA 2) (al 3)) (al 1)))))
  br))
def iy:aW:=bn 3 [.int (0)] lj
def fj:gR:=(fm dr iy gP)
def tY:gR:=(fm dr LA gP)
def wg:TS:=sL [.asg 2 (cI 0),.for_ [3] (mE 0 v1 [cS [32]]) (sL [.ifs (.or (.not (mE 2 v0 [cS [119,111,114,100],v2])) (.cmp .NotEq (.atr 1 (mE 1 v0 [v2])) v3)) (sL [.ret (.cst (.bool false))]) .nil,.asg 2 (.bin .Add v2 (cI 1))]),.ret (.cst (.bool true))]
def uY:cF:=⟨[],[],[("split",(iq kG)),("peek",gw),("is_kind",fj)]⟩
def Iw:SM:=
  cg uY wg
def jy:aW:=bn 2 [] Iw
def q8:gR:=(fm dr jy gP)
def GO:gR:=(fm dr LF gP)
def JC:TS:=sL [.ret (.and (mE 1 v0 [cS [115,105,103,110],v2]) (.cmp .Eq (.atr 1 (mE 0 v0 [v2])) v1))]
def HU:cF:=⟨[],[],[("peek",gw),("is_kind",fj)]⟩
def lm:SM:=
  (aV (eK (SS (cH fj (al 0) (aw (ba (.str [115,105,103,110])) (aw (al 2) aI))) (rT (fw (b7 .Eq) (un (aA 1) (cH gw (al 0) (aw (al 2) aI))) (al 1)))))
  br)
def jx:aW:=bn 3 [.int (0)] lm
def vx:gR:=(fm dr jx gP)
def qf:gR:=(fm dr LB gP)
def Fn:TS:=sL [.ifs (.not (mE 0 v0 [v1])) (sL [.ret (.cst (.bool false))]) .nil,.asgA 4 v0 (.bin .Add (.atr 4 v0) (cI 1)),.ret (.cst (.bool true))]
def DM:cF:=⟨[],[],[("is_sign",vx)]⟩
def mP:SM:=
  (aV (sb (pc (jh (cH vx (al 0) (aw (al 1) aI))))
  (aV (eK (ba (.bool false)))
  br)
  br)
  (aV (lU 4 (al 0) (bi (b4 .Add) (un (aA 4) (al 0)) (ba (.int (1)))))
  (aV (eK (ba (.bool true)))
  br)))
def jN:aW:=bn 2 [] mP
def Rn:gR:=(fm dr jN gP)
def sY:gR:=(fm dr Fw gP)
def sH:TS:=sL [.ifs (.not (mE 0 v0 [v1])) (sL [.bad]) .nil]
def rx:cF:=⟨[],[],[("skip_sign",sY)]⟩
def Fg:SM:=
  cg rx sH
def sr:aW:=bn 2 [] Fg
def yU:gR:=(fm dr sr gP)
def QO:TS:=sL [.ifs (.not (mE 1 v0 [v1])) (sL [.ret (.cst (.bool false))]) .nil,.asgA 4 v0 (.bin .Add (.atr 4 v0) (kA 0 [mE 0 v1 [cS [32]]])),.ret (.cst (.bool true))]
def Nr:cF:=⟨[],[("len",eV)],[("split",(iq kG)),("is_word",q8)]⟩
def o6:SM:=
  (aV (sb (pc (jh (cH q8 (al 0) (aw (al 1) aI))))
  (aV (eK (ba (.bool false)))
  br)
  br)
  (aV (lU 4 (al 0) (bi (b4 .Add) (un (aA 4) (al 0)) (bv eV (aw (cH (iq kG) (al 1) (aw (ba (.str [32])) aI)) aI))))
  (aV (eK (ba (.bool true)))
  br)))
def oX:aW:=bn 2 [] o6
def afu:gR:=(fm dr oX gP)
def vy:gR:=(fm dr Wm gP)
def AP:TS:=sL [.ifs (.not (mE 1 v0 [v1])) (sL [.ret (.cst (.bool false))]) .nil,.expr (mE 0 v0 [cS [46]]),.ret (.cst (.bool true))]
def yD:cF:=⟨[],[],[("need_sign",yU),("skip",vy)]⟩
def M0:SM:=
  cg yD AP
def Ab:aW:=bn 2 [] M0
def Mm:TS:=sL [.asgA 34 v1 v0,.expr (mE 0 (.atr 22 v0) [v1])]
def JS:cF:=⟨[],[],[("append",(fT gv))]⟩
def Wu:SM:=
  cg JS Mm
def LG:aW:=bn 2 [] Wu
def yR:gR:=(fm cp LG gP)
def DA:TS:=sL [.whl (.and (.cmp .NotEq v0 (.cst (.lst []))) (.cmp .GtE (.atr 20 (.idx v0 (.neg (cI 1)))) (.atr 20 v1))) (sL [.expr (mE 2 v0 [])]),.ifs (.or (.cmp .Eq v0 (.cst (.lst []))) (.cmp .Eq (.atr 20 (.idx v0 (cI 0))) (.glb 1))) (sL [.bad]) .nil,.asg 2 (.idx v0 (.neg (cI 1))),.ifs (.and (.cmp .NotEq (.atr 22 v2) (.cst (.lst []))) (.cmp .NotEq (.atr 20 (.idx (.atr 22 v2) (cI 0))) (.atr 20 v1))) (sL [.bad]) .nil,.ifs (.cmp .GtE (kA 0 [v0]) (.glb 0)) (sL [.bad]) .nil,.expr (mE 1 v2 [v1]),.expr (mE 0 v0 [v1])]
def A1:cF:=⟨[("MOST_NESTED",BB),("ALONE",BA)],[("len",eV)],[("append",(fT gv)),("add",yR),("pop",(fT Zd))]⟩
def OE:SM:=
  cg A1 DA
def BV:aW:=bn 2 [] OE
def TQ:TS:=sL [.asgT [1,2,3,4] (tU [lS [],lS [],.cst (.none),lS []]),.for_ [5] v0 (sL [.ifs (.cmp .Eq (.atr 20 v5) (.glb 2)) (sL [.ifs (.cmp .Is v3 (.cst (.none))) (sL [.bad]) .nil,.expr (mE 1 (.atr 23 v3) [.idx (.atr 23 v5) (cI 0)]),.cont]) .nil,.ifs (.cmp .Eq (.atr 20 v5) (.glb 0)) (sL [.ifs (.or (.cmp .Eq v1 (.cst (.lst []))) (.cmp .Eq (.atr 20 (.idx v1 (.neg (cI 1)))) (.glb 1))) (sL [.bad]) .nil,.expr (mE 1 v4 [tU [.bin .Sub (kA 0 [v1]) (cI 1),v5]])]) (sL [.ifs (.and (.cmp .NotEq v4 (.cst (.lst []))) (.and (.cmp .Eq (.idx (.idx v4 (.neg (cI 1))) (cI 0)) (.bin .Sub (kA 0 [v1]) (cI 1))) (.cmp .NotIn (.atr 20 v5) (tU [cI 1,.glb 1])))) (sL [.bad]) (sL [.ifs (.cmp .In (.atr 20 v5) (tU [cI 1,.glb 1])) (sL [.expr (mE 1 v1 [v5]),.asg 2 (lS [v5])]) (sL [.expr (kA 1 [v2,v5])])])]),.asg 3 v5]),.for_ [6,5] v4 (sL [.expr (mE 0 (.idx v1 v6) [v5])]),.ret v1]
def Q7:cF:=⟨[("RENAMING",BC),("ALONE",BA),("NAMING",Kf)],[("len",eV),("put_beneath",BV)],[("add",yR),("append",(fT gv))]⟩
def ac1:SM:=
  cg Q7 TQ
def Sw:aW:=bn 1 [] ac1
def Lk:TS:=sL [.asg 1 (mE 0 v0 []),.ret (.and (.cmp .IsNot v1 (.cst (.none))) (.cmp .Eq (.atr 2 v1) (cS [110,117,109,98,101,114])))]
def JW:cF:=⟨[],[],[("peek",yV)]⟩
def jY:SM:=
  (aV (cT [1] (cH yV (al 0) aI))
  (aV (eK (SS (rT (fw (b7 .IsNot) (al 1) (ba (.none)))) (rT (fw (b7 .Eq) (un (aA 2) (al 1)) (ba (.str [110,117,109,98,101,114]))))))
  br))
def jX:aW:=bn 1 [] jY
def we:TS:=sL [.asgA 18 v0 v1,.asgA 19 v0 (kA 0 [v2])]
def uW:cF:=⟨[],[("tuple",fi)],[]⟩
def vD:SM:=
  cg uW we
def Ip:aW:=bn 3 [] vD
def xq:aW:=FT 8 (uu nB Ip)
def yh:TS:=sL [.for_ [2] (mE 0 v1 [cS [32]]) (sL [.ifs (mE 1 v0 [v2]) (sL [.ret v2]) .nil]),.ret (cS [])]
def wq:cF:=⟨[],[],[("split",(iq kG)),("skip",vy)]⟩
def Kp:SM:=
  cg wq yh
def xt:aW:=bn 2 [] Kp
def tv:gR:=(fm dr xt gP)
def wj:TS:=sL [.asg 1 (.comp [3] v0 .nop (kA 1 [v3])),.frz 1,.ifs (.comp [2] v1 (.cmp .Gt v2 (.glb 0)) v2) (sL [.bad]) .nil,.ret (kA 0 [v1])]
def u4:cF:=⟨[("MOST_OCTET",Fy)],[("bytes",Wk),("ord",Zc)],[]⟩
def Iy:SM:=
  cg u4 wj
def iz:aW:=bn 1 [] Iy
def Li:TS:=sL [.ifs (.not (mE 1 v0 [cS [108,105,116,101,114,97,108]])) (sL [.bad]) .nil,.asg 1 (kA 0 [.atr 1 (mE 0 v0 [])]),.ifs (.cmp .Is v1 (.cst (.none))) (sL [.bad]) .nil,.asgA 4 v0 (.bin .Add (.atr 4 v0) (cI 1)),.ret v1]
def JT:cF:=⟨[],[("octets_of_text",(wK iz))],[("peek",gw),("is_kind",fj)]⟩
def qi:SM:=
  (aV (sb (pc (jh (cH fj (al 0) (aw (ba (.str [108,105,116,101,114,97,108])) aI))))
  (aV (fun _ _=>none)
  br)
  br)
  (aV (cT [1] (bv (wK iz) (aw (un (aA 1) (cH gw (al 0) aI)) aI)))
  (aV (sb (fw (b7 .Is) (al 1) (ba (.none)))
  (aV (fun _ _=>none)
  br)
  br)
  (aV (lU 4 (al 0) (bi (b4 .Add) (un (aA 4) (al 0)) (ba (.int (1)))))
  (aV (eK (al 1))
  br)))))
def mi:aW:=bn 1 [] qi
def Zg:gR:=(fm dr mi gP)
def Su:gR:=(fm dr (Om iz) gP)
def sG:TS:=sL [.ifs (.or (mE 1 v0 [cS [43]]) (mE 1 v0 [cS [45]])) (sL [.ret (mE 0 v0 [cS [110,117,109,98,101,114],cI 1])]) .nil,.ret (mE 0 v0 [cS [110,117,109,98,101,114]])]
def rv:cF:=⟨[],[],[("is_kind",tY),("is_sign",qf)]⟩
def Ff:SM:=
  cg rv sG
def sq:aW:=bn 1 [] Ff
def yT:gR:=(fm dr sq gP)
def QV:TS:=sL [.ret (tU [.neg (.idx v0 (cI 0)),.idx v0 (cI 1)])]
noncomputable def MC:cF:=⟨[],[],[]⟩
def Zl:SM:=
  cg MC QV
def Ou:aW:=bn 1 [] Zl
def QT:TS:=sL [.ifs (.cmp .Lt v1 (cI 0)) (sL [.bad]) .nil,.whl (.and (.cmp .Gt v1 (cI 0)) (.cmp .Eq (.bin .Mod v0 (cI 10)) (cI 0))) (sL [.bad,.bad]),.ret (tU [v0,v1])]
noncomputable def MA:cF:=⟨[],[],[]⟩
def Zj:SM:=
  cg MA QT
def Os:aW:=bn 2 [.int (0)] Zj
def Mv:TS:=sL [.asg 1 (cI 0),.for_ [2] v0 (sL [.asg 1 (.bin .Add (.bin .Mult v1 (cI 10)) (mE 0 (.glb 0) [v2]))]),.ret v1]
def J4:cF:=⟨[("FIGURES_decimals",mO)],[],[("index",(iq Ik))]⟩
def WE:SM:=
  cg J4 Mv
def LS:aW:=bn 1 [] WE
def AH:TS:=sL [.asg 1 (.ife (.cmp .In (.slc v0 .nop (cI 1)) (tU [cS [43],cS [45]])) (cI 1) (cI 0)),.asgT [2,3] (tU [.slc v0 v1 .nop,cS []]),.ifs (.cmp .In (cS [46]) v2) (sL [.asg 4 (mE 0 v2 [cS [46]]),.asgT [2,3] (tU [.slc v2 .nop v4,.slc v2 (.bin .Add v4 (cI 1)) .nop]),.ifs (.cmp .Eq v3 (cS [])) (sL [.bad]) .nil]) .nil,.ifs (.cmp .Eq (.bin .Add v2 v3) (cS [])) (sL [.bad]) .nil,.for_ [5] (kA 3 [v1,kA 1 [v0]]) (sL [.ifs (.and (.cmp .NotIn (.idx v0 v5) (.glb 0)) (.cmp .NotEq v5 (.bin .Add v1 (kA 1 [v2])))) (sL [.bad]) .nil]),.asg 6 (kA 2 [.bin .Add v2 v3]),.ret (kA 0 [.ife (.cmp .Eq (.slc v0 .nop (cI 1)) (cS [45])) (.neg v6) v6,kA 1 [v3]])]
def yv:cF:=⟨[("FIGURES_decimals",mO)],[("decimal",Os),("len",eV),("worth_of",LS),("range",lE)],[("index",(iq Ik))]⟩
def MS:SM:=
  cg yv AH
def iE:aW:=bn 1 [] MS
def QP:TS:=sL [.asg 1 (mE 0 v0 []),.ifs (.cmp .Is v1 (.cst (.none))) (sL [.bad]) .nil,.asgA 4 v0 (.bin .Add (.atr 4 v0) (cI 1)),.ret v1]
def Nt:cF:=⟨[],[],[("peek",gw)]⟩
def t9:SM:=
  (aV (cT [1] (cH gw (al 0) aI))
  (aV (sb (fw (b7 .Is) (al 1) (ba (.none)))
  (aV (fun _ _=>none)
  br)
  br)
  (aV (lU 4 (al 0) (bi (b4 .Add) (un (aA 4) (al 0)) (ba (.int (1)))))
  (aV (eK (al 1))
  br))))
def oY:aW:=bn 1 [] t9
def afv:gR:=(fm dr oY gP)
def El:gR:=(fm dr Wn gP)
def yi:TS:=sL [.ifs (.not (mE 2 v0 [])) (sL [.bad]) .nil,.asg 1 (mE 1 v0 [cS [45]]),.ifs (.not v1) (sL [.expr (mE 1 v0 [cS [43]])]) .nil,.asg 2 (kA 1 [.atr 1 (mE 0 v0 [])]),.ret (.ife v1 (kA 0 [v2]) v2)]
def wt:cF:=⟨[],[("negated",Ou),("read_decimal",iE)],[("take",El),("skip_sign",sY),("is_number",yT)]⟩
def Kq:SM:=
  cg wt yi
def xu:aW:=bn 1 [] Kq
def Sv:gR:=(fm dr xu gP)
def AK:TS:=sL [.ifs (mE 2 v0 []) (sL [.ret (tU [cS [110,117,109,98,101,114],mE 3 v0 []])]) .nil,.ifs (mE 0 v0 [cS [108,105,116,101,114,97,108]]) (sL [.ret (tU [cS [116,101,120,116],mE 1 v0 []])]) .nil,.bad,.bad,.bad]
def yy:cF:=⟨[],[],[("is_kind",tY),("octets",Su),("is_number",yT),("signed",Sv)]⟩
def MV:SM:=
  cg yy AK
def z4:aW:=bn 2 [] MV
def Dx:TS:=sL [.ret (.cmp .In (.bin .Add (.bin .Add (cS [32]) v0) (cS [32])) (.glb 0))]
noncomputable def AY:cF:=⟨[("RESERVED",lF)],[],[]⟩
def OB:SM:=
  cg AY Dx
def BR:aW:=bn 1 [] OB
def wf:TS:=sL [.ret (.and (mE 1 v0 [cS [119,111,114,100],v1]) (.not (kA 0 [.atr 1 (mE 0 v0 [v1])])))]
def uX:cF:=⟨[],[("is_reserved",BR)],[("peek",yV),("is_kind",tY)]⟩
def Iv:SM:=
  cg uX wf
def vA:aW:=bn 2 [.int (0)] Iv
def tZ:gR:=(fm dr vA gP)
def AJ:TS:=sL [.ifs (mE 0 v0 []) (sL [.bad]) .nil,.ret (kA 0 [v0,.glb 0])]
def yx:cF:=⟨[("no_expression",.opq)],[("read_operand",z4)],[("is_name",tZ)]⟩
def MU:SM:=
  cg yx AJ
def z0:aW:=bn 1 [] MU
def DC:TS:=sL [.ifs (.cmp .Eq (mE 2 v0 [cS [86,65,76,85,69,32,86,65,76,85,69,83]]) (cS [])) (sL [.bad]) .nil,.expr (mE 2 v0 [cS [73,83,32,65,82,69]]),.asg 1 (lS []),.whl (.or (.cmp .Eq v1 (lS [])) (.not (mE 0 v0 [cS [46]]))) (sL [.asgT [2,3] (tU [kA 0 [v0],.cst (.none)]),.ifs (.cmp .NotEq (mE 2 v0 [cS [84,72,82,85,32,84,72,82,79,85,71,72]]) (cS [])) (sL [.asg 3 (kA 0 [v0])]) .nil,.expr (mE 1 v1 [tU [v2,v3]])]),.ret v1]
def A3:cF:=⟨[],[("read_literal",z0)],[("is_sign",qf),("append",(fT gv)),("one_of",tv)]⟩
def OG:SM:=
  cg A3 DC
def BX:aW:=bn 1 [] OG
def Dt:TS:=sL [.ifs (.not (mE 1 v0 [])) (sL [.bad]) .nil,.ret (.atr 1 (mE 0 v0 []))]
def AR:cF:=⟨[],[],[("take",El),("is_name",tZ)]⟩
def Ow:SM:=
  cg AR Dt
def BG:aW:=bn 1 [] Ow
def Ek:gR:=(anu dr BG)
def Du:TS:=sL [.ifs (.not (mE 0 v0 [v1])) (sL [.bad]) .nil]
def AU:cF:=⟨[],[],[("skip",vy)]⟩
def Ox:SM:=
  cg AU Du
def BH:aW:=bn 2 [] Ox
def abz:gR:=(fm dr BH gP)
def AL:TS:=sL [.expr (mE 2 v0 [cS [82,69,78,65,77,69,83]]),.asgT [1,2] (tU [mE 1 v0 [],.cst (.none)]),.ifs (.cmp .NotEq (mE 0 v0 [cS [84,72,82,85,32,84,72,82,79,85,71,72]]) (cS [])) (sL [.asg 2 (mE 1 v0 [])]) .nil,.ret (tU [v1,v2])]
def yz:cF:=⟨[],[],[("one_of",tv),("name",Ek),("need",abz)]⟩
def MW:SM:=
  cg yz AL
def z6:aW:=bn 1 [] MW
def uR:TS:=sL [.asgA 8 v0 v1,.asgA 9 v0 v2,.asgA 7 v0 v3,.asgA 6 v0 (kA 0 [v4]),.asgA 5 v0 (kA 0 [v5])]
def sM:cF:=⟨[],[("tuple",fi)],[]⟩
def t8:SM:=
  cg sM uR
def GQ:aW:=bn 6 [.none,.tup [],.tup []] t8
def Km:aW:=FT 8 (uu lL GQ)
def AA:TS:=sL [.asg 1 (lS [mE 1 v0 []]),.whl (mE 0 v0 []) (sL [.bad]),.ret v1]
def yo:cF:=⟨[],[],[("is_name",tZ),("name",Ek)]⟩
def MK:SM:=
  cg yo AA
def zU:aW:=bn 1 [] MK
def Wp:gR:=(fm dr zU gP)
def AD:TS:=sL [.asgT [1,2] (tU [cI 0,cI 0]),.whl (.or (.cmp .Gt v1 (cI 0)) (.and (.cmp .Eq v2 (cI 0)) (mE 0 v0 [cS [40]]))) (sL [.bad,.bad,.bad]),.ret (.cst (.bool false))]
def yr:cF:=⟨[],[],[("is_sign",qf)]⟩
def MN:SM:=
  cg yr AD
def zX:aW:=bn 1 [] MN
def Mp:TS:=sL [.asg 2 (mE 3 v0 []),.asg 3 (lS []),.whl (.cmp .NotEq (mE 1 v0 [cS [79,70,32,73,78]]) (cS [])) (sL [.expr (mE 2 v3 [mE 3 v0 []])]),.asg 4 (tU []),.ifs (.and (mE 0 v0 [cS [40]]) (.not (kA 1 [v0]))) (sL [.bad]) .nil,.asg 5 (.ife (kA 1 [v0]) .nil (.cst (.none))),.ret (tU [cS [114,101,102],v2,kA 0 [v3],v4,v5])]
def JY:cF:=⟨[],[("tuple",fi),("is_part_next",zX)],[("is_sign",qf),("one_of",tv),("append",(fT gv)),("name",Ek)]⟩
def Wx:SM:=
  cg JY Mp
def LH:aW:=bn 2 [] Wx
def Ms:TS:=sL [.ifs (.cmp .GtE v1 (.idx v0 (cI 1))) (sL [.ret (.bin .Mult (.idx v0 (cI 0)) (.bin .Pow (cI 10) (.bin .Sub v1 (.idx v0 (cI 1)))))]) .nil,.bad,.bad,.bad,.bad]
noncomputable def J1:cF:=⟨[],[],[]⟩
def WA:SM:=
  cg J1 Ms
def LP:aW:=bn 3 [] WA
def Mt:TS:=sL [.ret (kA 0 [v0,cI 0,.cst (.bool false)])]
def J2:cF:=⟨[],[("units_at",LP)],[]⟩
def WB:SM:=
  cg J2 Mt
def og:aW:=bn 1 [] WB
def Mo:TS:=sL [.ret (.cmp .Eq (.idx v0 (cI 1)) (cI 0))]
noncomputable def JX:cF:=⟨[],[],[]⟩
def Ww:SM:=
  cg JX Mo
def lH:aW:=bn 1 [] Ww
def Nl:TS:=sL [.ifs (.not (mE 1 v0 [cS [110,117,109,98,101,114]])) (sL [.bad]) .nil,.asg 1 (kA 2 [.atr 1 (mE 0 v0 [])]),.ifs (.not (kA 1 [v1])) (sL [.bad]) .nil,.asgA 4 v0 (.bin .Add (.atr 4 v0) (cI 1)),.ret (kA 0 [v1])]
def Lp:cF:=⟨[],[("whole_of",(wK og)),("is_whole",(wK lH)),("read_decimal",(wK iE))],[("peek",gw),("is_kind",fj)]⟩
def rN:SM:=
  (aV (sb (pc (jh (cH fj (al 0) (aw (ba (.str [110,117,109,98,101,114])) aI))))
  (aV (fun _ _=>none)
  br)
  br)
  (aV (cT [1] (bv (wK iE) (aw (un (aA 1) (cH gw (al 0) aI)) aI)))
  (aV (sb (pc (jh (bv (wK lH) (aw (al 1) aI))))
  (aV (fun _ _=>none)
  br)
  br)
  (aV (lU 4 (al 0) (bi (b4 .Add) (un (aA 4) (al 0)) (ba (.int (1)))))
  (aV (eK (bv (wK og) (aw (al 1) aI)))
  br)))))
def nw:aW:=bn 1 [] rN
def acZ:gR:=(fm dr nw gP)
def Op:gR:=(fm dr (So iE lH og) gP)
def DB:TS:=sL [.asg 1 (mE 5 v0 []),.asgT [2,3] (tU [v1,.cst (.none)]),.ifs (mE 0 v0 [cS [84,79]]) (sL [.asg 2 (mE 5 v0 [])]) .nil,.expr (mE 0 v0 [cS [84,73,77,69,83]]),.ifs (mE 0 v0 [cS [68,69,80,69,78,68,73,78,71]]) (sL [.expr (mE 0 v0 [cS [79,78]]),.asg 3 (kA 2 [v0,.glb 0])]) .nil,.asgT [4,5] (tU [lS [],tU []]),.whl (.or (mE 2 v0 [cS [65,83,67,69,78,68,73,78,71]]) (mE 2 v0 [cS [68,69,83,67,69,78,68,73,78,71]])) (sL [.asg 6 (.cmp .Eq (.atr 1 (mE 4 v0 [])) (cS [65,83,67,69,78,68,73,78,71])),.expr (mE 0 v0 [cS [75,69,89]]),.expr (mE 0 v0 [cS [73,83]]),.expr (mE 3 v4 [.comp [7] (mE 1 v0 []) .nop (tU [v6,v7])])]),.ifs (mE 0 v0 [cS [73,78,68,69,88,69,68]]) (sL [.expr (mE 0 v0 [cS [66,89]]),.asg 5 (kA 1 [mE 1 v0 []])]) .nil,.ifs (.or (.cmp .Lt v2 v1) (.or (.cmp .Eq v2 (cI 0)) (.and (.cmp .Is v3 (.cst (.none))) (.cmp .NotEq v2 v1)))) (sL [.bad]) .nil,.ret (kA 0 [v1,v2,v3,v4,v5])]
def A2:cF:=⟨[("no_expression",.opq)],[("Occurs",Km),("tuple",fi),("read_ref",LH)],[("skip",vy),("names",Wp),("is_word",GO),("extend",(fT f8)),("take",El),("whole",Op)]⟩
def OF:SM:=
  cg A2 DB
def BW:aW:=bn 1 [] OF
def ru:TS:=sL [.ifs (.cmp .Eq v2 (cS [82,69,68,69,70,73,78,69,83])) (sL [.bad]) (sL [.ifs (.cmp .Eq v2 (cS [79,67,67,85,82,83])) (sL [.asgA 14 v1 (kA 0 [v0])]) (sL [.ifs (.cmp .Eq v2 (cS [74,85,83,84,73,70,73,69,68])) (sL [.bad,.bad]) (sL [.ifs (.cmp .Eq v2 (cS [66,76,65,78,75])) (sL [.bad,.bad,.bad]) (sL [.ifs (.cmp .Eq v2 (cS [86,65,76,85,69])) (sL [.bad,.bad]) (sL [.ifs (.cmp .Eq v2 (cS [85,83,65,71,69])) (sL [.expr (mE 2 v0 [cS [73,83]]),.asg 3 (mE 0 v0 [mE 1 (cS [32]) [.glb 0]]),.ifs (.cmp .Eq v3 (cS [])) (sL [.bad]) .nil,.asgA 15 v1 (.idx (.glb 0) v3)]) (sL [.bad])])])])])])]
def pW:cF:=⟨[("USAGE_WORDS",tX)],[("read_occurs",BW)],[("one_of",tv),("join",(iq vv)),("skip",vy)]⟩
def Cc:SM:=
  cg pW ru
def ra:aW:=bn 3 [] Cc
def Dv:TS:=sL [.for_ [1] (tU [cS [82,69,68,69,70,73,78,69,83],cS [79,67,67,85,82,83],cS [66,76,65,78,75],cS [86,65,76,85,69],cS [85,83,65,71,69],cS [83,73,71,78]]) (sL [.ifs (mE 0 v0 [v1]) (sL [.ret v1]) .nil]),.bad,.bad,.bad]
def AW:cF:=⟨[],[],[("skip",vy)]⟩
def Oz:SM:=
  cg AW Dv
def BP:aW:=bn 1 [] Oz
def sI:TS:=sL [.ifs (.cmp .NotEq (mE 0 v0 [cS [80,73,67,32,80,73,67,84,85,82,69]]) (cS [])) (sL [.ifs (.not (mE 3 v0 [cS [112,105,99,116,117,114,101]])) (sL [.bad]) .nil,.asgA 16 v1 (.atr 1 (mE 2 v0 [])),.ret (cS [80,73,67,84,85,82,69])]) .nil,.asg 2 (mE 0 v0 [mE 1 (cS [32]) [.glb 0]]),.ifs (.cmp .NotEq v2 (cS [])) (sL [.bad,.bad]) .nil,.asg 3 (mE 0 v0 [cS [76,69,65,68,73,78,71,32,84,82,65,73,76,73,78,71]]),.ifs (.cmp .NotEq v3 (cS [])) (sL [.bad,.bad]) .nil,.ret (cS [])]
def ry:cF:=⟨[("USAGE_WORDS",tX)],[],[("one_of",tv),("join",(iq vv)),("take",El),("is_kind",tY)]⟩
def Fh:SM:=
  cg ry sI
def su:aW:=bn 2 [] Fh
def AG:TS:=sL [.asg 2 (lS []),.whl (.not (mE 0 v0 [cS [46]])) (sL [.asg 3 (mE 2 v0 []),.asg 4 (kA 2 [v0,v1]),.ifs (.cmp .Eq v4 (cS [])) (sL [.asg 4 (kA 1 [v0]),.ifs (.cmp .Eq v4 (cS [])) (sL [.bad]) .nil,.expr (kA 0 [v0,v1,v4])]) .nil,.ifs (.cmp .In v4 v2) (sL [.bad]) .nil,.expr (mE 1 v2 [v4])])]
def yu:cF:=⟨[],[("read_named_clause",ra),("clause_word",BP),("read_bare_clause",su)],[("is_sign",qf),("append",(fT gv)),("peek",yV)]⟩
def MQ:SM:=
  cg yu AG
def zZ:aW:=bn 2 [] MQ
def yf:TS:=sL [.asgA 20 v0 v1,.asgA 18 v0 v2,.asgA 16 v0 (.cst (.none)),.asgA 15 v0 (cS []),.asgA 10 v0 (cS []),.asgA 35 v0 (.cst (.bool false)),.asgA 14 v0 (.cst (.none)),.asgA 17 v0 (cS []),.asgA 11 v0 (.cst (.none)),.asgA 13 v0 (.cst (.bool false)),.asgA 12 v0 (.cst (.bool false)),.asgA 23 v0 (lS []),.asgA 22 v0 (lS []),.asgA 34 v0 (.cst (.none)),.asgA 21 v0 (.cst (.none)),.asgA 33 v0 (cS []),.asgA 32 v0 (cI 0),.asgA 31 v0 (cI 0),.asgA 30 v0 (.cst (.none))]
noncomputable def wn:cF:=⟨[],[],[]⟩
def xz:SM:=
  cg wn yf
def Kk:aW:=bn 3 [] xz
def oW:aW:=uu cp Kk
def Nk:TS:=sL [.ifs (.not (.atr 38 v0)) (sL [.bad]) .nil,.ret (kA 0 [v1,.atr 4 (.idx (.atr 38 v0) (kA 1 [.atr 4 v0,.bin .Sub (kA 2 [.atr 38 v0]) (cI 1)]))])]
def Lo:cF:=⟨[],[("GrammarFault",Wl),("min",Ur),("len",eV)],[]⟩
def rM:SM:=
  (aV (sb (pc (jh (un (aA 38) (al 0))))
  (aV (fun _ _=>none)
  br)
  br)
  (aV (eK (bv Wl (aw (al 1) (aw (un (aA 4) (bi fV (un (aA 38) (al 0)) (bv Ur (aw (un (aA 4) (al 0)) (aw (bi (b4 .Sub) (bv eV (aw (un (aA 38) (al 0)) aI)) (ba (.int (1)))) aI))))) aI))))
  br))
def nv:aW:=bn 2 [] rM
def acY:gR:=(fm dr nv gP)
def Oo:gR:=(fm dr Sl gP)
def Gc:TS:=sL [.asg 1 (mE 5 v0 [cS [110,111,32,108,101,118,101,108]]),.asg 2 (mE 4 v0 []),.ifs (.and (.not (.cmp2 .LtE .LtE (cI 1) v2 (.glb 4))) (.cmp .NotIn v2 (tU [.glb 1,.glb 2,.glb 0]))) (sL [.bad]) .nil,.asg 3 (kA 4 [v2,.glb 3]),.ifs (mE 1 v0 []) (sL [.asgA 18 v3 (mE 2 v0 [])]) (sL [.ifs (.cmp .In v2 (tU [.glb 1,.glb 2,.glb 0])) (sL [.bad]) (sL [.expr (mE 3 v0 [.glb 3])])]),.ifs (.cmp .Eq v2 (.glb 0)) (sL [.asgA 23 v3 (lS [kA 0 [.atr 18 v3,kA 1 [v0]]])]) (sL [.ifs (.cmp .Eq v2 (.glb 1)) (sL [.asgA 21 v3 (kA 2 [v0])]) (sL [.expr (kA 3 [v0,v3])])]),.expr (mE 0 v0 [cS [46]]),.ret v3]
def DV:cF:=⟨[("NAMING",Kf),("RENAMING",BC),("ALONE",BA),("FILLER",Sr),("MOST_LEVEL",Fx)],[("Named",xq),("read_worths",BX),("read_renames",z6),("read_clauses",zZ),("Item",oW)],[("need_sign",yU),("is_name",tZ),("name",Ek),("skip",vy),("whole",Op),("fault",Oo)]⟩
def Ry:SM:=
  cg DV Gc
def lG:aW:=bn 1 [] Ry
def qH:aW:=um wJ lG
def AI:TS:=sL [.asg 1 (lS []),.whl (kA 1 [v0]) (sL [.expr (mE 0 v1 [kA 2 [v0]])]),.ret (kA 0 [v1])]
def yw:cF:=⟨[],[("nested",Sw),("is_level_here",qb),("read_entry",ww)],[("append",(fT gv))]⟩
def MT:SM:=
  cg yw AI
def xn:aW:=Jh (uj ajF 12) (bn 1 [] MT)
def nz:aW:=um nU xn
def uV:TS:=sL [.asg 3 (mE 3 v0 [cS [97,32,102,105,108,101,32,116,119,105,99,101,44,32,111,114,32,111,110,101,32,119,105,116,104,111,117,116,32,114,101,99,111,114,100,115]]),.asg 4 (mE 2 v0 []),.whl (.not (mE 1 v0 [cS [46]])) (sL [.bad,.bad]),.asg 5 (kA 0 [v0]),.ifs (.cmp .NotEq (.comp [6] v5 (.cmp .Eq (.atr 20 v6) (.glb 0)) v6) (lS [])) (sL [.bad]) .nil,.ifs (.or (.cmp .In v4 (.atr 26 v1)) (.cmp .Eq v5 (lS []))) (sL [.bad]) .nil,.asgI (.atr 26 v1) v4 v5,.ifs v2 (sL [.expr (mE 0 (.atr 27 v1) [v4])]) .nil]
def sQ:cF:=⟨[("ALONE",BA)],[("read_entries",nt)],[("append",(fT gv)),("skip_sign",sY),("name",Ek),("fault",Oo)]⟩
def GX:SM:=
  cg sQ uV
def t7:aW:=bn 3 [] GX
def ye:TS:=sL [.asgA 24 v0 (lS []),.asgA 25 v0 (lS []),.asgA 26 v0 .dic,.asgA 27 v0 (lS []),.asgA 31 v0 (cI 0),.asgA 5 v0 .dic]
noncomputable def wm:cF:=⟨[],[],[]⟩
def xy:SM:=
  cg wm ye
def Kj:aW:=bn 1 [] xy
def vz:aW:=uu Zy Kj
def JI:TS:=sL [.asg 1 (kA 3 []),.ifs (.not (kA 0 [v0,cS [68,65,84,65,32,68,73,86,73,83,73,79,78]])) (sL [.ret v1]) .nil,.ifs (kA 0 [v0,cS [70,73,76,69,32,83,69,67,84,73,79,78]]) (sL [.whl (.or (mE 0 v0 [cS [70,68]]) (mE 0 v0 [cS [83,68]])) (sL [.expr (kA 2 [v0,v1,.cmp .Eq (.atr 1 (mE 2 v0 [])) (cS [83,68])])])]) .nil,.ifs (kA 0 [v0,cS [87,79,82,75,73,78,71,45,83,84,79,82,65,71,69,32,83,69,67,84,73,79,78]]) (sL [.asgA 24 v1 (kA 1 [v0])]) .nil,.ifs (kA 0 [v0,cS [76,73,78,75,65,71,69,32,83,69,67,84,73,79,78]]) (sL [.asgA 25 v1 (kA 1 [v0])]) .nil,.ifs (.and (.not (mE 1 v0 [])) (.not (mE 0 v0 [cS [80,82,79,67,69,68,85,82,69,32,68,73,86,73,83,73,79,78]]))) (sL [.bad]) .nil,.ret v1]
def Gm:cF:=⟨[],[("skip_heading",Ab),("read_entries",nt),("read_file_entry",t7),("Data",vz)],[("is_word",GO),("is_done",qe),("take",El)]⟩
def UA:SM:=
  cg Gm JI
def FA:aW:=Jh (uj anE 12) (bn 1 [] UA)
def oZ:aW:=um nU FA
def mf(lab:List AV->List AV):aW:=fun args σ=>self args σ fun r as L=>KU as (oZ [.ref r] (σ.set r (.orc 1021 (lab L))))
def HL:TS:=sL [.asgA 38 v0 v1,.asgA 4 v0 v2,.asgA 37 v0 .dic,.asgA 36 v0 .dic]
noncomputable def Fo:cF:=⟨[],[],[]⟩
def kn:SM:=
  (aV (lU 38 (al 0) (al 1))
  (aV (lU 4 (al 0) (al 2))
  (aV (lU 37 (al 0) FP)
  (aV (lU 36 (al 0) FP)
  br))))
def ja:aW:=bn 3 [.int (0)] kn
def xr:aW:=anA (uu dr ja)
def wh:TS:=sL [.asgA 2 v0 v1,.asgA 1 v0 v2,.asgA 4 v0 v3,.asgA 28 v0 v4]
noncomputable def uZ:cF:=⟨[],[],[]⟩
def vE:SM:=
  cg uZ wh
def Iq:aW:=bn 5 [.tup [.int (0),.int (0)],.bool false] vE
def Oq:aW:=FT 8 (uu UX Iq)
def uU:TS:=sL [.ret (.and (.cmp .Gt (kA 0 [v0]) (cI 0)) (.and (.cmp .Eq (.atr 2 (.idx v0 (.neg (cI 1)))) (cS [119,111,114,100])) (.cmp .In (.atr 1 (.idx v0 (.neg (cI 1)))) (tU [cS [80,73,67],cS [80,73,67,84,85,82,69]]))))]
def sP:cF:=⟨[],[("len",eV)],[]⟩
def GW:SM:=
  cg sP uU
def t6:aW:=bn 1 [] GW
def F7:TS:=sL [.ret (.ife (.cmp2 .LtE .LtE (cS [97]) v0 (cS [122])) (kA 0 [.bin .Sub (kA 1 [v0]) (cI 32)]) v0)]
def DP:cF:=⟨[],[("chr",Zb),("ord",Zc)],[]⟩
def Rs:SM:=
  cg DP F7
def nd:aW:=bn 1 [] Rs
def Mn:TS:=sL [.ret (mE 0 (cS []) [.comp [1] v0 .nop (kA 0 [v1])])]
def JV:cF:=⟨[],[("capital_of",nd)],[("join",(iq vv))]⟩
def Wv:SM:=
  cg JV Mn
def vB:aW:=bn 1 [] Wv
def Dz:TS:=sL [.asg 2 v1,.whl (.and (.cmp .Lt v2 (kA 0 [v0])) (.cmp .NotIn (.idx v0 v2) (cS [32,61]))) (sL [.asg 2 (.bin .Add v2 (cI 1))]),.ret (.ife (.and (.cmp .Gt v2 v1) (.cmp .In (.idx v0 (.bin .Sub v2 (cI 1))) (.glb 0))) (.bin .Sub v2 (cI 1)) v2)]
def A0:cF:=⟨[("ENDS",abx)],[("len",eV)],[]⟩
def OD:SM:=
  cg A0 Dz
def BU:aW:=bn 2 [] OD
def uT:TS:=sL [.asg 2 (kA 1 [.atr 0 v0,v1]),.ifs (.cmp .Eq v2 v1) (sL [.bad]) .nil,.ret (tU [kA 0 [.slc (.atr 0 v0) v1 v2],v2])]
def sO:cF:=⟨[],[("capitals",vB),("picture_end",BU)],[]⟩
def GV:SM:=
  cg sO uT
def t5:aW:=bn 2 [] GV
def JH:TS:=sL [.ret (.or (.cmp .GtE v1 (kA 0 [v0])) (.cmp .Eq (.idx v0 v1) (cS [32])))]
def Gl:cF:=⟨[],[("len",eV)],[]⟩
def Uy:SM:=
  cg Gl JH
def s6:aW:=bn 2 [] Uy
def QU:TS:=sL [.asg 2 (.slc (.atr 0 v0) v1 (.bin .Add v1 (cI 2))),.ifs (.cmp .Eq v2 (cS [61,61])) (sL [.bad]) .nil,.ifs (.cmp .In v2 (mE 0 (.glb 1) [cS [32]])) (sL [.bad]) .nil,.asg 3 (.idx (.atr 0 v0) v1),.ifs (.or (.cmp .In v3 (.glb 0)) (.and (.cmp .Eq v3 (cS [46])) (kA 0 [.atr 0 v0,.bin .Add v1 (cI 1)]))) (sL [.ret (tU [cS [115,105,103,110],v3])]) .nil,.bad]
def MB:cF:=⟨[("SINGLE_SIGNS",zR),("DOUBLE_SIGNS",zP)],[("is_parted",s6)],[("split",(iq kG))]⟩
def Zk:SM:=
  cg MB QU
def Ot:aW:=bn 2 [] Zk
def uS:TS:=sL [.asg 3 (.idx (.atr 0 v0) v1),.asg 4 (mE 0 (.slc (.atr 0 v0) (.bin .Add v1 (cI 1)) (.bin .Sub v2 (cI 1))) [.bin .Add v3 v3,v3]),.ifs (.not (.cmp2 .LtE .LtE (cI 1) (kA 0 [v4]) (.glb 0))) (sL [.bad]) .nil,.ret v4]
def sN:cF:=⟨[("MOST_LITERAL",zQ)],[("len",eV)],[("replace",(iq tW))]⟩
def GU:SM:=
  cg sN uS
def t4:aW:=bn 3 [] GU
def AE:TS:=sL [.ret (.cmp .In (kA 0 [v0]) (.glb 0))]
def ys:cF:=⟨[("WORD_SIGNS",wx)],[("capital_of",nd)],[]⟩
def MO:SM:=
  cg ys AE
def zY:aW:=bn 1 [] MO
def Ga:TS:=sL [.asg 2 (.slc (.atr 0 v0) v1 (.bin .Add v1 (cI 2))),.ifs (.cmp .Eq v2 (cS [])) (sL [.bad]) .nil,.ifs (.or (.and (kA 0 [.idx v2 (cI 0)]) (.cmp .NotEq (.idx v2 (cI 0)) (cS [45]))) (.cmp .In (.idx v2 (cI 0)) (.glb 1))) (sL [.bad]) .nil,.ifs (.and (.cmp .Eq (.idx v2 (cI 0)) (cS [46])) (.and (.cmp .NotEq (.slc v2 (cI 1) .nop) (cS [])) (.cmp .In (.idx v2 (cI 1)) (.glb 0)))) (sL [.bad]) .nil]
def DT:cF:=⟨[("FIGURES_tokens",lf),("QUOTES",Kg)],[("is_word_sign",zY)],[]⟩
def Rw:SM:=
  cg DT Ga
def FF:aW:=bn 2 [] Rw
def Dy:TS:=sL [.asg 2 (.idx (.atr 0 v0) v1),.asg 3 (.bin .Add v1 (cI 1)),.whl (.cmp .Lt v3 (kA 0 [.atr 0 v0])) (sL [.ifs (.cmp .NotEq (.idx (.atr 0 v0) v3) v2) (sL [.asg 3 (.bin .Add v3 (cI 1))]) (sL [.ifs (.cmp .Eq (.slc (.atr 0 v0) (.bin .Add v3 (cI 1)) (.bin .Add v3 (cI 2))) v2) (sL [.bad]) (sL [.ret (.bin .Add v3 (cI 1))])])]),.bad]
def AZ:cF:=⟨[],[("len",eV)],[]⟩
def OC:SM:=
  cg AZ Dy
def BS:aW:=bn 2 [] OC
def AB:TS:=sL [.asg 3 (kA 1 [.slc (.atr 0 v0) v1 v2]),.ifs (.cmp .Eq (.comp [4] v3 (.cmp .In v4 (.glb 1)) v4) (lS [])) (sL [.bad]) .nil,.ifs (.cmp .Eq (.idx v3 (.neg (cI 1))) (cS [45])) (sL [.bad]) .nil,.ifs (.cmp .Gt (kA 0 [v3]) (.glb 0)) (sL [.bad]) .nil,.ret v3]
def yp:cF:=⟨[("MOST_WORD",Im),("LETTERS",GC)],[("len",eV),("capitals",vB)],[]⟩
def ML:SM:=
  cg yp AB
def zV:aW:=bn 3 [] ML
def wi:TS:=sL [.asg 3 (.slc (.atr 0 v0) v1 v2),.ifs (.cmp .Gt (kA 0 [.rep 46 v3]) (.glb 0)) (sL [.bad]) .nil,.ret v3]
def u2:cF:=⟨[("MOST_FIGURES",rG)],[("len",eV)],[]⟩
def Ix:SM:=
  cg u2 wi
def vC:aW:=bn 3 [] Ix
def QW:TS:=sL [.whl (.and (.cmp .Lt v1 (kA 1 [v0])) (.cmp .In (kA 0 [.idx v0 v1]) v2)) (sL [.asg 1 (.bin .Add v1 (cI 1))]),.ret v1]
def MD:cF:=⟨[],[("capital_of",nd),("len",eV)],[]⟩
def Zm:SM:=
  cg MD QW
def GS:aW:=bn 3 [] Zm
def Gb:TS:=sL [.asg 2 (kA 0 [v0,v1,.glb 0]),.ifs (.and (.cmp .Eq (.slc v0 v2 (.bin .Add v2 (cI 1))) (cS [46])) (.and (.cmp .NotEq (.slc v0 (.bin .Add v2 (cI 1)) (.bin .Add v2 (cI 2))) (cS [])) (.cmp .In (.idx v0 (.bin .Add v2 (cI 1))) (.glb 0)))) (sL [.asg 2 (kA 0 [v0,.bin .Add v2 (cI 1),.glb 0])]) .nil,.ret v2]
def DU:cF:=⟨[("FIGURES_tokens",lf)],[("run_end",GS)],[]⟩
def Rx:SM:=
  cg DU Gb
def FG:aW:=bn 2 [] Rx
def Mu:TS:=sL [.asg 2 (kA 9 [.idx (.atr 0 v0) v1]),.ifs (.or (.cmp .In v2 (.glb 2)) (.cmp .In v2 (.glb 1))) (sL [.asg 3 (kA 8 [.atr 0 v0,v1,.glb 3]),.asg 4 (kA 7 [.atr 0 v0,v1]),.ifs (.and (.cmp .In v2 (.glb 1)) (.cmp .GtE v4 v3)) (sL [.expr (kA 3 [v0,v4]),.ret (tU [cS [110,117,109,98,101,114],kA 6 [v0,v1,v4],v4])]) .nil,.expr (kA 3 [v0,v3]),.ret (tU [cS [119,111,114,100],kA 5 [v0,v1,v3],v3])]) .nil,.ifs (.and (.cmp .Eq v2 (cS [46])) (.and (.cmp .NotEq (.slc (.atr 0 v0) (.bin .Add v1 (cI 1)) (.bin .Add v1 (cI 2))) (cS [])) (.cmp .In (.idx (.atr 0 v0) (.bin .Add v1 (cI 1))) (.glb 1)))) (sL [.bad,.bad,.bad]) .nil,.ifs (.cmp .In v2 (.glb 0)) (sL [.asg 3 (kA 4 [v0,v1]),.expr (kA 3 [v0,v3]),.ret (tU [cS [108,105,116,101,114,97,108],kA 2 [v0,v1,v3],v3])]) .nil,.asgT [5,6] (kA 1 [v0,v1]),.ret (tU [v5,v6,.bin .Add v1 (kA 0 [v6])])]
def J3:cF:=⟨[("QUOTES",Kg),("FIGURES_tokens",lf),("LETTERS",GC),("WORD_SIGNS",wx)],[("len",eV),("mark_at",Ot),("checked_literal",t4),("need_apart",FF),("literal_end",BS),("checked_word",zV),("checked_number",vC),("number_end",FG),("run_end",GS),("capital_of",nd)],[]⟩
def WC:SM:=
  cg J3 Mu
def LQ:aW:=bn 2 [] WC
def F8:TS:=sL [.ret (.and (.cmp .Eq (kA 1 [.slc v0 v1 (.bin .Add v1 (cI 2))]) (cS [73,83])) (kA 0 [v0,.bin .Add v1 (cI 2)]))]
def DQ:cF:=⟨[],[("is_parted",s6),("capitals",vB)],[]⟩
def Ru:SM:=
  cg DQ F8
def FC:aW:=bn 2 [] Ru
def Dw:TS:=sL [.ret (.or (.cmp .Eq (.idx v0 v1) (cS [32])) (.and (.cmp .In (.idx v0 v1) (cS [44,59])) (kA 0 [v0,.bin .Add v1 (cI 1)])))]
def AX:cF:=⟨[],[("is_parted",s6)],[]⟩
def OA:SM:=
  cg AX Dw
def BQ:aW:=bn 2 [] OA
def F6:TS:=sL [.asg 2 (cI 0),.asg 3 (.cst (.bool false)),.whl (.cmp .Lt v2 (kA 0 [.atr 0 v1])) (sL [.ifs (kA 6 [.atr 0 v1,v2]) (sL [.asg 2 (.bin .Add v2 (cI 1)),.cont]) .nil,.asg 4 (.idx (.atr 3 v1) v2),.ifs (.and (kA 2 [v0]) (.and (.not v3) (kA 5 [.atr 0 v1,v2]))) (sL [.bad,.bad,.bad]) .nil,.ifs (kA 2 [v0]) (sL [.asg 5 (cS [112,105,99,116,117,114,101]),.asgT [6,7] (kA 3 [v1,v2])]) (sL [.asgT [5,6,7] (kA 4 [v1,v2])]),.expr (mE 0 v0 [kA 1 [v5,v6,v4,.cmp2 .LtE .LtE (cI 8) (.idx v4 (cI 1)) (cI 11)]]),.asg 3 (.cst (.bool false)),.asg 2 v7])]
def DN:cF:=⟨[],[("len",eV),("Token",Oq),("is_picture_next",t6),("checked_picture",t5),("worth_at",LQ),("is_word_is",FC),("is_blank_at",BQ)],[("append",(fT gv))]⟩
def Rr:SM:=
  cg DN F6
def FB:aW:=bn 2 [] Rr
def JL:TS:=sL [.asg 1 (lS []),.for_ [2] v0 (sL [.expr (kA 0 [v1,v2])]),.ret v1]
def Go:cF:=⟨[],[("add_tokens",FB)],[]⟩
def UC:SM:=
  cg Go JL
def Iu:aW:=FT 12 (bn 1 [] UC)
def yg:TS:=sL [.asgA 0 v0 v1,.asgA 3 v0 v2]
noncomputable def wo:cF:=⟨[],[],[]⟩
def xA:SM:=
  cg wo yg
def Kl:aW:=bn 3 [] xA
def abA:aW:=FT 8 (uu cLine Kl)
def DG:TS:=sL [.asg 2 (.ife v1 (.glb 0) (.glb 1)),.asg 3 (kA 3 [lS [kA 4 [v0,.comp [5] (kA 0 [kA 1 [v0]]) .nop (tU [cI 1,.bin .Add v2 v5])]]]),.ret (.comp [4] (kA 0 [kA 1 [v3]]) .nop (kA 2 [.atr 2 (.idx v3 v4),.atr 1 (.idx v3 v4),.atr 4 (.idx v3 v4),.and v1 (.cmp .Eq v4 (cI 0))]))]
def A6:cF:=⟨[("AREA_A",Sp),("AREA_B",Sq)],[("range",lE),("len",eV),("Token",Oq),("tokens_of",Iu),("Line",abA)],[]⟩
def OJ:SM:=
  cg A6 DG
def rJ:aW:=bn 2 [.bool false] OJ
def cL:aW:=vR aaM rJ
def TP:TS:=sL [.ret (mE 0 (cS [32]) [.comp [1] v0 (.cmp .NotEq v1 (cS [])) v1])]
def Q6:cF:=⟨[],[],[("join",(iq vv))]⟩
def ac0:SM:=
  cg Q6 TP
def Em:aW:=bn 1 [] ac0
def TR:TS:=sL [.ret (.bin .Add (.bin .Add (cS [34]) (mE 0 v0 [cS [34],cS [34,34]])) (cS [34]))]
def Q8:cF:=⟨[],[],[("replace",(iq tW))]⟩
def ac2:SM:=
  cg Q8 TR
def Sx:aW:=bn 1 [] ac2
def AO:TS:=sL [.ret (kA 0 [mE 0 (cS []) [.comp [1] v0 .nop (kA 1 [v1])]])]
def yC:cF:=⟨[],[("quoted",Sx),("chr",Zb)],[("join",(iq vv))]⟩
def MZ:SM:=
  cg yC AO
def Aa:aW:=bn 1 [] MZ
def yj:TS:=sL [.asg 1 (kA 1 [kA 2 [.idx v0 (cI 0)]]),.ifs (.cmp .Gt (.idx v0 (cI 1)) (cI 0)) (sL [.asg 1 (.bin .Add (.bin .Mult (cS [48]) (.bin .Sub (.bin .Add (.idx v0 (cI 1)) (cI 1)) (kA 0 [v1]))) v1),.asg 1 (.bin .Add (.bin .Add (.slc v1 .nop (.bin .Sub (kA 0 [v1]) (.idx v0 (cI 1)))) (cS [46])) (.slc v1 (.bin .Sub (kA 0 [v1]) (.idx v0 (cI 1))) .nop))]) .nil,.ret (.ife (.cmp .Lt (.idx v0 (cI 0)) (cI 0)) (.bin .Add (cS [45]) v1) v1)]
def wu:cF:=⟨[],[("len",eV),("str",Us),("abs",Za)],[]⟩
def Kr:SM:=
  cg wu yj
def xx:aW:=bn 1 [] Kr
def AN:TS:=sL [.asg 1 (kA 1 [v0]),.ret (.ife (.and (.cmp .Eq (.idx v0 (cI 1)) (.glb 0)) (.cmp .Lt (kA 0 [.idx v0 (cI 0)]) (.bin .Pow (cI 10) (.idx v0 (cI 1))))) (mE 0 v1 [cS [48,46],cS [46],cI 1]) v1)]
def yB:cF:=⟨[("MOST_FIGURES",rG)],[("abs",Za),("write_decimal",xx)],[("replace",(iq tW))]⟩
def MY:SM:=
  cg yB AN
def z8:aW:=bn 1 [] MY
def AM:TS:=sL [.ifs (.cmp .Eq (.idx v0 (cI 0)) (cS [114,101,102])) (sL [.bad]) .nil,.ifs (.cmp .Eq (.idx v0 (cI 0)) (cS [110,117,109,98,101,114])) (sL [.ret (kA 1 [.idx v0 (cI 1)])]) .nil,.ifs (.cmp .Eq (.idx v0 (cI 0)) (cS [102,105,103,117,114,101])) (sL [.bad]) .nil,.ret (.bin .Add (.ife (.cmp .Eq (.idx v0 (cI 0)) (cS [97,108,108])) (cS [65,76,76,32]) (cS [])) (kA 0 [.idx v0 (cI 1)]))]
def yA:cF:=⟨[],[("shown_octets",Aa),("shown_number",z8)],[]⟩
def MX:SM:=
  cg yA AM
def z7:aW:=bn 2 [] MX
def AF:TS:=sL [.ret (kA 0 [v0,.glb 0])]
def yt:cF:=⟨[("show_expression",.opq)],[("show_operand",z7)],[]⟩
def MP:SM:=
  cg yt AF
def rK:aW:=bn 1 [] MP
def DF:TS:=sL [.asg 1 (lS []),.for_ [2,3] (.atr 19 v0) (sL [.expr (mE 0 v1 [.bin .Add (kA 1 [v2]) (.ife (.cmp .Is v3 (.cst (.none))) (cS []) (.bin .Add (cS [32,84,72,82,85,32]) (kA 1 [v3])))])]),.ret (.bin .Add (.bin .Add (.bin .Add (.bin .Add (cS [56,56,32]) (.atr 18 v0)) (cS [32,86,65,76,85,69,32])) (kA 0 [v1])) (cS [32,46]))]
def A5:cF:=⟨[],[("joined",Em),("operand_text",rK)],[("append",(fT gv))]⟩
def OI:SM:=
  cg A5 DF
def zT:aW:=bn 1 [] OI
def lI:aW:=vR nU zT
def TT:TS:=sL [.ret (.ife (.cmp .Eq v1 (cS [])) (cS []) (.bin .Add (.bin .Add v0 (cS [32])) v1))]
noncomputable def Q9:cF:=⟨[],[],[]⟩
def ac3:SM:=
  cg Q9 TT
def Kn:aW:=bn 2 [] ac3
def Mr:TS:=sL [.asg 2 (mE 0 (cS [32,79,70,32]) [.bin .Add (lS [.idx v0 (cI 1)]) (kA 0 [.idx v0 (cI 2)])]),.ifs (.cmp .NotEq (.idx v0 (cI 3)) (tU [])) (sL [.bad]) .nil,.ifs (.cmp .IsNot (.idx v0 (cI 4)) (.cst (.none))) (sL [.bad,.bad]) .nil,.ret v2]
def J0:cF:=⟨[],[("list",abv)],[("join",(iq vv))]⟩
def Wz:SM:=
  cg J0 Mr
def LN:aW:=bn 2 [] Wz
def Mq:TS:=sL [.ret (kA 0 [v0,.glb 0])]
def JZ:cF:=⟨[("show_expression",.opq)],[("show_ref",LN)],[]⟩
def Wy:SM:=
  cg JZ Mq
def LK:aW:=bn 1 [] Wy
def DE:TS:=sL [.ifs (.cmp .Is (.atr 7 v0) (.cst (.none))) (sL [.asg 1 (.bin .Add (.bin .Add (cS [79,67,67,85,82,83,32]) (kA 2 [.atr 8 v0])) (cS [32,84,73,77,69,83]))]) (sL [.asg 1 (.bin .Add (.bin .Add (.bin .Add (.bin .Add (.bin .Add (cS [79,67,67,85,82,83,32]) (kA 2 [.atr 8 v0])) (cS [32,84,79,32])) (kA 2 [.atr 9 v0])) (cS [32,84,73,77,69,83,32,68,69,80,69,78,68,73,78,71,32,79,78,32])) (kA 3 [.atr 7 v0]))]),.asg 2 (.comp [3,4] (.atr 6 v0) .nop (.bin .Add (.ife v3 (cS [65,83,67,69,78,68,73,78,71,32,75,69,89,32,73,83,32]) (cS [68,69,83,67,69,78,68,73,78,71,32,75,69,89,32,73,83,32])) v4)),.ret (kA 0 [.bin .Add (.bin .Add (lS [v1]) v2) (lS [kA 1 [cS [73,78,68,69,88,69,68,32,66,89],kA 0 [.atr 5 v0]]])])]
def A4:cF:=⟨[],[("joined",Em),("worded",Kn),("str",Us),("ref_text",LK)],[]⟩
def OH:SM:=
  cg A4 DE
def BZ:aW:=bn 1 [] OH
def JK:TS:=sL [.ifs (.cmp .Eq (.atr 10 v0) (cS [])) (sL [.ret (cS [])]) .nil,.bad]
noncomputable def Gn:cF:=⟨[],[],[]⟩
def UB:SM:=
  cg Gn JK
def Ir:aW:=bn 1 [] UB
def AC:TS:=sL [.ret (lS [kA 3 [cS [82,69,68,69,70,73,78,69,83],.atr 17 v0],.ife (.cmp .Is (.atr 16 v0) (.cst (.none))) (cS []) (.bin .Add (cS [80,73,67,32]) (.atr 16 v0)),.ife (.cmp .Eq (.atr 15 v0) (cS [])) (cS []) (.bin .Add (cS [85,83,65,71,69,32,73,83,32]) (.idx (.glb 0) (.atr 15 v0))),kA 2 [v0],.ife (.cmp .Is (.atr 14 v0) (.cst (.none))) (cS []) (kA 1 [.atr 14 v0]),.ife (.atr 13 v0) (cS [74,85,83,84,73,70,73,69,68,32,82,73,71,72,84]) (cS []),.ife (.atr 12 v0) (cS [66,76,65,78,75,32,87,72,69,78,32,90,69,82,79]) (cS []),.ife (.cmp .Is (.atr 11 v0) (.cst (.none))) (cS []) (.bin .Add (cS [86,65,76,85,69,32,73,83,32]) (kA 0 [.atr 11 v0]))])]
def yq:cF:=⟨[("USAGE_NAMES",BD)],[("operand_text",rK),("show_occurs",BZ),("show_sign",Ir),("worded",Kn)],[]⟩
def MM:SM:=
  cg yq AC
def zW:aW:=bn 1 [] MM
def F9:TS:=sL [.ret (.slc (.bin .Add (cS [48]) (kA 0 [v0])) (.neg (cI 2)) .nop)]
def DR:cF:=⟨[],[("str",Us)],[]⟩
def Rv:SM:=
  cg DR F9
def FE:aW:=bn 1 [] Rv
def Ge:TS:=sL [.asg 1 (.bin .Add (.bin .Add (kA 2 [.atr 20 v0]) (cS [32])) (.atr 18 v0)),.ifs (.cmp .Eq (.atr 20 v0) (.glb 0)) (sL [.asgT [2,3] (.atr 21 v0),.ret (.bin .Add (.bin .Add (.bin .Add (.bin .Add v1 (cS [32,82,69,78,65,77,69,83,32])) v2) (.ife (.cmp .Is v3 (.cst (.none))) (cS []) (.bin .Add (cS [32,84,72,82,85,32]) v3))) (cS [32,46]))]) .nil,.ret (kA 0 [.bin .Add (.bin .Add (lS [v1]) (kA 1 [v0])) (lS [cS [46]])])]
def DW:cF:=⟨[("RENAMES_LEVEL",xi)],[("joined",Em),("clause_texts",zW),("level_text",FE)],[]⟩
def RA:SM:=
  cg DW Ge
def BF:aW:=bn 1 [] RA
def ng:aW:=vR nU BF
def Nm:TS:=sL [.asg 1 (kA 1 [kA 3 [v0],.cmp .In (.atr 20 v0) (.glb 0)]),.for_ [2] (.atr 23 v0) (sL [.expr (mE 0 v1 [kA 1 [kA 2 [v2]]])]),.for_ [3] (.atr 22 v0) (sL [.expr (mE 0 v1 [kA 0 [v3]])]),.ret v1]
def Lq(self:aW):cF:=⟨[("TOP_LEVELS",iW)],[("entry_tokens",self),("text_tokens",cL),("show_worths",lI),("show_entry",ng)],[("extend",(fT f8))]⟩
def nA(self:aW):SM:=
  (aV (cT [1] (bv cL (aw (bv ng (aw (al 0) aI)) (aw (rT (fw (b7 .In) (un (aA 20) (al 0)) (ba iW))) aI))))
  (aV (gE [2] (un (aA 23) (al 0))
  (aV (k9 (cH (fT f8) (al 1) (aw (bv cL (aw (bv lI (aw (al 2) aI)) aI)) aI)))
  br))
  (aV (gE [3] (un (aA 22) (al 0))
  (aV (k9 (cH (fT f8) (al 1) (aw (bv self (aw (al 3) aI)) aI)))
  br))
  (aV (eK (al 1))
  br))))
def xm(self:aW):aW:=FT 12 (bn 1 [] (nA self))
def cu:Nat->aW
 |0=>Uq
 |n+1=>vR nU (xm (cu n))
def Nn:TS:=sL [.asg 1 (lS []),.for_ [2] v0 (sL [.expr (mE 0 v1 [kA 0 [v2]])]),.ret v1]
def Lr:cF:=⟨[],[("entry_tokens",(cu 6))],[("extend",(fT f8))]⟩
def rO:SM:=
  (aV (cT [1] (bv de aI))
  (aV (gE [2] (al 0)
  (aV (k9 (cH (fT f8) (al 1) (aw (bv (cu 6) (aw (al 2) aI)) aI)))
  br))
  (aV (eK (al 1))
  br)))
def xo:aW:=FT 12 (bn 1 [] rO)
def iG:aW:=vR nU xo
def JJ:TS:=sL [.ifs (.cmp .Eq v1 (lS [])) (sL [.ret (lS [])]) .nil,.ret (.bin .Add (kA 0 [.bin .Add v0 (cS [32,83,69,67,84,73,79,78,46]),.cst (.bool true)]) (kA 1 [v1]))]
def HV:cF:=⟨[],[("text_tokens",cL),("roots_tokens",iG)],[]⟩
def eR:SM:=
  (aV (sb (fw (b7 .Eq) (al 1) (bv de aI))
  (aV (eK (bv de aI))
  br)
  br)
  (aV (eK (bi (b4 .Add) (bv cL (aw (bi (b4 .Add) (al 0) (ba (.str [32,83,69,67,84,73,79,78,46]))) (aw (ba (.bool true)) aI))) (bv iG (aw (al 1) aI))))
  br))
def nQ:aW:=FT 12 (bn 2 [] eR)
def eP:aW:=vR nU nQ
def QS:TS:=sL [.asg 1 (lS []),.for_ [2] (.atr 26 v0) (sL [.asg 3 (.ife (.cmp .In v2 (.atr 27 v0)) (cS [83,68,32]) (cS [70,68,32])),.expr (mE 0 v1 [.bin .Add (kA 0 [.bin .Add (.bin .Add v3 v2) (cS [46]),.cst (.bool true)]) (kA 2 [.idx (.atr 26 v0) v2])])]),.ifs (.cmp .NotEq v1 (lS [])) (sL [.asg 1 (.bin .Add (kA 0 [cS [70,73,76,69,32,83,69,67,84,73,79,78,46],.cst (.bool true)]) v1)]) .nil,.asg 1 (.bin .Add (.bin .Add v1 (kA 1 [cS [87,79,82,75,73,78,71,45,83,84,79,82,65,71,69],.atr 24 v0])) (kA 1 [cS [76,73,78,75,65,71,69],.atr 25 v0])),.ret (.ife (.cmp .NotEq v1 (lS [])) (.bin .Add (kA 0 [cS [68,65,84,65,32,68,73,86,73,83,73,79,78,46],.cst (.bool true)]) v1) (lS []))]
def Nv:cF:=⟨[],[("text_tokens",cL),("section_tokens",eP),("roots_tokens",iG)],[("extend",(fT f8))]⟩
def o7:SM:=
  (aV (cT [1] (bv de aI))
  (aV (gE [2] (un (aA 26) (al 0))
  (aV (cT [3] (td (fw (b7 .In) (al 2) (un (aA 27) (al 0))) (ba (.str [83,68,32])) (ba (.str [70,68,32]))))
  (aV (k9 (cH (fT f8) (al 1) (aw (bi (b4 .Add) (bv cL (aw (bi (b4 .Add) (bi (b4 .Add) (al 3) (al 2)) (ba (.str [46]))) (aw (ba (.bool true)) aI))) (bv iG (aw (bi fV (un (aA 26) (al 0)) (al 2)) aI))) aI)))
  br)))
  (aV (sb (fw (b7 .NotEq) (al 1) (bv de aI))
  (aV (cT [1] (bi (b4 .Add) (bv cL (aw (ba (.str [70,73,76,69,32,83,69,67,84,73,79,78,46])) (aw (ba (.bool true)) aI))) (al 1)))
  br)
  br)
  (aV (cT [1] (bi (b4 .Add) (bi (b4 .Add) (al 1) (bv eP (aw (ba (.str [87,79,82,75,73,78,71,45,83,84,79,82,65,71,69])) (aw (un (aA 24) (al 0)) aI)))) (bv eP (aw (ba (.str [76,73,78,75,65,71,69])) (aw (un (aA 25) (al 0)) aI)))))
  (aV (eK (td (fw (b7 .NotEq) (al 1) (bv de aI)) (bi (b4 .Add) (bv cL (aw (ba (.str [68,65,84,65,32,68,73,86,73,83,73,79,78,46])) (aw (ba (.bool true)) aI))) (al 1)) (bv de aI)))
  br)))))
def rI:aW:=FT 12 (bn 1 [] o7)
def ik:aW:=Z0 14 (vR nU rI)
def Lj:TS:=sL [.asg 1 (kA 7 [v0]),.asg 2 (kA 6 [v1]),.ifs (.or (.cmp .NotEq (mE 0 (kA 5 [v2]) []) (mE 0 v0 [])) (.not (mE 1 v2 []))) (sL [.bad]) .nil,.asg 3 (.bin .Add (.bin .Add (.comp2 15 (.atr 26 v0) 16 (.idx (.atr 26 v0) v15) v16) (.atr 24 v0)) (.atr 25 v0)),.frz 3,.ifs (.cmp .Eq v3 (lS [])) (sL [.ret (.cmp .Eq v1 (lS []))]) .nil,.asg 4 (.bin .Add (.bin .Add (.bin .Add (lS [cS [68,65,84,65]]) (.ife (.cmp .NotEq (.atr 26 v0) .dic) (lS [cS [70,73,76,69]]) (lS []))) (.ife (.cmp .NotEq (.atr 24 v0) (lS [])) (lS [cS [87,79,82,75,73,78,71,45,83,84,79,82,65,71,69]]) (lS []))) (.ife (.cmp .NotEq (.atr 25 v0) (lS [])) (lS [cS [76,73,78,75,65,71,69]]) (lS []))),.asg 5 (.comp [14] v1 (.atr 28 v14) (.atr 1 v14)),.ifs (.cmp .NotEq (kA 4 [v5]) (kA 4 [.bin .Add (.bin .Add v4 (.comp [12] (.atr 26 v0) .nop (.ife (.cmp .In v12 (.atr 27 v0)) (cS [83,68]) (cS [70,68])))) (.comp [13] v3 .nop (.idx (.dicI 1 77 [48,49] [55,55]) (.atr 20 v13)))])) (sL [.bad]) .nil,.asg 6 (.comp [11] (kA 2 [kA 3 [v1]]) (.or (.cmp .Eq v11 (cI 0)) (.cmp .Eq (mE 0 (.idx v1 (.bin .Sub v11 (cI 1))) []) (tU [cS [115,105,103,110],cS [46]]))) (.idx v1 v11)),.asg 7 (.comp [10] v6 (.cmp .Eq (.atr 2 v10) (cS [110,117,109,98,101,114])) (kA 1 [.atr 1 v10])),.ret (.cmp .Eq v7 (.comp2 8 v3 9 (kA 0 [v8]) v9))]
def JU(lab:List AV->List AV):cF:=⟨[],[("_law_walked",(bA 6)),("int",tV),("range",lE),("len",eV),("sorted",qc),("read_data",(mf lab)),("Reader",xr),("data_tokens",ik)],[("told",qD),("is_done",qe)]⟩
def gy(lab:List AV->List AV):SM:=
  (aV (cT [1] (bv ik (aw (al 0) aI)))
  (aV (cT [2] (bv xr (aw (al 1) aI)))
  (aV (sb (RL (fw (b7 .NotEq) (cH qD (bv (mf lab) (aw (al 2) aI)) aI) (cH qD (al 0) aI)) (pc (jh (cH qe (al 2) aI))))
  (aV (fun _ _=>none)
  br)
  br)
  (aV (cT [3] (bi (b4 .Add) (bi (b4 .Add) (qL 15 (un (aA 26) (al 0)) 16 (bi fV (un (aA 26) (al 0)) (al 15)) (al 16)) (un (aA 24) (al 0))) (un (aA 25) (al 0))))
  (aV (Qy 3)
  (aV (sb (fw (b7 .Eq) (al 3) (bv de aI))
  (aV (eK (rT (fw (b7 .Eq) (al 1) (bv de aI))))
  br)
  br)
  (aV (cT [4] (bi (b4 .Add) (bi (b4 .Add) (bi (b4 .Add) (bv de (aw (ba (.str [68,65,84,65])) aI)) (td (fw (b7 .NotEq) (un (aA 26) (al 0)) FP) (bv de (aw (ba (.str [70,73,76,69])) aI)) (bv de aI))) (td (fw (b7 .NotEq) (un (aA 24) (al 0)) (bv de aI)) (bv de (aw (ba (.str [87,79,82,75,73,78,71,45,83,84,79,82,65,71,69])) aI)) (bv de aI))) (td (fw (b7 .NotEq) (un (aA 25) (al 0)) (bv de aI)) (bv de (aw (ba (.str [76,73,78,75,65,71,69])) aI)) (bv de aI))))
  (aV (cT [5] (eO [14] (al 1) (jh (un (aA 28) (al 14))) (un (aA 1) (al 14))))
  (aV (sb (fw (b7 .NotEq) (bv qc (aw (al 5) aI)) (bv qc (aw (bi (b4 .Add) (bi (b4 .Add) (al 4) (eO [12] (un (aA 26) (al 0)) (fun _ σ=>some (true,σ)) (td (fw (b7 .In) (al 12) (un (aA 27) (al 0))) (ba (.str [83,68])) (ba (.str [70,68]))))) (eO [13] (al 3) (fun _ σ=>some (true,σ)) (bi fV (bv (Hs [1,77]) (aw (ba (.str [48,49])) (aw (ba (.str [55,55])) aI))) (un (aA 20) (al 13))))) aI)))
  (aV (fun _ _=>none)
  br)
  br)
  (aV (cT [6] (eO [11] (bv lE (aw (bv eV (aw (al 1) aI)) aI)) (RL (fw (b7 .Eq) (al 11) (ba (.int (0)))) (fw (b7 .Eq) (cH qD (bi fV (al 1) (bi (b4 .Sub) (al 11) (ba (.int (1))))) aI) (bv gm (aw (ba (.str [115,105,103,110])) (aw (ba (.str [46])) aI))))) (bi fV (al 1) (al 11))))
  (aV (cT [7] (eO [10] (al 6) (fw (b7 .Eq) (un (aA 2) (al 10)) (ba (.str [110,117,109,98,101,114]))) (bv tV (aw (un (aA 1) (al 10)) aI))))
  (aV (eK (rT (fw (b7 .Eq) (al 7) (qL 8 (al 3) 9 (bv (bA 6) (aw (al 8) aI)) (al 9)))))
  br))))))))))))
def eL(lab:List AV->List AV):aW:=Z0 14 (bn 1 [] (gy lab))
def VW:TS:=sL [.asg 2 (.bin .Mod (.idx v0 (cI 0)) v1),.asgI v0 (cI 0) (.bin .FloorDiv (.idx v0 (cI 0)) v1),.ret v2]
noncomputable def Sd:cF:=⟨[],[],[]⟩
def y5:SM:=
  (aV (cT [2] (bi (b4 .Mod) (bi fV (al 0) (ba (.int (0)))) (al 1)))
  (aV (Qx (al 0) (ba (.int (0))) (bi (b4 .FloorDiv) (bi fV (al 0) (ba (.int (0)))) (al 1)))
  (aV (eK (al 2))
  br)))
def yY:aW:=bn 2 [] y5
def JE:TS:=sL [.asg 3 (kA 3 [v1,v2]),.asg 4 (kA 0 [v0,cI 5]),.ifs (.cmp .Eq v4 (cI 1)) (sL [.asgA 15 v3 (cS [112,97,99,107,101,100])]) (sL [.ifs (.cmp .Eq v4 (cI 2)) (sL [.asgA 14 v3 (kA 2 [cI 3,cI 3,.cst (.none),lS [tU [.cst (.bool false),cS [75]]],lS [cS [73,88]]])]) (sL [.ifs (.cmp .Eq v4 (cI 3)) (sL [.asgA 14 v3 (kA 2 [cI 0,cI 4,tU [cS [114,101,102],cS [78],tU [cS [71]],tU [],.cst (.none)]])]) .nil])]),.ifs (.cmp .Eq (kA 0 [v0,cI 4]) (cI 0)) (sL [.expr (mE 0 (.atr 23 v3) [kA 1 [.bin .Add (cS [73,83,45]) v2,lS [tU [tU [cS [110,117,109,98,101,114],tU [.neg (cI 5),cI 0]],tU [cS [110,117,109,98,101,114],tU [cI 125,cI 2]]],tU [tU [cS [116,101,120,116],.cst (.bytes [113])],.cst (.none)]]]])]) .nil,.ret v3]
def Gi:cF:=⟨[],[("_law_take",Bv),("Named",xq),("Occurs",Km),("Item",oW)],[("append",(fT gv))]⟩
def Uv:SM:=
  cg Gi JE
def qF:aW:=Jh (PF anC 12) (bn 3 [] Uv)
def yW:aW:=um wJ qF
def JF:TS:=sL [.asg 3 (kA 1 [v0,v1,v2]),.asgA 16 v3 (.idx (lS [cS [88,40,52,41],cS [83,57,40,51,41,86,57,57],cS [90,90,57,46,57,57]]) (kA 0 [v0,cI 3])),.ret v3]
def Gj:cF:=⟨[],[("_law_take",Bv),("_law_item",qF)],[]⟩
def Uw:SM:=
  cg Gj JF
def wB:aW:=Jh (PF anC 12) (bn 3 [] Uw)
def yX:aW:=um wJ wB
def JG:TS:=sL [.ifs (.cmp .Eq (kA 0 [v0,cI 4]) (cI 0)) (sL [.ret (kA 3 [v0,cI 77,v1])]) .nil,.asg 2 (kA 4 [v0,cI 1,v1]),.for_ [3] (kA 2 [kA 0 [v0,cI 3]]) (sL [.ifs (.cmp .Gt (kA 0 [v0,cI 3]) (cI 0)) (sL [.expr (mE 0 v2 [kA 3 [v0,cI 5,.idx (lS [cS [70,73,76,76,69,82],.bin .Add v1 (cS [45,66])]) (kA 0 [v0,cI 2])]]),.cont]) .nil,.asg 4 (kA 4 [v0,cI 5,.bin .Add v1 (cS [45,71])]),.for_ [5] (kA 2 [.bin .Add (cI 1) (kA 0 [v0,cI 2])]) (sL [.expr (mE 0 v4 [kA 3 [v0,cI 10,cS [76,79,87]]])]),.expr (mE 0 v2 [v4])]),.ifs (.cmp .Eq (kA 0 [v0,cI 4]) (cI 0)) (sL [.asg 6 (kA 1 [cI 66,.bin .Add v1 (cS [45,82])]),.asgA 21 v6 (tU [cS [76,79,87],.idx (lS [.cst (.none),cS [72,73,71,72,45,79,78,69]]) (kA 0 [v0,cI 2])]),.expr (mE 0 v2 [v6])]) .nil,.ret v2]
def Gk:cF:=⟨[],[("_law_take",Bv),("Item",oW),("range",lE),("_law_leaf",Bx),("_law_item",Bw)],[("add",yR)]⟩
def Ux:SM:=
  cg Gk JG
def Fz:aW:=Jh (PF ajF 12) (bn 2 [] Ux)
def s5:aW:=um wJ Fz
def JD:TS:=sL [.asg 1 (kA 2 []),.for_ [2] (.idx (lS [lS [cS [70,49]],lS [],lS [cS [79,76,68]]]) (kA 1 [v0,cI 3])) (sL [.asgI (.atr 26 v1) v2 (lS [kA 0 [v0,.bin .Add v2 (cS [45,82,69,67])]]),.asgA 20 (.idx (.idx (.atr 26 v1) v2) (cI 0)) (cI 1),.ifs (.cmp .Eq (kA 1 [v0,cI 2]) (cI 0)) (sL [.expr (mE 0 (.atr 27 v1) [v2])]) .nil]),.asgA 24 v1 (.comp [3] (.idx (lS [lS [cS [87]],lS [cS [86,45,49]],lS []]) (kA 1 [v0,cI 3])) .nop (kA 0 [v0,v3])),.asgA 25 v1 (.slc (lS [kA 0 [v0,cS [65,82,71]]]) .nop (kA 1 [v0,cI 2])),.ret v1]
def Gg:cF:=⟨[],[("_law_root",Bz),("_law_take",Bv),("Data",vz)],[("append",(fT gv))]⟩
def Uu:SM:=
  cg Gg JD
def qE:aW:=Jh (uj anE 12) (bn 1 [] Uu)
def mj:aW:=afO zq (um nU qE)
def YR:TS:=sL [.asg 1 (cI 23),.for_ [2] (.slc v0 .nop (cI 30)) (sL [.asg 1 (.bin .Add (.bin .Mult v1 (cI 1000003)) (.bin .Mod v2 (.bin .Pow (cI 10) (cI 80))))]),.ret (lS [.ife (.cmp .Gt v1 (.bin .Pow (cI 10) (cI 60))) v1 (.bin .Add (.bin .Pow v1 (cI 6)) (.bin .FloorDiv (.bin .Pow (cI 10) (cI 68)) (cI 13)))])]
noncomputable def V5:cF:=⟨[],[],[]⟩
def Cb:SM:=
  (aV (cT [1] (ba (.int (23))))
  (aV (gE [2] (SV (al 0) (ba .none) (ba (.int (30))))
  (aV (cT [1] (bi (b4 .Add) (bi (b4 .Mult) (al 1) (ba (.int (1000003)))) (bi (b4 .Mod) (al 2) (bi (b4 .Pow) (ba (.int (10))) (ba (.int (80)))))))
  br))
  (aV (eK (bv de (aw (td (fw (b7 .Gt) (al 1) (bi (b4 .Pow) (ba (.int (10))) (ba (.int (60))))) (al 1) (bi (b4 .Add) (bi (b4 .Pow) (al 1) (ba (.int (6)))) (bi (b4 .FloorDiv) (bi (b4 .Pow) (ba (.int (10))) (ba (.int (68)))) (ba (.int (13)))))) aI)))
  br)))
def q9:aW:=bn 1 [] Cb
def apA:TS:=sL [.asgT [1,2,3] (tU [kA 3 [],kA 5 [cI 5,cS [71]],kA 5 [cI 10,cS [76]]]),.asgA 16 v3 (cS [88]),.expr (mE 2 (.atr 23 v2) [kA 6 [cS [79,78],lS [tU [tU [cS [116,101,120,116],.cst (.bytes [121])],.cst (.none)]]]]),.expr (mE 1 v2 [v3]),.asg 4 (kA 5 [cI 1,cS [82]]),.expr (mE 1 v4 [v2]),.asgA 24 v1 (lS [v4]),.asg 5 (.comp [6] (kA 4 [v1]) .nop (.atr 1 v6)),.ifs (.or (.cmp .NotEq v5 (mE 0 (cS [68,65,84,65,32,68,73,86,73,83,73,79,78,32,46,32,87,79,82,75,73,78,71,45,83,84,79,82,65,71,69,32,83,69,67,84,73,79,78,32,46,32,48,49,32,82,32,46,32,48,53,32,71,32,46,32,56,56,32,79,78,32,86,65,76,85,69,32,121,32,46,32,49,48,32,76,32,80,73,67,32,88,32,46]) [cS [32]])) (.not (kA 0 [kA 3 []]))) (sL [.bad]) .nil,.ret (kA 0 [kA 1 [kA 2 [v0]]])]
def am4(lab:List AV->List AV):cF:=⟨[],[("_law_is_right",(eL lab)),("_law_data",mj),("_law_bag",q9),("Data",vz),("data_tokens",ik),("Item",oW),("Named",xq)],[("split",(iq kG)),("add",yR),("append",(fT gv))]⟩
def Uz(lab:List AV->List AV):SM:=
  (aV (cT [1,2,3] (bv gm (aw (bv vz aI) (aw (bv oW (aw (ba (.int (5))) (aw (ba (.str [71])) aI))) (aw (bv oW (aw (ba (.int (10))) (aw (ba (.str [76])) aI))) aI)))))
  (aV (lU 16 (al 3) (ba (.str [88])))
  (aV (k9 (cH (fT gv) (un (aA 23) (al 2)) (aw (bv xq (aw (ba (.str [79,78])) (aw (bv de (aw (bv gm (aw (bv gm (aw (ba (.str [116,101,120,116])) (aw (ba (.bytes [121])) aI))) (aw (ba (.none)) aI))) aI)) aI))) aI)))
  (aV (k9 (cH yR (al 2) (aw (al 3) aI)))
  (aV (cT [4] (bv oW (aw (ba (.int (1))) (aw (ba (.str [82])) aI))))
  (aV (k9 (cH yR (al 4) (aw (al 2) aI)))
  (aV (lU 24 (al 1) (bv de (aw (al 4) aI)))
  (aV (cT [5] (eO [6] (bv ik (aw (al 1) aI)) (fun _ σ=>some (true,σ)) (un (aA 1) (al 6))))
  (aV (sb (RL (fw (b7 .NotEq) (al 5) (cH (iq kG) (ba (.str [68,65,84,65,32,68,73,86,73,83,73,79,78,32,46,32,87,79,82,75,73,78,71,45,83,84,79,82,65,71,69,32,83,69,67,84,73,79,78,32,46,32,48,49,32,82,32,46,32,48,53,32,71,32,46,32,56,56,32,79,78,32,86,65,76,85,69,32,121,32,46,32,49,48,32,76,32,80,73,67,32,88,32,46])) (aw (ba (.str [32])) aI))) (pc (jh (bv (eL lab) (aw (bv vz aI) aI)))))
  (aV (fun _ _=>none)
  br)
  br)
  (aV (eK (bv (eL lab) (aw (bv mj (aw (bv q9 (aw (al 0) aI)) aI)) aI)))
  br))))))))))
def Zi(lab:List AV->List AV):aW:=bn 1 [] (Uz lab)
noncomputable def FN:List Str:=[("text":Str),("worth":Str),("kind":Str),("places":Str),("at":Str),("indexes":Str),("keys":Str),("depending":Str),("low":Str),("high":Str),("sign":Str),("value":Str),("is_blank_zero":Str),("is_justified":Str),("occurs":Str),("usage":Str),("picture_text":Str),("redefines":Str),("name":Str),("rows":Str),("level":Str),("renames":Str),("kids":Str),("conditions":Str),("working":Str),("linkage":Str),("files":Str),("sorts":Str),("is_in_a":Str),("what":Str),("shape":Str),("size":Str),("offset":Str),("base":Str),("parent":Str),("is_separate":Str),("shared":Str),("named":Str),("tokens":Str)]
structure FR where
 x:Option Str
 f:aC
 n:Nat
 dfl:List AV
 nm:List (Nat×Str)
 N:Wt
 t:TS
def df(i:Nat)(l:List Str):List (Nat×Str):=bu (motive:=fun _=>Nat->List (Nat×Str)) (fun _=>[]) (fun x _ ih i=>(i,x)::ih (i+1)) l i
def pv:FR:=⟨some "_law_walked",1072,1,[],df 0 ["item","found","kid"],⟨[],["_law_walked","len"],[]⟩,QR⟩
def F3:FR:=⟨none,201,1,[],df 0 ["self"],⟨[],[],[]⟩,R7⟩
def C6:FR:=⟨none,602,1,[],df 0 ["self"],⟨[],[],[]⟩,QM⟩
def F2:FR:=⟨none,630,1,[],df 0 ["self"],⟨[],[],[]⟩,R6⟩
def Aq:FR:=⟨none,672,1,[],df 0 ["self","often","first"],⟨[],[],["told"]⟩,Nj⟩
def Jm:FR:=⟨none,677,1,[],df 0 ["self","named"],⟨[],["tuple"],["told","clauses"]⟩,VV⟩
def Jl:FR:=⟨none,703,1,[],df 0 ["self","files"],⟨[],["tuple"],["told"]⟩,VU⟩
def vW:FR:=⟨none,882,1,[],df 0 ["self"],⟨[],["len"],[]⟩,JA⟩
def C9:FR:=⟨none,875,2,[.int (0)],df 0 ["self","ahead"],⟨[],["len"],[]⟩,QN⟩
def vX:FR:=⟨none,904,3,[.int (0)],df 0 ["self","kind","ahead","token"],⟨[],[],["peek"]⟩,JB⟩
def wa:FR:=⟨none,911,2,[],df 0 ["self","words","ahead","word"],⟨[],[],["split","peek","is_kind"]⟩,wg⟩
def vZ:FR:=⟨none,969,3,[.int (0)],df 0 ["self","sign","ahead"],⟨[],[],["peek","is_kind"]⟩,JC⟩
def sE:FR:=⟨none,976,2,[],df 0 ["self","sign"],⟨[],[],["is_sign"]⟩,Fn⟩
def sD:FR:=⟨none,983,2,[],df 0 ["self","sign"],⟨[],[],["skip_sign"]⟩,sH⟩
def Da:FR:=⟨none,918,2,[],df 0 ["self","words"],⟨[],["len"],["split","is_word"]⟩,QO⟩
def r9:FR:=⟨some "skip_heading",833,2,[],df 0 ["reader","words"],⟨[],[],["need_sign","skip"]⟩,AP⟩
def Mf:FR:=⟨none,658,2,[],df 0 ["self","kid"],⟨[],[],["append"]⟩,Mm⟩
def uE:FR:=⟨some "put_beneath",800,2,[],df 0 ["open_items","item","above"],⟨["MOST_NESTED","ALONE"],["len"],["append","add","pop"]⟩,DA⟩
def K0:FR:=⟨some "nested",807,1,[],df 0 ["entries","roots","open_items","last","renaming","item","index"],⟨["RENAMING","ALONE","NAMING"],["len","put_beneath"],["add","append"]⟩,TQ⟩
def qu:FR:=⟨some "is_level_here",793,1,[],df 0 ["reader","token"],⟨[],[],["peek"]⟩,Lk⟩
def lu:FR:=⟨none,623,3,[],df 0 ["self","name","rows"],⟨[],["tuple"],[]⟩,we⟩
def x7:FR:=⟨none,932,2,[],df 0 ["self","words","word"],⟨[],[],["split","skip"]⟩,yh⟩
def pB:FR:=⟨some "octets_of_text",852,1,[],df 0 ["text","numbers"],⟨["MOST_OCTET"],["bytes","ord"],[]⟩,wj⟩
def x6:FR:=⟨none,1018,1,[],df 0 ["self","found"],⟨[],["octets_of_text"],["peek","is_kind"]⟩,Li⟩
def sC:FR:=⟨none,990,1,[],df 0 ["self"],⟨[],[],["is_kind","is_sign"]⟩,sG⟩
def HB:FR:=⟨some "negated",136,1,[],df 0 ["a"],⟨[],[],[]⟩,QV⟩
def Hz:FR:=⟨some "decimal",129,2,[.int (0)],df 0 ["units","scale"],⟨[],[],[]⟩,QT⟩
def Dk:FR:=⟨some "worth_of",164,1,[],df 0 ["figures","number","figure"],⟨["FIGURES_decimals"],[],["index"]⟩,Mv⟩
def nF:FR:=⟨some "read_decimal",171,1,[],df 0 ["text","begin","ahead","behind","point","at","units"],⟨["FIGURES_decimals"],["decimal","len","worth_of","range"],["index"]⟩,AH⟩
def Db:FR:=⟨none,896,1,[],df 0 ["self","token"],⟨[],[],["peek"]⟩,QP⟩
def x8:FR:=⟨none,997,1,[],df 0 ["self","is_below","found"],⟨[],["negated","read_decimal"],["take","skip_sign","is_number"]⟩,yi⟩
def r0:FR:=⟨some "read_operand",409,2,[],df 0 ["reader","read_expr","figure"],⟨[],[],["is_kind","octets","is_number","signed"]⟩,AK⟩
def uB:FR:=⟨some "is_reserved",847,1,[],df 0 ["word"],⟨["RESERVED"],[],[]⟩,Dx⟩
def vY:FR:=⟨none,947,2,[.int (0)],df 0 ["self","ahead"],⟨[],["is_reserved"],["peek","is_kind"]⟩,wf⟩
def rZ:FR:=⟨some "read_literal",725,1,[],df 0 ["reader"],⟨["no_expression"],["read_operand"],["is_name"]⟩,AJ⟩
def uG:FR:=⟨some "read_worths",772,1,[],df 0 ["reader","rows","first","last"],⟨[],["read_literal"],["is_sign","append","one_of"]⟩,DC⟩
def C7:FR:=⟨none,954,1,[],df 0 ["self"],⟨[],[],["take","is_name"]⟩,Dt⟩
def C8:FR:=⟨none,925,2,[],df 0 ["self","words"],⟨[],[],["skip"]⟩,Du⟩
def r5:FR:=⟨some "read_renames",779,1,[],df 0 ["reader","first","last"],⟨[],[],["one_of","name","need"]⟩,AL⟩
def ky:FR:=⟨none,595,6,[.none,.tup [],.tup []],df 0 ["self","low","high","depending","keys","indexes"],⟨[],["tuple"],[]⟩,uR⟩
def As:FR:=⟨none,961,1,[],df 0 ["self","found"],⟨[],[],["is_name","name"]⟩,AA⟩
def rW:FR:=⟨some "is_part_next",367,1,[],df 0 ["reader","depth","ahead"],⟨[],[],["is_sign"]⟩,AD⟩
def De:FR:=⟨some "read_ref",388,2,[],df 0 ["reader","read_expr","name","qualifiers","subscripts","part"],⟨[],["tuple","is_part_next"],["is_sign","one_of","append","name"]⟩,Mp⟩
def Dh:FR:=⟨some "units_at",143,3,[],df 0 ["a","scale","is_rounded","size","half"],⟨[],[],[]⟩,Ms⟩
def Di:FR:=⟨some "whole_of",157,1,[],df 0 ["a"],⟨[],["units_at"],[]⟩,Mt⟩
def Dd:FR:=⟨some "is_whole",150,1,[],df 0 ["a"],⟨[],[],[]⟩,Mo⟩
def Au:FR:=⟨none,1004,1,[],df 0 ["self","found"],⟨[],["whole_of","is_whole","read_decimal"],["peek","is_kind"]⟩,Nl⟩
def uF:FR:=⟨some "read_occurs",730,1,[],df 0 ["reader","low","high","depending","keys","indexes","is_ascending"],⟨["no_expression"],["Occurs","tuple","read_ref"],["skip","names","is_word","extend","take","whole"]⟩,DB⟩
def lR:FR:=⟨some "read_named_clause",744,3,[],df 0 ["reader","item","word","told_usage","place"],⟨["USAGE_WORDS"],["read_occurs"],["one_of","join","skip"]⟩,ru⟩
def uz:FR:=⟨some "clause_word",751,1,[],df 0 ["reader","word"],⟨[],[],["skip"]⟩,Dv⟩
def mT:FR:=⟨some "read_bare_clause",758,2,[],df 0 ["reader","item","usage","place"],⟨["USAGE_WORDS"],[],["one_of","join","take","is_kind"]⟩,sI⟩
def rY:FR:=⟨some "read_clauses",765,2,[],df 0 ["reader","item","met","ahead","word"],⟨[],["read_named_clause","clause_word","read_bare_clause"],["is_sign","append","peek"]⟩,AG⟩
def mv:FR:=⟨none,651,3,[],df 0 ["self","level","name"],⟨[],[],[]⟩,yf⟩
def Ar:FR:=⟨none,889,2,[],df 0 ["self","what"],⟨[],["GrammarFault","min","len"],[]⟩,Nk⟩
def wQ:FR:=⟨some "read_entry",786,1,[],df 0 ["reader","place","level","item"],⟨["NAMING","RENAMING","ALONE","FILLER","MOST_LEVEL"],["Named","read_worths","read_renames","read_clauses","Item"],["need_sign","is_name","name","skip","whole","fault"]⟩,Gc⟩
def nG:FR:=⟨some "read_entries",814,1,[],df 0 ["reader","entries"],⟨[],["nested","is_level_here","read_entry"],["append"]⟩,AI⟩
def nY:FR:=⟨some "read_file_entry",826,3,[],df 0 ["reader","data","is_sort","place","name","roots"],⟨["ALONE"],["read_entries"],["append","skip_sign","name","fault"]⟩,uV⟩
def mu:FR:=⟨none,698,1,[],df 0 ["self"],⟨[],[],[]⟩,ye⟩
def zy:FR:=⟨some "read_data",840,1,[],df 0 ["reader","data"],⟨[],["skip_heading","read_entries","read_file_entry","Data"],["is_word","is_done","take"]⟩,JI⟩
def kz:FR:=⟨none,867,3,[.int (0)],df 0 ["self","tokens","at"],⟨[],[],[]⟩,HL⟩
def lx:FR:=⟨none,194,5,[.tup [.int (0),.int (0)],.bool false],df 0 ["self","kind","worth","at","is_in_a"],⟨[],[],[]⟩,wh⟩
def nX:FR:=⟨some "is_picture_next",330,1,[],df 0 ["tokens"],⟨[],["len"],[]⟩,uU⟩
def kQ:FR:=⟨some "capital_of",215,1,[],df 0 ["sign"],⟨[],["chr","ord"],[]⟩,F7⟩
def rp:FR:=⟨some "capitals",220,1,[],df 0 ["text"],⟨[],["capital_of"],["join"]⟩,Mn⟩
def uD:FR:=⟨some "picture_end",269,2,[],df 0 ["text","at","end"],⟨["ENDS"],["len"],[]⟩,Dz⟩
def nW:FR:=⟨some "checked_picture",295,2,[],df 0 ["line","at","end"],⟨[],["capitals","picture_end"],[]⟩,uT⟩
def pA:FR:=⟨some "is_parted",234,2,[],df 0 ["text","at"],⟨[],["len"],[]⟩,JH⟩
def HA:FR:=⟨some "mark_at",309,2,[],df 0 ["line","at","pair","sign"],⟨["SINGLE_SIGNS","DOUBLE_SIGNS"],["is_parted"],["split"]⟩,QU⟩
def nV:FR:=⟨some "checked_literal",288,3,[],df 0 ["line","at","end","quote","worth"],⟨["MOST_LITERAL"],["len"],["replace"]⟩,uS⟩
def rX:FR:=⟨some "is_word_sign",227,1,[],df 0 ["sign"],⟨["WORD_SIGNS"],["capital_of"],[]⟩,AE⟩
def wO:FR:=⟨some "need_apart",302,2,[],df 0 ["line","end","behind"],⟨["FIGURES_tokens","QUOTES"],["is_word_sign"],[]⟩,Ga⟩
def uC:FR:=⟨some "literal_end",262,2,[],df 0 ["line","at","quote","end"],⟨[],["len"],[]⟩,Dy⟩
def rU:FR:=⟨some "checked_word",274,3,[],df 0 ["line","at","end","worth"],⟨["MOST_WORD","LETTERS"],["len","capitals"],[]⟩,AB⟩
def pw:FR:=⟨some "checked_number",281,3,[],df 0 ["line","at","end","worth"],⟨["MOST_FIGURES"],["len"],[]⟩,wi⟩
def zz:FR:=⟨some "run_end",248,3,[],df 0 ["text","at","signs"],⟨[],["capital_of","len"],[]⟩,QW⟩
def wP:FR:=⟨some "number_end",255,2,[],df 0 ["text","at","end"],⟨["FIGURES_tokens"],["run_end"],[]⟩,Gb⟩
def Dj:FR:=⟨some "worth_at",316,2,[],df 0 ["line","at","sign","end","behind","kind","worth"],⟨["QUOTES","FIGURES_tokens","LETTERS","WORD_SIGNS"],["len","mark_at","checked_literal","need_apart","literal_end","checked_word","checked_number","number_end","run_end","capital_of"],[]⟩,Mu⟩
def wM:FR:=⟨some "is_word_is",344,2,[],df 0 ["text","at"],⟨[],["is_parted","capitals"],[]⟩,F8⟩
def uA:FR:=⟨some "is_blank_at",323,2,[],df 0 ["text","at"],⟨[],["is_parted"],[]⟩,Dw⟩
def wL:FR:=⟨some "add_tokens",337,2,[],df 0 ["tokens","line","at","was_is","place","kind","worth","end"],⟨[],["len","Token","is_picture_next","checked_picture","worth_at","is_word_is","is_blank_at"],["append"]⟩,F6⟩
def zB:FR:=⟨some "tokens_of",351,1,[],df 0 ["lines","tokens","line"],⟨[],["add_tokens"],[]⟩,JL⟩
def mw:FR:=⟨none,35,3,[],df 0 ["self","text","spots"],⟨[],[],[]⟩,yg⟩
def lT:FR:=⟨some "text_tokens",510,2,[.bool false],df 0 ["text","is_in_a","begin","found"],⟨["AREA_A","AREA_B"],["range","len","Token","tokens_of","Line"],[]⟩,DG⟩
def x9:FR:=⟨some "joined",495,1,[],df 0 ["parts"],⟨[],[],["join"]⟩,TP⟩
def K4:FR:=⟨some "quoted",358,1,[],df 0 ["text"],⟨[],[],["replace"]⟩,TR⟩
def r8:FR:=⟨some "shown_octets",414,1,[],df 0 ["octets"],⟨[],["quoted","chr"],["join"]⟩,AO⟩
def qv:FR:=⟨some "write_decimal",178,1,[],df 0 ["a","figures"],⟨[],["len","str","abs"],[]⟩,yj⟩
def r7:FR:=⟨some "shown_number",421,1,[],df 0 ["worth","text"],⟨["MOST_FIGURES"],["abs","write_decimal"],["replace"]⟩,AN⟩
def r6:FR:=⟨some "show_operand",440,2,[],df 0 ["operand","show_expr"],⟨[],["shown_octets","shown_number"],[]⟩,AM⟩
def nE:FR:=⟨some "operand_text",483,1,[],df 0 ["operand"],⟨["show_expression"],["show_operand"],[]⟩,AF⟩
def uI:FR:=⟨some "show_worths",543,1,[],df 0 ["named","rows","first","last"],⟨[],["joined","operand_text"],["append"]⟩,DF⟩
def EG:FR:=⟨some "worded",502,2,[],df 0 ["word","text"],⟨[],[],[]⟩,TT⟩
def Dg:FR:=⟨some "show_ref",433,2,[],df 0 ["ref","show_expr","found","length"],⟨[],["list"],["join"]⟩,Mr⟩
def Df:FR:=⟨some "ref_text",490,1,[],df 0 ["ref"],⟨["show_expression"],["show_ref"],[]⟩,Mq⟩
def uH:FR:=⟨some "show_occurs",522,1,[],df 0 ["occurs","head","keys"],⟨[],["joined","worded","str","ref_text"],[]⟩,DE⟩
def zA:FR:=⟨some "show_sign",529,1,[],df 0 ["item"],⟨[],[],[]⟩,JK⟩
def rV:FR:=⟨some "clause_texts",536,1,[],df 0 ["item"],⟨["USAGE_NAMES"],["operand_text","show_occurs","show_sign","worded"],[]⟩,AC⟩
def wN:FR:=⟨some "level_text",517,1,[],df 0 ["level"],⟨[],["str"],[]⟩,F9⟩
def wR:FR:=⟨some "show_entry",550,1,[],df 0 ["item","head","first","last"],⟨["RENAMES_LEVEL"],["joined","clause_texts","level_text"],[]⟩,Ge⟩
def nD:FR:=⟨some "entry_tokens",557,1,[],df 0 ["item","found","named","kid"],⟨["TOP_LEVELS"],["entry_tokens","text_tokens","show_worths","show_entry"],["extend"]⟩,Nm⟩
def nJ:FR:=⟨some "roots_tokens",564,1,[],df 0 ["roots","found","root"],⟨[],["entry_tokens"],["extend"]⟩,Nn⟩
def pC:FR:=⟨some "section_tokens",571,2,[],df 0 ["heading","roots"],⟨[],["text_tokens","roots_tokens"],[]⟩,JJ⟩
def pz:FR:=⟨some "data_tokens",578,1,[],df 0 ["data","found","name","head"],⟨[],["text_tokens","section_tokens","roots_tokens"],["extend"]⟩,QS⟩
def qt:FR:=⟨some "_law_is_right",1077,1,[],df 0 ["data","tokens","reader","roots","heads","tops","first","levels"],⟨[],["_law_walked","int","range","len","sorted","read_data","Reader","data_tokens"],["told","is_done"]⟩,Lj⟩
def mx:FR:=⟨some "_law_take",1032,2,[],df 0 ["bag","many","worth"],⟨[],[],[]⟩,VW⟩
def tm:FR:=⟨some "_law_item",1046,3,[],df 0 ["bag","level","name","item","way"],⟨[],["_law_take","Named","Occurs","Item"],["append"]⟩,JE⟩
def zw:FR:=⟨some "_law_leaf",1053,3,[],df 0 ["bag","level","name","item"],⟨[],["_law_take","_law_item"],[]⟩,JF⟩
def zx:FR:=⟨some "_law_root",1060,2,[],df 0 ["bag","name","root","turn","group","inner","renaming"],⟨[],["_law_take","Item","range","_law_leaf","_law_item"],["add"]⟩,JG⟩
def zv:FR:=⟨some "_law_data",1065,1,[],df 0 ["bag","data","name"],⟨[],["_law_root","_law_take","Data"],["append"]⟩,JD⟩
def Dc:FR:=⟨some "_law_bag",1039,1,[],df 0 ["script","number","cell"],⟨[],[],[]⟩,YR⟩
def aaQ:FR:=⟨some "law",1082,1,[],df 0 ["script","data","group","leaf","root","words"],⟨[],["_law_is_right","_law_data","_law_bag","Data","data_tokens","Item","Named"],["split","add","append"]⟩,apA⟩
def qj:List FR:=[
 pv,
 F3,
 C6,
 F2,
 Aq,
 Jm,
 Jl,
 vW,
 C9,
 vX,
 wa,
 vZ,
 sE,
 sD,
 Da,
 r9,
 Mf,
 uE,
 K0,
 qu,
 lu,
 x7,
 pB,
 x6,
 sC,
 HB,
 Hz,
 Dk,
 nF,
 Db,
 x8,
 r0,
 uB,
 vY,
 rZ,
 uG,
 C7,
 C8,
 r5,
 ky,
 As,
 rW,
 De,
 Dh,
 Di,
 Dd,
 Au,
 uF,
 lR,
 uz,
 mT,
 rY,
 mv,
 Ar,
 wQ,
 nG,
 nY,
 mu,
 zy,
 kz,
 lx,
 nX,
 kQ,
 rp,
 uD,
 nW,
 pA,
 HA,
 nV,
 rX,
 wO,
 uC,
 rU,
 pw,
 zz,
 wP,
 Dj,
 wM,
 uA,
 wL,
 zB,
 mw,
 lT,
 x9,
 K4,
 r8,
 qv,
 r7,
 r6,
 nE,
 uI,
 EG,
 Dg,
 Df,
 uH,
 zA,
 rV,
 wN,
 wR,
 nD,
 nJ,
 pC,
 pz,
 qt,
 mx,
 tm,
 zw,
 zx,
 zv,
 Dc,
 aaQ]
structure GR where
 x:Str
 a:AV
noncomputable def O5:List GR:=[⟨"FIGURES_decimals",mO⟩,
 ⟨"WORD_SIGNS",wx⟩,
 ⟨"FIGURES_tokens",lf⟩,
 ⟨"ENDS",abx⟩,
 ⟨"MOST_WORD",Im⟩,
 ⟨"LETTERS",GC⟩,
 ⟨"MOST_FIGURES",rG⟩,
 ⟨"MOST_LITERAL",zQ⟩,
 ⟨"QUOTES",Kg⟩,
 ⟨"SINGLE_SIGNS",zR⟩,
 ⟨"DOUBLE_SIGNS",zP⟩,
 ⟨"AREA_A",Sp⟩,
 ⟨"AREA_B",Sq⟩,
 ⟨"RENAMES_LEVEL",xi⟩,
 ⟨"TOP_LEVELS",iW⟩,
 ⟨"NAMING",Kf⟩,
 ⟨"RENAMING",BC⟩,
 ⟨"ALONE",BA⟩,
 ⟨"FILLER",Sr⟩,
 ⟨"MOST_LEVEL",Fx⟩,
 ⟨"MOST_NESTED",BB⟩,
 ⟨"MOST_OCTET",Fy⟩]
structure CR where
 x:Str
 c:aC
 i:aC
noncomputable def y9:List CR:=[⟨"Line",45,35⟩,⟨"Token",204,194⟩,⟨"Occurs",605,595⟩,⟨"Named",633,623⟩,⟨"Item",680,651⟩,⟨"Data",706,698⟩,⟨"Reader",1021,867⟩]
structure MR where
 c:aC
 x:Str
 f:aC
noncomputable def Kz:List MR:=[⟨204,"told",201⟩,⟨605,"told",602⟩,⟨633,"told",630⟩,⟨680,"add",658⟩,⟨680,"clauses",672⟩,⟨680,"told",677⟩,⟨706,"told",703⟩,⟨1021,"peek",875⟩,⟨1021,"is_done",882⟩,⟨1021,"fault",889⟩,⟨1021,"take",896⟩,⟨1021,"is_kind",904⟩,⟨1021,"is_word",911⟩,⟨1021,"skip",918⟩,⟨1021,"need",925⟩,⟨1021,"one_of",932⟩,⟨1021,"is_name",947⟩,⟨1021,"name",954⟩,⟨1021,"names",961⟩,⟨1021,"is_sign",969⟩,⟨1021,"skip_sign",976⟩,⟨1021,"need_sign",983⟩,⟨1021,"is_number",990⟩,⟨1021,"signed",997⟩,⟨1021,"whole",1004⟩,⟨1021,"octets",1018⟩]
noncomputable def UM:List Str:=[("len":Str),("range":Str),("str":Str),("tuple":Str),("list":Str),("abs":Str),("chr":Str),("ord":Str),("sorted":Str),("int":Str),("bytes":Str),("min":Str)]
section simps
variable{fr:Fm}{σ:AS}
@[simp] theorem b9 {α β:Type} (a:α) (f:α->Option β):ob (some a) f=f a:=rfl
@[simp] theorem aX {α γ β:Type} (a:α) (b:γ) (f:α->γ->Option β):bD (some (a,b)) f=f a b:=rfl
@[simp] theorem anv {α β:Type} (a:α) (f:α->Option β) (g):od (some a) f g=f a:=rfl
@[simp] theorem gn (f m):un f m fr σ=bD (m fr σ) fun a ai=>ob (f a ai) fun b=>some (b,ai):=rfl
@[simp] theorem jH (f m n):bi f m n fr σ=bD (m fr σ) fun a ai=>bD (n fr ai) fun b fX=>f a b fX:=rfl
@[simp] theorem fD (f m n):fw f m n fr σ=bD (m fr σ) fun a ai=>bD (n fr ai) fun b fX=>ob (f a b fX) fun r=>some (r,fX):=rfl
@[simp] theorem lY (m):jh m fr σ=bD (m fr σ) fun a ai=>ob (qR ai a) fun b=>some (b,ai):=rfl
@[simp] theorem wI (m):rT m fr σ=bD (m fr σ) fun b ai=>some (.bool b,ai):=rfl
@[simp] theorem qM (b):pc b fr σ=bD (b fr σ) fun b ai=>some (!b,ai):=rfl
@[simp] theorem G6 (a b):RL a b fr σ=bD (a fr σ) fun t ai=>bif t then some (true,ai)else b fr ai:=rfl
@[simp] theorem Es (a b):SS a b fr σ=bD (a fr σ) fun v ai=>ob (qR ai v) fun t=>bif t then b fr ai else some (v,ai):=rfl
@[simp] theorem wE (c a b):td c a b fr σ=bD (c fr σ) fun t ai=>bif t then a fr ai else b fr ai:=rfl
theorem bk(i):al i fr σ=bif bW (gt fr i)then none else some (gt fr i,σ):=rfl
@[simp] theorem d6 (a):ba a fr σ=some (a,σ):=rfl
@[simp] theorem eu (f l):bv f l fr σ=bD (l fr σ) fun vs ai=>f vs ai:=rfl
@[simp] theorem cq:aI fr σ=some ([],σ):=rfl
@[simp] theorem cz (a l):aw a l fr σ=bD (a fr σ) fun v ai=>bD (l fr ai) fun vs aM=>some (v::vs,aM):=rfl
@[simp] theorem eJ (D o l):cH D o l fr σ=bD (o fr σ) fun x ai=>ob (D x ai) fun F=>bD (l fr ai) fun vs aM=>F (x::vs) aM:=rfl
@[simp] theorem dk (a b):aV a b fr σ=ob (a fr σ) (gU b):=rfl
@[simp] theorem dF (k fr' ai):gU k (.next fr' ai)=k fr' ai:=rfl
@[simp] theorem dI (k a ai):gU k (.ret a ai)=some (.ret a ai):=rfl
@[simp] theorem fJ:br fr σ=some (.next fr σ):=rfl
@[simp] theorem j6 (c a b):sb c a b fr σ=bD (c fr σ) fun t ai=>bif t then a fr ai else b fr ai:=rfl
@[simp] theorem ek (e):eK e fr σ=bD (e fr σ) fun v ai=>some (.ret v ai):=rfl
@[simp] theorem fH (i e):cT [i] e fr σ=bD (e fr σ) fun v ai=>some (.next (put fr i v) ai):=rfl
@[simp] theorem yb (k o e):lU k o e fr σ=bD (e fr σ) fun v ai=>bD (o fr ai) fun x aM=>ob (ou k v x aM) fun cM=>some (.next fr cM):=rfl
@[simp] theorem kI (a:AV) (r):gt (a::r) 0=a:=rfl
@[simp] theorem pd (a:AV) (r i):gt (a::r) (i+1)=gt r i:=rfl
@[simp] theorem sA (a v:AV) (r):put (a::r) 0 v=v::r:=rfl
@[simp] theorem sB (a v:AV) (r i):put (a::r) (i+1) v=a::put r i v:=rfl
@[simp] theorem putN (v:AV):put [] 0 v=[v]:=rfl
@[simp] theorem amA (fr' ai):ir (.next fr' ai)=some (.none,ai):=rfl
@[simp] theorem gB (a ai):ir (.ret a ai)=some (a,ai):=rfl
@[simp] theorem iT (b):qR σ (.bool b)=some b:=rfl
@[simp] theorem O1 (a):b4 .Add (.int (.ofNat a)) (.int 1) σ=some (.int (.ofNat (a+1)),σ):=rfl
@[simp] theorem NC (a b):b4 .Add (.int (.ofNat a)) (.int (.ofNat b)) σ=some (.int (.ofNat (a+b)),σ):=rfl
@[simp] theorem aij (a b):b7 .Lt (.int (.ofNat a)) (.int (.ofNat b)) σ=some (bz a b):=rfl
@[simp] theorem aom (a b):b7 .GtE (.int (.ofNat a)) (.int (.ofNat b)) σ=some (!bz a b):=rfl
@[simp] theorem ZW (a b):b7 .Eq (.str a) (.str b) σ=some (dm a b):=rfl
@[simp] theorem aoH (a b):b7 .NotEq (.str a) (.str b) σ=some (!dm a b):=rfl
@[simp] theorem ah1 (a):b7 .Is a .none σ=lN a:=rfl
@[simp] theorem I2 (a):b7 .IsNot a .none σ=ob (lN a) fun b=>some (!b):=rfl
@[simp] theorem S7:lN .none=some true:=rfl
@[simp] theorem ad2 (l):lN (.bytes l)=some false:=rfl
@[simp] theorem fq (a):bW (.ref a)=false:=rfl
@[simp] theorem lZ (a):bW (.int a)=false:=rfl
@[simp] theorem mU (a):bW (.str a)=false:=rfl
@[simp] theorem akX:bW .none=false:=rfl
@[simp] theorem apE (a):bW (.bytes a)=false:=rfl
@[simp] theorem Ym (F l):iq F (.str l) σ=some F:=rfl
end simps
theorem amm{α:Type}{l:List α}: ∀(i:Nat),Qj l i=l[i]? :=by
 induction l with
 |nil=>exact fun i=>rfl
 |cons a l ih=>
  intro i
  cases i with
  |zero=>rfl
  |succ i=>exact ih i
theorem fW{n:Nat}(h:n<=4000000):dC n=true:=gq h
theorem G8{a b:Nat}(h:a<b):bz a b=true:=dh.mpr h
theorem Zw{a b:Nat}(h:b<=a):bz a b=false:=EQ.mpr fun e=>ci.mpr h (dh.mp e)
section
variable{σ:AS}{r m:Nat}{L l:aa}{mac:List Nat->List AV}
theorem jm{α β:Type}{o:Option α}{a:α}{f:α->Option β}(h:o=some a):ob o f=f a:=h▸rfl
theorem o8(hg:σ.get r=some (cW L m)):aA 4 (.ref r) σ=some (.int (.ofNat m)):=jm hg
theorem IH(hg:σ.get r=some (cW L m)):aA 38 (.ref r) σ=some (.lst L):=jm hg
theorem xU(hL:dC L.length=true):eV [.lst L] σ=some (.int (.ofNat L.length),σ):=by
 rw[<- ip]at hL ⊢
 show(bif dC (eY L)then _ else none)=_
 rw[hL];rfl
theorem rS{F:aW}{G:gR}(hg:σ.get r=some (cW L m)):fm dr F G (.ref r) σ=some F:=jm (show FM (.ref r) σ=some 1021 from jm hg)
theorem Jv(hg:σ.get r=some (cW L m))(k:Nat):ou 4 (.int (.ofNat k)) (.ref r) σ=some (σ.set r (cW L k)):=jm hg
theorem IZ{i:Nat}{a:AV}(h:dC i=true)(e:L[i]? =some a):fV (.lst L) (.int (.ofNat i)) σ=some (a,σ):=by
 have h1:ace (.lst L) (.int (.ofNat i)) σ=some a:=by
  show(bif dC i then Qj L i else none)=_
  rw[h,amm];exact e
 exact jm h1
theorem amp(hg:σ.get r=some (cW L m))(hL:dC L.length=true)(k:Nat):ii [.ref r,.int (.ofNat k)] σ=some ((L[m+k]?).getD .none,σ):=by
 show ob (o5 [.ref r,.int (.ofNat k)] σ) ir=_
 by_cases hk:m+k<L.length
 ·have hx:L[m+k]? =some L[m+k]:=fb hk
  simp only[o5,dk,j6,fD,jH,gn,bk,kI,pd,fq,lZ,ae,aX,b9,o8 hg,IH hg,NC,eu,cz,cq,xU hL,aij,G8 hk,af,ek,IZ (fW (au (i8 hk) (jQ hL))) hx,dI,gB]
  rw[hx];rfl
 ·simp only[o5,dk,j6,fD,jH,gn,bk,kI,pd,fq,lZ,ae,aX,b9,o8 hg,IH hg,NC,eu,cz,cq,xU hL,aij,Zw (ci.mp hk),ek,d6,dI,dF,gB,fJ]
  rw[n6 (ci.mp hk)];rfl
noncomputable def at_(L:aa)(i:Nat):AV:=(L[i]?).getD .none
def lp(mac:List Nat->List AV)(l:aa)(L:aa)(m:Nat):Prop:=mac []=[]/\ ∃pre,pre.length=m/\L=pre++xp mac l
theorem lp.at(S:lp mac l L m){k:Nat}{o:Option AV}(e:jL l k=some o):at_ L (m+k)=o.getD .none:=by
 unfold at_
 obtain⟨pre,h1,h2⟩:=S.2
 rw[h2,<- h1,kD (cY _ _),mI,QX S.1 e]
theorem tj(hg:σ.get r=some (cW L m))(hL:dC L.length=true)(S:lp mac l L m){k:Nat}{o:Option AV}(e:jL l k=some o):ii [.ref r,.int (.ofNat k)] σ=some (o.getD .none,σ):=(amp hg hL k).trans (congrArg (fun x=>some (x,σ)) (S.at e))
theorem j7{k:Nat}{t v:AV}(h:pH k t=some v):aA k t σ=some v/\lN t=some false/\bW t=false:=s8 (Q:=fun t=>aA k t σ=some v/\lN t=some false/\bW t=false) h fun c ks vs h=>⟨h,rfl,rfl⟩
theorem aov{k:Nat}{w:ac}{b:Bool}{P:Prop}(e:qN l k w=some b)(k0:jL l k=some none->b=false->P)(k1: ∀t s,jL l k=some (some t)->pH 2 t=some (.str s)->b=dm s w->P):P:=
 oE e fun o ho e=>by
  cases o with
  |none=>exact k0 ho (aH e).symm
  |some t=>exact oE e fun v hv e=>fU (Q:=fun v=>pH 2 t=some v->P) e (fun s e hv=>k1 t s ho hv (aH e).symm) hv
theorem acO{k:Nat}{w:ac}{b:Bool}{P:Prop}(e:Q0 l k w=some b)(k1: ∀t s,jL l k=some (some t)->pH 1 t=some (.str s)->b=dm s w->P):P:=
 oE e fun o ho e=>oE (o:=o) e fun t ht e=>oE e fun v hv e=>fU (Q:=fun v=>pH 1 t=some v->P) e (fun s e hv=>k1 t s (ht▸ho) hv (aH e).symm) hv
theorem afR{k:Nat}{w s:ac}{b:Bool}{P:Prop}(e:vM l k w s=some b)(k1:qN l k w=some true->Q0 l k s=some b->P)(k0:qN l k w=some false->b=false->P):P:=
 oE e fun c hc e=>bE e (fun z e=>k1 (z▸hc) e) fun z e=>k0 (z▸hc) (aH e).symm
theorem lO(hg:σ.get r=some (cW L m))(hL:dC L.length=true)(S:lp mac l L m){k:Nat}{w:ac}{b:Bool}(e:qN l k w=some b):iy [.ref r,.str w,.int (.ofNat k)] σ=some (.bool b,σ):=by
 show ob (lj [.ref r,.str w,.int (.ofNat k)] σ) ir=_
 refine aov e (fun ht hb=> ?_) fun t s ht h2 hb=> ?_
 ·rw[hb]
  simp only[lj,gw,dk,fH,eJ,bk,kI,pd,fq,lZ,ae,aX,b9,rS hg,cz,cq,tj hg hL S ht,tJ,dF,sA,sB,putN,ek,Es,wI,fD,akX,d6,I2,S7,eD,iT,dI,gB]
 ·rw[hb]
  simp only[lj,gw,dk,fH,eJ,bk,kI,pd,fq,lZ,mU,ae,aX,b9,rS hg,cz,cq,tj hg hL S ht,nO,dF,sA,sB,putN,ek,Es,wI,fD,(j7 (σ:=σ) h2).2.2,d6,I2,(j7 (σ:=σ) h2).2.1,fx,iT,dI,gB,af,gn,(j7 (σ:=σ) h2).1,ZW]
theorem Hl(hg:σ.get r=some (cW L m))(hL:dC L.length=true)(S:lp mac l L m){k:Nat}{w:ac}{b:Bool}(e:vM l k jo w=some b):jx [.ref r,.str w,.int (.ofNat k)] σ=some (.bool b,σ):=by
 show ob (lm [.ref r,.str w,.int (.ofNat k)] σ) ir=_
 refine afR e (fun e1 e2=>acO e2 fun t s ht h2 hb=> ?_) fun e1 hb=> ?_
 ·have h1:=lO hg hL S e1
  unfold jo at h1
  rw[hb]
  simp only[lm,gw,fj,dk,eJ,bk,kI,pd,fq,lZ,mU,ae,aX,b9,rS hg,cz,cq,h1,tj hg hL S ht,nO,ek,Es,wI,fD,d6,iT,dI,gB,af,gn,(j7 (σ:=σ) h2).1,ZW]
 ·have h1:=lO hg hL S e1
  unfold jo at h1
  rw[hb]
  simp only[lm,fj,dk,eJ,bk,kI,pd,fq,lZ,mU,ae,aX,b9,rS hg,cz,cq,h1,ek,Es,d6,iT,dI,gB]
def tr:SM:=(aV (sb (RL (pc (jh (cH fj (al 0) (aw (ba (.str [119,111,114,100])) (aw (al 2) aI))))) (fw (b7 .NotEq) (un (aA 1) (cH gw (al 0) (aw (al 2) aI))) (al 3)))
  (aV (eK (ba (.bool false)))
  br)
  br)
  (aV (cT [2] (bi (b4 .Add) (al 2) (ba (.int (1)))))
  br))
theorem ak6(hg:σ.get r=some (cW L m))(hL:dC L.length=true)(S:lp mac l L m){w:AV}{x:ac}{k:Nat}{b:Bool}(e:vM l k uN x=some b):
  tr [.ref r,w,.int (.ofNat k),.str x] σ=some (bif b then .next [.ref r,w,.int (.ofNat (k+1)),.str x] σ else .ret (.bool false) σ):=by
 refine afR e (fun e1 e2=>acO e2 fun t s ht h2 hb=> ?_) fun e1 hb=> ?_
 ·have h1:=lO hg hL S e1
  unfold uN at h1
  rw[hb]
  cases z:dm s x<;>simp only[tr,gw,fj,dk,j6,G6,qM,lY,eJ,bk,kI,pd,fq,lZ,mU,ae,aX,b9,rS hg,cz,cq,h1,tj hg hL S ht,nO,fD,d6,iT,eD,fx,af,gn,(j7 (σ:=σ) h2).1,aoH,z,ek,dI,dF,fJ,fH,jH,O1,sA,sB]
 ·have h1:=lO hg hL S e1
  unfold uN at h1
  rw[hb]
  simp only[tr,fj,dk,j6,G6,qM,lY,eJ,bk,kI,pd,fq,lZ,mU,ae,aX,b9,rS hg,cz,cq,h1,d6,iT,fx,af,ek,dI]
theorem abi(hg:σ.get r=some (cW L m))(hL:dC L.length=true)(S:lp mac l L m)(w:AV){ws:List (List Nat)}: ∀(k:Nat) (f3:Fm) (b:Bool),f3.length<=1->DL l k ws=some b->
  ∃fr',pF [3] tr (ws.map .str) (.ref r::w:: .int (.ofNat k)::f3) σ=(bif b then some (.next fr' σ)else some (.ret (.bool false) σ)):=by
 induction ws with
 |nil=>exact fun k f3 b _ e=>s1 (P:=fun b=> ∃fr',some (j9.next (.ref r::w:: .int (.ofNat k)::f3) σ)=(bif b then some (.next fr' σ)else some (.ret (.bool false) σ))) e ⟨_,rfl⟩
 |cons x ws ih=>
  intro k f3 b h3 e
  have hf:put (.ref r::w:: .int (.ofNat k)::f3) 3 (.str x)=[.ref r,w,.int (.ofNat k),.str x]:=by
   cases f3 with
   |nil=>rfl
   |cons a f3=>cases f3 with
    |nil=>rfl
    |cons=>exact absurd h3 (Nat.not_succ_le_self _∘au (be (be (aU _))))
  refine oE (show ob (vM l k uN x) _=some b from e) fun c hc e=> ?_
  have h:=ak6 hg hL S (w:=w) hc
  have hs: ∀{o},tr [.ref r,w,.int (.ofNat k),.str x] σ=some o->pF [3] tr ((x::ws).map .str) (.ref r::w:: .int (.ofNat k)::f3) σ=KR (pF [3] tr (ws.map .str)) o:=fun{o} h=>by
   show ob (tr (put (.ref r::w:: .int (.ofNat k)::f3) 3 (.str x)) σ) _=_
   rw[hf,h];rfl
  cases c with
  |true=>
   obtain⟨fr',ih⟩:=ih (k+1) [.str x] b (ax _) e
   exact⟨fr',(hs h).trans ih⟩
  |false=>exact s1 (P:=fun b=> ∃fr',_=(bif b then some (j9.next fr' σ)else some (.ret (.bool false) σ))) e ⟨[],hs h⟩
end
section
variable{σ:AS}{r m:Nat}{L l:aa}{mac:List Nat->List AV}
def sW(σ:AS)(w:ac):AS:=(σ.alloc (.lst ((dv 32 [] w).map .str))).drop σ.next
theorem Jt{σ:AS}{w:ac}{b:Nat}(h:b<σ.next):(sW σ w).get b=σ.get b:=by
 have h:=ct h
 unfold sW
 rw[AS.get_drop,AS.get_alloc,if_neg h,if_neg h]
theorem YM{w:ac}(hw:dC w.length=true):kG [.str w,.str [32]] σ=some (.ref σ.next,σ.alloc (.lst ((dv 32 [] w).map .str))):=by
 show(bif dC w.length then _ else none)=_
 rw[hw];rfl
theorem cn{c:bJ}:(σ.alloc c).get σ.next=some c:=by rw[AS.get_alloc,if_pos rfl]
theorem PU(hg:σ.get r=some (cW L m))(hL:dC L.length=true)(S:lp mac l L m)(hr:r<σ.next){w:ac}{b:Bool}(hw:okW w=true)(e:DL l 0 (dv 32 [] w)=some b):jy [.ref r,.str w] σ=some (.bool b,sW σ w):=aE hw fun hw1 hw2=>by
 obtain⟨fr',h⟩:=abi ((Jt hr).trans hg) hL S (.str w) 0 [] b (aU _) e
 have hit:fE (σ.alloc (.lst ((dv 32 [] w).map .str))) (.ref σ.next)=some ((dv 32 [] w).map .str,sW σ w):=by
  show bD (ob ((σ.alloc _).get σ.next) _) _=_
  rw[cn]
  show(bif dC ((dv 32 [] w).map AV.str).length then _ else none)=_
  rw[aS,hw2];rfl
 have e1:jy [.ref r,.str w] σ=ob (ob (bD (bD (some (AV.str w,σ)) fun x ai=>ob (iq kG x ai) fun F=>F [x,.str [32]] ai) fun x ai=>bD (fE ai x) fun l ay=>pF [3] tr l [.ref r,.str w,.int (.ofNat 0)] ay) (gU (aV (eK (ba (.bool true))) br))) ir:=rfl
 rw[e1,aX,Ym,b9,YM hw1,aX,hit,aX,h]
 cases b<;>rfl
theorem amV(hg:σ.get r=some (cW L m))(hL:dC L.length=true)(S:lp mac l L m){t:AV}(e:jL l 0=some (some t))(hr:lN t=some false)(hu:bW t=false):oY [.ref r] σ=some (t,σ.set r (cW L (m+1))):=by
 have hp:ii [.ref r] σ=some (t,σ):=tj hg hL S e
 show ob (t9 [.ref r] σ) ir=_
 simp only[t9,gw,dk,j6,fH,yb,fD,jH,gn,eJ,bk,kI,pd,fq,lZ,hu,ae,af,aX,b9,rS hg,cz,cq,hp,dF,sA,sB,putN,ah1,hr,d6,fJ,o8 hg,O1,Jv hg,ek,dI,gB]
theorem aaN{t:AV}{k:Nat}: ∀{l:aa} {k:Nat},jL l k=some (some t)-> ∃c ks vs,t= .frz c ks vs:=fun{l}=>by
 induction l with
 |nil=>exact fun e=>nn (aH e)
 |cons a r ih=>
  intro k e
  refine s8 (Q:=fun a'=>a'=a-> ∃c ks vs,t= .frz c ks vs) e (fun c ks vs e ha=> ?_) rfl
  refine bE e (fun q e=>kS e fun _ e=>ih e) fun q e=> ?_
  cases k with
  |zero=>exact⟨c,ks,vs,ha.trans (aH (aH e))|>.symm⟩
  |succ j=>exact ih e
theorem Jw(hg:σ.get r=some (cW L m))(hL:dC L.length=true)(S:lp mac l L m){w:ac}{b:Bool}(e:vM l 0 jo w=some b):jN [.ref r,.str w] σ=some (.bool b,bif b then σ.set r (cW L (m+1))else σ):=by
 have h:jx [.ref r,.str w] σ=some (.bool b,σ):=Hl hg hL S (k:=0) e
 show ob (mP [.ref r,.str w] σ) ir=_
 cases b<;>simp only[mP,vx,dk,j6,qM,lY,eJ,bk,kI,pd,fq,mU,ae,af,aX,b9,rS hg,cz,cq,h,iT,eD,fx,ek,d6,dI,dF,gB,fJ,yb,jH,gn,o8 hg,O1,Jv hg]
theorem acF(hg:σ.get r=some (cW L m))(hL:dC L.length=true)(S:lp mac l L m)(hr:r<σ.next){w:ac}{b:Bool}(hw:okW w=true)(e:DL l 0 (dv 32 [] w)=some b):
  oX [.ref r,.str w] σ=some (.bool b,bif b then((sW σ w).alloc (.lst ((dv 32 [] w).map .str))).set r (cW L (m+(dv 32 [] w).length))else sW σ w):=aE hw fun hw1 hw2=>by
 have h:=PU hg hL S hr hw e
 have hg':(sW σ w).get r=some (cW L m):=(Jt hr).trans hg
 show ob (o6 [.ref r,.str w] σ) ir=_
 cases b
 ·simp only[o6,q8,dk,j6,qM,lY,eJ,bk,kI,pd,fq,mU,ae,af,aX,b9,rS hg,cz,cq,h,iT,fx,ek,d6,dI,gB]
 ·have hg2:((sW σ w).alloc (.lst ((dv 32 [] w).map .str))).get r=some (cW L m):=by
   rw[AS.get_alloc,if_neg (show r≠(sW σ w).next from ct (cN hr))];exact hg'
  have hlen:eV [.ref (sW σ w).next] ((sW σ w).alloc (.lst ((dv 32 [] w).map .str)))=some (.int (.ofNat (dv 32 [] w).length),(sW σ w).alloc (.lst ((dv 32 [] w).map .str))):=by
   show ob (ob (((sW σ w).alloc _).get (sW σ w).next) _) _=_
   rw[cn]
   show(bif dC (eY ((dv 32 [] w).map AV.str))then _ else none)=_
   rw[ip,aS,hw2];rfl
  simp only[o6,q8,dk,j6,qM,lY,eJ,bk,kI,pd,fq,mU,ae,af,aX,b9,rS hg,cz,cq,h,iT,eD,fJ,ek,d6,dI,dF,gB,yb,jH,gn,o8 hg',eu,Ym,YM hw1,hlen,NC,Jv hg2]
end
section
variable{σ:AS}{r m:Nat}{L l:aa}{mac:List Nat->List AV}
theorem vV{F:aW}{args:aa}{a:AV}(h:uy F args=some a)(σ:AS):wK F args σ=some (a,σ):=jm h
theorem ak7(hg:σ.get r=some (cW L m))(hL:dC L.length=true)(S:lp mac l L m){t w d n:AV}(e1:qN l 0 pV=some true)(e2:jL l 0=some (some t))(e3:pH 1 t=some w)
  (e4:uy iE [w]=some d)(e5:uy lH [d]=some (.bool true))(e6:uy og [d]=some n)(hd:bW d=false):nw [.ref r] σ=some (n,σ.set r (cW L (m+1))):=by
 have h:iy [.ref r,.str [110,117,109,98,101,114]] σ=some (.bool true,σ):=lO hg hL S e1
 have hp:ii [.ref r] σ=some (t,σ):=tj hg hL S e2
 show ob (rN [.ref r] σ) ir=_
 simp only[rN,fj,gw,dk,j6,G6,qM,lY,eJ,bk,kI,pd,fq,hd,ae,af,aX,b9,rS hg,cz,cq,d6,h,iT,eD,fx,fJ,dF,dI,fH,eu,gn,hp,(j7 (σ:=σ) e3).1,vV e4,vV e5,vV e6,sA,sB,putN,yb,jH,o8 hg,O1,Jv hg,ek,gB]
theorem aei(hg:σ.get r=some (cW L m))(hL:dC L.length=true)(S:lp mac l L m){t w:AV}{b:List UInt8}(e1:qN l 0 Yy=some true)(e2:jL l 0=some (some t))(e3:pH 1 t=some w)
  (e4:uy iz [w]=some (.bytes b)):mi [.ref r] σ=some (.bytes b,σ.set r (cW L (m+1))):=by
 have h:iy [.ref r,.str [108,105,116,101,114,97,108]] σ=some (.bool true,σ):=lO hg hL S e1
 have hp:ii [.ref r] σ=some (t,σ):=tj hg hL S e2
 show ob (qi [.ref r] σ) ir=_
 simp only[qi,fj,gw,dk,j6,fD,qM,lY,eJ,bk,kI,pd,fq,apE,ae,af,aX,b9,rS hg,cz,cq,d6,h,iT,eD,fJ,dF,dI,fH,eu,gn,hp,(j7 (σ:=σ) e3).1,vV e4,ah1,ad2,sA,sB,putN,yb,jH,o8 hg,O1,Jv hg,ek,gB]
theorem abW(hg:σ.get r=some (cW L m))(hL:dC L.length=true):lh [.ref r] σ=some (.bool (!bz m L.length),σ):=by
 show ob (o4 [.ref r] σ) ir=_
 simp only[o4,dk,ek,wI,fD,gn,bk,kI,fq,ae,aX,b9,o8 hg,IH hg,eu,cz,cq,xU hL,aom,dI,gB]
theorem lp.lt(S:lp mac l L m){t:AV}(e:jL l 0=some (some t)):L[m]? =some t:=by
 refine eX (S.2) fun pre h1 h2=> ?_
 rw[h2,<- h1,kD (ax _),Bp,QX S.1 e]
theorem aoD(hm:m<L.length):Ur [.int (.ofNat m),.int (am L.length-1)] σ=some (.int (.ofNat m),σ):=by
 obtain⟨j,hj⟩:=Nat.exists_eq_add_of_lt hm
 rw[hj,show am (m+j+1)-1=am (m+j) from Bl (m+j:Nat) 1]
 show some (AV.int (bif bz (m+j) m then am (m+j)else am m),σ)=_
 rw[Zw (cY m j)];rfl
theorem ahl(hg:σ.get r=some (cW L m))(hL:dC L.length=true)(S:lp mac l L m){t w:AV}{x:ac}(e2:jL l 0=some (some t))(e3:pH 4 t=some w):nv [.ref r,.str x] σ=some (.opq,σ):=by
 have hat:=S.lt e2
 have hm:=(cU.mp hat).1
 have ht:qR σ (.lst L)=some true:=by
  show(bif dC L.length then some (!L.isEmpty)else none)=_
  rw[hL]
  cases L with
  |nil=>exact absurd hm (iw _)
  |cons=>rfl
 have hs:b4 .Sub (.int (.ofNat L.length)) (.int 1) σ=some (.int (am L.length-1),σ):=rfl
 have hix:=IZ (σ:=σ) (fW (au (i8 hm) (jQ hL))) hat
 have ho: ∀a b,Wl [a,b] σ=some (.opq,σ):=fun _ _=>rfl
 show ob (rM [.ref r,.str x] σ) ir=_
 simp only[rM,dk,j6,qM,eD,fJ,dF,ek,wE,lY,jH,gn,bk,kI,pd,fq,mU,ae,af,aX,b9,IH hg,o8 hg,ht,eu,cz,cq,xU hL,d6,hs,aoD hm,hix,(j7 (σ:=σ) e3).1,ho,dI,gB]
end
section
variable{C:PC}{kF:Nat}{f:ah}{mac:List Nat->List AV}{bx:List Nat->List AV->List Nat}{VB:AV->Prop}
structure qh(C:PC)(mac:List Nat->List AV)(bx:List Nat->List AV->List Nat)(VB:AV->Prop):Prop where
 mac0:mac []=[]
 rdr: ∀l c,C.conc 1021 l c↔lM mac l c
 bx2: ∀m d vs,bx [m,d] vs=[m,d]
 bag: ∀l c,C.conc 0 l c↔age bx VB l c
theorem eB{σ:AS}{r:Nat}{eS c:bJ}(h:σ.get r=some eS):(σ.set r c).get r=some c:=by rw[AS.get_set,if_pos rfl,h];rfl
theorem tn{σ:AS}{r b:Nat}{c:bJ}(h:b≠r):(σ.set r c).get b=σ.get b:=by rw[AS.get_set,if_neg h]
theorem b8{l l':aa}:aN (l++l')=(aN l&&aN l'):=by
 induction l with
 |nil=>rfl
 |cons a l ih=>exact(congrArg (noRef a&& ·) ih).trans (Bool.and_assoc ..).symm
theorem Md{l:aa}{j:Nat}(h:aN l=true):aN (l.take j)=true/\aN (l.drop j)=true:=by
 rw[<- n7 j l,b8]at h
 exact aE h hZ
theorem vP{σ:AS}{l:aa}{r:Nat}{c eS:bJ}(h:lM mac l c)(m0:mac []=[])(hg:σ.get r=some eS): ∃L m,(σ.set r c).get r=some (cW L m)/\c=cW L m/\dC L.length=true/\lp mac l L m/\m+(xp mac l).length=L.length/\
  ∀j l',rQ l j=some l'->lM mac l' (cW L (m+j)):=by
 obtain⟨w,pre,h1,h2,h3,rfl⟩:=h
 refine⟨_,_,eB hg,rfl,by rw[ao];exact h1,⟨m0,pre,rfl,rfl⟩,ao.symm,fun j l' e=> ?_⟩
 refine ud (adn m0 w e) fun d1 d2 d3=> ?_
 have hl:(pre++(xp mac l).take j).length=pre.length+j:=by rw[ao,ki,H4 d2]
 refine⟨d3,pre++(xp mac l).take j,?_,?_,?_,?_⟩
 ·rw[hl,d1,g9,kE,Bc d2];exact h1
 ·rw[b8,h2,(Md h3).1];rfl
 ·rw[d1];exact(Md h3).2
 ·rw[hl,d1,aB,n7]
theorem uq(O:qh C mac bx VB){F F':aW}(hF:aF C kF f F)(H: ∀args σ a ai,F' args σ=some (a,ai)-> ∃r l,σ.get r=some (.orc 1021 l)/\ai=σ/\
  ∀jD L m,jD.get r=some (cW L m)->dC L.length=true->lp mac l L m->m+(xp mac l).length=L.length->F args jD=some (a,jD)):aF C kF f F':=uP hF fun args σ a ai e=>by
 obtain⟨r,l,hr,rfl,H⟩:=H args σ a ai e
 refine⟨r,1021,l,hr,fun c hc hlt=> ?_⟩
 refine abX (vP ((O.rdr _ _).mp hc) O.mac0 hr) fun L m h1 h2 h3 h4 h5 h6=> ?_
 refine⟨_,c,1021,l,H _ L m h1 h3 h4 h5,h2▸h1,hc,ax _,fun b d q=> ?_⟩
 by_cases z:b=r
 ·exact .inl ⟨z,aH (q.symm.trans (z▸hr))⟩
 ·exact .inr ⟨z,(tn z).trans q⟩
theorem Zq{σ ay:AS}{r:Nat}{c' eS:bJ}(hr:σ.get r=some eS)(h: ∀b d,b≠r->σ.get b=some d->ay.get b=some d)(b:Nat)(d:bJ)(q:(σ.set r c').get b=some d):(b=r/\d=c')\/(b≠r/\ay.get b=some d):=by
 by_cases z:b=r
 ·subst z;rw[eB hr]at q;exact .inl ⟨rfl,(aH q).symm⟩
 ·rw[tn z]at q;exact .inr ⟨z,h b d z q⟩
theorem zl(O:qh C mac bx VB){F F':aW}(hF:aF C kF f F)(H: ∀args σ a ai,F' args σ=some (a,ai)-> ∃r l j l',σ.get r=some (.orc 1021 l)/\rQ l j=some l'/\ai=σ.set r (.orc 1021 l')/\
  ∀jD L m,jD.get r=some (cW L m)->dC L.length=true->lp mac l L m->F args jD=some (a,jD.set r (cW L (m+j)))):aF C kF f F':=uP hF fun args σ a ai e=>by
 obtain⟨r,l,j,l',hr,hd,rfl,H⟩:=H args σ a ai e
 refine⟨r,1021,l,hr,fun c hc hlt=> ?_⟩
 refine abX (vP ((O.rdr _ _).mp hc) O.mac0 hr) fun L m h1 h2 h3 h4 h5 h6=> ?_
 exact⟨_,cW L (m+j),1021,l',H _ L m h1 h3 h4,eB h1,(O.rdr _ _).mpr (h6 _ _ hd),ax _,Zq hr fun b d z q=>by rw[tn z,tn z];exact q⟩
theorem zm{F:aW}{args:aa}{σ:AS}{r:Nat}{l:aa}{a b:AV}{ai:AS}(hr:σ.get r=some (.orc 1021 l))(e:some (b,σ)=some (a,ai))(H: ∀jD L m,jD.get r=some (cW L m)->dC L.length=true->lp mac l L m->m+(xp mac l).length=L.length->F args jD=some (b,jD)):
  ∃r l,σ.get r=some (.orc 1021 l)/\ai=σ/\ ∀jD L m,jD.get r=some (cW L m)->dC L.length=true->lp mac l L m->m+(xp mac l).length=L.length->F args jD=some (a,jD):=by
 apply s2 e;exact⟨r,l,hr,rfl,H⟩
theorem QH{F:aW}{args:aa}{σ:AS}{r j:Nat}{l l':aa}{a b:AV}{ai:AS}(hr:σ.get r=some (.orc 1021 l))(hd:rQ l j=some l')(e:some (b,σ.set r (.orc 1021 l'))=some (a,ai))(H: ∀jD L m,jD.get r=some (cW L m)->dC L.length=true->lp mac l L m->F args jD=some (b,jD.set r (cW L (m+j)))):
  ∃r l j l',σ.get r=some (.orc 1021 l)/\rQ l j=some l'/\ai=σ.set r (.orc 1021 l')/\ ∀jD L m,jD.get r=some (cW L m)->dC L.length=true->lp mac l L m->F args jD=some (a,jD.set r (cW L (m+j))):=by
 apply s2 e;exact⟨r,l,j,l',hr,hd,rfl,H⟩
theorem Vu(o:Option AV):((od o some (some .none)).getD .none)=o.getD .none:=by cases o<;>rfl
theorem YF(O:qh C mac bx VB)(hF:aF C kF f ii):aF C kF f Il:=uq O hF fun args σ a ai e=>nZ e fun r as l hr e=>aaH e
 (fun e=>oE e fun o ho e=>zm hr e fun jD L m hg hL S _=>by rw[Vu];exact tj hg hL S ho) fun k e=>oE e fun o ho e=>zm hr e fun jD L m hg hL S _=>by rw[Vu];exact tj hg hL S ho
theorem QD(O:qh C mac bx VB)(hF:aF C kF f iy):aF C kF f LA:=uq O hF fun args σ a ai e=>nZ e fun r as l hr e=>Lh e fun w bs e=>aaH e
 (fun e=>oE e fun b e1 e=>zm hr e fun jD L m hg hL S _=>lO hg hL S e1) fun k e=>oE e fun b e1 e=>zm hr e fun jD L m hg hL S _=>lO hg hL S e1
theorem QE(O:qh C mac bx VB)(hF:aF C kF f jx):aF C kF f LB:=uq O hF fun args σ a ai e=>nZ e fun r as l hr e=>Lh e fun w bs e=>aaH e
 (fun e=>oE e fun b e1 e=>zm hr e fun jD L m hg hL S _=>Hl hg hL S e1) fun k e=>oE e fun b e1 e=>zm hr e fun jD L m hg hL S _=>Hl hg hL S e1
theorem QC(O:qh C mac bx VB)(hF:aF C kF f lh):aF C kF f vw:=uq O hF fun args σ a ai e=>nZ e fun r as l hr e=>An e fun e=>oE e fun o ho e=>by
 have ho:=fun h=>QX (mac:=mac) h ho
 cases o with
 |some t=>
  exact zm hr e fun jD L m hg hL S hlen=>by
   have h:=(cU.mp (ho O.mac0)).1
   rw[abW hg hL,G8 (by rw[<- hlen];exact vb h)];rfl
 |none=>
  exact zm hr e fun jD L m hg hL S hlen=>by
   have h:=Rd.mp (List.getElem?_eq_none_iff.mp (ho O.mac0))
   rw[abW hg hL,Zw (by rw[<- hlen,h];exact ax _)];rfl
theorem VP(O:qh C mac bx VB)(hF:aF C kF f nv):aF C kF f Sl:=uq O hF fun args σ a ai e=>nZ e fun r as l hr e=>Lh e fun x bs e=>An e fun e=>oE e fun o ho e=>oE (o:=o) e fun t ht e=>oE e fun w hw e=>
 zm hr e fun jD L m hg hL S _=>ahl hg hL S (ht▸ho) hw
theorem YH(O:qh C mac bx VB)(hF:aF C kF f oY):aF C kF f Wn:=zl O hF fun args σ a ai e=>nZ e fun r as l hr e=>An e fun e=>oE e fun o ho e=>oE (o:=o) e fun t ht e=>oE e fun l' hd e=>
 QH hr hd e fun jD L m hg hL S=>let⟨c,ks,vs,h⟩:=aaN (k:=0) (ht▸ho);amV hg hL S (ht▸ho) (h▸rfl) (h▸rfl)
theorem EJ{σ:AS}{r:Nat}{c:bJ}(h:σ.get r=some c):σ.set r c=σ:=congrArg (AS.mk σ.next) (TO _ _ _ h)
theorem Lb(O:qh C mac bx VB)(hF:aF C kF f jN):aF C kF f Fw:=zl O hF fun args σ a ai e=>nZ e fun r as l hr e=>Lh e fun w bs e=>An e fun e=>oE e fun b hb e=>bE e
 (fun z e=>oE e fun l' hd e=>QH hr hd e fun jD L m hg hL S=>Jw hg hL S (z▸hb)) fun z e=>QH (j:=0) hr (L5 l) ((congrArg (fun σ=>some (AV.bool false,σ)) (EJ hr)).trans e) fun jD L m hg hL S=>(Jw hg hL S (z▸hb)).trans (congrArg (fun σ=>some (AV.bool false,σ)) (EJ hg).symm)
theorem YY{β:Type}{l:aa}{w:ac}{f:AV->List AV->Option β}{x:β}{P:Prop}(e:V1 l w f=some x)(kk: ∀t v l',qN l 0 w=some true->jL l 0=some (some t)->pH 1 t=some v->rQ l 1=some l'->f v l'=some x->P):P:=
 oE e fun b hb e=>kS e fun z e=>oE e fun o ho e=>oE (o:=o) e fun t ht e=>oE e fun v hv e=>oE e fun l' hd e=>kk t v l' (z▸hb) (ht▸ho) hv hd e
theorem abh{d:AV}(h:uy lH [d]=some (.bool true)):bW d=false:=by
 cases d<;>first|rfl|exact nn h
theorem VQ(O:qh C mac bx VB)(hF:aF C kF f nw):aF C kF f (So iE lH og):=zl O hF fun args σ a ai e=>nZ e fun r as l hr e=>An e fun e=>YY e fun t v l' hk ht hv hd e=>oE e fun d h1 e=>oE e fun b h2 e=>afH e fun hb e=>oE e fun n h3 e=>
 QH hr hd e fun jD L m hg hL S=>ak7 hg hL S hk ht hv h1 (hb▸h2) h3 (abh (hb▸h2))
theorem R4(O:qh C mac bx VB)(hF:aF C kF f mi):aF C kF f (Om iz):=zl O hF fun args σ a ai e=>nZ e fun r as l hr e=>An e fun e=>YY e fun t v l' hk ht hv hd e=>oE e fun x h1 e=>ac9 e fun b hb e=>
 QH hr hd e fun jD L m hg hL S=>aei hg hL S hk ht hv (hb▸h1)
theorem QZ{F:aW}{args:aa}{σ:AS}{r:Nat}{l:aa}{a:AV}{w:ac}(O:qh C mac bx VB)(hr:σ.get r=some (.orc 1021 l))(H: ∀jD L m,jD.get r=some (cW L m)->dC L.length=true->lp mac l L m->r<jD.next->F args jD=some (a,sW jD w)):
  ∃r kk l,σ.get r=some (.orc kk l)/\ ∀c,C.conc kk l c->(∀b d,σ.get b=some d->b<σ.next)-> ∃ay Cw Tj bC,F args (σ.set r c)=some (a,ay)/\ay.get r=some Cw/\C.conc Tj bC Cw/\ay.next<=(⟨σ.next+1,σ.cells⟩:AS).next/\
   ∀b d,(⟨σ.next+1,σ.cells⟩:AS).get b=some d->(b=r/\d= .orc Tj bC)\/(b≠r/\ay.get b=some d):=by
 refine⟨r,1021,l,hr,fun c hc hlt=> ?_⟩
 refine abX (vP ((O.rdr _ _).mp hc) O.mac0 hr) fun L m h1 h2 h3 h4 h5 h6=> ?_
 refine⟨_,c,1021,l,H _ _ _ h1 h3 h4 (hlt _ _ hr),((Jt (σ:=σ.set r c) (hlt _ _ hr)).trans h1).trans (congrArg some h2.symm),hc,ax _,fun b d q=> ?_⟩
 have q:σ.get b=some d:=q
 by_cases z:b=r
 ·exact .inl ⟨z,aH (q.symm.trans (z▸hr))⟩
 ·exact .inr ⟨z,(Jt (σ:=σ.set r c) (hlt _ _ q)).trans ((tn z).trans q)⟩
theorem QF(O:qh C mac bx VB)(hF:aF C kF f jy):aF C kF f LF:=uP hF fun args σ a ai e=>nZ e fun r as l hr e=>Lh e fun w bs e=>An e fun e=>kS e fun hw e=>oE e fun b e1 e=>by
 apply s2 e
 exact QZ O hr fun jD L m hg hL S hr=>PU hg hL S hr hw e1
theorem YG(O:qh C mac bx VB)(hF:aF C kF f oX):aF C kF f Wm:=uP hF fun args σ a ai e=>nZ e fun r as l hr e=>Lh e fun w bs e=>An e fun e=>kS e fun hw e=>oE e fun b e1 e=>bE e
 (fun z e=>oE e fun l' hd e9=>by
  subst z
  apply s2 e9
  refine⟨r,1021,l,hr,fun c hc hlt=> ?_⟩
  refine abX (vP ((O.rdr _ _).mp hc) O.mac0 hr) fun L m h1 h2 h3 h4 h5 h6=> ?_
  have hs: ∀{b:Nat},b<σ.next->((sW (σ.set r c) w).alloc (.lst ((dv 32 [] w).map .str))).get b=(σ.set r c).get b:=fun{b} h=>by
   rw[AS.get_alloc,if_neg (show b≠(sW (σ.set r c) w).next from ct (cN h))];exact Jt (σ:=σ.set r c) h
  exact⟨_,cW L (m+(dv 32 [] w).length),1021,l',acF h1 h3 h4 (hlt _ _ hr) hw e1,eB ((hs (hlt _ _ hr)).trans h1),(O.rdr _ _).mpr (h6 _ _ hd),ax _,
   Zq hr fun b d z q=>(tn (σ:=(sW (σ.set r c) w).alloc _) z).trans ((hs (hlt _ _ q)).trans ((tn z).trans q))⟩) fun z e9=>by
  subst z
  apply s2 e9
  exact QZ O hr fun jD L m hg hL S hr=>acF hg hL S hr hw e1
theorem zD{F:aW}(hF:aF C kF f F):aF C kF f (wK F):=aaW (jg (pick:=fun _ _=>[]) hF) fun args σ a ai e=>oE e fun b h e=>kS h fun hr h=>fS h fun xG ay e1 h=>kS h fun ha h=>by
 apply s2 e
 apply s1 h
 show(bif aN args then bD (F args ⟨0,[]⟩) _ else none)=_
 rw[hr,e1]
 show ob (uK _ xG) _=_
 rw[uv ha];rfl
end
section
variable{k:Nat}{C:PC}{W W' W'':Wd}{σ ai:AS}{h h':bM}
theorem aaf{ay:AS}{cA:Wd}{x:Nat}{c:Nat}{ks:ac}{fs fs':aa}{p:aC×aC}{es:List ia}{m:Nat}{vs:List ah}(R:cC C W σ h)(hg:σ.get x=some (.inst c ks fs))(hp:W.ρ x=some p)(hpr:W.pr p.2=none)(hi:W.im p.2=none)(q0:C.cls c=true)(q1:W.im p.1=some (instObj c p.2))(q2:h.get? p.2=some (dictOf es m))(q3:oV C ks vs es)
  (g2:Gh W (σ.drop x) cA ay)(R2:cC C cA ay h)(z2:VL C cA fs' vs):cC C cA ⟨ay.next,(x,.inst c ks fs')::ay.cells⟩ h:=by
 have hx: ∀b c,(σ.drop x).get b=some c->b≠x/\σ.get b=some c:=fun b c e=>by
  rw[AS.get_drop]at e
  by_cases z:b=x
  ·rw[if_pos z]at e;exact nn e
  ·rw[if_neg z]at e;exact⟨z,e⟩
 have hp2:cA.ρ x=some p:=by rw[g2.ρ];exact hp
 have hi2:cA.im p.2=none:=by
  cases z:cA.im p.2 with
  |none=>rfl
  |some o=>
   refine Xp (g2.im _ _ hi z) fun b c' p' h1 h2 h3=> ?_
   obtain⟨n1,n2⟩:=hx _ _ h1
   exact absurd (R.inj _ _ _ _ _ _ n2 hg h2 hp h3) n1
 have look: ∀b c',AS.get ⟨ay.next,(x,.inst c ks fs')::ay.cells⟩ b=some c'->(b=x/\c'= .inst c ks fs')\/(b≠x/\ay.get b=some c'):=fun b c' e=>by
  by_cases z:b=x
  ·subst z;exact .inl ⟨rfl,(aH (aih.symm.trans e)).symm⟩
  ·exact .inr ⟨z,(aii z).symm.trans e⟩
 refine⟨R2.base,R2.im,R2.pr,R2.dis,R2.fresh,fun b c' e=> ?_,fun b b' cb cb' pb pb' e e' ep ep' hpp=> ?_⟩
 ·rcases look b c' e with⟨rfl,rfl⟩|⟨h1,h2⟩
  ·exact⟨p,hp2,⟨q0,g2.le.2.1 _ _ q1,es,m,vs,q2,z2,q3⟩,hi2,by rw[g2.le.2.2];exact hpr⟩
  ·exact R2.cell _ _ h2
 ·have old: ∀b c',AS.get ⟨ay.next,(x,.inst c ks fs')::ay.cells⟩ b=some c'-> ∃c'',σ.get b=some c'':=fun b c' e=>(look b c' e).elim (fun h=>⟨_,h.1▸hg⟩) fun h=>⟨_,(hx _ _ (g2.sub _ _ h.2)).2⟩
  obtain⟨d,e⟩:=old b cb e
  obtain⟨d',e'⟩:=old b' cb' e'
  exact R.inj _ _ _ _ _ _ e e' (by rw[<- g2.ρ];exact ep) (by rw[<- g2.ρ];exact ep') hpp
theorem XE{sel:Nat->Bool}(n:Nat)(W:Wd)(σ:AS)(a:AV)(v:ah)(R:cC C W σ h)(q:V C W a v): ∃W',W.le W'/\cC C W' (PF sel n a σ).2 h/\V C W' (PF sel n a σ).1 v:=by
 unfold PF
 generalize e:io a _=o
 cases o with
 |none=>exact⟨W,.refl _,R,q⟩
 |some r=>
  show ∃W',W.le W'/\cC C W' r.2 h/\V C W' r.1 v
  revert q
  refine iA e fun x e=>instE e fun c ks fs hg e=> ?_
  apply s1 e
  intro q
  obtain⟨p,hp,rfl⟩:=q
  obtain⟨p',e',⟨q0,q1,es,m,vs,q2,r,q3⟩,hi,hpr⟩:=R.cell _ _ hg
  rw[hp]at e';cases e'
  refine ue (Mc (sel:=sel) (CD (sel:=sel) n) ks fs W (σ.drop x) vs (R.drop x) r) fun cA g2 R2 z2=> ?_
  exact⟨cA,g2.le,aaf R hg hp hpr hi q0 q1 q2 q3 g2 R2 z2,p,g2.le.1 _ _ hp,rfl⟩
theorem TM{kF:Nat}{f:ah}{F:aW}{g:AV->AS->AV×AS}(hg: ∀h W σ a v,cC C W σ h->V C W a v-> ∃W',W.le W'/\cC C W' (g a σ).2 h/\V C W' (g a σ).1 v)(hF:aF C kF f F):aF C kF f (Jh g F):=fun A R W σ s args vs Re hv tk a ai e=>fS e fun b ay e1 e=>by
 refine eC (hF A R W σ s args vs Re hv tk b ay e1) fun v s' ⟨hs,W',le,R',hv'⟩=> ?_
 refine ue (hg _ _ _ _ _ R' hv') fun cA l2 R2 v2=> ?_
 rw[show g b ay=(a,ai) from aH e]at R2 v2
 exact⟨hs,cA,le.trans l2,R2,v2⟩
theorem HF{kF n:Nat}{sel:Nat->Bool}{f:ah}{F:aW}(hF:aF C kF f F):aF C kF f (Jh (uj sel n) F):=TM (fun h W σ a v R q=>let⟨W',g,R',v'⟩:=CD n W σ a v R q;⟨W',g.le,R',v'⟩) hF
theorem HG{kF n:Nat}{sel:Nat->Bool}{f:ah}{F:aW}(hF:aF C kF f F):aF C kF f (Jh (PF sel n) F):=TM (fun h W σ a v R q=>XE n W σ a v R q) hF
end
section
variable{C:PC}{kF:Nat}{f:ah}{mac:List Nat->List AV}{bx:List Nat->List AV->List Nat}{VB:AV->Prop}
theorem Vz{a:AV}{Q:AV->Prop}(h:(mR a fun c _ _=>some (!aj c 0)).getD false=true)(kk: ∀c ks vs,aj c 0=false->Q (.frz c ks vs)):Q a:=by
 cases a with
 |frz c ks vs=>exact kk c ks vs (pn h)
 |_=>exact ff h
theorem T1{l:aa}:dj l=true->xp mac l=l/\vg mac l:=by
 induction l with
 |nil=>exact fun _=>⟨rfl,trivial⟩
 |cons a l ih=>
  refine fun h=>aE (show((mR a fun c _ _=>some (!aj c 0)).getD false&&dj l)=true from h) fun h1 h2=>Vz (Q:=fun a=>xp mac (a::l)=a::l/\vg mac (a::l)) h1 fun c ks vs h1=> ?_
  obtain⟨i1,i2⟩:=ih h2
  refine⟨?_,fun z=> ?_,i2⟩
  ·rw[EP,h1,i1];rfl
  ·have z:(aj c 0&&CI ks)=true:=z
   rw[h1]at z;exact ff z
@[elab_as_elim] theorem al5 {vs:aa} {L:aa} {Q:List AV->Prop} (h:aah vs=some L) (kk: ∀x y,Q [.lst L,.int (.ofNat 0),x,y]):Q vs:=
 kJ h fun a r h=>kJ (Q:=fun r=>Q (a::r)) h fun b r h=>alr (Q:=fun a=>Q (a::b::r)) h fun L' h=>ml (Q:=fun b=>Q (.lst L'::b::r)) h fun n h=>kS h fun z h=>KA (Q:=fun r=>Q (.lst L':: .int (.ofNat n)::r)) h fun x y h=>
  s1 (P:=fun L=>(∀x y,Q [.lst L,.int (.ofNat 0),x,y])->Q [.lst L',.int (.ofNat n),x,y]) h (fun kk=>by rw[aD z];exact kk x y) kk
theorem aeR(O:qh C mac bx VB){F:aW}(hF:aF C kF f F):aF C kF f (anA F):=fun A R W σ s args vs Re hv tk a ai e=>fS e fun b ay e1 e=>by
 revert e1
 refine iA e fun x e=>instE e fun c ks fs hc e=>kS e fun z e=>oE e fun L hL e=>kS e fun q e e1=> ?_
 apply s2 e
 obtain⟨z1,z2⟩:=aE z hZ
 rw[kO,decide_eq_true_iff]at z2
 obtain⟨q,h3⟩:=aE q hZ
 obtain⟨h1,h2⟩:=aE q hZ
 obtain⟨xl,xw⟩:=T1 (mac:=mac) h3
 refine eC (hF A R W σ s args vs Re hv tk _ ay e1) fun v s' ⟨hs,W',le,R',hv'⟩=> ?_
 obtain⟨p,a1,⟨q0,q1,es,n,vs,q2,r,q3⟩,_⟩:=R'.cell _ _ hc
 have r4:VL C W' [.lst L,.int (.ofNat 0),.opq,.opq] vs:=al5 (Q:=fun fs=>VL C W' fs vs->VL C W' [.lst L,.int (.ofNat 0),.opq,.opq] vs) hL (fun x y r=>r.consE fun v1 r1 z1 r=>r.consE fun v2 r2 z2 r=>r.consE fun v3 r3 _ r=>r.consE fun v4 r4 _ r=>.cons z1 (.cons z2 (.cons trivial (.cons trivial r)))) r
 rw[aD z1]at q0 q1
 rw[z2]at q3
 exact⟨hs,W',le,R'.set hc a1 (fun _ _ _ e=>e) ⟨cW L 0,(O.rdr _ _).mpr ⟨xw,[],by rw[xl,H0,ic];exact h1,rfl,by rw[xl];exact h2,by rw[xl];rfl⟩,q0,q1,es,n,vs,q2,r4,q3⟩,hv'⟩
theorem akM{σ:AS}{x m:Nat}{b:Int}(hg:σ.get x=some (.lst [.int b]))(hm:0<m)(hs:bz m 1000=true):yY [.ref x,.int (.ofNat m)] σ=some (.int (b.fmod (am m)),σ.set x (.lst [.int (b.fdiv (am m))])):=by
 obtain⟨j,rfl⟩:=Nat.exists_eq_succ_of_ne_zero (oN hm)
 have h1:mz (am (j+1))=true:=gq (au (i8 (dh.mp hs)) (by decide +kernel))
 have hi:fV (.ref x) (.int 0) σ=some (.int b,σ):=jm (show ace (.ref x) (.int 0) σ=some (.int b) from jm (show nC σ (.ref x)=some [.int b] from jm hg))
 have e1:b4 .Mod (.int b) (.int (.ofNat (j+1))) σ=some (.int (b.fmod (am (j+1))),σ):=rfl
 have e2:b4 .FloorDiv (.int b) (.int (.ofNat (j+1))) σ=some (.int (b.fdiv (am (j+1))),σ):=by
  show od (bif false|| !mz (am (j+1))then none else _) _ _=_
  rw[h1];rfl
 have hset:K7 (.int (b.fdiv (am (j+1)))) (.ref x) (.int 0) σ=some (σ.set x (.lst [.int (b.fdiv (am (j+1)))])):=jm hg
 show ob (y5 [.ref x,.int (.ofNat (j+1))] σ) ir=_
 simp only[y5,dk,fH,jH,bk,kI,pd,fq,lZ,ae,aX,b9,d6,hi,e1,dF,sA,sB,putN,Qx,e2,hset,ek,dI,gB]
@[elab_as_elim] theorem ap1 {β:Type} {a:AV} {Q:AV->Prop} {f:Nat->Nat->Option β} {r:β} (h:drA a f=some r) (kk: ∀c m d vs,f m d=some r->Q (.frz c [m,d] vs)):Q a:=
 s8 h fun c ks vs h=>kJ (Q:=fun ks=>Q (.frz c ks vs)) h fun m l h=>kJ (Q:=fun l=>Q (.frz c (m::l) vs)) h fun d l h=>kS h fun z h=>by rw[PQ z];exact kk c m d vs h
theorem wb(O:qh C mac bx VB)(hF:aF C kF f yY):aF C kF f Bv:=uP hF fun args σ a ai e=>KA e fun a1 b1 e=>iA e fun x e=>ml e fun m e=>F0 e fun kk l hg e=>kS e fun q0 e=>by
 rw[aD q0]at hg
 revert hg
 refine kJ (Q:=fun l=>σ.get x=some (.orc 0 l)->_) e fun t r e=> ?_
 refine ap1 (Q:=fun t=>σ.get x=some (.orc 0 (t::r))->_) e fun eS m' d vs e=> ?_
 refine fun hg=>kS e fun q e=>aE q fun q hs=> ?_
 apply s2 e
 rw[<- aD q]at hg
 refine⟨x,0,_,hg,fun c hc hlt=> ?_⟩
 obtain⟨hv,b,rfl,h3⟩:=(O.bag _ _).mp hc
 rw[show xb bx (.frz eS [m,d] vs::r)=m::d::xb bx r from congrArg (· ++xb bx r) (O.bx2 m d vs)]at h3
 refine ud (h3) fun hm hd hr=> ?_
 have hg1:(σ.set x (.lst [.int b])).get x=some (.lst [.int b]):=eB hg
 exact⟨(σ.set x (.lst [.int b])).set x (.lst [.int (b.fdiv (am m))]),.lst [.int (b.fdiv (am m))],0,r,(akM hg1 hm hs).trans (by rw[hd]),eB hg1,(O.bag _ _).mpr ⟨fun a h=>hv a (aQ _ h),_,rfl,hr⟩,ax _,
  Zq hg fun b d z q=>by rw[tn z,tn z];exact q⟩
theorem aeL(O:qh C mac bx VB){path:Int->List AV}(hp: ∀b,(∀a∈path b,VB a)/\cG (xb bx (path b)) b){F:aW}(hF:aF C kF f F):aF C kF f (afO path F):=fun A R W σ s args vs Re hv tk a ai e=>by
 revert hv
 refine UO e fun b e=> ?_
 refine iA e fun x e=>lstE e fun l hg e=> ?_
 revert hg
 refine UO e fun v e=> ?_
 refine lq e fun b e hg hv=> ?_
 exact hF A R W _ s [.ref x] vs (Re.abst hg ((O.bag _ _).mpr ⟨(hp b).1,b,rfl,(hp b).2⟩)) hv tk a ai e
end
noncomputable def tk(k w:ac)(c:Nat)(a:Bool):AV:=.frz UX [2,1,4,28] [.str k,.str w,.tup [.int 1,.int (am c)],.bool a]
noncomputable def aqM:List Nat:=[112,105,99,116,117,114,101]
noncomputable def wH(a:Bool)(c:Nat):List (List Nat×List Nat×Nat)->List AV
 |[]=>[]
 |(k,w,n)::r=>tk k w c a::wH false (c+n) r
noncomputable def wd(w:ac):List Nat×List Nat×Nat:=(uN,w,w.length+1)
noncomputable def nu(w:ac):List Nat×List Nat×Nat:=(pV,w,w.length+1)
noncomputable def KI:List Nat×List Nat×Nat:=(jo,[46],2)
noncomputable def nT(l:Nat):List Nat:=bif aj l 1 then[48,49]else bif aj l 5 then[48,53]else bif aj l 10 then[49,48]else[55,55]
noncomputable def RV(p:Nat):List (List Nat×List Nat×Nat):=(eo (xZ p) fun s=>some [wd [80,73,67],(aqM,s,s.length+1)]).getD []
noncomputable def Sa(w:Nat):List (List Nat×List Nat×Nat):=bif aj w 1 then[wd [85,83,65,71,69],wd [73,83],wd [80,65,67,75,69,68,45,68,69,67,73,77,65,76]]else[]
noncomputable def RU(w:Nat):List (List Nat×List Nat×Nat):=bif aj w 2 then[wd [79,67,67,85,82,83],nu [51],wd [84,73,77,69,83],wd [68,69,83,67,69,78,68,73,78,71],wd [75,69,89],wd [73,83],wd [75],wd [73,78,68,69,88,69,68],wd [66,89],wd [73,88]]else bif aj w 3 then[wd [79,67,67,85,82,83],nu [48],wd [84,79],nu [52],wd [84,73,77,69,83],wd [68,69,80,69,78,68,73,78,71],wd [79,78],wd [78],wd [79,70],wd [71]]else[]
def ano(lvl:Nat)(x:Nat×Nat×Nat)(a:Bool):List AV:=wH a (bif a then 8 else 12) (nu (nT lvl)::wd (nm x.1)::(RV x.2.2++(Sa x.2.1++(RU x.2.1++[KI]))))
def kv(lvl:Nat)(x:Nat×Nat×Nat):List AV:=ano lvl x (bif aj lvl 1 then true else aj lvl 77)
def fF(n:Nat):List AV:=wH false 12 [nu [56,56],wd ([73,83,45]++nm n),wd [86,65,76,85,69],(jo,[45],1),nu [53],wd [84,72,82,85],nu [49,46,50,53],(Yy,[113],4),KI]
def gF(n l:Nat):List AV:=wH false 12 ([nu [54,54],wd (nm n),wd [82,69,78,65,77,69,83],wd (nm 16)]++((bif aj l 0 then[]else[wd [84,72,82,85],wd (nm 22)])++[KI]))
def kL(t:ac)(a:Bool):Option (List AV):=bD (rJ [.str t,.bool a] ⟨0,[]⟩) fun x σ=>io x fun x=>np σ x some
def uO(x:AV)(a:Bool):Option (List AV):=bD (BF [x] ⟨0,[]⟩) fun t _=>eo t fun t=>kL t a
def vQ(r n:Nat)(cells:List (Nat×bJ))(x:Option (AV×AS)):Option (AV×AS):=bD x fun a ai=>sz ai 0 fun k' l'=>bif FY 0 (wJ a ai)then none else imp (XO r n (wJ a ai)) (wJ a ai) n (ly r (.orc k' l') cells) a ai
theorem t1(c k p:AV):uO (.frz cp gk (.int (am 10)::kb (16,2,1) c k p .none)) false=some (kv 10 (16,2,1)):=by kernel_rfl
theorem t2(r n cells rest):vQ r n cells (lG [.ref 0] ⟨1,[(0,.orc 1021 (kv 10 (16,2,1)++rest))]⟩)=some (.ref (n+2),⟨n+3,(n,.lst [])::(n+1,.lst [])::(n+2,.inst cp gk (.int (am 10)::kb (16,2,1) (.ref n) (.ref (n+1)) .none .none))::ly r (.orc 1021 rest) cells⟩):=by kernel_rfl
section
open PySem.SeqAt
noncomputable section
noncomputable def zi(as:List aC)(h:bM):dL:=as.filterMap fun a=>(h.get? a).map (a,·)
def nsO(K:dL)(x:Str)(f:Option ah->Bool):Bool:=CZ (nsIn K 3 x) f
def Hv(K:dL)(x:Str)(v:ah):Bool:=nsO K x fun o=>decide (some v=o)
def frB(K:dL)(r:FR):Bool:=fnB K FN r.f r.n r.dfl r.nm r.N r.t&&(keepIn K (.ref r.f)&&bo (motive:=fun _=>Bool) true (fun x=>Hv K x (.ref r.f)) r.x)
def crB(K:dL)(r:CR):Bool:=makesIn K r.c&&(decide (findIn K (.ref r.c) "__init__"=some (some (.ref r.i)))&&(decide (typeIn K (.ref r.i)=some (.type "function"))&&(keepIn K (.ref r.c)&&(Hv K r.x (.ref r.c)&&(cB FN.length).all fun i=>SH r.c i||IG K r.c ((Ao FN i).getD "")))))
noncomputable def mrB(K:dL)(r:MR):Bool:=plainGet K r.c r.x&&(decide (findIn K (.ref r.c) r.x=some (some (.ref r.f)))&&(decide (typeIn K (.ref r.f)=some (.type "function"))&&keepIn K (.ref r.f)))
def grB(K:dL)(r:GR):Bool:=nsO K r.x fun o=>CZ o fun v=>kV K v r.a
def blB(K:dL)(x:Str):Bool:=nsO K x (·.isNone)
def Qo(K:dL)(x:Str):Bool:=nsO K x (·.isSome)
def Zr(K:dL):Bool:=qj.all (frB K)&&(y9.all (crB K)&&(Kz.all (mrB K)&&(O5.all (grB K)&&(UM.all (blB K)&&(Qo K "show_expression" &&(Qo K "no_expression" &&(keepIn K (.ref 112)&&Hv K "GrammarFault" (.ref 112))))))))
structure rH(C:PC):Prop where
 ok:Zr C.K=true
 nf:C.nf=FN.length
 fn: ∀i x,Ao FN i=some x->C.fname i=x
 cls: ∀r∈y9,C.cls r.c=true
 name: ∀l c,C.conc 1021 l c-> ∃vs,c= .inst 1021 [38,4,37,36] vs
 gf: ∀k,5<=k->aF C (k+1) (.ref 112) Wl
 un:ni C "USAGE_NAMES" BD
 uw:ni C "USAGE_WORDS" tX
 rs:ni C "RESERVED" lF
section
variable{C:PC}{k:Nat}
theorem CX{α:Type}{p:α->Bool}{l:List α}(h:l.all p=true){i:Nat}{r:α}(e:l[i]? =some r):p r=true:=bZ.mp h r (bb e)
theorem aaA{l:List Str}: ∀{i:Nat},i<l.length-> ∃x,Ao l i=some x/\x∈l:=by
 induction l with
 |nil=>exact fun h=>absurd h (iw _)
 |cons a l ih=>
  intro i h
  cases i with
  |zero=>exact⟨a,rfl,bf ..⟩
  |succ i=>exact(ih (m8 h)).imp fun x h=>⟨h.1,aQ _ h.2⟩
theorem aiz{l:List Str}: ∀{i:Nat} {x:Str},Ao l i=some x->i<l.length:=by
 induction l with
 |nil=>exact fun e=>nn e
 |cons a l ih=>
  intro i x e
  cases i with
  |zero=>exact hJ _
  |succ i=>exact Nat.succ_lt_succ (ih e)
theorem aiy{x:Str}{r:Option ah}(e:nsIn C.K 3 x=some r):C.mg x=r:=by
 refine Xq (C.g) fun o es ep h1 h2 h3 h4=> ?_
 have h1:C.pe.get? 3=some o:=h1
 unfold nsIn at e
 split at e
 ·rename_i c d es' n sl ho
  have:=C.inK _ _ ho
  rw[h1]at this;cases this
  cases h2
  rw[<- h4]
  unfold nsFind findBy
  rw[<- Array.find?_toList]
  split at e
  ·rename_i en he;cases e;rw[he];rfl
  ·rename_i he
   rw[he]
   split at e
   ·cases e
   ·cases e;rfl
 ·cases e
theorem Yb{x:Str}{f:Option ah->Bool}(h:nsO C.K x f=true){P:Prop}(kk: ∀o,C.mg x=o->f o=true->P):P:=Jg h fun o ho h=>kk o (aiy ho) h
theorem Je{x:Str}{v:ah}(h:Hv C.K x v=true):C.mg x=some v:=Yb h fun o ho h=>ho.trans (ag h).symm
section
variable(O:rH C)
include O
theorem rH.partE{P:Prop}(kk:qj.all (frB C.K)=true->y9.all (crB C.K)=true->Kz.all (mrB C.K)=true->O5.all (grB C.K)=true->UM.all (blB C.K)=true->Qo C.K "show_expression"=true->Qo C.K "no_expression"=true->keepIn C.K (.ref 112)=true->Hv C.K "GrammarFault" (.ref 112)=true->P):P:=
 aE O.ok fun h1 h=>aE h fun h2 h=>aE h fun h3 h=>aE h fun h4 h=>aE h fun h5 h=>aE h fun h6 h=>aE h fun h7 h=>aE h fun h8 h9=>kk h1 h2 h3 h4 h5 h6 h7 h8 h9
theorem rH.fno:Si C FN:=fun i x e=>⟨by rw[O.nf];exact aiz e,O.fn i x e⟩
theorem rH.gr{i:Nat}{x:Str}{a:AV}(e:O5[i]? =some ⟨x,a⟩):ni C x a:=O.partE fun _ _ _ h _ _ _ _ _=>Yb (CX h e) fun o ho h=>Jg h fun v hv h=>lV (ho.trans hv) fun W hW=>Tf hW h
omit O in
theorem acw{x:Str}(h:Qo C.K x=true):ni C x .opq:=Yb h fun o ho h=>(fg.mp h).elim fun v hv=>lV (ho.trans hv) fun W hW=>trivial
end
structure Cl(C:PC)(x:Str)(fv:ah):Prop where
 g:ni C x (.glob fv)
 k:oU C fv
theorem rH.show(O:rH C):ni C "show_expression" .opq:=O.partE fun _ _ _ _ _ h _ _ _=>acw h
theorem rH.noe(O:rH C):ni C "no_expression" .opq:=O.partE fun _ _ _ _ _ _ h _ _=>acw h
section
variable(O:rH C)
include O
theorem rH.bl{i:Nat}{x:Str}{v:ah}(e:UM[i]? =some x)(hn:x≠ "__name__")(hv:bootBuiltins x=some v)(hk:oU C v):Cl C x v:=O.partE fun _ _ _ _ h _ _ _ _=>Yb (CX h e) fun o ho h=>⟨TN (ho.trans (dG.mp h)) hn hv,hk⟩
theorem rH.frE{i:Nat}{r:FR}(e:qj[i]? =some r){P:Prop}(kk:fnB C.K FN r.f r.n r.dfl r.nm r.N r.t=true->keepIn C.K (.ref r.f)=true->(∀x,r.x=some x->C.mg x=some (.ref r.f))->P):P:=O.partE fun h _ _ _ _ _ _ _ _=>aE (CX h e) fun h1 h=>aE h fun h2 h=>kk h1 h2 fun x hx=>by
 rw[hx]at h
 exact Je h
theorem rH.cf{i:Nat}{r:FR}(e:qj[i]? =some r){x:Str}(hx:r.x=some x):Cl C x (.ref r.f):=O.frE e fun _ h2 h3=>⟨lV (h3 x hx) fun W _=>rfl,rk h2⟩
theorem rH.cr{i:Nat}{r:CR}(e:y9[i]? =some r):Cl C r.x (.ref r.c)/\ ∀{F:aW},pS C k (.ref r.i) F->aF C (k+1) (.ref r.c) (uu r.c F):=O.partE fun _ h _ _ _ _ _ _ _=>aE (CX h e) fun h1 h=>aE h fun h2 h=>aE h fun h3 h=>aE h fun h4 h=>aE h fun h5 h6=>
 ⟨⟨lV (Je h5) fun W _=>rfl,rk h4⟩,fun hF=>aeM h1 (ag h2) (ag h3) (O.cls _ (bb e)) hF⟩
theorem rH.gfc:Cl C "GrammarFault" (.ref 112):=O.partE fun _ _ _ _ _ _ _ h1 h2=>⟨lV (Je h2) fun W _=>rfl,rk h1⟩
end
def Ze(C:PC)(l:List (Str×AV)):Prop:= ∀g x a,pU l g=some (x,a)->ni C x a
def Ol(C:PC)(k:Nat)(l:List (Str×aW)):Prop:= ∀f x F,pU l f=some (x,F)-> ∃fv kF,ni C x (.glob fv)/\oU C fv/\aF C kF fv F/\kF<=k
def Zh(C:PC)(k:Nat)(l:List (Str×gR)):Prop:= ∀n x D,pU l n=some (x,D)-> ∃kF,d7 C kF x D/\kF<=k
theorem g0:Ze C []:=fun _ _ _ e=>nn e
theorem f0:Ol C k []:=fun _ _ _ e=>nn e
theorem m0:Zh C k []:=fun _ _ _ e=>nn e
theorem Hw{α:Type}{p:Str×α}{l:List (Str×α)}{i:Nat}{x:Str}{a:α}{Q:Str->α->Prop}(e:pU (p::l) i=some (x,a))(h:Q p.1 p.2)(r: ∀i x a,pU l i=some (x,a)->Q x a):Q x a:=by
 cases i with
 |zero=>exact s2 (P:=Q) (a:=p.1) (b:=p.2) e h
 |succ i=>exact r i x a e
theorem g1{x:Str}{a:AV}{l:List (Str×AV)}(h:ni C x a)(r:Ze C l):Ze C ((x,a)::l):=fun _ _ _ e=>Hw (Q:=ni C) e h r
theorem f1{x:Str}{F:aW}{fv:ah}{kF:Nat}{l:List (Str×aW)}(c:Cl C x fv)(h:aF C kF fv F)(hk:kF<=k)(r:Ol C k l):Ol C k ((x,F)::l):=fun _ _ _ e=>Hw (Q:=fun x F=> ∃fv kF,ni C x (.glob fv)/\oU C fv/\aF C kF fv F/\kF<=k) e ⟨fv,kF,c.g,c.k,h,hk⟩ r
theorem m1{x:Str}{D:gR}{kF:Nat}{l:List (Str×gR)}(h:d7 C kF x D)(hk:kF<=k)(r:Zh C k l):Zh C k ((x,D)::l):=fun _ _ _ e=>Hw (Q:=fun x D=> ∃kF,d7 C kF x D/\kF<=k) e ⟨kF,h,hk⟩ r
theorem aoj(O:rH C){i:Nat}{r:FR}(e:qj[i]? =some r)(hk:5<=k){G:List (Str×AV)}{Fs:List (Str×aW)}{M:List (Str×gR)}(hN:cF.nms ⟨G,Fs,M⟩=r.N){Q:SM}(q:Q=cg ⟨G,Fs,M⟩ r.t)(hG:Ze C G)(hF:Ol C k Fs)(hM:Zh C k M):
  pS C (k+1) (.ref r.f) (bn r.n r.dfl Q):=by
 subst q
 exact O.frE e fun h _ _=>adN hk O.fno (Γ:=⟨G,Fs,M⟩) ⟨hG,hF,hM⟩ (hN▸h)
theorem adO(O:rH C){x:Str}(h:FN.all (fun y=>y !=x)=true): ∀i,i<C.nf->C.fname i≠x:=fun i hi=>by
 rw[O.nf]at hi
 refine eX (aaA hi) fun y e m=> ?_
 rw[O.fn i y e]
 exact bne_iff_ne.mp (bZ.mp h y m)
theorem rH.mrE(O:rH C){i:Nat}{r:MR}(e:Kz[i]? =some r){P:Prop}(kk:plainGet C.K r.c r.x=true->findIn C.K (.ref r.c) r.x=some (some (.ref r.f))->typeIn C.K (.ref r.f)=some (.type "function")->keepIn C.K (.ref r.f)=true->P):P:=
 O.partE fun _ _ h _ _ _ _ _ _=>aE (CX h e) fun h1 h=>aE h fun h2 h=>aE h fun h3 h4=>kk h1 (ag h2) (ag h3) h4
theorem rH.mr(O:rH C){i:Nat}{r:MR}(e:Kz[i]? =some r){j:Nat}{cr:CR}(ec:y9[j]? =some cr)(hc:cr.c=r.c)(hx:FN.all (fun y=>y !=r.x)=true){F:aW}{G:gR}(hF:aF C k (.ref r.f) F)(hG:d7 C k r.x G):d7 C k r.x (fm r.c F G):=
 O.mrE e fun h1 h2 h3 h4=>aeJ (hc▸O.cls _ (bb ec)) (adO O hx) h1 h2 h3 h4 hF hG
theorem rH.mro(O:rH C){i:Nat}{r:MR}(e:Kz[i]? =some r)(hc:r.c=1021)(hx: ∀i∈[38,4,37,36],C.fname i≠r.x){F:aW}(hF:aF C k (.ref r.f) F):d7 C k r.x (anu r.c F):=fun W σ h a v F' R hv e'=>O.mrE e fun h1 h2 h3 h4=>by
 rw[hc]at h1 h2 e'
 revert hv
 refine iA e' fun y e'=>F0 e' fun d l hgt e'=>kS e' fun z e'=> ?_
 apply s1 e'
 rw[<- aD z]at hgt
 rintro⟨p,q,rfl⟩
 obtain⟨p',ep,⟨cc,q1,q2⟩,_⟩:=R.cell _ _ hgt
 rw[q]at ep;cases ep
 obtain⟨vs0,rfl⟩:=O.name _ _ q1
 obtain⟨q0,q1,es,n,vs,q2,r',z⟩:=q2
 refine⟨.ref r.f,fun A s pl E Q hs hq=> ?_,rk h4,hF⟩
 subst hs
 refine method_fn R.K (I:=(⟨R.im _ _ q1,rfl,rfl,q2⟩:InstAt s.heap p.1 (instObj 1021 p.2) 1021 (some (dictOf es n)))) (qC h1).1 (qC h1).2 h2 h3 ?_ hq
 show(lookIn r.x (dictOf es n)).map _=_
 rw[lookIn_dict,Ti (fun i hi _=>hx i hi) z];rfl
theorem pG{kF:Nat}{f:ah}{F F':aW}(hF:aF C kF f F)
  (H: ∀args σ a ai,F' args σ=some (a,ai)-> ∃r kk l,σ.get r=some (.orc kk l)/\((∃c,C.conc kk l c)->(∀b d,σ.get b=some d->b<σ.next)-> ∃bC,(∀c,C.conc kk l c->C.conc kk bC c)/\F args (σ.set r (.orc kk bC))=some (a,ai))):aF C kF f F':=fun A Rm W σ s args vs Re hv tk a ai e=>by
 obtain⟨r,kk,l,hr,h1⟩:=H args σ a ai e
 obtain⟨p,a1,⟨c,q1,q2⟩,_⟩:=Re.cell r _ hr
 refine eX (h1 ⟨c,q1⟩ fun b d hb=>Nat.lt_of_not_le fun q=>(Re.cell b _ hb).elim fun p h=>nn ((Re.fresh b q).symm.trans h.1)) fun bC h1 e1=> ?_
 have hc:d5 C W s.heap p (.orc kk bC):=⟨c,h1 c q1,q2⟩
 exact hF A Rm W _ s args vs (Re.set hr a1 (fun _ _ _ e=>e) hc) hv tk a ai e1
theorem aeO{kF:Nat}{f:ah}{mac:List Nat->List AV}{bx:List Nat->List AV->List Nat}{VB:AV->Prop}(R:qh C mac bx VB){lab:List AV->List AV}(hl: ∀L c,lM mac L c->lM mac (lab L) c)(hF:aF C kF f oZ):aF C kF f (mf lab):=pG hF fun args σ a ai e=>nZ e fun r as L hL e=>An e fun e=>
 ⟨r,1021,L,hL,fun _ _=>⟨lab L,fun c hc=>(R.rdr _ _).mpr (hl _ _ ((R.rdr _ _).mp hc)),e⟩⟩
end
end
end
section
open PySem.SeqAt
open Sem (wp)
noncomputable section
noncomputable def ub:List ah:=[.ref 75,.type "Exception",.type "BaseException",.type "object"]
section
variable{M:lc}{prog:fZ}{w:d4}{A:b5}{E:ah->az->Prop}{h:bM}{g:Array yH}{d:Drawn}{t:Nat}{os:n8}
variable{nm q:Str}{N:aC}{bs:List ah}{hdct:Bool}{sn:List Str}{sub:List ah}{ab:Bool}{col:Option Bool}{dd:Option aC}{k0 k1 k2 k3 k5:Option ah}
theorem PJ:(oa 112::ub).contains (.type "Exception")=true:=by decide +kernel
theorem RS{rest:List ah}{Q:Unit->az->Prop}(hC:h.get? 112=some (excClassObj nm q 112 N bs ub hdct sn sub ab col dd k0 k1 k2 k3 k5 "Exception.__new__"))(hq:Q () ⟨h,g,d,t,os⟩):wpAny M A (checkBuiltinCall "Exception.__new__" ⟨.ref 112::rest,[]⟩) Q E ⟨h,g,d,t,os⟩:=by
 have F:=gA
 have hcont:=PJ
 have hstar:=F.noStar
 simp only[checkBuiltinCall,F.newKind,F.newSplit,F.newRow]
 repeat (first|refine gO hC ?_|(refine k7 hC ?_;rw[hcont])|refine wpAny_staticBase_exc hC ?_|refine GB hC ?_|simp only[bne_self_eq_false,Bool.false_eq_true,if_false]|wp_step)
 exact hq
theorem alY{R:tM->az->Prop}{rest:List ah}(hC:h.get? 112=some (excClassObj nm q 112 N bs ub hdct sn sub ab col dd k0 k1 k2 k3 k5 "Exception.__new__"))
  (hq:R (.ok (.ret (.ref (h.objs.size+1)))) ⟨(h.push {cls:=.type "tuple",data:=.seq rest.toArray}).push {cls:=.ref 112,data:=.fields #[.ref h.objs.size,.none,.none,.none,.bool false,.none]},g,d,t,os⟩)(hrest:rest.length<=sizeLine):
  codeAny (model prog w) A (.builtin "Exception.__new__" ⟨.ref 112::rest,[]⟩) R ⟨h,g,d,t,os⟩:=by
 have F:=gA
 have hends:=F.ends
 have hcB:=PJ
 have hcA:(oa 112::ub).contains (.type "AttributeError")=false:=by decide +kernel
 have hcN:(oa 112::ub).contains (.type "NameError")=false:=by decide +kernel
 refine codeAny_builtinAt F.entry ?_
 unfold Builtin.«BaseException.__new__»
 refine H6 ?_
 show PySem.wpAt _ _ _ (stack>>=_) _ _ _
 refine H6 (PySem.wpAt_stack fun p below=>Be ?_)
 wp_walk
 refine Be ?_
 rw[F.owner]
 repeat (first|with_reducible refine wpAny_madeHere_exc F.canon hC ?_|with_reducible refine gO hC ?_|(with_reducible refine k7 hC ?_;first|rw[hcB]|rw[hcA]|rw[hcN])|wp_step)
 show R _ _
 rw[pY]
 exact hq
theorem RT{K:dL}(X:K.In h)(hi:findIn K (.ref 112) "__init__"=some (some (.ref 65)))(hf:typeIn K (.ref 65)=some (.type "function")){rest:List ah}{Q:Fin->az->Prop}
  (hC:h.get? 112=some (excClassObj nm q 112 N bs ub hdct sn sub ab col dd k0 k1 k2 k3 k5 "Exception.__new__"))
  (hq: ∀h' e,J6 h h' e (.ref 112) rest->wpAny (model prog w) A (call (.ref 65) (.ref e::rest)) (fun r s'=>r= .none/\Q (.done (.ret (.ref e))) s') E ⟨h',g,d,t,os⟩)(hrest:rest.length<=sizeLine):
  wpAny (model prog w) A (Builtin.«type.__call__» ⟨.ref 112::rest,[]⟩) Q E ⟨h,g,d,t,os⟩:=by
 have F:=gA
 repeat (first|with_reducible refine gO hC ?_|with_reducible refine GB hC ?_|wp_step)
 refine codeAny_call_builtin_code (Bi _ F.quiet) (RS hC ?_)
 refine alY hC ?_ hrest
 show wpAny _ _ _ _ _ _
 have kk: ∀b o,h.get? b=some o->((h.push {cls:=.type "tuple",data:=.seq rest.toArray}).push {cls:=.ref 112,data:=.fields #[.ref h.objs.size,.none,.none,.none,.bool false,.none]}).get? b=some o:=fun b o e=>bH _ (bH _ e)
 have PL:=kk _ _ hC
 have ana:K.In ((h.push {cls:=.type "tuple",data:=.seq rest.toArray}).push {cls:=.ref 112,data:=.fields #[.ref h.objs.size,.none,.none,.none,.bool false,.none]}):=fun a o e=>kk _ _ (X a o e)
 have hget:((h.push {cls:=.type "tuple",data:=.seq rest.toArray}).push {cls:=.ref 112,data:=.fields #[.ref h.objs.size,.none,.none,.none,.bool false,.none]}).get? (h.objs.size+1)=some {cls:=.ref 112,data:=.fields #[.ref h.objs.size,.none,.none,.none,.bool false,.none]}:=by heap_get
 have hcC:(oa 112::ub).contains (.ref 112)=true:=by decide +kernel
 unfold isInstance
 repeat (first|with_reducible refine gO hget ?_|(with_reducible refine k7 PL ?_;rw[hcC])|wp_step)
 show wpAny _ _ (typeLookup (.ref 112) _) _ _ _
 refine(tQ ana hi).here ?_
 refine dJ (aq ?_)
 refine(bind_fn ana _ hf).here ?_
 refine(aq (jw (hq _ (h.objs.size+1) ⟨fun b o hb=>kk b o hb,yI (cR _),h.objs.size,hget,yI (ax _),?_⟩) (fun r s' hr=> ?_) fun _ _ x=>x))
 ·exact bH _ (ES rfl rfl)
 ·obtain⟨rfl,hQ⟩:=hr
  wp_walk
  exact hQ
theorem ahC{K:dL}(X:K.In h)(hi:findIn K (.ref 112) "__init__"=some (some (.ref 65)))(hf:typeIn K (.ref 65)=some (.type "function")){rest:List ah}{Q:ah->az->Prop}
  (hC:h.get? 112=some (excClassObj nm q 112 N bs ub hdct sn sub ab col dd k0 k1 k2 k3 k5 "Exception.__new__"))
  (hq: ∀h' e,J6 h h' e (.ref 112) rest->wpAny (model prog w) (A.under (.builtin "type.__call__" ⟨.ref 112::rest,[]⟩)) (call (.ref 65) (.ref e::rest)) (fun r s'=>r= .none/\Q (.ref e) s') E ⟨h',g,d,t,os⟩)(hrest:rest.length<=sizeLine):
  wpAny (model prog w) A (call (.ref 112) rest) Q E ⟨h,g,d,t,os⟩:=by
 have f1:=tc_lookup
 have f2:=tc_bind (.ref 112)
 have hT:(⟨h,g,d,t,os⟩:az).TypeIs (.ref 112) "type":=⟨_,hC,rfl⟩
 refine oP (H8 ?_)
 show wpAny _ _ (callAny (.ref 112) _) _ _ _
 repeat (any_goals (first|assumption|with_reducible refine gO hC ?_|wp_step))
 refine⟨rfl,?_⟩
 refine codeAny_call_builtin_at (Bi _ (by decide +kernel)) entry_typeCall (wpAny_check_type_call_sub hC (RT X hi hf hC (fun h' e hm=> ?_) hrest))
 exact hq h' e hm
end
end
end
section
open PySem.SeqAt
open Sem (wp)
noncomputable section
section
variable{M:lc}{prog:fZ}{w:d4}{A:b5}{E:ah->az->Prop}{h:bM}{g:Array yH}{d:Drawn}{t:Nat}{os:n8}
variable{nm q:Str}{N:aC}{bs:List ah}{hdct:Bool}{sn:List Str}{sub:List ah}{ab:Bool}{col:Option Bool}{dd:Option aC}{k0 k1 k2 k3 k5:Option ah}
abbrev Va(t0:aC)(dx:Option aC):Obj:={cls:=.ref 112,dict:=dx,data:=.fields #[.ref t0,.none,.none,.none,.bool false,.none]}
theorem PH{e:aC}{oe:Obj}{rest:List ah}{Q:Unit->az->Prop}(hC:h.get? 112=some (excClassObj nm q 112 N bs ub hdct sn sub ab col dd k0 k1 k2 k3 k5 "Exception.__new__"))(he:h.get? e=some oe)(hcls:oe.cls= .ref 112)(hq:Q () ⟨h,g,d,t,os⟩):
  wpAny M A (checkBuiltinCall "Exception.__init__" ⟨.ref e::rest,[]⟩) Q E ⟨h,g,d,t,os⟩:=by
 have F:=gA
 have hcB:=PJ
 have hshort:=F.noStar
 simp only[checkBuiltinCall,F.initKind,F.initSplit,F.initRow]
 repeat (first|(with_reducible refine gO he ?_;rw[hcls])|with_reducible refine gO hC ?_|(with_reducible refine k7 hC ?_;rw[hcB])|wp_step)
 refine wpAny_onRaise ?_
 rw[show ∀(a b:String) (n:Nat),Bind.check ⟨.positional,"*","Exception",.self,[⟨"args",.varPos,false⟩]⟩ a b n (N3 (fun x=>x.fst) ({pos:=oa e::rest}:Args).kw)=pure () from
  fun a b n=>check_star_args _ _ _ _ _ _]
 exact aL hq
theorem ahE{e t0:aC}{v:ah}{Q:ah->az->Prop}(hC:h.get? 112=some (excClassObj nm q 112 N bs ub hdct sn sub ab col dd k0 k1 k2 k3 k5 "Exception.__new__"))(he:h.get? e=some (Va t0 none))
  (hq: ∀h',h'.get? e=some (Va h.objs.size none)->(∀b o,b≠e->h.get? b=some o->h'.get? b=some o)->Q .none ⟨h',g,d,t,os⟩):
  wpAny (model prog w) A (call (.builtin "Exception.__init__") [.ref e,v]) Q E ⟨h,g,d,t,os⟩:=by
 have F:=gA
 refine oP (oO F.init.plain F.initEntry (PH hC he rfl ?_))
 unfold Builtin.«BaseException.__init__»
 dsimp only
 rw[if_neg (by simp)]
 unfold newTuple J5
 have Z7:=bH (h:=h) {cls:=.type "tuple",data:=.seq #[v]} he
 refine aq (fO (aq (aq (wpAny_field Z7 rfl rfl (aq (wpAny_setField Z7 rfl (by show 0<6;decide) ?_))))) (by size_fits))
 refine wpAny_letGo (aL ?_)
 refine hq _ ?_ fun b o hb hbo=> ?_
 ·rw[jT _ Z7 rfl];rfl
 ·rw[Heap.get?_update_other _ _ (tu hb)];exact bH _ hbo
end
end
end
section
open PySem.SeqAt
open Sem (wp)
open PySem.Builtin PySem.Builtin.ObjectAttr
noncomputable section
section
variable{M:lc}{prog:fZ}{w:d4}{A:b5}{E:ah->az->Prop}{s:az}{K:dL}{x:aC}{ox:Obj}{od:Option Obj}{cd:Lx}{name:Str}{tk:Tok}{v:ah}
theorem alX(hc:clsIn K 112=some cd)(hm:cd.mro= .ref 112::ub):mroIn K 112 (.type "object")=some true:=by
 unfold mroIn
 rw[hc,nN,hm]
 decide +kernel
theorem ab7{R:tM->az->Prop}(X:K.In s.heap)(I:InstAt s.heap x ox 112 od)(hc:clsIn K 112=some cd)(hm:cd.mro= .ref 112::ub)(ht:takerIn K 112 name=some none)
  (h: ∀b,wpAny (model prog w) A.in1 (storeInOwnDict (.ref x) (.ref 112) (.str name tk) name v b) (fun fin s'=>match fin with| .done f=>R (.ok f) s'| .again c'=>c'.quiet=true/\codeAny (model prog w) A c' R s') (fun e s'=>R (.error e) s') s):
  codeAny (model prog w) A (.call (.builtin "object.__setattr__") ⟨[.ref x,.str name tk,v],[]⟩) R s:=by
 have SF:=PySem.F.store_object
 have sub:H3 (model prog w) s.heap (isInstance (.ref x) (.type "object")) true:=I.type.andThen (looks_mroIn X (alX hc hm))
 refine oO SF.slot.plain SF.entry (@check_slot (model prog w) _ _ s "object.__setattr__" "object" "__setattr__" (.ref x) [.str name tk,v] [] _ SF.kind SF.split sub (SF.args (.ref x) (.str name tk) v) ?_)
 obtain⟨attr,ha,hr⟩:=Option.bind_eq_some_iff.mp ht
 have hmr:H3 (model prog w) s.heap (mroOf (.ref 112)) cd.mro:=(wv X hc).andThen .now
 have L3:H3 (model prog w) s.heap (storeTaker? attr) none:=by
  cases attr with
  |none=>exact .now
  |some a=>
   obtain⟨b,hb,e⟩:=hY.mp hr
   refine(looks_takesIn X hb).andThen ?_
   cases b with
   |true=>exact nn e.symm
   |false=>exact .now
 rw[osa_eq,refuse_eq]
 refine aq (aq (I.type.here (aq (hmr.here ?_))))
 rw[hm,ub,Kd,Kd,PySem.F.store_Exception.passes]
 refine aL (aq (I.type.here (aq ((tQ X ha).here (aq (L3.here ?_))))))
 exact h _
theorem ab8{d:aC}{m:Str->Option ah}{ns:List Str}{Q:PySem.Fin->az->Prop}(hns:s.heap.Ns1 d m)(hw:Within m ns)(hz:ns.length<=100)
  (h: ∀h',h'.Ns1 d (fun y=>if y=name then some v else m y)->i7 d s.heap h'->Q (.done (.ret .none)) {s with heap:=h',toks:=s.toks+1}):wpAny M A (storeInDict d (.str name tk) name v) Q E s:=by
 unfold storeInDict newKeyGuard
 refine aq (aL (aq (wpAny_nsSet1 hns fun h' hn' hs=> ?_)))
 obtain⟨oD,esD,epD,hoD,hdD,hcD⟩:=hn'.count (Rl name v hw)
 refine aq (GA hoD (by rw[hdD];exact Gw (au hcD (by rw[bQ,jE];omega))) ?_)
 exact aL (h h' hn' hs)
theorem ahF{t0:aC}{Q:Unit->az->Prop}(X:K.In s.heap)(he:s.heap.get? x=some (Va t0 none))(hs:findIn K (.ref 112) "__setattr__"=some (some (.builtin "object.__setattr__")))(hc:clsIn K 112=some cd)(hm:cd.mro= .ref 112::ub)(hh:cd.hasDict=true)(ht:takerIn K 112 name=some none)
  (h: ∀h' d,d≠x->s.heap.get? d=none->h'.get? x=some (Va t0 (some d))->h'.Ns1 d (fun y=>if y=name then some v else none)->(∀b o,b≠x->s.heap.get? b=some o->h'.get? b=some o)->Q () {s with heap:=h',toks:=s.toks+2}):wpAny (model prog w) A (setAttr (.ref x) name v) Q E s:=by
 have I:InstAt s.heap x (Va t0 none) 112 none:=⟨he,rfl,rfl,trivial⟩
 refine Lz X I hs (ab7 (s:={s with toks:=s.toks+1}) X I hc hm ht fun b=> ?_)
 refine aq (aL (aq (aq (qa he (aq (wv X hc _ _ _ _ (fun _ _ e=>e) ?_))))))
 rw[hh]
 have hxs:x≠s.heap.objs.size:=ct (cv he)
 have ahS:(s.heap.push {cls:=.type "dict",data:=.dict #[]}).get? x=some (Va t0 none):=bH _ he
 show wpAny _ _ (do
  let d <- alloc {cls:=.type "dict",data:=.dict #[]}
  update x fun o=>{o with dict:=some d}
  dictMade (.ref 112) x d) _ _ _
 refine aq (wpAny_alloc' ?_)
 refine aq (wpAny_update' ahS ?_)
 refine aL ?_
 have hgd:((s.heap.push {cls:=.type "dict",data:=.dict #[]}).update x fun o=>{o with dict:=some s.heap.objs.size}).get? s.heap.objs.size=some {cls:=.type "dict",data:=.dict #[]}:=
  (A8 _ _ _ _ hxs.symm).trans (ES rfl rfl)
 have hnd:((s.heap.push {cls:=.type "dict",data:=.dict #[]}).update x fun o=>{o with dict:=some s.heap.objs.size}).Ns s.heap.objs.size (fun _=>none):=
  ⟨_,#[],_,hgd,rfl,fun e he=>absurd he (by simp),fun _=>rfl⟩
 refine aq (aL ?_)
 show wpAny _ _ (storeInDict s.heap.objs.size (.str name s.toks) name v) _ _ _
 refine ab8 (s:={s with heap:=(s.heap.push {cls:=.type "dict",data:=.dict #[]}).update x fun o=>{o with dict:=some s.heap.objs.size},toks:=s.toks+1}) (Heap.Ns1.of_empty hnd) Un (aU _) fun h' hn' hs'=> ?_
 refine h h' s.heap.objs.size hxs.symm (tx _) ?_ hn' fun b o hb ho=> ?_
 ·exact(hs'.2 x hxs).trans (jT _ ahS rfl)
 ·exact(hs'.2 b (ct (cv ho))).trans ((A8 _ _ _ _ hb).trans (bH _ ho))
theorem ahG{t0 d:aC}{m:Str->Option ah}{ns:List Str}{Q:Unit->az->Prop}(X:K.In s.heap)(he:s.heap.get? x=some (Va t0 (some d)))(hns:s.heap.Ns1 d m)(hw:Within m ns)(hz:ns.length<=100)(hs:findIn K (.ref 112) "__setattr__"=some (some (.builtin "object.__setattr__")))(hc:clsIn K 112=some cd)(hm:cd.mro= .ref 112::ub)(hh:cd.hasDict=true)(ht:takerIn K 112 name=some none)
  (h: ∀h',i7 d s.heap h'->Q () {s with heap:=h',toks:=s.toks+2}):wpAny (model prog w) A (setAttr (.ref x) name v) Q E s:=by
 obtain⟨o,es,ep,ho,r⟩:=id hns
 have I:InstAt s.heap x (Va t0 (some d)) 112 (some o):=⟨he,rfl,rfl,ho⟩
 refine Lz X I hs (ab7 (s:={s with toks:=s.toks+1}) X I hc hm ht fun b=> ?_)
 refine aq (aL (aq (aq (qa he (aq (wv X hc _ _ _ _ (fun _ _ e=>e) ?_))))))
 rw[hh]
 refine aL (a:=some d) (aq (aL ?_))
 show wpAny _ _ (storeInDict d (.str name s.toks) name v) _ _ _
 exact ab8 (s:={s with toks:=s.toks+1}) hns hw hz fun h' _ hs'=>h h' hs'
end
end
end
section
open PySem.SeqAt
open Sem (wp)
noncomputable section
section
variable{C:PC}{X:FX}{k:Nat}{W W':Wd}{fr:Fm}{σ:AS}{s:az}{A:b5}{E:ah->az->Prop}{K:dL}
theorem ahD{prog:fZ}{w:d4}{pl:Sem Bool}{Q:ah×List ah->az->Prop}(X:K.In s.heap)(h:Q (.builtin "Exception.__init__",[]) {s with toks:=s.toks+1}):wpAny (model prog w) A (getMethod (.type "Exception") "__init__" pl) Q E s:=by
 have ht:typeOf (.type "Exception")=pure (.type "type"):=by kernel_rfl
 have hs:Manifest.isStub "Exception"=false:=by decide +kernel
 have e:findCls K (.type "Exception") (.type "type") "__init__"=some (.val (.builtin "Exception.__init__")):=by kernel_rfl
 have hh:handedIn (.builtin "Exception.__init__")=true:=by decide +kernel
 have hstub:opaqueClassAbove (.type "Exception")=pure none:=by unfold opaqueClassAbove;dsimp only;rw[hs];rfl
 have L0:H3 (model prog w) s.heap (typeOf (.type "Exception")) (.type "type"):=rC ht
 have hg:findIn K (.type "type") "__getattribute__"=some (some (.builtin "type.__getattribute__")):=type_tga
 unfold getMethod specialOf
 refine aq (aq (L0.here ((tQ X hg).here ?_)))
 dsimp only
 rw[if_pos canon_tga]
 refine aq (jw (Q:=fun v=>Q (v,[])) (E:=E) ?_ (fun _ _ z=>aL z) fun _ _ z=>z)
 have LO:H3 (model prog w) s.heap (opaqueClassAbove (.type "Exception")) none:=rC hstub
 exact cls_open X LO L0 hg (looks_hook X (r:=none) (by rfl)) (by show subIn K _ _=_;rfl) e
  (aL (by show wpAny _ _ (handedOut (.builtin "Exception.__init__")) _ _ _;rw[handedOut_of hh];exact aL h))
theorem adR{n:LM}{es:List an}{ap p p0:Pos}(O:ve X)(hx:X.env.kindOf "Exception"=some .globalImplicit)(hg:ni X.C "Exception" (.glob (.type "Exception")))(hl:(ap.endLine==p.line)=true)(hfew:es.length<30)
  (hs:es.all (fun e=> !jf e)=true)(hn:Ac X k n es)(R:eN A k)(T:St X W fr σ s){l:List AV}(e:n fr σ=some (l,σ)){Q:ah->az->Prop}
  (h: ∀vs bq bm,W.le bm->St X bm fr σ bq->VL X.C bm l vs->wpAny (dH X.C) A (call (.builtin "Exception.__init__") vs) Q dw bq):wpAny (dH X.C) A (eval (.Call (.Attribute (.Name "Exception" p0) "__init__" ap) es [] p) X.env) Q dw s:=by
 show wpAny _ _ (do
  let ov <- attributeBase (.Name "Exception" p0) "__init__" X.env (eval (.Name "Exception" p0) X.env)
  standAt ap.atName
  methodCall (.Name "Exception" p0) "__init__" ap p X.env ov (es.length+([]:List tt).length) (backTo p (starEach es X.env)) (backToKw p (keywordEach [] X.env))) _ _ _
 have hm:b6 X k (ba (.glob (.type "Exception"))) (.Name "Exception" p0):=YK O hx (by decide) hg
 refine aq (l0 rfl (hm.go R T rfl fun v bq bm bC bw d8=>aq (dB ?_)))
 obtain rfl:v= .type "Exception":=d8
 have hform:methodCallForm (es.length+([]:List tt).length) (backTo p (starEach es X.env)) (backToKw p (keywordEach [] X.env))=true:=by
  unfold methodCallForm
  have h1:(backTo p (starEach es X.env)).all (!·.1)=true:=by
   have:=qJ (env:=X.env) (pos:=p) hs
   rw[bZ];rw[ET]at this
   intro y hy;simpa using this y hy
  rw[h1]
  have h2:(backToKw p (keywordEach [] X.env)).all (·.1.isSome)=true:=rfl
  rw[h2]
  simp;exact hfew
 unfold methodCall
 rw[hform]
 have hpos:methodCallPos true (.Name "Exception" p0) X.env ap p=pure p:=by unfold methodCallPos;simp[hl]
 refine aq (dJ ?_)
 show wpAny _ _ (getMethod (.type "Exception") "__init__" _) _ _ _
 refine ahD bw.rel.K ?_
 show wpAny _ _ (do let callPos <- methodCallPos true (.Name "Exception" p0) X.env ap p;callWith callPos (.builtin "Exception.__init__") [] (backTo p (starEach es X.env)) (backToKw p (keywordEach [] X.env))) _ _ _
 rw[hpos]
 refine aq (aL ?_)
 refine Fu (P:=X.C.K.In) (by rw[qJ hs];rfl) fu ?_
 exact wF hs (hn.go R (bw.toks (bq.toks+1) (cR _)) e p fun vs dW cA dQ cP j5=>⟨cP.rel.K,h vs dW cA (bC.trans dQ) cP j5⟩)
end
end
end
section
open PySem.SeqAt
noncomputable section
noncomputable def leB:List bV:=[
 .Expr (.Call (.Attribute (.Name "Exception" ⟨20,8,20,17⟩) "__init__" ⟨20,8,20,26⟩) [.Name "self" ⟨20,27,20,31⟩,.Name "what" ⟨20,33,20,37⟩] [] ⟨20,8,20,38⟩) ⟨20,8,20,38⟩,
 .Assign [.Attribute (.Name "self" ⟨21,8,21,12⟩) "what" ⟨21,8,21,17⟩] (.Name "what" ⟨21,20,21,24⟩) ⟨21,8,21,24⟩,
 .Assign [.Attribute (.Name "self" ⟨22,8,22,12⟩) "at" ⟨22,8,22,15⟩] (.Name "at" ⟨22,18,22,20⟩) ⟨22,8,22,20⟩]
noncomputable def nmG:List (Nat×Str):=[(0,"self"),(1,"what"),(2,"at")]
noncomputable def ang(d:Bj)(f:Lx->Bool):Bool:=match d with
 | .cls cd=>f cd
 |_=>false
@[elab_as_elim] theorem anZ {Q:Bj->Prop} {d:Bj} {f:Lx->Bool} (h:ang d f=true) (k: ∀cd,f cd=true->Q (.cls cd)):Q d:=by
 cases d<;>first|exact ff h|exact k _ h
noncomputable def gfC(o:Obj):Bool:=o.cls== .type "type" &&(ang o.data (fun cd=>decide (cd.mro= .ref 112::ub)&&(!cd.hasDel&&cd.hasDict))&&(o.slots.toList[4]? ==some (some (.builtin "Exception.__new__"))&&o.slots.toList.length==6))
def gfF(K:dL)(fd:gK):Bool:=RQ K 3 [.tup [.int 0,.int 0]] nmG fd (fd.params.args.map (·.arg))&&fd.scope.names.lookup ("Exception":Str)==some .globalImplicit
def gfB(K:dL):Bool:=CZ (K.lookup 112) gfC&&(CZ (K.lookup 65) (fun o=>SO o.data (gfF K))&&(decide (findIn K (.ref 112) "__init__"=some (some (.ref 65)))&&(decide (typeIn K (.ref 65)=some (.type "function"))&&
 (decide (findIn K (.ref 112) "__setattr__"=some (some (.builtin "object.__setattr__")))&&(decide (takerIn K 112 "what"=some none)&&(decide (takerIn K 112 "at"=some none)&&blB K "Exception"))))))
structure GfB(K:dL):Prop where
 c1:CZ (K.lookup 112) gfC=true
 c2:CZ (K.lookup 65) (fun o=>SO o.data (gfF K))=true
 c3:decide (findIn K (.ref 112) "__init__"=some (some (.ref 65)))=true
 c4:decide (typeIn K (.ref 65)=some (.type "function"))=true
 c5:decide (findIn K (.ref 112) "__setattr__"=some (some (.builtin "object.__setattr__")))=true
 c6:decide (takerIn K 112 "what"=some none)=true
 c7:decide (takerIn K 112 "at"=some none)=true
 c8:blB K "Exception"=true
theorem GfB.of{K:dL}(h:gfB K=true):GfB K:=aE h fun c1 h=>aE h fun c2 h=>aE h fun c3 h=>aE h fun c4 h=>aE h fun c5 h=>aE h fun c6 h=>aE h fun c7 c8=>⟨c1,c2,c3,c4,c5,c6,c7,c8⟩
@[elab_as_elim] theorem Tk {α:Type} {P:List α->Prop} {l:List α} {n:Nat} (h:l.length=n+1) (k: ∀a t,t.length=n->P (a::t)):P l:=by
 cases l with
 |nil=>cases h
 |cons a t=>exact k a t (jW h)
theorem six{α:Type}{l:List α}{a:α}(h:l[4]? =some a)(hl:l.length=6): ∃b c d e f,l=[b,c,d,e,a,f]:=by
 revert h
 refine Tk hl fun b l h=>Tk h fun c l h=>Tk h fun d l h=>Tk h fun e l h=>Tk h fun x l h=>Tk h fun f l h h'=> ?_
 rw[mH.mp h]
 exact⟨b,c,d,e,f,by rw[aH (show some x=some a from h')]⟩
theorem ahA{o:Obj}(h:gfC o=true): ∃nm q N bs hdct sn sub ab col dd k0 k1 k2 k3 k5 cd,o=excClassObj nm q 112 N bs ub hdct sn sub ab col dd k0 k1 k2 k3 k5 "Exception.__new__" /\o.data= .cls cd/\cd.mro= .ref 112::ub/\cd.hasDict=true:=by
 obtain⟨c,dd,dt,sl⟩:=o
 refine aE h fun h1 h=>aE h fun h2 h=>aE h fun h3 h4=> ?_
 have h1:c= .type "type":=beq_iff_eq.mp h1
 obtain⟨k0,k1,k2,k3,k5,hs⟩:=six (beq_iff_eq.mp h3) (beq_iff_eq.mp h4)
 have hsl:sl= #[k0,k1,k2,k3,some (.builtin "Exception.__new__"),k5]:=by
  obtain⟨l⟩:=sl
  exact congrArg pX hs
 clear h h3 h4 hs
 refine anZ (d:=dt) (Q:=fun dt=> ∃nm q N bs hdct sn sub ab col dd' k0 k1 k2 k3 k5 cd,(⟨c,dd,dt,sl⟩:Obj)=excClassObj nm q 112 N bs ub hdct sn sub ab col dd' k0 k1 k2 k3 k5 "Exception.__new__" /\dt= .cls cd/\cd.mro= .ref 112::ub/\cd.hasDict=true) h2 fun cd h2=>aE h2 fun m1 m=>aE m fun m2 m3=> ?_
 obtain⟨nm,bs,mro,ns,qn,hd,sn,sub,ab,col,del⟩:=cd
 have m1:mro= .ref 112::ub:=ag m1
 have m2:del=false:=pn m2
 refine⟨nm,qn,ns,bs,hd,sn,sub,ab,col,dd,k0,k1,k2,k3,k5,_,?_,rfl,m1,m3⟩
 rw[h1,hsl,m1,m2]
theorem S0{o:Obj}{P:Prop}(h:gfC o=true)(k: ∀nm q N bs hdct sn sub ab col dd k0 k1 k2 k3 k5 cd,o=excClassObj nm q 112 N bs ub hdct sn sub ab col dd k0 k1 k2 k3 k5 "Exception.__new__" ->o.data= .cls cd->cd.mro= .ref 112::ub->cd.hasDict=true->P):P:=by
 obtain⟨nm,q,N,bs,hdct,sn,sub,ab,col,dd,k0,k1,k2,k3,k5,cd,a,b,c,d⟩:=ahA h
 exact k nm q N bs hdct sn sub ab col dd k0 k1 k2 k3 k5 cd a b c d
section
variable{C:PC}{X:FX}{k:Nat}{W W':Wd}{fr:Fm}{σ:AS}{s:az}{A:b5}
theorem ig.pin{I J:aC}{o:Obj}(L:ig X W σ J)(h:J≠I):ig X (W.pin I o) σ J:=⟨L.im,by rw[jB h];exact L.pr,L.cell,L.out⟩
theorem ahB{fd:gK}(hB:gfB X.C.K=true)(H:gX X ⟨fd.scope.names,nmG,true⟩)(hx:fd.scope.names.lookup ("Exception":Str)=some .globalImplicit)(R:eN A k){e t0:aC}{a b:AV}(T:St X W [.glob (.ref e),a,b] σ s)(L:ig X W σ e)(he:s.heap.get? e=some (Va t0 none))(ha:bW a=false)(hb:bW b=false):
  wpAny (dH X.C) A (execs leB X.env) (fun fl s'=>fl= .next/\Sn X.nq s'/\ ∃W',W.le W'/\cC X.C W' σ s'.heap) dw s:=by
 have G:=GfB.of hB
 have O:=H.ok
 have at0:X.names 0=some "self":=by rw[H.nm];rfl
 have at1:X.names 1=some "what":=by rw[H.nm];rfl
 have at2:X.names 2=some "at":=by rw[H.nm];rfl
 have hxE:X.env.kindOf "Exception"=some .globalImplicit:=(H.kind _).trans hx
 have hg:ni X.C "Exception" (.glob (.type "Exception")):=Yb G.c8 fun o ho h=>TN (ho.trans (dG.mp h)) (by decide) (by boot_by_name)
 refine Jg G.c1 fun o112 ho hc=> ?_
 refine S0 hc fun nm q N bs hdct sn sub ab col dd k0 k1 k2 k3 k5 cd hobj hdat hmro hdic=> ?_
 have hcls:clsIn X.C.K 112=some cd:=by
  unfold clsIn
  rw[ho]
  obtain⟨c,d,dt,sl⟩:=o112
  obtain rfl:dt= .cls cd:=hdat
  rfl
 have sa:=ag G.c5
 have u0:bW (.glob (.ref e))=false:=rfl
 have e0: ∀σ,al 0 [.glob (.ref e),a,b] σ=some (.glob (.ref e),σ):=fun _=>rfl
 have e1: ∀σ,al 1 [.glob (.ref e),a,b] σ=some (a,σ):=fun σ=>by
  show(bif bW a then none else some (a,σ))=_
  rw[ha];rfl
 have e2: ∀σ,al 2 [.glob (.ref e),a,b] σ=some (b,σ):=fun σ=>by
  show(bif bW b then none else some (b,σ))=_
  rw[hb];rfl
 unfold leB
 refine nP (Ke ?_ H.sto.inter (tz rfl))
 refine adR O hxE hg rfl (by decide) rfl (Le rfl (uQ O at0) (Le rfl (uQ O at1) QG)) R (T.pin L he) (l:=[.glob (.ref e),a]) (by simp only[cz,cq,e0,e1,aX]) fun vs bq bm bC bw d8=> ?_
 refine Xm (St.unpin bC L bw) fun bC afx anm Ss=> ?_
 have PL:=(bw.rel.K _ _ ho)
 clear bw
 rw[hobj]at PL
 obtain⟨w2,rfl⟩: ∃w2,vs=[.ref e,w2]:=by
  obtain⟨v,r,e1,e2,w,r',f1,f2,f3⟩:=d8
  exact⟨w,by rw[e1,f1,show v= .ref e from e2,show r'=[] from f3]⟩
 obtain⟨hp,g,d,tk,os⟩:=bq
 refine ahE PL anm fun h' g2 k2=> ?_
 have T2:=St.but (s:=⟨hp,g,d,tk,os⟩) (h':=h') afx Ss k2 tk (ax _)
 clear afx anm PL k2 d8
 refine nP (jj ?_ Ds)
 refine(uQ O at1:b6 X k (al 1) (.Name "what" ⟨21,20,21,24⟩)).go R (T2.pin Ss g2) (e1 σ) fun v dW cA dQ cP Mz=> ?_
 refine(uQ O at0:b6 X k (al 0) (.Name "self" ⟨21,8,21,12⟩)).go R cP (e0 σ) fun ov jK xF gY jb Y1=> ?_
 obtain rfl:ov= .ref e:=Y1
 have u3:=St.unpin (dQ.trans gY) Ss jb
 refine ahF jb.rel.K u3.2.2.1 sa hcls hmro hdic (ag G.c6) fun h' dx hd1 hd2 g4 n4 k4=> ?_
 refine ud (u3.2.1.rel.free hd2) fun f1 f2 f3=> ?_
 have L4:ig X _ σ dx:=⟨f1,f2,f3,fun hc=>by
  obtain⟨o,z⟩:=u3.2.1.fr.live _ hc
  rw[hd2]at z;exact nn z⟩
 have T4:=u3.2.1.but u3.2.2.2 k4 (jK.toks+2) (cY _ _)
 clear T2 cP jb dQ gY f1 f2 f3
 refine Xo (id n4) fun oD esD epD gD rD=> ?_
 refine nP (jj ?_ Ds)
 refine(uQ O at2:b6 X k (al 2) (.Name "at" ⟨22,18,22,20⟩)).go R ((T4.pin u3.2.2.2 g4).pin (L4.pin hd1) gD) (e2 σ) fun v sF WS XW xE anM=> ?_
 refine(uQ O at0:b6 X k (al 0) (.Name "self" ⟨22,8,22,12⟩)).go R xE (e0 σ) fun ov aqQ ID Qd LU alh=> ?_
 obtain rfl:ov= .ref e:=alh
 have u7:=St.unpin (XW.trans Qd) (L4.pin hd1) LU
 have u8:=St.unpin u7.1 u3.2.2.2 u7.2.1
 refine ahG (d:=dx) LU.rel.K u8.2.2.1 ⟨oD,esD,epD,u7.2.2.1,rD⟩ (Rl _ _ Un) (by decide) sa hcls hmro hdic (ag G.c7) fun h' hsb=> ?_
 have T9:=u8.2.1.but (I:=dx) (h':=h') ⟨u7.2.2.2.im,L4.pr,u7.2.2.2.cell,u7.2.2.2.out⟩ (fun b o hb ho=>(hsb.2 b hb).trans ho) (aqQ.toks+2) (cY _ _)
 exact oQ ⟨rfl,T9.sm,_,(bC.trans u3.1).trans u8.1,T9.rel⟩
end
end
end
section
open PySem.SeqAt
noncomputable section
section
variable{C:PC}
theorem akW{W:Wd}{a:AV}{v:ah}(h:V C W a v):bW a=false:=by
 cases a<;>first|rfl|exact h.elim
theorem adS(hB:gfB C.K=true)(hbody: ∀o fd,C.K.lookup 65=some o->o.data= .func fd->fd.body= .stmts leB): ∀k,5<=k->aF C (k+1) (.ref 112) Wl:=fun k hk A Rm W σ s args vs R hv tk a ai e=>by
 obtain⟨k,rfl⟩: ∃j,k=j+1:=⟨k-1,by omega⟩
 revert hv
 refine KA (l:=args) (Q:=fun args=>VL C W args vs->_) e fun a1 a2 e hv=> ?_
 apply s2 e
 obtain⟨v1,r,rfl,q1,v2,r',rfl,q2,f3⟩:=hv
 obtain rfl:r'=[]:=f3
 have G:=GfB.of hB
 refine Jg G.c1 fun o112 ho hc=> ?_
 refine S0 hc fun nm q N bs hdct sn sub ab col dd k0 k1 k2 k3 k5 cd hobj _ _ _=> ?_
 have hC:=R.K _ _ ho
 rw[hobj]at hC
 refine Jg G.c2 fun o65 h65 hf65=> ?_
 obtain⟨fd,hd,hfd⟩: ∃fd,o65.data= .func fd/\gfF C.K fd=true:=ZK (d:=o65.data) (Q:=fun d=> ∃fd,d= .func fd/\gfF C.K fd=true) hf65 fun fd h=>⟨fd,rfl,h⟩
 refine aE hfd fun g1 g2=> ?_
 refine ud (ahm h65 hd (hbody _ _ h65 hd) rfl g1) fun hlen F H=> ?_
 obtain⟨hp,g,d,t,os⟩:=s
 refine ahC R.K (ag G.c3) (ag G.c4) hC (fun h' e m=> ?_) (by rw[jE];exact av rfl)
 obtain⟨mk,mn,t0,mt,-⟩:=m
 have R':cC C W σ h':=R.keeps mk
 refine oP (ab4 F Rm.under (s:=⟨h',g,d,t,os⟩) (args:=[.glob (.ref e),a1,a2]) R' (VL.cons rfl (VL.cons q1 (VL.one q2))) tk (by rw[hlen];exact ax _) (by rw[hlen];exact av rfl) fun X B es Rm' bq keep hnew T=> ?_)
 have hCC:=B.C
 subst hCC
 rw[hlen]at T
 refine ud (R.free (s:=⟨hp,g,d,t,os⟩) mn) fun f1 f2 f3=> ?_
 refine eC (ahB hB (H X B) (beq_iff_eq.mp g2) Rm' (a:=a1) (b:=a2) T ⟨f1,f2,f3,fun hc=> ?_⟩ (keep _ _ mt) (akW q1) (akW q2)) fun fl dW P=> ?_
 ·have z:=hnew _ hc
  rw[show(⟨h',g,d,t,os⟩:az).heap.get? e=_ from mt]at z;exact nn z.symm
 ·obtain⟨rfl,hs,W',l,R''⟩:=P
  refine⟨rfl,?_,W',l,R'',trivial⟩
  exact Sm.trans ⟨h',t,rfl,ax _⟩ (es▸hs.2)
end
end
end
noncomputable def ahz(x:p9)(a:aC):Option Obj:=bif bz a x.n then alive ((x.tree.get a).getD default)else none
theorem ac7(x:p9)(a:aC):x.abs.heap.get? a=ahz x a:=by
 unfold ahz
 cases z:bz a x.n with
 |false=>exact abs_get_none fun h=>by rw[dh.mpr h]at z;cases z
 |true=>
  have h:a<x.n:=dh.mp z
  show(absHeap x.tree x.n x.life).get? a=alive ((x.tree.get a).getD default)
  cases g:x.tree.get a with
  |some o=>exact abs_get h g
  |none=>
   unfold Heap.get?
   rw[absHeap_at,if_pos h,g];rfl
noncomputable def Hj(as:List aC)(x:p9):dL:=as.filterMap fun a=>(ahz x a).map (a,·)
theorem ZZ(as:List aC)(x:p9):zi as x.abs.heap=Hj as x:=by
 unfold zi Hj
 exact congrArg (fun f=>as.filterMap f) (funext fun a=>by rw[ac7])
theorem ahp(as:List aC)(h:bM):Frag.In (zi as h) h:=by
 intro a o e
 have m:=dN e
 unfold zi at m
 obtain⟨b,_,hb⟩:=lz.mp m
 obtain⟨o',ho,e'⟩:=hY.mp hb
 cases e'
 exact ho
def WZ:List aC:=[3,1021,1020,680,679,706,705,204,203,605,604,633,632,45,44,112,111,1,2,12,55,56,57,58,64,65,74,75,122,183,184,185,186,187,503,504,505,584,585,586,587,588,711,860,868,897,940,962]++qj.flatMap fun r=>[r.f,r.f-1]
noncomputable def UV(K:dL)(a:aC):Option (List bV):=(K.lookup a).bind fun o=>match o.data with
 | .func fd=>(match fd.body with
  | .stmts b=>some b
  |_=>none)
 |_=>none
def XC(K:dL)(r:FR):Bool:=CZ (K.lookup r.f) (fun o=>SO o.data fun fd=>W3 fd.body fun _=>RQ K r.n r.dfl r.nm fd (fd.params.args.map (·.arg)))&&(keepIn K (.ref r.f)&&bo (motive:=fun _=>Bool) true (fun x=>Hv K x (.ref r.f)) r.x)
noncomputable def SK(K:dL)(a:aC):Option (List (Str×cQ)×List bV):=(K.lookup a).bind fun o=>match o.data with
 | .func fd=>(match fd.body with
  | .stmts b=>some (fd.scope.names,b)
  |_=>none)
 |_=>none
def ckr(r:FR)(q:Option (List (Str×cQ)×List bV)):Bool:=CZ q fun q=>(ckS FN r.N r.t).ss ⟨q.1,r.nm,true⟩ q.2
theorem alF{K:dL}{r:FR}(h:XC K r=true)(hc:ckr r (SK K r.f)=true):frB K r=true:=by
 refine aE h fun h1 h2=>bj.mpr ⟨Jg h1 fun o ho h1=> ?_,h2⟩
 unfold SK at hc
 rw[ho]at hc
 unfold fnB
 rw[ho]
 exact ZK (d:=o.data) (Q:=fun d=>ckr r (match d with| .func fd=>(match fd.body with| .stmts b=>some (fd.scope.names,b)|_=>none)|_=>none)=true->SO d (fun fd=>W3 fd.body fun body=>RQ K r.n r.dfl r.nm fd (fd.params.args.map (·.arg))&&(ckS FN r.N r.t).ss ⟨fd.scope.names,r.nm,true⟩ body)=true) h1 (fun fd h1=>afI (d:=fd.body) (Q:=fun bd=>ckr r (match bd with| .stmts b=>some (fd.scope.names,b)|_=>none)=true->W3 bd (fun body=>RQ K r.n r.dfl r.nm fd (fd.params.args.map (·.arg))&&(ckS FN r.N r.t).ss ⟨fd.scope.names,r.nm,true⟩ body)=true) h1 fun b h1 hc=>bj.mpr ⟨h1,hc⟩) hc
theorem alG{K:dL}{l:List FR}{qs:List (Option (List (Str×cQ)×List bV))}(h0:l.all (XC K)=true)(hb:l.map (fun r=>SK K r.f)=qs)(hc:(l.zip qs).all (fun p=>ckr p.1 p.2)=true):l.all (frB K)=true:=by
 subst hb
 induction l with
 |nil=>rfl
 |cons r l ih=>exact aE h0 fun a b=>aE hc fun c d=>bj.mpr ⟨alF a c,ih b d⟩
def afT(K:dL):Bool:=(y9.all (crB K)&&(Kz.all (mrB K)&&(O5.all (grB K)&&(UM.all (blB K)&&(Qo K "show_expression" &&(Qo K "no_expression" &&(keepIn K (.ref 112)&&(Hv K "GrammarFault" (.ref 112)&&(gfB K&&((K.lookup sysModules).isSome&&(Hv K "USAGE_NAMES" (.ref 503)&&Hv K "USAGE_WORDS" (.ref 711))))))))))))
def afS(K:dL):Bool:=qj.all (XC K)&&afT K
def abH(K:dL):Bool:=qj.all (frB K)&&afT K
noncomputable def kY(K:dL):=(K.lookup 503,K.lookup 711,nsIn K 3 "RESERVED",UV K 65)
noncomputable def uc(w:d4)(k v:Str)(t:Nat):ia:=⟨hashStr w k,.str k t,.str v (t+1)⟩
noncomputable def unO(w:d4):Obj:={cls:=.type "dict",data:=.dict #[uc w "display" "DISPLAY" 925,uc w "binary" "BINARY" 927,uc w "packed" "PACKED-DECIMAL" 929,uc w "index" "INDEX" 931] 4}
noncomputable def uwO(w:d4):Obj:={cls:=.type "dict",data:=.dict #[uc w "DISPLAY" "display" 1250,uc w "COMP" "binary" 1252,uc w "COMPUTATIONAL" "binary" 1254,uc w "BINARY" "binary" 1256,uc w "PACKED-DECIMAL" "packed" 1258,uc w "COMP-3" "packed" 1260,uc w "COMPUTATIONAL-3" "packed" 1262,uc w "INDEX" "index" 1264] 8}
noncomputable def F4:Str:=lD " ACCEPT ACCESS ADD ADVANCING AFTER ALL ALPHABETIC ALPHABETIC-LOWER ALPHABETIC-UPPER ALPHANUMERIC ALPHANUMERIC-EDITED ALSO ALTERNATE AND ANY ARE AREA AREAS ASCENDING ASSIGN AT AUTHOR BEFORE BINARY BLANK BLOCK BY CALL CHARACTER CHARACTERS CLOSE COMP COMP-3 COMPUTATIONAL COMPUTATIONAL-3 COMPUTE CONFIGURATION CONTAINS CONTENT CONTINUE CONVERTING COPY CORR CORRESPONDING COUNT DATA DATE-COMPILED DATE-WRITTEN DELETE DELIMITED DELIMITER DEPENDING DESCENDING DISPLAY DIVIDE DIVISION DOWN DUPLICATES DYNAMIC ELSE END END-ADD END-CALL END-COMPUTE END-DELETE END-DIVIDE END-EVALUATE END-IF END-MULTIPLY END-PERFORM END-READ END-RETURN END-REWRITE END-SEARCH END-START END-STRING END-SUBTRACT END-UNSTRING END-WRITE ENVIRONMENT EQUAL ERROR EVALUATE EXCEPTION EXIT EXTEND EXTERNAL FALSE FD FILE FILE-CONTROL FILLER FIRST FOR FROM GIVING GLOBAL GO GREATER HIGH-VALUE HIGH-VALUES I-O I-O-CONTROL IDENTIFICATION IF IN INDEX INDEXED INITIAL INITIALIZE INPUT INPUT-OUTPUT INSPECT INSTALLATION INTO INVALID IS JUST JUSTIFIED KEY LABEL LEADING LEFT LESS LINE LINES LINKAGE LOCK LOW-VALUE LOW-VALUES MERGE MODE MOVE MULTIPLY NATIVE NEGATIVE NEXT NO NOT NUMERIC NUMERIC-EDITED OBJECT-COMPUTER OCCURS OF OFF OMITTED ON OPEN OPTIONAL OR ORDER ORGANIZATION OTHER OUTPUT OVERFLOW PACKED-DECIMAL PERFORM PIC PICTURE POINTER POSITIVE PROCEDURE PROCEED PROGRAM PROGRAM-ID QUOTE QUOTES RANDOM READ RECORD RECORDS REDEFINES REFERENCE RELATIVE RELEASE REMAINDER RENAMES REPLACE REPLACING RETURN REWRITE RIGHT ROUNDED RUN SAME SD SEARCH SECTION SECURITY SELECT SENTENCE SEPARATE SEQUENTIAL SET SIGN SIZE SORT SORT-MERGE SOURCE-COMPUTER SPACE SPACES SPECIAL-NAMES STANDARD START STATUS STOP STRING SUBTRACT SYNC SYNCHRONIZED TALLYING TEST THAN THEN THROUGH THRU TIMES TO TRAILING TRUE UNSTRING UNTIL UP UPON USAGE USING VALUE VALUES VARYING WHEN WITH WORKING-STORAGE WRITE ZERO ZEROES ZEROS "
noncomputable def kYa(w:d4):=(some (unO w),some (uwO w),some (some (gu F4 1445)),some leB)
abbrev PW:fZ:=J9
noncomputable def IJ:List bV:=behindTheImports PW
noncomputable def xO:Env:={scope:=PW.main.scope,locals:=mainNs,globals:=mainNs,cells:=[],code:=.ref 13,frame:=some 14}
noncomputable def anX:Obj:={cls:=.type "code",data:=.fields #[.str "<module>" 182,.str "<module>" 183,.str "/claim/cut.py" 184,.int 1 0,.int 0 0,.int 0 0,.int 0 0,.int 0 0,.ref 11,.bool false,.int 181 0,.ref 12,.none,.none,.none,.none,.int 185 0,.int 1 0,.str "/claim/cut.py" 186]}
noncomputable def aok:Obj:={cls:=.type "frame",slots:= #[some (.ref 13),some (.ref 3),some (.ref 3),none,some (.str "__main__" 164),none,some (.ref 0)]}
noncomputable def tr4(P:Params):BT:=((((((((((((((BT.nil.ins 0 (boot_o_0 P)).ins 1 (boot_o_1 P)).ins 2 (boot_o_2 P)).ins 3 (boot_o_3 P)).ins 4 (boot_o_4 P)).ins 5 (boot_o_5 P)).ins 6 (boot_o_6 P)).ins 7 (boot_o_7 P)).ins 8 (boot_o_8 P)).ins 9 (boot_o_9 P)).ins 10 (boot_o_10 P)).ins 11 (tupObj0)).ins 12 {cls:=.none,data:=.fields #[]}).ins 13 anX).ins 14 aok
where tupObj0:Obj:={cls:=.type "tuple",data:=.seq #[]}
def sT4(w:d4)(os:n8):p9:=⟨tr4 w.params,15,{},#[],{},187,os⟩
abbrev ps0:Pos:=⟨0,0,0,0⟩
abbrev psE:Pos:=⟨927,0,938,53⟩
abbrev B0:List Frame:=[topFrame ps0]
theorem amq(w:d4)(os:n8):topGo treeTable PW w 11 (some (.ref 6)) 12 ⟨ju w.params,pX [],sV,vt,os⟩ (topStub PW)=some ((sT4 w os).abs,⟨denote treeTable (.body IJ xO),.body IJ xO,ps0,B0⟩):=by
 rw[Ef,dY,D0]
 kernel_rfl
theorem adf(w:d4)(os:n8):segRun treeTable PW w 11 (some (.ref 6)) 1 1 (sT4 w os).abs (blockOf IJ xO (.body IJ xO) ps0 B0)=some (.next,(sT4 w os).abs,.body IJ xO,ps0):=by
 rw[Ed,dY]
 kernel_rfl
theorem alD(w:d4)(s:az):topRun treeTable PW w 11 (some (.ref 6)) 2 s ⟨doneF .next,.body IJ xO,psE,B0⟩=some s:=by
 rw[Ec,dY]
 kernel_rfl
theorem aiE: ∀w:d4,(fencedOpening treeTable PW w 10000).map (fun s=>(s.heap,s.gens,s.drawn,s.toks))=some (ju w.params,pX [],sV,vt):=
 boot_open (by kernel_rfl) (by decide) (fun s=>by kernel_rfl)
theorem akj(w:d4):((ju w.params).isNs mainGlobals&&(pX []:Array yH).size ==0,(ju w.params).objs.size,(ju w.params).nsMap mainGlobals "__annotations__")=(true,11,some (.ref 6)):=by
 kernel_rfl
noncomputable def loose0:List Str:=PW.boundNames.filter fun x=> !(x==("law":Str))
noncomputable def q0:fZ:=view PW [149]
noncomputable def ail:List Str:=importedModules PW.main.body
def NV(w:d4)(s:az):Bool:=staticsOk ail (ju w.params) s.heap&&namesBound PW s.heap&&gensDone s&&laidKept (ju w.params) s.heap
def lkF(a:aC)(l:List (aC×Obj)):Option Obj:=bu (motive:=fun _=>Option Obj) none (fun p _ ih=>Bool.rec (motive:=fun _=>Option Obj) ih (some p.2) (aj a p.1)) l
theorem acj: @qB aC Obj instBEqOfDecidableEq=lkF:=funext fun a=>funext fun l=>by
 induction l with
 |nil=>rfl
 |cons p l ih=>
  obtain⟨b,o⟩:=p
  refine yG (cD ..) ?_
  rw[ih]
  show(match a==b with|true=>some o|false=>lkF a l)=Bool.rec (motive:=fun _=>Option Obj) (lkF a l) (some o) (aj a b)
  rw[show(a==b)=aj a b from by rw[oB,beq_iff_eq,Nat.beq_eq]]
  cases aj a b<;>rfl
def ahZ(h:bM)(a:aC):Bool:=match h.get? a with
 |some o=>(match o.data with
  | .dict es _=>es.toList.all fun e=>match e.key with
   | .str _ _=>true
   |_=>false
  |_=>false)
 |none=>false
theorem XJ:Heap.isNs=ahZ:=by
 funext h a
 unfold Heap.isNs ahZ
 simp only[Array.all_toList]
 rfl
noncomputable def thr:Thread:=piecesOf IJ xO (.body IJ xO) ps0 B0
noncomputable def Xt0(s:az):Bool:=true
def TV(w:d4)(os:n8):Option (NZ×p9×Code×Pos):=segRunT treeTable PW w 11 (some (.ref 6)) 1 7241 (sT4 w os) thr
noncomputable def stF(s:Option bV):Option (List (Str×cQ)×List bV):=s.bind fun s=>if h:s.ctorIdx=0 then Stmt.FunctionDef.elim (motive_2:=fun _=>Option (List (Str×cQ)×List bV)) s h (fun _ _ b _ _ _ sc _ _ _=>some (sc.names,b))else none
noncomputable def stC(s:Option bV)(j:Nat):Option bV:=s.bind fun s=>if h:s.ctorIdx=2 then Stmt.ClassDef.elim (motive_2:=fun _=>Option bV) s h (fun _ _ _ b _ _ _ _ _ _ _=>b[j]?)else none
noncomputable def pbd(n:Nat):Option (List (Str×cQ)×List bV):=bif bz n 1000 then stF PW.main.body[n]? else stF (stC PW.main.body[n%1000]? (n / 1000-1))
noncomputable def pbs:List (Option (List (Str×cQ)×List bV)):=([147,2032,2105,2106,4107,5107,2108,3139,2139,6139,7139,15139,16139,17139,8139,132,2107,127,128,126,1106,10139,138,22139,18139,15,14,19,20,5139,19139,65,137,12139,116,123,13139,9139,124,1105,14139,59,62,16,18,17,20139,117,119,120,121,122,1107,4139,125,129,131,1108,133,1139,1032,50,33,34,41,45,36,47,44,35,46,40,42,43,38,39,48,52,49,51,53,1003,90,84,54,66,21,67,70,82,95,85,69,83,92,93,94,91,96,97,98,99,100,148,141,143,144,145,146,142,149]:List Nat).map pbd
theorem alx:(qj.zip pbs).all (fun p=>ckr p.1 p.2)=true:=by kernel_rfl
def Ye(w:d4)(x:NZ×p9×Code×Pos):=(x.1,x.2.2.1,x.2.2.2,NV w x.2.1.abs,openSeen q0 loose0 ail Xt0 true x.2.1.abs,afS (Hj WZ x.2.1)&&cX 1 x.2.1.toks,kY (Hj WZ x.2.1),qj.map fun r=>SK (Hj WZ x.2.1) r.f)
theorem apt(w:d4)(os:n8):(TV (w.withFollow "special-get-raises" false) os).map (Ye (w.withFollow "special-get-raises" false))=some (.next,.body IJ xO,psE,true,openGood q0 loose0,true,kYa (w.withFollow "special-get-raises" false),pbs):=by
 delta TV thr piecesOf
 rw[l6,dY,l7]
 delta Ye NV staticsOk namesBound laidKept afS XC RQ codeIn Hv nsO nsIn kM keepIn SK
 rw[mM]
 delta PySem.W.Fast.tw4187177175401517315 PySem.W.Fast.tw5160383126252970620 PySem.W.Fast.tw14722251495701143533 PySem.W.Fast.tw15623941606353435126 PySem.W.Fast.tw912232860611745870
 rw[bF,acj,XJ]
 kernel_rfl
theorem apu(w:d4)(os:n8):(TV (w.withFollow "special-get-raises" true) os).map (Ye (w.withFollow "special-get-raises" true))=some (.next,.body IJ xO,psE,true,openGood q0 loose0,true,kYa (w.withFollow "special-get-raises" true),pbs):=by
 delta TV thr piecesOf
 rw[l6,dY,l7]
 delta Ye NV staticsOk namesBound laidKept afS XC RQ codeIn Hv nsO nsIn kM keepIn SK
 rw[mM]
 delta PySem.W.Fast.tw4187177175401517315 PySem.W.Fast.tw5160383126252970620 PySem.W.Fast.tw14722251495701143533 PySem.W.Fast.tw15623941606353435126 PySem.W.Fast.tw912232860611745870
 rw[bF,acj,XJ]
 kernel_rfl
structure am6(C:PC):Prop where
 read_entry: ∀{k f},aF C k f qH->aF C k f ww
 is_level_here: ∀{k f},aF C k f jX->aF C k f qb
 read_entries: ∀{k f},aF C k f nz->aF C k f nt
 law_item: ∀{k f},aF C k f yW->aF C k f Bw
 law_leaf: ∀{k f},aF C k f yX->aF C k f Bx
 law_root: ∀{k f},aF C k f s5->aF C k f Bz
def Zz(C:PC)(mac:List Nat->List AV):Prop:=rH C/\am6 C/\qh C mac bx VB
section
variable{C:PC}{mac:List Nat->List AV}(Z:Zz C mac){lab:List AV->List AV}{k kF:Nat}{x:Str}
include Z
theorem fC(i:Nat)(r:FR){F:aW}{l:List (Str×aW)}(h:aF C kF (.ref r.f) F)(t:Ol C k l)(e:qj[i]? =some r:=by rfl)(hx:r.x=some x:=by rfl)(hk:kF<=k:=by first|decide|omega):Ol C k ((x,F)::l):=f1 (Z.1.cf e hx) h hk t
omit Z in theorem fB {F:aW} {l:List (Str×aW)} {fv:ah} (c:Cl C x fv) (h:aF C 0 fv F) (t:Ol C k l):Ol C k ((x,F)::l):=f1 c h (aU _) t
omit Z in theorem fK {F:aW} {l:List (Str×aW)} {fv:ah} (c:Cl C x fv) (h:aF C kF fv F) (t:Ol C k l) (hk:kF<=k:=by first|decide|omega):Ol C k ((x,F)::l):=f1 c h hk t
omit Z in theorem mC {D:gR} {l:List (Str×gR)} (h:d7 C kF x D) (t:Zh C k l) (hk:kF<=k:=by first|decide|omega):Zh C k ((x,D)::l):=m1 h hk t
theorem gC(i:Nat){a:AV}{l:List (Str×AV)}(t:Ze C l)(e:O5[i]? =some ⟨x,a⟩:=by rfl):Ze C ((x,a)::l):=g1 (Z.1.gr e) t
theorem cZ(i:Nat)(r:FR)(Γ:cF){Q:SM}(hG:Ze C Γ.glb)(hF:Ol C k Γ.fns)(hM:Zh C k Γ.mts)(e:qj[i]? =some r:=by rfl)(hk:5<=k:=by first|decide|omega)(hN:Γ.nms=r.N:=by rfl)(q:Q=cg Γ r.t:=by kernel_rfl):pS C (k+1) (.ref r.f) (bn r.n r.dfl Q):=aoj Z.1 e hk hN q hG hF hM
theorem jF:Cl C "len" (.builtin "len"):=Z.1.bl (i:=0) rfl (by decide) (by boot_by_name) fu
theorem II:Cl C "range" (.type "range"):=Z.1.bl (i:=1) rfl (by decide) (by boot_by_name) ms
theorem Zt:Cl C "str" (.type "str"):=Z.1.bl (i:=2) rfl (by decide) (by boot_by_name) ms
theorem xH:Cl C "tuple" (.type "tuple"):=Z.1.bl (i:=3) rfl (by decide) (by boot_by_name) ms
theorem als:Cl C "list" (.type "list"):=Z.1.bl (i:=4) rfl (by decide) (by boot_by_name) ms
theorem afJ:Cl C "abs" (.builtin "abs"):=Z.1.bl (i:=5) rfl (by decide) (by boot_by_name) fu
theorem afL:Cl C "chr" (.builtin "chr"):=Z.1.bl (i:=6) rfl (by decide) (by boot_by_name) fu
theorem afM:Cl C "ord" (.builtin "ord"):=Z.1.bl (i:=7) rfl (by decide) (by boot_by_name) fu
theorem ada:Cl C "sorted" (.builtin "sorted"):=Z.1.bl (i:=8) rfl (by decide) (by boot_by_name) fu
theorem anV:Cl C "int" (.type "int"):=Z.1.bl (i:=9) rfl (by decide) (by boot_by_name) ms
theorem afK:Cl C "bytes" (.type "bytes"):=Z.1.bl (i:=10) rfl (by decide) (by boot_by_name) ms
theorem anW:Cl C "min" (.builtin "min"):=Z.1.bl (i:=11) rfl (by decide) (by boot_by_name) fu
theorem Ci: ∀n,aF C (5+n) (.ref 1072) (bA n)
 |0=>K9
 |n+1=>by
  have ih:=Ci n
  exact(jg (cZ Z (k:=5+n) 0 pv (Nu (bA n)) g0 (fC Z 0 pv ih (fB (jF Z) eM f0)) m0).snd)
theorem RC:aF C 6 (.ref 201) qG:=(cZ Z 1 F3 Q5 g0 f0 m0).snd
theorem Ce:aF C 6 (.ref 602) i9:=(cZ Z 2 C6 Np g0 f0 m0).snd
theorem FJ:aF C 6 (.ref 630) ft:=(cZ Z 3 F2 Q4 g0 f0 m0).snd
theorem M1:aF C 7 (.ref 672) jp:=(cZ Z 4 Aq Ln g0 f0 (mC (Z.1.mr (k:=6) (i:=1) (j:=2) rfl rfl rfl (by decide +kernel) (aF.le (k':=6) (Ce Z) (by decide)) du) m0)).snd
theorem Y9:d7 C 7 "clauses" yS:=(Z.1.mr (k:=7) (i:=4) (j:=4) rfl rfl rfl (by decide +kernel) (aF.le (k':=7) (M1 Z) (by decide)) du)
theorem y7: ∀n,aF C (7+n) (.ref 677) (bG n)
 |0=>K9
 |n+1=>by
  have ih:=y7 n
  exact(jg (cZ Z (k:=7+n) 5 Jm (Sc (bG n)) g0 (fB (xH Z) oy f0) (mC (Z.1.mr (k:=(7+n)) (i:=2) (j:=3) rfl rfl rfl (by decide +kernel) (aF.le (k':=(7+n)) (FJ Z) (by omega)) (Z.1.mr (k:=(7+n)) (i:=5) (j:=4) rfl rfl rfl (by decide +kernel) (aF.le (k':=(7+n)) ih (by omega)) du)) (mC (Y9 Z) m0))).snd)
theorem UE:aF C 14 (.ref 703) s0:=(jg (cZ Z 6 Jl Sb g0 (fB (xH Z) oy f0) (mC (Z.1.mr (k:=13) (i:=5) (j:=4) rfl rfl rfl (by decide +kernel) (aF.le (k':=13) (y7 Z 6) (by decide)) du) m0)).snd)
theorem alk:d7 C 14 "told" qD:=(Z.1.mr (k:=14) (i:=0) (j:=1) rfl rfl rfl (by decide +kernel) (aF.le (k':=14) (RC Z) (by decide)) (Z.1.mr (k:=14) (i:=1) (j:=2) rfl rfl rfl (by decide +kernel) (aF.le (k':=14) (Ce Z) (by decide)) (Z.1.mr (k:=14) (i:=2) (j:=3) rfl rfl rfl (by decide +kernel) (aF.le (k':=14) (FJ Z) (by decide)) (Z.1.mr (k:=14) (i:=5) (j:=4) rfl rfl rfl (by decide +kernel) (aF.le (k':=14) (y7 Z 6) (by decide)) (Z.1.mr (k:=14) (i:=6) (j:=5) rfl rfl rfl (by decide +kernel) (aF.le (k':=14) (UE Z) (by decide)) du)))))
theorem vG:aF C 6 (.ref 882) lh:=(cZ Z 7 vW HO g0 (fB (jF Z) eM f0) m0).snd
theorem am5:d7 C 6 "is_done" Wo:=(Z.1.mr (k:=6) (i:=8) (j:=6) rfl rfl rfl (by decide +kernel) (aF.le (k':=6) (vG Z) (by decide)) du)
theorem Oj:d7 C 6 "is_done" qe:=(Z.1.mr (k:=6) (i:=8) (j:=6) rfl rfl rfl (by decide +kernel) (QC Z.2.2 (vG Z)) du)
theorem Cf:aF C 6 (.ref 875) ii:=(cZ Z 8 C9 Nq g0 (fB (jF Z) eM f0) m0).snd
theorem xg:d7 C 6 "peek" gw:=(Z.1.mr (k:=6) (i:=7) (j:=6) rfl rfl rfl (by decide +kernel) (aF.le (k':=6) (Cf Z) (by decide)) du)
theorem Up:d7 C 6 "peek" yV:=(Z.1.mr (k:=6) (i:=7) (j:=6) rfl rfl rfl (by decide +kernel) (YF Z.2.2 (Cf Z)) du)
theorem vH:aF C 7 (.ref 904) iy:=(cZ Z 9 vX HT g0 f0 (mC (xg Z) m0)).snd
theorem vu:d7 C 7 "is_kind" fj:=(Z.1.mr (k:=7) (i:=11) (j:=6) rfl rfl rfl (by decide +kernel) (aF.le (k':=7) (vH Z) (by decide)) du)
theorem yN:d7 C 7 "is_kind" tY:=(Z.1.mr (k:=7) (i:=11) (j:=6) rfl rfl rfl (by decide +kernel) (QD Z.2.2 (vH Z)) du)
theorem vJ:aF C 8 (.ref 911) jy:=(cZ Z 10 wa uY g0 f0 (mC (rt (k:=0)) (mC (xg Z) (mC (vu Z) m0)))).snd
theorem Wh:d7 C 8 "is_word" q8:=(Z.1.mr (k:=8) (i:=12) (j:=6) rfl rfl rfl (by decide +kernel) (aF.le (k':=8) (vJ Z) (by decide)) du)
theorem Ok:d7 C 8 "is_word" GO:=(Z.1.mr (k:=8) (i:=12) (j:=6) rfl rfl rfl (by decide +kernel) (QF Z.2.2 (vJ Z)) du)
theorem vI:aF C 8 (.ref 969) jx:=(cZ Z 11 vZ HU g0 f0 (mC (xg Z) (mC (vu Z) m0))).snd
theorem Wg:d7 C 8 "is_sign" vx:=(Z.1.mr (k:=8) (i:=19) (j:=6) rfl rfl rfl (by decide +kernel) (aF.le (k':=8) (vI Z) (by decide)) du)
theorem tT:d7 C 8 "is_sign" qf:=(Z.1.mr (k:=8) (i:=19) (j:=6) rfl rfl rfl (by decide +kernel) (QE Z.2.2 (vI Z)) du)
theorem sv:aF C 9 (.ref 976) jN:=(cZ Z 12 sE DM g0 f0 (mC (Wg Z) m0)).snd
theorem ali:d7 C 9 "skip_sign" Rn:=(Z.1.mr (k:=9) (i:=20) (j:=6) rfl rfl rfl (by decide +kernel) (aF.le (k':=9) (sv Z) (by decide)) du)
theorem yQ:d7 C 9 "skip_sign" sY:=(Z.1.mr (k:=9) (i:=20) (j:=6) rfl rfl rfl (by decide +kernel) (Lb Z.2.2 (sv Z)) du)
theorem Fj:aF C 10 (.ref 983) sr:=(cZ Z 13 sD rx g0 f0 (mC (yQ Z) m0)).snd
theorem Ii:d7 C 10 "need_sign" yU:=(Z.1.mr (k:=10) (i:=21) (j:=6) rfl rfl rfl (by decide +kernel) (aF.le (k':=10) (Fj Z) (by decide)) du)
theorem Cg:aF C 9 (.ref 918) oX:=(cZ Z 14 Da Nr g0 (fB (jF Z) eM f0) (mC (rt (k:=0)) (mC (Wh Z) m0))).snd
theorem apP:d7 C 9 "skip" afu:=(Z.1.mr (k:=9) (i:=13) (j:=6) rfl rfl rfl (by decide +kernel) (aF.le (k':=9) (Cg Z) (by decide)) du)
theorem yP:d7 C 9 "skip" vy:=(Z.1.mr (k:=9) (i:=13) (j:=6) rfl rfl rfl (by decide +kernel) (YG Z.2.2 (Cg Z)) du)
theorem Nf:aF C 11 (.ref 833) Ab:=(cZ Z 15 r9 yD g0 f0 (mC (Ii Z) (mC (yP Z) m0))).snd
theorem WF:aF C 6 (.ref 658) LG:=(cZ Z 16 Mf JS g0 f0 (mC (fG (k:=0)) m0)).snd
theorem Uo:d7 C 6 "add" yR:=(Z.1.mr (k:=6) (i:=3) (j:=4) rfl rfl rfl (by decide +kernel) (aF.le (k':=6) (WF Z) (by decide)) du)
theorem OU:aF C 7 (.ref 800) BV:=(cZ Z 17 uE A1 (gC Z 20 (gC Z 17 g0)) (fB (jF Z) eM f0) (mC (fG (k:=0)) (mC (Uo Z) (mC (aeK (k:=0)) m0)))).snd
theorem ac5:aF C 8 (.ref 807) Sw:=(cZ Z 18 K0 Q7 (gC Z 16 (gC Z 17 (gC Z 15 g0))) (fB (jF Z) eM (fC Z 17 uE (OU Z) f0)) (mC (Uo Z) (mC (fG (k:=0)) m0))).snd
theorem Kv:aF C 7 (.ref 793) jX:=(cZ Z 19 qu JW g0 f0 (mC (Up Z) m0)).snd
theorem IK:pS C 6 (.ref 623) (bn lu.n lu.dfl vD):=cZ Z 20 lu uW g0 (fB (xH Z) oy f0) m0
theorem OL:aF C 7 (.ref 633) xq:=(mD ((Z.1.cr (i:=3) rfl).2 (IK Z)))
theorem Ks:aF C 10 (.ref 932) xt:=(cZ Z 21 x7 wq g0 f0 (mC (rt (k:=0)) (mC (yP Z) m0))).snd
theorem xh:d7 C 10 "one_of" tv:=(Z.1.mr (k:=10) (i:=15) (j:=6) rfl rfl rfl (by decide +kernel) (aF.le (k':=10) (Ks Z) (by decide)) du)
theorem IB:aF C 6 (.ref 852) iz:=(cZ Z 22 pB u4 (gC Z 21 g0) (fB (afK Z) YD (fB (afM Z) TL f0)) m0).snd
theorem xC:aF C 8 (.ref 1018) mi:=(cZ Z 23 x6 JT g0 (fC Z 22 pB (zD (IB Z)) f0) (mC (xg Z) (mC (vu Z) m0))).snd
theorem anN:d7 C 8 "octets" Zg:=(Z.1.mr (k:=8) (i:=25) (j:=6) rfl rfl rfl (by decide +kernel) (aF.le (k':=8) (xC Z) (by decide)) du)
theorem acW:d7 C 8 "octets" Su:=(Z.1.mr (k:=8) (i:=25) (j:=6) rfl rfl rfl (by decide +kernel) (R4 Z.2.2 (xC Z)) du)
theorem Fi:aF C 9 (.ref 990) sq:=(cZ Z 24 sC rv g0 f0 (mC (yN Z) (mC (tT Z) m0))).snd
theorem Ig:d7 C 9 "is_number" yT:=(Z.1.mr (k:=9) (i:=22) (j:=6) rfl rfl rfl (by decide +kernel) (aF.le (k':=9) (Fi Z) (by decide)) du)
theorem Zp:aF C 6 (.ref 136) Ou:=(cZ Z 25 HB MC g0 f0 m0).snd
theorem Zn:aF C 6 (.ref 129) Os:=(cZ Z 26 Hz MA g0 f0 m0).snd
theorem WP:aF C 6 (.ref 164) LS:=(cZ Z 27 Dk J4 (gC Z 0 g0) f0 (mC (Mi (k:=0)) m0)).snd
theorem Ah:aF C 7 (.ref 171) iE:=(cZ Z 28 nF yv (gC Z 0 g0) (fC Z 26 Hz (Zn Z) (fB (jF Z) eM (fC Z 27 Dk (WP Z) (fB (II Z) wc f0)))) (mC (Mi (k:=0)) m0)).snd
theorem Ch:aF C 7 (.ref 896) oY:=(cZ Z 29 Db Nt g0 f0 (mC (xg Z) m0)).snd
theorem apQ:d7 C 7 "take" afv:=(Z.1.mr (k:=7) (i:=10) (j:=6) rfl rfl rfl (by decide +kernel) (aF.le (k':=7) (Ch Z) (by decide)) du)
theorem Ij:d7 C 7 "take" El:=(Z.1.mr (k:=7) (i:=10) (j:=6) rfl rfl rfl (by decide +kernel) (YH Z.2.2 (Ch Z)) du)
theorem Kt:aF C 10 (.ref 997) xu:=(cZ Z 30 x8 wt g0 (fC Z 25 HB (Zp Z) (fC Z 28 nF (Ah Z) f0)) (mC (Ij Z) (mC (yQ Z) (mC (Ig Z) m0)))).snd
theorem acX:d7 C 10 "signed" Sv:=(Z.1.mr (k:=10) (i:=23) (j:=6) rfl rfl rfl (by decide +kernel) (aF.le (k':=10) (Kt Z) (by decide)) du)
theorem M9:aF C 11 (.ref 409) z4:=(cZ Z 31 r0 yy g0 f0 (mC (yN Z) (mC (acW Z) (mC (Ig Z) (mC (acX Z) m0))))).snd
theorem OQ:aF C 6 (.ref 847) BR:=(cZ Z 32 uB AY (g1 Z.1.rs g0) f0 m0).snd
theorem Iz:aF C 8 (.ref 947) vA:=(cZ Z 33 vY uX g0 (fC Z 32 uB (OQ Z) f0) (mC (Up Z) (mC (yN Z) m0))).snd
theorem yO:d7 C 8 "is_name" tZ:=(Z.1.mr (k:=8) (i:=16) (j:=6) rfl rfl rfl (by decide +kernel) (aF.le (k':=8) (Iz Z) (by decide)) du)
theorem M8:aF C 12 (.ref 725) z0:=(cZ Z 34 rZ yx (g1 Z.1.noe g0) (fC Z 31 r0 (M9 Z) f0) (mC (yO Z) m0)).snd
theorem OW:aF C 13 (.ref 772) BX:=(cZ Z 35 uG A3 g0 (fC Z 34 rZ (M8 Z) f0) (mC (tT Z) (mC (fG (k:=0)) (mC (xh Z) m0)))).snd
theorem OM:aF C 9 (.ref 954) BG:=(cZ Z 36 C7 AR g0 f0 (mC (Ij Z) (mC (yO Z) m0))).snd
theorem Ih:d7 C 9 "name" Ek:=Z.1.mro (i:=17) (r:=⟨1021,"name",954⟩) rfl rfl (fun i hi=>by simp only[aG,bg,or_false]at hi;rcases hi with rfl|rfl|rfl|rfl<;>(rw[Z.1.fn _ _ rfl];decide)) (OM Z)
theorem ON:aF C 10 (.ref 925) BH:=(cZ Z 37 C8 AU g0 f0 (mC (yP Z) m0)).snd
theorem alj:d7 C 10 "need" abz:=(Z.1.mr (k:=10) (i:=14) (j:=6) rfl rfl rfl (by decide +kernel) (aF.le (k':=10) (ON Z) (by decide)) du)
theorem Na:aF C 11 (.ref 779) z6:=(cZ Z 38 r5 yz g0 f0 (mC (xh Z) (mC (Ih Z) (mC (alj Z) m0)))).snd
theorem Ha:pS C 6 (.ref 595) (bn ky.n ky.dfl t8):=cZ Z 39 ky sM g0 (fB (xH Z) oy f0) m0
theorem Sz:aF C 7 (.ref 605) Km:=(mD ((Z.1.cr (i:=2) rfl).2 (Ha Z)))
theorem M2:aF C 10 (.ref 961) zU:=(cZ Z 40 As yo g0 f0 (mC (yO Z) (mC (Ih Z) m0))).snd
theorem afp:d7 C 10 "names" Wp:=(Z.1.mr (k:=10) (i:=18) (j:=6) rfl rfl rfl (by decide +kernel) (aF.le (k':=10) (M2 Z) (by decide)) du)
theorem M5:aF C 9 (.ref 367) zX:=(cZ Z 41 rW yr g0 f0 (mC (tT Z) m0)).snd
theorem WJ:aF C 11 (.ref 388) LH:=(cZ Z 42 De JY g0 (fB (xH Z) oy (fC Z 41 rW (M5 Z) f0)) (mC (tT Z) (mC (xh Z) (mC (fG (k:=0)) (mC (Ih Z) m0))))).snd
theorem WM:aF C 6 (.ref 143) LP:=(cZ Z 43 Dh J1 g0 f0 m0).snd
theorem WN:aF C 7 (.ref 157) og:=(cZ Z 44 Di J2 g0 (fC Z 43 Dh (WM Z) f0) m0).snd
theorem WI:aF C 6 (.ref 150) lH:=(cZ Z 45 Dd JX g0 f0 m0).snd
theorem Ae:aF C 8 (.ref 1004) nw:=(cZ Z 46 Au Lp g0 (fC Z 44 Di (zD (WN Z)) (fC Z 45 Dd (zD (WI Z)) (fC Z 28 nF (zD (Ah Z)) f0))) (mC (xg Z) (mC (vu Z) m0))).snd
theorem apN:d7 C 8 "whole" acZ:=(Z.1.mr (k:=8) (i:=24) (j:=6) rfl rfl rfl (by decide +kernel) (aF.le (k':=8) (Ae Z) (by decide)) du)
theorem Wj:d7 C 8 "whole" Op:=(Z.1.mr (k:=8) (i:=24) (j:=6) rfl rfl rfl (by decide +kernel) (VQ Z.2.2 (Ae Z)) du)
theorem OV:aF C 12 (.ref 730) BW:=(cZ Z 47 uF A2 (g1 Z.1.noe g0) (fK ((Z.1.cr (k:=0) (i:=2) rfl).1) (Sz Z) (fB (xH Z) oy (fC Z 42 De (WJ Z) f0))) (mC (yP Z) (mC (afp Z) (mC (Ok Z) (mC (tp (k:=0)) (mC (Ij Z) (mC (Wj Z) m0))))))).snd
theorem Cn:aF C 13 (.ref 744) ra:=(cZ Z 48 lR pW (g1 Z.1.uw g0) (fC Z 47 uF (OV Z) f0) (mC (xh Z) (mC (qw (k:=0)) (mC (yP Z) m0)))).snd
theorem OO:aF C 10 (.ref 751) BP:=(cZ Z 49 uz AW g0 f0 (mC (yP Z) m0)).snd
theorem Fk:aF C 11 (.ref 758) su:=(cZ Z 50 mT ry (g1 Z.1.uw g0) f0 (mC (xh Z) (mC (qw (k:=0)) (mC (Ij Z) (mC (yN Z) m0))))).snd
theorem M7:aF C 14 (.ref 765) zZ:=(cZ Z 51 rY yu g0 (fC Z 48 lR (Cn Z) (fC Z 49 uz (OO Z) (fC Z 50 mT (Fk Z) f0))) (mC (tT Z) (mC (fG (k:=0)) (mC (Up Z) m0)))).snd
theorem KD:pS C 6 (.ref 651) (bn mv.n mv.dfl xz):=cZ Z 52 mv wn g0 f0 m0
theorem NA:aF C 7 (.ref 680) oW:=((Z.1.cr (i:=4) rfl).2 (KD Z))
theorem Ad:aF C 7 (.ref 889) nv:=(cZ Z 53 Ar Lo g0 (fK (Z.1.gfc) (Z.1.gf 5 (by decide)) (fB (anW Z) aeP (fB (jF Z) eM f0))) m0).snd
theorem apM:d7 C 7 "fault" acY:=(Z.1.mr (k:=7) (i:=9) (j:=6) rfl rfl rfl (by decide +kernel) (aF.le (k':=7) (Ad Z) (by decide)) du)
theorem Wi:d7 C 7 "fault" Oo:=(Z.1.mr (k:=7) (i:=9) (j:=6) rfl rfl rfl (by decide +kernel) (VP Z.2.2 (Ad Z)) du)
theorem RJ:aF C 15 (.ref 786) qH:=(n5 (cZ Z 54 wQ DV (gC Z 15 (gC Z 16 (gC Z 17 (gC Z 18 (gC Z 19 g0))))) (fK ((Z.1.cr (k:=0) (i:=3) rfl).1) (OL Z) (fC Z 35 uG (OW Z) (fC Z 38 r5 (Na Z) (fC Z 51 rY (M7 Z) (fK ((Z.1.cr (k:=0) (i:=4) rfl).1) (NA Z) f0))))) (mC (Ii Z) (mC (yO Z) (mC (Ih Z) (mC (yP Z) (mC (Wj Z) (mC (Wi Z) m0))))))).snd)
theorem Ai:aF C 16 (.ref 814) nz:=(n5 (HF (cZ Z 55 nG yw g0 (fC Z 18 K0 (ac5 Z) (fC Z 19 qu (Z.2.1.is_level_here (Kv Z)) (fC Z 54 wQ (Z.2.1.read_entry (RJ Z)) f0))) (mC (fG (k:=0)) m0)).snd))
theorem G2:aF C 17 (.ref 826) t7:=(cZ Z 56 nY sQ (gC Z 17 g0) (fC Z 55 nG (Z.2.1.read_entries (Ai Z)) f0) (mC (fG (k:=0)) (mC (yQ Z) (mC (Ih Z) (mC (Wi Z) m0))))).snd
theorem KC:pS C 6 (.ref 698) (bn mu.n mu.dfl xy):=cZ Z 57 mu wm g0 f0 m0
theorem UD:aF C 7 (.ref 706) vz:=((Z.1.cr (i:=5) rfl).2 (KC Z))
theorem UJ:aF C 18 (.ref 840) oZ:=(n5 (HF (cZ Z 58 zy Gm g0 (fC Z 15 r9 (Nf Z) (fC Z 55 nG (Z.2.1.read_entries (Ai Z)) (fC Z 56 nY (G2 Z) (fK ((Z.1.cr (k:=0) (i:=5) rfl).1) (UD Z) f0)))) (mC (Ok Z) (mC (Oj Z) (mC (Ij Z) m0)))).snd))
theorem Hb:pS C 6 (.ref 867) (bn kz.n kz.dfl kn):=cZ Z 59 kz Fo g0 f0 m0
theorem ac4:aF C 7 (.ref 1021) xr:=(aeR Z.2.2 ((Z.1.cr (i:=6) rfl).2 (Hb Z)))
theorem IL:pS C 6 (.ref 194) (bn lx.n lx.dfl vE):=cZ Z 60 lx uZ g0 f0 m0
theorem WG:aF C 7 (.ref 204) Oq:=(mD ((Z.1.cr (i:=1) rfl).2 (IL Z)))
theorem G0:aF C 6 (.ref 330) t6:=(cZ Z 61 nX sP g0 (fB (jF Z) eM f0) m0).snd
theorem qI:aF C 6 (.ref 215) nd:=(cZ Z 62 kQ DP g0 (fB (afL Z) TK (fB (afM Z) TL f0)) m0).snd
theorem Cj:aF C 7 (.ref 220) vB:=(cZ Z 63 rp JV g0 (fC Z 62 kQ (qI Z) f0) (mC (qw (k:=0)) m0)).snd
theorem OT:aF C 6 (.ref 269) BU:=(cZ Z 64 uD A0 (gC Z 3 g0) (fB (jF Z) eM f0) m0).snd
theorem GZ:aF C 8 (.ref 295) t5:=(cZ Z 65 nW sO g0 (fC Z 63 rp (Cj Z) (fC Z 64 uD (OT Z) f0)) m0).snd
theorem y8:aF C 6 (.ref 234) s6:=(cZ Z 66 pA Gl g0 (fB (jF Z) eM f0) m0).snd
theorem Zo:aF C 7 (.ref 309) Ot:=(cZ Z 67 HA MB (gC Z 9 (gC Z 10 g0)) (fC Z 66 pA (y8 Z) f0) (mC (rt (k:=0)) m0)).snd
theorem GY:aF C 6 (.ref 288) t4:=(cZ Z 68 nV sN (gC Z 7 g0) (fB (jF Z) eM f0) (mC (wS (k:=0)) m0)).snd
theorem M6:aF C 7 (.ref 227) zY:=(cZ Z 69 rX ys (gC Z 1 g0) (fC Z 62 kQ (qI Z) f0) m0).snd
theorem RH:aF C 8 (.ref 302) FF:=(cZ Z 70 wO DT (gC Z 2 (gC Z 8 g0)) (fC Z 69 rX (M6 Z) f0) m0).snd
theorem OS:aF C 6 (.ref 262) BS:=(cZ Z 71 uC AZ g0 (fB (jF Z) eM f0) m0).snd
theorem M3:aF C 8 (.ref 274) zV:=(cZ Z 72 rU yp (gC Z 4 (gC Z 5 g0)) (fB (jF Z) eM (fC Z 63 rp (Cj Z) f0)) m0).snd
theorem IA:aF C 6 (.ref 281) vC:=(cZ Z 73 pw u2 (gC Z 6 g0) (fB (jF Z) eM f0) m0).snd
theorem OX:aF C 7 (.ref 248) GS:=(cZ Z 74 zz MD g0 (fC Z 62 kQ (qI Z) (fB (jF Z) eM f0)) m0).snd
theorem RI:aF C 8 (.ref 255) FG:=(cZ Z 75 wP DU (gC Z 2 g0) (fC Z 74 zz (OX Z) f0) m0).snd
theorem WO:aF C 9 (.ref 316) LQ:=(cZ Z 76 Dj J3 (gC Z 8 (gC Z 2 (gC Z 5 (gC Z 1 g0)))) (fB (jF Z) eM (fC Z 67 HA (Zo Z) (fC Z 68 nV (GY Z) (fC Z 70 wO (RH Z) (fC Z 71 uC (OS Z) (fC Z 72 rU (M3 Z) (fC Z 73 pw (IA Z) (fC Z 75 wP (RI Z) (fC Z 74 zz (OX Z) (fC Z 62 kQ (qI Z) f0)))))))))) m0).snd
theorem RF:aF C 8 (.ref 344) FC:=(cZ Z 77 wM DQ g0 (fC Z 66 pA (y8 Z) (fC Z 63 rp (Cj Z) f0)) m0).snd
theorem OP:aF C 7 (.ref 323) BQ:=(cZ Z 78 uA AX g0 (fC Z 66 pA (y8 Z) f0) m0).snd
theorem RE:aF C 10 (.ref 337) FB:=(cZ Z 79 wL DN g0 (fB (jF Z) eM (fK ((Z.1.cr (k:=0) (i:=1) rfl).1) (WG Z) (fC Z 61 nX (G0 Z) (fC Z 65 nW (GZ Z) (fC Z 76 Dj (WO Z) (fC Z 77 wM (RF Z) (fC Z 78 uA (OP Z) f0))))))) (mC (fG (k:=0)) m0)).snd
theorem UL:aF C 11 (.ref 351) Iu:=(mD (cZ Z 80 zB Go g0 (fC Z 79 wL (RE Z) f0) m0).snd)
theorem KF:pS C 6 (.ref 35) (bn mw.n mw.dfl xA):=cZ Z 81 mw wo g0 f0 m0
theorem aln:aF C 7 (.ref 45) abA:=(mD ((Z.1.cr (i:=0) rfl).2 (KF Z)))
theorem ua:aF C 12 (.ref 510) cL:=(jg (cZ Z 82 lT A6 (gC Z 11 (gC Z 12 g0)) (fB (II Z) wc (fB (jF Z) eM (fK ((Z.1.cr (k:=0) (i:=1) rfl).1) (WG Z) (fC Z 80 zB (UL Z) (fK ((Z.1.cr (k:=0) (i:=0) rfl).1) (aln Z) f0))))) m0).snd)
theorem Kw:aF C 6 (.ref 495) Em:=(cZ Z 83 x9 Q6 g0 f0 (mC (qw (k:=0)) m0)).snd
theorem ac6:aF C 6 (.ref 358) Sx:=(cZ Z 84 K4 Q8 g0 f0 (mC (wS (k:=0)) m0)).snd
theorem Nd:aF C 7 (.ref 414) Aa:=(cZ Z 85 r8 yC g0 (fC Z 84 K4 (ac6 Z) (fB (afL Z) TK f0)) (mC (qw (k:=0)) m0)).snd
theorem Kx:aF C 6 (.ref 178) xx:=(cZ Z 86 qv wu g0 (fB (jF Z) eM (fB (Zt Z) Lc (fB (afJ Z) TJ f0))) m0).snd
theorem Nc:aF C 7 (.ref 421) z8:=(cZ Z 87 r7 yB (gC Z 6 g0) (fB (afJ Z) TJ (fC Z 86 qv (Kx Z) f0)) (mC (wS (k:=0)) m0)).snd
theorem Nb:aF C 8 (.ref 440) z7:=(cZ Z 88 r6 yA g0 (fC Z 85 r8 (Nd Z) (fC Z 87 r7 (Nc Z) f0)) m0).snd
theorem Ag:aF C 9 (.ref 483) rK:=(cZ Z 89 nE yt (g1 Z.1.show g0) (fC Z 88 r6 (Nb Z) f0) m0).snd
theorem OZ:aF C 10 (.ref 543) lI:=(jg (cZ Z 90 uI A5 g0 (fC Z 83 x9 (Kw Z) (fC Z 89 nE (Ag Z) f0)) (mC (fG (k:=0)) m0)).snd)
theorem SA:aF C 6 (.ref 502) Kn:=(cZ Z 91 EG Q9 g0 f0 m0).snd
theorem WL:aF C 6 (.ref 433) LN:=(cZ Z 92 Dg J0 g0 (fB (als Z) aaV f0) (mC (qw (k:=0)) m0)).snd
theorem WK:aF C 7 (.ref 490) LK:=(cZ Z 93 Df JZ (g1 Z.1.show g0) (fC Z 92 Dg (WL Z) f0) m0).snd
theorem OY:aF C 8 (.ref 522) BZ:=(cZ Z 94 uH A4 g0 (fC Z 83 x9 (Kw Z) (fC Z 91 EG (SA Z) (fB (Zt Z) Lc (fC Z 93 Df (WK Z) f0)))) m0).snd
theorem UK:aF C 6 (.ref 529) Ir:=(cZ Z 95 zA Gn g0 f0 m0).snd
theorem M4:aF C 10 (.ref 536) zW:=(cZ Z 96 rV yq (g1 Z.1.un g0) (fC Z 89 nE (Ag Z) (fC Z 94 uH (OY Z) (fC Z 95 zA (UK Z) (fC Z 91 EG (SA Z) f0)))) m0).snd
theorem RG:aF C 6 (.ref 517) FE:=(cZ Z 97 wN DR g0 (fB (Zt Z) Lc f0) m0).snd
theorem RK:aF C 11 (.ref 550) ng:=(jg (cZ Z 98 wR DW (gC Z 13 g0) (fC Z 83 x9 (Kw Z) (fC Z 96 rV (M4 Z) (fC Z 97 wN (RG Z) f0))) m0).snd)
theorem Af: ∀n,aF C (12+n) (.ref 557) (cu n)
 |0=>K9
 |n+1=>by
  have ih:=Af n
  exact(jg (mD (cZ Z (k:=12+n) 99 nD (Lq (cu n)) (gC Z 14 g0) (fC Z 99 nD ih (fC Z 82 lT (ua Z) (fC Z 90 uI (OZ Z) (fC Z 98 wR (RK Z) f0)))) (mC (tp (k:=0)) m0)).snd))
theorem Aj:aF C 19 (.ref 564) iG:=(jg (mD (cZ Z 100 nJ Lr g0 (fC Z 99 nD (Af Z 6) f0) (mC (tp (k:=0)) m0)).snd))
theorem IC:aF C 20 (.ref 571) eP:=(jg (mD (cZ Z 101 pC HV g0 (fC Z 82 lT (ua Z) (fC Z 100 nJ (Aj Z) f0)) m0).snd))
theorem Cm:aF C 21 (.ref 578) ik:=(Mj (jg (mD (cZ Z 102 pz Nv g0 (fC Z 82 lT (ua Z) (fC Z 101 pC (IC Z) (fC Z 100 nJ (Aj Z) f0))) (mC (tp (k:=0)) m0)).snd)))
theorem Ku(hl: ∀L c,lM mac L c->lM mac (lab L) c):aF C 22 (.ref 1077) (eL lab):=(Mj (cZ Z 103 qt (JU lab) g0 (fC Z 0 pv (Ci Z 6) (fB (anV Z) aeN (fB (II Z) wc (fB (jF Z) eM (fB (ada Z) VR (fC Z 58 zy (aeO Z.2.2 hl (UJ Z)) (fK ((Z.1.cr (k:=0) (i:=6) rfl).1) (ac4 Z) (fC Z 102 pz (Cm Z) f0)))))))) (mC (alk Z) (mC (Oj Z) m0))).snd)
theorem s7:aF C 6 (.ref 1032) yY:=(cZ Z 104 mx Sd g0 f0 m0).snd
theorem FI:aF C 8 (.ref 1046) qF:=(HG (cZ Z 105 tm Gi g0 (fC Z 104 mx (wb Z.2.2 (s7 Z)) (fK ((Z.1.cr (k:=0) (i:=3) rfl).1) (OL Z) (fK ((Z.1.cr (k:=0) (i:=2) rfl).1) (Sz Z) (fK ((Z.1.cr (k:=0) (i:=4) rfl).1) (NA Z) f0)))) (mC (fG (k:=0)) m0)).snd)
theorem UG:aF C 8 (.ref 1046) yW:=(n5 (FI Z))
theorem RB:aF C 9 (.ref 1053) wB:=(HG (cZ Z 106 zw Gj g0 (fC Z 104 mx (wb Z.2.2 (s7 Z)) (fC Z 105 tm (FI Z) f0)) m0).snd)
theorem UH:aF C 9 (.ref 1053) yX:=(n5 (RB Z))
theorem UI:aF C 10 (.ref 1060) s5:=(n5 (HG (cZ Z 107 zx Gk g0 (fC Z 104 mx (wb Z.2.2 (s7 Z)) (fK ((Z.1.cr (k:=0) (i:=4) rfl).1) (NA Z) (fB (II Z) wc (fC Z 106 zw (Z.2.1.law_leaf (UH Z)) (fC Z 105 tm (Z.2.1.law_item (UG Z)) f0))))) (mC (Uo Z) m0)).snd))
theorem UF:aF C 11 (.ref 1065) mj:=(aeL Z.2.2 (fun b=>⟨(Yp b).1,(Yp b).2.1⟩) (n5 (HF (cZ Z 108 zv Gg g0 (fC Z 107 zx (Z.2.1.law_root (UI Z)) (fC Z 104 mx (wb Z.2.2 (s7 Z)) (fK ((Z.1.cr (k:=0) (i:=5) rfl).1) (UD Z) f0))) (mC (fG (k:=0)) m0)).snd)))
theorem WH:aF C 6 (.ref 1039) q9:=(cZ Z 109 Dc V5 g0 f0 m0).snd
theorem anQ(hl: ∀L c,lM mac L c->lM mac (lab L) c):aF C 23 (.ref 1082) (Zi lab):=(cZ Z 110 aaQ (am4 lab) g0 (fC Z 103 qt (Ku Z hl) (fC Z 108 zv (UF Z) (fC Z 109 Dc (WH Z) (fK ((Z.1.cr (k:=0) (i:=5) rfl).1) (UD Z) (fC Z 102 pz (Cm Z) (fK ((Z.1.cr (k:=0) (i:=4) rfl).1) (NA Z) (fK ((Z.1.cr (k:=0) (i:=3) rfl).1) (OL Z) f0))))))) (mC (rt (k:=0)) (mC (Uo Z) (mC (fG (k:=0)) m0)))).snd
end
noncomputable def ch(a:Nat)(l:List (Nat×Nat×Nat)):List (Nat×Nat×Nat):=(l.drop a).take 4
theorem Cr{β:Type}{l:List (Nat×Nat×Nat)}{a:Nat}{f g:Nat×Nat×Nat->β}(h:l.length<=a):(l.drop a).map f=(l.drop a).map g:=by rw[hV h];rfl
theorem bc{β:Type}{l:List (Nat×Nat×Nat)}{a:Nat}{f g:Nat×Nat×Nat->β}(h:(ch a l).map f=(ch a l).map g)(h':(l.drop (a+4)).map f=(l.drop (a+4)).map g):(l.drop a).map f=(l.drop a).map g:=by
 rw[<- n7 4 (l.drop a),bt,bt,pZ]
 exact congr (congrArg (· ++ ·) h) h'
theorem Cq{β:Type}{l:List (Nat×Nat×Nat)}{f g:Nat×Nat×Nat->β}(h:(l.drop 0).map f=(l.drop 0).map g){x:Nat×Nat×Nat}(hx:x∈l):f x=g x:=iL.mp h x hx
section
variable(c k p:AV)
def iJ(lvl:Nat)(x:Nat×Nat×Nat):Option (List AV):=uO (.frz cp gk (.int (am lvl)::kb x c k p .none)) (bif aj lvl 1 then true else aj lvl 77)
def iK(lvl:Nat)(x:Nat×Nat×Nat):Option (List AV):=some (kv lvl x)
theorem amL:(ch 0 iY).map (iJ c k p 1)=(ch 0 iY).map (iK 1):=by kernel_rfl
theorem amM:(ch 4 iY).map (iJ c k p 1)=(ch 4 iY).map (iK 1):=by kernel_rfl
theorem amN:(ch 8 iY).map (iJ c k p 1)=(ch 8 iY).map (iK 1):=by kernel_rfl
theorem ajO:(ch 12 iY).map (iJ c k p 1)=(ch 12 iY).map (iK 1):=by kernel_rfl
theorem ajP:(ch 16 iY).map (iJ c k p 1)=(ch 16 iY).map (iK 1):=by kernel_rfl
theorem ajQ:(ch 20 iY).map (iJ c k p 1)=(ch 20 iY).map (iK 1):=by kernel_rfl
theorem ajR:(ch 24 iY).map (iJ c k p 1)=(ch 24 iY).map (iK 1):=by kernel_rfl
theorem ajS:(ch 28 iY).map (iJ c k p 1)=(ch 28 iY).map (iK 1):=by kernel_rfl
theorem ajT:(ch 32 iY).map (iJ c k p 1)=(ch 32 iY).map (iK 1):=by kernel_rfl
theorem ajU:(ch 36 iY).map (iJ c k p 1)=(ch 36 iY).map (iK 1):=by kernel_rfl
theorem ajV:(ch 40 iY).map (iJ c k p 1)=(ch 40 iY).map (iK 1):=by kernel_rfl
theorem aqO{x:Nat×Nat×Nat}(hx:x∈iY):iJ c k p 1 x=iK 1 x:=Cq (bc (amL c k p) (bc (amM c k p) (bc (amN c k p) (bc (ajO c k p) (bc (ajP c k p) (bc (ajQ c k p) (bc (ajR c k p) (bc (ajS c k p) (bc (ajT c k p) (bc (ajU c k p) (bc (ajV c k p) (Cr (by decide))))))))))))) hx
theorem amO:(ch 0 dK).map (iJ c k p 5)=(ch 0 dK).map (iK 5):=by kernel_rfl
theorem amP:(ch 4 dK).map (iJ c k p 5)=(ch 4 dK).map (iK 5):=by kernel_rfl
theorem amQ:(ch 8 dK).map (iJ c k p 5)=(ch 8 dK).map (iK 5):=by kernel_rfl
theorem ajW:(ch 12 dK).map (iJ c k p 5)=(ch 12 dK).map (iK 5):=by kernel_rfl
theorem ajX:(ch 16 dK).map (iJ c k p 5)=(ch 16 dK).map (iK 5):=by kernel_rfl
theorem ajY:(ch 20 dK).map (iJ c k p 5)=(ch 20 dK).map (iK 5):=by kernel_rfl
theorem ajZ:(ch 24 dK).map (iJ c k p 5)=(ch 24 dK).map (iK 5):=by kernel_rfl
theorem aj0:(ch 28 dK).map (iJ c k p 5)=(ch 28 dK).map (iK 5):=by kernel_rfl
theorem aj1:(ch 32 dK).map (iJ c k p 5)=(ch 32 dK).map (iK 5):=by kernel_rfl
theorem aj2:(ch 36 dK).map (iJ c k p 5)=(ch 36 dK).map (iK 5):=by kernel_rfl
theorem aj3:(ch 40 dK).map (iJ c k p 5)=(ch 40 dK).map (iK 5):=by kernel_rfl
theorem aj4:(ch 44 dK).map (iJ c k p 5)=(ch 44 dK).map (iK 5):=by kernel_rfl
theorem aj5:(ch 48 dK).map (iJ c k p 5)=(ch 48 dK).map (iK 5):=by kernel_rfl
theorem aj6:(ch 52 dK).map (iJ c k p 5)=(ch 52 dK).map (iK 5):=by kernel_rfl
theorem aj7:(ch 56 dK).map (iJ c k p 5)=(ch 56 dK).map (iK 5):=by kernel_rfl
theorem aj8:(ch 60 dK).map (iJ c k p 5)=(ch 60 dK).map (iK 5):=by kernel_rfl
theorem aj9:(ch 64 dK).map (iJ c k p 5)=(ch 64 dK).map (iK 5):=by kernel_rfl
theorem aka:(ch 68 dK).map (iJ c k p 5)=(ch 68 dK).map (iK 5):=by kernel_rfl
theorem akb:(ch 72 dK).map (iJ c k p 5)=(ch 72 dK).map (iK 5):=by kernel_rfl
theorem akc:(ch 76 dK).map (iJ c k p 5)=(ch 76 dK).map (iK 5):=by kernel_rfl
theorem akd:(ch 80 dK).map (iJ c k p 5)=(ch 80 dK).map (iK 5):=by kernel_rfl
theorem ake:(ch 84 dK).map (iJ c k p 5)=(ch 84 dK).map (iK 5):=by kernel_rfl
theorem akf:(ch 88 dK).map (iJ c k p 5)=(ch 88 dK).map (iK 5):=by kernel_rfl
theorem aqP{x:Nat×Nat×Nat}(hx:x∈dK):iJ c k p 5 x=iK 5 x:=Cq (bc (amO c k p) (bc (amP c k p) (bc (amQ c k p) (bc (ajW c k p) (bc (ajX c k p) (bc (ajY c k p) (bc (ajZ c k p) (bc (aj0 c k p) (bc (aj1 c k p) (bc (aj2 c k p) (bc (aj3 c k p) (bc (aj4 c k p) (bc (aj5 c k p) (bc (aj6 c k p) (bc (aj7 c k p) (bc (aj8 c k p) (bc (aj9 c k p) (bc (aka c k p) (bc (akb c k p) (bc (akc c k p) (bc (akd c k p) (bc (ake c k p) (bc (akf c k p) (Cr (by decide))))))))))))))))))))))))) hx
theorem ajL:(ch 0 sx).map (iJ c k p 10)=(ch 0 sx).map (iK 10):=by kernel_rfl
theorem ajM:(ch 4 sx).map (iJ c k p 10)=(ch 4 sx).map (iK 10):=by kernel_rfl
theorem ajN:(ch 8 sx).map (iJ c k p 10)=(ch 8 sx).map (iK 10):=by kernel_rfl
theorem apw{x:Nat×Nat×Nat}(hx:x∈sx):iJ c k p 10 x=iK 10 x:=Cq (bc (ajL c k p) (bc (ajM c k p) (bc (ajN c k p) (Cr (by decide))))) hx
theorem akg:(ch 0 gH).map (iJ c k p 77)=(ch 0 gH).map (iK 77):=by kernel_rfl
theorem akh:(ch 4 gH).map (iJ c k p 77)=(ch 4 gH).map (iK 77):=by kernel_rfl
theorem aki:(ch 8 gH).map (iJ c k p 77)=(ch 8 gH).map (iK 77):=by kernel_rfl
theorem aeC:(ch 12 gH).map (iJ c k p 77)=(ch 12 gH).map (iK 77):=by kernel_rfl
theorem aeD:(ch 16 gH).map (iJ c k p 77)=(ch 16 gH).map (iK 77):=by kernel_rfl
theorem aeE:(ch 20 gH).map (iJ c k p 77)=(ch 20 gH).map (iK 77):=by kernel_rfl
theorem aeF:(ch 24 gH).map (iJ c k p 77)=(ch 24 gH).map (iK 77):=by kernel_rfl
theorem aeG:(ch 28 gH).map (iJ c k p 77)=(ch 28 gH).map (iK 77):=by kernel_rfl
theorem aeH:(ch 32 gH).map (iJ c k p 77)=(ch 32 gH).map (iK 77):=by kernel_rfl
theorem apx{x:Nat×Nat×Nat}(hx:x∈gH):iJ c k p 77 x=iK 77 x:=Cq (bc (akg c k p) (bc (akh c k p) (bc (aki c k p) (bc (aeC c k p) (bc (aeD c k p) (bc (aeE c k p) (bc (aeF c k p) (bc (aeG c k p) (bc (aeH c k p) (Cr (by decide))))))))))) hx
end
section
variable(r n:Nat)(cells:List (Nat×bJ))(rest:aa)
def Jb(cd:aa)(f:AV->AV->List AV):Option (AV×AS):=some (.ref (n+2),⟨n+3,(n,.lst cd)::(n+1,.lst [])::(n+2,.inst cp gk (f (.ref n) (.ref (n+1))))::ly r (.orc 1021 rest) cells⟩)
def iH(lvl:Nat)(x:Nat×Nat×Nat):Option (AV×AS):=vQ r n cells (lG [.ref 0] ⟨1,[(0,.orc 1021 (kv lvl x++rest))]⟩)
def iI(lvl:Nat)(x:Nat×Nat×Nat):Option (AV×AS):=Jb r n cells rest [] (fun a b=>.int (am lvl)::kb x a b .none .none)
theorem ams:(ch 0 iY).map (iH r n cells rest 1)=(ch 0 iY).map (iI r n cells rest 1):=by kernel_rfl
theorem amt:(ch 4 iY).map (iH r n cells rest 1)=(ch 4 iY).map (iI r n cells rest 1):=by kernel_rfl
theorem amu:(ch 8 iY).map (iH r n cells rest 1)=(ch 8 iY).map (iI r n cells rest 1):=by kernel_rfl
theorem aiV:(ch 12 iY).map (iH r n cells rest 1)=(ch 12 iY).map (iI r n cells rest 1):=by kernel_rfl
theorem aiW:(ch 16 iY).map (iH r n cells rest 1)=(ch 16 iY).map (iI r n cells rest 1):=by kernel_rfl
theorem aiX:(ch 20 iY).map (iH r n cells rest 1)=(ch 20 iY).map (iI r n cells rest 1):=by kernel_rfl
theorem aiY:(ch 24 iY).map (iH r n cells rest 1)=(ch 24 iY).map (iI r n cells rest 1):=by kernel_rfl
theorem aiZ:(ch 28 iY).map (iH r n cells rest 1)=(ch 28 iY).map (iI r n cells rest 1):=by kernel_rfl
theorem ai0:(ch 32 iY).map (iH r n cells rest 1)=(ch 32 iY).map (iI r n cells rest 1):=by kernel_rfl
theorem ai1:(ch 36 iY).map (iH r n cells rest 1)=(ch 36 iY).map (iI r n cells rest 1):=by kernel_rfl
theorem ai2:(ch 40 iY).map (iH r n cells rest 1)=(ch 40 iY).map (iI r n cells rest 1):=by kernel_rfl
theorem aqI{x:Nat×Nat×Nat}(hx:x∈iY):iH r n cells rest 1 x=iI r n cells rest 1 x:=Cq (bc (ams r n cells rest) (bc (amt r n cells rest) (bc (amu r n cells rest) (bc (aiV r n cells rest) (bc (aiW r n cells rest) (bc (aiX r n cells rest) (bc (aiY r n cells rest) (bc (aiZ r n cells rest) (bc (ai0 r n cells rest) (bc (ai1 r n cells rest) (bc (ai2 r n cells rest) (Cr (by decide))))))))))))) hx
theorem amv:(ch 0 dK).map (iH r n cells rest 5)=(ch 0 dK).map (iI r n cells rest 5):=by kernel_rfl
theorem amw:(ch 4 dK).map (iH r n cells rest 5)=(ch 4 dK).map (iI r n cells rest 5):=by kernel_rfl
theorem amx:(ch 8 dK).map (iH r n cells rest 5)=(ch 8 dK).map (iI r n cells rest 5):=by kernel_rfl
theorem ai3:(ch 12 dK).map (iH r n cells rest 5)=(ch 12 dK).map (iI r n cells rest 5):=by kernel_rfl
theorem ai4:(ch 16 dK).map (iH r n cells rest 5)=(ch 16 dK).map (iI r n cells rest 5):=by kernel_rfl
theorem ai5:(ch 20 dK).map (iH r n cells rest 5)=(ch 20 dK).map (iI r n cells rest 5):=by kernel_rfl
theorem ai6:(ch 24 dK).map (iH r n cells rest 5)=(ch 24 dK).map (iI r n cells rest 5):=by kernel_rfl
theorem ai7:(ch 28 dK).map (iH r n cells rest 5)=(ch 28 dK).map (iI r n cells rest 5):=by kernel_rfl
theorem ai8:(ch 32 dK).map (iH r n cells rest 5)=(ch 32 dK).map (iI r n cells rest 5):=by kernel_rfl
theorem ai9:(ch 36 dK).map (iH r n cells rest 5)=(ch 36 dK).map (iI r n cells rest 5):=by kernel_rfl
theorem aja:(ch 40 dK).map (iH r n cells rest 5)=(ch 40 dK).map (iI r n cells rest 5):=by kernel_rfl
theorem ajb:(ch 44 dK).map (iH r n cells rest 5)=(ch 44 dK).map (iI r n cells rest 5):=by kernel_rfl
theorem ajc:(ch 48 dK).map (iH r n cells rest 5)=(ch 48 dK).map (iI r n cells rest 5):=by kernel_rfl
theorem ajd:(ch 52 dK).map (iH r n cells rest 5)=(ch 52 dK).map (iI r n cells rest 5):=by kernel_rfl
theorem aje:(ch 56 dK).map (iH r n cells rest 5)=(ch 56 dK).map (iI r n cells rest 5):=by kernel_rfl
theorem ajf:(ch 60 dK).map (iH r n cells rest 5)=(ch 60 dK).map (iI r n cells rest 5):=by kernel_rfl
theorem ajg:(ch 64 dK).map (iH r n cells rest 5)=(ch 64 dK).map (iI r n cells rest 5):=by kernel_rfl
theorem ajh:(ch 68 dK).map (iH r n cells rest 5)=(ch 68 dK).map (iI r n cells rest 5):=by kernel_rfl
theorem aji:(ch 72 dK).map (iH r n cells rest 5)=(ch 72 dK).map (iI r n cells rest 5):=by kernel_rfl
theorem ajj:(ch 76 dK).map (iH r n cells rest 5)=(ch 76 dK).map (iI r n cells rest 5):=by kernel_rfl
theorem ajk:(ch 80 dK).map (iH r n cells rest 5)=(ch 80 dK).map (iI r n cells rest 5):=by kernel_rfl
theorem ajl:(ch 84 dK).map (iH r n cells rest 5)=(ch 84 dK).map (iI r n cells rest 5):=by kernel_rfl
theorem ajm:(ch 88 dK).map (iH r n cells rest 5)=(ch 88 dK).map (iI r n cells rest 5):=by kernel_rfl
theorem aqJ{x:Nat×Nat×Nat}(hx:x∈dK):iH r n cells rest 5 x=iI r n cells rest 5 x:=Cq (bc (amv r n cells rest) (bc (amw r n cells rest) (bc (amx r n cells rest) (bc (ai3 r n cells rest) (bc (ai4 r n cells rest) (bc (ai5 r n cells rest) (bc (ai6 r n cells rest) (bc (ai7 r n cells rest) (bc (ai8 r n cells rest) (bc (ai9 r n cells rest) (bc (aja r n cells rest) (bc (ajb r n cells rest) (bc (ajc r n cells rest) (bc (ajd r n cells rest) (bc (aje r n cells rest) (bc (ajf r n cells rest) (bc (ajg r n cells rest) (bc (ajh r n cells rest) (bc (aji r n cells rest) (bc (ajj r n cells rest) (bc (ajk r n cells rest) (bc (ajl r n cells rest) (bc (ajm r n cells rest) (Cr (by decide))))))))))))))))))))))))) hx
theorem aiS:(ch 0 sx).map (iH r n cells rest 10)=(ch 0 sx).map (iI r n cells rest 10):=by kernel_rfl
theorem aiT:(ch 4 sx).map (iH r n cells rest 10)=(ch 4 sx).map (iI r n cells rest 10):=by kernel_rfl
theorem aiU:(ch 8 sx).map (iH r n cells rest 10)=(ch 8 sx).map (iI r n cells rest 10):=by kernel_rfl
theorem ao5{x:Nat×Nat×Nat}(hx:x∈sx):iH r n cells rest 10 x=iI r n cells rest 10 x:=Cq (bc (aiS r n cells rest) (bc (aiT r n cells rest) (bc (aiU r n cells rest) (Cr (by decide))))) hx
theorem ajn:(ch 0 gH).map (iH r n cells rest 77)=(ch 0 gH).map (iI r n cells rest 77):=by kernel_rfl
theorem ajo:(ch 4 gH).map (iH r n cells rest 77)=(ch 4 gH).map (iI r n cells rest 77):=by kernel_rfl
theorem ajp:(ch 8 gH).map (iH r n cells rest 77)=(ch 8 gH).map (iI r n cells rest 77):=by kernel_rfl
theorem aeo:(ch 12 gH).map (iH r n cells rest 77)=(ch 12 gH).map (iI r n cells rest 77):=by kernel_rfl
theorem aep:(ch 16 gH).map (iH r n cells rest 77)=(ch 16 gH).map (iI r n cells rest 77):=by kernel_rfl
theorem aer:(ch 20 gH).map (iH r n cells rest 77)=(ch 20 gH).map (iI r n cells rest 77):=by kernel_rfl
theorem aes:(ch 24 gH).map (iH r n cells rest 77)=(ch 24 gH).map (iI r n cells rest 77):=by kernel_rfl
theorem aet:(ch 28 gH).map (iH r n cells rest 77)=(ch 28 gH).map (iI r n cells rest 77):=by kernel_rfl
theorem aeu:(ch 32 gH).map (iH r n cells rest 77)=(ch 32 gH).map (iI r n cells rest 77):=by kernel_rfl
theorem ao6{x:Nat×Nat×Nat}(hx:x∈gH):iH r n cells rest 77 x=iI r n cells rest 77 x:=Cq (bc (ajn r n cells rest) (bc (ajo r n cells rest) (bc (ajp r n cells rest) (bc (aeo r n cells rest) (bc (aep r n cells rest) (bc (aer r n cells rest) (bc (aes r n cells rest) (bc (aet r n cells rest) (bc (aeu r n cells rest) (Cr (by decide))))))))))) hx
end
def ow(n:Nat):Option (List AV):=bD (zT [qp n] ⟨0,[]⟩) fun t _=>eo t fun t=>kL t false
theorem nmE{P:Nat->Prop}(h0:P 0)(h1:P 1)(h2:P 2)(h3:P 3)(h4:P 4)(h5:P 5)(h6:P 6)(h7:P 7)(h8:P 8)(h9:P 9)(h10:P 10)(h11:P 11)(h12:P 12)(h13:P 13)(h14:P 14)(h15:P 15)(h16:P 16){n:Nat}(hn:n<17):P n:=by
 rcases n with _|_|_|_|_|_|_|_|_|_|_|_|_|_|_|_|_|n
 all_goals first|assumption|exact absurd hn (ci.mpr (jt 17 n))
section
variable(r n:Nat)(cells:List (Nat×bJ))(rest:aa)
def pD(i:Nat):Option (AV×AS):=vQ r n cells (lG [.ref 0] ⟨1,[(0,.orc 1021 (fF i++rest))]⟩)
def pE(i:Nat):Option (AV×AS):=Jb r n cells rest [qp i] (aiq i)
def Av(i l:Nat):Option (AV×AS):=vQ r n cells (lG [.ref 0] ⟨1,[(0,.orc 1021 (gF i l++rest))]⟩)
def Aw(i l:Nat):Option (AV×AS):=Jb r n cells rest [] (aiR i l)
def Ay(i l:Nat)(p:AV):Option (List AV):=uO (.frz cp gk (kg i l p)) false
theorem aqu:ow 0=some (fF 0):=by kernel_rfl
theorem aqk:pD r n cells rest 0=pE r n cells rest 0:=by kernel_rfl
theorem aqv:ow 1=some (fF 1):=by kernel_rfl
theorem aql:pD r n cells rest 1=pE r n cells rest 1:=by kernel_rfl
theorem aqw:ow 2=some (fF 2):=by kernel_rfl
theorem aqm:pD r n cells rest 2=pE r n cells rest 2:=by kernel_rfl
theorem aqx:ow 3=some (fF 3):=by kernel_rfl
theorem aqn:pD r n cells rest 3=pE r n cells rest 3:=by kernel_rfl
theorem aqy:ow 4=some (fF 4):=by kernel_rfl
theorem aqo:pD r n cells rest 4=pE r n cells rest 4:=by kernel_rfl
theorem aqz:ow 5=some (fF 5):=by kernel_rfl
theorem aqp:pD r n cells rest 5=pE r n cells rest 5:=by kernel_rfl
theorem aqA:ow 6=some (fF 6):=by kernel_rfl
theorem aqq:pD r n cells rest 6=pE r n cells rest 6:=by kernel_rfl
theorem aqB:ow 7=some (fF 7):=by kernel_rfl
theorem aqr:pD r n cells rest 7=pE r n cells rest 7:=by kernel_rfl
theorem aqC:ow 8=some (fF 8):=by kernel_rfl
theorem aqs:pD r n cells rest 8=pE r n cells rest 8:=by kernel_rfl
theorem aqD:ow 9=some (fF 9):=by kernel_rfl
theorem aqt:pD r n cells rest 9=pE r n cells rest 9:=by kernel_rfl
theorem aoP:ow 10=some (fF 10):=by kernel_rfl
theorem aoI:pD r n cells rest 10=pE r n cells rest 10:=by kernel_rfl
theorem aoQ:ow 11=some (fF 11):=by kernel_rfl
theorem aoJ:pD r n cells rest 11=pE r n cells rest 11:=by kernel_rfl
theorem aoR:ow 12=some (fF 12):=by kernel_rfl
theorem aoK:pD r n cells rest 12=pE r n cells rest 12:=by kernel_rfl
theorem aoS:ow 13=some (fF 13):=by kernel_rfl
theorem aoL:pD r n cells rest 13=pE r n cells rest 13:=by kernel_rfl
theorem aoT:ow 14=some (fF 14):=by kernel_rfl
theorem aoM:pD r n cells rest 14=pE r n cells rest 14:=by kernel_rfl
theorem aoU:ow 15=some (fF 15):=by kernel_rfl
theorem aoN:pD r n cells rest 15=pE r n cells rest 15:=by kernel_rfl
theorem aoV:ow 16=some (fF 16):=by kernel_rfl
theorem aoO:pD r n cells rest 16=pE r n cells rest 16:=by kernel_rfl
theorem nmS{i:Nat}(hi:i<17):ow i=some (fF i):=nmE (P:=fun i=>ow i=some (fF i)) aqu aqv aqw aqx aqy aqz aqA aqB aqC aqD aoP aoQ aoR aoS aoT aoU aoV hi
theorem nmR{i:Nat}(hi:i<17):pD r n cells rest i=pE r n cells rest i:=nmE (P:=fun i=>pD r n cells rest i=pE r n cells rest i) (aqk r n cells rest) (aql r n cells rest) (aqm r n cells rest) (aqn r n cells rest) (aqo r n cells rest) (aqp r n cells rest) (aqq r n cells rest) (aqr r n cells rest) (aqs r n cells rest) (aqt r n cells rest) (aoI r n cells rest) (aoJ r n cells rest) (aoK r n cells rest) (aoL r n cells rest) (aoM r n cells rest) (aoN r n cells rest) (aoO r n cells rest) hi
theorem aph(p:AV):Ay 17 0 p=some (gF 17 0):=by kernel_rfl
theorem ao7:Av r n cells rest 17 0=Aw r n cells rest 17 0:=by kernel_rfl
theorem api(l:Nat)(p:AV):Ay 17 (l+1) p=some (gF 17 (l+1)):=by kernel_rfl
theorem ao8(l:Nat):Av r n cells rest 17 (l+1)=Aw r n cells rest 17 (l+1):=by kernel_rfl
theorem apj(p:AV):Ay 18 0 p=some (gF 18 0):=by kernel_rfl
theorem ao9:Av r n cells rest 18 0=Aw r n cells rest 18 0:=by kernel_rfl
theorem apk(l:Nat)(p:AV):Ay 18 (l+1) p=some (gF 18 (l+1)):=by kernel_rfl
theorem apa(l:Nat):Av r n cells rest 18 (l+1)=Aw r n cells rest 18 (l+1):=by kernel_rfl
theorem apl(p:AV):Ay 19 0 p=some (gF 19 0):=by kernel_rfl
theorem apb:Av r n cells rest 19 0=Aw r n cells rest 19 0:=by kernel_rfl
theorem apm(l:Nat)(p:AV):Ay 19 (l+1) p=some (gF 19 (l+1)):=by kernel_rfl
theorem apc(l:Nat):Av r n cells rest 19 (l+1)=Aw r n cells rest 19 (l+1):=by kernel_rfl
theorem apn(p:AV):Ay 20 0 p=some (gF 20 0):=by kernel_rfl
theorem apd:Av r n cells rest 20 0=Aw r n cells rest 20 0:=by kernel_rfl
theorem apo(l:Nat)(p:AV):Ay 20 (l+1) p=some (gF 20 (l+1)):=by kernel_rfl
theorem ape(l:Nat):Av r n cells rest 20 (l+1)=Aw r n cells rest 20 (l+1):=by kernel_rfl
theorem apq(p:AV):Ay 21 0 p=some (gF 21 0):=by kernel_rfl
theorem apf:Av r n cells rest 21 0=Aw r n cells rest 21 0:=by kernel_rfl
theorem apr(l:Nat)(p:AV):Ay 21 (l+1) p=some (gF 21 (l+1)):=by kernel_rfl
theorem apg(l:Nat):Av r n cells rest 21 (l+1)=Aw r n cells rest 21 (l+1):=by kernel_rfl
theorem rnE{P:Nat->Nat->Prop}(h0:P 0 0)(k0: ∀l,P 0 (l+1))(h1:P 1 0)(k1: ∀l,P 1 (l+1))(h2:P 2 0)(k2: ∀l,P 2 (l+1))(h3:P 3 0)(k3: ∀l,P 3 (l+1))(h4:P 4 0)(k4: ∀l,P 4 (l+1)){i:Nat}(hi:i<5)(l:Nat):P i l:=by
 rcases i with _|_|_|_|_|i
 all_goals first|(cases l<;>first|assumption|(first|exact k0 _|exact k1 _|exact k2 _|exact k3 _|exact k4 _))|exact absurd hi (ci.mpr (jt 5 i))
theorem rnS{i:Nat}(hi:i<5)(l:Nat)(p:AV):Ay (17+i) l p=some (gF (17+i) l):=rnE (P:=fun i l=>Ay (17+i) l p=some (gF (17+i) l)) (aph p) (fun l=>api l p) (apj p) (fun l=>apk l p) (apl p) (fun l=>apm l p) (apn p) (fun l=>apo l p) (apq p) (fun l=>apr l p) hi l
theorem rnR{i:Nat}(hi:i<5)(l:Nat):Av r n cells rest (17+i) l=Aw r n cells rest (17+i) l:=rnE (P:=fun i l=>Av r n cells rest (17+i) l=Aw r n cells rest (17+i) l) (ao7 r n cells rest) (fun l=>ao8 r n cells rest l) (ao9 r n cells rest) (fun l=>apa r n cells rest l) (apb r n cells rest) (fun l=>apc r n cells rest l) (apd r n cells rest) (fun l=>ape r n cells rest l) (apf r n cells rest) (fun l=>apg r n cells rest l) hi l
end
noncomputable def bad:List AV:=[.ref 0]
def rn(lvl:Nat):Bool:=FZ lvl [1,5,10,77]
def itM(lvl i:Nat):List AV:=bif rn lvl then kv lvl (kd lvl i)else bad
def nmM(lv i:Nat):List AV:=bif bz (kd lv i).1 17 then fF (kd lv i).1 else bad
def rnM(i l:Nat):List AV:=bif bz (kd 1 i).1 5 then gF (17+(kd 1 i).1) l else bad
def vT(m x y:Nat):List AV:=bif aj m 1 then itM x y else bif aj m 2 then nmM x y else bif aj m 3 then rnM x y else bad
def iC(ks:ac):List AV:=(Ll ks fun m x y=>some (vT m x y)).getD bad
noncomputable def Yj(r:Rt):Bool:=bif aj r.lvl 1 then cX r.ts.length 2 else aj r.lvl 77&&(r.ts.isEmpty&&aj r.ren 0)
def okC(code:ac):Bool:=(rh code fun lv _=>some (aj (Bg code).lvl lv)).getD false&&Yj (Bg code)
def RY(code:ac):List AV:=bif okC code then xp iC (FQ (Bg code))else bad
def mac(ks:ac):List AV:=bu (motive:=fun _=>List AV) [] (fun m r _=>bif aj m 4 then RY r else iC ks) ks
theorem lvE{P:Nat->Prop}{x:Nat}(h:rn x=true)(h1:P 1)(h5:P 5)(h10:P 10)(h77:P 77):P x:=by
 have q: ∀{y:Nat},aj x y=true->y=x:=fun h=>(aD h).symm
 have h:FZ x [1,5,10,77]=true:=h
 rw[Ja,Ja,Ja,Ja,show FZ x []=false from rfl,Bool.or_false]at h
 exact rE h (fun h=>q h▸h1) fun h=>rE h (fun h=>q h▸h5) fun h=>rE h (fun h=>q h▸h10) fun h=>q h▸h77
theorem Yd{α:Type}{l:List α}: ∀{i:Nat} {x:α},Qj l i=some x->x∈l:=by
 induction l with
 |nil=>exact fun h=>nn h
 |cons a l ih=>
  intro i x h
  cases i with
  |zero=>exact s1 (P:=fun x=>x∈a::l) h (bf ..)
  |succ i=>exact aQ _ (ih h)
theorem Vh(lvl i:Nat):kd lvl i∈kT lvl:=by
 unfold kd
 cases h:Qj (kT lvl) i with
 |some x=>exact Yd h
 |none=>
  have: ∃x,Qj (kT lvl) 0=some x:=by
   unfold kT
   cases aj lvl 1
   ·cases aj lvl 5
    ·cases aj lvl 10<;>exact⟨_,rfl⟩
    ·exact⟨_,rfl⟩
   ·exact⟨_,rfl⟩
  obtain⟨x,hx⟩:=this
  rw[hx];exact Yd hx
theorem Jk{a:AV}{l:aa}:dj (a::l)=((mR a fun c _ _=>some (!aj c 0)).getD false&&dj l):=rfl
theorem ls{l m:aa}:dj (l++m)=(dj l&&dj m):=oJ
theorem EE{a:Bool}{l:List (List Nat×List Nat×Nat)}: ∀{c:Nat} {a:Bool},dj (wH a c l)=true:=by
 induction l with
 |nil=>exact rfl
 |cons x l ih=>exact fun{c a}=>show(true&&dj (wH false (c+x.2.2) l))=true from ih
theorem acp{a:AV}(h:(mR a fun c _ _=>some (!aj c 0)).getD false=true)(mac:List Nat->List AV)(r:aa):xp mac (a::r)=a::xp mac r/\HJ a=false:=Vz (Q:=fun a=>xp mac (a::r)=a::xp mac r/\HJ a=false) h fun c ks vs h=>⟨by rw[EP,h];rfl,show(aj c 0&&CI ks)=false by rw[h];rfl⟩
theorem EO{mac:List Nat->List AV}{l m:aa}:dj l=true->xp mac (l++m)=l++xp mac m/\(vg mac m->vg mac (l++m)):=by
 induction l with
 |nil=>exact fun _=>⟨rfl,id⟩
 |cons a l ih=>exact fun h=>aE (Jk▸h) fun h1 h2=>⟨((acp h1 mac (l++m)).1).trans (congrArg (a:: ·) (ih h2).1),fun w=>⟨fun z=>ff ((acp h1 mac []).2.symm.trans z),(ih h2).2 w⟩⟩
theorem zn{P:Prop}(h:aN bad=true):P:=ff h
theorem aas{m x y:Nat}{P:Prop}(h:aN (vT m x y)=true)(k1:m=1->rn x=true->vT m x y=kv x (kd x y)->P)(k2:m=2->(kd x y).1<17->vT m x y=fF (kd x y).1->P)(k3:m=3->(kd 1 x).1<5->vT m x y=gF (17+(kd 1 x).1) y->P):P:=by
 unfold vT at h k1 k2 k3
 cases q:aj m 1 with
 |true=>
  rw[q]at h k1
  unfold itM at h k1
  cases z:rn x with
  |true=>rw[z]at k1;exact k1 (aD q) rfl rfl
  |false=>rw[z]at h;exact zn h
 |false=>
  rw[q]at h k2 k3
  cases q:aj m 2 with
  |true=>
   rw[q]at h k2
   unfold nmM at h k2
   cases z:bz (kd x y).1 17 with
   |true=>rw[z]at k2;exact k2 (aD q) (dh.mp z) rfl
   |false=>rw[z]at h;exact zn h
  |false=>
   rw[q]at h k3
   cases q:aj m 3 with
   |true=>
    rw[q]at h k3
    unfold rnM at h k3
    cases z:bz (kd 1 x).1 5 with
    |true=>rw[z]at k3;exact k3 (aD q) (dh.mp z) rfl
    |false=>rw[z]at h;exact zn h
   |false=>rw[q]at h;exact zn h
theorem Tb{lvl:Nat}{x:Nat×Nat×Nat}:dj (kv lvl x)=true:=EE (a:=false)
theorem aik{m x y:Nat}(h:aN (vT m x y)=true):dj (vT m x y)=true:=aas h (fun _ _ e=>e▸Tb) (fun _ _ e=>e▸EE (a:=false)) fun _ _ e=>e▸EE (a:=false)
theorem XX{ks:ac}(h:aN (iC ks)=true):dj (iC ks)=true:=by
 unfold iC at h ⊢
 cases e:Ll ks fun m x y=>some (vT m x y)with
 |none=>rw[e]at h;exact zn h
 |some l=>
  rw[e]at h
  exact kJ (Q:=fun _=>dj l=true) e fun m ks e=>kJ (Q:=fun _=>dj l=true) e fun x ks e=>kJ (Q:=fun _=>dj l=true) e fun y ks e=>kS e fun _ e=>s1 (P:=fun l=>aN l=true->dj l=true) e aik h
noncomputable def rR(l:List (List Nat)):List AV:=l.map fun ks=>.frz 0 ks []
theorem zK{f:List Nat->List AV}{l:List (List Nat)}{m:aa}:xp f (rR l++m)=xp f (rR l)++xp f m:=by
 induction l with
 |nil=>rfl
 |cons a l ih=>exact(congrArg (f a++ ·) ih).trans (aB ..).symm
theorem abo{l:List (List Nat)}(h:aN (xp iC (rR l))=true):dj (xp iC (rR l))=true:=by
 induction l with
 |nil=>rfl
 |cons a l ih=>
  have h:aN (iC a++xp iC (rR l))=true:=h
  rw[b8]at h
  show dj (iC a++xp iC (rR l))=true
  rw[ls]
  exact aE h fun h1 h2=>by rw[XX h1,ih h2];rfl
theorem tw{mac:List Nat->List AV}{l l':aa}{c:bJ}(h:lM mac l c)(he:xp mac l'=xp mac l)(hw:vg mac l->vg mac l'):lM mac l' c:=by
 obtain⟨w,pre,h⟩:=h
 exact⟨hw w,pre,he.symm▸h⟩
theorem adk{mac:List Nat->List AV}{l l':aa}{c:bJ}(h:lM mac l c)(he:xp mac l=l'++xp mac m):aN l'=true:=by
 obtain⟨w,pre,_,_,h,_⟩:=h
 rw[he,b8]at h
 exact aE h fun h _=>h
theorem ZH{mac:List Nat->List AV}(hm: ∀ks,aN (mac ks)=true->dj (mac ks)=true){ks:ac}{vs l:aa}{c:bJ}(h:lM mac (.frz 0 ks vs::l) c):aN (mac ks)=true/\lM mac (mac ks++l) c:=
 have hn:aN (mac ks)=true:=adk (m:=l) h rfl
 have hp:=EO (mac:=mac) (m:=l) (hm ks hn)
 ⟨hn,tw h hp.1 fun w=>hp.2 w.2⟩
theorem Tp{m:Nat}{r:ac}:mac (m::r)=bif aj m 4 then RY r else iC (m::r):=rfl
noncomputable def Hf(lvl:Nat)(l:Lf):List (List Nat):=[1,lvl,l.i]::(bif l.c then[[2,lvl,l.i]]else[])
noncomputable def abZ(t:Tn):List (List Nat):=match t with
 | .leaf l=>Hf 5 l
 | .grp g a=>Hf 5 g++Hf 10 a
 | .grp2 g a b=>Hf 5 g++(Hf 10 a++Hf 10 b)
def ab0(ts:List Tn):List (List Nat):=bu (motive:=fun _=>List (List Nat)) [] (fun t _ ih=>abZ t++ih) ts
noncomputable def enN(i n:Nat):List (List Nat):=hH (motive:=fun _=>List (List Nat)) [] (fun l _=>[[3,i,l]]) n
def agt(r:Rt):List (List Nat):=Hf r.lvl r.it++(ab0 r.ts++enN r.it.i r.ren)
theorem kK{l m:List (List Nat)}:rR (l++m)=rR l++rR m:=bt
theorem ug(lvl:Nat)(l:Lf):Cy lvl l=rR (Hf lvl l):=by
 obtain⟨i,c⟩:=l
 cases c<;>rfl
theorem agw(t:Tn):agv t=rR (abZ t):=by
 cases t with
 |leaf l=>exact ug 5 l
 |grp g a=>exact(congr (congrArg _ (ug 5 g)) (ug 10 a)).trans kK.symm
 |grp2 g a b=>exact(congr (congrArg _ (ug 5 g)) ((congr (congrArg _ (ug 10 a)) (ug 10 b)).trans kK.symm)).trans kK.symm
theorem adq(ts:List Tn):U4 ts=rR (ab0 ts):=by
 induction ts with
 |nil=>rfl
 |cons t ts ih=>exact(congr (congrArg _ (agw t)) ih).trans kK.symm
theorem NI(r:Rt):FQ r=rR (agt r):=by
 have h:agu r=rR (enN r.it.i r.ren):=by
  obtain⟨lv,it,ts,n⟩:=r
  cases n<;>rfl
 exact(congr (congrArg _ (ug _ _)) ((congr (congrArg _ (adq _)) h).trans kK.symm)).trans kK.symm
theorem Vn: ∀ks,aN (mac ks)=true->dj (mac ks)=true:=by
 intro ks h
 cases ks with
 |nil=>rfl
 |cons m r=>
  rw[Tp]at h ⊢
  cases q:aj m 4 with
  |true=>
   rw[q]at h
   have h:aN (RY r)=true:=h
   show dj (RY r)=true
   unfold RY at h ⊢
   cases z:okC r with
   |true=>
    rw[z]at h
    have h:aN (xp iC (FQ (Bg r)))=true:=h
    show dj (xp iC (FQ (Bg r)))=true
    rw[NI]at h ⊢
    exact abo h
   |false=>rw[z]at h;exact zn h
  |false=>rw[q]at h;exact XX h
section
variable{C:PC}{kF:Nat}{f:ah}(R:qh C mac bx VB)
include R
theorem xK{ks:ac}{vs l:aa}{c:bJ}(h:C.conc 1021 (.frz 0 ks vs::l) c):aN (mac ks)=true/\C.conc 1021 (mac ks++l) c:=
 (ZH Vn ((R.rdr _ _).mp h)).imp id (R.rdr _ _).mpr
end
theorem ah2{σ:AS}{r:Nat}{CU L:aa}{PI:aW}(hr:σ.get r=some (.orc 1021 CU)):um wJ PI [.ref r] (σ.set r (.orc 1021 L))=vQ r σ.next (ly r (.orc 1021 L) σ.cells) (PI [.ref 0] ⟨1,[(0,.orc 1021 L)]⟩):=by
 show ob ((σ.set r (.orc 1021 L)).get r) _=_
 rw[eB hr];rfl
theorem KT{r n:Nat}{cells:List (Nat×bJ)}{c:bJ}{l cd:aa}{f:AV->AV->List AV}:Jb r n (ly r c cells) l cd f=Jb r n cells l cd f:=by
 unfold Jb;rw[oz]
@[elab_as_elim] theorem aat {β:Type} {t:AV} {f:List Nat->Option β} {x:β} {Q:AV->Prop} (e:acm t f=some x) (kk: ∀ks vs,f ks=some x->Q (.frz 0 ks vs)):Q t:=
 s8 e fun c ks vs e=>kS e fun q e=>by rw[aD q];exact kk ks vs e
@[elab_as_elim] theorem VZ {β:Type} {ks:ac} {f:Nat->Nat->Nat->Option β} {x:β} {Q:List Nat->Prop} (e:Ll ks f=some x) (kk: ∀a b c,f a b c=some x->Q [a,b,c]):Q ks:=
 kJ e fun a r e=>kJ (Q:=fun r=>Q (a::r)) e fun b r e=>kJ (Q:=fun r=>Q (a::b::r)) e fun c r e=>kS e fun z e=>by rw[PQ z];exact kk a b c e
theorem aev{σ:AS}{r:Nat}{CU l:aa}{m x y:Nat}(hr:σ.get r=some (.orc 1021 CU))(h:aN (vT m x y)=true):qH [.ref r] (σ.set r (.orc 1021 (vT m x y++l)))=ajr σ r l m x y:=by
 refine(ah2 hr).trans ?_
 refine aas h (fun h1 h2 e=> ?_) (fun h1 h2 e=> ?_) fun h1 h2 e=> ?_
 ·rw[e,h1]
  show _=Jb r σ.next σ.cells l [] (fun a b=>XM x y a b .none)
  refine yG ?_ (KT (c:=.orc 1021 (kv x (kd x y)++l)))
  exact lvE (P:=fun x=>kd x y∈kT x->iH r σ.next _ l x (kd x y)=iI r σ.next _ l x (kd x y)) h2 (fun h=>aqI _ _ _ _ h) (fun h=>aqJ _ _ _ _ h) (fun h=>ao5 _ _ _ _ h) (fun h=>ao6 _ _ _ _ h) (Vh x y)
 ·rw[e,h1]
  show _=Jb r σ.next σ.cells l [qp (kd x y).1] (aiq (kd x y).1)
  exact(nmR _ _ _ _ h2).trans KT
 ·rw[e,h1]
  show _=Jb r σ.next σ.cells l [] (aiR (17+(kd 1 x).1) y)
  exact(rnR _ _ _ _ h2 y).trans KT
theorem Qe{m x y:Nat}(h:aj m 4=false):mac [m,x,y]=vT m x y:=by rw[Tp,h];rfl
theorem Ro{C:PC}{kF:Nat}{f:ah}(R:qh C mac bx VB)(hF:aF C kF f qH):aF C kF f ww:=pG hF fun args σ a ai e=>nZ e fun r as L hr e=>An e fun e=>by
 revert hr
 refine kJ e fun t l e=> ?_
 refine aat e fun ks vs e=> ?_
 refine VZ e fun m x y e hr=> ?_
 have h4:aj m 4=false:=by
  cases z:aj m 4 with
  |false=>rfl
  |true=>rw[aD z]at e;exact nn e
 refine⟨r,1021,_,hr,fun hc _=>⟨mac [m,x,y]++l,fun c h=>(xK R h).2,?_⟩⟩
 obtain⟨c,hc⟩:=hc
 have h:=(xK R hc).1
 rw[Qe h4]at h ⊢
 exact(aev hr h).trans e
section
variable{σ:AS}{r:Nat}{l:aa}
theorem aaI(hr:σ.get r=some (.orc 1021 l)){F:aW}:fm dr F gP (.ref r) σ=some F:=jm (show FM (.ref r) σ=some 1021 from jm hr)
theorem Yv(hr:σ.get r=some (.orc 1021 l)){o:Option AV}(h:jL l 0=some o):Il [.ref r] σ=some (o.getD .none,σ):=by
 have h1:rd σ r=some l:=jm hr
 have h2:Il [.ref r] σ=ob (jL l 0) fun o=>some (od o some (some .none)|>.getD .none,σ):=jm h1
 rw[h2,h,b9,Vu]
theorem aca(hr:σ.get r=some (.orc 1021 l))(h:jL l 0=some none):jX [.ref r] σ=some (.bool false,σ):=by
 have hp:=Yv hr h
 show ob (jY [.ref r] σ) ir=_
 simp only[jY,yV,dk,fH,eJ,bk,kI,pd,fq,ae,aX,b9,aaI hr,cq,hp,tJ,dF,sA,sB,putN,ek,Es,wI,fD,akX,d6,I2,S7,eD,iT,dI,gB]
theorem acb(hr:σ.get r=some (.orc 1021 l)){t:AV}{w:ac}(h:jL l 0=some (some t))(h2:pH 2 t=some (.str w)):jX [.ref r] σ=some (.bool (dm w pV),σ):=by
 have hp:=Yv hr h
 show ob (jY [.ref r] σ) ir=_
 simp only[jY,yV,dk,fH,eJ,bk,kI,pd,fq,ae,aX,b9,aaI hr,cq,hp,nO,dF,sA,sB,putN,ek,Es,wI,fD,(j7 (σ:=σ) h2).2.2,d6,I2,(j7 (σ:=σ) h2).2.1,fx,iT,af,gn,(j7 (σ:=σ) h2).1,ZW,dI,gB]
 rfl
end
noncomputable def rm(l:aa):Bool:=l.all fun a=>(mR a fun c _ _=>some (!aj c 0)).getD true
theorem air{l:aa}:dj l=true->rm l=true:=by
 induction l with
 |nil=>exact fun _=>rfl
 |cons a l ih=>
  refine fun h=>aE (Jk▸h) fun h1 h2=>Vz (Q:=fun a=>rm (a::l)=true) h1 fun c ks vs h=> ?_
  show(!aj c 0&&rm l)=true
  rw[h,ih h2];rfl
theorem aef{l m:aa}:rm (l++m)=(rm l&&rm m):=oJ
theorem Q3{mac:List Nat->List AV}{l:aa}:rm l=true->xp mac l=l/\vg mac l:=by
 induction l with
 |nil=>exact fun _=>⟨rfl,trivial⟩
 |cons a l ih=>
  refine fun h=>aE (show((mR a fun c _ _=>some (!aj c 0)).getD true&&rm l)=true from h) fun h1 h2=> ?_
  obtain⟨i1,i2⟩:=ih h2
  by_cases q: ∃c ks vs,a= .frz c ks vs
  ·obtain⟨c,ks,vs,rfl⟩:=q
   have h1:aj c 0=false:=pn h1
   refine⟨by rw[EP,h1,i1];rfl,fun z=> ?_,i2⟩
   have z:(aj c 0&&CI ks)=true:=z
   rw[h1]at z;exact ff z
  ·have:xp mac (a::l)=a::xp mac l/\HJ a=false:=by
    cases a<;>first|exact⟨rfl,rfl⟩|exact absurd ⟨_,_,_,rfl⟩ q
   exact⟨this.1.trans (congrArg (a:: ·) i1),fun z=>ff (this.2.symm.trans z),i2⟩
theorem ais{l:aa}:aN (xp mac l)=true->rm (xp mac l)=true:=by
 induction l with
 |nil=>exact fun _=>rfl
 |cons a l ih=>
  intro h
  by_cases q: ∃c ks vs,a= .frz c ks vs
  ·obtain⟨c,ks,vs,rfl⟩:=q
   rw[EP]at h ⊢
   cases z:aj c 0 with
   |true=>
    rw[z]at h
    have h:aN (mac ks++xp mac l)=true:=h
    show rm (mac ks++xp mac l)=true
    rw[b8]at h
    rw[aef]
    exact aE h fun h1 h2=>by rw[air (Vn ks h1),ih h2];rfl
   |false=>
    rw[z]at h
    have h:(noRef (.frz c ks vs)&&aN (xp mac l))=true:=h
    show(!aj c 0&&rm (xp mac l))=true
    rw[z]
    exact aE h fun _ h2=>ih h2
  ·have:xp mac (a::l)=a::xp mac l/\rm (a::xp mac l)=rm (xp mac l):=by
    cases a<;>first|exact⟨rfl,rfl⟩|exact absurd ⟨_,_,_,rfl⟩ q
   rw[this.1]at h ⊢
   exact this.2.trans (aE (show(noRef a&&aN (xp mac l))=true from h) fun _ h2=>ih h2)
theorem Vp{l:aa}(h:EB l=true)(hm:rm l=true):jL l 0=some none\/ ∃t w,jL l 0=some (some t)/\pH 2 t=some (.str w)/\dm w pV=false:=by
 cases l with
 |nil=>exact .inl rfl
 |cons t l=>
  have h:(ob (pH 2 t) fun v=>eo v fun w=>some (!dm w pV)).getD false=true:=h
  generalize e:ob (pH 2 t) _=o at h
  cases o with
  |none=>exact ff h
  |some b=>
   refine oE e fun v hv e=> ?_
   revert hv
   refine fU e fun w e hv=> ?_
   have hw:dm w pV=false:=pn ((aH e).trans h)
   refine .inr ⟨t,w,?_,hv,hw⟩
   refine s8 (Q:=fun t=>rm (t::l)=true->jL (t::l) 0=some (some t)) hv (fun c ks vs _ hm=> ?_) hm
   have hc:aj c 0=false:=aE (show(!aj c 0&&rm l)=true from hm) fun h _=>pn h
   show(bif aj c 0 then _ else _)=_
   rw[hc];rfl
theorem aed{m x y:Nat}(h:aN (vT m x y)=true)(l:aa): ∃t,jL (vT m x y++l) 0=some (some t)/\pH 2 t=some (.str pV):=aas h (fun _ _ e=>e▸⟨_,rfl,rfl⟩) (fun _ _ e=>e▸⟨_,rfl,rfl⟩) fun _ _ e=>e▸⟨_,rfl,rfl⟩
section
variable{C:PC}{kF:Nat}{f:ah}(R:qh C mac bx VB)
include R
theorem SL{l:aa}{c:bJ}(h:C.conc 1021 l c):rm (xp mac l)=true/\C.conc 1021 (xp mac l) c:=by
 have h:=(R.rdr _ _).mp h
 have hn:aN (xp mac l)=true:=by obtain⟨_,_,_,_,h,_⟩:=h;exact h
 have hm:=ais hn
 exact⟨hm,(R.rdr _ _).mpr (tw h (Q3 hm).1 fun _=>(Q3 hm).2)⟩
omit R in
theorem F5{F F':aW}(hF:aF C kF f F)(H: ∀args σ a ai,F' args σ=some (a,ai)-> ∃r kk l,σ.get r=some (.orc kk l)/\((∃c,C.conc kk l c)-> ∃bC dQ gY,(∀c,C.conc kk l c->C.conc kk bC c)/\F args (σ.set r (.orc kk bC))=some (a,σ.set r (.orc kk dQ))/\(∀c,C.conc kk dQ c->C.conc kk gY c)/\ai=σ.set r (.orc kk gY))):aF C kF f F':=fun A Rm W σ s args vs Re hv tk a ai e=>by
 refine Xo (H args σ a ai e) fun r kk l hr h1=> ?_
 obtain⟨p,a1,⟨c,q1,q2⟩,_⟩:=Re.cell r _ hr
 refine Xq (h1 ⟨c,q1⟩) fun bC dQ gY h1 e1 h2 h3=> ?_
 have hc:d5 C W s.heap p (.orc kk bC):=⟨c,h1 c q1,q2⟩
 refine eC (hF A Rm W _ s args vs (Re.set hr a1 (fun _ _ _ e=>e) hc) hv tk a _ e1) fun v s' ⟨hs,W',le,R',hv'⟩=>⟨hs,W',le,?_,hv'⟩
 have e2:(σ.set r (.orc kk dQ)).get r=some (.orc kk dQ):=eB hr
 obtain⟨p,a1,⟨c,q1,q2⟩,_⟩:=R'.cell r _ e2
 have hc:d5 C W' s'.heap p (.orc kk gY):=⟨c,h2 c q1,q2⟩
 have R3:=R'.set e2 a1 (fun _ _ _ e=>e) hc
 rw[h3,show σ.set r (.orc kk gY)=(σ.set r (.orc kk dQ)).set r (.orc kk gY) from congrArg (AS.mk σ.next) (oz ..).symm]
 exact R3
theorem Qa{F:aW}{r:Nat}{σ ai:AS}{a b:AV}{l bC:aa}(hr:σ.get r=some (.orc 1021 l))(e:some (b,σ)=some (a,ai))(h: ∀c,C.conc 1021 l c->C.conc 1021 bC c)(he:xp mac bC=xp mac l)(hc: ∃c,C.conc 1021 l c)(hF:F [.ref r] (σ.set r (.orc 1021 bC))=some (b,σ.set r (.orc 1021 bC))):
  ∃bC dQ gY,(∀c,C.conc 1021 l c->C.conc 1021 bC c)/\F [.ref r] (σ.set r (.orc 1021 bC))=some (a,σ.set r (.orc 1021 dQ))/\(∀c,C.conc 1021 dQ c->C.conc 1021 gY c)/\ai=σ.set r (.orc 1021 gY):=by
 apply s2 e
 obtain⟨c,hc⟩:=hc
 exact⟨bC,bC,l,h,hF,fun c h=>(R.rdr _ _).mpr (tw ((R.rdr _ _).mp h) he.symm fun _=>((R.rdr _ _).mp hc).1),(EJ hr).symm⟩
theorem Kh(hF:aF C kF f jX):aF C kF f qb:=F5 hF fun args σ a ai e=>nZ e fun r as L hr e=>An e fun e=>⟨r,1021,L,hr,fun hc=>by
 cases L with
 |nil=>exact Qa R hr e (fun _ h=>h) rfl hc (aca (eB hr) rfl)
 |cons t l=>
  revert hr hc
  refine aat e fun ks vs e=> ?_
  intro hr hc
  obtain⟨c,hc'⟩:=hc
  refine bE e (fun z e=> ?_) fun z e=> ?_
  ·have hz:=PQ z
   subst hz
   obtain⟨hm,_⟩:=SL R hc'
   have hx:xp mac (xp mac (.frz 0 [] vs::l))=xp mac (.frz 0 [] vs::l):=(Q3 hm).1
   have hn:EB (xp mac (.frz 0 [] vs::l))=true:=((R.rdr _ _).mp hc').1.1 rfl
   refine Qa R hr e (fun c h=>(SL R h).2) hx ⟨c,hc'⟩ ?_
   rcases Vp hn hm with h|⟨t,w,h1,h2,h3⟩
   ·exact aca (eB hr) h
   ·rw[<- h3];exact acb (eB hr) h1 h2
  ·revert hr hc'
   refine VZ e fun m x y e=>kS e fun z e hr hc'=> ?_
   have h4:aj m 4=false:=by
    cases q:aj m 4 with
    |false=>rfl
    |true=>rw[aD q]at z;exact ff z
   obtain⟨h1,h2⟩:=xK R hc'
   have hx:xp mac (mac [m,x,y]++l)=xp mac (.frz 0 [m,x,y] vs::l):=(EO (Vn _ h1)).1
   refine Qa R hr e (fun c h=>(xK R h).2) hx ⟨c,hc'⟩ ?_
   rw[Qe h4]at h1 ⊢
   refine eX (aed h1 l) fun t h3 h4=> ?_
   exact acb (eB hr) h3 h4⟩
end
def eF(lv i0:Nat)(c:Bool)(n:Nat)(l:aa)(ts:List Tn):Option (AV×Nat×List AV):=bD (xn [.ref 0] ⟨1,[(0,.orc 1021 (FQ ⟨lv,⟨i0,c⟩,ts,n⟩++YN::l))]⟩) fun a σ=>sz σ 0 fun k l'=>some (a,k,l')
def eG(lv i0:Nat)(c:Bool)(n:Nat)(l:aa)(ts:List Tn):Option (AV×Nat×List AV):=some (.lst [eg ⟨lv,⟨i0,c⟩,ts,n⟩],1021,YN::l)
noncomputable def S14(i j k:Nat):List Tn:=[.leaf ⟨i,false⟩,.leaf ⟨i,true⟩,.grp ⟨i,false⟩ ⟨j,false⟩,.grp ⟨i,false⟩ ⟨j,true⟩,.grp ⟨i,true⟩ ⟨j,false⟩,.grp ⟨i,true⟩ ⟨j,true⟩,.grp2 ⟨i,false⟩ ⟨j,false⟩ ⟨k,false⟩,.grp2 ⟨i,false⟩ ⟨j,false⟩ ⟨k,true⟩,.grp2 ⟨i,false⟩ ⟨j,true⟩ ⟨k,false⟩,.grp2 ⟨i,false⟩ ⟨j,true⟩ ⟨k,true⟩,.grp2 ⟨i,true⟩ ⟨j,false⟩ ⟨k,false⟩,.grp2 ⟨i,true⟩ ⟨j,false⟩ ⟨k,true⟩,.grp2 ⟨i,true⟩ ⟨j,true⟩ ⟨k,false⟩,.grp2 ⟨i,true⟩ ⟨j,true⟩ ⟨k,true⟩]
def SF(i0:Nat)(c:Bool)(n:Nat)(l:aa)(i j k:Nat)(p:Tn->List Tn):Prop:=(S14 i j k).map (fun t=>eF 1 i0 c n l (p t))=(S14 i j k).map (fun t=>eG 1 i0 c n l (p t))
section
variable(i0 e:Nat)(l:aa)(a b d i j k:Nat)
theorem aoa:eF 1 i0 false 0 l []=eG 1 i0 false 0 l []:=by kernel_rfl
theorem aoe:SF i0 false 0 l i j k (fun t=>[t]):=by unfold SF;kernel_rfl
theorem agE:SF i0 false 0 l i j k (fun t=>[.leaf ⟨a,false⟩,t]):=by unfold SF;kernel_rfl
theorem agF:SF i0 false 0 l i j k (fun t=>[.leaf ⟨a,true⟩,t]):=by unfold SF;kernel_rfl
theorem agG:SF i0 false 0 l i j k (fun t=>[.grp ⟨a,false⟩ ⟨b,false⟩,t]):=by unfold SF;kernel_rfl
theorem agH:SF i0 false 0 l i j k (fun t=>[.grp ⟨a,false⟩ ⟨b,true⟩,t]):=by unfold SF;kernel_rfl
theorem agI:SF i0 false 0 l i j k (fun t=>[.grp ⟨a,true⟩ ⟨b,false⟩,t]):=by unfold SF;kernel_rfl
theorem agJ:SF i0 false 0 l i j k (fun t=>[.grp ⟨a,true⟩ ⟨b,true⟩,t]):=by unfold SF;kernel_rfl
theorem agK:SF i0 false 0 l i j k (fun t=>[.grp2 ⟨a,false⟩ ⟨b,false⟩ ⟨d,false⟩,t]):=by unfold SF;kernel_rfl
theorem agL:SF i0 false 0 l i j k (fun t=>[.grp2 ⟨a,false⟩ ⟨b,false⟩ ⟨d,true⟩,t]):=by unfold SF;kernel_rfl
theorem agM:SF i0 false 0 l i j k (fun t=>[.grp2 ⟨a,false⟩ ⟨b,true⟩ ⟨d,false⟩,t]):=by unfold SF;kernel_rfl
theorem agN:SF i0 false 0 l i j k (fun t=>[.grp2 ⟨a,false⟩ ⟨b,true⟩ ⟨d,true⟩,t]):=by unfold SF;kernel_rfl
theorem adv:SF i0 false 0 l i j k (fun t=>[.grp2 ⟨a,true⟩ ⟨b,false⟩ ⟨d,false⟩,t]):=by unfold SF;kernel_rfl
theorem adw:SF i0 false 0 l i j k (fun t=>[.grp2 ⟨a,true⟩ ⟨b,false⟩ ⟨d,true⟩,t]):=by unfold SF;kernel_rfl
theorem adx:SF i0 false 0 l i j k (fun t=>[.grp2 ⟨a,true⟩ ⟨b,true⟩ ⟨d,false⟩,t]):=by unfold SF;kernel_rfl
theorem ady:SF i0 false 0 l i j k (fun t=>[.grp2 ⟨a,true⟩ ⟨b,true⟩ ⟨d,true⟩,t]):=by unfold SF;kernel_rfl
theorem aob:eF 1 i0 false (e+1) l []=eG 1 i0 false (e+1) l []:=by kernel_rfl
theorem aof:SF i0 false (e+1) l i j k (fun t=>[t]):=by unfold SF;kernel_rfl
theorem agO:SF i0 false (e+1) l i j k (fun t=>[.leaf ⟨a,false⟩,t]):=by unfold SF;kernel_rfl
theorem agP:SF i0 false (e+1) l i j k (fun t=>[.leaf ⟨a,true⟩,t]):=by unfold SF;kernel_rfl
theorem agQ:SF i0 false (e+1) l i j k (fun t=>[.grp ⟨a,false⟩ ⟨b,false⟩,t]):=by unfold SF;kernel_rfl
theorem agR:SF i0 false (e+1) l i j k (fun t=>[.grp ⟨a,false⟩ ⟨b,true⟩,t]):=by unfold SF;kernel_rfl
theorem agS:SF i0 false (e+1) l i j k (fun t=>[.grp ⟨a,true⟩ ⟨b,false⟩,t]):=by unfold SF;kernel_rfl
theorem agT:SF i0 false (e+1) l i j k (fun t=>[.grp ⟨a,true⟩ ⟨b,true⟩,t]):=by unfold SF;kernel_rfl
theorem agU:SF i0 false (e+1) l i j k (fun t=>[.grp2 ⟨a,false⟩ ⟨b,false⟩ ⟨d,false⟩,t]):=by unfold SF;kernel_rfl
theorem agV:SF i0 false (e+1) l i j k (fun t=>[.grp2 ⟨a,false⟩ ⟨b,false⟩ ⟨d,true⟩,t]):=by unfold SF;kernel_rfl
theorem agW:SF i0 false (e+1) l i j k (fun t=>[.grp2 ⟨a,false⟩ ⟨b,true⟩ ⟨d,false⟩,t]):=by unfold SF;kernel_rfl
theorem agX:SF i0 false (e+1) l i j k (fun t=>[.grp2 ⟨a,false⟩ ⟨b,true⟩ ⟨d,true⟩,t]):=by unfold SF;kernel_rfl
theorem adz:SF i0 false (e+1) l i j k (fun t=>[.grp2 ⟨a,true⟩ ⟨b,false⟩ ⟨d,false⟩,t]):=by unfold SF;kernel_rfl
theorem adA:SF i0 false (e+1) l i j k (fun t=>[.grp2 ⟨a,true⟩ ⟨b,false⟩ ⟨d,true⟩,t]):=by unfold SF;kernel_rfl
theorem adB:SF i0 false (e+1) l i j k (fun t=>[.grp2 ⟨a,true⟩ ⟨b,true⟩ ⟨d,false⟩,t]):=by unfold SF;kernel_rfl
theorem adC:SF i0 false (e+1) l i j k (fun t=>[.grp2 ⟨a,true⟩ ⟨b,true⟩ ⟨d,true⟩,t]):=by unfold SF;kernel_rfl
theorem ap7:eF 77 i0 false 0 l []=eG 77 i0 false 0 l []:=by kernel_rfl
theorem aoc:eF 1 i0 true 0 l []=eG 1 i0 true 0 l []:=by kernel_rfl
theorem aog:SF i0 true 0 l i j k (fun t=>[t]):=by unfold SF;kernel_rfl
theorem agY:SF i0 true 0 l i j k (fun t=>[.leaf ⟨a,false⟩,t]):=by unfold SF;kernel_rfl
theorem agZ:SF i0 true 0 l i j k (fun t=>[.leaf ⟨a,true⟩,t]):=by unfold SF;kernel_rfl
theorem ag0:SF i0 true 0 l i j k (fun t=>[.grp ⟨a,false⟩ ⟨b,false⟩,t]):=by unfold SF;kernel_rfl
theorem ag1:SF i0 true 0 l i j k (fun t=>[.grp ⟨a,false⟩ ⟨b,true⟩,t]):=by unfold SF;kernel_rfl
theorem ag2:SF i0 true 0 l i j k (fun t=>[.grp ⟨a,true⟩ ⟨b,false⟩,t]):=by unfold SF;kernel_rfl
theorem ag3:SF i0 true 0 l i j k (fun t=>[.grp ⟨a,true⟩ ⟨b,true⟩,t]):=by unfold SF;kernel_rfl
theorem ag4:SF i0 true 0 l i j k (fun t=>[.grp2 ⟨a,false⟩ ⟨b,false⟩ ⟨d,false⟩,t]):=by unfold SF;kernel_rfl
theorem ag5:SF i0 true 0 l i j k (fun t=>[.grp2 ⟨a,false⟩ ⟨b,false⟩ ⟨d,true⟩,t]):=by unfold SF;kernel_rfl
theorem ag6:SF i0 true 0 l i j k (fun t=>[.grp2 ⟨a,false⟩ ⟨b,true⟩ ⟨d,false⟩,t]):=by unfold SF;kernel_rfl
theorem ag7:SF i0 true 0 l i j k (fun t=>[.grp2 ⟨a,false⟩ ⟨b,true⟩ ⟨d,true⟩,t]):=by unfold SF;kernel_rfl
theorem adE:SF i0 true 0 l i j k (fun t=>[.grp2 ⟨a,true⟩ ⟨b,false⟩ ⟨d,false⟩,t]):=by unfold SF;kernel_rfl
theorem adF:SF i0 true 0 l i j k (fun t=>[.grp2 ⟨a,true⟩ ⟨b,false⟩ ⟨d,true⟩,t]):=by unfold SF;kernel_rfl
theorem adG:SF i0 true 0 l i j k (fun t=>[.grp2 ⟨a,true⟩ ⟨b,true⟩ ⟨d,false⟩,t]):=by unfold SF;kernel_rfl
theorem adH:SF i0 true 0 l i j k (fun t=>[.grp2 ⟨a,true⟩ ⟨b,true⟩ ⟨d,true⟩,t]):=by unfold SF;kernel_rfl
theorem aod:eF 1 i0 true (e+1) l []=eG 1 i0 true (e+1) l []:=by kernel_rfl
theorem aoh:SF i0 true (e+1) l i j k (fun t=>[t]):=by unfold SF;kernel_rfl
theorem ag8:SF i0 true (e+1) l i j k (fun t=>[.leaf ⟨a,false⟩,t]):=by unfold SF;kernel_rfl
theorem ag9:SF i0 true (e+1) l i j k (fun t=>[.leaf ⟨a,true⟩,t]):=by unfold SF;kernel_rfl
theorem aha:SF i0 true (e+1) l i j k (fun t=>[.grp ⟨a,false⟩ ⟨b,false⟩,t]):=by unfold SF;kernel_rfl
theorem ahb:SF i0 true (e+1) l i j k (fun t=>[.grp ⟨a,false⟩ ⟨b,true⟩,t]):=by unfold SF;kernel_rfl
theorem ahc:SF i0 true (e+1) l i j k (fun t=>[.grp ⟨a,true⟩ ⟨b,false⟩,t]):=by unfold SF;kernel_rfl
theorem ahd:SF i0 true (e+1) l i j k (fun t=>[.grp ⟨a,true⟩ ⟨b,true⟩,t]):=by unfold SF;kernel_rfl
theorem ahe:SF i0 true (e+1) l i j k (fun t=>[.grp2 ⟨a,false⟩ ⟨b,false⟩ ⟨d,false⟩,t]):=by unfold SF;kernel_rfl
theorem ahf:SF i0 true (e+1) l i j k (fun t=>[.grp2 ⟨a,false⟩ ⟨b,false⟩ ⟨d,true⟩,t]):=by unfold SF;kernel_rfl
theorem ahg:SF i0 true (e+1) l i j k (fun t=>[.grp2 ⟨a,false⟩ ⟨b,true⟩ ⟨d,false⟩,t]):=by unfold SF;kernel_rfl
theorem ahh:SF i0 true (e+1) l i j k (fun t=>[.grp2 ⟨a,false⟩ ⟨b,true⟩ ⟨d,true⟩,t]):=by unfold SF;kernel_rfl
theorem adI:SF i0 true (e+1) l i j k (fun t=>[.grp2 ⟨a,true⟩ ⟨b,false⟩ ⟨d,false⟩,t]):=by unfold SF;kernel_rfl
theorem adJ:SF i0 true (e+1) l i j k (fun t=>[.grp2 ⟨a,true⟩ ⟨b,false⟩ ⟨d,true⟩,t]):=by unfold SF;kernel_rfl
theorem adK:SF i0 true (e+1) l i j k (fun t=>[.grp2 ⟨a,true⟩ ⟨b,true⟩ ⟨d,false⟩,t]):=by unfold SF;kernel_rfl
theorem adL:SF i0 true (e+1) l i j k (fun t=>[.grp2 ⟨a,true⟩ ⟨b,true⟩ ⟨d,true⟩,t]):=by unfold SF;kernel_rfl
theorem ap8:eF 77 i0 true 0 l []=eG 77 i0 true 0 l []:=by kernel_rfl
end
theorem tnE{P:Tn->Prop}(h0: ∀i,P (.leaf ⟨i,false⟩))(h1: ∀i,P (.leaf ⟨i,true⟩))(h2: ∀i j,P (.grp ⟨i,false⟩ ⟨j,false⟩))(h3: ∀i j,P (.grp ⟨i,false⟩ ⟨j,true⟩))(h4: ∀i j,P (.grp ⟨i,true⟩ ⟨j,false⟩))(h5: ∀i j,P (.grp ⟨i,true⟩ ⟨j,true⟩))(h6: ∀i j k,P (.grp2 ⟨i,false⟩ ⟨j,false⟩ ⟨k,false⟩))(h7: ∀i j k,P (.grp2 ⟨i,false⟩ ⟨j,false⟩ ⟨k,true⟩))(h8: ∀i j k,P (.grp2 ⟨i,false⟩ ⟨j,true⟩ ⟨k,false⟩))(h9: ∀i j k,P (.grp2 ⟨i,false⟩ ⟨j,true⟩ ⟨k,true⟩))(h10: ∀i j k,P (.grp2 ⟨i,true⟩ ⟨j,false⟩ ⟨k,false⟩))(h11: ∀i j k,P (.grp2 ⟨i,true⟩ ⟨j,false⟩ ⟨k,true⟩))(h12: ∀i j k,P (.grp2 ⟨i,true⟩ ⟨j,true⟩ ⟨k,false⟩))(h13: ∀i j k,P (.grp2 ⟨i,true⟩ ⟨j,true⟩ ⟨k,true⟩))(t:Tn):P t:=by
 cases t with
 |leaf l=>
  obtain⟨i,c⟩:=l
  cases c
  ·exact h0 i
  ·exact h1 i
 |grp g a=>
  obtain⟨i,c⟩:=g
  obtain⟨j,d⟩:=a
  cases c<;>cases d
  ·exact h2 i j
  ·exact h3 i j
  ·exact h4 i j
  ·exact h5 i j
 |grp2 g a b=>
  obtain⟨i,c⟩:=g
  obtain⟨j,d⟩:=a
  obtain⟨k,e⟩:=b
  cases c<;>cases d<;>cases e
  ·exact h6 i j k
  ·exact h7 i j k
  ·exact h8 i j k
  ·exact h9 i j k
  ·exact h10 i j k
  ·exact h11 i j k
  ·exact h12 i j k
  ·exact h13 i j k
theorem aoC{P:Tn->Prop}(h: ∀i j k,∀t∈S14 i j k,P t)(t:Tn):P t:=tnE (P:=P) (fun i=>h i 0 0 _ (bb (i:=0) rfl)) (fun i=>h i 0 0 _ (bb (i:=1) rfl)) (fun i j=>h i j 0 _ (bb (i:=2) rfl)) (fun i j=>h i j 0 _ (bb (i:=3) rfl)) (fun i j=>h i j 0 _ (bb (i:=4) rfl)) (fun i j=>h i j 0 _ (bb (i:=5) rfl)) (fun i j k=>h i j k _ (bb (i:=6) rfl)) (fun i j k=>h i j k _ (bb (i:=7) rfl)) (fun i j k=>h i j k _ (bb (i:=8) rfl)) (fun i j k=>h i j k _ (bb (i:=9) rfl)) (fun i j k=>h i j k _ (bb (i:=10) rfl)) (fun i j k=>h i j k _ (bb (i:=11) rfl)) (fun i j k=>h i j k _ (bb (i:=12) rfl)) (fun i j k=>h i j k _ (bb (i:=13) rfl)) t
theorem vF{i0:Nat}{c:Bool}{n:Nat}{l:aa}{p:Tn->List Tn}(h: ∀i j k,SF i0 c n l i j k p)(t:Tn):eF 1 i0 c n l (p t)=eG 1 i0 c n l (p t):=aoC (P:=fun t=>eF 1 i0 c n l (p t)=eG 1 i0 c n l (p t)) (fun i j k t ht=>iL.mp (h i j k) t ht) t
section
variable(i0 e:Nat)(l:aa)
theorem an4(s t:Tn):eF 1 i0 false 0 l [s,t]=eG 1 i0 false 0 l [s,t]:=vF (p:=fun t=>[s,t]) (fun i j k=>tnE (P:=fun s=>SF i0 false 0 l i j k (fun t=>[s,t])) (fun a=>agE i0 l a i j k) (fun a=>agF i0 l a i j k) (fun a b=>agG i0 l a b i j k) (fun a b=>agH i0 l a b i j k) (fun a b=>agI i0 l a b i j k) (fun a b=>agJ i0 l a b i j k) (fun a b d=>agK i0 l a b d i j k) (fun a b d=>agL i0 l a b d i j k) (fun a b d=>agM i0 l a b d i j k) (fun a b d=>agN i0 l a b d i j k) (fun a b d=>adv i0 l a b d i j k) (fun a b d=>adw i0 l a b d i j k) (fun a b d=>adx i0 l a b d i j k) (fun a b d=>ady i0 l a b d i j k) s) t
theorem an5(s t:Tn):eF 1 i0 false (e+1) l [s,t]=eG 1 i0 false (e+1) l [s,t]:=vF (p:=fun t=>[s,t]) (fun i j k=>tnE (P:=fun s=>SF i0 false (e+1) l i j k (fun t=>[s,t])) (fun a=>agO i0 e l a i j k) (fun a=>agP i0 e l a i j k) (fun a b=>agQ i0 e l a b i j k) (fun a b=>agR i0 e l a b i j k) (fun a b=>agS i0 e l a b i j k) (fun a b=>agT i0 e l a b i j k) (fun a b d=>agU i0 e l a b d i j k) (fun a b d=>agV i0 e l a b d i j k) (fun a b d=>agW i0 e l a b d i j k) (fun a b d=>agX i0 e l a b d i j k) (fun a b d=>adz i0 e l a b d i j k) (fun a b d=>adA i0 e l a b d i j k) (fun a b d=>adB i0 e l a b d i j k) (fun a b d=>adC i0 e l a b d i j k) s) t
theorem an6(s t:Tn):eF 1 i0 true 0 l [s,t]=eG 1 i0 true 0 l [s,t]:=vF (p:=fun t=>[s,t]) (fun i j k=>tnE (P:=fun s=>SF i0 true 0 l i j k (fun t=>[s,t])) (fun a=>agY i0 l a i j k) (fun a=>agZ i0 l a i j k) (fun a b=>ag0 i0 l a b i j k) (fun a b=>ag1 i0 l a b i j k) (fun a b=>ag2 i0 l a b i j k) (fun a b=>ag3 i0 l a b i j k) (fun a b d=>ag4 i0 l a b d i j k) (fun a b d=>ag5 i0 l a b d i j k) (fun a b d=>ag6 i0 l a b d i j k) (fun a b d=>ag7 i0 l a b d i j k) (fun a b d=>adE i0 l a b d i j k) (fun a b d=>adF i0 l a b d i j k) (fun a b d=>adG i0 l a b d i j k) (fun a b d=>adH i0 l a b d i j k) s) t
theorem an7(s t:Tn):eF 1 i0 true (e+1) l [s,t]=eG 1 i0 true (e+1) l [s,t]:=vF (p:=fun t=>[s,t]) (fun i j k=>tnE (P:=fun s=>SF i0 true (e+1) l i j k (fun t=>[s,t])) (fun a=>ag8 i0 e l a i j k) (fun a=>ag9 i0 e l a i j k) (fun a b=>aha i0 e l a b i j k) (fun a b=>ahb i0 e l a b i j k) (fun a b=>ahc i0 e l a b i j k) (fun a b=>ahd i0 e l a b i j k) (fun a b d=>ahe i0 e l a b d i j k) (fun a b d=>ahf i0 e l a b d i j k) (fun a b d=>ahg i0 e l a b d i j k) (fun a b d=>ahh i0 e l a b d i j k) (fun a b d=>adI i0 e l a b d i j k) (fun a b d=>adJ i0 e l a b d i j k) (fun a b d=>adK i0 e l a b d i j k) (fun a b d=>adL i0 e l a b d i j k) s) t
theorem an8{lv i0:Nat}{c:Bool}{ts:List Tn}{n:Nat}(h:(bif aj lv 1 then cX ts.length 2 else aj lv 77&&(ts.isEmpty&&aj n 0))=true)(l:aa):eF lv i0 c n l ts=eG lv i0 c n l ts:=by
 cases q:aj lv 1 with
 |true=>
  rw[q]at h
  rw[aD q]
  cases ts with
  |nil=>
   cases c<;>cases n
   ·exact aoa i0 l
   ·exact aob i0 _ l
   ·exact aoc i0 l
   ·exact aod i0 _ l
  |cons s ts=>cases ts with
   |nil=>
    cases c<;>cases n
    ·exact vF (p:=fun t=>[t]) (fun i j k=>aoe i0 l i j k) s
    ·exact vF (p:=fun t=>[t]) (fun i j k=>aof i0 _ l i j k) s
    ·exact vF (p:=fun t=>[t]) (fun i j k=>aog i0 l i j k) s
    ·exact vF (p:=fun t=>[t]) (fun i j k=>aoh i0 _ l i j k) s
   |cons t ts=>cases ts with
    |nil=>
     cases c<;>cases n
     ·exact an4 i0 l s t
     ·exact an5 i0 _ l s t
     ·exact an6 i0 l s t
     ·exact an7 i0 _ l s t
    |cons u ts=>exact absurd (av h) (yK.mpr (be (be (be (aU _)))))
 |false=>
  rw[q]at h
  have h:(aj lv 77&&(ts.isEmpty&&aj n 0))=true:=h
  refine aE h fun h1 h=>aE h fun h2 h3=> ?_
  rw[aD h1,dM.mp h2,aD h3]
  cases c
  ·exact ap7 i0 l
  ·exact ap8 i0 l
end
theorem gZ{a:AV}{l:aa}:aN (a::l)=(noRef a&&aN l):=rfl
theorem X8:aN []=true:=rfl
theorem X9{s:ac}:noRef (.str s)=true:=rfl
theorem X7{i:Int}:noRef (.int i)=true:=rfl
theorem X5{b:Bool}:noRef (.bool b)=true:=rfl
theorem X4:noRef .none=true:=rfl
theorem acq:noRef .opq=true:=rfl
theorem sy{l:aa}:noRef (.lst l)=aN l:=rfl
theorem aoX(p:Nat):noRef (xZ p)=true:=by
 unfold xZ
 cases aj p 0
 ·cases aj p 1
  ·cases aj p 2<;>rfl
  ·rfl
 ·rfl
theorem aoW(w:Nat):noRef (Ql w)=true:=by
 unfold Ql
 cases aj w 2
 ·cases aj w 3<;>rfl
 ·rfl
theorem Hu{x:Nat×Nat×Nat}{c k p r:AV}:aN (kb x c k p r)=(noRef c&&(noRef k&&(noRef p&&noRef r))):=by
 simp only[kb,gZ,X9,X7,X5,X4,aoX,aoW,X8,Bool.true_and,zL]
theorem Ht(lvl:Nat)(l:Lf):noRef (conds lvl l)=true:=by
 obtain⟨i,c⟩:=l
 cases c<;>rfl
theorem qq(lvl:Nat)(l:Lf):noRef (om lvl l .opq)=true:=by
 show(true&&aN (kb _ _ _ _ _))=true
 rw[Hu,Ht];rfl
theorem aoY(t:Tn):noRef (sK t)=true:=by
 cases t with
 |leaf l=>exact qq 5 l
 |grp g a=>
  show(true&&aN (kb _ _ (.lst [om 10 a .opq]) _ _))=true
  rw[Hu,Ht,sy,gZ,qq];rfl
 |grp2 g a b=>
  show(true&&aN (kb _ _ (.lst [om 10 a .opq,om 10 b .opq]) _ _))=true
  rw[Hu,Ht,sy,gZ,gZ,qq,qq];rfl
theorem NR(ts:List Tn):aN (DH ts)=true:=by
 induction ts with
 |nil=>rfl
 |cons t ts ih=>exact(congr (congrArg (· && ·) (aoY t)) ih)
theorem Vs(r:Rt):aN (qP r)=true:=by
 obtain⟨lv,it,ts,n⟩:=r
 cases n with
 |zero=>rfl
 |succ l=>
  show(aN (kg _ l .opq)&&true)=true
  have:noRef (ya l)=true:=by unfold ya;cases l<;>rfl
  simp only[kg,gZ,X9,X7,X5,X4,acq,sy,this,X8,rz]
theorem aiw(r:Rt):aN (Dm r)=true:=by
 unfold Dm
 rw[Hu,Ht,sy,b8,NR,Vs];rfl
theorem KX(r:Rt):noRef (eg r)=true:=by
 show(true&&aN (Dm r))=true
 rw[aiw];rfl
theorem XK{pick:AV->AS->List Nat}{F:aW}{σ:AS}{r k:Nat}{L:aa}(hr:σ.get r=some (.orc k L)):um pick F [.ref r] σ=bD (F [.ref 0] ⟨1,[(0,.orc k L)]⟩) fun a ai=>sz ai 0 fun k' l'=>bif FY 0 (pick a ai)then none else imp (XO r σ.next (pick a ai)) (pick a ai) σ.next (ly r (.orc k' l') σ.cells) a ai:=jm hr
theorem S8{σ ay:AS}{r:Nat}{CU L l':aa}{PI:aW}{a:AV}(hr:σ.get r=some (.orc 1021 CU))(h:PI [.ref 0] ⟨1,[(0,.orc 1021 L)]⟩=some (a,ay))(h0:ay.get 0=some (.orc 1021 l'))(ha:noRef a=true):
  um nU PI [.ref r] (σ.set r (.orc 1021 L))=some (a,σ.set r (.orc 1021 l')):=by
 rw[XK (eB hr),h,aX]
 show ob (ay.get 0) _=_
 rw[h0]
 show ob (uK _ a) _=_
 rw[uv ha]
 show some (a,AS.mk σ.next (ly r (.orc 1021 l') (ly r (.orc 1021 L) σ.cells)))=_
 rw[oz];rfl
theorem U3{σ:AS}{r:Nat}{CU l:aa}(hr:σ.get r=some (.orc 1021 CU)){R:Rt}(hR:Yj R=true):nz [.ref r] (σ.set r (.orc 1021 (FQ R++YN::l)))=some (.lst [eg R],σ.set r (.orc 1021 (YN::l))):=by
 obtain⟨lv,⟨i0,c⟩,ts,n⟩:=R
 have h:eF lv i0 c n l ts=some (.lst [eg ⟨lv,⟨i0,c⟩,ts,n⟩],1021,YN::l):=an8 hR l
 refine fS h fun a ay h1 h=>F0 h fun k l' h0 h=> ?_
 have h:=aH h
 cases h
 exact S8 hr h1 h0 (by rw[sy,gZ,KX];rfl)
@[elab_as_elim] theorem apz {a:AV} {Q:AV->Prop} (h:HJ a=true) (kk: ∀vs,Q (.frz 0 [] vs)):Q a:=by
 unfold HJ at h
 generalize e:mR a _=o at h
 cases o with
 |none=>exact ff h
 |some b=>
  refine s8 e fun c ks vs e=> ?_
  have e:(aj c 0&&CI ks)=true:=(aH e).trans h
  exact aE e fun h1 h2=>by rw[aD h1,PQ h2];exact kk vs
theorem amh{l:List (List Nat)}(h: ∀ks∈l,mac ks=iC ks/\CI ks=false):xp mac (rR l)=xp iC (rR l)/\ ∀m,vg mac m->vg mac (rR l++m):=by
 induction l with
 |nil=>exact⟨rfl,fun _ w=>w⟩
 |cons ks l ih=>
  obtain⟨h1,h2⟩:=h ks (bf ..)
  obtain⟨i1,i2⟩:=ih fun k hk=>h k (aQ _ hk)
  refine⟨?_,fun m w=>⟨fun z=> ?_,i2 m w⟩⟩
  ·show mac ks++xp mac (rR l)=iC ks++xp iC (rR l)
   rw[h1,i1]
  ·have z:CI ks=true:=z
   rw[h2]at z;exact ff z
def en3(ks:ac):Prop:=mac ks=iC ks/\CI ks=false
theorem Hg(lvl:Nat)(l:Lf): ∀ks∈Hf lvl l,en3 ks:=by
 obtain⟨i,c⟩:=l
 cases c with
 |false=>exact fun ks h=>(aP.mp h)▸⟨rfl,rfl⟩
 |true=>exact fun ks h=>(aG.mp h).elim (fun h=>h▸⟨rfl,rfl⟩) fun h=>(aP.mp h)▸⟨rfl,rfl⟩
theorem xN{l m:List (List Nat)}(h1: ∀ks∈l,en3 ks)(h2: ∀ks∈m,en3 ks): ∀ks∈l++m,en3 ks:=fun ks h=>(cV.mp h).elim (h1 ks) (h2 ks)
theorem an9(r:Rt): ∀ks∈agt r,en3 ks:=by
 refine xN (Hg _ _) (xN ?_ ?_)
 ·induction r.ts with
  |nil=>exact fun _ h=>absurd h bg
  |cons t ts ih=>
   refine xN ?_ ih
   cases t with
   |leaf l=>exact Hg 5 l
   |grp g a=>exact xN (Hg 5 g) (Hg 10 a)
   |grp2 g a b=>exact xN (Hg 5 g) (xN (Hg 10 a) (Hg 10 b))
 ·cases r.ren with
  |zero=>exact fun _ h=>absurd h bg
  |succ l=>exact fun ks h=>(aP.mp h)▸⟨rfl,rfl⟩
section
variable{C:PC}{kF:Nat}{f:ah}(R:qh C mac bx VB)
include R
theorem MI(hF:aF C kF f nz):aF C kF f nt:=F5 hF fun args σ a ai e=>nZ e fun r as L hr e=>An e fun e=>by
 revert hr
 refine kJ e fun t L e=> ?_
 refine kJ e fun t' l e=>kS e fun zt e=> ?_
 refine apz zt fun vs'=> ?_
 refine aat e fun ks vs e=> ?_
 refine kJ e fun m ks e=>kS e fun z e=> ?_
 rw[aD z]
 refine kJ e fun lvl code e=> ?_
 intro hr
 refine⟨r,1021,_,hr,fun hc=> ?_⟩
 apply s2 e
 refine anh (hc) fun c hc=> ?_
 have hn:=(xK R hc).1
 have hn:aN (RY (lvl::code))=true:=hn
 have hk:okC (lvl::code)=true/\mac (4::lvl::code)=xp iC (FQ (Bg (lvl::code))):=by
  show _/\RY (lvl::code)=_
  unfold RY at hn ⊢
  cases z:okC (lvl::code)with
  |true=>exact⟨rfl,rfl⟩
  |false=>rw[z]at hn;exact zn hn
 obtain⟨hl,hk1⟩:aj (Bg (lvl::code)).lvl lvl=true/\Yj (Bg (lvl::code))=true:=aE hk.1 hZ
 have hl:=aD hl
 obtain⟨m1,m2⟩:=amh (an9 (Bg (lvl::code)))
 refine⟨FQ (Bg (lvl::code))++YN::l,YN::l,l,fun c h=> ?_,(U3 hr hk1).trans (by unfold eg;rw[hl]),fun c h=>(R.rdr _ _).mpr (tw ((R.rdr _ _).mp h) rfl fun w=>w.2),rfl⟩
 have h:=(R.rdr _ _).mp h
 refine(R.rdr _ _).mpr (tw h ?_ fun w=> ?_)
 ·show _=mac (4::lvl::code)++xp mac l
  rw[hk.2,NI,zK,m1];rfl
 ·rw[NI];exact m2 _ ⟨fun _=>w.2.1 rfl,w.2.2⟩
end
section
variable(x nn:Nat)(cells:List (Nat×bJ))(r:aa)
def Qh(lvl L:Nat)(f:Lf):Option (AV×AS):=some (.ref (nn+1),⟨nn+2,(nn,.lst [])::(nn+1,.inst cp gk (.int (am lvl)::kb (kd L f.i) (conds L f) (.ref nn) .none .none))::ly x (.orc 0 r) cells⟩)
def liF(lvl n e d:Nat):Option (AV×AS):=vQ x nn cells (qF [.ref 0,.int (.ofNat lvl),.str (nm n)] ⟨1,[(0,.orc 0 (m2 5 d::m2 4 e::r))]⟩)
def liG(lvl n e d:Nat):Option (AV×AS):=Qh x nn cells r lvl lvl ⟨Fl lvl n (mV d) 3,CK e⟩
def llF(lvl n e:Nat)(p d:Nat):Option (AV×AS):=vQ x nn cells (wB [.ref 0,.int (.ofNat lvl),.str (nm n)] ⟨1,[(0,.orc 0 (m2 5 d::m2 4 e::m2 3 p::r))]⟩)
def llG(lvl n e:Nat)(p d:Nat):Option (AV×AS):=Qh x nn cells r lvl (PY lvl n) ⟨Fl (PY lvl n) n (mV d) p,CK e⟩
def LI(lvl n e:Nat):Prop:=(cB 5).map (liF x nn cells r lvl n e)=(cB 5).map (liG x nn cells r lvl n e)
def LL(lvl n e:Nat):Prop:=(cB 3).map (fun p=>(cB 5).map (llF x nn cells r lvl n e p))=(cB 3).map (fun p=>(cB 5).map (llG x nn cells r lvl n e p))
end
theorem rg{β:Type}{f g:Nat->β}{m:Nat}(h:(cB m).map f=(cB m).map g){i:Nat}(hi:i<m):f i=g i:=iL.mp h i (p7.mpr hi)
theorem I4{P:Nat->Prop}(h0:P 0)(h1:P 1)(h2:P 2)(h3:P 3)(h4:P 4){n:Nat}(hn:n<5):P n:=by
 rcases n with _|_|_|_|_|n
 all_goals first|assumption|exact absurd hn (ci.mpr (jt 5 n))
theorem aqE{P:Nat->Nat->Prop}{lvl n:Nat}(h:Vv lvl n=true)(h1: ∀n,n<5->P 1 n)(h5: ∀n,n<5->P 5 (5+n)):P lvl n:=by
 rcases kR.mp h with h|h
 ·obtain⟨a,b⟩:=bj.mp h
  rw[aD a];exact h1 n (dh.mp b)
 ·obtain⟨a,b⟩:=bj.mp h
  obtain⟨b,c⟩:=bj.mp b
  obtain⟨k,rfl⟩:=jl (av b)
  rw[aD a];exact h5 k (sU (n:=5) (dh.mp c))
theorem aqF{P:Nat->Nat->Prop}{lvl n:Nat}(h:Vw lvl n=true)(h1: ∀n,n<5->P 77 n)(h5: ∀n,n<5->P 5 (10+n))(h6:P 5 15)(h10:P 10 16):P lvl n:=by
 rcases kR.mp h with h|h
 ·obtain⟨a,b⟩:=bj.mp h
  rw[aD a];exact h1 n (dh.mp b)
 ·rcases kR.mp h with h|h
  ·obtain⟨a,b⟩:=bj.mp h
   obtain⟨b,c⟩:=bj.mp b
   rw[aD a]
   obtain⟨k,rfl⟩:=jl (av b)
   have hk:k<6:=sU (n:=10) (dh.mp c)
   rcases oM k 5 with q|q
   ·exact h5 k q
   ·have:k=5:=vp (EZ hk) q
    rw[this];exact h6
  ·obtain⟨a,b⟩:=bj.mp h
   rw[aD a,aD b];exact h10
section
variable(x nn:Nat)(cells:List (Nat×bJ))(r:aa)
theorem amb{lvl n d:Nat}(h:Vv lvl n=true)(hd:d<5)(e:Nat):liF x nn cells r lvl n e d=liG x nn cells r lvl n e d:=by
 have t:LI x nn cells r lvl n e:=aqE (P:=fun lvl n=>LI x nn cells r lvl n e) h (fun n hn=>by
  refine I4 (P:=fun n=>LI x nn cells r 1 n e) ?_ ?_ ?_ ?_ ?_ hn<;>(clear h hd hn;cases e<;>(unfold LI;kernel_rfl))) (fun n hn=>by
  refine I4 (P:=fun n=>LI x nn cells r 5 (5+n) e) ?_ ?_ ?_ ?_ ?_ hn<;>(clear h hd hn;cases e<;>(unfold LI;kernel_rfl)))
 exact rg t hd
theorem amf{lvl n d p:Nat}(h:Vw lvl n=true)(hd:d<5)(hp:p<3)(e:Nat):llF x nn cells r lvl n e p d=llG x nn cells r lvl n e p d:=by
 have t:LL x nn cells r lvl n e:=aqF (P:=fun lvl n=>LL x nn cells r lvl n e) h (fun n hn=>by
  refine I4 (P:=fun n=>LL x nn cells r 77 n e) ?_ ?_ ?_ ?_ ?_ hn<;>(clear h hd hp hn;cases e<;>(unfold LL;kernel_rfl))) (fun n hn=>by
  refine I4 (P:=fun n=>LL x nn cells r 5 (10+n) e) ?_ ?_ ?_ ?_ ?_ hn<;>(clear h hd hp hn;cases e<;>(unfold LL;kernel_rfl))) (by clear h hd hp;cases e<;>(unfold LL;kernel_rfl)) (by clear h hd hp;cases e<;>(unfold LL;kernel_rfl))
 exact rg (rg t hp) hd
end
def rnN(n ren:Nat):List AV:=hH (motive:=fun _=>List AV) [] (fun l _=>[.frz cp gk (kg (17+n) l .opq)]) ren
def ajy(n:Nat)(r:Rt):List AV:=kb (kd r.lvl r.it.i) (conds r.lvl r.it) (.lst (DH r.ts++rnN n r.ren)) .none .none
def Qb(n:Nat)(rd:RD)(r:aa):Option (Nat×List Nat×List AV×Nat×List AV):=bD (Fz [.ref 0,.str (nm n)] ⟨1,[(0,.orc 0 (rdM rd++r))]⟩) fun a σ=>io a fun x=>CH σ x fun c ks vs=>sz σ 0 fun k l=>bif aj x 0 then none else some (c,ks,vs,k,l)
def Nh(n:Nat)(rd:RD)(r:aa):Option (Nat×List Nat×List AV×Nat×List AV):=some (cp,gk,.int (am (RX rd))::ajy n (jC n rd),0,r)
noncomputable def S4(z d e:Nat)(l m:LD):List TD:=[.leaf z 0 l,.leaf z 1 l,.grp d e l,.grp2 d e l m]
def LR(n:Nat)(f:TD->RD)(r:aa)(z d e:Nat)(l m:LD):Prop:=(S4 z d e l m).map (fun t=>Qb n (f t) r)=(S4 z d e l m).map (fun t=>Nh n (f t) r)
theorem s4E{P:TD->Prop}(h: ∀z d e l m,∀t∈S4 z d e l m,P t){t:TD}(ht:Ap t):P t:=by
 cases t with
 |leaf z nb l=>
  cases nb with
  |zero=>exact h z 0 0 l l _ (bb (i:=0) rfl)
  |succ nb=>cases nb with
   |zero=>exact h z 0 0 l l _ (bb (i:=1) rfl)
   |succ nb=>exact absurd ht (ci.mpr (jt 2 nb))
 |grp d e l=>exact h 0 d e l l _ (bb (i:=2) rfl)
 |grp2 d e l m=>exact h 0 d e l m _ (bb (i:=3) rfl)
theorem alm{n:Nat}{f:TD->RD}{r:aa}(h: ∀z d e l m,LR n f r z d e l m){t:TD}(ht:Ap t):Qb n (f t) r=Nh n (f t) r:=s4E (P:=fun t=>Qb n (f t) r=Nh n (f t) r) (fun z d e l m t ht=>iL.mp (h z d e l m) t ht) ht
theorem amX{P:List TD->Prop}(h0:P [])(h1: ∀t,Ap t->P [t])(h2: ∀s t,Ap s->Ap t->P [s,t]){ts:List TD}(hl:ts.length<=2)(ht: ∀t∈ts,Ap t):P ts:=by
 cases ts with
 |nil=>exact h0
 |cons s ts=>cases ts with
  |nil=>exact h1 s (ht s (bf ..))
  |cons t ts=>cases ts with
   |nil=>exact h2 s t (ht s (bf ..)) (ht t (aQ _ (bf ..)))
   |cons u ts=>exact absurd hl (yK.mpr (be (be (be (aU _)))))
def GD(n:Nat)(f:List TD->RD)(r:aa):Prop:=Qb n (f []) r=Nh n (f []) r/\(∀z d e l m,LR n (fun t=>f [t]) r z d e l m)/\ ∀z d e l m z2 d2 e2 l2 m2,(S4 z d e l m).map (fun s=>(S4 z2 d2 e2 l2 m2).map fun t=>Qb n (f [s,t]) r)=(S4 z d e l m).map fun s=>(S4 z2 d2 e2 l2 m2).map fun t=>Nh n (f [s,t]) r
theorem ab5{n:Nat}{f:List TD->RD}{r:aa}(G:GD n f r){ts:List TD}(hl:ts.length<=2)(ht: ∀t∈ts,Ap t):Qb n (f ts) r=Nh n (f ts) r:=amX (P:=fun ts=>Qb n (f ts) r=Nh n (f ts) r) G.1 (fun t h=>alm (f:=fun t=>f [t]) G.2.1 h) (fun s t hs ht=>s4E (P:=fun s=>Qb n (f [s,t]) r=Nh n (f [s,t]) r) (fun z d e l m s hs=>s4E (P:=fun t=>Qb n (f [s,t]) r=Nh n (f [s,t]) r) (fun z2 d2 e2 l2 m2 t ht=>iL.mp (iL.mp (G.2.2 z d e l m z2 d2 e2 l2 m2) s hs) t ht) ht) hs) hl ht
theorem amH{n:Nat}(hn:n<5){rd:RD}(h:CY rd)(r:aa):Qb n rd r=Nh n rd r:=by
 cases rd with
 |alone l=>refine I4 (P:=fun n=>Qb n (.alone l) r=Nh n (.alone l) r) ?_ ?_ ?_ ?_ ?_ hn<;>kernel_rfl
 |std a d e ts q=>
  refine ab5 (f:=fun ts=>.std a d e ts q) ?_ h.1 h.2
  clear h
  refine I4 (P:=fun n=>GD n (fun ts=>.std a d e ts q) r) ?_ ?_ ?_ ?_ ?_ hn<;>exact⟨by kernel_rfl,fun _ _ _ _ _=>by unfold LR;kernel_rfl,fun _ _ _ _ _ _ _ _ _ _=>by kernel_rfl⟩
 |recR a d e ts l=>
  refine ab5 (f:=fun ts=>.recR a d e ts l) ?_ h.1 h.2.1
  have h:=h.2.2
  rcases l with _|_|l
  ·clear h
   refine I4 (P:=fun n=>GD n (fun ts=>.recR a d e ts 0) r) ?_ ?_ ?_ ?_ ?_ hn<;>exact⟨by kernel_rfl,fun _ _ _ _ _=>by unfold LR;kernel_rfl,fun _ _ _ _ _ _ _ _ _ _=>by kernel_rfl⟩
  ·clear h
   refine I4 (P:=fun n=>GD n (fun ts=>.recR a d e ts 1) r) ?_ ?_ ?_ ?_ ?_ hn<;>exact⟨by kernel_rfl,fun _ _ _ _ _=>by unfold LR;kernel_rfl,fun _ _ _ _ _ _ _ _ _ _=>by kernel_rfl⟩
  ·exact absurd h (ci.mpr (jt 2 l))
section
variable{σ:AS}{x:Nat}{CU l:aa}{as:aa}{PI:aW}
theorem Ta{pick:AV->AS->List Nat}{F:aW}{k:Nat}{L:aa}(hr:σ.get x=some (.orc k L))(ha:aN as=true):um pick F (.ref x::as) σ=bD (F (.ref 0::as) ⟨1,[(0,.orc k L)]⟩) fun a ai=>sz ai 0 fun k' l'=>bif FY 0 (pick a ai)then none else imp (XO x σ.next (pick a ai)) (pick a ai) σ.next (ly x (.orc k' l') σ.cells) a ai:=by
 have h:um pick F (.ref x::as) σ=bif aN as then sz σ x (fun k l=>bD (F (.ref 0::as) ⟨1,[(0,.orc k l)]⟩) fun a ai=>sz ai 0 fun k' l'=>bif FY 0 (pick a ai)then none else imp (XO x σ.next (pick a ai)) (pick a ai) σ.next (ly x (.orc k' l') σ.cells) a ai)else none:=rfl
 rw[h,ha];exact jm hr
theorem S9(hr:σ.get x=some (.orc 0 CU))(ha:aN as=true):um wJ PI (.ref x::as) (σ.set x (.orc 0 l))=vQ x σ.next (ly x (.orc 0 l) σ.cells) (PI (.ref 0::as) ⟨1,[(0,.orc 0 l)]⟩):=Ta (eB hr) ha
theorem Qi{nn:Nat}{cells:List (Nat×bJ)}{c:bJ}{r:aa}{lvl L:Nat}{f:Lf}:Qh x nn (ly x c cells) r lvl L f=Qh x nn cells r lvl L f:=by
 unfold Qh;rw[oz]
theorem Zu{β:Type}{f:Nat->List Nat->List AV->Option β}{y:β}{P:Prop}(e:abF σ x f=some y)(kk: ∀c m ks vs r,σ.get x=some (.orc 0 (.frz c (m::ks) vs::r))->f m ks r=some y->P):P:=
 F0 e fun k l hg e=>kS e fun q e=>by
  rw[aD q]at hg
  revert hg
  refine kJ e fun t r e=> ?_
  refine s8 e fun c ks vs e=> ?_
  refine kJ e fun m ks e hg=> ?_
  exact kk c m ks vs r hg e
end
def two{β:Type}(ks:ac)(f:Nat->Nat->Option β):Option β:=rh ks fun d ks=>rh ks fun e ks=>bif CI ks then f d e else none
@[elab_as_elim] theorem ao0 {β:Type} {ks:ac} {f:Nat->Nat->Option β} {y:β} {Q:List Nat->Prop} (e:two ks f=some y) (kk: ∀d e',f d e'=some y->Q [d,e']):Q ks:=
 kJ e fun d ks e=>kJ (Q:=fun ks=>Q (d::ks)) e fun e' ks e=>kS e fun z e=>by rw[PQ z];exact kk d e' e
section
variable{C:PC}{kF:Nat}{f:ah}(R:qh C mac bx VB)
include R
theorem UU{l l':aa}{c:bJ}(h:C.conc 0 l c)(hx:xb bx l'=xb bx l)(hv:(∀a∈l,VB a)-> ∀a∈l',VB a):C.conc 0 l' c:=by
 obtain⟨h1,b,h2,h3⟩:=(R.bag _ _).mp h
 exact(R.bag _ _).mpr ⟨hv h1,b,h2,hx.symm▸h3⟩
omit R in
theorem rl{b:Int}{m d:Nat}(hm:0<m)(h:b.fmod (am m)=am d):d<m:=by
 have h1:b.fmod (am m)<am m:=qY b (ib.mpr hm)
 rw[h]at h1
 exact ib.mp h1
theorem G7{l:aa}{c:bJ}(h:C.conc 0 l c): ∃b,cG (xb bx l) b:=by
 obtain⟨_,b,_,h⟩:=(R.bag _ _).mp h
 exact⟨b,h⟩
theorem Wq(hF:aF C kF f yW):aF C kF f Bw:=pG hF fun args σ a ai e=>by
 refine Zs e fun a1 a2 a3 e=> ?_
 refine iA e fun x e=> ?_
 refine ml e fun lvl e=> ?_
 refine fU e fun s e=> ?_
 refine kS e fun z e=>Zu e fun c m ks vs r hg e=>kS e fun z5 e=> ?_
 rw[aD z5]at hg
 revert hg
 refine ao0 (show two ks (fun d e'=>aip σ x r lvl lvl ⟨Fl lvl (IY s names 0) (mV d) 3,CK e'⟩)=some (a,ai) from e) fun d e' e hg=> ?_
 refine⟨x,0,_,hg,fun hc _=>⟨m2 5 d::m2 4 e'::r,fun c h=>UU R h rfl fun hv a ha=> ?_,?_⟩⟩
 ·rcases aG.mp ha with rfl|ha
  ·exact trivial
  ·rcases aG.mp ha with rfl|ha
   ·exact trivial
   ·exact hv a (aQ _ ha)
 ·obtain⟨c,hc⟩:=hc
  obtain⟨b,hb⟩:=G7 R hc
  have hd:d<5:=rl (by decide) hb.2.1
  obtain⟨z1,z2⟩:=aE z hZ
  have hs:nm (IY s names 0)=s:=by rw[kO,decide_eq_true_iff]at z1;exact z1
  refine(S9 hg rfl).trans ?_
  refine yG ?_ e
  generalize IY s names 0=n at hs z2 ⊢
  rw[<- hs]
  exact(amb x σ.next (ly x _ σ.cells) r z2 hd e').trans Qi
theorem Wr(hF:aF C kF f yX):aF C kF f Bx:=pG hF fun args σ a ai e=>by
 refine Zs e fun a1 a2 a3 e=> ?_
 refine iA e fun x e=> ?_
 refine ml e fun lvl e=> ?_
 refine fU e fun s e=> ?_
 refine kS e fun z e=>Zu e fun c m ks vs r hg e=>kS e fun z5 e=> ?_
 rw[aD z5]at hg
 revert hg
 refine VZ e fun d e' p e hg=> ?_
 refine⟨x,0,_,hg,fun hc _=>⟨m2 5 d::m2 4 e'::m2 3 p::r,fun c h=>UU R h rfl fun hv a ha=> ?_,?_⟩⟩
 ·rcases aG.mp ha with rfl|ha
  ·exact trivial
  ·rcases aG.mp ha with rfl|ha
   ·exact trivial
   ·rcases aG.mp ha with rfl|ha
    ·exact trivial
    ·exact hv a (aQ _ ha)
 ·obtain⟨c,hc⟩:=hc
  obtain⟨b,hb⟩:=G7 R hc
  have hd:d<5:=rl (by decide) hb.2.1
  have hp:p<3:=rl (by decide) hb.2.2.2.2.2.1
  obtain⟨z1,z2⟩:=aE z hZ
  have hs:nm (IY s names 0)=s:=by rw[kO,decide_eq_true_iff]at z1;exact z1
  refine(S9 hg rfl).trans ?_
  refine yG ?_ e
  generalize IY s names 0=n at hs z2 ⊢
  rw[<- hs]
  exact(amf x σ.next (ly x _ σ.cells) r z2 hd hp e').trans Qi
end
theorem am2(t:TD)(l:aa):xb bx (tdM t++l)=tdD t++xb bx l:=by cases t<;>rfl
theorem YZ(ts:List TD)(l:aa):xb bx (Mw ts++l)=AQ ts++xb bx l:=by
 induction ts with
 |nil=>rfl
 |cons t ts ih=>
  show xb bx ((tdM t++Mw ts)++l)=(tdD t++AQ ts)++xb bx l
  rw[aB,am2,ih,aB]
theorem am1(rd:RD)(l:aa):xb bx (rdM rd++l)=Jn rd++xb bx l:=by
 cases rd with
 |alone l=>rfl
 |std a d e ts q=>
  show 4::(a+1)::5::d::4::e::3::ts.length::xb bx ((Mw ts++[m2 4 (q+1)])++l)=4::(a+1)::5::d::4::e::3::ts.length::((AQ ts++[4,q+1])++xb bx l)
  rw[aB,YZ,aB];rfl
 |recR a d e ts q=>
  show 4::(a+1)::5::d::4::e::3::ts.length::xb bx ((Mw ts++[m2 4 0,m2 2 q])++l)=4::(a+1)::5::d::4::e::3::ts.length::((AQ ts++[4,0,2,q])++xb bx l)
  rw[aB,YZ,aB];rfl
theorem WQ(ts:List TD): ∀a∈Mw ts,VB a:=by
 induction ts with
 |nil=>exact fun _ h=>absurd h bg
 |cons t ts ih=>
  refine fun a h=>(cV.mp h).elim (fun h=> ?_) (ih a)
  cases t with
  |leaf z nb l=>
   rcases aG.mp h with rfl|h
   ·exact trivial
   rcases aG.mp h with rfl|h
   ·exact trivial
   rw[aP.mp h];exact trivial
  |grp d e l=>
   rcases aG.mp h with rfl|h
   ·exact trivial
   rcases aG.mp h with rfl|h
   ·exact trivial
   rcases aG.mp h with rfl|h
   ·exact trivial
   rw[aP.mp h];exact trivial
  |grp2 d e l m=>
   rcases aG.mp h with rfl|h
   ·exact trivial
   rcases aG.mp h with rfl|h
   ·exact trivial
   rcases aG.mp h with rfl|h
   ·exact trivial
   rcases aG.mp h with rfl|h
   ·exact trivial
   rw[aP.mp h];exact trivial
theorem alo(rd:RD): ∀a∈rdM rd,VB a:=by
 cases rd with
 |alone l=>
  intro a h
  rcases aG.mp h with rfl|h
  ·exact trivial
  rw[aP.mp h];exact trivial
 |std a d e ts q=>
  intro a h
  rcases aG.mp h with rfl|h
  ·exact trivial
  rcases aG.mp h with rfl|h
  ·exact trivial
  rcases aG.mp h with rfl|h
  ·exact trivial
  rcases cV.mp h with h|h
  ·exact WQ ts a h
  rw[aP.mp h];exact trivial
 |recR a d e ts q=>
  intro a h
  rcases aG.mp h with rfl|h
  ·exact trivial
  rcases aG.mp h with rfl|h
  ·exact trivial
  rcases aG.mp h with rfl|h
  ·exact trivial
  rcases cV.mp h with h|h
  ·exact WQ ts a h
  rcases aG.mp h with rfl|h
  ·exact trivial
  rw[aP.mp h];exact trivial
theorem XR{n d:Nat}(hn:n<5)(hd:d<5):(kd 1 (Fl 1 n (mV d) 3)).1=n:=
 I4 (P:=fun n=>(kd 1 (Fl 1 n (mV d) 3)).1=n) (I4 (P:=fun d=>(kd 1 (Fl 1 0 (mV d) 3)).1=0) rfl rfl rfl rfl rfl hd) (I4 (P:=fun d=>(kd 1 (Fl 1 1 (mV d) 3)).1=1) rfl rfl rfl rfl rfl hd) (I4 (P:=fun d=>(kd 1 (Fl 1 2 (mV d) 3)).1=2) rfl rfl rfl rfl rfl hd) (I4 (P:=fun d=>(kd 1 (Fl 1 3 (mV d) 3)).1=3) rfl rfl rfl rfl rfl hd) (I4 (P:=fun d=>(kd 1 (Fl 1 4 (mV d) 3)).1=4) rfl rfl rfl rfl rfl hd) hn
noncomputable def T0(rd:RD):Nat:=match rd with
 | .alone _=>0
 | .std _ d _ _ _=>d
 | .recR _ d _ _ _=>d
theorem aeA{n:Nat}{rd:RD}(hn:n<5)(hd:T0 rd<5):ajy n (jC n rd)=Dm (jC n rd):=by
 cases rd with
 |alone l=>rfl
 |std a d e ts q=>rfl
 |recR a d e ts l=>
  show kb _ _ (.lst (_++[.frz cp gk (kg (17+n) l .opq)])) _ _=kb _ _ (.lst (_++[.frz cp gk (kg (17+(kd 1 (Fl 1 n (mV d) 3)).1) l .opq)])) _ _
  rw[XR hn (show d<5 from hd)]
theorem amy{rd:RD}{l:ac}{b:Int}(h:cG (Jn rd++l) b):T0 rd<5:=by
 cases rd with
 |alone l=>exact hJ _
 |std a d e ts q=>exact rl (by decide) h.2.2.2.1
 |recR a d e ts q=>exact rl (by decide) h.2.2.2.1
theorem aiv{n:Nat}{rd:RD}:aN (.int (am (RX rd))::Dm (jC n rd))=true:=by
 rw[gZ,aiw];rfl
theorem za(n:Nat):aj n n=true:=by rw[gg];exact decide_eq_true rfl
theorem aez{σ:AS}{x n:Nat}{CU r:aa}{rd:RD}(hg:σ.get x=some (.orc 0 CU))(hn:n<5)(h:CY rd)(hd:T0 rd<5):
  s5 [.ref x,.str (nm n)] (σ.set x (.orc 0 (rdM rd++r)))=some (.ref σ.next,⟨σ.next+1,(σ.next,.inst cp gk (.int (am (RX rd))::Dm (jC n rd)))::ly x (.orc 0 r) σ.cells⟩):=by
 have h:=amH hn h r
 unfold Nh at h
 rw[aeA hn hd]at h
 refine fS h fun a ay h1 h=> ?_
 revert h1
 refine iA h fun y h=>instE h fun c ks vs hy h=>F0 h fun k l h0 h=>kN h fun q h h1=> ?_
 have h:=aH h
 cases h
 have hp:wJ (.ref y) ay=[y]:=by
  show(ob (ay.get y) _).getD []=_
  rw[hy];rfl
 refine(Ta (eB hg) rfl).trans ?_
 rw[h1,aX]
 show ob (ay.get 0) _=_
 rw[h0,hp]
 show(bif (aj 0 y||false)then none else _)=_
 have q0:aj 0 y=false:=by cases y with
  |zero=>exact absurd q (by decide)
  |succ y=>rfl
 rw[q0]
 have hx:XO x σ.next [y] y=some σ.next:=by
  cases y with
  |zero=>exact absurd q (by decide)
  |succ y=>
   show(bif aj (y+1) (y+1)then some σ.next else _)=_
   rw[za];rfl
 show ob ((XO x σ.next [y] y).map AV.ref) _=_
 rw[hx]
 show ob (ob (ay.get y) _) _=_
 rw[hy]
 show ob (ob ((oq _ _).map (bJ.inst cp gk)) _) _=_
 rw[jA aiv]
 show some (AV.ref σ.next,AS.mk (σ.next+1) (_::ly x (.orc 0 r) (ly x (.orc 0 (rdM rd++r)) σ.cells)))=_
 rw[oz];rfl
section
variable{C:PC}{kF:Nat}{f:ah}(R:qh C mac bx VB)
include R
omit R in theorem amI {n:Nat} {rd:RD} (h:CY rd):(jC n rd).ts.length <=8:=by
 have: ∀ts:List TD,(HM n ts).length=ts.length:=fun ts=>by
  induction ts with
  |nil=>rfl
  |cons t ts ih=>exact congrArg nM ih
 cases rd with
 |alone l=>exact aU _
 |std a d e ts q=>exact au (eH (this ts)) (au h.1 (by decide))
 |recR a d e ts q=>exact au (eH (this ts)) (au h.1 (by decide))
theorem Ws(hF:aF C kF f s5):aF C kF f Bz:=pG hF fun args σ a ai e=>by
 refine KA e fun a1 a2 e=> ?_
 refine iA e fun x e=> ?_
 refine fU e fun s e=> ?_
 refine Zu e fun c m ks vs r hg e=>kS e fun z9 e=> ?_
 rw[aD z9]at hg
 revert hg
 refine kJ e fun n ks e=> ?_
 refine kJ e fun lv code e=>kS e fun zs e hg=> ?_
 have hs:nm n=s:=by rw[kO,decide_eq_true_iff]at zs;exact zs
 by_cases hv:VB (.frz c (9::n::lv::code) vs)
 ·refine agr (hv) fun n' rd h1 h2 h3=> ?_
  have h1:AV.frz c (9::n::lv::code) vs= .frz 0 (9::n'::RX rd::Xs (jC n' rd)) [.frz 0 (Jn rd) []]:=h1
  cases h1
  have hx: ∀l,xb bx (.frz 0 (9::n::RX rd::Xs (jC n rd)) [.frz 0 (Jn rd) []]::l)=Jn rd++xb bx l:=fun _=>rfl
  refine⟨x,0,_,hg,fun hc _=>⟨rdM rd++r,fun c h=>UU R h ((am1 rd r).trans (hx r).symm) fun hv a ha=>(cV.mp ha).elim (alo rd a) fun h=>hv a (aQ _ h),?_⟩⟩
  obtain⟨c,hc⟩:=hc
  obtain⟨b,hb⟩:=G7 R hc
  rw[hx]at hb
  rw[<- hs]
  refine(aez hg h2 h3 (amy hb)).trans ?_
  refine yG ?_ e
  have hlen:=amI (n:=n) h3
  rw[NH _ hlen]
 ·exact⟨x,0,_,hg,fun hc _=>hc.elim fun c hc=>absurd (((R.bag _ _).mp hc).1 _ (bf ..)) hv⟩
theorem aqj:am6 C:=⟨Ro R,Kh R,MI R,Wq R,Wr R,Ws R⟩
end
theorem zk{PI:aW}{args:aa}{σ ay:AS}{a:AV}(hn:aN args=true)(h:PI args ⟨0,[]⟩=some (a,ay))(ha:noRef a=true):vR nU PI args σ=some (a,σ):=by
 show(bif aN args then bD (PI args ⟨0,[]⟩) _ else none)=_
 rw[hn,h]
 show ob (uK _ a) _=_
 rw[uv ha];rfl
theorem aai{PI:aW}{args:aa}{σ ay:AS}{x:Nat}{l:aa}(hn:aN args=true)(h:PI args ⟨0,[]⟩=some (.ref x,ay))(hx:ay.get x=some (.lst l))(hl:aN l=true):vR aaM PI args σ=some (.ref σ.next,σ.alloc (.lst l)):=by
 show(bif aN args then bD (PI args ⟨0,[]⟩) _ else none)=_
 rw[hn,h]
 have hi:ixN σ.next [x] x=some σ.next:=by
  show(bif aj x x then some σ.next else _)=_
  rw[za];rfl
 show ob ((ixN σ.next [x] x).map AV.ref) _=_
 rw[hi]
 show ob (ob (ay.get x) _) _=_
 rw[hx]
 show ob (ob ((oq _ l).map bJ.lst) _) _=_
 rw[jA hl];rfl
theorem zp{l:List (List Nat×List Nat×Nat)}: ∀{c:Nat} {a:Bool},aN (wH a c l)=true:=by
 induction l with
 |nil=>exact rfl
 |cons x l ih=>exact fun{c a}=>show(true&&aN (wH false (c+x.2.2) l))=true from ih
theorem yk{t:ac}{a:Bool}{l:aa}(h:kL t a=some l)(hl:aN l=true)(σ:AS):cL [.str t,.bool a] σ=some (.ref σ.next,σ.alloc (.lst l)):=fS h fun x ay h1 h=>by
 revert h1
 refine iA h fun x h=>lstE h fun l' hx h h1=> ?_
 rw[aH h]at hx
 exact aai rfl h1 hx hl
theorem aba{t:ac}{l:aa}(h:kL t false=some l)(hl:aN l=true)(σ:AS):cL [.str t] σ=some (.ref σ.next,σ.alloc (.lst l)):=fS h fun x ay h1 h=>by
 revert h1
 refine iA h fun x h=>lstE h fun l' hx h h1=> ?_
 rw[aH h]at hx
 exact aai (PI:=rJ) rfl h1 hx hl
theorem aeI{it:AV}{a:Bool}{l:aa}(h:uO it a=some l)(hn:aN [it]=true): ∃t,kL t a=some l/\ ∀σ,ng [it] σ=some (.str t,σ):=fS h fun x ay h1 h=>by
 revert h1
 refine fU h fun t h h1=> ?_
 exact⟨t,h,fun σ=>zk hn h1 rfl⟩
theorem YB{n:Nat}{l:aa}(h:ow n=some l): ∃t,kL t false=some l/\ ∀σ,lI [qp n] σ=some (.str t,σ):=fS h fun x ay h1 h=>by
 revert h1
 refine fU h fun t h h1=> ?_
 exact⟨t,h,fun σ=>zk rfl h1 rfl⟩
theorem c9{v:AV}{i:Nat}: ∀{fr:Fm},gt (put fr i v) i=v:=by
 induction i with
 |zero=>intro fr;cases fr<;>rfl
 |succ i ih=>intro fr;cases fr with
  |nil=>exact ih (fr:=[])
  |cons a fr=>exact ih
theorem fR{v:AV}{i:Nat}: ∀{j:Nat} {fr:Fm},aj i j=false->gt (put fr i v) j=gt fr j:=by
 induction i with
 |zero=>
  intro j fr h
  cases j with
  |zero=>exact ff h.symm
  |succ j=>cases fr with
   |nil=>rfl
   |cons a fr=>rfl
 |succ i ih=>
  intro j fr h
  cases j with
  |zero=>cases fr<;>rfl
  |succ j=>cases fr with
   |nil=>exact ih (fr:=[]) h
   |cons a fr=>exact ih h
theorem ajK{σ:AS}{i:Nat}{a b:bJ}:(σ.set i a).set i b=σ.set i b:=congrArg (AS.mk σ.next) (oz ..)
theorem ahj{σ:AS}{i:Nat}{l m:aa}(hi:σ.get i=some (.lst l))(hk:l.length+m.length<=4000000):f8 [.ref i,.lst m] σ=some (.none,σ.set i (.lst (l++m))):=by
 have h:f8 [.ref i,.lst m] σ=bif dC (l.length+m.length)then some (.none,σ.set i (.lst (l++m)))else none:=jm hi
 rw[h,fW hk];rfl
theorem ahk{σ:AS}{i j:Nat}{l m:aa}(hi:σ.get i=some (.lst l))(hj:σ.get j=some (.lst m))(hij:aj i j=false)(hk:l.length+m.length<=4000000):f8 [.ref i,.ref j] σ=some (.none,σ.set i (.lst (l++m))):=by
 have h1:ahi σ i (.ref j)=some m:=by
  show(bif aj i j then none else np σ j some)=_
  rw[hij];exact jm hj
 have h2:f8 [.ref i,.ref j] σ=ob (np σ i some) fun l=>bif dC (l.length+m.length)then some (.none,σ.set i (.lst (l++m)))else none:=by
  refine(jm h1).trans ?_
  rw[show np σ i some=some l from jm hi];exact jm hi
 rw[h2,show np σ i some=some l from jm hi,b9,fW hk];rfl
theorem Jf{σ:AS}{i:Nat}{l:aa}{F:aW}(hi:σ.get i=some (.lst l)):fT F (.ref i) σ=some F:=jm hi
theorem dP{σ:AS}{i:Nat}{c d:bJ}(hi:σ.get i=some c)(h:i<σ.next):(σ.alloc d).get i=some c:=by rw[AS.get_alloc,if_neg (ct h)];exact hi
theorem ahs{sel:Nat->Bool}{n:Nat}{a:AV}{σ:AS}(h:noRef a=true):uj sel n a σ=(a,σ):=by
 cases n with
 |zero=>rfl
 |succ n=>cases a<;>first|rfl|exact ff h
theorem aaO{α β γ:Type}{p:α×β}{a:α}{b:β}{f:α->β->γ}(h:p=(a,b)):pr p f=f a b:=by rw[h];rfl
theorem Qf{sel:Nat->Bool}{n:Nat}{l:aa}: ∀{σ:AS},aN l=true->pT (uj sel n) l σ=(l,σ):=by
 induction l with
 |nil=>exact fun _=>rfl
 |cons a l ih=>
  intro σ h
  refine aE (show(noRef a&&aN l)=true from h) fun h1 h2=> ?_
  exact(aaO (ahs h1)).trans (aaO (ih h2))
theorem xQ{n:Nat}{x:Nat}{l:aa}{σ:AS}(hx:σ.get x=some (.lst l))(h:aN l=true):jJ (n+1) (.ref x) σ=(.lst l,σ.drop x):=by
 show bo (motive:=fun _=>AV×AS) (.opq,σ) (fun c=>SY (uj _ n) _ x σ c) (σ.get x)=_
 rw[hx]
 show pr (pT (uj (fun _=>true) n) l (σ.drop x)) (fun l' ai=>(AV.lst l',ai))=_
 exact aaO (Qf h)
noncomputable def Mx(lvl:Nat):Bool:=bif aj lvl 1 then true else aj lvl 77
theorem amW{lvl:Nat}(h:rn lvl=true)(σ:AS):b7 .In (.int (am lvl)) iW σ=some (Mx lvl):=lvE (P:=fun lvl=>b7 .In (.int (am lvl)) iW σ=some (Mx lvl)) h rfl rfl rfl rfl
theorem amR{lvl:Nat}(h:rn lvl=true)(i:Nat)(c k p:AV):uO (.frz cp gk (.int (am lvl)::kb (kd lvl i) c k p .none)) (Mx lvl)=some (kv lvl (kd lvl i)):=
 lvE (P:=fun lvl=>kd lvl i∈kT lvl->iJ c k p lvl (kd lvl i)=iK lvl (kd lvl i)) h (fun h=>aqO _ _ _ h) (fun h=>aqP _ _ _ h) (fun h=>apw _ _ _ h) (fun h=>apx _ _ _ h) (Vh lvl i)
def IQ:EM:=bv cL (aw (bv ng (aw (al 0) aI)) (aw (rT (fw (b7 .In) (un (aA 20) (al 0)) (ba iW))) aI))
theorem adT{it:AV}{fr:Fm}{σ:AS}{b:Bool}{lv:AV}{l:aa}(hf:gt fr 0=it)(hu:bW it=false)(hn:aN [it]=true)(hs:uO it b=some l)(hl:aN l=true)(ha:aA 20 it σ=some lv)(hb:b7 .In lv iW σ=some b):IQ fr σ=some (.ref σ.next,σ.alloc (.lst l)):=by
 refine eX (aeI hs hn) fun t h1 h2=> ?_
 unfold IQ
 simp only[eu,cz,cq,bk,hf,hu,ae,aX,h2,wI,fD,gn,ha,b9,d6,hb,yk h1 hl]
def G9:SM:=aV (k9 (cH (fT f8) (al 1) (aw (bv cL (aw (bv lI (aw (al 2) aI)) aI)) aI))) br
def PV(self:aW):SM:=aV (k9 (cH (fT f8) (al 1) (aw (bv self (aw (al 3) aI)) aI))) br
@[simp] theorem Js (e) {fr:Fm} {σ:AS}:k9 e fr σ=bD (e fr σ) fun _ ai=>some (.next fr ai):=rfl
theorem EI{i:Nat}{b:SM}{a:AV}{r:aa}{fr gT:Fm}{σ ay:AS}(h:b (put fr i a) σ=some (.next gT ay)):pF [i] b (a::r) fr σ=pF [i] b r gT ay:=by
 show ob (b (put fr i a) σ) _=_
 rw[h];rfl
theorem aan{self:aW}{ks:List (AV×List AV)}: ∀{fr:Fm} {σ:AS} {i:Nat} {L:aa},(∀k∈ks,bW k.1=false/\ ∀σ,self [k.1] σ=some (.lst k.2,σ))->gt fr 1= .ref i->σ.get i=some (.lst L)->L.length+(ks.flatMap (·.2)).length <=4000000->
  ∃fr',pF [3] (PV self) (ks.map (·.1)) fr σ=some (.next fr' (σ.set i (.lst (L++ks.flatMap (·.2)))))/\gt fr' 1= .ref i:=by
 induction ks with
 |nil=>exact fun{fr σ i L} _ hf hi _=>⟨fr,by rw[bI,aR,EJ hi];rfl,hf⟩
 |cons k ks ih=>
  intro fr σ i L h hf hi hk
  obtain⟨hu,hs⟩:=h k (bf ..)
  rw[aY]at hk ⊢
  have hk1:L.length+k.2.length<=4000000:=au (dz (by rw[ao];exact cY _ _) _) hk
  have h1:gt (put fr 3 k.1) 1= .ref i:=(fR rfl).trans hf
  have e1:PV self (put fr 3 k.1) σ=some (.next (put fr 3 k.1) (σ.set i (.lst (L++k.2)))):=by
   unfold PV
   simp only[dk,Js,eJ,bk,h1,c9,fq,hu,ae,aX,Jf hi,b9,cz,cq,eu,hs,ahj hi hk1,dF,fJ]
  refine eX (ih (fr:=put fr 3 k.1) (σ:=σ.set i (.lst (L++k.2))) (L:=L++k.2) (fun k hk=>h k (aQ _ hk)) h1 (eB hi) (by rw[ao,kE,<- ao];exact hk)) fun fr' e2 h2=> ?_
  refine⟨fr',?_,h2⟩
  rw[bh,EI e1,e2,ajK,aB]
theorem adl{n:Nat}{fr:Fm}{σ:AS}{i:Nat}{L:aa}(hn:n<17)(hf:gt fr 1= .ref i)(hi:σ.get i=some (.lst L))(hs:i<σ.next)(hk:L.length+(fF n).length <=4000000):
  G9 (put fr 2 (qp n)) σ=some (.next (put fr 2 (qp n)) ((σ.alloc (.lst (fF n))).set i (.lst (L++fF n)))):=by
 refine eX (YB (nmS hn)) fun t h1 h2=> ?_
 have h3:gt (put fr 2 (qp n)) 1= .ref i:=(fR rfl).trans hf
 have hu:bW (qp n)=false:=rfl
 have hij:aj i σ.next=false:=by rw[gg];exact decide_eq_false (ct hs)
 unfold G9
 simp only[dk,Js,eJ,bk,h3,c9,fq,hu,ae,aX,Jf hi,b9,cz,cq,eu,h2,aba h1 zp,ahk (dP hi hs) cn hij hk,dF,fJ]
def rP(lvl:Nat)(l:Lf):List AV:=bif l.c then fF (j8 lvl l)else[]
theorem L2{lvl:Nat}{l:Lf}{fr:Fm}{σ:AS}{i:Nat}{L:aa}(hn:j8 lvl l<17)(hf:gt fr 1= .ref i)(hi:σ.get i=some (.lst L))(hs:i<σ.next)(hk:L.length+(rP lvl l).length <=4000000):
  ∃fr' ai cs,conds lvl l= .lst cs/\cs.length<=1/\pF [2] G9 cs fr σ=some (.next fr' ai)/\gt fr' 1= .ref i/\ai.get i=some (.lst (L++rP lvl l))/\(∀j,aj 2 j=false->gt fr' j=gt fr j):=by
 obtain⟨k,c⟩:=l
 cases c with
 |false=>exact⟨fr,σ,[],rfl,aU _,rfl,hf,by rw[show rP lvl ⟨k,false⟩=[] from rfl,aR];exact hi,fun _ _=>rfl⟩
 |true=>exact⟨_,_,[qp (j8 lvl ⟨k,true⟩)],rfl,ax _,(EI (adl hn hf hi hs hk)).trans rfl,(fR rfl).trans hf,eB (dP hi hs),fun j h=>fR h⟩
theorem ah5(lvl i:Nat):(kd lvl i).1<17:=by
 have h1: ∀x∈iY,x.1<17:=by decide +kernel
 have h5: ∀x∈dK,x.1<17:=by decide +kernel
 have h10: ∀x∈sx,x.1<17:=by decide +kernel
 have h77: ∀x∈gH,x.1<17:=by decide +kernel
 have h:=Vh lvl i
 generalize kd lvl i=x at h
 unfold kT at h
 revert h
 cases aj lvl 1
 ·cases aj lvl 5
  ·cases aj lvl 10
   ·exact h77 x
   ·exact h10 x
  ·exact h5 x
 ·exact h1 x
def dU(lvl:Nat)(l:Lf):List AV:=kv lvl (kd lvl l.i)++rP lvl l
theorem adp{self:aW}{args:aa}{σ:AS}:bn 1 [] (nA self) args σ=bn 1 [] (aV (cT [1] IQ) (aV (gE [2] (un (aA 23) (al 0)) G9) (aV (gE [3] (un (aA 22) (al 0)) (PV self)) (aV (eK (al 1)) br)))) args σ:=rfl
theorem zh{xs:ac}{it:EM}{b:SM}{l:aa}{fr:Fm}{σ:AS}(h:it fr σ=some (.lst l,σ))(hl:l.length<=4000000):gE xs it b fr σ=pF xs b l fr σ:=by
 have h2:fE σ (.lst l)=some (l,σ):=by
  show(bif dC l.length then some (l,σ)else none)=_
  rw[fW hl];rfl
 show bD (it fr σ) (fun x ai=>bD (fE ai x) fun l ay=>pF xs b l fr ay)=_
 rw[h,aX,h2];rfl
theorem Pw{n:Nat}{it lv:AV}{b:Bool}{T Cd:aa}{cs:aa}{ks:List (AV×List AV)}(hit:noRef it=true)(hu:bW it=false)(ha: ∀σ,aA 20 it σ=some lv)(hb: ∀σ,b7 .In lv iW σ=some b)(hc: ∀σ,aA 23 it σ=some (.lst cs))(hkd: ∀σ,aA 22 it σ=some (.lst (ks.map (·.1))))
  (hsh:uO it b=some T)(hT:aN T=true)(hC:aN Cd=true)(hcl:cs.length<=4000000)
  (hcs: ∀{fr σ i L},gt fr 1= .ref i->σ.get i=some (.lst L)->i<σ.next->L.length+Cd.length<=4000000-> ∃fr' ai,pF [2] G9 cs fr σ=some (.next fr' ai)/\gt fr' 1= .ref i/\ai.get i=some (.lst (L++Cd))/\(∀j,aj 2 j=false->gt fr' j=gt fr j))
  (hg: ∀k∈ks,bW k.1=false/\ ∀σ,cu n [k.1] σ=some (.lst k.2,σ))(hgn:aN (ks.flatMap (·.2))=true)(hk:((T++Cd)++ks.flatMap (·.2)).length <=4000000)(hkl:ks.length<=4000000)(σ:AS):
  cu (n+1) [it] σ=some (.lst ((T++Cd)++ks.flatMap (·.2)),σ):=by
 have h1:=adT (it:=it) (fr:=[it]) (σ:=⟨0,[]⟩) rfl hu (by rw[gZ,hit];rfl) hsh hT (ha _) (hb _)
 have hk1:T.length+Cd.length<=4000000:=by
  rw[<- ao]
  exact au (by rw[ao (as:=T++Cd)];exact cY _ _) hk
 refine Xn (hcs (fr:=[it,.ref 0]) (σ:=AS.alloc ⟨0,[]⟩ (.lst T)) (i:=0) rfl rfl (hJ _) hk1) fun fr2 g8 h2 hf2 hi2 hj2=> ?_
 have h0:gt fr2 0=it:=(hj2 0 rfl).trans rfl
 refine eX (aan (self:=cu n) hg hf2 hi2 (by rw[<- ao];exact hk)) fun fr3 h3 hf3=> ?_
 have e2:gE [2] (un (aA 23) (al 0)) G9 [it,.ref 0] (AS.alloc ⟨0,[]⟩ (.lst T))=some (.next fr2 g8):=by
  refine(zh (l:=cs) ?_ hcl).trans h2
  simp only[gn,bk,kI,hu,ae,aX,hc,b9]
 have e3:gE [3] (un (aA 22) (al 0)) (PV (cu n)) fr2 g8=some (.next fr3 (g8.set 0 (.lst ((T++Cd)++ks.flatMap (·.2))))):=by
  refine(zh (l:=ks.map (·.1)) ?_ (by rw[aS];exact hkl)).trans h3
  simp only[gn,bk,h0,hu,ae,aX,hkd,b9]
 have e4:bn 1 [] (nA (cu n)) [it] ⟨0,[]⟩=some (.ref 0,g8.set 0 (.lst ((T++Cd)++ks.flatMap (·.2)))):=by
  rw[adp]
  show ob (aV (cT [1] IQ) _ [it] ⟨0,[]⟩) ir=_
  simp only[dk,fH,h1,aX,b9,dF]
  show ob (ob (gE [2] (un (aA 23) (al 0)) G9 [it,.ref 0] _) _) ir=_
  simp only[e2,b9,dF,dk,e3,ek,bk,hf3,fq,ae,aX,dI,gB]
 have hnr:aN ((T++Cd)++ks.flatMap (·.2))=true:=by
  rw[b8,b8,hgn,hT,hC];rfl
 refine zk (PI:=xm (cu n)) (by rw[gZ,hit];rfl) (ay:=(g8.set 0 (.lst ((T++Cd)++ks.flatMap (·.2)))).drop 0) ?_ hnr
 show bD (bn 1 [] (nA (cu n)) [it] ⟨0,[]⟩) (fun a ai=>some (jJ 12 a ai))=_
 rw[e4]
 show some (jJ 12 (.ref 0) _)=_
 rw[xQ (eB hi2) hnr]
theorem X6{lvl:Nat}{l:Lf}:aN (rP lvl l)=true:=by
 unfold rP
 cases l.c
 ·rfl
 ·exact zp
def pf(lvl:Nat)(l:Lf)(ks:aa)(p:AV):AV:=.frz cp gk (.int (am lvl)::kb (kd lvl l.i) (conds lvl l) (.lst ks) p .none)
theorem Ex{n lvl:Nat}{l:Lf}{ks:List (AV×List AV)}{p:AV}(hlv:rn lvl=true)(hks:aN (ks.map (·.1))=true)(hp:noRef p=true)(hg: ∀k∈ks,bW k.1=false/\ ∀σ,cu n [k.1] σ=some (.lst k.2,σ))(hgn:aN (ks.flatMap (·.2))=true)(hk:(dU lvl l++ks.flatMap (·.2)).length <=4000000)(hkl:ks.length<=4000000)(σ:AS):
  cu (n+1) [pf lvl l (ks.map (·.1)) p] σ=some (.lst (dU lvl l++ks.flatMap (·.2)),σ):=by
 have hit:noRef (pf lvl l (ks.map (·.1)) p)=true:=by
  show(true&&aN (kb _ _ _ _ _))=true
  rw[Hu,Ht,sy,hks,hp];rfl
 refine Xp (L2 (lvl:=lvl) (l:=l) (fr:=[.none,.ref 0]) (σ:=⟨1,[(0,.lst [])]⟩) (i:=0) (L:=[]) (ah5 lvl l.i) rfl rfl (hJ _) (au (eH (ic _)) (au (by unfold dU;rw[ao,ao];exact au (jt _ _) (cY _ _)) hk))) fun _ _ cs hcs hcl _=> ?_
 refine Pw (it:=pf lvl l (ks.map (·.1)) p) hit rfl (fun _=>rfl) (amW hlv) (cs:=cs) (fun σ=> ?_) (fun _=>rfl) (amR hlv _ _ _ _) zp X6 (au hcl (by decide)) (fun{fr σ i L} h1 h2 h3 h4=> ?_) hg hgn hk hkl σ
 ·rw[<- hcs]
  obtain⟨i,c⟩:=l
  cases c<;>rfl
 ·obtain⟨fr',ai,cs',e,_,h⟩:=L2 (lvl:=lvl) (l:=l) (ah5 lvl l.i) h1 h2 h3 h4
  rw[hcs]at e
  cases e
  exact⟨fr',ai,h⟩
theorem ajt{n i l:Nat}(hi:i<5)(σ:AS):cu (n+1) [.frz cp gk (kg (17+i) l .opq)] σ=some (.lst (gF (17+i) l),σ):=by
 have hrn:noRef (ya l)=true:=by unfold ya;cases l<;>rfl
 have hit:noRef (.frz cp gk (kg (17+i) l .opq))=true:=by
  show aN (kg (17+i) l .opq)=true
  simp only[kg,gZ,X9,X7,X5,X4,acq,sy,hrn,X8,rz]
 have hlen:(gF (17+i) l).length <=4000000:=by
  unfold gF
  cases l<;>exact av rfl
 have h:=Pw (n:=n) (it:=.frz cp gk (kg (17+i) l .opq)) (T:=gF (17+i) l) (Cd:=[]) (cs:=[]) (ks:=[]) (b:=false) hit rfl (fun _=>rfl) (fun _=>rfl) (fun _=>rfl) (fun _=>rfl) (rnS hi l .opq) zp rfl (aU _) (fun{fr σ i L} h1 h2 _ _=>⟨fr,σ,rfl,h1,by rw[aR];exact h2,fun _ _=>rfl⟩) (fun _ h=>absurd h bg) rfl (by rw[bI,aR,aR];exact hlen) (aU _) σ
 rw[bI,aR,aR]at h
 exact h
theorem CN{l:List (List Nat×List Nat×Nat)}: ∀{c:Nat} {a:Bool},(wH a c l).length=l.length:=by
 induction l with
 |nil=>exact rfl
 |cons x l ih=>exact congrArg nM ih
theorem aiI(p:Nat):(RV p).length <=2:=by
 unfold RV xZ
 cases aj p 0
 ·cases aj p 1
  ·cases aj p 2
   ·exact aU _
   ·exact ax _
  ·exact ax _
 ·exact ax _
theorem akZ(p:Nat):(Sa p).length <=3:=by
 unfold Sa
 cases aj p 1
 ·exact aU _
 ·exact ax _
theorem aiB(p:Nat):(RU p).length <=10:=by
 unfold RU
 cases aj p 2
 ·cases aj p 3
  ·exact aU _
  ·exact ax _
 ·exact ax _
theorem aaj(lvl:Nat)(x:Nat×Nat×Nat):(kv lvl x).length <=18:=by
 unfold kv ano
 rw[CN]
 show((RV x.2.2++(Sa x.2.1++(RU x.2.1++[KI]))).length +1+1)<=18
 rw[ao,ao,ao]
 exact be (be (au (aJ (aiI _) (aJ (akZ _) (aJ (aiB _) (ax 1)))) (by decide)))
theorem ol(lvl:Nat)(l:Lf):(dU lvl l).length <=30:=by
 unfold dU rP
 rw[ao]
 refine aJ (b:=18) (d:=12) (aaj _ _) ?_
 cases l.c
 ·exact aU _
 ·show(fF _).length <=12
  unfold fF;rw[CN];exact av rfl
def vf(t:Tn):List AV:=match t with
 | .leaf l=>dU 5 l
 | .grp g a=>dU 5 g++dU 10 a
 | .grp2 g a b=>dU 5 g++(dU 10 a++dU 10 b)
theorem DI(t:Tn):(vf t).length <=90:=by
 cases t with
 |leaf l=>exact au (ol 5 l) (by decide)
 |grp g a=>exact(ao (as:=dU 5 g))▸au (aJ (ol 5 g) (ol 10 a)) (by decide)
 |grp2 g a b=>
  show(dU 5 g++(dU 10 a++dU 10 b)).length <=90
  rw[ao,ao]
  exact aJ (ol 5 g) (aJ (ol 10 a) (ol 10 b))
def VD(i n:Nat):List AV:=hH (motive:=fun _=>List AV) [] (fun l _=>gF (17+i) l) n
theorem ajw(i n:Nat):(VD i n).length <=90:=by
 cases n with
 |zero=>exact aU _
 |succ l=>
  show(gF (17+i) l).length <=90
  unfold gF;rw[CN]
  cases l<;>exact av rfl
theorem qO{lvl:Nat}{l:Lf}:aN (dU lvl l)=true:=by
 unfold dU;rw[b8,show aN (kv lvl (kd lvl l.i))=true from zp,X6];rfl
theorem aml{t:Tn}:aN (vf t)=true:=by
 cases t with
 |leaf l=>exact qO
 |grp g a=>
  show aN (dU 5 g++dU 10 a)=true
  rw[b8,qO,qO];rfl
 |grp2 g a b=>
  show aN (dU 5 g++(dU 10 a++dU 10 b))=true
  rw[b8,b8,qO,qO,qO];rfl
theorem acr{i n:Nat}:aN (VD i n)=true:=by
 cases n with
 |zero=>rfl
 |succ l=>exact zp
theorem Ey{n lvl:Nat}{l:Lf}(h:rn lvl=true)(σ:AS):cu (n+1) [om lvl l .opq] σ=some (.lst (dU lvl l),σ):=by
 have h:=Ex (n:=n) (l:=l) (ks:=[]) (p:=.opq) h rfl rfl (fun _ h=>absurd h bg) rfl (by rw[bI,aR];exact au (ol lvl l) (by decide)) (aU _) σ
 rw[bI,aR]at h
 exact h
theorem Jx{l:aa}{m:Nat}(h:l.length<=m)(hm:cX m 4000000=true):l.length<=4000000:=au h (av hm)
theorem aej{n:Nat}(t:Tn)(σ:AS):cu (n+2) [sK t] σ=some (.lst (vf t),σ):=by
 cases t with
 |leaf l=>exact Ey (n:=n+1) rfl σ
 |grp g a=>
  have h:=Ex (n:=n+1) (lvl:=5) (l:=g) (ks:=[(om 10 a .opq,dU 10 a)]) (p:=.opq) rfl (by rw[bh,jV,gZ,qq];rfl) rfl (fun k hk=>(aP.mp hk)▸⟨rfl,fun σ=>Ey (n:=n) rfl σ⟩)
   (by rw[aY,bI,aR];exact qO) (by rw[aY,bI,aR];exact Jx (DI (.grp g a)) rfl) (by exact av rfl) σ
  rw[aY,bI,aR]at h
  exact h
 |grp2 g a b=>
  have h:=Ex (n:=n+1) (lvl:=5) (l:=g) (ks:=[(om 10 a .opq,dU 10 a),(om 10 b .opq,dU 10 b)]) (p:=.opq) rfl (by rw[bh,bh,jV,gZ,gZ,qq,qq];rfl) rfl
   (fun k hk=>(aG.mp hk).elim (fun h=>h▸⟨rfl,fun σ=>Ey (n:=n) rfl σ⟩) fun hk=>(aP.mp hk)▸⟨rfl,fun σ=>Ey (n:=n) rfl σ⟩)
   (by rw[aY,aY,bI,aR,b8,qO,qO];rfl) (by rw[aY,aY,bI,aR];exact Jx (DI (.grp2 g a b)) rfl) (by exact av rfl) σ
  rw[aY,aY,bI,aR]at h
  exact h
def ED(ts:List Tn):List (AV×List AV):=ts.map fun t=>(sK t,vf t)
def HD(i n:Nat):List (AV×List AV):=hH (motive:=fun _=>List (AV×List AV)) [] (fun l _=>[(.frz cp gk (kg (17+i) l .opq),gF (17+i) l)]) n
def iu(r:Rt):List AV:=dU r.lvl r.it++(r.ts.flatMap vf++VD (j8 1 r.it) r.ren)
theorem aaJ(ts:List Tn):(ED ts).map (·.1)=DH ts:=by
 induction ts with
 |nil=>rfl
 |cons t ts ih=>exact congrArg (sK t:: ·) ih
theorem aaL(ts:List Tn):(ED ts).flatMap (·.2)=ts.flatMap vf:=by
 induction ts with
 |nil=>rfl
 |cons t ts ih=>
  show vf t++(ED ts).flatMap (·.2)=_
  rw[ih];rfl
theorem Tu(ts:List Tn):aN (ts.flatMap vf)=true:=by
 induction ts with
 |nil=>rfl
 |cons t ts ih=>rw[aY,b8,aml,ih];rfl
theorem aaK{ts:List Tn}(h:ts.length<=2):(ts.flatMap vf).length <=180:=by
 cases ts with
 |nil=>exact aU _
 |cons s ts=>cases ts with
  |nil=>rw[aY,bI,aR];exact au (DI s) (by decide)
  |cons t ts=>cases ts with
   |nil=>rw[aY,aY,bI,aR,ao];exact aJ (DI s) (DI t)
   |cons u ts=>exact absurd h (yK.mpr (be (be (be (aU _)))))
structure oc(r:Rt):Prop where
 ok:Yj r=true
 nm:r.ren≠0->j8 1 r.it<5
theorem oc.lv{r:Rt}(h:oc r):rn r.lvl=true/\r.ts.length<=2:=by
 have q:=h.ok
 unfold Yj at q
 cases z:aj r.lvl 1 with
 |true=>
  rw[z]at q
  rw[aD z];exact⟨rfl,av q⟩
 |false=>
  rw[z]at q
  refine aE (show(aj r.lvl 77&&(r.ts.isEmpty&&aj r.ren 0))=true from q) fun h1 h=>aE h fun h2 _=> ?_
  rw[aD h1,dM.mp h2];exact⟨rfl,aU _⟩
theorem uL{r:Rt}(h:oc r):(iu r).length <=300:=by
 unfold iu
 rw[ao,ao]
 exact au (aJ (ol _ _) (aJ (aaK h.lv.2) (ajw _ _))) (by decide)
theorem Jd{r:Rt}:aN (iu r)=true:=by
 unfold iu
 rw[b8,b8,qO,Tu,acr];rfl
theorem VE{r:Rt}(h:oc r)(σ:AS):cu 6 [eg r] σ=some (.lst (iu r),σ):=by
 obtain⟨h1,h2⟩:=h.lv
 have hr:(HD (j8 1 r.it) r.ren).map (·.1)=qP r/\(HD (j8 1 r.it) r.ren).flatMap (·.2)=VD (j8 1 r.it) r.ren/\(HD (j8 1 r.it) r.ren).length <=1/\ ∀k∈HD (j8 1 r.it) r.ren,bW k.1=false/\ ∀σ,cu 5 [k.1] σ=some (.lst k.2,σ):=by
  have hn:=h.nm
  obtain⟨lv,it,ts,n⟩:=r
  cases n with
  |zero=>exact⟨rfl,rfl,aU _,fun _ h=>absurd h bg⟩
  |succ l=>exact⟨rfl,aR _,ax _,fun k hk=>(aP.mp hk)▸⟨rfl,fun σ=>ajt (n:=4) (hn (kj _)) σ⟩⟩
 obtain⟨r1,r2,r3,r4⟩:=hr
 have hf:(ED r.ts++HD (j8 1 r.it) r.ren).map (·.1)=DH r.ts++qP r:=by rw[bt,aaJ,r1]
 have hs:(ED r.ts++HD (j8 1 r.it) r.ren).flatMap (·.2)=r.ts.flatMap vf++VD (j8 1 r.it) r.ren:=by rw[kX,aaL,r2]
 have q:=Ex (n:=5) (lvl:=r.lvl) (l:=r.it) (ks:=ED r.ts++HD (j8 1 r.it) r.ren) (p:=.none) h1 (by rw[hf,b8,NR,Vs];rfl) rfl
  (fun k hk=>(cV.mp hk).elim (fun hk=>by
   obtain⟨t,_,rfl⟩:=dD.mp hk
   exact⟨by cases t<;>rfl,fun σ=>aej (n:=3) t σ⟩) (r4 k))
  (by rw[hs,b8,Tu,acr];rfl) (by rw[hs];exact Jx (uL h) rfl) (by rw[ao];exact au (aJ (au (eH (aS ..)) h2) r3) (by decide)) σ
 rw[hf,hs]at q
 exact q
noncomputable def Er(wk lk:aa)(fk:List (List Nat))(fv so:aa):AV:=.frz Zy [24,25,26,27,31,5] [.lst wk,.lst lk,.dct fk fv,.lst so,.int 0,.dct [] []]
section
variable{σ:AS}{i j:Nat}{l m:aa}
theorem pi:de [] σ=some (.ref σ.next,σ.alloc (.lst [])):=rfl
theorem En(hi:σ.get i=some (.lst l))(hk:l.length+m.length<=4000000):b4 .Add (.ref i) (.lst m) σ=some (.ref σ.next,σ.alloc (.lst (l++m))):=by
 have h1:iR σ (.ref i)=some l:=jm hi
 show ob (iR σ (.ref i)) _=_
 rw[h1]
 show(bif dC (l.length+m.length)then _ else none)=_
 rw[fW hk];rfl
theorem IE(hi:σ.get i=some (.lst l))(hj:σ.get j=some (.lst m))(hk:l.length+m.length<=4000000):b4 .Add (.ref i) (.ref j) σ=some (.ref σ.next,σ.alloc (.lst (l++m))):=by
 have h1:iR σ (.ref i)=some l:=jm hi
 have h2:iR σ (.ref j)=some m:=jm hj
 show ob (iR σ (.ref i)) (fun l=>ob (iR σ (.ref j)) fun m=>bif dC (l.length+m.length)then some (AV.ref σ.next,σ.alloc (.lst (l++m)))else none)=_
 rw[h1,b9,h2,b9,fW hk];rfl
theorem X1(hi:σ.get i=some (.lst l))(hj:σ.get j=some (.lst [])):b7 .NotEq (.ref i) (.ref j) σ=some (!l.isEmpty):=by
 have h1:iR σ (.ref i)=some l:=jm hi
 have h2:iR σ (.ref j)=some []:=jm hj
 show ob (od (iR σ (.ref i)) (fun l=>ob (iR σ (.ref j)) fun m=>bif rr l m then KL (wC 16) l m else some false) _) _=_
 rw[h1,anv,h2]
 cases l<;>rfl
theorem IT(hj:σ.get j=some (.lst [])):b7 .Eq (.lst l) (.ref j) σ=some l.isEmpty:=by
 have h2:iR σ (.ref j)=some []:=jm hj
 show ob (iR σ (.ref j)) (fun m=>bif rr l m then KL (wC 16) l m else some false)=_
 rw[h2]
 cases l<;>rfl
end
def VA:SM:=aV (k9 (cH (fT f8) (al 1) (aw (bv (cu 6) (aw (al 2) aI)) aI))) br
theorem Qv{r:Rt}(h:oc r)(σ:AS):iG [.lst [eg r]] σ=some (.lst (iu r),σ):=by
 have e1:VA [.lst [eg r],.ref 0,eg r] (AS.alloc ⟨0,[]⟩ (.lst []))=some (.next [.lst [eg r],.ref 0,eg r] ((AS.alloc ⟨0,[]⟩ (.lst [])).set 0 (.lst ([]++iu r)))):=by
  have hu:bW (eg r)=false:=rfl
  unfold VA
  simp only[dk,Js,eJ,bk,kI,pd,fq,hu,ae,aX,Jf (i:=0) (σ:=AS.alloc ⟨0,[]⟩ (.lst [])) (l:=[]) rfl,b9,cz,cq,eu,VE h,ahj (i:=0) (σ:=AS.alloc ⟨0,[]⟩ (.lst [])) (l:=[]) rfl (au (eH (ic _)) (Jx (uL h) rfl)),dF,fJ]
 have e2:gE [2] (al 0) VA [.lst [eg r],.ref 0] (AS.alloc ⟨0,[]⟩ (.lst []))=some (.next [.lst [eg r],.ref 0,eg r] ((AS.alloc ⟨0,[]⟩ (.lst [])).set 0 (.lst (iu r)))):=(zh (l:=[eg r]) rfl (av rfl)).trans (EI e1)
 have e3:bn 1 [] rO [.lst [eg r]] ⟨0,[]⟩=some (.ref 0,(AS.alloc ⟨0,[]⟩ (.lst [])).set 0 (.lst (iu r))):=by
  show ob (ob (gE [2] (al 0) VA [.lst [eg r],.ref 0] (AS.alloc ⟨0,[]⟩ (.lst []))) (gU (aV (eK (al 1)) br))) ir=_
  rw[e2];rfl
 refine zk (PI:=xo) (by rw[gZ,sy,gZ,KX];rfl) (ay:=((AS.alloc ⟨0,[]⟩ (.lst [])).set 0 (.lst (iu r))).drop 0) ?_ Jd
 show bD (bn 1 [] rO [.lst [eg r]] ⟨0,[]⟩) (fun a ai=>some (jJ 12 a ai))=_
 rw[e3]
 show some (jJ 12 (.ref 0) _)=_
 rw[xQ (l:=iu r) rfl Jd]
noncomputable def cj(a b:ac):List AV:=wH true 8 [wd a,(uN,b,b.length),KI]
noncomputable def my:List Nat:=[87,79,82,75,73,78,71,45,83,84,79,82,65,71,69]
noncomputable def pL:List Nat:=[76,73,78,75,65,71,69]
noncomputable def dg:List Nat:=[83,69,67,84,73,79,78]
noncomputable def gV:List Nat:=[70,73,76,69]
noncomputable def jG:List Nat:=[68,65,84,65]
noncomputable def uM:List Nat:=[68,73,86,73,83,73,79,78]
noncomputable def sFD:List Nat:=[70,68]
noncomputable def sSD:List Nat:=[83,68]
noncomputable def sF1:List Nat:=[70,49]
noncomputable def aqL:List Nat:=[79,76,68]
noncomputable def kq(s:Bool):List Nat:=bif s then sSD else sFD
noncomputable def et(o:Bool):List Nat:=bif o then aqL else sF1
theorem aos:kL (my++32::dg++[46]) true=some (cj my dg):=by kernel_rfl
theorem aor:kL (pL++32::dg++[46]) true=some (cj pL dg):=by kernel_rfl
theorem aoq:kL (gV++32::dg++[46]) true=some (cj gV dg):=by kernel_rfl
theorem aop:kL (jG++32::uM++[46]) true=some (cj jG uM):=by kernel_rfl
theorem aqc(o s:Bool):kL (kq s++32::et o++[46]) true=some (cj (kq s) (et o)):=by
 cases o<;>cases s<;>kernel_rfl
theorem zo{a b:ac}:aN (cj a b)=true:=zp
def fM(h:aa)(o:Option Rt):List AV:=bo (motive:=fun _=>List AV) [] (fun r=>h++iu r) o
def jn(o:Option Rt):List AV:=bo (motive:=fun _=>List AV) [] (fun r=>[eg r]) o
def Ki(o:Option Rt):Prop:= ∀r,o=some r->oc r
theorem YA{h t a b:ac}{o:Option Rt}(he: ∀σ,b4 .Add (.str h) (.str [32,83,69,67,84,73,79,78,46]) σ=some (.str t,σ))(hh:kL t true=some (cj a b))(ho:Ki o)(σ:AS):eP [.str h,.lst (jn o)] σ=some (.lst (fM (cj a b) o),σ):=by
 cases o with
 |none=>
  have e3:bn 2 [] eR [.str h,.lst []] ⟨0,[]⟩=some (.ref 1,AS.alloc (AS.alloc ⟨0,[]⟩ (.lst [])) (.lst [])):=by
   show ob (eR [.str h,.lst []] ⟨0,[]⟩) ir=_
   have hu:bW (.lst [])=false:=rfl
   simp only[eR,dk,j6,fD,bk,kI,pd,hu,ae,aX,b9,eu,cq,pi,IT (σ:=AS.alloc ⟨0,[]⟩ (.lst [])) (j:=0) (l:=[]) rfl,Gu,af,ek,dI,gB]
   rfl
  refine zk (PI:=nQ) rfl (ay:=AS.drop (AS.alloc (AS.alloc ⟨0,[]⟩ (.lst [])) (.lst [])) 1) ?_ rfl
  show bD (bn 2 [] eR [.str h,.lst []] ⟨0,[]⟩) (fun a ai=>some (jJ 12 a ai))=_
  rw[e3];rfl
 |some r=>
  have hr:=ho r rfl
  have hk:(cj a b).length +(iu r).length <=4000000:=au (aJ (b:=3) (eH CN) (uL hr)) (by decide)
  have hn:aN (cj a b++iu r)=true:=by rw[b8,zo,Jd];rfl
  have e3:bn 2 [] eR [.str h,.lst [eg r]] ⟨0,[]⟩=some (.ref 2,AS.alloc (AS.alloc (AS.alloc ⟨0,[]⟩ (.lst [])) (.lst (cj a b))) (.lst (cj a b++iu r))):=by
   show ob (eR [.str h,.lst [eg r]] ⟨0,[]⟩) ir=_
   have hu:bW (.lst [eg r])=false:=rfl
   simp only[eR,dk,j6,fD,bk,kI,pd,hu,mU,ae,aX,b9,eu,cq,cz,d6,pi,IT (σ:=AS.alloc ⟨0,[]⟩ (.lst [])) (j:=0) (l:=[eg r]) rfl,EU,fJ,dF,ek,jH,he,yk hh zo,Qv hr,En (σ:=AS.alloc (AS.alloc ⟨0,[]⟩ (.lst [])) (.lst (cj a b))) (i:=(AS.alloc ⟨0,[]⟩ (.lst [])).next) (l:=cj a b) rfl hk,dI,gB]
   rfl
  refine zk (PI:=nQ) (by rw[gZ,gZ,show noRef (.lst (jn (some r)))=true from by show aN [eg r]=true;rw[gZ,KX];rfl];rfl) (ay:=AS.drop (AS.alloc (AS.alloc (AS.alloc ⟨0,[]⟩ (.lst [])) (.lst (cj a b))) (.lst (cj a b++iu r))) 2) ?_ hn
  show bD (bn 2 [] eR [.str h,.lst [eg r]] ⟨0,[]⟩) (fun a ai=>some (jJ 12 a ai))=_
  rw[e3]
  show some (jJ 12 (.ref 2) _)=_
  rw[xQ (l:=cj a b++iu r) rfl hn];rfl
structure DS where
 f:Option (Bool×Bool×Rt)
 w:Option Rt
 l:Option Rt
structure jk(d:DS):Prop where
 f: ∀x,d.f=some x->oc x.2.2/\x.2.2.lvl=1
 w:Ki d.w
 l:Ki d.l
def RP(d:DS):List (List Nat):=bo (motive:=fun _=>List (List Nat)) [] (fun x=>[et x.1]) d.f
def PD(d:DS):List AV:=bo (motive:=fun _=>List AV) [] (fun x=>[.lst [eg x.2.2]]) d.f
def fSo(d:DS):List AV:=bo (motive:=fun _=>List AV) [] (fun x=>bif x.2.1 then[.str (et x.1)]else[]) d.f
def bK(d:DS):AV:=Er (jn d.w) (jn d.l) (RP d) (PD d) (fSo d)
def flT(d:DS):List AV:=bo (motive:=fun _=>List AV) [] (fun x=>cj (kq x.2.1) (et x.1)++iu x.2.2) d.f
def je(d:DS):List AV:=bo (motive:=fun _=>List AV) [] (fun x=>cj gV dg++(cj (kq x.2.1) (et x.1)++iu x.2.2)) d.f
def dX(d:DS):List AV:=(je d++fM (cj my dg) d.w)++fM (cj pL dg) d.l
def gN(d:DS):List AV:=bif (dX d).isEmpty then[]else cj jG uM++dX d
theorem ri{a b:ac}:(cj a b).length=3:=CN
theorem yc{a b:ac}{o:Option Rt}(h:Ki o):(fM (cj a b) o).length <=303:=by
 cases o with
 |none=>exact aU _
 |some r=>
  show(cj a b++iu r).length <=303
  rw[ao,ri];exact dz (uL (h r rfl)) 3
theorem acs{a b:ac}{o:Option Rt}:aN (fM (cj a b) o)=true:=by
 cases o with
 |none=>rfl
 |some r=>
  show aN (cj a b++iu r)=true
  rw[b8,zo,Jd];rfl
theorem Hi{d:DS}(h:jk d):(je d).length <=306:=by
 obtain⟨f,w,l⟩:=d
 cases f with
 |none=>exact aU _
 |some x=>
  show(cj gV dg++(cj (kq x.2.1) (et x.1)++iu x.2.2)).length <=306
  rw[ao,ao,ri,ri];exact dz (dz (uL (h.f x rfl).1) 3) 3
theorem aiu{d:DS}:aN (je d)=true:=by
 obtain⟨f,w,l⟩:=d
 cases f with
 |none=>rfl
 |some x=>
  show aN (cj gV dg++(cj (kq x.2.1) (et x.1)++iu x.2.2))=true
  rw[b8,b8,zo,zo,Jd];rfl
theorem Pb{d:DS}(h:jk d):(dX d).length <=1000:=by
 unfold dX
 rw[ao,ao]
 exact au (aJ (aJ (Hi h) (yc h.w)) (yc h.l)) (by decide)
theorem ait{d:DS}:aN (dX d)=true:=by
 unfold dX;rw[b8,b8,aiu,acs,acs];rfl
theorem Vr{d:DS}:aN (gN d)=true:=by
 unfold gN
 cases (dX d).isEmpty
 ·show aN (cj jG uM++dX d)=true
  rw[b8,zo,ait];rfl
 ·rfl
def KM:SM:=aV (cT [3] (td (fw (b7 .In) (al 2) (un (aA 27) (al 0))) (ba (.str [83,68,32])) (ba (.str [70,68,32]))))
  (aV (k9 (cH (fT f8) (al 1) (aw (bi (b4 .Add) (bv cL (aw (bi (b4 .Add) (bi (b4 .Add) (al 3) (al 2)) (ba (.str [46]))) (aw (ba (.bool true)) aI))) (bv iG (aw (bi fV (un (aA 26) (al 0)) (al 2)) aI))) aI))) br)
def Ep:SM:=sb (fw (b7 .NotEq) (al 1) (bv de aI)) (aV (cT [1] (bi (b4 .Add) (bv cL (aw (ba (.str [70,73,76,69,32,83,69,67,84,73,79,78,46])) (aw (ba (.bool true)) aI))) (al 1))) br) br
def tb:SM:=cT [1] (bi (b4 .Add) (bi (b4 .Add) (al 1) (bv eP (aw (ba (.str [87,79,82,75,73,78,71,45,83,84,79,82,65,71,69])) (aw (un (aA 24) (al 0)) aI)))) (bv eP (aw (ba (.str [76,73,78,75,65,71,69])) (aw (un (aA 25) (al 0)) aI))))
def o9:SM:=aV (eK (td (fw (b7 .NotEq) (al 1) (bv de aI)) (bi (b4 .Add) (bv cL (aw (ba (.str [68,65,84,65,32,68,73,86,73,83,73,79,78,46])) (aw (ba (.bool true)) aI))) (al 1)) (bv de aI))) br
theorem agi:o7=aV (cT [1] (bv de aI)) (aV (gE [2] (un (aA 26) (al 0)) KM) (aV Ep (aV tb o9))):=rfl
theorem aew{d:DS}(h:jk d){fr:Fm}{σ:AS}{i:Nat}(h0:gt fr 0=bK d)(h1:gt fr 1= .ref i)(hi:σ.get i=some (.lst (je d)))(hs:i<σ.next): ∃k ai,aV tb o9 fr σ=some (.ret (.ref k) ai)/\ai.get k=some (.lst (gN d)):=by
 have hu:bW (bK d)=false:=rfl
 have a24: ∀σ,aA 24 (bK d) σ=some (.lst (jn d.w)):=fun _=>rfl
 have a25: ∀σ,aA 25 (bK d) σ=some (.lst (jn d.l)):=fun _=>rfl
 have s1: ∀σ,eP [.str [87,79,82,75,73,78,71,45,83,84,79,82,65,71,69],.lst (jn d.w)] σ=some (.lst (fM (cj my dg) d.w),σ):=YA (fun _=>rfl) aos h.w
 have s2: ∀σ,eP [.str [76,73,78,75,65,71,69],.lst (jn d.l)] σ=some (.lst (fM (cj pL dg) d.l),σ):=YA (fun _=>rfl) aor h.l
 have k1:(je d).length +(fM (cj my dg) d.w).length <=4000000:=au (aJ (Hi h) (yc h.w)) (by decide)
 have k2:(je d++fM (cj my dg) d.w).length +(fM (cj pL dg) d.l).length <=4000000:=by
  rw[ao];exact au (aJ (aJ (Hi h) (yc h.w)) (yc h.l)) (by decide)
 have e1:=En (m:=fM (cj my dg) d.w) hi k1
 have e2:=En (σ:=σ.alloc (.lst (je d++fM (cj my dg) d.w))) (i:=σ.next) (l:=je d++fM (cj my dg) d.w) (m:=fM (cj pL dg) d.l) cn k2
 generalize hσ:(σ.alloc (.lst (je d++fM (cj my dg) d.w))).alloc (.lst ((je d++fM (cj my dg) d.w)++fM (cj pL dg) d.l))=aM at e2
 have g2:aM.get (σ.alloc (.lst (je d++fM (cj my dg) d.w))).next=some (.lst (dX d)):=by rw[<- hσ];exact cn
 have l2:(σ.alloc (.lst (je d++fM (cj my dg) d.w))).next <aM.next:=by rw[<- hσ];exact bT _
 generalize (σ.alloc (.lst (je d++fM (cj my dg) d.w))).next=j at e2 g2 l2
 have r2:tb fr σ=some (.next (put fr 1 (.ref j)) aM):=by
  unfold tb
  simp only[fH,jH,bk,h0,h1,hu,fq,ae,aX,eu,cz,cq,d6,gn,a24,a25,b9,s1,s2,e1,e2]
 have n1:=X1 (σ:=aM.alloc (.lst [])) (i:=j) (j:=aM.next) (l:=dX d) (dP g2 l2) cn
 have hj:gt (put fr 1 (.ref j)) 1= .ref j:=c9
 cases hb:(dX d).isEmpty with
 |true=>
  refine⟨(aM.alloc (.lst [])).next,(aM.alloc (.lst [])).alloc (.lst []),?_,?_⟩
  ·show ob (tb fr σ) (gU o9)=_
   rw[r2]
   show o9 (put fr 1 (.ref j)) aM=_
   unfold o9
   simp only[dk,ek,wE,fD,bk,hj,fq,ae,aX,eu,cq,pi,n1,hb,eD,b9,dI]
  ·rw[cn];unfold gN;rw[hb];rfl
 |false=>
  have t1:=yk aop zo (aM.alloc (.lst []))
  have g3:((aM.alloc (.lst [])).alloc (.lst (cj jG uM))).get j=some (.lst (dX d)):=dP (dP g2 l2) (cN l2)
  have e3:=IE (σ:=(aM.alloc (.lst [])).alloc (.lst (cj jG uM))) (i:=(aM.alloc (.lst [])).next) (j:=j) cn g3 (au (aJ (eH ri) (Pb h)) (by decide))
  refine⟨((aM.alloc (.lst [])).alloc (.lst (cj jG uM))).next,((aM.alloc (.lst [])).alloc (.lst (cj jG uM))).alloc (.lst (cj jG uM++dX d)),?_,?_⟩
  ·show ob (tb fr σ) (gU o9)=_
   rw[r2]
   show o9 (put fr 1 (.ref j)) aM=_
   unfold o9
   have t1':cL [.str [68,65,84,65,32,68,73,86,73,83,73,79,78,46],.bool true] (aM.alloc (.lst []))=some (.ref (aM.alloc (.lst [])).next,(aM.alloc (.lst [])).alloc (.lst (cj jG uM))):=t1
   simp only[dk,ek,wE,fD,jH,bk,hj,fq,ae,af,aX,eu,cq,cz,d6,pi,n1,hb,fx,b9,t1',e3,dI]
  ·rw[cn];unfold gN;rw[hb];rfl
theorem aae(o s:Bool)(σ:AS):b7 .In (.str (et o)) (.lst (bif s then[.str (et o)]else[])) σ=some s:=by cases o<;>cases s<;>rfl
theorem Z9(o:Bool)(v:AV)(σ:AS):fV (.dct [et o] [v]) (.str (et o)) σ=some (v,σ):=by cases o<;>rfl
theorem anT(o s:Bool)(σ:AS):b4 .Add (.str (bif s then[83,68,32]else[70,68,32])) (.str (et o)) σ=some (.str (kq s++32::et o),σ):=by cases o<;>cases s<;>rfl
theorem anS(o s:Bool)(σ:AS):b4 .Add (.str (kq s++32::et o)) (.str [46]) σ=some (.str (kq s++32::et o++[46]),σ):=by cases o<;>cases s<;>rfl
theorem ZX{o s:Bool}{r:Rt}{w l:Option Rt}{fr:Fm}{σ:AS}{i:Nat}(h:oc r)(h0:gt fr 0=bK ⟨some (o,s,r),w,l⟩)(h1:gt fr 1= .ref i)(hi:σ.get i=some (.lst []))(hs:i<σ.next):
  ∃fr' ai,KM (put fr 2 (.str (et o))) σ=some (.next fr' ai)/\gt fr' 0=bK ⟨some (o,s,r),w,l⟩/\gt fr' 1= .ref i/\ai.get i=some (.lst (cj (kq s) (et o)++iu r))/\i<ai.next:=by
 have hu:bW (bK ⟨some (o,s,r),w,l⟩)=false:=rfl
 have a26: ∀σ,aA 26 (bK ⟨some (o,s,r),w,l⟩) σ=some (.dct [et o] [.lst [eg r]]):=fun _=>rfl
 have a27: ∀σ,aA 27 (bK ⟨some (o,s,r),w,l⟩) σ=some (.lst (bif s then[.str (et o)]else[])):=fun _=>rfl
 have g0:gt (put fr 2 (.str (et o))) 0=bK ⟨some (o,s,r),w,l⟩:=(fR rfl).trans h0
 have g2:gt (put fr 2 (.str (et o))) 2= .str (et o):=c9
 have e0:cT [3] (td (fw (b7 .In) (al 2) (un (aA 27) (al 0))) (ba (.str [83,68,32])) (ba (.str [70,68,32]))) (put fr 2 (.str (et o))) σ=some (.next (put (put fr 2 (.str (et o))) 3 (.str (bif s then[83,68,32]else[70,68,32]))) σ):=by
  simp only[fH,wE,fD,bk,g0,g2,hu,mU,ae,aX,gn,a27,b9,aae,d6]
  cases s<;>rfl
 generalize hf:put (put fr 2 (.str (et o))) 3 (.str (bif s then[83,68,32]else[70,68,32]))=fr2 at e0
 have f0:gt fr2 0=bK ⟨some (o,s,r),w,l⟩:=by rw[<- hf];exact(fR rfl).trans g0
 have f1:gt fr2 1= .ref i:=by rw[<- hf];exact(fR rfl).trans ((fR rfl).trans h1)
 have f2:gt fr2 2= .str (et o):=by rw[<- hf];exact(fR rfl).trans g2
 have f3:gt fr2 3= .str (bif s then[83,68,32]else[70,68,32]):=by rw[<- hf];exact c9
 have t1:=yk (aqc o s) zo σ
 have k1:(cj (kq s) (et o)).length +(iu r).length <=4000000:=au (aJ (eH ri) (uL h)) (by decide)
 have e1:=En (σ:=σ.alloc (.lst (cj (kq s) (et o)))) (i:=σ.next) (l:=cj (kq s) (et o)) (m:=iu r) cn k1
 generalize hσ:(σ.alloc (.lst (cj (kq s) (et o)))).alloc (.lst (cj (kq s) (et o)++iu r))=aM at e1
 have g3:aM.get (σ.alloc (.lst (cj (kq s) (et o)))).next=some (.lst (cj (kq s) (et o)++iu r)):=by rw[<- hσ];exact cn
 have g4:aM.get i=some (.lst []):=by rw[<- hσ];exact dP (dP hi hs) (cN hs)
 have l2:i<(σ.alloc (.lst (cj (kq s) (et o)))).next:=cN hs
 have l3:i<aM.next:=by rw[<- hσ];exact cN (cN hs)
 generalize (σ.alloc (.lst (cj (kq s) (et o)))).next=j at e1 g3 l2
 have hij:aj i j=false:=by rw[gg];exact decide_eq_false (ct l2)
 have k2:([]:List AV).length +(cj (kq s) (et o)++iu r).length <=4000000:=by rw[ao];exact au (eH (ic _)) k1
 have e2:=ahk g4 g3 hij k2
 refine⟨fr2,aM.set i (.lst ([]++(cj (kq s) (et o)++iu r))),?_,f0,f1,eB g4,l3⟩
 show ob (cT [3] (td (fw (b7 .In) (al 2) (un (aA 27) (al 0))) (ba (.str [83,68,32])) (ba (.str [70,68,32]))) (put fr 2 (.str (et o))) σ) _=_
 rw[e0]
 show aV _ _ fr2 σ=_
 simp only[dk,Js,eJ,bk,f0,f1,f2,f3,hu,fq,mU,ae,aX,Jf hi,b9,cz,cq,eu,jH,anT,anS,d6,t1,gn,a26,Z9,Qv h,e1,e2,dF,fJ]
theorem Z5{d:DS}(h:jk d){fr:Fm}{σ:AS}{i:Nat}{L:aa}(h0:gt fr 0=bK d)(h1:gt fr 1= .ref i)(hi:σ.get i=some (.lst L))(hs:i<σ.next)(hL:L=flT d): ∃fr' ai j,Ep fr σ=some (.next fr' ai)/\gt fr' 0=bK d/\gt fr' 1= .ref j/\ai.get j=some (.lst (je d))/\j<ai.next:=by
 have n1:=X1 (σ:=σ.alloc (.lst [])) (i:=i) (j:=σ.next) (l:=L) (dP hi hs) cn
 obtain⟨f,w,l⟩:=d
 cases f with
 |none=>
  have hL:L=[]:=hL
  subst hL
  refine⟨fr,σ.alloc (.lst []),i,?_,h0,h1,dP hi hs,cN hs⟩
  unfold Ep
  simp only[j6,fD,bk,h1,fq,ae,aX,eu,cq,pi,n1,Gu,eD,b9,fJ]
 |some x=>
  have hL:L=cj (kq x.2.1) (et x.1)++iu x.2.2:=hL
  have he:L.isEmpty=false:=by rw[hL];rfl
  have t1:=yk aoq zo (σ.alloc (.lst []))
  have t1':cL [.str [70,73,76,69,32,83,69,67,84,73,79,78,46],.bool true] (σ.alloc (.lst []))=some (.ref (σ.alloc (.lst [])).next,(σ.alloc (.lst [])).alloc (.lst (cj gV dg))):=t1
  have g3:((σ.alloc (.lst [])).alloc (.lst (cj gV dg))).get i=some (.lst L):=dP (dP hi hs) (cN hs)
  have hk:(cj gV dg).length +L.length<=4000000:=by
   rw[hL,ao]
   exact au (aJ (eH ri) (aJ (eH ri) (uL (h.f x rfl).1))) (by decide)
  have e3:=IE (σ:=(σ.alloc (.lst [])).alloc (.lst (cj gV dg))) (i:=(σ.alloc (.lst [])).next) (j:=i) cn g3 hk
  refine⟨put fr 1 (.ref ((σ.alloc (.lst [])).alloc (.lst (cj gV dg))).next),((σ.alloc (.lst [])).alloc (.lst (cj gV dg))).alloc (.lst (cj gV dg++L)),((σ.alloc (.lst [])).alloc (.lst (cj gV dg))).next,?_,(fR rfl).trans h0,c9,?_,bT _⟩
  ·unfold Ep
   simp only[j6,fD,bk,h1,fq,ae,af,aX,eu,cq,cz,d6,pi,n1,he,fx,b9,dk,fH,jH,t1',e3,dF,fJ]
  ·rw[cn,hL];rfl
theorem KW{d:DS}:aN [bK d]=true:=by
 have h: ∀o:Option Rt,aN (jn o)=true:=fun o=>by
  cases o with
  |none=>rfl
  |some r=>show aN [eg r]=true;rw[gZ,KX];rfl
 obtain⟨f,w,l⟩:=d
 have hf:aN (PD ⟨f,w,l⟩)=true:=by
  cases f with
  |none=>rfl
  |some x=>show aN [.lst [eg x.2.2]]=true;rw[gZ,sy,gZ,KX];rfl
 have hs:aN (fSo ⟨f,w,l⟩)=true:=by
  cases f with
  |none=>rfl
  |some x=>show aN (bif x.2.1 then[.str (et x.1)]else[])=true;cases x.2.1<;>rfl
 show(aN [.lst (jn w),.lst (jn l),.dct _ (PD ⟨f,w,l⟩),.lst (fSo ⟨f,w,l⟩),.int 0,.dct [] []]&&true)=true
 rw[gZ,gZ,gZ,gZ,sy,sy,sy,h,h,hs,show noRef (.dct (RP ⟨f,w,l⟩) (PD ⟨f,w,l⟩))=true from hf];rfl
theorem adm{d:DS}(h:jk d)(σ:AS):ik [bK d] σ=some (.lst (gN d),σ):=by
 have hu:bW (bK d)=false:=rfl
 have start: ∃fr' ai,gE [2] (un (aA 26) (al 0)) KM [bK d,.ref 0] (AS.alloc ⟨0,[]⟩ (.lst []))=some (.next fr' ai)/\gt fr' 0=bK d/\gt fr' 1= .ref 0/\ai.get 0=some (.lst (flT d))/\0<ai.next:=by
  obtain⟨f,w,l⟩:=d
  cases f with
  |none=>exact⟨_,_,rfl,rfl,rfl,rfl,hJ _⟩
  |some x=>
   refine anj (ZX (o:=x.1) (s:=x.2.1) (r:=x.2.2) (w:=w) (l:=l) (fr:=[bK ⟨some (x.1,x.2.1,x.2.2),w,l⟩,.ref 0]) (σ:=AS.alloc ⟨0,[]⟩ (.lst [])) (i:=0) (h.f x rfl).1 rfl rfl rfl (hJ _)) fun fr' ai e h0 h1 h2 h3=> ?_
   exact⟨fr',ai,(show gE [2] (un (aA 26) (al 0)) KM [bK ⟨some x,w,l⟩,.ref 0] (AS.alloc ⟨0,[]⟩ (.lst []))=pF [2] KM [.str (et x.1)] [bK ⟨some x,w,l⟩,.ref 0] (AS.alloc ⟨0,[]⟩ (.lst [])) from rfl).trans ((EI e).trans rfl),h0,h1,h2,h3⟩
 refine anj (start) fun fr1 gG e1 a0 a1 a2 a3=> ?_
 refine ap6 (Z5 h a0 a1 a2 a3 rfl) fun fr2 g8 j e2 b0 b1 b2 b3=> ?_
 refine SR (aew h b0 b1 b2 b3) fun k qz e3 c1=> ?_
 have e4:bn 1 [] o7 [bK d] ⟨0,[]⟩=some (.ref k,qz):=by
  rw[agi]
  show ob (ob (gE [2] (un (aA 26) (al 0)) KM [bK d,.ref 0] (AS.alloc ⟨0,[]⟩ (.lst []))) (gU (aV Ep (aV tb o9)))) ir=_
  rw[e1]
  show ob (ob (Ep fr1 gG) (gU (aV tb o9))) ir=_
  rw[e2]
  show ob (aV tb o9 fr2 g8) ir=_
  rw[e3];rfl
 have e5:rI [bK d] ⟨0,[]⟩=some (.lst (gN d),qz.drop k):=by
  show bD (bn 1 [] o7 [bK d] ⟨0,[]⟩) (fun a ai=>some (jJ 12 a ai))=_
  rw[e4]
  show some (jJ 12 (.ref k) _)=_
  rw[xQ c1 Vr]
 show pr (pT (jJ 14) [bK d] σ) (fun args' ai=>vR nU rI args' ai)=_
 rw[show pT (jJ 14) [bK d] σ=([bK d],σ) from Qf KW]
 exact zk KW e5 Vr
noncomputable def flat:Nat->AV->Bool
 |n,a=>match a with
  | .none=>true
  | .bool _=>true
  | .int _=>true
  | .str _=>true
  | .bytes _=>true
  | .tup l=>match n with
   |0=>false
   |n+1=>l.all (flat n)
  |_=>false
theorem PA(s:ac):dm s s=true:=by rw[kO];exact decide_eq_true rfl
theorem ads(i:Int):KJ i i=true:=by cases i<;>exact za _
theorem adr(b:List UInt8):IR b (.bytes b)=some true:=congrArg some (beq_self_eq_true b)
theorem O3{n:Nat}{a:AV}(h:flat n a=true)(ht:CJ a=false):LW a a=some true:=by
 cases a with
 |none=>rfl
 |bool b=>cases b<;>rfl
 |int i=>exact congrArg some (ads i)
 |str s=>exact congrArg some (PA s)
 |bytes b=>exact adr b
 |tup l=>exact ff ht.symm
 |_=>cases n<;>exact ff h
theorem SX{n:Nat}: ∀{a:AV},flat n a=true->wC n a a=some true:=by
 induction n with
 |zero=>
  intro a h
  refine O3 h ?_
  cases a<;>first|rfl|exact ff h
 |succ n ih=>
  intro a h
  by_cases q: ∃l,a= .tup l
  ·obtain⟨l,rfl⟩:=q
   have h:l.all (flat n)=true:=h
   show KL (wC n) l l=some true
   induction l with
   |nil=>rfl
   |cons a l ihl=>
    obtain⟨h1,h2⟩:=bj.mp (show(flat n a&&l.all (flat n))=true from h)
    show ob (wC n a a) (fun x=>ob (KL (wC n) l l) fun y=>some (x&&y))=_
    rw[ih h1,b9,ihl (by exact h2) (by exact h2)];rfl
  ·have ht:CJ a=false:=by cases a<;>first|rfl|exact absurd ⟨_,rfl⟩ q
   show(bif CJ a&&CJ a then _ else LW a a)=_
   rw[ht];exact O3 h ht
theorem Hc{i:Nat}{elt:EM}{fr:Fm}{ps:List (AV×AV)}: ∀{σ:AS},(∀p∈ps,∀σ,elt (put fr i p.1) σ=some (p.2,σ))->eI [i] (fun _ σ=>some (true,σ)) elt (ps.map (·.1)) fr σ=some (ps.map (·.2),σ):=by
 induction ps with
 |nil=>exact fun _=>rfl
 |cons p ps ih=>
  intro σ h
  show bD (elt (put fr i p.1) σ) (fun b fX=>bD (eI [i] (fun _ σ=>some (true,σ)) elt (ps.map (·.1)) fr fX) fun l cM=>some (b::l,cM))=_
  rw[h p (bf ..),aX,ih fun q hq=>h q (aQ _ hq)];rfl
theorem NN{l:aa}{σ:AS}(h:l.length<=4000000):fE σ (.lst l)=some (l,σ):=by
 show(bif dC l.length then some (l,σ)else none)=_
 rw[fW h];rfl
theorem He{i:Nat}{it elt:EM}{fr:Fm}{ps:List (AV×AV)}{σ:AS}(hi:it fr σ=some (.lst (ps.map (·.1)),σ))(hl:ps.length<=4000000)(h: ∀p∈ps,∀σ,elt (put fr i p.1) σ=some (p.2,σ)):
  eO [i] it (fun _ σ=>some (true,σ)) elt fr σ=some (.ref σ.next,σ.alloc (.lst (ps.map (·.2)))):=by
 show bD (it fr σ) (fun x ai=>bD (fE ai x) fun l ay=>bD (eI [i] (fun _ σ=>some (true,σ)) elt l fr ay) fun vs aM=>bif dC vs.length then some (AV.ref aM.next,aM.alloc (.lst vs))else none)=_
 rw[hi,aX,NN (by rw[aS];exact hl),aX,Hc h,aX,fW (by rw[aS];exact hl)];rfl
theorem yn{l:aa}{σ:AS}{j:Nat}(hj:σ.get j=some (.lst l))(h:l.length<=4000000):fi [.ref j] σ=some (.tup l,σ):=by
 show ob (iR σ (.ref j)) (fun l=>bif dC l.length then some (AV.tup l,σ)else none)=_
 rw[show iR σ (.ref j)=some l from jm hj,b9,fW h];rfl
noncomputable def QL(lv nmv cl:AV)(nds kds:aa):AV:=.tup [lv,nmv,cl,.tup nds,.tup kds]
def ndT(n:Nat):AV:=.tup [.str ([73,83,45]++nm n),.tup [.tup [.tup [.str [110,117,109,98,101,114],.tup [.int (-5),.int 0]],.tup [.str [110,117,109,98,101,114],.tup [.int 125,.int 2]]],.tup [.tup [.str [116,101,120,116],.bytes [113]],.none]]]
theorem TU{n:Nat}{it lv nmv cl:AV}{cs ks:List (AV×AV)}(hit:noRef it=true)(hu:bW it=false)(h20: ∀σ,aA 20 it σ=some lv)(h18: ∀σ,aA 18 it σ=some nmv)(h23: ∀σ,aA 23 it σ=some (.lst (cs.map (·.1))))(h22: ∀σ,aA 22 it σ=some (.lst (ks.map (·.1))))(hm: ∀σ,yS it σ=some jp)(hcl: ∀σ,jp [it] σ=some (cl,σ))
  (hc: ∀p∈cs,∀σ,bW p.1=false/\FM p.1 σ=some nB/\ft [p.1] σ=some (p.2,σ))(hk: ∀p∈ks,∀σ,bW p.1=false/\FM p.1 σ=some cp/\bG n [p.1] σ=some (p.2,σ))(hcl1:cs.length<=4000000)(hkl:ks.length<=4000000)(hr:noRef (QL lv nmv cl (cs.map (·.2)) (ks.map (·.2)))=true)(σ:AS):
  bG (n+1) [it] σ=some (QL lv nmv cl (cs.map (·.2)) (ks.map (·.2)),σ):=by
 have c1: ∀σ,eO [3] (un (aA 23) (al 0)) (fun _ σ=>some (true,σ)) (cH (fm nB ft (fm cp (bG n) gP)) (al 3) aI) [it] σ=some (.ref σ.next,σ.alloc (.lst (cs.map (·.2)))):=fun σ=>He (by simp only[gn,bk,kI,hu,ae,aX,h23,b9]) hcl1 fun p hp σ=>by
  obtain⟨u,q1,q2⟩:=hc p hp σ
  have hd:fm nB ft (fm cp (bG n) gP) p.1 σ=some ft:=jm q1
  simp only[eJ,bk,c9,u,ae,aX,hd,b9,cq,q2]
 have c2: ∀fr σ,gt fr 0=it->eO [2] (un (aA 22) (al 0)) (fun _ σ=>some (true,σ)) (cH (fm nB ft (fm cp (bG n) gP)) (al 2) aI) fr σ=some (.ref σ.next,σ.alloc (.lst (ks.map (·.2)))):=fun fr σ hf=>He (by simp only[gn,bk,hf,hu,ae,aX,h22,b9]) hkl fun p hp σ=>by
  obtain⟨u,q1,q2⟩:=hk p hp σ
  have hd:fm nB ft (fm cp (bG n) gP) p.1 σ=some (bG n):=(jm q1).trans (jm q1)
  simp only[eJ,bk,c9,u,ae,aX,hd,b9,cq,q2]
 have t1: ∀σ:AS,fi [.ref σ.next] (σ.alloc (.lst (cs.map (·.2))))=some (.tup (cs.map (·.2)),σ.alloc (.lst (cs.map (·.2)))):=fun σ=>yn cn (by rw[aS];exact hcl1)
 have t2: ∀σ:AS,fi [.ref σ.next] (σ.alloc (.lst (ks.map (·.2))))=some (.tup (ks.map (·.2)),σ.alloc (.lst (ks.map (·.2)))):=fun σ=>yn cn (by rw[aS];exact hkl)
 have hmk: ∀a b c d e σ,gm [a,b,c,d,e] σ=some (.tup [a,b,c,d,e],σ):=fun _ _ _ _ _ _=>rfl
 have e1: ∀σ:AS,wA (bG n) [it] σ=some (QL lv nmv cl (cs.map (·.2)) (ks.map (·.2)),(σ.alloc (.lst (cs.map (·.2)))).alloc (.lst (ks.map (·.2)))):=fun σ=>by
  show ob (y4 (bG n) [it] σ) ir=_
  have hut:bW (.tup (cs.map (·.2)))=false:=rfl
  simp only[y4,dk,fH,eu,cz,cq,c1,aX,t1,b9,dF,sA,sB,putN,ek,gn,bk,kI,pd,hu,hut,ae,h20,h18,eJ,hm,hcl,c2 [it,.tup (cs.map (·.2))] _ rfl,t2,hmk,dI,gB]
  rfl
 exact zk (PI:=wA (bG n)) (by rw[gZ,hit];rfl) (e1 _) hr
theorem uh{n:Nat}: ∀{a:AV},flat n a=true->flat (n+1) a=true:=by
 induction n with
 |zero=>intro a h;cases a<;>first|rfl|exact ff h
 |succ n ih=>
  intro a h
  cases a with
  |tup l=>exact bZ.mpr fun b hb=>ih (bZ.mp (show l.all (flat n)=true from h) b hb)
  |_=>first|rfl|exact ff h
theorem Eu{n k:Nat}{a:AV}(h:flat n a=true):flat (n+k) a=true:=by
 induction k with
 |zero=>exact h
 |succ k ih=>exact uh ih
theorem PE{n:Nat}: ∀{a:AV},flat n a=true->noRef a=true:=by
 induction n with
 |zero=>intro a h;cases a<;>first|rfl|exact ff h
 |succ n ih=>
  intro a h
  cases a with
  |tup l=>
   have h:l.all (flat n)=true:=h
   show aN l=true
   induction l with
   |nil=>rfl
   |cons a l ihl=>
    obtain⟨h1,h2⟩:=bj.mp (show(flat n a&&l.all (flat n))=true from h)
    rw[gZ,ih h1,ihl h2 h2];rfl
  |_=>first|rfl|exact ff h
theorem U9{n:Nat}{a:AV}{l:aa}:(a::l).all (flat n)=(flat n a&&l.all (flat n)):=rfl
noncomputable def ocT(w:Nat):AV:=bif aj w 2 then .tup [.int 3,.int 3,.none,.tup [.tup [.bool false,.str [75]]],.tup [.str [73,88]]]
 else bif aj w 3 then .tup [.int 0,.int 4,.tup [.str [114,101,102],.str [78],.tup [.str [71]],.tup [],.none],.tup [],.tup []]else .none
noncomputable def clT(x:Nat×Nat×Nat):AV:=.tup [xZ x.2.2,.str (anJ x.2.1),.str [],.bool false,ocT x.2.1,.str [],.none,.bool false,.bool false,.none]
theorem Tx(p:Nat):tl (xZ p)=some (xZ p)/\flat 1 (xZ p)=true:=by
 unfold xZ
 cases aj p 0
 ·cases aj p 1
  ·cases aj p 2<;>exact⟨rfl,rfl⟩
  ·exact⟨rfl,rfl⟩
 ·exact⟨rfl,rfl⟩
theorem xY{P:AV->AV->Prop}{w:Nat}(h0:P .none .none)(h2:P (.frz lL [8,9,7,6,5] [.int 3,.int 3,.none,.tup [.tup [.bool false,.str [75]]],.tup [.str [73,88]]]) (.tup [.int 3,.int 3,.none,.tup [.tup [.bool false,.str [75]]],.tup [.str [73,88]]]))
  (h3:P (.frz lL [8,9,7,6,5] [.int 0,.int 4,.tup [.str [114,101,102],.str [78],.tup [.str [71]],.tup [],.none],.tup [],.tup []]) (.tup [.int 0,.int 4,.tup [.str [114,101,102],.str [78],.tup [.str [71]],.tup [],.none],.tup [],.tup []])):P (Ql w) (ocT w):=by
 unfold Ql ocT
 cases aj w 2
 ·cases aj w 3
  ·exact h0
  ·exact h3
 ·exact h2
theorem L1{it o ot a16 a15 a10 a35 a17 a11 a13 a12 a21:AV}(hu:bW it=false)(h14: ∀σ,aA 14 it σ=some o)(ho: ∀σ,(td (fw (b7 .Is) (un (aA 14) (al 0)) (ba (.none))) (ba (.none)) (cH (fm lL i9 gP) (un (aA 14) (al 0)) aI)) [it] σ=some (ot,σ))(hou:bW ot=false)
  (h16: ∀σ,aA 16 it σ=some a16)(h15: ∀σ,aA 15 it σ=some a15)(h10: ∀σ,aA 10 it σ=some a10)(h35: ∀σ,aA 35 it σ=some a35)(h17: ∀σ,aA 17 it σ=some a17)(h11: ∀σ,aA 11 it σ=some a11)(h13: ∀σ,aA 13 it σ=some a13)(h12: ∀σ,aA 12 it σ=some a12)(h21: ∀σ,aA 21 it σ=some a21)(σ:AS):
  jp [it] σ=some (.tup [a16,a15,a10,a35,ot,a17,a11,a13,a12,a21],σ):=by
 have m6: ∀a b c d e f σ,gm [a,b,c,d,e,f] σ=some (.tup [a,b,c,d,e,f],σ):=fun _ _ _ _ _ _ _=>rfl
 have m4: ∀a b c d σ,gm [a,b,c,d] σ=some (.tup [a,b,c,d],σ):=fun _ _ _ _ _=>rfl
 have ad: ∀a b c d e f g h i j σ,b4 .Add (.tup [a,b,c,d,e,f]) (.tup [g,h,i,j]) σ=some (.tup [a,b,c,d,e,f,g,h,i,j],σ):=fun _ _ _ _ _ _ _ _ _ _ _=>rfl
 show ob (ob (bD ((td (fw (b7 .Is) (un (aA 14) (al 0)) (ba (.none))) (ba (.none)) (cH (fm lL i9 gP) (un (aA 14) (al 0)) aI)) [it] σ) fun v ai=>some (j9.next (put [it] 1 v) ai)) (gU (aV (cT [2] (bv gm (aw (un (aA 16) (al 0)) (aw (un (aA 15) (al 0)) (aw (un (aA 10) (al 0)) (aw (un (aA 35) (al 0)) (aw (al 1) (aw (un (aA 17) (al 0)) aI))))))))
  (aV (eK (bi (b4 .Add) (al 2) (bv gm (aw (un (aA 11) (al 0)) (aw (un (aA 13) (al 0)) (aw (un (aA 12) (al 0)) (aw (un (aA 21) (al 0)) aI))))))) br)))) ir=_
 rw[ho]
 have hut: ∀l,bW (.tup l)=false:=fun _=>rfl
 simp only[aX,b9,dF,sA,sB,putN,dk,fH,eu,cz,cq,gn,bk,kI,pd,hu,hou,hut,ae,h16,h15,h10,h35,h17,h11,h13,h12,h21,m6,m4,ek,jH,ad,dI,gB]
theorem ZD{x:Nat×Nat×Nat}{lv:Int}{c k p:AV}(σ:AS):jp [.frz cp gk (.int lv::kb x c k p .none)] σ=some (clT x,σ):=by
 refine L1 (it:=.frz cp gk (.int lv::kb x c k p .none)) (o:=Ql x.2.1) (ot:=ocT x.2.1) rfl (fun _=> ?_) (fun σ=> ?_) ?_ (fun _=>(Tx x.2.2).1) (fun _=>rfl) (fun _=>rfl) (fun _=>rfl) (fun _=>rfl) (fun _=>rfl) (fun _=>rfl) (fun _=>rfl) (fun _=>rfl) σ
 ·exact xY (P:=fun o _=>tl o=some o) rfl rfl rfl
 ·have h: ∀σ,aA 14 (.frz cp gk (.int lv::kb x c k p .none)) σ=some (Ql x.2.1):=fun _=>xY (P:=fun o _=>tl o=some o) rfl rfl rfl
  have hu:bW (.frz cp gk (.int lv::kb x c k p .none))=false:=rfl
  revert h hu
  generalize AV.frz cp gk (.int lv::kb x c k p .none)=it
  intro h hu
  simp only[wE,fD,gn,bk,kI,hu,ae,aX,h,b9,d6,ah1,eJ,cq]
  exact xY (P:=fun o t=>(bD (ob (lN o) fun r=>some (r,σ)) fun t' ai=>bif t' then some (AV.none,ai)else ob (fm lL i9 gP o ai) fun F=>F [o] ai)=some (t,σ)) rfl rfl rfl
 ·exact xY (P:=fun _ t=>bW t=false) rfl rfl rfl
theorem adh(x:Nat×Nat×Nat):flat 6 (clT x)=true:=by
 have h1:flat 5 (xZ x.2.2)=true:=Eu (n:=1) (k:=4) (Tx x.2.2).2
 have h2:flat 5 (ocT x.2.1)=true:=xY (P:=fun _ t=>flat 5 t=true) rfl rfl rfl
 show(flat 5 (xZ x.2.2)&&(true&&(true&&(true&&(flat 5 (ocT x.2.1)&&true)))))=true
 rw[h1,h2];rfl
theorem aee(n:Nat):flat 5 (ndT n)=true:=rfl
def X0(lvl:Nat)(l:Lf):List AV:=bif l.c then[ndT (j8 lvl l)]else[]
def Hn(lvl:Nat)(l:Lf)(kds:aa):AV:=QL (.int (am lvl)) (.str (nm (j8 lvl l))) (clT (kd lvl l.i)) (X0 lvl l) kds
theorem rj{n lvl:Nat}{l:Lf}{kds:aa}(h:kds.all (flat (n+5))=true):flat (n+7) (Hn lvl l kds)=true:=by
 have h1:flat (n+6) (clT (kd lvl l.i))=true:=lA 6 n▸Eu (k:=n) (adh (kd lvl l.i))
 have h2:(X0 lvl l).all (flat (n+5))=true:=by
  unfold X0
  cases l.c
  ·rfl
  ·show(flat (n+5) (ndT (j8 lvl l))&&true)=true
   rw[show flat (n+5) (ndT (j8 lvl l))=true from lA 5 n▸Eu (k:=n) (aee (j8 lvl l))];rfl
 show(true&&(true&&(flat (n+6) (clT (kd lvl l.i))&&((X0 lvl l).all (flat (n+5))&&(kds.all (flat (n+5))&&true)))))=true
 rw[h1,h2,h];rfl
theorem zH{n m lvl:Nat}{l:Lf}{ks:List (AV×AV)}{p:AV}(hks:aN (ks.map (·.1))=true)(hp:noRef p=true)(hk: ∀q∈ks,∀σ,bW q.1=false/\FM q.1 σ=some cp/\bG n [q.1] σ=some (q.2,σ))(hkl:ks.length<=4000000)(hf:(ks.map (·.2)).all (flat (m+5))=true)(σ:AS):
  bG (n+1) [pf lvl l (ks.map (·.1)) p] σ=some (Hn lvl l (ks.map (·.2)),σ):=by
 have hit:noRef (pf lvl l (ks.map (·.1)) p)=true:=by
  show(true&&aN (kb _ _ _ _ _))=true
  rw[Hu,Ht,sy,hks,hp];rfl
 have hr:=PE (rj (n:=m) (lvl:=lvl) (l:=l) hf)
 have key: ∀cs:List (AV×AV),conds lvl l= .lst (cs.map (·.1))->cs.map (·.2)=X0 lvl l->cs.length<=4000000->(∀q∈cs,∀σ,bW q.1=false/\FM q.1 σ=some nB/\ft [q.1] σ=some (q.2,σ))->bG (n+1) [pf lvl l (ks.map (·.1)) p] σ=some (Hn lvl l (ks.map (·.2)),σ):=fun cs h1 h2 h3 h4=>by
  have h:=TU (n:=n) (it:=pf lvl l (ks.map (·.1)) p) (lv:=.int (am lvl)) (nmv:=.str (nm (j8 lvl l))) (cl:=clT (kd lvl l.i)) (cs:=cs) (ks:=ks) hit rfl (fun _=>rfl) (fun _=>rfl) (fun σ=> ?_) (fun _=>rfl) (fun _=>rfl) (fun _=>ZD _) h4 hk h3 hkl (by rw[h2];exact hr) σ
  ·rw[h2]at h;exact h
  ·rw[<- h1]
   obtain⟨i,c⟩:=l
   cases c<;>rfl
 obtain⟨i,c⟩:=l
 cases c with
 |false=>exact key [] rfl rfl (aU _) fun _ h=>absurd h bg
 |true=>exact key [(qp (j8 lvl ⟨i,true⟩),ndT (j8 lvl ⟨i,true⟩))] rfl rfl (av rfl) fun q hq σ=>(aP.mp hq)▸⟨rfl,rfl,rfl⟩
def rnC(l:Nat):AV:=.tup [.none,.str [],.str [],.bool false,.none,.str [],.none,.bool false,.bool false,ya l]
def TC(n l:Nat):AV:=QL (.int 66) (.str (nm n)) (rnC l) [] []
theorem NT{P:AV->Prop}(h0:P (.tup [.str (nm 16),.none]))(h1:P (.tup [.str (nm 16),.str (nm 22)]))(l:Nat):P (ya l):=by
 cases l with
 |zero=>exact h0
 |succ l=>exact h1
theorem Qt(n l:Nat):flat 6 (TC n l)=true:=by
 have h:flat 4 (ya l)=true:=NT (P:=fun a=>flat 4 a=true) rfl rfl l
 show(true&&(true&&((true&&(true&&(true&&(true&&(true&&(true&&(true&&(true&&(true&&(flat 4 (ya l)&&true))))))))))&&(true&&(true&&true)))))=true
 rw[h];rfl
theorem afh{n i l:Nat}(σ:AS):bG (n+1) [.frz cp gk (kg i l .opq)] σ=some (TC i l,σ):=by
 have hrn:noRef (ya l)=true:=NT (P:=fun a=>noRef a=true) rfl rfl l
 have hit:noRef (.frz cp gk (kg i l .opq))=true:=by
  show aN (kg i l .opq)=true
  simp only[kg,gZ,X9,X7,X5,X4,acq,sy,hrn,X8,rz]
 exact TU (n:=n) (it:=.frz cp gk (kg i l .opq)) (lv:=.int 66) (nmv:=.str (nm i)) (cl:=rnC l) (cs:=[]) (ks:=[]) hit rfl (fun _=>rfl) (fun _=>rfl) (fun _=>rfl) (fun _=>rfl) (fun _=>rfl)
  (fun σ=>L1 (it:=.frz cp gk (kg i l .opq)) (o:=.none) (ot:=.none) (a21:=ya l) rfl (fun _=>rfl) (fun _=>rfl) rfl (fun _=>rfl) (fun _=>rfl) (fun _=>rfl) (fun _=>rfl) (fun _=>rfl) (fun _=>rfl) (fun _=>rfl) (fun _=>rfl) (fun _=>NT (P:=fun a=>tl a=some a) rfl rfl l) σ)
  (fun _ h=>absurd h bg) (fun _ h=>absurd h bg) (aU _) (aU _) (PE (Qt i l)) σ
def CO(lvl:Nat)(l:Lf):AV:=Hn lvl l []
theorem KQ(lvl:Nat)(l:Lf):flat 7 (CO lvl l)=true:=rj (n:=0) rfl
theorem JN{n lvl:Nat}{l:Lf}(σ:AS):bG (n+1) [om lvl l .opq] σ=some (CO lvl l,σ):=zH (m:=0) (ks:=[]) rfl rfl (fun _ h=>absurd h bg) (aU _) rfl σ
def JM(t:Tn):AV:=match t with
 | .leaf l=>CO 5 l
 | .grp g a=>Hn 5 g [CO 10 a]
 | .grp2 g a b=>Hn 5 g [CO 10 a,CO 10 b]
theorem abc(t:Tn):flat 9 (JM t)=true:=by
 have h: ∀a,flat 7 (CO 10 a)=true:=KQ 10
 cases t with
 |leaf l=>exact uh (uh (KQ 5 l))
 |grp g a=>exact rj (n:=2) (by rw[U9];show(flat 7 (CO 10 a)&&true)=true;rw[h];rfl)
 |grp2 g a b=>exact rj (n:=2) (by rw[U9,U9];show(flat 7 (CO 10 a)&&(flat 7 (CO 10 b)&&true))=true;rw[h,h];rfl)
theorem akQ{n:Nat}(t:Tn)(σ:AS):bG (n+2) [sK t] σ=some (JM t,σ):=by
 have h: ∀a,flat 7 (CO 10 a)=true:=KQ 10
 cases t with
 |leaf l=>exact JN (n:=n+1) σ
 |grp g a=>exact zH (n:=n+1) (m:=2) (lvl:=5) (l:=g) (ks:=[(om 10 a .opq,CO 10 a)]) (p:=.opq) (by rw[bh,jV,gZ,qq];rfl) rfl (fun q hq σ=>(aP.mp hq)▸⟨rfl,rfl,JN σ⟩) (av rfl) (by show(flat 7 (CO 10 a)&&true)=true;rw[h];rfl) σ
 |grp2 g a b=>exact zH (n:=n+1) (m:=2) (lvl:=5) (l:=g) (ks:=[(om 10 a .opq,CO 10 a),(om 10 b .opq,CO 10 b)]) (p:=.opq) (by rw[bh,bh,jV,gZ,gZ,qq,qq];rfl) rfl (fun q hq σ=>(aG.mp hq).elim (fun h=>h▸⟨rfl,rfl,JN σ⟩) fun hq=>(aP.mp hq)▸⟨rfl,rfl,JN σ⟩) (av rfl) (by show(flat 7 (CO 10 a)&&(flat 7 (CO 10 b)&&true))=true;rw[h,h];rfl) σ
def Qu(i n:Nat):List AV:=hH (motive:=fun _=>List AV) [] (fun l _=>[TC (17+i) l]) n
def Jq(r:Rt):AV:=Hn r.lvl r.it (r.ts.map JM++Qu (j8 1 r.it) r.ren)
theorem Th(r:Rt):(r.ts.map JM++Qu (j8 1 r.it) r.ren).all (flat 9)=true:=by
 rw[oJ]
 have h1:(r.ts.map JM).all (flat 9)=true:=bZ.mpr fun a ha=>by
  obtain⟨t,_,rfl⟩:=dD.mp ha
  exact abc t
 have h2:(Qu (j8 1 r.it) r.ren).all (flat 9)=true:=by
  cases r.ren with
  |zero=>rfl
  |succ l=>
   show(flat 9 (TC (17+j8 1 r.it) l)&&true)=true
   rw[show flat 9 (TC (17+j8 1 r.it) l)=true from Eu (n:=6) (k:=3) (Qt _ _)];rfl
 rw[h1,h2];rfl
theorem Qw(r:Rt):flat 11 (Jq r)=true:=rj (n:=4) (Th r)
theorem akP{r:Rt}(h:r.ts.length<=8)(σ:AS):bG 6 [eg r] σ=some (Jq r,σ):=by
 have hr: ∃ks:List (AV×AV),ks.map (·.1)=qP r/\ks.map (·.2)=Qu (j8 1 r.it) r.ren/\ks.length<=1/\ ∀k∈ks,∀σ,bW k.1=false/\FM k.1 σ=some cp/\bG 5 [k.1] σ=some (k.2,σ):=by
  obtain⟨lv,it,ts,n⟩:=r
  cases n with
  |zero=>exact⟨[],rfl,rfl,aU _,fun _ h=>absurd h bg⟩
  |succ l=>exact⟨[(.frz cp gk (kg (17+j8 1 it) l .opq),TC (17+j8 1 it) l)],rfl,rfl,ax _,fun k hk σ=>(aP.mp hk)▸⟨rfl,rfl,afh σ⟩⟩
 obtain⟨ks,r1,r2,r3,r4⟩:=hr
 have hf:(r.ts.map (fun t=>(sK t,JM t))++ks).map (·.1)=DH r.ts++qP r:=by
  rw[bt,r1,gM]
  refine congrArg (· ++qP r) ?_
  induction r.ts with
  |nil=>rfl
  |cons t ts ih=>exact congrArg (sK t:: ·) ih
 have hs:(r.ts.map (fun t=>(sK t,JM t))++ks).map (·.2)=r.ts.map JM++Qu (j8 1 r.it) r.ren:=by
  rw[bt,r2,gM];rfl
 have q:=zH (n:=5) (m:=4) (lvl:=r.lvl) (l:=r.it) (ks:=r.ts.map (fun t=>(sK t,JM t))++ks) (p:=.none) (by rw[hf,b8,NR,Vs];rfl) rfl
  (fun q hq σ=>(cV.mp hq).elim (fun hq=>by
   obtain⟨t,_,rfl⟩:=dD.mp hq
   exact⟨by cases t<;>rfl,by cases t<;>rfl,akQ (n:=3) t σ⟩) fun hq=>r4 q hq σ)
  (by rw[ao,aS];exact au (aJ h r3) (by decide))
  (by rw[hs];exact Th r) σ
 rw[hf,hs]at q
 exact q
def kB(o:Option Rt):List AV:=bo (motive:=fun _=>List AV) [] (fun r=>[Jq r]) o
def PB(d:DS):List AV:=bo (motive:=fun _=>List AV) [] (fun x=>[.tup [.str (et x.1),.bool x.2.1,.tup [Jq x.2.2]]]) d.f
def agq(d:DS):AV:=.tup [.tup (kB d.w),.tup (kB d.l),.tup (PB d)]
theorem Yw(o:Option Rt):(kB o).all (flat 11)=true:=by
 cases o with
 |none=>rfl
 |some r=>
  show(flat 11 (Jq r)&&true)=true
  rw[Qw];rfl
theorem Pt(d:DS):flat 16 (agq d)=true:=by
 have up: ∀o,(kB o).all (flat 14)=true:=fun o=>bZ.mpr fun a ha=>uh (uh (uh (bZ.mp (Yw o) a ha)))
 have hf:(PB d).all (flat 14)=true:=by
  obtain⟨f,w,l⟩:=d
  cases f with
  |none=>rfl
  |some x=>
   show((true&&(true&&((flat 12 (Jq x.2.2)&&true)&&true)))&&true)=true
   have:flat 12 (Jq x.2.2)=true:=uh (Qw x.2.2)
   rw[this];rfl
 show(((kB d.w).all (flat 14))&&((kB d.l).all (flat 14)&&((PB d).all (flat 14)&&true)))=true
 rw[up,up,hf];rfl
theorem Pu{i:Nat}{it elt:EM}{fr:Fm}{ps:List (AV×AV)}{σ:AS}{x:AV}(hi:it fr σ=some (x,σ))(hx:fE σ x=some (ps.map (·.1),σ))(hl:ps.length<=4000000)(h: ∀p∈ps,∀σ,∃ai,elt (put fr i p.1) σ=some (p.2,ai)):
  ∃ai:AS,eO [i] it (fun _ σ=>some (true,σ)) elt fr σ=some (.ref ai.next,ai.alloc (.lst (ps.map (·.2)))):=by
 have hc: ∀(ps:List (AV×AV)),(∀p∈ps,∀σ,∃ai,elt (put fr i p.1) σ=some (p.2,ai))-> ∀σ,∃ai,eI [i] (fun _ σ=>some (true,σ)) elt (ps.map (·.1)) fr σ=some (ps.map (·.2),ai):=fun ps=>by
  induction ps with
  |nil=>exact fun _ σ=>⟨σ,rfl⟩
  |cons p ps ih=>
   intro h σ
   obtain⟨gG,e1⟩:=h p (bf ..) σ
   obtain⟨g8,e2⟩:=ih (fun q hq=>h q (aQ _ hq)) gG
   refine⟨g8,?_⟩
   show bD (elt (put fr i p.1) σ) (fun b fX=>bD (eI [i] (fun _ σ=>some (true,σ)) elt (ps.map (·.1)) fr fX) fun l cM=>some (b::l,cM))=_
   rw[e1,aX,e2];rfl
 obtain⟨ai,e⟩:=hc ps h σ
 refine⟨ai,?_⟩
 show bD (it fr σ) (fun x ai=>bD (fE ai x) fun l ay=>bD (eI [i] (fun _ σ=>some (true,σ)) elt l fr ay) fun vs aM=>bif dC vs.length then some (AV.ref aM.next,aM.alloc (.lst vs))else none)=_
 rw[hi,aX,hx,aX,e,aX,fW (by rw[aS];exact hl)];rfl
theorem Ki.ts{o:Option Rt}(h:Ki o): ∀r,o=some r->r.ts.length<=8:=fun r e=>au (h r e).lv.2 (by decide)
def rtP(o:Option Rt):List (AV×AV):=bo (motive:=fun _=>List (AV×AV)) [] (fun r=>[(eg r,Jq r)]) o
theorem Dl{o:Option Rt}(h: ∀r,o=some r->r.ts.length<=8){i:Nat}{it:EM}{fr:Fm}{σ:AS}(hi:it fr σ=some (.lst (jn o),σ)):eO [i] it (fun _ σ=>some (true,σ)) (cH (fm cp (bG 6) gP) (al i) aI) fr σ=some (.ref σ.next,σ.alloc (.lst (kB o))):=by
 have h1:(rtP o).map (·.1)=jn o/\(rtP o).map (·.2)=kB o/\(rtP o).length <=4000000:=by cases o<;>exact⟨rfl,rfl,av rfl⟩
 rw[<- h1.2.1]
 refine He (ps:=rtP o) (by rw[h1.1];exact hi) h1.2.2 fun p hp σ=> ?_
 cases o with
 |none=>exact absurd hp bg
 |some r=>
  rw[aP.mp hp]
  have hd:fm cp (bG 6) gP (eg r) σ=some (bG 6):=rfl
  have hu:bW (eg r)=false:=rfl
  simp only[eJ,bk,c9,hu,ae,aX,hd,b9,cq,akP (h r rfl)]
theorem abd{d:DS}(h:jk d)(σ:AS):s0 [bK d] σ=some (agq d,σ):=by
 have hu:bW (bK d)=false:=rfl
 have a24: ∀σ,aA 24 (bK d) σ=some (.lst (jn d.w)):=fun _=>rfl
 have a25: ∀σ,aA 25 (bK d) σ=some (.lst (jn d.l)):=fun _=>rfl
 have start: ∀σ,∃ai,cT [1] (bv fi (aw (eO [4] (un (aA 26) (al 0)) (fun _ σ=>some (true,σ)) (bv gm (aw (al 4) (aw (rT (fw (b7 .In) (al 4) (un (aA 27) (al 0)))) (aw (bv fi (aw (eO [5] (bi fV (un (aA 26) (al 0)) (al 4)) (fun _ σ=>some (true,σ)) (cH (fm cp (bG 6) gP) (al 5) aI)) aI)) aI))))) aI)) [bK d] σ=some (.next [bK d,.tup (PB d)] ai):=fun σ=>by
  have hc: ∃ai:AS,eO [4] (un (aA 26) (al 0)) (fun _ σ=>some (true,σ)) (bv gm (aw (al 4) (aw (rT (fw (b7 .In) (al 4) (un (aA 27) (al 0)))) (aw (bv fi (aw (eO [5] (bi fV (un (aA 26) (al 0)) (al 4)) (fun _ σ=>some (true,σ)) (cH (fm cp (bG 6) gP) (al 5) aI)) aI)) aI)))) [bK d] σ=some (.ref ai.next,ai.alloc (.lst (PB d)))/\(PB d).length <=4000000:=by
   obtain⟨f,w,l⟩:=d
   cases f with
   |none=>
    obtain⟨ai,e⟩:=Pu (i:=4) (it:=un (aA 26) (al 0)) (elt:=bv gm (aw (al 4) (aw (rT (fw (b7 .In) (al 4) (un (aA 27) (al 0)))) (aw (bv fi (aw (eO [5] (bi fV (un (aA 26) (al 0)) (al 4)) (fun _ σ=>some (true,σ)) (cH (fm cp (bG 6) gP) (al 5) aI)) aI)) aI)))) (fr:=[bK ⟨none,w,l⟩]) (ps:=[]) (σ:=σ) (x:=.dct [] []) rfl rfl (aU _) (fun _ h=>absurd h bg)
    exact⟨ai,e,aU _⟩
   |some x=>
    obtain⟨o,s,r⟩:=x
    have hr: ∀r',some r=some r'->r'.ts.length<=8:=fun r' e=>by cases e;exact au (h.f _ rfl).1.lv.2 (by decide)
    obtain⟨ai,e⟩:=Pu (i:=4) (it:=un (aA 26) (al 0)) (elt:=bv gm (aw (al 4) (aw (rT (fw (b7 .In) (al 4) (un (aA 27) (al 0)))) (aw (bv fi (aw (eO [5] (bi fV (un (aA 26) (al 0)) (al 4)) (fun _ σ=>some (true,σ)) (cH (fm cp (bG 6) gP) (al 5) aI)) aI)) aI)))) (fr:=[bK ⟨some (o,s,r),w,l⟩]) (ps:=[(.str (et o),.tup [.str (et o),.bool s,.tup [Jq r]])]) (σ:=σ) (x:=.dct [et o] [.lst [eg r]]) rfl rfl (av rfl) (fun p hp σ=>by
     rw[aP.mp hp]
     have a26: ∀σ,aA 26 (bK ⟨some (o,s,r),w,l⟩) σ=some (.dct [et o] [.lst [eg r]]):=fun _=>rfl
     have a27: ∀σ,aA 27 (bK ⟨some (o,s,r),w,l⟩) σ=some (.lst (bif s then[.str (et o)]else[])):=fun _=>rfl
     have g0:gt (put [bK ⟨some (o,s,r),w,l⟩] 4 (.str (et o))) 0=bK ⟨some (o,s,r),w,l⟩:=rfl
     have m3: ∀a b c σ,gm [a,b,c] σ=some (.tup [a,b,c],σ):=fun _ _ _ _=>rfl
     have hrt:=Dl (o:=some r) hr (i:=5) (it:=bi fV (un (aA 26) (al 0)) (al 4)) (fr:=put [bK ⟨some (o,s,r),w,l⟩] 4 (.str (et o))) (σ:=σ) (by simp only[jH,gn,bk,g0,c9,hu,mU,ae,aX,a26,b9,Z9];rfl)
     have ht:=yn (σ:=σ.alloc (.lst (kB (some r)))) (j:=σ.next) cn (show(kB (some r)).length <=4000000 from av rfl)
     exact⟨_,by
      simp only[eu,cz,cq,bk,c9,g0,hu,mU,ae,aX,wI,fD,gn,a27,b9,aae,hrt,ht,m3]
      rfl⟩)
    exact⟨ai,e,av rfl⟩
  refine eX (hc) fun ai e hl=> ?_
  have ht:=yn (σ:=ai.alloc (.lst (PB d))) (j:=ai.next) cn hl
  exact⟨ai.alloc (.lst (PB d)),by simp only[fH,eu,cz,cq,e,aX,ht,sA,sB,putN]⟩
 obtain⟨gG,e1⟩:=start ⟨0,[]⟩
 have c3:=Dl h.w.ts (i:=3) (it:=un (aA 24) (al 0)) (fr:=[bK d,.tup (PB d)]) (σ:=gG) (by simp only[gn,bk,kI,hu,ae,aX,a24,b9])
 have c2:=Dl h.l.ts (i:=2) (it:=un (aA 25) (al 0)) (fr:=[bK d,.tup (PB d)]) (σ:=gG.alloc (.lst (kB d.w))) (by simp only[gn,bk,kI,hu,ae,aX,a25,b9])
 have t3:=yn (σ:=gG.alloc (.lst (kB d.w))) (j:=gG.next) cn (show(kB d.w).length <=4000000 by cases d.w<;>exact av rfl)
 have t2:=yn (σ:=(gG.alloc (.lst (kB d.w))).alloc (.lst (kB d.l))) (j:=(gG.alloc (.lst (kB d.w))).next) cn (show(kB d.l).length <=4000000 by cases d.l<;>exact av rfl)
 have m3: ∀a b c σ,gm [a,b,c] σ=some (.tup [a,b,c],σ):=fun _ _ _ _=>rfl
 have e2:wz [bK d] ⟨0,[]⟩=some (agq d,(gG.alloc (.lst (kB d.w))).alloc (.lst (kB d.l))):=by
  show ob (ob (cT [1] _ [bK d] ⟨0,[]⟩) (gU (aV (eK (bv gm (aw (bv fi (aw (eO [3] (un (aA 24) (al 0)) (fun _ σ=>some (true,σ)) (cH (fm cp (bG 6) gP) (al 3) aI)) aI)) (aw (bv fi (aw (eO [2] (un (aA 25) (al 0)) (fun _ σ=>some (true,σ)) (cH (fm cp (bG 6) gP) (al 2) aI)) aI)) (aw (al 1) aI))))) br))) ir=_
  rw[e1]
  have hut:bW (.tup (PB d))=false:=rfl
  simp only[b9,dF,dk,ek,eu,cz,cq,c3,c2,aX,t3,t2,bk,kI,pd,hut,ae,m3,dI,gB]
  rfl
 exact zk (PI:=wz) KW e2 (PE (Pt d))
def rtX(lvl:Nat)(code:ac):AV:=.frz cp gk (.int (am lvl)::Dm (Bg (lvl::code)))
noncomputable def mX(lvl:Nat)(code:ac):List AV:=[.frz 0 (4::lvl::code) [],YN]
def mF(f:Option (Bool×Bool×List Nat)):List AV:=bo (motive:=fun _=>List AV) [] (fun x=>cj gV dg++(cj (kq x.2.1) (et x.1)++mX 1 x.2.2)) f
def mS(h:aa)(o:Option (Nat×List Nat)):List AV:=bo (motive:=fun _=>List AV) [] (fun x=>h++mX x.1 x.2) o
def mB(f:Option (Bool×Bool×List Nat))(w l:Option (Nat×List Nat)):List AV:=(mF f++mS (cj my dg) w)++mS (cj pL dg) l
def mA(f:Option (Bool×Bool×List Nat))(w l:Option (Nat×List Nat)):List AV:=bif (mB f w l).isEmpty then[]else cj jG uM++mB f w l
def xL(o:Option (Nat×List Nat)):List AV:=bo (motive:=fun _=>List AV) [] (fun x=>[rtX x.1 x.2]) o
def xD(f:Option (Bool×Bool×List Nat))(w l:Option (Nat×List Nat)):AV:=Er (xL w) (xL l) (bo (motive:=fun _=>List (List Nat)) [] (fun x=>[et x.1]) f) (bo (motive:=fun _=>List AV) [] (fun x=>[.lst [rtX 1 x.2.2]]) f) (bo (motive:=fun _=>List AV) [] (fun x=>bif x.2.1 then[.str (et x.1)]else[]) f)
def rdO(f:Option (Bool×Bool×List Nat))(w l:Option (Nat×List Nat)):Option (AV×Nat×List AV):=bD (FA [.ref 0] ⟨1,[(0,.orc 1021 (mA f w l))]⟩) fun a σ=>sz σ 0 fun k l=>some (a,k,l)
theorem aiQ(f:Option (Bool×Bool×List Nat))(w l:Option (Nat×List Nat)):rdO f w l=some (xD f w l,1021,[]):=by
 rcases f with _|⟨_|_,_|_,cf⟩<;>rcases w with _|⟨lw,cw⟩<;>rcases l with _|⟨ll,cl⟩<;>kernel_rfl
section
noncomputable def xI(r:Rt):List Nat:=Xr r.it++r.ren::(r.ts.map ZT).flatten
noncomputable def FO(d:DS):Option (Bool×Bool×List Nat):=d.f.map fun x=>(x.1,x.2.1,xI x.2.2)
noncomputable def jI(o:Option Rt):Option (Nat×List Nat):=o.map fun r=>(r.lvl,xI r)
def Ps(d:DS):List AV:=mA (FO d) (jI d.w) (jI d.l)
theorem oc.ts8{r:Rt}(h:oc r):r.ts.length<=8:=au h.lv.2 (by decide)
theorem VG{r:Rt}(h:r.ts.length<=8):rtX r.lvl (xI r)=eg r:=by
 unfold rtX
 rw[show r.lvl::xI r=Xs r from rfl,NH r h];rfl
theorem alb{o:Option Rt}(h:Ki o):xL (jI o)=jn o:=by
 cases o with
 |none=>rfl
 |some r=>exact congrArg (fun a=>[a]) (VG (h r rfl).ts8)
theorem apK{d:DS}(h:jk d):xD (FO d) (jI d.w) (jI d.l)=bK d:=by
 unfold xD bK
 rw[alb h.w,alb h.l]
 obtain⟨f,w,l⟩:=d
 cases f with
 |none=>rfl
 |some x=>
  obtain⟨h1,h2⟩:=h.f x rfl
  show Er _ _ [et x.1] [.lst [rtX 1 (xI x.2.2)]] _=Er _ _ [et x.1] [.lst [eg x.2.2]] _
  rw[<- h2,VG h1.ts8];rfl
theorem Qr{d:DS}(h:jk d){σ:AS}{x:Nat}{L:aa}(hx:σ.get x=some (.orc 1021 L)):oZ [.ref x] (σ.set x (.orc 1021 (Ps d)))=some (bK d,σ.set x (.orc 1021 [])):=by
 have hr:=aiQ (FO d) (jI d.w) (jI d.l)
 rw[apK h]at hr
 refine fS hr fun a ay h1 hr=>F0 hr fun k l' h0 hr=> ?_
 have hr:=aH hr
 cases hr
 exact S8 hx h1 h0 (by have:=KW (d:=d);exact aE (show(noRef (bK d)&&aN [])=true from this) fun h _=>h)
theorem Hh{lvl:Nat}{l:Lf}(h:rn lvl=true):xp iC (rR (Hf lvl l))=dU lvl l:=by
 obtain⟨i,c⟩:=l
 have h1:iC [1,lvl,i]=kv lvl (kd lvl i):=by
  show(bif rn lvl then kv lvl (kd lvl i)else bad)=_
  rw[h];rfl
 have h2:iC [2,lvl,i]=fF (kd lvl i).1:=by
  show(bif bz (kd lvl i).1 17 then fF (kd lvl i).1 else bad)=_
  rw[G8 (ah5 lvl i)];rfl
 cases c with
 |false=>exact(congrArg (· ++[]) h1)
 |true=>
  show iC [1,lvl,i]++(iC [2,lvl,i]++[])=kv lvl (kd lvl i)++fF (kd lvl i).1
  rw[h1,h2,aR]
theorem aqS(t:Tn):xp iC (rR (abZ t))=vf t:=by
 cases t with
 |leaf l=>exact Hh rfl
 |grp g a=>
  show xp iC (rR (Hf 5 g++Hf 10 a))=dU 5 g++dU 10 a
  rw[kK,zK,Hh rfl,Hh rfl]
 |grp2 g a b=>
  show xp iC (rR (Hf 5 g++(Hf 10 a++Hf 10 b)))=dU 5 g++(dU 10 a++dU 10 b)
  rw[kK,zK,kK,zK,Hh rfl,Hh rfl,Hh rfl]
theorem apD(ts:List Tn):xp iC (rR (ab0 ts))=ts.flatMap vf:=by
 induction ts with
 |nil=>rfl
 |cons t ts ih=>
  show xp iC (rR (abZ t++ab0 ts))=_
  rw[kK,zK,aqS,ih,aY]
theorem aqK{r:Rt}(h:oc r):xp iC (FQ r)=iu r:=by
 rw[NI]
 unfold agt iu
 rw[kK,kK,zK,zK,Hh h.lv.1,apD]
 refine congrArg (fun q=>dU r.lvl r.it++(r.ts.flatMap vf++q)) ?_
 have hn:=h.nm
 obtain⟨lv,it,ts,n⟩:=r
 cases n with
 |zero=>rfl
 |succ l=>
  have:iC [3,it.i,l]=gF (17+(kd 1 it.i).1) l:=by
   show(bif bz (kd 1 it.i).1 5 then gF (17+(kd 1 it.i).1) l else bad)=_
   rw[G8 (show(kd 1 it.i).1<5 from hn (kj _))];rfl
  show iC [3,it.i,l]++[]=gF (17+(kd 1 it.i).1) l
  rw[this,aR]
theorem ami{r:Rt}(h:oc r):mac (4::r.lvl::xI r)=iu r:=by
 have hc:okC (r.lvl::xI r)=true:=by
  show(aj (Bg (Xs r)).lvl r.lvl&&Yj (Bg (Xs r)))=true
  rw[NH r h.ts8,za,h.ok];rfl
 show RY (r.lvl::xI r)=_
 unfold RY
 rw[hc]
 show xp iC (FQ (Bg (Xs r)))=_
 rw[NH r h.ts8,aqK h]
theorem C0{a b:ac}:dj (cj a b)=true:=EE (a:=false)
theorem ant{r:Rt}(h:oc r){m:aa}(hm:vg mac m)(hn:EB (xp mac m)=true):xp mac (mX r.lvl (xI r)++m)=iu r++xp mac m/\vg mac (mX r.lvl (xI r)++m):=
 ⟨congrArg (· ++xp mac m) (ami h),fun z=>ff z,fun _=>hn,hm⟩
theorem ans{a b:ac}{o:Option Rt}(h:Ki o){m:aa}(hm:vg mac m)(hn:EB (xp mac m)=true):xp mac (mS (cj a b) (jI o)++m)=fM (cj a b) o++xp mac m/\vg mac (mS (cj a b) (jI o)++m)/\EB (xp mac (mS (cj a b) (jI o)++m))=true:=by
 cases o with
 |none=>exact⟨rfl,hm,hn⟩
 |some r=>
  obtain⟨h1,h2⟩:=ant (h r rfl) hm hn
  have h3:=EO (mac:=mac) (m:=mX r.lvl (xI r)++m) (C0 (a:=a) (b:=b))
  have e:mS (cj a b) (jI (some r))++m=cj a b++(mX r.lvl (xI r)++m):=aB ..
  have e2:xp mac (mS (cj a b) (jI (some r))++m)=fM (cj a b) (some r)++xp mac m:=by
   rw[e,h3.1,h1];exact(aB ..).symm
  refine⟨e2,by rw[e];exact h3.2 h2,?_⟩
  rw[e2];rfl
theorem aqh{d:DS}(h:jk d):xp mac (mB (FO d) (jI d.w) (jI d.l))=dX d/\vg mac (mB (FO d) (jI d.w) (jI d.l)):=by
 obtain⟨l1,l2,l3⟩:=ans (a:=pL) (b:=dg) h.l (m:=[]) trivial rfl
 obtain⟨w1,w2,w3⟩:=ans (a:=my) (b:=dg) h.w l2 l3
 have e:mB (FO d) (jI d.w) (jI d.l)=mF (FO d)++(mS (cj my dg) (jI d.w)++(mS (cj pL dg) (jI d.l)++[])):=by
  unfold mB;rw[aR,aB]
 have e3:dX d=je d++(fM (cj my dg) d.w++(fM (cj pL dg) d.l++[])):=by
  unfold dX;rw[aR,aB]
 rw[e,e3]
 rw[l1]at w1
 have w1:xp mac (mS (cj my dg) (jI d.w)++(mS (cj pL dg) (jI d.l)++[]))=fM (cj my dg) d.w++(fM (cj pL dg) d.l++[]):=w1
 rw[<- w1]
 generalize mS (cj my dg) (jI d.w)++(mS (cj pL dg) (jI d.l)++[])=m at w2 w3 ⊢
 obtain⟨f,w,l⟩:=d
 cases f with
 |none=>exact⟨rfl,w2⟩
 |some x=>
  obtain⟨h1,h2⟩:=h.f x rfl
  obtain⟨x1,x2⟩:=ant h1 w2 w3
  rw[h2]at x1 x2
  have h3:=EO (mac:=mac) (m:=mX 1 (xI x.2.2)++m) (C0 (a:=kq x.2.1) (b:=et x.1))
  have h4:=EO (mac:=mac) (m:=cj (kq x.2.1) (et x.1)++(mX 1 (xI x.2.2)++m)) (C0 (a:=gV) (b:=dg))
  have e:mF (FO ⟨some x,w,l⟩)++m=cj gV dg++(cj (kq x.2.1) (et x.1)++(mX 1 (xI x.2.2)++m)):=by
   show(cj gV dg++(cj (kq x.2.1) (et x.1)++mX 1 (xI x.2.2)))++m=_
   rw[aB,aB]
  have e':je ⟨some x,w,l⟩++xp mac m=cj gV dg++(cj (kq x.2.1) (et x.1)++(iu x.2.2++xp mac m)):=by
   show(cj gV dg++(cj (kq x.2.1) (et x.1)++iu x.2.2))++xp mac m=_
   rw[aB,aB]
  rw[e,e',h4.1,h3.1,x1]
  exact⟨rfl,h4.2 (h3.2 x2)⟩
theorem acl{d:DS}:(mB (FO d) (jI d.w) (jI d.l)).isEmpty=(dX d).isEmpty:=by
 obtain⟨f,w,l⟩:=d
 cases f<;>cases w<;>cases l<;>rfl
theorem an2{d:DS}(h:jk d):xp mac (Ps d)=gN d/\vg mac (Ps d):=by
 obtain⟨h1,h2⟩:=aqh h
 unfold Ps mA gN
 rw[acl]
 cases (dX d).isEmpty with
 |true=>exact⟨rfl,trivial⟩
 |false=>
  have h3:=EO (mac:=mac) (m:=mB (FO d) (jI d.w) (jI d.l)) (C0 (a:=jG) (b:=uM))
  exact⟨h3.1.trans (congrArg _ h1),h3.2 h2⟩
theorem zr{lvl:Nat}{l:Lf}:dj (dU lvl l)=true:=by
 unfold dU rP
 rw[ls,Tb]
 cases l.c
 ·rfl
 ·exact EE (a:=false)
theorem ao1{t:Tn}:dj (vf t)=true:=by
 cases t with
 |leaf l=>exact zr
 |grp g a=>
  show dj (dU 5 g++dU 10 a)=true
  rw[ls,zr,zr];rfl
 |grp2 g a b=>
  show dj (dU 5 g++(dU 10 a++dU 10 b))=true
  rw[ls,ls,zr,zr,zr];rfl
theorem aiJ{r:Rt}:dj (iu r)=true:=by
 unfold iu
 have h1:dj (r.ts.flatMap vf)=true:=by
  induction r.ts with
  |nil=>rfl
  |cons t ts ih=>rw[aY,ls,ao1,ih];rfl
 have h2:dj (VD (j8 1 r.it) r.ren)=true:=by
  cases r.ren with
  |zero=>rfl
  |succ l=>exact EE (a:=false)
 rw[ls,ls,zr,h1,h2];rfl
theorem acz{a b:ac}{o:Option Rt}:dj (fM (cj a b) o)=true:=by
 cases o with
 |none=>rfl
 |some r=>
  show dj (cj a b++iu r)=true
  rw[ls,C0,aiJ];rfl
theorem acy{d:DS}:dj (gN d)=true:=by
 have hf:dj (je d)=true:=by
  obtain⟨f,w,l⟩:=d
  cases f with
  |none=>rfl
  |some x=>
   show dj (cj gV dg++(cj (kq x.2.1) (et x.1)++iu x.2.2))=true
   rw[ls,ls,C0,C0,aiJ];rfl
 have hb:dj (dX d)=true:=by
  unfold dX;rw[ls,ls,hf,acz,acz];rfl
 unfold gN
 cases (dX d).isEmpty with
 |true=>rfl
 |false=>
  show dj (cj jG uM++dX d)=true
  rw[ls,C0,hb];rfl
open Classical in
def CM(d:DS)(L:aa):List AV:=if L=gN d then Ps d else L
theorem ah8{d:DS}(h:jk d)(L:aa)(c:bJ)(hc:lM mac L c):lM mac (CM d L) c:=by
 unfold CM
 by_cases q:L=gN d
 ·rw[if_pos q]
  obtain⟨h1,h2⟩:=an2 h
  refine tw hc ?_ fun _=>h2
  rw[h1,q,(T1 acy).1]
 ·rw[if_neg q];exact hc
theorem ah7(d:DS):CM d (gN d)=Ps d:=if_pos rfl
theorem ad9(d:DS):CM d []=[]:=by
 unfold CM
 by_cases q:[]=gN d
 ·rw[if_pos q]
  unfold gN at q
  unfold Ps mA
  rw[acl]
  cases z:(dX d).isEmpty with
  |true=>rfl
  |false=>rw[z]at q;exact absurd q (by intro q;cases q)
 ·rw[if_neg q]
end
theorem Yt{T:aa}(hk:T.length<=4000000)(hn:aN T=true)(hp:dj T=true)(σ:AS): ∃x ai,xr [.lst T] σ=some (.ref x,ai)/\ai.get x=some (.orc 1021 T):=by
 have g0:(σ.alloc (.inst 1021 [] [])).get σ.next=some (.inst 1021 [] []):=cn
 have s1:ou 38 (.lst T) (.ref σ.next) (σ.alloc (.inst 1021 [] []))=some ((σ.alloc (.inst 1021 [] [])).set σ.next (.inst 1021 [38] [.lst T])):=jm g0
 have l1:σ.next<((σ.alloc (.inst 1021 [] [])).set σ.next (.inst 1021 [38] [.lst T])).next:=bT _
 have g1:((σ.alloc (.inst 1021 [] [])).set σ.next (.inst 1021 [38] [.lst T])).get σ.next=some (.inst 1021 [38] [.lst T]):=eB g0
 generalize (σ.alloc (.inst 1021 [] [])).set σ.next (.inst 1021 [38] [.lst T])=gG at s1 l1 g1
 have s2:ou 4 (.int 0) (.ref σ.next) gG=some (gG.set σ.next (.inst 1021 [38,4] [.lst T,.int 0])):=jm g1
 have l2:σ.next<(gG.set σ.next (.inst 1021 [38,4] [.lst T,.int 0])).next:=l1
 have g2:(gG.set σ.next (.inst 1021 [38,4] [.lst T,.int 0])).get σ.next=some (.inst 1021 [38,4] [.lst T,.int 0]):=eB g1
 generalize gG.set σ.next (.inst 1021 [38,4] [.lst T,.int 0])=g8 at s2 l2 g2
 have g3:(g8.alloc (.dct [] [])).get σ.next=some (.inst 1021 [38,4] [.lst T,.int 0]):=dP g2 l2
 have s3:ou 37 (.ref g8.next) (.ref σ.next) (g8.alloc (.dct [] []))=some ((g8.alloc (.dct [] [])).set σ.next (.inst 1021 [38,4,37] [.lst T,.int 0,.ref g8.next])):=jm g3
 have l3:σ.next<((g8.alloc (.dct [] [])).set σ.next (.inst 1021 [38,4,37] [.lst T,.int 0,.ref g8.next])).next:=cN l2
 have g4:((g8.alloc (.dct [] [])).set σ.next (.inst 1021 [38,4,37] [.lst T,.int 0,.ref g8.next])).get σ.next=some (.inst 1021 [38,4,37] [.lst T,.int 0,.ref g8.next]):=eB g3
 generalize (g8.alloc (.dct [] [])).set σ.next (.inst 1021 [38,4,37] [.lst T,.int 0,.ref g8.next])=qz at s3 l3 g4
 have g5:(qz.alloc (.dct [] [])).get σ.next=some (.inst 1021 [38,4,37] [.lst T,.int 0,.ref g8.next]):=dP g4 l3
 have s4:ou 36 (.ref qz.next) (.ref σ.next) (qz.alloc (.dct [] []))=some ((qz.alloc (.dct [] [])).set σ.next (.inst 1021 [38,4,37,36] [.lst T,.int 0,.ref g8.next,.ref qz.next])):=jm g5
 have g6:((qz.alloc (.dct [] [])).set σ.next (.inst 1021 [38,4,37,36] [.lst T,.int 0,.ref g8.next,.ref qz.next])).get σ.next=some (.inst 1021 [38,4,37,36] [.lst T,.int 0,.ref g8.next,.ref qz.next]):=eB g5
 generalize (qz.alloc (.dct [] [])).set σ.next (.inst 1021 [38,4,37,36] [.lst T,.int 0,.ref g8.next,.ref qz.next])=σ4 at s4 g6
 have ed: ∀fr σ,FP fr σ=some (.ref σ.next,σ.alloc (.dct [] [])):=fun _ _=>rfl
 have e1:ja [.ref σ.next,.lst T] (σ.alloc (.inst 1021 [] []))=some (.none,σ4):=by
  show ob (kn [.ref σ.next,.lst T,.int 0] (σ.alloc (.inst 1021 [] []))) ir=_
  have hu:bW (.lst T)=false:=rfl
  simp only[kn,dk,yb,bk,kI,pd,fq,lZ,hu,ae,aX,s1,b9,dF,s2,ed,s3,s4,fJ,amA]
 have e2:uu dr ja [.lst T] σ=some (.ref σ.next,σ4):=by
  show bD (ja [.ref σ.next,.lst T] (σ.alloc (.inst 1021 [] []))) (fun a ai=>s9 a (some (AV.ref σ.next,ai)))=_
  rw[e1];rfl
 refine⟨σ.next,σ4.set σ.next (.orc 1021 T),?_,eB g6⟩
 show bD (uu dr ja [.lst T] σ) (fun a ay=>io a fun x=>CH ay x fun c ks vs=>bif aj c 1021&&dm ks [38,4,37,36]then ob (aah vs) (fun L=>bif dC L.length&&aN L&&dj L then some (AV.ref x,ay.set x (.orc 1021 L))else none)else none)=_
 rw[e2]
 show ob (σ4.get σ.next) _=_
 rw[g6]
 show(bif dC T.length&&aN T&&dj T then some (AV.ref σ.next,σ4.set σ.next (.orc 1021 T))else none)=_
 rw[fW hk,hn,hp];rfl
theorem Xl{d:DS}(h:jk d):(gN d).length <=1003:=by
 unfold gN
 cases (dX d).isEmpty with
 |true=>exact aU _
 |false=>
  show(cj jG uM++dX d).length <=1003
  rw[ao,ri];exact au (dz (Pb h) 3) (by decide)
theorem ain{a:AV}(h:flat 16 a=true)(σ:AS):b7 .NotEq a a σ=some false:=by
 show ob (od (wC 16 a a) some _) _=_
 rw[SX h];rfl
theorem amB{d:DS}(h:jk d){lab:List AV->List AV}(hl:lab (gN d)=Ps d)(σ:AS): ∃ai x,(aV (cT [1] (bv ik (aw (al 0) aI))) (aV (cT [2] (bv xr (aw (al 1) aI))) (sb (RL (fw (b7 .NotEq) (cH qD (bv (mf lab) (aw (al 2) aI)) aI) (cH qD (al 0) aI)) (pc (jh (cH qe (al 2) aI)))) (aV (fun _ _=>none) br) br))) [bK d] σ=some (.next [bK d,.lst (gN d),.ref x] ai):=by
 obtain⟨x,gG,r1,r2⟩:=Yt (T:=gN d) (au (Xl h) (by decide)) Vr acy σ
 have hu:bW (bK d)=false:=rfl
 have hut:bW (.lst (gN d))=false:=rfl
 have rd1:mf lab [.ref x] gG=some (bK d,gG.set x (.orc 1021 [])):=by
  have h1:rd gG x=some (gN d):=jm r2
  have h2:mf lab [.ref x] gG=oZ [.ref x] (gG.set x (.orc 1021 (lab (gN d)))):=jm h1
  rw[h2,hl];exact Qr h r2
 have g2:(gG.set x (.orc 1021 [])).get x=some (.orc 1021 []):=eB r2
 have dn:vw [.ref x] (gG.set x (.orc 1021 []))=some (.bool true,gG.set x (.orc 1021 [])):=jm (show rd (gG.set x (.orc 1021 [])) x=some [] from jm g2)
 have mt: ∀σ,qD (bK d) σ=some s0:=fun _=>rfl
 have md:qe (.ref x) (gG.set x (.orc 1021 []))=some vw:=aaI g2
 refine⟨gG.set x (.orc 1021 []),x,?_⟩
 simp only[dk,fH,eu,cz,cq,bk,kI,pd,hu,hut,fq,ae,aX,adm h,b9,dF,sA,sB,putN,r1,j6,G6,fD,eJ,rd1,mt,abd h,ain (Pt d),qM,lY,md,dn,iT,eD,fJ]
def anH(t:AV):Option AV:=ob (aA 28 t ⟨0,[]⟩) fun b=>UQ b (aA 1 t ⟨0,[]⟩)
def wG(t:AV):Bool:=(ob (aA 2 t ⟨0,[]⟩) fun k=>ob (aA 1 t ⟨0,[]⟩) fun w=>eo k fun k=>eo w fun w=>some (dm k jo&&dm w [46])).getD false
def Ma(t:AV):Option Int:=ob (aA 2 t ⟨0,[]⟩) fun k=>ob (aA 1 t ⟨0,[]⟩) fun w=>eo k fun k=>eo w fun w=>bif dm k pV then ob (lQ 0 w) (fun n=>some (am n))else none
def jZ(p:Bool)(T:aa):List AV:=bu (motive:=fun _=>Bool->List AV) (fun _=>[]) (fun t _ ih p=>bif p then t::ih (wG t)else ih (wG t)) T p
def mJ(T:aa):List AV:=T.filterMap anH
def iB(T:aa):List Int:=(jZ true T).filterMap Ma
theorem i5(l m:aa):mJ (l++m)=mJ l++mJ m:=List.filterMap_append
theorem NW{l:List (List Nat×List Nat×Nat)}: ∀{c:Nat},mJ (wH false c l)=[]:=by
 induction l with
 |nil=>exact rfl
 |cons x l ih=>exact fun{c}=>ih (c:=c+x.2.2)
theorem TW{a:Bool}{c:Nat}{x:List Nat×List Nat×Nat}{l:List (List Nat×List Nat×Nat)}:mJ (wH a c (x::l))=bif a then[.str x.2.1]else[]:=by
 cases a with
 |false=>exact NW
 |true=>exact congrArg (AV.str x.2.1:: ·) (NW (c:=c+x.2.2))
def xW(l:List (List Nat×List Nat×Nat)):Bool:=l.all fun x=> !(dm x.1 jo&&dm x.2.1 [46])
theorem EA{l m:List (List Nat×List Nat×Nat)}:xW (l++m)=(xW l&&xW m):=oJ
theorem aol{l:List (List Nat×List Nat×Nat)}{m:aa}: ∀{a:Bool} {c:Nat},xW l=true->jZ false (wH a c (l++[KI])++m)=jZ true m:=by
 induction l with
 |nil=>exact fun _=>rfl
 |cons x l ih=>
  intro a c h
  refine aE (show(!(dm x.1 jo&&dm x.2.1 [46])&&xW l)=true from h) fun h1 h2=> ?_
  show jZ (dm x.1 jo&&dm x.2.1 [46]) (wH false (c+x.2.2) (l++[KI])++m)=_
  rw[pn h1];exact ih h2
theorem ahq{x:List Nat×List Nat×Nat}{l:List (List Nat×List Nat×Nat)}{m:aa}{a:Bool}{c:Nat}(hx:(dm x.1 jo&&dm x.2.1 [46])=false)(h:xW l=true):jZ true (wH a c (x::(l++[KI]))++m)=tk x.1 x.2.1 c a::jZ true m:=by
 show tk x.1 x.2.1 c a::jZ (dm x.1 jo&&dm x.2.1 [46]) (wH false (c+x.2.2) (l++[KI])++m)=_
 rw[hx,aol h]
theorem I5{x:List Nat×List Nat×Nat}{l:List (List Nat×List Nat×Nat)}{m:aa}{a:Bool}{c:Nat}(hx:(dm x.1 jo&&dm x.2.1 [46])=false)(h:xW l=true):iB (wH a c (x::(l++[KI]))++m)=(Ma (tk x.1 x.2.1 c a)).toList++iB m:=by
 unfold iB
 rw[ahq hx h,kW]
 cases Ma (tk x.1 x.2.1 c a)<;>rfl
theorem aiH(p:Nat):xW (RV p)=true:=by
 unfold RV xZ
 cases aj p 0
 ·cases aj p 1
  ·cases aj p 2<;>rfl
  ·rfl
 ·rfl
theorem akY(p:Nat):xW (Sa p)=true:=by
 unfold Sa
 cases aj p 1<;>rfl
theorem aiA(p:Nat):xW (RU p)=true:=by
 unfold RU
 cases aj p 2
 ·cases aj p 3<;>rfl
 ·rfl
theorem Hm(lvl:Nat)(x:Nat×Nat×Nat):kv lvl x=wH (Mx lvl) (bif Mx lvl then 8 else 12) (nu (nT lvl)::((wd (nm x.1)::(RV x.2.2++(Sa x.2.1++RU x.2.1)))++[KI])):=by
 show wH _ _ (nu (nT lvl)::wd (nm x.1)::(RV x.2.2++(Sa x.2.1++(RU x.2.1++[KI]))))=_
 rw[eZ,aB,aB];rfl
def lvI(lvl:Nat):Option Int:=Ma (tk pV (nT lvl) 0 false)
theorem aoB{lvl:Nat}(h:rn lvl=true):lvI lvl=some (am lvl):=lvE (P:=fun lvl=>lvI lvl=some (am lvl)) h rfl rfl rfl rfl
theorem aid{lvl:Nat}{x:Nat×Nat×Nat}{m:aa}(h:rn lvl=true):iB (kv lvl x++m)=am lvl::iB m:=by
 rw[Hm,I5 rfl (by
  show(!(dm uN jo&&dm (nm x.1) [46])&&xW (RV x.2.2++(Sa x.2.1++RU x.2.1)))=true
  rw[EA,EA,aiH,akY,aiA];rfl)]
 have:Ma (tk (nu (nT lvl)).1 (nu (nT lvl)).2.1 (bif Mx lvl then 8 else 12) (Mx lvl))=some (am lvl):=(show _=lvI lvl from rfl).trans (aoB h)
 rw[this];rfl
theorem aie{n:Nat}{m:aa}:iB (fF n++m)=88::iB m:=I5 (x:=nu [56,56]) (l:=[wd ([73,83,45]++nm n),wd [86,65,76,85,69],(jo,[45],1),nu [53],wd [84,72,82,85],nu [49,46,50,53],(Yy,[113],4)]) rfl rfl
theorem aif{n l:Nat}{m:aa}:iB (gF n l++m)=66::iB m:=by
 unfold gF
 cases l with
 |zero=>exact I5 (x:=nu [54,54]) (l:=[wd (nm n),wd [82,69,78,65,77,69,83],wd (nm 16)]) rfl rfl
 |succ l=>exact I5 (x:=nu [54,54]) (l:=[wd (nm n),wd [82,69,78,65,77,69,83],wd (nm 16),wd [84,72,82,85],wd (nm 22)]) rfl rfl
theorem I6{a b:ac}{m:aa}:iB (cj a b++m)=iB m:=I5 (x:=wd a) (l:=[(uN,b,b.length)]) rfl rfl
noncomputable def nS(l:Lf):List Int:=bif l.c then[88]else[]
theorem qo{lvl:Nat}{l:Lf}{m:aa}(h:rn lvl=true):iB (dU lvl l++m)=am lvl::(nS l++iB m):=by
 obtain⟨i,c⟩:=l
 unfold dU rP
 rw[aB,aid h]
 cases c with
 |false=>rfl
 |true=>exact congrArg (am lvl:: ·) aie
noncomputable def ym(t:Tn):List Int:=match t with
 | .leaf l=>5::nS l
 | .grp g a=>5::(nS g++10::nS a)
 | .grp2 g a b=>5::(nS g++10::(nS a++10::nS b))
theorem aig{t:Tn}{m:aa}:iB (vf t++m)=ym t++iB m:=by
 cases t with
 |leaf l=>exact qo rfl
 |grp g a=>
  show iB ((dU 5 g++dU 10 a)++m)=5::((nS g++10::nS a)++iB m)
  rw[aB,qo rfl,qo rfl,aB];rfl
 |grp2 g a b=>
  show iB ((dU 5 g++(dU 10 a++dU 10 b))++m)=5::((nS g++10::(nS a++10::nS b))++iB m)
  rw[aB,qo rfl,aB,qo rfl,qo rfl,aB,eZ,aB];rfl
noncomputable def Qs(n:Nat):List Int:=hH (motive:=fun _=>List Int) [] (fun _ _=>[66]) n
noncomputable def Ax(r:Rt):List Int:=am r.lvl::(nS r.it++(r.ts.flatMap ym++Qs r.ren))
theorem aeb{ts:List Tn}{m:aa}:iB (ts.flatMap vf++m)=ts.flatMap ym++iB m:=by
 induction ts with
 |nil=>rfl
 |cons t ts ih=>rw[aY,aY,aB,aig,ih,aB]
theorem XU{r:Rt}(h:oc r){m:aa}:iB (iu r++m)=Ax r++iB m:=by
 unfold iu Ax
 rw[aB,qo h.lv.1,aB,aeb]
 have:iB (VD (j8 1 r.it) r.ren++m)=Qs r.ren++iB m:=by
  cases r.ren with
  |zero=>rfl
  |succ l=>exact aif
 rw[this,eZ,aB,aB]
theorem qy{lvl:Nat}{l:Lf}:mJ (dU lvl l)=bif Mx lvl then[.str (nT lvl)]else[]:=by
 unfold dU rP
 rw[i5,Hm,TW]
 have:mJ (bif l.c then fF (j8 lvl l)else[])=[]:=by
  cases l.c
  ·rfl
  ·exact NW
 rw[this,aR];rfl
theorem akU{t:Tn}:mJ (vf t)=[]:=by
 cases t with
 |leaf l=>exact qy
 |grp g a=>exact(i5 _ _).trans (by rw[qy,qy];rfl)
 |grp2 g a b=>exact(i5 _ _).trans (by rw[i5,qy,qy,qy];rfl)
theorem oc.top{r:Rt}(h:oc r):r.lvl=1\/r.lvl=77:=by
 have q:=h.ok
 unfold Yj at q
 cases z:aj r.lvl 1 with
 |true=>exact .inl (aD z)
 |false=>
  rw[z]at q
  exact aE (show(aj r.lvl 77&&(r.ts.isEmpty&&aj r.ren 0))=true from q) fun h1 _=>.inr (aD h1)
theorem YW{r:Rt}(h:oc r):mJ (iu r)=[.str (nT r.lvl)]:=by
 unfold iu
 have h1:mJ (r.ts.flatMap vf)=[]:=by
  induction r.ts with
  |nil=>rfl
  |cons t ts ih=>rw[aY,i5,akU,ih];rfl
 have h2:mJ (VD (j8 1 r.it) r.ren)=[]:=by
  cases r.ren with
  |zero=>rfl
  |succ l=>exact NW
 rw[i5,i5,qy,h1,h2]
 rcases h.top with e|e<;>rw[e]<;>rfl
theorem JO{a b:ac}:mJ (cj a b)=[.str a]:=TW
def fL(d:DS):List AV:=jn (d.f.map (·.2.2))
def ef(d:DS):List AV:=(fL d++jn d.w)++jn d.l
theorem rq(o:Option Rt):(jn o).length <=1:=by cases o<;>exact av rfl
theorem Vt(o:Option Rt):aN (jn o)=true:=by
 cases o with
 |none=>rfl
 |some r=>show aN [eg r]=true;rw[gZ,KX];rfl
theorem aeh(d:DS):aN (ef d)=true:=by
 unfold ef fL;rw[b8,b8,Vt,Vt,Vt];rfl
theorem agc{i:Nat}{fr:Fm}{σ:AS}{l:aa}(hu: ∀a∈l,bW a=false):eI [i] (fun _ σ=>some (true,σ)) (al i) l fr σ=some (l,σ):=by
 have h:=Hc (i:=i) (elt:=al i) (fr:=fr) (ps:=l.map fun a=>(a,a)) (σ:=σ) fun p hp σ=>by
  obtain⟨a,ha,rfl⟩:=dD.mp hp
  rw[bk,c9,hu a ha];rfl
 rw[gM,gM]at h
 rwa[show N3 ((fun x:AV×AV=>x.1)∘fun a=>(a,a)) l=l from tF l,show N3 ((fun x:AV×AV=>x.2)∘fun a=>(a,a)) l=l from tF l]at h
theorem XB{d:DS}{fr:Fm}{σ:AS}(h0:gt fr 0=bK d):qL 15 (un (aA 26) (al 0)) 16 (bi fV (un (aA 26) (al 0)) (al 15)) (al 16) fr σ=some (.ref σ.next,σ.alloc (.lst (fL d))):=by
 have hu:bW (bK d)=false:=rfl
 obtain⟨f,w,l⟩:=d
 cases f with
 |none=>
  have a26: ∀σ,aA 26 (bK ⟨none,w,l⟩) σ=some (.dct [] []):=fun _=>rfl
  have e1:un (aA 26) (al 0) fr σ=some (.dct [] [],σ):=by simp only[gn,bk,h0,hu,ae,aX,a26,b9]
  show bD (un (aA 26) (al 0) fr σ) (fun a ai=>bD (fE ai a) fun l ay=>bD (jz 15 (bi fV (un (aA 26) (al 0)) (al 15)) 16 (al 16) l (put fr 16 .unb) ay) fun vs aM=>bif dC vs.length then some (AV.ref aM.next,aM.alloc (.lst vs))else none)=_
  rw[e1];rfl
 |some x=>
  obtain⟨o,s,r⟩:=x
  have a26: ∀σ,aA 26 (bK ⟨some (o,s,r),w,l⟩) σ=some (.dct [et o] [.lst [eg r]]):=fun _=>rfl
  have e1:un (aA 26) (al 0) fr σ=some (.dct [et o] [.lst [eg r]],σ):=by simp only[gn,bk,h0,hu,ae,aX,a26,b9]
  have g0:gt (put (put fr 16 .unb) 15 (.str (et o))) 0=bK ⟨some (o,s,r),w,l⟩:=(fR rfl).trans ((fR rfl).trans h0)
  have e2:bi fV (un (aA 26) (al 0)) (al 15) (put (put fr 16 .unb) 15 (.str (et o))) σ=some (.lst [eg r],σ):=by simp only[jH,gn,bk,g0,c9,hu,mU,ae,aX,a26,b9,Z9]
  have e3:eI [16] (fun _ σ=>some (true,σ)) (al 16) [eg r] (put (put fr 16 .unb) 15 (.str (et o))) σ=some ([eg r],σ):=agc fun a ha=>by rw[aP.mp ha];rfl
  show bD (un (aA 26) (al 0) fr σ) (fun a ai=>bD (fE ai a) fun l ay=>bD (jz 15 (bi fV (un (aA 26) (al 0)) (al 15)) 16 (al 16) l (put fr 16 .unb) ay) fun vs aM=>bif dC vs.length then some (AV.ref aM.next,aM.alloc (.lst vs))else none)=_
  rw[e1]
  show bD (bD (bi fV (un (aA 26) (al 0)) (al 15) (put (put fr 16 .unb) 15 (.str (et o))) σ) fun s ai=>bD (fE ai s) fun l ay=>bD (eI [16] (fun _ σ=>some (true,σ)) (al 16) l (put (put fr 16 .unb) 15 (.str (et o))) ay) fun bs fX=>bD (jz 15 (bi fV (un (aA 26) (al 0)) (al 15)) 16 (al 16) [] (put fr 16 .unb) fX) fun cs cM=>some (bs++cs,cM)) (fun vs aM=>bif dC vs.length then some (AV.ref aM.next,aM.alloc (.lst vs))else none)=_
  rw[e2]
  show bD (bD (eI [16] (fun _ σ=>some (true,σ)) (al 16) [eg r] (put (put fr 16 .unb) 15 (.str (et o))) σ) fun bs fX=>bD (jz 15 (bi fV (un (aA 26) (al 0)) (al 15)) 16 (al 16) [] (put fr 16 .unb) fX) fun cs cM=>some (bs++cs,cM)) (fun vs aM=>bif dC vs.length then some (AV.ref aM.next,aM.alloc (.lst vs))else none)=_
  rw[e3];rfl
theorem amC{d:DS}{T:AV}{x:Nat}(σ:AS)(hT:bW T=false): ∃ai,(aV (cT [3] (bi (b4 .Add) (bi (b4 .Add) (qL 15 (un (aA 26) (al 0)) 16 (bi fV (un (aA 26) (al 0)) (al 15)) (al 16)) (un (aA 24) (al 0))) (un (aA 25) (al 0)))) (Qy 3)) [bK d,T,.ref x] σ=some (.next [bK d,T,.ref x,.lst (ef d)] ai):=by
 have hu:bW (bK d)=false:=rfl
 have a24: ∀σ,aA 24 (bK d) σ=some (.lst (jn d.w)):=fun _=>rfl
 have a25: ∀σ,aA 25 (bK d) σ=some (.lst (jn d.l)):=fun _=>rfl
 have c1:=XB (d:=d) (fr:=[bK d,T,.ref x]) (σ:=σ) rfl
 have k1:(fL d).length +(jn d.w).length <=4000000:=au (aJ (rq _) (rq _)) (by decide)
 have k2:(fL d++jn d.w).length +(jn d.l).length <=4000000:=by
  rw[ao];exact au (aJ (aJ (rq _) (rq _)) (rq _)) (by decide)
 have e1:=En (σ:=σ.alloc (.lst (fL d))) (i:=σ.next) (l:=fL d) (m:=jn d.w) cn k1
 have e2:=En (σ:=(σ.alloc (.lst (fL d))).alloc (.lst (fL d++jn d.w))) (i:=(σ.alloc (.lst (fL d))).next) (l:=fL d++jn d.w) (m:=jn d.l) cn k2
 have hz:=xQ (n:=13) (x:=((σ.alloc (.lst (fL d))).alloc (.lst (fL d++jn d.w))).next) (l:=ef d) (σ:=((σ.alloc (.lst (fL d))).alloc (.lst (fL d++jn d.w))).alloc (.lst (ef d))) cn (aeh d)
 refine⟨AS.drop (((σ.alloc (.lst (fL d))).alloc (.lst (fL d++jn d.w))).alloc (.lst (ef d))) ((σ.alloc (.lst (fL d))).alloc (.lst (fL d++jn d.w))).next,?_⟩
 show ob (cT [3] _ [bK d,T,.ref x] σ) (gU (Qy 3))=_
 have e3:cT [3] (bi (b4 .Add) (bi (b4 .Add) (qL 15 (un (aA 26) (al 0)) 16 (bi fV (un (aA 26) (al 0)) (al 15)) (al 16)) (un (aA 24) (al 0))) (un (aA 25) (al 0))) [bK d,T,.ref x] σ=some (.next [bK d,T,.ref x,.ref ((σ.alloc (.lst (fL d))).alloc (.lst (fL d++jn d.w))).next] (((σ.alloc (.lst (fL d))).alloc (.lst (fL d++jn d.w))).alloc (.lst (ef d)))):=by
  simp only[fH,jH,c1,aX,gn,bk,kI,hu,ae,a24,a25,b9,e1,e2,sA,sB,putN]
  rfl
 rw[e3]
 show pr (jJ 14 (.ref _) _) (fun a ai=>some (j9.next (put [bK d,T,.ref x,.ref _] 3 a) ai))=_
 rw[hz];rfl
theorem Pe{i:Nat}{test:BM}{elt:EM}{fr:Fm}{g:AV->Option AV}{l:aa}: ∀{σ:AS},(∀t∈l,∀σ,∃b,test (put fr i t) σ=some (b,σ)/\(b=true-> ∃v,elt (put fr i t) σ=some (v,σ)/\g t=some v)/\(b=false->g t=none))->eI [i] test elt l fr σ=some (l.filterMap g,σ):=by
 induction l with
 |nil=>exact fun _=>rfl
 |cons t l ih=>
  intro σ h
  have ih:=ih (σ:=σ) fun t ht=>h t (aQ _ ht)
  obtain⟨b,h1,h2,h3⟩:=h t (bf ..) σ
  show bD (test (put fr i t) σ) (fun b ai=>bif b then bD (elt (put fr i t) ai) (fun v fX=>bD (eI [i] test elt l fr fX) fun l cM=>some (v::l,cM))else eI [i] test elt l fr ai)=_
  rw[h1,aX]
  cases b with
  |true=>
   obtain⟨v,e1,e2⟩:=h2 rfl
   rw[af,e1,aX,ih,kW,e2];rfl
  |false=>
   rw[ae,ih,kW,h3 rfl]
def lK(l:aa):Prop:= ∀t∈l,∃k w c a,t=tk k w c a
theorem lK.app{l m:aa}(h:lK l)(h':lK m):lK (l++m):=fun t ht=>(cV.mp ht).elim (h t) (h' t)
theorem lK.nil:lK []:=fun _ h=>absurd h bg
theorem zG{l:List (List Nat×List Nat×Nat)}: ∀{c:Nat} {a:Bool},lK (wH a c l):=by
 induction l with
 |nil=>exact lK.nil
 |cons x l ih=>exact fun{c a} t ht=>(aG.mp ht).elim (fun h=>⟨_,_,_,_,h⟩) (ih t)
theorem zF{lvl:Nat}{l:Lf}:lK (dU lvl l):=by
 refine lK.app zG ?_
 unfold rP
 cases l.c
 ·exact lK.nil
 ·exact zG
theorem apC{t:Tn}:lK (vf t):=by
 cases t with
 |leaf l=>exact zF
 |grp g a=>exact lK.app zF zF
 |grp2 g a b=>exact lK.app zF (lK.app zF zF)
theorem akN{r:Rt}:lK (iu r):=by
 refine lK.app zF (lK.app ?_ ?_)
 ·exact fun t ht=>(List.mem_flatMap.mp ht).elim fun s h=>apC t h.2
 ·cases r.ren with
  |zero=>exact lK.nil
  |succ l=>exact zG
theorem acK{a b:ac}{o:Option Rt}:lK (fM (cj a b) o):=by
 cases o with
 |none=>exact lK.nil
 |some r=>exact lK.app zG akN
theorem abb{d:DS}:lK (gN d):=by
 have hf:lK (je d):=by
  obtain⟨f,w,l⟩:=d
  cases f with
  |none=>exact lK.nil
  |some x=>exact lK.app zG (lK.app zG akN)
 unfold gN
 cases (dX d).isEmpty
 ·exact lK.app zG (lK.app (lK.app hf acK) acK)
 ·exact lK.nil
theorem abe{T:aa}(hT:lK T)(hk:T.length<=4000000){fr:Fm}{σ:AS}(h1:gt fr 1= .lst T):eO [14] (al 1) (jh (un (aA 28) (al 14))) (un (aA 1) (al 14)) fr σ=some (.ref σ.next,σ.alloc (.lst (mJ T))):=by
 have e1:al 1 fr σ=some (.lst T,σ):=by rw[bk,h1];rfl
 have c:eI [14] (jh (un (aA 28) (al 14))) (un (aA 1) (al 14)) T fr σ=some (mJ T,σ):=Pe (g:=anH) fun t ht σ=>by
  obtain⟨k,w,c,a,rfl⟩:=hT t ht
  have a28: ∀σ,aA 28 (tk k w c a) σ=some (.bool a):=fun _=>rfl
  have a1: ∀σ,aA 1 (tk k w c a) σ=some (.str w):=fun _=>rfl
  have hu:bW (tk k w c a)=false:=rfl
  refine⟨a,by simp only[lY,gn,bk,c9,hu,ae,aX,a28,b9,iT],fun ha=>⟨.str w,by simp only[gn,bk,c9,hu,ae,aX,a1,b9],by rw[ha];rfl⟩,fun ha=>by rw[ha];rfl⟩
 show bD (al 1 fr σ) (fun x ai=>bD (fE ai x) fun l ay=>bD (eI [14] (jh (un (aA 28) (al 14))) (un (aA 1) (al 14)) l fr ay) fun vs aM=>bif dC vs.length then some (AV.ref aM.next,aM.alloc (.lst vs))else none)=_
 rw[e1,aX,NN hk,aX,c,aX,fW (n:=(mJ T).length) (au (tE ..) hk)];rfl
def tf:BM:=RL (fw (b7 .Eq) (al 11) (ba (.int (0)))) (fw (b7 .Eq) (cH qD (bi fV (al 1) (bi (b4 .Sub) (al 11) (ba (.int (1))))) aI) (bv gm (aw (ba (.str [115,105,103,110])) (aw (ba (.str [46])) aI))))
theorem U8{T:aa}(hT:lK T)(hk:T.length<=99999){fr:Fm}{σ:AS}(h1:gt fr 1= .lst T): ∀(m i:Nat) (p:Bool),i+m=T.length->(i=0->p=true)->(∀j t,i=j+1->T[j]? =some t->p=wG t)->
  eI [11] tf (bi fV (al 1) (al 11)) ((iV i m).map fun i=>.int (am i)) fr σ=some (jZ p (T.drop i),σ):=by
 intro m
 induction m with
 |zero=>
  intro i p hi _ _
  rw[hV (show T.length<=i from eH hi.symm)];rfl
 |succ m ih=>
  intro i p hi hp0 hp
  have hlt:i<T.length:=by rw[<- hi];exact vb (Nat.succ_pos m)
  have hx:T[i]? =some T[i]:=fb hlt
  obtain⟨k,w,c,a,ht⟩:=hT _ (Gs hlt)
  have ih:=ih (i+1) (wG T[i]) (by rw[<- hi];omega) (fun h=>absurd h (kj _)) fun j t hj ht=>by
   have:j=i:=(jW hj).symm
   rw[this,hx]at ht
   exact congrArg wG (aH ht)
  have u1:bW (.lst T)=false:=rfl
  have g1:gt (put fr 11 (.int (am i))) 1= .lst T:=(fR rfl).trans h1
  have oi: ∀{i},i<T.length->dC i=true:=fun h=>fW (au (i8 h) (au hk (by decide)))
  have el:bi fV (al 1) (al 11) (put fr 11 (.int (am i))) σ=some (T[i],σ):=by
   simp only[jH,bk,g1,c9,u1,lZ,ae,aX,IZ (oi hlt) hx]
  have te:tf (put fr 11 (.int (am i))) σ=some (p,σ):=by
   unfold tf
   cases i with
   |zero=>
    have e0: ∀σ,b7 .Eq (.int (am 0)) (.int 0) σ=some true:=fun _=>rfl
    rw[hp0 rfl]
    simp only[G6,fD,bk,c9,lZ,ae,af,aX,d6,e0,b9]
   |succ j=>
    have e0: ∀σ,b7 .Eq (.int (am (j+1))) (.int 0) σ=some false:=fun _=>rfl
    have e1: ∀σ,b4 .Sub (.int (am (j+1))) (.int 1) σ=some (.int (am j),σ):=fun σ=>by
     show some (AV.int (am (j+1)-1),σ)=_
     rw[show am (j+1)-1=am j from Bl (j:Int) 1]
    have hj:j<T.length:=Nat.lt_of_succ_lt hlt
    have hy:T[j]? =some T[j]:=fb hj
    obtain⟨k,w,c,a,ht⟩:=hT _ (Gs hj)
    rw[hp j _ rfl hy]
    rw[ht]at hy ⊢
    have mt: ∀σ,qD (tk k w c a) σ=some qG:=fun _=>rfl
    have pt: ∀σ,qG [tk k w c a] σ=some (.tup [.str k,.str w],σ):=fun _=>rfl
    have m2: ∀a b σ,gm [a,b] σ=some (.tup [a,b],σ):=fun _ _ _=>rfl
    have ce: ∀σ,b7 .Eq (.tup [.str k,.str w]) (.tup [.str [115,105,103,110],.str [46]]) σ=some (wG (tk k w c a)):=fun σ=>by
     show some (dm k jo&&(dm w [46]&&true))=some (dm k jo&&dm w [46])
     rw[zL]
    have ut:bW (tk k w c a)=false:=rfl
    simp only[G6,fD,bk,c9,g1,u1,lZ,ae,aX,d6,e0,b9,eJ,jH,e1,IZ (oi hj) hy,mt,cq,pt,eu,cz,m2,ce]
  rw[tH,bh]
  show bD (tf (put fr 11 (.int (am i))) σ) (fun b ai=>bif b then bD (bi fV (al 1) (al 11) (put fr 11 (.int (am i))) ai) (fun v fX=>bD (eI [11] tf (bi fV (al 1) (al 11)) ((iV (i+1) m).map fun i=>.int (am i)) fr fX) fun l cM=>some (v::l,cM))else eI [11] tf (bi fV (al 1) (al 11)) ((iV (i+1) m).map fun i=>.int (am i)) fr ai)=_
  rw[te,aX,List.drop_eq_getElem_cons hlt]
  cases p with
  |true=>rw[af,el,aX,ih];rfl
  |false=>rw[ae,ih];rfl
theorem U7{T:aa}(hT:lK T)(hk:T.length<=99999){fr:Fm}{σ:AS}(h1:gt fr 1= .lst T):eO [11] (bv lE (aw (bv eV (aw (al 1) aI)) aI)) tf (bi fV (al 1) (al 11)) fr σ=some (.ref σ.next,σ.alloc (.lst (jZ true T))):=by
 have u1:bW (.lst T)=false:=rfl
 have hk':T.length<=4000000:=au hk (by decide)
 have er:lE [.int (am T.length)] σ=some (.rng 0 T.length,σ):=by
  show(bif bz T.length 100000 then some (AV.rng 0 T.length,σ)else none)=_
  rw[G8 (Nat.lt_succ_of_le hk)];rfl
 have e1:bv lE (aw (bv eV (aw (al 1) aI)) aI) fr σ=some (.rng 0 T.length,σ):=by
  simp only[eu,cz,cq,bk,h1,u1,ae,aX,xU (fW hk'),er]
 have e2:fE σ (.rng 0 T.length)=some ((iV 0 T.length).map (fun i=>.int (am i)),σ):=by
  show bD (some ((cB (T.length-0)).map (fun i=>AV.int (am (0+i))),σ)) (fun l ai=>bif dC l.length then some (l,ai)else none)=_
  rw[aX,aS,EV,N6,fW hk',List.range_eq_range']
  refine congrArg (fun l=>some (l,σ)) (fY fun i _=> ?_)
  rw[ic]
 have c:=U8 hT hk h1 (σ:=σ) T.length 0 true (ic _) (fun _=>rfl) fun j t hj _=>absurd hj.symm (kj _)
 have hl: ∀(T:List AV) (p:Bool),(jZ p T).length <=T.length:=fun T=>by
  induction T with
  |nil=>exact fun _=>ax _
  |cons t T ih=>
   intro p
   cases p with
   |true=>exact be (ih (wG t))
   |false=>exact mL (ih (wG t))
 show bD (bv lE (aw (bv eV (aw (al 1) aI)) aI) fr σ) (fun x ai=>bD (fE ai x) fun l ay=>bD (eI [11] tf (bi fV (al 1) (al 11)) l fr ay) fun vs aM=>bif dC vs.length then some (AV.ref aM.next,aM.alloc (.lst vs))else none)=_
 rw[e1,aX,e2,aX,c,aX,l4,fW (au (hl T true) hk')];rfl
def Vb(t:AV):Bool:=(ob (aA 2 t ⟨0,[]⟩) fun k=>ob (aA 1 t ⟨0,[]⟩) fun w=>eo k fun k=>some (bif dm k pV then(tV [w] ⟨0,[]⟩).isSome else true)).getD false
def iX(T:aa):Bool:=(jZ true T).all Vb
theorem IW{x:List Nat×List Nat×Nat}{l:List (List Nat×List Nat×Nat)}{m:aa}{a:Bool}{c:Nat}(hx:(dm x.1 jo&&dm x.2.1 [46])=false)(h:xW l=true)(hg:Vb (tk x.1 x.2.1 c a)=true):iX (wH a c (x::(l++[KI]))++m)=iX m:=by
 unfold iX
 rw[ahq hx h,rA,hg];rfl
theorem ahI{lvl:Nat}(h:rn lvl=true)(c:Nat)(a:Bool):Vb (tk pV (nT lvl) c a)=true:=lvE (P:=fun lvl=>Vb (tk pV (nT lvl) c a)=true) h rfl rfl rfl rfl
theorem ahH{lvl:Nat}{x:Nat×Nat×Nat}{m:aa}(h:rn lvl=true):iX (kv lvl x++m)=iX m:=by
 rw[Hm,IW rfl (by
  show(!(dm uN jo&&dm (nm x.1) [46])&&xW (RV x.2.2++(Sa x.2.1++RU x.2.1)))=true
  rw[EA,EA,aiH,akY,aiA];rfl) (ahI h _ _)]
theorem ahJ{n:Nat}{m:aa}:iX (fF n++m)=iX m:=IW (x:=nu [56,56]) (l:=[wd ([73,83,45]++nm n),wd [86,65,76,85,69],(jo,[45],1),nu [53],wd [84,72,82,85],nu [49,46,50,53],(Yy,[113],4)]) rfl rfl rfl
theorem ahK{n l:Nat}{m:aa}:iX (gF n l++m)=iX m:=by
 unfold gF
 cases l with
 |zero=>exact IW (x:=nu [54,54]) (l:=[wd (nm n),wd [82,69,78,65,77,69,83],wd (nm 16)]) rfl rfl rfl
 |succ l=>exact IW (x:=nu [54,54]) (l:=[wd (nm n),wd [82,69,78,65,77,69,83],wd (nm 16),wd [84,72,82,85],wd (nm 22)]) rfl rfl rfl
theorem IX{a b:ac}{m:aa}:iX (cj a b++m)=iX m:=IW (x:=wd a) (l:=[(uN,b,b.length)]) rfl rfl rfl
theorem qm{lvl:Nat}{l:Lf}{m:aa}(h:rn lvl=true):iX (dU lvl l++m)=iX m:=by
 obtain⟨i,c⟩:=l
 unfold dU rP
 rw[aB,ahH h]
 cases c with
 |false=>rfl
 |true=>exact ahJ
theorem ahL{t:Tn}{m:aa}:iX (vf t++m)=iX m:=by
 cases t with
 |leaf l=>exact qm rfl
 |grp g a=>
  show iX ((dU 5 g++dU 10 a)++m)=iX m
  rw[aB,qm rfl,qm rfl]
 |grp2 g a b=>
  show iX ((dU 5 g++(dU 10 a++dU 10 b))++m)=iX m
  rw[aB,qm rfl,aB,qm rfl,qm rfl]
theorem XF{r:Rt}(h:oc r){m:aa}:iX (iu r++m)=iX m:=by
 unfold iu
 have h1: ∀(ts:List Tn) (m:List AV),iX (ts.flatMap vf++m)=iX m:=fun ts m=>by
  induction ts with
  |nil=>rfl
  |cons t ts ih=>rw[aY,aB,ahL,ih]
 have h2:iX (VD (j8 1 r.it) r.ren++m)=iX m:=by
  cases r.ren with
  |zero=>rfl
  |succ l=>exact ahK
 rw[aB,qm h.lv.1,aB,h1,h2]
theorem acE{a b:ac}{o:Option Rt}(h:Ki o){m:aa}:iX (fM (cj a b) o++m)=iX m/\iB (fM (cj a b) o++m)=(o.map Ax).getD []++iB m:=by
 cases o with
 |none=>exact⟨rfl,rfl⟩
 |some r=>
  have e:fM (cj a b) (some r)++m=cj a b++(iu r++m):=aB ..
  rw[e]
  exact⟨by rw[IX,XF (h r rfl)],by rw[I6,XU (h r rfl)];rfl⟩
noncomputable def Cx(d:DS):List Int:=((d.f.map (·.2.2)).map Ax).getD []++((d.w.map Ax).getD []++(d.l.map Ax).getD [])
theorem an3{d:DS}(h:jk d):iX (gN d)=true/\iB (gN d)=Cx d:=by
 obtain⟨l1,l2⟩:=acE (a:=pL) (b:=dg) h.l (m:=[])
 obtain⟨w1,w2⟩:=acE (a:=my) (b:=dg) h.w (m:=fM (cj pL dg) d.l++[])
 have hb:iX (dX d)=true/\iB (dX d)=Cx d:=by
  have e3:dX d=je d++(fM (cj my dg) d.w++(fM (cj pL dg) d.l++[])):=by
   unfold dX;rw[aR,aB]
  have hf:iX (je d++(fM (cj my dg) d.w++(fM (cj pL dg) d.l++[])))=iX (fM (cj my dg) d.w++(fM (cj pL dg) d.l++[]))/\iB (je d++(fM (cj my dg) d.w++(fM (cj pL dg) d.l++[])))=((d.f.map (·.2.2)).map Ax).getD []++iB (fM (cj my dg) d.w++(fM (cj pL dg) d.l++[])):=by
   generalize fM (cj my dg) d.w++(fM (cj pL dg) d.l++[])=m
   obtain⟨f,w,l⟩:=d
   cases f with
   |none=>exact⟨rfl,rfl⟩
   |some x=>
    have e:je ⟨some x,w,l⟩++m=cj gV dg++(cj (kq x.2.1) (et x.1)++(iu x.2.2++m)):=by
     show(cj gV dg++(cj (kq x.2.1) (et x.1)++iu x.2.2))++m=_
     rw[aB,aB]
    have hr:=(h.f x rfl).1
    rw[e]
    exact⟨by rw[IX,IX,XF hr],by rw[I6,I6,XU hr];rfl⟩
  rw[e3,hf.1,hf.2,w1,w2,l1,l2]
  refine⟨rfl,?_⟩
  unfold Cx
  rw[show iB []=[] from rfl,aR]
 unfold gN
 cases z:(dX d).isEmpty with
 |true=>
  have hb0:=dM.mp z
  rw[hb0]at hb
  exact hb
 |false=>exact⟨IX.trans hb.1,I6.trans hb.2⟩
theorem ahr{T:aa}: ∀{p:Bool},∀t∈jZ p T,t∈T:=by
 induction T with
 |nil=>exact fun t h=>h
 |cons x T ih=>
  intro p t h
  cases p with
  |true=>exact(aG.mp (show t∈x::jZ (wG x) T from h)).elim (fun h=>h▸bf ..) fun h=>aQ _ (ih t h)
  |false=>exact aQ _ (ih t (show t∈jZ (wG x) T from h))
theorem adZ{w:ac}(h:(tV [.str w] ⟨0,[]⟩).isSome=true): ∃n,lQ 0 w=some n/\ ∀σ,tV [.str w] σ=some (.int (am n),σ):=by
 cases w with
 |nil=>exact ff h
 |cons c r=>
  have h:(bif bz r.length 18 then ob (lQ 0 (c::r)) (fun n=>some (AV.int (am n),(⟨0,[]⟩:AS)))else none).isSome=true:=h
  cases z:bz r.length 18 with
  |false=>rw[z]at h;exact ff h
  |true=>
   rw[z,af]at h
   cases e:lQ 0 (c::r)with
   |none=>rw[e]at h;exact ff h
   |some n=>
    refine⟨n,rfl,fun σ=> ?_⟩
    show(bif bz r.length 18 then ob (lQ 0 (c::r)) (fun n=>some (AV.int (am n),σ))else none)=_
    rw[z,e];rfl
theorem Vj{T:aa}(hT:lK T)(hg:iX T=true){fr:Fm}{σ:AS}{j:Nat}(h6:gt fr 6= .ref j)(hj:σ.get j=some (.lst (jZ true T)))(hk:(jZ true T).length <=4000000):
  eO [10] (al 6) (fw (b7 .Eq) (un (aA 2) (al 10)) (ba (.str [110,117,109,98,101,114]))) (bv tV (aw (un (aA 1) (al 10)) aI)) fr σ=some (.ref (σ.drop j).next,(σ.drop j).alloc (.lst ((iB T).map .int))):=by
 have e1:al 6 fr σ=some (.ref j,σ):=by rw[bk,h6];rfl
 have e2:fE σ (.ref j)=some (jZ true T,σ.drop j):=by
  show bD (ob (σ.get j) _) _=_
  rw[hj]
  show(bif dC (jZ true T).length then some (jZ true T,σ.drop j)else none)=_
  rw[fW hk];rfl
 have c:eI [10] (fw (b7 .Eq) (un (aA 2) (al 10)) (ba (.str [110,117,109,98,101,114]))) (bv tV (aw (un (aA 1) (al 10)) aI)) (jZ true T) fr (σ.drop j)=some ((jZ true T).filterMap (fun t=>(Ma t).map AV.int),σ.drop j):=Pe fun t ht σ=>by
  obtain⟨k,w,c,a,rfl⟩:=hT t (ahr t ht)
  have a2: ∀σ,aA 2 (tk k w c a) σ=some (.str k):=fun _=>rfl
  have a1: ∀σ,aA 1 (tk k w c a) σ=some (.str w):=fun _=>rfl
  have hu:bW (tk k w c a)=false:=rfl
  have gd:(bif dm k pV then(tV [.str w] ⟨0,[]⟩).isSome else true)=true:=bZ.mp hg _ ht
  have lg:Ma (tk k w c a)=bif dm k pV then ob (lQ 0 w) (fun n=>some (am n))else none:=rfl
  have ce: ∀σ,b7 .Eq (.str k) (.str [110,117,109,98,101,114]) σ=some (dm k pV):=fun _=>rfl
  refine⟨dm k pV,by simp only[fD,gn,bk,c9,hu,ae,aX,a2,b9,d6,ce],fun hb=> ?_,fun hb=>by rw[lg,hb];rfl⟩
  rw[hb]at gd
  refine eX (adZ gd) fun n p1 p2=> ?_
  exact⟨.int (am n),by simp only[eu,cz,cq,gn,bk,c9,hu,ae,aX,a1,b9,p2],by rw[lg,hb,af,p1];rfl⟩
 have hm:(jZ true T).filterMap (fun t=>(Ma t).map AV.int)=(iB T).map AV.int:=List.map_filterMap.symm
 show bD (al 6 fr σ) (fun x ai=>bD (fE ai x) fun l ay=>bD (eI [10] (fw (b7 .Eq) (un (aA 2) (al 10)) (ba (.str [110,117,109,98,101,114]))) (bv tV (aw (un (aA 1) (al 10)) aI)) l fr ay) fun vs aM=>bif dC vs.length then some (AV.ref aM.next,aM.alloc (.lst vs))else none)=_
 rw[e1,aX,e2,aX,c,aX,fW (au (tE ..) hk),hm];rfl
def Lm(self:aW):SM:=aV (cT [1] (bi (b4 .Add) (al 1) (bv self (aw (al 2) aI)))) br
theorem abf{self:aW}{ks:List (AV×List AV)}: ∀{fr:Fm} {σ:AS} {i:Nat} {L:aa},(∀k∈ks,bW k.1=false/\ ∀σ,self [k.1] σ=some (.ref σ.next,σ.alloc (.lst k.2)))->gt fr 1= .ref i->σ.get i=some (.lst L)->i<σ.next->L.length+(ks.flatMap (·.2)).length <=4000000->
  ∃fr' ai j,pF [2] (Lm self) (ks.map (·.1)) fr σ=some (.next fr' ai)/\gt fr' 1= .ref j/\ai.get j=some (.lst (L++ks.flatMap (·.2))):=by
 induction ks with
 |nil=>exact fun{fr σ i L} _ hf hi _ _=>⟨fr,σ,i,rfl,hf,by rw[bI,aR];exact hi⟩
 |cons k ks ih=>
  intro fr σ i L h hf hi hs hk
  obtain⟨hu,hself⟩:=h k (bf ..)
  rw[aY]at hk ⊢
  have hk1:L.length+k.2.length<=4000000:=au (dz (by rw[ao];exact cY _ _) _) hk
  have h1:gt (put fr 2 k.1) 1= .ref i:=(fR rfl).trans hf
  have ea:=IE (σ:=σ.alloc (.lst k.2)) (i:=i) (j:=σ.next) (dP hi hs) cn hk1
  have e1:Lm self (put fr 2 k.1) σ=some (.next (put (put fr 2 k.1) 1 (.ref (σ.alloc (.lst k.2)).next)) ((σ.alloc (.lst k.2)).alloc (.lst (L++k.2)))):=by
   unfold Lm
   simp only[dk,fH,jH,bk,h1,c9,fq,hu,ae,aX,eu,cz,cq,hself,ea,b9,dF,fJ]
  refine Xp (ih (fr:=put (put fr 2 k.1) 1 (.ref (σ.alloc (.lst k.2)).next)) (σ:=(σ.alloc (.lst k.2)).alloc (.lst (L++k.2))) (i:=(σ.alloc (.lst k.2)).next) (L:=L++k.2) (fun k hk=>h k (aQ _ hk)) c9 cn (bT _) (by rw[ao,kE,<- ao];exact hk)) fun fr' ai j e2 h2 h3=> ?_
  refine⟨fr',ai,j,?_,h2,by rw[h3,aB]⟩
  rw[bh,EI e1,e2]
theorem aoG{σ:AS}{j m:Nat}{l:aa}(hj:σ.get j=some (.lst l))(hm:m<100)(hl:l.length<=1000):b4 .Mult (.ref j) (.int (am m)) σ=some (.ref σ.next,σ.alloc (.lst (bL m l).flatten)):=by
 show(bif bz m 100 then ob (σ.get j) _ else none)=_
 rw[G8 hm,hj]
 show(bif cX l.length 1000 then _ else none)=_
 rw[gq hl];rfl
theorem TZ{n:Nat}{it lv:AV}{cs:aa}{ks:List (AV×List AV)}(hit:noRef it=true)(hu:bW it=false)(ha: ∀σ,aA 20 it σ=some lv)(hlv:noRef lv=true)(hc: ∀σ,aA 23 it σ=some (.lst cs))(hcl:cs.length<100)(hkd: ∀σ,aA 22 it σ=some (.lst (ks.map (·.1))))
  (hk: ∀k∈ks,bW k.1=false/\ ∀σ,bA n [k.1] σ=some (.ref σ.next,σ.alloc (.lst k.2)))(hn:aN (([lv]++(bL cs.length [AV.int 88]).flatten)++ks.flatMap (·.2))=true)(hl:(([lv]++(bL cs.length [AV.int 88]).flatten)++ks.flatMap (·.2)).length <=4000000)(hkl:ks.length<=4000000)(σ:AS):
  bA (n+1) [it] σ=some (.ref σ.next,σ.alloc (.lst (([lv]++(bL cs.length [AV.int 88]).flatten)++ks.flatMap (·.2)))):=by
 have mk1: ∀a σ,de [a] σ=some (.ref σ.next,σ.alloc (.lst [a])):=fun _ _=>rfl
 have key: ∀σ:AS,∃x ai,zS (bA n) [it] σ=some (.ref x,ai)/\ai.get x=some (.lst (([lv]++(bL cs.length [AV.int 88]).flatten)++ks.flatMap (·.2))):=fun σ=>by
  have k1:[lv].length +((bL cs.length [AV.int 88]).flatten).length <=4000000:=by
   rw[<- ao]
   exact au (by rw[ao (as:=[lv]++(bL cs.length [AV.int 88]).flatten)];exact cY _ _) hl
  have em:=aoG (σ:=(σ.alloc (.lst [lv])).alloc (.lst [.int 88])) (j:=(σ.alloc (.lst [lv])).next) (l:=[.int 88]) cn hcl (by decide)
  have g1:(((σ.alloc (.lst [lv])).alloc (.lst [.int 88])).alloc (.lst (bL cs.length [AV.int 88]).flatten)).get σ.next=some (.lst [lv]):=dP (dP cn (bT _)) (cN (bT _))
  have ea:=IE (σ:=((σ.alloc (.lst [lv])).alloc (.lst [.int 88])).alloc (.lst (bL cs.length [AV.int 88]).flatten)) (i:=σ.next) (j:=((σ.alloc (.lst [lv])).alloc (.lst [.int 88])).next) g1 cn k1
  generalize hS:(((σ.alloc (.lst [lv])).alloc (.lst [.int 88])).alloc (.lst (bL cs.length [AV.int 88]).flatten)).alloc (.lst ([lv]++(bL cs.length [AV.int 88]).flatten))=g8 at ea
  have g2:g8.get (((σ.alloc (.lst [lv])).alloc (.lst [.int 88])).alloc (.lst (bL cs.length [AV.int 88]).flatten)).next=some (.lst ([lv]++(bL cs.length [AV.int 88]).flatten)):=by rw[<- hS];exact cn
  have l2:(((σ.alloc (.lst [lv])).alloc (.lst [.int 88])).alloc (.lst (bL cs.length [AV.int 88]).flatten)).next <g8.next:=by rw[<- hS];exact bT _
  generalize (((σ.alloc (.lst [lv])).alloc (.lst [.int 88])).alloc (.lst (bL cs.length [AV.int 88]).flatten)).next=i at ea g2 l2
  have ln: ∀σ:AS,eV [.lst cs] σ=some (.int (.ofNat cs.length),σ):=fun σ=>xU (fW (au (i8 hcl) (by decide)))
  have e1:cT [1] (bi (b4 .Add) (bv de (aw (un (aA 20) (al 0)) aI)) (bi (b4 .Mult) (bv de (aw (ba (.int (88))) aI)) (bv eV (aw (un (aA 23) (al 0)) aI)))) [it] σ=some (.next [it,.ref i] g8):=by
   simp only[fH,jH,eu,cz,cq,gn,bk,kI,hu,ae,aX,ha,b9,mk1,d6,hc,ln,em,ea,sA,sB,putN]
  obtain⟨fr',ai,j,e2,h2,h3⟩:=abf (self:=bA n) (fr:=[it,.ref i]) (σ:=g8) (i:=i) hk rfl g2 l2 (by rw[<- ao];exact hl)
  have e3:gE [2] (un (aA 22) (al 0)) (Lm (bA n)) [it,.ref i] g8=some (.next fr' ai):=by
   refine(zh (l:=ks.map (·.1)) ?_ (by rw[aS];exact hkl)).trans e2
   simp only[gn,bk,kI,hu,ae,aX,hkd,b9]
  refine⟨j,ai,?_,h3⟩
  show ob (ob (cT [1] _ [it] σ) (gU (aV (gE [2] (un (aA 22) (al 0)) (Lm (bA n))) (aV (eK (al 1)) br)))) ir=_
  rw[e1]
  show ob (ob (gE [2] (un (aA 22) (al 0)) (Lm (bA n)) [it,.ref i] g8) (gU (aV (eK (al 1)) br))) ir=_
  rw[e3]
  show ob (aV (eK (al 1)) br fr' ai) ir=_
  simp only[dk,ek,bk,h2,fq,ae,aX,b9,dI,gB]
 obtain⟨x,ai,e,g⟩:=key ⟨0,[]⟩
 exact aai (by rw[gZ,hit];rfl) e g hn
theorem CW(l:List Int):aN (l.map AV.int)=true:=by
 induction l with
 |nil=>rfl
 |cons a l ih=>exact ih
noncomputable def CL(lvl:Nat)(l:Lf):List AV:=(am lvl::nS l).map AV.int
theorem zJ{n lvl:Nat}{l:Lf}{ks:List (AV×List AV)}{p:AV}(hks:aN (ks.map (·.1))=true)(hp:noRef p=true)(hk: ∀k∈ks,bW k.1=false/\ ∀σ,bA n [k.1] σ=some (.ref σ.next,σ.alloc (.lst k.2)))(hn:aN (ks.flatMap (·.2))=true)(hl:(CL lvl l++ks.flatMap (·.2)).length <=4000000)(hkl:ks.length<=4000000)(σ:AS):
  bA (n+1) [pf lvl l (ks.map (·.1)) p] σ=some (.ref σ.next,σ.alloc (.lst (CL lvl l++ks.flatMap (·.2)))):=by
 have hit:noRef (pf lvl l (ks.map (·.1)) p)=true:=by
  show(true&&aN (kb _ _ _ _ _))=true
  rw[Hu,Ht,sy,hks,hp];rfl
 have key: ∀cs:List AV,conds lvl l= .lst cs->[AV.int (am lvl)]++(bL cs.length [AV.int 88]).flatten=CL lvl l->cs.length<100->bA (n+1) [pf lvl l (ks.map (·.1)) p] σ=some (.ref σ.next,σ.alloc (.lst (CL lvl l++ks.flatMap (·.2)))):=fun cs h1 h2 h3=>by
  have h:=TZ (n:=n) (it:=pf lvl l (ks.map (·.1)) p) (lv:=.int (am lvl)) (cs:=cs) (ks:=ks) hit rfl (fun _=>rfl) rfl (fun σ=> ?_) h3 (fun _=>rfl) hk (by rw[h2,b8,hn,show aN (CL lvl l)=true from CW _];rfl) (by rw[h2];exact hl) hkl σ
  ·rw[h2]at h;exact h
  ·rw[<- h1]
   obtain⟨i,c⟩:=l
   cases c<;>rfl
 obtain⟨i,c⟩:=l
 cases c with
 |false=>exact key [] rfl rfl (by decide)
 |true=>exact key [qp (j8 lvl ⟨i,true⟩)] rfl rfl (show 1<100 by decide)
theorem uo(lvl:Nat)(l:Lf):(CL lvl l).length <=2:=by
 unfold CL nS
 cases l.c<;>exact av rfl
theorem JQ{n lvl:Nat}{l:Lf}(σ:AS):bA (n+1) [om lvl l .opq] σ=some (.ref σ.next,σ.alloc (.lst (CL lvl l))):=by
 have h:=zJ (n:=n) (lvl:=lvl) (l:=l) (ks:=[]) (p:=.opq) rfl rfl (fun _ h=>absurd h bg) rfl (by rw[bI,aR];exact au (uo lvl l) (by decide)) (aU _) σ
 rw[bI,aR]at h
 exact h
theorem afm{n i l:Nat}(σ:AS):bA (n+1) [.frz cp gk (kg i l .opq)] σ=some (.ref σ.next,σ.alloc (.lst [.int 66])):=by
 have hrn:noRef (ya l)=true:=NT (P:=fun a=>noRef a=true) rfl rfl l
 have hit:noRef (.frz cp gk (kg i l .opq))=true:=by
  show aN (kg i l .opq)=true
  simp only[kg,gZ,X9,X7,X5,X4,acq,sy,hrn,X8,rz]
 exact TZ (n:=n) (it:=.frz cp gk (kg i l .opq)) (lv:=.int 66) (cs:=[]) (ks:=[]) hit rfl (fun _=>rfl) rfl (fun _=>rfl) (by decide) (fun _=>rfl) (fun _ h=>absurd h bg) rfl (av rfl) (aU _) σ
theorem ak5{n:Nat}(t:Tn)(σ:AS):bA (n+2) [sK t] σ=some (.ref σ.next,σ.alloc (.lst ((ym t).map AV.int))):=by
 cases t with
 |leaf l=>exact JQ (n:=n+1) σ
 |grp g a=>
  have h:=zJ (n:=n+1) (lvl:=5) (l:=g) (ks:=[(om 10 a .opq,CL 10 a)]) (p:=.opq) (by rw[bh,jV,gZ,qq];rfl) rfl (fun k hk=>(aP.mp hk)▸⟨rfl,fun σ=>JQ σ⟩)
   (by rw[aY,bI,aR];exact CW _) (by rw[aY,bI,aR,ao];exact au (aJ (uo _ _) (uo _ _)) (by decide)) (av rfl) σ
  rw[aY,bI,aR,show CL 5 g++CL 10 a=(ym (.grp g a)).map AV.int from(bt ..).symm]at h
  exact h
 |grp2 g a b=>
  have h:=zJ (n:=n+1) (lvl:=5) (l:=g) (ks:=[(om 10 a .opq,CL 10 a),(om 10 b .opq,CL 10 b)]) (p:=.opq) (by rw[bh,bh,jV,gZ,gZ,qq,qq];rfl) rfl
   (fun k hk=>(aG.mp hk).elim (fun h=>h▸⟨rfl,fun σ=>JQ σ⟩) fun hk=>(aP.mp hk)▸⟨rfl,fun σ=>JQ σ⟩)
   (by rw[aY,aY,bI,aR,b8];exact(congr (congrArg and (CW _)) (CW _))) (by rw[aY,aY,bI,aR,ao,ao];exact au (aJ (uo _ _) (aJ (uo _ _) (uo _ _))) (by decide)) (av rfl) σ
  rw[aY,aY,bI,aR]at h
  have e:CL 5 g++(CL 10 a++CL 10 b)=(ym (.grp2 g a b)).map AV.int:=by
   show(am 5::nS g).map AV.int++((am 10::nS a).map AV.int++(am 10::nS b).map AV.int)=_
   rw[<- bt,<- bt];rfl
  rw[e]at h
  exact h
theorem akO(t:Tn):(ym t).length <=6:=by
 have h: ∀l:Lf,(nS l).length <=1:=fun l=>by unfold nS;cases l.c<;>exact av rfl
 cases t with
 |leaf l=>exact au (be (h l)) (by decide)
 |grp g a=>
  show(5::(nS g++10::nS a)).length <=6
  rw[bQ,ao,bQ]
  exact au (be (aJ (h g) (be (h a)))) (by decide)
 |grp2 g a b=>
  show(5::(nS g++10::(nS a++10::nS b))).length <=6
  rw[bQ,ao,bQ,ao,bQ]
  exact be (aJ (h g) (be (aJ (h a) (be (h b)))))
theorem KY{ts:List Tn}(h:ts.length<=8):(ts.flatMap ym).length <=48:=by
 have: ∀ts:List Tn,(ts.flatMap ym).length <=6*ts.length:=fun ts=>by
  induction ts with
  |nil=>exact ax _
  |cons t ts ih=>
   rw[aY,ao,bQ,N5,lA]
   exact aJ ih (akO t)
 exact au (this ts) (pP 6 h)
theorem ak4{r:Rt}(h:r.ts.length<=8)(σ:AS):bA 6 [eg r] σ=some (.ref σ.next,σ.alloc (.lst ((Ax r).map AV.int))):=by
 have hr: ∃ks:List (AV×List AV),ks.map (·.1)=qP r/\ks.flatMap (·.2)=(Qs r.ren).map AV.int/\ks.length<=1/\ ∀k∈ks,bW k.1=false/\ ∀σ,bA 5 [k.1] σ=some (.ref σ.next,σ.alloc (.lst k.2)):=by
  obtain⟨lv,it,ts,n⟩:=r
  cases n with
  |zero=>exact⟨[],rfl,rfl,aU _,fun _ h=>absurd h bg⟩
  |succ l=>exact⟨[(.frz cp gk (kg (17+j8 1 it) l .opq),[.int 66])],rfl,rfl,ax _,fun k hk=>(aP.mp hk)▸⟨rfl,fun σ=>afm σ⟩⟩
 obtain⟨ks,r1,r2,r3,r4⟩:=hr
 have hf:(r.ts.map (fun t=>(sK t,(ym t).map AV.int))++ks).map (·.1)=DH r.ts++qP r:=by
  rw[bt,r1,gM]
  refine congrArg (· ++qP r) ?_
  induction r.ts with
  |nil=>rfl
  |cons t ts ih=>exact congrArg (sK t:: ·) ih
 have hs:(r.ts.map (fun t=>(sK t,(ym t).map AV.int))++ks).flatMap (·.2)=(r.ts.flatMap ym++Qs r.ren).map AV.int:=by
  rw[kX,r2,bt]
  refine congrArg (· ++(Qs r.ren).map AV.int) ?_
  induction r.ts with
  |nil=>rfl
  |cons t ts ih=>
   show(ym t).map AV.int++(ts.map (fun t=>(sK t,(ym t).map AV.int))).flatMap (·.2)=(ym t++ts.flatMap ym).map AV.int
   rw[ih,bt]
 have hrn:(Qs r.ren).length <=1:=by cases r.ren<;>exact av rfl
 have q:=zJ (n:=5) (lvl:=r.lvl) (l:=r.it) (ks:=r.ts.map (fun t=>(sK t,(ym t).map AV.int))++ks) (p:=.none) (by rw[hf,b8,NR,Vs];rfl) rfl
  (fun k hk=>(cV.mp hk).elim (fun hk=>by
   obtain⟨t,_,rfl⟩:=dD.mp hk
   exact⟨by cases t<;>rfl,fun σ=>ak5 (n:=3) t σ⟩) (r4 k))
  (by rw[hs];exact CW _)
  (by rw[hs,ao,aS,ao];exact au (aJ (uo _ _) (aJ (KY h) hrn)) (by decide))
  (by rw[ao,aS];exact au (aJ h r3) (by decide)) σ
 have e:CL r.lvl r.it++(r.ts.flatMap ym++Qs r.ren).map AV.int=(Ax r).map AV.int:=(bt ..).symm
 rw[hf,hs,e]at q
 exact q
def kH(σ ai:AS):Prop:=σ.next<=ai.next/\ ∀j c,j<σ.next->σ.get j=some c->ai.get j=some c
theorem kH.rfl'{σ:AS}:kH σ σ:=⟨ax _,fun _ _ _ h=>h⟩
theorem kH.trans{a b c:AS}(h:kH a b)(h':kH b c):kH a c:=⟨au h.1 h'.1,fun j x hj hx=>h'.2 j x (fe hj h.1) (h.2 j x hj hx)⟩
theorem kH.alloc{σ:AS}{d:bJ}:kH σ (σ.alloc d):=⟨cR _,fun _ _ hj hx=>dP hx hj⟩
theorem kH.adrop{σ:AS}{d:bJ}:kH σ ((σ.alloc d).drop σ.next):=⟨cR _,fun _ _ hj hx=>by rw[AS.get_drop,if_neg (ct hj)];exact dP hx hj⟩
theorem afl{rs:List (AV×List AV)}{fr:Fm}: ∀{σ:AS},(∀p∈rs,bW p.1=false/\(∀a∈p.2,bW a=false)/\p.2.length<=4000000/\ ∀σ,bA 6 [p.1] σ=some (.ref σ.next,σ.alloc (.lst p.2)))->
  ∃ai,jz 8 (bv (bA 6) (aw (al 8) aI)) 9 (al 9) (rs.map (·.1)) fr σ=some (rs.flatMap (·.2),ai)/\kH σ ai:=by
 induction rs with
 |nil=>exact fun{σ} _=>⟨σ,rfl,kH.rfl'⟩
 |cons p rs ih=>
  intro σ h
  obtain⟨hu,hi,hk,hw⟩:=h p (bf ..)
  have e1:bv (bA 6) (aw (al 8) aI) (put fr 8 p.1) σ=some (.ref σ.next,σ.alloc (.lst p.2)):=by
   simp only[eu,cz,cq,bk,c9,hu,ae,aX,hw]
  have e2:fE (σ.alloc (.lst p.2)) (.ref σ.next)=some (p.2,(σ.alloc (.lst p.2)).drop σ.next):=by
   show bD (ob ((σ.alloc (.lst p.2)).get σ.next) _) _=_
   rw[cn]
   show(bif dC p.2.length then some (p.2,(σ.alloc (.lst p.2)).drop σ.next)else none)=_
   rw[fW hk];rfl
  obtain⟨ai,e4,hK⟩:=ih (σ:=(σ.alloc (.lst p.2)).drop σ.next) fun q hq=>h q (aQ _ hq)
  refine⟨ai,?_,kH.adrop.trans hK⟩
  show bD (bv (bA 6) (aw (al 8) aI) (put fr 8 p.1) σ) (fun s ai=>bD (fE ai s) fun l ay=>bD (eI [9] (fun _ σ=>some (true,σ)) (al 9) l (put fr 8 p.1) ay) fun bs fX=>bD (jz 8 (bv (bA 6) (aw (al 8) aI)) 9 (al 9) (rs.map (·.1)) fr fX) fun cs cM=>some (bs++cs,cM))=_
  rw[e1,aX,e2,aX,agc hi,aX,e4];rfl
def Ni(o:Option Rt):List (AV×List AV):=bo (motive:=fun _=>List (AV×List AV)) [] (fun r=>[(eg r,(Ax r).map AV.int)]) o
theorem VF{o:Option Rt}(h: ∀r,o=some r->r.ts.length<=8):(Ni o).map (·.1)=jn o/\(Ni o).flatMap (·.2)=((o.map Ax).getD []).map AV.int/\ ∀p∈Ni o,bW p.1=false/\(∀a∈p.2,bW a=false)/\p.2.length<=4000000/\ ∀σ,bA 6 [p.1] σ=some (.ref σ.next,σ.alloc (.lst p.2)):=by
 cases o with
 |none=>exact⟨rfl,rfl,fun _ h=>absurd h bg⟩
 |some r=>
  refine⟨rfl,aR _,fun p hp=> ?_⟩
  rw[aP.mp hp]
  refine⟨rfl,fun a ha=> ?_,?_,ak4 (h r rfl)⟩
  ·obtain⟨i,_,rfl⟩:=dD.mp ha
   rfl
  ·have hc:(nS r.it).length <=1:=by unfold nS;cases r.it.c<;>exact av rfl
   have hrn:(Qs r.ren).length <=1:=by cases r.ren<;>exact av rfl
   rw[aS]
   show(am r.lvl::(nS r.it++(r.ts.flatMap ym++Qs r.ren))).length <=4000000
   rw[bQ,ao,ao]
   exact au (be (aJ hc (aJ (KY (h r rfl)) hrn))) (by decide)
theorem jk.fo{d:DS}(h:jk d): ∀r,d.f.map (·.2.2)=some r->r.ts.length<=8:=fun r e=>by
 cases q:d.f with
 |none=>rw[q]at e;exact nn e
 |some x=>
  rw[q]at e
  rw[<- aH e]
  exact(h.f x q).1.ts8
theorem V0{d:DS}(h:jk d){fr:Fm}{σ:AS}(h3:gt fr 3= .lst (ef d)): ∃ai:AS,qL 8 (al 3) 9 (bv (bA 6) (aw (al 8) aI)) (al 9) fr σ=some (.ref ai.next,ai.alloc (.lst ((Cx d).map AV.int)))/\kH σ ai:=by
 obtain⟨a1,a2,a3⟩:=VF h.fo
 obtain⟨b1,b2,b3⟩:=VF h.w.ts
 obtain⟨c1,c2,c3⟩:=VF h.l.ts
 have m1:(((Ni (d.f.map (·.2.2))++Ni d.w)++Ni d.l)).map (·.1)=ef d:=by
  rw[bt,bt,a1,b1,c1];rfl
 have m2:(((Ni (d.f.map (·.2.2))++Ni d.w)++Ni d.l)).flatMap (·.2)=(Cx d).map AV.int:=by
  rw[kX,kX,a2,b2,c2,<- bt,<- bt,aB];rfl
 have all: ∀p∈(Ni (d.f.map (·.2.2))++Ni d.w)++Ni d.l,bW p.1=false/\(∀a∈p.2,bW a=false)/\p.2.length<=4000000/\ ∀σ,bA 6 [p.1] σ=some (.ref σ.next,σ.alloc (.lst p.2)):=fun p hp=>(cV.mp hp).elim (fun hp=>(cV.mp hp).elim (a3 p) (b3 p)) (c3 p)
 obtain⟨ai,e,hK⟩:=afl (fr:=put fr 9 .unb) (σ:=σ) all
 rw[m1,m2]at e
 refine⟨ai,?_,hK⟩
 have e1:al 3 fr σ=some (.lst (ef d),σ):=by rw[bk,h3];rfl
 have hr:(ef d).length <=4000000:=by
  unfold ef fL
  rw[ao,ao]
  exact au (aJ (aJ (rq _) (rq _)) (rq _)) (by decide)
 have hl:(Cx d).length <=4000000:=by
  have ho: ∀o:Option Rt,(∀r,o=some r->r.ts.length<=8)->((o.map Ax).getD []).length <=1000:=fun o h=>by
   cases o with
   |none=>exact aU _
   |some r=>
    have hc:(nS r.it).length <=1:=by unfold nS;cases r.it.c<;>exact av rfl
    have hrn:(Qs r.ren).length <=1:=by cases r.ren<;>exact av rfl
    show(am r.lvl::(nS r.it++(r.ts.flatMap ym++Qs r.ren))).length <=1000
    rw[bQ,ao,ao]
    exact au (be (aJ hc (aJ (KY (h r rfl)) hrn))) (by decide)
  unfold Cx
  rw[ao,ao]
  exact au (aJ (ho _ h.fo) (aJ (ho _ h.w.ts) (ho _ h.l.ts))) (by decide)
 show bD (al 3 fr σ) (fun a ai=>bD (fE ai a) fun l ay=>bD (jz 8 (bv (bA 6) (aw (al 8) aI)) 9 (al 9) l (put fr 9 .unb) ay) fun vs aM=>bif dC vs.length then some (AV.ref aM.next,aM.alloc (.lst vs))else none)=_
 rw[e1,aX,NN hr,aX,e,aX,fW (by rw[aS];exact hl)];rfl
def Mg(h:ac)(o:Option Rt):List (List Nat):=bo (motive:=fun _=>List (List Nat)) [] (fun r=>[h,nT r.lvl]) o
def U6(d:DS):List (List Nat):=bo (motive:=fun _=>List (List Nat)) [] (fun x=>[gV,kq x.2.1,nT x.2.2.lvl]) d.f
def wT(d:DS):List (List Nat):=bif (dX d).isEmpty then[]else jG::((U6 d++Mg my d.w)++Mg pL d.l)
theorem TX{a b:ac}{o:Option Rt}(h:Ki o):mJ (fM (cj a b) o)=(Mg a o).map .str:=by
 cases o with
 |none=>rfl
 |some r=>
  show mJ (cj a b++iu r)=_
  rw[i5,JO,YW (h r rfl)];rfl
theorem akT{d:DS}(h:jk d):mJ (gN d)=(wT d).map .str:=by
 have hf:mJ (je d)=(U6 d).map .str:=by
  obtain⟨f,w,l⟩:=d
  cases f with
  |none=>rfl
  |some x=>
   show mJ (cj gV dg++(cj (kq x.2.1) (et x.1)++iu x.2.2))=_
   rw[i5,i5,JO,JO,YW (h.f x rfl).1];rfl
 have hb:mJ (dX d)=((U6 d++Mg my d.w)++Mg pL d.l).map .str:=by
  unfold dX
  rw[i5,i5,hf,TX h.w,TX h.l,<- bt,<- bt]
 unfold gN wT
 cases (dX d).isEmpty with
 |true=>rfl
 |false=>
  show mJ (cj jG uM++dX d)=_
  rw[i5,JO,hb];rfl
def hW(h:ac)(o:Option Rt):List (List Nat):=bo (motive:=fun _=>List (List Nat)) [] (fun _=>[h]) o
def lW(o:Option Rt):List (List Nat):=bo (motive:=fun _=>List (List Nat)) [] (fun r=>[nT r.lvl]) o
def fdW(d:DS):List (List Nat):=bo (motive:=fun _=>List (List Nat)) [] (fun x=>[kq x.2.1]) d.f
def Al(d:DS):List (List Nat):=((([jG]++hW gV (d.f.map (·.2.2)))++hW my d.w)++hW pL d.l)++fdW d++((lW (d.f.map (·.2.2))++lW d.w)++lW d.l)
theorem akD{d:DS}(h:jk d)(hb:(dX d).isEmpty=false):jR (wT d)=jR (Al d):=by
 have lv: ∀r,oc r->nT r.lvl=[48,49]\/nT r.lvl=[55,55]:=fun r h=>h.top.elim (fun e=>.inl (by rw[e];rfl)) fun e=>.inr (by rw[e];rfl)
 have e:wT d=jG::((U6 d++Mg my d.w)++Mg pL d.l):=by unfold wT;rw[hb];rfl
 rw[e]
 unfold Al
 clear e hb
 obtain⟨hf,hw,hl⟩:=h
 obtain⟨f,w,l⟩:=d
 have kl: ∀{o:Option Rt},Ki o->o.map (fun r=>nT r.lvl)=none\/o.map (fun r=>nT r.lvl)=some [48,49]\/o.map (fun r=>nT r.lvl)=some [55,55]:=by
  intro o h
  cases o with
  |none=>exact .inl rfl
  |some r=>exact .inr ((lv r (h r rfl)).imp (congrArg some) (congrArg some))
 have e1: ∀(a:List Nat) (o:Option Rt),Mg a o=bo (motive:=fun _=>List (List Nat)) [] (fun x=>[a,x]) (o.map fun r=>nT r.lvl):=fun a o=>by cases o<;>rfl
 have e2: ∀(a:List Nat) (o:Option Rt),hW a o=bo (motive:=fun _=>List (List Nat)) [] (fun _=>[a]) (o.map fun r=>nT r.lvl):=fun a o=>by cases o<;>rfl
 have e3: ∀(o:Option Rt),lW o=bo (motive:=fun _=>List (List Nat)) [] (fun x=>[x]) (o.map fun r=>nT r.lvl):=fun o=>by cases o<;>rfl
 have kf:(f=none)\/ ∃o s r,f=some (o,s,r)/\(nT r.lvl=[48,49]\/nT r.lvl=[55,55]):=by
  cases f with
  |none=>exact .inl rfl
  |some x=>exact .inr ⟨x.1,x.2.1,x.2.2,rfl,lv _ (hf x rfl).1⟩
 have kw:=kl hw
 have k3:=kl hl
 rw[e1,e1,e2 my,e2 pL,e3 w,e3 l]
 revert kw k3
 generalize w.map (fun r=>nT r.lvl)=w'
 generalize l.map (fun r=>nT r.lvl)=l'
 intro kw k3
 rcases kf with rfl|⟨o,s,r,rfl,kr⟩
 ·rcases kw with rfl|rfl|rfl<;>rcases k3 with rfl|rfl|rfl<;>rfl
 ·show jR (jG::(([gV,kq s,nT r.lvl]++_)++_))=jR (((([jG]++[gV])++_)++_)++[kq s]++(([nT r.lvl]++_)++_))
  revert kr
  generalize nT r.lvl=x
  intro kr
  cases s<;>rcases kr with rfl|rfl<;>rcases kw with rfl|rfl|rfl<;>rcases k3 with rfl|rfl|rfl<;>rfl
def Yl(σ:AS)(e:EM)(fr:Fm)(l:aa):Prop:= ∃i ai,e fr σ=some (.ref i,ai)/\ai.get i=some (.lst l)/\i<ai.next/\kH σ ai
theorem alf{as:LM}{fr:Fm}{l:aa}{σ:AS}(h:as fr σ=some (l,σ))(hk:l.length<=4000000):Yl σ (bv de as) fr l:=by
 refine⟨σ.next,σ.alloc (.lst l),?_,cn,bT _,kH.alloc⟩
 rw[eu,h,aX]
 show(bif dC l.length then some (AV.ref σ.next,σ.alloc (.lst l))else none)=_
 rw[fW hk];rfl
theorem am3{i j:Nat}{fr:Fm}{σ:AS}{l:aa}(h:gt fr i= .ref j)(g:σ.get j=some (.lst l))(hj:j<σ.next):Yl σ (al i) fr l:=⟨j,σ,by rw[bk,h];rfl,g,hj,kH.rfl'⟩
theorem JR{a b:EM}{fr:Fm}{l m:aa}{σ:AS}(ha:Yl σ a fr l)(hb: ∀ai,kH σ ai->Yl ai b fr m)(hk:l.length+m.length<=4000000):Yl σ (bi (b4 .Add) a b) fr (l++m):=by
 refine Xn (ha) fun i gG e1 g1 l1 k1=> ?_
 refine Xn (hb gG k1) fun j g8 e2 g2 l2 k2=> ?_
 refine⟨g8.next,g8.alloc (.lst (l++m)),?_,cn,bT _,k1.trans (k2.trans kH.alloc)⟩
 rw[jH,e1,aX,e2,aX,IE (k2.2 _ _ l1 g1) g2 hk]
theorem abp{c:BM}{a b:EM}{fr:Fm}{t:Bool}{l m:aa}{σ:AS}(hc: ∃ai,c fr σ=some (t,ai)/\kH σ ai)(ha: ∀σ,Yl σ a fr l)(hb: ∀σ,Yl σ b fr m):Yl σ (td c a b) fr (bif t then l else m):=by
 obtain⟨gG,e1,k1⟩:=hc
 cases t with
 |true=>
  obtain⟨i,g8,e2,g,l2,k2⟩:=ha gG
  exact⟨i,g8,by rw[wE,e1,aX];exact e2,g,l2,k1.trans k2⟩
 |false=>
  obtain⟨i,g8,e2,g,l2,k2⟩:=hb gG
  exact⟨i,g8,by rw[wE,e1,aX];exact e2,g,l2,k1.trans k2⟩
theorem Y0{i:Nat}{it elt:EM}{fr:Fm}{ps:List (AV×AV)}{σ:AS}{a:AV}(e1:it fr σ=some (a,σ))(e2:fE σ a=some (ps.map (·.1),σ))(hl:ps.length<=4000000)(h: ∀p∈ps,∀σ,elt (put fr i p.1) σ=some (p.2,σ)):
  Yl σ (eO [i] it (fun _ σ=>some (true,σ)) elt) fr (ps.map (·.2)):=by
 refine⟨σ.next,σ.alloc (.lst (ps.map (·.2))),?_,cn,bT _,kH.alloc⟩
 show bD (it fr σ) (fun x ai=>bD (fE ai x) fun l ay=>bD (eI [i] (fun _ σ=>some (true,σ)) elt l fr ay) fun vs aM=>bif dC vs.length then some (AV.ref aM.next,aM.alloc (.lst vs))else none)=_
 rw[e1,aX,e2,aX,Hc (i:=i) (elt:=elt) (fr:=fr) (ps:=ps) (σ:=σ) h,aX,fW (by rw[aS];exact hl)];rfl
theorem afc{l:List (List Nat)}:nK (l.map AV.str)=some l:=by
 induction l with
 |nil=>rfl
 |cons a l ih=>
  show ob (nK (l.map AV.str)) (fun l=>some (a::l))=_
  rw[ih];rfl
theorem srt{σ:AS}{i:Nat}{l:List (List Nat)}(h:σ.get i=some (.lst (l.map AV.str)))(hk:l.length<64):qc [.ref i] σ=some (.ref σ.next,σ.alloc (.lst ((jR l).map .str))):=by
 have h1:iR σ (.ref i)=some (l.map AV.str):=jm h
 show ob (iR σ (.ref i)) (fun l=>ob (nK l) fun ss=>bif bz ss.length 64 then some (AV.ref σ.next,σ.alloc (.lst ((jR ss).map .str)))else none)=_
 rw[h1,b9,afc,b9,G8 hk];rfl
theorem adu{n:Nat}{l:aa}(h: ∀a∈l,wC n a a=some true):KL (wC n) l l=some true:=by
 induction l with
 |nil=>rfl
 |cons a l ih=>
  show ob (wC n a a) _=_
  rw[h a (bf ..),b9]
  rw[ih fun b hb=>h b (aQ _ hb)];rfl
theorem abT{σ:AS}{i j:Nat}{l:aa}(hi:σ.get i=some (.lst l))(hj:σ.get j=some (.lst l))(h: ∀a∈l,wC 16 a a=some true):eqA σ (.ref i) (.ref j)=some true:=by
 have h1:iR σ (.ref i)=some l:=jm hi
 have h2:iR σ (.ref j)=some l:=jm hj
 show od (iR σ (.ref i)) (fun l=>ob (iR σ (.ref j)) fun m=>bif rr l m then KL (wC 16) l m else some false) _=_
 rw[h1,anv,h2,b9,show rr l l=true from N4 _]
 exact adu h
theorem afB(s:ac):wC 16 (.str s) (.str s)=some true:=by
 show some (dm s s)=_
 rw[PA]
theorem c26{d:DS}{fr:Fm}{σ:AS}(h0:gt fr 0=bK d): ∃ai,fw (b7 .NotEq) (un (aA 26) (al 0)) FP fr σ=some (d.f.isSome,ai)/\kH σ ai:=by
 refine⟨σ.alloc (.dct [] []),?_,kH.alloc⟩
 have hu:bW (bK d)=false:=rfl
 have a26: ∀σ,aA 26 (bK d) σ=some (.dct (RP d) (PD d)):=fun _=>rfl
 have ed:FP fr σ=some (.ref σ.next,σ.alloc (.dct [] [])):=rfl
 have h1:Pn (σ.alloc (.dct [] [])) (.ref σ.next)=some []:=(show ob ((σ.alloc (.dct [] [])).get σ.next) _=_ by rw[cn];rfl)
 have ne:b7 .NotEq (.dct (RP d) (PD d)) (.ref σ.next) (σ.alloc (.dct [] []))=some d.f.isSome:=by
  show ob (ob (Pn (σ.alloc (.dct [] [])) (.ref σ.next)) fun ks'=>bif ks'.isEmpty then some (RP d).isEmpty else none) (fun b=>some !b)=_
  rw[h1]
  obtain⟨f,w,l⟩:=d
  cases f<;>rfl
 simp only[fD,gn,bk,h0,hu,ae,aX,a26,b9,ed,ne]
theorem anf{d:DS}{k:Nat}{o:Option Rt}{fr:Fm}{σ:AS}(h0:gt fr 0=bK d)(ak: ∀σ,aA k (bK d) σ=some (.lst (jn o))): ∃ai,fw (b7 .NotEq) (un (aA k) (al 0)) (bv de aI) fr σ=some (o.isSome,ai)/\kH σ ai:=by
 refine⟨σ.alloc (.lst []),?_,kH.alloc⟩
 have hu:bW (bK d)=false:=rfl
 have ne:b7 .NotEq (.lst (jn o)) (.ref σ.next) (σ.alloc (.lst []))=some o.isSome:=by
  show Tt (b7 .Eq (.lst (jn o)) (.ref σ.next) (σ.alloc (.lst [])))=_
  rw[IT cn]
  cases o<;>rfl
 simp only[fD,gn,bk,h0,hu,ae,aX,ak,b9,eu,cq,pi,ne]
def Z4:EM:=bi (b4 .Add) (bi (b4 .Add) (bi (b4 .Add) (bv de (aw (ba (.str [68,65,84,65])) aI)) (td (fw (b7 .NotEq) (un (aA 26) (al 0)) FP) (bv de (aw (ba (.str [70,73,76,69])) aI)) (bv de aI))) (td (fw (b7 .NotEq) (un (aA 24) (al 0)) (bv de aI)) (bv de (aw (ba (.str [87,79,82,75,73,78,71,45,83,84,79,82,65,71,69])) aI)) (bv de aI))) (td (fw (b7 .NotEq) (un (aA 25) (al 0)) (bv de aI)) (bv de (aw (ba (.str [76,73,78,75,65,71,69])) aI)) (bv de aI))
def KN(d:DS):List (List Nat):=(([jG]++hW gV (d.f.map (·.2.2)))++hW my d.w)++hW pL d.l
theorem Z6{d:DS}{fr:Fm}{σ:AS}(h0:gt fr 0=bK d):Yl σ Z4 fr ((KN d).map .str):=by
 have m0: ∀σ,Yl σ (bv de aI) fr []:=fun σ=>alf rfl (aU _)
 have m1: ∀s σ,Yl σ (bv de (aw (ba (.str s)) aI)) fr [.str s]:=fun s σ=>alf rfl (av rfl)
 have le: ∀(t:Bool) (s:List Nat),(bif t then[AV.str s]else[]).length <=1:=fun t s=>by cases t<;>exact av rfl
 have y1:=JR (m1 [68,65,84,65] σ) (fun ai _=>abp (c26 (σ:=ai) h0) (m1 [70,73,76,69]) m0) (au (dz (le _ _) 1) (by decide))
 have y2:=JR y1 (fun ai _=>abp (anf (k:=24) (o:=d.w) (σ:=ai) h0 fun _=>rfl) (m1 [87,79,82,75,73,78,71,45,83,84,79,82,65,71,69]) m0) (by rw[ao];exact au (aJ (dz (le _ _) 1) (le _ _)) (by decide))
 have y3:=JR y2 (fun ai _=>abp (anf (k:=25) (o:=d.l) (σ:=ai) h0 fun _=>rfl) (m1 [76,73,78,75,65,71,69]) m0) (by rw[ao,ao];exact au (aJ (aJ (dz (le _ _) 1) (le _ _)) (le _ _)) (by decide))
 have e:(KN d).map AV.str=(([AV.str [68,65,84,65]]++bif d.f.isSome then[AV.str [70,73,76,69]]else[])++bif d.w.isSome then[AV.str [87,79,82,75,73,78,71,45,83,84,79,82,65,71,69]]else[])++bif d.l.isSome then[AV.str [76,73,78,75,65,71,69]]else[]:=by
  obtain⟨f,w,l⟩:=d
  cases f<;>cases w<;>cases l<;>rfl
 rw[e];exact y3
def fdE:EM:=eO [12] (un (aA 26) (al 0)) (fun _ σ=>some (true,σ)) (td (fw (b7 .In) (al 12) (un (aA 27) (al 0))) (ba (.str [83,68])) (ba (.str [70,68])))
def aap:EM:=eO [13] (al 3) (fun _ σ=>some (true,σ)) (bi fV (bv (Hs [1,77]) (aw (ba (.str [48,49])) (aw (ba (.str [55,55])) aI))) (un (aA 20) (al 13)))
def ank(d:DS):List (AV×AV):=bo (motive:=fun _=>List (AV×AV)) [] (fun x=>[(.str (et x.1),.str (kq x.2.1))]) d.f
def lvP(o:Option Rt):List (AV×AV):=bo (motive:=fun _=>List (AV×AV)) [] (fun r=>[(eg r,.str (nT r.lvl))]) o
def To(d:DS):List (AV×AV):=(lvP (d.f.map (·.2.2))++lvP d.w)++lvP d.l
theorem alC{d:DS}{fr:Fm}{σ:AS}(h0:gt fr 0=bK d):Yl σ fdE fr ((fdW d).map .str):=by
 have hu:bW (bK d)=false:=rfl
 obtain⟨f,w,l⟩:=d
 have a26: ∀σ,aA 26 (bK ⟨f,w,l⟩) σ=some (.dct (RP ⟨f,w,l⟩) (PD ⟨f,w,l⟩)):=fun _=>rfl
 have e1:un (aA 26) (al 0) fr σ=some (.dct (RP ⟨f,w,l⟩) (PD ⟨f,w,l⟩),σ):=by simp only[gn,bk,h0,hu,ae,aX,a26,b9]
 have e2:fE σ (.dct (RP ⟨f,w,l⟩) (PD ⟨f,w,l⟩))=some ((ank ⟨f,w,l⟩).map (·.1),σ):=by cases f<;>rfl
 have e3:(fdW ⟨f,w,l⟩).map AV.str=(ank ⟨f,w,l⟩).map (·.2):=by cases f<;>rfl
 rw[e3]
 refine Y0 e1 e2 (by cases f<;>exact av rfl) ?_
 cases f with
 |none=>exact fun _ h=>absurd h bg
 |some x=>
  obtain⟨o,s,r⟩:=x
  intro p hp σ
  rw[show p=(.str (et o),.str (kq s)) from aP.mp hp]
  have g0:gt (put fr 12 (.str (et o))) 0=bK ⟨some (o,s,r),w,l⟩:=(fR rfl).trans h0
  have a27: ∀σ,aA 27 (bK ⟨some (o,s,r),w,l⟩) σ=some (.lst (bif s then[.str (et o)]else[])):=fun _=>rfl
  simp only[wE,fD,gn,bk,g0,c9,hu,mU,ae,aX,a27,b9,aae,d6]
  cases s<;>rfl
theorem aaq(o:Option Rt):(lvP o).map (·.1)=jn o/\(lvP o).map (·.2)=(lW o).map AV.str/\(lvP o).length <=1:=by
 cases o with
 |none=>exact⟨rfl,rfl,aU _⟩
 |some r=>exact⟨rfl,rfl,ax _⟩
theorem jk.fok{d:DS}(h:jk d):Ki (d.f.map (·.2.2)):=fun r e=>by
 cases q:d.f with
 |none=>rw[q]at e;exact nn e
 |some x=>
  rw[q]at e
  rw[<- aH e]
  exact(h.f x q).1
theorem Vm{o:Option Rt}(h:Ki o){fr:Fm}: ∀p∈lvP o,∀σ,bi fV (bv (Hs [1,77]) (aw (ba (.str [48,49])) (aw (ba (.str [55,55])) aI))) (un (aA 20) (al 13)) (put fr 13 p.1) σ=some (p.2,σ):=by
 cases o with
 |none=>exact fun _ h=>absurd h bg
 |some r=>
  intro p hp σ
  rw[show p=(eg r,.str (nT r.lvl)) from aP.mp hp]
  have hu:bW (eg r)=false:=rfl
  have a20: ∀σ,aA 20 (eg r) σ=some (.int (am r.lvl)):=fun _=>rfl
  have md: ∀a b σ,Hs [1,77] [a,b] σ=some (.dcti [1,77] [a,b],σ):=fun _ _ _=>rfl
  have ix: ∀σ,fV (.dcti [1,77] [.str [48,49],.str [55,55]]) (.int (am r.lvl)) σ=some (.str (nT r.lvl),σ):=fun σ=>by
   rcases(h r rfl).top with e|e<;>rw[e]<;>rfl
  simp only[jH,eu,cz,cq,d6,aX,md,gn,bk,c9,hu,ae,a20,b9,ix]
theorem amg{d:DS}(h:jk d){fr:Fm}{σ:AS}(h3:gt fr 3= .lst (ef d)):Yl σ aap fr (((lW (d.f.map (·.2.2))++lW d.w)++lW d.l).map .str):=by
 refine ud (aaq (d.f.map (·.2.2))) fun a1 a2 a3=> ?_
 refine ud (aaq d.w) fun b1 b2 b3=> ?_
 refine ud (aaq d.l) fun c1 c2 c3=> ?_
 have m1:(To d).map (·.1)=ef d:=by unfold To;rw[bt,bt,a1,b1,c1];rfl
 have m2:((lW (d.f.map (·.2.2))++lW d.w)++lW d.l).map AV.str=(To d).map (·.2):=by unfold To;rw[bt,bt,bt,bt,a2,b2,c2]
 have hk:(To d).length <=4000000:=by
  unfold To;rw[ao,ao];exact au (aJ (aJ a3 b3) c3) (by decide)
 have e1:al 3 fr σ=some (.lst (ef d),σ):=by rw[bk,h3];rfl
 rw[m2]
 refine Y0 e1 (by rw[m1];refine NN ?_;rw[<- m1,aS];exact hk) hk ?_
 exact fun p hp=>(cV.mp hp).elim (fun hp=>(cV.mp hp).elim (Vm h.fok p) (Vm h.w p)) (Vm h.l p)
theorem ab3(d:DS):(Al d).map AV.str=((KN d).map .str++(fdW d).map .str)++((lW (d.f.map (·.2.2))++lW d.w)++lW d.l).map .str:=by
 unfold Al KN
 rw[bt,bt]
theorem anR(d:DS):(KN d).length <=4/\(fdW d).length <=1/\((lW (d.f.map (·.2.2))++lW d.w)++lW d.l).length <=3/\(wT d).length <=8:=by
 obtain⟨f,w,l⟩:=d
 refine⟨?_,?_,?_,?_⟩
 ·cases f<;>cases w<;>cases l<;>exact av rfl
 ·cases f<;>exact av rfl
 ·cases f<;>cases w<;>cases l<;>exact av rfl
 ·unfold wT
  cases (dX ⟨f,w,l⟩).isEmpty
  ·cases f<;>cases w<;>cases l<;>exact av rfl
  ·exact aU _
def akE:BM:=fw (b7 .NotEq) (bv qc (aw (al 5) aI)) (bv qc (aw (bi (b4 .Add) (bi (b4 .Add) (al 4) fdE) aap) aI))
theorem akF{d:DS}(h:jk d)(hb:(dX d).isEmpty=false){fr:Fm}{σ:AS}{i j:Nat}(h0:gt fr 0=bK d)(h3:gt fr 3= .lst (ef d))(h4:gt fr 4= .ref i)(h5:gt fr 5= .ref j)
  (gi:σ.get i=some (.lst ((KN d).map .str)))(li:i<σ.next)(gj:σ.get j=some (.lst ((wT d).map .str))): ∃ai,akE fr σ=some (false,ai):=by
 refine Xm (anR d) fun k1 k2 k3 k4=> ?_
 have s1:=srt gj (fc k4 (by decide))
 have y1:Yl (σ.alloc (.lst ((jR (wT d)).map .str))) (bi (b4 .Add) (bi (b4 .Add) (al 4) fdE) aap) fr ((Al d).map .str):=by
  rw[ab3]
  refine JR (JR (am3 h4 (dP gi li) (cN li)) (fun ai _=>alC h0) ?_) (fun ai _=>amg h h3) ?_
  ·rw[aS,aS];exact au (aJ k1 k2) (by decide)
  ·rw[ao,aS,aS,aS];exact au (aJ (aJ k1 k2) k3) (by decide)
 refine Xn (y1) fun x g8 e2 g2 l2 K2=> ?_
 have kx:(Al d).length <64:=by
  have:((Al d).map AV.str).length=(Al d).length:=aS ..
  rw[<- this,ab3,ao,ao,aS,aS,aS]
  exact fc (aJ (aJ k1 k2) k3) (by decide)
 have s2:=srt g2 kx
 have gf:(g8.alloc (.lst ((jR (Al d)).map .str))).get σ.next=some (.lst ((jR (Al d)).map .str)):=by
  have h6:=K2.2 σ.next _ (bT _) cn
  rw[akD h hb]at h6
  exact dP h6 (fe (bT _) K2.1)
 have cm:b7 .NotEq (.ref σ.next) (.ref g8.next) (g8.alloc (.lst ((jR (Al d)).map .str)))=some false:=by
  show ob (eqA _ (.ref σ.next) (.ref g8.next)) (fun b=>some (!b))=_
  rw[abT gf cn fun a ha=>by
   obtain⟨s,_,rfl⟩:=dD.mp ha
   exact afB s]
  rfl
 refine⟨g8.alloc (.lst ((jR (Al d)).map .str)),?_⟩
 unfold akE
 simp only[fD,eu,cz,cq,bk,h5,fq,ae,aX,s1,e2,s2,cm,b9]
def akS:EM:=eO [14] (al 1) (jh (un (aA 28) (al 14))) (un (aA 1) (al 14))
def anl:EM:=eO [11] (bv lE (aw (bv eV (aw (al 1) aI)) aI)) tf (bi fV (al 1) (al 11))
def anr:EM:=eO [10] (al 6) (fw (b7 .Eq) (un (aA 2) (al 10)) (ba (.str [110,117,109,98,101,114]))) (bv tV (aw (un (aA 1) (al 10)) aI))
def ak3:EM:=qL 8 (al 3) 9 (bv (bA 6) (aw (al 8) aI)) (al 9)
def Pv:SM:=sb (fw (b7 .Eq) (al 3) (bv de aI)) (aV (eK (rT (fw (b7 .Eq) (al 1) (bv de aI)))) br) br
def aa9:SM:=aV (cT [4] Z4) (aV (cT [5] akS) (aV (sb akE (aV (fun _ _=>none) br) br) (aV (cT [6] anl) (aV (cT [7] anr) (aV (eK (rT (fw (b7 .Eq) (al 7) ak3))) br)))))
theorem anF{a b r:SM}{fr fr':Fm}{σ ai:AS}(h:aV a b fr σ=some (.next fr' ai)):aV a (aV b r) fr σ=r fr' ai:=by
 have h:ob (a fr σ) (gU b)=_:=h
 show ob (a fr σ) (gU (aV b r))=_
 revert h
 cases a fr σ with
 |none=>exact fun h=>nn h
 |some o=>
  cases o with
  |next f s=>
   intro h
   have h:b f s=_:=h
   show ob (b f s) (gU r)=_
   rw[h];rfl
  |ret x s=>exact fun h=>j9.noConfusion (aH h)
  |brk x s=>exact fun h=>j9.noConfusion (aH h)
  |cont x s=>exact fun h=>j9.noConfusion (aH h)
theorem aqN{a b c r:SM}{fr fr':Fm}{σ ai:AS}(h:aV a (aV b c) fr σ=some (.next fr' ai)):aV a (aV b (aV c r)) fr σ=r fr' ai:=by
 have e:aV a (aV b (aV c r)) fr σ=aV a (aV (aV b c) r) fr σ:=by
  show ob (a fr σ) (gU (aV b (aV c r)))=ob (a fr σ) (gU (aV (aV b c) r))
  refine congrArg (ob (a fr σ)) (funext fun o=> ?_)
  cases o with
  |next f s=>
   show ob (b f s) (gU (aV c r))=ob (ob (b f s) (gU c)) (gU r)
   cases b f s with
   |none=>rfl
   |some o=>cases o<;>rfl
  |ret x s=>rfl
  |brk x s=>rfl
  |cont x s=>rfl
 rw[e];exact anF h
theorem ajx(d:DS):(ef d).isEmpty=(dX d).isEmpty:=by
 obtain⟨f,w,l⟩:=d
 cases f<;>cases w<;>cases l<;>rfl
theorem afd{d:DS}(h:jk d)(hb:(dX d).isEmpty=false){x:Nat}(σ:AS): ∃ai,aa9 [bK d,.lst (gN d),.ref x,.lst (ef d)] σ=some (.ret (.bool true) ai):=by
 have hk:(gN d).length <=99999:=au (Xl h) (by decide)
 obtain⟨i,gG,e1,g1,l1,-⟩:=Z6 (d:=d) (fr:=[bK d,.lst (gN d),.ref x,.lst (ef d)]) (σ:=σ) rfl
 have e2:=abe (abb (d:=d)) (au hk (by decide)) (fr:=[bK d,.lst (gN d),.ref x,.lst (ef d),.ref i]) (σ:=gG) rfl
 rw[akT h]at e2
 obtain⟨qz,e3⟩:=akF h hb (fr:=[bK d,.lst (gN d),.ref x,.lst (ef d),.ref i,.ref gG.next]) (σ:=gG.alloc (.lst ((wT d).map .str))) rfl rfl rfl rfl (dP g1 l1) (cN l1) cn
 have e4:=U7 (abb (d:=d)) hk (fr:=[bK d,.lst (gN d),.ref x,.lst (ef d),.ref i,.ref gG.next]) (σ:=qz) rfl
 obtain⟨gd,lv⟩:=an3 h
 have hf:(jZ true (gN d)).length <=4000000:=by
  have fl: ∀(T:List AV) (p:Bool),(jZ p T).length <=T.length:=fun T=>by
   induction T with
   |nil=>exact fun _=>ax _
   |cons t T ih=>
    intro p
    cases p with
    |true=>exact be (ih _)
    |false=>exact mL (ih _)
  exact au (fl _ _) (au hk (by decide))
 have e5:=Vj (abb (d:=d)) gd (fr:=[bK d,.lst (gN d),.ref x,.lst (ef d),.ref i,.ref gG.next,.ref qz.next]) (σ:=qz.alloc (.lst (jZ true (gN d)))) rfl cn hf
 rw[lv]at e5
 generalize aq1:(qz.alloc (.lst (jZ true (gN d)))).drop qz.next=V6 at e5
 refine eX (V0 h (fr:=[bK d,.lst (gN d),.ref x,.lst (ef d),.ref i,.ref gG.next,.ref qz.next,.ref V6.next]) (σ:=V6.alloc (.lst ((Cx d).map AV.int))) rfl) fun Y2 e6 K6=> ?_
 have g7:=K6.2 V6.next _ (bT _) cn
 have e7:b7 .Eq (.ref V6.next) (.ref Y2.next) (Y2.alloc (.lst ((Cx d).map AV.int)))=some true:=by
  show eqA _ (.ref V6.next) (.ref Y2.next)=_
  refine abT (dP g7 (fe (bT _) K6.1)) cn fun a ha=> ?_
  obtain⟨n,_,rfl⟩:=dD.mp ha
  exact SX (a:=.int n) rfl
 have e1:Z4 [bK d,.lst (gN d),.ref x,.lst (ef d)] σ=_:=e1
 have e2:akS [bK d,.lst (gN d),.ref x,.lst (ef d),.ref i] gG=_:=e2
 have e4:anl [bK d,.lst (gN d),.ref x,.lst (ef d),.ref i,.ref gG.next] qz=_:=e4
 have e5:anr [bK d,.lst (gN d),.ref x,.lst (ef d),.ref i,.ref gG.next,.ref qz.next] (qz.alloc (.lst (jZ true (gN d))))=_:=e5
 have e6:ak3 [bK d,.lst (gN d),.ref x,.lst (ef d),.ref i,.ref gG.next,.ref qz.next,.ref V6.next] (V6.alloc (.lst ((Cx d).map AV.int)))=_:=e6
 refine⟨Y2.alloc (.lst ((Cx d).map AV.int)),?_⟩
 unfold aa9
 simp only[dk,fH,e1,e2,e3,e4,e5,e6,e7,aX,b9,dF,dI,sA,sB,putN,j6,ae,fJ,ek,wI,fD,bk,pd,kI,fq]
theorem L9{d:DS}(h:jk d){lab:List AV->List AV}(hl:lab (gN d)=Ps d)(σ:AS): ∃ai,bn 1 [] (gy lab) [bK d] σ=some (.bool true,ai):=by
 refine ap5 (amB h hl σ) fun gG x e1=> ?_
 obtain⟨g8,e2⟩:=amC (d:=d) (T:=.lst (gN d)) (x:=x) gG rfl
 have body: ∃ai,gy lab [bK d] σ=some (.ret (.bool true) ai):=by
  have q1:gy lab [bK d] σ=aV (cT [3] (bi (b4 .Add) (bi (b4 .Add) (qL 15 (un (aA 26) (al 0)) 16 (bi fV (un (aA 26) (al 0)) (al 15)) (al 16)) (un (aA 24) (al 0))) (un (aA 25) (al 0)))) (aV (Qy 3) (aV Pv aa9)) [bK d,.lst (gN d),.ref x] gG:=aqN e1
  rw[q1,anF e2]
  have ee:fw (b7 .Eq) (al 3) (bv de aI) [bK d,.lst (gN d),.ref x,.lst (ef d)] g8=some ((dX d).isEmpty,g8.alloc (.lst [])):=by
   have hu:bW (.lst (ef d))=false:=rfl
   simp only[fD,bk,pd,kI,hu,ae,aX,eu,cq,pi,IT (σ:=g8.alloc (.lst [])) (l:=ef d) cn,b9,ajx]
  cases z:(dX d).isEmpty with
  |true=>
   have hT:gN d=[]:=by unfold gN;rw[z];rfl
   have hu:bW (.lst (gN d))=false:=rfl
   have e9:fw (b7 .Eq) (al 1) (bv de aI) [bK d,.lst (gN d),.ref x,.lst (ef d)] (g8.alloc (.lst []))=some (true,(g8.alloc (.lst [])).alloc (.lst [])):=by
    simp only[fD,bk,pd,kI,hu,ae,aX,eu,cq,pi,IT (σ:=(g8.alloc (.lst [])).alloc (.lst [])) (l:=gN d) cn,b9]
    rw[hT];rfl
   rw[z]at ee
   refine⟨(g8.alloc (.lst [])).alloc (.lst []),?_⟩
   unfold Pv
   simp only[dk,j6,ee,aX,af,ek,wI,e9,b9,dI]
  |false=>
   rw[z]at ee
   obtain⟨ai,e⟩:=afd (x:=x) h z (g8.alloc (.lst []))
   refine⟨ai,?_⟩
   unfold Pv
   simp only[dk,j6,ee,aX,ae,fJ,b9,dF,e]
 obtain⟨ai,e⟩:=body
 refine⟨ai,?_⟩
 show ob (gy lab [bK d] σ) ir=_
 rw[e];rfl
theorem aao{d:DS}(h:jk d){lab:List AV->List AV}(hl:lab (gN d)=Ps d)(σ:AS): ∃ai,eL lab [bK d] σ=some (.bool true,ai):=by
 have e:eL lab [bK d] σ=bn 1 [] (gy lab) [bK d] σ:=by
  show pr (pT (jJ 14) [bK d] σ) (fun args' ai=>bn 1 [] (gy lab) args' ai)=_
  rw[show pT (jJ 14) [bK d] σ=([bK d],σ) from Qf KW];rfl
 rw[e];exact L9 h hl σ
def Yx(n lvl:Nat)(code:ac):AV:=.frz cp gk (.int (am n)::Dm (Bg (lvl::code)))
noncomputable def mY(n lv lvl:Nat)(code:ac)(z:aa):AV:=.frz 0 (9::n::lv::lvl::code) z
def drO(L:aa):Option (AV×Nat×List AV):=bD (qE [.ref 0] ⟨1,[(0,.orc 0 L)]⟩) fun a σ=>sz σ 0 fun k l=>some (a,k,l)
def drF(a b:Nat)(c:ac)(z:aa)(f:Option (Bool×Bool)):List AV:=bo (motive:=fun _=>List AV) [m2 3 1] (fun x=>[m2 3 (bif x.1 then 2 else 0),mY (bif x.1 then 1 else 0) a b c z,m2 2 (bif x.2 then 0 else 1)]) f
def drW(a b:Nat)(c:ac)(z:aa)(w:Option Bool):List AV:=bo (motive:=fun _=>List AV) [m2 3 2] (fun v=>[m2 3 (bif v then 1 else 0),mY (bif v then 3 else 2) a b c z]) w
def Yn{α β:Type}(o:Option α)(f:α->List β):List β:=bo (motive:=fun _=>List β) [] f o
theorem drX(a b:Nat)(c:ac)(z:aa)(a' b':Nat)(c':ac)(z':aa)(a'' b'':Nat)(c'':ac)(z'':aa)(f:Option (Bool×Bool))(w:Option Bool)(k:Bool):
  drO (drF a b c z f++(drW a' b' c' z' w++[mY 4 a'' b'' c'' z'',m2 2 (bif k then 0 else 1)]))=some (Er (Yn w fun _=>[Yx a' b' c']) (bif k then[]else[Yx a'' b'' c'']) (Yn f fun x=>[et x.1]) (Yn f fun _=>[.lst [Yx 1 b c]]) (Yn f fun x=>bif x.2 then[.str (et x.1)]else[]),0,[]):=by
 rcases f with _|⟨_|_,_|_⟩<;>rcases w with _|_|_<;>cases k<;>kernel_rfl
noncomputable def ZS:FD->Option (Bool×Bool×Rt)
 | .none=>none
 | .one o rd s=>some (o,CK s,jC (fnI o) rd)
noncomputable def dsW:WD->Option Rt
 | .none=>none
 | .one v rd=>some (jC (wnI v) rd)
noncomputable def ago(x:DD):DS:=⟨ZS x.f,dsW x.w,bif CK x.k then none else some (jC 4 x.l)⟩
def TA(rd:RD):Prop:=CY rd/\T0 rd<5
theorem Jo(b:Int):TA (Bh b).1:=by
 refine⟨(K5 (b:=b) (r:=[]) trivial).2,?_⟩
 unfold Bh
 cases hU 4 b with
 |zero=>exact hJ _
 |succ a=>
  show T0 (match sJ (hU 3 (bU 4 (bU 5 (bU 4 b)))) (bU 3 (bU 4 (bU 5 (bU 4 b))))with
   |(ts,b')=>_:RD×Int).1<5
  obtain⟨ts,b'⟩:=sJ (hU 3 (bU 4 (bU 5 (bU 4 b)))) (bU 3 (bU 4 (bU 5 (bU 4 b))))
  show T0 (match hU 4 b' with
   |0=>(RD.recR a (hU 5 (bU 4 b)) (hU 4 (bU 5 (bU 4 b))) ts (hU 2 (bU 4 b')),bU 2 (bU 4 b'))
   |q+1=>(RD.std a (hU 5 (bU 4 b)) (hU 4 (bU 5 (bU 4 b))) ts q,bU 4 b')).1<5
  cases hU 4 b'<;>exact mo (by decide) _
structure afo(x:DD):Prop where
 f: ∀o rd s,x.f= .one o rd s->TA rd/\s<2
 w: ∀v rd,x.w= .one v rd->TA rd
 l:TA x.l
 k:x.k<2
theorem NJ{o o2:Bool}{a a2:RD}{s s2:Nat}(h:FD.one o a s=FD.one o2 a2 s2):a=a2/\s=s2:=by cases h;exact⟨rfl,rfl⟩
theorem acM{o o2:Bool}{a a2:RD}(h:WD.one o a=WD.one o2 a2):a=a2:=by cases h;rfl
theorem abU(b:Int):afo (Pp b):=by
 refine⟨fun o rd s h=> ?_,fun v rd h=> ?_,Jo _,mo (by decide) _⟩
 ·have h:(IU b).1= .one o rd s:=h
  unfold IU at h
  revert h
  cases hU 3 b with
  |zero=>exact fun h=>(NJ h).1▸(NJ h).2▸⟨Jo _,mo (by decide) _⟩
  |succ n=>cases n with
   |zero=>exact fun h=>FD.noConfusion h
   |succ n=>exact fun h=>(NJ h).1▸(NJ h).2▸⟨Jo _,mo (by decide) _⟩
 ·have h:(QY (IU b).2).1= .one v rd:=h
  unfold QY at h
  revert h
  cases hU 3 (IU b).2 with
  |zero=>exact fun h=>acM h▸Jo _
  |succ n=>cases n with
   |zero=>exact fun h=>acM h▸Jo _
   |succ n=>exact fun h=>WD.noConfusion h
theorem YV(n:Nat)(ts:List TD):(HM n ts).length=ts.length:=by
 induction ts with
 |nil=>rfl
 |cons t ts ih=>exact congrArg nM ih
theorem aow{n:Nat}(hn:n<2):PY 77 n=1:=by
 cases n with
 |zero=>rfl
 |succ n=>cases n with
  |zero=>rfl
  |succ n=>exact absurd hn (ci.mpr (be (be (aU _))))
theorem VI{n:Nat}{rd:RD}(hn:n<5)(h:TA rd):oc (jC n rd):=by
 obtain⟨h1,h2⟩:=h
 cases rd with
 |alone l=>
  refine⟨?_,fun h=>absurd rfl h⟩
  have: ∀n:Nat,Yj ⟨PY 77 n,Tl (PY 77 n) n l,[],0⟩=true:=fun n=>by
   unfold PY
   cases aj 77 77&&cX n 1<;>rfl
  exact this n
 |std a d e ts q=>
  refine⟨?_,fun h=>absurd rfl h⟩
  show cX (HM n ts).length 2=true
  rw[YV];exact gq h1.1
 |recR a d e ts l=>
  refine⟨?_,fun _=> ?_⟩
  ·show cX (HM n ts).length 2=true
   rw[YV];exact gq h1.1
  ·show(kd 1 (Fl 1 n (mV d) 3)).1<5
   rw[XR hn (show d<5 from h2)];exact hn
theorem ajA{n:Nat}{rd:RD}(hn:1<n):(jC n rd).lvl=RX rd:=by
 cases rd with
 |alone l=>
  show PY 77 n=77
  unfold PY
  rw[show cX n 1=false from EQ.mpr fun h=>absurd (av h) (yK.mpr hn)]
  rfl
 |_=>rfl
theorem ajz{n:Nat}{rd:RD}(hn:n<2):(jC n rd).lvl=1:=by
 cases rd with
 |alone l=>exact aow hn
 |_=>rfl
theorem VH{n:Nat}{rd:RD}{m:Nat}(hn:n<5)(h:TA rd)(hm:m=(jC n rd).lvl):Yx m (jC n rd).lvl (xI (jC n rd))=eg (jC n rd):=by
 rw[hm];exact VG (VI hn h).ts8
theorem aoA{s:Nat}(h:s<2){P:Nat->Prop}(h0:P 0)(h1:P 1):P s:=by
 cases s with
 |zero=>exact h0
 |succ s=>cases s with
  |zero=>exact h1
  |succ s=>exact absurd h (ci.mpr (be (be (aU _))))
theorem agp{x:DD}(h:afo x):jk (ago x):=by
 obtain⟨f,w,l,k⟩:=x
 refine⟨fun y e=> ?_,fun r e=> ?_,fun r e=> ?_⟩
 ·cases f with
  |none=>exact nn e
  |one o rd s=>
   rw[<- aH e]
   have:fnI o<2:=by cases o<;>decide
   exact⟨VI (fe this (by decide)) (h.f o rd s rfl).1,ajz this⟩
 ·cases w with
  |none=>exact nn e
  |one v rd=>
   rw[<- aH e]
   exact VI (by cases v<;>decide) (h.w v rd rfl)
 ·have e:(bif CK k then none else some (jC 4 l))=some r:=e
  cases z:CK k with
  |true=>rw[z]at e;exact nn e
  |false=>
   rw[z]at e
   rw[<- aH e]
   exact VI (by decide) h.l
theorem bit{s:Nat}(h:s<2):s=bif CK s then 0 else 1:=aoA (P:=fun s=>s=bif CK s then 0 else 1) h rfl rfl
theorem aps(b:Bool)(r:Rt):jn (bif b then none else some r)=bif b then[]else[eg r]:=by cases b<;>rfl
theorem ap2{x:DD}(h:afo x):drO (ddM x)=some (bK (ago x),0,[]):=by
 obtain⟨f,w,l,k⟩:=x
 have hl:=VH (n:=4) (by decide) h.l (ajA (n:=4) (by decide)).symm
 have hk:m2 2 k=m2 2 (bif CK k then 0 else 1):=congrArg (m2 2) (bit h.k)
 have hw: ∃a b c z w',wdM w=drW a b c z w'/\jn (dsW w)=Yn w' fun _=>[Yx a b c]:=by
  cases w with
  |none=>exact⟨0,0,[],[],none,rfl,rfl⟩
  |one v rd=>
   refine⟨RX rd,(jC (wnI v) rd).lvl,xI (jC (wnI v) rd),[.frz 0 (Jn rd) []],some v,by cases v<;>rfl,?_⟩
   show[eg (jC (wnI v) rd)]=[Yx _ _ _]
   rw[VH (by cases v<;>decide) (h.w v rd rfl) (ajA (by cases v<;>decide)).symm]
 have hf: ∃a b c z f',fdM f=drF a b c z f'/\RP ⟨ZS f,none,none⟩=(Yn f' fun x=>[et x.1])/\PD ⟨ZS f,none,none⟩=(Yn f' fun _=>[.lst [Yx 1 b c]])/\fSo ⟨ZS f,none,none⟩=Yn f' fun x=>bif x.2 then[.str (et x.1)]else[]:=by
  cases f with
  |none=>exact⟨0,0,[],[],none,rfl,rfl,rfl,rfl⟩
  |one o rd s=>
   obtain⟨h1,h2⟩:=h.f o rd s rfl
   refine⟨RX rd,(jC (fnI o) rd).lvl,xI (jC (fnI o) rd),[.frz 0 (Jn rd) []],some (o,CK s),?_,rfl,?_,rfl⟩
   ·show _=[_,_,m2 2 (bif CK s then 0 else 1)]
    rw[<- bit h2]
    cases o<;>rfl
   ·show[AV.lst [eg (jC (fnI o) rd)]]=[AV.lst [Yx 1 _ _]]
    rw[VH (by cases o<;>decide) h1 (ajz (by cases o<;>decide)).symm]
 obtain⟨a',b',c',z',w',w1,w2⟩:=hw
 obtain⟨a,b,c,z,f',f1,f2,f3,f4⟩:=hf
 show drO (fdM f++(wdM w++[mY 4 (RX l) (jC 4 l).lvl (xI (jC 4 l)) [.frz 0 (Jn l) []],m2 2 k]))=some (Er (jn (dsW w)) (jn (bif CK k then none else some (jC 4 l))) (RP ⟨ZS f,none,none⟩) (PD ⟨ZS f,none,none⟩) (fSo ⟨ZS f,none,none⟩),0,[])
 rw[hk,f1,w1,w2,f2,f3,f4,aps,<- hl]
 exact drX ..
noncomputable def bB(k:Nat):Nat:=10^(81+7*k)
def UT:SM:=aV (cT [1] (bi (b4 .Add) (bi (b4 .Mult) (al 1) (ba (.int (1000003)))) (bi (b4 .Mod) (al 2) (bi (b4 .Pow) (ba (.int (10))) (ba (.int (80))))))) br
theorem ao3(σ:AS):b4 .Pow (.int 10) (.int 80) σ=some (.int (am (10^80)),σ):=by kernel_rfl
theorem aiN(σ:AS):b4 .Pow (.int 10) (.int 60) σ=some (.int (am (10^60)),σ):=by kernel_rfl
theorem ao2(σ:AS):b4 .Pow (.int 10) (.int 68) σ=some (.int (am (10^68)),σ):=by kernel_rfl
theorem an1(σ:AS):b4 .FloorDiv (.int (am (10^68))) (.int 13) σ=some (.int (am (10^68 / 13)),σ):=by kernel_rfl
theorem anU{k:Nat}(h:k<=30):bB k<=2^4000:=au (iU (by decide) (dz (pP 7 h) 81)) (av (by kernel_rfl))
theorem TI{n k:Nat}(h:n<=bB k)(hk:k<=30):mz (am n)=true:=gq (au h (anU hk))
theorem akm:mz 1000003=true:=by kernel_rfl
theorem apZ{n k m:Nat}(h:n<=bB k)(hm:m<10^80):n*1000003+m<=bB (k+1):=by
 have e:bB (k+1)=bB k*10^7:=by
  show 10^(81+7*(k+1))=_
  rw[N5,<- kE,Nat.pow_add];rfl
 have l:10^80<=bB k:=iU (by decide) (au (by decide) (cY 81 _))
 rw[e]
 generalize bB k=B at h l
 generalize 10^80=P at hm l
 omega
theorem aoF{n k:Nat}(h:n<=bB k)(hk:k<=30)(σ:AS):b4 .Mult (.int (am n)) (.int 1000003) σ=some (.int (am (n*1000003)),σ):=by
 show od (bif mz (am n)&&mz 1000003 then some (AV.int (am n*1000003))else none) (fun c=>some (c,σ)) _=_
 rw[TI h hk,akm];rfl
theorem aoE(c:Int): ∃m,m<10^80/\ ∀σ,b4 .Mod (.int c) (.int (am (10^80))) σ=some (.int (am m),σ):=by
 have z:KJ (am (10^80)) 0=false:=by kernel_rfl
 have p:(0:Int)<am (10^80):=ib.mpr (Nat.pow_pos (by decide))
 have a:=mW c p
 have b:=qY c p
 obtain⟨m,hm⟩:=u6 a
 refine⟨m,?_,fun σ=> ?_⟩
 ·rw[hm]at b;exact ib.mp b
 ·show od (bif KJ (am (10^80)) 0 then none else some (AV.int (c.fmod (am (10^80))))) (fun c=>some (c,σ)) _=_
  rw[z,hm];rfl
theorem adb{cs:List Int}: ∀{n k:Nat},n<=bB k->k+cs.length<=30-> ∃n',n'<=bB 30/\ ∀{fr:Fm} {σ:AS},gt fr 1= .int (am n)-> ∃fr',pF [2] UT (cs.map .int) fr σ=some (.next fr' σ)/\gt fr' 1= .int (am n'):=by
 induction cs with
 |nil=>
  intro n k hn hk
  exact⟨n,au hn (iU (by decide) (dz (pP 7 hk) 81)),fun{fr σ} h1=>⟨fr,rfl,h1⟩⟩
 |cons c cs ih=>
  intro n k hn hk
  have hk':k<=30:=au (cY _ _) hk
  refine eX (aoE c) fun m hm em=> ?_
  refine eX (ih (n:=n*1000003+m) (k:=k+1) (apZ hn hm) (by rw[kE,lA 1];exact hk)) fun n' h3 h4=> ?_
  refine⟨n',h3,fun{fr σ} h1=> ?_⟩
  have g1:gt (put fr 2 (.int c)) 1= .int (am n):=(fR rfl).trans h1
  have e1:UT (put fr 2 (.int c)) σ=some (.next (put (put fr 2 (.int c)) 1 (.int (am (n*1000003+m)))) σ):=by
   unfold UT
   simp only[dk,fH,jH,bk,g1,c9,lZ,ae,aX,d6,aoF hn hk',ao3,em,NC,b9,dF,fJ]
  refine eX (h4 (fr:=put (put fr 2 (.int c)) 1 (.int (am (n*1000003+m)))) (σ:=σ) c9) fun fr' e2 h2=> ?_
  refine⟨fr',?_,h2⟩
  rw[bh,EI e1,e2]
def afN:EM:=bv de (aw (td (fw (b7 .Gt) (al 1) (bi (b4 .Pow) (ba (.int (10))) (ba (.int (60))))) (al 1) (bi (b4 .Add) (bi (b4 .Pow) (al 1) (ba (.int (6)))) (bi (b4 .FloorDiv) (bi (b4 .Pow) (ba (.int (10))) (ba (.int (68)))) (ba (.int (13)))))) aI)
theorem afP{cs:List Int}(hl:cs.length<=99999): ∃b,∀σ,∃ai i,q9 [.lst (cs.map .int)] σ=some (.ref i,ai)/\ai.get i=some (.lst [.int b]):=by
 have hL:dC (eY (cs.map AV.int))=true:=by
  rw[ip,aS];exact fW (au hl (by decide))
 have hk:(cs.take 30).length <=30:=by rw[ki];exact Nat.min_le_left _ _
 refine eX (adb (cs:=cs.take 30) (n:=23) (k:=0) (au (show 23<=10^2 by decide) (iU (by decide) (by decide))) (by rw[ic];exact hk)) fun n hn hloop=> ?_
 have gt1: ∀σ,b7 .Gt (.int (am n)) (.int (am (10^60))) σ=some (bz (10^60) n):=fun _=>rfl
 have p6: ∀σ,b4 .Pow (.int (am n)) (.int 6) σ=some (.int (am n^6),σ):=fun σ=>by
  show od (bif (mz (am n)&& !CS 6 0)&&CS 6 1000 then some (AV.int (am n^Int.toNat 6))else none) (fun c=>some (c,σ)) _=_
  rw[TI hn (ax _)];rfl
 have ad: ∀a b σ,b4 .Add (.int a) (.int b) σ=some (.int (a+b),σ):=fun _ _ _=>rfl
 have mk: ∀a σ,de [a] σ=some (.ref σ.next,σ.alloc (.lst [a])):=fun _ _=>rfl
 have er: ∃b,∀fr',gt fr' 1= .int (am n)-> ∀gG,afN fr' gG=some (.ref gG.next,gG.alloc (.lst [.int b])):=by
  unfold afN
  cases z:bz (10^60) n with
  |true=>exact⟨am n,fun fr' h1 gG=>by simp only[eu,cz,cq,wE,fD,jH,bk,d6,h1,lZ,ae,af,aX,aiN,gt1,z,b9,mk]⟩
  |false=>exact⟨am n^6+am (10^68 / 13),fun fr' h1 gG=>by simp only[eu,cz,cq,wE,fD,jH,bk,d6,h1,lZ,ae,aX,aiN,gt1,z,b9,p6,ao2,an1,ad,mk]⟩
 obtain⟨b,er⟩:=er
 refine⟨b,fun σ=> ?_⟩
 have es:SV (al 0) (ba .none) (ba (.int (30))) [.lst (cs.map .int),.int 23] σ=some (.ref σ.next,σ.alloc (.lst ((cs.take 30).map .int))):=by
  show ob (some (cs.map AV.int)) (fun l=>bif dC (eY l)then ob (some 0) (fun x=>ob (some (DX 30 (eY l))) fun y=>some (AV.ref σ.next,σ.alloc (.lst (Pk l x y))))else none)=_
  rw[b9,hL,af,b9,b9,Pl,ip,aS]
  have:KH (cs.map AV.int) 0 (DX 30 cs.length)=(cs.take 30).map AV.int:=by
   unfold KH
   rw[l4,N6,<- List.map_take]
   refine congrArg _ ?_
   rw[show DX 30 cs.length=min 30 cs.length from rfl,<- J7,List.take_of_length_le (ax cs.length)]
  rw[this]
 have ei:fE (σ.alloc (.lst ((cs.take 30).map .int))) (.ref σ.next)=some ((cs.take 30).map .int,(σ.alloc (.lst ((cs.take 30).map .int))).drop σ.next):=by
  show bD (ob ((σ.alloc (.lst ((cs.take 30).map .int))).get σ.next) _) _=_
  rw[cn]
  show(bif dC ((cs.take 30).map AV.int).length then some _ else none)=_
  rw[fW (by rw[aS];exact au hk (by decide))];rfl
 generalize (σ.alloc (.lst ((cs.take 30).map .int))).drop σ.next=gG at ei
 refine eX (hloop (fr:=[.lst (cs.map .int),.int 23]) (σ:=gG) rfl) fun fr' el h1=> ?_
 have er:=er fr' h1 gG
 refine⟨gG.alloc (.lst [.int b]),gG.next,?_,cn⟩
 have q:Cb [.lst (cs.map .int)] σ=some (.ret (.ref gG.next) (gG.alloc (.lst [.int b]))):=by
  show ob (bD (SV (al 0) (ba .none) (ba (.int (30))) [.lst (cs.map .int),.int 23] σ) fun x ai=>bD (fE ai x) fun l ay=>pF [2] UT l [.lst (cs.map .int),.int 23] ay) (gU (aV (eK afN) br))=_
  rw[es,aX,ei,aX,el,b9,dF]
  simp only[dk,ek,er,aX,b9,dI]
 show ob (Cb [.lst (cs.map .int)] σ) ir=_
 rw[q];rfl
theorem ZL(b:Int): ∃d,jk d/\ ∀{σ:AS} {x:Nat},σ.get x=some (.lst [.int b])-> ∃ai,mj [.ref x] σ=some (bK d,ai):=by
 have hd:=ap2 (abU b)
 have ok:=agp (abU b)
 generalize ago (Pp b)=d at hd ok
 refine⟨d,ok,fun{σ x} hx=> ?_⟩
 have hg:(σ.set x (.orc 0 (zq b))).get x=some (.orc 0 (zq b)):=eB hx
 have hb:mj [.ref x] σ=um nU qE [.ref x] (σ.set x (.orc 0 (zq b))):=by
  show ob (σ.get x) _=_
  rw[hx];rfl
 refine⟨σ.set x (.orc 0 []),hb.trans ?_⟩
 refine fS hd fun a ay h1 hr=>F0 hr fun k l' h0 hr=> ?_
 have hr:=aH hr
 cases hr
 have h1:qE [.ref 0] ⟨1,[(0,.orc 0 (zq b))]⟩=some (bK d,ay):=h1
 rw[XK hg,h1,aX]
 show ob (ay.get 0) _=_
 rw[h0]
 show ob (uK _ (bK d)) _=_
 rw[uv (by have:=KW (d:=d);exact aE (show(noRef (bK d)&&aN [])=true from this) fun h _=>h)]
 show some (bK d,AS.mk σ.next (ly x (.orc 0 []) (ly x (.orc 0 (zq b)) σ.cells)))=_
 rw[oz];rfl
def TH(l:List SM)(k:SM):SM:=l.foldr aV k
theorem ajG{l:List SM}{k:SM}: ∀{fr:Fm} {σ:AS},TH l k fr σ=ob (TH l br fr σ) (gU k):=by
 induction l with
 |nil=>exact fun{fr σ}=>rfl
 |cons a l ih=>
  intro fr σ
  show ob (a fr σ) (gU (TH l k))=ob (ob (a fr σ) (gU (TH l br))) (gU k)
  cases a fr σ with
  |none=>rfl
  |some o=>
   cases o with
   |next f s=>exact ih
   |ret x s=>rfl
   |brk x s=>rfl
   |cont x s=>rfl
def anp:List SM:=[(cT [1,2,3] (bv gm (aw (bv vz aI) (aw (bv oW (aw (ba (.int (5))) (aw (ba (.str [71])) aI))) (aw (bv oW (aw (ba (.int (10))) (aw (ba (.str [76])) aI))) aI))))),
 (lU 16 (al 3) (ba (.str [88]))),
 (k9 (cH (fT gv) (un (aA 23) (al 2)) (aw (bv xq (aw (ba (.str [79,78])) (aw (bv de (aw (bv gm (aw (bv gm (aw (ba (.str [116,101,120,116])) (aw (ba (.bytes [121])) aI))) (aw (ba (.none)) aI))) aI)) aI))) aI))),
 (k9 (cH yR (al 2) (aw (al 3) aI))),
 (cT [4] (bv oW (aw (ba (.int (1))) (aw (ba (.str [82])) aI)))),
 (k9 (cH yR (al 4) (aw (al 2) aI))),
 (lU 24 (al 1) (bv de (aw (al 4) aI))),
 (cT [5] (eO [6] (bv ik (aw (al 1) aI)) (fun _ σ=>some (true,σ)) (un (aA 1) (al 6))))]
def acN:BM:=(fw (b7 .NotEq) (al 5) (cH (iq kG) (ba (.str [68,65,84,65,32,68,73,86,73,83,73,79,78,32,46,32,87,79,82,75,73,78,71,45,83,84,79,82,65,71,69,32,83,69,67,84,73,79,78,32,46,32,48,49,32,82,32,46,32,48,53,32,71,32,46,32,56,56,32,79,78,32,86,65,76,85,69,32,121,32,46,32,49,48,32,76,32,80,73,67,32,88,32,46])) (aw (ba (.str [32])) aI)))
def mkD:EM:=bv vz aI
def acu{β:Type}(o:Option j9)(f:Fm->AS->Option β):Option β:=ob o fun o=>j9.rec (motive:=fun _=>Option β) (fun fr σ=>f fr σ) (fun _ _=>none) (fun _ _=>none) (fun _ _=>none) o
theorem aiC{β:Type}{o:Option j9}{f:Fm->AS->Option β}{r:β}{P:Prop}(h:acu o f=some r)(k: ∀fr σ,o=some (.next fr σ)->f fr σ=some r->P):P:=by
 cases o with
 |none=>exact nn h
 |some o=>
  cases o with
  |next fr σ=>exact k fr σ rfl h
  |ret x s=>exact nn h
  |brk x s=>exact nn h
  |cont x s=>exact nn h
def aqd(L:aa):Option (Bool×AV×List AV):=acu (TH anp br [.lst L] ⟨0,[]⟩) fun fr σ=>bD (acN fr σ) fun b ai=>bD (mkD fr ai) fun a fX=>some (b,gt fr 0,(pT (jJ 14) [a] fX).1)
theorem aea(L:aa):aqd L=some (false,.lst L,[bK ⟨none,none,none⟩]):=by kernel_rfl
def ah9(lab:List AV->List AV):SM:=aV (sb (RL acN (pc (jh (bv (eL lab) (aw mkD aI))))) (aV (fun _ _=>none) br) br) (aV (eK (bv (eL lab) (aw (bv mj (aw (bv q9 (aw (al 0) aI)) aI)) aI))) br)
theorem aia(lab:List AV->List AV):Uz lab=TH anp (ah9 lab):=rfl
theorem al7(lab:List AV->List AV)(a:AV)(σ:AS):Zi lab [a] σ=ob (Uz lab [a] σ) ir:=rfl
theorem aex(lab:List AV->List AV)(a:AV)(σ:AS):eL lab [a] σ=bn 1 [] (gy lab) (pT (jJ 14) [a] σ).1 (pT (jJ 14) [a] σ).2:=rfl
theorem alz:jk ⟨none,none,none⟩:=⟨fun _ e=>nn e,fun _ e=>nn e,fun _ e=>nn e⟩
theorem ags(d:DS):CM d (gN ⟨none,none,none⟩)=Ps ⟨none,none,none⟩:=ad9 d
theorem aic{cs:List Int}(hl:cs.length<=99999): ∃d,jk d/\ ∃ai,Zi (CM d) [.lst (cs.map .int)] ⟨0,[]⟩=some (.bool true,ai):=by
 obtain⟨b,hb⟩:=afP hl
 obtain⟨d,ok,hd⟩:=ZL b
 refine⟨d,ok,?_⟩
 refine aiC (aea (cs.map .int)) fun fr σ e8 h=>fS h fun t ai ew h=>fS h fun a fX ed h=> ?_
 have h:=aH h
 have h1:t=false:=congrArg (·.1) h
 have h2:gt fr 0= .lst (cs.map .int):=congrArg (·.2.1) h
 have h3:(pT (jJ 14) [a] fX).1=[bK ⟨none,none,none⟩]:=congrArg (·.2.2) h
 clear h
 obtain⟨qz,e3⟩:=L9 alz (ags d) (pT (jJ 14) [a] fX).2
 have e3:eL (CM d) [a] fX=some (.bool true,qz):=by
  rw[aex,h3];exact e3
 obtain⟨σ4,i,e4,g4⟩:=hb qz
 obtain⟨V6,e5⟩:=hd g4
 obtain⟨Y2,e6⟩:=aao ok (ah7 d) V6
 refine⟨Y2,?_⟩
 have hu:bW (.lst (cs.map .int))=false:=rfl
 have eT:ah9 (CM d) fr σ=some (.ret (.bool true) Y2):=by
  rw[h1]at ew
  unfold ah9
  simp only[dk,j6,G6,ew,aX,ae,qM,lY,eu,cz,ed,cq,e3,iT,b9,eD,fJ,dF,ek,bk,h2,hu,e4,e5,e6,dI]
 have eQ:Uz (CM d) [.lst (cs.map .int)] ⟨0,[]⟩=some (.ret (.bool true) Y2):=by
  rw[aia,ajG,e8,b9,dF,eT]
 rw[al7,eQ];rfl
noncomputable def Vf(c:Nat):Bool:=y9.any fun r=>aj r.c c
noncomputable def fnm(i:Nat):Str:=(Ao FN i).getD ""
def ZG(k:Nat)(l:aa)(c:bJ):Prop:=(k=1021/\lM mac l c)\/(k=0/\age bx VB l c)
theorem ahn: ∀i j,i<FN.length->j<FN.length->fnm i=fnm j->i=j:=by
 have h:(cB FN.length).all (fun i=>(cB FN.length).all fun j=>aj i j|| !(fnm i==fnm j))=true:=by kernel_rfl
 intro i j hi hj e
 have h1:=bZ.mp (bZ.mp h i (p7.mpr hi)) j (p7.mpr hj)
 rcases kR.mp h1 with q|q
 ·exact aD q
 ·rw[e,beq_self_eq_true]at q;exact absurd q (by decide)
theorem amr{L:aa}{m:Nat}(h:aN L=true):Eo (cW L m)=true:=by
 show(noRef (.lst L)&&(true&&(true&&(true&&true))))=true
 rw[show noRef (.lst L)=aN L from rfl,h];rfl
theorem Xh: ∀k l c,ZG k l c->Eo c=true:=fun k l c h=>by
 rcases h with⟨_,_,pre,_,h1,h2,rfl⟩|⟨_,_,b,rfl,_⟩
 ·exact amr (by rw[b8,h1,h2];rfl)
 ·rfl
theorem Xi: ∀k l c,ZG k l c->Vf k=true-> ∃ks vs,c= .inst k ks vs:=fun k l c h hc=>by
 rcases h with⟨rfl,_,pre,_,_,_,rfl⟩|⟨rfl,_⟩
 ·exact⟨_,_,rfl⟩
 ·exact absurd hc (by decide)
theorem adi{K:dL}(h:y9.all (crB K)=true): ∀c k,Vf c=true->k<FN.length->SH c k=false->IG K c (fnm k)=true:=fun c k hc hk hb=>by
 refine eX (kh.mp hc) fun r hr e=> ?_
 obtain rfl:=aD e
 refine aE (bZ.mp h r hr) fun _ h=>aE h fun _ h=>aE h fun _ h=>aE h fun _ h=>aE h fun _ h=> ?_
 have:=bZ.mp h k (p7.mpr hk)
 rw[hb]at this
 exact this
structure Oi(K:dL):Prop where
 ok:Zr K=true
 gf:gfB K=true
 sys:(K.lookup sysModules).isSome=true
theorem Oi.of{K:dL}(h:abH K=true):Oi K:=by
 refine aE h fun h1 h=>aE h fun h3 h=>aE h fun h4 h=>aE h fun h5 h=>aE h fun h6 h=>aE h fun h7 h=>aE h fun h8 h=>aE h fun h9 h=>aE h fun h10 h=>aE h fun h11 h=>aE h fun h12 _=>⟨?_,h11,h12⟩
 unfold Zr
 rw[h1,h3,h4,h5,h6,h7,h8,h9,h10];rfl
theorem Oi.n{K:dL}(h:abH K=true):Hv K "USAGE_NAMES" (.ref 503)=true/\Hv K "USAGE_WORDS" (.ref 711)=true:=
 aE h fun _ h=>aE h fun _ h=>aE h fun _ h=>aE h fun _ h=>aE h fun _ h=>aE h fun _ h=>aE h fun _ h=>aE h fun _ h=>aE h fun _ h=>aE h fun _ h=>aE h fun _ h=>aE h hZ
theorem Oi.cr{K:dL}(h:Oi K):y9.all (crB K)=true:=aE h.ok fun _ h=>aE h fun h _=>h
section
variable{w:d4}{h:bM}{K:dL}{p:fZ}{loose:List Str}{mean:ExcName->Option ah}{mg mb:Str->Option ah}
noncomputable def Yq(prog:fZ)(w:d4)(T:Top p loose mean mg mb h)(X:K.In h)(ck:Oi K):PC where
 prog:=prog
 w:=w
 K:=K
 fname:=fnm
 pe:=h
 mg:=mg
 mb:=mb
 g:=T.g
 b:=T.b
 nolimit:=T.nolimit
 boot:=T.builtins
 inK:=X
 sys:=(fg.mp ck.sys).imp fun o e=>X _ _ e
 cls:=Vf
 nf:=FN.length
 attr:=adi ck.cr
 conc:=ZG
 concFree:=Xh
 concInst:=Xi
 fnameInj:=ahn
theorem amo{prog:fZ}{T:Top p loose mean mg mb h}{X:K.In h}{ck:Oi K}:qh (Yq prog w T X ck) mac bx VB where
 mac0:=rfl
 rdr:=fun l c=>⟨fun h=>h.elim (fun h=>h.2) fun h=>absurd h.1 (by decide),fun h=>.inl ⟨rfl,h⟩⟩
 bx2:=fun m d vs=>rfl
 bag:=fun l c=>⟨fun h=>h.elim (fun h=>absurd h.1 (by decide)) fun h=>h.2,fun h=>.inr ⟨rfl,h⟩⟩
theorem aly{C:PC}{o:Obj}{ws:List (Str×Str×Nat)}(ho:o={cls:=.type "dict",data:=.dict (ws.map fun x=>uc C.w x.1 x.2.1 x.2.2).toArray ws.length})(hn:(ws.map (·.1)).Nodup):
  o.IsDictOf (strKind C.prog C.w) (ws.map fun x=>(x.1,gu x.2.1 (x.2.2+1))):=by
 subst ho
 refine⟨_,_,⟨rfl,rfl,rfl⟩,rfl,fun e he=> ?_,?_,by rw[gM];exact hn⟩
 ·rw[tG]at he
  obtain⟨x,_,rfl⟩:=dD.mp he
  exact⟨x.1,tK _ _ _ _,rfl⟩
 ·show Pairs _ (ws.map fun x=>uc C.w x.1 x.2.1 x.2.2) _
  clear hn
  induction ws with
  |nil=>exact .nil
  |cons x ws ih=>exact .cons (tK _ _ _ _) rfl ih
theorem dcV{C:PC}{W:Wd}(hW:ImK C W){a:aC}{o:Obj}(hl:C.K.lookup a=some o)(ha:(a==sysModules)=false){ws:List (Str×Str×Nat)}(ho:o={cls:=.type "dict",data:=.dict (ws.map fun x=>uc C.w x.1 x.2.1 x.2.2).toArray ws.length})(hn:(ws.map (·.1)).Nodup)
  {ks ss:List (List Nat)}(hk:ws.map (·.1)=ks.map aO)(hv:ws.map (·.2.1)=ss.map aO):V C W (.dct ks (ss.map .str)) (.ref a):=by
 have hl1:ks.length=ws.length:=by
  have:=congrArg mZ hk
  rwa[aS,aS,eq_comm]at this
 refine⟨a,o,ws.map fun x=>gu x.2.1 (x.2.2+1),rfl,ha,hW _ _ hl,?_,by rw[aS];exact hl1,?_⟩
 ·clear ho hn hk hl1 hl
  induction ws generalizing ss with
  |nil=>
   cases ss with
   |nil=>rfl
   |cons s ss=>exact absurd hv (fun h=>by cases h)
  |cons x ws ih=>
   cases ss with
   |nil=>exact absurd hv (fun h=>by cases h)
   |cons s ss=>
    have h:=List.cons.inj (show x.2.1::ws.map (·.2.1)=aO s::ss.map aO from hv)
    exact⟨_,_,rfl,⟨_,congrArg (fun s=>gu s (x.2.2+1)) h.1⟩,ih h.2⟩
 ·have:=aly (C:=C) ho hn
  rw[<- hk,List.zip_map']
  exact this
structure abw(w:d4)(K:dL):Prop where
 ck:Oi K
 un:K.lookup 503=some (unO w)
 uw:K.lookup 711=some (uwO w)
 rs:nsIn K 3 "RESERVED"=some (some (.str F4 1445))
 le:UV K 65=some leB
 n1:Hv K "USAGE_NAMES" (.ref 503)=true
 n2:Hv K "USAGE_WORDS" (.ref 711)=true
theorem abw.of{w:d4}{K:dL}(h:abH K=true)(e:kY K=kYa w):abw w K:=by
 obtain⟨e1,e⟩:=cJ e
 obtain⟨e2,e⟩:=cJ e
 obtain⟨e3,e4⟩:=cJ e
 exact⟨Oi.of h,e1,e2,e3,e4,Oi.n h |>.1,Oi.n h |>.2⟩
noncomputable def I7(a:AV):List Nat:=match a with
 | .str l=>l
 |_=>[]
theorem aoZ{s:String}{cs:List Char}(h:s=String.ofList cs):lD s=aO (cs.map Char.toNat):=by
 rw[h,Str.ofString_eq_toList,String.toList_ofList];rfl
theorem VC:F4=aO (I7 lF):=(aoZ (cs:=(I7 lF).map Char.ofNat) (by kernel_rfl)).trans (by kernel_rfl)
theorem amn{w:d4}{h:bM}{K:dL}{p:fZ}{loose:List Str}{mean:ExcName->Option ah}{mg mb:Str->Option ah}{prog:fZ}(T:Top p loose mean mg mb h)(X:K.In h)(F:abw w K):rH (Yq prog w T X F.ck) where
 ok:=F.ck.ok
 nf:=rfl
 fn:=fun i x e=>by show(Ao FN i).getD ""=x;rw[e];rfl
 cls:=fun r hr=>kh.mpr ⟨r,hr,N4 _⟩
 name:=fun l c h=>h.elim (fun h=>by obtain⟨_,_,pre,_,_,_,rfl⟩:=h;exact⟨_,rfl⟩) fun h=>absurd h.1 (by decide)
 gf:=adS F.ck.gf fun o fd ho hd=>by
  have h:=F.le
  unfold UV at h
  rw[show K.lookup 65=some o from ho,nN,hd]at h
  revert h
  show(match fd.body with| .stmts b=>some b|_=>none)=some leB->_
  cases fd.body with
  |stmts b=>exact fun h=>congrArg _ (aH h)
  |_=>exact fun h=>nn h
 un:=lV (Je (C:=Yq prog w T X F.ck) F.n1) fun W hW=>dcV hW F.un rfl (ws:=[("display","DISPLAY",925),("binary","BINARY",927),("packed","PACKED-DECIMAL",929),("index","INDEX",931)]) rfl (by decide +kernel)
  (ks:=[[100,105,115,112,108,97,121],[98,105,110,97,114,121],[112,97,99,107,101,100],[105,110,100,101,120]]) (ss:=[[68,73,83,80,76,65,89],[66,73,78,65,82,89],[80,65,67,75,69,68,45,68,69,67,73,77,65,76],[73,78,68,69,88]]) (by kernel_rfl) (by kernel_rfl)
 uw:=lV (Je (C:=Yq prog w T X F.ck) F.n2) fun W hW=>dcV hW F.uw rfl (ws:=[("DISPLAY","display",1250),("COMP","binary",1252),("COMPUTATIONAL","binary",1254),("BINARY","binary",1256),("PACKED-DECIMAL","packed",1258),("COMP-3","packed",1260),("COMPUTATIONAL-3","packed",1262),("INDEX","index",1264)]) rfl (by decide +kernel)
  (ks:=[[68,73,83,80,76,65,89],[67,79,77,80],[67,79,77,80,85,84,65,84,73,79,78,65,76],[66,73,78,65,82,89],[80,65,67,75,69,68,45,68,69,67,73,77,65,76],[67,79,77,80,45,51],[67,79,77,80,85,84,65,84,73,79,78,65,76,45,51],[73,78,68,69,88]]) (ss:=[[100,105,115,112,108,97,121],[98,105,110,97,114,121],[98,105,110,97,114,121],[98,105,110,97,114,121],[112,97,99,107,101,100],[112,97,99,107,101,100],[112,97,99,107,101,100],[105,110,100,101,120]]) (by kernel_rfl) (by kernel_rfl)
 rs:=lV (aiy (C:=Yq prog w T X F.ck) F.rs) fun W hW=>⟨1445,congrArg (fun s=>gu s 1445) VC⟩
end
abbrev RW:OpenLaw:=co
def Yf0(s:az):=(abH (zi WZ s.heap)&&cX 1 s.toks,kY (zi WZ s.heap))
noncomputable def Ya0(w:d4):=(true,kYa w)
theorem ael{args:List WData}(h:RW.row.toRowW.claim.pre args=true): ∃cs:List Int,args=[.list (cs.map .int)]/\cs.length<=63:=by
 obtain⟨h1,h2⟩:=pre_splitW h
 obtain⟨d,r,rfl,h3,h4⟩:=hasAllW_cons (R:=RW.row.records) (e:=.list .int) (es:=[]) h1
 obtain rfl:=hasAllW_nil h4
 obtain⟨xs,rfl,h5⟩:=hasW_list h3
 obtain⟨cs,rfl⟩:=items_int h5
 refine⟨cs,rfl,?_⟩
 have h2:(match(match(match(match(some (Bs ((cs.map Bs).length:Nat)))with|some y=>((less? (.int 63) y).map yM)|_=>none)with|some (.bool b)=>some (yM (!b))|_=>none)with
  |some (.bool false)=>some (yM false)
  |some (.bool true)=>some (.bool true)
  |_=>none)with|some (.bool true)=>true|_=>false)=true:=h2
 have h6:less? (.int 63) (.int ((cs.map Bs).length:Nat))=some (decide ((63:Int)<((cs.map Bs).length:Nat))):=rfl
 rw[aS]at h6 h2
 cases z:decide ((63:Int)<(cs.length:Nat))with
 |true=>
  rw[z]at h6
  simp only[h6]at h2
  exact absurd h2 (by decide)
 |false=>exact Nat.le_of_not_lt fun q=>of_decide_eq_false z (ib.mpr q)
theorem abg{P:Params}{h:bM}{C:PC}{W:Wd}: ∀{cs:List Int} {vs:List ah},WellAll P h vs (cs.map .int)->VL C W (cs.map .int) vs:=by
 intro cs
 induction cs with
 |nil=>intro vs h;cases h;rfl
 |cons c cs ih=>
  intro vs h
  cases h with
  |cons h1 h2=>cases h1 with
   |int i t=>exact⟨_,_,rfl,⟨_,rfl⟩,ih h2⟩
theorem aiM{a b:List WData}:RW.row.toRowW.claim.post a (.bool true) b=true:=by
 have h:same (.bool true) (.bool true)=true:=by kernel_rfl
 show(WShape.has RW.row.records (.bool true) .bool&&(match some (yM (same (.bool true) (.bool true)))with|some (.bool true)=>true|_=>false))=true
 rw[h];rfl
theorem amG:eN callerA 23:=⟨rfl,by decide,by decide⟩
theorem aib{C:PC}(O:rH C)(R:qh C mac bx VB){s:az}(hb: ∀b o,C.pe.get? b=some o->s.heap.get? b=some o)(tk:1<=s.toks){x:aC}{vs:List ah}{cs:List Int}(hx:s.heap.get? x=some (dy vs 0))(hw: ∀W,VL C W (cs.map .int) vs)(hlen:cs.length<=63):
  wpAny (dH C) callerA (Uk (.ref 1082) [.ref x]) (fun v s'=>v= .bool true/\Sm s s'/\ ∀b o,s.heap.get? b=some o->s'.heap.get? b=some o) dw s:=by
 obtain⟨ds,ok,ai,e⟩:=aic (cs:=cs) (au hlen (by decide))
 have hv:V C ⟨fun _=>none,s.heap.get?,fun _=>none⟩ (.lst (cs.map .int)) (.ref x):=⟨x,0,vs,rfl,hx,hw _⟩
 refine eC (anQ (lab:=CM ds) ⟨O,aqj R,R⟩ (ah8 ok) callerA amG ⟨fun _=>none,s.heap.get?,fun _=>none⟩ ⟨0,[]⟩ s [.lst (cs.map .int)] [.ref x] ⟨hb,fun _ _ e=>e,fun _ _ e=>nn e,fun _ _ e=>nn e,fun _ _=>rfl,fun _ _ e=>nn e,fun _ _ _ _ _ _ e=>nn e⟩ (VL.one hv) tk _ _ e) fun v s' P=> ?_
 obtain⟨h1,W',l,R',hq⟩:=P
 exact⟨hq,h1,fun b o e=>R'.im _ _ (l.2.1 b o e)⟩
theorem law_walk{d:DefRec}{kwd:List (Str×PySem.Expr)}(hn:d.name="law"):WalkX q0 loose0 (fun _ _=>True) Yf0 Ya0 RW.row.toRowW d kwd fun f vs=>Uk f vs:=by
 intro w nq bq mg mb G Y a o pm cd doc dV kV ho hdt hcd hD hmg hgens args vals as L hpre hlay hrd hwl hlo
 have X:Frag.In (zi WZ nq.heap) bq.heap:=fun b o e=>L.keeps _ _ (ahp _ _ b o e)
 have y:=bj.mp (cJ Y).1
 have F:=abw.of y.1 (cJ Y).2
 have tk:1<=bq.toks:=by
  refine eX (L.laid) fun ord _ e=> ?_
  exact au (av y.2) (layAllW_grows _ _ _ e).toks
 have O:=amn (w:=w) (prog:=RW.row.prog) G.T X F
 have R:=amo (w:=w) (prog:=RW.row.prog) (T:=G.T) (X:=X) (ck:=F.ck)
 have ha:a=1082:=by
  have e:mg "law"=some (.ref 1082):=O.frE (i:=110) (r:=aaQ) rfl fun _ _ h=>h "law" rfl
  rw[hn,e]at hmg
  cases hmg;rfl
 subst ha
 obtain⟨cs,rfl,hlen⟩:=ael hpre
 obtain⟨v,x,vs,rfl,rfl,hx,hvs⟩: ∃v x vs,vals=[v]/\v= .ref x/\bq.heap.get? x=some (dy vs 0)/\WellAll w.params bq.heap vs (cs.map .int):=by
  cases hwl with
  |cons h1 h2=>
   cases h2
   cases h1 with
   |list h3 h4=>exact⟨_,_,_,rfl,rfl,h3,h4⟩
 refine KV (eC (aib O R (fun _ _ e=>e) tk hx (fun _=>abg hvs) hlen) fun v s' P=> ?_)
 obtain⟨rfl,⟨h',t',rfl,_⟩,hk⟩:=P
 exact⟨.inl ⟨_,.bool true,[],rfl,fun _=>rfl,.bool true,aiM,fun _=>⟨l5,fun a ha=>absurd ha bg⟩⟩,OldK.of_keep hk,rfl,AllBare.of_eq hgens⟩
theorem akR{w:d4}{os:n8}{x:NZ×p9×Code×Pos}(h:TV w os=some x)(h1:x.1= .next)(h2:x.2.2.1= .body IJ xO)(h3:x.2.2.2=psE):
  topRun treeTable PW w 11 (some (.ref 6)) 10000 ⟨ju w.params,pX [],sV,vt,os⟩ (topStub PW)=some x.2.1.abs:=by
 obtain⟨f,s,c,q⟩:=x
 obtain rfl:f= .next:=h1
 obtain rfl:c= .body IJ xO:=h2
 obtain rfl:q=psE:=h3
 have k1:=alD w s.abs
 have k2:=piece_app (l:=IJ) (rest:=[]) (segRun_of h) (piece_nil k1)
 rw[aR]at k2
 have k3:=piece_block (adf w os) k2
 have k4:=go_top (amq w os) k3
 have k5:=topRun_mono 2744 _ _ _ _ k4
 have e:12+(1+(7241+2))+2744=10000:=by decide
 rw[e]at k5
 exact k5
theorem XT(w:d4)(hA: ∀os,(TV w os).map (Ye w)=some (.next,.body IJ xO,psE,true,openGood q0 loose0,true,kYa w,pbs)):
  (openEnds treeTable PW w 10000).map (fun s=>(openSeen q0 loose0 (importedModules PW.main.body) Xt0 true s,Yf0 s))=some (openGood q0 loose0,Ya0 w):=by
 obtain⟨⟨h,gs,d,k,os⟩,e,e'⟩:=hY.mp (aiE w)
 obtain⟨e1,e'⟩:=cJ e'
 obtain⟨e2,e'⟩:=cJ e'
 obtain⟨e3,e4⟩:=cJ e'
 have e1:h=ju w.params:=e1
 have e2:gs=pX []:=e2
 have e3:d=sV:=e3
 have e4:k=vt:=e4
 subst e1 e2 e3 e4
 refine eX (hY.mp (hA os)) fun x hx a=> ?_
 obtain⟨a1,a⟩:=cJ a
 obtain⟨a2,a⟩:=cJ a
 obtain⟨a3,a⟩:=cJ a
 obtain⟨a4,a⟩:=cJ a
 obtain⟨a5,a⟩:=cJ a
 obtain⟨a6,a⟩:=cJ a
 obtain⟨a7,a8⟩:=cJ a
 obtain⟨a6,a9⟩:=bj.mp a6
 obtain⟨b1,b2⟩:=bj.mp a6
 obtain⟨z1,z'⟩:=cJ (akj w)
 obtain⟨z2,z3⟩:=cJ z'
 have t:topFrom treeTable PW w 10000 ⟨ju w.params,pX [],sV,vt,os⟩=some x.2.1.abs:=by
  unfold topFrom
  dsimp only
  rw[z1,z2,z3,akR hx a1 a2 a3]
  show(match NV w x.2.1.abs with|true=>some x.2.1.abs|false=>none)=_
  rw[a4]
 unfold openEnds
 rw[e,nN,t]
 have y:Yf0 x.2.1.abs=Ya0 w:=by
  unfold Yf0 Ya0
  rw[ZZ,a7]
  refine congrArg (fun b=>(b,kYa w)) ?_
  show(qj.all (frB (Hj WZ x.2.1))&&afT (Hj WZ x.2.1)&&cX 1 x.2.1.toks)=true
  rw[alG b1 a8 alx,b2,a9];rfl
 exact congrArg some (N8 a5 y)
theorem left:LeftO PW q0 loose0 Xt0 Yf0 Ya0 10000:=fun w=>by
 have e:=World.withFollow_self w "special-get-raises"
 cases hb:w.params.followText "special-get-raises" with
 |false=>
  rw[hb]at e
  exact XT w fun os=>by have:=apt w os;rwa[e]at this
 |true=>
  rw[hb]at e
  exact XT w fun os=>by have:=apu w os;rwa[e]at this
theorem aay{lk:Look}{s:bV}{r:List bV}: ∀{n:Nat} {l:List bV},l.drop n=s::r->noRoadLSs lk (l.take n)=true->noRoadLS lk s=true->noRoadLSs lk r=true->noRoadLSs lk l=true:=by
 intro n
 induction n with
 |zero=>
  intro l h _ h2 h3
  rw[l4]at h
  rw[h]
  exact Bt h2 h3
 |succ n ih=>
  intro l h h1 h2 h3
  cases l with
  |nil=>cases h
  |cons a l=>
   obtain⟨a1,a2⟩:=bj.mp (show(noRoadLS lk a&&noRoadLSs lk (l.take n))=true from h1)
   exact Bt a1 (ih (l:=l) h a2 h2 h3)
theorem O6{α:Type}{l:List α}{p:α->Bool}:l.toArray.any p=l.any p:=tD
noncomputable def Vk:Look:={strict:= !(importedModules co.row.prog.main.body).all cThrough.contains,foot:=none,bare:=(["vars","dir","locals"]:List Str).filter (readsOut co.row.prog co.row.prog.main.body)}
theorem aey:roadStr F4=false:=by
 rw[VC]
 show(((I7 lF).toArray.any fun c=>c==123||c==125)||((I7 lF).toArray.any (· ==46)&& !(I7 lF).toArray.any (· <=32)))=false
 rw[O6,O6,O6]
 kernel_rfl
theorem akH{lk:Look}(h:lk.word F4=true):lk.str F4=true:=by
 unfold Look.str
 rw[h,aey,Bool.or_true];rfl
theorem NO:Vk={strict:=false,foot:=none,bare:=[]}:=by
 unfold Vk
 rw[cO,aK,bX,bF,Ui,Ea]
 kernel_rfl
theorem afn:Vk.word F4=true:=by
 rw[VC,NO]
 kernel_rfl
theorem amU:noRoadLS Vk (.Assign [.Name "RESERVED" ⟨722,0,722,8⟩] (.Constant (.str F4) 0 ⟨722,11,722,1873⟩) ⟨722,0,722,1873⟩)=true:=by
 show(Vk.stores [.Name "RESERVED" ⟨722,0,722,8⟩]&&noRoadLs Vk [.Name "RESERVED" ⟨722,0,722,8⟩]&&Vk.str F4)=true
 refine Bt ?_ (akH afn)
 rw[NO]
 kernel_rfl
theorem amD:noRoadLSs Vk (co.row.prog.main.body.take 136)=true:=by
 rw[NO,iP]
 kernel_rfl
theorem amE:noRoadLSs Vk (co.row.prog.main.body.drop 137)=true:=by
 rw[NO,iP]
 kernel_rfl
theorem amF:co.row.prog.main.body.drop 136= .Assign [.Name "RESERVED" ⟨722,0,722,8⟩] (.Constant (.str F4) 0 ⟨722,11,722,1873⟩) ⟨722,0,722,1873⟩::co.row.prog.main.body.drop 137:=by kernel_rfl
theorem said:co.wellSaid=true:=by
 unfold OpenLaw.wellSaid OpenRow.wellSaid OpenRow.partSaid looksOpen
 repeat' with_reducible refine Bt ?_ ?_
 ·rw[DZ,aK]
  kernel_rfl
 ·rw[Fa,aK,D9]
  kernel_rfl
 ·rw[E7,aK]
  kernel_rfl
 ·rw[cO,fA,aK,bX,bF,Ee]
  kernel_rfl
 ·exact aay amF amD amU amE
 ·rw[fz,aK,Eh]
  kernel_rfl
 ·rw[aK]
  kernel_rfl
 ·rw[aK]
  kernel_rfl
 ·rw[aK,cO,E9]
  kernel_rfl
 ·rw[cO,aK,bX,bF,fA,Uj,E1]
  kernel_rfl
 ·rw[Y6,aK,bF]
  kernel_rfl
 ·rw[cO,aK,E4,n9,bX,bF,fA]
  kernel_rfl
 ·rw[Eb,aK]
  kernel_rfl
 ·rw[iM,aK]
  kernel_rfl
 ·rw[iM,aK]
  kernel_rfl
 ·rw[cO,aK,iM]
  kernel_rfl
 ·rw[cO,aK,E3,Y5,E2]
  kernel_rfl
 ·rw[cO,aK]
  kernel_rfl
 ·rw[aK]
  kernel_rfl
 ·rw[bX,bF,fA,aK]
  kernel_rfl
 ·rw[bX,bF,D8,aK]
  kernel_rfl
 ·kernel_rfl
 ·rw[cO,DY]
  kernel_rfl
 ·rw[E6]
  kernel_rfl
 ·kernel_rfl
 ·kernel_rfl
 ·rw[iP,na,mN]
  kernel_rfl
 ·rw[E8]
  kernel_rfl
 ·rw[Eg]
  kernel_rfl
 ·rw[cO,bF]
  kernel_rfl
 ·rw[cO,na,n9,bF,iO]
  kernel_rfl
 ·rw[cO,l9,l8,iO]
  kernel_rfl
 ·rw[cO,l9,l8,iO,Ft,bF]
  kernel_rfl
 ·rw[fz,bX,bF,mN]
  kernel_rfl
 ·rw[bX,bF,fy]
  kernel_rfl
 ·rw[E5,bF,fy]
  kernel_rfl
 ·rw[cO,fy,n9]
  kernel_rfl
 ·rw[fz,bX,bF,fy]
  kernel_rfl
 ·rw[fz,bF]
  kernel_rfl
theorem def_ok:(defOf q0 RW.row.name).map (fun x=>(x.1.name,kwWritten? x.1.params.kwonlyargs x.1.params.kw_defaults,x.2,RW.row.prog.theDef RW.row.name))=(defOf q0 RW.row.name).map (fun x=>(("law":Str),some x.2,x.2,some (x.1.params,x.1.body,x.1.scope))):=by kernel_rfl
theorem def_some:(defOf q0 RW.row.name).isSome=true:=by kernel_rfl
theorem ok_ok:(chainsOk q0&&opensWell RW.row.prog&&(frees RW.row.toRowW&&RW.row.within.isEmpty))=true:=by decide +kernel
theorem apI:RW.row.prog.tablesWhole=true:=by
 delta Program.tablesWhole TablesWhole.wProgram TablesWhole.holds Scope.bears
 rw[PySem.W.Fast.te6116379765354995101,bF]
 kernel_rfl
theorem bare_ok:RW.row.prog.bare:=⟨rfl,rfl,rfl,rfl,rfl,apI⟩
theorem prom_ok:RW.row.toRowW.promised:=⟨[.list []],by decide +kernel,by decide +kernel⟩
end Mine
end
set_option maxHeartbeats 4000000 in
theorem PySem.Challenge.cw_pq0651_01_holds : PySem.Challenge.rw_pq0651_01.Holds := by
 obtain⟨⟨d,kwd⟩,hdef⟩:=fg.mp Mine.def_some
 have h:=Mine.def_ok
 rw[hdef]at h
 have h:=aH h
 obtain⟨h1,h⟩:=cJ h
 obtain⟨h2,h⟩:=cJ h
 obtain⟨_,h3⟩:=cJ h
 exact holds_law Mine.said fun k1=>holds_openX (q:=Mine.q0) (loose:=Mine.loose0) (Xt:=Mine.Xt0) (XP:=fun _ _=>True) (Yf:=Mine.Yf0) (Ya:=Mine.Ya0) (N:=10000) Mine.left (fun _ _=>trivial) (fun _ _ _ _ _=>trivial) hdef h3 h2 (fun _ _=>recFacts_nil rfl) rfl k1 Mine.ok_ok Mine.bare_ok Mine.prom_ok (Mine.law_walk h1)
