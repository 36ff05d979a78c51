import PyProof.Rows.All
import OpenK.XOpen
import KE.KEqDict
import KE.KBytesWalk
import KE.BytesMake
import KE.KPop
import KE.KIntText
import Lean
import PySem.Challenge.RW_pq0651_01
set_option Elab.async false
set_option maxRecDepth 100000
set_option linter.all false
set_option genInjectivity false
set_option genSizeOf false
set_option compiler.extract_closed false
open And renaming intro->ii
open Array renaming any_toList->GA,mk->p7,toList->Oc,toList_inj->GB
open Bool renaming and_eq_true->cM,and_eq_true_iff->bk,and_self->rG,and_true->zT,eq_false_iff->E1,eq_iff_iff->oG,not_eq_true'->ej,not_false->fD,not_true->eL,or_eq_false_iff->oH,or_eq_true->oJ,or_eq_true_iff->k7
open Eq renaming trans->yN
open False renaming elim->Uq
open ForInStep renaming yield->gL
open Int renaming add_sub_cancel->Bt,eq_ofNat_of_zero_le->vg,fmod_lt_of_pos->q8,fmod_nonneg_of_pos->ng,lt_of_le_of_lt->Bu,lt_of_lt_of_le->Bv,natCast_nonneg->dr,negSucc->qD,negSucc_lt_zero->pQ,not_lt->sX,ofNat->ai,ofNat_le->Og,ofNat_lt->il,toNat_of_nonneg->Bh
open Int.negSucc renaming inj->abH
open List renaming all_append->oL,all_cons->rH,all_eq_false->sv,all_eq_true->b5,any_cons->rI,any_eq_false->E4,any_eq_true->kn,any_toArray->tI,append_assoc->aB,append_nil->aR,append_toArray->Bi,cons_append->fi,contains_iff_mem->xf,drop->Bw,dropLast_eq_take->xg,drop_drop->p9,drop_eq_nil_iff->oM,drop_eq_nil_of_le->ic,drop_zero->ma,filter->Rw,filterMap_cons->k9,find?_cons->oN,flatMap_append->lb,flatMap_cons->aY,flatMap_nil->bI,flatten_cons->mQ,foldl->Ur,foldl_cons->Ie,forIn_cons->gN,getElem?_append_right->kJ,getElem?_drop->q9,getElem?_eq_getElem->fj,getElem?_eq_none->n8,getElem?_eq_some_iff->cW,getElem?_map->jO,getElem?_toArray->jX,getElem?_zip_eq_some->sY,getElem_mem->GG,getLast?_eq_getElem?->sZ,isEmpty_cons->E5,isEmpty_iff->dM,isEmpty_nil->GO,length->nh,length_append->ao,length_cons->bT,length_drop->hV,length_eq_zero_iff->mN,length_filterMap_le->tJ,length_map->aU,length_nil->Ig,length_range->E6,length_take->kp,lookup->qE,lookup_cons->cE,lookup_cons_self->gu,map->Oi,map_append->bw,map_congr_left->f8,map_cons->bj,map_id'->tK,map_inj_left->gS,map_map->gO,map_nil->jY,mem_append->cX,mem_cons->aH,mem_cons_of_mem->aQ,mem_cons_self->bg,mem_filterMap->lF,mem_map->dD,mem_of_getElem?->bb,mem_range->mc,mem_range'_1->E7,mem_singleton->aP,mem_toArray->tM,nil_append->vx,nodup_cons->dT,nodup_nil->me,not_mem_nil->bh,of_mem_zip->Ih,pairwise_cons->jt,pairwise_singleton->vi,push_toArray->E8,range->co,range'->iX,range'_succ->tN,rec->bt,rel_of_pairwise_cons->lm,replicate->bL,replicate_succ->lc,reverse_cons->E9,size_toArray->aZ,take_append_drop->n9,take_succ_cons->Bj,take_take->Kl,zip_cons_cons->bQ
open List.Perm renaming eq_of_pairwise->Oh
open List.cons renaming injEq->vw
open Nat renaming add_assoc->kK,add_comm->lG,add_le_add->aJ,add_le_add_left->dA,add_right_comm->Bx,add_sub_cancel'->Bk,add_sub_cancel_left->mO,beq->am,beq_refl->Oj,ble->cJ,ble_eq_true_of_le->gv,blt->bc,blt_eq->cC,eq_of_beq_eq_true->aD,exists_eq_add_of_le->jm,le_add_left->ju,le_add_right->cZ,le_antisymm->vy,le_of_ble_eq_true->av,le_of_eq->eN,le_of_lt->gP,le_of_lt_succ->Fa,le_of_succ_le->Fb,le_of_succ_le_succ->ni,le_refl->ax,le_succ->cU,le_succ_of_le->jP,le_trans->au,le_zero->Rx,log2_lt->FE,lt_add_of_pos_right->vj,lt_irrefl->zU,lt_of_add_lt_add_left->s0,lt_of_le_of_lt->eC,lt_of_lt_of_le->fm,lt_of_succ_lt_succ->jF,lt_or_ge->oO,lt_succ_of_lt->cP,lt_succ_self->bU,lt_trans->Ok,min->Ef,min_eq_left->Ij,min_le_right->GP,mul_le_mul_left->pR,mul_succ->Ol,ne_of_gt->oP,ne_of_lt->cu,noConfusion->dU,not_le->yR,not_lt->b7,not_lt_zero->fY,pow_le_pow_right->iW,pow_lt_pow_right->yS,rec->hY,sub_le->Us,sub_self->Bz,sub_zero->Om,succ->kq,succ_le_succ->be,succ_lt_succ->GQ,succ_ne_zero->ku,succ_pos->On,succ_sub->Oo,succ_sub_succ_eq_sub->tO,zero_add->io,zero_le->aS,zero_lt_succ->hZ
open Nat.succ renaming inj->jZ
open Ne renaming symm->tA
open Option renaming bind_some->nQ,getD_none->tP,getD_some->nR,isNone_iff_eq_none->dG,isSome_iff_exists->fq,map_eq_some_iff->ig,none_or->Km,rec->bp
open Option.some renaming inj->aI,injEq->Zk
open Prod renaming ext->Op,rec->Oq
open Prod.mk renaming inj->cL
open PyProof.Rows renaming Assign_Tuple_swapped->yM,Compare_chain->MS,add_int->Ut,add_str->Uu,assign_Name->lH,floordiv_int->NJ,ge_int->Wq,getItem_str->Os,gt_int->Wr,in_str->Ws,join_list->RA,join_tuple->Rv,le_int->Wt,len_str->Uv,len_tuple->RB,lt_int->Wu,mod_int->Uw,mul_int->Ux,neg_int->Uy,notIn_str->RC,not_of->Wv,pow_int->Uz,sub_int->UA,truthy_none->Ot,truthy_tuple->NK,StrsAre->SD,isTrue_chain->Ox,slot_str_getitem->GU
open PySem renaming Addr->aC,Around->b6,BindsTo->Sz,ClassData->LU,CmpOp->g8,Comprehension->dS,Data->Br,DictEntry->ik,Expr->an,Flow->Od,FuncBody->Oe,FuncData->gM,GenState->yO,Heap->bM,Keyword->tz,Model->lp,NameKind->cT,Operator->iH,OsState->oa,Program->gg,BoolOp->cF,call->UD,strKind->rK,strKind_is->tQ,wpAt_bind->Il,wpAt_of_wpAny->Bm,Result->tR,Scope->d4,Shared->az,Stmt->bW,UnaryOp->SE,Value->ah,World->d5,builtinLookup_eq_fast->xn,call_list_seq->MU,call_meets->ml,codeAny_builtin->Im,codeAny_call_builtin->oQ,codeAny_loop->Ov,codeAny_mono->Ow,codeAny_of_tree->Ip,evalPairs_cons->Kq,intKind_is->Iq,pastItsLine_dict->GS,plainId_quiet->MV,plainObj_wpAny_Assign_Attribute->jk,refuseLoop_ref->Kr,sizeLine_eq->jG,slot_dict_getitem->Fn,slot_list_getitem->Fo,slot_list_setitem->Fp,typeIs_str->mm,typeLookup_type->Ir,wpAny_Constant_int->rb,wpAny_Expr_any->Ks,wpAny_askSetting->GV,wpAny_assignInOrder_more->ft,wpAny_assignInOrder_none->tX,wpAny_bind->aq,wpAny_bindName->mo,wpAny_call->oT,wpAny_comprehension_free->tY,wpAny_execs_cons->nS,wpAny_execs_nil->oU,wpAny_getItem_of->GW,wpAny_holding->dJ,wpAny_isSubtype_exc->lf,wpAny_list_append_plain->vk,wpAny_loadPart->qc,wpAny_loadPart_at->gT,wpAny_lookBehind->GX,wpAny_madeBy_exc->GY,wpAny_mono->jx,wpAny_newObj_type->fS,wpAny_pure->aM,wpAny_pyIter_dict->Fq,wpAny_rule->Iu,wpAny_specialOf->Iv,wpAny_standAt->dC,wpAny_truthy_bool->fT,wpAny_typeOf->Oy,wpAny_unpackItems_tuple->vm
open PySem.Around renaming under_plainId->yL
open PySem.AutoListH renaming list___mul___list_int_3->FC
open PySem.AutoSeq1 renaming list_extend_list_list_0->Bl
open PySem.BoolOp renaming And->Zn,Or->abI
open PySem.Builtin.BaseException renaming bexcPut->Kj
open PySem.Builtin.Int renaming intBits->k8
open PySem.Builtin.List renaming listExtendWith->qW,listFitsIndex->kI,listLengthHint->LP,listSameRef->tF,listSubscript?->LQ,listTooLong->i8
open PySem.Builtin.Range renaming rangeFitsLong->LS,rangeSize->mM,small->Bf
open PySem.Builtin.Str renaming glued->Zj,occurrences->Ru,strSliceIndices->qX,strKind->gB
open PySem.Calls renaming Constant_str->oK,Name_function_global->yQ,call_len_list->NL,spliced_cons->BE
open PySem.Challenge renaming pw_pq0651_01->Kn,rw_pq0651_01->cp
open PySem.Code renaming builtin->tG,quiet_builtin->Bq
open PySem.DictEntry renaming refKey->GC
open PySem.Expr.Attribute renaming elim->pO
open PySem.Expr.BinOp renaming elim->vq
open PySem.Expr.BoolOp renaming elim->tH
open PySem.Expr.Call renaming elim->w9
open PySem.Expr.Compare renaming elim->sp
open PySem.Expr.Constant renaming elim->qY
open PySem.Expr.Dict renaming elim->xa
open PySem.Expr.IfExp renaming elim->vt
open PySem.Expr.List renaming elim->xc
open PySem.Expr.ListComp renaming elim->qZ
open PySem.Expr.Name renaming elim->xe
open PySem.Expr.Slice renaming elim->vu
open PySem.Expr.Subscript renaming elim->pP
open PySem.Expr.Tuple renaming elim->jr
open PySem.Expr.UnaryOp renaming elim->sq
open PySem.F renaming args_str_split_2->q6,entry_str_split->sr,plainAttrs_list->su,plain_list_iadd->E2,slot_int_rmul->Ic,slot_str_join->vv,slot_str_replace->q7,slot_str_split->nP,type_str_replace->Bs,excBase_Exception->gE
open PySem.Heap renaming MadeExcOf->Kk,SameBut->i9,dictOf_iff->js,get?_none_of_le->yP,get?_push_at->E3,get?_push_of_some->bH,get?_push_size->br,get?_update_ne->Bg,get?_update_self->jW,lt_size->cz,size_push->p8
open PySem.Heap.SameBut renaming update->jj
open PySem.IsL renaming update->Zo
open PySem.MeetsSeq renaming list_pop_last->Ko
open PySem.NameKind renaming cell->eM,free->dB
open PySem.Obj renaming mapSeq->Ik,putName->Ry
open PySem.Pairs renaming nil->Ww
open PySem.PyData renaming keyHash->qa
open PySem.ScopeKind renaming function->lI
open PySem.Sem.pure renaming elim->zV
open PySem.Stmt.Assign renaming elim->tS
open PySem.Stmt.Continue renaming elim->ra
open PySem.Stmt.Expr renaming elim->xh
open PySem.Stmt.For renaming elim->zW
open PySem.Stmt.If renaming elim->BA
open PySem.Stmt.Return renaming elim->tT
open PySem.Stmt.While renaming elim->vz
open PySem.Str renaming append->UE,empty->Wx,length->UF,ofString->lJ
open PySem.StrLaws renaming occBody->et,occ_eq->xi,subAt_eq->tV
open PySem.Txt renaming join->Ou,replace->RE,split->LV
open PySem.Value renaming int->BB,isStr->kU,noConfusion->sw,ref->og,str->gw
open PySem.Value.int renaming elim->xj
open PySem.Value.ref renaming elim->xk
open PySem.Value.str renaming elim->xm
open PySem.W renaming Frag->dL,Looks->Ii,SharedT->qb,boot_drawn->s5,boot_heap->jw,boot_toks->vA,callWith_of->FG,look_both->BD,looks_clsIn->wC,looks_findIn->tW,plainGet_of->qF,set_plain->LW
open PySem.W.Fast renaming named_eq->oc,sDec_eq->bF,te10110043849684766642->mf,te10501279942588096481->Eg,te10792542408131684335->fE,te11788848310118352699->Eh,te11892475500146522536->Ei,te12563942051412417395->mh,te12749700546528644094->Ej,te12862048085361865435->Ek,te12879404354523853263->mi,te13343964577679436407->El,te13582783067957832011->Em,te14082659384304107361->En,te14364793385576792824->dZ,te14374325043358763698->Eo,te14412699480532031325->Ep,te15667345088766844465->Er,te16286561074155671207->Es,te17095254045102204799->mj,te17119622794617984870->fF,te17868728402115742887->Et,te18344453789297297638->fG,te2357444279172408678->Fc,te2368527892694137696->aK,te3471404346716756564->bZ,te4187177175401517315->mR,te4274047373036748609->Fd,te4579403493507170074->Fe,te482687673346738481->FF,te4857012375875476094->Ff,te5318747976498570220->iP,te6984425678791042302->iQ,te7723801398212525404->Fg,te797321630700447069->nj,te8179353310426384613->Fh,te8326940854005059898->iR,te8377067652309620493->Fi,te9558739934217749035->Fj,te9572597257264208301->mT,te9706382859710513879->Fk,te9807087744658564304->Fl
open PySem.W.KIN renaming call_text->SA
open PySem.W.Looks renaming of_pure->rJ
open PySem.W.R renaming allR_eq->cQ,anyR_eq->Zl,filterR_eq->UB,mapR_eq->Zm
open PySem.W.S renaming strDecS_eq->UC
open PySem.W.WData renaming bool->yT,int->BC
open PySem.Walks renaming dictKeys->Kp
open PySem.Within renaming cons->RG,nil->UG
open UInt8 renaming ofNat->RF
open PySem PySem.W PySem.Calls PyProof.Rows
noncomputable section
namespace Mine
abbrev ac:=List Nat
theorem ae.{u}{α:Sort u}{a b:α}:cond false a b=b:=rfl
theorem af.{u}{α:Sort u}{a b:α}:cond true a b=a:=rfl
theorem ag{p:Prop}[Decidable p](h:decide p=true):p:=of_decide_eq_true h
theorem nn{α:Type}{P:Prop}{r:α}(h:none=some r):P:=Option.noConfusion rfl (heq_of_eq h)
theorem ff{P:Prop}(h:false=true):P:=Bool.noConfusion h
theorem s2{α β:Type}{P:α->β->Prop}{a c:α}{b d:β}(e:some (a,b)=some (c,d))(h:P a b):P c d:=by
 cases e;exact h
theorem s1{α:Type}{P:α->Prop}{a c:α}(e:some a=some c)(h:P a):P c:=by
 cases e;exact h
theorem bS{α:Type}{c:Bool}{x:Option α}{r:α}(h:(bif c then x else none)=some r):c=true/\x=some r:=by
 cases c with
 |true=>exact⟨rfl,h⟩
 |false=>cases h
theorem bN{α:Type}{c:Bool}{x:Option α}{r:α}(h:(bif c then none else x)=some r):c=false/\x=some r:=by
 cases c with
 |false=>exact⟨rfl,h⟩
 |true=>cases h
theorem kS{α:Type}{c:Bool}{x:Option α}{r:α}{P:Prop}(h:(bif c then x else none)=some r)(k:c=true->x=some r->P):P:=k (bS h).1 (bS h).2
theorem kN{α:Type}{c:Bool}{x:Option α}{r:α}{P:Prop}(h:(bif c then none else x)=some r)(k:c=false->x=some r->P):P:=k (bN h).1 (bN h).2
section
variable{P:Prop}
theorem aqr{B0:Prop}{B1:Prop}(h:B0/\B1)(k:B0->B1->P):P:=by obtain⟨h0,h1⟩:=h;exact k h0 h1
theorem uj{B0:Prop}{B1:Prop}{B2:Prop}(h:B0/\B1/\B2)(k:B0->B1->B2->P):P:=by obtain⟨h0,h1,h2⟩:=h;exact k h0 h1 h2
theorem XD{B0:Prop}{B1:Prop}{B2:Prop}{B3:Prop}(h:B0/\B1/\B2/\B3)(k:B0->B1->B2->B3->P):P:=by obtain⟨h0,h1,h2,h3⟩:=h;exact k h0 h1 h2 h3
theorem aqs{B0:Prop}{B1:Prop}{B2:Prop}{B3:Prop}{B4:Prop}{B5:Prop}(h:B0/\B1/\B2/\B3/\B4/\B5)(k:B0->B1->B2->B3->B4->B5->P):P:=by obtain⟨h0,h1,h2,h3,h4,h5⟩:=h;exact k h0 h1 h2 h3 h4 h5
theorem anF{dq:Sort _}{B0:(x0:dq)->Prop}(h: ∃x0:dq,B0 x0)(k:(x0:dq)->B0 x0->P):P:=by obtain⟨x0,h0⟩:=h;exact k x0 h0
theorem fg{dq:Sort _}{B0:(x0:dq)->Prop}{B1:(x0:dq)->Prop}(h: ∃x0:dq,B0 x0/\B1 x0)(k:(x0:dq)->B0 x0->B1 x0->P):P:=by obtain⟨x0,h0,h1⟩:=h;exact k x0 h0 h1
theorem uk{dq:Sort _}{B0:(x0:dq)->Prop}{B1:(x0:dq)->Prop}{B2:(x0:dq)->Prop}(h: ∃x0:dq,B0 x0/\B1 x0/\B2 x0)(k:(x0:dq)->B0 x0->B1 x0->B2 x0->P):P:=by obtain⟨x0,h0,h1,h2⟩:=h;exact k x0 h0 h1 h2
theorem ul{dq:Sort _}{B0:(x0:dq)->Prop}{B1:(x0:dq)->Prop}{B2:(x0:dq)->Prop}{B3:(x0:dq)->Prop}(h: ∃x0:dq,B0 x0/\B1 x0/\B2 x0/\B3 x0)(k:(x0:dq)->B0 x0->B1 x0->B2 x0->B3 x0->P):P:=by obtain⟨x0,h0,h1,h2,h3⟩:=h;exact k x0 h0 h1 h2 h3
theorem anG{dq:Sort _}{B0:(x0:dq)->Prop}{B1:(x0:dq)->Prop}{B2:(x0:dq)->Prop}{B3:(x0:dq)->Prop}{B4:(x0:dq)->Prop}(h: ∃x0:dq,B0 x0/\B1 x0/\B2 x0/\B3 x0/\B4 x0)(k:(x0:dq)->B0 x0->B1 x0->B2 x0->B3 x0->B4 x0->P):P:=by obtain⟨x0,h0,h1,h2,h3,h4⟩:=h;exact k x0 h0 h1 h2 h3 h4
theorem aqt{dq:Sort _}{fR:(x0:dq)->Sort _}{B0:(x0:dq)->(x1:fR x0)->Prop}(h: ∃x0:dq,∃x1:fR x0,B0 x0 x1)(k:(x0:dq)->(x1:fR x0)->B0 x0 x1->P):P:=by obtain⟨x0,x1,h0⟩:=h;exact k x0 x1 h0
theorem Te{dq:Sort _}{fR:(x0:dq)->Sort _}{B0:(x0:dq)->(x1:fR x0)->Prop}{B1:(x0:dq)->(x1:fR x0)->Prop}(h: ∃x0:dq,∃x1:fR x0,B0 x0 x1/\B1 x0 x1)(k:(x0:dq)->(x1:fR x0)->B0 x0 x1->B1 x0 x1->P):P:=by obtain⟨x0,x1,h0,h1⟩:=h;exact k x0 x1 h0 h1
theorem agK{dq:Sort _}{fR:(x0:dq)->Sort _}{B0:(x0:dq)->(x1:fR x0)->Prop}{B1:(x0:dq)->(x1:fR x0)->Prop}{B2:(x0:dq)->(x1:fR x0)->Prop}(h: ∃x0:dq,∃x1:fR x0,B0 x0 x1/\B1 x0 x1/\B2 x0 x1)(k:(x0:dq)->(x1:fR x0)->B0 x0 x1->B1 x0 x1->B2 x0 x1->P):P:=by obtain⟨x0,x1,h0,h1,h2⟩:=h;exact k x0 x1 h0 h1 h2
theorem XE{dq:Sort _}{fR:(x0:dq)->Sort _}{B0:(x0:dq)->(x1:fR x0)->Prop}{B1:(x0:dq)->(x1:fR x0)->Prop}{B2:(x0:dq)->(x1:fR x0)->Prop}{B3:(x0:dq)->(x1:fR x0)->Prop}(h: ∃x0:dq,∃x1:fR x0,B0 x0 x1/\B1 x0 x1/\B2 x0 x1/\B3 x0 x1)(k:(x0:dq)->(x1:fR x0)->B0 x0 x1->B1 x0 x1->B2 x0 x1->B3 x0 x1->P):P:=by obtain⟨x0,x1,h0,h1,h2,h3⟩:=h;exact k x0 x1 h0 h1 h2 h3
theorem anH{dq:Sort _}{fR:(x0:dq)->Sort _}{B0:(x0:dq)->(x1:fR x0)->Prop}{B1:(x0:dq)->(x1:fR x0)->Prop}{B2:(x0:dq)->(x1:fR x0)->Prop}{B3:(x0:dq)->(x1:fR x0)->Prop}{B4:(x0:dq)->(x1:fR x0)->Prop}(h: ∃x0:dq,∃x1:fR x0,B0 x0 x1/\B1 x0 x1/\B2 x0 x1/\B3 x0 x1/\B4 x0 x1)(k:(x0:dq)->(x1:fR x0)->B0 x0 x1->B1 x0 x1->B2 x0 x1->B3 x0 x1->B4 x0 x1->P):P:=by obtain⟨x0,x1,h0,h1,h2,h3,h4⟩:=h;exact k x0 x1 h0 h1 h2 h3 h4
theorem acd{dq:Sort _}{fR:(x0:dq)->Sort _}{B0:(x0:dq)->(x1:fR x0)->Prop}{B1:(x0:dq)->(x1:fR x0)->Prop}{B2:(x0:dq)->(x1:fR x0)->Prop}{B3:(x0:dq)->(x1:fR x0)->Prop}{B4:(x0:dq)->(x1:fR x0)->Prop}{B5:(x0:dq)->(x1:fR x0)->Prop}(h: ∃x0:dq,∃x1:fR x0,B0 x0 x1/\B1 x0 x1/\B2 x0 x1/\B3 x0 x1/\B4 x0 x1/\B5 x0 x1)(k:(x0:dq)->(x1:fR x0)->B0 x0 x1->B1 x0 x1->B2 x0 x1->B3 x0 x1->B4 x0 x1->B5 x0 x1->P):P:=by obtain⟨x0,x1,h0,h1,h2,h3,h4,h5⟩:=h;exact k x0 x1 h0 h1 h2 h3 h4 h5
theorem XF{dq:Sort _}{fR:(x0:dq)->Sort _}{sk:(x0:dq)->(x1:fR x0)->Sort _}{B0:(x0:dq)->(x1:fR x0)->(x2:sk x0 x1)->Prop}{B1:(x0:dq)->(x1:fR x0)->(x2:sk x0 x1)->Prop}(h: ∃x0:dq,∃x1:fR x0,∃x2:sk x0 x1,B0 x0 x1 x2/\B1 x0 x1 x2)(k:(x0:dq)->(x1:fR x0)->(x2:sk x0 x1)->B0 x0 x1 x2->B1 x0 x1 x2->P):P:=by obtain⟨x0,x1,x2,h0,h1⟩:=h;exact k x0 x1 x2 h0 h1
theorem XG{dq:Sort _}{fR:(x0:dq)->Sort _}{sk:(x0:dq)->(x1:fR x0)->Sort _}{B0:(x0:dq)->(x1:fR x0)->(x2:sk x0 x1)->Prop}{B1:(x0:dq)->(x1:fR x0)->(x2:sk x0 x1)->Prop}{B2:(x0:dq)->(x1:fR x0)->(x2:sk x0 x1)->Prop}(h: ∃x0:dq,∃x1:fR x0,∃x2:sk x0 x1,B0 x0 x1 x2/\B1 x0 x1 x2/\B2 x0 x1 x2)(k:(x0:dq)->(x1:fR x0)->(x2:sk x0 x1)->B0 x0 x1 x2->B1 x0 x1 x2->B2 x0 x1 x2->P):P:=by obtain⟨x0,x1,x2,h0,h1,h2⟩:=h;exact k x0 x1 x2 h0 h1 h2
theorem XH{dq:Sort _}{fR:(x0:dq)->Sort _}{sk:(x0:dq)->(x1:fR x0)->Sort _}{B0:(x0:dq)->(x1:fR x0)->(x2:sk x0 x1)->Prop}{B1:(x0:dq)->(x1:fR x0)->(x2:sk x0 x1)->Prop}{B2:(x0:dq)->(x1:fR x0)->(x2:sk x0 x1)->Prop}{B3:(x0:dq)->(x1:fR x0)->(x2:sk x0 x1)->Prop}(h: ∃x0:dq,∃x1:fR x0,∃x2:sk x0 x1,B0 x0 x1 x2/\B1 x0 x1 x2/\B2 x0 x1 x2/\B3 x0 x1 x2)(k:(x0:dq)->(x1:fR x0)->(x2:sk x0 x1)->B0 x0 x1 x2->B1 x0 x1 x2->B2 x0 x1 x2->B3 x0 x1 x2->P):P:=by obtain⟨x0,x1,x2,h0,h1,h2,h3⟩:=h;exact k x0 x1 x2 h0 h1 h2 h3
theorem aqu{dq:Sort _}{fR:(x0:dq)->Sort _}{sk:(x0:dq)->(x1:fR x0)->Sort _}{B0:(x0:dq)->(x1:fR x0)->(x2:sk x0 x1)->Prop}{B1:(x0:dq)->(x1:fR x0)->(x2:sk x0 x1)->Prop}{B2:(x0:dq)->(x1:fR x0)->(x2:sk x0 x1)->Prop}{B3:(x0:dq)->(x1:fR x0)->(x2:sk x0 x1)->Prop}{B4:(x0:dq)->(x1:fR x0)->(x2:sk x0 x1)->Prop}(h: ∃x0:dq,∃x1:fR x0,∃x2:sk x0 x1,B0 x0 x1 x2/\B1 x0 x1 x2/\B2 x0 x1 x2/\B3 x0 x1 x2/\B4 x0 x1 x2)(k:(x0:dq)->(x1:fR x0)->(x2:sk x0 x1)->B0 x0 x1 x2->B1 x0 x1 x2->B2 x0 x1 x2->B3 x0 x1 x2->B4 x0 x1 x2->P):P:=by obtain⟨x0,x1,x2,h0,h1,h2,h3,h4⟩:=h;exact k x0 x1 x2 h0 h1 h2 h3 h4
end
inductive AV where
 |unb
 |none
 |opq
 |bool(b:Bool)
 |int(i:Int)
 |str(s:List Nat)
 |bytes(s:List UInt8)
 |tup(l:List AV)
 |lst(l:List AV)
 |frz(c:Nat)(ks:List Nat)(vs:List AV)
 |dct(ks:List (List Nat))(vs:List AV)
 |dcti(ks:List Int)(vs:List AV)
 |rng(a b:Nat)
 |ref(a:Nat)
 |glob(v:ah)
 deriving Inhabited
abbrev aa:=List AV
inductive bJ where
 |lst(l:List AV)
 |inst(c:Nat)(ks:List Nat)(vs:List AV)
 |dct(ks:List (List Nat))(vs:List AV)
 |orc(k:Nat)(l:List AV)
 deriving Inhabited
mutual
noncomputable def noRef:AV->Bool
 | .ref _=>false
 | .tup l=>aN l
 | .lst l=>aN l
 | .frz _ _ l=>aN l
 | .dct _ l=>aN l
 | .dcti _ l=>aN l
 |_=>true
noncomputable def aN:List AV->Bool
 |[]=>true
 |a::l=>noRef a&&aN l
end
noncomputable def EA:bJ->Bool
 | .lst l=>aN l
 | .inst _ _ l=>aN l
 | .dct _ l=>aN l
 | .orc _ _=>false
noncomputable def IW(K:dL)(C:aC)(name:Str):Bool:=plainGet K C name&&hasDictIn K C&&(match findIn K (.ref C) name with
 |some attr=>noGet K attr
 |none=>false)&&findIn K (.ref C) "__setattr__" ==some (some (.builtin "object.__setattr__"))&&plainOver K C&&takerIn K C name==some none
noncomputable def S6(c k:Nat):Bool:=am c 1021&&am k 18
structure PC where
 prog:gg
 w:d5
 K:dL
 fname:Nat->Str
 pg:bM
 mg:Str->Option ah
 mb:Str->Option ah
 g:pg.Ns mainGlobals mg
 b:pg.Ns builtinsNs mb
 nolimit:pg.NoLimit
 boot: ∀x:Str,x≠ "__name__" ->mb x=bootBuiltins x
 inK:K.In pg
 sys: ∃o,pg.get? sysModules=some o
 cls:Nat->Bool
 nf:Nat
 attr: ∀c k,cls c=true->k<nf->S6 c k=false->IW K c (fname k)=true
 conc:Nat->List AV->bJ->Prop
 concFree: ∀k l c,conc k l c->EA c=true
 concInst: ∀k l c,conc k l c->cls k=true-> ∃ks vs,c= .inst k ks vs
 fnameInj: ∀i j,i<nf->j<nf->fname i=fname j->i=j
structure Wd where
 ρ:Nat->Option (aC×aC)
 im:aC->Option Obj
 pr:aC->Option Obj
noncomputable def aO(s:ac):Str:=⟨s.toArray⟩
abbrev tw(vs:List ah)(n:Nat):Obj:={cls:=.type "tuple",data:=.seq vs.toArray n}
abbrev dz(vs:List ah)(n:Nat):Obj:={cls:=.type "list",data:=.seq vs.toArray n}
noncomputable def oX(C:PC):List Nat->List ah->List ik->Prop
 |k::ks,v::vs,e::es=>k<C.nf/\(∃t,e.key= .str (C.fname k) t)/\e.val=v/\oX C ks vs es
 |[],[],[]=>True
 |_,_,_=>False
def Ev(C:PC)(ks:List (List Nat))(vs:List ah)(o:Obj):Prop:=ks.length=vs.length/\o.IsDictOf (strKind C.prog C.w) ((ks.map aO).zip vs)
def abN(C:PC)(ks:List Int)(vs:List ah)(o:Obj):Prop:=ks.length=vs.length/\o.IsDictOf (intKind C.prog C.w) (ks.zip vs)
mutual
noncomputable def V(C:PC)(W:Wd):AV->ah->Prop
 | .unb,_=>False
 | .none,v=>v= .none
 | .opq,_=>True
 | .bool b,v=>v= .bool b
 | .int i,v=> ∃t,v= .int i t
 | .str s,v=> ∃t,v= .str (aO s) t
 | .bytes s,v=> ∃t,v= .bytes s.toArray t
 | .tup l,v=> ∃x n vs,v= .ref x/\W.im x=some (tw vs n)/\VL C W l vs
 | .lst l,v=> ∃x n vs,v= .ref x/\W.im x=some (dz vs n)/\VL C W l vs
 | .frz c ks fs,v=> ∃x d es n vs,v= .ref x/\C.cls c=true/\W.im x=some (instObj c d)/\W.im d=some (dictOf es n)/\VL C W fs vs/\oX C ks vs es
 | .dct ks fs,v=> ∃x o vs,v= .ref x/\(x==sysModules)=false/\W.im x=some o/\VL C W fs vs/\Ev C ks vs o
 | .dcti ks fs,v=> ∃x o vs,v= .ref x/\(x==sysModules)=false/\W.im x=some o/\VL C W fs vs/\abN C ks vs o
 | .rng a b,v=> ∃x t u w,v= .ref x/\W.im x=some {cls:=.type "range",dict:=none,data:=.fields #[.int a t,.int b u,.int 1 w],slots:= #[]}/\a<2^20/\b<2^20
 | .ref a,v=> ∃p,W.ρ a=some p/\v= .ref p.1
 | .glob a,v=>v=a
noncomputable def VL(C:PC)(W:Wd):List AV->List ah->Prop
 |[],vs=>vs=[]
 |a::l,vs=> ∃v r,vs=v::r/\V C W a v/\VL C W l r
end
def Wd.le0(W W':Wd):Prop:=(∀a p,W.ρ a=some p->W'.ρ a=some p)/\(∀x o,W.im x=some o->W'.im x=some o)
def Wd.le(W W':Wd):Prop:=(∀a p,W.ρ a=some p->W'.ρ a=some p)/\(∀x o,W.im x=some o->W'.im x=some o)/\W'.pr=W.pr
theorem Wd.le.refl(W:Wd):W.le W:=⟨fun _ _ e=>e,fun _ _ e=>e,rfl⟩
theorem Wd.le.trans{W W' W'':Wd}(h:W.le W')(h':W'.le W''):W.le W'':=
 ⟨fun a p e=>h'.1 _ _ (h.1 a p e),fun x o q=>h'.2.1 x o (h.2.1 x o q),h'.2.2.trans h.2.2⟩
mutual
theorem V.mono0{C:PC}{W W':Wd}(h:W.le0 W'): ∀{a:AV} {v:ah},V C W a v->V C W' a v
 | .unb,_,x=>x
 | .none,_,x=>x
 | .opq,_,x=>x
 | .bool _,_,x=>x
 | .int _,_,x=>x
 | .str _,_,x=>x
 | .bytes _,_,x=>x
 | .tup _,_,y=>by obtain⟨x,n,vs,e,q,r⟩:=y;exact⟨x,n,vs,e,h.2 _ _ q,r.mono0 h⟩
 | .lst _,_,y=>by obtain⟨x,n,vs,e,q,r⟩:=y;exact⟨x,n,vs,e,h.2 _ _ q,r.mono0 h⟩
 | .frz _ _ _,_,y=>by obtain⟨x,d,es,n,vs,e,q0,q1,q2,r,z⟩:=y;exact⟨x,d,es,n,vs,e,q0,h.2 _ _ q1,h.2 _ _ q2,r.mono0 h,z⟩
 | .dct _ _,_,y=>by obtain⟨x,o,vs,e,q0,q1,r,z⟩:=y;exact⟨x,o,vs,e,q0,h.2 _ _ q1,r.mono0 h,z⟩
 | .dcti _ _,_,y=>by obtain⟨x,o,vs,e,q0,q1,r,z⟩:=y;exact⟨x,o,vs,e,q0,h.2 _ _ q1,r.mono0 h,z⟩
 | .rng _ _,_,y=>by obtain⟨x,t,u,w,e,q,z⟩:=y;exact⟨x,t,u,w,e,h.2 _ _ q,z⟩
 | .ref _,_,y=>by obtain⟨p,e,q⟩:=y;exact⟨p,h.1 _ _ e,q⟩
 | .glob _,_,x=>x
theorem VL.mono0{C:PC}{W W':Wd}(h:W.le0 W'): ∀{l:aa} {vs:List ah},VL C W l vs->VL C W' l vs
 |[],_,x=>x
 |_::_,_,⟨v,r,e,q,z⟩=>⟨v,r,e,q.mono0 h,z.mono0 h⟩
end
theorem Wd.le.to0{W W':Wd}(h:W.le W'):W.le0 W':=⟨h.1,h.2.1⟩
theorem V.mono{C:PC}{W W':Wd}(h:W.le W'){a:AV}{v:ah}(x:V C W a v):V C W' a v:=x.mono0 h.to0
theorem VL.mono{C:PC}{W W':Wd}(h:W.le W'){l:aa}{vs:List ah}(x:VL C W l vs):VL C W' l vs:=x.mono0 h.to0
theorem VL.length{C:PC}{W:Wd}: ∀{l:aa} {vs:List ah},VL C W l vs->vs.length=l.length
 |[],_,e=>by rw[show _=[] from e];rfl
 |_::_,_,⟨_,_,e,_,z⟩=>by rw[e,bT,bT,z.length]
theorem VL.get{C:PC}{W:Wd}: ∀{l:aa} {vs:List ah} {i:Nat} {a:AV},VL C W l vs->l[i]? =some a-> ∃v,vs[i]? =some v/\V C W a v
 |_::_,_,0,_,⟨v,r,e,q,_⟩,h=>by cases h;subst e;exact⟨v,rfl,q⟩
 |_::_,_,i+1,_,⟨v,r,e,_,z⟩,h=>by
  subst e
  exact z.get (i:=i) h
theorem VL.append{C:PC}{W:Wd}: ∀{l l':aa} {vs vs':List ah},VL C W l vs->VL C W l' vs'->VL C W (l++l') (vs++vs')
 |[],_,_,_,e,h=>by rw[show _=[] from e];exact h
 |_::_,_,_,_,⟨v,r,e,q,z⟩,h=>by subst e;exact⟨v,_,rfl,q,z.append h⟩
theorem VL.nil{C:PC}{W:Wd}:VL C W [] []:=rfl
theorem VL.cons{C:PC}{W:Wd}{a:AV}{v:ah}{l:aa}{vs:List ah}(h:V C W a v)(r:VL C W l vs):VL C W (a::l) (v::vs):=⟨v,vs,rfl,h,r⟩
theorem VL.one{C:PC}{W:Wd}{a:AV}{v:ah}(h:V C W a v):VL C W [a] [v]:=⟨v,[],rfl,h,rfl⟩
theorem VL.set{C:PC}{W:Wd}: ∀{l:aa} {vs:List ah} {i:Nat} {a:AV} {v:ah},VL C W l vs->V C W a v->VL C W (l.set i a) (vs.set i v)
 |[],_,_,_,_,e,_=>by rw[show _=[] from e];rfl
 |_::_,_,0,_,_,⟨v,r,e,q,z⟩,h=>by subst e;exact⟨_,_,rfl,h,z⟩
 |_::_,_,i+1,_,_,⟨v,r,e,q,z⟩,h=>by subst e;exact⟨_,_,rfl,q,z.set (i:=i) h⟩
theorem VL.take{C:PC}{W:Wd}: ∀{l:aa} {vs:List ah} (i:Nat),VL C W l vs->VL C W (l.take i) (vs.take i)
 |[],_,i,e=>by rw[show _=[] from e];simp;exact VL.nil
 |_::_,_,0,_=>VL.nil
 |_::_,_,i+1,⟨v,r,e,q,z⟩=>by subst e;exact⟨_,_,rfl,q,z.take i⟩
theorem VL.drop{C:PC}{W:Wd}: ∀{l:aa} {vs:List ah} (i:Nat),VL C W l vs->VL C W (l.drop i) (vs.drop i)
 |[],_,i,e=>by rw[show _=[] from e];simp;exact VL.nil
 |_::_,_,0,h=>h
 |_::_,_,i+1,⟨v,r,e,q,z⟩=>by subst e;exact z.drop i
structure AS where
 next:Nat
 cells:List (Nat×bJ)
 deriving Inhabited
theorem bR{α:Type}(c:Bool)(x y:α):Bool.rec (motive:=fun _=>α) y x c=cond c x y:=by cases c<;>rfl
def lk(a:Nat)(l:List (Nat×bJ)):Option bJ:=bt (motive:=fun _=>Option bJ) none (fun p _ ih=>Bool.rec (motive:=fun _=>Option bJ) ih (some p.2) (am a p.1)) l
theorem acz(a:Nat):lk a []=none:=rfl
theorem nt(a b:Nat)(c:bJ)(r:List (Nat×bJ)):lk a ((b,c)::r)=bif am a b then some c else lk a r:=bR _ _ _
def lE(a:Nat)(c:bJ)(l:List (Nat×bJ)):List (Nat×bJ):=bt (motive:=fun _=>List (Nat×bJ)) [] (fun p r ih=>Bool.rec (motive:=fun _=>List (Nat×bJ)) (p::ih) ((p.1,c)::r) (am a p.1)) l
theorem ak3(a:Nat)(c:bJ):lE a c []=[]:=rfl
theorem EY(a:Nat)(c:bJ)(b:Nat)(d:bJ)(r:List (Nat×bJ)):lE a c ((b,d)::r)=bif am a b then(b,c)::r else(b,d)::lE a c r:=bR _ _ _
def drp(a:Nat)(l:List (Nat×bJ)):List (Nat×bJ):=bt (motive:=fun _=>List (Nat×bJ)) [] (fun p _ ih=>Bool.rec (motive:=fun _=>List (Nat×bJ)) (p::ih) ih (am a p.1)) l
theorem agG(a:Nat):drp a []=[]:=rfl
theorem adF(a b:Nat)(d:bJ)(r:List (Nat×bJ)):drp a ((b,d)::r)=bif am a b then drp a r else(b,d)::drp a r:=bR _ _ _
def AS.get(σ:AS)(a:Nat):Option bJ:=lk a σ.cells
def AS.set(σ:AS)(a:Nat)(c:bJ):AS:=⟨σ.next,lE a c σ.cells⟩
noncomputable def AS.alloc(σ:AS)(c:bJ):AS:=⟨σ.next+1,(σ.next,c)::σ.cells⟩
def AS.drop(σ:AS)(a:Nat):AS:=⟨σ.next,drp a σ.cells⟩
theorem gm(a b:Nat):am a b=decide (a=b):=by
 cases h:am a b with
 |true=>rw[decide_eq_true (aD h)]
 |false=>rw[decide_eq_false (Nat.ne_of_beq_eq_false h)]
theorem AS.get_set(σ:AS)(a:Nat)(c:bJ)(b:Nat):(σ.set a c).get b=if b=a then(σ.get a).map (fun _=>c)else σ.get b:=by
 obtain⟨n,l⟩:=σ
 simp only[AS.get,AS.set]
 induction l with
 |nil=>simp[acz,ak3]
 |cons p r ih=>
  obtain⟨x,d⟩:=p
  simp only[EY,nt,gm]
  by_cases h:a=x
  ·subst h
   simp only[decide_true,af,nt,gm,Option.map_some]
   by_cases q:b=a<;>simp[q]
  ·simp only[h,decide_false,ae,nt,gm]
   rw[ih]
   by_cases q:b=x
   ·subst q
    have:b≠a:=fun e=>h e.symm
    simp[this]
   ·simp[q]
theorem AS.get_alloc(σ:AS)(c:bJ)(b:Nat):(σ.alloc c).get b=if b=σ.next then some c else σ.get b:=by
 simp only[AS.get,AS.alloc,nt,gm]
 by_cases q:b=σ.next<;>simp[q]
theorem AS.get_drop(σ:AS)(a b:Nat):(σ.drop a).get b=if b=a then none else σ.get b:=by
 obtain⟨n,l⟩:=σ
 simp only[AS.get,AS.drop]
 induction l with
 |nil=>simp[acz,agG]
 |cons p r ih=>
  obtain⟨x,d⟩:=p
  simp only[adF,nt,gm]
  by_cases h:a=x
  ·subst h
   simp only[decide_true,af]
   rw[ih]
   by_cases q:b=a<;>simp[q]
  ·simp only[h,decide_false,ae,nt,gm]
   rw[ih]
   by_cases q:b=x
   ·subst q
    have:b≠a:=fun e=>h e.symm
    simp[this]
   ·simp[q]
def iT(C:PC)(W:Wd)(h:bM)(p:aC×aC):bJ->Prop
 | .lst l=>p.1=p.2/\ ∃vs n,h.get? p.2=some (dz vs n)/\VL C W l vs
 | .inst k ks fs=>C.cls k=true/\W.im p.1=some (instObj k p.2)/\ ∃es n vs,h.get? p.2=some (dictOf es n)/\VL C W fs vs/\oX C ks vs es
 | .dct ks fs=>p.1=p.2/\(p.2==sysModules)=false/\ ∃o vs,h.get? p.2=some o/\VL C W fs vs/\Ev C ks vs o
 | .orc _ _=>False
def d6(C:PC)(W:Wd)(h:bM)(p:aC×aC):bJ->Prop
 | .lst l=>p.1=p.2/\ ∃vs n,h.get? p.2=some (dz vs n)/\VL C W l vs
 | .inst k ks fs=>C.cls k=true/\W.im p.1=some (instObj k p.2)/\ ∃es n vs,h.get? p.2=some (dictOf es n)/\VL C W fs vs/\oX C ks vs es
 | .dct ks fs=>p.1=p.2/\(p.2==sysModules)=false/\ ∃o vs,h.get? p.2=some o/\VL C W fs vs/\Ev C ks vs o
 | .orc k l=> ∃c,C.conc k l c/\iT C W h p c
noncomputable def bJ.isOrc:bJ->Bool
 | .orc _ _=>true
 |_=>false
theorem d6.to0{C:PC}{W:Wd}{h:bM}{p:aC×aC}{c:bJ}(hc:c.isOrc=false)(x:d6 C W h p c):iT C W h p c:=by
 cases c with
 |orc=>cases hc
 |lst=>exact x
 |inst=>exact x
 |dct=>exact x
theorem iT.to{C:PC}{W:Wd}{h:bM}{p:aC×aC}{c:bJ}(x:iT C W h p c):d6 C W h p c:=by
 cases c with
 |orc=>exact x.elim
 |_=>exact x
structure cD(C:PC)(W:Wd)(σ:AS)(h:bM):Prop where
 base: ∀b o,C.pg.get? b=some o->W.im b=some o
 im: ∀b o,W.im b=some o->h.get? b=some o
 pr: ∀b o,W.pr b=some o->h.get? b=some o
 dis: ∀b o,W.pr b=some o->W.im b=none
 fresh: ∀a,σ.next<=a->W.ρ a=none
 cell: ∀a c,σ.get a=some c-> ∃p,W.ρ a=some p/\d6 C W h p c/\W.im p.2=none/\W.pr p.2=none
 inj: ∀a b ca cb p q,σ.get a=some ca->σ.get b=some cb->W.ρ a=some p->W.ρ b=some q->p.2=q.2->a=b
theorem iT.keeps{C:PC}{W:Wd}{h h':bM}{p:aC×aC}{c:bJ}(x:iT C W h p c)(k: ∀o,h.get? p.2=some o->h'.get? p.2=some o):iT C W h' p c:=by
 cases c with
 |lst l=>obtain⟨a,vs,n,b,r⟩:=x;exact⟨a,vs,n,k _ b,r⟩
 |inst cc ks fs=>obtain⟨q0,a,es,n,vs,b,r⟩:=x;exact⟨q0,a,es,n,vs,k _ b,r⟩
 |dct ks fs=>obtain⟨a,q0,o,vs,b,r⟩:=x;exact⟨a,q0,o,vs,k _ b,r⟩
 |orc=>exact x
theorem d6.keeps{C:PC}{W:Wd}{h h':bM}{p:aC×aC}{c:bJ}(x:d6 C W h p c)(k: ∀o,h.get? p.2=some o->h'.get? p.2=some o):d6 C W h' p c:=by
 cases c with
 |orc kk l=>obtain⟨c,q,x⟩:=x;exact⟨c,q,x.keeps k⟩
 |_=>exact(iT.keeps (x.to0 rfl) k).to
theorem iT.mono{C:PC}{W W':Wd}{h:bM}{p:aC×aC}{c:bJ}(l:W.le0 W')(x:iT C W h p c):iT C W' h p c:=by
 cases c with
 |lst _=>obtain⟨a,vs,n,b,r⟩:=x;exact⟨a,vs,n,b,r.mono0 l⟩
 |inst cc ks fs=>obtain⟨q0,a,es,n,vs,b,r,z⟩:=x;exact⟨q0,l.2 _ _ a,es,n,vs,b,r.mono0 l,z⟩
 |dct ks fs=>obtain⟨a,q0,o,vs,b,r,z⟩:=x;exact⟨a,q0,o,vs,b,r.mono0 l,z⟩
 |orc=>exact x
theorem d6.mono0{C:PC}{W W':Wd}{h:bM}{p:aC×aC}{c:bJ}(l:W.le0 W')(x:d6 C W h p c):d6 C W' h p c:=by
 cases c with
 |orc kk ll=>obtain⟨c,q,x⟩:=x;exact⟨c,q,x.mono l⟩
 |_=>exact(iT.mono l (x.to0 rfl)).to
theorem d6.mono{C:PC}{W W':Wd}{h:bM}{p:aC×aC}{c:bJ}(l:W.le W')(x:d6 C W h p c):d6 C W' h p c:=x.mono0 l.to0
theorem iT.some{C:PC}{W:Wd}{h:bM}{p:aC×aC}{c:bJ}(x:iT C W h p c): ∃o,h.get? p.2=some o:=by
 cases c with
 |lst _=>obtain⟨a,vs,n,b,r⟩:=x;exact⟨_,b⟩
 |inst cc ks fs=>obtain⟨q0,a,es,n,vs,b,r,z⟩:=x;exact⟨_,b⟩
 |dct ks fs=>obtain⟨a,q0,o,vs,b,r,z⟩:=x;exact⟨_,b⟩
 |orc=>exact x.elim
theorem d6.some{C:PC}{W:Wd}{h:bM}{p:aC×aC}{c:bJ}(x:d6 C W h p c): ∃o,h.get? p.2=some o:=by
 cases c with
 |orc kk l=>obtain⟨c,q,x⟩:=x;exact x.some
 |_=>exact(x.to0 rfl).some
section
variable{C:PC}{W:Wd}{σ:AS}{h h':bM}
theorem cD.keeps(R:cD C W σ h)(k: ∀b o,h.get? b=some o->h'.get? b=some o):cD C W σ h':=
 ⟨R.base,fun b o e=>k _ _ (R.im b o e),fun b o e=>k _ _ (R.pr b o e),R.dis,R.fresh,
  fun a c e=>let⟨p,a1,a2,a3⟩:=R.cell a c e;⟨p,a1,a2.keeps fun o q=>k _ _ q,a3⟩,R.inj⟩
theorem cD.keepsBut(R:cD C W σ h){d:aC}(hi:W.im d=none)(hp:W.pr d=none)(hc: ∀a c p,σ.get a=some c->W.ρ a=some p->p.2≠d)
  (k: ∀b o,b≠d->h.get? b=some o->h'.get? b=some o):cD C W σ h':=
 ⟨R.base,fun b o e=>k _ _ (fun q=>by rw[q,hi]at e;cases e) (R.im b o e),fun b o e=>k _ _ (fun q=>by rw[q,hp]at e;cases e) (R.pr b o e),R.dis,R.fresh,
  fun a c e=>let⟨p,a1,a2,a3⟩:=R.cell a c e;⟨p,a1,a2.keeps fun o q=>k _ _ (hc a c p e a1) q,a3⟩,R.inj⟩
theorem cD.set(R:cD C W σ h){a:Nat}{fb c:bJ}{p:aC×aC}(hg:σ.get a=some fb)(hp:W.ρ a=some p)(k: ∀b o,b≠p.2->h.get? b=some o->h'.get? b=some o)
  (hc:d6 C W h' p c):cD C W (σ.set a c) h':=by
 obtain⟨p',e,_,hi,hpr⟩:=R.cell a fb hg
 rw[hp]at e;cases e
 refine⟨R.base,fun b o e=>k _ _ (fun q=>by rw[q,hi]at e;cases e) (R.im b o e),fun b o e=>k _ _ (fun q=>by rw[q,hpr]at e;cases e) (R.pr b o e),R.dis,R.fresh,?_,?_⟩
 ·intro b cb e
  rw[AS.get_set]at e
  split at e
  ·rename_i q;subst q;rw[hg]at e;cases e;exact⟨p,hp,hc,hi,hpr⟩
  ·rename_i q
   obtain⟨p',a1,a2,a3⟩:=R.cell b cb e
   exact⟨p',a1,a2.keeps fun o z=>k _ _ (fun w=>q (R.inj _ _ _ _ _ _ e hg a1 hp w)) z,a3⟩
 ·have look: ∀b cb,(σ.set a c).get b=some cb-> ∃c',σ.get b=some c':=by
   intro b cb e
   rw[AS.get_set]at e
   split at e
   ·rename_i q;subst q;exact⟨_,hg⟩
   ·exact⟨_,e⟩
  intro x y cx cy px py ex ey
  obtain⟨_,ex⟩:=look _ _ ex
  obtain⟨_,ey⟩:=look _ _ ey
  exact R.inj x y _ _ px py ex ey
theorem cD.drop(R:cD C W σ h)(a:Nat):cD C W (σ.drop a) h:=by
 have look: ∀b cb,(σ.drop a).get b=some cb->σ.get b=some cb:=by
  intro b cb e
  rw[AS.get_drop]at e
  split at e
  ·cases e
  ·exact e
 exact⟨R.base,R.im,R.pr,R.dis,R.fresh,fun b cb e=>R.cell b cb (look _ _ e),fun x y cx cy px py ex ey=>R.inj x y cx cy px py (look _ _ ex) (look _ _ ey)⟩
noncomputable def Wd.addIm(W:Wd)(x:aC)(o:Obj):Wd:={W with im:=fun b=>if b=x then some o else W.im b}
theorem Wd.le_addIm{W:Wd}{x:aC}{o:Obj}(h: ∀o',W.im x=some o'->o'=o):W.le (W.addIm x o):=
 ⟨fun _ _ e=>e,fun b o' e=>by
  show(if b=x then some o else W.im b)=some o'
  split
  ·rename_i q;subst q;rw[h _ e]
  ·exact e,rfl⟩
theorem cD.addIm(R:cD C W σ h){x:aC}{o:Obj}(ho:h.get? x=some o)(hp:W.pr x=none)(hc: ∀a c p,σ.get a=some c->W.ρ a=some p->p.2≠x):cD C (W.addIm x o) σ h:=by
 have l:W.le (W.addIm x o):=Wd.le_addIm fun o' e=>by have:=R.im _ _ e;rw[ho]at this;exact(aI this).symm
 refine⟨fun b o' e=>l.2.1 _ _ (R.base b o' e),fun b o' e=> ?_,R.pr,fun b o' e=> ?_,R.fresh,fun a c e=> ?_,R.inj⟩
 ·by_cases q:b=x
  ·subst q
   have e:(if b=b then some o else W.im b)=some o':=e
   rw[if_pos rfl]at e;cases e;exact ho
  ·have e:(if b=x then some o else W.im b)=some o':=e
   rw[if_neg q]at e;exact R.im _ _ e
 ·show(if b=x then some o else W.im b)=none
  have e:W.pr b=some o':=e
  rw[if_neg (fun q=>by rw[q,hp]at e;cases e)];exact R.dis _ _ e
 ·obtain⟨p,a1,a2,a3,a4⟩:=R.cell a c e
  refine⟨p,a1,a2.mono l,?_,a4⟩
  show(if p.2=x then some o else W.im p.2)=none
  rw[if_neg (hc a c p e a1)];exact a3
theorem cD.freeze(R:cD C W σ h){a:Nat}{c:bJ}{p:aC×aC}{o:Obj}(hg:σ.get a=some c)(hp:W.ρ a=some p)(ho:h.get? p.2=some o):cD C (W.addIm p.2 o) (σ.drop a) h:=by
 refine(R.drop a).addIm ho ?_ ?_
 ·obtain⟨q,e,_,_,x⟩:=R.cell a c hg
  rw[hp]at e;cases e;exact x
 ·intro b cb q e e' z
  rw[AS.get_drop]at e
  split at e
  ·cases e
  ·rename_i n;exact n (R.inj _ _ _ _ _ _ e hg e' hp z)
noncomputable def Wd.addId(W:Wd)(a:Nat)(p:aC×aC):Wd:={W with ρ:=fun b=>if b=a then some p else W.ρ b}
theorem Wd.le_addId{W:Wd}{a:Nat}{p:aC×aC}(h:W.ρ a=none):W.le (W.addId a p):=
 ⟨fun b q e=>by
  show(if b=a then some p else W.ρ b)=some q
  split
  ·rename_i z;subst z;rw[h]at e;cases e
  ·exact e,fun _ _ e=>e,rfl⟩
theorem cD.alloc(R:cD C W σ h){c:bJ}{p:aC×aC}(hc:d6 C (W.addId σ.next p) h p c)(hi:W.im p.2=none)(hpr:W.pr p.2=none)(hn: ∀a c q,σ.get a=some c->W.ρ a=some q->q.2≠p.2):
  cD C (W.addId σ.next p) (σ.alloc c) h:=by
 have l:W.le (W.addId σ.next p):=Wd.le_addId (R.fresh _ (ax _))
 have old: ∀b cb,σ.get b=some cb->b≠σ.next:=fun b cb e q=>by
  obtain⟨p',z,_⟩:=R.cell b cb e
  rw[q,R.fresh _ (ax _)]at z;cases z
 have at_: ∀b,b≠σ.next->(W.addId σ.next p).ρ b=W.ρ b:=fun b q=>if_neg q
 have at0:(W.addId σ.next p).ρ σ.next=some p:=if_pos rfl
 refine⟨R.base,R.im,R.pr,R.dis,fun b hb=> ?_,fun b cb e=> ?_,fun x y cx cy px py ex ey hx hy z=> ?_⟩
 ·have hb:σ.next+1<=b:=hb
  rw[at_ _ (by omega)];exact R.fresh _ (by omega)
 ·rw[AS.get_alloc]at e
  split at e
  ·rename_i q;subst q;cases e;exact⟨p,at0,hc,hi,hpr⟩
  ·rename_i q
   obtain⟨p',a1,a2,a3⟩:=R.cell b cb e
   exact⟨p',(at_ _ q).trans a1,a2.mono l,a3⟩
 ·rw[AS.get_alloc]at ex ey
  split at ex<;>split at ey
  ·rename_i q q';rw[q,q']
  ·rename_i q q';subst q;rw[at0]at hx;cases hx;rw[at_ _ q']at hy;exact absurd z.symm (hn _ _ _ ey hy)
  ·rename_i q q';subst q';rw[at0]at hy;cases hy;rw[at_ _ q]at hx;exact absurd z (hn _ _ _ ex hx)
  ·rename_i q q';rw[at_ _ q]at hx;rw[at_ _ q']at hy;exact R.inj x y _ _ _ _ ex ey hx hy z
theorem cD.lt(R:cD C W σ h){a:Nat}{c:bJ}{p:aC×aC}(hg:σ.get a=some c)(hp:W.ρ a=some p):p.2<h.objs.size:=by
 obtain⟨q,e,x,_⟩:=R.cell a c hg
 rw[hp]at e;cases e
 obtain⟨o,ho⟩:=x.some
 exact cz ho
theorem cD.im_new(R:cD C W σ h){x:aC}(hx:h.objs.size<=x):W.im x=none:=by
 cases e:W.im x with
 |none=>rfl
 |some o=>exact absurd (cz (R.im _ _ e)) (b7.mpr hx)
theorem cD.pr_new(R:cD C W σ h){x:aC}(hx:h.objs.size<=x):W.pr x=none:=by
 cases e:W.pr x with
 |none=>rfl
 |some o=>exact absurd (cz (R.pr _ _ e)) (b7.mpr hx)
theorem cD.cell_new(R:cD C W σ h){x:aC}(hx:h.objs.size<=x): ∀a c p,σ.get a=some c->W.ρ a=some p->p.2≠x:=fun _ _ _ e e' q=>
 absurd (R.lt e e') (b7.mpr (q▸hx))
theorem cD.sys(R:cD C W σ h):sysModules<h.objs.size:=let⟨_,e⟩:=C.sys;cz (R.im _ _ (R.base _ _ e))
theorem eD(h:bM)(o:Obj): ∀b o',h.get? b=some o'->(h.push o).get? b=some o':=fun _ _ e=>bH _ e
theorem cD.pushIm(R:cD C W σ h){o:Obj}(hf:o.isFreed=false):W.le (W.addIm h.objs.size o)/\cD C (W.addIm h.objs.size o) σ (h.push o):=
 ⟨Wd.le_addIm (fun o' e=>by have z:=R.im_new (x:=h.objs.size) (ax _);rw[z]at e;cases e),
  (R.keeps (eD h o)).addIm (br _ hf) (R.pr_new (ax _)) (R.cell_new (ax _))⟩
end
structure eV(A:b6)(k:Nat):Prop where
 handled:A.handled=none
 depth:A.depth+k<recursionLimit
 units:A.units+4*k<cLine
theorem eV.le{A:b6}{k k':Nat}(R:eV A k)(h:k'<=k):eV A k':=⟨R.handled,by have:=R.depth;omega,by have:=R.units;omega⟩
theorem eV.in1{A:b6}{k:Nat}(R:eV A (k+1)):eV A.in1 k:=⟨R.handled,by have:=R.depth;show A.depth+k<_;omega,by have:=R.units;show A.units+1+4*k<_;omega⟩
theorem eV.deeper{A:b6}{k:Nat}(R:eV A (k+1))(env:Env):eV (A.deeper env) k:=⟨R.handled,by have:=R.depth;show A.depth+1+k<_;omega,by have:=R.units;show A.units+3+4*k<_;omega⟩
theorem eV.d0{A:b6}{k:Nat}(R:eV A k):A.depth<recursionLimit:=by have:=R.depth;omega
abbrev dH(C:PC):lp:=model C.prog C.w
def dy:ah->az->Prop:=fun _ _=>False
def Sm(s s':az):Prop:= ∃h t,s'={s with heap:=h,toks:=t}/\s.toks<=t
theorem Sm.refl(s:az):Sm s s:=⟨s.heap,s.toks,rfl,ax _⟩
theorem Sm.trans{s s' s'':az}:Sm s s'->Sm s' s''->Sm s s''
 |⟨_,_,e,l⟩,⟨h,t,e',l'⟩=>⟨h,t,by rw[e',e],by subst e;exact au l l'⟩
theorem Sm.mk'{nz s:az}(x:Sm nz s)(h:bM)(t:Nat)(ht:s.toks<=t):Sm nz {s with heap:=h,toks:=t}:=x.trans ⟨h,t,rfl,ht⟩
theorem Sm.le{s s':az}:Sm s s'->s.toks<=s'.toks
 |⟨_,_,e,l⟩=>by subst e;exact l
def Sn(nz s:az):Prop:=1<=nz.toks/\Sm nz s
theorem Sn.trans{s s' s'':az}(x:Sn s s')(y:Sm s' s''):Sn s s'':=⟨x.1,x.2.trans y⟩
theorem Sn.mk'{nz s:az}(x:Sn nz s)(h:bM)(t:Nat)(ht:s.toks<=t):Sn nz {s with heap:=h,toks:=t}:=⟨x.1,x.2.mk' h t ht⟩
theorem Sn.pos{nz s:az}(x:Sn nz s):1<=s.toks:=au x.1 x.2.le
abbrev Fm:=List AV
structure FX where
 C:PC
 env:Env
 names:Nat->Option Str
 own:List aC
 nz:az
def jd(X:FX)(h:bM)(m:Str->Option ah)(x:Str)(v:ah):Prop:=
 match X.env.kindOf x with
 |some .local=>m x=some v
 |some .cell |some .free=> ∃c,X.env.cells.lookup x=some c/\h.IsCell c (some v)
 |_=>False
structure vn(X:FX):Prop where
 kind:X.env.scope.kind= .function
 glob:X.env.globals=mainGlobals
 blt:X.env.builtins=builtinsNs
 loc:X.env.locals∈X.own
 apart:X.env.cells.Pairwise fun x y=>x.2≠y.2
 notL: ∀n c,X.env.cells.lookup n=some c->c≠X.env.locals
 plain: ∀(i:Nat) x,X.names i=some x->(x==("__debug__":Str)||x==("__classdict__":Str))=false
def FX.Has(X:FX)(c:aC):Prop:=c=X.env.locals\/(∃n,X.env.cells.lookup n=some c)\/c∈X.own
def s8(W:Wd)(σ:AS)(c:aC):Prop:= ∀a cc p,σ.get a=some cc->W.ρ a=some p->p.2≠c
structure pS(X:FX)(W:Wd)(fr:Fm)(σ:AS)(h:bM):Prop where
 vars: ∃m,h.Ns X.env.locals m/\ ∀(i:Nat) a,fr[i]? =some a->a= .unb\/ ∀x,X.names i=some x-> ∃v,jd X h m x v/\V X.C W a v
 cells: ∀n c,X.env.cells.lookup n=some c-> ∃v,h.IsCell c v
 apart: ∀c,X.Has c->s8 W σ c
 sep: ∀c,X.Has c->W.im c=none
 own: ∀c∈X.own,W.pr c=none
 live: ∀c,X.Has c-> ∃o,h.get? c=some o
structure St(X:FX)(W:Wd)(fr:Fm)(σ:AS)(s:az):Prop where
 rel:cD X.C W σ s.heap
 fr:pS X W fr σ s.heap
 sm:Sn X.nz s
def fU(X:FX)(W:Wd)(fr:Fm)(a:AV)(σ:AS)(v:ah)(s:az):Prop:= ∃W',W.le W'/\St X W' fr σ s/\V X.C W' a v
def KC(X:FX)(W:Wd)(fr:Fm)(l:aa)(σ:AS)(vs:List ah)(s:az):Prop:= ∃W',W.le W'/\St X W' fr σ s/\VL X.C W' l vs
def o5(X:FX)(W:Wd)(fr:Fm)(b:Bool)(σ:AS)(b':Bool)(s:az):Prop:=b'=b/\ ∃W',W.le W'/\St X W' fr σ s
def za(X:FX)(W:Wd)(fr:Fm)(σ:AS)(s:az):Prop:= ∃W',W.le W'/\St X W' fr σ s
abbrev EM:=Fm->AS->Option (AV×AS)
abbrev LM:=Fm->AS->Option (List AV×AS)
abbrev BM:=Fm->AS->Option (Bool×AS)
inductive kg where
 |next(fr:Fm)(σ:AS)
 |brk(fr:Fm)(σ:AS)
 |cont(fr:Fm)(σ:AS)
 |ret(a:AV)(σ:AS)
abbrev SM:=Fm->AS->Option kg
abbrev aW:=List AV->AS->Option (AV×AS)
def b8(X:FX)(k:Nat)(m:EM)(e:an):Prop:=
 ∀A,eV A k-> ∀W fr σ s,St X W fr σ s-> ∀a aj,m fr σ=some (a,aj)->wpAny (dH X.C) A (eval e X.env) (fU X W fr a aj) dy s
def Ak(X:FX)(k:Nat)(m:LM)(es:List an):Prop:=
 ∀A,eV A k-> ∀W fr σ s,St X W fr σ s-> ∀l aj,m fr σ=some (l,aj)-> ∀pos,wpAny (dH X.C) A (spliced (backTo pos (starEach es X.env))) (KC X W fr l aj) dy s
def np(X:FX)(k:Nat)(m:BM)(e:an):Prop:=
 ∀A,eV A k-> ∀W fr σ s,St X W fr σ s-> ∀b aj,m fr σ=some (b,aj)->wpAny (dH X.C) A (isTrue e X.env (eval e X.env)) (o5 X W fr b aj) dy s
def Cm(X:FX)(W:Wd)(r:kg)(f:Od)(s:az):Prop:=match r with
 | .next fr σ=>f= .next/\za X W fr σ s
 | .brk fr σ=>f= .brk/\za X W fr σ s
 | .cont fr σ=>f= .cont/\za X W fr σ s
 | .ret a σ=> ∃v fr,f= .ret v/\fU X W fr a σ v s
def lP(X:FX)(k:Nat)(m:SM)(st:bW):Prop:=
 ∀A,eV A k-> ∀W fr σ s,St X W fr σ s-> ∀r,m fr σ=some r->wpAny (dH X.C) A (exec st X.env) (Cm X W r) dy s
def mW(X:FX)(k:Nat)(m:SM)(sts:List bW):Prop:=
 ∀A,eV A k-> ∀W fr σ s,St X W fr σ s-> ∀r,m fr σ=some r->wpAny (dH X.C) A (execs sts X.env) (Cm X W r) dy s
def aF(C:PC)(k:Nat)(f:ah)(F:aW):Prop:=
 ∀A,eV A k-> ∀W σ s args vs,cD C W σ s.heap->VL C W args vs->1<=s.toks-> ∀a aj,F args σ=some (a,aj)->
  wpAny (dH C) A (call f vs) (fun v s'=>Sm s s'/\ ∃W',W.le W'/\cD C W' aj s'.heap/\V C W' a v) dy s
section
variable{X:FX}{k:Nat}{W W':Wd}{fr:Fm}{σ aj:AS}{s s':az}{h h':bM}
theorem fU.le{a:AV}{v:ah}(l:W.le W')(p:fU X W' fr a σ v s):fU X W fr a σ v s:=let⟨W'',a,b⟩:=p;⟨W'',l.trans a,b⟩
theorem KC.le{a:aa}{v:List ah}(l:W.le W')(p:KC X W' fr a σ v s):KC X W fr a σ v s:=let⟨W'',a,b⟩:=p;⟨W'',l.trans a,b⟩
theorem o5.le{a b:Bool}(l:W.le W')(p:o5 X W' fr a σ b s):o5 X W fr a σ b s:=let⟨e,W'',a,b⟩:=p;⟨e,W'',l.trans a,b⟩
theorem za.le(l:W.le W')(p:za X W' fr σ s):za X W fr σ s:=let⟨W'',a,b⟩:=p;⟨W'',l.trans a,b⟩
theorem Cm.le{r:kg}{f:Od}(l:W.le W')(p:Cm X W' r f s):Cm X W r f s:=by
 cases r with
 |next fr σ=>exact⟨p.1,p.2.le l⟩
 |brk fr σ=>exact⟨p.1,p.2.le l⟩
 |cont fr σ=>exact⟨p.1,p.2.le l⟩
 |ret a σ=>obtain⟨v,fr,e,q⟩:=p;exact⟨v,fr,e,q.le l⟩
theorem jd.keeps{m:Str->Option ah}{x:Str}{v:ah}(q:jd X h m x v)(k: ∀c n w,X.env.cells.lookup n=some c->h.IsCell c w->h'.IsCell c w):jd X h' m x v:=by
 unfold jd at q ⊢
 split
 ·simp_all
 ·simp_all;obtain⟨c,a,b⟩:=q;exact⟨c,a,k c _ _ a b⟩
 ·simp_all;obtain⟨c,a,b⟩:=q;exact⟨c,a,k c _ _ a b⟩
 ·simp_all
theorem pS.keeps(F:pS X W fr σ h)(hk: ∀b o,h.get? b=some o->h'.get? b=some o):pS X W fr σ h':=by
 obtain⟨⟨m,a,b⟩,c,d,xT,d',CI⟩:=F
 exact⟨⟨m,a.keeps hk,fun i x e=>(b i x e).imp id fun f y p=>let⟨v,q,r⟩:=f y p;⟨v,q.keeps fun c n w _ z=>z.keeps hk,r⟩⟩,fun n c' e=>let⟨v,z⟩:=c n c' e;⟨v,z.keeps hk⟩,d,xT,d',
  fun c hc=>let⟨o,e⟩:=CI c hc;⟨o,hk _ _ e⟩⟩
theorem St.keeps(T:St X W fr σ s)(hk: ∀b o,s.heap.get? b=some o->h'.get? b=some o)(t:Nat)(ht:s.toks<=t:=by first|exact ax _|exact cU _|omega):St X W fr σ {s with heap:=h',toks:=t}:=
 ⟨T.rel.keeps hk,T.fr.keeps hk,T.sm.mk' _ _ ht⟩
theorem St.toks(T:St X W fr σ s)(t:Nat)(ht:s.toks<=t:=by first|exact ax _|exact cU _|omega):St X W fr σ {s with toks:=t}:=T.keeps (h':=s.heap) (fun _ _ e=>e) t ht
theorem St.post(T:St X W fr σ s){a:AV}{v:ah}(q:V X.C W a v):fU X W fr a σ v s:=⟨W,.refl W,T,q⟩
theorem St.postU(T:St X W fr σ s):za X W fr σ s:=⟨W,.refl W,T⟩
theorem St.postB(T:St X W fr σ s)(b:Bool):o5 X W fr b σ b s:=⟨rfl,W,.refl W,T⟩
theorem pS.turn(F:pS X W fr σ h)(l:W.le W')(hn: ∀b o,W.im b=none->W'.im b=some o-> ¬X.Has b)
  (hc: ∀c,X.Has c->s8 W' aj c)(hk: ∀c,X.Has c-> ∀o,h.get? c=some o->h'.get? c=some o):pS X W' fr aj h':=by
 obtain⟨⟨m,a,b⟩,c,d,xT,d',CI⟩:=F
 have kc: ∀c n w,X.env.cells.lookup n=some c->h.IsCell c w->h'.IsCell c w:=fun c n w e ⟨o,p,q⟩=>⟨o,hk _ (.inr (.inl ⟨n,e⟩)) _ p,q⟩
 refine⟨⟨m,?_,fun i x e=>(b i x e).imp id fun f y p=>let⟨v,q,r⟩:=f y p;⟨v,q.keeps kc,r.mono l⟩⟩,fun n c' e=>let⟨v,z⟩:=c n c' e;⟨v,kc _ _ _ e z⟩,hc,fun c hcm=> ?_,fun c hcm=>by rw[l.2.2];exact d' c hcm,
  fun c hc=>let⟨o,e⟩:=CI c hc;⟨o,hk _ hc _ e⟩⟩
 ·obtain⟨o,es,ep,e,r⟩:=a;exact⟨o,es,ep,hk _ (.inl rfl) _ e,r⟩
 ·cases e:W'.im c with
  |none=>rfl
  |some o=>exact absurd hcm (hn _ _ (xT c hcm) e)
theorem pS.lt(F:pS X W fr σ h){c:aC}(hc:X.Has c):c<h.objs.size:=let⟨_,e⟩:=F.live c hc;cz e
theorem pS.grow(F:pS X W fr σ h)(l:W.le W')(hn: ∀b o,W.im b=none->W'.im b=some o->h.objs.size<=b)
  (hc: ∀a cc p,aj.get a=some cc->W'.ρ a=some p->(∃c,σ.get a=some c/\W.ρ a=some p)\/h.objs.size<=p.2)
  (hk: ∀b o,h.get? b=some o->h'.get? b=some o):pS X W' fr aj h':=
 F.turn l (fun b o e e' hb=>absurd (F.lt hb) (b7.mpr (hn b o e e'))) (fun c hb a cc p e e' q=>by
  rcases hc a cc p e e' with⟨c',e1,e2⟩|z
  ·exact F.apart _ hb a c' p e1 e2 q
  ·exact absurd (F.lt hb) (b7.mpr (q▸z))) fun c _ o e=>hk _ _ e
theorem St.pushIm(T:St X W fr σ s){o:Obj}(hf:o.isFreed=false)(t:Nat)(ht:s.toks<=t:=by first|exact ax _|exact cU _|omega):
  W.le (W.addIm s.heap.objs.size o)/\St X (W.addIm s.heap.objs.size o) fr σ {s with heap:=s.heap.push o,toks:=t}:=by
 obtain⟨l,R⟩:=T.rel.pushIm hf
 refine⟨l,R,T.fr.grow l (fun b o' e e'=> ?_) (fun a cc p e e'=>.inl ⟨cc,e,e'⟩) (eD _ _),T.sm.mk' _ _ ht⟩
 have e':(if b=s.heap.objs.size then some o else W.im b)=some o':=e'
 split at e'
 ·rename_i q;exact eN q.symm
 ·rw[e]at e';cases e'
theorem St.pushLst(T:St X W fr σ s){l:aa}{vs:List ah}(q:VL X.C W l vs)(t:Nat)(ht:s.toks<=t:=by first|exact ax _|exact cU _|omega):
  W.le (W.addId σ.next (s.heap.objs.size,s.heap.objs.size))/\St X (W.addId σ.next (s.heap.objs.size,s.heap.objs.size)) fr (σ.alloc (.lst l)) {s with heap:=s.heap.push (dz vs 0),toks:=t}:=by
 have le:W.le (W.addId σ.next (s.heap.objs.size,s.heap.objs.size)):=Wd.le_addId (T.rel.fresh _ (ax _))
 refine⟨le,(T.rel.keeps (eD _ _)).alloc ⟨rfl,vs,0,br _ rfl,q.mono le⟩ (T.rel.im_new (ax _)) (T.rel.pr_new (ax _)) (T.rel.cell_new (ax _)),
  T.fr.grow le (fun b o e e'=>by rw[show W.im b=some o from e']at e;cases e) (fun a cc p e e'=> ?_) (eD _ _),T.sm.mk' _ _ ht⟩
 rw[AS.get_alloc]at e
 by_cases z:a=σ.next
 ·subst z
  have e':(if σ.next=σ.next then some (s.heap.objs.size,s.heap.objs.size)else W.ρ σ.next)=some p:=e'
  rw[if_pos rfl]at e';cases e';exact .inr (ax _)
 ·rw[if_neg z]at e
  have e':(if a=σ.next then some (s.heap.objs.size,s.heap.objs.size)else W.ρ a)=some p:=e'
  rw[if_neg z]at e';exact .inl ⟨cc,e,e'⟩
theorem St.pushDct(T:St X W fr σ s)(t:Nat)(ht:s.toks<=t:=by first|exact ax _|exact cU _|omega):
  W.le (W.addId σ.next (s.heap.objs.size,s.heap.objs.size))/\St X (W.addId σ.next (s.heap.objs.size,s.heap.objs.size)) fr (σ.alloc (.dct [] [])) {s with heap:=s.heap.push (dictOf [] 0),toks:=t}:=by
 have le:W.le (W.addId σ.next (s.heap.objs.size,s.heap.objs.size)):=Wd.le_addId (T.rel.fresh _ (ax _))
 refine⟨le,(T.rel.keeps (eD _ _)).alloc ⟨rfl,by simpa using oP T.rel.sys,_,[],br _ rfl,VL.nil,rfl,#[],0,⟨rfl,rfl,rfl⟩,rfl,fun _ he=>by simp at he,Ww,by simp⟩ (T.rel.im_new (ax _)) (T.rel.pr_new (ax _)) (T.rel.cell_new (ax _)),
  T.fr.grow le (fun b o e e'=>by rw[show W.im b=some o from e']at e;cases e) (fun a cc p e e'=> ?_) (eD _ _),T.sm.mk' _ _ ht⟩
 rw[AS.get_alloc]at e
 by_cases z:a=σ.next
 ·subst z
  have e':(if σ.next=σ.next then some (s.heap.objs.size,s.heap.objs.size)else W.ρ σ.next)=some p:=e'
  rw[if_pos rfl]at e';cases e';exact .inr (ax _)
 ·rw[if_neg z]at e
  have e':(if a=σ.next then some (s.heap.objs.size,s.heap.objs.size)else W.ρ a)=some p:=e'
  rw[if_neg z]at e';exact .inl ⟨cc,e,e'⟩
theorem ri{C:PC}{n:Nat}{p:aC×aC}:V C (W.addId n p) (.ref n) (.ref p.1):=⟨p,if_pos rfl,rfl⟩
theorem kX{x:aC}{o:Obj}:(W.addIm x o).im x=some o:=if_pos rfl
theorem St.set(T:St X W fr σ s){a:Nat}{fb c:bJ}{p:aC×aC}(hg:σ.get a=some fb)(hp:W.ρ a=some p)(hs:i9 p.2 s.heap h')(hc:d6 X.C W h' p c)(t:Nat)(ht:s.toks<=t:=by first|exact ax _|exact cU _|omega):
  St X W fr (σ.set a c) {s with heap:=h',toks:=t}:=by
 refine⟨T.rel.set hg hp (fun b o hb e=>hs.extBut b o hb e) hc,T.fr.turn (.refl _) (fun b o e e'=>by rw[e]at e';cases e') (fun d hd b cb q e e'=> ?_) (fun b hb o e=> ?_),T.sm.mk' _ _ ht⟩
 ·rw[AS.get_set]at e
  by_cases z:b=a
  ·subst z;exact T.fr.apart _ hd b fb q hg e'
  ·rw[if_neg z]at e;exact T.fr.apart _ hd b cb q e e'
 ·exact hs.extBut b o (fun q=>T.fr.apart _ hb a fb p hg hp q.symm) e
theorem St.drop(T:St X W fr σ s)(a:Nat):St X W fr (σ.drop a) s:=by
 refine⟨T.rel.drop a,T.fr.turn (.refl _) (fun b o e e'=>by rw[e]at e';cases e') (fun d hd b cb q e e'=> ?_) (fun b _ o e=>e),T.sm⟩
 rw[AS.get_drop]at e
 by_cases z:b=a
 ·rw[if_pos z]at e;cases e
 ·rw[if_neg z]at e;exact T.fr.apart _ hd b cb q e e'
end
def ob{α β:Type}(o:Option α)(f:α->Option β):Option β:=bp (motive:=fun _=>Option β) none f o
def bA{α γ β:Type}(o:Option (α×γ))(f:α->γ->Option β):Option β:=bp (motive:=fun _=>Option β) none (fun p=>Oq (motive:=fun _=>Option β) f p) o
def od{α β:Type}(o:Option α)(f:α->Option β)(g:Option β):Option β:=bp (motive:=fun _=>Option β) g f o
theorem oE{α β:Type}{o:Option α}{f:α->Option β}{r:β}{P:Prop}(h:ob o f=some r)(k: ∀a,o=some a->f a=some r->P):P:=by
 cases o with
 |none=>exact nn h
 |some a=>exact k a rfl h
theorem fW{α γ β:Type}{o:Option (α×γ)}{f:α->γ->Option β}{r:β}{P:Prop}(h:bA o f=some r)(k: ∀a b,o=some (a,b)->f a b=some r->P):P:=by
 cases o with
 |none=>exact nn h
 |some p=>exact k p.1 p.2 rfl h
theorem odE{α β:Type}{o:Option α}{f:α->Option β}{g:Option β}{r:β}{P:Prop}(h:od o f g=some r)(k: ∀a,o=some a->f a=some r->P)(k':g=some r->P):P:=by
 cases o with
 |none=>exact k' h
 |some a=>exact k a rfl h
theorem bE{β:Type}{c:Bool}{x y:Option β}{r:β}{P:Prop}(h:(bif c then x else y)=some r)(k:c=true->x=some r->P)(k':c=false->y=some r->P):P:=by
 cases c with
 |true=>exact k rfl h
 |false=>exact k' rfl h
noncomputable def fe{β:Type}(a:AV)(f:Int->Option β):Option β:=match a with
 | .int i=>f i
 |_=>none
noncomputable def eg{β:Type}(a:AV)(f:List Nat->Option β):Option β:=match a with
 | .str s=>f s
 |_=>none
noncomputable def Hg{β:Type}(a:AV)(f:List AV->Option β):Option β:=match a with
 | .tup s=>f s
 |_=>none
noncomputable def iw{β:Type}(a:AV)(f:Nat->Option β):Option β:=match a with
 | .ref s=>f s
 |_=>none
noncomputable def tf{β:Type}(a:AV)(f:Option β):Option β:=match a with
 | .none=>f
 |_=>none
def m7{β:Type}(a:AV)(f:Nat->Option β):Option β:=match a with
 | .int i=>Int.rec (motive:=fun _=>Option β) f (fun _=>none) i
 |_=>none
def nw{β:Type}(σ:AS)(x:Nat)(f:List AV->Option β):Option β:=ob (σ.get x) fun c=>match c with
 | .lst l=>f l
 |_=>none
def CS{β:Type}(σ:AS)(x:Nat)(f:Nat->List Nat->List AV->Option β):Option β:=ob (σ.get x) fun c=>match c with
 | .inst c ks vs=>f c ks vs
 |_=>none
def Tc{β:Type}(σ:AS)(x:Nat)(f:List (List Nat)->List AV->Option β):Option β:=ob (σ.get x) fun c=>match c with
 | .dct ks vs=>f ks vs
 |_=>none
section
variable{β:Type}{r:β}{P:Prop}{a:AV}{σ:AS}{x:Nat}
theorem lstE{f:List AV->Option β}(h:nw σ x f=some r)(k: ∀l,σ.get x=some (.lst l)->f l=some r->P):P:=oE h fun c hc h=>by
 cases c with
 |lst l=>exact k l hc h
 |_=>exact nn h
theorem instE{f:Nat->List Nat->List AV->Option β}(h:CS σ x f=some r)(k: ∀c ks vs,σ.get x=some (.inst c ks vs)->f c ks vs=some r->P):P:=oE h fun c hc h=>by
 cases c with
 |inst c ks vs=>exact k c ks vs hc h
 |_=>exact nn h
theorem dctE{f:List (List Nat)->List AV->Option β}(h:Tc σ x f=some r)(k: ∀ks vs,σ.get x=some (.dct ks vs)->f ks vs=some r->P):P:=oE h fun c hc h=>by
 cases c with
 |dct ks vs=>exact k ks vs hc h
 |_=>exact nn h
@[elab_as_elim] theorem ly {Q:AV->Prop} {f:Int->Option β} (h:fe a f=some r) (k: ∀i,f i=some r->Q (.int i)):Q a:=by
 cases a<;>first|exact nn h|exact k _ h
@[elab_as_elim] theorem fh {Q:AV->Prop} {f:List Nat->Option β} (h:eg a f=some r) (k: ∀i,f i=some r->Q (.str i)):Q a:=by
 cases a<;>first|exact nn h|exact k _ h
@[elab_as_elim] theorem NR {Q:AV->Prop} {f:List AV->Option β} (h:Hg a f=some r) (k: ∀i,f i=some r->Q (.tup i)):Q a:=by
 cases a<;>first|exact nn h|exact k _ h
@[elab_as_elim] theorem iD {Q:AV->Prop} {f:Nat->Option β} (h:iw a f=some r) (k: ∀i,f i=some r->Q (.ref i)):Q a:=by
 cases a<;>first|exact nn h|exact k _ h
@[elab_as_elim] theorem Cy {Q:AV->Prop} {f:Option β} (h:tf a f=some r) (k:f=some r->Q .none):Q a:=by
 cases a<;>first|exact nn h|exact k h
@[elab_as_elim] theorem lz {Q:AV->Prop} {f:Nat->Option β} (h:m7 a f=some r) (k: ∀i,f i=some r->Q (.int (.ofNat i))):Q a:=by
 cases a with
 |int i=>cases i with
  |ofNat n=>exact k _ h
  |negSucc n=>exact nn h
 |_=>exact nn h
variable{C:PC}{W:Wd}{v:ah}{Q:ah->Prop}
@[elab_as_elim] theorem V.intE {i:Int} (h:V C W (.int i) v) (k: ∀t,Q (.int i t)):Q v:=by obtain⟨t,rfl⟩:=h;exact k t
@[elab_as_elim] theorem V.strE {i:ac} (h:V C W (.str i) v) (k: ∀t,Q (.str (aO i) t)):Q v:=by obtain⟨t,rfl⟩:=h;exact k t
@[elab_as_elim] theorem V.bytesE {i:List UInt8} (h:V C W (.bytes i) v) (k: ∀t,Q (.bytes i.toArray t)):Q v:=by obtain⟨t,rfl⟩:=h;exact k t
@[elab_as_elim] theorem V.tupE {l:aa} (h:V C W (.tup l) v) (k: ∀x n vs,W.im x=some (tw vs n)->VL C W l vs->Q (.ref x)):Q v:=by obtain⟨x,n,vs,rfl,q,z⟩:=h;exact k x n vs q z
@[elab_as_elim] theorem V.lstE {l:aa} (h:V C W (.lst l) v) (k: ∀x n vs,W.im x=some (dz vs n)->VL C W l vs->Q (.ref x)):Q v:=by obtain⟨x,n,vs,rfl,q,z⟩:=h;exact k x n vs q z
@[elab_as_elim] theorem V.dctE {ks:List (List Nat)} {fs:aa} (h:V C W (.dct ks fs) v) (k: ∀x o vs,(x==sysModules)=false->W.im x=some o->VL C W fs vs->Ev C ks vs o->Q (.ref x)):Q v:=by obtain⟨x,o,vs,rfl,q1,q2,q3,q4⟩:=h;exact k x o vs q1 q2 q3 q4
@[elab_as_elim] theorem V.dctiE {ks:List Int} {fs:aa} (h:V C W (.dcti ks fs) v) (k: ∀x o vs,(x==sysModules)=false->W.im x=some o->VL C W fs vs->abN C ks vs o->Q (.ref x)):Q v:=by obtain⟨x,o,vs,rfl,q1,q2,q3,q4⟩:=h;exact k x o vs q1 q2 q3 q4
@[elab_as_elim] theorem V.frzE {c:Nat} {ks:ac} {fs:aa} (h:V C W (.frz c ks fs) v) (k: ∀x d es n vs,C.cls c=true->W.im x=some (instObj c d)->W.im d=some (dictOf es n)->VL C W fs vs->oX C ks vs es->Q (.ref x)):Q v:=by obtain⟨x,d,es,n,vs,rfl,q1,q2,q3,q4,q5⟩:=h;exact k x d es n vs q1 q2 q3 q4 q5
@[elab_as_elim] theorem V.rngE {a b:Nat} (h:V C W (.rng a b) v) (k: ∀x t u w,W.im x=some {cls:=.type "range",dict:=none,data:=.fields #[.int a t,.int b u,.int 1 w],slots:= #[]}->a<2^20->b<2^20->Q (.ref x)):Q v:=by obtain⟨x,t,u,w,rfl,q1,q2,q3⟩:=h;exact k x t u w q1 q2 q3
@[elab_as_elim] theorem V.refE {a:Nat} (h:V C W (.ref a) v) (k: ∀p,W.ρ a=some p->Q (.ref p.1)):Q v:=by obtain⟨p,e,rfl⟩:=h;exact k p e
@[elab_as_elim] theorem V.noneE (h:V C W .none v) (k:Q .none):Q v:=(show v= .none from h)▸k
@[elab_as_elim] theorem V.boolE {b:Bool} (h:V C W (.bool b) v) (k:Q (.bool b)):Q v:=(show v= .bool b from h)▸k
@[elab_as_elim] theorem VL.consE {a:AV} {l:aa} {vs:List ah} {Q:List ah->Prop} (h:VL C W (a::l) vs) (k: ∀v r,V C W a v->VL C W l r->Q (v::r)):Q vs:=by obtain⟨v,r,rfl,q,z⟩:=h;exact k v r q z
@[elab_as_elim] theorem VL.nilE {vs:List ah} {Q:List ah->Prop} (h:VL C W [] vs) (k:Q []):Q vs:=(show vs=[] from h)▸k
@[elab_as_elim] theorem cD.lstE {h:bM} (R:cD C W σ h) {l:aa} (hg:σ.get x=some (.lst l)) (hv:V C W (.ref x) v) (k: ∀p vs n,W.ρ x=some p->p.1=p.2->h.get? p.1=some (dz vs n)->VL C W l vs->Q (.ref p.1)):Q v:=by
 obtain⟨p,q,rfl⟩:=hv
 obtain⟨p',e',⟨z,vs,n,g,r⟩,_⟩:=R.cell _ _ hg
 rw[q]at e';cases e'
 exact k p vs n q z (z▸g) r
@[elab_as_elim] theorem cD.instE {h:bM} (R:cD C W σ h) {c:Nat} {ks:ac} {fs:aa} (hg:σ.get x=some (.inst c ks fs)) (hv:V C W (.ref x) v) (k: ∀p es n vs,W.ρ x=some p->C.cls c=true->W.im p.1=some (instObj c p.2)->h.get? p.2=some (dictOf es n)->VL C W fs vs->oX C ks vs es->Q (.ref p.1)):Q v:=by
 obtain⟨p,q,rfl⟩:=hv
 obtain⟨p',e',⟨q0,q1,es,n,vs,q2,r,z⟩,_⟩:=R.cell _ _ hg
 rw[q]at e';cases e'
 exact k p es n vs q q0 q1 q2 r z
@[elab_as_elim] theorem cD.dctE {h:bM} (R:cD C W σ h) {ks:List (List Nat)} {fs:aa} (hg:σ.get x=some (.dct ks fs)) (hv:V C W (.ref x) v) (k: ∀p o vs,W.ρ x=some p->p.1=p.2->(p.1==sysModules)=false->h.get? p.1=some o->VL C W fs vs->Ev C ks vs o->Q (.ref p.1)):Q v:=by
 obtain⟨p,q,rfl⟩:=hv
 obtain⟨p',e',⟨z,q0,o,vs,g,r,z1⟩,_⟩:=R.cell _ _ hg
 rw[q]at e';cases e'
 exact k p o vs q z (z▸q0) (z▸g) r z1
end
def gt(l:aa)(i:Nat):AV:=bt (motive:=fun _=>Nat->AV) (fun _=>.unb) (fun a _ ih i=>hY (motive:=fun _=>AV) a (fun j _=>ih j) i) l i
noncomputable def pad(i:Nat)(v:AV):List AV:=hY (motive:=fun _=>List AV) [v] (fun _ ih=>.unb::ih) i
def put(l:aa)(i:Nat)(v:AV):List AV:=bt (motive:=fun _=>Nat->List AV) (fun i=>pad i v) (fun a r ih i=>hY (motive:=fun _=>List AV) (v::r) (fun j _=>a::ih j) i) l i
def CT(l:ac):Bool:=bt (motive:=fun _=>Bool) true (fun _ _ _=>false) l
def dp(l m:ac):Bool:=bt (motive:=fun _=>List Nat->Bool) CT (fun a _ ih m=>bt (motive:=fun _=>Bool) false (fun b t _=>Bool.rec (motive:=fun _=>Bool) false (ih t) (am a b)) m) l m
theorem Ta(a b:Bool):Bool.rec (motive:=fun _=>Bool) false b a=(a&&b):=by cases a<;>rfl
theorem PB(a b:Bool):Bool.rec (motive:=fun _=>Bool) b true a=(a||b):=by cases a<;>rfl
theorem agX:dp [] []=true:=rfl
theorem agW(b t):dp [] (b::t)=false:=rfl
theorem agV(a r):dp (a::r) []=false:=rfl
theorem agU(a r b t):dp (a::r) (b::t)=(am a b&&dp r t):=Ta _ _
def j7(l m:ac):Bool:=bt (motive:=fun _=>List Nat->Bool) (fun _=>true) (fun a _ ih m=>bt (motive:=fun _=>Bool) false (fun b t _=>Bool.rec (motive:=fun _=>Bool) false (ih t) (am a b)) m) l m
theorem aja(s):j7 [] s=true:=rfl
theorem aeB(a r):j7 (a::r) []=false:=rfl
theorem TV(a r b t):j7 (a::r) (b::t)=(am a b&&j7 r t):=Ta _ _
def zr(p s:ac):Bool:=bt (motive:=fun _=>Bool) (j7 p []) (fun b t ih=>Bool.rec (motive:=fun _=>Bool) ih true (j7 p (b::t))) s
theorem aih(p):zr p []=j7 p []:=rfl
theorem Je(p b t):zr p (b::t)=(j7 p (b::t)||zr p t):=PB _ _
def dN{α:Type}(l:List α):Nat:=bt (motive:=fun _=>Nat) 0 (fun _ _ ih=>kq ih) l
theorem iy{α:Type}(l:List α):dN l=l.length:=by
 induction l with
 |nil=>rfl
 |cons a r ih=>exact congrArg kq ih
def ui{α:Type}(n:Nat)(l:List α):List α:=bt (motive:=fun _=>Nat->List α) (fun _=>[]) (fun a r ih n=>hY (motive:=fun _=>List α) (a::r) (fun j _=>ih j) n) l n
theorem Td{α:Type}(l:List α): ∀n,ui n l=l.drop n:=by
 induction l with
 |nil=>intro n;cases n<;>rfl
 |cons a r ih=>intro n;cases n with
  |zero=>rfl
  |succ n=>exact ih n
def ak8{α:Type}(n:Nat)(l:List α):List α:=bt (motive:=fun _=>Nat->List α) (fun _=>[]) (fun a r ih n=>hY (motive:=fun _=>List α) [] (fun j _=>a::ih j) n) l n
theorem afv{α:Type}(l:List α): ∀n,ak8 n l=l.take n:=by
 induction l with
 |nil=>intro n;cases n<;>rfl
 |cons a r ih=>intro n;cases n with
  |zero=>rfl
  |succ n=>exact congrArg (a:: ·) (ih n)
def afT{α:Type}(l m:List α):List α:=bt (motive:=fun _=>List α) m (fun a _ ih=>a::ih) l
theorem Xe{α:Type}(l m:List α):afT l m=l++m:=by
 induction l with
 |nil=>rfl
 |cons a r ih=>exact congrArg (a:: ·) ih
def uB(c:Nat)(l:ac):Bool:=bt (motive:=fun _=>Bool) false (fun b _ ih=>Bool.rec (motive:=fun _=>Bool) ih true (am c b)) l
theorem Jo(c b r):uB c (b::r)=(am c b||uB c r):=PB _ _
def Qf(p s:ac):Bool:=bt (motive:=fun _=>Bool) (zr [] s) (fun c r _=>bt (motive:=fun _=>Bool) (uB c s) (fun d t _=>zr (c::d::t) s) r) p
noncomputable def C7:List Nat->List Nat->Bool
 |_,[]=>false
 |[],_::_=>true
 |a::r,b::t=>bc a b||(am a b&&C7 r t)
noncomputable def KY(a b:Int):Bool:=match a,b with
 | .ofNat a,.ofNat b=>am a b
 | .negSucc a,.negSucc b=>am a b
 |_,_=>false
noncomputable def C6(a b:Int):Bool:=match a,b with
 | .ofNat a,.ofNat b=>bc a b
 | .negSucc a,.negSucc b=>bc b a
 | .negSucc _,.ofNat _=>true
 | .ofNat _,.negSucc _=>false
noncomputable def Vn(b:AV):Option Bool:=match b with
 | .none=>some true
 | .int _=>some false
 | .str _=>some false
 | .tup _=>some false
 |_=>none
noncomputable def Z9(x:Int)(b:AV):Option Bool:=match b with
 | .int y=>some (KY x y)
 | .none=>some false
 |_=>none
def aaa(x:ac)(b:AV):Option Bool:=match b with
 | .str y=>some (dp x y)
 | .none=>some false
 |_=>none
noncomputable def PS(x:Bool)(b:AV):Option Bool:=match b with
 | .bool y=>some (x==y)
 |_=>none
noncomputable def I6(x:List UInt8)(b:AV):Option Bool:=match b with
 | .bytes y=>some (x==y)
 |_=>none
def Mc(a b:AV):Option Bool:=match a with
 | .none=>Vn b
 | .bool x=>PS x b
 | .int x=>Z9 x b
 | .str x=>aaa x b
 | .tup _=>tf b (some false)
 | .bytes x=>I6 x b
 |_=>none
noncomputable def CU(a:AV):Bool:=match a with
 | .tup _=>true
 |_=>false
noncomputable def KZ(f:AV->AV->Option Bool):List AV->List AV->Option Bool
 |[],[]=>some true
 |a::r,b::t=>ob (f a b) fun x=>ob (KZ f r t) fun y=>some (x&&y)
 |_,_=>some false
noncomputable def wJ:Nat->AV->AV->Option Bool
 |0,a,b=>Mc a b
 |n+1,a,b=>bif CU a&&CU b then Hg a fun l=>Hg b fun m=>KZ (wJ n) l m else Mc a b
noncomputable def dj(n:Nat):Bool:=cJ n 4000000
noncomputable def P0(l:aa):Option Bool:=bif dj l.length then some (!l.isEmpty)else none
def qV(σ:AS):AV->Option Bool
 | .none=>some false
 | .bool b=>some b
 | .int i=>some (!KY i 0)
 | .str s=>bif dj s.length then some (!s.isEmpty)else none
 | .tup l=>P0 l
 | .lst l=>P0 l
 | .ref a=>nw σ a P0
 |_=>none
def nG(σ:AS):AV->Option (List AV)
 | .tup l=>some l
 | .lst l=>some l
 | .ref a=>nw σ a some
 |_=>none
def ain(σ:AS):AV->Option (List AV×AS)
 | .tup l=>some (l,σ)
 | .lst l=>some (l,σ)
 | .str s=>some (s.map fun c=>.str [c],σ)
 | .dct ks _=>some (ks.map .str,σ)
 | .bytes b=>some (b.map fun x=>.int (ai x.toNat),σ)
 | .rng a b=>some ((co (b-a)).map fun i=>.int (ai (a+i)),σ)
 | .ref a=>nw σ a fun l=>some (l,σ.drop a)
 |_=>none
def fJ(σ:AS)(a:AV):Option (List AV×AS):=bA (ain σ a) fun l aj=>bif dj l.length then some (l,aj)else none
noncomputable def mK(i:Int):Bool:=cJ i.natAbs (2^4000)
def aqm(a b:AV):Option AV:=match a with
 | .int i=>fe b fun j=>some (.int (i+j))
 | .str s=>eg b fun t=>bif dj (dN s+dN t)then some (.str (afT s t))else none
 | .tup l=>Hg b fun m=>bif dj (l.length+m.length)&& !l.isEmpty&& !m.isEmpty then some (.tup (l++m))else none
 |_=>none
noncomputable def aqG(a b:AV):Option AV:=match a with
 | .int i=>fe b fun j=>bif mK i&&mK j then some (.int (i*j))else none
 | .str _=>fe b fun j=>bif C6 (-1000) j&&C6 j 1 then some (.str [])else none
 |_=>none
def anB(op:iH)(a b:AV):Option AV:=match op with
 | .Add=>aqm a b
 | .Sub=>fe a fun i=>fe b fun j=>some (.int (i-j))
 | .Mult=>aqG a b
 | .Mod=>fe a fun i=>fe b fun j=>bif KY j 0 then none else some (.int (i.fmod j))
 | .FloorDiv=>fe a fun i=>fe b fun j=>bif KY j 0|| !mK j then none else some (.int (i.fdiv j))
 | .Pow=>fe a fun i=>fe b fun j=>bif mK i&& !C6 j 0&&C6 j 1000 then some (.int (i^j.toNat))else none
 |_=>none
def iU(σ:AS):AV->Option (List AV)
 | .lst l=>some l
 | .ref a=>nw σ a some
 |_=>none
def aqo(op:iH)(a b:AV)(σ:AS):Option (AV×AS):=match op with
 | .Add=>ob (iU σ a) fun l=>ob (iU σ b) fun m=>bif dj (l.length+m.length)then some (.ref σ.next,σ.alloc (.lst (l++m)))else none
 | .Mult=>iw a fun x=>m7 b fun j=>bif bc j 100 then nw σ x (fun l=>bif cJ l.length 1000 then some (.ref σ.next,σ.alloc (.lst ((bL j l).flatten)))else none)else none
 |_=>none
def b4(op:iH)(a b:AV)(σ:AS):Option (AV×AS):=od (anB op a b) (fun c=>some (c,σ)) (aqo op a b σ)
def wK(x:ac)(l:List (List Nat)):Bool:=bt (motive:=fun _=>Bool) false (fun a _ ih=>Bool.rec (motive:=fun _=>Bool) ih true (dp a x)) l
theorem Xd(x):wK x []=false:=rfl
theorem Xc(x a r):wK x (a::r)=(dp a x||wK x r):=PB _ _
noncomputable def Xb(x:Int):List Int->Bool
 |[]=>false
 |a::r=>KY a x||Xb x r
noncomputable def nO:List AV->Option (List (List Nat))
 |[]=>some []
 |a::r=>eg a fun s=>ob (nO r) fun l=>some (s::l)
noncomputable def N0:List AV->Option (List Int)
 |[]=>some []
 |a::r=>fe a fun s=>ob (N0 r) fun l=>some (s::l)
def inL(x:AV)(l:aa):Option Bool:=match x with
 | .str p=>ob (nO l) fun ss=>some (wK p ss)
 | .int i=>ob (N0 l) fun is=>some (Xb i is)
 |_=>none
def inA(σ:AS)(x c:AV):Option Bool:=match c with
 | .str s=>eg x fun p=>some (Qf p s)
 | .dct ks _=>eg x fun p=>some (wK p ks)
 | .tup l=>inL x l
 | .lst l=>inL x l
 | .ref a=>ob (σ.get a) fun c=>match c with
  | .lst l=>inL x l
  | .dct ks _=>eg x fun p=>some (wK p ks)
  |_=>none
 |_=>none
def TP(o:Option Bool):Option Bool:=ob o fun b=>some !b
def PG(σ:AS):AV->Option (List (List Nat))
 | .dct ks _=>some ks
 | .ref a=>Tc σ a fun ks _=>some ks
 |_=>none
def rv{α β:Type}(l:List α)(m:List β):Bool:=am (dN l) (dN m)
def eqA(σ:AS)(a b:AV):Option Bool:=od (wJ 16 a b) some (od (iU σ a) (fun l=>ob (iU σ b) fun m=>bif rv l m then KZ (wJ 16) l m else some false)
 (ob (PG σ a) fun ks=>ob (PG σ b) fun ks'=>bif ks'.isEmpty then some ks.isEmpty else none))
noncomputable def lU:AV->Option Bool
 | .none=>some true
 | .opq=>none
 | .unb=>none
 | .glob _=>none
 |_=>some false
noncomputable def leA(a b:AV):Option Bool:=match a with
 | .int i=>fe b fun j=>some (!C6 j i)
 | .str s=>eg b fun t=>some (!C7 t s)
 |_=>none
def bO(op:g8)(a b:AV)(σ:AS):Option Bool:=match op with
 | .Eq=>eqA σ a b
 | .NotEq=>TP (eqA σ a b)
 | .Lt=>fe a fun i=>fe b fun j=>some (C6 i j)
 | .LtE=>leA a b
 | .Gt=>fe a fun i=>fe b fun j=>some (C6 j i)
 | .GtE=>fe a fun i=>fe b fun j=>some (!C6 i j)
 | .Is=>tf b (lU a)
 | .IsNot=>tf b (TP (lU a))
 | .In=>inA σ a b
 | .NotIn=>TP (inA σ a b)
def xW(k:Nat)(ks:ac)(vs:aa):Option AV:=bt (motive:=fun _=>List AV->Option AV) (fun _=>none) (fun x _ ih vs=>bt (motive:=fun _=>Option AV) none (fun v t _=>Bool.rec (motive:=fun _=>Option AV) (ih t) (some v) (am k x)) vs) ks vs
theorem XS(k x ks v vs):xW k (x::ks) (v::vs)=bif am k x then some v else xW k ks vs:=bR _ _ _
noncomputable def tr(a:AV):Option AV:=match a with
 | .unb=>none
 | .opq=>none
 | .glob _=>none
 |a=>some a
def NY(c k:Nat)(ks:ac)(vs:aa):Option AV:=bif S6 c k then none else xW k ks vs
def aA(k:Nat)(a:AV)(σ:AS):Option AV:=match a with
 | .frz c ks vs=>ob (NY c k ks vs) fun v=>tr v
 | .ref x=>CS σ x fun c ks vs=>ob (NY c k ks vs) fun v=>tr v
 |_=>none
def HH{α:Type}(l:List α):Nat->Option α:=bt (motive:=fun _=>Nat->Option α) (fun _=>none) (fun a _ ih i=>hY (motive:=fun _=>Option α) (some a) (fun j _=>ih j) i) l
def Yu{α:Type}(l:List α)(i:Int):Option α:=match i with
 | .ofNat n=>bif dj n then HH l n else none
 | .negSucc n=>bif dj n&&bc n l.length then HH l (l.length-1-n)else none
noncomputable def NU(k:ac):List (List Nat)->List AV->Option AV
 |x::ks,v::vs=>bif dp x k then some v else NU k ks vs
 |_,_=>none
noncomputable def I4(k:Int):List Int->List AV->Option AV
 |x::ks,v::vs=>bif KY x k then some v else I4 k ks vs
 |_,_=>none
noncomputable def qO(k:ac)(v:AV):List (List Nat)->List AV->List (List Nat)×List AV
 |x::ks,w::vs=>bif dp x k then(x::ks,v::vs)else let r:=qO k v ks vs;(x::r.1,w::r.2)
 |_,_=>([k],[v])
def agC(σ:AS):AV->Option (List (List Nat)×List AV)
 | .dct ks vs=>some (ks,vs)
 | .ref x=>Tc σ x fun ks vs=>some (ks,vs)
 |_=>none
noncomputable def abR{β:Type}(a:AV)(f:List Int->List AV->Option β):Option β:=match a with
 | .dcti ks vs=>f ks vs
 |_=>none
def act(a i:AV)(σ:AS):Option AV:=match i with
 | .int j=>od (eg a some) (fun s=>ob (Yu s j) fun c=>some (.str [c])) (od (abR a fun ks vs=>some (I4 j ks vs)) (fun r=>r) (ob (nG σ a) fun l=>Yu l j))
 | .str k=>bA (agC σ a) fun ks vs=>NU k ks vs
 |_=>none
noncomputable def kz(n:Nat)(d:Nat):AV->Option Nat
 | .none=>some d
 | .int (.ofNat i)=>some (Ef i n)
 | .int (.negSucc i)=>some (n-(i+1))
 |_=>none
noncomputable def KW{α:Type}(l:List α)(a b:Nat):List α:=(l.drop a).take (b-a)
def PD{α:Type}(l:List α)(a b:Nat):List α:=ak8 (b-a) (ui a l)
theorem PE{α:Type}(l:List α)(a b:Nat):PD l a b=KW l a b:=by rw[PD,KW,afv,Td]
def an2(a lo hi:AV)(σ:AS):Option (AV×AS):=od (eg a some) (fun s=>bif dj (dN s)then ob (kz (dN s) 0 lo) (fun x=>ob (kz (dN s) (dN s) hi) fun y=>some (.str (PD s x y),σ))else none)
 (ob (iU σ a) fun l=>bif dj (dN l)then ob (kz (dN l) 0 lo) (fun x=>ob (kz (dN l) (dN l) hi) fun y=>some (.ref σ.next,σ.alloc (.lst (PD l x y))))else none)
def pr{α β γ:Type}(p:α×β)(f:α->β->γ):γ:=Oq (motive:=fun _=>γ) f p
noncomputable def pW(f:AV->AS->AV×AS):List AV->AS->List AV×AS
 |[],σ=>([],σ)
 |a::r,σ=>pr (f a σ) fun a' aj=>pr (pW f r aj) fun r' eW=>(a'::r',eW)
noncomputable def TM(sel:Nat->Bool)(f:AV->AS->AV×AS):List Nat->List AV->AS->List AV×AS
 |k::ks,v::vs,σ=>pr (bif sel k then f v σ else(v,σ)) fun v' aj=>pr (TM sel f ks vs aj) fun vs' eW=>(v'::vs',eW)
 |[],vs,σ=>(vs,σ)
 |_::_,[],σ=>([],σ)
def Tl(f:AV->AS->AV×AS)(sel:Nat->Bool)(x:Nat)(σ:AS):bJ->AV×AS
 | .lst l=>pr (pW f l (σ.drop x)) fun l' aj=>(.lst l',aj)
 | .inst c ks vs=>pr (TM sel f ks vs (σ.drop x)) fun vs' aj=>(.frz c ks vs',aj)
 | .dct ks vs=>pr (pW f vs (σ.drop x)) fun vs' aj=>(.dct ks vs',aj)
 | .orc _ _=>(.opq,σ)
noncomputable def ur(sel:Nat->Bool):Nat->AV->AS->AV×AS
 |0,a,σ=>(a,σ)
 |n+1,a,σ=>match a with
  | .ref x=>bp (motive:=fun _=>AV×AS) (.opq,σ) (fun c=>Tl (ur sel n) sel x σ c) (σ.get x)
  |a=>(a,σ)
def jL:Nat->AV->AS->AV×AS:=ur fun _=>true
abbrev gW:=AV->AS->Option aW
inductive T where
 |nop
 |cst(a:AV)
 |var(i:Nat)
 |glb(g:Nat)
 |bin(op:iH)(a b:T)
 |neg(a:T)
 |not(a:T)
 |and(a b:T)
 |or(a b:T)
 |ife(c a b:T)
 |cmp(op:g8)(a b:T)
 |cmp2(op op':g8)(a b c:T)
 |atr(k:Nat)(a:T)
 |idx(a i:T)
 |slc(a lo hi:T)
 |lst(l:T)
 |tup(l:T)
 |dic
 |dicI(k1 k2:Int)(a b:List Nat)
 |rep(c:Nat)(a:T)
 |call(f:Nat)(l:T)
 |meth(n:Nat)(o l:T)
 |nil
 |cons(a l:T)
 |comp(xs:List Nat)(it:T)(c:T)(elt:T)
 |comp2(x:Nat)(it:T)(y:Nat)(it2:T)(elt:T)
noncomputable def vS:List Nat->List AV->Fm->Option Fm
 |[],[],fr=>some fr
 |x::xs,a::l,fr=>vS xs l (put fr x a)
 |_,_,_=>none
def mw(xs:ac)(a:AV)(fr:Fm)(_:AS):Option Fm:=match xs with
 |[x]=>some (put fr x a)
 |xs=>Hg a fun l=>vS xs l fr
noncomputable def eO(xs:ac)(test:BM)(elt:EM):List AV->Fm->AS->Option (List AV×AS)
 |[],_,σ=>some ([],σ)
 |a::r,fr,σ=>ob (mw xs a fr σ) fun fr'=>bA (test fr' σ) fun t aj=>bif t then bA (elt fr' aj) (fun b eW=>bA (eO xs test elt r fr eW) fun l cO=>some (b::l,cO))else eO xs test elt r fr aj
noncomputable def jA(x:Nat)(it2:EM)(y:Nat)(elt:EM):List AV->Fm->AS->Option (List AV×AS)
 |[],_,σ=>some ([],σ)
 |a::r,fr,σ=>bA (it2 (put fr x a) σ) fun s aj=>bA (fJ aj s) fun l ay=>bA (eO [y] (fun _ σ=>some (true,σ)) elt l (put fr x a) ay) fun bs eW=>bA (jA x it2 y elt r fr eW) fun cs cO=>some (bs++cs,cO)
def ji(m:EM):BM:=fun fr σ=>bA (m fr σ) fun a aj=>ob (qV aj a) fun b=>some (b,aj)
def un(f:AV->AS->Option AV)(m:EM):EM:=fun fr σ=>bA (m fr σ) fun a aj=>ob (f a aj) fun b=>some (b,aj)
def bi(f:AV->AV->AS->Option (AV×AS))(m n:EM):EM:=fun fr σ=>bA (m fr σ) fun a aj=>bA (n fr aj) fun b eW=>f a b eW
def eJ(f:AV->AV->AS->Option Bool)(m n:EM):BM:=fun fr σ=>bA (m fr σ) fun a aj=>bA (n fr aj) fun b eW=>ob (f a b eW) fun r=>some (r,eW)
noncomputable def aiK(a:AV)(_:AS):Option AV:=fe a fun i=>some (.int (-i))
noncomputable def HT(c:Nat):List Nat->List Nat
 |[]=>[]
 |a::r=>bif am a c then HT c r else a::HT c r
noncomputable def ajR(c:Nat)(a:AV)(_:AS):Option AV:=eg a fun s=>bif dj s.length then some (.str (HT c s))else none
def one:EM->LM:=fun m fr σ=>bA (m fr σ) fun a aj=>some ([a],aj)
def rY(m:BM):EM:=fun fr σ=>bA (m fr σ) fun b aj=>some (.bool b,aj)
def pe(b:BM):BM:=fun fr σ=>bA (b fr σ) fun b aj=>some (!b,aj)
def afZ(a b:BM):BM:=fun fr σ=>bA (a fr σ) fun t aj=>bif t then b fr aj else some (false,aj)
def R8(a b:BM):BM:=fun fr σ=>bA (a fr σ) fun t aj=>bif t then some (true,aj)else b fr aj
def Tf(a b:EM):EM:=fun fr σ=>bA (a fr σ) fun v aj=>ob (qV aj v) fun t=>bif t then b fr aj else some (v,aj)
def eOr(a b:EM):EM:=fun fr σ=>bA (a fr σ) fun v aj=>ob (qV aj v) fun t=>bif t then some (v,aj)else b fr aj
def tl(c:BM)(a b:EM):EM:=fun fr σ=>bA (c fr σ) fun t aj=>bif t then a fr aj else b fr aj
noncomputable def bX(a:AV):Bool:=match a with
 | .unb=>true
 |_=>false
def al(i:Nat):EM:=fun fr σ=>bif bX (gt fr i)then none else some (gt fr i,σ)
noncomputable def ba(a:AV):EM:=fun _ σ=>some (a,σ)
def Pr(op op':g8)(a b c:EM):BM:=fun fr σ=>bA (a fr σ) fun x aj=>bA (b fr aj) fun y aL=>ob (bO op x y aL) fun t=>bif t then bA (c fr aL) (fun z cO=>ob (bO op' y z cO) fun r=>some (r,cO))else some (false,aL)
def eH(x y:AV)(σ:AS):Option (AV×AS):=ob (act x y σ) fun z=>some (z,σ)
def Ti(a lo hi:EM):EM:=fun fr σ=>bA (a fr σ) fun x aj=>bA (lo fr aj) fun y aL=>bA (hi fr aL) fun z cO=>an2 x y z cO
def bq(f:aW)(l:LM):EM:=fun fr σ=>bA (l fr σ) fun vs aj=>f vs aj
def cK(D:gW)(o:EM)(l:LM):EM:=fun fr σ=>bA (o fr σ) fun x aj=>ob (D x aj) fun F=>bA (l fr aj) fun vs aL=>F (x::vs) aL
noncomputable def df:aW:=fun vs σ=>bif dj vs.length then some (.ref σ.next,σ.alloc (.lst vs))else none
noncomputable def gp:aW:=fun vs σ=>bif dj vs.length then some (.tup vs,σ)else none
noncomputable def HD(ks:List Int):aW:=fun vs σ=>some (.dcti ks vs,σ)
noncomputable def F2:EM:=fun _ σ=>some (.ref σ.next,σ.alloc (.dct [] []))
def aw(a:EM)(l:LM):LM:=fun fr σ=>bA (a fr σ) fun v aj=>bA (l fr aj) fun vs aL=>some (v::vs,aL)
noncomputable def aG:LM:=fun _ σ=>some ([],σ)
def eX(xs:ac)(it:EM)(c:BM)(elt:EM):EM:=fun fr σ=>bA (it fr σ) fun x aj=>bA (fJ aj x) fun l ay=>bA (eO xs c elt l fr ay) fun vs aL=>bif dj vs.length then some (.ref aL.next,aL.alloc (.lst vs))else none
def qP(x:Nat)(it:EM)(y:Nat)(it2 elt:EM):EM:=fun fr σ=>bA (it fr σ) fun a aj=>bA (fJ aj a) fun l ay=>bA (jA x it2 y elt l (put fr y .unb) ay) fun vs aL=>bif dj vs.length then some (.ref aL.next,aL.alloc (.lst vs))else none
structure D where
 e:EM
 b:BM
 l:LM
def D.ofE(e:EM):D:=⟨e,ji e,fun _ _=>none⟩
def D.ofBool(b:BM):D:=⟨rY b,b,fun _ _=>none⟩
noncomputable def D.bad:D:=⟨fun _ _=>none,fun _ _=>none,fun _ _=>none⟩
structure cG where
 glb:List (Str×AV)
 fns:List (Str×aW)
 mts:List (Str×gW)
noncomputable def pX{α:Type}:List (Str×α)->Nat->Option (Str×α)
 |[],_=>none
 |p::_,0=>some p
 |_::r,i+1=>pX r i
noncomputable def acW(l:List (Str×AV))(i:Nat):AV:=match pX l i with
 |some (_,a)=>a
 |none=>.unb
noncomputable def acX(l:List (Str×aW))(i:Nat):aW:=match pX l i with
 |some (_,a)=>a
 |none=>fun _ _=>none
noncomputable def acY(l:List (Str×gW))(i:Nat):gW:=match pX l i with
 |some (_,a)=>a
 |none=>fun _ _=>none
noncomputable def gX(Γ:cG):T->D
 | .nop=>⟨ba .none,fun _ σ=>some (true,σ),aG⟩
 | .cst a=>.ofE (ba a)
 | .var i=>.ofE (al i)
 | .glb g=>.ofE (ba (acW Γ.glb g))
 | .bin op a b=>.ofE (bi (b4 op) (gX Γ a).e (gX Γ b).e)
 | .neg a=>.ofE (un aiK (gX Γ a).e)
 | .not a=>⟨rY (pe (ji (gX Γ a).e)),pe (gX Γ a).b,fun _ _=>none⟩
 | .and a b=>⟨Tf (gX Γ a).e (gX Γ b).e,afZ (gX Γ a).b (gX Γ b).b,fun _ _=>none⟩
 | .or a b=>⟨eOr (gX Γ a).e (gX Γ b).e,R8 (gX Γ a).b (gX Γ b).b,fun _ _=>none⟩
 | .ife c a b=>.ofE (tl (gX Γ c).b (gX Γ a).e (gX Γ b).e)
 | .cmp op a b=>.ofBool (eJ (bO op) (gX Γ a).e (gX Γ b).e)
 | .cmp2 op op' a b c=>.ofBool (Pr op op' (gX Γ a).e (gX Γ b).e (gX Γ c).e)
 | .atr k a=>.ofE (un (aA k) (gX Γ a).e)
 | .idx a i=>.ofE (bi eH (gX Γ a).e (gX Γ i).e)
 | .slc a lo hi=>.ofE (Ti (gX Γ a).e (gX Γ lo).e (gX Γ hi).e)
 | .lst l=>.ofE (bq df (gX Γ l).l)
 | .tup l=>.ofE (bq gp (gX Γ l).l)
 | .dic=>.ofE F2
 | .dicI k1 k2 a b=>.ofE (bq (HD [k1,k2]) (aw (ba (.str a)) (aw (ba (.str b)) aG)))
 | .rep c a=>.ofE (un (ajR c) (gX Γ a).e)
 | .call f l=>.ofE (bq (acX Γ.fns f) (gX Γ l).l)
 | .meth n o l=>.ofE (cK (acY Γ.mts n) (gX Γ o).e (gX Γ l).l)
 | .comp xs it c elt=>.ofE (eX xs (gX Γ it).e (gX Γ c).b (gX Γ elt).e)
 | .comp2 x it y it2 elt=>.ofE (qP x (gX Γ it).e y (gX Γ it2).e (gX Γ elt).e)
 | .nil=>⟨fun _ _=>none,fun _ _=>none,aG⟩
 | .cons a l=>⟨fun _ _=>none,fun _ _=>none,aw (gX Γ a).e (gX Γ l).l⟩
termination_by structural t=>t
inductive TS where
 |bad
 |expr(e:T)
 |asg(i:Nat)(e:T)
 |asgT(is:List Nat)(e:T)
 |asgA(k:Nat)(o e:T)
 |asgI(o i e:T)
 |ifs(c:T)(a b:TS)
 |whl(c:T)(b:TS)
 |for_(xs:List Nat)(it:T)(b:TS)
 |ret(e:T)
 |cont
 |frz(i:Nat)
 |nil
 |cons(s r:TS)
def Mu(k:Nat)(v:AV)(ks:ac)(vs:aa):List Nat×List AV:=bt (motive:=fun _=>List AV->List Nat×List AV) (fun _=>([k],[v])) (fun x ks ih vs=>bt (motive:=fun _=>List Nat×List AV) ([k],[v]) (fun w vs _=>cond (am k x) (x::ks,v::vs) (Oq (motive:=fun _=>List Nat×List AV) (fun ks' vs'=>(x::ks',w::vs')) (ih vs))) vs) ks vs
theorem aj5(k v x ks w vs):Mu k v (x::ks) (w::vs)=bif am k x then(x::ks,v::vs)else match Mu k v ks vs with
  |(ks',vs')=>(x::ks',w::vs'):=rfl
def oy(k:Nat)(v o:AV)(σ:AS):Option AS:=iw o fun x=>CS σ x fun c ks vs=>pr (Mu k v ks vs) fun ks' vs'=>bif cJ ks'.length 1000&& !S6 c k then some (σ.set x (.inst c ks' vs'))else none
noncomputable def N8:List AV->Nat->AV->List AV
 |[],_,_=>[]
 |_::r,0,v=>v::r
 |a::r,i+1,v=>a::N8 r i v
def Lm(v o i:AV)(σ:AS):Option AS:=iw o fun x=>ob (σ.get x) fun c=>match c with
 | .lst l=>m7 i fun n=>bif dj n&&bc n l.length then some (σ.set x (.lst (N8 l n v)))else none
 | .dct ks vs=>eg i fun k=>pr (qO k v ks vs) fun ks' vs'=>bif dj ks.length then some (σ.set x (.dct ks' vs'))else none
 |_=>none
noncomputable def gR(k:SM)(r:kg):Option kg:=match r with
 | .next fr' aj=>k fr' aj
 |r=>some r
noncomputable def C5(k:SM)(r:kg):Option kg:=match r with
 | .next fr' aj=>k fr' aj
 | .cont fr' aj=>k fr' aj
 | .brk fr' aj=>some (.next fr' aj)
 | .ret a aj=>some (.ret a aj)
def aV(a b:SM):SM:=fun fr σ=>ob (a fr σ) (gR b)
noncomputable def bu:SM:=fun fr σ=>some (.next fr σ)
def sh(c:BM)(a b:SM):SM:=fun fr σ=>bA (c fr σ) fun t aj=>bif t then a fr aj else b fr aj
def lj(e:EM):SM:=fun fr σ=>bA (e fr σ) fun _ aj=>some (.next fr aj)
def cV(is:ac)(e:EM):SM:=fun fr σ=>bA (e fr σ) fun v aj=>ob (mw is v fr aj) fun fr'=>some (.next fr' aj)
def l4(k:Nat)(o e:EM):SM:=fun fr σ=>bA (e fr σ) fun v aj=>bA (o fr aj) fun x aL=>ob (oy k v x aL) fun cO=>some (.next fr cO)
def QO(o i e:EM):SM:=fun fr σ=>bA (e fr σ) fun v aj=>bA (o fr aj) fun x aL=>bA (i fr aL) fun y cO=>ob (Lm v x y cO) fun vf=>some (.next fr vf)
def eI(e:EM):SM:=fun fr σ=>bA (e fr σ) fun v aj=>some (.ret v aj)
noncomputable def Dz(c:BM)(b:SM):Nat->SM
 |0=>fun _ _=>none
 |n+1=>fun fr σ=>bA (c fr σ) fun t aj=>bif t then ob (b fr aj) (C5 (Dz c b n))else some (.next fr aj)
noncomputable def pH(xs:ac)(b:SM):List AV->SM
 |[]=>bu
 |a::r=>fun fr σ=>ob (mw xs a fr σ) fun gY=>ob (b gY σ) (C5 (pH xs b r))
def gG(xs:ac)(it:EM)(b:SM):SM:=fun fr σ=>bA (it fr σ) fun x aj=>bA (fJ aj x) fun l ay=>pH xs b l fr ay
def QP(i:Nat):SM:=fun fr σ=>pr (jL 14 (gt fr i) σ) fun a aj=>some (.next (put fr i a) aj)
noncomputable def ci(Γ:cG):TS->SM
 | .bad=>fun _ _=>none
 | .expr e=>lj (gX Γ e).e
 | .asg i e=>cV [i] (gX Γ e).e
 | .asgT is e=>cV is (gX Γ e).e
 | .asgA k o e=>l4 k (gX Γ o).e (gX Γ e).e
 | .asgI o i e=>QO (gX Γ o).e (gX Γ i).e (gX Γ e).e
 | .ifs c a b=>sh (gX Γ c).b (ci Γ a) (ci Γ b)
 | .whl c b=>Dz (gX Γ c).b (ci Γ b) 2000
 | .for_ xs it b=>gG xs (gX Γ it).e (ci Γ b)
 | .ret e=>eI (gX Γ e).e
 | .cont=>fun fr σ=>some (.cont fr σ)
 | .frz i=>QP i
 | .nil=>bu
 | .cons a b=>aV (ci Γ a) (ci Γ b)
termination_by structural t=>t
noncomputable def ib(r:kg):Option (AV×AS):=match r with
 | .next _ aj=>some (.none,aj)
 | .ret a aj=>some (a,aj)
 |_=>none
def bo(n:Nat)(dfl:aa)(b:SM):aW:=fun args σ=>bif cJ (dN args) n&&cJ n (dN args+dN dfl)then ob (b (afT args (ui (dN args+dN dfl-n) dfl)) σ) ib else none
def uC(c:Nat)(init:aW):aW:=fun args σ=>bA (init (.ref σ.next::args) (σ.alloc (.inst c [] []))) fun a aj=>tf a (some (.ref σ.next,aj))
def F5(n:Nat)(F:aW):aW:=fun args σ=>bA (F args σ) fun a aj=>some (jL n a aj)
def aaf(n:Nat)(F:aW):aW:=fun args σ=>pr (pW (jL n) args σ) fun args' aj=>F args' aj
noncomputable def dw(c:Nat):List Nat->List Nat->List (List Nat)
 |acc,[]=>[acc.reverse]
 |acc,a::r=>bif am a c then acc.reverse::dw c [] r else dw c (a::acc) r
noncomputable def lA(sep:ac):List (List Nat)->List Nat
 |[]=>[]
 |[a]=>a
 |a::r=>a++sep++lA sep r
noncomputable def EE(p:ac):Nat->List Nat->Option Nat
 |i,[]=>bif j7 p []then some i else none
 |i,a::s=>bif j7 p (a::s)then some i else EE p (i+1) s
noncomputable def PK(n:Nat):List Nat:=bif bc n 10 then[48+n]else bif bc n 100 then[48+n / 10,48+n%10]else[48+n / 100,48+n / 10%10,48+n%10]
noncomputable def lY:Nat->List Nat->Option Nat
 |n,[]=>some n
 |n,c::r=>bif cJ 48 c&&cJ c 57 then lY (n*10+(c-48)) r else none
noncomputable def K5(x:ac):List (List Nat)->List (List Nat)
 |[]=>[x]
 |y::r=>bif C7 x y then x::y::r else y::K5 x r
noncomputable def jU:List (List Nat)->List (List Nat)
 |[]=>[]
 |x::r=>K5 x (jU r)
noncomputable def aaR:List AV->Option (List UInt8)
 |[]=>some []
 |a::r=>m7 a fun n=>bif bc n 256 then ob (aaR r) (fun l=>some (RF n::l))else none
def acx(σ:AS)(a:AV):Option (List (List Nat)):=match a with
 | .dct ks _=>some ks
 |a=>ob (nG σ a) nO
def pV{β:Type}(l:aa)(f:AV->Option β):Option β:=bt (motive:=fun _=>Option β) none (fun a r _=>bt (motive:=fun _=>Option β) (f a) (fun _ _ _=>none) r) l
def vR{β:Type}(l:aa)(f:AV->AV->Option β):Option β:=bt (motive:=fun _=>Option β) none (fun a r _=>pV r (f a)) l
def S3{β:Type}(l:aa)(f:AV->AV->AV->Option β):Option β:=bt (motive:=fun _=>Option β) none (fun a r _=>vR r (f a)) l
def NQ{β:Type}(a:AV)(f:Nat->Option β):Option β:=eg a fun s=>arg1' s f
where arg1' {β:Type} (l:List Nat) (f:Nat->Option β):Option β:=bt (motive:=fun _=>Option β) none (fun a r _=>bt (motive:=fun _=>Option β) (f a) (fun _ _ _=>none) r) l
def NS{β:Type}(a:AV)(f:Nat->List Nat->Option β):Option β:=eg a fun s=>bt (motive:=fun _=>Option β) none (fun a r _=>f a r) s
def anO(σ:AS)(a:AV):Option (AV×AS):=match a with
 | .str s=>bif dj (dN s)then some (.int (ai (dN s)),σ)else none
 |a=>ob (nG σ a) fun l=>bif dj (dN l)then some (.int (ai (dN l)),σ)else none
def ef:aW:=fun args σ=>pV args (anO σ)
def SH:aW:=fun args σ=>pV args fun a=>m7 a fun n=>bif bc n 100000 then some (.rng 0 n,σ)else none
def SJ:aW:=fun args σ=>vR args fun a b=>m7 a fun n=>m7 b fun m=>bif bc n 100000&&bc m 100000 then some (.rng n m,σ)else none
def lK:aW:=fun args σ=>bif am (dN args) 1 then SH args σ else SJ args σ
def UL:aW:=fun args σ=>pV args fun a=>m7 a fun n=>bif bc n 128 then some (.str (PK n),σ)else none
def arj(σ:AS)(a:AV):Option (AV×AS):=bif CU a then some (a,σ)else ob (iU σ a) fun l=>bif dj l.length then some (.tup l,σ)else none
def fu:aW:=fun args σ=>pV args (arj σ)
def abK:aW:=fun args σ=>pV args fun a=>ob (nG σ a) fun l=>bif dj l.length then some (.ref σ.next,σ.alloc (.lst l))else none
def Zq:aW:=fun args σ=>pV args fun a=>fe a fun i=>some (.int (ai i.natAbs),σ)
def Zr:aW:=fun args σ=>pV args fun a=>m7 a fun n=>bif bc n 0xD800 then some (.str [n],σ)else none
def Zs:aW:=fun args σ=>pV args fun a=>NQ a fun c=>some (.int (ai c),σ)
def qf:aW:=fun args σ=>pV args fun a=>ob (iU σ a) fun l=>ob (nO l) fun ss=>bif bc ss.length 64 then some (.ref σ.next,σ.alloc (.lst ((jU ss).map .str)))else none
def t4:aW:=fun args σ=>pV args fun a=>NS a fun c r=>bif bc r.length 18 then ob (lY 0 (c::r)) (fun n=>some (.int (ai n),σ))else none
def WC:aW:=fun args σ=>pV args fun a=>ob (iU σ a) fun l=>ob (aaR l) fun b=>bif dj b.length then some (.bytes b,σ)else none
def UK:aW:=fun args σ=>vR args fun a b=>fe a fun i=>fe b fun j=>some (.int (bif C6 j i then j else i),σ)
def kL:aW:=fun args σ=>vR args fun a b=>eg a fun s=>NQ b fun c=>bif dj s.length then some (.ref σ.next,σ.alloc (.lst ((dw c [] s).map .str)))else none
def vC:aW:=fun args σ=>vR args fun a b=>eg a fun s=>ob (acx σ b) fun l=>bif dj (dN (lA s l)+dN l*dN s+dN l)then some (.str (lA s l),σ)else none
def t5:aW:=fun args σ=>S3 args fun a b d=>eg a fun s=>NS b fun c p=>eg d fun _=>bif Qf (c::p) s then none else some (.str s,σ)
def IB:aW:=fun args σ=>vR args fun a b=>eg a fun s=>NS b fun c p=>ob (EE (c::p) 0 s) fun i=>some (.int (ai i),σ)
def gy:aW:=fun args σ=>vR args fun a v=>iw a fun x=>nw σ x fun l=>bif dj l.length then some (.none,σ.set x (.lst (l++[v])))else none
def ahC(σ:AS)(x:Nat)(b:AV):Option (List AV):=match b with
 | .ref c=>bif am x c then none else nw σ c some
 | .lst m=>some m
 |_=>none
def gk:aW:=fun args σ=>vR args fun a b=>iw a fun x=>ob (ahC σ x b) fun m=>nw σ x fun l=>bif dj (l.length+m.length)then some (.none,σ.set x (.lst (l++m)))else none
def Zt:aW:=fun args σ=>pV args fun a=>iw a fun x=>nw σ x fun l=>ob l.getLast? fun v=>bif dj l.length then some (v,σ.set x (.lst l.dropLast))else none
noncomputable def UJ:aW:=fun _ _=>none
noncomputable def Xq(c:bJ):Option Nat:=match c with
 | .inst d _ _=>some d
 | .orc d _=>some d
 |_=>none
def F0(a:AV)(σ:AS):Option Nat:=match a with
 | .frz d _ _=>some d
 | .ref x=>ob (σ.get x) Xq
 |_=>none
def fx(c:Nat)(F:aW)(G:gW):gW:=fun a σ=>ob (F0 a σ) fun d=>bif am c d then some F else G a σ
noncomputable def gU:gW:=fun _ _=>none
noncomputable def iz(F:aW):gW:=fun a _=>eg a fun _=>some F
def fX(F:aW):gW:=fun a σ=>iw a fun x=>nw σ x fun _=>some F
section
open PySem.SeqAt
noncomputable section
section
variable{X:FX}{k:Nat}{W W':Wd}{fr:Fm}{σ aj:AS}{s s':az}{h h':bM}{A:b6}
theorem Wl{α:Type}{M:lp}{A:b6}{s:az}{t:Sem α}{Q:α->az->Prop}{n:Nat}(hn:n<=s.toks)(h:wpAny M A t (fun a s'=>n<=s'.toks->Q a s') dy s):wpAny M A t Q dy s:=
 jx (wpAny_toks_of hn h) (fun _ _ x=>x.2 x.1) fun _ _ x=>x.2
theorem eK{α:Type}{M:lp}{t:Sem α}{Q Q':α->az->Prop}(h:wpAny M A t Q dy s)(hQ: ∀a s,Q a s->Q' a s):wpAny M A t Q' dy s:=jx h hQ fun _ _ e=>e
theorem afn{p:Pos}{n:Nat}:b8 X k (ba .none) (.Constant .none n p):=fun A _ W fr σ s T a aj e=>by
 apply s2 e;exact fun _ _ _=>T.post rfl
theorem afe{b:Bool}{p:Pos}{n:Nat}:b8 X k (ba (.bool b)) (.Constant (.bool b) n p):=fun A _ W fr σ s T a aj e=>by
 apply s2 e;exact fun _ _ _=>T.post rfl
theorem akS{i:Int}{p:Pos}{n:Nat}:b8 X k (ba (.int i)) (.Constant (.int i) n p):=fun A _ W fr σ s T a aj e=>by
 apply s2 e;exact rb ((T.toks _).post ⟨_,rfl⟩)
theorem akY{x:Str}{l:ac}{p:Pos}{n:Nat}(hx:aO l=x):b8 X k (ba (.str l)) (.Constant (.str x) n p):=fun A _ W fr σ s T a aj e=>by
 apply s2 e;exact oK ((T.toks _).post ⟨_,by rw[hx]⟩)
theorem abc{x:List UInt8}{p:Pos}{n:Nat}:b8 X k (ba (.bytes x)) (.Constant (.bytes x) n p):=fun A _ W fr σ s T a aj e=>by
 apply s2 e;exact Constant_bytes ((T.toks _).post ⟨_,rfl⟩)
theorem Vu: ∀(fr:Fm) (i:Nat),(fr[i]? =some (gt fr i))\/gt fr i= .unb
 |[],_=>.inr rfl
 |_::_,0=>.inl rfl
 |_::r,i+1=>(Vu r i).imp (fun h=>h) (fun h=>h)
theorem St.load(O:vn X)(T:St X W fr σ s){i:Nat}{x:Str}(hx:X.names i=some x)(hu:gt fr i≠ .unb):
  wpAny (dH X.C) A (loadName X.env x) (fun v s'=>s'=s/\V X.C W (gt fr i) v) dy s:=by
 obtain⟨m,hn,hv⟩:=T.fr.vars
 obtain⟨v,e2,e3⟩:=((Vu fr i).resolve_right hu|>hv i _).resolve_left hu x hx
 unfold jd at e2
 split at e2
 ·rename_i q;exact wpAny_loadName_local O.kind q hn e2 ⟨rfl,e3⟩
 ·rename_i q;obtain⟨c,a,b⟩:=e2;exact wpAny_loadName_cell O.kind q a b ⟨rfl,e3⟩
 ·rename_i q;obtain⟨c,a,b⟩:=e2
  by_cases z:(x==("__classdict__":Str))=true
  ·exact absurd (O.plain i x hx) (by rw[beq_iff_eq.mp z];decide)
  ·exact wpAny_loadName_free O.kind q a b ⟨rfl,e3⟩ (by simpa using z)
 ·exact e2.elim
theorem anm{a:AV}(h:bX a=false):a≠ .unb:=fun q=>by rw[q]at h;cases h
theorem uX(O:vn X){i:Nat}{x:Str}{p:Pos}(hx:X.names i=some x):b8 X k (al i) (.Name x p):=fun A _ W fr σ s T a aj e=>by
 refine kN e fun hu e=> ?_
 apply s2 e
 have hd:(x==("__debug__":Str))=false:=by
  cases z:(x==("__debug__":Str))with
  |false=>rfl
  |true=>exact absurd (O.plain i x hx) (by rw[beq_iff_eq.mp z];decide)
 exact wpAny_Name (eK (T.load O hx (anm hu)) fun v s' h=>by rw[h.1];exact T.post h.2) hd
def nq(C:PC)(x:Str)(a:AV):Prop:= ∀M A E (env:Env) (W:Wd) σ s (Q:ah->az->Prop),env.globals=mainGlobals->env.builtins=builtinsNs->cD C W σ s.heap->(∀v,V C W a v->Q v s)->wpAny M A (loadGlobal env x) Q E s
theorem Y0(O:vn X){a:AV}{x:Str}{p:Pos}(hx:X.env.kindOf x=some .globalImplicit)(hd:(x==("__debug__":Str))=false)(h:nq X.C x a):b8 X k (ba a) (.Name x p):=fun A _ W fr σ s T b aj e=>by
 apply s2 e
 exact yQ O.kind hx (h _ A dy X.env W σ s _ O.glob O.blt T.rel fun v q=>T.post q) hd
def anv(X:FX)(k:Nat)(t:ah->ah->Sem ah)(f:AV->AV->AS->Option (AV×AS)):Prop:=
 ∀A,eV A k-> ∀W fr σ s,St X W fr σ s-> ∀a b v w,V X.C W a v->V X.C W b w-> ∀c aj,f a b σ=some (c,aj)->wpAny (dH X.C) A (t v w) (fU X W fr c aj) dy s
theorem Xk{f:AV->AV->AS->Option (AV×AS)}{m n:EM}{c:AV}(e:bi f m n fr σ=some (c,aj)){P:Prop}(k: ∀a ay b aL,m fr σ=some (a,ay)->n fr ay=some (b,aL)->f a b aL=some (c,aj)->P):P:=
 fW e fun a ay e1 e=>fW e fun b aL e2 e=>k a ay b aL e1 e2 e
theorem fU.elim{a:AV}{v:ah}{P:Prop}(h:fU X W fr a σ v s)(k: ∀W',W.le W'->St X W' fr σ s->V X.C W' a v->P):P:=by
 obtain⟨W',h1,h2,h3⟩:=h;exact k W' h1 h2 h3
theorem KC.elim{a:aa}{v:List ah}{P:Prop}(h:KC X W fr a σ v s)(k: ∀W',W.le W'->St X W' fr σ s->VL X.C W' a v->P):P:=by
 obtain⟨W',h1,h2,h3⟩:=h;exact k W' h1 h2 h3
@[elab_as_elim] theorem o5.elim {b b':Bool} {Q:Bool->Prop} (h:o5 X W fr b σ b' s) (k: ∀W',W.le W'->St X W' fr σ s->Q b):Q b':=by
 obtain⟨rfl,W',h1,h2⟩:=h;exact k W' h1 h2
theorem za.elim{P:Prop}(h:za X W fr σ s)(k: ∀W',W.le W'->St X W' fr σ s->P):P:=by
 obtain⟨W',h1,h2⟩:=h;exact k W' h1 h2
theorem b8.go{m:EM}{x:an}(hm:b8 X k m x)(R:eV A k)(T:St X W fr σ s){a:AV}{ay:AS}(e:m fr σ=some (a,ay)){Q:ah->az->Prop}(h: ∀v bv bn,W.le bn->St X bn fr ay bv->V X.C bn a v->Q v bv):wpAny (dH X.C) A (eval x X.env) Q dy s:=
 eK (hm A R W fr σ s T a ay e) fun v bv z=>z.elim fun bn l bz q=>h v bv bn l bz q
theorem Ak.go{m:LM}{x:List an}(hm:Ak X k m x)(R:eV A k)(T:St X W fr σ s){a:aa}{ay:AS}(e:m fr σ=some (a,ay))(pos:Pos){Q:List ah->az->Prop}(h: ∀v bv bn,W.le bn->St X bn fr ay bv->VL X.C bn a v->Q v bv):wpAny (dH X.C) A (spliced (backTo pos (starEach x X.env))) Q dy s:=
 eK (hm A R W fr σ s T a ay e pos) fun v bv z=>z.elim fun bn l bz q=>h v bv bn l bz q
theorem np.go{m:BM}{x:an}(hm:np X k m x)(R:eV A k)(T:St X W fr σ s){b:Bool}{ay:AS}(e:m fr σ=some (b,ay)){Q:Bool->az->Prop}(h: ∀bv bn,W.le bn->St X bn fr ay bv->Q b bv):wpAny (dH X.C) A (isTrue x X.env (eval x X.env)) Q dy s:=
 eK (hm A R W fr σ s T b ay e) fun b' bv z=>z.elim fun bn l bz=>h bv bn l bz
theorem EX{m n:EM}{a b:an}(hm:b8 X k m a)(hn:b8 X k n b){Q:ah->ah->az->Prop}(R:eV A k)(T:St X W fr σ s){x y:AV}{ay aL:AS}(e1:m fr σ=some (x,ay))(e2:n fr ay=some (y,aL))
  (h: ∀v w dX cB,W.le cB->St X cB fr aL dX->V X.C cB x v->V X.C cB y w->Q v w dX):
  wpAny (dH X.C) A (eval a X.env) (fun v bv=>wpAny (dH X.C) A (eval b X.env) (fun w dX=>Q v w dX) dy bv) dy s:=
 hm.go R T e1 fun v bv bn bD bz d9=>hn.go R bz e2 fun w dX cB dR cR j8=>h v w dX cB (bD.trans dR) cR (d9.mono dR) j8
theorem akM{op:iH}{f:AV->AV->AS->Option (AV×AS)}{m n:EM}{a b:an}{p:Pos}(hm:b8 X k m a)(hn:b8 X k n b)(ho:anv X k (binaryOp op) f):b8 X k (bi f m n) (.BinOp a op b p):=fun A R W fr σ s T c aj e=>
 Xk e fun x ay y aL e1 e2 e3=>wpAny_BinOp (EX hm hn R T e1 e2 fun v w dX cB l cR d9 j8=>eK (ho A R cB fr aL dX cR x y v w d9 j8 c aj e3) fun _ _ z=>z.le l)
end
end
end
section
open PySem.SeqAt
noncomputable section
theorem kW: ∀{a b:ac},dp a b=decide (a=b)
 |[],[]=>by simp[agX]
 |[],_::_=>by simp[agW]
 |_::_,[]=>by simp[agV]
 |a::r,b::t=>by
  rw[agU,kW,gm]
  by_cases h:a=b<;>by_cases q:r=t<;>simp[h,q]
theorem rj{a b:Int}:KY a b=decide (a=b):=by
 cases a with
 |ofNat a=>cases b with
  |ofNat b=>
   show am a b=_
   rw[gm]
   exact decide_eq_decide.mpr ⟨fun h=>by rw[h],fun h=>Int.ofNat.inj h⟩
  |negSucc b=>rfl
 |negSucc a=>cases b with
  |ofNat b=>rfl
  |negSucc b=>
   show am a b=_
   rw[gm]
   exact decide_eq_decide.mpr ⟨fun h=>by rw[h],fun h=>abH h⟩
theorem qA{a b:ac}:(aO a==aO b)=dp a b:=by
 rw[kW,oG,beq_iff_eq,decide_eq_true_iff]
 exact⟨fun h=>by have:=congrArg (fun x=>x.cps.toList) h;simpa[aO] using this,fun h=>by rw[h]⟩
section
variable{A:b6}{s:az}
theorem RcAt.bytes_bytes(a b:Array UInt8)(t u:Tok):RcAt A s (.bytes a t) (.bytes b u) (a.toList==b.toList):=fun prog w E Q h=>PySem.W.eq_bytes h
theorem EqAt.bytes_bytes(a b:Array UInt8)(t u:Tok):EqAt A s (.bytes a t) (.bytes b u) (a.toList==b.toList):=fun prog w E Q h=>by
 unfold eqBool
 refine dJ ?_
 refine wpAny_ite_split (fun hab=> ?_) (fun _=> ?_)
 ·have e:=eq_of_beq hab
  injection e with e1 e2
  subst e1
  exact aq (Iu (aM (by simpa using h)))
 ·exact aq (RcAt.bytes_bytes a b t u prog w E _ (fT h))
theorem RcNeAt.bytes_bytes(a b:Array UInt8)(t u:Tok):RcNeAt A s (.bytes a t) (.bytes b u) (!(a.toList==b.toList)):=fun prog w E Q h=>PySem.W.ne_bytes (by simpa[bne] using h)
variable{C:PC}{W:Wd}
theorem w6{x n:Nat}{vs:List ah}(hi: ∀b o,W.im b=some o->s.heap.get? b=some o)(e:W.im x=some (tw vs n)):s.heap.IsTuple x vs.toArray:=⟨_,hi _ _ e,rfl,n,rfl⟩
structure Eqs(A:b6)(s:az)(v w:ah)(r:Bool):Prop where
 rc:RcAt A s v w r
 ne:RcNeAt A s v w (!r)
 eq:EqAt A s v w r
@[elab_as_elim] theorem XM {b:AV} {r:Bool} {Q:AV->Bool->Prop} (e:Vn b=some r) (k1:Q .none true) (k2: ∀i,Q (.int i) false) (k3: ∀i,Q (.str i) false) (k4: ∀i,Q (.tup i) false):Q b r:=by
 cases b<;>first|exact nn e|(apply s1 e;first|exact k1|exact k2 _|exact k3 _|exact k4 _)
@[elab_as_elim] theorem ach {x:Int} {b:AV} {r:Bool} {Q:AV->Bool->Prop} (e:Z9 x b=some r) (k1: ∀i,Q (.int i) (KY x i)) (k2:Q .none false):Q b r:=by
 cases b<;>first|exact nn e|(apply s1 e;first|exact k2|exact k1 _)
@[elab_as_elim] theorem aci {x:ac} {b:AV} {r:Bool} {Q:AV->Bool->Prop} (e:aaa x b=some r) (k1: ∀i,Q (.str i) (dp x i)) (k2:Q .none false):Q b r:=by
 cases b<;>first|exact nn e|(apply s1 e;first|exact k2|exact k1 _)
@[elab_as_elim] theorem XK {x:Bool} {b:AV} {r:Bool} {Q:AV->Bool->Prop} (e:PS x b=some r) (k1: ∀i,Q (.bool i) (x==i)):Q b r:=by
 cases b<;>first|exact nn e|(apply s1 e;exact k1 _)
@[elab_as_elim] theorem Tj {x:List UInt8} {b:AV} {r:Bool} {Q:AV->Bool->Prop} (e:I6 x b=some r) (k1: ∀i,Q (.bytes i) (x==i)):Q b r:=by
 cases b<;>first|exact nn e|(apply s1 e;exact k1 _)
@[elab_as_elim] theorem afR {a b:AV} {r:Bool} {Q:AV->Prop} (e:Mc a b=some r) (k1:Vn b=some r->Q .none) (k2: ∀x,PS x b=some r->Q (.bool x)) (k3: ∀x,Z9 x b=some r->Q (.int x)) (k4: ∀x,aaa x b=some r->Q (.str x)) (k5: ∀l,tf b (some false)=some r->Q (.tup l)) (k6: ∀x,I6 x b=some r->Q (.bytes x)):Q a:=by
 cases a<;>first|exact nn e|exact k1 e|exact k2 _ e|exact k3 _ e|exact k4 _ e|exact k5 _ e|exact k6 _ e
theorem Md(hi: ∀b o,W.im b=some o->s.heap.get? b=some o)(hu:A.units<cLine){a b:AV}{r:Bool}(e:Mc a b=some r){v w:ah}:V C W a v->V C W b w->Eqs A s v w r:=by
 refine afR e (fun e hv=> ?_) (fun x e hv=> ?_) (fun x e hv=> ?_) (fun x e hv=> ?_) (fun l e hv=> ?_) fun x e hv=> ?_
 ·refine hv.noneE ?_
  exact XM e (fun hw=>hw.noneE ⟨RcAt.none_none,RcNeAt.none_none,EqAt.same _⟩) (fun _ hw=>hw.intE fun t=>⟨RcAt.none_int _ _,RcNeAt.none_int _ _,EqAt.none_int _ _⟩)
   (fun _ hw=>hw.strE fun t=>⟨RcAt.none_str _ _,RcNeAt.none_str _ _,EqAt.none_str _ _⟩) fun _ hw=>hw.tupE fun x n vs q _=>⟨RcAt.none_tuple (w6 hi q) hu,RcNeAt.none_tuple (w6 hi q) hu,EqAt.none_tuple (w6 hi q) hu⟩
 ·refine hv.boolE ?_
  exact XK e fun _ hw=>hw.boolE ⟨RcAt.bool_bool _ _,RcNeAt.bool_bool _ _,EqAt.bool_bool _ _⟩
 ·refine hv.intE fun t=> ?_
  exact ach e (fun _ hw=>by rw[rj];exact hw.intE fun t=>⟨RcAt.int_int _ _ _ _,RcNeAt.int_int _ _ _ _,EqAt.int_int _ _ _ _⟩) fun hw=>hw.noneE ⟨RcAt.int_none _ _,RcNeAt.int_none _ _,EqAt.int_none _ _⟩
 ·refine hv.strE fun t=> ?_
  exact aci e (fun _ hw=>by rw[<- qA];exact hw.strE fun t=>⟨RcAt.str_str _ _ _ _,RcNeAt.str_str _ _ _ _,EqAt.str_str _ _ _ _⟩) fun hw=>hw.noneE ⟨RcAt.str_none _ _,RcNeAt.str_none _ _,EqAt.str_none _ _⟩
 ·refine hv.tupE fun x n vs q _=> ?_
  refine Cy e fun e hw=> ?_
  apply s1 e
  exact hw.noneE ⟨RcAt.tuple_none (w6 hi q) hu,RcNeAt.tuple_none (w6 hi q) hu,EqAt.tuple_none (w6 hi q) hu⟩
 ·refine hv.bytesE fun t=> ?_
  refine Tj e fun y hw=>hw.bytesE fun u=> ?_
  have z:=fun p q:List UInt8=>show(p.toArray.toList==q.toArray.toList)=(p==q) by simp
  rw[<- z]
  exact⟨RcAt.bytes_bytes _ _ _ _,RcNeAt.bytes_bytes _ _ _ _,EqAt.bytes_bytes _ _ _ _⟩
theorem PT{f:AV->AV->Option Bool}{P:ah->ah->Bool->Prop}(hf: ∀a b r,f a b=some r-> ∀v w,V C W a v->V C W b w->P v w r): ∀{l m:aa} {r:Bool},KZ f l m=some r->
  ∀{vs ws:List ah},VL C W l vs->VL C W m ws-> ∃e:Nat->Bool,(∀j (h1:j<vs.length) (h2:j<ws.length),P vs[j] ws[j] (e j))/\r=((co (min vs.length ws.length)).all e&&vs.length==ws.length):=by
 intro l
 induction l with
 |nil=>
  intro m r h vs ws hv hw
  refine hv.nilE ?_
  cases m with
  |nil=>
   apply s1 h
   exact hw.nilE ⟨fun _=>true,fun j h1=>absurd h1 (fY _),rfl⟩
  |cons=>
   apply s1 h
   exact hw.consE fun w ws _ _=>⟨fun _=>true,fun j h1=>absurd h1 (fY _),by simp⟩
 |cons a l ih=>
  intro m r h vs ws hv hw
  refine hv.consE fun v vs h1 h2=> ?_
  cases m with
  |nil=>
   apply s1 h
   exact hw.nilE ⟨fun _=>true,fun j _ h2=>absurd h2 (fY _),by simp⟩
  |cons b m=>
   refine hw.consE fun w ws h3 h4=>oE h fun x hx h=>oE h fun y hy h=> ?_
   apply s1 h
   obtain⟨e,p,q⟩:=ih hy h2 h4
   refine⟨fun j=>match j with|0=>x|j+1=>e j,fun j h1' h2'=> ?_,?_⟩
   ·cases j with
    |zero=>exact hf _ _ _ hx _ _ h1 h3
    |succ j=>exact p j (jF h1') (jF h2')
   ·rw[q]
    simp only[bT,Nat.succ_min_succ]
    rw[List.range_succ_eq_map]
    simp only[rH,List.all_map]
    cases x<;>simp[Function.comp_def]
theorem Pi{a b:AV}{r:Bool}(e:Mc a b=some r){v:ah}:V C W a v->V C W b v->r=true:=by
 refine afR e (fun e hv=> ?_) (fun x e hv=> ?_) (fun x e hv=> ?_) (fun x e hv=> ?_) (fun l e hv=> ?_) fun x e hv=> ?_
 ·refine hv.noneE ?_
  exact XM e (fun _=>rfl) (fun _ hw=>let⟨t,q⟩:=hw;sw q) (fun _ hw=>let⟨t,q⟩:=hw;sw q) fun _ hw=>let⟨x,n,vs,q,_⟩:=hw;sw q
 ·exact XK e fun y hw=>by cases hv;cases hw;simp
 ·exact ach e (fun y hw=>by obtain⟨t,rfl⟩:=hv;obtain⟨u,q⟩:=hw;cases q;simp[rj]) fun hw=>by obtain⟨t,rfl⟩:=hv;cases hw
 ·exact aci e (fun y hw=>by
   obtain⟨t,rfl⟩:=hv;obtain⟨u,q⟩:=hw
   rw[<- qA]
   injection q with q1;simp[q1]) fun hw=>by obtain⟨t,rfl⟩:=hv;cases hw
 ·refine Cy e fun e hw=> ?_
  obtain⟨x,n,vs,rfl,q,_⟩:=hv
  cases hw
 ·refine Tj e fun y hw=> ?_
  obtain⟨t,rfl⟩:=hv
  obtain⟨u,q⟩:=hw
  injection q with q1
  have q2:=congrArg Oc q1
  simp only at q2
  simp[q2]
theorem adK{f:AV->AV->Option Bool}(hf: ∀a b r,f a b=some r-> ∀v,V C W a v->V C W b v->r=true): ∀{l m:aa} {r:Bool},KZ f l m=some r-> ∀{vs:List ah},VL C W l vs->VL C W m vs->r=true:=by
 intro l
 induction l with
 |nil=>
  intro m r h vs hv hw
  cases m with
  |nil=>apply s1 h;rfl
  |cons=>cases hv;obtain⟨_,_,q,_⟩:=hw;cases q
 |cons a l ih=>
  intro m r h vs hv hw
  cases m with
  |nil=>cases hw;obtain⟨_,_,q,_⟩:=hv;cases q
  |cons b m=>
   obtain⟨v,vs,rfl,h1,h2⟩:=hv
   obtain⟨w,ws,q,h3,h4⟩:=hw
   cases q
   refine oE h fun x hx h=>oE h fun y hy h=> ?_
   apply s1 h
   rw[hf _ _ _ hx _ h1 h3,ih hy h2 h4];rfl
@[elab_as_elim] theorem anA {n:Nat} {a b:AV} {r:Bool} (e:wJ (n+1) a b=some r) {Q:AV->AV->Prop} (k: ∀l m,KZ (wJ n) l m=some r->Q (.tup l) (.tup m)) (k':Mc a b=some r->Q a b):Q a b:=bE e (fun _ e=>NR e fun l e=>NR e fun m e=>k l m e) fun _ e=>k' e
theorem ado: ∀(n:Nat) (a b:AV) (r:Bool),wJ n a b=some r-> ∀v:ah,V C W a v->V C W b v->r=true:=by
 intro n
 induction n with
 |zero=>intro a b r e v hv hw;exact Pi e hv hw
 |succ n ih=>
  intro a b r e v
  refine anA e (fun l m e hv hw=> ?_) fun e hv hw=>Pi e hv hw
  obtain⟨x,k,vs,rfl,q,hl⟩:=hv
  obtain⟨y,k',ws,q2,q',hm⟩:=hw
  cases q2
  have:=q.symm.trans q'
  simp only[Zk,Obj.mk.injEq,Data.seq.injEq,true_and,and_true]at this
  have e1:vs=ws:=by simpa using this.1
  subst e1
  exact adK ih e hl hm
theorem Pk(hi: ∀b o,W.im b=some o->s.heap.get? b=some o): ∀(n:Nat) (A:b6),A.units+n<cLine-> ∀(a b:AV) (r:Bool),wJ n a b=some r-> ∀v w:ah,V C W a v->V C W b w->Eqs A s v w r:=by
 intro n
 induction n with
 |zero=>intro A hu a b r e v w hv hw;exact Md hi hu e hv hw
 |succ n ih=>
  intro A hu a b r e v w
  have hu':A.units<cLine:=eC (cZ _ _) hu
  have hu1:A.in1.units+n<cLine:=by show A.units+1+n<_;rw[Bx];exact hu
  have same:=fun v=>ado (C:=C) (W:=W) (n+1) a b r e v
  revert same
  refine anA e (fun l m e same hv hw=> ?_) (fun e _ hv hw=>Md hi hu' e hv hw)
  obtain⟨x,k,vs,rfl,q,hl⟩:=hv
  obtain⟨y,k',ws,rfl,q',hm⟩:=hw
  obtain⟨f,p,rfl⟩:=PT (P:=Eqs A.in1 s) (fun a b r e v w hv hw=>ih A.in1 hu1 a b r e v w hv hw) e hl hm
  have key:=RcAt.tuples (e:=f) (w6 hi q) (w6 hi q') hu' (fun j h1 h2=>by simpa using (p j (by simpa using h1) (by simpa using h2)).eq)
  have key2:=RcNeAt.tuples (e:=f) (w6 hi q) (w6 hi q') hu' (fun j h1 h2=>by simpa using (p j (by simpa using h1) (by simpa using h2)).eq)
  simp only[aZ]at key key2
  refine⟨key,key2,?_⟩
  by_cases z:x=y
  ·subst z
   rw[same _ ⟨x,k,vs,rfl,q,hl⟩ ⟨x,k',ws,rfl,q',hm⟩];exact EqAt.same _
  ·exact EqAt.of_refs z key
end
end
end
section
open PySem.SeqAt
noncomputable section
theorem bP(s:ac):(aO s).length=s.length:=by simp[aO,UF]
theorem gV(s:ac):(aO s).cps.toList=s:=by simp[aO]
theorem Ss(s t:ac):aO s++aO t=aO (s++t):=by
 show UE _ _=_
 simp[UE,aO]
theorem HL: ∀{p s:ac},j7 p s=true↔s.take p.length=p
 |[],s=>by simp[aja]
 |_::_,[]=>by simp[aeB]
 |a::r,b::t=>by
  rw[TV,cM,HL,gm,decide_eq_true_iff]
  simp only[bT,Bj,vw]
  exact⟨fun⟨x,y⟩=>⟨x.symm,y⟩,fun⟨x,y⟩=>⟨x.symm,y⟩⟩
theorem Qg: ∀{p s:ac},zr p s=true↔ ∃i,i<=s.length/\j7 p (s.drop i)=true
 |p,[]=>by
  rw[aih]
  exact⟨fun h=>⟨0,ax _,h⟩,fun⟨i,_,h⟩=>by simpa using h⟩
 |p,b::t=>by
  rw[Je,oJ,Qg]
  constructor
  ·rintro(h|⟨i,h1,h2⟩)
   ·exact⟨0,aS _,h⟩
   ·exact⟨i+1,be h1,h2⟩
  ·rintro⟨i,h1,h2⟩
   cases i with
   |zero=>exact .inl h2
   |succ i=>exact .inr ⟨i,ni h1,h2⟩
theorem Yg(c:Nat): ∀s:List Nat,uB c s=zr [c] s
 |[]=>rfl
 |b::t=>by
  rw[Jo,Je,TV,<- Yg c t]
  show(am c b||uB c t)=(am c b&&true||uB c t)
  rw[zT]
theorem X0(p s:ac):Qf p s=zr p s:=by
 match p with
 |[]=>rfl
 |[c]=>exact Yg _ _
 |_::_::_=>rfl
theorem aec{p s:ac}:Qf p s=true↔ ∃i,i<=s.length/\j7 p (s.drop i)=true:=by rw[X0];exact Qg
theorem Tq(p s:ac):(!(Ru (aO s) (aO p) 0 (aO s).length 1).isEmpty)=Qf p s:=by
 rw[oG,StrLaws.found_iff,aec]
 simp only[bP,tV,gV,beq_iff_eq,HL]
 constructor
 ·rintro⟨i,h1,h2⟩;exact⟨i,by omega,h2⟩
 ·rintro⟨i,h1,h2⟩
  refine⟨i,?_,h2⟩
  have:=congrArg nh h2
  simp only[kp,hV]at this
  omega
theorem Ps{a b:Nat}:bc a b=decide (a<b):=by rw[oG,decide_eq_true_iff,cC]
theorem x7{a b:Int}:C6 a b=decide (a<b):=by
 cases a with
 |ofNat a=>cases b with
  |ofNat b=>
   show bc a b=_
   rw[Ps]
   exact decide_eq_decide.mpr il.symm
  |negSucc b=>
   refine(decide_eq_false ?_).symm
   exact sX.mpr (Int.le_of_lt (Bv (pQ b) (dr a)))
 |negSucc a=>cases b with
  |ofNat b=>
   refine(decide_eq_true ?_).symm
   exact Bv (pQ a) (dr b)
  |negSucc b=>
   show bc b a=_
   rw[Ps]
   exact decide_eq_decide.mpr (by omega)
theorem EK: ∀{a b:ac},C7 a b=decide (a<b)
 |[],[]=>by simp[C7]
 |_::_,[]=>by simp[C7]
 |[],_::_=>by simp[C7]
 |a::r,b::t=>by
  rw[C7,EK,StrLaws.lt_cons_cons,gm]
  rw[Ps]
  congr 1
section
variable{C:PC}{W:Wd}{σ:AS}{h:bM}{A:b6}{s:az}
@[elab_as_elim] theorem aoV {a:AV} {l:aa} {Q:AV->Prop} (e:iU σ a=some l) (k1:Q (.lst l)) (k2: ∀x,σ.get x=some (.lst l)->Q (.ref x)):Q a:=by
 cases a<;>first|exact nn e|skip
 ·cases e;exact k1
 ·refine lstE e fun l' hg e=> ?_
  cases e;exact k2 _ hg
@[elab_as_elim] theorem nv (R:cD C W σ h) {a:AV} {l:aa} (e:iU σ a=some l) {v:ah} {Q:ah->Prop} (hv:V C W a v) (k: ∀x n vs,h.get? x=some (dz vs n)->VL C W l vs->Q (.ref x)):Q v:=by
 revert hv
 refine aoV e (fun hv=> ?_) fun x hg hv=> ?_
 ·exact hv.lstE fun x n vs q r=>k x n vs (R.im _ _ q) r
 ·exact R.lstE hg hv fun p vs n _ _ q r=>k p.1 n vs q r
theorem lX{x n:Nat}{vs:List ah}(e:h.get? x=some (dz vs n)):h.IsList x vs.toArray:=⟨_,e,rfl,n,rfl⟩
@[elab_as_elim] theorem HA (R:cD C W σ h) {a:AV} {l:aa} (e:nG σ a=some l) {v:ah} {Q:ah->Prop} (hv:V C W a v) (k: ∀x n vs,VL C W l vs->(h.get? x=some (dz vs n)\/h.get? x=some (tw vs n))->Q (.ref x)):Q v:=by
 by_cases ht: ∃m,a= .tup m
 ·obtain⟨m,rfl⟩:=ht
  cases e
  exact hv.tupE fun x n vs q r=>k x n vs r (.inr (R.im _ _ q))
 ·have e':iU σ a=some l:=by
   cases a<;>first|exact nn e|exact e|skip
   exact absurd ⟨_,rfl⟩ ht
  exact nv R e' hv fun x n vs q r=>k x n vs r (.inl q)
@[elab_as_elim] theorem Hz (R:cD C W σ h) {a:AV} {l:aa} (e:nG σ a=some l) {v:ah} {Q:ah->Prop} (hv:V C W a v) (k: ∀x vs,VL C W l vs->(h.IsList x vs.toArray\/h.IsTuple x vs.toArray)->Q (.ref x)):Q v:=
 HA R e hv fun x n vs q z=>k x vs q (z.imp (fun z=>⟨_,z,rfl,n,rfl⟩) fun z=>⟨_,z,rfl,n,rfl⟩)
@[elab_as_elim] theorem aom {a:AV} {ks:List (List Nat)} {Q:AV->Prop} (e:PG σ a=some ks) (k1: ∀vs,Q (.dct ks vs)) (k2: ∀x vs,σ.get x=some (.dct ks vs)->Q (.ref x)):Q a:=by
 cases a<;>first|exact nn e|skip
 ·cases e;exact k1 _
 ·refine dctE e fun ks' vs hg e=> ?_
  cases e;exact k2 _ _ hg
@[elab_as_elim] theorem PH (R:cD C W σ h) {a:AV} {ks:List (List Nat)} (e:PG σ a=some ks) {v:ah} {Q:ah->Prop} (hv:V C W a v) (k: ∀x vs,(x==sysModules)=false->ks.length=vs.length->h.DictOf (strKind C.prog C.w) x ((ks.map aO).zip vs)->Q (.ref x)):Q v:=by
 revert hv
 refine aom e (fun _ hv=> ?_) fun x _ hg hv=> ?_
 ·exact hv.dctE fun x o vs q0 q r z=>k x vs q0 z.1 (js.mpr ⟨o,R.im _ _ q,z.2⟩)
 ·exact R.dctE hg hv fun p o vs _ _ q0 g r z=>k p.1 vs q0 z.1 (js.mpr ⟨o,g,z.2⟩)
theorem JI{α β:Type}{l:List α}{m:List β}:rv l m=decide (l.length=m.length):=by
 unfold rv
 rw[iy,iy,gm]
structure afH(C:PC)(A:b6)(s:az)(v w:ah)(r:Bool):Prop where
 eq: ∀Q:ah->az->Prop,Q (.bool r) s->wpAny (dH C) A (compareOp .Eq v w) Q dy s
 ne: ∀Q:ah->az->Prop,Q (.bool !r) s->wpAny (dH C) A (compareOp .NotEq v w) Q dy s
theorem agS{ks:List (List Nat)}{x y:aC}{vs ws:List ah}(hu:A.units+17<cLine)(x0:(x==sysModules)=false)(xl:ks.length=vs.length)(xd:s.heap.DictOf (strKind C.prog C.w) x ((ks.map aO).zip vs))(y0:(y==sysModules)=false)(yd:s.heap.DictOf (strKind C.prog C.w) y ((([]:List (List Nat)).map aO).zip ws)):afH C A s (.ref x) (.ref y) ks.isEmpty:=by
 have hl:((((ks.map aO).zip vs).length ==((([]:List (List Nat)).map aO).zip ws).length)&&true)=ks.isEmpty:=by
  cases ks with
  |nil=>simp
  |cons k ks=>cases vs with
   |nil=>simp at xl
   |cons v vs=>simp
 have hits:((ks.map aO).zip vs).length=((([]:List (List Nat)).map aO).zip ws).length->KeqHits A.in1 s ((([]:List (List Nat)).map aO).zip ws) ((ks.map aO).zip vs) true:=fun z=>by
  have:(ks.map aO).zip vs=[]:=mN.mp (by simpa using z)
  rw[this];exact KeqHits.nil
 exact⟨fun Q h=>keq_eq x0 y0 xd yd (by omega) hits (by rw[hl];exact h),fun Q h=>keq_ne x0 y0 xd yd (by omega) hits (by rw[hl];exact h)⟩
theorem agT(hi: ∀b o,W.im b=some o->s.heap.get? b=some o)(hu:A.units+17<cLine){l m:aa}{r:Bool}(e:(bif rv l m then KZ (wJ 16) l m else some false)=some r){x y n n':Nat}{vs ws:List ah}(g:s.heap.get? x=some (dz vs n))(q:VL C W l vs)(g':s.heap.get? y=some (dz ws n'))(q':VL C W m ws):afH C A s (.ref x) (.ref y) r:=by
 have hu':A.units<cLine:=eC (cZ _ _) hu
 refine bE e (fun hs e=> ?_) fun hs e=> ?_
 ·rw[JI,decide_eq_true_iff]at hs
  have hs':vs.length=ws.length:=by rw[q.length,q'.length,hs]
  obtain⟨f,p,rfl⟩:=PT (P:=Eqs A.in1 s) (fun a b r e v w hv hw=>Pk (C:=C) hi 16 A.in1 (by show A.units+1+16<_;rw[kK];exact hu) a b r e v w hv hw) e q q'
  have he: ∀j (h1:j<vs.toArray.size) (h2:j<ws.toArray.size),EqAt A.in1 s vs.toArray[j] ws.toArray[j] (f j):=fun j h1 h2=>by simpa using (p j (by simpa using h1) (by simpa using h2)).eq
  have k1:=RcAt.lists (e:=f) (lX g) (lX g') (by simpa using hs') hu' he
  have k2:=RcNeAt.lists (e:=f) (lX g) (lX g') (by simpa using hs') hu' he
  simp only[aZ]at k1 k2
  have ez:((co (min vs.length ws.length)).all f&&vs.length==ws.length)=(co vs.length).all f:=by rw[hs'];simp
  rw[ez]
  exact⟨fun Q h=>k1 _ _ _ _ h,fun Q h=>k2 _ _ _ _ h⟩
 ·apply s1 e
  rw[JI,decide_eq_false_iff_not]at hs
  have hs':(vs.toArray.size !=ws.toArray.size)=true:=by simpa[q.length,q'.length] using hs
  exact⟨fun Q h=>RcAt.lists_lengths (lX g) (lX g') hs' hu' _ _ _ _ h,fun Q h=>RcNeAt.lists_lengths (lX g) (lX g') hs' hu' _ _ _ _ h⟩
theorem PR(R:cD C W σ s.heap)(hu:A.units+17<cLine){a b:AV}{r:Bool}(e:eqA σ a b=some r){v w:ah}(hv:V C W a v)(hw:V C W b w):afH C A s v w r:=by
 have hi:=R.im
 refine odE e (fun b' q e=> ?_) fun e=>odE e (fun l hl e=>oE e fun m hm e=> ?_) fun e=>oE e fun ks hk e=>oE e fun ks' hm e=>kS e fun z e=> ?_
 ·apply s1 e
  have z:=Pk (C:=C) hi 16 A (eC (cU _) hu) a b b' q v w hv hw
  exact⟨fun Q h=>z.rc _ _ _ _ h,fun Q h=>z.ne _ _ _ _ h⟩
 ·exact nv R hl hv fun x n vs g q=>nv R hm hw fun y n' ws g' q'=>agT hi hu e g q g' q'
 ·apply s1 e
  have z:ks'=[]:=dM.mp z
  subst z
  exact PH R hk hv fun x vs x0 xl xd=>PH R hm hw fun y ws y0 _ yd=>agS hu x0 xl xd y0 yd
end
end
end
section
open PySem.SeqAt
noncomputable section
section
variable{C:PC}{W:Wd}{σ:AS}{h:bM}{A:b6}{s:az}
structure G0(C:PC)(A:b6)(s:az)(v w:ah)(r:Bool):Prop where
 isIn: ∀Q:ah->az->Prop,(∀t,Q (.bool r) {s with toks:=t})->wpAny (dH C) A (compareOp .In v w) Q dy s
 not: ∀Q:ah->az->Prop,(∀t,Q (.bool !r) {s with toks:=t})->wpAny (dH C) A (compareOp .NotIn v w) Q dy s
theorem Pg: ∀{l:aa} {ss:List (List Nat)},nO l=some ss-> ∀{vs:List ah},VL C W l vs-> ∃ts:List Tok,ts.length=ss.length/\vs=(ss.zip ts).map fun p=>.str (aO p.1) p.2:=by
 intro l
 induction l with
 |nil=>intro ss e vs hv;cases e;exact hv.nilE ⟨[],rfl,rfl⟩
 |cons a l ih=>
  intro ss e vs hv
  refine hv.consE fun v r hv h2=> ?_
  revert hv
  refine fh e fun x e hv=>oE e fun ss' q e=> ?_
  cases e
  refine hv.strE fun t=> ?_
  obtain⟨ts,a,b⟩:=ih q h2
  exact⟨t::ts,by simp[a],by simp[b]⟩
theorem afP: ∀{l:aa} {ss:List Int},N0 l=some ss-> ∀{vs:List ah},VL C W l vs-> ∃ts:List Tok,ts.length=ss.length/\vs=(ss.zip ts).map fun p=>.int p.1 p.2:=by
 intro l
 induction l with
 |nil=>intro ss e vs hv;cases e;exact hv.nilE ⟨[],rfl,rfl⟩
 |cons a l ih=>
  intro ss e vs hv
  refine hv.consE fun v r hv h2=> ?_
  revert hv
  refine ly e fun x e hv=>oE e fun ss' q e=> ?_
  cases e
  refine hv.intE fun t=> ?_
  obtain⟨ts,a,b⟩:=ih q h2
  exact⟨t::ts,by simp[a],by simp[b]⟩
noncomputable def isS(x:Str)(y:ah):Bool:=match y with
 | .str z _=>z==x
 |_=>false
noncomputable def isI(x:Int)(y:ah):Bool:=match y with
 | .int z _=>z==x
 |_=>false
theorem S0(p:ac): ∀(ss:List (List Nat)) (ts:List Tok),ts.length=ss.length->(((ss.zip ts).map fun p=>gw (aO p.1) p.2).any (isS (aO p)))=wK p ss
 |[],_,_=>by simp[Xd]
 |a::r,[],e=>by simp at e
 |a::r,t::ts,e=>by
  rw[bQ,bj,rI,Xc,S0 p r ts (by simpa using e),<- qA];rfl
theorem SZ(i:Int): ∀(ss:List Int) (ts:List Tok),ts.length=ss.length->(((ss.zip ts).map fun p=>BB p.1 p.2).any (isI i))=Xb i ss
 |[],_,_=>by simp[Xb]
 |a::r,[],e=>by simp at e
 |a::r,t::ts,e=>by
  have:(a==i)=KY a i:=by rw[rj];rfl
  rw[bQ,bj,rI,Xb,SZ i r ts (by simpa using e),<- this];rfl
theorem acu{v:ah}{vs:List ah}{r:Bool}{f:ah->Bool}(hf: ∀y,y∈vs.toArray->EqAt A.in1 s y v (f y))(he:vs.toArray.any f=r){w:aC}(hw:s.heap.IsList w vs.toArray\/s.heap.IsTuple w vs.toArray):G0 C A s v (.ref w) r:=by
 subst he
 rcases hw with hw|hw
 ·exact⟨fun Q h=>in_listAt f hw hf (h s.toks),fun Q h=>notIn_listAt f hw hf (h s.toks)⟩
 ·exact⟨fun Q h=>in_tupleAt f hw hf (h s.toks),fun Q h=>notIn_tupleAt f hw hf (h s.toks)⟩
theorem aas{x:AV}{l:aa}{r:Bool}(e:inL x l=some r){v:ah}(hv:V C W x v){vs:List ah}(hl:VL C W l vs){w:aC}(hw:s.heap.IsList w vs.toArray\/s.heap.IsTuple w vs.toArray):
  G0 C A s v (.ref w) r:=by
 revert hv
 cases x<;>intro hv<;>first|exact nn e|skip
 ·refine oE (show ob (N0 l) _=_ from e) fun ss q e=> ?_
  apply s1 e
  refine hv.intE fun t=> ?_
  obtain⟨ts,a,rfl⟩:=afP q hl
  exact acu (f:=isI _) (fun y hy=>by
   simp only[tM,dD]at hy
   obtain⟨z,_,rfl⟩:=hy
   exact EqAt.int_int _ _ _ _) (by rw[tI];exact SZ _ ss ts a) hw
 ·refine oE (show ob (nO l) _=_ from e) fun ss q e=> ?_
  apply s1 e
  refine hv.strE fun t=> ?_
  obtain⟨ts,a,rfl⟩:=Pg q hl
  exact acu (f:=isS _) (fun y hy=>by
   simp only[tM,dD]at hy
   obtain⟨z,_,rfl⟩:=hy
   exact EqAt.str_str _ _ _ _) (by rw[tI];exact S0 _ ss ts a) hw
theorem J3(p:ac): ∀(ks:List (List Nat)) (vs:List ah),ks.length=vs.length->(valueAt ((ks.map aO).zip vs) (aO p)).isSome=wK p ks
 |[],_,_=>by simp[valueAt,Xd]
 |k::ks,[],e=>by simp at e
 |k::ks,v::vs,e=>by
  have ih:=J3 p ks vs (by simpa using e)
  have z:=qA (a:=k) (b:=p)
  simp only[valueAt,bj,bQ,oN,Xc]at ih ⊢
  by_cases q:aO k=aO p
  ·rw[q]at z;simp only[beq_self_eq_true]at z;simp[q,<- z]
  ·have:dp k p=false:=by rw[<- z];exact beq_eq_false_iff_ne.mpr q
   simp[q,this,ih]
theorem aar{x:aC}{ks:List (List Nat)}{vs:List ah}{p:ac}{t:Tok}(x0:(x==sysModules)=false)(xl:ks.length=vs.length)(xd:s.heap.DictOf (strKind C.prog C.w) x ((ks.map aO).zip vs)):
  G0 C A s (.str (aO p) t) (.ref x) (wK p ks):=by
 have e:=J3 p ks vs xl
 exact⟨fun Q h=>wpAny_in_of (strKind_is C.prog C.w (aO p) t) x0 xd.mapOf (by rw[e];exact h _),fun Q h=>wpAny_notIn_of (strKind_is C.prog C.w (aO p) t) x0 xd.mapOf (by rw[e];exact h _)⟩
theorem aaq(R:cD C W σ s.heap){x c:AV}{r:Bool}(e:inA σ x c=some r){v w:ah}(hv:V C W x v)(hw:V C W c w):G0 C A s v w r:=by
 have dct: ∀{c:AV} {ks:List (List Nat)},PG σ c=some ks->V C W c w->(eg x fun p=>some (wK p ks))=some r->G0 C A s v w r:=fun hc hw e=>by
  revert hv
  refine fh e fun p e hv=> ?_
  apply s1 e
  exact hv.strE fun u=>PH R hc hw fun y vs y0 yl yd=>aar y0 yl yd
 have seq: ∀{c:AV} {l:List AV},nG σ c=some l->V C W c w->inL x l=some r->G0 C A s v w r:=fun hc hw e=>Hz R hc hw fun y vs q z=>aas e hv q z
 revert hw
 cases c<;>intro hw<;>first|exact nn e|skip
 ·rename_i s'
  revert hv
  refine fh e fun p e hv=> ?_
  apply s1 e
  exact hv.strE fun u=>hw.strE fun t=>⟨fun Q h=>Ws (by rw[Tq];exact h s.toks),fun Q h=>RC (by rw[Tq];exact h s.toks)⟩
 ·exact seq rfl hw e
 ·exact seq rfl hw e
 ·exact dct rfl hw e
 ·rename_i a
  refine oE (show ob (σ.get a) _=_ from e) fun cl hg e=> ?_
  cases cl<;>first|exact nn e|skip
  ·exact seq (c:=.ref a) (show nw σ a some=_ by unfold nw;rw[hg];rfl) hw e
  ·exact dct (c:=.ref a) (show Tc σ a (fun ks _=>some ks)=_ by unfold Tc;rw[hg];rfl) hw e
theorem F8{a:AV}{r:Bool}(e:lU a=some r){v:ah}(hv:V C W a v):(v== .none)=r:=by
 revert hv
 cases a<;>intro hv<;>first|exact nn e|(apply s1 e;first|exact hv.noneE rfl|exact hv.boolE rfl|exact hv.intE fun _=>rfl|exact hv.strE fun _=>rfl|exact hv.bytesE fun _=>rfl|exact hv.tupE fun _ _ _ _ _=>rfl|exact hv.lstE fun _ _ _ _ _=>rfl|exact hv.frzE fun _ _ _ _ _ _ _ _ _ _=>rfl|exact hv.dctE fun _ _ _ _ _ _ _=>rfl|exact hv.dctiE fun _ _ _ _ _ _ _=>rfl|exact hv.rngE fun _ _ _ _ _ _ _=>rfl|exact hv.refE fun _ _=>rfl)
end
end
end
section
open PySem.SeqAt
noncomputable section
section
variable{X:FX}{k:Nat}{W W':Wd}{fr:Fm}{σ aj:AS}{s s':az}{A:b6}
@[elab_as_elim] theorem VJ {o:Option Bool} {r:Bool} {P:Bool->Prop} (e:TP o=some r) (k: ∀b,o=some b->P (!b)):P r:=oE e fun b q e=>by
 apply s1 e;exact k b q
theorem zl(hk:5<=k)(R:eV A k)(T:St X W fr σ s){op:g8}{a b:AV}{r:Bool}(e:bO op a b σ=some r){v w:ah}(hv:V X.C W a v)(hw:V X.C W b w):
  wpAny (dH X.C) A (compareOp op v w) (fU X W fr (.bool r) σ) dy s:=by
 have hu:A.units+17<cLine:=by have:=R.units;omega
 have fin: ∀r,fU X W fr (.bool r) σ (.bool r) s:=fun r=>T.post rfl
 have two: ∀{f:Int->Int->Bool} {op:g8},(fe a fun i=>fe b fun j=>some (f i j))=some r->(∀i j t u,wpAny (dH X.C) A (compareOp op (.int i t) (.int j u)) (fU X W fr (.bool (f i j)) σ) dy s)->wpAny (dH X.C) A (compareOp op v w) (fU X W fr (.bool r) σ) dy s:=fun e h=>by
  revert hv
  refine ly e fun i e hv=> ?_
  revert hw
  refine ly e fun j e hw=> ?_
  apply s1 e
  exact hv.intE fun t=>hw.intE fun u=>h i j t u
 have inn: ∀{r':Bool},inA σ a b=some r'->G0 X.C A s v w r':=fun e=>aaq T.rel e hv hw
 have le: ∀i j:Int,(!C6 j i)=decide (i<=j):=fun i j=>by rw[x7,<- decide_not];congr 1;rw[sX]
 cases op with
 |Eq=>exact(PR T.rel hu e hv hw).eq _ (fin _)
 |NotEq=>exact VJ e fun b' q=>(PR T.rel hu q hv hw).ne _ (fin _)
 |Lt=>exact two e fun i j t u=>by rw[x7];exact Wu (fin _)
 |LtE=>
  revert hv
  cases a<;>intro hv<;>first|exact nn e|skip
  ·rename_i i
   revert hw
   refine ly (show(fe b fun j=>some (!C6 j i))=some r from e) fun j e hw=> ?_
   apply s1 e
   refine hv.intE fun t=>hw.intE fun u=> ?_
   rw[le];exact Wt (fin _)
  ·rename_i x
   revert hw
   refine fh (show(eg b fun t=>some (!C7 t x))=some r from e) fun j e hw=> ?_
   apply s1 e
   refine hv.strE fun t=>hw.strE fun u=>PySem.P.le_str ?_
   rw[gV,gV,EK]
   exact fin _
 |Gt=>exact two (f:=fun i j=>C6 j i) e fun i j t u=>by rw[x7];exact Wr (fin _)
 |GtE=>exact two (f:=fun i j=> !C6 i j) e fun i j t u=>by rw[le];exact Wq (fin _)
 |Is=>
  revert hw
  exact Cy e fun e hw=>hw.noneE (is_none (by rw[F8 e hv];exact fin _))
 |IsNot=>
  revert hw
  exact Cy e fun e hw=>hw.noneE (VJ e fun b' q=>isNot_none (by rw[F8 q hv];exact fin _))
 |In=>exact Wl (ax s.toks) ((inn e).isIn _ fun t ht=>(T.toks t ht).post rfl)
 |NotIn=>exact VJ e fun b' q=>Wl (ax s.toks) ((inn q).not _ fun t ht=>(T.toks t ht).post rfl)
theorem S7{f:AV->AV->AS->Option Bool}{m n:EM}{r:Bool}(e:eJ f m n fr σ=some (r,aj)){P:Prop}(k: ∀a ay b,m fr σ=some (a,ay)->n fr ay=some (b,aj)->f a b aj=some r->P):P:=
 fW e fun a ay e1 e=>fW e fun b aL e2 e=>oE e fun r' e3 e=>by
  cases e;exact k a ay b e1 e2 e3
@[elab_as_elim] theorem aaS {m:BM} {c:AV} {Q:AV->AS->Prop} (e:rY m fr σ=some (c,aj)) (k: ∀b ay,m fr σ=some (b,ay)->Q (.bool b) ay):Q c aj:=fW e fun b ay q e=>by
 apply s2 e;exact k b ay q
theorem akN{op:g8}{m n:EM}{a b:an}{p:Pos}(hk:5<=k)(hm:b8 X k m a)(hn:b8 X k n b)(hb:behindInMarks op b=false):b8 X k (rY (eJ (bO op) m n)) (.Compare a [op] [b] p):=fun A R W fr σ s T c aj e=>by
 refine aaS e fun r ay q=> ?_
 exact S7 q fun x ay y e1 e2 e3=>wpAny_Compare1 (EX hm hn R T e1 e2 fun v w dX cB l cR d9 j8=>eK (zl hk R cR e3 d9 j8) fun _ _ z=>z.le l) hb
theorem afh{op:g8}{m n:EM}{a b:an}{p:Pos}(hk:5<=k)(hm:b8 X k m a)(hn:b8 X k n b)(hb:behindInMarks op b=false):np X k (eJ (bO op) m n) (.Compare a [op] [b] p):=fun A R W fr σ s T r aj e=>by
 refine S7 e fun x ay y e1 e2 e3=>wpAny_isTrue_Compare1 (EX hm hn R T e1 e2 fun v w dX cB l cR d9 j8=>eK (zl hk R cR e3 d9 j8) fun u jM z=> ?_) hb
 exact z.elim fun xN hH jc h=>h.boolE (fT ⟨rfl,xN,l.trans hH,jc⟩)
theorem jT{n:Nat}(h:dj n=true):n<=4000000:=av h
theorem i6{n:Nat}(h:dj n=true):n<=sizeLine:=au (jT h) (by decide)
theorem my{l:aa}{vs:List ah}(h:VL X.C W l vs):vs.toArray.isEmpty=l.isEmpty:=by
 have:=h.length
 cases l<;>cases vs<;>simp_all
@[elab_as_elim] theorem Mj {l:aa} {b:Bool} (e:P0 l=some b) {P:Bool->Prop} (k:dj l.length=true->P (!l.isEmpty)):P b:=kS e fun h e=>by
 apply s1 e;exact k h
theorem zQ(T:St X W fr σ s){a:AV}{b:Bool}(e:qV σ a=some b){v:ah}(hv:V X.C W a v):wpAny (dH X.C) A (truthy v) (o5 X W fr b σ) dy s:=by
 have lst: ∀{a:AV} {l:List AV},iU σ a=some l->V X.C W a v->P0 l=some b->wpAny (dH X.C) A (truthy v) (o5 X W fr b σ) dy s:=fun q1 hv q2=>by
  refine nv T.rel q1 hv fun x n vs g q=> ?_
  refine Mj q2 fun ok=> ?_
  refine wpAny_truthy_list (lX g) (by have:=jT ok;simp only[aZ,q.length];omega) ?_
  rw[my q];exact(T.toks _).postB _
 revert hv
 cases a<;>intro hv<;>first|exact nn e|skip
 ·apply s1 e;exact hv.noneE (Ot (T.postB _))
 ·apply s1 e;exact hv.boolE (fT (T.postB _))
 ·rename_i i
  apply s1 e
  have:(!KY i 0)=(i !=0):=by rw[rj];rfl
  rw[this]
  exact hv.intE fun t=>PySem.P.truthy_int (T.postB _)
 ·rename_i x
  refine kS e fun ok e=> ?_
  apply s1 e
  have hl:=jT ok
  refine hv.strE fun t=>PySem.P.truthy_str (by rw[bP];omega) ?_
  have:(((aO x).length:Int) !=0)= !x.isEmpty:=by
   rw[bP]
   cases x with
   |nil=>rfl
   |cons a l=>simp only[bT,E5,fD];exact bne_iff_ne.mpr (by omega)
  rw[this];exact(T.toks _).postB _
 ·rename_i l
  refine Mj e fun ok=> ?_
  refine hv.tupE fun x n vs g q=> ?_
  refine NK (items:=vs.toArray) ⟨_,T.rel.im _ _ g,rfl,n,rfl⟩ (by have:=jT ok;simp only[aZ,q.length];omega) ?_
  rw[my q];exact(T.toks _).postB _
 ·exact lst rfl hv e
 ·refine lstE e fun l hg e=>lst (a:=.ref _) ?_ hv e
  show nw σ _ some=some l
  unfold nw;rw[hg];rfl
theorem o5.le'{b b':Bool}(l:W.le W')(z:o5 X W' fr b σ b' s):o5 X W fr b σ b' s:=⟨z.1,let⟨cB,dR,cR⟩:=z.2;⟨cB,l.trans dR,cR⟩⟩
theorem Y9{m:EM}{b:Bool}{P:Prop}(e:ji m fr σ=some (b,aj))(k: ∀a,m fr σ=some (a,aj)->qV aj a=some b->P):P:=fW e fun a ay e1 e=>oE e fun b' e2 e=>by
 cases e;exact k a e1 e2
theorem afq{m:EM}{e:an}(hm:b8 X k m e)(he: ∀env w,isTrue e env w=(do let v <- w;standAt e.pos;holding [v] (truthy v))):np X k (ji m) e:=fun A R W fr σ s T b aj q=>by
 rw[he]
 exact Y9 q fun a e1 e2=>aq (hm.go R T e1 fun v bv bn bD bz d9=>aq (dC (dJ (eK (zQ bz e2 d9) fun _ _ z=>z.le' bD))))
@[elab_as_elim] theorem ace {m:BM} {b:Bool} {Q:Bool->AS->Prop} (e:pe m fr σ=some (b,aj)) (k: ∀a ay,m fr σ=some (a,ay)->Q (!a) ay):Q b aj:=fW e fun a ay e1 e=>by
 apply s2 e;exact k a ay e1
theorem afo{b:BM}{e:an}{p:Pos}(hb:np X k b e):np X k (pe b) (.UnaryOp .Not e p):=fun A R W fr σ s T r aj q=>by
 refine ace q fun a ay e1=> ?_
 show wpAny _ _ (do return !(<- isTrue e X.env (eval e X.env))) _ _ _
 exact aq (hb.go R T e1 fun bv bn bD bz=>aM ⟨rfl,bn,bD,bz⟩)
theorem alN(op:cF)(x y:an)(env:Env):allTrue op [x,y] env=(do match op,<- isTrue x env (eval x env)with| .And,false=>pure false| .Or,true=>pure true|_,_=>allTrue op [y] env):=rfl
theorem U6{M:lp}{Q:Bool->az->Prop}{E:ah->az->Prop}(op:cF)(y:an)(env:Env)(h:wpAny M A (isTrue y env (eval y env)) Q E s):wpAny M A (allTrue op [y] env) Q E s:=by
 show wpAny M A (do match op,<- isTrue y env (eval y env)with| .And,false=>pure false| .Or,true=>pure true|_,_=>allTrue op [] env) Q E s
 refine aq (jx h (fun b s' hq=> ?_) fun _ _ e=>e)
 cases op<;>cases b<;>exact aM hq
def pT(X:FX)(k:Nat)(op:cF)(m:BM)(es:List an):Prop:=
 ∀A,eV A k-> ∀W fr σ s,St X W fr σ s-> ∀b aj,m fr σ=some (b,aj)->wpAny (dH X.C) A (allTrue op es X.env) (o5 X W fr b aj) dy s
theorem pT.one{op:cF}{b:BM}{e:an}(h:np X k b e):pT X k op b [e]:=fun A R W fr σ s T r aj q=>U6 op e X.env (h A R W fr σ s T r aj q)
theorem pT.and{a b:BM}{e:an}{es:List an}(ha:np X k a e)(hb:pT X k .And b es):pT X k .And (afZ a b) (e::es):=fun A R W fr σ s T r aj q=>by
 show wpAny _ _ (do match Zn,<- isTrue e X.env (eval e X.env)with| .And,false=>pure false| .Or,true=>pure true|_,_=>allTrue .And es X.env) _ _ _
 refine fW q fun t ay e1 q=>aq (ha.go R T e1 fun bv bn bD bz=> ?_)
 cases t with
 |true=>exact eK (hb A R bn fr ay bv bz r aj q) fun _ _ z=>z.le' bD
 |false=>apply s2 q;exact aM ⟨rfl,bn,bD,bz⟩
theorem pT.or{a b:BM}{e:an}{es:List an}(ha:np X k a e)(hb:pT X k .Or b es):pT X k .Or (R8 a b) (e::es):=fun A R W fr σ s T r aj q=>by
 show wpAny _ _ (do match abI,<- isTrue e X.env (eval e X.env)with| .And,false=>pure false| .Or,true=>pure true|_,_=>allTrue .Or es X.env) _ _ _
 refine fW q fun t ay e1 q=>aq (ha.go R T e1 fun bv bn bD bz=> ?_)
 cases t with
 |true=>apply s2 q;exact aM ⟨rfl,bn,bD,bz⟩
 |false=>exact eK (hb A R bn fr ay bv bz r aj q) fun _ _ z=>z.le' bD
theorem pT.test{op:cF}{m:BM}{es:List an}{p:Pos}(h:pT X k op m es):np X k m (.BoolOp op es p):=fun A R W fr σ s T r aj q=>h A R W fr σ s T r aj q
def lh(X:FX)(k:Nat)(op:cF)(m:EM)(es:List an):Prop:=
 ∀A,eV A k-> ∀W fr σ s,St X W fr σ s-> ∀a aj,m fr σ=some (a,aj)-> ∀p,wpAny (dH X.C) A (boolOp p op (evalEach es X.env)) (fU X W fr a aj) dy s
theorem lh.one{op:cF}{m:EM}{e:an}(h:b8 X k m e):lh X k op m [e]:=fun A R W fr σ s T a aj q p=>h A R W fr σ s T a aj q
theorem Ve(p:Pos)(op:cF)(x:Sem ah)(y:Sem ah)(r:List (Sem ah)):boolOp p op (x::y::r)=(do
  let v <- x
  standAt p
  let t <- holding [v] (truthy v)
  match op,t with
  | .And,false| .Or,true=>pure v
  |_,_=>boolOp p op (y::r)):=rfl
theorem Xp{op:cF}{m:EM}{e e':an}{es:List an}(hm:b8 X k m e)(R:eV A k)(T:St X W fr σ s){a:AV}{ay:AS}(e1:m fr σ=some (a,ay)){t:Bool}(e2:qV ay a=some t){p:Pos}{Q:ah->az->Prop}
  (h: ∀v dX cB,W.le cB->St X cB fr ay dX->V X.C cB a v->wpAny (dH X.C) A (match op,t with| .And,false| .Or,true=>pure v|_,_=>boolOp p op (evalEach (e'::es) X.env)) Q dy dX):wpAny (dH X.C) A (boolOp p op (evalEach (e::e'::es) X.env)) Q dy s:=by
 show wpAny _ _ (boolOp p op (eval e X.env::eval e' X.env::evalEach es X.env)) _ _ _
 rw[Ve]
 exact aq (hm.go R T e1 fun v bv bn bD bz d9=>aq (dC (aq (dJ (eK (zQ bz e2 d9) fun t dX z=>z.elim fun cB dR cR=>h v dX cB (bD.trans dR) cR (d9.mono dR))))))
theorem lh.and{m n:EM}{e e':an}{es:List an}(hm:b8 X k m e)(hn:lh X k .And n (e'::es)):lh X k .And (Tf m n) (e::e'::es):=fun A R W fr σ s T a aj q p=>by
 refine fW q fun wv ay e1 q=>oE q fun t e2 q=>Xp hm R T e1 e2 fun v dX cB l cR z=> ?_
 cases t with
 |true=>exact eK (hn A R cB fr ay dX cR a aj q p) fun _ _ z=>z.le l
 |false=>apply s2 q;exact aM ⟨cB,l,cR,z⟩
theorem lh.or{m n:EM}{e e':an}{es:List an}(hm:b8 X k m e)(hn:lh X k .Or n (e'::es)):lh X k .Or (eOr m n) (e::e'::es):=fun A R W fr σ s T a aj q p=>by
 refine fW q fun wv ay e1 q=>oE q fun t e2 q=>Xp hm R T e1 e2 fun v dX cB l cR z=> ?_
 cases t with
 |true=>apply s2 q;exact aM ⟨cB,l,cR,z⟩
 |false=>exact eK (hn A R cB fr ay dX cR a aj q p) fun _ _ z=>z.le l
theorem lh.val{op:cF}{m:EM}{es:List an}{p:Pos}(h:lh X k op m es):b8 X k m (.BoolOp op es p):=fun A R W fr σ s T a aj q=>h A R W fr σ s T a aj q p
theorem akU{m:EM}{e:an}{p:Pos}(hm:b8 X k m e):b8 X k (rY (pe (ji m))) (.UnaryOp .Not e p):=fun A R W fr σ s T a aj q=>by
 refine aaS q fun r ay e0=> ?_
 refine ace e0 fun r ay e0=> ?_
 refine Y9 e0 fun a e1 e2=> ?_
 show wpAny _ _ (do let v <- eval e X.env;standAt p;holding [v] (unaryOp .Not v)) _ _ _
 exact aq (hm.go R T e1 fun v bv bn bD bz d9=>aq (dC (dJ (Wv (eK (zQ bz e2 d9) fun t dX z=>z.elim fun cB dR cR=>⟨cB,bD.trans dR,cR,rfl⟩)))))
theorem akT{m:EM}{e:an}{p:Pos}(hm:b8 X k m e):b8 X k (un aiK m) (.UnaryOp .USub e p):=fun A R W fr σ s T a aj q=>by
 refine fW q fun wv ay e1 q=>oE q fun b e2 q=> ?_
 apply s2 q
 show wpAny _ _ (do let v <- eval e X.env;standAt p;holding [v] (unaryOp .USub v)) _ _ _
 refine aq (hm.go R T e1 fun v bv bn bD bz d9=>aq (dC (dJ ?_)))
 revert d9
 refine ly e2 fun i e2 d9=> ?_
 apply s1 e2
 exact d9.intE fun t=>Uy ⟨bn,bD,bz.toks _,_,rfl⟩
theorem akR{c:BM}{m n:EM}{t a b:an}{p:Pos}(hc:np X k c t)(hm:b8 X k m a)(hn:b8 X k n b):b8 X k (tl c m n) (.IfExp t a b p):=fun A R W fr σ s T v aj q=>by
 show wpAny _ _ (do if <- isTrue t X.env (eval t X.env)then eval a X.env else eval b X.env) _ _ _
 refine fW q fun r ay e1 q=>aq (hc.go R T e1 fun bv bn bD bz=> ?_)
 cases r with
 |true=>exact eK (hm A R bn fr ay bv bz v aj q) fun _ _ z=>z.le bD
 |false=>exact eK (hn A R bn fr ay bv bz v aj q) fun _ _ z=>z.le bD
end
end
end
section
open PySem.SeqAt
noncomputable section
section
variable{X:FX}{k:Nat}{W W':Wd}{fr:Fm}{σ aj:AS}{s s':az}{A:b6}
theorem zK{i:Int}(h:mK i=true):k8 i<=4001:=by
 have h1:i.natAbs<=2^4000:=av h
 unfold k8
 split
 ·omega
 ·rename_i q
  have h0:i.natAbs≠0:=by simpa using q
  have:i.natAbs.log2<4001:=(FE h0).mpr (eC h1 (yS (by decide) (by decide)))
  omega
theorem uq: ∀(n:Nat) (x acc:List ah),((bL n x.toArray).foldl (fun x1 x2=>x1++x2) acc.toArray)=(acc++(bL n x).flatten).toArray
 |0,x,acc=>by simp
 |n+1,x,acc=>by
  rw[lc,Ie,lc,mQ,<- aB]
  have e:acc.toArray++x.toArray=(acc++x).toArray:=by simp
  rw[e];exact uq n x (acc++x)
theorem abQ{C:PC}{l:aa}{vs:List ah}(h:VL C W l vs): ∀n,VL C W ((bL n l).flatten) ((bL n vs).flatten)
 |0=>VL.nil
 |n+1=>by
  rw[lc,mQ,lc,mQ]
  exact h.append (abQ h n)
@[elab_as_elim] theorem afV {a b:AV} {f:Int->Int->Option AV} {r:AV} {C:PC} {W:Wd} {v w:ah} {Q:ah->ah->Prop} (e:(fe a fun i=>fe b fun j=>f i j)=some r) (hv:V C W a v) (hw:V C W b w) (k: ∀i j t u,f i j=some r->Q (.int i t) (.int j u)):Q v w:=by
 revert hv
 refine ly e fun i e hv=> ?_
 revert hw
 refine ly e fun j e hw=> ?_
 exact hv.intE fun t=>hw.intE fun u=>k i j t u e
theorem YS{j:Int}(h:mK j=true)(h0:j≠0):j.natAbs.log2<4001:=by
 have h1:j.natAbs<=2^4000:=av h
 exact(FE (Int.natAbs_ne_zero.mpr h0)).mpr (eC h1 (yS (by decide) (by decide)))
theorem Xl(T:St X W fr σ s){op:iH}{a b c:AV}(e:anB op a b=some c){v w:ah}(hv:V X.C W a v)(hw:V X.C W b w):
  wpAny (dH X.C) A (binaryOp op v w) (fU X W fr c σ) dy s:=by
 have int: ∀i t,fU X W fr (.int i) σ (.int i t) {s with toks:=s.toks+1}:=fun i t=>(T.toks _).post ⟨_,rfl⟩
 have hii: ∀{op:iH} {f:Int->Int->Option AV},(fe a fun i=>fe b fun j=>f i j)=some c->(∀i j t u,f i j=some c->wpAny (dH X.C) A (binaryOp op (.int i t) (.int j u)) (fU X W fr c σ) dy s)->wpAny (dH X.C) A (binaryOp op v w) (fU X W fr c σ) dy s:=fun e h=>afV e hv hw h
 cases op<;>first|exact nn e|skip
 ·revert hv
  cases a<;>intro hv<;>first|exact nn e|skip
  ·revert hw
   refine ly (show(fe b fun j=>_)=some c from e) fun j e hw=> ?_
   apply s1 e
   exact hv.intE fun t=>hw.intE fun u=>Ut (int _ _)
  ·rename_i x
   revert hw
   refine fh (show(eg b fun t=>_)=some c from e) fun y e hw=>kS e fun ok e=> ?_
   rw[iy,iy]at ok
   rw[Xe]at e
   apply s1 e
   refine hv.strE fun t=>hw.strE fun u=>Wl (ax s.toks) (Uu (fun t' tk ht=>(T.toks _ ht).post ⟨t',by rw[Ss]⟩) ?_)
   rw[bP,bP];exact i6 ok
  ·rename_i l
   revert hw
   refine NR (show(Hg b fun t=>_)=some c from e) fun m e hw=>kS e fun z e=> ?_
   apply s1 e
   simp only[cM,ej]at z
   obtain⟨⟨z1,z2⟩,z3⟩:=z
   refine hv.tupE fun x n vs g q=>hw.tupE fun y n' ws g' q'=> ?_
   refine PySem.P.add_tuple (items:=vs.toArray) (items2:=ws.toArray) (T.rel.im _ _ g) (T.rel.im _ _ g') (by rw[my q,z2];decide) (by rw[my q',z3];decide) ?_ ?_
   ·rw[Bi]
    obtain⟨l,T'⟩:=T.pushIm (o:=tw (vs++ws) 0) rfl s.toks
    exact⟨_,l,T',_,0,vs++ws,rfl,kX,(q.mono l).append (q'.mono l)⟩
   ·rw[aZ,aZ,q.length,q'.length];exact i6 z1
 ·exact hii e fun i j t u e=>by apply s1 e;exact UA (int _ _)
 ·revert hv
  cases a<;>intro hv<;>first|exact nn e|skip
  ·revert hw
   refine ly (show(fe b fun j=>_)=some c from e) fun j e hw=>kS e fun ok e=> ?_
   apply s1 e
   obtain⟨o1,o2⟩:=bk.mp ok
   exact hv.intE fun t=>hw.intE fun u=>Ux (int _ _) (IntMulOk.of_bits (au (zK o1) (by decide)) (au (zK o2) (by decide)))
  ·revert hw
   refine ly (show(fe b fun j=>_)=some c from e) fun j e hw=>kS e fun z e=> ?_
   apply s1 e
   simp only[cM,x7,decide_eq_true_eq]at z
   obtain⟨z1,z2⟩:=z
   refine hv.strE fun t=>hw.intE fun u=>Wl (ax s.toks) (PySem.SB.mul ⟨by simp;omega,fun h=>absurd z2 h,fun h=>absurd z2 h⟩ fun t' tk ht=>(T.toks _ ht).post ⟨t',?_⟩)
   unfold Txt.mul;rw[if_pos z2];rfl
 ·exact hii e fun i j t u e=>kN e fun z e=>by
   apply s1 e
   rw[rj,decide_eq_false_iff_not]at z
   exact Uw z (int _ _)
 ·exact hii e fun i j t u e=>kS e fun z e=>by
   apply s1 e
   simp only[cM,ej,x7,decide_eq_true_eq,decide_eq_false_iff_not]at z
   obtain⟨⟨z1,z2⟩,z3⟩:=z
   refine Uz (sX.mp z2) ?_ (int _ _)
   have:=zK z1
   have h1:(k8 i:Int)<=4001:=by omega
   have h2:(k8 i:Int)*j<=4001*1000:=Int.mul_le_mul h1 (by omega) (by omega) (by omega)
   omega
 ·exact hii e fun i j t u e=>kN e fun z e=>by
   apply s1 e
   simp only[oH,rj,decide_eq_false_iff_not,Bool.not_eq_false']at z
   exact NJ z.1 (int _ _) (.inl (PyProof.noPylong_of_log2 (Ok (YS z.2 z.1) (by decide))))
theorem VH{prog:gg}{w:d5}{E:ah->az->Prop}{l:aC}{items:Array ah}{n:Nat}{x:Int}{u:Tok}{Q:ah->az->Prop}(hl:s.heap.get? l=some {cls:=.type "list",dict:=none,data:=.seq items n,slots:= #[]})
  (k1: ¬(!kI x)=true)(k2: ¬items.size*x.toNat>(2^63-1) / 8)(k3: ¬i8 (items.size*x.toNat)=true)
  (h:Q (.ref s.heap.objs.size) {s with heap:=s.heap.push {cls:=.type "list",data:=.seq (Ur (fun x1 x2=>x1++x2) #[] (bL (if items.isEmpty=true then 0 else x.toNat) items))}}):
  wpAny (model prog w) A (binaryOp .Mult (.ref l) (.int x u)) Q E s:=
 wpAny_binaryOp_repeat_ref (T:="list") (U:="int") (by decide) ⟨_,hl,rfl⟩ (fun s'=>typeIs_int s' x u) noFill_list_mul F.fills_int_mul Ic repeat_list F.slot_int_index.lookup
  (ml Ic (typeIs_int s x u) F.entry_int_rmul (F.args_int_rmul_2 _ _) (int___rmul___int_list x u l items n)
   ⟨hl,rfl,⟨_,hl,rfl⟩,ml F.slot_list_mul ⟨_,hl,rfl⟩ F.entry_list_mul (F.args_list_mul_2 _ _)
    (FC l items n x u k1 k2 k3) ⟨hl,h⟩⟩)
theorem aaK(T:St X W fr σ s){x j:Nat}{l:aa}(hg:σ.get x=some (.lst l))(z:bc j 100=true)(z2:cJ l.length 1000=true){v:ah}(hv:V X.C W (.ref x) v)(u:Tok):
  wpAny (dH X.C) A (binaryOp .Mult v (.int (.ofNat j) u)) (fU X W fr (.ref σ.next) (σ.alloc (.lst ((bL j l).flatten)))) dy s:=by
 refine T.rel.lstE hg hv fun p vs n _ _ g q=> ?_
 have z:=cC.mp z
 have z2:=av z2
 have hp:vs.length*j<=1000*100:=Nat.mul_le_mul (by rw[q.length];exact z2) (gP z)
 have hj:(ai j).toNat=j:=rfl
 have hz:vs.toArray.size*(ai j).toNat <=100000:=by rw[aZ,hj];exact hp
 clear hv hg hp z2
 have k1: ¬(!kI (ai j))=true:=by
  have h1:(-(2^63):Int)<=ai j:=by have:=dr j;show(-(2^63):Int)<=(j:Int);omega
  have h2:(ai j:Int)<2^63:=by show(j:Int)<2^63;omega
  simp only[kI,decide_eq_true h1,decide_eq_true h2];decide
 have k2: ¬vs.toArray.size*(ai j).toNat >(2^63-1) / 8:=b7.mpr (au hz (by decide))
 have k3: ¬i8 (vs.toArray.size*(ai j).toNat)=true:=by
  unfold i8 sizeLine;rw[decide_eq_true_iff];exact b7.mpr (au hz (by decide))
 refine VH g k1 k2 k3 ?_
 have e1:(Ur (fun x1 x2=>x1++x2) #[] (bL (if vs.toArray.isEmpty=true then 0 else(ai j).toNat) vs.toArray))=((bL j vs).flatten).toArray:=by
  have e2:=uq (if vs.toArray.isEmpty=true then 0 else(ai j).toNat) vs []
  rw[vx]at e2
  rw[show(#[]:Array ah)=([]:List ah).toArray from rfl,e2]
  cases vs with
  |nil=>simp
  |cons v vs=>simp
 rw[e1]
 obtain⟨l,T'⟩:=T.pushLst (abQ q j) s.toks
 exact⟨_,l,T',ri⟩
theorem ZL{op:iH}:anv X k (binaryOp op) (b4 op):=fun A R W fr σ s T a b v w hv hw c aj e=>by
 refine odE e (fun c' q e=> ?_) fun e=> ?_
 ·apply s2 e;exact Xl T q hv hw
 cases op<;>first|exact nn e|skip
 ·refine oE (show ob (iU σ a) _=_ from e) fun l hl e=>oE e fun m hm e=>kS e fun ok e=> ?_
  apply s2 e
  refine nv T.rel hl hv fun x n vs g q=>nv T.rel hm hw fun y n' ws g' q'=>PySem.P.add_list (items:=vs.toArray) (items2:=ws.toArray) g g' ?_ ?_
  ·rw[Bi]
   obtain⟨l,T'⟩:=T.pushLst (q.append q') s.toks
   exact⟨_,l,T',ri⟩
  ·rw[aZ,aZ,q.length,q'.length];exact i6 ok
 ·revert hv
  refine iD (show(iw a fun x=>_)=some (c,aj) from e) fun x e hv=> ?_
  revert hw
  refine lz e fun j e hw=>kS e fun z e=>lstE e fun l hg e=>kS e fun z2 e=> ?_
  apply s2 e
  exact hw.intE fun u=>aaK T hg z z2 hv u
end
end
end
section
open PySem.SeqAt
noncomputable section
section
variable{X:FX}{k:Nat}{W W':Wd}{fr:Fm}{σ aj:AS}{s s':az}{A:b6}{h:bM}{C:PC}
noncomputable def th:an->Bool
 | .Call f a _ _=>match f with
  | .Name .. => !a.isEmpty
  | .Attribute .. =>true
  |_=>false
 |_=>true
theorem af8{o:an}(ho:th o=true)(attr:Str)(env:Env)(w:Sem ah):attributeBase o attr env w=w:=by
 cases o with
 |Call f a k p=>cases f with
  |Name x q=>cases a with
   |nil=>exact ff ho
   |cons=>rfl
  |Attribute=>rfl
  |_=>exact ff ho
 |_=>rfl
theorem l9{M:lp}{E:ah->az->Prop}{o:an}{attr:Str}{env:Env}{Q:ah->az->Prop}(ho:th o=true)
  (h:wpAny M A (eval o env) Q E s):wpAny M A (attributeBase o attr env (eval o env)) Q E s:=by
 rw[af8 ho];exact h
theorem VS{a b:AV}(e:tr a=some b){P:AV->Prop}(k:(∀{v:ah},V C W a v->handedIn v=true)->P a):P b:=by
 cases a<;>first|exact nn e|(apply s1 e;refine k fun{v} hv=> ?_;first|exact hv.noneE rfl|exact hv.boolE rfl|exact hv.intE fun _=>rfl|exact hv.strE fun _=>rfl|exact hv.bytesE fun _=>rfl|exact hv.tupE fun _ _ _ _ _=>rfl|exact hv.lstE fun _ _ _ _ _=>rfl|exact hv.frzE fun _ _ _ _ _ _ _ _ _ _=>rfl|exact hv.dctE fun _ _ _ _ _ _ _=>rfl|exact hv.dctiE fun _ _ _ _ _ _ _=>rfl|exact hv.rngE fun _ _ _ _ _ _ _=>rfl|exact hv.refE fun _ _=>rfl)
theorem aah{x k:Nat}(hx:x<C.nf)(hk:k<C.nf){en:ik}{es:List ik}{t:Tok}(ht:en.key= .str (C.fname x) t):getL (C.fname k) (en::es)=if k=x then some (some en.val)else getL (C.fname k) es:=by
 by_cases h:k=x
 ·subst h
  rw[if_pos rfl]
  unfold getL
  rw[oN,ht]
  simp[kU]
 ·rw[if_neg h]
  have hne:C.fname x≠C.fname k:=fun q=>h (C.fnameInj _ _ hx hk q).symm
  have hf:en.key.isStr (C.fname k)=false:=by rw[ht];simp[kU,hne]
  have hr:en.refKey=false:=by unfold GC;rw[ht]
  unfold getL
  rw[oN,hf,rI,hr];rfl
theorem XR{k:Nat}(hk:k<C.nf): ∀{ks:ac} {fs:aa} {vs:List ah} {es:List ik} {b:AV},xW k ks fs=some b->VL C W fs vs->oX C ks vs es-> ∃v,getL (C.fname k) es=some (some v)/\V C W b v:=by
 intro ks
 induction ks with
 |nil=>intro fs vs es b e;exact nn e
 |cons x ks ih=>
  intro fs vs es b e hv
  cases fs with
  |nil=>exact nn e
  |cons a fs=>
   refine hv.consE fun v r h1 h2 hK=> ?_
   cases es with
   |nil=>exact hK.elim
   |cons en es=>
    obtain⟨hx,⟨t,ht⟩,rfl,hK⟩:=hK
    rw[aah hx hk ht]
    rw[XS,gm]at e
    by_cases z:k=x
    ·rw[if_pos z]
     rw[decide_eq_true z]at e
     cases e
     exact⟨_,rfl,h1⟩
    ·rw[if_neg z]
     rw[decide_eq_false z]at e
     exact ih e h2 hK
theorem Me{K:dL}{c:aC}{n:Str}(h:IW K c n=true):plainGet K c n=true/\hasDictIn K c=true/\(∃a,findIn K (.ref c) n=some a/\noGet K a=true)/\findIn K (.ref c) "__setattr__"=some (some (.builtin "object.__setattr__"))/\plainOver K c=true/\takerIn K c n=some none:=by
 unfold IW at h
 simp only[cM,beq_iff_eq]at h
 obtain⟨⟨⟨⟨⟨a,b⟩,c⟩,d⟩,e⟩,f⟩:=h
 refine⟨a,b,?_,d,e,f⟩
 revert c
 cases findIn K (.ref _) n with
 |none=>exact fun c=>ff c
 |some x=>exact fun c=>⟨x,rfl,c⟩
theorem cD.K(R:cD C W σ h):C.K.In h:=fun a o e=>R.im _ _ (R.base _ _ (C.inK _ _ e))
structure OE(C:PC)(W:Wd)(h:bM)(v:ah)(c:Nat)(ks:List Nat)(fs:List AV):Prop where
 at_: ∃x d es n vs,v= .ref x/\C.cls c=true/\h.get? x=some (instObj c d)/\h.get? d=some (dictOf es n)/\VL C W fs vs/\oX C ks vs es
theorem Tm(R:cD C W σ h){c:Nat}{ks:ac}{fs:aa}{v:ah}(hv:V C W (.frz c ks fs) v):OE C W h v c ks fs:=
 hv.frzE fun x d es n vs q0 q1 q2 r z=>⟨x,d,es,n,vs,rfl,q0,R.im _ _ q1,R.im _ _ q2,r,z⟩
theorem TX(R:cD C W σ h){a c:Nat}{ks:ac}{fs:aa}{v:ah}(hg:σ.get a=some (.inst c ks fs))(hv:V C W (.ref a) v):OE C W h v c ks fs:=
 R.instE hg hv fun p es n vs _ q0 q1 q2 r z=>⟨p.1,p.2,es,n,vs,rfl,q0,R.im _ _ q1,q2,r,z⟩
theorem ajP(R:cD C W σ h){a c:Nat}{l:aa}{v:ah}(hg:σ.get a=some (.orc c l))(hc:C.cls c=true)(hv:V C W (.ref a) v): ∃ks fs,OE C W h v c ks fs:=by
 obtain⟨p,q,rfl⟩:=hv
 obtain⟨p',e',⟨cc,q1,q2⟩,_⟩:=R.cell _ _ hg
 rw[q]at e';cases e'
 obtain⟨ks,fs,rfl⟩:=C.concInst _ _ _ q1 hc
 obtain⟨q0,q1,es,n,vs,q2,r,z⟩:=q2
 exact⟨ks,fs,p.1,p.2,es,n,vs,rfl,q0,R.im _ _ q1,q2,r,z⟩
theorem Pq(T:St X W fr σ s){v:ah}{c kk:Nat}{ks:ac}{fs:aa}(I:OE X.C W s.heap v c ks fs)(hk:kk<X.C.nf){b:AV}(e:(ob (NY c kk ks fs) fun v=>tr v)=some b){ex:Bool}:
  wpAny (dH X.C) A (getAttr v (X.C.fname kk) ex) (fU X W fr b σ) dy s:=by
 obtain⟨x,d,es,n,vs,rfl,q0,q1,q2,r,z⟩:=I.at_
 refine oE e fun arq e0 e'=>kN e0 fun e0 e=> ?_
 obtain⟨p1,p2,⟨a,p3,p4⟩,_⟩:=Me (X.C.attr c kk q0 hk e0)
 obtain⟨w,g,q⟩:=XR hk e r z
 apply VS (C:=X.C) (W:=W) e';intro e2
 exact get_value T.rel.K (I:=(⟨q1,rfl,rfl,q2⟩:InstAt s.heap x (instObj c d) c (some (dictOf es n)))) (qF p1).1 (findObj_own p2 p3 p4 g) (e2 q) ((T.toks _).post q)
theorem Va(T:St X W fr σ s){kk:Nat}(hk:kk<X.C.nf){a b:AV}(e:aA kk a σ=some b){v:ah}(hv:V X.C W a v){ex:Bool}:wpAny (dH X.C) A (getAttr v (X.C.fname kk) ex) (fU X W fr b σ) dy s:=by
 revert hv
 cases a<;>intro hv<;>first|exact nn e|skip
 ·exact Pq T (Tm T.rel hv) hk e
 ·exact instE e fun c ks vs hg e=>Pq T (TX T.rel hg hv) hk e
theorem akL{kk:Nat}{m:EM}{o:an}{p:Pos}(hk:kk<X.C.nf)(hb:th o=true)(hm:b8 X k m o):b8 X k (un (aA kk) m) (.Attribute o (X.C.fname kk) p):=fun A R W fr σ s T a aj q=>by
 refine fW q fun wv ay e1 q=>oE q fun b e2 q=> ?_
 apply s2 q
 rw[arm_eval_Attribute]
 exact aq (l9 hb (hm.go R T e1 fun v bv bn bD bz d9=>aq (dC (aq (dJ
  (eK (Va bz hk e2 d9) fun r dX z=>aq (wpAny_letTemporaryGo (aM (z.le bD)))))))))
theorem QB{α:Type}: ∀{l:List α} {i:Nat} {a:α},HH l i=some a->l[i]? =some a
 |_::_,0,_,e=>e
 |_::r,i+1,_,e=>QB (l:=r) e
 |[],_,_,e=>by cases e
theorem amH{n:Nat}(h3:n<=4000000): -(2^63)<= -(n:Int)-1:=by omega
theorem N4(n:Nat): -(n:Int)-1<0:=by omega
theorem acC{m n:Nat}(h2:n<m): -(m:Int)<= -(n:Int)-1:=by omega
theorem acD{m n:Nat}(h2:n<m):m-1-n=(-(n:Int)-1+m).toNat:=by
 rw[show-(n:Int)-1+m=((m-1-n:Nat):Int) by omega];rfl
theorem TR{α:Type}{l:List α}{i:Int}{a:α}(e:Yu l i=some a): ∃n,seqIndex? i l.length=some n/\l[n]? =some a/\ -(2^63)<=i/\i<2^63/\((0<=i/\n=i.toNat)\/(i<0/\ -(l.length:Int)<=i/\n=(i+l.length).toNat)):=by
 cases i with
 |ofNat n=>
  refine kS e fun ok e=> ?_
  have h1:=QB e
  have h2:n<l.length:=(cW.mp h1).1
  exact⟨n,StrLaws.seqIndex_nonneg (dr n) (il.mpr h2),h1,Int.le_trans (by decide) (dr n),Bu (Og.mpr (jT ok)) (by decide),.inl ⟨dr n,rfl⟩⟩
 |negSucc n=>
  refine kS e fun ok e=> ?_
  obtain⟨o1,o2⟩:=bk.mp ok
  have h2:=cC.mp o2
  rw[show(qD n)= -(n:Int)-1 from by omega]
  refine⟨l.length-1-n,?_,QB e,amH (jT o1),Int.lt_trans (N4 n) (by decide),.inr ⟨N4 n,acC h2,acD h2⟩⟩
  rw[StrLaws.seqIndex_neg (N4 n) (acC h2),acD h2]
theorem aej(T:St X W fr σ s){a b:AV}{l:aa}(hl:nG σ a=some l){j:Int}{t:Tok}(e:Yu l j=some b){v:ah}(hv:V X.C W a v):
  wpAny (dH X.C) A (getItem v (.int j t)) (fU X W fr b σ) dy s/\ ∃T',s.TypeIs v T'/\ ∃id,typeLookup (.type T') "__getitem__"=pure (some (.builtin id)):=by
 refine HA T.rel hl hv fun x m vs q z=> ?_
 obtain⟨n,e1,e2,e3,e4,e5⟩:=TR e
 obtain⟨w,g,r⟩:=q.get e2
 have g':vs.toArray[n]? =some w:=by rw[jX];exact g
 have hs:(vs.toArray.size:Int)=l.length:=by rw[aZ,q.length]
 rcases z with z|z
 ·have z:=lX z
  refine⟨?_,"list",z.typeIs,_,Fo.lookup⟩
  rcases e5 with⟨h0,rfl⟩|⟨h0,h1,rfl⟩
  ·exact wpAny_getItem_list z h0 e4 g' (T.post r)
  ·exact wpAny_getItem_list_neg z h0 (by rw[hs];exact h1) e3 (by rw[hs];exact g') (T.post r)
 ·refine⟨?_,"tuple",⟨_,z,rfl⟩,_,F.slot_tuple_getitem.lookup⟩
  exact PySem.P.getItem_tuple (items:=vs.toArray) z e3 e4 (by rw[aZ,q.length];exact e1) g' (T.post r)
theorem Gq{α:Type}[DecidableEq α]{a p:α}{v:ah}{l:List (α×ah)}:valueAt ((a,v)::l) p=if a=p then some v else valueAt l p:=by
 unfold valueAt
 rw[oN]
 by_cases h:a=p
 ·rw[if_pos h,decide_eq_true h];rfl
 ·rw[if_neg h,decide_eq_false h]
theorem Z1(p:ac): ∀{ks:List (List Nat)} {fs:aa} {vs:List ah} {b:AV},NU p ks fs=some b->VL C W fs vs-> ∃v,valueAt ((ks.map aO).zip vs) (aO p)=some v/\V C W b v:=by
 intro ks
 induction ks with
 |nil=>intro fs vs b e;exact nn e
 |cons k ks ih=>
  intro fs vs b e hv
  cases fs with
  |nil=>exact nn e
  |cons a fs=>
   refine hv.consE fun v r h1 h2=> ?_
   rw[bj,bQ,Gq]
   have z:=qA (a:=k) (b:=p)
   refine bE e (fun q e=> ?_) fun q e=> ?_
   ·rw[q]at z
    cases e
    exact⟨v,if_pos (beq_iff_eq.mp z),h1⟩
   ·rw[q]at z
    rw[if_neg (beq_eq_false_iff_ne.mp z)]
    exact ih e h2
theorem XA(p:Int): ∀{ks:List Int} {fs:aa} {vs:List ah} {b:AV},I4 p ks fs=some b->VL C W fs vs-> ∃v,valueAt (ks.zip vs) p=some v/\V C W b v:=by
 intro ks
 induction ks with
 |nil=>intro fs vs b e;exact nn e
 |cons k ks ih=>
  intro fs vs b e hv
  cases fs with
  |nil=>exact nn e
  |cons a fs=>
   refine hv.consE fun v r h1 h2=> ?_
   rw[bQ,Gq]
   refine bE e (fun q e=> ?_) fun q e=> ?_
   ·rw[rj,decide_eq_true_iff]at q
    cases e
    exact⟨v,if_pos q,h1⟩
   ·rw[rj,decide_eq_false_iff_not]at q
    rw[if_neg q]
    exact ih e h2
@[elab_as_elim] theorem agD (R:cD C W σ h) {a:AV} {ks:List (List Nat)} {fs:aa} (e:agC σ a=some (ks,fs)) {v:ah} {Q:ah->Prop} (hv:V C W a v) (k: ∀x vs,(x==sysModules)=false->VL C W fs vs->h.DictOf (strKind C.prog C.w) x ((ks.map aO).zip vs)->Q (.ref x)):Q v:=by
 revert hv
 cases a<;>intro hv<;>first|exact nn e|skip
 ·cases e
  exact hv.dctE fun x o vs q0 q r z=>k x vs q0 r (js.mpr ⟨o,R.im _ _ q,z.2⟩)
 ·refine dctE (show Tc σ _ _=_ from e) fun ks' vs hg e=> ?_
  cases e
  exact R.dctE hg hv fun p o vs _ _ q0 g r z=>k p.1 vs q0 r (js.mpr ⟨o,g,z.2⟩)
@[elab_as_elim] theorem afU {β:Type} {a:AV} {r:β} {Q:AV->Prop} {f:List Int->List AV->Option β} (h:abR a f=some r) (k: ∀ks vs,f ks vs=some r->Q (.dcti ks vs)):Q a:=by
 cases a<;>first|exact nn h|exact k _ _ h
theorem aig(T:St X W fr σ s){x:ac}{j:Int}{b:AV}(e:(ob (Yu x j) fun c=>some (AV.str [c]))=some b){v:ah}(hv:V X.C W (.str x) v)(t:Tok):
  wpAny (dH X.C) A (getItem v (.int j t)) (fU X W fr b σ) dy s/\ ∃T',s.TypeIs v T'/\ ∃id,typeLookup (.type T') "__getitem__"=pure (some (.builtin id)):=oE e fun c hc e=>by
 apply s1 e
 refine hv.strE fun u=> ?_
 obtain⟨n,e1,e2,e3,e4,e5⟩:=TR hc
 refine⟨Os (c:=c) (by simp;omega) ?_ ((T.toks _).post ⟨_,rfl⟩),"str",rfl,_,GU.lookup⟩
 rw[bP,e1]
 simp only[nQ,aO]
 simpa using e2
theorem aea(T:St X W fr σ s){ks:List Int}{fs:aa}{j:Int}{b:AV}(e:I4 j ks fs=some b){v:ah}(hv:V X.C W (.dcti ks fs) v)(t:Tok):
  wpAny (dH X.C) A (getItem v (.int j t)) (fU X W fr b σ) dy s/\ ∃T',s.TypeIs v T'/\ ∃id,typeLookup (.type T') "__getitem__"=pure (some (.builtin id)):=hv.dctiE fun x o vs q0 q r z=>by
 have hd:s.heap.DictOf (intKind X.C.prog X.C.w) x (ks.zip vs):=js.mpr ⟨o,T.rel.im _ _ q,z.2⟩
 obtain⟨y,g,r'⟩:=XA j e r
 exact⟨GW (Iq X.C.prog X.C.w j t) hd.mapOf g ((T.toks _).post r'),"dict",hd.typeIs,_,Fn.lookup⟩
theorem aif(T:St X W fr σ s){a:AV}{p:ac}{b:AV}(e:(bA (agC σ a) fun ks vs=>NU p ks vs)=some b){v:ah}(hv:V X.C W a v)(t:Tok):
  wpAny (dH X.C) A (getItem v (.str (aO p) t)) (fU X W fr b σ) dy s/\ ∃T',s.TypeIs v T'/\ ∃id,typeLookup (.type T') "__getitem__"=pure (some (.builtin id)):=fW e fun ks fs hd e=>agD T.rel hd hv fun x vs q0 r hd=>by
 obtain⟨y,g,r'⟩:=Z1 p e r
 exact⟨GW (strKind_is X.C.prog X.C.w (aO p) t) hd.mapOf g ((T.toks _).post r'),"dict",hd.typeIs,_,Fn.lookup⟩
theorem aap(T:St X W fr σ s){a i b:AV}(e:act a i σ=some b){v w:ah}(hv:V X.C W a v)(hw:V X.C W i w):
  wpAny (dH X.C) A (getItem v w) (fU X W fr b σ) dy s/\ ∃T',s.TypeIs v T'/\ ∃id,typeLookup (.type T') "__getitem__"=pure (some (.builtin id)):=by
 revert hw
 cases i<;>intro hw<;>first|exact nn e|skip
 ·refine hw.intE fun t=>odE e (fun x hx e=> ?_) fun e=>odE e (fun r hr e=> ?_) fun e=>oE e fun l hl e=>aej T hl e hv
  ·revert hv
   refine fh hx fun x' hx hv=> ?_
   cases hx;exact aig T e hv t
  ·revert hv
   refine afU hr fun ks fs hr hv=> ?_
   cases hr;exact aea T e hv t
 ·exact hw.strE fun t=>aif T e hv t
noncomputable def Ql:an->Bool
 | .Slice .. =>true
 |_=>false
theorem H4{slice:an}(h:Ql slice=false)(o i:ah):subscripted slice false o i=operate [o,i] (getItem o i):=by
 cases slice<;>first|rfl|cases h
theorem akQ{m n:EM}{a i:an}{p:Pos}(hs:Ql i=false)(hm:b8 X k m a)(hn:b8 X k n i):b8 X k (bi eH m n) (.Subscript a i p):=fun A R W fr σ s T c aj e=>by
 refine Xk e fun x ay y aL e1 e2 e3=>oE e3 fun z e4 e3=> ?_
 apply s2 e3
 refine Subscript_ (EX hm hn R T e1 e2 fun v w dX cB l cR d9 j8=> ?_)
 obtain⟨h1,T',hT,id,hl⟩:=aap cR e4 d9 j8
 exact tail_any hT hl (eK h1 fun _ _ z=>z.le l) (H4 hs _ _)
end
end
end
section
open PySem.SeqAt
noncomputable section
noncomputable def tp(a:AV):Option Int:=fe a some
@[elab_as_elim] theorem ab6 {n d a:Nat} {v:AV} {Q:AV->Nat->Prop} (e:kz n d v=some a) (k1:Q .none d) (k2: ∀i,Q (.int (.ofNat i)) (Ef i n)) (k3: ∀i,Q (.int (.negSucc i)) (n-(i+1))):Q v a:=by
 cases v<;>first|exact nn e|skip
 ·apply s1 e;exact k1
 ·rename_i i
  cases i with
  |ofNat i=>apply s1 e;exact k2 i
  |negSucc i=>apply s1 e;exact k3 i
theorem ZR(i n:Nat):max 0 (min (if(i:Int)<0 then(i:Int)+n else i) n)=((min i n:Nat):Int):=by
 rw[if_neg (sX.mpr (dr i)),Int.max_eq_right]
 ·omega
 ·exact Int.le_min.mpr ⟨dr i,dr n⟩
theorem ZQ(i n:Nat):max 0 (min (if-(i:Int)-1<0 then-(i:Int)-1+n else-(i:Int)-1) n)=((n-(i+1):Nat):Int):=by
 rw[if_pos (N4 i),Int.min_eq_left (by omega),Int.max_def]
 split<;>omega
theorem AH(a b:Nat):sliceRange (a:Int) (b:Int) 1=(co (b-a)).map fun k=>a+k:=by
 unfold sliceRange
 simp only[show((1:Int)>0)=True from by simp,if_true]
 by_cases hlt:(a:Int)<b
 ·have e3:(((b:Int)-a+1-1) / 1).toNat=b-a:=by first|omega|(simp;done)|(simp;omega)
  simp only[hlt,if_true,e3]
  refine f8 fun k _=> ?_
  omega
 ·have:b-a=0:=by omega
  simp[hlt,this]
theorem om{n d a:Nat}{v:AV}(e:kz n d v=some a)(hd:d<=n):a<=n/\(match tp v with|none=>(d:Int)|some i=>max 0 (min (if i<0 then i+n else i) n))=(a:Int):=by
 revert hd
 refine ab6 e (fun hd=>⟨hd,rfl⟩) (fun i hd=>⟨GP _ _,ZR i n⟩) fun i hd=>⟨Us _ _,?_⟩
 show max 0 (min (if qD i<0 then qD i+n else qD i) n)=_
 rw[show(qD i)= -(i:Int)-1 by omega]
 exact ZQ i n
theorem vV{n d a:Nat}{v:AV}(e:kz n d v=some a):v= .none\/ ∃i,v= .int i:=by
 exact ab6 e (.inl rfl) (fun i=>.inr ⟨_,rfl⟩) fun i=>.inr ⟨_,rfl⟩
theorem ZN{n a b:Nat}{lo hi:AV}(h1:kz n 0 lo=some a)(h2:kz n n hi=some b):sliceBounds (tp lo) (tp hi) none n=((a:Int),(b:Int),1):=by
 have e1:=(om h1 (aS _)).2
 have e2:=(om h2 (ax _)).2
 unfold sliceBounds
 simp only[tP,show((1:Int)>0)=True from by simp,if_true]
 refine Op ?_ (Op ?_ rfl)
 ·rw[<- e1];rfl
 ·exact e2
theorem So{n a b:Nat}{lo hi:AV}(h1:kz n 0 lo=some a)(h2:kz n n hi=some b):qX (tp lo) (tp hi) 1 n=(co (b-a)).map fun k=>a+k:=by
 have e1:=(om h1 (aS _)).2
 have e2:=(om h2 (ax _)).2
 rw[<- AH]
 unfold qX
 simp only[show((1:Int)>0)=True from by simp,if_true]
 congr 1
theorem PF{α:Type}(l:List α){a b:Nat}(ha:a<=l.length)(hb:b<=l.length):((co (b-a)).map fun k=>a+k).filterMap (l[·]?)=KW l a b:=by
 rw[StrLaws.picks l (b-a) a (by omega)];rfl
theorem agy{α:Type}(l:List α)(a b:Nat):(KW l a b).length <=l.length:=by
 unfold KW
 rw[kp,hV]
 exact au (GP _ _) (Us _ _)
theorem ZY{α:Type}(l:List α){a b:Nat}(ha:a<=l.length)(hb:b<=l.length)(h:b-a=l.length):KW l a b=l:=by
 by_cases z:l.length=0
 ·have:l=[]:=mN.mp z
  subst this;simp[KW]
 ·have h1:a=0:=by omega
  have h2:b=l.length:=by omega
  subst h1 h2
  simp[KW]
section
variable{X:FX}{k:Nat}{W W':Wd}{fr:Fm}{σ aj:AS}{s s':az}{A:b6}{h:bM}{C:PC}
theorem Qk{v:AV}(h:v= .none\/ ∃i,v= .int i){w:ah}(hw:V C W v w):IsPart w (tp v):=by
 rcases h with rfl|⟨i,rfl⟩
 ·cases hw;exact .none
 ·obtain⟨t,rfl⟩:=hw;exact .int i t
theorem Mr{v:AV}(h:v= .none\/ ∃i,v= .int i){w:ah}(hw:V C W v w): ∃p:Option (Int×Tok),w=partValue p/\p.map (·.1)=tp v:=by
 rcases h with rfl|⟨i,rfl⟩
 ·cases hw;exact⟨none,rfl,rfl⟩
 ·obtain⟨t,rfl⟩:=hw;exact⟨some (i,t),rfl,rfl⟩
theorem akI(bz:St X W fr σ s){L:aC}{x:ac}{lo hi b:AV}(e:(bif dj (dN x)then ob (kz (dN x) 0 lo) (fun p=>ob (kz (dN x) (dN x) hi) fun q=>some (AV.str (PD x p q),σ))else none)=some (b,aj)){v vl vh:ah}(hv:V X.C W (.str x) v)(hl:V X.C W lo vl)(hh:V X.C W hi vh)(hL:s.heap.get? L=some {cls:=.type "slice",data:=.fields #[vl,vh,.none]}):
  wpAny (dH X.C) A (getItem v (.ref L)) (fU X W fr b aj) dy s/\ ∃T',s.TypeIs v T'/\ ∃id,typeLookup (.type T') "__getitem__"=pure (some (.builtin id)):=by
 rw[iy]at e
 refine kS e fun ok e=>oE e fun p h1 e=>oE e fun q h2 e=> ?_
 rw[PE]at e
 apply s2 e
 refine hv.strE fun t=> ?_
 obtain⟨pl,rfl,el⟩:=Mr (vV h1) hl
 obtain⟨ph,rfl,eh⟩:=Mr (vV h2) hh
 refine⟨Wl (n:=s.toks) (ax _) (wpAny_getItem_str_slice (l:=pl) (u:=ph) (st:=none) ⟨_,hL,rfl,rfl⟩ rfl ?_),"str",rfl,_,GU.lookup⟩
 have ha:=(om h1 (aS _)).1
 have hb:=(om h2 (ax _)).1
 have e1:slicePicked (aO x) pl ph none=(co (q-p)).map fun k=>p+k:=by
  unfold slicePicked
  rw[el,eh,bP]
  exact So h1 h2
 have e2:(slicePicked (aO x) pl ph none).filterMap ((aO x).cps[·]?)=KW x p q:=by
  rw[e1]
  have:=PF x ha hb
  simpa[aO] using this
 unfold sliceMade
 refine post_val_or_made (fun _=> ?_) fun t' tk ht=> ?_
 ·rw[e2]
  show(aO (KW x p q)).length <=_
  rw[bP];exact au (agy x p q) (i6 ok)
 ·refine(bz.toks _ ht).post ⟨t',?_⟩
  congr 1
  rw[e2]
  split
  ·rename_i z
   rw[e1,bP]at z
   have z':q-p=x.length:=by simpa using z
   rw[ZY x ha hb z']
  ·rfl
theorem akH(bz:St X W fr σ s){L:aC}{l:aa}{lo hi b:AV}(e:(bif dj (dN l)then ob (kz (dN l) 0 lo) (fun p=>ob (kz (dN l) (dN l) hi) fun q=>some (AV.ref σ.next,σ.alloc (.lst (PD l p q))))else none)=some (b,aj)){x n:Nat}{vs:List ah}{vl vh:ah}(g:s.heap.get? x=some (dz vs n))(r:VL X.C W l vs)(hl:V X.C W lo vl)(hh:V X.C W hi vh)(hL:s.heap.get? L=some {cls:=.type "slice",data:=.fields #[vl,vh,.none]}):
  wpAny (dH X.C) A (getItem (.ref x) (.ref L)) (fU X W fr b aj) dy s/\ ∃T',s.TypeIs (.ref x) T'/\ ∃id,typeLookup (.type T') "__getitem__"=pure (some (.builtin id)):=by
 rw[iy]at e
 refine kS e fun ok e=>oE e fun p h1 e=>oE e fun q h2 e=> ?_
 rw[PE]at e
 apply s2 e
 refine⟨wpAny_getItem_list_slice (lX g) ⟨_,hL,rfl,rfl⟩ (Qk (vV h1) hl) (Qk (vV h2) hh) .none (by simp) ?_ ?_,"list",(lX g).typeIs,_,Fo.lookup⟩
 ·have ha:=(om h1 (aS _)).1
  have hb:=(om h2 (ax _)).1
  have e1:slicePick vs.toArray (tp lo) (tp hi) none=(KW vs p q).toArray:=by
   unfold slicePick
   rw[aZ,r.length,ZN h1 h2]
   simp only[AH]
   have:=PF vs (a:=p) (b:=q) (by rw[r.length];exact ha) (by rw[r.length];exact hb)
   simpa using congrArg List.toArray this
  rw[e1]
  obtain⟨le,T'⟩:=bz.pushLst ((r.drop p).take (q-p)) s.toks
  exact⟨_,le,T',ri⟩
 ·rw[aZ,r.length];exact i6 ok
theorem aa8(T:St X W fr σ s){a lo hi b:AV}(e:an2 a lo hi σ=some (b,aj)){v vl vh:ah}(hv:V X.C W a v)(hl:V X.C W lo vl)(hh:V X.C W hi vh):
  wpAny (dH X.C) A (getItem v (.ref s.heap.objs.size)) (fU X W fr b aj) dy {s with heap:=s.heap.push {cls:=.type "slice",data:=.fields #[vl,vh,.none]}}/\
   ∃T',Shared.TypeIs {s with heap:=s.heap.push {cls:=.type "slice",data:=.fields #[vl,vh,.none]}} v T'/\ ∃id,typeLookup (.type T') "__getitem__"=pure (some (.builtin id)):=by
 have bz:St X W fr σ {s with heap:=s.heap.push {cls:=.type "slice",data:=.fields #[vl,vh,.none]}}:=T.keeps (eD _ _) s.toks
 refine odE e (fun x hx e=> ?_) fun e=>oE e fun l hla e=>nv T.rel hla hv fun x n vs g r=>akH bz e (eD _ _ _ _ g) r hl hh (br _ rfl)
 revert hv
 refine fh hx fun x' hx hv=> ?_
 cases hx
 exact akI bz e hv hl hh (br _ rfl)
def FU(X:FX)(k:Nat)(m:EM)(e:Option an):Prop:=
 ∀A,eV A k-> ∀W fr σ s,St X W fr σ s-> ∀a aj,m fr σ=some (a,aj)->wpAny (dH X.C) A (valueOrNone (evalOpt e X.env)) (fU X W fr a aj) dy s
theorem FU.none:FU X k (ba .none) none:=fun A _ W fr σ s T a aj e=>by apply s2 e;exact aM (T.post rfl)
theorem FU.some{m:EM}{e:an}(h:b8 X k m e):FU X k m (some e):=h
theorem akX{m n o:EM}{a:an}{lo hi:Option an}{p p':Pos}(hm:b8 X k m a)(hn:FU X k n lo)(ho:FU X k o hi):b8 X k (Ti m n o) (.Subscript a (.Slice lo hi none p') p):=fun A R W fr σ s T c aj e=>by
 refine fW e fun x ay e1 e=>fW e fun y aL e2 e=>fW e fun z cO e3 e=>Subscript_ (hm.go R T e1 fun v bv bn bD bz d9=> ?_)
 rw[arm_eval_Slice]
 refine aq (eK (hn A R bn fr _ bv bz _ _ e2) fun vl dX z=>z.elim fun cB dR cR j8=> ?_)
 refine aq (dJ (eK (ho A R cB fr _ dX cR _ _ e3) fun vh jM z=>z.elim fun xN hH jc aq4=> ?_))
 refine aq (dJ (aM (fS ?_ (by size_fits))))
 obtain⟨h1,T',hT,id,hl⟩:=aa8 (A:=A) jc e ((d9.mono dR).mono hH) (j8.mono hH) aq4
 exact tail_any hT hl (eK h1 fun _ _ z=>z.le (bD.trans (dR.trans hH))) rfl
end
end
end
section
open PySem.SeqAt
noncomputable section
section
variable{X:FX}{k:Nat}{W W':Wd}{fr:Fm}{σ aj:AS}{s s':az}{A:b6}{h h':bM}{C:PC}
noncomputable def jg:an->Bool
 | .Starred .. =>true
 |_=>false
theorem l6{e:an}(he:jg e=false)(es:List an)(env:Env):starEach (e::es) env=(false,eval e env)::starEach es env:=by
 cases e<;>first|rfl|cases he
theorem QY:Ak X k aG []:=fun A _ W fr σ s T l aj e pos=>by
 apply s2 e;exact spliced_nil ⟨W,.refl W,T,VL.nil⟩
theorem Ls{m:EM}{n:LM}{e:an}{es:List an}(he:jg e=false)(hm:b8 X k m e)(hn:Ak X k n es):Ak X k (aw m n) (e::es):=fun A R W fr σ s T l aj q pos=>by
 refine fW q fun wv ay e1 q=>fW q fun arp aL e2 q=> ?_
 apply s2 q
 rw[l6 he]
 show wpAny _ _ (spliced ((false,eval e X.env)::backTo pos (starEach es X.env))) _ _ _
 exact BE (hm.go R T e1 fun v bv bn bD bz d9=>hn.go R bz e2 pos fun vs dX cB dR cR j8=>⟨cB,bD.trans dR,cR,VL.cons (d9.mono dR) j8⟩)
theorem aaU{f:aW}{l:LM}{c:AV}(e:bq f l fr σ=some (c,aj)){P:Prop}(k: ∀vs ay,l fr σ=some (vs,ay)->f vs ay=some (c,aj)->P):P:=fW e k
theorem afl{n:LM}{es:List an}{p:Pos}(hn:Ak X k n es):b8 X k (bq df n) (.List es p):=fun A R W fr σ s T c aj e=>by
 refine aaU e fun l ay e1 e2=>kS e2 fun ok e2=> ?_
 apply s2 e2
 refine List_ (hn.go R T e1 p fun vs bv bn bD bz d9=>fS ?_ (by show vs.toArray.size<=sizeLine;rw[aZ,d9.length];exact i6 ok))
 obtain⟨le,T'⟩:=bz.pushLst d9 bv.toks
 exact⟨_,bD.trans le,T',ri⟩
theorem anh{p:Pos}:b8 X k (ba (.lst [])) (.List [] p):=fun A R W fr σ s T c aj e=>by
 apply s2 e
 refine List_ (QY.go R T rfl p fun vs bv bn bD bz d9=>fS ?_ (by show vs.toArray.size<=sizeLine;rw[aZ,d9.length];exact aS _))
 obtain⟨le,T'⟩:=bz.pushIm (o:=dz vs 0) rfl bv.toks
 exact⟨_,bD.trans le,T',_,0,vs,rfl,kX,d9.mono le⟩
theorem akZ{n:LM}{es:List an}{p:Pos}{j:Nat}(hn:Ak X k n es):b8 X k (bq gp n) (.Tuple es j p):=fun A R W fr σ s T c aj e=>by
 refine aaU e fun l ay e1 e2=>kS e2 fun ok e2=> ?_
 apply s2 e2
 refine Tuple_ (hn.go R T e1 p fun vs bv bn bD bz d9=>fS ?_ (by show vs.toArray.size<=sizeLine;rw[aZ,d9.length];exact i6 ok))
 obtain⟨le,T'⟩:=bz.pushIm (o:=tw vs 0) rfl bv.toks
 exact⟨_,bD.trans le,T',_,0,vs,rfl,kX,d9.mono le⟩
theorem akO{p:Pos}:b8 X k F2 (.Dict [] [] p):=fun A R W fr σ s T c aj e=>by
 apply s2 e
 rw[eval_Dict_empty]
 refine aq (dC (fS ?_ (by size_fits)))
 obtain⟨le,T'⟩:=T.pushDct s.toks
 exact⟨_,le,T',ri⟩
theorem St.other(T:St X W fr σ s){d:aC}(hi:W.im d=none)(hp:W.pr d=none)(hc:s8 W σ d)(hd: ¬X.Has d)(k: ∀b o,b≠d->s.heap.get? b=some o->h'.get? b=some o)(t:Nat)(ht:s.toks<=t:=by first|exact ax _|exact cU _|omega):St X W fr σ {s with heap:=h',toks:=t}:=
 ⟨T.rel.keepsBut hi hp (fun a c p e e'=>hc a c p e e') k,T.fr.turn (.refl _) (fun b o e e'=>by rw[e]at e';cases e') (fun c hc=>T.fr.apart c hc) fun c hc o e=>k _ _ (fun q=>hd (q▸hc)) e,T.sm.mk' _ _ ht⟩
theorem St.addIm(T:St X W fr σ s){x:aC}{o:Obj}(ho:s.heap.get? x=some o)(hp:W.pr x=none)(hc:s8 W σ x)(hd: ¬X.Has x):W.le (W.addIm x o)/\St X (W.addIm x o) fr σ s:=by
 have le:W.le (W.addIm x o):=Wd.le_addIm fun o' e=>by have:=T.rel.im _ _ e;rw[ho]at this;exact(aI this).symm
 refine⟨le,T.rel.addIm ho hp (fun a c p e e'=>hc a c p e e'),T.fr.turn le (fun b o' e e' hb=> ?_) (fun c hc=>T.fr.apart c hc) (fun _ _ _ e=>e),T.sm⟩
 have e':(if b=x then some o else W.im b)=some o':=e'
 split at e'
 ·rename_i q;subst q;exact hd hb
 ·rw[e]at e';cases e'
theorem St.newAddr(T:St X W fr σ s){d:aC}(hd:s.heap.objs.size<=d):W.im d=none/\W.pr d=none/\s8 W σ d/\ ¬X.Has d:=
 ⟨T.rel.im_new hd,T.rel.pr_new hd,T.rel.cell_new hd,fun h=>absurd (T.fr.lt h) (b7.mpr hd)⟩
theorem afj{k1 k2:Int}{a b:ac}{x y:Str}{p p1 p2 p3 p4:Pos}{j1 j2 j3 j4:Nat}(hk:k1≠k2)(hx:aO a=x)(hy:aO b=y):
  b8 X k (bq (HD [k1,k2]) (aw (ba (.str a)) (aw (ba (.str b)) aG))) (.Dict [some (.Constant (.int k1) j1 p1),some (.Constant (.int k2) j2 p2)] [.Constant (.str x) j3 p3,.Constant (.str y) j4 p4] p):=fun A R W fr σ s T c aj e=>by
 apply s2 e
 refine wpAny_Dict_pairs (knd:=intKind X.C.prog X.C.w) (pairs:=[(eval (.Constant (.int k1) j1 p1) X.env,do let v <- eval (.Constant (.str x) j3 p3) X.env;standAt p;pure v),(eval (.Constant (.int k2) j2 p2) X.env,do let v <- eval (.Constant (.str y) j4 p4) X.env;standAt p;pure v)]) rfl (by simp) (by simp) ?_
 refine Kq (rb (aq (oK (aq (dC (aM ?_))))))
 refine Kq (rb (aq (oK (aq (dC (aM ?_))))))
 refine evalPairs_nil ?_
 refine⟨[(k1,.str x (s.toks+1)),(k2,.str y (s.toks+1+1+1))],⟨Iq _ _ _ _,rfl,Iq _ _ _ _,rfl,trivial⟩,⟨_,#[],0,br _ rfl,⟨rfl,rfl,rfl⟩,rfl,fun _ he=>by simp at he,Ww,by simp⟩,fun h' hd hs=> ?_⟩
 obtain⟨n1,n2,n3,n4⟩:=T.newAddr (d:=s.heap.objs.size) (ax _)
 have bz:St X W fr σ {s with heap:=h',toks:=s.toks+1+1+1+1+[(BB k1 s.toks,gw x (s.toks+1)),(BB k2 (s.toks+1+1),gw y (s.toks+1+1+1))].length}:=
  T.other n1 n2 n3 n4 (fun b o hb e=>hs.extBut b o hb (bH _ e)) _
 obtain⟨o,ho,hd'⟩:=js.mp hd
 obtain⟨le,cR⟩:=bz.addIm ho n2 n3 n4
 refine⟨_,le,cR,_,o,[.str x (s.toks+1),.str y (s.toks+1+1+1)],rfl,?_,kX,VL.cons ⟨_,by rw[hx]⟩ (VL.cons ⟨_,by rw[hy]⟩ VL.nil),rfl,?_⟩
 ·simpa using oP T.rel.sys
 ·have:merged [] [(k1,gw x (s.toks+1)),(k2,gw y (s.toks+1+1+1))]=[(k1,gw x (s.toks+1)),(k2,gw y (s.toks+1+1+1))]:=by
   simp[merged,stored,hk]
  rw[this]at hd'
  exact hd'
end
end
end
section
open PySem.SeqAt
noncomputable section
section
variable{X:FX}{k:Nat}{W W':Wd}{fr:Fm}{σ aj:AS}{s s':az}{A:b6}{h h':bM}{C:PC}
theorem Xi{op op':g8}{a b c:EM}{r:Bool}(e:Pr op op' a b c fr σ=some (r,aj)){P:Bool->AS->Prop}(k: ∀x ay y aL,a fr σ=some (x,ay)->b fr ay=some (y,aL)->(bO op x y aL=some false->P false aL)/\ ∀z cO r,bO op x y aL=some true->c fr aL=some (z,cO)->bO op' y z cO=some r->P r cO):P r aj:=
 fW e fun x ay e1 e=>fW e fun y aL e2 e=>oE e fun t e3 e=>bE e (fun ht e=>fW e fun z cO e4 e=>oE e fun r' e5 e=>by apply s2 e;exact(k x ay y aL e1 e2).2 z cO r' (ht▸e3) e4 e5) fun ht e=>by apply s2 e;exact(k x ay y aL e1 e2).1 (ht▸e3)
theorem I3(hk:5<=k)(R:eV A k)(T:St X W fr σ s){op:g8}{a b:AV}{r:Bool}(e:bO op a b σ=some r){v w:ah}(hv:V X.C W a v)(hw:V X.C W b w){Q:ah->az->Prop}
  (h: ∀bv bn,W.le bn->St X bn fr σ bv->Q (.bool r) bv):wpAny (dH X.C) A (compareOp op v w) Q dy s:=
 eK (zl hk R T e hv hw) fun u bv z=>z.elim fun bn l bz q=>q.boolE (h bv bn l bz)
theorem afg{op op':g8}{m n o:EM}{a b c:an}{p:Pos}(hk:5<=k)(hm:b8 X k m a)(hn:b8 X k n b)(ho:b8 X k o c)(hb:lastMarks [op,op'] [b,c]=false):b8 X k (rY (Pr op op' m n o)) (.Compare a [op,op'] [b,c] p):=fun A R W fr σ s T v aj e=>by
 refine aaS e fun r ay q=> ?_
 apply Xi q;intro x ay y aL e1 e2
 refine⟨fun e3=> ?_,fun z cO r e3 e4 e5=> ?_⟩
 ·exact MS (hm.go R T e1 fun v bv bn bD bz d9=>chain_link (hn.go R bz e2 fun w dX cB dR cR j8=>I3 hk R cR e3 (d9.mono dR) j8 fun jM xN hH jc=>fT ⟨xN,bD.trans (dR.trans hH),jc,rfl⟩)) hb
 ·exact MS (hm.go R T e1 fun v bv bn bD bz d9=>chain_link (hn.go R bz e2 fun w dX cB dR cR j8=>I3 hk R cR e3 (d9.mono dR) j8 fun jM xN hH jc=>fT
   (chain_last (ho.go R jc e4 fun w' oF anx Qu ol ajb=>eK (zl hk R ol e5 ((j8.mono hH).mono Qu) ajb) fun _ _ z=>z.le (bD.trans (dR.trans (hH.trans Qu))))))) hb
theorem abd{op op':g8}{m n o:EM}{a b c:an}{p:Pos}(hk:5<=k)(hm:b8 X k m a)(hn:b8 X k n b)(ho:b8 X k o c)(hb:lastMarks [op,op'] [b,c]=false):np X k (Pr op op' m n o) (.Compare a [op,op'] [b,c] p):=fun A R W fr σ s T v aj e=>by
 apply Xi e;intro x ay y aL e1 e2
 refine⟨fun e3=> ?_,fun z cO r e3 e4 e5=> ?_⟩
 ·exact Ox (hm.go R T e1 fun v bv bn bD bz d9=>test_link (hn.go R bz e2 fun w dX cB dR cR j8=>I3 hk R cR e3 (d9.mono dR) j8 fun jM xN hH jc=>fT ⟨rfl,xN,bD.trans (dR.trans hH),jc⟩)) hb
 ·exact Ox (hm.go R T e1 fun v bv bn bD bz d9=>test_link (hn.go R bz e2 fun w dX cB dR cR j8=>I3 hk R cR e3 (d9.mono dR) j8 fun jM xN hH jc=>fT
   (test_last (ho.go R jc e4 fun w' oF anx Qu ol ajb=>I3 hk R ol e5 ((j8.mono hH).mono Qu) ajb fun sK Xa Yd xM=>fT ⟨rfl,Xa,bD.trans (dR.trans (hH.trans (Qu.trans Yd))),xM⟩)))) hb
theorem VA{W W':Wd}(h1:W'.ρ=W.ρ)(h2:W'.im=W.im):W.le0 W':=⟨fun a p e=>by rw[h1];exact e,fun x o e=>by rw[h2];exact e⟩
theorem VL.pr{W W':Wd}{l:aa}{vs:List ah}(q:VL C W l vs)(h1:W'.ρ=W.ρ)(h2:W'.im=W.im):VL C W' l vs:=q.mono0 (VA h1 h2)
theorem V.pr{W W':Wd}{a:AV}{v:ah}(q:V C W a v)(h1:W'.ρ=W.ρ)(h2:W'.im=W.im):V C W' a v:=q.mono0 (VA h1 h2)
theorem d6.pr{W W':Wd}{p:aC×aC}{c:bJ}(a2:d6 C W h p c)(h1:W'.ρ=W.ρ)(h2:W'.im=W.im):d6 C W' h p c:=d6.mono0 (VA h1 h2) a2
open Classical in
def Wd.guard(W:Wd)(X:FX)(h:bM):Wd:={W with pr:=fun b=>if X.Has b then h.get? b else W.pr b}
theorem uv{b:aC}(hb:X.Has b):(W.guard X h).pr b=h.get? b:=if_pos hb
theorem kC{b:aC}(hb: ¬X.Has b):(W.guard X h).pr b=W.pr b:=if_neg hb
theorem St.guard(T:St X W fr σ s):cD X.C (W.guard X s.heap) σ s.heap:=by
 obtain⟨R,F,_⟩:=T
 refine⟨R.base,R.im,fun b o e=> ?_,fun b o e=> ?_,R.fresh,fun a c e=> ?_,R.inj⟩
 ·by_cases hb:X.Has b
  ·rw[uv hb]at e;exact e
  ·rw[kC hb]at e;exact R.pr _ _ e
 ·by_cases hb:X.Has b
  ·exact F.sep _ hb
  ·rw[kC hb]at e;exact R.dis _ _ e
 ·obtain⟨p,a1,a2,a3,a4⟩:=R.cell a c e
  refine⟨p,a1,?_,a3,?_⟩
  ·exact a2.pr rfl rfl
  ·rw[kC fun hb=>F.apart _ hb a c p e a1 rfl];exact a4
theorem St.back(T:St X W fr σ s){bn:Wd}(l:(W.guard X s.heap).le bn)(R:cD X.C bn aj s'.heap)(hs:Sm s s'):W.le {bn with pr:=W.pr}/\St X {bn with pr:=W.pr} fr aj s':=by
 have hpr:bn.pr=(W.guard X s.heap).pr:=l.2.2
 have le:W.le {bn with pr:=W.pr}:=⟨l.1,l.2.1,rfl⟩
 have kept: ∀c,X.Has c-> ∀o,s.heap.get? c=some o->s'.heap.get? c=some o:=fun c hc o e=>R.pr _ _ (by rw[hpr,uv hc];exact e)
 have nc: ∀c,X.Has c->s8 {bn with pr:=W.pr} aj c:=fun c hc a cc p e e' q=>by
  obtain⟨p',a1,a2,a3,a4⟩:=R.cell a cc e
  have e':bn.ρ a=some p:=e'
  rw[e']at a1;cases a1
  rw[q,hpr,uv hc]at a4
  obtain⟨o,z⟩:=T.fr.live c hc
  rw[z]at a4;cases a4
 refine⟨le,⟨R.base,R.im,fun b o e=> ?_,fun b o e=> ?_,R.fresh,fun a c e=> ?_,R.inj⟩,T.fr.turn le (fun b o e e' hb=> ?_) nc kept,T.sm.trans hs⟩
 ·have e:W.pr b=some o:=e
  by_cases hb:X.Has b
  ·exact kept b hb o (T.rel.pr _ _ e)
  ·exact R.pr _ _ (by rw[hpr,kC hb];exact e)
 ·have e:W.pr b=some o:=e
  show bn.im b=none
  by_cases hb:X.Has b
  ·obtain⟨o',z⟩:=T.fr.live b hb
   exact R.dis b o' (by rw[hpr,uv hb];exact z)
  ·exact R.dis b o (by rw[hpr,kC hb];exact e)
 ·obtain⟨p,a1,a2,a3,a4⟩:=R.cell a c e
  refine⟨p,a1,?_,a3,?_⟩
  ·exact a2.pr rfl rfl
  ·have hn: ¬X.Has p.2:=fun hc=>nc _ hc a c p e a1 rfl
   rw[hpr,kC hn]at a4;exact a4
 ·have e':bn.im b=some o:=e'
  obtain⟨o',z⟩:=T.fr.live b hb
  have:=R.dis b o' (by rw[hpr,uv hb];exact z)
  rw[this]at e';cases e'
theorem St.call(T:St X W fr σ s){kF:Nat}{f:ah}{F:aW}(hF:aF X.C kF f F)(R:eV A kF){args:aa}{vs:List ah}(hv:VL X.C W args vs){a:AV}(e:F args σ=some (a,aj)):
  wpAny (dH X.C) A (call f vs) (fU X W fr a aj) dy s:=
 eK (hF A R (W.guard X s.heap) σ s args vs T.guard (hv.pr rfl rfl) T.sm.pos a aj e) fun v s' ⟨hs,bn,l,R',q⟩=>by
  obtain⟨le,T'⟩:=T.back l R' hs
  exact⟨_,le,T',q.pr rfl rfl⟩
def oW(C:PC)(f:ah):Prop:= ∀h,C.K.In h-> ∃k,(k=Keeper.frame\/k=Keeper.machine\/k=Keeper.boundFrame)/\Ii (dH C) h (keeperOf f) k
theorem rn{C:PC}{f:ah}(h:keepIn C.K f=true):oW C f:=fun h' X=>keeps_K h h' X
theorem fA{C:PC}{id:String}:oW C (.builtin id):=fun _ _=>⟨.machine,.inr (.inl rfl),rJ rfl⟩
theorem mz{C:PC}{id:String}:oW C (.type id):=fun _ _=>⟨.machine,.inr (.inl rfl),rJ rfl⟩
theorem qN{es:List an}{env:Env}{pos:Pos}(hs:es.all (fun e=> !jg e)=true):(backTo pos (starEach es env)).any (·.1)=false:=by
 induction es with
 |nil=>rfl
 |cons e es ih=>
  simp only[rH,cM,ej]at hs
  rw[l6 hs.1]
  show(false||(backTo pos (starEach es env)).any (·.1))=false
  rw[ih hs.2];rfl
theorem wM{M:lp}{E:ah->az->Prop}{f:ah}{es:List an}{env:Env}{pos:Pos}(hs:es.all (fun e=> !jg e)=true){Q:Args->az->Prop}
  (h:wpAny M A (spliced (backTo pos (starEach es env))) (fun vs s'=>Q ⟨vs,[]⟩ s') E s):wpAny M A (evalArgs f true (backTo pos (starEach es env)) []) Q E s:=by
 cases es with
 |nil=>
  unfold evalArgs
  show wpAny M A (spliced []>>=_) Q E s
  refine aq (jx h (fun vs s' h'=> ?_) fun _ _ x=>x)
  refine aq (aM ?_)
  refine dJ ?_
  exact aq (aM (aq (aM (aM h'))))
 |cons e es=>
  simp only[rH,cM,ej]at hs
  rw[l6 hs.1]at h ⊢
  exact evalArgs_plain h
theorem FZ{X:FX}{k kF:Nat}{W:Wd}{fr:Fm}{σ ay aj:AS}{s:az}(T:St X W fr σ s){f:ah}{F:aW}(hf:oW X.C f)(hF:aF X.C kF f F)(hk:kF<=k)(R:eV A k){n:LM}{es:List an}(hs:es.all (fun e=> !jg e)=true)(hn:Ak X k n es)
  {l:List AV}(e1:n fr σ=some (l,ay)){first:List ah}{fa:List AV}(h1:VL X.C W fa first){a:AV}(e2:F (fa++l) ay=some (a,aj))(pos:Pos):
  wpAny (dH X.C) A (callWith pos f first (backTo pos (starEach es X.env)) []) (fU X W fr a aj) dy s:=by
 refine FG (P:=X.C.K.In) (by rw[qN hs];rfl) hf ?_
 refine wM hs (hn.go R T e1 pos fun vs bv bn bD bz d9=>⟨bz.rel.K,?_⟩)
 exact eK (bz.call hF (R.le hk) ((h1.mono bD).append d9) e2) fun _ _ z=>z.le bD
theorem aff(O:vn X){kF:Nat}{fv:ah}{F:aW}{n:LM}{x:Str}{es:List an}{p p':Pos}(hx:X.env.kindOf x=some .globalImplicit)(hd:(x==("__debug__":Str))=false)(hg:nq X.C x (.glob fv))(hf:oW X.C fv)(hF:aF X.C kF fv F)(hk:kF<=k)
  (hs:es.all (fun e=> !jg e)=true)(hn:Ak X k n es):b8 X k (bq F n) (.Call (.Name x p') es [] p):=fun A R W fr σ s T a aj e=>by
 refine aaU e fun l ay e1 e2=> ?_
 show wpAny _ _ (do callWith p (<- eval (.Name x p') X.env) [] (backTo p (starEach es X.env)) (backToKw p (keywordEach [] X.env))) _ _ _
 refine aq (yQ O.kind hx (hg _ A dy X.env W σ s _ O.glob O.blt T.rel fun v q=> ?_) hd)
 cases q
 exact FZ T hf hF hk R hs hn e1 VL.nil e2 p
def d8(C:PC)(k:Nat)(name:Str)(D:gW):Prop:= ∀W σ h a v F,cD C W σ h->V C W a v->D a σ=some F->
 ∃f,(∀A s pl E (Q:ah×List ah->az->Prop),s.heap=h->Q (f,[v]) s->wpAny (dH C) A (getMethod v name pl) Q E s)/\oW C f/\aF C k f F
theorem TN{m:EM}{x:Str}{o:an}{es:List an}{ap p:Pos}(hb:th o=true)(hl:(ap.endLine==p.line)=true)(hfew:es.length<30)(hm:b8 X k m o)(hs:es.all (fun e=> !jg e)=true)
  (R:eV A k)(T:St X W fr σ s){wv:AV}{ay:AS}(e1:m fr σ=some (wv,ay)){Q:ah->az->Prop}
  (h: ∀v bv bn,W.le bn->St X bn fr ay bv->V X.C bn wv v-> ∃f,(∀A s pl E (Q:ah×List ah->az->Prop),s.heap=bv.heap->Q (f,[v]) s->wpAny (dH X.C) A (getMethod v x pl) Q E s)/\
   wpAny (dH X.C) A (callWith p f [v] (backTo p (starEach es X.env)) []) Q dy bv):wpAny (dH X.C) A (eval (.Call (.Attribute o x ap) es [] p) X.env) Q dy s:=by
 show wpAny _ _ (do
  let ov <- attributeBase o x X.env (eval o X.env)
  standAt ap.atName
  methodCall o x ap p X.env ov (es.length+([]:List tz).length) (backTo p (starEach es X.env)) (backToKw p (keywordEach [] X.env))) _ _ _
 refine aq (l9 hb (hm.go R T e1 fun v bv bn bD bz d9=>aq (dC ?_)))
 obtain⟨f,g1,g2⟩:=h v bv bn bD bz d9
 have hform:methodCallForm (es.length+([]:List tz).length) (backTo p (starEach es X.env)) (backToKw p (keywordEach [] X.env))=true:=by
  unfold methodCallForm
  have h1:(backTo p (starEach es X.env)).all (!·.1)=true:=by
   have:=qN (env:=X.env) (pos:=p) hs
   rw[b5];rw[E4]at this
   intro y hy;simpa using this y hy
  rw[h1]
  have h2:(backToKw p (keywordEach [] X.env)).all (·.1.isSome)=true:=rfl
  rw[h2]
  simp;exact hfew
 unfold methodCall
 rw[hform]
 have hpos:methodCallPos true o X.env ap p=pure p:=by unfold methodCallPos;simp[hl]
 refine aq (dJ ?_)
 show wpAny _ _ (getMethod v x _) _ _ _
 refine g1 A bv _ dy _ rfl ?_
 show wpAny _ _ (do let callPos <- methodCallPos true o X.env ap p;callWith callPos f [v] (backTo p (starEach es X.env)) (backToKw p (keywordEach [] X.env))) _ _ _
 rw[hpos]
 exact aq (aM g2)
theorem afm{kF:Nat}{D:gW}{m:EM}{n:LM}{x:Str}{o:an}{es:List an}{ap p:Pos}(hb:th o=true)(hl:(ap.endLine==p.line)=true)(hfew:es.length<30)(hm:b8 X k m o)(hD:d8 X.C kF x D)(hk:kF<=k)
  (hs:es.all (fun e=> !jg e)=true)(hn:Ak X k n es):b8 X k (cK D m n) (.Call (.Attribute o x ap) es [] p):=fun A R W fr σ s T a aj e=>by
 refine fW e fun wv ay e1 e=>oE e fun F e2 e=>fW e fun l aL e3 e=>TN hb hl hfew hm hs R T e1 fun v bv bn bD bz d9=> ?_
 obtain⟨f,g1,g2,g3⟩:=hD bn _ bv.heap wv v F bz.rel d9 e2
 exact⟨f,g1,eK (FZ bz g2 g3 hk R hs hn e3 (VL.one d9) e p) fun _ _ z=>z.le bD⟩
end
end
end
section
open PySem.SeqAt
noncomputable section
section
variable{X:FX}{k:Nat}{W W':Wd}{fr:Fm}{σ aj:AS}{s s':az}{A:b6}{h h':bM}{C:PC}
structure ip(X:FX)(W:Wd)(σ:AS)(I:aC):Prop where
 im:W.im I=none
 pr:W.pr I=none
 cell:s8 W σ I
 out: ¬X.Has I
theorem ip.new(T:St X W fr σ s){I:aC}(hI:s.heap.objs.size<=I):ip X W σ I:=
 ⟨T.rel.im_new hI,T.rel.pr_new hI,T.rel.cell_new hI,fun hc=>absurd (T.fr.lt hc) (b7.mpr hI)⟩
theorem St.but(T:St X W fr σ s){I:aC}(L:ip X W σ I)(hk: ∀b o,b≠I->s.heap.get? b=some o->h'.get? b=some o)(t:Nat)(ht:s.toks<=t:=by first|exact ax _|exact cU _|omega):St X W fr σ {s with heap:=h',toks:=t}:=
 ⟨T.rel.keepsBut L.im L.pr L.cell hk,T.fr.turn (.refl _) (fun b o e e'=>by rw[e]at e';cases e') (fun c hc=>T.fr.apart c hc) fun c hc o e=>hk _ _ (fun q=>L.out (q▸hc)) e,T.sm.mk' _ _ ht⟩
noncomputable def Wd.pin(W:Wd)(I:aC)(o:Obj):Wd:={W with pr:=fun b=>if b=I then some o else W.pr b}
theorem Jx{I:aC}{o:Obj}:(W.pin I o).pr I=some o:=if_pos rfl
theorem jC{I b:aC}{o:Obj}(hb:b≠I):(W.pin I o).pr b=W.pr b:=if_neg hb
theorem St.pin(T:St X W fr σ s){I:aC}(L:ip X W σ I){o:Obj}(ho:s.heap.get? I=some o):St X (W.pin I o) fr σ s:=by
 obtain⟨R,⟨⟨m,a,b⟩,c,d,xT,d',CI⟩,S⟩:=T
 refine⟨⟨R.base,R.im,fun b o' e=> ?_,fun b o' e=> ?_,R.fresh,fun a c e=> ?_,R.inj⟩,⟨⟨m,a,fun i x e=>(b i x e).imp id fun f y p=>let⟨v,q,r⟩:=f y p;⟨v,q,r.pr rfl rfl⟩⟩,c,d,xT,fun c hc=> ?_,CI⟩,S⟩
 ·by_cases q:b=I
  ·subst q;rw[Jx]at e;cases e;exact ho
  ·rw[jC q]at e;exact R.pr _ _ e
 ·by_cases q:b=I
  ·subst q;exact L.im
  ·rw[jC q]at e;exact R.dis _ _ e
 ·refine ul (R.cell a c e) fun p a1 a2 a3 a4=> ?_
  exact⟨p,a1,a2.pr rfl rfl,a3,by rw[jC (L.cell a c p e a1)];exact a4⟩
 ·rw[jC fun q=>L.out (by rw[<- q];exact .inr (.inr hc))];exact d' c hc
theorem St.unpin{bn:Wd}{fr':Fm}{I:aC}{o:Obj}(l:(W.pin I o).le bn)(L:ip X W σ I)(T:St X bn fr' aj s'):
  W.le {bn with pr:=W.pr}/\St X {bn with pr:=W.pr} fr' aj s'/\s'.heap.get? I=some o/\ip X {bn with pr:=W.pr} aj I:=by
 have hpr:bn.pr=(W.pin I o).pr:=l.2.2
 have hI:bn.pr I=some o:=by rw[hpr,Jx]
 obtain⟨R,⟨⟨m,a,b⟩,c,d,xT,d',CI⟩,S⟩:=T
 have nc:s8 bn aj I:=fun a cc p e e' q=>by
  refine ul (R.cell a cc e) fun p' a1 a2 a3 a4=> ?_
  rw[e']at a1;cases a1
  rw[q,hI]at a4;cases a4
 refine⟨⟨l.1,l.2.1,rfl⟩,⟨⟨R.base,R.im,fun b o' e=> ?_,fun b o' e=> ?_,R.fresh,fun a c e=> ?_,R.inj⟩,⟨⟨m,a,fun i x e=>(b i x e).imp id fun f y p=>let⟨v,q,r⟩:=f y p;⟨v,q,r.pr rfl rfl⟩⟩,c,d,xT,fun c hc=> ?_,CI⟩,S⟩,
  R.pr _ _ hI,⟨R.dis _ _ hI,L.pr,nc,L.out⟩⟩
 ·have e:W.pr b=some o':=e
  exact R.pr _ _ (by rw[hpr,jC (fun q=>by rw[q,L.pr]at e;cases e)];exact e)
 ·have e:W.pr b=some o':=e
  exact R.dis b o' (by rw[hpr,jC (fun q=>by rw[q,L.pr]at e;cases e)];exact e)
 ·refine ul (R.cell a c e) fun p a1 a2 a3 a4=> ?_
  refine⟨p,a1,a2.pr rfl rfl,a3,?_⟩
  rw[hpr,jC (nc a c p e a1)]at a4;exact a4
 ·have:=d' c hc
  rw[hpr,jC fun q=>L.out (by rw[<- q];exact .inr (.inr hc))]at this;exact this
structure xu(X:FX)(W:Wd)(σ:AS)(I:aC)(l:List AV)(h:bM)(S:Nat->bM->Prop)(fp:List aC)(P:Nat->ah->Prop):Prop where
 walks: ∀A',A'.handled=none->Walks X.C.prog X.C.w A' I fp [I] l.length P S
 st:S 0 h
 fp: ∀b∈fp,b=I\/ ∃o,W.im b=some o
 val: ∀i v,i<l.length->P i v-> ∃a,l[i]? =some a/\V X.C W a v
 obj: ∀i h,S i h-> ∃o n,h.get? I=some o/\o.cls= .type n/\(["enumerate","zip","dict_itemiterator","dict_reverseitemiterator","odict_iterator","itertools.zip_longest","itertools.pairwise"].contains n)=false
theorem xu.mono{I:aC}{l:aa}{S:Nat->bM->Prop}{fp:List aC}{P:Nat->ah->Prop}(q:xu X W σ I l h S fp P)(le:W.le W'):xu X W' σ I l h S fp P:=
 ⟨q.walks,q.st,fun b hb=>(q.fp b hb).imp id fun⟨o,e⟩=>⟨o,le.2.1 _ _ e⟩,fun i v hi p=>let⟨a,e,r⟩:=q.val i v hi p;⟨a,e,r.mono le⟩,q.obj⟩
theorem VL.ith{W:Wd}{l:aa}{vs:List ah}(q:VL C W l vs){i:Nat}{v:ah}(e:vs[i]? =some v): ∃a,l[i]? =some a/\V C W a v:=by
 have hl:i<l.length:=by
  rw[<- q.length]
  exact(cW.mp e).1
 refine fg (q.get (show l[i]? =some l[i] from fj hl)) fun v' e' r=> ?_
 rw[e]at e';cases e'
 exact⟨_,fj hl,r⟩
def ms(X:FX)(W:Wd)(fr:Fm)(σ:AS)(l:aa)(it:ah)(s':az):Prop:=
 ∃I W' S fp P,it= .ref I/\W.le W'/\St X W' fr σ s'/\ip X W' σ I/\xu X W' σ I l s'.heap S fp P
theorem ER(T:St X W fr σ s)(o:Obj):ip X W σ s.heap.objs.size/\St X W fr σ {s with heap:=s.heap.push o}:=
 ⟨ip.new T (ax _),T.keeps (eD _ _) s.toks⟩
theorem Tx(T:St X W fr σ s){x n:Nat}{vs:List ah}{l:aa}(hx:W.im x=some (dz vs n))(q:VL X.C W l vs):wpAny (dH X.C) A (pyIter (.ref x)) (ms X W fr σ l) dy s:=by
 have hg:=T.rel.im _ _ hx
 refine wpAny_pyIter_list (lX hg) ?_
 obtain⟨L,T'⟩:=ER T {cls:=.type "list_iterator",data:=.fields #[.ref x,.int 0 0]}
 have ne:x≠s.heap.objs.size:=cu (cz hg)
 have hl:vs.toArray.size=l.length:=by rw[aZ,q.length]
 refine⟨_,W,_,[s.heap.objs.size,x],_,rfl,.refl _,T',L,⟨fun A' hA=>hl▸Walks.list hA _ x ne vs.toArray,⟨⟨_,br _ rfl,rfl,rfl⟩,lX (eD _ _ _ _ hg)⟩,fun b hb=> ?_,fun i v _ e=> ?_,fun _ _ st=>let⟨o,e1,e2,_⟩:=st.1;⟨o,_,e1,e2,by decide⟩⟩⟩
 ·simp at hb;exact hb.imp id fun e=>⟨_,e▸hx⟩
 ·exact q.ith (by simpa using e)
theorem aem(T:St X W fr σ s){x n:Nat}{vs:List ah}{l:aa}(hx:W.im x=some (tw vs n))(q:VL X.C W l vs):wpAny (dH X.C) A (pyIter (.ref x)) (ms X W fr σ l) dy s:=by
 have hg:=T.rel.im _ _ hx
 have ht:s.heap.IsTuple x vs.toArray:=⟨_,hg,rfl,n,rfl⟩
 refine wpAny_pyIter_tuple ht ?_
 obtain⟨L,T'⟩:=ER T {cls:=.type "tuple_iterator",data:=.fields #[.ref x,.int 0 0]}
 have ne:x≠s.heap.objs.size:=cu (cz hg)
 have hl:vs.toArray.size=l.length:=by rw[aZ,q.length]
 refine⟨_,W,_,[s.heap.objs.size,x],_,rfl,.refl _,T',L,⟨fun A' hA=>hl▸Walks.tuple hA _ x ne vs.toArray,⟨⟨_,br _ rfl,rfl,rfl⟩,ht.push _⟩,fun b hb=> ?_,fun i v _ e=> ?_,fun _ _ st=>let⟨o,e1,e2,_⟩:=st.1;⟨o,_,e1,e2,by decide⟩⟩⟩
 ·simp at hb;exact hb.imp id fun e=>⟨_,e▸hx⟩
 ·exact q.ith (by simpa using e)
theorem aio{a:AV}{l:aa}(e:fJ σ a=some (l,aj)){P:Prop}(k:ain σ a=some (l,aj)->l.length<=4000000->P):P:=fW e fun l' ay q e=>kS e fun z e=>by
 cases e;exact k q (jT z)
@[elab_as_elim] theorem ms.elim {l:aa} {it:ah} {Q:ah->Prop} (h:ms X W fr σ l it s) (k: ∀I W' S fp P,W.le W'->St X W' fr σ s->ip X W' σ I->xu X W' σ I l s.heap S fp P->Q (.ref I)):Q it:=by
 obtain⟨I,W',S,fp,P,rfl,h1,h2,h3,h4⟩:=h;exact k I W' S fp P h1 h2 h3 h4
theorem St.freezeL(T:St X W fr σ s){a:Nat}{l:aa}(hg:σ.get a=some (.lst l)): ∃x vs n,W.ρ a=some (x,x)/\W.le (W.addIm x (dz vs n))/\St X (W.addIm x (dz vs n)) fr (σ.drop a) s/\VL X.C (W.addIm x (dz vs n)) l vs:=by
 obtain⟨⟨x,y⟩,a1,⟨a2,vs,n,b,r⟩,a3,a4⟩:=T.rel.cell _ _ hg
 obtain rfl:x=y:=a2
 have R:=T.rel.freeze hg a1 b
 have le:W.le (W.addIm x (dz vs n)):=Wd.le_addIm fun o' e=>by have:=T.rel.im _ _ e;rw[b]at this;exact(aI this).symm
 refine⟨x,vs,n,a1,le,⟨R,T.fr.turn le (fun b' o' e e' hb=> ?_) (fun c hc b' cb p e e'=> ?_) fun c _ o e=>e,T.sm⟩,r.mono le⟩
 ·have e':(if b'=x then some (dz vs n)else W.im b')=some o':=e'
  by_cases q:b'=x
  ·exact T.fr.apart _ hb a _ _ hg a1 q.symm
  ·rw[if_neg q,e]at e';cases e'
 ·rw[AS.get_drop]at e
  split at e
  ·cases e
  ·exact T.fr.apart c hc b' cb p e e'
theorem YI{a b:Nat}(ha:a<2^20)(hb:b<2^20):Bf (a:Int) (b:Int) 1=true/\mM (a:Int) (b:Int) 1=(b-a:Nat):=by
 have h1:mM (a:Int) (b:Int) 1=(b-a:Nat):=by
  unfold mM
  simp
  omega
 refine⟨?_,h1⟩
 unfold Bf
 rw[h1]
 unfold LS
 simp
 omega
theorem strKind_is{key:Str}{v:ah}(e:(rK C.prog C.w).is key v=true): ∃t,v= .str key t:=by
 exact Value.isStrOf_shape e
theorem aaz{M:d5}{p:gg}{E:ah->az->Prop}{x:Str}{t:Tok}{Q:ah->az->Prop}
  (hQ: ∀(o:Obj) (S:Nat->bM->Prop),(∀A':b6,A'.handled=none->Walks p M A' s.heap.objs.size [s.heap.objs.size] [s.heap.objs.size] x.cps.size (SignAt x) S)->S 0 (s.heap.push o)->
   (∀i h,S i h-> ∃o n,h.get? s.heap.objs.size=some o/\o.cls= .type n/\(["enumerate","zip","dict_itemiterator","dict_reverseitemiterator","odict_iterator","itertools.zip_longest","itertools.pairwise"].contains n)=false)->
   Q (.ref s.heap.objs.size) {s with heap:=s.heap.push o}):wpAny (model p M) A (pyIter (.str x t)) Q E s:=by
 cases ha:x.cps.all (· <128)
 ·exact wpAny_pyIter_wide ha (hQ _ _ (fun A' hA=>Walks.strWide hA _ x t) ⟨_,br _ rfl,rfl,rfl⟩ fun _ _ st=>let⟨o,e1,e2,_⟩:=st;⟨o,_,e1,e2,by decide⟩)
 ·exact wpAny_pyIter_ascii ha (hQ _ _ (fun A' hA=>Walks.strAscii hA _ x t) ⟨_,br _ rfl,rfl,rfl⟩ fun _ _ st=>let⟨o,e1,e2,_⟩:=st;⟨o,_,e1,e2,by decide⟩)
theorem aeE{n i:Nat}(hi:i<n):(co n)[i]? =some i:=by rw[List.getElem?_range hi]
theorem aaA(T:St X W fr σ s){ss:ac}(t:Tok):wpAny (dH X.C) A (pyIter (.str (aO ss) t)) (ms X W fr σ (ss.map fun c=>.str [c])) dy s:=by
 refine aaz fun o S hW hS hO=> ?_
 obtain⟨L,T'⟩:=ER T o
 have hl:(aO ss).cps.size=(ss.map fun c=>AV.str [c]).length:=by rw[aU];rfl
 refine⟨_,W,_,[s.heap.objs.size],_,rfl,.refl _,T',L,⟨fun A' hA=>hl▸hW A' hA,hS,fun b hb=>.inl (aP.mp hb),fun i v _ ⟨c,u,e,ev⟩=> ?_,hO⟩⟩
 subst ev
 have e:ss.toArray[i]? =some c:=e
 rw[jX]at e
 exact⟨.str [c],by rw[jO,e];rfl,u,rfl⟩
theorem aek(T:St X W fr σ s){x:aC}{o:Obj}{ks:List (List Nat)}{ws:List ah}(h0:(x==sysModules)=false)(h1:W.im x=some o)(h3:Ev X.C ks ws o):wpAny (dH X.C) A (pyIter (.ref x)) (ms X W fr σ (ks.map .str)) dy s:=by
 obtain⟨h3,es,ep,hd⟩:=h3
 have hg:=T.rel.im _ _ h1
 have hd':s.heap.DictAt (strKind X.C.prog X.C.w) x ((ks.map aO).zip ws) ep:=⟨o,es,hg,hd⟩
 refine Fq h0 hd' ?_
 have hz:((ks.map aO).zip ws).length=(ks.map AV.str).length:=by simp[h3]
 obtain⟨L,T'⟩:=ER T {cls:=.type "dict_keyiterator",data:=.fields #[.ref x,.int 0 0,.int ((ks.map aO).zip ws).length 0,.int ep 0]}
 have ne:x≠s.heap.objs.size:=cu (cz hg)
 refine⟨_,W,_,[s.heap.objs.size,x],_,rfl,.refl _,T',L,⟨fun A' hA=>hz▸Kp hA _ x ne _ ep,⟨⟨_,br _ rfl,rfl,by rw[hz];rfl⟩,hd'.at' fun o e=>eD _ _ _ _ e⟩,fun b hb=> ?_,fun i v _ ⟨key,y,e,hk⟩=> ?_,fun _ _ st=>let⟨o,e1,e2,_⟩:=st.1;⟨o,_,e1,e2,by decide⟩⟩⟩
 ·rcases aH.mp hb with hb|hb
  ·exact .inl hb
  ·exact .inr ⟨_,aP.mp hb▸h1⟩
 ·obtain⟨t,rfl⟩:=strKind_is hk
  rw[sY,jO]at e
  refine fg (ig.mp e.1) fun kk e1 e2=> ?_
  exact⟨.str kk,by rw[jO,e1];rfl,t,by rw[e2]⟩
theorem X4(T:St X W fr σ s){b:List UInt8}(t:Tok):wpAny (dH X.C) A (pyIter (.bytes b.toArray t)) (ms X W fr σ (b.map fun x=>.int (ai x.toNat))) dy s:=by
 refine KBw.pyIter_bytes ?_
 obtain⟨L,T'⟩:=ER T {cls:=.type "bytes_iterator",data:=.fields #[.bytes b.toArray t,.int 0 0]}
 have hl:b.toArray.size=(b.map fun x=>AV.int (ai x.toNat)).length:=by rw[aU];rfl
 refine⟨_,W,_,[s.heap.objs.size],_,rfl,.refl _,T',L,⟨fun A' hA=>hl▸KBw.walks hA _ b.toArray t,⟨_,br _ rfl,rfl,rfl⟩,fun b hb=>.inl (aP.mp hb),fun i v _ ⟨c,u,e,ev⟩=> ?_,fun _ _ st=>let⟨o,e1,e2,_⟩:=st;⟨o,_,e1,e2,by decide⟩⟩⟩
 subst ev
 rw[jX]at e
 exact⟨.int (ai c.toNat),by rw[jO,e];rfl,u,rfl⟩
theorem ael(T:St X W fr σ s){a b:Nat}{x:aC}{t u w:Tok}(h1:W.im x=some {cls:=.type "range",dict:=none,data:=.fields #[.int a t,.int b u,.int 1 w],slots:= #[]})(h2:a<2^20)(h3:b<2^20):wpAny (dH X.C) A (pyIter (.ref x)) (ms X W fr σ ((co (b-a)).map fun i=>.int (ai (a+i)))) dy s:=by
 have hg:=T.rel.im _ _ h1
 obtain⟨r1,r2⟩:=YI h2 h3
 refine wpAny_pyIter_range hg r1 ?_
 rw[r2]
 obtain⟨L,T'⟩:=ER T {cls:=.type "range_iterator",data:=.fields #[rawInt a,rawInt (b-a:Nat),rawInt 1]}
 have hl:((co (b-a)).map fun i=>AV.int (ai (a+i))).length=b-a:=by rw[aU,E6]
 refine⟨_,W,_,[s.heap.objs.size],_,rfl,.refl _,T',L,⟨fun A' hA=>by have:=Walks.range (prog:=X.C.prog) (w:=X.C.w) hA s.heap.objs.size a 1 (b-a);rw[hl];exact this,?_,fun b hb=>.inl (aP.mp hb),?_,fun _ _ st=>⟨_,_,st,rfl,by decide⟩⟩⟩
 ·show IsRangeIter _ _ _ _ _
  have:IsRangeIter (s.heap.push {cls:=.type "range_iterator",data:=.fields #[rawInt a,rawInt (b-a:Nat),rawInt 1]}) s.heap.objs.size a (b-a:Nat) 1:=br _ rfl
  simpa using this
 ·rintro i v hi ⟨u,rfl⟩
  rw[hl]at hi
  exact⟨.int (a+i:Nat),by rw[jO,aeE hi];rfl,u,by simp⟩
theorem vZ(T:St X W fr σ s){a:AV}{l:aa}(e:fJ σ a=some (l,aj)){v:ah}(hv:V X.C W a v):wpAny (dH X.C) A (pyIter v) (ms X W fr aj l) dy s:=aio e fun e _=>by
 revert hv
 cases a<;>intro hv<;>first|exact nn e|skip
 ·apply s2 e;exact hv.strE fun t=>aaA T t
 ·apply s2 e;exact hv.bytesE fun t=>X4 T t
 ·apply s2 e;exact hv.tupE fun x n vs q r=>aem T q r
 ·apply s2 e;exact hv.lstE fun x n vs q r=>Tx T q r
 ·apply s2 e;exact hv.dctE fun x o vs q0 q1 _ q3=>aek T q0 q1 q3
 ·apply s2 e;exact hv.rngE fun x t u w h1 h2 h3=>ael T h1 h2 h3
 ·refine lstE e fun l' hg e=> ?_
  apply s2 e
  refine XH (T.freezeL hg) fun x vs n hr le T' q=> ?_
  obtain⟨p,e1,rfl⟩:=hv
  rw[hr]at e1;cases e1
  exact eK (Tx T' kX q) fun it s' z=>z.elim fun I W' S fp P l1 h2 h3 h4=>⟨I,W',S,fp,P,rfl,le.trans l1,h2,h3,h4⟩
end
end
end
section
open PySem.SeqAt
noncomputable section
section
variable{X:FX}{k:Nat}{W W':Wd}{fr fr':Fm}{σ aj:AS}{s s':az}{A:b6}{h h':bM}{C:PC}
theorem yc: ∀(fr:Fm) (i:Nat) (a:AV) (j:Nat) (b:AV),(put fr i a)[j]? =some b->(j=i/\b=a)\/(j≠i/\(fr[j]? =some b\/b= .unb)):=by
 have up: ∀{i j:Nat} {P Q Q':Prop},(Q->Q')->((j=i/\P)\/(j≠i/\Q))->((j+1=i+1/\P)\/(j+1≠i+1/\Q')):=fun f h=>h.imp (fun h=>⟨congrArg _ h.1,h.2⟩) fun h=>⟨fun q=>h.1 (jZ q),f h.2⟩
 have nl: ∀(i:Nat) (a:AV) (j:Nat) (b:AV),(put [] i a)[j]? =some b->(j=i/\b=a)\/(j≠i/\(([]:Fm)[j]? =some b\/b= .unb)):=by
  intro i
  induction i with
  |zero=>intro a j b e;cases j with
   |zero=>cases e;exact .inl ⟨rfl,rfl⟩
   |succ j=>cases e
  |succ i ih=>intro a j b e;cases j with
   |zero=>cases e;exact .inr ⟨dU,.inr rfl⟩
   |succ j=>exact up (fun h=>h) (ih a j b e)
 intro fr
 induction fr with
 |nil=>exact nl
 |cons x r ih=>
  intro i a j b e
  cases i with
  |zero=>cases j with
   |zero=>cases e;exact .inl ⟨rfl,rfl⟩
   |succ j=>exact .inr ⟨dU,.inl e⟩
  |succ i=>cases j with
   |zero=>exact .inr ⟨dU,.inl e⟩
   |succ j=>exact up (fun h=>h) (ih i a j b e)
theorem qv: ∀(fr:Fm) {i j:Nat} (a b:AV),i≠j->put (put fr i a) j b=put (put fr j b) i a:=by
 have nl: ∀(i j:Nat) (a b:AV),i≠j->put (put [] i a) j b=put (put [] j b) i a:=by
  intro i
  induction i with
  |zero=>intro j a b h;cases j with
   |zero=>exact absurd rfl h
   |succ j=>rfl
  |succ i ih=>intro j a b h;cases j with
   |zero=>rfl
   |succ j=>exact congrArg (AV.unb:: ·) (ih j a b fun q=>h (congrArg _ q))
 intro fr
 induction fr with
 |nil=>intro i j a b h;exact nl i j a b h
 |cons x r ih=>
  intro i j a b h
  cases i with
  |zero=>cases j with
   |zero=>exact absurd rfl h
   |succ j=>rfl
  |succ i=>cases j with
   |zero=>rfl
   |succ j=>exact congrArg (x:: ·) (ih a b fun q=>h (congrArg _ q))
structure Hf(X:FX):Prop where
 uniq: ∀(i j:Nat) x,X.names i=some x->X.names j=some x->i=j
 inter:interactive X.env=false
theorem dP{α β:Type}[BEq α][LawfulBEq α]{n:α}{c:β}: ∀{l:List (α×β)},l.lookup n=some c->(n,c)∈l
 |(m,d)::r,e=>by
  rw[cE]at e
  split at e
  ·rename_i q;cases e;rw[beq_iff_eq.mp q];exact bg
  ·exact aQ _ (dP e)
theorem Jw{l:List (Str×aC)}(h:l.Pairwise fun x y=>x.2≠y.2){n n':Str}{c:aC}(e:(n,c)∈l)(e':(n',c)∈l):n=n':=by
 induction l with
 |nil=>cases e
 |cons p r ih=>
  rw[jt]at h
  rcases aH.mp e with q|q<;>rcases aH.mp e' with q'|q'
  ·rw[<- q]at q';exact(cL q').1.symm
  ·exact absurd (by rw[<- q]) (h.1 _ q')
  ·exact absurd (by rw[<- q']) (h.1 _ q)
  ·exact ih h.2 q q'
theorem pS.put(F:pS X W fr σ h)(O':Hf X){i:Nat}{x:Str}(hx:X.names i=some x){a:AV}{v:ah}(hv:V X.C W a v){m':Str->Option ah}(hn:h'.Ns X.env.locals m')(hnew:jd X h' m' x v)
  (hold: ∀m,h.Ns X.env.locals m-> ∀z u,z≠x->jd X h m z u->jd X h' m' z u)(cells: ∀n c,X.env.cells.lookup n=some c-> ∃v,h'.IsCell c v)(live: ∀c,X.Has c-> ∃o,h'.get? c=some o):pS X W (put fr i a) σ h':=by
 obtain⟨⟨m,h1,b⟩,_,d,xT,d',_⟩:=F
 refine⟨⟨m',hn,fun j y e=> ?_⟩,cells,d,xT,d',live⟩
 rcases yc fr i a j y e with⟨rfl,rfl⟩|⟨hj,e|e⟩
 ·refine .inr fun z p=> ?_
  rw[hx]at p;cases p
  exact⟨v,hnew,hv⟩
 ·refine(b j y e).imp id fun f z p=> ?_
  refine fg (f z p) fun u q r=> ?_
  exact⟨u,hold m h1 z u (fun q=>hj (O'.uniq _ _ _ (q▸p) hx)) q,r⟩
 ·exact .inl e
theorem aiT{h:bM}{a:aC}{m m':Str->Option ah}(x:h.Ns a m)(y:h.Ns a m'):m=m':=by
 refine XH (x) fun o es ep h1 h2 _ h4=> ?_
 refine XH (y) fun o' es' ep' g1 g2 _ g4=> ?_
 rw[h1]at g1;cases g1
 rw[h2]at g2;cases g2
 funext n;rw[<- h4,<- g4]
theorem jd.turn{m m':Str->Option ah}{z:Str}{u:ah}(q:jd X h m z u)(hl:X.env.kindOf z=some .local->m z=some u->m' z=some u)(hc: ∀c,X.env.cells.lookup z=some c->h.IsCell c (some u)->h'.IsCell c (some u)):jd X h' m' z u:=by
 unfold jd at q ⊢
 revert q hl
 cases X.env.kindOf z with
 |none=>exact fun q _=>q.elim
 |some kd=>
  cases kd with
  |«local»=>exact fun q hl=>hl rfl q
  |cell=>exact fun⟨c,q1,q2⟩ _=>⟨c,q1,hc c q1 q2⟩
  |free=>exact fun⟨c,q1,q2⟩ _=>⟨c,q1,hc c q1 q2⟩
  |_=>exact fun q _=>q.elim
theorem St.store(O:vn X)(O':Hf X)(T:St X W fr σ s){i:Nat}{x:Str}(hx:X.names i=some x)(hk:X.env.kindOf x=some .local\/(X.env.kindOf x=some .cell/\ ∃c,X.env.cells.lookup x=some c/\c∈X.own)){a:AV}{v:ah}(hv:V X.C W a v):
  wpAny (dH X.C) A (storeName X.env x v) (fun _ s'=>St X W (put fr i a) σ s') dy s:=by
 obtain⟨R,F,S⟩:=T
 refine fg (F.vars) fun m hn _=> ?_
 rcases hk with hl|⟨hc,cx,hcx,own⟩
 ·refine wpAny_storeName_local hl hn (fun h' hn' hs=> ?_) (by rw[O.kind];rfl)
  have hb: ∀b o,b≠X.env.locals->s.heap.get? b=some o->h'.get? b=some o:=fun b o q e=>hs.extBut b o q e
  have keepC: ∀c n w,X.env.cells.lookup n=some c->s.heap.IsCell c w->h'.IsCell c w:=fun c n w e ⟨o,p,q⟩=>⟨o,hb _ _ (O.notL n c e) p,q⟩
  refine⟨R.keepsBut (F.sep _ (.inl rfl)) (F.own _ O.loc) (fun a cc p e e'=>F.apart _ (.inl rfl) a cc p e e') hb,F.put O' hx hv hn' (by unfold jd;rw[hl];exact if_pos rfl) (fun aiI Qe z u hz q=> ?_) (fun n c' e=>let⟨v,z⟩:=F.cells n c' e;⟨v,keepC _ _ _ e z⟩) fun c' hc'=> ?_,S.mk' _ _ (by first|exact ax _|exact cU _|(dsimp only;omega))⟩
  ·rw[aiT Qe hn]at q
   exact q.turn (fun _ e=>(if_neg hz).trans e) fun c e q=>keepC c z _ e q
  ·by_cases q:c'=X.env.locals
   ·obtain⟨o,_,_,z,_⟩:=hn';exact⟨o,by rw[q];exact z⟩
   ·obtain⟨o,z⟩:=F.live c' hc';exact⟨o,hb _ _ q z⟩
 ·obtain⟨wv,hcv⟩:=F.cells x cx hcx
  refine wpAny_storeName_cell O.kind hc hcx hcv fun h' hn' hs=> ?_
  have hb: ∀b o,b≠cx->s.heap.get? b=some o->h'.get? b=some o:=fun b o q e=>hs.extBut b o q e
  have keepC: ∀c n w,X.env.cells.lookup n=some c->n≠x->s.heap.IsCell c w->h'.IsCell c w:=fun c n w e hne ⟨o,p,q⟩=>⟨o,hb _ _ (fun q=>by subst q;exact hne (Jw O.apart (dP e) (dP hcx))) p,q⟩
  have has:X.Has cx:=.inr (.inr own)
  refine⟨R.keepsBut (F.sep _ has) (F.own _ own) (fun a cc p e e'=>F.apart _ has a cc p e e') hb,F.put O' hx hv (hn.at' fun o e=>hb _ _ (tA (O.notL x cx hcx)) e) (by unfold jd;rw[hc];exact⟨cx,hcx,hn'⟩) (fun aiI Qe z u hz q=> ?_) (fun n c' e=> ?_) fun c' hc'=> ?_,S.trans ⟨_,_,rfl,ax _⟩⟩
  ·rw[aiT Qe hn]at q
   exact q.turn (fun _ e=>e) fun c e q=>keepC c z _ e hz q
  ·by_cases q:n=x
   ·subst q;rw[hcx]at e;cases e;exact⟨_,hn'⟩
   ·obtain⟨v,z⟩:=F.cells n c' e;exact⟨v,keepC _ _ _ e q z⟩
  ·by_cases q:c'=cx
   ·obtain⟨o,z,_⟩:=hn';exact⟨o,by rw[q];exact z⟩
   ·obtain⟨o,z⟩:=F.live c' hc';exact⟨o,hb _ _ q z⟩
def SW(X:FX)(is:ac)(t:an):Prop:=
 ∀A,A.handled=none-> ∀W fr σ s,St X W fr σ s-> ∀a v,V X.C W a v-> ∀fr',mw is a fr σ=some fr'->wpAny (dH X.C) A (assign t X.env v) (fun _ s'=>St X W fr' σ s') dy s
def kv(X:FX)(i:Nat)(x:Str):Prop:=X.names i=some x/\(X.env.kindOf x=some .local\/(X.env.kindOf x=some .cell/\ ∃c,X.env.cells.lookup x=some c/\c∈X.own))
theorem H1(O:vn X)(O':Hf X){i:Nat}{x:Str}{p:Pos}(hx:kv X i x):SW X [i] (.Name x p):=fun A _ W fr σ s T a v hv fr' e=>by
 apply s1 e
 exact lH (T.store O O' hx.1 hx.2 hv)
inductive qi(X:FX):List Nat->List an->Prop where
 |nil:qi X [] []
 |cons {i x p is ts} (h:kv X i x) (r:qi X is ts):qi X (i::is) (.Name x p::ts)
theorem qi.len{is:ac}{ts:List an}(N:qi X is ts):is.length=ts.length:=by induction N<;>simp_all
theorem qi.each{is:ac}{ts:List an}(N:qi X is ts){env:Env}:(assignEach ts env).findIdx? (·.1)=none/\(assignEach ts env).length=ts.length/\(assignEach ts env).all (fun p=> !p.1)=true:=by
 induction N with
 |nil=>exact⟨rfl,rfl,rfl⟩
 |cons h r ih=>
  rename_i i x p is ts
  have e:assignEach (.Name x p::ts) env=(false,assign (.Name x p) env)::assignEach ts env:=rfl
  rw[e]
  refine⟨?_,by simp[ih.2.1],by simpa using ih.2.2⟩
  rw[List.findIdx?_cons];simp[ih.1]
theorem qi.order(O:vn X)(O':Hf X){is:ac}{ts:List an}(N:qi X is ts): ∀{W fr σ s},St X W fr σ s-> ∀{l vs},VL X.C W l vs-> ∀{fr'},vS is l fr=some fr'->
  wpAny (dH X.C) A (assignInOrder ((assignEach ts X.env).map (·.2)) vs) (fun _ s'=>St X W fr' σ s') dy s:=by
 induction N with
 |nil=>
  intro W fr σ s T l vs q fr' e
  cases l with
  |nil=>cases e;rw[show vs=[] from q];exact aM T
  |cons=>cases e
 |cons h r ih=>
  intro W fr σ s T l vs q fr' e
  cases l with
  |nil=>cases e
  |cons a l=>
   obtain⟨v,vs,rfl,q,q'⟩:=q
   rename_i i x p is ts
   refine ft (eK (lH (T.store O O' h.1 h.2 q)) fun _ s' T'=>ih T' q' e)
theorem Mf: ∀{is:ac} {l:aa} {fr fr':Fm},vS is l fr=some fr'->is.length=l.length
 |[],[],_,_,_=>rfl
 |i::is,a::l,fr,fr',e=>congrArg kq (Mf (is:=is) (l:=l) (fr:=put fr i a) (fr':=fr') e)
 |[],_::_,_,_,e=>by cases e
 |_::_,[],_,_,e=>by cases e
@[elab_as_elim] theorem KR {i j:Nat} {is:ac} {a:AV} {fr fr':Fm} {Q:AV->Prop} (e:mw (i::j::is) a fr σ=some fr') (k: ∀l,vS (i::j::is) l fr=some fr'->Q (.tup l)):Q a:=NR (show Hg a (fun l=>vS (i::j::is) l fr)=some fr' from e) k
theorem Lr(O:vn X)(O':Hf X){i j:Nat}{is:ac}{ts:List an}{c:Nat}{p:Pos}(N:qi X (i::j::is) ts):SW X (i::j::is) (.Tuple ts c p):=fun A hA W fr σ s T a v hv fr' e=>by
 revert hv
 refine KR e fun l e hv=>hv.tupE fun x n vs q r=> ?_
 have ht:s.heap.IsTuple x vs.toArray:=⟨_,T.rel.im _ _ q,rfl,n,rfl⟩
 refine uj (N.each (env:=X.env)) fun n1 n2 n3=> ?_
 refine wpAny_assign_Tuple hA ht ?_ n1 fun h' he=> ?_
 ·rw[n2,<- N.len,Mf e,aZ,r.length]
 ·exact N.order O O' (T.keeps (fun b o z=>he b o (cu (cz z)) z) s.toks) r e
end
end
end
section
open PySem.SeqAt
noncomputable section
section
variable{X:FX}{k:Nat}{W W':Wd}{fr fr':Fm}{σ aj:AS}{s s':az}{A:b6}{h h':bM}{C:PC}
theorem Ld{M:lp}{α:Type}{t:Sem α}{Q:α->az->Prop}{E:ah->az->Prop}(h:wpAny M A t Q dy s):wpAny M A t Q E s:=jx h (fun _ _ q=>q) fun _ _ e=>e.elim
theorem afr:mW X k bu []:=fun A R W fr σ s T r e=>by
 apply s1 e;exact oU ⟨rfl,T.postU⟩
theorem abg{m n:SM}{st:bW}{sts:List bW}(hm:lP X k m st)(hn:mW X k n sts):mW X k (aV m n) (st::sts):=fun A R W fr σ s T r e=>by
 refine oE e fun o q e=>nS (eK (hm A R W fr σ s T _ q) fun f bv P=> ?_)
 cases o with
 |next gY ay=>
  obtain⟨rfl,P⟩:=P
  exact P.elim fun bn bD bz=>eK (hn A R bn gY ay bv bz r e) fun _ _ z=>z.le bD
 |brk gY ay=>apply s1 e;obtain⟨rfl,P⟩:=P;exact⟨rfl,P⟩
 |cont gY ay=>apply s1 e;obtain⟨rfl,P⟩:=P;exact⟨rfl,P⟩
 |ret a ay=>apply s1 e;obtain⟨v,uu,rfl,P⟩:=P;exact⟨v,uu,rfl,P⟩
theorem Y1{m n:SM}{sts:List bW}(hm: ∀W fr σ s,St X W fr σ s-> ∀r,m fr σ=some r-> ∃W' fr' aj,r= .next fr' aj/\W.le W'/\St X W' fr' aj s)(hn:mW X k n sts):mW X k (aV m n) sts:=fun A R W fr σ s T r e=>by
 refine oE e fun o q e=> ?_
 obtain⟨bn,gY,ay,rfl,bD,bz⟩:=hm W fr σ s T _ q
 exact eK (hn A R bn gY ay s bz r e) fun _ _ z=>z.le bD
theorem ang{c:BM}{m n:SM}{test:an}{b o:List bW}{p:Pos}(hc:np X k c test)(hm:mW X k m b)(hn:mW X k n o):lP X k (sh c m n) (.If test b o p):=fun A R W fr σ s T r e=>by
 refine fW e fun t ay q e=>wpAny_If (hc.go R T q fun bv bn bD bz=> ?_)
 cases t with
 |true=>exact eK (hm A R bn fr ay bv bz r e) fun _ _ z=>z.le bD
 |false=>exact eK (hn A R bn fr ay bv bz r e) fun _ _ z=>z.le bD
noncomputable def qp(e:an):Option d4:=match e with
 | .ListComp _ _ s _| .SetComp _ _ s _| .DictComp _ _ _ s _=>some s
 |_=>none
noncomputable def jS(e:an):Bool:=(qp e).isNone
theorem tE{e:an}(h:jS e=true){t:Option an}{l:Nat}{env:Env}:swapsWith e t l env=pure false:=by
 have h:=dG.mp h
 unfold swapsWith
 show(match qp e with|some scope=>_|x=>pure false)=_
 rw[h]
theorem afk(O':Hf X){m:EM}{e:an}{p:Pos}(hm:b8 X k m e)(hc:jS e=true):lP X k (lj m) (.Expr e p):=fun A R W fr σ s T r q=>by
 refine fW q fun a ay q1 q=> ?_
 apply s1 q
 exact Ks (hm.go R T q1 fun v bv bn bD bz _=>⟨rfl,bn,bD,bz⟩) O'.inter (tE hc)
theorem akW{m:EM}{e:an}{p:Pos}(hm:b8 X k m e):lP X k (eI m) (.Return (some e) p):=fun A R W fr σ s T r q=>by
 refine fW q fun a ay q1 q=> ?_
 apply s1 q
 exact wpAny_Return_some (eK (hm A R W fr σ s T _ _ q1) fun v bv z=>⟨v,fr,rfl,z⟩)
theorem afp{p:Pos}:lP X k (eI (ba .none)) (.Return none p):=fun A R W fr σ s T r q=>by
 apply s1 q
 exact wpAny_Return_none ⟨.none,fr,rfl,T.post rfl⟩
theorem afi{p:Pos}:lP X k (fun fr σ=>some (.cont fr σ)) (.Continue p):=fun A R W fr σ s T r q=>by
 apply s1 q
 exact fun _ _ _=>⟨rfl,T.postU⟩
theorem JF{is:ac}{m:EM}{r:kg}{Q:kg->Prop}(e:cV is m fr σ=some r)(k: ∀a ay fr',m fr σ=some (a,ay)->mw is a fr ay=some fr'->Q (.next fr' ay)):Q r:=fW e fun a ay q e=>oE e fun fr' q' e=>by
 apply s1 e;exact k a ay fr' q q'
theorem YZ(O:vn X)(O':Hf X){i:Nat}{x:Str}{m:EM}{e:an}{p p':Pos}(hx:kv X i x)(hm:b8 X k m e)(hc:swapsWith e (some (.Name x p')) p.line X.env=pure false):lP X k (cV [i] m) (.Assign [.Name x p'] e p):=fun A R W fr σ s T r q=>by
 apply JF q;intro a ay fr' q1 q2
 apply s1 q2
 exact wpAny_Assign_Name (hm.go R T q1 fun v bv bn bD bz z=>eK (bz.store O O' hx.1 hx.2 z) fun _ dX cR=>⟨rfl,bn,bD,cR⟩) hc
theorem afc(O:vn X)(O':Hf X){i j:Nat}{is:ac}{ts:List an}{c:Nat}{m:EM}{e:an}{p p':Pos}(N:qi X (i::j::is) ts)(hm:b8 X k m e)(hc:jS e=true)
  (hw:swappedStores [.Tuple ts c p'] e X.env=pure none):lP X k (cV (i::j::is) m) (.Assign [.Tuple ts c p'] e p):=fun A R W fr σ s T r q=>by
 apply JF q;intro a ay fr' q1 q2
 exact Assign_Tuple (hm.go R T q1 fun v bv bn bD bz z=>eK (Lr O O' N A R.handled bn fr ay bv bz a v z fr' q2) fun _ dX cR=>⟨rfl,bn,bD,cR⟩) (show swapsWith e (some (.Tuple ts c p')) p.line X.env=pure false from tE hc) hw
theorem afd(O:vn X)(O':Hf X){i j:Nat}{x y:Str}{ts:List an}{c:Nat}{m:EM}{e:an}{p p':Pos}(hx:kv X i x)(hy:kv X j y)(hij:i≠j)(hm:b8 X k m e)(hc:jS e=true)
  (hw:swappedStores [.Tuple ts c p'] e X.env=pure (some [x,y])):lP X k (cV [i,j] m) (.Assign [.Tuple ts c p'] e p):=fun A R W fr σ s T r q=>by
 apply JF q;intro a ay fr' q1 q2
 refine yM (hm.go R T q1 fun v bv bn bD bz z=> ?_) (show swapsWith e (some (.Tuple ts c p')) p.line X.env=pure false from tE hc) hw
 clear q1
 revert z
 refine KR q2 fun l q2 z=>z.tupE fun x' n vs q r=> ?_
 revert q2
 match l,r with
 |[a,b],⟨v,_,e1,r1,w,_,e2,r2,r3⟩=>
  intro q2
  cases r3;cases e2;cases e1
  refine vm (items:= #[v,w]) R.handled ⟨_,bz.rel.im _ _ q,rfl,n,rfl⟩ fun h' he=> ?_
  have cR:=bz.keeps (fun b o z=>he b o (cu (cz z)) z) bv.toks
  show wpAny _ _ (assignInOrder [bindName X.env y,bindName X.env x] [w,v]) _ _ _
  refine ft (mo (eK (cR.store O O' hy.1 hy.2 r2) fun _ jM jc=>ft (mo (eK (jc.store O O' hx.1 hx.2 r1) fun _ oF ol=>tX ⟨rfl,bn,bD,?_⟩))))
  apply s1 q2
  rw[qv _ _ _ hij];exact ol
 |[],_=>exact fun q2=>nn q2
 |[_],_=>exact fun q2=>nn q2
 |_::_::_::_,_=>exact fun q2=>nn q2
theorem abb(O:vn X)(O':Hf X){i j l:Nat}{x y z:Str}{ts:List an}{c:Nat}{m:EM}{e:an}{p p':Pos}(hx:kv X i x)(hy:kv X j y)(hz:kv X l z)(hij:i≠j)(hil:i≠l)(hjl:j≠l)(hm:b8 X k m e)(hc:jS e=true)
  (hw:swappedStores [.Tuple ts c p'] e X.env=pure (some [x,y,z])):lP X k (cV [i,j,l] m) (.Assign [.Tuple ts c p'] e p):=fun A R W fr σ s T r q=>by
 apply JF q;intro a ay fr' q1 q2
 refine yM (hm.go R T q1 fun v bv bn bD bz pL=> ?_) (show swapsWith e (some (.Tuple ts c p')) p.line X.env=pure false from tE hc) hw
 clear q1
 revert pL
 refine KR q2 fun la q2 pL=>pL.tupE fun x' n vs q r=> ?_
 revert q2
 match la,r with
 |[a,b,d],⟨v,_,e1,r1,w,_,e2,r2,u,_,e3,r3,r4⟩=>
  intro q2
  cases r4;cases e3;cases e2;cases e1
  refine vm (items:= #[v,w,u]) R.handled ⟨_,bz.rel.im _ _ q,rfl,n,rfl⟩ fun h' he=> ?_
  have cR:=bz.keeps (fun b o z=>he b o (cu (cz z)) z) bv.toks
  show wpAny _ _ (assignInOrder [bindName X.env z,bindName X.env y,bindName X.env x] [u,w,v]) _ _ _
  refine ft (mo (eK (cR.store O O' hz.1 hz.2 r3) fun _ jM jc=>ft (mo (eK (jc.store O O' hy.1 hy.2 r2) fun _ oF ol=>ft (mo (eK (ol.store O O' hx.1 hx.2 r1) fun _ sK xM=>tX ⟨rfl,bn,bD,?_⟩))))))
  apply s1 q2
  rw[qv (put fr i a) _ _ hjl,qv fr _ _ hil,qv (put fr l d) _ _ hij];exact xM
 |[],_=>exact fun q2=>nn q2
 |[_],_=>exact fun q2=>nn q2
 |[_,_],_=>exact fun q2=>nn q2
 |_::_::_::_::_,_=>exact fun q2=>nn q2
theorem mW.turn{b:SM}{body:List bW}(hb:mW X k b body)(R:eV A k)(T:St X W fr σ s){kk:SM}{r:kg}(e:ob (b fr σ) (C5 kk)=some r){Q:Od->az->Prop}
  (h1: ∀fr' aj s' W',W.le W'->St X W' fr' aj s'->kk fr' aj=some r->Q .next s'/\Q .cont s')(h2: ∀fr' aj s' W',W.le W'->St X W' fr' aj s'->r= .next fr' aj->Q .brk s')(h3: ∀a aj v fr' s' W',W.le W'->St X W' fr' aj s'->V X.C W' a v->r= .ret a aj->Q (.ret v) s'):
  wpAny (dH X.C) A (execs body X.env) Q dy s:=oE e fun o q e=>eK (hb A R W fr σ s T _ q) fun f bv P=>by
 cases o with
 |next fr' aj=>obtain⟨rfl,W',l,T'⟩:=P;exact(h1 fr' aj bv W' l T' e).1
 |cont fr' aj=>obtain⟨rfl,W',l,T'⟩:=P;exact(h1 fr' aj bv W' l T' e).2
 |brk fr' aj=>obtain⟨rfl,W',l,T'⟩:=P;exact h2 fr' aj bv W' l T' (aI e).symm
 |ret a aj=>obtain⟨v,fr',rfl,W',l,T',z⟩:=P;exact h3 a aj v fr' bv W' l T' z (aI e).symm
def afQ(X:FX)(W:Wd)(c:BM)(b:SM)(r:kg)(n:Nat)(s':az):Prop:= ∃W' fr σ,W.le W'/\St X W' fr σ s'/\Dz c b n fr σ=some r
theorem Zd{R':tR->az->Prop}{c:BM}{b:SM}{r:kg}{n:Nat}{test:an}{body:List bW}(hc:np X k c test)(hb:mW X k b body)(R:eV A k)(hR: ∀f s',Cm X W r f s'->R' (.ok f) s')(h:afQ X W c b r n s):codeAny (dH X.C) A (.whileLoop test body [] X.env) R' s:=by
 refine codeAny_whileLoop (afQ X W c b r) (fun n s' h=> ?_) n h
 refine XG (h) fun W' fr σ l T e=> ?_
 cases n with
 |zero=>exact nn e
 |succ n=>
  refine fW (show bA (c fr σ) (fun t aj=>bif t then ob (b fr aj) (C5 (Dz c b n))else some (.next fr aj))=some r from e) fun t ay q e=>Ld (hc.go R T q fun bv bn bD bz=> ?_)
  have l:=l.trans bD
  cases t with
  |false=>exact oU (hR _ _ (by apply s1 e;exact⟨rfl,bn,l,bz⟩))
  |true=>
   refine Ld (hb.turn R bz e (fun uu aL dX cB dR cR e=> ?_) (fun uu aL dX cB dR cR e=> ?_) fun a aL v uu dX cB dR cR z e=> ?_)
   ·have h: ∃m,m<n+1/\afQ X W c b r m dX:=⟨n,bU _,cB,uu,aL,l.trans dR,cR,e⟩
    exact⟨h,h⟩
   ·exact hR _ _ (by rw[e];exact⟨rfl,cB,l.trans dR,cR⟩)
   ·exact hR _ _ (by rw[e];exact⟨v,uu,rfl,cB,l.trans dR,cR,z⟩)
theorem abf{c:BM}{b:SM}{n:Nat}{test:an}{body:List bW}{p:Pos}(hc:np X k c test)(hb:mW X k b body):lP X k (Dz c b n) (.While test body [] p):=fun A R W fr σ s T r e=>
 wpAny_While (Zd hc hb R (fun _ _ h=>h) ⟨W,fr,σ,.refl _,T,e⟩)
structure iu(X:FX)(W:Wd)(σ:AS)(I:aC)(l:List AV)(i:Nat)(h:bM)(S:Nat->bM->Prop)(fp:List aC)(P:Nat->ah->Prop):Prop where
 it: ∃pg,xu X W σ I l pg S fp P
 at_:S i h
 loose:ip X W σ I
theorem PL{α:Type}{l:List α}{i:Nat}{a:α}{r:List α}(h:l.drop i=a::r):i<l.length/\r=l.drop (i+1):=by
 refine⟨?_,?_⟩
 ·rcases oO i l.length with z|z
  ·exact z
  ·rw[ic z]at h;cases h
 ·have:=congrArg (Bw 1) h
  rw[p9]at this
  exact this.symm
theorem iu.item{I:aC}{l:aa}{i:Nat}{S:Nat->bM->Prop}{fp:List aC}{P:Nat->ah->Prop}(w:iu X W σ I l i s.heap S fp P)(T:St X W fr σ s)(hA:A.handled=none){a:AV}{r:aa}(e:l.drop i=a::r)
  {Q:Option ah->az->Prop}(h: ∀v s',St X W fr σ s'->iu X W σ I l (i+1) s'.heap S fp P->V X.C W a v->(∀b o,b≠I->s.heap.get? b=some o->s'.heap.get? b=some o)->Q (some v) s'):wpAny (dH X.C) A (pyNext (.ref I)) Q dy s:=by
 obtain⟨⟨pg,It⟩,st,L⟩:=w
 have hi:=(PL e).1
 have hg:l[i]? =some a:=by
  have:(l.drop i)[0]? =some a:=by rw[e];rfl
  rwa[q9]at this
 refine Wl (ax s.toks) ?_
 refine(It.walks A hA).item i s _ _ hi st fun v h' tk hP hS hk=>fun ht=> ?_
 refine fg (It.val i v hi hP) fun a' e1 q=> ?_
 rw[hg]at e1;cases e1
 exact h v _ (T.but L (fun b o hb=>hk b o (by simpa using hb)) tk ht) ⟨⟨pg,It⟩,hS,L⟩ q fun b o hb=>hk b o (by simpa using hb)
theorem iu.done{I:aC}{l:aa}{i:Nat}{S:Nat->bM->Prop}{fp:List aC}{P:Nat->ah->Prop}(w:iu X W σ I l i s.heap S fp P)(T:St X W fr σ s)(hA:A.handled=none)(hl:i<=l.length)(e:l.drop i=[])
  {Q:Option ah->az->Prop}(h: ∀s',St X W fr σ s'->(∀b o,b≠I->s.heap.get? b=some o->s'.heap.get? b=some o)->Q none s'):wpAny (dH X.C) A (pyNext (.ref I)) Q dy s:=by
 obtain⟨⟨pg,It⟩,st,L⟩:=w
 have hi:i=l.length:=by
  exact vy hl (oM.mp e)
 subst hi
 refine Wl (ax s.toks) ?_
 exact(It.walks A hA).done s _ _ st fun h' tk hk=>fun ht=>h _ (T.but L (fun b o hb=>hk b o (by simpa using hb)) tk ht) fun b o hb=>hk b o (by simpa using hb)
theorem iu.pin{I:aC}{l:aa}{i:Nat}{S:Nat->bM->Prop}{fp:List aC}{P:Nat->ah->Prop}(w:iu X W σ I l i s.heap S fp P)(T:St X W fr σ s):
  ∃o,St X (W.pin I o) fr σ s/\ ∀{bn:Wd} {fr':Fm} {aj:AS} {s':az},(W.pin I o).le bn->St X bn fr' aj s'->W.le {bn with pr:=W.pr}/\St X {bn with pr:=W.pr} fr' aj s'/\iu X {bn with pr:=W.pr} aj I l i s'.heap S fp P:=by
 obtain⟨⟨pg,It⟩,st,L⟩:=w
 refine agK (It.obj i _ st) fun o n ho _ _=> ?_
 refine⟨o,T.pin L ho,fun{bn fr' aj s'} bD bz=> ?_⟩
 refine XD (St.unpin bD L bz) fun le cR e BV=> ?_
 refine⟨le,cR,⟨pg,⟨It.walks,It.st,(It.mono le).fp,(It.mono le).val,It.obj⟩⟩,(It.walks {} rfl).frame i _ _ st fun b hb o' e'=> ?_,BV⟩
 rcases It.fp b hb with rfl|⟨oo,z⟩
 ·rw[ho]at e';cases e';exact e
 ·have z1:=T.rel.im _ _ z
  rw[e']at z1;cases z1
  exact cR.rel.im _ _ (le.2.1 _ _ z)
theorem iu.go{I:aC}{l:aa}{i:Nat}{S:Nat->bM->Prop}{fp:List aC}{P:Nat->ah->Prop}(w:iu X W σ I l i s.heap S fp P){v:ah}{Q:Unit->az->Prop}{t:an}(hq:Q () s):
  wpAny (dH X.C) A (letOwnedTupleGo t (.ref I) v) Q dy s:=by
 obtain⟨⟨pg,It⟩,st,L⟩:=w
 refine agK (It.obj i _ st) fun o n ho hc hn=> ?_
 have key:wpAny (dH X.C) A (do
   let(.ref r,.ref a):=(og I,v)|return
   let o <- load r
   match o.cls,o.data with
   | .type n,.fields vs=>
    if["enumerate","zip","dict_itemiterator","dict_reverseitemiterator","odict_iterator","itertools.zip_longest","itertools.pairwise"].contains n&&vs[0]? ==some (rawInt a)then
     rule "for.unpacks-the-owned-tuple"
     updateField r 0 .none
   |_,_=>pure ():Sem Unit) Q dy s:=by
  cases v with
  |ref a=>
   refine aq (wpAny_load ho ?_)
   rw[hc]
   cases hd:o.data with
   |fields vs=>
    dsimp only
    rw[hn,Bool.false_and,if_neg (by decide)]
    exact aM hq
   |_=>exact aM hq
  |_=>exact aM hq
 unfold letOwnedTupleGo
 cases t<;>first|exact aM hq|exact key
def afI(X:FX)(W:Wd)(is:ac)(b:SM)(I:aC)(l:aa)(S:Nat->bM->Prop)(fp:List aC)(P:Nat->ah->Prop)(r:kg)(n:Nat)(s':az):Prop:= ∃i W' fr σ,n=l.length-i/\i<=l.length/\W.le W'/\St X W' fr σ s'/\iu X W' σ I l i s'.heap S fp P/\pH is b (l.drop i) fr σ=some r
theorem Y6{n i:Nat}(h:i<n):n-(i+1)<n-i:=Nat.sub_lt_sub_left h (bU i)
theorem ad5{R':tR->az->Prop}{is:ac}{b:SM}{tg:an}{body:List bW}{I:aC}{l:aa}{S:Nat->bM->Prop}{fp:List aC}{P:Nat->ah->Prop}{r:kg}(ht:SW X is tg)(hb:mW X k b body)(R:eV A k)(hR: ∀f s',Cm X W r f s'->R' (.ok f) s'){n:Nat}(h:afI X W is b I l S fp P r n s):codeAny (dH X.C) A (.forLoop tg (.ref I) body [] X.env) R' s:=by
 refine codeAny_forLoop_any (afI X W is b I l S fp P r) (fun n s' h=> ?_) n h
 obtain⟨i,W',fr,σ,rfl,hl,le,T,w,e⟩:=h
 cases hd:l.drop i with
 |nil=>
  rw[hd]at e
  exact Ld (w.done T R.handled hl hd fun s' T' _=>oU (hR _ _ (by apply s1 e;exact⟨rfl,W',le,T'⟩)))
 |cons a r'=>
  rw[hd]at e
  obtain⟨hi',hr⟩:=PL hd
  refine oE (show ob (mw is a fr σ) (fun gY=>ob (b gY σ) (C5 (pH is b r')))=some r from e) fun gY q3 e=>Ld (w.item T R.handled hd fun v jM jc an6 Zh _=>Ld (an6.go ?_))
  refine fg (an6.pin jc) fun o ol back=> ?_
  refine Ld (eK (ht A R.handled _ fr σ jM ol a v (Zh.pr rfl rfl) gY q3) fun _ oF xM=>Ld (hb.turn R xM e (fun uu cO sK IU Qv Ma e=> ?_) (fun uu cO sK IU Qv Ma e=> ?_) fun a cO v uu sK IU Qv Ma alF e=> ?_))
  ·obtain⟨le7,T7,w7⟩:=back Qv Ma
   have h: ∃m,m<l.length-i/\afI X W is b I l S fp P r m sK:=⟨l.length-(i+1),Y6 hi',i+1,_,uu,cO,rfl,hi',le.trans le7,T7,w7,hr▸e⟩
   exact⟨h,h⟩
  ·obtain⟨le7,T7,w7⟩:=back Qv Ma
   exact hR _ _ (by rw[e];exact⟨rfl,_,le.trans le7,T7⟩)
  ·refine uj (back Qv Ma) fun le7 T7 w7=> ?_
   exact hR _ _ (by rw[e];exact⟨v,uu,rfl,_,le.trans le7,T7,alF.pr rfl rfl⟩)
theorem akP{is:ac}{it:EM}{b:SM}{tg ie:an}{body:List bW}{p:Pos}(hi:b8 X k it ie)(ht:SW X is tg)(hb:mW X k b body)(hs: ∀x,foldedSetIterable ie X.env x=pure x):lP X k (gG is it b) (.For tg ie body [] p):=fun A R W fr σ s T r e=>by
 refine fW e fun a ay q1 e=>fW e fun l aL q2 e=>wpAny_For (hi.go R T q1 fun v bv bn bD bz pL=>eK (vZ bz q2 pL) fun it dX z=>z.elim fun I cB S fp P dR cR BV It=> ?_) hs
 exact ad5 ht hb R (fun _ _ h=>h) ⟨0,cB,fr,aL,rfl,aS _,bD.trans dR,cR,⟨⟨_,It⟩,It.st,BV⟩,e⟩
end
end
end
section
open PySem.SeqAt
noncomputable section
section
variable{X:FX}{k:Nat}{W W':Wd}{fr fr':Fm}{σ aj:AS}{s s':az}{A:b6}{h h':bM}{C:PC}
theorem aj6{K:dL}{prog:gg}{w:d5}{E:ah->az->Prop}{x c d:aC}{es es':List ik}{n n':Nat}{name:Str}{v:ah}{Q:Unit->az->Prop}(X:K.In s.heap)(hx:s.heap.get? x=some (instObj c d))(hd:s.heap.get? d=some (dictOf es n))
  (hs:findIn K (.ref c) "__setattr__"=some (some (.builtin "object.__setattr__")))(hp:plainOver K c=true)(ht:takerIn K c name=some none)(hh:hasDictIn K c=true)(hl:(getL name es).isSome=true)
  (e:(putL name (qa w.params name) (.str name (s.toks+1)) v es,putN name es n)=(es',n'))(hz:es'.length<=1000)
  (h: ∀h',h'.get? d=some (dictOf es' n')->i9 d s.heap h'->Q () {s with heap:=h',toks:=s.toks+2}):
  wpAny (model prog w) A (setAttr (.ref x) name v) Q E s:=by
 obtain⟨e1,e2⟩:=cL e
 have I:InstAt s.heap x (instObj c d) c (some (dictOf es n)):=⟨hx,rfl,rfl,hd⟩
 refine LW X I hs (osa_open (s:={s with toks:=s.toks+1}) X I hp ht fun b=> ?_)
 refine fg (any_some hh) fun cd hc hd'=> ?_
 refine aq (aM (aq (aq (qc hx (aq (wC X hc _ _ _ _ (fun _ _ e=>e) ?_))))))
 rw[hd']
 refine aM (a:=some d) (aq (aM (aq ?_)))
 unfold nsSet
 refine aq (aq (GV (aM (aq (wpAny_mkText (aq (qc hd ?_)))))))
 have c0:(!es.toArray.any (·.key.isStr name)&&es.toArray.any (·.refKey))=false:=by
  rw[<- GA,<- GA]
  unfold getL at hl
  split at hl
  ·rename_i en he
   rw[kn.mpr ⟨en,List.mem_of_find?_eq_some he,List.find?_some he⟩];rfl
  ·split at hl
   ·cases hl
   ·rename_i z;rw[Bool.not_eq_true]at z;rw[z,Bool.and_false]
 dsimp only
 rw[aRefKeyMayBeTheName_at,c0]
 have hf:Ry name (qa w.params name) (.str name (s.toks+1)) v (dictOf es n)=dictOf es' n':=by rw[putName_dict,e1,e2]
 have D':(s.heap.update d (Ry name (qa w.params name) (.str name (s.toks+1)) v)).get? d=some (dictOf es' n'):=by
  rw[<- hf];exact jW _ hd (by rw[hf];rfl)
 refine wpAny_updatePart hd ?_
 refine aq (GX D' (GS (by rw[aZ,jG];omega)) ?_)
 exact aM (h _ D' (jj ..))
theorem HC: ∀{ks:ac} {vs:List ah} {es:List ik},oX C ks vs es->(∀e∈es,e.refKey=false)/\es.length=ks.length:=by
 intro ks
 induction ks with
 |nil=>intro vs es q;cases vs with
  |nil=>cases es with
   |nil=>exact⟨fun e he=>(by cases he),rfl⟩
   |cons=>exact q.elim
  |cons=>exact q.elim
 |cons k ks ih=>intro vs es q;cases vs with
  |nil=>exact q.elim
  |cons v vs=>cases es with
   |nil=>exact q.elim
   |cons en es=>
    obtain⟨_,⟨t,ht⟩,_,q⟩:=q
    obtain⟨h1,h2⟩:=ih q
    refine⟨fun e he=> ?_,congrArg _ h2⟩
    rcases aH.mp he with rfl|he
    ·unfold GC;rw[ht]
    ·exact h1 e he
theorem X8(q:oX C ks vs es)(name:Str):(getL name es).isSome=true:=by
 unfold getL
 split
 ·rfl
 ·rw[if_neg];rfl
  intro h
  obtain⟨e,he,h⟩:=kn.mp h
  rw[(HC q).1 e he]at h;cases h
theorem aa4{x kk:Nat}(hx:x<C.nf)(hk:kk<C.nf){hsh:Int}{t u:Tok}{v:ah}{en:ik}{es:List ik}(hu:en.key= .str (C.fname x) u):putL (C.fname kk) hsh (.str (C.fname kk) t) v (en::es)=if kk=x then{en with val:=v}::es else en::putL (C.fname kk) hsh (.str (C.fname kk) t) v es:=by
 by_cases h:kk=x
 ·subst h
  rw[if_pos rfl,putL,if_pos (by rw[hu];simp[kU])]
 ·rw[if_neg h,putL,if_neg]
  rw[hu]
  have:C.fname x≠C.fname kk:=fun q=>h (C.fnameInj _ _ hx hk q).symm
  simp[kU,this]
theorem aj4{kk:Nat}(hk:kk<C.nf){a:AV}{v:ah}{hsh:Int}{t:Tok}(hv:V C W a v): ∀{ks:ac} {fs:aa} {vs:List ah} {es:List ik},VL C W fs vs->oX C ks vs es->
  ∃vs',VL C W (Mu kk a ks fs).2 vs'/\oX C (Mu kk a ks fs).1 vs' (putL (C.fname kk) hsh (.str (C.fname kk) t) v es):=by
 intro ks
 induction ks with
 |nil=>
  intro fs vs es hf q
  cases vs with
  |nil=>cases es with
   |nil=>exact⟨[v],⟨v,[],rfl,hv,rfl⟩,hk,⟨t,rfl⟩,rfl,trivial⟩
   |cons=>exact q.elim
  |cons=>exact q.elim
 |cons x ks ih=>
  intro fs vs es hf
  cases fs with
  |nil=>exact hf.nilE fun q=>q.elim
  |cons b fs=>
   refine hf.consE fun w r h1 h2 q=> ?_
   cases es with
   |nil=>exact q.elim
   |cons en es=>
    obtain⟨hx,⟨u,hu⟩,rfl,q⟩:=q
    rw[aa4 hx hk hu,aj5,gm]
    by_cases z:kk=x
    ·rw[if_pos z,decide_eq_true z]
     exact⟨v::r,⟨v,r,rfl,hv,h2⟩,hx,⟨u,hu⟩,rfl,q⟩
    ·rw[if_neg z,decide_eq_false z]
     refine fg (ih h2 q) fun vs' i1 i2=> ?_
     exact⟨en.val::vs',⟨_,_,rfl,h1,i1⟩,hx,⟨u,hu⟩,rfl,i2⟩
theorem QR(T:St X W fr σ s){kk:Nat}(hk:kk<X.C.nf){a o:AV}(e:oy kk a o σ=some aj){v ov:ah}(hv:V X.C W a v)(ho:V X.C W o ov):
  wpAny (dH X.C) A (setAttr ov (X.C.fname kk) v) (fun _ s'=>St X W fr aj s') dy s:=by
 revert ho
 refine iD e fun x e ho=>instE e fun c ks fs hg e=>kS (show(bif cJ (Mu kk a ks fs).1.length 1000&& !S6 c kk then some (σ.set x (.inst c (Mu kk a ks fs).1 (Mu kk a ks fs).2))else none)=some aj from e) fun z e=> ?_
 apply s1 e
 obtain⟨z1,z2⟩:=bk.mp z
 refine T.rel.instE hg ho fun p es n vs q q0 q1 q2 r q3=> ?_
 refine aqs (Me (X.C.attr c kk q0 hk (by rwa[ej]at z2))) fun p1 p2 _ p4 p5 p6=> ?_
 refine fg (aj4 (W:=W) hk (hsh:=qa X.C.w.params (X.C.fname kk)) (t:=s.toks+1) hv r q3) fun vs' i1 i2=> ?_
 refine aj6 T.rel.K (T.rel.im _ _ q1) q2 p4 p5 p6 p2 (X8 q3 _) rfl (by rw[(HC i2).2];exact av z1) fun h' h1 h2=> ?_
 exact T.set (c:=.inst c _ _) hg q h2 ⟨q0,q1,_,_,vs',h1,i1,i2⟩ _
theorem DE{e:an}{o:an}{x:Str}{p:Pos}{l:Nat}{env:Env}:swapsWith e (some (.Attribute o x p)) l env=pure false:=by
 unfold swapsWith
 show(match qp e with|some scope=>pure false|x=>pure false)=_
 cases qp e<;>rfl
theorem abm{e:an}{o x:an}{p:Pos}{l:Nat}{env:Env}:swapsWith e (some (.Subscript o x p)) l env=pure false:=by
 unfold swapsWith
 show(match qp e with|some scope=>pure false|x=>pure false)=_
 cases qp e<;>rfl
theorem ae9{kk:Nat}{o m:EM}{oe e:an}{p ap:Pos}(hk:kk<X.C.nf)(hm:b8 X k m e)(ho:b8 X k o oe):lP X k (l4 kk o m) (.Assign [.Attribute oe (X.C.fname kk) ap] e p):=fun A R W fr σ s T r q=>by
 refine fW q fun a ay q1 q=>fW q fun x aL q2 q=>oE q fun cO q3 q=> ?_
 apply s1 q
 refine jk (hm.go R T q1 fun v bv bn bD bz pL=>ho.go R bz q2 fun ov dX cB dR cR MM=> ?_) DE
 exact eK (QR cR hk q3 (pL.mono dR) MM) fun _ jM jc=>⟨rfl,cB,bD.trans dR,jc⟩
theorem V2{prog:gg}{w:d5}{E:ah->az->Prop}{l:aC}{vs:List ah}{n:Nat}{k:Int}{t:Tok}{v:ah}{Q:Unit->az->Prop}(hl:s.heap.get? l=some (dz vs n))(h0:0<=k)(hfit:k<2^63)(hn:k<vs.length)
  (hQ: ∀h' n',h'.get? l=some (dz (vs.set k.toNat v) n')->i9 l s.heap h'->Q () {s with heap:=h'}):wpAny (model prog w) A (setItem (.ref l) (.int k t) v) Q E s:=by
 have hl':=lX hl
 unfold setItem
 refine dJ ?_
 refine aq (wpAny_sequenceKey hl'.typeIs (by decide) ?_)
 refine aq (wpAny_callSpecial?_slot (name:=lJ "__setitem__") hl'.typeIs Fp
  (wpAny_call_entry Fp hl'.typeIs entry_list_setitem ?_ (args_list_setitem _ _ _)))
 show wpAny _ _ (LQ (.int k t)>>=_) _ _ s
 refine aq (wpAny_listSubscript_int (fitsIndex_of h0 hfit) ?_)
 clear hfit
 obtain⟨j,rfl⟩:=vg h0
 have hn:j<vs.length:=by omega
 have hx':vs.toArray[j]? =some vs[j]:=by simp[hn]
 show wpAny _ _ ((seqItemAt l j>>=fun r=>pure (r.map (j,·)))>>=_) _ _ s
 refine aq (aq (wpAny_seqItemAt hl rfl (aM ?_)))
 rw[hx']
 show wpAny _ _ (setSeqItemAt l j v>>=_) _ _ s
 obtain⟨n',hd'⟩:=Obj.data_mapSeq (o:=dz vs n) rfl (·.setIfInBounds j v)
 have hfin:(s.heap.update l (Ik (·.setIfInBounds j v))).get? l=some (dz (vs.set j v) n'):=by
  rw[jW (Ik (·.setIfInBounds j v)) hl (Obj.isFreed_of_seq hd')]
  have: ∀o:Obj,o.cls= .type "list" ->o.dict=none->o.slots= #[]->o.data= .seq (vs.toArray.setIfInBounds j v) n'->o=dz (vs.set j v) n':=by
   rintro⟨c,d,da,sl⟩ rfl rfl rfl h
   have h:da=_:=h
   rw[h]
   simp[dz]
  rw[this _ (Obj.cls_mapSeq ..) (by rfl) (by rfl) hd']
 refine aq (wpAny_setSeqItemAt hl rfl ?_)
 first
  |exact aq (aM (aM ⟨.none,rfl,aM (hQ _ _ hfin (jj ..))⟩))
  |exact aM ⟨.none,rfl,aM (hQ _ _ hfin (jj ..))⟩
theorem aa7: ∀(l:aa) (i:Nat) (v:AV),N8 l i v=l.set i v:=by
 intro l
 induction l with
 |nil=>intro i v;rfl
 |cons a r ih=>intro i v;cases i with
  |zero=>rfl
  |succ i=>exact congrArg (a:: ·) (ih i v)
theorem XN{a b:ac}:dp a b=decide (aO a=aO b):=by
 have:=qA (a:=a) (b:=b)
 rw[<- this]
 by_cases q:aO a=aO b<;>simp[q]
theorem Wb{x p:Str}{w v:ah}{l:List (Str×ah)}(hN:x∉l.map (·.1)):stored ((x,w)::l) p v=if x=p then(x,v)::l else(x,w)::stored l p v:=by
 unfold stored
 by_cases z:x=p
 ·subst z
  rw[if_pos rfl,if_pos (by simp)]
  simp only[bj,if_true,vw,true_and]
  rw[f8 (g:=id),List.map_id]
  intro q hq
  exact if_neg fun e=>hN (dD.mpr ⟨q,hq,e⟩)
 ·rw[if_neg z]
  simp only[rI,z,decide_false,Bool.false_or,bj,if_false]
  split<;>rfl
theorem Z3(k:ac)(v:AV)(x:ac)(ks:List (List Nat))(w:AV)(vs:aa):qO k v (x::ks) (w::vs)=bif dp x k then(x::ks,v::vs)else(x::(qO k v ks vs).1,w::(qO k v ks vs).2):=rfl
theorem Z2{kk:ac}{a:AV}{v:ah}(hv:V C W a v): ∀{ks:List (List Nat)} {fs:aa} {vs:List ah},VL C W fs vs->ks.length=vs.length->(((ks.map aO).zip vs).map (·.1)).Nodup->
  ∃vs',VL C W (qO kk a ks fs).2 vs'/\(qO kk a ks fs).1.length=vs'.length/\stored ((ks.map aO).zip vs) (aO kk) v=((qO kk a ks fs).1.map aO).zip vs':=by
 intro ks
 induction ks with
 |nil=>
  intro fs vs hf hl hN
  cases vs with
  |nil=>exact⟨[v],⟨v,[],rfl,hv,rfl⟩,rfl,rfl⟩
  |cons=>cases hl
 |cons x ks ih=>
  intro fs vs hf hl
  cases fs with
  |nil=>rw[show vs=[] from hf]at hl;cases hl
  |cons b fs=>
   revert hl
   refine hf.consE fun w r h1 h2 hl hN=> ?_
   rw[bj,bQ,bj,dT]at hN
   have hl:=jZ hl
   rw[bj,bQ,Wb hN.1,Z3,XN]
   by_cases z:aO x=aO kk
   ·rw[if_pos z,decide_eq_true z]
    exact⟨v::r,⟨v,r,rfl,hv,h2⟩,congrArg _ hl,rfl⟩
   ·rw[if_neg z,decide_eq_false z]
    refine uk (ih h2 hl hN.2) fun vs' i1 i2 i3=> ?_
    exact⟨w::vs',⟨w,vs',rfl,h1,i1⟩,congrArg _ i2,congrArg ((aO x,w):: ·) i3⟩
theorem QS(T:St X W fr σ s){a o i:AV}(e:Lm a o i σ=some aj){v ov iv:ah}(hv:V X.C W a v)(ho:V X.C W o ov)(hi:V X.C W i iv):
  wpAny (dH X.C) A (setItem ov iv v) (fun _ s'=>St X W fr aj s') dy s:=by
 revert ho
 refine iD e fun x e ho=>oE e fun c hg e=> ?_
 revert hi
 cases c<;>first|exact fun _=>nn e|skip
 ·refine lz (show(m7 i fun n=>bif dj n&&bc n (nh _)then some (σ.set x (.lst (N8 _ n a)))else none)=some aj from e) fun n e hi=>kS e fun z e=> ?_
  apply s1 e
  obtain⟨z1,z2⟩:=bk.mp z
  have z1:=jT z1
  have z2:=cC.mp z2
  refine hi.intE fun t=>T.rel.lstE hg ho fun p vs n' q q0 q2 r=> ?_
  rw[q0]at q2 ⊢
  refine V2 (k:=ai n) q2 (dr n) (Bu (Og.mpr z1) (by decide)) (by rw[r.length];exact il.mpr z2) fun h' art h1 h2=> ?_
  exact T.set (c:=.lst _) hg q h2 ⟨q0,_,_,h1,by rw[aa7];exact r.set hv⟩ _
 ·rename_i ks fs
  refine fh (show(eg i fun k=>bif dj ks.length then some (σ.set x (.dct (qO k a ks fs).1 (qO k a ks fs).2))else none)=some aj from e) fun kk e hi=>kS e fun z e=> ?_
  apply s1 e
  refine hi.strE fun t=>T.rel.dctE hg ho fun p oo vs q q0 q1 q2 r q4=> ?_
  rw[q0]at q1 q2 ⊢
  obtain⟨q3,es,ep,w1,w2,w3,w4,w5⟩:=q4
  refine uk (Z2 (kk:=kk) hv r q3 w5) fun vs' i1 i2 i3=> ?_
  refine wpAny_setItem_pairs (knd:=rK X.C.prog X.C.w) (k:=aO kk) (kvs:=(ks.map aO).zip vs) (tQ X.C.prog X.C.w (aO kk) t) ⟨oo,es,ep,q2,w1,w2,w3,w4,w5⟩ (fun h' h1 h2=> ?_) ?_
  ·refine XF (h1) fun oo' es' ep' g w=> ?_
   rw[i3]at w
   exact T.set (c:=.dct _ _) hg q h2 ⟨q0,q1,oo',vs',g,i1,i2,es',ep',w⟩ _
  ·have:=i6 z
   simp;omega
theorem afb{o i m:EM}{oe ie e:an}{p ap:Pos}(hm:b8 X k m e)(ho:b8 X k o oe)(hi:b8 X k i ie):lP X k (QO o i m) (.Assign [.Subscript oe ie ap] e p):=fun A R W fr σ s T r q=>by
 refine fW q fun a ay q1 q=>fW q fun x aL q2 q=>fW q fun y cO q3 q=>oE q fun vf q4 q=> ?_
 apply s1 q
 refine wpAny_Assign_Subscript (hm.go R T q1 fun v bv bn bD bz pL=>ho.go R bz q2 fun ov dX cB dR cR MM=>hi.go R cR q3 fun iv jM xN hH jc Zh=> ?_) abm
 exact eK (QS jc q4 ((pL.mono dR).mono hH) (MM.mono hH) Zh) fun _ oF ol=>⟨rfl,xN,bD.trans (dR.trans hH),ol⟩
end
end
end
section
open PySem.SeqAt
noncomputable section
section
variable{X:FX}{k:Nat}{W W' W'':Wd}{fr fr':Fm}{σ aj eW:AS}{s s':az}{A:b6}{h h':bM}{C:PC}
structure Gh(W:Wd)(σ:AS)(W':Wd)(aj:AS):Prop where
 le:W.le W'
 ρ:W'.ρ=W.ρ
 im: ∀b o,W.im b=none->W'.im b=some o-> ∃a c p,σ.get a=some c/\W.ρ a=some p/\p.2=b
 sub: ∀a c,aj.get a=some c->σ.get a=some c
theorem Gh.refl(W:Wd)(σ:AS):Gh W σ W σ:=⟨.refl _,rfl,fun _ _ e e'=>(by rw[e]at e';cases e'),fun _ _ e=>e⟩
theorem Gh.trans(g:Gh W σ W' aj)(g':Gh W' aj W'' eW):Gh W σ W'' eW:=by
 refine⟨g.le.trans g'.le,g'.ρ.trans g.ρ,fun b o e e'=> ?_,fun a c e=>g.sub _ _ (g'.sub _ _ e)⟩
 cases q:W'.im b with
 |some o'=>exact g.im b o' e q
 |none=>
  refine XG (g'.im b o q e') fun a c p h1 h2 h3=> ?_
  exact⟨a,c,p,g.sub _ _ h1,by rw[<- g.ρ];exact h2,h3⟩
theorem pS.ghost(F:pS X W fr σ h)(g:Gh W σ W' aj):pS X W' fr aj h:=
 F.turn g.le (fun b o e e' hb=>let⟨a,c,p,h1,h2,h3⟩:=g.im b o e e';F.apart b hb a c p h1 h2 h3) (fun c hc a cc p e e'=>F.apart c hc a cc p (g.sub _ _ e) (by rw[<- g.ρ];exact e')) fun _ _ _ e=>e
theorem cD.ghost1(R:cD C W σ h){a:Nat}{c:bJ}{p:aC×aC}{o:Obj}(hg:σ.get a=some c)(hp:W.ρ a=some p)(ho:h.get? p.2=some o):Gh W σ (W.addIm p.2 o) (σ.drop a)/\cD C (W.addIm p.2 o) (σ.drop a) h:=by
 refine⟨⟨Wd.le_addIm fun o' e=>by have:=R.im _ _ e;rw[ho]at this;exact(aI this).symm,rfl,fun b o' e e'=> ?_,fun b cb e=> ?_⟩,R.freeze hg hp ho⟩
 ·have e':(if b=p.2 then some o else W.im b)=some o':=e'
  by_cases q:b=p.2
  ·exact⟨a,c,p,hg,hp,q.symm⟩
  ·rw[if_neg q,e]at e';cases e'
 ·rw[AS.get_drop]at e
  split at e
  ·cases e
  ·exact e
def Frz(C:PC)(h:bM)(f:AV->AS->AV×AS):Prop:= ∀W σ a v,cD C W σ h->V C W a v-> ∃W',Gh W σ W' (f a σ).2/\cD C W' (f a σ).2 h/\V C W' (f a σ).1 v
theorem CN{f:AV->AS->AV×AS}(hf:Frz C h f): ∀(l:aa) (W:Wd) (σ:AS) (vs:List ah),cD C W σ h->VL C W l vs->
  ∃W',Gh W σ W' (pW f l σ).2/\cD C W' (pW f l σ).2 h/\VL C W' (pW f l σ).1 vs:=by
 intro l
 induction l with
 |nil=>exact fun W σ vs R q=>⟨W,.refl _ _,R,q⟩
 |cons a l ih=>
  intro W σ vs R q
  refine q.consE fun v r q1 q2=> ?_
  refine uk (hf W σ a v R q1) fun bn g1 R1 z1=> ?_
  refine uk (ih bn (f a σ).2 r R1 (q2.mono g1.le)) fun cB g2 R2 z2=> ?_
  exact⟨cB,g1.trans g2,R2,v,r,rfl,z1.mono g2.le,z2⟩
theorem Mp{sel:Nat->Bool}{f:AV->AS->AV×AS}(hf:Frz C h f): ∀(ks:ac) (l:aa) (W:Wd) (σ:AS) (vs:List ah),cD C W σ h->VL C W l vs->
  ∃W',Gh W σ W' (TM sel f ks l σ).2/\cD C W' (TM sel f ks l σ).2 h/\VL C W' (TM sel f ks l σ).1 vs:=by
 intro ks
 induction ks with
 |nil=>intro l W σ vs R q;cases l<;>exact⟨W,.refl _ _,R,q⟩
 |cons kk ks ih=>
  intro l W σ vs R q
  cases l with
  |nil=>exact⟨W,.refl _ _,R,q⟩
  |cons a l=>
   refine q.consE fun v r q1 q2=> ?_
   have h1: ∃W',Gh W σ W' (bif sel kk then f a σ else(a,σ)).2/\cD C W' (bif sel kk then f a σ else(a,σ)).2 h/\V C W' (bif sel kk then f a σ else(a,σ)).1 v:=by
    cases sel kk
    ·exact⟨W,.refl _ _,R,q1⟩
    ·exact hf W σ a v R q1
   refine uk (h1) fun bn g1 R1 z1=> ?_
   refine uk (ih l bn _ r R1 (q2.mono g1.le)) fun cB g2 R2 z2=> ?_
   exact⟨cB,g1.trans g2,R2,v,r,rfl,z1.mono g2.le,z2⟩
theorem XV{sel:Nat->Bool}{f:AV->AS->AV×AS}(hf:Frz C h f){x:Nat}{c:bJ}(R:cD C W σ h)(hg:σ.get x=some c){v:ah}(q:V C W (.ref x) v): ∃W',Gh W σ W' (Tl f sel x σ c).2/\cD C W' (Tl f sel x σ c).2 h/\V C W' (Tl f sel x σ c).1 v:=by
 cases c with
 |lst l=>
  refine R.lstE hg q fun p vs m hp q0 q2 r=> ?_
  rw[q0]at q2 ⊢
  obtain⟨g,R1⟩:=R.ghost1 hg hp q2
  refine uk (CN hf l _ _ vs R1 (r.mono g.le)) fun cB g2 R2 z2=> ?_
  exact⟨cB,g.trans g2,R2,p.2,m,vs,rfl,g2.le.2.1 _ _ kX,z2⟩
 |inst c ks fs=>
  refine R.instE hg q fun p es m vs hp q0 q1 q2 r q3=> ?_
  obtain⟨g,R1⟩:=R.ghost1 hg hp q2
  refine uk (Mp (sel:=sel) hf ks fs _ _ vs R1 (r.mono g.le)) fun cB g2 R2 z2=> ?_
  exact⟨cB,g.trans g2,R2,p.1,p.2,es,m,vs,rfl,q0,g2.le.2.1 _ _ (g.le.2.1 _ _ q1),g2.le.2.1 _ _ kX,z2,q3⟩
 |dct ks fs=>
  refine R.dctE hg q fun p oo vs hp q0 q1 q2 r q3=> ?_
  rw[q0]at q1 q2 ⊢
  obtain⟨g,R1⟩:=R.ghost1 hg hp q2
  refine uk (CN hf fs _ _ vs R1 (r.mono g.le)) fun cB g2 R2 z2=> ?_
  exact⟨cB,g.trans g2,R2,p.2,oo,vs,rfl,q1,g2.le.2.1 _ _ kX,z2,q3⟩
 |orc=>exact⟨W,.refl _ _,R,trivial⟩
theorem CM{sel:Nat->Bool}(n:Nat):Frz C h (ur sel n):=by
 induction n with
 |zero=>exact fun W σ a v R q=>⟨W,.refl _ _,R,q⟩
 |succ n ih=>
  intro W σ a v R q
  by_cases ha: ∃x,a= .ref x
  ·obtain⟨x,rfl⟩:=ha
   have hd:ur sel (n+1) (.ref x) σ=bp (motive:=fun _=>AV×AS) (.opq,σ) (fun c=>Tl (ur sel n) sel x σ c) (σ.get x):=rfl
   rw[hd]
   cases hg:σ.get x with
   |none=>exact⟨W,.refl _ _,R,trivial⟩
   |some c=>exact XV (sel:=sel) ih R hg q
  ·have:ur sel (n+1) a σ=(a,σ):=by
    cases a<;>first|rfl|exact absurd ⟨_,rfl⟩ ha
   rw[this]
   exact⟨W,.refl _ _,R,q⟩
theorem CL(n:Nat):Frz C h (jL n):=CM n
theorem St.ghost(T:St X W fr σ s)(g:Gh W σ W' aj)(R:cD X.C W' aj s.heap):St X W' fr aj s:=⟨R,T.fr.ghost g,T.sm⟩
theorem aeD: ∀(fr:Fm) (i:Nat) (a b:AV) (j:Nat) (c:AV),fr[i]? =some a->(put fr i b)[j]? =some c->(j=i/\c=b)\/(j≠i/\fr[j]? =some c):=fun fr i a b j c e e'=>by
 rcases yc fr i b j c e' with h|⟨h1,h2|h2⟩
 ·exact .inl h
 ·exact .inr ⟨h1,h2⟩
 ·subst h2
  refine .inr ⟨h1,?_⟩
  revert i j e e' h1
  induction fr with
  |nil=>intro i j e;cases e
  |cons x r ih=>
   intro i j e h1 e'
   cases i with
   |zero=>cases j with
    |zero=>exact absurd rfl h1
    |succ j=>exact e'
   |succ i=>cases j with
    |zero=>exact e'
    |succ j=>exact ih i j e (fun q=>h1 (congrArg _ q)) (by exact e')
theorem ahN{i:Nat}{y:Str}(hx:X.names i=some y): ∀W fr σ s,St X W fr σ s-> ∀r,QP i fr σ=some r-> ∃W' fr' aj,r= .next fr' aj/\W.le W'/\St X W' fr' aj s:=fun W fr σ s T r e=>by
 have e:some (kg.next (put fr i (jL 14 (gt fr i) σ).1) (jL 14 (gt fr i) σ).2)=some r:=e
 apply s1 e
 by_cases hu:gt fr i= .unb
 ·rw[hu]
  refine⟨W,_,_,rfl,.refl _,T.rel,?_,T.sm⟩
  obtain⟨⟨m,a,b⟩,c,d,xT,d',CI⟩:=T.fr
  exact⟨⟨m,a,fun j y e=>by
   rcases yc fr i _ j y e with⟨rfl,rfl⟩|⟨hj,e|e⟩
   ·exact .inl rfl
   ·exact b j y e
   ·exact .inl e⟩,c,d,xT,d',CI⟩
 ·have hi:=(Vu fr i).resolve_right hu
  refine fg (T.fr.vars) fun m hn hv=> ?_
  refine fg ((hv i _ hi).resolve_left hu y hx) fun v e2 e3=> ?_
  refine uk (CL 14 W σ (gt fr i) v T.rel e3) fun bn g R z=> ?_
  refine⟨bn,_,_,rfl,g.le,?_⟩
  have bz:=T.ghost g R
  refine⟨bz.rel,⟨⟨m,hn,fun j b e=> ?_⟩,bz.fr.cells,bz.fr.apart,bz.fr.sep,bz.fr.own,bz.fr.live⟩,bz.sm⟩
  rcases aeD fr i _ _ j b hi e with⟨rfl,rfl⟩|⟨hj,e⟩
  ·refine .inr fun z' p=> ?_
   rw[hx]at p;cases p
   exact⟨v,e2,z⟩
  ·exact(hv j b e).imp id fun f y p=>let⟨v,q,r⟩:=f y p;⟨v,q,r.mono g.le⟩
theorem mL{kF n:Nat}{f:ah}{F:aW}(hF:aF C kF f F):aF C kF f (F5 n F):=fun A R W σ s args vs Re hv tk a aj e=>by
 refine fW e fun xO ay q e=> ?_
 obtain⟨rfl,rfl⟩:a=(jL n xO ay).1/\aj=(jL n xO ay).2:=by rw[aI e];exact⟨rfl,rfl⟩
 refine eK (hF A R W σ s args vs Re hv tk _ _ q) fun v s' ⟨h1,bn,bD,afN,pL⟩=> ?_
 refine uk (CL n bn ay xO v afN pL) fun cB g O1 MM=> ?_
 exact⟨h1,cB,bD.trans g.le,O1,MM⟩
theorem Mw{kF n:Nat}{f:ah}{F:aW}(hF:aF C kF f F):aF C kF f (aaf n F):=fun A R W σ s args vs Re hv tk a aj e=>by
 refine uk (CN (CL n) args W σ vs Re hv) fun cB g O1 MM=> ?_
 exact eK (hF A R cB _ s _ vs O1 MM tk a aj e) fun v s' ⟨h1,bn,bD,afN,pL⟩=>⟨h1,bn,g.le.trans bD,afN,pL⟩
end
end
end
section
open PySem.SeqAt
noncomputable section
section
variable{prog:gg}{w:d5}{A:b6}{R:tR->az->Prop}{s:az}
def NO(e:an)(d:Nat)(elt target iter:an)(ifs:List an):Prop:= ∀it acc env,compTurn e d it acc env=(do
   standAt iter.pos
   match <- pyNext it with
   |none=>pure (.done .next)
   |some v=>
    letOwnedTupleGo target it v
    assign target env v
    let mut ok:=true
    for c in ifs do
     if ok then ok <- isTrue c env (eval c env)
    if ok then
     (do let _ <- call (.builtin "list.append") [acc,<- eval elt env])
    again (.compLoop e d it acc env))
theorem afz{elt target iter:an}{ifs:List an}{scope:d4}{pos:Pos}:NO (.ListComp elt [⟨target,iter,ifs,0⟩] scope pos) 0 elt target iter ifs:=fun _ _ _=>rfl
theorem afA{elt target iter:an}{g:dS}{ifs:List an}{scope:d4}{pos:Pos}:NO (.ListComp elt [g,⟨target,iter,ifs,0⟩] scope pos) 1 elt target iter ifs:=fun _ _ _=>rfl
theorem Bn{gs:List dS}{scope:d4}{pos:Pos}{d:Nat}{elt target iter:an}{ifs:List an}{it acc:ah}{env:Env}(hT:NO (.ListComp elt gs scope pos) d elt target iter ifs)(I:Nat->az->Prop)
  (turn: ∀n s,I n s->wpAny (model prog w) A (pyNext it) (fun r bv=>match r with
   |none=>R (.ok .next) bv
   |some v=>wpAny (model prog w) A (letOwnedTupleGo target it v) (fun _ Q2=>wpAny (model prog w) A (assign target env v) (fun _ dX=>
     wpAny (model prog w) A (forIn ifs true fun c r=>if r=true then do let ok <- isTrue c env (eval c env);pure (gL ok)else pure (gL r)) (fun ok jM=>
      if ok=true then wpAny (model prog w) A (eval elt env) (fun x oF=>
       wpAny (model prog w) A (call (.builtin "list.append") [acc,x]) (fun _ sK=> ∃m,m<n/\I m sK) dy oF) dy jM
      else ∃m,m<n/\I m jM) dy dX) dy Q2) dy bv) dy s)
  (n:Nat)(h:I n s):codeAny (model prog w) A (.compLoop (.ListComp elt gs scope pos) d it acc env) R s:=by
 refine Ov rfl I (fun n s hI=> ?_) n h
 show wpAny _ A ((compTurn (.ListComp elt gs scope pos) d it acc env).onRaise (fun x=>do noteFrame x env;theTreesLotGoes x)) _ _ s
 refine wpAny_noted ?_
 rw[hT it acc env]
 refine Ld (aq (dC (aq (eK (turn n s hI) fun r bv sB=> ?_))))
 cases r with
 |none=>exact aM sB
 |some v=>
  refine aq (eK sB fun _ Q2 aan=> ?_)
  refine aq (eK aan fun _ dX aid=>aq (eK aid fun ok jM acs=> ?_))
  cases ok with
  |false=>exact aM ⟨rfl,acs⟩
  |true=>
   exact aq (aq (eK acs fun x oF aie=>aq (eK aie fun _ sK XY=>aM (aM ⟨rfl,XY⟩))))
end
section
variable{X:FX}{k:Nat}{W W':Wd}{fr fr':Fm}{σ aj:AS}{s s':az}{A:b6}{h h':bM}{C:PC}
theorem St.forget(T:St X W fr σ s)(hf: ∀(j:Nat) b,fr'[j]? =some b->b= .unb\/fr[j]? =some b):St X W fr' σ s:=by
 obtain⟨R,⟨⟨m,a,b⟩,c,d,xT,d',CI⟩,S⟩:=T
 exact⟨R,⟨⟨m,a,fun i x e=>(hf i x e).elim .inl (b i x)⟩,c,d,xT,d',CI⟩,S⟩
noncomputable def DX:List Nat->Fm->Fm
 |[],fr=>fr
 |x::xs,fr=>DX xs (put fr x .unb)
theorem Df: ∀(fr:Fm) (i:Nat) (a b:AV),put (put fr i a) i b=put fr i b:=by
 have nl: ∀(i:Nat) (a b:AV),put (put [] i a) i b=put [] i b:=fun i a b=>by
  induction i with
  |zero=>rfl
  |succ i ih=>exact congrArg (AV.unb:: ·) ih
 intro fr
 induction fr with
 |nil=>exact nl
 |cons x r ih=>intro i a b;cases i with
  |zero=>rfl
  |succ i=>exact congrArg (x:: ·) (ih i a b)
theorem N6: ∀(fr:Fm) (i:Nat) (a:AV) (j:Nat) (b:AV),j≠i->fr[j]? =some b->(put fr i a)[j]? =some b:=by
 intro fr
 induction fr with
 |nil=>intro i a j b _ e;cases e
 |cons x r ih=>intro i a j b h e;cases i with
  |zero=>cases j with
   |zero=>exact absurd rfl h
   |succ j=>exact e
  |succ i=>cases j with
   |zero=>exact e
   |succ j=>exact ih i a j b (fun q=>h (congrArg _ q)) e
theorem QH{fr gY:Fm}{i:Nat}(h: ∀(j:Nat) b,j≠i->fr[j]? =some b->b= .unb\/gY[j]? =some b): ∀(j:Nat) b,(put fr i .unb)[j]? =some b->b= .unb\/gY[j]? =some b:=fun j b e=>by
 rcases yc _ _ _ _ _ e with⟨_,h⟩|⟨h1,h2|h2⟩
 ·exact .inl h
 ·exact h j b h1 h2
 ·exact .inl h2
inductive Tg(X:FX):List Nat->an->Prop where
 |name {i x p} (h:kv X i x):Tg X [i] (.Name x p)
 |two {i j is ts c p} (h:is=[i,j]) (N:qi X is ts) (ij:i≠j):Tg X is (.Tuple ts c p)
theorem Tg.snd(O:vn X)(O':Hf X){is:ac}{t:an}(g:Tg X is t):SW X is t:=by
 cases g with
 |name h=>exact H1 O O' h
 |two h N ij=>subst h;exact Lr O O' N
theorem Tg.binds{is:ac}{t:an}(g:Tg X is t){a:AV}:mw is a (DX is fr) σ=mw is a fr σ:=by
 cases g with
 |name h=>simp only[mw,DX,Df]
 |two h N ij=>
  rename_i i j ts c p
  subst h
  cases a<;>try rfl
  rename_i l
  show vS [i,j] l (put (put fr i .unb) j .unb)=vS [i,j] l fr
  match l with
  |[]=>rfl
  |[a]=>rfl
  |[a,b]=>
   show some (put (put (put (put fr i .unb) j .unb) i a) j b)=some (put (put fr i a) j b)
   rw[qv (put fr i .unb) .unb a (tA ij),Df,Df]
  |_::_::_::_=>rfl
theorem Tg.forget{is:ac}{t:an}(g:Tg X is t){a:AV}(e:mw is a fr σ=some fr'): ∀(j:Nat) b,(DX is fr)[j]? =some b->b= .unb\/fr'[j]? =some b:=by
 cases g with
 |name h=>
  cases e
  exact QH fun j b h e=>.inr (N6 _ _ _ _ _ h e)
 |two h N ij=>
  rename_i i j ts c p
  subst h
  revert e
  cases a<;>intro e<;>first|exact nn e|skip
  rename_i l
  match l,e with
  |[a,b],e=>
   cases e
   refine QH fun m x hm e=> ?_
   rcases yc _ _ _ _ _ e with⟨_,h⟩|⟨h3,h4|h4⟩
   ·exact .inl h
   ·exact .inr (N6 _ _ _ _ _ hm (N6 _ _ _ _ _ h3 h4))
   ·exact .inl h4
def NM(X:FX)(k:Nat)(m:BM)(ifs:List an):Prop:=
 ∀A,eV A k-> ∀W fr σ s,St X W fr σ s-> ∀b aj,m fr σ=some (b,aj)->
  wpAny (dH X.C) A (forIn ifs true fun c r=>if r=true then do let ok <- isTrue c X.env (eval c X.env);pure (gL ok)else pure (gL r)) (o5 X W fr b aj) dy s
theorem Mx:NM X k (fun _ σ=>some (true,σ)) []:=fun A R W fr σ s T b aj e=>by
 apply s2 e;exact wpAny_tests_nil (T.postB _)
theorem My{m:BM}{c:an}(h:np X k m c):NM X k m [c]:=fun A R W fr σ s T b aj e=>wpAny_tests_one (h A R W fr σ s T b aj e)
structure G2(X:FX)(W:Wd)(fr:Fm)(σ:AS)(I:aC)(l:List AV)(i:Nat)(S:Nat->bM->Prop)(fp:List aC)(P:Nat->ah->Prop)(D:aC)(acc:List AV)(s:az):Prop where
 T:St X W fr σ s
 w:iu X W σ I l i s.heap S fp P
 L:ip X W σ D
 g: ∃vs n,s.heap.get? D=some (dz vs n)/\VL X.C W acc vs
def xJ(X:FX)(k:Nat)(e:an)(d:Nat)(xs:ac)(body:List AV->Fm->AS->Option (List AV×AS)):Prop:=
 ∀A,eV A k-> ∀W fr σ s I l i S fp P D acc,D≠I->i<=l.length->G2 X W (DX xs fr) σ I l i S fp P D acc s-> ∀out aL,body (l.drop i) fr σ=some (out,aL)->acc.length+out.length<=4000000-> ∀R,
  (∀W' s',W.le W'->St X W' (DX xs fr) aL s'->ip X W' aL D->(∃vs n,s'.heap.get? D=some (dz vs n)/\VL X.C W' (acc++out) vs)->R (.ok .next) s')->
  codeAny (dH X.C) A (.compLoop e d (.ref I) (.ref D) X.env) R s
theorem iu.but{I D:aC}{l:aa}{i:Nat}{S:Nat->bM->Prop}{fp:List aC}{P:Nat->ah->Prop}(w:iu X W σ I l i h S fp P)(hD:D≠I)(him:W.im D=none)(hk: ∀b o,b≠D->h.get? b=some o->h'.get? b=some o):iu X W σ I l i h' S fp P:=by
 obtain⟨⟨pg,It⟩,st,L⟩:=w
 refine⟨⟨pg,It⟩,(It.walks {} rfl).frame i _ _ st fun b hb o' e'=>hk b o' ?_ e',L⟩
 rcases It.fp b hb with rfl|⟨oo,z⟩
 ·exact tA hD
 ·rintro rfl;rw[him]at z;cases z
section
variable{I D:aC}{l acc:aa}{i:Nat}{S:Nat->bM->Prop}{fp:List aC}{P:Nat->ah->Prop}
theorem G2.forget(h:G2 X W fr σ I l i S fp P D acc s)(hf: ∀(j:Nat) b,fr'[j]? =some b->b= .unb\/fr[j]? =some b):G2 X W fr' σ I l i S fp P D acc s:=⟨h.T.forget hf,h.w,h.L,h.g⟩
theorem G2.pin(h:G2 X W fr σ I l i S fp P D acc s)(hD:D≠I): ∃FY,St X FY fr σ s/\FY.ρ=W.ρ/\FY.im=W.im/\(∀b,FY.pr b=none->W.pr b=none/\b≠I/\b≠D)/\
  ∀{bn:Wd} {fr':Fm} {aj:AS} {s':az},FY.le bn->St X bn fr' aj s'-> ∃cB,W.le cB/\cB.ρ=bn.ρ/\cB.im=bn.im/\G2 X cB fr' aj I l i S fp P D acc s':=by
 obtain⟨T,w,L,vs,n,g,q⟩:=h
 refine fg (w.pin T) fun oI bz back=> ?_
 have SQ:ip X (W.pin I oI) σ D:=⟨L.im,by rw[jC hD];exact L.pr,L.cell,L.out⟩
 refine⟨_,bz.pin SQ g,rfl,rfl,fun b e=> ?_,fun{bn fr' aj s'} bD jc=> ?_⟩
 ·have h1:b≠D:=fun q=>by rw[q,Jx]at e;cases e
  rw[jC h1]at e
  have h2:b≠I:=fun q=>by rw[q,Jx]at e;cases e
  rw[jC h2]at e
  exact⟨e,h2,h1⟩
 ·refine XD (St.unpin bD SQ jc) fun le3 T4 g4 L4=> ?_
  refine uj (back le3 T4) fun le5 T5 w5=> ?_
  exact⟨_,le5,rfl,rfl,T5,w5,⟨L4.im,L.pr,L4.cell,L4.out⟩,vs,n,g4,q.mono le5⟩
theorem G2.push(h:G2 X W fr σ I l i S fp P D acc s)(hD:D≠I){a:AV}{v:ah}(hv:V X.C W a v)(hN:acc.length<4000000){Q:ah->az->Prop}(kk: ∀s',G2 X W fr σ I l i S fp P D (acc++[a]) s'->Q .none s'):wpAny (dH X.C) A (call (.builtin "list.append") [.ref D,v]) Q dy s:=by
 obtain⟨T,w,L,vs,n,g,q⟩:=h
 refine vk (items:=vs.toArray) ⟨n,g⟩ (fun h' hp hs=> ?_) (by rw[aZ,q.length];exact au (gP hN) (by decide))
 obtain⟨n',hg'⟩:=hp
 rw[E8]at hg'
 exact kk _ ⟨T.but L (fun b o hb e=>hs.extBut b o hb e) _,w.but hD L.im fun b o hb e=>hs.extBut b o hb e,L,_,n',hg',q.append (VL.one hv)⟩
def FH(X:FX)(W:Wd)(CO:Fm)(body:List AV->AS->Option (List AV×AS))(I:aC)(l:aa)(S:Nat->bM->Prop)(fp:List aC)(P:Nat->ah->Prop)(D:aC)(tot:aa)(aL:AS)(n:Nat)(s:az):Prop:=
 ∃i W' σ acc out,n=l.length-i/\i<=l.length/\W.le W'/\G2 X W' CO σ I l i S fp P D acc s/\body (l.drop i) σ=some (out,aL)/\acc++out=tot
theorem FH.less{CO:Fm}{body:List AV->AS->Option (List AV×AS)}{tot out:aa}{aL:AS}(hi:i<l.length)(le:W.le W')(La:G2 X W' CO σ I l (i+1) S fp P D acc s)(e:body (l.drop (i+1)) σ=some (out,aL))(h:acc++out=tot): ∃m,m<l.length-i/\FH X W CO body I l S fp P D tot aL m s:=
 ⟨l.length-(i+1),Y6 hi,i+1,W',σ,acc,out,rfl,hi,le,La,e,h⟩
theorem FH.turn{CO:Fm}{body:List AV->AS->Option (List AV×AS)}{tot:aa}{aL:AS}{n:Nat}(h:FH X W CO body I l S fp P D tot aL n s)(hA:A.handled=none)(hD:D≠I){Q:Option ah->az->Prop}
  (hnil: ∀W' σ acc out bv,W.le W'->St X W' CO σ bv->ip X W' σ D->(∃vs n,bv.heap.get? D=some (dz vs n)/\VL X.C W' acc vs)->body [] σ=some (out,aL)->acc++out=tot->Q none bv)
  (hcons: ∀i W' σ acc out a v bv,i<l.length->n=l.length-i->W.le W'->G2 X W' CO σ I l (i+1) S fp P D acc bv->V X.C W' a v->body (a::l.drop (i+1)) σ=some (out,aL)->acc++out=tot->Q (some v) bv):wpAny (dH X.C) A (pyNext (.ref I)) Q dy s:=by
 obtain⟨i,W',σ,acc,out,hn,hi,le,⟨T,w,L,vs,m,g,q⟩,e,hEq⟩:=h
 cases hd:l.drop i with
 |nil=>
  rw[hd]at e
  exact w.done T hA hi hd fun bv bz hk=>hnil W' σ acc out bv le bz L ⟨vs,m,hk _ _ hD g,q⟩ e hEq
 |cons a r=>
  rw[hd]at e
  obtain⟨hi',rfl⟩:=PL hd
  exact w.item T hA hd fun v bv bz ark pL hk=>hcons i W' σ acc out a v bv hi' hn le ⟨bz,ark,L,vs,m,hk _ _ hD g,q⟩ pL e hEq
end
theorem agw{xs:ac}{c:BM}{elt:EM}{a:AV}{r out:aa}{aL:AS}(e:eO xs c elt (a::r) fr σ=some (out,aL)){Q:Prop}(kk: ∀gY b ay,mw xs a fr σ=some gY->c gY σ=some (b,ay)->
  (bif b then bA (elt gY ay) (fun y aj=>bA (eO xs c elt r fr aj) fun o cO=>some (y::o,cO))else eO xs c elt r fr ay)=some (out,aL)->Q):Q:=
 oE (show ob (mw xs a fr σ) (fun fr'=>bA (c fr' σ) fun t aj=>bif t then bA (elt fr' aj) (fun b eW=>bA (eO xs c elt r fr eW) fun l cO=>some (b::l,cO))else eO xs c elt r fr aj)=some (out,aL) from e) fun gY h1 e=>fW e fun b ay h2 e=>kk gY b ay h1 h2 e
theorem amx{a b c d:aa}{y:AV}{n:Nat}(h:a++(y::b)=c++d)(hN:c.length+d.length<=n):a.length<n:=by
 have:=congrArg nh h
 rw[ao,ao,bT]at this
 omega
theorem TI(O:vn X)(O':Hf X){gs:List dS}{scope:d4}{pos:Pos}{d:Nat}{xs:ac}{tg iter ee:an}{c:BM}{elt:EM}{ifs:List an}(hT:NO (.ListComp ee gs scope pos) d ee tg iter ifs)(g:Tg X xs tg)(hc:NM X k c ifs)(he:b8 X k elt ee):
  xJ X k (.ListComp ee gs scope pos) d xs (eO xs c elt):=fun A Rm W fr σ s I l i S fp P D acc hD hi La out aL e hN R hR=>by
 refine Bn hT (FH X W (DX xs fr) (fun l σ=>eO xs c elt l fr σ) I l S fp P D (acc++out) aL) (fun n s' h=>h.turn Rm.handled hD (fun W' σ acc' out' bv le T L g e hEq=> ?_) fun i W' σ acc' out' a v bv hi' hn le La z e hEq=> ?_) (l.length-i)
  ⟨i,W,σ,acc,out,rfl,hi,.refl _,La,e,rfl⟩
 ·cases e
  rw[aR]at hEq
  exact hR W' bv le T L (hEq▸g)
 ·subst hn
  refine agw e fun gY b ay e1 e2 e=>La.w.go ?_
  refine anG (La.pin hD) fun FY cR xY him _ back=> ?_
  refine eK (g.snd O O' A Rm.handled FY _ σ bv cR a v (z.pr xY him) gY (by rw[g.binds];exact e1)) fun _ dX jc=>eK (hc A Rm FY gY σ dX jc b ay e2) fun ok jM z=>z.elim fun xN hH ol=> ?_
  cases b with
  |false=>
   rw[if_neg (by decide)]
   refine ul (back hH ol) fun Xa le5 _ _ Zv=> ?_
   exact FH.less hi' (le.trans le5) (Zv.forget (g.forget (σ:=σ) (a:=a) e1)) e hEq
  |true=>
   rw[if_pos rfl]
   rw[af]at e
   refine fW e fun y vf e5 e=>fW e fun o' ap9 e6 e=> ?_
   cases e
   refine he.go Rm ol e5 fun x oF anx Qu xM an8=> ?_
   refine ul (back (hH.trans Qu) xM) fun Xa le5 hV1 hV2 Zv=> ?_
   exact Zv.push hD (an8.pr hV1 hV2) (amx hEq hN) fun s' wF=>FH.less hi' (le.trans le5) (wF.forget (g.forget (σ:=σ) (a:=a) e1)) e6 (by rw[aB];exact hEq)
end
end
end
section
open PySem.SeqAt
noncomputable section
section
variable{X:FX}{k:Nat}{W W':Wd}{fr fr':Fm}{σ aj:AS}{s s':az}{A:b6}{h h':bM}{C:PC}
noncomputable def FX.inner(X:FX)(scope:d4)(cl:List (Str×aC))(nm:Nat->Option Str)(L:aC)(nz:az):FX:={C:=X.C,env:=compEnvC scope cl L X.env,names:=nm,own:=[L],nz:=nz}
structure Eu(X:FX)(scope:d4)(cl:List (Str×aC))(nm:Nat->Option Str)(xs:List Nat):Prop where
 clos:closureFor scope X.env=pure cl
 kind:scope.kind= .function
 nocell: ∀y∈scope.names,y.2≠ .cell
 locals: ∀y∈scope.names,y.2= .local->scope.names.lookup y.1=some .local
 vis: ∀i x,nm i=some x->i∈xs\/(X.names i=some x/\(X.env.kindOf x=some .cell\/X.env.kindOf x=some .free)/\((relabel scope X.env).names.lookup x=some .cell\/(relabel scope X.env).names.lookup x=some .free)/\cl.lookup x=X.env.cells.lookup x)
 sub: ∀n c,cl.lookup n=some c->X.env.cells.lookup n=some c
 apart:cl.Pairwise fun x y=>x.2≠y.2
 plain: ∀i x,nm i=some x->(x==("__debug__":Str)||x==("__classdict__":Str))=false
theorem afB: ∀(xs:ac) (fr:Fm) (i:Nat) (a:AV),(DX xs fr)[i]? =some a->a= .unb\/(i∉xs/\fr[i]? =some a):=by
 intro xs
 induction xs with
 |nil=>exact fun fr i a e=>.inr ⟨bh,e⟩
 |cons x xs ih=>
  intro fr i a e
  rcases ih (put fr x .unb) i a e with h|⟨h1,h2⟩
  ·exact .inl h
  ·rcases yc _ _ _ _ _ h2 with⟨_,h⟩|⟨h3,h4|h4⟩
   ·exact .inl h
   ·exact .inr ⟨fun q=>(aH.mp q).elim h3 h1,h4⟩
   ·exact .inl h4
theorem jd.ex{X:FX}{m:Str->Option ah}{x:Str}{v:ah}(q:jd X h m x v)(hk:X.env.kindOf x=some .cell\/X.env.kindOf x=some .free): ∃c,X.env.cells.lookup x=some c/\h.IsCell c (some v):=by
 unfold jd at q
 rcases hk with hk|hk<;>rw[hk]at q<;>exact q
theorem jd.mk{X:FX}{m:Str->Option ah}{x:Str}{v:ah}(hk:X.env.kindOf x=some .cell\/X.env.kindOf x=some .free)(q: ∃c,X.env.cells.lookup x=some c/\h.IsCell c (some v)):jd X h m x v:=by
 unfold jd
 rcases hk with hk|hk<;>rw[hk]<;>exact q
theorem aed(O:vn X){scope:d4}{cl:List (Str×aC)}{nm:Nat->Option Str}{xs:ac}{L:aC}{nz:az}(K:Eu X scope cl nm xs)(hL: ∀n c,X.env.cells.lookup n=some c->c≠L):vn (X.inner scope cl nm L nz):=
 ⟨K.kind,O.glob,O.blt,aP.mpr rfl,K.apart,fun n c e=>hL n c (K.sub n c e),K.plain⟩
theorem St.inner(T:St X W fr σ s){scope:d4}{cl:List (Str×aC)}{nm:Nat->Option Str}{xs:ac}{L:aC}{m:Str->Option ah}(K:Eu X scope cl nm xs)(hL:s.heap.objs.size<=L)
  (hk: ∀b o,s.heap.get? b=some o->h'.get? b=some o)(hn:h'.Ns L m)(t:Nat)(ht:s.toks<=t):St (X.inner scope cl nm L s) (W.guard X s.heap) (DX xs fr) σ {s with heap:=h',toks:=t}:=by
 have nH: ¬X.Has L:=fun hc=>absurd (T.fr.lt hc) (b7.mpr hL)
 have has: ∀c,(X.inner scope cl nm L s).Has c->c=L\/X.Has c:=fun c hc=>by
  rcases hc with e|⟨n,e⟩|e
  ·exact .inl e
  ·exact .inr (.inr (.inl ⟨n,K.sub n c e⟩))
  ·exact .inl (aP.mp e)
 have kc: ∀c w,s.heap.IsCell c w->h'.IsCell c w:=fun c w ⟨o,p,q⟩=>⟨o,hk _ _ p,q⟩
 refine⟨(T.guard).keeps hk,⟨⟨m,hn,fun i a e=> ?_⟩,fun n c e=> ?_,fun c hc=> ?_,fun c hc=> ?_,fun c hc=> ?_,fun c hc=> ?_⟩,T.sm.pos,⟨_,_,rfl,ht⟩⟩
 ·rcases afB xs fr i a e with h|⟨h1,h2⟩
  ·exact .inl h
  ·refine fg (T.fr.vars) fun ars aro hv=> ?_
   refine(hv i a h2).imp id fun f x hx=> ?_
   rcases K.vis i x hx with h|⟨v1,v2,v3,v4⟩
   ·exact absurd h h1
   ·refine fg (f x v1) fun v q r=> ?_
    refine fg (q.ex v2) fun c e1 e2=> ?_
    exact⟨v,jd.mk v3 ⟨c,by rw[show(X.inner scope cl nm L s).env.cells=cl from rfl,v4];exact e1,kc _ _ e2⟩,r.pr rfl rfl⟩
 ·obtain⟨v,z⟩:=T.fr.cells n c (K.sub n c e);exact⟨v,kc _ _ z⟩
 ·rcases has c hc with rfl|hc
  ·exact T.rel.cell_new hL
  ·exact T.fr.apart c hc
 ·rcases has c hc with rfl|hc
  ·exact T.rel.im_new hL
  ·exact T.fr.sep c hc
 ·rw[aP.mp hc,kC nH];exact T.rel.pr_new hL
 ·rcases has c hc with rfl|hc
  ·obtain⟨o,_,_,z,_⟩:=hn;exact⟨o,z⟩
  ·obtain⟨o,z⟩:=T.fr.live c hc;exact⟨o,hk _ _ z⟩
def CP(X:FX)(W:Wd)(fr:Fm)(aj:AS)(a:AV)(D C:aC)(s':az):Prop:= ∃W',W.le W'/\St X W' fr aj s'/\V X.C W' a (.ref D)/\ip X W' aj C/\ ∃m,s'.heap.Ns C m
theorem Pz(T:St X W fr σ s){scope:d4}{cl:List (Str×aC)}{nm:Nat->Option Str}{xs:ac}(K:Eu X scope cl nm xs){I:aC}{l:aa}{S:Nat->bM->Prop}{fp:List aC}{P:Nat->ah->Prop}
  (LI:ip X W σ I)(It:xu X W σ I l s.heap S fp P){e:an}{body:List AV->Fm->AS->Option (List AV×AS)}{ee tg it:an}{ifs:List an}{rest:List dS}{pos:Pos}(he:e= .ListComp ee (⟨tg,it,ifs,0⟩::rest) scope pos)
  (hloop: ∀L,(∀n c,X.env.cells.lookup n=some c->c≠L)->xJ (X.inner scope cl nm L s) k e 0 xs body)(Rm:eV A k){out:List AV}{aL:AS}(eb:body l fr σ=some (out,aL))(hN:out.length<=4000000){RR:ah->aC->tR->az->Prop}
  (hRR: ∀D C s',CP X W fr (aL.alloc (.lst out)) (.ref aL.next) D C s'->RR (.ref D) C (.ok .next) s'):
  wpAny (dH X.C) A (newList []) (fun acc jM=>wpAny (dH X.C) A (newFunctionEnv scope X.env.globals cl [] X.env.qual none .none (some X.env)) (fun cenv oF=>
   codeAny (dH X.C) A (.compStart e 0 (.ref I) acc {cenv with scope:=relabel scope X.env}) (RR acc cenv.locals) oF) dy jM) dy s:=by
 subst he
 refine fS (wpAny_newFunctionEnv K.nocell (by intro y hy;simp at hy) (fun sB Vw NZ=> ?_) K.kind)
 dsimp only at Vw NZ ⊢
 generalize hH2:s.heap.push {cls:=.type "list",dict:=none,data:=.seq ([]:List ah).toArray}=H2 at Vw NZ ⊢
 have hC:H2.objs.size=s.heap.objs.size+1:=by rw[<- hH2,p8]
 have hDC:s.heap.objs.size≠H2.objs.size:=by rw[hC];exact cu (bU _)
 have hCle:s.heap.objs.size<=H2.objs.size:=by rw[hC];exact cU _
 have old: ∀b o,s.heap.get? b=some o->sB.get? b=some o:=fun b o e=>NZ.extBut b o (cu (fm (cz e) hCle)) (bH _ (hH2▸bH _ e))
 have gD:sB.get? s.heap.objs.size=some (dz [] 0):=NZ.extBut _ _ hDC (bH _ (hH2▸br _ rfl))
 have T':=T.inner (nm:=nm) (xs:=xs) K hCle old Vw (s.toks+([]:List (Str×ah)).length) (cZ _ _)
 have nHas: ∀c,s.heap.objs.size<=c-> ¬X.Has c:=fun c hc hX=>absurd (T.fr.lt hX) (b7.mpr hc)
 have hasI: ∀c,(X.inner scope cl nm H2.objs.size s).Has c->c=H2.objs.size\/X.Has c:=fun c hc=>by
  rcases hc with e|⟨n,e⟩|e
  ·exact .inl e
  ·exact .inr (.inr (.inl ⟨n,K.sub n c e⟩))
  ·exact .inl (aP.mp e)
 refine Te (It.obj 0 _ It.st) fun oI nI gI _=> ?_
 have hI:I<s.heap.objs.size:=cz gI
 have LI':ip (X.inner scope cl nm H2.objs.size s) (W.guard X s.heap) σ I:=
  ⟨LI.im,by rw[kC LI.out];exact LI.pr,LI.cell,fun hc=>(hasI _ hc).elim (fun e=>absurd hI (by rw[e];exact b7.mpr hCle)) LI.out⟩
 have LD:ip (X.inner scope cl nm H2.objs.size s) (W.guard X s.heap) σ s.heap.objs.size:=
  ⟨T.rel.im_new (ax _),by rw[kC (nHas _ (ax _))];exact T.rel.pr_new (ax _),T.rel.cell_new (ax _),fun hc=>(hasI _ hc).elim hDC (nHas _ (ax _))⟩
 have hst:S 0 sB:=(It.walks {} rfl).frame 0 _ _ It.st fun b _ o e=>old b o e
 have w:iu (X.inner scope cl nm H2.objs.size s) (W.guard X s.heap) σ I l 0 sB S fp P:=
  ⟨⟨sB,⟨It.walks,hst,It.fp,fun i v hi p=>let⟨a,e,r⟩:=It.val i v hi p;⟨a,e,r.pr rfl rfl⟩,It.obj⟩⟩,hst,LI'⟩
 have loop: ∀jM:az,jM={s with heap:=sB,toks:=s.toks+([]:List (Str×ah)).length}->
   codeAny (dH X.C) A (.compLoop (.ListComp ee (⟨tg,it,ifs,0⟩::rest) scope pos) 0 (.ref I) (.ref s.heap.objs.size) (compEnvC scope cl H2.objs.size X.env)) (RR (.ref s.heap.objs.size) H2.objs.size) jM:=by
  rintro jM rfl
  refine hloop H2.objs.size (fun n c e=> ?_) A Rm (W.guard X s.heap) fr σ _ I l 0 S fp P s.heap.objs.size [] (cu hI).symm (aS _) ⟨T',w,LD,[],0,gD,VL.nil⟩ out aL eb (by rw[Ig,io];exact hN) _ fun W' s' le cR BV g=> ?_
  ·exact cu (fm (T.fr.lt (.inr (.inl ⟨n,e⟩))) hCle)
  ·refine Te (g) fun vs' n' aqx j8=> ?_
   have O1:=cR.rel
   have aqh:cD X.C (W'.addId aL.next (s.heap.objs.size,s.heap.objs.size)) (aL.alloc (.lst out)) s'.heap:=
    O1.alloc (p:=(s.heap.objs.size,s.heap.objs.size)) ⟨rfl,vs',n',aqx,j8.mono (Wd.le_addId (O1.fresh _ (ax _)))⟩ BV.im BV.pr BV.cell
   obtain⟨aoT,ol⟩:=T.back (le.trans (Wd.le_addId (O1.fresh _ (ax _)))) aqh cR.sm.2
   refine fg (cR.fr.vars) fun aiI Qe _=> ?_
   refine hRR _ _ s' ⟨_,aoT,ol,ri (W:={W' with pr:=W.pr}),⟨cR.fr.sep _ (.inl rfl),T.rel.pr_new hCle,fun a cc p e e' q=> ?_,nHas _ hCle⟩,aiI,Qe⟩
   rw[AS.get_alloc]at e
   have e':(if a=aL.next then some (s.heap.objs.size,s.heap.objs.size)else W'.ρ a)=some p:=e'
   by_cases z:a=aL.next
   ·rw[if_pos z]at e';cases e';exact hDC q
   ·rw[if_neg z]at e e';exact cR.fr.apart _ (.inl rfl) a cc p e e' q
 exact codeAny_compStart_list (loop _ rfl) (Ld ((It.walks A Rm.handled).self 0 _ _ _ hst (loop _ rfl)))
def tj(it:EM)(body:List AV->Fm->AS->Option (List AV×AS)):EM:=fun fr σ=>bA (it fr σ) fun x aj=>bA (fJ aj x) fun l ay=>bA (body l fr ay) fun vs aL=>bif dj vs.length then some (.ref aL.next,aL.alloc (.lst vs))else none
theorem Th{it:EM}{body:List AV->Fm->AS->Option (List AV×AS)}{a:AV}(e:tj it body fr σ=some (a,aj)){Q:AV->AS->Prop}(kk: ∀x LN l ay vs aL,it fr σ=some (x,LN)->fJ LN x=some (l,ay)->body l fr ay=some (vs,aL)->vs.length<=4000000->Q (.ref aL.next) (aL.alloc (.lst vs))):Q a aj:=
 fW e fun x LN e1 e=>fW e fun l ay e2 e=>fW e fun vs aL e3 e=>kS e fun z e=>by
  apply s2 e;exact kk x LN l ay vs aL e1 e2 e3 (jT z)
theorem abe{scope:d4}{cl:List (Str×aC)}{nm:Nat->Option Str}{xs:ac}(K:Eu X scope cl nm xs){it:EM}{body:List AV->Fm->AS->Option (List AV×AS)}{ee tg ie:an}{ifs:List an}{rest:List dS}{pos:Pos}
  (hi:b8 X k it ie)(hs: ∀x,foldedSetIterable ie X.env x=pure x)
  (hloop: ∀s L,(∀n c,X.env.cells.lookup n=some c->c≠L)->xJ (X.inner scope cl nm L s) k (.ListComp ee (⟨tg,ie,ifs,0⟩::rest) scope pos) 0 xs body):b8 X k (tj it body) (.ListComp ee (⟨tg,ie,ifs,0⟩::rest) scope pos):=fun A Rm W fr σ s T a aj e=>by
 apply Th e;intro x LN l ay vs aL e1 e2 e3 e4
 show wpAny _ _ (comprehension (.ListComp ee (⟨tg,ie,ifs,0⟩::rest) scope pos) scope X.env _ (newList []) false (eval ie X.env)) _ _ _
 refine tY (use:=none) rfl hs K.clos K.kind K.locals (hi.go Rm T e1 fun v bv bn bD bz pL=>eK (vZ bz e2 pL) fun it dX z=>z.elim fun I cB S fp P dR cR BV It=> ?_)
 refine Pz cR K BV It rfl (hloop dX) Rm e3 e4 (RR:=fun acc C=>compPost (dH X.C) A dy none (fU X W fr (.ref aL.next) (aL.alloc (.lst vs))) acc C) fun D C s' h=> ?_
 obtain⟨W',le,T',q,LC,m,hm⟩:=h
 exact⟨m,hm,fun h' hs=>⟨W',bD.trans (dR.trans le),T'.but LC (fun b o hb e=>hs.extBut b o hb e) _,q⟩⟩
theorem afa(O:vn X)(O':Hf X){scope:d4}{cl:List (Str×aC)}{nm:Nat->Option Str}{xs:ac}(K:Eu X scope cl nm xs){it:EM}{body:List AV->Fm->AS->Option (List AV×AS)}{ee tg ie:an}{ifs:List an}{rest:List dS}{pos spos:Pos}
  (hi:b8 X k it ie)(hs: ∀x,foldedSetIterable ie X.env x=pure x)
  (hloop: ∀s L,(∀n c,X.env.cells.lookup n=some c->c≠L)->xJ (X.inner scope cl nm L s) k (.ListComp ee (⟨tg,ie,ifs,0⟩::rest) scope pos) 0 xs body)
  {i:Nat}{y:Str}{py:Pos}(hx:kv X i y)(hsw:swapsWith (.ListComp ee (⟨tg,ie,ifs,0⟩::rest) scope pos) (some (.Name y py)) spos.line X.env=pure true):
  lP X k (cV [i] (tj it body)) (.Assign [.Name y py] (.ListComp ee (⟨tg,ie,ifs,0⟩::rest) scope pos) spos):=fun A Rm W fr σ s T r q=>by
 apply JF q;intro a aj fr' e q2
 revert q2
 apply Th e;intro x LN l ay vs aL e1 e2 e3 e4 q2
 apply s1 q2
 rw[exec_Assign_Name_used _ _ _ _ hsw]
 refine aq (dC (aq ?_))
 show wpAny _ A (do let _ <- comprehension (.ListComp ee (⟨tg,ie,ifs,0⟩::rest) scope pos) scope X.env _ (newList []) false (eval ie X.env) (some (assign (.Name y py) X.env))) _ _ s
 generalize hQ:Cm X W (.next (put fr i (.ref aL.next)) (aL.alloc (.lst vs)))=QQ
 refine aq (eK (tY (use:=some (assign (.Name y py) X.env)) (Q:=fun _ s'=>QQ .next s') rfl hs K.clos K.kind K.locals
  (hi.go Rm T e1 fun v bv bn bD bz pL=>eK (vZ bz e2 pL) fun it dX z=>z.elim fun I cB S fp P dR cR BV It=> ?_)) fun _ s' hq=>aM (aM hq))
 refine Pz cR K BV It rfl (hloop dX) Rm e3 e4 (RR:=fun acc C=>compPost (dH X.C) A dy (some (assign (.Name y py) X.env)) (fun _ s'=>QQ .next s') acc C) fun D C s' h=> ?_
 obtain⟨W',le,T',q,LC,m,hm⟩:=h
 refine XF (hm) fun oC es ep gC hr=> ?_
 show wpAny _ A (assign (.Name y py) X.env (.ref D)) _ _ _
 refine lH (eK ((T'.pin LC gC).store O O' hx.1 hx.2 (q.pr rfl rfl)) fun _ oF ol=> ?_)
 refine XD (St.unpin (.refl _) LC ol) fun aoU xM aqy aqg=> ?_
 exact⟨m,⟨oC,es,ep,aqy,hr⟩,fun h' hs=>by rw[<- hQ];exact⟨rfl,_,bD.trans (dR.trans (le.trans aoU)),xM.but aqg (fun b o hb e=>hs.extBut b o hb e) _⟩⟩
end
end
end
section
open PySem.SeqAt
noncomputable section
section
variable{prog:gg}{w:d5}{A:b6}{R:tR->az->Prop}{s:az}
theorem zn{elt target iter it acc env scope pos}{g:dS}
  (h0:codeAny (model prog w) A (.compLoop (.ListComp elt [g,⟨target,iter,[],0⟩] scope pos) 1 it acc env) R s)
  (h:wpAny (model prog w) A (pyIter it) (fun it' s'=>codeAny (model prog w) A (.compLoop (.ListComp elt [g,⟨target,iter,[],0⟩] scope pos) 1 it' acc env) R s') dy s):
  codeAny (model prog w) A (.compStart (.ListComp elt [g,⟨target,iter,[],0⟩] scope pos) 1 it acc env) R s:=by
 refine Ip ?_
 show wpAny _ _ ((compStart (.ListComp elt [g,⟨target,iter,[],0⟩] scope pos) 1 it acc env).onRaise (fun x=>do noteFrame x env;standAt theWindowsPlace)) _ _ s
 refine wpAny_notedAt (Ld ?_)
 unfold compStart
 show wpAny _ _ (ask>>=_) _ _ s
 refine aq (GV (wpAny_ite ?_))
 split
 ·first
   |exact aq (aM (aM (ii rfl h0)))
   |exact aM (ii rfl h0)
 ·first
   |exact aq (Iu (aq (dC (aq (jx h (fun it' s' h'=>aM (ii rfl h')) fun _ _ x=>x)))))
   |(refine aq (Iu ?_);show wpAny _ _ (standAt iter.pos>>=_) _ _ s;exact aq (dC (aq (jx h (fun it' s' h'=>aM (ii rfl h')) fun _ _ x=>x))))
theorem Px(elt t1 i1 t2 i2:an)(scope:d4)(pos:Pos)(it acc:ah)(env:Env):
  compTurn (.ListComp elt [⟨t1,i1,[],0⟩,⟨t2,i2,[],0⟩] scope pos) 0 it acc env=(do
   standAt i1.pos
   match <- pyNext it with
   |none=>pure (.done .next)
   |some v=>
    letOwnedTupleGo t1 it v
    assign t1 env v
    let x <- eval i2 env
    standAt i2.pos
    let x <- foldedSetIterable i2 env x
    let _ <- runOwn (.compStart (.ListComp elt [⟨t1,i1,[],0⟩,⟨t2,i2,[],0⟩] scope pos) 1 (<- holding [x] (pyIter x)) acc env) env
    again (.compLoop (.ListComp elt [⟨t1,i1,[],0⟩,⟨t2,i2,[],0⟩] scope pos) 0 it acc env)):=by rfl
theorem zm{elt t1 i1 t2 i2:an}{scope:d4}{pos:Pos}{it acc:ah}{env:Env}(hs: ∀x,foldedSetIterable i2 env x=pure x)(I:Nat->az->Prop)
  (turn: ∀n s,I n s->wpAny (model prog w) A (pyNext it) (fun r bv=>match r with
   |none=>R (.ok .next) bv
   |some v=>wpAny (model prog w) A (letOwnedTupleGo t1 it v) (fun _ Q2=>wpAny (model prog w) A (assign t1 env v) (fun _ dX=>
     wpAny (model prog w) A (eval i2 env) (fun x jM=>wpAny (model prog w) A (pyIter x) (fun j oF=>
      codeAny (model prog w) A (.compStart (.ListComp elt [⟨t1,i1,[],0⟩,⟨t2,i2,[],0⟩] scope pos) 1 j acc env) (fun r sK=>r= .ok .next/\ ∃m,m<n/\I m sK) oF) dy jM) dy dX) dy Q2) dy bv) dy s)
  (n:Nat)(h:I n s):codeAny (model prog w) A (.compLoop (.ListComp elt [⟨t1,i1,[],0⟩,⟨t2,i2,[],0⟩] scope pos) 0 it acc env) R s:=by
 refine Ov rfl I (fun n s hI=> ?_) n h
 show wpAny _ A ((compTurn (.ListComp elt [⟨t1,i1,[],0⟩,⟨t2,i2,[],0⟩] scope pos) 0 it acc env).onRaise (fun x=>do noteFrame x env;theTreesLotGoes x)) _ _ s
 refine wpAny_noted ?_
 rw[Px]
 refine Ld (aq (dC (aq (eK (turn n s hI) fun r bv sB=> ?_))))
 cases r with
 |none=>exact aM sB
 |some v=>
  refine aq (eK sB fun _ Q2 aan=> ?_)
  refine aq (eK aan fun _ dX aid=> ?_)
  refine aq (eK aid fun x jM acs=> ?_)
  refine aq (dC ?_)
  refine aq (wpAny_of_eq (hs x) ?_)
  refine aq (dJ (eK acs fun j oF aie=> ?_))
  refine aq (wpAny_runOwn (h:=none) (Ow aie fun r sK XY=> ?_))
  obtain⟨rfl,XY⟩:=XY
  exact aM ⟨rfl,XY⟩
end
section
variable{X:FX}{k:Nat}{W W':Wd}{fr fr':Fm}{σ aj:AS}{s s':az}{A:b6}{h h':bM}{C:PC}
theorem ady{x y:Nat}{it2 elt:EM}{a:AV}{r out:aa}{aL:AS}(e:jA x it2 y elt (a::r) fr σ=some (out,aL)){Q:List AV->Prop}(kk: ∀b ay l cO bs vf cs,it2 (put fr x a) σ=some (b,ay)->fJ ay b=some (l,cO)->
  eO [y] (fun _ σ=>some (true,σ)) elt l (put fr x a) cO=some (bs,vf)->jA x it2 y elt r fr vf=some (cs,aL)->Q (bs++cs)):Q out:=
 fW (show bA (it2 (put fr x a) σ) (fun s aj=>bA (fJ aj s) fun l ay=>bA (eO [y] (fun _ σ=>some (true,σ)) elt l (put fr x a) ay) fun bs eW=>bA (jA x it2 y elt r fr eW) fun cs cO=>some (bs++cs,cO))=some (out,aL) from e) fun b ay e1 e=>fW e fun l cO e2 e=>fW e fun bs vf e3 e=>fW e fun cs ap9 e4 e=>by
  cases e;exact kk b ay l cO bs vf cs e1 e2 e3 e4
theorem xu.walking{I:aC}{l:aa}{S:Nat->bM->Prop}{fp:List aC}{P:Nat->ah->Prop}(It:xu X W σ I l h S fp P)(L:ip X W σ I):iu X W σ I l 0 h S fp P:=⟨⟨h,It⟩,It.st,L⟩
theorem xu.im{bn cB:Wd}{I:aC}{l:aa}{S:Nat->bM->Prop}{fp:List aC}{P:Nat->ah->Prop}(It:xu X bn σ I l h S fp P)(h1:cB.ρ=bn.ρ)(h2:cB.im=bn.im):xu X cB σ I l h S fp P:=
 ⟨It.walks,It.st,fun b hb=>by rw[h2];exact It.fp b hb,fun i v hi p=>let⟨a,e,r⟩:=It.val i v hi p;⟨a,e,r.pr h1 h2⟩,It.obj⟩
theorem amw{a b c d e:aa}{n:Nat}(h:a++(b++e)=c++d)(hN:c.length+d.length<=n):a.length+b.length<=n:=by
 have:=congrArg nh h
 rw[ao,ao,ao]at this
 omega
theorem aet(O:vn X)(O':Hf X){x y:Nat}{nx ny:Str}{px py:Pos}{it2 elt:EM}{ee i1 i2:an}{scope:d4}{pos:Pos}(hx:kv X x nx)(hy:kv X y ny)(hxy:x≠y)(hi:b8 X k it2 i2)(hs: ∀v,foldedSetIterable i2 X.env v=pure v)(he:b8 X k elt ee):
  xJ X k (.ListComp ee [⟨.Name nx px,i1,[],0⟩,⟨.Name ny py,i2,[],0⟩] scope pos) 0 [x,y] (fun l fr σ=>jA x it2 y elt l (put fr y .unb) σ):=fun A Rm W fr σ s I l i S fp P D acc hD hi0 La out aL e hN R hR=>by
 have hfr:DX [x,y] fr=put (put fr y .unb) x .unb:=qv _ _ _ hxy
 rw[hfr]at La hR
 have hin:=TI O O' (k:=k) (afA (g:=⟨.Name nx px,i1,[],0⟩) (scope:=scope) (pos:=pos)) (Tg.name (p:=py) hy) Mx he (iter:=i2)
 refine zm hs (FH X W (put (put fr y .unb) x .unb) (fun l σ=>jA x it2 y elt l (put fr y .unb) σ) I l S fp P D (acc++out) aL) (fun n s' h=>h.turn Rm.handled hD (fun W' σ acc' out' bv le T L g e hEq=> ?_) fun i W' σ acc' out' a v bv hi' hn le La z e hEq=> ?_) (l.length-i)
  ⟨i,W,σ,acc,out,rfl,hi0,.refl _,La,e,rfl⟩
 ·cases e
  rw[aR]at hEq
  exact hR W' bv le T L (hEq▸g)
 ·subst hn
  revert hEq
  apply ady e;intro b ay l2 cO bs vf cs e1 e2 e3 e4 hEq
  refine La.w.go ?_
  refine anG (La.pin hD) fun FY cR xY him hpr back=> ?_
  have hfr2:DX [y] (put (put fr y .unb) x a)=put (put fr y .unb) x a:=by show put (put (put fr y .unb) x a) y .unb=_;rw[qv _ _ _ hxy,Df]
  refine eK (H1 O O' hx A Rm.handled FY _ σ bv cR a v (z.pr xY him) (put (put fr y .unb) x a) (congrArg some (Df _ _ _ _))) fun _ dX jc=> ?_
  refine hi.go Rm jc e1 fun xv jM xN hH ol arn=>eK (vZ ol e2 arn) fun jv oF z=>z.elim fun J Xa S2 fp2 P2 Yd xM LJ It2=> ?_
  have l05:=hH.trans Yd
  refine uj (hpr J (by rw[<- l05.2.2];exact LJ.pr)) fun hJp hJI hJD=> ?_
  refine ul (back l05 xM) fun IU le6 hV1 hV2 wF=> ?_
  have LJ6:ip X IU cO J:=⟨by rw[hV2];exact LJ.im,by rw[le6.2.2];exact hJp,fun a cc p e e'=>LJ.cell a cc p e (by rw[<- hV1];exact e'),LJ.out⟩
  refine fg (wF.w.pin wF.T) fun oI aqj back7=> ?_
  have aoa:G2 X (IU.pin I oI) (put (put fr y .unb) x a) cO J l2 0 S2 fp2 P2 D acc' oF:=by
   refine Te (wF.g) fun vs m g q=> ?_
   exact⟨aqj,(show xu X (IU.pin I oI) cO J l2 oF.heap S2 fp2 P2 from It2.im hV1 hV2).walking ⟨LJ6.im,by rw[jC hJI];exact LJ6.pr,LJ6.cell,LJ6.out⟩,⟨wF.L.im,by rw[jC hD];exact wF.L.pr,wF.L.cell,wF.L.out⟩,vs,m,g,q.pr rfl rfl⟩
  have inner:codeAny (dH X.C) A (.compLoop (.ListComp ee [⟨.Name nx px,i1,[],0⟩,⟨.Name ny py,i2,[],0⟩] scope pos) 1 (.ref J) (.ref D) X.env) (fun r sK=>r= .ok .next/\ ∃m,m<l.length-i/\FH X W (put (put fr y .unb) x .unb) (fun l σ=>jA x it2 y elt l (put fr y .unb) σ) I l S fp P D (acc++out) aL m sK) oF:=by
   refine hin A Rm (IU.pin I oI) (put (put fr y .unb) x a) cO oF J l2 0 S2 fp2 P2 D acc' (tA hJD) (aS _) (by rw[hfr2];exact aoa) bs vf e3 (amw hEq hN) _ fun aql sK aqE anw afK g=>⟨rfl,?_⟩
   rw[hfr2]at anw
   refine Te (g) fun vs m aqz aq5=> ?_
   refine uj (back7 aqE anw) fun le9 aqk arl=> ?_
   have aob:G2 X {aql with pr:=IU.pr} (put (put fr y .unb) x .unb) vf I l (i+1) S fp P D (acc'++bs) sK:=⟨aqk.forget (QH fun j b h e=>.inr (N6 _ _ _ _ _ h e)),arl,⟨afK.im,wF.L.pr,afK.cell,afK.out⟩,vs,m,aqz,aq5.pr rfl rfl⟩
   exact FH.less hi' (le.trans (le6.trans le9)) aob e4 (by rw[aB];exact hEq)
  exact zn inner ((It2.walks A Rm.handled).self 0 _ _ _ It2.st inner)
end
end
end
section
open PySem.SeqAt
noncomputable section
section
variable{X:FX}{k:Nat}{W W':Wd}{fr fr':Fm}{σ aj:AS}{s s':az}{A:b6}{h h':bM}{C:PC}
theorem As: ∀{names:List (Str×cT)} {n:Str} (m:Nat) (acc:List (Str×aC)),((n,eM)∈names\/(acc.lookup n).isSome=true)->((cellsFrom m names acc).lookup n).isSome=true:=by
 intro names
 induction names with
 |nil=>intro n m acc h;exact h.resolve_left bh
 |cons p r ih=>
  intro n m acc h
  obtain⟨x,kd⟩:=p
  unfold cellsFrom
  split
  ·refine ih _ _ ?_
   by_cases hx:n=x
   ·subst hx;exact .inr (by rw[gu];rfl)
   ·refine h.imp (fun h=>(aH.mp h).resolve_left fun e=>hx (congrArg Prod.fst e)) fun h=> ?_
    rw[cE,beq_eq_false_iff_ne.mpr hx];exact h
  ·rename_i hk
   refine ih _ _ (h.imp_left fun h=>(aH.mp h).resolve_left fun e=> ?_)
   cases e;exact hk rfl
theorem Xn{kindOf:Str->Option cT}: ∀{binds:List (Str×ah)} {m:Str->Option ah} {x:Str},x∉binds.map (·.1)->bindL kindOf binds m x=m x:=by
 intro binds
 induction binds with
 |nil=>exact fun _=>rfl
 |cons p r ih=>
  intro m x h
  obtain⟨n,v⟩:=p
  have h1:x≠n:=fun e=>h (e▸bg)
  show bindL kindOf r (if kindOf n=some .local then fun y=>if y=n then some v else m y else m) x=m x
  rw[ih fun q=>h (aQ _ q)]
  split
  ·exact if_neg h1
  ·rfl
theorem Xm{kindOf:Str->Option cT}: ∀{binds:List (Str×ah)} {m:Str->Option ah} {x:Str},x∉binds.map (·.1)->bindC kindOf binds m x=m x:=by
 intro binds
 induction binds with
 |nil=>exact fun _=>rfl
 |cons p r ih=>
  intro m x h
  obtain⟨n,v⟩:=p
  have h1:x≠n:=fun e=>h (e▸bg)
  show bindC kindOf r (if kindOf n=some .local then m else fun y=>if y=n then some v else m y) x=m x
  rw[ih fun q=>h (aQ _ q)]
  split
  ·rfl
  ·exact if_neg h1
theorem H7{ps:List Str}{ws:List ah}(hl:ws.length=ps.length):(ps.zip ws).map (·.1)=ps:=by
 rw[<- List.unzip_fst,List.unzip_zip_left (by omega)]
theorem adt{kindOf:Str->Option cT}: ∀{ps:List Str} {ws:List ah} {m:Str->Option ah} {i:Nat} {x:Str} {v:ah},ps.Nodup->ps.length=ws.length->ps[i]? =some x->ws[i]? =some v->kindOf x=some .local->bindL kindOf (ps.zip ws) m x=some v:=by
 intro ps
 induction ps with
 |nil=>intro ws m i x v _ _ e;cases e
 |cons p ps ih=>
  intro ws m i x v hN hl e e' hk
  rw[dT]at hN
  cases ws with
  |nil=>cases e'
  |cons w ws=>
   have hl:=jZ hl
   cases i with
   |zero=>
    have e:p=x:=aI e
    have e':w=v:=aI e'
    subst e e'
    show bindL kindOf (ps.zip ws) (if kindOf p=some .local then fun y=>if y=p then some w else m y else m) p=some w
    rw[Xn (by rw[H7 hl.symm];exact hN.1),if_pos hk,if_pos rfl]
   |succ i=>exact ih hN.2 hl e e' hk
theorem ads{kindOf:Str->Option cT}: ∀{ps:List Str} {ws:List ah} {m:Str->Option ah} {i:Nat} {x:Str} {v:ah},ps.Nodup->ps.length=ws.length->ps[i]? =some x->ws[i]? =some v->kindOf x=some .cell->bindC kindOf (ps.zip ws) m x=some v:=by
 intro ps
 induction ps with
 |nil=>intro ws m i x v _ _ e;cases e
 |cons p ps ih=>
  intro ws m i x v hN hl e e' hk
  rw[dT]at hN
  cases ws with
  |nil=>cases e'
  |cons w ws=>
   have hl:=jZ hl
   cases i with
   |zero=>
    have e:p=x:=aI e
    have e':w=v:=aI e'
    subst e e'
    show bindC kindOf (ps.zip ws) (if kindOf p=some .local then m else fun y=>if y=p then some w else m y) p=some w
    rw[Xm (by rw[H7 hl.symm];exact hN.1),if_neg (by rw[hk];decide),if_pos rfl]
   |succ i=>exact ih hN.2 hl e e' hk
structure abJ(C:PC)(fd:gM)(nm:Nat->Option Str)(X:FX):Prop where
 C:X.C=C
 ok:vn X
 nm:X.names=nm
 scope:X.env.scope=fd.scope
 own: ∀n c,X.env.cells.lookup n=some c->c∈X.own
 cells: ∀n,(n,eM)∈fd.scope.names-> ∃c,X.env.cells.lookup n=some c
structure afJ(C:PC)(f:aC)(fd:gM)(body:List bW)(ps:List Str)(dfl:List AV)(nm:Nat->Option Str):Prop where
 there: ∃o,C.K.lookup f=some o/\o.data= .func fd
 code:codeIn C.K fd.code fd.qualname=true
 body:fd.body= .stmts body
 clo:fd.closure=[]
 glob:fd.globals=mainGlobals
 blt:fd.builtins=builtinsNs
 kind:fd.scope.kind= .function
 coro:fd.scope.isCoroutine=false
 gen:fd.scope.isGenerator=false
 bind: ∀W σ s args vs,cD C W σ s.heap->VL C W args vs->args.length<=ps.length->ps.length<=args.length+dfl.length->
  ∃ws,VL C W (args++dfl.drop (args.length+dfl.length-ps.length)) ws/\Sz s fd ⟨vs,[]⟩ (ps.zip ws)
 nodup:ps.Nodup
 kinds: ∀x∈ps,fd.scope.names.lookup x=some .local\/fd.scope.names.lookup x=some .cell
 nmAt: ∀(i:Nat) x,i<ps.length->nm i=some x->ps[i]? =some x
 plain: ∀i x,nm i=some x->(x==("__debug__":Str)||x==("__classdict__":Str))=false
def pU(C:PC)(k:Nat)(f:ah)(F:aW):Prop:=
 ∀A,eV A k-> ∀W σ s args vs,cD C W σ s.heap->VL C W args vs->1<=s.toks-> ∀a aj,F args σ=some (a,aj)->
  codeAny (dH C) A (.call f ⟨vs,[]⟩) (fun r s'=>match r with| .ok (.ret v)=>Sm s s'/\ ∃W',W.le W'/\cD C W' aj s'.heap/\V C W' a v| .ok _=>False| .error e=>dy e s') s
theorem pU.snd{f:ah}{F:aW}(h:pU C k f F):aF C k f F:=fun A Rm W σ s args vs R hv tk a aj e=>oT (h A Rm W σ s args vs R hv tk a aj e)
theorem S5{a d p:Nat}(h1:a<=p)(h2:p<=a+d):a+(d-(a+d-p))=p:=by omega
theorem ack{f:aC}{fd:gM}{body:List bW}{ps:List Str}{dfl:aa}{nm:Nat->Option Str}(F:afJ C f fd body ps dfl nm){A:b6}(Rm:eV A (k+1)){args:aa}{vs:List ah}(R:cD C W σ s.heap)(hv:VL C W args vs)(tk:1<=s.toks)(h1:args.length<=ps.length)(h2:ps.length<=args.length+dfl.length){Rz:tR->az->Prop}
  (hb: ∀X,abJ C fd nm X->X.nz=s->eV (A.deeper X.env) k-> ∀bv,(∀b o,s.heap.get? b=some o->bv.heap.get? b=some o)->(∀c,X.Has c->s.heap.get? c=none)->St X W (args++dfl.drop (args.length+dfl.length-ps.length)) σ bv->
   wpAny (dH C) (A.deeper X.env) (execs body X.env) (fun fl dX=>Rz (.ok (.ret (match fl with| .ret v=>v|_=>.none))) dX) dy bv):codeAny (dH C) A (.call (.ref f) ⟨vs,[]⟩) Rz s:=by
 refine fg (F.bind W σ s args vs R hv h1 h2) fun ws hws hbind=> ?_
 refine fg (F.there) fun o ho hd=> ?_
 have hwl:ws.length=ps.length:=by rw[hws.length,ao,hV];exact S5 h1 h2
 have K:=R.K
 have hcell: ∀x∈ps,fd.scope.names.lookup x=some .cell-> ∀m,((cellsFrom m fd.scope.names []).lookup x).isSome=true:=fun x hx hl m=>As _ _ (.inl (mem_of_lookup hl))
 refine codeAny_call_function Rm.d0 (K _ _ ho) hd F.coro F.gen F.body (codeRec_of K F.code) (hbind _ _ _ _ ?_)
 rw[F.clo]
 refine wpAny_with_toks (ax s.toks) (wpAny_newFunctionEnv_cells F.kind (fun x hx=> ?_) fun env he bv x=>fun htk=> ?_)
 ·have hx':x.1∈ps:=by rw[<- H7 hwl];exact List.mem_map_of_mem hx
  exact(F.kinds x.1 hx').imp id fun h=>⟨h,hcell x.1 hx' h _⟩
 ·have hns:env.scope=fd.scope:=by rw[he];rfl
  have hcs:env.cells=cellsFrom (s.heap.objs.size+1) fd.scope.names []:=by rw[he];rfl
  have keep:=x.toInCall.keep
  have hL:s.heap.objs.size<=env.locals:=x.toInCall.fresh
  have hC: ∀n c,env.cells.lookup n=some c->s.heap.objs.size<=c:=fun n c e=>gP (eC hL (x.above n c (mem_of_lookup e)))
  refine⟨(C.nolimit.keeps fun b o e=>R.im _ _ (R.base _ _ e)).keeps keep,codeAny_func ?_⟩
  let X:FX:=⟨C,env,nm,env.locals::env.cells.filterMap (fun p=>env.cells.lookup p.1),s⟩
  have hown: ∀n c,env.cells.lookup n=some c->c∈X.own:=fun n c e=>aQ _ (lF.mpr ⟨(n,c),mem_of_lookup e,e⟩)
  have has: ∀c,X.Has c->s.heap.objs.size<=c:=fun c hc=>by
   rcases hc with rfl|⟨n,e⟩|e
   ·exact hL
   ·exact hC n c e
   ·rcases aH.mp e with rfl|e
    ·exact hL
    ·refine fg (lF.mp e) fun p hp e=> ?_
     exact hC _ _ e
  have ok:vn X:=⟨by show env.scope.kind=_;rw[hns];exact F.kind,by show env.globals=_;rw[he];exact F.glob,by show env.builtins=_;rw[he];exact F.blt,bg,x.apart,
   fun n c e=>oP (x.above n c (mem_of_lookup e)),F.plain⟩
  have B:abJ C fd nm X:=⟨rfl,ok,rfl,hns,hown,fun n hn=>by
   show ∃c,env.cells.lookup n=some c
   rw[hcs];exact fq.mp (As _ _ (.inl hn))⟩
  have hsm:Sm s bv:=by obtain⟨sB,ali,e⟩:=x.toInCall.same;exact⟨sB,ali,e,by rw[e]at htk;exact htk⟩
  have T:St X W (args++dfl.drop (args.length+dfl.length-ps.length)) σ bv:=by
   refine⟨R.keeps keep,⟨⟨_,x.toInCall.ns,fun i a e=>.inr fun y hy=> ?_⟩,fun n c e=>⟨_,x.cell n c e⟩,fun c hc=>R.cell_new (has c hc),fun c hc=>R.im_new (has c hc),fun c hc=>R.pr_new (has c (.inr (.inr hc))),fun c hc=> ?_⟩,tk,hsm⟩
   ·have hi:i<ps.length:=by
     have:=(cW.mp e).1
     rwa[ao,hV,S5 h1 h2]at this
    refine fg (hws.get e) fun v e' q=> ?_
    have hp:=F.nmAt i y hi hy
    refine⟨v,?_,q⟩
    have hy':y∈ps:=bb hp
    have hk: ∀kd,fd.scope.names.lookup y=some kd->env.kindOf y=some kd:=fun kd h=>by show env.scope.names.lookup y=_;rw[hns];exact h
    unfold jd
    rcases F.kinds y hy' with hl|hl
    ·rw[show X.env.kindOf y=some .local from hk _ hl]
     exact adt F.nodup hwl.symm hp e' (hk _ hl)
    ·rw[show X.env.kindOf y=some .cell from hk _ hl]
     obtain⟨c,hc⟩:=fq.mp (hcell y hy' hl (s.heap.objs.size+1))
     rw[<- hcs]at hc
     refine⟨c,hc,?_⟩
     have z:=x.cell y c hc
     rw[ads F.nodup hwl.symm hp e' (hk _ hl)]at z;exact z
   ·rcases hc with rfl|⟨n,e⟩|e
    ·obtain⟨o,_,_,z,_⟩:=x.toInCall.ns;exact⟨o,z⟩
    ·obtain⟨o,z,_⟩:=x.cell n c e;exact⟨o,z⟩
    ·rcases aH.mp e with rfl|e
     ·obtain⟨o,_,_,z,_⟩:=x.toInCall.ns;exact⟨o,z⟩
     ·refine fg (lF.mp e) fun p hp e=> ?_
      obtain⟨o,z,_⟩:=x.cell _ c e;exact⟨o,z⟩
  exact Ld (hb X B rfl (Rm.deeper env) bv keep (fun c hc=>by
   cases e:s.heap.get? c with
   |none=>rfl
   |some o=>exact absurd (cz e) (b7.mpr (has c hc))) T)
theorem akK{f:aC}{fd:gM}{body:List bW}{ps:List Str}{dfl:aa}{nm:Nat->Option Str}{b:SM}(F:afJ C f fd body ps dfl nm)(hb: ∀X,abJ C fd nm X->mW X k b body):pU C (k+1) (.ref f) (bo ps.length dfl b):=fun A Rm W σ s args vs R hv tk a aj e=>by
 refine kS e fun hc e=> ?_
 rw[iy,iy]at hc e
 rw[Xe,Td]at e
 obtain⟨h1,h2⟩:=bk.mp hc
 refine ack F Rm R hv tk (av h1) (av h2) fun X B es Rm' bv _ _ T=> ?_
 have hC:=B.C
 subst hC
 refine oE e fun r q e=>eK (hb X B _ Rm' W _ σ bv T r q) fun fl dX P=> ?_
 cases r with
 |next gY ay=>
  apply s2 e
  obtain⟨rfl,bn,bD,bz⟩:=P
  exact⟨es▸bz.sm.2,bn,bD,bz.rel,rfl⟩
 |ret xO ay=>
  apply s2 e
  obtain⟨v,gY,rfl,bn,bD,bz,z⟩:=P
  exact⟨es▸bz.sm.2,bn,bD,bz.rel,z⟩
 |brk _ _=>exact nn e
 |cont _ _=>exact nn e
end
end
end
section
open PySem.SeqAt
noncomputable section
noncomputable def CJ:List (Str×ah)->List (Str×ah)->List (Str×ah)
 |[],sl=>sl
 |(n,d)::r,sl=>CJ r (if(sl.lookup n).isNone then sl++[(n,d)]else sl)
theorem Yc{ps:List Str}{vs:List ah}: ∀{n:Str},n∈ps.take vs.length->((ps.zip vs).lookup n).isSome=true:=by
 induction ps generalizing vs with
 |nil=>intro n h;simp at h
 |cons p ps ih=>
  intro n h
  cases vs with
  |nil=>simp at h
  |cons v vs=>
   simp only[bT,Bj,aH]at h
   rw[bQ,cE]
   cases q:n==p with
   |true=>rfl
   |false=>exact ih (h.resolve_left fun e=>by rw[e]at q;simp at q)
theorem aad: ∀(L:List (Str×ah)) (sl:List (Str×ah)),(forIn L sl fun x r=>if(qE x.fst r).isNone=true then pure (gL (r++[(x.fst,x.snd)]))else pure (gL r):Sem (List (Str×ah)))=pure (CJ L sl):=by
 intro L
 induction L with
 |nil=>exact fun sl=>rfl
 |cons p L ih=>
  intro sl
  rw[gN]
  show(if(qE p.1 sl).isNone=true then _ else _)>>=_=pure (CJ L (if(sl.lookup p.1).isNone then sl++[(p.1,p.2)]else sl))
  split
  ·rw[pure_bind];exact ih _
  ·rw[pure_bind];exact ih _
theorem Nv{fd:gM}{s:az}{vs ds:List ah}{ps:List Str}{d:Option (Array ah)}(h1:fd.params.posonlyargs=[])(h2:fd.params.kwonlyargs=[])(h3:fd.params.vararg=none)(h4:fd.params.kwarg=none)(hps:fd.params.args.map (·.arg)=ps)
  (hd: ∀(M:lp) (A:b6) (E:ah->az->Prop) (Q:Option (Array ah)->az->Prop),Q d s->wpAny M A (seqItems? fd.defaults) Q E s)(hds:(d.getD #[]).toList=ds)(hl:vs.length<=ps.length)(hl2:ps.length<=vs.length+ds.length)(hl3:ds.length<=ps.length):
  Sz s fd ⟨vs,[]⟩ (ps.filterMap fun n=>((CJ ((ps.drop (ps.length-ds.length)).zip ds) (ps.zip vs)).lookup n).map (n,·)):=fun M A E Q hQ=>by
 obtain⟨f1,f2,⟨po,ar,va,ko,kd,ka,ds0⟩,f4,f5,f6,f7,dflt,f9⟩:=fd
 dsimp only at h1 h2 h3 h4 hps hd
 subst h1 h2 h3 h4 hps
 refine aq (m:=seqItems? dflt) (hd M A E _ ?_)
 rw[hds]
 rw[if_neg (by simp only[cM,decide_eq_true_eq,not_and];exact fun h=>absurd h (b7.mpr (by simpa using hl)))]
 have z:ds.length-(ar.map (·.arg)).length=0:=Nat.sub_eq_zero_of_le hl3
 have miss:Rw (fun n=>(((ar.map (·.arg)).zip vs).lookup n).isNone) ((ar.map (·.arg)).take ((ar.map (·.arg)).length -ds.length))=[]:=by
  rw[List.filter_eq_nil_iff]
  intro n hn
  have:(((ar.map (·.arg)).zip vs).lookup n).isSome=true:=Yc (by
   have:(ar.map (·.arg)).take ((ar.map (·.arg)).length -ds.length)=((ar.map (·.arg)).take vs.length).take ((ar.map (·.arg)).length -ds.length):=by rw[Kl,Ij (by omega)]
   rw[this]at hn;exact List.mem_of_mem_take hn)
  rw[dG]
  intro q;rw[q]at this;cases this
 rw[if_neg]
 rotate_left
 ·show ¬((!(Rw (fun n=>(((ar.map (·.arg)).zip vs).lookup n).isNone) ((ar.map (·.arg)).take ((ar.map (·.arg)).length -(ds.drop (ds.length-(ar.map (·.arg)).length)).length))).isEmpty)=true)
  rw[z,ma,miss];decide
 refine aq (m:=forIn _ _ _) ?_
 rw[aad]
 refine aM (aM ?_)
 show Q (List.filterMap (fun n=>Option.map (fun x=>(n,x)) (qE n (CJ ((Bw ((ar.map (·.arg)).length -(ds.drop (ds.length-(ar.map (·.arg)).length)).length) (ar.map (·.arg))).zip (ds.drop (ds.length-(ar.map (·.arg)).length))) ((ar.map (·.arg)).zip vs)))) (ar.map (·.arg)++[])) s
 rw[z,ma,aR]
 exact hQ
theorem Mo{l m:List (Str×ah)}{x:Str}:(l++m).lookup x=(l.lookup x).or (m.lookup x):=by
 induction l with
 |nil=>simp
 |cons p l ih=>
  rw[fi,cE,cE]
  split<;>simp_all
theorem F4{x:Str}: ∀(L sl:List (Str×ah)),(CJ L sl).lookup x=(sl.lookup x).or (L.lookup x)
 |[],sl=>by simp[CJ]
 |(n,d)::r,sl=>by
  unfold CJ
  rw[F4 r,cE]
  cases q:x==n with
  |true=>
   have:=beq_iff_eq.mp q
   subst this
   cases z:sl.lookup x with
   |none=>
    simp only[Option.isNone_none,if_true]
    rw[Mo,z]
    simp
   |some v=>simp[z]
  |false=>
   split
   ·rw[Mo]
    have:qE x [(n,d)]=none:=by rw[cE,q];rfl
    rw[this];simp
   ·rfl
theorem uA: ∀{ps:List Str} {vs:List ah} {i:Nat} {x:Str},ps.Nodup->ps[i]? =some x->(ps.zip vs).lookup x=vs[i]?
 |[],_,_,_,_,e=>by simp at e
 |_::_,[],_,_,_,_=>by simp
 |p::ps,v::vs,0,x,_,e=>by cases e;simp
 |p::ps,v::vs,i+1,x,hN,e=>by
  rw[dT]at hN
  have e:ps[i]? =some x:=by simpa using e
  have hx:x∈ps:=bb e
  have:(x==p)=false:=by
   rw[beq_eq_false_iff_ne];rintro rfl;exact hN.1 hx
  rw[bQ,cE,this]
  simpa using uA (vs:=vs) hN.2 e
theorem CK{g:Str->Option ah}: ∀{ps:List Str} {ws:List ah},ps.length=ws.length->(∀(i:Nat) x w,ps[i]? =some x->ws[i]? =some w->g x=some w)->ps.filterMap (fun n=>(g n).map (n,·))=ps.zip ws
 |[],_,_,_=>by simp
 |_::_,[],h,_=>by simp at h
 |p::ps,w::ws,h,hg=>by
  have h0:=hg 0 p w rfl rfl
  have ih:=CK (g:=g) (ps:=ps) (ws:=ws) (by simpa using h) fun i x w e e'=>hg (i+1) x w (by simpa using e) (by simpa using e')
  rw[k9,h0]
  simp[ih]
theorem ix0{i p d v:Nat}(h:p<=v+d)(hv:v<=i):p-d<=i:=Nat.sub_le_of_le_add (au h (Nat.add_le_add_right hv d))
theorem ix1{i q:Nat}(h:q<=i):q+(i-q)=i:=Bk h
theorem ix2{i p d v:Nat}(h:p<=v+d)(h3:d<=p)(hv:v<=i):i-(p-d)=v+d-p+(i-v):=by
 obtain⟨a,rfl⟩:=jm h3
 obtain⟨b,rfl⟩:=jm hv
 rw[mO,lG v d,Nat.add_sub_add_left,mO]
 exact Nat.sub_add_comm (Nat.le_of_add_le_add_left (by rw[lG v d]at h;exact h))
theorem Xo{fd:gM}{s:az}{vs ds:List ah}{ps:List Str}{d:Option (Array ah)}(h1:fd.params.posonlyargs=[])(h2:fd.params.kwonlyargs=[])(h3:fd.params.vararg=none)(h4:fd.params.kwarg=none)(hps:fd.params.args.map (·.arg)=ps)
  (hd: ∀(M:lp) (A:b6) (E:ah->az->Prop) (Q:Option (Array ah)->az->Prop),Q d s->wpAny M A (seqItems? fd.defaults) Q E s)(hds:(d.getD #[]).toList=ds)(hl:vs.length<=ps.length)(hl2:ps.length<=vs.length+ds.length)(hl3:ds.length<=ps.length)(hN:ps.Nodup):
  Sz s fd ⟨vs,[]⟩ (ps.zip (vs++ds.drop (vs.length+ds.length-ps.length))):=by
 have:=Nv h1 h2 h3 h4 hps hd hds hl hl2 hl3
 rw[CK (ws:=vs++ds.drop (vs.length+ds.length-ps.length)) (by rw[ao,hV];omega)]at this
 ·exact this
 ·intro i x w e e'
  have hi:i<ps.length:=(cW.mp e).1
  rw[F4,uA hN e]
  by_cases hv:i<vs.length
  ·rw[List.getElem?_append_left hv]at e'
   rw[e'];rfl
  ·rw[kJ (b7.mp hv),q9]at e'
   rw[n8 (b7.mp hv),Km]
   have hN':(ps.drop (ps.length-ds.length)).Nodup:=hN.sublist (List.drop_sublist _ _)
   rw[uA (i:=i-(ps.length-ds.length)) hN' (by rw[q9,ix1 (ix0 hl2 (b7.mp hv))];exact e),<- e',ix2 hl2 hl3 (b7.mp hv)]
theorem Yk{v:ah}{s:az}(hv:v= .none): ∀(M:lp) (A:b6) (E:ah->az->Prop) (Q:Option (Array ah)->az->Prop),Q none s->wpAny M A (seqItems? v) Q E s:=fun _ _ _ _ h=>by
 subst hv;exact aq (aM (aM h))
end
end
section
open PySem.SeqAt
noncomputable section
structure SI where
 names:List (Str×cT)
 nm:List (Nat×Str)
 own:Bool
noncomputable def SI.kind(st:SI)(x:Str):Option cT:=st.names.lookup x
def TZ(a b:Str):Bool:=dp a.cps.toList b.cps.toList
theorem T0{a b:Str}(h:TZ a b=true):a=b:=by
 have h:dp a.cps.toList b.cps.toList=true:=h
 rw[kW]at h
 have h:=GB.mp (ag h)
 cases a;cases b;cases h;rfl
theorem aa6{a:Str}:TZ a a=true:=by
 show dp a.cps.toList a.cps.toList=true
 rw[kW];exact decide_eq_true rfl
def oS(o:Option Str)(y:Str):Bool:=bp (motive:=fun _=>Bool) false (fun x=>TZ x y) o
theorem HK{o:Option Str}{y:Str}(h:oS o y=true):o=some y:=by
 cases o with
 |none=>cases h
 |some x=>exact congrArg some (T0 h)
def Qo(l:List (Str×cT))(x:Str):Option cT:=bt (motive:=fun _=>Option cT) none (fun p _ ih=>Bool.rec (motive:=fun _=>Option cT) ih (some p.2) (TZ x p.1)) l
theorem K7(l:List (Str×cT))(x:Str):Qo l x=l.lookup x:=by
 induction l with
 |nil=>rfl
 |cons p l ih=>
  obtain⟨y,v⟩:=p
  show Bool.rec (motive:=fun _=>Option cT) (Qo l x) (some v) (TZ x y)=_
  rw[cE,<- ih]
  cases h:TZ x y with
  |true=>rw[T0 h,beq_self_eq_true]
  |false=>rw[beq_eq_false_iff_ne.mpr fun e=>by rw[e,aa6]at h;cases h]
noncomputable def SI.at_(st:SI)(i:Nat):Option Str:=st.nm.lookup i
noncomputable def pp{α:Type}[BEq α]:List α->Bool
 |[]=>true
 |x::r=> !r.contains x&&pp r
noncomputable def zC(x:Str):Bool:= !(x==("__debug__":Str)||x==("__classdict__":Str))
noncomputable def SI.inner(st:SI)(scope:d4)(xs:ac)(ts:List Str):SI:=
 {names:=scope.names.map fun p=>if(p.2==dB&&st.kind p.1==some eM)then(p.1,eM)else p
  nm:=xs.zip ts++st.nm.filter fun p=> !xs.contains p.1&&scope.names.lookup p.2==some .free
  own:=false}
noncomputable def NT(st:SI)(scope:d4)(xs:ac)(ts:List Str):Bool:=
 scope.kind== .function&&scope.names.all (fun y=>y.2 != .cell)&&scope.names.all (fun y=>y.2 != .local||scope.names.lookup y.1==some .local)&&
 scope.names.all (fun y=>y.2 != .free||(st.kind y.1==some .cell||st.kind y.1==some .free))&&pp (scope.names.map (·.1))&&
 ts.all (fun t=>scope.names.lookup t==some .local&&zC t)&&pp ((st.inner scope xs ts).nm.map (·.2))&&xs.length==ts.length&&pp xs&&pp (st.nm.map (·.1))
theorem aE{a b:Bool}{P:Prop}(h:(a&&b)=true)(k:a=true->b=true->P):P:=by
 cases a with
 |true=>exact k rfl h
 |false=>exact ff h
theorem rE{a b:Bool}{P:Prop}(h:(a||b)=true)(k:a=true->P)(k':b=true->P):P:=by
 cases a with
 |true=>exact k rfl
 |false=>exact k' h
@[elab_as_elim] theorem dE {α:Type} {a b:α} {i:Decidable (a=b)} {Q:α->Prop} (h:decide (a=b)=true) (k:Q a):Q b:=ag h▸k
theorem pq{a:Bool}(h:(!a)=true):a=false:=by cases a with
 |true=>cases h
 |false=>rfl
def Dd{α:Type}(o:Option α)(f:α->Bool):Bool:=bp (motive:=fun _=>Bool) false f o
@[elab_as_elim] theorem aiZ {α:Type} {Q:Option α->Prop} {o:Option α} {f:α->Bool} (h:Dd o f=true) (k: ∀a,f a=true->Q (some a)):Q o:=by
 cases o with
 |some a=>exact k a h
 |none=>exact ff h
def hd{α:Type}(l:List α)(f:α->List α->Bool):Bool:=bt (motive:=fun _=>Bool) false (fun a r _=>f a r) l
@[elab_as_elim] theorem Vv {α:Type} {Q:List α->Prop} {l:List α} {f:α->List α->Bool} (h:hd l f=true) (k: ∀a r,f a r=true->Q (a::r)):Q l:=by
 cases l with
 |cons a r=>exact k a r h
 |nil=>exact ff h
def nl{α:Type}(l:List α)(b:Bool):Bool:=bt (motive:=fun _=>Bool) b (fun _ _ _=>false) l
@[elab_as_elim] theorem Jq {α:Type} {Q:List α->Prop} {l:List α} {b:Bool} (h:nl l b=true) (k:b=true->Q []):Q l:=by
 cases l with
 |cons a r=>exact ff h
 |nil=>exact k h
def uE{α:Type}(l:List α)(f:α->Bool):Bool:=hd l fun a r=>nl r (f a)
@[elab_as_elim] theorem pv {α:Type} {Q:List α->Prop} {l:List α} {f:α->Bool} (h:uE l f=true) (k: ∀a,f a=true->Q [a]):Q l:=Vv h fun a _ h=>Jq h fun h=>k a h
def DW{α:Type}(l:List α)(f:α->α->Bool):Bool:=hd l fun a r=>uE r (f a)
@[elab_as_elim] theorem w8 {α:Type} {Q:List α->Prop} {l:List α} {f:α->α->Bool} (h:DW l f=true) (k: ∀a b,f a b=true->Q [a,b]):Q l:=Vv h fun a _ h=>pv h fun b h=>k a b h
def Wh{α:Type}(l:List α)(f:α->α->α->Bool):Bool:=hd l fun a r=>DW r (f a)
@[elab_as_elim] theorem Za {α:Type} {Q:List α->Prop} {l:List α} {f:α->α->α->Bool} (h:Wh l f=true) (k: ∀a b c,f a b c=true->Q [a,b,c]):Q l:=Vv h fun a _ h=>w8 h fun b c h=>k a b c h
theorem pM{c:Prop}{i:Decidable c}{t:c->Bool}{P:Prop}(h:(if h:c then t h else false)=true)(k: ∀hc,t hc=true->P):P:=by
 cases i with
 |isTrue hc=>exact k hc h
 |isFalse hc=>exact ff h
noncomputable def sj(x:an)(f:Str->Bool):Bool:=if h:x.ctorIdx=23 then xe (motive_1:=fun _=>Bool) x h (fun x0 _=>f x0)else false
@[elab_as_elim] theorem pK {Q:an->Prop} {x:an} {f:Str->Bool} (h:sj x f=true) (k: ∀(x0:Str) (x1:Pos),f x0=true->Q (.Name x0 x1)):Q x:=pM h fun hc h=>xe (motive_1:=fun x=> ∀hc:x.ctorIdx=23,xe (motive_1:=fun _=>Bool) x hc (fun x0 _=>f x0)=true->Q x) x hc (fun x0 x1 _ h=>k x0 x1 h) hc h
noncomputable def ac5(x:an)(f:Const->Bool):Bool:=if h:x.ctorIdx=19 then qY (motive_1:=fun _=>Bool) x h (fun x0 _ _=>f x0)else false
@[elab_as_elim] theorem Rk {Q:an->Prop} {x:an} {f:Const->Bool} (h:ac5 x f=true) (k: ∀(x0:Const) (x1:Nat) (x2:Pos),f x0=true->Q (.Constant x0 x1 x2)):Q x:=pM h fun hc h=>qY (motive_1:=fun x=> ∀hc:x.ctorIdx=19,qY (motive_1:=fun _=>Bool) x hc (fun x0 _ _=>f x0)=true->Q x) x hc (fun x0 x1 x2 _ h=>k x0 x1 x2 h) hc h
noncomputable def an7(x:an)(f:an->iH->an->Bool):Bool:=if h:x.ctorIdx=2 then vq (motive_1:=fun _=>Bool) x h (fun x0 x1 x2 _=>f x0 x1 x2)else false
@[elab_as_elim] theorem ap7 {Q:an->Prop} {x:an} {f:an->iH->an->Bool} (h:an7 x f=true) (k: ∀(x0:an) (x1:iH) (x2:an) (x3:Pos),f x0 x1 x2=true->Q (.BinOp x0 x1 x2 x3)):Q x:=pM h fun hc h=>vq (motive_1:=fun x=> ∀hc:x.ctorIdx=2,vq (motive_1:=fun _=>Bool) x hc (fun x0 x1 x2 _=>f x0 x1 x2)=true->Q x) x hc (fun x0 x1 x2 x3 _ h=>k x0 x1 x2 x3 h) hc h
noncomputable def xUn(x:an)(f:SE->an->Bool):Bool:=if h:x.ctorIdx=3 then sq (motive_1:=fun _=>Bool) x h (fun x0 x1 _=>f x0 x1)else false
@[elab_as_elim] theorem alC {Q:an->Prop} {x:an} {f:SE->an->Bool} (h:xUn x f=true) (k: ∀(x0:SE) (x1:an) (x2:Pos),f x0 x1=true->Q (.UnaryOp x0 x1 x2)):Q x:=pM h fun hc h=>sq (motive_1:=fun x=> ∀hc:x.ctorIdx=3,sq (motive_1:=fun _=>Bool) x hc (fun x0 x1 _=>f x0 x1)=true->Q x) x hc (fun x0 x1 x2 _ h=>k x0 x1 x2 h) hc h
noncomputable def alw(x:an)(f:cF->List an->Bool):Bool:=if h:x.ctorIdx=0 then tH (motive_1:=fun _=>Bool) x h (fun x0 x1 _=>f x0 x1)else false
@[elab_as_elim] theorem ann {Q:an->Prop} {x:an} {f:cF->List an->Bool} (h:alw x f=true) (k: ∀(x0:cF) (x1:List an) (x2:Pos),f x0 x1=true->Q (.BoolOp x0 x1 x2)):Q x:=pM h fun hc h=>tH (motive_1:=fun x=> ∀hc:x.ctorIdx=0,tH (motive_1:=fun _=>Bool) x hc (fun x0 x1 _=>f x0 x1)=true->Q x) x hc (fun x0 x1 x2 _ h=>k x0 x1 x2 h) hc h
noncomputable def xIf(x:an)(f:an->an->an->Bool):Bool:=if h:x.ctorIdx=5 then vt (motive_1:=fun _=>Bool) x h (fun x0 x1 x2 _=>f x0 x1 x2)else false
@[elab_as_elim] theorem arm {Q:an->Prop} {x:an} {f:an->an->an->Bool} (h:xIf x f=true) (k: ∀(x0:an) (x1:an) (x2:an) (x3:Pos),f x0 x1 x2=true->Q (.IfExp x0 x1 x2 x3)):Q x:=pM h fun hc h=>vt (motive_1:=fun x=> ∀hc:x.ctorIdx=5,vt (motive_1:=fun _=>Bool) x hc (fun x0 x1 x2 _=>f x0 x1 x2)=true->Q x) x hc (fun x0 x1 x2 x3 _ h=>k x0 x1 x2 x3 h) hc h
noncomputable def alx(x:an)(f:an->List g8->List an->Bool):Bool:=if h:x.ctorIdx=15 then sp (motive_1:=fun _=>Bool) x h (fun x0 x1 x2 _=>f x0 x1 x2)else false
@[elab_as_elim] theorem aly {Q:an->Prop} {x:an} {f:an->List g8->List an->Bool} (h:alx x f=true) (k: ∀(x0:an) (x1:List g8) (x2:List an) (x3:Pos),f x0 x1 x2=true->Q (.Compare x0 x1 x2 x3)):Q x:=pM h fun hc h=>sp (motive_1:=fun x=> ∀hc:x.ctorIdx=15,sp (motive_1:=fun _=>Bool) x hc (fun x0 x1 x2 _=>f x0 x1 x2)=true->Q x) x hc (fun x0 x1 x2 x3 _ h=>k x0 x1 x2 x3 h) hc h
noncomputable def Rj(x:an)(f:an->Str->Pos->Bool):Bool:=if h:x.ctorIdx=20 then pO (motive_1:=fun _=>Bool) x h (fun x0 x1 x2=>f x0 x1 x2)else false
@[elab_as_elim] theorem Ob {Q:an->Prop} {x:an} {f:an->Str->Pos->Bool} (h:Rj x f=true) (k: ∀(x0:an) (x1:Str) (x2:Pos),f x0 x1 x2=true->Q (.Attribute x0 x1 x2)):Q x:=pM h fun hc h=>pO (motive_1:=fun x=> ∀hc:x.ctorIdx=20,pO (motive_1:=fun _=>Bool) x hc (fun x0 x1 x2=>f x0 x1 x2)=true->Q x) x hc (fun x0 x1 x2 _ h=>k x0 x1 x2 h) hc h
noncomputable def ac9(x:an)(f:an->an->Bool):Bool:=if h:x.ctorIdx=21 then pP (motive_1:=fun _=>Bool) x h (fun x0 x1 _=>f x0 x1)else false
@[elab_as_elim] theorem abB {Q:an->Prop} {x:an} {f:an->an->Bool} (h:ac9 x f=true) (k: ∀(x0:an) (x1:an) (x2:Pos),f x0 x1=true->Q (.Subscript x0 x1 x2)):Q x:=pM h fun hc h=>pP (motive_1:=fun x=> ∀hc:x.ctorIdx=21,pP (motive_1:=fun _=>Bool) x hc (fun x0 x1 _=>f x0 x1)=true->Q x) x hc (fun x0 x1 x2 _ h=>k x0 x1 x2 h) hc h
noncomputable def ac8(x:an)(f:Option an->Option an->Option an->Bool):Bool:=if h:x.ctorIdx=26 then vu (motive_1:=fun _=>Bool) x h (fun x0 x1 x2 _=>f x0 x1 x2)else false
@[elab_as_elim] theorem alA {Q:an->Prop} {x:an} {f:Option an->Option an->Option an->Bool} (h:ac8 x f=true) (k: ∀(x0:Option an) (x1:Option an) (x2:Option an) (x3:Pos),f x0 x1 x2=true->Q (.Slice x0 x1 x2 x3)):Q x:=pM h fun hc h=>vu (motive_1:=fun x=> ∀hc:x.ctorIdx=26,vu (motive_1:=fun _=>Bool) x hc (fun x0 x1 x2 _=>f x0 x1 x2)=true->Q x) x hc (fun x0 x1 x2 x3 _ h=>k x0 x1 x2 x3 h) hc h
noncomputable def abA(x:an)(f:List an->Bool):Bool:=if h:x.ctorIdx=24 then xc (motive_1:=fun _=>Bool) x h (fun x0 _=>f x0)else false
@[elab_as_elim] theorem ac7 {Q:an->Prop} {x:an} {f:List an->Bool} (h:abA x f=true) (k: ∀(x0:List an) (x1:Pos),f x0=true->Q (.List x0 x1)):Q x:=pM h fun hc h=>xc (motive_1:=fun x=> ∀hc:x.ctorIdx=24,xc (motive_1:=fun _=>Bool) x hc (fun x0 _=>f x0)=true->Q x) x hc (fun x0 x1 _ h=>k x0 x1 h) hc h
noncomputable def ada(x:an)(f:List an->Bool):Bool:=if h:x.ctorIdx=25 then jr (motive_1:=fun _=>Bool) x h (fun x0 _ _=>f x0)else false
@[elab_as_elim] theorem abC {Q:an->Prop} {x:an} {f:List an->Bool} (h:ada x f=true) (k: ∀(x0:List an) (x1:Nat) (x2:Pos),f x0=true->Q (.Tuple x0 x1 x2)):Q x:=pM h fun hc h=>jr (motive_1:=fun x=> ∀hc:x.ctorIdx=25,jr (motive_1:=fun _=>Bool) x hc (fun x0 _ _=>f x0)=true->Q x) x hc (fun x0 x1 x2 _ h=>k x0 x1 x2 h) hc h
noncomputable def alB(x:an)(f:List an->Nat->Pos->Bool):Bool:=if h:x.ctorIdx=25 then jr (motive_1:=fun _=>Bool) x h (fun x0 x1 x2=>f x0 x1 x2)else false
@[elab_as_elim] theorem ano {Q:an->Prop} {x:an} {f:List an->Nat->Pos->Bool} (h:alB x f=true) (k: ∀(x0:List an) (x1:Nat) (x2:Pos),f x0 x1 x2=true->Q (.Tuple x0 x1 x2)):Q x:=pM h fun hc h=>jr (motive_1:=fun x=> ∀hc:x.ctorIdx=25,jr (motive_1:=fun _=>Bool) x hc (fun x0 x1 x2=>f x0 x1 x2)=true->Q x) x hc (fun x0 x1 x2 _ h=>k x0 x1 x2 h) hc h
noncomputable def abz(x:an)(f:List (Option an)->List an->Bool):Bool:=if h:x.ctorIdx=6 then xa (motive_1:=fun _=>Bool) x h (fun x0 x1 _=>f x0 x1)else false
@[elab_as_elim] theorem ac6 {Q:an->Prop} {x:an} {f:List (Option an)->List an->Bool} (h:abz x f=true) (k: ∀(x0:List (Option an)) (x1:List an) (x2:Pos),f x0 x1=true->Q (.Dict x0 x1 x2)):Q x:=pM h fun hc h=>xa (motive_1:=fun x=> ∀hc:x.ctorIdx=6,xa (motive_1:=fun _=>Bool) x hc (fun x0 x1 _=>f x0 x1)=true->Q x) x hc (fun x0 x1 x2 _ h=>k x0 x1 x2 h) hc h
noncomputable def Wm(x:an)(f:an->List an->List tz->Pos->Bool):Bool:=if h:x.ctorIdx=16 then w9 (motive_1:=fun _=>Bool) x h (fun x0 x1 x2 x3=>f x0 x1 x2 x3)else false
@[elab_as_elim] theorem Wn {Q:an->Prop} {x:an} {f:an->List an->List tz->Pos->Bool} (h:Wm x f=true) (k: ∀(x0:an) (x1:List an) (x2:List tz) (x3:Pos),f x0 x1 x2 x3=true->Q (.Call x0 x1 x2 x3)):Q x:=pM h fun hc h=>w9 (motive_1:=fun x=> ∀hc:x.ctorIdx=16,w9 (motive_1:=fun _=>Bool) x hc (fun x0 x1 x2 x3=>f x0 x1 x2 x3)=true->Q x) x hc (fun x0 x1 x2 x3 _ h=>k x0 x1 x2 x3 h) hc h
noncomputable def aby(x:an)(f:an->List dS->d4->Bool):Bool:=if h:x.ctorIdx=8 then qZ (motive_1:=fun _=>Bool) x h (fun x0 x1 x2 _=>f x0 x1 x2)else false
@[elab_as_elim] theorem ac4 {Q:an->Prop} {x:an} {f:an->List dS->d4->Bool} (h:aby x f=true) (k: ∀(x0:an) (x1:List dS) (x2:d4) (x3:Pos),f x0 x1 x2=true->Q (.ListComp x0 x1 x2 x3)):Q x:=pM h fun hc h=>qZ (motive_1:=fun x=> ∀hc:x.ctorIdx=8,qZ (motive_1:=fun _=>Bool) x hc (fun x0 x1 x2 _=>f x0 x1 x2)=true->Q x) x hc (fun x0 x1 x2 x3 _ h=>k x0 x1 x2 x3 h) hc h
noncomputable def acR(x:bW)(f:an->Bool):Bool:=if h:x.ctorIdx=24 then xh (motive_2:=fun _=>Bool) x h (fun x0 _=>f x0)else false
@[elab_as_elim] theorem ajZ {Q:bW->Prop} {x:bW} {f:an->Bool} (h:acR x f=true) (k: ∀(x0:an) (x1:Pos),f x0=true->Q (.Expr x0 x1)):Q x:=pM h fun hc h=>xh (motive_2:=fun x=> ∀hc:x.ctorIdx=24,xh (motive_2:=fun _=>Bool) x hc (fun x0 _=>f x0)=true->Q x) x hc (fun x0 x1 _ h=>k x0 x1 h) hc h
noncomputable def Dy(x:bW)(f:List an->an->Bool):Bool:=if h:x.ctorIdx=5 then tS (motive_2:=fun _=>Bool) x h (fun x0 x1 _=>f x0 x1)else false
@[elab_as_elim] theorem ET {Q:bW->Prop} {x:bW} {f:List an->an->Bool} (h:Dy x f=true) (k: ∀(x0:List an) (x1:an) (x2:Pos),f x0 x1=true->Q (.Assign x0 x1 x2)):Q x:=pM h fun hc h=>tS (motive_2:=fun x=> ∀hc:x.ctorIdx=5,tS (motive_2:=fun _=>Bool) x hc (fun x0 x1 _=>f x0 x1)=true->Q x) x hc (fun x0 x1 x2 _ h=>k x0 x1 x2 h) hc h
noncomputable def anY(x:bW)(f:an->List bW->List bW->Bool):Bool:=if h:x.ctorIdx=12 then BA (motive_2:=fun _=>Bool) x h (fun x0 x1 x2 _=>f x0 x1 x2)else false
@[elab_as_elim] theorem apT {Q:bW->Prop} {x:bW} {f:an->List bW->List bW->Bool} (h:anY x f=true) (k: ∀(x0:an) (x1:List bW) (x2:List bW) (x3:Pos),f x0 x1 x2=true->Q (.If x0 x1 x2 x3)):Q x:=pM h fun hc h=>BA (motive_2:=fun x=> ∀hc:x.ctorIdx=12,BA (motive_2:=fun _=>Bool) x hc (fun x0 x1 x2 _=>f x0 x1 x2)=true->Q x) x hc (fun x0 x1 x2 x3 _ h=>k x0 x1 x2 x3 h) hc h
noncomputable def acS(x:bW)(f:an->List bW->List bW->Bool):Bool:=if h:x.ctorIdx=11 then vz (motive_2:=fun _=>Bool) x h (fun x0 x1 x2 _=>f x0 x1 x2)else false
@[elab_as_elim] theorem aj1 {Q:bW->Prop} {x:bW} {f:an->List bW->List bW->Bool} (h:acS x f=true) (k: ∀(x0:an) (x1:List bW) (x2:List bW) (x3:Pos),f x0 x1 x2=true->Q (.While x0 x1 x2 x3)):Q x:=pM h fun hc h=>vz (motive_2:=fun x=> ∀hc:x.ctorIdx=11,vz (motive_2:=fun _=>Bool) x hc (fun x0 x1 x2 _=>f x0 x1 x2)=true->Q x) x hc (fun x0 x1 x2 x3 _ h=>k x0 x1 x2 x3 h) hc h
noncomputable def aj0(x:bW)(f:an->an->List bW->List bW->Bool):Bool:=if h:x.ctorIdx=9 then zW (motive_2:=fun _=>Bool) x h (fun x0 x1 x2 x3 _=>f x0 x1 x2 x3)else false
@[elab_as_elim] theorem am7 {Q:bW->Prop} {x:bW} {f:an->an->List bW->List bW->Bool} (h:aj0 x f=true) (k: ∀(x0:an) (x1:an) (x2:List bW) (x3:List bW) (x4:Pos),f x0 x1 x2 x3=true->Q (.For x0 x1 x2 x3 x4)):Q x:=pM h fun hc h=>zW (motive_2:=fun x=> ∀hc:x.ctorIdx=9,zW (motive_2:=fun _=>Bool) x hc (fun x0 x1 x2 x3 _=>f x0 x1 x2 x3)=true->Q x) x hc (fun x0 x1 x2 x3 x4 _ h=>k x0 x1 x2 x3 x4 h) hc h
noncomputable def YP(x:bW)(f:Option an->Bool):Bool:=if h:x.ctorIdx=3 then tT (motive_2:=fun _=>Bool) x h (fun x0 _=>f x0)else false
@[elab_as_elim] theorem aeS {Q:bW->Prop} {x:bW} {f:Option an->Bool} (h:YP x f=true) (k: ∀(x0:Option an) (x1:Pos),f x0=true->Q (.Return x0 x1)):Q x:=pM h fun hc h=>tT (motive_2:=fun x=> ∀hc:x.ctorIdx=3,tT (motive_2:=fun _=>Bool) x hc (fun x0 _=>f x0)=true->Q x) x hc (fun x0 x1 _ h=>k x0 x1 h) hc h
noncomputable def ajY(x:bW)(f:Bool):Bool:=if h:x.ctorIdx=27 then ra (motive_2:=fun _=>Bool) x h (fun _=>f)else false
@[elab_as_elim] theorem am6 {Q:bW->Prop} {x:bW} {f:Bool} (h:ajY x f=true) (k: ∀(x0:Pos),f=true->Q (.Continue x0)):Q x:=pM h fun hc h=>ra (motive_2:=fun x=> ∀hc:x.ctorIdx=27,ra (motive_2:=fun _=>Bool) x hc (fun _=>f)=true->Q x) x hc (fun x0 _ h=>k x0 h) hc h
noncomputable def acm(g:dS)(f:an->an->List an->Bool):Bool:=decide ((0:Int)=g.is_async)&&f g.target g.iter g.ifs
@[elab_as_elim] theorem aag {Q:dS->Prop} {g:dS} {f:an->an->List an->Bool} (h:acm g f=true) (k: ∀t i fs,f t i fs=true->Q ⟨t,i,fs,0⟩):Q g:=by
 cases g with
 |mk t i fs a=>exact aE h fun h0 h=>dE (Q:=fun a=>Q ⟨t,i,fs,a⟩) h0 (k t i fs h)
structure Ck where
 e:SI->an->Bool
 b:SI->an->Bool
 l:SI->List an->Bool
 o:SI->cF->List an->Bool
 a:SI->cF->List an->Bool
 p:SI->Option an->Bool
 i:SI->List an->Bool
noncomputable def ai6:List Nat:=[19,23,16,20,21,8,2,24,25]
def QG(x:an):Bool:=uB x.ctorIdx ai6
noncomputable def no1(_:SI)(_:List an):Bool:=false
def Ck.both(e b:SI->an->Bool):Ck:=⟨e,b,no1,fun st _ xs=>uE xs (e st),fun st _ xs=>uE xs (b st),fun st x=>Dd x (e st),fun st xs=>uE xs (b st)⟩
def Ck.ofE(e:SI->an->Bool):Ck:=.both e fun st x=>QG x&&e st x
def qo(f:an->Bool)(g:List an->Bool)(l:List an):Bool:=hd l fun x r=>f x&&hd r fun y r=>g (y::r)
noncomputable def tn(op:cF)(g:List an->Bool)(x:an):Bool:=alw x fun o l=>decide (op=o)&&g l
def aaV(op op':cF)(f:an->Bool)(g:List an->Bool)(l:List an):Bool:=uE l f||(decide (op=op')&&g l)
def Ck.bool(op:cF)(a b:Ck):Ck:=
 ⟨fun st=>tn op (qo (a.e st) (b.o st op)),fun st=>tn op (qo (a.b st) (b.a st op)),no1,fun st op'=>aaV op op' (tn op (qo (a.e st) (b.o st op))) (qo (a.e st) (b.o st op)),fun st op'=>aaV op op' (tn op (qo (a.b st) (b.a st op))) (qo (a.b st) (b.a st op)),
  fun st x=>Dd x (tn op (qo (a.e st) (b.o st op))),fun st xs=>uE xs (tn op (qo (a.b st) (b.a st op)))⟩
noncomputable def cOf(a:AV)(f:Const->Bool):Bool:=match a with
 | .none=>f .none
 | .bool b=>f (.bool b)
 | .int i=>f (.int i)
 | .str l=>f (.str (aO l))
 | .bytes l=>f (.bytes l)
 |_=>false
noncomputable def CE(a:AV)(x:an):Bool:=ac5 x fun c=>cOf a fun d=>decide (d=c)
structure WM where
 glb:List Str
 fns:List Str
 mts:List Str
noncomputable def cG.nms(Γ:cG):WM:=⟨Γ.glb.map (·.1),Γ.fns.map (·.1),Γ.mts.map (·.1)⟩
noncomputable def Ax:List Str->Nat->Option Str
 |[],_=>none
 |x::_,0=>some x
 |_::r,i+1=>Ax r i
def N3(l:List Str)(i:Nat)(x:Str):Bool:=oS (Ax l i) x
def aai(st:SI)(x:Str):Bool:=Qo st.names x==some .globalImplicit&& !(x==("__debug__":Str))
noncomputable def EO(x:an):Bool:= !am x.ctorIdx 7
def Y8(x:an)(f:List Str->Bool):Bool:=sj x (fun n=>f [n])||ada x fun t=>DW t fun a b=>sj a fun n=>sj b fun m=>f [n,m]
noncomputable def Ym(es:List an):Bool:=es.all fun e=> !jg e
def aav(i:Int)(o:Option an):Bool:=Dd o fun e=>CE (.int i) e
def agF(k1 k2:Int)(a b:ac)(x:an):Bool:=abz x fun d e=>DW d fun k k'=>DW e fun v v'=>aav k1 k&&(aav k2 k'&&(CE (.str a) v&&(CE (.str b) v'&& !decide (k1=k2))))
noncomputable def agn:Ck:=⟨fun _ _=>false,fun _ _=>false,no1,fun _ _ _=>false,fun _ _ _=>false,fun _ x=>x.isNone,fun _ xs=>xs.isEmpty⟩
def nlA(a:AV)(x:an):Bool:=match a with
 | .lst l=>l.isEmpty&&abA x (·.isEmpty)
 |_=>false
def aok(a:AV):Ck:=.ofE fun _ x=>CE a x||nlA a x
def agu(i:Nat):Ck:=.ofE fun st x=>sj x fun y=>oS (st.at_ i) y
def agh(N:WM)(g:Nat):Ck:=.ofE fun st x=>sj x fun y=>aai st y&&N3 N.glb g y
def age(op:iH)(a b:Ck):Ck:=.ofE fun st x=>an7 x fun l o r=>decide (op=o)&&(a.e st l&&b.e st r)
def agl(a:Ck):Ck:=.ofE fun st x=>xUn x fun o r=>decide (.USub=o)&&a.e st r
def ago(a:Ck):Ck:=.both (fun st x=>xUn x fun o r=>decide (.Not=o)&&a.e st r) (fun st x=>xUn x fun o r=>decide (.Not=o)&&a.b st r)
def agj(c a b:Ck):Ck:=.ofE fun st x=>xIf x fun t l r=>c.b st t&&(a.e st l&&b.e st r)
def ZU(op:g8)(a b:an->Bool)(x:an):Bool:=alx x fun l os rs=>uE os fun o=>uE rs fun r=>decide (op=o)&&(!behindInMarks op r&&(a l&&b r))
def agf(op:g8)(a b:Ck):Ck:=.both (fun st=>ZU op (a.e st) (b.e st)) (fun st=>ZU op (a.e st) (b.e st))
def Vh(op op':g8)(a b c:an->Bool)(x:an):Bool:=alx x fun l os rs=>DW os fun o o'=>DW rs fun r r'=>decide (op=o)&&(decide (op'=o')&&(!lastMarks [op,op'] [r,r']&&(a l&&(b r&&c r'))))
def abY(op op':g8)(a b c:Ck):Ck:=.both (fun st=>Vh op op' (a.e st) (b.e st) (c.e st)) (fun st=>Vh op op' (a.e st) (b.e st) (c.e st))
def agd(FN:List Str)(k:Nat)(a:Ck):Ck:=.ofE fun st x=>Rj x fun o n _=>oS (Ax FN k) n&&(th o&&a.e st o)
def agi(a i:Ck):Ck:=.ofE fun st x=>ac9 x fun o j=> !Ql j&&(a.e st o&&i.e st j)
def ags(a lo hi:Ck):Ck:=.ofE fun st x=>ac9 x fun o j=>ac8 j fun l h s=>decide (none=s)&&(a.e st o&&(lo.p st l&&hi.p st h))
def agk(l:Ck):Ck:=.ofE fun st x=>abA x fun es=>l.l st es
def agt(l:Ck):Ck:=.ofE fun st x=>ada x fun es=>l.l st es
def agg:Ck:=.ofE fun _ x=>abz x fun a b=>nl a (nl b true)
def alR(k1 k2:Int)(a b:ac):Ck:=.ofE fun _ x=>agF k1 k2 a b x
def agp(c:Nat)(a:Ck):Ck:=.ofE fun st x=>Wm x fun f es ks p=>Rj f fun o n ap=>DW es fun v v'=>decide ("replace"=n)&&(th o&&(decide (ap.endLine=p.line)&&nl ks (CE (.str [c]) v&&(CE (.str []) v'&&a.e st o))))
def abX(N:WM)(f:Nat)(l:Ck):Ck:=.ofE fun st x=>Wm x fun g es ks _=>sj g fun y=>aai st y&&(N3 N.fns f y&&nl ks (Ym es&&l.l st es))
def ab0(N:WM)(n:Nat)(o l:Ck):Ck:=.ofE fun st x=>Wm x fun g es ks p=>Rj g fun q y ap=>N3 N.mts n y&&(th q&&(decide (ap.endLine=p.line)&&(bc es.length 30&&nl ks (Ym es&&(o.e st q&&l.l st es)))))
def agm:Ck:=⟨fun _ _=>true,fun _ _=>true,fun _ xs=>nl xs true,fun _ _ _=>true,fun _ _ _=>true,fun _ _=>true,fun _ _=>true⟩
def abZ(a l:Ck):Ck:=⟨fun _ _=>false,fun _ _=>false,fun st xs=>hd xs fun x r=> !jg x&&(a.e st x&&l.l st r),fun _ _ _=>false,fun _ _ _=>false,fun _ _=>false,fun _ _=>false⟩
def Vg(xs:ac)(it c elt:Ck):Ck:=.ofE fun st x=>aby x fun ee gs sc=>uE gs fun g=>acm g fun tg ie fs=>Y8 tg fun ts=>
 it.e st ie&&(EO ie&&(NT st sc xs ts&&(c.i (st.inner sc xs ts) fs&&elt.e (st.inner sc xs ts) ee)))
def Pu(x':Nat)(it:Ck)(y':Nat)(it2 elt:Ck):Ck:=.ofE fun st x=>aby x fun ee gs sc=>DW gs fun g g'=>acm g fun tg ie fs=>acm g' fun tg' ie' fs'=>sj tg fun nx=>sj tg' fun ny=>
 nl fs (nl fs' (it.e st ie&&(EO ie&&(EO ie'&&(NT st sc [x',y'] [nx,ny]&&(it2.e (st.inner sc [x',y'] [nx,ny]) ie'&&elt.e (st.inner sc [x',y'] [nx,ny]) ee))))))
def ck(FN:List Str)(N:WM)(t:T):Ck:=T.rec (motive:=fun _=>Ck) agn aok agu (agh N) (fun op _ _=>age op) (fun _=>agl) (fun _=>ago) (fun _ _=>.bool .And) (fun _ _=>.bool .Or) (fun _ _ _=>agj) (fun op _ _=>agf op) (fun op op' _ _ _=>abY op op')
 (fun k _=>agd FN k) (fun _ _=>agi) (fun _ _ _=>ags) (fun _=>agk) (fun _=>agt) agg alR (fun c _=>agp c) (fun f _=>abX N f) (fun n _ _=>ab0 N n) agm (fun _ _=>abZ) (fun xs _ _ _=>Vg xs) (fun x _ y _ _ a=>Pu x a y) t
structure s6 where
 s:SI->bW->Bool
 ss:SI->List bW->Bool
 g:SI->Bool
def pn(st:SI)(i:Nat)(x:Str):Bool:=oS (st.at_ i) x&&(decide (Qo st.names x=some .local)||(st.own&&decide (Qo st.names x=some .cell)))
noncomputable def C9(st:SI):List Nat->List an->Bool
 |[],ts=>nl ts true
 |i::is,ts=>hd ts fun t r=>sj t (fun x=>pn st i x)&&C9 st is r
noncomputable def Qj(t:T):Bool:=if h:t.ctorIdx=1 then T.cst.elim (motive:=fun _=>Bool) t h fun a=>(tf a (some ())).isSome else false
noncomputable def s6.one(s:SI->bW->Bool):s6:=⟨s,fun _ _=>false,fun _=>false⟩
noncomputable def agR(st:SI):Env:={scope:=⟨.function,st.names,false,false,[]⟩,locals:=0,globals:=0,cells:=[]}
noncomputable def abS{α:Type}(m:Sem α)(f:α->Bool):Bool:=if h:m.ctorIdx=0 then zV (motive:=fun _=>Bool) m h f else false
@[elab_as_elim] theorem afX {α:Type} {Q:Sem α->Prop} {m:Sem α} {f:α->Bool} (h:abS m f=true) (k: ∀a,f a=true->Q (.pure a)):Q m:=pM h fun hc h=>zV (motive:=fun x=> ∀hc:x.ctorIdx=0,zV (motive:=fun _=>Bool) x hc f=true->Q x) m hc (fun a _ h=>k a h) hc h
def ai1(st:SI)(is:ac)(names:List Str):Bool:=DW is fun i j=>DW names fun x y=>pn st i x&&(pn st j y&& !decide (i=j))
def ai2(st:SI)(is:ac)(names:List Str):Bool:=Wh is fun i j l=>Wh names fun x y z=>
 pn st i x&&(pn st j y&&(pn st l z&&(!decide (i=j)&&(!decide (i=l)&& !decide (j=l)))))
def abT(st:SI)(is:ac)(t:an)(ts:List an)(v:an):Bool:=abS (swappedStores [t] v (agR st)) fun o=>bp (motive:=fun _=>Bool) (bc 1 is.length&&C9 st is ts) (fun names=>ai1 st is names||ai2 st is names) o
noncomputable def alS:s6:=⟨fun _ _=>true,fun _ _=>false,fun _=>false⟩
noncomputable def Xw(e:Ck):s6:=.one fun st x=>acR x fun v=>jS v&&e.e st v
def ab1(i:Nat)(e:Ck):s6:=.one fun st x=>Dy x fun ts v=>uE ts fun t=>sj t fun y=>pn st i y&&e.e st v
def Xu(is:ac)(e:Ck):s6:=.one fun st x=>Dy x fun ts v=>uE ts fun t=>alB t fun q c p=>jS v&&(e.e st v&&abT st is (.Tuple q c p) q v)
def Xr(FN:List Str)(k:Nat)(o e:Ck):s6:=.one fun st x=>Dy x fun ts v=>uE ts fun t=>Rj t fun q n _=>oS (Ax FN k) n&&(o.e st q&&e.e st v)
def Xs(o i e:Ck):s6:=.one fun st x=>Dy x fun ts v=>uE ts fun t=>ac9 t fun q j=>o.e st q&&(i.e st j&&e.e st v)
noncomputable def agr(c:Ck)(a b:s6):s6:=.one fun st x=>anY x fun t l r=>c.b st t&&(a.ss st l&&b.ss st r)
def ab5(c:Ck)(b:s6):s6:=.one fun st x=>acS x fun t l r=>nl r (c.b st t&&b.ss st l)
def ahI(st:SI)(xs:ac)(t:an):Bool:=uE xs (fun i=>sj t fun y=>pn st i y)||ada t fun q=>bc 1 xs.length&&C9 st xs q
def ab2(xs:ac)(it:Ck)(b:s6):s6:=.one fun st x=>aj0 x fun t i l r=>nl r (ahI st xs t&&(EO i&&(it.e st i&&b.ss st l)))
def ab4(n:Bool)(e:Ck):s6:=.one fun st x=>YP x fun o=>bp (motive:=fun _=>Bool) n (e.e st) o
noncomputable def agq:s6:=.one fun _ x=>ajY x true
noncomputable def ab3(i:Nat):s6:=⟨fun _ _=>false,fun _ _=>false,fun st=>(st.at_ i).isSome⟩
def alT:s6:=⟨fun _ _=>false,fun _ xs=>nl xs true,fun _=>false⟩
def Xv(a b:s6):s6:=⟨fun _ _=>false,fun st xs=>(a.g st&&b.ss st xs)||hd xs fun x r=>a.s st x&&b.ss st r,fun _=>false⟩
def ckS(FN:List Str)(N:WM)(t:TS):s6:=TS.rec (motive:=fun _=>s6) alS (fun e=>Xw (ck FN N e)) (fun i e=>ab1 i (ck FN N e)) (fun is e=>Xu is (ck FN N e)) (fun k o e=>Xr FN k (ck FN N o) (ck FN N e)) (fun o i e=>Xs (ck FN N o) (ck FN N i) (ck FN N e))
 (fun c _ _=>agr (ck FN N c)) (fun c _=>ab5 (ck FN N c)) (fun xs it _=>ab2 xs (ck FN N it)) (fun e=>ab4 (Qj e) (ck FN N e)) agq ab3 alT (fun _ _=>Xv) t
end
end
section
open PySem.SeqAt
noncomputable section
structure g9(X:FX)(st:SI):Prop where
 names:X.env.scope.names=st.names
 nm:X.names=st.at_
 ok:vn X
 sto:Hf X
 cells: ∀n,(n,eM)∈st.names\/(n,dB)∈st.names-> ∃c,X.env.cells.lookup n=some c
 own:st.own=true-> ∀n c,X.env.cells.lookup n=some c->c∈X.own
theorem g9.kind{X:FX}{st:SI}(H:g9 X st)(x:Str):X.env.kindOf x=st.kind x:=by
 unfold Env.kindOf SI.kind;rw[H.names]
theorem kj{α:Type}[BEq α][LawfulBEq α]: ∀{l:List α},pp l=true->l.Nodup
 |[],_=>me
 |x::r,h=>by
  simp only[pp,cM,ej]at h
  rw[dT]
  refine⟨fun hm=> ?_,kj h.2⟩
  rw[xf.mpr hm]at h
  exact absurd h.1 (by decide)
noncomputable def CB(cells:List (Str×aC)):List (Str×cT)->List (Str×aC)->List (Str×aC)
 |[],acc=>acc
 |(n,kd)::r,acc=>if kd== .free then CB cells r ((n,(cells.lookup n).getD 0)::acc)else CB cells r acc
theorem CC{env:Env}: ∀(names:List (Str×cT)) (acc:List (Str×aC)),(∀n,(n,dB)∈names-> ∃c,env.cells.lookup n=some c)->
  (forIn names acc fun x r=>(if x.2==dB then(do let a <- cellOf env x.1;pure (gL ((x.1,a)::r)))else pure (gL r):Sem (ForInStep (List (Str×aC)))))=pure (CB env.cells names acc)
 |[],acc,_=>rfl
 |(n,kd)::r,acc,h=>by
  rw[gN]
  unfold CB
  dsimp only
  split
  ·rename_i q
   have q:kd= .free:=by simpa using q
   subst q
   obtain⟨c,hc⟩:=h n bg
   have:cellOf env n=pure c:=by unfold cellOf;rw[hc]
   rw[this,pure_bind,pure_bind,hc]
   exact CC r _ fun m hm=>h m (aQ _ hm)
  ·rw[pure_bind]
   exact CC r _ fun m hm=>h m (aQ _ hm)
theorem xR{cells:List (Str×aC)}: ∀{names:List (Str×cT)} {acc:List (Str×aC)} {p:Str×aC},p∈CB cells names acc->p∈acc\/((p.1,dB)∈names/\p.2=(cells.lookup p.1).getD 0)
 |[],acc,p,h=>.inl h
 |(n,kd)::r,acc,p,h=>by
  unfold CB at h
  split at h
  ·rename_i q
   have q:kd= .free:=by simpa using q
   subst q
   rcases xR h with h|h
   ·rcases aH.mp h with e|h
    ·subst e;exact .inr ⟨bg,rfl⟩
    ·exact .inl h
   ·exact .inr ⟨aQ _ h.1,h.2⟩
  ·rcases xR h with h|h
   ·exact .inl h
   ·exact .inr ⟨aQ _ h.1,h.2⟩
theorem KV{cells:List (Str×aC)}: ∀{names:List (Str×cT)} {acc:List (Str×aC)} {n:Str},(n,dB)∈names\/n∈acc.map (·.1)->n∈(CB cells names acc).map (·.1)
 |[],acc,n,h=>by
  rcases h with h|h
  ·cases h
  ·exact h
 |(m,kd)::r,acc,n,h=>by
  unfold CB
  split
  ·refine KV ?_
   rcases h with h|h
   ·rcases aH.mp h with e|h
    ·cases e;exact .inr (by simp)
    ·exact .inl h
   ·exact .inr (by rw[bj];exact aQ _ h)
  ·rename_i q
   refine KV ?_
   rcases h with h|h
   ·rcases aH.mp h with e|h
    ·cases e;exact absurd rfl q
    ·exact .inl h
   ·exact .inr h
theorem vU{cells:List (Str×aC)}: ∀{names:List (Str×cT)} {acc:List (Str×aC)},(names.map (·.1)).Nodup->(acc.map (·.1)).Nodup->(∀n,n∈names.map (·.1)->n∉acc.map (·.1))->((CB cells names acc).map (·.1)).Nodup
 |[],acc,_,h,_=>h
 |(n,kd)::r,acc,h1,h2,h3=>by
  rw[bj,dT]at h1
  unfold CB
  split
  ·refine vU h1.2 (by rw[bj,dT];exact⟨h3 n (by simp),h2⟩) fun m hm=> ?_
   rw[bj,aH,not_or]
   exact⟨fun e=>h1.1 (e▸hm),h3 m (aQ _ hm)⟩
  ·exact vU h1.2 h2 fun m hm=>h3 m (aQ _ hm)
theorem pj{α β:Type}[BEq α][LawfulBEq α]: ∀{l:List (α×β)} {n:α} {c:β},(l.map (·.1)).Nodup->(n,c)∈l->l.lookup n=some c
 |(m,d)::r,n,c,hN,h=>by
  rw[bj,dT]at hN
  rw[cE]
  rcases aH.mp h with e|h'
  ·cases e;simp
  ·have:(n==m)=false:=by
    rw[beq_eq_false_iff_ne];intro e;exact hN.1 (e▸dD.mpr ⟨_,h',rfl⟩)
   rw[this];exact pj hN.2 h'
theorem VE{α β:Type}[BEq α][LawfulBEq α]{l:List (α×β)}{n:α}(h:n∈l.map (·.1)): ∃c,l.lookup n=some c:=by
 induction l with
 |nil=>cases h
 |cons p r ih=>
  rw[cE]
  cases q:n==p.1 with
  |true=>exact⟨_,rfl⟩
  |false=>
   rw[bj,aH]at h
   exact ih (h.resolve_left fun e=>by rw[e]at q;simp at q)
section
variable{X:FX}{k:Nat}{st:SI}
structure oV(st:SI)(scope:d4)(xs:List Nat)(ts:List Str):Prop where
 kind:scope.kind= .function
 nocell: ∀y∈scope.names,y.2≠ .cell
 locals: ∀y∈scope.names,y.2= .local->scope.names.lookup y.1=some .local
 free: ∀n,(n,dB)∈scope.names->st.kind n=some .cell\/st.kind n=some .free
 nodup:(scope.names.map (·.1)).Nodup
 tloc: ∀t∈ts,scope.names.lookup t=some .local
 tplain: ∀t∈ts,(t==("__debug__":Str)||t==("__classdict__":Str))=false
 uniq:((st.inner scope xs ts).nm.map (·.2)).Nodup
 len:xs.length=ts.length
 xnodup:xs.Nodup
 keys:(st.nm.map (·.1)).Nodup
theorem Vi{scope:d4}{xs:ac}{ts:List Str}(h:NT st scope xs ts=true):oV st scope xs ts:=by
 unfold NT at h
 simp only[cM,b5,beq_iff_eq,bne_iff_ne,ne_eq,oJ]at h
 obtain⟨⟨⟨⟨⟨⟨⟨⟨⟨h1,h2⟩,h3⟩,h4⟩,h5⟩,h6⟩,h7⟩,h8⟩,h9⟩,h10⟩:=h
 refine⟨h1,h2,fun y hy e=>(h3 y hy).resolve_left fun q=>q e,fun n hn=>(h4 _ hn).resolve_left fun q=>q rfl,kj h5,fun t ht=>(h6 t ht).1,fun t ht=> ?_,kj h7,h8,kj h9,kj h10⟩
 have:=(h6 t ht).2
 unfold zC at this
 simpa using this
abbrev Pv(X:FX)(scope:d4):List (Str×aC):=CB X.env.cells scope.names []
theorem Hv(H:g9 X st){scope:d4}{xs:ac}{ts:List Str}(K:oV st scope xs ts){n:Str}(hn:(n,dB)∈scope.names): ∃c,X.env.cells.lookup n=some c:=
 H.cells n ((K.free n hn).imp dP dP)
theorem zk(H:g9 X st){scope:d4}{xs:ac}{ts:List Str}(K:oV st scope xs ts){n:Str}(hn:(n,dB)∈scope.names):(Pv X scope).lookup n=X.env.cells.lookup n:=by
 have hN:=vU (cells:=X.env.cells) (acc:=[]) K.nodup me (fun _ _ h=>by cases h)
 obtain⟨c,hc⟩:=VE (KV (cells:=X.env.cells) (acc:=[]) (.inl hn))
 rcases xR (dP hc)with h|⟨_,h⟩
 ·cases h
 ·obtain⟨d,hd⟩:=Hv H K hn
  have h:c=(X.env.cells.lookup n).getD 0:=h
  rw[hc,hd,h,hd];rfl
theorem ML{xs:ac}{ts:List Str}{i:Nat}{x:Str}(h:(xs.zip ts).lookup i=some x):i∈xs/\x∈ts:=by
 have:=dP h
 exact⟨(Ih this).1,(Ih this).2⟩
theorem Av{α β:Type}[BEq α]{l m:List (α×β)}{x:α}:(l++m).lookup x=(l.lookup x).or (m.lookup x):=by
 induction l with
 |nil=>simp
 |cons p l ih=>
  rw[fi,cE,cE]
  split<;>simp_all
theorem Tr{scope:d4}{xs:ac}{ts:List Str}(K:oV st scope xs ts){i:Nat}{x:Str}(h:(st.inner scope xs ts).at_ i=some x):((xs.zip ts).lookup i=some x/\i∈xs/\x∈ts)\/(i∉xs/\st.at_ i=some x/\scope.names.lookup x=some .free):=by
 unfold SI.at_ SI.inner at h
 rw[Av]at h
 cases q:(xs.zip ts).lookup i with
 |some y=>rw[q]at h;cases h;exact .inl ⟨rfl,ML q⟩
 |none=>
  rw[q,Km]at h
  have:=List.mem_filter.mp (dP h)
  simp only[cM,ej,beq_iff_eq]at this
  obtain⟨h1,h2,h3⟩:=this
  exact .inr ⟨fun hm=>(by rw[xf.mpr hm]at h2;cases h2),pj K.keys h1,h3⟩
theorem uQ(H:g9 X st){scope:d4}{xs:ac}{ts:List Str}:(relabel scope X.env).names=(st.inner scope xs ts).names:=by
 unfold relabel SI.inner
 dsimp only
 refine f8 fun p hp=> ?_
 obtain⟨n,kd⟩:=p
 rw[H.ok.kind,H.kind n]
 dsimp only
 by_cases h:(kd==dB&&st.kind n==some eM)=true
 ·have h':(kd==dB&&(lI==lI)&&st.kind n==some eM)=true:=by simpa using h
  rw[if_pos h,if_pos h']
 ·have h': ¬(kd==dB&&(lI==lI)&&st.kind n==some eM)=true:=by simpa using h
  rw[if_neg h,if_neg h']
theorem F6{scope:d4}{xs:ac}{ts:List Str}(K:oV st scope xs ts){n:Str}{kd:cT}(h:(n,kd)∈scope.names):(st.inner scope xs ts).names.lookup n=some (if(kd==dB&&st.kind n==some eM)then eM else kd):=by
 refine pj ?_ (dD.mpr ⟨(n,kd),h,?_⟩)
 ·have:(st.inner scope xs ts).names.map (·.1)=scope.names.map (·.1):=by
   show(scope.names.map fun p=>if(p.2==dB&&st.kind p.1==some eM)then(p.1,eM)else p).map (·.1)=_
   rw[gO]
   refine f8 fun p _=> ?_
   show(if _ then _ else _:Str×cT).1=p.1
   split<;>rfl
  rw[this];exact K.nodup
 ·dsimp only
  split<;>rfl
theorem PA(H:g9 X st){scope:d4}{xs:ac}{ts:List Str}(K:oV st scope xs ts):Eu X scope (Pv X scope) (st.inner scope xs ts).at_ xs:=by
 refine⟨?_,K.kind,K.nocell,K.locals,fun i x hx=> ?_,fun n c e=> ?_,?_,fun i x hx=> ?_⟩
 ·unfold closureFor
  have:=CC (env:=X.env) scope.names [] fun n hn=>Hv H K hn
  rw[bind_pure]
  exact this
 ·rcases Tr K hx with⟨_,h,_⟩|⟨h1,h2,h3⟩
  ·exact .inl h
  ·have hf:=dP h3
   refine .inr ⟨by rw[H.nm];exact h2,by rw[H.kind];exact K.free x hf,?_,zk H K hf⟩
   rw[uQ H (xs:=xs) (ts:=ts),F6 K hf]
   split
   ·exact .inl rfl
   ·exact .inr rfl
 ·have hm:=xR (dP e)
  rcases hm with h|⟨h,_⟩
  ·cases h
  ·rw[<- zk H K h];exact e
 ·have hN:=vU (cells:=X.env.cells) (acc:=[]) K.nodup me (fun _ _ h=>by cases h)
  have hP:(Pv X scope).Pairwise fun p q=>p.1≠q.1:=List.pairwise_map.mp hN
  refine hP.imp_of_mem fun{p q} hp hq hne e=>hne ?_
  have look: ∀p∈Pv X scope,X.env.cells.lookup p.1=some p.2:=fun p hp=>by
   rcases xR hp with h|⟨h,_⟩
   ·cases h
   ·rw[<- zk H K h];exact pj hN hp
  have e1:=dP (look p hp)
  have e2:=dP (look q hq)
  rw[<- e]at e2
  exact Jw H.ok.apart e1 e2
 ·rcases Tr K hx with⟨_,_,h⟩|⟨h1,h2,h3⟩
  ·exact K.tplain x h
  ·exact H.ok.plain i x (by rw[H.nm];exact h2)
theorem Lu{x:Str}: ∀{l:List (Nat×Str)} {i j:Nat},(l.map (·.2)).Nodup->(i,x)∈l->(j,x)∈l->i=j
 |(m,d)::r,i,j,hN,h,h'=>by
  rw[bj,dT]at hN
  rcases aH.mp h with e|h1<;>rcases aH.mp h' with e'|h2
  ·cases e;cases e';rfl
  ·cases e;exact absurd (dD.mpr ⟨_,h2,rfl⟩) hN.1
  ·cases e';exact absurd (dD.mpr ⟨_,h1,rfl⟩) hN.1
  ·exact Lu hN.2 h1 h2
theorem Mk(H:g9 X st){scope:d4}{xs:ac}{ts:List Str}(K:oV st scope xs ts){n:Str}{kd:cT}(h:(n,kd)∈(st.inner scope xs ts).names)(hk:kd= .cell\/kd= .free):(n,dB)∈scope.names:=by
 obtain⟨⟨m,d⟩,hm,e⟩:=dD.mp h
 dsimp only at e
 split at e
 ·rename_i q
  cases e
  simp only[cM,beq_iff_eq]at q
  rw[q.1]at hm;exact hm
 ·cases e
  rcases hk with rfl|rfl
  ·exact absurd rfl (K.nocell _ hm)
  ·exact hm
theorem aee(H:g9 X st){scope:d4}{xs:ac}{ts:List Str}(K:oV st scope xs ts){s:az}{L:aC}(hL: ∀n c,X.env.cells.lookup n=some c->c≠L):g9 (X.inner scope (Pv X scope) (st.inner scope xs ts).at_ L s) (st.inner scope xs ts):=by
 have hk:(X.inner scope (Pv X scope) (st.inner scope xs ts).at_ L s).env.scope.kind= .function:=K.kind
 refine⟨uQ H,rfl,aed H.ok (PA H K) hL,⟨fun i j x hi hj=> ?_,?_⟩,fun n hn=> ?_,fun h=>by cases h⟩
 ·exact Lu K.uniq (dP hi) (dP hj)
 ·unfold interactive;rw[hk];rfl
 ·have hf:(n,dB)∈scope.names:=hn.elim (fun h=>Mk H K h (.inl rfl)) fun h=>Mk H K h (.inr rfl)
  obtain⟨c,hc⟩:=Hv H K hf
  exact⟨c,by show(Pv X scope).lookup n=_;rw[zk H K hf];exact hc⟩
theorem xZ(H:g9 X st){scope:d4}{xs:ac}{ts:List Str}(K:oV st scope xs ts){s:az}{L:aC}{i:Nat}{x:Str}(h:(xs.zip ts).lookup i=some x):kv (X.inner scope (Pv X scope) (st.inner scope xs ts).at_ L s) i x:=by
 obtain⟨hi,hx⟩:=ML h
 refine⟨?_,.inl ?_⟩
 ·show(st.inner scope xs ts).at_ i=some x
  unfold SI.at_ SI.inner
  rw[Av,h];rfl
 ·show(relabel scope X.env).names.lookup x=_
  rw[uQ H (xs:=xs) (ts:=ts),F6 K (dP (K.tloc x hx))]
  rfl
end
end
end
section
open PySem.SeqAt
noncomputable section
noncomputable def alo(v:ah)(f:Int->Bool):Bool:=if h:v.ctorIdx=4 then xj (motive:=fun _=>Bool) v h fun i _=>f i else false
@[elab_as_elim] theorem ap3 {Q:ah->Prop} {v:ah} {f:Int->Bool} (h:alo v f=true) (k: ∀i t,f i=true->Q (.int i t)):Q v:=pM h fun hc h=>xj (motive:=fun v=> ∀hc:v.ctorIdx=4,xj (motive:=fun _=>Bool) v hc (fun i _=>f i)=true->Q v) v hc (fun i t _ h=>k i t h) hc h
noncomputable def alq(v:ah)(f:Str->Bool):Bool:=if h:v.ctorIdx=6 then xm (motive:=fun _=>Bool) v h fun i _=>f i else false
@[elab_as_elim] theorem ap4 {Q:ah->Prop} {v:ah} {f:Str->Bool} (h:alq v f=true) (k: ∀i t,f i=true->Q (.str i t)):Q v:=pM h fun hc h=>xm (motive:=fun v=> ∀hc:v.ctorIdx=6,xm (motive:=fun _=>Bool) v hc (fun i _=>f i)=true->Q v) v hc (fun i t _ h=>k i t h) hc h
noncomputable def ac0(v:ah)(f:aC->Bool):Bool:=if h:v.ctorIdx=10 then xk (motive:=fun _=>Bool) v h f else false
@[elab_as_elim] theorem alp {Q:ah->Prop} {v:ah} {f:aC->Bool} (h:ac0 v f=true) (k: ∀i,f i=true->Q (.ref i)):Q v:=pM h fun hc h=>xk (motive:=fun v=> ∀hc:v.ctorIdx=10,xk (motive:=fun _=>Bool) v hc f=true->Q v) v hc (fun i _ h=>k i h) hc h
noncomputable def agz(d:Br)(f:Array ah->Nat->Bool):Bool:=match d with
 | .seq vs n=>f vs n
 |_=>false
@[elab_as_elim] theorem agA {Q:Br->Prop} {d:Br} {f:Array ah->Nat->Bool} (h:agz d f=true) (k: ∀vs n,f vs n=true->Q (.seq vs n)):Q d:=by
 cases d<;>first|exact ff h|exact k _ _ h
noncomputable def Vy(o:Obj)(f:List ah->Bool):Bool:=o.cls== .type "tuple" &&(o.dict.isNone&&(decide (o.slots= #[])&&agz o.data fun vs _=>f vs.toList))
@[elab_as_elim] theorem aik {Q:Obj->Prop} {o:Obj} {f:List ah->Bool} (h:Vy o f=true) (k: ∀vs n,f vs=true->Q (tw vs n)):Q o:=by
 cases o with
 |mk c d dt sl=>
  refine aE h fun h1 h=>aE h fun h2 h=>aE h fun h3 h=>agA (Q:=fun dt=>Q ⟨c,d,dt,sl⟩) h fun vs n h=> ?_
  rw[show c=_ from beq_iff_eq.mp h1,show d=none from dG.mp h2,show sl=_ from ag h3]
  exact k vs.toList n h
section
variable{k:Nat}{C:PC}
theorem afx{s:Str}{l:ac}(h:dp s.cps.toList l=true):s=aO l:=by
 obtain⟨⟨m⟩⟩:=s
 rw[kW]at h
 exact congrArg aO (ag h)
mutual
noncomputable def kV(K:dL)(v:ah)(a:AV):Bool:=match a with
 | .none=>v== .none
 | .opq=>true
 | .bool b=>v== .bool b
 | .int i=>alo v fun j=>decide (j=i)
 | .str l=>alq v fun s=>dp s.cps.toList l
 | .tup l=>ac0 v fun x=>Dd (K.lookup x) fun o=>Vy o fun vs=>kVL K vs l
 | .glob w=>v==w
 |_=>false
noncomputable def kVL(K:dL)(vs:List ah)(l:aa):Bool:=match l with
 |[]=>nl vs true
 |a::l=>hd vs fun v r=>kV K v a&&kVL K r l
end
def ImK(C:PC)(W:Wd):Prop:= ∀x o,C.K.lookup x=some o->W.im x=some o
theorem cD.imK{W:Wd}{σ:AS}{h:bM}(R:cD C W σ h):ImK C W:=fun x o e=>R.base _ _ (C.inK _ _ e)
theorem Ju{α:Type}{P:Prop}{o:Option α}{f:α->Bool}(h:Dd o f=true)(k: ∀a,o=some a->f a=true->P):P:=by
 cases o with
 |some a=>exact k a rfl h
 |none=>exact ff h
mutual
theorem TB{W:Wd}(hW:ImK C W): ∀{a:AV} {v:ah},kV C.K v a=true->V C W a v
 | .none,v,h=>beq_iff_eq.mp (show(v== .none)=true from h)
 | .opq,v,h=>trivial
 | .bool b,v,h=>beq_iff_eq.mp (show(v== .bool b)=true from h)
 | .int i,v,h=>ap3 (show alo v (fun j=>decide (j=i))=true from h) fun j t h=>⟨t,(ag h)▸rfl⟩
 | .str l,v,h=>ap4 (show alq v (fun s=>dp s.cps.toList l)=true from h) fun j t h=>⟨t,congrArg (fun x=>gw x t) (afx h)⟩
 | .tup l,v,h=>alp (show ac0 v (fun x=>Dd (C.K.lookup x) fun o=>Vy o fun vs=>kVL C.K vs l)=true from h) fun x h=>Ju h fun o ho h=>aik (Q:=fun o=>C.K.lookup x=some o->V C W (.tup l) (.ref x)) h (fun vs n h ho=>⟨x,n,vs,rfl,hW _ _ ho,HB hW h⟩) ho
 | .glob w,v,h=>(beq_iff_eq.mp (show(v==w)=true from h))
 | .unb,v,h=>ff h
 | .bytes _,v,h=>ff h
 | .lst _,v,h=>ff h
 | .frz _ _ _,v,h=>ff h
 | .dct _ _,v,h=>ff h
 | .dcti _ _,v,h=>ff h
 | .rng _ _,v,h=>ff h
 | .ref _,v,h=>ff h
theorem HB{W:Wd}(hW:ImK C W): ∀{l:aa} {vs:List ah},kVL C.K vs l=true->VL C W l vs
 |[],vs,h=>Jq (show nl vs true=true from h) fun _=>VL.nil
 |a::l,vs,h=>Vv (show hd vs (fun v r=>kV C.K v a&&kVL C.K r l)=true from h) fun v r h=>aE h fun h1 h2=>VL.cons (TB hW h1) (HB hW h2)
end
def agE(K:dL)(dfl:aa)(v:ah):Bool:=bt (motive:=fun _=>Bool) (v== .none) (fun _ _ _=>ac0 v fun x=>Dd (K.lookup x) fun o=>agz o.data fun vs _=>kVL K vs.toList dfl) dfl
theorem Z4{dfl:aa}{v:ah}(h:agE C.K dfl v=true){W:Wd}{σ:AS}{s:az}(R:cD C W σ s.heap): ∃d:Option (Array ah),VL C W dfl (d.getD #[]).toList/\
  ∀(M:lp) (A:b6) (E:ah->az->Prop) (Q:Option (Array ah)->az->Prop),Q d s->wpAny M A (seqItems? v) Q E s:=by
 cases dfl with
 |nil=>exact⟨none,VL.nil,Yk (beq_iff_eq.mp (show(v== .none)=true from h))⟩
 |cons a l=>
  exact alp h fun x h=>Ju h fun o ho h=>agA (d:=o.data) (Q:=fun d'=>o.data=d'-> ∃d:Option (Array ah),VL C W (a::l) (d.getD #[]).toList/\ ∀(M:lp) (A:b6) (E:ah->az->Prop) (Q:Option (Array ah)->az->Prop),Q d s->wpAny M A (seqItems? (.ref x)) Q E s) h
   (fun vs n h hd=>⟨some vs,HB R.imK h,fun M A E Q hq=>wpAny_seqItems (R.K _ _ ho) hd hq⟩) rfl
end
end
end
section
open PySem.SeqAt
noncomputable section
section
variable{k:Nat}{C:PC}
theorem cD.ns{W:Wd}{σ:AS}{h:bM}(R:cD C W σ h):h.Ns mainGlobals C.mg/\h.Ns builtinsNs C.mb:=
 ⟨C.g.keeps fun b o e=>R.im _ _ (R.base _ _ e),C.b.keeps fun b o e=>R.im _ _ (R.base _ _ e)⟩
theorem l5{x:Str}{a:AV}{v:ah}(hm:C.mg x=some v)(hv: ∀W,ImK C W->V C W a v):nq C x a:=fun M A E env W σ s Q hg hb R h=>
 loadGlobal_global (by rw[hg];exact R.ns.1) hm (h v (hv W R.imK))
theorem Uc{x:Str}{v:ah}(hm:C.mg x=none)(hn:x≠ "__name__")(hv:bootBuiltins x=some v):nq C x (.glob v):=fun M A E env W σ s Q hg hb R h=>
 loadGlobal_builtin (by rw[hg];exact R.ns.1) hm (by rw[hb];exact R.ns.2) (by rw[C.boot x hn];exact hv) (h v rfl)
theorem eV.under{A:b6}(R:eV A (k+1)){c:aC}{v:List ah}{kw:List (Str×ah)}:eV (A.under (.builtin "type.__call__" ⟨.ref c::v,kw⟩)) k:=by
 have h1:(tG "type.__call__" ⟨.ref c::v,kw⟩).weight=1:=by first|rfl|kernel_rfl
 have h2:(tG "type.__call__" ⟨.ref c::v,kw⟩).cUnits=1:=by first|rfl|kernel_rfl
 have:=R.depth
 have:=R.units
 exact⟨R.handled,by show A.depth+(tG "type.__call__" ⟨.ref c::v,kw⟩).weight +k<_;omega,by show A.units+(tG "type.__call__" ⟨.ref c::v,kw⟩).cUnits +4*k<_;omega⟩
theorem ae3{c fI:aC}{F:aW}(hm:makesIn C.K c=true)(hi:findIn C.K (.ref c) "__init__"=some (some (.ref fI)))(hf:typeIn C.K (.ref fI)=some (.type "function"))(hc:C.cls c=true)(hF:pU C k (.ref fI) F):aF C (k+1) (.ref c) (uC c F):=fun A Rm W σ s args vs R hv tk a aj e=>by
 refine fW (show bA (F (.ref σ.next::args) (σ.alloc (.inst c [] []))) _=_ from e) fun xO ay q e=> ?_
 revert q
 refine Cy (Q:=fun xO=>F (.ref σ.next::args) (σ.alloc (.inst c [] []))=some (xO,ay)->_) e fun e q=> ?_
 apply s2 e
 ·refine oT ?_
  obtain⟨hh,g,d,t,os⟩:=s
  have X:=R.K
  refine make_core (makes_of X hm) (tW X hi) (fun self=>bind_fn X self hf) (.inl rfl) ?_
  have k1: ∀b o,hh.get? b=some o->((hh.push emptyDict).push (instObj c hh.objs.size)).get? b=some o:=fun b o e=>bH _ (bH _ e)
  have gd:((hh.push emptyDict).push (instObj c hh.objs.size)).get? hh.objs.size=some (dictOf [] 0):=bH _ (br _ rfl)
  have gx:((hh.push emptyDict).push (instObj c hh.objs.size)).get? (hh.objs.size+1)=some (instObj c hh.objs.size):=by
   have:=br (hh.push emptyDict) (o:=instObj c hh.objs.size) rfl
   rwa[p8]at this
  have R1:cD C W σ ((hh.push emptyDict).push (instObj c hh.objs.size)):=R.keeps k1
  have R2:=R1.addIm (x:=hh.objs.size+1) gx (R.pr_new (cU _)) (R.cell_new (cU _))
  have le1:W.le (W.addIm (hh.objs.size+1) (instObj c hh.objs.size)):=Wd.le_addIm fun o' e=>by rw[R.im_new (cU _)]at e;cases e
  have le2:(W.addIm (hh.objs.size+1) (instObj c hh.objs.size)).le ((W.addIm (hh.objs.size+1) (instObj c hh.objs.size)).addId σ.next (hh.objs.size+1,hh.objs.size)):=Wd.le_addId (R2.fresh _ (ax _))
  have R3:=R2.alloc (c:=.inst c [] []) (p:=(hh.objs.size+1,hh.objs.size)) ⟨hc,kX,[],0,[],gd,VL.nil,trivial⟩
   (by
    show(if hh.objs.size=hh.objs.size+1 then _ else W.im hh.objs.size)=none
    rw[if_neg (cu (bU _))];exact R.im_new (ax _)) (R.pr_new (ax _)) (R.cell_new (ax _))
  have hv':=VL.cons (ri (C:=C) (W:=W.addIm (hh.objs.size+1) (instObj c hh.objs.size)) (n:=σ.next) (p:=(hh.objs.size+1,hh.objs.size))) (hv.mono (le1.trans le2))
  refine Ow (hF _ Rm.under _ _ ⟨(hh.push emptyDict).push (instObj c hh.objs.size),g,d,t,os⟩ _ _ R3 hv' tk _ _ q) fun r s' z=> ?_
  match r,z with
  | .ok (.ret v),z=>
   obtain⟨⟨sB,ali,hs,aoQ⟩,W',l',R',hq⟩:=z
   obtain rfl:v= .none:=hq
   exact⟨rfl,⟨sB,ali,hs,aoQ⟩,W',(le1.trans le2).trans l',R',_,l'.1 _ _ (if_pos rfl),rfl⟩
  | .error e,z=>exact z.elim
end
end
end
section
open PySem.SeqAt
noncomputable section
section
variable{k:Nat}{C:PC}
theorem aF.le{k':Nat}{f:ah}{F:aW}(h:aF C k f F)(hk:k<=k'):aF C k' f F:=fun A R=>h A (R.le hk)
theorem d8.le{k':Nat}{x:Str}{D:gW}(h:d8 C k x D)(hk:k<=k'):d8 C k' x D:=fun W σ hh a v F R hv e=>let⟨f,h1,h2,h3⟩:=h W σ hh a v F R hv e;⟨f,h1,h2,h3.le hk⟩
theorem dv{x:Str}:d8 C k x gU:=fun W σ h a v F R hv e=>by cases e
theorem TE{x:Str}{ks:ac}{vs:List ah}{es:List ik}(hx: ∀i∈ks,i<C.nf->C.fname i≠x)(q:oX C ks vs es):getL x es=some none:=by
 have h1:es.find? (·.key.isStr x)=none:=by
  rw[List.find?_eq_none]
  intro e he
  induction es generalizing ks vs with
  |nil=>cases he
  |cons en es ih=>
   cases ks with
   |nil=>cases vs<;>exact Uq q
   |cons kk ks=>cases vs with
    |nil=>exact Uq q
    |cons v vs=>
     obtain⟨hk,⟨t,ht⟩,_,q⟩:=q
     rcases aH.mp he with rfl|he
     ·rw[ht];simp[kU,hx kk (bg ..) hk]
     ·exact ih (fun i hi=>hx i (aQ _ hi)) q he
 unfold getL
 rw[h1,if_neg]
 intro h
 obtain⟨e,he,h⟩:=kn.mp h
 rw[(HC q).1 e he]at h;cases h
theorem ZT{W:Wd}{σ:AS}{h:bM}(R:cD C W σ h){c:Nat}(hcl:C.cls c=true){a:AV}{v:ah}(hv:V C W a v)(hd:F0 a σ=some c): ∃ks fs,OE C W h v c ks fs:=by
 cases a with
 |frz d ks fs=>cases hd;exact⟨ks,fs,Tm R hv⟩
 |ref y=>
  refine oE (show ob (σ.get y) Xq=some c from hd) fun cc hc hd=> ?_
  cases cc with
  |inst d ks fs=>cases hd;exact⟨ks,fs,TX R hc hv⟩
  |orc d l=>cases hd;exact ajP R hc hcl hv
  |_=>exact nn hd
 |_=>exact nn hd
theorem ae0{x:Str}{c f:aC}{F:aW}{G:gW}(hcl:C.cls c=true)(hx: ∀i,i<C.nf->C.fname i≠x)(hg:plainGet C.K c x=true)(hf:findIn C.K (.ref c) x=some (some (.ref f)))(ht:typeIn C.K (.ref f)=some (.type "function"))(hk:keepIn C.K (.ref f)=true)
  (hF:aF C k (.ref f) F)(hG:d8 C k x G):d8 C k x (fx c F G):=fun W σ h a v F' R hv e=>by
 refine oE (show ob (F0 a σ) _=_ from e) fun d hd e=>bE e (fun z e=> ?_) fun z e=>hG W σ h _ v F' R hv e
 apply s1 e
 have z:c=d:=aD z
 obtain⟨ks,fs,I⟩:=ZT R hcl hv (z▸hd)
 obtain⟨y,d,es,n,vs,hy,q0,q1,q2,r,z⟩:=I.at_
 refine⟨.ref f,fun A s pl E Q hs hq=> ?_,rn hk,hF⟩
 subst hs;subst hy
 exact method_fn R.K (I:=(⟨q1,rfl,rfl,q2⟩:InstAt s.heap y (instObj c d) c (some (dictOf es n)))) (qF hg).1 (qF hg).2 hf ht (by show(lookIn x (dictOf es n)).map _=_;rw[lookIn_dict,TE (fun i _=>hx i) z];rfl) hq
end
end
end
section
open PySem.SeqAt
noncomputable section
section
variable{k:Nat}{C:PC}{W:Wd}{σ:AS}{s:az}{h':bM}
def Sm0(s s':az):Prop:= ∃h t,s'={s with heap:=h,toks:=t}
def rQ(C:PC)(W:Wd)(aj:AS)(a:AV)(s:az)(v:ah)(s':az):Prop:=Sm0 s s'/\ ∃W',W.le W'/\cD C W' aj s'.heap/\V C W' a v
theorem JM{f:ah}{F:aW}(h: ∀A,eV A k-> ∀W σ s args vs,cD C W σ s.heap->VL C W args vs->1<=s.toks-> ∀a aj,F args σ=some (a,aj)->wpAny (dH C) A (call f vs) (rQ C W aj a s) dy s):aF C k f F:=
 fun A R W σ s args vs Re hv tk a aj e=>Wl (ax s.toks) (eK (h A R W σ s args vs Re hv tk a aj e) fun v s' ⟨⟨h',t',q⟩,z⟩ ht=>⟨⟨h',t',q,by rw[q]at ht;exact ht⟩,z⟩)
theorem cD.same(R:cD C W σ s.heap){a:AV}{v:ah}(q:V C W a v)(t:Nat):rQ C W σ a s v {s with toks:=t}:=⟨⟨s.heap,t,rfl⟩,W,.refl _,R,q⟩
theorem cD.grown(R:cD C W σ s.heap){a:AV}{v:ah}(q:V C W a v)(hk: ∀b o,s.heap.get? b=some o->h'.get? b=some o)(t:Nat):rQ C W σ a s v {s with heap:=h',toks:=t}:=⟨⟨h',t,rfl⟩,W,.refl _,R.keeps hk,q⟩
theorem cD.free(R:cD C W σ s.heap){x:aC}(hx:s.heap.get? x=none):W.im x=none/\W.pr x=none/\s8 W σ x:=by
 refine⟨?_,?_,fun a cc p e e' q=> ?_⟩
 ·cases e:W.im x with
  |none=>rfl
  |some o=>have:=R.im _ _ e;rw[hx]at this;cases this
 ·cases e:W.pr x with
  |none=>rfl
  |some o=>have:=R.pr _ _ e;rw[hx]at this;cases this
 ·obtain⟨p',a1,a2,_⟩:=R.cell a cc e
  rw[e']at a1;cases a1
  obtain⟨o,ho⟩:=a2.some
  rw[q,hx]at ho;cases ho
theorem tD(h:bM):h.get? h.objs.size=none:=by
 cases e:h.get? h.objs.size with
 |none=>rfl
 |some o=>exact absurd (cz e) (zU _)
theorem cD.newIm(R:cD C W σ s.heap)(a:AV){x:aC}{o:Obj}(hk: ∀b o,s.heap.get? b=some o->h'.get? b=some o)(hx:s.heap.get? x=none)(ho:h'.get? x=some o)(q: ∀W',W.le W'->W'.im x=some o->V C W' a (.ref x))(t:Nat):rQ C W σ a s (.ref x) {s with heap:=h',toks:=t}:=by
 obtain⟨f1,f2,f3⟩:=R.free hx
 have R':=(R.keeps hk).addIm ho f2 f3
 have le:W.le (W.addIm x o):=Wd.le_addIm fun o' e=>by rw[f1]at e;cases e
 exact⟨⟨h',t,rfl⟩,_,le,R',q _ le kX⟩
theorem cD.newLst(R:cD C W σ s.heap){l:aa}{vs:List ah}{n:Nat}{x:aC}(hk: ∀b o,s.heap.get? b=some o->h'.get? b=some o)(hx:s.heap.get? x=none)(ho:h'.get? x=some (dz vs n))(q:VL C W l vs)(t:Nat):
  rQ C W (σ.alloc (.lst l)) (.ref σ.next) s (.ref x) {s with heap:=h',toks:=t}:=by
 obtain⟨f1,f2,f3⟩:=R.free hx
 have le:W.le (W.addId σ.next (x,x)):=Wd.le_addId (R.fresh _ (ax _))
 exact⟨⟨h',t,rfl⟩,_,le,(R.keeps hk).alloc (p:=(x,x)) ⟨rfl,vs,n,ho,q.mono le⟩ f1 f2 f3,ri⟩
theorem Cx{i:Int}{t:Tok}:V C W (.int i) (.int i t):=⟨t,rfl⟩
theorem He{l:ac}{t:Tok}:V C W (.str l) (.str (aO l) t):=⟨t,rfl⟩
theorem Lo{f:ah}:aF C k f UJ:=JM fun A R W σ s args vs Re hv tk a aj e=>by cases e
theorem aaT{n:Nat}(h:dj n=true):(n:Int)<2^63:=by
 have:=jT h
 omega
@[elab_as_elim] theorem Pm {β:Type} {Q:List AV->Prop} {l:aa} {f:AV->Option β} {r:β} (h:pV l f=some r) (kk: ∀a,f a=some r->Q [a]):Q l:=by
 cases l with
 |nil=>exact nn h
 |cons a l=>cases l with
  |nil=>exact kk a h
  |cons b l=>exact nn h
@[elab_as_elim] theorem KQ {β:Type} {Q:List AV->Prop} {l:aa} {f:AV->AV->Option β} {r:β} (h:vR l f=some r) (kk: ∀a b,f a b=some r->Q [a,b]):Q l:=by
 cases l with
 |nil=>exact nn h
 |cons a l=>exact Pm (Q:=fun l=>Q (a::l)) h fun b h=>kk a b h
@[elab_as_elim] theorem U7 {β:Type} {Q:List AV->Prop} {l:aa} {f:AV->AV->AV->Option β} {r:β} (h:S3 l f=some r) (kk: ∀a b c,f a b c=some r->Q [a,b,c]):Q l:=by
 cases l with
 |nil=>exact nn h
 |cons a l=>exact KQ (Q:=fun l=>Q (a::l)) h fun b c h=>kk a b c h
theorem si{f:ah}{G:AS->AV->Option (AV×AS)}(h: ∀A,eV A k-> ∀W σ s a v,cD C W σ s.heap->V C W a v->1<=s.toks-> ∀r aj,G σ a=some (r,aj)->wpAny (dH C) A (call f [v]) (rQ C W aj r s) dy s):aF C k f (fun args σ=>pV args (G σ)):=
 JM fun A R W σ s args vs Re hv tk r aj e=>Pm (Q:=fun args=>VL C W args vs->_) e (fun a e hv=>hv.consE fun v l q hv=>hv.nilE (h A R W σ s a v Re q tk r aj e)) hv
theorem HV{f:ah}{G:AS->AV->AV->Option (AV×AS)}(h: ∀A,eV A k-> ∀W σ s a b v w,cD C W σ s.heap->V C W a v->V C W b w->1<=s.toks-> ∀r aj,G σ a b=some (r,aj)->wpAny (dH C) A (call f [v,w]) (rQ C W aj r s) dy s):aF C k f (fun args σ=>vR args (G σ)):=
 JM fun A R W σ s args vs Re hv tk r aj e=>KQ (Q:=fun args=>VL C W args vs->_) e (fun a b e hv=>hv.consE fun v l q hv=>hv.consE fun w l q' hv=>hv.nilE (h A R W σ s a b v w Re q q' tk r aj e)) hv
theorem apW{f:ah}{G:AS->AV->AV->AV->Option (AV×AS)}(h: ∀A,eV A k-> ∀W σ s a b d v w u,cD C W σ s.heap->V C W a v->V C W b w->V C W d u->1<=s.toks-> ∀r aj,G σ a b d=some (r,aj)->wpAny (dH C) A (call f [v,w,u]) (rQ C W aj r s) dy s):aF C k f (fun args σ=>S3 args (G σ)):=
 JM fun A R W σ s args vs Re hv tk r aj e=>U7 (Q:=fun args=>VL C W args vs->_) e (fun a b d e hv=>hv.consE fun v l q hv=>hv.consE fun w l q' hv=>hv.consE fun u l q'' hv=>hv.nilE (h A R W σ s a b d v w u Re q q' q'' tk r aj e)) hv
theorem amv{P:Prop}{a:AV}{p:AV×AS}(h:anO σ a=some p)(k1: ∀s,a= .str s->(bif dj (dN s)then some (AV.int (ai (dN s)),σ)else none)=some p->P)(k2:(ob (nG σ a) fun l=>bif dj (dN l)then some (AV.int (ai (dN l)),σ)else none)=some p->P):P:=by
 cases a with
 |str s=>exact k1 s rfl h
 |_=>exact k2 h
theorem eU:aF C k (.builtin "len") ef:=si fun A R W σ s a v Re q tk r aj e=>amv e (fun x ha e=>kS e fun z e=>by
  rw[iy]at z e
  apply s2 e
  rw[ha]at q
  refine q.strE fun t=>Uv (by rw[bP];exact Int.not_le.mpr (aaT z)) ?_
  rw[bP]
  exact Re.same Cx _) fun e=>oE e fun l hl e=>kS e fun z e=>by
  rw[iy]at z e
  apply s2 e
  refine Hz Re hl q fun x ws hw hx=> ?_
  have h3:ws.toArray.size=l.length:=by rw[aZ];exact hw.length
  rcases hx with hx|hx
  ·refine NL hx (by rw[h3];exact aaT z) ?_
   rw[h3];exact Re.same Cx _
  ·refine RB hx (by rw[h3];exact aaT z) ?_
   rw[h3];exact Re.same Cx _
theorem QT{n:Nat}(z:bc n 100000=true):n<2^20:=fm (cC.mp z) (by decide)
theorem V5:aF C k (.type "range") SH:=si fun A R W σ s a v Re q tk r aj e=>lz (Q:=fun a=>V C W a v->_) e (fun n e q=>q.intE fun t=>kS e fun z e=>by
  apply s2 e
  exact call_range_1 (Re.newIm (.rng 0 n) (eD _ _) (tD _) (br _ rfl) (fun W' _ e=>⟨_,_,_,_,rfl,e,by decide,QT z⟩) _)) q
theorem V6:aF C k (.type "range") SJ:=HV fun A R W σ s a b v w Re q q' tk r aj e=>lz (Q:=fun a=>V C W a v->_) e (fun n e q=>lz (Q:=fun b=>V C W b w->_) e (fun m e q'=>q.intE fun t=>q'.intE fun u=>kS e fun z e=>aE z fun z1 z2=>by
  apply s2 e
  exact call_range_2 (Re.newIm (.rng n m) (eD _ _) (tD _) (br _ rfl) (fun W' _ e=>⟨_,_,_,_,rfl,e,QT z1,QT z2⟩) _)) q') q
theorem wl:aF C k (.type "range") lK:=fun A Rm W σ s args vs R hv tk a aj e=>bE e (fun _ e=>V5 A Rm W σ s args vs R hv tk a aj e) fun _ e=>V6 A Rm W σ s args vs R hv tk a aj e
theorem amt{Q:AV->Prop}{a:AV}(h:CU a=true)(kk: ∀l,Q (.tup l)):Q a:=by
 cases a<;>first|exact ff h|exact kk _
theorem oA:aF C k (.type "tuple") fu:=si fun A R W σ s a v Re q tk r aj e=>bE e (fun z e=>s2 (P:=fun r aj=>wpAny (dH C) A (call (.type "tuple") [v]) (rQ C W aj r s) dy s) e (amt (Q:=fun a=>V C W a v->wpAny (dH C) A (call (.type "tuple") [v]) (rQ C W σ a s) dy s) z (fun l q=>by
  exact V.tupE (Q:=fun v=>V C W (.tup l) v->wpAny (dH C) A (call (.type "tuple") [v]) (rQ C W σ (.tup l) s) dy s) q (fun x n ws h1 h2 q'=>call_tuple_same (items:=ws.toArray) ⟨_,Re.im _ _ h1,rfl,n,rfl⟩ (Re.same q' _)) q) q)) fun _ e=>oE e fun l hl e=>kS e fun z e=>by
  apply s2 e
  refine nv Re hl q fun x n ws hx hw=> ?_
  refine call_tuple_list (lX hx) (fun h' hk=> ?_) (by rw[aZ,hw.length];exact i6 z)
  refine Re.newIm (s:=s) (.tup l) (h':=h'.push {cls:=.type "tuple",data:=.seq ws.toArray}) (o:=tw ws 0) (fun b o e=>eD _ _ _ _ (hk b o e)) (by
    cases e:s.heap.get? h'.objs.size with
    |none=>rfl
    |some o=>exact absurd (cz (hk _ _ e)) (zU _)) (br _ rfl) (fun W' le e=>⟨_,0,ws,rfl,e,hw.mono le⟩) _
theorem aba:aF C k (.type "list") abK:=si fun A R W σ s a v Re q tk r aj e=>oE e fun l hl e=>kS e fun z e=>by
  apply s2 e
  refine HA Re hl q fun x n ws hw hx=> ?_
  have h2:ws.toArray.size<=sizeLine:=by rw[aZ,hw.length];exact i6 z
  rcases hx with hx|hx
  ·exact MU x (.inl rfl) hx rfl rfl (fun h' c' hk ho=>Re.newLst hk (tD _) ho hw _) h2
  ·exact MU x (.inr rfl) hx rfl rfl (fun h' c' hk ho=>Re.newLst hk (tD _) ho hw _) h2
theorem alM{i:Int}:(if i<0 then-i else i)=ai i.natAbs:=by
 cases i with
 |ofNat n=>exact if_neg (sX.mpr (dr n))
 |negSucc n=>exact if_pos (pQ n)
theorem T6:aF C k (.builtin "abs") Zq:=si fun A R W σ s a v Re q tk r aj e=>ly (Q:=fun a=>V C W a v->_) e (fun i e q=>q.intE fun t=>by
  apply s2 e
  refine call_abs_int fun u tk=> ?_
  rw[alM];exact Re.same Cx _) q
theorem alQ{n:Nat}(z:bc n 0xD800=true):(decide ((n:Int)<0)||decide ((n:Int)>1114111))=false:=by
 have:=cC.mp z
 rw[decide_eq_false (by omega),decide_eq_false (by omega)];rfl
theorem T8:aF C k (.builtin "chr") Zr:=si fun A R W σ s a v Re q tk r aj e=>lz (Q:=fun a=>V C W a v->_) e (fun n e q=>q.intE fun t=>kS e fun z e=>by
  apply s2 e
  exact PySem.P.chr_of_int (alQ z) (Re.same (He (l:=[n])) _)) q
@[elab_as_elim] theorem Po {β:Type} {Q:AV->Prop} {a:AV} {f:Nat->Option β} {r:β} (h:NQ a f=some r) (kk: ∀c,f c=some r->Q (.str [c])):Q a:=fh h fun s h=>by
 cases s with
 |nil=>exact nn h
 |cons c l=>cases l with
  |nil=>exact kk c h
  |cons=>exact nn h
@[elab_as_elim] theorem Pp {β:Type} {Q:AV->Prop} {a:AV} {f:Nat->List Nat->Option β} {r:β} (h:NS a f=some r) (kk: ∀c l,f c l=some r->Q (.str (c::l))):Q a:=fh h fun s h=>by
 cases s with
 |nil=>exact nn h
 |cons c l=>exact kk c l h
theorem Ua:aF C k (.builtin "ord") Zs:=si fun A R W σ s a v Re q tk r aj e=>Po (Q:=fun a=>V C W a v->_) e (fun i e q=>q.strE fun t=>by
  apply s2 e
  exact PySem.P.ord_of_char (Re.same Cx _)) q
theorem amG{i j:Int}{t u:Tok}:(if j<i then BB j u else .int i t)= .int (bif C6 j i then j else i) (if j<i then u else t):=by
 rw[x7]
 by_cases q:j<i
 ·rw[if_pos q,if_pos q,decide_eq_true q];rfl
 ·rw[if_neg q,if_neg q,decide_eq_false q];rfl
theorem ae6:aF C k (.builtin "min") UK:=HV fun A R W σ s a b v w Re q q' tk r aj e=>ly (Q:=fun a=>V C W a v->_) e (fun i e q=>ly (Q:=fun b=>V C W b w->_) e (fun j e q'=>q.intE fun t=>q'.intE fun u=>by
  apply s2 e
  refine min_two_ints R.handled fun h' tk hk=> ?_
  rw[amG];exact Re.grown Cx hk _) q') q
theorem V3:aF C k (.builtin "list.append") gy:=HV fun A R W σ s a b v w Re q q' tk r aj e=>iD (Q:=fun a=>V C W a v->_) e (fun x e q=>lstE e fun l hg e=>kS e fun z e=>by
  apply s2 e
  refine Re.lstE hg q fun p us n q1 q0 q2 r=> ?_
  refine vk (items:=us.toArray) ⟨n,q2⟩ (fun h' hp hs=> ?_) (by rw[aZ,r.length];exact i6 z)
  obtain⟨n',hg'⟩:=hp
  rw[E8]at hg'
  exact⟨⟨h',s.toks,rfl⟩,W,.refl _,Re.set (c:=.lst _) hg q1 (fun b o hb e=>hs.extBut b o (q0▸hb) e) ⟨q0,_,_,q0▸hg',r.append (VL.one q')⟩,rfl⟩) q
end
end
end
section
open PySem.SeqAt
noncomputable section
section
variable{k:Nat}{C:PC}{W:Wd}{σ:AS}{s:az}{h':bM}
theorem Um{h:bM}{l:aC}{vs ws:List ah}{n:Nat}{f:Array ah->Array ah}(hl:h.get? l=some (dz vs n))(hf:f vs.toArray=ws.toArray): ∃n',(h.update l (Ik f)).get? l=some (dz ws n'):=by
 have q:=Zo (h:=h) (l:=l) (items:=vs.toArray) (n:=n) hl f
 rw[hf]at q
 exact⟨_,q⟩
theorem VL.last{l:aa}{us:List ah}{y:AV}(q:VL C W l us)(h:l.getLast?=some y): ∃v,us=us.dropLast++[v]/\V C W y v/\VL C W l.dropLast us.dropLast:=by
 have hne:l≠[]:=by rintro rfl;cases h
 have hl:0<l.length:=List.length_pos_iff.mpr hne
 rw[sZ]at h
 obtain⟨v,e,q'⟩:=q.get h
 have hu:=q.length
 refine⟨v,?_,q',?_⟩
 ·have hne':us≠[]:=by rintro rfl;simp at hu;omega
  have e2:us.getLast hne'=v:=by
   have:us.getLast?=some v:=by rw[sZ,hu];exact e
   rw[List.getLast?_eq_some_getLast hne']at this;exact aI this
  rw[<- e2];exact(List.dropLast_concat_getLast hne').symm
 ·rw[xg,xg,hu];exact q.take _
theorem ai7{A:b6}{x:aC}{us:List ah}{v:ah}{n:Nat}{Q:ah->az->Prop}(e1:us=us.dropLast++[v])(g:s.heap.get? x=some (dz us n))(hz:us.length<=sizeLine)
  (h: ∀h' n',h'.get? x=some (dz us.dropLast n')->i9 x s.heap h'->Q v {s with heap:=h'}):wpAny (dH C) A (call (.builtin "list.pop") [.ref x]) Q dy s:=by
 have hk:us.toArray.size-1=us.dropLast.length:=by rw[aZ,List.length_dropLast]
 have hy':us.toArray[us.toArray.size-1]? =some v:=by
  rw[hk]
  have:us[us.dropLast.length]? =some v:=(congrArg (fun z:List ah=>z[us.dropLast.length]?) e1).trans (by rw[List.getElem?_concat_length])
  rw[jX];exact this
 obtain⟨n',hg'⟩:=Um (ws:=us.dropLast) (f:=fun x=>x.eraseIdxIfInBounds (us.toArray.size-1)) g (by
  show us.toArray.eraseIdxIfInBounds (us.toArray.size-1)=us.dropLast.toArray
  rw[hk]
  have key:(us.dropLast++[v]).toArray.eraseIdxIfInBounds us.dropLast.length=us.dropLast.toArray:=by rw[kl_erase,aR]
  exact(congrArg (fun z:List ah=>z.toArray.eraseIdxIfInBounds us.dropLast.length) e1).trans key)
 exact ml PySem.F.slot_list_pop ⟨_,g,rfl⟩ PySem.F.entry_list_pop (PySem.F.args_list_pop_1 _) (Ko x _ n v hy' (by rw[aZ];exact hz)) ⟨g,h _ _ hg' (jj ..)⟩
theorem ae7:aF C k (.builtin "list.pop") Zt:=si fun A R W σ s a v Re q tk r aj e=>iD (Q:=fun a=>V C W a v->_) e (fun x e q=>lstE e fun l hg e=>oE e fun y hy e=>kS e fun z e=>by
  apply s2 e
  refine Re.lstE hg q fun p us n q1 q0 q2 r=> ?_
  obtain⟨v,e1,h1,h2⟩:=r.last hy
  exact ai7 e1 q2 (by rw[r.length];exact i6 z) fun h' n' hg' hs=>⟨⟨_,_,rfl⟩,W,.refl _,Re.set (c:=.lst _) hg q1 (fun b o hb e=>hs.extBut b o (q0▸hb) e) ⟨q0,_,_,q0▸hg',h2⟩,h1⟩) q
theorem XO{A:b6}{E:ah->az->Prop}{x y:aC}{us ws:List ah}{n n2:Nat}{Q:ah->az->Prop}(hx:s.heap.get? x=some (dz us n))(hy:s.heap.get? y=some (dz ws n2))(hz:us.length+ws.length<=4000000)
  (h: ∀h' n',h'.get? x=some (dz (us++ws) n')->i9 x s.heap h'->Q .none {s with heap:=h'}):wpAny (dH C) A (call (.builtin "list.extend") [.ref x,.ref y]) Q E s:=by
 obtain⟨n',hg'⟩:=Um (ws:=us++ws) (f:=fun x=>x++ws.toArray) hx (by simp)
 refine ml PySem.F.slot_list_extend ⟨_,hx,rfl⟩ PySem.F.entry_list_extend (PySem.F.args_list_extend_2 _ _) (Bl x us.toArray n y ws.toArray n2 ?_ ?_ ?_) ⟨hx,hy,h _ _ hg' (jj ..)⟩
 ·unfold i8
  simp only[aZ,jG]
  have: ¬us.length+ws.length>16777216:=by omega
  simp[this]
 ·rw[aZ,jG];omega
 ·rw[aZ,aZ,jG];omega
theorem XQ(Re:cD C W σ s.heap){x:Nat}{l m:aa}{p:aC×aC}{us ws:List ah}{h':bM}{n':Nat}(h1:σ.get x=some (.lst l))(q1:W.ρ x=some p)(q0:p.1=p.2)(r:VL C W l us)(r2:VL C W m ws)(hg':h'.get? p.1=some (dz (us++ws) n'))(hs:i9 p.1 s.heap h'):
  rQ C W (σ.set x (.lst (l++m))) .none s .none {s with heap:=h'}:=⟨⟨h',s.toks,rfl⟩,W,.refl _,Re.set (c:=.lst _) h1 q1 (fun b o hb e=>hs.extBut b o (q0▸hb) e) ⟨q0,_,_,q0▸hg',r.append r2⟩,rfl⟩
theorem alY{x:Nat}{b:AV}{m:aa}{Q:AV->Prop}(e:ahC σ x b=some m)(k1: ∀y,σ.get y=some (.lst m)->Q (.ref y))(k2:Q (.lst m)):Q b:=by
 cases b with
 |ref y=>exact kN e fun _ e=>lstE e fun l hg e=>by cases e;exact k1 y hg
 |lst l=>cases e;exact k2
 |_=>exact nn e
theorem V4:aF C k (.builtin "list.extend") gk:=HV fun A R W σ s a b v w Re q q' tk r aj e=>iD (Q:=fun a=>V C W a v->_) e (fun x e q=>oE e fun m hm e=>lstE e fun l h1 e=>kS e fun z e=>by
  apply s2 e
  refine Re.lstE h1 q fun p us n q1 q0 g r=> ?_
  have hz: ∀{ws:List ah},VL C W m ws->us.length+ws.length<=4000000:=fun r2=>by rw[r.length,r2.length];exact jT z
  exact alY (Q:=fun b=>V C W b w->_) hm (fun y h2 q'=>Re.lstE h2 q' fun p2 ws n2 _ _ g2 r2=>XO g g2 (hz r2) fun h' n' hg' hs=>XQ Re h1 q1 q0 r r2 hg' hs)
   (fun q'=>q'.lstE fun y n2 ws g2 r2=>XO g (Re.im _ _ g2) (hz r2) fun h' n' hg' hs=>XQ Re h1 q1 q0 r r2 hg' hs) q') q
theorem XB: ∀n:Fin 128,(lJ (toString (ai n.val))).cps.toList=PK n.val:=by decide +kernel
theorem abj{n:Nat}(hn:n<128):(ai n).natAbs.log2 <1920:=by
 by_cases q:n=0
 ·subst q;decide
 ·exact(FE q).mpr (show n<2^1920 from fm hn (au (show 128<=2^10 by decide) (iW (by decide) (by decide))))
theorem Y4{n:Nat}(hn:n<128):lJ (toString (ai n))=aO (PK n):=congrArg (fun l:List Nat=>(⟨l.toArray⟩:Str)) (XB ⟨n,hn⟩)
theorem Lq:aF C k (.type "str") UL:=si fun A R W σ s a v Re q tk r aj e=>lz (Q:=fun a=>V C W a v->_) e (fun n e q=>q.intE fun t=>kS e fun z e=>by
  apply s2 e
  refine PySem.P.str_of_int (abj (cC.mp z)) ?_
  rw[Y4 (cC.mp z)]
  exact Re.same He _) q
theorem R9{n:Nat}{ns:List Int}{l:List UInt8}(h3:byteArr ns=l.toArray):byteArr (ai n::ns)=(RF n::l).toArray:=by
 have h3:ns.map (fun n=>n.toNat.toUInt8)=l:=congrArg Oc h3
 rw[<- h3];rfl
theorem Yz{l:aa}: ∀{b:List UInt8},aaR l=some b-> ∀{vs:List ah},VL C W l vs->(∃ns:List Int,IntsAre vs ns/\(∀n∈ns,0<=n/\n<256)/\byteArr ns=b.toArray)/\b.length=l.length:=by
 induction l with
 |nil=>exact fun e vs q=>s1 (P:=fun b=>(∃ns:List Int,IntsAre vs ns/\(∀n∈ns,0<=n/\n<256)/\byteArr ns=b.toArray)/\b.length=0) e (q.nilE ⟨⟨[],.nil,fun _ h=>absurd h bh,rfl⟩,rfl⟩)
 |cons a r ih=>exact fun{b} e vs q=>q.consE fun v us q1 q2=>lz (Q:=fun a=>V C W a v->_) e (fun n e q1=>kS e fun z e=>oE e fun l hl e=>q1.intE fun t=>by
   apply s1 e
   obtain⟨⟨ns,h1,h2,h3⟩,h4⟩:=ih hl q2
   refine⟨⟨ai n::ns,.cons _ _ h1,fun m hm=>(aH.mp hm).elim (fun e=>e▸⟨dr n,il.mpr (cC.mp z)⟩) (h2 m),R9 h3⟩,congrArg kq h4⟩) q1
theorem YT:aF C k (.type "bytes") WC:=si fun A R W σ s a v Re q tk r aj e=>oE e fun l hl e=>oE e fun b hb e=>kS e fun z e=>by
  apply s2 e
  refine nv Re hl q fun x n ws hx hw=> ?_
  obtain⟨⟨ns,h1,h2,h3⟩,h5⟩:=Yz hb hw
  refine call_bytes_ints (lX hx) h1 h2 (by rw[hw.length,<- h5];exact i6 z) R.handled fun h' t kk hk=> ?_
  rw[h3]
  exact Re.grown (show V C W (.bytes b) (.bytes b.toArray t) from⟨t,rfl⟩) hk _
end
end
end
section
open PySem.SeqAt
noncomputable section
section
variable{k:Nat}{C:PC}{W:Wd}{σ:AS}{s:az}{h':bM}
noncomputable def zM(sep:ac):List (List Nat)->List Nat
 |[]=>[]
 |b::r=>sep++b++zM sep r
theorem Jh(sep:ac): ∀(a:ac) (r:List (List Nat)),lA sep (a::r)=a++zM sep r
 |a,[]=>by simp[lA,zM]
 |a,b::r=>by
  rw[lA,Jh sep b r,zM]
  ·simp
  ·simp
theorem Qc(sep:ac): ∀(r:List (List Nat)) (acc:ac),(r.map aO).foldl (fun acc p=>acc++(aO sep).cps++p.cps) acc.toArray=(acc++zM sep r).toArray
 |[],acc=>by simp[zM]
 |b::r,acc=>by
  rw[bj,Ie]
  have:acc.toArray++(aO sep).cps++(aO b).cps=(acc++sep++b).toArray:=by simp[aO]
  rw[this,Qc sep r,zM]
  simp
theorem EG(sep:ac)(l:List (List Nat)):Ou (aO sep) (l.map aO)=aO (lA sep l):=by
 unfold Ou Zj
 cases l with
 |nil=>rfl
 |cons a r=>
  rw[Jh]
  show(⟨(r.map aO).foldl _ (aO a).cps⟩:Str)=_
  have:=Qc sep r a
  unfold aO at this ⊢
  rw[this]
theorem Q1: ∀(ss:List (List Nat)) (ts:List Tok),ts.length=ss.length->SD ((ss.zip ts).map fun p=>.str (aO p.1) p.2) (ss.map aO)
 |[],_,_=>.nil
 |a::ss,t::ts,h=>.cons _ _ (Q1 ss ts (by simpa using h))
 |_::_,[],h=>by simp at h
theorem TA(sep:ac): ∀l:List (List Nat),((l.map aO).map (·.length)).sum <=(lA sep l).length
 |[]=>by simp
 |[a]=>by simp[lA,bP]
 |a::b::r=>by
  have:=TA sep (b::r)
  rw[lA]
  ·simp only[bj,List.sum_cons,ao,bP]at this ⊢;omega
  ·simp
end
end
end
section
open PySem.SeqAt
open Builtin Builtin.Str
noncomputable section
theorem aex:typeLookup (.type "dict_keyiterator") "__len__"=pure none:=by rw[Ir,xn];kernel_rfl
theorem aib:typeLookup (.type "dict_keyiterator") "__length_hint__"=pure (some (.builtin "dict_keyiterator.__length_hint__")):=by rw[Ir,xn];kernel_rfl
section
variable{prog:gg}{w:d5}{A:b6}{E:ah->az->Prop}{s:az}{I:aC}{fp wr:List aC}{G:Array yO->Array yO->Prop}{n:Nat}{P:Nat->ah->Prop}{St:Nat->az->Prop}
theorem Sb{Q:List ah->az->Prop}(W:WalksS prog w A.in1 I fp wr G n P St)(hT: ∀i s,St i s->s.TypeIs (.ref I) "dict_keyiterator")(hst:St 0 s)(hfp: ∀b∈fp,b<s.heap.objs.size)(hI:I∈fp)
  (hQ: ∀s' acc,Moved wr G s s'->ItemsOf P acc n->Q acc.toList s')(hn:n<=sizeLine):wpAny (model prog w) A (collect (.ref I)) Q E s:=by
 have hSf:s.heap.objs.size∉fp:=fun hm=>zU _ (hfp _ hm)
 have hSI:s.heap.objs.size≠I:=fun e=>hSf (e▸hI)
 unfold collect
 refine aq (wpAny_runValue (Im F.entry_proto_collect ?_))
 rw[yL F.plain_proto_collect _]
 show wpAny _ A.in1 (newList []>>=fun l=>again (.builtin "list.__iadd__" ⟨[l,.ref I],[]⟩)) _ _ s
 refine aq (fS ?_)
 refine aM ⟨MV E2 _,Im F.entry_list_iadd ?_⟩
 rw[yL E2 _]
 have EH:=W.frame 0 s (s.heap.push {cls:=.type "list",data:=.seq ([]:List ah).toArray}) s.toks hst (ax _) fun b _ o e=>bH _ e
 have aoK:(s.heap.push {cls:=.type "list",data:=.seq ([]:List ah).toArray}).get? s.heap.objs.size=some {cls:=.type "list",data:=.seq ([]:List ah).toArray}:=br _ rfl
 have h1:tF (.ref s.heap.objs.size) (.ref I)=false:=by simp[tF,hSI]
 show wpAny _ A.in1 (qW (.ref s.heap.objs.size) (.ref I) (.ref s.heap.objs.size)) _ _ _
 unfold qW
 refine aq (Oy (hT 0 _ EH) ?_)
 rw[if_neg (by rw[h1];decide)]
 refine aq (W.self 0 _ _ _ EH ?_)
 refine aq (dJ ?_)
 unfold LP
 refine aq (Iv (hT 0 _ EH) aex ?_)
 show wpAny _ A.in1 (specialOf (og I) (lJ "__length_hint__")>>=_) _ _ _
 refine aq (Iv (hT 0 _ EH) aib ?_)
 generalize hid:("dict_keyiterator.__length_hint__":String)=id0
 wp_delta
 rw[show splitId id0=some ("dict_keyiterator","__length_hint__") from by subst hid;decide +kernel]
 subst hid
 refine aq (wpAny_isInstance (b:=true) (hT 0 _ EH) (by rw[isSubtype_type];kernel_rfl) ?_)
 refine aM ?_
 rw[if_neg (by decide)]
 refine aM ⟨MV F.plain_extend_loop _,codeAny_extend_loopS W hn _ hSf _ n 0 _ _ _ rfl (aS _) EH aoK (ItemsOf.nil P) fun s' acc' c' hm hS' hacc=> ?_⟩
 show wpAny _ A (load s.heap.objs.size>>=_) _ _ s'
 refine aq (wpAny_load hS' ?_)
 exact aM (hQ s' acc' (Moved.drop_new (o:={cls:=.type "list",data:=.seq ([]:List ah).toArray}) (tk:=s.toks) hm (ax _)) hacc)
end
section
variable{k:Nat}{C:PC}{W:Wd}{σ:AS}{s:az}{h':bM}{A:b6}{E:ah->az->Prop}
theorem alE{ks:List Str}: ∀{vs:List ah} {j:Nat} {a:Str} {y:ah},(ks.zip vs)[j]? =some (a,y)->ks[j]?.getD Wx=a:=by
 induction ks with
 |nil=>exact fun{vs j a y} h=>by cases h
 |cons b ks ih=>
  intro vs j a y h
  cases vs with
  |nil=>cases h
  |cons v vs=>cases j with
   |zero=>cases h;rfl
   |succ j=>exact ih (vs:=vs) (j:=j) h
theorem abk{L:List ah}: ∀{ks:List Str},(∀(j:Nat) v,L[j]? =some v-> ∃t,v= .str (ks[j]?.getD Wx) t)->L.length=ks.length-> ∃l:List (Str×Tok),strValues l=L/\l.map (·.1)=ks:=by
 induction L with
 |nil=>
  intro ks _ hlen
  cases ks with
  |nil=>exact⟨[],rfl,rfl⟩
  |cons=>cases hlen
 |cons v L ih=>
  intro ks each hlen
  cases ks with
  |nil=>cases hlen
  |cons kk ks=>
   obtain⟨t,ht⟩:=each 0 v rfl
   refine fg (ih (ks:=ks) (fun j v e=>each (j+1) v e) (jZ hlen)) fun l h1 h2=> ?_
   exact⟨(kk,t)::l,by rw[<- h1,ht];rfl,by rw[<- h2];rfl⟩
theorem aaB{x:Str}{t:Tok}{d:aC}{ks:List Str}{vs:List ah}{ep:Nat}{Q:ah->az->Prop}(hh:A.handled=none)(h0:(d==sysModules)=false)(hl:ks.length=vs.length)(hd:s.heap.DictAt (rK C.prog C.w) d (ks.zip vs) ep)(hN:ks.length<=sizeLine)
  (hok:JoinOk x ks=true)(h: ∀h' t' tk,(∀b o,s.heap.get? b=some o->h'.get? b=some o)->Q (.str (Ou x ks) t') {s with heap:=h',toks:=tk}):wpAny (dH C) A (call (.builtin "str.join") [.str x t,.ref d]) Q E s:=by
 have hT:s.TypeIs (.ref d) "dict":=hd.dictOf.typeIs
 refine oT (oQ vv.plain F.entry_str_join (vv.check _ _ _ _ _ _ _ _ (mm _ _ _) (F.args_str_join_2 _ _) ?_))
 rw[join_tree_other]
 refine aq (Oy hT ?_)
 show wpAny _ A.in1 ((pyIter (.ref d)).tryCatch _>>=fun it=>collect it>>=fun items=>joinTail x items) _ _ s
 have hz:(ks.zip vs).length=ks.length:=by simp[hl]
 have ne:d≠s.heap.objs.size:=by obtain⟨o,es,ho,_⟩:=hd;exact cu (cz ho)
 refine aq (wpAny_tryCatch (Fq h0 hd ?_))
 have W:=(Kp (A:=A.in1.in1) (knd:=rK C.prog C.w) hh s.heap.objs.size d ne (ks.zip vs) ep).toS
 refine aq (Sb W (fun _ _ st=>let⟨o,ho,hc,_⟩:=st.1;⟨o,ho,hc⟩) ⟨⟨_,br _ rfl,rfl,rfl⟩,hd.at' fun o e=>eD _ _ _ _ e⟩ (fun b hb=> ?_) (by simp) (fun s' acc hm hacc=> ?_) (by rw[hz];exact hN))
 ·rw[p8]
  simp at hb
  rcases hb with rfl|rfl
  ·exact bU _
  ·obtain⟨o,es,ho,_⟩:=hd;exact cP (cz ho)
 ·refine aqr (hacc) fun ha hv=> ?_
  have key: ∃l:List (Str×Tok),strValues l=acc.toList/\l.map (·.1)=ks:=abk (fun j v e=>by
    refine Te (hv j v (by rw[<- Array.getElem?_toList];exact e)) fun kk y e1 e2=> ?_
    obtain⟨t,rfl⟩:=Mine.strKind_is e2
    exact⟨t,congrArg (gw · t) (alE e1).symm⟩) (by rw[Array.length_toList,ha,hz])
  refine fg (key) fun l hl1 hl2=> ?_
  rw[<- hl1]
  have hs':s'={s with heap:=s'.heap,toks:=s'.toks}:=by
   obtain⟨h1,g1,d1,t1,o1⟩:=s'
   have a1:=hm.gens
   have a2:=hm.drawn
   have a3:=hm.os
   dsimp only at a1 a2 a3 ⊢
   rw[a2,a3,a1]
  have keep: ∀b o,s.heap.get? b=some o->s'.heap.get? b=some o:=fun b o e=>hm.heap b o (by simp;exact cu (cz e)) (eD _ _ _ _ e)
  have hok':=hok
  rw[<- hl2]at hok'
  unfold JoinOk at hok'
  rw[ej]at hok'
  have g:Gives (joinTail x (strValues l)) (joinMade x l):=by
   have g0:=gives_joinTail x l hok'
   cases l with
   |nil=>exact g0
   |cons p r=>cases r with
    |nil=>exact g0
    |cons q r'=>exact g0
  exact g C.prog C.w A (wants Q E) s' (post_join l ⟨joinFit_length hok',fun t' kk=>by rw[hl2,hs'];exact h _ _ _ keep⟩)
theorem aeo{b:AV}{l:List (List Nat)}{P:Prop}(h:acx σ b=some l)(k1: ∀fs,b= .dct l fs->P)(k2: ∀m,nG σ b=some m->nO m=some l->P):P:=by
 have k3:ob (nG σ b) nO=some l->P:=fun h=>oE h k2
 clear k2
 cases b with
 |dct ks fs=>exact s1 (P:=fun l=>(∀fs',AV.dct ks fs= .dct l fs'->P)->P) h (fun k1=>k1 fs rfl) k1
 |_=>exact k3 h
theorem X6{sep:ac}{l:List (List Nat)}(z:dj (dN (lA sep l)+dN l*dN sep+dN l)=true):((l.map aO).map (·.length)).sum +(l.map aO).length *(aO sep).length <=16777216/\l.length<=sizeLine:=by
 rw[iy,iy,iy]at z
 have hz:=jT z
 have hsum:=TA sep l
 rw[aU,bP,jG]
 generalize l.length*sep.length=q at *
 generalize ((l.map aO).map (·.length)).sum=w at *
 generalize (lA sep l).length=u at *
 exact⟨by omega,by omega⟩
theorem aa9:aF C k (.builtin "str.join") vC:=HV fun A R W σ s a b v w Re q q' tk r aj e=>fh (Q:=fun a=>V C W a v->_) e (fun sep e q=>q.strE fun t=>oE e fun l hl e=>kS e fun z e=>by
  apply s2 e
  have hok:=X6 z
  refine aeo hl (fun fs hb=> ?_) fun m hm hl=> ?_
  ·subst hb
   refine q'.dctE fun x o ws q0 q1 q2 qd=> ?_
   obtain⟨q3,es,ep,qd⟩:=qd
   refine aaB R.handled q0 (by rw[aU];exact q3) ⟨o,es,Re.im _ _ q1,qd⟩ ?_ (joinOk_of hok.1) fun h' t' tk hk=> ?_
   ·rw[aU];exact hok.2
   ·rw[EG];exact Re.grown He hk _
  ·refine Hz Re hm q' fun x ws hws hx=> ?_
   refine fg (Pg hl hws) fun ts h1 h2=> ?_
   subst h2
   have hs:=Q1 l ts h1
   rcases hx with hx|hx
   ·refine RA hx hs hok.1 fun t' kk=> ?_
    rw[EG];exact Re.same He _
   ·refine Rv hx hs hok.1 fun t' kk=> ?_
    rw[EG];exact Re.same He _) q
end
end
end
section
open PySem.SeqAt
open Builtin Builtin.Str
noncomputable section
def Iw(s p:ac)(i:Nat):Prop:=i+p.length<=s.length/\subAt (aO s) (aO p) i=true
theorem CD{s p:ac}{i:Nat}(hi:i<=s.length):Iw s p i↔j7 p (s.drop i)=true:=by
 unfold Iw
 simp only[tV,gV,bP,beq_iff_eq,HL]
 constructor
 ·rintro⟨_,h⟩;exact h
 ·intro h
  refine⟨?_,h⟩
  have:=congrArg nh h
  simp only[kp,hV]at this
  omega
theorem TT(s p:ac): ∀(l:ac) (j f:Nat),(forIn l ((#[j]:Array Nat),f) (et (aO s) (aO p) s.length 1)).run.fst= #[j]
 |[],_,_=>rfl
 |a::l,j,f=>by
  rw[gN]
  unfold et
  rw[if_neg (by simp)]
  exact TT s p l j f
theorem QE(s p:ac): ∀(pre post:ac) (j free:Nat),(∀i∈pre++[j],free<=i)->(∀i∈pre,¬Iw s p i)->Iw s p j->
  (forIn (pre++j::post) ((#[]:Array Nat),free) (et (aO s) (aO p) s.length 1)).run.fst= #[j]
 |[],post,j,free,hf,_,hj=>by
  rw[vx,gN]
  unfold et
  have h1:free<=j:=hf j (by simp)
  have h2:=hj.1
  rw[if_pos ⟨⟨⟨by simp,h1⟩,by rw[bP];exact h2⟩,hj.2⟩]
  exact TT s p post j _
 |a::pre,post,j,free,hf,hn,hj=>by
  rw[fi,gN]
  unfold et
  rw[if_neg (by
   rintro⟨⟨_,h1⟩,h2⟩
   rw[bP]at h1
   exact hn a (bg ..) ⟨h1,h2⟩)]
  exact QE s p pre post j free (fun i hi=>hf i (by rw[fi];exact aQ _ hi)) (fun i hi=>hn i (aQ _ hi)) hj
theorem I9(p:ac): ∀(s:ac) (i j:Nat),EE p i s=some j-> ∃k,j=i+k/\k<=s.length/\j7 p (s.drop k)=true/\ ∀m,m<k->j7 p (s.drop m)=false
 |[],i,j,e=>by
  unfold EE at e
  cases z:j7 p []<;>rw[z]at e<;>cases e
  exact⟨0,rfl,ax _,z,fun m hm=>absurd hm (fY _)⟩
 |a::s,i,j,e=>by
  unfold EE at e
  cases z:j7 p (a::s)<;>rw[z]at e
  ·obtain⟨k,h1,h2,h3,h4⟩:=I9 p s (i+1) j e
   refine⟨k+1,by omega,by simp;exact h2,h3,fun m hm=> ?_⟩
   cases m with
   |zero=>exact z
   |succ m=>exact h4 m (by omega)
  ·cases e
   exact⟨0,rfl,aS _,z,fun m hm=>absurd hm (fY _)⟩
theorem aaQ{s p:ac}{j:Nat}(e:EE p 0 s=some j):occurrences (aO s) (aO p) 0 (aO s).length 1=[j]:=by
 obtain⟨k,h1,h2,h3,h4⟩:=I9 p s 0 j e
 have hk:k=j:=by omega
 subst hk
 rw[xi,bP]
 have hs:iX 0 (s.length+1-0)=iX 0 k++k::iX (k+1) (s.length-k):=by
  have h5:s.length+1-0=k+((s.length-k)+1):=by omega
  rw[h5,<- List.range'_append_1,io,tN]
 rw[hs,QE s p _ _ k 0 (fun _ _=>aS _) (fun i hi=> ?_) ((CD h2).mpr h3)]
 have hi:i<k:=by simpa[E7] using hi
 rw[CD (by omega),h4 i hi]
 decide
section
variable{k:Nat}{C:PC}
theorem YU:aF C k (.builtin "str.index") IB:=HV fun A R W σ s a b v w Re q q' tk r aj e=>fh (Q:=fun a=>V C W a v->_) e (fun sep e q=>Pp (Q:=fun b=>V C W b w->_) e (fun c p e q'=>oE e fun i hi e=>q.strE fun t=>q'.strE fun u=>by
  apply s2 e
  exact PySem.SC.index (aaQ hi) (Re.same Cx _)) q') q
end
end
end
section
open PySem.SeqAt
open Builtin Builtin.Str
noncomputable section
noncomputable def pw(c:Nat):Nat->List Nat->List Nat
 |_,[]=>[]
 |i,a::r=>bif am a c then i::pw c (i+1) r else pw c (i+1) r
theorem abl{s:ac}{c i a:Nat}{r:ac}(h:s.drop i=a::r):subAt (aO s) (aO [c]) i=am a c:=by
 rw[tV,gV,bP,gV,h,gm]
 by_cases q:a=c<;>simp[q]
theorem QD(s:ac)(c lim:Nat): ∀(r:ac) (i:Nat) (found:Array Nat) (free:Nat),s.drop i=r->i<=s.length->free<=i->found.size+r.length<lim->
  (forIn (iX i (r.length+1)) (found,free) (et (aO s) (aO [c]) s.length lim)).run.fst.toList=found.toList++pw c i r
 |[],i,found,free,h,hi,hf,hl=>by
  have:s.length<=i:=oM.mp h
  rw[show iX i (([]:List Nat).length +1)=[i] from rfl,gN]
  unfold et
  rw[if_neg (by
   rintro⟨⟨_,h1⟩,_⟩
   rw[bP]at h1;simp at h1;omega)]
  simp[pw]
 |a::r,i,found,free,h,hi,hf,hl=>by
  have hlt:i<s.length:=by
   rcases oO i s.length with z|z
   ·exact z
   ·rw[ic z]at h;cases h
  have hr:s.drop (i+1)=r:=by
   have:=congrArg (Bw 1) h
   simpa[p9] using this
  rw[bT,tN,gN]
  unfold pw
  have hs:=abl (c:=c) h
  cases q:am a c with
  |true=>
   rw[q]at hs
   unfold et
   rw[if_pos ⟨⟨⟨by simp at hl ⊢;omega,hf⟩,by rw[bP];simp;omega⟩,hs⟩]
   have ih:=QD s c lim r (i+1) (found.push i) (i+(aO [c]).length) hr hlt (by rw[bP];simp) (by simp at hl ⊢;omega)
   simp only[af]
   rw[Array.toList_push]at ih
   exact ih.trans (by simp)
  |false=>
   rw[q]at hs
   unfold et
   rw[if_neg (by rintro⟨_,h2⟩;rw[hs]at h2;cases h2)]
   exact QD s c lim r (i+1) found free hr hlt (jP hf) (by simp at hl ⊢;omega)
theorem Yy(s:ac)(c:Nat):occurrences (aO s) (aO [c]) 0 (aO s).length ((aO s).length +1)=pw c 0 s:=by
 rw[xi,bP]
 have:=QD s c (s.length+1) s 0 #[] 0 rfl (aS _) (ax _) (by simp)
 simpa using this
theorem acV(s:ac)(a b:Nat):strSub (aO s) a b=aO ((s.take b).drop a):=by
 unfold strSub aO
 congr 1
 apply GB.mp
 simp[List.drop_take]
theorem wb(s:ac)(c:Nat): ∀(r:ac) (i i0:Nat) (acc:ac),s.drop i=r->i0<=i->i<=s.length->acc.reverse=(s.take i).drop i0->
  ((i0::(pw c i r).map (· +1)).zip (pw c i r++[s.length])).map (fun p=>strSub (aO s) p.1 p.2)=(dw c acc r).map aO
 |[],i,i0,acc,h,h0,hi,ha=>by
  have hl:s.length<=i:=oM.mp h
  have:i=s.length:=vy hi hl
  subst this
  simp only[pw,jY,vx,bQ,List.zip_nil_left,bj,dw]
  rw[acV,ha]
 |a::r,i,i0,acc,h,h0,hi,ha=>by
  have hlt:i<s.length:=by
   rcases oO i s.length with z|z
   ·exact z
   ·rw[ic z]at h;cases h
  have hr:s.drop (i+1)=r:=by
   have:=congrArg (Bw 1) h
   simpa[p9] using this
  have hai:s[i]? =some a:=by
   have:(s.drop i)[0]? =some a:=by rw[h];rfl
   simpa using this
  unfold pw dw
  cases q:am a c with
  |true=>
   simp only[af,bj,fi,bQ]
   have ih:=wb s c r (i+1) (i+1) [] hr (ax _) hlt (by simp)
   rw[acV,ha]
   exact congrArg _ ih
  |false=>
   simp only[ae]
   refine wb s c r (i+1) i0 (a::acc) hr (jP h0) hlt ?_
   rw[E9,ha,List.take_add_one,hai,List.drop_append_of_le_length (by simp;omega)]
   rfl
end
end
section
open PySem.SeqAt
open Builtin Builtin.Str
noncomputable section
section
variable{k:Nat}{C:PC}{s:az}{A:b6}{E:ah->az->Prop}
theorem abi{x y:Str}{t u:Tok}{Q:ah->az->Prop}(hy:(y.length==0)=false)
  (h: ∀(l:List (Str×Tok)) k,l.map (·.1)=LV x y->Q (.ref s.heap.objs.size) {s with heap:=s.heap.push (dz (strValues l) 0),toks:=k})
  (hsz:x.length+2<=sizeLine):
  wpAny (dH C) A (call (.builtin "str.split") [.str x t,.str y u]) Q E s:=by
 have hn:(partsBetween x (occurrences x y 0 x.length (x.length+1)) y.length).length <=sizeLine:=by
  have e1:=StrLaws.occ_length_le x y 0 x.length (x.length+1)
  rw[length_partsBetween];omega
 cases h1:(decide (x.length<y.length)||decide (gB x<gB y))
 ·cases hf:(occurrences x y 0 x.length (x.length+1)).isEmpty
  ·refine ml nP (mm _ _ _) sr (q6 _ _) (meets_str_split_sep x y t u h1 hy hf (by omega) hn) ?_
   show wants Q E _ {s with toks:=_,heap:=s.heap.push {cls:=.type "list",data:=.seq (strsFrom s.toks (partsBetween x (occurrences x y 0 x.length (x.length+1)) y.length)).toArray}}
   rw[strsFrom_eq]
   exact h (numbered s.toks _) _ ((numbered_texts _ _).trans ((if_neg (ne_true_of_eq_false h1)).trans (if_neg (ne_true_of_eq_false hf))).symm)
  ·exact ml nP (mm _ _ _) sr (q6 _ _) (meets_str_split_not_found x y t u h1 hy hf)
    (h [(x,t)] s.toks ((if_neg (ne_true_of_eq_false h1)).trans (if_pos hf)).symm)
 ·exact ml nP (mm _ _ _) sr (q6 _ _) (meets_str_split_cannot_occur x y t u h1)
   (h [(x,t)] s.toks (if_pos h1).symm)
theorem DB(c:Nat): ∀(s acc:ac),(∀a∈s,am a c=false)->dw c acc s=[acc.reverse++s]
 |[],acc,_=>by simp[dw]
 |a::s,acc,h=>by
  unfold dw
  rw[h a (bg ..),ae,DB c s (a::acc) fun b hb=>h b (aQ _ hb)]
  simp
theorem Li(c:Nat): ∀(s:ac) (i:Nat),pw c i s=[]-> ∀a∈s,am a c=false
 |[],_,_,a,h=>by cases h
 |b::s,i,e,a,h=>by
  unfold pw at e
  cases q:am b c with
  |true=>rw[q]at e;cases e
  |false=>
   rw[q]at e
   rcases aH.mp h with rfl|h
   ·exact q
   ·exact Li c s (i+1) e a h
theorem aiq{s:ac}{c:Nat}(h:gB (aO s)<gB (aO [c])): ∀a∈s,am a c=false:=by
 intro a ha
 cases q:am a c with
 |false=>rfl
 |true=>
  exfalso
  have:=aD q
  subst this
  unfold gB aO at h
  simp only[List.all_toArray]at h
  by_cases h1:a<256
  ·simp[h1]at h
   split at h<;>(try split at h)<;>omega
  ·by_cases h2:a<65536
   ·have e1:(s.all fun x=>decide (x<256))=false:=by
     rw[sv];exact⟨a,ha,by simp[h1]⟩
    simp[h1,h2,e1]at h
    first|omega|(split at h<;>omega)
   ·have e1:(s.all fun x=>decide (x<256))=false:=by
     rw[sv];exact⟨a,ha,by simp[h1]⟩
    have e2:(s.all fun x=>decide (x<65536))=false:=by
     rw[sv];exact⟨a,ha,by simp[h2]⟩
    simp[h1,h2,e1,e2]at h
theorem afs(s:ac)(c:Nat):LV (aO s) (aO [c])=(dw c [] s).map aO:=by
 have no:(∀a∈s,am a c=false)->[aO s]=(dw c [] s).map aO:=fun h=>by rw[DB c s [] h];simp
 unfold LV
 split
 ·rename_i h
  rw[oJ,decide_eq_true_iff,decide_eq_true_iff,bP,bP]at h
  rcases h with h|h
  ·have:s=[]:=List.eq_nil_of_length_eq_zero (by simp at h;simp[h])
   subst this;exact no fun a ha=>by cases ha
  ·exact no (aiq h)
 ·rw[Yy]
  split
  ·rename_i h
   exact no (Li c s 0 (dM.mp h))
  ·have:=wb s c s 0 0 [] rfl (ax _) (aS _) (by simp)
   rw[<- this]
   unfold partsBetween
   rw[bP,bP]
   rfl
theorem Mb{W:Wd}: ∀{ss:List (List Nat)} {l:List (Str×Tok)},l.map (·.1)=ss.map aO->VL C W (ss.map .str) (strValues l)
 |[],[],_=>VL.nil
 |a::ss,(x,t)::l,h=>by
  simp only[bj,vw]at h
  exact⟨.str x t,strValues l,rfl,⟨t,by rw[h.1]⟩,Mb h.2⟩
 |[],_::_,h=>by simp at h
 |_::_,[],h=>by simp at h
theorem YY:aF C k (.builtin "str.split") kL:=HV fun A R W σ s a b v w Re q q' tk r aj e=>fh (Q:=fun a=>V C W a v->_) e (fun x e q=>Po (Q:=fun b=>V C W b w->_) e (fun c e q'=>kS e fun z e=>q.strE fun t=>q'.strE fun u=>by
  apply s2 e
  refine abi (by rw[bP];rfl) (fun l tk hl=> ?_) (by have:=jT z;rw[bP,jG];omega)
  rw[afs]at hl
  exact Re.newLst (eD _ _) (tD _) (br _ rfl) (Mb hl) _) q') q
end
end
end
section
open PySem.SeqAt
open Builtin Builtin.Str
noncomputable section
section
variable{k:Nat}{C:PC}
theorem EW{x:Str}{id:String}{F:aW}(slot:Slot "str" x id)(ty:typeOf (.builtin id)=pure (.type "method_descriptor"))(hF:aF C k (.builtin id) F):d8 C k x (iz F):=fun W σ h a v F' R hv e=>by
 revert hv
 exact fh (Q:=fun a=>V C W a v->_) e fun i e=>by
  apply s1 e
  exact fun hv=>hv.strE fun t=>⟨.builtin id,fun A s pl E Q hs hq=>GM.of _ (mm _ _ _) slot ty GM.noRef hq,fA,hF⟩
theorem Ln{x:Str}{id:String}{F:aW}(pa:PlainAttrs "list")(slot:Slot "list" x id)(ty:typeOf (.builtin id)=pure (.type "method_descriptor"))(hF:aF C k (.builtin id) F):d8 C k x (fX F):=fun W σ h a v F' R hv e=>by
 revert hv
 exact iD (Q:=fun a=>V C W a v->_) e fun y e=>lstE e fun l hg e=>by
  apply s1 e
  intro hv
  refine R.lstE hg hv fun p us n q q0 q2 r=>⟨.builtin id,fun A s pl E Q hs hq=> ?_,fA,hF⟩
  subst hs
  exact getMethod_builtin (⟨_,q2,rfl⟩:s.TypeIs (.ref p.1) "list") pa slot ty (fun a ha=>by cases ha;exact⟨_,q2,rfl⟩) hq
theorem rx:d8 C k "split" (iz kL):=EW nP F.type_str_split YY
theorem qz:d8 C k "join" (iz vC):=EW vv F.type_str_join aa9
theorem Mv:d8 C k "index" (iz IB):=EW F.slot_str_index F.type_str_index YU
theorem fN:d8 C k "append" (fX gy):=Ln su F.slot_list_append F.type_list_append V3
theorem tv:d8 C k "extend" (fX gk):=Ln su F.slot_list_extend F.type_list_extend V4
theorem ae1:d8 C k "pop" (fX Zt):=Ln su F.slot_list_pop F.type_list_pop ae7
end
end
end
section
open PySem.SeqAt
open PySem.NumText
noncomputable section
section
variable{k:Nat}{C:PC}
theorem Gb: ∀(l:ac) (n m:Nat),lY n l=some m->AllDigits l/\l.foldl (fun acc c=>acc*10+(c-48)) n=m
 |[],n,m,e=>by cases e;exact⟨fun c h=>(by cases h),rfl⟩
 |c::r,n,m,e=>by
  unfold lY at e
  cases z:cJ 48 c&&cJ c 57<;>rw[z]at e
  ·cases e
  ·simp only[cM]at z
   obtain⟨h1,h2⟩:=Gb r _ _ e
   refine⟨fun d hd=> ?_,h2⟩
   rcases aH.mp hd with rfl|hd
   ·exact⟨av z.1,av z.2⟩
   ·exact h1 d hd
theorem aeg{c n:Nat}{r:ac}(hl:r.length<18)(hn:lY 0 (c::r)=some n):PySem.intText? (aO (c::r))=some (n:Int):=by
 obtain⟨h1,h2⟩:=Gb _ _ _ hn
 have:=intText_digits (x:=aO (c::r)) (by rw[gV];exact h1) (by rw[gV];exact List.cons_ne_nil _ _) (by rw[bP,bT];omega)
 rw[gV]at this
 rw[<- h2];exact this
theorem ae4:aF C k (.type "int") t4:=si fun A R W σ s a v Re q tk r aj e=>Pp (Q:=fun a=>V C W a v->_) e (fun c r e q=>kS e fun z e=>oE e fun n hn e=>q.strE fun t=>by
  apply s2 e
  have hl:=cC.mp z
  exact SA (aeg hl hn) (by rw[bP,bT];omega) (Re.same Cx _)) q
end
end
end
section
open PySem.SeqAt
open Builtin Builtin.Str
noncomputable section
theorem acI(s p:ac)(lim:Nat): ∀(l:ac) (free:Nat),(∀i∈l,¬Iw s p i)->(forIn l ((#[]:Array Nat),free) (et (aO s) (aO p) s.length lim)).run.fst= #[]
 |[],_,_=>rfl
 |a::l,free,hn=>by
  rw[gN]
  unfold et
  rw[if_neg (by
   rintro⟨⟨_,h1⟩,h2⟩
   rw[bP]at h1
   exact hn a (bg ..) ⟨h1,h2⟩)]
  exact acI s p lim l free fun i hi=>hn i (aQ _ hi)
theorem Tp(p:ac): ∀(s:ac) (i:Nat),zr p s=false->i<=s.length->j7 p (s.drop i)=false
 |[],i,h,hi=>by
  have:i=0:=Rx.mp hi
  subst this;exact h
 |a::s,0,h,_=>by rw[Je]at h;exact(oH.mp h).1
 |a::s,i+1,h,hi=>by
  rw[Je]at h
  exact Tp p s i (oH.mp h).2 (ni hi)
theorem aii(p s:ac)(i:Nat)(h:Qf p s=false)(hi:i<=s.length):j7 p (s.drop i)=false:=Tp p s i (by rw[<- X0];exact h) hi
theorem Yx{s p:ac}(h:Qf p s=false)(lim:Nat):occurrences (aO s) (aO p) 0 (aO s).length lim=[]:=by
 rw[xi,bP,acI s p lim _ 0 fun i hi q=> ?_]
 have hi:i<=s.length:=by
  have:=(E7.mp hi).2;omega
 rw[CD hi,aii p s i h hi]at q
 cases q
section
variable{k:Nat}{C:PC}{X:FX}
theorem Sk:aF C k (.builtin "str.replace") t5:=apW fun A R W σ s a b d v w u Re q q' q'' tk r aj e=>fh (Q:=fun a=>V C W a v->_) e (fun x e q=>Pp (Q:=fun b=>V C W b w->_) e (fun c p e q'=>fh (Q:=fun d=>V C W d u->_) e (fun y e q''=>kN e fun z e=>q.strE fun t=>q'.strE fun t'=>q''.strE fun t''=>by
  apply s2 e
  have ho:=Yx z ((aO x).length +1)
  refine call_gives q7 (mm _ _ _) F.entry_str_replace (F.args_str_replace_3 _ _ _) (gives_str_replace (aO x) _ _ t t' t'' fun h=> ?_) ?_
  ·rw[ho]at h;cases h
  ·rw[ho]
   exact Re.same He s.toks) q'') q') q
theorem wZ:d8 C k "replace" (iz t5):=EW q7 Bs Sk
theorem Ml: ∀l:List (List Nat),lA [] l=l.flatten
 |[]=>rfl
 |[a]=>(aR a).symm
 |a::b::r=>by
  unfold lA
  rw[Ml (b::r),aR];rfl
theorem DC(c:Nat): ∀(s acc:ac),(dw c acc s).flatten=acc.reverse++HT c s
 |[],acc=>rfl
 |a::s,acc=>by
  unfold dw HT
  cases q:am a c with
  |true=>rw[af,af,mQ,DC c s []];rfl
  |false=>rw[ae,ae,DC c s (a::acc),E9,aB];rfl
theorem VR(s:ac)(c:Nat):partsBetween (aO s) (pw c 0 s) (aO [c]).length=(dw c [] s).map aO:=by
 have:=wb s c s 0 0 [] rfl (ax _) (aS _) (by rw[List.take_zero,List.drop_nil];rfl)
 rw[<- this]
 unfold partsBetween
 rw[bP,bP]
 rfl
theorem YK(s:ac)(c:Nat):RE (aO s) (aO [c]) (aO [])=aO (HT c s):=by
 have flat:HT c s=(dw c [] s).flatten:=(DC c s []).symm
 unfold RE
 rw[Yy]
 cases ho:(pw c 0 s).isEmpty with
 |true=>
  rw[if_pos (by rfl),flat,DB c s [] (Li c s 0 (dM.mp ho))]
  exact congrArg aO (aR s).symm
 |false=>
  have h1:(aO [c]).length=1:=bP _
  rw[if_neg (by rw[h1];decide),VR,flat,<- Ml,<- EG]
  rfl
theorem amm{C:PC}{v:Str}{t:Tok}{h:bM}{x:Str}{id:String}(slot:Slot "str" x id)(ty:typeOf (.builtin id)=pure (.type "method_descriptor"))(A:b6)(s:az)(pl:Sem Bool)(E:ah->az->Prop)(Q:ah×List ah->az->Prop)(_:s.heap=h)(hq:Q (.builtin id,[.str v t]) s):wpAny (dH C) A (getMethod (.str v t) x pl) Q E s:=GM.of _ (mm _ _ _) slot ty GM.noRef hq
theorem akV{c:Nat}{m:EM}{o:an}{ap p p1 p2:Pos}{j1 j2:Nat}(hb:th o=true)(hl:(ap.endLine==p.line)=true)(hm:b8 X k m o):
  b8 X k (un (ajR c) m) (.Call (.Attribute o "replace" ap) [.Constant (.str (aO [c])) j1 p1,.Constant (.str (aO [])) j2 p2] [] p):=fun A R W fr σ s T a aj e=>by
 refine fW e fun wv ay e1 e=>oE e fun b e2 e=> ?_
 apply s2 e
 revert e1
 refine fh (Q:=fun wv=>m fr σ=some (wv,ay)->_) (show eg wv _=some b from e2) fun x e2 e1=>kS e2 fun ok e2=> ?_
 apply s1 e2
 refine TN (es:=[.Constant (.str (aO [c])) j1 p1,.Constant (.str (aO [])) j2 p2]) hb hl (show 2<30 by decide) hm rfl R T e1 fun v bv bn bD bz d9=> ?_
 refine d9.strE fun t=> ?_
 refine⟨_,@amm X.C (aO x) t bv.heap _ _ q7 Bs,?_⟩
 refine FG (P:=X.C.K.In) rfl fA (wM rfl ?_)
 rw[l6 rfl,l6 rfl]
 refine BE (oK (k:=j1) (pos:=p1) (BE (oK (k:=j2) (pos:=p2) (spliced_nil ⟨bz.rel.K,?_⟩))))
 have hp:=bz.sm.pos
 refine Wl (n:=bv.toks) (au (cU _) (cU _)) ?_
 refine PySem.SC.replace (oP hp) (ku _) (cu (bU _)) ?_ ?_ fun t' k' ht=> ?_
 ·rw[beq_eq_false_iff_ne]
  intro q
  have:=congrArg UF q
  rw[bP,bP]at this
  cases this
 ·rw[bP,bP]
  show x.length+(x.length+1)*0<=_
  rw[Nat.mul_zero]
  exact au (jT ok) (by decide)
 ·rw[YK]
  exact((bz.toks k' ht).post He).le bD
def x5(a b:ac):Prop:= ¬b<a
theorem CQ(x:ac): ∀l,(K5 x l).Perm (x::l)
 |[]=>.refl _
 |y::r=>by
  unfold K5
  cases C7 x y with
  |true=>exact .refl _
  |false=>exact((CQ x r).cons y).trans (.swap x y r)
theorem JN: ∀l,(jU l).Perm l
 |[]=>.refl _
 |x::r=>(CQ x _).trans ((JN r).cons x)
theorem x5.trans{a b c:ac}(h:x5 a b)(h':x5 b c):x5 a c:=List.le_trans (show a<=b from h) (show b<=c from h')
theorem F7(x:ac): ∀l,l.Pairwise x5->(K5 x l).Pairwise x5
 |[],_=>vi ..
 |y::r,h=>by
  unfold K5
  cases q:C7 x y with
  |true=>
   have q:x<y:=ag (EK.symm.trans q)
   have hxy:x5 x y:=List.lt_asymm q
   refine jt.mpr ⟨fun z hz=> ?_,h⟩
   rcases aH.mp hz with rfl|hz
   ·exact hxy
   ·exact hxy.trans (lm h hz)
  |false=>
   have q:x5 y x:=of_decide_eq_false (EK.symm.trans q)
   refine jt.mpr ⟨fun z hz=> ?_,F7 x r (jt.mp h).2⟩
   rcases aH.mp ((CQ x r).mem_iff.mp hz)with rfl|hz
   ·exact q
   ·exact lm h hz
theorem DA: ∀l,(jU l).Pairwise x5
 |[]=>.nil
 |x::r=>F7 x _ (DA r)
theorem JD: ∀(r:List (List Nat)) (p:ac),risingS (aO p) (r.map aO)=true->(p::r).Pairwise x5
 |[],_,_=>vi ..
 |x::r,p,h=>by
  obtain⟨h1,h2⟩:=bk.mp h
  have ih:=JD r x h2
  have q:x5 p x:=by
   rw[ltCps_eq,ej,decide_eq_false_iff_not,gV,gV]at h1
   exact h1
  refine jt.mpr ⟨fun z hz=> ?_,ih⟩
  rcases aH.mp hz with rfl|hz
  ·exact q
  ·exact q.trans (lm ih hz)
theorem Wa: ∀(l:List (List Nat)),sortedS (l.map aO)=true->l.Pairwise x5
 |[],_=>.nil
 |x::r,h=>JD r x h
theorem aaJ(l:List Str): ∃m:List (List Nat),l=m.map aO:=⟨l.map fun s=>s.cps.toList,by rw[gO];exact(tK l).symm.trans (f8 fun s _=>by obtain⟨⟨l⟩⟩:=s;rfl)⟩
theorem abh{l:List (List Nat)}{ss':List Str}(hp:ss'.Perm (l.map aO))(hs:sortedS ss'=true):ss'=(jU l).map aO:=by
 obtain⟨m,rfl⟩:=aaJ ss'
 have hp':m.Perm l:=by
  have:=hp.map fun s=>s.cps.toList
  rw[gO,gO]at this
  have e: ∀k:List (List Nat),k.map ((fun s:Str=>s.cps.toList)∘aO)=k:=fun k=>(f8 fun s _=>gV s).trans (tK k)
  rwa[e,e]at this
 refine congrArg _ (Oh (le:=x5) (fun a b _ _ h1 h2=>List.le_antisymm (show a<=b from h1) (show b<=a from h2)) (Wa m hs) (DA l) (hp'.trans (JN l).symm))
theorem Y5{W:Wd}: ∀{vs:List ah} {l:List (List Nat)},SD vs (l.map aO)->VL C W (l.map .str) vs
 |[],[],_=>VL.nil
 |[],_::_,h=>by cases h
 |v::vs,a::l,h=>by
  cases h with
  |cons x t h=>exact⟨_,_,rfl,⟨t,rfl⟩,Y5 h⟩
theorem W9{W:Wd}{l:aa}{ss:List (List Nat)}{vs:List ah}(h:nO l=some ss)(hv:VL C W l vs):SD vs (ss.map aO):=by
 obtain⟨ts,hl,rfl⟩:=Pg h hv
 exact Q1 ss ts hl
theorem V9:aF C k (.builtin "sorted") qf:=si fun A R W σ s a v Re q tk r aj e=>oE e fun l hl e=>oE e fun ss hss e=>kS e fun z e=>by
  apply s2 e
  refine nv Re hl q fun x n us hx hu=> ?_
  have hS:=W9 hss hu
  have hlen:us.length=ss.length:=hS.length.trans (aU ..)
  refine sorted_strs ⟨_,hx,rfl,n,rfl⟩ hS (by rw[hlen];exact av z) fun out ss' h1 h2 h3=> ?_
  obtain⟨e',he⟩:=sortedAll_at s.heap us out
  have q':=abh h2 h3
  subst q'
  refine Re.newLst (n:=e') (fun b o hb=>sortedAll_old hb) ?_ (by rw[he]) (Y5 h1) s.toks
  cases g:s.heap.get? (s.heap.objs.size+1)with
  |none=>rfl
  |some o=>exact absurd (cz g) (b7.mpr (cU _))
end
end
end
section
open PySem.SeqAt
noncomputable section
structure KO(C:PC)(k:Nat)(Γ:cG):Prop where
 glb: ∀g x a,pX Γ.glb g=some (x,a)->nq C x a
 fns: ∀f x F,pX Γ.fns f=some (x,F)-> ∃fv kF,nq C x (.glob fv)/\oW C fv/\aF C kF fv F/\kF<=k
 mts: ∀n x D,pX Γ.mts n=some (x,D)-> ∃kF,d8 C kF x D/\kF<=k
def SG(C:PC)(FN:List Str):Prop:= ∀i x,Ax FN i=some x->i<C.nf/\C.fname i=x
def zd(X:FX)(k:Nat)(m:EM)(e:an):Prop:= ∀i y py spos,kv X i y->lP X k (cV [i] m) (.Assign [.Name y py] e spos)
section
variable{X:FX}{k:Nat}{st:SI}{C:PC}
structure Gd(X:FX)(k:Nat)(st:SI)(c:Ck)(d:D):Prop where
 e: ∀x,c.e st x=true->b8 X k d.e x
 u: ∀x,c.e st x=true->zd X k d.e x
 b: ∀x,c.b st x=true->np X k d.b x
 l: ∀x,c.l st x=true->Ak X k d.l x
 o: ∀op x,c.o st op x=true->lh X k op d.e x
 a: ∀op x,c.a st op x=true->pT X k op d.b x
 p: ∀x,c.p st x=true->FU X k d.e x
 i: ∀x,c.i st x=true->NM X k d.b x
theorem Gd.both{e b:SI->an->Bool}{m:EM}{n:BM}(he: ∀x,e st x=true->b8 X k m x)(hu: ∀x,e st x=true->zd X k m x)(hb: ∀x,b st x=true->np X k n x):Gd X k st (.both e b) ⟨m,n,fun _ _=>none⟩:=
 ⟨he,hu,hb,fun _ h=>ff h,fun op xs h=>pv h fun x h=>lh.one (he x h),fun op xs h=>pv h fun x h=>pT.one (hb x h),fun x h=>aiZ h fun y h=>FU.some (he y h),fun xs h=>pv h fun x h=>My (hb x h)⟩
theorem YH{e:an}(h:QG e=true): ∀env w,isTrue e env w=(do let v <- w;standAt e.pos;holding [v] (truthy v)):=by
 cases e<;>first|exact ff h|exact fun _ _=>rfl
theorem Gd.ofE{e:SI->an->Bool}{m:EM}(he: ∀x,e st x=true->b8 X k m x)(hu: ∀x,e st x=true->zd X k m x):Gd X k st (.ofE e) (.ofE m):=
 .both he hu fun x h=>aE h fun h1 h=>afq (he x h) (YH h1)
theorem U9(H:g9 X st){m:EM}{e:an}(hm:b8 X k m e)(hc:jS e=true):zd X k m e:=fun i y py spos hx=>YZ H.ok H.sto hx hm (tE hc)
theorem Gd.ofE'(H:g9 X st){e:SI->an->Bool}{m:EM}(he: ∀x,e st x=true->b8 X k m x/\jS x=true):Gd X k st (.ofE e) (.ofE m):=
 .ofE (fun x h=>(he x h).1) fun x h=>U9 H (he x h).1 (he x h).2
theorem Gd.both'(H:g9 X st){e b:SI->an->Bool}{m:EM}{n:BM}(he: ∀x,e st x=true->b8 X k m x/\jS x=true)(hb: ∀x,b st x=true->np X k n x):Gd X k st (.both e b) ⟨m,n,fun _ _=>none⟩:=
 .both (fun x h=>(he x h).1) (fun x h=>U9 H (he x h).1 (he x h).2) hb
@[elab_as_elim] theorem abV {Q:List an->Prop} {f:an->Bool} {g:List an->Bool} {es:List an} (h:qo f g es=true) (kk: ∀x y r,f x=true->g (y::r)=true->Q (x::y::r)):Q es:=
 Vv h fun x r h=>aE h fun h1 h=>Vv (Q:=fun r=>Q (x::r)) h fun y r h=>kk x y r h1 h
@[elab_as_elim] theorem YB {Q:an->Prop} {op:cF} {g:List an->Bool} {x:an} (h:tn op g x=true) (kk: ∀es p,g es=true->Q (.BoolOp op es p)):Q x:=
 ann h fun o es p h=>aE h fun h1 h=>dE (Q:=fun o=>Q (.BoolOp o es p)) h1 (kk es p h)
theorem acK{P:Prop}{op op':cF}{f:an->Bool}{g:List an->Bool}{xs:List an}(h:aaV op op' f g xs=true)(k1: ∀x,xs=[x]->f x=true->P)(k2:op=op'->g xs=true->P):P:=
 rE h (fun h=>pv (Q:=fun xs'=>xs=xs'->P) h (fun x h e=>k1 x e h) rfl) fun h=>aE h fun h1 h=>k2 (ag h1) h
theorem Gd.bool(H:g9 X st){op:cF}{a b:Ck}{da db:D}{m:EM}{n:BM}(ga:Gd X k st a da)(gb:Gd X k st b db)(hm: ∀e e' es,b8 X k da.e e->lh X k op db.e (e'::es)->lh X k op m (e::e'::es))
  (hn: ∀e es,np X k da.b e->pT X k op db.b es->pT X k op n (e::es)):Gd X k st (.bool op a b) ⟨m,n,fun _ _=>none⟩:=
 have c1: ∀es,qo (a.e st) (b.o st op) es=true->lh X k op m es:=fun es h=>abV h fun x y r h1 h2=>hm x y r (ga.e x h1) (gb.o op _ h2)
 have c2: ∀es,qo (a.b st) (b.a st op) es=true->pT X k op n es:=fun es h=>abV h fun x y r h1 h2=>hn x _ (ga.b x h1) (gb.a op _ h2)
 have he: ∀x,tn op (qo (a.e st) (b.o st op)) x=true->b8 X k m x/\jS x=true:=fun x h=>YB h fun es p h=>⟨(c1 es h).val,rfl⟩
 have hb: ∀x,tn op (qo (a.b st) (b.a st op)) x=true->np X k n x:=fun x h=>YB h fun es p h=>(c2 es h).test
 ⟨fun x h=>(he x h).1,fun x h=>U9 H (he x h).1 (he x h).2,hb,fun _ h=>ff h,fun op' xs h=>acK h (fun x e h=>e▸lh.one (he x h).1) fun e h=>e▸c1 xs h,fun op' xs h=>acK h (fun x e h=>e▸pT.one (hb x h)) fun e h=>e▸c2 xs h,
  fun x h=>aiZ h fun y h=>FU.some (he y h).1,fun xs h=>pv h fun x h=>My (hb x h)⟩
theorem amd:Gd X k st agm ⟨fun _ _=>none,fun _ _=>none,aG⟩:=
 ⟨fun _ _ A R W fr σ s T a aj e=>nn e,fun _ _ i y py spos hx A R W fr σ s T a e=>nn e,fun _ _ A R W fr σ s T a aj e=>nn e,fun xs h=>Jq h fun _=>QY,fun _ _ _ A R W fr σ s T a aj e=>nn e,fun _ _ _ A R W fr σ s T a aj e=>nn e,fun _ _ A R W fr σ s T a aj e=>nn e,fun _ _ A R W fr σ s T a aj e=>nn e⟩
theorem aaO{α:Type}{x:Str}{l:List (Str×α)}: ∀{i:Nat},Ax (l.map (·.1)) i=some x-> ∃a,pX l i=some (x,a):=by
 induction l with
 |nil=>intro i h;exact nn h
 |cons p r ih=>
  intro i h
  cases i with
  |zero=>exact s1 (P:=fun x=> ∃a,pX (p::r) 0=some (x,a)) (a:=p.1) h ⟨p.2,rfl⟩
  |succ i=>exact ih h
theorem Qy{α:Type}{l:List (Str×α)}{i:Nat}{x:Str}{P:Prop}(h:N3 (l.map (·.1)) i x=true)(kk: ∀a,pX l i=some (x,a)->P):P:=(aaO (HK h)).elim kk
theorem acp(H:g9 X st){x:Str}{P:Prop}(h:aai st x=true)(kk:X.env.kindOf x=some .globalImplicit->(x==("__debug__":Str))=false->P):P:=
 aE h fun h1 h2=>kk ((H.kind x).trans ((K7 _ _).symm.trans (beq_iff_eq.mp h1))) (pq h2)
theorem pu{e:an}(h:EO e=true){env:Env}: ∀x,foldedSetIterable e env x=pure x:=by
 cases e<;>first|exact ff h|exact fun _=>rfl
theorem ZX{a:AV}{x:an}(h:CE a x=true):b8 X k (ba a) x/\jS x=true:=Rk h fun c j p h=>by
 refine⟨?_,rfl⟩
 cases a<;>first|exact ff h|skip
 ·exact dE h afn
 ·exact dE h afe
 ·exact dE h akS
 ·exact dE h (akY rfl)
 ·exact dE h abc
@[elab_as_elim] theorem acv {i:Int} {Q:Option an->Prop} {o:Option an} (h:aav i o=true) (kk: ∀j p,Q (some (.Constant (.int i) j p))):Q o:=aiZ h fun e h=>Rk (Q:=fun e=>Q (some e)) h fun c j p h=>dE (Q:=fun c=>Q (some (.Constant c j p))) h (kk j p)
@[elab_as_elim] theorem strE {i:ac} {Q:an->Prop} {o:an} (h:CE (.str i) o=true) (kk: ∀j p,Q (.Constant (.str (aO i)) j p)):Q o:=Rk h fun c j p h=>dE (Q:=fun c=>Q (.Constant c j p)) h (kk j p)
theorem Z5{k1 k2:Int}{a b:ac}{x:an}(h:agF k1 k2 a b x=true):b8 X k (bq (HD [k1,k2]) (aw (ba (.str a)) (aw (ba (.str b)) aG))) x/\jS x=true:=
 ac6 h fun d e p h=>w8 h fun y y' h=>w8 h fun v v' h=>aE h fun h1 h=>aE h fun h2 h=>aE h fun h3 h=>aE h fun h4 h=>acv h1 fun _ _=>acv h2 fun _ _=>strE h3 fun _ _=>strE h4 fun _ _=>
  ⟨afj (of_decide_eq_false (pq h)) rfl rfl,rfl⟩
end
end
end
section
open PySem.SeqAt
noncomputable section
section
variable{k:Nat}{X:FX}{st:SI}
theorem afw(H:g9 X st){scope:d4}{xs:ac}{tg:an}{f:List Str->Bool}{P:Prop}(h:Y8 tg f=true)
  (kk: ∀ts,f ts=true->(oV st scope xs ts-> ∀s L,Tg (X.inner scope (Pv X scope) (st.inner scope xs ts).at_ L s) xs tg)->P):P:=
 rE h (fun h=>pK (Q:=fun t=>t=tg->P) h (fun n p h e=>kk _ h fun K s L=>e▸match xs,K with
  |[i],K=>.name (xZ H K (by rw[bQ,gu]))
  |[],K=>dU K.len
  |_::_::_,K=>dU K.len fun h=>dU h) rfl) fun h=>abC (Q:=fun t=>t=tg->P) h (fun l c p h=>w8 (Q:=fun l=>.Tuple l c p=tg->P) h fun a b h=>pK (Q:=fun a=>.Tuple [a,b] c p=tg->P) h fun n p1 h=>pK (Q:=fun b=>.Tuple [.Name n p1,b] c p=tg->P) h fun m p2 h e=>
   kk _ h fun K s L=>e▸match xs,K with
  |[i,j],K=>
   have hij:i≠j:=fun e=>(dT.mp K.xnodup).1 (e▸aP.mpr rfl)
   .two rfl (.cons (xZ H K (by rw[bQ,gu])) (.cons (xZ H K (by rw[bQ,cE,beq_eq_false_iff_ne.mpr (tA hij),bQ,gu])) .nil)) hij
  |[],K=>dU K.len
  |[_],K=>dU K.len fun h=>dU h
  |_::_::_::_,K=>dU K.len fun h=>dU h fun h=>dU h) rfl
section
variable{a b c l lo hi o i:Ck}{da db dc dl dlo dhi do_ di:D}{FN:List Str}{Γ:cG}
theorem ame:Gd X k st agn ⟨ba .none,fun _ σ=>some (true,σ),aG⟩:=
 ⟨fun _ h=>ff h,fun _ h=>ff h,fun _ h=>ff h,fun _ h=>ff h,fun _ _ h=>ff h,fun _ _ h=>ff h,fun x h=>(dG.mp h).symm ▸FU.none,fun xs h=>(dM.mp h).symm ▸Mx⟩
theorem amj(H:g9 X st){i:Nat}:Gd X k st (agu i) (.ofE (al i)):=Gd.ofE' H fun x h=>pK h fun y p h=>⟨uX H.ok (by rw[H.nm];exact HK h),rfl⟩
theorem ak5{l:List (Str×AV)}{i:Nat}{x:Str}{a:AV}(h:pX l i=some (x,a)):a=acW l i:=by unfold acW;rw[h]
theorem ak6{l:List (Str×aW)}{i:Nat}{x:Str}{a:aW}(h:pX l i=some (x,a)):a=acX l i:=by unfold acX;rw[h]
theorem ak7{l:List (Str×gW)}{i:Nat}{x:Str}{a:gW}(h:pX l i=some (x,a)):a=acY l i:=by unfold acY;rw[h]
theorem al8(fc:KO X.C k Γ)(H:g9 X st){g:Nat}:Gd X k st (agh Γ.nms g) (.ofE (ba (acW Γ.glb g))):=Gd.ofE' H fun x h=>pK h fun y p h=>aE h fun h h'=>acp H h fun h1 h2=>Qy h' fun a ha=>
 ⟨ak5 ha▸Y0 H.ok h1 h2 (fc.glb _ _ _ ha),rfl⟩
theorem al5(H:g9 X st){op:iH}(ga:Gd X k st a da)(gb:Gd X k st b db):Gd X k st (age op a b) (.ofE (bi (b4 op) da.e db.e)):=Gd.ofE' H fun x h=>ap7 h fun l o r p h=>aE h fun h0 h=>aE h fun h1 h2=>dE h0 ⟨akM (ga.e _ h1) (gb.e _ h2) ZL,rfl⟩
theorem amc(H:g9 X st)(ga:Gd X k st a da):Gd X k st (agl a) (.ofE (un aiK da.e)):=Gd.ofE' H fun x h=>alC h fun o r p h=>aE h fun h0 h=>dE h0 ⟨akT (ga.e _ h),rfl⟩
theorem amf(H:g9 X st)(ga:Gd X k st a da):Gd X k st (ago a) ⟨rY (pe (ji da.e)),pe da.b,fun _ _=>none⟩:=Gd.both' H (fun x h=>alC h fun o r p h=>aE h fun h0 h=>dE h0 ⟨akU (ga.e _ h),rfl⟩) fun x h=>alC h fun o r p h=>aE h fun h0 h=>dE h0 (afo (ga.b _ h))
theorem ama(H:g9 X st)(gc:Gd X k st c dc)(ga:Gd X k st a da)(gb:Gd X k st b db):Gd X k st (agj c a b) (.ofE (tl dc.b da.e db.e)):=Gd.ofE' H fun x h=>arm h fun t l r p h=>aE h fun h0 h=>aE h fun h1 h2=>⟨akR (gc.b _ h0) (ga.e _ h1) (gb.e _ h2),rfl⟩
@[elab_as_elim] theorem ab7 {Q:an->Prop} {op:g8} {f g:an->Bool} {x:an} (h:ZU op f g x=true) (kk: ∀l r p,behindInMarks op r=false->f l=true->g r=true->Q (.Compare l [op] [r] p)):Q x:=
 aly h fun l os rs p h=>pv h fun o h=>pv h fun r h=>aE h fun h0 h=>aE h fun h1 h=>aE h fun h2 h3=>dE (Q:=fun o=>Q (.Compare l [o] [r] p)) h0 (kk l r p (pq h1) h2 h3)
theorem al6(hk:5<=k)(H:g9 X st){op:g8}(ga:Gd X k st a da)(gb:Gd X k st b db):Gd X k st (agf op a b) (.ofBool (eJ (bO op) da.e db.e)):=
 Gd.both' H (fun x h=>ab7 h fun l r p h1 h2 h3=>⟨akN hk (ga.e _ h2) (gb.e _ h3) h1,rfl⟩) fun x h=>ab7 h fun l r p h1 h2 h3=>afh hk (ga.e _ h2) (gb.e _ h3) h1
@[elab_as_elim] theorem Xx {Q:an->Prop} {op op':g8} {f g f':an->Bool} {x:an} (h:Vh op op' f g f' x=true) (kk: ∀l r r' p,lastMarks [op,op'] [r,r']=false->f l=true->g r=true->f' r'=true->Q (.Compare l [op,op'] [r,r'] p)):Q x:=
 aly h fun l os rs p h=>w8 h fun o o' h=>w8 h fun r r' h=>aE h fun h0 h=>aE h fun h0' h=>aE h fun h1 h=>aE h fun h2 h=>aE h fun h3 h4=>dE (Q:=fun o=>Q (.Compare l [o,o'] [r,r'] p)) h0 (dE (Q:=fun o'=>Q (.Compare l [op,o'] [r,r'] p)) h0' (kk l r r' p (pq h1) h2 h3 h4))
theorem ahP(hk:5<=k)(H:g9 X st){op op':g8}(ga:Gd X k st a da)(gb:Gd X k st b db)(gc:Gd X k st c dc):Gd X k st (abY op op' a b c) (.ofBool (Pr op op' da.e db.e dc.e)):=
 Gd.both' H (fun x h=>Xx h fun l r r' p h1 h2 h3 h4=>⟨afg hk (ga.e _ h2) (gb.e _ h3) (gc.e _ h4) h1,rfl⟩) fun x h=>Xx h fun l r r' p h1 h2 h3 h4=>abd hk (ga.e _ h2) (gb.e _ h3) (gc.e _ h4) h1
theorem al4(hF:SG X.C FN)(H:g9 X st){kk:Nat}(ga:Gd X k st a da):Gd X k st (agd FN kk a) (.ofE (un (aA kk) da.e)):=Gd.ofE' H fun x h=>Ob h fun o n p h=>aE h fun h0 h=>aE h fun h1 h2=>(hF _ _ (HK h0)).2▸⟨akL (hF _ _ (HK h0)).1 h1 (ga.e _ h2),rfl⟩
theorem al9(H:g9 X st)(ga:Gd X k st a da)(gi:Gd X k st i di):Gd X k st (agi a i) (.ofE (bi eH da.e di.e)):=Gd.ofE' H fun x h=>abB h fun o j p h=>aE h fun h0 h=>aE h fun h1 h2=>⟨akQ (pq h0) (ga.e _ h1) (gi.e _ h2),rfl⟩
theorem amh(H:g9 X st)(ga:Gd X k st a da)(gl:Gd X k st lo dlo)(gh:Gd X k st hi dhi):Gd X k st (ags a lo hi) (.ofE (Ti da.e dlo.e dhi.e)):=Gd.ofE' H fun x h=>abB h fun o j p h=>alA h fun l u s p' h=>aE h fun h0 h=>aE h fun h1 h=>aE h fun h2 h3=>dE h0 ⟨akX (ga.e _ h1) (gl.p _ h2) (gh.p _ h3),rfl⟩
theorem amb(H:g9 X st)(gl:Gd X k st l dl):Gd X k st (agk l) (.ofE (bq df dl.l)):=Gd.ofE' H fun x h=>ac7 h fun es p h=>⟨afl (gl.l _ h),rfl⟩
theorem ami(H:g9 X st)(gl:Gd X k st l dl):Gd X k st (agt l) (.ofE (bq gp dl.l)):=Gd.ofE' H fun x h=>abC h fun es j p h=>⟨akZ (gl.l _ h),rfl⟩
theorem al7(H:g9 X st):Gd X k st agg (.ofE F2):=Gd.ofE' H fun x h=>ac6 h fun d e p h=>Jq h fun h=>Jq h fun _=>⟨akO,rfl⟩
theorem amg(H:g9 X st){n:Nat}(ga:Gd X k st a da):Gd X k st (agp n a) (.ofE (un (ajR n) da.e)):=Gd.ofE' H fun x h=>Wn h fun f es ks p h=>Ob h fun o m ap h=>w8 h fun v v' h=>aE h fun h0 h=>aE h fun h1 h=>aE h fun h2 h=>Jq h fun h=>aE h fun h3 h=>aE h fun h4 h=>
 strE h3 fun _ _=>strE h4 fun _ _=>dE h0 ⟨akV h1 (beq_iff_eq.mpr (ag h2)) (ga.e _ h),rfl⟩
theorem ahO(fc:KO X.C k Γ)(H:g9 X st){f:Nat}(gl:Gd X k st l dl):Gd X k st (abX Γ.nms f l) (.ofE (bq (acX Γ.fns f) dl.l)):=Gd.ofE' H fun x h=>Wn h fun g es ks p h=>pK h fun y p' h=>aE h fun h0 h=>aE h fun h1 h=>Jq h fun h=>aE h fun h2 h=>
 acp H h0 fun g1 g2=>Qy h1 fun F hFn=>XE (fc.fns _ _ _ hFn) fun fv kF e1 e2 e3 e4=>ak6 hFn▸⟨aff H.ok g1 g2 e1 e2 e3 e4 h2 (gl.l _ h),rfl⟩
theorem ahS(fc:KO X.C k Γ)(H:g9 X st){n:Nat}(go:Gd X k st o do_)(gl:Gd X k st l dl):Gd X k st (ab0 Γ.nms n o l) (.ofE (cK (acY Γ.mts n) do_.e dl.l)):=Gd.ofE' H fun x h=>Wn h fun g es ks p h=>Ob h fun q y ap h=>aE h fun h0 h=>aE h fun h1 h=>aE h fun h2 h=>aE h fun h3 h=>Jq h fun h=>aE h fun h4 h=>aE h fun h5 h=>
 Qy h0 fun D hD=>fg (fc.mts _ _ _ hD) fun kF e1 e2=>ak7 hD▸⟨afm h1 (beq_iff_eq.mpr (ag h2)) (cC.mp h3) (go.e _ h5) e1 e2 h4 (gl.l _ h),rfl⟩
theorem ahR(ga:Gd X k st a da)(gl:Gd X k st l dl):Gd X k st (abZ a l) ⟨fun _ _=>none,fun _ _=>none,aw da.e dl.l⟩:=
 ⟨fun _ h=>ff h,fun _ h=>ff h,fun _ h=>ff h,fun xs h=>Vv h fun x r h=>aE h fun h0 h=>aE h fun h1 h2=>Ls (pq h0) (ga.e _ h1) (gl.l _ h2),fun _ _ h=>ff h,fun _ _ h=>ff h,fun _ h=>ff h,fun _ h=>ff h⟩
theorem apr{P:Prop}{m:Sem Bool}{b:Bool}(h:m=pure b)(kf:m=pure false->P)(kt:m=pure true->P):P:=by
 cases b with
 |false=>exact kf h
 |true=>exact kt h
theorem Py(H:g9 X st){scope:d4}{xs:ac}{ts:List Str}(K:oV st scope xs ts){it:EM}{body:List AV->Fm->AS->Option (List AV×AS)}{ee tg ie:an}{ifs:List an}{rest:List dS}{pos:Pos}
  (hi:b8 X k it ie)(hs:EO ie=true)(hloop: ∀s L,g9 (X.inner scope (Pv X scope) (st.inner scope xs ts).at_ L s) (st.inner scope xs ts)->xJ (X.inner scope (Pv X scope) (st.inner scope xs ts).at_ L s) k (.ListComp ee (⟨tg,ie,ifs,0⟩::rest) scope pos) 0 xs body):
  b8 X k (tj it body) (.ListComp ee (⟨tg,ie,ifs,0⟩::rest) scope pos)/\zd X k (tj it body) (.ListComp ee (⟨tg,ie,ifs,0⟩::rest) scope pos):=
 have hl:=fun s L hL=>hloop s L (aee H K hL)
 have hE:=abe (PA H K) hi (pu hs) hl
 ⟨hE,fun i y py spos hx=>apr (m:=swapsWith (.ListComp ee (⟨tg,ie,ifs,0⟩::rest) scope pos) (some (.Name y py)) spos.line X.env) rfl (fun h=>YZ H.ok H.sto hx hE h) fun h=>afa H.ok H.sto (PA H K) hi (pu hs) hl hx h⟩
theorem Jf(X:FX){scope:d4}{cl:List (Str×aC)}{nm:Nat->Option Str}{L:aC}{s:az}:(X.inner scope cl nm L s).C=X.C:=rfl
theorem ahQ(H:g9 X st){xs:ac}(gi:Gd X k st i di)(gc: ∀X' st',X'.C=X.C->g9 X' st'->Gd X' k st' c dc)(ge: ∀X' st',X'.C=X.C->g9 X' st'->Gd X' k st' a da):Gd X k st (Vg xs i c a) (.ofE (eX xs di.e dc.b da.e)):=
 have key: ∀x,(Vg xs i c a).e st x=true->b8 X k (tj di.e (eO xs dc.b da.e)) x/\zd X k (tj di.e (eO xs dc.b da.e)) x:=fun x h=>ac4 h fun ee gs sc p h=>pv h fun g h=>aag h fun tg ie fs h=>afw H h fun ts h hT=>aE h fun h1 h=>aE h fun h2 h=>aE h fun h3 h=>aE h fun h4 h5=>
  Py H (Vi h3) (gi.e _ h1) h2 fun s L HI=>TI HI.ok HI.sto afz (hT (Vi h3) s L) ((gc _ _ (Jf X) HI).i _ h4) ((ge _ _ (Jf X) HI).e _ h5)
 Gd.ofE (fun x h=>(key x h).1) fun x h=>(key x h).2
theorem ad6(H:g9 X st){x' y':Nat}(gi:Gd X k st i di)(g2: ∀X' st',X'.C=X.C->g9 X' st'->Gd X' k st' c dc)(ge: ∀X' st',X'.C=X.C->g9 X' st'->Gd X' k st' a da):Gd X k st (Pu x' i y' c a) (.ofE (qP x' di.e y' dc.e da.e)):=
 have key: ∀x,(Pu x' i y' c a).e st x=true->b8 X k (tj di.e (fun l fr σ=>jA x' dc.e y' da.e l (put fr y' .unb) σ)) x/\zd X k (tj di.e (fun l fr σ=>jA x' dc.e y' da.e l (put fr y' .unb) σ)) x:=fun x h=>ac4 h fun ee gs sc p h=>w8 h fun g g' h=>aag h fun tg ie fs h=>aag h fun tg' ie' fs' h=>pK h fun nx px h=>pK h fun ny py h=>Jq h fun h=>Jq h fun h=>
  aE h fun h1 h=>aE h fun h2 h=>aE h fun h2' h=>aE h fun h3 h=>aE h fun h4 h5=>
  have K:=Vi h3
  have hxy:x'≠y':=fun e=>(dT.mp K.xnodup).1 (e▸aP.mpr rfl)
  have q:(y'==x')=false:=beq_eq_false_iff_ne.mpr (tA hxy)
  Py H K (gi.e _ h1) h2 fun s L HI=>aet HI.ok HI.sto (xZ H K (by rw[bQ,gu])) (xZ H K (by rw[bQ,cE,q,bQ,gu])) hxy ((g2 _ _ (Jf X) HI).e _ h4) (pu h2') ((ge _ _ (Jf X) HI).e _ h5)
 Gd.ofE (fun x h=>(key x h).1) fun x h=>(key x h).2
end
theorem aaM{a:AV}{x:an}(h:nlA a x=true):b8 X k (ba a) x/\jS x=true:=by
 unfold nlA at h
 cases a with
 |lst l=>
  refine aE h fun h1 h2=>ac7 h2 fun es p h2=> ?_
  rw[dM.mp h1,dM.mp h2]
  exact⟨anh,rfl⟩
 |_=>exact ff h
theorem adv(hk:5<=k){FN:List Str}{Γ:cG}(t:T): ∀(X:FX) (st:SI),SG X.C FN->KO X.C k Γ->g9 X st->Gd X k st (ck FN Γ.nms t) (gX Γ t):=by
 induction t with
 |nop=>exact fun X st hF fc H=>ame
 |cst a=>exact fun X st hF fc H=>Gd.ofE' H fun x h=>rE h ZX aaM
 |var i=>exact fun X st hF fc H=>amj H
 |glb g=>exact fun X st hF fc H=>al8 fc H
 |bin op a b ga gb=>exact fun X st hF fc H=>al5 H (ga X st hF fc H) (gb X st hF fc H)
 |neg a ga=>exact fun X st hF fc H=>amc H (ga X st hF fc H)
 |not a ga=>exact fun X st hF fc H=>amf H (ga X st hF fc H)
 |and a b ga gb=>exact fun X st hF fc H=>Gd.bool H (ga X st hF fc H) (gb X st hF fc H) (fun _ _ _ h1 h2=>lh.and h1 h2) fun _ _ h1 h2=>pT.and h1 h2
 |or a b ga gb=>exact fun X st hF fc H=>Gd.bool H (ga X st hF fc H) (gb X st hF fc H) (fun _ _ _ h1 h2=>lh.or h1 h2) fun _ _ h1 h2=>pT.or h1 h2
 |ife c a b gc ga gb=>exact fun X st hF fc H=>ama H (gc X st hF fc H) (ga X st hF fc H) (gb X st hF fc H)
 |cmp op a b ga gb=>exact fun X st hF fc H=>al6 hk H (ga X st hF fc H) (gb X st hF fc H)
 |cmp2 op op' a b c ga gb gc=>exact fun X st hF fc H=>ahP hk H (ga X st hF fc H) (gb X st hF fc H) (gc X st hF fc H)
 |atr kk a ga=>exact fun X st hF fc H=>al4 hF H (ga X st hF fc H)
 |idx a i ga gi=>exact fun X st hF fc H=>al9 H (ga X st hF fc H) (gi X st hF fc H)
 |slc a lo hi ga gl gh=>exact fun X st hF fc H=>amh H (ga X st hF fc H) (gl X st hF fc H) (gh X st hF fc H)
 |lst l gl=>exact fun X st hF fc H=>amb H (gl X st hF fc H)
 |tup l gl=>exact fun X st hF fc H=>ami H (gl X st hF fc H)
 |dic=>exact fun X st hF fc H=>al7 H
 |dicI k1 k2 a b=>exact fun X st hF fc H=>Gd.ofE' H fun x h=>Z5 h
 |rep c a ga=>exact fun X st hF fc H=>amg H (ga X st hF fc H)
 |call f l gl=>exact fun X st hF fc H=>ahO fc H (gl X st hF fc H)
 |meth n o l go gl=>exact fun X st hF fc H=>ahS fc H (go X st hF fc H) (gl X st hF fc H)
 |nil=>exact fun X st hF fc H=>amd
 |cons a l ga gl=>exact fun X st hF fc H=>ahR (ga X st hF fc H) (gl X st hF fc H)
 |comp xs it c elt gi gc ge=>exact fun X st hF fc H=>ahQ H (gi X st hF fc H) (fun X' st' e HI=>gc X' st' (e▸hF) (e▸fc) HI) (fun X' st' e HI=>ge X' st' (e▸hF) (e▸fc) HI)
 |comp2 x it y it2 elt gi g2 ge=>exact fun X st hF fc H=>ad6 H (gi X st hF fc H) (fun X' st' e HI=>g2 X' st' (e▸hF) (e▸fc) HI) (fun X' st' e HI=>ge X' st' (e▸hF) (e▸fc) HI)
end
end
end
section
open PySem.SeqAt
noncomputable section
section
variable{k:Nat}{X:FX}{st:SI}
theorem ou(H:g9 X st){i:Nat}{x:Str}(h:pn st i x=true):kv X i x:=aE h fun h1 h=>
 ⟨by rw[H.nm];exact HK h1,rE h (fun h=>.inl ((H.kind x).trans ((K7 _ _).symm.trans (ag h)))) fun h=>aE h fun h2 h3=>
  have h3:=(K7 _ _).symm.trans (ag h3)
  anF (H.cells x (.inl (dP h3))) fun c hc=>.inr ⟨(H.kind x).trans h3,c,hc,H.own h2 _ _ hc⟩⟩
theorem TO(H:g9 X st){is:ac}: ∀{ts:List an},C9 st is ts=true->qi X is ts:=by
 induction is with
 |nil=>exact fun h=>Jq h fun _=>.nil
 |cons i is ih=>exact fun h=>Vv h fun t r h=>aE h fun h1 h2=>pK h1 fun n p h1=>.cons (ou H h1) (ih h2)
@[elab_as_elim] theorem an4 {α:Type} {l:List α} {Q:List α->Prop} (h:bc 1 l.length=true) (kk: ∀i j r,Q (i::j::r)):Q l:=by
 cases l with
 |nil=>exact ff h
 |cons i l=>cases l with
  |nil=>exact ff h
  |cons j r=>exact kk i j r
theorem alX{e:Env}{n:List (Str×cT)}(h1:e.scope.names=n)(h2:e.scope.kind= .function){st:SI}(h3:n=st.names){ts:List an}{v:an}:swappedStores ts v e=swappedStores ts v (agR st):=by
 cases e with
 |mk sc=>cases sc with
  |mk kd nm=>subst h2;subst h1;subst h3;rfl
structure xt(X:FX)(k:Nat)(st:SI)(c:s6)(m:SM):Prop where
 s: ∀x,c.s st x=true->lP X k m x
 ss: ∀x,c.ss st x=true->mW X k m x
 g:c.g st=true-> ∀W fr σ s,St X W fr σ s-> ∀r,m fr σ=some r-> ∃W' fr' aj,r= .next fr' aj/\W.le W'/\St X W' fr' aj s
theorem xt.one{c:SI->bW->Bool}{m:SM}(h: ∀x,c st x=true->lP X k m x):xt X k st (.one c) m:=⟨h,fun _ h=>ff h,fun h=>ff h⟩
theorem YE(H:g9 X st){is:ac}{names:List Str}{ts:List an}{c:Nat}{m:EM}{e:an}{p p':Pos}(h:(ai1 st is names||ai2 st is names)=true)(hm:b8 X k m e)(hc:jS e=true):swappedStores [.Tuple ts c p'] e X.env=pure (some names)->
  lP X k (cV is m) (.Assign [.Tuple ts c p'] e p):=
 rE h (fun h=>w8 h fun i j h=>w8 h fun x y h=>aE h fun h1 h=>aE h fun h2 h3 hw=>afd H.ok H.sto (ou H h1) (ou H h2) (of_decide_eq_false (pq h3)) hm hc hw)
  fun h=>Za h fun i j l h=>Za h fun x y z h=>aE h fun h1 h=>aE h fun h2 h=>aE h fun h3 h=>aE h fun h4 h=>aE h fun h5 h6 hw=>abb H.ok H.sto (ou H h1) (ou H h2) (ou H h3) (of_decide_eq_false (pq h4)) (of_decide_eq_false (pq h5)) (of_decide_eq_false (pq h6)) hm hc hw
theorem Xh(H:g9 X st){is:ac}{ts:List an}{c:Nat}{m:EM}{e:an}{p p':Pos}(h:abT st is (.Tuple ts c p') ts e=true)(hm:b8 X k m e)(hc:jS e=true):lP X k (cV is m) (.Assign [.Tuple ts c p'] e p):=
 afX (Q:=fun m'=>swappedStores [.Tuple ts c p'] e X.env=m'->lP X k (cV is m) (.Assign [.Tuple ts c p'] e p)) h (fun o h hw=>match o,h,hw with
  |none,h,hw=>aE h fun h1 h2=>an4 (Q:=fun is=>C9 st is ts=true->lP X k (cV is m) (.Assign [.Tuple ts c p'] e p)) h1 (fun i j r h2=>afc H.ok H.sto (TO H h2) hm hc hw) h2
  |some names,h,hw=>YE H h hm hc hw) (alX H.names H.ok.kind rfl)
theorem aeh{e:T}{Q:T->Prop}(h:Qj e=true)(kk:Q (.cst .none)):Q e:=pM h fun hc h=>T.cst.elim (motive:=fun x=> ∀hc:x.ctorIdx=1,T.cst.elim (motive:=fun _=>Bool) x hc (fun a=>(tf a (some ())).isSome)=true->Q x) e hc (fun a _ h=>by
 cases a<;>first|exact ff h|exact kk) hc h
variable{e c i o it:Ck}{d dc di do_:D}{a b:s6}{m n:SM}{FN:List Str}{Γ:cG}
theorem aia(H:g9 X st)(ge:Gd X k st e d):xt X k st (Xw e) (lj d.e):=.one fun x h=>ajZ h fun v p h=>aE h fun h1 h2=>afk H.sto (ge.e _ h2) h1
theorem amn(H:g9 X st){j:Nat}(ge:Gd X k st e d):xt X k st (ab1 j e) (cV [j] d.e):=.one fun x h=>ET h fun ts v p h=>pv h fun t h=>pK h fun y p' h=>aE h fun h1 h2=>ge.u _ h2 _ _ _ _ (ou H h1)
theorem ah8(H:g9 X st){is:ac}(ge:Gd X k st e d):xt X k st (Xu is e) (cV is d.e):=.one fun x h=>ET h fun ts v p h=>pv h fun t h=>ano h fun q c p' h=>aE h fun h1 h=>aE h fun h2 h3=>Xh H h3 (ge.e _ h2) h1
theorem ah6(hF:SG X.C FN){kk:Nat}(go:Gd X k st o do_)(ge:Gd X k st e d):xt X k st (Xr FN kk o e) (l4 kk do_.e d.e):=.one fun x h=>ET h fun ts v p h=>pv h fun t h=>Ob h fun q n p' h=>aE h fun h0 h=>aE h fun h1 h2=>(hF _ _ (HK h0)).2▸ae9 (hF _ _ (HK h0)).1 (ge.e _ h2) (go.e _ h1)
theorem ah7(go:Gd X k st o do_)(gi:Gd X k st i di)(ge:Gd X k st e d):xt X k st (Xs o i e) (QO do_.e di.e d.e):=.one fun x h=>ET h fun ts v p h=>pv h fun t h=>abB h fun q j p' h=>aE h fun h0 h=>aE h fun h1 h2=>afb (ge.e _ h2) (go.e _ h0) (gi.e _ h1)
theorem aoJ(gc:Gd X k st c dc)(ga:xt X k st a m)(gb:xt X k st b n):xt X k st (agr c a b) (sh dc.b m n):=.one fun x h=>apT h fun t l r p h=>aE h fun h0 h=>aE h fun h1 h2=>ang (gc.b _ h0) (ga.ss _ h1) (gb.ss _ h2)
theorem amr(gc:Gd X k st c dc)(gb:xt X k st b n){j:Nat}:xt X k st (ab5 c b) (Dz dc.b n j):=.one fun x h=>aj1 h fun t l r p h=>Jq h fun h=>aE h fun h0 h1=>abf (gc.b _ h0) (gb.ss _ h1)
theorem al1(H:g9 X st){xs:ac}{t:an}(h:ahI st xs t=true):SW X xs t:=rE h (fun h=>pv h fun i h=>pK h fun y p h=>H1 H.ok H.sto (ou H h)) fun h=>abC h fun q c p h=>aE h fun h1=>an4 h1 fun i j r h2=>Lr H.ok H.sto (TO H h2)
theorem amo(H:g9 X st){xs:ac}(gi:Gd X k st it di)(gb:xt X k st b n):xt X k st (ab2 xs it b) (gG xs di.e n):=.one fun x h=>am7 h fun t j l r p h=>Jq h fun h=>aE h fun h1 h=>aE h fun h2 h=>aE h fun h3 h4=>akP (gi.e _ h3) (al1 H h1) (gb.ss _ h4) (pu h2)
theorem amq{Γ:cG}{t:T}{FN:List Str}(ge:Gd X k st (ck FN Γ.nms t) (gX Γ t)):xt X k st (ab4 (Qj t) (ck FN Γ.nms t)) (eI (gX Γ t).e):=.one fun x h=>aeS h fun o p h=>match o,h with
 |some v,h=>akW (ge.e _ h)
 |none,h=>aeh (Q:=fun t=>lP X k (eI (gX Γ t).e) (.Return none p)) h afp
theorem amp(H:g9 X st){j:Nat}:xt X k st (ab3 j) (QP j):=⟨fun _ h=>ff h,fun _ h=>ff h,fun h=>(fq.mp h).elim fun y hy=>ahN (y:=y) (by rw[H.nm];exact hy)⟩
theorem ah9(ga:xt X k st a m)(gb:xt X k st b n):xt X k st (Xv a b) (aV m n):=⟨fun _ h=>ff h,fun xs h=>rE h (fun h=>aE h fun h1 h2=>Y1 (ga.g h1) (gb.ss _ h2)) fun h=>Vv h fun x r h=>aE h fun h1 h2=>abg (ga.s _ h1) (gb.ss _ h2),fun h=>ff h⟩
theorem ZP(hk:5<=k){FN:List Str}(hF:SG X.C FN){Γ:cG}(fc:KO X.C k Γ)(H:g9 X st)(t:TS):xt X k st (ckS FN Γ.nms t) (ci Γ t):=by
 have g:=fun t=>adv hk t X st hF fc H
 induction t with
 |bad=>exact⟨fun _ _ A R W fr σ s T r e=>nn e,fun _ h=>ff h,fun h=>ff h⟩
 |expr e=>exact aia H (g e)
 |asg i e=>exact amn H (g e)
 |asgT is e=>exact ah8 H (g e)
 |asgA kk o e=>exact ah6 hF (g o) (g e)
 |asgI o i e=>exact ah7 (g o) (g i) (g e)
 |ifs c a b ga gb=>exact aoJ (g c) ga gb
 |whl c b gb=>exact amr (g c) gb
 |for_ xs it b gb=>exact amo H (g it) gb
 |ret e=>exact amq (g e)
 |cont=>exact .one fun x h=>am6 h fun p _=>afi
 |frz i=>exact amp H
 |nil=>exact⟨fun _ h=>ff h,fun xs h=>Jq h fun _=>afr,fun h=>ff h⟩
 |cons a b ga gb=>exact ah9 ga gb
end
end
end
section
open PySem.SeqAt
noncomputable section
section
variable{k:Nat}{C:PC}
noncomputable def Tb(d:Br)(f:gM->Bool):Bool:=match d with
 | .func fd=>f fd
 |_=>false
@[elab_as_elim] theorem ZZ {Q:Br->Prop} {d:Br} {f:gM->Bool} (h:Tb d f=true) (k: ∀fd,f fd=true->Q (.func fd)):Q d:=by
 cases d<;>first|exact ff h|exact k _ h
noncomputable def Xj(d:Oe)(f:List bW->Bool):Bool:=match d with
 | .stmts b=>f b
 |_=>false
@[elab_as_elim] theorem af0 {Q:Oe->Prop} {d:Oe} {f:List bW->Bool} (h:Xj d f=true) (k: ∀b,f b=true->Q (.stmts b)):Q d:=by
 cases d<;>first|exact ff h|exact k _ h
def Sd(K:dL)(n:Nat)(dfl:aa)(nm:List (Nat×Str))(fd:gM)(ps:List Str):Bool:=
 codeIn K fd.code fd.qualname&&(fd.closure.isEmpty&&(fd.globals==mainGlobals&&(fd.builtins==builtinsNs&&(fd.scope.kind== .function&&(!fd.scope.isCoroutine&&(!fd.scope.isGenerator&&
 (fd.params.posonlyargs.isEmpty&&(fd.params.kwonlyargs.isEmpty&&(fd.params.vararg.isNone&&(fd.params.kwarg.isNone&&(ps.length==n&&(cJ dfl.length n&&(agE K dfl fd.defaults&&(pp ps&&
 (ps.all (fun x=>fd.scope.names.lookup x==some .local||fd.scope.names.lookup x==some .cell)&&(((co n).zip ps).all (fun p=>nm.lookup p.1==some p.2)&&(nm.all (fun p=>zC p.2)&&(pp (nm.map (·.2))&&
 fd.scope.names.all (fun y=>y.2 != .free)))))))))))))))))))
def fnB(K:dL)(FN:List Str)(f:aC)(n:Nat)(dfl:aa)(nm:List (Nat×Str))(N:WM)(t:TS):Bool:=Dd (K.lookup f) fun o=>Tb o.data fun fd=>Xj fd.body fun body=>Sd K n dfl nm fd (fd.params.args.map (·.arg))&&(ckS FN N t).ss ⟨fd.scope.names,nm,true⟩ body
theorem abG{ps:List Str}{i:Nat}{x:Str}(h:ps[i]? =some x):(i,x)∈(co ps.length).zip ps:=by
 rw[List.mem_iff_getElem?]
 refine⟨i,?_⟩
 have hi:=(cW.mp h).1
 rw[sY]
 exact⟨by simp[hi],h⟩
structure FdB(K:dL)(n:Nat)(dfl:List AV)(nm:List (Nat×Str))(fd:gM)(ps:List Str):Prop where
 h1:codeIn K fd.code fd.qualname=true
 h2:fd.closure.isEmpty=true
 h3:(fd.globals==mainGlobals)=true
 h4:(fd.builtins==builtinsNs)=true
 h5:(fd.scope.kind== .function)=true
 h6:(!fd.scope.isCoroutine)=true
 h7:(!fd.scope.isGenerator)=true
 h8:fd.params.posonlyargs.isEmpty=true
 h9:fd.params.kwonlyargs.isEmpty=true
 ha:fd.params.vararg.isNone=true
 hb:fd.params.kwarg.isNone=true
 hc:(ps.length==n)=true
 hd:cJ dfl.length n=true
 he:agE K dfl fd.defaults=true
 hf:pp ps=true
 hg:ps.all (fun x=>fd.scope.names.lookup x==some .local||fd.scope.names.lookup x==some .cell)=true
 hi:((co n).zip ps).all (fun p=>nm.lookup p.1==some p.2)=true
 hj:nm.all (fun p=>zC p.2)=true
 hk:pp (nm.map (·.2))=true
 hl:fd.scope.names.all (fun y=>y.2 != .free)=true
theorem FdB.of{K:dL}{n:Nat}{dfl:aa}{nm:List (Nat×Str)}{fd:gM}{ps:List Str}(h:Sd K n dfl nm fd ps=true):FdB K n dfl nm fd ps:=
 aE h fun h1 h=>aE h fun h2 h=>aE h fun h3 h=>aE h fun h4 h=>aE h fun h5 h=>aE h fun h6 h=>aE h fun h7 h=>aE h fun h8 h=>aE h fun h9 h=>aE h fun h10 h=>aE h fun h11 h=>aE h fun h12 h=>aE h fun h13 h=>aE h fun h14 h=>aE h fun h15 h=>aE h fun h16 h=>aE h fun h17 h=>aE h fun h18 h=>aE h fun h19 h20=>⟨h1,h2,h3,h4,h5,h6,h7,h8,h9,h10,h11,h12,h13,h14,h15,h16,h17,h18,h19,h20⟩
theorem ahG{f:aC}{o:Obj}(ho:C.K.lookup f=some o){n:Nat}{dfl:aa}{nm:List (Nat×Str)}{fd:gM}{body:List bW}(hd:o.data= .func fd)(hb:fd.body= .stmts body){ps:List Str}(hps:fd.params.args.map (·.arg)=ps)(h:Sd C.K n dfl nm fd ps=true):
  ps.length=n/\afJ C f fd body ps dfl (⟨fd.scope.names,nm,true⟩:SI).at_/\ ∀X,abJ C fd (⟨fd.scope.names,nm,true⟩:SI).at_ X->g9 X ⟨fd.scope.names,nm,true⟩:=
 by
 have H:=FdB.of h
 have h5:=beq_iff_eq.mp H.h5
 obtain rfl:ps.length=n:=beq_iff_eq.mp H.hc
 have hdl:=av H.hd
 refine⟨rfl,⟨⟨o,ho,hd⟩,H.h1,hb,dM.mp H.h2,beq_iff_eq.mp H.h3,beq_iff_eq.mp H.h4,h5,pq H.h6,pq H.h7,fun W σ s args vs R hv hl hl2=> ?_,kj H.hf,fun x hx=> ?_,fun i x hi hx=> ?_,fun i x hx=> ?_⟩,fun X B=> ?_⟩
 ·obtain⟨d,hd1,hd2⟩:=Z4 (s:=s) H.he R
  have hlen:=hd1.length
  have hvl:=hv.length
  refine⟨vs++(d.getD #[]).toList.drop (vs.length+(d.getD #[]).toList.length -ps.length),?_,Xo (dM.mp H.h8) (dM.mp H.h9) (dG.mp H.ha) (dG.mp H.hb) hps hd2 rfl (by rw[hvl];exact hl) (by rw[hvl,hlen];exact hl2) (by rw[hlen];exact hdl) (kj H.hf)⟩
  rw[hlen,hvl]
  exact hv.append (hd1.drop _)
 ·exact rE (b5.mp H.hg x hx) (fun h=>.inl (beq_iff_eq.mp h)) fun h=>.inr (beq_iff_eq.mp h)
 ·have hp:ps[i]? =some ps[i]:=fj hi
  have hz:=beq_iff_eq.mp (b5.mp H.hi _ (abG hp))
  exact hp.trans (hz.symm.trans hx)
 ·exact pq (b5.mp H.hj _ (dP hx))
 ·refine⟨by rw[B.scope],B.nm,B.ok,⟨fun i j x hi hj=> ?_,?_⟩,fun n hn=> ?_,fun _=>B.own⟩
  ·rw[B.nm]at hi hj
   exact Lu (kj H.hk) (dP hi) (dP hj)
  ·unfold interactive;rw[B.scope,h5];rfl
  ·exact hn.elim (B.cells n) fun hn=>absurd rfl (bne_iff_ne.mp (b5.mp H.hl _ hn))
theorem ad2{f:aC}{o:Obj}(ho:C.K.lookup f=some o){n:Nat}{dfl:aa}{nm:List (Nat×Str)}{fd:gM}{body:List bW}(hd:o.data= .func fd)(hb:fd.body= .stmts body){ps:List Str}(hps:fd.params.args.map (·.arg)=ps){b:SM}(h:Sd C.K n dfl nm fd ps=true)
  (hs: ∀X:FX,X.C=C->g9 X ⟨fd.scope.names,nm,true⟩->mW X k b body):pU C (k+1) (.ref f) (bo n dfl b):=by
 obtain⟨rfl,F,H⟩:=ahG ho hd hb hps h
 exact akK F fun X B=>hs X B.C (H X B)
theorem ad3(hk:5<=k){FN:List Str}(hF:SG C FN){Γ:cG}(fc:KO C k Γ){f:aC}{n:Nat}{dfl:aa}{nm:List (Nat×Str)}{t:TS}(h:fnB C.K FN f n dfl nm Γ.nms t=true):pU C (k+1) (.ref f) (bo n dfl (ci Γ t)):=Ju h fun o ho h=>
 ZZ (d:=o.data) (Q:=fun d=>o.data=d->pU C (k+1) (.ref f) (bo n dfl (ci Γ t))) h (fun fd h hd=>af0 (d:=fd.body) (Q:=fun b=>fd.body=b->pU C (k+1) (.ref f) (bo n dfl (ci Γ t))) h (fun body h hb=>aE h fun h1 h2=>
  ad2 ho hd hb rfl h1 fun X e H=>(ZP hk (e▸hF) (e▸fc) H t).ss _ h2) rfl) rfl
end
end
end
section
mutual
noncomputable def uR(f:Nat->Option Nat):AV->Option AV
 | .ref a=>(f a).map .ref
 | .tup l=>(ow f l).map .tup
 | .lst l=>(ow f l).map .lst
 | .frz c ks l=>(ow f l).map (.frz c ks)
 | .dct ks l=>(ow f l).map (.dct ks)
 | .dcti ks l=>(ow f l).map (.dcti ks)
 | .unb=>some .unb
 | .none=>some .none
 | .opq=>some .opq
 | .bool b=>some (.bool b)
 | .int i=>some (.int i)
 | .str s=>some (.str s)
 | .bytes s=>some (.bytes s)
 | .rng a b=>some (.rng a b)
 | .glob v=>some (.glob v)
noncomputable def ow(f:Nat->Option Nat):List AV->Option (List AV)
 |[]=>some []
 |a::l=>ob (uR f a) fun b=>ob (ow f l) fun m=>some (b::m)
end
def acQ(f:Nat->Option Nat):bJ->Option bJ
 | .lst l=>(ow f l).map .lst
 | .inst c ks l=>(ow f l).map (.inst c ks)
 | .dct ks l=>(ow f l).map (.dct ks)
 | .orc k l=>some (.orc k l)
noncomputable def ixN:Nat->List Nat->Nat->Option Nat
 |_,[],_=>none
 |n,b::r,a=>bif am a b then some n else ixN (n+1) r a
noncomputable def XZ(f:Nat->Option Nat)(σ:AS):Nat->List Nat->Option (List (Nat×bJ))
 |_,[]=>some []
 |n,b::r=>ob (σ.get b) fun c=>ob (acQ f c) fun c'=>ob (XZ f σ (n+1) r) fun m=>some ((n,c')::m)
noncomputable def F9(a:Nat):List Nat->Bool
 |[]=>false
 |b::r=>am a b||F9 a r
noncomputable def ndN:List Nat->Bool
 |[]=>true
 |a::r=> !F9 a r&&ndN r
def imp(f:Nat->Option Nat)(ids:ac)(n:Nat)(cells:List (Nat×bJ))(a:AV)(aj:AS):Option (AV×AS):=bif ndN ids then ob (uR f a) (fun b=>ob (XZ f aj n ids) fun cs=>some (b,⟨n+ids.length,cs++cells⟩))else none
def vY(pick:AV->AS->List Nat)(F:aW):aW:=fun args σ=>bif aN args then bA (F args ⟨0,[]⟩) (fun a aj=>imp (ixN σ.next (pick a aj)) (pick a aj) σ.next σ.cells a aj)else none
noncomputable def X5(r n:Nat)(ids:ac):Nat->Option Nat
 |0=>some r
 |a+1=>ixN n ids (a+1)
def sE{β:Type}(σ:AS)(x:Nat)(f:Nat->List AV->Option β):Option β:=ob (σ.get x) fun c=>match c with
 | .orc k l=>f k l
 |_=>none
theorem Ga{β:Type}{σ:AS}{x:Nat}{f:Nat->List AV->Option β}{r:β}{P:Prop}(h:sE σ x f=some r)(k: ∀n l,σ.get x=some (.orc n l)->f n l=some r->P):P:=oE h fun c hc h=>by
 cases c with
 |orc n l=>exact k n l hc h
 |_=>exact nn h
def rk{α β:Type}(l:List α)(f:α->List α->Option β):Option β:=bt (motive:=fun _=>Option β) none (fun a r _=>f a r) l
@[elab_as_elim] theorem kP {α β:Type} {Q:List α->Prop} {l:List α} {f:α->List α->Option β} {r:β} (h:rk l f=some r) (k: ∀a m,f a m=some r->Q (a::m)):Q l:=by
 cases l with
 |nil=>exact nn h
 |cons a m=>exact k a m h
def ux(pick:AV->AS->List Nat)(F:aW):aW:=fun args σ=>rk args fun a as=>iw a fun r=>bif aN as then sE σ r (fun k l=>bA (F (.ref 0::as) ⟨1,[(0,.orc k l)]⟩) fun a aj=>sE aj 0 fun k' l'=>bif F9 0 (pick a aj)then none else imp (X5 r σ.next (pick a aj)) (pick a aj) σ.next (lE r (.orc k' l') σ.cells) a aj)else none
section
variable{k:Nat}{C:PC}{W W' W'':Wd}{σ aj:AS}{h h':bM}
theorem Jn{α β:Type}{o:Option α}{g:α->β}{b:β}{P:β->Prop}(e:o.map g=some b)(k: ∀a,o=some a->P (g a)):P b:=by
 cases o with
 |none=>exact nn e
 |some a=>exact s1 e (k a rfl)
mutual
theorem acP{f:Nat->Option Nat}(xY: ∀i j p,f i=some j->W.ρ i=some p->W'.ρ j=some p)(hi: ∀x o,W.im x=some o->W'.im x=some o):
  ∀{a b:AV} {v:ah},uR f a=some b->V C W a v->V C W' b v
 | .unb,_,_,e,q=>q.elim
 | .none,b,v,e,q=>s1 (P:=fun b=>V C W' b v) e q
 | .opq,b,v,e,q=>s1 (P:=fun b=>V C W' b v) e trivial
 | .bool _,b,v,e,q=>s1 (P:=fun b=>V C W' b v) e q
 | .int _,b,v,e,q=>s1 (P:=fun b=>V C W' b v) e q
 | .str _,b,v,e,q=>s1 (P:=fun b=>V C W' b v) e q
 | .bytes _,b,v,e,q=>s1 (P:=fun b=>V C W' b v) e q
 | .tup l,b,v,e,q=>Jn (P:=fun b=>V C W' b v) e fun m e1=>q.tupE fun x n vs q r=>⟨x,n,vs,rfl,hi _ _ q,qU xY hi e1 r⟩
 | .lst l,b,v,e,q=>Jn (P:=fun b=>V C W' b v) e fun m e1=>q.lstE fun x n vs q r=>⟨x,n,vs,rfl,hi _ _ q,qU xY hi e1 r⟩
 | .frz c ks l,b,v,e,q=>Jn (P:=fun b=>V C W' b v) e fun m e1=>q.frzE fun x d es n vs q0 q1 q2 r z=>⟨x,d,es,n,vs,rfl,q0,hi _ _ q1,hi _ _ q2,qU xY hi e1 r,z⟩
 | .dct ks l,b,v,e,q=>Jn (P:=fun b=>V C W' b v) e fun m e1=>q.dctE fun x o vs q0 q1 r z=>⟨x,o,vs,rfl,q0,hi _ _ q1,qU xY hi e1 r,z⟩
 | .dcti ks l,b,v,e,q=>Jn (P:=fun b=>V C W' b v) e fun m e1=>q.dctiE fun x o vs q0 q1 r z=>⟨x,o,vs,rfl,q0,hi _ _ q1,qU xY hi e1 r,z⟩
 | .rng _ _,b,v,e,q=>s1 (P:=fun b=>V C W' b v) e (q.rngE fun x t u w q z1 z2=>⟨x,t,u,w,rfl,hi _ _ q,z1,z2⟩)
 | .ref _,b,v,e,q=>Jn (P:=fun b=>V C W' b v) e fun m e1=>q.refE fun p e=>⟨p,xY _ _ _ e1 e,rfl⟩
 | .glob _,b,v,e,q=>s1 (P:=fun b=>V C W' b v) e q
theorem qU{f:Nat->Option Nat}(xY: ∀i j p,f i=some j->W.ρ i=some p->W'.ρ j=some p)(hi: ∀x o,W.im x=some o->W'.im x=some o):
  ∀{l m:List AV} {vs:List ah},ow f l=some m->VL C W l vs->VL C W' m vs
 |[],m,vs,e,q=>s1 (P:=fun m=>VL C W' m vs) e q
 |a::l,m,vs,e,q=>q.consE fun v r q1 q2=>oE (show ob (uR f a) (fun b=>ob (ow f l) fun m=>some (b::m))=some m from e) fun b hb e=>oE e fun m' hm e=>s1 (P:=fun m=>VL C W' m (v::r)) e ⟨v,r,rfl,acP xY hi hb q1,qU xY hi hm q2⟩
end
mutual
theorem uD{f:Nat->Option Nat}: ∀{a:AV},noRef a=true->uR f a=some a
 | .unb,_=>rfl
 | .none,_=>rfl
 | .opq,_=>rfl
 | .bool _,_=>rfl
 | .int _,_=>rfl
 | .str _,_=>rfl
 | .bytes _,_=>rfl
 | .tup l,e=>by show(ow f l).map _=_;rw[jB (l:=l) e];rfl
 | .lst l,e=>by show(ow f l).map _=_;rw[jB (l:=l) e];rfl
 | .frz c ks l,e=>by show(ow f l).map _=_;rw[jB (l:=l) e];rfl
 | .dct ks l,e=>by show(ow f l).map _=_;rw[jB (l:=l) e];rfl
 | .dcti ks l,e=>by show(ow f l).map _=_;rw[jB (l:=l) e];rfl
 | .rng _ _,_=>rfl
 | .ref _,e=>by cases e
 | .glob _,_=>rfl
theorem jB{f:Nat->Option Nat}: ∀{l:aa},aN l=true->ow f l=some l
 |[],_=>rfl
 |a::l,e=>by
  have e:(noRef a&&aN l)=true:=e
  rw[cM]at e
  show ob (uR f a) _=_
  rw[uD e.1]
  show ob (ow f l) _=_
  rw[jB e.2];rfl
end
theorem x9(hi: ∀x o,W.im x=some o->W'.im x=some o){l:aa}{vs:List ah}(e:aN l=true)(q:VL C W l vs):VL C W' l vs:=
 qU (f:=fun _=>none) (fun _ _ _ e=>by cases e) hi (jB e) q
theorem Sa(hi: ∀x o,W.im x=some o->W'.im x=some o){p:aC×aC}{c:bJ}(e:EA c=true)(x:iT C W h p c):iT C W' h p c:=by
 cases c with
 |lst _=>obtain⟨a,vs,n,b,r⟩:=x;exact⟨a,vs,n,b,x9 hi e r⟩
 |inst cc ks fs=>obtain⟨q0,a,es,n,vs,b,r,z⟩:=x;exact⟨q0,hi _ _ a,es,n,vs,b,x9 hi e r,z⟩
 |dct ks fs=>obtain⟨a,q0,o,vs,b,r,z⟩:=x;exact⟨a,q0,o,vs,b,x9 hi e r,z⟩
 |orc=>exact x
theorem zj(hi: ∀x o,W.im x=some o->W'.im x=some o){p:aC×aC}{kk:Nat}{l:aa}(x:d6 C W h p (.orc kk l)):d6 C W' h p (.orc kk l):=by
 refine fg (x) fun c q x=> ?_
 exact⟨c,q,Sa hi (C.concFree _ _ _ q) x⟩
theorem amW{f:Nat->Option Nat}(xY: ∀i j p,f i=some j->W.ρ i=some p->W'.ρ j=some p)(hi: ∀x o,W.im x=some o->W'.im x=some o){p:aC×aC}{c c':bJ}(e:acQ f c=some c')(x:d6 C W h p c):d6 C W' h p c':=by
 cases c with
 |lst _=>exact Jn (P:=fun c'=>d6 C W' h p c') e fun m e1=>let⟨a,vs,n,b,r⟩:=x;⟨a,vs,n,b,qU xY hi e1 r⟩
 |inst cc ks fs=>exact Jn (P:=fun c'=>d6 C W' h p c') e fun m e1=>let⟨q0,a,es,n,vs,b,r,z⟩:=x;⟨q0,hi _ _ a,es,n,vs,b,qU xY hi e1 r,z⟩
 |dct ks fs=>exact Jn (P:=fun c'=>d6 C W' h p c') e fun m e1=>let⟨a,q0,o,vs,b,r,z⟩:=x;⟨a,q0,o,vs,b,qU xY hi e1 r,z⟩
 |orc=>exact s1 (P:=fun c'=>d6 C W' h p c') e (zj hi x)
theorem Tz{ids:ac}: ∀{n a j:Nat},ixN n ids a=some j->n<=j/\ids[j-n]? =some a:=by
 induction ids with
 |nil=>exact fun e=>nn e
 |cons b r ih=>
  intro n a j e
  refine bE (show(bif am a b then some n else ixN (n+1) r a)=some j from e) (fun q e=> ?_) fun _ e=> ?_
  ·refine s1 (P:=fun j=>n<=j/\(b::r)[j-n]? =some a) e ⟨ax _,?_⟩
   rw[Bz,aD q];rfl
  ·obtain⟨h1,h2⟩:=ih e
   refine⟨Fb h1,?_⟩
   rw[<- tO j n,Oo h1];exact h2
theorem aiC{a n:Nat}{c:bJ}{l:List (Nat×bJ)}(h:a≠n):lk a ((n,c)::l)=lk a l:=by rw[nt,gm,decide_eq_false h];rfl
theorem aiB{n:Nat}{c:bJ}{l:List (Nat×bJ)}:lk n ((n,c)::l)=some c:=by rw[nt,gm,decide_eq_true rfl];rfl
theorem aeb{f:Nat->Option Nat}{ids:ac}: ∀{n:Nat} {cs:List (Nat×bJ)},XZ f aj n ids=some cs-> ∀(rest:List (Nat×bJ)) (a:Nat),
  (∃i c c',n<=a/\ids[a-n]? =some i/\aj.get i=some c/\acQ f c=some c'/\lk a (cs++rest)=some c')\/((a<n\/n+ids.length<=a)/\lk a (cs++rest)=lk a rest):=by
 induction ids with
 |nil=>exact fun{n cs} e rest a=>s1 (P:=fun cs=>_\/((a<n\/n+([]:List Nat).length <=a)/\lk a (cs++rest)=lk a rest)) e (.inr ⟨oO a n,rfl⟩)
 |cons b r ih=>
  intro n cs e rest a
  refine oE (show ob (aj.get b) _=some cs from e) fun c hc e=>oE e fun c' hc' e=>oE e fun m hm e=> ?_
  apply s1 e
  by_cases q:a=n
  ·subst q
   exact .inl ⟨b,c,c',ax _,by rw[Bz];rfl,hc,hc',aiB⟩
  ·rw[fi,aiC q]
   rcases ih hm rest a with⟨i,fb,CF,h1,h2,h3,h4,h5⟩|⟨h1,h2⟩
   ·exact .inl ⟨i,fb,CF,Fb h1,by rw[<- tO a n,Oo h1];exact h2,h3,h4,h5⟩
   ·refine .inr ⟨h1.imp (fun h=>Nat.lt_of_le_of_ne (Fa h) q) fun h=> ?_,h2⟩
    rw[bT,<- Nat.succ_add_eq_add_succ];exact h
theorem K9{a:Nat}: ∀{l:ac},F9 a l=true↔a∈l
 |[]=>by simp[F9]
 |b::r=>by rw[F9,oJ,K9,gm,decide_eq_true_iff,aH]
theorem Yh: ∀{l:ac},ndN l=true->l.Nodup
 |[],_=>me
 |a::r,e=>by
  rw[ndN,cM,ej]at e
  refine dT.mpr ⟨fun q=> ?_,Yh e.2⟩
  rw[K9.mpr q]at e;cases e.1
def G4(W:Wd)(σ:AS)(ro:Option Nat)(b:aC):Prop:= ∃a c p,some a≠ro/\σ.get a=some c/\W.ρ a=some p/\p.2=b
open Classical in
def Wd.loc(W:Wd)(σ:AS)(h:bM)(ro:Option Nat):Wd:=⟨fun i=>if i=0 then ro.bind W.ρ else none,W.im,fun b=>if G4 W σ ro b then h.get? b else W.pr b⟩
noncomputable def Qh(n:Nat)(ids:ac)(a:Nat):Option Nat:=if n<=a then ids[a-n]? else none
noncomputable def Wd.imp(W W':Wd)(n:Nat)(ids:ac):Wd:=⟨fun a=>match Qh n ids a with
 |some i=>W'.ρ i
 |none=>W.ρ a,W'.im,W.pr⟩
theorem Jm{ro:Option Nat}{b:aC}(hb:G4 W σ ro b):(W.loc σ h ro).pr b=h.get? b:=if_pos hb
theorem C0{ro:Option Nat}{b:aC}(hb: ¬G4 W σ ro b):(W.loc σ h ro).pr b=W.pr b:=if_neg hb
theorem cD.loc(R:cD C W σ h){ro:Option Nat}{σ0:AS}(hn:1<=σ0.next\/ro=none)(hc: ∀a c,σ0.get a=some c->a=0/\ ∃r kk l,ro=some r/\c= .orc kk l/\σ.get r=some c):cD C (W.loc σ h ro) σ0 h:=by
 refine⟨R.base,R.im,fun b o e=> ?_,fun b o e=> ?_,fun a ha=> ?_,fun a c e=> ?_,fun a b ca cb p q e e' _ _ _=>(hc a ca e).1.trans (hc b cb e').1.symm⟩
 ·by_cases hb:G4 W σ ro b
  ·rw[Jm hb]at e;exact e
  ·rw[C0 hb]at e;exact R.pr _ _ e
 ·by_cases hb:G4 W σ ro b
  ·obtain⟨a,c,p,_,h2,h3,rfl⟩:=hb
   refine ul (R.cell a c h2) fun p' e' _ h4 _=> ?_
   rw[h3]at e';cases e';exact h4
  ·rw[C0 hb]at e;exact R.dis _ _ e
 ·show(if a=0 then ro.bind W.ρ else none)=none
  rcases hn with hn|rfl
  ·rw[if_neg (by omega)]
  ·split<;>rfl
 ·obtain⟨rfl,r,kk,l,rfl,rfl,hr⟩:=hc a c e
  refine ul (R.cell _ _ hr) fun p a1 a2 a3 a4=> ?_
  refine⟨p,by show(if 0=0 then(some r).bind W.ρ else none)=_;rw[if_pos rfl];exact a1,zj (W':=W.loc σ h (some r)) (W:=W) (fun _ _ e=>e) a2,a3,?_⟩
  rw[C0]
  ·exact a4
  ·rintro⟨a',c',p',h1,h2,h3,h4⟩
   exact h1 (congrArg some (R.inj _ _ _ _ _ _ h2 hr h3 a1 h4))
abbrev aqi(σ aj:AS)(ids:List Nat)(f:Nat->Option Nat)(ro:Option Nat)(a:Nat)(c:bJ):Prop:=
 (∃i fb,σ.next<=a/\ids[a-σ.next]? =some i/\aj.get i=some fb/\acQ f fb=some c)\/
   (some a≠ro/\σ.get a=some c)\/(some a=ro/\(∃fb,σ.get a=some fb)/\(∃kk ll,c= .orc kk ll)/\aj.get 0=some c)
abbrev aqf(W W':Wd)(σ aj:AS)(ids:List Nat)(ro:Option Nat)(a:Nat)(c:bJ)(p:aC×aC):Prop:=
 (∃i fb,aj.get i=some fb/\W'.ρ i=some p/\W'.pr p.2=none/\((σ.next<=a/\ids[a-σ.next]? =some i)\/(some a=ro/\i=0)))\/(some a≠ro/\σ.get a=some c/\W.ρ a=some p/\ ∃o,W'.pr p.2=some o)
abbrev aqc(C:PC)(W:Wd)(h:bM)(a:Nat)(c:bJ):Prop:= ∃p,W.ρ a=some p/\d6 C W h p c/\W.im p.2=none/\W.pr p.2=none
theorem cD.imp(R:cD C W σ h){ro:Option Nat}(l:(W.loc σ h ro).le W')(R':cD C W' aj h'){ids:ac}(hnd:ids.Nodup)(h0:ro≠none->0∉ids)(hro: ∀r,ro=some r-> ∃fb,σ.get r=some fb){cells:List (Nat×bJ)}{cs:List (Nat×bJ)}{f:Nat->Option Nat}
  (hf: ∀i j,f i=some j->(∃r,ro=some r/\i=0/\j=r)\/(σ.next<=j/\ids[j-σ.next]? =some i))(hi:XZ f aj σ.next ids=some cs)
  (hcell: ∀a c,lk a cells=some c->(some a≠ro/\σ.get a=some c)\/(some a=ro/\(∃fb,σ.get a=some fb)/\(∃kk ll,c= .orc kk ll)/\aj.get 0=some c)):
  W.le (W.imp W' σ.next ids)/\cD C (W.imp W' σ.next ids) ⟨σ.next+ids.length,cs++cells⟩ h'/\ ∀a b v,uR f a=some b->V C W' a v->V C (W.imp W' σ.next ids) b v:=by
 have hpr:W'.pr=(W.loc σ h ro).pr:=l.2.2
 have lim: ∀x o,W.im x=some o->W'.im x=some o:=fun x o e=>l.2.1 x o e
 have lt: ∀a p,W.ρ a=some p->a<σ.next:=fun a p e=>by
  by_cases q:σ.next<=a
  ·rw[R.fresh a q]at e;cases e
  ·omega
 have old: ∀a,a<σ.next->(W.imp W' σ.next ids).ρ a=W.ρ a:=fun a ha=>by
  show(match Qh σ.next ids a with|some i=>W'.ρ i|none=>W.ρ a)=_
  unfold Qh;rw[if_neg (by omega)]
 have new: ∀a i,σ.next<=a->ids[a-σ.next]? =some i->(W.imp W' σ.next ids).ρ a=W'.ρ i:=fun a i ha e=>by
  show(match Qh σ.next ids a with|some i=>W'.ρ i|none=>W.ρ a)=_
  unfold Qh;rw[if_pos ha,e]
 have le:W.le (W.imp W' σ.next ids):=⟨fun a p e=>(old a (lt a p e)).trans e,lim,rfl⟩
 have loc0: ∀r p,ro=some r->W.ρ r=some p->W'.ρ 0=some p:=fun r p hr e=>l.1 0 p (by show(if 0=0 then ro.bind W.ρ else none)=_;rw[if_pos rfl,hr];exact e)
 have nr: ∀r,ro=some r-> ∀p,W'.ρ 0=some p-> ∀fb,σ.get r=some fb->W.ρ r=some p:=fun r hr p e fb hc=>by
  refine fg (R.cell r fb hc) fun p' a1 _=> ?_
  rw[loc0 r p' hr a1]at e;cases e;exact a1
 have xY: ∀i j p,f i=some j->W'.ρ i=some p->(W.imp W' σ.next ids).ρ j=some p:=fun i j p e e'=>by
  rcases hf i j e with⟨r,hr,rfl,rfl⟩|⟨h1,h2⟩
  ·obtain⟨fb,hc⟩:=hro _ hr
   have:=nr _ hr p e' fb hc
   rw[old _ (lt _ _ this)];exact this
  ·rw[new _ _ h1 h2];exact e'
 have TP: ∀b,W'.pr b=none->(∃o,h.get? b=some o)->W.pr b=none:=fun b e ⟨o,ho⟩=>by
  rw[hpr]at e
  by_cases hb:G4 W σ ro b
  ·rw[Jm hb,ho]at e;cases e
  ·rw[C0 hb]at e;exact e
 have wpr: ∀b o,W.pr b=some o->W'.pr b=some o:=fun b o e=>by
  rw[hpr,C0]
  ·exact e
  ·rintro⟨a,c,p,_,h2,h3,rfl⟩
   refine ul (R.cell a c h2) fun p' e' _ _ h4=> ?_
   rw[h3]at e';cases e'
   rw[h4]at e;cases e
 have npr: ∀b,W'.pr b=none->W.pr b=none:=fun b e=>by
  cases q:W.pr b with
  |none=>rfl
  |some o=>rw[wpr b o q]at e;cases e
 have src: ∀a c,lk a (cs++cells)=some c->
   aqi σ aj ids f ro a c:=fun a c e=>by
  rcases aeb hi cells a with⟨i,fb,CF,h1,h2,h3,h4,h5⟩|⟨_,h2⟩
  ·rw[e]at h5;cases h5;exact .inl ⟨i,fb,h1,h2,h3,h4⟩
  ·rw[h2]at e;exact .inr (hcell a c e)
 refine⟨le,⟨R'.base,R'.im,fun b o e=>R'.pr _ _ (wpr b o e),fun b o e=>R'.dis _ _ (wpr b o e),fun a ha=> ?_,fun a c e=> ?_,fun a b ca cb p q e e' ep eq hpq=> ?_⟩,fun a b v e q=>acP xY (fun _ _ e=>e) e q⟩
 ·have ha:σ.next+ids.length<=a:=ha
  show(match Qh σ.next ids a with|some i=>W'.ρ i|none=>W.ρ a)=none
  unfold Qh
  rw[if_pos (by omega),n8 (by omega)]
  exact R.fresh _ (by omega)
 ·show aqc C (W.imp W' σ.next ids) h' a c
  rcases src a c e with⟨i,fb,h1,h2,h3,h4⟩|⟨h1,h2⟩|⟨h1,⟨fb,h2⟩,⟨kk,ll,rfl⟩,h3⟩
  ·refine ul (R'.cell i fb h3) fun p a1 a2 a3 a4=> ?_
   exact⟨p,(new _ _ h1 h2).trans a1,amW xY (fun _ _ e=>e) h4 a2,a3,npr _ a4⟩
  ·refine ul (R.cell a c h2) fun p a1 a2 a3 a4=> ?_
   have ho:G4 W σ ro p.2:=⟨a,c,p,h1,h2,a1,rfl⟩
   obtain⟨o,hx⟩:=a2.some
   have hp':W'.pr p.2=some o:=by rw[hpr,Jm ho];exact hx
   exact⟨p,(old _ (lt _ _ a1)).trans a1,(a2.keeps fun o' z=>by rw[hx]at z;cases z;exact R'.pr _ _ hp').mono0 le.to0,R'.dis _ _ hp',a4⟩
  ·refine ul (R'.cell 0 _ h3) fun p a1 a2 a3 a4=> ?_
   have hw:=nr a h1.symm p a1 fb h2
   exact⟨p,(old _ (lt _ _ hw)).trans hw,zj (W':=W.imp W' σ.next ids) (W:=W') (fun _ _ e=>e) a2,a3,npr _ a4⟩
 ·
  have key: ∀a c p,lk a (cs++cells)=some c->(W.imp W' σ.next ids).ρ a=some p->
    aqf W W' σ aj ids ro a c p:=fun a c p e ep=>by
   rcases src a c e with⟨i,fb,h1,h2,h3,h4⟩|⟨h1,h2⟩|⟨h1,⟨fb,h2⟩,⟨kk,ll,rfl⟩,h3⟩
   ·rw[new _ _ h1 h2]at ep
    refine ul (R'.cell i fb h3) fun p' a1 a2 a3 a4=> ?_
    rw[ep]at a1;cases a1
    exact .inl ⟨i,fb,h3,ep,a4,.inl ⟨h1,h2⟩⟩
   ·refine ul (R.cell a c h2) fun p' a1 a2 a3 a4=> ?_
    rw[old _ (lt _ _ a1)]at ep
    rw[ep]at a1;cases a1
    obtain⟨o,hx⟩:=a2.some
    exact .inr ⟨h1,h2,ep,o,by rw[hpr,Jm ⟨a,c,p,h1,h2,ep,rfl⟩];exact hx⟩
   ·refine ul (R'.cell 0 _ h3) fun p' a1 a2 a3 a4=> ?_
    have hw:=nr a h1.symm p' a1 fb h2
    rw[old _ (lt _ _ hw),hw]at ep;cases ep
    exact .inl ⟨0,_,h3,a1,a4,.inr ⟨h1,rfl⟩⟩
  rcases key a ca p e ep with⟨i,fb,i1,i2,i3,i4⟩|⟨h1,h2,h3,o,h4⟩
  ·rcases key b cb q e' eq with⟨j,CF,j1,j2,j3,j4⟩|⟨h1',h2',h3',o',h4'⟩
   ·have hij:=R'.inj i j _ _ _ _ i1 j1 i2 j2 hpq
    subst hij
    rcases i4 with⟨x1,x2⟩|⟨x1,x2⟩<;>rcases j4 with⟨y1,y2⟩|⟨y1,y2⟩
    ·have hx:=(cW.mp x2).1
     have hy:=(cW.mp y2).1
     have:=(List.getElem?_inj hx hnd).mp (x2.trans y2.symm)
     omega
    ·subst y2
     exact absurd (bb x2) (h0 (by rw[<- y1];exact fun z=>by cases z))
    ·subst x2
     exact absurd (bb y2) (h0 (by rw[<- x1];exact fun z=>by cases z))
    ·exact aI (x1.trans y1.symm)
   ·rw[hpq,h4']at i3;cases i3
  ·rcases key b cb q e' eq with⟨j,CF,j1,j2,j3,j4⟩|⟨h1',h2',h3',o',h4'⟩
   ·rw[<- hpq,h4]at j3;cases j3
   ·exact R.inj a b _ _ _ _ h2 h2' h3 h3' hpq
end
end
section
variable{k:Nat}{C:PC}{W W' W'':Wd}{σ aj:AS}{h h':bM}
@[elab_as_elim] theorem anL {f:Nat->Option Nat} {ids:ac} {n:Nat} {cells:List (Nat×bJ)} {a b:AV} {ay aL:AS} {P:AS->Prop} (e:imp f ids n cells a ay=some (b,aL)) (kk:ids.Nodup->uR f a=some b-> ∀cs,XZ f ay n ids=some cs->P ⟨n+ids.length,cs++cells⟩):P aL:=
 kS e fun q e=>oE e fun b' hb e=>oE e fun cs hc e=>s2 (P:=fun b aL=>uR f a=some b->P aL) e (fun hb=>kk (Yh q) (s2 (P:=fun b _=>uR f a=some b) e hb) cs hc) (s2 (P:=fun b _=>uR f a=some b) e hb)
theorem jh{kF:Nat}{f:ah}{F:aW}{pick:AV->AS->List Nat}(hF:aF C kF f F):aF C kF f (vY pick F):=fun A Rm W σ s args vs Re hv tk a aj e=>kS e fun q e=>fW e fun xO ay e1 e=>by
 refine anL e fun hnd hb cs hc=> ?_
 have R0:cD C (W.loc σ s.heap none) ⟨0,[]⟩ s.heap:=Re.loc (.inr rfl) fun a c e=>nn e
 refine eK (hF A Rm (W.loc σ s.heap none) ⟨0,[]⟩ s args vs R0 (x9 (W:=W) (W':=W.loc σ s.heap none) (fun _ _ e=>e) q hv) tk xO ay e1) fun v s' ⟨hs,W',le,R',hv'⟩=> ?_
 refine uj (Re.imp le R' hnd (fun z=>absurd rfl z) (fun r z=>nn z) (fun i j e=>.inr (Tz e)) hc fun a c e=>.inl ⟨(fun z=>nn z.symm),e⟩) fun l2 R2 h2=> ?_
 exact⟨hs,_,l2,R2,h2 _ _ _ hb hv'⟩
theorem amB(a:Nat)(c:bJ)(b:Nat)(cells:List (Nat×bJ)):lk b (lE a c cells)=if b=a then(lk a cells).map (fun _=>c)else lk b cells:=AS.get_set ⟨0,cells⟩ a c b
theorem amz{c d:bJ}{a:Nat}(e:lk a [(0,c)]=some d):a=0/\c=d:=by
 rw[nt]at e
 exact bE e (fun z e=>⟨aD z,aI e⟩) fun _ e=>nn e
theorem aen{r n:Nat}{ids:ac}{i j:Nat}(e:X5 r n ids i=some j):(∃r',some r=some r'/\i=0/\j=r')\/(n<=j/\ids[j-n]? =some i):=by
 cases i with
 |zero=>exact .inl ⟨j,e,rfl,rfl⟩
 |succ i=>exact .inr (Tz e)
theorem amA{r a kk:Nat}{l:aa}{c:bJ}(hr:σ.get r=some (.orc kk l)){k':Nat}{l':aa}{o:Option bJ}(h0:o=some (.orc k' l'))(e:lk a (lE r (.orc k' l') σ.cells)=some c):
  (some a≠some r/\σ.get a=some c)\/(some a=some r/\(∃fb,σ.get a=some fb)/\(∃kk ll,c= .orc kk ll)/\o=some c):=by
 rw[amB]at e
 by_cases z:a=r
 ·subst z
  rw[if_pos rfl,show lk a σ.cells=some _ from hr]at e
  exact s1 (P:=fun c=>_\/(some a=some a/\(∃fb,σ.get a=some fb)/\(∃kk ll,c=bJ.orc kk ll)/\o=some c)) e (.inr ⟨rfl,⟨_,hr⟩,⟨_,_,rfl⟩,h0⟩)
 ·rw[if_neg z]at e
  exact .inl ⟨fun y=>z (aI y),e⟩
theorem n7{kF:Nat}{f:ah}{F:aW}{pick:AV->AS->List Nat}(hF:aF C kF f F):aF C kF f (ux pick F):=fun A Rm W σ s args vs Re hv tk a aj e=>by
 revert hv
 refine kP e fun b as e=> ?_
 refine iD e fun r e=> ?_
 refine fun hv=>kS e fun q e=>Ga e fun kk l hr e=>fW e fun xO ay e1 e=>Ga e fun k' l' h0 e=>kN e fun q0 e=> ?_
 refine anL e fun hnd hb cs hc=> ?_
 refine hv.consE fun v vr hv1 hv2=> ?_
 have R0:cD C (W.loc σ s.heap (some r)) ⟨1,[(0,.orc kk l)]⟩ s.heap:=Re.loc (.inl (ax _)) fun a c e=>let⟨z1,z2⟩:=amz e;⟨z1,r,kk,l,rfl,z2.symm,z2▸hr⟩
 have hv1':V C (W.loc σ s.heap (some r)) (.ref 0) v:=hv1
 refine eK (hF A Rm (W.loc σ s.heap (some r)) ⟨1,[(0,.orc kk l)]⟩ s (.ref 0::as) (v::vr) R0 (VL.cons hv1' (x9 (W:=W) (W':=W.loc σ s.heap (some r)) (fun _ _ e=>e) q hv2)) tk xO ay e1) fun v s' ⟨hs,W',le,R',hv'⟩=> ?_
 refine uj (Re.imp le R' hnd (fun _ z=>by rw[K9.mpr z]at q0;cases q0) (fun r' z=>⟨_,(aI z)▸hr⟩) (fun i j e=>aen e) hc (cells:=lE r (.orc k' l') σ.cells) fun a c e=>amA hr h0 e) fun l2 R2 h2=> ?_
 exact⟨hs,_,l2,R2,h2 _ _ _ hb hv'⟩
theorem oB(a:Nat)(c c':bJ): ∀cells:List (Nat×bJ),lE a c (lE a c' cells)=lE a c cells
 |[]=>rfl
 |(b,d)::r=>by
  simp only[EY]
  cases h:am a b<;>simp[EY,h,oB a c c' r]
theorem Ud: ∀(cells:List (Nat×bJ)) (a:Nat) (c:bJ),lk a cells=some c->lE a c cells=cells
 |[],_,_,_=>rfl
 |(b,d)::r,a,c,h=>by
  simp only[nt]at h
  simp only[EY]
  cases q:am a b<;>rw[q]at h
  ·simp only[ae]at h ⊢;rw[Ud r a c h]
  ·cases h;rw[aD q];rfl
theorem cD.conc(R:cD C W σ h){r kk:Nat}{l:aa}(hr:σ.get r=some (.orc kk l)): ∃c,C.conc kk l c/\cD C W (σ.set r c) h:=by
 obtain⟨p,a1,⟨c,q1,q2⟩,_⟩:=R.cell r _ hr
 exact⟨c,q1,R.set hr a1 (fun _ _ _ e=>e) q2.to⟩
theorem cD.abst(R:cD C W σ h){r kk:Nat}{l:aa}{c:bJ}(hr:σ.get r=some c)(hc:C.conc kk l c):cD C W (σ.set r (.orc kk l)) h:=by
 refine uk (R.cell r _ hr) fun p a1 a2 _=> ?_
 refine R.set hr a1 (fun _ _ _ e=>e) ⟨c,hc,a2.to0 ?_⟩
 have:=C.concFree _ _ _ hc
 cases c with
 |orc=>cases this
 |_=>rfl
theorem cD.sub{aj:AS}(R:cD C W σ h)(hn:σ.next<=aj.next)(hs: ∀a c,aj.get a=some c->σ.get a=some c):cD C W aj h:=
 ⟨R.base,R.im,R.pr,R.dis,fun a ha=>R.fresh a (au hn ha),fun a c e=>R.cell a c (hs a c e),fun a b ca cb p q e e'=>R.inj a b ca cb p q (hs _ _ e) (hs _ _ e')⟩
theorem uW{kF:Nat}{f:ah}{F F':aW}(hF:aF C kF f F)
  (H: ∀args σ a aj,F' args σ=some (a,aj)-> ∃r kk l,σ.get r=some (.orc kk l)/\ ∀c,C.conc kk l c->(∀b d,σ.get b=some d->b<σ.next)-> ∃ay CF TF bD,F args (σ.set r c)=some (a,ay)/\ay.get r=some CF/\C.conc TF bD CF/\ay.next<=aj.next/\
   ∀b d,aj.get b=some d->(b=r/\d= .orc TF bD)\/(b≠r/\ay.get b=some d)):aF C kF f F':=fun A Rm W σ s args vs Re hv tk a aj e=>by
 refine XF (H args σ a aj e) fun r kk l hr H=> ?_
 obtain⟨c,hc,R1⟩:=Re.conc hr
 have hlt: ∀b d,σ.get b=some d->b<σ.next:=fun b d hb=>by
  by_cases q:σ.next<=b
  ·refine fg (Re.cell b _ hb) fun p e _=> ?_
   rw[Re.fresh b q]at e;cases e
  ·omega
 obtain⟨ay,CF,TF,bD,e1,e2,e3,e4,e5⟩:=H c hc hlt
 refine eK (hF A Rm W _ s args vs R1 hv tk a ay e1) fun v s' ⟨hs,W',le,R',hv'⟩=>⟨hs,W',le,(R'.abst e2 e3).sub e4 fun b d q=> ?_,hv'⟩
 rw[AS.get_set]
 rcases e5 b d q with⟨rfl,rfl⟩|⟨h1,h2⟩
 ·rw[if_pos rfl,e2];rfl
 ·rw[if_neg h1];exact h2
theorem H0{kF:Nat}{f:ah}{F F':aW}(hF:aF C kF f F)(H: ∀args σ a aj,F' args σ=some (a,aj)->F args σ=some (a,aj)):aF C kF f F':=fun A Rm W σ s args vs Re hv tk a aj e=>hF A Rm W σ s args vs Re hv tk a aj (H _ _ _ _ e)
end
noncomputable def mZ{β:Type}(a:AV)(f:Nat->List Nat->List AV->Option β):Option β:=match a with
 | .frz c ks vs=>f c ks vs
 |_=>none
@[elab_as_elim] theorem td {β:Type} {a:AV} {Q:AV->Prop} {f:Nat->List Nat->List AV->Option β} {r:β} (h:mZ a f=some r) (k: ∀c ks vs,f c ks vs=some r->Q (.frz c ks vs)):Q a:=by
 cases a with
 |frz c ks vs=>exact k c ks vs h
 |_=>exact nn h
def jN(l:aa):Nat->Option (Option AV):=bt (motive:=fun _=>Nat->Option (Option AV)) (fun _=>some none) (fun a _ ih k=>mZ a fun c ks _=>bif am c 0 then(bif CT ks then ih k else none)else hY (motive:=fun _=>Option (Option AV)) (some (some a)) (fun j _=>ih j) k) l
def rV(l:aa):Nat->Option (List AV):=bt (motive:=fun _=>Nat->Option (List AV)) (fun j=>hY (motive:=fun _=>Option (List AV)) (some []) (fun _ _=>none) j) (fun a r ih j=>hY (motive:=fun _=>Option (List AV)) (some (a::r)) (fun i _=>
 mZ a fun c ks _=>bif am c 0 then(bif CT ks then ih (i+1)else none)else hY (motive:=fun _=>Option (List AV)) (some r) (fun i' _=>ih (i'+1)) i) j) l
def pJ(k:Nat)(t:AV):Option AV:=mZ t fun c ks vs=>ob (NY c k ks vs) tr
noncomputable def pY:List Nat:=[110,117,109,98,101,114]
noncomputable def uU:List Nat:=[119,111,114,100]
noncomputable def jp:List Nat:=[115,105,103,110]
noncomputable def YO:List Nat:=[108,105,116,101,114,97,108]
def rd(σ:AS)(r:Nat):Option (List AV):=sE σ r fun d l=>bif am d 1021 then some l else none
def qR(l:aa)(k:Nat)(w:ac):Option Bool:=ob (jN l k) fun o=>od o (fun t=>ob (pJ 2 t) fun v=>eg v fun s=>some (dp s w)) (some false)
def Ri(l:aa)(k:Nat)(w:ac):Option Bool:=ob (jN l k) fun o=>ob o fun t=>ob (pJ 1 t) fun v=>eg v fun s=>some (dp s w)
def vT(l:aa)(k:Nat)(w s:ac):Option Bool:=ob (qR l k w) fun b=>bif b then Ri l k s else some false
def DY(l:aa)(k:Nat)(ws:List (List Nat)):Option Bool:=bt (motive:=fun _=>Nat->Option Bool) (fun _=>some true) (fun w _ ih k=>ob (vT l k uU w) fun b=>bif b then ih (k+1)else some false) ws k
noncomputable def okW(w:ac):Bool:=dj w.length&&dj (dw 32 [] w).length
def acM{β:Type}(l:aa)(f:Nat->Option β):Option β:=bt (motive:=fun _=>Option β) (f 0) (fun a r _=>bt (motive:=fun _=>Option β) (m7 a f) (fun _ _ _=>none) r) l
@[elab_as_elim] theorem aaW {β:Type} {Q:List AV->Prop} {l:aa} {f:Nat->Option β} {r:β} (h:acM l f=some r) (k0:f 0=some r->Q []) (k1: ∀k,f k=some r->Q [.int (.ofNat k)]):Q l:=by
 cases l with
 |nil=>exact k0 h
 |cons a l=>cases l with
  |nil=>exact lz h k1
  |cons=>exact nn h
def self{β:Type}(args:aa)(σ:AS)(f:Nat->List AV->List AV->Option β):Option β:=rk args fun a as=>iw a fun r=>ob (rd σ r) fun l=>f r as l
theorem ajN{σ:AS}{r:Nat}{l:aa}(h:rd σ r=some l):σ.get r=some (.orc 1021 l):=Ga h fun d l' e h=>kS h fun q h=>by
 rw[e,aD q];exact congrArg (fun l=>some (bJ.orc 1021 l)) (aI h)
@[elab_as_elim] theorem n6 {β:Type} {Q:List AV->Prop} {args:aa} {σ:AS} {f:Nat->List AV->List AV->Option β} {x:β} (h:self args σ f=some x) (k: ∀r as l,σ.get r=some (.orc 1021 l)->f r as l=some x->Q (.ref r::as)):Q args:=
 kP h fun a as h=>iD (Q:=fun a=>Q (a::as)) h fun r h=>oE h fun l hl h=>k r as l (ajN hl) h
def Lc{β:Type}(l:aa)(x:Option β):Option β:=bt (motive:=fun _=>Option β) x (fun _ _ _=>none) l
@[elab_as_elim] theorem Aw {β:Type} {Q:List AV->Prop} {l:aa} {x:Option β} {r:β} (h:Lc l x=some r) (k:x=some r->Q []):Q l:=by
 cases l with
 |nil=>exact k h
 |cons a l=>exact nn h
def Q0{β:Type}(l:aa)(f:List Nat->List AV->Option β):Option β:=rk l fun a r=>eg a fun s=>f s r
@[elab_as_elim] theorem Lv {β:Type} {Q:List AV->Prop} {l:aa} {f:List Nat->List AV->Option β} {r:β} (h:Q0 l f=some r) (k: ∀s m,f s m=some r->Q (.str s::m)):Q l:=
 kP h fun a m h=>fh (Q:=fun a=>Q (a::m)) h fun s h=>k s m h
def IC:aW:=fun args σ=>self args σ fun _ as l=>acM as fun k=>ob (jN l k) fun o=>some (od o some (some .none)|>.getD .none,σ)
def SK:aW:=fun args σ=>self args σ fun _ as l=>Q0 as fun _ bs=>Lc bs (ob (jN l 0) fun o=>ob o fun t=>ob (pJ 4 t) fun _=>some (.opq,σ))
def vD:aW:=fun args σ=>self args σ fun _ as l=>Lc as (ob (jN l 0) fun o=>od o (fun _=>some (.bool false,σ)) (some (.bool true,σ)))
def WG:aW:=fun args σ=>self args σ fun r as l=>Lc as (ob (jN l 0) fun o=>ob o fun t=>ob (rV l 1) fun l'=>some (t,σ.set r (.orc 1021 l')))
def ajS(o:Option Bool)(σ:AS):Option (AV×AS):=ob o fun b=>some (.bool b,σ)
def LX:aW:=fun args σ=>self args σ fun _ as l=>Q0 as fun w bs=>acM bs fun k=>ajS (qR l k w) σ
def LY:aW:=fun args σ=>self args σ fun _ as l=>Q0 as fun w bs=>acM bs fun k=>ajS (vT l k jp w) σ
def LZ:aW:=fun args σ=>self args σ fun _ as l=>Q0 as fun w bs=>Lc bs (bif okW w then ajS (DY l 0 (dw 32 [] w)) ⟨σ.next+1,σ.cells⟩else none)
def WF:aW:=fun args σ=>self args σ fun r as l=>Q0 as fun w bs=>Lc bs (bif okW w then ob (DY l 0 (dw 32 [] w)) (fun b=>bif b then ob (rV l (dw 32 [] w).length) (fun l'=>some (.bool true,⟨σ.next+2,lE r (.orc 1021 l') σ.cells⟩))else some (.bool false,⟨σ.next+1,σ.cells⟩))else none)
def FI:aW:=fun args σ=>self args σ fun r as l=>Q0 as fun w bs=>Lc bs (ob (vT l 0 jp w) fun b=>bif b then ob (rV l 1) (fun l'=>some (.bool true,σ.set r (.orc 1021 l')))else some (.bool false,σ))
def uF(F:aW)(args:aa):Option AV:=bif aN args then bA (F args ⟨0,[]⟩) (fun a _=>bif noRef a then some a else none)else none
def wR(F:aW):aW:=fun args σ=>ob (uF F args) fun a=>some (a,σ)
noncomputable def U8{β:Type}(a:AV)(x:Option β):Option β:=match a with
 | .bool b=>bif b then x else none
 |_=>none
theorem afY{β:Type}{a:AV}{x:Option β}{r:β}{P:Prop}(h:U8 a x=some r)(k:a= .bool true->x=some r->P):P:=by
 cases a with
 |bool b=>exact kS h fun hb h=>k (congrArg _ hb) h
 |_=>exact nn h
noncomputable def Xf{β:Type}(a:AV)(f:List UInt8->Option β):Option β:=match a with
 | .bytes b=>f b
 |_=>none
theorem adp{β:Type}{a:AV}{f:List UInt8->Option β}{r:β}{P:Prop}(h:Xf a f=some r)(k: ∀b,a= .bytes b->f b=some r->P):P:=by
 cases a with
 |bytes b=>exact k b rfl h
 |_=>exact nn h
def Wk{β:Type}(l:aa)(w:ac)(f:AV->List AV->Option β):Option β:=ob (qR l 0 w) fun b=>bif b then ob (jN l 0) (fun o=>ob o fun t=>ob (pJ 1 t) fun v=>ob (rV l 1) fun l'=>f v l')else none
def SL(dec isw who:aW):aW:=fun args σ=>self args σ fun r as l=>Lc as (Wk l pY fun w l'=>ob (uF dec [w]) fun d=>ob (uF isw [d]) fun b=>U8 b (ob (uF who [d]) fun n=>some (n,σ.set r (.orc 1021 l'))))
def OD(oct:aW):aW:=fun args σ=>self args σ fun r as l=>Lc as (Wk l YO fun w l'=>ob (uF oct [w]) fun v=>Xf v fun b=>some (.bytes b,σ.set r (.orc 1021 l')))
noncomputable def xpA(mac:List Nat->List AV)(a:AV)(r:aa):List AV:=match a with
 | .frz c ks _=>bif am c 0 then mac ks++r else a::r
 |_=>a::r
noncomputable def xp(mac:List Nat->List AV):List AV->List AV
 |[]=>[]
 |a::r=>xpA mac a (xp mac r)
def EN:List AV->Bool
 |[]=>true
 |t::_=>(ob (pJ 2 t) fun v=>eg v fun w=>some (!dp w pY)).getD false
def H3(a:AV):Bool:=(mZ a fun c ks _=>some (am c 0&&CT ks)).getD false
noncomputable def vp(mac:List Nat->List AV):List AV->Prop
 |[]=>True
 |a::r=>(H3 a=true->EN (xp mac r)=true)/\vp mac r
noncomputable def cY(L:aa)(m:Nat):bJ:=.inst 1021 [38,4,37,36] [.lst L,.int (.ofNat m),.opq,.opq]
def lT(mac:List Nat->List AV)(l:aa)(c:bJ):Prop:=vp mac l/\ ∃pre,dj (pre.length+(xp mac l).length)=true/\aN pre=true/\aN (xp mac l)=true/\c=cY (pre++xp mac l) pre.length
noncomputable def cH:List Nat->Int->Prop
 |m::d::r,b=>0<m/\b.fmod (ai m)=ai d/\cH r (b.fdiv (ai m))
 |_,_=>True
noncomputable def xb(bx:List Nat->List AV->List Nat):List AV->List Nat
 |[]=>[]
 |a::r=>match a with
  | .frz _ ks vs=>bx ks vs++xb bx r
  |_=>[]
def agx(bx:List Nat->List AV->List Nat)(VB:AV->Prop)(l:aa)(c:bJ):Prop:=(∀a∈l,VB a)/\ ∃b,c= .lst [.int b]/\cH (xb bx l) b
section
variable{mac:List Nat->List AV}
theorem Mi(r:aa):rV r 0=some r:=by cases r<;>rfl
theorem E0{c:Nat}{ks:ac}{vs:aa}(r:aa):xp mac (.frz c ks vs::r)=bif am c 0 then mac ks++xp mac r else .frz c ks vs::xp mac r:=rfl
theorem Qi{l:ac}(h:CT l=true):l=[]:=by
 cases l with
 |nil=>rfl
 |cons=>exact ff h
theorem Rf(h0:mac []=[]){l:aa}: ∀{k:Nat} {o:Option AV},jN l k=some o->(xp mac l)[k]? =o:=by
 induction l with
 |nil=>exact fun e=>s1 (P:=fun o=>none=o) e rfl
 |cons a r ih=>
  intro k o e
  refine td (Q:=fun a'=>a'=a->(xp mac (a'::r))[k]? =o) e (fun c ks vs e ha=> ?_) rfl
  rw[E0]
  refine bE e (fun q e=> ?_) fun q e=> ?_
  ·rw[q]
   refine kS e fun q e=> ?_
   rw[Qi q,af,h0];exact ih e
  ·rw[q]
   cases k with
   |zero=>exact s1 (P:=fun o=>(bif false then mac ks++xp mac r else AV.frz c ks vs::xp mac r)[0]? =o) e (congrArg some ha)
   |succ j=>exact ih e
theorem adC(h0:mac []=[]){l:aa}: ∀{j:Nat} {l':aa},vp mac l->rV l j=some l'->xp mac l'=(xp mac l).drop j/\j<=(xp mac l).length/\vp mac l':=by
 induction l with
 |nil=>
  intro j l' w e
  cases j with
  |zero=>exact s1 (P:=fun l'=>xp mac l'=[]/\0<=0/\vp mac l') e ⟨rfl,ax _,w⟩
  |succ j=>exact nn e
 |cons a r ih=>
  intro j l' w e
  cases j with
  |zero=>exact s1 (P:=fun l'=>xp mac l'=xp mac (a::r)/\0<=(xp mac (a::r)).length/\vp mac l') e ⟨rfl,aS _,w⟩
  |succ j=>
   refine td (Q:=fun a'=>xp mac l'=(xp mac (a'::r)).drop (j+1)/\j+1<=(xp mac (a'::r)).length/\vp mac l') e fun c ks vs e=> ?_
   rw[E0]
   refine bE e (fun q e=> ?_) fun q e=> ?_
   ·rw[q]
    refine kS e fun q e=> ?_
    rw[Qi q,af,h0];exact ih w.2 e
   ·rw[q]
    have e:rV r j=some l':=by
     cases j with
     |zero=>rw[Mi];exact e
     |succ j=>exact e
    have:=ih w.2 e
    exact⟨this.1,be this.2.1,this.2.2⟩
end
def PZ(sel:Nat->Bool)(n:Nat)(a:AV)(σ:AS):AV×AS:=(iw a fun x=>CS σ x fun c ks vs=>some (pr (TM sel (ur sel n) ks vs (σ.drop x)) fun vs' aj=>(AV.ref x,(⟨aj.next,(x,.inst c ks vs')::aj.cells⟩:AS)))).getD (a,σ)
def Jv(g:AV->AS->AV×AS)(F:aW):aW:=fun args σ=>bA (F args σ) fun a aj=>some (g a aj)
noncomputable def dk(l:aa):Bool:=l.all fun a=>(mZ a fun c _ _=>some (!am c 0)).getD false
noncomputable def afW{β:Type}(a:AV)(f:List AV->Option β):Option β:=match a with
 | .lst l=>f l
 |_=>none
@[elab_as_elim] theorem alO {β:Type} {a:AV} {Q:AV->Prop} {f:List AV->Option β} {r:β} (h:afW a f=some r) (k: ∀l,f l=some r->Q (.lst l)):Q a:=by
 cases a with
 |lst l=>exact k l h
 |_=>exact nn h
def aaw(vs:aa):Option (List AV):=rk vs fun a r=>rk r fun b r=>afW a fun L=>m7 b fun n=>bif am n 0 then vR r (fun _ _=>some L)else none
def anX(F:aW):aW:=fun args σ=>bA (F args σ) fun a ay=>iw a fun x=>CS ay x fun c ks vs=>bif am c 1021&&dp ks [38,4,37,36]then ob (aaw vs) (fun L=>bif dj L.length&&aN L&&dk L then some (.ref x,ay.set x (.orc 1021 L))else none)else none
def drA{β:Type}(a:AV)(f:Nat->Nat->Option β):Option β:=mZ a fun _ ks _=>rk ks fun m r=>rk r fun d r=>bif CT r then f m d else none
def BF:aW:=fun args σ=>vR args fun a b=>iw a fun x=>m7 b fun m=>sE σ x fun k l=>bif am k 0 then rk l (fun t r=>drA t fun m' d=>bif am m m'&&bc m 1000 then some (.int (.ofNat d),σ.set x (.orc 0 r))else none)else none
def af6(path:Int->List AV)(F:aW):aW:=fun args σ=>pV args fun a=>iw a fun x=>nw σ x fun l=>pV l fun v=>fe v fun b=>F [.ref x] (σ.set x (.orc 0 (path b)))
def anS(c:Nat)(F:aW):gW:=fun a σ=>iw a fun x=>sE σ x fun d _=>bif am c d then some F else none
noncomputable def cq:Nat:=680
noncomputable def nF:Nat:=633
noncomputable def lR:Nat:=605
noncomputable def Vf:Nat:=204
noncomputable def ZO:Nat:=706
noncomputable def names:List (List Nat):=[[70,49,45,82,69,67],
 [79,76,68,45,82,69,67],
 [87],
 [86,45,49],
 [65,82,71],
 [70,49,45,82,69,67,45,71],
 [79,76,68,45,82,69,67,45,71],
 [87,45,71],
 [86,45,49,45,71],
 [65,82,71,45,71],
 [70,73,76,76,69,82],
 [70,49,45,82,69,67,45,66],
 [79,76,68,45,82,69,67,45,66],
 [87,45,66],
 [86,45,49,45,66],
 [65,82,71,45,66],
 [76,79,87],
 [70,49,45,82,69,67,45,82],
 [79,76,68,45,82,69,67,45,82],
 [87,45,82],
 [86,45,49,45,82],
 [65,82,71,45,82],
 [72,73,71,72,45,79,78,69]]
def nm(i:Nat):List Nat:=(HH names i).getD []
noncomputable def i5:List (Nat×Nat×Nat):=[(0,0,3),(0,1,3),(0,2,3),(0,3,3),(1,0,3),(1,1,3),(1,2,3),(1,3,3),(2,0,3),(2,1,3),(2,2,3),(2,3,3),(3,0,3),(3,1,3),(3,2,3),(3,3,3),(4,0,3),(4,1,3),(4,2,3),(4,3,3),(0,0,0),(0,0,1),(0,0,2),(0,1,0),(0,1,1),(0,1,2),(0,2,0),(0,2,1),(0,2,2),(0,3,0),(0,3,1),(0,3,2),(1,0,0),(1,0,1),(1,0,2),(1,1,0),(1,1,1),(1,1,2),(1,2,0),(1,2,1),(1,2,2),(1,3,0),(1,3,1),(1,3,2)]
noncomputable def dK:List (Nat×Nat×Nat):=[(5,0,3),(5,1,3),(5,2,3),(5,3,3),(6,0,3),(6,1,3),(6,2,3),(6,3,3),(7,0,3),(7,1,3),(7,2,3),(7,3,3),(8,0,3),(8,1,3),(8,2,3),(8,3,3),(9,0,3),(9,1,3),(9,2,3),(9,3,3),(10,0,0),(10,0,1),(10,0,2),(10,1,0),(10,1,1),(10,1,2),(10,2,0),(10,2,1),(10,2,2),(10,3,0),(10,3,1),(10,3,2),(11,0,0),(11,0,1),(11,0,2),(11,1,0),(11,1,1),(11,1,2),(11,2,0),(11,2,1),(11,2,2),(11,3,0),(11,3,1),(11,3,2),(12,0,0),(12,0,1),(12,0,2),(12,1,0),(12,1,1),(12,1,2),(12,2,0),(12,2,1),(12,2,2),(12,3,0),(12,3,1),(12,3,2),(13,0,0),(13,0,1),(13,0,2),(13,1,0),(13,1,1),(13,1,2),(13,2,0),(13,2,1),(13,2,2),(13,3,0),(13,3,1),(13,3,2),(14,0,0),(14,0,1),(14,0,2),(14,1,0),(14,1,1),(14,1,2),(14,2,0),(14,2,1),(14,2,2),(14,3,0),(14,3,1),(14,3,2),(15,0,0),(15,0,1),(15,0,2),(15,1,0),(15,1,1),(15,1,2),(15,2,0),(15,2,1),(15,2,2),(15,3,0),(15,3,1),(15,3,2)]
noncomputable def sC:List (Nat×Nat×Nat):=[(16,0,0),(16,0,1),(16,0,2),(16,1,0),(16,1,1),(16,1,2),(16,2,0),(16,2,1),(16,2,2),(16,3,0),(16,3,1),(16,3,2)]
noncomputable def gK:List (Nat×Nat×Nat):=[(2,0,0),(2,0,1),(2,0,2),(2,1,0),(2,1,1),(2,1,2),(2,2,0),(2,2,1),(2,2,2),(2,3,0),(2,3,1),(2,3,2),(3,0,0),(3,0,1),(3,0,2),(3,1,0),(3,1,1),(3,1,2),(3,2,0),(3,2,1),(3,2,2),(3,3,0),(3,3,1),(3,3,2),(4,0,0),(4,0,1),(4,0,2),(4,1,0),(4,1,1),(4,1,2),(4,2,0),(4,2,1),(4,2,2),(4,3,0),(4,3,1),(4,3,2)]
noncomputable def kT(lvl:Nat):List (Nat×Nat×Nat):=bif am lvl 1 then i5 else bif am lvl 5 then dK else bif am lvl 10 then sC else gK
def kd(lvl i:Nat):Nat×Nat×Nat:=(HH (kT lvl) i).getD ((HH (kT lvl) 0).getD (0,0,3))
noncomputable def an5(w:Nat):List Nat:=bif am w 1 then[112,97,99,107,101,100]else[]
noncomputable def QC(w:Nat):AV:=bif am w 2 then .frz lR [8,9,7,6,5] [.int 3,.int 3,.none,.tup [.tup [.bool false,.str [75]]],.tup [.str [73,88]]]
 else bif am w 3 then .frz lR [8,9,7,6,5] [.int 0,.int 4,.tup [.str [114,101,102],.str [78],.tup [.str [71]],.tup [],.none],.tup [],.tup []]else .none
noncomputable def yb(p:Nat):AV:=bif am p 0 then .str [88,40,52,41]else bif am p 1 then .str [83,57,40,51,41,86,57,57]else bif am p 2 then .str [90,90,57,46,57,57]else .none
noncomputable def gn:List Nat:=[20,18,16,15,10,35,14,17,11,13,12,23,22,34,21,33,32,31,30]
def kh(x:Nat×Nat×Nat)(conds kids par ren:AV):List AV:=[.str (nm x.1),yb x.2.2,.str (an5 x.2.1),.str [],.bool false,QC x.2.1,.str [],.none,.bool false,.bool false,conds,kids,par,ren,.str [],.int 0,.int 0,.none]
def X3(lvl i:Nat)(conds kids par:AV):List AV:=.int (ai lvl)::kh (kd lvl i) conds kids par .none
def qt(n:Nat):AV:=.frz nF [18,19] [.str ([73,83,45]++nm n),.tup [.tup [.tup [.str [110,117,109,98,101,114],.tup [.int (-5),.int 0]],.tup [.str [110,117,109,98,101,114],.tup [.int 125,.int 2]]],.tup [.tup [.str [116,101,120,116],.bytes [113]],.none]]]
def yi(l:Nat):AV:=.tup [.str (nm 16),bif am l 0 then .none else .str (nm 22)]
def km(n l:Nat)(par:AV):List AV:=.int 66::[.str (nm n),.none,.str [],.str [],.bool false,.none,.str [],.none,.bool false,.bool false,.lst [],.lst [],par,yi l,.str [],.int 0,.int 0,.none]
noncomputable def nW(_:AV)(_:AS):List Nat:=[]
noncomputable def aa1(a:AV)(_:AS):List Nat:=(iw a fun x=>some [x]).getD []
def rfO(o:Option AV):Option Nat:=ob o fun a=>iw a some
def wQ(a:AV)(σ:AS):List Nat:=(iw a fun x=>CS σ x fun _ ks vs=>od (rfO (xW 22 ks vs)) (fun k=>od (rfO (xW 23 ks vs)) (fun c=>some [c,k,x]) (some [k,x])) (some [x])).getD []
noncomputable def acB{β:Type}(a:AV)(f:List Nat->Option β):Option β:=mZ a fun c ks _=>bif am c 0 then f ks else none
def aaL(σ:AS)(r:Nat)(l:aa)(cd:aa)(f:AV->AV->List AV):Option (AV×AS):=some (.ref (σ.next+2),⟨σ.next+3,(σ.next,.lst cd)::(σ.next+1,.lst [])::(σ.next+2,.inst cq gn (f (.ref σ.next) (.ref (σ.next+1))))::lE r (.orc 1021 l) σ.cells⟩)
def aiM(n:Nat)(a b:AV):List AV:=.int 88::[.str ([73,83,45]++nm n),.none,.str [],.str [],.bool false,.none,.str [],.none,.bool false,.bool false,a,b,.none,.none,.str [],.int 0,.int 0,.none]
def aje(n l:Nat)(a b:AV):List AV:=.int 66::[.str (nm n),.none,.str [],.str [],.bool false,.none,.str [],.none,.bool false,.bool false,a,b,.none,yi l,.str [],.int 0,.int 0,.none]
def ajO(σ:AS)(r:Nat)(l:aa)(m x y:Nat):Option (AV×AS):=bif am m 1 then aaL σ r l [] (fun a b=>X3 x y a b .none)else bif am m 2 then aaL σ r l [qt (kd x y).1] (aiM (kd x y).1)else bif am m 3 then aaL σ r l [] (aje (17+(kd 1 x).1) y)else none
def Lz{β:Type}(ks:ac)(f:Nat->Nat->Nat->Option β):Option β:=rk ks fun m ks=>rk ks fun x ks=>rk ks fun y ks=>bif CT ks then f m x y else none
def wD:aW:=fun args σ=>self args σ fun r as L=>Lc as (rk L fun t l=>acB t fun ks=>Lz ks (ajO σ r l))
noncomputable def aoP(σ:AS)(m:Nat):Option (AV×AS):=bif cJ 1 m&&cJ m 3 then some (.bool true,σ)else none
def qe:aW:=fun args σ=>self args σ fun _ as L=>Lc as (bt (motive:=fun _=>Option (AV×AS)) (some (.bool false,σ)) (fun t _ _=>acB t fun ks=>bif CT ks then some (.bool false,σ)else Lz ks fun m _ _=>aoP σ m) L)
structure Lf where
 i:Nat
 c:Bool
inductive Tn where
 |leaf(l:Lf)
 |grp(g a:Lf)
 |grp2(g a b:Lf)
structure Rt where
 lvl:Nat
 it:Lf
 ts:List Tn
 ren:Nat
noncomputable def Vk(c:Bool):Nat:=bif c then 1 else 0
noncomputable def XI(l:Lf):List Nat:=[l.i,Vk l.c]
noncomputable def Z8:Tn->List Nat
 | .leaf l=>0::XI l
 | .grp g a=>1::(XI g++XI a)
 | .grp2 g a b=>2::(XI g++XI a++XI b)
noncomputable def XJ(r:Rt):List Nat:=r.lvl::(XI r.it++r.ren::(r.ts.map Z8).flatten)
noncomputable def Ho(n:Nat):Bool:=am n 1
noncomputable def Vj:Nat->List Nat->List Tn
 |0,_=>[]
 |n+1,l=>match l with
  |0::i::c::r=>.leaf ⟨i,Ho c⟩::Vj n r
  |1::i::c::j::d::r=>.grp ⟨i,Ho c⟩ ⟨j,Ho d⟩::Vj n r
  |2::i::c::j::d::k::e::r=>.grp2 ⟨i,Ho c⟩ ⟨j,Ho d⟩ ⟨k,Ho e⟩::Vj n r
  |_=>[]
noncomputable def Bo(l:ac):Rt:=match l with
 |lvl::i::c::ren::r=>⟨lvl,⟨i,Ho c⟩,Vj 8 r,ren⟩
 |_=>⟨77,⟨0,false⟩,[],0⟩
theorem zo(c:Bool):Ho (Vk c)=c:=by cases c<;>rfl
theorem aca: ∀(ts:List Tn) (n:Nat),ts.length<=n->Vj n (ts.map Z8).flatten=ts
 |[],0,_=>rfl
 |[],n+1,_=>rfl
 |t::ts,n+1,h=>by
  have ih:=aca ts n (ni h)
  cases t with
  |leaf l=>
   show Tn.leaf ⟨l.i,Ho (Vk l.c)⟩::Vj n (ts.map Z8).flatten=_
   rw[ih,zo]
  |grp g a=>
   show Tn.grp ⟨g.i,Ho (Vk g.c)⟩ ⟨a.i,Ho (Vk a.c)⟩::Vj n (ts.map Z8).flatten=_
   rw[ih,zo,zo]
  |grp2 g a b=>
   show Tn.grp2 ⟨g.i,Ho (Vk g.c)⟩ ⟨a.i,Ho (Vk a.c)⟩ ⟨b.i,Ho (Vk b.c)⟩::Vj n (ts.map Z8).flatten=_
   rw[ih,zo,zo,zo]
theorem NV(r:Rt)(h:r.ts.length<=8):Bo (XJ r)=r:=by
 show(⟨r.lvl,⟨r.it.i,Ho (Vk r.it.c)⟩,Vj 8 (r.ts.map Z8).flatten,r.ren⟩:Rt)=r
 rw[aca _ _ h,zo]
noncomputable def e1(lvl i:Nat):AV:=.frz 0 [1,lvl,i] []
noncomputable def e2(lvl i:Nat):AV:=.frz 0 [2,lvl,i] []
noncomputable def e3(i l:Nat):AV:=.frz 0 [3,i,l] []
noncomputable def Y3:AV:=.frz 0 [] []
def ke(lvl:Nat)(l:Lf):Nat:=(kd lvl l.i).1
noncomputable def CH(lvl:Nat)(l:Lf):List AV:=e1 lvl l.i::(match l.c with
 |true=>[e2 lvl l.i]
 |false=>[])
noncomputable def agP:Tn->List AV
 | .leaf l=>CH 5 l
 | .grp g a=>CH 5 g++CH 10 a
 | .grp2 g a b=>CH 5 g++(CH 10 a++CH 10 b)
noncomputable def Vm:List Tn->List AV
 |[]=>[]
 |t::ts=>agP t++Vm ts
noncomputable def agO(r:Rt):List AV:=match r.ren with
 |0=>[]
 |l+1=>[e3 r.it.i l]
noncomputable def F3(r:Rt):List AV:=CH r.lvl r.it++(Vm r.ts++agO r)
def conds(lvl:Nat)(l:Lf):AV:=.lst (match l.c with
 |true=>[qt (ke lvl l)]
 |false=>[])
def oq(lvl:Nat)(l:Lf)(par:AV):AV:=.frz cq gn (X3 lvl l.i (conds lvl l) (.lst []) par)
def sQ:Tn->AV
 | .leaf l=>oq 5 l .opq
 | .grp g a=>.frz cq gn (X3 5 g.i (conds 5 g) (.lst [oq 10 a .opq]) .opq)
 | .grp2 g a b=>.frz cq gn (X3 5 g.i (conds 5 g) (.lst [oq 10 a .opq,oq 10 b .opq]) .opq)
noncomputable def DU:List Tn->List AV
 |[]=>[]
 |t::ts=>sQ t::DU ts
def qT(r:Rt):List AV:=match r.ren with
 |0=>[]
 |l+1=>[.frz cq gn (km (17+ke 1 r.it) l .opq)]
def Dx(r:Rt):List AV:=kh (kd r.lvl r.it.i) (conds r.lvl r.it) (.lst (DU r.ts++qT r)) .none .none
def eo(r:Rt):AV:=.frz cq gn (.int (ai r.lvl)::Dx r)
noncomputable def aj2(k:Nat):Bool:=am k 22||(am k 23||am k 34)
noncomputable def anZ(k:Nat):Bool:=am k 23
noncomputable def an0(k:Nat):Bool:=(cJ 24 k&&cJ k 27)||(am k 5||aj2 k)
def nA:aW:=fun args σ=>self args σ fun r as L=>Lc as (rk L fun t L=>rk L fun t' l=>bif H3 t' then acB t (fun ks=>rk ks fun m ks=>bif am m 4 then rk ks (fun lvl code=>some (.lst [.frz cq gn (.int (ai lvl)::Dx (Bo (lvl::code)))],σ.set r (.orc 1021 l)))else none)else none)
noncomputable def Jc(x:ac):List (List Nat)->Nat->Nat
 |[],i=>i
 |a::r,i=>bif dp a x then i else Jc x r (i+1)
noncomputable def nd(d:Nat):Nat:=bif am d 4 then 0 else d
noncomputable def Fz(lvl n w p:Nat):Nat:=bif am p 3 then(bif am lvl 1 then 4*n+w else 4*(n-5)+w)
 else bif am lvl 1 then 20+12*n+3*w+p else bif am lvl 5 then 20+12*(n-10)+3*w+p else bif am lvl 10 then 3*w+p else 12*(n-2)+3*w+p
noncomputable def CV(d:Nat):Bool:=am d 0
noncomputable def Qp(lvl n:Nat):Nat:=bif am lvl 77&&cJ n 1 then 1 else lvl
noncomputable def VP(lvl n:Nat):Bool:=(am lvl 1&&bc n 5)||(am lvl 5&&(cJ 5 n&&bc n 10))
noncomputable def VQ(lvl n:Nat):Bool:=(am lvl 77&&bc n 5)||((am lvl 5&&(cJ 10 n&&bc n 16))||(am lvl 10&&am n 16))
def abU{β:Type}(σ:AS)(x:Nat)(f:Nat->List Nat->List AV->Option β):Option β:=sE σ x fun k l=>bif am k 0 then rk l (fun t r=>mZ t fun _ ks _=>rk ks fun m ks=>f m ks r)else none
def aiL(σ:AS)(x:Nat)(r:aa)(lvl L:Nat)(f:Lf):Option (AV×AS):=some (.ref (σ.next+1),⟨σ.next+2,(σ.next,.lst [])::(σ.next+1,.inst cq gn (.int (ai lvl)::kh (kd L f.i) (conds L f) (.ref σ.next) .none .none))::lE x (.orc 0 r) σ.cells⟩)
def aqC(σ:AS)(x lvl:Nat)(s:ac)(n:Nat):Option (AV×AS):=bif dp (nm n) s&&VP lvl n then abU σ x (fun m ks r=>bif am m 5 then rk ks (fun d ks=>rk ks fun e ks=>bif CT ks then aiL σ x r lvl lvl ⟨Fz lvl n (nd d) 3,CV e⟩else none)else none)else none
def BG:aW:=fun args σ=>S3 args fun a b d=>iw a fun x=>m7 b fun lvl=>eg d fun s=>aqC σ x lvl s (Jc s names 0)
def aqD(σ:AS)(x lvl:Nat)(s:ac)(n L:Nat):Option (AV×AS):=bif dp (nm n) s&&VQ lvl n then abU σ x (fun m ks r=>bif am m 6 then Lz ks (fun d e p=>aiL σ x r lvl L ⟨Fz L n (nd d) p,CV e⟩)else none)else none
def BH:aW:=fun args σ=>S3 args fun a b d=>iw a fun x=>m7 b fun lvl=>eg d fun s=>aqD σ x lvl s (Jc s names 0) (Qp lvl (Jc s names 0))
def BP:aW:=fun args σ=>vR args fun a d=>iw a fun x=>eg d fun s=>abU σ x fun m ks r=>bif am m 9 then rk ks (fun n ks=>rk ks fun lv code=>bif dp (nm n) s then some (.ref σ.next,⟨σ.next+1,(σ.next,.inst cq gn (.int (ai lv)::Dx (Bo code)))::lE x (.orc 0 r) σ.cells⟩)else none)else none
structure LD where
 d:Nat
 e:Nat
 p:Nat
inductive TD where
 |leaf(z nb:Nat)(l:LD)
 |grp(d e:Nat)(a:LD)
 |grp2(d e:Nat)(a b:LD)
inductive RD where
 |alone(l:LD)
 |std(a d e:Nat)(ts:List TD)(q:Nat)
 |recR(a d e:Nat)(ts:List TD)(l:Nat)
noncomputable def Qq(l:LD):List Nat:=[5,l.d,4,l.e,3,l.p]
noncomputable def tdD:TD->List Nat
 | .leaf z nb l=>3::(z+1)::2::nb::Qq l
 | .grp d e a=>3::0::5::d::4::e::2::0::Qq a
 | .grp2 d e a b=>3::0::5::d::4::e::2::1::(Qq a++Qq b)
noncomputable def A1:List TD->List Nat
 |[]=>[]
 |t::ts=>tdD t++A1 ts
noncomputable def JB:RD->List Nat
 | .alone l=>4::0::Qq l
 | .std a d e ts q=>4::(a+1)::5::d::4::e::3::ts.length::(A1 ts++[4,q+1])
 | .recR a d e ts l=>4::(a+1)::5::d::4::e::3::ts.length::(A1 ts++[4,0,2,l])
noncomputable def m2(m d:Nat):AV:=.frz 0 [m,d] []
noncomputable def m5(d e:Nat):AV:=.frz 0 [5,d,e] []
noncomputable def m6(l:LD):AV:=.frz 0 [6,l.d,l.e,l.p] []
noncomputable def tdM:TD->List AV
 | .leaf z nb l=>[m2 3 (z+1),m2 2 nb,m6 l]
 | .grp d e a=>[m2 3 0,m5 d e,m2 2 0,m6 a]
 | .grp2 d e a b=>[m2 3 0,m5 d e,m2 2 1,m6 a,m6 b]
noncomputable def MJ:List TD->List AV
 |[]=>[]
 |t::ts=>tdM t++MJ ts
noncomputable def rdM:RD->List AV
 | .alone l=>[m2 4 0,m6 l]
 | .std a d e ts q=>m2 4 (a+1)::m5 d e::m2 3 ts.length::(MJ ts++[m2 4 (q+1)])
 | .recR a d e ts l=>m2 4 (a+1)::m5 d e::m2 3 ts.length::(MJ ts++[m2 4 0,m2 2 l])
noncomputable def TH(lvl n:Nat)(l:LD):Lf:=⟨Fz lvl n (nd l.d) l.p,CV l.e⟩
noncomputable def acw(lvl n d e:Nat):Lf:=⟨Fz lvl n (nd d) 3,CV e⟩
noncomputable def arh(n:Nat):TD->Tn
 | .leaf _ nb l=>.leaf (TH 5 (match nb with
  |0=>10
  |_=>11+n) l)
 | .grp d e a=>.grp (acw 5 (5+n) d e) (TH 10 16 a)
 | .grp2 d e a b=>.grp2 (acw 5 (5+n) d e) (TH 10 16 a) (TH 10 16 b)
noncomputable def H6(n:Nat):List TD->List Tn
 |[]=>[]
 |t::ts=>arh n t::H6 n ts
noncomputable def jD(n:Nat):RD->Rt
 | .alone l=>⟨Qp 77 n,TH (Qp 77 n) n l,[],0⟩
 | .std _ d e ts _=>⟨1,acw 1 n d e,H6 n ts,0⟩
 | .recR _ d e ts l=>⟨1,acw 1 n d e,H6 n ts,l+1⟩
noncomputable def Si:RD->Nat
 | .alone _=>77
 |_=>1
def Ay:TD->Prop
 | .leaf _ nb _=>nb<2
 |_=>True
def Dc:RD->Prop
 | .alone _=>True
 | .std _ _ _ ts _=>ts.length<=2/\ ∀t∈ts,Ay t
 | .recR _ _ _ ts l=>ts.length<=2/\(∀t∈ts,Ay t)/\l<2
noncomputable def m9(n:Nat)(rd:RD):AV:=.frz 0 (9::n::Si rd::XJ (jD n rd)) [.frz 0 (JB rd) []]
noncomputable def bx(ks:ac)(vs:aa):List Nat:=match ks with
 |[m,d]=>[m,d]
 |[5,d,e]=>[5,d,4,e]
 |[6,d,e,p]=>[5,d,4,e,3,p]
 |9::_=>(match vs with
  |[.frz _ raw _]=>raw
  |_=>[])
 |_=>[]
def VB(a:AV):Prop:=match a with
 | .frz _ (9::r) _=> ∃n rd,a=m9 n rd/\n<5/\Dc rd
 |_=>True
noncomputable def ia(m:Nat)(b:Int):Nat:=(b.fmod (ai m)).toNat
noncomputable def bV(m:Nat)(b:Int):Int:=b.fdiv (ai m)
theorem jR{m:Nat}(hm:0<m){b:Int}{r:ac}(h:cH r (bV m b)):cH (m::ia m b::r) b:=by
 refine⟨hm,?_,h⟩
 have:0<=b.fmod (ai m):=ng b (by simpa using hm)
 unfold ia
 exact(Bh this).symm
theorem je{m d:Nat}(hm:0<m){b:Int}{r:ac}(hd:ia m b=d)(h:cH r (bV m b)):cH (m::d::r) b:=hd▸jR hm h
theorem mx{m:Nat}(hm:0<m)(b:Int):ia m b<m:=by
 have h1:b.fmod (ai m)<ai m:=q8 b (by simpa using hm)
 have h0:0<=b.fmod (ai m):=ng b (by simpa using hm)
 unfold ia
 have:=Bh h0
 have h2:(ai m)=(m:Int):=rfl
 omega
noncomputable def ldP(b:Int):LD:=⟨ia 5 b,ia 4 (bV 5 b),ia 3 (bV 4 (bV 5 b))⟩
noncomputable def ldN(b:Int):Int:=bV 3 (bV 4 (bV 5 b))
theorem Qr{b:Int}{r:ac}(h:cH r (ldN b)):cH (Qq (ldP b)++r) b:=
 jR (by decide) (jR (by decide) (jR (by decide) h))
noncomputable def Sr(b:Int):TD×Int:=match ia 3 b with
 |z+1=>(.leaf z (ia 2 (bV 3 b)) (ldP (bV 2 (bV 3 b))),ldN (bV 2 (bV 3 b)))
 |0=>match ia 2 (bV 4 (bV 5 (bV 3 b)))with
  |0=>(.grp (ia 5 (bV 3 b)) (ia 4 (bV 5 (bV 3 b))) (ldP (bV 2 (bV 4 (bV 5 (bV 3 b))))),ldN (bV 2 (bV 4 (bV 5 (bV 3 b)))))
  |_+1=>(.grp2 (ia 5 (bV 3 b)) (ia 4 (bV 5 (bV 3 b))) (ldP (bV 2 (bV 4 (bV 5 (bV 3 b))))) (ldP (ldN (bV 2 (bV 4 (bV 5 (bV 3 b)))))),ldN (ldN (bV 2 (bV 4 (bV 5 (bV 3 b))))))
theorem apZ{b:Int}{r:ac}(h:cH r (Sr b).2):cH (tdD (Sr b).1++r) b/\Ay (Sr b).1:=by
 unfold Sr at h ⊢
 split at h
 ·rename_i z hz
  refine⟨?_,mx (by decide) _⟩
  show cH (3::(z+1)::2::_::(Qq _++r)) b
  exact je (by decide) hz (jR (by decide) (Qr h))
 ·rename_i hz
  split at h
  ·rename_i hk
   refine⟨?_,trivial⟩
   show cH (3::0::5::_::4::_::2::0::(Qq _++r)) b
   refine je (by decide) hz (jR (by decide) (jR (by decide) ?_))
   exact je (by decide) hk (Qr h)
  ·rename_i n hk
   have hn:n=0:=by
    have:=mx (m:=2) (by decide) (bV 4 (bV 5 (bV 3 b)))
    omega
   subst hn
   refine⟨?_,trivial⟩
   show cH (3::0::5::_::4::_::2::1::((Qq _++Qq _)++r)) b
   refine je (by decide) hz (jR (by decide) (jR (by decide) ?_))
   refine je (by decide) hk ?_
   rw[aB]
   exact Qr (Qr h)
noncomputable def sP:Nat->Int->List TD×Int
 |0,b=>([],b)
 |n+1,b=>((Sr b).1::(sP n (Sr b).2).1,(sP n (Sr b).2).2)
theorem Wg: ∀(n:Nat) {b:Int} {r:ac},cH r (sP n b).2->cH (A1 (sP n b).1++r) b/\(sP n b).1.length=n/\ ∀t∈(sP n b).1,Ay t
 |0,b,r,h=>⟨h,rfl,fun _ ht=>by cases ht⟩
 |n+1,b,r,h=>by
  obtain⟨h1,h2,h3⟩:=Wg n (b:=(Sr b).2) h
  obtain⟨h4,h5⟩:=apZ h1
  refine⟨?_,congrArg kq h2,fun t ht=> ?_⟩
  ·show cH ((tdD (Sr b).1++A1 (sP n (Sr b).2).1)++r) b
   rw[aB];exact h4
  ·rcases aH.mp ht with rfl|ht
   ·exact h5
   ·exact h3 t ht
noncomputable def Bp(b:Int):RD×Int:=match ia 4 b with
 |0=>(.alone (ldP (bV 4 b)),ldN (bV 4 b))
 |a+1=>match sP (ia 3 (bV 4 (bV 5 (bV 4 b)))) (bV 3 (bV 4 (bV 5 (bV 4 b))))with
  |(ts,b')=>match ia 4 b' with
   |0=>(.recR a (ia 5 (bV 4 b)) (ia 4 (bV 5 (bV 4 b))) ts (ia 2 (bV 4 b')),bV 2 (bV 4 b'))
   |q+1=>(.std a (ia 5 (bV 4 b)) (ia 4 (bV 5 (bV 4 b))) ts q,bV 4 b')
theorem Ll{b:Int}{r:ac}(h:cH r (Bp b).2):cH (JB (Bp b).1++r) b/\Dc (Bp b).1:=by
 unfold Bp at h ⊢
 split at h
 ·rename_i hz
  refine⟨?_,trivial⟩
  show cH (4::0::(Qq _++r)) b
  exact je (by decide) hz (Qr h)
 ·rename_i a hz
  have key: ∀r',cH r' (sP (ia 3 (bV 4 (bV 5 (bV 4 b)))) (bV 3 (bV 4 (bV 5 (bV 4 b))))).2->cH (4::(a+1)::5::ia 5 (bV 4 b)::4::ia 4 (bV 5 (bV 4 b))::3::(sP (ia 3 (bV 4 (bV 5 (bV 4 b)))) (bV 3 (bV 4 (bV 5 (bV 4 b))))).1.length::(A1 (sP (ia 3 (bV 4 (bV 5 (bV 4 b)))) (bV 3 (bV 4 (bV 5 (bV 4 b))))).1++r')) b:=fun r' h'=>by
   obtain⟨h1,h2,h3⟩:=Wg _ h'
   rw[h2]
   exact je (by decide) hz (jR (by decide) (jR (by decide) (jR (by decide) h1)))
  have lens:(sP (ia 3 (bV 4 (bV 5 (bV 4 b)))) (bV 3 (bV 4 (bV 5 (bV 4 b))))).1.length <=2/\ ∀t∈(sP (ia 3 (bV 4 (bV 5 (bV 4 b)))) (bV 3 (bV 4 (bV 5 (bV 4 b))))).1,Ay t:=by
   obtain⟨_,h2,h3⟩:=Wg (ia 3 (bV 4 (bV 5 (bV 4 b)))) (b:=bV 3 (bV 4 (bV 5 (bV 4 b)))) (r:=[]) trivial
   exact⟨by rw[h2];have:=mx (m:=3) (by decide) (bV 4 (bV 5 (bV 4 b)));omega,h3⟩
  generalize sP (ia 3 (bV 4 (bV 5 (bV 4 b)))) (bV 3 (bV 4 (bV 5 (bV 4 b))))=p at h key lens ⊢
  obtain⟨ts,b'⟩:=p
  dsimp only at h key lens ⊢
  split at h
  ·rename_i hq
   refine⟨?_,lens.1,lens.2,mx (by decide) _⟩
   show cH (4::(a+1)::5::_::4::_::3::ts.length::((A1 ts++[4,0,2,_])++r)) b
   rw[aB]
   refine key _ ?_
   show cH (4::0::2::_::r) b'
   exact je (by decide) hq (jR (by decide) h)
  ·rename_i q hq
   refine⟨?_,lens.1,lens.2⟩
   show cH (4::(a+1)::5::_::4::_::3::ts.length::((A1 ts++[4,q+1])++r)) b
   rw[aB]
   refine key _ ?_
   show cH (4::(q+1)::r) b'
   exact je (by decide) hq h
inductive FD where
 |none
 |one(o:Bool)(rd:RD)(s:Nat)
inductive WD where
 |none
 |one(v:Bool)(rd:RD)
structure DD where
 f:FD
 w:WD
 l:RD
 k:Nat
noncomputable def fnI(o:Bool):Nat:=match o with
 |true=>1
 |false=>0
noncomputable def wnI(v:Bool):Nat:=match v with
 |true=>3
 |false=>2
noncomputable def fdM:FD->List AV
 | .none=>[m2 3 1]
 | .one o rd s=>[m2 3 (match o with
  |true=>2
  |false=>0),m9 (fnI o) rd,m2 2 s]
noncomputable def wdM:WD->List AV
 | .none=>[m2 3 2]
 | .one v rd=>[m2 3 (match v with
  |true=>1
  |false=>0),m9 (wnI v) rd]
noncomputable def ddM(x:DD):List AV:=fdM x.f++(wdM x.w++[m9 4 x.l,m2 2 x.k])
noncomputable def I8(b:Int):FD×Int:=match ia 3 b with
 |0=>(.one false (Bp (bV 3 b)).1 (ia 2 (Bp (bV 3 b)).2),bV 2 (Bp (bV 3 b)).2)
 |1=>(.none,bV 3 b)
 |_=>(.one true (Bp (bV 3 b)).1 (ia 2 (Bp (bV 3 b)).2),bV 2 (Bp (bV 3 b)).2)
noncomputable def Rg(b:Int):WD×Int:=match ia 3 b with
 |0=>(.one false (Bp (bV 3 b)).1,(Bp (bV 3 b)).2)
 |1=>(.one true (Bp (bV 3 b)).1,(Bp (bV 3 b)).2)
 |_=>(.none,bV 3 b)
noncomputable def PJ(b:Int):DD:=⟨(I8 b).1,(Rg (I8 b).2).1,(Bp (Rg (I8 b).2).2).1,ia 2 (Bp (Rg (I8 b).2).2).2⟩
def anV:FD->Prop
 | .none=>True
 | .one _ rd s=>Dc rd/\s<2
def anW:WD->Prop
 | .none=>True
 | .one _ rd=>Dc rd
def anU(x:DD):Prop:=anV x.f/\anW x.w/\Dc x.l/\x.k<2
noncomputable def zA(b:Int):List AV:=ddM (PJ b)
theorem aoE{b:Int}{l:aa}(h:cH (xb bx l) (I8 b).2):cH (xb bx (fdM (I8 b).1++l)) b/\anV (I8 b).1:=by
 unfold I8 at h ⊢
 have h3:=mx (m:=3) (by decide) b
 split at h
 ·rename_i hz
  obtain⟨h1,h2⟩:=Ll (jR (m:=2) (by decide) h)
  refine⟨?_,h2,mx (by decide) _⟩
  show cH (3::0::(JB _++2::_::xb bx l)) b
  exact je (by decide) hz h1
 ·rename_i hz
  refine⟨?_,trivial⟩
  show cH (3::1::xb bx l) b
  exact je (by decide) hz h
 ·rename_i n0 n1
  have e0: ¬ia 3 b=0:=n0
  have e1: ¬ia 3 b=1:=n1
  have hz:ia 3 b=2:=by omega
  obtain⟨h1,h2⟩:=Ll (jR (m:=2) (by decide) h)
  refine⟨?_,h2,mx (by decide) _⟩
  show cH (3::2::(JB _++2::_::xb bx l)) b
  exact je (by decide) hz h1
theorem ap5{b:Int}{l:aa}(h:cH (xb bx l) (Rg b).2):cH (xb bx (wdM (Rg b).1++l)) b/\anW (Rg b).1:=by
 unfold Rg at h ⊢
 have h3:=mx (m:=3) (by decide) b
 split at h
 ·rename_i hz
  obtain⟨h1,h2⟩:=Ll h
  refine⟨?_,h2⟩
  show cH (3::0::(JB _++xb bx l)) b
  exact je (by decide) hz h1
 ·rename_i hz
  obtain⟨h1,h2⟩:=Ll h
  refine⟨?_,h2⟩
  show cH (3::1::(JB _++xb bx l)) b
  exact je (by decide) hz h1
 ·rename_i n0 n1
  have e0: ¬ia 3 b=0:=n0
  have e1: ¬ia 3 b=1:=n1
  have hz:ia 3 b=2:=by omega
  refine⟨?_,trivial⟩
  show cH (3::2::xb bx l) b
  exact je (by decide) hz h
theorem aaG{n:Nat}{rd:RD}(hn:n<5)(h:Dc rd):VB (m9 n rd):=⟨n,rd,rfl,hn,h⟩
theorem YF(b:Int):(∀a∈zA b,VB a)/\cH (xb bx (zA b)) b/\anU (PJ b):=by
 have h4:cH (xb bx [m9 4 (PJ b).l,m2 2 (PJ b).k]) (Rg (I8 b).2).2/\Dc (PJ b).l:=by
  obtain⟨h1,h2⟩:=Ll (b:=(Rg (I8 b).2).2) (r:=[2,(PJ b).k]) (jR (m:=2) (r:=[]) (by decide) trivial)
  exact⟨h1,h2⟩
 obtain⟨h3,h5⟩:=ap5 h4.1
 obtain⟨h2,h6⟩:=aoE h3
 have hok:anU (PJ b):=⟨h6,h5,h4.2,mx (by decide) _⟩
 refine⟨fun a ha=> ?_,h2,hok⟩
 obtain⟨o1,o2,o3,_⟩:=hok
 unfold zA ddM at ha
 rcases cX.mp ha with ha|ha
 ·generalize (PJ b).f=f at ha o1
  cases f with
  |none=>simp only[fdM,aP]at ha;subst ha;trivial
  |one o rd s=>
   simp only[fdM,aH,bh,or_false]at ha
   rcases ha with rfl|rfl|rfl
   ·cases o<;>trivial
   ·exact aaG (by cases o<;>decide) o1.1
   ·trivial
 ·rcases cX.mp ha with ha|ha
  ·generalize (PJ b).w=w at ha o2
   cases w with
   |none=>simp only[wdM,aP]at ha;subst ha;trivial
   |one o rd=>
    simp only[wdM,aH,bh,or_false]at ha
    rcases ha with rfl|rfl
    ·cases o<;>trivial
    ·exact aaG (by cases o<;>decide) o2
  ·simp only[aH,bh,or_false]at ha
   rcases ha with rfl|rfl
   ·exact aaG (by decide) o3
   ·trivial
def I2(c:Nat):Nat:=Bool.rec (motive:=fun _=>Nat) c (Bool.rec (motive:=fun _=>Nat) c (Nat.sub c 32) (cJ c 122)) (cJ 97 c)
def eS:aW:=fun vs σ=>pV vs fun a=>NQ a fun c=>bif bc c 128 then some (.str [I2 c],σ)else none
def TJ(s:ac):Bool:=bt (motive:=fun _=>Bool) true (fun c _ ih=>Bool.rec (motive:=fun _=>Bool) false ih (bc c 128)) s
def agN(g:ac)(l:ac):Nat:=bt (motive:=fun _=>Nat) 0 (fun c _ ih=>Bool.rec (motive:=fun _=>Nat) 0 (kq ih) (uB (I2 c) g)) l
def zg:aW:=fun vs σ=>S3 vs fun a b c=>eg a fun s=>m7 b fun i=>eg c fun g=>bif TJ s&&(bc (dN s) 1000&&cJ i (dN s))then some (.int (ai (Nat.add i (agN g (ui i s)))),σ)else none
noncomputable def cLine:Nat:=45
noncomputable def du:Nat:=1021
def WE:aW:=fun l σ=>vR l fun _ _=>some (.opq,σ)
def tL(l:List T):T:=bt (motive:=fun _=>T) .nil (fun a _ ih=>.cons a ih) l
def sL(l:List TS):TS:=bt (motive:=fun _=>TS) .nil (fun a _ ih=>.cons a ih) l
noncomputable def cS(l:ac):T:=.cst (.str l)
noncomputable def cI(i:Int):T:=.cst (.int i)
def kA(f:Nat)(l:List T):T:=.call f (tL l)
def mE(n:Nat)(o:T)(l:List T):T:=.meth n o (tL l)
def lS(l:List T):T:=.lst (tL l)
def tU(l:List T):T:=.tup (tL l)
noncomputable def v0:T:=.var 0
noncomputable def v1:T:=.var 1
noncomputable def v2:T:=.var 2
noncomputable def v3:T:=.var 3
noncomputable def v4:T:=.var 4
noncomputable def v5:T:=.var 5
noncomputable def v6:T:=.var 6
noncomputable def v7:T:=.var 7
noncomputable def v8:T:=.var 8
noncomputable def v9:T:=.var 9
noncomputable def v10:T:=.var 10
noncomputable def v11:T:=.var 11
noncomputable def v12:T:=.var 12
noncomputable def v13:T:=.var 13
noncomputable def v14:T:=.var 14
noncomputable def v15:T:=.var 15
noncomputable def v16:T:=.var 16
noncomputable def mU:AV:=.str [48,49,50,51,52,53,54,55,56,57]
noncomputable def wE:AV:=.str [65,66,67,68,69,70,71,72,73,74,75,76,77,78,79,80,81,82,83,84,85,86,87,88,89,90,48,49,50,51,52,53,54,55,56,57,45]
noncomputable def lq:AV:=.str [48,49,50,51,52,53,54,55,56,57]
noncomputable def abM:AV:=.str [46,44,59]
noncomputable def ID:AV:=.int (30)
noncomputable def GZ:AV:=.str [65,66,67,68,69,70,71,72,73,74,75,76,77,78,79,80,81,82,83,84,85,86,87,88,89,90]
noncomputable def rL:AV:=.int (18)
noncomputable def zY:AV:=.int (160)
noncomputable def Ku:AV:=.str [34,39]
noncomputable def zZ:AV:=.str [40,41,58,43,45,42,47,61,60,62]
noncomputable def zX:AV:=.str [42,42,32,60,61,32,62,61]
noncomputable def SN:AV:=.int (8)
noncomputable def SO:AV:=.int (12)
noncomputable def BU:AV:=.dct [[100,105,115,112,108,97,121],[98,105,110,97,114,121],[112,97,99,107,101,100],[105,110,100,101,120]] [.str [68,73,83,80,76,65,89],.str [66,73,78,65,82,89],.str [80,65,67,75,69,68,45,68,69,67,73,77,65,76],.str [73,78,68,69,88]]
noncomputable def xr:AV:=.int (66)
noncomputable def iY:AV:=.tup [.int (1),.int (77)]
noncomputable def t6:AV:=.dct [[68,73,83,80,76,65,89],[67,79,77,80],[67,79,77,80,85,84,65,84,73,79,78,65,76],[66,73,78,65,82,89],[80,65,67,75,69,68,45,68,69,67,73,77,65,76],[67,79,77,80,45,51],[67,79,77,80,85,84,65,84,73,79,78,65,76,45,51],[73,78,68,69,88]] [.str [100,105,115,112,108,97,121],.str [98,105,110,97,114,121],.str [98,105,110,97,114,121],.str [98,105,110,97,114,121],.str [112,97,99,107,101,100],.str [112,97,99,107,101,100],.str [112,97,99,107,101,100],.str [105,110,100,101,120]]
noncomputable def Kt:AV:=.int (88)
noncomputable def BS:AV:=.int (66)
noncomputable def BQ:AV:=.int (77)
noncomputable def SP:AV:=.str [70,73,76,76,69,82]
noncomputable def FJ:AV:=.int (49)
noncomputable def BR:AV:=.int (20)
noncomputable def lL:AV:=.str [32,65,67,67,69,80,84,32,65,67,67,69,83,83,32,65,68,68,32,65,68,86,65,78,67,73,78,71,32,65,70,84,69,82,32,65,76,76,32,65,76,80,72,65,66,69,84,73,67,32,65,76,80,72,65,66,69,84,73,67,45,76,79,87,69,82,32,65,76,80,72,65,66,69,84,73,67,45,85,80,80,69,82,32,65,76,80,72,65,78,85,77,69,82,73,67,32,65,76,80,72,65,78,85,77,69,82,73,67,45,69,68,73,84,69,68,32,65,76,83,79,32,65,76,84,69,82,78,65,84,69,32,65,78,68,32,65,78,89,32,65,82,69,32,65,82,69,65,32,65,82,69,65,83,32,65,83,67,69,78,68,73,78,71,32,65,83,83,73,71,78,32,65,84,32,65,85,84,72,79,82,32,66,69,70,79,82,69,32,66,73,78,65,82,89,32,66,76,65,78,75,32,66,76,79,67,75,32,66,89,32,67,65,76,76,32,67,72,65,82,65,67,84,69,82,32,67,72,65,82,65,67,84,69,82,83,32,67,76,79,83,69,32,67,79,77,80,32,67,79,77,80,45,51,32,67,79,77,80,85,84,65,84,73,79,78,65,76,32,67,79,77,80,85,84,65,84,73,79,78,65,76,45,51,32,67,79,77,80,85,84,69,32,67,79,78,70,73,71,85,82,65,84,73,79,78,32,67,79,78,84,65,73,78,83,32,67,79,78,84,69,78,84,32,67,79,78,84,73,78,85,69,32,67,79,78,86,69,82,84,73,78,71,32,67,79,80,89,32,67,79,82,82,32,67,79,82,82,69,83,80,79,78,68,73,78,71,32,67,79,85,78,84,32,68,65,84,65,32,68,65,84,69,45,67,79,77,80,73,76,69,68,32,68,65,84,69,45,87,82,73,84,84,69,78,32,68,69,76,69,84,69,32,68,69,76,73,77,73,84,69,68,32,68,69,76,73,77,73,84,69,82,32,68,69,80,69,78,68,73,78,71,32,68,69,83,67,69,78,68,73,78,71,32,68,73,83,80,76,65,89,32,68,73,86,73,68,69,32,68,73,86,73,83,73,79,78,32,68,79,87,78,32,68,85,80,76,73,67,65,84,69,83,32,68,89,78,65,77,73,67,32,69,76,83,69,32,69,78,68,32,69,78,68,45,65,68,68,32,69,78,68,45,67,65,76,76,32,69,78,68,45,67,79,77,80,85,84,69,32,69,78,68,45,68,69,76,69,84,69,32,69,78,68,45,68,73,86,73,68,69,32,69,78,68,45,69,86,65,76,85,65,84,69,32,69,78,68,45,73,70,32,69,78,68,45,77,85,76,84,73,80,76,89,32,69,78,68,45,80,69,82,70,79,82,77,32,69,78,68,45,82,69,65,68,32,69,78,68,45,82,69,84,85,82,78,32,69,78,68,45,82,69,87,82,73,84,69,32,69,78,68,45,83,69,65,82,67,72,32,69,78,68,45,83,84,65,82,84,32,69,78,68,45,83,84,82,73,78,71,32,69,78,68,45,83,85,66,84,82,65,67,84,32,69,78,68,45,85,78,83,84,82,73,78,71,32,69,78,68,45,87,82,73,84,69,32,69,78,86,73,82,79,78,77,69,78,84,32,69,81,85,65,76,32,69,82,82,79,82,32,69,86,65,76,85,65,84,69,32,69,88,67,69,80,84,73,79,78,32,69,88,73,84,32,69,88,84,69,78,68,32,69,88,84,69,82,78,65,76,32,70,65,76,83,69,32,70,68,32,70,73,76,69,32,70,73,76,69,45,67,79,78,84,82,79,76,32,70,73,76,76,69,82,32,70,73,82,83,84,32,70,79,82,32,70,82,79,77,32,71,73,86,73,78,71,32,71,76,79,66,65,76,32,71,79,32,71,82,69,65,84,69,82,32,72,73,71,72,45,86,65,76,85,69,32,72,73,71,72,45,86,65,76,85,69,83,32,73,45,79,32,73,45,79,45,67,79,78,84,82,79,76,32,73,68,69,78,84,73,70,73,67,65,84,73,79,78,32,73,70,32,73,78,32,73,78,68,69,88,32,73,78,68,69,88,69,68,32,73,78,73,84,73,65,76,32,73,78,73,84,73,65,76,73,90,69,32,73,78,80,85,84,32,73,78,80,85,84,45,79,85,84,80,85,84,32,73,78,83,80,69,67,84,32,73,78,83,84,65,76,76,65,84,73,79,78,32,73,78,84,79,32,73,78,86,65,76,73,68,32,73,83,32,74,85,83,84,32,74,85,83,84,73,70,73,69,68,32,75,69,89,32,76,65,66,69,76,32,76,69,65,68,73,78,71,32,76,69,70,84,32,76,69,83,83,32,76,73,78,69,32,76,73,78,69,83,32,76,73,78,75,65,71,69,32,76,79,67,75,32,76,79,87,45,86,65,76,85,69,32,76,79,87,45,86,65,76,85,69,83,32,77,69,82,71,69,32,77,79,68,69,32,77,79,86,69,32,77,85,76,84,73,80,76,89,32,78,65,84,73,86,69,32,78,69,71,65,84,73,86,69,32,78,69,88,84,32,78,79,32,78,79,84,32,78,85,77,69,82,73,67,32,78,85,77,69,82,73,67,45,69,68,73,84,69,68,32,79,66,74,69,67,84,45,67,79,77,80,85,84,69,82,32,79,67,67,85,82,83,32,79,70,32,79,70,70,32,79,77,73,84,84,69,68,32,79,78,32,79,80,69,78,32,79,80,84,73,79,78,65,76,32,79,82,32,79,82,68,69,82,32,79,82,71,65,78,73,90,65,84,73,79,78,32,79,84,72,69,82,32,79,85,84,80,85,84,32,79,86,69,82,70,76,79,87,32,80,65,67,75,69,68,45,68,69,67,73,77,65,76,32,80,69,82,70,79,82,77,32,80,73,67,32,80,73,67,84,85,82,69,32,80,79,73,78,84,69,82,32,80,79,83,73,84,73,86,69,32,80,82,79,67,69,68,85,82,69,32,80,82,79,67,69,69,68,32,80,82,79,71,82,65,77,32,80,82,79,71,82,65,77,45,73,68,32,81,85,79,84,69,32,81,85,79,84,69,83,32,82,65,78,68,79,77,32,82,69,65,68,32,82,69,67,79,82,68,32,82,69,67,79,82,68,83,32,82,69,68,69,70,73,78,69,83,32,82,69,70,69,82,69,78,67,69,32,82,69,76,65,84,73,86,69,32,82,69,76,69,65,83,69,32,82,69,77,65,73,78,68,69,82,32,82,69,78,65,77,69,83,32,82,69,80,76,65,67,69,32,82,69,80,76,65,67,73,78,71,32,82,69,84,85,82,78,32,82,69,87,82,73,84,69,32,82,73,71,72,84,32,82,79,85,78,68,69,68,32,82,85,78,32,83,65,77,69,32,83,68,32,83,69,65,82,67,72,32,83,69,67,84,73,79,78,32,83,69,67,85,82,73,84,89,32,83,69,76,69,67,84,32,83,69,78,84,69,78,67,69,32,83,69,80,65,82,65,84,69,32,83,69,81,85,69,78,84,73,65,76,32,83,69,84,32,83,73,71,78,32,83,73,90,69,32,83,79,82,84,32,83,79,82,84,45,77,69,82,71,69,32,83,79,85,82,67,69,45,67,79,77,80,85,84,69,82,32,83,80,65,67,69,32,83,80,65,67,69,83,32,83,80,69,67,73,65,76,45,78,65,77,69,83,32,83,84,65,78,68,65,82,68,32,83,84,65,82,84,32,83,84,65,84,85,83,32,83,84,79,80,32,83,84,82,73,78,71,32,83,85,66,84,82,65,67,84,32,83,89,78,67,32,83,89,78,67,72,82,79,78,73,90,69,68,32,84,65,76,76,89,73,78,71,32,84,69,83,84,32,84,72,65,78,32,84,72,69,78,32,84,72,82,79,85,71,72,32,84,72,82,85,32,84,73,77,69,83,32,84,79,32,84,82,65,73,76,73,78,71,32,84,82,85,69,32,85,78,83,84,82,73,78,71,32,85,78,84,73,76,32,85,80,32,85,80,79,78,32,85,83,65,71,69,32,85,83,73,78,71,32,86,65,76,85,69,32,86,65,76,85,69,83,32,86,65,82,89,73,78,71,32,87,72,69,78,32,87,73,84,72,32,87,79,82,75,73,78,71,45,83,84,79,82,65,71,69,32,87,82,73,84,69,32,90,69,82,79,32,90,69,82,79,69,83,32,90,69,82,79,83,32]
noncomputable def FK:AV:=.int (255)
def Q8:TS:=sL [.asg 1 (.bin .Add (lS [.atr 20 v0]) (.bin .Mult (lS [cI 88]) (kA 1 [.atr 23 v0]))),.for_ [2] (.atr 22 v0) (sL [.asg 1 (.bin .Add v1 (kA 0 [v2]))]),.ret v1]
def NH(self:aW):cG:=⟨[],[("_law_walked",self),("len",ef)],[]⟩
def OO(self:aW):SM:=
  (aV (cV [1] (bi (b4 .Add) (bq df (aw (un (aA 20) (al 0)) aG)) (bi (b4 .Mult) (bq df (aw (ba (.int (88))) aG)) (bq ef (aw (un (aA 23) (al 0)) aG)))))
  (aV (gG [2] (un (aA 22) (al 0))
  (aV (cV [1] (bi (b4 .Add) (al 1) (bq self (aw (al 2) aG))))
  bu))
  (aV (eI (al 1))
  bu)))
def z0(self:aW):aW:=bo 1 [] (OO self)
noncomputable def bC:Nat->aW
 |0=>UJ
 |n+1=>vY aa1 (z0 (bC n))
def Sq:TS:=sL [.ret (tU [.atr 2 v0,.atr 1 v0])]
noncomputable def Ro:cG:=⟨[],[],[]⟩
def RK:SM:=
  (aV (eI (bq gp (aw (un (aA 2) (al 0)) (aw (un (aA 1) (al 0)) aG))))
  bu)
def qJ:aW:=bo 1 [] RK
def Q4:TS:=sL [.ret (tU [.atr 8 v0,.atr 9 v0,.atr 7 v0,.atr 6 v0,.atr 5 v0])]
noncomputable def ND:cG:=⟨[],[],[]⟩
def OL:SM:=
  (aV (eI (bq gp (aw (un (aA 8) (al 0)) (aw (un (aA 9) (al 0)) (aw (un (aA 7) (al 0)) (aw (un (aA 6) (al 0)) (aw (un (aA 5) (al 0)) aG)))))))
  bu)
def ja:aW:=bo 1 [] OL
def Sp:TS:=sL [.ret (tU [.atr 18 v0,.atr 19 v0])]
noncomputable def Rn:cG:=⟨[],[],[]⟩
def RJ:SM:=
  (aV (eI (bq gp (aw (un (aA 18) (al 0)) (aw (un (aA 19) (al 0)) aG))))
  bu)
def fz:aW:=bo 1 [] RJ
def Ny:TS:=sL [.asg 1 (.ife (.cmp .Is (.atr 14 v0) (.cst (.none))) (.cst (.none)) (mE 0 (.atr 14 v0) [])),.asg 2 (tU [.atr 16 v0,.atr 15 v0,.atr 10 v0,.atr 35 v0,v1,.atr 17 v0]),.ret (.bin .Add v2 (tU [.atr 11 v0,.atr 13 v0,.atr 12 v0,.atr 21 v0]))]
def LB:cG:=⟨[],[],[("told",(fx lR ja gU))]⟩
def MX:SM:=
  (aV (cV [1] (tl (eJ (bO .Is) (un (aA 14) (al 0)) (ba (.none))) (ba (.none)) (cK (fx lR ja gU) (un (aA 14) (al 0)) aG)))
  (aV (cV [2] (bq gp (aw (un (aA 16) (al 0)) (aw (un (aA 15) (al 0)) (aw (un (aA 10) (al 0)) (aw (un (aA 35) (al 0)) (aw (al 1) (aw (un (aA 17) (al 0)) aG))))))))
  (aV (eI (bi (b4 .Add) (al 2) (bq gp (aw (un (aA 11) (al 0)) (aw (un (aA 13) (al 0)) (aw (un (aA 12) (al 0)) (aw (un (aA 21) (al 0)) aG)))))))
  bu)))
def jq:aW:=bo 1 [] MX
def yZ:gW:=(fx cq jq gU)
def We:TS:=sL [.asg 1 (kA 0 [.comp [3] (.atr 23 v0) .nop (mE 0 v3 [])]),.ret (tU [.atr 20 v0,.atr 18 v0,mE 1 v0 [],v1,kA 0 [.comp [2] (.atr 22 v0) .nop (mE 0 v2 [])]])]
def Sx(self:aW):cG:=⟨[],[("tuple",fu)],[("told",(fx nF fz (fx cq self gU))),("clauses",yZ)]⟩
def zb(self:aW):SM:=
  (aV (cV [1] (bq fu (aw (eX [3] (un (aA 23) (al 0)) (fun _ σ=>some (true,σ)) (cK (fx nF fz (fx cq self gU)) (al 3) aG)) aG)))
  (aV (eI (bq gp (aw (un (aA 20) (al 0)) (aw (un (aA 18) (al 0)) (aw (cK yZ (al 0) aG) (aw (al 1) (aw (bq fu (aw (eX [2] (un (aA 22) (al 0)) (fun _ σ=>some (true,σ)) (cK (fx nF fz (fx cq self gU)) (al 2) aG)) aG)) aG)))))))
  bu))
def wH(self:aW):aW:=bo 1 [] (zb self)
noncomputable def bG:Nat->aW
 |0=>UJ
 |n+1=>vY nW (wH (bG n))
def Wc:TS:=sL [.asg 1 (kA 0 [.comp [4] (.atr 26 v0) .nop (tU [v4,.cmp .In v4 (.atr 27 v0),kA 0 [.comp [5] (.idx (.atr 26 v0) v4) .nop (mE 0 v5 [])]])]),.ret (tU [kA 0 [.comp [3] (.atr 24 v0) .nop (mE 0 v3 [])],kA 0 [.comp [2] (.atr 25 v0) .nop (mE 0 v2 [])],v1])]
def Sw:cG:=⟨[],[("tuple",fu)],[("told",(fx cq (bG 6) gU))]⟩
def UM:SM:=
  (aV (cV [1] (bq fu (aw (eX [4] (un (aA 26) (al 0)) (fun _ σ=>some (true,σ)) (bq gp (aw (al 4) (aw (rY (eJ (bO .In) (al 4) (un (aA 27) (al 0)))) (aw (bq fu (aw (eX [5] (bi eH (un (aA 26) (al 0)) (al 4)) (fun _ σ=>some (true,σ)) (cK (fx cq (bG 6) gU) (al 5) aG)) aG)) aG))))) aG)))
  (aV (eI (bq gp (aw (bq fu (aw (eX [3] (un (aA 24) (al 0)) (fun _ σ=>some (true,σ)) (cK (fx cq (bG 6) gU) (al 3) aG)) aG)) (aw (bq fu (aw (eX [2] (un (aA 25) (al 0)) (fun _ σ=>some (true,σ)) (cK (fx cq (bG 6) gU) (al 2) aG)) aG)) (aw (al 1) aG)))))
  bu))
def wG:aW:=bo 1 [] UM
def s9:aW:=vY nW wG
def qG:gW:=(fx Vf qJ (fx lR ja (fx nF fz (fx cq (bG 6) (fx ZO s9 gU)))))
def JO:TS:=sL [.ret (.cmp .GtE (.atr 4 v0) (kA 0 [.atr 38 v0]))]
def H8:cG:=⟨[],[("len",ef)],[]⟩
def o6:SM:=
  (aV (eI (rY (eJ (bO .GtE) (un (aA 4) (al 0)) (bq ef (aw (un (aA 38) (al 0)) aG)))))
  bu)
def lr:aW:=bo 1 [] o6
def WH:gW:=(fx du lr gU)
def qg:gW:=(fx du vD gU)
def Q5:TS:=sL [.ifs (.cmp .Lt (.bin .Add (.atr 4 v0) v1) (kA 0 [.atr 38 v0])) (sL [.ret (.idx (.atr 38 v0) (.bin .Add (.atr 4 v0) v1))]) .nil,.ret (.cst (.none))]
def NE:cG:=⟨[],[("len",ef)],[]⟩
def o7:SM:=
  (aV (sh (eJ (bO .Lt) (bi (b4 .Add) (un (aA 4) (al 0)) (al 1)) (bq ef (aw (un (aA 38) (al 0)) aG)))
  (aV (eI (bi eH (un (aA 38) (al 0)) (bi (b4 .Add) (un (aA 4) (al 0)) (al 1))))
  bu)
  bu)
  (aV (eI (ba (.none)))
  bu))
def iq:aW:=bo 2 [.int (0)] o7
def gz:gW:=(fx du iq gU)
def y6:gW:=(fx du IC gU)
def JP:TS:=sL [.asg 3 (mE 0 v0 [v2]),.ret (.and (.cmp .IsNot v3 (.cst (.none))) (.cmp .Eq (.atr 2 v3) v1))]
def H9:cG:=⟨[],[],[("peek",gz)]⟩
def ls:SM:=
  (aV (cV [3] (cK gz (al 0) (aw (al 2) aG)))
  (aV (eI (Tf (rY (eJ (bO .IsNot) (al 3) (ba (.none)))) (rY (eJ (bO .Eq) (un (aA 2) (al 3)) (al 1)))))
  bu))
def iB:aW:=bo 3 [.int (0)] ls
def fw:gW:=(fx du iB gU)
def t7:gW:=(fx du LX gU)
def wo:TS:=sL [.asg 2 (cI 0),.for_ [3] (mE 0 v1 [cS [32]]) (sL [.ifs (.or (.not (mE 2 v0 [cS [119,111,114,100],v2])) (.cmp .NotEq (.atr 1 (mE 1 v0 [v2])) v3)) (sL [.ret (.cst (.bool false))]) .nil,.asg 2 (.bin .Add v2 (cI 1))]),.ret (.cst (.bool true))]
def vb:cG:=⟨[],[],[("split",(iz kL)),("peek",gz),("is_kind",fw)]⟩
def IK:SM:=
  ci vb wo
def jz:aW:=bo 2 [] IK
def re:gW:=(fx du jz gU)
def G3:gW:=(fx du LZ gU)
def JQ:TS:=sL [.ret (.and (mE 1 v0 [cS [115,105,103,110],v2]) (.cmp .Eq (.atr 1 (mE 0 v0 [v2])) v1))]
def Ia:cG:=⟨[],[],[("peek",gz),("is_kind",fw)]⟩
def lu:SM:=
  (aV (eI (Tf (cK fw (al 0) (aw (ba (.str [115,105,103,110])) (aw (al 2) aG))) (rY (eJ (bO .Eq) (un (aA 1) (cK gz (al 0) (aw (al 2) aG))) (al 1)))))
  bu)
def jy:aW:=bo 3 [.int (0)] lu
def vE:gW:=(fx du jy gU)
def qh:gW:=(fx du LY gU)
def FA:TS:=sL [.ifs (.not (mE 0 v0 [v1])) (sL [.ret (.cst (.bool false))]) .nil,.asgA 4 v0 (.bin .Add (.atr 4 v0) (cI 1)),.ret (.cst (.bool true))]
def DZ:cG:=⟨[],[],[("is_sign",vE)]⟩
def mV:SM:=
  (aV (sh (pe (ji (cK vE (al 0) (aw (al 1) aG))))
  (aV (eI (ba (.bool false)))
  bu)
  bu)
  (aV (l4 4 (al 0) (bi (b4 .Add) (un (aA 4) (al 0)) (ba (.int (1)))))
  (aV (eI (ba (.bool true)))
  bu)))
def jQ:aW:=bo 2 [] mV
def RH:gW:=(fx du jQ gU)
def s7:gW:=(fx du FI gU)
def sN:TS:=sL [.ifs (.not (mE 0 v0 [v1])) (sL [.bad]) .nil]
def rA:cG:=⟨[],[],[("skip_sign",s7)]⟩
def Fu:SM:=
  ci rA sN
def sy:aW:=bo 2 [] Fu
def y5:gW:=(fx du sy gU)
def Q6:TS:=sL [.ifs (.not (mE 1 v0 [v1])) (sL [.ret (.cst (.bool false))]) .nil,.asgA 4 v0 (.bin .Add (.atr 4 v0) (kA 0 [mE 0 v1 [cS [32]]])),.ret (.cst (.bool true))]
def NF:cG:=⟨[],[("len",ef)],[("split",(iz kL)),("is_word",re)]⟩
def o8:SM:=
  (aV (sh (pe (ji (cK re (al 0) (aw (al 1) aG))))
  (aV (eI (ba (.bool false)))
  bu)
  bu)
  (aV (l4 4 (al 0) (bi (b4 .Add) (un (aA 4) (al 0)) (bq ef (aw (cK (iz kL) (al 1) (aw (ba (.str [32])) aG)) aG))))
  (aV (eI (ba (.bool true)))
  bu)))
def oZ:aW:=bo 2 [] o8
def afL:gW:=(fx du oZ gU)
def vF:gW:=(fx du WF gU)
def A0:TS:=sL [.ifs (.not (mE 1 v0 [v1])) (sL [.ret (.cst (.bool false))]) .nil,.expr (mE 0 v0 [cS [46]]),.ret (.cst (.bool true))]
def yK:cG:=⟨[],[],[("need_sign",y5),("skip",vF)]⟩
def Nd:SM:=
  ci yK A0
def Aj:aW:=bo 2 [] Nd
def Mz:TS:=sL [.asgA 34 v1 v0,.expr (mE 0 (.atr 22 v0) [v1])]
def J6:cG:=⟨[],[],[("append",(fX gy))]⟩
def WN:SM:=
  ci J6 Mz
def L1:aW:=bo 2 [] WN
def yY:gW:=(fx cq L1 gU)
def DM:TS:=sL [.whl (.and (.cmp .NotEq v0 (.cst (.lst []))) (.cmp .GtE (.atr 20 (.idx v0 (.neg (cI 1)))) (.atr 20 v1))) (sL [.expr (mE 2 v0 [])]),.ifs (.or (.cmp .Eq v0 (.cst (.lst []))) (.cmp .Eq (.atr 20 (.idx v0 (cI 0))) (.glb 1))) (sL [.bad]) .nil,.asg 2 (.idx v0 (.neg (cI 1))),.ifs (.and (.cmp .NotEq (.atr 22 v2) (.cst (.lst []))) (.cmp .NotEq (.atr 20 (.idx (.atr 22 v2) (cI 0))) (.atr 20 v1))) (sL [.bad]) .nil,.ifs (.cmp .GtE (kA 0 [v0]) (.glb 0)) (sL [.bad]) .nil,.expr (mE 1 v2 [v1]),.expr (mE 0 v0 [v1])]
def A9:cG:=⟨[("MOST_NESTED",BR),("ALONE",BQ)],[("len",ef)],[("append",(fX gy)),("add",yY),("pop",(fX Zt))]⟩
def OV:SM:=
  ci A9 DM
def Cg:aW:=bo 2 [] OV
def Uf:TS:=sL [.asgT [1,2,3,4] (tU [lS [],lS [],.cst (.none),lS []]),.for_ [5] v0 (sL [.ifs (.cmp .Eq (.atr 20 v5) (.glb 2)) (sL [.ifs (.cmp .Is v3 (.cst (.none))) (sL [.bad]) .nil,.expr (mE 1 (.atr 23 v3) [.idx (.atr 23 v5) (cI 0)]),.cont]) .nil,.ifs (.cmp .Eq (.atr 20 v5) (.glb 0)) (sL [.ifs (.or (.cmp .Eq v1 (.cst (.lst []))) (.cmp .Eq (.atr 20 (.idx v1 (.neg (cI 1)))) (.glb 1))) (sL [.bad]) .nil,.expr (mE 1 v4 [tU [.bin .Sub (kA 0 [v1]) (cI 1),v5]])]) (sL [.ifs (.and (.cmp .NotEq v4 (.cst (.lst []))) (.and (.cmp .Eq (.idx (.idx v4 (.neg (cI 1))) (cI 0)) (.bin .Sub (kA 0 [v1]) (cI 1))) (.cmp .NotIn (.atr 20 v5) (tU [cI 1,.glb 1])))) (sL [.bad]) (sL [.ifs (.cmp .In (.atr 20 v5) (tU [cI 1,.glb 1])) (sL [.expr (mE 1 v1 [v5]),.asg 2 (lS [v5])]) (sL [.expr (kA 1 [v2,v5])])])]),.asg 3 v5]),.for_ [6,5] v4 (sL [.expr (mE 0 (.idx v1 v6) [v5])]),.ret v1]
def Rq:cG:=⟨[("RENAMING",BS),("ALONE",BQ),("NAMING",Kt)],[("len",ef),("put_beneath",Cg)],[("add",yY),("append",(fX gy))]⟩
def adh:SM:=
  ci Rq Uf
def SU:aW:=bo 1 [] adh
def Ly:TS:=sL [.asg 1 (mE 0 v0 []),.ret (.and (.cmp .IsNot v1 (.cst (.none))) (.cmp .Eq (.atr 2 v1) (cS [110,117,109,98,101,114])))]
def Ka:cG:=⟨[],[],[("peek",y6)]⟩
def j5:SM:=
  (aV (cV [1] (cK y6 (al 0) aG))
  (aV (eI (Tf (rY (eJ (bO .IsNot) (al 1) (ba (.none)))) (rY (eJ (bO .Eq) (un (aA 2) (al 1)) (ba (.str [110,117,109,98,101,114]))))))
  bu))
def j0:aW:=bo 1 [] j5
def wm:TS:=sL [.asgA 18 v0 v1,.asgA 19 v0 (kA 0 [v2])]
def u6:cG:=⟨[],[("tuple",fu)],[]⟩
def vK:SM:=
  ci u6 wm
def IE:aW:=bo 3 [] vK
def xA:aW:=F5 8 (uC nF IE)
def yp:TS:=sL [.for_ [2] (mE 0 v1 [cS [32]]) (sL [.ifs (mE 1 v0 [v2]) (sL [.ret v2]) .nil]),.ret (cS [])]
def wz:cG:=⟨[],[],[("split",(iz kL)),("skip",vF)]⟩
def KD:SM:=
  ci wz yp
def xC:aW:=bo 2 [] KD
def tB:gW:=(fx du xC gU)
def wu:TS:=sL [.asg 1 (.comp [3] v0 .nop (kA 1 [v3])),.frz 1,.ifs (.comp [2] v1 (.cmp .Gt v2 (.glb 0)) v2) (sL [.bad]) .nil,.ret (kA 0 [v1])]
def ve:cG:=⟨[("MOST_OCTET",FK)],[("bytes",WC),("ord",Zs)],[]⟩
def IM:SM:=
  ci ve wu
def iC:aW:=bo 1 [] IM
def Lw:TS:=sL [.ifs (.not (mE 1 v0 [cS [108,105,116,101,114,97,108]])) (sL [.bad]) .nil,.asg 1 (kA 0 [.atr 1 (mE 0 v0 [])]),.ifs (.cmp .Is v1 (.cst (.none))) (sL [.bad]) .nil,.asgA 4 v0 (.bin .Add (.atr 4 v0) (cI 1)),.ret v1]
def J7:cG:=⟨[],[("octets_of_text",(wR iC))],[("peek",gz),("is_kind",fw)]⟩
def ql:SM:=
  (aV (sh (pe (ji (cK fw (al 0) (aw (ba (.str [108,105,116,101,114,97,108])) aG))))
  (aV (fun _ _=>none)
  bu)
  bu)
  (aV (cV [1] (bq (wR iC) (aw (un (aA 1) (cK gz (al 0) aG)) aG)))
  (aV (sh (eJ (bO .Is) (al 1) (ba (.none)))
  (aV (fun _ _=>none)
  bu)
  bu)
  (aV (l4 4 (al 0) (bi (b4 .Add) (un (aA 4) (al 0)) (ba (.int (1)))))
  (aV (eI (al 1))
  bu)))))
def mu:aW:=bo 1 [] ql
def Zw:gW:=(fx du mu gU)
def SR:gW:=(fx du (OD iC) gU)
def sM:TS:=sL [.ifs (.or (mE 1 v0 [cS [43]]) (mE 1 v0 [cS [45]])) (sL [.ret (mE 0 v0 [cS [110,117,109,98,101,114],cI 1])]) .nil,.ret (mE 0 v0 [cS [110,117,109,98,101,114]])]
def rz:cG:=⟨[],[],[("is_kind",t7),("is_sign",qh)]⟩
def Ft:SM:=
  ci rz sM
def sx:aW:=bo 1 [] Ft
def y4:gW:=(fx du sx gU)
def Rc:TS:=sL [.ret (tU [.neg (.idx v0 (cI 0)),.idx v0 (cI 1)])]
noncomputable def MP:cG:=⟨[],[],[]⟩
def ZC:SM:=
  ci MP Rc
def OK:aW:=bo 1 [] ZC
def Ra:TS:=sL [.ifs (.cmp .Lt v1 (cI 0)) (sL [.bad]) .nil,.whl (.and (.cmp .Gt v1 (cI 0)) (.cmp .Eq (.bin .Mod v0 (cI 10)) (cI 0))) (sL [.bad,.bad]),.ret (tU [v0,v1])]
noncomputable def MN:cG:=⟨[],[],[]⟩
def ZA:SM:=
  ci MN Ra
def OI:aW:=bo 2 [.int (0)] ZA
def MI:TS:=sL [.asg 1 (cI 0),.for_ [2] v0 (sL [.asg 1 (.bin .Add (.bin .Mult v1 (cI 10)) (mE 0 (.glb 0) [v2]))]),.ret v1]
def Ki:cG:=⟨[("FIGURES_decimals",mU)],[],[("index",(iz IB))]⟩
def WW:SM:=
  ci Ki MI
def L9:aW:=bo 1 [] WW
def AP:TS:=sL [.asg 1 (.ife (.cmp .In (.slc v0 .nop (cI 1)) (tU [cS [43],cS [45]])) (cI 1) (cI 0)),.asgT [2,3] (tU [.slc v0 v1 .nop,cS []]),.ifs (.cmp .In (cS [46]) v2) (sL [.asg 4 (mE 0 v2 [cS [46]]),.asgT [2,3] (tU [.slc v2 .nop v4,.slc v2 (.bin .Add v4 (cI 1)) .nop]),.ifs (.cmp .Eq v3 (cS [])) (sL [.bad]) .nil]) .nil,.ifs (.cmp .Eq (.bin .Add v2 v3) (cS [])) (sL [.bad]) .nil,.for_ [5] (kA 3 [v1,kA 1 [v0]]) (sL [.ifs (.and (.cmp .NotIn (.idx v0 v5) (.glb 0)) (.cmp .NotEq v5 (.bin .Add v1 (kA 1 [v2])))) (sL [.bad]) .nil]),.asg 6 (kA 2 [.bin .Add v2 v3]),.ret (kA 0 [.ife (.cmp .Eq (.slc v0 .nop (cI 1)) (cS [45])) (.neg v6) v6,kA 1 [v3]])]
def yC:cG:=⟨[("FIGURES_decimals",mU)],[("decimal",OI),("len",ef),("worth_of",L9),("range",lK)],[("index",(iz IB))]⟩
def M5:SM:=
  ci yC AP
def iI:aW:=bo 1 [] M5
def Q7:TS:=sL [.asg 1 (mE 0 v0 []),.ifs (.cmp .Is v1 (.cst (.none))) (sL [.bad]) .nil,.asgA 4 v0 (.bin .Add (.atr 4 v0) (cI 1)),.ret v1]
def NG:cG:=⟨[],[],[("peek",gz)]⟩
def ue:SM:=
  (aV (cV [1] (cK gz (al 0) aG))
  (aV (sh (eJ (bO .Is) (al 1) (ba (.none)))
  (aV (fun _ _=>none)
  bu)
  bu)
  (aV (l4 4 (al 0) (bi (b4 .Add) (un (aA 4) (al 0)) (ba (.int (1)))))
  (aV (eI (al 1))
  bu))))
def o0:aW:=bo 1 [] ue
def afM:gW:=(fx du o0 gU)
def Ex:gW:=(fx du WG gU)
def yq:TS:=sL [.ifs (.not (mE 2 v0 [])) (sL [.bad]) .nil,.asg 1 (mE 1 v0 [cS [45]]),.ifs (.not v1) (sL [.expr (mE 1 v0 [cS [43]])]) .nil,.asg 2 (kA 1 [.atr 1 (mE 0 v0 [])]),.ret (.ife v1 (kA 0 [v2]) v2)]
def wA:cG:=⟨[],[("negated",OK),("read_decimal",iI)],[("take",Ex),("skip_sign",s7),("is_number",y4)]⟩
def KF:SM:=
  ci wA yq
def xE:aW:=bo 1 [] KF
def SS:gW:=(fx du xE gU)
def AU:TS:=sL [.ifs (mE 2 v0 []) (sL [.ret (tU [cS [110,117,109,98,101,114],mE 3 v0 []])]) .nil,.ifs (mE 0 v0 [cS [108,105,116,101,114,97,108]]) (sL [.ret (tU [cS [116,101,120,116],mE 1 v0 []])]) .nil,.bad,.bad,.bad]
def yF:cG:=⟨[],[],[("is_kind",t7),("octets",SR),("is_number",y4),("signed",SS)]⟩
def M8:SM:=
  ci yF AU
def Ae:aW:=bo 2 [] M8
def DJ:TS:=sL [.ret (.cmp .In (.bin .Add (.bin .Add (cS [32]) v0) (cS [32])) (.glb 0))]
noncomputable def A6:cG:=⟨[("RESERVED",lL)],[],[]⟩
def OS:SM:=
  ci A6 DJ
def Cc:aW:=bo 1 [] OS
def wn:TS:=sL [.ret (.and (mE 1 v0 [cS [119,111,114,100],v1]) (.not (kA 0 [.atr 1 (mE 0 v0 [v1])])))]
def u9:cG:=⟨[],[("is_reserved",Cc)],[("peek",y6),("is_kind",t7)]⟩
def IJ:SM:=
  ci u9 wn
def vH:aW:=bo 2 [.int (0)] IJ
def t8:gW:=(fx du vH gU)
def AR:TS:=sL [.ifs (mE 0 v0 []) (sL [.bad]) .nil,.ret (kA 0 [v0,.glb 0])]
def yE:cG:=⟨[("no_expression",.opq)],[("read_operand",Ae)],[("is_name",t8)]⟩
def M7:SM:=
  ci yE AR
def Ad:aW:=bo 1 [] M7
def DP:TS:=sL [.ifs (.cmp .Eq (mE 2 v0 [cS [86,65,76,85,69,32,86,65,76,85,69,83]]) (cS [])) (sL [.bad]) .nil,.expr (mE 2 v0 [cS [73,83,32,65,82,69]]),.asg 1 (lS []),.whl (.or (.cmp .Eq v1 (lS [])) (.not (mE 0 v0 [cS [46]]))) (sL [.asgT [2,3] (tU [kA 0 [v0],.cst (.none)]),.ifs (.cmp .NotEq (mE 2 v0 [cS [84,72,82,85,32,84,72,82,79,85,71,72]]) (cS [])) (sL [.asg 3 (kA 0 [v0])]) .nil,.expr (mE 1 v1 [tU [v2,v3]])]),.ret v1]
def Bb:cG:=⟨[],[("read_literal",Ad)],[("is_sign",qh),("append",(fX gy)),("one_of",tB)]⟩
def OX:SM:=
  ci Bb DP
def Ci:aW:=bo 1 [] OX
def DF:TS:=sL [.ifs (.not (mE 1 v0 [])) (sL [.bad]) .nil,.ret (.atr 1 (mE 0 v0 []))]
def A2:cG:=⟨[],[],[("take",Ex),("is_name",t8)]⟩
def OM:SM:=
  ci A2 DF
def BX:aW:=bo 1 [] OM
def Ew:gW:=(anS du BX)
def DG:TS:=sL [.ifs (.not (mE 0 v0 [v1])) (sL [.bad]) .nil]
def A3:cG:=⟨[],[],[("skip",vF)]⟩
def ON:SM:=
  ci A3 DG
def BZ:aW:=bo 2 [] ON
def abO:gW:=(fx du BZ gU)
def AW:TS:=sL [.expr (mE 2 v0 [cS [82,69,78,65,77,69,83]]),.asgT [1,2] (tU [mE 1 v0 [],.cst (.none)]),.ifs (.cmp .NotEq (mE 0 v0 [cS [84,72,82,85,32,84,72,82,79,85,71,72]]) (cS [])) (sL [.asg 2 (mE 1 v0 [])]) .nil,.ret (tU [v1,v2])]
def yG:cG:=⟨[],[],[("one_of",tB),("name",Ew),("need",abO)]⟩
def M9:SM:=
  ci yG AW
def Af:aW:=bo 1 [] M9
def uY:TS:=sL [.asgA 8 v0 v1,.asgA 9 v0 v2,.asgA 7 v0 v3,.asgA 6 v0 (kA 0 [v4]),.asgA 5 v0 (kA 0 [v5])]
def sR:cG:=⟨[],[("tuple",fu)],[]⟩
def ud:SM:=
  ci sR uY
def G5:aW:=bo 6 [.none,.tup [],.tup []] ud
def KA:aW:=F5 8 (uC lR G5)
def AI:TS:=sL [.asg 1 (lS [mE 1 v0 []]),.whl (mE 0 v0 []) (sL [.bad]),.ret v1]
def yv:cG:=⟨[],[],[("is_name",t8),("name",Ew)]⟩
def MY:SM:=
  ci yv AI
def z6:aW:=bo 1 [] MY
def WI:gW:=(fx du z6 gU)
def AL:TS:=sL [.asgT [1,2] (tU [cI 0,cI 0]),.whl (.or (.cmp .Gt v1 (cI 0)) (.and (.cmp .Eq v2 (cI 0)) (mE 0 v0 [cS [40]]))) (sL [.bad,.bad,.bad]),.ret (.cst (.bool false))]
def yy:cG:=⟨[],[],[("is_sign",qh)]⟩
def M1:SM:=
  ci yy AL
def Aa:aW:=bo 1 [] M1
def MC:TS:=sL [.asg 2 (mE 3 v0 []),.asg 3 (lS []),.whl (.cmp .NotEq (mE 1 v0 [cS [79,70,32,73,78]]) (cS [])) (sL [.expr (mE 2 v3 [mE 3 v0 []])]),.asg 4 (tU []),.ifs (.and (mE 0 v0 [cS [40]]) (.not (kA 1 [v0]))) (sL [.bad]) .nil,.asg 5 (.ife (kA 1 [v0]) .nil (.cst (.none))),.ret (tU [cS [114,101,102],v2,kA 0 [v3],v4,v5])]
def Kc:cG:=⟨[],[("tuple",fu),("is_part_next",Aa)],[("is_sign",qh),("one_of",tB),("append",(fX gy)),("name",Ew)]⟩
def WQ:SM:=
  ci Kc MC
def L2:aW:=bo 2 [] WQ
def MF:TS:=sL [.ifs (.cmp .GtE v1 (.idx v0 (cI 1))) (sL [.ret (.bin .Mult (.idx v0 (cI 0)) (.bin .Pow (cI 10) (.bin .Sub v1 (.idx v0 (cI 1)))))]) .nil,.bad,.bad,.bad,.bad]
noncomputable def Kf:cG:=⟨[],[],[]⟩
def WT:SM:=
  ci Kf MF
def L7:aW:=bo 3 [] WT
def MG:TS:=sL [.ret (kA 0 [v0,cI 0,.cst (.bool false)])]
def Kg:cG:=⟨[],[("units_at",L7)],[]⟩
def WU:SM:=
  ci Kg MG
def oj:aW:=bo 1 [] WU
def MB:TS:=sL [.ret (.cmp .Eq (.idx v0 (cI 1)) (cI 0))]
noncomputable def Kb:cG:=⟨[],[],[]⟩
def WP:SM:=
  ci Kb MB
def lN:aW:=bo 1 [] WP
def NA:TS:=sL [.ifs (.not (mE 1 v0 [cS [110,117,109,98,101,114]])) (sL [.bad]) .nil,.asg 1 (kA 2 [.atr 1 (mE 0 v0 [])]),.ifs (.not (kA 1 [v1])) (sL [.bad]) .nil,.asgA 4 v0 (.bin .Add (.atr 4 v0) (cI 1)),.ret (kA 0 [v1])]
def LG:cG:=⟨[],[("whole_of",(wR oj)),("is_whole",(wR lN)),("read_decimal",(wR iI))],[("peek",gz),("is_kind",fw)]⟩
def rS:SM:=
  (aV (sh (pe (ji (cK fw (al 0) (aw (ba (.str [110,117,109,98,101,114])) aG))))
  (aV (fun _ _=>none)
  bu)
  bu)
  (aV (cV [1] (bq (wR iI) (aw (un (aA 1) (cK gz (al 0) aG)) aG)))
  (aV (sh (pe (ji (bq (wR lN) (aw (al 1) aG))))
  (aV (fun _ _=>none)
  bu)
  bu)
  (aV (l4 4 (al 0) (bi (b4 .Add) (un (aA 4) (al 0)) (ba (.int (1)))))
  (aV (eI (bq (wR oj) (aw (al 1) aG)))
  bu)))))
def nC:aW:=bo 1 [] rS
def adf:gW:=(fx du nC gU)
def OG:gW:=(fx du (SL iI lN oj) gU)
def DN:TS:=sL [.asg 1 (mE 5 v0 []),.asgT [2,3] (tU [v1,.cst (.none)]),.ifs (mE 0 v0 [cS [84,79]]) (sL [.asg 2 (mE 5 v0 [])]) .nil,.expr (mE 0 v0 [cS [84,73,77,69,83]]),.ifs (mE 0 v0 [cS [68,69,80,69,78,68,73,78,71]]) (sL [.expr (mE 0 v0 [cS [79,78]]),.asg 3 (kA 2 [v0,.glb 0])]) .nil,.asgT [4,5] (tU [lS [],tU []]),.whl (.or (mE 2 v0 [cS [65,83,67,69,78,68,73,78,71]]) (mE 2 v0 [cS [68,69,83,67,69,78,68,73,78,71]])) (sL [.asg 6 (.cmp .Eq (.atr 1 (mE 4 v0 [])) (cS [65,83,67,69,78,68,73,78,71])),.expr (mE 0 v0 [cS [75,69,89]]),.expr (mE 0 v0 [cS [73,83]]),.expr (mE 3 v4 [.comp [7] (mE 1 v0 []) .nop (tU [v6,v7])])]),.ifs (mE 0 v0 [cS [73,78,68,69,88,69,68]]) (sL [.expr (mE 0 v0 [cS [66,89]]),.asg 5 (kA 1 [mE 1 v0 []])]) .nil,.ifs (.or (.cmp .Lt v2 v1) (.or (.cmp .Eq v2 (cI 0)) (.and (.cmp .Is v3 (.cst (.none))) (.cmp .NotEq v2 v1)))) (sL [.bad]) .nil,.ret (kA 0 [v1,v2,v3,v4,v5])]
def Ba:cG:=⟨[("no_expression",.opq)],[("Occurs",KA),("tuple",fu),("read_ref",L2)],[("skip",vF),("names",WI),("is_word",G3),("extend",(fX gk)),("take",Ex),("whole",OG)]⟩
def OW:SM:=
  ci Ba DN
def Ch:aW:=bo 1 [] OW
def ry:TS:=sL [.ifs (.cmp .Eq v2 (cS [82,69,68,69,70,73,78,69,83])) (sL [.bad]) (sL [.ifs (.cmp .Eq v2 (cS [79,67,67,85,82,83])) (sL [.asgA 14 v1 (kA 0 [v0])]) (sL [.ifs (.cmp .Eq v2 (cS [74,85,83,84,73,70,73,69,68])) (sL [.bad,.bad]) (sL [.ifs (.cmp .Eq v2 (cS [66,76,65,78,75])) (sL [.bad,.bad,.bad]) (sL [.ifs (.cmp .Eq v2 (cS [86,65,76,85,69])) (sL [.bad,.bad]) (sL [.ifs (.cmp .Eq v2 (cS [85,83,65,71,69])) (sL [.expr (mE 2 v0 [cS [73,83]]),.asg 3 (mE 0 v0 [mE 1 (cS [32]) [.glb 0]]),.ifs (.cmp .Eq v3 (cS [])) (sL [.bad]) .nil,.asgA 15 v1 (.idx (.glb 0) v3)]) (sL [.bad])])])])])])]
def pZ:cG:=⟨[("USAGE_WORDS",t6)],[("read_occurs",Ch)],[("one_of",tB),("join",(iz vC)),("skip",vF)]⟩
def Co:SM:=
  ci pZ ry
def rh:aW:=bo 3 [] Co
def DH:TS:=sL [.for_ [1] (tU [cS [82,69,68,69,70,73,78,69,83],cS [79,67,67,85,82,83],cS [66,76,65,78,75],cS [86,65,76,85,69],cS [85,83,65,71,69],cS [83,73,71,78]]) (sL [.ifs (mE 0 v0 [v1]) (sL [.ret v1]) .nil]),.bad,.bad,.bad]
def A4:cG:=⟨[],[],[("skip",vF)]⟩
def OP:SM:=
  ci A4 DH
def Ca:aW:=bo 1 [] OP
def sO:TS:=sL [.ifs (.cmp .NotEq (mE 0 v0 [cS [80,73,67,32,80,73,67,84,85,82,69]]) (cS [])) (sL [.ifs (.not (mE 3 v0 [cS [112,105,99,116,117,114,101]])) (sL [.bad]) .nil,.asgA 16 v1 (.atr 1 (mE 2 v0 [])),.ret (cS [80,73,67,84,85,82,69])]) .nil,.asg 2 (mE 0 v0 [mE 1 (cS [32]) [.glb 0]]),.ifs (.cmp .NotEq v2 (cS [])) (sL [.bad,.bad]) .nil,.asg 3 (mE 0 v0 [cS [76,69,65,68,73,78,71,32,84,82,65,73,76,73,78,71]]),.ifs (.cmp .NotEq v3 (cS [])) (sL [.bad,.bad]) .nil,.ret (cS [])]
def rF:cG:=⟨[("USAGE_WORDS",t6)],[],[("one_of",tB),("join",(iz vC)),("take",Ex),("is_kind",t7)]⟩
def Fv:SM:=
  ci rF sO
def sz:aW:=bo 2 [] Fv
def AO:TS:=sL [.asg 2 (lS []),.whl (.not (mE 0 v0 [cS [46]])) (sL [.asg 3 (mE 2 v0 []),.asg 4 (kA 2 [v0,v1]),.ifs (.cmp .Eq v4 (cS [])) (sL [.asg 4 (kA 1 [v0]),.ifs (.cmp .Eq v4 (cS [])) (sL [.bad]) .nil,.expr (kA 0 [v0,v1,v4])]) .nil,.ifs (.cmp .In v4 v2) (sL [.bad]) .nil,.expr (mE 1 v2 [v4])])]
def yB:cG:=⟨[],[("read_named_clause",rh),("clause_word",Ca),("read_bare_clause",sz)],[("is_sign",qh),("append",(fX gy)),("peek",y6)]⟩
def M4:SM:=
  ci yB AO
def Ac:aW:=bo 2 [] M4
def yn:TS:=sL [.asgA 20 v0 v1,.asgA 18 v0 v2,.asgA 16 v0 (.cst (.none)),.asgA 15 v0 (cS []),.asgA 10 v0 (cS []),.asgA 35 v0 (.cst (.bool false)),.asgA 14 v0 (.cst (.none)),.asgA 17 v0 (cS []),.asgA 11 v0 (.cst (.none)),.asgA 13 v0 (.cst (.bool false)),.asgA 12 v0 (.cst (.bool false)),.asgA 23 v0 (lS []),.asgA 22 v0 (lS []),.asgA 34 v0 (.cst (.none)),.asgA 21 v0 (.cst (.none)),.asgA 33 v0 (cS []),.asgA 32 v0 (cI 0),.asgA 31 v0 (cI 0),.asgA 30 v0 (.cst (.none))]
noncomputable def wx:cG:=⟨[],[],[]⟩
def xH:SM:=
  ci wx yn
def Ky:aW:=bo 3 [] xH
def oY:aW:=uC cq Ky
def Nz:TS:=sL [.ifs (.not (.atr 38 v0)) (sL [.bad]) .nil,.ret (kA 0 [v1,.atr 4 (.idx (.atr 38 v0) (kA 1 [.atr 4 v0,.bin .Sub (kA 2 [.atr 38 v0]) (cI 1)]))])]
def LF:cG:=⟨[],[("GrammarFault",WE),("min",UK),("len",ef)],[]⟩
def rR:SM:=
  (aV (sh (pe (ji (un (aA 38) (al 0))))
  (aV (fun _ _=>none)
  bu)
  bu)
  (aV (eI (bq WE (aw (al 1) (aw (un (aA 4) (bi eH (un (aA 38) (al 0)) (bq UK (aw (un (aA 4) (al 0)) (aw (bi (b4 .Sub) (bq ef (aw (un (aA 38) (al 0)) aG)) (ba (.int (1)))) aG))))) aG))))
  bu))
def nB:aW:=bo 2 [] rR
def ade:gW:=(fx du nB gU)
def OF:gW:=(fx du SK gU)
def Go:TS:=sL [.asg 1 (mE 5 v0 [cS [110,111,32,108,101,118,101,108]]),.asg 2 (mE 4 v0 []),.ifs (.and (.not (.cmp2 .LtE .LtE (cI 1) v2 (.glb 4))) (.cmp .NotIn v2 (tU [.glb 1,.glb 2,.glb 0]))) (sL [.bad]) .nil,.asg 3 (kA 4 [v2,.glb 3]),.ifs (mE 1 v0 []) (sL [.asgA 18 v3 (mE 2 v0 [])]) (sL [.ifs (.cmp .In v2 (tU [.glb 1,.glb 2,.glb 0])) (sL [.bad]) (sL [.expr (mE 3 v0 [.glb 3])])]),.ifs (.cmp .Eq v2 (.glb 0)) (sL [.asgA 23 v3 (lS [kA 0 [.atr 18 v3,kA 1 [v0]]])]) (sL [.ifs (.cmp .Eq v2 (.glb 1)) (sL [.asgA 21 v3 (kA 2 [v0])]) (sL [.expr (kA 3 [v0,v3])])]),.expr (mE 0 v0 [cS [46]]),.ret v3]
def Ed:cG:=⟨[("NAMING",Kt),("RENAMING",BS),("ALONE",BQ),("FILLER",SP),("MOST_LEVEL",FJ)],[("Named",xA),("read_worths",Ci),("read_renames",Af),("read_clauses",Ac),("Item",oY)],[("need_sign",y5),("is_name",t8),("name",Ew),("skip",vF),("whole",OG),("fault",OF)]⟩
def RS:SM:=
  ci Ed Go
def lM:aW:=bo 1 [] RS
def qL:aW:=ux wQ lM
def AQ:TS:=sL [.asg 1 (lS []),.whl (kA 1 [v0]) (sL [.expr (mE 0 v1 [kA 2 [v0]])]),.ret (kA 0 [v1])]
def yD:cG:=⟨[],[("nested",SU),("is_level_here",qe),("read_entry",wD)],[("append",(fX gy))]⟩
def M6:SM:=
  ci yD AQ
def xy:aW:=Jv (ur aj2 12) (bo 1 [] M6)
def nD:aW:=ux nW xy
def u5:TS:=sL [.asg 3 (mE 3 v0 [cS [97,32,102,105,108,101,32,116,119,105,99,101,44,32,111,114,32,111,110,101,32,119,105,116,104,111,117,116,32,114,101,99,111,114,100,115]]),.asg 4 (mE 2 v0 []),.whl (.not (mE 1 v0 [cS [46]])) (sL [.bad,.bad]),.asg 5 (kA 0 [v0]),.ifs (.cmp .NotEq (.comp [6] v5 (.cmp .Eq (.atr 20 v6) (.glb 0)) v6) (lS [])) (sL [.bad]) .nil,.ifs (.or (.cmp .In v4 (.atr 26 v1)) (.cmp .Eq v5 (lS []))) (sL [.bad]) .nil,.asgI (.atr 26 v1) v4 v5,.ifs v2 (sL [.expr (mE 0 (.atr 27 v1) [v4])]) .nil]
def sV:cG:=⟨[("ALONE",BQ)],[("read_entries",nA)],[("append",(fX gy)),("skip_sign",s7),("name",Ew),("fault",OF)]⟩
def G9:SM:=
  ci sV u5
def uc:aW:=bo 3 [] G9
def ym:TS:=sL [.asgA 24 v0 (lS []),.asgA 25 v0 (lS []),.asgA 26 v0 .dic,.asgA 27 v0 (lS []),.asgA 31 v0 (cI 0),.asgA 5 v0 .dic]
noncomputable def ww:cG:=⟨[],[],[]⟩
def xG:SM:=
  ci ww ym
def Kx:aW:=bo 1 [] xG
def vG:aW:=uC ZO Kx
def JW:TS:=sL [.asg 1 (kA 3 []),.ifs (.not (kA 0 [v0,cS [68,65,84,65,32,68,73,86,73,83,73,79,78]])) (sL [.ret v1]) .nil,.ifs (kA 0 [v0,cS [70,73,76,69,32,83,69,67,84,73,79,78]]) (sL [.whl (.or (mE 0 v0 [cS [70,68]]) (mE 0 v0 [cS [83,68]])) (sL [.expr (kA 2 [v0,v1,.cmp .Eq (.atr 1 (mE 2 v0 [])) (cS [83,68])])])]) .nil,.ifs (kA 0 [v0,cS [87,79,82,75,73,78,71,45,83,84,79,82,65,71,69,32,83,69,67,84,73,79,78]]) (sL [.asgA 24 v1 (kA 1 [v0])]) .nil,.ifs (kA 0 [v0,cS [76,73,78,75,65,71,69,32,83,69,67,84,73,79,78]]) (sL [.asgA 25 v1 (kA 1 [v0])]) .nil,.ifs (.and (.not (mE 1 v0 [])) (.not (mE 0 v0 [cS [80,82,79,67,69,68,85,82,69,32,68,73,86,73,83,73,79,78]]))) (sL [.bad]) .nil,.ret v1]
def Gx:cG:=⟨[],[("skip_heading",Aj),("read_entries",nA),("read_file_entry",uc),("Data",vG)],[("is_word",G3),("is_done",qg),("take",Ex)]⟩
def UT:SM:=
  ci Gx JW
def FM:aW:=Jv (ur an0 12) (bo 1 [] UT)
def o4:aW:=ux nW FM
def mq(lab:List AV->List AV):aW:=fun args σ=>self args σ fun r as L=>Lc as (o4 [.ref r] (σ.set r (.orc 1021 (lab L))))
def H5:TS:=sL [.asgA 38 v0 v1,.asgA 4 v0 v2,.asgA 37 v0 .dic,.asgA 36 v0 .dic]
noncomputable def FB:cG:=⟨[],[],[]⟩
def ky:SM:=
  (aV (l4 38 (al 0) (al 1))
  (aV (l4 4 (al 0) (al 2))
  (aV (l4 37 (al 0) F2)
  (aV (l4 36 (al 0) F2)
  bu))))
def jb:aW:=bo 3 [.int (0)] ky
def xB:aW:=anX (uC du jb)
def wq:TS:=sL [.asgA 2 v0 v1,.asgA 1 v0 v2,.asgA 4 v0 v3,.asgA 28 v0 v4]
noncomputable def vc:cG:=⟨[],[],[]⟩
def vL:SM:=
  ci vc wq
def IG:aW:=bo 5 [.tup [.int (0),.int (0)],.bool false] vL
def OH:aW:=F5 8 (uC Vf IG)
def u4:TS:=sL [.ret (.and (.cmp .Gt (kA 0 [v0]) (cI 0)) (.and (.cmp .Eq (.atr 2 (.idx v0 (.neg (cI 1)))) (cS [119,111,114,100])) (.cmp .In (.atr 1 (.idx v0 (.neg (cI 1)))) (tU [cS [80,73,67],cS [80,73,67,84,85,82,69]]))))]
def sU:cG:=⟨[],[("len",ef)],[]⟩
def G8:SM:=
  ci sU u4
def ub:aW:=bo 1 [] G8
def Gj:TS:=sL [.ret (.ife (.cmp2 .LtE .LtE (cS [97]) v0 (cS [122])) (kA 0 [.bin .Sub (kA 1 [v0]) (cI 32)]) v0)]
def D8:cG:=⟨[],[("chr",Zr),("ord",Zs)],[]⟩
def RM:SM:=
  ci D8 Gj
def qK:aW:=bo 1 [] RM
def MA:TS:=sL [.ret (mE 0 (cS []) [.comp [1] v0 .nop (kA 0 [v1])])]
def J9:cG:=⟨[],[("capital_of",eS)],[("join",(iz vC))]⟩
def WO:SM:=
  ci J9 MA
def vI:aW:=bo 1 [] WO
def DL:TS:=sL [.asg 2 v1,.whl (.and (.cmp .Lt v2 (kA 0 [v0])) (.cmp .NotIn (.idx v0 v2) (cS [32,61]))) (sL [.asg 2 (.bin .Add v2 (cI 1))]),.ret (.ife (.and (.cmp .Gt v2 v1) (.cmp .In (.idx v0 (.bin .Sub v2 (cI 1))) (.glb 0))) (.bin .Sub v2 (cI 1)) v2)]
def A8:cG:=⟨[("ENDS",abM)],[("len",ef)],[]⟩
def OU:SM:=
  ci A8 DL
def Cf:aW:=bo 2 [] OU
def u2:TS:=sL [.asg 2 (kA 1 [.atr 0 v0,v1]),.ifs (.cmp .Eq v2 v1) (sL [.bad]) .nil,.ret (tU [kA 0 [.slc (.atr 0 v0) v1 v2],v2])]
def sT:cG:=⟨[],[("capitals",vI),("picture_end",Cf)],[]⟩
def G7:SM:=
  ci sT u2
def ua:aW:=bo 2 [] G7
def JV:TS:=sL [.ret (.or (.cmp .GtE v1 (kA 0 [v0])) (.cmp .Eq (.idx v0 v1) (cS [32])))]
def Gw:cG:=⟨[],[("len",ef)],[]⟩
def UR:SM:=
  ci Gw JV
def tb:aW:=bo 2 [] UR
def Rb:TS:=sL [.asg 2 (.slc (.atr 0 v0) v1 (.bin .Add v1 (cI 2))),.ifs (.cmp .Eq v2 (cS [61,61])) (sL [.bad]) .nil,.ifs (.cmp .In v2 (mE 0 (.glb 1) [cS [32]])) (sL [.bad]) .nil,.asg 3 (.idx (.atr 0 v0) v1),.ifs (.or (.cmp .In v3 (.glb 0)) (.and (.cmp .Eq v3 (cS [46])) (kA 0 [.atr 0 v0,.bin .Add v1 (cI 1)]))) (sL [.ret (tU [cS [115,105,103,110],v3])]) .nil,.bad]
def MO:cG:=⟨[("SINGLE_SIGNS",zZ),("DOUBLE_SIGNS",zX)],[("is_parted",tb)],[("split",(iz kL))]⟩
def ZB:SM:=
  ci MO Rb
def OJ:aW:=bo 2 [] ZB
def uZ:TS:=sL [.asg 3 (.idx (.atr 0 v0) v1),.asg 4 (mE 0 (.slc (.atr 0 v0) (.bin .Add v1 (cI 1)) (.bin .Sub v2 (cI 1))) [.bin .Add v3 v3,v3]),.ifs (.not (.cmp2 .LtE .LtE (cI 1) (kA 0 [v4]) (.glb 0))) (sL [.bad]) .nil,.ret v4]
def sS:cG:=⟨[("MOST_LITERAL",zY)],[("len",ef)],[("replace",(iz t5))]⟩
def G6:SM:=
  ci sS uZ
def t9:aW:=bo 3 [] G6
def AM:TS:=sL [.ret (.cmp .In (kA 0 [v0]) (.glb 0))]
def yz:cG:=⟨[("WORD_SIGNS",wE)],[("capital_of",eS)],[]⟩
def M2:SM:=
  ci yz AM
def Ab:aW:=bo 1 [] M2
def Gm:TS:=sL [.asg 2 (.slc (.atr 0 v0) v1 (.bin .Add v1 (cI 2))),.ifs (.cmp .Eq v2 (cS [])) (sL [.bad]) .nil,.ifs (.or (.and (kA 0 [.idx v2 (cI 0)]) (.cmp .NotEq (.idx v2 (cI 0)) (cS [45]))) (.cmp .In (.idx v2 (cI 0)) (.glb 1))) (sL [.bad]) .nil,.ifs (.and (.cmp .Eq (.idx v2 (cI 0)) (cS [46])) (.and (.cmp .NotEq (.slc v2 (cI 1) .nop) (cS [])) (.cmp .In (.idx v2 (cI 1)) (.glb 0)))) (sL [.bad]) .nil]
def Eb:cG:=⟨[("FIGURES_tokens",lq),("QUOTES",Ku)],[("is_word_sign",Ab)],[]⟩
def RP:SM:=
  ci Eb Gm
def FS:aW:=bo 2 [] RP
def DK:TS:=sL [.asg 2 (.idx (.atr 0 v0) v1),.asg 3 (.bin .Add v1 (cI 1)),.whl (.cmp .Lt v3 (kA 0 [.atr 0 v0])) (sL [.ifs (.cmp .NotEq (.idx (.atr 0 v0) v3) v2) (sL [.asg 3 (.bin .Add v3 (cI 1))]) (sL [.ifs (.cmp .Eq (.slc (.atr 0 v0) (.bin .Add v3 (cI 1)) (.bin .Add v3 (cI 2))) v2) (sL [.bad]) (sL [.ret (.bin .Add v3 (cI 1))])])]),.bad]
def A7:cG:=⟨[],[("len",ef)],[]⟩
def OT:SM:=
  ci A7 DK
def Ce:aW:=bo 2 [] OT
def AJ:TS:=sL [.asg 3 (kA 1 [.slc (.atr 0 v0) v1 v2]),.ifs (.cmp .Eq (.comp [4] v3 (.cmp .In v4 (.glb 1)) v4) (lS [])) (sL [.bad]) .nil,.ifs (.cmp .Eq (.idx v3 (.neg (cI 1))) (cS [45])) (sL [.bad]) .nil,.ifs (.cmp .Gt (kA 0 [v3]) (.glb 0)) (sL [.bad]) .nil,.ret v3]
def yw:cG:=⟨[("MOST_WORD",ID),("LETTERS",GZ)],[("len",ef),("capitals",vI)],[]⟩
def MZ:SM:=
  ci yw AJ
def z7:aW:=bo 3 [] MZ
def wt:TS:=sL [.asg 3 (.slc (.atr 0 v0) v1 v2),.ifs (.cmp .Gt (kA 0 [.rep 46 v3]) (.glb 0)) (sL [.bad]) .nil,.ret v3]
def vd:cG:=⟨[("MOST_FIGURES",rL)],[("len",ef)],[]⟩
def IL:SM:=
  ci vd wt
def vJ:aW:=bo 3 [] IL
def Rd:TS:=sL [.whl (.and (.cmp .Lt v1 (kA 1 [v0])) (.cmp .In (kA 0 [.idx v0 v1]) v2)) (sL [.asg 1 (.bin .Add v1 (cI 1))]),.ret v1]
def MQ:cG:=⟨[],[("capital_of",eS),("len",ef)],[]⟩
def ZD:SM:=
  ci MQ Rd
def qk:aW:=bo 3 [] ZD
def Gn:TS:=sL [.asg 2 (kA 0 [v0,v1,.glb 0]),.ifs (.and (.cmp .Eq (.slc v0 v2 (.bin .Add v2 (cI 1))) (cS [46])) (.and (.cmp .NotEq (.slc v0 (.bin .Add v2 (cI 1)) (.bin .Add v2 (cI 2))) (cS [])) (.cmp .In (.idx v0 (.bin .Add v2 (cI 1))) (.glb 0)))) (sL [.asg 2 (kA 0 [v0,.bin .Add v2 (cI 1),.glb 0])]) .nil,.ret v2]
def Ec:cG:=⟨[("FIGURES_tokens",lq)],[("run_end",zg)],[]⟩
def RQ:SM:=
  ci Ec Gn
def FT:aW:=bo 2 [] RQ
def MH:TS:=sL [.asg 2 (kA 9 [.idx (.atr 0 v0) v1]),.ifs (.or (.cmp .In v2 (.glb 2)) (.cmp .In v2 (.glb 1))) (sL [.asg 3 (kA 8 [.atr 0 v0,v1,.glb 3]),.asg 4 (kA 7 [.atr 0 v0,v1]),.ifs (.and (.cmp .In v2 (.glb 1)) (.cmp .GtE v4 v3)) (sL [.expr (kA 3 [v0,v4]),.ret (tU [cS [110,117,109,98,101,114],kA 6 [v0,v1,v4],v4])]) .nil,.expr (kA 3 [v0,v3]),.ret (tU [cS [119,111,114,100],kA 5 [v0,v1,v3],v3])]) .nil,.ifs (.and (.cmp .Eq v2 (cS [46])) (.and (.cmp .NotEq (.slc (.atr 0 v0) (.bin .Add v1 (cI 1)) (.bin .Add v1 (cI 2))) (cS [])) (.cmp .In (.idx (.atr 0 v0) (.bin .Add v1 (cI 1))) (.glb 1)))) (sL [.bad,.bad,.bad]) .nil,.ifs (.cmp .In v2 (.glb 0)) (sL [.asg 3 (kA 4 [v0,v1]),.expr (kA 3 [v0,v3]),.ret (tU [cS [108,105,116,101,114,97,108],kA 2 [v0,v1,v3],v3])]) .nil,.asgT [5,6] (kA 1 [v0,v1]),.ret (tU [v5,v6,.bin .Add v1 (kA 0 [v6])])]
def Kh:cG:=⟨[("QUOTES",Ku),("FIGURES_tokens",lq),("LETTERS",GZ),("WORD_SIGNS",wE)],[("len",ef),("mark_at",OJ),("checked_literal",t9),("need_apart",FS),("literal_end",Ce),("checked_word",z7),("checked_number",vJ),("number_end",FT),("run_end",zg),("capital_of",eS)],[]⟩
def WV:SM:=
  ci Kh MH
def L8:aW:=bo 2 [] WV
def Gk:TS:=sL [.ret (.and (.cmp .Eq (kA 1 [.slc v0 v1 (.bin .Add v1 (cI 2))]) (cS [73,83])) (kA 0 [v0,.bin .Add v1 (cI 2)]))]
def D9:cG:=⟨[],[("is_parted",tb),("capitals",vI)],[]⟩
def RN:SM:=
  ci D9 Gk
def FP:aW:=bo 2 [] RN
def DI:TS:=sL [.ret (.or (.cmp .Eq (.idx v0 v1) (cS [32])) (.and (.cmp .In (.idx v0 v1) (cS [44,59])) (kA 0 [v0,.bin .Add v1 (cI 1)])))]
def A5:cG:=⟨[],[("is_parted",tb)],[]⟩
def OQ:SM:=
  ci A5 DI
def Cb:aW:=bo 2 [] OQ
def Gi:TS:=sL [.asg 2 (cI 0),.asg 3 (.cst (.bool false)),.whl (.cmp .Lt v2 (kA 0 [.atr 0 v1])) (sL [.ifs (kA 6 [.atr 0 v1,v2]) (sL [.asg 2 (.bin .Add v2 (cI 1)),.cont]) .nil,.asg 4 (.idx (.atr 3 v1) v2),.ifs (.and (kA 2 [v0]) (.and (.not v3) (kA 5 [.atr 0 v1,v2]))) (sL [.bad,.bad,.bad]) .nil,.ifs (kA 2 [v0]) (sL [.asg 5 (cS [112,105,99,116,117,114,101]),.asgT [6,7] (kA 3 [v1,v2])]) (sL [.asgT [5,6,7] (kA 4 [v1,v2])]),.expr (mE 0 v0 [kA 1 [v5,v6,v4,.cmp2 .LtE .LtE (cI 8) (.idx v4 (cI 1)) (cI 11)]]),.asg 3 (.cst (.bool false)),.asg 2 v7])]
def D0:cG:=⟨[],[("len",ef),("Token",OH),("is_picture_next",ub),("checked_picture",ua),("worth_at",L8),("is_word_is",FP),("is_blank_at",Cb)],[("append",(fX gy))]⟩
def RL:SM:=
  ci D0 Gi
def FO:aW:=bo 2 [] RL
def JZ:TS:=sL [.asg 1 (lS []),.for_ [2] v0 (sL [.expr (kA 0 [v1,v2])]),.ret v1]
def Gz:cG:=⟨[],[("add_tokens",FO)],[]⟩
def UV:SM:=
  ci Gz JZ
def II:aW:=F5 12 (bo 1 [] UV)
def yo:TS:=sL [.asgA 0 v0 v1,.asgA 3 v0 v2]
noncomputable def wy:cG:=⟨[],[],[]⟩
def xI:SM:=
  ci wy yo
def Kz:aW:=bo 3 [] xI
def abP:aW:=F5 8 (uC cLine Kz)
def DT:TS:=sL [.asg 2 (.ife v1 (.glb 0) (.glb 1)),.asg 3 (kA 3 [lS [kA 4 [v0,.comp [5] (kA 0 [kA 1 [v0]]) .nop (tU [cI 1,.bin .Add v2 v5])]]]),.ret (.comp [4] (kA 0 [kA 1 [v3]]) .nop (kA 2 [.atr 2 (.idx v3 v4),.atr 1 (.idx v3 v4),.atr 4 (.idx v3 v4),.and v1 (.cmp .Eq v4 (cI 0))]))]
def Be:cG:=⟨[("AREA_A",SN),("AREA_B",SO)],[("range",lK),("len",ef),("Token",OH),("tokens_of",II),("Line",abP)],[]⟩
def O0:SM:=
  ci Be DT
def rO:aW:=bo 2 [.bool false] O0
def cN:aW:=vY aa1 rO
def Ue:TS:=sL [.ret (mE 0 (cS [32]) [.comp [1] v0 (.cmp .NotEq v1 (cS [])) v1])]
def Rp:cG:=⟨[],[],[("join",(iz vC))]⟩
def adg:SM:=
  ci Rp Ue
def Ey:aW:=bo 1 [] adg
def Ug:TS:=sL [.ret (.bin .Add (.bin .Add (cS [34]) (mE 0 v0 [cS [34],cS [34,34]])) (cS [34]))]
def Rr:cG:=⟨[],[],[("replace",(iz t5))]⟩
def adi:SM:=
  ci Rr Ug
def SV:aW:=bo 1 [] adi
def AZ:TS:=sL [.ret (kA 0 [mE 0 (cS []) [.comp [1] v0 .nop (kA 1 [v1])]])]
def yJ:cG:=⟨[],[("quoted",SV),("chr",Zr)],[("join",(iz vC))]⟩
def Nc:SM:=
  ci yJ AZ
def Ai:aW:=bo 1 [] Nc
def yr:TS:=sL [.asg 1 (kA 1 [kA 2 [.idx v0 (cI 0)]]),.ifs (.cmp .Gt (.idx v0 (cI 1)) (cI 0)) (sL [.asg 1 (.bin .Add (.bin .Mult (cS [48]) (.bin .Sub (.bin .Add (.idx v0 (cI 1)) (cI 1)) (kA 0 [v1]))) v1),.asg 1 (.bin .Add (.bin .Add (.slc v1 .nop (.bin .Sub (kA 0 [v1]) (.idx v0 (cI 1)))) (cS [46])) (.slc v1 (.bin .Sub (kA 0 [v1]) (.idx v0 (cI 1))) .nop))]) .nil,.ret (.ife (.cmp .Lt (.idx v0 (cI 0)) (cI 0)) (.bin .Add (cS [45]) v1) v1)]
def wB:cG:=⟨[],[("len",ef),("str",UL),("abs",Zq)],[]⟩
def KG:SM:=
  ci wB yr
def xF:aW:=bo 1 [] KG
def AY:TS:=sL [.asg 1 (kA 1 [v0]),.ret (.ife (.and (.cmp .Eq (.idx v0 (cI 1)) (.glb 0)) (.cmp .Lt (kA 0 [.idx v0 (cI 0)]) (.bin .Pow (cI 10) (.idx v0 (cI 1))))) (mE 0 v1 [cS [48,46],cS [46],cI 1]) v1)]
def yI:cG:=⟨[("MOST_FIGURES",rL)],[("abs",Zq),("write_decimal",xF)],[("replace",(iz t5))]⟩
def Nb:SM:=
  ci yI AY
def Ah:aW:=bo 1 [] Nb
def AX:TS:=sL [.ifs (.cmp .Eq (.idx v0 (cI 0)) (cS [114,101,102])) (sL [.bad]) .nil,.ifs (.cmp .Eq (.idx v0 (cI 0)) (cS [110,117,109,98,101,114])) (sL [.ret (kA 1 [.idx v0 (cI 1)])]) .nil,.ifs (.cmp .Eq (.idx v0 (cI 0)) (cS [102,105,103,117,114,101])) (sL [.bad]) .nil,.ret (.bin .Add (.ife (.cmp .Eq (.idx v0 (cI 0)) (cS [97,108,108])) (cS [65,76,76,32]) (cS [])) (kA 0 [.idx v0 (cI 1)]))]
def yH:cG:=⟨[],[("shown_octets",Ai),("shown_number",Ah)],[]⟩
def Na:SM:=
  ci yH AX
def Ag:aW:=bo 2 [] Na
def AN:TS:=sL [.ret (kA 0 [v0,.glb 0])]
def yA:cG:=⟨[("show_expression",.opq)],[("show_operand",Ag)],[]⟩
def M3:SM:=
  ci yA AN
def rP:aW:=bo 1 [] M3
def DR:TS:=sL [.asg 1 (lS []),.for_ [2,3] (.atr 19 v0) (sL [.expr (mE 0 v1 [.bin .Add (kA 1 [v2]) (.ife (.cmp .Is v3 (.cst (.none))) (cS []) (.bin .Add (cS [32,84,72,82,85,32]) (kA 1 [v3])))])]),.ret (.bin .Add (.bin .Add (.bin .Add (.bin .Add (cS [56,56,32]) (.atr 18 v0)) (cS [32,86,65,76,85,69,32])) (kA 0 [v1])) (cS [32,46]))]
def Bd:cG:=⟨[],[("joined",Ey),("operand_text",rP)],[("append",(fX gy))]⟩
def OZ:SM:=
  ci Bd DR
def z4:aW:=bo 1 [] OZ
def lO:aW:=vY nW z4
def Uh:TS:=sL [.ret (.ife (.cmp .Eq v1 (cS [])) (cS []) (.bin .Add (.bin .Add v0 (cS [32])) v1))]
noncomputable def Rs:cG:=⟨[],[],[]⟩
def adj:SM:=
  ci Rs Uh
def KB:aW:=bo 2 [] adj
def ME:TS:=sL [.asg 2 (mE 0 (cS [32,79,70,32]) [.bin .Add (lS [.idx v0 (cI 1)]) (kA 0 [.idx v0 (cI 2)])]),.ifs (.cmp .NotEq (.idx v0 (cI 3)) (tU [])) (sL [.bad]) .nil,.ifs (.cmp .IsNot (.idx v0 (cI 4)) (.cst (.none))) (sL [.bad,.bad]) .nil,.ret v2]
def Ke:cG:=⟨[],[("list",abK)],[("join",(iz vC))]⟩
def WS:SM:=
  ci Ke ME
def L6:aW:=bo 2 [] WS
def MD:TS:=sL [.ret (kA 0 [v0,.glb 0])]
def Kd:cG:=⟨[("show_expression",.opq)],[("show_ref",L6)],[]⟩
def WR:SM:=
  ci Kd MD
def L5:aW:=bo 1 [] WR
def DQ:TS:=sL [.ifs (.cmp .Is (.atr 7 v0) (.cst (.none))) (sL [.asg 1 (.bin .Add (.bin .Add (cS [79,67,67,85,82,83,32]) (kA 2 [.atr 8 v0])) (cS [32,84,73,77,69,83]))]) (sL [.asg 1 (.bin .Add (.bin .Add (.bin .Add (.bin .Add (.bin .Add (cS [79,67,67,85,82,83,32]) (kA 2 [.atr 8 v0])) (cS [32,84,79,32])) (kA 2 [.atr 9 v0])) (cS [32,84,73,77,69,83,32,68,69,80,69,78,68,73,78,71,32,79,78,32])) (kA 3 [.atr 7 v0]))]),.asg 2 (.comp [3,4] (.atr 6 v0) .nop (.bin .Add (.ife v3 (cS [65,83,67,69,78,68,73,78,71,32,75,69,89,32,73,83,32]) (cS [68,69,83,67,69,78,68,73,78,71,32,75,69,89,32,73,83,32])) v4)),.ret (kA 0 [.bin .Add (.bin .Add (lS [v1]) v2) (lS [kA 1 [cS [73,78,68,69,88,69,68,32,66,89],kA 0 [.atr 5 v0]]])])]
def Bc:cG:=⟨[],[("joined",Ey),("worded",KB),("str",UL),("ref_text",L5)],[]⟩
def OY:SM:=
  ci Bc DQ
def Cj:aW:=bo 1 [] OY
def JY:TS:=sL [.ifs (.cmp .Eq (.atr 10 v0) (cS [])) (sL [.ret (cS [])]) .nil,.bad]
noncomputable def Gy:cG:=⟨[],[],[]⟩
def UU:SM:=
  ci Gy JY
def IH:aW:=bo 1 [] UU
def AK:TS:=sL [.ret (lS [kA 3 [cS [82,69,68,69,70,73,78,69,83],.atr 17 v0],.ife (.cmp .Is (.atr 16 v0) (.cst (.none))) (cS []) (.bin .Add (cS [80,73,67,32]) (.atr 16 v0)),.ife (.cmp .Eq (.atr 15 v0) (cS [])) (cS []) (.bin .Add (cS [85,83,65,71,69,32,73,83,32]) (.idx (.glb 0) (.atr 15 v0))),kA 2 [v0],.ife (.cmp .Is (.atr 14 v0) (.cst (.none))) (cS []) (kA 1 [.atr 14 v0]),.ife (.atr 13 v0) (cS [74,85,83,84,73,70,73,69,68,32,82,73,71,72,84]) (cS []),.ife (.atr 12 v0) (cS [66,76,65,78,75,32,87,72,69,78,32,90,69,82,79]) (cS []),.ife (.cmp .Is (.atr 11 v0) (.cst (.none))) (cS []) (.bin .Add (cS [86,65,76,85,69,32,73,83,32]) (kA 0 [.atr 11 v0]))])]
def yx:cG:=⟨[("USAGE_NAMES",BU)],[("operand_text",rP),("show_occurs",Cj),("show_sign",IH),("worded",KB)],[]⟩
def M0:SM:=
  ci yx AK
def z8:aW:=bo 1 [] M0
def Gl:TS:=sL [.ret (.slc (.bin .Add (cS [48]) (kA 0 [v0])) (.neg (cI 2)) .nop)]
def Ea:cG:=⟨[],[("str",UL)],[]⟩
def RO:SM:=
  ci Ea Gl
def FQ:aW:=bo 1 [] RO
def Gp:TS:=sL [.asg 1 (.bin .Add (.bin .Add (kA 2 [.atr 20 v0]) (cS [32])) (.atr 18 v0)),.ifs (.cmp .Eq (.atr 20 v0) (.glb 0)) (sL [.asgT [2,3] (.atr 21 v0),.ret (.bin .Add (.bin .Add (.bin .Add (.bin .Add v1 (cS [32,82,69,78,65,77,69,83,32])) v2) (.ife (.cmp .Is v3 (.cst (.none))) (cS []) (.bin .Add (cS [32,84,72,82,85,32]) v3))) (cS [32,46]))]) .nil,.ret (kA 0 [.bin .Add (.bin .Add (lS [v1]) (kA 1 [v0])) (lS [cS [46]])])]
def Ee:cG:=⟨[("RENAMES_LEVEL",xr)],[("joined",Ey),("clause_texts",z8),("level_text",FQ)],[]⟩
def RT:SM:=
  ci Ee Gp
def BW:aW:=bo 1 [] RT
def nk:aW:=vY nW BW
def NB:TS:=sL [.asg 1 (kA 1 [kA 3 [v0],.cmp .In (.atr 20 v0) (.glb 0)]),.for_ [2] (.atr 23 v0) (sL [.expr (mE 0 v1 [kA 1 [kA 2 [v2]]])]),.for_ [3] (.atr 22 v0) (sL [.expr (mE 0 v1 [kA 0 [v3]])]),.ret v1]
def LH(self:aW):cG:=⟨[("TOP_LEVELS",iY)],[("entry_tokens",self),("text_tokens",cN),("show_worths",lO),("show_entry",nk)],[("extend",(fX gk))]⟩
def nE(self:aW):SM:=
  (aV (cV [1] (bq cN (aw (bq nk (aw (al 0) aG)) (aw (rY (eJ (bO .In) (un (aA 20) (al 0)) (ba iY))) aG))))
  (aV (gG [2] (un (aA 23) (al 0))
  (aV (lj (cK (fX gk) (al 1) (aw (bq cN (aw (bq lO (aw (al 2) aG)) aG)) aG)))
  bu))
  (aV (gG [3] (un (aA 22) (al 0))
  (aV (lj (cK (fX gk) (al 1) (aw (bq self (aw (al 3) aG)) aG)))
  bu))
  (aV (eI (al 1))
  bu))))
def xx(self:aW):aW:=F5 12 (bo 1 [] (nE self))
noncomputable def cv:Nat->aW
 |0=>UJ
 |n+1=>vY nW (xx (cv n))
def NC:TS:=sL [.asg 1 (lS []),.for_ [2] v0 (sL [.expr (mE 0 v1 [kA 0 [v2]])]),.ret v1]
def LK:cG:=⟨[],[("entry_tokens",(cv 6))],[("extend",(fX gk))]⟩
def rT:SM:=
  (aV (cV [1] (bq df aG))
  (aV (gG [2] (al 0)
  (aV (lj (cK (fX gk) (al 1) (aw (bq (cv 6) (aw (al 2) aG)) aG)))
  bu))
  (aV (eI (al 1))
  bu)))
def xz:aW:=F5 12 (bo 1 [] rT)
def iJ:aW:=vY nW xz
def JX:TS:=sL [.ifs (.cmp .Eq v1 (lS [])) (sL [.ret (lS [])]) .nil,.ret (.bin .Add (kA 0 [.bin .Add v0 (cS [32,83,69,67,84,73,79,78,46]),.cst (.bool true)]) (kA 1 [v1]))]
def Ib:cG:=⟨[],[("text_tokens",cN),("roots_tokens",iJ)],[]⟩
def eZ:SM:=
  (aV (sh (eJ (bO .Eq) (al 1) (bq df aG))
  (aV (eI (bq df aG))
  bu)
  bu)
  (aV (eI (bi (b4 .Add) (bq cN (aw (bi (b4 .Add) (al 0) (ba (.str [32,83,69,67,84,73,79,78,46]))) (aw (ba (.bool true)) aG))) (bq iJ (aw (al 1) aG))))
  bu))
def nT:aW:=F5 12 (bo 2 [] eZ)
def eY:aW:=vY nW nT
def Q9:TS:=sL [.asg 1 (lS []),.for_ [2] (.atr 26 v0) (sL [.asg 3 (.ife (.cmp .In v2 (.atr 27 v0)) (cS [83,68,32]) (cS [70,68,32])),.expr (mE 0 v1 [.bin .Add (kA 0 [.bin .Add (.bin .Add v3 v2) (cS [46]),.cst (.bool true)]) (kA 2 [.idx (.atr 26 v0) v2])])]),.ifs (.cmp .NotEq v1 (lS [])) (sL [.asg 1 (.bin .Add (kA 0 [cS [70,73,76,69,32,83,69,67,84,73,79,78,46],.cst (.bool true)]) v1)]) .nil,.asg 1 (.bin .Add (.bin .Add v1 (kA 1 [cS [87,79,82,75,73,78,71,45,83,84,79,82,65,71,69],.atr 24 v0])) (kA 1 [cS [76,73,78,75,65,71,69],.atr 25 v0])),.ret (.ife (.cmp .NotEq v1 (lS [])) (.bin .Add (kA 0 [cS [68,65,84,65,32,68,73,86,73,83,73,79,78,46],.cst (.bool true)]) v1) (lS []))]
def NI:cG:=⟨[],[("text_tokens",cN),("section_tokens",eY),("roots_tokens",iJ)],[("extend",(fX gk))]⟩
def o9:SM:=
  (aV (cV [1] (bq df aG))
  (aV (gG [2] (un (aA 26) (al 0))
  (aV (cV [3] (tl (eJ (bO .In) (al 2) (un (aA 27) (al 0))) (ba (.str [83,68,32])) (ba (.str [70,68,32]))))
  (aV (lj (cK (fX gk) (al 1) (aw (bi (b4 .Add) (bq cN (aw (bi (b4 .Add) (bi (b4 .Add) (al 3) (al 2)) (ba (.str [46]))) (aw (ba (.bool true)) aG))) (bq iJ (aw (bi eH (un (aA 26) (al 0)) (al 2)) aG))) aG)))
  bu)))
  (aV (sh (eJ (bO .NotEq) (al 1) (bq df aG))
  (aV (cV [1] (bi (b4 .Add) (bq cN (aw (ba (.str [70,73,76,69,32,83,69,67,84,73,79,78,46])) (aw (ba (.bool true)) aG))) (al 1)))
  bu)
  bu)
  (aV (cV [1] (bi (b4 .Add) (bi (b4 .Add) (al 1) (bq eY (aw (ba (.str [87,79,82,75,73,78,71,45,83,84,79,82,65,71,69])) (aw (un (aA 24) (al 0)) aG)))) (bq eY (aw (ba (.str [76,73,78,75,65,71,69])) (aw (un (aA 25) (al 0)) aG)))))
  (aV (eI (tl (eJ (bO .NotEq) (al 1) (bq df aG)) (bi (b4 .Add) (bq cN (aw (ba (.str [68,65,84,65,32,68,73,86,73,83,73,79,78,46])) (aw (ba (.bool true)) aG))) (al 1)) (bq df aG)))
  bu)))))
def rN:aW:=F5 12 (bo 1 [] o9)
def ir:aW:=aaf 14 (vY nW rN)
def Lx:TS:=sL [.asg 1 (kA 7 [v0]),.asg 2 (kA 6 [v1]),.ifs (.or (.cmp .NotEq (mE 0 (kA 5 [v2]) []) (mE 0 v0 [])) (.not (mE 1 v2 []))) (sL [.bad]) .nil,.asg 3 (.bin .Add (.bin .Add (.comp2 15 (.atr 26 v0) 16 (.idx (.atr 26 v0) v15) v16) (.atr 24 v0)) (.atr 25 v0)),.frz 3,.ifs (.cmp .Eq v3 (lS [])) (sL [.ret (.cmp .Eq v1 (lS []))]) .nil,.asg 4 (.bin .Add (.bin .Add (.bin .Add (lS [cS [68,65,84,65]]) (.ife (.cmp .NotEq (.atr 26 v0) .dic) (lS [cS [70,73,76,69]]) (lS []))) (.ife (.cmp .NotEq (.atr 24 v0) (lS [])) (lS [cS [87,79,82,75,73,78,71,45,83,84,79,82,65,71,69]]) (lS []))) (.ife (.cmp .NotEq (.atr 25 v0) (lS [])) (lS [cS [76,73,78,75,65,71,69]]) (lS []))),.asg 5 (.comp [14] v1 (.atr 28 v14) (.atr 1 v14)),.ifs (.cmp .NotEq (kA 4 [v5]) (kA 4 [.bin .Add (.bin .Add v4 (.comp [12] (.atr 26 v0) .nop (.ife (.cmp .In v12 (.atr 27 v0)) (cS [83,68]) (cS [70,68])))) (.comp [13] v3 .nop (.idx (.dicI 1 77 [48,49] [55,55]) (.atr 20 v13)))])) (sL [.bad]) .nil,.asg 6 (.comp [11] (kA 2 [kA 3 [v1]]) (.or (.cmp .Eq v11 (cI 0)) (.cmp .Eq (mE 0 (.idx v1 (.bin .Sub v11 (cI 1))) []) (tU [cS [115,105,103,110],cS [46]]))) (.idx v1 v11)),.asg 7 (.comp [10] v6 (.cmp .Eq (.atr 2 v10) (cS [110,117,109,98,101,114])) (kA 1 [.atr 1 v10])),.ret (.cmp .Eq v7 (.comp2 8 v3 9 (kA 0 [v8]) v9))]
def J8(lab:List AV->List AV):cG:=⟨[],[("_law_walked",(bC 6)),("int",t4),("range",lK),("len",ef),("sorted",qf),("read_data",(mq lab)),("Reader",xB),("data_tokens",ir)],[("told",qG),("is_done",qg)]⟩
def gA(lab:List AV->List AV):SM:=
  (aV (cV [1] (bq ir (aw (al 0) aG)))
  (aV (cV [2] (bq xB (aw (al 1) aG)))
  (aV (sh (R8 (eJ (bO .NotEq) (cK qG (bq (mq lab) (aw (al 2) aG)) aG) (cK qG (al 0) aG)) (pe (ji (cK qg (al 2) aG))))
  (aV (fun _ _=>none)
  bu)
  bu)
  (aV (cV [3] (bi (b4 .Add) (bi (b4 .Add) (qP 15 (un (aA 26) (al 0)) 16 (bi eH (un (aA 26) (al 0)) (al 15)) (al 16)) (un (aA 24) (al 0))) (un (aA 25) (al 0))))
  (aV (QP 3)
  (aV (sh (eJ (bO .Eq) (al 3) (bq df aG))
  (aV (eI (rY (eJ (bO .Eq) (al 1) (bq df aG))))
  bu)
  bu)
  (aV (cV [4] (bi (b4 .Add) (bi (b4 .Add) (bi (b4 .Add) (bq df (aw (ba (.str [68,65,84,65])) aG)) (tl (eJ (bO .NotEq) (un (aA 26) (al 0)) F2) (bq df (aw (ba (.str [70,73,76,69])) aG)) (bq df aG))) (tl (eJ (bO .NotEq) (un (aA 24) (al 0)) (bq df aG)) (bq df (aw (ba (.str [87,79,82,75,73,78,71,45,83,84,79,82,65,71,69])) aG)) (bq df aG))) (tl (eJ (bO .NotEq) (un (aA 25) (al 0)) (bq df aG)) (bq df (aw (ba (.str [76,73,78,75,65,71,69])) aG)) (bq df aG))))
  (aV (cV [5] (eX [14] (al 1) (ji (un (aA 28) (al 14))) (un (aA 1) (al 14))))
  (aV (sh (eJ (bO .NotEq) (bq qf (aw (al 5) aG)) (bq qf (aw (bi (b4 .Add) (bi (b4 .Add) (al 4) (eX [12] (un (aA 26) (al 0)) (fun _ σ=>some (true,σ)) (tl (eJ (bO .In) (al 12) (un (aA 27) (al 0))) (ba (.str [83,68])) (ba (.str [70,68]))))) (eX [13] (al 3) (fun _ σ=>some (true,σ)) (bi eH (bq (HD [1,77]) (aw (ba (.str [48,49])) (aw (ba (.str [55,55])) aG))) (un (aA 20) (al 13))))) aG)))
  (aV (fun _ _=>none)
  bu)
  bu)
  (aV (cV [6] (eX [11] (bq lK (aw (bq ef (aw (al 1) aG)) aG)) (R8 (eJ (bO .Eq) (al 11) (ba (.int (0)))) (eJ (bO .Eq) (cK qG (bi eH (al 1) (bi (b4 .Sub) (al 11) (ba (.int (1))))) aG) (bq gp (aw (ba (.str [115,105,103,110])) (aw (ba (.str [46])) aG))))) (bi eH (al 1) (al 11))))
  (aV (cV [7] (eX [10] (al 6) (eJ (bO .Eq) (un (aA 2) (al 10)) (ba (.str [110,117,109,98,101,114]))) (bq t4 (aw (un (aA 1) (al 10)) aG))))
  (aV (eI (rY (eJ (bO .Eq) (al 7) (qP 8 (al 3) 9 (bq (bC 6) (aw (al 8) aG)) (al 9)))))
  bu))))))))))))
def eR(lab:List AV->List AV):aW:=aaf 14 (bo 1 [] (gA lab))
def Wf:TS:=sL [.asg 2 (.bin .Mod (.idx v0 (cI 0)) v1),.asgI v0 (cI 0) (.bin .FloorDiv (.idx v0 (cI 0)) v1),.ret v2]
noncomputable def Sy:cG:=⟨[],[],[]⟩
def zc:SM:=
  (aV (cV [2] (bi (b4 .Mod) (bi eH (al 0) (ba (.int (0)))) (al 1)))
  (aV (QO (al 0) (ba (.int (0))) (bi (b4 .FloorDiv) (bi eH (al 0) (ba (.int (0)))) (al 1)))
  (aV (eI (al 2))
  bu)))
def y9:aW:=bo 2 [] zc
def JS:TS:=sL [.asg 3 (kA 3 [v1,v2]),.asg 4 (kA 0 [v0,cI 5]),.ifs (.cmp .Eq v4 (cI 1)) (sL [.asgA 15 v3 (cS [112,97,99,107,101,100])]) (sL [.ifs (.cmp .Eq v4 (cI 2)) (sL [.asgA 14 v3 (kA 2 [cI 3,cI 3,.cst (.none),lS [tU [.cst (.bool false),cS [75]]],lS [cS [73,88]]])]) (sL [.ifs (.cmp .Eq v4 (cI 3)) (sL [.asgA 14 v3 (kA 2 [cI 0,cI 4,tU [cS [114,101,102],cS [78],tU [cS [71]],tU [],.cst (.none)]])]) .nil])]),.ifs (.cmp .Eq (kA 0 [v0,cI 4]) (cI 0)) (sL [.expr (mE 0 (.atr 23 v3) [kA 1 [.bin .Add (cS [73,83,45]) v2,lS [tU [tU [cS [110,117,109,98,101,114],tU [.neg (cI 5),cI 0]],tU [cS [110,117,109,98,101,114],tU [cI 125,cI 2]]],tU [tU [cS [116,101,120,116],.cst (.bytes [113])],.cst (.none)]]]])]) .nil,.ret v3]
def Gs:cG:=⟨[],[("_law_take",BF),("Named",xA),("Occurs",KA),("Item",oY)],[("append",(fX gy))]⟩
def UO:SM:=
  ci Gs JS
def qI:aW:=Jv (PZ anZ 12) (bo 3 [] UO)
def y7:aW:=ux wQ qI
def JT:TS:=sL [.asg 3 (kA 1 [v0,v1,v2]),.asgA 16 v3 (.idx (lS [cS [88,40,52,41],cS [83,57,40,51,41,86,57,57],cS [90,90,57,46,57,57]]) (kA 0 [v0,cI 3])),.ret v3]
def Gu:cG:=⟨[],[("_law_take",BF),("_law_item",qI)],[]⟩
def UP:SM:=
  ci Gu JT
def wI:aW:=Jv (PZ anZ 12) (bo 3 [] UP)
def y8:aW:=ux wQ wI
def JU:TS:=sL [.ifs (.cmp .Eq (kA 0 [v0,cI 4]) (cI 0)) (sL [.ret (kA 3 [v0,cI 77,v1])]) .nil,.asg 2 (kA 4 [v0,cI 1,v1]),.for_ [3] (kA 2 [kA 0 [v0,cI 3]]) (sL [.ifs (.cmp .Gt (kA 0 [v0,cI 3]) (cI 0)) (sL [.expr (mE 0 v2 [kA 3 [v0,cI 5,.idx (lS [cS [70,73,76,76,69,82],.bin .Add v1 (cS [45,66])]) (kA 0 [v0,cI 2])]]),.cont]) .nil,.asg 4 (kA 4 [v0,cI 5,.bin .Add v1 (cS [45,71])]),.for_ [5] (kA 2 [.bin .Add (cI 1) (kA 0 [v0,cI 2])]) (sL [.expr (mE 0 v4 [kA 3 [v0,cI 10,cS [76,79,87]]])]),.expr (mE 0 v2 [v4])]),.ifs (.cmp .Eq (kA 0 [v0,cI 4]) (cI 0)) (sL [.asg 6 (kA 1 [cI 66,.bin .Add v1 (cS [45,82])]),.asgA 21 v6 (tU [cS [76,79,87],.idx (lS [.cst (.none),cS [72,73,71,72,45,79,78,69]]) (kA 0 [v0,cI 2])]),.expr (mE 0 v2 [v6])]) .nil,.ret v2]
def Gv:cG:=⟨[],[("_law_take",BF),("Item",oY),("range",lK),("_law_leaf",BH),("_law_item",BG)],[("add",yY)]⟩
def UQ:SM:=
  ci Gv JU
def FL:aW:=Jv (PZ aj2 12) (bo 2 [] UQ)
def ta:aW:=ux wQ FL
def JR:TS:=sL [.asg 1 (kA 2 []),.for_ [2] (.idx (lS [lS [cS [70,49]],lS [],lS [cS [79,76,68]]]) (kA 1 [v0,cI 3])) (sL [.asgI (.atr 26 v1) v2 (lS [kA 0 [v0,.bin .Add v2 (cS [45,82,69,67])]]),.asgA 20 (.idx (.idx (.atr 26 v1) v2) (cI 0)) (cI 1),.ifs (.cmp .Eq (kA 1 [v0,cI 2]) (cI 0)) (sL [.expr (mE 0 (.atr 27 v1) [v2])]) .nil]),.asgA 24 v1 (.comp [3] (.idx (lS [lS [cS [87]],lS [cS [86,45,49]],lS []]) (kA 1 [v0,cI 3])) .nop (kA 0 [v0,v3])),.asgA 25 v1 (.slc (lS [kA 0 [v0,cS [65,82,71]]]) .nop (kA 1 [v0,cI 2])),.ret v1]
def Gr:cG:=⟨[],[("_law_root",BP),("_law_take",BF),("Data",vG)],[("append",(fX gy))]⟩
def UN:SM:=
  ci Gr JR
def qH:aW:=Jv (ur an0 12) (bo 1 [] UN)
def mv:aW:=af6 zA (ux nW qH)
def Y7:TS:=sL [.asg 1 (cI 23),.for_ [2] (.slc v0 .nop (cI 30)) (sL [.asg 1 (.bin .Add (.bin .Mult v1 (cI 1000003)) (.bin .Mod v2 (.bin .Pow (cI 10) (cI 80))))]),.ret (lS [.ife (.cmp .Gt v1 (.bin .Pow (cI 10) (cI 60))) v1 (.bin .Add (.bin .Pow v1 (cI 6)) (.bin .FloorDiv (.bin .Pow (cI 10) (cI 68)) (cI 13)))])]
noncomputable def Wo:cG:=⟨[],[],[]⟩
def Cn:SM:=
  (aV (cV [1] (ba (.int (23))))
  (aV (gG [2] (Ti (al 0) (ba .none) (ba (.int (30))))
  (aV (cV [1] (bi (b4 .Add) (bi (b4 .Mult) (al 1) (ba (.int (1000003)))) (bi (b4 .Mod) (al 2) (bi (b4 .Pow) (ba (.int (10))) (ba (.int (80)))))))
  bu))
  (aV (eI (bq df (aw (tl (eJ (bO .Gt) (al 1) (bi (b4 .Pow) (ba (.int (10))) (ba (.int (60))))) (al 1) (bi (b4 .Add) (bi (b4 .Pow) (al 1) (ba (.int (6)))) (bi (b4 .FloorDiv) (bi (b4 .Pow) (ba (.int (10))) (ba (.int (68)))) (ba (.int (13)))))) aG)))
  bu)))
def rf:aW:=bo 1 [] Cn
def apY:TS:=sL [.asgT [1,2,3] (tU [kA 3 [],kA 5 [cI 5,cS [71]],kA 5 [cI 10,cS [76]]]),.asgA 16 v3 (cS [88]),.expr (mE 2 (.atr 23 v2) [kA 6 [cS [79,78],lS [tU [tU [cS [116,101,120,116],.cst (.bytes [121])],.cst (.none)]]]]),.expr (mE 1 v2 [v3]),.asg 4 (kA 5 [cI 1,cS [82]]),.expr (mE 1 v4 [v2]),.asgA 24 v1 (lS [v4]),.asg 5 (.comp [6] (kA 4 [v1]) .nop (.atr 1 v6)),.ifs (.or (.cmp .NotEq v5 (mE 0 (cS [68,65,84,65,32,68,73,86,73,83,73,79,78,32,46,32,87,79,82,75,73,78,71,45,83,84,79,82,65,71,69,32,83,69,67,84,73,79,78,32,46,32,48,49,32,82,32,46,32,48,53,32,71,32,46,32,56,56,32,79,78,32,86,65,76,85,69,32,121,32,46,32,49,48,32,76,32,80,73,67,32,88,32,46]) [cS [32]])) (.not (kA 0 [kA 3 []]))) (sL [.bad]) .nil,.ret (kA 0 [kA 1 [kA 2 [v0]]])]
def ans(lab:List AV->List AV):cG:=⟨[],[("_law_is_right",(eR lab)),("_law_data",mv),("_law_bag",rf),("Data",vG),("data_tokens",ir),("Item",oY),("Named",xA)],[("split",(iz kL)),("add",yY),("append",(fX gy))]⟩
def US(lab:List AV->List AV):SM:=
  (aV (cV [1,2,3] (bq gp (aw (bq vG aG) (aw (bq oY (aw (ba (.int (5))) (aw (ba (.str [71])) aG))) (aw (bq oY (aw (ba (.int (10))) (aw (ba (.str [76])) aG))) aG)))))
  (aV (l4 16 (al 3) (ba (.str [88])))
  (aV (lj (cK (fX gy) (un (aA 23) (al 2)) (aw (bq xA (aw (ba (.str [79,78])) (aw (bq df (aw (bq gp (aw (bq gp (aw (ba (.str [116,101,120,116])) (aw (ba (.bytes [121])) aG))) (aw (ba (.none)) aG))) aG)) aG))) aG)))
  (aV (lj (cK yY (al 2) (aw (al 3) aG)))
  (aV (cV [4] (bq oY (aw (ba (.int (1))) (aw (ba (.str [82])) aG))))
  (aV (lj (cK yY (al 4) (aw (al 2) aG)))
  (aV (l4 24 (al 1) (bq df (aw (al 4) aG)))
  (aV (cV [5] (eX [6] (bq ir (aw (al 1) aG)) (fun _ σ=>some (true,σ)) (un (aA 1) (al 6))))
  (aV (sh (R8 (eJ (bO .NotEq) (al 5) (cK (iz kL) (ba (.str [68,65,84,65,32,68,73,86,73,83,73,79,78,32,46,32,87,79,82,75,73,78,71,45,83,84,79,82,65,71,69,32,83,69,67,84,73,79,78,32,46,32,48,49,32,82,32,46,32,48,53,32,71,32,46,32,56,56,32,79,78,32,86,65,76,85,69,32,121,32,46,32,49,48,32,76,32,80,73,67,32,88,32,46])) (aw (ba (.str [32])) aG))) (pe (ji (bq (eR lab) (aw (bq vG aG) aG)))))
  (aV (fun _ _=>none)
  bu)
  bu)
  (aV (eI (bq (eR lab) (aw (bq mv (aw (bq rf (aw (al 0) aG)) aG)) aG)))
  bu))))))))))
def Zy(lab:List AV->List AV):aW:=bo 1 [] (US lab)
noncomputable def FN:List Str:=[("text":Str),("worth":Str),("kind":Str),("places":Str),("at":Str),("indexes":Str),("keys":Str),("depending":Str),("low":Str),("high":Str),("sign":Str),("value":Str),("is_blank_zero":Str),("is_justified":Str),("occurs":Str),("usage":Str),("picture_text":Str),("redefines":Str),("name":Str),("rows":Str),("level":Str),("renames":Str),("kids":Str),("conditions":Str),("working":Str),("linkage":Str),("files":Str),("sorts":Str),("is_in_a":Str),("what":Str),("shape":Str),("size":Str),("offset":Str),("base":Str),("parent":Str),("is_separate":Str),("shared":Str),("named":Str),("tokens":Str)]
structure FR where
 x:Option Str
 f:aC
 n:Nat
 dfl:List AV
 nm:List (Nat×Str)
 N:WM
 t:TS
def dg(i:Nat)(l:List Str):List (Nat×Str):=bt (motive:=fun _=>Nat->List (Nat×Str)) (fun _=>[]) (fun x _ ih i=>(i,x)::ih (i+1)) l i
def pz:FR:=⟨some "_law_walked",1072,1,[],dg 0 ["item","found","kid"],⟨[],["_law_walked","len"],[]⟩,Q8⟩
def Ge:FR:=⟨none,201,1,[],dg 0 ["self"],⟨[],[],[]⟩,Sq⟩
def Dg:FR:=⟨none,602,1,[],dg 0 ["self"],⟨[],[],[]⟩,Q4⟩
def Gc:FR:=⟨none,630,1,[],dg 0 ["self"],⟨[],[],[]⟩,Sp⟩
def Az:FR:=⟨none,672,1,[],dg 0 ["self","often","first"],⟨[],[],["told"]⟩,Ny⟩
def JA:FR:=⟨none,677,1,[],dg 0 ["self","named"],⟨[],["tuple"],["told","clauses"]⟩,We⟩
def Jz:FR:=⟨none,703,1,[],dg 0 ["self","files"],⟨[],["tuple"],["told"]⟩,Wc⟩
def we:FR:=⟨none,882,1,[],dg 0 ["self"],⟨[],["len"],[]⟩,JO⟩
def Dj:FR:=⟨none,875,2,[.int (0)],dg 0 ["self","ahead"],⟨[],["len"],[]⟩,Q5⟩
def wf:FR:=⟨none,904,3,[.int (0)],dg 0 ["self","kind","ahead","token"],⟨[],[],["peek"]⟩,JP⟩
def wi:FR:=⟨none,911,2,[],dg 0 ["self","words","ahead","word"],⟨[],[],["split","peek","is_kind"]⟩,wo⟩
def wh:FR:=⟨none,969,3,[.int (0)],dg 0 ["self","sign","ahead"],⟨[],[],["peek","is_kind"]⟩,JQ⟩
def sJ:FR:=⟨none,976,2,[],dg 0 ["self","sign"],⟨[],[],["is_sign"]⟩,FA⟩
def sI:FR:=⟨none,983,2,[],dg 0 ["self","sign"],⟨[],[],["skip_sign"]⟩,sN⟩
def Dk:FR:=⟨none,918,2,[],dg 0 ["self","words"],⟨[],["len"],["split","is_word"]⟩,Q6⟩
def sg:FR:=⟨some "skip_heading",833,2,[],dg 0 ["reader","words"],⟨[],[],["need_sign","skip"]⟩,A0⟩
def Ms:FR:=⟨none,658,2,[],dg 0 ["self","kid"],⟨[],[],["append"]⟩,Mz⟩
def uL:FR:=⟨some "put_beneath",800,2,[],dg 0 ["open_items","item","above"],⟨["MOST_NESTED","ALONE"],["len"],["append","add","pop"]⟩,DM⟩
def Lj:FR:=⟨some "nested",807,1,[],dg 0 ["entries","roots","open_items","last","renaming","item","index"],⟨["RENAMING","ALONE","NAMING"],["len","put_beneath"],["add","append"]⟩,Uf⟩
def qx:FR:=⟨some "is_level_here",793,1,[],dg 0 ["reader","token"],⟨[],[],["peek"]⟩,Ly⟩
def lC:FR:=⟨none,623,3,[],dg 0 ["self","name","rows"],⟨[],["tuple"],[]⟩,wm⟩
def yf:FR:=⟨none,932,2,[],dg 0 ["self","words","word"],⟨[],[],["split","skip"]⟩,yp⟩
def pD:FR:=⟨some "octets_of_text",852,1,[],dg 0 ["text","numbers"],⟨["MOST_OCTET"],["bytes","ord"],[]⟩,wu⟩
def ye:FR:=⟨none,1018,1,[],dg 0 ["self","found"],⟨[],["octets_of_text"],["peek","is_kind"]⟩,Lw⟩
def sH:FR:=⟨none,990,1,[],dg 0 ["self"],⟨[],[],["is_kind","is_sign"]⟩,sM⟩
def HO:FR:=⟨some "negated",136,1,[],dg 0 ["a"],⟨[],[],[]⟩,Rc⟩
def HM:FR:=⟨some "decimal",129,2,[.int (0)],dg 0 ["units","scale"],⟨[],[],[]⟩,Ra⟩
def Dv:FR:=⟨some "worth_of",164,1,[],dg 0 ["figures","number","figure"],⟨["FIGURES_decimals"],[],["index"]⟩,MI⟩
def nL:FR:=⟨some "read_decimal",171,1,[],dg 0 ["text","begin","ahead","behind","point","at","units"],⟨["FIGURES_decimals"],["decimal","len","worth_of","range"],["index"]⟩,AP⟩
def Dl:FR:=⟨none,896,1,[],dg 0 ["self","token"],⟨[],[],["peek"]⟩,Q7⟩
def yg:FR:=⟨none,997,1,[],dg 0 ["self","is_below","found"],⟨[],["negated","read_decimal"],["take","skip_sign","is_number"]⟩,yq⟩
def r9:FR:=⟨some "read_operand",409,2,[],dg 0 ["reader","read_expr","figure"],⟨[],[],["is_kind","octets","is_number","signed"]⟩,AU⟩
def uI:FR:=⟨some "is_reserved",847,1,[],dg 0 ["word"],⟨["RESERVED"],[],[]⟩,DJ⟩
def wg:FR:=⟨none,947,2,[.int (0)],dg 0 ["self","ahead"],⟨[],["is_reserved"],["peek","is_kind"]⟩,wn⟩
def r8:FR:=⟨some "read_literal",725,1,[],dg 0 ["reader"],⟨["no_expression"],["read_operand"],["is_name"]⟩,AR⟩
def uN:FR:=⟨some "read_worths",772,1,[],dg 0 ["reader","rows","first","last"],⟨[],["read_literal"],["is_sign","append","one_of"]⟩,DP⟩
def Dh:FR:=⟨none,954,1,[],dg 0 ["self"],⟨[],[],["take","is_name"]⟩,DF⟩
def Di:FR:=⟨none,925,2,[],dg 0 ["self","words"],⟨[],[],["skip"]⟩,DG⟩
def sb:FR:=⟨some "read_renames",779,1,[],dg 0 ["reader","first","last"],⟨[],[],["one_of","name","need"]⟩,AW⟩
def kE:FR:=⟨none,595,6,[.none,.tup [],.tup []],dg 0 ["self","low","high","depending","keys","indexes"],⟨[],["tuple"],[]⟩,uY⟩
def AB:FR:=⟨none,961,1,[],dg 0 ["self","found"],⟨[],[],["is_name","name"]⟩,AI⟩
def r5:FR:=⟨some "is_part_next",367,1,[],dg 0 ["reader","depth","ahead"],⟨[],[],["is_sign"]⟩,AL⟩
def Dp:FR:=⟨some "read_ref",388,2,[],dg 0 ["reader","read_expr","name","qualifiers","subscripts","part"],⟨[],["tuple","is_part_next"],["is_sign","one_of","append","name"]⟩,MC⟩
def Ds:FR:=⟨some "units_at",143,3,[],dg 0 ["a","scale","is_rounded","size","half"],⟨[],[],[]⟩,MF⟩
def Dt:FR:=⟨some "whole_of",157,1,[],dg 0 ["a"],⟨[],["units_at"],[]⟩,MG⟩
def Dn:FR:=⟨some "is_whole",150,1,[],dg 0 ["a"],⟨[],[],[]⟩,MB⟩
def AC:FR:=⟨none,1004,1,[],dg 0 ["self","found"],⟨[],["whole_of","is_whole","read_decimal"],["peek","is_kind"]⟩,NA⟩
def uM:FR:=⟨some "read_occurs",730,1,[],dg 0 ["reader","low","high","depending","keys","indexes","is_ascending"],⟨["no_expression"],["Occurs","tuple","read_ref"],["skip","names","is_word","extend","take","whole"]⟩,DN⟩
def lZ:FR:=⟨some "read_named_clause",744,3,[],dg 0 ["reader","item","word","told_usage","place"],⟨["USAGE_WORDS"],["read_occurs"],["one_of","join","skip"]⟩,ry⟩
def uG:FR:=⟨some "clause_word",751,1,[],dg 0 ["reader","word"],⟨[],[],["skip"]⟩,DH⟩
def m8:FR:=⟨some "read_bare_clause",758,2,[],dg 0 ["reader","item","usage","place"],⟨["USAGE_WORDS"],[],["one_of","join","take","is_kind"]⟩,sO⟩
def r7:FR:=⟨some "read_clauses",765,2,[],dg 0 ["reader","item","met","ahead","word"],⟨[],["read_named_clause","clause_word","read_bare_clause"],["is_sign","append","peek"]⟩,AO⟩
def mG:FR:=⟨none,651,3,[],dg 0 ["self","level","name"],⟨[],[],[]⟩,yn⟩
def AA:FR:=⟨none,889,2,[],dg 0 ["self","what"],⟨[],["GrammarFault","min","len"],[]⟩,Nz⟩
def wX:FR:=⟨some "read_entry",786,1,[],dg 0 ["reader","place","level","item"],⟨["NAMING","RENAMING","ALONE","FILLER","MOST_LEVEL"],["Named","read_worths","read_renames","read_clauses","Item"],["need_sign","is_name","name","skip","whole","fault"]⟩,Go⟩
def nM:FR:=⟨some "read_entries",814,1,[],dg 0 ["reader","entries"],⟨[],["nested","is_level_here","read_entry"],["append"]⟩,AQ⟩
def n5:FR:=⟨some "read_file_entry",826,3,[],dg 0 ["reader","data","is_sort","place","name","roots"],⟨["ALONE"],["read_entries"],["append","skip_sign","name","fault"]⟩,u5⟩
def mD:FR:=⟨none,698,1,[],dg 0 ["self"],⟨[],[],[]⟩,ym⟩
def zG:FR:=⟨some "read_data",840,1,[],dg 0 ["reader","data"],⟨[],["skip_heading","read_entries","read_file_entry","Data"],["is_word","is_done","take"]⟩,JW⟩
def kG:FR:=⟨none,867,3,[.int (0)],dg 0 ["self","tokens","at"],⟨[],[],[]⟩,H5⟩
def lD:FR:=⟨none,194,5,[.tup [.int (0),.int (0)],.bool false],dg 0 ["self","kind","worth","at","is_in_a"],⟨[],[],[]⟩,wq⟩
def nZ:FR:=⟨some "is_picture_next",330,1,[],dg 0 ["tokens"],⟨[],["len"],[]⟩,u4⟩
def kZ:FR:=⟨some "capital_of",215,1,[],dg 0 ["sign"],⟨[],["chr","ord"],[]⟩,Gj⟩
def rt:FR:=⟨some "capitals",220,1,[],dg 0 ["text"],⟨[],["capital_of"],["join"]⟩,MA⟩
def uK:FR:=⟨some "picture_end",269,2,[],dg 0 ["text","at","end"],⟨["ENDS"],["len"],[]⟩,DL⟩
def nY:FR:=⟨some "checked_picture",295,2,[],dg 0 ["line","at","end"],⟨[],["capitals","picture_end"],[]⟩,u2⟩
def pC:FR:=⟨some "is_parted",234,2,[],dg 0 ["text","at"],⟨[],["len"],[]⟩,JV⟩
def HN:FR:=⟨some "mark_at",309,2,[],dg 0 ["line","at","pair","sign"],⟨["SINGLE_SIGNS","DOUBLE_SIGNS"],["is_parted"],["split"]⟩,Rb⟩
def nX:FR:=⟨some "checked_literal",288,3,[],dg 0 ["line","at","end","quote","worth"],⟨["MOST_LITERAL"],["len"],["replace"]⟩,uZ⟩
def r6:FR:=⟨some "is_word_sign",227,1,[],dg 0 ["sign"],⟨["WORD_SIGNS"],["capital_of"],[]⟩,AM⟩
def wV:FR:=⟨some "need_apart",302,2,[],dg 0 ["line","end","behind"],⟨["FIGURES_tokens","QUOTES"],["is_word_sign"],[]⟩,Gm⟩
def uJ:FR:=⟨some "literal_end",262,2,[],dg 0 ["line","at","quote","end"],⟨[],["len"],[]⟩,DK⟩
def rZ:FR:=⟨some "checked_word",274,3,[],dg 0 ["line","at","end","worth"],⟨["MOST_WORD","LETTERS"],["len","capitals"],[]⟩,AJ⟩
def pA:FR:=⟨some "checked_number",281,3,[],dg 0 ["line","at","end","worth"],⟨["MOST_FIGURES"],["len"],[]⟩,wt⟩
def zH:FR:=⟨some "run_end",248,3,[],dg 0 ["text","at","signs"],⟨[],["capital_of","len"],[]⟩,Rd⟩
def wW:FR:=⟨some "number_end",255,2,[],dg 0 ["text","at","end"],⟨["FIGURES_tokens"],["run_end"],[]⟩,Gn⟩
def Du:FR:=⟨some "worth_at",316,2,[],dg 0 ["line","at","sign","end","behind","kind","worth"],⟨["QUOTES","FIGURES_tokens","LETTERS","WORD_SIGNS"],["len","mark_at","checked_literal","need_apart","literal_end","checked_word","checked_number","number_end","run_end","capital_of"],[]⟩,MH⟩
def wT:FR:=⟨some "is_word_is",344,2,[],dg 0 ["text","at"],⟨[],["is_parted","capitals"],[]⟩,Gk⟩
def uH:FR:=⟨some "is_blank_at",323,2,[],dg 0 ["text","at"],⟨[],["is_parted"],[]⟩,DI⟩
def wS:FR:=⟨some "add_tokens",337,2,[],dg 0 ["tokens","line","at","was_is","place","kind","worth","end"],⟨[],["len","Token","is_picture_next","checked_picture","worth_at","is_word_is","is_blank_at"],["append"]⟩,Gi⟩
def zJ:FR:=⟨some "tokens_of",351,1,[],dg 0 ["lines","tokens","line"],⟨[],["add_tokens"],[]⟩,JZ⟩
def mH:FR:=⟨none,35,3,[],dg 0 ["self","text","spots"],⟨[],[],[]⟩,yo⟩
def l0:FR:=⟨some "text_tokens",510,2,[.bool false],dg 0 ["text","is_in_a","begin","found"],⟨["AREA_A","AREA_B"],["range","len","Token","tokens_of","Line"],[]⟩,DT⟩
def yh:FR:=⟨some "joined",495,1,[],dg 0 ["parts"],⟨[],[],["join"]⟩,Ue⟩
def Lk:FR:=⟨some "quoted",358,1,[],dg 0 ["text"],⟨[],[],["replace"]⟩,Ug⟩
def sf:FR:=⟨some "shown_octets",414,1,[],dg 0 ["octets"],⟨[],["quoted","chr"],["join"]⟩,AZ⟩
def qy:FR:=⟨some "write_decimal",178,1,[],dg 0 ["a","figures"],⟨[],["len","str","abs"],[]⟩,yr⟩
def se:FR:=⟨some "shown_number",421,1,[],dg 0 ["worth","text"],⟨["MOST_FIGURES"],["abs","write_decimal"],["replace"]⟩,AY⟩
def sd:FR:=⟨some "show_operand",440,2,[],dg 0 ["operand","show_expr"],⟨[],["shown_octets","shown_number"],[]⟩,AX⟩
def nK:FR:=⟨some "operand_text",483,1,[],dg 0 ["operand"],⟨["show_expression"],["show_operand"],[]⟩,AN⟩
def uP:FR:=⟨some "show_worths",543,1,[],dg 0 ["named","rows","first","last"],⟨[],["joined","operand_text"],["append"]⟩,DR⟩
def ES:FR:=⟨some "worded",502,2,[],dg 0 ["word","text"],⟨[],[],[]⟩,Uh⟩
def Dr:FR:=⟨some "show_ref",433,2,[],dg 0 ["ref","show_expr","found","length"],⟨[],["list"],["join"]⟩,ME⟩
def Dq:FR:=⟨some "ref_text",490,1,[],dg 0 ["ref"],⟨["show_expression"],["show_ref"],[]⟩,MD⟩
def uO:FR:=⟨some "show_occurs",522,1,[],dg 0 ["occurs","head","keys"],⟨[],["joined","worded","str","ref_text"],[]⟩,DQ⟩
def zI:FR:=⟨some "show_sign",529,1,[],dg 0 ["item"],⟨[],[],[]⟩,JY⟩
def r0:FR:=⟨some "clause_texts",536,1,[],dg 0 ["item"],⟨["USAGE_NAMES"],["operand_text","show_occurs","show_sign","worded"],[]⟩,AK⟩
def wU:FR:=⟨some "level_text",517,1,[],dg 0 ["level"],⟨[],["str"],[]⟩,Gl⟩
def wY:FR:=⟨some "show_entry",550,1,[],dg 0 ["item","head","first","last"],⟨["RENAMES_LEVEL"],["joined","clause_texts","level_text"],[]⟩,Gp⟩
def nJ:FR:=⟨some "entry_tokens",557,1,[],dg 0 ["item","found","named","kid"],⟨["TOP_LEVELS"],["entry_tokens","text_tokens","show_worths","show_entry"],["extend"]⟩,NB⟩
def nN:FR:=⟨some "roots_tokens",564,1,[],dg 0 ["roots","found","root"],⟨[],["entry_tokens"],["extend"]⟩,NC⟩
def pE:FR:=⟨some "section_tokens",571,2,[],dg 0 ["heading","roots"],⟨[],["text_tokens","roots_tokens"],[]⟩,JX⟩
def pB:FR:=⟨some "data_tokens",578,1,[],dg 0 ["data","found","name","head"],⟨[],["text_tokens","section_tokens","roots_tokens"],["extend"]⟩,Q9⟩
def qw:FR:=⟨some "_law_is_right",1077,1,[],dg 0 ["data","tokens","reader","roots","heads","tops","first","levels"],⟨[],["_law_walked","int","range","len","sorted","read_data","Reader","data_tokens"],["told","is_done"]⟩,Lx⟩
def mI:FR:=⟨some "_law_take",1032,2,[],dg 0 ["bag","many","worth"],⟨[],[],[]⟩,Wf⟩
def tt:FR:=⟨some "_law_item",1046,3,[],dg 0 ["bag","level","name","item","way"],⟨[],["_law_take","Named","Occurs","Item"],["append"]⟩,JS⟩
def zE:FR:=⟨some "_law_leaf",1053,3,[],dg 0 ["bag","level","name","item"],⟨[],["_law_take","_law_item"],[]⟩,JT⟩
def zF:FR:=⟨some "_law_root",1060,2,[],dg 0 ["bag","name","root","turn","group","inner","renaming"],⟨[],["_law_take","Item","range","_law_leaf","_law_item"],["add"]⟩,JU⟩
def zD:FR:=⟨some "_law_data",1065,1,[],dg 0 ["bag","data","name"],⟨[],["_law_root","_law_take","Data"],["append"]⟩,JR⟩
def Dm:FR:=⟨some "_law_bag",1039,1,[],dg 0 ["script","number","cell"],⟨[],[],[]⟩,Y7⟩
def aa5:FR:=⟨some "law",1082,1,[],dg 0 ["script","data","group","leaf","root","words"],⟨[],["_law_is_right","_law_data","_law_bag","Data","data_tokens","Item","Named"],["split","add","append"]⟩,apY⟩
def qm:List FR:=[
 pz,
 Ge,
 Dg,
 Gc,
 Az,
 JA,
 Jz,
 we,
 Dj,
 wf,
 wi,
 wh,
 sJ,
 sI,
 Dk,
 sg,
 Ms,
 uL,
 Lj,
 qx,
 lC,
 yf,
 pD,
 ye,
 sH,
 HO,
 HM,
 Dv,
 nL,
 Dl,
 yg,
 r9,
 uI,
 wg,
 r8,
 uN,
 Dh,
 Di,
 sb,
 kE,
 AB,
 r5,
 Dp,
 Ds,
 Dt,
 Dn,
 AC,
 uM,
 lZ,
 uG,
 m8,
 r7,
 mG,
 AA,
 wX,
 nM,
 n5,
 mD,
 zG,
 kG,
 lD,
 nZ,
 kZ,
 rt,
 uK,
 nY,
 pC,
 HN,
 nX,
 r6,
 wV,
 uJ,
 rZ,
 pA,
 zH,
 wW,
 Du,
 wT,
 uH,
 wS,
 zJ,
 mH,
 l0,
 yh,
 Lk,
 sf,
 qy,
 se,
 sd,
 nK,
 uP,
 ES,
 Dr,
 Dq,
 uO,
 zI,
 r0,
 wU,
 wY,
 nJ,
 nN,
 pE,
 pB,
 qw,
 mI,
 tt,
 zE,
 zF,
 zD,
 Dm,
 aa5]
structure GR where
 x:Str
 a:AV
noncomputable def Pl:List GR:=[⟨"FIGURES_decimals",mU⟩,
 ⟨"WORD_SIGNS",wE⟩,
 ⟨"FIGURES_tokens",lq⟩,
 ⟨"ENDS",abM⟩,
 ⟨"MOST_WORD",ID⟩,
 ⟨"LETTERS",GZ⟩,
 ⟨"MOST_FIGURES",rL⟩,
 ⟨"MOST_LITERAL",zY⟩,
 ⟨"QUOTES",Ku⟩,
 ⟨"SINGLE_SIGNS",zZ⟩,
 ⟨"DOUBLE_SIGNS",zX⟩,
 ⟨"AREA_A",SN⟩,
 ⟨"AREA_B",SO⟩,
 ⟨"RENAMES_LEVEL",xr⟩,
 ⟨"TOP_LEVELS",iY⟩,
 ⟨"NAMING",Kt⟩,
 ⟨"RENAMING",BS⟩,
 ⟨"ALONE",BQ⟩,
 ⟨"FILLER",SP⟩,
 ⟨"MOST_LEVEL",FJ⟩,
 ⟨"MOST_NESTED",BR⟩,
 ⟨"MOST_OCTET",FK⟩]
structure CR where
 x:Str
 c:aC
 i:aC
noncomputable def zh:List CR:=[⟨"Line",45,35⟩,⟨"Token",204,194⟩,⟨"Occurs",605,595⟩,⟨"Named",633,623⟩,⟨"Item",680,651⟩,⟨"Data",706,698⟩,⟨"Reader",1021,867⟩]
structure MR where
 c:aC
 x:Str
 f:aC
noncomputable def KP:List MR:=[⟨204,"told",201⟩,⟨605,"told",602⟩,⟨633,"told",630⟩,⟨680,"add",658⟩,⟨680,"clauses",672⟩,⟨680,"told",677⟩,⟨706,"told",703⟩,⟨1021,"peek",875⟩,⟨1021,"is_done",882⟩,⟨1021,"fault",889⟩,⟨1021,"take",896⟩,⟨1021,"is_kind",904⟩,⟨1021,"is_word",911⟩,⟨1021,"skip",918⟩,⟨1021,"need",925⟩,⟨1021,"one_of",932⟩,⟨1021,"is_name",947⟩,⟨1021,"name",954⟩,⟨1021,"names",961⟩,⟨1021,"is_sign",969⟩,⟨1021,"skip_sign",976⟩,⟨1021,"need_sign",983⟩,⟨1021,"is_number",990⟩,⟨1021,"signed",997⟩,⟨1021,"whole",1004⟩,⟨1021,"octets",1018⟩]
noncomputable def U5:List Str:=[("len":Str),("range":Str),("str":Str),("tuple":Str),("list":Str),("abs":Str),("chr":Str),("ord":Str),("sorted":Str),("int":Str),("bytes":Str),("min":Str)]
section simps
variable{fr:Fm}{σ:AS}
@[simp] theorem cg {α β:Type} (a:α) (f:α->Option β):ob (some a) f=f a:=rfl
@[simp] theorem aX {α γ β:Type} (a:α) (b:γ) (f:α->γ->Option β):bA (some (a,b)) f=f a b:=rfl
@[simp] theorem anT {α β:Type} (a:α) (f:α->Option β) (g):od (some a) f g=f a:=rfl
@[simp] theorem gq (f m):un f m fr σ=bA (m fr σ) fun a aj=>ob (f a aj) fun b=>some (b,aj):=rfl
@[simp] theorem jJ (f m n):bi f m n fr σ=bA (m fr σ) fun a aj=>bA (n fr aj) fun b eW=>f a b eW:=rfl
@[simp] theorem fH (f m n):eJ f m n fr σ=bA (m fr σ) fun a aj=>bA (n fr aj) fun b eW=>ob (f a b eW) fun r=>some (r,eW):=rfl
@[simp] theorem l7 (m):ji m fr σ=bA (m fr σ) fun a aj=>ob (qV aj a) fun b=>some (b,aj):=rfl
@[simp] theorem wP (m):rY m fr σ=bA (m fr σ) fun b aj=>some (.bool b,aj):=rfl
@[simp] theorem qQ (b):pe b fr σ=bA (b fr σ) fun b aj=>some (!b,aj):=rfl
@[simp] theorem Hh (a b):R8 a b fr σ=bA (a fr σ) fun t aj=>bif t then some (true,aj)else b fr aj:=rfl
@[simp] theorem ED (a b):Tf a b fr σ=bA (a fr σ) fun v aj=>ob (qV aj v) fun t=>bif t then b fr aj else some (v,aj):=rfl
@[simp] theorem wL (c a b):tl c a b fr σ=bA (c fr σ) fun t aj=>bif t then a fr aj else b fr aj:=rfl
theorem bm(i):al i fr σ=bif bX (gt fr i)then none else some (gt fr i,σ):=rfl
@[simp] theorem d7 (a):ba a fr σ=some (a,σ):=rfl
@[simp] theorem eB (f l):bq f l fr σ=bA (l fr σ) fun vs aj=>f vs aj:=rfl
@[simp] theorem ct:aG fr σ=some ([],σ):=rfl
@[simp] theorem cA (a l):aw a l fr σ=bA (a fr σ) fun v aj=>bA (l fr aj) fun vs aL=>some (v::vs,aL):=rfl
@[simp] theorem eP (D o l):cK D o l fr σ=bA (o fr σ) fun x aj=>ob (D x aj) fun F=>bA (l fr aj) fun vs aL=>F (x::vs) aL:=rfl
@[simp] theorem dm (a b):aV a b fr σ=ob (a fr σ) (gR b):=rfl
@[simp] theorem dF (k fr' aj):gR k (.next fr' aj)=k fr' aj:=rfl
@[simp] theorem dI (k a aj):gR k (.ret a aj)=some (.ret a aj):=rfl
@[simp] theorem fP:bu fr σ=some (.next fr σ):=rfl
@[simp] theorem j9 (c a b):sh c a b fr σ=bA (c fr σ) fun t aj=>bif t then a fr aj else b fr aj:=rfl
@[simp] theorem eu (e):eI e fr σ=bA (e fr σ) fun v aj=>some (.ret v aj):=rfl
@[simp] theorem fO (i e):cV [i] e fr σ=bA (e fr σ) fun v aj=>some (.next (put fr i v) aj):=rfl
@[simp] theorem yj (k o e):l4 k o e fr σ=bA (e fr σ) fun v aj=>bA (o fr aj) fun x aL=>ob (oy k v x aL) fun cO=>some (.next fr cO):=rfl
@[simp] theorem kO (a:AV) (r):gt (a::r) 0=a:=rfl
@[simp] theorem pf (a:AV) (r i):gt (a::r) (i+1)=gt r i:=rfl
@[simp] theorem sF (a v:AV) (r):put (a::r) 0 v=v::r:=rfl
@[simp] theorem sG (a v:AV) (r i):put (a::r) (i+1) v=a::put r i v:=rfl
@[simp] theorem putN (v:AV):put [] 0 v=[v]:=rfl
@[simp] theorem amX (fr' aj):ib (.next fr' aj)=some (.none,aj):=rfl
@[simp] theorem gF (a aj):ib (.ret a aj)=some (a,aj):=rfl
@[simp] theorem iV (b):qV σ (.bool b)=some b:=rfl
@[simp] theorem Ph (a):b4 .Add (.int (.ofNat a)) (.int 1) σ=some (.int (.ofNat (a+1)),σ):=rfl
@[simp] theorem NP (a b):b4 .Add (.int (.ofNat a)) (.int (.ofNat b)) σ=some (.int (.ofNat (a+b)),σ):=rfl
@[simp] theorem aiF (a b):bO .Lt (.int (.ofNat a)) (.int (.ofNat b)) σ=some (bc a b):=rfl
@[simp] theorem aoI (a b):bO .GtE (.int (.ofNat a)) (.int (.ofNat b)) σ=some (!bc a b):=rfl
@[simp] theorem aab (a b):bO .Eq (.str a) (.str b) σ=some (dp a b):=rfl
@[simp] theorem ao3 (a b):bO .NotEq (.str a) (.str b) σ=some (!dp a b):=rfl
@[simp] theorem ail (a):bO .Is a .none σ=lU a:=rfl
@[simp] theorem Jg (a):bO .IsNot a .none σ=ob (lU a) fun b=>some (!b):=rfl
@[simp] theorem Ts:lU .none=some true:=rfl
@[simp] theorem aei (l):lU (.bytes l)=some false:=rfl
@[simp] theorem fy (a):bX (.ref a)=false:=rfl
@[simp] theorem l8 (a):bX (.int a)=false:=rfl
@[simp] theorem na (a):bX (.str a)=false:=rfl
@[simp] theorem alk:bX .none=false:=rfl
@[simp] theorem ap2 (a):bX (.bytes a)=false:=rfl
@[simp] theorem YC (F l):iz F (.str l) σ=some F:=rfl
end simps
theorem amJ{α:Type}{l:List α}: ∀(i:Nat),HH l i=l[i]? :=by
 induction l with
 |nil=>exact fun i=>rfl
 |cons a l ih=>
  intro i
  cases i with
  |zero=>rfl
  |succ i=>exact ih i
theorem fZ{n:Nat}(h:n<=4000000):dj n=true:=gv h
theorem Hj{a b:Nat}(h:a<b):bc a b=true:=cC.mpr h
theorem ZM{a b:Nat}(h:b<=a):bc a b=false:=E1.mpr fun e=>b7.mpr h (cC.mp e)
section
variable{σ:AS}{r m:Nat}{L l:aa}{mac:List Nat->List AV}
theorem jn{α β:Type}{o:Option α}{a:α}{f:α->Option β}(h:o=some a):ob o f=f a:=h▸rfl
theorem pc(hg:σ.get r=some (cY L m)):aA 4 (.ref r) σ=some (.int (.ofNat m)):=jn hg
theorem IX(hg:σ.get r=some (cY L m)):aA 38 (.ref r) σ=some (.lst L):=jn hg
theorem x6(hL:dj L.length=true):ef [.lst L] σ=some (.int (.ofNat L.length),σ):=by
 rw[<- iy]at hL ⊢
 show(bif dj (dN L)then _ else none)=_
 rw[hL];rfl
theorem rX{F:aW}{G:gW}(hg:σ.get r=some (cY L m)):fx du F G (.ref r) σ=some F:=jn (show F0 (.ref r) σ=some 1021 from jn hg)
theorem JJ(hg:σ.get r=some (cY L m))(k:Nat):oy 4 (.int (.ofNat k)) (.ref r) σ=some (σ.set r (cY L k)):=jn hg
theorem Jd{i:Nat}{a:AV}(h:dj i=true)(e:L[i]? =some a):eH (.lst L) (.int (.ofNat i)) σ=some (a,σ):=by
 have h1:act (.lst L) (.int (.ofNat i)) σ=some a:=by
  show(bif dj i then HH L i else none)=_
  rw[h,amJ];exact e
 exact jn h1
theorem amM(hg:σ.get r=some (cY L m))(hL:dj L.length=true)(k:Nat):iq [.ref r,.int (.ofNat k)] σ=some ((L[m+k]?).getD .none,σ):=by
 show ob (o7 [.ref r,.int (.ofNat k)] σ) ib=_
 by_cases hk:m+k<L.length
 ·have hx:L[m+k]? =some L[m+k]:=fj hk
  simp only[o7,dm,j9,fH,jJ,gq,bm,kO,pf,fy,l8,ae,aX,cg,pc hg,IX hg,NP,eB,cA,ct,x6 hL,aiF,Hj hk,af,eu,Jd (fZ (au (gP hk) (jT hL))) hx,dI,gF]
  rw[hx];rfl
 ·simp only[o7,dm,j9,fH,jJ,gq,bm,kO,pf,fy,l8,ae,aX,cg,pc hg,IX hg,NP,eB,cA,ct,x6 hL,aiF,ZM (b7.mp hk),eu,d7,dI,dF,gF,fP]
  rw[n8 (b7.mp hk)];rfl
noncomputable def at_(L:aa)(i:Nat):AV:=(L[i]?).getD .none
def lx(mac:List Nat->List AV)(l:aa)(L:aa)(m:Nat):Prop:=mac []=[]/\ ∃pre,pre.length=m/\L=pre++xp mac l
theorem lx.at(S:lx mac l L m){k:Nat}{o:Option AV}(e:jN l k=some o):at_ L (m+k)=o.getD .none:=by
 unfold at_
 obtain⟨pre,h1,h2⟩:=S.2
 rw[h2,<- h1,kJ (cZ _ _),mO,Rf S.1 e]
theorem tq(hg:σ.get r=some (cY L m))(hL:dj L.length=true)(S:lx mac l L m){k:Nat}{o:Option AV}(e:jN l k=some o):iq [.ref r,.int (.ofNat k)] σ=some (o.getD .none,σ):=(amM hg hL k).trans (congrArg (fun x=>some (x,σ)) (S.at e))
theorem kb{k:Nat}{t v:AV}(h:pJ k t=some v):aA k t σ=some v/\lU t=some false/\bX t=false:=td (Q:=fun t=>aA k t σ=some v/\lU t=some false/\bX t=false) h fun c ks vs h=>⟨h,rfl,rfl⟩
theorem aoR{k:Nat}{w:ac}{b:Bool}{P:Prop}(e:qR l k w=some b)(k0:jN l k=some none->b=false->P)(k1: ∀t s,jN l k=some (some t)->pJ 2 t=some (.str s)->b=dp s w->P):P:=
 oE e fun o ho e=>by
  cases o with
  |none=>exact k0 ho (aI e).symm
  |some t=>exact oE e fun v hv e=>fh (Q:=fun v=>pJ 2 t=some v->P) e (fun s e hv=>k1 t s ho hv (aI e).symm) hv
theorem ac3{k:Nat}{w:ac}{b:Bool}{P:Prop}(e:Ri l k w=some b)(k1: ∀t s,jN l k=some (some t)->pJ 1 t=some (.str s)->b=dp s w->P):P:=
 oE e fun o ho e=>oE (o:=o) e fun t ht e=>oE e fun v hv e=>fh (Q:=fun v=>pJ 1 t=some v->P) e (fun s e hv=>k1 t s (ht▸ho) hv (aI e).symm) hv
theorem af9{k:Nat}{w s:ac}{b:Bool}{P:Prop}(e:vT l k w s=some b)(k1:qR l k w=some true->Ri l k s=some b->P)(k0:qR l k w=some false->b=false->P):P:=
 oE e fun c hc e=>bE e (fun z e=>k1 (z▸hc) e) fun z e=>k0 (z▸hc) (aI e).symm
theorem lV(hg:σ.get r=some (cY L m))(hL:dj L.length=true)(S:lx mac l L m){k:Nat}{w:ac}{b:Bool}(e:qR l k w=some b):iB [.ref r,.str w,.int (.ofNat k)] σ=some (.bool b,σ):=by
 show ob (ls [.ref r,.str w,.int (.ofNat k)] σ) ib=_
 refine aoR e (fun ht hb=> ?_) fun t s ht h2 hb=> ?_
 ·rw[hb]
  simp only[ls,gz,dm,fO,eP,bm,kO,pf,fy,l8,ae,aX,cg,rX hg,cA,ct,tq hg hL S ht,tP,dF,sF,sG,putN,eu,ED,wP,fH,alk,d7,Jg,Ts,eL,iV,dI,gF]
 ·rw[hb]
  simp only[ls,gz,dm,fO,eP,bm,kO,pf,fy,l8,na,ae,aX,cg,rX hg,cA,ct,tq hg hL S ht,nR,dF,sF,sG,putN,eu,ED,wP,fH,(kb (σ:=σ) h2).2.2,d7,Jg,(kb (σ:=σ) h2).2.1,fD,iV,dI,gF,af,gq,(kb (σ:=σ) h2).1,aab]
theorem Hw(hg:σ.get r=some (cY L m))(hL:dj L.length=true)(S:lx mac l L m){k:Nat}{w:ac}{b:Bool}(e:vT l k jp w=some b):jy [.ref r,.str w,.int (.ofNat k)] σ=some (.bool b,σ):=by
 show ob (lu [.ref r,.str w,.int (.ofNat k)] σ) ib=_
 refine af9 e (fun e1 e2=>ac3 e2 fun t s ht h2 hb=> ?_) fun e1 hb=> ?_
 ·have h1:=lV hg hL S e1
  unfold jp at h1
  rw[hb]
  simp only[lu,gz,fw,dm,eP,bm,kO,pf,fy,l8,na,ae,aX,cg,rX hg,cA,ct,h1,tq hg hL S ht,nR,eu,ED,wP,fH,d7,iV,dI,gF,af,gq,(kb (σ:=σ) h2).1,aab]
 ·have h1:=lV hg hL S e1
  unfold jp at h1
  rw[hb]
  simp only[lu,fw,dm,eP,bm,kO,pf,fy,l8,na,ae,aX,cg,rX hg,cA,ct,h1,eu,ED,d7,iV,dI,gF]
def tx:SM:=(aV (sh (R8 (pe (ji (cK fw (al 0) (aw (ba (.str [119,111,114,100])) (aw (al 2) aG))))) (eJ (bO .NotEq) (un (aA 1) (cK gz (al 0) (aw (al 2) aG))) (al 3)))
  (aV (eI (ba (.bool false)))
  bu)
  bu)
  (aV (cV [2] (bi (b4 .Add) (al 2) (ba (.int (1)))))
  bu))
theorem alu(hg:σ.get r=some (cY L m))(hL:dj L.length=true)(S:lx mac l L m){w:AV}{x:ac}{k:Nat}{b:Bool}(e:vT l k uU x=some b):
  tx [.ref r,w,.int (.ofNat k),.str x] σ=some (bif b then .next [.ref r,w,.int (.ofNat (k+1)),.str x] σ else .ret (.bool false) σ):=by
 refine af9 e (fun e1 e2=>ac3 e2 fun t s ht h2 hb=> ?_) fun e1 hb=> ?_
 ·have h1:=lV hg hL S e1
  unfold uU at h1
  rw[hb]
  cases z:dp s x<;>simp only[tx,gz,fw,dm,j9,Hh,qQ,l7,eP,bm,kO,pf,fy,l8,na,ae,aX,cg,rX hg,cA,ct,h1,tq hg hL S ht,nR,fH,d7,iV,eL,fD,af,gq,(kb (σ:=σ) h2).1,ao3,z,eu,dI,dF,fP,fO,jJ,Ph,sF,sG]
 ·have h1:=lV hg hL S e1
  unfold uU at h1
  rw[hb]
  simp only[tx,fw,dm,j9,Hh,qQ,l7,eP,bm,kO,pf,fy,l8,na,ae,aX,cg,rX hg,cA,ct,h1,d7,iV,fD,af,eu,dI]
theorem abx(hg:σ.get r=some (cY L m))(hL:dj L.length=true)(S:lx mac l L m)(w:AV){ws:List (List Nat)}: ∀(k:Nat) (f3:Fm) (b:Bool),f3.length<=1->DY l k ws=some b->
  ∃fr',pH [3] tx (ws.map .str) (.ref r::w:: .int (.ofNat k)::f3) σ=(bif b then some (.next fr' σ)else some (.ret (.bool false) σ)):=by
 induction ws with
 |nil=>exact fun k f3 b _ e=>s1 (P:=fun b=> ∃fr',some (kg.next (.ref r::w:: .int (.ofNat k)::f3) σ)=(bif b then some (.next fr' σ)else some (.ret (.bool false) σ))) e ⟨_,rfl⟩
 |cons x ws ih=>
  intro k f3 b h3 e
  have hf:put (.ref r::w:: .int (.ofNat k)::f3) 3 (.str x)=[.ref r,w,.int (.ofNat k),.str x]:=by
   cases f3 with
   |nil=>rfl
   |cons a f3=>cases f3 with
    |nil=>rfl
    |cons=>exact absurd h3 (Nat.not_succ_le_self _∘au (be (be (aS _))))
  refine oE (show ob (vT l k uU x) _=some b from e) fun c hc e=> ?_
  have h:=alu hg hL S (w:=w) hc
  have hs: ∀{o},tx [.ref r,w,.int (.ofNat k),.str x] σ=some o->pH [3] tx ((x::ws).map .str) (.ref r::w:: .int (.ofNat k)::f3) σ=C5 (pH [3] tx (ws.map .str)) o:=fun{o} h=>by
   show ob (tx (put (.ref r::w:: .int (.ofNat k)::f3) 3 (.str x)) σ) _=_
   rw[hf,h];rfl
  cases c with
  |true=>
   obtain⟨fr',ih⟩:=ih (k+1) [.str x] b (ax _) e
   exact⟨fr',(hs h).trans ih⟩
  |false=>exact s1 (P:=fun b=> ∃fr',_=(bif b then some (kg.next fr' σ)else some (.ret (.bool false) σ))) e ⟨[],hs h⟩
end
section
variable{σ:AS}{r m:Nat}{L l:aa}{mac:List Nat->List AV}
def sW(σ:AS)(w:ac):AS:=(σ.alloc (.lst ((dw 32 [] w).map .str))).drop σ.next
theorem JH{σ:AS}{w:ac}{b:Nat}(h:b<σ.next):(sW σ w).get b=σ.get b:=by
 have h:=cu h
 unfold sW
 rw[AS.get_drop,AS.get_alloc,if_neg h,if_neg h]
theorem Y2{w:ac}(hw:dj w.length=true):kL [.str w,.str [32]] σ=some (.ref σ.next,σ.alloc (.lst ((dw 32 [] w).map .str))):=by
 show(bif dj w.length then _ else none)=_
 rw[hw];rfl
theorem cn{c:bJ}:(σ.alloc c).get σ.next=some c:=by rw[AS.get_alloc,if_pos rfl]
theorem Qm(hg:σ.get r=some (cY L m))(hL:dj L.length=true)(S:lx mac l L m)(hr:r<σ.next){w:ac}{b:Bool}(hw:okW w=true)(e:DY l 0 (dw 32 [] w)=some b):jz [.ref r,.str w] σ=some (.bool b,sW σ w):=aE hw fun hw1 hw2=>by
 obtain⟨fr',h⟩:=abx ((JH hr).trans hg) hL S (.str w) 0 [] b (aS _) e
 have hit:fJ (σ.alloc (.lst ((dw 32 [] w).map .str))) (.ref σ.next)=some ((dw 32 [] w).map .str,sW σ w):=by
  show bA (ob ((σ.alloc _).get σ.next) _) _=_
  rw[cn]
  show(bif dj ((dw 32 [] w).map AV.str).length then _ else none)=_
  rw[aU,hw2];rfl
 have e1:jz [.ref r,.str w] σ=ob (ob (bA (bA (some (AV.str w,σ)) fun x aj=>ob (iz kL x aj) fun F=>F [x,.str [32]] aj) fun x aj=>bA (fJ aj x) fun l ay=>pH [3] tx l [.ref r,.str w,.int (.ofNat 0)] ay) (gR (aV (eI (ba (.bool true))) bu))) ib:=rfl
 rw[e1,aX,YC,cg,Y2 hw1,aX,hit,aX,h]
 cases b<;>rfl
theorem anj(hg:σ.get r=some (cY L m))(hL:dj L.length=true)(S:lx mac l L m){t:AV}(e:jN l 0=some (some t))(hr:lU t=some false)(hu:bX t=false):o0 [.ref r] σ=some (t,σ.set r (cY L (m+1))):=by
 have hp:iq [.ref r] σ=some (t,σ):=tq hg hL S e
 show ob (ue [.ref r] σ) ib=_
 simp only[ue,gz,dm,j9,fO,yj,fH,jJ,gq,eP,bm,kO,pf,fy,l8,hu,ae,af,aX,cg,rX hg,cA,ct,hp,dF,sF,sG,putN,ail,hr,d7,fP,pc hg,Ph,JJ hg,eu,dI,gF]
theorem aa2{t:AV}{k:Nat}: ∀{l:aa} {k:Nat},jN l k=some (some t)-> ∃c ks vs,t= .frz c ks vs:=fun{l}=>by
 induction l with
 |nil=>exact fun e=>nn (aI e)
 |cons a r ih=>
  intro k e
  refine td (Q:=fun a'=>a'=a-> ∃c ks vs,t= .frz c ks vs) e (fun c ks vs e ha=> ?_) rfl
  refine bE e (fun q e=>kS e fun _ e=>ih e) fun q e=> ?_
  cases k with
  |zero=>exact⟨c,ks,vs,ha.trans (aI (aI e))|>.symm⟩
  |succ j=>exact ih e
theorem JK(hg:σ.get r=some (cY L m))(hL:dj L.length=true)(S:lx mac l L m){w:ac}{b:Bool}(e:vT l 0 jp w=some b):jQ [.ref r,.str w] σ=some (.bool b,bif b then σ.set r (cY L (m+1))else σ):=by
 have h:jy [.ref r,.str w] σ=some (.bool b,σ):=Hw hg hL S (k:=0) e
 show ob (mV [.ref r,.str w] σ) ib=_
 cases b<;>simp only[mV,vE,dm,j9,qQ,l7,eP,bm,kO,pf,fy,na,ae,af,aX,cg,rX hg,cA,ct,h,iV,eL,fD,eu,d7,dI,dF,gF,fP,yj,jJ,gq,pc hg,Ph,JJ hg]
theorem acU(hg:σ.get r=some (cY L m))(hL:dj L.length=true)(S:lx mac l L m)(hr:r<σ.next){w:ac}{b:Bool}(hw:okW w=true)(e:DY l 0 (dw 32 [] w)=some b):
  oZ [.ref r,.str w] σ=some (.bool b,bif b then((sW σ w).alloc (.lst ((dw 32 [] w).map .str))).set r (cY L (m+(dw 32 [] w).length))else sW σ w):=aE hw fun hw1 hw2=>by
 have h:=Qm hg hL S hr hw e
 have hg':(sW σ w).get r=some (cY L m):=(JH hr).trans hg
 show ob (o8 [.ref r,.str w] σ) ib=_
 cases b
 ·simp only[o8,re,dm,j9,qQ,l7,eP,bm,kO,pf,fy,na,ae,af,aX,cg,rX hg,cA,ct,h,iV,fD,eu,d7,dI,gF]
 ·have hg2:((sW σ w).alloc (.lst ((dw 32 [] w).map .str))).get r=some (cY L m):=by
   rw[AS.get_alloc,if_neg (show r≠(sW σ w).next from cu (cP hr))];exact hg'
  have hlen:ef [.ref (sW σ w).next] ((sW σ w).alloc (.lst ((dw 32 [] w).map .str)))=some (.int (.ofNat (dw 32 [] w).length),(sW σ w).alloc (.lst ((dw 32 [] w).map .str))):=by
   show ob (ob (((sW σ w).alloc _).get (sW σ w).next) _) _=_
   rw[cn]
   show(bif dj (dN ((dw 32 [] w).map AV.str))then _ else none)=_
   rw[iy,aU,hw2];rfl
  simp only[o8,re,dm,j9,qQ,l7,eP,bm,kO,pf,fy,na,ae,af,aX,cg,rX hg,cA,ct,h,iV,eL,fP,eu,d7,dI,dF,gF,yj,jJ,gq,pc hg',eB,YC,Y2 hw1,hlen,NP,JJ hg2]
end
section
variable{σ:AS}{r m:Nat}{L l:aa}{mac:List Nat->List AV}
theorem wc{F:aW}{args:aa}{a:AV}(h:uF F args=some a)(σ:AS):wR F args σ=some (a,σ):=jn h
theorem alv(hg:σ.get r=some (cY L m))(hL:dj L.length=true)(S:lx mac l L m){t w d n:AV}(e1:qR l 0 pY=some true)(e2:jN l 0=some (some t))(e3:pJ 1 t=some w)
  (e4:uF iI [w]=some d)(e5:uF lN [d]=some (.bool true))(e6:uF oj [d]=some n)(hd:bX d=false):nC [.ref r] σ=some (n,σ.set r (cY L (m+1))):=by
 have h:iB [.ref r,.str [110,117,109,98,101,114]] σ=some (.bool true,σ):=lV hg hL S e1
 have hp:iq [.ref r] σ=some (t,σ):=tq hg hL S e2
 show ob (rS [.ref r] σ) ib=_
 simp only[rS,fw,gz,dm,j9,Hh,qQ,l7,eP,bm,kO,pf,fy,hd,ae,af,aX,cg,rX hg,cA,ct,d7,h,iV,eL,fD,fP,dF,dI,fO,eB,gq,hp,(kb (σ:=σ) e3).1,wc e4,wc e5,wc e6,sF,sG,putN,yj,jJ,pc hg,Ph,JJ hg,eu,gF]
theorem aez(hg:σ.get r=some (cY L m))(hL:dj L.length=true)(S:lx mac l L m){t w:AV}{b:List UInt8}(e1:qR l 0 YO=some true)(e2:jN l 0=some (some t))(e3:pJ 1 t=some w)
  (e4:uF iC [w]=some (.bytes b)):mu [.ref r] σ=some (.bytes b,σ.set r (cY L (m+1))):=by
 have h:iB [.ref r,.str [108,105,116,101,114,97,108]] σ=some (.bool true,σ):=lV hg hL S e1
 have hp:iq [.ref r] σ=some (t,σ):=tq hg hL S e2
 show ob (ql [.ref r] σ) ib=_
 simp only[ql,fw,gz,dm,j9,fH,qQ,l7,eP,bm,kO,pf,fy,ap2,ae,af,aX,cg,rX hg,cA,ct,d7,h,iV,eL,fP,dF,dI,fO,eB,gq,hp,(kb (σ:=σ) e3).1,wc e4,ail,aei,sF,sG,putN,yj,jJ,pc hg,Ph,JJ hg,eu,gF]
theorem acb(hg:σ.get r=some (cY L m))(hL:dj L.length=true):lr [.ref r] σ=some (.bool (!bc m L.length),σ):=by
 show ob (o6 [.ref r] σ) ib=_
 simp only[o6,dm,eu,wP,fH,gq,bm,kO,fy,ae,aX,cg,pc hg,IX hg,eB,cA,ct,x6 hL,aoI,dI,gF]
theorem lx.lt(S:lx mac l L m){t:AV}(e:jN l 0=some (some t)):L[m]? =some t:=by
 refine fg (S.2) fun pre h1 h2=> ?_
 rw[h2,<- h1,kJ (ax _),Bz,Rf S.1 e]
theorem aoZ(hm:m<L.length):UK [.int (.ofNat m),.int (ai L.length-1)] σ=some (.int (.ofNat m),σ):=by
 obtain⟨j,hj⟩:=Nat.exists_eq_add_of_lt hm
 rw[hj,show ai (m+j+1)-1=ai (m+j) from Bt (m+j:Nat) 1]
 show some (AV.int (bif bc (m+j) m then ai (m+j)else ai m),σ)=_
 rw[ZM (cZ m j)];rfl
theorem ahF(hg:σ.get r=some (cY L m))(hL:dj L.length=true)(S:lx mac l L m){t w:AV}{x:ac}(e2:jN l 0=some (some t))(e3:pJ 4 t=some w):nB [.ref r,.str x] σ=some (.opq,σ):=by
 have hat:=S.lt e2
 have hm:=(cW.mp hat).1
 have ht:qV σ (.lst L)=some true:=by
  show(bif dj L.length then some (!L.isEmpty)else none)=_
  rw[hL]
  cases L with
  |nil=>exact absurd hm (fY _)
  |cons=>rfl
 have hs:b4 .Sub (.int (.ofNat L.length)) (.int 1) σ=some (.int (ai L.length-1),σ):=rfl
 have hix:=Jd (σ:=σ) (fZ (au (gP hm) (jT hL))) hat
 have ho: ∀a b,WE [a,b] σ=some (.opq,σ):=fun _ _=>rfl
 show ob (rR [.ref r,.str x] σ) ib=_
 simp only[rR,dm,j9,qQ,eL,fP,dF,eu,wL,l7,jJ,gq,bm,kO,pf,fy,na,ae,af,aX,cg,IX hg,pc hg,ht,eB,cA,ct,x6 hL,d7,hs,aoZ hm,hix,(kb (σ:=σ) e3).1,ho,dI,gF]
end
section
variable{C:PC}{kF:Nat}{f:ah}{mac:List Nat->List AV}{bx:List Nat->List AV->List Nat}{VB:AV->Prop}
structure qj(C:PC)(mac:List Nat->List AV)(bx:List Nat->List AV->List Nat)(VB:AV->Prop):Prop where
 mac0:mac []=[]
 rdr: ∀l c,C.conc 1021 l c↔lT mac l c
 bx2: ∀m d vs,bx [m,d] vs=[m,d]
 bag: ∀l c,C.conc 0 l c↔agx bx VB l c
theorem eE{σ:AS}{r:Nat}{fb c:bJ}(h:σ.get r=some fb):(σ.set r c).get r=some c:=by rw[AS.get_set,if_pos rfl,h];rfl
theorem tu{σ:AS}{r b:Nat}{c:bJ}(h:b≠r):(σ.set r c).get b=σ.get b:=by rw[AS.get_set,if_neg h]
theorem b9{l l':aa}:aN (l++l')=(aN l&&aN l'):=by
 induction l with
 |nil=>rfl
 |cons a l ih=>exact(congrArg (noRef a&& ·) ih).trans (Bool.and_assoc ..).symm
theorem Mq{l:aa}{j:Nat}(h:aN l=true):aN (l.take j)=true/\aN (l.drop j)=true:=by
 rw[<- n9 j l,b9]at h
 exact aE h ii
theorem vW{σ:AS}{l:aa}{r:Nat}{c fb:bJ}(h:lT mac l c)(m0:mac []=[])(hg:σ.get r=some fb): ∃L m,(σ.set r c).get r=some (cY L m)/\c=cY L m/\dj L.length=true/\lx mac l L m/\m+(xp mac l).length=L.length/\
  ∀j l',rV l j=some l'->lT mac l' (cY L (m+j)):=by
 obtain⟨w,pre,h1,h2,h3,rfl⟩:=h
 refine⟨_,_,eE hg,rfl,by rw[ao];exact h1,⟨m0,pre,rfl,rfl⟩,ao.symm,fun j l' e=> ?_⟩
 refine uj (adC m0 w e) fun d1 d2 d3=> ?_
 have hl:(pre++(xp mac l).take j).length=pre.length+j:=by rw[ao,kp,Ij d2]
 refine⟨d3,pre++(xp mac l).take j,?_,?_,?_,?_⟩
 ·rw[hl,d1,hV,kK,Bk d2];exact h1
 ·rw[b9,h2,(Mq h3).1];rfl
 ·rw[d1];exact(Mq h3).2
 ·rw[hl,d1,aB,n9]
theorem uz(O:qj C mac bx VB){F F':aW}(hF:aF C kF f F)(H: ∀args σ a aj,F' args σ=some (a,aj)-> ∃r l,σ.get r=some (.orc 1021 l)/\aj=σ/\
  ∀jE L m,jE.get r=some (cY L m)->dj L.length=true->lx mac l L m->m+(xp mac l).length=L.length->F args jE=some (a,jE)):aF C kF f F':=uW hF fun args σ a aj e=>by
 obtain⟨r,l,hr,rfl,H⟩:=H args σ a aj e
 refine⟨r,1021,l,hr,fun c hc hlt=> ?_⟩
 refine acd (vW ((O.rdr _ _).mp hc) O.mac0 hr) fun L m h1 h2 h3 h4 h5 h6=> ?_
 refine⟨_,c,1021,l,H _ L m h1 h3 h4 h5,h2▸h1,hc,ax _,fun b d q=> ?_⟩
 by_cases z:b=r
 ·exact .inl ⟨z,aI (q.symm.trans (z▸hr))⟩
 ·exact .inr ⟨z,(tu z).trans q⟩
theorem ZH{σ ay:AS}{r:Nat}{c' fb:bJ}(hr:σ.get r=some fb)(h: ∀b d,b≠r->σ.get b=some d->ay.get b=some d)(b:Nat)(d:bJ)(q:(σ.set r c').get b=some d):(b=r/\d=c')\/(b≠r/\ay.get b=some d):=by
 by_cases z:b=r
 ·subst z;rw[eE hr]at q;exact .inl ⟨rfl,(aI q).symm⟩
 ·rw[tu z]at q;exact .inr ⟨z,h b d z q⟩
theorem zv(O:qj C mac bx VB){F F':aW}(hF:aF C kF f F)(H: ∀args σ a aj,F' args σ=some (a,aj)-> ∃r l j l',σ.get r=some (.orc 1021 l)/\rV l j=some l'/\aj=σ.set r (.orc 1021 l')/\
  ∀jE L m,jE.get r=some (cY L m)->dj L.length=true->lx mac l L m->F args jE=some (a,jE.set r (cY L (m+j)))):aF C kF f F':=uW hF fun args σ a aj e=>by
 obtain⟨r,l,j,l',hr,hd,rfl,H⟩:=H args σ a aj e
 refine⟨r,1021,l,hr,fun c hc hlt=> ?_⟩
 refine acd (vW ((O.rdr _ _).mp hc) O.mac0 hr) fun L m h1 h2 h3 h4 h5 h6=> ?_
 exact⟨_,cY L (m+j),1021,l',H _ L m h1 h3 h4,eE h1,(O.rdr _ _).mpr (h6 _ _ hd),ax _,ZH hr fun b d z q=>by rw[tu z,tu z];exact q⟩
theorem zw{F:aW}{args:aa}{σ:AS}{r:Nat}{l:aa}{a b:AV}{aj:AS}(hr:σ.get r=some (.orc 1021 l))(e:some (b,σ)=some (a,aj))(H: ∀jE L m,jE.get r=some (cY L m)->dj L.length=true->lx mac l L m->m+(xp mac l).length=L.length->F args jE=some (b,jE)):
  ∃r l,σ.get r=some (.orc 1021 l)/\aj=σ/\ ∀jE L m,jE.get r=some (cY L m)->dj L.length=true->lx mac l L m->m+(xp mac l).length=L.length->F args jE=some (a,jE):=by
 apply s2 e;exact⟨r,l,hr,rfl,H⟩
theorem QZ{F:aW}{args:aa}{σ:AS}{r j:Nat}{l l':aa}{a b:AV}{aj:AS}(hr:σ.get r=some (.orc 1021 l))(hd:rV l j=some l')(e:some (b,σ.set r (.orc 1021 l'))=some (a,aj))(H: ∀jE L m,jE.get r=some (cY L m)->dj L.length=true->lx mac l L m->F args jE=some (b,jE.set r (cY L (m+j)))):
  ∃r l j l',σ.get r=some (.orc 1021 l)/\rV l j=some l'/\aj=σ.set r (.orc 1021 l')/\ ∀jE L m,jE.get r=some (cY L m)->dj L.length=true->lx mac l L m->F args jE=some (a,jE.set r (cY L (m+j))):=by
 apply s2 e;exact⟨r,l,j,l',hr,hd,rfl,H⟩
theorem VO(o:Option AV):((od o some (some .none)).getD .none)=o.getD .none:=by cases o<;>rfl
theorem YV(O:qj C mac bx VB)(hF:aF C kF f iq):aF C kF f IC:=uz O hF fun args σ a aj e=>n6 e fun r as l hr e=>aaW e
 (fun e=>oE e fun o ho e=>zw hr e fun jE L m hg hL S _=>by rw[VO];exact tq hg hL S ho) fun k e=>oE e fun o ho e=>zw hr e fun jE L m hg hL S _=>by rw[VO];exact tq hg hL S ho
theorem QV(O:qj C mac bx VB)(hF:aF C kF f iB):aF C kF f LX:=uz O hF fun args σ a aj e=>n6 e fun r as l hr e=>Lv e fun w bs e=>aaW e
 (fun e=>oE e fun b e1 e=>zw hr e fun jE L m hg hL S _=>lV hg hL S e1) fun k e=>oE e fun b e1 e=>zw hr e fun jE L m hg hL S _=>lV hg hL S e1
theorem QW(O:qj C mac bx VB)(hF:aF C kF f jy):aF C kF f LY:=uz O hF fun args σ a aj e=>n6 e fun r as l hr e=>Lv e fun w bs e=>aaW e
 (fun e=>oE e fun b e1 e=>zw hr e fun jE L m hg hL S _=>Hw hg hL S e1) fun k e=>oE e fun b e1 e=>zw hr e fun jE L m hg hL S _=>Hw hg hL S e1
theorem QU(O:qj C mac bx VB)(hF:aF C kF f lr):aF C kF f vD:=uz O hF fun args σ a aj e=>n6 e fun r as l hr e=>Aw e fun e=>oE e fun o ho e=>by
 have ho:=fun h=>Rf (mac:=mac) h ho
 cases o with
 |some t=>
  exact zw hr e fun jE L m hg hL S hlen=>by
   have h:=(cW.mp (ho O.mac0)).1
   rw[acb hg hL,Hj (by rw[<- hlen];exact vj h)];rfl
 |none=>
  exact zw hr e fun jE L m hg hL S hlen=>by
   have h:=Rx.mp (List.getElem?_eq_none_iff.mp (ho O.mac0))
   rw[acb hg hL,ZM (by rw[<- hlen,h];exact ax _)];rfl
theorem V7(O:qj C mac bx VB)(hF:aF C kF f nB):aF C kF f SK:=uz O hF fun args σ a aj e=>n6 e fun r as l hr e=>Lv e fun x bs e=>Aw e fun e=>oE e fun o ho e=>oE (o:=o) e fun t ht e=>oE e fun w hw e=>
 zw hr e fun jE L m hg hL S _=>ahF hg hL S (ht▸ho) hw
theorem YX(O:qj C mac bx VB)(hF:aF C kF f o0):aF C kF f WG:=zv O hF fun args σ a aj e=>n6 e fun r as l hr e=>Aw e fun e=>oE e fun o ho e=>oE (o:=o) e fun t ht e=>oE e fun l' hd e=>
 QZ hr hd e fun jE L m hg hL S=>let⟨c,ks,vs,h⟩:=aa2 (k:=0) (ht▸ho);anj hg hL S (ht▸ho) (h▸rfl) (h▸rfl)
theorem EV{σ:AS}{r:Nat}{c:bJ}(h:σ.get r=some c):σ.set r c=σ:=congrArg (AS.mk σ.next) (Ud _ _ _ h)
theorem Lp(O:qj C mac bx VB)(hF:aF C kF f jQ):aF C kF f FI:=zv O hF fun args σ a aj e=>n6 e fun r as l hr e=>Lv e fun w bs e=>Aw e fun e=>oE e fun b hb e=>bE e
 (fun z e=>oE e fun l' hd e=>QZ hr hd e fun jE L m hg hL S=>JK hg hL S (z▸hb)) fun z e=>QZ (j:=0) hr (Mi l) ((congrArg (fun σ=>some (AV.bool false,σ)) (EV hr)).trans e) fun jE L m hg hL S=>(JK hg hL S (z▸hb)).trans (congrArg (fun σ=>some (AV.bool false,σ)) (EV hg).symm)
theorem Ze{β:Type}{l:aa}{w:ac}{f:AV->List AV->Option β}{x:β}{P:Prop}(e:Wk l w f=some x)(kk: ∀t v l',qR l 0 w=some true->jN l 0=some (some t)->pJ 1 t=some v->rV l 1=some l'->f v l'=some x->P):P:=
 oE e fun b hb e=>kS e fun z e=>oE e fun o ho e=>oE (o:=o) e fun t ht e=>oE e fun v hv e=>oE e fun l' hd e=>kk t v l' (z▸hb) (ht▸ho) hv hd e
theorem abw{d:AV}(h:uF lN [d]=some (.bool true)):bX d=false:=by
 cases d<;>first|rfl|exact nn h
theorem V8(O:qj C mac bx VB)(hF:aF C kF f nC):aF C kF f (SL iI lN oj):=zv O hF fun args σ a aj e=>n6 e fun r as l hr e=>Aw e fun e=>Ze e fun t v l' hk ht hv hd e=>oE e fun d h1 e=>oE e fun b h2 e=>afY e fun hb e=>oE e fun n h3 e=>
 QZ hr hd e fun jE L m hg hL S=>alv hg hL S hk ht hv h1 (hb▸h2) h3 (abw (hb▸h2))
theorem Sl(O:qj C mac bx VB)(hF:aF C kF f mu):aF C kF f (OD iC):=zv O hF fun args σ a aj e=>n6 e fun r as l hr e=>Aw e fun e=>Ze e fun t v l' hk ht hv hd e=>oE e fun x h1 e=>adp e fun b hb e=>
 QZ hr hd e fun jE L m hg hL S=>aez hg hL S hk ht hv (hb▸h1)
theorem Rh{F:aW}{args:aa}{σ:AS}{r:Nat}{l:aa}{a:AV}{w:ac}(O:qj C mac bx VB)(hr:σ.get r=some (.orc 1021 l))(H: ∀jE L m,jE.get r=some (cY L m)->dj L.length=true->lx mac l L m->r<jE.next->F args jE=some (a,sW jE w)):
  ∃r kk l,σ.get r=some (.orc kk l)/\ ∀c,C.conc kk l c->(∀b d,σ.get b=some d->b<σ.next)-> ∃ay CF TF bD,F args (σ.set r c)=some (a,ay)/\ay.get r=some CF/\C.conc TF bD CF/\ay.next<=(⟨σ.next+1,σ.cells⟩:AS).next/\
   ∀b d,(⟨σ.next+1,σ.cells⟩:AS).get b=some d->(b=r/\d= .orc TF bD)\/(b≠r/\ay.get b=some d):=by
 refine⟨r,1021,l,hr,fun c hc hlt=> ?_⟩
 refine acd (vW ((O.rdr _ _).mp hc) O.mac0 hr) fun L m h1 h2 h3 h4 h5 h6=> ?_
 refine⟨_,c,1021,l,H _ _ _ h1 h3 h4 (hlt _ _ hr),((JH (σ:=σ.set r c) (hlt _ _ hr)).trans h1).trans (congrArg some h2.symm),hc,ax _,fun b d q=> ?_⟩
 have q:σ.get b=some d:=q
 by_cases z:b=r
 ·exact .inl ⟨z,aI (q.symm.trans (z▸hr))⟩
 ·exact .inr ⟨z,(JH (σ:=σ.set r c) (hlt _ _ q)).trans ((tu z).trans q)⟩
theorem QX(O:qj C mac bx VB)(hF:aF C kF f jz):aF C kF f LZ:=uW hF fun args σ a aj e=>n6 e fun r as l hr e=>Lv e fun w bs e=>Aw e fun e=>kS e fun hw e=>oE e fun b e1 e=>by
 apply s2 e
 exact Rh O hr fun jE L m hg hL S hr=>Qm hg hL S hr hw e1
theorem YW(O:qj C mac bx VB)(hF:aF C kF f oZ):aF C kF f WF:=uW hF fun args σ a aj e=>n6 e fun r as l hr e=>Lv e fun w bs e=>Aw e fun e=>kS e fun hw e=>oE e fun b e1 e=>bE e
 (fun z e=>oE e fun l' hd e9=>by
  subst z
  apply s2 e9
  refine⟨r,1021,l,hr,fun c hc hlt=> ?_⟩
  refine acd (vW ((O.rdr _ _).mp hc) O.mac0 hr) fun L m h1 h2 h3 h4 h5 h6=> ?_
  have hs: ∀{b:Nat},b<σ.next->((sW (σ.set r c) w).alloc (.lst ((dw 32 [] w).map .str))).get b=(σ.set r c).get b:=fun{b} h=>by
   rw[AS.get_alloc,if_neg (show b≠(sW (σ.set r c) w).next from cu (cP h))];exact JH (σ:=σ.set r c) h
  exact⟨_,cY L (m+(dw 32 [] w).length),1021,l',acU h1 h3 h4 (hlt _ _ hr) hw e1,eE ((hs (hlt _ _ hr)).trans h1),(O.rdr _ _).mpr (h6 _ _ hd),ax _,
   ZH hr fun b d z q=>(tu (σ:=(sW (σ.set r c) w).alloc _) z).trans ((hs (hlt _ _ q)).trans ((tu z).trans q))⟩) fun z e9=>by
  subst z
  apply s2 e9
  exact Rh O hr fun jE L m hg hL S hr=>acU hg hL S hr hw e1
theorem zL{F:aW}(hF:aF C kF f F):aF C kF f (wR F):=H0 (jh (pick:=fun _ _=>[]) hF) fun args σ a aj e=>oE e fun b h e=>kS h fun hr h=>fW h fun xO ay e1 h=>kS h fun ha h=>by
 apply s2 e
 apply s1 h
 show(bif aN args then bA (F args ⟨0,[]⟩) _ else none)=_
 rw[hr,e1]
 show ob (uR _ xO) _=_
 rw[uD ha];rfl
end
section
variable{k:Nat}{C:PC}{W W' W'':Wd}{σ aj:AS}{h h':bM}
theorem aau{ay:AS}{cB:Wd}{x:Nat}{c:Nat}{ks:ac}{fs fs':aa}{p:aC×aC}{es:List ik}{m:Nat}{vs:List ah}(R:cD C W σ h)(hg:σ.get x=some (.inst c ks fs))(hp:W.ρ x=some p)(hpr:W.pr p.2=none)(hi:W.im p.2=none)(q0:C.cls c=true)(q1:W.im p.1=some (instObj c p.2))(q2:h.get? p.2=some (dictOf es m))(q3:oX C ks vs es)
  (g2:Gh W (σ.drop x) cB ay)(R2:cD C cB ay h)(z2:VL C cB fs' vs):cD C cB ⟨ay.next,(x,.inst c ks fs')::ay.cells⟩ h:=by
 have hx: ∀b c,(σ.drop x).get b=some c->b≠x/\σ.get b=some c:=fun b c e=>by
  rw[AS.get_drop]at e
  by_cases z:b=x
  ·rw[if_pos z]at e;exact nn e
  ·rw[if_neg z]at e;exact⟨z,e⟩
 have hp2:cB.ρ x=some p:=by rw[g2.ρ];exact hp
 have hi2:cB.im p.2=none:=by
  cases z:cB.im p.2 with
  |none=>rfl
  |some o=>
   refine XG (g2.im _ _ hi z) fun b c' p' h1 h2 h3=> ?_
   obtain⟨n1,n2⟩:=hx _ _ h1
   exact absurd (R.inj _ _ _ _ _ _ n2 hg h2 hp h3) n1
 have look: ∀b c',AS.get ⟨ay.next,(x,.inst c ks fs')::ay.cells⟩ b=some c'->(b=x/\c'= .inst c ks fs')\/(b≠x/\ay.get b=some c'):=fun b c' e=>by
  by_cases z:b=x
  ·subst z;exact .inl ⟨rfl,(aI (aiB.symm.trans e)).symm⟩
  ·exact .inr ⟨z,(aiC z).symm.trans e⟩
 refine⟨R2.base,R2.im,R2.pr,R2.dis,R2.fresh,fun b c' e=> ?_,fun b b' cb cb' pb pb' e e' ep ep' hpp=> ?_⟩
 ·rcases look b c' e with⟨rfl,rfl⟩|⟨h1,h2⟩
  ·exact⟨p,hp2,⟨q0,g2.le.2.1 _ _ q1,es,m,vs,q2,z2,q3⟩,hi2,by rw[g2.le.2.2];exact hpr⟩
  ·exact R2.cell _ _ h2
 ·have old: ∀b c',AS.get ⟨ay.next,(x,.inst c ks fs')::ay.cells⟩ b=some c'-> ∃c'',σ.get b=some c'':=fun b c' e=>(look b c' e).elim (fun h=>⟨_,h.1▸hg⟩) fun h=>⟨_,(hx _ _ (g2.sub _ _ h.2)).2⟩
  obtain⟨d,e⟩:=old b cb e
  obtain⟨d',e'⟩:=old b' cb' e'
  exact R.inj _ _ _ _ _ _ e e' (by rw[<- g2.ρ];exact ep) (by rw[<- g2.ρ];exact ep') hpp
theorem XW{sel:Nat->Bool}(n:Nat)(W:Wd)(σ:AS)(a:AV)(v:ah)(R:cD C W σ h)(q:V C W a v): ∃W',W.le W'/\cD C W' (PZ sel n a σ).2 h/\V C W' (PZ sel n a σ).1 v:=by
 unfold PZ
 generalize e:iw a _=o
 cases o with
 |none=>exact⟨W,.refl _,R,q⟩
 |some r=>
  show ∃W',W.le W'/\cD C W' r.2 h/\V C W' r.1 v
  revert q
  refine iD e fun x e=>instE e fun c ks fs hg e=> ?_
  apply s1 e
  intro q
  obtain⟨p,hp,rfl⟩:=q
  obtain⟨p',e',⟨q0,q1,es,m,vs,q2,r,q3⟩,hi,hpr⟩:=R.cell _ _ hg
  rw[hp]at e';cases e'
  refine uk (Mp (sel:=sel) (CM (sel:=sel) n) ks fs W (σ.drop x) vs (R.drop x) r) fun cB g2 R2 z2=> ?_
  exact⟨cB,g2.le,aau R hg hp hpr hi q0 q1 q2 q3 g2 R2 z2,p,g2.le.1 _ _ hp,rfl⟩
theorem Ub{kF:Nat}{f:ah}{F:aW}{g:AV->AS->AV×AS}(hg: ∀h W σ a v,cD C W σ h->V C W a v-> ∃W',W.le W'/\cD C W' (g a σ).2 h/\V C W' (g a σ).1 v)(hF:aF C kF f F):aF C kF f (Jv g F):=fun A R W σ s args vs Re hv tk a aj e=>fW e fun b ay e1 e=>by
 refine eK (hF A R W σ s args vs Re hv tk b ay e1) fun v s' ⟨hs,W',le,R',hv'⟩=> ?_
 refine uk (hg _ _ _ _ _ R' hv') fun cB l2 R2 v2=> ?_
 rw[show g b ay=(a,aj) from aI e]at R2 v2
 exact⟨hs,cB,le.trans l2,R2,v2⟩
theorem HX{kF n:Nat}{sel:Nat->Bool}{f:ah}{F:aW}(hF:aF C kF f F):aF C kF f (Jv (ur sel n) F):=Ub (fun h W σ a v R q=>let⟨W',g,R',v'⟩:=CM n W σ a v R q;⟨W',g.le,R',v'⟩) hF
theorem HY{kF n:Nat}{sel:Nat->Bool}{f:ah}{F:aW}(hF:aF C kF f F):aF C kF f (Jv (PZ sel n) F):=Ub (fun h W σ a v R q=>XW n W σ a v R q) hF
end
section
variable{C:PC}{kF:Nat}{f:ah}{mac:List Nat->List AV}{bx:List Nat->List AV->List Nat}{VB:AV->Prop}
theorem VT{a:AV}{Q:AV->Prop}(h:(mZ a fun c _ _=>some (!am c 0)).getD false=true)(kk: ∀c ks vs,am c 0=false->Q (.frz c ks vs)):Q a:=by
 cases a with
 |frz c ks vs=>exact kk c ks vs (pq h)
 |_=>exact ff h
theorem Up{l:aa}:dk l=true->xp mac l=l/\vp mac l:=by
 induction l with
 |nil=>exact fun _=>⟨rfl,trivial⟩
 |cons a l ih=>
  refine fun h=>aE (show((mZ a fun c _ _=>some (!am c 0)).getD false&&dk l)=true from h) fun h1 h2=>VT (Q:=fun a=>xp mac (a::l)=a::l/\vp mac (a::l)) h1 fun c ks vs h1=> ?_
  obtain⟨i1,i2⟩:=ih h2
  refine⟨?_,fun z=> ?_,i2⟩
  ·rw[E0,h1,i1];rfl
  ·have z:(am c 0&&CT ks)=true:=z
   rw[h1]at z;exact ff z
@[elab_as_elim] theorem ams {vs:aa} {L:aa} {Q:List AV->Prop} (h:aaw vs=some L) (kk: ∀x y,Q [.lst L,.int (.ofNat 0),x,y]):Q vs:=
 kP h fun a r h=>kP (Q:=fun r=>Q (a::r)) h fun b r h=>alO (Q:=fun a=>Q (a::b::r)) h fun L' h=>lz (Q:=fun b=>Q (.lst L'::b::r)) h fun n h=>kS h fun z h=>KQ (Q:=fun r=>Q (.lst L':: .int (.ofNat n)::r)) h fun x y h=>
  s1 (P:=fun L=>(∀x y,Q [.lst L,.int (.ofNat 0),x,y])->Q [.lst L',.int (.ofNat n),x,y]) h (fun kk=>by rw[aD z];exact kk x y) kk
theorem ae8(O:qj C mac bx VB){F:aW}(hF:aF C kF f F):aF C kF f (anX F):=fun A R W σ s args vs Re hv tk a aj e=>fW e fun b ay e1 e=>by
 revert e1
 refine iD e fun x e=>instE e fun c ks fs hc e=>kS e fun z e=>oE e fun L hL e=>kS e fun q e e1=> ?_
 apply s2 e
 obtain⟨z1,z2⟩:=aE z ii
 rw[kW,decide_eq_true_iff]at z2
 obtain⟨q,h3⟩:=aE q ii
 obtain⟨h1,h2⟩:=aE q ii
 obtain⟨xl,xw⟩:=Up (mac:=mac) h3
 refine eK (hF A R W σ s args vs Re hv tk _ ay e1) fun v s' ⟨hs,W',le,R',hv'⟩=> ?_
 obtain⟨p,a1,⟨q0,q1,es,n,vs,q2,r,q3⟩,_⟩:=R'.cell _ _ hc
 have r4:VL C W' [.lst L,.int (.ofNat 0),.opq,.opq] vs:=ams (Q:=fun fs=>VL C W' fs vs->VL C W' [.lst L,.int (.ofNat 0),.opq,.opq] vs) hL (fun x y r=>r.consE fun v1 r1 z1 r=>r.consE fun v2 r2 z2 r=>r.consE fun v3 r3 _ r=>r.consE fun v4 r4 _ r=>.cons z1 (.cons z2 (.cons trivial (.cons trivial r)))) r
 rw[aD z1]at q0 q1
 rw[z2]at q3
 exact⟨hs,W',le,R'.set hc a1 (fun _ _ _ e=>e) ⟨cY L 0,(O.rdr _ _).mpr ⟨xw,[],by rw[xl,Ig,io];exact h1,rfl,by rw[xl];exact h2,by rw[xl];rfl⟩,q0,q1,es,n,vs,q2,r4,q3⟩,hv'⟩
theorem ak9{σ:AS}{x m:Nat}{b:Int}(hg:σ.get x=some (.lst [.int b]))(hm:0<m)(hs:bc m 1000=true):y9 [.ref x,.int (.ofNat m)] σ=some (.int (b.fmod (ai m)),σ.set x (.lst [.int (b.fdiv (ai m))])):=by
 obtain⟨j,rfl⟩:=Nat.exists_eq_succ_of_ne_zero (oP hm)
 have h1:mK (ai (j+1))=true:=gv (au (gP (cC.mp hs)) (by decide +kernel))
 have hi:eH (.ref x) (.int 0) σ=some (.int b,σ):=jn (show act (.ref x) (.int 0) σ=some (.int b) from jn (show nG σ (.ref x)=some [.int b] from jn hg))
 have e1:b4 .Mod (.int b) (.int (.ofNat (j+1))) σ=some (.int (b.fmod (ai (j+1))),σ):=rfl
 have e2:b4 .FloorDiv (.int b) (.int (.ofNat (j+1))) σ=some (.int (b.fdiv (ai (j+1))),σ):=by
  show od (bif false|| !mK (ai (j+1))then none else _) _ _=_
  rw[h1];rfl
 have hset:Lm (.int (b.fdiv (ai (j+1)))) (.ref x) (.int 0) σ=some (σ.set x (.lst [.int (b.fdiv (ai (j+1)))])):=jn hg
 show ob (zc [.ref x,.int (.ofNat (j+1))] σ) ib=_
 simp only[zc,dm,fO,jJ,bm,kO,pf,fy,l8,ae,aX,cg,d7,hi,e1,dF,sF,sG,putN,QO,e2,hset,eu,dI,gF]
@[elab_as_elim] theorem aqp {β:Type} {a:AV} {Q:AV->Prop} {f:Nat->Nat->Option β} {r:β} (h:drA a f=some r) (kk: ∀c m d vs,f m d=some r->Q (.frz c [m,d] vs)):Q a:=
 td h fun c ks vs h=>kP (Q:=fun ks=>Q (.frz c ks vs)) h fun m l h=>kP (Q:=fun l=>Q (.frz c (m::l) vs)) h fun d l h=>kS h fun z h=>by rw[Qi z];exact kk c m d vs h
theorem wj(O:qj C mac bx VB)(hF:aF C kF f y9):aF C kF f BF:=uW hF fun args σ a aj e=>KQ e fun a1 b1 e=>iD e fun x e=>lz e fun m e=>Ga e fun kk l hg e=>kS e fun q0 e=>by
 rw[aD q0]at hg
 revert hg
 refine kP (Q:=fun l=>σ.get x=some (.orc 0 l)->_) e fun t r e=> ?_
 refine aqp (Q:=fun t=>σ.get x=some (.orc 0 (t::r))->_) e fun fb m' d vs e=> ?_
 refine fun hg=>kS e fun q e=>aE q fun q hs=> ?_
 apply s2 e
 rw[<- aD q]at hg
 refine⟨x,0,_,hg,fun c hc hlt=> ?_⟩
 obtain⟨hv,b,rfl,h3⟩:=(O.bag _ _).mp hc
 rw[show xb bx (.frz fb [m,d] vs::r)=m::d::xb bx r from congrArg (· ++xb bx r) (O.bx2 m d vs)]at h3
 refine uj (h3) fun hm hd hr=> ?_
 have hg1:(σ.set x (.lst [.int b])).get x=some (.lst [.int b]):=eE hg
 exact⟨(σ.set x (.lst [.int b])).set x (.lst [.int (b.fdiv (ai m))]),.lst [.int (b.fdiv (ai m))],0,r,(ak9 hg1 hm hs).trans (by rw[hd]),eE hg1,(O.bag _ _).mpr ⟨fun a h=>hv a (aQ _ h),_,rfl,hr⟩,ax _,
  ZH hg fun b d z q=>by rw[tu z,tu z];exact q⟩
theorem ae2(O:qj C mac bx VB){path:Int->List AV}(hp: ∀b,(∀a∈path b,VB a)/\cH (xb bx (path b)) b){F:aW}(hF:aF C kF f F):aF C kF f (af6 path F):=fun A R W σ s args vs Re hv tk a aj e=>by
 revert hv
 refine Pm e fun b e=> ?_
 refine iD e fun x e=>lstE e fun l hg e=> ?_
 revert hg
 refine Pm e fun v e=> ?_
 refine ly e fun b e hg hv=> ?_
 exact hF A R W _ s [.ref x] vs (Re.abst hg ((O.bag _ _).mpr ⟨(hp b).1,b,rfl,(hp b).2⟩)) hv tk a aj e
end
noncomputable def tk(k w:ac)(c:Nat)(a:Bool):AV:=.frz Vf [2,1,4,28] [.str k,.str w,.tup [.int 1,.int (ai c)],.bool a]
noncomputable def arb:List Nat:=[112,105,99,116,117,114,101]
noncomputable def wO(a:Bool)(c:Nat):List (List Nat×List Nat×Nat)->List AV
 |[]=>[]
 |(k,w,n)::r=>tk k w c a::wO false (c+n) r
noncomputable def wd(w:ac):List Nat×List Nat×Nat:=(uU,w,w.length+1)
noncomputable def nu(w:ac):List Nat×List Nat×Nat:=(pY,w,w.length+1)
noncomputable def KX:List Nat×List Nat×Nat:=(jp,[46],2)
noncomputable def nV(l:Nat):List Nat:=bif am l 1 then[48,49]else bif am l 5 then[48,53]else bif am l 10 then[49,48]else[55,55]
noncomputable def Sh(p:Nat):List (List Nat×List Nat×Nat):=(eg (yb p) fun s=>some [wd [80,73,67],(arb,s,s.length+1)]).getD []
noncomputable def Su(w:Nat):List (List Nat×List Nat×Nat):=bif am w 1 then[wd [85,83,65,71,69],wd [73,83],wd [80,65,67,75,69,68,45,68,69,67,73,77,65,76]]else[]
noncomputable def Sg(w:Nat):List (List Nat×List Nat×Nat):=bif am w 2 then[wd [79,67,67,85,82,83],nu [51],wd [84,73,77,69,83],wd [68,69,83,67,69,78,68,73,78,71],wd [75,69,89],wd [73,83],wd [75],wd [73,78,68,69,88,69,68],wd [66,89],wd [73,88]]else bif am w 3 then[wd [79,67,67,85,82,83],nu [48],wd [84,79],nu [52],wd [84,73,77,69,83],wd [68,69,80,69,78,68,73,78,71],wd [79,78],wd [78],wd [79,70],wd [71]]else[]
def anM(lvl:Nat)(x:Nat×Nat×Nat)(a:Bool):List AV:=wO a (bif a then 8 else 12) (nu (nV lvl)::wd (nm x.1)::(Sh x.2.2++(Su x.2.1++(Sg x.2.1++[KX]))))
def kD(lvl:Nat)(x:Nat×Nat×Nat):List AV:=anM lvl x (bif am lvl 1 then true else am lvl 77)
def fM(n:Nat):List AV:=wO false 12 [nu [56,56],wd ([73,83,45]++nm n),wd [86,65,76,85,69],(jp,[45],1),nu [53],wd [84,72,82,85],nu [49,46,50,53],(YO,[113],4),KX]
def gH(n l:Nat):List AV:=wO false 12 ([nu [54,54],wd (nm n),wd [82,69,78,65,77,69,83],wd (nm 16)]++((bif am l 0 then[]else[wd [84,72,82,85],wd (nm 22)])++[KX]))
def kR(t:ac)(a:Bool):Option (List AV):=bA (rO [.str t,.bool a] ⟨0,[]⟩) fun x σ=>iw x fun x=>nw σ x some
def uV(x:AV)(a:Bool):Option (List AV):=bA (BW [x] ⟨0,[]⟩) fun t _=>eg t fun t=>kR t a
def vX(r n:Nat)(cells:List (Nat×bJ))(x:Option (AV×AS)):Option (AV×AS):=bA x fun a aj=>sE aj 0 fun k' l'=>bif F9 0 (wQ a aj)then none else imp (X5 r n (wQ a aj)) (wQ a aj) n (lE r (.orc k' l') cells) a aj
theorem t1(c k p:AV):uV (.frz cq gn (.int (ai 10)::kh (16,2,1) c k p .none)) false=some (kD 10 (16,2,1)):=by kernel_rfl
theorem t2(r n cells rest):vX r n cells (lM [.ref 0] ⟨1,[(0,.orc 1021 (kD 10 (16,2,1)++rest))]⟩)=some (.ref (n+2),⟨n+3,(n,.lst [])::(n+1,.lst [])::(n+2,.inst cq gn (.int (ai 10)::kh (16,2,1) (.ref n) (.ref (n+1)) .none .none))::lE r (.orc 1021 rest) cells⟩):=by kernel_rfl
section
open PySem.SeqAt
noncomputable section
noncomputable def zq(as:List aC)(h:bM):dL:=as.filterMap fun a=>(h.get? a).map (a,·)
def nsO(K:dL)(x:Str)(f:Option ah->Bool):Bool:=Dd (nsIn K 3 x) f
def HG(K:dL)(x:Str)(v:ah):Bool:=nsO K x fun o=>decide (some v=o)
def frB(K:dL)(r:FR):Bool:=fnB K FN r.f r.n r.dfl r.nm r.N r.t&&(keepIn K (.ref r.f)&&bp (motive:=fun _=>Bool) true (fun x=>HG K x (.ref r.f)) r.x)
def crB(K:dL)(r:CR):Bool:=makesIn K r.c&&(decide (findIn K (.ref r.c) "__init__"=some (some (.ref r.i)))&&(decide (typeIn K (.ref r.i)=some (.type "function"))&&(keepIn K (.ref r.c)&&(HG K r.x (.ref r.c)&&(co FN.length).all fun i=>S6 r.c i||IW K r.c ((Ax FN i).getD "")))))
noncomputable def mrB(K:dL)(r:MR):Bool:=plainGet K r.c r.x&&(decide (findIn K (.ref r.c) r.x=some (some (.ref r.f)))&&(decide (typeIn K (.ref r.f)=some (.type "function"))&&keepIn K (.ref r.f)))
def grB(K:dL)(r:GR):Bool:=nsO K r.x fun o=>Dd o fun v=>kV K v r.a
def blB(K:dL)(x:Str):Bool:=nsO K x (·.isNone)
def QF(K:dL)(x:Str):Bool:=nsO K x (·.isSome)
def ZI(K:dL):Bool:=qm.all (frB K)&&(zh.all (crB K)&&(KP.all (mrB K)&&(Pl.all (grB K)&&(U5.all (blB K)&&(QF K "show_expression" &&(QF K "no_expression" &&(keepIn K (.ref 112)&&HG K "GrammarFault" (.ref 112))))))))
structure rM(C:PC):Prop where
 ok:ZI C.K=true
 nf:C.nf=FN.length
 fn: ∀i x,Ax FN i=some x->C.fname i=x
 cls: ∀r∈zh,C.cls r.c=true
 name: ∀l c,C.conc 1021 l c-> ∃vs,c= .inst 1021 [38,4,37,36] vs
 gf: ∀k,5<=k->aF C (k+1) (.ref 112) WE
 un:nq C "USAGE_NAMES" BU
 uw:nq C "USAGE_WORDS" t6
 rs:nq C "RESERVED" lL
section
variable{C:PC}{k:Nat}
theorem Db{α:Type}{p:α->Bool}{l:List α}(h:l.all p=true){i:Nat}{r:α}(e:l[i]? =some r):p r=true:=b5.mp h r (bb e)
theorem aaP{l:List Str}: ∀{i:Nat},i<l.length-> ∃x,Ax l i=some x/\x∈l:=by
 induction l with
 |nil=>exact fun h=>absurd h (fY _)
 |cons a l ih=>
  intro i h
  cases i with
  |zero=>exact⟨a,rfl,bg ..⟩
  |succ i=>exact(ih (jF h)).imp fun x h=>⟨h.1,aQ _ h.2⟩
theorem aiV{l:List Str}: ∀{i:Nat} {x:Str},Ax l i=some x->i<l.length:=by
 induction l with
 |nil=>exact fun e=>nn e
 |cons a l ih=>
  intro i x e
  cases i with
  |zero=>exact hZ _
  |succ i=>exact GQ (ih e)
theorem aiU{x:Str}{r:Option ah}(e:nsIn C.K 3 x=some r):C.mg x=r:=by
 refine XH (C.g) fun o es ep h1 h2 h3 h4=> ?_
 have h1:C.pg.get? 3=some o:=h1
 unfold nsIn at e
 split at e
 ·rename_i c d es' n sl ho
  have:=C.inK _ _ ho
  rw[h1]at this;cases this
  cases h2
  rw[<- h4]
  unfold nsFind findBy
  rw[<- Array.find?_toList]
  split at e
  ·rename_i en he;cases e;rw[he];rfl
  ·rename_i he
   rw[he]
   split at e
   ·cases e
   ·cases e;rfl
 ·cases e
theorem Yt{x:Str}{f:Option ah->Bool}(h:nsO C.K x f=true){P:Prop}(kk: ∀o,C.mg x=o->f o=true->P):P:=Ju h fun o ho h=>kk o (aiU ho) h
theorem Js{x:Str}{v:ah}(h:HG C.K x v=true):C.mg x=some v:=Yt h fun o ho h=>ho.trans (ag h).symm
section
variable(O:rM C)
include O
theorem rM.partE{P:Prop}(kk:qm.all (frB C.K)=true->zh.all (crB C.K)=true->KP.all (mrB C.K)=true->Pl.all (grB C.K)=true->U5.all (blB C.K)=true->QF C.K "show_expression"=true->QF C.K "no_expression"=true->keepIn C.K (.ref 112)=true->HG C.K "GrammarFault" (.ref 112)=true->P):P:=
 aE O.ok fun h1 h=>aE h fun h2 h=>aE h fun h3 h=>aE h fun h4 h=>aE h fun h5 h=>aE h fun h6 h=>aE h fun h7 h=>aE h fun h8 h9=>kk h1 h2 h3 h4 h5 h6 h7 h8 h9
theorem rM.fno:SG C FN:=fun i x e=>⟨by rw[O.nf];exact aiV e,O.fn i x e⟩
theorem rM.gr{i:Nat}{x:Str}{a:AV}(e:Pl[i]? =some ⟨x,a⟩):nq C x a:=O.partE fun _ _ _ h _ _ _ _ _=>Yt (Db h e) fun o ho h=>Ju h fun v hv h=>l5 (ho.trans hv) fun W hW=>TB hW h
omit O in
theorem acL{x:Str}(h:QF C.K x=true):nq C x .opq:=Yt h fun o ho h=>(fq.mp h).elim fun v hv=>l5 (ho.trans hv) fun W hW=>trivial
end
structure Cl(C:PC)(x:Str)(fv:ah):Prop where
 g:nq C x (.glob fv)
 k:oW C fv
theorem rM.show(O:rM C):nq C "show_expression" .opq:=O.partE fun _ _ _ _ _ h _ _ _=>acL h
theorem rM.noe(O:rM C):nq C "no_expression" .opq:=O.partE fun _ _ _ _ _ _ h _ _=>acL h
section
variable(O:rM C)
include O
theorem rM.bl{i:Nat}{x:Str}{v:ah}(e:U5[i]? =some x)(hn:x≠ "__name__")(hv:bootBuiltins x=some v)(hk:oW C v):Cl C x v:=O.partE fun _ _ _ _ h _ _ _ _=>Yt (Db h e) fun o ho h=>⟨Uc (ho.trans (dG.mp h)) hn hv,hk⟩
theorem rM.frE{i:Nat}{r:FR}(e:qm[i]? =some r){P:Prop}(kk:fnB C.K FN r.f r.n r.dfl r.nm r.N r.t=true->keepIn C.K (.ref r.f)=true->(∀x,r.x=some x->C.mg x=some (.ref r.f))->P):P:=O.partE fun h _ _ _ _ _ _ _ _=>aE (Db h e) fun h1 h=>aE h fun h2 h=>kk h1 h2 fun x hx=>by
 rw[hx]at h
 exact Js h
theorem rM.cf{i:Nat}{r:FR}(e:qm[i]? =some r){x:Str}(hx:r.x=some x):Cl C x (.ref r.f):=O.frE e fun _ h2 h3=>⟨l5 (h3 x hx) fun W _=>rfl,rn h2⟩
theorem rM.cr{i:Nat}{r:CR}(e:zh[i]? =some r):Cl C r.x (.ref r.c)/\ ∀{F:aW},pU C k (.ref r.i) F->aF C (k+1) (.ref r.c) (uC r.c F):=O.partE fun _ h _ _ _ _ _ _ _=>aE (Db h e) fun h1 h=>aE h fun h2 h=>aE h fun h3 h=>aE h fun h4 h=>aE h fun h5 h6=>
 ⟨⟨l5 (Js h5) fun W _=>rfl,rn h4⟩,fun hF=>ae3 h1 (ag h2) (ag h3) (O.cls _ (bb e)) hF⟩
theorem rM.gfc:Cl C "GrammarFault" (.ref 112):=O.partE fun _ _ _ _ _ _ _ h1 h2=>⟨l5 (Js h2) fun W _=>rfl,rn h1⟩
end
def Zu(C:PC)(l:List (Str×AV)):Prop:= ∀g x a,pX l g=some (x,a)->nq C x a
def OC(C:PC)(k:Nat)(l:List (Str×aW)):Prop:= ∀f x F,pX l f=some (x,F)-> ∃fv kF,nq C x (.glob fv)/\oW C fv/\aF C kF fv F/\kF<=k
def Zx(C:PC)(k:Nat)(l:List (Str×gW)):Prop:= ∀n x D,pX l n=some (x,D)-> ∃kF,d8 C kF x D/\kF<=k
theorem g0:Zu C []:=fun _ _ _ e=>nn e
theorem f0:OC C k []:=fun _ _ _ e=>nn e
theorem m0:Zx C k []:=fun _ _ _ e=>nn e
theorem HJ{α:Type}{p:Str×α}{l:List (Str×α)}{i:Nat}{x:Str}{a:α}{Q:Str->α->Prop}(e:pX (p::l) i=some (x,a))(h:Q p.1 p.2)(r: ∀i x a,pX l i=some (x,a)->Q x a):Q x a:=by
 cases i with
 |zero=>exact s2 (P:=Q) (a:=p.1) (b:=p.2) e h
 |succ i=>exact r i x a e
theorem g1{x:Str}{a:AV}{l:List (Str×AV)}(h:nq C x a)(r:Zu C l):Zu C ((x,a)::l):=fun _ _ _ e=>HJ (Q:=nq C) e h r
theorem f1{x:Str}{F:aW}{fv:ah}{kF:Nat}{l:List (Str×aW)}(c:Cl C x fv)(h:aF C kF fv F)(hk:kF<=k)(r:OC C k l):OC C k ((x,F)::l):=fun _ _ _ e=>HJ (Q:=fun x F=> ∃fv kF,nq C x (.glob fv)/\oW C fv/\aF C kF fv F/\kF<=k) e ⟨fv,kF,c.g,c.k,h,hk⟩ r
theorem m1{x:Str}{D:gW}{kF:Nat}{l:List (Str×gW)}(h:d8 C kF x D)(hk:kF<=k)(r:Zx C k l):Zx C k ((x,D)::l):=fun _ _ _ e=>HJ (Q:=fun x D=> ∃kF,d8 C kF x D/\kF<=k) e ⟨kF,h,hk⟩ r
theorem aoF(O:rM C){i:Nat}{r:FR}(e:qm[i]? =some r)(hk:5<=k){G:List (Str×AV)}{Fs:List (Str×aW)}{M:List (Str×gW)}(hN:cG.nms ⟨G,Fs,M⟩=r.N){Q:SM}(q:Q=ci ⟨G,Fs,M⟩ r.t)(hG:Zu C G)(hF:OC C k Fs)(hM:Zx C k M):
  pU C (k+1) (.ref r.f) (bo r.n r.dfl Q):=by
 subst q
 exact O.frE e fun h _ _=>ad3 hk O.fno (Γ:=⟨G,Fs,M⟩) ⟨hG,hF,hM⟩ (hN▸h)
theorem ad4(O:rM C){x:Str}(h:FN.all (fun y=>y !=x)=true): ∀i,i<C.nf->C.fname i≠x:=fun i hi=>by
 rw[O.nf]at hi
 refine fg (aaP hi) fun y e m=> ?_
 rw[O.fn i y e]
 exact bne_iff_ne.mp (b5.mp h y m)
theorem rM.mrE(O:rM C){i:Nat}{r:MR}(e:KP[i]? =some r){P:Prop}(kk:plainGet C.K r.c r.x=true->findIn C.K (.ref r.c) r.x=some (some (.ref r.f))->typeIn C.K (.ref r.f)=some (.type "function")->keepIn C.K (.ref r.f)=true->P):P:=
 O.partE fun _ _ h _ _ _ _ _ _=>aE (Db h e) fun h1 h=>aE h fun h2 h=>aE h fun h3 h4=>kk h1 (ag h2) (ag h3) h4
theorem rM.mr(O:rM C){i:Nat}{r:MR}(e:KP[i]? =some r){j:Nat}{cr:CR}(ec:zh[j]? =some cr)(hc:cr.c=r.c)(hx:FN.all (fun y=>y !=r.x)=true){F:aW}{G:gW}(hF:aF C k (.ref r.f) F)(hG:d8 C k r.x G):d8 C k r.x (fx r.c F G):=
 O.mrE e fun h1 h2 h3 h4=>ae0 (hc▸O.cls _ (bb ec)) (ad4 O hx) h1 h2 h3 h4 hF hG
theorem rM.mro(O:rM C){i:Nat}{r:MR}(e:KP[i]? =some r)(hc:r.c=1021)(hx: ∀i∈[38,4,37,36],C.fname i≠r.x){F:aW}(hF:aF C k (.ref r.f) F):d8 C k r.x (anS r.c F):=fun W σ h a v F' R hv e'=>O.mrE e fun h1 h2 h3 h4=>by
 rw[hc]at h1 h2 e'
 revert hv
 refine iD e' fun y e'=>Ga e' fun d l hgt e'=>kS e' fun z e'=> ?_
 apply s1 e'
 rw[<- aD z]at hgt
 rintro⟨p,q,rfl⟩
 obtain⟨p',ep,⟨cc,q1,q2⟩,_⟩:=R.cell _ _ hgt
 rw[q]at ep;cases ep
 obtain⟨vs0,rfl⟩:=O.name _ _ q1
 obtain⟨q0,q1,es,n,vs,q2,r',z⟩:=q2
 refine⟨.ref r.f,fun A s pl E Q hs hq=> ?_,rn h4,hF⟩
 subst hs
 refine method_fn R.K (I:=(⟨R.im _ _ q1,rfl,rfl,q2⟩:InstAt s.heap p.1 (instObj 1021 p.2) 1021 (some (dictOf es n)))) (qF h1).1 (qF h1).2 h2 h3 ?_ hq
 show(lookIn r.x (dictOf es n)).map _=_
 rw[lookIn_dict,TE (fun i hi _=>hx i hi) z];rfl
theorem pI{kF:Nat}{f:ah}{F F':aW}(hF:aF C kF f F)
  (H: ∀args σ a aj,F' args σ=some (a,aj)-> ∃r kk l,σ.get r=some (.orc kk l)/\((∃c,C.conc kk l c)->(∀b d,σ.get b=some d->b<σ.next)-> ∃bD,(∀c,C.conc kk l c->C.conc kk bD c)/\F args (σ.set r (.orc kk bD))=some (a,aj))):aF C kF f F':=fun A Rm W σ s args vs Re hv tk a aj e=>by
 obtain⟨r,kk,l,hr,h1⟩:=H args σ a aj e
 obtain⟨p,a1,⟨c,q1,q2⟩,_⟩:=Re.cell r _ hr
 refine fg (h1 ⟨c,q1⟩ fun b d hb=>Nat.lt_of_not_le fun q=>(Re.cell b _ hb).elim fun p h=>nn ((Re.fresh b q).symm.trans h.1)) fun bD h1 e1=> ?_
 have hc:d6 C W s.heap p (.orc kk bD):=⟨c,h1 c q1,q2⟩
 exact hF A Rm W _ s args vs (Re.set hr a1 (fun _ _ _ e=>e) hc) hv tk a aj e1
theorem ae5{kF:Nat}{f:ah}{mac:List Nat->List AV}{bx:List Nat->List AV->List Nat}{VB:AV->Prop}(R:qj C mac bx VB){lab:List AV->List AV}(hl: ∀L c,lT mac L c->lT mac (lab L) c)(hF:aF C kF f o4):aF C kF f (mq lab):=pI hF fun args σ a aj e=>n6 e fun r as L hL e=>Aw e fun e=>
 ⟨r,1021,L,hL,fun _ _=>⟨lab L,fun c hc=>(R.rdr _ _).mpr (hl _ _ ((R.rdr _ _).mp hc)),e⟩⟩
end
end
end
section
open PySem.SeqAt
open Sem (wp)
noncomputable section
noncomputable def ug:List ah:=[.ref 75,.type "Exception",.type "BaseException",.type "object"]
section
variable{M:lp}{prog:gg}{w:d5}{A:b6}{E:ah->az->Prop}{h:bM}{g:Array yO}{d:Drawn}{t:Nat}{os:oa}
variable{nm q:Str}{N:aC}{bs:List ah}{hdct:Bool}{sn:List Str}{sub:List ah}{ab:Bool}{col:Option Bool}{dd:Option aC}{k0 k1 k2 k3 k5:Option ah}
theorem Qb:(og 112::ug).contains (.type "Exception")=true:=by decide +kernel
theorem Se{rest:List ah}{Q:Unit->az->Prop}(hC:h.get? 112=some (excClassObj nm q 112 N bs ug hdct sn sub ab col dd k0 k1 k2 k3 k5 "Exception.__new__"))(hq:Q () ⟨h,g,d,t,os⟩):wpAny M A (checkBuiltinCall "Exception.__new__" ⟨.ref 112::rest,[]⟩) Q E ⟨h,g,d,t,os⟩:=by
 have F:=gE
 have hcont:=Qb
 have hstar:=F.noStar
 simp only[checkBuiltinCall,F.newKind,F.newSplit,F.newRow]
 repeat (first|refine gT hC ?_|(refine lf hC ?_;rw[hcont])|refine wpAny_staticBase_exc hC ?_|refine GY hC ?_|simp only[bne_self_eq_false,Bool.false_eq_true,if_false]|wp_step)
 exact hq
theorem aml{R:tR->az->Prop}{rest:List ah}(hC:h.get? 112=some (excClassObj nm q 112 N bs ug hdct sn sub ab col dd k0 k1 k2 k3 k5 "Exception.__new__"))
  (hq:R (.ok (.ret (.ref (h.objs.size+1)))) ⟨(h.push {cls:=.type "tuple",data:=.seq rest.toArray}).push {cls:=.ref 112,data:=.fields #[.ref h.objs.size,.none,.none,.none,.bool false,.none]},g,d,t,os⟩)(hrest:rest.length<=sizeLine):
  codeAny (model prog w) A (.builtin "Exception.__new__" ⟨.ref 112::rest,[]⟩) R ⟨h,g,d,t,os⟩:=by
 have F:=gE
 have hends:=F.ends
 have hcB:=Qb
 have hcA:(og 112::ug).contains (.type "AttributeError")=false:=by decide +kernel
 have hcN:(og 112::ug).contains (.type "NameError")=false:=by decide +kernel
 refine codeAny_builtinAt F.entry ?_
 unfold Builtin.«BaseException.__new__»
 refine Il ?_
 show PySem.wpAt _ _ _ (stack>>=_) _ _ _
 refine Il (PySem.wpAt_stack fun p below=>Bm ?_)
 wp_walk
 refine Bm ?_
 rw[F.owner]
 repeat (first|with_reducible refine wpAny_madeHere_exc F.canon hC ?_|with_reducible refine gT hC ?_|(with_reducible refine lf hC ?_;first|rw[hcB]|rw[hcA]|rw[hcN])|wp_step)
 show R _ _
 rw[p8]
 exact hq
theorem Sf{K:dL}(X:K.In h)(hi:findIn K (.ref 112) "__init__"=some (some (.ref 65)))(hf:typeIn K (.ref 65)=some (.type "function")){rest:List ah}{Q:Fin->az->Prop}
  (hC:h.get? 112=some (excClassObj nm q 112 N bs ug hdct sn sub ab col dd k0 k1 k2 k3 k5 "Exception.__new__"))
  (hq: ∀h' e,Kk h h' e (.ref 112) rest->wpAny (model prog w) A (call (.ref 65) (.ref e::rest)) (fun r s'=>r= .none/\Q (.done (.ret (.ref e))) s') E ⟨h',g,d,t,os⟩)(hrest:rest.length<=sizeLine):
  wpAny (model prog w) A (Builtin.«type.__call__» ⟨.ref 112::rest,[]⟩) Q E ⟨h,g,d,t,os⟩:=by
 have F:=gE
 repeat (first|with_reducible refine gT hC ?_|with_reducible refine GY hC ?_|wp_step)
 refine codeAny_call_builtin_code (Bq _ F.quiet) (Se hC ?_)
 refine aml hC ?_ hrest
 show wpAny _ _ _ _ _ _
 have kk: ∀b o,h.get? b=some o->((h.push {cls:=.type "tuple",data:=.seq rest.toArray}).push {cls:=.ref 112,data:=.fields #[.ref h.objs.size,.none,.none,.none,.bool false,.none]}).get? b=some o:=fun b o e=>bH _ (bH _ e)
 have Qd:=kk _ _ hC
 have anz:K.In ((h.push {cls:=.type "tuple",data:=.seq rest.toArray}).push {cls:=.ref 112,data:=.fields #[.ref h.objs.size,.none,.none,.none,.bool false,.none]}):=fun a o e=>kk _ _ (X a o e)
 have hget:((h.push {cls:=.type "tuple",data:=.seq rest.toArray}).push {cls:=.ref 112,data:=.fields #[.ref h.objs.size,.none,.none,.none,.bool false,.none]}).get? (h.objs.size+1)=some {cls:=.ref 112,data:=.fields #[.ref h.objs.size,.none,.none,.none,.bool false,.none]}:=by heap_get
 have hcC:(og 112::ug).contains (.ref 112)=true:=by decide +kernel
 unfold isInstance
 repeat (first|with_reducible refine gT hget ?_|(with_reducible refine lf Qd ?_;rw[hcC])|wp_step)
 show wpAny _ _ (typeLookup (.ref 112) _) _ _ _
 refine(tW anz hi).here ?_
 refine dJ (aq ?_)
 refine(bind_fn anz _ hf).here ?_
 refine(aq (jx (hq _ (h.objs.size+1) ⟨fun b o hb=>kk b o hb,yP (cU _),h.objs.size,hget,yP (ax _),?_⟩) (fun r s' hr=> ?_) fun _ _ x=>x))
 ·exact bH _ (E3 rfl rfl)
 ·obtain⟨rfl,hQ⟩:=hr
  wp_walk
  exact hQ
theorem ahW{K:dL}(X:K.In h)(hi:findIn K (.ref 112) "__init__"=some (some (.ref 65)))(hf:typeIn K (.ref 65)=some (.type "function")){rest:List ah}{Q:ah->az->Prop}
  (hC:h.get? 112=some (excClassObj nm q 112 N bs ug hdct sn sub ab col dd k0 k1 k2 k3 k5 "Exception.__new__"))
  (hq: ∀h' e,Kk h h' e (.ref 112) rest->wpAny (model prog w) (A.under (.builtin "type.__call__" ⟨.ref 112::rest,[]⟩)) (call (.ref 65) (.ref e::rest)) (fun r s'=>r= .none/\Q (.ref e) s') E ⟨h',g,d,t,os⟩)(hrest:rest.length<=sizeLine):
  wpAny (model prog w) A (call (.ref 112) rest) Q E ⟨h,g,d,t,os⟩:=by
 have f1:=tc_lookup
 have f2:=tc_bind (.ref 112)
 have hT:(⟨h,g,d,t,os⟩:az).TypeIs (.ref 112) "type":=⟨_,hC,rfl⟩
 refine oT (Ip ?_)
 show wpAny _ _ (callAny (.ref 112) _) _ _ _
 repeat (any_goals (first|assumption|with_reducible refine gT hC ?_|wp_step))
 refine⟨rfl,?_⟩
 refine codeAny_call_builtin_at (Bq _ (by decide +kernel)) entry_typeCall (wpAny_check_type_call_sub hC (Sf X hi hf hC (fun h' e hm=> ?_) hrest))
 exact hq h' e hm
end
end
end
section
open PySem.SeqAt
open Sem (wp)
noncomputable section
section
variable{M:lp}{prog:gg}{w:d5}{A:b6}{E:ah->az->Prop}{h:bM}{g:Array yO}{d:Drawn}{t:Nat}{os:oa}
variable{nm q:Str}{N:aC}{bs:List ah}{hdct:Bool}{sn:List Str}{sub:List ah}{ab:Bool}{col:Option Bool}{dd:Option aC}{k0 k1 k2 k3 k5:Option ah}
abbrev Vs(t0:aC)(dx:Option aC):Obj:={cls:=.ref 112,dict:=dx,data:=.fields #[.ref t0,.none,.none,.none,.bool false,.none]}
theorem Qa{e:aC}{oe:Obj}{rest:List ah}{Q:Unit->az->Prop}(hC:h.get? 112=some (excClassObj nm q 112 N bs ug hdct sn sub ab col dd k0 k1 k2 k3 k5 "Exception.__new__"))(he:h.get? e=some oe)(hcls:oe.cls= .ref 112)(hq:Q () ⟨h,g,d,t,os⟩):
  wpAny M A (checkBuiltinCall "Exception.__init__" ⟨.ref e::rest,[]⟩) Q E ⟨h,g,d,t,os⟩:=by
 have F:=gE
 have hcB:=Qb
 have hshort:=F.noStar
 simp only[checkBuiltinCall,F.initKind,F.initSplit,F.initRow]
 repeat (first|(with_reducible refine gT he ?_;rw[hcls])|with_reducible refine gT hC ?_|(with_reducible refine lf hC ?_;rw[hcB])|wp_step)
 refine wpAny_onRaise ?_
 rw[show ∀(a b:String) (n:Nat),Bind.check ⟨.positional,"*","Exception",.self,[⟨"args",.varPos,false⟩]⟩ a b n (Oi (fun x=>x.fst) ({pos:=og e::rest}:Args).kw)=pure () from
  fun a b n=>check_star_args _ _ _ _ _ _]
 exact aM hq
theorem ahY{e t0:aC}{v:ah}{Q:ah->az->Prop}(hC:h.get? 112=some (excClassObj nm q 112 N bs ug hdct sn sub ab col dd k0 k1 k2 k3 k5 "Exception.__new__"))(he:h.get? e=some (Vs t0 none))
  (hq: ∀h',h'.get? e=some (Vs h.objs.size none)->(∀b o,b≠e->h.get? b=some o->h'.get? b=some o)->Q .none ⟨h',g,d,t,os⟩):
  wpAny (model prog w) A (call (.builtin "Exception.__init__") [.ref e,v]) Q E ⟨h,g,d,t,os⟩:=by
 have F:=gE
 refine oT (oQ F.init.plain F.initEntry (Qa hC he rfl ?_))
 unfold Builtin.«BaseException.__init__»
 dsimp only
 rw[if_neg (by simp)]
 unfold newTuple Kj
 have aam:=bH (h:=h) {cls:=.type "tuple",data:=.seq #[v]} he
 refine aq (fS (aq (aq (wpAny_field aam rfl rfl (aq (wpAny_setField aam rfl (by show 0<6;decide) ?_))))) (by size_fits))
 refine wpAny_letGo (aM ?_)
 refine hq _ ?_ fun b o hb hbo=> ?_
 ·rw[jW _ aam rfl];rfl
 ·rw[Heap.get?_update_other _ _ (tA hb)];exact bH _ hbo
end
end
end
section
open PySem.SeqAt
open Sem (wp)
open PySem.Builtin PySem.Builtin.ObjectAttr
noncomputable section
section
variable{M:lp}{prog:gg}{w:d5}{A:b6}{E:ah->az->Prop}{s:az}{K:dL}{x:aC}{ox:Obj}{od:Option Obj}{cd:LU}{name:Str}{tk:Tok}{v:ah}
theorem amk(hc:clsIn K 112=some cd)(hm:cd.mro= .ref 112::ug):mroIn K 112 (.type "object")=some true:=by
 unfold mroIn
 rw[hc,nQ,hm]
 decide +kernel
theorem acn{R:tR->az->Prop}(X:K.In s.heap)(I:InstAt s.heap x ox 112 od)(hc:clsIn K 112=some cd)(hm:cd.mro= .ref 112::ug)(ht:takerIn K 112 name=some none)
  (h: ∀b,wpAny (model prog w) A.in1 (storeInOwnDict (.ref x) (.ref 112) (.str name tk) name v b) (fun fin s'=>match fin with| .done f=>R (.ok f) s'| .again c'=>c'.quiet=true/\codeAny (model prog w) A c' R s') (fun e s'=>R (.error e) s') s):
  codeAny (model prog w) A (.call (.builtin "object.__setattr__") ⟨[.ref x,.str name tk,v],[]⟩) R s:=by
 have SF:=PySem.F.store_object
 have sub:Ii (model prog w) s.heap (isInstance (.ref x) (.type "object")) true:=I.type.andThen (looks_mroIn X (amk hc hm))
 refine oQ SF.slot.plain SF.entry (@check_slot (model prog w) _ _ s "object.__setattr__" "object" "__setattr__" (.ref x) [.str name tk,v] [] _ SF.kind SF.split sub (SF.args (.ref x) (.str name tk) v) ?_)
 obtain⟨attr,ha,hr⟩:=Option.bind_eq_some_iff.mp ht
 have hmr:Ii (model prog w) s.heap (mroOf (.ref 112)) cd.mro:=(wC X hc).andThen .now
 have L3:Ii (model prog w) s.heap (storeTaker? attr) none:=by
  cases attr with
  |none=>exact .now
  |some a=>
   obtain⟨b,hb,e⟩:=ig.mp hr
   refine(looks_takesIn X hb).andThen ?_
   cases b with
   |true=>exact nn e.symm
   |false=>exact .now
 rw[osa_eq,refuse_eq]
 refine aq (aq (I.type.here (aq (hmr.here ?_))))
 rw[hm,ug,Kr,Kr,PySem.F.store_Exception.passes]
 refine aM (aq (I.type.here (aq ((tW X ha).here (aq (L3.here ?_))))))
 exact h _
theorem aco{d:aC}{m:Str->Option ah}{ns:List Str}{Q:PySem.Fin->az->Prop}(hns:s.heap.Ns1 d m)(hw:Within m ns)(hz:ns.length<=100)
  (h: ∀h',h'.Ns1 d (fun y=>if y=name then some v else m y)->i9 d s.heap h'->Q (.done (.ret .none)) {s with heap:=h',toks:=s.toks+1}):wpAny M A (storeInDict d (.str name tk) name v) Q E s:=by
 unfold storeInDict newKeyGuard
 refine aq (aM (aq (wpAny_nsSet1 hns fun h' hn' hs=> ?_)))
 obtain⟨oD,esD,epD,hoD,hdD,hcD⟩:=hn'.count (RG name v hw)
 refine aq (GX hoD (by rw[hdD];exact GS (au hcD (by rw[bT,jG];omega))) ?_)
 exact aM (h h' hn' hs)
theorem ahZ{t0:aC}{Q:Unit->az->Prop}(X:K.In s.heap)(he:s.heap.get? x=some (Vs t0 none))(hs:findIn K (.ref 112) "__setattr__"=some (some (.builtin "object.__setattr__")))(hc:clsIn K 112=some cd)(hm:cd.mro= .ref 112::ug)(hh:cd.hasDict=true)(ht:takerIn K 112 name=some none)
  (h: ∀h' d,d≠x->s.heap.get? d=none->h'.get? x=some (Vs t0 (some d))->h'.Ns1 d (fun y=>if y=name then some v else none)->(∀b o,b≠x->s.heap.get? b=some o->h'.get? b=some o)->Q () {s with heap:=h',toks:=s.toks+2}):wpAny (model prog w) A (setAttr (.ref x) name v) Q E s:=by
 have I:InstAt s.heap x (Vs t0 none) 112 none:=⟨he,rfl,rfl,trivial⟩
 refine LW X I hs (acn (s:={s with toks:=s.toks+1}) X I hc hm ht fun b=> ?_)
 refine aq (aM (aq (aq (qc he (aq (wC X hc _ _ _ _ (fun _ _ e=>e) ?_))))))
 rw[hh]
 have hxs:x≠s.heap.objs.size:=cu (cz he)
 have aic:(s.heap.push {cls:=.type "dict",data:=.dict #[]}).get? x=some (Vs t0 none):=bH _ he
 show wpAny _ _ (do
  let d <- alloc {cls:=.type "dict",data:=.dict #[]}
  update x fun o=>{o with dict:=some d}
  dictMade (.ref 112) x d) _ _ _
 refine aq (wpAny_alloc' ?_)
 refine aq (wpAny_update' aic ?_)
 refine aM ?_
 have hgd:((s.heap.push {cls:=.type "dict",data:=.dict #[]}).update x fun o=>{o with dict:=some s.heap.objs.size}).get? s.heap.objs.size=some {cls:=.type "dict",data:=.dict #[]}:=
  (Bg _ _ _ _ hxs.symm).trans (E3 rfl rfl)
 have hnd:((s.heap.push {cls:=.type "dict",data:=.dict #[]}).update x fun o=>{o with dict:=some s.heap.objs.size}).Ns s.heap.objs.size (fun _=>none):=
  ⟨_,#[],_,hgd,rfl,fun e he=>absurd he (by simp),fun _=>rfl⟩
 refine aq (aM ?_)
 show wpAny _ _ (storeInDict s.heap.objs.size (.str name s.toks) name v) _ _ _
 refine aco (s:={s with heap:=(s.heap.push {cls:=.type "dict",data:=.dict #[]}).update x fun o=>{o with dict:=some s.heap.objs.size},toks:=s.toks+1}) (Heap.Ns1.of_empty hnd) UG (aS _) fun h' hn' hs'=> ?_
 refine h h' s.heap.objs.size hxs.symm (tD _) ?_ hn' fun b o hb ho=> ?_
 ·exact(hs'.2 x hxs).trans (jW _ aic rfl)
 ·exact(hs'.2 b (cu (cz ho))).trans ((Bg _ _ _ _ hb).trans (bH _ ho))
theorem ah0{t0 d:aC}{m:Str->Option ah}{ns:List Str}{Q:Unit->az->Prop}(X:K.In s.heap)(he:s.heap.get? x=some (Vs t0 (some d)))(hns:s.heap.Ns1 d m)(hw:Within m ns)(hz:ns.length<=100)(hs:findIn K (.ref 112) "__setattr__"=some (some (.builtin "object.__setattr__")))(hc:clsIn K 112=some cd)(hm:cd.mro= .ref 112::ug)(hh:cd.hasDict=true)(ht:takerIn K 112 name=some none)
  (h: ∀h',i9 d s.heap h'->Q () {s with heap:=h',toks:=s.toks+2}):wpAny (model prog w) A (setAttr (.ref x) name v) Q E s:=by
 obtain⟨o,es,ep,ho,r⟩:=id hns
 have I:InstAt s.heap x (Vs t0 (some d)) 112 (some o):=⟨he,rfl,rfl,ho⟩
 refine LW X I hs (acn (s:={s with toks:=s.toks+1}) X I hc hm ht fun b=> ?_)
 refine aq (aM (aq (aq (qc he (aq (wC X hc _ _ _ _ (fun _ _ e=>e) ?_))))))
 rw[hh]
 refine aM (a:=some d) (aq (aM ?_))
 show wpAny _ _ (storeInDict d (.str name s.toks) name v) _ _ _
 exact aco (s:={s with toks:=s.toks+1}) hns hw hz fun h' _ hs'=>h h' hs'
end
end
end
section
open PySem.SeqAt
open Sem (wp)
noncomputable section
section
variable{C:PC}{X:FX}{k:Nat}{W W':Wd}{fr:Fm}{σ:AS}{s:az}{A:b6}{E:ah->az->Prop}{K:dL}
theorem ahX{prog:gg}{w:d5}{pl:Sem Bool}{Q:ah×List ah->az->Prop}(X:K.In s.heap)(h:Q (.builtin "Exception.__init__",[]) {s with toks:=s.toks+1}):wpAny (model prog w) A (getMethod (.type "Exception") "__init__" pl) Q E s:=by
 have ht:typeOf (.type "Exception")=pure (.type "type"):=by kernel_rfl
 have hs:Manifest.isStub "Exception"=false:=by decide +kernel
 have e:findCls K (.type "Exception") (.type "type") "__init__"=some (.val (.builtin "Exception.__init__")):=by kernel_rfl
 have hh:handedIn (.builtin "Exception.__init__")=true:=by decide +kernel
 have hstub:opaqueClassAbove (.type "Exception")=pure none:=by unfold opaqueClassAbove;dsimp only;rw[hs];rfl
 have L0:Ii (model prog w) s.heap (typeOf (.type "Exception")) (.type "type"):=rJ ht
 have hg:findIn K (.type "type") "__getattribute__"=some (some (.builtin "type.__getattribute__")):=type_tga
 unfold getMethod specialOf
 refine aq (aq (L0.here ((tW X hg).here ?_)))
 dsimp only
 rw[if_pos canon_tga]
 refine aq (jx (Q:=fun v=>Q (v,[])) (E:=E) ?_ (fun _ _ z=>aM z) fun _ _ z=>z)
 have LO:Ii (model prog w) s.heap (opaqueClassAbove (.type "Exception")) none:=rJ hstub
 exact cls_open X LO L0 hg (looks_hook X (r:=none) (by rfl)) (by show subIn K _ _=_;rfl) e
  (aM (by show wpAny _ _ (handedOut (.builtin "Exception.__init__")) _ _ _;rw[handedOut_of hh];exact aM h))
theorem ad7{n:LM}{es:List an}{ap p p0:Pos}(O:vn X)(hx:X.env.kindOf "Exception"=some .globalImplicit)(hg:nq X.C "Exception" (.glob (.type "Exception")))(hl:(ap.endLine==p.line)=true)(hfew:es.length<30)
  (hs:es.all (fun e=> !jg e)=true)(hn:Ak X k n es)(R:eV A k)(T:St X W fr σ s){l:List AV}(e:n fr σ=some (l,σ)){Q:ah->az->Prop}
  (h: ∀vs bv bn,W.le bn->St X bn fr σ bv->VL X.C bn l vs->wpAny (dH X.C) A (call (.builtin "Exception.__init__") vs) Q dy bv):wpAny (dH X.C) A (eval (.Call (.Attribute (.Name "Exception" p0) "__init__" ap) es [] p) X.env) Q dy s:=by
 show wpAny _ _ (do
  let ov <- attributeBase (.Name "Exception" p0) "__init__" X.env (eval (.Name "Exception" p0) X.env)
  standAt ap.atName
  methodCall (.Name "Exception" p0) "__init__" ap p X.env ov (es.length+([]:List tz).length) (backTo p (starEach es X.env)) (backToKw p (keywordEach [] X.env))) _ _ _
 have hm:b8 X k (ba (.glob (.type "Exception"))) (.Name "Exception" p0):=Y0 O hx (by decide) hg
 refine aq (l9 rfl (hm.go R T rfl fun v bv bn bD bz d9=>aq (dC ?_)))
 obtain rfl:v= .type "Exception":=d9
 have hform:methodCallForm (es.length+([]:List tz).length) (backTo p (starEach es X.env)) (backToKw p (keywordEach [] X.env))=true:=by
  unfold methodCallForm
  have h1:(backTo p (starEach es X.env)).all (!·.1)=true:=by
   have:=qN (env:=X.env) (pos:=p) hs
   rw[b5];rw[E4]at this
   intro y hy;simpa using this y hy
  rw[h1]
  have h2:(backToKw p (keywordEach [] X.env)).all (·.1.isSome)=true:=rfl
  rw[h2]
  simp;exact hfew
 unfold methodCall
 rw[hform]
 have hpos:methodCallPos true (.Name "Exception" p0) X.env ap p=pure p:=by unfold methodCallPos;simp[hl]
 refine aq (dJ ?_)
 show wpAny _ _ (getMethod (.type "Exception") "__init__" _) _ _ _
 refine ahX bz.rel.K ?_
 show wpAny _ _ (do let callPos <- methodCallPos true (.Name "Exception" p0) X.env ap p;callWith callPos (.builtin "Exception.__init__") [] (backTo p (starEach es X.env)) (backToKw p (keywordEach [] X.env))) _ _ _
 rw[hpos]
 refine aq (aM ?_)
 refine FG (P:=X.C.K.In) (by rw[qN hs];rfl) fA ?_
 exact wM hs (hn.go R (bz.toks (bv.toks+1) (cU _)) e p fun vs dX cB dR cR j8=>⟨cR.rel.K,h vs dX cB (bD.trans dR) cR j8⟩)
end
end
end
section
open PySem.SeqAt
noncomputable section
noncomputable def leB:List bW:=[
 .Expr (.Call (.Attribute (.Name "Exception" ⟨20,8,20,17⟩) "__init__" ⟨20,8,20,26⟩) [.Name "self" ⟨20,27,20,31⟩,.Name "what" ⟨20,33,20,37⟩] [] ⟨20,8,20,38⟩) ⟨20,8,20,38⟩,
 .Assign [.Attribute (.Name "self" ⟨21,8,21,12⟩) "what" ⟨21,8,21,17⟩] (.Name "what" ⟨21,20,21,24⟩) ⟨21,8,21,24⟩,
 .Assign [.Attribute (.Name "self" ⟨22,8,22,12⟩) "at" ⟨22,8,22,15⟩] (.Name "at" ⟨22,18,22,20⟩) ⟨22,8,22,20⟩]
noncomputable def nmG:List (Nat×Str):=[(0,"self"),(1,"what"),(2,"at")]
noncomputable def anE(d:Br)(f:LU->Bool):Bool:=match d with
 | .cls cd=>f cd
 |_=>false
@[elab_as_elim] theorem aol {Q:Br->Prop} {d:Br} {f:LU->Bool} (h:anE d f=true) (k: ∀cd,f cd=true->Q (.cls cd)):Q d:=by
 cases d<;>first|exact ff h|exact k _ h
noncomputable def gfC(o:Obj):Bool:=o.cls== .type "type" &&(anE o.data (fun cd=>decide (cd.mro= .ref 112::ug)&&(!cd.hasDel&&cd.hasDict))&&(o.slots.toList[4]? ==some (some (.builtin "Exception.__new__"))&&o.slots.toList.length==6))
def gfF(K:dL)(fd:gM):Bool:=Sd K 3 [.tup [.int 0,.int 0]] nmG fd (fd.params.args.map (·.arg))&&fd.scope.names.lookup ("Exception":Str)==some .globalImplicit
def gfB(K:dL):Bool:=Dd (K.lookup 112) gfC&&(Dd (K.lookup 65) (fun o=>Tb o.data (gfF K))&&(decide (findIn K (.ref 112) "__init__"=some (some (.ref 65)))&&(decide (typeIn K (.ref 65)=some (.type "function"))&&
 (decide (findIn K (.ref 112) "__setattr__"=some (some (.builtin "object.__setattr__")))&&(decide (takerIn K 112 "what"=some none)&&(decide (takerIn K 112 "at"=some none)&&blB K "Exception"))))))
structure GfB(K:dL):Prop where
 c1:Dd (K.lookup 112) gfC=true
 c2:Dd (K.lookup 65) (fun o=>Tb o.data (gfF K))=true
 c3:decide (findIn K (.ref 112) "__init__"=some (some (.ref 65)))=true
 c4:decide (typeIn K (.ref 65)=some (.type "function"))=true
 c5:decide (findIn K (.ref 112) "__setattr__"=some (some (.builtin "object.__setattr__")))=true
 c6:decide (takerIn K 112 "what"=some none)=true
 c7:decide (takerIn K 112 "at"=some none)=true
 c8:blB K "Exception"=true
theorem GfB.of{K:dL}(h:gfB K=true):GfB K:=aE h fun c1 h=>aE h fun c2 h=>aE h fun c3 h=>aE h fun c4 h=>aE h fun c5 h=>aE h fun c6 h=>aE h fun c7 c8=>⟨c1,c2,c3,c4,c5,c6,c7,c8⟩
@[elab_as_elim] theorem TG {α:Type} {P:List α->Prop} {l:List α} {n:Nat} (h:l.length=n+1) (k: ∀a t,t.length=n->P (a::t)):P l:=by
 cases l with
 |nil=>cases h
 |cons a t=>exact k a t (jZ h)
theorem six{α:Type}{l:List α}{a:α}(h:l[4]? =some a)(hl:l.length=6): ∃b c d e f,l=[b,c,d,e,a,f]:=by
 revert h
 refine TG hl fun b l h=>TG h fun c l h=>TG h fun d l h=>TG h fun e l h=>TG h fun x l h=>TG h fun f l h h'=> ?_
 rw[mN.mp h]
 exact⟨b,c,d,e,f,by rw[aI (show some x=some a from h')]⟩
theorem ahU{o:Obj}(h:gfC o=true): ∃nm q N bs hdct sn sub ab col dd k0 k1 k2 k3 k5 cd,o=excClassObj nm q 112 N bs ug hdct sn sub ab col dd k0 k1 k2 k3 k5 "Exception.__new__" /\o.data= .cls cd/\cd.mro= .ref 112::ug/\cd.hasDict=true:=by
 obtain⟨c,dd,dt,sl⟩:=o
 refine aE h fun h1 h=>aE h fun h2 h=>aE h fun h3 h4=> ?_
 have h1:c= .type "type":=beq_iff_eq.mp h1
 obtain⟨k0,k1,k2,k3,k5,hs⟩:=six (beq_iff_eq.mp h3) (beq_iff_eq.mp h4)
 have hsl:sl= #[k0,k1,k2,k3,some (.builtin "Exception.__new__"),k5]:=by
  obtain⟨l⟩:=sl
  exact congrArg p7 hs
 clear h h3 h4 hs
 refine aol (d:=dt) (Q:=fun dt=> ∃nm q N bs hdct sn sub ab col dd' k0 k1 k2 k3 k5 cd,(⟨c,dd,dt,sl⟩:Obj)=excClassObj nm q 112 N bs ug hdct sn sub ab col dd' k0 k1 k2 k3 k5 "Exception.__new__" /\dt= .cls cd/\cd.mro= .ref 112::ug/\cd.hasDict=true) h2 fun cd h2=>aE h2 fun m1 m=>aE m fun m2 m3=> ?_
 obtain⟨nm,bs,mro,ns,qn,hd,sn,sub,ab,col,del⟩:=cd
 have m1:mro= .ref 112::ug:=ag m1
 have m2:del=false:=pq m2
 refine⟨nm,qn,ns,bs,hd,sn,sub,ab,col,dd,k0,k1,k2,k3,k5,_,?_,rfl,m1,m3⟩
 rw[h1,hsl,m1,m2]
theorem To{o:Obj}{P:Prop}(h:gfC o=true)(k: ∀nm q N bs hdct sn sub ab col dd k0 k1 k2 k3 k5 cd,o=excClassObj nm q 112 N bs ug hdct sn sub ab col dd k0 k1 k2 k3 k5 "Exception.__new__" ->o.data= .cls cd->cd.mro= .ref 112::ug->cd.hasDict=true->P):P:=by
 obtain⟨nm,q,N,bs,hdct,sn,sub,ab,col,dd,k0,k1,k2,k3,k5,cd,a,b,c,d⟩:=ahU h
 exact k nm q N bs hdct sn sub ab col dd k0 k1 k2 k3 k5 cd a b c d
section
variable{C:PC}{X:FX}{k:Nat}{W W':Wd}{fr:Fm}{σ:AS}{s:az}{A:b6}
theorem ip.pin{I J:aC}{o:Obj}(L:ip X W σ J)(h:J≠I):ip X (W.pin I o) σ J:=⟨L.im,by rw[jC h];exact L.pr,L.cell,L.out⟩
theorem ahV{fd:gM}(hB:gfB X.C.K=true)(H:g9 X ⟨fd.scope.names,nmG,true⟩)(hx:fd.scope.names.lookup ("Exception":Str)=some .globalImplicit)(R:eV A k){e t0:aC}{a b:AV}(T:St X W [.glob (.ref e),a,b] σ s)(L:ip X W σ e)(he:s.heap.get? e=some (Vs t0 none))(ha:bX a=false)(hb:bX b=false):
  wpAny (dH X.C) A (execs leB X.env) (fun fl s'=>fl= .next/\Sn X.nz s'/\ ∃W',W.le W'/\cD X.C W' σ s'.heap) dy s:=by
 have G:=GfB.of hB
 have O:=H.ok
 have at0:X.names 0=some "self":=by rw[H.nm];rfl
 have at1:X.names 1=some "what":=by rw[H.nm];rfl
 have at2:X.names 2=some "at":=by rw[H.nm];rfl
 have hxE:X.env.kindOf "Exception"=some .globalImplicit:=(H.kind _).trans hx
 have hg:nq X.C "Exception" (.glob (.type "Exception")):=Yt G.c8 fun o ho h=>Uc (ho.trans (dG.mp h)) (by decide) (by boot_by_name)
 refine Ju G.c1 fun o112 ho hc=> ?_
 refine To hc fun nm q N bs hdct sn sub ab col dd k0 k1 k2 k3 k5 cd hobj hdat hmro hdic=> ?_
 have hcls:clsIn X.C.K 112=some cd:=by
  unfold clsIn
  rw[ho]
  obtain⟨c,d,dt,sl⟩:=o112
  obtain rfl:dt= .cls cd:=hdat
  rfl
 have sa:=ag G.c5
 have u0:bX (.glob (.ref e))=false:=rfl
 have e0: ∀σ,al 0 [.glob (.ref e),a,b] σ=some (.glob (.ref e),σ):=fun _=>rfl
 have e1: ∀σ,al 1 [.glob (.ref e),a,b] σ=some (a,σ):=fun σ=>by
  show(bif bX a then none else some (a,σ))=_
  rw[ha];rfl
 have e2: ∀σ,al 2 [.glob (.ref e),a,b] σ=some (b,σ):=fun σ=>by
  show(bif bX b then none else some (b,σ))=_
  rw[hb];rfl
 unfold leB
 refine nS (Ks ?_ H.sto.inter (tE rfl))
 refine ad7 O hxE hg rfl (by decide) rfl (Ls rfl (uX O at0) (Ls rfl (uX O at1) QY)) R (T.pin L he) (l:=[.glob (.ref e),a]) (by simp only[cA,ct,e0,e1,aX]) fun vs bv bn bD bz d9=> ?_
 refine XD (St.unpin bD L bz) fun bD afO anK SQ=> ?_
 have Qd:=(bz.rel.K _ _ ho)
 clear bz
 rw[hobj]at Qd
 obtain⟨w2,rfl⟩: ∃w2,vs=[.ref e,w2]:=by
  obtain⟨v,r,e1,e2,w,r',f1,f2,f3⟩:=d9
  exact⟨w,by rw[e1,f1,show v= .ref e from e2,show r'=[] from f3]⟩
 obtain⟨hp,g,d,tk,os⟩:=bv
 refine ahY Qd anK fun h' g2 k2=> ?_
 have T2:=St.but (s:=⟨hp,g,d,tk,os⟩) (h':=h') afO SQ k2 tk (ax _)
 clear afO anK Qd k2 d9
 refine nS (jk ?_ DE)
 refine(uX O at1:b8 X k (al 1) (.Name "what" ⟨21,20,21,24⟩)).go R (T2.pin SQ g2) (e1 σ) fun v dX cB dR cR MM=> ?_
 refine(uX O at0:b8 X k (al 0) (.Name "self" ⟨21,8,21,12⟩)).go R cR (e0 σ) fun ov jM xN hH jc Zh=> ?_
 obtain rfl:ov= .ref e:=Zh
 have u3:=St.unpin (dR.trans hH) SQ jc
 refine ahZ jc.rel.K u3.2.2.1 sa hcls hmro hdic (ag G.c6) fun h' dx hd1 hd2 g4 n4 k4=> ?_
 refine uj (u3.2.1.rel.free hd2) fun f1 f2 f3=> ?_
 have L4:ip X _ σ dx:=⟨f1,f2,f3,fun hc=>by
  obtain⟨o,z⟩:=u3.2.1.fr.live _ hc
  rw[hd2]at z;exact nn z⟩
 have T4:=u3.2.1.but u3.2.2.2 k4 (jM.toks+2) (cZ _ _)
 clear T2 cR jc dR hH f1 f2 f3
 refine XF (id n4) fun oD esD epD gD rD=> ?_
 refine nS (jk ?_ DE)
 refine(uX O at2:b8 X k (al 2) (.Name "at" ⟨22,18,22,20⟩)).go R ((T4.pin u3.2.2.2 g4).pin (L4.pin hd1) gD) (e2 σ) fun v sK Xa Yd xM an8=> ?_
 refine(uX O at0:b8 X k (al 0) (.Name "self" ⟨22,8,22,12⟩)).go R xM (e0 σ) fun ov arf IU Qv Ma alF=> ?_
 obtain rfl:ov= .ref e:=alF
 have u7:=St.unpin (Yd.trans Qv) (L4.pin hd1) Ma
 have u8:=St.unpin u7.1 u3.2.2.2 u7.2.1
 refine ah0 (d:=dx) Ma.rel.K u8.2.2.1 ⟨oD,esD,epD,u7.2.2.1,rD⟩ (RG _ _ UG) (by decide) sa hcls hmro hdic (ag G.c7) fun h' hsb=> ?_
 have T9:=u8.2.1.but (I:=dx) (h':=h') ⟨u7.2.2.2.im,L4.pr,u7.2.2.2.cell,u7.2.2.2.out⟩ (fun b o hb ho=>(hsb.2 b hb).trans ho) (arf.toks+2) (cZ _ _)
 exact oU ⟨rfl,T9.sm,_,(bD.trans u3.1).trans u8.1,T9.rel⟩
end
end
end
section
open PySem.SeqAt
noncomputable section
section
variable{C:PC}
theorem alj{W:Wd}{a:AV}{v:ah}(h:V C W a v):bX a=false:=by
 cases a<;>first|rfl|exact h.elim
theorem ad8(hB:gfB C.K=true)(hbody: ∀o fd,C.K.lookup 65=some o->o.data= .func fd->fd.body= .stmts leB): ∀k,5<=k->aF C (k+1) (.ref 112) WE:=fun k hk A Rm W σ s args vs R hv tk a aj e=>by
 obtain⟨k,rfl⟩: ∃j,k=j+1:=⟨k-1,by omega⟩
 revert hv
 refine KQ (l:=args) (Q:=fun args=>VL C W args vs->_) e fun a1 a2 e hv=> ?_
 apply s2 e
 obtain⟨v1,r,rfl,q1,v2,r',rfl,q2,f3⟩:=hv
 obtain rfl:r'=[]:=f3
 have G:=GfB.of hB
 refine Ju G.c1 fun o112 ho hc=> ?_
 refine To hc fun nm q N bs hdct sn sub ab col dd k0 k1 k2 k3 k5 cd hobj _ _ _=> ?_
 have hC:=R.K _ _ ho
 rw[hobj]at hC
 refine Ju G.c2 fun o65 h65 hf65=> ?_
 obtain⟨fd,hd,hfd⟩: ∃fd,o65.data= .func fd/\gfF C.K fd=true:=ZZ (d:=o65.data) (Q:=fun d=> ∃fd,d= .func fd/\gfF C.K fd=true) hf65 fun fd h=>⟨fd,rfl,h⟩
 refine aE hfd fun g1 g2=> ?_
 refine uj (ahG h65 hd (hbody _ _ h65 hd) rfl g1) fun hlen F H=> ?_
 obtain⟨hp,g,d,t,os⟩:=s
 refine ahW R.K (ag G.c3) (ag G.c4) hC (fun h' e m=> ?_) (by rw[jG];exact av rfl)
 obtain⟨mk,mn,t0,mt,-⟩:=m
 have R':cD C W σ h':=R.keeps mk
 refine oT (ack F Rm.under (s:=⟨h',g,d,t,os⟩) (args:=[.glob (.ref e),a1,a2]) R' (VL.cons rfl (VL.cons q1 (VL.one q2))) tk (by rw[hlen];exact ax _) (by rw[hlen];exact av rfl) fun X B es Rm' bv keep hnew T=> ?_)
 have hCC:=B.C
 subst hCC
 rw[hlen]at T
 refine uj (R.free (s:=⟨hp,g,d,t,os⟩) mn) fun f1 f2 f3=> ?_
 refine eK (ahV hB (H X B) (beq_iff_eq.mp g2) Rm' (a:=a1) (b:=a2) T ⟨f1,f2,f3,fun hc=> ?_⟩ (keep _ _ mt) (alj q1) (alj q2)) fun fl dX P=> ?_
 ·have z:=hnew _ hc
  rw[show(⟨h',g,d,t,os⟩:az).heap.get? e=_ from mt]at z;exact nn z.symm
 ·obtain⟨rfl,hs,W',l,R''⟩:=P
  refine⟨rfl,?_,W',l,R'',trivial⟩
  exact Sm.trans ⟨h',t,rfl,ax _⟩ (es▸hs.2)
end
end
end
noncomputable def ahT(x:qb)(a:aC):Option Obj:=bif bc a x.n then alive ((x.tree.get a).getD default)else none
theorem adn(x:qb)(a:aC):x.abs.heap.get? a=ahT x a:=by
 unfold ahT
 cases z:bc a x.n with
 |false=>exact abs_get_none fun h=>by rw[cC.mpr h]at z;cases z
 |true=>
  have h:a<x.n:=cC.mp z
  show(absHeap x.tree x.n x.life).get? a=alive ((x.tree.get a).getD default)
  cases g:x.tree.get a with
  |some o=>exact abs_get h g
  |none=>
   unfold Heap.get?
   rw[absHeap_at,if_pos h,g];rfl
noncomputable def Hu(as:List aC)(x:qb):dL:=as.filterMap fun a=>(ahT x a).map (a,·)
theorem aae(as:List aC)(x:qb):zq as x.abs.heap=Hu as x:=by
 unfold zq Hu
 exact congrArg (fun f=>as.filterMap f) (funext fun a=>by rw[adn])
theorem ahJ(as:List aC)(h:bM):Frag.In (zq as h) h:=by
 intro a o e
 have m:=dP e
 unfold zq at m
 obtain⟨b,_,hb⟩:=lF.mp m
 obtain⟨o',ho,e'⟩:=ig.mp hb
 cases e'
 exact ho
def Xg:List aC:=[3,1021,1020,680,679,706,705,204,203,605,604,633,632,45,44,112,111,1,2,12,55,56,57,58,64,65,74,75,122,183,184,185,186,187,503,504,505,584,585,586,587,588,711,860,868,897,940,962]++qm.flatMap fun r=>[r.f,r.f-1]
noncomputable def Vd(K:dL)(a:aC):Option (List bW):=(K.lookup a).bind fun o=>match o.data with
 | .func fd=>(match fd.body with
  | .stmts b=>some b
  |_=>none)
 |_=>none
def XU(K:dL)(r:FR):Bool:=Dd (K.lookup r.f) (fun o=>Tb o.data fun fd=>Xj fd.body fun _=>Sd K r.n r.dfl r.nm fd (fd.params.args.map (·.arg)))&&(keepIn K (.ref r.f)&&bp (motive:=fun _=>Bool) true (fun x=>HG K x (.ref r.f)) r.x)
noncomputable def S8(K:dL)(a:aC):Option (List (Str×cT)×List bW):=(K.lookup a).bind fun o=>match o.data with
 | .func fd=>(match fd.body with
  | .stmts b=>some (fd.scope.names,b)
  |_=>none)
 |_=>none
def ckr(r:FR)(q:Option (List (Str×cT)×List bW)):Bool:=Dd q fun q=>(ckS FN r.N r.t).ss ⟨q.1,r.nm,true⟩ q.2
theorem al2{K:dL}{r:FR}(h:XU K r=true)(hc:ckr r (S8 K r.f)=true):frB K r=true:=by
 refine aE h fun h1 h2=>bk.mpr ⟨Ju h1 fun o ho h1=> ?_,h2⟩
 unfold S8 at hc
 rw[ho]at hc
 unfold fnB
 rw[ho]
 exact ZZ (d:=o.data) (Q:=fun d=>ckr r (match d with| .func fd=>(match fd.body with| .stmts b=>some (fd.scope.names,b)|_=>none)|_=>none)=true->Tb d (fun fd=>Xj fd.body fun body=>Sd K r.n r.dfl r.nm fd (fd.params.args.map (·.arg))&&(ckS FN r.N r.t).ss ⟨fd.scope.names,r.nm,true⟩ body)=true) h1 (fun fd h1=>af0 (d:=fd.body) (Q:=fun bd=>ckr r (match bd with| .stmts b=>some (fd.scope.names,b)|_=>none)=true->Xj bd (fun body=>Sd K r.n r.dfl r.nm fd (fd.params.args.map (·.arg))&&(ckS FN r.N r.t).ss ⟨fd.scope.names,r.nm,true⟩ body)=true) h1 fun b h1 hc=>bk.mpr ⟨h1,hc⟩) hc
theorem al3{K:dL}{l:List FR}{qs:List (Option (List (Str×cT)×List bW))}(h0:l.all (XU K)=true)(hb:l.map (fun r=>S8 K r.f)=qs)(hc:(l.zip qs).all (fun p=>ckr p.1 p.2)=true):l.all (frB K)=true:=by
 subst hb
 induction l with
 |nil=>rfl
 |cons r l ih=>exact aE h0 fun a b=>aE hc fun c d=>bk.mpr ⟨al2 a c,ih b d⟩
def agc(K:dL):Bool:=(zh.all (crB K)&&(KP.all (mrB K)&&(Pl.all (grB K)&&(U5.all (blB K)&&(QF K "show_expression" &&(QF K "no_expression" &&(keepIn K (.ref 112)&&(HG K "GrammarFault" (.ref 112)&&(gfB K&&((K.lookup sysModules).isSome&&(HG K "USAGE_NAMES" (.ref 503)&&HG K "USAGE_WORDS" (.ref 711))))))))))))
def agb(K:dL):Bool:=qm.all (XU K)&&agc K
def abW(K:dL):Bool:=qm.all (frB K)&&agc K
noncomputable def kY(K:dL):=(K.lookup 503,K.lookup 711,nsIn K 3 "RESERVED",Vd K 65)
noncomputable def uh(w:d5)(k v:Str)(t:Nat):ik:=⟨hashStr w k,.str k t,.str v (t+1)⟩
noncomputable def unO(w:d5):Obj:={cls:=.type "dict",data:=.dict #[uh w "display" "DISPLAY" 925,uh w "binary" "BINARY" 927,uh w "packed" "PACKED-DECIMAL" 929,uh w "index" "INDEX" 931] 4}
noncomputable def uwO(w:d5):Obj:={cls:=.type "dict",data:=.dict #[uh w "DISPLAY" "display" 1250,uh w "COMP" "binary" 1252,uh w "COMPUTATIONAL" "binary" 1254,uh w "BINARY" "binary" 1256,uh w "PACKED-DECIMAL" "packed" 1258,uh w "COMP-3" "packed" 1260,uh w "COMPUTATIONAL-3" "packed" 1262,uh w "INDEX" "index" 1264] 8}
noncomputable def Gf:Str:=lJ " ACCEPT ACCESS ADD ADVANCING AFTER ALL ALPHABETIC ALPHABETIC-LOWER ALPHABETIC-UPPER ALPHANUMERIC ALPHANUMERIC-EDITED ALSO ALTERNATE AND ANY ARE AREA AREAS ASCENDING ASSIGN AT AUTHOR BEFORE BINARY BLANK BLOCK BY CALL CHARACTER CHARACTERS CLOSE COMP COMP-3 COMPUTATIONAL COMPUTATIONAL-3 COMPUTE CONFIGURATION CONTAINS CONTENT CONTINUE CONVERTING COPY CORR CORRESPONDING COUNT DATA DATE-COMPILED DATE-WRITTEN DELETE DELIMITED DELIMITER DEPENDING DESCENDING DISPLAY DIVIDE DIVISION DOWN DUPLICATES DYNAMIC ELSE END END-ADD END-CALL END-COMPUTE END-DELETE END-DIVIDE END-EVALUATE END-IF END-MULTIPLY END-PERFORM END-READ END-RETURN END-REWRITE END-SEARCH END-START END-STRING END-SUBTRACT END-UNSTRING END-WRITE ENVIRONMENT EQUAL ERROR EVALUATE EXCEPTION EXIT EXTEND EXTERNAL FALSE FD FILE FILE-CONTROL FILLER FIRST FOR FROM GIVING GLOBAL GO GREATER HIGH-VALUE HIGH-VALUES I-O I-O-CONTROL IDENTIFICATION IF IN INDEX INDEXED INITIAL INITIALIZE INPUT INPUT-OUTPUT INSPECT INSTALLATION INTO INVALID IS JUST JUSTIFIED KEY LABEL LEADING LEFT LESS LINE LINES LINKAGE LOCK LOW-VALUE LOW-VALUES MERGE MODE MOVE MULTIPLY NATIVE NEGATIVE NEXT NO NOT NUMERIC NUMERIC-EDITED OBJECT-COMPUTER OCCURS OF OFF OMITTED ON OPEN OPTIONAL OR ORDER ORGANIZATION OTHER OUTPUT OVERFLOW PACKED-DECIMAL PERFORM PIC PICTURE POINTER POSITIVE PROCEDURE PROCEED PROGRAM PROGRAM-ID QUOTE QUOTES RANDOM READ RECORD RECORDS REDEFINES REFERENCE RELATIVE RELEASE REMAINDER RENAMES REPLACE REPLACING RETURN REWRITE RIGHT ROUNDED RUN SAME SD SEARCH SECTION SECURITY SELECT SENTENCE SEPARATE SEQUENTIAL SET SIGN SIZE SORT SORT-MERGE SOURCE-COMPUTER SPACE SPACES SPECIAL-NAMES STANDARD START STATUS STOP STRING SUBTRACT SYNC SYNCHRONIZED TALLYING TEST THAN THEN THROUGH THRU TIMES TO TRAILING TRUE UNSTRING UNTIL UP UPON USAGE USING VALUE VALUES VARYING WHEN WITH WORKING-STORAGE WRITE ZERO ZEROES ZEROS "
noncomputable def kYa(w:d5):=(some (unO w),some (uwO w),some (some (gw Gf 1445)),some leB)
abbrev PW:gg:=Kn
noncomputable def IZ:List bW:=behindTheImports PW
noncomputable def xV:Env:={scope:=PW.main.scope,locals:=mainNs,globals:=mainNs,cells:=[],code:=.ref 13,frame:=some 14}
noncomputable def aoj:Obj:={cls:=.type "code",data:=.fields #[.str "<module>" 182,.str "<module>" 183,.str "/claim/cut.py" 184,.int 1 0,.int 0 0,.int 0 0,.int 0 0,.int 0 0,.ref 11,.bool false,.int 181 0,.ref 12,.none,.none,.none,.none,.int 185 0,.int 1 0,.str "/claim/cut.py" 186]}
noncomputable def aoG:Obj:={cls:=.type "frame",slots:= #[some (.ref 13),some (.ref 3),some (.ref 3),none,some (.str "__main__" 164),none,some (.ref 0)]}
noncomputable def tr4(P:Params):BT:=((((((((((((((BT.nil.ins 0 (boot_o_0 P)).ins 1 (boot_o_1 P)).ins 2 (boot_o_2 P)).ins 3 (boot_o_3 P)).ins 4 (boot_o_4 P)).ins 5 (boot_o_5 P)).ins 6 (boot_o_6 P)).ins 7 (boot_o_7 P)).ins 8 (boot_o_8 P)).ins 9 (boot_o_9 P)).ins 10 (boot_o_10 P)).ins 11 (tupObj0)).ins 12 {cls:=.none,data:=.fields #[]}).ins 13 aoj).ins 14 aoG
where tupObj0:Obj:={cls:=.type "tuple",data:=.seq #[]}
def sT4(w:d5)(os:oa):qb:=⟨tr4 w.params,15,{},#[],{},187,os⟩
abbrev ps0:Pos:=⟨0,0,0,0⟩
abbrev psE:Pos:=⟨927,0,938,53⟩
abbrev B0:List Frame:=[topFrame ps0]
theorem amN(w:d5)(os:oa):topGo treeTable PW w 11 (some (.ref 6)) 12 ⟨jw w.params,p7 [],s5,vA,os⟩ (topStub PW)=some ((sT4 w os).abs,⟨denote treeTable (.body IZ xV),.body IZ xV,ps0,B0⟩):=by
 rw[Er,dZ,Ei]
 kernel_rfl
theorem adu(w:d5)(os:oa):segRun treeTable PW w 11 (some (.ref 6)) 1 1 (sT4 w os).abs (blockOf IZ xV (.body IZ xV) ps0 B0)=some (.next,(sT4 w os).abs,.body IZ xV,ps0):=by
 rw[Eo,dZ]
 kernel_rfl
theorem al0(w:d5)(s:az):topRun treeTable PW w 11 (some (.ref 6)) 2 s ⟨doneF .next,.body IZ xV,psE,B0⟩=some s:=by
 rw[En,dZ]
 kernel_rfl
theorem ai0: ∀w:d5,(fencedOpening treeTable PW w 10000).map (fun s=>(s.heap,s.gens,s.drawn,s.toks))=some (jw w.params,p7 [],s5,vA):=
 boot_open (by kernel_rfl) (by decide) (fun s=>by kernel_rfl)
theorem akG(w:d5):((jw w.params).isNs mainGlobals&&(p7 []:Array yO).size ==0,(jw w.params).objs.size,(jw w.params).nsMap mainGlobals "__annotations__")=(true,11,some (.ref 6)):=by
 kernel_rfl
noncomputable def loose0:List Str:=PW.boundNames.filter fun x=> !(x==("law":Str))
noncomputable def q0:gg:=view PW [149]
noncomputable def aiH:List Str:=importedModules PW.main.body
def N9(w:d5)(s:az):Bool:=staticsOk aiH (jw w.params) s.heap&&namesBound PW s.heap&&gensDone s&&laidKept (jw w.params) s.heap
def lkF(a:aC)(l:List (aC×Obj)):Option Obj:=bt (motive:=fun _=>Option Obj) none (fun p _ ih=>Bool.rec (motive:=fun _=>Option Obj) ih (some p.2) (am a p.1)) l
theorem acy: @qE aC Obj instBEqOfDecidableEq=lkF:=funext fun a=>funext fun l=>by
 induction l with
 |nil=>rfl
 |cons p l ih=>
  obtain⟨b,o⟩:=p
  refine yN (cE ..) ?_
  rw[ih]
  show(match a==b with|true=>some o|false=>lkF a l)=Bool.rec (motive:=fun _=>Option Obj) (lkF a l) (some o) (am a b)
  rw[show(a==b)=am a b from by rw[oG,beq_iff_eq,Nat.beq_eq]]
  cases am a b<;>rfl
def aij(h:bM)(a:aC):Bool:=match h.get? a with
 |some o=>(match o.data with
  | .dict es _=>es.toList.all fun e=>match e.key with
   | .str _ _=>true
   |_=>false
  |_=>false)
 |none=>false
theorem X1:Heap.isNs=aij:=by
 funext h a
 unfold Heap.isNs aij
 simp only[Array.all_toList]
 rfl
noncomputable def thr:Thread:=piecesOf IZ xV (.body IZ xV) ps0 B0
noncomputable def Xt0(s:az):Bool:=true
def Uj(w:d5)(os:oa):Option (Od×qb×Code×Pos):=segRunT treeTable PW w 11 (some (.ref 6)) 1 7241 (sT4 w os) thr
noncomputable def stF(s:Option bW):Option (List (Str×cT)×List bW):=s.bind fun s=>if h:s.ctorIdx=0 then Stmt.FunctionDef.elim (motive_2:=fun _=>Option (List (Str×cT)×List bW)) s h (fun _ _ b _ _ _ sc _ _ _=>some (sc.names,b))else none
noncomputable def stC(s:Option bW)(j:Nat):Option bW:=s.bind fun s=>if h:s.ctorIdx=2 then Stmt.ClassDef.elim (motive_2:=fun _=>Option bW) s h (fun _ _ _ b _ _ _ _ _ _ _=>b[j]?)else none
noncomputable def pbd(n:Nat):Option (List (Str×cT)×List bW):=bif bc n 1000 then stF PW.main.body[n]? else stF (stC PW.main.body[n%1000]? (n / 1000-1))
noncomputable def pbs:List (Option (List (Str×cT)×List bW)):=([147,2032,2105,2106,4107,5107,2108,3139,2139,6139,7139,15139,16139,17139,8139,132,2107,127,128,126,1106,10139,138,22139,18139,15,14,19,20,5139,19139,65,137,12139,116,123,13139,9139,124,1105,14139,59,62,16,18,17,20139,117,119,120,121,122,1107,4139,125,129,131,1108,133,1139,1032,50,33,34,41,45,36,47,44,35,46,40,42,43,38,39,48,52,49,51,53,1003,90,84,54,66,21,67,70,82,95,85,69,83,92,93,94,91,96,97,98,99,100,148,141,143,144,145,146,142,149]:List Nat).map pbd
theorem alU:(qm.zip pbs).all (fun p=>ckr p.1 p.2)=true:=by kernel_rfl
def Yw(w:d5)(x:Od×qb×Code×Pos):=(x.1,x.2.2.1,x.2.2.2,N9 w x.2.1.abs,openSeen q0 loose0 aiH Xt0 true x.2.1.abs,agb (Hu Xg x.2.1)&&cJ 1 x.2.1.toks,kY (Hu Xg x.2.1),qm.map fun r=>S8 (Hu Xg x.2.1) r.f)
theorem apQ(w:d5)(os:oa):(Uj (w.withFollow "special-get-raises" false) os).map (Yw (w.withFollow "special-get-raises" false))=some (.next,.body IZ xV,psE,true,openGood q0 loose0,true,kYa (w.withFollow "special-get-raises" false),pbs):=by
 delta Uj thr piecesOf
 rw[mf,dZ,mh]
 delta Yw N9 staticsOk namesBound laidKept agb XU Sd codeIn HG nsO nsIn kU keepIn S8
 rw[mR]
 delta PySem.W.Fast.tw4187177175401517315 PySem.W.Fast.tw5160383126252970620 PySem.W.Fast.tw14722251495701143533 PySem.W.Fast.tw15623941606353435126 PySem.W.Fast.tw912232860611745870
 rw[bF,acy,X1]
 kernel_rfl
theorem apS(w:d5)(os:oa):(Uj (w.withFollow "special-get-raises" true) os).map (Yw (w.withFollow "special-get-raises" true))=some (.next,.body IZ xV,psE,true,openGood q0 loose0,true,kYa (w.withFollow "special-get-raises" true),pbs):=by
 delta Uj thr piecesOf
 rw[mf,dZ,mh]
 delta Yw N9 staticsOk namesBound laidKept agb XU Sd codeIn HG nsO nsIn kU keepIn S8
 rw[mR]
 delta PySem.W.Fast.tw4187177175401517315 PySem.W.Fast.tw5160383126252970620 PySem.W.Fast.tw14722251495701143533 PySem.W.Fast.tw15623941606353435126 PySem.W.Fast.tw912232860611745870
 rw[bF,acy,X1]
 kernel_rfl
theorem aga(σ:AS):(co 128).map (fun c=>qK [.str [c]] σ)=(co 128).map (fun c=>some (.str [I2 c],σ)):=by kernel_rfl
theorem Sv(args:aa)(σ:AS)(a:AV)(aj:AS)(e:eS args σ=some (a,aj)):qK args σ=some (a,aj):=
 Pm (Q:=fun args=>qK args σ=some (a,aj)) e fun x e=>Po (Q:=fun x=>qK [x] σ=some (a,aj)) e fun c e=>kS e fun h e=>(gS.mp (aga σ) c (mc.mpr (cC.mp h))).trans e
theorem aiD{c:Nat}{s:ac}(h:TJ (c::s)=true):bc c 128=true/\TJ s=true:=by
 have h:Bool.rec (motive:=fun _=>Bool) false (TJ s) (bc c 128)=true:=h
 cases z:bc c 128 with
 |true=>rw[z]at h;exact⟨rfl,h⟩
 |false=>rw[z]at h;exact ff h
theorem aiE{s:ac}: ∀{i c:Nat},TJ s=true->HH s i=some c->bc c 128=true:=by
 induction s with
 |nil=>exact fun _ h=>nn h
 |cons a s ih=>
  intro i c h e
  cases i with
  |zero=>exact s1 (P:=fun c=>bc c 128=true) e (aiD h).1
  |succ i=>exact ih (aiD h).2 e
def rC:BM:=afZ (eJ (bO .Lt) (al 1) (bq ef (aw (al 0) aG))) (eJ (bO .In) (bq eS (aw (bi eH (al 0) (al 1)) aG)) (al 2))
def rB:SM:=aV (cV [1] (bi (b4 .Add) (al 1) (ba (.int 1)))) bu
theorem aq6(s g:ac)(i:Nat)(σ:AS):rB [.str s,.int (ai i),.str g] σ=some (.next [.str s,.int (ai (i+1)),.str g] σ):=rfl
section
variable{s g:ac}{i n:Nat}{σ:AS}
theorem ajc(h:dj (dN s)=true):eJ (bO .Lt) (al 1) (bq ef (aw (al 0) aG)) [.str s,.int (ai i),.str g] σ=some (bc i (dN s),σ):=by
 have e:bq ef (aw (al 0) aG) [.str s,.int (ai i),.str g] σ=some (.int (ai (dN s)),σ):=show(bif dj (dN s)then some (AV.int (ai (dN s)),σ)else none)=_ by rw[h];rfl
 show bA (al 1 [.str s,.int (ai i),.str g] σ) (fun a aj=>bA (bq ef (aw (al 0) aG) [.str s,.int (ai i),.str g] aj) fun b eW=>ob (bO .Lt a b eW) fun r=>some (r,eW))=_
 rw[show al 1 [.str s,.int (ai i),.str g] σ=some (.int (ai i),σ) from rfl,aX,e,aX]
 rfl
theorem aps{c:Nat}(h:dj i=true)(hn:HH s i=some c)(hc:bc c 128=true):eJ (bO .In) (bq eS (aw (bi eH (al 0) (al 1)) aG)) (al 2) [.str s,.int (ai i),.str g] σ=some (uB (I2 c) g,σ):=by
 have e:bi eH (al 0) (al 1) [.str s,.int (ai i),.str g] σ=some (.str [c],σ):=by
  show ob (ob (bif dj i then HH s i else none) fun c=>some (AV.str [c])) (fun z=>some (z,σ))=_
  rw[h,hn];rfl
 have e1:bq eS (aw (bi eH (al 0) (al 1)) aG) [.str s,.int (ai i),.str g] σ=some (.str [I2 c],σ):=by
  show bA (bA (bi eH (al 0) (al 1) [.str s,.int (ai i),.str g] σ) fun v aj=>bA (aG [] aj) fun vs aL=>some (v::vs,aL)) (fun vs aj=>eS vs aj)=_
  rw[e,aX]
  show(bif bc c 128 then some (AV.str [I2 c],σ)else none)=_
  rw[hc];rfl
 show bA (bq eS (aw (bi eH (al 0) (al 1)) aG) [.str s,.int (ai i),.str g] σ) (fun a aj=>bA (al 2 [.str s,.int (ai i),.str g] aj) fun b eW=>ob (bO .In a b eW) fun r=>some (r,eW))=_
 rw[e1,aX]
 rfl
theorem drop_nil: ∀{s:ac} {i:Nat},ui i s=[]->dN s<=i:=by
 intro s
 induction s with
 |nil=>exact fun _=>aS _
 |cons a s ih=>
  intro i h
  cases i with
  |zero=>exact nomatch (show a::s=[] from h)
  |succ i=>exact be (ih h)
theorem Z6{c:Nat}{r:ac}: ∀{s:ac} {i:Nat},ui i s=c::r->HH s i=some c/\ui (i+1) s=r/\i<dN s:=by
 intro s
 induction s with
 |nil=>exact fun h=>nomatch (show[]=c::r from h)
 |cons a s ih=>
  intro i h
  cases i with
  |zero=>
   have h:a::s=c::r:=h
   injection h with h1 h2
   exact⟨congrArg some h1,(show ui 0 s=r from(by cases s<;>rfl:ui 0 s=s).trans h2),On _⟩
  |succ i=>
   obtain⟨h1,h2,h3⟩:=ih h
   exact⟨h1,h2,GQ h3⟩
theorem aeR(hl:TJ s=true)(hk:dj (dN s)=true){d:ac}: ∀{i n:Nat},ui i s=d->dN d<n->Dz rC rB n [.str s,.int (ai i),.str g] σ=some (.next [.str s,.int (ai (i+agN g d)),.str g] σ):=by
 induction d with
 |nil=>
  intro i n h hn
  cases n with
  |zero=>exact absurd hn (fY _)
  |succ n=>
   have b:bc i (dN s)=false:=by rw[Bool.eq_false_iff];exact fun q=>absurd (cC.mp q) (b7.mpr (drop_nil h))
   have e:rC [.str s,.int (ai i),.str g] σ=some (false,σ):=by
    show bA (eJ (bO .Lt) (al 1) (bq ef (aw (al 0) aG)) [.str s,.int (ai i),.str g] σ) (fun t aj=>bif t then eJ (bO .In) (bq eS (aw (bi eH (al 0) (al 1)) aG)) (al 2) [.str s,.int (ai i),.str g] aj else some (false,aj))=_
    rw[ajc hk,b];rfl
   show bA (rC [.str s,.int (ai i),.str g] σ) (fun t aj=>bif t then ob (rB [.str s,.int (ai i),.str g] aj) (C5 (Dz rC rB n))else some (.next [.str s,.int (ai i),.str g] aj))=_
   rw[e]
   rfl
 |cons c r ih=>
  intro i n h hn
  obtain⟨h1,h2,h3⟩:=Z6 h
  cases n with
  |zero=>exact absurd hn (fY _)
  |succ n=>
   have b:bc i (dN s)=true:=cC.mpr h3
   have ki:dj i=true:=Nat.ble_eq.mpr (au (gP h3) (av hk))
   have e:rC [.str s,.int (ai i),.str g] σ=some (uB (I2 c) g,σ):=by
    show bA (eJ (bO .Lt) (al 1) (bq ef (aw (al 0) aG)) [.str s,.int (ai i),.str g] σ) (fun t aj=>bif t then eJ (bO .In) (bq eS (aw (bi eH (al 0) (al 1)) aG)) (al 2) [.str s,.int (ai i),.str g] aj else some (false,aj))=_
    rw[ajc hk,b,aX,af,aps ki h1 (aiE hl h1)]
   show bA (rC [.str s,.int (ai i),.str g] σ) (fun t aj=>bif t then ob (rB [.str s,.int (ai i),.str g] aj) (C5 (Dz rC rB n))else some (.next [.str s,.int (ai i),.str g] aj))=some (.next [.str s,.int (ai (i+Bool.rec (motive:=fun _=>Nat) 0 (kq (agN g r)) (uB (I2 c) g))),.str g] σ)
   rw[e,aX]
   cases uB (I2 c) g with
   |false=>rfl
   |true=>
    rw[af,aq6,cg]
    show Dz rC rB n [.str s,.int (ai (i+1)),.str g] σ=_
    rw[ih h2 (jF hn),Bx]
    rfl
end
theorem apR(s g:ac)(i:Nat)(σ:AS):qk [.str s,.int (ai i),.str g] σ=ob (ob (Dz rC rB 2000 [.str s,.int (ai i),.str g] σ) (gR (aV (eI (al 1)) bu))) ib:=rfl
theorem adE{s:ac}: ∀{i:Nat},dN (ui i s)<=dN s:=by
 induction s with
 |nil=>exact fun{i}=>ax 0
 |cons a s ih=>
  intro i
  cases i with
  |zero=>exact ax _
  |succ i=>exact jP ih
theorem abD(args:aa)(σ:AS)(a:AV)(aj:AS)(e:zg args σ=some (a,aj)):qk args σ=some (a,aj):=
 U7 (Q:=fun args=>qk args σ=some (a,aj)) e fun x y z e=>fh (Q:=fun x=>qk [x,y,z] σ=some (a,aj)) e fun s e=>lz (Q:=fun y=>qk [.str s,y,z] σ=some (a,aj)) e fun i e=>
  fh (Q:=fun z=>qk [.str s,.int (.ofNat i),z] σ=some (a,aj)) e fun g e=>kS e fun h e=>aE h fun h1 h=>aE h fun h2 h3=>by
   have h2:=cC.mp h2
   rw[apR,aeR h1 (Nat.ble_eq.mpr (au (gP h2) (by decide))) rfl (eC adE (Ok h2 (by decide)))]
   exact e
structure anu(C:PC):Prop where
 read_entry: ∀{k f},aF C k f qL->aF C k f wD
 is_level_here: ∀{k f},aF C k f j0->aF C k f qe
 read_entries: ∀{k f},aF C k f nD->aF C k f nA
 law_item: ∀{k f},aF C k f y7->aF C k f BG
 law_leaf: ∀{k f},aF C k f y8->aF C k f BH
 law_root: ∀{k f},aF C k f ta->aF C k f BP
def Zz(C:PC)(mac:List Nat->List AV):Prop:=rM C/\anu C/\qj C mac bx VB
section
variable{C:PC}{mac:List Nat->List AV}(Z:Zz C mac){lab:List AV->List AV}{k kF:Nat}{x:Str}
include Z
theorem fC(i:Nat)(r:FR){F:aW}{l:List (Str×aW)}(h:aF C kF (.ref r.f) F)(t:OC C k l)(e:qm[i]? =some r:=by rfl)(hx:r.x=some x:=by rfl)(hk:kF<=k:=by first|decide|omega):OC C k ((x,F)::l):=f1 (Z.1.cf e hx) h hk t
omit Z in theorem fB {F:aW} {l:List (Str×aW)} {fv:ah} (c:Cl C x fv) (h:aF C 0 fv F) (t:OC C k l):OC C k ((x,F)::l):=f1 c h (aS _) t
omit Z in theorem fK {F:aW} {l:List (Str×aW)} {fv:ah} (c:Cl C x fv) (h:aF C kF fv F) (t:OC C k l) (hk:kF<=k:=by first|decide|omega):OC C k ((x,F)::l):=f1 c h hk t
omit Z in theorem mC {D:gW} {l:List (Str×gW)} (h:d8 C kF x D) (t:Zx C k l) (hk:kF<=k:=by first|decide|omega):Zx C k ((x,D)::l):=m1 h hk t
theorem gC(i:Nat){a:AV}{l:List (Str×AV)}(t:Zu C l)(e:Pl[i]? =some ⟨x,a⟩:=by rfl):Zu C ((x,a)::l):=g1 (Z.1.gr e) t
theorem c9(i:Nat)(r:FR)(Γ:cG){Q:SM}(hG:Zu C Γ.glb)(hF:OC C k Γ.fns)(hM:Zx C k Γ.mts)(e:qm[i]? =some r:=by rfl)(hk:5<=k:=by first|decide|omega)(hN:Γ.nms=r.N:=by rfl)(q:Q=ci Γ r.t:=by kernel_rfl):pU C (k+1) (.ref r.f) (bo r.n r.dfl Q):=aoF Z.1 e hk hN q hG hF hM
theorem jH:Cl C "len" (.builtin "len"):=Z.1.bl (i:=0) rfl (by decide) (by boot_by_name) fA
theorem IY:Cl C "range" (.type "range"):=Z.1.bl (i:=1) rfl (by decide) (by boot_by_name) mz
theorem ZJ:Cl C "str" (.type "str"):=Z.1.bl (i:=2) rfl (by decide) (by boot_by_name) mz
theorem xP:Cl C "tuple" (.type "tuple"):=Z.1.bl (i:=3) rfl (by decide) (by boot_by_name) mz
theorem alP:Cl C "list" (.type "list"):=Z.1.bl (i:=4) rfl (by decide) (by boot_by_name) mz
theorem af1:Cl C "abs" (.builtin "abs"):=Z.1.bl (i:=5) rfl (by decide) (by boot_by_name) fA
theorem af3:Cl C "chr" (.builtin "chr"):=Z.1.bl (i:=6) rfl (by decide) (by boot_by_name) fA
theorem af4:Cl C "ord" (.builtin "ord"):=Z.1.bl (i:=7) rfl (by decide) (by boot_by_name) fA
theorem adq:Cl C "sorted" (.builtin "sorted"):=Z.1.bl (i:=8) rfl (by decide) (by boot_by_name) fA
theorem aoh:Cl C "int" (.type "int"):=Z.1.bl (i:=9) rfl (by decide) (by boot_by_name) mz
theorem af2:Cl C "bytes" (.type "bytes"):=Z.1.bl (i:=10) rfl (by decide) (by boot_by_name) mz
theorem aoi:Cl C "min" (.builtin "min"):=Z.1.bl (i:=11) rfl (by decide) (by boot_by_name) fA
theorem Ct: ∀n,aF C (5+n) (.ref 1072) (bC n)
 |0=>Lo
 |n+1=>by
  have ih:=Ct n
  exact(jh (c9 Z (k:=5+n) 0 pz (NH (bC n)) g0 (fC Z 0 pz ih (fB (jH Z) eU f0)) m0).snd)
theorem RV:aF C 6 (.ref 201) qJ:=(c9 Z 1 Ge Ro g0 f0 m0).snd
theorem Cp:aF C 6 (.ref 602) ja:=(c9 Z 2 Dg ND g0 f0 m0).snd
theorem FW:aF C 6 (.ref 630) fz:=(c9 Z 3 Gc Rn g0 f0 m0).snd
theorem Nf:aF C 7 (.ref 672) jq:=(c9 Z 4 Az LB g0 f0 (mC (Z.1.mr (k:=6) (i:=1) (j:=2) rfl rfl rfl (by decide +kernel) (aF.le (k':=6) (Cp Z) (by decide)) dv) m0)).snd
theorem Zp:d8 C 7 "clauses" yZ:=(Z.1.mr (k:=7) (i:=4) (j:=4) rfl rfl rfl (by decide +kernel) (aF.le (k':=7) (Nf Z) (by decide)) dv)
theorem ze: ∀n,aF C (7+n) (.ref 677) (bG n)
 |0=>Lo
 |n+1=>by
  have ih:=ze n
  exact(jh (c9 Z (k:=7+n) 5 JA (Sx (bG n)) g0 (fB (xP Z) oA f0) (mC (Z.1.mr (k:=(7+n)) (i:=2) (j:=3) rfl rfl rfl (by decide +kernel) (aF.le (k':=(7+n)) (FW Z) (by omega)) (Z.1.mr (k:=(7+n)) (i:=5) (j:=4) rfl rfl rfl (by decide +kernel) (aF.le (k':=(7+n)) ih (by omega)) dv)) (mC (Zp Z) m0))).snd)
theorem UX:aF C 14 (.ref 703) s9:=(jh (c9 Z 6 Jz Sw g0 (fB (xP Z) oA f0) (mC (Z.1.mr (k:=13) (i:=5) (j:=4) rfl rfl rfl (by decide +kernel) (aF.le (k':=13) (ze Z 6) (by decide)) dv) m0)).snd)
theorem alI:d8 C 14 "told" qG:=(Z.1.mr (k:=14) (i:=0) (j:=1) rfl rfl rfl (by decide +kernel) (aF.le (k':=14) (RV Z) (by decide)) (Z.1.mr (k:=14) (i:=1) (j:=2) rfl rfl rfl (by decide +kernel) (aF.le (k':=14) (Cp Z) (by decide)) (Z.1.mr (k:=14) (i:=2) (j:=3) rfl rfl rfl (by decide +kernel) (aF.le (k':=14) (FW Z) (by decide)) (Z.1.mr (k:=14) (i:=5) (j:=4) rfl rfl rfl (by decide +kernel) (aF.le (k':=14) (ze Z 6) (by decide)) (Z.1.mr (k:=14) (i:=6) (j:=5) rfl rfl rfl (by decide +kernel) (aF.le (k':=14) (UX Z) (by decide)) dv)))))
theorem vN:aF C 6 (.ref 882) lr:=(c9 Z 7 we H8 g0 (fB (jH Z) eU f0) m0).snd
theorem ant:d8 C 6 "is_done" WH:=(Z.1.mr (k:=6) (i:=8) (j:=6) rfl rfl rfl (by decide +kernel) (aF.le (k':=6) (vN Z) (by decide)) dv)
theorem OA:d8 C 6 "is_done" qg:=(Z.1.mr (k:=6) (i:=8) (j:=6) rfl rfl rfl (by decide +kernel) (QU Z.2.2 (vN Z)) dv)
theorem Cq:aF C 6 (.ref 875) iq:=(c9 Z 8 Dj NE g0 (fB (jH Z) eU f0) m0).snd
theorem xo:d8 C 6 "peek" gz:=(Z.1.mr (k:=6) (i:=7) (j:=6) rfl rfl rfl (by decide +kernel) (aF.le (k':=6) (Cq Z) (by decide)) dv)
theorem UI:d8 C 6 "peek" y6:=(Z.1.mr (k:=6) (i:=7) (j:=6) rfl rfl rfl (by decide +kernel) (YV Z.2.2 (Cq Z)) dv)
theorem vO:aF C 7 (.ref 904) iB:=(c9 Z 9 wf H9 g0 f0 (mC (xo Z) m0)).snd
theorem vB:d8 C 7 "is_kind" fw:=(Z.1.mr (k:=7) (i:=11) (j:=6) rfl rfl rfl (by decide +kernel) (aF.le (k':=7) (vO Z) (by decide)) dv)
theorem yU:d8 C 7 "is_kind" t7:=(Z.1.mr (k:=7) (i:=11) (j:=6) rfl rfl rfl (by decide +kernel) (QV Z.2.2 (vO Z)) dv)
theorem vQ:aF C 8 (.ref 911) jz:=(c9 Z 10 wi vb g0 f0 (mC (rx (k:=0)) (mC (xo Z) (mC (vB Z) m0)))).snd
theorem Wz:d8 C 8 "is_word" re:=(Z.1.mr (k:=8) (i:=12) (j:=6) rfl rfl rfl (by decide +kernel) (aF.le (k':=8) (vQ Z) (by decide)) dv)
theorem OB:d8 C 8 "is_word" G3:=(Z.1.mr (k:=8) (i:=12) (j:=6) rfl rfl rfl (by decide +kernel) (QX Z.2.2 (vQ Z)) dv)
theorem vP:aF C 8 (.ref 969) jy:=(c9 Z 11 wh Ia g0 f0 (mC (xo Z) (mC (vB Z) m0))).snd
theorem Wy:d8 C 8 "is_sign" vE:=(Z.1.mr (k:=8) (i:=19) (j:=6) rfl rfl rfl (by decide +kernel) (aF.le (k':=8) (vP Z) (by decide)) dv)
theorem tZ:d8 C 8 "is_sign" qh:=(Z.1.mr (k:=8) (i:=19) (j:=6) rfl rfl rfl (by decide +kernel) (QW Z.2.2 (vP Z)) dv)
theorem sA:aF C 9 (.ref 976) jQ:=(c9 Z 12 sJ DZ g0 f0 (mC (Wy Z) m0)).snd
theorem alG:d8 C 9 "skip_sign" RH:=(Z.1.mr (k:=9) (i:=20) (j:=6) rfl rfl rfl (by decide +kernel) (aF.le (k':=9) (sA Z) (by decide)) dv)
theorem yX:d8 C 9 "skip_sign" s7:=(Z.1.mr (k:=9) (i:=20) (j:=6) rfl rfl rfl (by decide +kernel) (Lp Z.2.2 (sA Z)) dv)
theorem Fx:aF C 10 (.ref 983) sy:=(c9 Z 13 sI rA g0 f0 (mC (yX Z) m0)).snd
theorem Iz:d8 C 10 "need_sign" y5:=(Z.1.mr (k:=10) (i:=21) (j:=6) rfl rfl rfl (by decide +kernel) (aF.le (k':=10) (Fx Z) (by decide)) dv)
theorem Cr:aF C 9 (.ref 918) oZ:=(c9 Z 14 Dk NF g0 (fB (jH Z) eU f0) (mC (rx (k:=0)) (mC (Wz Z) m0))).snd
theorem aqd:d8 C 9 "skip" afL:=(Z.1.mr (k:=9) (i:=13) (j:=6) rfl rfl rfl (by decide +kernel) (aF.le (k':=9) (Cr Z) (by decide)) dv)
theorem yW:d8 C 9 "skip" vF:=(Z.1.mr (k:=9) (i:=13) (j:=6) rfl rfl rfl (by decide +kernel) (YW Z.2.2 (Cr Z)) dv)
theorem Nu:aF C 11 (.ref 833) Aj:=(c9 Z 15 sg yK g0 f0 (mC (Iz Z) (mC (yW Z) m0))).snd
theorem WX:aF C 6 (.ref 658) L1:=(c9 Z 16 Ms J6 g0 f0 (mC (fN (k:=0)) m0)).snd
theorem UH:d8 C 6 "add" yY:=(Z.1.mr (k:=6) (i:=3) (j:=4) rfl rfl rfl (by decide +kernel) (aF.le (k':=6) (WX Z) (by decide)) dv)
theorem Pa:aF C 7 (.ref 800) Cg:=(c9 Z 17 uL A9 (gC Z 20 (gC Z 17 g0)) (fB (jH Z) eU f0) (mC (fN (k:=0)) (mC (UH Z) (mC (ae1 (k:=0)) m0)))).snd
theorem adl:aF C 8 (.ref 807) SU:=(c9 Z 18 Lj Rq (gC Z 16 (gC Z 17 (gC Z 15 g0))) (fB (jH Z) eU (fC Z 17 uL (Pa Z) f0)) (mC (UH Z) (mC (fN (k:=0)) m0))).snd
theorem KL:aF C 7 (.ref 793) j0:=(c9 Z 19 qx Ka g0 f0 (mC (UI Z) m0)).snd
theorem I0:pU C 6 (.ref 623) (bo lC.n lC.dfl vK):=c9 Z 20 lC u6 g0 (fB (xP Z) oA f0) m0
theorem O2:aF C 7 (.ref 633) xA:=(mL ((Z.1.cr (i:=3) rfl).2 (I0 Z)))
theorem KH:aF C 10 (.ref 932) xC:=(c9 Z 21 yf wz g0 f0 (mC (rx (k:=0)) (mC (yW Z) m0))).snd
theorem xq:d8 C 10 "one_of" tB:=(Z.1.mr (k:=10) (i:=15) (j:=6) rfl rfl rfl (by decide +kernel) (aF.le (k':=10) (KH Z) (by decide)) dv)
theorem IR:aF C 6 (.ref 852) iC:=(c9 Z 22 pD ve (gC Z 21 g0) (fB (af2 Z) YT (fB (af4 Z) Ua f0)) m0).snd
theorem xK:aF C 8 (.ref 1018) mu:=(c9 Z 23 ye J7 g0 (fC Z 22 pD (zL (IR Z)) f0) (mC (xo Z) (mC (vB Z) m0))).snd
theorem an9:d8 C 8 "octets" Zw:=(Z.1.mr (k:=8) (i:=25) (j:=6) rfl rfl rfl (by decide +kernel) (aF.le (k':=8) (xK Z) (by decide)) dv)
theorem adb:d8 C 8 "octets" SR:=(Z.1.mr (k:=8) (i:=25) (j:=6) rfl rfl rfl (by decide +kernel) (Sl Z.2.2 (xK Z)) dv)
theorem Fw:aF C 9 (.ref 990) sx:=(c9 Z 24 sH rz g0 f0 (mC (yU Z) (mC (tZ Z) m0))).snd
theorem Ix:d8 C 9 "is_number" y4:=(Z.1.mr (k:=9) (i:=22) (j:=6) rfl rfl rfl (by decide +kernel) (aF.le (k':=9) (Fw Z) (by decide)) dv)
theorem ZG:aF C 6 (.ref 136) OK:=(c9 Z 25 HO MP g0 f0 m0).snd
theorem ZE:aF C 6 (.ref 129) OI:=(c9 Z 26 HM MN g0 f0 m0).snd
theorem W7:aF C 6 (.ref 164) L9:=(c9 Z 27 Dv Ki (gC Z 0 g0) f0 (mC (Mv (k:=0)) m0)).snd
theorem Ap:aF C 7 (.ref 171) iI:=(c9 Z 28 nL yC (gC Z 0 g0) (fC Z 26 HM (ZE Z) (fB (jH Z) eU (fC Z 27 Dv (W7 Z) (fB (IY Z) wl f0)))) (mC (Mv (k:=0)) m0)).snd
theorem Cs:aF C 7 (.ref 896) o0:=(c9 Z 29 Dl NG g0 f0 (mC (xo Z) m0)).snd
theorem aqe:d8 C 7 "take" afM:=(Z.1.mr (k:=7) (i:=10) (j:=6) rfl rfl rfl (by decide +kernel) (aF.le (k':=7) (Cs Z) (by decide)) dv)
theorem IA:d8 C 7 "take" Ex:=(Z.1.mr (k:=7) (i:=10) (j:=6) rfl rfl rfl (by decide +kernel) (YX Z.2.2 (Cs Z)) dv)
theorem KI:aF C 10 (.ref 997) xE:=(c9 Z 30 yg wA g0 (fC Z 25 HO (ZG Z) (fC Z 28 nL (Ap Z) f0)) (mC (IA Z) (mC (yX Z) (mC (Ix Z) m0)))).snd
theorem adc:d8 C 10 "signed" SS:=(Z.1.mr (k:=10) (i:=23) (j:=6) rfl rfl rfl (by decide +kernel) (aF.le (k':=10) (KI Z) (by decide)) dv)
theorem Nn:aF C 11 (.ref 409) Ae:=(c9 Z 31 r9 yF g0 f0 (mC (yU Z) (mC (adb Z) (mC (Ix Z) (mC (adc Z) m0))))).snd
theorem O7:aF C 6 (.ref 847) Cc:=(c9 Z 32 uI A6 (g1 Z.1.rs g0) f0 m0).snd
theorem IP:aF C 8 (.ref 947) vH:=(c9 Z 33 wg u9 g0 (fC Z 32 uI (O7 Z) f0) (mC (UI Z) (mC (yU Z) m0))).snd
theorem yV:d8 C 8 "is_name" t8:=(Z.1.mr (k:=8) (i:=16) (j:=6) rfl rfl rfl (by decide +kernel) (aF.le (k':=8) (IP Z) (by decide)) dv)
theorem Nm:aF C 12 (.ref 725) Ad:=(c9 Z 34 r8 yE (g1 Z.1.noe g0) (fC Z 31 r9 (Nn Z) f0) (mC (yV Z) m0)).snd
theorem Pc:aF C 13 (.ref 772) Ci:=(c9 Z 35 uN Bb g0 (fC Z 34 r8 (Nm Z) f0) (mC (tZ Z) (mC (fN (k:=0)) (mC (xq Z) m0)))).snd
theorem O3:aF C 9 (.ref 954) BX:=(c9 Z 36 Dh A2 g0 f0 (mC (IA Z) (mC (yV Z) m0))).snd
theorem Iy:d8 C 9 "name" Ew:=Z.1.mro (i:=17) (r:=⟨1021,"name",954⟩) rfl rfl (fun i hi=>by simp only[aH,bh,or_false]at hi;rcases hi with rfl|rfl|rfl|rfl<;>(rw[Z.1.fn _ _ rfl];decide)) (O3 Z)
theorem O4:aF C 10 (.ref 925) BZ:=(c9 Z 37 Di A3 g0 f0 (mC (yW Z) m0)).snd
theorem alH:d8 C 10 "need" abO:=(Z.1.mr (k:=10) (i:=14) (j:=6) rfl rfl rfl (by decide +kernel) (aF.le (k':=10) (O4 Z) (by decide)) dv)
theorem Np:aF C 11 (.ref 779) Af:=(c9 Z 38 sb yG g0 f0 (mC (xq Z) (mC (Iy Z) (mC (alH Z) m0)))).snd
theorem Hl:pU C 6 (.ref 595) (bo kE.n kE.dfl ud):=c9 Z 39 kE sR g0 (fB (xP Z) oA f0) m0
theorem SX:aF C 7 (.ref 605) KA:=(mL ((Z.1.cr (i:=2) rfl).2 (Hl Z)))
theorem Ng:aF C 10 (.ref 961) z6:=(c9 Z 40 AB yv g0 f0 (mC (yV Z) (mC (Iy Z) m0))).snd
theorem afG:d8 C 10 "names" WI:=(Z.1.mr (k:=10) (i:=18) (j:=6) rfl rfl rfl (by decide +kernel) (aF.le (k':=10) (Ng Z) (by decide)) dv)
theorem Nj:aF C 9 (.ref 367) Aa:=(c9 Z 41 r5 yy g0 f0 (mC (tZ Z) m0)).snd
theorem W1:aF C 11 (.ref 388) L2:=(c9 Z 42 Dp Kc g0 (fB (xP Z) oA (fC Z 41 r5 (Nj Z) f0)) (mC (tZ Z) (mC (xq Z) (mC (fN (k:=0)) (mC (Iy Z) m0))))).snd
theorem W4:aF C 6 (.ref 143) L7:=(c9 Z 43 Ds Kf g0 f0 m0).snd
theorem W5:aF C 7 (.ref 157) oj:=(c9 Z 44 Dt Kg g0 (fC Z 43 Ds (W4 Z) f0) m0).snd
theorem W0:aF C 6 (.ref 150) lN:=(c9 Z 45 Dn Kb g0 f0 m0).snd
theorem Am:aF C 8 (.ref 1004) nC:=(c9 Z 46 AC LG g0 (fC Z 44 Dt (zL (W5 Z)) (fC Z 45 Dn (zL (W0 Z)) (fC Z 28 nL (zL (Ap Z)) f0))) (mC (xo Z) (mC (vB Z) m0))).snd
theorem aqb:d8 C 8 "whole" adf:=(Z.1.mr (k:=8) (i:=24) (j:=6) rfl rfl rfl (by decide +kernel) (aF.le (k':=8) (Am Z) (by decide)) dv)
theorem WB:d8 C 8 "whole" OG:=(Z.1.mr (k:=8) (i:=24) (j:=6) rfl rfl rfl (by decide +kernel) (V8 Z.2.2 (Am Z)) dv)
theorem Pb:aF C 12 (.ref 730) Ch:=(c9 Z 47 uM Ba (g1 Z.1.noe g0) (fK ((Z.1.cr (k:=0) (i:=2) rfl).1) (SX Z) (fB (xP Z) oA (fC Z 42 Dp (W1 Z) f0))) (mC (yW Z) (mC (afG Z) (mC (OB Z) (mC (tv (k:=0)) (mC (IA Z) (mC (WB Z) m0))))))).snd
theorem Cw:aF C 13 (.ref 744) rh:=(c9 Z 48 lZ pZ (g1 Z.1.uw g0) (fC Z 47 uM (Pb Z) f0) (mC (xq Z) (mC (qz (k:=0)) (mC (yW Z) m0)))).snd
theorem O5:aF C 10 (.ref 751) Ca:=(c9 Z 49 uG A4 g0 f0 (mC (yW Z) m0)).snd
theorem Fy:aF C 11 (.ref 758) sz:=(c9 Z 50 m8 rF (g1 Z.1.uw g0) f0 (mC (xq Z) (mC (qz (k:=0)) (mC (IA Z) (mC (yU Z) m0))))).snd
theorem Nl:aF C 14 (.ref 765) Ac:=(c9 Z 51 r7 yB g0 (fC Z 48 lZ (Cw Z) (fC Z 49 uG (O5 Z) (fC Z 50 m8 (Fy Z) f0))) (mC (tZ Z) (mC (fN (k:=0)) (mC (UI Z) m0)))).snd
theorem KT:pU C 6 (.ref 651) (bo mG.n mG.dfl xH):=c9 Z 52 mG wx g0 f0 m0
theorem NN:aF C 7 (.ref 680) oY:=((Z.1.cr (i:=4) rfl).2 (KT Z))
theorem Al:aF C 7 (.ref 889) nB:=(c9 Z 53 AA LF g0 (fK (Z.1.gfc) (Z.1.gf 5 (by decide)) (fB (aoi Z) ae6 (fB (jH Z) eU f0))) m0).snd
theorem aqa:d8 C 7 "fault" ade:=(Z.1.mr (k:=7) (i:=9) (j:=6) rfl rfl rfl (by decide +kernel) (aF.le (k':=7) (Al Z) (by decide)) dv)
theorem WA:d8 C 7 "fault" OF:=(Z.1.mr (k:=7) (i:=9) (j:=6) rfl rfl rfl (by decide +kernel) (V7 Z.2.2 (Al Z)) dv)
theorem R6:aF C 15 (.ref 786) qL:=(n7 (c9 Z 54 wX Ed (gC Z 15 (gC Z 16 (gC Z 17 (gC Z 18 (gC Z 19 g0))))) (fK ((Z.1.cr (k:=0) (i:=3) rfl).1) (O2 Z) (fC Z 35 uN (Pc Z) (fC Z 38 sb (Np Z) (fC Z 51 r7 (Nl Z) (fK ((Z.1.cr (k:=0) (i:=4) rfl).1) (NN Z) f0))))) (mC (Iz Z) (mC (yV Z) (mC (Iy Z) (mC (yW Z) (mC (WB Z) (mC (WA Z) m0))))))).snd)
theorem Aq:aF C 16 (.ref 814) nD:=(n7 (HX (c9 Z 55 nM yD g0 (fC Z 18 Lj (adl Z) (fC Z 19 qx (Z.2.1.is_level_here (KL Z)) (fC Z 54 wX (Z.2.1.read_entry (R6 Z)) f0))) (mC (fN (k:=0)) m0)).snd))
theorem Hd:aF C 17 (.ref 826) uc:=(c9 Z 56 n5 sV (gC Z 17 g0) (fC Z 55 nM (Z.2.1.read_entries (Aq Z)) f0) (mC (fN (k:=0)) (mC (yX Z) (mC (Iy Z) (mC (WA Z) m0))))).snd
theorem KS:pU C 6 (.ref 698) (bo mD.n mD.dfl xG):=c9 Z 57 mD ww g0 f0 m0
theorem UW:aF C 7 (.ref 706) vG:=((Z.1.cr (i:=5) rfl).2 (KS Z))
theorem U2:aF C 18 (.ref 840) o4:=(n7 (HX (c9 Z 58 zG Gx g0 (fC Z 15 sg (Nu Z) (fC Z 55 nM (Z.2.1.read_entries (Aq Z)) (fC Z 56 n5 (Hd Z) (fK ((Z.1.cr (k:=0) (i:=5) rfl).1) (UW Z) f0)))) (mC (OB Z) (mC (OA Z) (mC (IA Z) m0)))).snd))
theorem Hm:pU C 6 (.ref 867) (bo kG.n kG.dfl ky):=c9 Z 59 kG FB g0 f0 m0
theorem adk:aF C 7 (.ref 1021) xB:=(ae8 Z.2.2 ((Z.1.cr (i:=6) rfl).2 (Hm Z)))
theorem I1:pU C 6 (.ref 194) (bo lD.n lD.dfl vL):=c9 Z 60 lD vc g0 f0 m0
theorem WY:aF C 7 (.ref 204) OH:=(mL ((Z.1.cr (i:=1) rfl).2 (I1 Z)))
theorem Hc:aF C 6 (.ref 330) ub:=(c9 Z 61 nZ sU g0 (fB (jH Z) eU f0) m0).snd
theorem qM:aF C 6 (.ref 215) eS:=H0 (c9 Z 62 kZ D8 g0 (fB (af3 Z) T8 (fB (af4 Z) Ua f0)) m0).snd Sv
theorem Cu:aF C 7 (.ref 220) vI:=(c9 Z 63 rt J9 g0 (fC Z 62 kZ (qM Z) f0) (mC (qz (k:=0)) m0)).snd
theorem O9:aF C 6 (.ref 269) Cf:=(c9 Z 64 uK A8 (gC Z 3 g0) (fB (jH Z) eU f0) m0).snd
theorem Hb:aF C 8 (.ref 295) ua:=(c9 Z 65 nY sT g0 (fC Z 63 rt (Cu Z) (fC Z 64 uK (O9 Z) f0)) m0).snd
theorem zf:aF C 6 (.ref 234) tb:=(c9 Z 66 pC Gw g0 (fB (jH Z) eU f0) m0).snd
theorem ZF:aF C 7 (.ref 309) OJ:=(c9 Z 67 HN MO (gC Z 9 (gC Z 10 g0)) (fC Z 66 pC (zf Z) f0) (mC (rx (k:=0)) m0)).snd
theorem Ha:aF C 6 (.ref 288) t9:=(c9 Z 68 nX sS (gC Z 7 g0) (fB (jH Z) eU f0) (mC (wZ (k:=0)) m0)).snd
theorem Nk:aF C 7 (.ref 227) Ab:=(c9 Z 69 r6 yz (gC Z 1 g0) (fC Z 62 kZ (qM Z) f0) m0).snd
theorem R4:aF C 8 (.ref 302) FS:=(c9 Z 70 wV Eb (gC Z 2 (gC Z 8 g0)) (fC Z 69 r6 (Nk Z) f0) m0).snd
theorem O8:aF C 6 (.ref 262) Ce:=(c9 Z 71 uJ A7 g0 (fB (jH Z) eU f0) m0).snd
theorem Nh:aF C 8 (.ref 274) z7:=(c9 Z 72 rZ yw (gC Z 4 (gC Z 5 g0)) (fB (jH Z) eU (fC Z 63 rt (Cu Z) f0)) m0).snd
theorem IQ:aF C 6 (.ref 281) vJ:=(c9 Z 73 pA vd (gC Z 6 g0) (fB (jH Z) eU f0) m0).snd
theorem Pd:aF C 7 (.ref 248) zg:=H0 (c9 Z 74 zH MQ g0 (fC Z 62 kZ (qM Z) (fB (jH Z) eU f0)) m0).snd abD
theorem R5:aF C 8 (.ref 255) FT:=(c9 Z 75 wW Ec (gC Z 2 g0) (fC Z 74 zH (Pd Z) f0) m0).snd
theorem W6:aF C 9 (.ref 316) L8:=(c9 Z 76 Du Kh (gC Z 8 (gC Z 2 (gC Z 5 (gC Z 1 g0)))) (fB (jH Z) eU (fC Z 67 HN (ZF Z) (fC Z 68 nX (Ha Z) (fC Z 70 wV (R4 Z) (fC Z 71 uJ (O8 Z) (fC Z 72 rZ (Nh Z) (fC Z 73 pA (IQ Z) (fC Z 75 wW (R5 Z) (fC Z 74 zH (Pd Z) (fC Z 62 kZ (qM Z) f0)))))))))) m0).snd
theorem RY:aF C 8 (.ref 344) FP:=(c9 Z 77 wT D9 g0 (fC Z 66 pC (zf Z) (fC Z 63 rt (Cu Z) f0)) m0).snd
theorem O6:aF C 7 (.ref 323) Cb:=(c9 Z 78 uH A5 g0 (fC Z 66 pC (zf Z) f0) m0).snd
theorem RX:aF C 10 (.ref 337) FO:=(c9 Z 79 wS D0 g0 (fB (jH Z) eU (fK ((Z.1.cr (k:=0) (i:=1) rfl).1) (WY Z) (fC Z 61 nZ (Hc Z) (fC Z 65 nY (Hb Z) (fC Z 76 Du (W6 Z) (fC Z 77 wT (RY Z) (fC Z 78 uH (O6 Z) f0))))))) (mC (fN (k:=0)) m0)).snd
theorem U4:aF C 11 (.ref 351) II:=(mL (c9 Z 80 zJ Gz g0 (fC Z 79 wS (RX Z) f0) m0).snd)
theorem KU:pU C 6 (.ref 35) (bo mH.n mH.dfl xI):=c9 Z 81 mH wy g0 f0 m0
theorem alK:aF C 7 (.ref 45) abP:=(mL ((Z.1.cr (i:=0) rfl).2 (KU Z)))
theorem uf:aF C 12 (.ref 510) cN:=(jh (c9 Z 82 l0 Be (gC Z 11 (gC Z 12 g0)) (fB (IY Z) wl (fB (jH Z) eU (fK ((Z.1.cr (k:=0) (i:=1) rfl).1) (WY Z) (fC Z 80 zJ (U4 Z) (fK ((Z.1.cr (k:=0) (i:=0) rfl).1) (alK Z) f0))))) m0).snd)
theorem KM:aF C 6 (.ref 495) Ey:=(c9 Z 83 yh Rp g0 f0 (mC (qz (k:=0)) m0)).snd
theorem adm:aF C 6 (.ref 358) SV:=(c9 Z 84 Lk Rr g0 f0 (mC (wZ (k:=0)) m0)).snd
theorem Nt:aF C 7 (.ref 414) Ai:=(c9 Z 85 sf yJ g0 (fC Z 84 Lk (adm Z) (fB (af3 Z) T8 f0)) (mC (qz (k:=0)) m0)).snd
theorem KN:aF C 6 (.ref 178) xF:=(c9 Z 86 qy wB g0 (fB (jH Z) eU (fB (ZJ Z) Lq (fB (af1 Z) T6 f0))) m0).snd
theorem Nr:aF C 7 (.ref 421) Ah:=(c9 Z 87 se yI (gC Z 6 g0) (fB (af1 Z) T6 (fC Z 86 qy (KN Z) f0)) (mC (wZ (k:=0)) m0)).snd
theorem Nq:aF C 8 (.ref 440) Ag:=(c9 Z 88 sd yH g0 (fC Z 85 sf (Nt Z) (fC Z 87 se (Nr Z) f0)) m0).snd
theorem Ao:aF C 9 (.ref 483) rP:=(c9 Z 89 nK yA (g1 Z.1.show g0) (fC Z 88 sd (Nq Z) f0) m0).snd
theorem Pf:aF C 10 (.ref 543) lO:=(jh (c9 Z 90 uP Bd g0 (fC Z 83 yh (KM Z) (fC Z 89 nK (Ao Z) f0)) (mC (fN (k:=0)) m0)).snd)
theorem SY:aF C 6 (.ref 502) KB:=(c9 Z 91 ES Rs g0 f0 m0).snd
theorem W3:aF C 6 (.ref 433) L6:=(c9 Z 92 Dr Ke g0 (fB (alP Z) aba f0) (mC (qz (k:=0)) m0)).snd
theorem W2:aF C 7 (.ref 490) L5:=(c9 Z 93 Dq Kd (g1 Z.1.show g0) (fC Z 92 Dr (W3 Z) f0) m0).snd
theorem Pe:aF C 8 (.ref 522) Cj:=(c9 Z 94 uO Bc g0 (fC Z 83 yh (KM Z) (fC Z 91 ES (SY Z) (fB (ZJ Z) Lq (fC Z 93 Dq (W2 Z) f0)))) m0).snd
theorem U3:aF C 6 (.ref 529) IH:=(c9 Z 95 zI Gy g0 f0 m0).snd
theorem Ni:aF C 10 (.ref 536) z8:=(c9 Z 96 r0 yx (g1 Z.1.un g0) (fC Z 89 nK (Ao Z) (fC Z 94 uO (Pe Z) (fC Z 95 zI (U3 Z) (fC Z 91 ES (SY Z) f0)))) m0).snd
theorem RZ:aF C 6 (.ref 517) FQ:=(c9 Z 97 wU Ea g0 (fB (ZJ Z) Lq f0) m0).snd
theorem R7:aF C 11 (.ref 550) nk:=(jh (c9 Z 98 wY Ee (gC Z 13 g0) (fC Z 83 yh (KM Z) (fC Z 96 r0 (Ni Z) (fC Z 97 wU (RZ Z) f0))) m0).snd)
theorem An: ∀n,aF C (12+n) (.ref 557) (cv n)
 |0=>Lo
 |n+1=>by
  have ih:=An n
  exact(jh (mL (c9 Z (k:=12+n) 99 nJ (LH (cv n)) (gC Z 14 g0) (fC Z 99 nJ ih (fC Z 82 l0 (uf Z) (fC Z 90 uP (Pf Z) (fC Z 98 wY (R7 Z) f0)))) (mC (tv (k:=0)) m0)).snd))
theorem Ar:aF C 19 (.ref 564) iJ:=(jh (mL (c9 Z 100 nN LK g0 (fC Z 99 nJ (An Z 6) f0) (mC (tv (k:=0)) m0)).snd))
theorem IT:aF C 20 (.ref 571) eY:=(jh (mL (c9 Z 101 pE Ib g0 (fC Z 82 l0 (uf Z) (fC Z 100 nN (Ar Z) f0)) m0).snd))
theorem Cv:aF C 21 (.ref 578) ir:=(Mw (jh (mL (c9 Z 102 pB NI g0 (fC Z 82 l0 (uf Z) (fC Z 101 pE (IT Z) (fC Z 100 nN (Ar Z) f0))) (mC (tv (k:=0)) m0)).snd)))
theorem KJ(hl: ∀L c,lT mac L c->lT mac (lab L) c):aF C 22 (.ref 1077) (eR lab):=(Mw (c9 Z 103 qw (J8 lab) g0 (fC Z 0 pz (Ct Z 6) (fB (aoh Z) ae4 (fB (IY Z) wl (fB (jH Z) eU (fB (adq Z) V9 (fC Z 58 zG (ae5 Z.2.2 hl (U2 Z)) (fK ((Z.1.cr (k:=0) (i:=6) rfl).1) (adk Z) (fC Z 102 pB (Cv Z) f0)))))))) (mC (alI Z) (mC (OA Z) m0))).snd)
theorem tc:aF C 6 (.ref 1032) y9:=(c9 Z 104 mI Sy g0 f0 m0).snd
theorem FV:aF C 8 (.ref 1046) qI:=(HY (c9 Z 105 tt Gs g0 (fC Z 104 mI (wj Z.2.2 (tc Z)) (fK ((Z.1.cr (k:=0) (i:=3) rfl).1) (O2 Z) (fK ((Z.1.cr (k:=0) (i:=2) rfl).1) (SX Z) (fK ((Z.1.cr (k:=0) (i:=4) rfl).1) (NN Z) f0)))) (mC (fN (k:=0)) m0)).snd)
theorem UZ:aF C 8 (.ref 1046) y7:=(n7 (FV Z))
theorem RU:aF C 9 (.ref 1053) wI:=(HY (c9 Z 106 zE Gu g0 (fC Z 104 mI (wj Z.2.2 (tc Z)) (fC Z 105 tt (FV Z) f0)) m0).snd)
theorem U0:aF C 9 (.ref 1053) y8:=(n7 (RU Z))
theorem U1:aF C 10 (.ref 1060) ta:=(n7 (HY (c9 Z 107 zF Gv g0 (fC Z 104 mI (wj Z.2.2 (tc Z)) (fK ((Z.1.cr (k:=0) (i:=4) rfl).1) (NN Z) (fB (IY Z) wl (fC Z 106 zE (Z.2.1.law_leaf (U0 Z)) (fC Z 105 tt (Z.2.1.law_item (UZ Z)) f0))))) (mC (UH Z) m0)).snd))
theorem UY:aF C 11 (.ref 1065) mv:=(ae2 Z.2.2 (fun b=>⟨(YF b).1,(YF b).2.1⟩) (n7 (HX (c9 Z 108 zD Gr g0 (fC Z 107 zF (Z.2.1.law_root (U1 Z)) (fC Z 104 mI (wj Z.2.2 (tc Z)) (fK ((Z.1.cr (k:=0) (i:=5) rfl).1) (UW Z) f0))) (mC (fN (k:=0)) m0)).snd)))
theorem WZ:aF C 6 (.ref 1039) rf:=(c9 Z 109 Dm Wo g0 f0 m0).snd
theorem aoc(hl: ∀L c,lT mac L c->lT mac (lab L) c):aF C 23 (.ref 1082) (Zy lab):=(c9 Z 110 aa5 (ans lab) g0 (fC Z 103 qw (KJ Z hl) (fC Z 108 zD (UY Z) (fC Z 109 Dm (WZ Z) (fK ((Z.1.cr (k:=0) (i:=5) rfl).1) (UW Z) (fC Z 102 pB (Cv Z) (fK ((Z.1.cr (k:=0) (i:=4) rfl).1) (NN Z) (fK ((Z.1.cr (k:=0) (i:=3) rfl).1) (O2 Z) f0))))))) (mC (rx (k:=0)) (mC (UH Z) (mC (fN (k:=0)) m0)))).snd
end
noncomputable def ch(a:Nat)(l:List (Nat×Nat×Nat)):List (Nat×Nat×Nat):=(l.drop a).take 4
theorem CA{β:Type}{l:List (Nat×Nat×Nat)}{a:Nat}{f g:Nat×Nat×Nat->β}(h:l.length<=a):(l.drop a).map f=(l.drop a).map g:=by rw[ic h];rfl
theorem bf{β:Type}{l:List (Nat×Nat×Nat)}{a:Nat}{f g:Nat×Nat×Nat->β}(h:(ch a l).map f=(ch a l).map g)(h':(l.drop (a+4)).map f=(l.drop (a+4)).map g):(l.drop a).map f=(l.drop a).map g:=by
 rw[<- n9 4 (l.drop a),bw,bw,p9]
 exact congr (congrArg (· ++ ·) h) h'
theorem Cz{β:Type}{l:List (Nat×Nat×Nat)}{f g:Nat×Nat×Nat->β}(h:(l.drop 0).map f=(l.drop 0).map g){x:Nat×Nat×Nat}(hx:x∈l):f x=g x:=gS.mp h x hx
section
variable(c k p:AV)
def iM(lvl:Nat)(x:Nat×Nat×Nat):Option (List AV):=uV (.frz cq gn (.int (ai lvl)::kh x c k p .none)) (bif am lvl 1 then true else am lvl 77)
def iO(lvl:Nat)(x:Nat×Nat×Nat):Option (List AV):=some (kD lvl x)
theorem am8:(ch 0 i5).map (iM c k p 1)=(ch 0 i5).map (iO 1):=by kernel_rfl
theorem am9:(ch 4 i5).map (iM c k p 1)=(ch 4 i5).map (iO 1):=by kernel_rfl
theorem ana:(ch 8 i5).map (iM c k p 1)=(ch 8 i5).map (iO 1):=by kernel_rfl
theorem akb:(ch 12 i5).map (iM c k p 1)=(ch 12 i5).map (iO 1):=by kernel_rfl
theorem akc:(ch 16 i5).map (iM c k p 1)=(ch 16 i5).map (iO 1):=by kernel_rfl
theorem akd:(ch 20 i5).map (iM c k p 1)=(ch 20 i5).map (iO 1):=by kernel_rfl
theorem ake:(ch 24 i5).map (iM c k p 1)=(ch 24 i5).map (iO 1):=by kernel_rfl
theorem akf:(ch 28 i5).map (iM c k p 1)=(ch 28 i5).map (iO 1):=by kernel_rfl
theorem akg:(ch 32 i5).map (iM c k p 1)=(ch 32 i5).map (iO 1):=by kernel_rfl
theorem akh:(ch 36 i5).map (iM c k p 1)=(ch 36 i5).map (iO 1):=by kernel_rfl
theorem aki:(ch 40 i5).map (iM c k p 1)=(ch 40 i5).map (iO 1):=by kernel_rfl
theorem ard{x:Nat×Nat×Nat}(hx:x∈i5):iM c k p 1 x=iO 1 x:=Cz (bf (am8 c k p) (bf (am9 c k p) (bf (ana c k p) (bf (akb c k p) (bf (akc c k p) (bf (akd c k p) (bf (ake c k p) (bf (akf c k p) (bf (akg c k p) (bf (akh c k p) (bf (aki c k p) (CA (by decide))))))))))))) hx
theorem anb:(ch 0 dK).map (iM c k p 5)=(ch 0 dK).map (iO 5):=by kernel_rfl
theorem anc:(ch 4 dK).map (iM c k p 5)=(ch 4 dK).map (iO 5):=by kernel_rfl
theorem ane:(ch 8 dK).map (iM c k p 5)=(ch 8 dK).map (iO 5):=by kernel_rfl
theorem akj:(ch 12 dK).map (iM c k p 5)=(ch 12 dK).map (iO 5):=by kernel_rfl
theorem akk:(ch 16 dK).map (iM c k p 5)=(ch 16 dK).map (iO 5):=by kernel_rfl
theorem akl:(ch 20 dK).map (iM c k p 5)=(ch 20 dK).map (iO 5):=by kernel_rfl
theorem akm:(ch 24 dK).map (iM c k p 5)=(ch 24 dK).map (iO 5):=by kernel_rfl
theorem akn:(ch 28 dK).map (iM c k p 5)=(ch 28 dK).map (iO 5):=by kernel_rfl
theorem ako:(ch 32 dK).map (iM c k p 5)=(ch 32 dK).map (iO 5):=by kernel_rfl
theorem akp:(ch 36 dK).map (iM c k p 5)=(ch 36 dK).map (iO 5):=by kernel_rfl
theorem akq:(ch 40 dK).map (iM c k p 5)=(ch 40 dK).map (iO 5):=by kernel_rfl
theorem akr:(ch 44 dK).map (iM c k p 5)=(ch 44 dK).map (iO 5):=by kernel_rfl
theorem aks:(ch 48 dK).map (iM c k p 5)=(ch 48 dK).map (iO 5):=by kernel_rfl
theorem akt:(ch 52 dK).map (iM c k p 5)=(ch 52 dK).map (iO 5):=by kernel_rfl
theorem aku:(ch 56 dK).map (iM c k p 5)=(ch 56 dK).map (iO 5):=by kernel_rfl
theorem akv:(ch 60 dK).map (iM c k p 5)=(ch 60 dK).map (iO 5):=by kernel_rfl
theorem akw:(ch 64 dK).map (iM c k p 5)=(ch 64 dK).map (iO 5):=by kernel_rfl
theorem akx:(ch 68 dK).map (iM c k p 5)=(ch 68 dK).map (iO 5):=by kernel_rfl
theorem aky:(ch 72 dK).map (iM c k p 5)=(ch 72 dK).map (iO 5):=by kernel_rfl
theorem akz:(ch 76 dK).map (iM c k p 5)=(ch 76 dK).map (iO 5):=by kernel_rfl
theorem akA:(ch 80 dK).map (iM c k p 5)=(ch 80 dK).map (iO 5):=by kernel_rfl
theorem akB:(ch 84 dK).map (iM c k p 5)=(ch 84 dK).map (iO 5):=by kernel_rfl
theorem akC:(ch 88 dK).map (iM c k p 5)=(ch 88 dK).map (iO 5):=by kernel_rfl
theorem are{x:Nat×Nat×Nat}(hx:x∈dK):iM c k p 5 x=iO 5 x:=Cz (bf (anb c k p) (bf (anc c k p) (bf (ane c k p) (bf (akj c k p) (bf (akk c k p) (bf (akl c k p) (bf (akm c k p) (bf (akn c k p) (bf (ako c k p) (bf (akp c k p) (bf (akq c k p) (bf (akr c k p) (bf (aks c k p) (bf (akt c k p) (bf (aku c k p) (bf (akv c k p) (bf (akw c k p) (bf (akx c k p) (bf (aky c k p) (bf (akz c k p) (bf (akA c k p) (bf (akB c k p) (bf (akC c k p) (CA (by decide))))))))))))))))))))))))) hx
theorem aj8:(ch 0 sC).map (iM c k p 10)=(ch 0 sC).map (iO 10):=by kernel_rfl
theorem aj9:(ch 4 sC).map (iM c k p 10)=(ch 4 sC).map (iO 10):=by kernel_rfl
theorem aka:(ch 8 sC).map (iM c k p 10)=(ch 8 sC).map (iO 10):=by kernel_rfl
theorem apU{x:Nat×Nat×Nat}(hx:x∈sC):iM c k p 10 x=iO 10 x:=Cz (bf (aj8 c k p) (bf (aj9 c k p) (bf (aka c k p) (CA (by decide))))) hx
theorem akD:(ch 0 gK).map (iM c k p 77)=(ch 0 gK).map (iO 77):=by kernel_rfl
theorem akE:(ch 4 gK).map (iM c k p 77)=(ch 4 gK).map (iO 77):=by kernel_rfl
theorem akF:(ch 8 gK).map (iM c k p 77)=(ch 8 gK).map (iO 77):=by kernel_rfl
theorem aeT:(ch 12 gK).map (iM c k p 77)=(ch 12 gK).map (iO 77):=by kernel_rfl
theorem aeU:(ch 16 gK).map (iM c k p 77)=(ch 16 gK).map (iO 77):=by kernel_rfl
theorem aeV:(ch 20 gK).map (iM c k p 77)=(ch 20 gK).map (iO 77):=by kernel_rfl
theorem aeW:(ch 24 gK).map (iM c k p 77)=(ch 24 gK).map (iO 77):=by kernel_rfl
theorem aeX:(ch 28 gK).map (iM c k p 77)=(ch 28 gK).map (iO 77):=by kernel_rfl
theorem aeY:(ch 32 gK).map (iM c k p 77)=(ch 32 gK).map (iO 77):=by kernel_rfl
theorem apV{x:Nat×Nat×Nat}(hx:x∈gK):iM c k p 77 x=iO 77 x:=Cz (bf (akD c k p) (bf (akE c k p) (bf (akF c k p) (bf (aeT c k p) (bf (aeU c k p) (bf (aeV c k p) (bf (aeW c k p) (bf (aeX c k p) (bf (aeY c k p) (CA (by decide))))))))))) hx
end
section
variable(r n:Nat)(cells:List (Nat×bJ))(rest:aa)
def Jp(cd:aa)(f:AV->AV->List AV):Option (AV×AS):=some (.ref (n+2),⟨n+3,(n,.lst cd)::(n+1,.lst [])::(n+2,.inst cq gn (f (.ref n) (.ref (n+1))))::lE r (.orc 1021 rest) cells⟩)
def iK(lvl:Nat)(x:Nat×Nat×Nat):Option (AV×AS):=vX r n cells (lM [.ref 0] ⟨1,[(0,.orc 1021 (kD lvl x++rest))]⟩)
def iL(lvl:Nat)(x:Nat×Nat×Nat):Option (AV×AS):=Jp r n cells rest [] (fun a b=>.int (ai lvl)::kh x a b .none .none)
theorem amP:(ch 0 i5).map (iK r n cells rest 1)=(ch 0 i5).map (iL r n cells rest 1):=by kernel_rfl
theorem amQ:(ch 4 i5).map (iK r n cells rest 1)=(ch 4 i5).map (iL r n cells rest 1):=by kernel_rfl
theorem amR:(ch 8 i5).map (iK r n cells rest 1)=(ch 8 i5).map (iL r n cells rest 1):=by kernel_rfl
theorem aji:(ch 12 i5).map (iK r n cells rest 1)=(ch 12 i5).map (iL r n cells rest 1):=by kernel_rfl
theorem ajj:(ch 16 i5).map (iK r n cells rest 1)=(ch 16 i5).map (iL r n cells rest 1):=by kernel_rfl
theorem ajk:(ch 20 i5).map (iK r n cells rest 1)=(ch 20 i5).map (iL r n cells rest 1):=by kernel_rfl
theorem ajl:(ch 24 i5).map (iK r n cells rest 1)=(ch 24 i5).map (iL r n cells rest 1):=by kernel_rfl
theorem ajm:(ch 28 i5).map (iK r n cells rest 1)=(ch 28 i5).map (iL r n cells rest 1):=by kernel_rfl
theorem ajn:(ch 32 i5).map (iK r n cells rest 1)=(ch 32 i5).map (iL r n cells rest 1):=by kernel_rfl
theorem ajo:(ch 36 i5).map (iK r n cells rest 1)=(ch 36 i5).map (iL r n cells rest 1):=by kernel_rfl
theorem ajp:(ch 40 i5).map (iK r n cells rest 1)=(ch 40 i5).map (iL r n cells rest 1):=by kernel_rfl
theorem aq7{x:Nat×Nat×Nat}(hx:x∈i5):iK r n cells rest 1 x=iL r n cells rest 1 x:=Cz (bf (amP r n cells rest) (bf (amQ r n cells rest) (bf (amR r n cells rest) (bf (aji r n cells rest) (bf (ajj r n cells rest) (bf (ajk r n cells rest) (bf (ajl r n cells rest) (bf (ajm r n cells rest) (bf (ajn r n cells rest) (bf (ajo r n cells rest) (bf (ajp r n cells rest) (CA (by decide))))))))))))) hx
theorem amS:(ch 0 dK).map (iK r n cells rest 5)=(ch 0 dK).map (iL r n cells rest 5):=by kernel_rfl
theorem amT:(ch 4 dK).map (iK r n cells rest 5)=(ch 4 dK).map (iL r n cells rest 5):=by kernel_rfl
theorem amU:(ch 8 dK).map (iK r n cells rest 5)=(ch 8 dK).map (iL r n cells rest 5):=by kernel_rfl
theorem ajq:(ch 12 dK).map (iK r n cells rest 5)=(ch 12 dK).map (iL r n cells rest 5):=by kernel_rfl
theorem ajr:(ch 16 dK).map (iK r n cells rest 5)=(ch 16 dK).map (iL r n cells rest 5):=by kernel_rfl
theorem ajs:(ch 20 dK).map (iK r n cells rest 5)=(ch 20 dK).map (iL r n cells rest 5):=by kernel_rfl
theorem ajt:(ch 24 dK).map (iK r n cells rest 5)=(ch 24 dK).map (iL r n cells rest 5):=by kernel_rfl
theorem aju:(ch 28 dK).map (iK r n cells rest 5)=(ch 28 dK).map (iL r n cells rest 5):=by kernel_rfl
theorem ajv:(ch 32 dK).map (iK r n cells rest 5)=(ch 32 dK).map (iL r n cells rest 5):=by kernel_rfl
theorem ajw:(ch 36 dK).map (iK r n cells rest 5)=(ch 36 dK).map (iL r n cells rest 5):=by kernel_rfl
theorem ajx:(ch 40 dK).map (iK r n cells rest 5)=(ch 40 dK).map (iL r n cells rest 5):=by kernel_rfl
theorem ajy:(ch 44 dK).map (iK r n cells rest 5)=(ch 44 dK).map (iL r n cells rest 5):=by kernel_rfl
theorem ajz:(ch 48 dK).map (iK r n cells rest 5)=(ch 48 dK).map (iL r n cells rest 5):=by kernel_rfl
theorem ajA:(ch 52 dK).map (iK r n cells rest 5)=(ch 52 dK).map (iL r n cells rest 5):=by kernel_rfl
theorem ajB:(ch 56 dK).map (iK r n cells rest 5)=(ch 56 dK).map (iL r n cells rest 5):=by kernel_rfl
theorem ajC:(ch 60 dK).map (iK r n cells rest 5)=(ch 60 dK).map (iL r n cells rest 5):=by kernel_rfl
theorem ajD:(ch 64 dK).map (iK r n cells rest 5)=(ch 64 dK).map (iL r n cells rest 5):=by kernel_rfl
theorem ajE:(ch 68 dK).map (iK r n cells rest 5)=(ch 68 dK).map (iL r n cells rest 5):=by kernel_rfl
theorem ajF:(ch 72 dK).map (iK r n cells rest 5)=(ch 72 dK).map (iL r n cells rest 5):=by kernel_rfl
theorem ajG:(ch 76 dK).map (iK r n cells rest 5)=(ch 76 dK).map (iL r n cells rest 5):=by kernel_rfl
theorem ajH:(ch 80 dK).map (iK r n cells rest 5)=(ch 80 dK).map (iL r n cells rest 5):=by kernel_rfl
theorem ajI:(ch 84 dK).map (iK r n cells rest 5)=(ch 84 dK).map (iL r n cells rest 5):=by kernel_rfl
theorem ajJ:(ch 88 dK).map (iK r n cells rest 5)=(ch 88 dK).map (iL r n cells rest 5):=by kernel_rfl
theorem aq8{x:Nat×Nat×Nat}(hx:x∈dK):iK r n cells rest 5 x=iL r n cells rest 5 x:=Cz (bf (amS r n cells rest) (bf (amT r n cells rest) (bf (amU r n cells rest) (bf (ajq r n cells rest) (bf (ajr r n cells rest) (bf (ajs r n cells rest) (bf (ajt r n cells rest) (bf (aju r n cells rest) (bf (ajv r n cells rest) (bf (ajw r n cells rest) (bf (ajx r n cells rest) (bf (ajy r n cells rest) (bf (ajz r n cells rest) (bf (ajA r n cells rest) (bf (ajB r n cells rest) (bf (ajC r n cells rest) (bf (ajD r n cells rest) (bf (ajE r n cells rest) (bf (ajF r n cells rest) (bf (ajG r n cells rest) (bf (ajH r n cells rest) (bf (ajI r n cells rest) (bf (ajJ r n cells rest) (CA (by decide))))))))))))))))))))))))) hx
theorem ajf:(ch 0 sC).map (iK r n cells rest 10)=(ch 0 sC).map (iL r n cells rest 10):=by kernel_rfl
theorem ajg:(ch 4 sC).map (iK r n cells rest 10)=(ch 4 sC).map (iL r n cells rest 10):=by kernel_rfl
theorem ajh:(ch 8 sC).map (iK r n cells rest 10)=(ch 8 sC).map (iL r n cells rest 10):=by kernel_rfl
theorem apt{x:Nat×Nat×Nat}(hx:x∈sC):iK r n cells rest 10 x=iL r n cells rest 10 x:=Cz (bf (ajf r n cells rest) (bf (ajg r n cells rest) (bf (ajh r n cells rest) (CA (by decide))))) hx
theorem ajK:(ch 0 gK).map (iK r n cells rest 77)=(ch 0 gK).map (iL r n cells rest 77):=by kernel_rfl
theorem ajL:(ch 4 gK).map (iK r n cells rest 77)=(ch 4 gK).map (iL r n cells rest 77):=by kernel_rfl
theorem ajM:(ch 8 gK).map (iK r n cells rest 77)=(ch 8 gK).map (iL r n cells rest 77):=by kernel_rfl
theorem aeF:(ch 12 gK).map (iK r n cells rest 77)=(ch 12 gK).map (iL r n cells rest 77):=by kernel_rfl
theorem aeG:(ch 16 gK).map (iK r n cells rest 77)=(ch 16 gK).map (iL r n cells rest 77):=by kernel_rfl
theorem aeH:(ch 20 gK).map (iK r n cells rest 77)=(ch 20 gK).map (iL r n cells rest 77):=by kernel_rfl
theorem aeI:(ch 24 gK).map (iK r n cells rest 77)=(ch 24 gK).map (iL r n cells rest 77):=by kernel_rfl
theorem aeJ:(ch 28 gK).map (iK r n cells rest 77)=(ch 28 gK).map (iL r n cells rest 77):=by kernel_rfl
theorem aeK:(ch 32 gK).map (iK r n cells rest 77)=(ch 32 gK).map (iL r n cells rest 77):=by kernel_rfl
theorem apu{x:Nat×Nat×Nat}(hx:x∈gK):iK r n cells rest 77 x=iL r n cells rest 77 x:=Cz (bf (ajK r n cells rest) (bf (ajL r n cells rest) (bf (ajM r n cells rest) (bf (aeF r n cells rest) (bf (aeG r n cells rest) (bf (aeH r n cells rest) (bf (aeI r n cells rest) (bf (aeJ r n cells rest) (bf (aeK r n cells rest) (CA (by decide))))))))))) hx
end
def oz(n:Nat):Option (List AV):=bA (z4 [qt n] ⟨0,[]⟩) fun t _=>eg t fun t=>kR t false
theorem nmE{P:Nat->Prop}(h0:P 0)(h1:P 1)(h2:P 2)(h3:P 3)(h4:P 4)(h5:P 5)(h6:P 6)(h7:P 7)(h8:P 8)(h9:P 9)(h10:P 10)(h11:P 11)(h12:P 12)(h13:P 13)(h14:P 14)(h15:P 15)(h16:P 16){n:Nat}(hn:n<17):P n:=by
 rcases n with _|_|_|_|_|_|_|_|_|_|_|_|_|_|_|_|_|n
 all_goals first|assumption|exact absurd hn (b7.mpr (ju 17 n))
section
variable(r n:Nat)(cells:List (Nat×bJ))(rest:aa)
def pF(i:Nat):Option (AV×AS):=vX r n cells (lM [.ref 0] ⟨1,[(0,.orc 1021 (fM i++rest))]⟩)
def pG(i:Nat):Option (AV×AS):=Jp r n cells rest [qt i] (aiM i)
def AD(i l:Nat):Option (AV×AS):=vX r n cells (lM [.ref 0] ⟨1,[(0,.orc 1021 (gH i l++rest))]⟩)
def AE(i l:Nat):Option (AV×AS):=Jp r n cells rest [] (aje i l)
def AG(i l:Nat)(p:AV):Option (List AV):=uV (.frz cq gn (km i l p)) false
theorem aqS:oz 0=some (fM 0):=by kernel_rfl
theorem aqI:pF r n cells rest 0=pG r n cells rest 0:=by kernel_rfl
theorem aqT:oz 1=some (fM 1):=by kernel_rfl
theorem aqJ:pF r n cells rest 1=pG r n cells rest 1:=by kernel_rfl
theorem aqU:oz 2=some (fM 2):=by kernel_rfl
theorem aqK:pF r n cells rest 2=pG r n cells rest 2:=by kernel_rfl
theorem aqV:oz 3=some (fM 3):=by kernel_rfl
theorem aqL:pF r n cells rest 3=pG r n cells rest 3:=by kernel_rfl
theorem aqW:oz 4=some (fM 4):=by kernel_rfl
theorem aqM:pF r n cells rest 4=pG r n cells rest 4:=by kernel_rfl
theorem aqX:oz 5=some (fM 5):=by kernel_rfl
theorem aqN:pF r n cells rest 5=pG r n cells rest 5:=by kernel_rfl
theorem aqY:oz 6=some (fM 6):=by kernel_rfl
theorem aqO:pF r n cells rest 6=pG r n cells rest 6:=by kernel_rfl
theorem aqZ:oz 7=some (fM 7):=by kernel_rfl
theorem aqP:pF r n cells rest 7=pG r n cells rest 7:=by kernel_rfl
theorem aq0:oz 8=some (fM 8):=by kernel_rfl
theorem aqQ:pF r n cells rest 8=pG r n cells rest 8:=by kernel_rfl
theorem aq1:oz 9=some (fM 9):=by kernel_rfl
theorem aqR:pF r n cells rest 9=pG r n cells rest 9:=by kernel_rfl
theorem apb:oz 10=some (fM 10):=by kernel_rfl
theorem ao4:pF r n cells rest 10=pG r n cells rest 10:=by kernel_rfl
theorem apc:oz 11=some (fM 11):=by kernel_rfl
theorem ao5:pF r n cells rest 11=pG r n cells rest 11:=by kernel_rfl
theorem apd:oz 12=some (fM 12):=by kernel_rfl
theorem ao6:pF r n cells rest 12=pG r n cells rest 12:=by kernel_rfl
theorem ape:oz 13=some (fM 13):=by kernel_rfl
theorem ao7:pF r n cells rest 13=pG r n cells rest 13:=by kernel_rfl
theorem apf:oz 14=some (fM 14):=by kernel_rfl
theorem ao8:pF r n cells rest 14=pG r n cells rest 14:=by kernel_rfl
theorem apg:oz 15=some (fM 15):=by kernel_rfl
theorem ao9:pF r n cells rest 15=pG r n cells rest 15:=by kernel_rfl
theorem aph:oz 16=some (fM 16):=by kernel_rfl
theorem apa:pF r n cells rest 16=pG r n cells rest 16:=by kernel_rfl
theorem nmS{i:Nat}(hi:i<17):oz i=some (fM i):=nmE (P:=fun i=>oz i=some (fM i)) aqS aqT aqU aqV aqW aqX aqY aqZ aq0 aq1 apb apc apd ape apf apg aph hi
theorem nmR{i:Nat}(hi:i<17):pF r n cells rest i=pG r n cells rest i:=nmE (P:=fun i=>pF r n cells rest i=pG r n cells rest i) (aqI r n cells rest) (aqJ r n cells rest) (aqK r n cells rest) (aqL r n cells rest) (aqM r n cells rest) (aqN r n cells rest) (aqO r n cells rest) (aqP r n cells rest) (aqQ r n cells rest) (aqR r n cells rest) (ao4 r n cells rest) (ao5 r n cells rest) (ao6 r n cells rest) (ao7 r n cells rest) (ao8 r n cells rest) (ao9 r n cells rest) (apa r n cells rest) hi
theorem apF(p:AV):AG 17 0 p=some (gH 17 0):=by kernel_rfl
theorem apv:AD r n cells rest 17 0=AE r n cells rest 17 0:=by kernel_rfl
theorem apG(l:Nat)(p:AV):AG 17 (l+1) p=some (gH 17 (l+1)):=by kernel_rfl
theorem apw(l:Nat):AD r n cells rest 17 (l+1)=AE r n cells rest 17 (l+1):=by kernel_rfl
theorem apH(p:AV):AG 18 0 p=some (gH 18 0):=by kernel_rfl
theorem apx:AD r n cells rest 18 0=AE r n cells rest 18 0:=by kernel_rfl
theorem apI(l:Nat)(p:AV):AG 18 (l+1) p=some (gH 18 (l+1)):=by kernel_rfl
theorem apy(l:Nat):AD r n cells rest 18 (l+1)=AE r n cells rest 18 (l+1):=by kernel_rfl
theorem apJ(p:AV):AG 19 0 p=some (gH 19 0):=by kernel_rfl
theorem apz:AD r n cells rest 19 0=AE r n cells rest 19 0:=by kernel_rfl
theorem apK(l:Nat)(p:AV):AG 19 (l+1) p=some (gH 19 (l+1)):=by kernel_rfl
theorem apA(l:Nat):AD r n cells rest 19 (l+1)=AE r n cells rest 19 (l+1):=by kernel_rfl
theorem apL(p:AV):AG 20 0 p=some (gH 20 0):=by kernel_rfl
theorem apB:AD r n cells rest 20 0=AE r n cells rest 20 0:=by kernel_rfl
theorem apM(l:Nat)(p:AV):AG 20 (l+1) p=some (gH 20 (l+1)):=by kernel_rfl
theorem apC(l:Nat):AD r n cells rest 20 (l+1)=AE r n cells rest 20 (l+1):=by kernel_rfl
theorem apN(p:AV):AG 21 0 p=some (gH 21 0):=by kernel_rfl
theorem apD:AD r n cells rest 21 0=AE r n cells rest 21 0:=by kernel_rfl
theorem apO(l:Nat)(p:AV):AG 21 (l+1) p=some (gH 21 (l+1)):=by kernel_rfl
theorem apE(l:Nat):AD r n cells rest 21 (l+1)=AE r n cells rest 21 (l+1):=by kernel_rfl
theorem rnE{P:Nat->Nat->Prop}(h0:P 0 0)(k0: ∀l,P 0 (l+1))(h1:P 1 0)(k1: ∀l,P 1 (l+1))(h2:P 2 0)(k2: ∀l,P 2 (l+1))(h3:P 3 0)(k3: ∀l,P 3 (l+1))(h4:P 4 0)(k4: ∀l,P 4 (l+1)){i:Nat}(hi:i<5)(l:Nat):P i l:=by
 rcases i with _|_|_|_|_|i
 all_goals first|(cases l<;>first|assumption|(first|exact k0 _|exact k1 _|exact k2 _|exact k3 _|exact k4 _))|exact absurd hi (b7.mpr (ju 5 i))
theorem rnS{i:Nat}(hi:i<5)(l:Nat)(p:AV):AG (17+i) l p=some (gH (17+i) l):=rnE (P:=fun i l=>AG (17+i) l p=some (gH (17+i) l)) (apF p) (fun l=>apG l p) (apH p) (fun l=>apI l p) (apJ p) (fun l=>apK l p) (apL p) (fun l=>apM l p) (apN p) (fun l=>apO l p) hi l
theorem rnR{i:Nat}(hi:i<5)(l:Nat):AD r n cells rest (17+i) l=AE r n cells rest (17+i) l:=rnE (P:=fun i l=>AD r n cells rest (17+i) l=AE r n cells rest (17+i) l) (apv r n cells rest) (fun l=>apw r n cells rest l) (apx r n cells rest) (fun l=>apy r n cells rest l) (apz r n cells rest) (fun l=>apA r n cells rest l) (apB r n cells rest) (fun l=>apC r n cells rest l) (apD r n cells rest) (fun l=>apE r n cells rest l) hi l
end
noncomputable def bad:List AV:=[.ref 0]
def rr(lvl:Nat):Bool:=uB lvl [1,5,10,77]
def itM(lvl i:Nat):List AV:=bif rr lvl then kD lvl (kd lvl i)else bad
def nmM(lv i:Nat):List AV:=bif bc (kd lv i).1 17 then fM (kd lv i).1 else bad
def rnM(i l:Nat):List AV:=bif bc (kd 1 i).1 5 then gH (17+(kd 1 i).1) l else bad
def wa(m x y:Nat):List AV:=bif am m 1 then itM x y else bif am m 2 then nmM x y else bif am m 3 then rnM x y else bad
def iG(ks:ac):List AV:=(Lz ks fun m x y=>some (wa m x y)).getD bad
noncomputable def YA(r:Rt):Bool:=bif am r.lvl 1 then cJ r.ts.length 2 else am r.lvl 77&&(r.ts.isEmpty&&am r.ren 0)
def okC(code:ac):Bool:=(rk code fun lv _=>some (am (Bo code).lvl lv)).getD false&&YA (Bo code)
def Sj(code:ac):List AV:=bif okC code then xp iG (F3 (Bo code))else bad
def mac(ks:ac):List AV:=bt (motive:=fun _=>List AV) [] (fun m r _=>bif am m 4 then Sj r else iG ks) ks
theorem lvE{P:Nat->Prop}{x:Nat}(h:rr x=true)(h1:P 1)(h5:P 5)(h10:P 10)(h77:P 77):P x:=by
 have q: ∀{y:Nat},am x y=true->y=x:=fun h=>(aD h).symm
 have h:uB x [1,5,10,77]=true:=h
 rw[Jo,Jo,Jo,Jo,show uB x []=false from rfl,Bool.or_false]at h
 exact rE h (fun h=>q h▸h1) fun h=>rE h (fun h=>q h▸h5) fun h=>rE h (fun h=>q h▸h10) fun h=>q h▸h77
theorem Yv{α:Type}{l:List α}: ∀{i:Nat} {x:α},HH l i=some x->x∈l:=by
 induction l with
 |nil=>exact fun h=>nn h
 |cons a l ih=>
  intro i x h
  cases i with
  |zero=>exact s1 (P:=fun x=>x∈a::l) h (bg ..)
  |succ i=>exact aQ _ (ih h)
theorem Vz(lvl i:Nat):kd lvl i∈kT lvl:=by
 unfold kd
 cases h:HH (kT lvl) i with
 |some x=>exact Yv h
 |none=>
  have: ∃x,HH (kT lvl) 0=some x:=by
   unfold kT
   cases am lvl 1
   ·cases am lvl 5
    ·cases am lvl 10<;>exact⟨_,rfl⟩
    ·exact⟨_,rfl⟩
   ·exact⟨_,rfl⟩
  obtain⟨x,hx⟩:=this
  rw[hx];exact Yv hx
theorem Jy{a:AV}{l:aa}:dk (a::l)=((mZ a fun c _ _=>some (!am c 0)).getD false&&dk l):=rfl
theorem lB{l m:aa}:dk (l++m)=(dk l&&dk m):=oL
theorem EQ{a:Bool}{l:List (List Nat×List Nat×Nat)}: ∀{c:Nat} {a:Bool},dk (wO a c l)=true:=by
 induction l with
 |nil=>exact rfl
 |cons x l ih=>exact fun{c a}=>show(true&&dk (wO false (c+x.2.2) l))=true from ih
theorem acE{a:AV}(h:(mZ a fun c _ _=>some (!am c 0)).getD false=true)(mac:List Nat->List AV)(r:aa):xp mac (a::r)=a::xp mac r/\H3 a=false:=VT (Q:=fun a=>xp mac (a::r)=a::xp mac r/\H3 a=false) h fun c ks vs h=>⟨by rw[E0,h];rfl,show(am c 0&&CT ks)=false by rw[h];rfl⟩
theorem EZ{mac:List Nat->List AV}{l m:aa}:dk l=true->xp mac (l++m)=l++xp mac m/\(vp mac m->vp mac (l++m)):=by
 induction l with
 |nil=>exact fun _=>⟨rfl,id⟩
 |cons a l ih=>exact fun h=>aE (Jy▸h) fun h1 h2=>⟨((acE h1 mac (l++m)).1).trans (congrArg (a:: ·) (ih h2).1),fun w=>⟨fun z=>ff ((acE h1 mac []).2.symm.trans z),(ih h2).2 w⟩⟩
theorem zx{P:Prop}(h:aN bad=true):P:=ff h
theorem aaH{m x y:Nat}{P:Prop}(h:aN (wa m x y)=true)(k1:m=1->rr x=true->wa m x y=kD x (kd x y)->P)(k2:m=2->(kd x y).1<17->wa m x y=fM (kd x y).1->P)(k3:m=3->(kd 1 x).1<5->wa m x y=gH (17+(kd 1 x).1) y->P):P:=by
 unfold wa at h k1 k2 k3
 cases q:am m 1 with
 |true=>
  rw[q]at h k1
  unfold itM at h k1
  cases z:rr x with
  |true=>rw[z]at k1;exact k1 (aD q) rfl rfl
  |false=>rw[z]at h;exact zx h
 |false=>
  rw[q]at h k2 k3
  cases q:am m 2 with
  |true=>
   rw[q]at h k2
   unfold nmM at h k2
   cases z:bc (kd x y).1 17 with
   |true=>rw[z]at k2;exact k2 (aD q) (cC.mp z) rfl
   |false=>rw[z]at h;exact zx h
  |false=>
   rw[q]at h k3
   cases q:am m 3 with
   |true=>
    rw[q]at h k3
    unfold rnM at h k3
    cases z:bc (kd 1 x).1 5 with
    |true=>rw[z]at k3;exact k3 (aD q) (cC.mp z) rfl
    |false=>rw[z]at h;exact zx h
   |false=>rw[q]at h;exact zx h
theorem Tw{lvl:Nat}{x:Nat×Nat×Nat}:dk (kD lvl x)=true:=EQ (a:=false)
theorem aiG{m x y:Nat}(h:aN (wa m x y)=true):dk (wa m x y)=true:=aaH h (fun _ _ e=>e▸Tw) (fun _ _ e=>e▸EQ (a:=false)) fun _ _ e=>e▸EQ (a:=false)
theorem Ye{ks:ac}(h:aN (iG ks)=true):dk (iG ks)=true:=by
 unfold iG at h ⊢
 cases e:Lz ks fun m x y=>some (wa m x y)with
 |none=>rw[e]at h;exact zx h
 |some l=>
  rw[e]at h
  exact kP (Q:=fun _=>dk l=true) e fun m ks e=>kP (Q:=fun _=>dk l=true) e fun x ks e=>kP (Q:=fun _=>dk l=true) e fun y ks e=>kS e fun _ e=>s1 (P:=fun l=>aN l=true->dk l=true) e aiG h
noncomputable def rW(l:List (List Nat)):List AV:=l.map fun ks=>.frz 0 ks []
theorem zS{f:List Nat->List AV}{l:List (List Nat)}{m:aa}:xp f (rW l++m)=xp f (rW l)++xp f m:=by
 induction l with
 |nil=>rfl
 |cons a l ih=>exact(congrArg (f a++ ·) ih).trans (aB ..).symm
theorem abE{l:List (List Nat)}(h:aN (xp iG (rW l))=true):dk (xp iG (rW l))=true:=by
 induction l with
 |nil=>rfl
 |cons a l ih=>
  have h:aN (iG a++xp iG (rW l))=true:=h
  rw[b9]at h
  show dk (iG a++xp iG (rW l))=true
  rw[lB]
  exact aE h fun h1 h2=>by rw[Ye h1,ih h2];rfl
theorem tC{mac:List Nat->List AV}{l l':aa}{c:bJ}(h:lT mac l c)(he:xp mac l'=xp mac l)(hw:vp mac l->vp mac l'):lT mac l' c:=by
 obtain⟨w,pre,h⟩:=h
 exact⟨hw w,pre,he.symm▸h⟩
theorem adz{mac:List Nat->List AV}{l l':aa}{c:bJ}(h:lT mac l c)(he:xp mac l=l'++xp mac m):aN l'=true:=by
 obtain⟨w,pre,_,_,h,_⟩:=h
 rw[he,b9]at h
 exact aE h fun h _=>h
theorem ZW{mac:List Nat->List AV}(hm: ∀ks,aN (mac ks)=true->dk (mac ks)=true){ks:ac}{vs l:aa}{c:bJ}(h:lT mac (.frz 0 ks vs::l) c):aN (mac ks)=true/\lT mac (mac ks++l) c:=
 have hn:aN (mac ks)=true:=adz (m:=l) h rfl
 have hp:=EZ (mac:=mac) (m:=l) (hm ks hn)
 ⟨hn,tC h hp.1 fun w=>hp.2 w.2⟩
theorem TL{m:Nat}{r:ac}:mac (m::r)=bif am m 4 then Sj r else iG (m::r):=rfl
noncomputable def Hq(lvl:Nat)(l:Lf):List (List Nat):=[1,lvl,l.i]::(bif l.c then[[2,lvl,l.i]]else[])
noncomputable def acf(t:Tn):List (List Nat):=match t with
 | .leaf l=>Hq 5 l
 | .grp g a=>Hq 5 g++Hq 10 a
 | .grp2 g a b=>Hq 5 g++(Hq 10 a++Hq 10 b)
def acg(ts:List Tn):List (List Nat):=bt (motive:=fun _=>List (List Nat)) [] (fun t _ ih=>acf t++ih) ts
noncomputable def enN(i n:Nat):List (List Nat):=hY (motive:=fun _=>List (List Nat)) [] (fun l _=>[[3,i,l]]) n
def agM(r:Rt):List (List Nat):=Hq r.lvl r.it++(acg r.ts++enN r.it.i r.ren)
theorem kQ{l m:List (List Nat)}:rW (l++m)=rW l++rW m:=bw
theorem um(lvl:Nat)(l:Lf):CH lvl l=rW (Hq lvl l):=by
 obtain⟨i,c⟩:=l
 cases c<;>rfl
theorem agQ(t:Tn):agP t=rW (acf t):=by
 cases t with
 |leaf l=>exact um 5 l
 |grp g a=>exact(congr (congrArg _ (um 5 g)) (um 10 a)).trans kQ.symm
 |grp2 g a b=>exact(congr (congrArg _ (um 5 g)) ((congr (congrArg _ (um 10 a)) (um 10 b)).trans kQ.symm)).trans kQ.symm
theorem adH(ts:List Tn):Vm ts=rW (acg ts):=by
 induction ts with
 |nil=>rfl
 |cons t ts ih=>exact(congr (congrArg _ (agQ t)) ih).trans kQ.symm
theorem NW(r:Rt):F3 r=rW (agM r):=by
 have h:agO r=rW (enN r.it.i r.ren):=by
  obtain⟨lv,it,ts,n⟩:=r
  cases n<;>rfl
 exact(congr (congrArg _ (um _ _)) ((congr (congrArg _ (adH _)) h).trans kQ.symm)).trans kQ.symm
theorem VG: ∀ks,aN (mac ks)=true->dk (mac ks)=true:=by
 intro ks h
 cases ks with
 |nil=>rfl
 |cons m r=>
  rw[TL]at h ⊢
  cases q:am m 4 with
  |true=>
   rw[q]at h
   have h:aN (Sj r)=true:=h
   show dk (Sj r)=true
   unfold Sj at h ⊢
   cases z:okC r with
   |true=>
    rw[z]at h
    have h:aN (xp iG (F3 (Bo r)))=true:=h
    show dk (xp iG (F3 (Bo r)))=true
    rw[NW]at h ⊢
    exact abE h
   |false=>rw[z]at h;exact zx h
  |false=>rw[q]at h;exact Ye h
section
variable{C:PC}{kF:Nat}{f:ah}(R:qj C mac bx VB)
include R
theorem xS{ks:ac}{vs l:aa}{c:bJ}(h:C.conc 1021 (.frz 0 ks vs::l) c):aN (mac ks)=true/\C.conc 1021 (mac ks++l) c:=
 (ZW VG ((R.rdr _ _).mp h)).imp id (R.rdr _ _).mpr
end
theorem aim{σ:AS}{r:Nat}{C8 L:aa}{PI:aW}(hr:σ.get r=some (.orc 1021 C8)):ux wQ PI [.ref r] (σ.set r (.orc 1021 L))=vX r σ.next (lE r (.orc 1021 L) σ.cells) (PI [.ref 0] ⟨1,[(0,.orc 1021 L)]⟩):=by
 show ob ((σ.set r (.orc 1021 L)).get r) _=_
 rw[eE hr];rfl
theorem Lb{r n:Nat}{cells:List (Nat×bJ)}{c:bJ}{l cd:aa}{f:AV->AV->List AV}:Jp r n (lE r c cells) l cd f=Jp r n cells l cd f:=by
 unfold Jp;rw[oB]
@[elab_as_elim] theorem aaI {β:Type} {t:AV} {f:List Nat->Option β} {x:β} {Q:AV->Prop} (e:acB t f=some x) (kk: ∀ks vs,f ks=some x->Q (.frz 0 ks vs)):Q t:=
 td e fun c ks vs e=>kS e fun q e=>by rw[aD q];exact kk ks vs e
@[elab_as_elim] theorem Wi {β:Type} {ks:ac} {f:Nat->Nat->Nat->Option β} {x:β} {Q:List Nat->Prop} (e:Lz ks f=some x) (kk: ∀a b c,f a b c=some x->Q [a,b,c]):Q ks:=
 kP e fun a r e=>kP (Q:=fun r=>Q (a::r)) e fun b r e=>kP (Q:=fun r=>Q (a::b::r)) e fun c r e=>kS e fun z e=>by rw[Qi z];exact kk a b c e
theorem aeL{σ:AS}{r:Nat}{C8 l:aa}{m x y:Nat}(hr:σ.get r=some (.orc 1021 C8))(h:aN (wa m x y)=true):qL [.ref r] (σ.set r (.orc 1021 (wa m x y++l)))=ajO σ r l m x y:=by
 refine(aim hr).trans ?_
 refine aaH h (fun h1 h2 e=> ?_) (fun h1 h2 e=> ?_) fun h1 h2 e=> ?_
 ·rw[e,h1]
  show _=Jp r σ.next σ.cells l [] (fun a b=>X3 x y a b .none)
  refine yN ?_ (Lb (c:=.orc 1021 (kD x (kd x y)++l)))
  exact lvE (P:=fun x=>kd x y∈kT x->iK r σ.next _ l x (kd x y)=iL r σ.next _ l x (kd x y)) h2 (fun h=>aq7 _ _ _ _ h) (fun h=>aq8 _ _ _ _ h) (fun h=>apt _ _ _ _ h) (fun h=>apu _ _ _ _ h) (Vz x y)
 ·rw[e,h1]
  show _=Jp r σ.next σ.cells l [qt (kd x y).1] (aiM (kd x y).1)
  exact(nmR _ _ _ _ h2).trans Lb
 ·rw[e,h1]
  show _=Jp r σ.next σ.cells l [] (aje (17+(kd 1 x).1) y)
  exact(rnR _ _ _ _ h2 y).trans Lb
theorem Qw{m x y:Nat}(h:am m 4=false):mac [m,x,y]=wa m x y:=by rw[TL,h];rfl
theorem RI{C:PC}{kF:Nat}{f:ah}(R:qj C mac bx VB)(hF:aF C kF f qL):aF C kF f wD:=pI hF fun args σ a aj e=>n6 e fun r as L hr e=>Aw e fun e=>by
 revert hr
 refine kP e fun t l e=> ?_
 refine aaI e fun ks vs e=> ?_
 refine Wi e fun m x y e hr=> ?_
 have h4:am m 4=false:=by
  cases z:am m 4 with
  |false=>rfl
  |true=>rw[aD z]at e;exact nn e
 refine⟨r,1021,_,hr,fun hc _=>⟨mac [m,x,y]++l,fun c h=>(xS R h).2,?_⟩⟩
 obtain⟨c,hc⟩:=hc
 have h:=(xS R hc).1
 rw[Qw h4]at h ⊢
 exact(aeL hr h).trans e
section
variable{σ:AS}{r:Nat}{l:aa}
theorem aaX(hr:σ.get r=some (.orc 1021 l)){F:aW}:fx du F gU (.ref r) σ=some F:=jn (show F0 (.ref r) σ=some 1021 from jn hr)
theorem YL(hr:σ.get r=some (.orc 1021 l)){o:Option AV}(h:jN l 0=some o):IC [.ref r] σ=some (o.getD .none,σ):=by
 have h1:rd σ r=some l:=jn hr
 have h2:IC [.ref r] σ=ob (jN l 0) fun o=>some (od o some (some .none)|>.getD .none,σ):=jn h1
 rw[h2,h,cg,VO]
theorem acq(hr:σ.get r=some (.orc 1021 l))(h:jN l 0=some none):j0 [.ref r] σ=some (.bool false,σ):=by
 have hp:=YL hr h
 show ob (j5 [.ref r] σ) ib=_
 simp only[j5,y6,dm,fO,eP,bm,kO,pf,fy,ae,aX,cg,aaX hr,ct,hp,tP,dF,sF,sG,putN,eu,ED,wP,fH,alk,d7,Jg,Ts,eL,iV,dI,gF]
theorem acr(hr:σ.get r=some (.orc 1021 l)){t:AV}{w:ac}(h:jN l 0=some (some t))(h2:pJ 2 t=some (.str w)):j0 [.ref r] σ=some (.bool (dp w pY),σ):=by
 have hp:=YL hr h
 show ob (j5 [.ref r] σ) ib=_
 simp only[j5,y6,dm,fO,eP,bm,kO,pf,fy,ae,aX,cg,aaX hr,ct,hp,nR,dF,sF,sG,putN,eu,ED,wP,fH,(kb (σ:=σ) h2).2.2,d7,Jg,(kb (σ:=σ) h2).2.1,fD,iV,af,gq,(kb (σ:=σ) h2).1,aab,dI,gF]
 rfl
end
noncomputable def rq(l:aa):Bool:=l.all fun a=>(mZ a fun c _ _=>some (!am c 0)).getD true
theorem aiN{l:aa}:dk l=true->rq l=true:=by
 induction l with
 |nil=>exact fun _=>rfl
 |cons a l ih=>
  refine fun h=>aE (Jy▸h) fun h1 h2=>VT (Q:=fun a=>rq (a::l)=true) h1 fun c ks vs h=> ?_
  show(!am c 0&&rq l)=true
  rw[h,ih h2];rfl
theorem aew{l m:aa}:rq (l++m)=(rq l&&rq m):=oL
theorem Rl{mac:List Nat->List AV}{l:aa}:rq l=true->xp mac l=l/\vp mac l:=by
 induction l with
 |nil=>exact fun _=>⟨rfl,trivial⟩
 |cons a l ih=>
  refine fun h=>aE (show((mZ a fun c _ _=>some (!am c 0)).getD true&&rq l)=true from h) fun h1 h2=> ?_
  obtain⟨i1,i2⟩:=ih h2
  by_cases q: ∃c ks vs,a= .frz c ks vs
  ·obtain⟨c,ks,vs,rfl⟩:=q
   have h1:am c 0=false:=pq h1
   refine⟨by rw[E0,h1,i1];rfl,fun z=> ?_,i2⟩
   have z:(am c 0&&CT ks)=true:=z
   rw[h1]at z;exact ff z
  ·have:xp mac (a::l)=a::xp mac l/\H3 a=false:=by
    cases a<;>first|exact⟨rfl,rfl⟩|exact absurd ⟨_,_,_,rfl⟩ q
   exact⟨this.1.trans (congrArg (a:: ·) i1),fun z=>ff (this.2.symm.trans z),i2⟩
theorem aiO{l:aa}:aN (xp mac l)=true->rq (xp mac l)=true:=by
 induction l with
 |nil=>exact fun _=>rfl
 |cons a l ih=>
  intro h
  by_cases q: ∃c ks vs,a= .frz c ks vs
  ·obtain⟨c,ks,vs,rfl⟩:=q
   rw[E0]at h ⊢
   cases z:am c 0 with
   |true=>
    rw[z]at h
    have h:aN (mac ks++xp mac l)=true:=h
    show rq (mac ks++xp mac l)=true
    rw[b9]at h
    rw[aew]
    exact aE h fun h1 h2=>by rw[aiN (VG ks h1),ih h2];rfl
   |false=>
    rw[z]at h
    have h:(noRef (.frz c ks vs)&&aN (xp mac l))=true:=h
    show(!am c 0&&rq (xp mac l))=true
    rw[z]
    exact aE h fun _ h2=>ih h2
  ·have:xp mac (a::l)=a::xp mac l/\rq (a::xp mac l)=rq (xp mac l):=by
    cases a<;>first|exact⟨rfl,rfl⟩|exact absurd ⟨_,_,_,rfl⟩ q
   rw[this.1]at h ⊢
   exact this.2.trans (aE (show(noRef a&&aN (xp mac l))=true from h) fun _ h2=>ih h2)
theorem VI{l:aa}(h:EN l=true)(hm:rq l=true):jN l 0=some none\/ ∃t w,jN l 0=some (some t)/\pJ 2 t=some (.str w)/\dp w pY=false:=by
 cases l with
 |nil=>exact .inl rfl
 |cons t l=>
  have h:(ob (pJ 2 t) fun v=>eg v fun w=>some (!dp w pY)).getD false=true:=h
  generalize e:ob (pJ 2 t) _=o at h
  cases o with
  |none=>exact ff h
  |some b=>
   refine oE e fun v hv e=> ?_
   revert hv
   refine fh e fun w e hv=> ?_
   have hw:dp w pY=false:=pq ((aI e).trans h)
   refine .inr ⟨t,w,?_,hv,hw⟩
   refine td (Q:=fun t=>rq (t::l)=true->jN (t::l) 0=some (some t)) hv (fun c ks vs _ hm=> ?_) hm
   have hc:am c 0=false:=aE (show(!am c 0&&rq l)=true from hm) fun h _=>pq h
   show(bif am c 0 then _ else _)=_
   rw[hc];rfl
theorem aeu{m x y:Nat}(h:aN (wa m x y)=true)(l:aa): ∃t,jN (wa m x y++l) 0=some (some t)/\pJ 2 t=some (.str pY):=aaH h (fun _ _ e=>e▸⟨_,rfl,rfl⟩) (fun _ _ e=>e▸⟨_,rfl,rfl⟩) fun _ _ e=>e▸⟨_,rfl,rfl⟩
section
variable{C:PC}{kF:Nat}{f:ah}(R:qj C mac bx VB)
include R
theorem S9{l:aa}{c:bJ}(h:C.conc 1021 l c):rq (xp mac l)=true/\C.conc 1021 (xp mac l) c:=by
 have h:=(R.rdr _ _).mp h
 have hn:aN (xp mac l)=true:=by obtain⟨_,_,_,_,h,_⟩:=h;exact h
 have hm:=aiO hn
 exact⟨hm,(R.rdr _ _).mpr (tC h (Rl hm).1 fun _=>(Rl hm).2)⟩
omit R in
theorem Gg{F F':aW}(hF:aF C kF f F)(H: ∀args σ a aj,F' args σ=some (a,aj)-> ∃r kk l,σ.get r=some (.orc kk l)/\((∃c,C.conc kk l c)-> ∃bD dR hH,(∀c,C.conc kk l c->C.conc kk bD c)/\F args (σ.set r (.orc kk bD))=some (a,σ.set r (.orc kk dR))/\(∀c,C.conc kk dR c->C.conc kk hH c)/\aj=σ.set r (.orc kk hH))):aF C kF f F':=fun A Rm W σ s args vs Re hv tk a aj e=>by
 refine XF (H args σ a aj e) fun r kk l hr h1=> ?_
 obtain⟨p,a1,⟨c,q1,q2⟩,_⟩:=Re.cell r _ hr
 refine XH (h1 ⟨c,q1⟩) fun bD dR hH h1 e1 h2 h3=> ?_
 have hc:d6 C W s.heap p (.orc kk bD):=⟨c,h1 c q1,q2⟩
 refine eK (hF A Rm W _ s args vs (Re.set hr a1 (fun _ _ _ e=>e) hc) hv tk a _ e1) fun v s' ⟨hs,W',le,R',hv'⟩=>⟨hs,W',le,?_,hv'⟩
 have e2:(σ.set r (.orc kk dR)).get r=some (.orc kk dR):=eE hr
 obtain⟨p,a1,⟨c,q1,q2⟩,_⟩:=R'.cell r _ e2
 have hc:d6 C W' s'.heap p (.orc kk hH):=⟨c,h2 c q1,q2⟩
 have R3:=R'.set e2 a1 (fun _ _ _ e=>e) hc
 rw[h3,show σ.set r (.orc kk hH)=(σ.set r (.orc kk dR)).set r (.orc kk hH) from congrArg (AS.mk σ.next) (oB ..).symm]
 exact R3
theorem Qs{F:aW}{r:Nat}{σ aj:AS}{a b:AV}{l bD:aa}(hr:σ.get r=some (.orc 1021 l))(e:some (b,σ)=some (a,aj))(h: ∀c,C.conc 1021 l c->C.conc 1021 bD c)(he:xp mac bD=xp mac l)(hc: ∃c,C.conc 1021 l c)(hF:F [.ref r] (σ.set r (.orc 1021 bD))=some (b,σ.set r (.orc 1021 bD))):
  ∃bD dR hH,(∀c,C.conc 1021 l c->C.conc 1021 bD c)/\F [.ref r] (σ.set r (.orc 1021 bD))=some (a,σ.set r (.orc 1021 dR))/\(∀c,C.conc 1021 dR c->C.conc 1021 hH c)/\aj=σ.set r (.orc 1021 hH):=by
 apply s2 e
 obtain⟨c,hc⟩:=hc
 exact⟨bD,bD,l,h,hF,fun c h=>(R.rdr _ _).mpr (tC ((R.rdr _ _).mp h) he.symm fun _=>((R.rdr _ _).mp hc).1),(EV hr).symm⟩
theorem Kv(hF:aF C kF f j0):aF C kF f qe:=Gg hF fun args σ a aj e=>n6 e fun r as L hr e=>Aw e fun e=>⟨r,1021,L,hr,fun hc=>by
 cases L with
 |nil=>exact Qs R hr e (fun _ h=>h) rfl hc (acq (eE hr) rfl)
 |cons t l=>
  revert hr hc
  refine aaI e fun ks vs e=> ?_
  intro hr hc
  obtain⟨c,hc'⟩:=hc
  refine bE e (fun z e=> ?_) fun z e=> ?_
  ·have hz:=Qi z
   subst hz
   obtain⟨hm,_⟩:=S9 R hc'
   have hx:xp mac (xp mac (.frz 0 [] vs::l))=xp mac (.frz 0 [] vs::l):=(Rl hm).1
   have hn:EN (xp mac (.frz 0 [] vs::l))=true:=((R.rdr _ _).mp hc').1.1 rfl
   refine Qs R hr e (fun c h=>(S9 R h).2) hx ⟨c,hc'⟩ ?_
   rcases VI hn hm with h|⟨t,w,h1,h2,h3⟩
   ·exact acq (eE hr) h
   ·rw[<- h3];exact acr (eE hr) h1 h2
  ·revert hr hc'
   refine Wi e fun m x y e=>kS e fun z e hr hc'=> ?_
   have h4:am m 4=false:=by
    cases q:am m 4 with
    |false=>rfl
    |true=>rw[aD q]at z;exact ff z
   obtain⟨h1,h2⟩:=xS R hc'
   have hx:xp mac (mac [m,x,y]++l)=xp mac (.frz 0 [m,x,y] vs::l):=(EZ (VG _ h1)).1
   refine Qs R hr e (fun c h=>(xS R h).2) hx ⟨c,hc'⟩ ?_
   rw[Qw h4]at h1 ⊢
   refine fg (aeu h1 l) fun t h3 h4=> ?_
   exact acr (eE hr) h3 h4⟩
end
def eF(lv i0:Nat)(c:Bool)(n:Nat)(l:aa)(ts:List Tn):Option (AV×Nat×List AV):=bA (xy [.ref 0] ⟨1,[(0,.orc 1021 (F3 ⟨lv,⟨i0,c⟩,ts,n⟩++Y3::l))]⟩) fun a σ=>sE σ 0 fun k l'=>some (a,k,l')
def eG(lv i0:Nat)(c:Bool)(n:Nat)(l:aa)(ts:List Tn):Option (AV×Nat×List AV):=some (.lst [eo ⟨lv,⟨i0,c⟩,ts,n⟩],1021,Y3::l)
noncomputable def S14(i j k:Nat):List Tn:=[.leaf ⟨i,false⟩,.leaf ⟨i,true⟩,.grp ⟨i,false⟩ ⟨j,false⟩,.grp ⟨i,false⟩ ⟨j,true⟩,.grp ⟨i,true⟩ ⟨j,false⟩,.grp ⟨i,true⟩ ⟨j,true⟩,.grp2 ⟨i,false⟩ ⟨j,false⟩ ⟨k,false⟩,.grp2 ⟨i,false⟩ ⟨j,false⟩ ⟨k,true⟩,.grp2 ⟨i,false⟩ ⟨j,true⟩ ⟨k,false⟩,.grp2 ⟨i,false⟩ ⟨j,true⟩ ⟨k,true⟩,.grp2 ⟨i,true⟩ ⟨j,false⟩ ⟨k,false⟩,.grp2 ⟨i,true⟩ ⟨j,false⟩ ⟨k,true⟩,.grp2 ⟨i,true⟩ ⟨j,true⟩ ⟨k,false⟩,.grp2 ⟨i,true⟩ ⟨j,true⟩ ⟨k,true⟩]
def SF(i0:Nat)(c:Bool)(n:Nat)(l:aa)(i j k:Nat)(p:Tn->List Tn):Prop:=(S14 i j k).map (fun t=>eF 1 i0 c n l (p t))=(S14 i j k).map (fun t=>eG 1 i0 c n l (p t))
section
variable(i0 e:Nat)(l:aa)(a b d i j k:Nat)
theorem aow:eF 1 i0 false 0 l []=eG 1 i0 false 0 l []:=by kernel_rfl
theorem aoA:SF i0 false 0 l i j k (fun t=>[t]):=by unfold SF;kernel_rfl
theorem agY:SF i0 false 0 l i j k (fun t=>[.leaf ⟨a,false⟩,t]):=by unfold SF;kernel_rfl
theorem agZ:SF i0 false 0 l i j k (fun t=>[.leaf ⟨a,true⟩,t]):=by unfold SF;kernel_rfl
theorem ag0:SF i0 false 0 l i j k (fun t=>[.grp ⟨a,false⟩ ⟨b,false⟩,t]):=by unfold SF;kernel_rfl
theorem ag1:SF i0 false 0 l i j k (fun t=>[.grp ⟨a,false⟩ ⟨b,true⟩,t]):=by unfold SF;kernel_rfl
theorem ag2:SF i0 false 0 l i j k (fun t=>[.grp ⟨a,true⟩ ⟨b,false⟩,t]):=by unfold SF;kernel_rfl
theorem ag3:SF i0 false 0 l i j k (fun t=>[.grp ⟨a,true⟩ ⟨b,true⟩,t]):=by unfold SF;kernel_rfl
theorem ag4:SF i0 false 0 l i j k (fun t=>[.grp2 ⟨a,false⟩ ⟨b,false⟩ ⟨d,false⟩,t]):=by unfold SF;kernel_rfl
theorem ag5:SF i0 false 0 l i j k (fun t=>[.grp2 ⟨a,false⟩ ⟨b,false⟩ ⟨d,true⟩,t]):=by unfold SF;kernel_rfl
theorem ag6:SF i0 false 0 l i j k (fun t=>[.grp2 ⟨a,false⟩ ⟨b,true⟩ ⟨d,false⟩,t]):=by unfold SF;kernel_rfl
theorem ag7:SF i0 false 0 l i j k (fun t=>[.grp2 ⟨a,false⟩ ⟨b,true⟩ ⟨d,true⟩,t]):=by unfold SF;kernel_rfl
theorem adM:SF i0 false 0 l i j k (fun t=>[.grp2 ⟨a,true⟩ ⟨b,false⟩ ⟨d,false⟩,t]):=by unfold SF;kernel_rfl
theorem adN:SF i0 false 0 l i j k (fun t=>[.grp2 ⟨a,true⟩ ⟨b,false⟩ ⟨d,true⟩,t]):=by unfold SF;kernel_rfl
theorem adO:SF i0 false 0 l i j k (fun t=>[.grp2 ⟨a,true⟩ ⟨b,true⟩ ⟨d,false⟩,t]):=by unfold SF;kernel_rfl
theorem adP:SF i0 false 0 l i j k (fun t=>[.grp2 ⟨a,true⟩ ⟨b,true⟩ ⟨d,true⟩,t]):=by unfold SF;kernel_rfl
theorem aox:eF 1 i0 false (e+1) l []=eG 1 i0 false (e+1) l []:=by kernel_rfl
theorem aoB:SF i0 false (e+1) l i j k (fun t=>[t]):=by unfold SF;kernel_rfl
theorem ag8:SF i0 false (e+1) l i j k (fun t=>[.leaf ⟨a,false⟩,t]):=by unfold SF;kernel_rfl
theorem ag9:SF i0 false (e+1) l i j k (fun t=>[.leaf ⟨a,true⟩,t]):=by unfold SF;kernel_rfl
theorem aha:SF i0 false (e+1) l i j k (fun t=>[.grp ⟨a,false⟩ ⟨b,false⟩,t]):=by unfold SF;kernel_rfl
theorem ahb:SF i0 false (e+1) l i j k (fun t=>[.grp ⟨a,false⟩ ⟨b,true⟩,t]):=by unfold SF;kernel_rfl
theorem ahc:SF i0 false (e+1) l i j k (fun t=>[.grp ⟨a,true⟩ ⟨b,false⟩,t]):=by unfold SF;kernel_rfl
theorem ahd:SF i0 false (e+1) l i j k (fun t=>[.grp ⟨a,true⟩ ⟨b,true⟩,t]):=by unfold SF;kernel_rfl
theorem ahe:SF i0 false (e+1) l i j k (fun t=>[.grp2 ⟨a,false⟩ ⟨b,false⟩ ⟨d,false⟩,t]):=by unfold SF;kernel_rfl
theorem ahf:SF i0 false (e+1) l i j k (fun t=>[.grp2 ⟨a,false⟩ ⟨b,false⟩ ⟨d,true⟩,t]):=by unfold SF;kernel_rfl
theorem ahg:SF i0 false (e+1) l i j k (fun t=>[.grp2 ⟨a,false⟩ ⟨b,true⟩ ⟨d,false⟩,t]):=by unfold SF;kernel_rfl
theorem ahh:SF i0 false (e+1) l i j k (fun t=>[.grp2 ⟨a,false⟩ ⟨b,true⟩ ⟨d,true⟩,t]):=by unfold SF;kernel_rfl
theorem adQ:SF i0 false (e+1) l i j k (fun t=>[.grp2 ⟨a,true⟩ ⟨b,false⟩ ⟨d,false⟩,t]):=by unfold SF;kernel_rfl
theorem adR:SF i0 false (e+1) l i j k (fun t=>[.grp2 ⟨a,true⟩ ⟨b,false⟩ ⟨d,true⟩,t]):=by unfold SF;kernel_rfl
theorem adS:SF i0 false (e+1) l i j k (fun t=>[.grp2 ⟨a,true⟩ ⟨b,true⟩ ⟨d,false⟩,t]):=by unfold SF;kernel_rfl
theorem adT:SF i0 false (e+1) l i j k (fun t=>[.grp2 ⟨a,true⟩ ⟨b,true⟩ ⟨d,true⟩,t]):=by unfold SF;kernel_rfl
theorem aqv:eF 77 i0 false 0 l []=eG 77 i0 false 0 l []:=by kernel_rfl
theorem aoy:eF 1 i0 true 0 l []=eG 1 i0 true 0 l []:=by kernel_rfl
theorem aoC:SF i0 true 0 l i j k (fun t=>[t]):=by unfold SF;kernel_rfl
theorem ahi:SF i0 true 0 l i j k (fun t=>[.leaf ⟨a,false⟩,t]):=by unfold SF;kernel_rfl
theorem ahj:SF i0 true 0 l i j k (fun t=>[.leaf ⟨a,true⟩,t]):=by unfold SF;kernel_rfl
theorem ahk:SF i0 true 0 l i j k (fun t=>[.grp ⟨a,false⟩ ⟨b,false⟩,t]):=by unfold SF;kernel_rfl
theorem ahl:SF i0 true 0 l i j k (fun t=>[.grp ⟨a,false⟩ ⟨b,true⟩,t]):=by unfold SF;kernel_rfl
theorem ahm:SF i0 true 0 l i j k (fun t=>[.grp ⟨a,true⟩ ⟨b,false⟩,t]):=by unfold SF;kernel_rfl
theorem ahn:SF i0 true 0 l i j k (fun t=>[.grp ⟨a,true⟩ ⟨b,true⟩,t]):=by unfold SF;kernel_rfl
theorem aho:SF i0 true 0 l i j k (fun t=>[.grp2 ⟨a,false⟩ ⟨b,false⟩ ⟨d,false⟩,t]):=by unfold SF;kernel_rfl
theorem ahp:SF i0 true 0 l i j k (fun t=>[.grp2 ⟨a,false⟩ ⟨b,false⟩ ⟨d,true⟩,t]):=by unfold SF;kernel_rfl
theorem ahq:SF i0 true 0 l i j k (fun t=>[.grp2 ⟨a,false⟩ ⟨b,true⟩ ⟨d,false⟩,t]):=by unfold SF;kernel_rfl
theorem ahr:SF i0 true 0 l i j k (fun t=>[.grp2 ⟨a,false⟩ ⟨b,true⟩ ⟨d,true⟩,t]):=by unfold SF;kernel_rfl
theorem adU:SF i0 true 0 l i j k (fun t=>[.grp2 ⟨a,true⟩ ⟨b,false⟩ ⟨d,false⟩,t]):=by unfold SF;kernel_rfl
theorem adV:SF i0 true 0 l i j k (fun t=>[.grp2 ⟨a,true⟩ ⟨b,false⟩ ⟨d,true⟩,t]):=by unfold SF;kernel_rfl
theorem adW:SF i0 true 0 l i j k (fun t=>[.grp2 ⟨a,true⟩ ⟨b,true⟩ ⟨d,false⟩,t]):=by unfold SF;kernel_rfl
theorem adX:SF i0 true 0 l i j k (fun t=>[.grp2 ⟨a,true⟩ ⟨b,true⟩ ⟨d,true⟩,t]):=by unfold SF;kernel_rfl
theorem aoz:eF 1 i0 true (e+1) l []=eG 1 i0 true (e+1) l []:=by kernel_rfl
theorem aoD:SF i0 true (e+1) l i j k (fun t=>[t]):=by unfold SF;kernel_rfl
theorem ahs:SF i0 true (e+1) l i j k (fun t=>[.leaf ⟨a,false⟩,t]):=by unfold SF;kernel_rfl
theorem aht:SF i0 true (e+1) l i j k (fun t=>[.leaf ⟨a,true⟩,t]):=by unfold SF;kernel_rfl
theorem ahu:SF i0 true (e+1) l i j k (fun t=>[.grp ⟨a,false⟩ ⟨b,false⟩,t]):=by unfold SF;kernel_rfl
theorem ahv:SF i0 true (e+1) l i j k (fun t=>[.grp ⟨a,false⟩ ⟨b,true⟩,t]):=by unfold SF;kernel_rfl
theorem ahw:SF i0 true (e+1) l i j k (fun t=>[.grp ⟨a,true⟩ ⟨b,false⟩,t]):=by unfold SF;kernel_rfl
theorem ahx:SF i0 true (e+1) l i j k (fun t=>[.grp ⟨a,true⟩ ⟨b,true⟩,t]):=by unfold SF;kernel_rfl
theorem ahy:SF i0 true (e+1) l i j k (fun t=>[.grp2 ⟨a,false⟩ ⟨b,false⟩ ⟨d,false⟩,t]):=by unfold SF;kernel_rfl
theorem ahz:SF i0 true (e+1) l i j k (fun t=>[.grp2 ⟨a,false⟩ ⟨b,false⟩ ⟨d,true⟩,t]):=by unfold SF;kernel_rfl
theorem ahA:SF i0 true (e+1) l i j k (fun t=>[.grp2 ⟨a,false⟩ ⟨b,true⟩ ⟨d,false⟩,t]):=by unfold SF;kernel_rfl
theorem ahB:SF i0 true (e+1) l i j k (fun t=>[.grp2 ⟨a,false⟩ ⟨b,true⟩ ⟨d,true⟩,t]):=by unfold SF;kernel_rfl
theorem adY:SF i0 true (e+1) l i j k (fun t=>[.grp2 ⟨a,true⟩ ⟨b,false⟩ ⟨d,false⟩,t]):=by unfold SF;kernel_rfl
theorem adZ:SF i0 true (e+1) l i j k (fun t=>[.grp2 ⟨a,true⟩ ⟨b,false⟩ ⟨d,true⟩,t]):=by unfold SF;kernel_rfl
theorem ad0:SF i0 true (e+1) l i j k (fun t=>[.grp2 ⟨a,true⟩ ⟨b,true⟩ ⟨d,false⟩,t]):=by unfold SF;kernel_rfl
theorem ad1:SF i0 true (e+1) l i j k (fun t=>[.grp2 ⟨a,true⟩ ⟨b,true⟩ ⟨d,true⟩,t]):=by unfold SF;kernel_rfl
theorem aqw:eF 77 i0 true 0 l []=eG 77 i0 true 0 l []:=by kernel_rfl
end
theorem tnE{P:Tn->Prop}(h0: ∀i,P (.leaf ⟨i,false⟩))(h1: ∀i,P (.leaf ⟨i,true⟩))(h2: ∀i j,P (.grp ⟨i,false⟩ ⟨j,false⟩))(h3: ∀i j,P (.grp ⟨i,false⟩ ⟨j,true⟩))(h4: ∀i j,P (.grp ⟨i,true⟩ ⟨j,false⟩))(h5: ∀i j,P (.grp ⟨i,true⟩ ⟨j,true⟩))(h6: ∀i j k,P (.grp2 ⟨i,false⟩ ⟨j,false⟩ ⟨k,false⟩))(h7: ∀i j k,P (.grp2 ⟨i,false⟩ ⟨j,false⟩ ⟨k,true⟩))(h8: ∀i j k,P (.grp2 ⟨i,false⟩ ⟨j,true⟩ ⟨k,false⟩))(h9: ∀i j k,P (.grp2 ⟨i,false⟩ ⟨j,true⟩ ⟨k,true⟩))(h10: ∀i j k,P (.grp2 ⟨i,true⟩ ⟨j,false⟩ ⟨k,false⟩))(h11: ∀i j k,P (.grp2 ⟨i,true⟩ ⟨j,false⟩ ⟨k,true⟩))(h12: ∀i j k,P (.grp2 ⟨i,true⟩ ⟨j,true⟩ ⟨k,false⟩))(h13: ∀i j k,P (.grp2 ⟨i,true⟩ ⟨j,true⟩ ⟨k,true⟩))(t:Tn):P t:=by
 cases t with
 |leaf l=>
  obtain⟨i,c⟩:=l
  cases c
  ·exact h0 i
  ·exact h1 i
 |grp g a=>
  obtain⟨i,c⟩:=g
  obtain⟨j,d⟩:=a
  cases c<;>cases d
  ·exact h2 i j
  ·exact h3 i j
  ·exact h4 i j
  ·exact h5 i j
 |grp2 g a b=>
  obtain⟨i,c⟩:=g
  obtain⟨j,d⟩:=a
  obtain⟨k,e⟩:=b
  cases c<;>cases d<;>cases e
  ·exact h6 i j k
  ·exact h7 i j k
  ·exact h8 i j k
  ·exact h9 i j k
  ·exact h10 i j k
  ·exact h11 i j k
  ·exact h12 i j k
  ·exact h13 i j k
theorem aoY{P:Tn->Prop}(h: ∀i j k,∀t∈S14 i j k,P t)(t:Tn):P t:=tnE (P:=P) (fun i=>h i 0 0 _ (bb (i:=0) rfl)) (fun i=>h i 0 0 _ (bb (i:=1) rfl)) (fun i j=>h i j 0 _ (bb (i:=2) rfl)) (fun i j=>h i j 0 _ (bb (i:=3) rfl)) (fun i j=>h i j 0 _ (bb (i:=4) rfl)) (fun i j=>h i j 0 _ (bb (i:=5) rfl)) (fun i j k=>h i j k _ (bb (i:=6) rfl)) (fun i j k=>h i j k _ (bb (i:=7) rfl)) (fun i j k=>h i j k _ (bb (i:=8) rfl)) (fun i j k=>h i j k _ (bb (i:=9) rfl)) (fun i j k=>h i j k _ (bb (i:=10) rfl)) (fun i j k=>h i j k _ (bb (i:=11) rfl)) (fun i j k=>h i j k _ (bb (i:=12) rfl)) (fun i j k=>h i j k _ (bb (i:=13) rfl)) t
theorem vM{i0:Nat}{c:Bool}{n:Nat}{l:aa}{p:Tn->List Tn}(h: ∀i j k,SF i0 c n l i j k p)(t:Tn):eF 1 i0 c n l (p t)=eG 1 i0 c n l (p t):=aoY (P:=fun t=>eF 1 i0 c n l (p t)=eG 1 i0 c n l (p t)) (fun i j k t ht=>gS.mp (h i j k) t ht) t
section
variable(i0 e:Nat)(l:aa)
theorem aoq(s t:Tn):eF 1 i0 false 0 l [s,t]=eG 1 i0 false 0 l [s,t]:=vM (p:=fun t=>[s,t]) (fun i j k=>tnE (P:=fun s=>SF i0 false 0 l i j k (fun t=>[s,t])) (fun a=>agY i0 l a i j k) (fun a=>agZ i0 l a i j k) (fun a b=>ag0 i0 l a b i j k) (fun a b=>ag1 i0 l a b i j k) (fun a b=>ag2 i0 l a b i j k) (fun a b=>ag3 i0 l a b i j k) (fun a b d=>ag4 i0 l a b d i j k) (fun a b d=>ag5 i0 l a b d i j k) (fun a b d=>ag6 i0 l a b d i j k) (fun a b d=>ag7 i0 l a b d i j k) (fun a b d=>adM i0 l a b d i j k) (fun a b d=>adN i0 l a b d i j k) (fun a b d=>adO i0 l a b d i j k) (fun a b d=>adP i0 l a b d i j k) s) t
theorem aor(s t:Tn):eF 1 i0 false (e+1) l [s,t]=eG 1 i0 false (e+1) l [s,t]:=vM (p:=fun t=>[s,t]) (fun i j k=>tnE (P:=fun s=>SF i0 false (e+1) l i j k (fun t=>[s,t])) (fun a=>ag8 i0 e l a i j k) (fun a=>ag9 i0 e l a i j k) (fun a b=>aha i0 e l a b i j k) (fun a b=>ahb i0 e l a b i j k) (fun a b=>ahc i0 e l a b i j k) (fun a b=>ahd i0 e l a b i j k) (fun a b d=>ahe i0 e l a b d i j k) (fun a b d=>ahf i0 e l a b d i j k) (fun a b d=>ahg i0 e l a b d i j k) (fun a b d=>ahh i0 e l a b d i j k) (fun a b d=>adQ i0 e l a b d i j k) (fun a b d=>adR i0 e l a b d i j k) (fun a b d=>adS i0 e l a b d i j k) (fun a b d=>adT i0 e l a b d i j k) s) t
theorem aos(s t:Tn):eF 1 i0 true 0 l [s,t]=eG 1 i0 true 0 l [s,t]:=vM (p:=fun t=>[s,t]) (fun i j k=>tnE (P:=fun s=>SF i0 true 0 l i j k (fun t=>[s,t])) (fun a=>ahi i0 l a i j k) (fun a=>ahj i0 l a i j k) (fun a b=>ahk i0 l a b i j k) (fun a b=>ahl i0 l a b i j k) (fun a b=>ahm i0 l a b i j k) (fun a b=>ahn i0 l a b i j k) (fun a b d=>aho i0 l a b d i j k) (fun a b d=>ahp i0 l a b d i j k) (fun a b d=>ahq i0 l a b d i j k) (fun a b d=>ahr i0 l a b d i j k) (fun a b d=>adU i0 l a b d i j k) (fun a b d=>adV i0 l a b d i j k) (fun a b d=>adW i0 l a b d i j k) (fun a b d=>adX i0 l a b d i j k) s) t
theorem aot(s t:Tn):eF 1 i0 true (e+1) l [s,t]=eG 1 i0 true (e+1) l [s,t]:=vM (p:=fun t=>[s,t]) (fun i j k=>tnE (P:=fun s=>SF i0 true (e+1) l i j k (fun t=>[s,t])) (fun a=>ahs i0 e l a i j k) (fun a=>aht i0 e l a i j k) (fun a b=>ahu i0 e l a b i j k) (fun a b=>ahv i0 e l a b i j k) (fun a b=>ahw i0 e l a b i j k) (fun a b=>ahx i0 e l a b i j k) (fun a b d=>ahy i0 e l a b d i j k) (fun a b d=>ahz i0 e l a b d i j k) (fun a b d=>ahA i0 e l a b d i j k) (fun a b d=>ahB i0 e l a b d i j k) (fun a b d=>adY i0 e l a b d i j k) (fun a b d=>adZ i0 e l a b d i j k) (fun a b d=>ad0 i0 e l a b d i j k) (fun a b d=>ad1 i0 e l a b d i j k) s) t
theorem aou{lv i0:Nat}{c:Bool}{ts:List Tn}{n:Nat}(h:(bif am lv 1 then cJ ts.length 2 else am lv 77&&(ts.isEmpty&&am n 0))=true)(l:aa):eF lv i0 c n l ts=eG lv i0 c n l ts:=by
 cases q:am lv 1 with
 |true=>
  rw[q]at h
  rw[aD q]
  cases ts with
  |nil=>
   cases c<;>cases n
   ·exact aow i0 l
   ·exact aox i0 _ l
   ·exact aoy i0 l
   ·exact aoz i0 _ l
  |cons s ts=>cases ts with
   |nil=>
    cases c<;>cases n
    ·exact vM (p:=fun t=>[t]) (fun i j k=>aoA i0 l i j k) s
    ·exact vM (p:=fun t=>[t]) (fun i j k=>aoB i0 _ l i j k) s
    ·exact vM (p:=fun t=>[t]) (fun i j k=>aoC i0 l i j k) s
    ·exact vM (p:=fun t=>[t]) (fun i j k=>aoD i0 _ l i j k) s
   |cons t ts=>cases ts with
    |nil=>
     cases c<;>cases n
     ·exact aoq i0 l s t
     ·exact aor i0 _ l s t
     ·exact aos i0 l s t
     ·exact aot i0 _ l s t
    |cons u ts=>exact absurd (av h) (yR.mpr (be (be (be (aS _)))))
 |false=>
  rw[q]at h
  have h:(am lv 77&&(ts.isEmpty&&am n 0))=true:=h
  refine aE h fun h1 h=>aE h fun h2 h3=> ?_
  rw[aD h1,dM.mp h2,aD h3]
  cases c
  ·exact aqv i0 l
  ·exact aqw i0 l
end
theorem hJ{a:AV}{l:aa}:aN (a::l)=(noRef a&&aN l):=rfl
theorem Yr:aN []=true:=rfl
theorem Ys{s:ac}:noRef (.str s)=true:=rfl
theorem Yq{i:Int}:noRef (.int i)=true:=rfl
theorem Yo{b:Bool}:noRef (.bool b)=true:=rfl
theorem Yn:noRef .none=true:=rfl
theorem acF:noRef .opq=true:=rfl
theorem sD{l:aa}:noRef (.lst l)=aN l:=rfl
theorem apj(p:Nat):noRef (yb p)=true:=by
 unfold yb
 cases am p 0
 ·cases am p 1
  ·cases am p 2<;>rfl
  ·rfl
 ·rfl
theorem api(w:Nat):noRef (QC w)=true:=by
 unfold QC
 cases am w 2
 ·cases am w 3<;>rfl
 ·rfl
theorem HF{x:Nat×Nat×Nat}{c k p r:AV}:aN (kh x c k p r)=(noRef c&&(noRef k&&(noRef p&&noRef r))):=by
 simp only[kh,hJ,Ys,Yq,Yo,Yn,apj,api,Yr,Bool.true_and,zT]
theorem HE(lvl:Nat)(l:Lf):noRef (conds lvl l)=true:=by
 obtain⟨i,c⟩:=l
 cases c<;>rfl
theorem qu(lvl:Nat)(l:Lf):noRef (oq lvl l .opq)=true:=by
 show(true&&aN (kh _ _ _ _ _))=true
 rw[HF,HE];rfl
theorem apk(t:Tn):noRef (sQ t)=true:=by
 cases t with
 |leaf l=>exact qu 5 l
 |grp g a=>
  show(true&&aN (kh _ _ (.lst [oq 10 a .opq]) _ _))=true
  rw[HF,HE,sD,hJ,qu];rfl
 |grp2 g a b=>
  show(true&&aN (kh _ _ (.lst [oq 10 a .opq,oq 10 b .opq]) _ _))=true
  rw[HF,HE,sD,hJ,hJ,qu,qu];rfl
theorem N5(ts:List Tn):aN (DU ts)=true:=by
 induction ts with
 |nil=>rfl
 |cons t ts ih=>exact(congr (congrArg (· && ·) (apk t)) ih)
theorem VM(r:Rt):aN (qT r)=true:=by
 obtain⟨lv,it,ts,n⟩:=r
 cases n with
 |zero=>rfl
 |succ l=>
  show(aN (km _ l .opq)&&true)=true
  have:noRef (yi l)=true:=by unfold yi;cases l<;>rfl
  simp only[km,hJ,Ys,Yq,Yo,Yn,acF,sD,this,Yr,rG]
theorem aiS(r:Rt):aN (Dx r)=true:=by
 unfold Dx
 rw[HF,HE,sD,b9,N5,VM];rfl
theorem Lg(r:Rt):noRef (eo r)=true:=by
 show(true&&aN (Dx r))=true
 rw[aiS];rfl
theorem X2{pick:AV->AS->List Nat}{F:aW}{σ:AS}{r k:Nat}{L:aa}(hr:σ.get r=some (.orc k L)):ux pick F [.ref r] σ=bA (F [.ref 0] ⟨1,[(0,.orc k L)]⟩) fun a aj=>sE aj 0 fun k' l'=>bif F9 0 (pick a aj)then none else imp (X5 r σ.next (pick a aj)) (pick a aj) σ.next (lE r (.orc k' l') σ.cells) a aj:=jn hr
theorem Tt{σ ay:AS}{r:Nat}{C8 L l':aa}{PI:aW}{a:AV}(hr:σ.get r=some (.orc 1021 C8))(h:PI [.ref 0] ⟨1,[(0,.orc 1021 L)]⟩=some (a,ay))(h0:ay.get 0=some (.orc 1021 l'))(ha:noRef a=true):
  ux nW PI [.ref r] (σ.set r (.orc 1021 L))=some (a,σ.set r (.orc 1021 l')):=by
 rw[X2 (eE hr),h,aX]
 show ob (ay.get 0) _=_
 rw[h0]
 show ob (uR _ a) _=_
 rw[uD ha]
 show some (a,AS.mk σ.next (lE r (.orc 1021 l') (lE r (.orc 1021 L) σ.cells)))=_
 rw[oB];rfl
theorem Vl{σ:AS}{r:Nat}{C8 l:aa}(hr:σ.get r=some (.orc 1021 C8)){R:Rt}(hR:YA R=true):nD [.ref r] (σ.set r (.orc 1021 (F3 R++Y3::l)))=some (.lst [eo R],σ.set r (.orc 1021 (Y3::l))):=by
 obtain⟨lv,⟨i0,c⟩,ts,n⟩:=R
 have h:eF lv i0 c n l ts=some (.lst [eo ⟨lv,⟨i0,c⟩,ts,n⟩],1021,Y3::l):=aou hR l
 refine fW h fun a ay h1 h=>Ga h fun k l' h0 h=> ?_
 have h:=aI h
 cases h
 exact Tt hr h1 h0 (by rw[sD,hJ,Lg];rfl)
@[elab_as_elim] theorem apX {a:AV} {Q:AV->Prop} (h:H3 a=true) (kk: ∀vs,Q (.frz 0 [] vs)):Q a:=by
 unfold H3 at h
 generalize e:mZ a _=o at h
 cases o with
 |none=>exact ff h
 |some b=>
  refine td e fun c ks vs e=> ?_
  have e:(am c 0&&CT ks)=true:=(aI e).trans h
  exact aE e fun h1 h2=>by rw[aD h1,Qi h2];exact kk vs
theorem amE{l:List (List Nat)}(h: ∀ks∈l,mac ks=iG ks/\CT ks=false):xp mac (rW l)=xp iG (rW l)/\ ∀m,vp mac m->vp mac (rW l++m):=by
 induction l with
 |nil=>exact⟨rfl,fun _ w=>w⟩
 |cons ks l ih=>
  obtain⟨h1,h2⟩:=h ks (bg ..)
  obtain⟨i1,i2⟩:=ih fun k hk=>h k (aQ _ hk)
  refine⟨?_,fun m w=>⟨fun z=> ?_,i2 m w⟩⟩
  ·show mac ks++xp mac (rW l)=iG ks++xp iG (rW l)
   rw[h1,i1]
  ·have z:CT ks=true:=z
   rw[h2]at z;exact ff z
def en3(ks:ac):Prop:=mac ks=iG ks/\CT ks=false
theorem Hr(lvl:Nat)(l:Lf): ∀ks∈Hq lvl l,en3 ks:=by
 obtain⟨i,c⟩:=l
 cases c with
 |false=>exact fun ks h=>(aP.mp h)▸⟨rfl,rfl⟩
 |true=>exact fun ks h=>(aH.mp h).elim (fun h=>h▸⟨rfl,rfl⟩) fun h=>(aP.mp h)▸⟨rfl,rfl⟩
theorem xU{l m:List (List Nat)}(h1: ∀ks∈l,en3 ks)(h2: ∀ks∈m,en3 ks): ∀ks∈l++m,en3 ks:=fun ks h=>(cX.mp h).elim (h1 ks) (h2 ks)
theorem aov(r:Rt): ∀ks∈agM r,en3 ks:=by
 refine xU (Hr _ _) (xU ?_ ?_)
 ·induction r.ts with
  |nil=>exact fun _ h=>absurd h bh
  |cons t ts ih=>
   refine xU ?_ ih
   cases t with
   |leaf l=>exact Hr 5 l
   |grp g a=>exact xU (Hr 5 g) (Hr 10 a)
   |grp2 g a b=>exact xU (Hr 5 g) (xU (Hr 10 a) (Hr 10 b))
 ·cases r.ren with
  |zero=>exact fun _ h=>absurd h bh
  |succ l=>exact fun ks h=>(aP.mp h)▸⟨rfl,rfl⟩
section
variable{C:PC}{kF:Nat}{f:ah}(R:qj C mac bx VB)
include R
theorem MW(hF:aF C kF f nD):aF C kF f nA:=Gg hF fun args σ a aj e=>n6 e fun r as L hr e=>Aw e fun e=>by
 revert hr
 refine kP e fun t L e=> ?_
 refine kP e fun t' l e=>kS e fun zt e=> ?_
 refine apX zt fun vs'=> ?_
 refine aaI e fun ks vs e=> ?_
 refine kP e fun m ks e=>kS e fun z e=> ?_
 rw[aD z]
 refine kP e fun lvl code e=> ?_
 intro hr
 refine⟨r,1021,_,hr,fun hc=> ?_⟩
 apply s2 e
 refine anF (hc) fun c hc=> ?_
 have hn:=(xS R hc).1
 have hn:aN (Sj (lvl::code))=true:=hn
 have hk:okC (lvl::code)=true/\mac (4::lvl::code)=xp iG (F3 (Bo (lvl::code))):=by
  show _/\Sj (lvl::code)=_
  unfold Sj at hn ⊢
  cases z:okC (lvl::code)with
  |true=>exact⟨rfl,rfl⟩
  |false=>rw[z]at hn;exact zx hn
 obtain⟨hl,hk1⟩:am (Bo (lvl::code)).lvl lvl=true/\YA (Bo (lvl::code))=true:=aE hk.1 ii
 have hl:=aD hl
 obtain⟨m1,m2⟩:=amE (aov (Bo (lvl::code)))
 refine⟨F3 (Bo (lvl::code))++Y3::l,Y3::l,l,fun c h=> ?_,(Vl hr hk1).trans (by unfold eo;rw[hl]),fun c h=>(R.rdr _ _).mpr (tC ((R.rdr _ _).mp h) rfl fun w=>w.2),rfl⟩
 have h:=(R.rdr _ _).mp h
 refine(R.rdr _ _).mpr (tC h ?_ fun w=> ?_)
 ·show _=mac (4::lvl::code)++xp mac l
  rw[hk.2,NW,zS,m1];rfl
 ·rw[NW];exact m2 _ ⟨fun _=>w.2.1 rfl,w.2.2⟩
end
section
variable(x nn:Nat)(cells:List (Nat×bJ))(r:aa)
def Qz(lvl L:Nat)(f:Lf):Option (AV×AS):=some (.ref (nn+1),⟨nn+2,(nn,.lst [])::(nn+1,.inst cq gn (.int (ai lvl)::kh (kd L f.i) (conds L f) (.ref nn) .none .none))::lE x (.orc 0 r) cells⟩)
def liF(lvl n e d:Nat):Option (AV×AS):=vX x nn cells (qI [.ref 0,.int (.ofNat lvl),.str (nm n)] ⟨1,[(0,.orc 0 (m2 5 d::m2 4 e::r))]⟩)
def liG(lvl n e d:Nat):Option (AV×AS):=Qz x nn cells r lvl lvl ⟨Fz lvl n (nd d) 3,CV e⟩
def llF(lvl n e:Nat)(p d:Nat):Option (AV×AS):=vX x nn cells (wI [.ref 0,.int (.ofNat lvl),.str (nm n)] ⟨1,[(0,.orc 0 (m2 5 d::m2 4 e::m2 3 p::r))]⟩)
def llG(lvl n e:Nat)(p d:Nat):Option (AV×AS):=Qz x nn cells r lvl (Qp lvl n) ⟨Fz (Qp lvl n) n (nd d) p,CV e⟩
def LI(lvl n e:Nat):Prop:=(co 5).map (liF x nn cells r lvl n e)=(co 5).map (liG x nn cells r lvl n e)
def LL(lvl n e:Nat):Prop:=(co 3).map (fun p=>(co 5).map (llF x nn cells r lvl n e p))=(co 3).map (fun p=>(co 5).map (llG x nn cells r lvl n e p))
end
theorem rg{β:Type}{f g:Nat->β}{m:Nat}(h:(co m).map f=(co m).map g){i:Nat}(hi:i<m):f i=g i:=gS.mp h i (mc.mpr hi)
theorem Ji{P:Nat->Prop}(h0:P 0)(h1:P 1)(h2:P 2)(h3:P 3)(h4:P 4){n:Nat}(hn:n<5):P n:=by
 rcases n with _|_|_|_|_|n
 all_goals first|assumption|exact absurd hn (b7.mpr (ju 5 n))
theorem aq2{P:Nat->Nat->Prop}{lvl n:Nat}(h:VP lvl n=true)(h1: ∀n,n<5->P 1 n)(h5: ∀n,n<5->P 5 (5+n)):P lvl n:=by
 rcases k7.mp h with h|h
 ·obtain⟨a,b⟩:=bk.mp h
  rw[aD a];exact h1 n (cC.mp b)
 ·obtain⟨a,b⟩:=bk.mp h
  obtain⟨b,c⟩:=bk.mp b
  obtain⟨k,rfl⟩:=jm (av b)
  rw[aD a];exact h5 k (s0 (n:=5) (cC.mp c))
theorem aq3{P:Nat->Nat->Prop}{lvl n:Nat}(h:VQ lvl n=true)(h1: ∀n,n<5->P 77 n)(h5: ∀n,n<5->P 5 (10+n))(h6:P 5 15)(h10:P 10 16):P lvl n:=by
 rcases k7.mp h with h|h
 ·obtain⟨a,b⟩:=bk.mp h
  rw[aD a];exact h1 n (cC.mp b)
 ·rcases k7.mp h with h|h
  ·obtain⟨a,b⟩:=bk.mp h
   obtain⟨b,c⟩:=bk.mp b
   rw[aD a]
   obtain⟨k,rfl⟩:=jm (av b)
   have hk:k<6:=s0 (n:=10) (cC.mp c)
   rcases oO k 5 with q|q
   ·exact h5 k q
   ·have:k=5:=vy (Fa hk) q
    rw[this];exact h6
  ·obtain⟨a,b⟩:=bk.mp h
   rw[aD a,aD b];exact h10
section
variable(x nn:Nat)(cells:List (Nat×bJ))(r:aa)
theorem amy{lvl n d:Nat}(h:VP lvl n=true)(hd:d<5)(e:Nat):liF x nn cells r lvl n e d=liG x nn cells r lvl n e d:=by
 have t:LI x nn cells r lvl n e:=aq2 (P:=fun lvl n=>LI x nn cells r lvl n e) h (fun n hn=>by
  refine Ji (P:=fun n=>LI x nn cells r 1 n e) ?_ ?_ ?_ ?_ ?_ hn<;>(clear h hd hn;cases e<;>(unfold LI;kernel_rfl))) (fun n hn=>by
  refine Ji (P:=fun n=>LI x nn cells r 5 (5+n) e) ?_ ?_ ?_ ?_ ?_ hn<;>(clear h hd hn;cases e<;>(unfold LI;kernel_rfl)))
 exact rg t hd
theorem amC{lvl n d p:Nat}(h:VQ lvl n=true)(hd:d<5)(hp:p<3)(e:Nat):llF x nn cells r lvl n e p d=llG x nn cells r lvl n e p d:=by
 have t:LL x nn cells r lvl n e:=aq3 (P:=fun lvl n=>LL x nn cells r lvl n e) h (fun n hn=>by
  refine Ji (P:=fun n=>LL x nn cells r 77 n e) ?_ ?_ ?_ ?_ ?_ hn<;>(clear h hd hp hn;cases e<;>(unfold LL;kernel_rfl))) (fun n hn=>by
  refine Ji (P:=fun n=>LL x nn cells r 5 (10+n) e) ?_ ?_ ?_ ?_ ?_ hn<;>(clear h hd hp hn;cases e<;>(unfold LL;kernel_rfl))) (by clear h hd hp;cases e<;>(unfold LL;kernel_rfl)) (by clear h hd hp;cases e<;>(unfold LL;kernel_rfl))
 exact rg (rg t hp) hd
end
def rnN(n ren:Nat):List AV:=hY (motive:=fun _=>List AV) [] (fun l _=>[.frz cq gn (km (17+n) l .opq)]) ren
def ajV(n:Nat)(r:Rt):List AV:=kh (kd r.lvl r.it.i) (conds r.lvl r.it) (.lst (DU r.ts++rnN n r.ren)) .none .none
def Qt(n:Nat)(rd:RD)(r:aa):Option (Nat×List Nat×List AV×Nat×List AV):=bA (FL [.ref 0,.str (nm n)] ⟨1,[(0,.orc 0 (rdM rd++r))]⟩) fun a σ=>iw a fun x=>CS σ x fun c ks vs=>sE σ 0 fun k l=>bif am x 0 then none else some (c,ks,vs,k,l)
def Nw(n:Nat)(rd:RD)(r:aa):Option (Nat×List Nat×List AV×Nat×List AV):=some (cq,gn,.int (ai (Si rd))::ajV n (jD n rd),0,r)
noncomputable def S4(z d e:Nat)(l m:LD):List TD:=[.leaf z 0 l,.leaf z 1 l,.grp d e l,.grp2 d e l m]
def LR(n:Nat)(f:TD->RD)(r:aa)(z d e:Nat)(l m:LD):Prop:=(S4 z d e l m).map (fun t=>Qt n (f t) r)=(S4 z d e l m).map (fun t=>Nw n (f t) r)
theorem s4E{P:TD->Prop}(h: ∀z d e l m,∀t∈S4 z d e l m,P t){t:TD}(ht:Ay t):P t:=by
 cases t with
 |leaf z nb l=>
  cases nb with
  |zero=>exact h z 0 0 l l _ (bb (i:=0) rfl)
  |succ nb=>cases nb with
   |zero=>exact h z 0 0 l l _ (bb (i:=1) rfl)
   |succ nb=>exact absurd ht (b7.mpr (ju 2 nb))
 |grp d e l=>exact h 0 d e l l _ (bb (i:=2) rfl)
 |grp2 d e l m=>exact h 0 d e l m _ (bb (i:=3) rfl)
theorem alJ{n:Nat}{f:TD->RD}{r:aa}(h: ∀z d e l m,LR n f r z d e l m){t:TD}(ht:Ay t):Qt n (f t) r=Nw n (f t) r:=s4E (P:=fun t=>Qt n (f t) r=Nw n (f t) r) (fun z d e l m t ht=>gS.mp (h z d e l m) t ht) ht
theorem anl{P:List TD->Prop}(h0:P [])(h1: ∀t,Ay t->P [t])(h2: ∀s t,Ay s->Ay t->P [s,t]){ts:List TD}(hl:ts.length<=2)(ht: ∀t∈ts,Ay t):P ts:=by
 cases ts with
 |nil=>exact h0
 |cons s ts=>cases ts with
  |nil=>exact h1 s (ht s (bg ..))
  |cons t ts=>cases ts with
   |nil=>exact h2 s t (ht s (bg ..)) (ht t (aQ _ (bg ..)))
   |cons u ts=>exact absurd hl (yR.mpr (be (be (be (aS _)))))
def GD(n:Nat)(f:List TD->RD)(r:aa):Prop:=Qt n (f []) r=Nw n (f []) r/\(∀z d e l m,LR n (fun t=>f [t]) r z d e l m)/\ ∀z d e l m z2 d2 e2 l2 m2,(S4 z d e l m).map (fun s=>(S4 z2 d2 e2 l2 m2).map fun t=>Qt n (f [s,t]) r)=(S4 z d e l m).map fun s=>(S4 z2 d2 e2 l2 m2).map fun t=>Nw n (f [s,t]) r
theorem acl{n:Nat}{f:List TD->RD}{r:aa}(G:GD n f r){ts:List TD}(hl:ts.length<=2)(ht: ∀t∈ts,Ay t):Qt n (f ts) r=Nw n (f ts) r:=anl (P:=fun ts=>Qt n (f ts) r=Nw n (f ts) r) G.1 (fun t h=>alJ (f:=fun t=>f [t]) G.2.1 h) (fun s t hs ht=>s4E (P:=fun s=>Qt n (f [s,t]) r=Nw n (f [s,t]) r) (fun z d e l m s hs=>s4E (P:=fun t=>Qt n (f [s,t]) r=Nw n (f [s,t]) r) (fun z2 d2 e2 l2 m2 t ht=>gS.mp (gS.mp (G.2.2 z d e l m z2 d2 e2 l2 m2) s hs) t ht) ht) hs) hl ht
theorem am4{n:Nat}(hn:n<5){rd:RD}(h:Dc rd)(r:aa):Qt n rd r=Nw n rd r:=by
 cases rd with
 |alone l=>refine Ji (P:=fun n=>Qt n (.alone l) r=Nw n (.alone l) r) ?_ ?_ ?_ ?_ ?_ hn<;>kernel_rfl
 |std a d e ts q=>
  refine acl (f:=fun ts=>.std a d e ts q) ?_ h.1 h.2
  clear h
  refine Ji (P:=fun n=>GD n (fun ts=>.std a d e ts q) r) ?_ ?_ ?_ ?_ ?_ hn<;>exact⟨by kernel_rfl,fun _ _ _ _ _=>by unfold LR;kernel_rfl,fun _ _ _ _ _ _ _ _ _ _=>by kernel_rfl⟩
 |recR a d e ts l=>
  refine acl (f:=fun ts=>.recR a d e ts l) ?_ h.1 h.2.1
  have h:=h.2.2
  rcases l with _|_|l
  ·clear h
   refine Ji (P:=fun n=>GD n (fun ts=>.recR a d e ts 0) r) ?_ ?_ ?_ ?_ ?_ hn<;>exact⟨by kernel_rfl,fun _ _ _ _ _=>by unfold LR;kernel_rfl,fun _ _ _ _ _ _ _ _ _ _=>by kernel_rfl⟩
  ·clear h
   refine Ji (P:=fun n=>GD n (fun ts=>.recR a d e ts 1) r) ?_ ?_ ?_ ?_ ?_ hn<;>exact⟨by kernel_rfl,fun _ _ _ _ _=>by unfold LR;kernel_rfl,fun _ _ _ _ _ _ _ _ _ _=>by kernel_rfl⟩
  ·exact absurd h (b7.mpr (ju 2 l))
section
variable{σ:AS}{x:Nat}{C8 l:aa}{as:aa}{PI:aW}
theorem Tv{pick:AV->AS->List Nat}{F:aW}{k:Nat}{L:aa}(hr:σ.get x=some (.orc k L))(ha:aN as=true):ux pick F (.ref x::as) σ=bA (F (.ref 0::as) ⟨1,[(0,.orc k L)]⟩) fun a aj=>sE aj 0 fun k' l'=>bif F9 0 (pick a aj)then none else imp (X5 x σ.next (pick a aj)) (pick a aj) σ.next (lE x (.orc k' l') σ.cells) a aj:=by
 have h:ux pick F (.ref x::as) σ=bif aN as then sE σ x (fun k l=>bA (F (.ref 0::as) ⟨1,[(0,.orc k l)]⟩) fun a aj=>sE aj 0 fun k' l'=>bif F9 0 (pick a aj)then none else imp (X5 x σ.next (pick a aj)) (pick a aj) σ.next (lE x (.orc k' l') σ.cells) a aj)else none:=rfl
 rw[h,ha];exact jn hr
theorem Tu(hr:σ.get x=some (.orc 0 C8))(ha:aN as=true):ux wQ PI (.ref x::as) (σ.set x (.orc 0 l))=vX x σ.next (lE x (.orc 0 l) σ.cells) (PI (.ref 0::as) ⟨1,[(0,.orc 0 l)]⟩):=Tv (eE hr) ha
theorem QA{nn:Nat}{cells:List (Nat×bJ)}{c:bJ}{r:aa}{lvl L:Nat}{f:Lf}:Qz x nn (lE x c cells) r lvl L f=Qz x nn cells r lvl L f:=by
 unfold Qz;rw[oB]
theorem ZK{β:Type}{f:Nat->List Nat->List AV->Option β}{y:β}{P:Prop}(e:abU σ x f=some y)(kk: ∀c m ks vs r,σ.get x=some (.orc 0 (.frz c (m::ks) vs::r))->f m ks r=some y->P):P:=
 Ga e fun k l hg e=>kS e fun q e=>by
  rw[aD q]at hg
  revert hg
  refine kP e fun t r e=> ?_
  refine td e fun c ks vs e=> ?_
  refine kP e fun m ks e hg=> ?_
  exact kk c m ks vs r hg e
end
def two{β:Type}(ks:ac)(f:Nat->Nat->Option β):Option β:=rk ks fun d ks=>rk ks fun e ks=>bif CT ks then f d e else none
@[elab_as_elim] theorem apm {β:Type} {ks:ac} {f:Nat->Nat->Option β} {y:β} {Q:List Nat->Prop} (e:two ks f=some y) (kk: ∀d e',f d e'=some y->Q [d,e']):Q ks:=
 kP e fun d ks e=>kP (Q:=fun ks=>Q (d::ks)) e fun e' ks e=>kS e fun z e=>by rw[Qi z];exact kk d e' e
section
variable{C:PC}{kF:Nat}{f:ah}(R:qj C mac bx VB)
include R
theorem Vc{l l':aa}{c:bJ}(h:C.conc 0 l c)(hx:xb bx l'=xb bx l)(hv:(∀a∈l,VB a)-> ∀a∈l',VB a):C.conc 0 l' c:=by
 obtain⟨h1,b,h2,h3⟩:=(R.bag _ _).mp h
 exact(R.bag _ _).mpr ⟨hv h1,b,h2,hx.symm▸h3⟩
omit R in
theorem rp{b:Int}{m d:Nat}(hm:0<m)(h:b.fmod (ai m)=ai d):d<m:=by
 have h1:b.fmod (ai m)<ai m:=q8 b (il.mpr hm)
 rw[h]at h1
 exact il.mp h1
theorem Hi{l:aa}{c:bJ}(h:C.conc 0 l c): ∃b,cH (xb bx l) b:=by
 obtain⟨_,b,_,h⟩:=(R.bag _ _).mp h
 exact⟨b,h⟩
theorem WJ(hF:aF C kF f y7):aF C kF f BG:=pI hF fun args σ a aj e=>by
 refine U7 e fun a1 a2 a3 e=> ?_
 refine iD e fun x e=> ?_
 refine lz e fun lvl e=> ?_
 refine fh e fun s e=> ?_
 refine kS e fun z e=>ZK e fun c m ks vs r hg e=>kS e fun z5 e=> ?_
 rw[aD z5]at hg
 revert hg
 refine apm (show two ks (fun d e'=>aiL σ x r lvl lvl ⟨Fz lvl (Jc s names 0) (nd d) 3,CV e'⟩)=some (a,aj) from e) fun d e' e hg=> ?_
 refine⟨x,0,_,hg,fun hc _=>⟨m2 5 d::m2 4 e'::r,fun c h=>Vc R h rfl fun hv a ha=> ?_,?_⟩⟩
 ·rcases aH.mp ha with rfl|ha
  ·exact trivial
  ·rcases aH.mp ha with rfl|ha
   ·exact trivial
   ·exact hv a (aQ _ ha)
 ·obtain⟨c,hc⟩:=hc
  obtain⟨b,hb⟩:=Hi R hc
  have hd:d<5:=rp (by decide) hb.2.1
  obtain⟨z1,z2⟩:=aE z ii
  have hs:nm (Jc s names 0)=s:=by rw[kW,decide_eq_true_iff]at z1;exact z1
  refine(Tu hg rfl).trans ?_
  refine yN ?_ e
  generalize Jc s names 0=n at hs z2 ⊢
  rw[<- hs]
  exact(amy x σ.next (lE x _ σ.cells) r z2 hd e').trans QA
theorem WK(hF:aF C kF f y8):aF C kF f BH:=pI hF fun args σ a aj e=>by
 refine U7 e fun a1 a2 a3 e=> ?_
 refine iD e fun x e=> ?_
 refine lz e fun lvl e=> ?_
 refine fh e fun s e=> ?_
 refine kS e fun z e=>ZK e fun c m ks vs r hg e=>kS e fun z5 e=> ?_
 rw[aD z5]at hg
 revert hg
 refine Wi e fun d e' p e hg=> ?_
 refine⟨x,0,_,hg,fun hc _=>⟨m2 5 d::m2 4 e'::m2 3 p::r,fun c h=>Vc R h rfl fun hv a ha=> ?_,?_⟩⟩
 ·rcases aH.mp ha with rfl|ha
  ·exact trivial
  ·rcases aH.mp ha with rfl|ha
   ·exact trivial
   ·rcases aH.mp ha with rfl|ha
    ·exact trivial
    ·exact hv a (aQ _ ha)
 ·obtain⟨c,hc⟩:=hc
  obtain⟨b,hb⟩:=Hi R hc
  have hd:d<5:=rp (by decide) hb.2.1
  have hp:p<3:=rp (by decide) hb.2.2.2.2.2.1
  obtain⟨z1,z2⟩:=aE z ii
  have hs:nm (Jc s names 0)=s:=by rw[kW,decide_eq_true_iff]at z1;exact z1
  refine(Tu hg rfl).trans ?_
  refine yN ?_ e
  generalize Jc s names 0=n at hs z2 ⊢
  rw[<- hs]
  exact(amC x σ.next (lE x _ σ.cells) r z2 hd hp e').trans QA
end
theorem anq(t:TD)(l:aa):xb bx (tdM t++l)=tdD t++xb bx l:=by cases t<;>rfl
theorem Zf(ts:List TD)(l:aa):xb bx (MJ ts++l)=A1 ts++xb bx l:=by
 induction ts with
 |nil=>rfl
 |cons t ts ih=>
  show xb bx ((tdM t++MJ ts)++l)=(tdD t++A1 ts)++xb bx l
  rw[aB,anq,ih,aB]
theorem anp(rd:RD)(l:aa):xb bx (rdM rd++l)=JB rd++xb bx l:=by
 cases rd with
 |alone l=>rfl
 |std a d e ts q=>
  show 4::(a+1)::5::d::4::e::3::ts.length::xb bx ((MJ ts++[m2 4 (q+1)])++l)=4::(a+1)::5::d::4::e::3::ts.length::((A1 ts++[4,q+1])++xb bx l)
  rw[aB,Zf,aB];rfl
 |recR a d e ts q=>
  show 4::(a+1)::5::d::4::e::3::ts.length::xb bx ((MJ ts++[m2 4 0,m2 2 q])++l)=4::(a+1)::5::d::4::e::3::ts.length::((A1 ts++[4,0,2,q])++xb bx l)
  rw[aB,Zf,aB];rfl
theorem W8(ts:List TD): ∀a∈MJ ts,VB a:=by
 induction ts with
 |nil=>exact fun _ h=>absurd h bh
 |cons t ts ih=>
  refine fun a h=>(cX.mp h).elim (fun h=> ?_) (ih a)
  cases t with
  |leaf z nb l=>
   rcases aH.mp h with rfl|h
   ·exact trivial
   rcases aH.mp h with rfl|h
   ·exact trivial
   rw[aP.mp h];exact trivial
  |grp d e l=>
   rcases aH.mp h with rfl|h
   ·exact trivial
   rcases aH.mp h with rfl|h
   ·exact trivial
   rcases aH.mp h with rfl|h
   ·exact trivial
   rw[aP.mp h];exact trivial
  |grp2 d e l m=>
   rcases aH.mp h with rfl|h
   ·exact trivial
   rcases aH.mp h with rfl|h
   ·exact trivial
   rcases aH.mp h with rfl|h
   ·exact trivial
   rcases aH.mp h with rfl|h
   ·exact trivial
   rw[aP.mp h];exact trivial
theorem alL(rd:RD): ∀a∈rdM rd,VB a:=by
 cases rd with
 |alone l=>
  intro a h
  rcases aH.mp h with rfl|h
  ·exact trivial
  rw[aP.mp h];exact trivial
 |std a d e ts q=>
  intro a h
  rcases aH.mp h with rfl|h
  ·exact trivial
  rcases aH.mp h with rfl|h
  ·exact trivial
  rcases aH.mp h with rfl|h
  ·exact trivial
  rcases cX.mp h with h|h
  ·exact W8 ts a h
  rw[aP.mp h];exact trivial
 |recR a d e ts q=>
  intro a h
  rcases aH.mp h with rfl|h
  ·exact trivial
  rcases aH.mp h with rfl|h
  ·exact trivial
  rcases aH.mp h with rfl|h
  ·exact trivial
  rcases cX.mp h with h|h
  ·exact W8 ts a h
  rcases aH.mp h with rfl|h
  ·exact trivial
  rw[aP.mp h];exact trivial
theorem X7{n d:Nat}(hn:n<5)(hd:d<5):(kd 1 (Fz 1 n (nd d) 3)).1=n:=
 Ji (P:=fun n=>(kd 1 (Fz 1 n (nd d) 3)).1=n) (Ji (P:=fun d=>(kd 1 (Fz 1 0 (nd d) 3)).1=0) rfl rfl rfl rfl rfl hd) (Ji (P:=fun d=>(kd 1 (Fz 1 1 (nd d) 3)).1=1) rfl rfl rfl rfl rfl hd) (Ji (P:=fun d=>(kd 1 (Fz 1 2 (nd d) 3)).1=2) rfl rfl rfl rfl rfl hd) (Ji (P:=fun d=>(kd 1 (Fz 1 3 (nd d) 3)).1=3) rfl rfl rfl rfl rfl hd) (Ji (P:=fun d=>(kd 1 (Fz 1 4 (nd d) 3)).1=4) rfl rfl rfl rfl rfl hd) hn
noncomputable def Uo(rd:RD):Nat:=match rd with
 | .alone _=>0
 | .std _ d _ _ _=>d
 | .recR _ d _ _ _=>d
theorem aeQ{n:Nat}{rd:RD}(hn:n<5)(hd:Uo rd<5):ajV n (jD n rd)=Dx (jD n rd):=by
 cases rd with
 |alone l=>rfl
 |std a d e ts q=>rfl
 |recR a d e ts l=>
  show kh _ _ (.lst (_++[.frz cq gn (km (17+n) l .opq)])) _ _=kh _ _ (.lst (_++[.frz cq gn (km (17+(kd 1 (Fz 1 n (nd d) 3)).1) l .opq)])) _ _
  rw[X7 hn (show d<5 from hd)]
theorem amV{rd:RD}{l:ac}{b:Int}(h:cH (JB rd++l) b):Uo rd<5:=by
 cases rd with
 |alone l=>exact hZ _
 |std a d e ts q=>exact rp (by decide) h.2.2.2.1
 |recR a d e ts q=>exact rp (by decide) h.2.2.2.1
theorem aiR{n:Nat}{rd:RD}:aN (.int (ai (Si rd))::Dx (jD n rd))=true:=by
 rw[hJ,aiS];rfl
theorem zi(n:Nat):am n n=true:=by rw[gm];exact decide_eq_true rfl
theorem aeP{σ:AS}{x n:Nat}{C8 r:aa}{rd:RD}(hg:σ.get x=some (.orc 0 C8))(hn:n<5)(h:Dc rd)(hd:Uo rd<5):
  ta [.ref x,.str (nm n)] (σ.set x (.orc 0 (rdM rd++r)))=some (.ref σ.next,⟨σ.next+1,(σ.next,.inst cq gn (.int (ai (Si rd))::Dx (jD n rd)))::lE x (.orc 0 r) σ.cells⟩):=by
 have h:=am4 hn h r
 unfold Nw at h
 rw[aeQ hn hd]at h
 refine fW h fun a ay h1 h=> ?_
 revert h1
 refine iD h fun y h=>instE h fun c ks vs hy h=>Ga h fun k l h0 h=>kN h fun q h h1=> ?_
 have h:=aI h
 cases h
 have hp:wQ (.ref y) ay=[y]:=by
  show(ob (ay.get y) _).getD []=_
  rw[hy];rfl
 refine(Tv (eE hg) rfl).trans ?_
 rw[h1,aX]
 show ob (ay.get 0) _=_
 rw[h0,hp]
 show(bif (am 0 y||false)then none else _)=_
 have q0:am 0 y=false:=by cases y with
  |zero=>exact absurd q (by decide)
  |succ y=>rfl
 rw[q0]
 have hx:X5 x σ.next [y] y=some σ.next:=by
  cases y with
  |zero=>exact absurd q (by decide)
  |succ y=>
   show(bif am (y+1) (y+1)then some σ.next else _)=_
   rw[zi];rfl
 show ob ((X5 x σ.next [y] y).map AV.ref) _=_
 rw[hx]
 show ob (ob (ay.get y) _) _=_
 rw[hy]
 show ob (ob ((ow _ _).map (bJ.inst cq gn)) _) _=_
 rw[jB aiR]
 show some (AV.ref σ.next,AS.mk (σ.next+1) (_::lE x (.orc 0 r) (lE x (.orc 0 (rdM rd++r)) σ.cells)))=_
 rw[oB];rfl
section
variable{C:PC}{kF:Nat}{f:ah}(R:qj C mac bx VB)
include R
omit R in theorem am5 {n:Nat} {rd:RD} (h:Dc rd):(jD n rd).ts.length <=8:=by
 have: ∀ts:List TD,(H6 n ts).length=ts.length:=fun ts=>by
  induction ts with
  |nil=>rfl
  |cons t ts ih=>exact congrArg kq ih
 cases rd with
 |alone l=>exact aS _
 |std a d e ts q=>exact au (eN (this ts)) (au h.1 (by decide))
 |recR a d e ts q=>exact au (eN (this ts)) (au h.1 (by decide))
theorem WL(hF:aF C kF f ta):aF C kF f BP:=pI hF fun args σ a aj e=>by
 refine KQ e fun a1 a2 e=> ?_
 refine iD e fun x e=> ?_
 refine fh e fun s e=> ?_
 refine ZK e fun c m ks vs r hg e=>kS e fun z9 e=> ?_
 rw[aD z9]at hg
 revert hg
 refine kP e fun n ks e=> ?_
 refine kP e fun lv code e=>kS e fun zs e hg=> ?_
 have hs:nm n=s:=by rw[kW,decide_eq_true_iff]at zs;exact zs
 by_cases hv:VB (.frz c (9::n::lv::code) vs)
 ·refine agK (hv) fun n' rd h1 h2 h3=> ?_
  have h1:AV.frz c (9::n::lv::code) vs= .frz 0 (9::n'::Si rd::XJ (jD n' rd)) [.frz 0 (JB rd) []]:=h1
  cases h1
  have hx: ∀l,xb bx (.frz 0 (9::n::Si rd::XJ (jD n rd)) [.frz 0 (JB rd) []]::l)=JB rd++xb bx l:=fun _=>rfl
  refine⟨x,0,_,hg,fun hc _=>⟨rdM rd++r,fun c h=>Vc R h ((anp rd r).trans (hx r).symm) fun hv a ha=>(cX.mp ha).elim (alL rd a) fun h=>hv a (aQ _ h),?_⟩⟩
  obtain⟨c,hc⟩:=hc
  obtain⟨b,hb⟩:=Hi R hc
  rw[hx]at hb
  rw[<- hs]
  refine(aeP hg h2 h3 (amV hb)).trans ?_
  refine yN ?_ e
  have hlen:=am5 (n:=n) h3
  rw[NV _ hlen]
 ·exact⟨x,0,_,hg,fun hc _=>hc.elim fun c hc=>absurd (((R.bag _ _).mp hc).1 _ (bg ..)) hv⟩
theorem aqH:anu C:=⟨RI R,Kv R,MW R,WJ R,WK R,WL R⟩
end
theorem zu{PI:aW}{args:aa}{σ ay:AS}{a:AV}(hn:aN args=true)(h:PI args ⟨0,[]⟩=some (a,ay))(ha:noRef a=true):vY nW PI args σ=some (a,σ):=by
 show(bif aN args then bA (PI args ⟨0,[]⟩) _ else none)=_
 rw[hn,h]
 show ob (uR _ a) _=_
 rw[uD ha];rfl
theorem aax{PI:aW}{args:aa}{σ ay:AS}{x:Nat}{l:aa}(hn:aN args=true)(h:PI args ⟨0,[]⟩=some (.ref x,ay))(hx:ay.get x=some (.lst l))(hl:aN l=true):vY aa1 PI args σ=some (.ref σ.next,σ.alloc (.lst l)):=by
 show(bif aN args then bA (PI args ⟨0,[]⟩) _ else none)=_
 rw[hn,h]
 have hi:ixN σ.next [x] x=some σ.next:=by
  show(bif am x x then some σ.next else _)=_
  rw[zi];rfl
 show ob ((ixN σ.next [x] x).map AV.ref) _=_
 rw[hi]
 show ob (ob (ay.get x) _) _=_
 rw[hx]
 show ob (ob ((ow _ l).map bJ.lst) _) _=_
 rw[jB hl];rfl
theorem zz{l:List (List Nat×List Nat×Nat)}: ∀{c:Nat} {a:Bool},aN (wO a c l)=true:=by
 induction l with
 |nil=>exact rfl
 |cons x l ih=>exact fun{c a}=>show(true&&aN (wO false (c+x.2.2) l))=true from ih
theorem ys{t:ac}{a:Bool}{l:aa}(h:kR t a=some l)(hl:aN l=true)(σ:AS):cN [.str t,.bool a] σ=some (.ref σ.next,σ.alloc (.lst l)):=fW h fun x ay h1 h=>by
 revert h1
 refine iD h fun x h=>lstE h fun l' hx h h1=> ?_
 rw[aI h]at hx
 exact aax rfl h1 hx hl
theorem abo{t:ac}{l:aa}(h:kR t false=some l)(hl:aN l=true)(σ:AS):cN [.str t] σ=some (.ref σ.next,σ.alloc (.lst l)):=fW h fun x ay h1 h=>by
 revert h1
 refine iD h fun x h=>lstE h fun l' hx h h1=> ?_
 rw[aI h]at hx
 exact aax (PI:=rO) rfl h1 hx hl
theorem aeZ{it:AV}{a:Bool}{l:aa}(h:uV it a=some l)(hn:aN [it]=true): ∃t,kR t a=some l/\ ∀σ,nk [it] σ=some (.str t,σ):=fW h fun x ay h1 h=>by
 revert h1
 refine fh h fun t h h1=> ?_
 exact⟨t,h,fun σ=>zu hn h1 rfl⟩
theorem YR{n:Nat}{l:aa}(h:oz n=some l): ∃t,kR t false=some l/\ ∀σ,lO [qt n] σ=some (.str t,σ):=fW h fun x ay h1 h=>by
 revert h1
 refine fh h fun t h h1=> ?_
 exact⟨t,h,fun σ=>zu rfl h1 rfl⟩
theorem de{v:AV}{i:Nat}: ∀{fr:Fm},gt (put fr i v) i=v:=by
 induction i with
 |zero=>intro fr;cases fr<;>rfl
 |succ i ih=>intro fr;cases fr with
  |nil=>exact ih (fr:=[])
  |cons a fr=>exact ih
theorem fV{v:AV}{i:Nat}: ∀{j:Nat} {fr:Fm},am i j=false->gt (put fr i v) j=gt fr j:=by
 induction i with
 |zero=>
  intro j fr h
  cases j with
  |zero=>exact ff h.symm
  |succ j=>cases fr with
   |nil=>rfl
   |cons a fr=>rfl
 |succ i ih=>
  intro j fr h
  cases j with
  |zero=>cases fr<;>rfl
  |succ j=>cases fr with
   |nil=>exact ih (fr:=[]) h
   |cons a fr=>exact ih h
theorem aj7{σ:AS}{i:Nat}{a b:bJ}:(σ.set i a).set i b=σ.set i b:=congrArg (AS.mk σ.next) (oB ..)
theorem ahD{σ:AS}{i:Nat}{l m:aa}(hi:σ.get i=some (.lst l))(hk:l.length+m.length<=4000000):gk [.ref i,.lst m] σ=some (.none,σ.set i (.lst (l++m))):=by
 have h:gk [.ref i,.lst m] σ=bif dj (l.length+m.length)then some (.none,σ.set i (.lst (l++m)))else none:=jn hi
 rw[h,fZ hk];rfl
theorem ahE{σ:AS}{i j:Nat}{l m:aa}(hi:σ.get i=some (.lst l))(hj:σ.get j=some (.lst m))(hij:am i j=false)(hk:l.length+m.length<=4000000):gk [.ref i,.ref j] σ=some (.none,σ.set i (.lst (l++m))):=by
 have h1:ahC σ i (.ref j)=some m:=by
  show(bif am i j then none else nw σ j some)=_
  rw[hij];exact jn hj
 have h2:gk [.ref i,.ref j] σ=ob (nw σ i some) fun l=>bif dj (l.length+m.length)then some (.none,σ.set i (.lst (l++m)))else none:=by
  refine(jn h1).trans ?_
  rw[show nw σ i some=some l from jn hi];exact jn hi
 rw[h2,show nw σ i some=some l from jn hi,cg,fZ hk];rfl
theorem Jt{σ:AS}{i:Nat}{l:aa}{F:aW}(hi:σ.get i=some (.lst l)):fX F (.ref i) σ=some F:=jn hi
theorem dQ{σ:AS}{i:Nat}{c d:bJ}(hi:σ.get i=some c)(h:i<σ.next):(σ.alloc d).get i=some c:=by rw[AS.get_alloc,if_neg (cu h)];exact hi
theorem ahM{sel:Nat->Bool}{n:Nat}{a:AV}{σ:AS}(h:noRef a=true):ur sel n a σ=(a,σ):=by
 cases n with
 |zero=>rfl
 |succ n=>cases a<;>first|rfl|exact ff h
theorem aa3{α β γ:Type}{p:α×β}{a:α}{b:β}{f:α->β->γ}(h:p=(a,b)):pr p f=f a b:=by rw[h];rfl
theorem Qx{sel:Nat->Bool}{n:Nat}{l:aa}: ∀{σ:AS},aN l=true->pW (ur sel n) l σ=(l,σ):=by
 induction l with
 |nil=>exact fun _=>rfl
 |cons a l ih=>
  intro σ h
  refine aE (show(noRef a&&aN l)=true from h) fun h1 h2=> ?_
  exact(aa3 (ahM h1)).trans (aa3 (ih h2))
theorem xX{n:Nat}{x:Nat}{l:aa}{σ:AS}(hx:σ.get x=some (.lst l))(h:aN l=true):jL (n+1) (.ref x) σ=(.lst l,σ.drop x):=by
 show bp (motive:=fun _=>AV×AS) (.opq,σ) (fun c=>Tl (ur _ n) _ x σ c) (σ.get x)=_
 rw[hx]
 show pr (pW (ur (fun _=>true) n) l (σ.drop x)) (fun l' aj=>(AV.lst l',aj))=_
 exact aa3 (Qx h)
noncomputable def MK(lvl:Nat):Bool:=bif am lvl 1 then true else am lvl 77
theorem ank{lvl:Nat}(h:rr lvl=true)(σ:AS):bO .In (.int (ai lvl)) iY σ=some (MK lvl):=lvE (P:=fun lvl=>bO .In (.int (ai lvl)) iY σ=some (MK lvl)) h rfl rfl rfl rfl
theorem anf{lvl:Nat}(h:rr lvl=true)(i:Nat)(c k p:AV):uV (.frz cq gn (.int (ai lvl)::kh (kd lvl i) c k p .none)) (MK lvl)=some (kD lvl (kd lvl i)):=
 lvE (P:=fun lvl=>kd lvl i∈kT lvl->iM c k p lvl (kd lvl i)=iO lvl (kd lvl i)) h (fun h=>ard _ _ _ h) (fun h=>are _ _ _ h) (fun h=>apU _ _ _ h) (fun h=>apV _ _ _ h) (Vz lvl i)
def I5:EM:=bq cN (aw (bq nk (aw (al 0) aG)) (aw (rY (eJ (bO .In) (un (aA 20) (al 0)) (ba iY))) aG))
theorem ad9{it:AV}{fr:Fm}{σ:AS}{b:Bool}{lv:AV}{l:aa}(hf:gt fr 0=it)(hu:bX it=false)(hn:aN [it]=true)(hs:uV it b=some l)(hl:aN l=true)(ha:aA 20 it σ=some lv)(hb:bO .In lv iY σ=some b):I5 fr σ=some (.ref σ.next,σ.alloc (.lst l)):=by
 refine fg (aeZ hs hn) fun t h1 h2=> ?_
 unfold I5
 simp only[eB,cA,ct,bm,hf,hu,ae,aX,h2,wP,fH,gq,ha,cg,d7,hb,ys h1 hl]
def Hk:SM:=aV (lj (cK (fX gk) (al 1) (aw (bq cN (aw (bq lO (aw (al 2) aG)) aG)) aG))) bu
def Qn(self:aW):SM:=aV (lj (cK (fX gk) (al 1) (aw (bq self (aw (al 3) aG)) aG))) bu
@[simp] theorem JG (e) {fr:Fm} {σ:AS}:lj e fr σ=bA (e fr σ) fun _ aj=>some (.next fr aj):=rfl
theorem EU{i:Nat}{b:SM}{a:AV}{r:aa}{fr gY:Fm}{σ ay:AS}(h:b (put fr i a) σ=some (.next gY ay)):pH [i] b (a::r) fr σ=pH [i] b r gY ay:=by
 show ob (b (put fr i a) σ) _=_
 rw[h];rfl
theorem aaC{self:aW}{ks:List (AV×List AV)}: ∀{fr:Fm} {σ:AS} {i:Nat} {L:aa},(∀k∈ks,bX k.1=false/\ ∀σ,self [k.1] σ=some (.lst k.2,σ))->gt fr 1= .ref i->σ.get i=some (.lst L)->L.length+(ks.flatMap (·.2)).length <=4000000->
  ∃fr',pH [3] (Qn self) (ks.map (·.1)) fr σ=some (.next fr' (σ.set i (.lst (L++ks.flatMap (·.2)))))/\gt fr' 1= .ref i:=by
 induction ks with
 |nil=>exact fun{fr σ i L} _ hf hi _=>⟨fr,by rw[bI,aR,EV hi];rfl,hf⟩
 |cons k ks ih=>
  intro fr σ i L h hf hi hk
  obtain⟨hu,hs⟩:=h k (bg ..)
  rw[aY]at hk ⊢
  have hk1:L.length+k.2.length<=4000000:=au (dA (by rw[ao];exact cZ _ _) _) hk
  have h1:gt (put fr 3 k.1) 1= .ref i:=(fV rfl).trans hf
  have e1:Qn self (put fr 3 k.1) σ=some (.next (put fr 3 k.1) (σ.set i (.lst (L++k.2)))):=by
   unfold Qn
   simp only[dm,JG,eP,bm,h1,de,fy,hu,ae,aX,Jt hi,cg,cA,ct,eB,hs,ahD hi hk1,dF,fP]
  refine fg (ih (fr:=put fr 3 k.1) (σ:=σ.set i (.lst (L++k.2))) (L:=L++k.2) (fun k hk=>h k (aQ _ hk)) h1 (eE hi) (by rw[ao,kK,<- ao];exact hk)) fun fr' e2 h2=> ?_
  refine⟨fr',?_,h2⟩
  rw[bj,EU e1,e2,aj7,aB]
theorem adA{n:Nat}{fr:Fm}{σ:AS}{i:Nat}{L:aa}(hn:n<17)(hf:gt fr 1= .ref i)(hi:σ.get i=some (.lst L))(hs:i<σ.next)(hk:L.length+(fM n).length <=4000000):
  Hk (put fr 2 (qt n)) σ=some (.next (put fr 2 (qt n)) ((σ.alloc (.lst (fM n))).set i (.lst (L++fM n)))):=by
 refine fg (YR (nmS hn)) fun t h1 h2=> ?_
 have h3:gt (put fr 2 (qt n)) 1= .ref i:=(fV rfl).trans hf
 have hu:bX (qt n)=false:=rfl
 have hij:am i σ.next=false:=by rw[gm];exact decide_eq_false (cu hs)
 unfold Hk
 simp only[dm,JG,eP,bm,h3,de,fy,hu,ae,aX,Jt hi,cg,cA,ct,eB,h2,abo h1 zz,ahE (dQ hi hs) cn hij hk,dF,fP]
def rU(lvl:Nat)(l:Lf):List AV:=bif l.c then fM (ke lvl l)else[]
theorem Mh{lvl:Nat}{l:Lf}{fr:Fm}{σ:AS}{i:Nat}{L:aa}(hn:ke lvl l<17)(hf:gt fr 1= .ref i)(hi:σ.get i=some (.lst L))(hs:i<σ.next)(hk:L.length+(rU lvl l).length <=4000000):
  ∃fr' aj cs,conds lvl l= .lst cs/\cs.length<=1/\pH [2] Hk cs fr σ=some (.next fr' aj)/\gt fr' 1= .ref i/\aj.get i=some (.lst (L++rU lvl l))/\(∀j,am 2 j=false->gt fr' j=gt fr j):=by
 obtain⟨k,c⟩:=l
 cases c with
 |false=>exact⟨fr,σ,[],rfl,aS _,rfl,hf,by rw[show rU lvl ⟨k,false⟩=[] from rfl,aR];exact hi,fun _ _=>rfl⟩
 |true=>exact⟨_,_,[qt (ke lvl ⟨k,true⟩)],rfl,ax _,(EU (adA hn hf hi hs hk)).trans rfl,(fV rfl).trans hf,eE (dQ hi hs),fun j h=>fV h⟩
theorem aip(lvl i:Nat):(kd lvl i).1<17:=by
 have h1: ∀x∈i5,x.1<17:=by decide +kernel
 have h5: ∀x∈dK,x.1<17:=by decide +kernel
 have h10: ∀x∈sC,x.1<17:=by decide +kernel
 have h77: ∀x∈gK,x.1<17:=by decide +kernel
 have h:=Vz lvl i
 generalize kd lvl i=x at h
 unfold kT at h
 revert h
 cases am lvl 1
 ·cases am lvl 5
  ·cases am lvl 10
   ·exact h77 x
   ·exact h10 x
  ·exact h5 x
 ·exact h1 x
def dW(lvl:Nat)(l:Lf):List AV:=kD lvl (kd lvl l.i)++rU lvl l
theorem adG{self:aW}{args:aa}{σ:AS}:bo 1 [] (nE self) args σ=bo 1 [] (aV (cV [1] I5) (aV (gG [2] (un (aA 23) (al 0)) Hk) (aV (gG [3] (un (aA 22) (al 0)) (Qn self)) (aV (eI (al 1)) bu)))) args σ:=rfl
theorem zp{xs:ac}{it:EM}{b:SM}{l:aa}{fr:Fm}{σ:AS}(h:it fr σ=some (.lst l,σ))(hl:l.length<=4000000):gG xs it b fr σ=pH xs b l fr σ:=by
 have h2:fJ σ (.lst l)=some (l,σ):=by
  show(bif dj l.length then some (l,σ)else none)=_
  rw[fZ hl];rfl
 show bA (it fr σ) (fun x aj=>bA (fJ aj x) fun l ay=>pH xs b l fr ay)=_
 rw[h,aX,h2];rfl
theorem PQ{n:Nat}{it lv:AV}{b:Bool}{T Cd:aa}{cs:aa}{ks:List (AV×List AV)}(hit:noRef it=true)(hu:bX it=false)(ha: ∀σ,aA 20 it σ=some lv)(hb: ∀σ,bO .In lv iY σ=some b)(hc: ∀σ,aA 23 it σ=some (.lst cs))(hkd: ∀σ,aA 22 it σ=some (.lst (ks.map (·.1))))
  (hsh:uV it b=some T)(hT:aN T=true)(hC:aN Cd=true)(hcl:cs.length<=4000000)
  (hcs: ∀{fr σ i L},gt fr 1= .ref i->σ.get i=some (.lst L)->i<σ.next->L.length+Cd.length<=4000000-> ∃fr' aj,pH [2] Hk cs fr σ=some (.next fr' aj)/\gt fr' 1= .ref i/\aj.get i=some (.lst (L++Cd))/\(∀j,am 2 j=false->gt fr' j=gt fr j))
  (hg: ∀k∈ks,bX k.1=false/\ ∀σ,cv n [k.1] σ=some (.lst k.2,σ))(hgn:aN (ks.flatMap (·.2))=true)(hk:((T++Cd)++ks.flatMap (·.2)).length <=4000000)(hkl:ks.length<=4000000)(σ:AS):
  cv (n+1) [it] σ=some (.lst ((T++Cd)++ks.flatMap (·.2)),σ):=by
 have h1:=ad9 (it:=it) (fr:=[it]) (σ:=⟨0,[]⟩) rfl hu (by rw[hJ,hit];rfl) hsh hT (ha _) (hb _)
 have hk1:T.length+Cd.length<=4000000:=by
  rw[<- ao]
  exact au (by rw[ao (as:=T++Cd)];exact cZ _ _) hk
 refine XE (hcs (fr:=[it,.ref 0]) (σ:=AS.alloc ⟨0,[]⟩ (.lst T)) (i:=0) rfl rfl (hZ _) hk1) fun fr2 hU h2 hf2 hi2 hj2=> ?_
 have h0:gt fr2 0=it:=(hj2 0 rfl).trans rfl
 refine fg (aaC (self:=cv n) hg hf2 hi2 (by rw[<- ao];exact hk)) fun fr3 h3 hf3=> ?_
 have e2:gG [2] (un (aA 23) (al 0)) Hk [it,.ref 0] (AS.alloc ⟨0,[]⟩ (.lst T))=some (.next fr2 hU):=by
  refine(zp (l:=cs) ?_ hcl).trans h2
  simp only[gq,bm,kO,hu,ae,aX,hc,cg]
 have e3:gG [3] (un (aA 22) (al 0)) (Qn (cv n)) fr2 hU=some (.next fr3 (hU.set 0 (.lst ((T++Cd)++ks.flatMap (·.2))))):=by
  refine(zp (l:=ks.map (·.1)) ?_ (by rw[aU];exact hkl)).trans h3
  simp only[gq,bm,h0,hu,ae,aX,hkd,cg]
 have e4:bo 1 [] (nE (cv n)) [it] ⟨0,[]⟩=some (.ref 0,hU.set 0 (.lst ((T++Cd)++ks.flatMap (·.2)))):=by
  rw[adG]
  show ob (aV (cV [1] I5) _ [it] ⟨0,[]⟩) ib=_
  simp only[dm,fO,h1,aX,cg,dF]
  show ob (ob (gG [2] (un (aA 23) (al 0)) Hk [it,.ref 0] _) _) ib=_
  simp only[e2,cg,dF,dm,e3,eu,bm,hf3,fy,ae,aX,dI,gF]
 have hnr:aN ((T++Cd)++ks.flatMap (·.2))=true:=by
  rw[b9,b9,hgn,hT,hC];rfl
 refine zu (PI:=xx (cv n)) (by rw[hJ,hit];rfl) (ay:=(hU.set 0 (.lst ((T++Cd)++ks.flatMap (·.2)))).drop 0) ?_ hnr
 show bA (bo 1 [] (nE (cv n)) [it] ⟨0,[]⟩) (fun a aj=>some (jL 12 a aj))=_
 rw[e4]
 show some (jL 12 (.ref 0) _)=_
 rw[xX (eE hi2) hnr]
theorem Yp{lvl:Nat}{l:Lf}:aN (rU lvl l)=true:=by
 unfold rU
 cases l.c
 ·rfl
 ·exact zz
def pi(lvl:Nat)(l:Lf)(ks:aa)(p:AV):AV:=.frz cq gn (.int (ai lvl)::kh (kd lvl l.i) (conds lvl l) (.lst ks) p .none)
theorem EI{n lvl:Nat}{l:Lf}{ks:List (AV×List AV)}{p:AV}(hlv:rr lvl=true)(hks:aN (ks.map (·.1))=true)(hp:noRef p=true)(hg: ∀k∈ks,bX k.1=false/\ ∀σ,cv n [k.1] σ=some (.lst k.2,σ))(hgn:aN (ks.flatMap (·.2))=true)(hk:(dW lvl l++ks.flatMap (·.2)).length <=4000000)(hkl:ks.length<=4000000)(σ:AS):
  cv (n+1) [pi lvl l (ks.map (·.1)) p] σ=some (.lst (dW lvl l++ks.flatMap (·.2)),σ):=by
 have hit:noRef (pi lvl l (ks.map (·.1)) p)=true:=by
  show(true&&aN (kh _ _ _ _ _))=true
  rw[HF,HE,sD,hks,hp];rfl
 refine XG (Mh (lvl:=lvl) (l:=l) (fr:=[.none,.ref 0]) (σ:=⟨1,[(0,.lst [])]⟩) (i:=0) (L:=[]) (aip lvl l.i) rfl rfl (hZ _) (au (eN (io _)) (au (by unfold dW;rw[ao,ao];exact au (ju _ _) (cZ _ _)) hk))) fun _ _ cs hcs hcl _=> ?_
 refine PQ (it:=pi lvl l (ks.map (·.1)) p) hit rfl (fun _=>rfl) (ank hlv) (cs:=cs) (fun σ=> ?_) (fun _=>rfl) (anf hlv _ _ _ _) zz Yp (au hcl (by decide)) (fun{fr σ i L} h1 h2 h3 h4=> ?_) hg hgn hk hkl σ
 ·rw[<- hcs]
  obtain⟨i,c⟩:=l
  cases c<;>rfl
 ·obtain⟨fr',aj,cs',e,_,h⟩:=Mh (lvl:=lvl) (l:=l) (aip lvl l.i) h1 h2 h3 h4
  rw[hcs]at e
  cases e
  exact⟨fr',aj,h⟩
theorem ajQ{n i l:Nat}(hi:i<5)(σ:AS):cv (n+1) [.frz cq gn (km (17+i) l .opq)] σ=some (.lst (gH (17+i) l),σ):=by
 have hrn:noRef (yi l)=true:=by unfold yi;cases l<;>rfl
 have hit:noRef (.frz cq gn (km (17+i) l .opq))=true:=by
  show aN (km (17+i) l .opq)=true
  simp only[km,hJ,Ys,Yq,Yo,Yn,acF,sD,hrn,Yr,rG]
 have hlen:(gH (17+i) l).length <=4000000:=by
  unfold gH
  cases l<;>exact av rfl
 have h:=PQ (n:=n) (it:=.frz cq gn (km (17+i) l .opq)) (T:=gH (17+i) l) (Cd:=[]) (cs:=[]) (ks:=[]) (b:=false) hit rfl (fun _=>rfl) (fun _=>rfl) (fun _=>rfl) (fun _=>rfl) (rnS hi l .opq) zz rfl (aS _) (fun{fr σ i L} h1 h2 _ _=>⟨fr,σ,rfl,h1,by rw[aR];exact h2,fun _ _=>rfl⟩) (fun _ h=>absurd h bh) rfl (by rw[bI,aR,aR];exact hlen) (aS _) σ
 rw[bI,aR,aR]at h
 exact h
theorem CY{l:List (List Nat×List Nat×Nat)}: ∀{c:Nat} {a:Bool},(wO a c l).length=l.length:=by
 induction l with
 |nil=>exact rfl
 |cons x l ih=>exact congrArg kq ih
theorem ai4(p:Nat):(Sh p).length <=2:=by
 unfold Sh yb
 cases am p 0
 ·cases am p 1
  ·cases am p 2
   ·exact aS _
   ·exact ax _
  ·exact ax _
 ·exact ax _
theorem aln(p:Nat):(Su p).length <=3:=by
 unfold Su
 cases am p 1
 ·exact aS _
 ·exact ax _
theorem aiX(p:Nat):(Sg p).length <=10:=by
 unfold Sg
 cases am p 2
 ·cases am p 3
  ·exact aS _
  ·exact ax _
 ·exact ax _
theorem aay(lvl:Nat)(x:Nat×Nat×Nat):(kD lvl x).length <=18:=by
 unfold kD anM
 rw[CY]
 show((Sh x.2.2++(Su x.2.1++(Sg x.2.1++[KX]))).length +1+1)<=18
 rw[ao,ao,ao]
 exact be (be (au (aJ (ai4 _) (aJ (aln _) (aJ (aiX _) (ax 1)))) (by decide)))
theorem on(lvl:Nat)(l:Lf):(dW lvl l).length <=30:=by
 unfold dW rU
 rw[ao]
 refine aJ (b:=18) (d:=12) (aay _ _) ?_
 cases l.c
 ·exact aS _
 ·show(fM _).length <=12
  unfold fM;rw[CY];exact av rfl
def vo(t:Tn):List AV:=match t with
 | .leaf l=>dW 5 l
 | .grp g a=>dW 5 g++dW 10 a
 | .grp2 g a b=>dW 5 g++(dW 10 a++dW 10 b)
theorem DV(t:Tn):(vo t).length <=90:=by
 cases t with
 |leaf l=>exact au (on 5 l) (by decide)
 |grp g a=>exact(ao (as:=dW 5 g))▸au (aJ (on 5 g) (on 10 a)) (by decide)
 |grp2 g a b=>
  show(dW 5 g++(dW 10 a++dW 10 b)).length <=90
  rw[ao,ao]
  exact aJ (on 5 g) (aJ (on 10 a) (on 10 b))
def VW(i n:Nat):List AV:=hY (motive:=fun _=>List AV) [] (fun l _=>gH (17+i) l) n
theorem ajT(i n:Nat):(VW i n).length <=90:=by
 cases n with
 |zero=>exact aS _
 |succ l=>
  show(gH (17+i) l).length <=90
  unfold gH;rw[CY]
  cases l<;>exact av rfl
theorem qS{lvl:Nat}{l:Lf}:aN (dW lvl l)=true:=by
 unfold dW;rw[b9,show aN (kD lvl (kd lvl l.i))=true from zz,Yp];rfl
theorem amI{t:Tn}:aN (vo t)=true:=by
 cases t with
 |leaf l=>exact qS
 |grp g a=>
  show aN (dW 5 g++dW 10 a)=true
  rw[b9,qS,qS];rfl
 |grp2 g a b=>
  show aN (dW 5 g++(dW 10 a++dW 10 b))=true
  rw[b9,b9,qS,qS,qS];rfl
theorem acG{i n:Nat}:aN (VW i n)=true:=by
 cases n with
 |zero=>rfl
 |succ l=>exact zz
theorem EJ{n lvl:Nat}{l:Lf}(h:rr lvl=true)(σ:AS):cv (n+1) [oq lvl l .opq] σ=some (.lst (dW lvl l),σ):=by
 have h:=EI (n:=n) (l:=l) (ks:=[]) (p:=.opq) h rfl rfl (fun _ h=>absurd h bh) rfl (by rw[bI,aR];exact au (on lvl l) (by decide)) (aS _) σ
 rw[bI,aR]at h
 exact h
theorem JL{l:aa}{m:Nat}(h:l.length<=m)(hm:cJ m 4000000=true):l.length<=4000000:=au h (av hm)
theorem aeA{n:Nat}(t:Tn)(σ:AS):cv (n+2) [sQ t] σ=some (.lst (vo t),σ):=by
 cases t with
 |leaf l=>exact EJ (n:=n+1) rfl σ
 |grp g a=>
  have h:=EI (n:=n+1) (lvl:=5) (l:=g) (ks:=[(oq 10 a .opq,dW 10 a)]) (p:=.opq) rfl (by rw[bj,jY,hJ,qu];rfl) rfl (fun k hk=>(aP.mp hk)▸⟨rfl,fun σ=>EJ (n:=n) rfl σ⟩)
   (by rw[aY,bI,aR];exact qS) (by rw[aY,bI,aR];exact JL (DV (.grp g a)) rfl) (by exact av rfl) σ
  rw[aY,bI,aR]at h
  exact h
 |grp2 g a b=>
  have h:=EI (n:=n+1) (lvl:=5) (l:=g) (ks:=[(oq 10 a .opq,dW 10 a),(oq 10 b .opq,dW 10 b)]) (p:=.opq) rfl (by rw[bj,bj,jY,hJ,hJ,qu,qu];rfl) rfl
   (fun k hk=>(aH.mp hk).elim (fun h=>h▸⟨rfl,fun σ=>EJ (n:=n) rfl σ⟩) fun hk=>(aP.mp hk)▸⟨rfl,fun σ=>EJ (n:=n) rfl σ⟩)
   (by rw[aY,aY,bI,aR,b9,qS,qS];rfl) (by rw[aY,aY,bI,aR];exact JL (DV (.grp2 g a b)) rfl) (by exact av rfl) σ
  rw[aY,aY,bI,aR]at h
  exact h
def EP(ts:List Tn):List (AV×List AV):=ts.map fun t=>(sQ t,vo t)
def HU(i n:Nat):List (AV×List AV):=hY (motive:=fun _=>List (AV×List AV)) [] (fun l _=>[(.frz cq gn (km (17+i) l .opq),gH (17+i) l)]) n
def iA(r:Rt):List AV:=dW r.lvl r.it++(r.ts.flatMap vo++VW (ke 1 r.it) r.ren)
theorem aaY(ts:List Tn):(EP ts).map (·.1)=DU ts:=by
 induction ts with
 |nil=>rfl
 |cons t ts ih=>exact congrArg (sQ t:: ·) ih
theorem aa0(ts:List Tn):(EP ts).flatMap (·.2)=ts.flatMap vo:=by
 induction ts with
 |nil=>rfl
 |cons t ts ih=>
  show vo t++(EP ts).flatMap (·.2)=_
  rw[ih];rfl
theorem TQ(ts:List Tn):aN (ts.flatMap vo)=true:=by
 induction ts with
 |nil=>rfl
 |cons t ts ih=>rw[aY,b9,amI,ih];rfl
theorem aaZ{ts:List Tn}(h:ts.length<=2):(ts.flatMap vo).length <=180:=by
 cases ts with
 |nil=>exact aS _
 |cons s ts=>cases ts with
  |nil=>rw[aY,bI,aR];exact au (DV s) (by decide)
  |cons t ts=>cases ts with
   |nil=>rw[aY,aY,bI,aR,ao];exact aJ (DV s) (DV t)
   |cons u ts=>exact absurd h (yR.mpr (be (be (be (aS _)))))
structure oh(r:Rt):Prop where
 ok:YA r=true
 nm:r.ren≠0->ke 1 r.it<5
theorem oh.lv{r:Rt}(h:oh r):rr r.lvl=true/\r.ts.length<=2:=by
 have q:=h.ok
 unfold YA at q
 cases z:am r.lvl 1 with
 |true=>
  rw[z]at q
  rw[aD z];exact⟨rfl,av q⟩
 |false=>
  rw[z]at q
  refine aE (show(am r.lvl 77&&(r.ts.isEmpty&&am r.ren 0))=true from q) fun h1 h=>aE h fun h2 _=> ?_
  rw[aD h1,dM.mp h2];exact⟨rfl,aS _⟩
theorem uS{r:Rt}(h:oh r):(iA r).length <=300:=by
 unfold iA
 rw[ao,ao]
 exact au (aJ (on _ _) (aJ (aaZ h.lv.2) (ajT _ _))) (by decide)
theorem Jr{r:Rt}:aN (iA r)=true:=by
 unfold iA
 rw[b9,b9,qS,TQ,acG];rfl
theorem VX{r:Rt}(h:oh r)(σ:AS):cv 6 [eo r] σ=some (.lst (iA r),σ):=by
 obtain⟨h1,h2⟩:=h.lv
 have hr:(HU (ke 1 r.it) r.ren).map (·.1)=qT r/\(HU (ke 1 r.it) r.ren).flatMap (·.2)=VW (ke 1 r.it) r.ren/\(HU (ke 1 r.it) r.ren).length <=1/\ ∀k∈HU (ke 1 r.it) r.ren,bX k.1=false/\ ∀σ,cv 5 [k.1] σ=some (.lst k.2,σ):=by
  have hn:=h.nm
  obtain⟨lv,it,ts,n⟩:=r
  cases n with
  |zero=>exact⟨rfl,rfl,aS _,fun _ h=>absurd h bh⟩
  |succ l=>exact⟨rfl,aR _,ax _,fun k hk=>(aP.mp hk)▸⟨rfl,fun σ=>ajQ (n:=4) (hn (ku _)) σ⟩⟩
 obtain⟨r1,r2,r3,r4⟩:=hr
 have hf:(EP r.ts++HU (ke 1 r.it) r.ren).map (·.1)=DU r.ts++qT r:=by rw[bw,aaY,r1]
 have hs:(EP r.ts++HU (ke 1 r.it) r.ren).flatMap (·.2)=r.ts.flatMap vo++VW (ke 1 r.it) r.ren:=by rw[lb,aa0,r2]
 have q:=EI (n:=5) (lvl:=r.lvl) (l:=r.it) (ks:=EP r.ts++HU (ke 1 r.it) r.ren) (p:=.none) h1 (by rw[hf,b9,N5,VM];rfl) rfl
  (fun k hk=>(cX.mp hk).elim (fun hk=>by
   obtain⟨t,_,rfl⟩:=dD.mp hk
   exact⟨by cases t<;>rfl,fun σ=>aeA (n:=3) t σ⟩) (r4 k))
  (by rw[hs,b9,TQ,acG];rfl) (by rw[hs];exact JL (uS h) rfl) (by rw[ao];exact au (aJ (au (eN (aU ..)) h2) r3) (by decide)) σ
 rw[hf,hs]at q
 exact q
noncomputable def EC(wk lk:aa)(fk:List (List Nat))(fv so:aa):AV:=.frz ZO [24,25,26,27,31,5] [.lst wk,.lst lk,.dct fk fv,.lst so,.int 0,.dct [] []]
section
variable{σ:AS}{i j:Nat}{l m:aa}
theorem pk:df [] σ=some (.ref σ.next,σ.alloc (.lst [])):=rfl
theorem Ez(hi:σ.get i=some (.lst l))(hk:l.length+m.length<=4000000):b4 .Add (.ref i) (.lst m) σ=some (.ref σ.next,σ.alloc (.lst (l++m))):=by
 have h1:iU σ (.ref i)=some l:=jn hi
 show ob (iU σ (.ref i)) _=_
 rw[h1]
 show(bif dj (l.length+m.length)then _ else none)=_
 rw[fZ hk];rfl
theorem IV(hi:σ.get i=some (.lst l))(hj:σ.get j=some (.lst m))(hk:l.length+m.length<=4000000):b4 .Add (.ref i) (.ref j) σ=some (.ref σ.next,σ.alloc (.lst (l++m))):=by
 have h1:iU σ (.ref i)=some l:=jn hi
 have h2:iU σ (.ref j)=some m:=jn hj
 show ob (iU σ (.ref i)) (fun l=>ob (iU σ (.ref j)) fun m=>bif dj (l.length+m.length)then some (AV.ref σ.next,σ.alloc (.lst (l++m)))else none)=_
 rw[h1,cg,h2,cg,fZ hk];rfl
theorem Yj(hi:σ.get i=some (.lst l))(hj:σ.get j=some (.lst [])):bO .NotEq (.ref i) (.ref j) σ=some (!l.isEmpty):=by
 have h1:iU σ (.ref i)=some l:=jn hi
 have h2:iU σ (.ref j)=some []:=jn hj
 show ob (od (iU σ (.ref i)) (fun l=>ob (iU σ (.ref j)) fun m=>bif rv l m then KZ (wJ 16) l m else some false) _) _=_
 rw[h1,anT,h2]
 cases l<;>rfl
theorem I7(hj:σ.get j=some (.lst [])):bO .Eq (.lst l) (.ref j) σ=some l.isEmpty:=by
 have h2:iU σ (.ref j)=some []:=jn hj
 show ob (iU σ (.ref j)) (fun m=>bif rv l m then KZ (wJ 16) l m else some false)=_
 rw[h2]
 cases l<;>rfl
end
def VU:SM:=aV (lj (cK (fX gk) (al 1) (aw (bq (cv 6) (aw (al 2) aG)) aG))) bu
theorem QM{r:Rt}(h:oh r)(σ:AS):iJ [.lst [eo r]] σ=some (.lst (iA r),σ):=by
 have e1:VU [.lst [eo r],.ref 0,eo r] (AS.alloc ⟨0,[]⟩ (.lst []))=some (.next [.lst [eo r],.ref 0,eo r] ((AS.alloc ⟨0,[]⟩ (.lst [])).set 0 (.lst ([]++iA r)))):=by
  have hu:bX (eo r)=false:=rfl
  unfold VU
  simp only[dm,JG,eP,bm,kO,pf,fy,hu,ae,aX,Jt (i:=0) (σ:=AS.alloc ⟨0,[]⟩ (.lst [])) (l:=[]) rfl,cg,cA,ct,eB,VX h,ahD (i:=0) (σ:=AS.alloc ⟨0,[]⟩ (.lst [])) (l:=[]) rfl (au (eN (io _)) (JL (uS h) rfl)),dF,fP]
 have e2:gG [2] (al 0) VU [.lst [eo r],.ref 0] (AS.alloc ⟨0,[]⟩ (.lst []))=some (.next [.lst [eo r],.ref 0,eo r] ((AS.alloc ⟨0,[]⟩ (.lst [])).set 0 (.lst (iA r)))):=(zp (l:=[eo r]) rfl (av rfl)).trans (EU e1)
 have e3:bo 1 [] rT [.lst [eo r]] ⟨0,[]⟩=some (.ref 0,(AS.alloc ⟨0,[]⟩ (.lst [])).set 0 (.lst (iA r))):=by
  show ob (ob (gG [2] (al 0) VU [.lst [eo r],.ref 0] (AS.alloc ⟨0,[]⟩ (.lst []))) (gR (aV (eI (al 1)) bu))) ib=_
  rw[e2];rfl
 refine zu (PI:=xz) (by rw[hJ,sD,hJ,Lg];rfl) (ay:=((AS.alloc ⟨0,[]⟩ (.lst [])).set 0 (.lst (iA r))).drop 0) ?_ Jr
 show bA (bo 1 [] rT [.lst [eo r]] ⟨0,[]⟩) (fun a aj=>some (jL 12 a aj))=_
 rw[e3]
 show some (jL 12 (.ref 0) _)=_
 rw[xX (l:=iA r) rfl Jr]
noncomputable def cj(a b:ac):List AV:=wO true 8 [wd a,(uU,b,b.length),KX]
noncomputable def mJ:List Nat:=[87,79,82,75,73,78,71,45,83,84,79,82,65,71,69]
noncomputable def pN:List Nat:=[76,73,78,75,65,71,69]
noncomputable def dh:List Nat:=[83,69,67,84,73,79,78]
noncomputable def gZ:List Nat:=[70,73,76,69]
noncomputable def jI:List Nat:=[68,65,84,65]
noncomputable def uT:List Nat:=[68,73,86,73,83,73,79,78]
noncomputable def sFD:List Nat:=[70,68]
noncomputable def sSD:List Nat:=[83,68]
noncomputable def sF1:List Nat:=[70,49]
noncomputable def ara:List Nat:=[79,76,68]
noncomputable def kB(s:Bool):List Nat:=bif s then sSD else sFD
noncomputable def eA(o:Bool):List Nat:=bif o then ara else sF1
theorem aoO:kR (mJ++32::dh++[46]) true=some (cj mJ dh):=by kernel_rfl
theorem aoN:kR (pN++32::dh++[46]) true=some (cj pN dh):=by kernel_rfl
theorem aoM:kR (gZ++32::dh++[46]) true=some (cj gZ dh):=by kernel_rfl
theorem aoL:kR (jI++32::uT++[46]) true=some (cj jI uT):=by kernel_rfl
theorem aqA(o s:Bool):kR (kB s++32::eA o++[46]) true=some (cj (kB s) (eA o)):=by
 cases o<;>cases s<;>kernel_rfl
theorem zy{a b:ac}:aN (cj a b)=true:=zz
def fQ(h:aa)(o:Option Rt):List AV:=bp (motive:=fun _=>List AV) [] (fun r=>h++iA r) o
def jo(o:Option Rt):List AV:=bp (motive:=fun _=>List AV) [] (fun r=>[eo r]) o
def Kw(o:Option Rt):Prop:= ∀r,o=some r->oh r
theorem YQ{h t a b:ac}{o:Option Rt}(he: ∀σ,b4 .Add (.str h) (.str [32,83,69,67,84,73,79,78,46]) σ=some (.str t,σ))(hh:kR t true=some (cj a b))(ho:Kw o)(σ:AS):eY [.str h,.lst (jo o)] σ=some (.lst (fQ (cj a b) o),σ):=by
 cases o with
 |none=>
  have e3:bo 2 [] eZ [.str h,.lst []] ⟨0,[]⟩=some (.ref 1,AS.alloc (AS.alloc ⟨0,[]⟩ (.lst [])) (.lst [])):=by
   show ob (eZ [.str h,.lst []] ⟨0,[]⟩) ib=_
   have hu:bX (.lst [])=false:=rfl
   simp only[eZ,dm,j9,fH,bm,kO,pf,hu,ae,aX,cg,eB,ct,pk,I7 (σ:=AS.alloc ⟨0,[]⟩ (.lst [])) (j:=0) (l:=[]) rfl,GO,af,eu,dI,gF]
   rfl
  refine zu (PI:=nT) rfl (ay:=AS.drop (AS.alloc (AS.alloc ⟨0,[]⟩ (.lst [])) (.lst [])) 1) ?_ rfl
  show bA (bo 2 [] eZ [.str h,.lst []] ⟨0,[]⟩) (fun a aj=>some (jL 12 a aj))=_
  rw[e3];rfl
 |some r=>
  have hr:=ho r rfl
  have hk:(cj a b).length +(iA r).length <=4000000:=au (aJ (b:=3) (eN CY) (uS hr)) (by decide)
  have hn:aN (cj a b++iA r)=true:=by rw[b9,zy,Jr];rfl
  have e3:bo 2 [] eZ [.str h,.lst [eo r]] ⟨0,[]⟩=some (.ref 2,AS.alloc (AS.alloc (AS.alloc ⟨0,[]⟩ (.lst [])) (.lst (cj a b))) (.lst (cj a b++iA r))):=by
   show ob (eZ [.str h,.lst [eo r]] ⟨0,[]⟩) ib=_
   have hu:bX (.lst [eo r])=false:=rfl
   simp only[eZ,dm,j9,fH,bm,kO,pf,hu,na,ae,aX,cg,eB,ct,cA,d7,pk,I7 (σ:=AS.alloc ⟨0,[]⟩ (.lst [])) (j:=0) (l:=[eo r]) rfl,E5,fP,dF,eu,jJ,he,ys hh zy,QM hr,Ez (σ:=AS.alloc (AS.alloc ⟨0,[]⟩ (.lst [])) (.lst (cj a b))) (i:=(AS.alloc ⟨0,[]⟩ (.lst [])).next) (l:=cj a b) rfl hk,dI,gF]
   rfl
  refine zu (PI:=nT) (by rw[hJ,hJ,show noRef (.lst (jo (some r)))=true from by show aN [eo r]=true;rw[hJ,Lg];rfl];rfl) (ay:=AS.drop (AS.alloc (AS.alloc (AS.alloc ⟨0,[]⟩ (.lst [])) (.lst (cj a b))) (.lst (cj a b++iA r))) 2) ?_ hn
  show bA (bo 2 [] eZ [.str h,.lst [eo r]] ⟨0,[]⟩) (fun a aj=>some (jL 12 a aj))=_
  rw[e3]
  show some (jL 12 (.ref 2) _)=_
  rw[xX (l:=cj a b++iA r) rfl hn];rfl
structure DS where
 f:Option (Bool×Bool×Rt)
 w:Option Rt
 l:Option Rt
structure jl(d:DS):Prop where
 f: ∀x,d.f=some x->oh x.2.2/\x.2.2.lvl=1
 w:Kw d.w
 l:Kw d.l
def Sc(d:DS):List (List Nat):=bp (motive:=fun _=>List (List Nat)) [] (fun x=>[eA x.1]) d.f
def PX(d:DS):List AV:=bp (motive:=fun _=>List AV) [] (fun x=>[.lst [eo x.2.2]]) d.f
def fSo(d:DS):List AV:=bp (motive:=fun _=>List AV) [] (fun x=>bif x.2.1 then[.str (eA x.1)]else[]) d.f
def bK(d:DS):AV:=EC (jo d.w) (jo d.l) (Sc d) (PX d) (fSo d)
def flT(d:DS):List AV:=bp (motive:=fun _=>List AV) [] (fun x=>cj (kB x.2.1) (eA x.1)++iA x.2.2) d.f
def jf(d:DS):List AV:=bp (motive:=fun _=>List AV) [] (fun x=>cj gZ dh++(cj (kB x.2.1) (eA x.1)++iA x.2.2)) d.f
def dY(d:DS):List AV:=(jf d++fQ (cj mJ dh) d.w)++fQ (cj pN dh) d.l
def gQ(d:DS):List AV:=bif (dY d).isEmpty then[]else cj jI uT++dY d
theorem rl{a b:ac}:(cj a b).length=3:=CY
theorem yk{a b:ac}{o:Option Rt}(h:Kw o):(fQ (cj a b) o).length <=303:=by
 cases o with
 |none=>exact aS _
 |some r=>
  show(cj a b++iA r).length <=303
  rw[ao,rl];exact dA (uS (h r rfl)) 3
theorem acH{a b:ac}{o:Option Rt}:aN (fQ (cj a b) o)=true:=by
 cases o with
 |none=>rfl
 |some r=>
  show aN (cj a b++iA r)=true
  rw[b9,zy,Jr];rfl
theorem Ht{d:DS}(h:jl d):(jf d).length <=306:=by
 obtain⟨f,w,l⟩:=d
 cases f with
 |none=>exact aS _
 |some x=>
  show(cj gZ dh++(cj (kB x.2.1) (eA x.1)++iA x.2.2)).length <=306
  rw[ao,ao,rl,rl];exact dA (dA (uS (h.f x rfl).1) 3) 3
theorem aiQ{d:DS}:aN (jf d)=true:=by
 obtain⟨f,w,l⟩:=d
 cases f with
 |none=>rfl
 |some x=>
  show aN (cj gZ dh++(cj (kB x.2.1) (eA x.1)++iA x.2.2))=true
  rw[b9,b9,zy,zy,Jr];rfl
theorem Pt{d:DS}(h:jl d):(dY d).length <=1000:=by
 unfold dY
 rw[ao,ao]
 exact au (aJ (aJ (Ht h) (yk h.w)) (yk h.l)) (by decide)
theorem aiP{d:DS}:aN (dY d)=true:=by
 unfold dY;rw[b9,b9,aiQ,acH,acH];rfl
theorem VK{d:DS}:aN (gQ d)=true:=by
 unfold gQ
 cases (dY d).isEmpty
 ·show aN (cj jI uT++dY d)=true
  rw[b9,zy,aiP];rfl
 ·rfl
def K0:SM:=aV (cV [3] (tl (eJ (bO .In) (al 2) (un (aA 27) (al 0))) (ba (.str [83,68,32])) (ba (.str [70,68,32]))))
  (aV (lj (cK (fX gk) (al 1) (aw (bi (b4 .Add) (bq cN (aw (bi (b4 .Add) (bi (b4 .Add) (al 3) (al 2)) (ba (.str [46]))) (aw (ba (.bool true)) aG))) (bq iJ (aw (bi eH (un (aA 26) (al 0)) (al 2)) aG))) aG))) bu)
def EB:SM:=sh (eJ (bO .NotEq) (al 1) (bq df aG)) (aV (cV [1] (bi (b4 .Add) (bq cN (aw (ba (.str [70,73,76,69,32,83,69,67,84,73,79,78,46])) (aw (ba (.bool true)) aG))) (al 1))) bu) bu
def ti:SM:=cV [1] (bi (b4 .Add) (bi (b4 .Add) (al 1) (bq eY (aw (ba (.str [87,79,82,75,73,78,71,45,83,84,79,82,65,71,69])) (aw (un (aA 24) (al 0)) aG)))) (bq eY (aw (ba (.str [76,73,78,75,65,71,69])) (aw (un (aA 25) (al 0)) aG))))
def pd:SM:=aV (eI (tl (eJ (bO .NotEq) (al 1) (bq df aG)) (bi (b4 .Add) (bq cN (aw (ba (.str [68,65,84,65,32,68,73,86,73,83,73,79,78,46])) (aw (ba (.bool true)) aG))) (al 1)) (bq df aG))) bu
theorem agB:o9=aV (cV [1] (bq df aG)) (aV (gG [2] (un (aA 26) (al 0)) K0) (aV EB (aV ti pd))):=rfl
theorem aeM{d:DS}(h:jl d){fr:Fm}{σ:AS}{i:Nat}(h0:gt fr 0=bK d)(h1:gt fr 1= .ref i)(hi:σ.get i=some (.lst (jf d)))(hs:i<σ.next): ∃k aj,aV ti pd fr σ=some (.ret (.ref k) aj)/\aj.get k=some (.lst (gQ d)):=by
 have hu:bX (bK d)=false:=rfl
 have a24: ∀σ,aA 24 (bK d) σ=some (.lst (jo d.w)):=fun _=>rfl
 have a25: ∀σ,aA 25 (bK d) σ=some (.lst (jo d.l)):=fun _=>rfl
 have s1: ∀σ,eY [.str [87,79,82,75,73,78,71,45,83,84,79,82,65,71,69],.lst (jo d.w)] σ=some (.lst (fQ (cj mJ dh) d.w),σ):=YQ (fun _=>rfl) aoO h.w
 have s2: ∀σ,eY [.str [76,73,78,75,65,71,69],.lst (jo d.l)] σ=some (.lst (fQ (cj pN dh) d.l),σ):=YQ (fun _=>rfl) aoN h.l
 have k1:(jf d).length +(fQ (cj mJ dh) d.w).length <=4000000:=au (aJ (Ht h) (yk h.w)) (by decide)
 have k2:(jf d++fQ (cj mJ dh) d.w).length +(fQ (cj pN dh) d.l).length <=4000000:=by
  rw[ao];exact au (aJ (aJ (Ht h) (yk h.w)) (yk h.l)) (by decide)
 have e1:=Ez (m:=fQ (cj mJ dh) d.w) hi k1
 have e2:=Ez (σ:=σ.alloc (.lst (jf d++fQ (cj mJ dh) d.w))) (i:=σ.next) (l:=jf d++fQ (cj mJ dh) d.w) (m:=fQ (cj pN dh) d.l) cn k2
 generalize hσ:(σ.alloc (.lst (jf d++fQ (cj mJ dh) d.w))).alloc (.lst ((jf d++fQ (cj mJ dh) d.w)++fQ (cj pN dh) d.l))=aL at e2
 have g2:aL.get (σ.alloc (.lst (jf d++fQ (cj mJ dh) d.w))).next=some (.lst (dY d)):=by rw[<- hσ];exact cn
 have l2:(σ.alloc (.lst (jf d++fQ (cj mJ dh) d.w))).next <aL.next:=by rw[<- hσ];exact bU _
 generalize (σ.alloc (.lst (jf d++fQ (cj mJ dh) d.w))).next=j at e2 g2 l2
 have r2:ti fr σ=some (.next (put fr 1 (.ref j)) aL):=by
  unfold ti
  simp only[fO,jJ,bm,h0,h1,hu,fy,ae,aX,eB,cA,ct,d7,gq,a24,a25,cg,s1,s2,e1,e2]
 have n1:=Yj (σ:=aL.alloc (.lst [])) (i:=j) (j:=aL.next) (l:=dY d) (dQ g2 l2) cn
 have hj:gt (put fr 1 (.ref j)) 1= .ref j:=de
 cases hb:(dY d).isEmpty with
 |true=>
  refine⟨(aL.alloc (.lst [])).next,(aL.alloc (.lst [])).alloc (.lst []),?_,?_⟩
  ·show ob (ti fr σ) (gR pd)=_
   rw[r2]
   show pd (put fr 1 (.ref j)) aL=_
   unfold pd
   simp only[dm,eu,wL,fH,bm,hj,fy,ae,aX,eB,ct,pk,n1,hb,eL,cg,dI]
  ·rw[cn];unfold gQ;rw[hb];rfl
 |false=>
  have t1:=ys aoL zy (aL.alloc (.lst []))
  have g3:((aL.alloc (.lst [])).alloc (.lst (cj jI uT))).get j=some (.lst (dY d)):=dQ (dQ g2 l2) (cP l2)
  have e3:=IV (σ:=(aL.alloc (.lst [])).alloc (.lst (cj jI uT))) (i:=(aL.alloc (.lst [])).next) (j:=j) cn g3 (au (aJ (eN rl) (Pt h)) (by decide))
  refine⟨((aL.alloc (.lst [])).alloc (.lst (cj jI uT))).next,((aL.alloc (.lst [])).alloc (.lst (cj jI uT))).alloc (.lst (cj jI uT++dY d)),?_,?_⟩
  ·show ob (ti fr σ) (gR pd)=_
   rw[r2]
   show pd (put fr 1 (.ref j)) aL=_
   unfold pd
   have t1':cN [.str [68,65,84,65,32,68,73,86,73,83,73,79,78,46],.bool true] (aL.alloc (.lst []))=some (.ref (aL.alloc (.lst [])).next,(aL.alloc (.lst [])).alloc (.lst (cj jI uT))):=t1
   simp only[dm,eu,wL,fH,jJ,bm,hj,fy,ae,af,aX,eB,ct,cA,d7,pk,n1,hb,fD,cg,t1',e3,dI]
  ·rw[cn];unfold gQ;rw[hb];rfl
theorem aat(o s:Bool)(σ:AS):bO .In (.str (eA o)) (.lst (bif s then[.str (eA o)]else[])) σ=some s:=by cases o<;>cases s<;>rfl
theorem aao(o:Bool)(v:AV)(σ:AS):eH (.dct [eA o] [v]) (.str (eA o)) σ=some (v,σ):=by cases o<;>rfl
theorem aof(o s:Bool)(σ:AS):b4 .Add (.str (bif s then[83,68,32]else[70,68,32])) (.str (eA o)) σ=some (.str (kB s++32::eA o),σ):=by cases o<;>cases s<;>rfl
theorem aoe(o s:Bool)(σ:AS):b4 .Add (.str (kB s++32::eA o)) (.str [46]) σ=some (.str (kB s++32::eA o++[46]),σ):=by cases o<;>cases s<;>rfl
theorem aac{o s:Bool}{r:Rt}{w l:Option Rt}{fr:Fm}{σ:AS}{i:Nat}(h:oh r)(h0:gt fr 0=bK ⟨some (o,s,r),w,l⟩)(h1:gt fr 1= .ref i)(hi:σ.get i=some (.lst []))(hs:i<σ.next):
  ∃fr' aj,K0 (put fr 2 (.str (eA o))) σ=some (.next fr' aj)/\gt fr' 0=bK ⟨some (o,s,r),w,l⟩/\gt fr' 1= .ref i/\aj.get i=some (.lst (cj (kB s) (eA o)++iA r))/\i<aj.next:=by
 have hu:bX (bK ⟨some (o,s,r),w,l⟩)=false:=rfl
 have a26: ∀σ,aA 26 (bK ⟨some (o,s,r),w,l⟩) σ=some (.dct [eA o] [.lst [eo r]]):=fun _=>rfl
 have a27: ∀σ,aA 27 (bK ⟨some (o,s,r),w,l⟩) σ=some (.lst (bif s then[.str (eA o)]else[])):=fun _=>rfl
 have g0:gt (put fr 2 (.str (eA o))) 0=bK ⟨some (o,s,r),w,l⟩:=(fV rfl).trans h0
 have g2:gt (put fr 2 (.str (eA o))) 2= .str (eA o):=de
 have e0:cV [3] (tl (eJ (bO .In) (al 2) (un (aA 27) (al 0))) (ba (.str [83,68,32])) (ba (.str [70,68,32]))) (put fr 2 (.str (eA o))) σ=some (.next (put (put fr 2 (.str (eA o))) 3 (.str (bif s then[83,68,32]else[70,68,32]))) σ):=by
  simp only[fO,wL,fH,bm,g0,g2,hu,na,ae,aX,gq,a27,cg,aat,d7]
  cases s<;>rfl
 generalize hf:put (put fr 2 (.str (eA o))) 3 (.str (bif s then[83,68,32]else[70,68,32]))=fr2 at e0
 have f0:gt fr2 0=bK ⟨some (o,s,r),w,l⟩:=by rw[<- hf];exact(fV rfl).trans g0
 have f1:gt fr2 1= .ref i:=by rw[<- hf];exact(fV rfl).trans ((fV rfl).trans h1)
 have f2:gt fr2 2= .str (eA o):=by rw[<- hf];exact(fV rfl).trans g2
 have f3:gt fr2 3= .str (bif s then[83,68,32]else[70,68,32]):=by rw[<- hf];exact de
 have t1:=ys (aqA o s) zy σ
 have k1:(cj (kB s) (eA o)).length +(iA r).length <=4000000:=au (aJ (eN rl) (uS h)) (by decide)
 have e1:=Ez (σ:=σ.alloc (.lst (cj (kB s) (eA o)))) (i:=σ.next) (l:=cj (kB s) (eA o)) (m:=iA r) cn k1
 generalize hσ:(σ.alloc (.lst (cj (kB s) (eA o)))).alloc (.lst (cj (kB s) (eA o)++iA r))=aL at e1
 have g3:aL.get (σ.alloc (.lst (cj (kB s) (eA o)))).next=some (.lst (cj (kB s) (eA o)++iA r)):=by rw[<- hσ];exact cn
 have g4:aL.get i=some (.lst []):=by rw[<- hσ];exact dQ (dQ hi hs) (cP hs)
 have l2:i<(σ.alloc (.lst (cj (kB s) (eA o)))).next:=cP hs
 have l3:i<aL.next:=by rw[<- hσ];exact cP (cP hs)
 generalize (σ.alloc (.lst (cj (kB s) (eA o)))).next=j at e1 g3 l2
 have hij:am i j=false:=by rw[gm];exact decide_eq_false (cu l2)
 have k2:([]:List AV).length +(cj (kB s) (eA o)++iA r).length <=4000000:=by rw[ao];exact au (eN (io _)) k1
 have e2:=ahE g4 g3 hij k2
 refine⟨fr2,aL.set i (.lst ([]++(cj (kB s) (eA o)++iA r))),?_,f0,f1,eE g4,l3⟩
 show ob (cV [3] (tl (eJ (bO .In) (al 2) (un (aA 27) (al 0))) (ba (.str [83,68,32])) (ba (.str [70,68,32]))) (put fr 2 (.str (eA o))) σ) _=_
 rw[e0]
 show aV _ _ fr2 σ=_
 simp only[dm,JG,eP,bm,f0,f1,f2,f3,hu,fy,na,ae,aX,Jt hi,cg,cA,ct,eB,jJ,aof,aoe,d7,t1,gq,a26,aao,QM h,e1,e2,dF,fP]
theorem aak{d:DS}(h:jl d){fr:Fm}{σ:AS}{i:Nat}{L:aa}(h0:gt fr 0=bK d)(h1:gt fr 1= .ref i)(hi:σ.get i=some (.lst L))(hs:i<σ.next)(hL:L=flT d): ∃fr' aj j,EB fr σ=some (.next fr' aj)/\gt fr' 0=bK d/\gt fr' 1= .ref j/\aj.get j=some (.lst (jf d))/\j<aj.next:=by
 have n1:=Yj (σ:=σ.alloc (.lst [])) (i:=i) (j:=σ.next) (l:=L) (dQ hi hs) cn
 obtain⟨f,w,l⟩:=d
 cases f with
 |none=>
  have hL:L=[]:=hL
  subst hL
  refine⟨fr,σ.alloc (.lst []),i,?_,h0,h1,dQ hi hs,cP hs⟩
  unfold EB
  simp only[j9,fH,bm,h1,fy,ae,aX,eB,ct,pk,n1,GO,eL,cg,fP]
 |some x=>
  have hL:L=cj (kB x.2.1) (eA x.1)++iA x.2.2:=hL
  have he:L.isEmpty=false:=by rw[hL];rfl
  have t1:=ys aoM zy (σ.alloc (.lst []))
  have t1':cN [.str [70,73,76,69,32,83,69,67,84,73,79,78,46],.bool true] (σ.alloc (.lst []))=some (.ref (σ.alloc (.lst [])).next,(σ.alloc (.lst [])).alloc (.lst (cj gZ dh))):=t1
  have g3:((σ.alloc (.lst [])).alloc (.lst (cj gZ dh))).get i=some (.lst L):=dQ (dQ hi hs) (cP hs)
  have hk:(cj gZ dh).length +L.length<=4000000:=by
   rw[hL,ao]
   exact au (aJ (eN rl) (aJ (eN rl) (uS (h.f x rfl).1))) (by decide)
  have e3:=IV (σ:=(σ.alloc (.lst [])).alloc (.lst (cj gZ dh))) (i:=(σ.alloc (.lst [])).next) (j:=i) cn g3 hk
  refine⟨put fr 1 (.ref ((σ.alloc (.lst [])).alloc (.lst (cj gZ dh))).next),((σ.alloc (.lst [])).alloc (.lst (cj gZ dh))).alloc (.lst (cj gZ dh++L)),((σ.alloc (.lst [])).alloc (.lst (cj gZ dh))).next,?_,(fV rfl).trans h0,de,?_,bU _⟩
  ·unfold EB
   simp only[j9,fH,bm,h1,fy,ae,af,aX,eB,ct,cA,d7,pk,n1,he,fD,cg,dm,fO,jJ,t1',e3,dF,fP]
  ·rw[cn,hL];rfl
theorem Le{d:DS}:aN [bK d]=true:=by
 have h: ∀o:Option Rt,aN (jo o)=true:=fun o=>by
  cases o with
  |none=>rfl
  |some r=>show aN [eo r]=true;rw[hJ,Lg];rfl
 obtain⟨f,w,l⟩:=d
 have hf:aN (PX ⟨f,w,l⟩)=true:=by
  cases f with
  |none=>rfl
  |some x=>show aN [.lst [eo x.2.2]]=true;rw[hJ,sD,hJ,Lg];rfl
 have hs:aN (fSo ⟨f,w,l⟩)=true:=by
  cases f with
  |none=>rfl
  |some x=>show aN (bif x.2.1 then[.str (eA x.1)]else[])=true;cases x.2.1<;>rfl
 show(aN [.lst (jo w),.lst (jo l),.dct _ (PX ⟨f,w,l⟩),.lst (fSo ⟨f,w,l⟩),.int 0,.dct [] []]&&true)=true
 rw[hJ,hJ,hJ,hJ,sD,sD,sD,h,h,hs,show noRef (.dct (Sc ⟨f,w,l⟩) (PX ⟨f,w,l⟩))=true from hf];rfl
theorem adB{d:DS}(h:jl d)(σ:AS):ir [bK d] σ=some (.lst (gQ d),σ):=by
 have hu:bX (bK d)=false:=rfl
 have start: ∃fr' aj,gG [2] (un (aA 26) (al 0)) K0 [bK d,.ref 0] (AS.alloc ⟨0,[]⟩ (.lst []))=some (.next fr' aj)/\gt fr' 0=bK d/\gt fr' 1= .ref 0/\aj.get 0=some (.lst (flT d))/\0<aj.next:=by
  obtain⟨f,w,l⟩:=d
  cases f with
  |none=>exact⟨_,_,rfl,rfl,rfl,rfl,hZ _⟩
  |some x=>
   refine anH (aac (o:=x.1) (s:=x.2.1) (r:=x.2.2) (w:=w) (l:=l) (fr:=[bK ⟨some (x.1,x.2.1,x.2.2),w,l⟩,.ref 0]) (σ:=AS.alloc ⟨0,[]⟩ (.lst [])) (i:=0) (h.f x rfl).1 rfl rfl rfl (hZ _)) fun fr' aj e h0 h1 h2 h3=> ?_
   exact⟨fr',aj,(show gG [2] (un (aA 26) (al 0)) K0 [bK ⟨some x,w,l⟩,.ref 0] (AS.alloc ⟨0,[]⟩ (.lst []))=pH [2] K0 [.str (eA x.1)] [bK ⟨some x,w,l⟩,.ref 0] (AS.alloc ⟨0,[]⟩ (.lst [])) from rfl).trans ((EU e).trans rfl),h0,h1,h2,h3⟩
 refine anH (start) fun fr1 gJ e1 a0 a1 a2 a3=> ?_
 refine aqu (aak h a0 a1 a2 a3 rfl) fun fr2 hU j e2 b0 b1 b2 b3=> ?_
 refine Te (aeM h b0 b1 b2 b3) fun k qC e3 c1=> ?_
 have e4:bo 1 [] o9 [bK d] ⟨0,[]⟩=some (.ref k,qC):=by
  rw[agB]
  show ob (ob (gG [2] (un (aA 26) (al 0)) K0 [bK d,.ref 0] (AS.alloc ⟨0,[]⟩ (.lst []))) (gR (aV EB (aV ti pd)))) ib=_
  rw[e1]
  show ob (ob (EB fr1 gJ) (gR (aV ti pd))) ib=_
  rw[e2]
  show ob (aV ti pd fr2 hU) ib=_
  rw[e3];rfl
 have e5:rN [bK d] ⟨0,[]⟩=some (.lst (gQ d),qC.drop k):=by
  show bA (bo 1 [] o9 [bK d] ⟨0,[]⟩) (fun a aj=>some (jL 12 a aj))=_
  rw[e4]
  show some (jL 12 (.ref k) _)=_
  rw[xX c1 VK]
 show pr (pW (jL 14) [bK d] σ) (fun args' aj=>vY nW rN args' aj)=_
 rw[show pW (jL 14) [bK d] σ=([bK d],σ) from Qx Le]
 exact zu Le e5 VK
noncomputable def flat:Nat->AV->Bool
 |n,a=>match a with
  | .none=>true
  | .bool _=>true
  | .int _=>true
  | .str _=>true
  | .bytes _=>true
  | .tup l=>match n with
   |0=>false
   |n+1=>l.all (flat n)
  |_=>false
theorem PU(s:ac):dp s s=true:=by rw[kW];exact decide_eq_true rfl
theorem adJ(i:Int):KY i i=true:=by cases i<;>exact zi _
theorem adI(b:List UInt8):I6 b (.bytes b)=some true:=congrArg some (beq_self_eq_true b)
theorem Pj{n:Nat}{a:AV}(h:flat n a=true)(ht:CU a=false):Mc a a=some true:=by
 cases a with
 |none=>rfl
 |bool b=>cases b<;>rfl
 |int i=>exact congrArg some (adJ i)
 |str s=>exact congrArg some (PU s)
 |bytes b=>exact adI b
 |tup l=>exact ff ht.symm
 |_=>cases n<;>exact ff h
theorem Tk{n:Nat}: ∀{a:AV},flat n a=true->wJ n a a=some true:=by
 induction n with
 |zero=>
  intro a h
  refine Pj h ?_
  cases a<;>first|rfl|exact ff h
 |succ n ih=>
  intro a h
  by_cases q: ∃l,a= .tup l
  ·obtain⟨l,rfl⟩:=q
   have h:l.all (flat n)=true:=h
   show KZ (wJ n) l l=some true
   induction l with
   |nil=>rfl
   |cons a l ihl=>
    obtain⟨h1,h2⟩:=bk.mp (show(flat n a&&l.all (flat n))=true from h)
    show ob (wJ n a a) (fun x=>ob (KZ (wJ n) l l) fun y=>some (x&&y))=_
    rw[ih h1,cg,ihl (by exact h2) (by exact h2)];rfl
  ·have ht:CU a=false:=by cases a<;>first|rfl|exact absurd ⟨_,rfl⟩ q
   show(bif CU a&&CU a then _ else Mc a a)=_
   rw[ht];exact Pj h ht
theorem Hn{i:Nat}{elt:EM}{fr:Fm}{ps:List (AV×AV)}: ∀{σ:AS},(∀p∈ps,∀σ,elt (put fr i p.1) σ=some (p.2,σ))->eO [i] (fun _ σ=>some (true,σ)) elt (ps.map (·.1)) fr σ=some (ps.map (·.2),σ):=by
 induction ps with
 |nil=>exact fun _=>rfl
 |cons p ps ih=>
  intro σ h
  show bA (elt (put fr i p.1) σ) (fun b eW=>bA (eO [i] (fun _ σ=>some (true,σ)) elt (ps.map (·.1)) fr eW) fun l cO=>some (b::l,cO))=_
  rw[h p (bg ..),aX,ih fun q hq=>h q (aQ _ hq)];rfl
theorem N1{l:aa}{σ:AS}(h:l.length<=4000000):fJ σ (.lst l)=some (l,σ):=by
 show(bif dj l.length then some (l,σ)else none)=_
 rw[fZ h];rfl
theorem Hp{i:Nat}{it elt:EM}{fr:Fm}{ps:List (AV×AV)}{σ:AS}(hi:it fr σ=some (.lst (ps.map (·.1)),σ))(hl:ps.length<=4000000)(h: ∀p∈ps,∀σ,elt (put fr i p.1) σ=some (p.2,σ)):
  eX [i] it (fun _ σ=>some (true,σ)) elt fr σ=some (.ref σ.next,σ.alloc (.lst (ps.map (·.2)))):=by
 show bA (it fr σ) (fun x aj=>bA (fJ aj x) fun l ay=>bA (eO [i] (fun _ σ=>some (true,σ)) elt l fr ay) fun vs aL=>bif dj vs.length then some (AV.ref aL.next,aL.alloc (.lst vs))else none)=_
 rw[hi,aX,N1 (by rw[aU];exact hl),aX,Hn h,aX,fZ (by rw[aU];exact hl)];rfl
theorem yu{l:aa}{σ:AS}{j:Nat}(hj:σ.get j=some (.lst l))(h:l.length<=4000000):fu [.ref j] σ=some (.tup l,σ):=by
 show ob (iU σ (.ref j)) (fun l=>bif dj l.length then some (AV.tup l,σ)else none)=_
 rw[show iU σ (.ref j)=some l from jn hj,cg,fZ h];rfl
noncomputable def Q3(lv nmv cl:AV)(nds kds:aa):AV:=.tup [lv,nmv,cl,.tup nds,.tup kds]
def ndT(n:Nat):AV:=.tup [.str ([73,83,45]++nm n),.tup [.tup [.tup [.str [110,117,109,98,101,114],.tup [.int (-5),.int 0]],.tup [.str [110,117,109,98,101,114],.tup [.int 125,.int 2]]],.tup [.tup [.str [116,101,120,116],.bytes [113]],.none]]]
theorem Ui{n:Nat}{it lv nmv cl:AV}{cs ks:List (AV×AV)}(hit:noRef it=true)(hu:bX it=false)(h20: ∀σ,aA 20 it σ=some lv)(h18: ∀σ,aA 18 it σ=some nmv)(h23: ∀σ,aA 23 it σ=some (.lst (cs.map (·.1))))(h22: ∀σ,aA 22 it σ=some (.lst (ks.map (·.1))))(hm: ∀σ,yZ it σ=some jq)(hcl: ∀σ,jq [it] σ=some (cl,σ))
  (hc: ∀p∈cs,∀σ,bX p.1=false/\F0 p.1 σ=some nF/\fz [p.1] σ=some (p.2,σ))(hk: ∀p∈ks,∀σ,bX p.1=false/\F0 p.1 σ=some cq/\bG n [p.1] σ=some (p.2,σ))(hcl1:cs.length<=4000000)(hkl:ks.length<=4000000)(hr:noRef (Q3 lv nmv cl (cs.map (·.2)) (ks.map (·.2)))=true)(σ:AS):
  bG (n+1) [it] σ=some (Q3 lv nmv cl (cs.map (·.2)) (ks.map (·.2)),σ):=by
 have c1: ∀σ,eX [3] (un (aA 23) (al 0)) (fun _ σ=>some (true,σ)) (cK (fx nF fz (fx cq (bG n) gU)) (al 3) aG) [it] σ=some (.ref σ.next,σ.alloc (.lst (cs.map (·.2)))):=fun σ=>Hp (by simp only[gq,bm,kO,hu,ae,aX,h23,cg]) hcl1 fun p hp σ=>by
  obtain⟨u,q1,q2⟩:=hc p hp σ
  have hd:fx nF fz (fx cq (bG n) gU) p.1 σ=some fz:=jn q1
  simp only[eP,bm,de,u,ae,aX,hd,cg,ct,q2]
 have c2: ∀fr σ,gt fr 0=it->eX [2] (un (aA 22) (al 0)) (fun _ σ=>some (true,σ)) (cK (fx nF fz (fx cq (bG n) gU)) (al 2) aG) fr σ=some (.ref σ.next,σ.alloc (.lst (ks.map (·.2)))):=fun fr σ hf=>Hp (by simp only[gq,bm,hf,hu,ae,aX,h22,cg]) hkl fun p hp σ=>by
  obtain⟨u,q1,q2⟩:=hk p hp σ
  have hd:fx nF fz (fx cq (bG n) gU) p.1 σ=some (bG n):=(jn q1).trans (jn q1)
  simp only[eP,bm,de,u,ae,aX,hd,cg,ct,q2]
 have t1: ∀σ:AS,fu [.ref σ.next] (σ.alloc (.lst (cs.map (·.2))))=some (.tup (cs.map (·.2)),σ.alloc (.lst (cs.map (·.2)))):=fun σ=>yu cn (by rw[aU];exact hcl1)
 have t2: ∀σ:AS,fu [.ref σ.next] (σ.alloc (.lst (ks.map (·.2))))=some (.tup (ks.map (·.2)),σ.alloc (.lst (ks.map (·.2)))):=fun σ=>yu cn (by rw[aU];exact hkl)
 have hmk: ∀a b c d e σ,gp [a,b,c,d,e] σ=some (.tup [a,b,c,d,e],σ):=fun _ _ _ _ _ _=>rfl
 have e1: ∀σ:AS,wH (bG n) [it] σ=some (Q3 lv nmv cl (cs.map (·.2)) (ks.map (·.2)),(σ.alloc (.lst (cs.map (·.2)))).alloc (.lst (ks.map (·.2)))):=fun σ=>by
  show ob (zb (bG n) [it] σ) ib=_
  have hut:bX (.tup (cs.map (·.2)))=false:=rfl
  simp only[zb,dm,fO,eB,cA,ct,c1,aX,t1,cg,dF,sF,sG,putN,eu,gq,bm,kO,pf,hu,hut,ae,h20,h18,eP,hm,hcl,c2 [it,.tup (cs.map (·.2))] _ rfl,t2,hmk,dI,gF]
  rfl
 exact zu (PI:=wH (bG n)) (by rw[hJ,hit];rfl) (e1 _) hr
theorem uo{n:Nat}: ∀{a:AV},flat n a=true->flat (n+1) a=true:=by
 induction n with
 |zero=>intro a h;cases a<;>first|rfl|exact ff h
 |succ n ih=>
  intro a h
  cases a with
  |tup l=>exact b5.mpr fun b hb=>ih (b5.mp (show l.all (flat n)=true from h) b hb)
  |_=>first|rfl|exact ff h
theorem EF{n k:Nat}{a:AV}(h:flat n a=true):flat (n+k) a=true:=by
 induction k with
 |zero=>exact h
 |succ k ih=>exact uo ih
theorem PY{n:Nat}: ∀{a:AV},flat n a=true->noRef a=true:=by
 induction n with
 |zero=>intro a h;cases a<;>first|rfl|exact ff h
 |succ n ih=>
  intro a h
  cases a with
  |tup l=>
   have h:l.all (flat n)=true:=h
   show aN l=true
   induction l with
   |nil=>rfl
   |cons a l ihl=>
    obtain⟨h1,h2⟩:=bk.mp (show(flat n a&&l.all (flat n))=true from h)
    rw[hJ,ih h1,ihl h2 h2];rfl
  |_=>first|rfl|exact ff h
theorem Vr{n:Nat}{a:AV}{l:aa}:(a::l).all (flat n)=(flat n a&&l.all (flat n)):=rfl
noncomputable def ocT(w:Nat):AV:=bif am w 2 then .tup [.int 3,.int 3,.none,.tup [.tup [.bool false,.str [75]]],.tup [.str [73,88]]]
 else bif am w 3 then .tup [.int 0,.int 4,.tup [.str [114,101,102],.str [78],.tup [.str [71]],.tup [],.none],.tup [],.tup []]else .none
noncomputable def clT(x:Nat×Nat×Nat):AV:=.tup [yb x.2.2,.str (an5 x.2.1),.str [],.bool false,ocT x.2.1,.str [],.none,.bool false,.bool false,.none]
theorem TU(p:Nat):tr (yb p)=some (yb p)/\flat 1 (yb p)=true:=by
 unfold yb
 cases am p 0
 ·cases am p 1
  ·cases am p 2<;>exact⟨rfl,rfl⟩
  ·exact⟨rfl,rfl⟩
 ·exact⟨rfl,rfl⟩
theorem ya{P:AV->AV->Prop}{w:Nat}(h0:P .none .none)(h2:P (.frz lR [8,9,7,6,5] [.int 3,.int 3,.none,.tup [.tup [.bool false,.str [75]]],.tup [.str [73,88]]]) (.tup [.int 3,.int 3,.none,.tup [.tup [.bool false,.str [75]]],.tup [.str [73,88]]]))
  (h3:P (.frz lR [8,9,7,6,5] [.int 0,.int 4,.tup [.str [114,101,102],.str [78],.tup [.str [71]],.tup [],.none],.tup [],.tup []]) (.tup [.int 0,.int 4,.tup [.str [114,101,102],.str [78],.tup [.str [71]],.tup [],.none],.tup [],.tup []])):P (QC w) (ocT w):=by
 unfold QC ocT
 cases am w 2
 ·cases am w 3
  ·exact h0
  ·exact h3
 ·exact h2
theorem Mg{it o ot a16 a15 a10 a35 a17 a11 a13 a12 a21:AV}(hu:bX it=false)(h14: ∀σ,aA 14 it σ=some o)(ho: ∀σ,(tl (eJ (bO .Is) (un (aA 14) (al 0)) (ba (.none))) (ba (.none)) (cK (fx lR ja gU) (un (aA 14) (al 0)) aG)) [it] σ=some (ot,σ))(hou:bX ot=false)
  (h16: ∀σ,aA 16 it σ=some a16)(h15: ∀σ,aA 15 it σ=some a15)(h10: ∀σ,aA 10 it σ=some a10)(h35: ∀σ,aA 35 it σ=some a35)(h17: ∀σ,aA 17 it σ=some a17)(h11: ∀σ,aA 11 it σ=some a11)(h13: ∀σ,aA 13 it σ=some a13)(h12: ∀σ,aA 12 it σ=some a12)(h21: ∀σ,aA 21 it σ=some a21)(σ:AS):
  jq [it] σ=some (.tup [a16,a15,a10,a35,ot,a17,a11,a13,a12,a21],σ):=by
 have m6: ∀a b c d e f σ,gp [a,b,c,d,e,f] σ=some (.tup [a,b,c,d,e,f],σ):=fun _ _ _ _ _ _ _=>rfl
 have m4: ∀a b c d σ,gp [a,b,c,d] σ=some (.tup [a,b,c,d],σ):=fun _ _ _ _ _=>rfl
 have ad: ∀a b c d e f g h i j σ,b4 .Add (.tup [a,b,c,d,e,f]) (.tup [g,h,i,j]) σ=some (.tup [a,b,c,d,e,f,g,h,i,j],σ):=fun _ _ _ _ _ _ _ _ _ _ _=>rfl
 show ob (ob (bA ((tl (eJ (bO .Is) (un (aA 14) (al 0)) (ba (.none))) (ba (.none)) (cK (fx lR ja gU) (un (aA 14) (al 0)) aG)) [it] σ) fun v aj=>some (kg.next (put [it] 1 v) aj)) (gR (aV (cV [2] (bq gp (aw (un (aA 16) (al 0)) (aw (un (aA 15) (al 0)) (aw (un (aA 10) (al 0)) (aw (un (aA 35) (al 0)) (aw (al 1) (aw (un (aA 17) (al 0)) aG))))))))
  (aV (eI (bi (b4 .Add) (al 2) (bq gp (aw (un (aA 11) (al 0)) (aw (un (aA 13) (al 0)) (aw (un (aA 12) (al 0)) (aw (un (aA 21) (al 0)) aG))))))) bu)))) ib=_
 rw[ho]
 have hut: ∀l,bX (.tup l)=false:=fun _=>rfl
 simp only[aX,cg,dF,sF,sG,putN,dm,fO,eB,cA,ct,gq,bm,kO,pf,hu,hou,hut,ae,h16,h15,h10,h35,h17,h11,h13,h12,h21,m6,m4,eu,jJ,ad,dI,gF]
theorem ZS{x:Nat×Nat×Nat}{lv:Int}{c k p:AV}(σ:AS):jq [.frz cq gn (.int lv::kh x c k p .none)] σ=some (clT x,σ):=by
 refine Mg (it:=.frz cq gn (.int lv::kh x c k p .none)) (o:=QC x.2.1) (ot:=ocT x.2.1) rfl (fun _=> ?_) (fun σ=> ?_) ?_ (fun _=>(TU x.2.2).1) (fun _=>rfl) (fun _=>rfl) (fun _=>rfl) (fun _=>rfl) (fun _=>rfl) (fun _=>rfl) (fun _=>rfl) (fun _=>rfl) σ
 ·exact ya (P:=fun o _=>tr o=some o) rfl rfl rfl
 ·have h: ∀σ,aA 14 (.frz cq gn (.int lv::kh x c k p .none)) σ=some (QC x.2.1):=fun _=>ya (P:=fun o _=>tr o=some o) rfl rfl rfl
  have hu:bX (.frz cq gn (.int lv::kh x c k p .none))=false:=rfl
  revert h hu
  generalize AV.frz cq gn (.int lv::kh x c k p .none)=it
  intro h hu
  simp only[wL,fH,gq,bm,kO,hu,ae,aX,h,cg,d7,ail,eP,ct]
  exact ya (P:=fun o t=>(bA (ob (lU o) fun r=>some (r,σ)) fun t' aj=>bif t' then some (AV.none,aj)else ob (fx lR ja gU o aj) fun F=>F [o] aj)=some (t,σ)) rfl rfl rfl
 ·exact ya (P:=fun _ t=>bX t=false) rfl rfl rfl
theorem adw(x:Nat×Nat×Nat):flat 6 (clT x)=true:=by
 have h1:flat 5 (yb x.2.2)=true:=EF (n:=1) (k:=4) (TU x.2.2).2
 have h2:flat 5 (ocT x.2.1)=true:=ya (P:=fun _ t=>flat 5 t=true) rfl rfl rfl
 show(flat 5 (yb x.2.2)&&(true&&(true&&(true&&(flat 5 (ocT x.2.1)&&true)))))=true
 rw[h1,h2];rfl
theorem aev(n:Nat):flat 5 (ndT n)=true:=rfl
def Yi(lvl:Nat)(l:Lf):List AV:=bif l.c then[ndT (ke lvl l)]else[]
def Hy(lvl:Nat)(l:Lf)(kds:aa):AV:=Q3 (.int (ai lvl)) (.str (nm (ke lvl l))) (clT (kd lvl l.i)) (Yi lvl l) kds
theorem rm{n lvl:Nat}{l:Lf}{kds:aa}(h:kds.all (flat (n+5))=true):flat (n+7) (Hy lvl l kds)=true:=by
 have h1:flat (n+6) (clT (kd lvl l.i))=true:=lG 6 n▸EF (k:=n) (adw (kd lvl l.i))
 have h2:(Yi lvl l).all (flat (n+5))=true:=by
  unfold Yi
  cases l.c
  ·rfl
  ·show(flat (n+5) (ndT (ke lvl l))&&true)=true
   rw[show flat (n+5) (ndT (ke lvl l))=true from lG 5 n▸EF (k:=n) (aev (ke lvl l))];rfl
 show(true&&(true&&(flat (n+6) (clT (kd lvl l.i))&&((Yi lvl l).all (flat (n+5))&&(kds.all (flat (n+5))&&true)))))=true
 rw[h1,h2,h];rfl
theorem zP{n m lvl:Nat}{l:Lf}{ks:List (AV×AV)}{p:AV}(hks:aN (ks.map (·.1))=true)(hp:noRef p=true)(hk: ∀q∈ks,∀σ,bX q.1=false/\F0 q.1 σ=some cq/\bG n [q.1] σ=some (q.2,σ))(hkl:ks.length<=4000000)(hf:(ks.map (·.2)).all (flat (m+5))=true)(σ:AS):
  bG (n+1) [pi lvl l (ks.map (·.1)) p] σ=some (Hy lvl l (ks.map (·.2)),σ):=by
 have hit:noRef (pi lvl l (ks.map (·.1)) p)=true:=by
  show(true&&aN (kh _ _ _ _ _))=true
  rw[HF,HE,sD,hks,hp];rfl
 have hr:=PY (rm (n:=m) (lvl:=lvl) (l:=l) hf)
 have key: ∀cs:List (AV×AV),conds lvl l= .lst (cs.map (·.1))->cs.map (·.2)=Yi lvl l->cs.length<=4000000->(∀q∈cs,∀σ,bX q.1=false/\F0 q.1 σ=some nF/\fz [q.1] σ=some (q.2,σ))->bG (n+1) [pi lvl l (ks.map (·.1)) p] σ=some (Hy lvl l (ks.map (·.2)),σ):=fun cs h1 h2 h3 h4=>by
  have h:=Ui (n:=n) (it:=pi lvl l (ks.map (·.1)) p) (lv:=.int (ai lvl)) (nmv:=.str (nm (ke lvl l))) (cl:=clT (kd lvl l.i)) (cs:=cs) (ks:=ks) hit rfl (fun _=>rfl) (fun _=>rfl) (fun σ=> ?_) (fun _=>rfl) (fun _=>rfl) (fun _=>ZS _) h4 hk h3 hkl (by rw[h2];exact hr) σ
  ·rw[h2]at h;exact h
  ·rw[<- h1]
   obtain⟨i,c⟩:=l
   cases c<;>rfl
 obtain⟨i,c⟩:=l
 cases c with
 |false=>exact key [] rfl rfl (aS _) fun _ h=>absurd h bh
 |true=>exact key [(qt (ke lvl ⟨i,true⟩),ndT (ke lvl ⟨i,true⟩))] rfl rfl (av rfl) fun q hq σ=>(aP.mp hq)▸⟨rfl,rfl,rfl⟩
def rnC(l:Nat):AV:=.tup [.none,.str [],.str [],.bool false,.none,.str [],.none,.bool false,.bool false,yi l]
def TY(n l:Nat):AV:=Q3 (.int 66) (.str (nm n)) (rnC l) [] []
theorem N7{P:AV->Prop}(h0:P (.tup [.str (nm 16),.none]))(h1:P (.tup [.str (nm 16),.str (nm 22)]))(l:Nat):P (yi l):=by
 cases l with
 |zero=>exact h0
 |succ l=>exact h1
theorem QK(n l:Nat):flat 6 (TY n l)=true:=by
 have h:flat 4 (yi l)=true:=N7 (P:=fun a=>flat 4 a=true) rfl rfl l
 show(true&&(true&&((true&&(true&&(true&&(true&&(true&&(true&&(true&&(true&&(true&&(flat 4 (yi l)&&true))))))))))&&(true&&(true&&true)))))=true
 rw[h];rfl
theorem afy{n i l:Nat}(σ:AS):bG (n+1) [.frz cq gn (km i l .opq)] σ=some (TY i l,σ):=by
 have hrn:noRef (yi l)=true:=N7 (P:=fun a=>noRef a=true) rfl rfl l
 have hit:noRef (.frz cq gn (km i l .opq))=true:=by
  show aN (km i l .opq)=true
  simp only[km,hJ,Ys,Yq,Yo,Yn,acF,sD,hrn,Yr,rG]
 exact Ui (n:=n) (it:=.frz cq gn (km i l .opq)) (lv:=.int 66) (nmv:=.str (nm i)) (cl:=rnC l) (cs:=[]) (ks:=[]) hit rfl (fun _=>rfl) (fun _=>rfl) (fun _=>rfl) (fun _=>rfl) (fun _=>rfl)
  (fun σ=>Mg (it:=.frz cq gn (km i l .opq)) (o:=.none) (ot:=.none) (a21:=yi l) rfl (fun _=>rfl) (fun _=>rfl) rfl (fun _=>rfl) (fun _=>rfl) (fun _=>rfl) (fun _=>rfl) (fun _=>rfl) (fun _=>rfl) (fun _=>rfl) (fun _=>rfl) (fun _=>N7 (P:=fun a=>tr a=some a) rfl rfl l) σ)
  (fun _ h=>absurd h bh) (fun _ h=>absurd h bh) (aS _) (aS _) (PY (QK i l)) σ
def CZ(lvl:Nat)(l:Lf):AV:=Hy lvl l []
theorem K8(lvl:Nat)(l:Lf):flat 7 (CZ lvl l)=true:=rm (n:=0) rfl
theorem J1{n lvl:Nat}{l:Lf}(σ:AS):bG (n+1) [oq lvl l .opq] σ=some (CZ lvl l,σ):=zP (m:=0) (ks:=[]) rfl rfl (fun _ h=>absurd h bh) (aS _) rfl σ
def J0(t:Tn):AV:=match t with
 | .leaf l=>CZ 5 l
 | .grp g a=>Hy 5 g [CZ 10 a]
 | .grp2 g a b=>Hy 5 g [CZ 10 a,CZ 10 b]
theorem abq(t:Tn):flat 9 (J0 t)=true:=by
 have h: ∀a,flat 7 (CZ 10 a)=true:=K8 10
 cases t with
 |leaf l=>exact uo (uo (K8 5 l))
 |grp g a=>exact rm (n:=2) (by rw[Vr];show(flat 7 (CZ 10 a)&&true)=true;rw[h];rfl)
 |grp2 g a b=>exact rm (n:=2) (by rw[Vr,Vr];show(flat 7 (CZ 10 a)&&(flat 7 (CZ 10 b)&&true))=true;rw[h,h];rfl)
theorem ald{n:Nat}(t:Tn)(σ:AS):bG (n+2) [sQ t] σ=some (J0 t,σ):=by
 have h: ∀a,flat 7 (CZ 10 a)=true:=K8 10
 cases t with
 |leaf l=>exact J1 (n:=n+1) σ
 |grp g a=>exact zP (n:=n+1) (m:=2) (lvl:=5) (l:=g) (ks:=[(oq 10 a .opq,CZ 10 a)]) (p:=.opq) (by rw[bj,jY,hJ,qu];rfl) rfl (fun q hq σ=>(aP.mp hq)▸⟨rfl,rfl,J1 σ⟩) (av rfl) (by show(flat 7 (CZ 10 a)&&true)=true;rw[h];rfl) σ
 |grp2 g a b=>exact zP (n:=n+1) (m:=2) (lvl:=5) (l:=g) (ks:=[(oq 10 a .opq,CZ 10 a),(oq 10 b .opq,CZ 10 b)]) (p:=.opq) (by rw[bj,bj,jY,hJ,hJ,qu,qu];rfl) rfl (fun q hq σ=>(aH.mp hq).elim (fun h=>h▸⟨rfl,rfl,J1 σ⟩) fun hq=>(aP.mp hq)▸⟨rfl,rfl,J1 σ⟩) (av rfl) (by show(flat 7 (CZ 10 a)&&(flat 7 (CZ 10 b)&&true))=true;rw[h,h];rfl) σ
def QL(i n:Nat):List AV:=hY (motive:=fun _=>List AV) [] (fun l _=>[TY (17+i) l]) n
def JE(r:Rt):AV:=Hy r.lvl r.it (r.ts.map J0++QL (ke 1 r.it) r.ren)
theorem TC(r:Rt):(r.ts.map J0++QL (ke 1 r.it) r.ren).all (flat 9)=true:=by
 rw[oL]
 have h1:(r.ts.map J0).all (flat 9)=true:=b5.mpr fun a ha=>by
  obtain⟨t,_,rfl⟩:=dD.mp ha
  exact abq t
 have h2:(QL (ke 1 r.it) r.ren).all (flat 9)=true:=by
  cases r.ren with
  |zero=>rfl
  |succ l=>
   show(flat 9 (TY (17+ke 1 r.it) l)&&true)=true
   rw[show flat 9 (TY (17+ke 1 r.it) l)=true from EF (n:=6) (k:=3) (QK _ _)];rfl
 rw[h1,h2];rfl
theorem QN(r:Rt):flat 11 (JE r)=true:=rm (n:=4) (TC r)
theorem alc{r:Rt}(h:r.ts.length<=8)(σ:AS):bG 6 [eo r] σ=some (JE r,σ):=by
 have hr: ∃ks:List (AV×AV),ks.map (·.1)=qT r/\ks.map (·.2)=QL (ke 1 r.it) r.ren/\ks.length<=1/\ ∀k∈ks,∀σ,bX k.1=false/\F0 k.1 σ=some cq/\bG 5 [k.1] σ=some (k.2,σ):=by
  obtain⟨lv,it,ts,n⟩:=r
  cases n with
  |zero=>exact⟨[],rfl,rfl,aS _,fun _ h=>absurd h bh⟩
  |succ l=>exact⟨[(.frz cq gn (km (17+ke 1 it) l .opq),TY (17+ke 1 it) l)],rfl,rfl,ax _,fun k hk σ=>(aP.mp hk)▸⟨rfl,rfl,afy σ⟩⟩
 obtain⟨ks,r1,r2,r3,r4⟩:=hr
 have hf:(r.ts.map (fun t=>(sQ t,J0 t))++ks).map (·.1)=DU r.ts++qT r:=by
  rw[bw,r1,gO]
  refine congrArg (· ++qT r) ?_
  induction r.ts with
  |nil=>rfl
  |cons t ts ih=>exact congrArg (sQ t:: ·) ih
 have hs:(r.ts.map (fun t=>(sQ t,J0 t))++ks).map (·.2)=r.ts.map J0++QL (ke 1 r.it) r.ren:=by
  rw[bw,r2,gO];rfl
 have q:=zP (n:=5) (m:=4) (lvl:=r.lvl) (l:=r.it) (ks:=r.ts.map (fun t=>(sQ t,J0 t))++ks) (p:=.none) (by rw[hf,b9,N5,VM];rfl) rfl
  (fun q hq σ=>(cX.mp hq).elim (fun hq=>by
   obtain⟨t,_,rfl⟩:=dD.mp hq
   exact⟨by cases t<;>rfl,by cases t<;>rfl,ald (n:=3) t σ⟩) fun hq=>r4 q hq σ)
  (by rw[ao,aU];exact au (aJ h r3) (by decide))
  (by rw[hs];exact TC r) σ
 rw[hf,hs]at q
 exact q
def kH(o:Option Rt):List AV:=bp (motive:=fun _=>List AV) [] (fun r=>[JE r]) o
def PV(d:DS):List AV:=bp (motive:=fun _=>List AV) [] (fun x=>[.tup [.str (eA x.1),.bool x.2.1,.tup [JE x.2.2]]]) d.f
def agJ(d:DS):AV:=.tup [.tup (kH d.w),.tup (kH d.l),.tup (PV d)]
theorem YM(o:Option Rt):(kH o).all (flat 11)=true:=by
 cases o with
 |none=>rfl
 |some r=>
  show(flat 11 (JE r)&&true)=true
  rw[QN];rfl
theorem PN(d:DS):flat 16 (agJ d)=true:=by
 have up: ∀o,(kH o).all (flat 14)=true:=fun o=>b5.mpr fun a ha=>uo (uo (uo (b5.mp (YM o) a ha)))
 have hf:(PV d).all (flat 14)=true:=by
  obtain⟨f,w,l⟩:=d
  cases f with
  |none=>rfl
  |some x=>
   show((true&&(true&&((flat 12 (JE x.2.2)&&true)&&true)))&&true)=true
   have:flat 12 (JE x.2.2)=true:=uo (QN x.2.2)
   rw[this];rfl
 show(((kH d.w).all (flat 14))&&((kH d.l).all (flat 14)&&((PV d).all (flat 14)&&true)))=true
 rw[up,up,hf];rfl
theorem PO{i:Nat}{it elt:EM}{fr:Fm}{ps:List (AV×AV)}{σ:AS}{x:AV}(hi:it fr σ=some (x,σ))(hx:fJ σ x=some (ps.map (·.1),σ))(hl:ps.length<=4000000)(h: ∀p∈ps,∀σ,∃aj,elt (put fr i p.1) σ=some (p.2,aj)):
  ∃aj:AS,eX [i] it (fun _ σ=>some (true,σ)) elt fr σ=some (.ref aj.next,aj.alloc (.lst (ps.map (·.2)))):=by
 have hc: ∀(ps:List (AV×AV)),(∀p∈ps,∀σ,∃aj,elt (put fr i p.1) σ=some (p.2,aj))-> ∀σ,∃aj,eO [i] (fun _ σ=>some (true,σ)) elt (ps.map (·.1)) fr σ=some (ps.map (·.2),aj):=fun ps=>by
  induction ps with
  |nil=>exact fun _ σ=>⟨σ,rfl⟩
  |cons p ps ih=>
   intro h σ
   obtain⟨gJ,e1⟩:=h p (bg ..) σ
   obtain⟨hU,e2⟩:=ih (fun q hq=>h q (aQ _ hq)) gJ
   refine⟨hU,?_⟩
   show bA (elt (put fr i p.1) σ) (fun b eW=>bA (eO [i] (fun _ σ=>some (true,σ)) elt (ps.map (·.1)) fr eW) fun l cO=>some (b::l,cO))=_
   rw[e1,aX,e2];rfl
 obtain⟨aj,e⟩:=hc ps h σ
 refine⟨aj,?_⟩
 show bA (it fr σ) (fun x aj=>bA (fJ aj x) fun l ay=>bA (eO [i] (fun _ σ=>some (true,σ)) elt l fr ay) fun vs aL=>bif dj vs.length then some (AV.ref aL.next,aL.alloc (.lst vs))else none)=_
 rw[hi,aX,hx,aX,e,aX,fZ (by rw[aU];exact hl)];rfl
theorem Kw.ts{o:Option Rt}(h:Kw o): ∀r,o=some r->r.ts.length<=8:=fun r e=>au (h r e).lv.2 (by decide)
def rtP(o:Option Rt):List (AV×AV):=bp (motive:=fun _=>List (AV×AV)) [] (fun r=>[(eo r,JE r)]) o
theorem Dw{o:Option Rt}(h: ∀r,o=some r->r.ts.length<=8){i:Nat}{it:EM}{fr:Fm}{σ:AS}(hi:it fr σ=some (.lst (jo o),σ)):eX [i] it (fun _ σ=>some (true,σ)) (cK (fx cq (bG 6) gU) (al i) aG) fr σ=some (.ref σ.next,σ.alloc (.lst (kH o))):=by
 have h1:(rtP o).map (·.1)=jo o/\(rtP o).map (·.2)=kH o/\(rtP o).length <=4000000:=by cases o<;>exact⟨rfl,rfl,av rfl⟩
 rw[<- h1.2.1]
 refine Hp (ps:=rtP o) (by rw[h1.1];exact hi) h1.2.2 fun p hp σ=> ?_
 cases o with
 |none=>exact absurd hp bh
 |some r=>
  rw[aP.mp hp]
  have hd:fx cq (bG 6) gU (eo r) σ=some (bG 6):=rfl
  have hu:bX (eo r)=false:=rfl
  simp only[eP,bm,de,hu,ae,aX,hd,cg,ct,alc (h r rfl)]
theorem abr{d:DS}(h:jl d)(σ:AS):s9 [bK d] σ=some (agJ d,σ):=by
 have hu:bX (bK d)=false:=rfl
 have a24: ∀σ,aA 24 (bK d) σ=some (.lst (jo d.w)):=fun _=>rfl
 have a25: ∀σ,aA 25 (bK d) σ=some (.lst (jo d.l)):=fun _=>rfl
 have start: ∀σ,∃aj,cV [1] (bq fu (aw (eX [4] (un (aA 26) (al 0)) (fun _ σ=>some (true,σ)) (bq gp (aw (al 4) (aw (rY (eJ (bO .In) (al 4) (un (aA 27) (al 0)))) (aw (bq fu (aw (eX [5] (bi eH (un (aA 26) (al 0)) (al 4)) (fun _ σ=>some (true,σ)) (cK (fx cq (bG 6) gU) (al 5) aG)) aG)) aG))))) aG)) [bK d] σ=some (.next [bK d,.tup (PV d)] aj):=fun σ=>by
  have hc: ∃aj:AS,eX [4] (un (aA 26) (al 0)) (fun _ σ=>some (true,σ)) (bq gp (aw (al 4) (aw (rY (eJ (bO .In) (al 4) (un (aA 27) (al 0)))) (aw (bq fu (aw (eX [5] (bi eH (un (aA 26) (al 0)) (al 4)) (fun _ σ=>some (true,σ)) (cK (fx cq (bG 6) gU) (al 5) aG)) aG)) aG)))) [bK d] σ=some (.ref aj.next,aj.alloc (.lst (PV d)))/\(PV d).length <=4000000:=by
   obtain⟨f,w,l⟩:=d
   cases f with
   |none=>
    obtain⟨aj,e⟩:=PO (i:=4) (it:=un (aA 26) (al 0)) (elt:=bq gp (aw (al 4) (aw (rY (eJ (bO .In) (al 4) (un (aA 27) (al 0)))) (aw (bq fu (aw (eX [5] (bi eH (un (aA 26) (al 0)) (al 4)) (fun _ σ=>some (true,σ)) (cK (fx cq (bG 6) gU) (al 5) aG)) aG)) aG)))) (fr:=[bK ⟨none,w,l⟩]) (ps:=[]) (σ:=σ) (x:=.dct [] []) rfl rfl (aS _) (fun _ h=>absurd h bh)
    exact⟨aj,e,aS _⟩
   |some x=>
    obtain⟨o,s,r⟩:=x
    have hr: ∀r',some r=some r'->r'.ts.length<=8:=fun r' e=>by cases e;exact au (h.f _ rfl).1.lv.2 (by decide)
    obtain⟨aj,e⟩:=PO (i:=4) (it:=un (aA 26) (al 0)) (elt:=bq gp (aw (al 4) (aw (rY (eJ (bO .In) (al 4) (un (aA 27) (al 0)))) (aw (bq fu (aw (eX [5] (bi eH (un (aA 26) (al 0)) (al 4)) (fun _ σ=>some (true,σ)) (cK (fx cq (bG 6) gU) (al 5) aG)) aG)) aG)))) (fr:=[bK ⟨some (o,s,r),w,l⟩]) (ps:=[(.str (eA o),.tup [.str (eA o),.bool s,.tup [JE r]])]) (σ:=σ) (x:=.dct [eA o] [.lst [eo r]]) rfl rfl (av rfl) (fun p hp σ=>by
     rw[aP.mp hp]
     have a26: ∀σ,aA 26 (bK ⟨some (o,s,r),w,l⟩) σ=some (.dct [eA o] [.lst [eo r]]):=fun _=>rfl
     have a27: ∀σ,aA 27 (bK ⟨some (o,s,r),w,l⟩) σ=some (.lst (bif s then[.str (eA o)]else[])):=fun _=>rfl
     have g0:gt (put [bK ⟨some (o,s,r),w,l⟩] 4 (.str (eA o))) 0=bK ⟨some (o,s,r),w,l⟩:=rfl
     have m3: ∀a b c σ,gp [a,b,c] σ=some (.tup [a,b,c],σ):=fun _ _ _ _=>rfl
     have hrt:=Dw (o:=some r) hr (i:=5) (it:=bi eH (un (aA 26) (al 0)) (al 4)) (fr:=put [bK ⟨some (o,s,r),w,l⟩] 4 (.str (eA o))) (σ:=σ) (by simp only[jJ,gq,bm,g0,de,hu,na,ae,aX,a26,cg,aao];rfl)
     have ht:=yu (σ:=σ.alloc (.lst (kH (some r)))) (j:=σ.next) cn (show(kH (some r)).length <=4000000 from av rfl)
     exact⟨_,by
      simp only[eB,cA,ct,bm,de,g0,hu,na,ae,aX,wP,fH,gq,a27,cg,aat,hrt,ht,m3]
      rfl⟩)
    exact⟨aj,e,av rfl⟩
  refine fg (hc) fun aj e hl=> ?_
  have ht:=yu (σ:=aj.alloc (.lst (PV d))) (j:=aj.next) cn hl
  exact⟨aj.alloc (.lst (PV d)),by simp only[fO,eB,cA,ct,e,aX,ht,sF,sG,putN]⟩
 obtain⟨gJ,e1⟩:=start ⟨0,[]⟩
 have c3:=Dw h.w.ts (i:=3) (it:=un (aA 24) (al 0)) (fr:=[bK d,.tup (PV d)]) (σ:=gJ) (by simp only[gq,bm,kO,hu,ae,aX,a24,cg])
 have c2:=Dw h.l.ts (i:=2) (it:=un (aA 25) (al 0)) (fr:=[bK d,.tup (PV d)]) (σ:=gJ.alloc (.lst (kH d.w))) (by simp only[gq,bm,kO,hu,ae,aX,a25,cg])
 have t3:=yu (σ:=gJ.alloc (.lst (kH d.w))) (j:=gJ.next) cn (show(kH d.w).length <=4000000 by cases d.w<;>exact av rfl)
 have t2:=yu (σ:=(gJ.alloc (.lst (kH d.w))).alloc (.lst (kH d.l))) (j:=(gJ.alloc (.lst (kH d.w))).next) cn (show(kH d.l).length <=4000000 by cases d.l<;>exact av rfl)
 have m3: ∀a b c σ,gp [a,b,c] σ=some (.tup [a,b,c],σ):=fun _ _ _ _=>rfl
 have e2:wG [bK d] ⟨0,[]⟩=some (agJ d,(gJ.alloc (.lst (kH d.w))).alloc (.lst (kH d.l))):=by
  show ob (ob (cV [1] _ [bK d] ⟨0,[]⟩) (gR (aV (eI (bq gp (aw (bq fu (aw (eX [3] (un (aA 24) (al 0)) (fun _ σ=>some (true,σ)) (cK (fx cq (bG 6) gU) (al 3) aG)) aG)) (aw (bq fu (aw (eX [2] (un (aA 25) (al 0)) (fun _ σ=>some (true,σ)) (cK (fx cq (bG 6) gU) (al 2) aG)) aG)) (aw (al 1) aG))))) bu))) ib=_
  rw[e1]
  have hut:bX (.tup (PV d))=false:=rfl
  simp only[cg,dF,dm,eu,eB,cA,ct,c3,c2,aX,t3,t2,bm,kO,pf,hut,ae,m3,dI,gF]
  rfl
 exact zu (PI:=wG) Le e2 (PY (PN d))
def rtX(lvl:Nat)(code:ac):AV:=.frz cq gn (.int (ai lvl)::Dx (Bo (lvl::code)))
noncomputable def mX(lvl:Nat)(code:ac):List AV:=[.frz 0 (4::lvl::code) [],Y3]
def mF(f:Option (Bool×Bool×List Nat)):List AV:=bp (motive:=fun _=>List AV) [] (fun x=>cj gZ dh++(cj (kB x.2.1) (eA x.1)++mX 1 x.2.2)) f
def mS(h:aa)(o:Option (Nat×List Nat)):List AV:=bp (motive:=fun _=>List AV) [] (fun x=>h++mX x.1 x.2) o
def mB(f:Option (Bool×Bool×List Nat))(w l:Option (Nat×List Nat)):List AV:=(mF f++mS (cj mJ dh) w)++mS (cj pN dh) l
def mA(f:Option (Bool×Bool×List Nat))(w l:Option (Nat×List Nat)):List AV:=bif (mB f w l).isEmpty then[]else cj jI uT++mB f w l
def xL(o:Option (Nat×List Nat)):List AV:=bp (motive:=fun _=>List AV) [] (fun x=>[rtX x.1 x.2]) o
def xD(f:Option (Bool×Bool×List Nat))(w l:Option (Nat×List Nat)):AV:=EC (xL w) (xL l) (bp (motive:=fun _=>List (List Nat)) [] (fun x=>[eA x.1]) f) (bp (motive:=fun _=>List AV) [] (fun x=>[.lst [rtX 1 x.2.2]]) f) (bp (motive:=fun _=>List AV) [] (fun x=>bif x.2.1 then[.str (eA x.1)]else[]) f)
def rdO(f:Option (Bool×Bool×List Nat))(w l:Option (Nat×List Nat)):Option (AV×Nat×List AV):=bA (FM [.ref 0] ⟨1,[(0,.orc 1021 (mA f w l))]⟩) fun a σ=>sE σ 0 fun k l=>some (a,k,l)
theorem ajd(f:Option (Bool×Bool×List Nat))(w l:Option (Nat×List Nat)):rdO f w l=some (xD f w l,1021,[]):=by
 rcases f with _|⟨_|_,_|_,cf⟩<;>rcases w with _|⟨lw,cw⟩<;>rcases l with _|⟨ll,cl⟩<;>kernel_rfl
section
noncomputable def xQ(r:Rt):List Nat:=XI r.it++r.ren::(r.ts.map Z8).flatten
noncomputable def F1(d:DS):Option (Bool×Bool×List Nat):=d.f.map fun x=>(x.1,x.2.1,xQ x.2.2)
noncomputable def jK(o:Option Rt):Option (Nat×List Nat):=o.map fun r=>(r.lvl,xQ r)
def PM(d:DS):List AV:=mA (F1 d) (jK d.w) (jK d.l)
theorem oh.ts8{r:Rt}(h:oh r):r.ts.length<=8:=au h.lv.2 (by decide)
theorem VZ{r:Rt}(h:r.ts.length<=8):rtX r.lvl (xQ r)=eo r:=by
 unfold rtX
 rw[show r.lvl::xQ r=XJ r from rfl,NV r h];rfl
theorem alz{o:Option Rt}(h:Kw o):xL (jK o)=jo o:=by
 cases o with
 |none=>rfl
 |some r=>exact congrArg (fun a=>[a]) (VZ (h r rfl).ts8)
theorem ap8{d:DS}(h:jl d):xD (F1 d) (jK d.w) (jK d.l)=bK d:=by
 unfold xD bK
 rw[alz h.w,alz h.l]
 obtain⟨f,w,l⟩:=d
 cases f with
 |none=>rfl
 |some x=>
  obtain⟨h1,h2⟩:=h.f x rfl
  show EC _ _ [eA x.1] [.lst [rtX 1 (xQ x.2.2)]] _=EC _ _ [eA x.1] [.lst [eo x.2.2]] _
  rw[<- h2,VZ h1.ts8];rfl
theorem QI{d:DS}(h:jl d){σ:AS}{x:Nat}{L:aa}(hx:σ.get x=some (.orc 1021 L)):o4 [.ref x] (σ.set x (.orc 1021 (PM d)))=some (bK d,σ.set x (.orc 1021 [])):=by
 have hr:=ajd (F1 d) (jK d.w) (jK d.l)
 rw[ap8 h]at hr
 refine fW hr fun a ay h1 hr=>Ga hr fun k l' h0 hr=> ?_
 have hr:=aI hr
 cases hr
 exact Tt hx h1 h0 (by have:=Le (d:=d);exact aE (show(noRef (bK d)&&aN [])=true from this) fun h _=>h)
theorem Hs{lvl:Nat}{l:Lf}(h:rr lvl=true):xp iG (rW (Hq lvl l))=dW lvl l:=by
 obtain⟨i,c⟩:=l
 have h1:iG [1,lvl,i]=kD lvl (kd lvl i):=by
  show(bif rr lvl then kD lvl (kd lvl i)else bad)=_
  rw[h];rfl
 have h2:iG [2,lvl,i]=fM (kd lvl i).1:=by
  show(bif bc (kd lvl i).1 17 then fM (kd lvl i).1 else bad)=_
  rw[Hj (aip lvl i)];rfl
 cases c with
 |false=>exact(congrArg (· ++[]) h1)
 |true=>
  show iG [1,lvl,i]++(iG [2,lvl,i]++[])=kD lvl (kd lvl i)++fM (kd lvl i).1
  rw[h1,h2,aR]
theorem ari(t:Tn):xp iG (rW (acf t))=vo t:=by
 cases t with
 |leaf l=>exact Hs rfl
 |grp g a=>
  show xp iG (rW (Hq 5 g++Hq 10 a))=dW 5 g++dW 10 a
  rw[kQ,zS,Hs rfl,Hs rfl]
 |grp2 g a b=>
  show xp iG (rW (Hq 5 g++(Hq 10 a++Hq 10 b)))=dW 5 g++(dW 10 a++dW 10 b)
  rw[kQ,zS,kQ,zS,Hs rfl,Hs rfl,Hs rfl]
theorem ap1(ts:List Tn):xp iG (rW (acg ts))=ts.flatMap vo:=by
 induction ts with
 |nil=>rfl
 |cons t ts ih=>
  show xp iG (rW (acf t++acg ts))=_
  rw[kQ,zS,ari,ih,aY]
theorem aq9{r:Rt}(h:oh r):xp iG (F3 r)=iA r:=by
 rw[NW]
 unfold agM iA
 rw[kQ,kQ,zS,zS,Hs h.lv.1,ap1]
 refine congrArg (fun q=>dW r.lvl r.it++(r.ts.flatMap vo++q)) ?_
 have hn:=h.nm
 obtain⟨lv,it,ts,n⟩:=r
 cases n with
 |zero=>rfl
 |succ l=>
  have:iG [3,it.i,l]=gH (17+(kd 1 it.i).1) l:=by
   show(bif bc (kd 1 it.i).1 5 then gH (17+(kd 1 it.i).1) l else bad)=_
   rw[Hj (show(kd 1 it.i).1<5 from hn (ku _))];rfl
  show iG [3,it.i,l]++[]=gH (17+(kd 1 it.i).1) l
  rw[this,aR]
theorem amF{r:Rt}(h:oh r):mac (4::r.lvl::xQ r)=iA r:=by
 have hc:okC (r.lvl::xQ r)=true:=by
  show(am (Bo (XJ r)).lvl r.lvl&&YA (Bo (XJ r)))=true
  rw[NV r h.ts8,zi,h.ok];rfl
 show Sj (r.lvl::xQ r)=_
 unfold Sj
 rw[hc]
 show xp iG (F3 (Bo (XJ r)))=_
 rw[NV r h.ts8,aq9 h]
theorem De{a b:ac}:dk (cj a b)=true:=EQ (a:=false)
theorem anR{r:Rt}(h:oh r){m:aa}(hm:vp mac m)(hn:EN (xp mac m)=true):xp mac (mX r.lvl (xQ r)++m)=iA r++xp mac m/\vp mac (mX r.lvl (xQ r)++m):=
 ⟨congrArg (· ++xp mac m) (amF h),fun z=>ff z,fun _=>hn,hm⟩
theorem anQ{a b:ac}{o:Option Rt}(h:Kw o){m:aa}(hm:vp mac m)(hn:EN (xp mac m)=true):xp mac (mS (cj a b) (jK o)++m)=fQ (cj a b) o++xp mac m/\vp mac (mS (cj a b) (jK o)++m)/\EN (xp mac (mS (cj a b) (jK o)++m))=true:=by
 cases o with
 |none=>exact⟨rfl,hm,hn⟩
 |some r=>
  obtain⟨h1,h2⟩:=anR (h r rfl) hm hn
  have h3:=EZ (mac:=mac) (m:=mX r.lvl (xQ r)++m) (De (a:=a) (b:=b))
  have e:mS (cj a b) (jK (some r))++m=cj a b++(mX r.lvl (xQ r)++m):=aB ..
  have e2:xp mac (mS (cj a b) (jK (some r))++m)=fQ (cj a b) (some r)++xp mac m:=by
   rw[e,h3.1,h1];exact(aB ..).symm
  refine⟨e2,by rw[e];exact h3.2 h2,?_⟩
  rw[e2];rfl
theorem aqF{d:DS}(h:jl d):xp mac (mB (F1 d) (jK d.w) (jK d.l))=dY d/\vp mac (mB (F1 d) (jK d.w) (jK d.l)):=by
 obtain⟨l1,l2,l3⟩:=anQ (a:=pN) (b:=dh) h.l (m:=[]) trivial rfl
 obtain⟨w1,w2,w3⟩:=anQ (a:=mJ) (b:=dh) h.w l2 l3
 have e:mB (F1 d) (jK d.w) (jK d.l)=mF (F1 d)++(mS (cj mJ dh) (jK d.w)++(mS (cj pN dh) (jK d.l)++[])):=by
  unfold mB;rw[aR,aB]
 have e3:dY d=jf d++(fQ (cj mJ dh) d.w++(fQ (cj pN dh) d.l++[])):=by
  unfold dY;rw[aR,aB]
 rw[e,e3]
 rw[l1]at w1
 have w1:xp mac (mS (cj mJ dh) (jK d.w)++(mS (cj pN dh) (jK d.l)++[]))=fQ (cj mJ dh) d.w++(fQ (cj pN dh) d.l++[]):=w1
 rw[<- w1]
 generalize mS (cj mJ dh) (jK d.w)++(mS (cj pN dh) (jK d.l)++[])=m at w2 w3 ⊢
 obtain⟨f,w,l⟩:=d
 cases f with
 |none=>exact⟨rfl,w2⟩
 |some x=>
  obtain⟨h1,h2⟩:=h.f x rfl
  obtain⟨x1,x2⟩:=anR h1 w2 w3
  rw[h2]at x1 x2
  have h3:=EZ (mac:=mac) (m:=mX 1 (xQ x.2.2)++m) (De (a:=kB x.2.1) (b:=eA x.1))
  have h4:=EZ (mac:=mac) (m:=cj (kB x.2.1) (eA x.1)++(mX 1 (xQ x.2.2)++m)) (De (a:=gZ) (b:=dh))
  have e:mF (F1 ⟨some x,w,l⟩)++m=cj gZ dh++(cj (kB x.2.1) (eA x.1)++(mX 1 (xQ x.2.2)++m)):=by
   show(cj gZ dh++(cj (kB x.2.1) (eA x.1)++mX 1 (xQ x.2.2)))++m=_
   rw[aB,aB]
  have e':jf ⟨some x,w,l⟩++xp mac m=cj gZ dh++(cj (kB x.2.1) (eA x.1)++(iA x.2.2++xp mac m)):=by
   show(cj gZ dh++(cj (kB x.2.1) (eA x.1)++iA x.2.2))++xp mac m=_
   rw[aB,aB]
  rw[e,e',h4.1,h3.1,x1]
  exact⟨rfl,h4.2 (h3.2 x2)⟩
theorem acA{d:DS}:(mB (F1 d) (jK d.w) (jK d.l)).isEmpty=(dY d).isEmpty:=by
 obtain⟨f,w,l⟩:=d
 cases f<;>cases w<;>cases l<;>rfl
theorem aoo{d:DS}(h:jl d):xp mac (PM d)=gQ d/\vp mac (PM d):=by
 obtain⟨h1,h2⟩:=aqF h
 unfold PM mA gQ
 rw[acA]
 cases (dY d).isEmpty with
 |true=>exact⟨rfl,trivial⟩
 |false=>
  have h3:=EZ (mac:=mac) (m:=mB (F1 d) (jK d.w) (jK d.l)) (De (a:=jI) (b:=uT))
  exact⟨h3.1.trans (congrArg _ h1),h3.2 h2⟩
theorem zB{lvl:Nat}{l:Lf}:dk (dW lvl l)=true:=by
 unfold dW rU
 rw[lB,Tw]
 cases l.c
 ·rfl
 ·exact EQ (a:=false)
theorem apn{t:Tn}:dk (vo t)=true:=by
 cases t with
 |leaf l=>exact zB
 |grp g a=>
  show dk (dW 5 g++dW 10 a)=true
  rw[lB,zB,zB];rfl
 |grp2 g a b=>
  show dk (dW 5 g++(dW 10 a++dW 10 b))=true
  rw[lB,lB,zB,zB,zB];rfl
theorem ai5{r:Rt}:dk (iA r)=true:=by
 unfold iA
 have h1:dk (r.ts.flatMap vo)=true:=by
  induction r.ts with
  |nil=>rfl
  |cons t ts ih=>rw[aY,lB,apn,ih];rfl
 have h2:dk (VW (ke 1 r.it) r.ren)=true:=by
  cases r.ren with
  |zero=>rfl
  |succ l=>exact EQ (a:=false)
 rw[lB,lB,zB,h1,h2];rfl
theorem acO{a b:ac}{o:Option Rt}:dk (fQ (cj a b) o)=true:=by
 cases o with
 |none=>rfl
 |some r=>
  show dk (cj a b++iA r)=true
  rw[lB,De,ai5];rfl
theorem acN{d:DS}:dk (gQ d)=true:=by
 have hf:dk (jf d)=true:=by
  obtain⟨f,w,l⟩:=d
  cases f with
  |none=>rfl
  |some x=>
   show dk (cj gZ dh++(cj (kB x.2.1) (eA x.1)++iA x.2.2))=true
   rw[lB,lB,De,De,ai5];rfl
 have hb:dk (dY d)=true:=by
  unfold dY;rw[lB,lB,hf,acO,acO];rfl
 unfold gQ
 cases (dY d).isEmpty with
 |true=>rfl
 |false=>
  show dk (cj jI uT++dY d)=true
  rw[lB,De,hb];rfl
open Classical in
def CX(d:DS)(L:aa):List AV:=if L=gQ d then PM d else L
theorem ais{d:DS}(h:jl d)(L:aa)(c:bJ)(hc:lT mac L c):lT mac (CX d L) c:=by
 unfold CX
 by_cases q:L=gQ d
 ·rw[if_pos q]
  obtain⟨h1,h2⟩:=aoo h
  refine tC hc ?_ fun _=>h2
  rw[h1,q,(Up acN).1]
 ·rw[if_neg q];exact hc
theorem air(d:DS):CX d (gQ d)=PM d:=if_pos rfl
theorem aep(d:DS):CX d []=[]:=by
 unfold CX
 by_cases q:[]=gQ d
 ·rw[if_pos q]
  unfold gQ at q
  unfold PM mA
  rw[acA]
  cases z:(dY d).isEmpty with
  |true=>rfl
  |false=>rw[z]at q;exact absurd q (by intro q;cases q)
 ·rw[if_neg q]
end
theorem YJ{T:aa}(hk:T.length<=4000000)(hn:aN T=true)(hp:dk T=true)(σ:AS): ∃x aj,xB [.lst T] σ=some (.ref x,aj)/\aj.get x=some (.orc 1021 T):=by
 have g0:(σ.alloc (.inst 1021 [] [])).get σ.next=some (.inst 1021 [] []):=cn
 have s1:oy 38 (.lst T) (.ref σ.next) (σ.alloc (.inst 1021 [] []))=some ((σ.alloc (.inst 1021 [] [])).set σ.next (.inst 1021 [38] [.lst T])):=jn g0
 have l1:σ.next<((σ.alloc (.inst 1021 [] [])).set σ.next (.inst 1021 [38] [.lst T])).next:=bU _
 have g1:((σ.alloc (.inst 1021 [] [])).set σ.next (.inst 1021 [38] [.lst T])).get σ.next=some (.inst 1021 [38] [.lst T]):=eE g0
 generalize (σ.alloc (.inst 1021 [] [])).set σ.next (.inst 1021 [38] [.lst T])=gJ at s1 l1 g1
 have s2:oy 4 (.int 0) (.ref σ.next) gJ=some (gJ.set σ.next (.inst 1021 [38,4] [.lst T,.int 0])):=jn g1
 have l2:σ.next<(gJ.set σ.next (.inst 1021 [38,4] [.lst T,.int 0])).next:=l1
 have g2:(gJ.set σ.next (.inst 1021 [38,4] [.lst T,.int 0])).get σ.next=some (.inst 1021 [38,4] [.lst T,.int 0]):=eE g1
 generalize gJ.set σ.next (.inst 1021 [38,4] [.lst T,.int 0])=hU at s2 l2 g2
 have g3:(hU.alloc (.dct [] [])).get σ.next=some (.inst 1021 [38,4] [.lst T,.int 0]):=dQ g2 l2
 have s3:oy 37 (.ref hU.next) (.ref σ.next) (hU.alloc (.dct [] []))=some ((hU.alloc (.dct [] [])).set σ.next (.inst 1021 [38,4,37] [.lst T,.int 0,.ref hU.next])):=jn g3
 have l3:σ.next<((hU.alloc (.dct [] [])).set σ.next (.inst 1021 [38,4,37] [.lst T,.int 0,.ref hU.next])).next:=cP l2
 have g4:((hU.alloc (.dct [] [])).set σ.next (.inst 1021 [38,4,37] [.lst T,.int 0,.ref hU.next])).get σ.next=some (.inst 1021 [38,4,37] [.lst T,.int 0,.ref hU.next]):=eE g3
 generalize (hU.alloc (.dct [] [])).set σ.next (.inst 1021 [38,4,37] [.lst T,.int 0,.ref hU.next])=qC at s3 l3 g4
 have g5:(qC.alloc (.dct [] [])).get σ.next=some (.inst 1021 [38,4,37] [.lst T,.int 0,.ref hU.next]):=dQ g4 l3
 have s4:oy 36 (.ref qC.next) (.ref σ.next) (qC.alloc (.dct [] []))=some ((qC.alloc (.dct [] [])).set σ.next (.inst 1021 [38,4,37,36] [.lst T,.int 0,.ref hU.next,.ref qC.next])):=jn g5
 have g6:((qC.alloc (.dct [] [])).set σ.next (.inst 1021 [38,4,37,36] [.lst T,.int 0,.ref hU.next,.ref qC.next])).get σ.next=some (.inst 1021 [38,4,37,36] [.lst T,.int 0,.ref hU.next,.ref qC.next]):=eE g5
 generalize (qC.alloc (.dct [] [])).set σ.next (.inst 1021 [38,4,37,36] [.lst T,.int 0,.ref hU.next,.ref qC.next])=σ4 at s4 g6
 have ed: ∀fr σ,F2 fr σ=some (.ref σ.next,σ.alloc (.dct [] [])):=fun _ _=>rfl
 have e1:jb [.ref σ.next,.lst T] (σ.alloc (.inst 1021 [] []))=some (.none,σ4):=by
  show ob (ky [.ref σ.next,.lst T,.int 0] (σ.alloc (.inst 1021 [] []))) ib=_
  have hu:bX (.lst T)=false:=rfl
  simp only[ky,dm,yj,bm,kO,pf,fy,l8,hu,ae,aX,s1,cg,dF,s2,ed,s3,s4,fP,amX]
 have e2:uC du jb [.lst T] σ=some (.ref σ.next,σ4):=by
  show bA (jb [.ref σ.next,.lst T] (σ.alloc (.inst 1021 [] []))) (fun a aj=>tf a (some (AV.ref σ.next,aj)))=_
  rw[e1];rfl
 refine⟨σ.next,σ4.set σ.next (.orc 1021 T),?_,eE g6⟩
 show bA (uC du jb [.lst T] σ) (fun a ay=>iw a fun x=>CS ay x fun c ks vs=>bif am c 1021&&dp ks [38,4,37,36]then ob (aaw vs) (fun L=>bif dj L.length&&aN L&&dk L then some (AV.ref x,ay.set x (.orc 1021 L))else none)else none)=_
 rw[e2]
 show ob (σ4.get σ.next) _=_
 rw[g6]
 show(bif dj T.length&&aN T&&dk T then some (AV.ref σ.next,σ4.set σ.next (.orc 1021 T))else none)=_
 rw[fZ hk,hn,hp];rfl
theorem XC{d:DS}(h:jl d):(gQ d).length <=1003:=by
 unfold gQ
 cases (dY d).isEmpty with
 |true=>exact aS _
 |false=>
  show(cj jI uT++dY d).length <=1003
  rw[ao,rl];exact au (dA (Pt h) 3) (by decide)
theorem aiJ{a:AV}(h:flat 16 a=true)(σ:AS):bO .NotEq a a σ=some false:=by
 show ob (od (wJ 16 a a) some _) _=_
 rw[Tk h];rfl
theorem amY{d:DS}(h:jl d){lab:List AV->List AV}(hl:lab (gQ d)=PM d)(σ:AS): ∃aj x,(aV (cV [1] (bq ir (aw (al 0) aG))) (aV (cV [2] (bq xB (aw (al 1) aG))) (sh (R8 (eJ (bO .NotEq) (cK qG (bq (mq lab) (aw (al 2) aG)) aG) (cK qG (al 0) aG)) (pe (ji (cK qg (al 2) aG)))) (aV (fun _ _=>none) bu) bu))) [bK d] σ=some (.next [bK d,.lst (gQ d),.ref x] aj):=by
 obtain⟨x,gJ,r1,r2⟩:=YJ (T:=gQ d) (au (XC h) (by decide)) VK acN σ
 have hu:bX (bK d)=false:=rfl
 have hut:bX (.lst (gQ d))=false:=rfl
 have rd1:mq lab [.ref x] gJ=some (bK d,gJ.set x (.orc 1021 [])):=by
  have h1:rd gJ x=some (gQ d):=jn r2
  have h2:mq lab [.ref x] gJ=o4 [.ref x] (gJ.set x (.orc 1021 (lab (gQ d)))):=jn h1
  rw[h2,hl];exact QI h r2
 have g2:(gJ.set x (.orc 1021 [])).get x=some (.orc 1021 []):=eE r2
 have dn:vD [.ref x] (gJ.set x (.orc 1021 []))=some (.bool true,gJ.set x (.orc 1021 [])):=jn (show rd (gJ.set x (.orc 1021 [])) x=some [] from jn g2)
 have mt: ∀σ,qG (bK d) σ=some s9:=fun _=>rfl
 have md:qg (.ref x) (gJ.set x (.orc 1021 []))=some vD:=aaX g2
 refine⟨gJ.set x (.orc 1021 []),x,?_⟩
 simp only[dm,fO,eB,cA,ct,bm,kO,pf,hu,hut,fy,ae,aX,adB h,cg,dF,sF,sG,putN,r1,j9,Hh,fH,eP,rd1,mt,abr h,aiJ (PN d),qQ,l7,md,dn,iV,eL,fP]
def an3(t:AV):Option AV:=ob (aA 28 t ⟨0,[]⟩) fun b=>U8 b (aA 1 t ⟨0,[]⟩)
def wN(t:AV):Bool:=(ob (aA 2 t ⟨0,[]⟩) fun k=>ob (aA 1 t ⟨0,[]⟩) fun w=>eg k fun k=>eg w fun w=>some (dp k jp&&dp w [46])).getD false
def Mn(t:AV):Option Int:=ob (aA 2 t ⟨0,[]⟩) fun k=>ob (aA 1 t ⟨0,[]⟩) fun w=>eg k fun k=>eg w fun w=>bif dp k pY then ob (lY 0 w) (fun n=>some (ai n))else none
def j6(p:Bool)(T:aa):List AV:=bt (motive:=fun _=>Bool->List AV) (fun _=>[]) (fun t _ ih p=>bif p then t::ih (wN t)else ih (wN t)) T p
def mP(T:aa):List AV:=T.filterMap an3
def iE(T:aa):List Int:=(j6 true T).filterMap Mn
theorem i7(l m:aa):mP (l++m)=mP l++mP m:=List.filterMap_append
theorem Oa{l:List (List Nat×List Nat×Nat)}: ∀{c:Nat},mP (wO false c l)=[]:=by
 induction l with
 |nil=>exact rfl
 |cons x l ih=>exact fun{c}=>ih (c:=c+x.2.2)
theorem Uk{a:Bool}{c:Nat}{x:List Nat×List Nat×Nat}{l:List (List Nat×List Nat×Nat)}:mP (wO a c (x::l))=bif a then[.str x.2.1]else[]:=by
 cases a with
 |false=>exact Oa
 |true=>exact congrArg (AV.str x.2.1:: ·) (Oa (c:=c+x.2.2))
def x8(l:List (List Nat×List Nat×Nat)):Bool:=l.all fun x=> !(dp x.1 jp&&dp x.2.1 [46])
theorem EL{l m:List (List Nat×List Nat×Nat)}:x8 (l++m)=(x8 l&&x8 m):=oL
theorem aoH{l:List (List Nat×List Nat×Nat)}{m:aa}: ∀{a:Bool} {c:Nat},x8 l=true->j6 false (wO a c (l++[KX])++m)=j6 true m:=by
 induction l with
 |nil=>exact fun _=>rfl
 |cons x l ih=>
  intro a c h
  refine aE (show(!(dp x.1 jp&&dp x.2.1 [46])&&x8 l)=true from h) fun h1 h2=> ?_
  show j6 (dp x.1 jp&&dp x.2.1 [46]) (wO false (c+x.2.2) (l++[KX])++m)=_
  rw[pq h1];exact ih h2
theorem ahK{x:List Nat×List Nat×Nat}{l:List (List Nat×List Nat×Nat)}{m:aa}{a:Bool}{c:Nat}(hx:(dp x.1 jp&&dp x.2.1 [46])=false)(h:x8 l=true):j6 true (wO a c (x::(l++[KX]))++m)=tk x.1 x.2.1 c a::j6 true m:=by
 show tk x.1 x.2.1 c a::j6 (dp x.1 jp&&dp x.2.1 [46]) (wO false (c+x.2.2) (l++[KX])++m)=_
 rw[hx,aoH h]
theorem Jj{x:List Nat×List Nat×Nat}{l:List (List Nat×List Nat×Nat)}{m:aa}{a:Bool}{c:Nat}(hx:(dp x.1 jp&&dp x.2.1 [46])=false)(h:x8 l=true):iE (wO a c (x::(l++[KX]))++m)=(Mn (tk x.1 x.2.1 c a)).toList++iE m:=by
 unfold iE
 rw[ahK hx h,k9]
 cases Mn (tk x.1 x.2.1 c a)<;>rfl
theorem ai3(p:Nat):x8 (Sh p)=true:=by
 unfold Sh yb
 cases am p 0
 ·cases am p 1
  ·cases am p 2<;>rfl
  ·rfl
 ·rfl
theorem alm(p:Nat):x8 (Su p)=true:=by
 unfold Su
 cases am p 1<;>rfl
theorem aiW(p:Nat):x8 (Sg p)=true:=by
 unfold Sg
 cases am p 2
 ·cases am p 3<;>rfl
 ·rfl
theorem Hx(lvl:Nat)(x:Nat×Nat×Nat):kD lvl x=wO (MK lvl) (bif MK lvl then 8 else 12) (nu (nV lvl)::((wd (nm x.1)::(Sh x.2.2++(Su x.2.1++Sg x.2.1)))++[KX])):=by
 show wO _ _ (nu (nV lvl)::wd (nm x.1)::(Sh x.2.2++(Su x.2.1++(Sg x.2.1++[KX]))))=_
 rw[fi,aB,aB];rfl
def lvI(lvl:Nat):Option Int:=Mn (tk pY (nV lvl) 0 false)
theorem aoX{lvl:Nat}(h:rr lvl=true):lvI lvl=some (ai lvl):=lvE (P:=fun lvl=>lvI lvl=some (ai lvl)) h rfl rfl rfl rfl
theorem aix{lvl:Nat}{x:Nat×Nat×Nat}{m:aa}(h:rr lvl=true):iE (kD lvl x++m)=ai lvl::iE m:=by
 rw[Hx,Jj rfl (by
  show(!(dp uU jp&&dp (nm x.1) [46])&&x8 (Sh x.2.2++(Su x.2.1++Sg x.2.1)))=true
  rw[EL,EL,ai3,alm,aiW];rfl)]
 have:Mn (tk (nu (nV lvl)).1 (nu (nV lvl)).2.1 (bif MK lvl then 8 else 12) (MK lvl))=some (ai lvl):=(show _=lvI lvl from rfl).trans (aoX h)
 rw[this];rfl
theorem aiy{n:Nat}{m:aa}:iE (fM n++m)=88::iE m:=Jj (x:=nu [56,56]) (l:=[wd ([73,83,45]++nm n),wd [86,65,76,85,69],(jp,[45],1),nu [53],wd [84,72,82,85],nu [49,46,50,53],(YO,[113],4)]) rfl rfl
theorem aiz{n l:Nat}{m:aa}:iE (gH n l++m)=66::iE m:=by
 unfold gH
 cases l with
 |zero=>exact Jj (x:=nu [54,54]) (l:=[wd (nm n),wd [82,69,78,65,77,69,83],wd (nm 16)]) rfl rfl
 |succ l=>exact Jj (x:=nu [54,54]) (l:=[wd (nm n),wd [82,69,78,65,77,69,83],wd (nm 16),wd [84,72,82,85],wd (nm 22)]) rfl rfl
theorem Jk{a b:ac}{m:aa}:iE (cj a b++m)=iE m:=Jj (x:=wd a) (l:=[(uU,b,b.length)]) rfl rfl
noncomputable def nU(l:Lf):List Int:=bif l.c then[88]else[]
theorem qr{lvl:Nat}{l:Lf}{m:aa}(h:rr lvl=true):iE (dW lvl l++m)=ai lvl::(nU l++iE m):=by
 obtain⟨i,c⟩:=l
 unfold dW rU
 rw[aB,aix h]
 cases c with
 |false=>rfl
 |true=>exact congrArg (ai lvl:: ·) aiy
noncomputable def yt(t:Tn):List Int:=match t with
 | .leaf l=>5::nU l
 | .grp g a=>5::(nU g++10::nU a)
 | .grp2 g a b=>5::(nU g++10::(nU a++10::nU b))
theorem aiA{t:Tn}{m:aa}:iE (vo t++m)=yt t++iE m:=by
 cases t with
 |leaf l=>exact qr rfl
 |grp g a=>
  show iE ((dW 5 g++dW 10 a)++m)=5::((nU g++10::nU a)++iE m)
  rw[aB,qr rfl,qr rfl,aB];rfl
 |grp2 g a b=>
  show iE ((dW 5 g++(dW 10 a++dW 10 b))++m)=5::((nU g++10::(nU a++10::nU b))++iE m)
  rw[aB,qr rfl,aB,qr rfl,qr rfl,aB,fi,aB];rfl
noncomputable def QJ(n:Nat):List Int:=hY (motive:=fun _=>List Int) [] (fun _ _=>[66]) n
noncomputable def AF(r:Rt):List Int:=ai r.lvl::(nU r.it++(r.ts.flatMap yt++QJ r.ren))
theorem aes{ts:List Tn}{m:aa}:iE (ts.flatMap vo++m)=ts.flatMap yt++iE m:=by
 induction ts with
 |nil=>rfl
 |cons t ts ih=>rw[aY,aY,aB,aiA,ih,aB]
theorem Yb{r:Rt}(h:oh r){m:aa}:iE (iA r++m)=AF r++iE m:=by
 unfold iA AF
 rw[aB,qr h.lv.1,aB,aes]
 have:iE (VW (ke 1 r.it) r.ren++m)=QJ r.ren++iE m:=by
  cases r.ren with
  |zero=>rfl
  |succ l=>exact aiz
 rw[this,fi,aB,aB]
theorem qB{lvl:Nat}{l:Lf}:mP (dW lvl l)=bif MK lvl then[.str (nV lvl)]else[]:=by
 unfold dW rU
 rw[i7,Hx,Uk]
 have:mP (bif l.c then fM (ke lvl l)else[])=[]:=by
  cases l.c
  ·rfl
  ·exact Oa
 rw[this,aR];rfl
theorem alh{t:Tn}:mP (vo t)=[]:=by
 cases t with
 |leaf l=>exact qB
 |grp g a=>exact(i7 _ _).trans (by rw[qB,qB];rfl)
 |grp2 g a b=>exact(i7 _ _).trans (by rw[i7,qB,qB,qB];rfl)
theorem oh.top{r:Rt}(h:oh r):r.lvl=1\/r.lvl=77:=by
 have q:=h.ok
 unfold YA at q
 cases z:am r.lvl 1 with
 |true=>exact .inl (aD z)
 |false=>
  rw[z]at q
  exact aE (show(am r.lvl 77&&(r.ts.isEmpty&&am r.ren 0))=true from q) fun h1 _=>.inr (aD h1)
theorem Zc{r:Rt}(h:oh r):mP (iA r)=[.str (nV r.lvl)]:=by
 unfold iA
 have h1:mP (r.ts.flatMap vo)=[]:=by
  induction r.ts with
  |nil=>rfl
  |cons t ts ih=>rw[aY,i7,alh,ih];rfl
 have h2:mP (VW (ke 1 r.it) r.ren)=[]:=by
  cases r.ren with
  |zero=>rfl
  |succ l=>exact Oa
 rw[i7,i7,qB,h1,h2]
 rcases h.top with e|e<;>rw[e]<;>rfl
theorem J2{a b:ac}:mP (cj a b)=[.str a]:=Uk
def fL(d:DS):List AV:=jo (d.f.map (·.2.2))
def ek(d:DS):List AV:=(fL d++jo d.w)++jo d.l
theorem ru(o:Option Rt):(jo o).length <=1:=by cases o<;>exact av rfl
theorem VN(o:Option Rt):aN (jo o)=true:=by
 cases o with
 |none=>rfl
 |some r=>show aN [eo r]=true;rw[hJ,Lg];rfl
theorem aey(d:DS):aN (ek d)=true:=by
 unfold ek fL;rw[b9,b9,VN,VN,VN];rfl
theorem agv{i:Nat}{fr:Fm}{σ:AS}{l:aa}(hu: ∀a∈l,bX a=false):eO [i] (fun _ σ=>some (true,σ)) (al i) l fr σ=some (l,σ):=by
 have h:=Hn (i:=i) (elt:=al i) (fr:=fr) (ps:=l.map fun a=>(a,a)) (σ:=σ) fun p hp σ=>by
  obtain⟨a,ha,rfl⟩:=dD.mp hp
  rw[bm,de,hu a ha];rfl
 rw[gO,gO]at h
 rwa[show Oi ((fun x:AV×AV=>x.1)∘fun a=>(a,a)) l=l from tK l,show Oi ((fun x:AV×AV=>x.2)∘fun a=>(a,a)) l=l from tK l]at h
theorem XT{d:DS}{fr:Fm}{σ:AS}(h0:gt fr 0=bK d):qP 15 (un (aA 26) (al 0)) 16 (bi eH (un (aA 26) (al 0)) (al 15)) (al 16) fr σ=some (.ref σ.next,σ.alloc (.lst (fL d))):=by
 have hu:bX (bK d)=false:=rfl
 obtain⟨f,w,l⟩:=d
 cases f with
 |none=>
  have a26: ∀σ,aA 26 (bK ⟨none,w,l⟩) σ=some (.dct [] []):=fun _=>rfl
  have e1:un (aA 26) (al 0) fr σ=some (.dct [] [],σ):=by simp only[gq,bm,h0,hu,ae,aX,a26,cg]
  show bA (un (aA 26) (al 0) fr σ) (fun a aj=>bA (fJ aj a) fun l ay=>bA (jA 15 (bi eH (un (aA 26) (al 0)) (al 15)) 16 (al 16) l (put fr 16 .unb) ay) fun vs aL=>bif dj vs.length then some (AV.ref aL.next,aL.alloc (.lst vs))else none)=_
  rw[e1];rfl
 |some x=>
  obtain⟨o,s,r⟩:=x
  have a26: ∀σ,aA 26 (bK ⟨some (o,s,r),w,l⟩) σ=some (.dct [eA o] [.lst [eo r]]):=fun _=>rfl
  have e1:un (aA 26) (al 0) fr σ=some (.dct [eA o] [.lst [eo r]],σ):=by simp only[gq,bm,h0,hu,ae,aX,a26,cg]
  have g0:gt (put (put fr 16 .unb) 15 (.str (eA o))) 0=bK ⟨some (o,s,r),w,l⟩:=(fV rfl).trans ((fV rfl).trans h0)
  have e2:bi eH (un (aA 26) (al 0)) (al 15) (put (put fr 16 .unb) 15 (.str (eA o))) σ=some (.lst [eo r],σ):=by simp only[jJ,gq,bm,g0,de,hu,na,ae,aX,a26,cg,aao]
  have e3:eO [16] (fun _ σ=>some (true,σ)) (al 16) [eo r] (put (put fr 16 .unb) 15 (.str (eA o))) σ=some ([eo r],σ):=agv fun a ha=>by rw[aP.mp ha];rfl
  show bA (un (aA 26) (al 0) fr σ) (fun a aj=>bA (fJ aj a) fun l ay=>bA (jA 15 (bi eH (un (aA 26) (al 0)) (al 15)) 16 (al 16) l (put fr 16 .unb) ay) fun vs aL=>bif dj vs.length then some (AV.ref aL.next,aL.alloc (.lst vs))else none)=_
  rw[e1]
  show bA (bA (bi eH (un (aA 26) (al 0)) (al 15) (put (put fr 16 .unb) 15 (.str (eA o))) σ) fun s aj=>bA (fJ aj s) fun l ay=>bA (eO [16] (fun _ σ=>some (true,σ)) (al 16) l (put (put fr 16 .unb) 15 (.str (eA o))) ay) fun bs eW=>bA (jA 15 (bi eH (un (aA 26) (al 0)) (al 15)) 16 (al 16) [] (put fr 16 .unb) eW) fun cs cO=>some (bs++cs,cO)) (fun vs aL=>bif dj vs.length then some (AV.ref aL.next,aL.alloc (.lst vs))else none)=_
  rw[e2]
  show bA (bA (eO [16] (fun _ σ=>some (true,σ)) (al 16) [eo r] (put (put fr 16 .unb) 15 (.str (eA o))) σ) fun bs eW=>bA (jA 15 (bi eH (un (aA 26) (al 0)) (al 15)) 16 (al 16) [] (put fr 16 .unb) eW) fun cs cO=>some (bs++cs,cO)) (fun vs aL=>bif dj vs.length then some (AV.ref aL.next,aL.alloc (.lst vs))else none)=_
  rw[e3];rfl
theorem amZ{d:DS}{T:AV}{x:Nat}(σ:AS)(hT:bX T=false): ∃aj,(aV (cV [3] (bi (b4 .Add) (bi (b4 .Add) (qP 15 (un (aA 26) (al 0)) 16 (bi eH (un (aA 26) (al 0)) (al 15)) (al 16)) (un (aA 24) (al 0))) (un (aA 25) (al 0)))) (QP 3)) [bK d,T,.ref x] σ=some (.next [bK d,T,.ref x,.lst (ek d)] aj):=by
 have hu:bX (bK d)=false:=rfl
 have a24: ∀σ,aA 24 (bK d) σ=some (.lst (jo d.w)):=fun _=>rfl
 have a25: ∀σ,aA 25 (bK d) σ=some (.lst (jo d.l)):=fun _=>rfl
 have c1:=XT (d:=d) (fr:=[bK d,T,.ref x]) (σ:=σ) rfl
 have k1:(fL d).length +(jo d.w).length <=4000000:=au (aJ (ru _) (ru _)) (by decide)
 have k2:(fL d++jo d.w).length +(jo d.l).length <=4000000:=by
  rw[ao];exact au (aJ (aJ (ru _) (ru _)) (ru _)) (by decide)
 have e1:=Ez (σ:=σ.alloc (.lst (fL d))) (i:=σ.next) (l:=fL d) (m:=jo d.w) cn k1
 have e2:=Ez (σ:=(σ.alloc (.lst (fL d))).alloc (.lst (fL d++jo d.w))) (i:=(σ.alloc (.lst (fL d))).next) (l:=fL d++jo d.w) (m:=jo d.l) cn k2
 have hz:=xX (n:=13) (x:=((σ.alloc (.lst (fL d))).alloc (.lst (fL d++jo d.w))).next) (l:=ek d) (σ:=((σ.alloc (.lst (fL d))).alloc (.lst (fL d++jo d.w))).alloc (.lst (ek d))) cn (aey d)
 refine⟨AS.drop (((σ.alloc (.lst (fL d))).alloc (.lst (fL d++jo d.w))).alloc (.lst (ek d))) ((σ.alloc (.lst (fL d))).alloc (.lst (fL d++jo d.w))).next,?_⟩
 show ob (cV [3] _ [bK d,T,.ref x] σ) (gR (QP 3))=_
 have e3:cV [3] (bi (b4 .Add) (bi (b4 .Add) (qP 15 (un (aA 26) (al 0)) 16 (bi eH (un (aA 26) (al 0)) (al 15)) (al 16)) (un (aA 24) (al 0))) (un (aA 25) (al 0))) [bK d,T,.ref x] σ=some (.next [bK d,T,.ref x,.ref ((σ.alloc (.lst (fL d))).alloc (.lst (fL d++jo d.w))).next] (((σ.alloc (.lst (fL d))).alloc (.lst (fL d++jo d.w))).alloc (.lst (ek d)))):=by
  simp only[fO,jJ,c1,aX,gq,bm,kO,hu,ae,a24,a25,cg,e1,e2,sF,sG,putN]
  rfl
 rw[e3]
 show pr (jL 14 (.ref _) _) (fun a aj=>some (kg.next (put [bK d,T,.ref x,.ref _] 3 a) aj))=_
 rw[hz];rfl
theorem Pw{i:Nat}{test:BM}{elt:EM}{fr:Fm}{g:AV->Option AV}{l:aa}: ∀{σ:AS},(∀t∈l,∀σ,∃b,test (put fr i t) σ=some (b,σ)/\(b=true-> ∃v,elt (put fr i t) σ=some (v,σ)/\g t=some v)/\(b=false->g t=none))->eO [i] test elt l fr σ=some (l.filterMap g,σ):=by
 induction l with
 |nil=>exact fun _=>rfl
 |cons t l ih=>
  intro σ h
  have ih:=ih (σ:=σ) fun t ht=>h t (aQ _ ht)
  obtain⟨b,h1,h2,h3⟩:=h t (bg ..) σ
  show bA (test (put fr i t) σ) (fun b aj=>bif b then bA (elt (put fr i t) aj) (fun v eW=>bA (eO [i] test elt l fr eW) fun l cO=>some (v::l,cO))else eO [i] test elt l fr aj)=_
  rw[h1,aX]
  cases b with
  |true=>
   obtain⟨v,e1,e2⟩:=h2 rfl
   rw[af,e1,aX,ih,k9,e2];rfl
  |false=>
   rw[ae,ih,k9,h3 rfl]
def lQ(l:aa):Prop:= ∀t∈l,∃k w c a,t=tk k w c a
theorem lQ.app{l m:aa}(h:lQ l)(h':lQ m):lQ (l++m):=fun t ht=>(cX.mp ht).elim (h t) (h' t)
theorem lQ.nil:lQ []:=fun _ h=>absurd h bh
theorem zO{l:List (List Nat×List Nat×Nat)}: ∀{c:Nat} {a:Bool},lQ (wO a c l):=by
 induction l with
 |nil=>exact lQ.nil
 |cons x l ih=>exact fun{c a} t ht=>(aH.mp ht).elim (fun h=>⟨_,_,_,_,h⟩) (ih t)
theorem zN{lvl:Nat}{l:Lf}:lQ (dW lvl l):=by
 refine lQ.app zO ?_
 unfold rU
 cases l.c
 ·exact lQ.nil
 ·exact zO
theorem ap0{t:Tn}:lQ (vo t):=by
 cases t with
 |leaf l=>exact zN
 |grp g a=>exact lQ.app zN zN
 |grp2 g a b=>exact lQ.app zN (lQ.app zN zN)
theorem ala{r:Rt}:lQ (iA r):=by
 refine lQ.app zN (lQ.app ?_ ?_)
 ·exact fun t ht=>(List.mem_flatMap.mp ht).elim fun s h=>ap0 t h.2
 ·cases r.ren with
  |zero=>exact lQ.nil
  |succ l=>exact zO
theorem acZ{a b:ac}{o:Option Rt}:lQ (fQ (cj a b) o):=by
 cases o with
 |none=>exact lQ.nil
 |some r=>exact lQ.app zO ala
theorem abp{d:DS}:lQ (gQ d):=by
 have hf:lQ (jf d):=by
  obtain⟨f,w,l⟩:=d
  cases f with
  |none=>exact lQ.nil
  |some x=>exact lQ.app zO (lQ.app zO ala)
 unfold gQ
 cases (dY d).isEmpty
 ·exact lQ.app zO (lQ.app (lQ.app hf acZ) acZ)
 ·exact lQ.nil
theorem abt{T:aa}(hT:lQ T)(hk:T.length<=4000000){fr:Fm}{σ:AS}(h1:gt fr 1= .lst T):eX [14] (al 1) (ji (un (aA 28) (al 14))) (un (aA 1) (al 14)) fr σ=some (.ref σ.next,σ.alloc (.lst (mP T))):=by
 have e1:al 1 fr σ=some (.lst T,σ):=by rw[bm,h1];rfl
 have c:eO [14] (ji (un (aA 28) (al 14))) (un (aA 1) (al 14)) T fr σ=some (mP T,σ):=Pw (g:=an3) fun t ht σ=>by
  obtain⟨k,w,c,a,rfl⟩:=hT t ht
  have a28: ∀σ,aA 28 (tk k w c a) σ=some (.bool a):=fun _=>rfl
  have a1: ∀σ,aA 1 (tk k w c a) σ=some (.str w):=fun _=>rfl
  have hu:bX (tk k w c a)=false:=rfl
  refine⟨a,by simp only[l7,gq,bm,de,hu,ae,aX,a28,cg,iV],fun ha=>⟨.str w,by simp only[gq,bm,de,hu,ae,aX,a1,cg],by rw[ha];rfl⟩,fun ha=>by rw[ha];rfl⟩
 show bA (al 1 fr σ) (fun x aj=>bA (fJ aj x) fun l ay=>bA (eO [14] (ji (un (aA 28) (al 14))) (un (aA 1) (al 14)) l fr ay) fun vs aL=>bif dj vs.length then some (AV.ref aL.next,aL.alloc (.lst vs))else none)=_
 rw[e1,aX,N1 hk,aX,c,aX,fZ (n:=(mP T).length) (au (tJ ..) hk)];rfl
def tm:BM:=R8 (eJ (bO .Eq) (al 11) (ba (.int (0)))) (eJ (bO .Eq) (cK qG (bi eH (al 1) (bi (b4 .Sub) (al 11) (ba (.int (1))))) aG) (bq gp (aw (ba (.str [115,105,103,110])) (aw (ba (.str [46])) aG))))
theorem Vq{T:aa}(hT:lQ T)(hk:T.length<=99999){fr:Fm}{σ:AS}(h1:gt fr 1= .lst T): ∀(m i:Nat) (p:Bool),i+m=T.length->(i=0->p=true)->(∀j t,i=j+1->T[j]? =some t->p=wN t)->
  eO [11] tm (bi eH (al 1) (al 11)) ((iX i m).map fun i=>.int (ai i)) fr σ=some (j6 p (T.drop i),σ):=by
 intro m
 induction m with
 |zero=>
  intro i p hi _ _
  rw[ic (show T.length<=i from eN hi.symm)];rfl
 |succ m ih=>
  intro i p hi hp0 hp
  have hlt:i<T.length:=by rw[<- hi];exact vj (On m)
  have hx:T[i]? =some T[i]:=fj hlt
  obtain⟨k,w,c,a,ht⟩:=hT _ (GG hlt)
  have ih:=ih (i+1) (wN T[i]) (by rw[<- hi];omega) (fun h=>absurd h (ku _)) fun j t hj ht=>by
   have:j=i:=(jZ hj).symm
   rw[this,hx]at ht
   exact congrArg wN (aI ht)
  have u1:bX (.lst T)=false:=rfl
  have g1:gt (put fr 11 (.int (ai i))) 1= .lst T:=(fV rfl).trans h1
  have oi: ∀{i},i<T.length->dj i=true:=fun h=>fZ (au (gP h) (au hk (by decide)))
  have el:bi eH (al 1) (al 11) (put fr 11 (.int (ai i))) σ=some (T[i],σ):=by
   simp only[jJ,bm,g1,de,u1,l8,ae,aX,Jd (oi hlt) hx]
  have te:tm (put fr 11 (.int (ai i))) σ=some (p,σ):=by
   unfold tm
   cases i with
   |zero=>
    have e0: ∀σ,bO .Eq (.int (ai 0)) (.int 0) σ=some true:=fun _=>rfl
    rw[hp0 rfl]
    simp only[Hh,fH,bm,de,l8,ae,af,aX,d7,e0,cg]
   |succ j=>
    have e0: ∀σ,bO .Eq (.int (ai (j+1))) (.int 0) σ=some false:=fun _=>rfl
    have e1: ∀σ,b4 .Sub (.int (ai (j+1))) (.int 1) σ=some (.int (ai j),σ):=fun σ=>by
     show some (AV.int (ai (j+1)-1),σ)=_
     rw[show ai (j+1)-1=ai j from Bt (j:Int) 1]
    have hj:j<T.length:=Nat.lt_of_succ_lt hlt
    have hy:T[j]? =some T[j]:=fj hj
    obtain⟨k,w,c,a,ht⟩:=hT _ (GG hj)
    rw[hp j _ rfl hy]
    rw[ht]at hy ⊢
    have mt: ∀σ,qG (tk k w c a) σ=some qJ:=fun _=>rfl
    have pt: ∀σ,qJ [tk k w c a] σ=some (.tup [.str k,.str w],σ):=fun _=>rfl
    have m2: ∀a b σ,gp [a,b] σ=some (.tup [a,b],σ):=fun _ _ _=>rfl
    have ce: ∀σ,bO .Eq (.tup [.str k,.str w]) (.tup [.str [115,105,103,110],.str [46]]) σ=some (wN (tk k w c a)):=fun σ=>by
     show some (dp k jp&&(dp w [46]&&true))=some (dp k jp&&dp w [46])
     rw[zT]
    have ut:bX (tk k w c a)=false:=rfl
    simp only[Hh,fH,bm,de,g1,u1,l8,ae,aX,d7,e0,cg,eP,jJ,e1,Jd (oi hj) hy,mt,ct,pt,eB,cA,m2,ce]
  rw[tN,bj]
  show bA (tm (put fr 11 (.int (ai i))) σ) (fun b aj=>bif b then bA (bi eH (al 1) (al 11) (put fr 11 (.int (ai i))) aj) (fun v eW=>bA (eO [11] tm (bi eH (al 1) (al 11)) ((iX (i+1) m).map fun i=>.int (ai i)) fr eW) fun l cO=>some (v::l,cO))else eO [11] tm (bi eH (al 1) (al 11)) ((iX (i+1) m).map fun i=>.int (ai i)) fr aj)=_
  rw[te,aX,List.drop_eq_getElem_cons hlt]
  cases p with
  |true=>rw[af,el,aX,ih];rfl
  |false=>rw[ae,ih];rfl
theorem Vp{T:aa}(hT:lQ T)(hk:T.length<=99999){fr:Fm}{σ:AS}(h1:gt fr 1= .lst T):eX [11] (bq lK (aw (bq ef (aw (al 1) aG)) aG)) tm (bi eH (al 1) (al 11)) fr σ=some (.ref σ.next,σ.alloc (.lst (j6 true T))):=by
 have u1:bX (.lst T)=false:=rfl
 have hk':T.length<=4000000:=au hk (by decide)
 have er:lK [.int (ai T.length)] σ=some (.rng 0 T.length,σ):=by
  show(bif bc T.length 100000 then some (AV.rng 0 T.length,σ)else none)=_
  rw[Hj (Nat.lt_succ_of_le hk)];rfl
 have e1:bq lK (aw (bq ef (aw (al 1) aG)) aG) fr σ=some (.rng 0 T.length,σ):=by
  simp only[eB,cA,ct,bm,h1,u1,ae,aX,x6 (fZ hk'),er]
 have e2:fJ σ (.rng 0 T.length)=some ((iX 0 T.length).map (fun i=>.int (ai i)),σ):=by
  show bA (some ((co (T.length-0)).map (fun i=>AV.int (ai (0+i))),σ)) (fun l aj=>bif dj l.length then some (l,aj)else none)=_
  rw[aX,aU,E6,Om,fZ hk',List.range_eq_range']
  refine congrArg (fun l=>some (l,σ)) (f8 fun i _=> ?_)
  rw[io]
 have c:=Vq hT hk h1 (σ:=σ) T.length 0 true (io _) (fun _=>rfl) fun j t hj _=>absurd hj.symm (ku _)
 have hl: ∀(T:List AV) (p:Bool),(j6 p T).length <=T.length:=fun T=>by
  induction T with
  |nil=>exact fun _=>ax _
  |cons t T ih=>
   intro p
   cases p with
   |true=>exact be (ih (wN t))
   |false=>exact jP (ih (wN t))
 show bA (bq lK (aw (bq ef (aw (al 1) aG)) aG) fr σ) (fun x aj=>bA (fJ aj x) fun l ay=>bA (eO [11] tm (bi eH (al 1) (al 11)) l fr ay) fun vs aL=>bif dj vs.length then some (AV.ref aL.next,aL.alloc (.lst vs))else none)=_
 rw[e1,aX,e2,aX,c,aX,ma,fZ (au (hl T true) hk')];rfl
def Vt(t:AV):Bool:=(ob (aA 2 t ⟨0,[]⟩) fun k=>ob (aA 1 t ⟨0,[]⟩) fun w=>eg k fun k=>some (bif dp k pY then(t4 [w] ⟨0,[]⟩).isSome else true)).getD false
def iZ(T:aa):Bool:=(j6 true T).all Vt
theorem Ja{x:List Nat×List Nat×Nat}{l:List (List Nat×List Nat×Nat)}{m:aa}{a:Bool}{c:Nat}(hx:(dp x.1 jp&&dp x.2.1 [46])=false)(h:x8 l=true)(hg:Vt (tk x.1 x.2.1 c a)=true):iZ (wO a c (x::(l++[KX]))++m)=iZ m:=by
 unfold iZ
 rw[ahK hx h,rH,hg];rfl
theorem ah2{lvl:Nat}(h:rr lvl=true)(c:Nat)(a:Bool):Vt (tk pY (nV lvl) c a)=true:=lvE (P:=fun lvl=>Vt (tk pY (nV lvl) c a)=true) h rfl rfl rfl rfl
theorem ah1{lvl:Nat}{x:Nat×Nat×Nat}{m:aa}(h:rr lvl=true):iZ (kD lvl x++m)=iZ m:=by
 rw[Hx,Ja rfl (by
  show(!(dp uU jp&&dp (nm x.1) [46])&&x8 (Sh x.2.2++(Su x.2.1++Sg x.2.1)))=true
  rw[EL,EL,ai3,alm,aiW];rfl) (ah2 h _ _)]
theorem ah3{n:Nat}{m:aa}:iZ (fM n++m)=iZ m:=Ja (x:=nu [56,56]) (l:=[wd ([73,83,45]++nm n),wd [86,65,76,85,69],(jp,[45],1),nu [53],wd [84,72,82,85],nu [49,46,50,53],(YO,[113],4)]) rfl rfl rfl
theorem ah4{n l:Nat}{m:aa}:iZ (gH n l++m)=iZ m:=by
 unfold gH
 cases l with
 |zero=>exact Ja (x:=nu [54,54]) (l:=[wd (nm n),wd [82,69,78,65,77,69,83],wd (nm 16)]) rfl rfl rfl
 |succ l=>exact Ja (x:=nu [54,54]) (l:=[wd (nm n),wd [82,69,78,65,77,69,83],wd (nm 16),wd [84,72,82,85],wd (nm 22)]) rfl rfl rfl
theorem Jb{a b:ac}{m:aa}:iZ (cj a b++m)=iZ m:=Ja (x:=wd a) (l:=[(uU,b,b.length)]) rfl rfl rfl
theorem qq{lvl:Nat}{l:Lf}{m:aa}(h:rr lvl=true):iZ (dW lvl l++m)=iZ m:=by
 obtain⟨i,c⟩:=l
 unfold dW rU
 rw[aB,ah1 h]
 cases c with
 |false=>rfl
 |true=>exact ah3
theorem ah5{t:Tn}{m:aa}:iZ (vo t++m)=iZ m:=by
 cases t with
 |leaf l=>exact qq rfl
 |grp g a=>
  show iZ ((dW 5 g++dW 10 a)++m)=iZ m
  rw[aB,qq rfl,qq rfl]
 |grp2 g a b=>
  show iZ ((dW 5 g++(dW 10 a++dW 10 b))++m)=iZ m
  rw[aB,qq rfl,aB,qq rfl,qq rfl]
theorem XX{r:Rt}(h:oh r){m:aa}:iZ (iA r++m)=iZ m:=by
 unfold iA
 have h1: ∀(ts:List Tn) (m:List AV),iZ (ts.flatMap vo++m)=iZ m:=fun ts m=>by
  induction ts with
  |nil=>rfl
  |cons t ts ih=>rw[aY,aB,ah5,ih]
 have h2:iZ (VW (ke 1 r.it) r.ren++m)=iZ m:=by
  cases r.ren with
  |zero=>rfl
  |succ l=>exact ah4
 rw[aB,qq h.lv.1,aB,h1,h2]
theorem acT{a b:ac}{o:Option Rt}(h:Kw o){m:aa}:iZ (fQ (cj a b) o++m)=iZ m/\iE (fQ (cj a b) o++m)=(o.map AF).getD []++iE m:=by
 cases o with
 |none=>exact⟨rfl,rfl⟩
 |some r=>
  have e:fQ (cj a b) (some r)++m=cj a b++(iA r++m):=aB ..
  rw[e]
  exact⟨by rw[Jb,XX (h r rfl)],by rw[Jk,Yb (h r rfl)];rfl⟩
noncomputable def CG(d:DS):List Int:=((d.f.map (·.2.2)).map AF).getD []++((d.w.map AF).getD []++(d.l.map AF).getD [])
theorem aop{d:DS}(h:jl d):iZ (gQ d)=true/\iE (gQ d)=CG d:=by
 obtain⟨l1,l2⟩:=acT (a:=pN) (b:=dh) h.l (m:=[])
 obtain⟨w1,w2⟩:=acT (a:=mJ) (b:=dh) h.w (m:=fQ (cj pN dh) d.l++[])
 have hb:iZ (dY d)=true/\iE (dY d)=CG d:=by
  have e3:dY d=jf d++(fQ (cj mJ dh) d.w++(fQ (cj pN dh) d.l++[])):=by
   unfold dY;rw[aR,aB]
  have hf:iZ (jf d++(fQ (cj mJ dh) d.w++(fQ (cj pN dh) d.l++[])))=iZ (fQ (cj mJ dh) d.w++(fQ (cj pN dh) d.l++[]))/\iE (jf d++(fQ (cj mJ dh) d.w++(fQ (cj pN dh) d.l++[])))=((d.f.map (·.2.2)).map AF).getD []++iE (fQ (cj mJ dh) d.w++(fQ (cj pN dh) d.l++[])):=by
   generalize fQ (cj mJ dh) d.w++(fQ (cj pN dh) d.l++[])=m
   obtain⟨f,w,l⟩:=d
   cases f with
   |none=>exact⟨rfl,rfl⟩
   |some x=>
    have e:jf ⟨some x,w,l⟩++m=cj gZ dh++(cj (kB x.2.1) (eA x.1)++(iA x.2.2++m)):=by
     show(cj gZ dh++(cj (kB x.2.1) (eA x.1)++iA x.2.2))++m=_
     rw[aB,aB]
    have hr:=(h.f x rfl).1
    rw[e]
    exact⟨by rw[Jb,Jb,XX hr],by rw[Jk,Jk,Yb hr];rfl⟩
  rw[e3,hf.1,hf.2,w1,w2,l1,l2]
  refine⟨rfl,?_⟩
  unfold CG
  rw[show iE []=[] from rfl,aR]
 unfold gQ
 cases z:(dY d).isEmpty with
 |true=>
  have hb0:=dM.mp z
  rw[hb0]at hb
  exact hb
 |false=>exact⟨Jb.trans hb.1,Jk.trans hb.2⟩
theorem ahL{T:aa}: ∀{p:Bool},∀t∈j6 p T,t∈T:=by
 induction T with
 |nil=>exact fun t h=>h
 |cons x T ih=>
  intro p t h
  cases p with
  |true=>exact(aH.mp (show t∈x::j6 (wN x) T from h)).elim (fun h=>h▸bg ..) fun h=>aQ _ (ih t h)
  |false=>exact aQ _ (ih t (show t∈j6 (wN x) T from h))
theorem aef{w:ac}(h:(t4 [.str w] ⟨0,[]⟩).isSome=true): ∃n,lY 0 w=some n/\ ∀σ,t4 [.str w] σ=some (.int (ai n),σ):=by
 cases w with
 |nil=>exact ff h
 |cons c r=>
  have h:(bif bc r.length 18 then ob (lY 0 (c::r)) (fun n=>some (AV.int (ai n),(⟨0,[]⟩:AS)))else none).isSome=true:=h
  cases z:bc r.length 18 with
  |false=>rw[z]at h;exact ff h
  |true=>
   rw[z,af]at h
   cases e:lY 0 (c::r)with
   |none=>rw[e]at h;exact ff h
   |some n=>
    refine⟨n,rfl,fun σ=> ?_⟩
    show(bif bc r.length 18 then ob (lY 0 (c::r)) (fun n=>some (AV.int (ai n),σ))else none)=_
    rw[z,e];rfl
theorem VC{T:aa}(hT:lQ T)(hg:iZ T=true){fr:Fm}{σ:AS}{j:Nat}(h6:gt fr 6= .ref j)(hj:σ.get j=some (.lst (j6 true T)))(hk:(j6 true T).length <=4000000):
  eX [10] (al 6) (eJ (bO .Eq) (un (aA 2) (al 10)) (ba (.str [110,117,109,98,101,114]))) (bq t4 (aw (un (aA 1) (al 10)) aG)) fr σ=some (.ref (σ.drop j).next,(σ.drop j).alloc (.lst ((iE T).map .int))):=by
 have e1:al 6 fr σ=some (.ref j,σ):=by rw[bm,h6];rfl
 have e2:fJ σ (.ref j)=some (j6 true T,σ.drop j):=by
  show bA (ob (σ.get j) _) _=_
  rw[hj]
  show(bif dj (j6 true T).length then some (j6 true T,σ.drop j)else none)=_
  rw[fZ hk];rfl
 have c:eO [10] (eJ (bO .Eq) (un (aA 2) (al 10)) (ba (.str [110,117,109,98,101,114]))) (bq t4 (aw (un (aA 1) (al 10)) aG)) (j6 true T) fr (σ.drop j)=some ((j6 true T).filterMap (fun t=>(Mn t).map AV.int),σ.drop j):=Pw fun t ht σ=>by
  obtain⟨k,w,c,a,rfl⟩:=hT t (ahL t ht)
  have a2: ∀σ,aA 2 (tk k w c a) σ=some (.str k):=fun _=>rfl
  have a1: ∀σ,aA 1 (tk k w c a) σ=some (.str w):=fun _=>rfl
  have hu:bX (tk k w c a)=false:=rfl
  have gd:(bif dp k pY then(t4 [.str w] ⟨0,[]⟩).isSome else true)=true:=b5.mp hg _ ht
  have lg:Mn (tk k w c a)=bif dp k pY then ob (lY 0 w) (fun n=>some (ai n))else none:=rfl
  have ce: ∀σ,bO .Eq (.str k) (.str [110,117,109,98,101,114]) σ=some (dp k pY):=fun _=>rfl
  refine⟨dp k pY,by simp only[fH,gq,bm,de,hu,ae,aX,a2,cg,d7,ce],fun hb=> ?_,fun hb=>by rw[lg,hb];rfl⟩
  rw[hb]at gd
  refine fg (aef gd) fun n p1 p2=> ?_
  exact⟨.int (ai n),by simp only[eB,cA,ct,gq,bm,de,hu,ae,aX,a1,cg,p2],by rw[lg,hb,af,p1];rfl⟩
 have hm:(j6 true T).filterMap (fun t=>(Mn t).map AV.int)=(iE T).map AV.int:=List.map_filterMap.symm
 show bA (al 6 fr σ) (fun x aj=>bA (fJ aj x) fun l ay=>bA (eO [10] (eJ (bO .Eq) (un (aA 2) (al 10)) (ba (.str [110,117,109,98,101,114]))) (bq t4 (aw (un (aA 1) (al 10)) aG)) l fr ay) fun vs aL=>bif dj vs.length then some (AV.ref aL.next,aL.alloc (.lst vs))else none)=_
 rw[e1,aX,e2,aX,c,aX,fZ (au (tJ ..) hk),hm];rfl
def LA(self:aW):SM:=aV (cV [1] (bi (b4 .Add) (al 1) (bq self (aw (al 2) aG)))) bu
theorem abu{self:aW}{ks:List (AV×List AV)}: ∀{fr:Fm} {σ:AS} {i:Nat} {L:aa},(∀k∈ks,bX k.1=false/\ ∀σ,self [k.1] σ=some (.ref σ.next,σ.alloc (.lst k.2)))->gt fr 1= .ref i->σ.get i=some (.lst L)->i<σ.next->L.length+(ks.flatMap (·.2)).length <=4000000->
  ∃fr' aj j,pH [2] (LA self) (ks.map (·.1)) fr σ=some (.next fr' aj)/\gt fr' 1= .ref j/\aj.get j=some (.lst (L++ks.flatMap (·.2))):=by
 induction ks with
 |nil=>exact fun{fr σ i L} _ hf hi _ _=>⟨fr,σ,i,rfl,hf,by rw[bI,aR];exact hi⟩
 |cons k ks ih=>
  intro fr σ i L h hf hi hs hk
  obtain⟨hu,hself⟩:=h k (bg ..)
  rw[aY]at hk ⊢
  have hk1:L.length+k.2.length<=4000000:=au (dA (by rw[ao];exact cZ _ _) _) hk
  have h1:gt (put fr 2 k.1) 1= .ref i:=(fV rfl).trans hf
  have ea:=IV (σ:=σ.alloc (.lst k.2)) (i:=i) (j:=σ.next) (dQ hi hs) cn hk1
  have e1:LA self (put fr 2 k.1) σ=some (.next (put (put fr 2 k.1) 1 (.ref (σ.alloc (.lst k.2)).next)) ((σ.alloc (.lst k.2)).alloc (.lst (L++k.2)))):=by
   unfold LA
   simp only[dm,fO,jJ,bm,h1,de,fy,hu,ae,aX,eB,cA,ct,hself,ea,cg,dF,fP]
  refine XG (ih (fr:=put (put fr 2 k.1) 1 (.ref (σ.alloc (.lst k.2)).next)) (σ:=(σ.alloc (.lst k.2)).alloc (.lst (L++k.2))) (i:=(σ.alloc (.lst k.2)).next) (L:=L++k.2) (fun k hk=>h k (aQ _ hk)) de cn (bU _) (by rw[ao,kK,<- ao];exact hk)) fun fr' aj j e2 h2 h3=> ?_
  refine⟨fr',aj,j,?_,h2,by rw[h3,aB]⟩
  rw[bj,EU e1,e2]
theorem ao2{σ:AS}{j m:Nat}{l:aa}(hj:σ.get j=some (.lst l))(hm:m<100)(hl:l.length<=1000):b4 .Mult (.ref j) (.int (ai m)) σ=some (.ref σ.next,σ.alloc (.lst (bL m l).flatten)):=by
 show(bif bc m 100 then ob (σ.get j) _ else none)=_
 rw[Hj hm,hj]
 show(bif cJ l.length 1000 then _ else none)=_
 rw[gv hl];rfl
theorem Un{n:Nat}{it lv:AV}{cs:aa}{ks:List (AV×List AV)}(hit:noRef it=true)(hu:bX it=false)(ha: ∀σ,aA 20 it σ=some lv)(hlv:noRef lv=true)(hc: ∀σ,aA 23 it σ=some (.lst cs))(hcl:cs.length<100)(hkd: ∀σ,aA 22 it σ=some (.lst (ks.map (·.1))))
  (hk: ∀k∈ks,bX k.1=false/\ ∀σ,bC n [k.1] σ=some (.ref σ.next,σ.alloc (.lst k.2)))(hn:aN (([lv]++(bL cs.length [AV.int 88]).flatten)++ks.flatMap (·.2))=true)(hl:(([lv]++(bL cs.length [AV.int 88]).flatten)++ks.flatMap (·.2)).length <=4000000)(hkl:ks.length<=4000000)(σ:AS):
  bC (n+1) [it] σ=some (.ref σ.next,σ.alloc (.lst (([lv]++(bL cs.length [AV.int 88]).flatten)++ks.flatMap (·.2)))):=by
 have mk1: ∀a σ,df [a] σ=some (.ref σ.next,σ.alloc (.lst [a])):=fun _ _=>rfl
 have key: ∀σ:AS,∃x aj,z0 (bC n) [it] σ=some (.ref x,aj)/\aj.get x=some (.lst (([lv]++(bL cs.length [AV.int 88]).flatten)++ks.flatMap (·.2))):=fun σ=>by
  have k1:[lv].length +((bL cs.length [AV.int 88]).flatten).length <=4000000:=by
   rw[<- ao]
   exact au (by rw[ao (as:=[lv]++(bL cs.length [AV.int 88]).flatten)];exact cZ _ _) hl
  have em:=ao2 (σ:=(σ.alloc (.lst [lv])).alloc (.lst [.int 88])) (j:=(σ.alloc (.lst [lv])).next) (l:=[.int 88]) cn hcl (by decide)
  have g1:(((σ.alloc (.lst [lv])).alloc (.lst [.int 88])).alloc (.lst (bL cs.length [AV.int 88]).flatten)).get σ.next=some (.lst [lv]):=dQ (dQ cn (bU _)) (cP (bU _))
  have ea:=IV (σ:=((σ.alloc (.lst [lv])).alloc (.lst [.int 88])).alloc (.lst (bL cs.length [AV.int 88]).flatten)) (i:=σ.next) (j:=((σ.alloc (.lst [lv])).alloc (.lst [.int 88])).next) g1 cn k1
  generalize hS:(((σ.alloc (.lst [lv])).alloc (.lst [.int 88])).alloc (.lst (bL cs.length [AV.int 88]).flatten)).alloc (.lst ([lv]++(bL cs.length [AV.int 88]).flatten))=hU at ea
  have g2:hU.get (((σ.alloc (.lst [lv])).alloc (.lst [.int 88])).alloc (.lst (bL cs.length [AV.int 88]).flatten)).next=some (.lst ([lv]++(bL cs.length [AV.int 88]).flatten)):=by rw[<- hS];exact cn
  have l2:(((σ.alloc (.lst [lv])).alloc (.lst [.int 88])).alloc (.lst (bL cs.length [AV.int 88]).flatten)).next <hU.next:=by rw[<- hS];exact bU _
  generalize (((σ.alloc (.lst [lv])).alloc (.lst [.int 88])).alloc (.lst (bL cs.length [AV.int 88]).flatten)).next=i at ea g2 l2
  have ln: ∀σ:AS,ef [.lst cs] σ=some (.int (.ofNat cs.length),σ):=fun σ=>x6 (fZ (au (gP hcl) (by decide)))
  have e1:cV [1] (bi (b4 .Add) (bq df (aw (un (aA 20) (al 0)) aG)) (bi (b4 .Mult) (bq df (aw (ba (.int (88))) aG)) (bq ef (aw (un (aA 23) (al 0)) aG)))) [it] σ=some (.next [it,.ref i] hU):=by
   simp only[fO,jJ,eB,cA,ct,gq,bm,kO,hu,ae,aX,ha,cg,mk1,d7,hc,ln,em,ea,sF,sG,putN]
  obtain⟨fr',aj,j,e2,h2,h3⟩:=abu (self:=bC n) (fr:=[it,.ref i]) (σ:=hU) (i:=i) hk rfl g2 l2 (by rw[<- ao];exact hl)
  have e3:gG [2] (un (aA 22) (al 0)) (LA (bC n)) [it,.ref i] hU=some (.next fr' aj):=by
   refine(zp (l:=ks.map (·.1)) ?_ (by rw[aU];exact hkl)).trans e2
   simp only[gq,bm,kO,hu,ae,aX,hkd,cg]
  refine⟨j,aj,?_,h3⟩
  show ob (ob (cV [1] _ [it] σ) (gR (aV (gG [2] (un (aA 22) (al 0)) (LA (bC n))) (aV (eI (al 1)) bu)))) ib=_
  rw[e1]
  show ob (ob (gG [2] (un (aA 22) (al 0)) (LA (bC n)) [it,.ref i] hU) (gR (aV (eI (al 1)) bu))) ib=_
  rw[e3]
  show ob (aV (eI (al 1)) bu fr' aj) ib=_
  simp only[dm,eu,bm,h2,fy,ae,aX,cg,dI,gF]
 obtain⟨x,aj,e,g⟩:=key ⟨0,[]⟩
 exact aax (by rw[hJ,hit];rfl) e g hn
theorem Da(l:List Int):aN (l.map AV.int)=true:=by
 induction l with
 |nil=>rfl
 |cons a l ih=>exact ih
noncomputable def CW(lvl:Nat)(l:Lf):List AV:=(ai lvl::nU l).map AV.int
theorem zR{n lvl:Nat}{l:Lf}{ks:List (AV×List AV)}{p:AV}(hks:aN (ks.map (·.1))=true)(hp:noRef p=true)(hk: ∀k∈ks,bX k.1=false/\ ∀σ,bC n [k.1] σ=some (.ref σ.next,σ.alloc (.lst k.2)))(hn:aN (ks.flatMap (·.2))=true)(hl:(CW lvl l++ks.flatMap (·.2)).length <=4000000)(hkl:ks.length<=4000000)(σ:AS):
  bC (n+1) [pi lvl l (ks.map (·.1)) p] σ=some (.ref σ.next,σ.alloc (.lst (CW lvl l++ks.flatMap (·.2)))):=by
 have hit:noRef (pi lvl l (ks.map (·.1)) p)=true:=by
  show(true&&aN (kh _ _ _ _ _))=true
  rw[HF,HE,sD,hks,hp];rfl
 have key: ∀cs:List AV,conds lvl l= .lst cs->[AV.int (ai lvl)]++(bL cs.length [AV.int 88]).flatten=CW lvl l->cs.length<100->bC (n+1) [pi lvl l (ks.map (·.1)) p] σ=some (.ref σ.next,σ.alloc (.lst (CW lvl l++ks.flatMap (·.2)))):=fun cs h1 h2 h3=>by
  have h:=Un (n:=n) (it:=pi lvl l (ks.map (·.1)) p) (lv:=.int (ai lvl)) (cs:=cs) (ks:=ks) hit rfl (fun _=>rfl) rfl (fun σ=> ?_) h3 (fun _=>rfl) hk (by rw[h2,b9,hn,show aN (CW lvl l)=true from Da _];rfl) (by rw[h2];exact hl) hkl σ
  ·rw[h2]at h;exact h
  ·rw[<- h1]
   obtain⟨i,c⟩:=l
   cases c<;>rfl
 obtain⟨i,c⟩:=l
 cases c with
 |false=>exact key [] rfl rfl (by decide)
 |true=>exact key [qt (ke lvl ⟨i,true⟩)] rfl rfl (show 1<100 by decide)
theorem uy(lvl:Nat)(l:Lf):(CW lvl l).length <=2:=by
 unfold CW nU
 cases l.c<;>exact av rfl
theorem J4{n lvl:Nat}{l:Lf}(σ:AS):bC (n+1) [oq lvl l .opq] σ=some (.ref σ.next,σ.alloc (.lst (CW lvl l))):=by
 have h:=zR (n:=n) (lvl:=lvl) (l:=l) (ks:=[]) (p:=.opq) rfl rfl (fun _ h=>absurd h bh) rfl (by rw[bI,aR];exact au (uy lvl l) (by decide)) (aS _) σ
 rw[bI,aR]at h
 exact h
theorem afD{n i l:Nat}(σ:AS):bC (n+1) [.frz cq gn (km i l .opq)] σ=some (.ref σ.next,σ.alloc (.lst [.int 66])):=by
 have hrn:noRef (yi l)=true:=N7 (P:=fun a=>noRef a=true) rfl rfl l
 have hit:noRef (.frz cq gn (km i l .opq))=true:=by
  show aN (km i l .opq)=true
  simp only[km,hJ,Ys,Yq,Yo,Yn,acF,sD,hrn,Yr,rG]
 exact Un (n:=n) (it:=.frz cq gn (km i l .opq)) (lv:=.int 66) (cs:=[]) (ks:=[]) hit rfl (fun _=>rfl) rfl (fun _=>rfl) (by decide) (fun _=>rfl) (fun _ h=>absurd h bh) rfl (av rfl) (aS _) σ
theorem alt{n:Nat}(t:Tn)(σ:AS):bC (n+2) [sQ t] σ=some (.ref σ.next,σ.alloc (.lst ((yt t).map AV.int))):=by
 cases t with
 |leaf l=>exact J4 (n:=n+1) σ
 |grp g a=>
  have h:=zR (n:=n+1) (lvl:=5) (l:=g) (ks:=[(oq 10 a .opq,CW 10 a)]) (p:=.opq) (by rw[bj,jY,hJ,qu];rfl) rfl (fun k hk=>(aP.mp hk)▸⟨rfl,fun σ=>J4 σ⟩)
   (by rw[aY,bI,aR];exact Da _) (by rw[aY,bI,aR,ao];exact au (aJ (uy _ _) (uy _ _)) (by decide)) (av rfl) σ
  rw[aY,bI,aR,show CW 5 g++CW 10 a=(yt (.grp g a)).map AV.int from(bw ..).symm]at h
  exact h
 |grp2 g a b=>
  have h:=zR (n:=n+1) (lvl:=5) (l:=g) (ks:=[(oq 10 a .opq,CW 10 a),(oq 10 b .opq,CW 10 b)]) (p:=.opq) (by rw[bj,bj,jY,hJ,hJ,qu,qu];rfl) rfl
   (fun k hk=>(aH.mp hk).elim (fun h=>h▸⟨rfl,fun σ=>J4 σ⟩) fun hk=>(aP.mp hk)▸⟨rfl,fun σ=>J4 σ⟩)
   (by rw[aY,aY,bI,aR,b9];exact(congr (congrArg and (Da _)) (Da _))) (by rw[aY,aY,bI,aR,ao,ao];exact au (aJ (uy _ _) (aJ (uy _ _) (uy _ _))) (by decide)) (av rfl) σ
  rw[aY,aY,bI,aR]at h
  have e:CW 5 g++(CW 10 a++CW 10 b)=(yt (.grp2 g a b)).map AV.int:=by
   show(ai 5::nU g).map AV.int++((ai 10::nU a).map AV.int++(ai 10::nU b).map AV.int)=_
   rw[<- bw,<- bw];rfl
  rw[e]at h
  exact h
theorem alb(t:Tn):(yt t).length <=6:=by
 have h: ∀l:Lf,(nU l).length <=1:=fun l=>by unfold nU;cases l.c<;>exact av rfl
 cases t with
 |leaf l=>exact au (be (h l)) (by decide)
 |grp g a=>
  show(5::(nU g++10::nU a)).length <=6
  rw[bT,ao,bT]
  exact au (be (aJ (h g) (be (h a)))) (by decide)
 |grp2 g a b=>
  show(5::(nU g++10::(nU a++10::nU b))).length <=6
  rw[bT,ao,bT,ao,bT]
  exact be (aJ (h g) (be (aJ (h a) (be (h b)))))
theorem Lh{ts:List Tn}(h:ts.length<=8):(ts.flatMap yt).length <=48:=by
 have: ∀ts:List Tn,(ts.flatMap yt).length <=6*ts.length:=fun ts=>by
  induction ts with
  |nil=>exact ax _
  |cons t ts ih=>
   rw[aY,ao,bT,Ol,lG]
   exact aJ ih (alb t)
 exact au (this ts) (pR 6 h)
theorem als{r:Rt}(h:r.ts.length<=8)(σ:AS):bC 6 [eo r] σ=some (.ref σ.next,σ.alloc (.lst ((AF r).map AV.int))):=by
 have hr: ∃ks:List (AV×List AV),ks.map (·.1)=qT r/\ks.flatMap (·.2)=(QJ r.ren).map AV.int/\ks.length<=1/\ ∀k∈ks,bX k.1=false/\ ∀σ,bC 5 [k.1] σ=some (.ref σ.next,σ.alloc (.lst k.2)):=by
  obtain⟨lv,it,ts,n⟩:=r
  cases n with
  |zero=>exact⟨[],rfl,rfl,aS _,fun _ h=>absurd h bh⟩
  |succ l=>exact⟨[(.frz cq gn (km (17+ke 1 it) l .opq),[.int 66])],rfl,rfl,ax _,fun k hk=>(aP.mp hk)▸⟨rfl,fun σ=>afD σ⟩⟩
 obtain⟨ks,r1,r2,r3,r4⟩:=hr
 have hf:(r.ts.map (fun t=>(sQ t,(yt t).map AV.int))++ks).map (·.1)=DU r.ts++qT r:=by
  rw[bw,r1,gO]
  refine congrArg (· ++qT r) ?_
  induction r.ts with
  |nil=>rfl
  |cons t ts ih=>exact congrArg (sQ t:: ·) ih
 have hs:(r.ts.map (fun t=>(sQ t,(yt t).map AV.int))++ks).flatMap (·.2)=(r.ts.flatMap yt++QJ r.ren).map AV.int:=by
  rw[lb,r2,bw]
  refine congrArg (· ++(QJ r.ren).map AV.int) ?_
  induction r.ts with
  |nil=>rfl
  |cons t ts ih=>
   show(yt t).map AV.int++(ts.map (fun t=>(sQ t,(yt t).map AV.int))).flatMap (·.2)=(yt t++ts.flatMap yt).map AV.int
   rw[ih,bw]
 have hrn:(QJ r.ren).length <=1:=by cases r.ren<;>exact av rfl
 have q:=zR (n:=5) (lvl:=r.lvl) (l:=r.it) (ks:=r.ts.map (fun t=>(sQ t,(yt t).map AV.int))++ks) (p:=.none) (by rw[hf,b9,N5,VM];rfl) rfl
  (fun k hk=>(cX.mp hk).elim (fun hk=>by
   obtain⟨t,_,rfl⟩:=dD.mp hk
   exact⟨by cases t<;>rfl,fun σ=>alt (n:=3) t σ⟩) (r4 k))
  (by rw[hs];exact Da _)
  (by rw[hs,ao,aU,ao];exact au (aJ (uy _ _) (aJ (Lh h) hrn)) (by decide))
  (by rw[ao,aU];exact au (aJ h r3) (by decide)) σ
 have e:CW r.lvl r.it++(r.ts.flatMap yt++QJ r.ren).map AV.int=(AF r).map AV.int:=(bw ..).symm
 rw[hf,hs,e]at q
 exact q
def kM(σ aj:AS):Prop:=σ.next<=aj.next/\ ∀j c,j<σ.next->σ.get j=some c->aj.get j=some c
theorem kM.rfl'{σ:AS}:kM σ σ:=⟨ax _,fun _ _ _ h=>h⟩
theorem kM.trans{a b c:AS}(h:kM a b)(h':kM b c):kM a c:=⟨au h.1 h'.1,fun j x hj hx=>h'.2 j x (fm hj h.1) (h.2 j x hj hx)⟩
theorem kM.alloc{σ:AS}{d:bJ}:kM σ (σ.alloc d):=⟨cU _,fun _ _ hj hx=>dQ hx hj⟩
theorem kM.adrop{σ:AS}{d:bJ}:kM σ ((σ.alloc d).drop σ.next):=⟨cU _,fun _ _ hj hx=>by rw[AS.get_drop,if_neg (cu hj)];exact dQ hx hj⟩
theorem afC{rs:List (AV×List AV)}{fr:Fm}: ∀{σ:AS},(∀p∈rs,bX p.1=false/\(∀a∈p.2,bX a=false)/\p.2.length<=4000000/\ ∀σ,bC 6 [p.1] σ=some (.ref σ.next,σ.alloc (.lst p.2)))->
  ∃aj,jA 8 (bq (bC 6) (aw (al 8) aG)) 9 (al 9) (rs.map (·.1)) fr σ=some (rs.flatMap (·.2),aj)/\kM σ aj:=by
 induction rs with
 |nil=>exact fun{σ} _=>⟨σ,rfl,kM.rfl'⟩
 |cons p rs ih=>
  intro σ h
  obtain⟨hu,hi,hk,hw⟩:=h p (bg ..)
  have e1:bq (bC 6) (aw (al 8) aG) (put fr 8 p.1) σ=some (.ref σ.next,σ.alloc (.lst p.2)):=by
   simp only[eB,cA,ct,bm,de,hu,ae,aX,hw]
  have e2:fJ (σ.alloc (.lst p.2)) (.ref σ.next)=some (p.2,(σ.alloc (.lst p.2)).drop σ.next):=by
   show bA (ob ((σ.alloc (.lst p.2)).get σ.next) _) _=_
   rw[cn]
   show(bif dj p.2.length then some (p.2,(σ.alloc (.lst p.2)).drop σ.next)else none)=_
   rw[fZ hk];rfl
  obtain⟨aj,e4,hK⟩:=ih (σ:=(σ.alloc (.lst p.2)).drop σ.next) fun q hq=>h q (aQ _ hq)
  refine⟨aj,?_,kM.adrop.trans hK⟩
  show bA (bq (bC 6) (aw (al 8) aG) (put fr 8 p.1) σ) (fun s aj=>bA (fJ aj s) fun l ay=>bA (eO [9] (fun _ σ=>some (true,σ)) (al 9) l (put fr 8 p.1) ay) fun bs eW=>bA (jA 8 (bq (bC 6) (aw (al 8) aG)) 9 (al 9) (rs.map (·.1)) fr eW) fun cs cO=>some (bs++cs,cO))=_
  rw[e1,aX,e2,aX,agv hi,aX,e4];rfl
def Nx(o:Option Rt):List (AV×List AV):=bp (motive:=fun _=>List (AV×List AV)) [] (fun r=>[(eo r,(AF r).map AV.int)]) o
theorem VY{o:Option Rt}(h: ∀r,o=some r->r.ts.length<=8):(Nx o).map (·.1)=jo o/\(Nx o).flatMap (·.2)=((o.map AF).getD []).map AV.int/\ ∀p∈Nx o,bX p.1=false/\(∀a∈p.2,bX a=false)/\p.2.length<=4000000/\ ∀σ,bC 6 [p.1] σ=some (.ref σ.next,σ.alloc (.lst p.2)):=by
 cases o with
 |none=>exact⟨rfl,rfl,fun _ h=>absurd h bh⟩
 |some r=>
  refine⟨rfl,aR _,fun p hp=> ?_⟩
  rw[aP.mp hp]
  refine⟨rfl,fun a ha=> ?_,?_,als (h r rfl)⟩
  ·obtain⟨i,_,rfl⟩:=dD.mp ha
   rfl
  ·have hc:(nU r.it).length <=1:=by unfold nU;cases r.it.c<;>exact av rfl
   have hrn:(QJ r.ren).length <=1:=by cases r.ren<;>exact av rfl
   rw[aU]
   show(ai r.lvl::(nU r.it++(r.ts.flatMap yt++QJ r.ren))).length <=4000000
   rw[bT,ao,ao]
   exact au (be (aJ hc (aJ (Lh (h r rfl)) hrn))) (by decide)
theorem jl.fo{d:DS}(h:jl d): ∀r,d.f.map (·.2.2)=some r->r.ts.length<=8:=fun r e=>by
 cases q:d.f with
 |none=>rw[q]at e;exact nn e
 |some x=>
  rw[q]at e
  rw[<- aI e]
  exact(h.f x q).1.ts8
theorem Wj{d:DS}(h:jl d){fr:Fm}{σ:AS}(h3:gt fr 3= .lst (ek d)): ∃aj:AS,qP 8 (al 3) 9 (bq (bC 6) (aw (al 8) aG)) (al 9) fr σ=some (.ref aj.next,aj.alloc (.lst ((CG d).map AV.int)))/\kM σ aj:=by
 obtain⟨a1,a2,a3⟩:=VY h.fo
 obtain⟨b1,b2,b3⟩:=VY h.w.ts
 obtain⟨c1,c2,c3⟩:=VY h.l.ts
 have m1:(((Nx (d.f.map (·.2.2))++Nx d.w)++Nx d.l)).map (·.1)=ek d:=by
  rw[bw,bw,a1,b1,c1];rfl
 have m2:(((Nx (d.f.map (·.2.2))++Nx d.w)++Nx d.l)).flatMap (·.2)=(CG d).map AV.int:=by
  rw[lb,lb,a2,b2,c2,<- bw,<- bw,aB];rfl
 have all: ∀p∈(Nx (d.f.map (·.2.2))++Nx d.w)++Nx d.l,bX p.1=false/\(∀a∈p.2,bX a=false)/\p.2.length<=4000000/\ ∀σ,bC 6 [p.1] σ=some (.ref σ.next,σ.alloc (.lst p.2)):=fun p hp=>(cX.mp hp).elim (fun hp=>(cX.mp hp).elim (a3 p) (b3 p)) (c3 p)
 obtain⟨aj,e,hK⟩:=afC (fr:=put fr 9 .unb) (σ:=σ) all
 rw[m1,m2]at e
 refine⟨aj,?_,hK⟩
 have e1:al 3 fr σ=some (.lst (ek d),σ):=by rw[bm,h3];rfl
 have hr:(ek d).length <=4000000:=by
  unfold ek fL
  rw[ao,ao]
  exact au (aJ (aJ (ru _) (ru _)) (ru _)) (by decide)
 have hl:(CG d).length <=4000000:=by
  have ho: ∀o:Option Rt,(∀r,o=some r->r.ts.length<=8)->((o.map AF).getD []).length <=1000:=fun o h=>by
   cases o with
   |none=>exact aS _
   |some r=>
    have hc:(nU r.it).length <=1:=by unfold nU;cases r.it.c<;>exact av rfl
    have hrn:(QJ r.ren).length <=1:=by cases r.ren<;>exact av rfl
    show(ai r.lvl::(nU r.it++(r.ts.flatMap yt++QJ r.ren))).length <=1000
    rw[bT,ao,ao]
    exact au (be (aJ hc (aJ (Lh (h r rfl)) hrn))) (by decide)
  unfold CG
  rw[ao,ao]
  exact au (aJ (ho _ h.fo) (aJ (ho _ h.w.ts) (ho _ h.l.ts))) (by decide)
 show bA (al 3 fr σ) (fun a aj=>bA (fJ aj a) fun l ay=>bA (jA 8 (bq (bC 6) (aw (al 8) aG)) 9 (al 9) l (put fr 9 .unb) ay) fun vs aL=>bif dj vs.length then some (AV.ref aL.next,aL.alloc (.lst vs))else none)=_
 rw[e1,aX,N1 hr,aX,e,aX,fZ (by rw[aU];exact hl)];rfl
def Mt(h:ac)(o:Option Rt):List (List Nat):=bp (motive:=fun _=>List (List Nat)) [] (fun r=>[h,nV r.lvl]) o
def Vo(d:DS):List (List Nat):=bp (motive:=fun _=>List (List Nat)) [] (fun x=>[gZ,kB x.2.1,nV x.2.2.lvl]) d.f
def w0(d:DS):List (List Nat):=bif (dY d).isEmpty then[]else jI::((Vo d++Mt mJ d.w)++Mt pN d.l)
theorem Ul{a b:ac}{o:Option Rt}(h:Kw o):mP (fQ (cj a b) o)=(Mt a o).map .str:=by
 cases o with
 |none=>rfl
 |some r=>
  show mP (cj a b++iA r)=_
  rw[i7,J2,Zc (h r rfl)];rfl
theorem alg{d:DS}(h:jl d):mP (gQ d)=(w0 d).map .str:=by
 have hf:mP (jf d)=(Vo d).map .str:=by
  obtain⟨f,w,l⟩:=d
  cases f with
  |none=>rfl
  |some x=>
   show mP (cj gZ dh++(cj (kB x.2.1) (eA x.1)++iA x.2.2))=_
   rw[i7,i7,J2,J2,Zc (h.f x rfl).1];rfl
 have hb:mP (dY d)=((Vo d++Mt mJ d.w)++Mt pN d.l).map .str:=by
  unfold dY
  rw[i7,i7,hf,Ul h.w,Ul h.l,<- bw,<- bw]
 unfold gQ w0
 cases (dY d).isEmpty with
 |true=>rfl
 |false=>
  show mP (cj jI uT++dY d)=_
  rw[i7,J2,hb];rfl
def hW(h:ac)(o:Option Rt):List (List Nat):=bp (motive:=fun _=>List (List Nat)) [] (fun _=>[h]) o
def lW(o:Option Rt):List (List Nat):=bp (motive:=fun _=>List (List Nat)) [] (fun r=>[nV r.lvl]) o
def fdW(d:DS):List (List Nat):=bp (motive:=fun _=>List (List Nat)) [] (fun x=>[kB x.2.1]) d.f
def Au(d:DS):List (List Nat):=((([jI]++hW gZ (d.f.map (·.2.2)))++hW mJ d.w)++hW pN d.l)++fdW d++((lW (d.f.map (·.2.2))++lW d.w)++lW d.l)
theorem ak0{d:DS}(h:jl d)(hb:(dY d).isEmpty=false):jU (w0 d)=jU (Au d):=by
 have lv: ∀r,oh r->nV r.lvl=[48,49]\/nV r.lvl=[55,55]:=fun r h=>h.top.elim (fun e=>.inl (by rw[e];rfl)) fun e=>.inr (by rw[e];rfl)
 have e:w0 d=jI::((Vo d++Mt mJ d.w)++Mt pN d.l):=by unfold w0;rw[hb];rfl
 rw[e]
 unfold Au
 clear e hb
 obtain⟨hf,hw,hl⟩:=h
 obtain⟨f,w,l⟩:=d
 have kl: ∀{o:Option Rt},Kw o->o.map (fun r=>nV r.lvl)=none\/o.map (fun r=>nV r.lvl)=some [48,49]\/o.map (fun r=>nV r.lvl)=some [55,55]:=by
  intro o h
  cases o with
  |none=>exact .inl rfl
  |some r=>exact .inr ((lv r (h r rfl)).imp (congrArg some) (congrArg some))
 have e1: ∀(a:List Nat) (o:Option Rt),Mt a o=bp (motive:=fun _=>List (List Nat)) [] (fun x=>[a,x]) (o.map fun r=>nV r.lvl):=fun a o=>by cases o<;>rfl
 have e2: ∀(a:List Nat) (o:Option Rt),hW a o=bp (motive:=fun _=>List (List Nat)) [] (fun _=>[a]) (o.map fun r=>nV r.lvl):=fun a o=>by cases o<;>rfl
 have e3: ∀(o:Option Rt),lW o=bp (motive:=fun _=>List (List Nat)) [] (fun x=>[x]) (o.map fun r=>nV r.lvl):=fun o=>by cases o<;>rfl
 have kf:(f=none)\/ ∃o s r,f=some (o,s,r)/\(nV r.lvl=[48,49]\/nV r.lvl=[55,55]):=by
  cases f with
  |none=>exact .inl rfl
  |some x=>exact .inr ⟨x.1,x.2.1,x.2.2,rfl,lv _ (hf x rfl).1⟩
 have kw:=kl hw
 have k3:=kl hl
 rw[e1,e1,e2 mJ,e2 pN,e3 w,e3 l]
 revert kw k3
 generalize w.map (fun r=>nV r.lvl)=w'
 generalize l.map (fun r=>nV r.lvl)=l'
 intro kw k3
 rcases kf with rfl|⟨o,s,r,rfl,kr⟩
 ·rcases kw with rfl|rfl|rfl<;>rcases k3 with rfl|rfl|rfl<;>rfl
 ·show jU (jI::(([gZ,kB s,nV r.lvl]++_)++_))=jU (((([jI]++[gZ])++_)++_)++[kB s]++(([nV r.lvl]++_)++_))
  revert kr
  generalize nV r.lvl=x
  intro kr
  cases s<;>rcases kr with rfl|rfl<;>rcases kw with rfl|rfl|rfl<;>rcases k3 with rfl|rfl|rfl<;>rfl
def Yl(σ:AS)(e:EM)(fr:Fm)(l:aa):Prop:= ∃i aj,e fr σ=some (.ref i,aj)/\aj.get i=some (.lst l)/\i<aj.next/\kM σ aj
theorem alD{as:LM}{fr:Fm}{l:aa}{σ:AS}(h:as fr σ=some (l,σ))(hk:l.length<=4000000):Yl σ (bq df as) fr l:=by
 refine⟨σ.next,σ.alloc (.lst l),?_,cn,bU _,kM.alloc⟩
 rw[eB,h,aX]
 show(bif dj l.length then some (AV.ref σ.next,σ.alloc (.lst l))else none)=_
 rw[fZ hk];rfl
theorem anr{i j:Nat}{fr:Fm}{σ:AS}{l:aa}(h:gt fr i= .ref j)(g:σ.get j=some (.lst l))(hj:j<σ.next):Yl σ (al i) fr l:=⟨j,σ,by rw[bm,h];rfl,g,hj,kM.rfl'⟩
theorem J5{a b:EM}{fr:Fm}{l m:aa}{σ:AS}(ha:Yl σ a fr l)(hb: ∀aj,kM σ aj->Yl aj b fr m)(hk:l.length+m.length<=4000000):Yl σ (bi (b4 .Add) a b) fr (l++m):=by
 refine XE (ha) fun i gJ e1 g1 l1 k1=> ?_
 refine XE (hb gJ k1) fun j hU e2 g2 l2 k2=> ?_
 refine⟨hU.next,hU.alloc (.lst (l++m)),?_,cn,bU _,k1.trans (k2.trans kM.alloc)⟩
 rw[jJ,e1,aX,e2,aX,IV (k2.2 _ _ l1 g1) g2 hk]
theorem abF{c:BM}{a b:EM}{fr:Fm}{t:Bool}{l m:aa}{σ:AS}(hc: ∃aj,c fr σ=some (t,aj)/\kM σ aj)(ha: ∀σ,Yl σ a fr l)(hb: ∀σ,Yl σ b fr m):Yl σ (tl c a b) fr (bif t then l else m):=by
 obtain⟨gJ,e1,k1⟩:=hc
 cases t with
 |true=>
  obtain⟨i,hU,e2,g,l2,k2⟩:=ha gJ
  exact⟨i,hU,by rw[wL,e1,aX];exact e2,g,l2,k1.trans k2⟩
 |false=>
  obtain⟨i,hU,e2,g,l2,k2⟩:=hb gJ
  exact⟨i,hU,by rw[wL,e1,aX];exact e2,g,l2,k1.trans k2⟩
theorem Zg{i:Nat}{it elt:EM}{fr:Fm}{ps:List (AV×AV)}{σ:AS}{a:AV}(e1:it fr σ=some (a,σ))(e2:fJ σ a=some (ps.map (·.1),σ))(hl:ps.length<=4000000)(h: ∀p∈ps,∀σ,elt (put fr i p.1) σ=some (p.2,σ)):
  Yl σ (eX [i] it (fun _ σ=>some (true,σ)) elt) fr (ps.map (·.2)):=by
 refine⟨σ.next,σ.alloc (.lst (ps.map (·.2))),?_,cn,bU _,kM.alloc⟩
 show bA (it fr σ) (fun x aj=>bA (fJ aj x) fun l ay=>bA (eO [i] (fun _ σ=>some (true,σ)) elt l fr ay) fun vs aL=>bif dj vs.length then some (AV.ref aL.next,aL.alloc (.lst vs))else none)=_
 rw[e1,aX,e2,aX,Hn (i:=i) (elt:=elt) (fr:=fr) (ps:=ps) (σ:=σ) h,aX,fZ (by rw[aU];exact hl)];rfl
theorem aft{l:List (List Nat)}:nO (l.map AV.str)=some l:=by
 induction l with
 |nil=>rfl
 |cons a l ih=>
  show ob (nO (l.map AV.str)) (fun l=>some (a::l))=_
  rw[ih];rfl
theorem srt{σ:AS}{i:Nat}{l:List (List Nat)}(h:σ.get i=some (.lst (l.map AV.str)))(hk:l.length<64):qf [.ref i] σ=some (.ref σ.next,σ.alloc (.lst ((jU l).map .str))):=by
 have h1:iU σ (.ref i)=some (l.map AV.str):=jn h
 show ob (iU σ (.ref i)) (fun l=>ob (nO l) fun ss=>bif bc ss.length 64 then some (AV.ref σ.next,σ.alloc (.lst ((jU ss).map .str)))else none)=_
 rw[h1,cg,aft,cg,Hj hk];rfl
theorem adL{n:Nat}{l:aa}(h: ∀a∈l,wJ n a a=some true):KZ (wJ n) l l=some true:=by
 induction l with
 |nil=>rfl
 |cons a l ih=>
  show ob (wJ n a a) _=_
  rw[h a (bg ..),cg]
  rw[ih fun b hb=>h b (aQ _ hb)];rfl
theorem ab8{σ:AS}{i j:Nat}{l:aa}(hi:σ.get i=some (.lst l))(hj:σ.get j=some (.lst l))(h: ∀a∈l,wJ 16 a a=some true):eqA σ (.ref i) (.ref j)=some true:=by
 have h1:iU σ (.ref i)=some l:=jn hi
 have h2:iU σ (.ref j)=some l:=jn hj
 show od (iU σ (.ref i)) (fun l=>ob (iU σ (.ref j)) fun m=>bif rv l m then KZ (wJ 16) l m else some false) _=_
 rw[h1,anT,h2,cg,show rv l l=true from Oj _]
 exact adL h
theorem afS(s:ac):wJ 16 (.str s) (.str s)=some true:=by
 show some (dp s s)=_
 rw[PU]
theorem c26{d:DS}{fr:Fm}{σ:AS}(h0:gt fr 0=bK d): ∃aj,eJ (bO .NotEq) (un (aA 26) (al 0)) F2 fr σ=some (d.f.isSome,aj)/\kM σ aj:=by
 refine⟨σ.alloc (.dct [] []),?_,kM.alloc⟩
 have hu:bX (bK d)=false:=rfl
 have a26: ∀σ,aA 26 (bK d) σ=some (.dct (Sc d) (PX d)):=fun _=>rfl
 have ed:F2 fr σ=some (.ref σ.next,σ.alloc (.dct [] [])):=rfl
 have h1:PG (σ.alloc (.dct [] [])) (.ref σ.next)=some []:=(show ob ((σ.alloc (.dct [] [])).get σ.next) _=_ by rw[cn];rfl)
 have ne:bO .NotEq (.dct (Sc d) (PX d)) (.ref σ.next) (σ.alloc (.dct [] []))=some d.f.isSome:=by
  show ob (ob (PG (σ.alloc (.dct [] [])) (.ref σ.next)) fun ks'=>bif ks'.isEmpty then some (Sc d).isEmpty else none) (fun b=>some !b)=_
  rw[h1]
  obtain⟨f,w,l⟩:=d
  cases f<;>rfl
 simp only[fH,gq,bm,h0,hu,ae,aX,a26,cg,ed,ne]
theorem anC{d:DS}{k:Nat}{o:Option Rt}{fr:Fm}{σ:AS}(h0:gt fr 0=bK d)(ak: ∀σ,aA k (bK d) σ=some (.lst (jo o))): ∃aj,eJ (bO .NotEq) (un (aA k) (al 0)) (bq df aG) fr σ=some (o.isSome,aj)/\kM σ aj:=by
 refine⟨σ.alloc (.lst []),?_,kM.alloc⟩
 have hu:bX (bK d)=false:=rfl
 have ne:bO .NotEq (.lst (jo o)) (.ref σ.next) (σ.alloc (.lst []))=some o.isSome:=by
  show TP (bO .Eq (.lst (jo o)) (.ref σ.next) (σ.alloc (.lst [])))=_
  rw[I7 cn]
  cases o<;>rfl
 simp only[fH,gq,bm,h0,hu,ae,aX,ak,cg,eB,ct,pk,ne]
def aaj:EM:=bi (b4 .Add) (bi (b4 .Add) (bi (b4 .Add) (bq df (aw (ba (.str [68,65,84,65])) aG)) (tl (eJ (bO .NotEq) (un (aA 26) (al 0)) F2) (bq df (aw (ba (.str [70,73,76,69])) aG)) (bq df aG))) (tl (eJ (bO .NotEq) (un (aA 24) (al 0)) (bq df aG)) (bq df (aw (ba (.str [87,79,82,75,73,78,71,45,83,84,79,82,65,71,69])) aG)) (bq df aG))) (tl (eJ (bO .NotEq) (un (aA 25) (al 0)) (bq df aG)) (bq df (aw (ba (.str [76,73,78,75,65,71,69])) aG)) (bq df aG))
def K4(d:DS):List (List Nat):=(([jI]++hW gZ (d.f.map (·.2.2)))++hW mJ d.w)++hW pN d.l
theorem aal{d:DS}{fr:Fm}{σ:AS}(h0:gt fr 0=bK d):Yl σ aaj fr ((K4 d).map .str):=by
 have m0: ∀σ,Yl σ (bq df aG) fr []:=fun σ=>alD rfl (aS _)
 have m1: ∀s σ,Yl σ (bq df (aw (ba (.str s)) aG)) fr [.str s]:=fun s σ=>alD rfl (av rfl)
 have le: ∀(t:Bool) (s:List Nat),(bif t then[AV.str s]else[]).length <=1:=fun t s=>by cases t<;>exact av rfl
 have y1:=J5 (m1 [68,65,84,65] σ) (fun aj _=>abF (c26 (σ:=aj) h0) (m1 [70,73,76,69]) m0) (au (dA (le _ _) 1) (by decide))
 have y2:=J5 y1 (fun aj _=>abF (anC (k:=24) (o:=d.w) (σ:=aj) h0 fun _=>rfl) (m1 [87,79,82,75,73,78,71,45,83,84,79,82,65,71,69]) m0) (by rw[ao];exact au (aJ (dA (le _ _) 1) (le _ _)) (by decide))
 have y3:=J5 y2 (fun aj _=>abF (anC (k:=25) (o:=d.l) (σ:=aj) h0 fun _=>rfl) (m1 [76,73,78,75,65,71,69]) m0) (by rw[ao,ao];exact au (aJ (aJ (dA (le _ _) 1) (le _ _)) (le _ _)) (by decide))
 have e:(K4 d).map AV.str=(([AV.str [68,65,84,65]]++bif d.f.isSome then[AV.str [70,73,76,69]]else[])++bif d.w.isSome then[AV.str [87,79,82,75,73,78,71,45,83,84,79,82,65,71,69]]else[])++bif d.l.isSome then[AV.str [76,73,78,75,65,71,69]]else[]:=by
  obtain⟨f,w,l⟩:=d
  cases f<;>cases w<;>cases l<;>rfl
 rw[e];exact y3
def fdE:EM:=eX [12] (un (aA 26) (al 0)) (fun _ σ=>some (true,σ)) (tl (eJ (bO .In) (al 12) (un (aA 27) (al 0))) (ba (.str [83,68])) (ba (.str [70,68])))
def aaE:EM:=eX [13] (al 3) (fun _ σ=>some (true,σ)) (bi eH (bq (HD [1,77]) (aw (ba (.str [48,49])) (aw (ba (.str [55,55])) aG))) (un (aA 20) (al 13)))
def anI(d:DS):List (AV×AV):=bp (motive:=fun _=>List (AV×AV)) [] (fun x=>[(.str (eA x.1),.str (kB x.2.1))]) d.f
def lvP(o:Option Rt):List (AV×AV):=bp (motive:=fun _=>List (AV×AV)) [] (fun r=>[(eo r,.str (nV r.lvl))]) o
def TK(d:DS):List (AV×AV):=(lvP (d.f.map (·.2.2))++lvP d.w)++lvP d.l
theorem alZ{d:DS}{fr:Fm}{σ:AS}(h0:gt fr 0=bK d):Yl σ fdE fr ((fdW d).map .str):=by
 have hu:bX (bK d)=false:=rfl
 obtain⟨f,w,l⟩:=d
 have a26: ∀σ,aA 26 (bK ⟨f,w,l⟩) σ=some (.dct (Sc ⟨f,w,l⟩) (PX ⟨f,w,l⟩)):=fun _=>rfl
 have e1:un (aA 26) (al 0) fr σ=some (.dct (Sc ⟨f,w,l⟩) (PX ⟨f,w,l⟩),σ):=by simp only[gq,bm,h0,hu,ae,aX,a26,cg]
 have e2:fJ σ (.dct (Sc ⟨f,w,l⟩) (PX ⟨f,w,l⟩))=some ((anI ⟨f,w,l⟩).map (·.1),σ):=by cases f<;>rfl
 have e3:(fdW ⟨f,w,l⟩).map AV.str=(anI ⟨f,w,l⟩).map (·.2):=by cases f<;>rfl
 rw[e3]
 refine Zg e1 e2 (by cases f<;>exact av rfl) ?_
 cases f with
 |none=>exact fun _ h=>absurd h bh
 |some x=>
  obtain⟨o,s,r⟩:=x
  intro p hp σ
  rw[show p=(.str (eA o),.str (kB s)) from aP.mp hp]
  have g0:gt (put fr 12 (.str (eA o))) 0=bK ⟨some (o,s,r),w,l⟩:=(fV rfl).trans h0
  have a27: ∀σ,aA 27 (bK ⟨some (o,s,r),w,l⟩) σ=some (.lst (bif s then[.str (eA o)]else[])):=fun _=>rfl
  simp only[wL,fH,gq,bm,g0,de,hu,na,ae,aX,a27,cg,aat,d7]
  cases s<;>rfl
theorem aaF(o:Option Rt):(lvP o).map (·.1)=jo o/\(lvP o).map (·.2)=(lW o).map AV.str/\(lvP o).length <=1:=by
 cases o with
 |none=>exact⟨rfl,rfl,aS _⟩
 |some r=>exact⟨rfl,rfl,ax _⟩
theorem jl.fok{d:DS}(h:jl d):Kw (d.f.map (·.2.2)):=fun r e=>by
 cases q:d.f with
 |none=>rw[q]at e;exact nn e
 |some x=>
  rw[q]at e
  rw[<- aI e]
  exact(h.f x q).1
theorem VF{o:Option Rt}(h:Kw o){fr:Fm}: ∀p∈lvP o,∀σ,bi eH (bq (HD [1,77]) (aw (ba (.str [48,49])) (aw (ba (.str [55,55])) aG))) (un (aA 20) (al 13)) (put fr 13 p.1) σ=some (p.2,σ):=by
 cases o with
 |none=>exact fun _ h=>absurd h bh
 |some r=>
  intro p hp σ
  rw[show p=(eo r,.str (nV r.lvl)) from aP.mp hp]
  have hu:bX (eo r)=false:=rfl
  have a20: ∀σ,aA 20 (eo r) σ=some (.int (ai r.lvl)):=fun _=>rfl
  have md: ∀a b σ,HD [1,77] [a,b] σ=some (.dcti [1,77] [a,b],σ):=fun _ _ _=>rfl
  have ix: ∀σ,eH (.dcti [1,77] [.str [48,49],.str [55,55]]) (.int (ai r.lvl)) σ=some (.str (nV r.lvl),σ):=fun σ=>by
   rcases(h r rfl).top with e|e<;>rw[e]<;>rfl
  simp only[jJ,eB,cA,ct,d7,aX,md,gq,bm,de,hu,ae,a20,cg,ix]
theorem amD{d:DS}(h:jl d){fr:Fm}{σ:AS}(h3:gt fr 3= .lst (ek d)):Yl σ aaE fr (((lW (d.f.map (·.2.2))++lW d.w)++lW d.l).map .str):=by
 refine uj (aaF (d.f.map (·.2.2))) fun a1 a2 a3=> ?_
 refine uj (aaF d.w) fun b1 b2 b3=> ?_
 refine uj (aaF d.l) fun c1 c2 c3=> ?_
 have m1:(TK d).map (·.1)=ek d:=by unfold TK;rw[bw,bw,a1,b1,c1];rfl
 have m2:((lW (d.f.map (·.2.2))++lW d.w)++lW d.l).map AV.str=(TK d).map (·.2):=by unfold TK;rw[bw,bw,bw,bw,a2,b2,c2]
 have hk:(TK d).length <=4000000:=by
  unfold TK;rw[ao,ao];exact au (aJ (aJ a3 b3) c3) (by decide)
 have e1:al 3 fr σ=some (.lst (ek d),σ):=by rw[bm,h3];rfl
 rw[m2]
 refine Zg e1 (by rw[m1];refine N1 ?_;rw[<- m1,aU];exact hk) hk ?_
 exact fun p hp=>(cX.mp hp).elim (fun hp=>(cX.mp hp).elim (VF h.fok p) (VF h.w p)) (VF h.l p)
theorem acj(d:DS):(Au d).map AV.str=((K4 d).map .str++(fdW d).map .str)++((lW (d.f.map (·.2.2))++lW d.w)++lW d.l).map .str:=by
 unfold Au K4
 rw[bw,bw]
theorem aod(d:DS):(K4 d).length <=4/\(fdW d).length <=1/\((lW (d.f.map (·.2.2))++lW d.w)++lW d.l).length <=3/\(w0 d).length <=8:=by
 obtain⟨f,w,l⟩:=d
 refine⟨?_,?_,?_,?_⟩
 ·cases f<;>cases w<;>cases l<;>exact av rfl
 ·cases f<;>exact av rfl
 ·cases f<;>cases w<;>cases l<;>exact av rfl
 ·unfold w0
  cases (dY ⟨f,w,l⟩).isEmpty
  ·cases f<;>cases w<;>cases l<;>exact av rfl
  ·exact aS _
def ak1:BM:=eJ (bO .NotEq) (bq qf (aw (al 5) aG)) (bq qf (aw (bi (b4 .Add) (bi (b4 .Add) (al 4) fdE) aaE) aG))
theorem ak2{d:DS}(h:jl d)(hb:(dY d).isEmpty=false){fr:Fm}{σ:AS}{i j:Nat}(h0:gt fr 0=bK d)(h3:gt fr 3= .lst (ek d))(h4:gt fr 4= .ref i)(h5:gt fr 5= .ref j)
  (gi:σ.get i=some (.lst ((K4 d).map .str)))(li:i<σ.next)(gj:σ.get j=some (.lst ((w0 d).map .str))): ∃aj,ak1 fr σ=some (false,aj):=by
 refine XD (aod d) fun k1 k2 k3 k4=> ?_
 have s1:=srt gj (eC k4 (by decide))
 have y1:Yl (σ.alloc (.lst ((jU (w0 d)).map .str))) (bi (b4 .Add) (bi (b4 .Add) (al 4) fdE) aaE) fr ((Au d).map .str):=by
  rw[acj]
  refine J5 (J5 (anr h4 (dQ gi li) (cP li)) (fun aj _=>alZ h0) ?_) (fun aj _=>amD h h3) ?_
  ·rw[aU,aU];exact au (aJ k1 k2) (by decide)
  ·rw[ao,aU,aU,aU];exact au (aJ (aJ k1 k2) k3) (by decide)
 refine XE (y1) fun x hU e2 g2 l2 K2=> ?_
 have kx:(Au d).length <64:=by
  have:((Au d).map AV.str).length=(Au d).length:=aU ..
  rw[<- this,acj,ao,ao,aU,aU,aU]
  exact eC (aJ (aJ k1 k2) k3) (by decide)
 have s2:=srt g2 kx
 have gf:(hU.alloc (.lst ((jU (Au d)).map .str))).get σ.next=some (.lst ((jU (Au d)).map .str)):=by
  have h6:=K2.2 σ.next _ (bU _) cn
  rw[ak0 h hb]at h6
  exact dQ h6 (fm (bU _) K2.1)
 have cm:bO .NotEq (.ref σ.next) (.ref hU.next) (hU.alloc (.lst ((jU (Au d)).map .str)))=some false:=by
  show ob (eqA _ (.ref σ.next) (.ref hU.next)) (fun b=>some (!b))=_
  rw[ab8 gf cn fun a ha=>by
   obtain⟨s,_,rfl⟩:=dD.mp ha
   exact afS s]
  rfl
 refine⟨hU.alloc (.lst ((jU (Au d)).map .str)),?_⟩
 unfold ak1
 simp only[fH,eB,cA,ct,bm,h5,fy,ae,aX,s1,e2,s2,cm,cg]
def alf:EM:=eX [14] (al 1) (ji (un (aA 28) (al 14))) (un (aA 1) (al 14))
def anJ:EM:=eX [11] (bq lK (aw (bq ef (aw (al 1) aG)) aG)) tm (bi eH (al 1) (al 11))
def anP:EM:=eX [10] (al 6) (eJ (bO .Eq) (un (aA 2) (al 10)) (ba (.str [110,117,109,98,101,114]))) (bq t4 (aw (un (aA 1) (al 10)) aG))
def alr:EM:=qP 8 (al 3) 9 (bq (bC 6) (aw (al 8) aG)) (al 9)
def PP:SM:=sh (eJ (bO .Eq) (al 3) (bq df aG)) (aV (eI (rY (eJ (bO .Eq) (al 1) (bq df aG)))) bu) bu
def abn:SM:=aV (cV [4] aaj) (aV (cV [5] alf) (aV (sh ak1 (aV (fun _ _=>none) bu) bu) (aV (cV [6] anJ) (aV (cV [7] anP) (aV (eI (rY (eJ (bO .Eq) (al 7) alr))) bu)))))
theorem an1{a b r:SM}{fr fr':Fm}{σ aj:AS}(h:aV a b fr σ=some (.next fr' aj)):aV a (aV b r) fr σ=r fr' aj:=by
 have h:ob (a fr σ) (gR b)=_:=h
 show ob (a fr σ) (gR (aV b r))=_
 revert h
 cases a fr σ with
 |none=>exact fun h=>nn h
 |some o=>
  cases o with
  |next f s=>
   intro h
   have h:b f s=_:=h
   show ob (b f s) (gR r)=_
   rw[h];rfl
  |ret x s=>exact fun h=>kg.noConfusion (aI h)
  |brk x s=>exact fun h=>kg.noConfusion (aI h)
  |cont x s=>exact fun h=>kg.noConfusion (aI h)
theorem arc{a b c r:SM}{fr fr':Fm}{σ aj:AS}(h:aV a (aV b c) fr σ=some (.next fr' aj)):aV a (aV b (aV c r)) fr σ=r fr' aj:=by
 have e:aV a (aV b (aV c r)) fr σ=aV a (aV (aV b c) r) fr σ:=by
  show ob (a fr σ) (gR (aV b (aV c r)))=ob (a fr σ) (gR (aV (aV b c) r))
  refine congrArg (ob (a fr σ)) (funext fun o=> ?_)
  cases o with
  |next f s=>
   show ob (b f s) (gR (aV c r))=ob (ob (b f s) (gR c)) (gR r)
   cases b f s with
   |none=>rfl
   |some o=>cases o<;>rfl
  |ret x s=>rfl
  |brk x s=>rfl
  |cont x s=>rfl
 rw[e];exact an1 h
theorem ajU(d:DS):(ek d).isEmpty=(dY d).isEmpty:=by
 obtain⟨f,w,l⟩:=d
 cases f<;>cases w<;>cases l<;>rfl
theorem afu{d:DS}(h:jl d)(hb:(dY d).isEmpty=false){x:Nat}(σ:AS): ∃aj,abn [bK d,.lst (gQ d),.ref x,.lst (ek d)] σ=some (.ret (.bool true) aj):=by
 have hk:(gQ d).length <=99999:=au (XC h) (by decide)
 obtain⟨i,gJ,e1,g1,l1,-⟩:=aal (d:=d) (fr:=[bK d,.lst (gQ d),.ref x,.lst (ek d)]) (σ:=σ) rfl
 have e2:=abt (abp (d:=d)) (au hk (by decide)) (fr:=[bK d,.lst (gQ d),.ref x,.lst (ek d),.ref i]) (σ:=gJ) rfl
 rw[alg h]at e2
 obtain⟨qC,e3⟩:=ak2 h hb (fr:=[bK d,.lst (gQ d),.ref x,.lst (ek d),.ref i,.ref gJ.next]) (σ:=gJ.alloc (.lst ((w0 d).map .str))) rfl rfl rfl rfl (dQ g1 l1) (cP l1) cn
 have e4:=Vp (abp (d:=d)) hk (fr:=[bK d,.lst (gQ d),.ref x,.lst (ek d),.ref i,.ref gJ.next]) (σ:=qC) rfl
 obtain⟨gd,lv⟩:=aop h
 have hf:(j6 true (gQ d)).length <=4000000:=by
  have fl: ∀(T:List AV) (p:Bool),(j6 p T).length <=T.length:=fun T=>by
   induction T with
   |nil=>exact fun _=>ax _
   |cons t T ih=>
    intro p
    cases p with
    |true=>exact be (ih _)
    |false=>exact jP (ih _)
  exact au (fl _ _) (au hk (by decide))
 have e5:=VC (abp (d:=d)) gd (fr:=[bK d,.lst (gQ d),.ref x,.lst (ek d),.ref i,.ref gJ.next,.ref qC.next]) (σ:=qC.alloc (.lst (j6 true (gQ d)))) rfl cn hf
 rw[lv]at e5
 generalize arr:(qC.alloc (.lst (j6 true (gQ d)))).drop qC.next=Wp at e5
 refine fg (Wj h (fr:=[bK d,.lst (gQ d),.ref x,.lst (ek d),.ref i,.ref gJ.next,.ref qC.next,.ref Wp.next]) (σ:=Wp.alloc (.lst ((CG d).map AV.int))) rfl) fun Zi e6 K6=> ?_
 have g7:=K6.2 Wp.next _ (bU _) cn
 have e7:bO .Eq (.ref Wp.next) (.ref Zi.next) (Zi.alloc (.lst ((CG d).map AV.int)))=some true:=by
  show eqA _ (.ref Wp.next) (.ref Zi.next)=_
  refine ab8 (dQ g7 (fm (bU _) K6.1)) cn fun a ha=> ?_
  obtain⟨n,_,rfl⟩:=dD.mp ha
  exact Tk (a:=.int n) rfl
 have e1:aaj [bK d,.lst (gQ d),.ref x,.lst (ek d)] σ=_:=e1
 have e2:alf [bK d,.lst (gQ d),.ref x,.lst (ek d),.ref i] gJ=_:=e2
 have e4:anJ [bK d,.lst (gQ d),.ref x,.lst (ek d),.ref i,.ref gJ.next] qC=_:=e4
 have e5:anP [bK d,.lst (gQ d),.ref x,.lst (ek d),.ref i,.ref gJ.next,.ref qC.next] (qC.alloc (.lst (j6 true (gQ d))))=_:=e5
 have e6:alr [bK d,.lst (gQ d),.ref x,.lst (ek d),.ref i,.ref gJ.next,.ref qC.next,.ref Wp.next] (Wp.alloc (.lst ((CG d).map AV.int)))=_:=e6
 refine⟨Zi.alloc (.lst ((CG d).map AV.int)),?_⟩
 unfold abn
 simp only[dm,fO,e1,e2,e3,e4,e5,e6,e7,aX,cg,dF,dI,sF,sG,putN,j9,ae,fP,eu,wP,fH,bm,pf,kO,fy]
theorem Mm{d:DS}(h:jl d){lab:List AV->List AV}(hl:lab (gQ d)=PM d)(σ:AS): ∃aj,bo 1 [] (gA lab) [bK d] σ=some (.bool true,aj):=by
 refine aqt (amY h hl σ) fun gJ x e1=> ?_
 obtain⟨hU,e2⟩:=amZ (d:=d) (T:=.lst (gQ d)) (x:=x) gJ rfl
 have body: ∃aj,gA lab [bK d] σ=some (.ret (.bool true) aj):=by
  have q1:gA lab [bK d] σ=aV (cV [3] (bi (b4 .Add) (bi (b4 .Add) (qP 15 (un (aA 26) (al 0)) 16 (bi eH (un (aA 26) (al 0)) (al 15)) (al 16)) (un (aA 24) (al 0))) (un (aA 25) (al 0)))) (aV (QP 3) (aV PP abn)) [bK d,.lst (gQ d),.ref x] gJ:=arc e1
  rw[q1,an1 e2]
  have ee:eJ (bO .Eq) (al 3) (bq df aG) [bK d,.lst (gQ d),.ref x,.lst (ek d)] hU=some ((dY d).isEmpty,hU.alloc (.lst [])):=by
   have hu:bX (.lst (ek d))=false:=rfl
   simp only[fH,bm,pf,kO,hu,ae,aX,eB,ct,pk,I7 (σ:=hU.alloc (.lst [])) (l:=ek d) cn,cg,ajU]
  cases z:(dY d).isEmpty with
  |true=>
   have hT:gQ d=[]:=by unfold gQ;rw[z];rfl
   have hu:bX (.lst (gQ d))=false:=rfl
   have e9:eJ (bO .Eq) (al 1) (bq df aG) [bK d,.lst (gQ d),.ref x,.lst (ek d)] (hU.alloc (.lst []))=some (true,(hU.alloc (.lst [])).alloc (.lst [])):=by
    simp only[fH,bm,pf,kO,hu,ae,aX,eB,ct,pk,I7 (σ:=(hU.alloc (.lst [])).alloc (.lst [])) (l:=gQ d) cn,cg]
    rw[hT];rfl
   rw[z]at ee
   refine⟨(hU.alloc (.lst [])).alloc (.lst []),?_⟩
   unfold PP
   simp only[dm,j9,ee,aX,af,eu,wP,e9,cg,dI]
  |false=>
   rw[z]at ee
   obtain⟨aj,e⟩:=afu (x:=x) h z (hU.alloc (.lst []))
   refine⟨aj,?_⟩
   unfold PP
   simp only[dm,j9,ee,aX,ae,fP,cg,dF,e]
 obtain⟨aj,e⟩:=body
 refine⟨aj,?_⟩
 show ob (gA lab [bK d] σ) ib=_
 rw[e];rfl
theorem aaD{d:DS}(h:jl d){lab:List AV->List AV}(hl:lab (gQ d)=PM d)(σ:AS): ∃aj,eR lab [bK d] σ=some (.bool true,aj):=by
 have e:eR lab [bK d] σ=bo 1 [] (gA lab) [bK d] σ:=by
  show pr (pW (jL 14) [bK d] σ) (fun args' aj=>bo 1 [] (gA lab) args' aj)=_
  rw[show pW (jL 14) [bK d] σ=([bK d],σ) from Qx Le];rfl
 rw[e];exact Mm h hl σ
def YN(n lvl:Nat)(code:ac):AV:=.frz cq gn (.int (ai n)::Dx (Bo (lvl::code)))
noncomputable def mY(n lv lvl:Nat)(code:ac)(z:aa):AV:=.frz 0 (9::n::lv::lvl::code) z
def drO(L:aa):Option (AV×Nat×List AV):=bA (qH [.ref 0] ⟨1,[(0,.orc 0 L)]⟩) fun a σ=>sE σ 0 fun k l=>some (a,k,l)
def drF(a b:Nat)(c:ac)(z:aa)(f:Option (Bool×Bool)):List AV:=bp (motive:=fun _=>List AV) [m2 3 1] (fun x=>[m2 3 (bif x.1 then 2 else 0),mY (bif x.1 then 1 else 0) a b c z,m2 2 (bif x.2 then 0 else 1)]) f
def drW(a b:Nat)(c:ac)(z:aa)(w:Option Bool):List AV:=bp (motive:=fun _=>List AV) [m2 3 2] (fun v=>[m2 3 (bif v then 1 else 0),mY (bif v then 3 else 2) a b c z]) w
def YD{α β:Type}(o:Option α)(f:α->List β):List β:=bp (motive:=fun _=>List β) [] f o
theorem drX(a b:Nat)(c:ac)(z:aa)(a' b':Nat)(c':ac)(z':aa)(a'' b'':Nat)(c'':ac)(z'':aa)(f:Option (Bool×Bool))(w:Option Bool)(k:Bool):
  drO (drF a b c z f++(drW a' b' c' z' w++[mY 4 a'' b'' c'' z'',m2 2 (bif k then 0 else 1)]))=some (EC (YD w fun _=>[YN a' b' c']) (bif k then[]else[YN a'' b'' c'']) (YD f fun x=>[eA x.1]) (YD f fun _=>[.lst [YN 1 b c]]) (YD f fun x=>bif x.2 then[.str (eA x.1)]else[]),0,[]):=by
 rcases f with _|⟨_|_,_|_⟩<;>rcases w with _|_|_<;>cases k<;>kernel_rfl
noncomputable def Z7:FD->Option (Bool×Bool×Rt)
 | .none=>none
 | .one o rd s=>some (o,CV s,jD (fnI o) rd)
noncomputable def dsW:WD->Option Rt
 | .none=>none
 | .one v rd=>some (jD (wnI v) rd)
noncomputable def agH(x:DD):DS:=⟨Z7 x.f,dsW x.w,bif CV x.k then none else some (jD 4 x.l)⟩
def TW(rd:RD):Prop:=Dc rd/\Uo rd<5
theorem JC(b:Int):TW (Bp b).1:=by
 refine⟨(Ll (b:=b) (r:=[]) trivial).2,?_⟩
 unfold Bp
 cases ia 4 b with
 |zero=>exact hZ _
 |succ a=>
  show Uo (match sP (ia 3 (bV 4 (bV 5 (bV 4 b)))) (bV 3 (bV 4 (bV 5 (bV 4 b))))with
   |(ts,b')=>_:RD×Int).1<5
  obtain⟨ts,b'⟩:=sP (ia 3 (bV 4 (bV 5 (bV 4 b)))) (bV 3 (bV 4 (bV 5 (bV 4 b))))
  show Uo (match ia 4 b' with
   |0=>(RD.recR a (ia 5 (bV 4 b)) (ia 4 (bV 5 (bV 4 b))) ts (ia 2 (bV 4 b')),bV 2 (bV 4 b'))
   |q+1=>(RD.std a (ia 5 (bV 4 b)) (ia 4 (bV 5 (bV 4 b))) ts q,bV 4 b')).1<5
  cases ia 4 b'<;>exact mx (by decide) _
structure afF(x:DD):Prop where
 f: ∀o rd s,x.f= .one o rd s->TW rd/\s<2
 w: ∀v rd,x.w= .one v rd->TW rd
 l:TW x.l
 k:x.k<2
theorem NX{o o2:Bool}{a a2:RD}{s s2:Nat}(h:FD.one o a s=FD.one o2 a2 s2):a=a2/\s=s2:=by cases h;exact⟨rfl,rfl⟩
theorem ac1{o o2:Bool}{a a2:RD}(h:WD.one o a=WD.one o2 a2):a=a2:=by cases h;rfl
theorem ab9(b:Int):afF (PJ b):=by
 refine⟨fun o rd s h=> ?_,fun v rd h=> ?_,JC _,mx (by decide) _⟩
 ·have h:(I8 b).1= .one o rd s:=h
  unfold I8 at h
  revert h
  cases ia 3 b with
  |zero=>exact fun h=>(NX h).1▸(NX h).2▸⟨JC _,mx (by decide) _⟩
  |succ n=>cases n with
   |zero=>exact fun h=>FD.noConfusion h
   |succ n=>exact fun h=>(NX h).1▸(NX h).2▸⟨JC _,mx (by decide) _⟩
 ·have h:(Rg (I8 b).2).1= .one v rd:=h
  unfold Rg at h
  revert h
  cases ia 3 (I8 b).2 with
  |zero=>exact fun h=>ac1 h▸JC _
  |succ n=>cases n with
   |zero=>exact fun h=>ac1 h▸JC _
   |succ n=>exact fun h=>WD.noConfusion h
theorem Zb(n:Nat)(ts:List TD):(H6 n ts).length=ts.length:=by
 induction ts with
 |nil=>rfl
 |cons t ts ih=>exact congrArg kq ih
theorem aoS{n:Nat}(hn:n<2):Qp 77 n=1:=by
 cases n with
 |zero=>rfl
 |succ n=>cases n with
  |zero=>rfl
  |succ n=>exact absurd hn (b7.mpr (be (be (aS _))))
theorem V1{n:Nat}{rd:RD}(hn:n<5)(h:TW rd):oh (jD n rd):=by
 obtain⟨h1,h2⟩:=h
 cases rd with
 |alone l=>
  refine⟨?_,fun h=>absurd rfl h⟩
  have: ∀n:Nat,YA ⟨Qp 77 n,TH (Qp 77 n) n l,[],0⟩=true:=fun n=>by
   unfold Qp
   cases am 77 77&&cJ n 1<;>rfl
  exact this n
 |std a d e ts q=>
  refine⟨?_,fun h=>absurd rfl h⟩
  show cJ (H6 n ts).length 2=true
  rw[Zb];exact gv h1.1
 |recR a d e ts l=>
  refine⟨?_,fun _=> ?_⟩
  ·show cJ (H6 n ts).length 2=true
   rw[Zb];exact gv h1.1
  ·show(kd 1 (Fz 1 n (nd d) 3)).1<5
   rw[X7 hn (show d<5 from h2)];exact hn
theorem ajX{n:Nat}{rd:RD}(hn:1<n):(jD n rd).lvl=Si rd:=by
 cases rd with
 |alone l=>
  show Qp 77 n=77
  unfold Qp
  rw[show cJ n 1=false from E1.mpr fun h=>absurd (av h) (yR.mpr hn)]
  rfl
 |_=>rfl
theorem ajW{n:Nat}{rd:RD}(hn:n<2):(jD n rd).lvl=1:=by
 cases rd with
 |alone l=>exact aoS hn
 |_=>rfl
theorem V0{n:Nat}{rd:RD}{m:Nat}(hn:n<5)(h:TW rd)(hm:m=(jD n rd).lvl):YN m (jD n rd).lvl (xQ (jD n rd))=eo (jD n rd):=by
 rw[hm];exact VZ (V1 hn h).ts8
theorem aoW{s:Nat}(h:s<2){P:Nat->Prop}(h0:P 0)(h1:P 1):P s:=by
 cases s with
 |zero=>exact h0
 |succ s=>cases s with
  |zero=>exact h1
  |succ s=>exact absurd h (b7.mpr (be (be (aS _))))
theorem agI{x:DD}(h:afF x):jl (agH x):=by
 obtain⟨f,w,l,k⟩:=x
 refine⟨fun y e=> ?_,fun r e=> ?_,fun r e=> ?_⟩
 ·cases f with
  |none=>exact nn e
  |one o rd s=>
   rw[<- aI e]
   have:fnI o<2:=by cases o<;>decide
   exact⟨V1 (fm this (by decide)) (h.f o rd s rfl).1,ajW this⟩
 ·cases w with
  |none=>exact nn e
  |one v rd=>
   rw[<- aI e]
   exact V1 (by cases v<;>decide) (h.w v rd rfl)
 ·have e:(bif CV k then none else some (jD 4 l))=some r:=e
  cases z:CV k with
  |true=>rw[z]at e;exact nn e
  |false=>
   rw[z]at e
   rw[<- aI e]
   exact V1 (by decide) h.l
theorem bit{s:Nat}(h:s<2):s=bif CV s then 0 else 1:=aoW (P:=fun s=>s=bif CV s then 0 else 1) h rfl rfl
theorem apP(b:Bool)(r:Rt):jo (bif b then none else some r)=bif b then[]else[eo r]:=by cases b<;>rfl
theorem aqq{x:DD}(h:afF x):drO (ddM x)=some (bK (agH x),0,[]):=by
 obtain⟨f,w,l,k⟩:=x
 have hl:=V0 (n:=4) (by decide) h.l (ajX (n:=4) (by decide)).symm
 have hk:m2 2 k=m2 2 (bif CV k then 0 else 1):=congrArg (m2 2) (bit h.k)
 have hw: ∃a b c z w',wdM w=drW a b c z w'/\jo (dsW w)=YD w' fun _=>[YN a b c]:=by
  cases w with
  |none=>exact⟨0,0,[],[],none,rfl,rfl⟩
  |one v rd=>
   refine⟨Si rd,(jD (wnI v) rd).lvl,xQ (jD (wnI v) rd),[.frz 0 (JB rd) []],some v,by cases v<;>rfl,?_⟩
   show[eo (jD (wnI v) rd)]=[YN _ _ _]
   rw[V0 (by cases v<;>decide) (h.w v rd rfl) (ajX (by cases v<;>decide)).symm]
 have hf: ∃a b c z f',fdM f=drF a b c z f'/\Sc ⟨Z7 f,none,none⟩=(YD f' fun x=>[eA x.1])/\PX ⟨Z7 f,none,none⟩=(YD f' fun _=>[.lst [YN 1 b c]])/\fSo ⟨Z7 f,none,none⟩=YD f' fun x=>bif x.2 then[.str (eA x.1)]else[]:=by
  cases f with
  |none=>exact⟨0,0,[],[],none,rfl,rfl,rfl,rfl⟩
  |one o rd s=>
   obtain⟨h1,h2⟩:=h.f o rd s rfl
   refine⟨Si rd,(jD (fnI o) rd).lvl,xQ (jD (fnI o) rd),[.frz 0 (JB rd) []],some (o,CV s),?_,rfl,?_,rfl⟩
   ·show _=[_,_,m2 2 (bif CV s then 0 else 1)]
    rw[<- bit h2]
    cases o<;>rfl
   ·show[AV.lst [eo (jD (fnI o) rd)]]=[AV.lst [YN 1 _ _]]
    rw[V0 (by cases o<;>decide) h1 (ajW (by cases o<;>decide)).symm]
 obtain⟨a',b',c',z',w',w1,w2⟩:=hw
 obtain⟨a,b,c,z,f',f1,f2,f3,f4⟩:=hf
 show drO (fdM f++(wdM w++[mY 4 (Si l) (jD 4 l).lvl (xQ (jD 4 l)) [.frz 0 (JB l) []],m2 2 k]))=some (EC (jo (dsW w)) (jo (bif CV k then none else some (jD 4 l))) (Sc ⟨Z7 f,none,none⟩) (PX ⟨Z7 f,none,none⟩) (fSo ⟨Z7 f,none,none⟩),0,[])
 rw[hk,f1,w1,w2,f2,f3,f4,apP,<- hl]
 exact drX ..
noncomputable def bB(k:Nat):Nat:=10^(81+7*k)
def Vb:SM:=aV (cV [1] (bi (b4 .Add) (bi (b4 .Mult) (al 1) (ba (.int (1000003)))) (bi (b4 .Mod) (al 2) (bi (b4 .Pow) (ba (.int (10))) (ba (.int (80))))))) bu
theorem apq(σ:AS):b4 .Pow (.int 10) (.int 80) σ=some (.int (ai (10^80)),σ):=by kernel_rfl
theorem ai9(σ:AS):b4 .Pow (.int 10) (.int 60) σ=some (.int (ai (10^60)),σ):=by kernel_rfl
theorem apo(σ:AS):b4 .Pow (.int 10) (.int 68) σ=some (.int (ai (10^68)),σ):=by kernel_rfl
theorem aon(σ:AS):b4 .FloorDiv (.int (ai (10^68))) (.int 13) σ=some (.int (ai (10^68 / 13)),σ):=by kernel_rfl
theorem aog{k:Nat}(h:k<=30):bB k<=2^4000:=au (iW (by decide) (dA (pR 7 h) 81)) (av (by kernel_rfl))
theorem T3{n k:Nat}(h:n<=bB k)(hk:k<=30):mK (ai n)=true:=gv (au h (aog hk))
theorem akJ:mK 1000003=true:=by kernel_rfl
theorem aqn{n k m:Nat}(h:n<=bB k)(hm:m<10^80):n*1000003+m<=bB (k+1):=by
 have e:bB (k+1)=bB k*10^7:=by
  show 10^(81+7*(k+1))=_
  rw[Ol,<- kK,Nat.pow_add];rfl
 have l:10^80<=bB k:=iW (by decide) (au (by decide) (cZ 81 _))
 rw[e]
 generalize bB k=B at h l
 generalize 10^80=P at hm l
 omega
theorem ao1{n k:Nat}(h:n<=bB k)(hk:k<=30)(σ:AS):b4 .Mult (.int (ai n)) (.int 1000003) σ=some (.int (ai (n*1000003)),σ):=by
 show od (bif mK (ai n)&&mK 1000003 then some (AV.int (ai n*1000003))else none) (fun c=>some (c,σ)) _=_
 rw[T3 h hk,akJ];rfl
theorem ao0(c:Int): ∃m,m<10^80/\ ∀σ,b4 .Mod (.int c) (.int (ai (10^80))) σ=some (.int (ai m),σ):=by
 have z:KY (ai (10^80)) 0=false:=by kernel_rfl
 have p:(0:Int)<ai (10^80):=il.mpr (Nat.pow_pos (by decide))
 have a:=ng c p
 have b:=q8 c p
 obtain⟨m,hm⟩:=vg a
 refine⟨m,?_,fun σ=> ?_⟩
 ·rw[hm]at b;exact il.mp b
 ·show od (bif KY (ai (10^80)) 0 then none else some (AV.int (c.fmod (ai (10^80))))) (fun c=>some (c,σ)) _=_
  rw[z,hm];rfl
theorem adr{cs:List Int}: ∀{n k:Nat},n<=bB k->k+cs.length<=30-> ∃n',n'<=bB 30/\ ∀{fr:Fm} {σ:AS},gt fr 1= .int (ai n)-> ∃fr',pH [2] Vb (cs.map .int) fr σ=some (.next fr' σ)/\gt fr' 1= .int (ai n'):=by
 induction cs with
 |nil=>
  intro n k hn hk
  exact⟨n,au hn (iW (by decide) (dA (pR 7 hk) 81)),fun{fr σ} h1=>⟨fr,rfl,h1⟩⟩
 |cons c cs ih=>
  intro n k hn hk
  have hk':k<=30:=au (cZ _ _) hk
  refine fg (ao0 c) fun m hm em=> ?_
  refine fg (ih (n:=n*1000003+m) (k:=k+1) (aqn hn hm) (by rw[kK,lG 1];exact hk)) fun n' h3 h4=> ?_
  refine⟨n',h3,fun{fr σ} h1=> ?_⟩
  have g1:gt (put fr 2 (.int c)) 1= .int (ai n):=(fV rfl).trans h1
  have e1:Vb (put fr 2 (.int c)) σ=some (.next (put (put fr 2 (.int c)) 1 (.int (ai (n*1000003+m)))) σ):=by
   unfold Vb
   simp only[dm,fO,jJ,bm,g1,de,l8,ae,aX,d7,ao1 hn hk',apq,em,NP,cg,dF,fP]
  refine fg (h4 (fr:=put (put fr 2 (.int c)) 1 (.int (ai (n*1000003+m)))) (σ:=σ) de) fun fr' e2 h2=> ?_
  refine⟨fr',?_,h2⟩
  rw[bj,EU e1,e2]
def af5:EM:=bq df (aw (tl (eJ (bO .Gt) (al 1) (bi (b4 .Pow) (ba (.int (10))) (ba (.int (60))))) (al 1) (bi (b4 .Add) (bi (b4 .Pow) (al 1) (ba (.int (6)))) (bi (b4 .FloorDiv) (bi (b4 .Pow) (ba (.int (10))) (ba (.int (68)))) (ba (.int (13)))))) aG)
theorem af7{cs:List Int}(hl:cs.length<=99999): ∃b,∀σ,∃aj i,rf [.lst (cs.map .int)] σ=some (.ref i,aj)/\aj.get i=some (.lst [.int b]):=by
 have hL:dj (dN (cs.map AV.int))=true:=by
  rw[iy,aU];exact fZ (au hl (by decide))
 have hk:(cs.take 30).length <=30:=by rw[kp];exact Nat.min_le_left _ _
 refine fg (adr (cs:=cs.take 30) (n:=23) (k:=0) (au (show 23<=10^2 by decide) (iW (by decide) (by decide))) (by rw[io];exact hk)) fun n hn hloop=> ?_
 have gt1: ∀σ,bO .Gt (.int (ai n)) (.int (ai (10^60))) σ=some (bc (10^60) n):=fun _=>rfl
 have p6: ∀σ,b4 .Pow (.int (ai n)) (.int 6) σ=some (.int (ai n^6),σ):=fun σ=>by
  show od (bif (mK (ai n)&& !C6 6 0)&&C6 6 1000 then some (AV.int (ai n^Int.toNat 6))else none) (fun c=>some (c,σ)) _=_
  rw[T3 hn (ax _)];rfl
 have ad: ∀a b σ,b4 .Add (.int a) (.int b) σ=some (.int (a+b),σ):=fun _ _ _=>rfl
 have mk: ∀a σ,df [a] σ=some (.ref σ.next,σ.alloc (.lst [a])):=fun _ _=>rfl
 have er: ∃b,∀fr',gt fr' 1= .int (ai n)-> ∀gJ,af5 fr' gJ=some (.ref gJ.next,gJ.alloc (.lst [.int b])):=by
  unfold af5
  cases z:bc (10^60) n with
  |true=>exact⟨ai n,fun fr' h1 gJ=>by simp only[eB,cA,ct,wL,fH,jJ,bm,d7,h1,l8,ae,af,aX,ai9,gt1,z,cg,mk]⟩
  |false=>exact⟨ai n^6+ai (10^68 / 13),fun fr' h1 gJ=>by simp only[eB,cA,ct,wL,fH,jJ,bm,d7,h1,l8,ae,aX,ai9,gt1,z,cg,p6,apo,aon,ad,mk]⟩
 obtain⟨b,er⟩:=er
 refine⟨b,fun σ=> ?_⟩
 have es:Ti (al 0) (ba .none) (ba (.int (30))) [.lst (cs.map .int),.int 23] σ=some (.ref σ.next,σ.alloc (.lst ((cs.take 30).map .int))):=by
  show ob (some (cs.map AV.int)) (fun l=>bif dj (dN l)then ob (some 0) (fun x=>ob (some (Ef 30 (dN l))) fun y=>some (AV.ref σ.next,σ.alloc (.lst (PD l x y))))else none)=_
  rw[cg,hL,af,cg,cg,PE,iy,aU]
  have:KW (cs.map AV.int) 0 (Ef 30 cs.length)=(cs.take 30).map AV.int:=by
   unfold KW
   rw[ma,Om,<- List.map_take]
   refine congrArg _ ?_
   rw[show Ef 30 cs.length=min 30 cs.length from rfl,<- Kl,List.take_of_length_le (ax cs.length)]
  rw[this]
 have ei:fJ (σ.alloc (.lst ((cs.take 30).map .int))) (.ref σ.next)=some ((cs.take 30).map .int,(σ.alloc (.lst ((cs.take 30).map .int))).drop σ.next):=by
  show bA (ob ((σ.alloc (.lst ((cs.take 30).map .int))).get σ.next) _) _=_
  rw[cn]
  show(bif dj ((cs.take 30).map AV.int).length then some _ else none)=_
  rw[fZ (by rw[aU];exact au hk (by decide))];rfl
 generalize (σ.alloc (.lst ((cs.take 30).map .int))).drop σ.next=gJ at ei
 refine fg (hloop (fr:=[.lst (cs.map .int),.int 23]) (σ:=gJ) rfl) fun fr' el h1=> ?_
 have er:=er fr' h1 gJ
 refine⟨gJ.alloc (.lst [.int b]),gJ.next,?_,cn⟩
 have q:Cn [.lst (cs.map .int)] σ=some (.ret (.ref gJ.next) (gJ.alloc (.lst [.int b]))):=by
  show ob (bA (Ti (al 0) (ba .none) (ba (.int (30))) [.lst (cs.map .int),.int 23] σ) fun x aj=>bA (fJ aj x) fun l ay=>pH [2] Vb l [.lst (cs.map .int),.int 23] ay) (gR (aV (eI af5) bu))=_
  rw[es,aX,ei,aX,el,cg,dF]
  simp only[dm,eu,er,aX,cg,dI]
 show ob (Cn [.lst (cs.map .int)] σ) ib=_
 rw[q];rfl
theorem Z0(b:Int): ∃d,jl d/\ ∀{σ:AS} {x:Nat},σ.get x=some (.lst [.int b])-> ∃aj,mv [.ref x] σ=some (bK d,aj):=by
 have hd:=aqq (ab9 b)
 have ok:=agI (ab9 b)
 generalize agH (PJ b)=d at hd ok
 refine⟨d,ok,fun{σ x} hx=> ?_⟩
 have hg:(σ.set x (.orc 0 (zA b))).get x=some (.orc 0 (zA b)):=eE hx
 have hb:mv [.ref x] σ=ux nW qH [.ref x] (σ.set x (.orc 0 (zA b))):=by
  show ob (σ.get x) _=_
  rw[hx];rfl
 refine⟨σ.set x (.orc 0 []),hb.trans ?_⟩
 refine fW hd fun a ay h1 hr=>Ga hr fun k l' h0 hr=> ?_
 have hr:=aI hr
 cases hr
 have h1:qH [.ref 0] ⟨1,[(0,.orc 0 (zA b))]⟩=some (bK d,ay):=h1
 rw[X2 hg,h1,aX]
 show ob (ay.get 0) _=_
 rw[h0]
 show ob (uR _ (bK d)) _=_
 rw[uD (by have:=Le (d:=d);exact aE (show(noRef (bK d)&&aN [])=true from this) fun h _=>h)]
 show some (bK d,AS.mk σ.next (lE x (.orc 0 []) (lE x (.orc 0 (zA b)) σ.cells)))=_
 rw[oB];rfl
def T1(l:List SM)(k:SM):SM:=l.foldr aV k
theorem aj3{l:List SM}{k:SM}: ∀{fr:Fm} {σ:AS},T1 l k fr σ=ob (T1 l bu fr σ) (gR k):=by
 induction l with
 |nil=>exact fun{fr σ}=>rfl
 |cons a l ih=>
  intro fr σ
  show ob (a fr σ) (gR (T1 l k))=ob (ob (a fr σ) (gR (T1 l bu))) (gR k)
  cases a fr σ with
  |none=>rfl
  |some o=>
   cases o with
   |next f s=>exact ih
   |ret x s=>rfl
   |brk x s=>rfl
   |cont x s=>rfl
def anN:List SM:=[(cV [1,2,3] (bq gp (aw (bq vG aG) (aw (bq oY (aw (ba (.int (5))) (aw (ba (.str [71])) aG))) (aw (bq oY (aw (ba (.int (10))) (aw (ba (.str [76])) aG))) aG))))),
 (l4 16 (al 3) (ba (.str [88]))),
 (lj (cK (fX gy) (un (aA 23) (al 2)) (aw (bq xA (aw (ba (.str [79,78])) (aw (bq df (aw (bq gp (aw (bq gp (aw (ba (.str [116,101,120,116])) (aw (ba (.bytes [121])) aG))) (aw (ba (.none)) aG))) aG)) aG))) aG))),
 (lj (cK yY (al 2) (aw (al 3) aG))),
 (cV [4] (bq oY (aw (ba (.int (1))) (aw (ba (.str [82])) aG)))),
 (lj (cK yY (al 4) (aw (al 2) aG))),
 (l4 24 (al 1) (bq df (aw (al 4) aG))),
 (cV [5] (eX [6] (bq ir (aw (al 1) aG)) (fun _ σ=>some (true,σ)) (un (aA 1) (al 6))))]
def ac2:BM:=(eJ (bO .NotEq) (al 5) (cK (iz kL) (ba (.str [68,65,84,65,32,68,73,86,73,83,73,79,78,32,46,32,87,79,82,75,73,78,71,45,83,84,79,82,65,71,69,32,83,69,67,84,73,79,78,32,46,32,48,49,32,82,32,46,32,48,53,32,71,32,46,32,56,56,32,79,78,32,86,65,76,85,69,32,121,32,46,32,49,48,32,76,32,80,73,67,32,88,32,46])) (aw (ba (.str [32])) aG)))
def mkD:EM:=bq vG aG
def acJ{β:Type}(o:Option kg)(f:Fm->AS->Option β):Option β:=ob o fun o=>kg.rec (motive:=fun _=>Option β) (fun fr σ=>f fr σ) (fun _ _=>none) (fun _ _=>none) (fun _ _=>none) o
theorem aiY{β:Type}{o:Option kg}{f:Fm->AS->Option β}{r:β}{P:Prop}(h:acJ o f=some r)(k: ∀fr σ,o=some (.next fr σ)->f fr σ=some r->P):P:=by
 cases o with
 |none=>exact nn h
 |some o=>
  cases o with
  |next fr σ=>exact k fr σ rfl h
  |ret x s=>exact nn h
  |brk x s=>exact nn h
  |cont x s=>exact nn h
def aqB(L:aa):Option (Bool×AV×List AV):=acJ (T1 anN bu [.lst L] ⟨0,[]⟩) fun fr σ=>bA (ac2 fr σ) fun b aj=>bA (mkD fr aj) fun a eW=>some (b,gt fr 0,(pW (jL 14) [a] eW).1)
theorem aer(L:aa):aqB L=some (false,.lst L,[bK ⟨none,none,none⟩]):=by kernel_rfl
def ait(lab:List AV->List AV):SM:=aV (sh (R8 ac2 (pe (ji (bq (eR lab) (aw mkD aG))))) (aV (fun _ _=>none) bu) bu) (aV (eI (bq (eR lab) (aw (bq mv (aw (bq rf (aw (al 0) aG)) aG)) aG))) bu)
theorem aiu(lab:List AV->List AV):US lab=T1 anN (ait lab):=rfl
theorem amu(lab:List AV->List AV)(a:AV)(σ:AS):Zy lab [a] σ=ob (US lab [a] σ) ib:=rfl
theorem aeN(lab:List AV->List AV)(a:AV)(σ:AS):eR lab [a] σ=bo 1 [] (gA lab) (pW (jL 14) [a] σ).1 (pW (jL 14) [a] σ).2:=rfl
theorem alW:jl ⟨none,none,none⟩:=⟨fun _ e=>nn e,fun _ e=>nn e,fun _ e=>nn e⟩
theorem agL(d:DS):CX d (gQ ⟨none,none,none⟩)=PM ⟨none,none,none⟩:=aep d
theorem aiw{cs:List Int}(hl:cs.length<=99999): ∃d,jl d/\ ∃aj,Zy (CX d) [.lst (cs.map .int)] ⟨0,[]⟩=some (.bool true,aj):=by
 obtain⟨b,hb⟩:=af7 hl
 obtain⟨d,ok,hd⟩:=Z0 b
 refine⟨d,ok,?_⟩
 refine aiY (aer (cs.map .int)) fun fr σ e8 h=>fW h fun t aj ew h=>fW h fun a eW ed h=> ?_
 have h:=aI h
 have h1:t=false:=congrArg (·.1) h
 have h2:gt fr 0= .lst (cs.map .int):=congrArg (·.2.1) h
 have h3:(pW (jL 14) [a] eW).1=[bK ⟨none,none,none⟩]:=congrArg (·.2.2) h
 clear h
 obtain⟨qC,e3⟩:=Mm alW (agL d) (pW (jL 14) [a] eW).2
 have e3:eR (CX d) [a] eW=some (.bool true,qC):=by
  rw[aeN,h3];exact e3
 obtain⟨σ4,i,e4,g4⟩:=hb qC
 obtain⟨Wp,e5⟩:=hd g4
 obtain⟨Zi,e6⟩:=aaD ok (air d) Wp
 refine⟨Zi,?_⟩
 have hu:bX (.lst (cs.map .int))=false:=rfl
 have eT:ait (CX d) fr σ=some (.ret (.bool true) Zi):=by
  rw[h1]at ew
  unfold ait
  simp only[dm,j9,Hh,ew,aX,ae,qQ,l7,eB,cA,ed,ct,e3,iV,cg,eL,fP,dF,eu,bm,h2,hu,e4,e5,e6,dI]
 have eQ:US (CX d) [.lst (cs.map .int)] ⟨0,[]⟩=some (.ret (.bool true) Zi):=by
  rw[aiu,aj3,e8,cg,dF,eT]
 rw[amu,eQ];rfl
noncomputable def Vx(c:Nat):Bool:=zh.any fun r=>am r.c c
noncomputable def fnm(i:Nat):Str:=(Ax FN i).getD ""
def ZV(k:Nat)(l:aa)(c:bJ):Prop:=(k=1021/\lT mac l c)\/(k=0/\agx bx VB l c)
theorem ahH: ∀i j,i<FN.length->j<FN.length->fnm i=fnm j->i=j:=by
 have h:(co FN.length).all (fun i=>(co FN.length).all fun j=>am i j|| !(fnm i==fnm j))=true:=by kernel_rfl
 intro i j hi hj e
 have h1:=b5.mp (b5.mp h i (mc.mpr hi)) j (mc.mpr hj)
 rcases k7.mp h1 with q|q
 ·exact aD q
 ·rw[e,beq_self_eq_true]at q;exact absurd q (by decide)
theorem amO{L:aa}{m:Nat}(h:aN L=true):EA (cY L m)=true:=by
 show(noRef (.lst L)&&(true&&(true&&(true&&true))))=true
 rw[show noRef (.lst L)=aN L from rfl,h];rfl
theorem Xy: ∀k l c,ZV k l c->EA c=true:=fun k l c h=>by
 rcases h with⟨_,_,pre,_,h1,h2,rfl⟩|⟨_,_,b,rfl,_⟩
 ·exact amO (by rw[b9,h1,h2];rfl)
 ·rfl
theorem Xz: ∀k l c,ZV k l c->Vx k=true-> ∃ks vs,c= .inst k ks vs:=fun k l c h hc=>by
 rcases h with⟨rfl,_,pre,_,_,_,rfl⟩|⟨rfl,_⟩
 ·exact⟨_,_,rfl⟩
 ·exact absurd hc (by decide)
theorem adx{K:dL}(h:zh.all (crB K)=true): ∀c k,Vx c=true->k<FN.length->S6 c k=false->IW K c (fnm k)=true:=fun c k hc hk hb=>by
 refine fg (kn.mp hc) fun r hr e=> ?_
 obtain rfl:=aD e
 refine aE (b5.mp h r hr) fun _ h=>aE h fun _ h=>aE h fun _ h=>aE h fun _ h=>aE h fun _ h=> ?_
 have:=b5.mp h k (mc.mpr hk)
 rw[hb]at this
 exact this
structure Oz(K:dL):Prop where
 ok:ZI K=true
 gf:gfB K=true
 sys:(K.lookup sysModules).isSome=true
theorem Oz.of{K:dL}(h:abW K=true):Oz K:=by
 refine aE h fun h1 h=>aE h fun h3 h=>aE h fun h4 h=>aE h fun h5 h=>aE h fun h6 h=>aE h fun h7 h=>aE h fun h8 h=>aE h fun h9 h=>aE h fun h10 h=>aE h fun h11 h=>aE h fun h12 _=>⟨?_,h11,h12⟩
 unfold ZI
 rw[h1,h3,h4,h5,h6,h7,h8,h9,h10];rfl
theorem Oz.n{K:dL}(h:abW K=true):HG K "USAGE_NAMES" (.ref 503)=true/\HG K "USAGE_WORDS" (.ref 711)=true:=
 aE h fun _ h=>aE h fun _ h=>aE h fun _ h=>aE h fun _ h=>aE h fun _ h=>aE h fun _ h=>aE h fun _ h=>aE h fun _ h=>aE h fun _ h=>aE h fun _ h=>aE h fun _ h=>aE h ii
theorem Oz.cr{K:dL}(h:Oz K):zh.all (crB K)=true:=aE h.ok fun _ h=>aE h fun h _=>h
section
variable{w:d5}{h:bM}{K:dL}{p:gg}{loose:List Str}{mean:ExcName->Option ah}{mg mb:Str->Option ah}
noncomputable def YG(prog:gg)(w:d5)(T:Top p loose mean mg mb h)(X:K.In h)(ck:Oz K):PC where
 prog:=prog
 w:=w
 K:=K
 fname:=fnm
 pg:=h
 mg:=mg
 mb:=mb
 g:=T.g
 b:=T.b
 nolimit:=T.nolimit
 boot:=T.builtins
 inK:=X
 sys:=(fq.mp ck.sys).imp fun o e=>X _ _ e
 cls:=Vx
 nf:=FN.length
 attr:=adx ck.cr
 conc:=ZV
 concFree:=Xy
 concInst:=Xz
 fnameInj:=ahH
theorem amL{prog:gg}{T:Top p loose mean mg mb h}{X:K.In h}{ck:Oz K}:qj (YG prog w T X ck) mac bx VB where
 mac0:=rfl
 rdr:=fun l c=>⟨fun h=>h.elim (fun h=>h.2) fun h=>absurd h.1 (by decide),fun h=>.inl ⟨rfl,h⟩⟩
 bx2:=fun m d vs=>rfl
 bag:=fun l c=>⟨fun h=>h.elim (fun h=>absurd h.1 (by decide)) fun h=>h.2,fun h=>.inr ⟨rfl,h⟩⟩
theorem alV{C:PC}{o:Obj}{ws:List (Str×Str×Nat)}(ho:o={cls:=.type "dict",data:=.dict (ws.map fun x=>uh C.w x.1 x.2.1 x.2.2).toArray ws.length})(hn:(ws.map (·.1)).Nodup):
  o.IsDictOf (strKind C.prog C.w) (ws.map fun x=>(x.1,gw x.2.1 (x.2.2+1))):=by
 subst ho
 refine⟨_,_,⟨rfl,rfl,rfl⟩,rfl,fun e he=> ?_,?_,by rw[gO];exact hn⟩
 ·rw[tM]at he
  obtain⟨x,_,rfl⟩:=dD.mp he
  exact⟨x.1,tQ _ _ _ _,rfl⟩
 ·show Pairs _ (ws.map fun x=>uh C.w x.1 x.2.1 x.2.2) _
  clear hn
  induction ws with
  |nil=>exact .nil
  |cons x ws ih=>exact .cons (tQ _ _ _ _) rfl ih
theorem dcV{C:PC}{W:Wd}(hW:ImK C W){a:aC}{o:Obj}(hl:C.K.lookup a=some o)(ha:(a==sysModules)=false){ws:List (Str×Str×Nat)}(ho:o={cls:=.type "dict",data:=.dict (ws.map fun x=>uh C.w x.1 x.2.1 x.2.2).toArray ws.length})(hn:(ws.map (·.1)).Nodup)
  {ks ss:List (List Nat)}(hk:ws.map (·.1)=ks.map aO)(hv:ws.map (·.2.1)=ss.map aO):V C W (.dct ks (ss.map .str)) (.ref a):=by
 have hl1:ks.length=ws.length:=by
  have:=congrArg nh hk
  rwa[aU,aU,eq_comm]at this
 refine⟨a,o,ws.map fun x=>gw x.2.1 (x.2.2+1),rfl,ha,hW _ _ hl,?_,by rw[aU];exact hl1,?_⟩
 ·clear ho hn hk hl1 hl
  induction ws generalizing ss with
  |nil=>
   cases ss with
   |nil=>rfl
   |cons s ss=>exact absurd hv (fun h=>by cases h)
  |cons x ws ih=>
   cases ss with
   |nil=>exact absurd hv (fun h=>by cases h)
   |cons s ss=>
    have h:=List.cons.inj (show x.2.1::ws.map (·.2.1)=aO s::ss.map aO from hv)
    exact⟨_,_,rfl,⟨_,congrArg (fun s=>gw s (x.2.2+1)) h.1⟩,ih h.2⟩
 ·have:=alV (C:=C) ho hn
  rw[<- hk,List.zip_map']
  exact this
structure abL(w:d5)(K:dL):Prop where
 ck:Oz K
 un:K.lookup 503=some (unO w)
 uw:K.lookup 711=some (uwO w)
 rs:nsIn K 3 "RESERVED"=some (some (.str Gf 1445))
 le:Vd K 65=some leB
 n1:HG K "USAGE_NAMES" (.ref 503)=true
 n2:HG K "USAGE_WORDS" (.ref 711)=true
theorem abL.of{w:d5}{K:dL}(h:abW K=true)(e:kY K=kYa w):abL w K:=by
 obtain⟨e1,e⟩:=cL e
 obtain⟨e2,e⟩:=cL e
 obtain⟨e3,e4⟩:=cL e
 exact⟨Oz.of h,e1,e2,e3,e4,Oz.n h |>.1,Oz.n h |>.2⟩
noncomputable def Jl(a:AV):List Nat:=match a with
 | .str l=>l
 |_=>[]
theorem apl{s:String}{cs:List Char}(h:s=String.ofList cs):lJ s=aO (cs.map Char.toNat):=by
 rw[h,Str.ofString_eq_toList,String.toList_ofList];rfl
theorem VV:Gf=aO (Jl lL):=(apl (cs:=(Jl lL).map Char.ofNat) (by kernel_rfl)).trans (by kernel_rfl)
theorem amK{w:d5}{h:bM}{K:dL}{p:gg}{loose:List Str}{mean:ExcName->Option ah}{mg mb:Str->Option ah}{prog:gg}(T:Top p loose mean mg mb h)(X:K.In h)(F:abL w K):rM (YG prog w T X F.ck) where
 ok:=F.ck.ok
 nf:=rfl
 fn:=fun i x e=>by show(Ax FN i).getD ""=x;rw[e];rfl
 cls:=fun r hr=>kn.mpr ⟨r,hr,Oj _⟩
 name:=fun l c h=>h.elim (fun h=>by obtain⟨_,_,pre,_,_,_,rfl⟩:=h;exact⟨_,rfl⟩) fun h=>absurd h.1 (by decide)
 gf:=ad8 F.ck.gf fun o fd ho hd=>by
  have h:=F.le
  unfold Vd at h
  rw[show K.lookup 65=some o from ho,nQ,hd]at h
  revert h
  show(match fd.body with| .stmts b=>some b|_=>none)=some leB->_
  cases fd.body with
  |stmts b=>exact fun h=>congrArg _ (aI h)
  |_=>exact fun h=>nn h
 un:=l5 (Js (C:=YG prog w T X F.ck) F.n1) fun W hW=>dcV hW F.un rfl (ws:=[("display","DISPLAY",925),("binary","BINARY",927),("packed","PACKED-DECIMAL",929),("index","INDEX",931)]) rfl (by decide +kernel)
  (ks:=[[100,105,115,112,108,97,121],[98,105,110,97,114,121],[112,97,99,107,101,100],[105,110,100,101,120]]) (ss:=[[68,73,83,80,76,65,89],[66,73,78,65,82,89],[80,65,67,75,69,68,45,68,69,67,73,77,65,76],[73,78,68,69,88]]) (by kernel_rfl) (by kernel_rfl)
 uw:=l5 (Js (C:=YG prog w T X F.ck) F.n2) fun W hW=>dcV hW F.uw rfl (ws:=[("DISPLAY","display",1250),("COMP","binary",1252),("COMPUTATIONAL","binary",1254),("BINARY","binary",1256),("PACKED-DECIMAL","packed",1258),("COMP-3","packed",1260),("COMPUTATIONAL-3","packed",1262),("INDEX","index",1264)]) rfl (by decide +kernel)
  (ks:=[[68,73,83,80,76,65,89],[67,79,77,80],[67,79,77,80,85,84,65,84,73,79,78,65,76],[66,73,78,65,82,89],[80,65,67,75,69,68,45,68,69,67,73,77,65,76],[67,79,77,80,45,51],[67,79,77,80,85,84,65,84,73,79,78,65,76,45,51],[73,78,68,69,88]]) (ss:=[[100,105,115,112,108,97,121],[98,105,110,97,114,121],[98,105,110,97,114,121],[98,105,110,97,114,121],[112,97,99,107,101,100],[112,97,99,107,101,100],[112,97,99,107,101,100],[105,110,100,101,120]]) (by kernel_rfl) (by kernel_rfl)
 rs:=l5 (aiU (C:=YG prog w T X F.ck) F.rs) fun W hW=>⟨1445,congrArg (fun s=>gw s 1445) VV⟩
end
abbrev RW:OpenLaw:=cp
def Yf0(s:az):=(abW (zq Xg s.heap)&&cJ 1 s.toks,kY (zq Xg s.heap))
noncomputable def Ya0(w:d5):=(true,kYa w)
theorem aeC{args:List WData}(h:RW.row.toRowW.claim.pre args=true): ∃cs:List Int,args=[.list (cs.map .int)]/\cs.length<=63:=by
 obtain⟨h1,h2⟩:=pre_splitW h
 obtain⟨d,r,rfl,h3,h4⟩:=hasAllW_cons (R:=RW.row.records) (e:=.list .int) (es:=[]) h1
 obtain rfl:=hasAllW_nil h4
 obtain⟨xs,rfl,h5⟩:=hasW_list h3
 obtain⟨cs,rfl⟩:=items_int h5
 refine⟨cs,rfl,?_⟩
 have h2:(match(match(match(match(some (BC ((cs.map BC).length:Nat)))with|some y=>((less? (.int 63) y).map yT)|_=>none)with|some (.bool b)=>some (yT (!b))|_=>none)with
  |some (.bool false)=>some (yT false)
  |some (.bool true)=>some (.bool true)
  |_=>none)with|some (.bool true)=>true|_=>false)=true:=h2
 have h6:less? (.int 63) (.int ((cs.map BC).length:Nat))=some (decide ((63:Int)<((cs.map BC).length:Nat))):=rfl
 rw[aU]at h6 h2
 cases z:decide ((63:Int)<(cs.length:Nat))with
 |true=>
  rw[z]at h6
  simp only[h6]at h2
  exact absurd h2 (by decide)
 |false=>exact Nat.le_of_not_lt fun q=>of_decide_eq_false z (il.mpr q)
theorem abv{P:Params}{h:bM}{C:PC}{W:Wd}: ∀{cs:List Int} {vs:List ah},WellAll P h vs (cs.map .int)->VL C W (cs.map .int) vs:=by
 intro cs
 induction cs with
 |nil=>intro vs h;cases h;rfl
 |cons c cs ih=>
  intro vs h
  cases h with
  |cons h1 h2=>cases h1 with
   |int i t=>exact⟨_,_,rfl,⟨_,rfl⟩,ih h2⟩
theorem ai8{a b:List WData}:RW.row.toRowW.claim.post a (.bool true) b=true:=by
 have h:same (.bool true) (.bool true)=true:=by kernel_rfl
 show(WShape.has RW.row.records (.bool true) .bool&&(match some (yT (same (.bool true) (.bool true)))with|some (.bool true)=>true|_=>false))=true
 rw[h];rfl
theorem am3:eV callerA 23:=⟨rfl,by decide,by decide⟩
theorem aiv{C:PC}(O:rM C)(R:qj C mac bx VB){s:az}(hb: ∀b o,C.pg.get? b=some o->s.heap.get? b=some o)(tk:1<=s.toks){x:aC}{vs:List ah}{cs:List Int}(hx:s.heap.get? x=some (dz vs 0))(hw: ∀W,VL C W (cs.map .int) vs)(hlen:cs.length<=63):
  wpAny (dH C) callerA (UD (.ref 1082) [.ref x]) (fun v s'=>v= .bool true/\Sm s s'/\ ∀b o,s.heap.get? b=some o->s'.heap.get? b=some o) dy s:=by
 obtain⟨ds,ok,aj,e⟩:=aiw (cs:=cs) (au hlen (by decide))
 have hv:V C ⟨fun _=>none,s.heap.get?,fun _=>none⟩ (.lst (cs.map .int)) (.ref x):=⟨x,0,vs,rfl,hx,hw _⟩
 refine eK (aoc (lab:=CX ds) ⟨O,aqH R,R⟩ (ais ok) callerA am3 ⟨fun _=>none,s.heap.get?,fun _=>none⟩ ⟨0,[]⟩ s [.lst (cs.map .int)] [.ref x] ⟨hb,fun _ _ e=>e,fun _ _ e=>nn e,fun _ _ e=>nn e,fun _ _=>rfl,fun _ _ e=>nn e,fun _ _ _ _ _ _ e=>nn e⟩ (VL.one hv) tk _ _ e) fun v s' P=> ?_
 obtain⟨h1,W',l,R',hq⟩:=P
 exact⟨hq,h1,fun b o e=>R'.im _ _ (l.2.1 b o e)⟩
theorem law_walk{d:DefRec}{kwd:List (Str×PySem.Expr)}(hn:d.name="law"):WalkX q0 loose0 (fun _ _=>True) Yf0 Ya0 RW.row.toRowW d kwd fun f vs=>UD f vs:=by
 intro w nz bv mg mb G Y a o pm cd doc dV kV ho hdt hcd hD hmg hgens args vals as L hpre hlay hrd hwl hlo
 have X:Frag.In (zq Xg nz.heap) bv.heap:=fun b o e=>L.keeps _ _ (ahJ _ _ b o e)
 have y:=bk.mp (cL Y).1
 have F:=abL.of y.1 (cL Y).2
 have tk:1<=bv.toks:=by
  refine fg (L.laid) fun ord _ e=> ?_
  exact au (av y.2) (layAllW_grows _ _ _ e).toks
 have O:=amK (w:=w) (prog:=RW.row.prog) G.T X F
 have R:=amL (w:=w) (prog:=RW.row.prog) (T:=G.T) (X:=X) (ck:=F.ck)
 have ha:a=1082:=by
  have e:mg "law"=some (.ref 1082):=O.frE (i:=110) (r:=aa5) rfl fun _ _ h=>h "law" rfl
  rw[hn,e]at hmg
  cases hmg;rfl
 subst ha
 obtain⟨cs,rfl,hlen⟩:=aeC hpre
 obtain⟨v,x,vs,rfl,rfl,hx,hvs⟩: ∃v x vs,vals=[v]/\v= .ref x/\bv.heap.get? x=some (dz vs 0)/\WellAll w.params bv.heap vs (cs.map .int):=by
  cases hwl with
  |cons h1 h2=>
   cases h2
   cases h1 with
   |list h3 h4=>exact⟨_,_,_,rfl,rfl,h3,h4⟩
 refine Ld (eK (aiv O R (fun _ _ e=>e) tk hx (fun _=>abv hvs) hlen) fun v s' P=> ?_)
 obtain⟨rfl,⟨h',t',rfl,_⟩,hk⟩:=P
 exact⟨.inl ⟨_,.bool true,[],rfl,fun _=>rfl,.bool true,ai8,fun _=>⟨me,fun a ha=>absurd ha bh⟩⟩,OldK.of_keep hk,rfl,AllBare.of_eq hgens⟩
theorem ale{w:d5}{os:oa}{x:Od×qb×Code×Pos}(h:Uj w os=some x)(h1:x.1= .next)(h2:x.2.2.1= .body IZ xV)(h3:x.2.2.2=psE):
  topRun treeTable PW w 11 (some (.ref 6)) 10000 ⟨jw w.params,p7 [],s5,vA,os⟩ (topStub PW)=some x.2.1.abs:=by
 obtain⟨f,s,c,q⟩:=x
 obtain rfl:f= .next:=h1
 obtain rfl:c= .body IZ xV:=h2
 obtain rfl:q=psE:=h3
 have k1:=al0 w s.abs
 have k2:=piece_app (l:=IZ) (rest:=[]) (segRun_of h) (piece_nil k1)
 rw[aR]at k2
 have k3:=piece_block (adu w os) k2
 have k4:=go_top (amN w os) k3
 have k5:=topRun_mono 2744 _ _ _ _ k4
 have e:12+(1+(7241+2))+2744=10000:=by decide
 rw[e]at k5
 exact k5
theorem X9(w:d5)(hA: ∀os,(Uj w os).map (Yw w)=some (.next,.body IZ xV,psE,true,openGood q0 loose0,true,kYa w,pbs)):
  (openEnds treeTable PW w 10000).map (fun s=>(openSeen q0 loose0 (importedModules PW.main.body) Xt0 true s,Yf0 s))=some (openGood q0 loose0,Ya0 w):=by
 obtain⟨⟨h,gs,d,k,os⟩,e,e'⟩:=ig.mp (ai0 w)
 obtain⟨e1,e'⟩:=cL e'
 obtain⟨e2,e'⟩:=cL e'
 obtain⟨e3,e4⟩:=cL e'
 have e1:h=jw w.params:=e1
 have e2:gs=p7 []:=e2
 have e3:d=s5:=e3
 have e4:k=vA:=e4
 subst e1 e2 e3 e4
 refine fg (ig.mp (hA os)) fun x hx a=> ?_
 obtain⟨a1,a⟩:=cL a
 obtain⟨a2,a⟩:=cL a
 obtain⟨a3,a⟩:=cL a
 obtain⟨a4,a⟩:=cL a
 obtain⟨a5,a⟩:=cL a
 obtain⟨a6,a⟩:=cL a
 obtain⟨a7,a8⟩:=cL a
 obtain⟨a6,a9⟩:=bk.mp a6
 obtain⟨b1,b2⟩:=bk.mp a6
 obtain⟨z1,z'⟩:=cL (akG w)
 obtain⟨z2,z3⟩:=cL z'
 have t:topFrom treeTable PW w 10000 ⟨jw w.params,p7 [],s5,vA,os⟩=some x.2.1.abs:=by
  unfold topFrom
  dsimp only
  rw[z1,z2,z3,ale hx a1 a2 a3]
  show(match N9 w x.2.1.abs with|true=>some x.2.1.abs|false=>none)=_
  rw[a4]
 unfold openEnds
 rw[e,nQ,t]
 have y:Yf0 x.2.1.abs=Ya0 w:=by
  unfold Yf0 Ya0
  rw[aae,a7]
  refine congrArg (fun b=>(b,kYa w)) ?_
  show(qm.all (frB (Hu Xg x.2.1))&&agc (Hu Xg x.2.1)&&cJ 1 x.2.1.toks)=true
  rw[al3 b1 a8 alU,b2,a9];rfl
 exact congrArg some (Op a5 y)
theorem left:LeftO PW q0 loose0 Xt0 Yf0 Ya0 10000:=fun w=>by
 have e:=World.withFollow_self w "special-get-raises"
 cases hb:w.params.followText "special-get-raises" with
 |false=>
  rw[hb]at e
  exact X9 w fun os=>by have:=apQ w os;rwa[e]at this
 |true=>
  rw[hb]at e
  exact X9 w fun os=>by have:=apS w os;rwa[e]at this
theorem aaN{lk:Look}{s:bW}{r:List bW}: ∀{n:Nat} {l:List bW},l.drop n=s::r->noRoadLSs lk (l.take n)=true->noRoadLS lk s=true->noRoadLSs lk r=true->noRoadLSs lk l=true:=by
 intro n
 induction n with
 |zero=>
  intro l h _ h2 h3
  rw[ma]at h
  rw[h]
  exact BD h2 h3
 |succ n ih=>
  intro l h h1 h2 h3
  cases l with
  |nil=>cases h
  |cons a l=>
   obtain⟨a1,a2⟩:=bk.mp (show(noRoadLS lk a&&noRoadLSs lk (l.take n))=true from h1)
   exact BD a1 (ih (l:=l) h a2 h2 h3)
theorem Pn{α:Type}{l:List α}{p:α->Bool}:l.toArray.any p=l.any p:=tI
noncomputable def VD:Look:={strict:= !(importedModules cp.row.prog.main.body).all cThrough.contains,foot:=none,bare:=(["vars","dir","locals"]:List Str).filter (readsOut cp.row.prog cp.row.prog.main.body)}
theorem aeO:roadStr Gf=false:=by
 rw[VV]
 show(((Jl lL).toArray.any fun c=>c==123||c==125)||((Jl lL).toArray.any (· ==46)&& !(Jl lL).toArray.any (· <=32)))=false
 rw[Pn,Pn,Pn]
 kernel_rfl
theorem ak4{lk:Look}(h:lk.word Gf=true):lk.str Gf=true:=by
 unfold Look.str
 rw[h,aeO,Bool.or_true];rfl
theorem N2:VD={strict:=false,foot:=none,bare:=[]}:=by
 unfold VD
 rw[cQ,aK,bZ,bF,UB,El]
 kernel_rfl
theorem afE:VD.word Gf=true:=by
 rw[VV,N2]
 kernel_rfl
theorem ani:noRoadLS VD (.Assign [.Name "RESERVED" ⟨722,0,722,8⟩] (.Constant (.str Gf) 0 ⟨722,11,722,1873⟩) ⟨722,0,722,1873⟩)=true:=by
 show(VD.stores [.Name "RESERVED" ⟨722,0,722,8⟩]&&noRoadLs VD [.Name "RESERVED" ⟨722,0,722,8⟩]&&VD.str Gf)=true
 refine BD ?_ (ak4 afE)
 rw[N2]
 kernel_rfl
theorem am0:noRoadLSs VD (cp.row.prog.main.body.take 136)=true:=by
 rw[N2,iR]
 kernel_rfl
theorem am1:noRoadLSs VD (cp.row.prog.main.body.drop 137)=true:=by
 rw[N2,iR]
 kernel_rfl
theorem am2:cp.row.prog.main.body.drop 136= .Assign [.Name "RESERVED" ⟨722,0,722,8⟩] (.Constant (.str Gf) 0 ⟨722,11,722,1873⟩) ⟨722,0,722,1873⟩::cp.row.prog.main.body.drop 137:=by kernel_rfl
theorem said:cp.wellSaid=true:=by
 unfold OpenLaw.wellSaid OpenRow.wellSaid OpenRow.partSaid looksOpen
 repeat' with_reducible refine BD ?_ ?_
 ·rw[Eh,aK]
  kernel_rfl
 ·rw[Fl,aK,Ek]
  kernel_rfl
 ·rw[Fi,aK]
  kernel_rfl
 ·rw[cQ,fG,aK,bZ,bF,Ep]
  kernel_rfl
 ·exact aaN am2 am0 ani am1
 ·rw[fF,aK,Et]
  kernel_rfl
 ·rw[aK]
  kernel_rfl
 ·rw[aK]
  kernel_rfl
 ·rw[aK,cQ,Fk]
  kernel_rfl
 ·rw[cQ,aK,bZ,bF,fG,UC,Fc]
  kernel_rfl
 ·rw[Zm,aK,bF]
  kernel_rfl
 ·rw[cQ,aK,Ff,oc,bZ,bF,fG]
  kernel_rfl
 ·rw[Em,aK]
  kernel_rfl
 ·rw[iP,aK]
  kernel_rfl
 ·rw[iP,aK]
  kernel_rfl
 ·rw[cQ,aK,iP]
  kernel_rfl
 ·rw[cQ,aK,Fe,Zl,Fd]
  kernel_rfl
 ·rw[cQ,aK]
  kernel_rfl
 ·rw[aK]
  kernel_rfl
 ·rw[bZ,bF,fG,aK]
  kernel_rfl
 ·rw[bZ,bF,Ej,aK]
  kernel_rfl
 ·kernel_rfl
 ·rw[cQ,Eg]
  kernel_rfl
 ·rw[Fh]
  kernel_rfl
 ·kernel_rfl
 ·kernel_rfl
 ·rw[iR,nj,mT]
  kernel_rfl
 ·rw[Fj]
  kernel_rfl
 ·rw[Es]
  kernel_rfl
 ·rw[cQ,bF]
  kernel_rfl
 ·rw[cQ,nj,oc,bF,iQ]
  kernel_rfl
 ·rw[cQ,mj,mi,iQ]
  kernel_rfl
 ·rw[cQ,mj,mi,iQ,FF,bF]
  kernel_rfl
 ·rw[fF,bZ,bF,mT]
  kernel_rfl
 ·rw[bZ,bF,fE]
  kernel_rfl
 ·rw[Fg,bF,fE]
  kernel_rfl
 ·rw[cQ,fE,oc]
  kernel_rfl
 ·rw[fF,bZ,bF,fE]
  kernel_rfl
 ·rw[fF,bF]
  kernel_rfl
theorem def_ok:(defOf q0 RW.row.name).map (fun x=>(x.1.name,kwWritten? x.1.params.kwonlyargs x.1.params.kw_defaults,x.2,RW.row.prog.theDef RW.row.name))=(defOf q0 RW.row.name).map (fun x=>(("law":Str),some x.2,x.2,some (x.1.params,x.1.body,x.1.scope))):=by kernel_rfl
theorem def_some:(defOf q0 RW.row.name).isSome=true:=by kernel_rfl
theorem ok_ok:(chainsOk q0&&opensWell RW.row.prog&&(frees RW.row.toRowW&&RW.row.within.isEmpty))=true:=by decide +kernel
theorem ap6:RW.row.prog.tablesWhole=true:=by
 delta Program.tablesWhole TablesWhole.wProgram TablesWhole.holds Scope.bears
 rw[PySem.W.Fast.te6116379765354995101,bF]
 kernel_rfl
theorem bare_ok:RW.row.prog.bare:=⟨rfl,rfl,rfl,rfl,rfl,ap6⟩
theorem prom_ok:RW.row.toRowW.promised:=⟨[.list []],by decide +kernel,by decide +kernel⟩
end Mine
end
set_option maxHeartbeats 4000000 in
theorem PySem.Challenge.cw_pq0651_01_holds : PySem.Challenge.rw_pq0651_01.Holds := by
 obtain⟨⟨d,kwd⟩,hdef⟩:=fq.mp Mine.def_some
 have h:=Mine.def_ok
 rw[hdef]at h
 have h:=aI h
 obtain⟨h1,h⟩:=cL h
 obtain⟨h2,h⟩:=cL h
 obtain⟨_,h3⟩:=cL h
 exact holds_law Mine.said fun k1=>holds_openX (q:=Mine.q0) (loose:=Mine.loose0) (Xt:=Mine.Xt0) (XP:=fun _ _=>True) (Yf:=Mine.Yf0) (Ya:=Mine.Ya0) (N:=10000) Mine.left (fun _ _=>trivial) (fun _ _ _ _ _=>trivial) hdef h3 h2 (fun _ _=>recFacts_nil rfl) rfl k1 Mine.ok_ok Mine.bare_ok Mine.prom_ok (Mine.law_walk h1)
