import PyProof.Rows.All
import Wide.All
import OpenK.AllK
import Wide.FinOn
import Open.Tops
import KE.KBytesWalk
import PyProof.CompFree
import KE.KPop
import KE.KListMore
import KE.KIntText
import KE.BytesMake
import PyProof.CollectIter
import PyProof.JoinWalk
import PyProof.Rows.StrNews
import KE.IntTextLaws
import PyProof.Rows.SortStr
import PyProof.Rows.SortWalk
import PyProof.StrCalls6
import Lean
import PySem.Challenge.RW_pq0651_01
set_option Elab.async false
set_option maxRecDepth 100000
set_option linter.all false
set_option genInjectivity false
set_option genSizeOf false
set_option compiler.extract_closed false
open And renaming intro->hH
open Array renaming any_toList->Gj,mk->pV,toList->NT,toList_inj->Gk
open Bool renaming and_eq_true->cG,and_eq_true_iff->bu,and_self->rt,and_true->zE,eq_false_iff->EG,eq_iff_iff->oA,not_eq_true'->dY,not_false->fj,not_true->et,or_eq_false_iff->oB,or_eq_true->oF,or_eq_true_iff->kM
open Eq renaming trans->yy
open False renaming elim->TP
open ForInStep renaming yield->gA
open Int renaming add_sub_cancel->Be,eq_ofNat_of_zero_le->uV,fmod_lt_of_pos->qT,fmod_nonneg_of_pos->mW,lt_of_le_of_lt->Bf,lt_of_lt_of_le->Bg,natCast_nonneg->dh,negSucc->qv,negSucc_lt_zero->pM,not_lt->sK,ofNat->am,ofNat_le->NV,ofNat_lt->hU,toNat_of_nonneg->A2
open Int.negSucc renaming inj->abc
open List renaming all_append->kZ,all_cons->ru,all_eq_false->se,all_eq_true->bT,any_cons->rv,any_eq_false->EJ,any_eq_true->j9,any_toArray->tw,append_assoc->aB,append_nil->aR,append_toArray->A3,cons_append->eS,contains_iff_mem->wS,drop->Bh,dropLast_eq_take->wT,drop_drop->pX,drop_eq_nil_iff->oH,drop_eq_nil_of_le->g8,drop_zero->lZ,filter->Q4,filterMap_cons->kP,find?_cons->oJ,flatMap_append->kQ,flatMap_cons->aY,flatMap_nil->bD,flatten_cons->mJ,foldl->TQ,foldl_cons->HM,forIn_cons->gE,getElem?_append_right->kz,getElem?_drop->qU,getElem?_eq_getElem->eU,getElem?_eq_none->n6,getElem?_eq_some_iff->cP,getElem?_map->jI,getElem?_toArray->jP,getElem?_zip_eq_some->sM,getElem_mem->Gm,getLast?_eq_getElem?->sN,isEmpty_cons->EK,isEmpty_iff->ek,isEmpty_nil->Gn,length->mZ,length_append->ao,length_cons->bM,length_drop->gW,length_eq_zero_iff->mG,length_filterMap_le->tx,length_map->aS,length_nil->HN,length_range->EL,length_take->kb,lookup->qw,lookup_cons->cz,lookup_cons_self->fZ,map->NX,map_append->bm,map_congr_left->fS,map_cons->bd,map_id'->tz,map_inj_left->iG,map_map->gF,map_nil->jQ,mem_append->cQ,mem_cons->aG,mem_cons_of_mem->aQ,mem_cons_self->bb,mem_filterMap->lu,mem_map->dy,mem_of_getElem?->a8,mem_range->pY,mem_range'_1->EN,mem_singleton->aO,mem_toArray->tA,nil_append->ve,nodup_cons->dL,nodup_nil->l0,not_mem_nil->bc,of_mem_zip->HO,pairwise_cons->jo,pairwise_singleton->uW,push_toArray->EO,range->cu,range'->iP,range'_succ->tB,rec->bo,rel_of_pairwise_cons->k7,replicate->bH,replicate_succ->kR,reverse_cons->EP,size_toArray->aZ,take_append_drop->jR,take_succ_cons->A4,take_take->J0,zip_cons_cons->bL
open List.Perm renaming eq_of_pairwise->NW
open List.cons renaming injEq->vd
open Nat renaming add_assoc->kB,add_comm->lx,add_le_add->aK,add_le_add_left->dq,add_sub_cancel'->A5,add_sub_cancel_left->mH,beq->aj,beq_refl->NY,ble->cT,ble_eq_true_of_le->f8,blt->bt,blt_eq->c9,eq_of_beq_eq_true->aD,exists_eq_add_of_le->jh,le_add_left->jp,le_add_right->cU,le_antisymm->vf,le_of_ble_eq_true->av,le_of_eq->eA,le_of_lt->iZ,le_of_lt_succ->EQ,le_of_succ_le->ER,le_of_succ_le_succ->m7,le_refl->ax,le_succ->cM,le_succ_of_le->mK,le_trans->au,le_zero->Q5,log2_lt->Fi,lt_add_of_pos_right->uX,lt_irrefl->zF,lt_of_add_lt_add_left->sO,lt_of_le_of_lt->eV,lt_of_lt_of_le->eW,lt_of_succ_lt_succ->m8,lt_or_ge->oK,lt_succ_of_lt->cK,lt_succ_self->bO,min->DN,min_eq_left->HU,min_le_right->Go,mul_le_mul_left->pN,mul_succ->NZ,ne_of_gt->oL,ne_of_lt->cj,noConfusion->dM,not_le->yC,not_lt->b6,not_lt_zero->io,pow_le_pow_right->iO,pow_lt_pow_right->yD,rec->gX,sub_le->TR,sub_self->Bi,sub_zero->N0,succ->nM,succ_le_succ->ba,succ_ne_zero->ke,succ_sub->N1,succ_sub_succ_eq_sub->tC,zero_add->hV,zero_le->aU,zero_lt_succ->gY
open Nat.succ renaming inj->jS
open Ne renaming symm->tm
open Option renaming bind_some->nN,getD_none->tD,getD_some->nO,isNone_iff_eq_none->dA,isSome_iff_exists->eX,map_eq_some_iff->g9,none_or->J1,rec->bj
open Option.some renaming inj->aH,injEq->YN
open Prod renaming ext->N2,rec->N3
open Prod.mk renaming inj->cN
open PyProof.Rows renaming Assign_Tuple_swapped->yx,Compare_chain->Mz,add_int->TT,add_str->TU,assign_Name->ly,floordiv_int->Nq,ge_int->VX,getItem_str->N4,gt_int->VY,in_str->VZ,join_list->Q7,join_tuple->Q3,le_int->V0,len_str->TV,len_tuple->Q8,lt_int->V1,mod_int->TW,mul_int->TX,neg_int->TY,notIn_str->Q9,not_of->V2,pow_int->TZ,sub_int->T0,truthy_none->N5,truthy_tuple->Nr,StrsAre->R7,isTrue_chain->N9,slot_str_getitem->Gq
open PySem renaming Addr->aC,Around->bX,BindsTo->R5,ClassData->Lq,CmpOp->gR,Comprehension->dK,Data->Bc,DictEntry->hJ,Expr->an,Flow->JY,FuncBody->NU,FuncData->gB,GenState->yz,Heap->bJ,Keyword->tl,Model->k8,NameKind->dR,Operator->iy,OsState->kJ,Program->fT,BoolOp->cB,call->T3,strKind->ry,strKind_is->tE,wpAt_bind->HX,wpAt_of_wpAny->A7,Result->tF,Scope->dT,Shared->az,Stmt->co,UnaryOp->R8,Value->ah,World->dH,builtinLookup_eq_fast->wZ,call_list_seq->MB,call_meets->l8,codeAny_builtin->HY,codeAny_call_builtin->oM,codeAny_loop->N7,codeAny_mono->N8,codeAny_of_tree->H0,evalPairs_cons->J5,intKind_is->H1,pastItsLine_dict->Gp,plainId_quiet->MC,plainObj_wpAny_Assign_Attribute->jf,refuseLoop_ref->J6,sizeLine_eq->jA,slot_dict_getitem->E2,slot_list_getitem->E3,slot_list_setitem->E4,typeIs_str->l9,typeLookup_type->H3,wpAny_Constant_int->qW,wpAny_Expr_any->J7,wpAny_askSetting->Gr,wpAny_assignInOrder_more->eY,wpAny_assignInOrder_none->tK,wpAny_bind->aq,wpAny_bindName->ma,wpAny_call->oN,wpAny_comprehension_free->tM,wpAny_execs_cons->nP,wpAny_execs_nil->oO,wpAny_getItem_of->Gs,wpAny_holding->dD,wpAny_isSubtype_exc->kU,wpAny_list_append_plain->uY,wpAny_loadPart->p7,wpAny_loadPart_at->gH,wpAny_lookBehind->Gu,wpAny_madeBy_exc->Gv,wpAny_mono->jr,wpAny_newObj_type->gJ,wpAny_pure->aL,wpAny_pyIter_dict->E5,wpAny_rule->H4,wpAny_specialOf->H5,wpAny_standAt->du,wpAny_truthy_bool->fG,wpAny_typeOf->Oa,wpAny_unpackItems_tuple->uZ
open PySem.Around renaming under_plainId->yw
open PySem.AutoListH renaming list___mul___list_int_3->Fh
open PySem.AutoSeq1 renaming list_extend_list_list_0->A6
open PySem.BoolOp renaming And->YQ,Or->abd
open PySem.Builtin.BaseException renaming bexcPut->JX
open PySem.Builtin.Int renaming intBits->kO
open PySem.Builtin.List renaming listExtendWith->qN,listFitsIndex->ky,listLengthHint->Ln,listSameRef->tt,listSubscript?->Lo,listTooLong->iX
open PySem.Builtin.Range renaming rangeFitsLong->Lp,rangeSize->mD,small->A0
open PySem.Builtin.Str renaming glued->YM,occurrences->Q2,strSliceIndices->qO,strKind->gp
open PySem.Calls renaming Constant_str->oG,Name_function_global->yB,call_len_list->Nt,spliced_cons->Bn
open PySem.Challenge renaming pw_pq0651_01->J2,rw_pq0651_01->b9
open PySem.Code renaming builtin->tu,quiet_builtin->Bb
open PySem.DictEntry renaming refKey->Gl
open PySem.Expr.Attribute renaming elim->pK
open PySem.Expr.BinOp renaming elim->u6
open PySem.Expr.BoolOp renaming elim->tv
open PySem.Expr.Call renaming elim->wO
open PySem.Expr.Compare renaming elim->r8
open PySem.Expr.Constant renaming elim->qP
open PySem.Expr.Dict renaming elim->wP
open PySem.Expr.IfExp renaming elim->u9
open PySem.Expr.List renaming elim->wQ
open PySem.Expr.ListComp renaming elim->qQ
open PySem.Expr.Name renaming elim->wR
open PySem.Expr.Slice renaming elim->vb
open PySem.Expr.Subscript renaming elim->pL
open PySem.Expr.Tuple renaming elim->jm
open PySem.Expr.UnaryOp renaming elim->r9
open PySem.F renaming args_str_split_2->qR,entry_str_split->sb,plainAttrs_list->sd,plain_list_iadd->EH,slot_int_rmul->HL,slot_str_join->vc,slot_str_replace->qS,slot_str_split->nL,type_str_replace->Bd,excBase_Exception->gq
open PySem.Heap renaming MadeExcOf->JZ,SameBut->iY,dictOf_iff->jn,get?_none_of_le->yA,get?_push_at->EI,get?_push_of_some->bC,get?_push_size->bh,get?_update_ne->A1,get?_update_self->jO,lt_size->cp,size_push->pW
open PySem.Heap.SameBut renaming update->je
open PySem.IsL renaming update->YR
open PySem.MeetsSeq renaming list_pop_last->J3
open PySem.NameKind renaming cell->eu,free->dr
open PySem.Obj renaming mapSeq->HV,putName->Q6
open PySem.Pairs renaming nil->V3
open PySem.PyData renaming keyHash->pZ
open PySem.ScopeKind renaming function->lz
open PySem.Sem.pure renaming elim->zG
open PySem.Stmt.Assign renaming elim->tG
open PySem.Stmt.Continue renaming elim->qV
open PySem.Stmt.Expr renaming elim->wU
open PySem.Stmt.For renaming elim->zH
open PySem.Stmt.If renaming elim->Bj
open PySem.Stmt.Return renaming elim->tH
open PySem.Stmt.While renaming elim->vg
open PySem.Str renaming append->T6,empty->V4,length->T8,ofString->lA
open PySem.StrLaws renaming occBody->d5,occ_eq->wV,subAt_eq->tI
open PySem.Txt renaming join->N6,replace->Ra,split->Lr
open PySem.Value renaming int->Bk,isStr->iQ,noConfusion->sf,ref->n9,str->gg
open PySem.Value.int renaming elim->wW
open PySem.Value.ref renaming elim->wX
open PySem.Value.str renaming elim->wY
open PySem.W renaming Frag->dQ,Looks->HT,SharedT->n8,boot_drawn->sP,boot_heap->jq,boot_toks->vi,callWith_of->Fk,look_both->Bm,looks_clsIn->wj,looks_findIn->tJ,plainGet_of->qx,set_plain->Ls
open PySem.W.Fast renaming named_eq->n7,sDec_eq->bp,te10110043849684766642->fm,te10501279942588096481->DP,te10792542408131684335->fq,te11788848310118352699->DQ,te11892475500146522536->DR,te12563942051412417395->ft,te12749700546528644094->DT,te12862048085361865435->DU,te12879404354523853263->l4,te13343964577679436407->l5,te13582783067957832011->DV,te14082659384304107361->DW,te14364793385576792824->cE,te14374325043358763698->DX,te14412699480532031325->DY,te15667345088766844465->DZ,te16286561074155671207->D0,te17095254045102204799->l6,te17119622794617984870->fu,te17691160309236699985->l7,te17868728402115742887->D8,te18344453789297297638->fw,te2357444279172408678->ES,te2368527892694137696->aI,te3471404346716756564->bI,te4187177175401517315->mL,te4274047373036748609->ET,te4579403493507170074->EU,te482687673346738481->Fj,te4857012375875476094->EV,te5318747976498570220->iH,te5923862056798008813->mM,te6984425678791042302->iI,te7723801398212525404->EW,te797321630700447069->na,te8179353310426384613->EX,te8326940854005059898->iJ,te8377067652309620493->EY,te9558739934217749035->EZ,te9572597257264208301->mN,te9706382859710513879->E0,te9807087744658564304->E1
open PySem.W.KIN renaming call_text->R6
open PySem.W.Looks renaming of_pure->rx
open PySem.W.R renaming allR_eq->cA,anyR_eq->YO,filterR_eq->yE,mapR_eq->YP
open PySem.W.S renaming strDecS_eq->T1
open PySem.W.WData renaming bool->yF,int->Bl
open PySem.Walks renaming dictKeys->J4
open PySem.Within renaming cons->Rc,nil->Ua
open UInt8 renaming ofNat->Rb
open PySem PySem.W PySem.Calls PyProof.Rows
namespace Mine
abbrev ac:=List Nat
theorem ae.{u}{α:Sort u}{a b:α}:cond false a b=b:=rfl
theorem af.{u}{α:Sort u}{a b:α}:cond true a b=a:=rfl
theorem ag{p:Prop}[Decidable p](h:decide p=true):p:=of_decide_eq_true h
theorem nn{α:Type}{P:Prop}{r:α}(h:none=some r):P:=Option.noConfusion rfl (heq_of_eq h)
theorem ff{P:Prop}(h:false=true):P:=Bool.noConfusion h
theorem s2{α β:Type}{P:α->β->Prop}{a c:α}{b d:β}(e:some (a,b)=some (c,d))(h:P a b):P c d:=by
 cases e;exact h
theorem s1{α:Type}{P:α->Prop}{a c:α}(e:some a=some c)(h:P a):P c:=by
 cases e;exact h
theorem bS{α:Type}{c:Bool}{x:Option α}{r:α}(h:(bif c then x else none)=some r):c=true/\x=some r:=by
 cases c with
 |true=>exact⟨rfl,h⟩
 |false=>cases h
theorem bN{α:Type}{c:Bool}{x:Option α}{r:α}(h:(bif c then none else x)=some r):c=false/\x=some r:=by
 cases c with
 |false=>exact⟨rfl,h⟩
 |true=>cases h
theorem kS{α:Type}{c:Bool}{x:Option α}{r:α}{P:Prop}(h:(bif c then x else none)=some r)(k:c=true->x=some r->P):P:=k (bS h).1 (bS h).2
theorem kN{α:Type}{c:Bool}{x:Option α}{r:α}{P:Prop}(h:(bif c then none else x)=some r)(k:c=false->x=some r->P):P:=k (bN h).1 (bN h).2
section
variable{P:Prop}
theorem apF{Fg:Sort _}{B0:(x0:Fg)->Prop}(h: ∃x0:Fg,B0 x0)(k:(x0:Fg)->B0 x0->P):P:=by obtain⟨x0,h0⟩:=h;exact k x0 h0
theorem apG{Fg:Sort _}{B0:(x0:Fg)->Prop}{B1:(x0:Fg)->Prop}(h: ∃x0:Fg,B0 x0/\B1 x0)(k:(x0:Fg)->B0 x0->B1 x0->P):P:=by obtain⟨x0,h0,h1⟩:=h;exact k x0 h0 h1
theorem apH{Fg:Sort _}{α1:(x0:Fg)->Sort _}{B0:(x0:Fg)->(x1:α1 x0)->Prop}{B1:(x0:Fg)->(x1:α1 x0)->Prop}{B2:(x0:Fg)->(x1:α1 x0)->Prop}{B3:(x0:Fg)->(x1:α1 x0)->Prop}(h: ∃x0:Fg,∃x1:α1 x0,B0 x0 x1/\B1 x0 x1/\B2 x0 x1/\B3 x0 x1)(k:(x0:Fg)->(x1:α1 x0)->B0 x0 x1->B1 x0 x1->B2 x0 x1->B3 x0 x1->P):P:=by obtain⟨x0,x1,h0,h1,h2,h3⟩:=h;exact k x0 x1 h0 h1 h2 h3
end
inductive AV where
 |unb
 |none
 |opq
 |bool(b:Bool)
 |int(i:Int)
 |str(s:List Nat)
 |bytes(s:List UInt8)
 |tup(l:List AV)
 |lst(l:List AV)
 |frz(c:Nat)(ks:List Nat)(vs:List AV)
 |dct(ks:List (List Nat))(vs:List AV)
 |dcti(ks:List Int)(vs:List AV)
 |rng(a b:Nat)
 |ref(a:Nat)
 |glob(v:ah)
 deriving Inhabited
abbrev aa:=List AV
inductive bF where
 |lst(l:List AV)
 |inst(c:Nat)(ks:List Nat)(vs:List AV)
 |dct(ks:List (List Nat))(vs:List AV)
 |orc(k:Nat)(l:List AV)
 deriving Inhabited
mutual
noncomputable def noRef:AV->Bool
 | .ref _=>false
 | .tup l=>aN l
 | .lst l=>aN l
 | .frz _ _ l=>aN l
 | .dct _ l=>aN l
 | .dcti _ l=>aN l
 |_=>true
noncomputable def aN:List AV->Bool
 |[]=>true
 |a::l=>noRef a&&aN l
end
noncomputable def Ef:bF->Bool
 | .lst l=>aN l
 | .inst _ _ l=>aN l
 | .dct _ l=>aN l
 | .orc _ _=>false
noncomputable def yZ(K:dQ)(C:aC)(name:Str):Bool:=plainGet K C name&&hasDictIn K C&&(match findIn K (.ref C) name with
 |some attr=>noGet K attr
 |none=>false)&&findIn K (.ref C) "__setattr__" ==some (some (.builtin "object.__setattr__"))&&plainOver K C&&takerIn K C name==some none
noncomputable def Sv(c k:Nat):Bool:=aj c 1021&&aj k 18
structure PC where
 prog:fT
 w:dH
 K:dQ
 fname:Nat->Str
 pc:bJ
 mg:Str->Option ah
 mb:Str->Option ah
 g:pc.Ns mainGlobals mg
 b:pc.Ns builtinsNs mb
 nolimit:pc.NoLimit
 boot: ∀x:Str,x≠ "__name__" ->mb x=bootBuiltins x
 inK:K.In pc
 sys: ∃o,pc.get? sysModules=some o
 cls:Nat->Bool
 nf:Nat
 attr: ∀c k,cls c=true->k<nf->Sv c k=false->yZ K c (fname k)=true
 conc:Nat->List AV->bF->Prop
 concFree: ∀k l c,conc k l c->Ef c=true
 concInst: ∀k l c,conc k l c->cls k=true-> ∃ks vs,c= .inst k ks vs
 fnameInj: ∀i j,i<nf->j<nf->fname i=fname j->i=j
structure Wd where
 ρ:Nat->Option (aC×aC)
 im:aC->Option Obj
 pr:aC->Option Obj
noncomputable def aP(s:ac):Str:=⟨s.toArray⟩
abbrev ti(vs:List ah)(n:Nat):Obj:={cls:=.type "tuple",data:=.seq vs.toArray n}
abbrev dw(vs:List ah)(n:Nat):Obj:={cls:=.type "list",data:=.seq vs.toArray n}
def oT(C:PC):List Nat->List ah->List hJ->Prop
 |k::ks,v::vs,e::es=>k<C.nf/\(∃t,e.key= .str (C.fname k) t)/\e.val=v/\oT C ks vs es
 |[],[],[]=>True
 |_,_,_=>False
def Ea(C:PC)(ks:List (List Nat))(vs:List ah)(o:Obj):Prop:=ks.length=vs.length/\o.IsDictOf (strKind C.prog C.w) ((ks.map aP).zip vs)
def abi(C:PC)(ks:List Int)(vs:List ah)(o:Obj):Prop:=ks.length=vs.length/\o.IsDictOf (intKind C.prog C.w) (ks.zip vs)
mutual
def V(C:PC)(W:Wd):AV->ah->Prop
 | .unb,_=>False
 | .none,v=>v= .none
 | .opq,_=>True
 | .bool b,v=>v= .bool b
 | .int i,v=> ∃t,v= .int i t
 | .str s,v=> ∃t,v= .str (aP s) t
 | .bytes s,v=> ∃t,v= .bytes s.toArray t
 | .tup l,v=> ∃x n vs,v= .ref x/\W.im x=some (ti vs n)/\VL C W l vs
 | .lst l,v=> ∃x n vs,v= .ref x/\W.im x=some (dw vs n)/\VL C W l vs
 | .frz c ks fs,v=> ∃x d es n vs,v= .ref x/\C.cls c=true/\W.im x=some (instObj c d)/\W.im d=some (dictOf es n)/\VL C W fs vs/\oT C ks vs es
 | .dct ks fs,v=> ∃x o vs,v= .ref x/\(x==sysModules)=false/\W.im x=some o/\VL C W fs vs/\Ea C ks vs o
 | .dcti ks fs,v=> ∃x o vs,v= .ref x/\(x==sysModules)=false/\W.im x=some o/\VL C W fs vs/\abi C ks vs o
 | .rng a b,v=> ∃x t u w,v= .ref x/\W.im x=some {cls:=.type "range",dict:=none,data:=.fields #[.int a t,.int b u,.int 1 w],slots:= #[]}/\a<2^20/\b<2^20
 | .ref a,v=> ∃p,W.ρ a=some p/\v= .ref p.1
 | .glob a,v=>v=a
def VL(C:PC)(W:Wd):List AV->List ah->Prop
 |[],vs=>vs=[]
 |a::l,vs=> ∃v r,vs=v::r/\V C W a v/\VL C W l r
end
def Wd.le0(W W':Wd):Prop:=(∀a p,W.ρ a=some p->W'.ρ a=some p)/\(∀x o,W.im x=some o->W'.im x=some o)
def Wd.le(W W':Wd):Prop:=(∀a p,W.ρ a=some p->W'.ρ a=some p)/\(∀x o,W.im x=some o->W'.im x=some o)/\W'.pr=W.pr
theorem Wd.le.refl(W:Wd):W.le W:=⟨fun _ _ e=>e,fun _ _ e=>e,rfl⟩
theorem Wd.le.trans{W W' W'':Wd}(h:W.le W')(h':W'.le W''):W.le W'':=
 ⟨fun a p e=>h'.1 _ _ (h.1 a p e),fun x o q=>h'.2.1 x o (h.2.1 x o q),h'.2.2.trans h.2.2⟩
mutual
theorem V.mono0{C:PC}{W W':Wd}(h:W.le0 W'): ∀{a:AV} {v:ah},V C W a v->V C W' a v
 | .unb,_,x=>x
 | .none,_,x=>x
 | .opq,_,x=>x
 | .bool _,_,x=>x
 | .int _,_,x=>x
 | .str _,_,x=>x
 | .bytes _,_,x=>x
 | .tup _,_,y=>by obtain⟨x,n,vs,e,q,r⟩:=y;exact⟨x,n,vs,e,h.2 _ _ q,r.mono0 h⟩
 | .lst _,_,y=>by obtain⟨x,n,vs,e,q,r⟩:=y;exact⟨x,n,vs,e,h.2 _ _ q,r.mono0 h⟩
 | .frz _ _ _,_,y=>by obtain⟨x,d,es,n,vs,e,q0,q1,q2,r,z⟩:=y;exact⟨x,d,es,n,vs,e,q0,h.2 _ _ q1,h.2 _ _ q2,r.mono0 h,z⟩
 | .dct _ _,_,y=>by obtain⟨x,o,vs,e,q0,q1,r,z⟩:=y;exact⟨x,o,vs,e,q0,h.2 _ _ q1,r.mono0 h,z⟩
 | .dcti _ _,_,y=>by obtain⟨x,o,vs,e,q0,q1,r,z⟩:=y;exact⟨x,o,vs,e,q0,h.2 _ _ q1,r.mono0 h,z⟩
 | .rng _ _,_,y=>by obtain⟨x,t,u,w,e,q,z⟩:=y;exact⟨x,t,u,w,e,h.2 _ _ q,z⟩
 | .ref _,_,y=>by obtain⟨p,e,q⟩:=y;exact⟨p,h.1 _ _ e,q⟩
 | .glob _,_,x=>x
theorem VL.mono0{C:PC}{W W':Wd}(h:W.le0 W'): ∀{l:aa} {vs:List ah},VL C W l vs->VL C W' l vs
 |[],_,x=>x
 |_::_,_,⟨v,r,e,q,z⟩=>⟨v,r,e,q.mono0 h,z.mono0 h⟩
end
theorem Wd.le.to0{W W':Wd}(h:W.le W'):W.le0 W':=⟨h.1,h.2.1⟩
theorem V.mono{C:PC}{W W':Wd}(h:W.le W'){a:AV}{v:ah}(x:V C W a v):V C W' a v:=x.mono0 h.to0
theorem VL.mono{C:PC}{W W':Wd}(h:W.le W'){l:aa}{vs:List ah}(x:VL C W l vs):VL C W' l vs:=x.mono0 h.to0
theorem VL.length{C:PC}{W:Wd}: ∀{l:aa} {vs:List ah},VL C W l vs->vs.length=l.length
 |[],_,e=>by rw[show _=[] from e];rfl
 |_::_,_,⟨_,_,e,_,z⟩=>by rw[e,bM,bM,z.length]
theorem VL.get{C:PC}{W:Wd}: ∀{l:aa} {vs:List ah} {i:Nat} {a:AV},VL C W l vs->l[i]? =some a-> ∃v,vs[i]? =some v/\V C W a v
 |_::_,_,0,_,⟨v,r,e,q,_⟩,h=>by cases h;subst e;exact⟨v,rfl,q⟩
 |_::_,_,i+1,_,⟨v,r,e,_,z⟩,h=>by
  subst e
  exact z.get (i:=i) h
theorem VL.append{C:PC}{W:Wd}: ∀{l l':aa} {vs vs':List ah},VL C W l vs->VL C W l' vs'->VL C W (l++l') (vs++vs')
 |[],_,_,_,e,h=>by rw[show _=[] from e];exact h
 |_::_,_,_,_,⟨v,r,e,q,z⟩,h=>by subst e;exact⟨v,_,rfl,q,z.append h⟩
theorem VL.nil{C:PC}{W:Wd}:VL C W [] []:=rfl
theorem VL.cons{C:PC}{W:Wd}{a:AV}{v:ah}{l:aa}{vs:List ah}(h:V C W a v)(r:VL C W l vs):VL C W (a::l) (v::vs):=⟨v,vs,rfl,h,r⟩
theorem VL.one{C:PC}{W:Wd}{a:AV}{v:ah}(h:V C W a v):VL C W [a] [v]:=⟨v,[],rfl,h,rfl⟩
theorem VL.set{C:PC}{W:Wd}: ∀{l:aa} {vs:List ah} {i:Nat} {a:AV} {v:ah},VL C W l vs->V C W a v->VL C W (l.set i a) (vs.set i v)
 |[],_,_,_,_,e,_=>by rw[show _=[] from e];rfl
 |_::_,_,0,_,_,⟨v,r,e,q,z⟩,h=>by subst e;exact⟨_,_,rfl,h,z⟩
 |_::_,_,i+1,_,_,⟨v,r,e,q,z⟩,h=>by subst e;exact⟨_,_,rfl,q,z.set (i:=i) h⟩
theorem VL.take{C:PC}{W:Wd}: ∀{l:aa} {vs:List ah} (i:Nat),VL C W l vs->VL C W (l.take i) (vs.take i)
 |[],_,i,e=>by rw[show _=[] from e];simp;exact VL.nil
 |_::_,_,0,_=>VL.nil
 |_::_,_,i+1,⟨v,r,e,q,z⟩=>by subst e;exact⟨_,_,rfl,q,z.take i⟩
theorem VL.drop{C:PC}{W:Wd}: ∀{l:aa} {vs:List ah} (i:Nat),VL C W l vs->VL C W (l.drop i) (vs.drop i)
 |[],_,i,e=>by rw[show _=[] from e];simp;exact VL.nil
 |_::_,_,0,h=>h
 |_::_,_,i+1,⟨v,r,e,q,z⟩=>by subst e;exact z.drop i
structure AS where
 next:Nat
 cells:List (Nat×bF)
 deriving Inhabited
theorem bR{α:Type}(c:Bool)(x y:α):Bool.rec (motive:=fun _=>α) y x c=cond c x y:=by cases c<;>rfl
noncomputable def lk(a:Nat)(l:List (Nat×bF)):Option bF:=bo (motive:=fun _=>Option bF) none (fun p _ ih=>Bool.rec (motive:=fun _=>Option bF) ih (some p.2) (aj a p.1)) l
theorem ab4(a:Nat):lk a []=none:=rfl
theorem nj(a b:Nat)(c:bF)(r:List (Nat×bF)):lk a ((b,c)::r)=bif aj a b then some c else lk a r:=bR _ _ _
noncomputable def ls(a:Nat)(c:bF)(l:List (Nat×bF)):List (Nat×bF):=bo (motive:=fun _=>List (Nat×bF)) [] (fun p r ih=>Bool.rec (motive:=fun _=>List (Nat×bF)) (p::ih) ((p.1,c)::r) (aj a p.1)) l
theorem akm(a:Nat)(c:bF):ls a c []=[]:=rfl
theorem ED(a:Nat)(c:bF)(b:Nat)(d:bF)(r:List (Nat×bF)):ls a c ((b,d)::r)=bif aj a b then(b,c)::r else(b,d)::ls a c r:=bR _ _ _
noncomputable def drp(a:Nat)(l:List (Nat×bF)):List (Nat×bF):=bo (motive:=fun _=>List (Nat×bF)) [] (fun p _ ih=>Bool.rec (motive:=fun _=>List (Nat×bF)) (p::ih) ih (aj a p.1)) l
theorem af5(a:Nat):drp a []=[]:=rfl
theorem ac7(a b:Nat)(d:bF)(r:List (Nat×bF)):drp a ((b,d)::r)=bif aj a b then drp a r else(b,d)::drp a r:=bR _ _ _
noncomputable def AS.get(σ:AS)(a:Nat):Option bF:=lk a σ.cells
noncomputable def AS.set(σ:AS)(a:Nat)(c:bF):AS:=⟨σ.next,ls a c σ.cells⟩
noncomputable def AS.alloc(σ:AS)(c:bF):AS:=⟨σ.next+1,(σ.next,c)::σ.cells⟩
noncomputable def AS.drop(σ:AS)(a:Nat):AS:=⟨σ.next,drp a σ.cells⟩
theorem fV(a b:Nat):aj a b=decide (a=b):=by
 cases h:aj a b with
 |true=>rw[decide_eq_true (aD h)]
 |false=>rw[decide_eq_false (Nat.ne_of_beq_eq_false h)]
theorem AS.get_set(σ:AS)(a:Nat)(c:bF)(b:Nat):(σ.set a c).get b=if b=a then(σ.get a).map (fun _=>c)else σ.get b:=by
 obtain⟨n,l⟩:=σ
 simp only[AS.get,AS.set]
 induction l with
 |nil=>simp[ab4,akm]
 |cons p r ih=>
  obtain⟨x,d⟩:=p
  simp only[ED,nj,fV]
  by_cases h:a=x
  ·subst h
   simp only[decide_true,af,nj,fV,Option.map_some]
   by_cases q:b=a<;>simp[q]
  ·simp only[h,decide_false,ae,nj,fV]
   rw[ih]
   by_cases q:b=x
   ·subst q
    have:b≠a:=fun e=>h e.symm
    simp[this]
   ·simp[q]
theorem AS.get_alloc(σ:AS)(c:bF)(b:Nat):(σ.alloc c).get b=if b=σ.next then some c else σ.get b:=by
 simp only[AS.get,AS.alloc,nj,fV]
 by_cases q:b=σ.next<;>simp[q]
theorem AS.get_drop(σ:AS)(a b:Nat):(σ.drop a).get b=if b=a then none else σ.get b:=by
 obtain⟨n,l⟩:=σ
 simp only[AS.get,AS.drop]
 induction l with
 |nil=>simp[ab4,af5]
 |cons p r ih=>
  obtain⟨x,d⟩:=p
  simp only[ac7,nj,fV]
  by_cases h:a=x
  ·subst h
   simp only[decide_true,af]
   rw[ih]
   by_cases q:b=a<;>simp[q]
  ·simp only[h,decide_false,ae,nj,fV]
   rw[ih]
   by_cases q:b=x
   ·subst q
    have:b≠a:=fun e=>h e.symm
    simp[this]
   ·simp[q]
def iK(C:PC)(W:Wd)(h:bJ)(p:aC×aC):bF->Prop
 | .lst l=>p.1=p.2/\ ∃vs n,h.get? p.2=some (dw vs n)/\VL C W l vs
 | .inst k ks fs=>C.cls k=true/\W.im p.1=some (instObj k p.2)/\ ∃es n vs,h.get? p.2=some (dictOf es n)/\VL C W fs vs/\oT C ks vs es
 | .dct ks fs=>p.1=p.2/\(p.2==sysModules)=false/\ ∃o vs,h.get? p.2=some o/\VL C W fs vs/\Ea C ks vs o
 | .orc _ _=>False
def dU(C:PC)(W:Wd)(h:bJ)(p:aC×aC):bF->Prop
 | .lst l=>p.1=p.2/\ ∃vs n,h.get? p.2=some (dw vs n)/\VL C W l vs
 | .inst k ks fs=>C.cls k=true/\W.im p.1=some (instObj k p.2)/\ ∃es n vs,h.get? p.2=some (dictOf es n)/\VL C W fs vs/\oT C ks vs es
 | .dct ks fs=>p.1=p.2/\(p.2==sysModules)=false/\ ∃o vs,h.get? p.2=some o/\VL C W fs vs/\Ea C ks vs o
 | .orc k l=> ∃c,C.conc k l c/\iK C W h p c
noncomputable def bF.isOrc:bF->Bool
 | .orc _ _=>true
 |_=>false
theorem dU.to0{C:PC}{W:Wd}{h:bJ}{p:aC×aC}{c:bF}(hc:c.isOrc=false)(x:dU C W h p c):iK C W h p c:=by
 cases c with
 |orc=>cases hc
 |lst=>exact x
 |inst=>exact x
 |dct=>exact x
theorem iK.to{C:PC}{W:Wd}{h:bJ}{p:aC×aC}{c:bF}(x:iK C W h p c):dU C W h p c:=by
 cases c with
 |orc=>exact x.elim
 |_=>exact x
structure cv(C:PC)(W:Wd)(σ:AS)(h:bJ):Prop where
 base: ∀b o,C.pc.get? b=some o->W.im b=some o
 im: ∀b o,W.im b=some o->h.get? b=some o
 pr: ∀b o,W.pr b=some o->h.get? b=some o
 dis: ∀b o,W.pr b=some o->W.im b=none
 fresh: ∀a,σ.next<=a->W.ρ a=none
 cell: ∀a c,σ.get a=some c-> ∃p,W.ρ a=some p/\dU C W h p c/\W.im p.2=none/\W.pr p.2=none
 inj: ∀a b ca cb p q,σ.get a=some ca->σ.get b=some cb->W.ρ a=some p->W.ρ b=some q->p.2=q.2->a=b
theorem iK.keeps{C:PC}{W:Wd}{h h':bJ}{p:aC×aC}{c:bF}(x:iK C W h p c)(k: ∀o,h.get? p.2=some o->h'.get? p.2=some o):iK C W h' p c:=by
 cases c with
 |lst l=>obtain⟨a,vs,n,b,r⟩:=x;exact⟨a,vs,n,k _ b,r⟩
 |inst cc ks fs=>obtain⟨q0,a,es,n,vs,b,r⟩:=x;exact⟨q0,a,es,n,vs,k _ b,r⟩
 |dct ks fs=>obtain⟨a,q0,o,vs,b,r⟩:=x;exact⟨a,q0,o,vs,k _ b,r⟩
 |orc=>exact x
theorem dU.keeps{C:PC}{W:Wd}{h h':bJ}{p:aC×aC}{c:bF}(x:dU C W h p c)(k: ∀o,h.get? p.2=some o->h'.get? p.2=some o):dU C W h' p c:=by
 cases c with
 |orc kk l=>obtain⟨c,q,x⟩:=x;exact⟨c,q,x.keeps k⟩
 |_=>exact(iK.keeps (x.to0 rfl) k).to
theorem iK.mono{C:PC}{W W':Wd}{h:bJ}{p:aC×aC}{c:bF}(l:W.le0 W')(x:iK C W h p c):iK C W' h p c:=by
 cases c with
 |lst _=>obtain⟨a,vs,n,b,r⟩:=x;exact⟨a,vs,n,b,r.mono0 l⟩
 |inst cc ks fs=>obtain⟨q0,a,es,n,vs,b,r,z⟩:=x;exact⟨q0,l.2 _ _ a,es,n,vs,b,r.mono0 l,z⟩
 |dct ks fs=>obtain⟨a,q0,o,vs,b,r,z⟩:=x;exact⟨a,q0,o,vs,b,r.mono0 l,z⟩
 |orc=>exact x
theorem dU.mono0{C:PC}{W W':Wd}{h:bJ}{p:aC×aC}{c:bF}(l:W.le0 W')(x:dU C W h p c):dU C W' h p c:=by
 cases c with
 |orc kk ll=>obtain⟨c,q,x⟩:=x;exact⟨c,q,x.mono l⟩
 |_=>exact(iK.mono l (x.to0 rfl)).to
theorem dU.mono{C:PC}{W W':Wd}{h:bJ}{p:aC×aC}{c:bF}(l:W.le W')(x:dU C W h p c):dU C W' h p c:=x.mono0 l.to0
theorem iK.some{C:PC}{W:Wd}{h:bJ}{p:aC×aC}{c:bF}(x:iK C W h p c): ∃o,h.get? p.2=some o:=by
 cases c with
 |lst _=>obtain⟨a,vs,n,b,r⟩:=x;exact⟨_,b⟩
 |inst cc ks fs=>obtain⟨q0,a,es,n,vs,b,r,z⟩:=x;exact⟨_,b⟩
 |dct ks fs=>obtain⟨a,q0,o,vs,b,r,z⟩:=x;exact⟨_,b⟩
 |orc=>exact x.elim
theorem dU.some{C:PC}{W:Wd}{h:bJ}{p:aC×aC}{c:bF}(x:dU C W h p c): ∃o,h.get? p.2=some o:=by
 cases c with
 |orc kk l=>obtain⟨c,q,x⟩:=x;exact x.some
 |_=>exact(x.to0 rfl).some
section
variable{C:PC}{W:Wd}{σ:AS}{h h':bJ}
theorem cv.keeps(R:cv C W σ h)(k: ∀b o,h.get? b=some o->h'.get? b=some o):cv C W σ h':=
 ⟨R.base,fun b o e=>k _ _ (R.im b o e),fun b o e=>k _ _ (R.pr b o e),R.dis,R.fresh,
  fun a c e=>let⟨p,a1,a2,a3⟩:=R.cell a c e;⟨p,a1,a2.keeps fun o q=>k _ _ q,a3⟩,R.inj⟩
theorem cv.keepsBut(R:cv C W σ h){d:aC}(hi:W.im d=none)(hp:W.pr d=none)(hc: ∀a c p,σ.get a=some c->W.ρ a=some p->p.2≠d)
  (k: ∀b o,b≠d->h.get? b=some o->h'.get? b=some o):cv C W σ h':=
 ⟨R.base,fun b o e=>k _ _ (fun q=>by rw[q,hi]at e;cases e) (R.im b o e),fun b o e=>k _ _ (fun q=>by rw[q,hp]at e;cases e) (R.pr b o e),R.dis,R.fresh,
  fun a c e=>let⟨p,a1,a2,a3⟩:=R.cell a c e;⟨p,a1,a2.keeps fun o q=>k _ _ (hc a c p e a1) q,a3⟩,R.inj⟩
theorem cv.set(R:cv C W σ h){a:Nat}{eM c:bF}{p:aC×aC}(hg:σ.get a=some eM)(hp:W.ρ a=some p)(k: ∀b o,b≠p.2->h.get? b=some o->h'.get? b=some o)
  (hc:dU C W h' p c):cv C W (σ.set a c) h':=by
 obtain⟨p',e,_,hi,hpr⟩:=R.cell a eM hg
 rw[hp]at e;cases e
 refine⟨R.base,fun b o e=>k _ _ (fun q=>by rw[q,hi]at e;cases e) (R.im b o e),fun b o e=>k _ _ (fun q=>by rw[q,hpr]at e;cases e) (R.pr b o e),R.dis,R.fresh,?_,?_⟩
 ·intro b cb e
  rw[AS.get_set]at e
  split at e
  ·rename_i q;subst q;rw[hg]at e;cases e;exact⟨p,hp,hc,hi,hpr⟩
  ·rename_i q
   obtain⟨p',a1,a2,a3⟩:=R.cell b cb e
   exact⟨p',a1,a2.keeps fun o z=>k _ _ (fun w=>q (R.inj _ _ _ _ _ _ e hg a1 hp w)) z,a3⟩
 ·have look: ∀b cb,(σ.set a c).get b=some cb-> ∃c',σ.get b=some c':=by
   intro b cb e
   rw[AS.get_set]at e
   split at e
   ·rename_i q;subst q;exact⟨_,hg⟩
   ·exact⟨_,e⟩
  intro x y cx cy px py ex ey
  obtain⟨_,ex⟩:=look _ _ ex
  obtain⟨_,ey⟩:=look _ _ ey
  exact R.inj x y _ _ px py ex ey
theorem cv.drop(R:cv C W σ h)(a:Nat):cv C W (σ.drop a) h:=by
 have look: ∀b cb,(σ.drop a).get b=some cb->σ.get b=some cb:=by
  intro b cb e
  rw[AS.get_drop]at e
  split at e
  ·cases e
  ·exact e
 exact⟨R.base,R.im,R.pr,R.dis,R.fresh,fun b cb e=>R.cell b cb (look _ _ e),fun x y cx cy px py ex ey=>R.inj x y cx cy px py (look _ _ ex) (look _ _ ey)⟩
noncomputable def Wd.addIm(W:Wd)(x:aC)(o:Obj):Wd:={W with im:=fun b=>if b=x then some o else W.im b}
theorem Wd.le_addIm{W:Wd}{x:aC}{o:Obj}(h: ∀o',W.im x=some o'->o'=o):W.le (W.addIm x o):=
 ⟨fun _ _ e=>e,fun b o' e=>by
  show(if b=x then some o else W.im b)=some o'
  split
  ·rename_i q;subst q;rw[h _ e]
  ·exact e,rfl⟩
theorem cv.addIm(R:cv C W σ h){x:aC}{o:Obj}(ho:h.get? x=some o)(hp:W.pr x=none)(hc: ∀a c p,σ.get a=some c->W.ρ a=some p->p.2≠x):cv C (W.addIm x o) σ h:=by
 have l:W.le (W.addIm x o):=Wd.le_addIm fun o' e=>by have:=R.im _ _ e;rw[ho]at this;exact(aH this).symm
 refine⟨fun b o' e=>l.2.1 _ _ (R.base b o' e),fun b o' e=> ?_,R.pr,fun b o' e=> ?_,R.fresh,fun a c e=> ?_,R.inj⟩
 ·by_cases q:b=x
  ·subst q
   have e:(if b=b then some o else W.im b)=some o':=e
   rw[if_pos rfl]at e;cases e;exact ho
  ·have e:(if b=x then some o else W.im b)=some o':=e
   rw[if_neg q]at e;exact R.im _ _ e
 ·show(if b=x then some o else W.im b)=none
  have e:W.pr b=some o':=e
  rw[if_neg (fun q=>by rw[q,hp]at e;cases e)];exact R.dis _ _ e
 ·obtain⟨p,a1,a2,a3,a4⟩:=R.cell a c e
  refine⟨p,a1,a2.mono l,?_,a4⟩
  show(if p.2=x then some o else W.im p.2)=none
  rw[if_neg (hc a c p e a1)];exact a3
theorem cv.freeze(R:cv C W σ h){a:Nat}{c:bF}{p:aC×aC}{o:Obj}(hg:σ.get a=some c)(hp:W.ρ a=some p)(ho:h.get? p.2=some o):cv C (W.addIm p.2 o) (σ.drop a) h:=by
 refine(R.drop a).addIm ho ?_ ?_
 ·obtain⟨q,e,_,_,x⟩:=R.cell a c hg
  rw[hp]at e;cases e;exact x
 ·intro b cb q e e' z
  rw[AS.get_drop]at e
  split at e
  ·cases e
  ·rename_i n;exact n (R.inj _ _ _ _ _ _ e hg e' hp z)
noncomputable def Wd.addId(W:Wd)(a:Nat)(p:aC×aC):Wd:={W with ρ:=fun b=>if b=a then some p else W.ρ b}
theorem Wd.le_addId{W:Wd}{a:Nat}{p:aC×aC}(h:W.ρ a=none):W.le (W.addId a p):=
 ⟨fun b q e=>by
  show(if b=a then some p else W.ρ b)=some q
  split
  ·rename_i z;subst z;rw[h]at e;cases e
  ·exact e,fun _ _ e=>e,rfl⟩
theorem cv.alloc(R:cv C W σ h){c:bF}{p:aC×aC}(hc:dU C (W.addId σ.next p) h p c)(hi:W.im p.2=none)(hpr:W.pr p.2=none)(hn: ∀a c q,σ.get a=some c->W.ρ a=some q->q.2≠p.2):
  cv C (W.addId σ.next p) (σ.alloc c) h:=by
 have l:W.le (W.addId σ.next p):=Wd.le_addId (R.fresh _ (ax _))
 have old: ∀b cb,σ.get b=some cb->b≠σ.next:=fun b cb e q=>by
  obtain⟨p',z,_⟩:=R.cell b cb e
  rw[q,R.fresh _ (ax _)]at z;cases z
 have at_: ∀b,b≠σ.next->(W.addId σ.next p).ρ b=W.ρ b:=fun b q=>if_neg q
 have at0:(W.addId σ.next p).ρ σ.next=some p:=if_pos rfl
 refine⟨R.base,R.im,R.pr,R.dis,fun b hb=> ?_,fun b cb e=> ?_,fun x y cx cy px py ex ey hx hy z=> ?_⟩
 ·have hb:σ.next+1<=b:=hb
  rw[at_ _ (by omega)];exact R.fresh _ (by omega)
 ·rw[AS.get_alloc]at e
  split at e
  ·rename_i q;subst q;cases e;exact⟨p,at0,hc,hi,hpr⟩
  ·rename_i q
   obtain⟨p',a1,a2,a3⟩:=R.cell b cb e
   exact⟨p',(at_ _ q).trans a1,a2.mono l,a3⟩
 ·rw[AS.get_alloc]at ex ey
  split at ex<;>split at ey
  ·rename_i q q';rw[q,q']
  ·rename_i q q';subst q;rw[at0]at hx;cases hx;rw[at_ _ q']at hy;exact absurd z.symm (hn _ _ _ ey hy)
  ·rename_i q q';subst q';rw[at0]at hy;cases hy;rw[at_ _ q]at hx;exact absurd z (hn _ _ _ ex hx)
  ·rename_i q q';rw[at_ _ q]at hx;rw[at_ _ q']at hy;exact R.inj x y _ _ _ _ ex ey hx hy z
theorem cv.lt(R:cv C W σ h){a:Nat}{c:bF}{p:aC×aC}(hg:σ.get a=some c)(hp:W.ρ a=some p):p.2<h.objs.size:=by
 obtain⟨q,e,x,_⟩:=R.cell a c hg
 rw[hp]at e;cases e
 obtain⟨o,ho⟩:=x.some
 exact cp ho
theorem cv.im_new(R:cv C W σ h){x:aC}(hx:h.objs.size<=x):W.im x=none:=by
 cases e:W.im x with
 |none=>rfl
 |some o=>exact absurd (cp (R.im _ _ e)) (b6.mpr hx)
theorem cv.pr_new(R:cv C W σ h){x:aC}(hx:h.objs.size<=x):W.pr x=none:=by
 cases e:W.pr x with
 |none=>rfl
 |some o=>exact absurd (cp (R.pr _ _ e)) (b6.mpr hx)
theorem cv.cell_new(R:cv C W σ h){x:aC}(hx:h.objs.size<=x): ∀a c p,σ.get a=some c->W.ρ a=some p->p.2≠x:=fun _ _ _ e e' q=>
 absurd (R.lt e e') (b6.mpr (q▸hx))
theorem cv.sys(R:cv C W σ h):sysModules<h.objs.size:=let⟨_,e⟩:=C.sys;cp (R.im _ _ (R.base _ _ e))
theorem eg(h:bJ)(o:Obj): ∀b o',h.get? b=some o'->(h.push o).get? b=some o':=fun _ _ e=>bC _ e
theorem cv.pushIm(R:cv C W σ h){o:Obj}(hf:o.isFreed=false):W.le (W.addIm h.objs.size o)/\cv C (W.addIm h.objs.size o) σ (h.push o):=
 ⟨Wd.le_addIm (fun o' e=>by have z:=R.im_new (x:=h.objs.size) (ax _);rw[z]at e;cases e),
  (R.keeps (eg h o)).addIm (bh _ hf) (R.pr_new (ax _)) (R.cell_new (ax _))⟩
end
structure eI(A:bX)(k:Nat):Prop where
 handled:A.handled=none
 depth:A.depth+k<recursionLimit
 units:A.units+4*k<cLine
theorem eI.le{A:bX}{k k':Nat}(R:eI A k)(h:k'<=k):eI A k':=⟨R.handled,by have:=R.depth;omega,by have:=R.units;omega⟩
theorem eI.in1{A:bX}{k:Nat}(R:eI A (k+1)):eI A.in1 k:=⟨R.handled,by have:=R.depth;show A.depth+k<_;omega,by have:=R.units;show A.units+1+4*k<_;omega⟩
theorem eI.deeper{A:bX}{k:Nat}(R:eI A (k+1))(env:Env):eI (A.deeper env) k:=⟨R.handled,by have:=R.depth;show A.depth+1+k<_;omega,by have:=R.units;show A.units+3+4*k<_;omega⟩
theorem eI.d0{A:bX}{k:Nat}(R:eI A k):A.depth<recursionLimit:=by have:=R.depth;omega
abbrev dC(C:PC):k8:=model C.prog C.w
def dp:ah->az->Prop:=fun _ _=>False
def Sm(s s':az):Prop:= ∃h t,s'={s with heap:=h,toks:=t}/\s.toks<=t
theorem Sm.refl(s:az):Sm s s:=⟨s.heap,s.toks,rfl,ax _⟩
theorem Sm.trans{s s' s'':az}:Sm s s'->Sm s' s''->Sm s s''
 |⟨_,_,e,l⟩,⟨h,t,e',l'⟩=>⟨h,t,by rw[e',e],by subst e;exact au l l'⟩
theorem Sm.mk'{nq s:az}(x:Sm nq s)(h:bJ)(t:Nat)(ht:s.toks<=t):Sm nq {s with heap:=h,toks:=t}:=x.trans ⟨h,t,rfl,ht⟩
theorem Sm.le{s s':az}:Sm s s'->s.toks<=s'.toks
 |⟨_,_,e,l⟩=>by subst e;exact l
def Sn(nq s:az):Prop:=1<=nq.toks/\Sm nq s
theorem Sn.trans{s s' s'':az}(x:Sn s s')(y:Sm s' s''):Sn s s'':=⟨x.1,x.2.trans y⟩
theorem Sn.mk'{nq s:az}(x:Sn nq s)(h:bJ)(t:Nat)(ht:s.toks<=t):Sn nq {s with heap:=h,toks:=t}:=⟨x.1,x.2.mk' h t ht⟩
theorem Sn.pos{nq s:az}(x:Sn nq s):1<=s.toks:=au x.1 x.2.le
abbrev Fm:=List AV
structure FX where
 C:PC
 env:Env
 names:Nat->Option Str
 own:List aC
 nq:az
def i8(X:FX)(h:bJ)(m:Str->Option ah)(x:Str)(v:ah):Prop:=
 match X.env.kindOf x with
 |some .local=>m x=some v
 |some .cell |some .free=> ∃c,X.env.cells.lookup x=some c/\h.IsCell c (some v)
 |_=>False
structure u2(X:FX):Prop where
 kind:X.env.scope.kind= .function
 glob:X.env.globals=mainGlobals
 blt:X.env.builtins=builtinsNs
 loc:X.env.locals∈X.own
 apart:X.env.cells.Pairwise fun x y=>x.2≠y.2
 notL: ∀n c,X.env.cells.lookup n=some c->c≠X.env.locals
 plain: ∀(i:Nat) x,X.names i=some x->(x==("__debug__":Str)||x==("__classdict__":Str))=false
def FX.Has(X:FX)(c:aC):Prop:=c=X.env.locals\/(∃n,X.env.cells.lookup n=some c)\/c∈X.own
def sS(W:Wd)(σ:AS)(c:aC):Prop:= ∀a cc p,σ.get a=some cc->W.ρ a=some p->p.2≠c
structure pO(X:FX)(W:Wd)(fr:Fm)(σ:AS)(h:bJ):Prop where
 vars: ∃m,h.Ns X.env.locals m/\ ∀(i:Nat) a,fr[i]? =some a->a= .unb\/ ∀x,X.names i=some x-> ∃v,i8 X h m x v/\V X.C W a v
 cells: ∀n c,X.env.cells.lookup n=some c-> ∃v,h.IsCell c v
 apart: ∀c,X.Has c->sS W σ c
 sep: ∀c,X.Has c->W.im c=none
 own: ∀c∈X.own,W.pr c=none
 live: ∀c,X.Has c-> ∃o,h.get? c=some o
structure St(X:FX)(W:Wd)(fr:Fm)(σ:AS)(s:az):Prop where
 rel:cv X.C W σ s.heap
 fr:pO X W fr σ s.heap
 sm:Sn X.nq s
def fH(X:FX)(W:Wd)(fr:Fm)(a:AV)(σ:AS)(v:ah)(s:az):Prop:= ∃W',W.le W'/\St X W' fr σ s/\V X.C W' a v
def Kh(X:FX)(W:Wd)(fr:Fm)(l:aa)(σ:AS)(vs:List ah)(s:az):Prop:= ∃W',W.le W'/\St X W' fr σ s/\VL X.C W' l vs
def oY(X:FX)(W:Wd)(fr:Fm)(b:Bool)(σ:AS)(b':Bool)(s:az):Prop:=b'=b/\ ∃W',W.le W'/\St X W' fr σ s
def yS(X:FX)(W:Wd)(fr:Fm)(σ:AS)(s:az):Prop:= ∃W',W.le W'/\St X W' fr σ s
abbrev EM:=Fm->AS->Option (AV×AS)
abbrev LM:=Fm->AS->Option (List AV×AS)
abbrev BM:=Fm->AS->Option (Bool×AS)
inductive j5 where
 |next(fr:Fm)(σ:AS)
 |brk(fr:Fm)(σ:AS)
 |cont(fr:Fm)(σ:AS)
 |ret(a:AV)(σ:AS)
abbrev SM:=Fm->AS->Option j5
abbrev aW:=List AV->AS->Option (AV×AS)
def bZ(X:FX)(k:Nat)(m:EM)(e:an):Prop:=
 ∀A,eI A k-> ∀W fr σ s,St X W fr σ s-> ∀a ai,m fr σ=some (a,ai)->wpAny (dC X.C) A (eval e X.env) (fH X W fr a ai) dp s
def z0(X:FX)(k:Nat)(m:LM)(es:List an):Prop:=
 ∀A,eI A k-> ∀W fr σ s,St X W fr σ s-> ∀l ai,m fr σ=some (l,ai)-> ∀pos,wpAny (dC X.C) A (spliced (backTo pos (starEach es X.env))) (Kh X W fr l ai) dp s
def nh(X:FX)(k:Nat)(m:BM)(e:an):Prop:=
 ∀A,eI A k-> ∀W fr σ s,St X W fr σ s-> ∀b ai,m fr σ=some (b,ai)->wpAny (dC X.C) A (isTrue e X.env (eval e X.env)) (oY X W fr b ai) dp s
def BR(X:FX)(W:Wd)(r:j5)(f:JY)(s:az):Prop:=match r with
 | .next fr σ=>f= .next/\yS X W fr σ s
 | .brk fr σ=>f= .brk/\yS X W fr σ s
 | .cont fr σ=>f= .cont/\yS X W fr σ s
 | .ret a σ=> ∃v fr,f= .ret v/\fH X W fr a σ v s
def lG(X:FX)(k:Nat)(m:SM)(st:co):Prop:=
 ∀A,eI A k-> ∀W fr σ s,St X W fr σ s-> ∀r,m fr σ=some r->wpAny (dC X.C) A (exec st X.env) (BR X W r) dp s
def mQ(X:FX)(k:Nat)(m:SM)(sts:List co):Prop:=
 ∀A,eI A k-> ∀W fr σ s,St X W fr σ s-> ∀r,m fr σ=some r->wpAny (dC X.C) A (execs sts X.env) (BR X W r) dp s
def aF(C:PC)(k:Nat)(f:ah)(F:aW):Prop:=
 ∀A,eI A k-> ∀W σ s args vs,cv C W σ s.heap->VL C W args vs->1<=s.toks-> ∀a ai,F args σ=some (a,ai)->
  wpAny (dC C) A (call f vs) (fun v s'=>Sm s s'/\ ∃W',W.le W'/\cv C W' ai s'.heap/\V C W' a v) dp s
section
variable{X:FX}{k:Nat}{W W':Wd}{fr:Fm}{σ ai:AS}{s s':az}{h h':bJ}
theorem fH.le{a:AV}{v:ah}(l:W.le W')(p:fH X W' fr a σ v s):fH X W fr a σ v s:=let⟨W'',a,b⟩:=p;⟨W'',l.trans a,b⟩
theorem Kh.le{a:aa}{v:List ah}(l:W.le W')(p:Kh X W' fr a σ v s):Kh X W fr a σ v s:=let⟨W'',a,b⟩:=p;⟨W'',l.trans a,b⟩
theorem oY.le{a b:Bool}(l:W.le W')(p:oY X W' fr a σ b s):oY X W fr a σ b s:=let⟨e,W'',a,b⟩:=p;⟨e,W'',l.trans a,b⟩
theorem yS.le(l:W.le W')(p:yS X W' fr σ s):yS X W fr σ s:=let⟨W'',a,b⟩:=p;⟨W'',l.trans a,b⟩
theorem BR.le{r:j5}{f:JY}(l:W.le W')(p:BR X W' r f s):BR X W r f s:=by
 cases r with
 |next fr σ=>exact⟨p.1,p.2.le l⟩
 |brk fr σ=>exact⟨p.1,p.2.le l⟩
 |cont fr σ=>exact⟨p.1,p.2.le l⟩
 |ret a σ=>obtain⟨v,fr,e,q⟩:=p;exact⟨v,fr,e,q.le l⟩
theorem i8.keeps{m:Str->Option ah}{x:Str}{v:ah}(q:i8 X h m x v)(k: ∀c n w,X.env.cells.lookup n=some c->h.IsCell c w->h'.IsCell c w):i8 X h' m x v:=by
 unfold i8 at q ⊢
 split
 ·simp_all
 ·simp_all;obtain⟨c,a,b⟩:=q;exact⟨c,a,k c _ _ a b⟩
 ·simp_all;obtain⟨c,a,b⟩:=q;exact⟨c,a,k c _ _ a b⟩
 ·simp_all
theorem pO.keeps(F:pO X W fr σ h)(hk: ∀b o,h.get? b=some o->h'.get? b=some o):pO X W fr σ h':=by
 obtain⟨⟨m,a,b⟩,c,d,xC,d',Cs⟩:=F
 exact⟨⟨m,a.keeps hk,fun i x e=>(b i x e).imp id fun f y p=>let⟨v,q,r⟩:=f y p;⟨v,q.keeps fun c n w _ z=>z.keeps hk,r⟩⟩,fun n c' e=>let⟨v,z⟩:=c n c' e;⟨v,z.keeps hk⟩,d,xC,d',
  fun c hc=>let⟨o,e⟩:=Cs c hc;⟨o,hk _ _ e⟩⟩
theorem St.keeps(T:St X W fr σ s)(hk: ∀b o,s.heap.get? b=some o->h'.get? b=some o)(t:Nat)(ht:s.toks<=t:=by first|exact ax _|exact cM _|omega):St X W fr σ {s with heap:=h',toks:=t}:=
 ⟨T.rel.keeps hk,T.fr.keeps hk,T.sm.mk' _ _ ht⟩
theorem St.toks(T:St X W fr σ s)(t:Nat)(ht:s.toks<=t:=by first|exact ax _|exact cM _|omega):St X W fr σ {s with toks:=t}:=T.keeps (h':=s.heap) (fun _ _ e=>e) t ht
theorem St.post(T:St X W fr σ s){a:AV}{v:ah}(q:V X.C W a v):fH X W fr a σ v s:=⟨W,.refl W,T,q⟩
theorem St.postU(T:St X W fr σ s):yS X W fr σ s:=⟨W,.refl W,T⟩
theorem St.postB(T:St X W fr σ s)(b:Bool):oY X W fr b σ b s:=⟨rfl,W,.refl W,T⟩
theorem pO.turn(F:pO X W fr σ h)(l:W.le W')(hn: ∀b o,W.im b=none->W'.im b=some o-> ¬X.Has b)
  (hc: ∀c,X.Has c->sS W' ai c)(hk: ∀c,X.Has c-> ∀o,h.get? c=some o->h'.get? c=some o):pO X W' fr ai h':=by
 obtain⟨⟨m,a,b⟩,c,d,xC,d',Cs⟩:=F
 have kc: ∀c n w,X.env.cells.lookup n=some c->h.IsCell c w->h'.IsCell c w:=fun c n w e ⟨o,p,q⟩=>⟨o,hk _ (.inr (.inl ⟨n,e⟩)) _ p,q⟩
 refine⟨⟨m,?_,fun i x e=>(b i x e).imp id fun f y p=>let⟨v,q,r⟩:=f y p;⟨v,q.keeps kc,r.mono l⟩⟩,fun n c' e=>let⟨v,z⟩:=c n c' e;⟨v,kc _ _ _ e z⟩,hc,fun c hcm=> ?_,fun c hcm=>by rw[l.2.2];exact d' c hcm,
  fun c hc=>let⟨o,e⟩:=Cs c hc;⟨o,hk _ hc _ e⟩⟩
 ·obtain⟨o,es,ep,e,r⟩:=a;exact⟨o,es,ep,hk _ (.inl rfl) _ e,r⟩
 ·cases e:W'.im c with
  |none=>rfl
  |some o=>exact absurd hcm (hn _ _ (xC c hcm) e)
theorem pO.lt(F:pO X W fr σ h){c:aC}(hc:X.Has c):c<h.objs.size:=let⟨_,e⟩:=F.live c hc;cp e
theorem pO.grow(F:pO X W fr σ h)(l:W.le W')(hn: ∀b o,W.im b=none->W'.im b=some o->h.objs.size<=b)
  (hc: ∀a cc p,ai.get a=some cc->W'.ρ a=some p->(∃c,σ.get a=some c/\W.ρ a=some p)\/h.objs.size<=p.2)
  (hk: ∀b o,h.get? b=some o->h'.get? b=some o):pO X W' fr ai h':=
 F.turn l (fun b o e e' hb=>absurd (F.lt hb) (b6.mpr (hn b o e e'))) (fun c hb a cc p e e' q=>by
  rcases hc a cc p e e' with⟨c',e1,e2⟩|z
  ·exact F.apart _ hb a c' p e1 e2 q
  ·exact absurd (F.lt hb) (b6.mpr (q▸z))) fun c _ o e=>hk _ _ e
theorem St.pushIm(T:St X W fr σ s){o:Obj}(hf:o.isFreed=false)(t:Nat)(ht:s.toks<=t:=by first|exact ax _|exact cM _|omega):
  W.le (W.addIm s.heap.objs.size o)/\St X (W.addIm s.heap.objs.size o) fr σ {s with heap:=s.heap.push o,toks:=t}:=by
 obtain⟨l,R⟩:=T.rel.pushIm hf
 refine⟨l,R,T.fr.grow l (fun b o' e e'=> ?_) (fun a cc p e e'=>.inl ⟨cc,e,e'⟩) (eg _ _),T.sm.mk' _ _ ht⟩
 have e':(if b=s.heap.objs.size then some o else W.im b)=some o':=e'
 split at e'
 ·rename_i q;exact eA q.symm
 ·rw[e]at e';cases e'
theorem St.pushLst(T:St X W fr σ s){l:aa}{vs:List ah}(q:VL X.C W l vs)(t:Nat)(ht:s.toks<=t:=by first|exact ax _|exact cM _|omega):
  W.le (W.addId σ.next (s.heap.objs.size,s.heap.objs.size))/\St X (W.addId σ.next (s.heap.objs.size,s.heap.objs.size)) fr (σ.alloc (.lst l)) {s with heap:=s.heap.push (dw vs 0),toks:=t}:=by
 have le:W.le (W.addId σ.next (s.heap.objs.size,s.heap.objs.size)):=Wd.le_addId (T.rel.fresh _ (ax _))
 refine⟨le,(T.rel.keeps (eg _ _)).alloc ⟨rfl,vs,0,bh _ rfl,q.mono le⟩ (T.rel.im_new (ax _)) (T.rel.pr_new (ax _)) (T.rel.cell_new (ax _)),
  T.fr.grow le (fun b o e e'=>by rw[show W.im b=some o from e']at e;cases e) (fun a cc p e e'=> ?_) (eg _ _),T.sm.mk' _ _ ht⟩
 rw[AS.get_alloc]at e
 by_cases z:a=σ.next
 ·subst z
  have e':(if σ.next=σ.next then some (s.heap.objs.size,s.heap.objs.size)else W.ρ σ.next)=some p:=e'
  rw[if_pos rfl]at e';cases e';exact .inr (ax _)
 ·rw[if_neg z]at e
  have e':(if a=σ.next then some (s.heap.objs.size,s.heap.objs.size)else W.ρ a)=some p:=e'
  rw[if_neg z]at e';exact .inl ⟨cc,e,e'⟩
theorem St.pushDct(T:St X W fr σ s)(t:Nat)(ht:s.toks<=t:=by first|exact ax _|exact cM _|omega):
  W.le (W.addId σ.next (s.heap.objs.size,s.heap.objs.size))/\St X (W.addId σ.next (s.heap.objs.size,s.heap.objs.size)) fr (σ.alloc (.dct [] [])) {s with heap:=s.heap.push (dictOf [] 0),toks:=t}:=by
 have le:W.le (W.addId σ.next (s.heap.objs.size,s.heap.objs.size)):=Wd.le_addId (T.rel.fresh _ (ax _))
 refine⟨le,(T.rel.keeps (eg _ _)).alloc ⟨rfl,by simpa using oL T.rel.sys,_,[],bh _ rfl,VL.nil,rfl,#[],0,⟨rfl,rfl,rfl⟩,rfl,fun _ he=>by simp at he,V3,by simp⟩ (T.rel.im_new (ax _)) (T.rel.pr_new (ax _)) (T.rel.cell_new (ax _)),
  T.fr.grow le (fun b o e e'=>by rw[show W.im b=some o from e']at e;cases e) (fun a cc p e e'=> ?_) (eg _ _),T.sm.mk' _ _ ht⟩
 rw[AS.get_alloc]at e
 by_cases z:a=σ.next
 ·subst z
  have e':(if σ.next=σ.next then some (s.heap.objs.size,s.heap.objs.size)else W.ρ σ.next)=some p:=e'
  rw[if_pos rfl]at e';cases e';exact .inr (ax _)
 ·rw[if_neg z]at e
  have e':(if a=σ.next then some (s.heap.objs.size,s.heap.objs.size)else W.ρ a)=some p:=e'
  rw[if_neg z]at e';exact .inl ⟨cc,e,e'⟩
theorem q6{C:PC}{n:Nat}{p:aC×aC}:V C (W.addId n p) (.ref n) (.ref p.1):=⟨p,if_pos rfl,rfl⟩
theorem mm{x:aC}{o:Obj}:(W.addIm x o).im x=some o:=if_pos rfl
theorem St.set(T:St X W fr σ s){a:Nat}{eM c:bF}{p:aC×aC}(hg:σ.get a=some eM)(hp:W.ρ a=some p)(hs:iY p.2 s.heap h')(hc:dU X.C W h' p c)(t:Nat)(ht:s.toks<=t:=by first|exact ax _|exact cM _|omega):
  St X W fr (σ.set a c) {s with heap:=h',toks:=t}:=by
 refine⟨T.rel.set hg hp (fun b o hb e=>hs.extBut b o hb e) hc,T.fr.turn (.refl _) (fun b o e e'=>by rw[e]at e';cases e') (fun d hd b cb q e e'=> ?_) (fun b hb o e=> ?_),T.sm.mk' _ _ ht⟩
 ·rw[AS.get_set]at e
  by_cases z:b=a
  ·subst z;exact T.fr.apart _ hd b eM q hg e'
  ·rw[if_neg z]at e;exact T.fr.apart _ hd b cb q e e'
 ·exact hs.extBut b o (fun q=>T.fr.apart _ hb a eM p hg hp q.symm) e
theorem St.drop(T:St X W fr σ s)(a:Nat):St X W fr (σ.drop a) s:=by
 refine⟨T.rel.drop a,T.fr.turn (.refl _) (fun b o e e'=>by rw[e]at e';cases e') (fun d hd b cb q e e'=> ?_) (fun b _ o e=>e),T.sm⟩
 rw[AS.get_drop]at e
 by_cases z:b=a
 ·rw[if_pos z]at e;cases e
 ·rw[if_neg z]at e;exact T.fr.apart _ hd b cb q e e'
end
noncomputable def ob{α β:Type}(o:Option α)(f:α->Option β):Option β:=bj (motive:=fun _=>Option β) none f o
noncomputable def bw{α γ β:Type}(o:Option (α×γ))(f:α->γ->Option β):Option β:=bj (motive:=fun _=>Option β) none (fun p=>N3 (motive:=fun _=>Option β) f p) o
noncomputable def od{α β:Type}(o:Option α)(f:α->Option β)(g:Option β):Option β:=bj (motive:=fun _=>Option β) g f o
theorem oE{α β:Type}{o:Option α}{f:α->Option β}{r:β}{P:Prop}(h:ob o f=some r)(k: ∀a,o=some a->f a=some r->P):P:=by
 cases o with
 |none=>exact nn h
 |some a=>exact k a rfl h
theorem fM{α γ β:Type}{o:Option (α×γ)}{f:α->γ->Option β}{r:β}{P:Prop}(h:bw o f=some r)(k: ∀a b,o=some (a,b)->f a b=some r->P):P:=by
 cases o with
 |none=>exact nn h
 |some p=>exact k p.1 p.2 rfl h
theorem odE{α β:Type}{o:Option α}{f:α->Option β}{g:Option β}{r:β}{P:Prop}(h:od o f g=some r)(k: ∀a,o=some a->f a=some r->P)(k':g=some r->P):P:=by
 cases o with
 |none=>exact k' h
 |some a=>exact k a rfl h
theorem bE{β:Type}{c:Bool}{x y:Option β}{r:β}{P:Prop}(h:(bif c then x else y)=some r)(k:c=true->x=some r->P)(k':c=false->y=some r->P):P:=by
 cases c with
 |true=>exact k rfl h
 |false=>exact k' rfl h
noncomputable def eP{β:Type}(a:AV)(f:Int->Option β):Option β:=match a with
 | .int i=>f i
 |_=>none
noncomputable def d8{β:Type}(a:AV)(f:List Nat->Option β):Option β:=match a with
 | .str s=>f s
 |_=>none
noncomputable def GY{β:Type}(a:AV)(f:List AV->Option β):Option β:=match a with
 | .tup s=>f s
 |_=>none
noncomputable def ic{β:Type}(a:AV)(f:Nat->Option β):Option β:=match a with
 | .ref s=>f s
 |_=>none
noncomputable def sZ{β:Type}(a:AV)(f:Option β):Option β:=match a with
 | .none=>f
 |_=>none
noncomputable def nR{β:Type}(a:AV)(f:Nat->Option β):Option β:=match a with
 | .int i=>Int.rec (motive:=fun _=>Option β) f (fun _=>none) i
 |_=>none
noncomputable def np{β:Type}(σ:AS)(x:Nat)(f:List AV->Option β):Option β:=ob (σ.get x) fun c=>match c with
 | .lst l=>f l
 |_=>none
noncomputable def CA{β:Type}(σ:AS)(x:Nat)(f:Nat->List Nat->List AV->Option β):Option β:=ob (σ.get x) fun c=>match c with
 | .inst c ks vs=>f c ks vs
 |_=>none
noncomputable def SA{β:Type}(σ:AS)(x:Nat)(f:List (List Nat)->List AV->Option β):Option β:=ob (σ.get x) fun c=>match c with
 | .dct ks vs=>f ks vs
 |_=>none
section
variable{β:Type}{r:β}{P:Prop}{a:AV}{σ:AS}{x:Nat}
theorem lstE{f:List AV->Option β}(h:np σ x f=some r)(k: ∀l,σ.get x=some (.lst l)->f l=some r->P):P:=oE h fun c hc h=>by
 cases c with
 |lst l=>exact k l hc h
 |_=>exact nn h
theorem instE{f:Nat->List Nat->List AV->Option β}(h:CA σ x f=some r)(k: ∀c ks vs,σ.get x=some (.inst c ks vs)->f c ks vs=some r->P):P:=oE h fun c hc h=>by
 cases c with
 |inst c ks vs=>exact k c ks vs hc h
 |_=>exact nn h
theorem dctE{f:List (List Nat)->List AV->Option β}(h:SA σ x f=some r)(k: ∀ks vs,σ.get x=some (.dct ks vs)->f ks vs=some r->P):P:=oE h fun c hc h=>by
 cases c with
 |dct ks vs=>exact k ks vs hc h
 |_=>exact nn h
@[elab_as_elim] theorem lj {Q:AV->Prop} {f:Int->Option β} (h:eP a f=some r) (k: ∀i,f i=some r->Q (.int i)):Q a:=by
 cases a<;>first|exact nn h|exact k _ h
@[elab_as_elim] theorem fO {Q:AV->Prop} {f:List Nat->Option β} (h:d8 a f=some r) (k: ∀i,f i=some r->Q (.str i)):Q a:=by
 cases a<;>first|exact nn h|exact k _ h
@[elab_as_elim] theorem Ny {Q:AV->Prop} {f:List AV->Option β} (h:GY a f=some r) (k: ∀i,f i=some r->Q (.tup i)):Q a:=by
 cases a<;>first|exact nn h|exact k _ h
@[elab_as_elim] theorem ir {Q:AV->Prop} {f:Nat->Option β} (h:ic a f=some r) (k: ∀i,f i=some r->Q (.ref i)):Q a:=by
 cases a<;>first|exact nn h|exact k _ h
@[elab_as_elim] theorem Cg {Q:AV->Prop} {f:Option β} (h:sZ a f=some r) (k:f=some r->Q .none):Q a:=by
 cases a<;>first|exact nn h|exact k h
@[elab_as_elim] theorem mi {Q:AV->Prop} {f:Nat->Option β} (h:nR a f=some r) (k: ∀i,f i=some r->Q (.int (.ofNat i))):Q a:=by
 cases a with
 |int i=>cases i with
  |ofNat n=>exact k _ h
  |negSucc n=>exact nn h
 |_=>exact nn h
variable{C:PC}{W:Wd}{v:ah}{Q:ah->Prop}
@[elab_as_elim] theorem V.intE {i:Int} (h:V C W (.int i) v) (k: ∀t,Q (.int i t)):Q v:=by obtain⟨t,rfl⟩:=h;exact k t
@[elab_as_elim] theorem V.strE {i:ac} (h:V C W (.str i) v) (k: ∀t,Q (.str (aP i) t)):Q v:=by obtain⟨t,rfl⟩:=h;exact k t
@[elab_as_elim] theorem V.bytesE {i:List UInt8} (h:V C W (.bytes i) v) (k: ∀t,Q (.bytes i.toArray t)):Q v:=by obtain⟨t,rfl⟩:=h;exact k t
@[elab_as_elim] theorem V.tupE {l:aa} (h:V C W (.tup l) v) (k: ∀x n vs,W.im x=some (ti vs n)->VL C W l vs->Q (.ref x)):Q v:=by obtain⟨x,n,vs,rfl,q,z⟩:=h;exact k x n vs q z
@[elab_as_elim] theorem V.lstE {l:aa} (h:V C W (.lst l) v) (k: ∀x n vs,W.im x=some (dw vs n)->VL C W l vs->Q (.ref x)):Q v:=by obtain⟨x,n,vs,rfl,q,z⟩:=h;exact k x n vs q z
@[elab_as_elim] theorem V.dctE {ks:List (List Nat)} {fs:aa} (h:V C W (.dct ks fs) v) (k: ∀x o vs,(x==sysModules)=false->W.im x=some o->VL C W fs vs->Ea C ks vs o->Q (.ref x)):Q v:=by obtain⟨x,o,vs,rfl,q1,q2,q3,q4⟩:=h;exact k x o vs q1 q2 q3 q4
@[elab_as_elim] theorem V.dctiE {ks:List Int} {fs:aa} (h:V C W (.dcti ks fs) v) (k: ∀x o vs,(x==sysModules)=false->W.im x=some o->VL C W fs vs->abi C ks vs o->Q (.ref x)):Q v:=by obtain⟨x,o,vs,rfl,q1,q2,q3,q4⟩:=h;exact k x o vs q1 q2 q3 q4
@[elab_as_elim] theorem V.frzE {c:Nat} {ks:ac} {fs:aa} (h:V C W (.frz c ks fs) v) (k: ∀x d es n vs,C.cls c=true->W.im x=some (instObj c d)->W.im d=some (dictOf es n)->VL C W fs vs->oT C ks vs es->Q (.ref x)):Q v:=by obtain⟨x,d,es,n,vs,rfl,q1,q2,q3,q4,q5⟩:=h;exact k x d es n vs q1 q2 q3 q4 q5
@[elab_as_elim] theorem V.rngE {a b:Nat} (h:V C W (.rng a b) v) (k: ∀x t u w,W.im x=some {cls:=.type "range",dict:=none,data:=.fields #[.int a t,.int b u,.int 1 w],slots:= #[]}->a<2^20->b<2^20->Q (.ref x)):Q v:=by obtain⟨x,t,u,w,rfl,q1,q2,q3⟩:=h;exact k x t u w q1 q2 q3
@[elab_as_elim] theorem V.refE {a:Nat} (h:V C W (.ref a) v) (k: ∀p,W.ρ a=some p->Q (.ref p.1)):Q v:=by obtain⟨p,e,rfl⟩:=h;exact k p e
@[elab_as_elim] theorem V.noneE (h:V C W .none v) (k:Q .none):Q v:=(show v= .none from h)▸k
@[elab_as_elim] theorem V.boolE {b:Bool} (h:V C W (.bool b) v) (k:Q (.bool b)):Q v:=(show v= .bool b from h)▸k
@[elab_as_elim] theorem VL.consE {a:AV} {l:aa} {vs:List ah} {Q:List ah->Prop} (h:VL C W (a::l) vs) (k: ∀v r,V C W a v->VL C W l r->Q (v::r)):Q vs:=by obtain⟨v,r,rfl,q,z⟩:=h;exact k v r q z
@[elab_as_elim] theorem VL.nilE {vs:List ah} {Q:List ah->Prop} (h:VL C W [] vs) (k:Q []):Q vs:=(show vs=[] from h)▸k
@[elab_as_elim] theorem cv.lstE {h:bJ} (R:cv C W σ h) {l:aa} (hg:σ.get x=some (.lst l)) (hv:V C W (.ref x) v) (k: ∀p vs n,W.ρ x=some p->p.1=p.2->h.get? p.1=some (dw vs n)->VL C W l vs->Q (.ref p.1)):Q v:=by
 obtain⟨p,q,rfl⟩:=hv
 obtain⟨p',e',⟨z,vs,n,g,r⟩,_⟩:=R.cell _ _ hg
 rw[q]at e';cases e'
 exact k p vs n q z (z▸g) r
@[elab_as_elim] theorem cv.instE {h:bJ} (R:cv C W σ h) {c:Nat} {ks:ac} {fs:aa} (hg:σ.get x=some (.inst c ks fs)) (hv:V C W (.ref x) v) (k: ∀p es n vs,W.ρ x=some p->C.cls c=true->W.im p.1=some (instObj c p.2)->h.get? p.2=some (dictOf es n)->VL C W fs vs->oT C ks vs es->Q (.ref p.1)):Q v:=by
 obtain⟨p,q,rfl⟩:=hv
 obtain⟨p',e',⟨q0,q1,es,n,vs,q2,r,z⟩,_⟩:=R.cell _ _ hg
 rw[q]at e';cases e'
 exact k p es n vs q q0 q1 q2 r z
@[elab_as_elim] theorem cv.dctE {h:bJ} (R:cv C W σ h) {ks:List (List Nat)} {fs:aa} (hg:σ.get x=some (.dct ks fs)) (hv:V C W (.ref x) v) (k: ∀p o vs,W.ρ x=some p->p.1=p.2->(p.1==sysModules)=false->h.get? p.1=some o->VL C W fs vs->Ea C ks vs o->Q (.ref p.1)):Q v:=by
 obtain⟨p,q,rfl⟩:=hv
 obtain⟨p',e',⟨z,q0,o,vs,g,r,z1⟩,_⟩:=R.cell _ _ hg
 rw[q]at e';cases e'
 exact k p o vs q z (z▸q0) (z▸g) r z1
end
noncomputable def gt(l:aa)(i:Nat):AV:=bo (motive:=fun _=>Nat->AV) (fun _=>.unb) (fun a _ ih i=>gX (motive:=fun _=>AV) a (fun j _=>ih j) i) l i
noncomputable def pad(i:Nat)(v:AV):List AV:=gX (motive:=fun _=>List AV) [v] (fun _ ih=>.unb::ih) i
noncomputable def put(l:aa)(i:Nat)(v:AV):List AV:=bo (motive:=fun _=>Nat->List AV) (fun i=>pad i v) (fun a r ih i=>gX (motive:=fun _=>List AV) (v::r) (fun j _=>a::ih j) i) l i
noncomputable def CB(l:ac):Bool:=bo (motive:=fun _=>Bool) true (fun _ _ _=>false) l
noncomputable def dg(l m:ac):Bool:=bo (motive:=fun _=>List Nat->Bool) CB (fun a _ ih m=>bo (motive:=fun _=>Bool) false (fun b t _=>Bool.rec (motive:=fun _=>Bool) false (ih t) (aj a b)) m) l m
theorem Sz(a b:Bool):Bool.rec (motive:=fun _=>Bool) false b a=(a&&b):=by cases a<;>rfl
theorem Pd(a b:Bool):Bool.rec (motive:=fun _=>Bool) b true a=(a||b):=by cases a<;>rfl
theorem agk:dg [] []=true:=rfl
theorem agj(b t):dg [] (b::t)=false:=rfl
theorem agi(a r):dg (a::r) []=false:=rfl
theorem agh(a r b t):dg (a::r) (b::t)=(aj a b&&dg r t):=Sz _ _
noncomputable def jW(l m:ac):Bool:=bo (motive:=fun _=>List Nat->Bool) (fun _=>true) (fun a _ ih m=>bo (motive:=fun _=>Bool) false (fun b t _=>Bool.rec (motive:=fun _=>Bool) false (ih t) (aj a b)) m) l m
theorem aiu(s):jW [] s=true:=rfl
theorem ad4(a r):jW (a::r) []=false:=rfl
theorem Tm(a r b t):jW (a::r) (b::t)=(aj a b&&jW r t):=Sz _ _
noncomputable def zd(p s:ac):Bool:=bo (motive:=fun _=>Bool) (jW p []) (fun b t ih=>Bool.rec (motive:=fun _=>Bool) ih true (jW p (b::t))) s
theorem ahE(p):zd p []=jW p []:=rfl
theorem IR(p b t):zd p (b::t)=(jW p (b::t)||zd p t):=Pd _ _
noncomputable def eR{α:Type}(l:List α):Nat:=bo (motive:=fun _=>Nat) 0 (fun _ _ ih=>nM ih) l
theorem ig{α:Type}(l:List α):eR l=l.length:=by
 induction l with
 |nil=>rfl
 |cons a r ih=>exact congrArg nM ih
noncomputable def ZC{α:Type}(n:Nat)(l:List α):List α:=bo (motive:=fun _=>Nat->List α) (fun _=>[]) (fun a r ih n=>gX (motive:=fun _=>List α) (a::r) (fun j _=>ih j) n) l n
theorem SD{α:Type}(l:List α): ∀n,ZC n l=l.drop n:=by
 induction l with
 |nil=>intro n;cases n<;>rfl
 |cons a r ih=>intro n;cases n with
  |zero=>rfl
  |succ n=>exact ih n
noncomputable def akr{α:Type}(n:Nat)(l:List α):List α:=bo (motive:=fun _=>Nat->List α) (fun _=>[]) (fun a r ih n=>gX (motive:=fun _=>List α) [] (fun j _=>a::ih j) n) l n
theorem aeY{α:Type}(l:List α): ∀n,akr n l=l.take n:=by
 induction l with
 |nil=>intro n;cases n<;>rfl
 |cons a r ih=>intro n;cases n with
  |zero=>rfl
  |succ n=>exact congrArg (a:: ·) (ih n)
noncomputable def afm{α:Type}(l m:List α):List α:=bo (motive:=fun _=>List α) m (fun a _ ih=>a::ih) l
theorem WM{α:Type}(l m:List α):afm l m=l++m:=by
 induction l with
 |nil=>rfl
 |cons a r ih=>exact congrArg (a:: ·) ih
noncomputable def FQ(c:Nat)(l:ac):Bool:=bo (motive:=fun _=>Bool) false (fun b _ ih=>Bool.rec (motive:=fun _=>Bool) ih true (aj c b)) l
theorem I2(c b r):FQ c (b::r)=(aj c b||FQ c r):=Pd _ _
noncomputable def PG(p s:ac):Bool:=bo (motive:=fun _=>Bool) (zd [] s) (fun c r _=>bo (motive:=fun _=>Bool) (FQ c s) (fun d t _=>zd (c::d::t) s) r) p
noncomputable def CK:List Nat->List Nat->Bool
 |_,[]=>false
 |[],_::_=>true
 |a::r,b::t=>bt a b||(aj a b&&CK r t)
noncomputable def KB(a b:Int):Bool:=match a,b with
 | .ofNat a,.ofNat b=>aj a b
 | .negSucc a,.negSucc b=>aj a b
 |_,_=>false
noncomputable def CJ(a b:Int):Bool:=match a,b with
 | .ofNat a,.ofNat b=>bt a b
 | .negSucc a,.negSucc b=>bt b a
 | .negSucc _,.ofNat _=>true
 | .ofNat _,.negSucc _=>false
noncomputable def US(b:AV):Option Bool:=match b with
 | .none=>some true
 | .int _=>some false
 | .str _=>some false
 | .tup _=>some false
 |_=>none
noncomputable def ZF(x:Int)(b:AV):Option Bool:=match b with
 | .int y=>some (KB x y)
 | .none=>some false
 |_=>none
noncomputable def ZG(x:ac)(b:AV):Option Bool:=match b with
 | .str y=>some (dg x y)
 | .none=>some false
 |_=>none
noncomputable def Ps(x:Bool)(b:AV):Option Bool:=match b with
 | .bool y=>some (x==y)
 |_=>none
noncomputable def IH(x:List UInt8)(b:AV):Option Bool:=match b with
 | .bytes y=>some (x==y)
 |_=>none
noncomputable def LN(a b:AV):Option Bool:=match a with
 | .none=>US b
 | .bool x=>Ps x b
 | .int x=>ZF x b
 | .str x=>ZG x b
 | .tup _=>sZ b (some false)
 | .bytes x=>IH x b
 |_=>none
noncomputable def CC(a:AV):Bool:=match a with
 | .tup _=>true
 |_=>false
noncomputable def KC(f:AV->AV->Option Bool):List AV->List AV->Option Bool
 |[],[]=>some true
 |a::r,b::t=>ob (f a b) fun x=>ob (KC f r t) fun y=>some (x&&y)
 |_,_=>some false
noncomputable def wu:Nat->AV->AV->Option Bool
 |0,a,b=>LN a b
 |n+1,a,b=>bif CC a&&CC b then GY a fun l=>GY b fun m=>KC (wu n) l m else LN a b
noncomputable def dv(n:Nat):Bool:=cT n 4000000
noncomputable def Pz(l:aa):Option Bool:=bif dv l.length then some (!l.isEmpty)else none
noncomputable def qM(σ:AS):AV->Option Bool
 | .none=>some false
 | .bool b=>some b
 | .int i=>some (!KB i 0)
 | .str s=>bif dv s.length then some (!s.isEmpty)else none
 | .tup l=>Pz l
 | .lst l=>Pz l
 | .ref a=>np σ a Pz
 |_=>none
noncomputable def nC(σ:AS):AV->Option (List AV)
 | .tup l=>some l
 | .lst l=>some l
 | .ref a=>np σ a some
 |_=>none
noncomputable def ahJ(σ:AS):AV->Option (List AV×AS)
 | .tup l=>some (l,σ)
 | .lst l=>some (l,σ)
 | .str s=>some (s.map fun c=>.str [c],σ)
 | .dct ks _=>some (ks.map .str,σ)
 | .bytes b=>some (b.map fun x=>.int (am x.toNat),σ)
 | .rng a b=>some ((cu (b-a)).map fun i=>.int (am (a+i)),σ)
 | .ref a=>np σ a fun l=>some (l,σ.drop a)
 |_=>none
noncomputable def fy(σ:AS)(a:AV):Option (List AV×AS):=bw (ahJ σ a) fun l ai=>bif dv l.length then some (l,ai)else none
noncomputable def my(i:Int):Bool:=cT i.natAbs (2^4000)
noncomputable def apA(a b:AV):Option AV:=match a with
 | .int i=>eP b fun j=>some (.int (i+j))
 | .str s=>d8 b fun t=>bif dv (eR s+eR t)then some (.str (afm s t))else none
 | .tup l=>GY b fun m=>bif dv (l.length+m.length)&& !l.isEmpty&& !m.isEmpty then some (.tup (l++m))else none
 |_=>none
noncomputable def apT(a b:AV):Option AV:=match a with
 | .int i=>eP b fun j=>bif my i&&my j then some (.int (i*j))else none
 | .str _=>eP b fun j=>bif CJ (-1000) j&&CJ j 1 then some (.str [])else none
 |_=>none
noncomputable def amU(op:iy)(a b:AV):Option AV:=match op with
 | .Add=>apA a b
 | .Sub=>eP a fun i=>eP b fun j=>some (.int (i-j))
 | .Mult=>apT a b
 | .Mod=>eP a fun i=>eP b fun j=>bif KB j 0 then none else some (.int (i.fmod j))
 | .FloorDiv=>eP a fun i=>eP b fun j=>bif KB j 0|| !my j then none else some (.int (i.fdiv j))
 | .Pow=>eP a fun i=>eP b fun j=>bif my i&& !CJ j 0&&CJ j 1000 then some (.int (i^j.toNat))else none
 |_=>none
noncomputable def iL(σ:AS):AV->Option (List AV)
 | .lst l=>some l
 | .ref a=>np σ a some
 |_=>none
noncomputable def apC(op:iy)(a b:AV)(σ:AS):Option (AV×AS):=match op with
 | .Add=>ob (iL σ a) fun l=>ob (iL σ b) fun m=>bif dv (l.length+m.length)then some (.ref σ.next,σ.alloc (.lst (l++m)))else none
 | .Mult=>ic a fun x=>nR b fun j=>bif bt j 100 then np σ x (fun l=>bif cT l.length 1000 then some (.ref σ.next,σ.alloc (.lst ((bH j l).flatten)))else none)else none
 |_=>none
noncomputable def bU(op:iy)(a b:AV)(σ:AS):Option (AV×AS):=od (amU op a b) (fun c=>some (c,σ)) (apC op a b σ)
noncomputable def wv(x:ac)(l:List (List Nat)):Bool:=bo (motive:=fun _=>Bool) false (fun a _ ih=>Bool.rec (motive:=fun _=>Bool) ih true (dg a x)) l
theorem WL(x):wv x []=false:=rfl
theorem WK(x a r):wv x (a::r)=(dg a x||wv x r):=Pd _ _
noncomputable def WJ(x:Int):List Int->Bool
 |[]=>false
 |a::r=>KB a x||WJ x r
noncomputable def nK:List AV->Option (List (List Nat))
 |[]=>some []
 |a::r=>d8 a fun s=>ob (nK r) fun l=>some (s::l)
noncomputable def NH:List AV->Option (List Int)
 |[]=>some []
 |a::r=>eP a fun s=>ob (NH r) fun l=>some (s::l)
noncomputable def inL(x:AV)(l:aa):Option Bool:=match x with
 | .str p=>ob (nK l) fun ss=>some (wv p ss)
 | .int i=>ob (NH l) fun is=>some (WJ i is)
 |_=>none
noncomputable def inA(σ:AS)(x c:AV):Option Bool:=match c with
 | .str s=>d8 x fun p=>some (PG p s)
 | .dct ks _=>d8 x fun p=>some (wv p ks)
 | .tup l=>inL x l
 | .lst l=>inL x l
 | .ref a=>ob (σ.get a) fun c=>match c with
  | .lst l=>inL x l
  | .dct ks _=>d8 x fun p=>some (wv p ks)
  |_=>none
 |_=>none
noncomputable def Th(o:Option Bool):Option Bool:=ob o fun b=>some !b
noncomputable def Ph(σ:AS):AV->Option (List (List Nat))
 | .dct ks _=>some ks
 | .ref a=>SA σ a fun ks _=>some ks
 |_=>none
noncomputable def rl{α β:Type}(l:List α)(m:List β):Bool:=aj (eR l) (eR m)
noncomputable def eqA(σ:AS)(a b:AV):Option Bool:=od (wu 16 a b) some (od (iL σ a) (fun l=>ob (iL σ b) fun m=>bif rl l m then KC (wu 16) l m else some false)
 (ob (Ph σ a) fun ks=>ob (Ph σ b) fun ks'=>bif ks'.isEmpty then some ks.isEmpty else none))
noncomputable def lK:AV->Option Bool
 | .none=>some true
 | .opq=>none
 | .unb=>none
 | .glob _=>none
 |_=>some false
noncomputable def leA(a b:AV):Option Bool:=match a with
 | .int i=>eP b fun j=>some (!CJ j i)
 | .str s=>d8 b fun t=>some (!CK t s)
 |_=>none
noncomputable def bV(op:gR)(a b:AV)(σ:AS):Option Bool:=match op with
 | .Eq=>eqA σ a b
 | .NotEq=>Th (eqA σ a b)
 | .Lt=>eP a fun i=>eP b fun j=>some (CJ i j)
 | .LtE=>leA a b
 | .Gt=>eP a fun i=>eP b fun j=>some (CJ j i)
 | .GtE=>eP a fun i=>eP b fun j=>some (!CJ i j)
 | .Is=>sZ b (lK a)
 | .IsNot=>sZ b (Th (lK a))
 | .In=>inA σ a b
 | .NotIn=>Th (inA σ a b)
noncomputable def xG(k:Nat)(ks:ac)(vs:aa):Option AV:=bo (motive:=fun _=>List AV->Option AV) (fun _=>none) (fun x _ ih vs=>bo (motive:=fun _=>Option AV) none (fun v t _=>Bool.rec (motive:=fun _=>Option AV) (ih t) (some v) (aj k x)) vs) ks vs
theorem Xi(k x ks v vs):xG k (x::ks) (v::vs)=bif aj k x then some v else xG k ks vs:=bR _ _ _
noncomputable def tc(a:AV):Option AV:=match a with
 | .unb=>none
 | .opq=>none
 | .glob _=>none
 |a=>some a
noncomputable def NF(c k:Nat)(ks:ac)(vs:aa):Option AV:=bif Sv c k then none else xG k ks vs
noncomputable def aA(k:Nat)(a:AV)(σ:AS):Option AV:=match a with
 | .frz c ks vs=>ob (NF c k ks vs) fun v=>tc v
 | .ref x=>CA σ x fun c ks vs=>ob (NF c k ks vs) fun v=>tc v
 |_=>none
noncomputable def Qd{α:Type}(l:List α):Nat->Option α:=bo (motive:=fun _=>Nat->Option α) (fun _=>none) (fun a _ ih i=>gX (motive:=fun _=>Option α) (some a) (fun j _=>ih j) i) l
noncomputable def XS{α:Type}(l:List α)(i:Int):Option α:=match i with
 | .ofNat n=>bif dv n then Qd l n else none
 | .negSucc n=>bif dv n&&bt n l.length then Qd l (l.length-1-n)else none
noncomputable def NB(k:ac):List (List Nat)->List AV->Option AV
 |x::ks,v::vs=>bif dg x k then some v else NB k ks vs
 |_,_=>none
noncomputable def IE(k:Int):List Int->List AV->Option AV
 |x::ks,v::vs=>bif KB x k then some v else IE k ks vs
 |_,_=>none
noncomputable def qF(k:ac)(v:AV):List (List Nat)->List AV->List (List Nat)×List AV
 |x::ks,w::vs=>bif dg x k then(x::ks,v::vs)else let r:=qF k v ks vs;(x::r.1,w::r.2)
 |_,_=>([k],[v])
noncomputable def af1(σ:AS):AV->Option (List (List Nat)×List AV)
 | .dct ks vs=>some (ks,vs)
 | .ref x=>SA σ x fun ks vs=>some (ks,vs)
 |_=>none
noncomputable def abm{β:Type}(a:AV)(f:List Int->List AV->Option β):Option β:=match a with
 | .dcti ks vs=>f ks vs
 |_=>none
noncomputable def abZ(a i:AV)(σ:AS):Option AV:=match i with
 | .int j=>od (d8 a some) (fun s=>ob (XS s j) fun c=>some (.str [c])) (od (abm a fun ks vs=>some (IE j ks vs)) (fun r=>r) (ob (nC σ a) fun l=>XS l j))
 | .str k=>bw (af1 σ a) fun ks vs=>NB k ks vs
 |_=>none
noncomputable def ki(n:Nat)(d:Nat):AV->Option Nat
 | .none=>some d
 | .int (.ofNat i)=>some (DN i n)
 | .int (.negSucc i)=>some (n-(i+1))
 |_=>none
noncomputable def Kz{α:Type}(l:List α)(a b:Nat):List α:=(l.drop a).take (b-a)
noncomputable def Pe{α:Type}(l:List α)(a b:Nat):List α:=akr (b-a) (ZC a l)
theorem Pf{α:Type}(l:List α)(a b:Nat):Pe l a b=Kz l a b:=by rw[Pe,Kz,aeY,SD]
noncomputable def ani(a lo hi:AV)(σ:AS):Option (AV×AS):=od (d8 a some) (fun s=>bif dv (eR s)then ob (ki (eR s) 0 lo) (fun x=>ob (ki (eR s) (eR s) hi) fun y=>some (.str (Pe s x y),σ))else none)
 (ob (iL σ a) fun l=>bif dv (eR l)then ob (ki (eR l) 0 lo) (fun x=>ob (ki (eR l) (eR l) hi) fun y=>some (.ref σ.next,σ.alloc (.lst (Pe l x y))))else none)
noncomputable def pr{α β γ:Type}(p:α×β)(f:α->β->γ):γ:=N3 (motive:=fun _=>γ) f p
noncomputable def pR(f:AV->AS->AV×AS):List AV->AS->List AV×AS
 |[],σ=>([],σ)
 |a::r,σ=>pr (f a σ) fun a' ai=>pr (pR f r ai) fun r' fR=>(a'::r',fR)
noncomputable def Td(sel:Nat->Bool)(f:AV->AS->AV×AS):List Nat->List AV->AS->List AV×AS
 |k::ks,v::vs,σ=>pr (bif sel k then f v σ else(v,σ)) fun v' ai=>pr (Td sel f ks vs ai) fun vs' fR=>(v'::vs',fR)
 |[],vs,σ=>(vs,σ)
 |_::_,[],σ=>([],σ)
noncomputable def SL(f:AV->AS->AV×AS)(sel:Nat->Bool)(x:Nat)(σ:AS):bF->AV×AS
 | .lst l=>pr (pR f l (σ.drop x)) fun l' ai=>(.lst l',ai)
 | .inst c ks vs=>pr (Td sel f ks vs (σ.drop x)) fun vs' ai=>(.frz c ks vs',ai)
 | .dct ks vs=>pr (pR f vs (σ.drop x)) fun vs' ai=>(.dct ks vs',ai)
 | .orc _ _=>(.opq,σ)
noncomputable def ub(sel:Nat->Bool):Nat->AV->AS->AV×AS
 |0,a,σ=>(a,σ)
 |n+1,a,σ=>match a with
  | .ref x=>bj (motive:=fun _=>AV×AS) (.opq,σ) (fun c=>SL (ub sel n) sel x σ c) (σ.get x)
  |a=>(a,σ)
noncomputable def jF:Nat->AV->AS->AV×AS:=ub fun _=>true
abbrev gM:=AV->AS->Option aW
inductive T where
 |nop
 |cst(a:AV)
 |var(i:Nat)
 |glb(g:Nat)
 |bin(op:iy)(a b:T)
 |neg(a:T)
 |not(a:T)
 |and(a b:T)
 |or(a b:T)
 |ife(c a b:T)
 |cmp(op:gR)(a b:T)
 |cmp2(op op':gR)(a b c:T)
 |atr(k:Nat)(a:T)
 |idx(a i:T)
 |slc(a lo hi:T)
 |lst(l:T)
 |tup(l:T)
 |dic
 |dicI(k1 k2:Int)(a b:List Nat)
 |rep(c:Nat)(a:T)
 |call(f:Nat)(l:T)
 |meth(n:Nat)(o l:T)
 |nil
 |cons(a l:T)
 |comp(xs:List Nat)(it:T)(c:T)(elt:T)
 |comp2(x:Nat)(it:T)(y:Nat)(it2:T)(elt:T)
noncomputable def vD:List Nat->List AV->Fm->Option Fm
 |[],[],fr=>some fr
 |x::xs,a::l,fr=>vD xs l (put fr x a)
 |_,_,_=>none
noncomputable def mj(xs:ac)(a:AV)(fr:Fm)(_:AS):Option Fm:=match xs with
 |[x]=>some (put fr x a)
 |xs=>GY a fun l=>vD xs l fr
noncomputable def eB(xs:ac)(test:BM)(elt:EM):List AV->Fm->AS->Option (List AV×AS)
 |[],_,σ=>some ([],σ)
 |a::r,fr,σ=>ob (mj xs a fr σ) fun fr'=>bw (test fr' σ) fun t ai=>bif t then bw (elt fr' ai) (fun b fR=>bw (eB xs test elt r fr fR) fun l cJ=>some (b::l,cJ))else eB xs test elt r fr ai
noncomputable def ju(x:Nat)(it2:EM)(y:Nat)(elt:EM):List AV->Fm->AS->Option (List AV×AS)
 |[],_,σ=>some ([],σ)
 |a::r,fr,σ=>bw (it2 (put fr x a) σ) fun s ai=>bw (fy ai s) fun l ay=>bw (eB [y] (fun _ σ=>some (true,σ)) elt l (put fr x a) ay) fun bs fR=>bw (ju x it2 y elt r fr fR) fun cs cJ=>some (bs++cs,cJ)
noncomputable def jd(m:EM):BM:=fun fr σ=>bw (m fr σ) fun a ai=>ob (qM ai a) fun b=>some (b,ai)
noncomputable def un(f:AV->AS->Option AV)(m:EM):EM:=fun fr σ=>bw (m fr σ) fun a ai=>ob (f a ai) fun b=>some (b,ai)
noncomputable def bi(f:AV->AV->AS->Option (AV×AS))(m n:EM):EM:=fun fr σ=>bw (m fr σ) fun a ai=>bw (n fr ai) fun b fR=>f a b fR
noncomputable def fi(f:AV->AV->AS->Option Bool)(m n:EM):BM:=fun fr σ=>bw (m fr σ) fun a ai=>bw (n fr ai) fun b fR=>ob (f a b fR) fun r=>some (r,fR)
noncomputable def ah4(a:AV)(_:AS):Option AV:=eP a fun i=>some (.int (-i))
noncomputable def Hv(c:Nat):List Nat->List Nat
 |[]=>[]
 |a::r=>bif aj a c then Hv c r else a::Hv c r
noncomputable def aja(c:Nat)(a:AV)(_:AS):Option AV:=d8 a fun s=>bif dv s.length then some (.str (Hv c s))else none
noncomputable def one:EM->LM:=fun m fr σ=>bw (m fr σ) fun a ai=>some ([a],ai)
noncomputable def rO(m:BM):EM:=fun fr σ=>bw (m fr σ) fun b ai=>some (.bool b,ai)
noncomputable def o8(b:BM):BM:=fun fr σ=>bw (b fr σ) fun b ai=>some (!b,ai)
noncomputable def amS(a b:BM):BM:=fun fr σ=>bw (a fr σ) fun t ai=>bif t then b fr ai else some (false,ai)
noncomputable def RC(a b:BM):BM:=fun fr σ=>bw (a fr σ) fun t ai=>bif t then some (true,ai)else b fr ai
noncomputable def SE(a b:EM):EM:=fun fr σ=>bw (a fr σ) fun v ai=>ob (qM ai v) fun t=>bif t then b fr ai else some (v,ai)
noncomputable def eOr(a b:EM):EM:=fun fr σ=>bw (a fr σ) fun v ai=>ob (qM ai v) fun t=>bif t then some (v,ai)else b fr ai
noncomputable def s7(c:BM)(a b:EM):EM:=fun fr σ=>bw (c fr σ) fun t ai=>bif t then a fr ai else b fr ai
noncomputable def bQ(a:AV):Bool:=match a with
 | .unb=>true
 |_=>false
noncomputable def al(i:Nat):EM:=fun fr σ=>bif bQ (gt fr i)then none else some (gt fr i,σ)
noncomputable def a7(a:AV):EM:=fun _ σ=>some (a,σ)
noncomputable def O3(op op':gR)(a b c:EM):BM:=fun fr σ=>bw (a fr σ) fun x ai=>bw (b fr ai) fun y aM=>ob (bV op x y aM) fun t=>bif t then bw (c fr aM) (fun z cJ=>ob (bV op' y z cJ) fun r=>some (r,cJ))else some (false,aM)
noncomputable def fP(x y:AV)(σ:AS):Option (AV×AS):=ob (abZ x y σ) fun z=>some (z,σ)
noncomputable def SH(a lo hi:EM):EM:=fun fr σ=>bw (a fr σ) fun x ai=>bw (lo fr ai) fun y aM=>bw (hi fr aM) fun z cJ=>ani x y z cJ
noncomputable def bq(f:aW)(l:LM):EM:=fun fr σ=>bw (l fr σ) fun vs ai=>f vs ai
noncomputable def cF(D:gM)(o:EM)(l:LM):EM:=fun fr σ=>bw (o fr σ) fun x ai=>ob (D x ai) fun F=>bw (l fr ai) fun vs aM=>F (x::vs) aM
noncomputable def cX:aW:=fun vs σ=>bif dv vs.length then some (.ref σ.next,σ.alloc (.lst vs))else none
noncomputable def fX:aW:=fun vs σ=>bif dv vs.length then some (.tup vs,σ)else none
noncomputable def Hl(ks:List Int):aW:=fun vs σ=>some (.dcti ks vs,σ)
noncomputable def FH:EM:=fun _ σ=>some (.ref σ.next,σ.alloc (.dct [] []))
noncomputable def aw(a:EM)(l:LM):LM:=fun fr σ=>bw (a fr σ) fun v ai=>bw (l fr ai) fun vs aM=>some (v::vs,aM)
noncomputable def aJ:LM:=fun _ σ=>some ([],σ)
noncomputable def eJ(xs:ac)(it:EM)(c:BM)(elt:EM):EM:=fun fr σ=>bw (it fr σ) fun x ai=>bw (fy ai x) fun l ay=>bw (eB xs c elt l fr ay) fun vs aM=>bif dv vs.length then some (.ref aM.next,aM.alloc (.lst vs))else none
noncomputable def qG(x:Nat)(it:EM)(y:Nat)(it2 elt:EM):EM:=fun fr σ=>bw (it fr σ) fun a ai=>bw (fy ai a) fun l ay=>bw (ju x it2 y elt l (put fr y .unb) ay) fun vs aM=>bif dv vs.length then some (.ref aM.next,aM.alloc (.lst vs))else none
structure D where
 e:EM
 b:BM
 l:LM
noncomputable def D.ofE(e:EM):D:=⟨e,jd e,fun _ _=>none⟩
noncomputable def D.ofBool(b:BM):D:=⟨rO b,b,fun _ _=>none⟩
noncomputable def D.bad:D:=⟨fun _ _=>none,fun _ _=>none,fun _ _=>none⟩
structure cC where
 glb:List (Str×AV)
 fns:List (Str×aW)
 mts:List (Str×gM)
noncomputable def pS{α:Type}:List (Str×α)->Nat->Option (Str×α)
 |[],_=>none
 |p::_,0=>some p
 |_::r,i+1=>pS r i
noncomputable def acs(l:List (Str×AV))(i:Nat):AV:=match pS l i with
 |some (_,a)=>a
 |none=>.unb
noncomputable def act(l:List (Str×aW))(i:Nat):aW:=match pS l i with
 |some (_,a)=>a
 |none=>fun _ _=>none
noncomputable def acu(l:List (Str×gM))(i:Nat):gM:=match pS l i with
 |some (_,a)=>a
 |none=>fun _ _=>none
noncomputable def gN(Γ:cC):T->D
 | .nop=>⟨a7 .none,fun _ σ=>some (true,σ),aJ⟩
 | .cst a=>.ofE (a7 a)
 | .var i=>.ofE (al i)
 | .glb g=>.ofE (a7 (acs Γ.glb g))
 | .bin op a b=>.ofE (bi (bU op) (gN Γ a).e (gN Γ b).e)
 | .neg a=>.ofE (un ah4 (gN Γ a).e)
 | .not a=>⟨rO (o8 (jd (gN Γ a).e)),o8 (gN Γ a).b,fun _ _=>none⟩
 | .and a b=>⟨SE (gN Γ a).e (gN Γ b).e,amS (gN Γ a).b (gN Γ b).b,fun _ _=>none⟩
 | .or a b=>⟨eOr (gN Γ a).e (gN Γ b).e,RC (gN Γ a).b (gN Γ b).b,fun _ _=>none⟩
 | .ife c a b=>.ofE (s7 (gN Γ c).b (gN Γ a).e (gN Γ b).e)
 | .cmp op a b=>.ofBool (fi (bV op) (gN Γ a).e (gN Γ b).e)
 | .cmp2 op op' a b c=>.ofBool (O3 op op' (gN Γ a).e (gN Γ b).e (gN Γ c).e)
 | .atr k a=>.ofE (un (aA k) (gN Γ a).e)
 | .idx a i=>.ofE (bi fP (gN Γ a).e (gN Γ i).e)
 | .slc a lo hi=>.ofE (SH (gN Γ a).e (gN Γ lo).e (gN Γ hi).e)
 | .lst l=>.ofE (bq cX (gN Γ l).l)
 | .tup l=>.ofE (bq fX (gN Γ l).l)
 | .dic=>.ofE FH
 | .dicI k1 k2 a b=>.ofE (bq (Hl [k1,k2]) (aw (a7 (.str a)) (aw (a7 (.str b)) aJ)))
 | .rep c a=>.ofE (un (aja c) (gN Γ a).e)
 | .call f l=>.ofE (bq (act Γ.fns f) (gN Γ l).l)
 | .meth n o l=>.ofE (cF (acu Γ.mts n) (gN Γ o).e (gN Γ l).l)
 | .comp xs it c elt=>.ofE (eJ xs (gN Γ it).e (gN Γ c).b (gN Γ elt).e)
 | .comp2 x it y it2 elt=>.ofE (qG x (gN Γ it).e y (gN Γ it2).e (gN Γ elt).e)
 | .nil=>⟨fun _ _=>none,fun _ _=>none,aJ⟩
 | .cons a l=>⟨fun _ _=>none,fun _ _=>none,aw (gN Γ a).e (gN Γ l).l⟩
termination_by structural t=>t
inductive TS where
 |bad
 |expr(e:T)
 |asg(i:Nat)(e:T)
 |asgT(is:List Nat)(e:T)
 |asgA(k:Nat)(o e:T)
 |asgI(o i e:T)
 |ifs(c:T)(a b:TS)
 |whl(c:T)(b:TS)
 |for_(xs:List Nat)(it:T)(b:TS)
 |ret(e:T)
 |cont
 |frz(i:Nat)
 |nil
 |cons(s r:TS)
noncomputable def Mc(k:Nat)(v:AV)(ks:ac)(vs:aa):List Nat×List AV:=bo (motive:=fun _=>List AV->List Nat×List AV) (fun _=>([k],[v])) (fun x ks ih vs=>bo (motive:=fun _=>List Nat×List AV) ([k],[v]) (fun w vs _=>cond (aj k x) (x::ks,v::vs) (N3 (motive:=fun _=>List Nat×List AV) (fun ks' vs'=>(x::ks',w::vs')) (ih vs))) vs) ks vs
theorem ajo(k v x ks w vs):Mc k v (x::ks) (w::vs)=bif aj k x then(x::ks,v::vs)else match Mc k v ks vs with
  |(ks',vs')=>(x::ks',w::vs'):=rfl
noncomputable def oq(k:Nat)(v o:AV)(σ:AS):Option AS:=ic o fun x=>CA σ x fun c ks vs=>pr (Mc k v ks vs) fun ks' vs'=>bif cT ks'.length 1000&& !Sv c k then some (σ.set x (.inst c ks' vs'))else none
noncomputable def NP:List AV->Nat->AV->List AV
 |[],_,_=>[]
 |_::r,0,v=>v::r
 |a::r,i+1,v=>a::NP r i v
noncomputable def KX(v o i:AV)(σ:AS):Option AS:=ic o fun x=>ob (σ.get x) fun c=>match c with
 | .lst l=>nR i fun n=>bif dv n&&bt n l.length then some (σ.set x (.lst (NP l n v)))else none
 | .dct ks vs=>d8 i fun k=>pr (qF k v ks vs) fun ks' vs'=>bif dv ks.length then some (σ.set x (.dct ks' vs'))else none
 |_=>none
noncomputable def gP(k:SM)(r:j5):Option j5:=match r with
 | .next fr' ai=>k fr' ai
 |r=>some r
noncomputable def KL(k:SM)(r:j5):Option j5:=match r with
 | .next fr' ai=>k fr' ai
 | .cont fr' ai=>k fr' ai
 | .brk fr' ai=>some (.next fr' ai)
 | .ret a ai=>some (.ret a ai)
noncomputable def aV(a b:SM):SM:=fun fr σ=>ob (a fr σ) (gP b)
noncomputable def bk:SM:=fun fr σ=>some (.next fr σ)
noncomputable def r5(c:BM)(a b:SM):SM:=fun fr σ=>bw (c fr σ) fun t ai=>bif t then a fr ai else b fr ai
noncomputable def kX(e:EM):SM:=fun fr σ=>bw (e fr σ) fun _ ai=>some (.next fr ai)
noncomputable def cO(is:ac)(e:EM):SM:=fun fr σ=>bw (e fr σ) fun v ai=>ob (mj is v fr ai) fun fr'=>some (.next fr' ai)
noncomputable def lR(k:Nat)(o e:EM):SM:=fun fr σ=>bw (e fr σ) fun v ai=>bw (o fr ai) fun x aM=>ob (oq k v x aM) fun cJ=>some (.next fr cJ)
noncomputable def Qq(o i e:EM):SM:=fun fr σ=>bw (e fr σ) fun v ai=>bw (o fr ai) fun x aM=>bw (i fr aM) fun y cJ=>ob (KX v x y cJ) fun uU=>some (.next fr uU)
noncomputable def eD(e:EM):SM:=fun fr σ=>bw (e fr σ) fun v ai=>some (.ret v ai)
noncomputable def Tt(c:BM)(b:SM):Nat->SM
 |0=>fun _ _=>none
 |n+1=>fun fr σ=>bw (c fr σ) fun t ai=>bif t then ob (b fr ai) (KL (Tt c b n))else some (.next fr ai)
noncomputable def pD(xs:ac)(b:SM):List AV->SM
 |[]=>bk
 |a::r=>fun fr σ=>ob (mj xs a fr σ) fun gO=>ob (b gO σ) (KL (pD xs b r))
noncomputable def gv(xs:ac)(it:EM)(b:SM):SM:=fun fr σ=>bw (it fr σ) fun x ai=>bw (fy ai x) fun l ay=>pD xs b l fr ay
noncomputable def Qr(i:Nat):SM:=fun fr σ=>pr (jF 14 (gt fr i) σ) fun a ai=>some (.next (put fr i a) ai)
noncomputable def b5(Γ:cC):TS->SM
 | .bad=>fun _ _=>none
 | .expr e=>kX (gN Γ e).e
 | .asg i e=>cO [i] (gN Γ e).e
 | .asgT is e=>cO is (gN Γ e).e
 | .asgA k o e=>lR k (gN Γ o).e (gN Γ e).e
 | .asgI o i e=>Qq (gN Γ o).e (gN Γ i).e (gN Γ e).e
 | .ifs c a b=>r5 (gN Γ c).b (b5 Γ a) (b5 Γ b)
 | .whl c b=>Tt (gN Γ c).b (b5 Γ b) 2000
 | .for_ xs it b=>gv xs (gN Γ it).e (b5 Γ b)
 | .ret e=>eD (gN Γ e).e
 | .cont=>fun fr σ=>some (.cont fr σ)
 | .frz i=>Qr i
 | .nil=>bk
 | .cons a b=>aV (b5 Γ a) (b5 Γ b)
termination_by structural t=>t
noncomputable def ik(r:j5):Option (AV×AS):=match r with
 | .next _ ai=>some (.none,ai)
 | .ret a ai=>some (a,ai)
 |_=>none
noncomputable def bg(n:Nat)(dfl:aa)(b:SM):aW:=fun args σ=>bif cT (eR args) n&&cT n (eR args+eR dfl)then ob (b (afm args (ZC (eR args+eR dfl-n) dfl)) σ) ik else none
noncomputable def ui(c:Nat)(init:aW):aW:=fun args σ=>bw (init (.ref σ.next::args) (σ.alloc (.inst c [] []))) fun a ai=>sZ a (some (.ref σ.next,ai))
noncomputable def FK(n:Nat)(F:aW):aW:=fun args σ=>bw (F args σ) fun a ai=>some (jF n a ai)
noncomputable def ZM(n:Nat)(F:aW):aW:=fun args σ=>pr (pR (jF n) args σ) fun args' ai=>F args' ai
noncomputable def dm(c:Nat):List Nat->List Nat->List (List Nat)
 |acc,[]=>[acc.reverse]
 |acc,a::r=>bif aj a c then acc.reverse::dm c [] r else dm c (a::acc) r
noncomputable def lm(sep:ac):List (List Nat)->List Nat
 |[]=>[]
 |[a]=>a
 |a::r=>a++sep++lm sep r
noncomputable def Ej(p:ac):Nat->List Nat->Option Nat
 |i,[]=>bif jW p []then some i else none
 |i,a::s=>bif jW p (a::s)then some i else Ej p (i+1) s
noncomputable def Pk(n:Nat):List Nat:=bif bt n 10 then[48+n]else bif bt n 100 then[48+n / 10,48+n%10]else[48+n / 100,48+n / 10%10,48+n%10]
noncomputable def lN:Nat->List Nat->Option Nat
 |n,[]=>some n
 |n,c::r=>bif cT 48 c&&cT c 57 then lN (n*10+(c-48)) r else none
noncomputable def KH(x:ac):List (List Nat)->List (List Nat)
 |[]=>[x]
 |y::r=>bif CK x y then x::y::r else y::KH x r
noncomputable def jM:List (List Nat)->List (List Nat)
 |[]=>[]
 |x::r=>KH x (jM r)
noncomputable def aao:List AV->Option (List UInt8)
 |[]=>some []
 |a::r=>nR a fun n=>bif bt n 256 then ob (aao r) (fun l=>some (Rb n::l))else none
noncomputable def ab3(σ:AS)(a:AV):Option (List (List Nat)):=match a with
 | .dct ks _=>some ks
 |a=>ob (nC σ a) nK
noncomputable def q7{β:Type}(l:aa)(f:AV->Option β):Option β:=bo (motive:=fun _=>Option β) none (fun a r _=>bo (motive:=fun _=>Option β) (f a) (fun _ _ _=>none) r) l
noncomputable def vC{β:Type}(l:aa)(f:AV->AV->Option β):Option β:=bo (motive:=fun _=>Option β) none (fun a r _=>q7 r (f a)) l
noncomputable def WN{β:Type}(l:aa)(f:AV->AV->AV->Option β):Option β:=bo (motive:=fun _=>Option β) none (fun a r _=>vC r (f a)) l
noncomputable def UC{β:Type}(a:AV)(f:Nat->Option β):Option β:=d8 a fun s=>arg1' s f
where arg1' {β:Type} (l:List Nat) (f:Nat->Option β):Option β:=bo (motive:=fun _=>Option β) none (fun a r _=>bo (motive:=fun _=>Option β) (f a) (fun _ _ _=>none) r) l
noncomputable def Nz{β:Type}(a:AV)(f:Nat->List Nat->Option β):Option β:=d8 a fun s=>bo (motive:=fun _=>Option β) none (fun a r _=>f a r) s
noncomputable def am3(σ:AS)(a:AV):Option (AV×AS):=match a with
 | .str s=>bif dv (eR s)then some (.int (am (eR s)),σ)else none
 |a=>ob (nC σ a) fun l=>bif dv (eR l)then some (.int (am (eR l)),σ)else none
noncomputable def eO:aW:=fun args σ=>q7 args (am3 σ)
noncomputable def Sa:aW:=fun args σ=>q7 args fun a=>nR a fun n=>bif bt n 100000 then some (.rng 0 n,σ)else none
noncomputable def Sb:aW:=fun args σ=>vC args fun a b=>nR a fun n=>nR b fun m=>bif bt n 100000&&bt m 100000 then some (.rng n m,σ)else none
noncomputable def lB:aW:=fun args σ=>bif aj (eR args) 1 then Sa args σ else Sb args σ
noncomputable def Uf:aW:=fun args σ=>q7 args fun a=>nR a fun n=>bif bt n 1000 then some (.str (Pk n),σ)else none
noncomputable def aqu(σ:AS)(a:AV):Option (AV×AS):=bif CC a then some (a,σ)else ob (iL σ a) fun l=>bif dv l.length then some (.tup l,σ)else none
noncomputable def eZ:aW:=fun args σ=>q7 args (aqu σ)
noncomputable def abf:aW:=fun args σ=>q7 args fun a=>ob (nC σ a) fun l=>bif dv l.length then some (.ref σ.next,σ.alloc (.lst l))else none
noncomputable def YT:aW:=fun args σ=>q7 args fun a=>eP a fun i=>some (.int (am i.natAbs),σ)
noncomputable def YU:aW:=fun args σ=>q7 args fun a=>nR a fun n=>bif bt n 0xD800 then some (.str [n],σ)else none
noncomputable def YV:aW:=fun args σ=>q7 args fun a=>UC a fun c=>some (.int (am c),σ)
noncomputable def p9:aW:=fun args σ=>q7 args fun a=>ob (iL σ a) fun l=>ob (nK l) fun ss=>bif bt ss.length 64 then some (.ref σ.next,σ.alloc (.lst ((jM ss).map .str)))else none
noncomputable def tO:aW:=fun args σ=>q7 args fun a=>Nz a fun c r=>bif bt r.length 18 then ob (lN 0 (c::r)) (fun n=>some (.int (am n),σ))else none
noncomputable def V9:aW:=fun args σ=>q7 args fun a=>ob (iL σ a) fun l=>ob (aao l) fun b=>bif dv b.length then some (.bytes b,σ)else none
noncomputable def Ue:aW:=fun args σ=>vC args fun a b=>eP a fun i=>eP b fun j=>some (.int (bif CJ j i then j else i),σ)
noncomputable def kC:aW:=fun args σ=>vC args fun a b=>d8 a fun s=>UC b fun c=>bif dv s.length then some (.ref σ.next,σ.alloc (.lst ((dm c [] s).map .str)))else none
noncomputable def vk:aW:=fun args σ=>vC args fun a b=>d8 a fun s=>ob (ab3 σ b) fun l=>bif dv (eR (lm s l)+eR l*eR s+eR l)then some (.str (lm s l),σ)else none
noncomputable def tP:aW:=fun args σ=>WN args fun a b d=>d8 a fun s=>Nz b fun c p=>d8 d fun _=>bif PG (c::p) s then none else some (.str s,σ)
noncomputable def Ib:aW:=fun args σ=>vC args fun a b=>d8 a fun s=>Nz b fun c p=>ob (Ej (c::p) 0 s) fun i=>some (.int (am i),σ)
noncomputable def gk:aW:=fun args σ=>vC args fun a v=>ic a fun x=>np σ x fun l=>bif dv l.length then some (.none,σ.set x (.lst (l++[v])))else none
noncomputable def agZ(σ:AS)(x:Nat)(b:AV):Option (List AV):=match b with
 | .ref c=>bif aj x c then none else np σ c some
 | .lst m=>some m
 |_=>none
noncomputable def fU:aW:=fun args σ=>vC args fun a b=>ic a fun x=>ob (agZ σ x b) fun m=>np σ x fun l=>bif dv (l.length+m.length)then some (.none,σ.set x (.lst (l++m)))else none
noncomputable def YW:aW:=fun args σ=>q7 args fun a=>ic a fun x=>np σ x fun l=>ob l.getLast? fun v=>bif dv l.length then some (v,σ.set x (.lst l.dropLast))else none
noncomputable def Ud:aW:=fun _ _=>none
noncomputable def WY(c:bF):Option Nat:=match c with
 | .inst d _ _=>some d
 | .orc d _=>some d
 |_=>none
noncomputable def FF(a:AV)(σ:AS):Option Nat:=match a with
 | .frz d _ _=>some d
 | .ref x=>ob (σ.get x) WY
 |_=>none
noncomputable def fc(c:Nat)(F:aW)(G:gM):gM:=fun a σ=>ob (FF a σ) fun d=>bif aj c d then some F else G a σ
noncomputable def gK:gM:=fun _ _=>none
noncomputable def ii(F:aW):gM:=fun a _=>d8 a fun _=>some F
noncomputable def fN(F:aW):gM:=fun a σ=>ic a fun x=>np σ x fun _=>some F
section
open PySem.SeqAt
noncomputable section
section
variable{X:FX}{k:Nat}{W W':Wd}{fr:Fm}{σ ai:AS}{s s':az}{h h':bJ}{A:bX}
theorem VS{α:Type}{M:k8}{A:bX}{s:az}{t:Sem α}{Q:α->az->Prop}{n:Nat}(hn:n<=s.toks)(h:wpAny M A t (fun a s'=>n<=s'.toks->Q a s') dp s):wpAny M A t Q dp s:=
 jr (wpAny_toks_of hn h) (fun _ _ x=>x.2 x.1) fun _ _ x=>x.2
theorem eo{α:Type}{M:k8}{t:Sem α}{Q Q':α->az->Prop}(h:wpAny M A t Q dp s)(hQ: ∀a s,Q a s->Q' a s):wpAny M A t Q' dp s:=jr h hQ fun _ _ e=>e
theorem aeQ{p:Pos}{n:Nat}:bZ X k (a7 .none) (.Constant .none n p):=fun A _ W fr σ s T a ai e=>by
 apply s2 e;exact fun _ _ _=>T.post rfl
theorem aeH{b:Bool}{p:Pos}{n:Nat}:bZ X k (a7 (.bool b)) (.Constant (.bool b) n p):=fun A _ W fr σ s T a ai e=>by
 apply s2 e;exact fun _ _ _=>T.post rfl
theorem akb{i:Int}{p:Pos}{n:Nat}:bZ X k (a7 (.int i)) (.Constant (.int i) n p):=fun A _ W fr σ s T a ai e=>by
 apply s2 e;exact qW ((T.toks _).post ⟨_,rfl⟩)
theorem akh{x:Str}{l:ac}{p:Pos}{n:Nat}(hx:aP l=x):bZ X k (a7 (.str l)) (.Constant (.str x) n p):=fun A _ W fr σ s T a ai e=>by
 apply s2 e;exact oG ((T.toks _).post ⟨_,by rw[hx]⟩)
theorem aaK{x:List UInt8}{p:Pos}{n:Nat}:bZ X k (a7 (.bytes x)) (.Constant (.bytes x) n p):=fun A _ W fr σ s T a ai e=>by
 apply s2 e;exact Constant_bytes ((T.toks _).post ⟨_,rfl⟩)
theorem U1: ∀(fr:Fm) (i:Nat),(fr[i]? =some (gt fr i))\/gt fr i= .unb
 |[],_=>.inr rfl
 |_::_,0=>.inl rfl
 |_::r,i+1=>(U1 r i).imp (fun h=>h) (fun h=>h)
theorem St.load(O:u2 X)(T:St X W fr σ s){i:Nat}{x:Str}(hx:X.names i=some x)(hu:gt fr i≠ .unb):
  wpAny (dC X.C) A (loadName X.env x) (fun v s'=>s'=s/\V X.C W (gt fr i) v) dp s:=by
 obtain⟨m,hn,hv⟩:=T.fr.vars
 obtain⟨v,e2,e3⟩:=((U1 fr i).resolve_right hu|>hv i _).resolve_left hu x hx
 unfold i8 at e2
 split at e2
 ·rename_i q;exact wpAny_loadName_local O.kind q hn e2 ⟨rfl,e3⟩
 ·rename_i q;obtain⟨c,a,b⟩:=e2;exact wpAny_loadName_cell O.kind q a b ⟨rfl,e3⟩
 ·rename_i q;obtain⟨c,a,b⟩:=e2
  by_cases z:(x==("__classdict__":Str))=true
  ·exact absurd (O.plain i x hx) (by rw[beq_iff_eq.mp z];decide)
  ·exact wpAny_loadName_free O.kind q a b ⟨rfl,e3⟩ (by simpa using z)
 ·exact e2.elim
theorem amD{a:AV}(h:bQ a=false):a≠ .unb:=fun q=>by rw[q]at h;cases h
theorem uI(O:u2 X){i:Nat}{x:Str}{p:Pos}(hx:X.names i=some x):bZ X k (al i) (.Name x p):=fun A _ W fr σ s T a ai e=>by
 refine kN e fun hu e=> ?_
 apply s2 e
 have hd:(x==("__debug__":Str))=false:=by
  cases z:(x==("__debug__":Str))with
  |false=>rfl
  |true=>exact absurd (O.plain i x hx) (by rw[beq_iff_eq.mp z];decide)
 exact wpAny_Name (eo (T.load O hx (amD hu)) fun v s' h=>by rw[h.1];exact T.post h.2) hd
def ni(C:PC)(x:Str)(a:AV):Prop:= ∀M A E (env:Env) (W:Wd) σ s (Q:ah->az->Prop),env.globals=mainGlobals->env.builtins=builtinsNs->cv C W σ s.heap->(∀v,V C W a v->Q v s)->wpAny M A (loadGlobal env x) Q E s
theorem Ys(O:u2 X){a:AV}{x:Str}{p:Pos}(hx:X.env.kindOf x=some .globalImplicit)(hd:(x==("__debug__":Str))=false)(h:ni X.C x a):bZ X k (a7 a) (.Name x p):=fun A _ W fr σ s T b ai e=>by
 apply s2 e
 exact yB O.kind hx (h _ A dp X.env W σ s _ O.glob O.blt T.rel fun v q=>T.post q) hd
def amN(X:FX)(k:Nat)(t:ah->ah->Sem ah)(f:AV->AV->AS->Option (AV×AS)):Prop:=
 ∀A,eI A k-> ∀W fr σ s,St X W fr σ s-> ∀a b v w,V X.C W a v->V X.C W b w-> ∀c ai,f a b σ=some (c,ai)->wpAny (dC X.C) A (t v w) (fH X W fr c ai) dp s
theorem WS{f:AV->AV->AS->Option (AV×AS)}{m n:EM}{c:AV}(e:bi f m n fr σ=some (c,ai)){P:Prop}(k: ∀a ay b aM,m fr σ=some (a,ay)->n fr ay=some (b,aM)->f a b aM=some (c,ai)->P):P:=
 fM e fun a ay e1 e=>fM e fun b aM e2 e=>k a ay b aM e1 e2 e
theorem fH.elim{a:AV}{v:ah}{P:Prop}(h:fH X W fr a σ v s)(k: ∀W',W.le W'->St X W' fr σ s->V X.C W' a v->P):P:=by
 obtain⟨W',h1,h2,h3⟩:=h;exact k W' h1 h2 h3
theorem Kh.elim{a:aa}{v:List ah}{P:Prop}(h:Kh X W fr a σ v s)(k: ∀W',W.le W'->St X W' fr σ s->VL X.C W' a v->P):P:=by
 obtain⟨W',h1,h2,h3⟩:=h;exact k W' h1 h2 h3
@[elab_as_elim] theorem oY.elim {b b':Bool} {Q:Bool->Prop} (h:oY X W fr b σ b' s) (k: ∀W',W.le W'->St X W' fr σ s->Q b):Q b':=by
 obtain⟨rfl,W',h1,h2⟩:=h;exact k W' h1 h2
theorem yS.elim{P:Prop}(h:yS X W fr σ s)(k: ∀W',W.le W'->St X W' fr σ s->P):P:=by
 obtain⟨W',h1,h2⟩:=h;exact k W' h1 h2
theorem bZ.go{m:EM}{x:an}(hm:bZ X k m x)(R:eI A k)(T:St X W fr σ s){a:AV}{ay:AS}(e:m fr σ=some (a,ay)){Q:ah->az->Prop}(h: ∀v bn bf,W.le bf->St X bf fr ay bn->V X.C bf a v->Q v bn):wpAny (dC X.C) A (eval x X.env) Q dp s:=
 eo (hm A R W fr σ s T a ay e) fun v bn z=>z.elim fun bf l br q=>h v bn bf l br q
theorem z0.go{m:LM}{x:List an}(hm:z0 X k m x)(R:eI A k)(T:St X W fr σ s){a:aa}{ay:AS}(e:m fr σ=some (a,ay))(pos:Pos){Q:List ah->az->Prop}(h: ∀v bn bf,W.le bf->St X bf fr ay bn->VL X.C bf a v->Q v bn):wpAny (dC X.C) A (spliced (backTo pos (starEach x X.env))) Q dp s:=
 eo (hm A R W fr σ s T a ay e pos) fun v bn z=>z.elim fun bf l br q=>h v bn bf l br q
theorem nh.go{m:BM}{x:an}(hm:nh X k m x)(R:eI A k)(T:St X W fr σ s){b:Bool}{ay:AS}(e:m fr σ=some (b,ay)){Q:Bool->az->Prop}(h: ∀bn bf,W.le bf->St X bf fr ay bn->Q b bn):wpAny (dC X.C) A (isTrue x X.env (eval x X.env)) Q dp s:=
 eo (hm A R W fr σ s T b ay e) fun b' bn z=>z.elim fun bf l br=>h bn bf l br
theorem EC{m n:EM}{a b:an}(hm:bZ X k m a)(hn:bZ X k n b){Q:ah->ah->az->Prop}(R:eI A k)(T:St X W fr σ s){x y:AV}{ay aM:AS}(e1:m fr σ=some (x,ay))(e2:n fr ay=some (y,aM))
  (h: ∀v w dP ct,W.le ct->St X ct fr aM dP->V X.C ct x v->V X.C ct y w->Q v w dP):
  wpAny (dC X.C) A (eval a X.env) (fun v bn=>wpAny (dC X.C) A (eval b X.env) (fun w dP=>Q v w dP) dp bn) dp s:=
 hm.go R T e1 fun v bn bf bz br d6=>hn.go R br e2 fun w dP ct dJ cL jX=>h v w dP ct (bz.trans dJ) cL (d6.mono dJ) jX
theorem aj5{op:iy}{f:AV->AV->AS->Option (AV×AS)}{m n:EM}{a b:an}{p:Pos}(hm:bZ X k m a)(hn:bZ X k n b)(ho:amN X k (binaryOp op) f):bZ X k (bi f m n) (.BinOp a op b p):=fun A R W fr σ s T c ai e=>
 WS e fun x ay y aM e1 e2 e3=>wpAny_BinOp (EC hm hn R T e1 e2 fun v w dP ct l cL d6 jX=>eo (ho A R ct fr aM dP cL x y v w d6 jX c ai e3) fun _ _ z=>z.le l)
end
end
end
section
open PySem.SeqAt
noncomputable section
theorem kK: ∀{a b:ac},dg a b=decide (a=b)
 |[],[]=>by simp[agk]
 |[],_::_=>by simp[agj]
 |_::_,[]=>by simp[agi]
 |a::r,b::t=>by
  rw[agh,kK,fV]
  by_cases h:a=b<;>by_cases q:r=t<;>simp[h,q]
theorem q8{a b:Int}:KB a b=decide (a=b):=by
 cases a with
 |ofNat a=>cases b with
  |ofNat b=>
   show aj a b=_
   rw[fV]
   exact decide_eq_decide.mpr ⟨fun h=>by rw[h],fun h=>Int.ofNat.inj h⟩
  |negSucc b=>rfl
 |negSucc a=>cases b with
  |ofNat b=>rfl
  |negSucc b=>
   show aj a b=_
   rw[fV]
   exact decide_eq_decide.mpr ⟨fun h=>by rw[h],fun h=>abc h⟩
theorem qs{a b:ac}:(aP a==aP b)=dg a b:=by
 rw[kK,oA,beq_iff_eq,decide_eq_true_iff]
 exact⟨fun h=>by have:=congrArg (fun x=>x.cps.toList) h;simpa[aP] using this,fun h=>by rw[h]⟩
section
variable{A:bX}{s:az}
theorem RcAt.bytes_bytes(a b:Array UInt8)(t u:Tok):RcAt A s (.bytes a t) (.bytes b u) (a.toList==b.toList):=fun prog w E Q h=>PySem.W.eq_bytes h
theorem EqAt.bytes_bytes(a b:Array UInt8)(t u:Tok):EqAt A s (.bytes a t) (.bytes b u) (a.toList==b.toList):=fun prog w E Q h=>by
 unfold eqBool
 refine dD ?_
 refine wpAny_ite_split (fun hab=> ?_) (fun _=> ?_)
 ·have e:=eq_of_beq hab
  injection e with e1 e2
  subst e1
  exact aq (H4 (aL (by simpa using h)))
 ·exact aq (RcAt.bytes_bytes a b t u prog w E _ (fG h))
theorem RcNeAt.bytes_bytes(a b:Array UInt8)(t u:Tok):RcNeAt A s (.bytes a t) (.bytes b u) (!(a.toList==b.toList)):=fun prog w E Q h=>PySem.W.ne_bytes (by simpa[bne] using h)
variable{C:PC}{W:Wd}
theorem wM{x n:Nat}{vs:List ah}(hi: ∀b o,W.im b=some o->s.heap.get? b=some o)(e:W.im x=some (ti vs n)):s.heap.IsTuple x vs.toArray:=⟨_,hi _ _ e,rfl,n,rfl⟩
structure Eqs(A:bX)(s:az)(v w:ah)(r:Bool):Prop where
 rc:RcAt A s v w r
 ne:RcNeAt A s v w (!r)
 eq:EqAt A s v w r
@[elab_as_elim] theorem Xd {b:AV} {r:Bool} {Q:AV->Bool->Prop} (e:US b=some r) (k1:Q .none true) (k2: ∀i,Q (.int i) false) (k3: ∀i,Q (.str i) false) (k4: ∀i,Q (.tup i) false):Q b r:=by
 cases b<;>first|exact nn e|(apply s1 e;first|exact k1|exact k2 _|exact k3 _|exact k4 _)
@[elab_as_elim] theorem abN {x:Int} {b:AV} {r:Bool} {Q:AV->Bool->Prop} (e:ZF x b=some r) (k1: ∀i,Q (.int i) (KB x i)) (k2:Q .none false):Q b r:=by
 cases b<;>first|exact nn e|(apply s1 e;first|exact k2|exact k1 _)
@[elab_as_elim] theorem abO {x:ac} {b:AV} {r:Bool} {Q:AV->Bool->Prop} (e:ZG x b=some r) (k1: ∀i,Q (.str i) (dg x i)) (k2:Q .none false):Q b r:=by
 cases b<;>first|exact nn e|(apply s1 e;first|exact k2|exact k1 _)
@[elab_as_elim] theorem Xc {x:Bool} {b:AV} {r:Bool} {Q:AV->Bool->Prop} (e:Ps x b=some r) (k1: ∀i,Q (.bool i) (x==i)):Q b r:=by
 cases b<;>first|exact nn e|(apply s1 e;exact k1 _)
@[elab_as_elim] theorem SJ {x:List UInt8} {b:AV} {r:Bool} {Q:AV->Bool->Prop} (e:IH x b=some r) (k1: ∀i,Q (.bytes i) (x==i)):Q b r:=by
 cases b<;>first|exact nn e|(apply s1 e;exact k1 _)
@[elab_as_elim] theorem afk {a b:AV} {r:Bool} {Q:AV->Prop} (e:LN a b=some r) (k1:US b=some r->Q .none) (k2: ∀x,Ps x b=some r->Q (.bool x)) (k3: ∀x,ZF x b=some r->Q (.int x)) (k4: ∀x,ZG x b=some r->Q (.str x)) (k5: ∀l,sZ b (some false)=some r->Q (.tup l)) (k6: ∀x,IH x b=some r->Q (.bytes x)):Q a:=by
 cases a<;>first|exact nn e|exact k1 e|exact k2 _ e|exact k3 _ e|exact k4 _ e|exact k5 _ e|exact k6 _ e
theorem LP(hi: ∀b o,W.im b=some o->s.heap.get? b=some o)(hu:A.units<cLine){a b:AV}{r:Bool}(e:LN a b=some r){v w:ah}:V C W a v->V C W b w->Eqs A s v w r:=by
 refine afk e (fun e hv=> ?_) (fun x e hv=> ?_) (fun x e hv=> ?_) (fun x e hv=> ?_) (fun l e hv=> ?_) fun x e hv=> ?_
 ·refine hv.noneE ?_
  exact Xd e (fun hw=>hw.noneE ⟨RcAt.none_none,RcNeAt.none_none,EqAt.same _⟩) (fun _ hw=>hw.intE fun t=>⟨RcAt.none_int _ _,RcNeAt.none_int _ _,EqAt.none_int _ _⟩)
   (fun _ hw=>hw.strE fun t=>⟨RcAt.none_str _ _,RcNeAt.none_str _ _,EqAt.none_str _ _⟩) fun _ hw=>hw.tupE fun x n vs q _=>⟨RcAt.none_tuple (wM hi q) hu,RcNeAt.none_tuple (wM hi q) hu,EqAt.none_tuple (wM hi q) hu⟩
 ·refine hv.boolE ?_
  exact Xc e fun _ hw=>hw.boolE ⟨RcAt.bool_bool _ _,RcNeAt.bool_bool _ _,EqAt.bool_bool _ _⟩
 ·refine hv.intE fun t=> ?_
  exact abN e (fun _ hw=>by rw[q8];exact hw.intE fun t=>⟨RcAt.int_int _ _ _ _,RcNeAt.int_int _ _ _ _,EqAt.int_int _ _ _ _⟩) fun hw=>hw.noneE ⟨RcAt.int_none _ _,RcNeAt.int_none _ _,EqAt.int_none _ _⟩
 ·refine hv.strE fun t=> ?_
  exact abO e (fun _ hw=>by rw[<- qs];exact hw.strE fun t=>⟨RcAt.str_str _ _ _ _,RcNeAt.str_str _ _ _ _,EqAt.str_str _ _ _ _⟩) fun hw=>hw.noneE ⟨RcAt.str_none _ _,RcNeAt.str_none _ _,EqAt.str_none _ _⟩
 ·refine hv.tupE fun x n vs q _=> ?_
  refine Cg e fun e hw=> ?_
  apply s1 e
  exact hw.noneE ⟨RcAt.tuple_none (wM hi q) hu,RcNeAt.tuple_none (wM hi q) hu,EqAt.tuple_none (wM hi q) hu⟩
 ·refine hv.bytesE fun t=> ?_
  refine SJ e fun y hw=>hw.bytesE fun u=> ?_
  have z:=fun p q:List UInt8=>show(p.toArray.toList==q.toArray.toList)=(p==q) by simp
  rw[<- z]
  exact⟨RcAt.bytes_bytes _ _ _ _,RcNeAt.bytes_bytes _ _ _ _,EqAt.bytes_bytes _ _ _ _⟩
theorem Pt{f:AV->AV->Option Bool}{P:ah->ah->Bool->Prop}(hf: ∀a b r,f a b=some r-> ∀v w,V C W a v->V C W b w->P v w r): ∀{l m:aa} {r:Bool},KC f l m=some r->
  ∀{vs ws:List ah},VL C W l vs->VL C W m ws-> ∃e:Nat->Bool,(∀j (h1:j<vs.length) (h2:j<ws.length),P vs[j] ws[j] (e j))/\r=((cu (min vs.length ws.length)).all e&&vs.length==ws.length):=by
 intro l
 induction l with
 |nil=>
  intro m r h vs ws hv hw
  refine hv.nilE ?_
  cases m with
  |nil=>
   apply s1 h
   exact hw.nilE ⟨fun _=>true,fun j h1=>absurd h1 (io _),rfl⟩
  |cons=>
   apply s1 h
   exact hw.consE fun w ws _ _=>⟨fun _=>true,fun j h1=>absurd h1 (io _),by simp⟩
 |cons a l ih=>
  intro m r h vs ws hv hw
  refine hv.consE fun v vs h1 h2=> ?_
  cases m with
  |nil=>
   apply s1 h
   exact hw.nilE ⟨fun _=>true,fun j _ h2=>absurd h2 (io _),by simp⟩
  |cons b m=>
   refine hw.consE fun w ws h3 h4=>oE h fun x hx h=>oE h fun y hy h=> ?_
   apply s1 h
   obtain⟨e,p,q⟩:=ih hy h2 h4
   refine⟨fun j=>match j with|0=>x|j+1=>e j,fun j h1' h2'=> ?_,?_⟩
   ·cases j with
    |zero=>exact hf _ _ _ hx _ _ h1 h3
    |succ j=>exact p j (m8 h1') (m8 h2')
   ·rw[q]
    simp only[bM,Nat.succ_min_succ]
    rw[List.range_succ_eq_map]
    simp only[ru,List.all_map]
    cases x<;>simp[Function.comp_def]
theorem OW{a b:AV}{r:Bool}(e:LN a b=some r){v:ah}:V C W a v->V C W b v->r=true:=by
 refine afk e (fun e hv=> ?_) (fun x e hv=> ?_) (fun x e hv=> ?_) (fun x e hv=> ?_) (fun l e hv=> ?_) fun x e hv=> ?_
 ·refine hv.noneE ?_
  exact Xd e (fun _=>rfl) (fun _ hw=>let⟨t,q⟩:=hw;sf q) (fun _ hw=>let⟨t,q⟩:=hw;sf q) fun _ hw=>let⟨x,n,vs,q,_⟩:=hw;sf q
 ·exact Xc e fun y hw=>by cases hv;cases hw;simp
 ·exact abN e (fun y hw=>by obtain⟨t,rfl⟩:=hv;obtain⟨u,q⟩:=hw;cases q;simp[q8]) fun hw=>by obtain⟨t,rfl⟩:=hv;cases hw
 ·exact abO e (fun y hw=>by
   obtain⟨t,rfl⟩:=hv;obtain⟨u,q⟩:=hw
   rw[<- qs]
   injection q with q1;simp[q1]) fun hw=>by obtain⟨t,rfl⟩:=hv;cases hw
 ·refine Cg e fun e hw=> ?_
  obtain⟨x,n,vs,rfl,q,_⟩:=hv
  cases hw
 ·refine SJ e fun y hw=> ?_
  obtain⟨t,rfl⟩:=hv
  obtain⟨u,q⟩:=hw
  injection q with q1
  have q2:=congrArg NT q1
  simp only at q2
  simp[q2]
theorem adc{f:AV->AV->Option Bool}(hf: ∀a b r,f a b=some r-> ∀v,V C W a v->V C W b v->r=true): ∀{l m:aa} {r:Bool},KC f l m=some r-> ∀{vs:List ah},VL C W l vs->VL C W m vs->r=true:=by
 intro l
 induction l with
 |nil=>
  intro m r h vs hv hw
  cases m with
  |nil=>apply s1 h;rfl
  |cons=>cases hv;obtain⟨_,_,q,_⟩:=hw;cases q
 |cons a l ih=>
  intro m r h vs hv hw
  cases m with
  |nil=>cases hw;obtain⟨_,_,q,_⟩:=hv;cases q
  |cons b m=>
   obtain⟨v,vs,rfl,h1,h2⟩:=hv
   obtain⟨w,ws,q,h3,h4⟩:=hw
   cases q
   refine oE h fun x hx h=>oE h fun y hy h=> ?_
   apply s1 h
   rw[hf _ _ _ hx _ h1 h3,ih hy h2 h4];rfl
@[elab_as_elim] theorem amR {n:Nat} {a b:AV} {r:Bool} (e:wu (n+1) a b=some r) {Q:AV->AV->Prop} (k: ∀l m,KC (wu n) l m=some r->Q (.tup l) (.tup m)) (k':LN a b=some r->Q a b):Q a b:=bE e (fun _ e=>Ny e fun l e=>Ny e fun m e=>k l m e) fun _ e=>k' e
theorem acS: ∀(n:Nat) (a b:AV) (r:Bool),wu n a b=some r-> ∀v:ah,V C W a v->V C W b v->r=true:=by
 intro n
 induction n with
 |zero=>intro a b r e v hv hw;exact OW e hv hw
 |succ n ih=>
  intro a b r e v
  refine amR e (fun l m e hv hw=> ?_) fun e hv hw=>OW e hv hw
  obtain⟨x,k,vs,rfl,q,hl⟩:=hv
  obtain⟨y,k',ws,q2,q',hm⟩:=hw
  cases q2
  have:=q.symm.trans q'
  simp only[YN,Obj.mk.injEq,Data.seq.injEq,true_and,and_true]at this
  have e1:vs=ws:=by simpa using this.1
  subst e1
  exact adc ih e hl hm
theorem OY(hi: ∀b o,W.im b=some o->s.heap.get? b=some o): ∀(n:Nat) (A:bX),A.units+n<cLine-> ∀(a b:AV) (r:Bool),wu n a b=some r-> ∀v w:ah,V C W a v->V C W b w->Eqs A s v w r:=by
 intro n
 induction n with
 |zero=>intro A hu a b r e v w hv hw;exact LP hi hu e hv hw
 |succ n ih=>
  intro A hu a b r e v w
  have hu':A.units<cLine:=eV (cU _ _) hu
  have hu1:A.in1.units+n<cLine:=by show A.units+1+n<_;rw[Nat.add_right_comm];exact hu
  have same:=fun v=>acS (C:=C) (W:=W) (n+1) a b r e v
  revert same
  refine amR e (fun l m e same hv hw=> ?_) (fun e _ hv hw=>LP hi hu' e hv hw)
  obtain⟨x,k,vs,rfl,q,hl⟩:=hv
  obtain⟨y,k',ws,rfl,q',hm⟩:=hw
  obtain⟨f,p,rfl⟩:=Pt (P:=Eqs A.in1 s) (fun a b r e v w hv hw=>ih A.in1 hu1 a b r e v w hv hw) e hl hm
  have key:=RcAt.tuples (e:=f) (wM hi q) (wM hi q') hu' (fun j h1 h2=>by simpa using (p j (by simpa using h1) (by simpa using h2)).eq)
  have key2:=RcNeAt.tuples (e:=f) (wM hi q) (wM hi q') hu' (fun j h1 h2=>by simpa using (p j (by simpa using h1) (by simpa using h2)).eq)
  simp only[aZ]at key key2
  refine⟨key,key2,?_⟩
  by_cases z:x=y
  ·subst z
   rw[same _ ⟨x,k,vs,rfl,q,hl⟩ ⟨x,k',ws,rfl,q',hm⟩];exact EqAt.same _
  ·exact EqAt.of_refs z key
end
end
end
section
open PySem.SeqAt
noncomputable section
theorem bK(s:ac):(aP s).length=s.length:=by simp[aP,T8]
theorem gL(s:ac):(aP s).cps.toList=s:=by simp[aP]
theorem RV(s t:ac):aP s++aP t=aP (s++t):=by
 show T6 _ _=_
 simp[T6,aP]
theorem Hr: ∀{p s:ac},jW p s=true↔s.take p.length=p
 |[],s=>by simp[aiu]
 |_::_,[]=>by simp[ad4]
 |a::r,b::t=>by
  rw[Tm,cG,Hr,fV,decide_eq_true_iff]
  simp only[bM,A4,vd]
  exact⟨fun⟨x,y⟩=>⟨x.symm,y⟩,fun⟨x,y⟩=>⟨x.symm,y⟩⟩
theorem PH: ∀{p s:ac},zd p s=true↔ ∃i,i<=s.length/\jW p (s.drop i)=true
 |p,[]=>by
  rw[ahE]
  exact⟨fun h=>⟨0,ax _,h⟩,fun⟨i,_,h⟩=>by simpa using h⟩
 |p,b::t=>by
  rw[IR,oF,PH]
  constructor
  ·rintro(h|⟨i,h1,h2⟩)
   ·exact⟨0,aU _,h⟩
   ·exact⟨i+1,ba h1,h2⟩
  ·rintro⟨i,h1,h2⟩
   cases i with
   |zero=>exact .inl h2
   |succ i=>exact .inr ⟨i,m7 h1,h2⟩
theorem XD(c:Nat): ∀s:List Nat,FQ c s=zd [c] s
 |[]=>rfl
 |b::t=>by
  rw[I2,IR,Tm,<- XD c t]
  show(aj c b||FQ c t)=(aj c b&&true||FQ c t)
  rw[zE]
theorem Xp(p s:ac):PG p s=zd p s:=by
 match p with
 |[]=>rfl
 |[c]=>exact XD _ _
 |_::_::_=>rfl
theorem adG{p s:ac}:PG p s=true↔ ∃i,i<=s.length/\jW p (s.drop i)=true:=by rw[Xp];exact PH
theorem SQ(p s:ac):(!(Q2 (aP s) (aP p) 0 (aP s).length 1).isEmpty)=PG p s:=by
 rw[oA,StrLaws.found_iff,adG]
 simp only[bK,tI,gL,beq_iff_eq,Hr]
 constructor
 ·rintro⟨i,h1,h2⟩;exact⟨i,by omega,h2⟩
 ·rintro⟨i,h1,h2⟩
  refine⟨i,?_,h2⟩
  have:=congrArg mZ h2
  simp only[kb,gW]at this
  omega
theorem O4{a b:Nat}:bt a b=decide (a<b):=by rw[oA,decide_eq_true_iff,c9]
theorem xN{a b:Int}:CJ a b=decide (a<b):=by
 cases a with
 |ofNat a=>cases b with
  |ofNat b=>
   show bt a b=_
   rw[O4]
   exact decide_eq_decide.mpr hU.symm
  |negSucc b=>
   refine(decide_eq_false ?_).symm
   exact sK.mpr (Int.le_of_lt (Bg (pM b) (dh a)))
 |negSucc a=>cases b with
  |ofNat b=>
   refine(decide_eq_true ?_).symm
   exact Bg (pM a) (dh b)
  |negSucc b=>
   show bt b a=_
   rw[O4]
   exact decide_eq_decide.mpr (by omega)
theorem Ep: ∀{a b:ac},CK a b=decide (a<b)
 |[],[]=>by simp[CK]
 |_::_,[]=>by simp[CK]
 |[],_::_=>by simp[CK]
 |a::r,b::t=>by
  rw[CK,Ep,StrLaws.lt_cons_cons,fV]
  rw[O4]
  congr 1
section
variable{C:PC}{W:Wd}{σ:AS}{h:bJ}{A:bX}{s:az}
@[elab_as_elim] theorem aoe {a:AV} {l:aa} {Q:AV->Prop} (e:iL σ a=some l) (k1:Q (.lst l)) (k2: ∀x,σ.get x=some (.lst l)->Q (.ref x)):Q a:=by
 cases a<;>first|exact nn e|skip
 ·cases e;exact k1
 ·refine lstE e fun l' hg e=> ?_
  cases e;exact k2 _ hg
@[elab_as_elim] theorem nk (R:cv C W σ h) {a:AV} {l:aa} (e:iL σ a=some l) {v:ah} {Q:ah->Prop} (hv:V C W a v) (k: ∀x n vs,h.get? x=some (dw vs n)->VL C W l vs->Q (.ref x)):Q v:=by
 revert hv
 refine aoe e (fun hv=> ?_) fun x hg hv=> ?_
 ·exact hv.lstE fun x n vs q r=>k x n vs (R.im _ _ q) r
 ·exact R.lstE hg hv fun p vs n _ _ q r=>k p.1 n vs q r
theorem lM{x n:Nat}{vs:List ah}(e:h.get? x=some (dw vs n)):h.IsList x vs.toArray:=⟨_,e,rfl,n,rfl⟩
@[elab_as_elim] theorem Hi (R:cv C W σ h) {a:AV} {l:aa} (e:nC σ a=some l) {v:ah} {Q:ah->Prop} (hv:V C W a v) (k: ∀x n vs,VL C W l vs->(h.get? x=some (dw vs n)\/h.get? x=some (ti vs n))->Q (.ref x)):Q v:=by
 by_cases ht: ∃m,a= .tup m
 ·obtain⟨m,rfl⟩:=ht
  cases e
  exact hv.tupE fun x n vs q r=>k x n vs r (.inr (R.im _ _ q))
 ·have e':iL σ a=some l:=by
   cases a<;>first|exact nn e|exact e|skip
   exact absurd ⟨_,rfl⟩ ht
  exact nk R e' hv fun x n vs q r=>k x n vs r (.inl q)
@[elab_as_elim] theorem Hh (R:cv C W σ h) {a:AV} {l:aa} (e:nC σ a=some l) {v:ah} {Q:ah->Prop} (hv:V C W a v) (k: ∀x vs,VL C W l vs->(h.IsList x vs.toArray\/h.IsTuple x vs.toArray)->Q (.ref x)):Q v:=
 Hi R e hv fun x n vs q z=>k x vs q (z.imp (fun z=>⟨_,z,rfl,n,rfl⟩) fun z=>⟨_,z,rfl,n,rfl⟩)
@[elab_as_elim] theorem anF {a:AV} {ks:List (List Nat)} {Q:AV->Prop} (e:Ph σ a=some ks) (k1: ∀vs,Q (.dct ks vs)) (k2: ∀x vs,σ.get x=some (.dct ks vs)->Q (.ref x)):Q a:=by
 cases a<;>first|exact nn e|skip
 ·cases e;exact k1 _
 ·refine dctE e fun ks' vs hg e=> ?_
  cases e;exact k2 _ _ hg
@[elab_as_elim] theorem Pi (R:cv C W σ h) {a:AV} {ks:List (List Nat)} (e:Ph σ a=some ks) {v:ah} {Q:ah->Prop} (hv:V C W a v) (k: ∀x vs,(x==sysModules)=false->ks.length=vs.length->h.DictOf (strKind C.prog C.w) x ((ks.map aP).zip vs)->Q (.ref x)):Q v:=by
 revert hv
 refine anF e (fun _ hv=> ?_) fun x _ hg hv=> ?_
 ·exact hv.dctE fun x o vs q0 q r z=>k x vs q0 z.1 (jn.mpr ⟨o,R.im _ _ q,z.2⟩)
 ·exact R.dctE hg hv fun p o vs _ _ q0 g r z=>k p.1 vs q0 z.1 (jn.mpr ⟨o,g,z.2⟩)
theorem Jm{α β:Type}{l:List α}{m:List β}:rl l m=decide (l.length=m.length):=by
 unfold rl
 rw[ig,ig,fV]
structure afa(C:PC)(A:bX)(s:az)(v w:ah)(r:Bool):Prop where
 eq: ∀Q:ah->az->Prop,Q (.bool r) s->wpAny (dC C) A (compareOp .Eq v w) Q dp s
 ne: ∀Q:ah->az->Prop,Q (.bool !r) s->wpAny (dC C) A (compareOp .NotEq v w) Q dp s
theorem agf{ks:List (List Nat)}{x y:aC}{vs ws:List ah}(hu:A.units+17<cLine)(x0:(x==sysModules)=false)(xl:ks.length=vs.length)(xd:s.heap.DictOf (strKind C.prog C.w) x ((ks.map aP).zip vs))(y0:(y==sysModules)=false)(yd:s.heap.DictOf (strKind C.prog C.w) y ((([]:List (List Nat)).map aP).zip ws)):afa C A s (.ref x) (.ref y) ks.isEmpty:=by
 have hl:((((ks.map aP).zip vs).length ==((([]:List (List Nat)).map aP).zip ws).length)&&true)=ks.isEmpty:=by
  cases ks with
  |nil=>simp
  |cons k ks=>cases vs with
   |nil=>simp at xl
   |cons v vs=>simp
 have hits:((ks.map aP).zip vs).length=((([]:List (List Nat)).map aP).zip ws).length->KeqHits A.in1 s ((([]:List (List Nat)).map aP).zip ws) ((ks.map aP).zip vs) true:=fun z=>by
  have:(ks.map aP).zip vs=[]:=mG.mp (by simpa using z)
  rw[this];exact KeqHits.nil
 exact⟨fun Q h=>keq_eq x0 y0 xd yd (by omega) hits (by rw[hl];exact h),fun Q h=>keq_ne x0 y0 xd yd (by omega) hits (by rw[hl];exact h)⟩
theorem agg(hi: ∀b o,W.im b=some o->s.heap.get? b=some o)(hu:A.units+17<cLine){l m:aa}{r:Bool}(e:(bif rl l m then KC (wu 16) l m else some false)=some r){x y n n':Nat}{vs ws:List ah}(g:s.heap.get? x=some (dw vs n))(q:VL C W l vs)(g':s.heap.get? y=some (dw ws n'))(q':VL C W m ws):afa C A s (.ref x) (.ref y) r:=by
 have hu':A.units<cLine:=eV (cU _ _) hu
 refine bE e (fun hs e=> ?_) fun hs e=> ?_
 ·rw[Jm,decide_eq_true_iff]at hs
  have hs':vs.length=ws.length:=by rw[q.length,q'.length,hs]
  obtain⟨f,p,rfl⟩:=Pt (P:=Eqs A.in1 s) (fun a b r e v w hv hw=>OY (C:=C) hi 16 A.in1 (by show A.units+1+16<_;rw[kB];exact hu) a b r e v w hv hw) e q q'
  have he: ∀j (h1:j<vs.toArray.size) (h2:j<ws.toArray.size),EqAt A.in1 s vs.toArray[j] ws.toArray[j] (f j):=fun j h1 h2=>by simpa using (p j (by simpa using h1) (by simpa using h2)).eq
  have k1:=RcAt.lists (e:=f) (lM g) (lM g') (by simpa using hs') hu' he
  have k2:=RcNeAt.lists (e:=f) (lM g) (lM g') (by simpa using hs') hu' he
  simp only[aZ]at k1 k2
  have ez:((cu (min vs.length ws.length)).all f&&vs.length==ws.length)=(cu vs.length).all f:=by rw[hs'];simp
  rw[ez]
  exact⟨fun Q h=>k1 _ _ _ _ h,fun Q h=>k2 _ _ _ _ h⟩
 ·apply s1 e
  rw[Jm,decide_eq_false_iff_not]at hs
  have hs':(vs.toArray.size !=ws.toArray.size)=true:=by simpa[q.length,q'.length] using hs
  exact⟨fun Q h=>RcAt.lists_lengths (lM g) (lM g') hs' hu' _ _ _ _ h,fun Q h=>RcNeAt.lists_lengths (lM g) (lM g') hs' hu' _ _ _ _ h⟩
theorem Pr(R:cv C W σ s.heap)(hu:A.units+17<cLine){a b:AV}{r:Bool}(e:eqA σ a b=some r){v w:ah}(hv:V C W a v)(hw:V C W b w):afa C A s v w r:=by
 have hi:=R.im
 refine odE e (fun b' q e=> ?_) fun e=>odE e (fun l hl e=>oE e fun m hm e=> ?_) fun e=>oE e fun ks hk e=>oE e fun ks' hm e=>kS e fun z e=> ?_
 ·apply s1 e
  have z:=OY (C:=C) hi 16 A (eV (cM _) hu) a b b' q v w hv hw
  exact⟨fun Q h=>z.rc _ _ _ _ h,fun Q h=>z.ne _ _ _ _ h⟩
 ·exact nk R hl hv fun x n vs g q=>nk R hm hw fun y n' ws g' q'=>agg hi hu e g q g' q'
 ·apply s1 e
  have z:ks'=[]:=ek.mp z
  subst z
  exact Pi R hk hv fun x vs x0 xl xd=>Pi R hm hw fun y ws y0 _ yd=>agf hu x0 xl xd y0 yd
end
end
end
section
open PySem.SeqAt
noncomputable section
section
variable{C:PC}{W:Wd}{σ:AS}{h:bJ}{A:bX}{s:az}
structure Gx(C:PC)(A:bX)(s:az)(v w:ah)(r:Bool):Prop where
 isIn: ∀Q:ah->az->Prop,(∀t,Q (.bool r) {s with toks:=t})->wpAny (dC C) A (compareOp .In v w) Q dp s
 not: ∀Q:ah->az->Prop,(∀t,Q (.bool !r) {s with toks:=t})->wpAny (dC C) A (compareOp .NotIn v w) Q dp s
theorem OU: ∀{l:aa} {ss:List (List Nat)},nK l=some ss-> ∀{vs:List ah},VL C W l vs-> ∃ts:List Tok,ts.length=ss.length/\vs=(ss.zip ts).map fun p=>.str (aP p.1) p.2:=by
 intro l
 induction l with
 |nil=>intro ss e vs hv;cases e;exact hv.nilE ⟨[],rfl,rfl⟩
 |cons a l ih=>
  intro ss e vs hv
  refine hv.consE fun v r hv h2=> ?_
  revert hv
  refine fO e fun x e hv=>oE e fun ss' q e=> ?_
  cases e
  refine hv.strE fun t=> ?_
  obtain⟨ts,a,b⟩:=ih q h2
  exact⟨t::ts,by simp[a],by simp[b]⟩
theorem afi: ∀{l:aa} {ss:List Int},NH l=some ss-> ∀{vs:List ah},VL C W l vs-> ∃ts:List Tok,ts.length=ss.length/\vs=(ss.zip ts).map fun p=>.int p.1 p.2:=by
 intro l
 induction l with
 |nil=>intro ss e vs hv;cases e;exact hv.nilE ⟨[],rfl,rfl⟩
 |cons a l ih=>
  intro ss e vs hv
  refine hv.consE fun v r hv h2=> ?_
  revert hv
  refine lj e fun x e hv=>oE e fun ss' q e=> ?_
  cases e
  refine hv.intE fun t=> ?_
  obtain⟨ts,a,b⟩:=ih q h2
  exact⟨t::ts,by simp[a],by simp[b]⟩
noncomputable def isS(x:Str)(y:ah):Bool:=match y with
 | .str z _=>z==x
 |_=>false
noncomputable def isI(x:Int)(y:ah):Bool:=match y with
 | .int z _=>z==x
 |_=>false
theorem Ss(p:ac): ∀(ss:List (List Nat)) (ts:List Tok),ts.length=ss.length->(((ss.zip ts).map fun p=>gg (aP p.1) p.2).any (isS (aP p)))=wv p ss
 |[],_,_=>by simp[WL]
 |a::r,[],e=>by simp at e
 |a::r,t::ts,e=>by
  rw[bL,bd,rv,WK,Ss p r ts (by simpa using e),<- qs];rfl
theorem Sr(i:Int): ∀(ss:List Int) (ts:List Tok),ts.length=ss.length->(((ss.zip ts).map fun p=>Bk p.1 p.2).any (isI i))=WJ i ss
 |[],_,_=>by simp[WJ]
 |a::r,[],e=>by simp at e
 |a::r,t::ts,e=>by
  have:(a==i)=KB a i:=by rw[q8];rfl
  rw[bL,bd,rv,WJ,Sr i r ts (by simpa using e),<- this];rfl
theorem ab0{v:ah}{vs:List ah}{r:Bool}{f:ah->Bool}(hf: ∀y,y∈vs.toArray->EqAt A.in1 s y v (f y))(he:vs.toArray.any f=r){w:aC}(hw:s.heap.IsList w vs.toArray\/s.heap.IsTuple w vs.toArray):Gx C A s v (.ref w) r:=by
 subst he
 rcases hw with hw|hw
 ·exact⟨fun Q h=>in_listAt f hw hf (h s.toks),fun Q h=>notIn_listAt f hw hf (h s.toks)⟩
 ·exact⟨fun Q h=>in_tupleAt f hw hf (h s.toks),fun Q h=>notIn_tupleAt f hw hf (h s.toks)⟩
theorem ZZ{x:AV}{l:aa}{r:Bool}(e:inL x l=some r){v:ah}(hv:V C W x v){vs:List ah}(hl:VL C W l vs){w:aC}(hw:s.heap.IsList w vs.toArray\/s.heap.IsTuple w vs.toArray):
  Gx C A s v (.ref w) r:=by
 revert hv
 cases x<;>intro hv<;>first|exact nn e|skip
 ·refine oE (show ob (NH l) _=_ from e) fun ss q e=> ?_
  apply s1 e
  refine hv.intE fun t=> ?_
  obtain⟨ts,a,rfl⟩:=afi q hl
  exact ab0 (f:=isI _) (fun y hy=>by
   simp only[tA,dy]at hy
   obtain⟨z,_,rfl⟩:=hy
   exact EqAt.int_int _ _ _ _) (by rw[tw];exact Sr _ ss ts a) hw
 ·refine oE (show ob (nK l) _=_ from e) fun ss q e=> ?_
  apply s1 e
  refine hv.strE fun t=> ?_
  obtain⟨ts,a,rfl⟩:=OU q hl
  exact ab0 (f:=isS _) (fun y hy=>by
   simp only[tA,dy]at hy
   obtain⟨z,_,rfl⟩:=hy
   exact EqAt.str_str _ _ _ _) (by rw[tw];exact Ss _ ss ts a) hw
theorem JH(p:ac): ∀(ks:List (List Nat)) (vs:List ah),ks.length=vs.length->(valueAt ((ks.map aP).zip vs) (aP p)).isSome=wv p ks
 |[],_,_=>by simp[valueAt,WL]
 |k::ks,[],e=>by simp at e
 |k::ks,v::vs,e=>by
  have ih:=JH p ks vs (by simpa using e)
  have z:=qs (a:=k) (b:=p)
  simp only[valueAt,bd,bL,oJ,WK]at ih ⊢
  by_cases q:aP k=aP p
  ·rw[q]at z;simp only[beq_self_eq_true]at z;simp[q,<- z]
  ·have:dg k p=false:=by rw[<- z];exact beq_eq_false_iff_ne.mpr q
   simp[q,this,ih]
theorem ZY{x:aC}{ks:List (List Nat)}{vs:List ah}{p:ac}{t:Tok}(x0:(x==sysModules)=false)(xl:ks.length=vs.length)(xd:s.heap.DictOf (strKind C.prog C.w) x ((ks.map aP).zip vs)):
  Gx C A s (.str (aP p) t) (.ref x) (wv p ks):=by
 have e:=JH p ks vs xl
 exact⟨fun Q h=>wpAny_in_of (strKind_is C.prog C.w (aP p) t) x0 xd.mapOf (by rw[e];exact h _),fun Q h=>wpAny_notIn_of (strKind_is C.prog C.w (aP p) t) x0 xd.mapOf (by rw[e];exact h _)⟩
theorem ZX(R:cv C W σ s.heap){x c:AV}{r:Bool}(e:inA σ x c=some r){v w:ah}(hv:V C W x v)(hw:V C W c w):Gx C A s v w r:=by
 have dct: ∀{c:AV} {ks:List (List Nat)},Ph σ c=some ks->V C W c w->(d8 x fun p=>some (wv p ks))=some r->Gx C A s v w r:=fun hc hw e=>by
  revert hv
  refine fO e fun p e hv=> ?_
  apply s1 e
  exact hv.strE fun u=>Pi R hc hw fun y vs y0 yl yd=>ZY y0 yl yd
 have seq: ∀{c:AV} {l:List AV},nC σ c=some l->V C W c w->inL x l=some r->Gx C A s v w r:=fun hc hw e=>Hh R hc hw fun y vs q z=>ZZ e hv q z
 revert hw
 cases c<;>intro hw<;>first|exact nn e|skip
 ·rename_i s'
  revert hv
  refine fO e fun p e hv=> ?_
  apply s1 e
  exact hv.strE fun u=>hw.strE fun t=>⟨fun Q h=>VZ (by rw[SQ];exact h s.toks),fun Q h=>Q9 (by rw[SQ];exact h s.toks)⟩
 ·exact seq rfl hw e
 ·exact seq rfl hw e
 ·exact dct rfl hw e
 ·rename_i a
  refine oE (show ob (σ.get a) _=_ from e) fun cl hg e=> ?_
  cases cl<;>first|exact nn e|skip
  ·exact seq (c:=.ref a) (show np σ a some=_ by unfold np;rw[hg];rfl) hw e
  ·exact dct (c:=.ref a) (show SA σ a (fun ks _=>some ks)=_ by unfold SA;rw[hg];rfl) hw e
theorem FO{a:AV}{r:Bool}(e:lK a=some r){v:ah}(hv:V C W a v):(v== .none)=r:=by
 revert hv
 cases a<;>intro hv<;>first|exact nn e|(apply s1 e;first|exact hv.noneE rfl|exact hv.boolE rfl|exact hv.intE fun _=>rfl|exact hv.strE fun _=>rfl|exact hv.bytesE fun _=>rfl|exact hv.tupE fun _ _ _ _ _=>rfl|exact hv.lstE fun _ _ _ _ _=>rfl|exact hv.frzE fun _ _ _ _ _ _ _ _ _ _=>rfl|exact hv.dctE fun _ _ _ _ _ _ _=>rfl|exact hv.dctiE fun _ _ _ _ _ _ _=>rfl|exact hv.rngE fun _ _ _ _ _ _ _=>rfl|exact hv.refE fun _ _=>rfl)
end
end
end
section
open PySem.SeqAt
noncomputable section
section
variable{X:FX}{k:Nat}{W W':Wd}{fr:Fm}{σ ai:AS}{s s':az}{A:bX}
@[elab_as_elim] theorem Vf {o:Option Bool} {r:Bool} {P:Bool->Prop} (e:Th o=some r) (k: ∀b,o=some b->P (!b)):P r:=oE e fun b q e=>by
 apply s1 e;exact k b q
theorem y7(hk:5<=k)(R:eI A k)(T:St X W fr σ s){op:gR}{a b:AV}{r:Bool}(e:bV op a b σ=some r){v w:ah}(hv:V X.C W a v)(hw:V X.C W b w):
  wpAny (dC X.C) A (compareOp op v w) (fH X W fr (.bool r) σ) dp s:=by
 have hu:A.units+17<cLine:=by have:=R.units;omega
 have fin: ∀r,fH X W fr (.bool r) σ (.bool r) s:=fun r=>T.post rfl
 have two: ∀{f:Int->Int->Bool} {op:gR},(eP a fun i=>eP b fun j=>some (f i j))=some r->(∀i j t u,wpAny (dC X.C) A (compareOp op (.int i t) (.int j u)) (fH X W fr (.bool (f i j)) σ) dp s)->wpAny (dC X.C) A (compareOp op v w) (fH X W fr (.bool r) σ) dp s:=fun e h=>by
  revert hv
  refine lj e fun i e hv=> ?_
  revert hw
  refine lj e fun j e hw=> ?_
  apply s1 e
  exact hv.intE fun t=>hw.intE fun u=>h i j t u
 have inn: ∀{r':Bool},inA σ a b=some r'->Gx X.C A s v w r':=fun e=>ZX T.rel e hv hw
 have le: ∀i j:Int,(!CJ j i)=decide (i<=j):=fun i j=>by rw[xN,<- decide_not];congr 1;rw[sK]
 cases op with
 |Eq=>exact(Pr T.rel hu e hv hw).eq _ (fin _)
 |NotEq=>exact Vf e fun b' q=>(Pr T.rel hu q hv hw).ne _ (fin _)
 |Lt=>exact two e fun i j t u=>by rw[xN];exact V1 (fin _)
 |LtE=>
  revert hv
  cases a<;>intro hv<;>first|exact nn e|skip
  ·rename_i i
   revert hw
   refine lj (show(eP b fun j=>some (!CJ j i))=some r from e) fun j e hw=> ?_
   apply s1 e
   refine hv.intE fun t=>hw.intE fun u=> ?_
   rw[le];exact V0 (fin _)
  ·rename_i x
   revert hw
   refine fO (show(d8 b fun t=>some (!CK t x))=some r from e) fun j e hw=> ?_
   apply s1 e
   refine hv.strE fun t=>hw.strE fun u=>PySem.P.le_str ?_
   rw[gL,gL,Ep]
   exact fin _
 |Gt=>exact two (f:=fun i j=>CJ j i) e fun i j t u=>by rw[xN];exact VY (fin _)
 |GtE=>exact two (f:=fun i j=> !CJ i j) e fun i j t u=>by rw[le];exact VX (fin _)
 |Is=>
  revert hw
  exact Cg e fun e hw=>hw.noneE (is_none (by rw[FO e hv];exact fin _))
 |IsNot=>
  revert hw
  exact Cg e fun e hw=>hw.noneE (Vf e fun b' q=>isNot_none (by rw[FO q hv];exact fin _))
 |In=>exact VS (ax s.toks) ((inn e).isIn _ fun t ht=>(T.toks t ht).post rfl)
 |NotIn=>exact Vf e fun b' q=>VS (ax s.toks) ((inn q).not _ fun t ht=>(T.toks t ht).post rfl)
theorem Sw{f:AV->AV->AS->Option Bool}{m n:EM}{r:Bool}(e:fi f m n fr σ=some (r,ai)){P:Prop}(k: ∀a ay b,m fr σ=some (a,ay)->n fr ay=some (b,ai)->f a b ai=some r->P):P:=
 fM e fun a ay e1 e=>fM e fun b aM e2 e=>oE e fun r' e3 e=>by
  cases e;exact k a ay b e1 e2 e3
@[elab_as_elim] theorem aap {m:BM} {c:AV} {Q:AV->AS->Prop} (e:rO m fr σ=some (c,ai)) (k: ∀b ay,m fr σ=some (b,ay)->Q (.bool b) ay):Q c ai:=fM e fun b ay q e=>by
 apply s2 e;exact k b ay q
theorem aj6{op:gR}{m n:EM}{a b:an}{p:Pos}(hk:5<=k)(hm:bZ X k m a)(hn:bZ X k n b)(hb:behindInMarks op b=false):bZ X k (rO (fi (bV op) m n)) (.Compare a [op] [b] p):=fun A R W fr σ s T c ai e=>by
 refine aap e fun r ay q=> ?_
 exact Sw q fun x ay y e1 e2 e3=>wpAny_Compare1 (EC hm hn R T e1 e2 fun v w dP ct l cL d6 jX=>eo (y7 hk R cL e3 d6 jX) fun _ _ z=>z.le l) hb
theorem aeK{op:gR}{m n:EM}{a b:an}{p:Pos}(hk:5<=k)(hm:bZ X k m a)(hn:bZ X k n b)(hb:behindInMarks op b=false):nh X k (fi (bV op) m n) (.Compare a [op] [b] p):=fun A R W fr σ s T r ai e=>by
 refine Sw e fun x ay y e1 e2 e3=>wpAny_isTrue_Compare1 (EC hm hn R T e1 e2 fun v w dP ct l cL d6 jX=>eo (y7 hk R cL e3 d6 jX) fun u jG z=> ?_) hb
 exact z.elim fun xu gT i7 h=>h.boolE (fG ⟨rfl,xu,l.trans gT,i7⟩)
theorem jL{n:Nat}(h:dv n=true):n<=4000000:=av h
theorem iV{n:Nat}(h:dv n=true):n<=sizeLine:=au (jL h) (by decide)
theorem mo{l:aa}{vs:List ah}(h:VL X.C W l vs):vs.toArray.isEmpty=l.isEmpty:=by
 have:=h.length
 cases l<;>cases vs<;>simp_all
@[elab_as_elim] theorem LX {l:aa} {b:Bool} (e:Pz l=some b) {P:Bool->Prop} (k:dv l.length=true->P (!l.isEmpty)):P b:=kS e fun h e=>by
 apply s1 e;exact k h
theorem zB(T:St X W fr σ s){a:AV}{b:Bool}(e:qM σ a=some b){v:ah}(hv:V X.C W a v):wpAny (dC X.C) A (truthy v) (oY X W fr b σ) dp s:=by
 have lst: ∀{a:AV} {l:List AV},iL σ a=some l->V X.C W a v->Pz l=some b->wpAny (dC X.C) A (truthy v) (oY X W fr b σ) dp s:=fun q1 hv q2=>by
  refine nk T.rel q1 hv fun x n vs g q=> ?_
  refine LX q2 fun ok=> ?_
  refine wpAny_truthy_list (lM g) (by have:=jL ok;simp only[aZ,q.length];omega) ?_
  rw[mo q];exact(T.toks _).postB _
 revert hv
 cases a<;>intro hv<;>first|exact nn e|skip
 ·apply s1 e;exact hv.noneE (N5 (T.postB _))
 ·apply s1 e;exact hv.boolE (fG (T.postB _))
 ·rename_i i
  apply s1 e
  have:(!KB i 0)=(i !=0):=by rw[q8];rfl
  rw[this]
  exact hv.intE fun t=>PySem.P.truthy_int (T.postB _)
 ·rename_i x
  refine kS e fun ok e=> ?_
  apply s1 e
  have hl:=jL ok
  refine hv.strE fun t=>PySem.P.truthy_str (by rw[bK];omega) ?_
  have:(((aP x).length:Int) !=0)= !x.isEmpty:=by
   rw[bK]
   cases x with
   |nil=>rfl
   |cons a l=>simp only[bM,EK,fj];exact bne_iff_ne.mpr (by omega)
  rw[this];exact(T.toks _).postB _
 ·rename_i l
  refine LX e fun ok=> ?_
  refine hv.tupE fun x n vs g q=> ?_
  refine Nr (items:=vs.toArray) ⟨_,T.rel.im _ _ g,rfl,n,rfl⟩ (by have:=jL ok;simp only[aZ,q.length];omega) ?_
  rw[mo q];exact(T.toks _).postB _
 ·exact lst rfl hv e
 ·refine lstE e fun l hg e=>lst (a:=.ref _) ?_ hv e
  show np σ _ some=some l
  unfold np;rw[hg];rfl
theorem oY.le'{b b':Bool}(l:W.le W')(z:oY X W' fr b σ b' s):oY X W fr b σ b' s:=⟨z.1,let⟨ct,dJ,cL⟩:=z.2;⟨ct,l.trans dJ,cL⟩⟩
theorem YC{m:EM}{b:Bool}{P:Prop}(e:jd m fr σ=some (b,ai))(k: ∀a,m fr σ=some (a,ai)->qM ai a=some b->P):P:=fM e fun a ay e1 e=>oE e fun b' e2 e=>by
 cases e;exact k a e1 e2
theorem aeT{m:EM}{e:an}(hm:bZ X k m e)(he: ∀env w,isTrue e env w=(do let v <- w;standAt e.pos;holding [v] (truthy v))):nh X k (jd m) e:=fun A R W fr σ s T b ai q=>by
 rw[he]
 exact YC q fun a e1 e2=>aq (hm.go R T e1 fun v bn bf bz br d6=>aq (du (dD (eo (zB br e2 d6) fun _ _ z=>z.le' bz))))
@[elab_as_elim] theorem abK {m:BM} {b:Bool} {Q:Bool->AS->Prop} (e:o8 m fr σ=some (b,ai)) (k: ∀a ay,m fr σ=some (a,ay)->Q (!a) ay):Q b ai:=fM e fun a ay e1 e=>by
 apply s2 e;exact k a ay e1
theorem aeR{b:BM}{e:an}{p:Pos}(hb:nh X k b e):nh X k (o8 b) (.UnaryOp .Not e p):=fun A R W fr σ s T r ai q=>by
 refine abK q fun a ay e1=> ?_
 show wpAny _ _ (do return !(<- isTrue e X.env (eval e X.env))) _ _ _
 exact aq (hb.go R T e1 fun bn bf bz br=>aL ⟨rfl,bf,bz,br⟩)
theorem ak6(op:cB)(x y:an)(env:Env):allTrue op [x,y] env=(do match op,<- isTrue x env (eval x env)with| .And,false=>pure false| .Or,true=>pure true|_,_=>allTrue op [y] env):=rfl
theorem UA{M:k8}{Q:Bool->az->Prop}{E:ah->az->Prop}(op:cB)(y:an)(env:Env)(h:wpAny M A (isTrue y env (eval y env)) Q E s):wpAny M A (allTrue op [y] env) Q E s:=by
 show wpAny M A (do match op,<- isTrue y env (eval y env)with| .And,false=>pure false| .Or,true=>pure true|_,_=>allTrue op [] env) Q E s
 refine aq (jr h (fun b s' hq=> ?_) fun _ _ e=>e)
 cases op<;>cases b<;>exact aL hq
def pP(X:FX)(k:Nat)(op:cB)(m:BM)(es:List an):Prop:=
 ∀A,eI A k-> ∀W fr σ s,St X W fr σ s-> ∀b ai,m fr σ=some (b,ai)->wpAny (dC X.C) A (allTrue op es X.env) (oY X W fr b ai) dp s
theorem pP.one{op:cB}{b:BM}{e:an}(h:nh X k b e):pP X k op b [e]:=fun A R W fr σ s T r ai q=>UA op e X.env (h A R W fr σ s T r ai q)
theorem pP.and{a b:BM}{e:an}{es:List an}(ha:nh X k a e)(hb:pP X k .And b es):pP X k .And (amS a b) (e::es):=fun A R W fr σ s T r ai q=>by
 show wpAny _ _ (do match YQ,<- isTrue e X.env (eval e X.env)with| .And,false=>pure false| .Or,true=>pure true|_,_=>allTrue .And es X.env) _ _ _
 refine fM q fun t ay e1 q=>aq (ha.go R T e1 fun bn bf bz br=> ?_)
 cases t with
 |true=>exact eo (hb A R bf fr ay bn br r ai q) fun _ _ z=>z.le' bz
 |false=>apply s2 q;exact aL ⟨rfl,bf,bz,br⟩
theorem pP.or{a b:BM}{e:an}{es:List an}(ha:nh X k a e)(hb:pP X k .Or b es):pP X k .Or (RC a b) (e::es):=fun A R W fr σ s T r ai q=>by
 show wpAny _ _ (do match abd,<- isTrue e X.env (eval e X.env)with| .And,false=>pure false| .Or,true=>pure true|_,_=>allTrue .Or es X.env) _ _ _
 refine fM q fun t ay e1 q=>aq (ha.go R T e1 fun bn bf bz br=> ?_)
 cases t with
 |true=>apply s2 q;exact aL ⟨rfl,bf,bz,br⟩
 |false=>exact eo (hb A R bf fr ay bn br r ai q) fun _ _ z=>z.le' bz
theorem pP.test{op:cB}{m:BM}{es:List an}{p:Pos}(h:pP X k op m es):nh X k m (.BoolOp op es p):=fun A R W fr σ s T r ai q=>h A R W fr σ s T r ai q
def kW(X:FX)(k:Nat)(op:cB)(m:EM)(es:List an):Prop:=
 ∀A,eI A k-> ∀W fr σ s,St X W fr σ s-> ∀a ai,m fr σ=some (a,ai)-> ∀p,wpAny (dC X.C) A (boolOp p op (evalEach es X.env)) (fH X W fr a ai) dp s
theorem kW.one{op:cB}{m:EM}{e:an}(h:bZ X k m e):kW X k op m [e]:=fun A R W fr σ s T a ai q p=>h A R W fr σ s T a ai q
theorem UJ(p:Pos)(op:cB)(x:Sem ah)(y:Sem ah)(r:List (Sem ah)):boolOp p op (x::y::r)=(do
  let v <- x
  standAt p
  let t <- holding [v] (truthy v)
  match op,t with
  | .And,false| .Or,true=>pure v
  |_,_=>boolOp p op (y::r)):=rfl
theorem WX{op:cB}{m:EM}{e e':an}{es:List an}(hm:bZ X k m e)(R:eI A k)(T:St X W fr σ s){a:AV}{ay:AS}(e1:m fr σ=some (a,ay)){t:Bool}(e2:qM ay a=some t){p:Pos}{Q:ah->az->Prop}
  (h: ∀v dP ct,W.le ct->St X ct fr ay dP->V X.C ct a v->wpAny (dC X.C) A (match op,t with| .And,false| .Or,true=>pure v|_,_=>boolOp p op (evalEach (e'::es) X.env)) Q dp dP):wpAny (dC X.C) A (boolOp p op (evalEach (e::e'::es) X.env)) Q dp s:=by
 show wpAny _ _ (boolOp p op (eval e X.env::eval e' X.env::evalEach es X.env)) _ _ _
 rw[UJ]
 exact aq (hm.go R T e1 fun v bn bf bz br d6=>aq (du (aq (dD (eo (zB br e2 d6) fun t dP z=>z.elim fun ct dJ cL=>h v dP ct (bz.trans dJ) cL (d6.mono dJ))))))
theorem kW.and{m n:EM}{e e':an}{es:List an}(hm:bZ X k m e)(hn:kW X k .And n (e'::es)):kW X k .And (SE m n) (e::e'::es):=fun A R W fr σ s T a ai q p=>by
 refine fM q fun wb ay e1 q=>oE q fun t e2 q=>WX hm R T e1 e2 fun v dP ct l cL z=> ?_
 cases t with
 |true=>exact eo (hn A R ct fr ay dP cL a ai q p) fun _ _ z=>z.le l
 |false=>apply s2 q;exact aL ⟨ct,l,cL,z⟩
theorem kW.or{m n:EM}{e e':an}{es:List an}(hm:bZ X k m e)(hn:kW X k .Or n (e'::es)):kW X k .Or (eOr m n) (e::e'::es):=fun A R W fr σ s T a ai q p=>by
 refine fM q fun wb ay e1 q=>oE q fun t e2 q=>WX hm R T e1 e2 fun v dP ct l cL z=> ?_
 cases t with
 |true=>apply s2 q;exact aL ⟨ct,l,cL,z⟩
 |false=>exact eo (hn A R ct fr ay dP cL a ai q p) fun _ _ z=>z.le l
theorem kW.val{op:cB}{m:EM}{es:List an}{p:Pos}(h:kW X k op m es):bZ X k m (.BoolOp op es p):=fun A R W fr σ s T a ai q=>h A R W fr σ s T a ai q p
theorem akd{m:EM}{e:an}{p:Pos}(hm:bZ X k m e):bZ X k (rO (o8 (jd m))) (.UnaryOp .Not e p):=fun A R W fr σ s T a ai q=>by
 refine aap q fun r ay e0=> ?_
 refine abK e0 fun r ay e0=> ?_
 refine YC e0 fun a e1 e2=> ?_
 show wpAny _ _ (do let v <- eval e X.env;standAt p;holding [v] (unaryOp .Not v)) _ _ _
 exact aq (hm.go R T e1 fun v bn bf bz br d6=>aq (du (dD (V2 (eo (zB br e2 d6) fun t dP z=>z.elim fun ct dJ cL=>⟨ct,bz.trans dJ,cL,rfl⟩)))))
theorem akc{m:EM}{e:an}{p:Pos}(hm:bZ X k m e):bZ X k (un ah4 m) (.UnaryOp .USub e p):=fun A R W fr σ s T a ai q=>by
 refine fM q fun wb ay e1 q=>oE q fun b e2 q=> ?_
 apply s2 q
 show wpAny _ _ (do let v <- eval e X.env;standAt p;holding [v] (unaryOp .USub v)) _ _ _
 refine aq (hm.go R T e1 fun v bn bf bz br d6=>aq (du (dD ?_)))
 revert d6
 refine lj e2 fun i e2 d6=> ?_
 apply s1 e2
 exact d6.intE fun t=>TY ⟨bf,bz,br.toks _,_,rfl⟩
theorem aka{c:BM}{m n:EM}{t a b:an}{p:Pos}(hc:nh X k c t)(hm:bZ X k m a)(hn:bZ X k n b):bZ X k (s7 c m n) (.IfExp t a b p):=fun A R W fr σ s T v ai q=>by
 show wpAny _ _ (do if <- isTrue t X.env (eval t X.env)then eval a X.env else eval b X.env) _ _ _
 refine fM q fun r ay e1 q=>aq (hc.go R T e1 fun bn bf bz br=> ?_)
 cases r with
 |true=>exact eo (hm A R bf fr ay bn br v ai q) fun _ _ z=>z.le bz
 |false=>exact eo (hn A R bf fr ay bn br v ai q) fun _ _ z=>z.le bz
end
end
end
section
open PySem.SeqAt
noncomputable section
section
variable{X:FX}{k:Nat}{W W':Wd}{fr:Fm}{σ ai:AS}{s s':az}{A:bX}
theorem zv{i:Int}(h:my i=true):kO i<=4001:=by
 have h1:i.natAbs<=2^4000:=av h
 unfold kO
 split
 ·omega
 ·rename_i q
  have h0:i.natAbs≠0:=by simpa using q
  have:i.natAbs.log2<4001:=(Fi h0).mpr (eV h1 (yD (by decide) (by decide)))
  omega
theorem ua: ∀(n:Nat) (x acc:List ah),((bH n x.toArray).foldl (fun x1 x2=>x1++x2) acc.toArray)=(acc++(bH n x).flatten).toArray
 |0,x,acc=>by simp
 |n+1,x,acc=>by
  rw[kR,HM,kR,mJ,<- aB]
  have e:acc.toArray++x.toArray=(acc++x).toArray:=by simp
  rw[e];exact ua n x (acc++x)
theorem abl{C:PC}{l:aa}{vs:List ah}(h:VL C W l vs): ∀n,VL C W ((bH n l).flatten) ((bH n vs).flatten)
 |0=>VL.nil
 |n+1=>by
  rw[kR,mJ,kR,mJ]
  exact h.append (abl h n)
@[elab_as_elim] theorem afo {a b:AV} {f:Int->Int->Option AV} {r:AV} {C:PC} {W:Wd} {v w:ah} {Q:ah->ah->Prop} (e:(eP a fun i=>eP b fun j=>f i j)=some r) (hv:V C W a v) (hw:V C W b w) (k: ∀i j t u,f i j=some r->Q (.int i t) (.int j u)):Q v w:=by
 revert hv
 refine lj e fun i e hv=> ?_
 revert hw
 refine lj e fun j e hw=> ?_
 exact hv.intE fun t=>hw.intE fun u=>k i j t u e
theorem Yj{j:Int}(h:my j=true)(h0:j≠0):j.natAbs.log2<4001:=by
 have h1:j.natAbs<=2^4000:=av h
 exact(Fi (Int.natAbs_ne_zero.mpr h0)).mpr (eV h1 (yD (by decide) (by decide)))
theorem WT(T:St X W fr σ s){op:iy}{a b c:AV}(e:amU op a b=some c){v w:ah}(hv:V X.C W a v)(hw:V X.C W b w):
  wpAny (dC X.C) A (binaryOp op v w) (fH X W fr c σ) dp s:=by
 have int: ∀i t,fH X W fr (.int i) σ (.int i t) {s with toks:=s.toks+1}:=fun i t=>(T.toks _).post ⟨_,rfl⟩
 have hii: ∀{op:iy} {f:Int->Int->Option AV},(eP a fun i=>eP b fun j=>f i j)=some c->(∀i j t u,f i j=some c->wpAny (dC X.C) A (binaryOp op (.int i t) (.int j u)) (fH X W fr c σ) dp s)->wpAny (dC X.C) A (binaryOp op v w) (fH X W fr c σ) dp s:=fun e h=>afo e hv hw h
 cases op<;>first|exact nn e|skip
 ·revert hv
  cases a<;>intro hv<;>first|exact nn e|skip
  ·revert hw
   refine lj (show(eP b fun j=>_)=some c from e) fun j e hw=> ?_
   apply s1 e
   exact hv.intE fun t=>hw.intE fun u=>TT (int _ _)
  ·rename_i x
   revert hw
   refine fO (show(d8 b fun t=>_)=some c from e) fun y e hw=>kS e fun ok e=> ?_
   rw[ig,ig]at ok
   rw[WM]at e
   apply s1 e
   refine hv.strE fun t=>hw.strE fun u=>VS (ax s.toks) (TU (fun t' tk ht=>(T.toks _ ht).post ⟨t',by rw[RV]⟩) ?_)
   rw[bK,bK];exact iV ok
  ·rename_i l
   revert hw
   refine Ny (show(GY b fun t=>_)=some c from e) fun m e hw=>kS e fun z e=> ?_
   apply s1 e
   simp only[cG,dY]at z
   obtain⟨⟨z1,z2⟩,z3⟩:=z
   refine hv.tupE fun x n vs g q=>hw.tupE fun y n' ws g' q'=> ?_
   refine PySem.P.add_tuple (items:=vs.toArray) (items2:=ws.toArray) (T.rel.im _ _ g) (T.rel.im _ _ g') (by rw[mo q,z2];decide) (by rw[mo q',z3];decide) ?_ ?_
   ·rw[A3]
    obtain⟨l,T'⟩:=T.pushIm (o:=ti (vs++ws) 0) rfl s.toks
    exact⟨_,l,T',_,0,vs++ws,rfl,mm,(q.mono l).append (q'.mono l)⟩
   ·rw[aZ,aZ,q.length,q'.length];exact iV z1
 ·exact hii e fun i j t u e=>by apply s1 e;exact T0 (int _ _)
 ·revert hv
  cases a<;>intro hv<;>first|exact nn e|skip
  ·revert hw
   refine lj (show(eP b fun j=>_)=some c from e) fun j e hw=>kS e fun ok e=> ?_
   apply s1 e
   obtain⟨o1,o2⟩:=bu.mp ok
   exact hv.intE fun t=>hw.intE fun u=>TX (int _ _) (IntMulOk.of_bits (au (zv o1) (by decide)) (au (zv o2) (by decide)))
  ·revert hw
   refine lj (show(eP b fun j=>_)=some c from e) fun j e hw=>kS e fun z e=> ?_
   apply s1 e
   simp only[cG,xN,decide_eq_true_eq]at z
   obtain⟨z1,z2⟩:=z
   refine hv.strE fun t=>hw.intE fun u=>VS (ax s.toks) (PySem.SB.mul ⟨by simp;omega,fun h=>absurd z2 h,fun h=>absurd z2 h⟩ fun t' tk ht=>(T.toks _ ht).post ⟨t',?_⟩)
   unfold Txt.mul;rw[if_pos z2];rfl
 ·exact hii e fun i j t u e=>kN e fun z e=>by
   apply s1 e
   rw[q8,decide_eq_false_iff_not]at z
   exact TW z (int _ _)
 ·exact hii e fun i j t u e=>kS e fun z e=>by
   apply s1 e
   simp only[cG,dY,xN,decide_eq_true_eq,decide_eq_false_iff_not]at z
   obtain⟨⟨z1,z2⟩,z3⟩:=z
   refine TZ (sK.mp z2) ?_ (int _ _)
   have:=zv z1
   have h1:(kO i:Int)<=4001:=by omega
   have h2:(kO i:Int)*j<=4001*1000:=Int.mul_le_mul h1 (by omega) (by omega) (by omega)
   omega
 ·exact hii e fun i j t u e=>kN e fun z e=>by
   apply s1 e
   simp only[oB,q8,decide_eq_false_iff_not,Bool.not_eq_false']at z
   exact Nq z.1 (int _ _) (.inl (PyProof.noPylong_of_log2 (Nat.lt_trans (Yj z.2 z.1) (by decide))))
theorem Vd{prog:fT}{w:dH}{E:ah->az->Prop}{l:aC}{items:Array ah}{n:Nat}{x:Int}{u:Tok}{Q:ah->az->Prop}(hl:s.heap.get? l=some {cls:=.type "list",dict:=none,data:=.seq items n,slots:= #[]})
  (k1: ¬(!ky x)=true)(k2: ¬items.size*x.toNat>(2^63-1) / 8)(k3: ¬iX (items.size*x.toNat)=true)
  (h:Q (.ref s.heap.objs.size) {s with heap:=s.heap.push {cls:=.type "list",data:=.seq (TQ (fun x1 x2=>x1++x2) #[] (bH (if items.isEmpty=true then 0 else x.toNat) items))}}):
  wpAny (model prog w) A (binaryOp .Mult (.ref l) (.int x u)) Q E s:=
 wpAny_binaryOp_repeat_ref (T:="list") (U:="int") (by decide) ⟨_,hl,rfl⟩ (fun s'=>typeIs_int s' x u) noFill_list_mul F.fills_int_mul HL repeat_list F.slot_int_index.lookup
  (l8 HL (typeIs_int s x u) F.entry_int_rmul (F.args_int_rmul_2 _ _) (int___rmul___int_list x u l items n)
   ⟨hl,rfl,⟨_,hl,rfl⟩,l8 F.slot_list_mul ⟨_,hl,rfl⟩ F.entry_list_mul (F.args_list_mul_2 _ _)
    (Fh l items n x u k1 k2 k3) ⟨hl,h⟩⟩)
theorem aai(T:St X W fr σ s){x j:Nat}{l:aa}(hg:σ.get x=some (.lst l))(z:bt j 100=true)(z2:cT l.length 1000=true){v:ah}(hv:V X.C W (.ref x) v)(u:Tok):
  wpAny (dC X.C) A (binaryOp .Mult v (.int (.ofNat j) u)) (fH X W fr (.ref σ.next) (σ.alloc (.lst ((bH j l).flatten)))) dp s:=by
 refine T.rel.lstE hg hv fun p vs n _ _ g q=> ?_
 have z:=c9.mp z
 have z2:=av z2
 have hp:vs.length*j<=1000*100:=Nat.mul_le_mul (by rw[q.length];exact z2) (iZ z)
 have hj:(am j).toNat=j:=rfl
 have hz:vs.toArray.size*(am j).toNat <=100000:=by rw[aZ,hj];exact hp
 clear hv hg hp z2
 have k1: ¬(!ky (am j))=true:=by
  have h1:(-(2^63):Int)<=am j:=by have:=dh j;show(-(2^63):Int)<=(j:Int);omega
  have h2:(am j:Int)<2^63:=by show(j:Int)<2^63;omega
  simp only[ky,decide_eq_true h1,decide_eq_true h2];decide
 have k2: ¬vs.toArray.size*(am j).toNat >(2^63-1) / 8:=b6.mpr (au hz (by decide))
 have k3: ¬iX (vs.toArray.size*(am j).toNat)=true:=by
  unfold iX sizeLine;rw[decide_eq_true_iff];exact b6.mpr (au hz (by decide))
 refine Vd g k1 k2 k3 ?_
 have e1:(TQ (fun x1 x2=>x1++x2) #[] (bH (if vs.toArray.isEmpty=true then 0 else(am j).toNat) vs.toArray))=((bH j vs).flatten).toArray:=by
  have e2:=ua (if vs.toArray.isEmpty=true then 0 else(am j).toNat) vs []
  rw[ve]at e2
  rw[show(#[]:Array ah)=([]:List ah).toArray from rfl,e2]
  cases vs with
  |nil=>simp
  |cons v vs=>simp
 rw[e1]
 obtain⟨l,T'⟩:=T.pushLst (abl q j) s.toks
 exact⟨_,l,T',q6⟩
theorem Zf{op:iy}:amN X k (binaryOp op) (bU op):=fun A R W fr σ s T a b v w hv hw c ai e=>by
 refine odE e (fun c' q e=> ?_) fun e=> ?_
 ·apply s2 e;exact WT T q hv hw
 cases op<;>first|exact nn e|skip
 ·refine oE (show ob (iL σ a) _=_ from e) fun l hl e=>oE e fun m hm e=>kS e fun ok e=> ?_
  apply s2 e
  refine nk T.rel hl hv fun x n vs g q=>nk T.rel hm hw fun y n' ws g' q'=>PySem.P.add_list (items:=vs.toArray) (items2:=ws.toArray) g g' ?_ ?_
  ·rw[A3]
   obtain⟨l,T'⟩:=T.pushLst (q.append q') s.toks
   exact⟨_,l,T',q6⟩
  ·rw[aZ,aZ,q.length,q'.length];exact iV ok
 ·revert hv
  refine ir (show(ic a fun x=>_)=some (c,ai) from e) fun x e hv=> ?_
  revert hw
  refine mi e fun j e hw=>kS e fun z e=>lstE e fun l hg e=>kS e fun z2 e=> ?_
  apply s2 e
  exact hw.intE fun u=>aai T hg z z2 hv u
end
end
end
section
open PySem.SeqAt
noncomputable section
section
variable{X:FX}{k:Nat}{W W':Wd}{fr:Fm}{σ ai:AS}{s s':az}{A:bX}{h:bJ}{C:PC}
noncomputable def s0:an->Bool
 | .Call f a _ _=>match f with
  | .Name .. => !a.isEmpty
  | .Attribute .. =>true
  |_=>false
 |_=>true
theorem afz{o:an}(ho:s0 o=true)(attr:Str)(env:Env)(w:Sem ah):attributeBase o attr env w=w:=by
 cases o with
 |Call f a k p=>cases f with
  |Name x q=>cases a with
   |nil=>exact ff ho
   |cons=>rfl
  |Attribute=>rfl
  |_=>exact ff ho
 |_=>rfl
theorem lY{M:k8}{E:ah->az->Prop}{o:an}{attr:Str}{env:Env}{Q:ah->az->Prop}(ho:s0 o=true)
  (h:wpAny M A (eval o env) Q E s):wpAny M A (attributeBase o attr env (eval o env)) Q E s:=by
 rw[afz ho];exact h
theorem Vo{a b:AV}(e:tc a=some b){P:AV->Prop}(k:(∀{v:ah},V C W a v->handedIn v=true)->P a):P b:=by
 cases a<;>first|exact nn e|(apply s1 e;refine k fun{v} hv=> ?_;first|exact hv.noneE rfl|exact hv.boolE rfl|exact hv.intE fun _=>rfl|exact hv.strE fun _=>rfl|exact hv.bytesE fun _=>rfl|exact hv.tupE fun _ _ _ _ _=>rfl|exact hv.lstE fun _ _ _ _ _=>rfl|exact hv.frzE fun _ _ _ _ _ _ _ _ _ _=>rfl|exact hv.dctE fun _ _ _ _ _ _ _=>rfl|exact hv.dctiE fun _ _ _ _ _ _ _=>rfl|exact hv.rngE fun _ _ _ _ _ _ _=>rfl|exact hv.refE fun _ _=>rfl)
theorem ZO{x k:Nat}(hx:x<C.nf)(hk:k<C.nf){en:hJ}{es:List hJ}{t:Tok}(ht:en.key= .str (C.fname x) t):getL (C.fname k) (en::es)=if k=x then some (some en.val)else getL (C.fname k) es:=by
 by_cases h:k=x
 ·subst h
  rw[if_pos rfl]
  unfold getL
  rw[oJ,ht]
  simp[iQ]
 ·rw[if_neg h]
  have hne:C.fname x≠C.fname k:=fun q=>h (C.fnameInj _ _ hx hk q).symm
  have hf:en.key.isStr (C.fname k)=false:=by rw[ht];simp[iQ,hne]
  have hr:en.refKey=false:=by unfold Gl;rw[ht]
  unfold getL
  rw[oJ,hf,rv,hr];rfl
theorem Xh{k:Nat}(hk:k<C.nf): ∀{ks:ac} {fs:aa} {vs:List ah} {es:List hJ} {b:AV},xG k ks fs=some b->VL C W fs vs->oT C ks vs es-> ∃v,getL (C.fname k) es=some (some v)/\V C W b v:=by
 intro ks
 induction ks with
 |nil=>intro fs vs es b e;exact nn e
 |cons x ks ih=>
  intro fs vs es b e hv
  cases fs with
  |nil=>exact nn e
  |cons a fs=>
   refine hv.consE fun v r h1 h2 hK=> ?_
   cases es with
   |nil=>exact hK.elim
   |cons en es=>
    obtain⟨hx,⟨t,ht⟩,rfl,hK⟩:=hK
    rw[ZO hx hk ht]
    rw[Xi,fV]at e
    by_cases z:k=x
    ·rw[if_pos z]
     rw[decide_eq_true z]at e
     cases e
     exact⟨_,rfl,h1⟩
    ·rw[if_neg z]
     rw[decide_eq_false z]at e
     exact ih e h2 hK
theorem LQ{K:dQ}{c:aC}{n:Str}(h:yZ K c n=true):plainGet K c n=true/\hasDictIn K c=true/\(∃a,findIn K (.ref c) n=some a/\noGet K a=true)/\findIn K (.ref c) "__setattr__"=some (some (.builtin "object.__setattr__"))/\plainOver K c=true/\takerIn K c n=some none:=by
 unfold yZ at h
 simp only[cG,beq_iff_eq]at h
 obtain⟨⟨⟨⟨⟨a,b⟩,c⟩,d⟩,e⟩,f⟩:=h
 refine⟨a,b,?_,d,e,f⟩
 revert c
 cases findIn K (.ref _) n with
 |none=>exact fun c=>ff c
 |some x=>exact fun c=>⟨x,rfl,c⟩
theorem cv.K(R:cv C W σ h):C.K.In h:=fun a o e=>R.im _ _ (R.base _ _ (C.inK _ _ e))
structure Oh(C:PC)(W:Wd)(h:bJ)(v:ah)(c:Nat)(ks:List Nat)(fs:List AV):Prop where
 at_: ∃x d es n vs,v= .ref x/\C.cls c=true/\h.get? x=some (instObj c d)/\h.get? d=some (dictOf es n)/\VL C W fs vs/\oT C ks vs es
theorem SN(R:cv C W σ h){c:Nat}{ks:ac}{fs:aa}{v:ah}(hv:V C W (.frz c ks fs) v):Oh C W h v c ks fs:=
 hv.frzE fun x d es n vs q0 q1 q2 r z=>⟨x,d,es,n,vs,rfl,q0,R.im _ _ q1,R.im _ _ q2,r,z⟩
theorem Tp(R:cv C W σ h){a c:Nat}{ks:ac}{fs:aa}{v:ah}(hg:σ.get a=some (.inst c ks fs))(hv:V C W (.ref a) v):Oh C W h v c ks fs:=
 R.instE hg hv fun p es n vs _ q0 q1 q2 r z=>⟨p.1,p.2,es,n,vs,rfl,q0,R.im _ _ q1,q2,r,z⟩
theorem ai8(R:cv C W σ h){a c:Nat}{l:aa}{v:ah}(hg:σ.get a=some (.orc c l))(hc:C.cls c=true)(hv:V C W (.ref a) v): ∃ks fs,Oh C W h v c ks fs:=by
 obtain⟨p,q,rfl⟩:=hv
 obtain⟨p',e',⟨cc,q1,q2⟩,_⟩:=R.cell _ _ hg
 rw[q]at e';cases e'
 obtain⟨ks,fs,rfl⟩:=C.concInst _ _ _ q1 hc
 obtain⟨q0,q1,es,n,vs,q2,r,z⟩:=q2
 exact⟨ks,fs,p.1,p.2,es,n,vs,rfl,q0,R.im _ _ q1,q2,r,z⟩
theorem O2(T:St X W fr σ s){v:ah}{c kk:Nat}{ks:ac}{fs:aa}(I:Oh X.C W s.heap v c ks fs)(hk:kk<X.C.nf){b:AV}(e:(ob (NF c kk ks fs) fun v=>tc v)=some b){ex:Bool}:
  wpAny (dC X.C) A (getAttr v (X.C.fname kk) ex) (fH X W fr b σ) dp s:=by
 obtain⟨x,d,es,n,vs,rfl,q0,q1,q2,r,z⟩:=I.at_
 refine oE e fun aqB e0 e'=>kN e0 fun e0 e=> ?_
 obtain⟨p1,p2,⟨a,p3,p4⟩,_⟩:=LQ (X.C.attr c kk q0 hk e0)
 obtain⟨w,g,q⟩:=Xh hk e r z
 apply Vo (C:=X.C) (W:=W) e';intro e2
 exact get_value T.rel.K (I:=(⟨q1,rfl,rfl,q2⟩:InstAt s.heap x (instObj c d) c (some (dictOf es n)))) (qx p1).1 (findObj_own p2 p3 p4 g) (e2 q) ((T.toks _).post q)
theorem UF(T:St X W fr σ s){kk:Nat}(hk:kk<X.C.nf){a b:AV}(e:aA kk a σ=some b){v:ah}(hv:V X.C W a v){ex:Bool}:wpAny (dC X.C) A (getAttr v (X.C.fname kk) ex) (fH X W fr b σ) dp s:=by
 revert hv
 cases a<;>intro hv<;>first|exact nn e|skip
 ·exact O2 T (SN T.rel hv) hk e
 ·exact instE e fun c ks vs hg e=>O2 T (Tp T.rel hg hv) hk e
theorem aj4{kk:Nat}{m:EM}{o:an}{p:Pos}(hk:kk<X.C.nf)(hb:s0 o=true)(hm:bZ X k m o):bZ X k (un (aA kk) m) (.Attribute o (X.C.fname kk) p):=fun A R W fr σ s T a ai q=>by
 refine fM q fun wb ay e1 q=>oE q fun b e2 q=> ?_
 apply s2 q
 rw[arm_eval_Attribute]
 exact aq (lY hb (hm.go R T e1 fun v bn bf bz br d6=>aq (du (aq (dD
  (eo (UF br hk e2 d6) fun r dP z=>aq (wpAny_letTemporaryGo (aL (z.le bz)))))))))
theorem Qe{α:Type}: ∀{l:List α} {i:Nat} {a:α},Qd l i=some a->l[i]? =some a
 |_::_,0,_,e=>e
 |_::r,i+1,_,e=>Qe (l:=r) e
 |[],_,_,e=>by cases e
theorem alX{n:Nat}(h3:n<=4000000): -(2^63)<= -(n:Int)-1:=by omega
theorem NL(n:Nat): -(n:Int)-1<0:=by omega
theorem ab7{m n:Nat}(h2:n<m): -(m:Int)<= -(n:Int)-1:=by omega
theorem ab8{m n:Nat}(h2:n<m):m-1-n=(-(n:Int)-1+m).toNat:=by
 rw[show-(n:Int)-1+m=((m-1-n:Nat):Int) by omega];rfl
theorem Tj{α:Type}{l:List α}{i:Int}{a:α}(e:XS l i=some a): ∃n,seqIndex? i l.length=some n/\l[n]? =some a/\ -(2^63)<=i/\i<2^63/\((0<=i/\n=i.toNat)\/(i<0/\ -(l.length:Int)<=i/\n=(i+l.length).toNat)):=by
 cases i with
 |ofNat n=>
  refine kS e fun ok e=> ?_
  have h1:=Qe e
  have h2:n<l.length:=(cP.mp h1).1
  exact⟨n,StrLaws.seqIndex_nonneg (dh n) (hU.mpr h2),h1,Int.le_trans (by decide) (dh n),Bf (NV.mpr (jL ok)) (by decide),.inl ⟨dh n,rfl⟩⟩
 |negSucc n=>
  refine kS e fun ok e=> ?_
  obtain⟨o1,o2⟩:=bu.mp ok
  have h2:=c9.mp o2
  rw[show(qv n)= -(n:Int)-1 from by omega]
  refine⟨l.length-1-n,?_,Qe e,alX (jL o1),Int.lt_trans (NL n) (by decide),.inr ⟨NL n,ab7 h2,ab8 h2⟩⟩
  rw[StrLaws.seqIndex_neg (NL n) (ab7 h2),ab8 h2]
theorem adN(T:St X W fr σ s){a b:AV}{l:aa}(hl:nC σ a=some l){j:Int}{t:Tok}(e:XS l j=some b){v:ah}(hv:V X.C W a v):
  wpAny (dC X.C) A (getItem v (.int j t)) (fH X W fr b σ) dp s/\ ∃T',s.TypeIs v T'/\ ∃id,typeLookup (.type T') "__getitem__"=pure (some (.builtin id)):=by
 refine Hi T.rel hl hv fun x m vs q z=> ?_
 obtain⟨n,e1,e2,e3,e4,e5⟩:=Tj e
 obtain⟨w,g,r⟩:=q.get e2
 have g':vs.toArray[n]? =some w:=by rw[jP];exact g
 have hs:(vs.toArray.size:Int)=l.length:=by rw[aZ,q.length]
 rcases z with z|z
 ·have z:=lM z
  refine⟨?_,"list",z.typeIs,_,E3.lookup⟩
  rcases e5 with⟨h0,rfl⟩|⟨h0,h1,rfl⟩
  ·exact wpAny_getItem_list z h0 e4 g' (T.post r)
  ·exact wpAny_getItem_list_neg z h0 (by rw[hs];exact h1) e3 (by rw[hs];exact g') (T.post r)
 ·refine⟨?_,"tuple",⟨_,z,rfl⟩,_,F.slot_tuple_getitem.lookup⟩
  exact PySem.P.getItem_tuple (items:=vs.toArray) z e3 e4 (by rw[aZ,q.length];exact e1) g' (T.post r)
theorem F8{α:Type}[DecidableEq α]{a p:α}{v:ah}{l:List (α×ah)}:valueAt ((a,v)::l) p=if a=p then some v else valueAt l p:=by
 unfold valueAt
 rw[oJ]
 by_cases h:a=p
 ·rw[if_pos h,decide_eq_true h];rfl
 ·rw[if_neg h,decide_eq_false h]
theorem Zw(p:ac): ∀{ks:List (List Nat)} {fs:aa} {vs:List ah} {b:AV},NB p ks fs=some b->VL C W fs vs-> ∃v,valueAt ((ks.map aP).zip vs) (aP p)=some v/\V C W b v:=by
 intro ks
 induction ks with
 |nil=>intro fs vs b e;exact nn e
 |cons k ks ih=>
  intro fs vs b e hv
  cases fs with
  |nil=>exact nn e
  |cons a fs=>
   refine hv.consE fun v r h1 h2=> ?_
   rw[bd,bL,F8]
   have z:=qs (a:=k) (b:=p)
   refine bE e (fun q e=> ?_) fun q e=> ?_
   ·rw[q]at z
    cases e
    exact⟨v,if_pos (beq_iff_eq.mp z),h1⟩
   ·rw[q]at z
    rw[if_neg (beq_eq_false_iff_ne.mp z)]
    exact ih e h2
theorem W7(p:Int): ∀{ks:List Int} {fs:aa} {vs:List ah} {b:AV},IE p ks fs=some b->VL C W fs vs-> ∃v,valueAt (ks.zip vs) p=some v/\V C W b v:=by
 intro ks
 induction ks with
 |nil=>intro fs vs b e;exact nn e
 |cons k ks ih=>
  intro fs vs b e hv
  cases fs with
  |nil=>exact nn e
  |cons a fs=>
   refine hv.consE fun v r h1 h2=> ?_
   rw[bL,F8]
   refine bE e (fun q e=> ?_) fun q e=> ?_
   ·rw[q8,decide_eq_true_iff]at q
    cases e
    exact⟨v,if_pos q,h1⟩
   ·rw[q8,decide_eq_false_iff_not]at q
    rw[if_neg q]
    exact ih e h2
@[elab_as_elim] theorem af2 (R:cv C W σ h) {a:AV} {ks:List (List Nat)} {fs:aa} (e:af1 σ a=some (ks,fs)) {v:ah} {Q:ah->Prop} (hv:V C W a v) (k: ∀x vs,(x==sysModules)=false->VL C W fs vs->h.DictOf (strKind C.prog C.w) x ((ks.map aP).zip vs)->Q (.ref x)):Q v:=by
 revert hv
 cases a<;>intro hv<;>first|exact nn e|skip
 ·cases e
  exact hv.dctE fun x o vs q0 q r z=>k x vs q0 r (jn.mpr ⟨o,R.im _ _ q,z.2⟩)
 ·refine dctE (show SA σ _ _=_ from e) fun ks' vs hg e=> ?_
  cases e
  exact R.dctE hg hv fun p o vs _ _ q0 g r z=>k p.1 vs q0 r (jn.mpr ⟨o,g,z.2⟩)
@[elab_as_elim] theorem afn {β:Type} {a:AV} {r:β} {Q:AV->Prop} {f:List Int->List AV->Option β} (h:abm a f=some r) (k: ∀ks vs,f ks vs=some r->Q (.dcti ks vs)):Q a:=by
 cases a<;>first|exact nn h|exact k _ _ h
theorem ahD(T:St X W fr σ s){x:ac}{j:Int}{b:AV}(e:(ob (XS x j) fun c=>some (AV.str [c]))=some b){v:ah}(hv:V X.C W (.str x) v)(t:Tok):
  wpAny (dC X.C) A (getItem v (.int j t)) (fH X W fr b σ) dp s/\ ∃T',s.TypeIs v T'/\ ∃id,typeLookup (.type T') "__getitem__"=pure (some (.builtin id)):=oE e fun c hc e=>by
 apply s1 e
 refine hv.strE fun u=> ?_
 obtain⟨n,e1,e2,e3,e4,e5⟩:=Tj hc
 refine⟨N4 (c:=c) (by simp;omega) ?_ ((T.toks _).post ⟨_,rfl⟩),"str",rfl,_,Gq.lookup⟩
 rw[bK,e1]
 simp only[nN,aP]
 simpa using e2
theorem adE(T:St X W fr σ s){ks:List Int}{fs:aa}{j:Int}{b:AV}(e:IE j ks fs=some b){v:ah}(hv:V X.C W (.dcti ks fs) v)(t:Tok):
  wpAny (dC X.C) A (getItem v (.int j t)) (fH X W fr b σ) dp s/\ ∃T',s.TypeIs v T'/\ ∃id,typeLookup (.type T') "__getitem__"=pure (some (.builtin id)):=hv.dctiE fun x o vs q0 q r z=>by
 have hd:s.heap.DictOf (intKind X.C.prog X.C.w) x (ks.zip vs):=jn.mpr ⟨o,T.rel.im _ _ q,z.2⟩
 obtain⟨y,g,r'⟩:=W7 j e r
 exact⟨Gs (H1 X.C.prog X.C.w j t) hd.mapOf g ((T.toks _).post r'),"dict",hd.typeIs,_,E2.lookup⟩
theorem ahC(T:St X W fr σ s){a:AV}{p:ac}{b:AV}(e:(bw (af1 σ a) fun ks vs=>NB p ks vs)=some b){v:ah}(hv:V X.C W a v)(t:Tok):
  wpAny (dC X.C) A (getItem v (.str (aP p) t)) (fH X W fr b σ) dp s/\ ∃T',s.TypeIs v T'/\ ∃id,typeLookup (.type T') "__getitem__"=pure (some (.builtin id)):=fM e fun ks fs hd e=>af2 T.rel hd hv fun x vs q0 r hd=>by
 obtain⟨y,g,r'⟩:=Zw p e r
 exact⟨Gs (strKind_is X.C.prog X.C.w (aP p) t) hd.mapOf g ((T.toks _).post r'),"dict",hd.typeIs,_,E2.lookup⟩
theorem ZW(T:St X W fr σ s){a i b:AV}(e:abZ a i σ=some b){v w:ah}(hv:V X.C W a v)(hw:V X.C W i w):
  wpAny (dC X.C) A (getItem v w) (fH X W fr b σ) dp s/\ ∃T',s.TypeIs v T'/\ ∃id,typeLookup (.type T') "__getitem__"=pure (some (.builtin id)):=by
 revert hw
 cases i<;>intro hw<;>first|exact nn e|skip
 ·refine hw.intE fun t=>odE e (fun x hx e=> ?_) fun e=>odE e (fun r hr e=> ?_) fun e=>oE e fun l hl e=>adN T hl e hv
  ·revert hv
   refine fO hx fun x' hx hv=> ?_
   cases hx;exact ahD T e hv t
  ·revert hv
   refine afn hr fun ks fs hr hv=> ?_
   cases hr;exact adE T e hv t
 ·exact hw.strE fun t=>ahC T e hv t
noncomputable def PN:an->Bool
 | .Slice .. =>true
 |_=>false
theorem HC{slice:an}(h:PN slice=false)(o i:ah):subscripted slice false o i=operate [o,i] (getItem o i):=by
 cases slice<;>first|rfl|cases h
theorem aj9{m n:EM}{a i:an}{p:Pos}(hs:PN i=false)(hm:bZ X k m a)(hn:bZ X k n i):bZ X k (bi fP m n) (.Subscript a i p):=fun A R W fr σ s T c ai e=>by
 refine WS e fun x ay y aM e1 e2 e3=>oE e3 fun z e4 e3=> ?_
 apply s2 e3
 refine Subscript_ (EC hm hn R T e1 e2 fun v w dP ct l cL d6 jX=> ?_)
 obtain⟨h1,T',hT,id,hl⟩:=ZW cL e4 d6 jX
 exact tail_any hT hl (eo h1 fun _ _ z=>z.le l) (HC hs _ _)
end
end
end
section
open PySem.SeqAt
noncomputable section
noncomputable def ta(a:AV):Option Int:=eP a some
@[elab_as_elim] theorem abD {n d a:Nat} {v:AV} {Q:AV->Nat->Prop} (e:ki n d v=some a) (k1:Q .none d) (k2: ∀i,Q (.int (.ofNat i)) (DN i n)) (k3: ∀i,Q (.int (.negSucc i)) (n-(i+1))):Q v a:=by
 cases v<;>first|exact nn e|skip
 ·apply s1 e;exact k1
 ·rename_i i
  cases i with
  |ofNat i=>apply s1 e;exact k2 i
  |negSucc i=>apply s1 e;exact k3 i
theorem Zm(i n:Nat):max 0 (min (if(i:Int)<0 then(i:Int)+n else i) n)=((min i n:Nat):Int):=by
 rw[if_neg (sK.mpr (dh i)),Int.max_eq_right]
 ·omega
 ·exact Int.le_min.mpr ⟨dh i,dh n⟩
theorem Zl(i n:Nat):max 0 (min (if-(i:Int)-1<0 then-(i:Int)-1+n else-(i:Int)-1) n)=((n-(i+1):Nat):Int):=by
 rw[if_pos (NL i),Int.min_eq_left (by omega),Int.max_def]
 split<;>omega
theorem Ar(a b:Nat):sliceRange (a:Int) (b:Int) 1=(cu (b-a)).map fun k=>a+k:=by
 unfold sliceRange
 simp only[show((1:Int)>0)=True from by simp,if_true]
 by_cases hlt:(a:Int)<b
 ·have e3:(((b:Int)-a+1-1) / 1).toNat=b-a:=by first|omega|(simp;done)|(simp;omega)
  simp only[hlt,if_true,e3]
  refine fS fun k _=> ?_
  omega
 ·have:b-a=0:=by omega
  simp[hlt,this]
theorem oh{n d a:Nat}{v:AV}(e:ki n d v=some a)(hd:d<=n):a<=n/\(match ta v with|none=>(d:Int)|some i=>max 0 (min (if i<0 then i+n else i) n))=(a:Int):=by
 revert hd
 refine abD e (fun hd=>⟨hd,rfl⟩) (fun i hd=>⟨Go _ _,Zm i n⟩) fun i hd=>⟨TR _ _,?_⟩
 show max 0 (min (if qv i<0 then qv i+n else qv i) n)=_
 rw[show(qv i)= -(i:Int)-1 by omega]
 exact Zl i n
theorem vG{n d a:Nat}{v:AV}(e:ki n d v=some a):v= .none\/ ∃i,v= .int i:=by
 exact abD e (.inl rfl) (fun i=>.inr ⟨_,rfl⟩) fun i=>.inr ⟨_,rfl⟩
theorem Zi{n a b:Nat}{lo hi:AV}(h1:ki n 0 lo=some a)(h2:ki n n hi=some b):sliceBounds (ta lo) (ta hi) none n=((a:Int),(b:Int),1):=by
 have e1:=(oh h1 (aU _)).2
 have e2:=(oh h2 (ax _)).2
 unfold sliceBounds
 simp only[tD,show((1:Int)>0)=True from by simp,if_true]
 refine N2 ?_ (N2 ?_ rfl)
 ·rw[<- e1];rfl
 ·exact e2
theorem RQ{n a b:Nat}{lo hi:AV}(h1:ki n 0 lo=some a)(h2:ki n n hi=some b):qO (ta lo) (ta hi) 1 n=(cu (b-a)).map fun k=>a+k:=by
 have e1:=(oh h1 (aU _)).2
 have e2:=(oh h2 (ax _)).2
 rw[<- Ar]
 unfold qO
 simp only[show((1:Int)>0)=True from by simp,if_true]
 congr 1
theorem Pg{α:Type}(l:List α){a b:Nat}(ha:a<=l.length)(hb:b<=l.length):((cu (b-a)).map fun k=>a+k).filterMap (l[·]?)=Kz l a b:=by
 rw[StrLaws.picks l (b-a) a (by omega)];rfl
theorem afW{α:Type}(l:List α)(a b:Nat):(Kz l a b).length <=l.length:=by
 unfold Kz
 rw[kb,gW]
 exact au (Go _ _) (TR _ _)
theorem Zu{α:Type}(l:List α){a b:Nat}(ha:a<=l.length)(hb:b<=l.length)(h:b-a=l.length):Kz l a b=l:=by
 by_cases z:l.length=0
 ·have:l=[]:=mG.mp z
  subst this;simp[Kz]
 ·have h1:a=0:=by omega
  have h2:b=l.length:=by omega
  subst h1 h2
  simp[Kz]
section
variable{X:FX}{k:Nat}{W W':Wd}{fr:Fm}{σ ai:AS}{s s':az}{A:bX}{h:bJ}{C:PC}
theorem PM{v:AV}(h:v= .none\/ ∃i,v= .int i){w:ah}(hw:V C W v w):IsPart w (ta v):=by
 rcases h with rfl|⟨i,rfl⟩
 ·cases hw;exact .none
 ·obtain⟨t,rfl⟩:=hw;exact .int i t
theorem L9{v:AV}(h:v= .none\/ ∃i,v= .int i){w:ah}(hw:V C W v w): ∃p:Option (Int×Tok),w=partValue p/\p.map (·.1)=ta v:=by
 rcases h with rfl|⟨i,rfl⟩
 ·cases hw;exact⟨none,rfl,rfl⟩
 ·obtain⟨t,rfl⟩:=hw;exact⟨some (i,t),rfl,rfl⟩
theorem aj1(br:St X W fr σ s){L:aC}{x:ac}{lo hi b:AV}(e:(bif dv (eR x)then ob (ki (eR x) 0 lo) (fun p=>ob (ki (eR x) (eR x) hi) fun q=>some (AV.str (Pe x p q),σ))else none)=some (b,ai)){v vl vh:ah}(hv:V X.C W (.str x) v)(hl:V X.C W lo vl)(hh:V X.C W hi vh)(hL:s.heap.get? L=some {cls:=.type "slice",data:=.fields #[vl,vh,.none]}):
  wpAny (dC X.C) A (getItem v (.ref L)) (fH X W fr b ai) dp s/\ ∃T',s.TypeIs v T'/\ ∃id,typeLookup (.type T') "__getitem__"=pure (some (.builtin id)):=by
 rw[ig]at e
 refine kS e fun ok e=>oE e fun p h1 e=>oE e fun q h2 e=> ?_
 rw[Pf]at e
 apply s2 e
 refine hv.strE fun t=> ?_
 obtain⟨pl,rfl,el⟩:=L9 (vG h1) hl
 obtain⟨ph,rfl,eh⟩:=L9 (vG h2) hh
 refine⟨VS (n:=s.toks) (ax _) (wpAny_getItem_str_slice (l:=pl) (u:=ph) (st:=none) ⟨_,hL,rfl,rfl⟩ rfl ?_),"str",rfl,_,Gq.lookup⟩
 have ha:=(oh h1 (aU _)).1
 have hb:=(oh h2 (ax _)).1
 have e1:slicePicked (aP x) pl ph none=(cu (q-p)).map fun k=>p+k:=by
  unfold slicePicked
  rw[el,eh,bK]
  exact RQ h1 h2
 have e2:(slicePicked (aP x) pl ph none).filterMap ((aP x).cps[·]?)=Kz x p q:=by
  rw[e1]
  have:=Pg x ha hb
  simpa[aP] using this
 unfold sliceMade
 refine post_val_or_made (fun _=> ?_) fun t' tk ht=> ?_
 ·rw[e2]
  show(aP (Kz x p q)).length <=_
  rw[bK];exact au (afW x p q) (iV ok)
 ·refine(br.toks _ ht).post ⟨t',?_⟩
  congr 1
  rw[e2]
  split
  ·rename_i z
   rw[e1,bK]at z
   have z':q-p=x.length:=by simpa using z
   rw[Zu x ha hb z']
  ·rfl
theorem aj0(br:St X W fr σ s){L:aC}{l:aa}{lo hi b:AV}(e:(bif dv (eR l)then ob (ki (eR l) 0 lo) (fun p=>ob (ki (eR l) (eR l) hi) fun q=>some (AV.ref σ.next,σ.alloc (.lst (Pe l p q))))else none)=some (b,ai)){x n:Nat}{vs:List ah}{vl vh:ah}(g:s.heap.get? x=some (dw vs n))(r:VL X.C W l vs)(hl:V X.C W lo vl)(hh:V X.C W hi vh)(hL:s.heap.get? L=some {cls:=.type "slice",data:=.fields #[vl,vh,.none]}):
  wpAny (dC X.C) A (getItem (.ref x) (.ref L)) (fH X W fr b ai) dp s/\ ∃T',s.TypeIs (.ref x) T'/\ ∃id,typeLookup (.type T') "__getitem__"=pure (some (.builtin id)):=by
 rw[ig]at e
 refine kS e fun ok e=>oE e fun p h1 e=>oE e fun q h2 e=> ?_
 rw[Pf]at e
 apply s2 e
 refine⟨wpAny_getItem_list_slice (lM g) ⟨_,hL,rfl,rfl⟩ (PM (vG h1) hl) (PM (vG h2) hh) .none (by simp) ?_ ?_,"list",(lM g).typeIs,_,E3.lookup⟩
 ·have ha:=(oh h1 (aU _)).1
  have hb:=(oh h2 (ax _)).1
  have e1:slicePick vs.toArray (ta lo) (ta hi) none=(Kz vs p q).toArray:=by
   unfold slicePick
   rw[aZ,r.length,Zi h1 h2]
   simp only[Ar]
   have:=Pg vs (a:=p) (b:=q) (by rw[r.length];exact ha) (by rw[r.length];exact hb)
   simpa using congrArg List.toArray this
  rw[e1]
  obtain⟨le,T'⟩:=br.pushLst ((r.drop p).take (q-p)) s.toks
  exact⟨_,le,T',q6⟩
 ·rw[aZ,r.length];exact iV ok
theorem aaF(T:St X W fr σ s){a lo hi b:AV}(e:ani a lo hi σ=some (b,ai)){v vl vh:ah}(hv:V X.C W a v)(hl:V X.C W lo vl)(hh:V X.C W hi vh):
  wpAny (dC X.C) A (getItem v (.ref s.heap.objs.size)) (fH X W fr b ai) dp {s with heap:=s.heap.push {cls:=.type "slice",data:=.fields #[vl,vh,.none]}}/\
   ∃T',Shared.TypeIs {s with heap:=s.heap.push {cls:=.type "slice",data:=.fields #[vl,vh,.none]}} v T'/\ ∃id,typeLookup (.type T') "__getitem__"=pure (some (.builtin id)):=by
 have br:St X W fr σ {s with heap:=s.heap.push {cls:=.type "slice",data:=.fields #[vl,vh,.none]}}:=T.keeps (eg _ _) s.toks
 refine odE e (fun x hx e=> ?_) fun e=>oE e fun l hla e=>nk T.rel hla hv fun x n vs g r=>aj0 br e (eg _ _ _ _ g) r hl hh (bh _ rfl)
 revert hv
 refine fO hx fun x' hx hv=> ?_
 cases hx
 exact aj1 br e hv hl hh (bh _ rfl)
def Fz(X:FX)(k:Nat)(m:EM)(e:Option an):Prop:=
 ∀A,eI A k-> ∀W fr σ s,St X W fr σ s-> ∀a ai,m fr σ=some (a,ai)->wpAny (dC X.C) A (valueOrNone (evalOpt e X.env)) (fH X W fr a ai) dp s
theorem Fz.none:Fz X k (a7 .none) none:=fun A _ W fr σ s T a ai e=>by apply s2 e;exact aL (T.post rfl)
theorem Fz.some{m:EM}{e:an}(h:bZ X k m e):Fz X k m (some e):=h
theorem akg{m n o:EM}{a:an}{lo hi:Option an}{p p':Pos}(hm:bZ X k m a)(hn:Fz X k n lo)(ho:Fz X k o hi):bZ X k (SH m n o) (.Subscript a (.Slice lo hi none p') p):=fun A R W fr σ s T c ai e=>by
 refine fM e fun x ay e1 e=>fM e fun y aM e2 e=>fM e fun z cJ e3 e=>Subscript_ (hm.go R T e1 fun v bn bf bz br d6=> ?_)
 rw[arm_eval_Slice]
 refine aq (eo (hn A R bf fr _ bn br _ _ e2) fun vl dP z=>z.elim fun ct dJ cL jX=> ?_)
 refine aq (dD (eo (ho A R ct fr _ dP cL _ _ e3) fun vh jG z=>z.elim fun xu gT i7 aqh=> ?_))
 refine aq (dD (aL (gJ ?_ (by size_fits))))
 obtain⟨h1,T',hT,id,hl⟩:=aaF (A:=A) i7 e ((d6.mono dJ).mono gT) (jX.mono gT) aqh
 exact tail_any hT hl (eo h1 fun _ _ z=>z.le (bz.trans (dJ.trans gT))) rfl
end
end
end
section
open PySem.SeqAt
noncomputable section
section
variable{X:FX}{k:Nat}{W W':Wd}{fr:Fm}{σ ai:AS}{s s':az}{A:bX}{h h':bJ}{C:PC}
noncomputable def jb:an->Bool
 | .Starred .. =>true
 |_=>false
theorem lU{e:an}(he:jb e=false)(es:List an)(env:Env):starEach (e::es) env=(false,eval e env)::starEach es env:=by
 cases e<;>first|rfl|cases he
theorem Yt:z0 X k aJ []:=fun A _ W fr σ s T l ai e pos=>by
 apply s2 e;exact spliced_nil ⟨W,.refl W,T,VL.nil⟩
theorem K7{m:EM}{n:LM}{e:an}{es:List an}(he:jb e=false)(hm:bZ X k m e)(hn:z0 X k n es):z0 X k (aw m n) (e::es):=fun A R W fr σ s T l ai q pos=>by
 refine fM q fun wb ay e1 q=>fM q fun aqA aM e2 q=> ?_
 apply s2 q
 rw[lU he]
 show wpAny _ _ (spliced ((false,eval e X.env)::backTo pos (starEach es X.env))) _ _ _
 exact Bn (hm.go R T e1 fun v bn bf bz br d6=>hn.go R br e2 pos fun vs dP ct dJ cL jX=>⟨ct,bz.trans dJ,cL,VL.cons (d6.mono dJ) jX⟩)
theorem aar{f:aW}{l:LM}{c:AV}(e:bq f l fr σ=some (c,ai)){P:Prop}(k: ∀vs ay,l fr σ=some (vs,ay)->f vs ay=some (c,ai)->P):P:=fM e k
theorem aeO{n:LM}{es:List an}{p:Pos}(hn:z0 X k n es):bZ X k (bq cX n) (.List es p):=fun A R W fr σ s T c ai e=>by
 refine aar e fun l ay e1 e2=>kS e2 fun ok e2=> ?_
 apply s2 e2
 refine List_ (hn.go R T e1 p fun vs bn bf bz br d6=>gJ ?_ (by show vs.toArray.size<=sizeLine;rw[aZ,d6.length];exact iV ok))
 obtain⟨le,T'⟩:=br.pushLst d6 bn.toks
 exact⟨_,bz.trans le,T',q6⟩
theorem aki{n:LM}{es:List an}{p:Pos}{j:Nat}(hn:z0 X k n es):bZ X k (bq fX n) (.Tuple es j p):=fun A R W fr σ s T c ai e=>by
 refine aar e fun l ay e1 e2=>kS e2 fun ok e2=> ?_
 apply s2 e2
 refine Tuple_ (hn.go R T e1 p fun vs bn bf bz br d6=>gJ ?_ (by show vs.toArray.size<=sizeLine;rw[aZ,d6.length];exact iV ok))
 obtain⟨le,T'⟩:=br.pushIm (o:=ti vs 0) rfl bn.toks
 exact⟨_,bz.trans le,T',_,0,vs,rfl,mm,d6.mono le⟩
theorem aj7{p:Pos}:bZ X k FH (.Dict [] [] p):=fun A R W fr σ s T c ai e=>by
 apply s2 e
 rw[eval_Dict_empty]
 refine aq (du (gJ ?_ (by size_fits)))
 obtain⟨le,T'⟩:=T.pushDct s.toks
 exact⟨_,le,T',q6⟩
theorem St.other(T:St X W fr σ s){d:aC}(hi:W.im d=none)(hp:W.pr d=none)(hc:sS W σ d)(hd: ¬X.Has d)(k: ∀b o,b≠d->s.heap.get? b=some o->h'.get? b=some o)(t:Nat)(ht:s.toks<=t:=by first|exact ax _|exact cM _|omega):St X W fr σ {s with heap:=h',toks:=t}:=
 ⟨T.rel.keepsBut hi hp (fun a c p e e'=>hc a c p e e') k,T.fr.turn (.refl _) (fun b o e e'=>by rw[e]at e';cases e') (fun c hc=>T.fr.apart c hc) fun c hc o e=>k _ _ (fun q=>hd (q▸hc)) e,T.sm.mk' _ _ ht⟩
theorem St.addIm(T:St X W fr σ s){x:aC}{o:Obj}(ho:s.heap.get? x=some o)(hp:W.pr x=none)(hc:sS W σ x)(hd: ¬X.Has x):W.le (W.addIm x o)/\St X (W.addIm x o) fr σ s:=by
 have le:W.le (W.addIm x o):=Wd.le_addIm fun o' e=>by have:=T.rel.im _ _ e;rw[ho]at this;exact(aH this).symm
 refine⟨le,T.rel.addIm ho hp (fun a c p e e'=>hc a c p e e'),T.fr.turn le (fun b o' e e' hb=> ?_) (fun c hc=>T.fr.apart c hc) (fun _ _ _ e=>e),T.sm⟩
 have e':(if b=x then some o else W.im b)=some o':=e'
 split at e'
 ·rename_i q;subst q;exact hd hb
 ·rw[e]at e';cases e'
theorem St.newAddr(T:St X W fr σ s){d:aC}(hd:s.heap.objs.size<=d):W.im d=none/\W.pr d=none/\sS W σ d/\ ¬X.Has d:=
 ⟨T.rel.im_new hd,T.rel.pr_new hd,T.rel.cell_new hd,fun h=>absurd (T.fr.lt h) (b6.mpr hd)⟩
theorem aeM{k1 k2:Int}{a b:ac}{x y:Str}{p p1 p2 p3 p4:Pos}{j1 j2 j3 j4:Nat}(hk:k1≠k2)(hx:aP a=x)(hy:aP b=y):
  bZ X k (bq (Hl [k1,k2]) (aw (a7 (.str a)) (aw (a7 (.str b)) aJ))) (.Dict [some (.Constant (.int k1) j1 p1),some (.Constant (.int k2) j2 p2)] [.Constant (.str x) j3 p3,.Constant (.str y) j4 p4] p):=fun A R W fr σ s T c ai e=>by
 apply s2 e
 refine wpAny_Dict_pairs (knd:=intKind X.C.prog X.C.w) (pairs:=[(eval (.Constant (.int k1) j1 p1) X.env,do let v <- eval (.Constant (.str x) j3 p3) X.env;standAt p;pure v),(eval (.Constant (.int k2) j2 p2) X.env,do let v <- eval (.Constant (.str y) j4 p4) X.env;standAt p;pure v)]) rfl (by simp) (by simp) ?_
 refine J5 (qW (aq (oG (aq (du (aL ?_))))))
 refine J5 (qW (aq (oG (aq (du (aL ?_))))))
 refine evalPairs_nil ?_
 refine⟨[(k1,.str x (s.toks+1)),(k2,.str y (s.toks+1+1+1))],⟨H1 _ _ _ _,rfl,H1 _ _ _ _,rfl,trivial⟩,⟨_,#[],0,bh _ rfl,⟨rfl,rfl,rfl⟩,rfl,fun _ he=>by simp at he,V3,by simp⟩,fun h' hd hs=> ?_⟩
 obtain⟨n1,n2,n3,n4⟩:=T.newAddr (d:=s.heap.objs.size) (ax _)
 have br:St X W fr σ {s with heap:=h',toks:=s.toks+1+1+1+1+[(Bk k1 s.toks,gg x (s.toks+1)),(Bk k2 (s.toks+1+1),gg y (s.toks+1+1+1))].length}:=
  T.other n1 n2 n3 n4 (fun b o hb e=>hs.extBut b o hb (bC _ e)) _
 obtain⟨o,ho,hd'⟩:=jn.mp hd
 obtain⟨le,cL⟩:=br.addIm ho n2 n3 n4
 refine⟨_,le,cL,_,o,[.str x (s.toks+1),.str y (s.toks+1+1+1)],rfl,?_,mm,VL.cons ⟨_,by rw[hx]⟩ (VL.cons ⟨_,by rw[hy]⟩ VL.nil),rfl,?_⟩
 ·simpa using oL T.rel.sys
 ·have:merged [] [(k1,gg x (s.toks+1)),(k2,gg y (s.toks+1+1+1))]=[(k1,gg x (s.toks+1)),(k2,gg y (s.toks+1+1+1))]:=by
   simp[merged,stored,hk]
  rw[this]at hd'
  exact hd'
end
end
end
section
open PySem.SeqAt
noncomputable section
section
variable{X:FX}{k:Nat}{W W':Wd}{fr:Fm}{σ ai:AS}{s s':az}{A:bX}{h h':bJ}{C:PC}
theorem WR{op op':gR}{a b c:EM}{r:Bool}(e:O3 op op' a b c fr σ=some (r,ai)){P:Bool->AS->Prop}(k: ∀x ay y aM,a fr σ=some (x,ay)->b fr ay=some (y,aM)->(bV op x y aM=some false->P false aM)/\ ∀z cJ r,bV op x y aM=some true->c fr aM=some (z,cJ)->bV op' y z cJ=some r->P r cJ):P r ai:=
 fM e fun x ay e1 e=>fM e fun y aM e2 e=>oE e fun t e3 e=>bE e (fun ht e=>fM e fun z cJ e4 e=>oE e fun r' e5 e=>by apply s2 e;exact(k x ay y aM e1 e2).2 z cJ r' (ht▸e3) e4 e5) fun ht e=>by apply s2 e;exact(k x ay y aM e1 e2).1 (ht▸e3)
theorem ID(hk:5<=k)(R:eI A k)(T:St X W fr σ s){op:gR}{a b:AV}{r:Bool}(e:bV op a b σ=some r){v w:ah}(hv:V X.C W a v)(hw:V X.C W b w){Q:ah->az->Prop}
  (h: ∀bn bf,W.le bf->St X bf fr σ bn->Q (.bool r) bn):wpAny (dC X.C) A (compareOp op v w) Q dp s:=
 eo (y7 hk R T e hv hw) fun u bn z=>z.elim fun bf l br q=>q.boolE (h bn bf l br)
theorem aeJ{op op':gR}{m n o:EM}{a b c:an}{p:Pos}(hk:5<=k)(hm:bZ X k m a)(hn:bZ X k n b)(ho:bZ X k o c)(hb:lastMarks [op,op'] [b,c]=false):bZ X k (rO (O3 op op' m n o)) (.Compare a [op,op'] [b,c] p):=fun A R W fr σ s T v ai e=>by
 refine aap e fun r ay q=> ?_
 apply WR q;intro x ay y aM e1 e2
 refine⟨fun e3=> ?_,fun z cJ r e3 e4 e5=> ?_⟩
 ·exact Mz (hm.go R T e1 fun v bn bf bz br d6=>chain_link (hn.go R br e2 fun w dP ct dJ cL jX=>ID hk R cL e3 (d6.mono dJ) jX fun jG xu gT i7=>fG ⟨xu,bz.trans (dJ.trans gT),i7,rfl⟩)) hb
 ·exact Mz (hm.go R T e1 fun v bn bf bz br d6=>chain_link (hn.go R br e2 fun w dP ct dJ cL jX=>ID hk R cL e3 (d6.mono dJ) jX fun jG xu gT i7=>fG
   (chain_last (ho.go R i7 e4 fun w' oz amP PX og aiv=>eo (y7 hk R og e5 ((jX.mono gT).mono PX) aiv) fun _ _ z=>z.le (bz.trans (dJ.trans (gT.trans PX))))))) hb
theorem aaL{op op':gR}{m n o:EM}{a b c:an}{p:Pos}(hk:5<=k)(hm:bZ X k m a)(hn:bZ X k n b)(ho:bZ X k o c)(hb:lastMarks [op,op'] [b,c]=false):nh X k (O3 op op' m n o) (.Compare a [op,op'] [b,c] p):=fun A R W fr σ s T v ai e=>by
 apply WR e;intro x ay y aM e1 e2
 refine⟨fun e3=> ?_,fun z cJ r e3 e4 e5=> ?_⟩
 ·exact N9 (hm.go R T e1 fun v bn bf bz br d6=>test_link (hn.go R br e2 fun w dP ct dJ cL jX=>ID hk R cL e3 (d6.mono dJ) jX fun jG xu gT i7=>fG ⟨rfl,xu,bz.trans (dJ.trans gT),i7⟩)) hb
 ·exact N9 (hm.go R T e1 fun v bn bf bz br d6=>test_link (hn.go R br e2 fun w dP ct dJ cL jX=>ID hk R cL e3 (d6.mono dJ) jX fun jG xu gT i7=>fG
   (test_last (ho.go R i7 e4 fun w' oz amP PX og aiv=>ID hk R og e5 ((jX.mono gT).mono PX) aiv fun sz WI XB xt=>fG ⟨rfl,WI,bz.trans (dJ.trans (gT.trans (PX.trans XB))),xt⟩)))) hb
theorem U7{W W':Wd}(h1:W'.ρ=W.ρ)(h2:W'.im=W.im):W.le0 W':=⟨fun a p e=>by rw[h1];exact e,fun x o e=>by rw[h2];exact e⟩
theorem VL.pr{W W':Wd}{l:aa}{vs:List ah}(q:VL C W l vs)(h1:W'.ρ=W.ρ)(h2:W'.im=W.im):VL C W' l vs:=q.mono0 (U7 h1 h2)
theorem V.pr{W W':Wd}{a:AV}{v:ah}(q:V C W a v)(h1:W'.ρ=W.ρ)(h2:W'.im=W.im):V C W' a v:=q.mono0 (U7 h1 h2)
theorem dU.pr{W W':Wd}{p:aC×aC}{c:bF}(a2:dU C W h p c)(h1:W'.ρ=W.ρ)(h2:W'.im=W.im):dU C W' h p c:=dU.mono0 (U7 h1 h2) a2
open Classical in
noncomputable def Wd.guard(W:Wd)(X:FX)(h:bJ):Wd:={W with pr:=fun b=>if X.Has b then h.get? b else W.pr b}
theorem ud{b:aC}(hb:X.Has b):(W.guard X h).pr b=h.get? b:=if_pos hb
theorem km{b:aC}(hb: ¬X.Has b):(W.guard X h).pr b=W.pr b:=if_neg hb
theorem St.guard(T:St X W fr σ s):cv X.C (W.guard X s.heap) σ s.heap:=by
 obtain⟨R,F,_⟩:=T
 refine⟨R.base,R.im,fun b o e=> ?_,fun b o e=> ?_,R.fresh,fun a c e=> ?_,R.inj⟩
 ·by_cases hb:X.Has b
  ·rw[ud hb]at e;exact e
  ·rw[km hb]at e;exact R.pr _ _ e
 ·by_cases hb:X.Has b
  ·exact F.sep _ hb
  ·rw[km hb]at e;exact R.dis _ _ e
 ·obtain⟨p,a1,a2,a3,a4⟩:=R.cell a c e
  refine⟨p,a1,?_,a3,?_⟩
  ·exact a2.pr rfl rfl
  ·rw[km fun hb=>F.apart _ hb a c p e a1 rfl];exact a4
theorem St.back(T:St X W fr σ s){bf:Wd}(l:(W.guard X s.heap).le bf)(R:cv X.C bf ai s'.heap)(hs:Sm s s'):W.le {bf with pr:=W.pr}/\St X {bf with pr:=W.pr} fr ai s':=by
 have hpr:bf.pr=(W.guard X s.heap).pr:=l.2.2
 have le:W.le {bf with pr:=W.pr}:=⟨l.1,l.2.1,rfl⟩
 have kept: ∀c,X.Has c-> ∀o,s.heap.get? c=some o->s'.heap.get? c=some o:=fun c hc o e=>R.pr _ _ (by rw[hpr,ud hc];exact e)
 have nc: ∀c,X.Has c->sS {bf with pr:=W.pr} ai c:=fun c hc a cc p e e' q=>by
  obtain⟨p',a1,a2,a3,a4⟩:=R.cell a cc e
  have e':bf.ρ a=some p:=e'
  rw[e']at a1;cases a1
  rw[q,hpr,ud hc]at a4
  obtain⟨o,z⟩:=T.fr.live c hc
  rw[z]at a4;cases a4
 refine⟨le,⟨R.base,R.im,fun b o e=> ?_,fun b o e=> ?_,R.fresh,fun a c e=> ?_,R.inj⟩,T.fr.turn le (fun b o e e' hb=> ?_) nc kept,T.sm.trans hs⟩
 ·have e:W.pr b=some o:=e
  by_cases hb:X.Has b
  ·exact kept b hb o (T.rel.pr _ _ e)
  ·exact R.pr _ _ (by rw[hpr,km hb];exact e)
 ·have e:W.pr b=some o:=e
  show bf.im b=none
  by_cases hb:X.Has b
  ·obtain⟨o',z⟩:=T.fr.live b hb
   exact R.dis b o' (by rw[hpr,ud hb];exact z)
  ·exact R.dis b o (by rw[hpr,km hb];exact e)
 ·obtain⟨p,a1,a2,a3,a4⟩:=R.cell a c e
  refine⟨p,a1,?_,a3,?_⟩
  ·exact a2.pr rfl rfl
  ·have hn: ¬X.Has p.2:=fun hc=>nc _ hc a c p e a1 rfl
   rw[hpr,km hn]at a4;exact a4
 ·have e':bf.im b=some o:=e'
  obtain⟨o',z⟩:=T.fr.live b hb
  have:=R.dis b o' (by rw[hpr,ud hb];exact z)
  rw[this]at e';cases e'
theorem St.call(T:St X W fr σ s){kF:Nat}{f:ah}{F:aW}(hF:aF X.C kF f F)(R:eI A kF){args:aa}{vs:List ah}(hv:VL X.C W args vs){a:AV}(e:F args σ=some (a,ai)):
  wpAny (dC X.C) A (call f vs) (fH X W fr a ai) dp s:=
 eo (hF A R (W.guard X s.heap) σ s args vs T.guard (hv.pr rfl rfl) T.sm.pos a ai e) fun v s' ⟨hs,bf,l,R',q⟩=>by
  obtain⟨le,T'⟩:=T.back l R' hs
  exact⟨_,le,T',q.pr rfl rfl⟩
def oQ(C:PC)(f:ah):Prop:= ∀h,C.K.In h-> ∃k,(k=Keeper.frame\/k=Keeper.machine\/k=Keeper.boundFrame)/\HT (dC C) h (keeperOf f) k
theorem re{C:PC}{f:ah}(h:keepIn C.K f=true):oQ C f:=fun h' X=>keeps_K h h' X
theorem fh{C:PC}{id:String}:oQ C (.builtin id):=fun _ _=>⟨.machine,.inr (.inl rfl),rx rfl⟩
theorem mq{C:PC}{id:String}:oQ C (.type id):=fun _ _=>⟨.machine,.inr (.inl rfl),rx rfl⟩
theorem qE{es:List an}{env:Env}{pos:Pos}(hs:es.all (fun e=> !jb e)=true):(backTo pos (starEach es env)).any (·.1)=false:=by
 induction es with
 |nil=>rfl
 |cons e es ih=>
  simp only[ru,cG,dY]at hs
  rw[lU hs.1]
  show(false||(backTo pos (starEach es env)).any (·.1))=false
  rw[ih hs.2];rfl
theorem wx{M:k8}{E:ah->az->Prop}{f:ah}{es:List an}{env:Env}{pos:Pos}(hs:es.all (fun e=> !jb e)=true){Q:Args->az->Prop}
  (h:wpAny M A (spliced (backTo pos (starEach es env))) (fun vs s'=>Q ⟨vs,[]⟩ s') E s):wpAny M A (evalArgs f true (backTo pos (starEach es env)) []) Q E s:=by
 cases es with
 |nil=>
  unfold evalArgs
  show wpAny M A (spliced []>>=_) Q E s
  refine aq (jr h (fun vs s' h'=> ?_) fun _ _ x=>x)
  refine aq (aL ?_)
  refine dD ?_
  exact aq (aL (aq (aL (aL h'))))
 |cons e es=>
  simp only[ru,cG,dY]at hs
  rw[lU hs.1]at h ⊢
  exact evalArgs_plain h
theorem FE{X:FX}{k kF:Nat}{W:Wd}{fr:Fm}{σ ay ai:AS}{s:az}(T:St X W fr σ s){f:ah}{F:aW}(hf:oQ X.C f)(hF:aF X.C kF f F)(hk:kF<=k)(R:eI A k){n:LM}{es:List an}(hs:es.all (fun e=> !jb e)=true)(hn:z0 X k n es)
  {l:List AV}(e1:n fr σ=some (l,ay)){first:List ah}{fa:List AV}(h1:VL X.C W fa first){a:AV}(e2:F (fa++l) ay=some (a,ai))(pos:Pos):
  wpAny (dC X.C) A (callWith pos f first (backTo pos (starEach es X.env)) []) (fH X W fr a ai) dp s:=by
 refine Fk (P:=X.C.K.In) (by rw[qE hs];rfl) hf ?_
 refine wx hs (hn.go R T e1 pos fun vs bn bf bz br d6=>⟨br.rel.K,?_⟩)
 exact eo (br.call hF (R.le hk) ((h1.mono bz).append d6) e2) fun _ _ z=>z.le bz
theorem aeI(O:u2 X){kF:Nat}{fv:ah}{F:aW}{n:LM}{x:Str}{es:List an}{p p':Pos}(hx:X.env.kindOf x=some .globalImplicit)(hd:(x==("__debug__":Str))=false)(hg:ni X.C x (.glob fv))(hf:oQ X.C fv)(hF:aF X.C kF fv F)(hk:kF<=k)
  (hs:es.all (fun e=> !jb e)=true)(hn:z0 X k n es):bZ X k (bq F n) (.Call (.Name x p') es [] p):=fun A R W fr σ s T a ai e=>by
 refine aar e fun l ay e1 e2=> ?_
 show wpAny _ _ (do callWith p (<- eval (.Name x p') X.env) [] (backTo p (starEach es X.env)) (backToKw p (keywordEach [] X.env))) _ _ _
 refine aq (yB O.kind hx (hg _ A dp X.env W σ s _ O.glob O.blt T.rel fun v q=> ?_) hd)
 cases q
 exact FE T hf hF hk R hs hn e1 VL.nil e2 p
def dX(C:PC)(k:Nat)(name:Str)(D:gM):Prop:= ∀W σ h a v F,cv C W σ h->V C W a v->D a σ=some F->
 ∃f,(∀A s pl E (Q:ah×List ah->az->Prop),s.heap=h->Q (f,[v]) s->wpAny (dC C) A (getMethod v name pl) Q E s)/\oQ C f/\aF C k f F
theorem Te{m:EM}{x:Str}{o:an}{es:List an}{ap p:Pos}(hb:s0 o=true)(hl:(ap.endLine==p.line)=true)(hfew:es.length<30)(hm:bZ X k m o)(hs:es.all (fun e=> !jb e)=true)
  (R:eI A k)(T:St X W fr σ s){wb:AV}{ay:AS}(e1:m fr σ=some (wb,ay)){Q:ah->az->Prop}
  (h: ∀v bn bf,W.le bf->St X bf fr ay bn->V X.C bf wb v-> ∃f,(∀A s pl E (Q:ah×List ah->az->Prop),s.heap=bn.heap->Q (f,[v]) s->wpAny (dC X.C) A (getMethod v x pl) Q E s)/\
   wpAny (dC X.C) A (callWith p f [v] (backTo p (starEach es X.env)) []) Q dp bn):wpAny (dC X.C) A (eval (.Call (.Attribute o x ap) es [] p) X.env) Q dp s:=by
 show wpAny _ _ (do
  let ov <- attributeBase o x X.env (eval o X.env)
  standAt ap.atName
  methodCall o x ap p X.env ov (es.length+([]:List tl).length) (backTo p (starEach es X.env)) (backToKw p (keywordEach [] X.env))) _ _ _
 refine aq (lY hb (hm.go R T e1 fun v bn bf bz br d6=>aq (du ?_)))
 obtain⟨f,g1,g2⟩:=h v bn bf bz br d6
 have hform:methodCallForm (es.length+([]:List tl).length) (backTo p (starEach es X.env)) (backToKw p (keywordEach [] X.env))=true:=by
  unfold methodCallForm
  have h1:(backTo p (starEach es X.env)).all (!·.1)=true:=by
   have:=qE (env:=X.env) (pos:=p) hs
   rw[bT];rw[EJ]at this
   intro y hy;simpa using this y hy
  rw[h1]
  have h2:(backToKw p (keywordEach [] X.env)).all (·.1.isSome)=true:=rfl
  rw[h2]
  simp;exact hfew
 unfold methodCall
 rw[hform]
 have hpos:methodCallPos true o X.env ap p=pure p:=by unfold methodCallPos;simp[hl]
 refine aq (dD ?_)
 show wpAny _ _ (getMethod v x _) _ _ _
 refine g1 A bn _ dp _ rfl ?_
 show wpAny _ _ (do let callPos <- methodCallPos true o X.env ap p;callWith callPos f [v] (backTo p (starEach es X.env)) (backToKw p (keywordEach [] X.env))) _ _ _
 rw[hpos]
 exact aq (aL g2)
theorem aeP{kF:Nat}{D:gM}{m:EM}{n:LM}{x:Str}{o:an}{es:List an}{ap p:Pos}(hb:s0 o=true)(hl:(ap.endLine==p.line)=true)(hfew:es.length<30)(hm:bZ X k m o)(hD:dX X.C kF x D)(hk:kF<=k)
  (hs:es.all (fun e=> !jb e)=true)(hn:z0 X k n es):bZ X k (cF D m n) (.Call (.Attribute o x ap) es [] p):=fun A R W fr σ s T a ai e=>by
 refine fM e fun wb ay e1 e=>oE e fun F e2 e=>fM e fun l aM e3 e=>Te hb hl hfew hm hs R T e1 fun v bn bf bz br d6=> ?_
 obtain⟨f,g1,g2,g3⟩:=hD bf _ bn.heap wb v F br.rel d6 e2
 exact⟨f,g1,eo (FE br g2 g3 hk R hs hn e3 (VL.one d6) e p) fun _ _ z=>z.le bz⟩
end
end
end
section
open PySem.SeqAt
noncomputable section
section
variable{X:FX}{k:Nat}{W W':Wd}{fr:Fm}{σ ai:AS}{s s':az}{A:bX}{h h':bJ}{C:PC}
structure hY(X:FX)(W:Wd)(σ:AS)(I:aC):Prop where
 im:W.im I=none
 pr:W.pr I=none
 cell:sS W σ I
 out: ¬X.Has I
theorem hY.new(T:St X W fr σ s){I:aC}(hI:s.heap.objs.size<=I):hY X W σ I:=
 ⟨T.rel.im_new hI,T.rel.pr_new hI,T.rel.cell_new hI,fun hc=>absurd (T.fr.lt hc) (b6.mpr hI)⟩
theorem St.but(T:St X W fr σ s){I:aC}(L:hY X W σ I)(hk: ∀b o,b≠I->s.heap.get? b=some o->h'.get? b=some o)(t:Nat)(ht:s.toks<=t:=by first|exact ax _|exact cM _|omega):St X W fr σ {s with heap:=h',toks:=t}:=
 ⟨T.rel.keepsBut L.im L.pr L.cell hk,T.fr.turn (.refl _) (fun b o e e'=>by rw[e]at e';cases e') (fun c hc=>T.fr.apart c hc) fun c hc o e=>hk _ _ (fun q=>L.out (q▸hc)) e,T.sm.mk' _ _ ht⟩
noncomputable def Wd.pin(W:Wd)(I:aC)(o:Obj):Wd:={W with pr:=fun b=>if b=I then some o else W.pr b}
theorem Jb{I:aC}{o:Obj}:(W.pin I o).pr I=some o:=if_pos rfl
theorem jx{I b:aC}{o:Obj}(hb:b≠I):(W.pin I o).pr b=W.pr b:=if_neg hb
theorem St.pin(T:St X W fr σ s){I:aC}(L:hY X W σ I){o:Obj}(ho:s.heap.get? I=some o):St X (W.pin I o) fr σ s:=by
 obtain⟨R,⟨⟨m,a,b⟩,c,d,xC,d',Cs⟩,S⟩:=T
 refine⟨⟨R.base,R.im,fun b o' e=> ?_,fun b o' e=> ?_,R.fresh,fun a c e=> ?_,R.inj⟩,⟨⟨m,a,fun i x e=>(b i x e).imp id fun f y p=>let⟨v,q,r⟩:=f y p;⟨v,q,r.pr rfl rfl⟩⟩,c,d,xC,fun c hc=> ?_,Cs⟩,S⟩
 ·by_cases q:b=I
  ·subst q;rw[Jb]at e;cases e;exact ho
  ·rw[jx q]at e;exact R.pr _ _ e
 ·by_cases q:b=I
  ·subst q;exact L.im
  ·rw[jx q]at e;exact R.dis _ _ e
 ·obtain⟨p,a1,a2,a3,a4⟩:=R.cell a c e
  exact⟨p,a1,a2.pr rfl rfl,a3,by rw[jx (L.cell a c p e a1)];exact a4⟩
 ·rw[jx fun q=>L.out (by rw[<- q];exact .inr (.inr hc))];exact d' c hc
theorem St.unpin{bf:Wd}{fr':Fm}{I:aC}{o:Obj}(l:(W.pin I o).le bf)(L:hY X W σ I)(T:St X bf fr' ai s'):
  W.le {bf with pr:=W.pr}/\St X {bf with pr:=W.pr} fr' ai s'/\s'.heap.get? I=some o/\hY X {bf with pr:=W.pr} ai I:=by
 have hpr:bf.pr=(W.pin I o).pr:=l.2.2
 have hI:bf.pr I=some o:=by rw[hpr,Jb]
 obtain⟨R,⟨⟨m,a,b⟩,c,d,xC,d',Cs⟩,S⟩:=T
 have nc:sS bf ai I:=fun a cc p e e' q=>by
  obtain⟨p',a1,a2,a3,a4⟩:=R.cell a cc e
  rw[e']at a1;cases a1
  rw[q,hI]at a4;cases a4
 refine⟨⟨l.1,l.2.1,rfl⟩,⟨⟨R.base,R.im,fun b o' e=> ?_,fun b o' e=> ?_,R.fresh,fun a c e=> ?_,R.inj⟩,⟨⟨m,a,fun i x e=>(b i x e).imp id fun f y p=>let⟨v,q,r⟩:=f y p;⟨v,q,r.pr rfl rfl⟩⟩,c,d,xC,fun c hc=> ?_,Cs⟩,S⟩,
  R.pr _ _ hI,⟨R.dis _ _ hI,L.pr,nc,L.out⟩⟩
 ·have e:W.pr b=some o':=e
  exact R.pr _ _ (by rw[hpr,jx (fun q=>by rw[q,L.pr]at e;cases e)];exact e)
 ·have e:W.pr b=some o':=e
  exact R.dis b o' (by rw[hpr,jx (fun q=>by rw[q,L.pr]at e;cases e)];exact e)
 ·obtain⟨p,a1,a2,a3,a4⟩:=R.cell a c e
  refine⟨p,a1,a2.pr rfl rfl,a3,?_⟩
  rw[hpr,jx (nc a c p e a1)]at a4;exact a4
 ·have:=d' c hc
  rw[hpr,jx fun q=>L.out (by rw[<- q];exact .inr (.inr hc))]at this;exact this
structure xa(X:FX)(W:Wd)(σ:AS)(I:aC)(l:List AV)(h:bJ)(S:Nat->bJ->Prop)(fp:List aC)(P:Nat->ah->Prop):Prop where
 walks: ∀A',A'.handled=none->Walks X.C.prog X.C.w A' I fp [I] l.length P S
 st:S 0 h
 fp: ∀b∈fp,b=I\/ ∃o,W.im b=some o
 val: ∀i v,i<l.length->P i v-> ∃a,l[i]? =some a/\V X.C W a v
 obj: ∀i h,S i h-> ∃o n,h.get? I=some o/\o.cls= .type n/\(["enumerate","zip","dict_itemiterator","dict_reverseitemiterator","odict_iterator","itertools.zip_longest","itertools.pairwise"].contains n)=false
theorem xa.mono{I:aC}{l:aa}{S:Nat->bJ->Prop}{fp:List aC}{P:Nat->ah->Prop}(q:xa X W σ I l h S fp P)(le:W.le W'):xa X W' σ I l h S fp P:=
 ⟨q.walks,q.st,fun b hb=>(q.fp b hb).imp id fun⟨o,e⟩=>⟨o,le.2.1 _ _ e⟩,fun i v hi p=>let⟨a,e,r⟩:=q.val i v hi p;⟨a,e,r.mono le⟩,q.obj⟩
theorem VL.ith{W:Wd}{l:aa}{vs:List ah}(q:VL C W l vs){i:Nat}{v:ah}(e:vs[i]? =some v): ∃a,l[i]? =some a/\V C W a v:=by
 have hl:i<l.length:=by
  rw[<- q.length]
  exact(cP.mp e).1
 obtain⟨v',e',r⟩:=q.get (show l[i]? =some l[i] from eU hl)
 rw[e]at e';cases e'
 exact⟨_,eU hl,r⟩
def me(X:FX)(W:Wd)(fr:Fm)(σ:AS)(l:aa)(it:ah)(s':az):Prop:=
 ∃I W' S fp P,it= .ref I/\W.le W'/\St X W' fr σ s'/\hY X W' σ I/\xa X W' σ I l s'.heap S fp P
theorem Ew(T:St X W fr σ s)(o:Obj):hY X W σ s.heap.objs.size/\St X W fr σ {s with heap:=s.heap.push o}:=
 ⟨hY.new T (ax _),T.keeps (eg _ _) s.toks⟩
theorem SY(T:St X W fr σ s){x n:Nat}{vs:List ah}{l:aa}(hx:W.im x=some (dw vs n))(q:VL X.C W l vs):wpAny (dC X.C) A (pyIter (.ref x)) (me X W fr σ l) dp s:=by
 have hg:=T.rel.im _ _ hx
 refine wpAny_pyIter_list (lM hg) ?_
 obtain⟨L,T'⟩:=Ew T {cls:=.type "list_iterator",data:=.fields #[.ref x,.int 0 0]}
 have ne:x≠s.heap.objs.size:=cj (cp hg)
 have hl:vs.toArray.size=l.length:=by rw[aZ,q.length]
 refine⟨_,W,_,[s.heap.objs.size,x],_,rfl,.refl _,T',L,⟨fun A' hA=>hl▸Walks.list hA _ x ne vs.toArray,⟨⟨_,bh _ rfl,rfl,rfl⟩,lM (eg _ _ _ _ hg)⟩,fun b hb=> ?_,fun i v _ e=> ?_,fun _ _ st=>let⟨o,e1,e2,_⟩:=st.1;⟨o,_,e1,e2,by decide⟩⟩⟩
 ·simp at hb;exact hb.imp id fun e=>⟨_,e▸hx⟩
 ·exact q.ith (by simpa using e)
theorem adQ(T:St X W fr σ s){x n:Nat}{vs:List ah}{l:aa}(hx:W.im x=some (ti vs n))(q:VL X.C W l vs):wpAny (dC X.C) A (pyIter (.ref x)) (me X W fr σ l) dp s:=by
 have hg:=T.rel.im _ _ hx
 have ht:s.heap.IsTuple x vs.toArray:=⟨_,hg,rfl,n,rfl⟩
 refine wpAny_pyIter_tuple ht ?_
 obtain⟨L,T'⟩:=Ew T {cls:=.type "tuple_iterator",data:=.fields #[.ref x,.int 0 0]}
 have ne:x≠s.heap.objs.size:=cj (cp hg)
 have hl:vs.toArray.size=l.length:=by rw[aZ,q.length]
 refine⟨_,W,_,[s.heap.objs.size,x],_,rfl,.refl _,T',L,⟨fun A' hA=>hl▸Walks.tuple hA _ x ne vs.toArray,⟨⟨_,bh _ rfl,rfl,rfl⟩,ht.push _⟩,fun b hb=> ?_,fun i v _ e=> ?_,fun _ _ st=>let⟨o,e1,e2,_⟩:=st.1;⟨o,_,e1,e2,by decide⟩⟩⟩
 ·simp at hb;exact hb.imp id fun e=>⟨_,e▸hx⟩
 ·exact q.ith (by simpa using e)
theorem ahK{a:AV}{l:aa}(e:fy σ a=some (l,ai)){P:Prop}(k:ahJ σ a=some (l,ai)->l.length<=4000000->P):P:=fM e fun l' ay q e=>kS e fun z e=>by
 cases e;exact k q (jL z)
@[elab_as_elim] theorem me.elim {l:aa} {it:ah} {Q:ah->Prop} (h:me X W fr σ l it s) (k: ∀I W' S fp P,W.le W'->St X W' fr σ s->hY X W' σ I->xa X W' σ I l s.heap S fp P->Q (.ref I)):Q it:=by
 obtain⟨I,W',S,fp,P,rfl,h1,h2,h3,h4⟩:=h;exact k I W' S fp P h1 h2 h3 h4
theorem St.freezeL(T:St X W fr σ s){a:Nat}{l:aa}(hg:σ.get a=some (.lst l)): ∃x vs n,W.ρ a=some (x,x)/\W.le (W.addIm x (dw vs n))/\St X (W.addIm x (dw vs n)) fr (σ.drop a) s/\VL X.C (W.addIm x (dw vs n)) l vs:=by
 obtain⟨⟨x,y⟩,a1,⟨a2,vs,n,b,r⟩,a3,a4⟩:=T.rel.cell _ _ hg
 obtain rfl:x=y:=a2
 have R:=T.rel.freeze hg a1 b
 have le:W.le (W.addIm x (dw vs n)):=Wd.le_addIm fun o' e=>by have:=T.rel.im _ _ e;rw[b]at this;exact(aH this).symm
 refine⟨x,vs,n,a1,le,⟨R,T.fr.turn le (fun b' o' e e' hb=> ?_) (fun c hc b' cb p e e'=> ?_) fun c _ o e=>e,T.sm⟩,r.mono le⟩
 ·have e':(if b'=x then some (dw vs n)else W.im b')=some o':=e'
  by_cases q:b'=x
  ·exact T.fr.apart _ hb a _ _ hg a1 q.symm
  ·rw[if_neg q,e]at e';cases e'
 ·rw[AS.get_drop]at e
  split at e
  ·cases e
  ·exact T.fr.apart c hc b' cb p e e'
theorem X7{a b:Nat}(ha:a<2^20)(hb:b<2^20):A0 (a:Int) (b:Int) 1=true/\mD (a:Int) (b:Int) 1=(b-a:Nat):=by
 have h1:mD (a:Int) (b:Int) 1=(b-a:Nat):=by
  unfold mD
  simp
  omega
 refine⟨?_,h1⟩
 unfold A0
 rw[h1]
 unfold Lp
 simp
 omega
theorem strKind_is{key:Str}{v:ah}(e:(ry C.prog C.w).is key v=true): ∃t,v= .str key t:=by
 exact Value.isStrOf_shape e
theorem Z6{M:dH}{p:fT}{E:ah->az->Prop}{x:Str}{t:Tok}{Q:ah->az->Prop}
  (hQ: ∀(o:Obj) (S:Nat->bJ->Prop),(∀A':bX,A'.handled=none->Walks p M A' s.heap.objs.size [s.heap.objs.size] [s.heap.objs.size] x.cps.size (SignAt x) S)->S 0 (s.heap.push o)->
   (∀i h,S i h-> ∃o n,h.get? s.heap.objs.size=some o/\o.cls= .type n/\(["enumerate","zip","dict_itemiterator","dict_reverseitemiterator","odict_iterator","itertools.zip_longest","itertools.pairwise"].contains n)=false)->
   Q (.ref s.heap.objs.size) {s with heap:=s.heap.push o}):wpAny (model p M) A (pyIter (.str x t)) Q E s:=by
 cases ha:x.cps.all (· <128)
 ·exact wpAny_pyIter_wide ha (hQ _ _ (fun A' hA=>Walks.strWide hA _ x t) ⟨_,bh _ rfl,rfl,rfl⟩ fun _ _ st=>let⟨o,e1,e2,_⟩:=st;⟨o,_,e1,e2,by decide⟩)
 ·exact wpAny_pyIter_ascii ha (hQ _ _ (fun A' hA=>Walks.strAscii hA _ x t) ⟨_,bh _ rfl,rfl,rfl⟩ fun _ _ st=>let⟨o,e1,e2,_⟩:=st;⟨o,_,e1,e2,by decide⟩)
theorem ad7{n i:Nat}(hi:i<n):(cu n)[i]? =some i:=by rw[List.getElem?_range hi]
theorem Z7(T:St X W fr σ s){ss:ac}(t:Tok):wpAny (dC X.C) A (pyIter (.str (aP ss) t)) (me X W fr σ (ss.map fun c=>.str [c])) dp s:=by
 refine Z6 fun o S hW hS hO=> ?_
 obtain⟨L,T'⟩:=Ew T o
 have hl:(aP ss).cps.size=(ss.map fun c=>AV.str [c]).length:=by rw[aS];rfl
 refine⟨_,W,_,[s.heap.objs.size],_,rfl,.refl _,T',L,⟨fun A' hA=>hl▸hW A' hA,hS,fun b hb=>.inl (aO.mp hb),fun i v _ ⟨c,u,e,ev⟩=> ?_,hO⟩⟩
 subst ev
 have e:ss.toArray[i]? =some c:=e
 rw[jP]at e
 exact⟨.str [c],by rw[jI,e];rfl,u,rfl⟩
theorem adO(T:St X W fr σ s){x:aC}{o:Obj}{ks:List (List Nat)}{ws:List ah}(h0:(x==sysModules)=false)(h1:W.im x=some o)(h3:Ea X.C ks ws o):wpAny (dC X.C) A (pyIter (.ref x)) (me X W fr σ (ks.map .str)) dp s:=by
 obtain⟨h3,es,ep,hd⟩:=h3
 have hg:=T.rel.im _ _ h1
 have hd':s.heap.DictAt (strKind X.C.prog X.C.w) x ((ks.map aP).zip ws) ep:=⟨o,es,hg,hd⟩
 refine E5 h0 hd' ?_
 have hz:((ks.map aP).zip ws).length=(ks.map AV.str).length:=by simp[h3]
 obtain⟨L,T'⟩:=Ew T {cls:=.type "dict_keyiterator",data:=.fields #[.ref x,.int 0 0,.int ((ks.map aP).zip ws).length 0,.int ep 0]}
 have ne:x≠s.heap.objs.size:=cj (cp hg)
 refine⟨_,W,_,[s.heap.objs.size,x],_,rfl,.refl _,T',L,⟨fun A' hA=>hz▸J4 hA _ x ne _ ep,⟨⟨_,bh _ rfl,rfl,by rw[hz];rfl⟩,hd'.at' fun o e=>eg _ _ _ _ e⟩,fun b hb=> ?_,fun i v _ ⟨key,y,e,hk⟩=> ?_,fun _ _ st=>let⟨o,e1,e2,_⟩:=st.1;⟨o,_,e1,e2,by decide⟩⟩⟩
 ·rcases aG.mp hb with hb|hb
  ·exact .inl hb
  ·exact .inr ⟨_,aO.mp hb▸h1⟩
 ·obtain⟨t,rfl⟩:=strKind_is hk
  rw[sM,jI]at e
  obtain⟨kk,e1,e2⟩:=g9.mp e.1
  exact⟨.str kk,by rw[jI,e1];rfl,t,by rw[e2]⟩
theorem Xs(T:St X W fr σ s){b:List UInt8}(t:Tok):wpAny (dC X.C) A (pyIter (.bytes b.toArray t)) (me X W fr σ (b.map fun x=>.int (am x.toNat))) dp s:=by
 refine KBw.pyIter_bytes ?_
 obtain⟨L,T'⟩:=Ew T {cls:=.type "bytes_iterator",data:=.fields #[.bytes b.toArray t,.int 0 0]}
 have hl:b.toArray.size=(b.map fun x=>AV.int (am x.toNat)).length:=by rw[aS];rfl
 refine⟨_,W,_,[s.heap.objs.size],_,rfl,.refl _,T',L,⟨fun A' hA=>hl▸KBw.walks hA _ b.toArray t,⟨_,bh _ rfl,rfl,rfl⟩,fun b hb=>.inl (aO.mp hb),fun i v _ ⟨c,u,e,ev⟩=> ?_,fun _ _ st=>let⟨o,e1,e2,_⟩:=st;⟨o,_,e1,e2,by decide⟩⟩⟩
 subst ev
 rw[jP]at e
 exact⟨.int (am c.toNat),by rw[jI,e];rfl,u,rfl⟩
theorem adP(T:St X W fr σ s){a b:Nat}{x:aC}{t u w:Tok}(h1:W.im x=some {cls:=.type "range",dict:=none,data:=.fields #[.int a t,.int b u,.int 1 w],slots:= #[]})(h2:a<2^20)(h3:b<2^20):wpAny (dC X.C) A (pyIter (.ref x)) (me X W fr σ ((cu (b-a)).map fun i=>.int (am (a+i)))) dp s:=by
 have hg:=T.rel.im _ _ h1
 obtain⟨r1,r2⟩:=X7 h2 h3
 refine wpAny_pyIter_range hg r1 ?_
 rw[r2]
 obtain⟨L,T'⟩:=Ew T {cls:=.type "range_iterator",data:=.fields #[rawInt a,rawInt (b-a:Nat),rawInt 1]}
 have hl:((cu (b-a)).map fun i=>AV.int (am (a+i))).length=b-a:=by rw[aS,EL]
 refine⟨_,W,_,[s.heap.objs.size],_,rfl,.refl _,T',L,⟨fun A' hA=>by have:=Walks.range (prog:=X.C.prog) (w:=X.C.w) hA s.heap.objs.size a 1 (b-a);rw[hl];exact this,?_,fun b hb=>.inl (aO.mp hb),?_,fun _ _ st=>⟨_,_,st,rfl,by decide⟩⟩⟩
 ·show IsRangeIter _ _ _ _ _
  have:IsRangeIter (s.heap.push {cls:=.type "range_iterator",data:=.fields #[rawInt a,rawInt (b-a:Nat),rawInt 1]}) s.heap.objs.size a (b-a:Nat) 1:=bh _ rfl
  simpa using this
 ·rintro i v hi ⟨u,rfl⟩
  rw[hl]at hi
  exact⟨.int (a+i:Nat),by rw[jI,ad7 hi];rfl,u,by simp⟩
theorem vK(T:St X W fr σ s){a:AV}{l:aa}(e:fy σ a=some (l,ai)){v:ah}(hv:V X.C W a v):wpAny (dC X.C) A (pyIter v) (me X W fr ai l) dp s:=ahK e fun e _=>by
 revert hv
 cases a<;>intro hv<;>first|exact nn e|skip
 ·apply s2 e;exact hv.strE fun t=>Z7 T t
 ·apply s2 e;exact hv.bytesE fun t=>Xs T t
 ·apply s2 e;exact hv.tupE fun x n vs q r=>adQ T q r
 ·apply s2 e;exact hv.lstE fun x n vs q r=>SY T q r
 ·apply s2 e;exact hv.dctE fun x o vs q0 q1 _ q3=>adO T q0 q1 q3
 ·apply s2 e;exact hv.rngE fun x t u w h1 h2 h3=>adP T h1 h2 h3
 ·refine lstE e fun l' hg e=> ?_
  apply s2 e
  obtain⟨x,vs,n,hr,le,T',q⟩:=T.freezeL hg
  obtain⟨p,e1,rfl⟩:=hv
  rw[hr]at e1;cases e1
  exact eo (SY T' mm q) fun it s' z=>z.elim fun I W' S fp P l1 h2 h3 h4=>⟨I,W',S,fp,P,rfl,le.trans l1,h2,h3,h4⟩
end
end
end
section
open PySem.SeqAt
noncomputable section
section
variable{X:FX}{k:Nat}{W W':Wd}{fr fr':Fm}{σ ai:AS}{s s':az}{A:bX}{h h':bJ}{C:PC}
theorem xS: ∀(fr:Fm) (i:Nat) (a:AV) (j:Nat) (b:AV),(put fr i a)[j]? =some b->(j=i/\b=a)\/(j≠i/\(fr[j]? =some b\/b= .unb)):=by
 have up: ∀{i j:Nat} {P Q Q':Prop},(Q->Q')->((j=i/\P)\/(j≠i/\Q))->((j+1=i+1/\P)\/(j+1≠i+1/\Q')):=fun f h=>h.imp (fun h=>⟨congrArg _ h.1,h.2⟩) fun h=>⟨fun q=>h.1 (jS q),f h.2⟩
 have nl: ∀(i:Nat) (a:AV) (j:Nat) (b:AV),(put [] i a)[j]? =some b->(j=i/\b=a)\/(j≠i/\(([]:Fm)[j]? =some b\/b= .unb)):=by
  intro i
  induction i with
  |zero=>intro a j b e;cases j with
   |zero=>cases e;exact .inl ⟨rfl,rfl⟩
   |succ j=>cases e
  |succ i ih=>intro a j b e;cases j with
   |zero=>cases e;exact .inr ⟨dM,.inr rfl⟩
   |succ j=>exact up (fun h=>h) (ih a j b e)
 intro fr
 induction fr with
 |nil=>exact nl
 |cons x r ih=>
  intro i a j b e
  cases i with
  |zero=>cases j with
   |zero=>cases e;exact .inl ⟨rfl,rfl⟩
   |succ j=>exact .inr ⟨dM,.inl e⟩
  |succ i=>cases j with
   |zero=>exact .inr ⟨dM,.inl e⟩
   |succ j=>exact up (fun h=>h) (ih i a j b e)
theorem qm: ∀(fr:Fm) {i j:Nat} (a b:AV),i≠j->put (put fr i a) j b=put (put fr j b) i a:=by
 have nl: ∀(i j:Nat) (a b:AV),i≠j->put (put [] i a) j b=put (put [] j b) i a:=by
  intro i
  induction i with
  |zero=>intro j a b h;cases j with
   |zero=>exact absurd rfl h
   |succ j=>rfl
  |succ i ih=>intro j a b h;cases j with
   |zero=>rfl
   |succ j=>exact congrArg (AV.unb:: ·) (ih j a b fun q=>h (congrArg _ q))
 intro fr
 induction fr with
 |nil=>intro i j a b h;exact nl i j a b h
 |cons x r ih=>
  intro i j a b h
  cases i with
  |zero=>cases j with
   |zero=>exact absurd rfl h
   |succ j=>rfl
  |succ i=>cases j with
   |zero=>rfl
   |succ j=>exact congrArg (x:: ·) (ih a b fun q=>h (congrArg _ q))
structure GX(X:FX):Prop where
 uniq: ∀(i j:Nat) x,X.names i=some x->X.names j=some x->i=j
 inter:interactive X.env=false
theorem dG{α β:Type}[BEq α][LawfulBEq α]{n:α}{c:β}: ∀{l:List (α×β)},l.lookup n=some c->(n,c)∈l
 |(m,d)::r,e=>by
  rw[cz]at e
  split at e
  ·rename_i q;cases e;rw[beq_iff_eq.mp q];exact bb
  ·exact aQ _ (dG e)
theorem Ja{l:List (Str×aC)}(h:l.Pairwise fun x y=>x.2≠y.2){n n':Str}{c:aC}(e:(n,c)∈l)(e':(n',c)∈l):n=n':=by
 induction l with
 |nil=>cases e
 |cons p r ih=>
  rw[jo]at h
  rcases aG.mp e with q|q<;>rcases aG.mp e' with q'|q'
  ·rw[<- q]at q';exact(cN q').1.symm
  ·exact absurd (by rw[<- q]) (h.1 _ q')
  ·exact absurd (by rw[<- q']) (h.1 _ q)
  ·exact ih h.2 q q'
theorem pO.put(F:pO X W fr σ h)(O':GX X){i:Nat}{x:Str}(hx:X.names i=some x){a:AV}{v:ah}(hv:V X.C W a v){m':Str->Option ah}(hn:h'.Ns X.env.locals m')(hnew:i8 X h' m' x v)
  (hold: ∀m,h.Ns X.env.locals m-> ∀z u,z≠x->i8 X h m z u->i8 X h' m' z u)(cells: ∀n c,X.env.cells.lookup n=some c-> ∃v,h'.IsCell c v)(live: ∀c,X.Has c-> ∃o,h'.get? c=some o):pO X W (put fr i a) σ h':=by
 obtain⟨⟨m,h1,b⟩,_,d,xC,d',_⟩:=F
 refine⟨⟨m',hn,fun j y e=> ?_⟩,cells,d,xC,d',live⟩
 rcases xS fr i a j y e with⟨rfl,rfl⟩|⟨hj,e|e⟩
 ·refine .inr fun z p=> ?_
  rw[hx]at p;cases p
  exact⟨v,hnew,hv⟩
 ·refine(b j y e).imp id fun f z p=> ?_
  obtain⟨u,q,r⟩:=f z p
  exact⟨u,hold m h1 z u (fun q=>hj (O'.uniq _ _ _ (q▸p) hx)) q,r⟩
 ·exact .inl e
theorem aid{h:bJ}{a:aC}{m m':Str->Option ah}(x:h.Ns a m)(y:h.Ns a m'):m=m':=by
 obtain⟨o,es,ep,h1,h2,_,h4⟩:=x
 obtain⟨o',es',ep',g1,g2,_,g4⟩:=y
 rw[h1]at g1;cases g1
 rw[h2]at g2;cases g2
 funext n;rw[<- h4,<- g4]
theorem i8.turn{m m':Str->Option ah}{z:Str}{u:ah}(q:i8 X h m z u)(hl:X.env.kindOf z=some .local->m z=some u->m' z=some u)(hc: ∀c,X.env.cells.lookup z=some c->h.IsCell c (some u)->h'.IsCell c (some u)):i8 X h' m' z u:=by
 unfold i8 at q ⊢
 revert q hl
 cases X.env.kindOf z with
 |none=>exact fun q _=>q.elim
 |some kd=>
  cases kd with
  |«local»=>exact fun q hl=>hl rfl q
  |cell=>exact fun⟨c,q1,q2⟩ _=>⟨c,q1,hc c q1 q2⟩
  |free=>exact fun⟨c,q1,q2⟩ _=>⟨c,q1,hc c q1 q2⟩
  |_=>exact fun q _=>q.elim
theorem St.store(O:u2 X)(O':GX X)(T:St X W fr σ s){i:Nat}{x:Str}(hx:X.names i=some x)(hk:X.env.kindOf x=some .local\/(X.env.kindOf x=some .cell/\ ∃c,X.env.cells.lookup x=some c/\c∈X.own)){a:AV}{v:ah}(hv:V X.C W a v):
  wpAny (dC X.C) A (storeName X.env x v) (fun _ s'=>St X W (put fr i a) σ s') dp s:=by
 obtain⟨R,F,S⟩:=T
 obtain⟨m,hn,_⟩:=F.vars
 rcases hk with hl|⟨hc,cx,hcx,own⟩
 ·refine wpAny_storeName_local hl hn (fun h' hn' hs=> ?_) (by rw[O.kind];rfl)
  have hb: ∀b o,b≠X.env.locals->s.heap.get? b=some o->h'.get? b=some o:=fun b o q e=>hs.extBut b o q e
  have keepC: ∀c n w,X.env.cells.lookup n=some c->s.heap.IsCell c w->h'.IsCell c w:=fun c n w e ⟨o,p,q⟩=>⟨o,hb _ _ (O.notL n c e) p,q⟩
  refine⟨R.keepsBut (F.sep _ (.inl rfl)) (F.own _ O.loc) (fun a cc p e e'=>F.apart _ (.inl rfl) a cc p e e') hb,F.put O' hx hv hn' (by unfold i8;rw[hl];exact if_pos rfl) (fun ah2 PF z u hz q=> ?_) (fun n c' e=>let⟨v,z⟩:=F.cells n c' e;⟨v,keepC _ _ _ e z⟩) fun c' hc'=> ?_,S.mk' _ _ (by first|exact ax _|exact cM _|(dsimp only;omega))⟩
  ·rw[aid PF hn]at q
   exact q.turn (fun _ e=>(if_neg hz).trans e) fun c e q=>keepC c z _ e q
  ·by_cases q:c'=X.env.locals
   ·obtain⟨o,_,_,z,_⟩:=hn';exact⟨o,by rw[q];exact z⟩
   ·obtain⟨o,z⟩:=F.live c' hc';exact⟨o,hb _ _ q z⟩
 ·obtain⟨wb,hcv⟩:=F.cells x cx hcx
  refine wpAny_storeName_cell O.kind hc hcx hcv fun h' hn' hs=> ?_
  have hb: ∀b o,b≠cx->s.heap.get? b=some o->h'.get? b=some o:=fun b o q e=>hs.extBut b o q e
  have keepC: ∀c n w,X.env.cells.lookup n=some c->n≠x->s.heap.IsCell c w->h'.IsCell c w:=fun c n w e hne ⟨o,p,q⟩=>⟨o,hb _ _ (fun q=>by subst q;exact hne (Ja O.apart (dG e) (dG hcx))) p,q⟩
  have has:X.Has cx:=.inr (.inr own)
  refine⟨R.keepsBut (F.sep _ has) (F.own _ own) (fun a cc p e e'=>F.apart _ has a cc p e e') hb,F.put O' hx hv (hn.at' fun o e=>hb _ _ (tm (O.notL x cx hcx)) e) (by unfold i8;rw[hc];exact⟨cx,hcx,hn'⟩) (fun ah2 PF z u hz q=> ?_) (fun n c' e=> ?_) fun c' hc'=> ?_,S.trans ⟨_,_,rfl,ax _⟩⟩
  ·rw[aid PF hn]at q
   exact q.turn (fun _ e=>e) fun c e q=>keepC c z _ e hz q
  ·by_cases q:n=x
   ·subst q;rw[hcx]at e;cases e;exact⟨_,hn'⟩
   ·obtain⟨v,z⟩:=F.cells n c' e;exact⟨v,keepC _ _ _ e q z⟩
  ·by_cases q:c'=cx
   ·obtain⟨o,z,_⟩:=hn';exact⟨o,by rw[q];exact z⟩
   ·obtain⟨o,z⟩:=F.live c' hc';exact⟨o,hb _ _ q z⟩
def So(X:FX)(is:ac)(t:an):Prop:=
 ∀A,A.handled=none-> ∀W fr σ s,St X W fr σ s-> ∀a v,V X.C W a v-> ∀fr',mj is a fr σ=some fr'->wpAny (dC X.C) A (assign t X.env v) (fun _ s'=>St X W fr' σ s') dp s
def kg(X:FX)(i:Nat)(x:Str):Prop:=X.names i=some x/\(X.env.kindOf x=some .local\/(X.env.kindOf x=some .cell/\ ∃c,X.env.cells.lookup x=some c/\c∈X.own))
theorem HA(O:u2 X)(O':GX X){i:Nat}{x:Str}{p:Pos}(hx:kg X i x):So X [i] (.Name x p):=fun A _ W fr σ s T a v hv fr' e=>by
 apply s1 e
 exact ly (T.store O O' hx.1 hx.2 hv)
inductive qc(X:FX):List Nat->List an->Prop where
 |nil:qc X [] []
 |cons {i x p is ts} (h:kg X i x) (r:qc X is ts):qc X (i::is) (.Name x p::ts)
theorem qc.len{is:ac}{ts:List an}(N:qc X is ts):is.length=ts.length:=by induction N<;>simp_all
theorem qc.each{is:ac}{ts:List an}(N:qc X is ts){env:Env}:(assignEach ts env).findIdx? (·.1)=none/\(assignEach ts env).length=ts.length/\(assignEach ts env).all (fun p=> !p.1)=true:=by
 induction N with
 |nil=>exact⟨rfl,rfl,rfl⟩
 |cons h r ih=>
  rename_i i x p is ts
  have e:assignEach (.Name x p::ts) env=(false,assign (.Name x p) env)::assignEach ts env:=rfl
  rw[e]
  refine⟨?_,by simp[ih.2.1],by simpa using ih.2.2⟩
  rw[List.findIdx?_cons];simp[ih.1]
theorem qc.order(O:u2 X)(O':GX X){is:ac}{ts:List an}(N:qc X is ts): ∀{W fr σ s},St X W fr σ s-> ∀{l vs},VL X.C W l vs-> ∀{fr'},vD is l fr=some fr'->
  wpAny (dC X.C) A (assignInOrder ((assignEach ts X.env).map (·.2)) vs) (fun _ s'=>St X W fr' σ s') dp s:=by
 induction N with
 |nil=>
  intro W fr σ s T l vs q fr' e
  cases l with
  |nil=>cases e;rw[show vs=[] from q];exact aL T
  |cons=>cases e
 |cons h r ih=>
  intro W fr σ s T l vs q fr' e
  cases l with
  |nil=>cases e
  |cons a l=>
   obtain⟨v,vs,rfl,q,q'⟩:=q
   rename_i i x p is ts
   refine eY (eo (ly (T.store O O' h.1 h.2 q)) fun _ s' T'=>ih T' q' e)
theorem LS: ∀{is:ac} {l:aa} {fr fr':Fm},vD is l fr=some fr'->is.length=l.length
 |[],[],_,_,_=>rfl
 |i::is,a::l,fr,fr',e=>congrArg nM (LS (is:=is) (l:=l) (fr:=put fr i a) (fr':=fr') e)
 |[],_::_,_,_,e=>by cases e
 |_::_,[],_,_,e=>by cases e
@[elab_as_elim] theorem Ku {i j:Nat} {is:ac} {a:AV} {fr fr':Fm} {Q:AV->Prop} (e:mj (i::j::is) a fr σ=some fr') (k: ∀l,vD (i::j::is) l fr=some fr'->Q (.tup l)):Q a:=Ny (show GY a (fun l=>vD (i::j::is) l fr)=some fr' from e) k
theorem K5(O:u2 X)(O':GX X){i j:Nat}{is:ac}{ts:List an}{c:Nat}{p:Pos}(N:qc X (i::j::is) ts):So X (i::j::is) (.Tuple ts c p):=fun A hA W fr σ s T a v hv fr' e=>by
 revert hv
 refine Ku e fun l e hv=>hv.tupE fun x n vs q r=> ?_
 have ht:s.heap.IsTuple x vs.toArray:=⟨_,T.rel.im _ _ q,rfl,n,rfl⟩
 obtain⟨n1,n2,n3⟩:=N.each (env:=X.env)
 refine wpAny_assign_Tuple hA ht ?_ n1 fun h' he=> ?_
 ·rw[n2,<- N.len,LS e,aZ,r.length]
 ·exact N.order O O' (T.keeps (fun b o z=>he b o (cj (cp z)) z) s.toks) r e
end
end
end
section
open PySem.SeqAt
noncomputable section
section
variable{X:FX}{k:Nat}{W W':Wd}{fr fr':Fm}{σ ai:AS}{s s':az}{A:bX}{h h':bJ}{C:PC}
theorem KP{M:k8}{α:Type}{t:Sem α}{Q:α->az->Prop}{E:ah->az->Prop}(h:wpAny M A t Q dp s):wpAny M A t Q E s:=jr h (fun _ _ q=>q) fun _ _ e=>e.elim
theorem aeU:mQ X k bk []:=fun A R W fr σ s T r e=>by
 apply s1 e;exact oO ⟨rfl,T.postU⟩
theorem aaO{m n:SM}{st:co}{sts:List co}(hm:lG X k m st)(hn:mQ X k n sts):mQ X k (aV m n) (st::sts):=fun A R W fr σ s T r e=>by
 refine oE e fun o q e=>nP (eo (hm A R W fr σ s T _ q) fun f bn P=> ?_)
 cases o with
 |next gO ay=>
  obtain⟨rfl,P⟩:=P
  exact P.elim fun bf bz br=>eo (hn A R bf gO ay bn br r e) fun _ _ z=>z.le bz
 |brk gO ay=>apply s1 e;obtain⟨rfl,P⟩:=P;exact⟨rfl,P⟩
 |cont gO ay=>apply s1 e;obtain⟨rfl,P⟩:=P;exact⟨rfl,P⟩
 |ret a ay=>apply s1 e;obtain⟨v,uc,rfl,P⟩:=P;exact⟨v,uc,rfl,P⟩
theorem Yu{m n:SM}{sts:List co}(hm: ∀W fr σ s,St X W fr σ s-> ∀r,m fr σ=some r-> ∃W' fr' ai,r= .next fr' ai/\W.le W'/\St X W' fr' ai s)(hn:mQ X k n sts):mQ X k (aV m n) sts:=fun A R W fr σ s T r e=>by
 refine oE e fun o q e=> ?_
 obtain⟨bf,gO,ay,rfl,bz,br⟩:=hm W fr σ s T _ q
 exact eo (hn A R bf gO ay s br r e) fun _ _ z=>z.le bz
theorem amy{c:BM}{m n:SM}{test:an}{b o:List co}{p:Pos}(hc:nh X k c test)(hm:mQ X k m b)(hn:mQ X k n o):lG X k (r5 c m n) (.If test b o p):=fun A R W fr σ s T r e=>by
 refine fM e fun t ay q e=>wpAny_If (hc.go R T q fun bn bf bz br=> ?_)
 cases t with
 |true=>exact eo (hm A R bf fr ay bn br r e) fun _ _ z=>z.le bz
 |false=>exact eo (hn A R bf fr ay bn br r e) fun _ _ z=>z.le bz
noncomputable def qh(e:an):Option dT:=match e with
 | .ListComp _ _ s _| .SetComp _ _ s _| .DictComp _ _ _ s _=>some s
 |_=>none
noncomputable def kp(e:an):Bool:=(qh e).isNone
theorem tr{e:an}(h:kp e=true){t:Option an}{l:Nat}{env:Env}:swapsWith e t l env=pure false:=by
 have h:=dA.mp h
 unfold swapsWith
 show(match qh e with|some scope=>_|x=>pure false)=_
 rw[h]
theorem aeN(O':GX X){m:EM}{e:an}{p:Pos}(hm:bZ X k m e)(hc:kp e=true):lG X k (kX m) (.Expr e p):=fun A R W fr σ s T r q=>by
 refine fM q fun a ay q1 q=> ?_
 apply s1 q
 exact J7 (hm.go R T q1 fun v bn bf bz br _=>⟨rfl,bf,bz,br⟩) O'.inter (tr hc)
theorem akf{m:EM}{e:an}{p:Pos}(hm:bZ X k m e):lG X k (eD m) (.Return (some e) p):=fun A R W fr σ s T r q=>by
 refine fM q fun a ay q1 q=> ?_
 apply s1 q
 exact wpAny_Return_some (eo (hm A R W fr σ s T _ _ q1) fun v bn z=>⟨v,fr,rfl,z⟩)
theorem aeS{p:Pos}:lG X k (eD (a7 .none)) (.Return none p):=fun A R W fr σ s T r q=>by
 apply s1 q
 exact wpAny_Return_none ⟨.none,fr,rfl,T.post rfl⟩
theorem aeL{p:Pos}:lG X k (fun fr σ=>some (.cont fr σ)) (.Continue p):=fun A R W fr σ s T r q=>by
 apply s1 q
 exact fun _ _ _=>⟨rfl,T.postU⟩
theorem Jj{is:ac}{m:EM}{r:j5}{Q:j5->Prop}(e:cO is m fr σ=some r)(k: ∀a ay fr',m fr σ=some (a,ay)->mj is a fr ay=some fr'->Q (.next fr' ay)):Q r:=fM e fun a ay q e=>oE e fun fr' q' e=>by
 apply s1 e;exact k a ay fr' q q'
theorem Yr(O:u2 X)(O':GX X){i:Nat}{x:Str}{m:EM}{e:an}{p p':Pos}(hx:kg X i x)(hm:bZ X k m e)(hc:swapsWith e (some (.Name x p')) p.line X.env=pure false):lG X k (cO [i] m) (.Assign [.Name x p'] e p):=fun A R W fr σ s T r q=>by
 apply Jj q;intro a ay fr' q1 q2
 apply s1 q2
 exact wpAny_Assign_Name (hm.go R T q1 fun v bn bf bz br z=>eo (br.store O O' hx.1 hx.2 z) fun _ dP cL=>⟨rfl,bf,bz,cL⟩) hc
theorem aeF(O:u2 X)(O':GX X){i j:Nat}{is:ac}{ts:List an}{c:Nat}{m:EM}{e:an}{p p':Pos}(N:qc X (i::j::is) ts)(hm:bZ X k m e)(hc:kp e=true)
  (hw:swappedStores [.Tuple ts c p'] e X.env=pure none):lG X k (cO (i::j::is) m) (.Assign [.Tuple ts c p'] e p):=fun A R W fr σ s T r q=>by
 apply Jj q;intro a ay fr' q1 q2
 exact Assign_Tuple (hm.go R T q1 fun v bn bf bz br z=>eo (K5 O O' N A R.handled bf fr ay bn br a v z fr' q2) fun _ dP cL=>⟨rfl,bf,bz,cL⟩) (show swapsWith e (some (.Tuple ts c p')) p.line X.env=pure false from tr hc) hw
theorem aeG(O:u2 X)(O':GX X){i j:Nat}{x y:Str}{ts:List an}{c:Nat}{m:EM}{e:an}{p p':Pos}(hx:kg X i x)(hy:kg X j y)(hij:i≠j)(hm:bZ X k m e)(hc:kp e=true)
  (hw:swappedStores [.Tuple ts c p'] e X.env=pure (some [x,y])):lG X k (cO [i,j] m) (.Assign [.Tuple ts c p'] e p):=fun A R W fr σ s T r q=>by
 apply Jj q;intro a ay fr' q1 q2
 refine yx (hm.go R T q1 fun v bn bf bz br z=> ?_) (show swapsWith e (some (.Tuple ts c p')) p.line X.env=pure false from tr hc) hw
 clear q1
 revert z
 refine Ku q2 fun l q2 z=>z.tupE fun x' n vs q r=> ?_
 revert q2
 match l,r with
 |[a,b],⟨v,_,e1,r1,w,_,e2,r2,r3⟩=>
  intro q2
  cases r3;cases e2;cases e1
  refine uZ (items:= #[v,w]) R.handled ⟨_,br.rel.im _ _ q,rfl,n,rfl⟩ fun h' he=> ?_
  have cL:=br.keeps (fun b o z=>he b o (cj (cp z)) z) bn.toks
  show wpAny _ _ (assignInOrder [bindName X.env y,bindName X.env x] [w,v]) _ _ _
  refine eY (ma (eo (cL.store O O' hy.1 hy.2 r2) fun _ jG i7=>eY (ma (eo (i7.store O O' hx.1 hx.2 r1) fun _ oz og=>tK ⟨rfl,bf,bz,?_⟩))))
  apply s1 q2
  rw[qm _ _ _ hij];exact og
 |[],_=>exact fun q2=>nn q2
 |[_],_=>exact fun q2=>nn q2
 |_::_::_::_,_=>exact fun q2=>nn q2
theorem aaJ(O:u2 X)(O':GX X){i j l:Nat}{x y z:Str}{ts:List an}{c:Nat}{m:EM}{e:an}{p p':Pos}(hx:kg X i x)(hy:kg X j y)(hz:kg X l z)(hij:i≠j)(hil:i≠l)(hjl:j≠l)(hm:bZ X k m e)(hc:kp e=true)
  (hw:swappedStores [.Tuple ts c p'] e X.env=pure (some [x,y,z])):lG X k (cO [i,j,l] m) (.Assign [.Tuple ts c p'] e p):=fun A R W fr σ s T r q=>by
 apply Jj q;intro a ay fr' q1 q2
 refine yx (hm.go R T q1 fun v bn bf bz br pH=> ?_) (show swapsWith e (some (.Tuple ts c p')) p.line X.env=pure false from tr hc) hw
 clear q1
 revert pH
 refine Ku q2 fun la q2 pH=>pH.tupE fun x' n vs q r=> ?_
 revert q2
 match la,r with
 |[a,b,d],⟨v,_,e1,r1,w,_,e2,r2,u,_,e3,r3,r4⟩=>
  intro q2
  cases r4;cases e3;cases e2;cases e1
  refine uZ (items:= #[v,w,u]) R.handled ⟨_,br.rel.im _ _ q,rfl,n,rfl⟩ fun h' he=> ?_
  have cL:=br.keeps (fun b o z=>he b o (cj (cp z)) z) bn.toks
  show wpAny _ _ (assignInOrder [bindName X.env z,bindName X.env y,bindName X.env x] [u,w,v]) _ _ _
  refine eY (ma (eo (cL.store O O' hz.1 hz.2 r3) fun _ jG i7=>eY (ma (eo (i7.store O O' hy.1 hy.2 r2) fun _ oz og=>eY (ma (eo (og.store O O' hx.1 hx.2 r1) fun _ sz xt=>tK ⟨rfl,bf,bz,?_⟩))))))
  apply s1 q2
  rw[qm (put fr i a) _ _ hjl,qm fr _ _ hil,qm (put fr l d) _ _ hij];exact xt
 |[],_=>exact fun q2=>nn q2
 |[_],_=>exact fun q2=>nn q2
 |[_,_],_=>exact fun q2=>nn q2
 |_::_::_::_::_,_=>exact fun q2=>nn q2
theorem mQ.turn{b:SM}{body:List co}(hb:mQ X k b body)(R:eI A k)(T:St X W fr σ s){kk:SM}{r:j5}(e:ob (b fr σ) (KL kk)=some r){Q:JY->az->Prop}
  (h1: ∀fr' ai s' W',W.le W'->St X W' fr' ai s'->kk fr' ai=some r->Q .next s'/\Q .cont s')(h2: ∀fr' ai s' W',W.le W'->St X W' fr' ai s'->r= .next fr' ai->Q .brk s')(h3: ∀a ai v fr' s' W',W.le W'->St X W' fr' ai s'->V X.C W' a v->r= .ret a ai->Q (.ret v) s'):
  wpAny (dC X.C) A (execs body X.env) Q dp s:=oE e fun o q e=>eo (hb A R W fr σ s T _ q) fun f bn P=>by
 cases o with
 |next fr' ai=>obtain⟨rfl,W',l,T'⟩:=P;exact(h1 fr' ai bn W' l T' e).1
 |cont fr' ai=>obtain⟨rfl,W',l,T'⟩:=P;exact(h1 fr' ai bn W' l T' e).2
 |brk fr' ai=>obtain⟨rfl,W',l,T'⟩:=P;exact h2 fr' ai bn W' l T' (aH e).symm
 |ret a ai=>obtain⟨v,fr',rfl,W',l,T',z⟩:=P;exact h3 a ai v fr' bn W' l T' z (aH e).symm
def afj(X:FX)(W:Wd)(c:BM)(b:SM)(r:j5)(n:Nat)(s':az):Prop:= ∃W' fr σ,W.le W'/\St X W' fr σ s'/\Tt c b n fr σ=some r
theorem YG{R':tF->az->Prop}{c:BM}{b:SM}{r:j5}{n:Nat}{test:an}{body:List co}(hc:nh X k c test)(hb:mQ X k b body)(R:eI A k)(hR: ∀f s',BR X W r f s'->R' (.ok f) s')(h:afj X W c b r n s):codeAny (dC X.C) A (.whileLoop test body [] X.env) R' s:=by
 refine codeAny_whileLoop (afj X W c b r) (fun n s' h=> ?_) n h
 obtain⟨W',fr,σ,l,T,e⟩:=h
 cases n with
 |zero=>exact nn e
 |succ n=>
  refine fM (show bw (c fr σ) (fun t ai=>bif t then ob (b fr ai) (KL (Tt c b n))else some (.next fr ai))=some r from e) fun t ay q e=>KP (hc.go R T q fun bn bf bz br=> ?_)
  have l:=l.trans bz
  cases t with
  |false=>exact oO (hR _ _ (by apply s1 e;exact⟨rfl,bf,l,br⟩))
  |true=>
   refine KP (hb.turn R br e (fun uc aM dP ct dJ cL e=> ?_) (fun uc aM dP ct dJ cL e=> ?_) fun a aM v uc dP ct dJ cL z e=> ?_)
   ·have h: ∃m,m<n+1/\afj X W c b r m dP:=⟨n,bO _,ct,uc,aM,l.trans dJ,cL,e⟩
    exact⟨h,h⟩
   ·exact hR _ _ (by rw[e];exact⟨rfl,ct,l.trans dJ,cL⟩)
   ·exact hR _ _ (by rw[e];exact⟨v,uc,rfl,ct,l.trans dJ,cL,z⟩)
theorem aaN{c:BM}{b:SM}{n:Nat}{test:an}{body:List co}{p:Pos}(hc:nh X k c test)(hb:mQ X k b body):lG X k (Tt c b n) (.While test body [] p):=fun A R W fr σ s T r e=>
 wpAny_While (YG hc hb R (fun _ _ h=>h) ⟨W,fr,σ,.refl _,T,e⟩)
structure ib(X:FX)(W:Wd)(σ:AS)(I:aC)(l:List AV)(i:Nat)(h:bJ)(S:Nat->bJ->Prop)(fp:List aC)(P:Nat->ah->Prop):Prop where
 it: ∃pc,xa X W σ I l pc S fp P
 at_:S i h
 loose:hY X W σ I
theorem Pl{α:Type}{l:List α}{i:Nat}{a:α}{r:List α}(h:l.drop i=a::r):i<l.length/\r=l.drop (i+1):=by
 refine⟨?_,?_⟩
 ·rcases oK i l.length with z|z
  ·exact z
  ·rw[g8 z]at h;cases h
 ·have:=congrArg (Bh 1) h
  rw[pX]at this
  exact this.symm
theorem ib.item{I:aC}{l:aa}{i:Nat}{S:Nat->bJ->Prop}{fp:List aC}{P:Nat->ah->Prop}(w:ib X W σ I l i s.heap S fp P)(T:St X W fr σ s)(hA:A.handled=none){a:AV}{r:aa}(e:l.drop i=a::r)
  {Q:Option ah->az->Prop}(h: ∀v s',St X W fr σ s'->ib X W σ I l (i+1) s'.heap S fp P->V X.C W a v->(∀b o,b≠I->s.heap.get? b=some o->s'.heap.get? b=some o)->Q (some v) s'):wpAny (dC X.C) A (pyNext (.ref I)) Q dp s:=by
 obtain⟨⟨pc,It⟩,st,L⟩:=w
 have hi:=(Pl e).1
 have hg:l[i]? =some a:=by
  have:(l.drop i)[0]? =some a:=by rw[e];rfl
  rwa[qU]at this
 refine VS (ax s.toks) ?_
 refine(It.walks A hA).item i s _ _ hi st fun v h' tk hP hS hk=>fun ht=> ?_
 obtain⟨a',e1,q⟩:=It.val i v hi hP
 rw[hg]at e1;cases e1
 exact h v _ (T.but L (fun b o hb=>hk b o (by simpa using hb)) tk ht) ⟨⟨pc,It⟩,hS,L⟩ q fun b o hb=>hk b o (by simpa using hb)
theorem ib.done{I:aC}{l:aa}{i:Nat}{S:Nat->bJ->Prop}{fp:List aC}{P:Nat->ah->Prop}(w:ib X W σ I l i s.heap S fp P)(T:St X W fr σ s)(hA:A.handled=none)(hl:i<=l.length)(e:l.drop i=[])
  {Q:Option ah->az->Prop}(h: ∀s',St X W fr σ s'->(∀b o,b≠I->s.heap.get? b=some o->s'.heap.get? b=some o)->Q none s'):wpAny (dC X.C) A (pyNext (.ref I)) Q dp s:=by
 obtain⟨⟨pc,It⟩,st,L⟩:=w
 have hi:i=l.length:=by
  exact vf hl (oH.mp e)
 subst hi
 refine VS (ax s.toks) ?_
 exact(It.walks A hA).done s _ _ st fun h' tk hk=>fun ht=>h _ (T.but L (fun b o hb=>hk b o (by simpa using hb)) tk ht) fun b o hb=>hk b o (by simpa using hb)
theorem ib.pin{I:aC}{l:aa}{i:Nat}{S:Nat->bJ->Prop}{fp:List aC}{P:Nat->ah->Prop}(w:ib X W σ I l i s.heap S fp P)(T:St X W fr σ s):
  ∃o,St X (W.pin I o) fr σ s/\ ∀{bf:Wd} {fr':Fm} {ai:AS} {s':az},(W.pin I o).le bf->St X bf fr' ai s'->W.le {bf with pr:=W.pr}/\St X {bf with pr:=W.pr} fr' ai s'/\ib X {bf with pr:=W.pr} ai I l i s'.heap S fp P:=by
 obtain⟨⟨pc,It⟩,st,L⟩:=w
 obtain⟨o,n,ho,_,_⟩:=It.obj i _ st
 refine⟨o,T.pin L ho,fun{bf fr' ai s'} bz br=> ?_⟩
 obtain⟨le,cL,e,Bw⟩:=St.unpin bz L br
 refine⟨le,cL,⟨pc,⟨It.walks,It.st,(It.mono le).fp,(It.mono le).val,It.obj⟩⟩,(It.walks {} rfl).frame i _ _ st fun b hb o' e'=> ?_,Bw⟩
 rcases It.fp b hb with rfl|⟨oo,z⟩
 ·rw[ho]at e';cases e';exact e
 ·have z1:=T.rel.im _ _ z
  rw[e']at z1;cases z1
  exact cL.rel.im _ _ (le.2.1 _ _ z)
theorem ib.go{I:aC}{l:aa}{i:Nat}{S:Nat->bJ->Prop}{fp:List aC}{P:Nat->ah->Prop}(w:ib X W σ I l i s.heap S fp P){v:ah}{Q:Unit->az->Prop}{t:an}(hq:Q () s):
  wpAny (dC X.C) A (letOwnedTupleGo t (.ref I) v) Q dp s:=by
 obtain⟨⟨pc,It⟩,st,L⟩:=w
 obtain⟨o,n,ho,hc,hn⟩:=It.obj i _ st
 have key:wpAny (dC X.C) A (do
   let(.ref r,.ref a):=(n9 I,v)|return
   let o <- load r
   match o.cls,o.data with
   | .type n,.fields vs=>
    if["enumerate","zip","dict_itemiterator","dict_reverseitemiterator","odict_iterator","itertools.zip_longest","itertools.pairwise"].contains n&&vs[0]? ==some (rawInt a)then
     rule "for.unpacks-the-owned-tuple"
     updateField r 0 .none
   |_,_=>pure ():Sem Unit) Q dp s:=by
  cases v with
  |ref a=>
   refine aq (wpAny_load ho ?_)
   rw[hc]
   cases hd:o.data with
   |fields vs=>
    dsimp only
    rw[hn,Bool.false_and,if_neg (by decide)]
    exact aL hq
   |_=>exact aL hq
  |_=>exact aL hq
 unfold letOwnedTupleGo
 cases t<;>first|exact aL hq|exact key
def afb(X:FX)(W:Wd)(is:ac)(b:SM)(I:aC)(l:aa)(S:Nat->bJ->Prop)(fp:List aC)(P:Nat->ah->Prop)(r:j5)(n:Nat)(s':az):Prop:= ∃i W' fr σ,n=l.length-i/\i<=l.length/\W.le W'/\St X W' fr σ s'/\ib X W' σ I l i s'.heap S fp P/\pD is b (l.drop i) fr σ=some r
theorem Yz{n i:Nat}(h:i<n):n-(i+1)<n-i:=Nat.sub_lt_sub_left h (bO i)
theorem ady{R':tF->az->Prop}{is:ac}{b:SM}{tg:an}{body:List co}{I:aC}{l:aa}{S:Nat->bJ->Prop}{fp:List aC}{P:Nat->ah->Prop}{r:j5}(ht:So X is tg)(hb:mQ X k b body)(R:eI A k)(hR: ∀f s',BR X W r f s'->R' (.ok f) s'){n:Nat}(h:afb X W is b I l S fp P r n s):codeAny (dC X.C) A (.forLoop tg (.ref I) body [] X.env) R' s:=by
 refine codeAny_forLoop_any (afb X W is b I l S fp P r) (fun n s' h=> ?_) n h
 obtain⟨i,W',fr,σ,rfl,hl,le,T,w,e⟩:=h
 cases hd:l.drop i with
 |nil=>
  rw[hd]at e
  exact KP (w.done T R.handled hl hd fun s' T' _=>oO (hR _ _ (by apply s1 e;exact⟨rfl,W',le,T'⟩)))
 |cons a r'=>
  rw[hd]at e
  obtain⟨hi',hr⟩:=Pl hd
  refine oE (show ob (mj is a fr σ) (fun gO=>ob (b gO σ) (KL (pD is b r')))=some r from e) fun gO q3 e=>KP (w.item T R.handled hd fun v jG i7 anm YK _=>KP (anm.go ?_))
  obtain⟨o,og,back⟩:=anm.pin i7
  refine KP (eo (ht A R.handled _ fr σ jG og a v (YK.pr rfl rfl) gO q3) fun _ oz xt=>KP (hb.turn R xt e (fun uc cJ sz Iw PY LH e=> ?_) (fun uc cJ sz Iw PY LH e=> ?_) fun a cJ v uc sz Iw PY LH akY e=> ?_))
  ·obtain⟨le7,T7,w7⟩:=back PY LH
   have h: ∃m,m<l.length-i/\afb X W is b I l S fp P r m sz:=⟨l.length-(i+1),Yz hi',i+1,_,uc,cJ,rfl,hi',le.trans le7,T7,w7,hr▸e⟩
   exact⟨h,h⟩
  ·obtain⟨le7,T7,w7⟩:=back PY LH
   exact hR _ _ (by rw[e];exact⟨rfl,_,le.trans le7,T7⟩)
  ·obtain⟨le7,T7,w7⟩:=back PY LH
   exact hR _ _ (by rw[e];exact⟨v,uc,rfl,_,le.trans le7,T7,akY.pr rfl rfl⟩)
theorem aj8{is:ac}{it:EM}{b:SM}{tg ie:an}{body:List co}{p:Pos}(hi:bZ X k it ie)(ht:So X is tg)(hb:mQ X k b body)(hs: ∀x,foldedSetIterable ie X.env x=pure x):lG X k (gv is it b) (.For tg ie body [] p):=fun A R W fr σ s T r e=>by
 refine fM e fun a ay q1 e=>fM e fun l aM q2 e=>wpAny_For (hi.go R T q1 fun v bn bf bz br pH=>eo (vK br q2 pH) fun it dP z=>z.elim fun I ct S fp P dJ cL Bw It=> ?_) hs
 exact ady ht hb R (fun _ _ h=>h) ⟨0,ct,fr,aM,rfl,aU _,bz.trans dJ,cL,⟨⟨_,It⟩,It.st,Bw⟩,e⟩
end
end
end
section
open PySem.SeqAt
noncomputable section
section
variable{X:FX}{k:Nat}{W W':Wd}{fr fr':Fm}{σ ai:AS}{s s':az}{A:bX}{h h':bJ}{C:PC}
theorem ajp{K:dQ}{prog:fT}{w:dH}{E:ah->az->Prop}{x c d:aC}{es es':List hJ}{n n':Nat}{name:Str}{v:ah}{Q:Unit->az->Prop}(X:K.In s.heap)(hx:s.heap.get? x=some (instObj c d))(hd:s.heap.get? d=some (dictOf es n))
  (hs:findIn K (.ref c) "__setattr__"=some (some (.builtin "object.__setattr__")))(hp:plainOver K c=true)(ht:takerIn K c name=some none)(hh:hasDictIn K c=true)(hl:(getL name es).isSome=true)
  (e:(putL name (pZ w.params name) (.str name (s.toks+1)) v es,putN name es n)=(es',n'))(hz:es'.length<=1000)
  (h: ∀h',h'.get? d=some (dictOf es' n')->iY d s.heap h'->Q () {s with heap:=h',toks:=s.toks+2}):
  wpAny (model prog w) A (setAttr (.ref x) name v) Q E s:=by
 obtain⟨e1,e2⟩:=cN e
 have I:InstAt s.heap x (instObj c d) c (some (dictOf es n)):=⟨hx,rfl,rfl,hd⟩
 refine Ls X I hs (osa_open (s:={s with toks:=s.toks+1}) X I hp ht fun b=> ?_)
 obtain⟨cd,hc,hd'⟩:=any_some hh
 refine aq (aL (aq (aq (p7 hx (aq (wj X hc _ _ _ _ (fun _ _ e=>e) ?_))))))
 rw[hd']
 refine aL (a:=some d) (aq (aL (aq ?_)))
 unfold nsSet
 refine aq (aq (Gr (aL (aq (wpAny_mkText (aq (p7 hd ?_)))))))
 have c0:(!es.toArray.any (·.key.isStr name)&&es.toArray.any (·.refKey))=false:=by
  rw[<- Gj,<- Gj]
  unfold getL at hl
  split at hl
  ·rename_i en he
   rw[j9.mpr ⟨en,List.mem_of_find?_eq_some he,List.find?_some he⟩];rfl
  ·split at hl
   ·cases hl
   ·rename_i z;rw[Bool.not_eq_true]at z;rw[z,Bool.and_false]
 dsimp only
 rw[aRefKeyMayBeTheName_at,c0]
 have hf:Q6 name (pZ w.params name) (.str name (s.toks+1)) v (dictOf es n)=dictOf es' n':=by rw[putName_dict,e1,e2]
 have D':(s.heap.update d (Q6 name (pZ w.params name) (.str name (s.toks+1)) v)).get? d=some (dictOf es' n'):=by
  rw[<- hf];exact jO _ hd (by rw[hf];rfl)
 refine wpAny_updatePart hd ?_
 refine aq (Gu D' (Gp (by rw[aZ,jA];omega)) ?_)
 exact aL (h _ D' (je ..))
theorem Hk: ∀{ks:ac} {vs:List ah} {es:List hJ},oT C ks vs es->(∀e∈es,e.refKey=false)/\es.length=ks.length:=by
 intro ks
 induction ks with
 |nil=>intro vs es q;cases vs with
  |nil=>cases es with
   |nil=>exact⟨fun e he=>(by cases he),rfl⟩
   |cons=>exact q.elim
  |cons=>exact q.elim
 |cons k ks ih=>intro vs es q;cases vs with
  |nil=>exact q.elim
  |cons v vs=>cases es with
   |nil=>exact q.elim
   |cons en es=>
    obtain⟨_,⟨t,ht⟩,_,q⟩:=q
    obtain⟨h1,h2⟩:=ih q
    refine⟨fun e he=> ?_,congrArg _ h2⟩
    rcases aG.mp he with rfl|he
    ·unfold Gl;rw[ht]
    ·exact h1 e he
theorem Xx(q:oT C ks vs es)(name:Str):(getL name es).isSome=true:=by
 unfold getL
 split
 ·rfl
 ·rw[if_neg];rfl
  intro h
  obtain⟨e,he,h⟩:=j9.mp h
  rw[(Hk q).1 e he]at h;cases h
theorem aaB{x kk:Nat}(hx:x<C.nf)(hk:kk<C.nf){hsh:Int}{t u:Tok}{v:ah}{en:hJ}{es:List hJ}(hu:en.key= .str (C.fname x) u):putL (C.fname kk) hsh (.str (C.fname kk) t) v (en::es)=if kk=x then{en with val:=v}::es else en::putL (C.fname kk) hsh (.str (C.fname kk) t) v es:=by
 by_cases h:kk=x
 ·subst h
  rw[if_pos rfl,putL,if_pos (by rw[hu];simp[iQ])]
 ·rw[if_neg h,putL,if_neg]
  rw[hu]
  have:C.fname x≠C.fname kk:=fun q=>h (C.fnameInj _ _ hx hk q).symm
  simp[iQ,this]
theorem ajn{kk:Nat}(hk:kk<C.nf){a:AV}{v:ah}{hsh:Int}{t:Tok}(hv:V C W a v): ∀{ks:ac} {fs:aa} {vs:List ah} {es:List hJ},VL C W fs vs->oT C ks vs es->
  ∃vs',VL C W (Mc kk a ks fs).2 vs'/\oT C (Mc kk a ks fs).1 vs' (putL (C.fname kk) hsh (.str (C.fname kk) t) v es):=by
 intro ks
 induction ks with
 |nil=>
  intro fs vs es hf q
  cases vs with
  |nil=>cases es with
   |nil=>exact⟨[v],⟨v,[],rfl,hv,rfl⟩,hk,⟨t,rfl⟩,rfl,trivial⟩
   |cons=>exact q.elim
  |cons=>exact q.elim
 |cons x ks ih=>
  intro fs vs es hf
  cases fs with
  |nil=>exact hf.nilE fun q=>q.elim
  |cons b fs=>
   refine hf.consE fun w r h1 h2 q=> ?_
   cases es with
   |nil=>exact q.elim
   |cons en es=>
    obtain⟨hx,⟨u,hu⟩,rfl,q⟩:=q
    rw[aaB hx hk hu,ajo,fV]
    by_cases z:kk=x
    ·rw[if_pos z,decide_eq_true z]
     exact⟨v::r,⟨v,r,rfl,hv,h2⟩,hx,⟨u,hu⟩,rfl,q⟩
    ·rw[if_neg z,decide_eq_false z]
     obtain⟨vs',i1,i2⟩:=ih h2 q
     exact⟨en.val::vs',⟨_,_,rfl,h1,i1⟩,hx,⟨u,hu⟩,rfl,i2⟩
theorem Qs(T:St X W fr σ s){kk:Nat}(hk:kk<X.C.nf){a o:AV}(e:oq kk a o σ=some ai){v ov:ah}(hv:V X.C W a v)(ho:V X.C W o ov):
  wpAny (dC X.C) A (setAttr ov (X.C.fname kk) v) (fun _ s'=>St X W fr ai s') dp s:=by
 revert ho
 refine ir e fun x e ho=>instE e fun c ks fs hg e=>kS (show(bif cT (Mc kk a ks fs).1.length 1000&& !Sv c kk then some (σ.set x (.inst c (Mc kk a ks fs).1 (Mc kk a ks fs).2))else none)=some ai from e) fun z e=> ?_
 apply s1 e
 obtain⟨z1,z2⟩:=bu.mp z
 refine T.rel.instE hg ho fun p es n vs q q0 q1 q2 r q3=> ?_
 obtain⟨p1,p2,_,p4,p5,p6⟩:=LQ (X.C.attr c kk q0 hk (by rwa[dY]at z2))
 obtain⟨vs',i1,i2⟩:=ajn (W:=W) hk (hsh:=pZ X.C.w.params (X.C.fname kk)) (t:=s.toks+1) hv r q3
 refine ajp T.rel.K (T.rel.im _ _ q1) q2 p4 p5 p6 p2 (Xx q3 _) rfl (by rw[(Hk i2).2];exact av z1) fun h' h1 h2=> ?_
 exact T.set (c:=.inst c _ _) hg q h2 ⟨q0,q1,_,_,vs',h1,i1,i2⟩ _
theorem Di{e:an}{o:an}{x:Str}{p:Pos}{l:Nat}{env:Env}:swapsWith e (some (.Attribute o x p)) l env=pure false:=by
 unfold swapsWith
 show(match qh e with|some scope=>pure false|x=>pure false)=_
 cases qh e<;>rfl
theorem aaU{e:an}{o x:an}{p:Pos}{l:Nat}{env:Env}:swapsWith e (some (.Subscript o x p)) l env=pure false:=by
 unfold swapsWith
 show(match qh e with|some scope=>pure false|x=>pure false)=_
 cases qh e<;>rfl
theorem aeC{kk:Nat}{o m:EM}{oe e:an}{p ap:Pos}(hk:kk<X.C.nf)(hm:bZ X k m e)(ho:bZ X k o oe):lG X k (lR kk o m) (.Assign [.Attribute oe (X.C.fname kk) ap] e p):=fun A R W fr σ s T r q=>by
 refine fM q fun a ay q1 q=>fM q fun x aM q2 q=>oE q fun cJ q3 q=> ?_
 apply s1 q
 refine jf (hm.go R T q1 fun v bn bf bz br pH=>ho.go R br q2 fun ov dP ct dJ cL Mu=> ?_) Di
 exact eo (Qs cL hk q3 (pH.mono dJ) Mu) fun _ jG i7=>⟨rfl,ct,bz.trans dJ,i7⟩
theorem Vy{prog:fT}{w:dH}{E:ah->az->Prop}{l:aC}{vs:List ah}{n:Nat}{k:Int}{t:Tok}{v:ah}{Q:Unit->az->Prop}(hl:s.heap.get? l=some (dw vs n))(h0:0<=k)(hfit:k<2^63)(hn:k<vs.length)
  (hQ: ∀h' n',h'.get? l=some (dw (vs.set k.toNat v) n')->iY l s.heap h'->Q () {s with heap:=h'}):wpAny (model prog w) A (setItem (.ref l) (.int k t) v) Q E s:=by
 have hl':=lM hl
 unfold setItem
 refine dD ?_
 refine aq (wpAny_sequenceKey hl'.typeIs (by decide) ?_)
 refine aq (wpAny_callSpecial?_slot (name:=lA "__setitem__") hl'.typeIs E4
  (wpAny_call_entry E4 hl'.typeIs entry_list_setitem ?_ (args_list_setitem _ _ _)))
 show wpAny _ _ (Lo (.int k t)>>=_) _ _ s
 refine aq (wpAny_listSubscript_int (fitsIndex_of h0 hfit) ?_)
 clear hfit
 obtain⟨j,rfl⟩:=uV h0
 have hn:j<vs.length:=by omega
 have hx':vs.toArray[j]? =some vs[j]:=by simp[hn]
 show wpAny _ _ ((seqItemAt l j>>=fun r=>pure (r.map (j,·)))>>=_) _ _ s
 refine aq (aq (wpAny_seqItemAt hl rfl (aL ?_)))
 rw[hx']
 show wpAny _ _ (setSeqItemAt l j v>>=_) _ _ s
 obtain⟨n',hd'⟩:=Obj.data_mapSeq (o:=dw vs n) rfl (·.setIfInBounds j v)
 have hfin:(s.heap.update l (HV (·.setIfInBounds j v))).get? l=some (dw (vs.set j v) n'):=by
  rw[jO (HV (·.setIfInBounds j v)) hl (Obj.isFreed_of_seq hd')]
  have: ∀o:Obj,o.cls= .type "list" ->o.dict=none->o.slots= #[]->o.data= .seq (vs.toArray.setIfInBounds j v) n'->o=dw (vs.set j v) n':=by
   rintro⟨c,d,da,sl⟩ rfl rfl rfl h
   have h:da=_:=h
   rw[h]
   simp[dw]
  rw[this _ (Obj.cls_mapSeq ..) (by rfl) (by rfl) hd']
 refine aq (wpAny_setSeqItemAt hl rfl ?_)
 first
  |exact aq (aL (aL ⟨.none,rfl,aL (hQ _ _ hfin (je ..))⟩))
  |exact aL ⟨.none,rfl,aL (hQ _ _ hfin (je ..))⟩
theorem aaE: ∀(l:aa) (i:Nat) (v:AV),NP l i v=l.set i v:=by
 intro l
 induction l with
 |nil=>intro i v;rfl
 |cons a r ih=>intro i v;cases i with
  |zero=>rfl
  |succ i=>exact congrArg (a:: ·) (ih i v)
theorem Xe{a b:ac}:dg a b=decide (aP a=aP b):=by
 have:=qs (a:=a) (b:=b)
 rw[<- this]
 by_cases q:aP a=aP b<;>simp[q]
theorem VI{x p:Str}{w v:ah}{l:List (Str×ah)}(hN:x∉l.map (·.1)):stored ((x,w)::l) p v=if x=p then(x,v)::l else(x,w)::stored l p v:=by
 unfold stored
 by_cases z:x=p
 ·subst z
  rw[if_pos rfl,if_pos (by simp)]
  simp only[bd,if_true,vd,true_and]
  rw[fS (g:=id),List.map_id]
  intro q hq
  exact if_neg fun e=>hN (dy.mpr ⟨q,hq,e⟩)
 ·rw[if_neg z]
  simp only[rv,z,decide_false,Bool.false_or,bd,if_false]
  split<;>rfl
theorem Zy(k:ac)(v:AV)(x:ac)(ks:List (List Nat))(w:AV)(vs:aa):qF k v (x::ks) (w::vs)=bif dg x k then(x::ks,v::vs)else(x::(qF k v ks vs).1,w::(qF k v ks vs).2):=rfl
theorem Zx{kk:ac}{a:AV}{v:ah}(hv:V C W a v): ∀{ks:List (List Nat)} {fs:aa} {vs:List ah},VL C W fs vs->ks.length=vs.length->(((ks.map aP).zip vs).map (·.1)).Nodup->
  ∃vs',VL C W (qF kk a ks fs).2 vs'/\(qF kk a ks fs).1.length=vs'.length/\stored ((ks.map aP).zip vs) (aP kk) v=((qF kk a ks fs).1.map aP).zip vs':=by
 intro ks
 induction ks with
 |nil=>
  intro fs vs hf hl hN
  cases vs with
  |nil=>exact⟨[v],⟨v,[],rfl,hv,rfl⟩,rfl,rfl⟩
  |cons=>cases hl
 |cons x ks ih=>
  intro fs vs hf hl
  cases fs with
  |nil=>rw[show vs=[] from hf]at hl;cases hl
  |cons b fs=>
   revert hl
   refine hf.consE fun w r h1 h2 hl hN=> ?_
   rw[bd,bL,bd,dL]at hN
   have hl:=jS hl
   rw[bd,bL,VI hN.1,Zy,Xe]
   by_cases z:aP x=aP kk
   ·rw[if_pos z,decide_eq_true z]
    exact⟨v::r,⟨v,r,rfl,hv,h2⟩,congrArg _ hl,rfl⟩
   ·rw[if_neg z,decide_eq_false z]
    obtain⟨vs',i1,i2,i3⟩:=ih h2 hl hN.2
    exact⟨w::vs',⟨w,vs',rfl,h1,i1⟩,congrArg _ i2,congrArg ((aP x,w):: ·) i3⟩
theorem Qt(T:St X W fr σ s){a o i:AV}(e:KX a o i σ=some ai){v ov iv:ah}(hv:V X.C W a v)(ho:V X.C W o ov)(hi:V X.C W i iv):
  wpAny (dC X.C) A (setItem ov iv v) (fun _ s'=>St X W fr ai s') dp s:=by
 revert ho
 refine ir e fun x e ho=>oE e fun c hg e=> ?_
 revert hi
 cases c<;>first|exact fun _=>nn e|skip
 ·refine mi (show(nR i fun n=>bif dv n&&bt n (mZ _)then some (σ.set x (.lst (NP _ n a)))else none)=some ai from e) fun n e hi=>kS e fun z e=> ?_
  apply s1 e
  obtain⟨z1,z2⟩:=bu.mp z
  have z1:=jL z1
  have z2:=c9.mp z2
  refine hi.intE fun t=>T.rel.lstE hg ho fun p vs n' q q0 q2 r=> ?_
  rw[q0]at q2 ⊢
  refine Vy (k:=am n) q2 (dh n) (Bf (NV.mpr z1) (by decide)) (by rw[r.length];exact hU.mpr z2) fun h' aqE h1 h2=> ?_
  exact T.set (c:=.lst _) hg q h2 ⟨q0,_,_,h1,by rw[aaE];exact r.set hv⟩ _
 ·rename_i ks fs
  refine fO (show(d8 i fun k=>bif dv ks.length then some (σ.set x (.dct (qF k a ks fs).1 (qF k a ks fs).2))else none)=some ai from e) fun kk e hi=>kS e fun z e=> ?_
  apply s1 e
  refine hi.strE fun t=>T.rel.dctE hg ho fun p oo vs q q0 q1 q2 r q4=> ?_
  rw[q0]at q1 q2 ⊢
  obtain⟨q3,es,ep,w1,w2,w3,w4,w5⟩:=q4
  obtain⟨vs',i1,i2,i3⟩:=Zx (kk:=kk) hv r q3 w5
  refine wpAny_setItem_pairs (knd:=ry X.C.prog X.C.w) (k:=aP kk) (kvs:=(ks.map aP).zip vs) (tE X.C.prog X.C.w (aP kk) t) ⟨oo,es,ep,q2,w1,w2,w3,w4,w5⟩ (fun h' h1 h2=> ?_) ?_
  ·obtain⟨oo',es',ep',g,w⟩:=h1
   rw[i3]at w
   exact T.set (c:=.dct _ _) hg q h2 ⟨q0,q1,oo',vs',g,i1,i2,es',ep',w⟩ _
  ·have:=iV z
   simp;omega
theorem aeE{o i m:EM}{oe ie e:an}{p ap:Pos}(hm:bZ X k m e)(ho:bZ X k o oe)(hi:bZ X k i ie):lG X k (Qq o i m) (.Assign [.Subscript oe ie ap] e p):=fun A R W fr σ s T r q=>by
 refine fM q fun a ay q1 q=>fM q fun x aM q2 q=>fM q fun y cJ q3 q=>oE q fun uU q4 q=> ?_
 apply s1 q
 refine wpAny_Assign_Subscript (hm.go R T q1 fun v bn bf bz br pH=>ho.go R br q2 fun ov dP ct dJ cL Mu=>hi.go R cL q3 fun iv jG xu gT i7 YK=> ?_) aaU
 exact eo (Qt i7 q4 ((pH.mono dJ).mono gT) (Mu.mono gT) YK) fun _ oz og=>⟨rfl,xu,bz.trans (dJ.trans gT),og⟩
end
end
end
section
open PySem.SeqAt
noncomputable section
section
variable{X:FX}{k:Nat}{W W' W'':Wd}{fr fr':Fm}{σ ai fR:AS}{s s':az}{A:bX}{h h':bJ}{C:PC}
structure Gh(W:Wd)(σ:AS)(W':Wd)(ai:AS):Prop where
 le:W.le W'
 ρ:W'.ρ=W.ρ
 im: ∀b o,W.im b=none->W'.im b=some o-> ∃a c p,σ.get a=some c/\W.ρ a=some p/\p.2=b
 sub: ∀a c,ai.get a=some c->σ.get a=some c
theorem Gh.refl(W:Wd)(σ:AS):Gh W σ W σ:=⟨.refl _,rfl,fun _ _ e e'=>(by rw[e]at e';cases e'),fun _ _ e=>e⟩
theorem Gh.trans(g:Gh W σ W' ai)(g':Gh W' ai W'' fR):Gh W σ W'' fR:=by
 refine⟨g.le.trans g'.le,g'.ρ.trans g.ρ,fun b o e e'=> ?_,fun a c e=>g.sub _ _ (g'.sub _ _ e)⟩
 cases q:W'.im b with
 |some o'=>exact g.im b o' e q
 |none=>
  obtain⟨a,c,p,h1,h2,h3⟩:=g'.im b o q e'
  exact⟨a,c,p,g.sub _ _ h1,by rw[<- g.ρ];exact h2,h3⟩
theorem pO.ghost(F:pO X W fr σ h)(g:Gh W σ W' ai):pO X W' fr ai h:=
 F.turn g.le (fun b o e e' hb=>let⟨a,c,p,h1,h2,h3⟩:=g.im b o e e';F.apart b hb a c p h1 h2 h3) (fun c hc a cc p e e'=>F.apart c hc a cc p (g.sub _ _ e) (by rw[<- g.ρ];exact e')) fun _ _ _ e=>e
theorem cv.ghost1(R:cv C W σ h){a:Nat}{c:bF}{p:aC×aC}{o:Obj}(hg:σ.get a=some c)(hp:W.ρ a=some p)(ho:h.get? p.2=some o):Gh W σ (W.addIm p.2 o) (σ.drop a)/\cv C (W.addIm p.2 o) (σ.drop a) h:=by
 refine⟨⟨Wd.le_addIm fun o' e=>by have:=R.im _ _ e;rw[ho]at this;exact(aH this).symm,rfl,fun b o' e e'=> ?_,fun b cb e=> ?_⟩,R.freeze hg hp ho⟩
 ·have e':(if b=p.2 then some o else W.im b)=some o':=e'
  by_cases q:b=p.2
  ·exact⟨a,c,p,hg,hp,q.symm⟩
  ·rw[if_neg q,e]at e';cases e'
 ·rw[AS.get_drop]at e
  split at e
  ·cases e
  ·exact e
def Frz(C:PC)(h:bJ)(f:AV->AS->AV×AS):Prop:= ∀W σ a v,cv C W σ h->V C W a v-> ∃W',Gh W σ W' (f a σ).2/\cv C W' (f a σ).2 h/\V C W' (f a σ).1 v
theorem Cx{f:AV->AS->AV×AS}(hf:Frz C h f): ∀(l:aa) (W:Wd) (σ:AS) (vs:List ah),cv C W σ h->VL C W l vs->
  ∃W',Gh W σ W' (pR f l σ).2/\cv C W' (pR f l σ).2 h/\VL C W' (pR f l σ).1 vs:=by
 intro l
 induction l with
 |nil=>exact fun W σ vs R q=>⟨W,.refl _ _,R,q⟩
 |cons a l ih=>
  intro W σ vs R q
  refine q.consE fun v r q1 q2=> ?_
  obtain⟨bf,g1,R1,z1⟩:=hf W σ a v R q1
  obtain⟨ct,g2,R2,z2⟩:=ih bf (f a σ).2 r R1 (q2.mono g1.le)
  exact⟨ct,g1.trans g2,R2,v,r,rfl,z1.mono g2.le,z2⟩
theorem L6{sel:Nat->Bool}{f:AV->AS->AV×AS}(hf:Frz C h f): ∀(ks:ac) (l:aa) (W:Wd) (σ:AS) (vs:List ah),cv C W σ h->VL C W l vs->
  ∃W',Gh W σ W' (Td sel f ks l σ).2/\cv C W' (Td sel f ks l σ).2 h/\VL C W' (Td sel f ks l σ).1 vs:=by
 intro ks
 induction ks with
 |nil=>intro l W σ vs R q;cases l<;>exact⟨W,.refl _ _,R,q⟩
 |cons kk ks ih=>
  intro l W σ vs R q
  cases l with
  |nil=>exact⟨W,.refl _ _,R,q⟩
  |cons a l=>
   refine q.consE fun v r q1 q2=> ?_
   have h1: ∃W',Gh W σ W' (bif sel kk then f a σ else(a,σ)).2/\cv C W' (bif sel kk then f a σ else(a,σ)).2 h/\V C W' (bif sel kk then f a σ else(a,σ)).1 v:=by
    cases sel kk
    ·exact⟨W,.refl _ _,R,q1⟩
    ·exact hf W σ a v R q1
   obtain⟨bf,g1,R1,z1⟩:=h1
   obtain⟨ct,g2,R2,z2⟩:=ih l bf _ r R1 (q2.mono g1.le)
   exact⟨ct,g1.trans g2,R2,v,r,rfl,z1.mono g2.le,z2⟩
theorem Xk{sel:Nat->Bool}{f:AV->AS->AV×AS}(hf:Frz C h f){x:Nat}{c:bF}(R:cv C W σ h)(hg:σ.get x=some c){v:ah}(q:V C W (.ref x) v): ∃W',Gh W σ W' (SL f sel x σ c).2/\cv C W' (SL f sel x σ c).2 h/\V C W' (SL f sel x σ c).1 v:=by
 cases c with
 |lst l=>
  refine R.lstE hg q fun p vs m hp q0 q2 r=> ?_
  rw[q0]at q2 ⊢
  obtain⟨g,R1⟩:=R.ghost1 hg hp q2
  obtain⟨ct,g2,R2,z2⟩:=Cx hf l _ _ vs R1 (r.mono g.le)
  exact⟨ct,g.trans g2,R2,p.2,m,vs,rfl,g2.le.2.1 _ _ mm,z2⟩
 |inst c ks fs=>
  refine R.instE hg q fun p es m vs hp q0 q1 q2 r q3=> ?_
  obtain⟨g,R1⟩:=R.ghost1 hg hp q2
  obtain⟨ct,g2,R2,z2⟩:=L6 (sel:=sel) hf ks fs _ _ vs R1 (r.mono g.le)
  exact⟨ct,g.trans g2,R2,p.1,p.2,es,m,vs,rfl,q0,g2.le.2.1 _ _ (g.le.2.1 _ _ q1),g2.le.2.1 _ _ mm,z2,q3⟩
 |dct ks fs=>
  refine R.dctE hg q fun p oo vs hp q0 q1 q2 r q3=> ?_
  rw[q0]at q1 q2 ⊢
  obtain⟨g,R1⟩:=R.ghost1 hg hp q2
  obtain⟨ct,g2,R2,z2⟩:=Cx hf fs _ _ vs R1 (r.mono g.le)
  exact⟨ct,g.trans g2,R2,p.2,oo,vs,rfl,q1,g2.le.2.1 _ _ mm,z2,q3⟩
 |orc=>exact⟨W,.refl _ _,R,trivial⟩
theorem Cw{sel:Nat->Bool}(n:Nat):Frz C h (ub sel n):=by
 induction n with
 |zero=>exact fun W σ a v R q=>⟨W,.refl _ _,R,q⟩
 |succ n ih=>
  intro W σ a v R q
  by_cases ha: ∃x,a= .ref x
  ·obtain⟨x,rfl⟩:=ha
   have hd:ub sel (n+1) (.ref x) σ=bj (motive:=fun _=>AV×AS) (.opq,σ) (fun c=>SL (ub sel n) sel x σ c) (σ.get x):=rfl
   rw[hd]
   cases hg:σ.get x with
   |none=>exact⟨W,.refl _ _,R,trivial⟩
   |some c=>exact Xk (sel:=sel) ih R hg q
  ·have:ub sel (n+1) a σ=(a,σ):=by
    cases a<;>first|rfl|exact absurd ⟨_,rfl⟩ ha
   rw[this]
   exact⟨W,.refl _ _,R,q⟩
theorem Cv(n:Nat):Frz C h (jF n):=Cw n
theorem St.ghost(T:St X W fr σ s)(g:Gh W σ W' ai)(R:cv X.C W' ai s.heap):St X W' fr ai s:=⟨R,T.fr.ghost g,T.sm⟩
theorem ad6: ∀(fr:Fm) (i:Nat) (a b:AV) (j:Nat) (c:AV),fr[i]? =some a->(put fr i b)[j]? =some c->(j=i/\c=b)\/(j≠i/\fr[j]? =some c):=fun fr i a b j c e e'=>by
 rcases xS fr i b j c e' with h|⟨h1,h2|h2⟩
 ·exact .inl h
 ·exact .inr ⟨h1,h2⟩
 ·subst h2
  refine .inr ⟨h1,?_⟩
  revert i j e e' h1
  induction fr with
  |nil=>intro i j e;cases e
  |cons x r ih=>
   intro i j e h1 e'
   cases i with
   |zero=>cases j with
    |zero=>exact absurd rfl h1
    |succ j=>exact e'
   |succ i=>cases j with
    |zero=>exact e'
    |succ j=>exact ih i j e (fun q=>h1 (congrArg _ q)) (by exact e')
theorem aha{i:Nat}{y:Str}(hx:X.names i=some y): ∀W fr σ s,St X W fr σ s-> ∀r,Qr i fr σ=some r-> ∃W' fr' ai,r= .next fr' ai/\W.le W'/\St X W' fr' ai s:=fun W fr σ s T r e=>by
 have e:some (j5.next (put fr i (jF 14 (gt fr i) σ).1) (jF 14 (gt fr i) σ).2)=some r:=e
 apply s1 e
 by_cases hu:gt fr i= .unb
 ·rw[hu]
  refine⟨W,_,_,rfl,.refl _,T.rel,?_,T.sm⟩
  obtain⟨⟨m,a,b⟩,c,d,xC,d',Cs⟩:=T.fr
  exact⟨⟨m,a,fun j y e=>by
   rcases xS fr i _ j y e with⟨rfl,rfl⟩|⟨hj,e|e⟩
   ·exact .inl rfl
   ·exact b j y e
   ·exact .inl e⟩,c,d,xC,d',Cs⟩
 ·have hi:=(U1 fr i).resolve_right hu
  obtain⟨m,hn,hv⟩:=T.fr.vars
  obtain⟨v,e2,e3⟩:=(hv i _ hi).resolve_left hu y hx
  obtain⟨bf,g,R,z⟩:=Cv 14 W σ (gt fr i) v T.rel e3
  refine⟨bf,_,_,rfl,g.le,?_⟩
  have br:=T.ghost g R
  refine⟨br.rel,⟨⟨m,hn,fun j b e=> ?_⟩,br.fr.cells,br.fr.apart,br.fr.sep,br.fr.own,br.fr.live⟩,br.sm⟩
  rcases ad6 fr i _ _ j b hi e with⟨rfl,rfl⟩|⟨hj,e⟩
  ·refine .inr fun z' p=> ?_
   rw[hx]at p;cases p
   exact⟨v,e2,z⟩
  ·exact(hv j b e).imp id fun f y p=>let⟨v,q,r⟩:=f y p;⟨v,q,r.mono g.le⟩
theorem mz{kF n:Nat}{f:ah}{F:aW}(hF:aF C kF f F):aF C kF f (FK n F):=fun A R W σ s args vs Re hv tk a ai e=>by
 refine fM e fun xx ay q e=> ?_
 obtain⟨rfl,rfl⟩:a=(jF n xx ay).1/\ai=(jF n xx ay).2:=by rw[aH e];exact⟨rfl,rfl⟩
 refine eo (hF A R W σ s args vs Re hv tk _ _ q) fun v s' ⟨h1,bf,bz,afg,pH⟩=> ?_
 obtain⟨ct,g,OE,Mu⟩:=Cv n bf ay xx v afg pH
 exact⟨h1,ct,bz.trans g.le,OE,Mu⟩
theorem Me{kF n:Nat}{f:ah}{F:aW}(hF:aF C kF f F):aF C kF f (ZM n F):=fun A R W σ s args vs Re hv tk a ai e=>by
 obtain⟨ct,g,OE,Mu⟩:=Cx (Cv n) args W σ vs Re hv
 exact eo (hF A R ct _ s _ vs OE Mu tk a ai e) fun v s' ⟨h1,bf,bz,afg,pH⟩=>⟨h1,bf,g.le.trans bz,afg,pH⟩
end
end
end
section
open PySem.SeqAt
noncomputable section
section
variable{prog:fT}{w:dH}{A:bX}{R:tF->az->Prop}{s:az}
def Nw(e:an)(d:Nat)(elt target iter:an)(ifs:List an):Prop:= ∀it acc env,compTurn e d it acc env=(do
   standAt iter.pos
   match <- pyNext it with
   |none=>pure (.done .next)
   |some v=>
    letOwnedTupleGo target it v
    assign target env v
    let mut ok:=true
    for c in ifs do
     if ok then ok <- isTrue c env (eval c env)
    if ok then
     (do let _ <- call (.builtin "list.append") [acc,<- eval elt env])
    again (.compLoop e d it acc env))
theorem ae2{elt target iter:an}{ifs:List an}{scope:dT}{pos:Pos}:Nw (.ListComp elt [⟨target,iter,ifs,0⟩] scope pos) 0 elt target iter ifs:=fun _ _ _=>rfl
theorem ae3{elt target iter:an}{g:dK}{ifs:List an}{scope:dT}{pos:Pos}:Nw (.ListComp elt [g,⟨target,iter,ifs,0⟩] scope pos) 1 elt target iter ifs:=fun _ _ _=>rfl
theorem A8{gs:List dK}{scope:dT}{pos:Pos}{d:Nat}{elt target iter:an}{ifs:List an}{it acc:ah}{env:Env}(hT:Nw (.ListComp elt gs scope pos) d elt target iter ifs)(I:Nat->az->Prop)
  (turn: ∀n s,I n s->wpAny (model prog w) A (pyNext it) (fun r bn=>match r with
   |none=>R (.ok .next) bn
   |some v=>wpAny (model prog w) A (letOwnedTupleGo target it v) (fun _ QC=>wpAny (model prog w) A (assign target env v) (fun _ dP=>
     wpAny (model prog w) A (forIn ifs true fun c r=>if r=true then do let ok <- isTrue c env (eval c env);pure (gA ok)else pure (gA r)) (fun ok jG=>
      if ok=true then wpAny (model prog w) A (eval elt env) (fun x oz=>
       wpAny (model prog w) A (call (.builtin "list.append") [acc,x]) (fun _ sz=> ∃m,m<n/\I m sz) dp oz) dp jG
      else ∃m,m<n/\I m jG) dp dP) dp QC) dp bn) dp s)
  (n:Nat)(h:I n s):codeAny (model prog w) A (.compLoop (.ListComp elt gs scope pos) d it acc env) R s:=by
 refine N7 rfl I (fun n s hI=> ?_) n h
 show wpAny _ A ((compTurn (.ListComp elt gs scope pos) d it acc env).onRaise (fun x=>do noteFrame x env;theTreesLotGoes x)) _ _ s
 refine wpAny_noted ?_
 rw[hT it acc env]
 refine KP (aq (du (aq (eo (turn n s hI) fun r bn sk=> ?_))))
 cases r with
 |none=>exact aL sk
 |some v=>
  refine aq (eo sk fun _ QC ZU=> ?_)
  refine aq (eo ZU fun _ dP ahA=>aq (eo ahA fun ok jG abY=> ?_))
  cases ok with
  |false=>exact aL ⟨rfl,abY⟩
  |true=>
   exact aq (aq (eo abY fun x oz ahB=>aq (eo ahB fun _ sz Xn=>aL (aL ⟨rfl,Xn⟩))))
end
section
variable{X:FX}{k:Nat}{W W':Wd}{fr fr':Fm}{σ ai:AS}{s s':az}{A:bX}{h h':bJ}{C:PC}
theorem St.forget(T:St X W fr σ s)(hf: ∀(j:Nat) b,fr'[j]? =some b->b= .unb\/fr[j]? =some b):St X W fr' σ s:=by
 obtain⟨R,⟨⟨m,a,b⟩,c,d,xC,d',Cs⟩,S⟩:=T
 exact⟨R,⟨⟨m,a,fun i x e=>(hf i x e).elim .inl (b i x)⟩,c,d,xC,d',Cs⟩,S⟩
noncomputable def DB:List Nat->Fm->Fm
 |[],fr=>fr
 |x::xs,fr=>DB xs (put fr x .unb)
theorem CS: ∀(fr:Fm) (i:Nat) (a b:AV),put (put fr i a) i b=put fr i b:=by
 have nl: ∀(i:Nat) (a b:AV),put (put [] i a) i b=put [] i b:=fun i a b=>by
  induction i with
  |zero=>rfl
  |succ i ih=>exact congrArg (AV.unb:: ·) ih
 intro fr
 induction fr with
 |nil=>exact nl
 |cons x r ih=>intro i a b;cases i with
  |zero=>rfl
  |succ i=>exact congrArg (x:: ·) (ih i a b)
theorem NN: ∀(fr:Fm) (i:Nat) (a:AV) (j:Nat) (b:AV),j≠i->fr[j]? =some b->(put fr i a)[j]? =some b:=by
 intro fr
 induction fr with
 |nil=>intro i a j b _ e;cases e
 |cons x r ih=>intro i a j b h e;cases i with
  |zero=>cases j with
   |zero=>exact absurd rfl h
   |succ j=>exact e
  |succ i=>cases j with
   |zero=>exact e
   |succ j=>exact ih i a j b (fun q=>h (congrArg _ q)) e
theorem Qj{fr gO:Fm}{i:Nat}(h: ∀(j:Nat) b,j≠i->fr[j]? =some b->b= .unb\/gO[j]? =some b): ∀(j:Nat) b,(put fr i .unb)[j]? =some b->b= .unb\/gO[j]? =some b:=fun j b e=>by
 rcases xS _ _ _ _ _ e with⟨_,h⟩|⟨h1,h2|h2⟩
 ·exact .inl h
 ·exact h j b h1 h2
 ·exact .inl h2
inductive Tg(X:FX):List Nat->an->Prop where
 |name {i x p} (h:kg X i x):Tg X [i] (.Name x p)
 |two {i j is ts c p} (h:is=[i,j]) (N:qc X is ts) (ij:i≠j):Tg X is (.Tuple ts c p)
theorem Tg.snd(O:u2 X)(O':GX X){is:ac}{t:an}(g:Tg X is t):So X is t:=by
 cases g with
 |name h=>exact HA O O' h
 |two h N ij=>subst h;exact K5 O O' N
theorem Tg.binds{is:ac}{t:an}(g:Tg X is t){a:AV}:mj is a (DB is fr) σ=mj is a fr σ:=by
 cases g with
 |name h=>simp only[mj,DB,CS]
 |two h N ij=>
  rename_i i j ts c p
  subst h
  cases a<;>try rfl
  rename_i l
  show vD [i,j] l (put (put fr i .unb) j .unb)=vD [i,j] l fr
  match l with
  |[]=>rfl
  |[a]=>rfl
  |[a,b]=>
   show some (put (put (put (put fr i .unb) j .unb) i a) j b)=some (put (put fr i a) j b)
   rw[qm (put fr i .unb) .unb a (tm ij),CS,CS]
  |_::_::_::_=>rfl
theorem Tg.forget{is:ac}{t:an}(g:Tg X is t){a:AV}(e:mj is a fr σ=some fr'): ∀(j:Nat) b,(DB is fr)[j]? =some b->b= .unb\/fr'[j]? =some b:=by
 cases g with
 |name h=>
  cases e
  exact Qj fun j b h e=>.inr (NN _ _ _ _ _ h e)
 |two h N ij=>
  rename_i i j ts c p
  subst h
  revert e
  cases a<;>intro e<;>first|exact nn e|skip
  rename_i l
  match l,e with
  |[a,b],e=>
   cases e
   refine Qj fun m x hm e=> ?_
   rcases xS _ _ _ _ _ e with⟨_,h⟩|⟨h3,h4|h4⟩
   ·exact .inl h
   ·exact .inr (NN _ _ _ _ _ hm (NN _ _ _ _ _ h3 h4))
   ·exact .inl h4
def Nu(X:FX)(k:Nat)(m:BM)(ifs:List an):Prop:=
 ∀A,eI A k-> ∀W fr σ s,St X W fr σ s-> ∀b ai,m fr σ=some (b,ai)->
  wpAny (dC X.C) A (forIn ifs true fun c r=>if r=true then do let ok <- isTrue c X.env (eval c X.env);pure (gA ok)else pure (gA r)) (oY X W fr b ai) dp s
theorem Mf:Nu X k (fun _ σ=>some (true,σ)) []:=fun A R W fr σ s T b ai e=>by
 apply s2 e;exact wpAny_tests_nil (T.postB _)
theorem Mg{m:BM}{c:an}(h:nh X k m c):Nu X k m [c]:=fun A R W fr σ s T b ai e=>wpAny_tests_one (h A R W fr σ s T b ai e)
structure Gy(X:FX)(W:Wd)(fr:Fm)(σ:AS)(I:aC)(l:List AV)(i:Nat)(S:Nat->bJ->Prop)(fp:List aC)(P:Nat->ah->Prop)(D:aC)(acc:List AV)(s:az):Prop where
 T:St X W fr σ s
 w:ib X W σ I l i s.heap S fp P
 L:hY X W σ D
 g: ∃vs n,s.heap.get? D=some (dw vs n)/\VL X.C W acc vs
def xq(X:FX)(k:Nat)(e:an)(d:Nat)(xs:ac)(body:List AV->Fm->AS->Option (List AV×AS)):Prop:=
 ∀A,eI A k-> ∀W fr σ s I l i S fp P D acc,D≠I->i<=l.length->Gy X W (DB xs fr) σ I l i S fp P D acc s-> ∀out aM,body (l.drop i) fr σ=some (out,aM)->acc.length+out.length<=4000000-> ∀R,
  (∀W' s',W.le W'->St X W' (DB xs fr) aM s'->hY X W' aM D->(∃vs n,s'.heap.get? D=some (dw vs n)/\VL X.C W' (acc++out) vs)->R (.ok .next) s')->
  codeAny (dC X.C) A (.compLoop e d (.ref I) (.ref D) X.env) R s
theorem ib.but{I D:aC}{l:aa}{i:Nat}{S:Nat->bJ->Prop}{fp:List aC}{P:Nat->ah->Prop}(w:ib X W σ I l i h S fp P)(hD:D≠I)(him:W.im D=none)(hk: ∀b o,b≠D->h.get? b=some o->h'.get? b=some o):ib X W σ I l i h' S fp P:=by
 obtain⟨⟨pc,It⟩,st,L⟩:=w
 refine⟨⟨pc,It⟩,(It.walks {} rfl).frame i _ _ st fun b hb o' e'=>hk b o' ?_ e',L⟩
 rcases It.fp b hb with rfl|⟨oo,z⟩
 ·exact tm hD
 ·rintro rfl;rw[him]at z;cases z
section
variable{I D:aC}{l acc:aa}{i:Nat}{S:Nat->bJ->Prop}{fp:List aC}{P:Nat->ah->Prop}
theorem Gy.forget(h:Gy X W fr σ I l i S fp P D acc s)(hf: ∀(j:Nat) b,fr'[j]? =some b->b= .unb\/fr[j]? =some b):Gy X W fr' σ I l i S fp P D acc s:=⟨h.T.forget hf,h.w,h.L,h.g⟩
theorem Gy.pin(h:Gy X W fr σ I l i S fp P D acc s)(hD:D≠I): ∃FC,St X FC fr σ s/\FC.ρ=W.ρ/\FC.im=W.im/\(∀b,FC.pr b=none->W.pr b=none/\b≠I/\b≠D)/\
  ∀{bf:Wd} {fr':Fm} {ai:AS} {s':az},FC.le bf->St X bf fr' ai s'-> ∃ct,W.le ct/\ct.ρ=bf.ρ/\ct.im=bf.im/\Gy X ct fr' ai I l i S fp P D acc s':=by
 obtain⟨T,w,L,vs,n,g,q⟩:=h
 obtain⟨oI,br,back⟩:=w.pin T
 have Sh:hY X (W.pin I oI) σ D:=⟨L.im,by rw[jx hD];exact L.pr,L.cell,L.out⟩
 refine⟨_,br.pin Sh g,rfl,rfl,fun b e=> ?_,fun{bf fr' ai s'} bz i7=> ?_⟩
 ·have h1:b≠D:=fun q=>by rw[q,Jb]at e;cases e
  rw[jx h1]at e
  have h2:b≠I:=fun q=>by rw[q,Jb]at e;cases e
  rw[jx h2]at e
  exact⟨e,h2,h1⟩
 ·obtain⟨le3,T4,g4,L4⟩:=St.unpin bz Sh i7
  obtain⟨le5,T5,w5⟩:=back le3 T4
  exact⟨_,le5,rfl,rfl,T5,w5,⟨L4.im,L.pr,L4.cell,L4.out⟩,vs,n,g4,q.mono le5⟩
theorem Gy.push(h:Gy X W fr σ I l i S fp P D acc s)(hD:D≠I){a:AV}{v:ah}(hv:V X.C W a v)(hN:acc.length<4000000){Q:ah->az->Prop}(kk: ∀s',Gy X W fr σ I l i S fp P D (acc++[a]) s'->Q .none s'):wpAny (dC X.C) A (call (.builtin "list.append") [.ref D,v]) Q dp s:=by
 obtain⟨T,w,L,vs,n,g,q⟩:=h
 refine uY (items:=vs.toArray) ⟨n,g⟩ (fun h' hp hs=> ?_) (by rw[aZ,q.length];exact au (iZ hN) (by decide))
 obtain⟨n',hg'⟩:=hp
 rw[EO]at hg'
 exact kk _ ⟨T.but L (fun b o hb e=>hs.extBut b o hb e) _,w.but hD L.im fun b o hb e=>hs.extBut b o hb e,L,_,n',hg',q.append (VL.one hv)⟩
def Fl(X:FX)(W:Wd)(Cy:Fm)(body:List AV->AS->Option (List AV×AS))(I:aC)(l:aa)(S:Nat->bJ->Prop)(fp:List aC)(P:Nat->ah->Prop)(D:aC)(tot:aa)(aM:AS)(n:Nat)(s:az):Prop:=
 ∃i W' σ acc out,n=l.length-i/\i<=l.length/\W.le W'/\Gy X W' Cy σ I l i S fp P D acc s/\body (l.drop i) σ=some (out,aM)/\acc++out=tot
theorem Fl.less{Cy:Fm}{body:List AV->AS->Option (List AV×AS)}{tot out:aa}{aM:AS}(hi:i<l.length)(le:W.le W')(La:Gy X W' Cy σ I l (i+1) S fp P D acc s)(e:body (l.drop (i+1)) σ=some (out,aM))(h:acc++out=tot): ∃m,m<l.length-i/\Fl X W Cy body I l S fp P D tot aM m s:=
 ⟨l.length-(i+1),Yz hi,i+1,W',σ,acc,out,rfl,hi,le,La,e,h⟩
theorem Fl.turn{Cy:Fm}{body:List AV->AS->Option (List AV×AS)}{tot:aa}{aM:AS}{n:Nat}(h:Fl X W Cy body I l S fp P D tot aM n s)(hA:A.handled=none)(hD:D≠I){Q:Option ah->az->Prop}
  (hnil: ∀W' σ acc out bn,W.le W'->St X W' Cy σ bn->hY X W' σ D->(∃vs n,bn.heap.get? D=some (dw vs n)/\VL X.C W' acc vs)->body [] σ=some (out,aM)->acc++out=tot->Q none bn)
  (hcons: ∀i W' σ acc out a v bn,i<l.length->n=l.length-i->W.le W'->Gy X W' Cy σ I l (i+1) S fp P D acc bn->V X.C W' a v->body (a::l.drop (i+1)) σ=some (out,aM)->acc++out=tot->Q (some v) bn):wpAny (dC X.C) A (pyNext (.ref I)) Q dp s:=by
 obtain⟨i,W',σ,acc,out,hn,hi,le,⟨T,w,L,vs,m,g,q⟩,e,hEq⟩:=h
 cases hd:l.drop i with
 |nil=>
  rw[hd]at e
  exact w.done T hA hi hd fun bn br hk=>hnil W' σ acc out bn le br L ⟨vs,m,hk _ _ hD g,q⟩ e hEq
 |cons a r=>
  rw[hd]at e
  obtain⟨hi',rfl⟩:=Pl hd
  exact w.item T hA hd fun v bn br aqv pH hk=>hcons i W' σ acc out a v bn hi' hn le ⟨br,aqv,L,vs,m,hk _ _ hD g,q⟩ pH e hEq
end
theorem afU{xs:ac}{c:BM}{elt:EM}{a:AV}{r out:aa}{aM:AS}(e:eB xs c elt (a::r) fr σ=some (out,aM)){Q:Prop}(kk: ∀gO b ay,mj xs a fr σ=some gO->c gO σ=some (b,ay)->
  (bif b then bw (elt gO ay) (fun y ai=>bw (eB xs c elt r fr ai) fun o cJ=>some (y::o,cJ))else eB xs c elt r fr ay)=some (out,aM)->Q):Q:=
 oE (show ob (mj xs a fr σ) (fun fr'=>bw (c fr' σ) fun t ai=>bif t then bw (elt fr' ai) (fun b fR=>bw (eB xs c elt r fr fR) fun l cJ=>some (b::l,cJ))else eB xs c elt r fr ai)=some (out,aM) from e) fun gO h1 e=>fM e fun b ay h2 e=>kk gO b ay h1 h2 e
theorem alN{a b c d:aa}{y:AV}{n:Nat}(h:a++(y::b)=c++d)(hN:c.length+d.length<=n):a.length<n:=by
 have:=congrArg mZ h
 rw[ao,ao,bM]at this
 omega
theorem Ta(O:u2 X)(O':GX X){gs:List dK}{scope:dT}{pos:Pos}{d:Nat}{xs:ac}{tg iter ee:an}{c:BM}{elt:EM}{ifs:List an}(hT:Nw (.ListComp ee gs scope pos) d ee tg iter ifs)(g:Tg X xs tg)(hc:Nu X k c ifs)(he:bZ X k elt ee):
  xq X k (.ListComp ee gs scope pos) d xs (eB xs c elt):=fun A Rm W fr σ s I l i S fp P D acc hD hi La out aM e hN R hR=>by
 refine A8 hT (Fl X W (DB xs fr) (fun l σ=>eB xs c elt l fr σ) I l S fp P D (acc++out) aM) (fun n s' h=>h.turn Rm.handled hD (fun W' σ acc' out' bn le T L g e hEq=> ?_) fun i W' σ acc' out' a v bn hi' hn le La z e hEq=> ?_) (l.length-i)
  ⟨i,W,σ,acc,out,rfl,hi,.refl _,La,e,rfl⟩
 ·cases e
  rw[aR]at hEq
  exact hR W' bn le T L (hEq▸g)
 ·subst hn
  refine afU e fun gO b ay e1 e2 e=>La.w.go ?_
  obtain⟨FC,cL,xI,him,_,back⟩:=La.pin hD
  refine eo (g.snd O O' A Rm.handled FC _ σ bn cL a v (z.pr xI him) gO (by rw[g.binds];exact e1)) fun _ dP i7=>eo (hc A Rm FC gO σ dP i7 b ay e2) fun ok jG z=>z.elim fun xu gT og=> ?_
  cases b with
  |false=>
   rw[if_neg (by decide)]
   obtain⟨WI,le5,_,_,YY⟩:=back gT og
   exact Fl.less hi' (le.trans le5) (YY.forget (g.forget (σ:=σ) (a:=a) e1)) e hEq
  |true=>
   rw[if_pos rfl]
   rw[af]at e
   refine fM e fun y uU e5 e=>fM e fun o' apm e6 e=> ?_
   cases e
   refine he.go Rm og e5 fun x oz amP PX xt ano=> ?_
   obtain⟨WI,le5,hV1,hV2,YY⟩:=back (gT.trans PX) xt
   exact YY.push hD (ano.pr hV1 hV2) (alN hEq hN) fun s' wn=>Fl.less hi' (le.trans le5) (wn.forget (g.forget (σ:=σ) (a:=a) e1)) e6 (by rw[aB];exact hEq)
end
end
end
section
open PySem.SeqAt
noncomputable section
section
variable{X:FX}{k:Nat}{W W':Wd}{fr fr':Fm}{σ ai:AS}{s s':az}{A:bX}{h h':bJ}{C:PC}
noncomputable def FX.inner(X:FX)(scope:dT)(cl:List (Str×aC))(nm:Nat->Option Str)(L:aC)(nq:az):FX:={C:=X.C,env:=compEnvC scope cl L X.env,names:=nm,own:=[L],nq:=nq}
structure D9(X:FX)(scope:dT)(cl:List (Str×aC))(nm:Nat->Option Str)(xs:List Nat):Prop where
 clos:closureFor scope X.env=pure cl
 kind:scope.kind= .function
 nocell: ∀y∈scope.names,y.2≠ .cell
 locals: ∀y∈scope.names,y.2= .local->scope.names.lookup y.1=some .local
 vis: ∀i x,nm i=some x->i∈xs\/(X.names i=some x/\(X.env.kindOf x=some .cell\/X.env.kindOf x=some .free)/\((relabel scope X.env).names.lookup x=some .cell\/(relabel scope X.env).names.lookup x=some .free)/\cl.lookup x=X.env.cells.lookup x)
 sub: ∀n c,cl.lookup n=some c->X.env.cells.lookup n=some c
 apart:cl.Pairwise fun x y=>x.2≠y.2
 plain: ∀i x,nm i=some x->(x==("__debug__":Str)||x==("__classdict__":Str))=false
theorem ae4: ∀(xs:ac) (fr:Fm) (i:Nat) (a:AV),(DB xs fr)[i]? =some a->a= .unb\/(i∉xs/\fr[i]? =some a):=by
 intro xs
 induction xs with
 |nil=>exact fun fr i a e=>.inr ⟨bc,e⟩
 |cons x xs ih=>
  intro fr i a e
  rcases ih (put fr x .unb) i a e with h|⟨h1,h2⟩
  ·exact .inl h
  ·rcases xS _ _ _ _ _ h2 with⟨_,h⟩|⟨h3,h4|h4⟩
   ·exact .inl h
   ·exact .inr ⟨fun q=>(aG.mp q).elim h3 h1,h4⟩
   ·exact .inl h4
theorem i8.ex{X:FX}{m:Str->Option ah}{x:Str}{v:ah}(q:i8 X h m x v)(hk:X.env.kindOf x=some .cell\/X.env.kindOf x=some .free): ∃c,X.env.cells.lookup x=some c/\h.IsCell c (some v):=by
 unfold i8 at q
 rcases hk with hk|hk<;>rw[hk]at q<;>exact q
theorem i8.mk{X:FX}{m:Str->Option ah}{x:Str}{v:ah}(hk:X.env.kindOf x=some .cell\/X.env.kindOf x=some .free)(q: ∃c,X.env.cells.lookup x=some c/\h.IsCell c (some v)):i8 X h m x v:=by
 unfold i8
 rcases hk with hk|hk<;>rw[hk]<;>exact q
theorem adH(O:u2 X){scope:dT}{cl:List (Str×aC)}{nm:Nat->Option Str}{xs:ac}{L:aC}{nq:az}(K:D9 X scope cl nm xs)(hL: ∀n c,X.env.cells.lookup n=some c->c≠L):u2 (X.inner scope cl nm L nq):=
 ⟨K.kind,O.glob,O.blt,aO.mpr rfl,K.apart,fun n c e=>hL n c (K.sub n c e),K.plain⟩
theorem St.inner(T:St X W fr σ s){scope:dT}{cl:List (Str×aC)}{nm:Nat->Option Str}{xs:ac}{L:aC}{m:Str->Option ah}(K:D9 X scope cl nm xs)(hL:s.heap.objs.size<=L)
  (hk: ∀b o,s.heap.get? b=some o->h'.get? b=some o)(hn:h'.Ns L m)(t:Nat)(ht:s.toks<=t):St (X.inner scope cl nm L s) (W.guard X s.heap) (DB xs fr) σ {s with heap:=h',toks:=t}:=by
 have nH: ¬X.Has L:=fun hc=>absurd (T.fr.lt hc) (b6.mpr hL)
 have has: ∀c,(X.inner scope cl nm L s).Has c->c=L\/X.Has c:=fun c hc=>by
  rcases hc with e|⟨n,e⟩|e
  ·exact .inl e
  ·exact .inr (.inr (.inl ⟨n,K.sub n c e⟩))
  ·exact .inl (aO.mp e)
 have kc: ∀c w,s.heap.IsCell c w->h'.IsCell c w:=fun c w ⟨o,p,q⟩=>⟨o,hk _ _ p,q⟩
 refine⟨(T.guard).keeps hk,⟨⟨m,hn,fun i a e=> ?_⟩,fun n c e=> ?_,fun c hc=> ?_,fun c hc=> ?_,fun c hc=> ?_,fun c hc=> ?_⟩,T.sm.pos,⟨_,_,rfl,ht⟩⟩
 ·rcases ae4 xs fr i a e with h|⟨h1,h2⟩
  ·exact .inl h
  ·obtain⟨aqD,aqz,hv⟩:=T.fr.vars
   refine(hv i a h2).imp id fun f x hx=> ?_
   rcases K.vis i x hx with h|⟨v1,v2,v3,v4⟩
   ·exact absurd h h1
   ·obtain⟨v,q,r⟩:=f x v1
    obtain⟨c,e1,e2⟩:=q.ex v2
    exact⟨v,i8.mk v3 ⟨c,by rw[show(X.inner scope cl nm L s).env.cells=cl from rfl,v4];exact e1,kc _ _ e2⟩,r.pr rfl rfl⟩
 ·obtain⟨v,z⟩:=T.fr.cells n c (K.sub n c e);exact⟨v,kc _ _ z⟩
 ·rcases has c hc with rfl|hc
  ·exact T.rel.cell_new hL
  ·exact T.fr.apart c hc
 ·rcases has c hc with rfl|hc
  ·exact T.rel.im_new hL
  ·exact T.fr.sep c hc
 ·rw[aO.mp hc,km nH];exact T.rel.pr_new hL
 ·rcases has c hc with rfl|hc
  ·obtain⟨o,_,_,z,_⟩:=hn;exact⟨o,z⟩
  ·obtain⟨o,z⟩:=T.fr.live c hc;exact⟨o,hk _ _ z⟩
def CP(X:FX)(W:Wd)(fr:Fm)(ai:AS)(a:AV)(D C:aC)(s':az):Prop:= ∃W',W.le W'/\St X W' fr ai s'/\V X.C W' a (.ref D)/\hY X W' ai C/\ ∃m,s'.heap.Ns C m
theorem Pb(T:St X W fr σ s){scope:dT}{cl:List (Str×aC)}{nm:Nat->Option Str}{xs:ac}(K:D9 X scope cl nm xs){I:aC}{l:aa}{S:Nat->bJ->Prop}{fp:List aC}{P:Nat->ah->Prop}
  (LI:hY X W σ I)(It:xa X W σ I l s.heap S fp P){e:an}{body:List AV->Fm->AS->Option (List AV×AS)}{ee tg it:an}{ifs:List an}{rest:List dK}{pos:Pos}(he:e= .ListComp ee (⟨tg,it,ifs,0⟩::rest) scope pos)
  (hloop: ∀L,(∀n c,X.env.cells.lookup n=some c->c≠L)->xq (X.inner scope cl nm L s) k e 0 xs body)(Rm:eI A k){out:List AV}{aM:AS}(eb:body l fr σ=some (out,aM))(hN:out.length<=4000000){RR:ah->aC->tF->az->Prop}
  (hRR: ∀D C s',CP X W fr (aM.alloc (.lst out)) (.ref aM.next) D C s'->RR (.ref D) C (.ok .next) s'):
  wpAny (dC X.C) A (newList []) (fun acc jG=>wpAny (dC X.C) A (newFunctionEnv scope X.env.globals cl [] X.env.qual none .none (some X.env)) (fun cenv oz=>
   codeAny (dC X.C) A (.compStart e 0 (.ref I) acc {cenv with scope:=relabel scope X.env}) (RR acc cenv.locals) oz) dp jG) dp s:=by
 subst he
 refine gJ (wpAny_newFunctionEnv K.nocell (by intro y hy;simp at hy) (fun sk U3 NG=> ?_) K.kind)
 dsimp only at U3 NG ⊢
 generalize hH2:s.heap.push {cls:=.type "list",dict:=none,data:=.seq ([]:List ah).toArray}=H2 at U3 NG ⊢
 have hC:H2.objs.size=s.heap.objs.size+1:=by rw[<- hH2,pW]
 have hDC:s.heap.objs.size≠H2.objs.size:=by rw[hC];exact cj (bO _)
 have hCle:s.heap.objs.size<=H2.objs.size:=by rw[hC];exact cM _
 have old: ∀b o,s.heap.get? b=some o->sk.get? b=some o:=fun b o e=>NG.extBut b o (cj (eW (cp e) hCle)) (bC _ (hH2▸bC _ e))
 have gD:sk.get? s.heap.objs.size=some (dw [] 0):=NG.extBut _ _ hDC (bC _ (hH2▸bh _ rfl))
 have T':=T.inner (nm:=nm) (xs:=xs) K hCle old U3 (s.toks+([]:List (Str×ah)).length) (cU _ _)
 have nHas: ∀c,s.heap.objs.size<=c-> ¬X.Has c:=fun c hc hX=>absurd (T.fr.lt hX) (b6.mpr hc)
 have hasI: ∀c,(X.inner scope cl nm H2.objs.size s).Has c->c=H2.objs.size\/X.Has c:=fun c hc=>by
  rcases hc with e|⟨n,e⟩|e
  ·exact .inl e
  ·exact .inr (.inr (.inl ⟨n,K.sub n c e⟩))
  ·exact .inl (aO.mp e)
 obtain⟨oI,nI,gI,_⟩:=It.obj 0 _ It.st
 have hI:I<s.heap.objs.size:=cp gI
 have LI':hY (X.inner scope cl nm H2.objs.size s) (W.guard X s.heap) σ I:=
  ⟨LI.im,by rw[km LI.out];exact LI.pr,LI.cell,fun hc=>(hasI _ hc).elim (fun e=>absurd hI (by rw[e];exact b6.mpr hCle)) LI.out⟩
 have LD:hY (X.inner scope cl nm H2.objs.size s) (W.guard X s.heap) σ s.heap.objs.size:=
  ⟨T.rel.im_new (ax _),by rw[km (nHas _ (ax _))];exact T.rel.pr_new (ax _),T.rel.cell_new (ax _),fun hc=>(hasI _ hc).elim hDC (nHas _ (ax _))⟩
 have hst:S 0 sk:=(It.walks {} rfl).frame 0 _ _ It.st fun b _ o e=>old b o e
 have w:ib (X.inner scope cl nm H2.objs.size s) (W.guard X s.heap) σ I l 0 sk S fp P:=
  ⟨⟨sk,⟨It.walks,hst,It.fp,fun i v hi p=>let⟨a,e,r⟩:=It.val i v hi p;⟨a,e,r.pr rfl rfl⟩,It.obj⟩⟩,hst,LI'⟩
 have loop: ∀jG:az,jG={s with heap:=sk,toks:=s.toks+([]:List (Str×ah)).length}->
   codeAny (dC X.C) A (.compLoop (.ListComp ee (⟨tg,it,ifs,0⟩::rest) scope pos) 0 (.ref I) (.ref s.heap.objs.size) (compEnvC scope cl H2.objs.size X.env)) (RR (.ref s.heap.objs.size) H2.objs.size) jG:=by
  rintro jG rfl
  refine hloop H2.objs.size (fun n c e=> ?_) A Rm (W.guard X s.heap) fr σ _ I l 0 S fp P s.heap.objs.size [] (cj hI).symm (aU _) ⟨T',w,LD,[],0,gD,VL.nil⟩ out aM eb (by rw[HN,hV];exact hN) _ fun W' s' le cL Bw g=> ?_
  ·exact cj (eW (T.fr.lt (.inr (.inl ⟨n,e⟩))) hCle)
  ·obtain⟨vs',n',apK,jX⟩:=g
   have OE:=cL.rel
   have apv:cv X.C (W'.addId aM.next (s.heap.objs.size,s.heap.objs.size)) (aM.alloc (.lst out)) s'.heap:=
    OE.alloc (p:=(s.heap.objs.size,s.heap.objs.size)) ⟨rfl,vs',n',apK,jX.mono (Wd.le_addId (OE.fresh _ (ax _)))⟩ Bw.im Bw.pr Bw.cell
   obtain⟨aoc,og⟩:=T.back (le.trans (Wd.le_addId (OE.fresh _ (ax _)))) apv cL.sm.2
   obtain⟨ah2,PF,_⟩:=cL.fr.vars
   refine hRR _ _ s' ⟨_,aoc,og,q6 (W:={W' with pr:=W.pr}),⟨cL.fr.sep _ (.inl rfl),T.rel.pr_new hCle,fun a cc p e e' q=> ?_,nHas _ hCle⟩,ah2,PF⟩
   rw[AS.get_alloc]at e
   have e':(if a=aM.next then some (s.heap.objs.size,s.heap.objs.size)else W'.ρ a)=some p:=e'
   by_cases z:a=aM.next
   ·rw[if_pos z]at e';cases e';exact hDC q
   ·rw[if_neg z]at e e';exact cL.fr.apart _ (.inl rfl) a cc p e e' q
 exact codeAny_compStart_list (loop _ rfl) (KP ((It.walks A Rm.handled).self 0 _ _ _ hst (loop _ rfl)))
noncomputable def s6(it:EM)(body:List AV->Fm->AS->Option (List AV×AS)):EM:=fun fr σ=>bw (it fr σ) fun x ai=>bw (fy ai x) fun l ay=>bw (body l fr ay) fun vs aM=>bif dv vs.length then some (.ref aM.next,aM.alloc (.lst vs))else none
theorem SG{it:EM}{body:List AV->Fm->AS->Option (List AV×AS)}{a:AV}(e:s6 it body fr σ=some (a,ai)){Q:AV->AS->Prop}(kk: ∀x Lm l ay vs aM,it fr σ=some (x,Lm)->fy Lm x=some (l,ay)->body l fr ay=some (vs,aM)->vs.length<=4000000->Q (.ref aM.next) (aM.alloc (.lst vs))):Q a ai:=
 fM e fun x Lm e1 e=>fM e fun l ay e2 e=>fM e fun vs aM e3 e=>kS e fun z e=>by
  apply s2 e;exact kk x Lm l ay vs aM e1 e2 e3 (jL z)
theorem aaM{scope:dT}{cl:List (Str×aC)}{nm:Nat->Option Str}{xs:ac}(K:D9 X scope cl nm xs){it:EM}{body:List AV->Fm->AS->Option (List AV×AS)}{ee tg ie:an}{ifs:List an}{rest:List dK}{pos:Pos}
  (hi:bZ X k it ie)(hs: ∀x,foldedSetIterable ie X.env x=pure x)
  (hloop: ∀s L,(∀n c,X.env.cells.lookup n=some c->c≠L)->xq (X.inner scope cl nm L s) k (.ListComp ee (⟨tg,ie,ifs,0⟩::rest) scope pos) 0 xs body):bZ X k (s6 it body) (.ListComp ee (⟨tg,ie,ifs,0⟩::rest) scope pos):=fun A Rm W fr σ s T a ai e=>by
 apply SG e;intro x Lm l ay vs aM e1 e2 e3 e4
 show wpAny _ _ (comprehension (.ListComp ee (⟨tg,ie,ifs,0⟩::rest) scope pos) scope X.env _ (newList []) false (eval ie X.env)) _ _ _
 refine tM (use:=none) rfl hs K.clos K.kind K.locals (hi.go Rm T e1 fun v bn bf bz br pH=>eo (vK br e2 pH) fun it dP z=>z.elim fun I ct S fp P dJ cL Bw It=> ?_)
 refine Pb cL K Bw It rfl (hloop dP) Rm e3 e4 (RR:=fun acc C=>compPost (dC X.C) A dp none (fH X W fr (.ref aM.next) (aM.alloc (.lst vs))) acc C) fun D C s' h=> ?_
 obtain⟨W',le,T',q,LC,m,hm⟩:=h
 exact⟨m,hm,fun h' hs=>⟨W',bz.trans (dJ.trans le),T'.but LC (fun b o hb e=>hs.extBut b o hb e) _,q⟩⟩
theorem aeD(O:u2 X)(O':GX X){scope:dT}{cl:List (Str×aC)}{nm:Nat->Option Str}{xs:ac}(K:D9 X scope cl nm xs){it:EM}{body:List AV->Fm->AS->Option (List AV×AS)}{ee tg ie:an}{ifs:List an}{rest:List dK}{pos spos:Pos}
  (hi:bZ X k it ie)(hs: ∀x,foldedSetIterable ie X.env x=pure x)
  (hloop: ∀s L,(∀n c,X.env.cells.lookup n=some c->c≠L)->xq (X.inner scope cl nm L s) k (.ListComp ee (⟨tg,ie,ifs,0⟩::rest) scope pos) 0 xs body)
  {i:Nat}{y:Str}{py:Pos}(hx:kg X i y)(hsw:swapsWith (.ListComp ee (⟨tg,ie,ifs,0⟩::rest) scope pos) (some (.Name y py)) spos.line X.env=pure true):
  lG X k (cO [i] (s6 it body)) (.Assign [.Name y py] (.ListComp ee (⟨tg,ie,ifs,0⟩::rest) scope pos) spos):=fun A Rm W fr σ s T r q=>by
 apply Jj q;intro a ai fr' e q2
 revert q2
 apply SG e;intro x Lm l ay vs aM e1 e2 e3 e4 q2
 apply s1 q2
 rw[exec_Assign_Name_used _ _ _ _ hsw]
 refine aq (du (aq ?_))
 show wpAny _ A (do let _ <- comprehension (.ListComp ee (⟨tg,ie,ifs,0⟩::rest) scope pos) scope X.env _ (newList []) false (eval ie X.env) (some (assign (.Name y py) X.env))) _ _ s
 generalize hQ:BR X W (.next (put fr i (.ref aM.next)) (aM.alloc (.lst vs)))=QQ
 refine aq (eo (tM (use:=some (assign (.Name y py) X.env)) (Q:=fun _ s'=>QQ .next s') rfl hs K.clos K.kind K.locals
  (hi.go Rm T e1 fun v bn bf bz br pH=>eo (vK br e2 pH) fun it dP z=>z.elim fun I ct S fp P dJ cL Bw It=> ?_)) fun _ s' hq=>aL (aL hq))
 refine Pb cL K Bw It rfl (hloop dP) Rm e3 e4 (RR:=fun acc C=>compPost (dC X.C) A dp (some (assign (.Name y py) X.env)) (fun _ s'=>QQ .next s') acc C) fun D C s' h=> ?_
 obtain⟨W',le,T',q,LC,m,hm⟩:=h
 obtain⟨oC,es,ep,gC,hr⟩:=hm
 show wpAny _ A (assign (.Name y py) X.env (.ref D)) _ _ _
 refine ly (eo ((T'.pin LC gC).store O O' hx.1 hx.2 (q.pr rfl rfl)) fun _ oz og=> ?_)
 obtain⟨aod,xt,apL,apu⟩:=St.unpin (.refl _) LC og
 exact⟨m,⟨oC,es,ep,apL,hr⟩,fun h' hs=>by rw[<- hQ];exact⟨rfl,_,bz.trans (dJ.trans (le.trans aod)),xt.but apu (fun b o hb e=>hs.extBut b o hb e) _⟩⟩
end
end
end
section
open PySem.SeqAt
noncomputable section
section
variable{prog:fT}{w:dH}{A:bX}{R:tF->az->Prop}{s:az}
theorem y9{elt target iter it acc env scope pos}{g:dK}
  (h0:codeAny (model prog w) A (.compLoop (.ListComp elt [g,⟨target,iter,[],0⟩] scope pos) 1 it acc env) R s)
  (h:wpAny (model prog w) A (pyIter it) (fun it' s'=>codeAny (model prog w) A (.compLoop (.ListComp elt [g,⟨target,iter,[],0⟩] scope pos) 1 it' acc env) R s') dp s):
  codeAny (model prog w) A (.compStart (.ListComp elt [g,⟨target,iter,[],0⟩] scope pos) 1 it acc env) R s:=by
 refine H0 ?_
 show wpAny _ _ ((compStart (.ListComp elt [g,⟨target,iter,[],0⟩] scope pos) 1 it acc env).onRaise (fun x=>do noteFrame x env;standAt theWindowsPlace)) _ _ s
 refine wpAny_notedAt (KP ?_)
 unfold compStart
 show wpAny _ _ (ask>>=_) _ _ s
 refine aq (Gr (wpAny_ite ?_))
 split
 ·first
   |exact aq (aL (aL (hH rfl h0)))
   |exact aL (hH rfl h0)
 ·first
   |exact aq (H4 (aq (du (aq (jr h (fun it' s' h'=>aL (hH rfl h')) fun _ _ x=>x)))))
   |(refine aq (H4 ?_);show wpAny _ _ (standAt iter.pos>>=_) _ _ s;exact aq (du (aq (jr h (fun it' s' h'=>aL (hH rfl h')) fun _ _ x=>x))))
theorem O9(elt t1 i1 t2 i2:an)(scope:dT)(pos:Pos)(it acc:ah)(env:Env):
  compTurn (.ListComp elt [⟨t1,i1,[],0⟩,⟨t2,i2,[],0⟩] scope pos) 0 it acc env=(do
   standAt i1.pos
   match <- pyNext it with
   |none=>pure (.done .next)
   |some v=>
    letOwnedTupleGo t1 it v
    assign t1 env v
    let x <- eval i2 env
    standAt i2.pos
    let x <- foldedSetIterable i2 env x
    let _ <- runOwn (.compStart (.ListComp elt [⟨t1,i1,[],0⟩,⟨t2,i2,[],0⟩] scope pos) 1 (<- holding [x] (pyIter x)) acc env) env
    again (.compLoop (.ListComp elt [⟨t1,i1,[],0⟩,⟨t2,i2,[],0⟩] scope pos) 0 it acc env)):=by rfl
theorem y8{elt t1 i1 t2 i2:an}{scope:dT}{pos:Pos}{it acc:ah}{env:Env}(hs: ∀x,foldedSetIterable i2 env x=pure x)(I:Nat->az->Prop)
  (turn: ∀n s,I n s->wpAny (model prog w) A (pyNext it) (fun r bn=>match r with
   |none=>R (.ok .next) bn
   |some v=>wpAny (model prog w) A (letOwnedTupleGo t1 it v) (fun _ QC=>wpAny (model prog w) A (assign t1 env v) (fun _ dP=>
     wpAny (model prog w) A (eval i2 env) (fun x jG=>wpAny (model prog w) A (pyIter x) (fun j oz=>
      codeAny (model prog w) A (.compStart (.ListComp elt [⟨t1,i1,[],0⟩,⟨t2,i2,[],0⟩] scope pos) 1 j acc env) (fun r sz=>r= .ok .next/\ ∃m,m<n/\I m sz) oz) dp jG) dp dP) dp QC) dp bn) dp s)
  (n:Nat)(h:I n s):codeAny (model prog w) A (.compLoop (.ListComp elt [⟨t1,i1,[],0⟩,⟨t2,i2,[],0⟩] scope pos) 0 it acc env) R s:=by
 refine N7 rfl I (fun n s hI=> ?_) n h
 show wpAny _ A ((compTurn (.ListComp elt [⟨t1,i1,[],0⟩,⟨t2,i2,[],0⟩] scope pos) 0 it acc env).onRaise (fun x=>do noteFrame x env;theTreesLotGoes x)) _ _ s
 refine wpAny_noted ?_
 rw[O9]
 refine KP (aq (du (aq (eo (turn n s hI) fun r bn sk=> ?_))))
 cases r with
 |none=>exact aL sk
 |some v=>
  refine aq (eo sk fun _ QC ZU=> ?_)
  refine aq (eo ZU fun _ dP ahA=> ?_)
  refine aq (eo ahA fun x jG abY=> ?_)
  refine aq (du ?_)
  refine aq (wpAny_of_eq (hs x) ?_)
  refine aq (dD (eo abY fun j oz ahB=> ?_))
  refine aq (wpAny_runOwn (h:=none) (N8 ahB fun r sz Xn=> ?_))
  obtain⟨rfl,Xn⟩:=Xn
  exact aL ⟨rfl,Xn⟩
end
section
variable{X:FX}{k:Nat}{W W':Wd}{fr fr':Fm}{σ ai:AS}{s s':az}{A:bX}{h h':bJ}{C:PC}
theorem ac2{x y:Nat}{it2 elt:EM}{a:AV}{r out:aa}{aM:AS}(e:ju x it2 y elt (a::r) fr σ=some (out,aM)){Q:List AV->Prop}(kk: ∀b ay l cJ bs uU cs,it2 (put fr x a) σ=some (b,ay)->fy ay b=some (l,cJ)->
  eB [y] (fun _ σ=>some (true,σ)) elt l (put fr x a) cJ=some (bs,uU)->ju x it2 y elt r fr uU=some (cs,aM)->Q (bs++cs)):Q out:=
 fM (show bw (it2 (put fr x a) σ) (fun s ai=>bw (fy ai s) fun l ay=>bw (eB [y] (fun _ σ=>some (true,σ)) elt l (put fr x a) ay) fun bs fR=>bw (ju x it2 y elt r fr fR) fun cs cJ=>some (bs++cs,cJ))=some (out,aM) from e) fun b ay e1 e=>fM e fun l cJ e2 e=>fM e fun bs uU e3 e=>fM e fun cs apm e4 e=>by
  cases e;exact kk b ay l cJ bs uU cs e1 e2 e3 e4
theorem xa.walking{I:aC}{l:aa}{S:Nat->bJ->Prop}{fp:List aC}{P:Nat->ah->Prop}(It:xa X W σ I l h S fp P)(L:hY X W σ I):ib X W σ I l 0 h S fp P:=⟨⟨h,It⟩,It.st,L⟩
theorem xa.im{bf ct:Wd}{I:aC}{l:aa}{S:Nat->bJ->Prop}{fp:List aC}{P:Nat->ah->Prop}(It:xa X bf σ I l h S fp P)(h1:ct.ρ=bf.ρ)(h2:ct.im=bf.im):xa X ct σ I l h S fp P:=
 ⟨It.walks,It.st,fun b hb=>by rw[h2];exact It.fp b hb,fun i v hi p=>let⟨a,e,r⟩:=It.val i v hi p;⟨a,e,r.pr h1 h2⟩,It.obj⟩
theorem alM{a b c d e:aa}{n:Nat}(h:a++(b++e)=c++d)(hN:c.length+d.length<=n):a.length+b.length<=n:=by
 have:=congrArg mZ h
 rw[ao,ao,ao]at this
 omega
theorem adW(O:u2 X)(O':GX X){x y:Nat}{nx ny:Str}{px py:Pos}{it2 elt:EM}{ee i1 i2:an}{scope:dT}{pos:Pos}(hx:kg X x nx)(hy:kg X y ny)(hxy:x≠y)(hi:bZ X k it2 i2)(hs: ∀v,foldedSetIterable i2 X.env v=pure v)(he:bZ X k elt ee):
  xq X k (.ListComp ee [⟨.Name nx px,i1,[],0⟩,⟨.Name ny py,i2,[],0⟩] scope pos) 0 [x,y] (fun l fr σ=>ju x it2 y elt l (put fr y .unb) σ):=fun A Rm W fr σ s I l i S fp P D acc hD hi0 La out aM e hN R hR=>by
 have hfr:DB [x,y] fr=put (put fr y .unb) x .unb:=qm _ _ _ hxy
 rw[hfr]at La hR
 have hin:=Ta O O' (k:=k) (ae3 (g:=⟨.Name nx px,i1,[],0⟩) (scope:=scope) (pos:=pos)) (Tg.name (p:=py) hy) Mf he (iter:=i2)
 refine y8 hs (Fl X W (put (put fr y .unb) x .unb) (fun l σ=>ju x it2 y elt l (put fr y .unb) σ) I l S fp P D (acc++out) aM) (fun n s' h=>h.turn Rm.handled hD (fun W' σ acc' out' bn le T L g e hEq=> ?_) fun i W' σ acc' out' a v bn hi' hn le La z e hEq=> ?_) (l.length-i)
  ⟨i,W,σ,acc,out,rfl,hi0,.refl _,La,e,rfl⟩
 ·cases e
  rw[aR]at hEq
  exact hR W' bn le T L (hEq▸g)
 ·subst hn
  revert hEq
  apply ac2 e;intro b ay l2 cJ bs uU cs e1 e2 e3 e4 hEq
  refine La.w.go ?_
  obtain⟨FC,cL,xI,him,hpr,back⟩:=La.pin hD
  have hfr2:DB [y] (put (put fr y .unb) x a)=put (put fr y .unb) x a:=by show put (put (put fr y .unb) x a) y .unb=_;rw[qm _ _ _ hxy,CS]
  refine eo (HA O O' hx A Rm.handled FC _ σ bn cL a v (z.pr xI him) (put (put fr y .unb) x a) (congrArg some (CS _ _ _ _))) fun _ dP i7=> ?_
  refine hi.go Rm i7 e1 fun xv jG xu gT og aqy=>eo (vK og e2 aqy) fun jv oz z=>z.elim fun J WI S2 fp2 P2 XB xt LJ It2=> ?_
  have l05:=gT.trans XB
  obtain⟨hJp,hJI,hJD⟩:=hpr J (by rw[<- l05.2.2];exact LJ.pr)
  obtain⟨Iw,le6,hV1,hV2,wn⟩:=back l05 xt
  have LJ6:hY X Iw cJ J:=⟨by rw[hV2];exact LJ.im,by rw[le6.2.2];exact hJp,fun a cc p e e'=>LJ.cell a cc p e (by rw[<- hV1];exact e'),LJ.out⟩
  obtain⟨oI,apx,back7⟩:=wn.w.pin wn.T
  have anq:Gy X (Iw.pin I oI) (put (put fr y .unb) x a) cJ J l2 0 S2 fp2 P2 D acc' oz:=by
   obtain⟨vs,m,g,q⟩:=wn.g
   exact⟨apx,(show xa X (Iw.pin I oI) cJ J l2 oz.heap S2 fp2 P2 from It2.im hV1 hV2).walking ⟨LJ6.im,by rw[jx hJI];exact LJ6.pr,LJ6.cell,LJ6.out⟩,⟨wn.L.im,by rw[jx hD];exact wn.L.pr,wn.L.cell,wn.L.out⟩,vs,m,g,q.pr rfl rfl⟩
  have inner:codeAny (dC X.C) A (.compLoop (.ListComp ee [⟨.Name nx px,i1,[],0⟩,⟨.Name ny py,i2,[],0⟩] scope pos) 1 (.ref J) (.ref D) X.env) (fun r sz=>r= .ok .next/\ ∃m,m<l.length-i/\Fl X W (put (put fr y .unb) x .unb) (fun l σ=>ju x it2 y elt l (put fr y .unb) σ) I l S fp P D (acc++out) aM m sz) oz:=by
   refine hin A Rm (Iw.pin I oI) (put (put fr y .unb) x a) cJ oz J l2 0 S2 fp2 P2 D acc' (tm hJD) (aU _) (by rw[hfr2];exact anq) bs uU e3 (alM hEq hN) _ fun apz sz apR amO afd g=>⟨rfl,?_⟩
   rw[hfr2]at amO
   obtain⟨vs,m,apM,aqi⟩:=g
   obtain⟨le9,apy,aqw⟩:=back7 apR amO
   have anr:Gy X {apz with pr:=Iw.pr} (put (put fr y .unb) x .unb) uU I l (i+1) S fp P D (acc'++bs) sz:=⟨apy.forget (Qj fun j b h e=>.inr (NN _ _ _ _ _ h e)),aqw,⟨afd.im,wn.L.pr,afd.cell,afd.out⟩,vs,m,apM,aqi.pr rfl rfl⟩
   exact Fl.less hi' (le.trans (le6.trans le9)) anr e4 (by rw[aB];exact hEq)
  exact y9 inner ((It2.walks A Rm.handled).self 0 _ _ _ It2.st inner)
end
end
end
section
open PySem.SeqAt
noncomputable section
section
variable{X:FX}{k:Nat}{W W':Wd}{fr fr':Fm}{σ ai:AS}{s s':az}{A:bX}{h h':bJ}{C:PC}
theorem Ad: ∀{names:List (Str×dR)} {n:Str} (m:Nat) (acc:List (Str×aC)),((n,eu)∈names\/(acc.lookup n).isSome=true)->((cellsFrom m names acc).lookup n).isSome=true:=by
 intro names
 induction names with
 |nil=>intro n m acc h;exact h.resolve_left bc
 |cons p r ih=>
  intro n m acc h
  obtain⟨x,kd⟩:=p
  unfold cellsFrom
  split
  ·refine ih _ _ ?_
   by_cases hx:n=x
   ·subst hx;exact .inr (by rw[fZ];rfl)
   ·refine h.imp (fun h=>(aG.mp h).resolve_left fun e=>hx (congrArg Prod.fst e)) fun h=> ?_
    rw[cz,beq_eq_false_iff_ne.mpr hx];exact h
  ·rename_i hk
   refine ih _ _ (h.imp_left fun h=>(aG.mp h).resolve_left fun e=> ?_)
   cases e;exact hk rfl
theorem WV{kindOf:Str->Option dR}: ∀{binds:List (Str×ah)} {m:Str->Option ah} {x:Str},x∉binds.map (·.1)->bindL kindOf binds m x=m x:=by
 intro binds
 induction binds with
 |nil=>exact fun _=>rfl
 |cons p r ih=>
  intro m x h
  obtain⟨n,v⟩:=p
  have h1:x≠n:=fun e=>h (e▸bb)
  show bindL kindOf r (if kindOf n=some .local then fun y=>if y=n then some v else m y else m) x=m x
  rw[ih fun q=>h (aQ _ q)]
  split
  ·exact if_neg h1
  ·rfl
theorem WU{kindOf:Str->Option dR}: ∀{binds:List (Str×ah)} {m:Str->Option ah} {x:Str},x∉binds.map (·.1)->bindC kindOf binds m x=m x:=by
 intro binds
 induction binds with
 |nil=>exact fun _=>rfl
 |cons p r ih=>
  intro m x h
  obtain⟨n,v⟩:=p
  have h1:x≠n:=fun e=>h (e▸bb)
  show bindC kindOf r (if kindOf n=some .local then m else fun y=>if y=n then some v else m y) x=m x
  rw[ih fun q=>h (aQ _ q)]
  split
  ·rfl
  ·exact if_neg h1
theorem HF{ps:List Str}{ws:List ah}(hl:ws.length=ps.length):(ps.zip ws).map (·.1)=ps:=by
 rw[<- List.unzip_fst,List.unzip_zip_left (by omega)]
theorem acX{kindOf:Str->Option dR}: ∀{ps:List Str} {ws:List ah} {m:Str->Option ah} {i:Nat} {x:Str} {v:ah},ps.Nodup->ps.length=ws.length->ps[i]? =some x->ws[i]? =some v->kindOf x=some .local->bindL kindOf (ps.zip ws) m x=some v:=by
 intro ps
 induction ps with
 |nil=>intro ws m i x v _ _ e;cases e
 |cons p ps ih=>
  intro ws m i x v hN hl e e' hk
  rw[dL]at hN
  cases ws with
  |nil=>cases e'
  |cons w ws=>
   have hl:=jS hl
   cases i with
   |zero=>
    have e:p=x:=aH e
    have e':w=v:=aH e'
    subst e e'
    show bindL kindOf (ps.zip ws) (if kindOf p=some .local then fun y=>if y=p then some w else m y else m) p=some w
    rw[WV (by rw[HF hl.symm];exact hN.1),if_pos hk,if_pos rfl]
   |succ i=>exact ih hN.2 hl e e' hk
theorem acW{kindOf:Str->Option dR}: ∀{ps:List Str} {ws:List ah} {m:Str->Option ah} {i:Nat} {x:Str} {v:ah},ps.Nodup->ps.length=ws.length->ps[i]? =some x->ws[i]? =some v->kindOf x=some .cell->bindC kindOf (ps.zip ws) m x=some v:=by
 intro ps
 induction ps with
 |nil=>intro ws m i x v _ _ e;cases e
 |cons p ps ih=>
  intro ws m i x v hN hl e e' hk
  rw[dL]at hN
  cases ws with
  |nil=>cases e'
  |cons w ws=>
   have hl:=jS hl
   cases i with
   |zero=>
    have e:p=x:=aH e
    have e':w=v:=aH e'
    subst e e'
    show bindC kindOf (ps.zip ws) (if kindOf p=some .local then m else fun y=>if y=p then some w else m y) p=some w
    rw[WU (by rw[HF hl.symm];exact hN.1),if_neg (by rw[hk];decide),if_pos rfl]
   |succ i=>exact ih hN.2 hl e e' hk
structure abe(C:PC)(fd:gB)(nm:Nat->Option Str)(X:FX):Prop where
 C:X.C=C
 ok:u2 X
 nm:X.names=nm
 scope:X.env.scope=fd.scope
 own: ∀n c,X.env.cells.lookup n=some c->c∈X.own
 cells: ∀n,(n,eu)∈fd.scope.names-> ∃c,X.env.cells.lookup n=some c
structure afc(C:PC)(f:aC)(fd:gB)(body:List co)(ps:List Str)(dfl:List AV)(nm:Nat->Option Str):Prop where
 there: ∃o,C.K.lookup f=some o/\o.data= .func fd
 code:codeIn C.K fd.code fd.qualname=true
 body:fd.body= .stmts body
 clo:fd.closure=[]
 glob:fd.globals=mainGlobals
 blt:fd.builtins=builtinsNs
 kind:fd.scope.kind= .function
 coro:fd.scope.isCoroutine=false
 gen:fd.scope.isGenerator=false
 bind: ∀W σ s args vs,cv C W σ s.heap->VL C W args vs->args.length<=ps.length->ps.length<=args.length+dfl.length->
  ∃ws,VL C W (args++dfl.drop (args.length+dfl.length-ps.length)) ws/\R5 s fd ⟨vs,[]⟩ (ps.zip ws)
 nodup:ps.Nodup
 kinds: ∀x∈ps,fd.scope.names.lookup x=some .local\/fd.scope.names.lookup x=some .cell
 nmAt: ∀(i:Nat) x,i<ps.length->nm i=some x->ps[i]? =some x
 plain: ∀i x,nm i=some x->(x==("__debug__":Str)||x==("__classdict__":Str))=false
def pQ(C:PC)(k:Nat)(f:ah)(F:aW):Prop:=
 ∀A,eI A k-> ∀W σ s args vs,cv C W σ s.heap->VL C W args vs->1<=s.toks-> ∀a ai,F args σ=some (a,ai)->
  codeAny (dC C) A (.call f ⟨vs,[]⟩) (fun r s'=>match r with| .ok (.ret v)=>Sm s s'/\ ∃W',W.le W'/\cv C W' ai s'.heap/\V C W' a v| .ok _=>False| .error e=>dp e s') s
theorem pQ.snd{f:ah}{F:aW}(h:pQ C k f F):aF C k f F:=fun A Rm W σ s args vs R hv tk a ai e=>oN (h A Rm W σ s args vs R hv tk a ai e)
theorem Su{a d p:Nat}(h1:a<=p)(h2:p<=a+d):a+(d-(a+d-p))=p:=by omega
theorem abQ{f:aC}{fd:gB}{body:List co}{ps:List Str}{dfl:aa}{nm:Nat->Option Str}(F:afc C f fd body ps dfl nm){A:bX}(Rm:eI A (k+1)){args:aa}{vs:List ah}(R:cv C W σ s.heap)(hv:VL C W args vs)(tk:1<=s.toks)(h1:args.length<=ps.length)(h2:ps.length<=args.length+dfl.length){Rz:tF->az->Prop}
  (hb: ∀X,abe C fd nm X->X.nq=s->eI (A.deeper X.env) k-> ∀bn,(∀b o,s.heap.get? b=some o->bn.heap.get? b=some o)->(∀c,X.Has c->s.heap.get? c=none)->St X W (args++dfl.drop (args.length+dfl.length-ps.length)) σ bn->
   wpAny (dC C) (A.deeper X.env) (execs body X.env) (fun fl dP=>Rz (.ok (.ret (match fl with| .ret v=>v|_=>.none))) dP) dp bn):codeAny (dC C) A (.call (.ref f) ⟨vs,[]⟩) Rz s:=by
 obtain⟨ws,hws,hbind⟩:=F.bind W σ s args vs R hv h1 h2
 obtain⟨o,ho,hd⟩:=F.there
 have hwl:ws.length=ps.length:=by rw[hws.length,ao,gW];exact Su h1 h2
 have K:=R.K
 have hcell: ∀x∈ps,fd.scope.names.lookup x=some .cell-> ∀m,((cellsFrom m fd.scope.names []).lookup x).isSome=true:=fun x hx hl m=>Ad _ _ (.inl (mem_of_lookup hl))
 refine codeAny_call_function Rm.d0 (K _ _ ho) hd F.coro F.gen F.body (codeRec_of K F.code) (hbind _ _ _ _ ?_)
 rw[F.clo]
 refine wpAny_with_toks (ax s.toks) (wpAny_newFunctionEnv_cells F.kind (fun x hx=> ?_) fun env he bn x=>fun htk=> ?_)
 ·have hx':x.1∈ps:=by rw[<- HF hwl];exact List.mem_map_of_mem hx
  exact(F.kinds x.1 hx').imp id fun h=>⟨h,hcell x.1 hx' h _⟩
 ·have hns:env.scope=fd.scope:=by rw[he];rfl
  have hcs:env.cells=cellsFrom (s.heap.objs.size+1) fd.scope.names []:=by rw[he];rfl
  have keep:=x.toInCall.keep
  have hL:s.heap.objs.size<=env.locals:=x.toInCall.fresh
  have hC: ∀n c,env.cells.lookup n=some c->s.heap.objs.size<=c:=fun n c e=>iZ (eV hL (x.above n c (mem_of_lookup e)))
  refine⟨(C.nolimit.keeps fun b o e=>R.im _ _ (R.base _ _ e)).keeps keep,codeAny_func ?_⟩
  let X:FX:=⟨C,env,nm,env.locals::env.cells.filterMap (fun p=>env.cells.lookup p.1),s⟩
  have hown: ∀n c,env.cells.lookup n=some c->c∈X.own:=fun n c e=>aQ _ (lu.mpr ⟨(n,c),mem_of_lookup e,e⟩)
  have has: ∀c,X.Has c->s.heap.objs.size<=c:=fun c hc=>by
   rcases hc with rfl|⟨n,e⟩|e
   ·exact hL
   ·exact hC n c e
   ·rcases aG.mp e with rfl|e
    ·exact hL
    ·obtain⟨p,hp,e⟩:=lu.mp e
     exact hC _ _ e
  have ok:u2 X:=⟨by show env.scope.kind=_;rw[hns];exact F.kind,by show env.globals=_;rw[he];exact F.glob,by show env.builtins=_;rw[he];exact F.blt,bb,x.apart,
   fun n c e=>oL (x.above n c (mem_of_lookup e)),F.plain⟩
  have B:abe C fd nm X:=⟨rfl,ok,rfl,hns,hown,fun n hn=>by
   show ∃c,env.cells.lookup n=some c
   rw[hcs];exact eX.mp (Ad _ _ (.inl hn))⟩
  have hsm:Sm s bn:=by obtain⟨sk,akB,e⟩:=x.toInCall.same;exact⟨sk,akB,e,by rw[e]at htk;exact htk⟩
  have T:St X W (args++dfl.drop (args.length+dfl.length-ps.length)) σ bn:=by
   refine⟨R.keeps keep,⟨⟨_,x.toInCall.ns,fun i a e=>.inr fun y hy=> ?_⟩,fun n c e=>⟨_,x.cell n c e⟩,fun c hc=>R.cell_new (has c hc),fun c hc=>R.im_new (has c hc),fun c hc=>R.pr_new (has c (.inr (.inr hc))),fun c hc=> ?_⟩,tk,hsm⟩
   ·have hi:i<ps.length:=by
     have:=(cP.mp e).1
     rwa[ao,gW,Su h1 h2]at this
    obtain⟨v,e',q⟩:=hws.get e
    have hp:=F.nmAt i y hi hy
    refine⟨v,?_,q⟩
    have hy':y∈ps:=a8 hp
    have hk: ∀kd,fd.scope.names.lookup y=some kd->env.kindOf y=some kd:=fun kd h=>by show env.scope.names.lookup y=_;rw[hns];exact h
    unfold i8
    rcases F.kinds y hy' with hl|hl
    ·rw[show X.env.kindOf y=some .local from hk _ hl]
     exact acX F.nodup hwl.symm hp e' (hk _ hl)
    ·rw[show X.env.kindOf y=some .cell from hk _ hl]
     obtain⟨c,hc⟩:=eX.mp (hcell y hy' hl (s.heap.objs.size+1))
     rw[<- hcs]at hc
     refine⟨c,hc,?_⟩
     have z:=x.cell y c hc
     rw[acW F.nodup hwl.symm hp e' (hk _ hl)]at z;exact z
   ·rcases hc with rfl|⟨n,e⟩|e
    ·obtain⟨o,_,_,z,_⟩:=x.toInCall.ns;exact⟨o,z⟩
    ·obtain⟨o,z,_⟩:=x.cell n c e;exact⟨o,z⟩
    ·rcases aG.mp e with rfl|e
     ·obtain⟨o,_,_,z,_⟩:=x.toInCall.ns;exact⟨o,z⟩
     ·obtain⟨p,hp,e⟩:=lu.mp e
      obtain⟨o,z,_⟩:=x.cell _ c e;exact⟨o,z⟩
  exact KP (hb X B rfl (Rm.deeper env) bn keep (fun c hc=>by
   cases e:s.heap.get? c with
   |none=>rfl
   |some o=>exact absurd (cp e) (b6.mpr (has c hc))) T)
theorem aj3{f:aC}{fd:gB}{body:List co}{ps:List Str}{dfl:aa}{nm:Nat->Option Str}{b:SM}(F:afc C f fd body ps dfl nm)(hb: ∀X,abe C fd nm X->mQ X k b body):pQ C (k+1) (.ref f) (bg ps.length dfl b):=fun A Rm W σ s args vs R hv tk a ai e=>by
 refine kS e fun hc e=> ?_
 rw[ig,ig]at hc e
 rw[WM,SD]at e
 obtain⟨h1,h2⟩:=bu.mp hc
 refine abQ F Rm R hv tk (av h1) (av h2) fun X B es Rm' bn _ _ T=> ?_
 have hC:=B.C
 subst hC
 refine oE e fun r q e=>eo (hb X B _ Rm' W _ σ bn T r q) fun fl dP P=> ?_
 cases r with
 |next gO ay=>
  apply s2 e
  obtain⟨rfl,bf,bz,br⟩:=P
  exact⟨es▸br.sm.2,bf,bz,br.rel,rfl⟩
 |ret xx ay=>
  apply s2 e
  obtain⟨v,gO,rfl,bf,bz,br,z⟩:=P
  exact⟨es▸br.sm.2,bf,bz,br.rel,z⟩
 |brk _ _=>exact nn e
 |cont _ _=>exact nn e
end
end
end
section
open PySem.SeqAt
noncomputable section
noncomputable def Ct:List (Str×ah)->List (Str×ah)->List (Str×ah)
 |[],sl=>sl
 |(n,d)::r,sl=>Ct r (if(sl.lookup n).isNone then sl++[(n,d)]else sl)
theorem XA{ps:List Str}{vs:List ah}: ∀{n:Str},n∈ps.take vs.length->((ps.zip vs).lookup n).isSome=true:=by
 induction ps generalizing vs with
 |nil=>intro n h;simp at h
 |cons p ps ih=>
  intro n h
  cases vs with
  |nil=>simp at h
  |cons v vs=>
   simp only[bM,A4,aG]at h
   rw[bL,cz]
   cases q:n==p with
   |true=>rfl
   |false=>exact ih (h.resolve_left fun e=>by rw[e]at q;simp at q)
theorem ZJ: ∀(L:List (Str×ah)) (sl:List (Str×ah)),(forIn L sl fun x r=>if(qw x.fst r).isNone=true then pure (gA (r++[(x.fst,x.snd)]))else pure (gA r):Sem (List (Str×ah)))=pure (Ct L sl):=by
 intro L
 induction L with
 |nil=>exact fun sl=>rfl
 |cons p L ih=>
  intro sl
  rw[gE]
  show(if(qw p.1 sl).isNone=true then _ else _)>>=_=pure (Ct L (if(sl.lookup p.1).isNone then sl++[(p.1,p.2)]else sl))
  split
  ·rw[pure_bind];exact ih _
  ·rw[pure_bind];exact ih _
theorem Na{fd:gB}{s:az}{vs ds:List ah}{ps:List Str}{d:Option (Array ah)}(h1:fd.params.posonlyargs=[])(h2:fd.params.kwonlyargs=[])(h3:fd.params.vararg=none)(h4:fd.params.kwarg=none)(hps:fd.params.args.map (·.arg)=ps)
  (hd: ∀(M:k8) (A:bX) (E:ah->az->Prop) (Q:Option (Array ah)->az->Prop),Q d s->wpAny M A (seqItems? fd.defaults) Q E s)(hds:(d.getD #[]).toList=ds)(hl:vs.length<=ps.length)(hl2:ps.length<=vs.length+ds.length)(hl3:ds.length<=ps.length):
  R5 s fd ⟨vs,[]⟩ (ps.filterMap fun n=>((Ct ((ps.drop (ps.length-ds.length)).zip ds) (ps.zip vs)).lookup n).map (n,·)):=fun M A E Q hQ=>by
 obtain⟨f1,f2,⟨po,ar,va,ko,kd,ka,ds0⟩,f4,f5,f6,f7,dflt,f9⟩:=fd
 dsimp only at h1 h2 h3 h4 hps hd
 subst h1 h2 h3 h4 hps
 refine aq (m:=seqItems? dflt) (hd M A E _ ?_)
 rw[hds]
 rw[if_neg (by simp only[cG,decide_eq_true_eq,not_and];exact fun h=>absurd h (b6.mpr (by simpa using hl)))]
 have z:ds.length-(ar.map (·.arg)).length=0:=Nat.sub_eq_zero_of_le hl3
 have miss:Q4 (fun n=>(((ar.map (·.arg)).zip vs).lookup n).isNone) ((ar.map (·.arg)).take ((ar.map (·.arg)).length -ds.length))=[]:=by
  rw[List.filter_eq_nil_iff]
  intro n hn
  have:(((ar.map (·.arg)).zip vs).lookup n).isSome=true:=XA (by
   have:(ar.map (·.arg)).take ((ar.map (·.arg)).length -ds.length)=((ar.map (·.arg)).take vs.length).take ((ar.map (·.arg)).length -ds.length):=by rw[J0,HU (by omega)]
   rw[this]at hn;exact List.mem_of_mem_take hn)
  rw[dA]
  intro q;rw[q]at this;cases this
 rw[if_neg]
 rotate_left
 ·show ¬((!(Q4 (fun n=>(((ar.map (·.arg)).zip vs).lookup n).isNone) ((ar.map (·.arg)).take ((ar.map (·.arg)).length -(ds.drop (ds.length-(ar.map (·.arg)).length)).length))).isEmpty)=true)
  rw[z,lZ,miss];decide
 refine aq (m:=forIn _ _ _) ?_
 rw[ZJ]
 refine aL (aL ?_)
 show Q (List.filterMap (fun n=>Option.map (fun x=>(n,x)) (qw n (Ct ((Bh ((ar.map (·.arg)).length -(ds.drop (ds.length-(ar.map (·.arg)).length)).length) (ar.map (·.arg))).zip (ds.drop (ds.length-(ar.map (·.arg)).length))) ((ar.map (·.arg)).zip vs)))) (ar.map (·.arg)++[])) s
 rw[z,lZ,aR]
 exact hQ
theorem L5{l m:List (Str×ah)}{x:Str}:(l++m).lookup x=(l.lookup x).or (m.lookup x):=by
 induction l with
 |nil=>simp
 |cons p l ih=>
  rw[eS,cz,cz]
  split<;>simp_all
theorem FJ{x:Str}: ∀(L sl:List (Str×ah)),(Ct L sl).lookup x=(sl.lookup x).or (L.lookup x)
 |[],sl=>by simp[Ct]
 |(n,d)::r,sl=>by
  unfold Ct
  rw[FJ r,cz]
  cases q:x==n with
  |true=>
   have:=beq_iff_eq.mp q
   subst this
   cases z:sl.lookup x with
   |none=>
    simp only[Option.isNone_none,if_true]
    rw[L5,z]
    simp
   |some v=>simp[z]
  |false=>
   split
   ·rw[L5]
    have:qw x [(n,d)]=none:=by rw[cz,q];rfl
    rw[this];simp
   ·rfl
theorem uh: ∀{ps:List Str} {vs:List ah} {i:Nat} {x:Str},ps.Nodup->ps[i]? =some x->(ps.zip vs).lookup x=vs[i]?
 |[],_,_,_,_,e=>by simp at e
 |_::_,[],_,_,_,_=>by simp
 |p::ps,v::vs,0,x,_,e=>by cases e;simp
 |p::ps,v::vs,i+1,x,hN,e=>by
  rw[dL]at hN
  have e:ps[i]? =some x:=by simpa using e
  have hx:x∈ps:=a8 e
  have:(x==p)=false:=by
   rw[beq_eq_false_iff_ne];rintro rfl;exact hN.1 hx
  rw[bL,cz,this]
  simpa using uh (vs:=vs) hN.2 e
theorem Cu{g:Str->Option ah}: ∀{ps:List Str} {ws:List ah},ps.length=ws.length->(∀(i:Nat) x w,ps[i]? =some x->ws[i]? =some w->g x=some w)->ps.filterMap (fun n=>(g n).map (n,·))=ps.zip ws
 |[],_,_,_=>by simp
 |_::_,[],h,_=>by simp at h
 |p::ps,w::ws,h,hg=>by
  have h0:=hg 0 p w rfl rfl
  have ih:=Cu (g:=g) (ps:=ps) (ws:=ws) (by simpa using h) fun i x w e e'=>hg (i+1) x w (by simpa using e) (by simpa using e')
  rw[kP,h0]
  simp[ih]
theorem ix0{i p d v:Nat}(h:p<=v+d)(hv:v<=i):p-d<=i:=Nat.sub_le_of_le_add (au h (Nat.add_le_add_right hv d))
theorem ix1{i q:Nat}(h:q<=i):q+(i-q)=i:=A5 h
theorem ix2{i p d v:Nat}(h:p<=v+d)(h3:d<=p)(hv:v<=i):i-(p-d)=v+d-p+(i-v):=by
 obtain⟨a,rfl⟩:=jh h3
 obtain⟨b,rfl⟩:=jh hv
 rw[mH,lx v d,Nat.add_sub_add_left,mH]
 exact Nat.sub_add_comm (Nat.le_of_add_le_add_left (by rw[lx v d]at h;exact h))
theorem WW{fd:gB}{s:az}{vs ds:List ah}{ps:List Str}{d:Option (Array ah)}(h1:fd.params.posonlyargs=[])(h2:fd.params.kwonlyargs=[])(h3:fd.params.vararg=none)(h4:fd.params.kwarg=none)(hps:fd.params.args.map (·.arg)=ps)
  (hd: ∀(M:k8) (A:bX) (E:ah->az->Prop) (Q:Option (Array ah)->az->Prop),Q d s->wpAny M A (seqItems? fd.defaults) Q E s)(hds:(d.getD #[]).toList=ds)(hl:vs.length<=ps.length)(hl2:ps.length<=vs.length+ds.length)(hl3:ds.length<=ps.length)(hN:ps.Nodup):
  R5 s fd ⟨vs,[]⟩ (ps.zip (vs++ds.drop (vs.length+ds.length-ps.length))):=by
 have:=Na h1 h2 h3 h4 hps hd hds hl hl2 hl3
 rw[Cu (ws:=vs++ds.drop (vs.length+ds.length-ps.length)) (by rw[ao,gW];omega)]at this
 ·exact this
 ·intro i x w e e'
  have hi:i<ps.length:=(cP.mp e).1
  rw[FJ,uh hN e]
  by_cases hv:i<vs.length
  ·rw[List.getElem?_append_left hv]at e'
   rw[e'];rfl
  ·rw[kz (b6.mp hv),qU]at e'
   rw[n6 (b6.mp hv),J1]
   have hN':(ps.drop (ps.length-ds.length)).Nodup:=hN.sublist (List.drop_sublist _ _)
   rw[uh (i:=i-(ps.length-ds.length)) hN' (by rw[qU,ix1 (ix0 hl2 (b6.mp hv))];exact e),<- e',ix2 hl2 hl3 (b6.mp hv)]
theorem XH{v:ah}{s:az}(hv:v= .none): ∀(M:k8) (A:bX) (E:ah->az->Prop) (Q:Option (Array ah)->az->Prop),Q none s->wpAny M A (seqItems? v) Q E s:=fun _ _ _ _ h=>by
 subst hv;exact aq (aL (aL h))
end
end
section
open PySem.SeqAt
noncomputable section
structure SI where
 names:List (Str×dR)
 nm:List (Nat×Str)
 own:Bool
noncomputable def SI.kind(st:SI)(x:Str):Option dR:=st.names.lookup x
noncomputable def Tr(a b:Str):Bool:=dg a.cps.toList b.cps.toList
theorem Ts{a b:Str}(h:Tr a b=true):a=b:=by
 have h:dg a.cps.toList b.cps.toList=true:=h
 rw[kK]at h
 have h:=Gk.mp (ag h)
 cases a;cases b;cases h;rfl
theorem aaD{a:Str}:Tr a a=true:=by
 show dg a.cps.toList a.cps.toList=true
 rw[kK];exact decide_eq_true rfl
noncomputable def oS(o:Option Str)(y:Str):Bool:=bj (motive:=fun _=>Bool) false (fun x=>Tr x y) o
theorem Hp{o:Option Str}{y:Str}(h:oS o y=true):o=some y:=by
 cases o with
 |none=>cases h
 |some x=>exact congrArg some (Ts h)
noncomputable def PQ(l:List (Str×dR))(x:Str):Option dR:=bo (motive:=fun _=>Option dR) none (fun p _ ih=>Bool.rec (motive:=fun _=>Option dR) ih (some p.2) (Tr x p.1)) l
theorem KI(l:List (Str×dR))(x:Str):PQ l x=l.lookup x:=by
 induction l with
 |nil=>rfl
 |cons p l ih=>
  obtain⟨y,v⟩:=p
  show Bool.rec (motive:=fun _=>Option dR) (PQ l x) (some v) (Tr x y)=_
  rw[cz,<- ih]
  cases h:Tr x y with
  |true=>rw[Ts h,beq_self_eq_true]
  |false=>rw[beq_eq_false_iff_ne.mpr fun e=>by rw[e,aaD]at h;cases h]
noncomputable def SI.at_(st:SI)(i:Nat):Option Str:=st.nm.lookup i
noncomputable def pi{α:Type}[BEq α]:List α->Bool
 |[]=>true
 |x::r=> !r.contains x&&pi r
noncomputable def lO(x:Str):Bool:= !(x==("__debug__":Str)||x==("__classdict__":Str))
noncomputable def SI.inner(st:SI)(scope:dT)(xs:ac)(ts:List Str):SI:=
 {names:=scope.names.map fun p=>if(p.2==dr&&st.kind p.1==some eu)then(p.1,eu)else p
  nm:=xs.zip ts++st.nm.filter fun p=> !xs.contains p.1&&scope.names.lookup p.2==some .free
  own:=false}
noncomputable def NA(st:SI)(scope:dT)(xs:ac)(ts:List Str):Bool:=
 scope.kind== .function&&scope.names.all (fun y=>y.2 != .cell)&&scope.names.all (fun y=>y.2 != .local||scope.names.lookup y.1==some .local)&&
 scope.names.all (fun y=>y.2 != .free||(st.kind y.1==some .cell||st.kind y.1==some .free))&&pi (scope.names.map (·.1))&&
 ts.all (fun t=>scope.names.lookup t==some .local&&lO t)&&pi ((st.inner scope xs ts).nm.map (·.2))&&xs.length==ts.length&&pi xs&&pi (st.nm.map (·.1))
theorem aE{a b:Bool}{P:Prop}(h:(a&&b)=true)(k:a=true->b=true->P):P:=by
 cases a with
 |true=>exact k rfl h
 |false=>exact ff h
theorem rE{a b:Bool}{P:Prop}(h:(a||b)=true)(k:a=true->P)(k':b=true->P):P:=by
 cases a with
 |true=>exact k rfl
 |false=>exact k' h
@[elab_as_elim] theorem dE {α:Type} {a b:α} {i:Decidable (a=b)} {Q:α->Prop} (h:decide (a=b)=true) (k:Q a):Q b:=ag h▸k
theorem pj{a:Bool}(h:(!a)=true):a=false:=by cases a with
 |true=>cases h
 |false=>rfl
noncomputable def Hq{α:Type}(o:Option α)(f:α->Bool):Bool:=bj (motive:=fun _=>Bool) false f o
@[elab_as_elim] theorem aij {α:Type} {Q:Option α->Prop} {o:Option α} {f:α->Bool} (h:Hq o f=true) (k: ∀a,f a=true->Q (some a)):Q o:=by
 cases o with
 |some a=>exact k a h
 |none=>exact ff h
noncomputable def hd{α:Type}(l:List α)(f:α->List α->Bool):Bool:=bo (motive:=fun _=>Bool) false (fun a r _=>f a r) l
@[elab_as_elim] theorem U2 {α:Type} {Q:List α->Prop} {l:List α} {f:α->List α->Bool} (h:hd l f=true) (k: ∀a r,f a r=true->Q (a::r)):Q l:=by
 cases l with
 |cons a r=>exact k a r h
 |nil=>exact ff h
noncomputable def nl{α:Type}(l:List α)(b:Bool):Bool:=bo (motive:=fun _=>Bool) b (fun _ _ _=>false) l
@[elab_as_elim] theorem I4 {α:Type} {Q:List α->Prop} {l:List α} {b:Bool} (h:nl l b=true) (k:b=true->Q []):Q l:=by
 cases l with
 |cons a r=>exact ff h
 |nil=>exact k h
noncomputable def uk{α:Type}(l:List α)(f:α->Bool):Bool:=hd l fun a r=>nl r (f a)
@[elab_as_elim] theorem pn {α:Type} {Q:List α->Prop} {l:List α} {f:α->Bool} (h:uk l f=true) (k: ∀a,f a=true->Q [a]):Q l:=U2 h fun a _ h=>I4 h fun h=>k a h
noncomputable def DA{α:Type}(l:List α)(f:α->α->Bool):Bool:=hd l fun a r=>uk r (f a)
@[elab_as_elim] theorem wN {α:Type} {Q:List α->Prop} {l:List α} {f:α->α->Bool} (h:DA l f=true) (k: ∀a b,f a b=true->Q [a,b]):Q l:=U2 h fun a _ h=>pn h fun b h=>k a b h
noncomputable def VO{α:Type}(l:List α)(f:α->α->α->Bool):Bool:=hd l fun a r=>DA r (f a)
@[elab_as_elim] theorem YD {α:Type} {Q:List α->Prop} {l:List α} {f:α->α->α->Bool} (h:VO l f=true) (k: ∀a b c,f a b c=true->Q [a,b,c]):Q l:=U2 h fun a _ h=>wN h fun b c h=>k a b c h
theorem pI{c:Prop}{i:Decidable c}{t:c->Bool}{P:Prop}(h:(if h:c then t h else false)=true)(k: ∀hc,t hc=true->P):P:=by
 cases i with
 |isTrue hc=>exact k hc h
 |isFalse hc=>exact ff h
noncomputable def r7(x:an)(f:Str->Bool):Bool:=if h:x.ctorIdx=23 then wR (motive_1:=fun _=>Bool) x h (fun x0 _=>f x0)else false
@[elab_as_elim] theorem pG {Q:an->Prop} {x:an} {f:Str->Bool} (h:r7 x f=true) (k: ∀(x0:Str) (x1:Pos),f x0=true->Q (.Name x0 x1)):Q x:=pI h fun hc h=>wR (motive_1:=fun x=> ∀hc:x.ctorIdx=23,wR (motive_1:=fun _=>Bool) x hc (fun x0 _=>f x0)=true->Q x) x hc (fun x0 x1 _ h=>k x0 x1 h) hc h
noncomputable def acB(x:an)(f:Const->Bool):Bool:=if h:x.ctorIdx=19 then qP (motive_1:=fun _=>Bool) x h (fun x0 _ _=>f x0)else false
@[elab_as_elim] theorem QU {Q:an->Prop} {x:an} {f:Const->Bool} (h:acB x f=true) (k: ∀(x0:Const) (x1:Nat) (x2:Pos),f x0=true->Q (.Constant x0 x1 x2)):Q x:=pI h fun hc h=>qP (motive_1:=fun x=> ∀hc:x.ctorIdx=19,qP (motive_1:=fun _=>Bool) x hc (fun x0 _ _=>f x0)=true->Q x) x hc (fun x0 x1 x2 _ h=>k x0 x1 x2 h) hc h
noncomputable def ann(x:an)(f:an->iy->an->Bool):Bool:=if h:x.ctorIdx=2 then u6 (motive_1:=fun _=>Bool) x h (fun x0 x1 x2 _=>f x0 x1 x2)else false
@[elab_as_elim] theorem apk {Q:an->Prop} {x:an} {f:an->iy->an->Bool} (h:ann x f=true) (k: ∀(x0:an) (x1:iy) (x2:an) (x3:Pos),f x0 x1 x2=true->Q (.BinOp x0 x1 x2 x3)):Q x:=pI h fun hc h=>u6 (motive_1:=fun x=> ∀hc:x.ctorIdx=2,u6 (motive_1:=fun _=>Bool) x hc (fun x0 x1 x2 _=>f x0 x1 x2)=true->Q x) x hc (fun x0 x1 x2 x3 _ h=>k x0 x1 x2 x3 h) hc h
noncomputable def xUn(x:an)(f:R8->an->Bool):Bool:=if h:x.ctorIdx=3 then r9 (motive_1:=fun _=>Bool) x h (fun x0 x1 _=>f x0 x1)else false
@[elab_as_elim] theorem akV {Q:an->Prop} {x:an} {f:R8->an->Bool} (h:xUn x f=true) (k: ∀(x0:R8) (x1:an) (x2:Pos),f x0 x1=true->Q (.UnaryOp x0 x1 x2)):Q x:=pI h fun hc h=>r9 (motive_1:=fun x=> ∀hc:x.ctorIdx=3,r9 (motive_1:=fun _=>Bool) x hc (fun x0 x1 _=>f x0 x1)=true->Q x) x hc (fun x0 x1 x2 _ h=>k x0 x1 x2 h) hc h
noncomputable def akO(x:an)(f:cB->List an->Bool):Bool:=if h:x.ctorIdx=0 then tv (motive_1:=fun _=>Bool) x h (fun x0 x1 _=>f x0 x1)else false
@[elab_as_elim] theorem amE {Q:an->Prop} {x:an} {f:cB->List an->Bool} (h:akO x f=true) (k: ∀(x0:cB) (x1:List an) (x2:Pos),f x0 x1=true->Q (.BoolOp x0 x1 x2)):Q x:=pI h fun hc h=>tv (motive_1:=fun x=> ∀hc:x.ctorIdx=0,tv (motive_1:=fun _=>Bool) x hc (fun x0 x1 _=>f x0 x1)=true->Q x) x hc (fun x0 x1 x2 _ h=>k x0 x1 x2 h) hc h
noncomputable def xIf(x:an)(f:an->an->an->Bool):Bool:=if h:x.ctorIdx=5 then u9 (motive_1:=fun _=>Bool) x h (fun x0 x1 x2 _=>f x0 x1 x2)else false
@[elab_as_elim] theorem aqx {Q:an->Prop} {x:an} {f:an->an->an->Bool} (h:xIf x f=true) (k: ∀(x0:an) (x1:an) (x2:an) (x3:Pos),f x0 x1 x2=true->Q (.IfExp x0 x1 x2 x3)):Q x:=pI h fun hc h=>u9 (motive_1:=fun x=> ∀hc:x.ctorIdx=5,u9 (motive_1:=fun _=>Bool) x hc (fun x0 x1 x2 _=>f x0 x1 x2)=true->Q x) x hc (fun x0 x1 x2 x3 _ h=>k x0 x1 x2 x3 h) hc h
noncomputable def akP(x:an)(f:an->List gR->List an->Bool):Bool:=if h:x.ctorIdx=15 then r8 (motive_1:=fun _=>Bool) x h (fun x0 x1 x2 _=>f x0 x1 x2)else false
@[elab_as_elim] theorem akQ {Q:an->Prop} {x:an} {f:an->List gR->List an->Bool} (h:akP x f=true) (k: ∀(x0:an) (x1:List gR) (x2:List an) (x3:Pos),f x0 x1 x2=true->Q (.Compare x0 x1 x2 x3)):Q x:=pI h fun hc h=>r8 (motive_1:=fun x=> ∀hc:x.ctorIdx=15,r8 (motive_1:=fun _=>Bool) x hc (fun x0 x1 x2 _=>f x0 x1 x2)=true->Q x) x hc (fun x0 x1 x2 x3 _ h=>k x0 x1 x2 x3 h) hc h
noncomputable def QT(x:an)(f:an->Str->Pos->Bool):Bool:=if h:x.ctorIdx=20 then pK (motive_1:=fun _=>Bool) x h (fun x0 x1 x2=>f x0 x1 x2)else false
@[elab_as_elim] theorem NS {Q:an->Prop} {x:an} {f:an->Str->Pos->Bool} (h:QT x f=true) (k: ∀(x0:an) (x1:Str) (x2:Pos),f x0 x1 x2=true->Q (.Attribute x0 x1 x2)):Q x:=pI h fun hc h=>pK (motive_1:=fun x=> ∀hc:x.ctorIdx=20,pK (motive_1:=fun _=>Bool) x hc (fun x0 x1 x2=>f x0 x1 x2)=true->Q x) x hc (fun x0 x1 x2 _ h=>k x0 x1 x2 h) hc h
noncomputable def acE(x:an)(f:an->an->Bool):Bool:=if h:x.ctorIdx=21 then pL (motive_1:=fun _=>Bool) x h (fun x0 x1 _=>f x0 x1)else false
@[elab_as_elim] theorem aa7 {Q:an->Prop} {x:an} {f:an->an->Bool} (h:acE x f=true) (k: ∀(x0:an) (x1:an) (x2:Pos),f x0 x1=true->Q (.Subscript x0 x1 x2)):Q x:=pI h fun hc h=>pL (motive_1:=fun x=> ∀hc:x.ctorIdx=21,pL (motive_1:=fun _=>Bool) x hc (fun x0 x1 _=>f x0 x1)=true->Q x) x hc (fun x0 x1 x2 _ h=>k x0 x1 x2 h) hc h
noncomputable def acD(x:an)(f:Option an->Option an->Option an->Bool):Bool:=if h:x.ctorIdx=26 then vb (motive_1:=fun _=>Bool) x h (fun x0 x1 x2 _=>f x0 x1 x2)else false
@[elab_as_elim] theorem akT {Q:an->Prop} {x:an} {f:Option an->Option an->Option an->Bool} (h:acD x f=true) (k: ∀(x0:Option an) (x1:Option an) (x2:Option an) (x3:Pos),f x0 x1 x2=true->Q (.Slice x0 x1 x2 x3)):Q x:=pI h fun hc h=>vb (motive_1:=fun x=> ∀hc:x.ctorIdx=26,vb (motive_1:=fun _=>Bool) x hc (fun x0 x1 x2 _=>f x0 x1 x2)=true->Q x) x hc (fun x0 x1 x2 x3 _ h=>k x0 x1 x2 x3 h) hc h
noncomputable def akS(x:an)(f:List an->Bool):Bool:=if h:x.ctorIdx=24 then wQ (motive_1:=fun _=>Bool) x h (fun x0 _=>f x0)else false
@[elab_as_elim] theorem amF {Q:an->Prop} {x:an} {f:List an->Bool} (h:akS x f=true) (k: ∀(x0:List an) (x1:Pos),f x0=true->Q (.List x0 x1)):Q x:=pI h fun hc h=>wQ (motive_1:=fun x=> ∀hc:x.ctorIdx=24,wQ (motive_1:=fun _=>Bool) x hc (fun x0 _=>f x0)=true->Q x) x hc (fun x0 x1 _ h=>k x0 x1 h) hc h
noncomputable def acF(x:an)(f:List an->Bool):Bool:=if h:x.ctorIdx=25 then jm (motive_1:=fun _=>Bool) x h (fun x0 _ _=>f x0)else false
@[elab_as_elim] theorem aa8 {Q:an->Prop} {x:an} {f:List an->Bool} (h:acF x f=true) (k: ∀(x0:List an) (x1:Nat) (x2:Pos),f x0=true->Q (.Tuple x0 x1 x2)):Q x:=pI h fun hc h=>jm (motive_1:=fun x=> ∀hc:x.ctorIdx=25,jm (motive_1:=fun _=>Bool) x hc (fun x0 _ _=>f x0)=true->Q x) x hc (fun x0 x1 x2 _ h=>k x0 x1 x2 h) hc h
noncomputable def akU(x:an)(f:List an->Nat->Pos->Bool):Bool:=if h:x.ctorIdx=25 then jm (motive_1:=fun _=>Bool) x h (fun x0 x1 x2=>f x0 x1 x2)else false
@[elab_as_elim] theorem amG {Q:an->Prop} {x:an} {f:List an->Nat->Pos->Bool} (h:akU x f=true) (k: ∀(x0:List an) (x1:Nat) (x2:Pos),f x0 x1 x2=true->Q (.Tuple x0 x1 x2)):Q x:=pI h fun hc h=>jm (motive_1:=fun x=> ∀hc:x.ctorIdx=25,jm (motive_1:=fun _=>Bool) x hc (fun x0 x1 x2=>f x0 x1 x2)=true->Q x) x hc (fun x0 x1 x2 _ h=>k x0 x1 x2 h) hc h
noncomputable def aa6(x:an)(f:List (Option an)->List an->Bool):Bool:=if h:x.ctorIdx=6 then wP (motive_1:=fun _=>Bool) x h (fun x0 x1 _=>f x0 x1)else false
@[elab_as_elim] theorem acC {Q:an->Prop} {x:an} {f:List (Option an)->List an->Bool} (h:aa6 x f=true) (k: ∀(x0:List (Option an)) (x1:List an) (x2:Pos),f x0 x1=true->Q (.Dict x0 x1 x2)):Q x:=pI h fun hc h=>wP (motive_1:=fun x=> ∀hc:x.ctorIdx=6,wP (motive_1:=fun _=>Bool) x hc (fun x0 x1 _=>f x0 x1)=true->Q x) x hc (fun x0 x1 x2 _ h=>k x0 x1 x2 h) hc h
noncomputable def VT(x:an)(f:an->List an->List tl->Pos->Bool):Bool:=if h:x.ctorIdx=16 then wO (motive_1:=fun _=>Bool) x h (fun x0 x1 x2 x3=>f x0 x1 x2 x3)else false
@[elab_as_elim] theorem VU {Q:an->Prop} {x:an} {f:an->List an->List tl->Pos->Bool} (h:VT x f=true) (k: ∀(x0:an) (x1:List an) (x2:List tl) (x3:Pos),f x0 x1 x2 x3=true->Q (.Call x0 x1 x2 x3)):Q x:=pI h fun hc h=>wO (motive_1:=fun x=> ∀hc:x.ctorIdx=16,wO (motive_1:=fun _=>Bool) x hc (fun x0 x1 x2 x3=>f x0 x1 x2 x3)=true->Q x) x hc (fun x0 x1 x2 x3 _ h=>k x0 x1 x2 x3 h) hc h
noncomputable def aa5(x:an)(f:an->List dK->dT->Bool):Bool:=if h:x.ctorIdx=8 then qQ (motive_1:=fun _=>Bool) x h (fun x0 x1 x2 _=>f x0 x1 x2)else false
@[elab_as_elim] theorem acA {Q:an->Prop} {x:an} {f:an->List dK->dT->Bool} (h:aa5 x f=true) (k: ∀(x0:an) (x1:List dK) (x2:dT) (x3:Pos),f x0 x1 x2=true->Q (.ListComp x0 x1 x2 x3)):Q x:=pI h fun hc h=>qQ (motive_1:=fun x=> ∀hc:x.ctorIdx=8,qQ (motive_1:=fun _=>Bool) x hc (fun x0 x1 x2 _=>f x0 x1 x2)=true->Q x) x hc (fun x0 x1 x2 x3 _ h=>k x0 x1 x2 x3 h) hc h
noncomputable def acn(x:co)(f:an->Bool):Bool:=if h:x.ctorIdx=24 then wU (motive_2:=fun _=>Bool) x h (fun x0 _=>f x0)else false
@[elab_as_elim] theorem aji {Q:co->Prop} {x:co} {f:an->Bool} (h:acn x f=true) (k: ∀(x0:an) (x1:Pos),f x0=true->Q (.Expr x0 x1)):Q x:=pI h fun hc h=>wU (motive_2:=fun x=> ∀hc:x.ctorIdx=24,wU (motive_2:=fun _=>Bool) x hc (fun x0 _=>f x0)=true->Q x) x hc (fun x0 x1 _ h=>k x0 x1 h) hc h
noncomputable def De(x:co)(f:List an->an->Bool):Bool:=if h:x.ctorIdx=5 then tG (motive_2:=fun _=>Bool) x h (fun x0 x1 _=>f x0 x1)else false
@[elab_as_elim] theorem Ey {Q:co->Prop} {x:co} {f:List an->an->Bool} (h:De x f=true) (k: ∀(x0:List an) (x1:an) (x2:Pos),f x0 x1=true->Q (.Assign x0 x1 x2)):Q x:=pI h fun hc h=>tG (motive_2:=fun x=> ∀hc:x.ctorIdx=5,tG (motive_2:=fun _=>Bool) x hc (fun x0 x1 _=>f x0 x1)=true->Q x) x hc (fun x0 x1 x2 _ h=>k x0 x1 x2 h) hc h
noncomputable def ane(x:co)(f:an->List co->List co->Bool):Bool:=if h:x.ctorIdx=12 then Bj (motive_2:=fun _=>Bool) x h (fun x0 x1 x2 _=>f x0 x1 x2)else false
@[elab_as_elim] theorem ao7 {Q:co->Prop} {x:co} {f:an->List co->List co->Bool} (h:ane x f=true) (k: ∀(x0:an) (x1:List co) (x2:List co) (x3:Pos),f x0 x1 x2=true->Q (.If x0 x1 x2 x3)):Q x:=pI h fun hc h=>Bj (motive_2:=fun x=> ∀hc:x.ctorIdx=12,Bj (motive_2:=fun _=>Bool) x hc (fun x0 x1 x2 _=>f x0 x1 x2)=true->Q x) x hc (fun x0 x1 x2 x3 _ h=>k x0 x1 x2 x3 h) hc h
noncomputable def aco(x:co)(f:an->List co->List co->Bool):Bool:=if h:x.ctorIdx=11 then vg (motive_2:=fun _=>Bool) x h (fun x0 x1 x2 _=>f x0 x1 x2)else false
@[elab_as_elim] theorem ajk {Q:co->Prop} {x:co} {f:an->List co->List co->Bool} (h:aco x f=true) (k: ∀(x0:an) (x1:List co) (x2:List co) (x3:Pos),f x0 x1 x2=true->Q (.While x0 x1 x2 x3)):Q x:=pI h fun hc h=>vg (motive_2:=fun x=> ∀hc:x.ctorIdx=11,vg (motive_2:=fun _=>Bool) x hc (fun x0 x1 x2 _=>f x0 x1 x2)=true->Q x) x hc (fun x0 x1 x2 x3 _ h=>k x0 x1 x2 x3 h) hc h
noncomputable def ajj(x:co)(f:an->an->List co->List co->Bool):Bool:=if h:x.ctorIdx=9 then zH (motive_2:=fun _=>Bool) x h (fun x0 x1 x2 x3 _=>f x0 x1 x2 x3)else false
@[elab_as_elim] theorem amq {Q:co->Prop} {x:co} {f:an->an->List co->List co->Bool} (h:ajj x f=true) (k: ∀(x0:an) (x1:an) (x2:List co) (x3:List co) (x4:Pos),f x0 x1 x2 x3=true->Q (.For x0 x1 x2 x3 x4)):Q x:=pI h fun hc h=>zH (motive_2:=fun x=> ∀hc:x.ctorIdx=9,zH (motive_2:=fun _=>Bool) x hc (fun x0 x1 x2 x3 _=>f x0 x1 x2 x3)=true->Q x) x hc (fun x0 x1 x2 x3 x4 _ h=>k x0 x1 x2 x3 x4 h) hc h
noncomputable def Yg(x:co)(f:Option an->Bool):Bool:=if h:x.ctorIdx=3 then tH (motive_2:=fun _=>Bool) x h (fun x0 _=>f x0)else false
@[elab_as_elim] theorem aek {Q:co->Prop} {x:co} {f:Option an->Bool} (h:Yg x f=true) (k: ∀(x0:Option an) (x1:Pos),f x0=true->Q (.Return x0 x1)):Q x:=pI h fun hc h=>tH (motive_2:=fun x=> ∀hc:x.ctorIdx=3,tH (motive_2:=fun _=>Bool) x hc (fun x0 _=>f x0)=true->Q x) x hc (fun x0 x1 _ h=>k x0 x1 h) hc h
noncomputable def ajh(x:co)(f:Bool):Bool:=if h:x.ctorIdx=27 then qV (motive_2:=fun _=>Bool) x h (fun _=>f)else false
@[elab_as_elim] theorem amp {Q:co->Prop} {x:co} {f:Bool} (h:ajh x f=true) (k: ∀(x0:Pos),f=true->Q (.Continue x0)):Q x:=pI h fun hc h=>qV (motive_2:=fun x=> ∀hc:x.ctorIdx=27,qV (motive_2:=fun _=>Bool) x hc (fun _=>f)=true->Q x) x hc (fun x0 _ h=>k x0 h) hc h
noncomputable def abS(g:dK)(f:an->an->List an->Bool):Bool:=decide ((0:Int)=g.is_async)&&f g.target g.iter g.ifs
@[elab_as_elim] theorem ZN {Q:dK->Prop} {g:dK} {f:an->an->List an->Bool} (h:abS g f=true) (k: ∀t i fs,f t i fs=true->Q ⟨t,i,fs,0⟩):Q g:=by
 cases g with
 |mk t i fs a=>exact aE h fun h0 h=>dE (Q:=fun a=>Q ⟨t,i,fs,a⟩) h0 (k t i fs h)
structure Ck where
 e:SI->an->Bool
 b:SI->an->Bool
 l:SI->List an->Bool
 o:SI->cB->List an->Bool
 a:SI->cB->List an->Bool
 p:SI->Option an->Bool
 i:SI->List an->Bool
noncomputable def aiq:List Nat:=[19,23,16,20,21,8,2,24,25]
noncomputable def Qi(x:an):Bool:=FQ x.ctorIdx aiq
noncomputable def no1(_:SI)(_:List an):Bool:=false
noncomputable def Ck.both(e b:SI->an->Bool):Ck:=⟨e,b,no1,fun st _ xs=>uk xs (e st),fun st _ xs=>uk xs (b st),fun st x=>Hq x (e st),fun st xs=>uk xs (b st)⟩
noncomputable def Ck.ofE(e:SI->an->Bool):Ck:=.both e fun st x=>Qi x&&e st x
noncomputable def qg(f:an->Bool)(g:List an->Bool)(l:List an):Bool:=hd l fun x r=>f x&&hd r fun y r=>g (y::r)
noncomputable def s9(op:cB)(g:List an->Bool)(x:an):Bool:=akO x fun o l=>decide (op=o)&&g l
noncomputable def aas(op op':cB)(f:an->Bool)(g:List an->Bool)(l:List an):Bool:=uk l f||(decide (op=op')&&g l)
noncomputable def Ck.bool(op:cB)(a b:Ck):Ck:=
 ⟨fun st=>s9 op (qg (a.e st) (b.o st op)),fun st=>s9 op (qg (a.b st) (b.a st op)),no1,fun st op'=>aas op op' (s9 op (qg (a.e st) (b.o st op))) (qg (a.e st) (b.o st op)),fun st op'=>aas op op' (s9 op (qg (a.b st) (b.a st op))) (qg (a.b st) (b.a st op)),
  fun st x=>Hq x (s9 op (qg (a.e st) (b.o st op))),fun st xs=>uk xs (s9 op (qg (a.b st) (b.a st op)))⟩
noncomputable def cOf(a:AV)(f:Const->Bool):Bool:=match a with
 | .none=>f .none
 | .bool b=>f (.bool b)
 | .int i=>f (.int i)
 | .str l=>f (.str (aP l))
 | .bytes l=>f (.bytes l)
 |_=>false
noncomputable def Co(a:AV)(x:an):Bool:=acB x fun c=>cOf a fun d=>decide (d=c)
structure Wj where
 glb:List Str
 fns:List Str
 mts:List Str
noncomputable def cC.nms(Γ:cC):Wj:=⟨Γ.glb.map (·.1),Γ.fns.map (·.1),Γ.mts.map (·.1)⟩
noncomputable def Ah:List Str->Nat->Option Str
 |[],_=>none
 |x::_,0=>some x
 |_::r,i+1=>Ah r i
noncomputable def NK(l:List Str)(i:Nat)(x:Str):Bool:=oS (Ah l i) x
noncomputable def ZP(st:SI)(x:Str):Bool:=PQ st.names x==some .globalImplicit&& !(x==("__debug__":Str))
noncomputable def Et(x:an):Bool:= !aj x.ctorIdx 7
noncomputable def YB(x:an)(f:List Str->Bool):Bool:=r7 x (fun n=>f [n])||acF x fun t=>DA t fun a b=>r7 a fun n=>r7 b fun m=>f [n,m]
noncomputable def XI(es:List an):Bool:=es.all fun e=> !jb e
noncomputable def Z2(i:Int)(o:Option an):Bool:=Hq o fun e=>Co (.int i) e
noncomputable def af4(k1 k2:Int)(a b:ac)(x:an):Bool:=aa6 x fun d e=>DA d fun k k'=>DA e fun v v'=>Z2 k1 k&&(Z2 k2 k'&&(Co (.str a) v&&(Co (.str b) v'&& !decide (k1=k2))))
noncomputable def afL:Ck:=⟨fun _ _=>false,fun _ _=>false,no1,fun _ _ _=>false,fun _ _ _=>false,fun _ x=>x.isNone,fun _ xs=>xs.isEmpty⟩
noncomputable def anC(a:AV):Ck:=.ofE fun _ x=>Co a x
noncomputable def afS(i:Nat):Ck:=.ofE fun st x=>r7 x fun y=>oS (st.at_ i) y
noncomputable def afF(N:Wj)(g:Nat):Ck:=.ofE fun st x=>r7 x fun y=>ZP st y&&NK N.glb g y
noncomputable def afC(op:iy)(a b:Ck):Ck:=.ofE fun st x=>ann x fun l o r=>decide (op=o)&&(a.e st l&&b.e st r)
noncomputable def afJ(a:Ck):Ck:=.ofE fun st x=>xUn x fun o r=>decide (.USub=o)&&a.e st r
noncomputable def afM(a:Ck):Ck:=.both (fun st x=>xUn x fun o r=>decide (.Not=o)&&a.e st r) (fun st x=>xUn x fun o r=>decide (.Not=o)&&a.b st r)
noncomputable def afH(c a b:Ck):Ck:=.ofE fun st x=>xIf x fun t l r=>c.b st t&&(a.e st l&&b.e st r)
noncomputable def Zp(op:gR)(a b:an->Bool)(x:an):Bool:=akP x fun l os rs=>uk os fun o=>uk rs fun r=>decide (op=o)&&(!behindInMarks op r&&(a l&&b r))
noncomputable def afD(op:gR)(a b:Ck):Ck:=.both (fun st=>Zp op (a.e st) (b.e st)) (fun st=>Zp op (a.e st) (b.e st))
noncomputable def UM(op op':gR)(a b c:an->Bool)(x:an):Bool:=akP x fun l os rs=>DA os fun o o'=>DA rs fun r r'=>decide (op=o)&&(decide (op'=o')&&(!lastMarks [op,op'] [r,r']&&(a l&&(b r&&c r'))))
noncomputable def abv(op op':gR)(a b c:Ck):Ck:=.both (fun st=>UM op op' (a.e st) (b.e st) (c.e st)) (fun st=>UM op op' (a.e st) (b.e st) (c.e st))
noncomputable def afB(FN:List Str)(k:Nat)(a:Ck):Ck:=.ofE fun st x=>QT x fun o n _=>oS (Ah FN k) n&&(s0 o&&a.e st o)
noncomputable def afG(a i:Ck):Ck:=.ofE fun st x=>acE x fun o j=> !PN j&&(a.e st o&&i.e st j)
noncomputable def afQ(a lo hi:Ck):Ck:=.ofE fun st x=>acE x fun o j=>acD j fun l h s=>decide (none=s)&&(a.e st o&&(lo.p st l&&hi.p st h))
noncomputable def afI(l:Ck):Ck:=.ofE fun st x=>akS x fun es=>l.l st es
noncomputable def afR(l:Ck):Ck:=.ofE fun st x=>acF x fun es=>l.l st es
noncomputable def afE:Ck:=.ofE fun _ x=>aa6 x fun a b=>nl a (nl b true)
noncomputable def ala(k1 k2:Int)(a b:ac):Ck:=.ofE fun _ x=>af4 k1 k2 a b x
noncomputable def afN(c:Nat)(a:Ck):Ck:=.ofE fun st x=>VT x fun f es ks p=>QT f fun o n ap=>DA es fun v v'=>decide ("replace"=n)&&(s0 o&&(decide (ap.endLine=p.line)&&nl ks (Co (.str [c]) v&&(Co (.str []) v'&&a.e st o))))
noncomputable def abu(N:Wj)(f:Nat)(l:Ck):Ck:=.ofE fun st x=>VT x fun g es ks _=>r7 g fun y=>ZP st y&&(NK N.fns f y&&nl ks (XI es&&l.l st es))
noncomputable def abx(N:Wj)(n:Nat)(o l:Ck):Ck:=.ofE fun st x=>VT x fun g es ks p=>QT g fun q y ap=>NK N.mts n y&&(s0 q&&(decide (ap.endLine=p.line)&&(bt es.length 30&&nl ks (XI es&&(o.e st q&&l.l st es)))))
noncomputable def afK:Ck:=⟨fun _ _=>true,fun _ _=>true,fun _ xs=>nl xs true,fun _ _ _=>true,fun _ _ _=>true,fun _ _=>true,fun _ _=>true⟩
noncomputable def abw(a l:Ck):Ck:=⟨fun _ _=>false,fun _ _=>false,fun st xs=>hd xs fun x r=> !jb x&&(a.e st x&&l.l st r),fun _ _ _=>false,fun _ _ _=>false,fun _ _=>false,fun _ _=>false⟩
noncomputable def UL(xs:ac)(it c elt:Ck):Ck:=.ofE fun st x=>aa5 x fun ee gs sc=>uk gs fun g=>abS g fun tg ie fs=>YB tg fun ts=>
 it.e st ie&&(Et ie&&(NA st sc xs ts&&(c.i (st.inner sc xs ts) fs&&elt.e (st.inner sc xs ts) ee)))
noncomputable def O6(x':Nat)(it:Ck)(y':Nat)(it2 elt:Ck):Ck:=.ofE fun st x=>aa5 x fun ee gs sc=>DA gs fun g g'=>abS g fun tg ie fs=>abS g' fun tg' ie' fs'=>r7 tg fun nx=>r7 tg' fun ny=>
 nl fs (nl fs' (it.e st ie&&(Et ie&&(Et ie'&&(NA st sc [x',y'] [nx,ny]&&(it2.e (st.inner sc [x',y'] [nx,ny]) ie'&&elt.e (st.inner sc [x',y'] [nx,ny]) ee))))))
noncomputable def ck(FN:List Str)(N:Wj)(t:T):Ck:=T.rec (motive:=fun _=>Ck) afL anC afS (afF N) (fun op _ _=>afC op) (fun _=>afJ) (fun _=>afM) (fun _ _=>.bool .And) (fun _ _=>.bool .Or) (fun _ _ _=>afH) (fun op _ _=>afD op) (fun op op' _ _ _=>abv op op')
 (fun k _=>afB FN k) (fun _ _=>afG) (fun _ _ _=>afQ) (fun _=>afI) (fun _=>afR) afE ala (fun c _=>afN c) (fun f _=>abu N f) (fun n _ _=>abx N n) afK (fun _ _=>abw) (fun xs _ _ _=>UL xs) (fun x _ y _ _ a=>O6 x a y) t
structure sQ where
 s:SI->co->Bool
 ss:SI->List co->Bool
 g:SI->Bool
noncomputable def pg(st:SI)(i:Nat)(x:Str):Bool:=oS (st.at_ i) x&&(decide (PQ st.names x=some .local)||(st.own&&decide (PQ st.names x=some .cell)))
noncomputable def CM(st:SI):List Nat->List an->Bool
 |[],ts=>nl ts true
 |i::is,ts=>hd ts fun t r=>r7 t (fun x=>pg st i x)&&CM st is r
noncomputable def PL(t:T):Bool:=if h:t.ctorIdx=1 then T.cst.elim (motive:=fun _=>Bool) t h fun a=>(sZ a (some ())).isSome else false
noncomputable def sQ.one(s:SI->co->Bool):sQ:=⟨s,fun _ _=>false,fun _=>false⟩
noncomputable def age(st:SI):Env:={scope:=⟨.function,st.names,false,false,[]⟩,locals:=0,globals:=0,cells:=[]}
noncomputable def abn{α:Type}(m:Sem α)(f:α->Bool):Bool:=if h:m.ctorIdx=0 then zG (motive:=fun _=>Bool) m h f else false
@[elab_as_elim] theorem afq {α:Type} {Q:Sem α->Prop} {m:Sem α} {f:α->Bool} (h:abn m f=true) (k: ∀a,f a=true->Q (.pure a)):Q m:=pI h fun hc h=>zG (motive:=fun x=> ∀hc:x.ctorIdx=0,zG (motive:=fun _=>Bool) x hc f=true->Q x) m hc (fun a _ h=>k a h) hc h
noncomputable def ail(st:SI)(is:ac)(names:List Str):Bool:=DA is fun i j=>DA names fun x y=>pg st i x&&(pg st j y&& !decide (i=j))
noncomputable def aim(st:SI)(is:ac)(names:List Str):Bool:=VO is fun i j l=>VO names fun x y z=>
 pg st i x&&(pg st j y&&(pg st l z&&(!decide (i=j)&&(!decide (i=l)&& !decide (j=l)))))
noncomputable def abo(st:SI)(is:ac)(t:an)(ts:List an)(v:an):Bool:=abn (swappedStores [t] v (age st)) fun o=>bj (motive:=fun _=>Bool) (bt 1 is.length&&CM st is ts) (fun names=>ail st is names||aim st is names) o
noncomputable def alb:sQ:=⟨fun _ _=>true,fun _ _=>false,fun _=>false⟩
noncomputable def W3(e:Ck):sQ:=.one fun st x=>acn x fun v=>kp v&&e.e st v
noncomputable def aby(i:Nat)(e:Ck):sQ:=.one fun st x=>De x fun ts v=>uk ts fun t=>r7 t fun y=>pg st i y&&e.e st v
noncomputable def W1(is:ac)(e:Ck):sQ:=.one fun st x=>De x fun ts v=>uk ts fun t=>akU t fun q c p=>kp v&&(e.e st v&&abo st is (.Tuple q c p) q v)
noncomputable def WZ(FN:List Str)(k:Nat)(o e:Ck):sQ:=.one fun st x=>De x fun ts v=>uk ts fun t=>QT t fun q n _=>oS (Ah FN k) n&&(o.e st q&&e.e st v)
noncomputable def W0(o i e:Ck):sQ:=.one fun st x=>De x fun ts v=>uk ts fun t=>acE t fun q j=>o.e st q&&(i.e st j&&e.e st v)
noncomputable def afP(c:Ck)(a b:sQ):sQ:=.one fun st x=>ane x fun t l r=>c.b st t&&(a.ss st l&&b.ss st r)
noncomputable def abC(c:Ck)(b:sQ):sQ:=.one fun st x=>aco x fun t l r=>nl r (c.b st t&&b.ss st l)
noncomputable def ag5(st:SI)(xs:ac)(t:an):Bool:=uk xs (fun i=>r7 t fun y=>pg st i y)||acF t fun q=>bt 1 xs.length&&CM st xs q
noncomputable def abz(xs:ac)(it:Ck)(b:sQ):sQ:=.one fun st x=>ajj x fun t i l r=>nl r (ag5 st xs t&&(Et i&&(it.e st i&&b.ss st l)))
noncomputable def abB(n:Bool)(e:Ck):sQ:=.one fun st x=>Yg x fun o=>bj (motive:=fun _=>Bool) n (e.e st) o
noncomputable def afO:sQ:=.one fun _ x=>ajh x true
noncomputable def abA(i:Nat):sQ:=⟨fun _ _=>false,fun _ _=>false,fun st=>(st.at_ i).isSome⟩
noncomputable def alc:sQ:=⟨fun _ _=>false,fun _ xs=>nl xs true,fun _=>false⟩
noncomputable def W2(a b:sQ):sQ:=⟨fun _ _=>false,fun st xs=>(a.g st&&b.ss st xs)||hd xs fun x r=>a.s st x&&b.ss st r,fun _=>false⟩
noncomputable def ckS(FN:List Str)(N:Wj)(t:TS):sQ:=TS.rec (motive:=fun _=>sQ) alb (fun e=>W3 (ck FN N e)) (fun i e=>aby i (ck FN N e)) (fun is e=>W1 is (ck FN N e)) (fun k o e=>WZ FN k (ck FN N o) (ck FN N e)) (fun o i e=>W0 (ck FN N o) (ck FN N i) (ck FN N e))
 (fun c _ _=>afP (ck FN N c)) (fun c _=>abC (ck FN N c)) (fun xs it _=>abz xs (ck FN N it)) (fun e=>abB (PL e) (ck FN N e)) afO abA alc (fun _ _=>W2) t
end
end
section
open PySem.SeqAt
noncomputable section
structure gS(X:FX)(st:SI):Prop where
 names:X.env.scope.names=st.names
 nm:X.names=st.at_
 ok:u2 X
 sto:GX X
 cells: ∀n,(n,eu)∈st.names\/(n,dr)∈st.names-> ∃c,X.env.cells.lookup n=some c
 own:st.own=true-> ∀n c,X.env.cells.lookup n=some c->c∈X.own
theorem gS.kind{X:FX}{st:SI}(H:gS X st)(x:Str):X.env.kindOf x=st.kind x:=by
 unfold Env.kindOf SI.kind;rw[H.names]
theorem j7{α:Type}[BEq α][LawfulBEq α]: ∀{l:List α},pi l=true->l.Nodup
 |[],_=>l0
 |x::r,h=>by
  simp only[pi,cG,dY]at h
  rw[dL]
  refine⟨fun hm=> ?_,j7 h.2⟩
  rw[wS.mpr hm]at h
  exact absurd h.1 (by decide)
noncomputable def Cj(cells:List (Str×aC)):List (Str×dR)->List (Str×aC)->List (Str×aC)
 |[],acc=>acc
 |(n,kd)::r,acc=>if kd== .free then Cj cells r ((n,(cells.lookup n).getD 0)::acc)else Cj cells r acc
theorem Cm{env:Env}: ∀(names:List (Str×dR)) (acc:List (Str×aC)),(∀n,(n,dr)∈names-> ∃c,env.cells.lookup n=some c)->
  (forIn names acc fun x r=>(if x.2==dr then(do let a <- cellOf env x.1;pure (gA ((x.1,a)::r)))else pure (gA r):Sem (ForInStep (List (Str×aC)))))=pure (Cj env.cells names acc)
 |[],acc,_=>rfl
 |(n,kd)::r,acc,h=>by
  rw[gE]
  unfold Cj
  dsimp only
  split
  ·rename_i q
   have q:kd= .free:=by simpa using q
   subst q
   obtain⟨c,hc⟩:=h n bb
   have:cellOf env n=pure c:=by unfold cellOf;rw[hc]
   rw[this,pure_bind,pure_bind,hc]
   exact Cm r _ fun m hm=>h m (aQ _ hm)
  ·rw[pure_bind]
   exact Cm r _ fun m hm=>h m (aQ _ hm)
theorem xA{cells:List (Str×aC)}: ∀{names:List (Str×dR)} {acc:List (Str×aC)} {p:Str×aC},p∈Cj cells names acc->p∈acc\/((p.1,dr)∈names/\p.2=(cells.lookup p.1).getD 0)
 |[],acc,p,h=>.inl h
 |(n,kd)::r,acc,p,h=>by
  unfold Cj at h
  split at h
  ·rename_i q
   have q:kd= .free:=by simpa using q
   subst q
   rcases xA h with h|h
   ·rcases aG.mp h with e|h
    ·subst e;exact .inr ⟨bb,rfl⟩
    ·exact .inl h
   ·exact .inr ⟨aQ _ h.1,h.2⟩
  ·rcases xA h with h|h
   ·exact .inl h
   ·exact .inr ⟨aQ _ h.1,h.2⟩
theorem Ky{cells:List (Str×aC)}: ∀{names:List (Str×dR)} {acc:List (Str×aC)} {n:Str},(n,dr)∈names\/n∈acc.map (·.1)->n∈(Cj cells names acc).map (·.1)
 |[],acc,n,h=>by
  rcases h with h|h
  ·cases h
  ·exact h
 |(m,kd)::r,acc,n,h=>by
  unfold Cj
  split
  ·refine Ky ?_
   rcases h with h|h
   ·rcases aG.mp h with e|h
    ·cases e;exact .inr (by simp)
    ·exact .inl h
   ·exact .inr (by rw[bd];exact aQ _ h)
  ·rename_i q
   refine Ky ?_
   rcases h with h|h
   ·rcases aG.mp h with e|h
    ·cases e;exact absurd rfl q
    ·exact .inl h
   ·exact .inr h
theorem vF{cells:List (Str×aC)}: ∀{names:List (Str×dR)} {acc:List (Str×aC)},(names.map (·.1)).Nodup->(acc.map (·.1)).Nodup->(∀n,n∈names.map (·.1)->n∉acc.map (·.1))->((Cj cells names acc).map (·.1)).Nodup
 |[],acc,_,h,_=>h
 |(n,kd)::r,acc,h1,h2,h3=>by
  rw[bd,dL]at h1
  unfold Cj
  split
  ·refine vF h1.2 (by rw[bd,dL];exact⟨h3 n (by simp),h2⟩) fun m hm=> ?_
   rw[bd,aG,not_or]
   exact⟨fun e=>h1.1 (e▸hm),h3 m (aQ _ hm)⟩
  ·exact vF h1.2 h2 fun m hm=>h3 m (aQ _ hm)
theorem pe{α β:Type}[BEq α][LawfulBEq α]: ∀{l:List (α×β)} {n:α} {c:β},(l.map (·.1)).Nodup->(n,c)∈l->l.lookup n=some c
 |(m,d)::r,n,c,hN,h=>by
  rw[bd,dL]at hN
  rw[cz]
  rcases aG.mp h with e|h'
  ·cases e;simp
  ·have:(n==m)=false:=by
    rw[beq_eq_false_iff_ne];intro e;exact hN.1 (e▸dy.mpr ⟨_,h',rfl⟩)
   rw[this];exact pe hN.2 h'
theorem Va{α β:Type}[BEq α][LawfulBEq α]{l:List (α×β)}{n:α}(h:n∈l.map (·.1)): ∃c,l.lookup n=some c:=by
 induction l with
 |nil=>cases h
 |cons p r ih=>
  rw[cz]
  cases q:n==p.1 with
  |true=>exact⟨_,rfl⟩
  |false=>
   rw[bd,aG]at h
   exact ih (h.resolve_left fun e=>by rw[e]at q;simp at q)
section
variable{X:FX}{k:Nat}{st:SI}
structure oP(st:SI)(scope:dT)(xs:List Nat)(ts:List Str):Prop where
 kind:scope.kind= .function
 nocell: ∀y∈scope.names,y.2≠ .cell
 locals: ∀y∈scope.names,y.2= .local->scope.names.lookup y.1=some .local
 free: ∀n,(n,dr)∈scope.names->st.kind n=some .cell\/st.kind n=some .free
 nodup:(scope.names.map (·.1)).Nodup
 tloc: ∀t∈ts,scope.names.lookup t=some .local
 tplain: ∀t∈ts,(t==("__debug__":Str)||t==("__classdict__":Str))=false
 uniq:((st.inner scope xs ts).nm.map (·.2)).Nodup
 len:xs.length=ts.length
 xnodup:xs.Nodup
 keys:(st.nm.map (·.1)).Nodup
theorem UN{scope:dT}{xs:ac}{ts:List Str}(h:NA st scope xs ts=true):oP st scope xs ts:=by
 unfold NA at h
 simp only[cG,bT,beq_iff_eq,bne_iff_ne,ne_eq,oF]at h
 obtain⟨⟨⟨⟨⟨⟨⟨⟨⟨h1,h2⟩,h3⟩,h4⟩,h5⟩,h6⟩,h7⟩,h8⟩,h9⟩,h10⟩:=h
 refine⟨h1,h2,fun y hy e=>(h3 y hy).resolve_left fun q=>q e,fun n hn=>(h4 _ hn).resolve_left fun q=>q rfl,j7 h5,fun t ht=>(h6 t ht).1,fun t ht=> ?_,j7 h7,h8,j7 h9,j7 h10⟩
 have:=(h6 t ht).2
 unfold lO at this
 simpa using this
abbrev O7(X:FX)(scope:dT):List (Str×aC):=Cj X.env.cells scope.names []
theorem Hd(H:gS X st){scope:dT}{xs:ac}{ts:List Str}(K:oP st scope xs ts){n:Str}(hn:(n,dr)∈scope.names): ∃c,X.env.cells.lookup n=some c:=
 H.cells n ((K.free n hn).imp dG dG)
theorem y6(H:gS X st){scope:dT}{xs:ac}{ts:List Str}(K:oP st scope xs ts){n:Str}(hn:(n,dr)∈scope.names):(O7 X scope).lookup n=X.env.cells.lookup n:=by
 have hN:=vF (cells:=X.env.cells) (acc:=[]) K.nodup l0 (fun _ _ h=>by cases h)
 obtain⟨c,hc⟩:=Va (Ky (cells:=X.env.cells) (acc:=[]) (.inl hn))
 rcases xA (dG hc)with h|⟨_,h⟩
 ·cases h
 ·obtain⟨d,hd⟩:=Hd H K hn
  have h:c=(X.env.cells.lookup n).getD 0:=h
  rw[hc,hd,h,hd];rfl
theorem Mt{xs:ac}{ts:List Str}{i:Nat}{x:Str}(h:(xs.zip ts).lookup i=some x):i∈xs/\x∈ts:=by
 have:=dG h
 exact⟨(HO this).1,(HO this).2⟩
theorem Af{α β:Type}[BEq α]{l m:List (α×β)}{x:α}:(l++m).lookup x=(l.lookup x).or (m.lookup x):=by
 induction l with
 |nil=>simp
 |cons p l ih=>
  rw[eS,cz,cz]
  split<;>simp_all
theorem SR{scope:dT}{xs:ac}{ts:List Str}(K:oP st scope xs ts){i:Nat}{x:Str}(h:(st.inner scope xs ts).at_ i=some x):((xs.zip ts).lookup i=some x/\i∈xs/\x∈ts)\/(i∉xs/\st.at_ i=some x/\scope.names.lookup x=some .free):=by
 unfold SI.at_ SI.inner at h
 rw[Af]at h
 cases q:(xs.zip ts).lookup i with
 |some y=>rw[q]at h;cases h;exact .inl ⟨rfl,Mt q⟩
 |none=>
  rw[q,J1]at h
  have:=List.mem_filter.mp (dG h)
  simp only[cG,dY,beq_iff_eq]at this
  obtain⟨h1,h2,h3⟩:=this
  exact .inr ⟨fun hm=>(by rw[wS.mpr hm]at h2;cases h2),pe K.keys h1,h3⟩
theorem uB(H:gS X st){scope:dT}{xs:ac}{ts:List Str}:(relabel scope X.env).names=(st.inner scope xs ts).names:=by
 unfold relabel SI.inner
 dsimp only
 refine fS fun p hp=> ?_
 obtain⟨n,kd⟩:=p
 rw[H.ok.kind,H.kind n]
 dsimp only
 by_cases h:(kd==dr&&st.kind n==some eu)=true
 ·have h':(kd==dr&&(lz==lz)&&st.kind n==some eu)=true:=by simpa using h
  rw[if_pos h,if_pos h']
 ·have h': ¬(kd==dr&&(lz==lz)&&st.kind n==some eu)=true:=by simpa using h
  rw[if_neg h,if_neg h']
theorem FL{scope:dT}{xs:ac}{ts:List Str}(K:oP st scope xs ts){n:Str}{kd:dR}(h:(n,kd)∈scope.names):(st.inner scope xs ts).names.lookup n=some (if(kd==dr&&st.kind n==some eu)then eu else kd):=by
 refine pe ?_ (dy.mpr ⟨(n,kd),h,?_⟩)
 ·have:(st.inner scope xs ts).names.map (·.1)=scope.names.map (·.1):=by
   show(scope.names.map fun p=>if(p.2==dr&&st.kind p.1==some eu)then(p.1,eu)else p).map (·.1)=_
   rw[gF]
   refine fS fun p _=> ?_
   show(if _ then _ else _:Str×dR).1=p.1
   split<;>rfl
  rw[this];exact K.nodup
 ·dsimp only
  split<;>rfl
theorem Pc(H:gS X st){scope:dT}{xs:ac}{ts:List Str}(K:oP st scope xs ts):D9 X scope (O7 X scope) (st.inner scope xs ts).at_ xs:=by
 refine⟨?_,K.kind,K.nocell,K.locals,fun i x hx=> ?_,fun n c e=> ?_,?_,fun i x hx=> ?_⟩
 ·unfold closureFor
  have:=Cm (env:=X.env) scope.names [] fun n hn=>Hd H K hn
  rw[bind_pure]
  exact this
 ·rcases SR K hx with⟨_,h,_⟩|⟨h1,h2,h3⟩
  ·exact .inl h
  ·have hf:=dG h3
   refine .inr ⟨by rw[H.nm];exact h2,by rw[H.kind];exact K.free x hf,?_,y6 H K hf⟩
   rw[uB H (xs:=xs) (ts:=ts),FL K hf]
   split
   ·exact .inl rfl
   ·exact .inr rfl
 ·have hm:=xA (dG e)
  rcases hm with h|⟨h,_⟩
  ·cases h
  ·rw[<- y6 H K h];exact e
 ·have hN:=vF (cells:=X.env.cells) (acc:=[]) K.nodup l0 (fun _ _ h=>by cases h)
  have hP:(O7 X scope).Pairwise fun p q=>p.1≠q.1:=List.pairwise_map.mp hN
  refine hP.imp_of_mem fun{p q} hp hq hne e=>hne ?_
  have look: ∀p∈O7 X scope,X.env.cells.lookup p.1=some p.2:=fun p hp=>by
   rcases xA hp with h|⟨h,_⟩
   ·cases h
   ·rw[<- y6 H K h];exact pe hN hp
  have e1:=dG (look p hp)
  have e2:=dG (look q hq)
  rw[<- e]at e2
  exact Ja H.ok.apart e1 e2
 ·rcases SR K hx with⟨_,_,h⟩|⟨h1,h2,h3⟩
  ·exact K.tplain x h
  ·exact H.ok.plain i x (by rw[H.nm];exact h2)
theorem K8{x:Str}: ∀{l:List (Nat×Str)} {i j:Nat},(l.map (·.2)).Nodup->(i,x)∈l->(j,x)∈l->i=j
 |(m,d)::r,i,j,hN,h,h'=>by
  rw[bd,dL]at hN
  rcases aG.mp h with e|h1<;>rcases aG.mp h' with e'|h2
  ·cases e;cases e';rfl
  ·cases e;exact absurd (dy.mpr ⟨_,h2,rfl⟩) hN.1
  ·cases e';exact absurd (dy.mpr ⟨_,h1,rfl⟩) hN.1
  ·exact K8 hN.2 h1 h2
theorem LY(H:gS X st){scope:dT}{xs:ac}{ts:List Str}(K:oP st scope xs ts){n:Str}{kd:dR}(h:(n,kd)∈(st.inner scope xs ts).names)(hk:kd= .cell\/kd= .free):(n,dr)∈scope.names:=by
 obtain⟨⟨m,d⟩,hm,e⟩:=dy.mp h
 dsimp only at e
 split at e
 ·rename_i q
  cases e
  simp only[cG,beq_iff_eq]at q
  rw[q.1]at hm;exact hm
 ·cases e
  rcases hk with rfl|rfl
  ·exact absurd rfl (K.nocell _ hm)
  ·exact hm
theorem adI(H:gS X st){scope:dT}{xs:ac}{ts:List Str}(K:oP st scope xs ts){s:az}{L:aC}(hL: ∀n c,X.env.cells.lookup n=some c->c≠L):gS (X.inner scope (O7 X scope) (st.inner scope xs ts).at_ L s) (st.inner scope xs ts):=by
 have hk:(X.inner scope (O7 X scope) (st.inner scope xs ts).at_ L s).env.scope.kind= .function:=K.kind
 refine⟨uB H,rfl,adH H.ok (Pc H K) hL,⟨fun i j x hi hj=> ?_,?_⟩,fun n hn=> ?_,fun h=>by cases h⟩
 ·exact K8 K.uniq (dG hi) (dG hj)
 ·unfold interactive;rw[hk];rfl
 ·have hf:(n,dr)∈scope.names:=hn.elim (fun h=>LY H K h (.inl rfl)) fun h=>LY H K h (.inr rfl)
  obtain⟨c,hc⟩:=Hd H K hf
  exact⟨c,by show(O7 X scope).lookup n=_;rw[y6 H K hf];exact hc⟩
theorem xJ(H:gS X st){scope:dT}{xs:ac}{ts:List Str}(K:oP st scope xs ts){s:az}{L:aC}{i:Nat}{x:Str}(h:(xs.zip ts).lookup i=some x):kg (X.inner scope (O7 X scope) (st.inner scope xs ts).at_ L s) i x:=by
 obtain⟨hi,hx⟩:=Mt h
 refine⟨?_,.inl ?_⟩
 ·show(st.inner scope xs ts).at_ i=some x
  unfold SI.at_ SI.inner
  rw[Af,h];rfl
 ·show(relabel scope X.env).names.lookup x=_
  rw[uB H (xs:=xs) (ts:=ts),FL K (dG (K.tloc x hx))]
  rfl
end
end
end
section
open PySem.SeqAt
noncomputable section
noncomputable def akG(v:ah)(f:Int->Bool):Bool:=if h:v.ctorIdx=4 then wW (motive:=fun _=>Bool) v h fun i _=>f i else false
@[elab_as_elim] theorem aph {Q:ah->Prop} {v:ah} {f:Int->Bool} (h:akG v f=true) (k: ∀i t,f i=true->Q (.int i t)):Q v:=pI h fun hc h=>wW (motive:=fun v=> ∀hc:v.ctorIdx=4,wW (motive:=fun _=>Bool) v hc (fun i _=>f i)=true->Q v) v hc (fun i t _ h=>k i t h) hc h
noncomputable def akI(v:ah)(f:Str->Bool):Bool:=if h:v.ctorIdx=6 then wY (motive:=fun _=>Bool) v h fun i _=>f i else false
@[elab_as_elim] theorem api {Q:ah->Prop} {v:ah} {f:Str->Bool} (h:akI v f=true) (k: ∀i t,f i=true->Q (.str i t)):Q v:=pI h fun hc h=>wY (motive:=fun v=> ∀hc:v.ctorIdx=6,wY (motive:=fun _=>Bool) v hc (fun i _=>f i)=true->Q v) v hc (fun i t _ h=>k i t h) hc h
noncomputable def acw(v:ah)(f:aC->Bool):Bool:=if h:v.ctorIdx=10 then wX (motive:=fun _=>Bool) v h f else false
@[elab_as_elim] theorem akH {Q:ah->Prop} {v:ah} {f:aC->Bool} (h:acw v f=true) (k: ∀i,f i=true->Q (.ref i)):Q v:=pI h fun hc h=>wX (motive:=fun v=> ∀hc:v.ctorIdx=10,wX (motive:=fun _=>Bool) v hc f=true->Q v) v hc (fun i _ h=>k i h) hc h
noncomputable def afY(d:Bc)(f:Array ah->Nat->Bool):Bool:=match d with
 | .seq vs n=>f vs n
 |_=>false
@[elab_as_elim] theorem afZ {Q:Bc->Prop} {d:Bc} {f:Array ah->Nat->Bool} (h:afY d f=true) (k: ∀vs n,f vs n=true->Q (.seq vs n)):Q d:=by
 cases d<;>first|exact ff h|exact k _ _ h
noncomputable def U5(o:Obj)(f:List ah->Bool):Bool:=o.cls== .type "tuple" &&(o.dict.isNone&&(decide (o.slots= #[])&&afY o.data fun vs _=>f vs.toList))
@[elab_as_elim] theorem ahG {Q:Obj->Prop} {o:Obj} {f:List ah->Bool} (h:U5 o f=true) (k: ∀vs n,f vs=true->Q (ti vs n)):Q o:=by
 cases o with
 |mk c d dt sl=>
  refine aE h fun h1 h=>aE h fun h2 h=>aE h fun h3 h=>afZ (Q:=fun dt=>Q ⟨c,d,dt,sl⟩) h fun vs n h=> ?_
  rw[show c=_ from beq_iff_eq.mp h1,show d=none from dA.mp h2,show sl=_ from ag h3]
  exact k vs.toList n h
section
variable{k:Nat}{C:PC}
theorem ae0{s:Str}{l:ac}(h:dg s.cps.toList l=true):s=aP l:=by
 obtain⟨⟨m⟩⟩:=s
 rw[kK]at h
 exact congrArg aP (ag h)
mutual
noncomputable def kV(K:dQ)(v:ah)(a:AV):Bool:=match a with
 | .none=>v== .none
 | .opq=>true
 | .bool b=>v== .bool b
 | .int i=>akG v fun j=>decide (j=i)
 | .str l=>akI v fun s=>dg s.cps.toList l
 | .tup l=>acw v fun x=>Hq (K.lookup x) fun o=>U5 o fun vs=>kVL K vs l
 | .glob w=>v==w
 |_=>false
noncomputable def kVL(K:dQ)(vs:List ah)(l:aa):Bool:=match l with
 |[]=>nl vs true
 |a::l=>hd vs fun v r=>kV K v a&&kVL K r l
end
def ImK(C:PC)(W:Wd):Prop:= ∀x o,C.K.lookup x=some o->W.im x=some o
theorem cv.imK{W:Wd}{σ:AS}{h:bJ}(R:cv C W σ h):ImK C W:=fun x o e=>R.base _ _ (C.inK _ _ e)
theorem L8{α:Type}{P:Prop}{o:Option α}{f:α->Bool}(h:Hq o f=true)(k: ∀a,o=some a->f a=true->P):P:=by
 cases o with
 |some a=>exact k a rfl h
 |none=>exact ff h
mutual
theorem S3{W:Wd}(hW:ImK C W): ∀{a:AV} {v:ah},kV C.K v a=true->V C W a v
 | .none,v,h=>beq_iff_eq.mp (show(v== .none)=true from h)
 | .opq,v,h=>trivial
 | .bool b,v,h=>beq_iff_eq.mp (show(v== .bool b)=true from h)
 | .int i,v,h=>aph (show akG v (fun j=>decide (j=i))=true from h) fun j t h=>⟨t,(ag h)▸rfl⟩
 | .str l,v,h=>api (show akI v (fun s=>dg s.cps.toList l)=true from h) fun j t h=>⟨t,congrArg (fun x=>gg x t) (ae0 h)⟩
 | .tup l,v,h=>akH (show acw v (fun x=>Hq (C.K.lookup x) fun o=>U5 o fun vs=>kVL C.K vs l)=true from h) fun x h=>L8 h fun o ho h=>ahG (Q:=fun o=>C.K.lookup x=some o->V C W (.tup l) (.ref x)) h (fun vs n h ho=>⟨x,n,vs,rfl,hW _ _ ho,Hj hW h⟩) ho
 | .glob w,v,h=>(beq_iff_eq.mp (show(v==w)=true from h))
 | .unb,v,h=>ff h
 | .bytes _,v,h=>ff h
 | .lst _,v,h=>ff h
 | .frz _ _ _,v,h=>ff h
 | .dct _ _,v,h=>ff h
 | .dcti _ _,v,h=>ff h
 | .rng _ _,v,h=>ff h
 | .ref _,v,h=>ff h
theorem Hj{W:Wd}(hW:ImK C W): ∀{l:aa} {vs:List ah},kVL C.K vs l=true->VL C W l vs
 |[],vs,h=>I4 (show nl vs true=true from h) fun _=>VL.nil
 |a::l,vs,h=>U2 (show hd vs (fun v r=>kV C.K v a&&kVL C.K r l)=true from h) fun v r h=>aE h fun h1 h2=>VL.cons (S3 hW h1) (Hj hW h2)
end
noncomputable def af3(K:dQ)(dfl:aa)(v:ah):Bool:=bo (motive:=fun _=>Bool) (v== .none) (fun _ _ _=>acw v fun x=>Hq (K.lookup x) fun o=>afY o.data fun vs _=>kVL K vs.toList dfl) dfl
theorem ZA{dfl:aa}{v:ah}(h:af3 C.K dfl v=true){W:Wd}{σ:AS}{s:az}(R:cv C W σ s.heap): ∃d:Option (Array ah),VL C W dfl (d.getD #[]).toList/\
  ∀(M:k8) (A:bX) (E:ah->az->Prop) (Q:Option (Array ah)->az->Prop),Q d s->wpAny M A (seqItems? v) Q E s:=by
 cases dfl with
 |nil=>exact⟨none,VL.nil,XH (beq_iff_eq.mp (show(v== .none)=true from h))⟩
 |cons a l=>
  exact akH h fun x h=>L8 h fun o ho h=>afZ (d:=o.data) (Q:=fun d'=>o.data=d'-> ∃d:Option (Array ah),VL C W (a::l) (d.getD #[]).toList/\ ∀(M:k8) (A:bX) (E:ah->az->Prop) (Q:Option (Array ah)->az->Prop),Q d s->wpAny M A (seqItems? (.ref x)) Q E s) h
   (fun vs n h hd=>⟨some vs,Hj R.imK h,fun M A E Q hq=>wpAny_seqItems (R.K _ _ ho) hd hq⟩) rfl
end
end
end
section
open PySem.SeqAt
noncomputable section
section
variable{k:Nat}{C:PC}
theorem cv.ns{W:Wd}{σ:AS}{h:bJ}(R:cv C W σ h):h.Ns mainGlobals C.mg/\h.Ns builtinsNs C.mb:=
 ⟨C.g.keeps fun b o e=>R.im _ _ (R.base _ _ e),C.b.keeps fun b o e=>R.im _ _ (R.base _ _ e)⟩
theorem lT{x:Str}{a:AV}{v:ah}(hm:C.mg x=some v)(hv: ∀W,ImK C W->V C W a v):ni C x a:=fun M A E env W σ s Q hg hb R h=>
 loadGlobal_global (by rw[hg];exact R.ns.1) hm (h v (hv W R.imK))
theorem TB{x:Str}{v:ah}(hm:C.mg x=none)(hn:x≠ "__name__")(hv:bootBuiltins x=some v):ni C x (.glob v):=fun M A E env W σ s Q hg hb R h=>
 loadGlobal_builtin (by rw[hg];exact R.ns.1) hm (by rw[hb];exact R.ns.2) (by rw[C.boot x hn];exact hv) (h v rfl)
theorem eI.under{A:bX}(R:eI A (k+1)){c:aC}{v:List ah}{kw:List (Str×ah)}:eI (A.under (.builtin "type.__call__" ⟨.ref c::v,kw⟩)) k:=by
 have h1:(tu "type.__call__" ⟨.ref c::v,kw⟩).weight=1:=by first|rfl|kernel_rfl
 have h2:(tu "type.__call__" ⟨.ref c::v,kw⟩).cUnits=1:=by first|rfl|kernel_rfl
 have:=R.depth
 have:=R.units
 exact⟨R.handled,by show A.depth+(tu "type.__call__" ⟨.ref c::v,kw⟩).weight +k<_;omega,by show A.units+(tu "type.__call__" ⟨.ref c::v,kw⟩).cUnits +4*k<_;omega⟩
theorem aew{c fI:aC}{F:aW}(hm:makesIn C.K c=true)(hi:findIn C.K (.ref c) "__init__"=some (some (.ref fI)))(hf:typeIn C.K (.ref fI)=some (.type "function"))(hc:C.cls c=true)(hF:pQ C k (.ref fI) F):aF C (k+1) (.ref c) (ui c F):=fun A Rm W σ s args vs R hv tk a ai e=>by
 refine fM (show bw (F (.ref σ.next::args) (σ.alloc (.inst c [] []))) _=_ from e) fun xx ay q e=> ?_
 revert q
 refine Cg (Q:=fun xx=>F (.ref σ.next::args) (σ.alloc (.inst c [] []))=some (xx,ay)->_) e fun e q=> ?_
 apply s2 e
 ·refine oN ?_
  obtain⟨hh,g,d,t,os⟩:=s
  have X:=R.K
  refine make_core (makes_of X hm) (tJ X hi) (fun self=>bind_fn X self hf) (.inl rfl) ?_
  have k1: ∀b o,hh.get? b=some o->((hh.push emptyDict).push (instObj c hh.objs.size)).get? b=some o:=fun b o e=>bC _ (bC _ e)
  have gd:((hh.push emptyDict).push (instObj c hh.objs.size)).get? hh.objs.size=some (dictOf [] 0):=bC _ (bh _ rfl)
  have gx:((hh.push emptyDict).push (instObj c hh.objs.size)).get? (hh.objs.size+1)=some (instObj c hh.objs.size):=by
   have:=bh (hh.push emptyDict) (o:=instObj c hh.objs.size) rfl
   rwa[pW]at this
  have R1:cv C W σ ((hh.push emptyDict).push (instObj c hh.objs.size)):=R.keeps k1
  have R2:=R1.addIm (x:=hh.objs.size+1) gx (R.pr_new (cM _)) (R.cell_new (cM _))
  have le1:W.le (W.addIm (hh.objs.size+1) (instObj c hh.objs.size)):=Wd.le_addIm fun o' e=>by rw[R.im_new (cM _)]at e;cases e
  have le2:(W.addIm (hh.objs.size+1) (instObj c hh.objs.size)).le ((W.addIm (hh.objs.size+1) (instObj c hh.objs.size)).addId σ.next (hh.objs.size+1,hh.objs.size)):=Wd.le_addId (R2.fresh _ (ax _))
  have R3:=R2.alloc (c:=.inst c [] []) (p:=(hh.objs.size+1,hh.objs.size)) ⟨hc,mm,[],0,[],gd,VL.nil,trivial⟩
   (by
    show(if hh.objs.size=hh.objs.size+1 then _ else W.im hh.objs.size)=none
    rw[if_neg (cj (bO _))];exact R.im_new (ax _)) (R.pr_new (ax _)) (R.cell_new (ax _))
  have hv':=VL.cons (q6 (C:=C) (W:=W.addIm (hh.objs.size+1) (instObj c hh.objs.size)) (n:=σ.next) (p:=(hh.objs.size+1,hh.objs.size))) (hv.mono (le1.trans le2))
  refine N8 (hF _ Rm.under _ _ ⟨(hh.push emptyDict).push (instObj c hh.objs.size),g,d,t,os⟩ _ _ R3 hv' tk _ _ q) fun r s' z=> ?_
  match r,z with
  | .ok (.ret v),z=>
   obtain⟨⟨sk,akB,hs,an9⟩,W',l',R',hq⟩:=z
   obtain rfl:v= .none:=hq
   exact⟨rfl,⟨sk,akB,hs,an9⟩,W',(le1.trans le2).trans l',R',_,l'.1 _ _ (if_pos rfl),rfl⟩
  | .error e,z=>exact z.elim
end
end
end
section
open PySem.SeqAt
noncomputable section
section
variable{k:Nat}{C:PC}
theorem aF.le{k':Nat}{f:ah}{F:aW}(h:aF C k f F)(hk:k<=k'):aF C k' f F:=fun A R=>h A (R.le hk)
theorem dX.le{k':Nat}{x:Str}{D:gM}(h:dX C k x D)(hk:k<=k'):dX C k' x D:=fun W σ hh a v F R hv e=>let⟨f,h1,h2,h3⟩:=h W σ hh a v F R hv e;⟨f,h1,h2,h3.le hk⟩
theorem dk{x:Str}:dX C k x gK:=fun W σ h a v F R hv e=>by cases e
theorem S6{x:Str}{ks:ac}{vs:List ah}{es:List hJ}(hx: ∀i∈ks,i<C.nf->C.fname i≠x)(q:oT C ks vs es):getL x es=some none:=by
 have h1:es.find? (·.key.isStr x)=none:=by
  rw[List.find?_eq_none]
  intro e he
  induction es generalizing ks vs with
  |nil=>cases he
  |cons en es ih=>
   cases ks with
   |nil=>cases vs<;>exact TP q
   |cons kk ks=>cases vs with
    |nil=>exact TP q
    |cons v vs=>
     obtain⟨hk,⟨t,ht⟩,_,q⟩:=q
     rcases aG.mp he with rfl|he
     ·rw[ht];simp[iQ,hx kk (bb ..) hk]
     ·exact ih (fun i hi=>hx i (aQ _ hi)) q he
 unfold getL
 rw[h1,if_neg]
 intro h
 obtain⟨e,he,h⟩:=j9.mp h
 rw[(Hk q).1 e he]at h;cases h
theorem Zo{W:Wd}{σ:AS}{h:bJ}(R:cv C W σ h){c:Nat}(hcl:C.cls c=true){a:AV}{v:ah}(hv:V C W a v)(hd:FF a σ=some c): ∃ks fs,Oh C W h v c ks fs:=by
 cases a with
 |frz d ks fs=>cases hd;exact⟨ks,fs,SN R hv⟩
 |ref y=>
  refine oE (show ob (σ.get y) WY=some c from hd) fun cc hc hd=> ?_
  cases cc with
  |inst d ks fs=>cases hd;exact⟨ks,fs,Tp R hc hv⟩
  |orc d l=>cases hd;exact ai8 R hc hcl hv
  |_=>exact nn hd
 |_=>exact nn hd
theorem aet{x:Str}{c f:aC}{F:aW}{G:gM}(hcl:C.cls c=true)(hx: ∀i,i<C.nf->C.fname i≠x)(hg:plainGet C.K c x=true)(hf:findIn C.K (.ref c) x=some (some (.ref f)))(ht:typeIn C.K (.ref f)=some (.type "function"))(hk:keepIn C.K (.ref f)=true)
  (hF:aF C k (.ref f) F)(hG:dX C k x G):dX C k x (fc c F G):=fun W σ h a v F' R hv e=>by
 refine oE (show ob (FF a σ) _=_ from e) fun d hd e=>bE e (fun z e=> ?_) fun z e=>hG W σ h _ v F' R hv e
 apply s1 e
 have z:c=d:=aD z
 obtain⟨ks,fs,I⟩:=Zo R hcl hv (z▸hd)
 obtain⟨y,d,es,n,vs,hy,q0,q1,q2,r,z⟩:=I.at_
 refine⟨.ref f,fun A s pl E Q hs hq=> ?_,re hk,hF⟩
 subst hs;subst hy
 exact method_fn R.K (I:=(⟨q1,rfl,rfl,q2⟩:InstAt s.heap y (instObj c d) c (some (dictOf es n)))) (qx hg).1 (qx hg).2 hf ht (by show(lookIn x (dictOf es n)).map _=_;rw[lookIn_dict,S6 (fun i _=>hx i) z];rfl) hq
end
end
end
section
open PySem.SeqAt
noncomputable section
section
variable{k:Nat}{C:PC}{W:Wd}{σ:AS}{s:az}{h':bJ}
def Sm0(s s':az):Prop:= ∃h t,s'={s with heap:=h,toks:=t}
def rG(C:PC)(W:Wd)(ai:AS)(a:AV)(s:az)(v:ah)(s':az):Prop:=Sm0 s s'/\ ∃W',W.le W'/\cv C W' ai s'.heap/\V C W' a v
theorem Jq{f:ah}{F:aW}(h: ∀A,eI A k-> ∀W σ s args vs,cv C W σ s.heap->VL C W args vs->1<=s.toks-> ∀a ai,F args σ=some (a,ai)->wpAny (dC C) A (call f vs) (rG C W ai a s) dp s):aF C k f F:=
 fun A R W σ s args vs Re hv tk a ai e=>VS (ax s.toks) (eo (h A R W σ s args vs Re hv tk a ai e) fun v s' ⟨⟨h',t',q⟩,z⟩ ht=>⟨⟨h',t',q,by rw[q]at ht;exact ht⟩,z⟩)
theorem cv.same(R:cv C W σ s.heap){a:AV}{v:ah}(q:V C W a v)(t:Nat):rG C W σ a s v {s with toks:=t}:=⟨⟨s.heap,t,rfl⟩,W,.refl _,R,q⟩
theorem cv.grown(R:cv C W σ s.heap){a:AV}{v:ah}(q:V C W a v)(hk: ∀b o,s.heap.get? b=some o->h'.get? b=some o)(t:Nat):rG C W σ a s v {s with heap:=h',toks:=t}:=⟨⟨h',t,rfl⟩,W,.refl _,R.keeps hk,q⟩
theorem cv.free(R:cv C W σ s.heap){x:aC}(hx:s.heap.get? x=none):W.im x=none/\W.pr x=none/\sS W σ x:=by
 refine⟨?_,?_,fun a cc p e e' q=> ?_⟩
 ·cases e:W.im x with
  |none=>rfl
  |some o=>have:=R.im _ _ e;rw[hx]at this;cases this
 ·cases e:W.pr x with
  |none=>rfl
  |some o=>have:=R.pr _ _ e;rw[hx]at this;cases this
 ·obtain⟨p',a1,a2,_⟩:=R.cell a cc e
  rw[e']at a1;cases a1
  obtain⟨o,ho⟩:=a2.some
  rw[q,hx]at ho;cases ho
theorem tq(h:bJ):h.get? h.objs.size=none:=by
 cases e:h.get? h.objs.size with
 |none=>rfl
 |some o=>exact absurd (cp e) (zF _)
theorem cv.newIm(R:cv C W σ s.heap)(a:AV){x:aC}{o:Obj}(hk: ∀b o,s.heap.get? b=some o->h'.get? b=some o)(hx:s.heap.get? x=none)(ho:h'.get? x=some o)(q: ∀W',W.le W'->W'.im x=some o->V C W' a (.ref x))(t:Nat):rG C W σ a s (.ref x) {s with heap:=h',toks:=t}:=by
 obtain⟨f1,f2,f3⟩:=R.free hx
 have R':=(R.keeps hk).addIm ho f2 f3
 have le:W.le (W.addIm x o):=Wd.le_addIm fun o' e=>by rw[f1]at e;cases e
 exact⟨⟨h',t,rfl⟩,_,le,R',q _ le mm⟩
theorem cv.newLst(R:cv C W σ s.heap){l:aa}{vs:List ah}{n:Nat}{x:aC}(hk: ∀b o,s.heap.get? b=some o->h'.get? b=some o)(hx:s.heap.get? x=none)(ho:h'.get? x=some (dw vs n))(q:VL C W l vs)(t:Nat):
  rG C W (σ.alloc (.lst l)) (.ref σ.next) s (.ref x) {s with heap:=h',toks:=t}:=by
 obtain⟨f1,f2,f3⟩:=R.free hx
 have le:W.le (W.addId σ.next (x,x)):=Wd.le_addId (R.fresh _ (ax _))
 exact⟨⟨h',t,rfl⟩,_,le,(R.keeps hk).alloc (p:=(x,x)) ⟨rfl,vs,n,ho,q.mono le⟩ f1 f2 f3,q6⟩
theorem Cf{i:Int}{t:Tok}:V C W (.int i) (.int i t):=⟨t,rfl⟩
theorem GW{l:ac}{t:Tok}:V C W (.str l) (.str (aP l) t):=⟨t,rfl⟩
theorem KZ{f:ah}:aF C k f Ud:=Jq fun A R W σ s args vs Re hv tk a ai e=>by cases e
theorem aaq{n:Nat}(h:dv n=true):(n:Int)<2^63:=by
 have:=jL h
 omega
@[elab_as_elim] theorem UB {β:Type} {Q:List AV->Prop} {l:aa} {f:AV->Option β} {r:β} (h:q7 l f=some r) (kk: ∀a,f a=some r->Q [a]):Q l:=by
 cases l with
 |nil=>exact nn h
 |cons a l=>cases l with
  |nil=>exact kk a h
  |cons b l=>exact nn h
@[elab_as_elim] theorem Kt {β:Type} {Q:List AV->Prop} {l:aa} {f:AV->AV->Option β} {r:β} (h:vC l f=some r) (kk: ∀a b,f a b=some r->Q [a,b]):Q l:=by
 cases l with
 |nil=>exact nn h
 |cons a l=>exact UB (Q:=fun l=>Q (a::l)) h fun b h=>kk a b h
@[elab_as_elim] theorem Zb {β:Type} {Q:List AV->Prop} {l:aa} {f:AV->AV->AV->Option β} {r:β} (h:WN l f=some r) (kk: ∀a b c,f a b c=some r->Q [a,b,c]):Q l:=by
 cases l with
 |nil=>exact nn h
 |cons a l=>exact Kt (Q:=fun l=>Q (a::l)) h fun b c h=>kk a b c h
theorem r6{f:ah}{G:AS->AV->Option (AV×AS)}(h: ∀A,eI A k-> ∀W σ s a v,cv C W σ s.heap->V C W a v->1<=s.toks-> ∀r ai,G σ a=some (r,ai)->wpAny (dC C) A (call f [v]) (rG C W ai r s) dp s):aF C k f (fun args σ=>q7 args (G σ)):=
 Jq fun A R W σ s args vs Re hv tk r ai e=>UB (Q:=fun args=>VL C W args vs->_) e (fun a e hv=>hv.consE fun v l q hv=>hv.nilE (h A R W σ s a v Re q tk r ai e)) hv
theorem Hx{f:ah}{G:AS->AV->AV->Option (AV×AS)}(h: ∀A,eI A k-> ∀W σ s a b v w,cv C W σ s.heap->V C W a v->V C W b w->1<=s.toks-> ∀r ai,G σ a b=some (r,ai)->wpAny (dC C) A (call f [v,w]) (rG C W ai r s) dp s):aF C k f (fun args σ=>vC args (G σ)):=
 Jq fun A R W σ s args vs Re hv tk r ai e=>Kt (Q:=fun args=>VL C W args vs->_) e (fun a b e hv=>hv.consE fun v l q hv=>hv.consE fun w l q' hv=>hv.nilE (h A R W σ s a b v w Re q q' tk r ai e)) hv
theorem apa{f:ah}{G:AS->AV->AV->AV->Option (AV×AS)}(h: ∀A,eI A k-> ∀W σ s a b d v w u,cv C W σ s.heap->V C W a v->V C W b w->V C W d u->1<=s.toks-> ∀r ai,G σ a b d=some (r,ai)->wpAny (dC C) A (call f [v,w,u]) (rG C W ai r s) dp s):aF C k f (fun args σ=>WN args (G σ)):=
 Jq fun A R W σ s args vs Re hv tk r ai e=>Zb (Q:=fun args=>VL C W args vs->_) e (fun a b d e hv=>hv.consE fun v l q hv=>hv.consE fun w l q' hv=>hv.consE fun u l q'' hv=>hv.nilE (h A R W σ s a b d v w u Re q q' q'' tk r ai e)) hv
theorem alL{P:Prop}{a:AV}{p:AV×AS}(h:am3 σ a=some p)(k1: ∀s,a= .str s->(bif dv (eR s)then some (AV.int (am (eR s)),σ)else none)=some p->P)(k2:(ob (nC σ a) fun l=>bif dv (eR l)then some (AV.int (am (eR l)),σ)else none)=some p->P):P:=by
 cases a with
 |str s=>exact k1 s rfl h
 |_=>exact k2 h
theorem eH:aF C k (.builtin "len") eO:=r6 fun A R W σ s a v Re q tk r ai e=>alL e (fun x ha e=>kS e fun z e=>by
  rw[ig]at z e
  apply s2 e
  rw[ha]at q
  refine q.strE fun t=>TV (by rw[bK];exact Int.not_le.mpr (aaq z)) ?_
  rw[bK]
  exact Re.same Cf _) fun e=>oE e fun l hl e=>kS e fun z e=>by
  rw[ig]at z e
  apply s2 e
  refine Hh Re hl q fun x ws hw hx=> ?_
  have h3:ws.toArray.size=l.length:=by rw[aZ];exact hw.length
  rcases hx with hx|hx
  ·refine Nt hx (by rw[h3];exact aaq z) ?_
   rw[h3];exact Re.same Cf _
  ·refine Q8 hx (by rw[h3];exact aaq z) ?_
   rw[h3];exact Re.same Cf _
theorem Qu{n:Nat}(z:bt n 100000=true):n<2^20:=eW (c9.mp z) (by decide)
theorem VC:aF C k (.type "range") Sa:=r6 fun A R W σ s a v Re q tk r ai e=>mi (Q:=fun a=>V C W a v->_) e (fun n e q=>q.intE fun t=>kS e fun z e=>by
  apply s2 e
  exact call_range_1 (Re.newIm (.rng 0 n) (eg _ _) (tq _) (bh _ rfl) (fun W' _ e=>⟨_,_,_,_,rfl,e,by decide,Qu z⟩) _)) q
theorem VD:aF C k (.type "range") Sb:=Hx fun A R W σ s a b v w Re q q' tk r ai e=>mi (Q:=fun a=>V C W a v->_) e (fun n e q=>mi (Q:=fun b=>V C W b w->_) e (fun m e q'=>q.intE fun t=>q'.intE fun u=>kS e fun z e=>aE z fun z1 z2=>by
  apply s2 e
  exact call_range_2 (Re.newIm (.rng n m) (eg _ _) (tq _) (bh _ rfl) (fun W' _ e=>⟨_,_,_,_,rfl,e,Qu z1,Qu z2⟩) _)) q') q
theorem vU:aF C k (.type "range") lB:=fun A Rm W σ s args vs R hv tk a ai e=>bE e (fun _ e=>VC A Rm W σ s args vs R hv tk a ai e) fun _ e=>VD A Rm W σ s args vs R hv tk a ai e
theorem alJ{Q:AV->Prop}{a:AV}(h:CC a=true)(kk: ∀l,Q (.tup l)):Q a:=by
 cases a<;>first|exact ff h|exact kk _
theorem ow:aF C k (.type "tuple") eZ:=r6 fun A R W σ s a v Re q tk r ai e=>bE e (fun z e=>s2 (P:=fun r ai=>wpAny (dC C) A (call (.type "tuple") [v]) (rG C W ai r s) dp s) e (alJ (Q:=fun a=>V C W a v->wpAny (dC C) A (call (.type "tuple") [v]) (rG C W σ a s) dp s) z (fun l q=>by
  exact V.tupE (Q:=fun v=>V C W (.tup l) v->wpAny (dC C) A (call (.type "tuple") [v]) (rG C W σ (.tup l) s) dp s) q (fun x n ws h1 h2 q'=>call_tuple_same (items:=ws.toArray) ⟨_,Re.im _ _ h1,rfl,n,rfl⟩ (Re.same q' _)) q) q)) fun _ e=>oE e fun l hl e=>kS e fun z e=>by
  apply s2 e
  refine nk Re hl q fun x n ws hx hw=> ?_
  refine call_tuple_list (lM hx) (fun h' hk=> ?_) (by rw[aZ,hw.length];exact iV z)
  refine Re.newIm (s:=s) (.tup l) (h':=h'.push {cls:=.type "tuple",data:=.seq ws.toArray}) (o:=ti ws 0) (fun b o e=>eg _ _ _ _ (hk b o e)) (by
    cases e:s.heap.get? h'.objs.size with
    |none=>rfl
    |some o=>exact absurd (cp (hk _ _ e)) (zF _)) (bh _ rfl) (fun W' le e=>⟨_,0,ws,rfl,e,hw.mono le⟩) _
theorem aaH:aF C k (.type "list") abf:=r6 fun A R W σ s a v Re q tk r ai e=>oE e fun l hl e=>kS e fun z e=>by
  apply s2 e
  refine Hi Re hl q fun x n ws hw hx=> ?_
  have h2:ws.toArray.size<=sizeLine:=by rw[aZ,hw.length];exact iV z
  rcases hx with hx|hx
  ·exact MB x (.inl rfl) hx rfl rfl (fun h' c' hk ho=>Re.newLst hk (tq _) ho hw _) h2
  ·exact MB x (.inr rfl) hx rfl rfl (fun h' c' hk ho=>Re.newLst hk (tq _) ho hw _) h2
theorem ak5{i:Int}:(if i<0 then-i else i)=am i.natAbs:=by
 cases i with
 |ofNat n=>exact if_neg (sK.mpr (dh n))
 |negSucc n=>exact if_pos (pM n)
theorem Tw:aF C k (.builtin "abs") YT:=r6 fun A R W σ s a v Re q tk r ai e=>lj (Q:=fun a=>V C W a v->_) e (fun i e q=>q.intE fun t=>by
  apply s2 e
  refine call_abs_int fun u tk=> ?_
  rw[ak5];exact Re.same Cf _) q
theorem ak9{n:Nat}(z:bt n 0xD800=true):(decide ((n:Int)<0)||decide ((n:Int)>1114111))=false:=by
 have:=c9.mp z
 rw[decide_eq_false (by omega),decide_eq_false (by omega)];rfl
theorem Tx:aF C k (.builtin "chr") YU:=r6 fun A R W σ s a v Re q tk r ai e=>mi (Q:=fun a=>V C W a v->_) e (fun n e q=>q.intE fun t=>kS e fun z e=>by
  apply s2 e
  exact PySem.P.chr_of_int (ak9 z) (Re.same (GW (l:=[n])) _)) q
@[elab_as_elim] theorem WP {β:Type} {Q:AV->Prop} {a:AV} {f:Nat->Option β} {r:β} (h:UC a f=some r) (kk: ∀c,f c=some r->Q (.str [c])):Q a:=fO h fun s h=>by
 cases s with
 |nil=>exact nn h
 |cons c l=>cases l with
  |nil=>exact kk c h
  |cons=>exact nn h
@[elab_as_elim] theorem O1 {β:Type} {Q:AV->Prop} {a:AV} {f:Nat->List Nat->Option β} {r:β} (h:Nz a f=some r) (kk: ∀c l,f c l=some r->Q (.str (c::l))):Q a:=fO h fun s h=>by
 cases s with
 |nil=>exact nn h
 |cons c l=>exact kk c l h
theorem Tz:aF C k (.builtin "ord") YV:=r6 fun A R W σ s a v Re q tk r ai e=>WP (Q:=fun a=>V C W a v->_) e (fun i e q=>q.strE fun t=>by
  apply s2 e
  exact PySem.P.ord_of_char (Re.same Cf _)) q
theorem alW{i j:Int}{t u:Tok}:(if j<i then Bk j u else .int i t)= .int (bif CJ j i then j else i) (if j<i then u else t):=by
 rw[xN]
 by_cases q:j<i
 ·rw[if_pos q,if_pos q,decide_eq_true q];rfl
 ·rw[if_neg q,if_neg q,decide_eq_false q];rfl
theorem aez:aF C k (.builtin "min") Ue:=Hx fun A R W σ s a b v w Re q q' tk r ai e=>lj (Q:=fun a=>V C W a v->_) e (fun i e q=>lj (Q:=fun b=>V C W b w->_) e (fun j e q'=>q.intE fun t=>q'.intE fun u=>by
  apply s2 e
  refine min_two_ints R.handled fun h' tk hk=> ?_
  rw[alW];exact Re.grown Cf hk _) q') q
theorem Vz:aF C k (.builtin "list.append") gk:=Hx fun A R W σ s a b v w Re q q' tk r ai e=>ir (Q:=fun a=>V C W a v->_) e (fun x e q=>lstE e fun l hg e=>kS e fun z e=>by
  apply s2 e
  refine Re.lstE hg q fun p us n q1 q0 q2 r=> ?_
  refine uY (items:=us.toArray) ⟨n,q2⟩ (fun h' hp hs=> ?_) (by rw[aZ,r.length];exact iV z)
  obtain⟨n',hg'⟩:=hp
  rw[EO]at hg'
  exact⟨⟨h',s.toks,rfl⟩,W,.refl _,Re.set (c:=.lst _) hg q1 (fun b o hb e=>hs.extBut b o (q0▸hb) e) ⟨q0,_,_,q0▸hg',r.append (VL.one q')⟩,rfl⟩) q
end
end
end
section
open PySem.SeqAt
noncomputable section
section
variable{k:Nat}{C:PC}{W:Wd}{σ:AS}{s:az}{h':bJ}
theorem TL{h:bJ}{l:aC}{vs ws:List ah}{n:Nat}{f:Array ah->Array ah}(hl:h.get? l=some (dw vs n))(hf:f vs.toArray=ws.toArray): ∃n',(h.update l (HV f)).get? l=some (dw ws n'):=by
 have q:=YR (h:=h) (l:=l) (items:=vs.toArray) (n:=n) hl f
 rw[hf]at q
 exact⟨_,q⟩
theorem VL.last{l:aa}{us:List ah}{y:AV}(q:VL C W l us)(h:l.getLast?=some y): ∃v,us=us.dropLast++[v]/\V C W y v/\VL C W l.dropLast us.dropLast:=by
 have hne:l≠[]:=by rintro rfl;cases h
 have hl:0<l.length:=List.length_pos_iff.mpr hne
 rw[sN]at h
 obtain⟨v,e,q'⟩:=q.get h
 have hu:=q.length
 refine⟨v,?_,q',?_⟩
 ·have hne':us≠[]:=by rintro rfl;simp at hu;omega
  have e2:us.getLast hne'=v:=by
   have:us.getLast?=some v:=by rw[sN,hu];exact e
   rw[List.getLast?_eq_some_getLast hne']at this;exact aH this
  rw[<- e2];exact(List.dropLast_concat_getLast hne').symm
 ·rw[wT,wT,hu];exact q.take _
theorem air{A:bX}{x:aC}{us:List ah}{v:ah}{n:Nat}{Q:ah->az->Prop}(e1:us=us.dropLast++[v])(g:s.heap.get? x=some (dw us n))(hz:us.length<=sizeLine)
  (h: ∀h' n',h'.get? x=some (dw us.dropLast n')->iY x s.heap h'->Q v {s with heap:=h'}):wpAny (dC C) A (call (.builtin "list.pop") [.ref x]) Q dp s:=by
 have hk:us.toArray.size-1=us.dropLast.length:=by rw[aZ,List.length_dropLast]
 have hy':us.toArray[us.toArray.size-1]? =some v:=by
  rw[hk]
  have:us[us.dropLast.length]? =some v:=(congrArg (fun z:List ah=>z[us.dropLast.length]?) e1).trans (by rw[List.getElem?_concat_length])
  rw[jP];exact this
 obtain⟨n',hg'⟩:=TL (ws:=us.dropLast) (f:=fun x=>x.eraseIdxIfInBounds (us.toArray.size-1)) g (by
  show us.toArray.eraseIdxIfInBounds (us.toArray.size-1)=us.dropLast.toArray
  rw[hk]
  have key:(us.dropLast++[v]).toArray.eraseIdxIfInBounds us.dropLast.length=us.dropLast.toArray:=by rw[kl_erase,aR]
  exact(congrArg (fun z:List ah=>z.toArray.eraseIdxIfInBounds us.dropLast.length) e1).trans key)
 exact l8 PySem.F.slot_list_pop ⟨_,g,rfl⟩ PySem.F.entry_list_pop (PySem.F.args_list_pop_1 _) (J3 x _ n v hy' (by rw[aZ];exact hz)) ⟨g,h _ _ hg' (je ..)⟩
theorem aeA:aF C k (.builtin "list.pop") YW:=r6 fun A R W σ s a v Re q tk r ai e=>ir (Q:=fun a=>V C W a v->_) e (fun x e q=>lstE e fun l hg e=>oE e fun y hy e=>kS e fun z e=>by
  apply s2 e
  refine Re.lstE hg q fun p us n q1 q0 q2 r=> ?_
  obtain⟨v,e1,h1,h2⟩:=r.last hy
  exact air e1 q2 (by rw[r.length];exact iV z) fun h' n' hg' hs=>⟨⟨_,_,rfl⟩,W,.refl _,Re.set (c:=.lst _) hg q1 (fun b o hb e=>hs.extBut b o (q0▸hb) e) ⟨q0,_,_,q0▸hg',h2⟩,h1⟩) q
theorem Xf{A:bX}{E:ah->az->Prop}{x y:aC}{us ws:List ah}{n n2:Nat}{Q:ah->az->Prop}(hx:s.heap.get? x=some (dw us n))(hy:s.heap.get? y=some (dw ws n2))(hz:us.length+ws.length<=4000000)
  (h: ∀h' n',h'.get? x=some (dw (us++ws) n')->iY x s.heap h'->Q .none {s with heap:=h'}):wpAny (dC C) A (call (.builtin "list.extend") [.ref x,.ref y]) Q E s:=by
 obtain⟨n',hg'⟩:=TL (ws:=us++ws) (f:=fun x=>x++ws.toArray) hx (by simp)
 refine l8 PySem.F.slot_list_extend ⟨_,hx,rfl⟩ PySem.F.entry_list_extend (PySem.F.args_list_extend_2 _ _) (A6 x us.toArray n y ws.toArray n2 ?_ ?_ ?_) ⟨hx,hy,h _ _ hg' (je ..)⟩
 ·unfold iX
  simp only[aZ,jA]
  have: ¬us.length+ws.length>16777216:=by omega
  simp[this]
 ·rw[aZ,jA];omega
 ·rw[aZ,aZ,jA];omega
theorem Xg(Re:cv C W σ s.heap){x:Nat}{l m:aa}{p:aC×aC}{us ws:List ah}{h':bJ}{n':Nat}(h1:σ.get x=some (.lst l))(q1:W.ρ x=some p)(q0:p.1=p.2)(r:VL C W l us)(r2:VL C W m ws)(hg':h'.get? p.1=some (dw (us++ws) n'))(hs:iY p.1 s.heap h'):
  rG C W (σ.set x (.lst (l++m))) .none s .none {s with heap:=h'}:=⟨⟨h',s.toks,rfl⟩,W,.refl _,Re.set (c:=.lst _) h1 q1 (fun b o hb e=>hs.extBut b o (q0▸hb) e) ⟨q0,_,_,q0▸hg',r.append r2⟩,rfl⟩
theorem alg{x:Nat}{b:AV}{m:aa}{Q:AV->Prop}(e:agZ σ x b=some m)(k1: ∀y,σ.get y=some (.lst m)->Q (.ref y))(k2:Q (.lst m)):Q b:=by
 cases b with
 |ref y=>exact kN e fun _ e=>lstE e fun l hg e=>by cases e;exact k1 y hg
 |lst l=>cases e;exact k2
 |_=>exact nn e
theorem VA:aF C k (.builtin "list.extend") fU:=Hx fun A R W σ s a b v w Re q q' tk r ai e=>ir (Q:=fun a=>V C W a v->_) e (fun x e q=>oE e fun m hm e=>lstE e fun l h1 e=>kS e fun z e=>by
  apply s2 e
  refine Re.lstE h1 q fun p us n q1 q0 g r=> ?_
  have hz: ∀{ws:List ah},VL C W m ws->us.length+ws.length<=4000000:=fun r2=>by rw[r.length,r2.length];exact jL z
  exact alg (Q:=fun b=>V C W b w->_) hm (fun y h2 q'=>Re.lstE h2 q' fun p2 ws n2 _ _ g2 r2=>Xf g g2 (hz r2) fun h' n' hg' hs=>Xg Re h1 q1 q0 r r2 hg' hs)
   (fun q'=>q'.lstE fun y n2 ws g2 r2=>Xf g (Re.im _ _ g2) (hz r2) fun h' n' hg' hs=>Xg Re h1 q1 q0 r r2 hg' hs) q') q
theorem W8: ∀n:Fin 1000,(lA (toString (am n.val))).cps.toList=Pk n.val:=by decide +kernel
theorem aaR{n:Nat}(hn:n<1000):(am n).natAbs.log2 <1920:=by
 by_cases q:n=0
 ·subst q;decide
 ·exact(Fi q).mpr (show n<2^1920 from eW hn (au (show 1000<=2^10 by decide) (iO (by decide) (by decide))))
theorem Yx{n:Nat}(hn:n<1000):lA (toString (am n))=aP (Pk n):=congrArg (fun l:List Nat=>(⟨l.toArray⟩:Str)) (W8 ⟨n,hn⟩)
theorem K4:aF C k (.type "str") Uf:=r6 fun A R W σ s a v Re q tk r ai e=>mi (Q:=fun a=>V C W a v->_) e (fun n e q=>q.intE fun t=>kS e fun z e=>by
  apply s2 e
  refine PySem.P.str_of_int (aaR (c9.mp z)) ?_
  rw[Yx (c9.mp z)]
  exact Re.same GW _) q
theorem RE{n:Nat}{ns:List Int}{l:List UInt8}(h3:byteArr ns=l.toArray):byteArr (am n::ns)=(Rb n::l).toArray:=by
 have h3:ns.map (fun n=>n.toNat.toUInt8)=l:=congrArg NT h3
 rw[<- h3];rfl
theorem XY{l:aa}: ∀{b:List UInt8},aao l=some b-> ∀{vs:List ah},VL C W l vs->(∃ns:List Int,IntsAre vs ns/\(∀n∈ns,0<=n/\n<256)/\byteArr ns=b.toArray)/\b.length=l.length:=by
 induction l with
 |nil=>exact fun e vs q=>s1 (P:=fun b=>(∃ns:List Int,IntsAre vs ns/\(∀n∈ns,0<=n/\n<256)/\byteArr ns=b.toArray)/\b.length=0) e (q.nilE ⟨⟨[],.nil,fun _ h=>absurd h bc,rfl⟩,rfl⟩)
 |cons a r ih=>exact fun{b} e vs q=>q.consE fun v us q1 q2=>mi (Q:=fun a=>V C W a v->_) e (fun n e q1=>kS e fun z e=>oE e fun l hl e=>q1.intE fun t=>by
   apply s1 e
   obtain⟨⟨ns,h1,h2,h3⟩,h4⟩:=ih hl q2
   refine⟨⟨am n::ns,.cons _ _ h1,fun m hm=>(aG.mp hm).elim (fun e=>e▸⟨dh n,hU.mpr (c9.mp z)⟩) (h2 m),RE h3⟩,congrArg nM h4⟩) q1
theorem Yk:aF C k (.type "bytes") V9:=r6 fun A R W σ s a v Re q tk r ai e=>oE e fun l hl e=>oE e fun b hb e=>kS e fun z e=>by
  apply s2 e
  refine nk Re hl q fun x n ws hx hw=> ?_
  obtain⟨⟨ns,h1,h2,h3⟩,h5⟩:=XY hb hw
  refine call_bytes_ints (lM hx) h1 h2 (by rw[hw.length,<- h5];exact iV z) R.handled fun h' t kk hk=> ?_
  rw[h3]
  exact Re.grown (show V C W (.bytes b) (.bytes b.toArray t) from⟨t,rfl⟩) hk _
end
end
end
section
open PySem.SeqAt
noncomputable section
section
variable{k:Nat}{C:PC}{W:Wd}{σ:AS}{s:az}{h':bJ}
noncomputable def zx(sep:ac):List (List Nat)->List Nat
 |[]=>[]
 |b::r=>sep++b++zx sep r
theorem IV(sep:ac): ∀(a:ac) (r:List (List Nat)),lm sep (a::r)=a++zx sep r
 |a,[]=>by simp[lm,zx]
 |a,b::r=>by
  rw[lm,IV sep b r,zx]
  ·simp
  ·simp
theorem PD(sep:ac): ∀(r:List (List Nat)) (acc:ac),(r.map aP).foldl (fun acc p=>acc++(aP sep).cps++p.cps) acc.toArray=(acc++zx sep r).toArray
 |[],acc=>by simp[zx]
 |b::r,acc=>by
  rw[bd,HM]
  have:acc.toArray++(aP sep).cps++(aP b).cps=(acc++sep++b).toArray:=by simp[aP]
  rw[this,PD sep r,zx]
  simp
theorem El(sep:ac)(l:List (List Nat)):N6 (aP sep) (l.map aP)=aP (lm sep l):=by
 unfold N6 YM
 cases l with
 |nil=>rfl
 |cons a r=>
  rw[IV]
  show(⟨(r.map aP).foldl _ (aP a).cps⟩:Str)=_
  have:=PD sep r a
  unfold aP at this ⊢
  rw[this]
theorem QB: ∀(ss:List (List Nat)) (ts:List Tok),ts.length=ss.length->R7 ((ss.zip ts).map fun p=>.str (aP p.1) p.2) (ss.map aP)
 |[],_,_=>.nil
 |a::ss,t::ts,h=>.cons _ _ (QB ss ts (by simpa using h))
 |_::_,[],h=>by simp at h
theorem S0(sep:ac): ∀l:List (List Nat),((l.map aP).map (·.length)).sum <=(lm sep l).length
 |[]=>by simp
 |[a]=>by simp[lm,bK]
 |a::b::r=>by
  have:=S0 sep (b::r)
  rw[lm]
  ·simp only[bd,List.sum_cons,ao,bK]at this ⊢;omega
  ·simp
end
end
end
section
open PySem.SeqAt
open Builtin Builtin.Str
noncomputable section
theorem ad0:typeLookup (.type "dict_keyiterator") "__len__"=pure none:=by rw[H3,wZ];kernel_rfl
theorem ahy:typeLookup (.type "dict_keyiterator") "__length_hint__"=pure (some (.builtin "dict_keyiterator.__length_hint__")):=by rw[H3,wZ];kernel_rfl
section
variable{prog:fT}{w:dH}{A:bX}{E:ah->az->Prop}{s:az}{I:aC}{fp wr:List aC}{G:Array yz->Array yz->Prop}{n:Nat}{P:Nat->ah->Prop}{St:Nat->az->Prop}
theorem RG{Q:List ah->az->Prop}(W:WalksS prog w A.in1 I fp wr G n P St)(hT: ∀i s,St i s->s.TypeIs (.ref I) "dict_keyiterator")(hst:St 0 s)(hfp: ∀b∈fp,b<s.heap.objs.size)(hI:I∈fp)
  (hQ: ∀s' acc,Moved wr G s s'->ItemsOf P acc n->Q acc.toList s')(hn:n<=sizeLine):wpAny (model prog w) A (collect (.ref I)) Q E s:=by
 have hSf:s.heap.objs.size∉fp:=fun hm=>zF _ (hfp _ hm)
 have hSI:s.heap.objs.size≠I:=fun e=>hSf (e▸hI)
 unfold collect
 refine aq (wpAny_runValue (HY F.entry_proto_collect ?_))
 rw[yw F.plain_proto_collect _]
 show wpAny _ A.in1 (newList []>>=fun l=>again (.builtin "list.__iadd__" ⟨[l,.ref I],[]⟩)) _ _ s
 refine aq (gJ ?_)
 refine aL ⟨MC EH _,HY F.entry_list_iadd ?_⟩
 rw[yw EH _]
 have Em:=W.frame 0 s (s.heap.push {cls:=.type "list",data:=.seq ([]:List ah).toArray}) s.toks hst (ax _) fun b _ o e=>bC _ e
 have an3:(s.heap.push {cls:=.type "list",data:=.seq ([]:List ah).toArray}).get? s.heap.objs.size=some {cls:=.type "list",data:=.seq ([]:List ah).toArray}:=bh _ rfl
 have h1:tt (.ref s.heap.objs.size) (.ref I)=false:=by simp[tt,hSI]
 show wpAny _ A.in1 (qN (.ref s.heap.objs.size) (.ref I) (.ref s.heap.objs.size)) _ _ _
 unfold qN
 refine aq (Oa (hT 0 _ Em) ?_)
 rw[if_neg (by rw[h1];decide)]
 refine aq (W.self 0 _ _ _ Em ?_)
 refine aq (dD ?_)
 unfold Ln
 refine aq (H5 (hT 0 _ Em) ad0 ?_)
 show wpAny _ A.in1 (specialOf (n9 I) (lA "__length_hint__")>>=_) _ _ _
 refine aq (H5 (hT 0 _ Em) ahy ?_)
 generalize hid:("dict_keyiterator.__length_hint__":String)=id0
 wp_delta
 rw[show splitId id0=some ("dict_keyiterator","__length_hint__") from by subst hid;decide +kernel]
 subst hid
 refine aq (wpAny_isInstance (b:=true) (hT 0 _ Em) (by rw[isSubtype_type];kernel_rfl) ?_)
 refine aL ?_
 rw[if_neg (by decide)]
 refine aL ⟨MC F.plain_extend_loop _,codeAny_extend_loopS W hn _ hSf _ n 0 _ _ _ rfl (aU _) Em an3 (ItemsOf.nil P) fun s' acc' c' hm hS' hacc=> ?_⟩
 show wpAny _ A (load s.heap.objs.size>>=_) _ _ s'
 refine aq (wpAny_load hS' ?_)
 exact aL (hQ s' acc' (Moved.drop_new (o:={cls:=.type "list",data:=.seq ([]:List ah).toArray}) (tk:=s.toks) hm (ax _)) hacc)
end
section
variable{k:Nat}{C:PC}{W:Wd}{σ:AS}{s:az}{h':bJ}{A:bX}{E:ah->az->Prop}
theorem akX{ks:List Str}: ∀{vs:List ah} {j:Nat} {a:Str} {y:ah},(ks.zip vs)[j]? =some (a,y)->ks[j]?.getD V4=a:=by
 induction ks with
 |nil=>exact fun{vs j a y} h=>by cases h
 |cons b ks ih=>
  intro vs j a y h
  cases vs with
  |nil=>cases h
  |cons v vs=>cases j with
   |zero=>cases h;rfl
   |succ j=>exact ih (vs:=vs) (j:=j) h
theorem aaS{L:List ah}: ∀{ks:List Str},(∀(j:Nat) v,L[j]? =some v-> ∃t,v= .str (ks[j]?.getD V4) t)->L.length=ks.length-> ∃l:List (Str×Tok),strValues l=L/\l.map (·.1)=ks:=by
 induction L with
 |nil=>
  intro ks _ hlen
  cases ks with
  |nil=>exact⟨[],rfl,rfl⟩
  |cons=>cases hlen
 |cons v L ih=>
  intro ks each hlen
  cases ks with
  |nil=>cases hlen
  |cons kk ks=>
   obtain⟨t,ht⟩:=each 0 v rfl
   obtain⟨l,h1,h2⟩:=ih (ks:=ks) (fun j v e=>each (j+1) v e) (jS hlen)
   exact⟨(kk,t)::l,by rw[<- h1,ht];rfl,by rw[<- h2];rfl⟩
theorem Z9{x:Str}{t:Tok}{d:aC}{ks:List Str}{vs:List ah}{ep:Nat}{Q:ah->az->Prop}(hh:A.handled=none)(h0:(d==sysModules)=false)(hl:ks.length=vs.length)(hd:s.heap.DictAt (ry C.prog C.w) d (ks.zip vs) ep)(hN:ks.length<=sizeLine)
  (hok:JoinOk x ks=true)(h: ∀h' t' tk,(∀b o,s.heap.get? b=some o->h'.get? b=some o)->Q (.str (N6 x ks) t') {s with heap:=h',toks:=tk}):wpAny (dC C) A (call (.builtin "str.join") [.str x t,.ref d]) Q E s:=by
 have hT:s.TypeIs (.ref d) "dict":=hd.dictOf.typeIs
 refine oN (oM vc.plain F.entry_str_join (vc.check _ _ _ _ _ _ _ _ (l9 _ _ _) (F.args_str_join_2 _ _) ?_))
 rw[join_tree_other]
 refine aq (Oa hT ?_)
 show wpAny _ A.in1 ((pyIter (.ref d)).tryCatch _>>=fun it=>collect it>>=fun items=>joinTail x items) _ _ s
 have hz:(ks.zip vs).length=ks.length:=by simp[hl]
 have ne:d≠s.heap.objs.size:=by obtain⟨o,es,ho,_⟩:=hd;exact cj (cp ho)
 refine aq (wpAny_tryCatch (E5 h0 hd ?_))
 have W:=(J4 (A:=A.in1.in1) (knd:=ry C.prog C.w) hh s.heap.objs.size d ne (ks.zip vs) ep).toS
 refine aq (RG W (fun _ _ st=>let⟨o,ho,hc,_⟩:=st.1;⟨o,ho,hc⟩) ⟨⟨_,bh _ rfl,rfl,rfl⟩,hd.at' fun o e=>eg _ _ _ _ e⟩ (fun b hb=> ?_) (by simp) (fun s' acc hm hacc=> ?_) (by rw[hz];exact hN))
 ·rw[pW]
  simp at hb
  rcases hb with rfl|rfl
  ·exact bO _
  ·obtain⟨o,es,ho,_⟩:=hd;exact cK (cp ho)
 ·obtain⟨ha,hv⟩:=hacc
  have key: ∃l:List (Str×Tok),strValues l=acc.toList/\l.map (·.1)=ks:=aaS (fun j v e=>by
    obtain⟨kk,y,e1,e2⟩:=hv j v (by rw[<- Array.getElem?_toList];exact e)
    obtain⟨t,rfl⟩:=Mine.strKind_is e2
    exact⟨t,congrArg (gg · t) (akX e1).symm⟩) (by rw[Array.length_toList,ha,hz])
  obtain⟨l,hl1,hl2⟩:=key
  rw[<- hl1]
  have hs':s'={s with heap:=s'.heap,toks:=s'.toks}:=by
   obtain⟨h1,g1,d1,t1,o1⟩:=s'
   have a1:=hm.gens
   have a2:=hm.drawn
   have a3:=hm.os
   dsimp only at a1 a2 a3 ⊢
   rw[a2,a3,a1]
  have keep: ∀b o,s.heap.get? b=some o->s'.heap.get? b=some o:=fun b o e=>hm.heap b o (by simp;exact cj (cp e)) (eg _ _ _ _ e)
  have hok':=hok
  rw[<- hl2]at hok'
  unfold JoinOk at hok'
  rw[dY]at hok'
  have g:Gives (joinTail x (strValues l)) (joinMade x l):=by
   have g0:=gives_joinTail x l hok'
   cases l with
   |nil=>exact g0
   |cons p r=>cases r with
    |nil=>exact g0
    |cons q r'=>exact g0
  exact g C.prog C.w A (wants Q E) s' (post_join l ⟨joinFit_length hok',fun t' kk=>by rw[hl2,hs'];exact h _ _ _ keep⟩)
theorem adS{b:AV}{l:List (List Nat)}{P:Prop}(h:ab3 σ b=some l)(k1: ∀fs,b= .dct l fs->P)(k2: ∀m,nC σ b=some m->nK m=some l->P):P:=by
 have k3:ob (nC σ b) nK=some l->P:=fun h=>oE h k2
 clear k2
 cases b with
 |dct ks fs=>exact s1 (P:=fun l=>(∀fs',AV.dct ks fs= .dct l fs'->P)->P) h (fun k1=>k1 fs rfl) k1
 |_=>exact k3 h
theorem Xv{sep:ac}{l:List (List Nat)}(z:dv (eR (lm sep l)+eR l*eR sep+eR l)=true):((l.map aP).map (·.length)).sum +(l.map aP).length *(aP sep).length <=16777216/\l.length<=sizeLine:=by
 rw[ig,ig,ig]at z
 have hz:=jL z
 have hsum:=S0 sep l
 rw[aS,bK,jA]
 generalize l.length*sep.length=q at *
 generalize ((l.map aP).map (·.length)).sum=w at *
 generalize (lm sep l).length=u at *
 exact⟨by omega,by omega⟩
theorem aaG:aF C k (.builtin "str.join") vk:=Hx fun A R W σ s a b v w Re q q' tk r ai e=>fO (Q:=fun a=>V C W a v->_) e (fun sep e q=>q.strE fun t=>oE e fun l hl e=>kS e fun z e=>by
  apply s2 e
  have hok:=Xv z
  refine adS hl (fun fs hb=> ?_) fun m hm hl=> ?_
  ·subst hb
   refine q'.dctE fun x o ws q0 q1 q2 qd=> ?_
   obtain⟨q3,es,ep,qd⟩:=qd
   refine Z9 R.handled q0 (by rw[aS];exact q3) ⟨o,es,Re.im _ _ q1,qd⟩ ?_ (joinOk_of hok.1) fun h' t' tk hk=> ?_
   ·rw[aS];exact hok.2
   ·rw[El];exact Re.grown GW hk _
  ·refine Hh Re hm q' fun x ws hws hx=> ?_
   obtain⟨ts,h1,h2⟩:=OU hl hws
   subst h2
   have hs:=QB l ts h1
   rcases hx with hx|hx
   ·refine Q7 hx hs hok.1 fun t' kk=> ?_
    rw[El];exact Re.same GW _
   ·refine Q3 hx hs hok.1 fun t' kk=> ?_
    rw[El];exact Re.same GW _) q
end
end
end
section
open PySem.SeqAt
open Builtin Builtin.Str
noncomputable section
def H6(s p:ac)(i:Nat):Prop:=i+p.length<=s.length/\subAt (aP s) (aP p) i=true
theorem Cn{s p:ac}{i:Nat}(hi:i<=s.length):H6 s p i↔jW p (s.drop i)=true:=by
 unfold H6
 simp only[tI,gL,bK,beq_iff_eq,Hr]
 constructor
 ·rintro⟨_,h⟩;exact h
 ·intro h
  refine⟨?_,h⟩
  have:=congrArg mZ h
  simp only[kb,gW]at this
  omega
theorem Tk(s p:ac): ∀(l:ac) (j f:Nat),(forIn l ((#[j]:Array Nat),f) (d5 (aP s) (aP p) s.length 1)).run.fst= #[j]
 |[],_,_=>rfl
 |a::l,j,f=>by
  rw[gE]
  unfold d5
  rw[if_neg (by simp)]
  exact Tk s p l j f
theorem Qh(s p:ac): ∀(pre post:ac) (j free:Nat),(∀i∈pre++[j],free<=i)->(∀i∈pre,¬H6 s p i)->H6 s p j->
  (forIn (pre++j::post) ((#[]:Array Nat),free) (d5 (aP s) (aP p) s.length 1)).run.fst= #[j]
 |[],post,j,free,hf,_,hj=>by
  rw[ve,gE]
  unfold d5
  have h1:free<=j:=hf j (by simp)
  have h2:=hj.1
  rw[if_pos ⟨⟨⟨by simp,h1⟩,by rw[bK];exact h2⟩,hj.2⟩]
  exact Tk s p post j _
 |a::pre,post,j,free,hf,hn,hj=>by
  rw[eS,gE]
  unfold d5
  rw[if_neg (by
   rintro⟨⟨_,h1⟩,h2⟩
   rw[bK]at h1
   exact hn a (bb ..) ⟨h1,h2⟩)]
  exact Qh s p pre post j free (fun i hi=>hf i (by rw[eS];exact aQ _ hi)) (fun i hi=>hn i (aQ _ hi)) hj
theorem IK(p:ac): ∀(s:ac) (i j:Nat),Ej p i s=some j-> ∃k,j=i+k/\k<=s.length/\jW p (s.drop k)=true/\ ∀m,m<k->jW p (s.drop m)=false
 |[],i,j,e=>by
  unfold Ej at e
  cases z:jW p []<;>rw[z]at e<;>cases e
  exact⟨0,rfl,ax _,z,fun m hm=>absurd hm (io _)⟩
 |a::s,i,j,e=>by
  unfold Ej at e
  cases z:jW p (a::s)<;>rw[z]at e
  ·obtain⟨k,h1,h2,h3,h4⟩:=IK p s (i+1) j e
   refine⟨k+1,by omega,by simp;exact h2,h3,fun m hm=> ?_⟩
   cases m with
   |zero=>exact z
   |succ m=>exact h4 m (by omega)
  ·cases e
   exact⟨0,rfl,aU _,z,fun m hm=>absurd hm (io _)⟩
theorem aan{s p:ac}{j:Nat}(e:Ej p 0 s=some j):occurrences (aP s) (aP p) 0 (aP s).length 1=[j]:=by
 obtain⟨k,h1,h2,h3,h4⟩:=IK p s 0 j e
 have hk:k=j:=by omega
 subst hk
 rw[wV,bK]
 have hs:iP 0 (s.length+1-0)=iP 0 k++k::iP (k+1) (s.length-k):=by
  have h5:s.length+1-0=k+((s.length-k)+1):=by omega
  rw[h5,<- List.range'_append_1,hV,tB]
 rw[hs,Qh s p _ _ k 0 (fun _ _=>aU _) (fun i hi=> ?_) ((Cn h2).mpr h3)]
 have hi:i<k:=by simpa[EN] using hi
 rw[Cn (by omega),h4 i hi]
 decide
section
variable{k:Nat}{C:PC}
theorem Ym:aF C k (.builtin "str.index") Ib:=Hx fun A R W σ s a b v w Re q q' tk r ai e=>fO (Q:=fun a=>V C W a v->_) e (fun sep e q=>O1 (Q:=fun b=>V C W b w->_) e (fun c p e q'=>oE e fun i hi e=>q.strE fun t=>q'.strE fun u=>by
  apply s2 e
  exact PySem.SC.index (aan hi) (Re.same Cf _)) q') q
end
end
end
section
open PySem.SeqAt
open Builtin Builtin.Str
noncomputable section
noncomputable def pp(c:Nat):Nat->List Nat->List Nat
 |_,[]=>[]
 |i,a::r=>bif aj a c then i::pp c (i+1) r else pp c (i+1) r
theorem aaT{s:ac}{c i a:Nat}{r:ac}(h:s.drop i=a::r):subAt (aP s) (aP [c]) i=aj a c:=by
 rw[tI,gL,bK,gL,h,fV]
 by_cases q:a=c<;>simp[q]
theorem Qg(s:ac)(c lim:Nat): ∀(r:ac) (i:Nat) (found:Array Nat) (free:Nat),s.drop i=r->i<=s.length->free<=i->found.size+r.length<lim->
  (forIn (iP i (r.length+1)) (found,free) (d5 (aP s) (aP [c]) s.length lim)).run.fst.toList=found.toList++pp c i r
 |[],i,found,free,h,hi,hf,hl=>by
  have:s.length<=i:=oH.mp h
  rw[show iP i (([]:List Nat).length +1)=[i] from rfl,gE]
  unfold d5
  rw[if_neg (by
   rintro⟨⟨_,h1⟩,_⟩
   rw[bK]at h1;simp at h1;omega)]
  simp[pp]
 |a::r,i,found,free,h,hi,hf,hl=>by
  have hlt:i<s.length:=by
   rcases oK i s.length with z|z
   ·exact z
   ·rw[g8 z]at h;cases h
  have hr:s.drop (i+1)=r:=by
   have:=congrArg (Bh 1) h
   simpa[pX] using this
  rw[bM,tB,gE]
  unfold pp
  have hs:=aaT (c:=c) h
  cases q:aj a c with
  |true=>
   rw[q]at hs
   unfold d5
   rw[if_pos ⟨⟨⟨by simp at hl ⊢;omega,hf⟩,by rw[bK];simp;omega⟩,hs⟩]
   have ih:=Qg s c lim r (i+1) (found.push i) (i+(aP [c]).length) hr hlt (by rw[bK];simp) (by simp at hl ⊢;omega)
   simp only[af]
   rw[Array.toList_push]at ih
   exact ih.trans (by simp)
  |false=>
   rw[q]at hs
   unfold d5
   rw[if_neg (by rintro⟨_,h2⟩;rw[hs]at h2;cases h2)]
   exact Qg s c lim r (i+1) found free hr hlt (mK hf) (by simp at hl ⊢;omega)
theorem XX(s:ac)(c:Nat):occurrences (aP s) (aP [c]) 0 (aP s).length ((aP s).length +1)=pp c 0 s:=by
 rw[wV,bK]
 have:=Qg s c (s.length+1) s 0 #[] 0 rfl (aU _) (ax _) (by simp)
 simpa using this
theorem acr(s:ac)(a b:Nat):strSub (aP s) a b=aP ((s.take b).drop a):=by
 unfold strSub aP
 congr 1
 apply Gk.mp
 simp[List.drop_take]
theorem vM(s:ac)(c:Nat): ∀(r:ac) (i i0:Nat) (acc:ac),s.drop i=r->i0<=i->i<=s.length->acc.reverse=(s.take i).drop i0->
  ((i0::(pp c i r).map (· +1)).zip (pp c i r++[s.length])).map (fun p=>strSub (aP s) p.1 p.2)=(dm c acc r).map aP
 |[],i,i0,acc,h,h0,hi,ha=>by
  have hl:s.length<=i:=oH.mp h
  have:i=s.length:=vf hi hl
  subst this
  simp only[pp,jQ,ve,bL,List.zip_nil_left,bd,dm]
  rw[acr,ha]
 |a::r,i,i0,acc,h,h0,hi,ha=>by
  have hlt:i<s.length:=by
   rcases oK i s.length with z|z
   ·exact z
   ·rw[g8 z]at h;cases h
  have hr:s.drop (i+1)=r:=by
   have:=congrArg (Bh 1) h
   simpa[pX] using this
  have hai:s[i]? =some a:=by
   have:(s.drop i)[0]? =some a:=by rw[h];rfl
   simpa using this
  unfold pp dm
  cases q:aj a c with
  |true=>
   simp only[af,bd,eS,bL]
   have ih:=vM s c r (i+1) (i+1) [] hr (ax _) hlt (by simp)
   rw[acr,ha]
   exact congrArg _ ih
  |false=>
   simp only[ae]
   refine vM s c r (i+1) i0 (a::acc) hr (mK h0) hlt ?_
   rw[EP,ha,List.take_add_one,hai,List.drop_append_of_le_length (by simp;omega)]
   rfl
end
end
section
open PySem.SeqAt
open Builtin Builtin.Str
noncomputable section
section
variable{k:Nat}{C:PC}{s:az}{A:bX}{E:ah->az->Prop}
theorem aaQ{x y:Str}{t u:Tok}{Q:ah->az->Prop}(hy:(y.length==0)=false)
  (h: ∀(l:List (Str×Tok)) k,l.map (·.1)=Lr x y->Q (.ref s.heap.objs.size) {s with heap:=s.heap.push (dw (strValues l) 0),toks:=k})
  (hsz:x.length+2<=sizeLine):
  wpAny (dC C) A (call (.builtin "str.split") [.str x t,.str y u]) Q E s:=by
 have hn:(partsBetween x (occurrences x y 0 x.length (x.length+1)) y.length).length <=sizeLine:=by
  have e1:=StrLaws.occ_length_le x y 0 x.length (x.length+1)
  rw[length_partsBetween];omega
 cases h1:(decide (x.length<y.length)||decide (gp x<gp y))
 ·cases hf:(occurrences x y 0 x.length (x.length+1)).isEmpty
  ·refine l8 nL (l9 _ _ _) sb (qR _ _) (meets_str_split_sep x y t u h1 hy hf (by omega) hn) ?_
   show wants Q E _ {s with toks:=_,heap:=s.heap.push {cls:=.type "list",data:=.seq (strsFrom s.toks (partsBetween x (occurrences x y 0 x.length (x.length+1)) y.length)).toArray}}
   rw[strsFrom_eq]
   exact h (numbered s.toks _) _ ((numbered_texts _ _).trans ((if_neg (ne_true_of_eq_false h1)).trans (if_neg (ne_true_of_eq_false hf))).symm)
  ·exact l8 nL (l9 _ _ _) sb (qR _ _) (meets_str_split_not_found x y t u h1 hy hf)
    (h [(x,t)] s.toks ((if_neg (ne_true_of_eq_false h1)).trans (if_pos hf)).symm)
 ·exact l8 nL (l9 _ _ _) sb (qR _ _) (meets_str_split_cannot_occur x y t u h1)
   (h [(x,t)] s.toks (if_pos h1).symm)
theorem Dg(c:Nat): ∀(s acc:ac),(∀a∈s,aj a c=false)->dm c acc s=[acc.reverse++s]
 |[],acc,_=>by simp[dm]
 |a::s,acc,h=>by
  unfold dm
  rw[h a (bb ..),ae,Dg c s (a::acc) fun b hb=>h b (aQ _ hb)]
  simp
theorem KT(c:Nat): ∀(s:ac) (i:Nat),pp c i s=[]-> ∀a∈s,aj a c=false
 |[],_,_,a,h=>by cases h
 |b::s,i,e,a,h=>by
  unfold pp at e
  cases q:aj b c with
  |true=>rw[q]at e;cases e
  |false=>
   rw[q]at e
   rcases aG.mp h with rfl|h
   ·exact q
   ·exact KT c s (i+1) e a h
theorem ahM{s:ac}{c:Nat}(h:gp (aP s)<gp (aP [c])): ∀a∈s,aj a c=false:=by
 intro a ha
 cases q:aj a c with
 |false=>rfl
 |true=>
  exfalso
  have:=aD q
  subst this
  unfold gp aP at h
  simp only[List.all_toArray]at h
  by_cases h1:a<256
  ·simp[h1]at h
   split at h<;>(try split at h)<;>omega
  ·by_cases h2:a<65536
   ·have e1:(s.all fun x=>decide (x<256))=false:=by
     rw[se];exact⟨a,ha,by simp[h1]⟩
    simp[h1,h2,e1]at h
    first|omega|(split at h<;>omega)
   ·have e1:(s.all fun x=>decide (x<256))=false:=by
     rw[se];exact⟨a,ha,by simp[h1]⟩
    have e2:(s.all fun x=>decide (x<65536))=false:=by
     rw[se];exact⟨a,ha,by simp[h2]⟩
    simp[h1,h2,e1,e2]at h
theorem aeV(s:ac)(c:Nat):Lr (aP s) (aP [c])=(dm c [] s).map aP:=by
 have no:(∀a∈s,aj a c=false)->[aP s]=(dm c [] s).map aP:=fun h=>by rw[Dg c s [] h];simp
 unfold Lr
 split
 ·rename_i h
  rw[oF,decide_eq_true_iff,decide_eq_true_iff,bK,bK]at h
  rcases h with h|h
  ·have:s=[]:=List.eq_nil_of_length_eq_zero (by simp at h;simp[h])
   subst this;exact no fun a ha=>by cases ha
  ·exact no (ahM h)
 ·rw[XX]
  split
  ·rename_i h
   exact no (KT c s 0 (ek.mp h))
  ·have:=vM s c s 0 0 [] rfl (ax _) (aU _) (by simp)
   rw[<- this]
   unfold partsBetween
   rw[bK,bK]
   rfl
theorem LK{W:Wd}: ∀{ss:List (List Nat)} {l:List (Str×Tok)},l.map (·.1)=ss.map aP->VL C W (ss.map .str) (strValues l)
 |[],[],_=>VL.nil
 |a::ss,(x,t)::l,h=>by
  simp only[bd,vd]at h
  exact⟨.str x t,strValues l,rfl,⟨t,by rw[h.1]⟩,LK h.2⟩
 |[],_::_,h=>by simp at h
 |_::_,[],h=>by simp at h
theorem Yq:aF C k (.builtin "str.split") kC:=Hx fun A R W σ s a b v w Re q q' tk r ai e=>fO (Q:=fun a=>V C W a v->_) e (fun x e q=>WP (Q:=fun b=>V C W b w->_) e (fun c e q'=>kS e fun z e=>q.strE fun t=>q'.strE fun u=>by
  apply s2 e
  refine aaQ (by rw[bK];rfl) (fun l tk hl=> ?_) (by have:=jL z;rw[bK,jA];omega)
  rw[aeV]at hl
  exact Re.newLst (eg _ _) (tq _) (bh _ rfl) (LK hl) _) q') q
end
end
end
section
open PySem.SeqAt
open Builtin Builtin.Str
noncomputable section
section
variable{k:Nat}{C:PC}
theorem EB{x:Str}{id:String}{F:aW}(slot:Slot "str" x id)(ty:typeOf (.builtin id)=pure (.type "method_descriptor"))(hF:aF C k (.builtin id) F):dX C k x (ii F):=fun W σ h a v F' R hv e=>by
 revert hv
 exact fO (Q:=fun a=>V C W a v->_) e fun i e=>by
  apply s1 e
  exact fun hv=>hv.strE fun t=>⟨.builtin id,fun A s pl E Q hs hq=>GM.of _ (l9 _ _ _) slot ty GM.noRef hq,fh,hF⟩
theorem KY{x:Str}{id:String}{F:aW}(pa:PlainAttrs "list")(slot:Slot "list" x id)(ty:typeOf (.builtin id)=pure (.type "method_descriptor"))(hF:aF C k (.builtin id) F):dX C k x (fN F):=fun W σ h a v F' R hv e=>by
 revert hv
 exact ir (Q:=fun a=>V C W a v->_) e fun y e=>lstE e fun l hg e=>by
  apply s1 e
  intro hv
  refine R.lstE hg hv fun p us n q q0 q2 r=>⟨.builtin id,fun A s pl E Q hs hq=> ?_,fh,hF⟩
  subst hs
  exact getMethod_builtin (⟨_,q2,rfl⟩:s.TypeIs (.ref p.1) "list") pa slot ty (fun a ha=>by cases ha;exact⟨_,q2,rfl⟩) hq
theorem rm:dX C k "split" (ii kC):=EB nL F.type_str_split Yq
theorem qr:dX C k "join" (ii vk):=EB vc F.type_str_join aaG
theorem Md:dX C k "index" (ii Ib):=EB F.slot_str_index F.type_str_index Ym
theorem fA:dX C k "append" (fN gk):=KY sd F.slot_list_append F.type_list_append Vz
theorem th:dX C k "extend" (fN fU):=KY sd F.slot_list_extend F.type_list_extend VA
theorem aeu:dX C k "pop" (fN YW):=KY sd F.slot_list_pop F.type_list_pop aeA
end
end
end
section
open PySem.SeqAt
open PySem.NumText
noncomputable section
section
variable{k:Nat}{C:PC}
theorem FU: ∀(l:ac) (n m:Nat),lN n l=some m->AllDigits l/\l.foldl (fun acc c=>acc*10+(c-48)) n=m
 |[],n,m,e=>by cases e;exact⟨fun c h=>(by cases h),rfl⟩
 |c::r,n,m,e=>by
  unfold lN at e
  cases z:cT 48 c&&cT c 57<;>rw[z]at e
  ·cases e
  ·simp only[cG]at z
   obtain⟨h1,h2⟩:=FU r _ _ e
   refine⟨fun d hd=> ?_,h2⟩
   rcases aG.mp hd with rfl|hd
   ·exact⟨av z.1,av z.2⟩
   ·exact h1 d hd
theorem adK{c n:Nat}{r:ac}(hl:r.length<18)(hn:lN 0 (c::r)=some n):PySem.intText? (aP (c::r))=some (n:Int):=by
 obtain⟨h1,h2⟩:=FU _ _ _ hn
 have:=intText_digits (x:=aP (c::r)) (by rw[gL];exact h1) (by rw[gL];exact List.cons_ne_nil _ _) (by rw[bK,bM];omega)
 rw[gL]at this
 rw[<- h2];exact this
theorem aex:aF C k (.type "int") tO:=r6 fun A R W σ s a v Re q tk r ai e=>O1 (Q:=fun a=>V C W a v->_) e (fun c r e q=>kS e fun z e=>oE e fun n hn e=>q.strE fun t=>by
  apply s2 e
  have hl:=c9.mp z
  exact R6 (adK hl hn) (by rw[bK,bM];omega) (Re.same Cf _)) q
end
end
end
section
open PySem.SeqAt
open Builtin Builtin.Str
noncomputable section
theorem ace(s p:ac)(lim:Nat): ∀(l:ac) (free:Nat),(∀i∈l,¬H6 s p i)->(forIn l ((#[]:Array Nat),free) (d5 (aP s) (aP p) s.length lim)).run.fst= #[]
 |[],_,_=>rfl
 |a::l,free,hn=>by
  rw[gE]
  unfold d5
  rw[if_neg (by
   rintro⟨⟨_,h1⟩,h2⟩
   rw[bK]at h1
   exact hn a (bb ..) ⟨h1,h2⟩)]
  exact ace s p lim l free fun i hi=>hn i (aQ _ hi)
theorem SP(p:ac): ∀(s:ac) (i:Nat),zd p s=false->i<=s.length->jW p (s.drop i)=false
 |[],i,h,hi=>by
  have:i=0:=Q5.mp hi
  subst this;exact h
 |a::s,0,h,_=>by rw[IR]at h;exact(oB.mp h).1
 |a::s,i+1,h,hi=>by
  rw[IR]at h
  exact SP p s i (oB.mp h).2 (m7 hi)
theorem ahF(p s:ac)(i:Nat)(h:PG p s=false)(hi:i<=s.length):jW p (s.drop i)=false:=SP p s i (by rw[<- Xp];exact h) hi
theorem XW{s p:ac}(h:PG p s=false)(lim:Nat):occurrences (aP s) (aP p) 0 (aP s).length lim=[]:=by
 rw[wV,bK,ace s p lim _ 0 fun i hi q=> ?_]
 have hi:i<=s.length:=by
  have:=(EN.mp hi).2;omega
 rw[Cn hi,ahF p s i h hi]at q
 cases q
section
variable{k:Nat}{C:PC}{X:FX}
theorem RO:aF C k (.builtin "str.replace") tP:=apa fun A R W σ s a b d v w u Re q q' q'' tk r ai e=>fO (Q:=fun a=>V C W a v->_) e (fun x e q=>O1 (Q:=fun b=>V C W b w->_) e (fun c p e q'=>fO (Q:=fun d=>V C W d u->_) e (fun y e q''=>kN e fun z e=>q.strE fun t=>q'.strE fun t'=>q''.strE fun t''=>by
  apply s2 e
  have ho:=XW z ((aP x).length +1)
  refine call_gives qS (l9 _ _ _) F.entry_str_replace (F.args_str_replace_3 _ _ _) (gives_str_replace (aP x) _ _ t t' t'' fun h=> ?_) ?_
  ·rw[ho]at h;cases h
  ·rw[ho]
   exact Re.same GW s.toks) q'') q') q
theorem wK:dX C k "replace" (ii tP):=EB qS Bd RO
theorem LZ: ∀l:List (List Nat),lm [] l=l.flatten
 |[]=>rfl
 |[a]=>(aR a).symm
 |a::b::r=>by
  unfold lm
  rw[LZ (b::r),aR];rfl
theorem Dh(c:Nat): ∀(s acc:ac),(dm c acc s).flatten=acc.reverse++Hv c s
 |[],acc=>rfl
 |a::s,acc=>by
  unfold dm Hv
  cases q:aj a c with
  |true=>rw[af,af,mJ,Dh c s []];rfl
  |false=>rw[ae,ae,Dh c s (a::acc),EP,aB];rfl
theorem Vn(s:ac)(c:Nat):partsBetween (aP s) (pp c 0 s) (aP [c]).length=(dm c [] s).map aP:=by
 have:=vM s c s 0 0 [] rfl (ax _) (aU _) (by rw[List.take_zero,List.drop_nil];rfl)
 rw[<- this]
 unfold partsBetween
 rw[bK,bK]
 rfl
theorem X9(s:ac)(c:Nat):Ra (aP s) (aP [c]) (aP [])=aP (Hv c s):=by
 have flat:Hv c s=(dm c [] s).flatten:=(Dh c s []).symm
 unfold Ra
 rw[XX]
 cases ho:(pp c 0 s).isEmpty with
 |true=>
  rw[if_pos (by rfl),flat,Dg c s [] (KT c s 0 (ek.mp ho))]
  exact congrArg aP (aR s).symm
 |false=>
  have h1:(aP [c]).length=1:=bK _
  rw[if_neg (by rw[h1];decide),Vn,flat,<- LZ,<- El]
  rfl
theorem ake{c:Nat}{m:EM}{o:an}{ap p p1 p2:Pos}{j1 j2:Nat}(hb:s0 o=true)(hl:(ap.endLine==p.line)=true)(hm:bZ X k m o):
  bZ X k (un (aja c) m) (.Call (.Attribute o "replace" ap) [.Constant (.str (aP [c])) j1 p1,.Constant (.str (aP [])) j2 p2] [] p):=fun A R W fr σ s T a ai e=>by
 refine fM e fun wb ay e1 e=>oE e fun b e2 e=> ?_
 apply s2 e
 revert e1
 refine fO (Q:=fun wb=>m fr σ=some (wb,ay)->_) (show d8 wb _=some b from e2) fun x e2 e1=>kS e2 fun ok e2=> ?_
 apply s1 e2
 refine Te (es:=[.Constant (.str (aP [c])) j1 p1,.Constant (.str (aP [])) j2 p2]) hb hl (show 2<30 by decide) hm rfl R T e1 fun v bn bf bz br d6=> ?_
 refine d6.strE fun t=> ?_
 refine⟨.builtin "str.replace",fun A s pl E Q hs hq=>GM.of _ (l9 _ _ _) qS Bd GM.noRef hq,?_⟩
 refine Fk (P:=X.C.K.In) rfl fh (wx rfl ?_)
 rw[lU rfl,lU rfl]
 refine Bn (oG (k:=j1) (pos:=p1) (Bn (oG (k:=j2) (pos:=p2) (spliced_nil ⟨br.rel.K,?_⟩))))
 have hp:=br.sm.pos
 refine VS (n:=bn.toks) (au (cM _) (cM _)) ?_
 refine PySem.SC.replace (oL hp) (ke _) (cj (bO _)) ?_ ?_ fun t' k' ht=> ?_
 ·rw[beq_eq_false_iff_ne]
  intro q
  have:=congrArg T8 q
  rw[bK,bK]at this
  cases this
 ·rw[bK,bK]
  show x.length+(x.length+1)*0<=_
  rw[Nat.mul_zero]
  exact au (jL ok) (by decide)
 ·rw[X9]
  exact((br.toks k' ht).post GW).le bz
def xK(a b:ac):Prop:= ¬b<a
theorem Cz(x:ac): ∀l,(KH x l).Perm (x::l)
 |[]=>.refl _
 |y::r=>by
  unfold KH
  cases CK x y with
  |true=>exact .refl _
  |false=>exact((Cz x r).cons y).trans (.swap x y r)
theorem Jr: ∀l,(jM l).Perm l
 |[]=>.refl _
 |x::r=>(Cz x _).trans ((Jr r).cons x)
theorem xK.trans{a b c:ac}(h:xK a b)(h':xK b c):xK a c:=List.le_trans (show a<=b from h) (show b<=c from h')
theorem FM(x:ac): ∀l,l.Pairwise xK->(KH x l).Pairwise xK
 |[],_=>uW ..
 |y::r,h=>by
  unfold KH
  cases q:CK x y with
  |true=>
   have q:x<y:=ag (Ep.symm.trans q)
   have hxy:xK x y:=List.lt_asymm q
   refine jo.mpr ⟨fun z hz=> ?_,h⟩
   rcases aG.mp hz with rfl|hz
   ·exact hxy
   ·exact hxy.trans (k7 h hz)
  |false=>
   have q:xK y x:=of_decide_eq_false (Ep.symm.trans q)
   refine jo.mpr ⟨fun z hz=> ?_,FM x r (jo.mp h).2⟩
   rcases aG.mp ((Cz x r).mem_iff.mp hz)with rfl|hz
   ·exact q
   ·exact k7 h hz
theorem Df: ∀l,(jM l).Pairwise xK
 |[]=>.nil
 |x::r=>FM x _ (Df r)
theorem Jh: ∀(r:List (List Nat)) (p:ac),risingS (aP p) (r.map aP)=true->(p::r).Pairwise xK
 |[],_,_=>uW ..
 |x::r,p,h=>by
  obtain⟨h1,h2⟩:=bu.mp h
  have ih:=Jh r x h2
  have q:xK p x:=by
   rw[ltCps_eq,dY,decide_eq_false_iff_not,gL,gL]at h1
   exact h1
  refine jo.mpr ⟨fun z hz=> ?_,ih⟩
  rcases aG.mp hz with rfl|hz
  ·exact q
  ·exact q.trans (k7 ih hz)
theorem VH: ∀(l:List (List Nat)),sortedS (l.map aP)=true->l.Pairwise xK
 |[],_=>.nil
 |x::r,h=>Jh r x h
theorem aah(l:List Str): ∃m:List (List Nat),l=m.map aP:=⟨l.map fun s=>s.cps.toList,by rw[gF];exact(tz l).symm.trans (fS fun s _=>by obtain⟨⟨l⟩⟩:=s;rfl)⟩
theorem aaP{l:List (List Nat)}{ss':List Str}(hp:ss'.Perm (l.map aP))(hs:sortedS ss'=true):ss'=(jM l).map aP:=by
 obtain⟨m,rfl⟩:=aah ss'
 have hp':m.Perm l:=by
  have:=hp.map fun s=>s.cps.toList
  rw[gF,gF]at this
  have e: ∀k:List (List Nat),k.map ((fun s:Str=>s.cps.toList)∘aP)=k:=fun k=>(fS fun s _=>gL s).trans (tz k)
  rwa[e,e]at this
 refine congrArg _ (NW (le:=xK) (fun a b _ _ h1 h2=>List.le_antisymm (show a<=b from h1) (show b<=a from h2)) (VH m hs) (Df l) (hp'.trans (Jr l).symm))
theorem Yy{W:Wd}: ∀{vs:List ah} {l:List (List Nat)},R7 vs (l.map aP)->VL C W (l.map .str) vs
 |[],[],_=>VL.nil
 |[],_::_,h=>by cases h
 |v::vs,a::l,h=>by
  cases h with
  |cons x t h=>exact⟨_,_,rfl,⟨t,rfl⟩,Yy h⟩
theorem WH{W:Wd}{l:aa}{ss:List (List Nat)}{vs:List ah}(h:nK l=some ss)(hv:VL C W l vs):R7 vs (ss.map aP):=by
 obtain⟨ts,hl,rfl⟩:=OU h hv
 exact QB ss ts hl
theorem VG:aF C k (.builtin "sorted") p9:=r6 fun A R W σ s a v Re q tk r ai e=>oE e fun l hl e=>oE e fun ss hss e=>kS e fun z e=>by
  apply s2 e
  refine nk Re hl q fun x n us hx hu=> ?_
  have hS:=WH hss hu
  have hlen:us.length=ss.length:=hS.length.trans (aS ..)
  refine sorted_strs ⟨_,hx,rfl,n,rfl⟩ hS (by rw[hlen];exact av z) fun out ss' h1 h2 h3=> ?_
  obtain⟨e',he⟩:=sortedAll_at s.heap us out
  have q':=aaP h2 h3
  subst q'
  refine Re.newLst (n:=e') (fun b o hb=>sortedAll_old hb) ?_ (by rw[he]) (Yy h1) s.toks
  cases g:s.heap.get? (s.heap.objs.size+1)with
  |none=>rfl
  |some o=>exact absurd (cp g) (b6.mpr (cM _))
end
end
end
section
open PySem.SeqAt
noncomputable section
structure Kr(C:PC)(k:Nat)(Γ:cC):Prop where
 glb: ∀g x a,pS Γ.glb g=some (x,a)->ni C x a
 fns: ∀f x F,pS Γ.fns f=some (x,F)-> ∃fv kF,ni C x (.glob fv)/\oQ C fv/\aF C kF fv F/\kF<=k
 mts: ∀n x D,pS Γ.mts n=some (x,D)-> ∃kF,dX C kF x D/\kF<=k
def R9(C:PC)(FN:List Str):Prop:= ∀i x,Ah FN i=some x->i<C.nf/\C.fname i=x
def yV(X:FX)(k:Nat)(m:EM)(e:an):Prop:= ∀i y py spos,kg X i y->lG X k (cO [i] m) (.Assign [.Name y py] e spos)
section
variable{X:FX}{k:Nat}{st:SI}{C:PC}
structure Gd(X:FX)(k:Nat)(st:SI)(c:Ck)(d:D):Prop where
 e: ∀x,c.e st x=true->bZ X k d.e x
 u: ∀x,c.e st x=true->yV X k d.e x
 b: ∀x,c.b st x=true->nh X k d.b x
 l: ∀x,c.l st x=true->z0 X k d.l x
 o: ∀op x,c.o st op x=true->kW X k op d.e x
 a: ∀op x,c.a st op x=true->pP X k op d.b x
 p: ∀x,c.p st x=true->Fz X k d.e x
 i: ∀x,c.i st x=true->Nu X k d.b x
theorem Gd.both{e b:SI->an->Bool}{m:EM}{n:BM}(he: ∀x,e st x=true->bZ X k m x)(hu: ∀x,e st x=true->yV X k m x)(hb: ∀x,b st x=true->nh X k n x):Gd X k st (.both e b) ⟨m,n,fun _ _=>none⟩:=
 ⟨he,hu,hb,fun _ h=>ff h,fun op xs h=>pn h fun x h=>kW.one (he x h),fun op xs h=>pn h fun x h=>pP.one (hb x h),fun x h=>aij h fun y h=>Fz.some (he y h),fun xs h=>pn h fun x h=>Mg (hb x h)⟩
theorem X6{e:an}(h:Qi e=true): ∀env w,isTrue e env w=(do let v <- w;standAt e.pos;holding [v] (truthy v)):=by
 cases e<;>first|exact ff h|exact fun _ _=>rfl
theorem Gd.ofE{e:SI->an->Bool}{m:EM}(he: ∀x,e st x=true->bZ X k m x)(hu: ∀x,e st x=true->yV X k m x):Gd X k st (.ofE e) (.ofE m):=
 .both he hu fun x h=>aE h fun h1 h=>aeT (he x h) (X6 h1)
theorem UE(H:gS X st){m:EM}{e:an}(hm:bZ X k m e)(hc:kp e=true):yV X k m e:=fun i y py spos hx=>Yr H.ok H.sto hx hm (tr hc)
theorem Gd.ofE'(H:gS X st){e:SI->an->Bool}{m:EM}(he: ∀x,e st x=true->bZ X k m x/\kp x=true):Gd X k st (.ofE e) (.ofE m):=
 .ofE (fun x h=>(he x h).1) fun x h=>UE H (he x h).1 (he x h).2
theorem Gd.both'(H:gS X st){e b:SI->an->Bool}{m:EM}{n:BM}(he: ∀x,e st x=true->bZ X k m x/\kp x=true)(hb: ∀x,b st x=true->nh X k n x):Gd X k st (.both e b) ⟨m,n,fun _ _=>none⟩:=
 .both (fun x h=>(he x h).1) (fun x h=>UE H (he x h).1 (he x h).2) hb
@[elab_as_elim] theorem abq {Q:List an->Prop} {f:an->Bool} {g:List an->Bool} {es:List an} (h:qg f g es=true) (kk: ∀x y r,f x=true->g (y::r)=true->Q (x::y::r)):Q es:=
 U2 h fun x r h=>aE h fun h1 h=>U2 (Q:=fun r=>Q (x::r)) h fun y r h=>kk x y r h1 h
@[elab_as_elim] theorem X0 {Q:an->Prop} {op:cB} {g:List an->Bool} {x:an} (h:s9 op g x=true) (kk: ∀es p,g es=true->Q (.BoolOp op es p)):Q x:=
 amE h fun o es p h=>aE h fun h1 h=>dE (Q:=fun o=>Q (.BoolOp o es p)) h1 (kk es p h)
theorem acg{P:Prop}{op op':cB}{f:an->Bool}{g:List an->Bool}{xs:List an}(h:aas op op' f g xs=true)(k1: ∀x,xs=[x]->f x=true->P)(k2:op=op'->g xs=true->P):P:=
 rE h (fun h=>pn (Q:=fun xs'=>xs=xs'->P) h (fun x h e=>k1 x e h) rfl) fun h=>aE h fun h1 h=>k2 (ag h1) h
theorem Gd.bool(H:gS X st){op:cB}{a b:Ck}{da db:D}{m:EM}{n:BM}(ga:Gd X k st a da)(gb:Gd X k st b db)(hm: ∀e e' es,bZ X k da.e e->kW X k op db.e (e'::es)->kW X k op m (e::e'::es))
  (hn: ∀e es,nh X k da.b e->pP X k op db.b es->pP X k op n (e::es)):Gd X k st (.bool op a b) ⟨m,n,fun _ _=>none⟩:=
 have c1: ∀es,qg (a.e st) (b.o st op) es=true->kW X k op m es:=fun es h=>abq h fun x y r h1 h2=>hm x y r (ga.e x h1) (gb.o op _ h2)
 have c2: ∀es,qg (a.b st) (b.a st op) es=true->pP X k op n es:=fun es h=>abq h fun x y r h1 h2=>hn x _ (ga.b x h1) (gb.a op _ h2)
 have he: ∀x,s9 op (qg (a.e st) (b.o st op)) x=true->bZ X k m x/\kp x=true:=fun x h=>X0 h fun es p h=>⟨(c1 es h).val,rfl⟩
 have hb: ∀x,s9 op (qg (a.b st) (b.a st op)) x=true->nh X k n x:=fun x h=>X0 h fun es p h=>(c2 es h).test
 ⟨fun x h=>(he x h).1,fun x h=>UE H (he x h).1 (he x h).2,hb,fun _ h=>ff h,fun op' xs h=>acg h (fun x e h=>e▸kW.one (he x h).1) fun e h=>e▸c1 xs h,fun op' xs h=>acg h (fun x e h=>e▸pP.one (hb x h)) fun e h=>e▸c2 xs h,
  fun x h=>aij h fun y h=>Fz.some (he y h).1,fun xs h=>pn h fun x h=>Mg (hb x h)⟩
theorem alu:Gd X k st afK ⟨fun _ _=>none,fun _ _=>none,aJ⟩:=
 ⟨fun _ _ A R W fr σ s T a ai e=>nn e,fun _ _ i y py spos hx A R W fr σ s T a e=>nn e,fun _ _ A R W fr σ s T a ai e=>nn e,fun xs h=>I4 h fun _=>Yt,fun _ _ _ A R W fr σ s T a ai e=>nn e,fun _ _ _ A R W fr σ s T a ai e=>nn e,fun _ _ A R W fr σ s T a ai e=>nn e,fun _ _ A R W fr σ s T a ai e=>nn e⟩
theorem aal{α:Type}{x:Str}{l:List (Str×α)}: ∀{i:Nat},Ah (l.map (·.1)) i=some x-> ∃a,pS l i=some (x,a):=by
 induction l with
 |nil=>intro i h;exact nn h
 |cons p r ih=>
  intro i h
  cases i with
  |zero=>exact s1 (P:=fun x=> ∃a,pS (p::r) 0=some (x,a)) (a:=p.1) h ⟨p.2,rfl⟩
  |succ i=>exact ih h
theorem Qa{α:Type}{l:List (Str×α)}{i:Nat}{x:Str}{P:Prop}(h:NK (l.map (·.1)) i x=true)(kk: ∀a,pS l i=some (x,a)->P):P:=(aal (Hp h)).elim kk
theorem abV(H:gS X st){x:Str}{P:Prop}(h:ZP st x=true)(kk:X.env.kindOf x=some .globalImplicit->(x==("__debug__":Str))=false->P):P:=
 aE h fun h1 h2=>kk ((H.kind x).trans ((KI _ _).symm.trans (beq_iff_eq.mp h1))) (pj h2)
theorem pk{e:an}(h:Et e=true){env:Env}: ∀x,foldedSetIterable e env x=pure x:=by
 cases e<;>first|exact ff h|exact fun _=>rfl
theorem Zt{a:AV}{x:an}(h:Co a x=true):bZ X k (a7 a) x/\kp x=true:=QU h fun c j p h=>by
 refine⟨?_,rfl⟩
 cases a<;>first|exact ff h|skip
 ·exact dE h aeQ
 ·exact dE h aeH
 ·exact dE h akb
 ·exact dE h (akh rfl)
 ·exact dE h aaK
@[elab_as_elim] theorem ab1 {i:Int} {Q:Option an->Prop} {o:Option an} (h:Z2 i o=true) (kk: ∀j p,Q (some (.Constant (.int i) j p))):Q o:=aij h fun e h=>QU (Q:=fun e=>Q (some e)) h fun c j p h=>dE (Q:=fun c=>Q (some (.Constant c j p))) h (kk j p)
@[elab_as_elim] theorem strE {i:ac} {Q:an->Prop} {o:an} (h:Co (.str i) o=true) (kk: ∀j p,Q (.Constant (.str (aP i)) j p)):Q o:=QU h fun c j p h=>dE (Q:=fun c=>Q (.Constant c j p)) h (kk j p)
theorem ZB{k1 k2:Int}{a b:ac}{x:an}(h:af4 k1 k2 a b x=true):bZ X k (bq (Hl [k1,k2]) (aw (a7 (.str a)) (aw (a7 (.str b)) aJ))) x/\kp x=true:=
 acC h fun d e p h=>wN h fun y y' h=>wN h fun v v' h=>aE h fun h1 h=>aE h fun h2 h=>aE h fun h3 h=>aE h fun h4 h=>ab1 h1 fun _ _=>ab1 h2 fun _ _=>strE h3 fun _ _=>strE h4 fun _ _=>
  ⟨aeM (of_decide_eq_false (pj h)) rfl rfl,rfl⟩
end
end
end
section
open PySem.SeqAt
noncomputable section
section
variable{k:Nat}{X:FX}{st:SI}
theorem aeZ(H:gS X st){scope:dT}{xs:ac}{tg:an}{f:List Str->Bool}{P:Prop}(h:YB tg f=true)
  (kk: ∀ts,f ts=true->(oP st scope xs ts-> ∀s L,Tg (X.inner scope (O7 X scope) (st.inner scope xs ts).at_ L s) xs tg)->P):P:=
 rE h (fun h=>pG (Q:=fun t=>t=tg->P) h (fun n p h e=>kk _ h fun K s L=>e▸match xs,K with
  |[i],K=>.name (xJ H K (by rw[bL,fZ]))
  |[],K=>dM K.len
  |_::_::_,K=>dM K.len fun h=>dM h) rfl) fun h=>aa8 (Q:=fun t=>t=tg->P) h (fun l c p h=>wN (Q:=fun l=>.Tuple l c p=tg->P) h fun a b h=>pG (Q:=fun a=>.Tuple [a,b] c p=tg->P) h fun n p1 h=>pG (Q:=fun b=>.Tuple [.Name n p1,b] c p=tg->P) h fun m p2 h e=>
   kk _ h fun K s L=>e▸match xs,K with
  |[i,j],K=>
   have hij:i≠j:=fun e=>(dL.mp K.xnodup).1 (e▸aO.mpr rfl)
   .two rfl (.cons (xJ H K (by rw[bL,fZ])) (.cons (xJ H K (by rw[bL,cz,beq_eq_false_iff_ne.mpr (tm hij),bL,fZ])) .nil)) hij
  |[],K=>dM K.len
  |[_],K=>dM K.len fun h=>dM h
  |_::_::_::_,K=>dM K.len fun h=>dM h fun h=>dM h) rfl
section
variable{a b c l lo hi o i:Ck}{da db dc dl dlo dhi do_ di:D}{FN:List Str}{Γ:cC}
theorem alv:Gd X k st afL ⟨a7 .none,fun _ σ=>some (true,σ),aJ⟩:=
 ⟨fun _ h=>ff h,fun _ h=>ff h,fun _ h=>ff h,fun _ h=>ff h,fun _ _ h=>ff h,fun _ _ h=>ff h,fun x h=>(dA.mp h).symm ▸Fz.none,fun xs h=>(ek.mp h).symm ▸Mf⟩
theorem alA(H:gS X st){i:Nat}:Gd X k st (afS i) (.ofE (al i)):=Gd.ofE' H fun x h=>pG h fun y p h=>⟨uI H.ok (by rw[H.nm];exact Hp h),rfl⟩
theorem ako{l:List (Str×AV)}{i:Nat}{x:Str}{a:AV}(h:pS l i=some (x,a)):a=acs l i:=by unfold acs;rw[h]
theorem akp{l:List (Str×aW)}{i:Nat}{x:Str}{a:aW}(h:pS l i=some (x,a)):a=act l i:=by unfold act;rw[h]
theorem akq{l:List (Str×gM)}{i:Nat}{x:Str}{a:gM}(h:pS l i=some (x,a)):a=acu l i:=by unfold acu;rw[h]
theorem alp(eN:Kr X.C k Γ)(H:gS X st){g:Nat}:Gd X k st (afF Γ.nms g) (.ofE (a7 (acs Γ.glb g))):=Gd.ofE' H fun x h=>pG h fun y p h=>aE h fun h h'=>abV H h fun h1 h2=>Qa h' fun a ha=>
 ⟨ako ha▸Ys H.ok h1 h2 (eN.glb _ _ _ ha),rfl⟩
theorem alm(H:gS X st){op:iy}(ga:Gd X k st a da)(gb:Gd X k st b db):Gd X k st (afC op a b) (.ofE (bi (bU op) da.e db.e)):=Gd.ofE' H fun x h=>apk h fun l o r p h=>aE h fun h0 h=>aE h fun h1 h2=>dE h0 ⟨aj5 (ga.e _ h1) (gb.e _ h2) Zf,rfl⟩
theorem alt(H:gS X st)(ga:Gd X k st a da):Gd X k st (afJ a) (.ofE (un ah4 da.e)):=Gd.ofE' H fun x h=>akV h fun o r p h=>aE h fun h0 h=>dE h0 ⟨akc (ga.e _ h),rfl⟩
theorem alw(H:gS X st)(ga:Gd X k st a da):Gd X k st (afM a) ⟨rO (o8 (jd da.e)),o8 da.b,fun _ _=>none⟩:=Gd.both' H (fun x h=>akV h fun o r p h=>aE h fun h0 h=>dE h0 ⟨akd (ga.e _ h),rfl⟩) fun x h=>akV h fun o r p h=>aE h fun h0 h=>dE h0 (aeR (ga.b _ h))
theorem alr(H:gS X st)(gc:Gd X k st c dc)(ga:Gd X k st a da)(gb:Gd X k st b db):Gd X k st (afH c a b) (.ofE (s7 dc.b da.e db.e)):=Gd.ofE' H fun x h=>aqx h fun t l r p h=>aE h fun h0 h=>aE h fun h1 h2=>⟨aka (gc.b _ h0) (ga.e _ h1) (gb.e _ h2),rfl⟩
@[elab_as_elim] theorem abE {Q:an->Prop} {op:gR} {f g:an->Bool} {x:an} (h:Zp op f g x=true) (kk: ∀l r p,behindInMarks op r=false->f l=true->g r=true->Q (.Compare l [op] [r] p)):Q x:=
 akQ h fun l os rs p h=>pn h fun o h=>pn h fun r h=>aE h fun h0 h=>aE h fun h1 h=>aE h fun h2 h3=>dE (Q:=fun o=>Q (.Compare l [o] [r] p)) h0 (kk l r p (pj h1) h2 h3)
theorem aln(hk:5<=k)(H:gS X st){op:gR}(ga:Gd X k st a da)(gb:Gd X k st b db):Gd X k st (afD op a b) (.ofBool (fi (bV op) da.e db.e)):=
 Gd.both' H (fun x h=>abE h fun l r p h1 h2 h3=>⟨aj6 hk (ga.e _ h2) (gb.e _ h3) h1,rfl⟩) fun x h=>abE h fun l r p h1 h2 h3=>aeK hk (ga.e _ h2) (gb.e _ h3) h1
@[elab_as_elim] theorem W4 {Q:an->Prop} {op op':gR} {f g f':an->Bool} {x:an} (h:UM op op' f g f' x=true) (kk: ∀l r r' p,lastMarks [op,op'] [r,r']=false->f l=true->g r=true->f' r'=true->Q (.Compare l [op,op'] [r,r'] p)):Q x:=
 akQ h fun l os rs p h=>wN h fun o o' h=>wN h fun r r' h=>aE h fun h0 h=>aE h fun h0' h=>aE h fun h1 h=>aE h fun h2 h=>aE h fun h3 h4=>dE (Q:=fun o=>Q (.Compare l [o,o'] [r,r'] p)) h0 (dE (Q:=fun o'=>Q (.Compare l [op,o'] [r,r'] p)) h0' (kk l r r' p (pj h1) h2 h3 h4))
theorem ahc(hk:5<=k)(H:gS X st){op op':gR}(ga:Gd X k st a da)(gb:Gd X k st b db)(gc:Gd X k st c dc):Gd X k st (abv op op' a b c) (.ofBool (O3 op op' da.e db.e dc.e)):=
 Gd.both' H (fun x h=>W4 h fun l r r' p h1 h2 h3 h4=>⟨aeJ hk (ga.e _ h2) (gb.e _ h3) (gc.e _ h4) h1,rfl⟩) fun x h=>W4 h fun l r r' p h1 h2 h3 h4=>aaL hk (ga.e _ h2) (gb.e _ h3) (gc.e _ h4) h1
theorem alk(hF:R9 X.C FN)(H:gS X st){kk:Nat}(ga:Gd X k st a da):Gd X k st (afB FN kk a) (.ofE (un (aA kk) da.e)):=Gd.ofE' H fun x h=>NS h fun o n p h=>aE h fun h0 h=>aE h fun h1 h2=>(hF _ _ (Hp h0)).2▸⟨aj4 (hF _ _ (Hp h0)).1 h1 (ga.e _ h2),rfl⟩
theorem alq(H:gS X st)(ga:Gd X k st a da)(gi:Gd X k st i di):Gd X k st (afG a i) (.ofE (bi fP da.e di.e)):=Gd.ofE' H fun x h=>aa7 h fun o j p h=>aE h fun h0 h=>aE h fun h1 h2=>⟨aj9 (pj h0) (ga.e _ h1) (gi.e _ h2),rfl⟩
theorem aly(H:gS X st)(ga:Gd X k st a da)(gl:Gd X k st lo dlo)(gh:Gd X k st hi dhi):Gd X k st (afQ a lo hi) (.ofE (SH da.e dlo.e dhi.e)):=Gd.ofE' H fun x h=>aa7 h fun o j p h=>akT h fun l u s p' h=>aE h fun h0 h=>aE h fun h1 h=>aE h fun h2 h3=>dE h0 ⟨akg (ga.e _ h1) (gl.p _ h2) (gh.p _ h3),rfl⟩
theorem als(H:gS X st)(gl:Gd X k st l dl):Gd X k st (afI l) (.ofE (bq cX dl.l)):=Gd.ofE' H fun x h=>amF h fun es p h=>⟨aeO (gl.l _ h),rfl⟩
theorem alz(H:gS X st)(gl:Gd X k st l dl):Gd X k st (afR l) (.ofE (bq fX dl.l)):=Gd.ofE' H fun x h=>aa8 h fun es j p h=>⟨aki (gl.l _ h),rfl⟩
theorem alo(H:gS X st):Gd X k st afE (.ofE FH):=Gd.ofE' H fun x h=>acC h fun d e p h=>I4 h fun h=>I4 h fun _=>⟨aj7,rfl⟩
theorem alx(H:gS X st){n:Nat}(ga:Gd X k st a da):Gd X k st (afN n a) (.ofE (un (aja n) da.e)):=Gd.ofE' H fun x h=>VU h fun f es ks p h=>NS h fun o m ap h=>wN h fun v v' h=>aE h fun h0 h=>aE h fun h1 h=>aE h fun h2 h=>I4 h fun h=>aE h fun h3 h=>aE h fun h4 h=>
 strE h3 fun _ _=>strE h4 fun _ _=>dE h0 ⟨ake h1 (beq_iff_eq.mpr (ag h2)) (ga.e _ h),rfl⟩
theorem ahb(eN:Kr X.C k Γ)(H:gS X st){f:Nat}(gl:Gd X k st l dl):Gd X k st (abu Γ.nms f l) (.ofE (bq (act Γ.fns f) dl.l)):=Gd.ofE' H fun x h=>VU h fun g es ks p h=>pG h fun y p' h=>aE h fun h0 h=>aE h fun h1 h=>I4 h fun h=>aE h fun h2 h=>
 abV H h0 fun g1 g2=>Qa h1 fun F hFn=>apH (eN.fns _ _ _ hFn) fun fv kF e1 e2 e3 e4=>akp hFn▸⟨aeI H.ok g1 g2 e1 e2 e3 e4 h2 (gl.l _ h),rfl⟩
theorem ahf(eN:Kr X.C k Γ)(H:gS X st){n:Nat}(go:Gd X k st o do_)(gl:Gd X k st l dl):Gd X k st (abx Γ.nms n o l) (.ofE (cF (acu Γ.mts n) do_.e dl.l)):=Gd.ofE' H fun x h=>VU h fun g es ks p h=>NS h fun q y ap h=>aE h fun h0 h=>aE h fun h1 h=>aE h fun h2 h=>aE h fun h3 h=>I4 h fun h=>aE h fun h4 h=>aE h fun h5 h=>
 Qa h0 fun D hD=>apG (eN.mts _ _ _ hD) fun kF e1 e2=>akq hD▸⟨aeP h1 (beq_iff_eq.mpr (ag h2)) (c9.mp h3) (go.e _ h5) e1 e2 h4 (gl.l _ h),rfl⟩
theorem ahe(ga:Gd X k st a da)(gl:Gd X k st l dl):Gd X k st (abw a l) ⟨fun _ _=>none,fun _ _=>none,aw da.e dl.l⟩:=
 ⟨fun _ h=>ff h,fun _ h=>ff h,fun _ h=>ff h,fun xs h=>U2 h fun x r h=>aE h fun h0 h=>aE h fun h1 h2=>K7 (pj h0) (ga.e _ h1) (gl.l _ h2),fun _ _ h=>ff h,fun _ _ h=>ff h,fun _ h=>ff h,fun _ h=>ff h⟩
theorem aoJ{P:Prop}{m:Sem Bool}{b:Bool}(h:m=pure b)(kf:m=pure false->P)(kt:m=pure true->P):P:=by
 cases b with
 |false=>exact kf h
 |true=>exact kt h
theorem Pa(H:gS X st){scope:dT}{xs:ac}{ts:List Str}(K:oP st scope xs ts){it:EM}{body:List AV->Fm->AS->Option (List AV×AS)}{ee tg ie:an}{ifs:List an}{rest:List dK}{pos:Pos}
  (hi:bZ X k it ie)(hs:Et ie=true)(hloop: ∀s L,gS (X.inner scope (O7 X scope) (st.inner scope xs ts).at_ L s) (st.inner scope xs ts)->xq (X.inner scope (O7 X scope) (st.inner scope xs ts).at_ L s) k (.ListComp ee (⟨tg,ie,ifs,0⟩::rest) scope pos) 0 xs body):
  bZ X k (s6 it body) (.ListComp ee (⟨tg,ie,ifs,0⟩::rest) scope pos)/\yV X k (s6 it body) (.ListComp ee (⟨tg,ie,ifs,0⟩::rest) scope pos):=
 have hl:=fun s L hL=>hloop s L (adI H K hL)
 have hE:=aaM (Pc H K) hi (pk hs) hl
 ⟨hE,fun i y py spos hx=>aoJ (m:=swapsWith (.ListComp ee (⟨tg,ie,ifs,0⟩::rest) scope pos) (some (.Name y py)) spos.line X.env) rfl (fun h=>Yr H.ok H.sto hx hE h) fun h=>aeD H.ok H.sto (Pc H K) hi (pk hs) hl hx h⟩
theorem IT(X:FX){scope:dT}{cl:List (Str×aC)}{nm:Nat->Option Str}{L:aC}{s:az}:(X.inner scope cl nm L s).C=X.C:=rfl
theorem ahd(H:gS X st){xs:ac}(gi:Gd X k st i di)(gc: ∀X' st',X'.C=X.C->gS X' st'->Gd X' k st' c dc)(ge: ∀X' st',X'.C=X.C->gS X' st'->Gd X' k st' a da):Gd X k st (UL xs i c a) (.ofE (eJ xs di.e dc.b da.e)):=
 have key: ∀x,(UL xs i c a).e st x=true->bZ X k (s6 di.e (eB xs dc.b da.e)) x/\yV X k (s6 di.e (eB xs dc.b da.e)) x:=fun x h=>acA h fun ee gs sc p h=>pn h fun g h=>ZN h fun tg ie fs h=>aeZ H h fun ts h hT=>aE h fun h1 h=>aE h fun h2 h=>aE h fun h3 h=>aE h fun h4 h5=>
  Pa H (UN h3) (gi.e _ h1) h2 fun s L HI=>Ta HI.ok HI.sto ae2 (hT (UN h3) s L) ((gc _ _ (IT X) HI).i _ h4) ((ge _ _ (IT X) HI).e _ h5)
 Gd.ofE (fun x h=>(key x h).1) fun x h=>(key x h).2
theorem adz(H:gS X st){x' y':Nat}(gi:Gd X k st i di)(g2: ∀X' st',X'.C=X.C->gS X' st'->Gd X' k st' c dc)(ge: ∀X' st',X'.C=X.C->gS X' st'->Gd X' k st' a da):Gd X k st (O6 x' i y' c a) (.ofE (qG x' di.e y' dc.e da.e)):=
 have key: ∀x,(O6 x' i y' c a).e st x=true->bZ X k (s6 di.e (fun l fr σ=>ju x' dc.e y' da.e l (put fr y' .unb) σ)) x/\yV X k (s6 di.e (fun l fr σ=>ju x' dc.e y' da.e l (put fr y' .unb) σ)) x:=fun x h=>acA h fun ee gs sc p h=>wN h fun g g' h=>ZN h fun tg ie fs h=>ZN h fun tg' ie' fs' h=>pG h fun nx px h=>pG h fun ny py h=>I4 h fun h=>I4 h fun h=>
  aE h fun h1 h=>aE h fun h2 h=>aE h fun h2' h=>aE h fun h3 h=>aE h fun h4 h5=>
  have K:=UN h3
  have hxy:x'≠y':=fun e=>(dL.mp K.xnodup).1 (e▸aO.mpr rfl)
  have q:(y'==x')=false:=beq_eq_false_iff_ne.mpr (tm hxy)
  Pa H K (gi.e _ h1) h2 fun s L HI=>adW HI.ok HI.sto (xJ H K (by rw[bL,fZ])) (xJ H K (by rw[bL,cz,q,bL,fZ])) hxy ((g2 _ _ (IT X) HI).e _ h4) (pk h2') ((ge _ _ (IT X) HI).e _ h5)
 Gd.ofE (fun x h=>(key x h).1) fun x h=>(key x h).2
end
theorem acZ(hk:5<=k){FN:List Str}{Γ:cC}(t:T): ∀(X:FX) (st:SI),R9 X.C FN->Kr X.C k Γ->gS X st->Gd X k st (ck FN Γ.nms t) (gN Γ t):=by
 induction t with
 |nop=>exact fun X st hF eN H=>alv
 |cst a=>exact fun X st hF eN H=>Gd.ofE' H fun x h=>Zt h
 |var i=>exact fun X st hF eN H=>alA H
 |glb g=>exact fun X st hF eN H=>alp eN H
 |bin op a b ga gb=>exact fun X st hF eN H=>alm H (ga X st hF eN H) (gb X st hF eN H)
 |neg a ga=>exact fun X st hF eN H=>alt H (ga X st hF eN H)
 |not a ga=>exact fun X st hF eN H=>alw H (ga X st hF eN H)
 |and a b ga gb=>exact fun X st hF eN H=>Gd.bool H (ga X st hF eN H) (gb X st hF eN H) (fun _ _ _ h1 h2=>kW.and h1 h2) fun _ _ h1 h2=>pP.and h1 h2
 |or a b ga gb=>exact fun X st hF eN H=>Gd.bool H (ga X st hF eN H) (gb X st hF eN H) (fun _ _ _ h1 h2=>kW.or h1 h2) fun _ _ h1 h2=>pP.or h1 h2
 |ife c a b gc ga gb=>exact fun X st hF eN H=>alr H (gc X st hF eN H) (ga X st hF eN H) (gb X st hF eN H)
 |cmp op a b ga gb=>exact fun X st hF eN H=>aln hk H (ga X st hF eN H) (gb X st hF eN H)
 |cmp2 op op' a b c ga gb gc=>exact fun X st hF eN H=>ahc hk H (ga X st hF eN H) (gb X st hF eN H) (gc X st hF eN H)
 |atr kk a ga=>exact fun X st hF eN H=>alk hF H (ga X st hF eN H)
 |idx a i ga gi=>exact fun X st hF eN H=>alq H (ga X st hF eN H) (gi X st hF eN H)
 |slc a lo hi ga gl gh=>exact fun X st hF eN H=>aly H (ga X st hF eN H) (gl X st hF eN H) (gh X st hF eN H)
 |lst l gl=>exact fun X st hF eN H=>als H (gl X st hF eN H)
 |tup l gl=>exact fun X st hF eN H=>alz H (gl X st hF eN H)
 |dic=>exact fun X st hF eN H=>alo H
 |dicI k1 k2 a b=>exact fun X st hF eN H=>Gd.ofE' H fun x h=>ZB h
 |rep c a ga=>exact fun X st hF eN H=>alx H (ga X st hF eN H)
 |call f l gl=>exact fun X st hF eN H=>ahb eN H (gl X st hF eN H)
 |meth n o l go gl=>exact fun X st hF eN H=>ahf eN H (go X st hF eN H) (gl X st hF eN H)
 |nil=>exact fun X st hF eN H=>alu
 |cons a l ga gl=>exact fun X st hF eN H=>ahe (ga X st hF eN H) (gl X st hF eN H)
 |comp xs it c elt gi gc ge=>exact fun X st hF eN H=>ahd H (gi X st hF eN H) (fun X' st' e HI=>gc X' st' (e▸hF) (e▸eN) HI) (fun X' st' e HI=>ge X' st' (e▸hF) (e▸eN) HI)
 |comp2 x it y it2 elt gi g2 ge=>exact fun X st hF eN H=>adz H (gi X st hF eN H) (fun X' st' e HI=>g2 X' st' (e▸hF) (e▸eN) HI) (fun X' st' e HI=>ge X' st' (e▸hF) (e▸eN) HI)
end
end
end
section
open PySem.SeqAt
noncomputable section
section
variable{k:Nat}{X:FX}{st:SI}
theorem om(H:gS X st){i:Nat}{x:Str}(h:pg st i x=true):kg X i x:=aE h fun h1 h=>
 ⟨by rw[H.nm];exact Hp h1,rE h (fun h=>.inl ((H.kind x).trans ((KI _ _).symm.trans (ag h)))) fun h=>aE h fun h2 h3=>
  have h3:=(KI _ _).symm.trans (ag h3)
  apF (H.cells x (.inl (dG h3))) fun c hc=>.inr ⟨(H.kind x).trans h3,c,hc,H.own h2 _ _ hc⟩⟩
theorem Tf(H:gS X st){is:ac}: ∀{ts:List an},CM st is ts=true->qc X is ts:=by
 induction is with
 |nil=>exact fun h=>I4 h fun _=>.nil
 |cons i is ih=>exact fun h=>U2 h fun t r h=>aE h fun h1 h2=>pG h1 fun n p h1=>.cons (om H h1) (ih h2)
@[elab_as_elim] theorem ank {α:Type} {l:List α} {Q:List α->Prop} (h:bt 1 l.length=true) (kk: ∀i j r,Q (i::j::r)):Q l:=by
 cases l with
 |nil=>exact ff h
 |cons i l=>cases l with
  |nil=>exact ff h
  |cons j r=>exact kk i j r
theorem alf{e:Env}{n:List (Str×dR)}(h1:e.scope.names=n)(h2:e.scope.kind= .function){st:SI}(h3:n=st.names){ts:List an}{v:an}:swappedStores ts v e=swappedStores ts v (age st):=by
 cases e with
 |mk sc=>cases sc with
  |mk kd nm=>subst h2;subst h1;subst h3;rfl
structure w9(X:FX)(k:Nat)(st:SI)(c:sQ)(m:SM):Prop where
 s: ∀x,c.s st x=true->lG X k m x
 ss: ∀x,c.ss st x=true->mQ X k m x
 g:c.g st=true-> ∀W fr σ s,St X W fr σ s-> ∀r,m fr σ=some r-> ∃W' fr' ai,r= .next fr' ai/\W.le W'/\St X W' fr' ai s
theorem w9.one{c:SI->co->Bool}{m:SM}(h: ∀x,c st x=true->lG X k m x):w9 X k st (.one c) m:=⟨h,fun _ h=>ff h,fun h=>ff h⟩
theorem X3(H:gS X st){is:ac}{names:List Str}{ts:List an}{c:Nat}{m:EM}{e:an}{p p':Pos}(h:(ail st is names||aim st is names)=true)(hm:bZ X k m e)(hc:kp e=true):swappedStores [.Tuple ts c p'] e X.env=pure (some names)->
  lG X k (cO is m) (.Assign [.Tuple ts c p'] e p):=
 rE h (fun h=>wN h fun i j h=>wN h fun x y h=>aE h fun h1 h=>aE h fun h2 h3 hw=>aeG H.ok H.sto (om H h1) (om H h2) (of_decide_eq_false (pj h3)) hm hc hw)
  fun h=>YD h fun i j l h=>YD h fun x y z h=>aE h fun h1 h=>aE h fun h2 h=>aE h fun h3 h=>aE h fun h4 h=>aE h fun h5 h6 hw=>aaJ H.ok H.sto (om H h1) (om H h2) (om H h3) (of_decide_eq_false (pj h4)) (of_decide_eq_false (pj h5)) (of_decide_eq_false (pj h6)) hm hc hw
theorem WQ(H:gS X st){is:ac}{ts:List an}{c:Nat}{m:EM}{e:an}{p p':Pos}(h:abo st is (.Tuple ts c p') ts e=true)(hm:bZ X k m e)(hc:kp e=true):lG X k (cO is m) (.Assign [.Tuple ts c p'] e p):=
 afq (Q:=fun m'=>swappedStores [.Tuple ts c p'] e X.env=m'->lG X k (cO is m) (.Assign [.Tuple ts c p'] e p)) h (fun o h hw=>match o,h,hw with
  |none,h,hw=>aE h fun h1 h2=>ank (Q:=fun is=>CM st is ts=true->lG X k (cO is m) (.Assign [.Tuple ts c p'] e p)) h1 (fun i j r h2=>aeF H.ok H.sto (Tf H h2) hm hc hw) h2
  |some names,h,hw=>X3 H h hm hc hw) (alf H.names H.ok.kind rfl)
theorem adL{e:T}{Q:T->Prop}(h:PL e=true)(kk:Q (.cst .none)):Q e:=pI h fun hc h=>T.cst.elim (motive:=fun x=> ∀hc:x.ctorIdx=1,T.cst.elim (motive:=fun _=>Bool) x hc (fun a=>(sZ a (some ())).isSome)=true->Q x) e hc (fun a _ h=>by
 cases a<;>first|exact ff h|exact kk) hc h
variable{e c i o it:Ck}{d dc di do_:D}{a b:sQ}{m n:SM}{FN:List Str}{Γ:cC}
theorem ahx(H:gS X st)(ge:Gd X k st e d):w9 X k st (W3 e) (kX d.e):=.one fun x h=>aji h fun v p h=>aE h fun h1 h2=>aeN H.sto (ge.e _ h2) h1
theorem alD(H:gS X st){j:Nat}(ge:Gd X k st e d):w9 X k st (aby j e) (cO [j] d.e):=.one fun x h=>Ey h fun ts v p h=>pn h fun t h=>pG h fun y p' h=>aE h fun h1 h2=>ge.u _ h2 _ _ _ _ (om H h1)
theorem ahv(H:gS X st){is:ac}(ge:Gd X k st e d):w9 X k st (W1 is e) (cO is d.e):=.one fun x h=>Ey h fun ts v p h=>pn h fun t h=>amG h fun q c p' h=>aE h fun h1 h=>aE h fun h2 h3=>WQ H h3 (ge.e _ h2) h1
theorem aht(hF:R9 X.C FN){kk:Nat}(go:Gd X k st o do_)(ge:Gd X k st e d):w9 X k st (WZ FN kk o e) (lR kk do_.e d.e):=.one fun x h=>Ey h fun ts v p h=>pn h fun t h=>NS h fun q n p' h=>aE h fun h0 h=>aE h fun h1 h2=>(hF _ _ (Hp h0)).2▸aeC (hF _ _ (Hp h0)).1 (ge.e _ h2) (go.e _ h1)
theorem ahu(go:Gd X k st o do_)(gi:Gd X k st i di)(ge:Gd X k st e d):w9 X k st (W0 o i e) (Qq do_.e di.e d.e):=.one fun x h=>Ey h fun ts v p h=>pn h fun t h=>aa7 h fun q j p' h=>aE h fun h0 h=>aE h fun h1 h2=>aeE (ge.e _ h2) (go.e _ h0) (gi.e _ h1)
theorem an2(gc:Gd X k st c dc)(ga:w9 X k st a m)(gb:w9 X k st b n):w9 X k st (afP c a b) (r5 dc.b m n):=.one fun x h=>ao7 h fun t l r p h=>aE h fun h0 h=>aE h fun h1 h2=>amy (gc.b _ h0) (ga.ss _ h1) (gb.ss _ h2)
theorem alH(gc:Gd X k st c dc)(gb:w9 X k st b n){j:Nat}:w9 X k st (abC c b) (Tt dc.b n j):=.one fun x h=>ajk h fun t l r p h=>I4 h fun h=>aE h fun h0 h1=>aaN (gc.b _ h0) (gb.ss _ h1)
theorem alj(H:gS X st){xs:ac}{t:an}(h:ag5 st xs t=true):So X xs t:=rE h (fun h=>pn h fun i h=>pG h fun y p h=>HA H.ok H.sto (om H h)) fun h=>aa8 h fun q c p h=>aE h fun h1=>ank h1 fun i j r h2=>K5 H.ok H.sto (Tf H h2)
theorem alE(H:gS X st){xs:ac}(gi:Gd X k st it di)(gb:w9 X k st b n):w9 X k st (abz xs it b) (gv xs di.e n):=.one fun x h=>amq h fun t j l r p h=>I4 h fun h=>aE h fun h1 h=>aE h fun h2 h=>aE h fun h3 h4=>aj8 (gi.e _ h3) (alj H h1) (gb.ss _ h4) (pk h2)
theorem alG{Γ:cC}{t:T}{FN:List Str}(ge:Gd X k st (ck FN Γ.nms t) (gN Γ t)):w9 X k st (abB (PL t) (ck FN Γ.nms t)) (eD (gN Γ t).e):=.one fun x h=>aek h fun o p h=>match o,h with
 |some v,h=>akf (ge.e _ h)
 |none,h=>adL (Q:=fun t=>lG X k (eD (gN Γ t).e) (.Return none p)) h aeS
theorem alF(H:gS X st){j:Nat}:w9 X k st (abA j) (Qr j):=⟨fun _ h=>ff h,fun _ h=>ff h,fun h=>(eX.mp h).elim fun y hy=>aha (y:=y) (by rw[H.nm];exact hy)⟩
theorem ahw(ga:w9 X k st a m)(gb:w9 X k st b n):w9 X k st (W2 a b) (aV m n):=⟨fun _ h=>ff h,fun xs h=>rE h (fun h=>aE h fun h1 h2=>Yu (ga.g h1) (gb.ss _ h2)) fun h=>U2 h fun x r h=>aE h fun h1 h2=>aaO (ga.s _ h1) (gb.ss _ h2),fun h=>ff h⟩
theorem Zk(hk:5<=k){FN:List Str}(hF:R9 X.C FN){Γ:cC}(eN:Kr X.C k Γ)(H:gS X st)(t:TS):w9 X k st (ckS FN Γ.nms t) (b5 Γ t):=by
 have g:=fun t=>acZ hk t X st hF eN H
 induction t with
 |bad=>exact⟨fun _ _ A R W fr σ s T r e=>nn e,fun _ h=>ff h,fun h=>ff h⟩
 |expr e=>exact ahx H (g e)
 |asg i e=>exact alD H (g e)
 |asgT is e=>exact ahv H (g e)
 |asgA kk o e=>exact aht hF (g o) (g e)
 |asgI o i e=>exact ahu (g o) (g i) (g e)
 |ifs c a b ga gb=>exact an2 (g c) ga gb
 |whl c b gb=>exact alH (g c) gb
 |for_ xs it b gb=>exact alE H (g it) gb
 |ret e=>exact alG (g e)
 |cont=>exact .one fun x h=>amp h fun p _=>aeL
 |frz i=>exact alF H
 |nil=>exact⟨fun _ h=>ff h,fun xs h=>I4 h fun _=>aeU,fun h=>ff h⟩
 |cons a b ga gb=>exact ahw ga gb
end
end
end
section
open PySem.SeqAt
noncomputable section
section
variable{k:Nat}{C:PC}
noncomputable def abG(d:Bc)(f:gB->Bool):Bool:=match d with
 | .func fd=>f fd
 |_=>false
@[elab_as_elim] theorem afX {Q:Bc->Prop} {d:Bc} {f:gB->Bool} (h:abG d f=true) (k: ∀fd,f fd=true->Q (.func fd)):Q d:=by
 cases d<;>first|exact ff h|exact k _ h
noncomputable def amT(d:NU)(f:List co->Bool):Bool:=match d with
 | .stmts b=>f b
 |_=>false
@[elab_as_elim] theorem anx {Q:NU->Prop} {d:NU} {f:List co->Bool} (h:amT d f=true) (k: ∀b,f b=true->Q (.stmts b)):Q d:=by
 cases d<;>first|exact ff h|exact k _ h
noncomputable def UT(K:dQ)(n:Nat)(dfl:aa)(nm:List (Nat×Str))(fd:gB)(ps:List Str):Bool:=
 codeIn K fd.code fd.qualname&&(fd.closure.isEmpty&&(fd.globals==mainGlobals&&(fd.builtins==builtinsNs&&(fd.scope.kind== .function&&(!fd.scope.isCoroutine&&(!fd.scope.isGenerator&&
 (fd.params.posonlyargs.isEmpty&&(fd.params.kwonlyargs.isEmpty&&(fd.params.vararg.isNone&&(fd.params.kwarg.isNone&&(ps.length==n&&(cT dfl.length n&&(af3 K dfl fd.defaults&&(pi ps&&
 (ps.all (fun x=>fd.scope.names.lookup x==some .local||fd.scope.names.lookup x==some .cell)&&(((cu n).zip ps).all (fun p=>nm.lookup p.1==some p.2)&&(nm.all (fun p=>lO p.2)&&(pi (nm.map (·.2))&&
 fd.scope.names.all (fun y=>y.2 != .free)))))))))))))))))))
noncomputable def ZK(K:dQ)(FN:List Str)(f:aC)(n:Nat)(dfl:aa)(nm:List (Nat×Str))(N:Wj)(t:TS):Bool:=Hq (K.lookup f) fun o=>abG o.data fun fd=>amT fd.body fun body=>UT K n dfl nm fd (fd.params.args.map (·.arg))&&(ckS FN N t).ss ⟨fd.scope.names,nm,true⟩ body
theorem abb{ps:List Str}{i:Nat}{x:Str}(h:ps[i]? =some x):(i,x)∈(cu ps.length).zip ps:=by
 rw[List.mem_iff_getElem?]
 refine⟨i,?_⟩
 have hi:=(cP.mp h).1
 rw[sM]
 exact⟨by simp[hi],h⟩
structure FdB(K:dQ)(n:Nat)(dfl:List AV)(nm:List (Nat×Str))(fd:gB)(ps:List Str):Prop where
 h1:codeIn K fd.code fd.qualname=true
 h2:fd.closure.isEmpty=true
 h3:(fd.globals==mainGlobals)=true
 h4:(fd.builtins==builtinsNs)=true
 h5:(fd.scope.kind== .function)=true
 h6:(!fd.scope.isCoroutine)=true
 h7:(!fd.scope.isGenerator)=true
 h8:fd.params.posonlyargs.isEmpty=true
 h9:fd.params.kwonlyargs.isEmpty=true
 ha:fd.params.vararg.isNone=true
 hb:fd.params.kwarg.isNone=true
 hc:(ps.length==n)=true
 hd:cT dfl.length n=true
 he:af3 K dfl fd.defaults=true
 hf:pi ps=true
 hg:ps.all (fun x=>fd.scope.names.lookup x==some .local||fd.scope.names.lookup x==some .cell)=true
 hi:((cu n).zip ps).all (fun p=>nm.lookup p.1==some p.2)=true
 hj:nm.all (fun p=>lO p.2)=true
 hk:pi (nm.map (·.2))=true
 hl:fd.scope.names.all (fun y=>y.2 != .free)=true
theorem FdB.of{K:dQ}{n:Nat}{dfl:aa}{nm:List (Nat×Str)}{fd:gB}{ps:List Str}(h:UT K n dfl nm fd ps=true):FdB K n dfl nm fd ps:=
 aE h fun h1 h=>aE h fun h2 h=>aE h fun h3 h=>aE h fun h4 h=>aE h fun h5 h=>aE h fun h6 h=>aE h fun h7 h=>aE h fun h8 h=>aE h fun h9 h=>aE h fun h10 h=>aE h fun h11 h=>aE h fun h12 h=>aE h fun h13 h=>aE h fun h14 h=>aE h fun h15 h=>aE h fun h16 h=>aE h fun h17 h=>aE h fun h18 h=>aE h fun h19 h20=>⟨h1,h2,h3,h4,h5,h6,h7,h8,h9,h10,h11,h12,h13,h14,h15,h16,h17,h18,h19,h20⟩
theorem ag3{f:aC}{o:Obj}(ho:C.K.lookup f=some o){n:Nat}{dfl:aa}{nm:List (Nat×Str)}{fd:gB}{body:List co}(hd:o.data= .func fd)(hb:fd.body= .stmts body){ps:List Str}(hps:fd.params.args.map (·.arg)=ps)(h:UT C.K n dfl nm fd ps=true):
  ps.length=n/\afc C f fd body ps dfl (⟨fd.scope.names,nm,true⟩:SI).at_/\ ∀X,abe C fd (⟨fd.scope.names,nm,true⟩:SI).at_ X->gS X ⟨fd.scope.names,nm,true⟩:=
 by
 have H:=FdB.of h
 have h5:=beq_iff_eq.mp H.h5
 obtain rfl:ps.length=n:=beq_iff_eq.mp H.hc
 have hdl:=av H.hd
 refine⟨rfl,⟨⟨o,ho,hd⟩,H.h1,hb,ek.mp H.h2,beq_iff_eq.mp H.h3,beq_iff_eq.mp H.h4,h5,pj H.h6,pj H.h7,fun W σ s args vs R hv hl hl2=> ?_,j7 H.hf,fun x hx=> ?_,fun i x hi hx=> ?_,fun i x hx=> ?_⟩,fun X B=> ?_⟩
 ·obtain⟨d,hd1,hd2⟩:=ZA (s:=s) H.he R
  have hlen:=hd1.length
  have hvl:=hv.length
  refine⟨vs++(d.getD #[]).toList.drop (vs.length+(d.getD #[]).toList.length -ps.length),?_,WW (ek.mp H.h8) (ek.mp H.h9) (dA.mp H.ha) (dA.mp H.hb) hps hd2 rfl (by rw[hvl];exact hl) (by rw[hvl,hlen];exact hl2) (by rw[hlen];exact hdl) (j7 H.hf)⟩
  rw[hlen,hvl]
  exact hv.append (hd1.drop _)
 ·exact rE (bT.mp H.hg x hx) (fun h=>.inl (beq_iff_eq.mp h)) fun h=>.inr (beq_iff_eq.mp h)
 ·have hp:ps[i]? =some ps[i]:=eU hi
  have hz:=beq_iff_eq.mp (bT.mp H.hi _ (abb hp))
  exact hp.trans (hz.symm.trans hx)
 ·exact pj (bT.mp H.hj _ (dG hx))
 ·refine⟨by rw[B.scope],B.nm,B.ok,⟨fun i j x hi hj=> ?_,?_⟩,fun n hn=> ?_,fun _=>B.own⟩
  ·rw[B.nm]at hi hj
   exact K8 (j7 H.hk) (dG hi) (dG hj)
  ·unfold interactive;rw[B.scope,h5];rfl
  ·exact hn.elim (B.cells n) fun hn=>absurd rfl (bne_iff_ne.mp (bT.mp H.hl _ hn))
theorem adv{f:aC}{o:Obj}(ho:C.K.lookup f=some o){n:Nat}{dfl:aa}{nm:List (Nat×Str)}{fd:gB}{body:List co}(hd:o.data= .func fd)(hb:fd.body= .stmts body){ps:List Str}(hps:fd.params.args.map (·.arg)=ps){b:SM}(h:UT C.K n dfl nm fd ps=true)
  (hs: ∀X:FX,X.C=C->gS X ⟨fd.scope.names,nm,true⟩->mQ X k b body):pQ C (k+1) (.ref f) (bg n dfl b):=by
 obtain⟨rfl,F,H⟩:=ag3 ho hd hb hps h
 exact aj3 F fun X B=>hs X B.C (H X B)
theorem adw(hk:5<=k){FN:List Str}(hF:R9 C FN){Γ:cC}(eN:Kr C k Γ){f:aC}{n:Nat}{dfl:aa}{nm:List (Nat×Str)}{t:TS}(h:ZK C.K FN f n dfl nm Γ.nms t=true):pQ C (k+1) (.ref f) (bg n dfl (b5 Γ t)):=L8 h fun o ho h=>
 afX (d:=o.data) (Q:=fun d=>o.data=d->pQ C (k+1) (.ref f) (bg n dfl (b5 Γ t))) h (fun fd h hd=>anx (d:=fd.body) (Q:=fun b=>fd.body=b->pQ C (k+1) (.ref f) (bg n dfl (b5 Γ t))) h (fun body h hb=>aE h fun h1 h2=>
  adv ho hd hb rfl h1 fun X e H=>(Zk hk (e▸hF) (e▸eN) H t).ss _ h2) rfl) rfl
end
end
end
section
mutual
noncomputable def uC(f:Nat->Option Nat):AV->Option AV
 | .ref a=>(f a).map .ref
 | .tup l=>(on f l).map .tup
 | .lst l=>(on f l).map .lst
 | .frz c ks l=>(on f l).map (.frz c ks)
 | .dct ks l=>(on f l).map (.dct ks)
 | .dcti ks l=>(on f l).map (.dcti ks)
 | .unb=>some .unb
 | .none=>some .none
 | .opq=>some .opq
 | .bool b=>some (.bool b)
 | .int i=>some (.int i)
 | .str s=>some (.str s)
 | .bytes s=>some (.bytes s)
 | .rng a b=>some (.rng a b)
 | .glob v=>some (.glob v)
noncomputable def on(f:Nat->Option Nat):List AV->Option (List AV)
 |[]=>some []
 |a::l=>ob (uC f a) fun b=>ob (on f l) fun m=>some (b::m)
end
noncomputable def acm(f:Nat->Option Nat):bF->Option bF
 | .lst l=>(on f l).map .lst
 | .inst c ks l=>(on f l).map (.inst c ks)
 | .dct ks l=>(on f l).map (.dct ks)
 | .orc k l=>some (.orc k l)
noncomputable def Z8:Nat->List Nat->Nat->Option Nat
 |_,[],_=>none
 |n,b::r,a=>bif aj a b then some n else Z8 (n+1) r a
noncomputable def Xo(f:Nat->Option Nat)(σ:AS):Nat->List Nat->Option (List (Nat×bF))
 |_,[]=>some []
 |n,b::r=>ob (σ.get b) fun c=>ob (acm f c) fun c'=>ob (Xo f σ (n+1) r) fun m=>some ((n,c')::m)
noncomputable def FP(a:Nat):List Nat->Bool
 |[]=>false
 |b::r=>aj a b||FP a r
noncomputable def ndN:List Nat->Bool
 |[]=>true
 |a::r=> !FP a r&&ndN r
noncomputable def imp(f:Nat->Option Nat)(ids:ac)(n:Nat)(cells:List (Nat×bF))(a:AV)(ai:AS):Option (AV×AS):=bif ndN ids then ob (uC f a) (fun b=>ob (Xo f ai n ids) fun cs=>some (b,⟨n+ids.length,cs++cells⟩))else none
noncomputable def vJ(pick:AV->AS->List Nat)(F:aW):aW:=fun args σ=>bif aN args then bw (F args ⟨0,[]⟩) (fun a ai=>imp (Z8 σ.next (pick a ai)) (pick a ai) σ.next σ.cells a ai)else none
noncomputable def Xu(r n:Nat)(ids:ac):Nat->Option Nat
 |0=>some r
 |a+1=>Z8 n ids (a+1)
noncomputable def sr{β:Type}(σ:AS)(x:Nat)(f:Nat->List AV->Option β):Option β:=ob (σ.get x) fun c=>match c with
 | .orc k l=>f k l
 |_=>none
theorem FT{β:Type}{σ:AS}{x:Nat}{f:Nat->List AV->Option β}{r:β}{P:Prop}(h:sr σ x f=some r)(k: ∀n l,σ.get x=some (.orc n l)->f n l=some r->P):P:=oE h fun c hc h=>by
 cases c with
 |orc n l=>exact k n l hc h
 |_=>exact nn h
noncomputable def q9{α β:Type}(l:List α)(f:α->List α->Option β):Option β:=bo (motive:=fun _=>Option β) none (fun a r _=>f a r) l
@[elab_as_elim] theorem kG {α β:Type} {Q:List α->Prop} {l:List α} {f:α->List α->Option β} {r:β} (h:q9 l f=some r) (k: ∀a m,f a m=some r->Q (a::m)):Q l:=by
 cases l with
 |nil=>exact nn h
 |cons a m=>exact k a m h
noncomputable def ue(pick:AV->AS->List Nat)(F:aW):aW:=fun args σ=>q9 args fun a as=>ic a fun r=>bif aN as then sr σ r (fun k l=>bw (F (.ref 0::as) ⟨1,[(0,.orc k l)]⟩) fun a ai=>sr ai 0 fun k' l'=>bif FP 0 (pick a ai)then none else imp (Xu r σ.next (pick a ai)) (pick a ai) σ.next (ls r (.orc k' l') σ.cells) a ai)else none
section
variable{k:Nat}{C:PC}{W W' W'':Wd}{σ ai:AS}{h h':bJ}
theorem I1{α β:Type}{o:Option α}{g:α->β}{b:β}{P:β->Prop}(e:o.map g=some b)(k: ∀a,o=some a->P (g a)):P b:=by
 cases o with
 |none=>exact nn e
 |some a=>exact s1 e (k a rfl)
mutual
theorem acl{f:Nat->Option Nat}(xI: ∀i j p,f i=some j->W.ρ i=some p->W'.ρ j=some p)(hi: ∀x o,W.im x=some o->W'.im x=some o):
  ∀{a b:AV} {v:ah},uC f a=some b->V C W a v->V C W' b v
 | .unb,_,_,e,q=>q.elim
 | .none,b,v,e,q=>s1 (P:=fun b=>V C W' b v) e q
 | .opq,b,v,e,q=>s1 (P:=fun b=>V C W' b v) e trivial
 | .bool _,b,v,e,q=>s1 (P:=fun b=>V C W' b v) e q
 | .int _,b,v,e,q=>s1 (P:=fun b=>V C W' b v) e q
 | .str _,b,v,e,q=>s1 (P:=fun b=>V C W' b v) e q
 | .bytes _,b,v,e,q=>s1 (P:=fun b=>V C W' b v) e q
 | .tup l,b,v,e,q=>I1 (P:=fun b=>V C W' b v) e fun m e1=>q.tupE fun x n vs q r=>⟨x,n,vs,rfl,hi _ _ q,qL xI hi e1 r⟩
 | .lst l,b,v,e,q=>I1 (P:=fun b=>V C W' b v) e fun m e1=>q.lstE fun x n vs q r=>⟨x,n,vs,rfl,hi _ _ q,qL xI hi e1 r⟩
 | .frz c ks l,b,v,e,q=>I1 (P:=fun b=>V C W' b v) e fun m e1=>q.frzE fun x d es n vs q0 q1 q2 r z=>⟨x,d,es,n,vs,rfl,q0,hi _ _ q1,hi _ _ q2,qL xI hi e1 r,z⟩
 | .dct ks l,b,v,e,q=>I1 (P:=fun b=>V C W' b v) e fun m e1=>q.dctE fun x o vs q0 q1 r z=>⟨x,o,vs,rfl,q0,hi _ _ q1,qL xI hi e1 r,z⟩
 | .dcti ks l,b,v,e,q=>I1 (P:=fun b=>V C W' b v) e fun m e1=>q.dctiE fun x o vs q0 q1 r z=>⟨x,o,vs,rfl,q0,hi _ _ q1,qL xI hi e1 r,z⟩
 | .rng _ _,b,v,e,q=>s1 (P:=fun b=>V C W' b v) e (q.rngE fun x t u w q z1 z2=>⟨x,t,u,w,rfl,hi _ _ q,z1,z2⟩)
 | .ref _,b,v,e,q=>I1 (P:=fun b=>V C W' b v) e fun m e1=>q.refE fun p e=>⟨p,xI _ _ _ e1 e,rfl⟩
 | .glob _,b,v,e,q=>s1 (P:=fun b=>V C W' b v) e q
theorem qL{f:Nat->Option Nat}(xI: ∀i j p,f i=some j->W.ρ i=some p->W'.ρ j=some p)(hi: ∀x o,W.im x=some o->W'.im x=some o):
  ∀{l m:List AV} {vs:List ah},on f l=some m->VL C W l vs->VL C W' m vs
 |[],m,vs,e,q=>s1 (P:=fun m=>VL C W' m vs) e q
 |a::l,m,vs,e,q=>q.consE fun v r q1 q2=>oE (show ob (uC f a) (fun b=>ob (on f l) fun m=>some (b::m))=some m from e) fun b hb e=>oE e fun m' hm e=>s1 (P:=fun m=>VL C W' m (v::r)) e ⟨v,r,rfl,acl xI hi hb q1,qL xI hi hm q2⟩
end
mutual
theorem uj{f:Nat->Option Nat}: ∀{a:AV},noRef a=true->uC f a=some a
 | .unb,_=>rfl
 | .none,_=>rfl
 | .opq,_=>rfl
 | .bool _,_=>rfl
 | .int _,_=>rfl
 | .str _,_=>rfl
 | .bytes _,_=>rfl
 | .tup l,e=>by show(on f l).map _=_;rw[jw (l:=l) e];rfl
 | .lst l,e=>by show(on f l).map _=_;rw[jw (l:=l) e];rfl
 | .frz c ks l,e=>by show(on f l).map _=_;rw[jw (l:=l) e];rfl
 | .dct ks l,e=>by show(on f l).map _=_;rw[jw (l:=l) e];rfl
 | .dcti ks l,e=>by show(on f l).map _=_;rw[jw (l:=l) e];rfl
 | .rng _ _,_=>rfl
 | .ref _,e=>by cases e
 | .glob _,_=>rfl
theorem jw{f:Nat->Option Nat}: ∀{l:aa},aN l=true->on f l=some l
 |[],_=>rfl
 |a::l,e=>by
  have e:(noRef a&&aN l)=true:=e
  rw[cG]at e
  show ob (uC f a) _=_
  rw[uj e.1]
  show ob (on f l) _=_
  rw[jw e.2];rfl
end
theorem xP(hi: ∀x o,W.im x=some o->W'.im x=some o){l:aa}{vs:List ah}(e:aN l=true)(q:VL C W l vs):VL C W' l vs:=
 qL (f:=fun _=>none) (fun _ _ _ e=>by cases e) hi (jw e) q
theorem RF(hi: ∀x o,W.im x=some o->W'.im x=some o){p:aC×aC}{c:bF}(e:Ef c=true)(x:iK C W h p c):iK C W' h p c:=by
 cases c with
 |lst _=>obtain⟨a,vs,n,b,r⟩:=x;exact⟨a,vs,n,b,xP hi e r⟩
 |inst cc ks fs=>obtain⟨q0,a,es,n,vs,b,r,z⟩:=x;exact⟨q0,hi _ _ a,es,n,vs,b,xP hi e r,z⟩
 |dct ks fs=>obtain⟨a,q0,o,vs,b,r,z⟩:=x;exact⟨a,q0,o,vs,b,xP hi e r,z⟩
 |orc=>exact x
theorem y5(hi: ∀x o,W.im x=some o->W'.im x=some o){p:aC×aC}{kk:Nat}{l:aa}(x:dU C W h p (.orc kk l)):dU C W' h p (.orc kk l):=by
 obtain⟨c,q,x⟩:=x
 exact⟨c,q,RF hi (C.concFree _ _ _ q) x⟩
theorem amc{f:Nat->Option Nat}(xI: ∀i j p,f i=some j->W.ρ i=some p->W'.ρ j=some p)(hi: ∀x o,W.im x=some o->W'.im x=some o){p:aC×aC}{c c':bF}(e:acm f c=some c')(x:dU C W h p c):dU C W' h p c':=by
 cases c with
 |lst _=>exact I1 (P:=fun c'=>dU C W' h p c') e fun m e1=>let⟨a,vs,n,b,r⟩:=x;⟨a,vs,n,b,qL xI hi e1 r⟩
 |inst cc ks fs=>exact I1 (P:=fun c'=>dU C W' h p c') e fun m e1=>let⟨q0,a,es,n,vs,b,r,z⟩:=x;⟨q0,hi _ _ a,es,n,vs,b,qL xI hi e1 r,z⟩
 |dct ks fs=>exact I1 (P:=fun c'=>dU C W' h p c') e fun m e1=>let⟨a,q0,o,vs,b,r,z⟩:=x;⟨a,q0,o,vs,b,qL xI hi e1 r,z⟩
 |orc=>exact s1 (P:=fun c'=>dU C W' h p c') e (y5 hi x)
theorem SZ{ids:ac}: ∀{n a j:Nat},Z8 n ids a=some j->n<=j/\ids[j-n]? =some a:=by
 induction ids with
 |nil=>exact fun e=>nn e
 |cons b r ih=>
  intro n a j e
  refine bE (show(bif aj a b then some n else Z8 (n+1) r a)=some j from e) (fun q e=> ?_) fun _ e=> ?_
  ·refine s1 (P:=fun j=>n<=j/\(b::r)[j-n]? =some a) e ⟨ax _,?_⟩
   rw[Bi,aD q];rfl
  ·obtain⟨h1,h2⟩:=ih e
   refine⟨ER h1,?_⟩
   rw[<- tC j n,N1 h1];exact h2
theorem ahY{a n:Nat}{c:bF}{l:List (Nat×bF)}(h:a≠n):lk a ((n,c)::l)=lk a l:=by rw[nj,fV,decide_eq_false h];rfl
theorem ahX{n:Nat}{c:bF}{l:List (Nat×bF)}:lk n ((n,c)::l)=some c:=by rw[nj,fV,decide_eq_true rfl];rfl
theorem adF{f:Nat->Option Nat}{ids:ac}: ∀{n:Nat} {cs:List (Nat×bF)},Xo f ai n ids=some cs-> ∀(rest:List (Nat×bF)) (a:Nat),
  (∃i c c',n<=a/\ids[a-n]? =some i/\ai.get i=some c/\acm f c=some c'/\lk a (cs++rest)=some c')\/((a<n\/n+ids.length<=a)/\lk a (cs++rest)=lk a rest):=by
 induction ids with
 |nil=>exact fun{n cs} e rest a=>s1 (P:=fun cs=>_\/((a<n\/n+([]:List Nat).length <=a)/\lk a (cs++rest)=lk a rest)) e (.inr ⟨oK a n,rfl⟩)
 |cons b r ih=>
  intro n cs e rest a
  refine oE (show ob (ai.get b) _=some cs from e) fun c hc e=>oE e fun c' hc' e=>oE e fun m hm e=> ?_
  apply s1 e
  by_cases q:a=n
  ·subst q
   exact .inl ⟨b,c,c',ax _,by rw[Bi];rfl,hc,hc',ahX⟩
  ·rw[eS,ahY q]
   rcases ih hm rest a with⟨i,eM,Cp,h1,h2,h3,h4,h5⟩|⟨h1,h2⟩
   ·exact .inl ⟨i,eM,Cp,ER h1,by rw[<- tC a n,N1 h1];exact h2,h3,h4,h5⟩
   ·refine .inr ⟨h1.imp (fun h=>Nat.lt_of_le_of_ne (EQ h) q) fun h=> ?_,h2⟩
    rw[bM,<- Nat.succ_add_eq_add_succ];exact h
theorem KM{a:Nat}: ∀{l:ac},FP a l=true↔a∈l
 |[]=>by simp[FP]
 |b::r=>by rw[FP,oF,KM,fV,decide_eq_true_iff,aG]
theorem XE: ∀{l:ac},ndN l=true->l.Nodup
 |[],_=>l0
 |a::r,e=>by
  rw[ndN,cG,dY]at e
  refine dL.mpr ⟨fun q=> ?_,XE e.2⟩
  rw[KM.mpr q]at e;cases e.1
def GA(W:Wd)(σ:AS)(ro:Option Nat)(b:aC):Prop:= ∃a c p,some a≠ro/\σ.get a=some c/\W.ρ a=some p/\p.2=b
open Classical in
noncomputable def Wd.loc(W:Wd)(σ:AS)(h:bJ)(ro:Option Nat):Wd:=⟨fun i=>if i=0 then ro.bind W.ρ else none,W.im,fun b=>if GA W σ ro b then h.get? b else W.pr b⟩
noncomputable def PJ(n:Nat)(ids:ac)(a:Nat):Option Nat:=if n<=a then ids[a-n]? else none
noncomputable def Wd.imp(W W':Wd)(n:Nat)(ids:ac):Wd:=⟨fun a=>match PJ n ids a with
 |some i=>W'.ρ i
 |none=>W.ρ a,W'.im,W.pr⟩
theorem I0{ro:Option Nat}{b:aC}(hb:GA W σ ro b):(W.loc σ h ro).pr b=h.get? b:=if_pos hb
theorem CI{ro:Option Nat}{b:aC}(hb: ¬GA W σ ro b):(W.loc σ h ro).pr b=W.pr b:=if_neg hb
theorem cv.loc(R:cv C W σ h){ro:Option Nat}{σ0:AS}(hn:1<=σ0.next\/ro=none)(hc: ∀a c,σ0.get a=some c->a=0/\ ∃r kk l,ro=some r/\c= .orc kk l/\σ.get r=some c):cv C (W.loc σ h ro) σ0 h:=by
 refine⟨R.base,R.im,fun b o e=> ?_,fun b o e=> ?_,fun a ha=> ?_,fun a c e=> ?_,fun a b ca cb p q e e' _ _ _=>(hc a ca e).1.trans (hc b cb e').1.symm⟩
 ·by_cases hb:GA W σ ro b
  ·rw[I0 hb]at e;exact e
  ·rw[CI hb]at e;exact R.pr _ _ e
 ·by_cases hb:GA W σ ro b
  ·obtain⟨a,c,p,_,h2,h3,rfl⟩:=hb
   obtain⟨p',e',_,h4,_⟩:=R.cell a c h2
   rw[h3]at e';cases e';exact h4
  ·rw[CI hb]at e;exact R.dis _ _ e
 ·show(if a=0 then ro.bind W.ρ else none)=none
  rcases hn with hn|rfl
  ·rw[if_neg (by omega)]
  ·split<;>rfl
 ·obtain⟨rfl,r,kk,l,rfl,rfl,hr⟩:=hc a c e
  obtain⟨p,a1,a2,a3,a4⟩:=R.cell _ _ hr
  refine⟨p,by show(if 0=0 then(some r).bind W.ρ else none)=_;rw[if_pos rfl];exact a1,y5 (W':=W.loc σ h (some r)) (W:=W) (fun _ _ e=>e) a2,a3,?_⟩
  rw[CI]
  ·exact a4
  ·rintro⟨a',c',p',h1,h2,h3,h4⟩
   exact h1 (congrArg some (R.inj _ _ _ _ _ _ h2 hr h3 a1 h4))
abbrev apw(σ ai:AS)(ids:List Nat)(f:Nat->Option Nat)(ro:Option Nat)(a:Nat)(c:bF):Prop:=
 (∃i eM,σ.next<=a/\ids[a-σ.next]? =some i/\ai.get i=some eM/\acm f eM=some c)\/
   (some a≠ro/\σ.get a=some c)\/(some a=ro/\(∃eM,σ.get a=some eM)/\(∃kk ll,c= .orc kk ll)/\ai.get 0=some c)
abbrev apt(W W':Wd)(σ ai:AS)(ids:List Nat)(ro:Option Nat)(a:Nat)(c:bF)(p:aC×aC):Prop:=
 (∃i eM,ai.get i=some eM/\W'.ρ i=some p/\W'.pr p.2=none/\((σ.next<=a/\ids[a-σ.next]? =some i)\/(some a=ro/\i=0)))\/(some a≠ro/\σ.get a=some c/\W.ρ a=some p/\ ∃o,W'.pr p.2=some o)
abbrev apq(C:PC)(W:Wd)(h:bJ)(a:Nat)(c:bF):Prop:= ∃p,W.ρ a=some p/\dU C W h p c/\W.im p.2=none/\W.pr p.2=none
theorem cv.imp(R:cv C W σ h){ro:Option Nat}(l:(W.loc σ h ro).le W')(R':cv C W' ai h'){ids:ac}(hnd:ids.Nodup)(h0:ro≠none->0∉ids)(hro: ∀r,ro=some r-> ∃eM,σ.get r=some eM){cells:List (Nat×bF)}{cs:List (Nat×bF)}{f:Nat->Option Nat}
  (hf: ∀i j,f i=some j->(∃r,ro=some r/\i=0/\j=r)\/(σ.next<=j/\ids[j-σ.next]? =some i))(hi:Xo f ai σ.next ids=some cs)
  (hcell: ∀a c,lk a cells=some c->(some a≠ro/\σ.get a=some c)\/(some a=ro/\(∃eM,σ.get a=some eM)/\(∃kk ll,c= .orc kk ll)/\ai.get 0=some c)):
  W.le (W.imp W' σ.next ids)/\cv C (W.imp W' σ.next ids) ⟨σ.next+ids.length,cs++cells⟩ h'/\ ∀a b v,uC f a=some b->V C W' a v->V C (W.imp W' σ.next ids) b v:=by
 have hpr:W'.pr=(W.loc σ h ro).pr:=l.2.2
 have lim: ∀x o,W.im x=some o->W'.im x=some o:=fun x o e=>l.2.1 x o e
 have lt: ∀a p,W.ρ a=some p->a<σ.next:=fun a p e=>by
  by_cases q:σ.next<=a
  ·rw[R.fresh a q]at e;cases e
  ·omega
 have old: ∀a,a<σ.next->(W.imp W' σ.next ids).ρ a=W.ρ a:=fun a ha=>by
  show(match PJ σ.next ids a with|some i=>W'.ρ i|none=>W.ρ a)=_
  unfold PJ;rw[if_neg (by omega)]
 have new: ∀a i,σ.next<=a->ids[a-σ.next]? =some i->(W.imp W' σ.next ids).ρ a=W'.ρ i:=fun a i ha e=>by
  show(match PJ σ.next ids a with|some i=>W'.ρ i|none=>W.ρ a)=_
  unfold PJ;rw[if_pos ha,e]
 have le:W.le (W.imp W' σ.next ids):=⟨fun a p e=>(old a (lt a p e)).trans e,lim,rfl⟩
 have loc0: ∀r p,ro=some r->W.ρ r=some p->W'.ρ 0=some p:=fun r p hr e=>l.1 0 p (by show(if 0=0 then ro.bind W.ρ else none)=_;rw[if_pos rfl,hr];exact e)
 have nr: ∀r,ro=some r-> ∀p,W'.ρ 0=some p-> ∀eM,σ.get r=some eM->W.ρ r=some p:=fun r hr p e eM hc=>by
  obtain⟨p',a1,_⟩:=R.cell r eM hc
  rw[loc0 r p' hr a1]at e;cases e;exact a1
 have xI: ∀i j p,f i=some j->W'.ρ i=some p->(W.imp W' σ.next ids).ρ j=some p:=fun i j p e e'=>by
  rcases hf i j e with⟨r,hr,rfl,rfl⟩|⟨h1,h2⟩
  ·obtain⟨eM,hc⟩:=hro _ hr
   have:=nr _ hr p e' eM hc
   rw[old _ (lt _ _ this)];exact this
  ·rw[new _ _ h1 h2];exact e'
 have Th: ∀b,W'.pr b=none->(∃o,h.get? b=some o)->W.pr b=none:=fun b e ⟨o,ho⟩=>by
  rw[hpr]at e
  by_cases hb:GA W σ ro b
  ·rw[I0 hb,ho]at e;cases e
  ·rw[CI hb]at e;exact e
 have wpr: ∀b o,W.pr b=some o->W'.pr b=some o:=fun b o e=>by
  rw[hpr,CI]
  ·exact e
  ·rintro⟨a,c,p,_,h2,h3,rfl⟩
   obtain⟨p',e',_,_,h4⟩:=R.cell a c h2
   rw[h3]at e';cases e'
   rw[h4]at e;cases e
 have npr: ∀b,W'.pr b=none->W.pr b=none:=fun b e=>by
  cases q:W.pr b with
  |none=>rfl
  |some o=>rw[wpr b o q]at e;cases e
 have src: ∀a c,lk a (cs++cells)=some c->
   apw σ ai ids f ro a c:=fun a c e=>by
  rcases adF hi cells a with⟨i,eM,Cp,h1,h2,h3,h4,h5⟩|⟨_,h2⟩
  ·rw[e]at h5;cases h5;exact .inl ⟨i,eM,h1,h2,h3,h4⟩
  ·rw[h2]at e;exact .inr (hcell a c e)
 refine⟨le,⟨R'.base,R'.im,fun b o e=>R'.pr _ _ (wpr b o e),fun b o e=>R'.dis _ _ (wpr b o e),fun a ha=> ?_,fun a c e=> ?_,fun a b ca cb p q e e' ep eq hpq=> ?_⟩,fun a b v e q=>acl xI (fun _ _ e=>e) e q⟩
 ·have ha:σ.next+ids.length<=a:=ha
  show(match PJ σ.next ids a with|some i=>W'.ρ i|none=>W.ρ a)=none
  unfold PJ
  rw[if_pos (by omega),n6 (by omega)]
  exact R.fresh _ (by omega)
 ·show apq C (W.imp W' σ.next ids) h' a c
  rcases src a c e with⟨i,eM,h1,h2,h3,h4⟩|⟨h1,h2⟩|⟨h1,⟨eM,h2⟩,⟨kk,ll,rfl⟩,h3⟩
  ·obtain⟨p,a1,a2,a3,a4⟩:=R'.cell i eM h3
   exact⟨p,(new _ _ h1 h2).trans a1,amc xI (fun _ _ e=>e) h4 a2,a3,npr _ a4⟩
  ·obtain⟨p,a1,a2,a3,a4⟩:=R.cell a c h2
   have ho:GA W σ ro p.2:=⟨a,c,p,h1,h2,a1,rfl⟩
   obtain⟨o,hx⟩:=a2.some
   have hp':W'.pr p.2=some o:=by rw[hpr,I0 ho];exact hx
   exact⟨p,(old _ (lt _ _ a1)).trans a1,(a2.keeps fun o' z=>by rw[hx]at z;cases z;exact R'.pr _ _ hp').mono0 le.to0,R'.dis _ _ hp',a4⟩
  ·obtain⟨p,a1,a2,a3,a4⟩:=R'.cell 0 _ h3
   have hw:=nr a h1.symm p a1 eM h2
   exact⟨p,(old _ (lt _ _ hw)).trans hw,y5 (W':=W.imp W' σ.next ids) (W:=W') (fun _ _ e=>e) a2,a3,npr _ a4⟩
 ·
  have key: ∀a c p,lk a (cs++cells)=some c->(W.imp W' σ.next ids).ρ a=some p->
    apt W W' σ ai ids ro a c p:=fun a c p e ep=>by
   rcases src a c e with⟨i,eM,h1,h2,h3,h4⟩|⟨h1,h2⟩|⟨h1,⟨eM,h2⟩,⟨kk,ll,rfl⟩,h3⟩
   ·rw[new _ _ h1 h2]at ep
    obtain⟨p',a1,a2,a3,a4⟩:=R'.cell i eM h3
    rw[ep]at a1;cases a1
    exact .inl ⟨i,eM,h3,ep,a4,.inl ⟨h1,h2⟩⟩
   ·obtain⟨p',a1,a2,a3,a4⟩:=R.cell a c h2
    rw[old _ (lt _ _ a1)]at ep
    rw[ep]at a1;cases a1
    obtain⟨o,hx⟩:=a2.some
    exact .inr ⟨h1,h2,ep,o,by rw[hpr,I0 ⟨a,c,p,h1,h2,ep,rfl⟩];exact hx⟩
   ·obtain⟨p',a1,a2,a3,a4⟩:=R'.cell 0 _ h3
    have hw:=nr a h1.symm p' a1 eM h2
    rw[old _ (lt _ _ hw),hw]at ep;cases ep
    exact .inl ⟨0,_,h3,a1,a4,.inr ⟨h1,rfl⟩⟩
  rcases key a ca p e ep with⟨i,eM,i1,i2,i3,i4⟩|⟨h1,h2,h3,o,h4⟩
  ·rcases key b cb q e' eq with⟨j,Cp,j1,j2,j3,j4⟩|⟨h1',h2',h3',o',h4'⟩
   ·have hij:=R'.inj i j _ _ _ _ i1 j1 i2 j2 hpq
    subst hij
    rcases i4 with⟨x1,x2⟩|⟨x1,x2⟩<;>rcases j4 with⟨y1,y2⟩|⟨y1,y2⟩
    ·have hx:=(cP.mp x2).1
     have hy:=(cP.mp y2).1
     have:=(List.getElem?_inj hx hnd).mp (x2.trans y2.symm)
     omega
    ·subst y2
     exact absurd (a8 x2) (h0 (by rw[<- y1];exact fun z=>by cases z))
    ·subst x2
     exact absurd (a8 y2) (h0 (by rw[<- x1];exact fun z=>by cases z))
    ·exact aH (x1.trans y1.symm)
   ·rw[hpq,h4']at i3;cases i3
  ·rcases key b cb q e' eq with⟨j,Cp,j1,j2,j3,j4⟩|⟨h1',h2',h3',o',h4'⟩
   ·rw[<- hpq,h4]at j3;cases j3
   ·exact R.inj a b _ _ _ _ h2 h2' h3 h3' hpq
end
end
section
variable{k:Nat}{C:PC}{W W' W'':Wd}{σ ai:AS}{h h':bJ}
@[elab_as_elim] theorem am0 {f:Nat->Option Nat} {ids:ac} {n:Nat} {cells:List (Nat×bF)} {a b:AV} {ay aM:AS} {P:AS->Prop} (e:imp f ids n cells a ay=some (b,aM)) (kk:ids.Nodup->uC f a=some b-> ∀cs,Xo f ay n ids=some cs->P ⟨n+ids.length,cs++cells⟩):P aM:=
 kS e fun q e=>oE e fun b' hb e=>oE e fun cs hc e=>s2 (P:=fun b aM=>uC f a=some b->P aM) e (fun hb=>kk (XE q) (s2 (P:=fun b _=>uC f a=some b) e hb) cs hc) (s2 (P:=fun b _=>uC f a=some b) e hb)
theorem jc{kF:Nat}{f:ah}{F:aW}{pick:AV->AS->List Nat}(hF:aF C kF f F):aF C kF f (vJ pick F):=fun A Rm W σ s args vs Re hv tk a ai e=>kS e fun q e=>fM e fun xx ay e1 e=>by
 refine am0 e fun hnd hb cs hc=> ?_
 have R0:cv C (W.loc σ s.heap none) ⟨0,[]⟩ s.heap:=Re.loc (.inr rfl) fun a c e=>nn e
 refine eo (hF A Rm (W.loc σ s.heap none) ⟨0,[]⟩ s args vs R0 (xP (W:=W) (W':=W.loc σ s.heap none) (fun _ _ e=>e) q hv) tk xx ay e1) fun v s' ⟨hs,W',le,R',hv'⟩=> ?_
 obtain⟨l2,R2,h2⟩:=Re.imp le R' hnd (fun z=>absurd rfl z) (fun r z=>nn z) (fun i j e=>.inr (SZ e)) hc fun a c e=>.inl ⟨(fun z=>nn z.symm),e⟩
 exact⟨hs,_,l2,R2,h2 _ _ _ hb hv'⟩
theorem alR(a:Nat)(c:bF)(b:Nat)(cells:List (Nat×bF)):lk b (ls a c cells)=if b=a then(lk a cells).map (fun _=>c)else lk b cells:=AS.get_set ⟨0,cells⟩ a c b
theorem alP{c d:bF}{a:Nat}(e:lk a [(0,c)]=some d):a=0/\c=d:=by
 rw[nj]at e
 exact bE e (fun z e=>⟨aD z,aH e⟩) fun _ e=>nn e
theorem adR{r n:Nat}{ids:ac}{i j:Nat}(e:Xu r n ids i=some j):(∃r',some r=some r'/\i=0/\j=r')\/(n<=j/\ids[j-n]? =some i):=by
 cases i with
 |zero=>exact .inl ⟨j,e,rfl,rfl⟩
 |succ i=>exact .inr (SZ e)
theorem alQ{r a kk:Nat}{l:aa}{c:bF}(hr:σ.get r=some (.orc kk l)){k':Nat}{l':aa}{o:Option bF}(h0:o=some (.orc k' l'))(e:lk a (ls r (.orc k' l') σ.cells)=some c):
  (some a≠some r/\σ.get a=some c)\/(some a=some r/\(∃eM,σ.get a=some eM)/\(∃kk ll,c= .orc kk ll)/\o=some c):=by
 rw[alR]at e
 by_cases z:a=r
 ·subst z
  rw[if_pos rfl,show lk a σ.cells=some _ from hr]at e
  exact s1 (P:=fun c=>_\/(some a=some a/\(∃eM,σ.get a=some eM)/\(∃kk ll,c=bF.orc kk ll)/\o=some c)) e (.inr ⟨rfl,⟨_,hr⟩,⟨_,_,rfl⟩,h0⟩)
 ·rw[if_neg z]at e
  exact .inl ⟨fun y=>z (aH y),e⟩
theorem n5{kF:Nat}{f:ah}{F:aW}{pick:AV->AS->List Nat}(hF:aF C kF f F):aF C kF f (ue pick F):=fun A Rm W σ s args vs Re hv tk a ai e=>by
 revert hv
 refine kG e fun b as e=> ?_
 refine ir e fun r e=> ?_
 refine fun hv=>kS e fun q e=>FT e fun kk l hr e=>fM e fun xx ay e1 e=>FT e fun k' l' h0 e=>kN e fun q0 e=> ?_
 refine am0 e fun hnd hb cs hc=> ?_
 refine hv.consE fun v vr hv1 hv2=> ?_
 have R0:cv C (W.loc σ s.heap (some r)) ⟨1,[(0,.orc kk l)]⟩ s.heap:=Re.loc (.inl (ax _)) fun a c e=>let⟨z1,z2⟩:=alP e;⟨z1,r,kk,l,rfl,z2.symm,z2▸hr⟩
 have hv1':V C (W.loc σ s.heap (some r)) (.ref 0) v:=hv1
 refine eo (hF A Rm (W.loc σ s.heap (some r)) ⟨1,[(0,.orc kk l)]⟩ s (.ref 0::as) (v::vr) R0 (VL.cons hv1' (xP (W:=W) (W':=W.loc σ s.heap (some r)) (fun _ _ e=>e) q hv2)) tk xx ay e1) fun v s' ⟨hs,W',le,R',hv'⟩=> ?_
 obtain⟨l2,R2,h2⟩:=Re.imp le R' hnd (fun _ z=>by rw[KM.mpr z]at q0;cases q0) (fun r' z=>⟨_,(aH z)▸hr⟩) (fun i j e=>adR e) hc (cells:=ls r (.orc k' l') σ.cells) fun a c e=>alQ hr h0 e
 exact⟨hs,_,l2,R2,h2 _ _ _ hb hv'⟩
theorem oy(a:Nat)(c c':bF): ∀cells:List (Nat×bF),ls a c (ls a c' cells)=ls a c cells
 |[]=>rfl
 |(b,d)::r=>by
  simp only[ED]
  cases h:aj a b<;>simp[ED,h,oy a c c' r]
theorem TC: ∀(cells:List (Nat×bF)) (a:Nat) (c:bF),lk a cells=some c->ls a c cells=cells
 |[],_,_,_=>rfl
 |(b,d)::r,a,c,h=>by
  simp only[nj]at h
  simp only[ED]
  cases q:aj a b<;>rw[q]at h
  ·simp only[ae]at h ⊢;rw[TC r a c h]
  ·cases h;rw[aD q];rfl
theorem cv.conc(R:cv C W σ h){r kk:Nat}{l:aa}(hr:σ.get r=some (.orc kk l)): ∃c,C.conc kk l c/\cv C W (σ.set r c) h:=by
 obtain⟨p,a1,⟨c,q1,q2⟩,_⟩:=R.cell r _ hr
 exact⟨c,q1,R.set hr a1 (fun _ _ _ e=>e) q2.to⟩
theorem cv.abst(R:cv C W σ h){r kk:Nat}{l:aa}{c:bF}(hr:σ.get r=some c)(hc:C.conc kk l c):cv C W (σ.set r (.orc kk l)) h:=by
 obtain⟨p,a1,a2,_⟩:=R.cell r _ hr
 refine R.set hr a1 (fun _ _ _ e=>e) ⟨c,hc,a2.to0 ?_⟩
 have:=C.concFree _ _ _ hc
 cases c with
 |orc=>cases this
 |_=>rfl
theorem cv.sub{ai:AS}(R:cv C W σ h)(hn:σ.next<=ai.next)(hs: ∀a c,ai.get a=some c->σ.get a=some c):cv C W ai h:=
 ⟨R.base,R.im,R.pr,R.dis,fun a ha=>R.fresh a (au hn ha),fun a c e=>R.cell a c (hs a c e),fun a b ca cb p q e e'=>R.inj a b ca cb p q (hs _ _ e) (hs _ _ e')⟩
theorem uH{kF:Nat}{f:ah}{F F':aW}(hF:aF C kF f F)
  (H: ∀args σ a ai,F' args σ=some (a,ai)-> ∃r kk l,σ.get r=some (.orc kk l)/\ ∀c,C.conc kk l c->(∀b d,σ.get b=some d->b<σ.next)-> ∃ay Cp S7 bz,F args (σ.set r c)=some (a,ay)/\ay.get r=some Cp/\C.conc S7 bz Cp/\ay.next<=ai.next/\
   ∀b d,ai.get b=some d->(b=r/\d= .orc S7 bz)\/(b≠r/\ay.get b=some d)):aF C kF f F':=fun A Rm W σ s args vs Re hv tk a ai e=>by
 obtain⟨r,kk,l,hr,H⟩:=H args σ a ai e
 obtain⟨c,hc,R1⟩:=Re.conc hr
 have hlt: ∀b d,σ.get b=some d->b<σ.next:=fun b d hb=>by
  by_cases q:σ.next<=b
  ·obtain⟨p,e,_⟩:=Re.cell b _ hb
   rw[Re.fresh b q]at e;cases e
  ·omega
 obtain⟨ay,Cp,S7,bz,e1,e2,e3,e4,e5⟩:=H c hc hlt
 refine eo (hF A Rm W _ s args vs R1 hv tk a ay e1) fun v s' ⟨hs,W',le,R',hv'⟩=>⟨hs,W',le,(R'.abst e2 e3).sub e4 fun b d q=> ?_,hv'⟩
 rw[AS.get_set]
 rcases e5 b d q with⟨rfl,rfl⟩|⟨h1,h2⟩
 ·rw[if_pos rfl,e2];rfl
 ·rw[if_neg h1];exact h2
theorem aaI{kF:Nat}{f:ah}{F F':aW}(hF:aF C kF f F)(H: ∀args σ a ai,F' args σ=some (a,ai)->F args σ=some (a,ai)):aF C kF f F':=fun A Rm W σ s args vs Re hv tk a ai e=>hF A Rm W σ s args vs Re hv tk a ai (H _ _ _ _ e)
end
noncomputable def mR{β:Type}(a:AV)(f:Nat->List Nat->List AV->Option β):Option β:=match a with
 | .frz c ks vs=>f c ks vs
 |_=>none
@[elab_as_elim] theorem sY {β:Type} {a:AV} {Q:AV->Prop} {f:Nat->List Nat->List AV->Option β} {r:β} (h:mR a f=some r) (k: ∀c ks vs,f c ks vs=some r->Q (.frz c ks vs)):Q a:=by
 cases a with
 |frz c ks vs=>exact k c ks vs h
 |_=>exact nn h
noncomputable def jH(l:aa):Nat->Option (Option AV):=bo (motive:=fun _=>Nat->Option (Option AV)) (fun _=>some none) (fun a _ ih k=>mR a fun c ks _=>bif aj c 0 then(bif CB ks then ih k else none)else gX (motive:=fun _=>Option (Option AV)) (some (some a)) (fun j _=>ih j) k) l
noncomputable def rL(l:aa):Nat->Option (List AV):=bo (motive:=fun _=>Nat->Option (List AV)) (fun j=>gX (motive:=fun _=>Option (List AV)) (some []) (fun _ _=>none) j) (fun a r ih j=>gX (motive:=fun _=>Option (List AV)) (some (a::r)) (fun i _=>
 mR a fun c ks _=>bif aj c 0 then(bif CB ks then ih (i+1)else none)else gX (motive:=fun _=>Option (List AV)) (some r) (fun i' _=>ih (i'+1)) i) j) l
noncomputable def pF(k:Nat)(t:AV):Option AV:=mR t fun c ks vs=>ob (NF c k ks vs) tc
noncomputable def pT:List Nat:=[110,117,109,98,101,114]
noncomputable def uF:List Nat:=[119,111,114,100]
noncomputable def jk:List Nat:=[115,105,103,110]
noncomputable def Ye:List Nat:=[108,105,116,101,114,97,108]
noncomputable def rd(σ:AS)(r:Nat):Option (List AV):=sr σ r fun d l=>bif aj d 1021 then some l else none
noncomputable def qI(l:aa)(k:Nat)(w:ac):Option Bool:=ob (jH l k) fun o=>od o (fun t=>ob (pF 2 t) fun v=>d8 v fun s=>some (dg s w)) (some false)
noncomputable def QS(l:aa)(k:Nat)(w:ac):Option Bool:=ob (jH l k) fun o=>ob o fun t=>ob (pF 1 t) fun v=>d8 v fun s=>some (dg s w)
noncomputable def vE(l:aa)(k:Nat)(w s:ac):Option Bool:=ob (qI l k w) fun b=>bif b then QS l k s else some false
noncomputable def DC(l:aa)(k:Nat)(ws:List (List Nat)):Option Bool:=bo (motive:=fun _=>Nat->Option Bool) (fun _=>some true) (fun w _ ih k=>ob (vE l k uF w) fun b=>bif b then ih (k+1)else some false) ws k
noncomputable def okW(w:ac):Bool:=dv w.length&&dv (dm 32 [] w).length
noncomputable def aci{β:Type}(l:aa)(f:Nat->Option β):Option β:=bo (motive:=fun _=>Option β) (f 0) (fun a r _=>bo (motive:=fun _=>Option β) (nR a f) (fun _ _ _=>none) r) l
@[elab_as_elim] theorem aat {β:Type} {Q:List AV->Prop} {l:aa} {f:Nat->Option β} {r:β} (h:aci l f=some r) (k0:f 0=some r->Q []) (k1: ∀k,f k=some r->Q [.int (.ofNat k)]):Q l:=by
 cases l with
 |nil=>exact k0 h
 |cons a l=>cases l with
  |nil=>exact mi h k1
  |cons=>exact nn h
noncomputable def self{β:Type}(args:aa)(σ:AS)(f:Nat->List AV->List AV->Option β):Option β:=q9 args fun a as=>ic a fun r=>ob (rd σ r) fun l=>f r as l
theorem ai6{σ:AS}{r:Nat}{l:aa}(h:rd σ r=some l):σ.get r=some (.orc 1021 l):=FT h fun d l' e h=>kS h fun q h=>by
 rw[e,aD q];exact congrArg (fun l=>some (bF.orc 1021 l)) (aH h)
@[elab_as_elim] theorem nZ {β:Type} {Q:List AV->Prop} {args:aa} {σ:AS} {f:Nat->List AV->List AV->Option β} {x:β} (h:self args σ f=some x) (k: ∀r as l,σ.get r=some (.orc 1021 l)->f r as l=some x->Q (.ref r::as)):Q args:=
 kG h fun a as h=>ir (Q:=fun a=>Q (a::as)) h fun r h=>oE h fun l hl h=>k r as l (ai6 hl) h
noncomputable def KO{β:Type}(l:aa)(x:Option β):Option β:=bo (motive:=fun _=>Option β) x (fun _ _ _=>none) l
@[elab_as_elim] theorem Ag {β:Type} {Q:List AV->Prop} {l:aa} {x:Option β} {r:β} (h:KO l x=some r) (k:x=some r->Q []):Q l:=by
 cases l with
 |nil=>exact k h
 |cons a l=>exact nn h
noncomputable def QA{β:Type}(l:aa)(f:List Nat->List AV->Option β):Option β:=q9 l fun a r=>d8 a fun s=>f s r
@[elab_as_elim] theorem K9 {β:Type} {Q:List AV->Prop} {l:aa} {f:List Nat->List AV->Option β} {r:β} (h:QA l f=some r) (k: ∀s m,f s m=some r->Q (.str s::m)):Q l:=
 kG h fun a m h=>fO (Q:=fun a=>Q (a::m)) h fun s h=>k s m h
noncomputable def Ic:aW:=fun args σ=>self args σ fun _ as l=>aci as fun k=>ob (jH l k) fun o=>some (od o some (some .none)|>.getD .none,σ)
noncomputable def Sc:aW:=fun args σ=>self args σ fun _ as l=>QA as fun _ bs=>KO bs (ob (jH l 0) fun o=>ob o fun t=>ob (pF 4 t) fun _=>some (.opq,σ))
noncomputable def vm:aW:=fun args σ=>self args σ fun _ as l=>KO as (ob (jH l 0) fun o=>od o (fun _=>some (.bool false,σ)) (some (.bool true,σ)))
noncomputable def Wc:aW:=fun args σ=>self args σ fun r as l=>KO as (ob (jH l 0) fun o=>ob o fun t=>ob (rL l 1) fun l'=>some (t,σ.set r (.orc 1021 l')))
noncomputable def ajb(o:Option Bool)(σ:AS):Option (AV×AS):=ob o fun b=>some (.bool b,σ)
noncomputable def Lu:aW:=fun args σ=>self args σ fun _ as l=>QA as fun w bs=>aci bs fun k=>ajb (qI l k w) σ
noncomputable def Lv:aW:=fun args σ=>self args σ fun _ as l=>QA as fun w bs=>aci bs fun k=>ajb (vE l k jk w) σ
noncomputable def Lw:aW:=fun args σ=>self args σ fun _ as l=>QA as fun w bs=>KO bs (bif okW w then ajb (DC l 0 (dm 32 [] w)) ⟨σ.next+1,σ.cells⟩else none)
noncomputable def Wb:aW:=fun args σ=>self args σ fun r as l=>QA as fun w bs=>KO bs (bif okW w then ob (DC l 0 (dm 32 [] w)) (fun b=>bif b then ob (rL l (dm 32 [] w).length) (fun l'=>some (.bool true,⟨σ.next+2,ls r (.orc 1021 l') σ.cells⟩))else some (.bool false,⟨σ.next+1,σ.cells⟩))else none)
noncomputable def Fn:aW:=fun args σ=>self args σ fun r as l=>QA as fun w bs=>KO bs (ob (vE l 0 jk w) fun b=>bif b then ob (rL l 1) (fun l'=>some (.bool true,σ.set r (.orc 1021 l')))else some (.bool false,σ))
noncomputable def ul(F:aW)(args:aa):Option AV:=bif aN args then bw (F args ⟨0,[]⟩) (fun a _=>bif noRef a then some a else none)else none
noncomputable def wC(F:aW):aW:=fun args σ=>ob (ul F args) fun a=>some (a,σ)
noncomputable def UD{β:Type}(a:AV)(x:Option β):Option β:=match a with
 | .bool b=>bif b then x else none
 |_=>none
theorem afr{β:Type}{a:AV}{x:Option β}{r:β}{P:Prop}(h:UD a x=some r)(k:a= .bool true->x=some r->P):P:=by
 cases a with
 |bool b=>exact kS h fun hb h=>k (congrArg _ hb) h
 |_=>exact nn h
noncomputable def WO{β:Type}(a:AV)(f:List UInt8->Option β):Option β:=match a with
 | .bytes b=>f b
 |_=>none
theorem acT{β:Type}{a:AV}{f:List UInt8->Option β}{r:β}{P:Prop}(h:WO a f=some r)(k: ∀b,a= .bytes b->f b=some r->P):P:=by
 cases a with
 |bytes b=>exact k b rfl h
 |_=>exact nn h
noncomputable def VR{β:Type}(l:aa)(w:ac)(f:AV->List AV->Option β):Option β:=ob (qI l 0 w) fun b=>bif b then ob (jH l 0) (fun o=>ob o fun t=>ob (pF 1 t) fun v=>ob (rL l 1) fun l'=>f v l')else none
noncomputable def Sd(dec isw who:aW):aW:=fun args σ=>self args σ fun r as l=>KO as (VR l pT fun w l'=>ob (ul dec [w]) fun d=>ob (ul isw [d]) fun b=>UD b (ob (ul who [d]) fun n=>some (n,σ.set r (.orc 1021 l'))))
noncomputable def Og(oct:aW):aW:=fun args σ=>self args σ fun r as l=>KO as (VR l Ye fun w l'=>ob (ul oct [w]) fun v=>WO v fun b=>some (.bytes b,σ.set r (.orc 1021 l')))
noncomputable def xpA(mac:List Nat->List AV)(a:AV)(r:aa):List AV:=match a with
 | .frz c ks _=>bif aj c 0 then mac ks++r else a::r
 |_=>a::r
noncomputable def xp(mac:List Nat->List AV):List AV->List AV
 |[]=>[]
 |a::r=>xpA mac a (xp mac r)
noncomputable def Es:List AV->Bool
 |[]=>true
 |t::_=>(ob (pF 2 t) fun v=>d8 v fun w=>some (!dg w pT)).getD false
noncomputable def HB(a:AV):Bool:=(mR a fun c ks _=>some (aj c 0&&CB ks)).getD false
def u5(mac:List Nat->List AV):List AV->Prop
 |[]=>True
 |a::r=>(HB a=true->Es (xp mac r)=true)/\u5 mac r
noncomputable def cR(L:aa)(m:Nat):bF:=.inst 1021 [38,4,37,36] [.lst L,.int (.ofNat m),.opq,.opq]
def lJ(mac:List Nat->List AV)(l:aa)(c:bF):Prop:=u5 mac l/\ ∃pre,dv (pre.length+(xp mac l).length)=true/\aN pre=true/\aN (xp mac l)=true/\c=cR (pre++xp mac l) pre.length
def cD:List Nat->Int->Prop
 |m::d::r,b=>0<m/\b.fmod (am m)=am d/\cD r (b.fdiv (am m))
 |_,_=>True
noncomputable def xb(bx:List Nat->List AV->List Nat):List AV->List Nat
 |[]=>[]
 |a::r=>match a with
  | .frz _ ks vs=>bx ks vs++xb bx r
  |_=>[]
def afV(bx:List Nat->List AV->List Nat)(VB:AV->Prop)(l:aa)(c:bF):Prop:=(∀a∈l,VB a)/\ ∃b,c= .lst [.int b]/\cD (xb bx l) b
section
variable{mac:List Nat->List AV}
theorem LW(r:aa):rL r 0=some r:=by cases r<;>rfl
theorem EF{c:Nat}{ks:ac}{vs:aa}(r:aa):xp mac (.frz c ks vs::r)=bif aj c 0 then mac ks++xp mac r else .frz c ks vs::xp mac r:=rfl
theorem PK{l:ac}(h:CB l=true):l=[]:=by
 cases l with
 |nil=>rfl
 |cons=>exact ff h
theorem QO(h0:mac []=[]){l:aa}: ∀{k:Nat} {o:Option AV},jH l k=some o->(xp mac l)[k]? =o:=by
 induction l with
 |nil=>exact fun e=>s1 (P:=fun o=>none=o) e rfl
 |cons a r ih=>
  intro k o e
  refine sY (Q:=fun a'=>a'=a->(xp mac (a'::r))[k]? =o) e (fun c ks vs e ha=> ?_) rfl
  rw[EF]
  refine bE e (fun q e=> ?_) fun q e=> ?_
  ·rw[q]
   refine kS e fun q e=> ?_
   rw[PK q,af,h0];exact ih e
  ·rw[q]
   cases k with
   |zero=>exact s1 (P:=fun o=>(bif false then mac ks++xp mac r else AV.frz c ks vs::xp mac r)[0]? =o) e (congrArg some ha)
   |succ j=>exact ih e
theorem ac6(h0:mac []=[]){l:aa}: ∀{j:Nat} {l':aa},u5 mac l->rL l j=some l'->xp mac l'=(xp mac l).drop j/\j<=(xp mac l).length/\u5 mac l':=by
 induction l with
 |nil=>
  intro j l' w e
  cases j with
  |zero=>exact s1 (P:=fun l'=>xp mac l'=[]/\0<=0/\u5 mac l') e ⟨rfl,ax _,w⟩
  |succ j=>exact nn e
 |cons a r ih=>
  intro j l' w e
  cases j with
  |zero=>exact s1 (P:=fun l'=>xp mac l'=xp mac (a::r)/\0<=(xp mac (a::r)).length/\u5 mac l') e ⟨rfl,aU _,w⟩
  |succ j=>
   refine sY (Q:=fun a'=>xp mac l'=(xp mac (a'::r)).drop (j+1)/\j+1<=(xp mac (a'::r)).length/\u5 mac l') e fun c ks vs e=> ?_
   rw[EF]
   refine bE e (fun q e=> ?_) fun q e=> ?_
   ·rw[q]
    refine kS e fun q e=> ?_
    rw[PK q,af,h0];exact ih w.2 e
   ·rw[q]
    have e:rL r j=some l':=by
     cases j with
     |zero=>rw[LW];exact e
     |succ j=>exact e
    have:=ih w.2 e
    exact⟨this.1,ba this.2.1,this.2.2⟩
end
noncomputable def Py(sel:Nat->Bool)(n:Nat)(a:AV)(σ:AS):AV×AS:=(ic a fun x=>CA σ x fun c ks vs=>some (pr (Td sel (ub sel n) ks vs (σ.drop x)) fun vs' ai=>(AV.ref x,(⟨ai.next,(x,.inst c ks vs')::ai.cells⟩:AS)))).getD (a,σ)
noncomputable def I9(g:AV->AS->AV×AS)(F:aW):aW:=fun args σ=>bw (F args σ) fun a ai=>some (g a ai)
noncomputable def de(l:aa):Bool:=l.all fun a=>(mR a fun c _ _=>some (!aj c 0)).getD false
noncomputable def afp{β:Type}(a:AV)(f:List AV->Option β):Option β:=match a with
 | .lst l=>f l
 |_=>none
@[elab_as_elim] theorem ak7 {β:Type} {a:AV} {Q:AV->Prop} {f:List AV->Option β} {r:β} (h:afp a f=some r) (k: ∀l,f l=some r->Q (.lst l)):Q a:=by
 cases a with
 |lst l=>exact k l h
 |_=>exact nn h
noncomputable def Z3(vs:aa):Option (List AV):=q9 vs fun a r=>q9 r fun b r=>afp a fun L=>nR b fun n=>bif aj n 0 then vC r (fun _ _=>some L)else none
noncomputable def anc(F:aW):aW:=fun args σ=>bw (F args σ) fun a ay=>ic a fun x=>CA ay x fun c ks vs=>bif aj c 1021&&dg ks [38,4,37,36]then ob (Z3 vs) (fun L=>bif dv L.length&&aN L&&de L then some (.ref x,ay.set x (.orc 1021 L))else none)else none
noncomputable def drA{β:Type}(a:AV)(f:Nat->Nat->Option β):Option β:=mR a fun _ ks _=>q9 ks fun m r=>q9 r fun d r=>bif CB r then f m d else none
noncomputable def Bo:aW:=fun args σ=>vC args fun a b=>ic a fun x=>nR b fun m=>sr σ x fun k l=>bif aj k 0 then q9 l (fun t r=>drA t fun m' d=>bif aj m m'&&bt m 1000 then some (.int (.ofNat d),σ.set x (.orc 0 r))else none)else none
noncomputable def afx(path:Int->List AV)(F:aW):aW:=fun args σ=>q7 args fun a=>ic a fun x=>np σ x fun l=>q7 l fun v=>eP v fun b=>F [.ref x] (σ.set x (.orc 0 (path b)))
noncomputable def am7(c:Nat)(F:aW):gM:=fun a σ=>ic a fun x=>sr σ x fun d _=>bif aj c d then some F else none
noncomputable def cg:Nat:=680
noncomputable def nB:Nat:=633
noncomputable def lI:Nat:=605
noncomputable def UK:Nat:=204
noncomputable def Zj:Nat:=706
noncomputable def names:List (List Nat):=[[70,49,45,82,69,67],
 [79,76,68,45,82,69,67],
 [87],
 [86,45,49],
 [65,82,71],
 [70,49,45,82,69,67,45,71],
 [79,76,68,45,82,69,67,45,71],
 [87,45,71],
 [86,45,49,45,71],
 [65,82,71,45,71],
 [70,73,76,76,69,82],
 [70,49,45,82,69,67,45,66],
 [79,76,68,45,82,69,67,45,66],
 [87,45,66],
 [86,45,49,45,66],
 [65,82,71,45,66],
 [76,79,87],
 [70,49,45,82,69,67,45,82],
 [79,76,68,45,82,69,67,45,82],
 [87,45,82],
 [86,45,49,45,82],
 [65,82,71,45,82],
 [72,73,71,72,45,79,78,69]]
noncomputable def nm(i:Nat):List Nat:=(Qd names i).getD []
noncomputable def iU:List (Nat×Nat×Nat):=[(0,0,3),(0,1,3),(0,2,3),(0,3,3),(1,0,3),(1,1,3),(1,2,3),(1,3,3),(2,0,3),(2,1,3),(2,2,3),(2,3,3),(3,0,3),(3,1,3),(3,2,3),(3,3,3),(4,0,3),(4,1,3),(4,2,3),(4,3,3),(0,0,0),(0,0,1),(0,0,2),(0,1,0),(0,1,1),(0,1,2),(0,2,0),(0,2,1),(0,2,2),(0,3,0),(0,3,1),(0,3,2),(1,0,0),(1,0,1),(1,0,2),(1,1,0),(1,1,1),(1,1,2),(1,2,0),(1,2,1),(1,2,2),(1,3,0),(1,3,1),(1,3,2)]
noncomputable def dF:List (Nat×Nat×Nat):=[(5,0,3),(5,1,3),(5,2,3),(5,3,3),(6,0,3),(6,1,3),(6,2,3),(6,3,3),(7,0,3),(7,1,3),(7,2,3),(7,3,3),(8,0,3),(8,1,3),(8,2,3),(8,3,3),(9,0,3),(9,1,3),(9,2,3),(9,3,3),(10,0,0),(10,0,1),(10,0,2),(10,1,0),(10,1,1),(10,1,2),(10,2,0),(10,2,1),(10,2,2),(10,3,0),(10,3,1),(10,3,2),(11,0,0),(11,0,1),(11,0,2),(11,1,0),(11,1,1),(11,1,2),(11,2,0),(11,2,1),(11,2,2),(11,3,0),(11,3,1),(11,3,2),(12,0,0),(12,0,1),(12,0,2),(12,1,0),(12,1,1),(12,1,2),(12,2,0),(12,2,1),(12,2,2),(12,3,0),(12,3,1),(12,3,2),(13,0,0),(13,0,1),(13,0,2),(13,1,0),(13,1,1),(13,1,2),(13,2,0),(13,2,1),(13,2,2),(13,3,0),(13,3,1),(13,3,2),(14,0,0),(14,0,1),(14,0,2),(14,1,0),(14,1,1),(14,1,2),(14,2,0),(14,2,1),(14,2,2),(14,3,0),(14,3,1),(14,3,2),(15,0,0),(15,0,1),(15,0,2),(15,1,0),(15,1,1),(15,1,2),(15,2,0),(15,2,1),(15,2,2),(15,3,0),(15,3,1),(15,3,2)]
noncomputable def sp:List (Nat×Nat×Nat):=[(16,0,0),(16,0,1),(16,0,2),(16,1,0),(16,1,1),(16,1,2),(16,2,0),(16,2,1),(16,2,2),(16,3,0),(16,3,1),(16,3,2)]
noncomputable def gz:List (Nat×Nat×Nat):=[(2,0,0),(2,0,1),(2,0,2),(2,1,0),(2,1,1),(2,1,2),(2,2,0),(2,2,1),(2,2,2),(2,3,0),(2,3,1),(2,3,2),(3,0,0),(3,0,1),(3,0,2),(3,1,0),(3,1,1),(3,1,2),(3,2,0),(3,2,1),(3,2,2),(3,3,0),(3,3,1),(3,3,2),(4,0,0),(4,0,1),(4,0,2),(4,1,0),(4,1,1),(4,1,2),(4,2,0),(4,2,1),(4,2,2),(4,3,0),(4,3,1),(4,3,2)]
noncomputable def kT(lvl:Nat):List (Nat×Nat×Nat):=bif aj lvl 1 then iU else bif aj lvl 5 then dF else bif aj lvl 10 then sp else gz
noncomputable def kd(lvl i:Nat):Nat×Nat×Nat:=(Qd (kT lvl) i).getD ((Qd (kT lvl) 0).getD (0,0,3))
noncomputable def anl(w:Nat):List Nat:=bif aj w 1 then[112,97,99,107,101,100]else[]
noncomputable def Qf(w:Nat):AV:=bif aj w 2 then .frz lI [8,9,7,6,5] [.int 3,.int 3,.none,.tup [.tup [.bool false,.str [75]]],.tup [.str [73,88]]]
 else bif aj w 3 then .frz lI [8,9,7,6,5] [.int 0,.int 4,.tup [.str [114,101,102],.str [78],.tup [.str [71]],.tup [],.none],.tup [],.tup []]else .none
noncomputable def xR(p:Nat):AV:=bif aj p 0 then .str [88,40,52,41]else bif aj p 1 then .str [83,57,40,51,41,86,57,57]else bif aj p 2 then .str [90,90,57,46,57,57]else .none
noncomputable def fW:List Nat:=[20,18,16,15,10,35,14,17,11,13,12,23,22,34,21,33,32,31,30]
noncomputable def j6(x:Nat×Nat×Nat)(conds kids par ren:AV):List AV:=[.str (nm x.1),xR x.2.2,.str (anl x.2.1),.str [],.bool false,Qf x.2.1,.str [],.none,.bool false,.bool false,conds,kids,par,ren,.str [],.int 0,.int 0,.none]
noncomputable def Xr(lvl i:Nat)(conds kids par:AV):List AV:=.int (am lvl)::j6 (kd lvl i) conds kids par .none
noncomputable def qk(n:Nat):AV:=.frz nB [18,19] [.str ([73,83,45]++nm n),.tup [.tup [.tup [.str [110,117,109,98,101,114],.tup [.int (-5),.int 0]],.tup [.str [110,117,109,98,101,114],.tup [.int 125,.int 2]]],.tup [.tup [.str [116,101,120,116],.bytes [113]],.none]]]
noncomputable def xX(l:Nat):AV:=.tup [.str (nm 16),bif aj l 0 then .none else .str (nm 22)]
noncomputable def j8(n l:Nat)(par:AV):List AV:=.int 66::[.str (nm n),.none,.str [],.str [],.bool false,.none,.str [],.none,.bool false,.bool false,.lst [],.lst [],par,xX l,.str [],.int 0,.int 0,.none]
noncomputable def nU(_:AV)(_:AS):List Nat:=[]
noncomputable def aay(a:AV)(_:AS):List Nat:=(ic a fun x=>some [x]).getD []
noncomputable def rfO(o:Option AV):Option Nat:=ob o fun a=>ic a some
noncomputable def wB(a:AV)(σ:AS):List Nat:=(ic a fun x=>CA σ x fun _ ks vs=>od (rfO (xG 22 ks vs)) (fun k=>od (rfO (xG 23 ks vs)) (fun c=>some [c,k,x]) (some [k,x])) (some [x])).getD []
noncomputable def ab6{β:Type}(a:AV)(f:List Nat->Option β):Option β:=mR a fun c ks _=>bif aj c 0 then f ks else none
noncomputable def aaj(σ:AS)(r:Nat)(l:aa)(cd:aa)(f:AV->AV->List AV):Option (AV×AS):=some (.ref (σ.next+2),⟨σ.next+3,(σ.next,.lst cd)::(σ.next+1,.lst [])::(σ.next+2,.inst cg fW (f (.ref σ.next) (.ref (σ.next+1))))::ls r (.orc 1021 l) σ.cells⟩)
noncomputable def ah6(n:Nat)(a b:AV):List AV:=.int 88::[.str ([73,83,45]++nm n),.none,.str [],.str [],.bool false,.none,.str [],.none,.bool false,.bool false,a,b,.none,.none,.str [],.int 0,.int 0,.none]
noncomputable def aix(n l:Nat)(a b:AV):List AV:=.int 66::[.str (nm n),.none,.str [],.str [],.bool false,.none,.str [],.none,.bool false,.bool false,a,b,.none,xX l,.str [],.int 0,.int 0,.none]
noncomputable def ai7(σ:AS)(r:Nat)(l:aa)(m x y:Nat):Option (AV×AS):=bif aj m 1 then aaj σ r l [] (fun a b=>Xr x y a b .none)else bif aj m 2 then aaj σ r l [qk (kd x y).1] (ah6 (kd x y).1)else bif aj m 3 then aaj σ r l [] (aix (17+(kd 1 x).1) y)else none
noncomputable def Le{β:Type}(ks:ac)(f:Nat->Nat->Nat->Option β):Option β:=q9 ks fun m ks=>q9 ks fun x ks=>q9 ks fun y ks=>bif CB ks then f m x y else none
noncomputable def wl:aW:=fun args σ=>self args σ fun r as L=>KO as (q9 L fun t l=>ab6 t fun ks=>Le ks (ai7 σ r l))
noncomputable def an8(σ:AS)(m:Nat):Option (AV×AS):=bif cT 1 m&&cT m 3 then some (.bool true,σ)else none
noncomputable def p8:aW:=fun args σ=>self args σ fun _ as L=>KO as (bo (motive:=fun _=>Option (AV×AS)) (some (.bool false,σ)) (fun t _ _=>ab6 t fun ks=>bif CB ks then some (.bool false,σ)else Le ks fun m _ _=>an8 σ m) L)
structure Lf where
 i:Nat
 c:Bool
inductive Tn where
 |leaf(l:Lf)
 |grp(g a:Lf)
 |grp2(g a b:Lf)
structure Rt where
 lvl:Nat
 it:Lf
 ts:List Tn
 ren:Nat
noncomputable def UP(c:Bool):Nat:=bif c then 1 else 0
noncomputable def Xa(l:Lf):List Nat:=[l.i,UP l.c]
noncomputable def ZE:Tn->List Nat
 | .leaf l=>0::Xa l
 | .grp g a=>1::(Xa g++Xa a)
 | .grp2 g a b=>2::(Xa g++Xa a++Xa b)
noncomputable def Xb(r:Rt):List Nat:=r.lvl::(Xa r.it++r.ren::(r.ts.map ZE).flatten)
noncomputable def G7(n:Nat):Bool:=aj n 1
noncomputable def UO:Nat->List Nat->List Tn
 |0,_=>[]
 |n+1,l=>match l with
  |0::i::c::r=>.leaf ⟨i,G7 c⟩::UO n r
  |1::i::c::j::d::r=>.grp ⟨i,G7 c⟩ ⟨j,G7 d⟩::UO n r
  |2::i::c::j::d::k::e::r=>.grp2 ⟨i,G7 c⟩ ⟨j,G7 d⟩ ⟨k,G7 e⟩::UO n r
  |_=>[]
noncomputable def A9(l:ac):Rt:=match l with
 |lvl::i::c::ren::r=>⟨lvl,⟨i,G7 c⟩,UO 8 r,ren⟩
 |_=>⟨77,⟨0,false⟩,[],0⟩
theorem za(c:Bool):G7 (UP c)=c:=by cases c<;>rfl
theorem abI: ∀(ts:List Tn) (n:Nat),ts.length<=n->UO n (ts.map ZE).flatten=ts
 |[],0,_=>rfl
 |[],n+1,_=>rfl
 |t::ts,n+1,h=>by
  have ih:=abI ts n (m7 h)
  cases t with
  |leaf l=>
   show Tn.leaf ⟨l.i,G7 (UP l.c)⟩::UO n (ts.map ZE).flatten=_
   rw[ih,za]
  |grp g a=>
   show Tn.grp ⟨g.i,G7 (UP g.c)⟩ ⟨a.i,G7 (UP a.c)⟩::UO n (ts.map ZE).flatten=_
   rw[ih,za,za]
  |grp2 g a b=>
   show Tn.grp2 ⟨g.i,G7 (UP g.c)⟩ ⟨a.i,G7 (UP a.c)⟩ ⟨b.i,G7 (UP b.c)⟩::UO n (ts.map ZE).flatten=_
   rw[ih,za,za,za]
theorem NC(r:Rt)(h:r.ts.length<=8):A9 (Xb r)=r:=by
 show(⟨r.lvl,⟨r.it.i,G7 (UP r.it.c)⟩,UO 8 (r.ts.map ZE).flatten,r.ren⟩:Rt)=r
 rw[abI _ _ h,za]
noncomputable def e1(lvl i:Nat):AV:=.frz 0 [1,lvl,i] []
noncomputable def e2(lvl i:Nat):AV:=.frz 0 [2,lvl,i] []
noncomputable def e3(i l:Nat):AV:=.frz 0 [3,i,l] []
noncomputable def Yw:AV:=.frz 0 [] []
noncomputable def j0(lvl:Nat)(l:Lf):Nat:=(kd lvl l.i).1
noncomputable def Cr(lvl:Nat)(l:Lf):List AV:=e1 lvl l.i::(match l.c with
 |true=>[e2 lvl l.i]
 |false=>[])
noncomputable def agc:Tn->List AV
 | .leaf l=>Cr 5 l
 | .grp g a=>Cr 5 g++Cr 10 a
 | .grp2 g a b=>Cr 5 g++(Cr 10 a++Cr 10 b)
noncomputable def UR:List Tn->List AV
 |[]=>[]
 |t::ts=>agc t++UR ts
noncomputable def agb(r:Rt):List AV:=match r.ren with
 |0=>[]
 |l+1=>[e3 r.it.i l]
noncomputable def FI(r:Rt):List AV:=Cr r.lvl r.it++(UR r.ts++agb r)
noncomputable def conds(lvl:Nat)(l:Lf):AV:=.lst (match l.c with
 |true=>[qk (j0 lvl l)]
 |false=>[])
noncomputable def ol(lvl:Nat)(l:Lf)(par:AV):AV:=.frz cg fW (Xr lvl l.i (conds lvl l) (.lst []) par)
noncomputable def sE:Tn->AV
 | .leaf l=>ol 5 l .opq
 | .grp g a=>.frz cg fW (Xr 5 g.i (conds 5 g) (.lst [ol 10 a .opq]) .opq)
 | .grp2 g a b=>.frz cg fW (Xr 5 g.i (conds 5 g) (.lst [ol 10 a .opq,ol 10 b .opq]) .opq)
noncomputable def Dx:List Tn->List AV
 |[]=>[]
 |t::ts=>sE t::Dx ts
noncomputable def qK(r:Rt):List AV:=match r.ren with
 |0=>[]
 |l+1=>[.frz cg fW (j8 (17+j0 1 r.it) l .opq)]
noncomputable def Dd(r:Rt):List AV:=j6 (kd r.lvl r.it.i) (conds r.lvl r.it) (.lst (Dx r.ts++qK r)) .none .none
noncomputable def d4(r:Rt):AV:=.frz cg fW (.int (am r.lvl)::Dd r)
noncomputable def ajl(k:Nat):Bool:=aj k 22||(aj k 23||aj k 34)
noncomputable def anf(k:Nat):Bool:=aj k 23
noncomputable def ang(k:Nat):Bool:=(cT 24 k&&cT k 27)||(aj k 5||ajl k)
noncomputable def nt:aW:=fun args σ=>self args σ fun r as L=>KO as (q9 L fun t L=>q9 L fun t' l=>bif HB t' then ab6 t (fun ks=>q9 ks fun m ks=>bif aj m 4 then q9 ks (fun lvl code=>some (.lst [.frz cg fW (.int (am lvl)::Dd (A9 (lvl::code)))],σ.set r (.orc 1021 l)))else none)else none)
noncomputable def IP(x:ac):List (List Nat)->Nat->Nat
 |[],i=>i
 |a::r,i=>bif dg a x then i else IP x r (i+1)
noncomputable def mV(d:Nat):Nat:=bif aj d 4 then 0 else d
noncomputable def Fc(lvl n w p:Nat):Nat:=bif aj p 3 then(bif aj lvl 1 then 4*n+w else 4*(n-5)+w)
 else bif aj lvl 1 then 20+12*n+3*w+p else bif aj lvl 5 then 20+12*(n-10)+3*w+p else bif aj lvl 10 then 3*w+p else 12*(n-2)+3*w+p
noncomputable def CD(d:Nat):Bool:=aj d 0
noncomputable def PR(lvl n:Nat):Nat:=bif aj lvl 77&&cT n 1 then 1 else lvl
noncomputable def Vl(lvl n:Nat):Bool:=(aj lvl 1&&bt n 5)||(aj lvl 5&&(cT 5 n&&bt n 10))
noncomputable def Vm(lvl n:Nat):Bool:=(aj lvl 77&&bt n 5)||((aj lvl 5&&(cT 10 n&&bt n 16))||(aj lvl 10&&aj n 16))
noncomputable def abp{β:Type}(σ:AS)(x:Nat)(f:Nat->List Nat->List AV->Option β):Option β:=sr σ x fun k l=>bif aj k 0 then q9 l (fun t r=>mR t fun _ ks _=>q9 ks fun m ks=>f m ks r)else none
noncomputable def ah5(σ:AS)(x:Nat)(r:aa)(lvl L:Nat)(f:Lf):Option (AV×AS):=some (.ref (σ.next+1),⟨σ.next+2,(σ.next,.lst [])::(σ.next+1,.inst cg fW (.int (am lvl)::j6 (kd L f.i) (conds L f) (.ref σ.next) .none .none))::ls x (.orc 0 r) σ.cells⟩)
noncomputable def apP(σ:AS)(x lvl:Nat)(s:ac)(n:Nat):Option (AV×AS):=bif dg (nm n) s&&Vl lvl n then abp σ x (fun m ks r=>bif aj m 5 then q9 ks (fun d ks=>q9 ks fun e ks=>bif CB ks then ah5 σ x r lvl lvl ⟨Fc lvl n (mV d) 3,CD e⟩else none)else none)else none
noncomputable def Bp:aW:=fun args σ=>WN args fun a b d=>ic a fun x=>nR b fun lvl=>d8 d fun s=>apP σ x lvl s (IP s names 0)
noncomputable def apQ(σ:AS)(x lvl:Nat)(s:ac)(n L:Nat):Option (AV×AS):=bif dg (nm n) s&&Vm lvl n then abp σ x (fun m ks r=>bif aj m 6 then Le ks (fun d e p=>ah5 σ x r lvl L ⟨Fc L n (mV d) p,CD e⟩)else none)else none
noncomputable def Bq:aW:=fun args σ=>WN args fun a b d=>ic a fun x=>nR b fun lvl=>d8 d fun s=>apQ σ x lvl s (IP s names 0) (PR lvl (IP s names 0))
noncomputable def Br:aW:=fun args σ=>vC args fun a d=>ic a fun x=>d8 d fun s=>abp σ x fun m ks r=>bif aj m 9 then q9 ks (fun n ks=>q9 ks fun lv code=>bif dg (nm n) s then some (.ref σ.next,⟨σ.next+1,(σ.next,.inst cg fW (.int (am lv)::Dd (A9 code)))::ls x (.orc 0 r) σ.cells⟩)else none)else none
structure LD where
 d:Nat
 e:Nat
 p:Nat
inductive TD where
 |leaf(z nb:Nat)(l:LD)
 |grp(d e:Nat)(a:LD)
 |grp2(d e:Nat)(a b:LD)
inductive RD where
 |alone(l:LD)
 |std(a d e:Nat)(ts:List TD)(q:Nat)
 |recR(a d e:Nat)(ts:List TD)(l:Nat)
noncomputable def PS(l:LD):List Nat:=[5,l.d,4,l.e,3,l.p]
noncomputable def tdD:TD->List Nat
 | .leaf z nb l=>3::(z+1)::2::nb::PS l
 | .grp d e a=>3::0::5::d::4::e::2::0::PS a
 | .grp2 d e a b=>3::0::5::d::4::e::2::1::(PS a++PS b)
noncomputable def AJ:List TD->List Nat
 |[]=>[]
 |t::ts=>tdD t++AJ ts
noncomputable def Jf:RD->List Nat
 | .alone l=>4::0::PS l
 | .std a d e ts q=>4::(a+1)::5::d::4::e::3::ts.length::(AJ ts++[4,q+1])
 | .recR a d e ts l=>4::(a+1)::5::d::4::e::3::ts.length::(AJ ts++[4,0,2,l])
noncomputable def m2(m d:Nat):AV:=.frz 0 [m,d] []
noncomputable def m5(d e:Nat):AV:=.frz 0 [5,d,e] []
noncomputable def m6(l:LD):AV:=.frz 0 [6,l.d,l.e,l.p] []
noncomputable def tdM:TD->List AV
 | .leaf z nb l=>[m2 3 (z+1),m2 2 nb,m6 l]
 | .grp d e a=>[m2 3 0,m5 d e,m2 2 0,m6 a]
 | .grp2 d e a b=>[m2 3 0,m5 d e,m2 2 1,m6 a,m6 b]
noncomputable def Mr:List TD->List AV
 |[]=>[]
 |t::ts=>tdM t++Mr ts
noncomputable def rdM:RD->List AV
 | .alone l=>[m2 4 0,m6 l]
 | .std a d e ts q=>m2 4 (a+1)::m5 d e::m2 3 ts.length::(Mr ts++[m2 4 (q+1)])
 | .recR a d e ts l=>m2 4 (a+1)::m5 d e::m2 3 ts.length::(Mr ts++[m2 4 0,m2 2 l])
noncomputable def S9(lvl n:Nat)(l:LD):Lf:=⟨Fc lvl n (mV l.d) l.p,CD l.e⟩
noncomputable def ab2(lvl n d e:Nat):Lf:=⟨Fc lvl n (mV d) 3,CD e⟩
noncomputable def aqs(n:Nat):TD->Tn
 | .leaf _ nb l=>.leaf (S9 5 (match nb with
  |0=>10
  |_=>11+n) l)
 | .grp d e a=>.grp (ab2 5 (5+n) d e) (S9 10 16 a)
 | .grp2 d e a b=>.grp2 (ab2 5 (5+n) d e) (S9 10 16 a) (S9 10 16 b)
noncomputable def HE(n:Nat):List TD->List Tn
 |[]=>[]
 |t::ts=>aqs n t::HE n ts
noncomputable def jy(n:Nat):RD->Rt
 | .alone l=>⟨PR 77 n,S9 (PR 77 n) n l,[],0⟩
 | .std _ d e ts _=>⟨1,ab2 1 n d e,HE n ts,0⟩
 | .recR _ d e ts l=>⟨1,ab2 1 n d e,HE n ts,l+1⟩
noncomputable def RM:RD->Nat
 | .alone _=>77
 |_=>1
def Ai:TD->Prop
 | .leaf _ nb _=>nb<2
 |_=>True
def FS:RD->Prop
 | .alone _=>True
 | .std _ _ _ ts _=>ts.length<=2/\ ∀t∈ts,Ai t
 | .recR _ _ _ ts l=>ts.length<=2/\(∀t∈ts,Ai t)/\l<2
noncomputable def m9(n:Nat)(rd:RD):AV:=.frz 0 (9::n::RM rd::Xb (jy n rd)) [.frz 0 (Jf rd) []]
noncomputable def bx(ks:ac)(vs:aa):List Nat:=match ks with
 |[m,d]=>[m,d]
 |[5,d,e]=>[5,d,4,e]
 |[6,d,e,p]=>[5,d,4,e,3,p]
 |9::_=>(match vs with
  |[.frz _ raw _]=>raw
  |_=>[])
 |_=>[]
def VB(a:AV):Prop:=match a with
 | .frz _ (9::r) _=> ∃n rd,a=m9 n rd/\n<5/\FS rd
 |_=>True
noncomputable def gZ(m:Nat)(b:Int):Nat:=(b.fmod (am m)).toNat
noncomputable def bP(m:Nat)(b:Int):Int:=b.fdiv (am m)
theorem jK{m:Nat}(hm:0<m){b:Int}{r:ac}(h:cD r (bP m b)):cD (m::gZ m b::r) b:=by
 refine⟨hm,?_,h⟩
 have:0<=b.fmod (am m):=mW b (by simpa using hm)
 unfold gZ
 exact(A2 this).symm
theorem i9{m d:Nat}(hm:0<m){b:Int}{r:ac}(hd:gZ m b=d)(h:cD r (bP m b)):cD (m::d::r) b:=hd▸jK hm h
theorem ml{m:Nat}(hm:0<m)(b:Int):gZ m b<m:=by
 have h1:b.fmod (am m)<am m:=qT b (by simpa using hm)
 have h0:0<=b.fmod (am m):=mW b (by simpa using hm)
 unfold gZ
 have:=A2 h0
 have h2:(am m)=(m:Int):=rfl
 omega
noncomputable def ldP(b:Int):LD:=⟨gZ 5 b,gZ 4 (bP 5 b),gZ 3 (bP 4 (bP 5 b))⟩
noncomputable def ldN(b:Int):Int:=bP 3 (bP 4 (bP 5 b))
theorem PT{b:Int}{r:ac}(h:cD r (ldN b)):cD (PS (ldP b)++r) b:=
 jK (by decide) (jK (by decide) (jK (by decide) h))
noncomputable def RU(b:Int):TD×Int:=match gZ 3 b with
 |z+1=>(.leaf z (gZ 2 (bP 3 b)) (ldP (bP 2 (bP 3 b))),ldN (bP 2 (bP 3 b)))
 |0=>match gZ 2 (bP 4 (bP 5 (bP 3 b)))with
  |0=>(.grp (gZ 5 (bP 3 b)) (gZ 4 (bP 5 (bP 3 b))) (ldP (bP 2 (bP 4 (bP 5 (bP 3 b))))),ldN (bP 2 (bP 4 (bP 5 (bP 3 b)))))
  |_+1=>(.grp2 (gZ 5 (bP 3 b)) (gZ 4 (bP 5 (bP 3 b))) (ldP (bP 2 (bP 4 (bP 5 (bP 3 b))))) (ldP (ldN (bP 2 (bP 4 (bP 5 (bP 3 b)))))),ldN (ldN (bP 2 (bP 4 (bP 5 (bP 3 b))))))
theorem apd{b:Int}{r:ac}(h:cD r (RU b).2):cD (tdD (RU b).1++r) b/\Ai (RU b).1:=by
 unfold RU at h ⊢
 split at h
 ·rename_i z hz
  refine⟨?_,ml (by decide) _⟩
  show cD (3::(z+1)::2::_::(PS _++r)) b
  exact i9 (by decide) hz (jK (by decide) (PT h))
 ·rename_i hz
  split at h
  ·rename_i hk
   refine⟨?_,trivial⟩
   show cD (3::0::5::_::4::_::2::0::(PS _++r)) b
   refine i9 (by decide) hz (jK (by decide) (jK (by decide) ?_))
   exact i9 (by decide) hk (PT h)
  ·rename_i n hk
   have hn:n=0:=by
    have:=ml (m:=2) (by decide) (bP 4 (bP 5 (bP 3 b)))
    omega
   subst hn
   refine⟨?_,trivial⟩
   show cD (3::0::5::_::4::_::2::1::((PS _++PS _)++r)) b
   refine i9 (by decide) hz (jK (by decide) (jK (by decide) ?_))
   refine i9 (by decide) hk ?_
   rw[aB]
   exact PT (PT h)
noncomputable def sD:Nat->Int->List TD×Int
 |0,b=>([],b)
 |n+1,b=>((RU b).1::(sD n (RU b).2).1,(sD n (RU b).2).2)
theorem VN: ∀(n:Nat) {b:Int} {r:ac},cD r (sD n b).2->cD (AJ (sD n b).1++r) b/\(sD n b).1.length=n/\ ∀t∈(sD n b).1,Ai t
 |0,b,r,h=>⟨h,rfl,fun _ ht=>by cases ht⟩
 |n+1,b,r,h=>by
  obtain⟨h1,h2,h3⟩:=VN n (b:=(RU b).2) h
  obtain⟨h4,h5⟩:=apd h1
  refine⟨?_,congrArg nM h2,fun t ht=> ?_⟩
  ·show cD ((tdD (RU b).1++AJ (sD n (RU b).2).1)++r) b
   rw[aB];exact h4
  ·rcases aG.mp ht with rfl|ht
   ·exact h5
   ·exact h3 t ht
noncomputable def Ba(b:Int):RD×Int:=match gZ 4 b with
 |0=>(.alone (ldP (bP 4 b)),ldN (bP 4 b))
 |a+1=>match sD (gZ 3 (bP 4 (bP 5 (bP 4 b)))) (bP 3 (bP 4 (bP 5 (bP 4 b))))with
  |(ts,b')=>match gZ 4 b' with
   |0=>(.recR a (gZ 5 (bP 4 b)) (gZ 4 (bP 5 (bP 4 b))) ts (gZ 2 (bP 4 b')),bP 2 (bP 4 b'))
   |q+1=>(.std a (gZ 5 (bP 4 b)) (gZ 4 (bP 5 (bP 4 b))) ts q,bP 4 b')
theorem KW{b:Int}{r:ac}(h:cD r (Ba b).2):cD (Jf (Ba b).1++r) b/\FS (Ba b).1:=by
 unfold Ba at h ⊢
 split at h
 ·rename_i hz
  refine⟨?_,trivial⟩
  show cD (4::0::(PS _++r)) b
  exact i9 (by decide) hz (PT h)
 ·rename_i a hz
  have key: ∀r',cD r' (sD (gZ 3 (bP 4 (bP 5 (bP 4 b)))) (bP 3 (bP 4 (bP 5 (bP 4 b))))).2->cD (4::(a+1)::5::gZ 5 (bP 4 b)::4::gZ 4 (bP 5 (bP 4 b))::3::(sD (gZ 3 (bP 4 (bP 5 (bP 4 b)))) (bP 3 (bP 4 (bP 5 (bP 4 b))))).1.length::(AJ (sD (gZ 3 (bP 4 (bP 5 (bP 4 b)))) (bP 3 (bP 4 (bP 5 (bP 4 b))))).1++r')) b:=fun r' h'=>by
   obtain⟨h1,h2,h3⟩:=VN _ h'
   rw[h2]
   exact i9 (by decide) hz (jK (by decide) (jK (by decide) (jK (by decide) h1)))
  have lens:(sD (gZ 3 (bP 4 (bP 5 (bP 4 b)))) (bP 3 (bP 4 (bP 5 (bP 4 b))))).1.length <=2/\ ∀t∈(sD (gZ 3 (bP 4 (bP 5 (bP 4 b)))) (bP 3 (bP 4 (bP 5 (bP 4 b))))).1,Ai t:=by
   obtain⟨_,h2,h3⟩:=VN (gZ 3 (bP 4 (bP 5 (bP 4 b)))) (b:=bP 3 (bP 4 (bP 5 (bP 4 b)))) (r:=[]) trivial
   exact⟨by rw[h2];have:=ml (m:=3) (by decide) (bP 4 (bP 5 (bP 4 b)));omega,h3⟩
  generalize sD (gZ 3 (bP 4 (bP 5 (bP 4 b)))) (bP 3 (bP 4 (bP 5 (bP 4 b))))=p at h key lens ⊢
  obtain⟨ts,b'⟩:=p
  dsimp only at h key lens ⊢
  split at h
  ·rename_i hq
   refine⟨?_,lens.1,lens.2,ml (by decide) _⟩
   show cD (4::(a+1)::5::_::4::_::3::ts.length::((AJ ts++[4,0,2,_])++r)) b
   rw[aB]
   refine key _ ?_
   show cD (4::0::2::_::r) b'
   exact i9 (by decide) hq (jK (by decide) h)
  ·rename_i q hq
   refine⟨?_,lens.1,lens.2⟩
   show cD (4::(a+1)::5::_::4::_::3::ts.length::((AJ ts++[4,q+1])++r)) b
   rw[aB]
   refine key _ ?_
   show cD (4::(q+1)::r) b'
   exact i9 (by decide) hq h
inductive FD where
 |none
 |one(o:Bool)(rd:RD)(s:Nat)
inductive WD where
 |none
 |one(v:Bool)(rd:RD)
structure DD where
 f:FD
 w:WD
 l:RD
 k:Nat
noncomputable def fnI(o:Bool):Nat:=match o with
 |true=>1
 |false=>0
noncomputable def wnI(v:Bool):Nat:=match v with
 |true=>3
 |false=>2
noncomputable def fdM:FD->List AV
 | .none=>[m2 3 1]
 | .one o rd s=>[m2 3 (match o with
  |true=>2
  |false=>0),m9 (fnI o) rd,m2 2 s]
noncomputable def wdM:WD->List AV
 | .none=>[m2 3 2]
 | .one v rd=>[m2 3 (match v with
  |true=>1
  |false=>0),m9 (wnI v) rd]
noncomputable def ddM(x:DD):List AV:=fdM x.f++(wdM x.w++[m9 4 x.l,m2 2 x.k])
noncomputable def IJ(b:Int):FD×Int:=match gZ 3 b with
 |0=>(.one false (Ba (bP 3 b)).1 (gZ 2 (Ba (bP 3 b)).2),bP 2 (Ba (bP 3 b)).2)
 |1=>(.none,bP 3 b)
 |_=>(.one true (Ba (bP 3 b)).1 (gZ 2 (Ba (bP 3 b)).2),bP 2 (Ba (bP 3 b)).2)
noncomputable def QP(b:Int):WD×Int:=match gZ 3 b with
 |0=>(.one false (Ba (bP 3 b)).1,(Ba (bP 3 b)).2)
 |1=>(.one true (Ba (bP 3 b)).1,(Ba (bP 3 b)).2)
 |_=>(.none,bP 3 b)
noncomputable def Pj(b:Int):DD:=⟨(IJ b).1,(QP (IJ b).2).1,(Ba (QP (IJ b).2).2).1,gZ 2 (Ba (QP (IJ b).2).2).2⟩
def ana:FD->Prop
 | .none=>True
 | .one _ rd s=>FS rd/\s<2
def anb:WD->Prop
 | .none=>True
 | .one _ rd=>FS rd
def am9(x:DD):Prop:=ana x.f/\anb x.w/\FS x.l/\x.k<2
noncomputable def zk(b:Int):List AV:=ddM (Pj b)
theorem anX{b:Int}{l:aa}(h:cD (xb bx l) (IJ b).2):cD (xb bx (fdM (IJ b).1++l)) b/\ana (IJ b).1:=by
 unfold IJ at h ⊢
 have h3:=ml (m:=3) (by decide) b
 split at h
 ·rename_i hz
  obtain⟨h1,h2⟩:=KW (jK (m:=2) (by decide) h)
  refine⟨?_,h2,ml (by decide) _⟩
  show cD (3::0::(Jf _++2::_::xb bx l)) b
  exact i9 (by decide) hz h1
 ·rename_i hz
  refine⟨?_,trivial⟩
  show cD (3::1::xb bx l) b
  exact i9 (by decide) hz h
 ·rename_i n0 n1
  have e0: ¬gZ 3 b=0:=n0
  have e1: ¬gZ 3 b=1:=n1
  have hz:gZ 3 b=2:=by omega
  obtain⟨h1,h2⟩:=KW (jK (m:=2) (by decide) h)
  refine⟨?_,h2,ml (by decide) _⟩
  show cD (3::2::(Jf _++2::_::xb bx l)) b
  exact i9 (by decide) hz h1
theorem apj{b:Int}{l:aa}(h:cD (xb bx l) (QP b).2):cD (xb bx (wdM (QP b).1++l)) b/\anb (QP b).1:=by
 unfold QP at h ⊢
 have h3:=ml (m:=3) (by decide) b
 split at h
 ·rename_i hz
  obtain⟨h1,h2⟩:=KW h
  refine⟨?_,h2⟩
  show cD (3::0::(Jf _++xb bx l)) b
  exact i9 (by decide) hz h1
 ·rename_i hz
  obtain⟨h1,h2⟩:=KW h
  refine⟨?_,h2⟩
  show cD (3::1::(Jf _++xb bx l)) b
  exact i9 (by decide) hz h1
 ·rename_i n0 n1
  have e0: ¬gZ 3 b=0:=n0
  have e1: ¬gZ 3 b=1:=n1
  have hz:gZ 3 b=2:=by omega
  refine⟨?_,trivial⟩
  show cD (3::2::xb bx l) b
  exact i9 (by decide) hz h
theorem aae{n:Nat}{rd:RD}(hn:n<5)(h:FS rd):VB (m9 n rd):=⟨n,rd,rfl,hn,h⟩
theorem X4(b:Int):(∀a∈zk b,VB a)/\cD (xb bx (zk b)) b/\am9 (Pj b):=by
 have h4:cD (xb bx [m9 4 (Pj b).l,m2 2 (Pj b).k]) (QP (IJ b).2).2/\FS (Pj b).l:=by
  obtain⟨h1,h2⟩:=KW (b:=(QP (IJ b).2).2) (r:=[2,(Pj b).k]) (jK (m:=2) (r:=[]) (by decide) trivial)
  exact⟨h1,h2⟩
 obtain⟨h3,h5⟩:=apj h4.1
 obtain⟨h2,h6⟩:=anX h3
 have hok:am9 (Pj b):=⟨h6,h5,h4.2,ml (by decide) _⟩
 refine⟨fun a ha=> ?_,h2,hok⟩
 obtain⟨o1,o2,o3,_⟩:=hok
 unfold zk ddM at ha
 rcases cQ.mp ha with ha|ha
 ·generalize (Pj b).f=f at ha o1
  cases f with
  |none=>simp only[fdM,aO]at ha;subst ha;trivial
  |one o rd s=>
   simp only[fdM,aG,bc,or_false]at ha
   rcases ha with rfl|rfl|rfl
   ·cases o<;>trivial
   ·exact aae (by cases o<;>decide) o1.1
   ·trivial
 ·rcases cQ.mp ha with ha|ha
  ·generalize (Pj b).w=w at ha o2
   cases w with
   |none=>simp only[wdM,aO]at ha;subst ha;trivial
   |one o rd=>
    simp only[wdM,aG,bc,or_false]at ha
    rcases ha with rfl|rfl
    ·cases o<;>trivial
    ·exact aae (by cases o<;>decide) o2
  ·simp only[aG,bc,or_false]at ha
   rcases ha with rfl|rfl
   ·exact aae (by decide) o3
   ·trivial
noncomputable def cLine:Nat:=45
noncomputable def dj:Nat:=1021
noncomputable def Wa:aW:=fun l σ=>vC l fun _ _=>some (.opq,σ)
noncomputable def tL(l:List T):T:=bo (motive:=fun _=>T) .nil (fun a _ ih=>.cons a ih) l
noncomputable def sL(l:List TS):TS:=bo (motive:=fun _=>TS) .nil (fun a _ ih=>.cons a ih) l
noncomputable def cS(l:ac):T:=.cst (.str l)
noncomputable def cI(i:Int):T:=.cst (.int i)
noncomputable def kA(f:Nat)(l:List T):T:=.call f (tL l)
noncomputable def mE(n:Nat)(o:T)(l:List T):T:=.meth n o (tL l)
noncomputable def lS(l:List T):T:=.lst (tL l)
noncomputable def tU(l:List T):T:=.tup (tL l)
noncomputable def v0:T:=.var 0
noncomputable def v1:T:=.var 1
noncomputable def v2:T:=.var 2
noncomputable def v3:T:=.var 3
noncomputable def v4:T:=.var 4
noncomputable def v5:T:=.var 5
noncomputable def v6:T:=.var 6
noncomputable def v7:T:=.var 7
noncomputable def v8:T:=.var 8
noncomputable def v9:T:=.var 9
noncomputable def v10:T:=.var 10
noncomputable def v11:T:=.var 11
noncomputable def v12:T:=.var 12
noncomputable def v13:T:=.var 13
noncomputable def v14:T:=.var 14
noncomputable def v15:T:=.var 15
noncomputable def v16:T:=.var 16
noncomputable def mO:AV:=.str [48,49,50,51,52,53,54,55,56,57]
noncomputable def wm:AV:=.str [65,66,67,68,69,70,71,72,73,74,75,76,77,78,79,80,81,82,83,84,85,86,87,88,89,90,48,49,50,51,52,53,54,55,56,57,45]
noncomputable def k9:AV:=.str [48,49,50,51,52,53,54,55,56,57]
noncomputable def abh:AV:=.str [46,44,59]
noncomputable def Ie:AV:=.int (30)
noncomputable def Gw:AV:=.str [65,66,67,68,69,70,71,72,73,74,75,76,77,78,79,80,81,82,83,84,85,86,87,88,89,90]
noncomputable def rz:AV:=.int (18)
noncomputable def zJ:AV:=.int (160)
noncomputable def J9:AV:=.str [34,39]
noncomputable def zK:AV:=.str [40,41,58,43,45,42,47,61,60,62]
noncomputable def zI:AV:=.str [42,42,32,60,61,32,62,61]
noncomputable def Se:AV:=.int (8)
noncomputable def Sf:AV:=.int (12)
noncomputable def Bv:AV:=.dct [[100,105,115,112,108,97,121],[98,105,110,97,114,121],[112,97,99,107,101,100],[105,110,100,101,120]] [.str [68,73,83,80,76,65,89],.str [66,73,78,65,82,89],.str [80,65,67,75,69,68,45,68,69,67,73,77,65,76],.str [73,78,68,69,88]]
noncomputable def w8:AV:=.int (66)
noncomputable def iR:AV:=.tup [.int (1),.int (77)]
noncomputable def tQ:AV:=.dct [[68,73,83,80,76,65,89],[67,79,77,80],[67,79,77,80,85,84,65,84,73,79,78,65,76],[66,73,78,65,82,89],[80,65,67,75,69,68,45,68,69,67,73,77,65,76],[67,79,77,80,45,51],[67,79,77,80,85,84,65,84,73,79,78,65,76,45,51],[73,78,68,69,88]] [.str [100,105,115,112,108,97,121],.str [98,105,110,97,114,121],.str [98,105,110,97,114,121],.str [98,105,110,97,114,121],.str [112,97,99,107,101,100],.str [112,97,99,107,101,100],.str [112,97,99,107,101,100],.str [105,110,100,101,120]]
noncomputable def J8:AV:=.int (88)
noncomputable def Bu:AV:=.int (66)
noncomputable def Bs:AV:=.int (77)
noncomputable def Sg:AV:=.str [70,73,76,76,69,82]
noncomputable def Fo:AV:=.int (49)
noncomputable def Bt:AV:=.int (20)
noncomputable def lC:AV:=.str [32,65,67,67,69,80,84,32,65,67,67,69,83,83,32,65,68,68,32,65,68,86,65,78,67,73,78,71,32,65,70,84,69,82,32,65,76,76,32,65,76,80,72,65,66,69,84,73,67,32,65,76,80,72,65,66,69,84,73,67,45,76,79,87,69,82,32,65,76,80,72,65,66,69,84,73,67,45,85,80,80,69,82,32,65,76,80,72,65,78,85,77,69,82,73,67,32,65,76,80,72,65,78,85,77,69,82,73,67,45,69,68,73,84,69,68,32,65,76,83,79,32,65,76,84,69,82,78,65,84,69,32,65,78,68,32,65,78,89,32,65,82,69,32,65,82,69,65,32,65,82,69,65,83,32,65,83,67,69,78,68,73,78,71,32,65,83,83,73,71,78,32,65,84,32,65,85,84,72,79,82,32,66,69,70,79,82,69,32,66,73,78,65,82,89,32,66,76,65,78,75,32,66,76,79,67,75,32,66,89,32,67,65,76,76,32,67,72,65,82,65,67,84,69,82,32,67,72,65,82,65,67,84,69,82,83,32,67,76,79,83,69,32,67,79,77,80,32,67,79,77,80,45,51,32,67,79,77,80,85,84,65,84,73,79,78,65,76,32,67,79,77,80,85,84,65,84,73,79,78,65,76,45,51,32,67,79,77,80,85,84,69,32,67,79,78,70,73,71,85,82,65,84,73,79,78,32,67,79,78,84,65,73,78,83,32,67,79,78,84,69,78,84,32,67,79,78,84,73,78,85,69,32,67,79,78,86,69,82,84,73,78,71,32,67,79,80,89,32,67,79,82,82,32,67,79,82,82,69,83,80,79,78,68,73,78,71,32,67,79,85,78,84,32,68,65,84,65,32,68,65,84,69,45,67,79,77,80,73,76,69,68,32,68,65,84,69,45,87,82,73,84,84,69,78,32,68,69,76,69,84,69,32,68,69,76,73,77,73,84,69,68,32,68,69,76,73,77,73,84,69,82,32,68,69,80,69,78,68,73,78,71,32,68,69,83,67,69,78,68,73,78,71,32,68,73,83,80,76,65,89,32,68,73,86,73,68,69,32,68,73,86,73,83,73,79,78,32,68,79,87,78,32,68,85,80,76,73,67,65,84,69,83,32,68,89,78,65,77,73,67,32,69,76,83,69,32,69,78,68,32,69,78,68,45,65,68,68,32,69,78,68,45,67,65,76,76,32,69,78,68,45,67,79,77,80,85,84,69,32,69,78,68,45,68,69,76,69,84,69,32,69,78,68,45,68,73,86,73,68,69,32,69,78,68,45,69,86,65,76,85,65,84,69,32,69,78,68,45,73,70,32,69,78,68,45,77,85,76,84,73,80,76,89,32,69,78,68,45,80,69,82,70,79,82,77,32,69,78,68,45,82,69,65,68,32,69,78,68,45,82,69,84,85,82,78,32,69,78,68,45,82,69,87,82,73,84,69,32,69,78,68,45,83,69,65,82,67,72,32,69,78,68,45,83,84,65,82,84,32,69,78,68,45,83,84,82,73,78,71,32,69,78,68,45,83,85,66,84,82,65,67,84,32,69,78,68,45,85,78,83,84,82,73,78,71,32,69,78,68,45,87,82,73,84,69,32,69,78,86,73,82,79,78,77,69,78,84,32,69,81,85,65,76,32,69,82,82,79,82,32,69,86,65,76,85,65,84,69,32,69,88,67,69,80,84,73,79,78,32,69,88,73,84,32,69,88,84,69,78,68,32,69,88,84,69,82,78,65,76,32,70,65,76,83,69,32,70,68,32,70,73,76,69,32,70,73,76,69,45,67,79,78,84,82,79,76,32,70,73,76,76,69,82,32,70,73,82,83,84,32,70,79,82,32,70,82,79,77,32,71,73,86,73,78,71,32,71,76,79,66,65,76,32,71,79,32,71,82,69,65,84,69,82,32,72,73,71,72,45,86,65,76,85,69,32,72,73,71,72,45,86,65,76,85,69,83,32,73,45,79,32,73,45,79,45,67,79,78,84,82,79,76,32,73,68,69,78,84,73,70,73,67,65,84,73,79,78,32,73,70,32,73,78,32,73,78,68,69,88,32,73,78,68,69,88,69,68,32,73,78,73,84,73,65,76,32,73,78,73,84,73,65,76,73,90,69,32,73,78,80,85,84,32,73,78,80,85,84,45,79,85,84,80,85,84,32,73,78,83,80,69,67,84,32,73,78,83,84,65,76,76,65,84,73,79,78,32,73,78,84,79,32,73,78,86,65,76,73,68,32,73,83,32,74,85,83,84,32,74,85,83,84,73,70,73,69,68,32,75,69,89,32,76,65,66,69,76,32,76,69,65,68,73,78,71,32,76,69,70,84,32,76,69,83,83,32,76,73,78,69,32,76,73,78,69,83,32,76,73,78,75,65,71,69,32,76,79,67,75,32,76,79,87,45,86,65,76,85,69,32,76,79,87,45,86,65,76,85,69,83,32,77,69,82,71,69,32,77,79,68,69,32,77,79,86,69,32,77,85,76,84,73,80,76,89,32,78,65,84,73,86,69,32,78,69,71,65,84,73,86,69,32,78,69,88,84,32,78,79,32,78,79,84,32,78,85,77,69,82,73,67,32,78,85,77,69,82,73,67,45,69,68,73,84,69,68,32,79,66,74,69,67,84,45,67,79,77,80,85,84,69,82,32,79,67,67,85,82,83,32,79,70,32,79,70,70,32,79,77,73,84,84,69,68,32,79,78,32,79,80,69,78,32,79,80,84,73,79,78,65,76,32,79,82,32,79,82,68,69,82,32,79,82,71,65,78,73,90,65,84,73,79,78,32,79,84,72,69,82,32,79,85,84,80,85,84,32,79,86,69,82,70,76,79,87,32,80,65,67,75,69,68,45,68,69,67,73,77,65,76,32,80,69,82,70,79,82,77,32,80,73,67,32,80,73,67,84,85,82,69,32,80,79,73,78,84,69,82,32,80,79,83,73,84,73,86,69,32,80,82,79,67,69,68,85,82,69,32,80,82,79,67,69,69,68,32,80,82,79,71,82,65,77,32,80,82,79,71,82,65,77,45,73,68,32,81,85,79,84,69,32,81,85,79,84,69,83,32,82,65,78,68,79,77,32,82,69,65,68,32,82,69,67,79,82,68,32,82,69,67,79,82,68,83,32,82,69,68,69,70,73,78,69,83,32,82,69,70,69,82,69,78,67,69,32,82,69,76,65,84,73,86,69,32,82,69,76,69,65,83,69,32,82,69,77,65,73,78,68,69,82,32,82,69,78,65,77,69,83,32,82,69,80,76,65,67,69,32,82,69,80,76,65,67,73,78,71,32,82,69,84,85,82,78,32,82,69,87,82,73,84,69,32,82,73,71,72,84,32,82,79,85,78,68,69,68,32,82,85,78,32,83,65,77,69,32,83,68,32,83,69,65,82,67,72,32,83,69,67,84,73,79,78,32,83,69,67,85,82,73,84,89,32,83,69,76,69,67,84,32,83,69,78,84,69,78,67,69,32,83,69,80,65,82,65,84,69,32,83,69,81,85,69,78,84,73,65,76,32,83,69,84,32,83,73,71,78,32,83,73,90,69,32,83,79,82,84,32,83,79,82,84,45,77,69,82,71,69,32,83,79,85,82,67,69,45,67,79,77,80,85,84,69,82,32,83,80,65,67,69,32,83,80,65,67,69,83,32,83,80,69,67,73,65,76,45,78,65,77,69,83,32,83,84,65,78,68,65,82,68,32,83,84,65,82,84,32,83,84,65,84,85,83,32,83,84,79,80,32,83,84,82,73,78,71,32,83,85,66,84,82,65,67,84,32,83,89,78,67,32,83,89,78,67,72,82,79,78,73,90,69,68,32,84,65,76,76,89,73,78,71,32,84,69,83,84,32,84,72,65,78,32,84,72,69,78,32,84,72,82,79,85,71,72,32,84,72,82,85,32,84,73,77,69,83,32,84,79,32,84,82,65,73,76,73,78,71,32,84,82,85,69,32,85,78,83,84,82,73,78,71,32,85,78,84,73,76,32,85,80,32,85,80,79,78,32,85,83,65,71,69,32,85,83,73,78,71,32,86,65,76,85,69,32,86,65,76,85,69,83,32,86,65,82,89,73,78,71,32,87,72,69,78,32,87,73,84,72,32,87,79,82,75,73,78,71,45,83,84,79,82,65,71,69,32,87,82,73,84,69,32,90,69,82,79,32,90,69,82,79,69,83,32,90,69,82,79,83,32]
noncomputable def Fp:AV:=.int (255)
noncomputable def QI:TS:=sL [.asg 1 (.bin .Add (lS [.atr 20 v0]) (.bin .Mult (lS [cI 88]) (kA 1 [.atr 23 v0]))),.for_ [2] (.atr 22 v0) (sL [.asg 1 (.bin .Add v1 (kA 0 [v2]))]),.ret v1]
noncomputable def Nn(self:aW):cC:=⟨[],[("_law_walked",self),("len",eO)],[]⟩
noncomputable def Os(self:aW):SM:=
  (aV (cO [1] (bi (bU .Add) (bq cX (aw (un (aA 20) (al 0)) aJ)) (bi (bU .Mult) (bq cX (aw (a7 (.int (88))) aJ)) (bq eO (aw (un (aA 23) (al 0)) aJ)))))
  (aV (gv [2] (un (aA 22) (al 0))
  (aV (cO [1] (bi (bU .Add) (al 1) (bq self (aw (al 2) aJ))))
  bk))
  (aV (eD (al 1))
  bk)))
noncomputable def zL(self:aW):aW:=bg 1 [] (Os self)
noncomputable def bv:Nat->aW
 |0=>Ud
 |n+1=>vJ aay (zL (bv n))
noncomputable def RT:TS:=sL [.ret (tU [.atr 2 v0,.atr 1 v0])]
noncomputable def QX:cC:=⟨[],[],[]⟩
noncomputable def Rh:SM:=
  (aV (eD (bq fX (aw (un (aA 2) (al 0)) (aw (un (aA 1) (al 0)) aJ))))
  bk)
noncomputable def qB:aW:=bg 1 [] Rh
noncomputable def QE:TS:=sL [.ret (tU [.atr 8 v0,.atr 9 v0,.atr 7 v0,.atr 6 v0,.atr 5 v0])]
noncomputable def Nj:cC:=⟨[],[],[]⟩
noncomputable def Oo:SM:=
  (aV (eD (bq fX (aw (un (aA 8) (al 0)) (aw (un (aA 9) (al 0)) (aw (un (aA 7) (al 0)) (aw (un (aA 6) (al 0)) (aw (un (aA 5) (al 0)) aJ)))))))
  bk)
noncomputable def i5:aW:=bg 1 [] Oo
noncomputable def RS:TS:=sL [.ret (tU [.atr 18 v0,.atr 19 v0])]
noncomputable def QW:cC:=⟨[],[],[]⟩
noncomputable def Rg:SM:=
  (aV (eD (bq fX (aw (un (aA 18) (al 0)) (aw (un (aA 19) (al 0)) aJ))))
  bk)
noncomputable def fg:aW:=bg 1 [] Rg
noncomputable def Nd:TS:=sL [.asg 1 (.ife (.cmp .Is (.atr 14 v0) (.cst (.none))) (.cst (.none)) (mE 0 (.atr 14 v0) [])),.asg 2 (tU [.atr 16 v0,.atr 15 v0,.atr 10 v0,.atr 35 v0,v1,.atr 17 v0]),.ret (.bin .Add v2 (tU [.atr 11 v0,.atr 13 v0,.atr 12 v0,.atr 21 v0]))]
noncomputable def Lh:cC:=⟨[],[],[("told",(fc lI i5 gK))]⟩
noncomputable def ME:SM:=
  (aV (cO [1] (s7 (fi (bV .Is) (un (aA 14) (al 0)) (a7 (.none))) (a7 (.none)) (cF (fc lI i5 gK) (un (aA 14) (al 0)) aJ)))
  (aV (cO [2] (bq fX (aw (un (aA 16) (al 0)) (aw (un (aA 15) (al 0)) (aw (un (aA 10) (al 0)) (aw (un (aA 35) (al 0)) (aw (al 1) (aw (un (aA 17) (al 0)) aJ))))))))
  (aV (eD (bi (bU .Add) (al 2) (bq fX (aw (un (aA 11) (al 0)) (aw (un (aA 13) (al 0)) (aw (un (aA 12) (al 0)) (aw (un (aA 21) (al 0)) aJ)))))))
  bk)))
noncomputable def jl:aW:=bg 1 [] ME
noncomputable def yL:gM:=(fc cg jl gK)
noncomputable def VK:TS:=sL [.asg 1 (kA 0 [.comp [3] (.atr 23 v0) .nop (mE 0 v3 [])]),.ret (tU [.atr 20 v0,.atr 18 v0,mE 1 v0 [],v1,kA 0 [.comp [2] (.atr 22 v0) .nop (mE 0 v2 [])]])]
noncomputable def RZ(self:aW):cC:=⟨[],[("tuple",eZ)],[("told",(fc nB fg (fc cg self gK))),("clauses",yL)]⟩
noncomputable def yT(self:aW):SM:=
  (aV (cO [1] (bq eZ (aw (eJ [3] (un (aA 23) (al 0)) (fun _ σ=>some (true,σ)) (cF (fc nB fg (fc cg self gK)) (al 3) aJ)) aJ)))
  (aV (eD (bq fX (aw (un (aA 20) (al 0)) (aw (un (aA 18) (al 0)) (aw (cF yL (al 0) aJ) (aw (al 1) (aw (bq eZ (aw (eJ [2] (un (aA 22) (al 0)) (fun _ σ=>some (true,σ)) (cF (fc nB fg (fc cg self gK)) (al 2) aJ)) aJ)) aJ)))))))
  bk))
noncomputable def wq(self:aW):aW:=bg 1 [] (yT self)
noncomputable def bA:Nat->aW
 |0=>Ud
 |n+1=>vJ nU (wq (bA n))
noncomputable def VJ:TS:=sL [.asg 1 (kA 0 [.comp [4] (.atr 26 v0) .nop (tU [v4,.cmp .In v4 (.atr 27 v0),kA 0 [.comp [5] (.idx (.atr 26 v0) v4) .nop (mE 0 v5 [])]])]),.ret (tU [kA 0 [.comp [3] (.atr 24 v0) .nop (mE 0 v3 [])],kA 0 [.comp [2] (.atr 25 v0) .nop (mE 0 v2 [])],v1])]
noncomputable def RY:cC:=⟨[],[("tuple",eZ)],[("told",(fc cg (bA 6) gK))]⟩
noncomputable def Ug:SM:=
  (aV (cO [1] (bq eZ (aw (eJ [4] (un (aA 26) (al 0)) (fun _ σ=>some (true,σ)) (bq fX (aw (al 4) (aw (rO (fi (bV .In) (al 4) (un (aA 27) (al 0)))) (aw (bq eZ (aw (eJ [5] (bi fP (un (aA 26) (al 0)) (al 4)) (fun _ σ=>some (true,σ)) (cF (fc cg (bA 6) gK) (al 5) aJ)) aJ)) aJ))))) aJ)))
  (aV (eD (bq fX (aw (bq eZ (aw (eJ [3] (un (aA 24) (al 0)) (fun _ σ=>some (true,σ)) (cF (fc cg (bA 6) gK) (al 3) aJ)) aJ)) (aw (bq eZ (aw (eJ [2] (un (aA 25) (al 0)) (fun _ σ=>some (true,σ)) (cF (fc cg (bA 6) gK) (al 2) aJ)) aJ)) (aw (al 1) aJ)))))
  bk))
noncomputable def wo:aW:=bg 1 [] Ug
noncomputable def sT:aW:=vJ nU wo
noncomputable def qy:gM:=(fc UK qB (fc lI i5 (fc nB fg (fc cg (bA 6) (fc Zj sT gK)))))
noncomputable def Js:TS:=sL [.ret (.cmp .GtE (.atr 4 v0) (kA 0 [.atr 38 v0]))]
noncomputable def HG:cC:=⟨[],[("len",eO)],[]⟩
noncomputable def oZ:SM:=
  (aV (eD (rO (fi (bV .GtE) (un (aA 4) (al 0)) (bq eO (aw (un (aA 38) (al 0)) aJ)))))
  bk)
noncomputable def lb:aW:=bg 1 [] oZ
noncomputable def We:gM:=(fc dj lb gK)
noncomputable def qa:gM:=(fc dj vm gK)
noncomputable def QF:TS:=sL [.ifs (.cmp .Lt (.bin .Add (.atr 4 v0) v1) (kA 0 [.atr 38 v0])) (sL [.ret (.idx (.atr 38 v0) (.bin .Add (.atr 4 v0) v1))]) .nil,.ret (.cst (.none))]
noncomputable def Nk:cC:=⟨[],[("len",eO)],[]⟩
noncomputable def o0:SM:=
  (aV (r5 (fi (bV .Lt) (bi (bU .Add) (un (aA 4) (al 0)) (al 1)) (bq eO (aw (un (aA 38) (al 0)) aJ)))
  (aV (eD (bi fP (un (aA 38) (al 0)) (bi (bU .Add) (un (aA 4) (al 0)) (al 1))))
  bk)
  bk)
  (aV (eD (a7 (.none)))
  bk))
noncomputable def hZ:aW:=bg 2 [.int (0)] o0
noncomputable def gm:gM:=(fc dj hZ gK)
noncomputable def yO:gM:=(fc dj Ic gK)
noncomputable def Jt:TS:=sL [.asg 3 (mE 0 v0 [v2]),.ret (.and (.cmp .IsNot v3 (.cst (.none))) (.cmp .Eq (.atr 2 v3) v1))]
noncomputable def HH:cC:=⟨[],[],[("peek",gm)]⟩
noncomputable def lc:SM:=
  (aV (cO [3] (cF gm (al 0) (aw (al 2) aJ)))
  (aV (eD (SE (rO (fi (bV .IsNot) (al 3) (a7 (.none)))) (rO (fi (bV .Eq) (un (aA 2) (al 3)) (al 1)))))
  bk))
noncomputable def ip:aW:=bg 3 [.int (0)] lc
noncomputable def fb:gM:=(fc dj ip gK)
noncomputable def tR:gM:=(fc dj Lu gK)
noncomputable def vX:TS:=sL [.asg 2 (cI 0),.for_ [3] (mE 0 v1 [cS [32]]) (sL [.ifs (.or (.not (mE 2 v0 [cS [119,111,114,100],v2])) (.cmp .NotEq (.atr 1 (mE 1 v0 [v2])) v3)) (sL [.ret (.cst (.bool false))]) .nil,.asg 2 (.bin .Add v2 (cI 1))]),.ret (.cst (.bool true))]
noncomputable def uQ:cC:=⟨[],[],[("split",(ii kC)),("peek",gm),("is_kind",fb)]⟩
noncomputable def Il:SM:=
  b5 uQ vX
noncomputable def jt:aW:=bg 2 [] Il
noncomputable def qX:gM:=(fc dj jt gK)
noncomputable def Gz:gM:=(fc dj Lw gK)
noncomputable def Ju:TS:=sL [.ret (.and (mE 1 v0 [cS [115,105,103,110],v2]) (.cmp .Eq (.atr 1 (mE 0 v0 [v2])) v1))]
noncomputable def HJ:cC:=⟨[],[],[("peek",gm),("is_kind",fb)]⟩
noncomputable def lf:SM:=
  (aV (eD (SE (cF fb (al 0) (aw (a7 (.str [115,105,103,110])) (aw (al 2) aJ))) (rO (fi (bV .Eq) (un (aA 1) (cF gm (al 0) (aw (al 2) aJ))) (al 1)))))
  bk)
noncomputable def js:aW:=bg 3 [.int (0)] lf
noncomputable def vn:gM:=(fc dj js gK)
noncomputable def qb:gM:=(fc dj Lv gK)
noncomputable def Fe:TS:=sL [.ifs (.not (mE 0 v0 [v1])) (sL [.ret (.cst (.bool false))]) .nil,.asgA 4 v0 (.bin .Add (.atr 4 v0) (cI 1)),.ret (.cst (.bool true))]
noncomputable def DE:cC:=⟨[],[],[("is_sign",vn)]⟩
noncomputable def mP:SM:=
  (aV (r5 (o8 (jd (cF vn (al 0) (aw (al 1) aJ))))
  (aV (eD (a7 (.bool false)))
  bk)
  bk)
  (aV (lR 4 (al 0) (bi (bU .Add) (un (aA 4) (al 0)) (a7 (.int (1)))))
  (aV (eD (a7 (.bool true)))
  bk)))
noncomputable def jJ:aW:=bg 2 [] mP
noncomputable def Rd:gM:=(fc dj jJ gK)
noncomputable def sR:gM:=(fc dj Fn gK)
noncomputable def sB:TS:=sL [.ifs (.not (mE 0 v0 [v1])) (sL [.bad]) .nil]
noncomputable def rq:cC:=⟨[],[],[("skip_sign",sR)]⟩
noncomputable def E7:SM:=
  b5 rq sB
noncomputable def sh:aW:=bg 2 [] E7
noncomputable def yN:gM:=(fc dj sh gK)
noncomputable def QG:TS:=sL [.ifs (.not (mE 1 v0 [v1])) (sL [.ret (.cst (.bool false))]) .nil,.asgA 4 v0 (.bin .Add (.atr 4 v0) (kA 0 [mE 0 v1 [cS [32]]])),.ret (.cst (.bool true))]
noncomputable def Nl:cC:=⟨[],[("len",eO)],[("split",(ii kC)),("is_word",qX)]⟩
noncomputable def o4:SM:=
  (aV (r5 (o8 (jd (cF qX (al 0) (aw (al 1) aJ))))
  (aV (eD (a7 (.bool false)))
  bk)
  bk)
  (aV (lR 4 (al 0) (bi (bU .Add) (un (aA 4) (al 0)) (bq eO (aw (cF (ii kC) (al 1) (aw (a7 (.str [32])) aJ)) aJ))))
  (aV (eD (a7 (.bool true)))
  bk)))
noncomputable def oV:aW:=bg 2 [] o4
noncomputable def afe:gM:=(fc dj oV gK)
noncomputable def vo:gM:=(fc dj Wb gK)
noncomputable def AI:TS:=sL [.ifs (.not (mE 1 v0 [v1])) (sL [.ret (.cst (.bool false))]) .nil,.expr (mE 0 v0 [cS [46]]),.ret (.cst (.bool true))]
noncomputable def yv:cC:=⟨[],[],[("need_sign",yN),("skip",vo)]⟩
noncomputable def MV:SM:=
  b5 yv AI
noncomputable def zZ:aW:=bg 2 [] MV
noncomputable def Mh:TS:=sL [.asgA 34 v1 v0,.expr (mE 0 (.atr 22 v0) [v1])]
noncomputable def JK:cC:=⟨[],[],[("append",(fN gk))]⟩
noncomputable def Wk:SM:=
  b5 JK Mh
noncomputable def Lx:aW:=bg 2 [] Wk
noncomputable def yK:gM:=(fc cg Lx gK)
noncomputable def Dr:TS:=sL [.whl (.and (.cmp .NotEq v0 (lS [])) (.cmp .GtE (.atr 20 (.idx v0 (.neg (cI 1)))) (.atr 20 v1))) (sL [.expr (mE 2 v0 [])]),.ifs (.or (.cmp .Eq v0 (lS [])) (.cmp .Eq (.atr 20 (.idx v0 (cI 0))) (.glb 1))) (sL [.bad]) .nil,.asg 2 (.idx v0 (.neg (cI 1))),.ifs (.and (.cmp .NotEq (.atr 22 v2) (lS [])) (.cmp .NotEq (.atr 20 (.idx (.atr 22 v2) (cI 0))) (.atr 20 v1))) (sL [.bad]) .nil,.ifs (.cmp .GtE (kA 0 [v0]) (.glb 0)) (sL [.bad]) .nil,.expr (mE 1 v2 [v1]),.expr (mE 0 v0 [v1])]
noncomputable def AR:cC:=⟨[("MOST_NESTED",Bt),("ALONE",Bs)],[("len",eO)],[("append",(fN gk)),("add",yK),("pop",(fN YW))]⟩
noncomputable def Oy:SM:=
  b5 AR Dr
noncomputable def BG:aW:=bg 2 [] Oy
noncomputable def TF:TS:=sL [.asgT [1,2,3,4] (tU [lS [],lS [],.cst (.none),lS []]),.for_ [5] v0 (sL [.ifs (.cmp .Eq (.atr 20 v5) (.glb 2)) (sL [.ifs (.cmp .Is v3 (.cst (.none))) (sL [.bad]) .nil,.expr (mE 1 (.atr 23 v3) [.idx (.atr 23 v5) (cI 0)]),.cont]) .nil,.ifs (.cmp .Eq (.atr 20 v5) (.glb 0)) (sL [.ifs (.or (.cmp .Eq v1 (lS [])) (.cmp .Eq (.atr 20 (.idx v1 (.neg (cI 1)))) (.glb 1))) (sL [.bad]) .nil,.expr (mE 1 v4 [tU [.bin .Sub (kA 0 [v1]) (cI 1),v5]])]) (sL [.ifs (.and (.cmp .NotEq v4 (lS [])) (.and (.cmp .Eq (.idx (.idx v4 (.neg (cI 1))) (cI 0)) (.bin .Sub (kA 0 [v1]) (cI 1))) (.cmp .NotIn (.atr 20 v5) (tU [cI 1,.glb 1])))) (sL [.bad]) (sL [.ifs (.cmp .In (.atr 20 v5) (tU [cI 1,.glb 1])) (sL [.expr (mE 1 v1 [v5]),.asg 2 (lS [v5])]) (sL [.expr (kA 1 [v2,v5])])])]),.asg 3 v5]),.for_ [6,5] v4 (sL [.expr (mE 0 (.idx v1 v6) [v5])]),.ret v1]
noncomputable def QZ:cC:=⟨[("RENAMING",Bu),("ALONE",Bs),("NAMING",J8)],[("len",eO),("put_beneath",BG)],[("add",yK),("append",(fN gk))]⟩
noncomputable def acL:SM:=
  b5 QZ TF
noncomputable def Sk:aW:=bg 1 [] acL
noncomputable def Ld:TS:=sL [.asg 1 (mE 0 v0 []),.ret (.and (.cmp .IsNot v1 (.cst (.none))) (.cmp .Eq (.atr 2 v1) (cS [110,117,109,98,101,114])))]
noncomputable def JO:cC:=⟨[],[],[("peek",yO)]⟩
noncomputable def jU:SM:=
  (aV (cO [1] (cF yO (al 0) aJ))
  (aV (eD (SE (rO (fi (bV .IsNot) (al 1) (a7 (.none)))) (rO (fi (bV .Eq) (un (aA 2) (al 1)) (a7 (.str [110,117,109,98,101,114]))))))
  bk))
noncomputable def jT:aW:=bg 1 [] jU
noncomputable def vV:TS:=sL [.asgA 18 v0 v1,.asgA 19 v0 (kA 0 [v2])]
noncomputable def uO:cC:=⟨[],[("tuple",eZ)],[]⟩
noncomputable def vv:SM:=
  b5 uO vV
noncomputable def Ig:aW:=bg 3 [] vv
noncomputable def xg:aW:=FK 8 (ui nB Ig)
noncomputable def x8:TS:=sL [.for_ [2] (mE 0 v1 [cS [32]]) (sL [.ifs (mE 1 v0 [v2]) (sL [.ret v2]) .nil]),.ret (cS [])]
noncomputable def wg:cC:=⟨[],[],[("split",(ii kC)),("skip",vo)]⟩
noncomputable def Ki:SM:=
  b5 wg x8
noncomputable def xi:aW:=bg 2 [] Ki
noncomputable def tn:gM:=(fc dj xi gK)
noncomputable def wa:TS:=sL [.asg 1 (.comp [3] v0 .nop (kA 1 [v3])),.frz 1,.ifs (.comp [2] v1 (.cmp .Gt v2 (.glb 0)) v2) (sL [.bad]) .nil,.ret (kA 0 [v1])]
noncomputable def uT:cC:=⟨[("MOST_OCTET",Fp)],[("bytes",V9),("ord",YV)],[]⟩
noncomputable def Ip:SM:=
  b5 uT wa
noncomputable def iq:aW:=bg 1 [] Ip
noncomputable def Lb:TS:=sL [.ifs (.not (mE 1 v0 [cS [108,105,116,101,114,97,108]])) (sL [.bad]) .nil,.asg 1 (kA 0 [.atr 1 (mE 0 v0 [])]),.ifs (.cmp .Is v1 (.cst (.none))) (sL [.bad]) .nil,.asgA 4 v0 (.bin .Add (.atr 4 v0) (cI 1)),.ret v1]
noncomputable def JL:cC:=⟨[],[("octets_of_text",(wC iq))],[("peek",gm),("is_kind",fb)]⟩
noncomputable def qf:SM:=
  (aV (r5 (o8 (jd (cF fb (al 0) (aw (a7 (.str [108,105,116,101,114,97,108])) aJ))))
  (aV (fun _ _=>none)
  bk)
  bk)
  (aV (cO [1] (bq (wC iq) (aw (un (aA 1) (cF gm (al 0) aJ)) aJ)))
  (aV (r5 (fi (bV .Is) (al 1) (a7 (.none)))
  (aV (fun _ _=>none)
  bk)
  bk)
  (aV (lR 4 (al 0) (bi (bU .Add) (un (aA 4) (al 0)) (a7 (.int (1)))))
  (aV (eD (al 1))
  bk)))))
noncomputable def mf:aW:=bg 1 [] qf
noncomputable def YZ:gM:=(fc dj mf gK)
noncomputable def Si:gM:=(fc dj (Og iq) gK)
noncomputable def sA:TS:=sL [.ifs (.or (mE 1 v0 [cS [43]]) (mE 1 v0 [cS [45]])) (sL [.ret (mE 0 v0 [cS [110,117,109,98,101,114],cI 1])]) .nil,.ret (mE 0 v0 [cS [110,117,109,98,101,114]])]
noncomputable def rp:cC:=⟨[],[],[("is_kind",tR),("is_sign",qb)]⟩
noncomputable def E6:SM:=
  b5 rp sA
noncomputable def sg:aW:=bg 1 [] E6
noncomputable def yM:gM:=(fc dj sg gK)
noncomputable def QM:TS:=sL [.ret (tU [.neg (.idx v0 (cI 0)),.idx v0 (cI 1)])]
noncomputable def Mx:cC:=⟨[],[],[]⟩
noncomputable def Y4:SM:=
  b5 Mx QM
noncomputable def On:aW:=bg 1 [] Y4
noncomputable def QK:TS:=sL [.ifs (.cmp .Lt v1 (cI 0)) (sL [.bad]) .nil,.whl (.and (.cmp .Gt v1 (cI 0)) (.cmp .Eq (.bin .Mod v0 (cI 10)) (cI 0))) (sL [.bad,.bad]),.ret (tU [v0,v1])]
noncomputable def Mv:cC:=⟨[],[],[]⟩
noncomputable def Y2:SM:=
  b5 Mv QK
noncomputable def Ol:aW:=bg 2 [.int (0)] Y2
noncomputable def Mq:TS:=sL [.asg 1 (cI 0),.for_ [2] v0 (sL [.asg 1 (.bin .Add (.bin .Mult v1 (cI 10)) (mE 0 (.glb 0) [v2]))]),.ret v1]
noncomputable def JW:cC:=⟨[("FIGURES_decimals",mO)],[],[("index",(ii Ib))]⟩
noncomputable def Wt:SM:=
  b5 JW Mq
noncomputable def LG:aW:=bg 1 [] Wt
noncomputable def AA:TS:=sL [.asg 1 (.ife (.cmp .In (.slc v0 .nop (cI 1)) (tU [cS [43],cS [45]])) (cI 1) (cI 0)),.asgT [2,3] (tU [.slc v0 v1 .nop,cS []]),.ifs (.cmp .In (cS [46]) v2) (sL [.asg 4 (mE 0 v2 [cS [46]]),.asgT [2,3] (tU [.slc v2 .nop v4,.slc v2 (.bin .Add v4 (cI 1)) .nop]),.ifs (.cmp .Eq v3 (cS [])) (sL [.bad]) .nil]) .nil,.ifs (.cmp .Eq (.bin .Add v2 v3) (cS [])) (sL [.bad]) .nil,.for_ [5] (kA 3 [v1,kA 1 [v0]]) (sL [.ifs (.and (.cmp .NotIn (.idx v0 v5) (.glb 0)) (.cmp .NotEq v5 (.bin .Add v1 (kA 1 [v2])))) (sL [.bad]) .nil]),.asg 6 (kA 2 [.bin .Add v2 v3]),.ret (kA 0 [.ife (.cmp .Eq (.slc v0 .nop (cI 1)) (cS [45])) (.neg v6) v6,kA 1 [v3]])]
noncomputable def yn:cC:=⟨[("FIGURES_decimals",mO)],[("decimal",Ol),("len",eO),("worth_of",LG),("range",lB)],[("index",(ii Ib))]⟩
noncomputable def MM:SM:=
  b5 yn AA
noncomputable def iz:aW:=bg 1 [] MM
noncomputable def QH:TS:=sL [.asg 1 (mE 0 v0 []),.ifs (.cmp .Is v1 (.cst (.none))) (sL [.bad]) .nil,.asgA 4 v0 (.bin .Add (.atr 4 v0) (cI 1)),.ret v1]
noncomputable def Nm:cC:=⟨[],[],[("peek",gm)]⟩
noncomputable def tZ:SM:=
  (aV (cO [1] (cF gm (al 0) aJ))
  (aV (r5 (fi (bV .Is) (al 1) (a7 (.none)))
  (aV (fun _ _=>none)
  bk)
  bk)
  (aV (lR 4 (al 0) (bi (bU .Add) (un (aA 4) (al 0)) (a7 (.int (1)))))
  (aV (eD (al 1))
  bk))))
noncomputable def oW:aW:=bg 1 [] tZ
noncomputable def aff:gM:=(fc dj oW gK)
noncomputable def Ec:gM:=(fc dj Wc gK)
noncomputable def x9:TS:=sL [.ifs (.not (mE 2 v0 [])) (sL [.bad]) .nil,.asg 1 (mE 1 v0 [cS [45]]),.ifs (.not v1) (sL [.expr (mE 1 v0 [cS [43]])]) .nil,.asg 2 (kA 1 [.atr 1 (mE 0 v0 [])]),.ret (.ife v1 (kA 0 [v2]) v2)]
noncomputable def wh:cC:=⟨[],[("negated",On),("read_decimal",iz)],[("take",Ec),("skip_sign",sR),("is_number",yM)]⟩
noncomputable def Kj:SM:=
  b5 wh x9
noncomputable def xj:aW:=bg 1 [] Kj
noncomputable def Sj:gM:=(fc dj xj gK)
noncomputable def AD:TS:=sL [.ifs (mE 2 v0 []) (sL [.ret (tU [cS [110,117,109,98,101,114],mE 3 v0 []])]) .nil,.ifs (mE 0 v0 [cS [108,105,116,101,114,97,108]]) (sL [.ret (tU [cS [116,101,120,116],mE 1 v0 []])]) .nil,.bad,.bad,.bad]
noncomputable def yq:cC:=⟨[],[],[("is_kind",tR),("octets",Si),("is_number",yM),("signed",Sj)]⟩
noncomputable def MP:SM:=
  b5 yq AD
noncomputable def zU:aW:=bg 2 [] MP
noncomputable def Dn:TS:=sL [.ret (.cmp .In (.bin .Add (.bin .Add (cS [32]) v0) (cS [32])) (.glb 0))]
noncomputable def AO:cC:=⟨[("RESERVED",lC)],[],[]⟩
noncomputable def Ov:SM:=
  b5 AO Dn
noncomputable def BD:aW:=bg 1 [] Ov
noncomputable def vW:TS:=sL [.ret (.and (mE 1 v0 [cS [119,111,114,100],v1]) (.not (kA 0 [.atr 1 (mE 0 v0 [v1])])))]
noncomputable def uP:cC:=⟨[],[("is_reserved",BD)],[("peek",yO),("is_kind",tR)]⟩
noncomputable def Ik:SM:=
  b5 uP vW
noncomputable def vq:aW:=bg 2 [.int (0)] Ik
noncomputable def tS:gM:=(fc dj vq gK)
noncomputable def AC:TS:=sL [.ifs (mE 0 v0 []) (sL [.bad]) .nil,.ret (kA 0 [v0,.glb 0])]
noncomputable def yp:cC:=⟨[("no_expression",.opq)],[("read_operand",zU)],[("is_name",tS)]⟩
noncomputable def MO:SM:=
  b5 yp AC
noncomputable def zT:aW:=bg 1 [] MO
noncomputable def Dt:TS:=sL [.ifs (.cmp .Eq (mE 2 v0 [cS [86,65,76,85,69,32,86,65,76,85,69,83]]) (cS [])) (sL [.bad]) .nil,.expr (mE 2 v0 [cS [73,83,32,65,82,69]]),.asg 1 (lS []),.whl (.or (.cmp .Eq v1 (lS [])) (.not (mE 0 v0 [cS [46]]))) (sL [.asgT [2,3] (tU [kA 0 [v0],.cst (.none)]),.ifs (.cmp .NotEq (mE 2 v0 [cS [84,72,82,85,32,84,72,82,79,85,71,72]]) (cS [])) (sL [.asg 3 (kA 0 [v0])]) .nil,.expr (mE 1 v1 [tU [v2,v3]])]),.ret v1]
noncomputable def AW:cC:=⟨[],[("read_literal",zT)],[("is_sign",qb),("append",(fN gk)),("one_of",tn)]⟩
noncomputable def OA:SM:=
  b5 AW Dt
noncomputable def BP:aW:=bg 1 [] OA
noncomputable def Dj:TS:=sL [.ifs (.not (mE 1 v0 [])) (sL [.bad]) .nil,.ret (.atr 1 (mE 0 v0 []))]
noncomputable def AK:cC:=⟨[],[],[("take",Ec),("is_name",tS)]⟩
noncomputable def Op:SM:=
  b5 AK Dj
noncomputable def Bz:aW:=bg 1 [] Op
noncomputable def Eb:gM:=(am7 dj Bz)
noncomputable def Dk:TS:=sL [.ifs (.not (mE 0 v0 [v1])) (sL [.bad]) .nil]
noncomputable def AL:cC:=⟨[],[],[("skip",vo)]⟩
noncomputable def Oq:SM:=
  b5 AL Dk
noncomputable def BA:aW:=bg 2 [] Oq
noncomputable def abj:gM:=(fc dj BA gK)
noncomputable def AE:TS:=sL [.expr (mE 2 v0 [cS [82,69,78,65,77,69,83]]),.asgT [1,2] (tU [mE 1 v0 [],.cst (.none)]),.ifs (.cmp .NotEq (mE 0 v0 [cS [84,72,82,85,32,84,72,82,79,85,71,72]]) (cS [])) (sL [.asg 2 (mE 1 v0 [])]) .nil,.ret (tU [v1,v2])]
noncomputable def yr:cC:=⟨[],[],[("one_of",tn),("name",Eb),("need",abj)]⟩
noncomputable def MQ:SM:=
  b5 yr AE
noncomputable def zV:aW:=bg 1 [] MQ
noncomputable def uJ:TS:=sL [.asgA 8 v0 v1,.asgA 9 v0 v2,.asgA 7 v0 v3,.asgA 6 v0 (kA 0 [v4]),.asgA 5 v0 (kA 0 [v5])]
noncomputable def sF:cC:=⟨[],[("tuple",eZ)],[]⟩
noncomputable def tY:SM:=
  b5 sF uJ
noncomputable def GB:aW:=bg 6 [.none,.tup [],.tup []] tY
noncomputable def Kf:aW:=FK 8 (ui lI GB)
noncomputable def As:TS:=sL [.asg 1 (lS [mE 1 v0 []]),.whl (mE 0 v0 []) (sL [.bad]),.ret v1]
noncomputable def yf:cC:=⟨[],[],[("is_name",tS),("name",Eb)]⟩
noncomputable def MF:SM:=
  b5 yf As
noncomputable def zN:aW:=bg 1 [] MF
noncomputable def Wf:gM:=(fc dj zN gK)
noncomputable def Aw:TS:=sL [.asgT [1,2] (tU [cI 0,cI 0]),.whl (.or (.cmp .Gt v1 (cI 0)) (.and (.cmp .Eq v2 (cI 0)) (mE 0 v0 [cS [40]]))) (sL [.bad,.bad,.bad]),.ret (.cst (.bool false))]
noncomputable def yi:cC:=⟨[],[],[("is_sign",qb)]⟩
noncomputable def MI:SM:=
  b5 yi Aw
noncomputable def zQ:aW:=bg 1 [] MI
noncomputable def Mk:TS:=sL [.asg 2 (mE 3 v0 []),.asg 3 (lS []),.whl (.cmp .NotEq (mE 1 v0 [cS [79,70,32,73,78]]) (cS [])) (sL [.expr (mE 2 v3 [mE 3 v0 []])]),.asg 4 (tU []),.ifs (.and (mE 0 v0 [cS [40]]) (.not (kA 1 [v0]))) (sL [.bad]) .nil,.asg 5 (.ife (kA 1 [v0]) .nil (.cst (.none))),.ret (tU [cS [114,101,102],v2,kA 0 [v3],v4,v5])]
noncomputable def JQ:cC:=⟨[],[("tuple",eZ),("is_part_next",zQ)],[("is_sign",qb),("one_of",tn),("append",(fN gk)),("name",Eb)]⟩
noncomputable def Wn:SM:=
  b5 JQ Mk
noncomputable def Ly:aW:=bg 2 [] Wn
noncomputable def Mn:TS:=sL [.ifs (.cmp .GtE v1 (.idx v0 (cI 1))) (sL [.ret (.bin .Mult (.idx v0 (cI 0)) (.bin .Pow (cI 10) (.bin .Sub v1 (.idx v0 (cI 1)))))]) .nil,.bad,.bad,.bad,.bad]
noncomputable def JT:cC:=⟨[],[],[]⟩
noncomputable def Wq:SM:=
  b5 JT Mn
noncomputable def LB:aW:=bg 3 [] Wq
noncomputable def Mo:TS:=sL [.ret (kA 0 [v0,cI 0,.cst (.bool false)])]
noncomputable def JU:cC:=⟨[],[("units_at",LB)],[]⟩
noncomputable def Wr:SM:=
  b5 JU Mo
noncomputable def oc:aW:=bg 1 [] Wr
noncomputable def Mj:TS:=sL [.ret (.cmp .Eq (.idx v0 (cI 1)) (cI 0))]
noncomputable def JP:cC:=⟨[],[],[]⟩
noncomputable def Wm:SM:=
  b5 JP Mj
noncomputable def lE:aW:=bg 1 [] Wm
noncomputable def Ng:TS:=sL [.ifs (.not (mE 1 v0 [cS [110,117,109,98,101,114]])) (sL [.bad]) .nil,.asg 1 (kA 2 [.atr 1 (mE 0 v0 [])]),.ifs (.not (kA 1 [v1])) (sL [.bad]) .nil,.asgA 4 v0 (.bin .Add (.atr 4 v0) (cI 1)),.ret (kA 0 [v1])]
noncomputable def Lj:cC:=⟨[],[("whole_of",(wC oc)),("is_whole",(wC lE)),("read_decimal",(wC iz))],[("peek",gm),("is_kind",fb)]⟩
noncomputable def rI:SM:=
  (aV (r5 (o8 (jd (cF fb (al 0) (aw (a7 (.str [110,117,109,98,101,114])) aJ))))
  (aV (fun _ _=>none)
  bk)
  bk)
  (aV (cO [1] (bq (wC iz) (aw (un (aA 1) (cF gm (al 0) aJ)) aJ)))
  (aV (r5 (o8 (jd (bq (wC lE) (aw (al 1) aJ))))
  (aV (fun _ _=>none)
  bk)
  bk)
  (aV (lR 4 (al 0) (bi (bU .Add) (un (aA 4) (al 0)) (a7 (.int (1)))))
  (aV (eD (bq (wC oc) (aw (al 1) aJ)))
  bk)))))
noncomputable def nw:aW:=bg 1 [] rI
noncomputable def acJ:gM:=(fc dj nw gK)
noncomputable def Oj:gM:=(fc dj (Sd iz lE oc) gK)
noncomputable def Ds:TS:=sL [.asg 1 (mE 5 v0 []),.asgT [2,3] (tU [v1,.cst (.none)]),.ifs (mE 0 v0 [cS [84,79]]) (sL [.asg 2 (mE 5 v0 [])]) .nil,.expr (mE 0 v0 [cS [84,73,77,69,83]]),.ifs (mE 0 v0 [cS [68,69,80,69,78,68,73,78,71]]) (sL [.expr (mE 0 v0 [cS [79,78]]),.asg 3 (kA 2 [v0,.glb 0])]) .nil,.asgT [4,5] (tU [lS [],tU []]),.whl (.or (mE 2 v0 [cS [65,83,67,69,78,68,73,78,71]]) (mE 2 v0 [cS [68,69,83,67,69,78,68,73,78,71]])) (sL [.asg 6 (.cmp .Eq (.atr 1 (mE 4 v0 [])) (cS [65,83,67,69,78,68,73,78,71])),.expr (mE 0 v0 [cS [75,69,89]]),.expr (mE 0 v0 [cS [73,83]]),.expr (mE 3 v4 [.comp [7] (mE 1 v0 []) .nop (tU [v6,v7])])]),.ifs (mE 0 v0 [cS [73,78,68,69,88,69,68]]) (sL [.expr (mE 0 v0 [cS [66,89]]),.asg 5 (kA 1 [mE 1 v0 []])]) .nil,.ifs (.or (.cmp .Lt v2 v1) (.or (.cmp .Eq v2 (cI 0)) (.and (.cmp .Is v3 (.cst (.none))) (.cmp .NotEq v2 v1)))) (sL [.bad]) .nil,.ret (kA 0 [v1,v2,v3,v4,v5])]
noncomputable def AU:cC:=⟨[("no_expression",.opq)],[("Occurs",Kf),("tuple",eZ),("read_ref",Ly)],[("skip",vo),("names",Wf),("is_word",Gz),("extend",(fN fU)),("take",Ec),("whole",Oj)]⟩
noncomputable def Oz:SM:=
  b5 AU Ds
noncomputable def BH:aW:=bg 1 [] Oz
noncomputable def rn:TS:=sL [.ifs (.cmp .Eq v2 (cS [82,69,68,69,70,73,78,69,83])) (sL [.bad]) (sL [.ifs (.cmp .Eq v2 (cS [79,67,67,85,82,83])) (sL [.asgA 14 v1 (kA 0 [v0])]) (sL [.ifs (.cmp .Eq v2 (cS [74,85,83,84,73,70,73,69,68])) (sL [.bad,.bad]) (sL [.ifs (.cmp .Eq v2 (cS [66,76,65,78,75])) (sL [.bad,.bad,.bad]) (sL [.ifs (.cmp .Eq v2 (cS [86,65,76,85,69])) (sL [.bad,.bad]) (sL [.ifs (.cmp .Eq v2 (cS [85,83,65,71,69])) (sL [.expr (mE 2 v0 [cS [73,83]]),.asg 3 (mE 0 v0 [mE 1 (cS [32]) [.glb 0]]),.ifs (.cmp .Eq v3 (cS [])) (sL [.bad]) .nil,.asgA 15 v1 (.idx (.glb 0) v3)]) (sL [.bad])])])])])])]
noncomputable def pU:cC:=⟨[("USAGE_WORDS",tQ)],[("read_occurs",BH)],[("one_of",tn),("join",(ii vk)),("skip",vo)]⟩
noncomputable def BU:SM:=
  b5 pU rn
noncomputable def qZ:aW:=bg 3 [] BU
noncomputable def Dl:TS:=sL [.for_ [1] (tU [cS [82,69,68,69,70,73,78,69,83],cS [79,67,67,85,82,83],cS [66,76,65,78,75],cS [86,65,76,85,69],cS [85,83,65,71,69],cS [83,73,71,78]]) (sL [.ifs (mE 0 v0 [v1]) (sL [.ret v1]) .nil]),.bad,.bad,.bad]
noncomputable def AM:cC:=⟨[],[],[("skip",vo)]⟩
noncomputable def Ot:SM:=
  b5 AM Dl
noncomputable def BB:aW:=bg 1 [] Ot
noncomputable def sC:TS:=sL [.ifs (.cmp .NotEq (mE 0 v0 [cS [80,73,67,32,80,73,67,84,85,82,69]]) (cS [])) (sL [.ifs (.not (mE 3 v0 [cS [112,105,99,116,117,114,101]])) (sL [.bad]) .nil,.asgA 16 v1 (.atr 1 (mE 2 v0 [])),.ret (cS [80,73,67,84,85,82,69])]) .nil,.asg 2 (mE 0 v0 [mE 1 (cS [32]) [.glb 0]]),.ifs (.cmp .NotEq v2 (cS [])) (sL [.bad,.bad]) .nil,.asg 3 (mE 0 v0 [cS [76,69,65,68,73,78,71,32,84,82,65,73,76,73,78,71]]),.ifs (.cmp .NotEq v3 (cS [])) (sL [.bad,.bad]) .nil,.ret (cS [])]
noncomputable def rr:cC:=⟨[("USAGE_WORDS",tQ)],[],[("one_of",tn),("join",(ii vk)),("take",Ec),("is_kind",tR)]⟩
noncomputable def E8:SM:=
  b5 rr sC
noncomputable def si:aW:=bg 2 [] E8
noncomputable def Az:TS:=sL [.asg 2 (lS []),.whl (.not (mE 0 v0 [cS [46]])) (sL [.asg 3 (mE 2 v0 []),.asg 4 (kA 2 [v0,v1]),.ifs (.cmp .Eq v4 (cS [])) (sL [.asg 4 (kA 1 [v0]),.ifs (.cmp .Eq v4 (cS [])) (sL [.bad]) .nil,.expr (kA 0 [v0,v1,v4])]) .nil,.ifs (.cmp .In v4 v2) (sL [.bad]) .nil,.expr (mE 1 v2 [v4])])]
noncomputable def ym:cC:=⟨[],[("read_named_clause",qZ),("clause_word",BB),("read_bare_clause",si)],[("is_sign",qb),("append",(fN gk)),("peek",yO)]⟩
noncomputable def ML:SM:=
  b5 ym Az
noncomputable def zS:aW:=bg 2 [] ML
noncomputable def x6:TS:=sL [.asgA 20 v0 v1,.asgA 18 v0 v2,.asgA 16 v0 (.cst (.none)),.asgA 15 v0 (cS []),.asgA 10 v0 (cS []),.asgA 35 v0 (.cst (.bool false)),.asgA 14 v0 (.cst (.none)),.asgA 17 v0 (cS []),.asgA 11 v0 (.cst (.none)),.asgA 13 v0 (.cst (.bool false)),.asgA 12 v0 (.cst (.bool false)),.asgA 23 v0 (lS []),.asgA 22 v0 (lS []),.asgA 34 v0 (.cst (.none)),.asgA 21 v0 (.cst (.none)),.asgA 33 v0 (cS []),.asgA 32 v0 (cI 0),.asgA 31 v0 (cI 0),.asgA 30 v0 (.cst (.none))]
noncomputable def we:cC:=⟨[],[],[]⟩
noncomputable def xn:SM:=
  b5 we x6
noncomputable def Kd:aW:=bg 3 [] xn
noncomputable def oU:aW:=ui cg Kd
noncomputable def Nf:TS:=sL [.ifs (.not (.atr 38 v0)) (sL [.bad]) .nil,.ret (kA 0 [v1,.atr 4 (.idx (.atr 38 v0) (kA 1 [.atr 4 v0,.bin .Sub (kA 2 [.atr 38 v0]) (cI 1)]))])]
noncomputable def Li:cC:=⟨[],[("GrammarFault",Wa),("min",Ue),("len",eO)],[]⟩
noncomputable def rH:SM:=
  (aV (r5 (o8 (jd (un (aA 38) (al 0))))
  (aV (fun _ _=>none)
  bk)
  bk)
  (aV (eD (bq Wa (aw (al 1) (aw (un (aA 4) (bi fP (un (aA 38) (al 0)) (bq Ue (aw (un (aA 4) (al 0)) (aw (bi (bU .Sub) (bq eO (aw (un (aA 38) (al 0)) aJ)) (a7 (.int (1)))) aJ))))) aJ))))
  bk))
noncomputable def nv:aW:=bg 2 [] rH
noncomputable def acI:gM:=(fc dj nv gK)
noncomputable def Oi:gM:=(fc dj Sc gK)
noncomputable def F6:TS:=sL [.asg 1 (mE 5 v0 [cS [110,111,32,108,101,118,101,108]]),.asg 2 (mE 4 v0 []),.ifs (.and (.not (.cmp2 .LtE .LtE (cI 1) v2 (.glb 4))) (.cmp .NotIn v2 (tU [.glb 1,.glb 2,.glb 0]))) (sL [.bad]) .nil,.asg 3 (kA 4 [v2,.glb 3]),.ifs (mE 1 v0 []) (sL [.asgA 18 v3 (mE 2 v0 [])]) (sL [.ifs (.cmp .In v2 (tU [.glb 1,.glb 2,.glb 0])) (sL [.bad]) (sL [.expr (mE 3 v0 [.glb 3])])]),.ifs (.cmp .Eq v2 (.glb 0)) (sL [.asgA 23 v3 (lS [kA 0 [.atr 18 v3,kA 1 [v0]]])]) (sL [.ifs (.cmp .Eq v2 (.glb 1)) (sL [.asgA 21 v3 (kA 2 [v0])]) (sL [.expr (kA 3 [v0,v3])])]),.expr (mE 0 v0 [cS [46]]),.ret v3]
noncomputable def DL:cC:=⟨[("NAMING",J8),("RENAMING",Bu),("ALONE",Bs),("FILLER",Sg),("MOST_LEVEL",Fo)],[("Named",xg),("read_worths",BP),("read_renames",zV),("read_clauses",zS),("Item",oU)],[("need_sign",yN),("is_name",tS),("name",Eb),("skip",vo),("whole",Oj),("fault",Oi)]⟩
noncomputable def Rp:SM:=
  b5 DL F6
noncomputable def lD:aW:=bg 1 [] Rp
noncomputable def qC:aW:=ue wB lD
noncomputable def AB:TS:=sL [.asg 1 (lS []),.whl (kA 1 [v0]) (sL [.expr (mE 0 v1 [kA 2 [v0]])]),.ret (kA 0 [v1])]
noncomputable def yo:cC:=⟨[],[("nested",Sk),("is_level_here",p8),("read_entry",wl)],[("append",(fN gk))]⟩
noncomputable def MN:SM:=
  b5 yo AB
noncomputable def xe:aW:=I9 (ub ajl 12) (bg 1 [] MN)
noncomputable def nz:aW:=ue nU xe
noncomputable def uN:TS:=sL [.asg 3 (mE 3 v0 [cS [97,32,102,105,108,101,32,116,119,105,99,101,44,32,111,114,32,111,110,101,32,119,105,116,104,111,117,116,32,114,101,99,111,114,100,115]]),.asg 4 (mE 2 v0 []),.whl (.not (mE 1 v0 [cS [46]])) (sL [.bad,.bad]),.asg 5 (kA 0 [v0]),.ifs (.cmp .NotEq (.comp [6] v5 (.cmp .Eq (.atr 20 v6) (.glb 0)) v6) (lS [])) (sL [.bad]) .nil,.ifs (.or (.cmp .In v4 (.atr 26 v1)) (.cmp .Eq v5 (lS []))) (sL [.bad]) .nil,.asgI (.atr 26 v1) v4 v5,.ifs v2 (sL [.expr (mE 0 (.atr 27 v1) [v4])]) .nil]
noncomputable def sJ:cC:=⟨[("ALONE",Bs)],[("read_entries",nt)],[("append",(fN gk)),("skip_sign",sR),("name",Eb),("fault",Oi)]⟩
noncomputable def GP:SM:=
  b5 sJ uN
noncomputable def tX:aW:=bg 3 [] GP
noncomputable def x5:TS:=sL [.asgA 24 v0 (lS []),.asgA 25 v0 (lS []),.asgA 26 v0 .dic,.asgA 27 v0 (lS []),.asgA 31 v0 (cI 0),.asgA 5 v0 .dic]
noncomputable def wc:cC:=⟨[],[],[]⟩
noncomputable def xm:SM:=
  b5 wc x5
noncomputable def Kc:aW:=bg 1 [] xm
noncomputable def vp:aW:=ui Zj Kc
noncomputable def JA:TS:=sL [.asg 1 (kA 3 []),.ifs (.not (kA 0 [v0,cS [68,65,84,65,32,68,73,86,73,83,73,79,78]])) (sL [.ret v1]) .nil,.ifs (kA 0 [v0,cS [70,73,76,69,32,83,69,67,84,73,79,78]]) (sL [.whl (.or (mE 0 v0 [cS [70,68]]) (mE 0 v0 [cS [83,68]])) (sL [.expr (kA 2 [v0,v1,.cmp .Eq (.atr 1 (mE 2 v0 [])) (cS [83,68])])])]) .nil,.ifs (kA 0 [v0,cS [87,79,82,75,73,78,71,45,83,84,79,82,65,71,69,32,83,69,67,84,73,79,78]]) (sL [.asgA 24 v1 (kA 1 [v0])]) .nil,.ifs (kA 0 [v0,cS [76,73,78,75,65,71,69,32,83,69,67,84,73,79,78]]) (sL [.asgA 25 v1 (kA 1 [v0])]) .nil,.ifs (.and (.not (mE 1 v0 [])) (.not (mE 0 v0 [cS [80,82,79,67,69,68,85,82,69,32,68,73,86,73,83,73,79,78]]))) (sL [.bad]) .nil,.ret v1]
noncomputable def Gf:cC:=⟨[],[("skip_heading",zZ),("read_entries",nt),("read_file_entry",tX),("Data",vp)],[("is_word",Gz),("is_done",qa),("take",Ec)]⟩
noncomputable def Un:SM:=
  b5 Gf JA
noncomputable def Ft:aW:=I9 (ub ang 12) (bg 1 [] Un)
noncomputable def oX:aW:=ue nU Ft
noncomputable def mc(lab:List AV->List AV):aW:=fun args σ=>self args σ fun r as L=>KO as (oX [.ref r] (σ.set r (.orc 1021 (lab L))))
noncomputable def HD:TS:=sL [.asgA 38 v0 v1,.asgA 4 v0 v2,.asgA 37 v0 .dic,.asgA 36 v0 .dic]
noncomputable def Ff:cC:=⟨[],[],[]⟩
noncomputable def kh:SM:=
  (aV (lR 38 (al 0) (al 1))
  (aV (lR 4 (al 0) (al 2))
  (aV (lR 37 (al 0) FH)
  (aV (lR 36 (al 0) FH)
  bk))))
noncomputable def i6:aW:=bg 3 [.int (0)] kh
noncomputable def xh:aW:=anc (ui dj i6)
noncomputable def vY:TS:=sL [.asgA 2 v0 v1,.asgA 1 v0 v2,.asgA 4 v0 v3,.asgA 28 v0 v4]
noncomputable def uR:cC:=⟨[],[],[]⟩
noncomputable def vw:SM:=
  b5 uR vY
noncomputable def Ih:aW:=bg 5 [.tup [.int (0),.int (0)],.bool false] vw
noncomputable def Ok:aW:=FK 8 (ui UK Ih)
noncomputable def uM:TS:=sL [.ret (.and (.cmp .Gt (kA 0 [v0]) (cI 0)) (.and (.cmp .Eq (.atr 2 (.idx v0 (.neg (cI 1)))) (cS [119,111,114,100])) (.cmp .In (.atr 1 (.idx v0 (.neg (cI 1)))) (tU [cS [80,73,67],cS [80,73,67,84,85,82,69]]))))]
noncomputable def sI:cC:=⟨[],[("len",eO)],[]⟩
noncomputable def GO:SM:=
  b5 sI uM
noncomputable def tW:aW:=bg 1 [] GO
noncomputable def F1:TS:=sL [.ret (.ife (.cmp2 .LtE .LtE (cS [97]) v0 (cS [122])) (kA 0 [.bin .Sub (kA 1 [v0]) (cI 32)]) v0)]
noncomputable def DG:cC:=⟨[],[("chr",YU),("ord",YV)],[]⟩
noncomputable def Rj:SM:=
  b5 DG F1
noncomputable def nd:aW:=bg 1 [] Rj
noncomputable def Mi:TS:=sL [.ret (mE 0 (cS []) [.comp [1] v0 .nop (kA 0 [v1])])]
noncomputable def JN:cC:=⟨[],[("capital_of",nd)],[("join",(ii vk))]⟩
noncomputable def Wl:SM:=
  b5 JN Mi
noncomputable def vt:aW:=bg 1 [] Wl
noncomputable def Dq:TS:=sL [.asg 2 v1,.whl (.and (.cmp .Lt v2 (kA 0 [v0])) (.cmp .NotIn (.idx v0 v2) (cS [32,61]))) (sL [.asg 2 (.bin .Add v2 (cI 1))]),.ret (.ife (.and (.cmp .Gt v2 v1) (.cmp .In (.idx v0 (.bin .Sub v2 (cI 1))) (.glb 0))) (.bin .Sub v2 (cI 1)) v2)]
noncomputable def AQ:cC:=⟨[("ENDS",abh)],[("len",eO)],[]⟩
noncomputable def Ox:SM:=
  b5 AQ Dq
noncomputable def BF:aW:=bg 2 [] Ox
noncomputable def uL:TS:=sL [.asg 2 (kA 1 [.atr 0 v0,v1]),.ifs (.cmp .Eq v2 v1) (sL [.bad]) .nil,.ret (tU [kA 0 [.slc (.atr 0 v0) v1 v2],v2])]
noncomputable def sH:cC:=⟨[],[("capitals",vt),("picture_end",BF)],[]⟩
noncomputable def GN:SM:=
  b5 sH uL
noncomputable def tV:aW:=bg 2 [] GN
noncomputable def Jz:TS:=sL [.ret (.or (.cmp .GtE v1 (kA 0 [v0])) (.cmp .Eq (.idx v0 v1) (cS [32])))]
noncomputable def Ge:cC:=⟨[],[("len",eO)],[]⟩
noncomputable def Ul:SM:=
  b5 Ge Jz
noncomputable def sV:aW:=bg 2 [] Ul
noncomputable def QL:TS:=sL [.asg 2 (.slc (.atr 0 v0) v1 (.bin .Add v1 (cI 2))),.ifs (.cmp .Eq v2 (cS [61,61])) (sL [.bad]) .nil,.ifs (.cmp .In v2 (mE 0 (.glb 1) [cS [32]])) (sL [.bad]) .nil,.asg 3 (.idx (.atr 0 v0) v1),.ifs (.or (.cmp .In v3 (.glb 0)) (.and (.cmp .Eq v3 (cS [46])) (kA 0 [.atr 0 v0,.bin .Add v1 (cI 1)]))) (sL [.ret (tU [cS [115,105,103,110],v3])]) .nil,.bad]
noncomputable def Mw:cC:=⟨[("SINGLE_SIGNS",zK),("DOUBLE_SIGNS",zI)],[("is_parted",sV)],[("split",(ii kC))]⟩
noncomputable def Y3:SM:=
  b5 Mw QL
noncomputable def Om:aW:=bg 2 [] Y3
noncomputable def uK:TS:=sL [.asg 3 (.idx (.atr 0 v0) v1),.asg 4 (mE 0 (.slc (.atr 0 v0) (.bin .Add v1 (cI 1)) (.bin .Sub v2 (cI 1))) [.bin .Add v3 v3,v3]),.ifs (.not (.cmp2 .LtE .LtE (cI 1) (kA 0 [v4]) (.glb 0))) (sL [.bad]) .nil,.ret v4]
noncomputable def sG:cC:=⟨[("MOST_LITERAL",zJ)],[("len",eO)],[("replace",(ii tP))]⟩
noncomputable def GG:SM:=
  b5 sG uK
noncomputable def tT:aW:=bg 3 [] GG
noncomputable def Ax:TS:=sL [.ret (.cmp .In (kA 0 [v0]) (.glb 0))]
noncomputable def yj:cC:=⟨[("WORD_SIGNS",wm)],[("capital_of",nd)],[]⟩
noncomputable def MJ:SM:=
  b5 yj Ax
noncomputable def zR:aW:=bg 1 [] MJ
noncomputable def F4:TS:=sL [.asg 2 (.slc (.atr 0 v0) v1 (.bin .Add v1 (cI 2))),.ifs (.cmp .Eq v2 (cS [])) (sL [.bad]) .nil,.ifs (.or (.and (kA 0 [.idx v2 (cI 0)]) (.cmp .NotEq (.idx v2 (cI 0)) (cS [45]))) (.cmp .In (.idx v2 (cI 0)) (.glb 1))) (sL [.bad]) .nil,.ifs (.and (.cmp .Eq (.idx v2 (cI 0)) (cS [46])) (.and (.cmp .NotEq (.slc v2 (cI 1) .nop) (cS [])) (.cmp .In (.idx v2 (cI 1)) (.glb 0)))) (sL [.bad]) .nil]
noncomputable def DJ:cC:=⟨[("FIGURES_tokens",k9),("QUOTES",J9)],[("is_word_sign",zR)],[]⟩
noncomputable def Rn:SM:=
  b5 DJ F4
noncomputable def Fx:aW:=bg 2 [] Rn
noncomputable def Dp:TS:=sL [.asg 2 (.idx (.atr 0 v0) v1),.asg 3 (.bin .Add v1 (cI 1)),.whl (.cmp .Lt v3 (kA 0 [.atr 0 v0])) (sL [.ifs (.cmp .NotEq (.idx (.atr 0 v0) v3) v2) (sL [.asg 3 (.bin .Add v3 (cI 1))]) (sL [.ifs (.cmp .Eq (.slc (.atr 0 v0) (.bin .Add v3 (cI 1)) (.bin .Add v3 (cI 2))) v2) (sL [.bad]) (sL [.ret (.bin .Add v3 (cI 1))])])]),.bad]
noncomputable def AP:cC:=⟨[],[("len",eO)],[]⟩
noncomputable def Ow:SM:=
  b5 AP Dp
noncomputable def BE:aW:=bg 2 [] Ow
noncomputable def Au:TS:=sL [.asg 3 (kA 1 [.slc (.atr 0 v0) v1 v2]),.ifs (.cmp .Eq (.comp [4] v3 (.cmp .In v4 (.glb 1)) v4) (lS [])) (sL [.bad]) .nil,.ifs (.cmp .Eq (.idx v3 (.neg (cI 1))) (cS [45])) (sL [.bad]) .nil,.ifs (.cmp .Gt (kA 0 [v3]) (.glb 0)) (sL [.bad]) .nil,.ret v3]
noncomputable def yg:cC:=⟨[("MOST_WORD",Ie),("LETTERS",Gw)],[("len",eO),("capitals",vt)],[]⟩
noncomputable def MG:SM:=
  b5 yg Au
noncomputable def zO:aW:=bg 3 [] MG
noncomputable def vZ:TS:=sL [.asg 3 (.slc (.atr 0 v0) v1 v2),.ifs (.cmp .Gt (kA 0 [.rep 46 v3]) (.glb 0)) (sL [.bad]) .nil,.ret v3]
noncomputable def uS:cC:=⟨[("MOST_FIGURES",rz)],[("len",eO)],[]⟩
noncomputable def Im:SM:=
  b5 uS vZ
noncomputable def vu:aW:=bg 3 [] Im
noncomputable def QN:TS:=sL [.whl (.and (.cmp .Lt v1 (kA 1 [v0])) (.cmp .In (kA 0 [.idx v0 v1]) v2)) (sL [.asg 1 (.bin .Add v1 (cI 1))]),.ret v1]
noncomputable def My:cC:=⟨[],[("capital_of",nd),("len",eO)],[]⟩
noncomputable def Y5:SM:=
  b5 My QN
noncomputable def GC:aW:=bg 3 [] Y5
noncomputable def F5:TS:=sL [.asg 2 (kA 0 [v0,v1,.glb 0]),.ifs (.and (.cmp .Eq (.slc v0 v2 (.bin .Add v2 (cI 1))) (cS [46])) (.and (.cmp .NotEq (.slc v0 (.bin .Add v2 (cI 1)) (.bin .Add v2 (cI 2))) (cS [])) (.cmp .In (.idx v0 (.bin .Add v2 (cI 1))) (.glb 0)))) (sL [.asg 2 (kA 0 [v0,.bin .Add v2 (cI 1),.glb 0])]) .nil,.ret v2]
noncomputable def DK:cC:=⟨[("FIGURES_tokens",k9)],[("run_end",GC)],[]⟩
noncomputable def Ro:SM:=
  b5 DK F5
noncomputable def Fy:aW:=bg 2 [] Ro
noncomputable def Mp:TS:=sL [.asg 2 (kA 9 [.idx (.atr 0 v0) v1]),.ifs (.or (.cmp .In v2 (.glb 2)) (.cmp .In v2 (.glb 1))) (sL [.asg 3 (kA 8 [.atr 0 v0,v1,.glb 3]),.asg 4 (kA 7 [.atr 0 v0,v1]),.ifs (.and (.cmp .In v2 (.glb 1)) (.cmp .GtE v4 v3)) (sL [.expr (kA 3 [v0,v4]),.ret (tU [cS [110,117,109,98,101,114],kA 6 [v0,v1,v4],v4])]) .nil,.expr (kA 3 [v0,v3]),.ret (tU [cS [119,111,114,100],kA 5 [v0,v1,v3],v3])]) .nil,.ifs (.and (.cmp .Eq v2 (cS [46])) (.and (.cmp .NotEq (.slc (.atr 0 v0) (.bin .Add v1 (cI 1)) (.bin .Add v1 (cI 2))) (cS [])) (.cmp .In (.idx (.atr 0 v0) (.bin .Add v1 (cI 1))) (.glb 1)))) (sL [.bad,.bad,.bad]) .nil,.ifs (.cmp .In v2 (.glb 0)) (sL [.asg 3 (kA 4 [v0,v1]),.expr (kA 3 [v0,v3]),.ret (tU [cS [108,105,116,101,114,97,108],kA 2 [v0,v1,v3],v3])]) .nil,.asgT [5,6] (kA 1 [v0,v1]),.ret (tU [v5,v6,.bin .Add v1 (kA 0 [v6])])]
noncomputable def JV:cC:=⟨[("QUOTES",J9),("FIGURES_tokens",k9),("LETTERS",Gw),("WORD_SIGNS",wm)],[("len",eO),("mark_at",Om),("checked_literal",tT),("need_apart",Fx),("literal_end",BE),("checked_word",zO),("checked_number",vu),("number_end",Fy),("run_end",GC),("capital_of",nd)],[]⟩
noncomputable def Ws:SM:=
  b5 JV Mp
noncomputable def LF:aW:=bg 2 [] Ws
noncomputable def F2:TS:=sL [.ret (.and (.cmp .Eq (kA 1 [.slc v0 v1 (.bin .Add v1 (cI 2))]) (cS [73,83])) (kA 0 [v0,.bin .Add v1 (cI 2)]))]
noncomputable def DH:cC:=⟨[],[("is_parted",sV),("capitals",vt)],[]⟩
noncomputable def Rk:SM:=
  b5 DH F2
noncomputable def Fv:aW:=bg 2 [] Rk
noncomputable def Dm:TS:=sL [.ret (.or (.cmp .Eq (.idx v0 v1) (cS [32])) (.and (.cmp .In (.idx v0 v1) (cS [44,59])) (kA 0 [v0,.bin .Add v1 (cI 1)])))]
noncomputable def AN:cC:=⟨[],[("is_parted",sV)],[]⟩
noncomputable def Ou:SM:=
  b5 AN Dm
noncomputable def BC:aW:=bg 2 [] Ou
noncomputable def F0:TS:=sL [.asg 2 (cI 0),.asg 3 (.cst (.bool false)),.whl (.cmp .Lt v2 (kA 0 [.atr 0 v1])) (sL [.ifs (kA 6 [.atr 0 v1,v2]) (sL [.asg 2 (.bin .Add v2 (cI 1)),.cont]) .nil,.asg 4 (.idx (.atr 3 v1) v2),.ifs (.and (kA 2 [v0]) (.and (.not v3) (kA 5 [.atr 0 v1,v2]))) (sL [.bad,.bad,.bad]) .nil,.ifs (kA 2 [v0]) (sL [.asg 5 (cS [112,105,99,116,117,114,101]),.asgT [6,7] (kA 3 [v1,v2])]) (sL [.asgT [5,6,7] (kA 4 [v1,v2])]),.expr (mE 0 v0 [kA 1 [v5,v6,v4,.cmp2 .LtE .LtE (cI 8) (.idx v4 (cI 1)) (cI 11)]]),.asg 3 (.cst (.bool false)),.asg 2 v7])]
noncomputable def DF:cC:=⟨[],[("len",eO),("Token",Ok),("is_picture_next",tW),("checked_picture",tV),("worth_at",LF),("is_word_is",Fv),("is_blank_at",BC)],[("append",(fN gk))]⟩
noncomputable def Ri:SM:=
  b5 DF F0
noncomputable def Fu:aW:=bg 2 [] Ri
noncomputable def JD:TS:=sL [.asg 1 (lS []),.for_ [2] v0 (sL [.expr (kA 0 [v1,v2])]),.ret v1]
noncomputable def Gi:cC:=⟨[],[("add_tokens",Fu)],[]⟩
noncomputable def Up:SM:=
  b5 Gi JD
noncomputable def Ij:aW:=FK 12 (bg 1 [] Up)
noncomputable def x7:TS:=sL [.asgA 0 v0 v1,.asgA 3 v0 v2]
noncomputable def wf:cC:=⟨[],[],[]⟩
noncomputable def xo:SM:=
  b5 wf x7
noncomputable def Ke:aW:=bg 3 [] xo
noncomputable def abk:aW:=FK 8 (ui cLine Ke)
noncomputable def Dw:TS:=sL [.asg 2 (.ife v1 (.glb 0) (.glb 1)),.asg 3 (kA 3 [lS [kA 4 [v0,.comp [5] (kA 0 [kA 1 [v0]]) .nop (tU [cI 1,.bin .Add v2 v5])]]]),.ret (.comp [4] (kA 0 [kA 1 [v3]]) .nop (kA 2 [.atr 2 (.idx v3 v4),.atr 1 (.idx v3 v4),.atr 4 (.idx v3 v4),.and v1 (.cmp .Eq v4 (cI 0))]))]
noncomputable def AZ:cC:=⟨[("AREA_A",Se),("AREA_B",Sf)],[("range",lB),("len",eO),("Token",Ok),("tokens_of",Ij),("Line",abk)],[]⟩
noncomputable def OD:SM:=
  b5 AZ Dw
noncomputable def rC:aW:=bg 2 [.bool false] OD
noncomputable def cH:aW:=vJ aay rC
noncomputable def TE:TS:=sL [.ret (mE 0 (cS [32]) [.comp [1] v0 (.cmp .NotEq v1 (cS [])) v1])]
noncomputable def QY:cC:=⟨[],[],[("join",(ii vk))]⟩
noncomputable def acK:SM:=
  b5 QY TE
noncomputable def Ed:aW:=bg 1 [] acK
noncomputable def TG:TS:=sL [.ret (.bin .Add (.bin .Add (cS [34]) (mE 0 v0 [cS [34],cS [34,34]])) (cS [34]))]
noncomputable def Q0:cC:=⟨[],[],[("replace",(ii tP))]⟩
noncomputable def acM:SM:=
  b5 Q0 TG
noncomputable def Sl:aW:=bg 1 [] acM
noncomputable def AH:TS:=sL [.ret (kA 0 [mE 0 (cS []) [.comp [1] v0 .nop (kA 1 [v1])]])]
noncomputable def yu:cC:=⟨[],[("quoted",Sl),("chr",YU)],[("join",(ii vk))]⟩
noncomputable def MU:SM:=
  b5 yu AH
noncomputable def zY:aW:=bg 1 [] MU
noncomputable def ya:TS:=sL [.asg 1 (kA 1 [kA 2 [.idx v0 (cI 0)]]),.ifs (.cmp .Gt (.idx v0 (cI 1)) (cI 0)) (sL [.asg 1 (.bin .Add (.bin .Mult (cS [48]) (.bin .Sub (.bin .Add (.idx v0 (cI 1)) (cI 1)) (kA 0 [v1]))) v1),.asg 1 (.bin .Add (.bin .Add (.slc v1 .nop (.bin .Sub (kA 0 [v1]) (.idx v0 (cI 1)))) (cS [46])) (.slc v1 (.bin .Sub (kA 0 [v1]) (.idx v0 (cI 1))) .nop))]) .nil,.ret (.ife (.cmp .Lt (.idx v0 (cI 0)) (cI 0)) (.bin .Add (cS [45]) v1) v1)]
noncomputable def wi:cC:=⟨[],[("len",eO),("str",Uf),("abs",YT)],[]⟩
noncomputable def Kk:SM:=
  b5 wi ya
noncomputable def xk:aW:=bg 1 [] Kk
noncomputable def AG:TS:=sL [.asg 1 (kA 1 [v0]),.ret (.ife (.and (.cmp .Eq (.idx v0 (cI 1)) (.glb 0)) (.cmp .Lt (kA 0 [.idx v0 (cI 0)]) (.bin .Pow (cI 10) (.idx v0 (cI 1))))) (mE 0 v1 [cS [48,46],cS [46],cI 1]) v1)]
noncomputable def yt:cC:=⟨[("MOST_FIGURES",rz)],[("abs",YT),("write_decimal",xk)],[("replace",(ii tP))]⟩
noncomputable def MT:SM:=
  b5 yt AG
noncomputable def zX:aW:=bg 1 [] MT
noncomputable def AF:TS:=sL [.ifs (.cmp .Eq (.idx v0 (cI 0)) (cS [114,101,102])) (sL [.bad]) .nil,.ifs (.cmp .Eq (.idx v0 (cI 0)) (cS [110,117,109,98,101,114])) (sL [.ret (kA 1 [.idx v0 (cI 1)])]) .nil,.ifs (.cmp .Eq (.idx v0 (cI 0)) (cS [102,105,103,117,114,101])) (sL [.bad]) .nil,.ret (.bin .Add (.ife (.cmp .Eq (.idx v0 (cI 0)) (cS [97,108,108])) (cS [65,76,76,32]) (cS [])) (kA 0 [.idx v0 (cI 1)]))]
noncomputable def ys:cC:=⟨[],[("shown_octets",zY),("shown_number",zX)],[]⟩
noncomputable def MS:SM:=
  b5 ys AF
noncomputable def zW:aW:=bg 2 [] MS
noncomputable def Ay:TS:=sL [.ret (kA 0 [v0,.glb 0])]
noncomputable def yk:cC:=⟨[("show_expression",.opq)],[("show_operand",zW)],[]⟩
noncomputable def MK:SM:=
  b5 yk Ay
noncomputable def rF:aW:=bg 1 [] MK
noncomputable def Dv:TS:=sL [.asg 1 (lS []),.for_ [2,3] (.atr 19 v0) (sL [.expr (mE 0 v1 [.bin .Add (kA 1 [v2]) (.ife (.cmp .Is v3 (.cst (.none))) (cS []) (.bin .Add (cS [32,84,72,82,85,32]) (kA 1 [v3])))])]),.ret (.bin .Add (.bin .Add (.bin .Add (.bin .Add (cS [56,56,32]) (.atr 18 v0)) (cS [32,86,65,76,85,69,32])) (kA 0 [v1])) (cS [32,46]))]
noncomputable def AY:cC:=⟨[],[("joined",Ed),("operand_text",rF)],[("append",(fN gk))]⟩
noncomputable def OC:SM:=
  b5 AY Dv
noncomputable def zM:aW:=bg 1 [] OC
noncomputable def lF:aW:=vJ nU zM
noncomputable def TH:TS:=sL [.ret (.ife (.cmp .Eq v1 (cS [])) (cS []) (.bin .Add (.bin .Add v0 (cS [32])) v1))]
noncomputable def Q1:cC:=⟨[],[],[]⟩
noncomputable def acN:SM:=
  b5 Q1 TH
noncomputable def Kg:aW:=bg 2 [] acN
noncomputable def Mm:TS:=sL [.asg 2 (mE 0 (cS [32,79,70,32]) [.bin .Add (lS [.idx v0 (cI 1)]) (kA 0 [.idx v0 (cI 2)])]),.ifs (.cmp .NotEq (.idx v0 (cI 3)) (tU [])) (sL [.bad]) .nil,.ifs (.cmp .IsNot (.idx v0 (cI 4)) (.cst (.none))) (sL [.bad,.bad]) .nil,.ret v2]
noncomputable def JS:cC:=⟨[],[("list",abf)],[("join",(ii vk))]⟩
noncomputable def Wp:SM:=
  b5 JS Mm
noncomputable def LA:aW:=bg 2 [] Wp
noncomputable def Ml:TS:=sL [.ret (kA 0 [v0,.glb 0])]
noncomputable def JR:cC:=⟨[("show_expression",.opq)],[("show_ref",LA)],[]⟩
noncomputable def Wo:SM:=
  b5 JR Ml
noncomputable def Lz:aW:=bg 1 [] Wo
noncomputable def Du:TS:=sL [.ifs (.cmp .Is (.atr 7 v0) (.cst (.none))) (sL [.asg 1 (.bin .Add (.bin .Add (cS [79,67,67,85,82,83,32]) (kA 2 [.atr 8 v0])) (cS [32,84,73,77,69,83]))]) (sL [.asg 1 (.bin .Add (.bin .Add (.bin .Add (.bin .Add (.bin .Add (cS [79,67,67,85,82,83,32]) (kA 2 [.atr 8 v0])) (cS [32,84,79,32])) (kA 2 [.atr 9 v0])) (cS [32,84,73,77,69,83,32,68,69,80,69,78,68,73,78,71,32,79,78,32])) (kA 3 [.atr 7 v0]))]),.asg 2 (.comp [3,4] (.atr 6 v0) .nop (.bin .Add (.ife v3 (cS [65,83,67,69,78,68,73,78,71,32,75,69,89,32,73,83,32]) (cS [68,69,83,67,69,78,68,73,78,71,32,75,69,89,32,73,83,32])) v4)),.ret (kA 0 [.bin .Add (.bin .Add (lS [v1]) v2) (lS [kA 1 [cS [73,78,68,69,88,69,68,32,66,89],kA 0 [.atr 5 v0]]])])]
noncomputable def AX:cC:=⟨[],[("joined",Ed),("worded",Kg),("str",Uf),("ref_text",Lz)],[]⟩
noncomputable def OB:SM:=
  b5 AX Du
noncomputable def BQ:aW:=bg 1 [] OB
noncomputable def JC:TS:=sL [.ifs (.cmp .Eq (.atr 10 v0) (cS [])) (sL [.ret (cS [])]) .nil,.bad]
noncomputable def Gg:cC:=⟨[],[],[]⟩
noncomputable def Uo:SM:=
  b5 Gg JC
noncomputable def Ii:aW:=bg 1 [] Uo
noncomputable def Av:TS:=sL [.ret (lS [kA 3 [cS [82,69,68,69,70,73,78,69,83],.atr 17 v0],.ife (.cmp .Is (.atr 16 v0) (.cst (.none))) (cS []) (.bin .Add (cS [80,73,67,32]) (.atr 16 v0)),.ife (.cmp .Eq (.atr 15 v0) (cS [])) (cS []) (.bin .Add (cS [85,83,65,71,69,32,73,83,32]) (.idx (.glb 0) (.atr 15 v0))),kA 2 [v0],.ife (.cmp .Is (.atr 14 v0) (.cst (.none))) (cS []) (kA 1 [.atr 14 v0]),.ife (.atr 13 v0) (cS [74,85,83,84,73,70,73,69,68,32,82,73,71,72,84]) (cS []),.ife (.atr 12 v0) (cS [66,76,65,78,75,32,87,72,69,78,32,90,69,82,79]) (cS []),.ife (.cmp .Is (.atr 11 v0) (.cst (.none))) (cS []) (.bin .Add (cS [86,65,76,85,69,32,73,83,32]) (kA 0 [.atr 11 v0]))])]
noncomputable def yh:cC:=⟨[("USAGE_NAMES",Bv)],[("operand_text",rF),("show_occurs",BQ),("show_sign",Ii),("worded",Kg)],[]⟩
noncomputable def MH:SM:=
  b5 yh Av
noncomputable def zP:aW:=bg 1 [] MH
noncomputable def F3:TS:=sL [.ret (.slc (.bin .Add (cS [48]) (kA 0 [v0])) (.neg (cI 2)) .nop)]
noncomputable def DI:cC:=⟨[],[("str",Uf)],[]⟩
noncomputable def Rl:SM:=
  b5 DI F3
noncomputable def Fw:aW:=bg 1 [] Rl
noncomputable def F7:TS:=sL [.asg 1 (.bin .Add (.bin .Add (kA 2 [.atr 20 v0]) (cS [32])) (.atr 18 v0)),.ifs (.cmp .Eq (.atr 20 v0) (.glb 0)) (sL [.asgT [2,3] (.atr 21 v0),.ret (.bin .Add (.bin .Add (.bin .Add (.bin .Add v1 (cS [32,82,69,78,65,77,69,83,32])) v2) (.ife (.cmp .Is v3 (.cst (.none))) (cS []) (.bin .Add (cS [32,84,72,82,85,32]) v3))) (cS [32,46]))]) .nil,.ret (kA 0 [.bin .Add (.bin .Add (lS [v1]) (kA 1 [v0])) (lS [cS [46]])])]
noncomputable def DM:cC:=⟨[("RENAMES_LEVEL",w8)],[("joined",Ed),("clause_texts",zP),("level_text",Fw)],[]⟩
noncomputable def Rq:SM:=
  b5 DM F7
noncomputable def Bx:aW:=bg 1 [] Rq
noncomputable def ng:aW:=vJ nU Bx
noncomputable def Nh:TS:=sL [.asg 1 (kA 1 [kA 3 [v0],.cmp .In (.atr 20 v0) (.glb 0)]),.for_ [2] (.atr 23 v0) (sL [.expr (mE 0 v1 [kA 1 [kA 2 [v2]]])]),.for_ [3] (.atr 22 v0) (sL [.expr (mE 0 v1 [kA 0 [v3]])]),.ret v1]
noncomputable def Lk(self:aW):cC:=⟨[("TOP_LEVELS",iR)],[("entry_tokens",self),("text_tokens",cH),("show_worths",lF),("show_entry",ng)],[("extend",(fN fU))]⟩
noncomputable def nA(self:aW):SM:=
  (aV (cO [1] (bq cH (aw (bq ng (aw (al 0) aJ)) (aw (rO (fi (bV .In) (un (aA 20) (al 0)) (a7 iR))) aJ))))
  (aV (gv [2] (un (aA 23) (al 0))
  (aV (kX (cF (fN fU) (al 1) (aw (bq cH (aw (bq lF (aw (al 2) aJ)) aJ)) aJ)))
  bk))
  (aV (gv [3] (un (aA 22) (al 0))
  (aV (kX (cF (fN fU) (al 1) (aw (bq self (aw (al 3) aJ)) aJ)))
  bk))
  (aV (eD (al 1))
  bk))))
noncomputable def xc(self:aW):aW:=FK 12 (bg 1 [] (nA self))
noncomputable def cn:Nat->aW
 |0=>Ud
 |n+1=>vJ nU (xc (cn n))
noncomputable def Ni:TS:=sL [.asg 1 (lS []),.for_ [2] v0 (sL [.expr (mE 0 v1 [kA 0 [v2]])]),.ret v1]
noncomputable def Ll:cC:=⟨[],[("entry_tokens",(cn 6))],[("extend",(fN fU))]⟩
noncomputable def rJ:SM:=
  (aV (cO [1] (bq cX aJ))
  (aV (gv [2] (al 0)
  (aV (kX (cF (fN fU) (al 1) (aw (bq (cn 6) (aw (al 2) aJ)) aJ)))
  bk))
  (aV (eD (al 1))
  bk)))
noncomputable def xf:aW:=FK 12 (bg 1 [] rJ)
noncomputable def iA:aW:=vJ nU xf
noncomputable def JB:TS:=sL [.ifs (.cmp .Eq v1 (lS [])) (sL [.ret (lS [])]) .nil,.ret (.bin .Add (kA 0 [.bin .Add v0 (cS [32,83,69,67,84,73,79,78,46]),.cst (.bool true)]) (kA 1 [v1]))]
noncomputable def HK:cC:=⟨[],[("text_tokens",cH),("roots_tokens",iA)],[]⟩
noncomputable def eL:SM:=
  (aV (r5 (fi (bV .Eq) (al 1) (bq cX aJ))
  (aV (eD (bq cX aJ))
  bk)
  bk)
  (aV (eD (bi (bU .Add) (bq cH (aw (bi (bU .Add) (al 0) (a7 (.str [32,83,69,67,84,73,79,78,46]))) (aw (a7 (.bool true)) aJ))) (bq iA (aw (al 1) aJ))))
  bk))
noncomputable def nQ:aW:=FK 12 (bg 2 [] eL)
noncomputable def eK:aW:=vJ nU nQ
noncomputable def QJ:TS:=sL [.asg 1 (lS []),.for_ [2] (.atr 26 v0) (sL [.asg 3 (.ife (.cmp .In v2 (.atr 27 v0)) (cS [83,68,32]) (cS [70,68,32])),.expr (mE 0 v1 [.bin .Add (kA 0 [.bin .Add (.bin .Add v3 v2) (cS [46]),.cst (.bool true)]) (kA 2 [.idx (.atr 26 v0) v2])])]),.ifs (.cmp .NotEq v1 (lS [])) (sL [.asg 1 (.bin .Add (kA 0 [cS [70,73,76,69,32,83,69,67,84,73,79,78,46],.cst (.bool true)]) v1)]) .nil,.asg 1 (.bin .Add (.bin .Add v1 (kA 1 [cS [87,79,82,75,73,78,71,45,83,84,79,82,65,71,69],.atr 24 v0])) (kA 1 [cS [76,73,78,75,65,71,69],.atr 25 v0])),.ret (.ife (.cmp .NotEq v1 (lS [])) (.bin .Add (kA 0 [cS [68,65,84,65,32,68,73,86,73,83,73,79,78,46],.cst (.bool true)]) v1) (lS []))]
noncomputable def Np:cC:=⟨[],[("text_tokens",cH),("section_tokens",eK),("roots_tokens",iA)],[("extend",(fN fU))]⟩
noncomputable def o5:SM:=
  (aV (cO [1] (bq cX aJ))
  (aV (gv [2] (un (aA 26) (al 0))
  (aV (cO [3] (s7 (fi (bV .In) (al 2) (un (aA 27) (al 0))) (a7 (.str [83,68,32])) (a7 (.str [70,68,32]))))
  (aV (kX (cF (fN fU) (al 1) (aw (bi (bU .Add) (bq cH (aw (bi (bU .Add) (bi (bU .Add) (al 3) (al 2)) (a7 (.str [46]))) (aw (a7 (.bool true)) aJ))) (bq iA (aw (bi fP (un (aA 26) (al 0)) (al 2)) aJ))) aJ)))
  bk)))
  (aV (r5 (fi (bV .NotEq) (al 1) (bq cX aJ))
  (aV (cO [1] (bi (bU .Add) (bq cH (aw (a7 (.str [70,73,76,69,32,83,69,67,84,73,79,78,46])) (aw (a7 (.bool true)) aJ))) (al 1)))
  bk)
  bk)
  (aV (cO [1] (bi (bU .Add) (bi (bU .Add) (al 1) (bq eK (aw (a7 (.str [87,79,82,75,73,78,71,45,83,84,79,82,65,71,69])) (aw (un (aA 24) (al 0)) aJ)))) (bq eK (aw (a7 (.str [76,73,78,75,65,71,69])) (aw (un (aA 25) (al 0)) aJ)))))
  (aV (eD (s7 (fi (bV .NotEq) (al 1) (bq cX aJ)) (bi (bU .Add) (bq cH (aw (a7 (.str [68,65,84,65,32,68,73,86,73,83,73,79,78,46])) (aw (a7 (.bool true)) aJ))) (al 1)) (bq cX aJ)))
  bk)))))
noncomputable def rB:aW:=FK 12 (bg 1 [] o5)
noncomputable def ia:aW:=ZM 14 (vJ nU rB)
noncomputable def Lc:TS:=sL [.asg 1 (kA 7 [v0]),.asg 2 (kA 6 [v1]),.ifs (.or (.cmp .NotEq (mE 0 (kA 5 [v2]) []) (mE 0 v0 [])) (.not (mE 1 v2 []))) (sL [.bad]) .nil,.asg 3 (.bin .Add (.bin .Add (.comp2 15 (.atr 26 v0) 16 (.idx (.atr 26 v0) v15) v16) (.atr 24 v0)) (.atr 25 v0)),.frz 3,.ifs (.cmp .Eq v3 (lS [])) (sL [.ret (.cmp .Eq v1 (lS []))]) .nil,.asg 4 (.bin .Add (.bin .Add (.bin .Add (lS [cS [68,65,84,65]]) (.ife (.cmp .NotEq (.atr 26 v0) .dic) (lS [cS [70,73,76,69]]) (lS []))) (.ife (.cmp .NotEq (.atr 24 v0) (lS [])) (lS [cS [87,79,82,75,73,78,71,45,83,84,79,82,65,71,69]]) (lS []))) (.ife (.cmp .NotEq (.atr 25 v0) (lS [])) (lS [cS [76,73,78,75,65,71,69]]) (lS []))),.asg 5 (.comp [14] v1 (.atr 28 v14) (.atr 1 v14)),.ifs (.cmp .NotEq (kA 4 [v5]) (kA 4 [.bin .Add (.bin .Add v4 (.comp [12] (.atr 26 v0) .nop (.ife (.cmp .In v12 (.atr 27 v0)) (cS [83,68]) (cS [70,68])))) (.comp [13] v3 .nop (.idx (.dicI 1 77 [48,49] [55,55]) (.atr 20 v13)))])) (sL [.bad]) .nil,.asg 6 (.comp [11] (kA 2 [kA 3 [v1]]) (.or (.cmp .Eq v11 (cI 0)) (.cmp .Eq (mE 0 (.idx v1 (.bin .Sub v11 (cI 1))) []) (tU [cS [115,105,103,110],cS [46]]))) (.idx v1 v11)),.asg 7 (.comp [10] v6 (.cmp .Eq (.atr 2 v10) (cS [110,117,109,98,101,114])) (kA 1 [.atr 1 v10])),.ret (.cmp .Eq v7 (.comp2 8 v3 9 (kA 0 [v8]) v9))]
noncomputable def JM(lab:List AV->List AV):cC:=⟨[],[("_law_walked",(bv 6)),("int",tO),("range",lB),("len",eO),("sorted",p9),("read_data",(mc lab)),("Reader",xh),("data_tokens",ia)],[("told",qy),("is_done",qa)]⟩
noncomputable def gn(lab:List AV->List AV):SM:=
  (aV (cO [1] (bq ia (aw (al 0) aJ)))
  (aV (cO [2] (bq xh (aw (al 1) aJ)))
  (aV (r5 (RC (fi (bV .NotEq) (cF qy (bq (mc lab) (aw (al 2) aJ)) aJ) (cF qy (al 0) aJ)) (o8 (jd (cF qa (al 2) aJ))))
  (aV (fun _ _=>none)
  bk)
  bk)
  (aV (cO [3] (bi (bU .Add) (bi (bU .Add) (qG 15 (un (aA 26) (al 0)) 16 (bi fP (un (aA 26) (al 0)) (al 15)) (al 16)) (un (aA 24) (al 0))) (un (aA 25) (al 0))))
  (aV (Qr 3)
  (aV (r5 (fi (bV .Eq) (al 3) (bq cX aJ))
  (aV (eD (rO (fi (bV .Eq) (al 1) (bq cX aJ))))
  bk)
  bk)
  (aV (cO [4] (bi (bU .Add) (bi (bU .Add) (bi (bU .Add) (bq cX (aw (a7 (.str [68,65,84,65])) aJ)) (s7 (fi (bV .NotEq) (un (aA 26) (al 0)) FH) (bq cX (aw (a7 (.str [70,73,76,69])) aJ)) (bq cX aJ))) (s7 (fi (bV .NotEq) (un (aA 24) (al 0)) (bq cX aJ)) (bq cX (aw (a7 (.str [87,79,82,75,73,78,71,45,83,84,79,82,65,71,69])) aJ)) (bq cX aJ))) (s7 (fi (bV .NotEq) (un (aA 25) (al 0)) (bq cX aJ)) (bq cX (aw (a7 (.str [76,73,78,75,65,71,69])) aJ)) (bq cX aJ))))
  (aV (cO [5] (eJ [14] (al 1) (jd (un (aA 28) (al 14))) (un (aA 1) (al 14))))
  (aV (r5 (fi (bV .NotEq) (bq p9 (aw (al 5) aJ)) (bq p9 (aw (bi (bU .Add) (bi (bU .Add) (al 4) (eJ [12] (un (aA 26) (al 0)) (fun _ σ=>some (true,σ)) (s7 (fi (bV .In) (al 12) (un (aA 27) (al 0))) (a7 (.str [83,68])) (a7 (.str [70,68]))))) (eJ [13] (al 3) (fun _ σ=>some (true,σ)) (bi fP (bq (Hl [1,77]) (aw (a7 (.str [48,49])) (aw (a7 (.str [55,55])) aJ))) (un (aA 20) (al 13))))) aJ)))
  (aV (fun _ _=>none)
  bk)
  bk)
  (aV (cO [6] (eJ [11] (bq lB (aw (bq eO (aw (al 1) aJ)) aJ)) (RC (fi (bV .Eq) (al 11) (a7 (.int (0)))) (fi (bV .Eq) (cF qy (bi fP (al 1) (bi (bU .Sub) (al 11) (a7 (.int (1))))) aJ) (bq fX (aw (a7 (.str [115,105,103,110])) (aw (a7 (.str [46])) aJ))))) (bi fP (al 1) (al 11))))
  (aV (cO [7] (eJ [10] (al 6) (fi (bV .Eq) (un (aA 2) (al 10)) (a7 (.str [110,117,109,98,101,114]))) (bq tO (aw (un (aA 1) (al 10)) aJ))))
  (aV (eD (rO (fi (bV .Eq) (al 7) (qG 8 (al 3) 9 (bq (bv 6) (aw (al 8) aJ)) (al 9)))))
  bk))))))))))))
noncomputable def eE(lab:List AV->List AV):aW:=ZM 14 (bg 1 [] (gn lab))
noncomputable def VM:TS:=sL [.asg 2 (.bin .Mod (.idx v0 (cI 0)) v1),.asgI v0 (cI 0) (.bin .FloorDiv (.idx v0 (cI 0)) v1),.ret v2]
noncomputable def R4:cC:=⟨[],[],[]⟩
noncomputable def yU:SM:=
  (aV (cO [2] (bi (bU .Mod) (bi fP (al 0) (a7 (.int (0)))) (al 1)))
  (aV (Qq (al 0) (a7 (.int (0))) (bi (bU .FloorDiv) (bi fP (al 0) (a7 (.int (0)))) (al 1)))
  (aV (eD (al 2))
  bk)))
noncomputable def yR:aW:=bg 2 [] yU
noncomputable def Jw:TS:=sL [.asg 3 (kA 3 [v1,v2]),.asg 4 (kA 0 [v0,cI 5]),.ifs (.cmp .Eq v4 (cI 1)) (sL [.asgA 15 v3 (cS [112,97,99,107,101,100])]) (sL [.ifs (.cmp .Eq v4 (cI 2)) (sL [.asgA 14 v3 (kA 2 [cI 3,cI 3,.cst (.none),lS [tU [.cst (.bool false),cS [75]]],lS [cS [73,88]]])]) (sL [.ifs (.cmp .Eq v4 (cI 3)) (sL [.asgA 14 v3 (kA 2 [cI 0,cI 4,tU [cS [114,101,102],cS [78],tU [cS [71]],tU [],.cst (.none)]])]) .nil])]),.ifs (.cmp .Eq (kA 0 [v0,cI 4]) (cI 0)) (sL [.expr (mE 0 (.atr 23 v3) [kA 1 [.bin .Add (cS [73,83,45]) v2,lS [tU [tU [cS [110,117,109,98,101,114],tU [.neg (cI 5),cI 0]],tU [cS [110,117,109,98,101,114],tU [cI 125,cI 2]]],tU [tU [cS [116,101,120,116],.cst (.bytes [113])],.cst (.none)]]]])]) .nil,.ret v3]
noncomputable def Ga:cC:=⟨[],[("_law_take",Bo),("Named",xg),("Occurs",Kf),("Item",oU)],[("append",(fN gk))]⟩
noncomputable def Ui:SM:=
  b5 Ga Jw
noncomputable def qA:aW:=I9 (Py anf 12) (bg 3 [] Ui)
noncomputable def yP:aW:=ue wB qA
noncomputable def Jx:TS:=sL [.asg 3 (kA 1 [v0,v1,v2]),.asgA 16 v3 (.idx (lS [cS [88,40,52,41],cS [83,57,40,51,41,86,57,57],cS [90,90,57,46,57,57]]) (kA 0 [v0,cI 3])),.ret v3]
noncomputable def Gb:cC:=⟨[],[("_law_take",Bo),("_law_item",qA)],[]⟩
noncomputable def Uj:SM:=
  b5 Gb Jx
noncomputable def wt:aW:=I9 (Py anf 12) (bg 3 [] Uj)
noncomputable def yQ:aW:=ue wB wt
noncomputable def Jy:TS:=sL [.ifs (.cmp .Eq (kA 0 [v0,cI 4]) (cI 0)) (sL [.ret (kA 3 [v0,cI 77,v1])]) .nil,.asg 2 (kA 4 [v0,cI 1,v1]),.for_ [3] (kA 2 [kA 0 [v0,cI 3]]) (sL [.ifs (.cmp .Gt (kA 0 [v0,cI 3]) (cI 0)) (sL [.expr (mE 0 v2 [kA 3 [v0,cI 5,.idx (lS [cS [70,73,76,76,69,82],.bin .Add v1 (cS [45,66])]) (kA 0 [v0,cI 2])]]),.cont]) .nil,.asg 4 (kA 4 [v0,cI 5,.bin .Add v1 (cS [45,71])]),.for_ [5] (kA 2 [.bin .Add (cI 1) (kA 0 [v0,cI 2])]) (sL [.expr (mE 0 v4 [kA 3 [v0,cI 10,cS [76,79,87]]])]),.expr (mE 0 v2 [v4])]),.ifs (.cmp .Eq (kA 0 [v0,cI 4]) (cI 0)) (sL [.asg 6 (kA 1 [cI 66,.bin .Add v1 (cS [45,82])]),.asgA 21 v6 (tU [cS [76,79,87],.idx (lS [.cst (.none),cS [72,73,71,72,45,79,78,69]]) (kA 0 [v0,cI 2])]),.expr (mE 0 v2 [v6])]) .nil,.ret v2]
noncomputable def Gc:cC:=⟨[],[("_law_take",Bo),("Item",oU),("range",lB),("_law_leaf",Bq),("_law_item",Bp)],[("add",yK)]⟩
noncomputable def Uk:SM:=
  b5 Gc Jy
noncomputable def Fq:aW:=I9 (Py ajl 12) (bg 2 [] Uk)
noncomputable def sU:aW:=ue wB Fq
noncomputable def Jv:TS:=sL [.asg 1 (kA 2 []),.for_ [2] (.idx (lS [lS [cS [70,49]],lS [],lS [cS [79,76,68]]]) (kA 1 [v0,cI 3])) (sL [.asgI (.atr 26 v1) v2 (lS [kA 0 [v0,.bin .Add v2 (cS [45,82,69,67])]]),.asgA 20 (.idx (.idx (.atr 26 v1) v2) (cI 0)) (cI 1),.ifs (.cmp .Eq (kA 1 [v0,cI 2]) (cI 0)) (sL [.expr (mE 0 (.atr 27 v1) [v2])]) .nil]),.asgA 24 v1 (.comp [3] (.idx (lS [lS [cS [87]],lS [cS [86,45,49]],lS []]) (kA 1 [v0,cI 3])) .nop (kA 0 [v0,v3])),.asgA 25 v1 (.slc (lS [kA 0 [v0,cS [65,82,71]]]) .nop (kA 1 [v0,cI 2])),.ret v1]
noncomputable def F9:cC:=⟨[],[("_law_root",Br),("_law_take",Bo),("Data",vp)],[("append",(fN gk))]⟩
noncomputable def Uh:SM:=
  b5 F9 Jv
noncomputable def qz:aW:=I9 (ub ang 12) (bg 1 [] Uh)
noncomputable def mh:aW:=afx zk (ue nU qz)
noncomputable def YA:TS:=sL [.asg 1 (cI 23),.for_ [2] (.slc v0 .nop (cI 30)) (sL [.asg 1 (.bin .Add (.bin .Mult v1 (cI 1000003)) (.bin .Mod v2 (.bin .Pow (cI 10) (cI 80))))]),.ret (lS [.ife (.cmp .Gt v1 (.bin .Pow (cI 10) (cI 60))) v1 (.bin .Add (.bin .Pow v1 (cI 6)) (.bin .FloorDiv (.bin .Pow (cI 10) (cI 68)) (cI 13)))])]
noncomputable def VV:cC:=⟨[],[],[]⟩
noncomputable def BS:SM:=
  (aV (cO [1] (a7 (.int (23))))
  (aV (gv [2] (SH (al 0) (a7 .none) (a7 (.int (30))))
  (aV (cO [1] (bi (bU .Add) (bi (bU .Mult) (al 1) (a7 (.int (1000003)))) (bi (bU .Mod) (al 2) (bi (bU .Pow) (a7 (.int (10))) (a7 (.int (80)))))))
  bk))
  (aV (eD (bq cX (aw (s7 (fi (bV .Gt) (al 1) (bi (bU .Pow) (a7 (.int (10))) (a7 (.int (60))))) (al 1) (bi (bU .Add) (bi (bU .Pow) (al 1) (a7 (.int (6)))) (bi (bU .FloorDiv) (bi (bU .Pow) (a7 (.int (10))) (a7 (.int (68)))) (a7 (.int (13)))))) aJ)))
  bk)))
noncomputable def qY:aW:=bg 1 [] BS
noncomputable def apc:TS:=sL [.asgT [1,2,3] (tU [kA 3 [],kA 5 [cI 5,cS [71]],kA 5 [cI 10,cS [76]]]),.asgA 16 v3 (cS [88]),.expr (mE 2 (.atr 23 v2) [kA 6 [cS [79,78],lS [tU [tU [cS [116,101,120,116],.cst (.bytes [121])],.cst (.none)]]]]),.expr (mE 1 v2 [v3]),.asg 4 (kA 5 [cI 1,cS [82]]),.expr (mE 1 v4 [v2]),.asgA 24 v1 (lS [v4]),.asg 5 (.comp [6] (kA 4 [v1]) .nop (.atr 1 v6)),.ifs (.or (.cmp .NotEq v5 (mE 0 (cS [68,65,84,65,32,68,73,86,73,83,73,79,78,32,46,32,87,79,82,75,73,78,71,45,83,84,79,82,65,71,69,32,83,69,67,84,73,79,78,32,46,32,48,49,32,82,32,46,32,48,53,32,71,32,46,32,56,56,32,79,78,32,86,65,76,85,69,32,121,32,46,32,49,48,32,76,32,80,73,67,32,88,32,46]) [cS [32]])) (.not (kA 0 [kA 3 []]))) (sL [.bad]) .nil,.ret (kA 0 [kA 1 [kA 2 [v0]]])]
noncomputable def amK(lab:List AV->List AV):cC:=⟨[],[("_law_is_right",(eE lab)),("_law_data",mh),("_law_bag",qY),("Data",vp),("data_tokens",ia),("Item",oU),("Named",xg)],[("split",(ii kC)),("add",yK),("append",(fN gk))]⟩
noncomputable def Um(lab:List AV->List AV):SM:=
  (aV (cO [1,2,3] (bq fX (aw (bq vp aJ) (aw (bq oU (aw (a7 (.int (5))) (aw (a7 (.str [71])) aJ))) (aw (bq oU (aw (a7 (.int (10))) (aw (a7 (.str [76])) aJ))) aJ)))))
  (aV (lR 16 (al 3) (a7 (.str [88])))
  (aV (kX (cF (fN gk) (un (aA 23) (al 2)) (aw (bq xg (aw (a7 (.str [79,78])) (aw (bq cX (aw (bq fX (aw (bq fX (aw (a7 (.str [116,101,120,116])) (aw (a7 (.bytes [121])) aJ))) (aw (a7 (.none)) aJ))) aJ)) aJ))) aJ)))
  (aV (kX (cF yK (al 2) (aw (al 3) aJ)))
  (aV (cO [4] (bq oU (aw (a7 (.int (1))) (aw (a7 (.str [82])) aJ))))
  (aV (kX (cF yK (al 4) (aw (al 2) aJ)))
  (aV (lR 24 (al 1) (bq cX (aw (al 4) aJ)))
  (aV (cO [5] (eJ [6] (bq ia (aw (al 1) aJ)) (fun _ σ=>some (true,σ)) (un (aA 1) (al 6))))
  (aV (r5 (RC (fi (bV .NotEq) (al 5) (cF (ii kC) (a7 (.str [68,65,84,65,32,68,73,86,73,83,73,79,78,32,46,32,87,79,82,75,73,78,71,45,83,84,79,82,65,71,69,32,83,69,67,84,73,79,78,32,46,32,48,49,32,82,32,46,32,48,53,32,71,32,46,32,56,56,32,79,78,32,86,65,76,85,69,32,121,32,46,32,49,48,32,76,32,80,73,67,32,88,32,46])) (aw (a7 (.str [32])) aJ))) (o8 (jd (bq (eE lab) (aw (bq vp aJ) aJ)))))
  (aV (fun _ _=>none)
  bk)
  bk)
  (aV (eD (bq (eE lab) (aw (bq mh (aw (bq qY (aw (al 0) aJ)) aJ)) aJ)))
  bk))))))))))
noncomputable def Y1(lab:List AV->List AV):aW:=bg 1 [] (Um lab)
noncomputable def FN:List Str:=[("text":Str),("worth":Str),("kind":Str),("places":Str),("at":Str),("indexes":Str),("keys":Str),("depending":Str),("low":Str),("high":Str),("sign":Str),("value":Str),("is_blank_zero":Str),("is_justified":Str),("occurs":Str),("usage":Str),("picture_text":Str),("redefines":Str),("name":Str),("rows":Str),("level":Str),("renames":Str),("kids":Str),("conditions":Str),("working":Str),("linkage":Str),("files":Str),("sorts":Str),("is_in_a":Str),("what":Str),("shape":Str),("size":Str),("offset":Str),("base":Str),("parent":Str),("is_separate":Str),("shared":Str),("named":Str),("tokens":Str)]
structure FR where
 x:Option Str
 f:aC
 n:Nat
 dfl:List AV
 nm:List (Nat×Str)
 N:Wj
 t:TS
noncomputable def cY(i:Nat)(l:List Str):List (Nat×Str):=bo (motive:=fun _=>Nat->List (Nat×Str)) (fun _=>[]) (fun x _ ih i=>(i,x)::ih (i+1)) l i
noncomputable def pq:FR:=⟨some "_law_walked",1072,1,[],cY 0 ["item","found","kid"],⟨[],["_law_walked","len"],[]⟩,QI⟩
noncomputable def FW:FR:=⟨none,201,1,[],cY 0 ["self"],⟨[],[],[]⟩,RT⟩
noncomputable def CT:FR:=⟨none,602,1,[],cY 0 ["self"],⟨[],[],[]⟩,QE⟩
noncomputable def FV:FR:=⟨none,630,1,[],cY 0 ["self"],⟨[],[],[]⟩,RS⟩
noncomputable def Aj:FR:=⟨none,672,1,[],cY 0 ["self","often","first"],⟨[],[],["told"]⟩,Nd⟩
noncomputable def Je:FR:=⟨none,677,1,[],cY 0 ["self","named"],⟨[],["tuple"],["told","clauses"]⟩,VK⟩
noncomputable def Jd:FR:=⟨none,703,1,[],cY 0 ["self","files"],⟨[],["tuple"],["told"]⟩,VJ⟩
noncomputable def vO:FR:=⟨none,882,1,[],cY 0 ["self"],⟨[],["len"],[]⟩,Js⟩
noncomputable def CW:FR:=⟨none,875,2,[.int (0)],cY 0 ["self","ahead"],⟨[],["len"],[]⟩,QF⟩
noncomputable def vP:FR:=⟨none,904,3,[.int (0)],cY 0 ["self","kind","ahead","token"],⟨[],[],["peek"]⟩,Jt⟩
noncomputable def vS:FR:=⟨none,911,2,[],cY 0 ["self","words","ahead","word"],⟨[],[],["split","peek","is_kind"]⟩,vX⟩
noncomputable def vR:FR:=⟨none,969,3,[.int (0)],cY 0 ["self","sign","ahead"],⟨[],[],["peek","is_kind"]⟩,Ju⟩
noncomputable def sy:FR:=⟨none,976,2,[],cY 0 ["self","sign"],⟨[],[],["is_sign"]⟩,Fe⟩
noncomputable def sx:FR:=⟨none,983,2,[],cY 0 ["self","sign"],⟨[],[],["skip_sign"]⟩,sB⟩
noncomputable def CX:FR:=⟨none,918,2,[],cY 0 ["self","words"],⟨[],["len"],["split","is_word"]⟩,QG⟩
noncomputable def r0:FR:=⟨some "skip_heading",833,2,[],cY 0 ["reader","words"],⟨[],[],["need_sign","skip"]⟩,AI⟩
noncomputable def Ma:FR:=⟨none,658,2,[],cY 0 ["self","kid"],⟨[],[],["append"]⟩,Mh⟩
noncomputable def uv:FR:=⟨some "put_beneath",800,2,[],cY 0 ["open_items","item","above"],⟨["MOST_NESTED","ALONE"],["len"],["append","add","pop"]⟩,Dr⟩
noncomputable def KU:FR:=⟨some "nested",807,1,[],cY 0 ["entries","roots","open_items","last","renaming","item","index"],⟨["RENAMING","ALONE","NAMING"],["len","put_beneath"],["add","append"]⟩,TF⟩
noncomputable def qp:FR:=⟨some "is_level_here",793,1,[],cY 0 ["reader","token"],⟨[],[],["peek"]⟩,Ld⟩
noncomputable def lq:FR:=⟨none,623,3,[],cY 0 ["self","name","rows"],⟨[],["tuple"],[]⟩,vV⟩
noncomputable def xU:FR:=⟨none,932,2,[],cY 0 ["self","words","word"],⟨[],[],["split","skip"]⟩,x8⟩
noncomputable def pz:FR:=⟨some "octets_of_text",852,1,[],cY 0 ["text","numbers"],⟨["MOST_OCTET"],["bytes","ord"],[]⟩,wa⟩
noncomputable def xT:FR:=⟨none,1018,1,[],cY 0 ["self","found"],⟨[],["octets_of_text"],["peek","is_kind"]⟩,Lb⟩
noncomputable def sw:FR:=⟨none,990,1,[],cY 0 ["self"],⟨[],[],["is_kind","is_sign"]⟩,sA⟩
noncomputable def Hu:FR:=⟨some "negated",136,1,[],cY 0 ["a"],⟨[],[],[]⟩,QM⟩
noncomputable def Hs:FR:=⟨some "decimal",129,2,[.int (0)],cY 0 ["units","scale"],⟨[],[],[]⟩,QK⟩
noncomputable def Db:FR:=⟨some "worth_of",164,1,[],cY 0 ["figures","number","figure"],⟨["FIGURES_decimals"],[],["index"]⟩,Mq⟩
noncomputable def nF:FR:=⟨some "read_decimal",171,1,[],cY 0 ["text","begin","ahead","behind","point","at","units"],⟨["FIGURES_decimals"],["decimal","len","worth_of","range"],["index"]⟩,AA⟩
noncomputable def CY:FR:=⟨none,896,1,[],cY 0 ["self","token"],⟨[],[],["peek"]⟩,QH⟩
noncomputable def xV:FR:=⟨none,997,1,[],cY 0 ["self","is_below","found"],⟨[],["negated","read_decimal"],["take","skip_sign","is_number"]⟩,x9⟩
noncomputable def rV:FR:=⟨some "read_operand",409,2,[],cY 0 ["reader","read_expr","figure"],⟨[],[],["is_kind","octets","is_number","signed"]⟩,AD⟩
noncomputable def uq:FR:=⟨some "is_reserved",847,1,[],cY 0 ["word"],⟨["RESERVED"],[],[]⟩,Dn⟩
noncomputable def vQ:FR:=⟨none,947,2,[.int (0)],cY 0 ["self","ahead"],⟨[],["is_reserved"],["peek","is_kind"]⟩,vW⟩
noncomputable def rU:FR:=⟨some "read_literal",725,1,[],cY 0 ["reader"],⟨["no_expression"],["read_operand"],["is_name"]⟩,AC⟩
noncomputable def uy:FR:=⟨some "read_worths",772,1,[],cY 0 ["reader","rows","first","last"],⟨[],["read_literal"],["is_sign","append","one_of"]⟩,Dt⟩
noncomputable def CU:FR:=⟨none,954,1,[],cY 0 ["self"],⟨[],[],["take","is_name"]⟩,Dj⟩
noncomputable def CV:FR:=⟨none,925,2,[],cY 0 ["self","words"],⟨[],[],["skip"]⟩,Dk⟩
noncomputable def rW:FR:=⟨some "read_renames",779,1,[],cY 0 ["reader","first","last"],⟨[],[],["one_of","name","need"]⟩,AE⟩
noncomputable def kq:FR:=⟨none,595,6,[.none,.tup [],.tup []],cY 0 ["self","low","high","depending","keys","indexes"],⟨[],["tuple"],[]⟩,uJ⟩
noncomputable def Al:FR:=⟨none,961,1,[],cY 0 ["self","found"],⟨[],[],["is_name","name"]⟩,As⟩
noncomputable def rR:FR:=⟨some "is_part_next",367,1,[],cY 0 ["reader","depth","ahead"],⟨[],[],["is_sign"]⟩,Aw⟩
noncomputable def C5:FR:=⟨some "read_ref",388,2,[],cY 0 ["reader","read_expr","name","qualifiers","subscripts","part"],⟨[],["tuple","is_part_next"],["is_sign","one_of","append","name"]⟩,Mk⟩
noncomputable def C8:FR:=⟨some "units_at",143,3,[],cY 0 ["a","scale","is_rounded","size","half"],⟨[],[],[]⟩,Mn⟩
noncomputable def C9:FR:=⟨some "whole_of",157,1,[],cY 0 ["a"],⟨[],["units_at"],[]⟩,Mo⟩
noncomputable def C0:FR:=⟨some "is_whole",150,1,[],cY 0 ["a"],⟨[],[],[]⟩,Mj⟩
noncomputable def Am:FR:=⟨none,1004,1,[],cY 0 ["self","found"],⟨[],["whole_of","is_whole","read_decimal"],["peek","is_kind"]⟩,Ng⟩
noncomputable def ux:FR:=⟨some "read_occurs",730,1,[],cY 0 ["reader","low","high","depending","keys","indexes","is_ascending"],⟨["no_expression"],["Occurs","tuple","read_ref"],["skip","names","is_word","extend","take","whole"]⟩,Ds⟩
noncomputable def lP:FR:=⟨some "read_named_clause",744,3,[],cY 0 ["reader","item","word","told_usage","place"],⟨["USAGE_WORDS"],["read_occurs"],["one_of","join","skip"]⟩,rn⟩
noncomputable def um:FR:=⟨some "clause_word",751,1,[],cY 0 ["reader","word"],⟨[],[],["skip"]⟩,Dl⟩
noncomputable def mT:FR:=⟨some "read_bare_clause",758,2,[],cY 0 ["reader","item","usage","place"],⟨["USAGE_WORDS"],[],["one_of","join","take","is_kind"]⟩,sC⟩
noncomputable def rT:FR:=⟨some "read_clauses",765,2,[],cY 0 ["reader","item","met","ahead","word"],⟨[],["read_named_clause","clause_word","read_bare_clause"],["is_sign","append","peek"]⟩,Az⟩
noncomputable def mu:FR:=⟨none,651,3,[],cY 0 ["self","level","name"],⟨[],[],[]⟩,x6⟩
noncomputable def Ak:FR:=⟨none,889,2,[],cY 0 ["self","what"],⟨[],["GrammarFault","min","len"],[]⟩,Nf⟩
noncomputable def wI:FR:=⟨some "read_entry",786,1,[],cY 0 ["reader","place","level","item"],⟨["NAMING","RENAMING","ALONE","FILLER","MOST_LEVEL"],["Named","read_worths","read_renames","read_clauses","Item"],["need_sign","is_name","name","skip","whole","fault"]⟩,F6⟩
noncomputable def nG:FR:=⟨some "read_entries",814,1,[],cY 0 ["reader","entries"],⟨[],["nested","is_level_here","read_entry"],["append"]⟩,AB⟩
noncomputable def nY:FR:=⟨some "read_file_entry",826,3,[],cY 0 ["reader","data","is_sort","place","name","roots"],⟨["ALONE"],["read_entries"],["append","skip_sign","name","fault"]⟩,uN⟩
noncomputable def ms:FR:=⟨none,698,1,[],cY 0 ["self"],⟨[],[],[]⟩,x5⟩
noncomputable def zp:FR:=⟨some "read_data",840,1,[],cY 0 ["reader","data"],⟨[],["skip_heading","read_entries","read_file_entry","Data"],["is_word","is_done","take"]⟩,JA⟩
noncomputable def ku:FR:=⟨none,867,3,[.int (0)],cY 0 ["self","tokens","at"],⟨[],[],[]⟩,HD⟩
noncomputable def lr:FR:=⟨none,194,5,[.tup [.int (0),.int (0)],.bool false],cY 0 ["self","kind","worth","at","is_in_a"],⟨[],[],[]⟩,vY⟩
noncomputable def nX:FR:=⟨some "is_picture_next",330,1,[],cY 0 ["tokens"],⟨[],["len"],[]⟩,uM⟩
noncomputable def kL:FR:=⟨some "capital_of",215,1,[],cY 0 ["sign"],⟨[],["chr","ord"],[]⟩,F1⟩
noncomputable def rj:FR:=⟨some "capitals",220,1,[],cY 0 ["text"],⟨[],["capital_of"],["join"]⟩,Mi⟩
noncomputable def uu:FR:=⟨some "picture_end",269,2,[],cY 0 ["text","at","end"],⟨["ENDS"],["len"],[]⟩,Dq⟩
noncomputable def nW:FR:=⟨some "checked_picture",295,2,[],cY 0 ["line","at","end"],⟨[],["capitals","picture_end"],[]⟩,uL⟩
noncomputable def pw:FR:=⟨some "is_parted",234,2,[],cY 0 ["text","at"],⟨[],["len"],[]⟩,Jz⟩
noncomputable def Ht:FR:=⟨some "mark_at",309,2,[],cY 0 ["line","at","pair","sign"],⟨["SINGLE_SIGNS","DOUBLE_SIGNS"],["is_parted"],["split"]⟩,QL⟩
noncomputable def nV:FR:=⟨some "checked_literal",288,3,[],cY 0 ["line","at","end","quote","worth"],⟨["MOST_LITERAL"],["len"],["replace"]⟩,uK⟩
noncomputable def rS:FR:=⟨some "is_word_sign",227,1,[],cY 0 ["sign"],⟨["WORD_SIGNS"],["capital_of"],[]⟩,Ax⟩
noncomputable def wG:FR:=⟨some "need_apart",302,2,[],cY 0 ["line","end","behind"],⟨["FIGURES_tokens","QUOTES"],["is_word_sign"],[]⟩,F4⟩
noncomputable def ur:FR:=⟨some "literal_end",262,2,[],cY 0 ["line","at","quote","end"],⟨[],["len"],[]⟩,Dp⟩
noncomputable def rP:FR:=⟨some "checked_word",274,3,[],cY 0 ["line","at","end","worth"],⟨["MOST_WORD","LETTERS"],["len","capitals"],[]⟩,Au⟩
noncomputable def pu:FR:=⟨some "checked_number",281,3,[],cY 0 ["line","at","end","worth"],⟨["MOST_FIGURES"],["len"],[]⟩,vZ⟩
noncomputable def zq:FR:=⟨some "run_end",248,3,[],cY 0 ["text","at","signs"],⟨[],["capital_of","len"],[]⟩,QN⟩
noncomputable def wH:FR:=⟨some "number_end",255,2,[],cY 0 ["text","at","end"],⟨["FIGURES_tokens"],["run_end"],[]⟩,F5⟩
noncomputable def Da:FR:=⟨some "worth_at",316,2,[],cY 0 ["line","at","sign","end","behind","kind","worth"],⟨["QUOTES","FIGURES_tokens","LETTERS","WORD_SIGNS"],["len","mark_at","checked_literal","need_apart","literal_end","checked_word","checked_number","number_end","run_end","capital_of"],[]⟩,Mp⟩
noncomputable def wE:FR:=⟨some "is_word_is",344,2,[],cY 0 ["text","at"],⟨[],["is_parted","capitals"],[]⟩,F2⟩
noncomputable def uo:FR:=⟨some "is_blank_at",323,2,[],cY 0 ["text","at"],⟨[],["is_parted"],[]⟩,Dm⟩
noncomputable def wD:FR:=⟨some "add_tokens",337,2,[],cY 0 ["tokens","line","at","was_is","place","kind","worth","end"],⟨[],["len","Token","is_picture_next","checked_picture","worth_at","is_word_is","is_blank_at"],["append"]⟩,F0⟩
noncomputable def zu:FR:=⟨some "tokens_of",351,1,[],cY 0 ["lines","tokens","line"],⟨[],["add_tokens"],[]⟩,JD⟩
noncomputable def mv:FR:=⟨none,35,3,[],cY 0 ["self","text","spots"],⟨[],[],[]⟩,x7⟩
noncomputable def lQ:FR:=⟨some "text_tokens",510,2,[.bool false],cY 0 ["text","is_in_a","begin","found"],⟨["AREA_A","AREA_B"],["range","len","Token","tokens_of","Line"],[]⟩,Dw⟩
noncomputable def xW:FR:=⟨some "joined",495,1,[],cY 0 ["parts"],⟨[],[],["join"]⟩,TE⟩
noncomputable def KV:FR:=⟨some "quoted",358,1,[],cY 0 ["text"],⟨[],[],["replace"]⟩,TG⟩
noncomputable def rZ:FR:=⟨some "shown_octets",414,1,[],cY 0 ["octets"],⟨[],["quoted","chr"],["join"]⟩,AH⟩
noncomputable def qq:FR:=⟨some "write_decimal",178,1,[],cY 0 ["a","figures"],⟨[],["len","str","abs"],[]⟩,ya⟩
noncomputable def rY:FR:=⟨some "shown_number",421,1,[],cY 0 ["worth","text"],⟨["MOST_FIGURES"],["abs","write_decimal"],["replace"]⟩,AG⟩
noncomputable def rX:FR:=⟨some "show_operand",440,2,[],cY 0 ["operand","show_expr"],⟨[],["shown_octets","shown_number"],[]⟩,AF⟩
noncomputable def nE:FR:=⟨some "operand_text",483,1,[],cY 0 ["operand"],⟨["show_expression"],["show_operand"],[]⟩,Ay⟩
noncomputable def uA:FR:=⟨some "show_worths",543,1,[],cY 0 ["named","rows","first","last"],⟨[],["joined","operand_text"],["append"]⟩,Dv⟩
noncomputable def Ex:FR:=⟨some "worded",502,2,[],cY 0 ["word","text"],⟨[],[],[]⟩,TH⟩
noncomputable def C7:FR:=⟨some "show_ref",433,2,[],cY 0 ["ref","show_expr","found","length"],⟨[],["list"],["join"]⟩,Mm⟩
noncomputable def C6:FR:=⟨some "ref_text",490,1,[],cY 0 ["ref"],⟨["show_expression"],["show_ref"],[]⟩,Ml⟩
noncomputable def uz:FR:=⟨some "show_occurs",522,1,[],cY 0 ["occurs","head","keys"],⟨[],["joined","worded","str","ref_text"],[]⟩,Du⟩
noncomputable def zr:FR:=⟨some "show_sign",529,1,[],cY 0 ["item"],⟨[],[],[]⟩,JC⟩
noncomputable def rQ:FR:=⟨some "clause_texts",536,1,[],cY 0 ["item"],⟨["USAGE_NAMES"],["operand_text","show_occurs","show_sign","worded"],[]⟩,Av⟩
noncomputable def wF:FR:=⟨some "level_text",517,1,[],cY 0 ["level"],⟨[],["str"],[]⟩,F3⟩
noncomputable def wJ:FR:=⟨some "show_entry",550,1,[],cY 0 ["item","head","first","last"],⟨["RENAMES_LEVEL"],["joined","clause_texts","level_text"],[]⟩,F7⟩
noncomputable def nD:FR:=⟨some "entry_tokens",557,1,[],cY 0 ["item","found","named","kid"],⟨["TOP_LEVELS"],["entry_tokens","text_tokens","show_worths","show_entry"],["extend"]⟩,Nh⟩
noncomputable def nJ:FR:=⟨some "roots_tokens",564,1,[],cY 0 ["roots","found","root"],⟨[],["entry_tokens"],["extend"]⟩,Ni⟩
noncomputable def pA:FR:=⟨some "section_tokens",571,2,[],cY 0 ["heading","roots"],⟨[],["text_tokens","roots_tokens"],[]⟩,JB⟩
noncomputable def pv:FR:=⟨some "data_tokens",578,1,[],cY 0 ["data","found","name","head"],⟨[],["text_tokens","section_tokens","roots_tokens"],["extend"]⟩,QJ⟩
noncomputable def qo:FR:=⟨some "_law_is_right",1077,1,[],cY 0 ["data","tokens","reader","roots","heads","tops","first","levels"],⟨[],["_law_walked","int","range","len","sorted","read_data","Reader","data_tokens"],["told","is_done"]⟩,Lc⟩
noncomputable def mw:FR:=⟨some "_law_take",1032,2,[],cY 0 ["bag","many","worth"],⟨[],[],[]⟩,VM⟩
noncomputable def td:FR:=⟨some "_law_item",1046,3,[],cY 0 ["bag","level","name","item","way"],⟨[],["_law_take","Named","Occurs","Item"],["append"]⟩,Jw⟩
noncomputable def zn:FR:=⟨some "_law_leaf",1053,3,[],cY 0 ["bag","level","name","item"],⟨[],["_law_take","_law_item"],[]⟩,Jx⟩
noncomputable def zo:FR:=⟨some "_law_root",1060,2,[],cY 0 ["bag","name","root","turn","group","inner","renaming"],⟨[],["_law_take","Item","range","_law_leaf","_law_item"],["add"]⟩,Jy⟩
noncomputable def zm:FR:=⟨some "_law_data",1065,1,[],cY 0 ["bag","data","name"],⟨[],["_law_root","_law_take","Data"],["append"]⟩,Jv⟩
noncomputable def CZ:FR:=⟨some "_law_bag",1039,1,[],cY 0 ["script","number","cell"],⟨[],[],[]⟩,YA⟩
noncomputable def aaC:FR:=⟨some "law",1082,1,[],cY 0 ["script","data","group","leaf","root","words"],⟨[],["_law_is_right","_law_data","_law_bag","Data","data_tokens","Item","Named"],["split","add","append"]⟩,apc⟩
noncomputable def t5:List FR:=[
 pq,
 FW,
 CT,
 FV,
 Aj,
 Je,
 Jd,
 vO,
 CW,
 vP,
 vS,
 vR,
 sy,
 sx,
 CX,
 r0,
 Ma,
 uv,
 KU,
 qp,
 lq,
 xU,
 pz,
 xT,
 sw,
 Hu,
 Hs,
 Db,
 nF,
 CY,
 xV,
 rV,
 uq,
 vQ,
 rU,
 uy,
 CU,
 CV,
 rW,
 kq,
 Al,
 rR,
 C5,
 C8,
 C9,
 C0,
 Am,
 ux,
 lP,
 um,
 mT,
 rT,
 mu,
 Ak,
 wI,
 nG,
 nY,
 ms,
 zp,
 ku,
 lr,
 nX,
 kL,
 rj,
 uu,
 nW,
 pw,
 Ht,
 nV,
 rS,
 wG,
 ur,
 rP,
 pu,
 zq,
 wH,
 Da,
 wE,
 uo,
 wD,
 zu,
 mv,
 lQ,
 xW,
 KV,
 rZ,
 qq,
 rY,
 rX,
 nE,
 uA,
 Ex,
 C7,
 C6,
 uz,
 zr,
 rQ,
 wF,
 wJ,
 nD,
 nJ,
 pA,
 pv,
 qo,
 mw,
 td,
 zn,
 zo,
 zm,
 CZ,
 aaC]
structure GR where
 x:Str
 a:AV
noncomputable def OZ:List GR:=[⟨"FIGURES_decimals",mO⟩,
 ⟨"WORD_SIGNS",wm⟩,
 ⟨"FIGURES_tokens",k9⟩,
 ⟨"ENDS",abh⟩,
 ⟨"MOST_WORD",Ie⟩,
 ⟨"LETTERS",Gw⟩,
 ⟨"MOST_FIGURES",rz⟩,
 ⟨"MOST_LITERAL",zJ⟩,
 ⟨"QUOTES",J9⟩,
 ⟨"SINGLE_SIGNS",zK⟩,
 ⟨"DOUBLE_SIGNS",zI⟩,
 ⟨"AREA_A",Se⟩,
 ⟨"AREA_B",Sf⟩,
 ⟨"RENAMES_LEVEL",w8⟩,
 ⟨"TOP_LEVELS",iR⟩,
 ⟨"NAMING",J8⟩,
 ⟨"RENAMING",Bu⟩,
 ⟨"ALONE",Bs⟩,
 ⟨"FILLER",Sg⟩,
 ⟨"MOST_LEVEL",Fo⟩,
 ⟨"MOST_NESTED",Bt⟩,
 ⟨"MOST_OCTET",Fp⟩]
structure CR where
 x:Str
 c:aC
 i:aC
noncomputable def yY:List CR:=[⟨"Line",45,35⟩,⟨"Token",204,194⟩,⟨"Occurs",605,595⟩,⟨"Named",633,623⟩,⟨"Item",680,651⟩,⟨"Data",706,698⟩,⟨"Reader",1021,867⟩]
structure MR where
 c:aC
 x:Str
 f:aC
noncomputable def Ks:List MR:=[⟨204,"told",201⟩,⟨605,"told",602⟩,⟨633,"told",630⟩,⟨680,"add",658⟩,⟨680,"clauses",672⟩,⟨680,"told",677⟩,⟨706,"told",703⟩,⟨1021,"peek",875⟩,⟨1021,"is_done",882⟩,⟨1021,"fault",889⟩,⟨1021,"take",896⟩,⟨1021,"is_kind",904⟩,⟨1021,"is_word",911⟩,⟨1021,"skip",918⟩,⟨1021,"need",925⟩,⟨1021,"one_of",932⟩,⟨1021,"is_name",947⟩,⟨1021,"name",954⟩,⟨1021,"names",961⟩,⟨1021,"is_sign",969⟩,⟨1021,"skip_sign",976⟩,⟨1021,"need_sign",983⟩,⟨1021,"is_number",990⟩,⟨1021,"signed",997⟩,⟨1021,"whole",1004⟩,⟨1021,"octets",1018⟩]
noncomputable def Uz:List Str:=[("len":Str),("range":Str),("str":Str),("tuple":Str),("list":Str),("abs":Str),("chr":Str),("ord":Str),("sorted":Str),("int":Str),("bytes":Str),("min":Str)]
section simps
variable{fr:Fm}{σ:AS}
@[simp] theorem b4 {α β:Type} (a:α) (f:α->Option β):ob (some a) f=f a:=rfl
@[simp] theorem aX {α γ β:Type} (a:α) (b:γ) (f:α->γ->Option β):bw (some (a,b)) f=f a b:=rfl
@[simp] theorem am8 {α β:Type} (a:α) (f:α->Option β) (g):od (some a) f g=f a:=rfl
@[simp] theorem fY (f m):un f m fr σ=bw (m fr σ) fun a ai=>ob (f a ai) fun b=>some (b,ai):=rfl
@[simp] theorem jD (f m n):bi f m n fr σ=bw (m fr σ) fun a ai=>bw (n fr ai) fun b fR=>f a b fR:=rfl
@[simp] theorem fx (f m n):fi f m n fr σ=bw (m fr σ) fun a ai=>bw (n fr ai) fun b fR=>ob (f a b fR) fun r=>some (r,fR):=rfl
@[simp] theorem lV (m):jd m fr σ=bw (m fr σ) fun a ai=>ob (qM ai a) fun b=>some (b,ai):=rfl
@[simp] theorem wA (m):rO m fr σ=bw (m fr σ) fun b ai=>some (.bool b,ai):=rfl
@[simp] theorem qH (b):o8 b fr σ=bw (b fr σ) fun b ai=>some (!b,ai):=rfl
@[simp] theorem GZ (a b):RC a b fr σ=bw (a fr σ) fun t ai=>bif t then some (true,ai)else b fr ai:=rfl
@[simp] theorem Ei (a b):SE a b fr σ=bw (a fr σ) fun v ai=>ob (qM ai v) fun t=>bif t then b fr ai else some (v,ai):=rfl
@[simp] theorem ww (c a b):s7 c a b fr σ=bw (c fr σ) fun t ai=>bif t then a fr ai else b fr ai:=rfl
theorem be(i):al i fr σ=bif bQ (gt fr i)then none else some (gt fr i,σ):=rfl
@[simp] theorem dW (a):a7 a fr σ=some (a,σ):=rfl
@[simp] theorem ef (f l):bq f l fr σ=bw (l fr σ) fun vs ai=>f vs ai:=rfl
@[simp] theorem ci:aJ fr σ=some ([],σ):=rfl
@[simp] theorem cq (a l):aw a l fr σ=bw (a fr σ) fun v ai=>bw (l fr ai) fun vs aM=>some (v::vs,aM):=rfl
@[simp] theorem eC (D o l):cF D o l fr σ=bw (o fr σ) fun x ai=>ob (D x ai) fun F=>bw (l fr ai) fun vs aM=>F (x::vs) aM:=rfl
@[simp] theorem df (a b):aV a b fr σ=ob (a fr σ) (gP b):=rfl
@[simp] theorem dz (k fr' ai):gP k (.next fr' ai)=k fr' ai:=rfl
@[simp] theorem dB (k a ai):gP k (.ret a ai)=some (.ret a ai):=rfl
@[simp] theorem fE:bk fr σ=some (.next fr σ):=rfl
@[simp] theorem jY (c a b):r5 c a b fr σ=bw (c fr σ) fun t ai=>bif t then a fr ai else b fr ai:=rfl
@[simp] theorem d7 (e):eD e fr σ=bw (e fr σ) fun v ai=>some (.ret v ai):=rfl
@[simp] theorem fD (i e):cO [i] e fr σ=bw (e fr σ) fun v ai=>some (.next (put fr i v) ai):=rfl
@[simp] theorem xY (k o e):lR k o e fr σ=bw (e fr σ) fun v ai=>bw (o fr ai) fun x aM=>ob (oq k v x aM) fun cJ=>some (.next fr cJ):=rfl
@[simp] theorem kE (a:AV) (r):gt (a::r) 0=a:=rfl
@[simp] theorem o9 (a:AV) (r i):gt (a::r) (i+1)=gt r i:=rfl
@[simp] theorem su (a v:AV) (r):put (a::r) 0 v=v::r:=rfl
@[simp] theorem sv (a v:AV) (r i):put (a::r) (i+1) v=a::put r i v:=rfl
@[simp] theorem putN (v:AV):put [] 0 v=[v]:=rfl
@[simp] theorem amd (fr' ai):ik (.next fr' ai)=some (.none,ai):=rfl
@[simp] theorem gu (a ai):ik (.ret a ai)=some (a,ai):=rfl
@[simp] theorem iM (b):qM σ (.bool b)=some b:=rfl
@[simp] theorem OV (a):bU .Add (.int (.ofNat a)) (.int 1) σ=some (.int (.ofNat (a+1)),σ):=rfl
@[simp] theorem Nx (a b):bU .Add (.int (.ofNat a)) (.int (.ofNat b)) σ=some (.int (.ofNat (a+b)),σ):=rfl
@[simp] theorem ahZ (a b):bV .Lt (.int (.ofNat a)) (.int (.ofNat b)) σ=some (bt a b):=rfl
@[simp] theorem an1 (a b):bV .GtE (.int (.ofNat a)) (.int (.ofNat b)) σ=some (!bt a b):=rfl
@[simp] theorem ZH (a b):bV .Eq (.str a) (.str b) σ=some (dg a b):=rfl
@[simp] theorem aom (a b):bV .NotEq (.str a) (.str b) σ=some (!dg a b):=rfl
@[simp] theorem ahH (a):bV .Is a .none σ=lK a:=rfl
@[simp] theorem IU (a):bV .IsNot a .none σ=ob (lK a) fun b=>some (!b):=rfl
@[simp] theorem SS:lK .none=some true:=rfl
@[simp] theorem adM (l):lK (.bytes l)=some false:=rfl
@[simp] theorem fe (a):bQ (.ref a)=false:=rfl
@[simp] theorem lX (a):bQ (.int a)=false:=rfl
@[simp] theorem mU (a):bQ (.str a)=false:=rfl
@[simp] theorem akD:bQ .none=false:=rfl
@[simp] theorem apg (a):bQ (.bytes a)=false:=rfl
@[simp] theorem X1 (F l):ii F (.str l) σ=some F:=rfl
end simps
theorem alZ{α:Type}{l:List α}: ∀(i:Nat),Qd l i=l[i]? :=by
 induction l with
 |nil=>exact fun i=>rfl
 |cons a l ih=>
  intro i
  cases i with
  |zero=>rfl
  |succ i=>exact ih i
theorem fQ{n:Nat}(h:n<=4000000):dv n=true:=f8 h
theorem G2{a b:Nat}(h:a<b):bt a b=true:=c9.mpr h
theorem Zh{a b:Nat}(h:b<=a):bt a b=false:=EG.mpr fun e=>b6.mpr h (c9.mp e)
section
variable{σ:AS}{r m:Nat}{L l:aa}{mac:List Nat->List AV}
theorem ji{α β:Type}{o:Option α}{a:α}{f:α->Option β}(h:o=some a):ob o f=f a:=h▸rfl
theorem o6(hg:σ.get r=some (cR L m)):aA 4 (.ref r) σ=some (.int (.ofNat m)):=ji hg
theorem Iy(hg:σ.get r=some (cR L m)):aA 38 (.ref r) σ=some (.lst L):=ji hg
theorem xM(hL:dv L.length=true):eO [.lst L] σ=some (.int (.ofNat L.length),σ):=by
 rw[<- ig]at hL ⊢
 show(bif dv (eR L)then _ else none)=_
 rw[hL];rfl
theorem rN{F:aW}{G:gM}(hg:σ.get r=some (cR L m)):fc dj F G (.ref r) σ=some F:=ji (show FF (.ref r) σ=some 1021 from ji hg)
theorem Jn(hg:σ.get r=some (cR L m))(k:Nat):oq 4 (.int (.ofNat k)) (.ref r) σ=some (σ.set r (cR L k)):=ji hg
theorem IQ{i:Nat}{a:AV}(h:dv i=true)(e:L[i]? =some a):fP (.lst L) (.int (.ofNat i)) σ=some (a,σ):=by
 have h1:abZ (.lst L) (.int (.ofNat i)) σ=some a:=by
  show(bif dv i then Qd L i else none)=_
  rw[h,alZ];exact e
 exact ji h1
theorem al2(hg:σ.get r=some (cR L m))(hL:dv L.length=true)(k:Nat):hZ [.ref r,.int (.ofNat k)] σ=some ((L[m+k]?).getD .none,σ):=by
 show ob (o0 [.ref r,.int (.ofNat k)] σ) ik=_
 by_cases hk:m+k<L.length
 ·have hx:L[m+k]? =some L[m+k]:=eU hk
  simp only[o0,df,jY,fx,jD,fY,be,kE,o9,fe,lX,ae,aX,b4,o6 hg,Iy hg,Nx,ef,cq,ci,xM hL,ahZ,G2 hk,af,d7,IQ (fQ (au (iZ hk) (jL hL))) hx,dB,gu]
  rw[hx];rfl
 ·simp only[o0,df,jY,fx,jD,fY,be,kE,o9,fe,lX,ae,aX,b4,o6 hg,Iy hg,Nx,ef,cq,ci,xM hL,ahZ,Zh (b6.mp hk),d7,dW,dB,dz,gu,fE]
  rw[n6 (b6.mp hk)];rfl
noncomputable def at_(L:aa)(i:Nat):AV:=(L[i]?).getD .none
def lh(mac:List Nat->List AV)(l:aa)(L:aa)(m:Nat):Prop:=mac []=[]/\ ∃pre,pre.length=m/\L=pre++xp mac l
theorem lh.at(S:lh mac l L m){k:Nat}{o:Option AV}(e:jH l k=some o):at_ L (m+k)=o.getD .none:=by
 unfold at_
 obtain⟨pre,h1,h2⟩:=S.2
 rw[h2,<- h1,kz (cU _ _),mH,QO S.1 e]
theorem tb(hg:σ.get r=some (cR L m))(hL:dv L.length=true)(S:lh mac l L m){k:Nat}{o:Option AV}(e:jH l k=some o):hZ [.ref r,.int (.ofNat k)] σ=some (o.getD .none,σ):=(al2 hg hL k).trans (congrArg (fun x=>some (x,σ)) (S.at e))
theorem jZ{k:Nat}{t v:AV}(h:pF k t=some v):aA k t σ=some v/\lK t=some false/\bQ t=false:=sY (Q:=fun t=>aA k t σ=some v/\lK t=some false/\bQ t=false) h fun c ks vs h=>⟨h,rfl,rfl⟩
theorem aoa{k:Nat}{w:ac}{b:Bool}{P:Prop}(e:qI l k w=some b)(k0:jH l k=some none->b=false->P)(k1: ∀t s,jH l k=some (some t)->pF 2 t=some (.str s)->b=dg s w->P):P:=
 oE e fun o ho e=>by
  cases o with
  |none=>exact k0 ho (aH e).symm
  |some t=>exact oE e fun v hv e=>fO (Q:=fun v=>pF 2 t=some v->P) e (fun s e hv=>k1 t s ho hv (aH e).symm) hv
theorem acz{k:Nat}{w:ac}{b:Bool}{P:Prop}(e:QS l k w=some b)(k1: ∀t s,jH l k=some (some t)->pF 1 t=some (.str s)->b=dg s w->P):P:=
 oE e fun o ho e=>oE (o:=o) e fun t ht e=>oE e fun v hv e=>fO (Q:=fun v=>pF 1 t=some v->P) e (fun s e hv=>k1 t s (ht▸ho) hv (aH e).symm) hv
theorem afA{k:Nat}{w s:ac}{b:Bool}{P:Prop}(e:vE l k w s=some b)(k1:qI l k w=some true->QS l k s=some b->P)(k0:qI l k w=some false->b=false->P):P:=
 oE e fun c hc e=>bE e (fun z e=>k1 (z▸hc) e) fun z e=>k0 (z▸hc) (aH e).symm
theorem lL(hg:σ.get r=some (cR L m))(hL:dv L.length=true)(S:lh mac l L m){k:Nat}{w:ac}{b:Bool}(e:qI l k w=some b):ip [.ref r,.str w,.int (.ofNat k)] σ=some (.bool b,σ):=by
 show ob (lc [.ref r,.str w,.int (.ofNat k)] σ) ik=_
 refine aoa e (fun ht hb=> ?_) fun t s ht h2 hb=> ?_
 ·rw[hb]
  simp only[lc,gm,df,fD,eC,be,kE,o9,fe,lX,ae,aX,b4,rN hg,cq,ci,tb hg hL S ht,tD,dz,su,sv,putN,d7,Ei,wA,fx,akD,dW,IU,SS,et,iM,dB,gu]
 ·rw[hb]
  simp only[lc,gm,df,fD,eC,be,kE,o9,fe,lX,mU,ae,aX,b4,rN hg,cq,ci,tb hg hL S ht,nO,dz,su,sv,putN,d7,Ei,wA,fx,(jZ (σ:=σ) h2).2.2,dW,IU,(jZ (σ:=σ) h2).2.1,fj,iM,dB,gu,af,fY,(jZ (σ:=σ) h2).1,ZH]
theorem He(hg:σ.get r=some (cR L m))(hL:dv L.length=true)(S:lh mac l L m){k:Nat}{w:ac}{b:Bool}(e:vE l k jk w=some b):js [.ref r,.str w,.int (.ofNat k)] σ=some (.bool b,σ):=by
 show ob (lf [.ref r,.str w,.int (.ofNat k)] σ) ik=_
 refine afA e (fun e1 e2=>acz e2 fun t s ht h2 hb=> ?_) fun e1 hb=> ?_
 ·have h1:=lL hg hL S e1
  unfold jk at h1
  rw[hb]
  simp only[lf,gm,fb,df,eC,be,kE,o9,fe,lX,mU,ae,aX,b4,rN hg,cq,ci,h1,tb hg hL S ht,nO,d7,Ei,wA,fx,dW,iM,dB,gu,af,fY,(jZ (σ:=σ) h2).1,ZH]
 ·have h1:=lL hg hL S e1
  unfold jk at h1
  rw[hb]
  simp only[lf,fb,df,eC,be,kE,o9,fe,lX,mU,ae,aX,b4,rN hg,cq,ci,h1,d7,Ei,dW,iM,dB,gu]
noncomputable def tj:SM:=(aV (r5 (RC (o8 (jd (cF fb (al 0) (aw (a7 (.str [119,111,114,100])) (aw (al 2) aJ))))) (fi (bV .NotEq) (un (aA 1) (cF gm (al 0) (aw (al 2) aJ))) (al 3)))
  (aV (eD (a7 (.bool false)))
  bk)
  bk)
  (aV (cO [2] (bi (bU .Add) (al 2) (a7 (.int (1)))))
  bk))
theorem akM(hg:σ.get r=some (cR L m))(hL:dv L.length=true)(S:lh mac l L m){w:AV}{x:ac}{k:Nat}{b:Bool}(e:vE l k uF x=some b):
  tj [.ref r,w,.int (.ofNat k),.str x] σ=some (bif b then .next [.ref r,w,.int (.ofNat (k+1)),.str x] σ else .ret (.bool false) σ):=by
 refine afA e (fun e1 e2=>acz e2 fun t s ht h2 hb=> ?_) fun e1 hb=> ?_
 ·have h1:=lL hg hL S e1
  unfold uF at h1
  rw[hb]
  cases z:dg s x<;>simp only[tj,gm,fb,df,jY,GZ,qH,lV,eC,be,kE,o9,fe,lX,mU,ae,aX,b4,rN hg,cq,ci,h1,tb hg hL S ht,nO,fx,dW,iM,et,fj,af,fY,(jZ (σ:=σ) h2).1,aom,z,d7,dB,dz,fE,fD,jD,OV,su,sv]
 ·have h1:=lL hg hL S e1
  unfold uF at h1
  rw[hb]
  simp only[tj,fb,df,jY,GZ,qH,lV,eC,be,kE,o9,fe,lX,mU,ae,aX,b4,rN hg,cq,ci,h1,dW,iM,fj,af,d7,dB]
theorem aa4(hg:σ.get r=some (cR L m))(hL:dv L.length=true)(S:lh mac l L m)(w:AV){ws:List (List Nat)}: ∀(k:Nat) (f3:Fm) (b:Bool),f3.length<=1->DC l k ws=some b->
  ∃fr',pD [3] tj (ws.map .str) (.ref r::w:: .int (.ofNat k)::f3) σ=(bif b then some (.next fr' σ)else some (.ret (.bool false) σ)):=by
 induction ws with
 |nil=>exact fun k f3 b _ e=>s1 (P:=fun b=> ∃fr',some (j5.next (.ref r::w:: .int (.ofNat k)::f3) σ)=(bif b then some (.next fr' σ)else some (.ret (.bool false) σ))) e ⟨_,rfl⟩
 |cons x ws ih=>
  intro k f3 b h3 e
  have hf:put (.ref r::w:: .int (.ofNat k)::f3) 3 (.str x)=[.ref r,w,.int (.ofNat k),.str x]:=by
   cases f3 with
   |nil=>rfl
   |cons a f3=>cases f3 with
    |nil=>rfl
    |cons=>exact absurd h3 (Nat.not_succ_le_self _∘au (ba (ba (aU _))))
  refine oE (show ob (vE l k uF x) _=some b from e) fun c hc e=> ?_
  have h:=akM hg hL S (w:=w) hc
  have hs: ∀{o},tj [.ref r,w,.int (.ofNat k),.str x] σ=some o->pD [3] tj ((x::ws).map .str) (.ref r::w:: .int (.ofNat k)::f3) σ=KL (pD [3] tj (ws.map .str)) o:=fun{o} h=>by
   show ob (tj (put (.ref r::w:: .int (.ofNat k)::f3) 3 (.str x)) σ) _=_
   rw[hf,h];rfl
  cases c with
  |true=>
   obtain⟨fr',ih⟩:=ih (k+1) [.str x] b (ax _) e
   exact⟨fr',(hs h).trans ih⟩
  |false=>exact s1 (P:=fun b=> ∃fr',_=(bif b then some (j5.next fr' σ)else some (.ret (.bool false) σ))) e ⟨[],hs h⟩
end
section
variable{σ:AS}{r m:Nat}{L l:aa}{mac:List Nat->List AV}
noncomputable def sW(σ:AS)(w:ac):AS:=(σ.alloc (.lst ((dm 32 [] w).map .str))).drop σ.next
theorem Jl{σ:AS}{w:ac}{b:Nat}(h:b<σ.next):(sW σ w).get b=σ.get b:=by
 have h:=cj h
 unfold sW
 rw[AS.get_drop,AS.get_alloc,if_neg h,if_neg h]
theorem Yv{w:ac}(hw:dv w.length=true):kC [.str w,.str [32]] σ=some (.ref σ.next,σ.alloc (.lst ((dm 32 [] w).map .str))):=by
 show(bif dv w.length then _ else none)=_
 rw[hw];rfl
theorem b8{c:bF}:(σ.alloc c).get σ.next=some c:=by rw[AS.get_alloc,if_pos rfl]
theorem PO(hg:σ.get r=some (cR L m))(hL:dv L.length=true)(S:lh mac l L m)(hr:r<σ.next){w:ac}{b:Bool}(hw:okW w=true)(e:DC l 0 (dm 32 [] w)=some b):jt [.ref r,.str w] σ=some (.bool b,sW σ w):=aE hw fun hw1 hw2=>by
 obtain⟨fr',h⟩:=aa4 ((Jl hr).trans hg) hL S (.str w) 0 [] b (aU _) e
 have hit:fy (σ.alloc (.lst ((dm 32 [] w).map .str))) (.ref σ.next)=some ((dm 32 [] w).map .str,sW σ w):=by
  show bw (ob ((σ.alloc _).get σ.next) _) _=_
  rw[b8]
  show(bif dv ((dm 32 [] w).map AV.str).length then _ else none)=_
  rw[aS,hw2];rfl
 have e1:jt [.ref r,.str w] σ=ob (ob (bw (bw (some (AV.str w,σ)) fun x ai=>ob (ii kC x ai) fun F=>F [x,.str [32]] ai) fun x ai=>bw (fy ai x) fun l ay=>pD [3] tj l [.ref r,.str w,.int (.ofNat 0)] ay) (gP (aV (eD (a7 (.bool true))) bk))) ik:=rfl
 rw[e1,aX,X1,b4,Yv hw1,aX,hit,aX,h]
 cases b<;>rfl
theorem amA(hg:σ.get r=some (cR L m))(hL:dv L.length=true)(S:lh mac l L m){t:AV}(e:jH l 0=some (some t))(hr:lK t=some false)(hu:bQ t=false):oW [.ref r] σ=some (t,σ.set r (cR L (m+1))):=by
 have hp:hZ [.ref r] σ=some (t,σ):=tb hg hL S e
 show ob (tZ [.ref r] σ) ik=_
 simp only[tZ,gm,df,jY,fD,xY,fx,jD,fY,eC,be,kE,o9,fe,lX,hu,ae,af,aX,b4,rN hg,cq,ci,hp,dz,su,sv,putN,ahH,hr,dW,fE,o6 hg,OV,Jn hg,d7,dB,gu]
theorem aaz{t:AV}{k:Nat}: ∀{l:aa} {k:Nat},jH l k=some (some t)-> ∃c ks vs,t= .frz c ks vs:=fun{l}=>by
 induction l with
 |nil=>exact fun e=>nn (aH e)
 |cons a r ih=>
  intro k e
  refine sY (Q:=fun a'=>a'=a-> ∃c ks vs,t= .frz c ks vs) e (fun c ks vs e ha=> ?_) rfl
  refine bE e (fun q e=>kS e fun _ e=>ih e) fun q e=> ?_
  cases k with
  |zero=>exact⟨c,ks,vs,ha.trans (aH (aH e))|>.symm⟩
  |succ j=>exact ih e
theorem Jo(hg:σ.get r=some (cR L m))(hL:dv L.length=true)(S:lh mac l L m){w:ac}{b:Bool}(e:vE l 0 jk w=some b):jJ [.ref r,.str w] σ=some (.bool b,bif b then σ.set r (cR L (m+1))else σ):=by
 have h:js [.ref r,.str w] σ=some (.bool b,σ):=He hg hL S (k:=0) e
 show ob (mP [.ref r,.str w] σ) ik=_
 cases b<;>simp only[mP,vn,df,jY,qH,lV,eC,be,kE,o9,fe,mU,ae,af,aX,b4,rN hg,cq,ci,h,iM,et,fj,d7,dW,dB,dz,gu,fE,xY,jD,fY,o6 hg,OV,Jn hg]
theorem acq(hg:σ.get r=some (cR L m))(hL:dv L.length=true)(S:lh mac l L m)(hr:r<σ.next){w:ac}{b:Bool}(hw:okW w=true)(e:DC l 0 (dm 32 [] w)=some b):
  oV [.ref r,.str w] σ=some (.bool b,bif b then((sW σ w).alloc (.lst ((dm 32 [] w).map .str))).set r (cR L (m+(dm 32 [] w).length))else sW σ w):=aE hw fun hw1 hw2=>by
 have h:=PO hg hL S hr hw e
 have hg':(sW σ w).get r=some (cR L m):=(Jl hr).trans hg
 show ob (o4 [.ref r,.str w] σ) ik=_
 cases b
 ·simp only[o4,qX,df,jY,qH,lV,eC,be,kE,o9,fe,mU,ae,af,aX,b4,rN hg,cq,ci,h,iM,fj,d7,dW,dB,gu]
 ·have hg2:((sW σ w).alloc (.lst ((dm 32 [] w).map .str))).get r=some (cR L m):=by
   rw[AS.get_alloc,if_neg (show r≠(sW σ w).next from cj (cK hr))];exact hg'
  have hlen:eO [.ref (sW σ w).next] ((sW σ w).alloc (.lst ((dm 32 [] w).map .str)))=some (.int (.ofNat (dm 32 [] w).length),(sW σ w).alloc (.lst ((dm 32 [] w).map .str))):=by
   show ob (ob (((sW σ w).alloc _).get (sW σ w).next) _) _=_
   rw[b8]
   show(bif dv (eR ((dm 32 [] w).map AV.str))then _ else none)=_
   rw[ig,aS,hw2];rfl
  simp only[o4,qX,df,jY,qH,lV,eC,be,kE,o9,fe,mU,ae,af,aX,b4,rN hg,cq,ci,h,iM,et,fE,d7,dW,dB,dz,gu,xY,jD,fY,o6 hg',ef,X1,Yv hw1,hlen,Nx,Jn hg2]
end
section
variable{σ:AS}{r m:Nat}{L l:aa}{mac:List Nat->List AV}
theorem vN{F:aW}{args:aa}{a:AV}(h:ul F args=some a)(σ:AS):wC F args σ=some (a,σ):=ji h
theorem akN(hg:σ.get r=some (cR L m))(hL:dv L.length=true)(S:lh mac l L m){t w d n:AV}(e1:qI l 0 pT=some true)(e2:jH l 0=some (some t))(e3:pF 1 t=some w)
  (e4:ul iz [w]=some d)(e5:ul lE [d]=some (.bool true))(e6:ul oc [d]=some n)(hd:bQ d=false):nw [.ref r] σ=some (n,σ.set r (cR L (m+1))):=by
 have h:ip [.ref r,.str [110,117,109,98,101,114]] σ=some (.bool true,σ):=lL hg hL S e1
 have hp:hZ [.ref r] σ=some (t,σ):=tb hg hL S e2
 show ob (rI [.ref r] σ) ik=_
 simp only[rI,fb,gm,df,jY,GZ,qH,lV,eC,be,kE,o9,fe,hd,ae,af,aX,b4,rN hg,cq,ci,dW,h,iM,et,fj,fE,dz,dB,fD,ef,fY,hp,(jZ (σ:=σ) e3).1,vN e4,vN e5,vN e6,su,sv,putN,xY,jD,o6 hg,OV,Jn hg,d7,gu]
theorem ad2(hg:σ.get r=some (cR L m))(hL:dv L.length=true)(S:lh mac l L m){t w:AV}{b:List UInt8}(e1:qI l 0 Ye=some true)(e2:jH l 0=some (some t))(e3:pF 1 t=some w)
  (e4:ul iq [w]=some (.bytes b)):mf [.ref r] σ=some (.bytes b,σ.set r (cR L (m+1))):=by
 have h:ip [.ref r,.str [108,105,116,101,114,97,108]] σ=some (.bool true,σ):=lL hg hL S e1
 have hp:hZ [.ref r] σ=some (t,σ):=tb hg hL S e2
 show ob (qf [.ref r] σ) ik=_
 simp only[qf,fb,gm,df,jY,fx,qH,lV,eC,be,kE,o9,fe,apg,ae,af,aX,b4,rN hg,cq,ci,dW,h,iM,et,fE,dz,dB,fD,ef,fY,hp,(jZ (σ:=σ) e3).1,vN e4,ahH,adM,su,sv,putN,xY,jD,o6 hg,OV,Jn hg,d7,gu]
theorem abJ(hg:σ.get r=some (cR L m))(hL:dv L.length=true):lb [.ref r] σ=some (.bool (!bt m L.length),σ):=by
 show ob (oZ [.ref r] σ) ik=_
 simp only[oZ,df,d7,wA,fx,fY,be,kE,fe,ae,aX,b4,o6 hg,Iy hg,ef,cq,ci,xM hL,an1,dB,gu]
theorem lh.lt(S:lh mac l L m){t:AV}(e:jH l 0=some (some t)):L[m]? =some t:=by
 obtain⟨pre,h1,h2⟩:=S.2
 rw[h2,<- h1,kz (ax _),Bi,QO S.1 e]
theorem aoi(hm:m<L.length):Ue [.int (.ofNat m),.int (am L.length-1)] σ=some (.int (.ofNat m),σ):=by
 obtain⟨j,hj⟩:=Nat.exists_eq_add_of_lt hm
 rw[hj,show am (m+j+1)-1=am (m+j) from Be (m+j:Nat) 1]
 show some (AV.int (bif bt (m+j) m then am (m+j)else am m),σ)=_
 rw[Zh (cU m j)];rfl
theorem ag2(hg:σ.get r=some (cR L m))(hL:dv L.length=true)(S:lh mac l L m){t w:AV}{x:ac}(e2:jH l 0=some (some t))(e3:pF 4 t=some w):nv [.ref r,.str x] σ=some (.opq,σ):=by
 have hat:=S.lt e2
 have hm:=(cP.mp hat).1
 have ht:qM σ (.lst L)=some true:=by
  show(bif dv L.length then some (!L.isEmpty)else none)=_
  rw[hL]
  cases L with
  |nil=>exact absurd hm (io _)
  |cons=>rfl
 have hs:bU .Sub (.int (.ofNat L.length)) (.int 1) σ=some (.int (am L.length-1),σ):=rfl
 have hix:=IQ (σ:=σ) (fQ (au (iZ hm) (jL hL))) hat
 have ho: ∀a b,Wa [a,b] σ=some (.opq,σ):=fun _ _=>rfl
 show ob (rH [.ref r,.str x] σ) ik=_
 simp only[rH,df,jY,qH,et,fE,dz,d7,ww,lV,jD,fY,be,kE,o9,fe,mU,ae,af,aX,b4,Iy hg,o6 hg,ht,ef,cq,ci,xM hL,dW,hs,aoi hm,hix,(jZ (σ:=σ) e3).1,ho,dB,gu]
end
section
variable{C:PC}{kF:Nat}{f:ah}{mac:List Nat->List AV}{bx:List Nat->List AV->List Nat}{VB:AV->Prop}
structure qe(C:PC)(mac:List Nat->List AV)(bx:List Nat->List AV->List Nat)(VB:AV->Prop):Prop where
 mac0:mac []=[]
 rdr: ∀l c,C.conc 1021 l c↔lJ mac l c
 bx2: ∀m d vs,bx [m,d] vs=[m,d]
 bag: ∀l c,C.conc 0 l c↔afV bx VB l c
theorem ej{σ:AS}{r:Nat}{eM c:bF}(h:σ.get r=some eM):(σ.set r c).get r=some c:=by rw[AS.get_set,if_pos rfl,h];rfl
theorem tf{σ:AS}{r b:Nat}{c:bF}(h:b≠r):(σ.set r c).get b=σ.get b:=by rw[AS.get_set,if_neg h]
theorem bW{l l':aa}:aN (l++l')=(aN l&&aN l'):=by
 induction l with
 |nil=>rfl
 |cons a l ih=>exact(congrArg (noRef a&& ·) ih).trans (Bool.and_assoc ..).symm
theorem L7{l:aa}{j:Nat}(h:aN l=true):aN (l.take j)=true/\aN (l.drop j)=true:=by
 rw[<- jR j l,bW]at h
 exact aE h hH
theorem vH{σ:AS}{l:aa}{r:Nat}{c eM:bF}(h:lJ mac l c)(m0:mac []=[])(hg:σ.get r=some eM): ∃L m,(σ.set r c).get r=some (cR L m)/\c=cR L m/\dv L.length=true/\lh mac l L m/\m+(xp mac l).length=L.length/\
  ∀j l',rL l j=some l'->lJ mac l' (cR L (m+j)):=by
 obtain⟨w,pre,h1,h2,h3,rfl⟩:=h
 refine⟨_,_,ej hg,rfl,by rw[ao];exact h1,⟨m0,pre,rfl,rfl⟩,ao.symm,fun j l' e=> ?_⟩
 obtain⟨d1,d2,d3⟩:=ac6 m0 w e
 have hl:(pre++(xp mac l).take j).length=pre.length+j:=by rw[ao,kb,HU d2]
 refine⟨d3,pre++(xp mac l).take j,?_,?_,?_,?_⟩
 ·rw[hl,d1,gW,kB,A5 d2];exact h1
 ·rw[bW,h2,(L7 h3).1];rfl
 ·rw[d1];exact(L7 h3).2
 ·rw[hl,d1,aB,jR]
theorem ug(O:qe C mac bx VB){F F':aW}(hF:aF C kF f F)(H: ∀args σ a ai,F' args σ=some (a,ai)-> ∃r l,σ.get r=some (.orc 1021 l)/\ai=σ/\
  ∀jz L m,jz.get r=some (cR L m)->dv L.length=true->lh mac l L m->m+(xp mac l).length=L.length->F args jz=some (a,jz)):aF C kF f F':=uH hF fun args σ a ai e=>by
 obtain⟨r,l,hr,rfl,H⟩:=H args σ a ai e
 refine⟨r,1021,l,hr,fun c hc hlt=> ?_⟩
 obtain⟨L,m,h1,h2,h3,h4,h5,h6⟩:=vH ((O.rdr _ _).mp hc) O.mac0 hr
 refine⟨_,c,1021,l,H _ L m h1 h3 h4 h5,h2▸h1,hc,ax _,fun b d q=> ?_⟩
 by_cases z:b=r
 ·exact .inl ⟨z,aH (q.symm.trans (z▸hr))⟩
 ·exact .inr ⟨z,(tf z).trans q⟩
theorem Y9{σ ay:AS}{r:Nat}{c' eM:bF}(hr:σ.get r=some eM)(h: ∀b d,b≠r->σ.get b=some d->ay.get b=some d)(b:Nat)(d:bF)(q:(σ.set r c').get b=some d):(b=r/\d=c')\/(b≠r/\ay.get b=some d):=by
 by_cases z:b=r
 ·subst z;rw[ej hr]at q;exact .inl ⟨rfl,(aH q).symm⟩
 ·rw[tf z]at q;exact .inr ⟨z,h b d z q⟩
theorem zf(O:qe C mac bx VB){F F':aW}(hF:aF C kF f F)(H: ∀args σ a ai,F' args σ=some (a,ai)-> ∃r l j l',σ.get r=some (.orc 1021 l)/\rL l j=some l'/\ai=σ.set r (.orc 1021 l')/\
  ∀jz L m,jz.get r=some (cR L m)->dv L.length=true->lh mac l L m->F args jz=some (a,jz.set r (cR L (m+j)))):aF C kF f F':=uH hF fun args σ a ai e=>by
 obtain⟨r,l,j,l',hr,hd,rfl,H⟩:=H args σ a ai e
 refine⟨r,1021,l,hr,fun c hc hlt=> ?_⟩
 obtain⟨L,m,h1,h2,h3,h4,h5,h6⟩:=vH ((O.rdr _ _).mp hc) O.mac0 hr
 exact⟨_,cR L (m+j),1021,l',H _ L m h1 h3 h4,ej h1,(O.rdr _ _).mpr (h6 _ _ hd),ax _,Y9 hr fun b d z q=>by rw[tf z,tf z];exact q⟩
theorem zg{F:aW}{args:aa}{σ:AS}{r:Nat}{l:aa}{a b:AV}{ai:AS}(hr:σ.get r=some (.orc 1021 l))(e:some (b,σ)=some (a,ai))(H: ∀jz L m,jz.get r=some (cR L m)->dv L.length=true->lh mac l L m->m+(xp mac l).length=L.length->F args jz=some (b,jz)):
  ∃r l,σ.get r=some (.orc 1021 l)/\ai=σ/\ ∀jz L m,jz.get r=some (cR L m)->dv L.length=true->lh mac l L m->m+(xp mac l).length=L.length->F args jz=some (a,jz):=by
 apply s2 e;exact⟨r,l,hr,rfl,H⟩
theorem Qz{F:aW}{args:aa}{σ:AS}{r j:Nat}{l l':aa}{a b:AV}{ai:AS}(hr:σ.get r=some (.orc 1021 l))(hd:rL l j=some l')(e:some (b,σ.set r (.orc 1021 l'))=some (a,ai))(H: ∀jz L m,jz.get r=some (cR L m)->dv L.length=true->lh mac l L m->F args jz=some (b,jz.set r (cR L (m+j)))):
  ∃r l j l',σ.get r=some (.orc 1021 l)/\rL l j=some l'/\ai=σ.set r (.orc 1021 l')/\ ∀jz L m,jz.get r=some (cR L m)->dv L.length=true->lh mac l L m->F args jz=some (a,jz.set r (cR L (m+j))):=by
 apply s2 e;exact⟨r,l,j,l',hr,hd,rfl,H⟩
theorem Vk(o:Option AV):((od o some (some .none)).getD .none)=o.getD .none:=by cases o<;>rfl
theorem Yn(O:qe C mac bx VB)(hF:aF C kF f hZ):aF C kF f Ic:=ug O hF fun args σ a ai e=>nZ e fun r as l hr e=>aat e
 (fun e=>oE e fun o ho e=>zg hr e fun jz L m hg hL S _=>by rw[Vk];exact tb hg hL S ho) fun k e=>oE e fun o ho e=>zg hr e fun jz L m hg hL S _=>by rw[Vk];exact tb hg hL S ho
theorem Qw(O:qe C mac bx VB)(hF:aF C kF f ip):aF C kF f Lu:=ug O hF fun args σ a ai e=>nZ e fun r as l hr e=>K9 e fun w bs e=>aat e
 (fun e=>oE e fun b e1 e=>zg hr e fun jz L m hg hL S _=>lL hg hL S e1) fun k e=>oE e fun b e1 e=>zg hr e fun jz L m hg hL S _=>lL hg hL S e1
theorem Qx(O:qe C mac bx VB)(hF:aF C kF f js):aF C kF f Lv:=ug O hF fun args σ a ai e=>nZ e fun r as l hr e=>K9 e fun w bs e=>aat e
 (fun e=>oE e fun b e1 e=>zg hr e fun jz L m hg hL S _=>He hg hL S e1) fun k e=>oE e fun b e1 e=>zg hr e fun jz L m hg hL S _=>He hg hL S e1
theorem Qv(O:qe C mac bx VB)(hF:aF C kF f lb):aF C kF f vm:=ug O hF fun args σ a ai e=>nZ e fun r as l hr e=>Ag e fun e=>oE e fun o ho e=>by
 have ho:=fun h=>QO (mac:=mac) h ho
 cases o with
 |some t=>
  exact zg hr e fun jz L m hg hL S hlen=>by
   have h:=(cP.mp (ho O.mac0)).1
   rw[abJ hg hL,G2 (by rw[<- hlen];exact uX h)];rfl
 |none=>
  exact zg hr e fun jz L m hg hL S hlen=>by
   have h:=Q5.mp (List.getElem?_eq_none_iff.mp (ho O.mac0))
   rw[abJ hg hL,Zh (by rw[<- hlen,h];exact ax _)];rfl
theorem VE(O:qe C mac bx VB)(hF:aF C kF f nv):aF C kF f Sc:=ug O hF fun args σ a ai e=>nZ e fun r as l hr e=>K9 e fun x bs e=>Ag e fun e=>oE e fun o ho e=>oE (o:=o) e fun t ht e=>oE e fun w hw e=>
 zg hr e fun jz L m hg hL S _=>ag2 hg hL S (ht▸ho) hw
theorem Yp(O:qe C mac bx VB)(hF:aF C kF f oW):aF C kF f Wc:=zf O hF fun args σ a ai e=>nZ e fun r as l hr e=>Ag e fun e=>oE e fun o ho e=>oE (o:=o) e fun t ht e=>oE e fun l' hd e=>
 Qz hr hd e fun jz L m hg hL S=>let⟨c,ks,vs,h⟩:=aaz (k:=0) (ht▸ho);amA hg hL S (ht▸ho) (h▸rfl) (h▸rfl)
theorem EA{σ:AS}{r:Nat}{c:bF}(h:σ.get r=some c):σ.set r c=σ:=congrArg (AS.mk σ.next) (TC _ _ _ h)
theorem K0(O:qe C mac bx VB)(hF:aF C kF f jJ):aF C kF f Fn:=zf O hF fun args σ a ai e=>nZ e fun r as l hr e=>K9 e fun w bs e=>Ag e fun e=>oE e fun b hb e=>bE e
 (fun z e=>oE e fun l' hd e=>Qz hr hd e fun jz L m hg hL S=>Jo hg hL S (z▸hb)) fun z e=>Qz (j:=0) hr (LW l) ((congrArg (fun σ=>some (AV.bool false,σ)) (EA hr)).trans e) fun jz L m hg hL S=>(Jo hg hL S (z▸hb)).trans (congrArg (fun σ=>some (AV.bool false,σ)) (EA hg).symm)
theorem YH{β:Type}{l:aa}{w:ac}{f:AV->List AV->Option β}{x:β}{P:Prop}(e:VR l w f=some x)(kk: ∀t v l',qI l 0 w=some true->jH l 0=some (some t)->pF 1 t=some v->rL l 1=some l'->f v l'=some x->P):P:=
 oE e fun b hb e=>kS e fun z e=>oE e fun o ho e=>oE (o:=o) e fun t ht e=>oE e fun v hv e=>oE e fun l' hd e=>kk t v l' (z▸hb) (ht▸ho) hv hd e
theorem aa3{d:AV}(h:ul lE [d]=some (.bool true)):bQ d=false:=by
 cases d<;>first|rfl|exact nn h
theorem VF(O:qe C mac bx VB)(hF:aF C kF f nw):aF C kF f (Sd iz lE oc):=zf O hF fun args σ a ai e=>nZ e fun r as l hr e=>Ag e fun e=>YH e fun t v l' hk ht hv hd e=>oE e fun d h1 e=>oE e fun b h2 e=>afr e fun hb e=>oE e fun n h3 e=>
 Qz hr hd e fun jz L m hg hL S=>akN hg hL S hk ht hv h1 (hb▸h2) h3 (aa3 (hb▸h2))
theorem RP(O:qe C mac bx VB)(hF:aF C kF f mf):aF C kF f (Og iq):=zf O hF fun args σ a ai e=>nZ e fun r as l hr e=>Ag e fun e=>YH e fun t v l' hk ht hv hd e=>oE e fun x h1 e=>acT e fun b hb e=>
 Qz hr hd e fun jz L m hg hL S=>ad2 hg hL S hk ht hv (hb▸h1)
theorem QR{F:aW}{args:aa}{σ:AS}{r:Nat}{l:aa}{a:AV}{w:ac}(O:qe C mac bx VB)(hr:σ.get r=some (.orc 1021 l))(H: ∀jz L m,jz.get r=some (cR L m)->dv L.length=true->lh mac l L m->r<jz.next->F args jz=some (a,sW jz w)):
  ∃r kk l,σ.get r=some (.orc kk l)/\ ∀c,C.conc kk l c->(∀b d,σ.get b=some d->b<σ.next)-> ∃ay Cp S7 bz,F args (σ.set r c)=some (a,ay)/\ay.get r=some Cp/\C.conc S7 bz Cp/\ay.next<=(⟨σ.next+1,σ.cells⟩:AS).next/\
   ∀b d,(⟨σ.next+1,σ.cells⟩:AS).get b=some d->(b=r/\d= .orc S7 bz)\/(b≠r/\ay.get b=some d):=by
 refine⟨r,1021,l,hr,fun c hc hlt=> ?_⟩
 obtain⟨L,m,h1,h2,h3,h4,h5,h6⟩:=vH ((O.rdr _ _).mp hc) O.mac0 hr
 refine⟨_,c,1021,l,H _ _ _ h1 h3 h4 (hlt _ _ hr),((Jl (σ:=σ.set r c) (hlt _ _ hr)).trans h1).trans (congrArg some h2.symm),hc,ax _,fun b d q=> ?_⟩
 have q:σ.get b=some d:=q
 by_cases z:b=r
 ·exact .inl ⟨z,aH (q.symm.trans (z▸hr))⟩
 ·exact .inr ⟨z,(Jl (σ:=σ.set r c) (hlt _ _ q)).trans ((tf z).trans q)⟩
theorem Qy(O:qe C mac bx VB)(hF:aF C kF f jt):aF C kF f Lw:=uH hF fun args σ a ai e=>nZ e fun r as l hr e=>K9 e fun w bs e=>Ag e fun e=>kS e fun hw e=>oE e fun b e1 e=>by
 apply s2 e
 exact QR O hr fun jz L m hg hL S hr=>PO hg hL S hr hw e1
theorem Yo(O:qe C mac bx VB)(hF:aF C kF f oV):aF C kF f Wb:=uH hF fun args σ a ai e=>nZ e fun r as l hr e=>K9 e fun w bs e=>Ag e fun e=>kS e fun hw e=>oE e fun b e1 e=>bE e
 (fun z e=>oE e fun l' hd e9=>by
  subst z
  apply s2 e9
  refine⟨r,1021,l,hr,fun c hc hlt=> ?_⟩
  obtain⟨L,m,h1,h2,h3,h4,h5,h6⟩:=vH ((O.rdr _ _).mp hc) O.mac0 hr
  have hs: ∀{b:Nat},b<σ.next->((sW (σ.set r c) w).alloc (.lst ((dm 32 [] w).map .str))).get b=(σ.set r c).get b:=fun{b} h=>by
   rw[AS.get_alloc,if_neg (show b≠(sW (σ.set r c) w).next from cj (cK h))];exact Jl (σ:=σ.set r c) h
  exact⟨_,cR L (m+(dm 32 [] w).length),1021,l',acq h1 h3 h4 (hlt _ _ hr) hw e1,ej ((hs (hlt _ _ hr)).trans h1),(O.rdr _ _).mpr (h6 _ _ hd),ax _,
   Y9 hr fun b d z q=>(tf (σ:=(sW (σ.set r c) w).alloc _) z).trans ((hs (hlt _ _ q)).trans ((tf z).trans q))⟩) fun z e9=>by
  subst z
  apply s2 e9
  exact QR O hr fun jz L m hg hL S hr=>acq hg hL S hr hw e1
theorem zw{F:aW}(hF:aF C kF f F):aF C kF f (wC F):=aaI (jc (pick:=fun _ _=>[]) hF) fun args σ a ai e=>oE e fun b h e=>kS h fun hr h=>fM h fun xx ay e1 h=>kS h fun ha h=>by
 apply s2 e
 apply s1 h
 show(bif aN args then bw (F args ⟨0,[]⟩) _ else none)=_
 rw[hr,e1]
 show ob (uC _ xx) _=_
 rw[uj ha];rfl
end
section
variable{k:Nat}{C:PC}{W W' W'':Wd}{σ ai:AS}{h h':bJ}
theorem Z1{ay:AS}{ct:Wd}{x:Nat}{c:Nat}{ks:ac}{fs fs':aa}{p:aC×aC}{es:List hJ}{m:Nat}{vs:List ah}(R:cv C W σ h)(hg:σ.get x=some (.inst c ks fs))(hp:W.ρ x=some p)(hpr:W.pr p.2=none)(hi:W.im p.2=none)(q0:C.cls c=true)(q1:W.im p.1=some (instObj c p.2))(q2:h.get? p.2=some (dictOf es m))(q3:oT C ks vs es)
  (g2:Gh W (σ.drop x) ct ay)(R2:cv C ct ay h)(z2:VL C ct fs' vs):cv C ct ⟨ay.next,(x,.inst c ks fs')::ay.cells⟩ h:=by
 have hx: ∀b c,(σ.drop x).get b=some c->b≠x/\σ.get b=some c:=fun b c e=>by
  rw[AS.get_drop]at e
  by_cases z:b=x
  ·rw[if_pos z]at e;exact nn e
  ·rw[if_neg z]at e;exact⟨z,e⟩
 have hp2:ct.ρ x=some p:=by rw[g2.ρ];exact hp
 have hi2:ct.im p.2=none:=by
  cases z:ct.im p.2 with
  |none=>rfl
  |some o=>
   obtain⟨b,c',p',h1,h2,h3⟩:=g2.im _ _ hi z
   obtain⟨n1,n2⟩:=hx _ _ h1
   exact absurd (R.inj _ _ _ _ _ _ n2 hg h2 hp h3) n1
 have look: ∀b c',AS.get ⟨ay.next,(x,.inst c ks fs')::ay.cells⟩ b=some c'->(b=x/\c'= .inst c ks fs')\/(b≠x/\ay.get b=some c'):=fun b c' e=>by
  by_cases z:b=x
  ·subst z;exact .inl ⟨rfl,(aH (ahX.symm.trans e)).symm⟩
  ·exact .inr ⟨z,(ahY z).symm.trans e⟩
 refine⟨R2.base,R2.im,R2.pr,R2.dis,R2.fresh,fun b c' e=> ?_,fun b b' cb cb' pb pb' e e' ep ep' hpp=> ?_⟩
 ·rcases look b c' e with⟨rfl,rfl⟩|⟨h1,h2⟩
  ·exact⟨p,hp2,⟨q0,g2.le.2.1 _ _ q1,es,m,vs,q2,z2,q3⟩,hi2,by rw[g2.le.2.2];exact hpr⟩
  ·exact R2.cell _ _ h2
 ·have old: ∀b c',AS.get ⟨ay.next,(x,.inst c ks fs')::ay.cells⟩ b=some c'-> ∃c'',σ.get b=some c'':=fun b c' e=>(look b c' e).elim (fun h=>⟨_,h.1▸hg⟩) fun h=>⟨_,(hx _ _ (g2.sub _ _ h.2)).2⟩
  obtain⟨d,e⟩:=old b cb e
  obtain⟨d',e'⟩:=old b' cb' e'
  exact R.inj _ _ _ _ _ _ e e' (by rw[<- g2.ρ];exact ep) (by rw[<- g2.ρ];exact ep') hpp
theorem Xl{sel:Nat->Bool}(n:Nat)(W:Wd)(σ:AS)(a:AV)(v:ah)(R:cv C W σ h)(q:V C W a v): ∃W',W.le W'/\cv C W' (Py sel n a σ).2 h/\V C W' (Py sel n a σ).1 v:=by
 unfold Py
 generalize e:ic a _=o
 cases o with
 |none=>exact⟨W,.refl _,R,q⟩
 |some r=>
  show ∃W',W.le W'/\cv C W' r.2 h/\V C W' r.1 v
  revert q
  refine ir e fun x e=>instE e fun c ks fs hg e=> ?_
  apply s1 e
  intro q
  obtain⟨p,hp,rfl⟩:=q
  obtain⟨p',e',⟨q0,q1,es,m,vs,q2,r,q3⟩,hi,hpr⟩:=R.cell _ _ hg
  rw[hp]at e';cases e'
  obtain⟨ct,g2,R2,z2⟩:=L6 (sel:=sel) (Cw (sel:=sel) n) ks fs W (σ.drop x) vs (R.drop x) r
  exact⟨ct,g2.le,Z1 R hg hp hpr hi q0 q1 q2 q3 g2 R2 z2,p,g2.le.1 _ _ hp,rfl⟩
theorem TA{kF:Nat}{f:ah}{F:aW}{g:AV->AS->AV×AS}(hg: ∀h W σ a v,cv C W σ h->V C W a v-> ∃W',W.le W'/\cv C W' (g a σ).2 h/\V C W' (g a σ).1 v)(hF:aF C kF f F):aF C kF f (I9 g F):=fun A R W σ s args vs Re hv tk a ai e=>fM e fun b ay e1 e=>by
 refine eo (hF A R W σ s args vs Re hv tk b ay e1) fun v s' ⟨hs,W',le,R',hv'⟩=> ?_
 obtain⟨ct,l2,R2,v2⟩:=hg _ _ _ _ _ R' hv'
 rw[show g b ay=(a,ai) from aH e]at R2 v2
 exact⟨hs,ct,le.trans l2,R2,v2⟩
theorem Hy{kF n:Nat}{sel:Nat->Bool}{f:ah}{F:aW}(hF:aF C kF f F):aF C kF f (I9 (ub sel n) F):=TA (fun h W σ a v R q=>let⟨W',g,R',v'⟩:=Cw n W σ a v R q;⟨W',g.le,R',v'⟩) hF
theorem Hz{kF n:Nat}{sel:Nat->Bool}{f:ah}{F:aW}(hF:aF C kF f F):aF C kF f (I9 (Py sel n) F):=TA (fun h W σ a v R q=>Xl n W σ a v R q) hF
end
section
variable{C:PC}{kF:Nat}{f:ah}{mac:List Nat->List AV}{bx:List Nat->List AV->List Nat}{VB:AV->Prop}
theorem Vp{a:AV}{Q:AV->Prop}(h:(mR a fun c _ _=>some (!aj c 0)).getD false=true)(kk: ∀c ks vs,aj c 0=false->Q (.frz c ks vs)):Q a:=by
 cases a with
 |frz c ks vs=>exact kk c ks vs (pj h)
 |_=>exact ff h
theorem TO{l:aa}:de l=true->xp mac l=l/\u5 mac l:=by
 induction l with
 |nil=>exact fun _=>⟨rfl,trivial⟩
 |cons a l ih=>
  refine fun h=>aE (show((mR a fun c _ _=>some (!aj c 0)).getD false&&de l)=true from h) fun h1 h2=>Vp (Q:=fun a=>xp mac (a::l)=a::l/\u5 mac (a::l)) h1 fun c ks vs h1=> ?_
  obtain⟨i1,i2⟩:=ih h2
  refine⟨?_,fun z=> ?_,i2⟩
  ·rw[EF,h1,i1];rfl
  ·have z:(aj c 0&&CB ks)=true:=z
   rw[h1]at z;exact ff z
@[elab_as_elim] theorem alI {vs:aa} {L:aa} {Q:List AV->Prop} (h:Z3 vs=some L) (kk: ∀x y,Q [.lst L,.int (.ofNat 0),x,y]):Q vs:=
 kG h fun a r h=>kG (Q:=fun r=>Q (a::r)) h fun b r h=>ak7 (Q:=fun a=>Q (a::b::r)) h fun L' h=>mi (Q:=fun b=>Q (.lst L'::b::r)) h fun n h=>kS h fun z h=>Kt (Q:=fun r=>Q (.lst L':: .int (.ofNat n)::r)) h fun x y h=>
  s1 (P:=fun L=>(∀x y,Q [.lst L,.int (.ofNat 0),x,y])->Q [.lst L',.int (.ofNat n),x,y]) h (fun kk=>by rw[aD z];exact kk x y) kk
theorem aeB(O:qe C mac bx VB){F:aW}(hF:aF C kF f F):aF C kF f (anc F):=fun A R W σ s args vs Re hv tk a ai e=>fM e fun b ay e1 e=>by
 revert e1
 refine ir e fun x e=>instE e fun c ks fs hc e=>kS e fun z e=>oE e fun L hL e=>kS e fun q e e1=> ?_
 apply s2 e
 obtain⟨z1,z2⟩:=aE z hH
 rw[kK,decide_eq_true_iff]at z2
 obtain⟨q,h3⟩:=aE q hH
 obtain⟨h1,h2⟩:=aE q hH
 obtain⟨xl,xw⟩:=TO (mac:=mac) h3
 refine eo (hF A R W σ s args vs Re hv tk _ ay e1) fun v s' ⟨hs,W',le,R',hv'⟩=> ?_
 obtain⟨p,a1,⟨q0,q1,es,n,vs,q2,r,q3⟩,_⟩:=R'.cell _ _ hc
 have r4:VL C W' [.lst L,.int (.ofNat 0),.opq,.opq] vs:=alI (Q:=fun fs=>VL C W' fs vs->VL C W' [.lst L,.int (.ofNat 0),.opq,.opq] vs) hL (fun x y r=>r.consE fun v1 r1 z1 r=>r.consE fun v2 r2 z2 r=>r.consE fun v3 r3 _ r=>r.consE fun v4 r4 _ r=>.cons z1 (.cons z2 (.cons trivial (.cons trivial r)))) r
 rw[aD z1]at q0 q1
 rw[z2]at q3
 exact⟨hs,W',le,R'.set hc a1 (fun _ _ _ e=>e) ⟨cR L 0,(O.rdr _ _).mpr ⟨xw,[],by rw[xl,HN,hV];exact h1,rfl,by rw[xl];exact h2,by rw[xl];rfl⟩,q0,q1,es,n,vs,q2,r4,q3⟩,hv'⟩
theorem aks{σ:AS}{x m:Nat}{b:Int}(hg:σ.get x=some (.lst [.int b]))(hm:0<m)(hs:bt m 1000=true):yR [.ref x,.int (.ofNat m)] σ=some (.int (b.fmod (am m)),σ.set x (.lst [.int (b.fdiv (am m))])):=by
 obtain⟨j,rfl⟩:=Nat.exists_eq_succ_of_ne_zero (oL hm)
 have h1:my (am (j+1))=true:=f8 (au (iZ (c9.mp hs)) (by decide +kernel))
 have hi:fP (.ref x) (.int 0) σ=some (.int b,σ):=ji (show abZ (.ref x) (.int 0) σ=some (.int b) from ji (show nC σ (.ref x)=some [.int b] from ji hg))
 have e1:bU .Mod (.int b) (.int (.ofNat (j+1))) σ=some (.int (b.fmod (am (j+1))),σ):=rfl
 have e2:bU .FloorDiv (.int b) (.int (.ofNat (j+1))) σ=some (.int (b.fdiv (am (j+1))),σ):=by
  show od (bif false|| !my (am (j+1))then none else _) _ _=_
  rw[h1];rfl
 have hset:KX (.int (b.fdiv (am (j+1)))) (.ref x) (.int 0) σ=some (σ.set x (.lst [.int (b.fdiv (am (j+1)))])):=ji hg
 show ob (yU [.ref x,.int (.ofNat (j+1))] σ) ik=_
 simp only[yU,df,fD,jD,be,kE,o9,fe,lX,ae,aX,b4,dW,hi,e1,dz,su,sv,putN,Qq,e2,hset,d7,dB,gu]
@[elab_as_elim] theorem apD {β:Type} {a:AV} {Q:AV->Prop} {f:Nat->Nat->Option β} {r:β} (h:drA a f=some r) (kk: ∀c m d vs,f m d=some r->Q (.frz c [m,d] vs)):Q a:=
 sY h fun c ks vs h=>kG (Q:=fun ks=>Q (.frz c ks vs)) h fun m l h=>kG (Q:=fun l=>Q (.frz c (m::l) vs)) h fun d l h=>kS h fun z h=>by rw[PK z];exact kk c m d vs h
theorem vT(O:qe C mac bx VB)(hF:aF C kF f yR):aF C kF f Bo:=uH hF fun args σ a ai e=>Kt e fun a1 b1 e=>ir e fun x e=>mi e fun m e=>FT e fun kk l hg e=>kS e fun q0 e=>by
 rw[aD q0]at hg
 revert hg
 refine kG (Q:=fun l=>σ.get x=some (.orc 0 l)->_) e fun t r e=> ?_
 refine apD (Q:=fun t=>σ.get x=some (.orc 0 (t::r))->_) e fun eM m' d vs e=> ?_
 refine fun hg=>kS e fun q e=>aE q fun q hs=> ?_
 apply s2 e
 rw[<- aD q]at hg
 refine⟨x,0,_,hg,fun c hc hlt=> ?_⟩
 obtain⟨hv,b,rfl,h3⟩:=(O.bag _ _).mp hc
 rw[show xb bx (.frz eM [m,d] vs::r)=m::d::xb bx r from congrArg (· ++xb bx r) (O.bx2 m d vs)]at h3
 obtain⟨hm,hd,hr⟩:=h3
 have hg1:(σ.set x (.lst [.int b])).get x=some (.lst [.int b]):=ej hg
 exact⟨(σ.set x (.lst [.int b])).set x (.lst [.int (b.fdiv (am m))]),.lst [.int (b.fdiv (am m))],0,r,(aks hg1 hm hs).trans (by rw[hd]),ej hg1,(O.bag _ _).mpr ⟨fun a h=>hv a (aQ _ h),_,rfl,hr⟩,ax _,
  Y9 hg fun b d z q=>by rw[tf z,tf z];exact q⟩
theorem aev(O:qe C mac bx VB){path:Int->List AV}(hp: ∀b,(∀a∈path b,VB a)/\cD (xb bx (path b)) b){F:aW}(hF:aF C kF f F):aF C kF f (afx path F):=fun A R W σ s args vs Re hv tk a ai e=>by
 revert hv
 refine UB e fun b e=> ?_
 refine ir e fun x e=>lstE e fun l hg e=> ?_
 revert hg
 refine UB e fun v e=> ?_
 refine lj e fun b e hg hv=> ?_
 exact hF A R W _ s [.ref x] vs (Re.abst hg ((O.bag _ _).mpr ⟨(hp b).1,b,rfl,(hp b).2⟩)) hv tk a ai e
end
noncomputable def tk(k w:ac)(c:Nat)(a:Bool):AV:=.frz UK [2,1,4,28] [.str k,.str w,.tup [.int 1,.int (am c)],.bool a]
noncomputable def aqn:List Nat:=[112,105,99,116,117,114,101]
noncomputable def wz(a:Bool)(c:Nat):List (List Nat×List Nat×Nat)->List AV
 |[]=>[]
 |(k,w,n)::r=>tk k w c a::wz false (c+n) r
noncomputable def wd(w:ac):List Nat×List Nat×Nat:=(uF,w,w.length+1)
noncomputable def nu(w:ac):List Nat×List Nat×Nat:=(pT,w,w.length+1)
noncomputable def KA:List Nat×List Nat×Nat:=(jk,[46],2)
noncomputable def nT(l:Nat):List Nat:=bif aj l 1 then[48,49]else bif aj l 5 then[48,53]else bif aj l 10 then[49,48]else[55,55]
noncomputable def RL(p:Nat):List (List Nat×List Nat×Nat):=(d8 (xR p) fun s=>some [wd [80,73,67],(aqn,s,s.length+1)]).getD []
noncomputable def RX(w:Nat):List (List Nat×List Nat×Nat):=bif aj w 1 then[wd [85,83,65,71,69],wd [73,83],wd [80,65,67,75,69,68,45,68,69,67,73,77,65,76]]else[]
noncomputable def RK(w:Nat):List (List Nat×List Nat×Nat):=bif aj w 2 then[wd [79,67,67,85,82,83],nu [51],wd [84,73,77,69,83],wd [68,69,83,67,69,78,68,73,78,71],wd [75,69,89],wd [73,83],wd [75],wd [73,78,68,69,88,69,68],wd [66,89],wd [73,88]]else bif aj w 3 then[wd [79,67,67,85,82,83],nu [48],wd [84,79],nu [52],wd [84,73,77,69,83],wd [68,69,80,69,78,68,73,78,71],wd [79,78],wd [78],wd [79,70],wd [71]]else[]
noncomputable def am1(lvl:Nat)(x:Nat×Nat×Nat)(a:Bool):List AV:=wz a (bif a then 8 else 12) (nu (nT lvl)::wd (nm x.1)::(RL x.2.2++(RX x.2.1++(RK x.2.1++[KA]))))
noncomputable def kn(lvl:Nat)(x:Nat×Nat×Nat):List AV:=am1 lvl x (bif aj lvl 1 then true else aj lvl 77)
noncomputable def fz(n:Nat):List AV:=wz false 12 [nu [56,56],wd ([73,83,45]++nm n),wd [86,65,76,85,69],(jk,[45],1),nu [53],wd [84,72,82,85],nu [49,46,50,53],(Ye,[113],4),KA]
noncomputable def gw(n l:Nat):List AV:=wz false 12 ([nu [54,54],wd (nm n),wd [82,69,78,65,77,69,83],wd (nm 16)]++((bif aj l 0 then[]else[wd [84,72,82,85],wd (nm 22)])++[KA]))
noncomputable def kI(t:ac)(a:Bool):Option (List AV):=bw (rC [.str t,.bool a] ⟨0,[]⟩) fun x σ=>ic x fun x=>np σ x some
noncomputable def uG(x:AV)(a:Bool):Option (List AV):=bw (Bx [x] ⟨0,[]⟩) fun t _=>d8 t fun t=>kI t a
noncomputable def vI(r n:Nat)(cells:List (Nat×bF))(x:Option (AV×AS)):Option (AV×AS):=bw x fun a ai=>sr ai 0 fun k' l'=>bif FP 0 (wB a ai)then none else imp (Xu r n (wB a ai)) (wB a ai) n (ls r (.orc k' l') cells) a ai
theorem t1(c k p:AV):uG (.frz cg fW (.int (am 10)::j6 (16,2,1) c k p .none)) false=some (kn 10 (16,2,1)):=by kernel_rfl
theorem t2(r n cells rest):vI r n cells (lD [.ref 0] ⟨1,[(0,.orc 1021 (kn 10 (16,2,1)++rest))]⟩)=some (.ref (n+2),⟨n+3,(n,.lst [])::(n+1,.lst [])::(n+2,.inst cg fW (.int (am 10)::j6 (16,2,1) (.ref n) (.ref (n+1)) .none .none))::ls r (.orc 1021 rest) cells⟩):=by kernel_rfl
section
open PySem.SeqAt
noncomputable section
noncomputable def zc(as:List aC)(h:bJ):dQ:=as.filterMap fun a=>(h.get? a).map (a,·)
noncomputable def Vj(K:dQ)(x:Str)(f:Option ah->Bool):Bool:=Hq (nsIn K 3 x) f
noncomputable def Fd(K:dQ)(x:Str)(v:ah):Bool:=Vj K x fun o=>decide (some v=o)
noncomputable def UY(K:dQ)(r:FR):Bool:=ZK K FN r.f r.n r.dfl r.nm r.N r.t&&(keepIn K (.ref r.f)&&bj (motive:=fun _=>Bool) true (fun x=>Fd K x (.ref r.f)) r.x)
noncomputable def Zs(K:dQ)(r:CR):Bool:=makesIn K r.c&&(decide (findIn K (.ref r.c) "__init__"=some (some (.ref r.i)))&&(decide (typeIn K (.ref r.i)=some (.type "function"))&&(keepIn K (.ref r.c)&&(Fd K r.x (.ref r.c)&&(cu FN.length).all fun i=>Sv r.c i||yZ K r.c ((Ah FN i).getD "")))))
noncomputable def mrB(K:dQ)(r:MR):Bool:=plainGet K r.c r.x&&(decide (findIn K (.ref r.c) r.x=some (some (.ref r.f)))&&(decide (typeIn K (.ref r.f)=some (.type "function"))&&keepIn K (.ref r.f)))
noncomputable def grB(K:dQ)(r:GR):Bool:=Vj K r.x fun o=>Hq o fun v=>kV K v r.a
noncomputable def Zg(K:dQ)(x:Str):Bool:=Vj K x (·.isNone)
noncomputable def I8(K:dQ)(x:Str):Bool:=Vj K x (·.isSome)
noncomputable def Za(K:dQ):Bool:=t5.all (UY K)&&(yY.all (Zs K)&&(Ks.all (mrB K)&&(OZ.all (grB K)&&(Uz.all (Zg K)&&(I8 K "show_expression" &&(I8 K "no_expression" &&(keepIn K (.ref 112)&&Fd K "GrammarFault" (.ref 112))))))))
structure rA(C:PC):Prop where
 ok:Za C.K=true
 nf:C.nf=FN.length
 fn: ∀i x,Ah FN i=some x->C.fname i=x
 cls: ∀r∈yY,C.cls r.c=true
 name: ∀l c,C.conc 1021 l c-> ∃vs,c= .inst 1021 [38,4,37,36] vs
 gf: ∀k,5<=k->aF C (k+1) (.ref 112) Wa
 un:ni C "USAGE_NAMES" Bv
 uw:ni C "USAGE_WORDS" tQ
 rs:ni C "RESERVED" lC
section
variable{C:PC}{k:Nat}
theorem CO{α:Type}{p:α->Bool}{l:List α}(h:l.all p=true){i:Nat}{r:α}(e:l[i]? =some r):p r=true:=bT.mp h r (a8 e)
theorem aam{l:List Str}: ∀{i:Nat},i<l.length-> ∃x,Ah l i=some x/\x∈l:=by
 induction l with
 |nil=>exact fun h=>absurd h (io _)
 |cons a l ih=>
  intro i h
  cases i with
  |zero=>exact⟨a,rfl,bb ..⟩
  |succ i=>exact(ih (m8 h)).imp fun x h=>⟨h.1,aQ _ h.2⟩
theorem aif{l:List Str}: ∀{i:Nat} {x:Str},Ah l i=some x->i<l.length:=by
 induction l with
 |nil=>exact fun e=>nn e
 |cons a l ih=>
  intro i x e
  cases i with
  |zero=>exact gY _
  |succ i=>exact Nat.succ_lt_succ (ih e)
theorem aie{x:Str}{r:Option ah}(e:nsIn C.K 3 x=some r):C.mg x=r:=by
 obtain⟨o,es,ep,h1,h2,h3,h4⟩:=C.g
 have h1:C.pc.get? 3=some o:=h1
 unfold nsIn at e
 split at e
 ·rename_i c d es' n sl ho
  have:=C.inK _ _ ho
  rw[h1]at this;cases this
  cases h2
  rw[<- h4]
  unfold nsFind findBy
  rw[<- Array.find?_toList]
  split at e
  ·rename_i en he;cases e;rw[he];rfl
  ·rename_i he
   rw[he]
   split at e
   ·cases e
   ·cases e;rfl
 ·cases e
theorem XR{x:Str}{f:Option ah->Bool}(h:Vj C.K x f=true){P:Prop}(kk: ∀o,C.mg x=o->f o=true->P):P:=L8 h fun o ho h=>kk o (aie ho) h
theorem I6{x:Str}{v:ah}(h:Fd C.K x v=true):C.mg x=some v:=XR h fun o ho h=>ho.trans (ag h).symm
section
variable(O:rA C)
include O
theorem rA.partE{P:Prop}(kk:t5.all (UY C.K)=true->yY.all (Zs C.K)=true->Ks.all (mrB C.K)=true->OZ.all (grB C.K)=true->Uz.all (Zg C.K)=true->I8 C.K "show_expression"=true->I8 C.K "no_expression"=true->keepIn C.K (.ref 112)=true->Fd C.K "GrammarFault" (.ref 112)=true->P):P:=
 aE O.ok fun h1 h=>aE h fun h2 h=>aE h fun h3 h=>aE h fun h4 h=>aE h fun h5 h=>aE h fun h6 h=>aE h fun h7 h=>aE h fun h8 h9=>kk h1 h2 h3 h4 h5 h6 h7 h8 h9
theorem rA.fno:R9 C FN:=fun i x e=>⟨by rw[O.nf];exact aif e,O.fn i x e⟩
theorem rA.gr{i:Nat}{x:Str}{a:AV}(e:OZ[i]? =some ⟨x,a⟩):ni C x a:=O.partE fun _ _ _ h _ _ _ _ _=>XR (CO h e) fun o ho h=>L8 h fun v hv h=>lT (ho.trans hv) fun W hW=>S3 hW h
omit O in
theorem ach{x:Str}(h:I8 C.K x=true):ni C x .opq:=XR h fun o ho h=>(eX.mp h).elim fun v hv=>lT (ho.trans hv) fun W hW=>trivial
end
structure Cl(C:PC)(x:Str)(fv:ah):Prop where
 g:ni C x (.glob fv)
 k:oQ C fv
theorem rA.show(O:rA C):ni C "show_expression" .opq:=O.partE fun _ _ _ _ _ h _ _ _=>ach h
theorem rA.noe(O:rA C):ni C "no_expression" .opq:=O.partE fun _ _ _ _ _ _ h _ _=>ach h
section
variable(O:rA C)
include O
theorem rA.bl{i:Nat}{x:Str}{v:ah}(e:Uz[i]? =some x)(hn:x≠ "__name__")(hv:bootBuiltins x=some v)(hk:oQ C v):Cl C x v:=O.partE fun _ _ _ _ h _ _ _ _=>XR (CO h e) fun o ho h=>⟨TB (ho.trans (dA.mp h)) hn hv,hk⟩
theorem rA.frE{i:Nat}{r:FR}(e:t5[i]? =some r){P:Prop}(kk:ZK C.K FN r.f r.n r.dfl r.nm r.N r.t=true->keepIn C.K (.ref r.f)=true->(∀x,r.x=some x->C.mg x=some (.ref r.f))->P):P:=O.partE fun h _ _ _ _ _ _ _ _=>aE (CO h e) fun h1 h=>aE h fun h2 h=>kk h1 h2 fun x hx=>by
 rw[hx]at h
 exact I6 h
theorem rA.cf{i:Nat}{r:FR}(e:t5[i]? =some r){x:Str}(hx:r.x=some x):Cl C x (.ref r.f):=O.frE e fun _ h2 h3=>⟨lT (h3 x hx) fun W _=>rfl,re h2⟩
theorem rA.cr{i:Nat}{r:CR}(e:yY[i]? =some r):Cl C r.x (.ref r.c)/\ ∀{F:aW},pQ C k (.ref r.i) F->aF C (k+1) (.ref r.c) (ui r.c F):=O.partE fun _ h _ _ _ _ _ _ _=>aE (CO h e) fun h1 h=>aE h fun h2 h=>aE h fun h3 h=>aE h fun h4 h=>aE h fun h5 h6=>
 ⟨⟨lT (I6 h5) fun W _=>rfl,re h4⟩,fun hF=>aew h1 (ag h2) (ag h3) (O.cls _ (a8 e)) hF⟩
theorem rA.gfc:Cl C "GrammarFault" (.ref 112):=O.partE fun _ _ _ _ _ _ _ h1 h2=>⟨lT (I6 h2) fun W _=>rfl,re h1⟩
end
def YX(C:PC)(l:List (Str×AV)):Prop:= ∀g x a,pS l g=some (x,a)->ni C x a
def Oe(C:PC)(k:Nat)(l:List (Str×aW)):Prop:= ∀f x F,pS l f=some (x,F)-> ∃fv kF,ni C x (.glob fv)/\oQ C fv/\aF C kF fv F/\kF<=k
def Y0(C:PC)(k:Nat)(l:List (Str×gM)):Prop:= ∀n x D,pS l n=some (x,D)-> ∃kF,dX C kF x D/\kF<=k
theorem g0:YX C []:=fun _ _ _ e=>nn e
theorem f0:Oe C k []:=fun _ _ _ e=>nn e
theorem m0:Y0 C k []:=fun _ _ _ e=>nn e
theorem Ho{α:Type}{p:Str×α}{l:List (Str×α)}{i:Nat}{x:Str}{a:α}{Q:Str->α->Prop}(e:pS (p::l) i=some (x,a))(h:Q p.1 p.2)(r: ∀i x a,pS l i=some (x,a)->Q x a):Q x a:=by
 cases i with
 |zero=>exact s2 (P:=Q) (a:=p.1) (b:=p.2) e h
 |succ i=>exact r i x a e
theorem g1{x:Str}{a:AV}{l:List (Str×AV)}(h:ni C x a)(r:YX C l):YX C ((x,a)::l):=fun _ _ _ e=>Ho (Q:=ni C) e h r
theorem f1{x:Str}{F:aW}{fv:ah}{kF:Nat}{l:List (Str×aW)}(c:Cl C x fv)(h:aF C kF fv F)(hk:kF<=k)(r:Oe C k l):Oe C k ((x,F)::l):=fun _ _ _ e=>Ho (Q:=fun x F=> ∃fv kF,ni C x (.glob fv)/\oQ C fv/\aF C kF fv F/\kF<=k) e ⟨fv,kF,c.g,c.k,h,hk⟩ r
theorem m1{x:Str}{D:gM}{kF:Nat}{l:List (Str×gM)}(h:dX C kF x D)(hk:kF<=k)(r:Y0 C k l):Y0 C k ((x,D)::l):=fun _ _ _ e=>Ho (Q:=fun x D=> ∃kF,dX C kF x D/\kF<=k) e ⟨kF,h,hk⟩ r
theorem anY(O:rA C){i:Nat}{r:FR}(e:t5[i]? =some r)(hk:5<=k){G:List (Str×AV)}{Fs:List (Str×aW)}{M:List (Str×gM)}(hN:cC.nms ⟨G,Fs,M⟩=r.N){Q:SM}(q:Q=b5 ⟨G,Fs,M⟩ r.t)(hG:YX C G)(hF:Oe C k Fs)(hM:Y0 C k M):
  pQ C (k+1) (.ref r.f) (bg r.n r.dfl Q):=by
 subst q
 exact O.frE e fun h _ _=>adw hk O.fno (Γ:=⟨G,Fs,M⟩) ⟨hG,hF,hM⟩ (hN▸h)
theorem adx(O:rA C){x:Str}(h:FN.all (fun y=>y !=x)=true): ∀i,i<C.nf->C.fname i≠x:=fun i hi=>by
 rw[O.nf]at hi
 obtain⟨y,e,m⟩:=aam hi
 rw[O.fn i y e]
 exact bne_iff_ne.mp (bT.mp h y m)
theorem rA.mrE(O:rA C){i:Nat}{r:MR}(e:Ks[i]? =some r){P:Prop}(kk:plainGet C.K r.c r.x=true->findIn C.K (.ref r.c) r.x=some (some (.ref r.f))->typeIn C.K (.ref r.f)=some (.type "function")->keepIn C.K (.ref r.f)=true->P):P:=
 O.partE fun _ _ h _ _ _ _ _ _=>aE (CO h e) fun h1 h=>aE h fun h2 h=>aE h fun h3 h4=>kk h1 (ag h2) (ag h3) h4
theorem rA.mr(O:rA C){i:Nat}{r:MR}(e:Ks[i]? =some r){j:Nat}{cr:CR}(ec:yY[j]? =some cr)(hc:cr.c=r.c)(hx:FN.all (fun y=>y !=r.x)=true){F:aW}{G:gM}(hF:aF C k (.ref r.f) F)(hG:dX C k r.x G):dX C k r.x (fc r.c F G):=
 O.mrE e fun h1 h2 h3 h4=>aet (hc▸O.cls _ (a8 ec)) (adx O hx) h1 h2 h3 h4 hF hG
theorem rA.mro(O:rA C){i:Nat}{r:MR}(e:Ks[i]? =some r)(hc:r.c=1021)(hx: ∀i∈[38,4,37,36],C.fname i≠r.x){F:aW}(hF:aF C k (.ref r.f) F):dX C k r.x (am7 r.c F):=fun W σ h a v F' R hv e'=>O.mrE e fun h1 h2 h3 h4=>by
 rw[hc]at h1 h2 e'
 revert hv
 refine ir e' fun y e'=>FT e' fun d l hgt e'=>kS e' fun z e'=> ?_
 apply s1 e'
 rw[<- aD z]at hgt
 rintro⟨p,q,rfl⟩
 obtain⟨p',ep,⟨cc,q1,q2⟩,_⟩:=R.cell _ _ hgt
 rw[q]at ep;cases ep
 obtain⟨vs0,rfl⟩:=O.name _ _ q1
 obtain⟨q0,q1,es,n,vs,q2,r',z⟩:=q2
 refine⟨.ref r.f,fun A s pl E Q hs hq=> ?_,re h4,hF⟩
 subst hs
 refine method_fn R.K (I:=(⟨R.im _ _ q1,rfl,rfl,q2⟩:InstAt s.heap p.1 (instObj 1021 p.2) 1021 (some (dictOf es n)))) (qx h1).1 (qx h1).2 h2 h3 ?_ hq
 show(lookIn r.x (dictOf es n)).map _=_
 rw[lookIn_dict,S6 (fun i hi _=>hx i hi) z];rfl
theorem pE{kF:Nat}{f:ah}{F F':aW}(hF:aF C kF f F)
  (H: ∀args σ a ai,F' args σ=some (a,ai)-> ∃r kk l,σ.get r=some (.orc kk l)/\((∃c,C.conc kk l c)->(∀b d,σ.get b=some d->b<σ.next)-> ∃bz,(∀c,C.conc kk l c->C.conc kk bz c)/\F args (σ.set r (.orc kk bz))=some (a,ai))):aF C kF f F':=fun A Rm W σ s args vs Re hv tk a ai e=>by
 obtain⟨r,kk,l,hr,h1⟩:=H args σ a ai e
 obtain⟨p,a1,⟨c,q1,q2⟩,_⟩:=Re.cell r _ hr
 obtain⟨bz,h1,e1⟩:=h1 ⟨c,q1⟩ fun b d hb=>Nat.lt_of_not_le fun q=>(Re.cell b _ hb).elim fun p h=>nn ((Re.fresh b q).symm.trans h.1)
 have hc:dU C W s.heap p (.orc kk bz):=⟨c,h1 c q1,q2⟩
 exact hF A Rm W _ s args vs (Re.set hr a1 (fun _ _ _ e=>e) hc) hv tk a ai e1
theorem aey{kF:Nat}{f:ah}{mac:List Nat->List AV}{bx:List Nat->List AV->List Nat}{VB:AV->Prop}(R:qe C mac bx VB){lab:List AV->List AV}(hl: ∀L c,lJ mac L c->lJ mac (lab L) c)(hF:aF C kF f oX):aF C kF f (mc lab):=pE hF fun args σ a ai e=>nZ e fun r as L hL e=>Ag e fun e=>
 ⟨r,1021,L,hL,fun _ _=>⟨lab L,fun c hc=>(R.rdr _ _).mpr (hl _ _ ((R.rdr _ _).mp hc)),e⟩⟩
end
end
end
section
open PySem.SeqAt
open Sem (wp)
noncomputable section
noncomputable def t6:List ah:=[.ref 75,.type "Exception",.type "BaseException",.type "object"]
section
variable{M:k8}{prog:fT}{w:dH}{A:bX}{E:ah->az->Prop}{h:bJ}{g:Array yz}{d:Drawn}{t:Nat}{os:kJ}
variable{nm q:Str}{N:aC}{bs:List ah}{hdct:Bool}{sn:List Str}{sub:List ah}{ab:Bool}{col:Option Bool}{dd:Option aC}{k0 k1 k2 k3 k5:Option ah}
theorem PB:(n9 112::t6).contains (.type "Exception")=true:=by decide +kernel
theorem RI{rest:List ah}{Q:Unit->az->Prop}(hC:h.get? 112=some (excClassObj nm q 112 N bs t6 hdct sn sub ab col dd k0 k1 k2 k3 k5 "Exception.__new__"))(hq:Q () ⟨h,g,d,t,os⟩):wpAny M A (checkBuiltinCall "Exception.__new__" ⟨.ref 112::rest,[]⟩) Q E ⟨h,g,d,t,os⟩:=by
 have F:=gq
 have hcont:=PB
 have hstar:=F.noStar
 simp only[checkBuiltinCall,F.newKind,F.newSplit,F.newRow]
 repeat (first|refine gH hC ?_|(refine kU hC ?_;rw[hcont])|refine wpAny_staticBase_exc hC ?_|refine Gv hC ?_|simp only[bne_self_eq_false,Bool.false_eq_true,if_false]|wp_step)
 exact hq
theorem alC{R:tF->az->Prop}{rest:List ah}(hC:h.get? 112=some (excClassObj nm q 112 N bs t6 hdct sn sub ab col dd k0 k1 k2 k3 k5 "Exception.__new__"))
  (hq:R (.ok (.ret (.ref (h.objs.size+1)))) ⟨(h.push {cls:=.type "tuple",data:=.seq rest.toArray}).push {cls:=.ref 112,data:=.fields #[.ref h.objs.size,.none,.none,.none,.bool false,.none]},g,d,t,os⟩)(hrest:rest.length<=sizeLine):
  codeAny (model prog w) A (.builtin "Exception.__new__" ⟨.ref 112::rest,[]⟩) R ⟨h,g,d,t,os⟩:=by
 have F:=gq
 have hends:=F.ends
 have hcB:=PB
 have hcA:(n9 112::t6).contains (.type "AttributeError")=false:=by decide +kernel
 have hcN:(n9 112::t6).contains (.type "NameError")=false:=by decide +kernel
 refine codeAny_builtinAt F.entry ?_
 unfold Builtin.«BaseException.__new__»
 refine HX ?_
 show PySem.wpAt _ _ _ (stack>>=_) _ _ _
 refine HX (PySem.wpAt_stack fun p below=>A7 ?_)
 wp_walk
 refine A7 ?_
 rw[F.owner]
 repeat (first|with_reducible refine wpAny_madeHere_exc F.canon hC ?_|with_reducible refine gH hC ?_|(with_reducible refine kU hC ?_;first|rw[hcB]|rw[hcA]|rw[hcN])|wp_step)
 show R _ _
 rw[pW]
 exact hq
theorem RJ{K:dQ}(X:K.In h)(hi:findIn K (.ref 112) "__init__"=some (some (.ref 65)))(hf:typeIn K (.ref 65)=some (.type "function")){rest:List ah}{Q:Fin->az->Prop}
  (hC:h.get? 112=some (excClassObj nm q 112 N bs t6 hdct sn sub ab col dd k0 k1 k2 k3 k5 "Exception.__new__"))
  (hq: ∀h' e,JZ h h' e (.ref 112) rest->wpAny (model prog w) A (call (.ref 65) (.ref e::rest)) (fun r s'=>r= .none/\Q (.done (.ret (.ref e))) s') E ⟨h',g,d,t,os⟩)(hrest:rest.length<=sizeLine):
  wpAny (model prog w) A (Builtin.«type.__call__» ⟨.ref 112::rest,[]⟩) Q E ⟨h,g,d,t,os⟩:=by
 have F:=gq
 repeat (first|with_reducible refine gH hC ?_|with_reducible refine Gv hC ?_|wp_step)
 refine codeAny_call_builtin_code (Bb _ F.quiet) (RI hC ?_)
 refine alC hC ?_ hrest
 show wpAny _ _ _ _ _ _
 have kk: ∀b o,h.get? b=some o->((h.push {cls:=.type "tuple",data:=.seq rest.toArray}).push {cls:=.ref 112,data:=.fields #[.ref h.objs.size,.none,.none,.none,.bool false,.none]}).get? b=some o:=fun b o e=>bC _ (bC _ e)
 have PE:=kk _ _ hC
 have amQ:K.In ((h.push {cls:=.type "tuple",data:=.seq rest.toArray}).push {cls:=.ref 112,data:=.fields #[.ref h.objs.size,.none,.none,.none,.bool false,.none]}):=fun a o e=>kk _ _ (X a o e)
 have hget:((h.push {cls:=.type "tuple",data:=.seq rest.toArray}).push {cls:=.ref 112,data:=.fields #[.ref h.objs.size,.none,.none,.none,.bool false,.none]}).get? (h.objs.size+1)=some {cls:=.ref 112,data:=.fields #[.ref h.objs.size,.none,.none,.none,.bool false,.none]}:=by heap_get
 have hcC:(n9 112::t6).contains (.ref 112)=true:=by decide +kernel
 unfold isInstance
 repeat (first|with_reducible refine gH hget ?_|(with_reducible refine kU PE ?_;rw[hcC])|wp_step)
 show wpAny _ _ (typeLookup (.ref 112) _) _ _ _
 refine(tJ amQ hi).here ?_
 refine dD (aq ?_)
 refine(bind_fn amQ _ hf).here ?_
 refine(aq (jr (hq _ (h.objs.size+1) ⟨fun b o hb=>kk b o hb,yA (cM _),h.objs.size,hget,yA (ax _),?_⟩) (fun r s' hr=> ?_) fun _ _ x=>x))
 ·exact bC _ (EI rfl rfl)
 ·obtain⟨rfl,hQ⟩:=hr
  wp_walk
  exact hQ
theorem ahj{K:dQ}(X:K.In h)(hi:findIn K (.ref 112) "__init__"=some (some (.ref 65)))(hf:typeIn K (.ref 65)=some (.type "function")){rest:List ah}{Q:ah->az->Prop}
  (hC:h.get? 112=some (excClassObj nm q 112 N bs t6 hdct sn sub ab col dd k0 k1 k2 k3 k5 "Exception.__new__"))
  (hq: ∀h' e,JZ h h' e (.ref 112) rest->wpAny (model prog w) (A.under (.builtin "type.__call__" ⟨.ref 112::rest,[]⟩)) (call (.ref 65) (.ref e::rest)) (fun r s'=>r= .none/\Q (.ref e) s') E ⟨h',g,d,t,os⟩)(hrest:rest.length<=sizeLine):
  wpAny (model prog w) A (call (.ref 112) rest) Q E ⟨h,g,d,t,os⟩:=by
 have f1:=tc_lookup
 have f2:=tc_bind (.ref 112)
 have hT:(⟨h,g,d,t,os⟩:az).TypeIs (.ref 112) "type":=⟨_,hC,rfl⟩
 refine oN (H0 ?_)
 show wpAny _ _ (callAny (.ref 112) _) _ _ _
 repeat (any_goals (first|assumption|with_reducible refine gH hC ?_|wp_step))
 refine⟨rfl,?_⟩
 refine codeAny_call_builtin_at (Bb _ (by decide +kernel)) entry_typeCall (wpAny_check_type_call_sub hC (RJ X hi hf hC (fun h' e hm=> ?_) hrest))
 exact hq h' e hm
end
end
end
section
open PySem.SeqAt
open Sem (wp)
noncomputable section
section
variable{M:k8}{prog:fT}{w:dH}{A:bX}{E:ah->az->Prop}{h:bJ}{g:Array yz}{d:Drawn}{t:Nat}{os:kJ}
variable{nm q:Str}{N:aC}{bs:List ah}{hdct:Bool}{sn:List Str}{sub:List ah}{ab:Bool}{col:Option Bool}{dd:Option aC}{k0 k1 k2 k3 k5:Option ah}
abbrev UZ(t0:aC)(dx:Option aC):Obj:={cls:=.ref 112,dict:=dx,data:=.fields #[.ref t0,.none,.none,.none,.bool false,.none]}
theorem PA{e:aC}{oe:Obj}{rest:List ah}{Q:Unit->az->Prop}(hC:h.get? 112=some (excClassObj nm q 112 N bs t6 hdct sn sub ab col dd k0 k1 k2 k3 k5 "Exception.__new__"))(he:h.get? e=some oe)(hcls:oe.cls= .ref 112)(hq:Q () ⟨h,g,d,t,os⟩):
  wpAny M A (checkBuiltinCall "Exception.__init__" ⟨.ref e::rest,[]⟩) Q E ⟨h,g,d,t,os⟩:=by
 have F:=gq
 have hcB:=PB
 have hshort:=F.noStar
 simp only[checkBuiltinCall,F.initKind,F.initSplit,F.initRow]
 repeat (first|(with_reducible refine gH he ?_;rw[hcls])|with_reducible refine gH hC ?_|(with_reducible refine kU hC ?_;rw[hcB])|wp_step)
 refine wpAny_onRaise ?_
 rw[show ∀(a b:String) (n:Nat),Bind.check ⟨.positional,"*","Exception",.self,[⟨"args",.varPos,false⟩]⟩ a b n (NX (fun x=>x.fst) ({pos:=n9 e::rest}:Args).kw)=pure () from
  fun a b n=>check_star_args _ _ _ _ _ _]
 exact aL hq
theorem ahl{e t0:aC}{v:ah}{Q:ah->az->Prop}(hC:h.get? 112=some (excClassObj nm q 112 N bs t6 hdct sn sub ab col dd k0 k1 k2 k3 k5 "Exception.__new__"))(he:h.get? e=some (UZ t0 none))
  (hq: ∀h',h'.get? e=some (UZ h.objs.size none)->(∀b o,b≠e->h.get? b=some o->h'.get? b=some o)->Q .none ⟨h',g,d,t,os⟩):
  wpAny (model prog w) A (call (.builtin "Exception.__init__") [.ref e,v]) Q E ⟨h,g,d,t,os⟩:=by
 have F:=gq
 refine oN (oM F.init.plain F.initEntry (PA hC he rfl ?_))
 unfold Builtin.«BaseException.__init__»
 dsimp only
 rw[if_neg (by simp)]
 unfold newTuple JX
 have ZT:=bC (h:=h) {cls:=.type "tuple",data:=.seq #[v]} he
 refine aq (gJ (aq (aq (wpAny_field ZT rfl rfl (aq (wpAny_setField ZT rfl (by show 0<6;decide) ?_))))) (by size_fits))
 refine wpAny_letGo (aL ?_)
 refine hq _ ?_ fun b o hb hbo=> ?_
 ·rw[jO _ ZT rfl];rfl
 ·rw[Heap.get?_update_other _ _ (tm hb)];exact bC _ hbo
end
end
end
section
open PySem.SeqAt
open Sem (wp)
open PySem.Builtin PySem.Builtin.ObjectAttr
noncomputable section
section
variable{M:k8}{prog:fT}{w:dH}{A:bX}{E:ah->az->Prop}{s:az}{K:dQ}{x:aC}{ox:Obj}{od:Option Obj}{cd:Lq}{name:Str}{tk:Tok}{v:ah}
theorem alB(hc:clsIn K 112=some cd)(hm:cd.mro= .ref 112::t6):mroIn K 112 (.type "object")=some true:=by
 unfold mroIn
 rw[hc,nN,hm]
 decide +kernel
theorem abT{R:tF->az->Prop}(X:K.In s.heap)(I:InstAt s.heap x ox 112 od)(hc:clsIn K 112=some cd)(hm:cd.mro= .ref 112::t6)(ht:takerIn K 112 name=some none)
  (h: ∀b,wpAny (model prog w) A.in1 (storeInOwnDict (.ref x) (.ref 112) (.str name tk) name v b) (fun fin s'=>match fin with| .done f=>R (.ok f) s'| .again c'=>c'.quiet=true/\codeAny (model prog w) A c' R s') (fun e s'=>R (.error e) s') s):
  codeAny (model prog w) A (.call (.builtin "object.__setattr__") ⟨[.ref x,.str name tk,v],[]⟩) R s:=by
 have SF:=PySem.F.store_object
 have sub:HT (model prog w) s.heap (isInstance (.ref x) (.type "object")) true:=I.type.andThen (looks_mroIn X (alB hc hm))
 refine oM SF.slot.plain SF.entry (@check_slot (model prog w) _ _ s "object.__setattr__" "object" "__setattr__" (.ref x) [.str name tk,v] [] _ SF.kind SF.split sub (SF.args (.ref x) (.str name tk) v) ?_)
 obtain⟨attr,ha,hr⟩:=Option.bind_eq_some_iff.mp ht
 have hmr:HT (model prog w) s.heap (mroOf (.ref 112)) cd.mro:=(wj X hc).andThen .now
 have L3:HT (model prog w) s.heap (storeTaker? attr) none:=by
  cases attr with
  |none=>exact .now
  |some a=>
   obtain⟨b,hb,e⟩:=g9.mp hr
   refine(looks_takesIn X hb).andThen ?_
   cases b with
   |true=>exact nn e.symm
   |false=>exact .now
 rw[osa_eq,refuse_eq]
 refine aq (aq (I.type.here (aq (hmr.here ?_))))
 rw[hm,t6,J6,J6,PySem.F.store_Exception.passes]
 refine aL (aq (I.type.here (aq ((tJ X ha).here (aq (L3.here ?_))))))
 exact h _
theorem abU{d:aC}{m:Str->Option ah}{ns:List Str}{Q:PySem.Fin->az->Prop}(hns:s.heap.Ns1 d m)(hw:Within m ns)(hz:ns.length<=100)
  (h: ∀h',h'.Ns1 d (fun y=>if y=name then some v else m y)->iY d s.heap h'->Q (.done (.ret .none)) {s with heap:=h',toks:=s.toks+1}):wpAny M A (storeInDict d (.str name tk) name v) Q E s:=by
 unfold storeInDict newKeyGuard
 refine aq (aL (aq (wpAny_nsSet1 hns fun h' hn' hs=> ?_)))
 obtain⟨oD,esD,epD,hoD,hdD,hcD⟩:=hn'.count (Rc name v hw)
 refine aq (Gu hoD (by rw[hdD];exact Gp (au hcD (by rw[bM,jA];omega))) ?_)
 exact aL (h h' hn' hs)
theorem ahm{t0:aC}{Q:Unit->az->Prop}(X:K.In s.heap)(he:s.heap.get? x=some (UZ t0 none))(hs:findIn K (.ref 112) "__setattr__"=some (some (.builtin "object.__setattr__")))(hc:clsIn K 112=some cd)(hm:cd.mro= .ref 112::t6)(hh:cd.hasDict=true)(ht:takerIn K 112 name=some none)
  (h: ∀h' d,d≠x->s.heap.get? d=none->h'.get? x=some (UZ t0 (some d))->h'.Ns1 d (fun y=>if y=name then some v else none)->(∀b o,b≠x->s.heap.get? b=some o->h'.get? b=some o)->Q () {s with heap:=h',toks:=s.toks+2}):wpAny (model prog w) A (setAttr (.ref x) name v) Q E s:=by
 have I:InstAt s.heap x (UZ t0 none) 112 none:=⟨he,rfl,rfl,trivial⟩
 refine Ls X I hs (abT (s:={s with toks:=s.toks+1}) X I hc hm ht fun b=> ?_)
 refine aq (aL (aq (aq (p7 he (aq (wj X hc _ _ _ _ (fun _ _ e=>e) ?_))))))
 rw[hh]
 have hxs:x≠s.heap.objs.size:=cj (cp he)
 have ahz:(s.heap.push {cls:=.type "dict",data:=.dict #[]}).get? x=some (UZ t0 none):=bC _ he
 show wpAny _ _ (do
  let d <- alloc {cls:=.type "dict",data:=.dict #[]}
  update x fun o=>{o with dict:=some d}
  dictMade (.ref 112) x d) _ _ _
 refine aq (wpAny_alloc' ?_)
 refine aq (wpAny_update' ahz ?_)
 refine aL ?_
 have hgd:((s.heap.push {cls:=.type "dict",data:=.dict #[]}).update x fun o=>{o with dict:=some s.heap.objs.size}).get? s.heap.objs.size=some {cls:=.type "dict",data:=.dict #[]}:=
  (A1 _ _ _ _ hxs.symm).trans (EI rfl rfl)
 have hnd:((s.heap.push {cls:=.type "dict",data:=.dict #[]}).update x fun o=>{o with dict:=some s.heap.objs.size}).Ns s.heap.objs.size (fun _=>none):=
  ⟨_,#[],_,hgd,rfl,fun e he=>absurd he (by simp),fun _=>rfl⟩
 refine aq (aL ?_)
 show wpAny _ _ (storeInDict s.heap.objs.size (.str name s.toks) name v) _ _ _
 refine abU (s:={s with heap:=(s.heap.push {cls:=.type "dict",data:=.dict #[]}).update x fun o=>{o with dict:=some s.heap.objs.size},toks:=s.toks+1}) (Heap.Ns1.of_empty hnd) Ua (aU _) fun h' hn' hs'=> ?_
 refine h h' s.heap.objs.size hxs.symm (tq _) ?_ hn' fun b o hb ho=> ?_
 ·exact(hs'.2 x hxs).trans (jO _ ahz rfl)
 ·exact(hs'.2 b (cj (cp ho))).trans ((A1 _ _ _ _ hb).trans (bC _ ho))
theorem ahn{t0 d:aC}{m:Str->Option ah}{ns:List Str}{Q:Unit->az->Prop}(X:K.In s.heap)(he:s.heap.get? x=some (UZ t0 (some d)))(hns:s.heap.Ns1 d m)(hw:Within m ns)(hz:ns.length<=100)(hs:findIn K (.ref 112) "__setattr__"=some (some (.builtin "object.__setattr__")))(hc:clsIn K 112=some cd)(hm:cd.mro= .ref 112::t6)(hh:cd.hasDict=true)(ht:takerIn K 112 name=some none)
  (h: ∀h',iY d s.heap h'->Q () {s with heap:=h',toks:=s.toks+2}):wpAny (model prog w) A (setAttr (.ref x) name v) Q E s:=by
 obtain⟨o,es,ep,ho,r⟩:=id hns
 have I:InstAt s.heap x (UZ t0 (some d)) 112 (some o):=⟨he,rfl,rfl,ho⟩
 refine Ls X I hs (abT (s:={s with toks:=s.toks+1}) X I hc hm ht fun b=> ?_)
 refine aq (aL (aq (aq (p7 he (aq (wj X hc _ _ _ _ (fun _ _ e=>e) ?_))))))
 rw[hh]
 refine aL (a:=some d) (aq (aL ?_))
 show wpAny _ _ (storeInDict d (.str name s.toks) name v) _ _ _
 exact abU (s:={s with toks:=s.toks+1}) hns hw hz fun h' _ hs'=>h h' hs'
end
end
end
section
open PySem.SeqAt
open Sem (wp)
noncomputable section
section
variable{C:PC}{X:FX}{k:Nat}{W W':Wd}{fr:Fm}{σ:AS}{s:az}{A:bX}{E:ah->az->Prop}{K:dQ}
theorem ahk{prog:fT}{w:dH}{pl:Sem Bool}{Q:ah×List ah->az->Prop}(X:K.In s.heap)(h:Q (.builtin "Exception.__init__",[]) {s with toks:=s.toks+1}):wpAny (model prog w) A (getMethod (.type "Exception") "__init__" pl) Q E s:=by
 have ht:typeOf (.type "Exception")=pure (.type "type"):=by kernel_rfl
 have hs:Manifest.isStub "Exception"=false:=by decide +kernel
 have e:findCls K (.type "Exception") (.type "type") "__init__"=some (.val (.builtin "Exception.__init__")):=by kernel_rfl
 have hh:handedIn (.builtin "Exception.__init__")=true:=by decide +kernel
 have hstub:opaqueClassAbove (.type "Exception")=pure none:=by unfold opaqueClassAbove;dsimp only;rw[hs];rfl
 have L0:HT (model prog w) s.heap (typeOf (.type "Exception")) (.type "type"):=rx ht
 have hg:findIn K (.type "type") "__getattribute__"=some (some (.builtin "type.__getattribute__")):=type_tga
 unfold getMethod specialOf
 refine aq (aq (L0.here ((tJ X hg).here ?_)))
 dsimp only
 rw[if_pos canon_tga]
 refine aq (jr (Q:=fun v=>Q (v,[])) (E:=E) ?_ (fun _ _ z=>aL z) fun _ _ z=>z)
 have LO:HT (model prog w) s.heap (opaqueClassAbove (.type "Exception")) none:=rx hstub
 exact cls_open X LO L0 hg (looks_hook X (r:=none) (by rfl)) (by show subIn K _ _=_;rfl) e
  (aL (by show wpAny _ _ (handedOut (.builtin "Exception.__init__")) _ _ _;rw[handedOut_of hh];exact aL h))
theorem adA{n:LM}{es:List an}{ap p p0:Pos}(O:u2 X)(hx:X.env.kindOf "Exception"=some .globalImplicit)(hg:ni X.C "Exception" (.glob (.type "Exception")))(hl:(ap.endLine==p.line)=true)(hfew:es.length<30)
  (hs:es.all (fun e=> !jb e)=true)(hn:z0 X k n es)(R:eI A k)(T:St X W fr σ s){l:List AV}(e:n fr σ=some (l,σ)){Q:ah->az->Prop}
  (h: ∀vs bn bf,W.le bf->St X bf fr σ bn->VL X.C bf l vs->wpAny (dC X.C) A (call (.builtin "Exception.__init__") vs) Q dp bn):wpAny (dC X.C) A (eval (.Call (.Attribute (.Name "Exception" p0) "__init__" ap) es [] p) X.env) Q dp s:=by
 show wpAny _ _ (do
  let ov <- attributeBase (.Name "Exception" p0) "__init__" X.env (eval (.Name "Exception" p0) X.env)
  standAt ap.atName
  methodCall (.Name "Exception" p0) "__init__" ap p X.env ov (es.length+([]:List tl).length) (backTo p (starEach es X.env)) (backToKw p (keywordEach [] X.env))) _ _ _
 have hm:bZ X k (a7 (.glob (.type "Exception"))) (.Name "Exception" p0):=Ys O hx (by decide) hg
 refine aq (lY rfl (hm.go R T rfl fun v bn bf bz br d6=>aq (du ?_)))
 obtain rfl:v= .type "Exception":=d6
 have hform:methodCallForm (es.length+([]:List tl).length) (backTo p (starEach es X.env)) (backToKw p (keywordEach [] X.env))=true:=by
  unfold methodCallForm
  have h1:(backTo p (starEach es X.env)).all (!·.1)=true:=by
   have:=qE (env:=X.env) (pos:=p) hs
   rw[bT];rw[EJ]at this
   intro y hy;simpa using this y hy
  rw[h1]
  have h2:(backToKw p (keywordEach [] X.env)).all (·.1.isSome)=true:=rfl
  rw[h2]
  simp;exact hfew
 unfold methodCall
 rw[hform]
 have hpos:methodCallPos true (.Name "Exception" p0) X.env ap p=pure p:=by unfold methodCallPos;simp[hl]
 refine aq (dD ?_)
 show wpAny _ _ (getMethod (.type "Exception") "__init__" _) _ _ _
 refine ahk br.rel.K ?_
 show wpAny _ _ (do let callPos <- methodCallPos true (.Name "Exception" p0) X.env ap p;callWith callPos (.builtin "Exception.__init__") [] (backTo p (starEach es X.env)) (backToKw p (keywordEach [] X.env))) _ _ _
 rw[hpos]
 refine aq (aL ?_)
 refine Fk (P:=X.C.K.In) (by rw[qE hs];rfl) fh ?_
 exact wx hs (hn.go R (br.toks (bn.toks+1) (cM _)) e p fun vs dP ct dJ cL jX=>⟨cL.rel.K,h vs dP ct (bz.trans dJ) cL jX⟩)
end
end
end
section
open PySem.SeqAt
noncomputable section
noncomputable def leB:List co:=[
 .Expr (.Call (.Attribute (.Name "Exception" ⟨20,8,20,17⟩) "__init__" ⟨20,8,20,26⟩) [.Name "self" ⟨20,27,20,31⟩,.Name "what" ⟨20,33,20,37⟩] [] ⟨20,8,20,38⟩) ⟨20,8,20,38⟩,
 .Assign [.Attribute (.Name "self" ⟨21,8,21,12⟩) "what" ⟨21,8,21,17⟩] (.Name "what" ⟨21,20,21,24⟩) ⟨21,8,21,24⟩,
 .Assign [.Attribute (.Name "self" ⟨22,8,22,12⟩) "at" ⟨22,8,22,15⟩] (.Name "at" ⟨22,18,22,20⟩) ⟨22,8,22,20⟩]
noncomputable def nmG:List (Nat×Str):=[(0,"self"),(1,"what"),(2,"at")]
noncomputable def amW(d:Bc)(f:Lq->Bool):Bool:=match d with
 | .cls cd=>f cd
 |_=>false
@[elab_as_elim] theorem anE {Q:Bc->Prop} {d:Bc} {f:Lq->Bool} (h:amW d f=true) (k: ∀cd,f cd=true->Q (.cls cd)):Q d:=by
 cases d<;>first|exact ff h|exact k _ h
noncomputable def gfC(o:Obj):Bool:=o.cls== .type "type" &&(amW o.data (fun cd=>decide (cd.mro= .ref 112::t6)&&(!cd.hasDel&&cd.hasDict))&&(o.slots.toList[4]? ==some (some (.builtin "Exception.__new__"))&&o.slots.toList.length==6))
noncomputable def gfF(K:dQ)(fd:gB):Bool:=UT K 3 [.tup [.int 0,.int 0]] nmG fd (fd.params.args.map (·.arg))&&fd.scope.names.lookup ("Exception":Str)==some .globalImplicit
noncomputable def gfB(K:dQ):Bool:=Hq (K.lookup 112) gfC&&(Hq (K.lookup 65) (fun o=>abG o.data (gfF K))&&(decide (findIn K (.ref 112) "__init__"=some (some (.ref 65)))&&(decide (typeIn K (.ref 65)=some (.type "function"))&&
 (decide (findIn K (.ref 112) "__setattr__"=some (some (.builtin "object.__setattr__")))&&(decide (takerIn K 112 "what"=some none)&&(decide (takerIn K 112 "at"=some none)&&Zg K "Exception"))))))
structure GfB(K:dQ):Prop where
 c1:Hq (K.lookup 112) gfC=true
 c2:Hq (K.lookup 65) (fun o=>abG o.data (gfF K))=true
 c3:decide (findIn K (.ref 112) "__init__"=some (some (.ref 65)))=true
 c4:decide (typeIn K (.ref 65)=some (.type "function"))=true
 c5:decide (findIn K (.ref 112) "__setattr__"=some (some (.builtin "object.__setattr__")))=true
 c6:decide (takerIn K 112 "what"=some none)=true
 c7:decide (takerIn K 112 "at"=some none)=true
 c8:Zg K "Exception"=true
theorem GfB.of{K:dQ}(h:gfB K=true):GfB K:=aE h fun c1 h=>aE h fun c2 h=>aE h fun c3 h=>aE h fun c4 h=>aE h fun c5 h=>aE h fun c6 h=>aE h fun c7 c8=>⟨c1,c2,c3,c4,c5,c6,c7,c8⟩
@[elab_as_elim] theorem S8 {α:Type} {P:List α->Prop} {l:List α} {n:Nat} (h:l.length=n+1) (k: ∀a t,t.length=n->P (a::t)):P l:=by
 cases l with
 |nil=>cases h
 |cons a t=>exact k a t (jS h)
theorem six{α:Type}{l:List α}{a:α}(h:l[4]? =some a)(hl:l.length=6): ∃b c d e f,l=[b,c,d,e,a,f]:=by
 revert h
 refine S8 hl fun b l h=>S8 h fun c l h=>S8 h fun d l h=>S8 h fun e l h=>S8 h fun x l h=>S8 h fun f l h h'=> ?_
 rw[mG.mp h]
 exact⟨b,c,d,e,f,by rw[aH (show some x=some a from h')]⟩
theorem ahh{o:Obj}(h:gfC o=true): ∃nm q N bs hdct sn sub ab col dd k0 k1 k2 k3 k5 cd,o=excClassObj nm q 112 N bs t6 hdct sn sub ab col dd k0 k1 k2 k3 k5 "Exception.__new__" /\o.data= .cls cd/\cd.mro= .ref 112::t6/\cd.hasDict=true:=by
 obtain⟨c,dd,dt,sl⟩:=o
 refine aE h fun h1 h=>aE h fun h2 h=>aE h fun h3 h4=> ?_
 have h1:c= .type "type":=beq_iff_eq.mp h1
 obtain⟨k0,k1,k2,k3,k5,hs⟩:=six (beq_iff_eq.mp h3) (beq_iff_eq.mp h4)
 have hsl:sl= #[k0,k1,k2,k3,some (.builtin "Exception.__new__"),k5]:=by
  obtain⟨l⟩:=sl
  exact congrArg pV hs
 clear h h3 h4 hs
 refine anE (d:=dt) (Q:=fun dt=> ∃nm q N bs hdct sn sub ab col dd' k0 k1 k2 k3 k5 cd,(⟨c,dd,dt,sl⟩:Obj)=excClassObj nm q 112 N bs t6 hdct sn sub ab col dd' k0 k1 k2 k3 k5 "Exception.__new__" /\dt= .cls cd/\cd.mro= .ref 112::t6/\cd.hasDict=true) h2 fun cd h2=>aE h2 fun m1 m=>aE m fun m2 m3=> ?_
 obtain⟨nm,bs,mro,ns,qn,hd,sn,sub,ab,col,del⟩:=cd
 have m1:mro= .ref 112::t6:=ag m1
 have m2:del=false:=pj m2
 refine⟨nm,qn,ns,bs,hd,sn,sub,ab,col,dd,k0,k1,k2,k3,k5,_,?_,rfl,m1,m3⟩
 rw[h1,hsl,m1,m2]
theorem SO{o:Obj}{P:Prop}(h:gfC o=true)(k: ∀nm q N bs hdct sn sub ab col dd k0 k1 k2 k3 k5 cd,o=excClassObj nm q 112 N bs t6 hdct sn sub ab col dd k0 k1 k2 k3 k5 "Exception.__new__" ->o.data= .cls cd->cd.mro= .ref 112::t6->cd.hasDict=true->P):P:=by
 obtain⟨nm,q,N,bs,hdct,sn,sub,ab,col,dd,k0,k1,k2,k3,k5,cd,a,b,c,d⟩:=ahh h
 exact k nm q N bs hdct sn sub ab col dd k0 k1 k2 k3 k5 cd a b c d
section
variable{C:PC}{X:FX}{k:Nat}{W W':Wd}{fr:Fm}{σ:AS}{s:az}{A:bX}
theorem hY.pin{I J:aC}{o:Obj}(L:hY X W σ J)(h:J≠I):hY X (W.pin I o) σ J:=⟨L.im,by rw[jx h];exact L.pr,L.cell,L.out⟩
theorem ahi{fd:gB}(hB:gfB X.C.K=true)(H:gS X ⟨fd.scope.names,nmG,true⟩)(hx:fd.scope.names.lookup ("Exception":Str)=some .globalImplicit)(R:eI A k){e t0:aC}{a b:AV}(T:St X W [.glob (.ref e),a,b] σ s)(L:hY X W σ e)(he:s.heap.get? e=some (UZ t0 none))(ha:bQ a=false)(hb:bQ b=false):
  wpAny (dC X.C) A (execs leB X.env) (fun fl s'=>fl= .next/\Sn X.nq s'/\ ∃W',W.le W'/\cv X.C W' σ s'.heap) dp s:=by
 have G:=GfB.of hB
 have O:=H.ok
 have at0:X.names 0=some "self":=by rw[H.nm];rfl
 have at1:X.names 1=some "what":=by rw[H.nm];rfl
 have at2:X.names 2=some "at":=by rw[H.nm];rfl
 have hxE:X.env.kindOf "Exception"=some .globalImplicit:=(H.kind _).trans hx
 have hg:ni X.C "Exception" (.glob (.type "Exception")):=XR G.c8 fun o ho h=>TB (ho.trans (dA.mp h)) (by decide) (by boot_by_name)
 refine L8 G.c1 fun o112 ho hc=> ?_
 refine SO hc fun nm q N bs hdct sn sub ab col dd k0 k1 k2 k3 k5 cd hobj hdat hmro hdic=> ?_
 have hcls:clsIn X.C.K 112=some cd:=by
  unfold clsIn
  rw[ho]
  obtain⟨c,d,dt,sl⟩:=o112
  obtain rfl:dt= .cls cd:=hdat
  rfl
 have sa:=ag G.c5
 have u0:bQ (.glob (.ref e))=false:=rfl
 have e0: ∀σ,al 0 [.glob (.ref e),a,b] σ=some (.glob (.ref e),σ):=fun _=>rfl
 have e1: ∀σ,al 1 [.glob (.ref e),a,b] σ=some (a,σ):=fun σ=>by
  show(bif bQ a then none else some (a,σ))=_
  rw[ha];rfl
 have e2: ∀σ,al 2 [.glob (.ref e),a,b] σ=some (b,σ):=fun σ=>by
  show(bif bQ b then none else some (b,σ))=_
  rw[hb];rfl
 unfold leB
 refine nP (J7 ?_ H.sto.inter (tr rfl))
 refine adA O hxE hg rfl (by decide) rfl (K7 rfl (uI O at0) (K7 rfl (uI O at1) Yt)) R (T.pin L he) (l:=[.glob (.ref e),a]) (by simp only[cq,ci,e0,e1,aX]) fun vs bn bf bz br d6=> ?_
 obtain⟨bz,afh,amZ,Sh⟩:=St.unpin bz L br
 have PE:=(br.rel.K _ _ ho)
 clear br
 rw[hobj]at PE
 obtain⟨w2,rfl⟩: ∃w2,vs=[.ref e,w2]:=by
  obtain⟨v,r,e1,e2,w,r',f1,f2,f3⟩:=d6
  exact⟨w,by rw[e1,f1,show v= .ref e from e2,show r'=[] from f3]⟩
 obtain⟨hp,g,d,tk,os⟩:=bn
 refine ahl PE amZ fun h' g2 k2=> ?_
 have T2:=St.but (s:=⟨hp,g,d,tk,os⟩) (h':=h') afh Sh k2 tk (ax _)
 clear afh amZ PE k2 d6
 refine nP (jf ?_ Di)
 refine(uI O at1:bZ X k (al 1) (.Name "what" ⟨21,20,21,24⟩)).go R (T2.pin Sh g2) (e1 σ) fun v dP ct dJ cL Mu=> ?_
 refine(uI O at0:bZ X k (al 0) (.Name "self" ⟨21,8,21,12⟩)).go R cL (e0 σ) fun ov jG xu gT i7 YK=> ?_
 obtain rfl:ov= .ref e:=YK
 have u3:=St.unpin (dJ.trans gT) Sh i7
 refine ahm i7.rel.K u3.2.2.1 sa hcls hmro hdic (ag G.c6) fun h' dx hd1 hd2 g4 n4 k4=> ?_
 obtain⟨f1,f2,f3⟩:=u3.2.1.rel.free hd2
 have L4:hY X _ σ dx:=⟨f1,f2,f3,fun hc=>by
  obtain⟨o,z⟩:=u3.2.1.fr.live _ hc
  rw[hd2]at z;exact nn z⟩
 have T4:=u3.2.1.but u3.2.2.2 k4 (jG.toks+2) (cU _ _)
 clear T2 cL i7 dJ gT f1 f2 f3
 obtain⟨oD,esD,epD,gD,rD⟩:=id n4
 refine nP (jf ?_ Di)
 refine(uI O at2:bZ X k (al 2) (.Name "at" ⟨22,18,22,20⟩)).go R ((T4.pin u3.2.2.2 g4).pin (L4.pin hd1) gD) (e2 σ) fun v sz WI XB xt ano=> ?_
 refine(uI O at0:bZ X k (al 0) (.Name "self" ⟨22,8,22,12⟩)).go R xt (e0 σ) fun ov aqr Iw PY LH akY=> ?_
 obtain rfl:ov= .ref e:=akY
 have u7:=St.unpin (XB.trans PY) (L4.pin hd1) LH
 have u8:=St.unpin u7.1 u3.2.2.2 u7.2.1
 refine ahn (d:=dx) LH.rel.K u8.2.2.1 ⟨oD,esD,epD,u7.2.2.1,rD⟩ (Rc _ _ Ua) (by decide) sa hcls hmro hdic (ag G.c7) fun h' hsb=> ?_
 have T9:=u8.2.1.but (I:=dx) (h':=h') ⟨u7.2.2.2.im,L4.pr,u7.2.2.2.cell,u7.2.2.2.out⟩ (fun b o hb ho=>(hsb.2 b hb).trans ho) (aqr.toks+2) (cU _ _)
 exact oO ⟨rfl,T9.sm,_,(bz.trans u3.1).trans u8.1,T9.rel⟩
end
end
end
section
open PySem.SeqAt
noncomputable section
section
variable{C:PC}
theorem akC{W:Wd}{a:AV}{v:ah}(h:V C W a v):bQ a=false:=by
 cases a<;>first|rfl|exact h.elim
theorem adB(hB:gfB C.K=true)(hbody: ∀o fd,C.K.lookup 65=some o->o.data= .func fd->fd.body= .stmts leB): ∀k,5<=k->aF C (k+1) (.ref 112) Wa:=fun k hk A Rm W σ s args vs R hv tk a ai e=>by
 obtain⟨k,rfl⟩: ∃j,k=j+1:=⟨k-1,by omega⟩
 revert hv
 refine Kt (l:=args) (Q:=fun args=>VL C W args vs->_) e fun a1 a2 e hv=> ?_
 apply s2 e
 obtain⟨v1,r,rfl,q1,v2,r',rfl,q2,f3⟩:=hv
 obtain rfl:r'=[]:=f3
 have G:=GfB.of hB
 refine L8 G.c1 fun o112 ho hc=> ?_
 refine SO hc fun nm q N bs hdct sn sub ab col dd k0 k1 k2 k3 k5 cd hobj _ _ _=> ?_
 have hC:=R.K _ _ ho
 rw[hobj]at hC
 refine L8 G.c2 fun o65 h65 hf65=> ?_
 obtain⟨fd,hd,hfd⟩: ∃fd,o65.data= .func fd/\gfF C.K fd=true:=afX (d:=o65.data) (Q:=fun d=> ∃fd,d= .func fd/\gfF C.K fd=true) hf65 fun fd h=>⟨fd,rfl,h⟩
 refine aE hfd fun g1 g2=> ?_
 obtain⟨hlen,F,H⟩:=ag3 h65 hd (hbody _ _ h65 hd) rfl g1
 obtain⟨hp,g,d,t,os⟩:=s
 refine ahj R.K (ag G.c3) (ag G.c4) hC (fun h' e m=> ?_) (by rw[jA];exact av rfl)
 obtain⟨mk,mn,t0,mt,-⟩:=m
 have R':cv C W σ h':=R.keeps mk
 refine oN (abQ F Rm.under (s:=⟨h',g,d,t,os⟩) (args:=[.glob (.ref e),a1,a2]) R' (VL.cons rfl (VL.cons q1 (VL.one q2))) tk (by rw[hlen];exact ax _) (by rw[hlen];exact av rfl) fun X B es Rm' bn keep hnew T=> ?_)
 have hCC:=B.C
 subst hCC
 rw[hlen]at T
 obtain⟨f1,f2,f3⟩:=R.free (s:=⟨hp,g,d,t,os⟩) mn
 refine eo (ahi hB (H X B) (beq_iff_eq.mp g2) Rm' (a:=a1) (b:=a2) T ⟨f1,f2,f3,fun hc=> ?_⟩ (keep _ _ mt) (akC q1) (akC q2)) fun fl dP P=> ?_
 ·have z:=hnew _ hc
  rw[show(⟨h',g,d,t,os⟩:az).heap.get? e=_ from mt]at z;exact nn z.symm
 ·obtain⟨rfl,hs,W',l,R''⟩:=P
  refine⟨rfl,?_,W',l,R'',trivial⟩
  exact Sm.trans ⟨h',t,rfl,ax _⟩ (es▸hs.2)
end
end
end
noncomputable def ahg(x:n8)(a:aC):Option Obj:=bif bt a x.n then alive ((x.tree.get a).getD default)else none
theorem acR(x:n8)(a:aC):x.abs.heap.get? a=ahg x a:=by
 unfold ahg
 cases z:bt a x.n with
 |false=>exact abs_get_none fun h=>by rw[c9.mpr h]at z;cases z
 |true=>
  have h:a<x.n:=c9.mp z
  show(absHeap x.tree x.n x.life).get? a=alive ((x.tree.get a).getD default)
  cases g:x.tree.get a with
  |some o=>exact abs_get h g
  |none=>
   unfold Heap.get?
   rw[absHeap_at,if_pos h,g];rfl
noncomputable def KF(as:List aC)(x:n8):dQ:=as.filterMap fun a=>(ahg x a).map (a,·)
theorem ZL(as:List aC)(x:n8):zc as x.abs.heap=KF as x:=by
 unfold zc KF
 exact congrArg (fun f=>as.filterMap f) (funext fun a=>by rw[acR])
theorem ag6(as:List aC)(h:bJ):Frag.In (zc as h) h:=by
 intro a o e
 have m:=dG e
 unfold zc at m
 obtain⟨b,_,hb⟩:=lu.mp m
 obtain⟨o',ho,e'⟩:=g9.mp hb
 cases e'
 exact ho
noncomputable def Zc:List aC:=[3,1021,1020,680,679,706,705,204,203,605,604,633,632,45,44,112,111,1,2,12,55,56,57,58,64,65,74,75,122,183,184,185,186,187,503,504,505,584,585,586,587,588,711,860,868,897,940,962,1072,1071,201,200,602,601,630,629,672,671,677,676,703,702,882,881,875,874,904,903,911,910,969,968,976,975,983,982,918,917,833,832,658,657,800,799,807,806,793,792,623,622,932,931,852,851,1018,1017,990,989,136,135,129,128,164,163,171,170,896,895,997,996,409,408,847,846,947,946,725,724,772,771,954,953,925,924,779,778,595,594,961,960,367,366,388,387,143,142,157,156,150,149,1004,1003,730,729,744,743,751,750,758,757,765,764,651,650,889,888,786,785,814,813,826,825,698,697,840,839,867,866,194,193,330,329,215,214,220,219,269,268,295,294,234,233,309,308,288,287,227,226,302,301,262,261,274,273,281,280,248,247,255,254,316,315,344,343,323,322,337,336,351,350,35,34,510,509,495,494,358,357,414,413,178,177,421,420,440,439,483,482,543,542,502,501,433,432,490,489,522,521,529,528,536,535,517,516,550,549,557,556,564,563,571,570,578,577,1077,1076,1032,1031,1046,1045,1053,1052,1060,1059,1065,1064,1039,1038,1082,1081]
noncomputable def UI(K:dQ)(a:aC):Option (List co):=(K.lookup a).bind fun o=>match o.data with
 | .func fd=>(match fd.body with
  | .stmts b=>some b
  |_=>none)
 |_=>none
noncomputable def abr(K:dQ):Bool:=(t5.take 56).all (UY K)
noncomputable def abt(K:dQ):Bool:=(t5.drop 56).all (UY K)&&(yY.all (Zs K)&&(Ks.all (mrB K)&&(OZ.all (grB K)&&(Uz.all (Zg K)&&(I8 K "show_expression" &&(I8 K "no_expression" &&(keepIn K (.ref 112)&&(Fd K "GrammarFault" (.ref 112)&&(gfB K&&((K.lookup sysModules).isSome&&(Fd K "USAGE_NAMES" (.ref 503)&&Fd K "USAGE_WORDS" (.ref 711))))))))))))
noncomputable def Sx(K:dQ):Bool:=abr K&&abt K
noncomputable def kY(K:dQ):=(K.lookup 503,K.lookup 711,nsIn K 3 "RESERVED",UI K 65)
noncomputable def t7(w:dH)(k v:Str)(t:Nat):hJ:=⟨hashStr w k,.str k t,.str v (t+1)⟩
noncomputable def unO(w:dH):Obj:={cls:=.type "dict",data:=.dict #[t7 w "display" "DISPLAY" 925,t7 w "binary" "BINARY" 927,t7 w "packed" "PACKED-DECIMAL" 929,t7 w "index" "INDEX" 931] 4}
noncomputable def uwO(w:dH):Obj:={cls:=.type "dict",data:=.dict #[t7 w "DISPLAY" "display" 1250,t7 w "COMP" "binary" 1252,t7 w "COMPUTATIONAL" "binary" 1254,t7 w "BINARY" "binary" 1256,t7 w "PACKED-DECIMAL" "packed" 1258,t7 w "COMP-3" "packed" 1260,t7 w "COMPUTATIONAL-3" "packed" 1262,t7 w "INDEX" "index" 1264] 8}
noncomputable def FY:Str:=lA " ACCEPT ACCESS ADD ADVANCING AFTER ALL ALPHABETIC ALPHABETIC-LOWER ALPHABETIC-UPPER ALPHANUMERIC ALPHANUMERIC-EDITED ALSO ALTERNATE AND ANY ARE AREA AREAS ASCENDING ASSIGN AT AUTHOR BEFORE BINARY BLANK BLOCK BY CALL CHARACTER CHARACTERS CLOSE COMP COMP-3 COMPUTATIONAL COMPUTATIONAL-3 COMPUTE CONFIGURATION CONTAINS CONTENT CONTINUE CONVERTING COPY CORR CORRESPONDING COUNT DATA DATE-COMPILED DATE-WRITTEN DELETE DELIMITED DELIMITER DEPENDING DESCENDING DISPLAY DIVIDE DIVISION DOWN DUPLICATES DYNAMIC ELSE END END-ADD END-CALL END-COMPUTE END-DELETE END-DIVIDE END-EVALUATE END-IF END-MULTIPLY END-PERFORM END-READ END-RETURN END-REWRITE END-SEARCH END-START END-STRING END-SUBTRACT END-UNSTRING END-WRITE ENVIRONMENT EQUAL ERROR EVALUATE EXCEPTION EXIT EXTEND EXTERNAL FALSE FD FILE FILE-CONTROL FILLER FIRST FOR FROM GIVING GLOBAL GO GREATER HIGH-VALUE HIGH-VALUES I-O I-O-CONTROL IDENTIFICATION IF IN INDEX INDEXED INITIAL INITIALIZE INPUT INPUT-OUTPUT INSPECT INSTALLATION INTO INVALID IS JUST JUSTIFIED KEY LABEL LEADING LEFT LESS LINE LINES LINKAGE LOCK LOW-VALUE LOW-VALUES MERGE MODE MOVE MULTIPLY NATIVE NEGATIVE NEXT NO NOT NUMERIC NUMERIC-EDITED OBJECT-COMPUTER OCCURS OF OFF OMITTED ON OPEN OPTIONAL OR ORDER ORGANIZATION OTHER OUTPUT OVERFLOW PACKED-DECIMAL PERFORM PIC PICTURE POINTER POSITIVE PROCEDURE PROCEED PROGRAM PROGRAM-ID QUOTE QUOTES RANDOM READ RECORD RECORDS REDEFINES REFERENCE RELATIVE RELEASE REMAINDER RENAMES REPLACE REPLACING RETURN REWRITE RIGHT ROUNDED RUN SAME SD SEARCH SECTION SECURITY SELECT SENTENCE SEPARATE SEQUENTIAL SET SIGN SIZE SORT SORT-MERGE SOURCE-COMPUTER SPACE SPACES SPECIAL-NAMES STANDARD START STATUS STOP STRING SUBTRACT SYNC SYNCHRONIZED TALLYING TEST THAN THEN THROUGH THRU TIMES TO TRAILING TRUE UNSTRING UNTIL UP UPON USAGE USING VALUE VALUES VARYING WHEN WITH WORKING-STORAGE WRITE ZERO ZEROES ZEROS "
noncomputable def kYa(w:dH):=(some (unO w),some (uwO w),some (some (gg FY 1445)),some leB)
structure amM(C:PC):Prop where
 read_entry: ∀{k f},aF C k f qC->aF C k f wl
 is_level_here: ∀{k f},aF C k f jT->aF C k f p8
 read_entries: ∀{k f},aF C k f nz->aF C k f nt
 law_item: ∀{k f},aF C k f yP->aF C k f Bp
 law_leaf: ∀{k f},aF C k f yQ->aF C k f Bq
 law_root: ∀{k f},aF C k f sU->aF C k f Br
def Zz(C:PC)(mac:List Nat->List AV):Prop:=rA C/\amM C/\qe C mac bx VB
section
variable{C:PC}{mac:List Nat->List AV}(Z:Zz C mac){lab:List AV->List AV}{k kF:Nat}{x:Str}
include Z
theorem fC(i:Nat)(r:FR){F:aW}{l:List (Str×aW)}(h:aF C kF (.ref r.f) F)(t:Oe C k l)(e:t5[i]? =some r:=by rfl)(hx:r.x=some x:=by rfl)(hk:kF<=k:=by first|decide|omega):Oe C k ((x,F)::l):=f1 (Z.1.cf e hx) h hk t
omit Z in theorem fB {F:aW} {l:List (Str×aW)} {fv:ah} (c:Cl C x fv) (h:aF C 0 fv F) (t:Oe C k l):Oe C k ((x,F)::l):=f1 c h (aU _) t
omit Z in theorem fK {F:aW} {l:List (Str×aW)} {fv:ah} (c:Cl C x fv) (h:aF C kF fv F) (t:Oe C k l) (hk:kF<=k:=by first|decide|omega):Oe C k ((x,F)::l):=f1 c h hk t
omit Z in theorem mC {D:gM} {l:List (Str×gM)} (h:dX C kF x D) (t:Y0 C k l) (hk:kF<=k:=by first|decide|omega):Y0 C k ((x,D)::l):=m1 h hk t
theorem gC(i:Nat){a:AV}{l:List (Str×AV)}(t:YX C l)(e:OZ[i]? =some ⟨x,a⟩:=by rfl):YX C ((x,a)::l):=g1 (Z.1.gr e) t
theorem cV(i:Nat)(r:FR)(Γ:cC){Q:SM}(hG:YX C Γ.glb)(hF:Oe C k Γ.fns)(hM:Y0 C k Γ.mts)(e:t5[i]? =some r:=by rfl)(hk:5<=k:=by first|decide|omega)(hN:Γ.nms=r.N:=by rfl)(q:Q=b5 Γ r.t:=by kernel_rfl):pQ C (k+1) (.ref r.f) (bg r.n r.dfl Q):=anY Z.1 e hk hN q hG hF hM
theorem jB:Cl C "len" (.builtin "len"):=Z.1.bl (i:=0) rfl (by decide) (by boot_by_name) fh
theorem Iz:Cl C "range" (.type "range"):=Z.1.bl (i:=1) rfl (by decide) (by boot_by_name) mq
theorem Zd:Cl C "str" (.type "str"):=Z.1.bl (i:=2) rfl (by decide) (by boot_by_name) mq
theorem xy:Cl C "tuple" (.type "tuple"):=Z.1.bl (i:=3) rfl (by decide) (by boot_by_name) mq
theorem ak8:Cl C "list" (.type "list"):=Z.1.bl (i:=4) rfl (by decide) (by boot_by_name) mq
theorem afs:Cl C "abs" (.builtin "abs"):=Z.1.bl (i:=5) rfl (by decide) (by boot_by_name) fh
theorem afu:Cl C "chr" (.builtin "chr"):=Z.1.bl (i:=6) rfl (by decide) (by boot_by_name) fh
theorem afv:Cl C "ord" (.builtin "ord"):=Z.1.bl (i:=7) rfl (by decide) (by boot_by_name) fh
theorem acU:Cl C "sorted" (.builtin "sorted"):=Z.1.bl (i:=8) rfl (by decide) (by boot_by_name) fh
theorem anz:Cl C "int" (.type "int"):=Z.1.bl (i:=9) rfl (by decide) (by boot_by_name) mq
theorem aft:Cl C "bytes" (.type "bytes"):=Z.1.bl (i:=10) rfl (by decide) (by boot_by_name) mq
theorem anA:Cl C "min" (.builtin "min"):=Z.1.bl (i:=11) rfl (by decide) (by boot_by_name) fh
theorem Ca: ∀n,aF C (5+n) (.ref 1072) (bv n)
 |0=>KZ
 |n+1=>by
  have ih:=Ca n
  exact(jc (cV Z (k:=5+n) 0 pq (Nn (bv n)) g0 (fC Z 0 pq ih (fB (jB Z) eH f0)) m0).snd)
theorem Rs:aF C 6 (.ref 201) qB:=(cV Z 1 FW QX g0 f0 m0).snd
theorem BV:aF C 6 (.ref 602) i5:=(cV Z 2 CT Nj g0 f0 m0).snd
theorem FB:aF C 6 (.ref 630) fg:=(cV Z 3 FV QW g0 f0 m0).snd
theorem MW:aF C 7 (.ref 672) jl:=(cV Z 4 Aj Lh g0 f0 (mC (Z.1.mr (k:=6) (i:=1) (j:=2) rfl rfl rfl (by decide +kernel) (aF.le (k':=6) (BV Z) (by decide)) dk) m0)).snd
theorem YS:dX C 7 "clauses" yL:=(Z.1.mr (k:=7) (i:=4) (j:=4) rfl rfl rfl (by decide +kernel) (aF.le (k':=7) (MW Z) (by decide)) dk)
theorem yW: ∀n,aF C (7+n) (.ref 677) (bA n)
 |0=>KZ
 |n+1=>by
  have ih:=yW n
  exact(jc (cV Z (k:=7+n) 5 Je (RZ (bA n)) g0 (fB (xy Z) ow f0) (mC (Z.1.mr (k:=(7+n)) (i:=2) (j:=3) rfl rfl rfl (by decide +kernel) (aF.le (k':=(7+n)) (FB Z) (by omega)) (Z.1.mr (k:=(7+n)) (i:=5) (j:=4) rfl rfl rfl (by decide +kernel) (aF.le (k':=(7+n)) ih (by omega)) dk)) (mC (YS Z) m0))).snd)
theorem Ur:aF C 14 (.ref 703) sT:=(jc (cV Z 6 Jd RY g0 (fB (xy Z) ow f0) (mC (Z.1.mr (k:=13) (i:=5) (j:=4) rfl rfl rfl (by decide +kernel) (aF.le (k':=13) (yW Z 6) (by decide)) dk) m0)).snd)
theorem ak1:dX C 14 "told" qy:=(Z.1.mr (k:=14) (i:=0) (j:=1) rfl rfl rfl (by decide +kernel) (aF.le (k':=14) (Rs Z) (by decide)) (Z.1.mr (k:=14) (i:=1) (j:=2) rfl rfl rfl (by decide +kernel) (aF.le (k':=14) (BV Z) (by decide)) (Z.1.mr (k:=14) (i:=2) (j:=3) rfl rfl rfl (by decide +kernel) (aF.le (k':=14) (FB Z) (by decide)) (Z.1.mr (k:=14) (i:=5) (j:=4) rfl rfl rfl (by decide +kernel) (aF.le (k':=14) (yW Z 6) (by decide)) (Z.1.mr (k:=14) (i:=6) (j:=5) rfl rfl rfl (by decide +kernel) (aF.le (k':=14) (Ur Z) (by decide)) dk)))))
theorem vy:aF C 6 (.ref 882) lb:=(cV Z 7 vO HG g0 (fB (jB Z) eH f0) m0).snd
theorem amL:dX C 6 "is_done" We:=(Z.1.mr (k:=6) (i:=8) (j:=6) rfl rfl rfl (by decide +kernel) (aF.le (k':=6) (vy Z) (by decide)) dk)
theorem Oc:dX C 6 "is_done" qa:=(Z.1.mr (k:=6) (i:=8) (j:=6) rfl rfl rfl (by decide +kernel) (Qv Z.2.2 (vy Z)) dk)
theorem BW:aF C 6 (.ref 875) hZ:=(cV Z 8 CW Nk g0 (fB (jB Z) eH f0) m0).snd
theorem w0:dX C 6 "peek" gm:=(Z.1.mr (k:=6) (i:=7) (j:=6) rfl rfl rfl (by decide +kernel) (aF.le (k':=6) (BW Z) (by decide)) dk)
theorem Uc:dX C 6 "peek" yO:=(Z.1.mr (k:=6) (i:=7) (j:=6) rfl rfl rfl (by decide +kernel) (Yn Z.2.2 (BW Z)) dk)
theorem vz:aF C 7 (.ref 904) ip:=(cV Z 9 vP HH g0 f0 (mC (w0 Z) m0)).snd
theorem vj:dX C 7 "is_kind" fb:=(Z.1.mr (k:=7) (i:=11) (j:=6) rfl rfl rfl (by decide +kernel) (aF.le (k':=7) (vz Z) (by decide)) dk)
theorem yG:dX C 7 "is_kind" tR:=(Z.1.mr (k:=7) (i:=11) (j:=6) rfl rfl rfl (by decide +kernel) (Qw Z.2.2 (vz Z)) dk)
theorem vB:aF C 8 (.ref 911) jt:=(cV Z 10 vS uQ g0 f0 (mC (rm (k:=0)) (mC (w0 Z) (mC (vj Z) m0)))).snd
theorem V6:dX C 8 "is_word" qX:=(Z.1.mr (k:=8) (i:=12) (j:=6) rfl rfl rfl (by decide +kernel) (aF.le (k':=8) (vB Z) (by decide)) dk)
theorem Od:dX C 8 "is_word" Gz:=(Z.1.mr (k:=8) (i:=12) (j:=6) rfl rfl rfl (by decide +kernel) (Qy Z.2.2 (vB Z)) dk)
theorem vA:aF C 8 (.ref 969) js:=(cV Z 11 vR HJ g0 f0 (mC (w0 Z) (mC (vj Z) m0))).snd
theorem V5:dX C 8 "is_sign" vn:=(Z.1.mr (k:=8) (i:=19) (j:=6) rfl rfl rfl (by decide +kernel) (aF.le (k':=8) (vA Z) (by decide)) dk)
theorem tN:dX C 8 "is_sign" qb:=(Z.1.mr (k:=8) (i:=19) (j:=6) rfl rfl rfl (by decide +kernel) (Qx Z.2.2 (vA Z)) dk)
theorem sj:aF C 9 (.ref 976) jJ:=(cV Z 12 sy DE g0 f0 (mC (V5 Z) m0)).snd
theorem akZ:dX C 9 "skip_sign" Rd:=(Z.1.mr (k:=9) (i:=20) (j:=6) rfl rfl rfl (by decide +kernel) (aF.le (k':=9) (sj Z) (by decide)) dk)
theorem yJ:dX C 9 "skip_sign" sR:=(Z.1.mr (k:=9) (i:=20) (j:=6) rfl rfl rfl (by decide +kernel) (K0 Z.2.2 (sj Z)) dk)
theorem Fa:aF C 10 (.ref 983) sh:=(cV Z 13 sx rq g0 f0 (mC (yJ Z) m0)).snd
theorem H9:dX C 10 "need_sign" yN:=(Z.1.mr (k:=10) (i:=21) (j:=6) rfl rfl rfl (by decide +kernel) (aF.le (k':=10) (Fa Z) (by decide)) dk)
theorem BX:aF C 9 (.ref 918) oV:=(cV Z 14 CX Nl g0 (fB (jB Z) eH f0) (mC (rm (k:=0)) (mC (V6 Z) m0))).snd
theorem apr:dX C 9 "skip" afe:=(Z.1.mr (k:=9) (i:=13) (j:=6) rfl rfl rfl (by decide +kernel) (aF.le (k':=9) (BX Z) (by decide)) dk)
theorem yI:dX C 9 "skip" vo:=(Z.1.mr (k:=9) (i:=13) (j:=6) rfl rfl rfl (by decide +kernel) (Yo Z.2.2 (BX Z)) dk)
theorem M9:aF C 11 (.ref 833) zZ:=(cV Z 15 r0 yv g0 f0 (mC (H9 Z) (mC (yI Z) m0))).snd
theorem Wu:aF C 6 (.ref 658) Lx:=(cV Z 16 Ma JK g0 f0 (mC (fA (k:=0)) m0)).snd
theorem Ub:dX C 6 "add" yK:=(Z.1.mr (k:=6) (i:=3) (j:=4) rfl rfl rfl (by decide +kernel) (aF.le (k':=6) (Wu Z) (by decide)) dk)
theorem ON:aF C 7 (.ref 800) BG:=(cV Z 17 uv AR (gC Z 20 (gC Z 17 g0)) (fB (jB Z) eH f0) (mC (fA (k:=0)) (mC (Ub Z) (mC (aeu (k:=0)) m0)))).snd
theorem acP:aF C 8 (.ref 807) Sk:=(cV Z 18 KU QZ (gC Z 16 (gC Z 17 (gC Z 15 g0))) (fB (jB Z) eH (fC Z 17 uv (ON Z) f0)) (mC (Ub Z) (mC (fA (k:=0)) m0))).snd
theorem Ko:aF C 7 (.ref 793) jT:=(cV Z 19 qp JO g0 f0 (mC (Uc Z) m0)).snd
theorem IB:pQ C 6 (.ref 623) (bg lq.n lq.dfl vv):=cV Z 20 lq uO g0 (fB (xy Z) ow f0) m0
theorem OF:aF C 7 (.ref 633) xg:=(mz ((Z.1.cr (i:=3) rfl).2 (IB Z)))
theorem Kl:aF C 10 (.ref 932) xi:=(cV Z 21 xU wg g0 f0 (mC (rm (k:=0)) (mC (yI Z) m0))).snd
theorem w6:dX C 10 "one_of" tn:=(Z.1.mr (k:=10) (i:=15) (j:=6) rfl rfl rfl (by decide +kernel) (aF.le (k':=10) (Kl Z) (by decide)) dk)
theorem Iu:aF C 6 (.ref 852) iq:=(cV Z 22 pz uT (gC Z 21 g0) (fB (aft Z) Yk (fB (afv Z) Tz f0)) m0).snd
theorem xr:aF C 8 (.ref 1018) mf:=(cV Z 23 xT JL g0 (fC Z 22 pz (zw (Iu Z)) f0) (mC (w0 Z) (mC (vj Z) m0))).snd
theorem anp:dX C 8 "octets" YZ:=(Z.1.mr (k:=8) (i:=25) (j:=6) rfl rfl rfl (by decide +kernel) (aF.le (k':=8) (xr Z) (by decide)) dk)
theorem acG:dX C 8 "octets" Si:=(Z.1.mr (k:=8) (i:=25) (j:=6) rfl rfl rfl (by decide +kernel) (RP Z.2.2 (xr Z)) dk)
theorem E9:aF C 9 (.ref 990) sg:=(cV Z 24 sw rp g0 f0 (mC (yG Z) (mC (tN Z) m0))).snd
theorem H7:dX C 9 "is_number" yM:=(Z.1.mr (k:=9) (i:=22) (j:=6) rfl rfl rfl (by decide +kernel) (aF.le (k':=9) (E9 Z) (by decide)) dk)
theorem Y8:aF C 6 (.ref 136) On:=(cV Z 25 Hu Mx g0 f0 m0).snd
theorem Y6:aF C 6 (.ref 129) Ol:=(cV Z 26 Hs Mv g0 f0 m0).snd
theorem WF:aF C 6 (.ref 164) LG:=(cV Z 27 Db JW (gC Z 0 g0) f0 (mC (Md (k:=0)) m0)).snd
theorem Aa:aF C 7 (.ref 171) iz:=(cV Z 28 nF yn (gC Z 0 g0) (fC Z 26 Hs (Y6 Z) (fB (jB Z) eH (fC Z 27 Db (WF Z) (fB (Iz Z) vU f0)))) (mC (Md (k:=0)) m0)).snd
theorem BZ:aF C 7 (.ref 896) oW:=(cV Z 29 CY Nm g0 f0 (mC (w0 Z) m0)).snd
theorem aps:dX C 7 "take" aff:=(Z.1.mr (k:=7) (i:=10) (j:=6) rfl rfl rfl (by decide +kernel) (aF.le (k':=7) (BZ Z) (by decide)) dk)
theorem Ia:dX C 7 "take" Ec:=(Z.1.mr (k:=7) (i:=10) (j:=6) rfl rfl rfl (by decide +kernel) (Yp Z.2.2 (BZ Z)) dk)
theorem Km:aF C 10 (.ref 997) xj:=(cV Z 30 xV wh g0 (fC Z 25 Hu (Y8 Z) (fC Z 28 nF (Aa Z) f0)) (mC (Ia Z) (mC (yJ Z) (mC (H7 Z) m0)))).snd
theorem acH:dX C 10 "signed" Sj:=(Z.1.mr (k:=10) (i:=23) (j:=6) rfl rfl rfl (by decide +kernel) (aF.le (k':=10) (Km Z) (by decide)) dk)
theorem M4:aF C 11 (.ref 409) zU:=(cV Z 31 rV yq g0 f0 (mC (yG Z) (mC (acG Z) (mC (H7 Z) (mC (acH Z) m0))))).snd
theorem OK:aF C 6 (.ref 847) BD:=(cV Z 32 uq AO (g1 Z.1.rs g0) f0 m0).snd
theorem Iq:aF C 8 (.ref 947) vq:=(cV Z 33 vQ uP g0 (fC Z 32 uq (OK Z) f0) (mC (Uc Z) (mC (yG Z) m0))).snd
theorem yH:dX C 8 "is_name" tS:=(Z.1.mr (k:=8) (i:=16) (j:=6) rfl rfl rfl (by decide +kernel) (aF.le (k':=8) (Iq Z) (by decide)) dk)
theorem M3:aF C 12 (.ref 725) zT:=(cV Z 34 rU yp (g1 Z.1.noe g0) (fC Z 31 rV (M4 Z) f0) (mC (yH Z) m0)).snd
theorem OP:aF C 13 (.ref 772) BP:=(cV Z 35 uy AW g0 (fC Z 34 rU (M3 Z) f0) (mC (tN Z) (mC (fA (k:=0)) (mC (w6 Z) m0)))).snd
theorem OG:aF C 9 (.ref 954) Bz:=(cV Z 36 CU AK g0 f0 (mC (Ia Z) (mC (yH Z) m0))).snd
theorem H8:dX C 9 "name" Eb:=Z.1.mro (i:=17) (r:=⟨1021,"name",954⟩) rfl rfl (fun i hi=>by simp only[aG,bc,or_false]at hi;rcases hi with rfl|rfl|rfl|rfl<;>(rw[Z.1.fn _ _ rfl];decide)) (OG Z)
theorem OH:aF C 10 (.ref 925) BA:=(cV Z 37 CV AL g0 f0 (mC (yI Z) m0)).snd
theorem ak0:dX C 10 "need" abj:=(Z.1.mr (k:=10) (i:=14) (j:=6) rfl rfl rfl (by decide +kernel) (aF.le (k':=10) (OH Z) (by decide)) dk)
theorem M5:aF C 11 (.ref 779) zV:=(cV Z 38 rW yr g0 f0 (mC (w6 Z) (mC (H8 Z) (mC (ak0 Z) m0)))).snd
theorem G4:pQ C 6 (.ref 595) (bg kq.n kq.dfl tY):=cV Z 39 kq sF g0 (fB (xy Z) ow f0) m0
theorem Sp:aF C 7 (.ref 605) Kf:=(mz ((Z.1.cr (i:=2) rfl).2 (G4 Z)))
theorem MX:aF C 10 (.ref 961) zN:=(cV Z 40 Al yf g0 f0 (mC (yH Z) (mC (H8 Z) m0))).snd
theorem ae9:dX C 10 "names" Wf:=(Z.1.mr (k:=10) (i:=18) (j:=6) rfl rfl rfl (by decide +kernel) (aF.le (k':=10) (MX Z) (by decide)) dk)
theorem M0:aF C 9 (.ref 367) zQ:=(cV Z 41 rR yi g0 f0 (mC (tN Z) m0)).snd
theorem Wy:aF C 11 (.ref 388) Ly:=(cV Z 42 C5 JQ g0 (fB (xy Z) ow (fC Z 41 rR (M0 Z) f0)) (mC (tN Z) (mC (w6 Z) (mC (fA (k:=0)) (mC (H8 Z) m0))))).snd
theorem WB:aF C 6 (.ref 143) LB:=(cV Z 43 C8 JT g0 f0 m0).snd
theorem WC:aF C 7 (.ref 157) oc:=(cV Z 44 C9 JU g0 (fC Z 43 C8 (WB Z) f0) m0).snd
theorem Wx:aF C 6 (.ref 150) lE:=(cV Z 45 C0 JP g0 f0 m0).snd
theorem z6:aF C 8 (.ref 1004) nw:=(cV Z 46 Am Lj g0 (fC Z 44 C9 (zw (WC Z)) (fC Z 45 C0 (zw (Wx Z)) (fC Z 28 nF (zw (Aa Z)) f0))) (mC (w0 Z) (mC (vj Z) m0))).snd
theorem apo:dX C 8 "whole" acJ:=(Z.1.mr (k:=8) (i:=24) (j:=6) rfl rfl rfl (by decide +kernel) (aF.le (k':=8) (z6 Z) (by decide)) dk)
theorem V8:dX C 8 "whole" Oj:=(Z.1.mr (k:=8) (i:=24) (j:=6) rfl rfl rfl (by decide +kernel) (VF Z.2.2 (z6 Z)) dk)
theorem OO:aF C 12 (.ref 730) BH:=(cV Z 47 ux AU (g1 Z.1.noe g0) (fK ((Z.1.cr (k:=0) (i:=2) rfl).1) (Sp Z) (fB (xy Z) ow (fC Z 42 C5 (Wy Z) f0))) (mC (yI Z) (mC (ae9 Z) (mC (Od Z) (mC (th (k:=0)) (mC (Ia Z) (mC (V8 Z) m0))))))).snd
theorem Ce:aF C 13 (.ref 744) qZ:=(cV Z 48 lP pU (g1 Z.1.uw g0) (fC Z 47 ux (OO Z) f0) (mC (w6 Z) (mC (qr (k:=0)) (mC (yI Z) m0)))).snd
theorem OI:aF C 10 (.ref 751) BB:=(cV Z 49 um AM g0 f0 (mC (yI Z) m0)).snd
theorem Fb:aF C 11 (.ref 758) si:=(cV Z 50 mT rr (g1 Z.1.uw g0) f0 (mC (w6 Z) (mC (qr (k:=0)) (mC (Ia Z) (mC (yG Z) m0))))).snd
theorem M2:aF C 14 (.ref 765) zS:=(cV Z 51 rT ym g0 (fC Z 48 lP (Ce Z) (fC Z 49 um (OI Z) (fC Z 50 mT (Fb Z) f0))) (mC (tN Z) (mC (fA (k:=0)) (mC (Uc Z) m0)))).snd
theorem Kw:pQ C 6 (.ref 651) (bg mu.n mu.dfl xn):=cV Z 52 mu we g0 f0 m0
theorem Nv:aF C 7 (.ref 680) oU:=((Z.1.cr (i:=4) rfl).2 (Kw Z))
theorem z4:aF C 7 (.ref 889) nv:=(cV Z 53 Ak Li g0 (fK (Z.1.gfc) (Z.1.gf 5 (by decide)) (fB (anA Z) aez (fB (jB Z) eH f0))) m0).snd
theorem apn:dX C 7 "fault" acI:=(Z.1.mr (k:=7) (i:=9) (j:=6) rfl rfl rfl (by decide +kernel) (aF.le (k':=7) (z4 Z) (by decide)) dk)
theorem V7:dX C 7 "fault" Oi:=(Z.1.mr (k:=7) (i:=9) (j:=6) rfl rfl rfl (by decide +kernel) (VE Z.2.2 (z4 Z)) dk)
theorem RA:aF C 15 (.ref 786) qC:=(n5 (cV Z 54 wI DL (gC Z 15 (gC Z 16 (gC Z 17 (gC Z 18 (gC Z 19 g0))))) (fK ((Z.1.cr (k:=0) (i:=3) rfl).1) (OF Z) (fC Z 35 uy (OP Z) (fC Z 38 rW (M5 Z) (fC Z 51 rT (M2 Z) (fK ((Z.1.cr (k:=0) (i:=4) rfl).1) (Nv Z) f0))))) (mC (H9 Z) (mC (yH Z) (mC (H8 Z) (mC (yI Z) (mC (V8 Z) (mC (V7 Z) m0))))))).snd)
theorem Ab:aF C 16 (.ref 814) nz:=(n5 (Hy (cV Z 55 nG yo g0 (fC Z 18 KU (acP Z) (fC Z 19 qp (Z.2.1.is_level_here (Ko Z)) (fC Z 54 wI (Z.2.1.read_entry (RA Z)) f0))) (mC (fA (k:=0)) m0)).snd))
theorem GV:aF C 17 (.ref 826) tX:=(cV Z 56 nY sJ (gC Z 17 g0) (fC Z 55 nG (Z.2.1.read_entries (Ab Z)) f0) (mC (fA (k:=0)) (mC (yJ Z) (mC (H8 Z) (mC (V7 Z) m0))))).snd
theorem Kv:pQ C 6 (.ref 698) (bg ms.n ms.dfl xm):=cV Z 57 ms wc g0 f0 m0
theorem Uq:aF C 7 (.ref 706) vp:=((Z.1.cr (i:=5) rfl).2 (Kv Z))
theorem Uw:aF C 18 (.ref 840) oX:=(n5 (Hy (cV Z 58 zp Gf g0 (fC Z 15 r0 (M9 Z) (fC Z 55 nG (Z.2.1.read_entries (Ab Z)) (fC Z 56 nY (GV Z) (fK ((Z.1.cr (k:=0) (i:=5) rfl).1) (Uq Z) f0)))) (mC (Od Z) (mC (Oc Z) (mC (Ia Z) m0)))).snd))
theorem G5:pQ C 6 (.ref 867) (bg ku.n ku.dfl kh):=cV Z 59 ku Ff g0 f0 m0
theorem acO:aF C 7 (.ref 1021) xh:=(aeB Z.2.2 ((Z.1.cr (i:=6) rfl).2 (G5 Z)))
theorem IC:pQ C 6 (.ref 194) (bg lr.n lr.dfl vw):=cV Z 60 lr uR g0 f0 m0
theorem Wv:aF C 7 (.ref 204) Ok:=(mz ((Z.1.cr (i:=1) rfl).2 (IC Z)))
theorem GU:aF C 6 (.ref 330) tW:=(cV Z 61 nX sI g0 (fB (jB Z) eH f0) m0).snd
theorem qD:aF C 6 (.ref 215) nd:=(cV Z 62 kL DG g0 (fB (afu Z) Tx (fB (afv Z) Tz f0)) m0).snd
theorem Cb:aF C 7 (.ref 220) vt:=(cV Z 63 rj JN g0 (fC Z 62 kL (qD Z) f0) (mC (qr (k:=0)) m0)).snd
theorem OM:aF C 6 (.ref 269) BF:=(cV Z 64 uu AQ (gC Z 3 g0) (fB (jB Z) eH f0) m0).snd
theorem GS:aF C 8 (.ref 295) tV:=(cV Z 65 nW sH g0 (fC Z 63 rj (Cb Z) (fC Z 64 uu (OM Z) f0)) m0).snd
theorem yX:aF C 6 (.ref 234) sV:=(cV Z 66 pw Ge g0 (fB (jB Z) eH f0) m0).snd
theorem Y7:aF C 7 (.ref 309) Om:=(cV Z 67 Ht Mw (gC Z 9 (gC Z 10 g0)) (fC Z 66 pw (yX Z) f0) (mC (rm (k:=0)) m0)).snd
theorem GQ:aF C 6 (.ref 288) tT:=(cV Z 68 nV sG (gC Z 7 g0) (fB (jB Z) eH f0) (mC (wK (k:=0)) m0)).snd
theorem M1:aF C 7 (.ref 227) zR:=(cV Z 69 rS yj (gC Z 1 g0) (fC Z 62 kL (qD Z) f0) m0).snd
theorem Rx:aF C 8 (.ref 302) Fx:=(cV Z 70 wG DJ (gC Z 2 (gC Z 8 g0)) (fC Z 69 rS (M1 Z) f0) m0).snd
theorem OL:aF C 6 (.ref 262) BE:=(cV Z 71 ur AP g0 (fB (jB Z) eH f0) m0).snd
theorem MY:aF C 8 (.ref 274) zO:=(cV Z 72 rP yg (gC Z 4 (gC Z 5 g0)) (fB (jB Z) eH (fC Z 63 rj (Cb Z) f0)) m0).snd
theorem Ir:aF C 6 (.ref 281) vu:=(cV Z 73 pu uS (gC Z 6 g0) (fB (jB Z) eH f0) m0).snd
theorem OQ:aF C 7 (.ref 248) GC:=(cV Z 74 zq My g0 (fC Z 62 kL (qD Z) (fB (jB Z) eH f0)) m0).snd
theorem Ry:aF C 8 (.ref 255) Fy:=(cV Z 75 wH DK (gC Z 2 g0) (fC Z 74 zq (OQ Z) f0) m0).snd
theorem WE:aF C 9 (.ref 316) LF:=(cV Z 76 Da JV (gC Z 8 (gC Z 2 (gC Z 5 (gC Z 1 g0)))) (fB (jB Z) eH (fC Z 67 Ht (Y7 Z) (fC Z 68 nV (GQ Z) (fC Z 70 wG (Rx Z) (fC Z 71 ur (OL Z) (fC Z 72 rP (MY Z) (fC Z 73 pu (Ir Z) (fC Z 75 wH (Ry Z) (fC Z 74 zq (OQ Z) (fC Z 62 kL (qD Z) f0)))))))))) m0).snd
theorem Rv:aF C 8 (.ref 344) Fv:=(cV Z 77 wE DH g0 (fC Z 66 pw (yX Z) (fC Z 63 rj (Cb Z) f0)) m0).snd
theorem OJ:aF C 7 (.ref 323) BC:=(cV Z 78 uo AN g0 (fC Z 66 pw (yX Z) f0) m0).snd
theorem Ru:aF C 10 (.ref 337) Fu:=(cV Z 79 wD DF g0 (fB (jB Z) eH (fK ((Z.1.cr (k:=0) (i:=1) rfl).1) (Wv Z) (fC Z 61 nX (GU Z) (fC Z 65 nW (GS Z) (fC Z 76 Da (WE Z) (fC Z 77 wE (Rv Z) (fC Z 78 uo (OJ Z) f0))))))) (mC (fA (k:=0)) m0)).snd
theorem Uy:aF C 11 (.ref 351) Ij:=(mz (cV Z 80 zu Gi g0 (fC Z 79 wD (Ru Z) f0) m0).snd)
theorem Kx:pQ C 6 (.ref 35) (bg mv.n mv.dfl xo):=cV Z 81 mv wf g0 f0 m0
theorem ak3:aF C 7 (.ref 45) abk:=(mz ((Z.1.cr (i:=0) rfl).2 (Kx Z)))
theorem t4:aF C 12 (.ref 510) cH:=(jc (cV Z 82 lQ AZ (gC Z 11 (gC Z 12 g0)) (fB (Iz Z) vU (fB (jB Z) eH (fK ((Z.1.cr (k:=0) (i:=1) rfl).1) (Wv Z) (fC Z 80 zu (Uy Z) (fK ((Z.1.cr (k:=0) (i:=0) rfl).1) (ak3 Z) f0))))) m0).snd)
theorem Kp:aF C 6 (.ref 495) Ed:=(cV Z 83 xW QY g0 f0 (mC (qr (k:=0)) m0)).snd
theorem acQ:aF C 6 (.ref 358) Sl:=(cV Z 84 KV Q0 g0 f0 (mC (wK (k:=0)) m0)).snd
theorem M8:aF C 7 (.ref 414) zY:=(cV Z 85 rZ yu g0 (fC Z 84 KV (acQ Z) (fB (afu Z) Tx f0)) (mC (qr (k:=0)) m0)).snd
theorem Kq:aF C 6 (.ref 178) xk:=(cV Z 86 qq wi g0 (fB (jB Z) eH (fB (Zd Z) K4 (fB (afs Z) Tw f0))) m0).snd
theorem M7:aF C 7 (.ref 421) zX:=(cV Z 87 rY yt (gC Z 6 g0) (fB (afs Z) Tw (fC Z 86 qq (Kq Z) f0)) (mC (wK (k:=0)) m0)).snd
theorem M6:aF C 8 (.ref 440) zW:=(cV Z 88 rX ys g0 (fC Z 85 rZ (M8 Z) (fC Z 87 rY (M7 Z) f0)) m0).snd
theorem z8:aF C 9 (.ref 483) rF:=(cV Z 89 nE yk (g1 Z.1.show g0) (fC Z 88 rX (M6 Z) f0) m0).snd
theorem OT:aF C 10 (.ref 543) lF:=(jc (cV Z 90 uA AY g0 (fC Z 83 xW (Kp Z) (fC Z 89 nE (z8 Z) f0)) (mC (fA (k:=0)) m0)).snd)
theorem Sq:aF C 6 (.ref 502) Kg:=(cV Z 91 Ex Q1 g0 f0 m0).snd
theorem WA:aF C 6 (.ref 433) LA:=(cV Z 92 C7 JS g0 (fB (ak8 Z) aaH f0) (mC (qr (k:=0)) m0)).snd
theorem Wz:aF C 7 (.ref 490) Lz:=(cV Z 93 C6 JR (g1 Z.1.show g0) (fC Z 92 C7 (WA Z) f0) m0).snd
theorem OS:aF C 8 (.ref 522) BQ:=(cV Z 94 uz AX g0 (fC Z 83 xW (Kp Z) (fC Z 91 Ex (Sq Z) (fB (Zd Z) K4 (fC Z 93 C6 (Wz Z) f0)))) m0).snd
theorem Ux:aF C 6 (.ref 529) Ii:=(cV Z 95 zr Gg g0 f0 m0).snd
theorem MZ:aF C 10 (.ref 536) zP:=(cV Z 96 rQ yh (g1 Z.1.un g0) (fC Z 89 nE (z8 Z) (fC Z 94 uz (OS Z) (fC Z 95 zr (Ux Z) (fC Z 91 Ex (Sq Z) f0)))) m0).snd
theorem Rw:aF C 6 (.ref 517) Fw:=(cV Z 97 wF DI g0 (fB (Zd Z) K4 f0) m0).snd
theorem RB:aF C 11 (.ref 550) ng:=(jc (cV Z 98 wJ DM (gC Z 13 g0) (fC Z 83 xW (Kp Z) (fC Z 96 rQ (MZ Z) (fC Z 97 wF (Rw Z) f0))) m0).snd)
theorem z7: ∀n,aF C (12+n) (.ref 557) (cn n)
 |0=>KZ
 |n+1=>by
  have ih:=z7 n
  exact(jc (mz (cV Z (k:=12+n) 99 nD (Lk (cn n)) (gC Z 14 g0) (fC Z 99 nD ih (fC Z 82 lQ (t4 Z) (fC Z 90 uA (OT Z) (fC Z 98 wJ (RB Z) f0)))) (mC (th (k:=0)) m0)).snd))
theorem Ac:aF C 19 (.ref 564) iA:=(jc (mz (cV Z 100 nJ Ll g0 (fC Z 99 nD (z7 Z 6) f0) (mC (th (k:=0)) m0)).snd))
theorem Iv:aF C 20 (.ref 571) eK:=(jc (mz (cV Z 101 pA HK g0 (fC Z 82 lQ (t4 Z) (fC Z 100 nJ (Ac Z) f0)) m0).snd))
theorem Cc:aF C 21 (.ref 578) ia:=(Me (jc (mz (cV Z 102 pv Np g0 (fC Z 82 lQ (t4 Z) (fC Z 101 pA (Iv Z) (fC Z 100 nJ (Ac Z) f0))) (mC (th (k:=0)) m0)).snd)))
theorem Kn(hl: ∀L c,lJ mac L c->lJ mac (lab L) c):aF C 22 (.ref 1077) (eE lab):=(Me (cV Z 103 qo (JM lab) g0 (fC Z 0 pq (Ca Z 6) (fB (anz Z) aex (fB (Iz Z) vU (fB (jB Z) eH (fB (acU Z) VG (fC Z 58 zp (aey Z.2.2 hl (Uw Z)) (fK ((Z.1.cr (k:=0) (i:=6) rfl).1) (acO Z) (fC Z 102 pv (Cc Z) f0)))))))) (mC (ak1 Z) (mC (Oc Z) m0))).snd)
theorem sX:aF C 6 (.ref 1032) yR:=(cV Z 104 mw R4 g0 f0 m0).snd
theorem FA:aF C 8 (.ref 1046) qA:=(Hz (cV Z 105 td Ga g0 (fC Z 104 mw (vT Z.2.2 (sX Z)) (fK ((Z.1.cr (k:=0) (i:=3) rfl).1) (OF Z) (fK ((Z.1.cr (k:=0) (i:=2) rfl).1) (Sp Z) (fK ((Z.1.cr (k:=0) (i:=4) rfl).1) (Nv Z) f0)))) (mC (fA (k:=0)) m0)).snd)
theorem Ut:aF C 8 (.ref 1046) yP:=(n5 (FA Z))
theorem Rr:aF C 9 (.ref 1053) wt:=(Hz (cV Z 106 zn Gb g0 (fC Z 104 mw (vT Z.2.2 (sX Z)) (fC Z 105 td (FA Z) f0)) m0).snd)
theorem Uu:aF C 9 (.ref 1053) yQ:=(n5 (Rr Z))
theorem Uv:aF C 10 (.ref 1060) sU:=(n5 (Hz (cV Z 107 zo Gc g0 (fC Z 104 mw (vT Z.2.2 (sX Z)) (fK ((Z.1.cr (k:=0) (i:=4) rfl).1) (Nv Z) (fB (Iz Z) vU (fC Z 106 zn (Z.2.1.law_leaf (Uu Z)) (fC Z 105 td (Z.2.1.law_item (Ut Z)) f0))))) (mC (Ub Z) m0)).snd))
theorem Us:aF C 11 (.ref 1065) mh:=(aev Z.2.2 (fun b=>⟨(X4 b).1,(X4 b).2.1⟩) (n5 (Hy (cV Z 108 zm F9 g0 (fC Z 107 zo (Z.2.1.law_root (Uv Z)) (fC Z 104 mw (vT Z.2.2 (sX Z)) (fK ((Z.1.cr (k:=0) (i:=5) rfl).1) (Uq Z) f0))) (mC (fA (k:=0)) m0)).snd)))
theorem Ww:aF C 6 (.ref 1039) qY:=(cV Z 109 CZ VV g0 f0 m0).snd
theorem ans(hl: ∀L c,lJ mac L c->lJ mac (lab L) c):aF C 23 (.ref 1082) (Y1 lab):=(cV Z 110 aaC (amK lab) g0 (fC Z 103 qo (Kn Z hl) (fC Z 108 zm (Us Z) (fC Z 109 CZ (Ww Z) (fK ((Z.1.cr (k:=0) (i:=5) rfl).1) (Uq Z) (fC Z 102 pv (Cc Z) (fK ((Z.1.cr (k:=0) (i:=4) rfl).1) (Nv Z) (fK ((Z.1.cr (k:=0) (i:=3) rfl).1) (OF Z) f0))))))) (mC (rm (k:=0)) (mC (Ub Z) (mC (fA (k:=0)) m0)))).snd
end
noncomputable def ch(a:Nat)(l:List (Nat×Nat×Nat)):List (Nat×Nat×Nat):=(l.drop a).take 4
theorem Ci{β:Type}{l:List (Nat×Nat×Nat)}{a:Nat}{f g:Nat×Nat×Nat->β}(h:l.length<=a):(l.drop a).map f=(l.drop a).map g:=by rw[g8 h];rfl
theorem a9{β:Type}{l:List (Nat×Nat×Nat)}{a:Nat}{f g:Nat×Nat×Nat->β}(h:(ch a l).map f=(ch a l).map g)(h':(l.drop (a+4)).map f=(l.drop (a+4)).map g):(l.drop a).map f=(l.drop a).map g:=by
 rw[<- jR 4 (l.drop a),bm,bm,pX]
 exact congr (congrArg (· ++ ·) h) h'
theorem Ch{β:Type}{l:List (Nat×Nat×Nat)}{f g:Nat×Nat×Nat->β}(h:(l.drop 0).map f=(l.drop 0).map g){x:Nat×Nat×Nat}(hx:x∈l):f x=g x:=iG.mp h x hx
section
variable(c k p:AV)
noncomputable def iD(lvl:Nat)(x:Nat×Nat×Nat):Option (List AV):=uG (.frz cg fW (.int (am lvl)::j6 x c k p .none)) (bif aj lvl 1 then true else aj lvl 77)
noncomputable def iE(lvl:Nat)(x:Nat×Nat×Nat):Option (List AV):=some (kn lvl x)
theorem amr:(ch 0 iU).map (iD c k p 1)=(ch 0 iU).map (iE 1):=by kernel_rfl
theorem ams:(ch 4 iU).map (iD c k p 1)=(ch 4 iU).map (iE 1):=by kernel_rfl
theorem amt:(ch 8 iU).map (iD c k p 1)=(ch 8 iU).map (iE 1):=by kernel_rfl
theorem aju:(ch 12 iU).map (iD c k p 1)=(ch 12 iU).map (iE 1):=by kernel_rfl
theorem ajv:(ch 16 iU).map (iD c k p 1)=(ch 16 iU).map (iE 1):=by kernel_rfl
theorem ajw:(ch 20 iU).map (iD c k p 1)=(ch 20 iU).map (iE 1):=by kernel_rfl
theorem ajx:(ch 24 iU).map (iD c k p 1)=(ch 24 iU).map (iE 1):=by kernel_rfl
theorem ajy:(ch 28 iU).map (iD c k p 1)=(ch 28 iU).map (iE 1):=by kernel_rfl
theorem ajz:(ch 32 iU).map (iD c k p 1)=(ch 32 iU).map (iE 1):=by kernel_rfl
theorem ajA:(ch 36 iU).map (iD c k p 1)=(ch 36 iU).map (iE 1):=by kernel_rfl
theorem ajB:(ch 40 iU).map (iD c k p 1)=(ch 40 iU).map (iE 1):=by kernel_rfl
theorem aqp{x:Nat×Nat×Nat}(hx:x∈iU):iD c k p 1 x=iE 1 x:=Ch (a9 (amr c k p) (a9 (ams c k p) (a9 (amt c k p) (a9 (aju c k p) (a9 (ajv c k p) (a9 (ajw c k p) (a9 (ajx c k p) (a9 (ajy c k p) (a9 (ajz c k p) (a9 (ajA c k p) (a9 (ajB c k p) (Ci (by decide))))))))))))) hx
theorem amu:(ch 0 dF).map (iD c k p 5)=(ch 0 dF).map (iE 5):=by kernel_rfl
theorem amv:(ch 4 dF).map (iD c k p 5)=(ch 4 dF).map (iE 5):=by kernel_rfl
theorem amw:(ch 8 dF).map (iD c k p 5)=(ch 8 dF).map (iE 5):=by kernel_rfl
theorem ajC:(ch 12 dF).map (iD c k p 5)=(ch 12 dF).map (iE 5):=by kernel_rfl
theorem ajD:(ch 16 dF).map (iD c k p 5)=(ch 16 dF).map (iE 5):=by kernel_rfl
theorem ajE:(ch 20 dF).map (iD c k p 5)=(ch 20 dF).map (iE 5):=by kernel_rfl
theorem ajF:(ch 24 dF).map (iD c k p 5)=(ch 24 dF).map (iE 5):=by kernel_rfl
theorem ajG:(ch 28 dF).map (iD c k p 5)=(ch 28 dF).map (iE 5):=by kernel_rfl
theorem ajH:(ch 32 dF).map (iD c k p 5)=(ch 32 dF).map (iE 5):=by kernel_rfl
theorem ajI:(ch 36 dF).map (iD c k p 5)=(ch 36 dF).map (iE 5):=by kernel_rfl
theorem ajJ:(ch 40 dF).map (iD c k p 5)=(ch 40 dF).map (iE 5):=by kernel_rfl
theorem ajK:(ch 44 dF).map (iD c k p 5)=(ch 44 dF).map (iE 5):=by kernel_rfl
theorem ajL:(ch 48 dF).map (iD c k p 5)=(ch 48 dF).map (iE 5):=by kernel_rfl
theorem ajM:(ch 52 dF).map (iD c k p 5)=(ch 52 dF).map (iE 5):=by kernel_rfl
theorem ajN:(ch 56 dF).map (iD c k p 5)=(ch 56 dF).map (iE 5):=by kernel_rfl
theorem ajO:(ch 60 dF).map (iD c k p 5)=(ch 60 dF).map (iE 5):=by kernel_rfl
theorem ajP:(ch 64 dF).map (iD c k p 5)=(ch 64 dF).map (iE 5):=by kernel_rfl
theorem ajQ:(ch 68 dF).map (iD c k p 5)=(ch 68 dF).map (iE 5):=by kernel_rfl
theorem ajR:(ch 72 dF).map (iD c k p 5)=(ch 72 dF).map (iE 5):=by kernel_rfl
theorem ajS:(ch 76 dF).map (iD c k p 5)=(ch 76 dF).map (iE 5):=by kernel_rfl
theorem ajT:(ch 80 dF).map (iD c k p 5)=(ch 80 dF).map (iE 5):=by kernel_rfl
theorem ajU:(ch 84 dF).map (iD c k p 5)=(ch 84 dF).map (iE 5):=by kernel_rfl
theorem ajV:(ch 88 dF).map (iD c k p 5)=(ch 88 dF).map (iE 5):=by kernel_rfl
theorem aqq{x:Nat×Nat×Nat}(hx:x∈dF):iD c k p 5 x=iE 5 x:=Ch (a9 (amu c k p) (a9 (amv c k p) (a9 (amw c k p) (a9 (ajC c k p) (a9 (ajD c k p) (a9 (ajE c k p) (a9 (ajF c k p) (a9 (ajG c k p) (a9 (ajH c k p) (a9 (ajI c k p) (a9 (ajJ c k p) (a9 (ajK c k p) (a9 (ajL c k p) (a9 (ajM c k p) (a9 (ajN c k p) (a9 (ajO c k p) (a9 (ajP c k p) (a9 (ajQ c k p) (a9 (ajR c k p) (a9 (ajS c k p) (a9 (ajT c k p) (a9 (ajU c k p) (a9 (ajV c k p) (Ci (by decide))))))))))))))))))))))))) hx
theorem ajr:(ch 0 sp).map (iD c k p 10)=(ch 0 sp).map (iE 10):=by kernel_rfl
theorem ajs:(ch 4 sp).map (iD c k p 10)=(ch 4 sp).map (iE 10):=by kernel_rfl
theorem ajt:(ch 8 sp).map (iD c k p 10)=(ch 8 sp).map (iE 10):=by kernel_rfl
theorem ao8{x:Nat×Nat×Nat}(hx:x∈sp):iD c k p 10 x=iE 10 x:=Ch (a9 (ajr c k p) (a9 (ajs c k p) (a9 (ajt c k p) (Ci (by decide))))) hx
theorem ajW:(ch 0 gz).map (iD c k p 77)=(ch 0 gz).map (iE 77):=by kernel_rfl
theorem ajX:(ch 4 gz).map (iD c k p 77)=(ch 4 gz).map (iE 77):=by kernel_rfl
theorem ajY:(ch 8 gz).map (iD c k p 77)=(ch 8 gz).map (iE 77):=by kernel_rfl
theorem ael:(ch 12 gz).map (iD c k p 77)=(ch 12 gz).map (iE 77):=by kernel_rfl
theorem aem:(ch 16 gz).map (iD c k p 77)=(ch 16 gz).map (iE 77):=by kernel_rfl
theorem aen:(ch 20 gz).map (iD c k p 77)=(ch 20 gz).map (iE 77):=by kernel_rfl
theorem aeo:(ch 24 gz).map (iD c k p 77)=(ch 24 gz).map (iE 77):=by kernel_rfl
theorem aep:(ch 28 gz).map (iD c k p 77)=(ch 28 gz).map (iE 77):=by kernel_rfl
theorem aer:(ch 32 gz).map (iD c k p 77)=(ch 32 gz).map (iE 77):=by kernel_rfl
theorem ao9{x:Nat×Nat×Nat}(hx:x∈gz):iD c k p 77 x=iE 77 x:=Ch (a9 (ajW c k p) (a9 (ajX c k p) (a9 (ajY c k p) (a9 (ael c k p) (a9 (aem c k p) (a9 (aen c k p) (a9 (aeo c k p) (a9 (aep c k p) (a9 (aer c k p) (Ci (by decide))))))))))) hx
end
section
variable(r n:Nat)(cells:List (Nat×bF))(rest:aa)
noncomputable def I3(cd:aa)(f:AV->AV->List AV):Option (AV×AS):=some (.ref (n+2),⟨n+3,(n,.lst cd)::(n+1,.lst [])::(n+2,.inst cg fW (f (.ref n) (.ref (n+1))))::ls r (.orc 1021 rest) cells⟩)
noncomputable def iB(lvl:Nat)(x:Nat×Nat×Nat):Option (AV×AS):=vI r n cells (lD [.ref 0] ⟨1,[(0,.orc 1021 (kn lvl x++rest))]⟩)
noncomputable def iC(lvl:Nat)(x:Nat×Nat×Nat):Option (AV×AS):=I3 r n cells rest [] (fun a b=>.int (am lvl)::j6 x a b .none .none)
theorem al5:(ch 0 iU).map (iB r n cells rest 1)=(ch 0 iU).map (iC r n cells rest 1):=by kernel_rfl
theorem al6:(ch 4 iU).map (iB r n cells rest 1)=(ch 4 iU).map (iC r n cells rest 1):=by kernel_rfl
theorem al7:(ch 8 iU).map (iB r n cells rest 1)=(ch 8 iU).map (iC r n cells rest 1):=by kernel_rfl
theorem aiB:(ch 12 iU).map (iB r n cells rest 1)=(ch 12 iU).map (iC r n cells rest 1):=by kernel_rfl
theorem aiC:(ch 16 iU).map (iB r n cells rest 1)=(ch 16 iU).map (iC r n cells rest 1):=by kernel_rfl
theorem aiD:(ch 20 iU).map (iB r n cells rest 1)=(ch 20 iU).map (iC r n cells rest 1):=by kernel_rfl
theorem aiE:(ch 24 iU).map (iB r n cells rest 1)=(ch 24 iU).map (iC r n cells rest 1):=by kernel_rfl
theorem aiF:(ch 28 iU).map (iB r n cells rest 1)=(ch 28 iU).map (iC r n cells rest 1):=by kernel_rfl
theorem aiG:(ch 32 iU).map (iB r n cells rest 1)=(ch 32 iU).map (iC r n cells rest 1):=by kernel_rfl
theorem aiH:(ch 36 iU).map (iB r n cells rest 1)=(ch 36 iU).map (iC r n cells rest 1):=by kernel_rfl
theorem aiI:(ch 40 iU).map (iB r n cells rest 1)=(ch 40 iU).map (iC r n cells rest 1):=by kernel_rfl
theorem aqj{x:Nat×Nat×Nat}(hx:x∈iU):iB r n cells rest 1 x=iC r n cells rest 1 x:=Ch (a9 (al5 r n cells rest) (a9 (al6 r n cells rest) (a9 (al7 r n cells rest) (a9 (aiB r n cells rest) (a9 (aiC r n cells rest) (a9 (aiD r n cells rest) (a9 (aiE r n cells rest) (a9 (aiF r n cells rest) (a9 (aiG r n cells rest) (a9 (aiH r n cells rest) (a9 (aiI r n cells rest) (Ci (by decide))))))))))))) hx
theorem al8:(ch 0 dF).map (iB r n cells rest 5)=(ch 0 dF).map (iC r n cells rest 5):=by kernel_rfl
theorem al9:(ch 4 dF).map (iB r n cells rest 5)=(ch 4 dF).map (iC r n cells rest 5):=by kernel_rfl
theorem ama:(ch 8 dF).map (iB r n cells rest 5)=(ch 8 dF).map (iC r n cells rest 5):=by kernel_rfl
theorem aiJ:(ch 12 dF).map (iB r n cells rest 5)=(ch 12 dF).map (iC r n cells rest 5):=by kernel_rfl
theorem aiK:(ch 16 dF).map (iB r n cells rest 5)=(ch 16 dF).map (iC r n cells rest 5):=by kernel_rfl
theorem aiL:(ch 20 dF).map (iB r n cells rest 5)=(ch 20 dF).map (iC r n cells rest 5):=by kernel_rfl
theorem aiM:(ch 24 dF).map (iB r n cells rest 5)=(ch 24 dF).map (iC r n cells rest 5):=by kernel_rfl
theorem aiN:(ch 28 dF).map (iB r n cells rest 5)=(ch 28 dF).map (iC r n cells rest 5):=by kernel_rfl
theorem aiO:(ch 32 dF).map (iB r n cells rest 5)=(ch 32 dF).map (iC r n cells rest 5):=by kernel_rfl
theorem aiP:(ch 36 dF).map (iB r n cells rest 5)=(ch 36 dF).map (iC r n cells rest 5):=by kernel_rfl
theorem aiQ:(ch 40 dF).map (iB r n cells rest 5)=(ch 40 dF).map (iC r n cells rest 5):=by kernel_rfl
theorem aiR:(ch 44 dF).map (iB r n cells rest 5)=(ch 44 dF).map (iC r n cells rest 5):=by kernel_rfl
theorem aiS:(ch 48 dF).map (iB r n cells rest 5)=(ch 48 dF).map (iC r n cells rest 5):=by kernel_rfl
theorem aiT:(ch 52 dF).map (iB r n cells rest 5)=(ch 52 dF).map (iC r n cells rest 5):=by kernel_rfl
theorem aiU:(ch 56 dF).map (iB r n cells rest 5)=(ch 56 dF).map (iC r n cells rest 5):=by kernel_rfl
theorem aiV:(ch 60 dF).map (iB r n cells rest 5)=(ch 60 dF).map (iC r n cells rest 5):=by kernel_rfl
theorem aiW:(ch 64 dF).map (iB r n cells rest 5)=(ch 64 dF).map (iC r n cells rest 5):=by kernel_rfl
theorem aiX:(ch 68 dF).map (iB r n cells rest 5)=(ch 68 dF).map (iC r n cells rest 5):=by kernel_rfl
theorem aiY:(ch 72 dF).map (iB r n cells rest 5)=(ch 72 dF).map (iC r n cells rest 5):=by kernel_rfl
theorem aiZ:(ch 76 dF).map (iB r n cells rest 5)=(ch 76 dF).map (iC r n cells rest 5):=by kernel_rfl
theorem ai0:(ch 80 dF).map (iB r n cells rest 5)=(ch 80 dF).map (iC r n cells rest 5):=by kernel_rfl
theorem ai1:(ch 84 dF).map (iB r n cells rest 5)=(ch 84 dF).map (iC r n cells rest 5):=by kernel_rfl
theorem ai2:(ch 88 dF).map (iB r n cells rest 5)=(ch 88 dF).map (iC r n cells rest 5):=by kernel_rfl
theorem aqk{x:Nat×Nat×Nat}(hx:x∈dF):iB r n cells rest 5 x=iC r n cells rest 5 x:=Ch (a9 (al8 r n cells rest) (a9 (al9 r n cells rest) (a9 (ama r n cells rest) (a9 (aiJ r n cells rest) (a9 (aiK r n cells rest) (a9 (aiL r n cells rest) (a9 (aiM r n cells rest) (a9 (aiN r n cells rest) (a9 (aiO r n cells rest) (a9 (aiP r n cells rest) (a9 (aiQ r n cells rest) (a9 (aiR r n cells rest) (a9 (aiS r n cells rest) (a9 (aiT r n cells rest) (a9 (aiU r n cells rest) (a9 (aiV r n cells rest) (a9 (aiW r n cells rest) (a9 (aiX r n cells rest) (a9 (aiY r n cells rest) (a9 (aiZ r n cells rest) (a9 (ai0 r n cells rest) (a9 (ai1 r n cells rest) (a9 (ai2 r n cells rest) (Ci (by decide))))))))))))))))))))))))) hx
theorem aiy:(ch 0 sp).map (iB r n cells rest 10)=(ch 0 sp).map (iC r n cells rest 10):=by kernel_rfl
theorem aiz:(ch 4 sp).map (iB r n cells rest 10)=(ch 4 sp).map (iC r n cells rest 10):=by kernel_rfl
theorem aiA:(ch 8 sp).map (iB r n cells rest 10)=(ch 8 sp).map (iC r n cells rest 10):=by kernel_rfl
theorem aoK{x:Nat×Nat×Nat}(hx:x∈sp):iB r n cells rest 10 x=iC r n cells rest 10 x:=Ch (a9 (aiy r n cells rest) (a9 (aiz r n cells rest) (a9 (aiA r n cells rest) (Ci (by decide))))) hx
theorem ai3:(ch 0 gz).map (iB r n cells rest 77)=(ch 0 gz).map (iC r n cells rest 77):=by kernel_rfl
theorem ai4:(ch 4 gz).map (iB r n cells rest 77)=(ch 4 gz).map (iC r n cells rest 77):=by kernel_rfl
theorem ai5:(ch 8 gz).map (iB r n cells rest 77)=(ch 8 gz).map (iC r n cells rest 77):=by kernel_rfl
theorem ad8:(ch 12 gz).map (iB r n cells rest 77)=(ch 12 gz).map (iC r n cells rest 77):=by kernel_rfl
theorem ad9:(ch 16 gz).map (iB r n cells rest 77)=(ch 16 gz).map (iC r n cells rest 77):=by kernel_rfl
theorem aea:(ch 20 gz).map (iB r n cells rest 77)=(ch 20 gz).map (iC r n cells rest 77):=by kernel_rfl
theorem aeb:(ch 24 gz).map (iB r n cells rest 77)=(ch 24 gz).map (iC r n cells rest 77):=by kernel_rfl
theorem aec:(ch 28 gz).map (iB r n cells rest 77)=(ch 28 gz).map (iC r n cells rest 77):=by kernel_rfl
theorem aed:(ch 32 gz).map (iB r n cells rest 77)=(ch 32 gz).map (iC r n cells rest 77):=by kernel_rfl
theorem aoL{x:Nat×Nat×Nat}(hx:x∈gz):iB r n cells rest 77 x=iC r n cells rest 77 x:=Ch (a9 (ai3 r n cells rest) (a9 (ai4 r n cells rest) (a9 (ai5 r n cells rest) (a9 (ad8 r n cells rest) (a9 (ad9 r n cells rest) (a9 (aea r n cells rest) (a9 (aeb r n cells rest) (a9 (aec r n cells rest) (a9 (aed r n cells rest) (Ci (by decide))))))))))) hx
end
noncomputable def ou(n:Nat):Option (List AV):=bw (zM [qk n] ⟨0,[]⟩) fun t _=>d8 t fun t=>kI t false
theorem nmE{P:Nat->Prop}(h0:P 0)(h1:P 1)(h2:P 2)(h3:P 3)(h4:P 4)(h5:P 5)(h6:P 6)(h7:P 7)(h8:P 8)(h9:P 9)(h10:P 10)(h11:P 11)(h12:P 12)(h13:P 13)(h14:P 14)(h15:P 15)(h16:P 16){n:Nat}(hn:n<17):P n:=by
 rcases n with _|_|_|_|_|_|_|_|_|_|_|_|_|_|_|_|_|n
 all_goals first|assumption|exact absurd hn (b6.mpr (jp 17 n))
section
variable(r n:Nat)(cells:List (Nat×bF))(rest:aa)
noncomputable def pB(i:Nat):Option (AV×AS):=vI r n cells (lD [.ref 0] ⟨1,[(0,.orc 1021 (fz i++rest))]⟩)
noncomputable def pC(i:Nat):Option (AV×AS):=I3 r n cells rest [qk i] (ah6 i)
noncomputable def An(i l:Nat):Option (AV×AS):=vI r n cells (lD [.ref 0] ⟨1,[(0,.orc 1021 (gw i l++rest))]⟩)
noncomputable def Ao(i l:Nat):Option (AV×AS):=I3 r n cells rest [] (aix i l)
noncomputable def Aq(i l:Nat)(p:AV):Option (List AV):=uG (.frz cg fW (j8 i l p)) false
theorem ap5:ou 0=some (fz 0):=by kernel_rfl
theorem apV:pB r n cells rest 0=pC r n cells rest 0:=by kernel_rfl
theorem ap6:ou 1=some (fz 1):=by kernel_rfl
theorem apW:pB r n cells rest 1=pC r n cells rest 1:=by kernel_rfl
theorem ap7:ou 2=some (fz 2):=by kernel_rfl
theorem apX:pB r n cells rest 2=pC r n cells rest 2:=by kernel_rfl
theorem ap8:ou 3=some (fz 3):=by kernel_rfl
theorem apY:pB r n cells rest 3=pC r n cells rest 3:=by kernel_rfl
theorem ap9:ou 4=some (fz 4):=by kernel_rfl
theorem apZ:pB r n cells rest 4=pC r n cells rest 4:=by kernel_rfl
theorem aqa:ou 5=some (fz 5):=by kernel_rfl
theorem ap0:pB r n cells rest 5=pC r n cells rest 5:=by kernel_rfl
theorem aqb:ou 6=some (fz 6):=by kernel_rfl
theorem ap1:pB r n cells rest 6=pC r n cells rest 6:=by kernel_rfl
theorem aqc:ou 7=some (fz 7):=by kernel_rfl
theorem ap2:pB r n cells rest 7=pC r n cells rest 7:=by kernel_rfl
theorem aqd:ou 8=some (fz 8):=by kernel_rfl
theorem ap3:pB r n cells rest 8=pC r n cells rest 8:=by kernel_rfl
theorem aqe:ou 9=some (fz 9):=by kernel_rfl
theorem ap4:pB r n cells rest 9=pC r n cells rest 9:=by kernel_rfl
theorem aou:ou 10=some (fz 10):=by kernel_rfl
theorem aon:pB r n cells rest 10=pC r n cells rest 10:=by kernel_rfl
theorem aov:ou 11=some (fz 11):=by kernel_rfl
theorem aoo:pB r n cells rest 11=pC r n cells rest 11:=by kernel_rfl
theorem aow:ou 12=some (fz 12):=by kernel_rfl
theorem aop:pB r n cells rest 12=pC r n cells rest 12:=by kernel_rfl
theorem aox:ou 13=some (fz 13):=by kernel_rfl
theorem aoq:pB r n cells rest 13=pC r n cells rest 13:=by kernel_rfl
theorem aoy:ou 14=some (fz 14):=by kernel_rfl
theorem aor:pB r n cells rest 14=pC r n cells rest 14:=by kernel_rfl
theorem aoz:ou 15=some (fz 15):=by kernel_rfl
theorem aos:pB r n cells rest 15=pC r n cells rest 15:=by kernel_rfl
theorem aoA:ou 16=some (fz 16):=by kernel_rfl
theorem aot:pB r n cells rest 16=pC r n cells rest 16:=by kernel_rfl
theorem nmS{i:Nat}(hi:i<17):ou i=some (fz i):=nmE (P:=fun i=>ou i=some (fz i)) ap5 ap6 ap7 ap8 ap9 aqa aqb aqc aqd aqe aou aov aow aox aoy aoz aoA hi
theorem nmR{i:Nat}(hi:i<17):pB r n cells rest i=pC r n cells rest i:=nmE (P:=fun i=>pB r n cells rest i=pC r n cells rest i) (apV r n cells rest) (apW r n cells rest) (apX r n cells rest) (apY r n cells rest) (apZ r n cells rest) (ap0 r n cells rest) (ap1 r n cells rest) (ap2 r n cells rest) (ap3 r n cells rest) (ap4 r n cells rest) (aon r n cells rest) (aoo r n cells rest) (aop r n cells rest) (aoq r n cells rest) (aor r n cells rest) (aos r n cells rest) (aot r n cells rest) hi
theorem aoW(p:AV):Aq 17 0 p=some (gw 17 0):=by kernel_rfl
theorem aoM:An r n cells rest 17 0=Ao r n cells rest 17 0:=by kernel_rfl
theorem aoX(l:Nat)(p:AV):Aq 17 (l+1) p=some (gw 17 (l+1)):=by kernel_rfl
theorem aoN(l:Nat):An r n cells rest 17 (l+1)=Ao r n cells rest 17 (l+1):=by kernel_rfl
theorem aoY(p:AV):Aq 18 0 p=some (gw 18 0):=by kernel_rfl
theorem aoO:An r n cells rest 18 0=Ao r n cells rest 18 0:=by kernel_rfl
theorem aoZ(l:Nat)(p:AV):Aq 18 (l+1) p=some (gw 18 (l+1)):=by kernel_rfl
theorem aoP(l:Nat):An r n cells rest 18 (l+1)=Ao r n cells rest 18 (l+1):=by kernel_rfl
theorem ao0(p:AV):Aq 19 0 p=some (gw 19 0):=by kernel_rfl
theorem aoQ:An r n cells rest 19 0=Ao r n cells rest 19 0:=by kernel_rfl
theorem ao1(l:Nat)(p:AV):Aq 19 (l+1) p=some (gw 19 (l+1)):=by kernel_rfl
theorem aoR(l:Nat):An r n cells rest 19 (l+1)=Ao r n cells rest 19 (l+1):=by kernel_rfl
theorem ao2(p:AV):Aq 20 0 p=some (gw 20 0):=by kernel_rfl
theorem aoS:An r n cells rest 20 0=Ao r n cells rest 20 0:=by kernel_rfl
theorem ao3(l:Nat)(p:AV):Aq 20 (l+1) p=some (gw 20 (l+1)):=by kernel_rfl
theorem aoT(l:Nat):An r n cells rest 20 (l+1)=Ao r n cells rest 20 (l+1):=by kernel_rfl
theorem ao4(p:AV):Aq 21 0 p=some (gw 21 0):=by kernel_rfl
theorem aoU:An r n cells rest 21 0=Ao r n cells rest 21 0:=by kernel_rfl
theorem ao5(l:Nat)(p:AV):Aq 21 (l+1) p=some (gw 21 (l+1)):=by kernel_rfl
theorem aoV(l:Nat):An r n cells rest 21 (l+1)=Ao r n cells rest 21 (l+1):=by kernel_rfl
theorem rnE{P:Nat->Nat->Prop}(h0:P 0 0)(k0: ∀l,P 0 (l+1))(h1:P 1 0)(k1: ∀l,P 1 (l+1))(h2:P 2 0)(k2: ∀l,P 2 (l+1))(h3:P 3 0)(k3: ∀l,P 3 (l+1))(h4:P 4 0)(k4: ∀l,P 4 (l+1)){i:Nat}(hi:i<5)(l:Nat):P i l:=by
 rcases i with _|_|_|_|_|i
 all_goals first|(cases l<;>first|assumption|(first|exact k0 _|exact k1 _|exact k2 _|exact k3 _|exact k4 _))|exact absurd hi (b6.mpr (jp 5 i))
theorem rnS{i:Nat}(hi:i<5)(l:Nat)(p:AV):Aq (17+i) l p=some (gw (17+i) l):=rnE (P:=fun i l=>Aq (17+i) l p=some (gw (17+i) l)) (aoW p) (fun l=>aoX l p) (aoY p) (fun l=>aoZ l p) (ao0 p) (fun l=>ao1 l p) (ao2 p) (fun l=>ao3 l p) (ao4 p) (fun l=>ao5 l p) hi l
theorem rnR{i:Nat}(hi:i<5)(l:Nat):An r n cells rest (17+i) l=Ao r n cells rest (17+i) l:=rnE (P:=fun i l=>An r n cells rest (17+i) l=Ao r n cells rest (17+i) l) (aoM r n cells rest) (fun l=>aoN r n cells rest l) (aoO r n cells rest) (fun l=>aoP r n cells rest l) (aoQ r n cells rest) (fun l=>aoR r n cells rest l) (aoS r n cells rest) (fun l=>aoT r n cells rest l) (aoU r n cells rest) (fun l=>aoV r n cells rest l) hi l
end
noncomputable def bad:List AV:=[.ref 0]
noncomputable def ri(lvl:Nat):Bool:=FQ lvl [1,5,10,77]
noncomputable def itM(lvl i:Nat):List AV:=bif ri lvl then kn lvl (kd lvl i)else bad
noncomputable def nmM(lv i:Nat):List AV:=bif bt (kd lv i).1 17 then fz (kd lv i).1 else bad
noncomputable def rnM(i l:Nat):List AV:=bif bt (kd 1 i).1 5 then gw (17+(kd 1 i).1) l else bad
noncomputable def vL(m x y:Nat):List AV:=bif aj m 1 then itM x y else bif aj m 2 then nmM x y else bif aj m 3 then rnM x y else bad
noncomputable def iw(ks:ac):List AV:=(Le ks fun m x y=>some (vL m x y)).getD bad
noncomputable def XZ(r:Rt):Bool:=bif aj r.lvl 1 then cT r.ts.length 2 else aj r.lvl 77&&(r.ts.isEmpty&&aj r.ren 0)
noncomputable def okC(code:ac):Bool:=(q9 code fun lv _=>some (aj (A9 code).lvl lv)).getD false&&XZ (A9 code)
noncomputable def RN(code:ac):List AV:=bif okC code then xp iw (FI (A9 code))else bad
noncomputable def mac(ks:ac):List AV:=bo (motive:=fun _=>List AV) [] (fun m r _=>bif aj m 4 then RN r else iw ks) ks
theorem lvE{P:Nat->Prop}{x:Nat}(h:ri x=true)(h1:P 1)(h5:P 5)(h10:P 10)(h77:P 77):P x:=by
 have q: ∀{y:Nat},aj x y=true->y=x:=fun h=>(aD h).symm
 have h:FQ x [1,5,10,77]=true:=h
 rw[I2,I2,I2,I2,show FQ x []=false from rfl,Bool.or_false]at h
 exact rE h (fun h=>q h▸h1) fun h=>rE h (fun h=>q h▸h5) fun h=>rE h (fun h=>q h▸h10) fun h=>q h▸h77
theorem XT{α:Type}{l:List α}: ∀{i:Nat} {x:α},Qd l i=some x->x∈l:=by
 induction l with
 |nil=>exact fun h=>nn h
 |cons a l ih=>
  intro i x h
  cases i with
  |zero=>exact s1 (P:=fun x=>x∈a::l) h (bb ..)
  |succ i=>exact aQ _ (ih h)
theorem U6(lvl i:Nat):kd lvl i∈kT lvl:=by
 unfold kd
 cases h:Qd (kT lvl) i with
 |some x=>exact XT h
 |none=>
  have: ∃x,Qd (kT lvl) 0=some x:=by
   unfold kT
   cases aj lvl 1
   ·cases aj lvl 5
    ·cases aj lvl 10<;>exact⟨_,rfl⟩
    ·exact⟨_,rfl⟩
   ·exact⟨_,rfl⟩
  obtain⟨x,hx⟩:=this
  rw[hx];exact XT hx
theorem Jc{a:AV}{l:aa}:de (a::l)=((mR a fun c _ _=>some (!aj c 0)).getD false&&de l):=rfl
theorem lp{l m:aa}:de (l++m)=(de l&&de m):=kZ
theorem Ev{a:Bool}{l:List (List Nat×List Nat×Nat)}: ∀{c:Nat} {a:Bool},de (wz a c l)=true:=by
 induction l with
 |nil=>exact rfl
 |cons x l ih=>exact fun{c a}=>show(true&&de (wz false (c+x.2.2) l))=true from ih
theorem ab9{a:AV}(h:(mR a fun c _ _=>some (!aj c 0)).getD false=true)(mac:List Nat->List AV)(r:aa):xp mac (a::r)=a::xp mac r/\HB a=false:=Vp (Q:=fun a=>xp mac (a::r)=a::xp mac r/\HB a=false) h fun c ks vs h=>⟨by rw[EF,h];rfl,show(aj c 0&&CB ks)=false by rw[h];rfl⟩
theorem EE{mac:List Nat->List AV}{l m:aa}:de l=true->xp mac (l++m)=l++xp mac m/\(u5 mac m->u5 mac (l++m)):=by
 induction l with
 |nil=>exact fun _=>⟨rfl,id⟩
 |cons a l ih=>exact fun h=>aE (Jc▸h) fun h1 h2=>⟨((ab9 h1 mac (l++m)).1).trans (congrArg (a:: ·) (ih h2).1),fun w=>⟨fun z=>ff ((ab9 h1 mac []).2.symm.trans z),(ih h2).2 w⟩⟩
theorem zh{P:Prop}(h:aN bad=true):P:=ff h
theorem aaf{m x y:Nat}{P:Prop}(h:aN (vL m x y)=true)(k1:m=1->ri x=true->vL m x y=kn x (kd x y)->P)(k2:m=2->(kd x y).1<17->vL m x y=fz (kd x y).1->P)(k3:m=3->(kd 1 x).1<5->vL m x y=gw (17+(kd 1 x).1) y->P):P:=by
 unfold vL at h k1 k2 k3
 cases q:aj m 1 with
 |true=>
  rw[q]at h k1
  unfold itM at h k1
  cases z:ri x with
  |true=>rw[z]at k1;exact k1 (aD q) rfl rfl
  |false=>rw[z]at h;exact zh h
 |false=>
  rw[q]at h k2 k3
  cases q:aj m 2 with
  |true=>
   rw[q]at h k2
   unfold nmM at h k2
   cases z:bt (kd x y).1 17 with
   |true=>rw[z]at k2;exact k2 (aD q) (c9.mp z) rfl
   |false=>rw[z]at h;exact zh h
  |false=>
   rw[q]at h k3
   cases q:aj m 3 with
   |true=>
    rw[q]at h k3
    unfold rnM at h k3
    cases z:bt (kd 1 x).1 5 with
    |true=>rw[z]at k3;exact k3 (aD q) (c9.mp z) rfl
    |false=>rw[z]at h;exact zh h
   |false=>rw[q]at h;exact zh h
theorem SX{lvl:Nat}{x:Nat×Nat×Nat}:de (kn lvl x)=true:=Ev (a:=false)
theorem ah0{m x y:Nat}(h:aN (vL m x y)=true):de (vL m x y)=true:=aaf h (fun _ _ e=>e▸SX) (fun _ _ e=>e▸Ev (a:=false)) fun _ _ e=>e▸Ev (a:=false)
theorem XC{ks:ac}(h:aN (iw ks)=true):de (iw ks)=true:=by
 unfold iw at h ⊢
 cases e:Le ks fun m x y=>some (vL m x y)with
 |none=>rw[e]at h;exact zh h
 |some l=>
  rw[e]at h
  exact kG (Q:=fun _=>de l=true) e fun m ks e=>kG (Q:=fun _=>de l=true) e fun x ks e=>kG (Q:=fun _=>de l=true) e fun y ks e=>kS e fun _ e=>s1 (P:=fun l=>aN l=true->de l=true) e ah0 h
noncomputable def rM(l:List (List Nat)):List AV:=l.map fun ks=>.frz 0 ks []
theorem zD{f:List Nat->List AV}{l:List (List Nat)}{m:aa}:xp f (rM l++m)=xp f (rM l)++xp f m:=by
 induction l with
 |nil=>rfl
 |cons a l ih=>exact(congrArg (f a++ ·) ih).trans (aB ..).symm
theorem aa9{l:List (List Nat)}(h:aN (xp iw (rM l))=true):de (xp iw (rM l))=true:=by
 induction l with
 |nil=>rfl
 |cons a l ih=>
  have h:aN (iw a++xp iw (rM l))=true:=h
  rw[bW]at h
  show de (iw a++xp iw (rM l))=true
  rw[lp]
  exact aE h fun h1 h2=>by rw[XC h1,ih h2];rfl
theorem tp{mac:List Nat->List AV}{l l':aa}{c:bF}(h:lJ mac l c)(he:xp mac l'=xp mac l)(hw:u5 mac l->u5 mac l'):lJ mac l' c:=by
 obtain⟨w,pre,h⟩:=h
 exact⟨hw w,pre,he.symm▸h⟩
theorem ac3{mac:List Nat->List AV}{l l':aa}{c:bF}(h:lJ mac l c)(he:xp mac l=l'++xp mac m):aN l'=true:=by
 obtain⟨w,pre,_,_,h,_⟩:=h
 rw[he,bW]at h
 exact aE h fun h _=>h
theorem Zr{mac:List Nat->List AV}(hm: ∀ks,aN (mac ks)=true->de (mac ks)=true){ks:ac}{vs l:aa}{c:bF}(h:lJ mac (.frz 0 ks vs::l) c):aN (mac ks)=true/\lJ mac (mac ks++l) c:=
 have hn:aN (mac ks)=true:=ac3 (m:=l) h rfl
 have hp:=EE (mac:=mac) (m:=l) (hm ks hn)
 ⟨hn,tp h hp.1 fun w=>hp.2 w.2⟩
theorem Tc{m:Nat}{r:ac}:mac (m::r)=bif aj m 4 then RN r else iw (m::r):=rfl
noncomputable def G9(lvl:Nat)(l:Lf):List (List Nat):=[1,lvl,l.i]::(bif l.c then[[2,lvl,l.i]]else[])
noncomputable def abL(t:Tn):List (List Nat):=match t with
 | .leaf l=>G9 5 l
 | .grp g a=>G9 5 g++G9 10 a
 | .grp2 g a b=>G9 5 g++(G9 10 a++G9 10 b)
noncomputable def abM(ts:List Tn):List (List Nat):=bo (motive:=fun _=>List (List Nat)) [] (fun t _ ih=>abL t++ih) ts
noncomputable def enN(i n:Nat):List (List Nat):=gX (motive:=fun _=>List (List Nat)) [] (fun l _=>[[3,i,l]]) n
noncomputable def aga(r:Rt):List (List Nat):=G9 r.lvl r.it++(abM r.ts++enN r.it.i r.ren)
theorem kH{l m:List (List Nat)}:rM (l++m)=rM l++rM m:=bm
theorem t8(lvl:Nat)(l:Lf):Cr lvl l=rM (G9 lvl l):=by
 obtain⟨i,c⟩:=l
 cases c<;>rfl
theorem agd(t:Tn):agc t=rM (abL t):=by
 cases t with
 |leaf l=>exact t8 5 l
 |grp g a=>exact(congr (congrArg _ (t8 5 g)) (t8 10 a)).trans kH.symm
 |grp2 g a b=>exact(congr (congrArg _ (t8 5 g)) ((congr (congrArg _ (t8 10 a)) (t8 10 b)).trans kH.symm)).trans kH.symm
theorem ac9(ts:List Tn):UR ts=rM (abM ts):=by
 induction ts with
 |nil=>rfl
 |cons t ts ih=>exact(congr (congrArg _ (agd t)) ih).trans kH.symm
theorem ND(r:Rt):FI r=rM (aga r):=by
 have h:agb r=rM (enN r.it.i r.ren):=by
  obtain⟨lv,it,ts,n⟩:=r
  cases n<;>rfl
 exact(congr (congrArg _ (t8 _ _)) ((congr (congrArg _ (ac9 _)) h).trans kH.symm)).trans kH.symm
theorem Vc: ∀ks,aN (mac ks)=true->de (mac ks)=true:=by
 intro ks h
 cases ks with
 |nil=>rfl
 |cons m r=>
  rw[Tc]at h ⊢
  cases q:aj m 4 with
  |true=>
   rw[q]at h
   have h:aN (RN r)=true:=h
   show de (RN r)=true
   unfold RN at h ⊢
   cases z:okC r with
   |true=>
    rw[z]at h
    have h:aN (xp iw (FI (A9 r)))=true:=h
    show de (xp iw (FI (A9 r)))=true
    rw[ND]at h ⊢
    exact aa9 h
   |false=>rw[z]at h;exact zh h
  |false=>rw[q]at h;exact XC h
section
variable{C:PC}{kF:Nat}{f:ah}(R:qe C mac bx VB)
include R
theorem xB{ks:ac}{vs l:aa}{c:bF}(h:C.conc 1021 (.frz 0 ks vs::l) c):aN (mac ks)=true/\C.conc 1021 (mac ks++l) c:=
 (Zr Vc ((R.rdr _ _).mp h)).imp id (R.rdr _ _).mpr
end
theorem ahI{σ:AS}{r:Nat}{CL L:aa}{PI:aW}(hr:σ.get r=some (.orc 1021 CL)):ue wB PI [.ref r] (σ.set r (.orc 1021 L))=vI r σ.next (ls r (.orc 1021 L) σ.cells) (PI [.ref 0] ⟨1,[(0,.orc 1021 L)]⟩):=by
 show ob ((σ.set r (.orc 1021 L)).get r) _=_
 rw[ej hr];rfl
theorem KN{r n:Nat}{cells:List (Nat×bF)}{c:bF}{l cd:aa}{f:AV->AV->List AV}:I3 r n (ls r c cells) l cd f=I3 r n cells l cd f:=by
 unfold I3;rw[oy]
@[elab_as_elim] theorem aag {β:Type} {t:AV} {f:List Nat->Option β} {x:β} {Q:AV->Prop} (e:ab6 t f=some x) (kk: ∀ks vs,f ks=some x->Q (.frz 0 ks vs)):Q t:=
 sY e fun c ks vs e=>kS e fun q e=>by rw[aD q];exact kk ks vs e
@[elab_as_elim] theorem VP {β:Type} {ks:ac} {f:Nat->Nat->Nat->Option β} {x:β} {Q:List Nat->Prop} (e:Le ks f=some x) (kk: ∀a b c,f a b c=some x->Q [a,b,c]):Q ks:=
 kG e fun a r e=>kG (Q:=fun r=>Q (a::r)) e fun b r e=>kG (Q:=fun r=>Q (a::b::r)) e fun c r e=>kS e fun z e=>by rw[PK z];exact kk a b c e
theorem aee{σ:AS}{r:Nat}{CL l:aa}{m x y:Nat}(hr:σ.get r=some (.orc 1021 CL))(h:aN (vL m x y)=true):qC [.ref r] (σ.set r (.orc 1021 (vL m x y++l)))=ai7 σ r l m x y:=by
 refine(ahI hr).trans ?_
 refine aaf h (fun h1 h2 e=> ?_) (fun h1 h2 e=> ?_) fun h1 h2 e=> ?_
 ·rw[e,h1]
  show _=I3 r σ.next σ.cells l [] (fun a b=>Xr x y a b .none)
  refine yy ?_ (KN (c:=.orc 1021 (kn x (kd x y)++l)))
  exact lvE (P:=fun x=>kd x y∈kT x->iB r σ.next _ l x (kd x y)=iC r σ.next _ l x (kd x y)) h2 (fun h=>aqj _ _ _ _ h) (fun h=>aqk _ _ _ _ h) (fun h=>aoK _ _ _ _ h) (fun h=>aoL _ _ _ _ h) (U6 x y)
 ·rw[e,h1]
  show _=I3 r σ.next σ.cells l [qk (kd x y).1] (ah6 (kd x y).1)
  exact(nmR _ _ _ _ h2).trans KN
 ·rw[e,h1]
  show _=I3 r σ.next σ.cells l [] (aix (17+(kd 1 x).1) y)
  exact(rnR _ _ _ _ h2 y).trans KN
theorem PZ{m x y:Nat}(h:aj m 4=false):mac [m,x,y]=vL m x y:=by rw[Tc,h];rfl
theorem Rf{C:PC}{kF:Nat}{f:ah}(R:qe C mac bx VB)(hF:aF C kF f qC):aF C kF f wl:=pE hF fun args σ a ai e=>nZ e fun r as L hr e=>Ag e fun e=>by
 revert hr
 refine kG e fun t l e=> ?_
 refine aag e fun ks vs e=> ?_
 refine VP e fun m x y e hr=> ?_
 have h4:aj m 4=false:=by
  cases z:aj m 4 with
  |false=>rfl
  |true=>rw[aD z]at e;exact nn e
 refine⟨r,1021,_,hr,fun hc _=>⟨mac [m,x,y]++l,fun c h=>(xB R h).2,?_⟩⟩
 obtain⟨c,hc⟩:=hc
 have h:=(xB R hc).1
 rw[PZ h4]at h ⊢
 exact(aee hr h).trans e
section
variable{σ:AS}{r:Nat}{l:aa}
theorem aau(hr:σ.get r=some (.orc 1021 l)){F:aW}:fc dj F gK (.ref r) σ=some F:=ji (show FF (.ref r) σ=some 1021 from ji hr)
theorem Yb(hr:σ.get r=some (.orc 1021 l)){o:Option AV}(h:jH l 0=some o):Ic [.ref r] σ=some (o.getD .none,σ):=by
 have h1:rd σ r=some l:=ji hr
 have h2:Ic [.ref r] σ=ob (jH l 0) fun o=>some (od o some (some .none)|>.getD .none,σ):=ji h1
 rw[h2,h,b4,Vk]
theorem abW(hr:σ.get r=some (.orc 1021 l))(h:jH l 0=some none):jT [.ref r] σ=some (.bool false,σ):=by
 have hp:=Yb hr h
 show ob (jU [.ref r] σ) ik=_
 simp only[jU,yO,df,fD,eC,be,kE,o9,fe,ae,aX,b4,aau hr,ci,hp,tD,dz,su,sv,putN,d7,Ei,wA,fx,akD,dW,IU,SS,et,iM,dB,gu]
theorem abX(hr:σ.get r=some (.orc 1021 l)){t:AV}{w:ac}(h:jH l 0=some (some t))(h2:pF 2 t=some (.str w)):jT [.ref r] σ=some (.bool (dg w pT),σ):=by
 have hp:=Yb hr h
 show ob (jU [.ref r] σ) ik=_
 simp only[jU,yO,df,fD,eC,be,kE,o9,fe,ae,aX,b4,aau hr,ci,hp,nO,dz,su,sv,putN,d7,Ei,wA,fx,(jZ (σ:=σ) h2).2.2,dW,IU,(jZ (σ:=σ) h2).2.1,fj,iM,af,fY,(jZ (σ:=σ) h2).1,ZH,dB,gu]
 rfl
end
noncomputable def rh(l:aa):Bool:=l.all fun a=>(mR a fun c _ _=>some (!aj c 0)).getD true
theorem ah7{l:aa}:de l=true->rh l=true:=by
 induction l with
 |nil=>exact fun _=>rfl
 |cons a l ih=>
  refine fun h=>aE (Jc▸h) fun h1 h2=>Vp (Q:=fun a=>rh (a::l)=true) h1 fun c ks vs h=> ?_
  show(!aj c 0&&rh l)=true
  rw[h,ih h2];rfl
theorem adZ{l m:aa}:rh (l++m)=(rh l&&rh m):=kZ
theorem QV{mac:List Nat->List AV}{l:aa}:rh l=true->xp mac l=l/\u5 mac l:=by
 induction l with
 |nil=>exact fun _=>⟨rfl,trivial⟩
 |cons a l ih=>
  refine fun h=>aE (show((mR a fun c _ _=>some (!aj c 0)).getD true&&rh l)=true from h) fun h1 h2=> ?_
  obtain⟨i1,i2⟩:=ih h2
  by_cases q: ∃c ks vs,a= .frz c ks vs
  ·obtain⟨c,ks,vs,rfl⟩:=q
   have h1:aj c 0=false:=pj h1
   refine⟨by rw[EF,h1,i1];rfl,fun z=> ?_,i2⟩
   have z:(aj c 0&&CB ks)=true:=z
   rw[h1]at z;exact ff z
  ·have:xp mac (a::l)=a::xp mac l/\HB a=false:=by
    cases a<;>first|exact⟨rfl,rfl⟩|exact absurd ⟨_,_,_,rfl⟩ q
   exact⟨this.1.trans (congrArg (a:: ·) i1),fun z=>ff (this.2.symm.trans z),i2⟩
theorem ah8{l:aa}:aN (xp mac l)=true->rh (xp mac l)=true:=by
 induction l with
 |nil=>exact fun _=>rfl
 |cons a l ih=>
  intro h
  by_cases q: ∃c ks vs,a= .frz c ks vs
  ·obtain⟨c,ks,vs,rfl⟩:=q
   rw[EF]at h ⊢
   cases z:aj c 0 with
   |true=>
    rw[z]at h
    have h:aN (mac ks++xp mac l)=true:=h
    show rh (mac ks++xp mac l)=true
    rw[bW]at h
    rw[adZ]
    exact aE h fun h1 h2=>by rw[ah7 (Vc ks h1),ih h2];rfl
   |false=>
    rw[z]at h
    have h:(noRef (.frz c ks vs)&&aN (xp mac l))=true:=h
    show(!aj c 0&&rh (xp mac l))=true
    rw[z]
    exact aE h fun _ h2=>ih h2
  ·have:xp mac (a::l)=a::xp mac l/\rh (a::xp mac l)=rh (xp mac l):=by
    cases a<;>first|exact⟨rfl,rfl⟩|exact absurd ⟨_,_,_,rfl⟩ q
   rw[this.1]at h ⊢
   exact this.2.trans (aE (show(noRef a&&aN (xp mac l))=true from h) fun _ h2=>ih h2)
theorem Ve{l:aa}(h:Es l=true)(hm:rh l=true):jH l 0=some none\/ ∃t w,jH l 0=some (some t)/\pF 2 t=some (.str w)/\dg w pT=false:=by
 cases l with
 |nil=>exact .inl rfl
 |cons t l=>
  have h:(ob (pF 2 t) fun v=>d8 v fun w=>some (!dg w pT)).getD false=true:=h
  generalize e:ob (pF 2 t) _=o at h
  cases o with
  |none=>exact ff h
  |some b=>
   refine oE e fun v hv e=> ?_
   revert hv
   refine fO e fun w e hv=> ?_
   have hw:dg w pT=false:=pj ((aH e).trans h)
   refine .inr ⟨t,w,?_,hv,hw⟩
   refine sY (Q:=fun t=>rh (t::l)=true->jH (t::l) 0=some (some t)) hv (fun c ks vs _ hm=> ?_) hm
   have hc:aj c 0=false:=aE (show(!aj c 0&&rh l)=true from hm) fun h _=>pj h
   show(bif aj c 0 then _ else _)=_
   rw[hc];rfl
theorem adX{m x y:Nat}(h:aN (vL m x y)=true)(l:aa): ∃t,jH (vL m x y++l) 0=some (some t)/\pF 2 t=some (.str pT):=aaf h (fun _ _ e=>e▸⟨_,rfl,rfl⟩) (fun _ _ e=>e▸⟨_,rfl,rfl⟩) fun _ _ e=>e▸⟨_,rfl,rfl⟩
section
variable{C:PC}{kF:Nat}{f:ah}(R:qe C mac bx VB)
include R
theorem Sy{l:aa}{c:bF}(h:C.conc 1021 l c):rh (xp mac l)=true/\C.conc 1021 (xp mac l) c:=by
 have h:=(R.rdr _ _).mp h
 have hn:aN (xp mac l)=true:=by obtain⟨_,_,_,_,h,_⟩:=h;exact h
 have hm:=ah8 hn
 exact⟨hm,(R.rdr _ _).mpr (tp h (QV hm).1 fun _=>(QV hm).2)⟩
omit R in
theorem FZ{F F':aW}(hF:aF C kF f F)(H: ∀args σ a ai,F' args σ=some (a,ai)-> ∃r kk l,σ.get r=some (.orc kk l)/\((∃c,C.conc kk l c)-> ∃bz dJ gT,(∀c,C.conc kk l c->C.conc kk bz c)/\F args (σ.set r (.orc kk bz))=some (a,σ.set r (.orc kk dJ))/\(∀c,C.conc kk dJ c->C.conc kk gT c)/\ai=σ.set r (.orc kk gT))):aF C kF f F':=fun A Rm W σ s args vs Re hv tk a ai e=>by
 obtain⟨r,kk,l,hr,h1⟩:=H args σ a ai e
 obtain⟨p,a1,⟨c,q1,q2⟩,_⟩:=Re.cell r _ hr
 obtain⟨bz,dJ,gT,h1,e1,h2,h3⟩:=h1 ⟨c,q1⟩
 have hc:dU C W s.heap p (.orc kk bz):=⟨c,h1 c q1,q2⟩
 refine eo (hF A Rm W _ s args vs (Re.set hr a1 (fun _ _ _ e=>e) hc) hv tk a _ e1) fun v s' ⟨hs,W',le,R',hv'⟩=>⟨hs,W',le,?_,hv'⟩
 have e2:(σ.set r (.orc kk dJ)).get r=some (.orc kk dJ):=ej hr
 obtain⟨p,a1,⟨c,q1,q2⟩,_⟩:=R'.cell r _ e2
 have hc:dU C W' s'.heap p (.orc kk gT):=⟨c,h2 c q1,q2⟩
 have R3:=R'.set e2 a1 (fun _ _ _ e=>e) hc
 rw[h3,show σ.set r (.orc kk gT)=(σ.set r (.orc kk dJ)).set r (.orc kk gT) from congrArg (AS.mk σ.next) (oy ..).symm]
 exact R3
theorem PU{F:aW}{r:Nat}{σ ai:AS}{a b:AV}{l bz:aa}(hr:σ.get r=some (.orc 1021 l))(e:some (b,σ)=some (a,ai))(h: ∀c,C.conc 1021 l c->C.conc 1021 bz c)(he:xp mac bz=xp mac l)(hc: ∃c,C.conc 1021 l c)(hF:F [.ref r] (σ.set r (.orc 1021 bz))=some (b,σ.set r (.orc 1021 bz))):
  ∃bz dJ gT,(∀c,C.conc 1021 l c->C.conc 1021 bz c)/\F [.ref r] (σ.set r (.orc 1021 bz))=some (a,σ.set r (.orc 1021 dJ))/\(∀c,C.conc 1021 dJ c->C.conc 1021 gT c)/\ai=σ.set r (.orc 1021 gT):=by
 apply s2 e
 obtain⟨c,hc⟩:=hc
 exact⟨bz,bz,l,h,hF,fun c h=>(R.rdr _ _).mpr (tp ((R.rdr _ _).mp h) he.symm fun _=>((R.rdr _ _).mp hc).1),(EA hr).symm⟩
theorem Ka(hF:aF C kF f jT):aF C kF f p8:=FZ hF fun args σ a ai e=>nZ e fun r as L hr e=>Ag e fun e=>⟨r,1021,L,hr,fun hc=>by
 cases L with
 |nil=>exact PU R hr e (fun _ h=>h) rfl hc (abW (ej hr) rfl)
 |cons t l=>
  revert hr hc
  refine aag e fun ks vs e=> ?_
  intro hr hc
  obtain⟨c,hc'⟩:=hc
  refine bE e (fun z e=> ?_) fun z e=> ?_
  ·have hz:=PK z
   subst hz
   obtain⟨hm,_⟩:=Sy R hc'
   have hx:xp mac (xp mac (.frz 0 [] vs::l))=xp mac (.frz 0 [] vs::l):=(QV hm).1
   have hn:Es (xp mac (.frz 0 [] vs::l))=true:=((R.rdr _ _).mp hc').1.1 rfl
   refine PU R hr e (fun c h=>(Sy R h).2) hx ⟨c,hc'⟩ ?_
   rcases Ve hn hm with h|⟨t,w,h1,h2,h3⟩
   ·exact abW (ej hr) h
   ·rw[<- h3];exact abX (ej hr) h1 h2
  ·revert hr hc'
   refine VP e fun m x y e=>kS e fun z e hr hc'=> ?_
   have h4:aj m 4=false:=by
    cases q:aj m 4 with
    |false=>rfl
    |true=>rw[aD q]at z;exact ff z
   obtain⟨h1,h2⟩:=xB R hc'
   have hx:xp mac (mac [m,x,y]++l)=xp mac (.frz 0 [m,x,y] vs::l):=(EE (Vc _ h1)).1
   refine PU R hr e (fun c h=>(xB R h).2) hx ⟨c,hc'⟩ ?_
   rw[PZ h4]at h1 ⊢
   obtain⟨t,h3,h4⟩:=adX h1 l
   exact abX (ej hr) h3 h4⟩
end
noncomputable def eF(lv i0:Nat)(c:Bool)(n:Nat)(l:aa)(ts:List Tn):Option (AV×Nat×List AV):=bw (xe [.ref 0] ⟨1,[(0,.orc 1021 (FI ⟨lv,⟨i0,c⟩,ts,n⟩++Yw::l))]⟩) fun a σ=>sr σ 0 fun k l'=>some (a,k,l')
noncomputable def eG(lv i0:Nat)(c:Bool)(n:Nat)(l:aa)(ts:List Tn):Option (AV×Nat×List AV):=some (.lst [d4 ⟨lv,⟨i0,c⟩,ts,n⟩],1021,Yw::l)
noncomputable def S14(i j k:Nat):List Tn:=[.leaf ⟨i,false⟩,.leaf ⟨i,true⟩,.grp ⟨i,false⟩ ⟨j,false⟩,.grp ⟨i,false⟩ ⟨j,true⟩,.grp ⟨i,true⟩ ⟨j,false⟩,.grp ⟨i,true⟩ ⟨j,true⟩,.grp2 ⟨i,false⟩ ⟨j,false⟩ ⟨k,false⟩,.grp2 ⟨i,false⟩ ⟨j,false⟩ ⟨k,true⟩,.grp2 ⟨i,false⟩ ⟨j,true⟩ ⟨k,false⟩,.grp2 ⟨i,false⟩ ⟨j,true⟩ ⟨k,true⟩,.grp2 ⟨i,true⟩ ⟨j,false⟩ ⟨k,false⟩,.grp2 ⟨i,true⟩ ⟨j,false⟩ ⟨k,true⟩,.grp2 ⟨i,true⟩ ⟨j,true⟩ ⟨k,false⟩,.grp2 ⟨i,true⟩ ⟨j,true⟩ ⟨k,true⟩]
def SF(i0:Nat)(c:Bool)(n:Nat)(l:aa)(i j k:Nat)(p:Tn->List Tn):Prop:=(S14 i j k).map (fun t=>eF 1 i0 c n l (p t))=(S14 i j k).map (fun t=>eG 1 i0 c n l (p t))
section
variable(i0 e:Nat)(l:aa)(a b d i j k:Nat)
theorem anP:eF 1 i0 false 0 l []=eG 1 i0 false 0 l []:=by kernel_rfl
theorem anT:SF i0 false 0 l i j k (fun t=>[t]):=by unfold SF;kernel_rfl
theorem agl:SF i0 false 0 l i j k (fun t=>[.leaf ⟨a,false⟩,t]):=by unfold SF;kernel_rfl
theorem agm:SF i0 false 0 l i j k (fun t=>[.leaf ⟨a,true⟩,t]):=by unfold SF;kernel_rfl
theorem agn:SF i0 false 0 l i j k (fun t=>[.grp ⟨a,false⟩ ⟨b,false⟩,t]):=by unfold SF;kernel_rfl
theorem ago:SF i0 false 0 l i j k (fun t=>[.grp ⟨a,false⟩ ⟨b,true⟩,t]):=by unfold SF;kernel_rfl
theorem agp:SF i0 false 0 l i j k (fun t=>[.grp ⟨a,true⟩ ⟨b,false⟩,t]):=by unfold SF;kernel_rfl
theorem agq:SF i0 false 0 l i j k (fun t=>[.grp ⟨a,true⟩ ⟨b,true⟩,t]):=by unfold SF;kernel_rfl
theorem agr:SF i0 false 0 l i j k (fun t=>[.grp2 ⟨a,false⟩ ⟨b,false⟩ ⟨d,false⟩,t]):=by unfold SF;kernel_rfl
theorem ags:SF i0 false 0 l i j k (fun t=>[.grp2 ⟨a,false⟩ ⟨b,false⟩ ⟨d,true⟩,t]):=by unfold SF;kernel_rfl
theorem agt:SF i0 false 0 l i j k (fun t=>[.grp2 ⟨a,false⟩ ⟨b,true⟩ ⟨d,false⟩,t]):=by unfold SF;kernel_rfl
theorem agu:SF i0 false 0 l i j k (fun t=>[.grp2 ⟨a,false⟩ ⟨b,true⟩ ⟨d,true⟩,t]):=by unfold SF;kernel_rfl
theorem adf:SF i0 false 0 l i j k (fun t=>[.grp2 ⟨a,true⟩ ⟨b,false⟩ ⟨d,false⟩,t]):=by unfold SF;kernel_rfl
theorem adg:SF i0 false 0 l i j k (fun t=>[.grp2 ⟨a,true⟩ ⟨b,false⟩ ⟨d,true⟩,t]):=by unfold SF;kernel_rfl
theorem adh:SF i0 false 0 l i j k (fun t=>[.grp2 ⟨a,true⟩ ⟨b,true⟩ ⟨d,false⟩,t]):=by unfold SF;kernel_rfl
theorem adi:SF i0 false 0 l i j k (fun t=>[.grp2 ⟨a,true⟩ ⟨b,true⟩ ⟨d,true⟩,t]):=by unfold SF;kernel_rfl
theorem anQ:eF 1 i0 false (e+1) l []=eG 1 i0 false (e+1) l []:=by kernel_rfl
theorem anU:SF i0 false (e+1) l i j k (fun t=>[t]):=by unfold SF;kernel_rfl
theorem agv:SF i0 false (e+1) l i j k (fun t=>[.leaf ⟨a,false⟩,t]):=by unfold SF;kernel_rfl
theorem agw:SF i0 false (e+1) l i j k (fun t=>[.leaf ⟨a,true⟩,t]):=by unfold SF;kernel_rfl
theorem agx:SF i0 false (e+1) l i j k (fun t=>[.grp ⟨a,false⟩ ⟨b,false⟩,t]):=by unfold SF;kernel_rfl
theorem agy:SF i0 false (e+1) l i j k (fun t=>[.grp ⟨a,false⟩ ⟨b,true⟩,t]):=by unfold SF;kernel_rfl
theorem agz:SF i0 false (e+1) l i j k (fun t=>[.grp ⟨a,true⟩ ⟨b,false⟩,t]):=by unfold SF;kernel_rfl
theorem agA:SF i0 false (e+1) l i j k (fun t=>[.grp ⟨a,true⟩ ⟨b,true⟩,t]):=by unfold SF;kernel_rfl
theorem agB:SF i0 false (e+1) l i j k (fun t=>[.grp2 ⟨a,false⟩ ⟨b,false⟩ ⟨d,false⟩,t]):=by unfold SF;kernel_rfl
theorem agC:SF i0 false (e+1) l i j k (fun t=>[.grp2 ⟨a,false⟩ ⟨b,false⟩ ⟨d,true⟩,t]):=by unfold SF;kernel_rfl
theorem agD:SF i0 false (e+1) l i j k (fun t=>[.grp2 ⟨a,false⟩ ⟨b,true⟩ ⟨d,false⟩,t]):=by unfold SF;kernel_rfl
theorem agE:SF i0 false (e+1) l i j k (fun t=>[.grp2 ⟨a,false⟩ ⟨b,true⟩ ⟨d,true⟩,t]):=by unfold SF;kernel_rfl
theorem adj:SF i0 false (e+1) l i j k (fun t=>[.grp2 ⟨a,true⟩ ⟨b,false⟩ ⟨d,false⟩,t]):=by unfold SF;kernel_rfl
theorem adk:SF i0 false (e+1) l i j k (fun t=>[.grp2 ⟨a,true⟩ ⟨b,false⟩ ⟨d,true⟩,t]):=by unfold SF;kernel_rfl
theorem adl:SF i0 false (e+1) l i j k (fun t=>[.grp2 ⟨a,true⟩ ⟨b,true⟩ ⟨d,false⟩,t]):=by unfold SF;kernel_rfl
theorem adm:SF i0 false (e+1) l i j k (fun t=>[.grp2 ⟨a,true⟩ ⟨b,true⟩ ⟨d,true⟩,t]):=by unfold SF;kernel_rfl
theorem apI:eF 77 i0 false 0 l []=eG 77 i0 false 0 l []:=by kernel_rfl
theorem anR:eF 1 i0 true 0 l []=eG 1 i0 true 0 l []:=by kernel_rfl
theorem anV:SF i0 true 0 l i j k (fun t=>[t]):=by unfold SF;kernel_rfl
theorem agF:SF i0 true 0 l i j k (fun t=>[.leaf ⟨a,false⟩,t]):=by unfold SF;kernel_rfl
theorem agG:SF i0 true 0 l i j k (fun t=>[.leaf ⟨a,true⟩,t]):=by unfold SF;kernel_rfl
theorem agH:SF i0 true 0 l i j k (fun t=>[.grp ⟨a,false⟩ ⟨b,false⟩,t]):=by unfold SF;kernel_rfl
theorem agI:SF i0 true 0 l i j k (fun t=>[.grp ⟨a,false⟩ ⟨b,true⟩,t]):=by unfold SF;kernel_rfl
theorem agJ:SF i0 true 0 l i j k (fun t=>[.grp ⟨a,true⟩ ⟨b,false⟩,t]):=by unfold SF;kernel_rfl
theorem agK:SF i0 true 0 l i j k (fun t=>[.grp ⟨a,true⟩ ⟨b,true⟩,t]):=by unfold SF;kernel_rfl
theorem agL:SF i0 true 0 l i j k (fun t=>[.grp2 ⟨a,false⟩ ⟨b,false⟩ ⟨d,false⟩,t]):=by unfold SF;kernel_rfl
theorem agM:SF i0 true 0 l i j k (fun t=>[.grp2 ⟨a,false⟩ ⟨b,false⟩ ⟨d,true⟩,t]):=by unfold SF;kernel_rfl
theorem agN:SF i0 true 0 l i j k (fun t=>[.grp2 ⟨a,false⟩ ⟨b,true⟩ ⟨d,false⟩,t]):=by unfold SF;kernel_rfl
theorem agO:SF i0 true 0 l i j k (fun t=>[.grp2 ⟨a,false⟩ ⟨b,true⟩ ⟨d,true⟩,t]):=by unfold SF;kernel_rfl
theorem adn:SF i0 true 0 l i j k (fun t=>[.grp2 ⟨a,true⟩ ⟨b,false⟩ ⟨d,false⟩,t]):=by unfold SF;kernel_rfl
theorem ado:SF i0 true 0 l i j k (fun t=>[.grp2 ⟨a,true⟩ ⟨b,false⟩ ⟨d,true⟩,t]):=by unfold SF;kernel_rfl
theorem adp:SF i0 true 0 l i j k (fun t=>[.grp2 ⟨a,true⟩ ⟨b,true⟩ ⟨d,false⟩,t]):=by unfold SF;kernel_rfl
theorem adq:SF i0 true 0 l i j k (fun t=>[.grp2 ⟨a,true⟩ ⟨b,true⟩ ⟨d,true⟩,t]):=by unfold SF;kernel_rfl
theorem anS:eF 1 i0 true (e+1) l []=eG 1 i0 true (e+1) l []:=by kernel_rfl
theorem anW:SF i0 true (e+1) l i j k (fun t=>[t]):=by unfold SF;kernel_rfl
theorem agP:SF i0 true (e+1) l i j k (fun t=>[.leaf ⟨a,false⟩,t]):=by unfold SF;kernel_rfl
theorem agQ:SF i0 true (e+1) l i j k (fun t=>[.leaf ⟨a,true⟩,t]):=by unfold SF;kernel_rfl
theorem agR:SF i0 true (e+1) l i j k (fun t=>[.grp ⟨a,false⟩ ⟨b,false⟩,t]):=by unfold SF;kernel_rfl
theorem agS:SF i0 true (e+1) l i j k (fun t=>[.grp ⟨a,false⟩ ⟨b,true⟩,t]):=by unfold SF;kernel_rfl
theorem agT:SF i0 true (e+1) l i j k (fun t=>[.grp ⟨a,true⟩ ⟨b,false⟩,t]):=by unfold SF;kernel_rfl
theorem agU:SF i0 true (e+1) l i j k (fun t=>[.grp ⟨a,true⟩ ⟨b,true⟩,t]):=by unfold SF;kernel_rfl
theorem agV:SF i0 true (e+1) l i j k (fun t=>[.grp2 ⟨a,false⟩ ⟨b,false⟩ ⟨d,false⟩,t]):=by unfold SF;kernel_rfl
theorem agW:SF i0 true (e+1) l i j k (fun t=>[.grp2 ⟨a,false⟩ ⟨b,false⟩ ⟨d,true⟩,t]):=by unfold SF;kernel_rfl
theorem agX:SF i0 true (e+1) l i j k (fun t=>[.grp2 ⟨a,false⟩ ⟨b,true⟩ ⟨d,false⟩,t]):=by unfold SF;kernel_rfl
theorem agY:SF i0 true (e+1) l i j k (fun t=>[.grp2 ⟨a,false⟩ ⟨b,true⟩ ⟨d,true⟩,t]):=by unfold SF;kernel_rfl
theorem adr:SF i0 true (e+1) l i j k (fun t=>[.grp2 ⟨a,true⟩ ⟨b,false⟩ ⟨d,false⟩,t]):=by unfold SF;kernel_rfl
theorem ads:SF i0 true (e+1) l i j k (fun t=>[.grp2 ⟨a,true⟩ ⟨b,false⟩ ⟨d,true⟩,t]):=by unfold SF;kernel_rfl
theorem adt:SF i0 true (e+1) l i j k (fun t=>[.grp2 ⟨a,true⟩ ⟨b,true⟩ ⟨d,false⟩,t]):=by unfold SF;kernel_rfl
theorem adu:SF i0 true (e+1) l i j k (fun t=>[.grp2 ⟨a,true⟩ ⟨b,true⟩ ⟨d,true⟩,t]):=by unfold SF;kernel_rfl
theorem apJ:eF 77 i0 true 0 l []=eG 77 i0 true 0 l []:=by kernel_rfl
end
theorem tnE{P:Tn->Prop}(h0: ∀i,P (.leaf ⟨i,false⟩))(h1: ∀i,P (.leaf ⟨i,true⟩))(h2: ∀i j,P (.grp ⟨i,false⟩ ⟨j,false⟩))(h3: ∀i j,P (.grp ⟨i,false⟩ ⟨j,true⟩))(h4: ∀i j,P (.grp ⟨i,true⟩ ⟨j,false⟩))(h5: ∀i j,P (.grp ⟨i,true⟩ ⟨j,true⟩))(h6: ∀i j k,P (.grp2 ⟨i,false⟩ ⟨j,false⟩ ⟨k,false⟩))(h7: ∀i j k,P (.grp2 ⟨i,false⟩ ⟨j,false⟩ ⟨k,true⟩))(h8: ∀i j k,P (.grp2 ⟨i,false⟩ ⟨j,true⟩ ⟨k,false⟩))(h9: ∀i j k,P (.grp2 ⟨i,false⟩ ⟨j,true⟩ ⟨k,true⟩))(h10: ∀i j k,P (.grp2 ⟨i,true⟩ ⟨j,false⟩ ⟨k,false⟩))(h11: ∀i j k,P (.grp2 ⟨i,true⟩ ⟨j,false⟩ ⟨k,true⟩))(h12: ∀i j k,P (.grp2 ⟨i,true⟩ ⟨j,true⟩ ⟨k,false⟩))(h13: ∀i j k,P (.grp2 ⟨i,true⟩ ⟨j,true⟩ ⟨k,true⟩))(t:Tn):P t:=by
 cases t with
 |leaf l=>
  obtain⟨i,c⟩:=l
  cases c
  ·exact h0 i
  ·exact h1 i
 |grp g a=>
  obtain⟨i,c⟩:=g
  obtain⟨j,d⟩:=a
  cases c<;>cases d
  ·exact h2 i j
  ·exact h3 i j
  ·exact h4 i j
  ·exact h5 i j
 |grp2 g a b=>
  obtain⟨i,c⟩:=g
  obtain⟨j,d⟩:=a
  obtain⟨k,e⟩:=b
  cases c<;>cases d<;>cases e
  ·exact h6 i j k
  ·exact h7 i j k
  ·exact h8 i j k
  ·exact h9 i j k
  ·exact h10 i j k
  ·exact h11 i j k
  ·exact h12 i j k
  ·exact h13 i j k
theorem aoh{P:Tn->Prop}(h: ∀i j k,∀t∈S14 i j k,P t)(t:Tn):P t:=tnE (P:=P) (fun i=>h i 0 0 _ (a8 (i:=0) rfl)) (fun i=>h i 0 0 _ (a8 (i:=1) rfl)) (fun i j=>h i j 0 _ (a8 (i:=2) rfl)) (fun i j=>h i j 0 _ (a8 (i:=3) rfl)) (fun i j=>h i j 0 _ (a8 (i:=4) rfl)) (fun i j=>h i j 0 _ (a8 (i:=5) rfl)) (fun i j k=>h i j k _ (a8 (i:=6) rfl)) (fun i j k=>h i j k _ (a8 (i:=7) rfl)) (fun i j k=>h i j k _ (a8 (i:=8) rfl)) (fun i j k=>h i j k _ (a8 (i:=9) rfl)) (fun i j k=>h i j k _ (a8 (i:=10) rfl)) (fun i j k=>h i j k _ (a8 (i:=11) rfl)) (fun i j k=>h i j k _ (a8 (i:=12) rfl)) (fun i j k=>h i j k _ (a8 (i:=13) rfl)) t
theorem vx{i0:Nat}{c:Bool}{n:Nat}{l:aa}{p:Tn->List Tn}(h: ∀i j k,SF i0 c n l i j k p)(t:Tn):eF 1 i0 c n l (p t)=eG 1 i0 c n l (p t):=aoh (P:=fun t=>eF 1 i0 c n l (p t)=eG 1 i0 c n l (p t)) (fun i j k t ht=>iG.mp (h i j k) t ht) t
section
variable(i0 e:Nat)(l:aa)
theorem anJ(s t:Tn):eF 1 i0 false 0 l [s,t]=eG 1 i0 false 0 l [s,t]:=vx (p:=fun t=>[s,t]) (fun i j k=>tnE (P:=fun s=>SF i0 false 0 l i j k (fun t=>[s,t])) (fun a=>agl i0 l a i j k) (fun a=>agm i0 l a i j k) (fun a b=>agn i0 l a b i j k) (fun a b=>ago i0 l a b i j k) (fun a b=>agp i0 l a b i j k) (fun a b=>agq i0 l a b i j k) (fun a b d=>agr i0 l a b d i j k) (fun a b d=>ags i0 l a b d i j k) (fun a b d=>agt i0 l a b d i j k) (fun a b d=>agu i0 l a b d i j k) (fun a b d=>adf i0 l a b d i j k) (fun a b d=>adg i0 l a b d i j k) (fun a b d=>adh i0 l a b d i j k) (fun a b d=>adi i0 l a b d i j k) s) t
theorem anK(s t:Tn):eF 1 i0 false (e+1) l [s,t]=eG 1 i0 false (e+1) l [s,t]:=vx (p:=fun t=>[s,t]) (fun i j k=>tnE (P:=fun s=>SF i0 false (e+1) l i j k (fun t=>[s,t])) (fun a=>agv i0 e l a i j k) (fun a=>agw i0 e l a i j k) (fun a b=>agx i0 e l a b i j k) (fun a b=>agy i0 e l a b i j k) (fun a b=>agz i0 e l a b i j k) (fun a b=>agA i0 e l a b i j k) (fun a b d=>agB i0 e l a b d i j k) (fun a b d=>agC i0 e l a b d i j k) (fun a b d=>agD i0 e l a b d i j k) (fun a b d=>agE i0 e l a b d i j k) (fun a b d=>adj i0 e l a b d i j k) (fun a b d=>adk i0 e l a b d i j k) (fun a b d=>adl i0 e l a b d i j k) (fun a b d=>adm i0 e l a b d i j k) s) t
theorem anL(s t:Tn):eF 1 i0 true 0 l [s,t]=eG 1 i0 true 0 l [s,t]:=vx (p:=fun t=>[s,t]) (fun i j k=>tnE (P:=fun s=>SF i0 true 0 l i j k (fun t=>[s,t])) (fun a=>agF i0 l a i j k) (fun a=>agG i0 l a i j k) (fun a b=>agH i0 l a b i j k) (fun a b=>agI i0 l a b i j k) (fun a b=>agJ i0 l a b i j k) (fun a b=>agK i0 l a b i j k) (fun a b d=>agL i0 l a b d i j k) (fun a b d=>agM i0 l a b d i j k) (fun a b d=>agN i0 l a b d i j k) (fun a b d=>agO i0 l a b d i j k) (fun a b d=>adn i0 l a b d i j k) (fun a b d=>ado i0 l a b d i j k) (fun a b d=>adp i0 l a b d i j k) (fun a b d=>adq i0 l a b d i j k) s) t
theorem anM(s t:Tn):eF 1 i0 true (e+1) l [s,t]=eG 1 i0 true (e+1) l [s,t]:=vx (p:=fun t=>[s,t]) (fun i j k=>tnE (P:=fun s=>SF i0 true (e+1) l i j k (fun t=>[s,t])) (fun a=>agP i0 e l a i j k) (fun a=>agQ i0 e l a i j k) (fun a b=>agR i0 e l a b i j k) (fun a b=>agS i0 e l a b i j k) (fun a b=>agT i0 e l a b i j k) (fun a b=>agU i0 e l a b i j k) (fun a b d=>agV i0 e l a b d i j k) (fun a b d=>agW i0 e l a b d i j k) (fun a b d=>agX i0 e l a b d i j k) (fun a b d=>agY i0 e l a b d i j k) (fun a b d=>adr i0 e l a b d i j k) (fun a b d=>ads i0 e l a b d i j k) (fun a b d=>adt i0 e l a b d i j k) (fun a b d=>adu i0 e l a b d i j k) s) t
theorem anN{lv i0:Nat}{c:Bool}{ts:List Tn}{n:Nat}(h:(bif aj lv 1 then cT ts.length 2 else aj lv 77&&(ts.isEmpty&&aj n 0))=true)(l:aa):eF lv i0 c n l ts=eG lv i0 c n l ts:=by
 cases q:aj lv 1 with
 |true=>
  rw[q]at h
  rw[aD q]
  cases ts with
  |nil=>
   cases c<;>cases n
   ·exact anP i0 l
   ·exact anQ i0 _ l
   ·exact anR i0 l
   ·exact anS i0 _ l
  |cons s ts=>cases ts with
   |nil=>
    cases c<;>cases n
    ·exact vx (p:=fun t=>[t]) (fun i j k=>anT i0 l i j k) s
    ·exact vx (p:=fun t=>[t]) (fun i j k=>anU i0 _ l i j k) s
    ·exact vx (p:=fun t=>[t]) (fun i j k=>anV i0 l i j k) s
    ·exact vx (p:=fun t=>[t]) (fun i j k=>anW i0 _ l i j k) s
   |cons t ts=>cases ts with
    |nil=>
     cases c<;>cases n
     ·exact anJ i0 l s t
     ·exact anK i0 _ l s t
     ·exact anL i0 l s t
     ·exact anM i0 _ l s t
    |cons u ts=>exact absurd (av h) (yC.mpr (ba (ba (ba (aU _)))))
 |false=>
  rw[q]at h
  have h:(aj lv 77&&(ts.isEmpty&&aj n 0))=true:=h
  refine aE h fun h1 h=>aE h fun h2 h3=> ?_
  rw[aD h1,ek.mp h2,aD h3]
  cases c
  ·exact apI i0 l
  ·exact apJ i0 l
end
theorem gU{a:AV}{l:aa}:aN (a::l)=(noRef a&&aN l):=rfl
theorem XO:aN []=true:=rfl
theorem XQ{s:ac}:noRef (.str s)=true:=rfl
theorem XN{i:Int}:noRef (.int i)=true:=rfl
theorem XK{b:Bool}:noRef (.bool b)=true:=rfl
theorem XJ:noRef .none=true:=rfl
theorem aca:noRef .opq=true:=rfl
theorem sq{l:aa}:noRef (.lst l)=aN l:=rfl
theorem aoC(p:Nat):noRef (xR p)=true:=by
 unfold xR
 cases aj p 0
 ·cases aj p 1
  ·cases aj p 2<;>rfl
  ·rfl
 ·rfl
theorem aoB(w:Nat):noRef (Qf w)=true:=by
 unfold Qf
 cases aj w 2
 ·cases aj w 3<;>rfl
 ·rfl
theorem Hn{x:Nat×Nat×Nat}{c k p r:AV}:aN (j6 x c k p r)=(noRef c&&(noRef k&&(noRef p&&noRef r))):=by
 simp only[j6,gU,XQ,XN,XK,XJ,aoC,aoB,XO,Bool.true_and,zE]
theorem Hm(lvl:Nat)(l:Lf):noRef (conds lvl l)=true:=by
 obtain⟨i,c⟩:=l
 cases c<;>rfl
theorem ql(lvl:Nat)(l:Lf):noRef (ol lvl l .opq)=true:=by
 show(true&&aN (j6 _ _ _ _ _))=true
 rw[Hn,Hm];rfl
theorem aoD(t:Tn):noRef (sE t)=true:=by
 cases t with
 |leaf l=>exact ql 5 l
 |grp g a=>
  show(true&&aN (j6 _ _ (.lst [ol 10 a .opq]) _ _))=true
  rw[Hn,Hm,sq,gU,ql];rfl
 |grp2 g a b=>
  show(true&&aN (j6 _ _ (.lst [ol 10 a .opq,ol 10 b .opq]) _ _))=true
  rw[Hn,Hm,sq,gU,gU,ql,ql];rfl
theorem NM(ts:List Tn):aN (Dx ts)=true:=by
 induction ts with
 |nil=>rfl
 |cons t ts ih=>exact(congr (congrArg (· && ·) (aoD t)) ih)
theorem Vh(r:Rt):aN (qK r)=true:=by
 obtain⟨lv,it,ts,n⟩:=r
 cases n with
 |zero=>rfl
 |succ l=>
  show(aN (j8 _ l .opq)&&true)=true
  have:noRef (xX l)=true:=by unfold xX;cases l<;>rfl
  simp only[j8,gU,XQ,XN,XK,XJ,aca,sq,this,XO,rt]
theorem aic(r:Rt):aN (Dd r)=true:=by
 unfold Dd
 rw[Hn,Hm,sq,bW,NM,Vh];rfl
theorem KR(r:Rt):noRef (d4 r)=true:=by
 show(true&&aN (Dd r))=true
 rw[aic];rfl
theorem Xq{pick:AV->AS->List Nat}{F:aW}{σ:AS}{r k:Nat}{L:aa}(hr:σ.get r=some (.orc k L)):ue pick F [.ref r] σ=bw (F [.ref 0] ⟨1,[(0,.orc k L)]⟩) fun a ai=>sr ai 0 fun k' l'=>bif FP 0 (pick a ai)then none else imp (Xu r σ.next (pick a ai)) (pick a ai) σ.next (ls r (.orc k' l') σ.cells) a ai:=ji hr
theorem SU{σ ay:AS}{r:Nat}{CL L l':aa}{PI:aW}{a:AV}(hr:σ.get r=some (.orc 1021 CL))(h:PI [.ref 0] ⟨1,[(0,.orc 1021 L)]⟩=some (a,ay))(h0:ay.get 0=some (.orc 1021 l'))(ha:noRef a=true):
  ue nU PI [.ref r] (σ.set r (.orc 1021 L))=some (a,σ.set r (.orc 1021 l')):=by
 rw[Xq (ej hr),h,aX]
 show ob (ay.get 0) _=_
 rw[h0]
 show ob (uC _ a) _=_
 rw[uj ha]
 show some (a,AS.mk σ.next (ls r (.orc 1021 l') (ls r (.orc 1021 L) σ.cells)))=_
 rw[oy];rfl
theorem UQ{σ:AS}{r:Nat}{CL l:aa}(hr:σ.get r=some (.orc 1021 CL)){R:Rt}(hR:XZ R=true):nz [.ref r] (σ.set r (.orc 1021 (FI R++Yw::l)))=some (.lst [d4 R],σ.set r (.orc 1021 (Yw::l))):=by
 obtain⟨lv,⟨i0,c⟩,ts,n⟩:=R
 have h:eF lv i0 c n l ts=some (.lst [d4 ⟨lv,⟨i0,c⟩,ts,n⟩],1021,Yw::l):=anN hR l
 refine fM h fun a ay h1 h=>FT h fun k l' h0 h=> ?_
 have h:=aH h
 cases h
 exact SU hr h1 h0 (by rw[sq,gU,KR];rfl)
@[elab_as_elim] theorem apb {a:AV} {Q:AV->Prop} (h:HB a=true) (kk: ∀vs,Q (.frz 0 [] vs)):Q a:=by
 unfold HB at h
 generalize e:mR a _=o at h
 cases o with
 |none=>exact ff h
 |some b=>
  refine sY e fun c ks vs e=> ?_
  have e:(aj c 0&&CB ks)=true:=(aH e).trans h
  exact aE e fun h1 h2=>by rw[aD h1,PK h2];exact kk vs
theorem alU{l:List (List Nat)}(h: ∀ks∈l,mac ks=iw ks/\CB ks=false):xp mac (rM l)=xp iw (rM l)/\ ∀m,u5 mac m->u5 mac (rM l++m):=by
 induction l with
 |nil=>exact⟨rfl,fun _ w=>w⟩
 |cons ks l ih=>
  obtain⟨h1,h2⟩:=h ks (bb ..)
  obtain⟨i1,i2⟩:=ih fun k hk=>h k (aQ _ hk)
  refine⟨?_,fun m w=>⟨fun z=> ?_,i2 m w⟩⟩
  ·show mac ks++xp mac (rM l)=iw ks++xp iw (rM l)
   rw[h1,i1]
  ·have z:CB ks=true:=z
   rw[h2]at z;exact ff z
def en3(ks:ac):Prop:=mac ks=iw ks/\CB ks=false
theorem Ha(lvl:Nat)(l:Lf): ∀ks∈G9 lvl l,en3 ks:=by
 obtain⟨i,c⟩:=l
 cases c with
 |false=>exact fun ks h=>(aO.mp h)▸⟨rfl,rfl⟩
 |true=>exact fun ks h=>(aG.mp h).elim (fun h=>h▸⟨rfl,rfl⟩) fun h=>(aO.mp h)▸⟨rfl,rfl⟩
theorem xE{l m:List (List Nat)}(h1: ∀ks∈l,en3 ks)(h2: ∀ks∈m,en3 ks): ∀ks∈l++m,en3 ks:=fun ks h=>(cQ.mp h).elim (h1 ks) (h2 ks)
theorem anO(r:Rt): ∀ks∈aga r,en3 ks:=by
 refine xE (Ha _ _) (xE ?_ ?_)
 ·induction r.ts with
  |nil=>exact fun _ h=>absurd h bc
  |cons t ts ih=>
   refine xE ?_ ih
   cases t with
   |leaf l=>exact Ha 5 l
   |grp g a=>exact xE (Ha 5 g) (Ha 10 a)
   |grp2 g a b=>exact xE (Ha 5 g) (xE (Ha 10 a) (Ha 10 b))
 ·cases r.ren with
  |zero=>exact fun _ h=>absurd h bc
  |succ l=>exact fun ks h=>(aO.mp h)▸⟨rfl,rfl⟩
section
variable{C:PC}{kF:Nat}{f:ah}(R:qe C mac bx VB)
include R
theorem MD(hF:aF C kF f nz):aF C kF f nt:=FZ hF fun args σ a ai e=>nZ e fun r as L hr e=>Ag e fun e=>by
 revert hr
 refine kG e fun t L e=> ?_
 refine kG e fun t' l e=>kS e fun zt e=> ?_
 refine apb zt fun vs'=> ?_
 refine aag e fun ks vs e=> ?_
 refine kG e fun m ks e=>kS e fun z e=> ?_
 rw[aD z]
 refine kG e fun lvl code e=> ?_
 intro hr
 refine⟨r,1021,_,hr,fun hc=> ?_⟩
 apply s2 e
 obtain⟨c,hc⟩:=hc
 have hn:=(xB R hc).1
 have hn:aN (RN (lvl::code))=true:=hn
 have hk:okC (lvl::code)=true/\mac (4::lvl::code)=xp iw (FI (A9 (lvl::code))):=by
  show _/\RN (lvl::code)=_
  unfold RN at hn ⊢
  cases z:okC (lvl::code)with
  |true=>exact⟨rfl,rfl⟩
  |false=>rw[z]at hn;exact zh hn
 obtain⟨hl,hk1⟩:aj (A9 (lvl::code)).lvl lvl=true/\XZ (A9 (lvl::code))=true:=aE hk.1 hH
 have hl:=aD hl
 obtain⟨m1,m2⟩:=alU (anO (A9 (lvl::code)))
 refine⟨FI (A9 (lvl::code))++Yw::l,Yw::l,l,fun c h=> ?_,(UQ hr hk1).trans (by unfold d4;rw[hl]),fun c h=>(R.rdr _ _).mpr (tp ((R.rdr _ _).mp h) rfl fun w=>w.2),rfl⟩
 have h:=(R.rdr _ _).mp h
 refine(R.rdr _ _).mpr (tp h ?_ fun w=> ?_)
 ·show _=mac (4::lvl::code)++xp mac l
  rw[hk.2,ND,zD,m1];rfl
 ·rw[ND];exact m2 _ ⟨fun _=>w.2.1 rfl,w.2.2⟩
end
section
variable(x nn:Nat)(cells:List (Nat×bF))(r:aa)
noncomputable def Qb(lvl L:Nat)(f:Lf):Option (AV×AS):=some (.ref (nn+1),⟨nn+2,(nn,.lst [])::(nn+1,.inst cg fW (.int (am lvl)::j6 (kd L f.i) (conds L f) (.ref nn) .none .none))::ls x (.orc 0 r) cells⟩)
noncomputable def liF(lvl n e d:Nat):Option (AV×AS):=vI x nn cells (qA [.ref 0,.int (.ofNat lvl),.str (nm n)] ⟨1,[(0,.orc 0 (m2 5 d::m2 4 e::r))]⟩)
noncomputable def liG(lvl n e d:Nat):Option (AV×AS):=Qb x nn cells r lvl lvl ⟨Fc lvl n (mV d) 3,CD e⟩
noncomputable def llF(lvl n e:Nat)(p d:Nat):Option (AV×AS):=vI x nn cells (wt [.ref 0,.int (.ofNat lvl),.str (nm n)] ⟨1,[(0,.orc 0 (m2 5 d::m2 4 e::m2 3 p::r))]⟩)
noncomputable def llG(lvl n e:Nat)(p d:Nat):Option (AV×AS):=Qb x nn cells r lvl (PR lvl n) ⟨Fc (PR lvl n) n (mV d) p,CD e⟩
def LI(lvl n e:Nat):Prop:=(cu 5).map (liF x nn cells r lvl n e)=(cu 5).map (liG x nn cells r lvl n e)
def LL(lvl n e:Nat):Prop:=(cu 3).map (fun p=>(cu 5).map (llF x nn cells r lvl n e p))=(cu 3).map (fun p=>(cu 5).map (llG x nn cells r lvl n e p))
end
theorem rg{β:Type}{f g:Nat->β}{m:Nat}(h:(cu m).map f=(cu m).map g){i:Nat}(hi:i<m):f i=g i:=iG.mp h i (pY.mpr hi)
theorem IW{P:Nat->Prop}(h0:P 0)(h1:P 1)(h2:P 2)(h3:P 3)(h4:P 4){n:Nat}(hn:n<5):P n:=by
 rcases n with _|_|_|_|_|n
 all_goals first|assumption|exact absurd hn (b6.mpr (jp 5 n))
theorem aqf{P:Nat->Nat->Prop}{lvl n:Nat}(h:Vl lvl n=true)(h1: ∀n,n<5->P 1 n)(h5: ∀n,n<5->P 5 (5+n)):P lvl n:=by
 rcases kM.mp h with h|h
 ·obtain⟨a,b⟩:=bu.mp h
  rw[aD a];exact h1 n (c9.mp b)
 ·obtain⟨a,b⟩:=bu.mp h
  obtain⟨b,c⟩:=bu.mp b
  obtain⟨k,rfl⟩:=jh (av b)
  rw[aD a];exact h5 k (sO (n:=5) (c9.mp c))
theorem aqg{P:Nat->Nat->Prop}{lvl n:Nat}(h:Vm lvl n=true)(h1: ∀n,n<5->P 77 n)(h5: ∀n,n<5->P 5 (10+n))(h6:P 5 15)(h10:P 10 16):P lvl n:=by
 rcases kM.mp h with h|h
 ·obtain⟨a,b⟩:=bu.mp h
  rw[aD a];exact h1 n (c9.mp b)
 ·rcases kM.mp h with h|h
  ·obtain⟨a,b⟩:=bu.mp h
   obtain⟨b,c⟩:=bu.mp b
   rw[aD a]
   obtain⟨k,rfl⟩:=jh (av b)
   have hk:k<6:=sO (n:=10) (c9.mp c)
   rcases oK k 5 with q|q
   ·exact h5 k q
   ·have:k=5:=vf (EQ hk) q
    rw[this];exact h6
  ·obtain⟨a,b⟩:=bu.mp h
   rw[aD a,aD b];exact h10
section
variable(x nn:Nat)(cells:List (Nat×bF))(r:aa)
theorem alO{lvl n d:Nat}(h:Vl lvl n=true)(hd:d<5)(e:Nat):liF x nn cells r lvl n e d=liG x nn cells r lvl n e d:=by
 have t:LI x nn cells r lvl n e:=aqf (P:=fun lvl n=>LI x nn cells r lvl n e) h (fun n hn=>by
  refine IW (P:=fun n=>LI x nn cells r 1 n e) ?_ ?_ ?_ ?_ ?_ hn<;>(clear h hd hn;cases e<;>(unfold LI;kernel_rfl))) (fun n hn=>by
  refine IW (P:=fun n=>LI x nn cells r 5 (5+n) e) ?_ ?_ ?_ ?_ ?_ hn<;>(clear h hd hn;cases e<;>(unfold LI;kernel_rfl)))
 exact rg t hd
theorem alS{lvl n d p:Nat}(h:Vm lvl n=true)(hd:d<5)(hp:p<3)(e:Nat):llF x nn cells r lvl n e p d=llG x nn cells r lvl n e p d:=by
 have t:LL x nn cells r lvl n e:=aqg (P:=fun lvl n=>LL x nn cells r lvl n e) h (fun n hn=>by
  refine IW (P:=fun n=>LL x nn cells r 77 n e) ?_ ?_ ?_ ?_ ?_ hn<;>(clear h hd hp hn;cases e<;>(unfold LL;kernel_rfl))) (fun n hn=>by
  refine IW (P:=fun n=>LL x nn cells r 5 (10+n) e) ?_ ?_ ?_ ?_ ?_ hn<;>(clear h hd hp hn;cases e<;>(unfold LL;kernel_rfl))) (by clear h hd hp;cases e<;>(unfold LL;kernel_rfl)) (by clear h hd hp;cases e<;>(unfold LL;kernel_rfl))
 exact rg (rg t hp) hd
end
noncomputable def rnN(n ren:Nat):List AV:=gX (motive:=fun _=>List AV) [] (fun l _=>[.frz cg fW (j8 (17+n) l .opq)]) ren
noncomputable def aje(n:Nat)(r:Rt):List AV:=j6 (kd r.lvl r.it.i) (conds r.lvl r.it) (.lst (Dx r.ts++rnN n r.ren)) .none .none
noncomputable def PV(n:Nat)(rd:RD)(r:aa):Option (Nat×List Nat×List AV×Nat×List AV):=bw (Fq [.ref 0,.str (nm n)] ⟨1,[(0,.orc 0 (rdM rd++r))]⟩) fun a σ=>ic a fun x=>CA σ x fun c ks vs=>sr σ 0 fun k l=>bif aj x 0 then none else some (c,ks,vs,k,l)
noncomputable def Nb(n:Nat)(rd:RD)(r:aa):Option (Nat×List Nat×List AV×Nat×List AV):=some (cg,fW,.int (am (RM rd))::aje n (jy n rd),0,r)
noncomputable def S4(z d e:Nat)(l m:LD):List TD:=[.leaf z 0 l,.leaf z 1 l,.grp d e l,.grp2 d e l m]
def LR(n:Nat)(f:TD->RD)(r:aa)(z d e:Nat)(l m:LD):Prop:=(S4 z d e l m).map (fun t=>PV n (f t) r)=(S4 z d e l m).map (fun t=>Nb n (f t) r)
theorem s4E{P:TD->Prop}(h: ∀z d e l m,∀t∈S4 z d e l m,P t){t:TD}(ht:Ai t):P t:=by
 cases t with
 |leaf z nb l=>
  cases nb with
  |zero=>exact h z 0 0 l l _ (a8 (i:=0) rfl)
  |succ nb=>cases nb with
   |zero=>exact h z 0 0 l l _ (a8 (i:=1) rfl)
   |succ nb=>exact absurd ht (b6.mpr (jp 2 nb))
 |grp d e l=>exact h 0 d e l l _ (a8 (i:=2) rfl)
 |grp2 d e l m=>exact h 0 d e l m _ (a8 (i:=3) rfl)
theorem ak2{n:Nat}{f:TD->RD}{r:aa}(h: ∀z d e l m,LR n f r z d e l m){t:TD}(ht:Ai t):PV n (f t) r=Nb n (f t) r:=s4E (P:=fun t=>PV n (f t) r=Nb n (f t) r) (fun z d e l m t ht=>iG.mp (h z d e l m) t ht) ht
theorem amC{P:List TD->Prop}(h0:P [])(h1: ∀t,Ai t->P [t])(h2: ∀s t,Ai s->Ai t->P [s,t]){ts:List TD}(hl:ts.length<=2)(ht: ∀t∈ts,Ai t):P ts:=by
 cases ts with
 |nil=>exact h0
 |cons s ts=>cases ts with
  |nil=>exact h1 s (ht s (bb ..))
  |cons t ts=>cases ts with
   |nil=>exact h2 s t (ht s (bb ..)) (ht t (aQ _ (bb ..)))
   |cons u ts=>exact absurd hl (yC.mpr (ba (ba (ba (aU _)))))
def GD(n:Nat)(f:List TD->RD)(r:aa):Prop:=PV n (f []) r=Nb n (f []) r/\(∀z d e l m,LR n (fun t=>f [t]) r z d e l m)/\ ∀z d e l m z2 d2 e2 l2 m2,(S4 z d e l m).map (fun s=>(S4 z2 d2 e2 l2 m2).map fun t=>PV n (f [s,t]) r)=(S4 z d e l m).map fun s=>(S4 z2 d2 e2 l2 m2).map fun t=>Nb n (f [s,t]) r
theorem abR{n:Nat}{f:List TD->RD}{r:aa}(G:GD n f r){ts:List TD}(hl:ts.length<=2)(ht: ∀t∈ts,Ai t):PV n (f ts) r=Nb n (f ts) r:=amC (P:=fun ts=>PV n (f ts) r=Nb n (f ts) r) G.1 (fun t h=>ak2 (f:=fun t=>f [t]) G.2.1 h) (fun s t hs ht=>s4E (P:=fun s=>PV n (f [s,t]) r=Nb n (f [s,t]) r) (fun z d e l m s hs=>s4E (P:=fun t=>PV n (f [s,t]) r=Nb n (f [s,t]) r) (fun z2 d2 e2 l2 m2 t ht=>iG.mp (iG.mp (G.2.2 z d e l m z2 d2 e2 l2 m2) s hs) t ht) ht) hs) hl ht
theorem amk{n:Nat}(hn:n<5){rd:RD}(h:FS rd)(r:aa):PV n rd r=Nb n rd r:=by
 cases rd with
 |alone l=>refine IW (P:=fun n=>PV n (.alone l) r=Nb n (.alone l) r) ?_ ?_ ?_ ?_ ?_ hn<;>kernel_rfl
 |std a d e ts q=>
  refine abR (f:=fun ts=>.std a d e ts q) ?_ h.1 h.2
  clear h
  refine IW (P:=fun n=>GD n (fun ts=>.std a d e ts q) r) ?_ ?_ ?_ ?_ ?_ hn<;>exact⟨by kernel_rfl,fun _ _ _ _ _=>by unfold LR;kernel_rfl,fun _ _ _ _ _ _ _ _ _ _=>by kernel_rfl⟩
 |recR a d e ts l=>
  refine abR (f:=fun ts=>.recR a d e ts l) ?_ h.1 h.2.1
  have h:=h.2.2
  rcases l with _|_|l
  ·clear h
   refine IW (P:=fun n=>GD n (fun ts=>.recR a d e ts 0) r) ?_ ?_ ?_ ?_ ?_ hn<;>exact⟨by kernel_rfl,fun _ _ _ _ _=>by unfold LR;kernel_rfl,fun _ _ _ _ _ _ _ _ _ _=>by kernel_rfl⟩
  ·clear h
   refine IW (P:=fun n=>GD n (fun ts=>.recR a d e ts 1) r) ?_ ?_ ?_ ?_ ?_ hn<;>exact⟨by kernel_rfl,fun _ _ _ _ _=>by unfold LR;kernel_rfl,fun _ _ _ _ _ _ _ _ _ _=>by kernel_rfl⟩
  ·exact absurd h (b6.mpr (jp 2 l))
section
variable{σ:AS}{x:Nat}{CL l:aa}{as:aa}{PI:aW}
theorem SW{pick:AV->AS->List Nat}{F:aW}{k:Nat}{L:aa}(hr:σ.get x=some (.orc k L))(ha:aN as=true):ue pick F (.ref x::as) σ=bw (F (.ref 0::as) ⟨1,[(0,.orc k L)]⟩) fun a ai=>sr ai 0 fun k' l'=>bif FP 0 (pick a ai)then none else imp (Xu x σ.next (pick a ai)) (pick a ai) σ.next (ls x (.orc k' l') σ.cells) a ai:=by
 have h:ue pick F (.ref x::as) σ=bif aN as then sr σ x (fun k l=>bw (F (.ref 0::as) ⟨1,[(0,.orc k l)]⟩) fun a ai=>sr ai 0 fun k' l'=>bif FP 0 (pick a ai)then none else imp (Xu x σ.next (pick a ai)) (pick a ai) σ.next (ls x (.orc k' l') σ.cells) a ai)else none:=rfl
 rw[h,ha];exact ji hr
theorem SV(hr:σ.get x=some (.orc 0 CL))(ha:aN as=true):ue wB PI (.ref x::as) (σ.set x (.orc 0 l))=vI x σ.next (ls x (.orc 0 l) σ.cells) (PI (.ref 0::as) ⟨1,[(0,.orc 0 l)]⟩):=SW (ej hr) ha
theorem Qc{nn:Nat}{cells:List (Nat×bF)}{c:bF}{r:aa}{lvl L:Nat}{f:Lf}:Qb x nn (ls x c cells) r lvl L f=Qb x nn cells r lvl L f:=by
 unfold Qb;rw[oy]
theorem Ze{β:Type}{f:Nat->List Nat->List AV->Option β}{y:β}{P:Prop}(e:abp σ x f=some y)(kk: ∀c m ks vs r,σ.get x=some (.orc 0 (.frz c (m::ks) vs::r))->f m ks r=some y->P):P:=
 FT e fun k l hg e=>kS e fun q e=>by
  rw[aD q]at hg
  revert hg
  refine kG e fun t r e=> ?_
  refine sY e fun c ks vs e=> ?_
  refine kG e fun m ks e hg=> ?_
  exact kk c m ks vs r hg e
end
noncomputable def two{β:Type}(ks:ac)(f:Nat->Nat->Option β):Option β:=q9 ks fun d ks=>q9 ks fun e ks=>bif CB ks then f d e else none
@[elab_as_elim] theorem aoF {β:Type} {ks:ac} {f:Nat->Nat->Option β} {y:β} {Q:List Nat->Prop} (e:two ks f=some y) (kk: ∀d e',f d e'=some y->Q [d,e']):Q ks:=
 kG e fun d ks e=>kG (Q:=fun ks=>Q (d::ks)) e fun e' ks e=>kS e fun z e=>by rw[PK z];exact kk d e' e
section
variable{C:PC}{kF:Nat}{f:ah}(R:qe C mac bx VB)
include R
theorem UH{l l':aa}{c:bF}(h:C.conc 0 l c)(hx:xb bx l'=xb bx l)(hv:(∀a∈l,VB a)-> ∀a∈l',VB a):C.conc 0 l' c:=by
 obtain⟨h1,b,h2,h3⟩:=(R.bag _ _).mp h
 exact(R.bag _ _).mpr ⟨hv h1,b,h2,hx.symm▸h3⟩
omit R in
theorem rf{b:Int}{m d:Nat}(hm:0<m)(h:b.fmod (am m)=am d):d<m:=by
 have h1:b.fmod (am m)<am m:=qT b (hU.mpr hm)
 rw[h]at h1
 exact hU.mp h1
theorem G0{l:aa}{c:bF}(h:C.conc 0 l c): ∃b,cD (xb bx l) b:=by
 obtain⟨_,b,_,h⟩:=(R.bag _ _).mp h
 exact⟨b,h⟩
theorem Wg(hF:aF C kF f yP):aF C kF f Bp:=pE hF fun args σ a ai e=>by
 refine Zb e fun a1 a2 a3 e=> ?_
 refine ir e fun x e=> ?_
 refine mi e fun lvl e=> ?_
 refine fO e fun s e=> ?_
 refine kS e fun z e=>Ze e fun c m ks vs r hg e=>kS e fun z5 e=> ?_
 rw[aD z5]at hg
 revert hg
 refine aoF (show two ks (fun d e'=>ah5 σ x r lvl lvl ⟨Fc lvl (IP s names 0) (mV d) 3,CD e'⟩)=some (a,ai) from e) fun d e' e hg=> ?_
 refine⟨x,0,_,hg,fun hc _=>⟨m2 5 d::m2 4 e'::r,fun c h=>UH R h rfl fun hv a ha=> ?_,?_⟩⟩
 ·rcases aG.mp ha with rfl|ha
  ·exact trivial
  ·rcases aG.mp ha with rfl|ha
   ·exact trivial
   ·exact hv a (aQ _ ha)
 ·obtain⟨c,hc⟩:=hc
  obtain⟨b,hb⟩:=G0 R hc
  have hd:d<5:=rf (by decide) hb.2.1
  obtain⟨z1,z2⟩:=aE z hH
  have hs:nm (IP s names 0)=s:=by rw[kK,decide_eq_true_iff]at z1;exact z1
  refine(SV hg rfl).trans ?_
  refine yy ?_ e
  generalize IP s names 0=n at hs z2 ⊢
  rw[<- hs]
  exact(alO x σ.next (ls x _ σ.cells) r z2 hd e').trans Qc
theorem Wh(hF:aF C kF f yQ):aF C kF f Bq:=pE hF fun args σ a ai e=>by
 refine Zb e fun a1 a2 a3 e=> ?_
 refine ir e fun x e=> ?_
 refine mi e fun lvl e=> ?_
 refine fO e fun s e=> ?_
 refine kS e fun z e=>Ze e fun c m ks vs r hg e=>kS e fun z5 e=> ?_
 rw[aD z5]at hg
 revert hg
 refine VP e fun d e' p e hg=> ?_
 refine⟨x,0,_,hg,fun hc _=>⟨m2 5 d::m2 4 e'::m2 3 p::r,fun c h=>UH R h rfl fun hv a ha=> ?_,?_⟩⟩
 ·rcases aG.mp ha with rfl|ha
  ·exact trivial
  ·rcases aG.mp ha with rfl|ha
   ·exact trivial
   ·rcases aG.mp ha with rfl|ha
    ·exact trivial
    ·exact hv a (aQ _ ha)
 ·obtain⟨c,hc⟩:=hc
  obtain⟨b,hb⟩:=G0 R hc
  have hd:d<5:=rf (by decide) hb.2.1
  have hp:p<3:=rf (by decide) hb.2.2.2.2.2.1
  obtain⟨z1,z2⟩:=aE z hH
  have hs:nm (IP s names 0)=s:=by rw[kK,decide_eq_true_iff]at z1;exact z1
  refine(SV hg rfl).trans ?_
  refine yy ?_ e
  generalize IP s names 0=n at hs z2 ⊢
  rw[<- hs]
  exact(alS x σ.next (ls x _ σ.cells) r z2 hd hp e').trans Qc
end
theorem amI(t:TD)(l:aa):xb bx (tdM t++l)=tdD t++xb bx l:=by cases t<;>rfl
theorem YI(ts:List TD)(l:aa):xb bx (Mr ts++l)=AJ ts++xb bx l:=by
 induction ts with
 |nil=>rfl
 |cons t ts ih=>
  show xb bx ((tdM t++Mr ts)++l)=(tdD t++AJ ts)++xb bx l
  rw[aB,amI,ih,aB]
theorem amH(rd:RD)(l:aa):xb bx (rdM rd++l)=Jf rd++xb bx l:=by
 cases rd with
 |alone l=>rfl
 |std a d e ts q=>
  show 4::(a+1)::5::d::4::e::3::ts.length::xb bx ((Mr ts++[m2 4 (q+1)])++l)=4::(a+1)::5::d::4::e::3::ts.length::((AJ ts++[4,q+1])++xb bx l)
  rw[aB,YI,aB];rfl
 |recR a d e ts q=>
  show 4::(a+1)::5::d::4::e::3::ts.length::xb bx ((Mr ts++[m2 4 0,m2 2 q])++l)=4::(a+1)::5::d::4::e::3::ts.length::((AJ ts++[4,0,2,q])++xb bx l)
  rw[aB,YI,aB];rfl
theorem WG(ts:List TD): ∀a∈Mr ts,VB a:=by
 induction ts with
 |nil=>exact fun _ h=>absurd h bc
 |cons t ts ih=>
  refine fun a h=>(cQ.mp h).elim (fun h=> ?_) (ih a)
  cases t with
  |leaf z nb l=>
   rcases aG.mp h with rfl|h
   ·exact trivial
   rcases aG.mp h with rfl|h
   ·exact trivial
   rw[aO.mp h];exact trivial
  |grp d e l=>
   rcases aG.mp h with rfl|h
   ·exact trivial
   rcases aG.mp h with rfl|h
   ·exact trivial
   rcases aG.mp h with rfl|h
   ·exact trivial
   rw[aO.mp h];exact trivial
  |grp2 d e l m=>
   rcases aG.mp h with rfl|h
   ·exact trivial
   rcases aG.mp h with rfl|h
   ·exact trivial
   rcases aG.mp h with rfl|h
   ·exact trivial
   rcases aG.mp h with rfl|h
   ·exact trivial
   rw[aO.mp h];exact trivial
theorem ak4(rd:RD): ∀a∈rdM rd,VB a:=by
 cases rd with
 |alone l=>
  intro a h
  rcases aG.mp h with rfl|h
  ·exact trivial
  rw[aO.mp h];exact trivial
 |std a d e ts q=>
  intro a h
  rcases aG.mp h with rfl|h
  ·exact trivial
  rcases aG.mp h with rfl|h
  ·exact trivial
  rcases aG.mp h with rfl|h
  ·exact trivial
  rcases cQ.mp h with h|h
  ·exact WG ts a h
  rw[aO.mp h];exact trivial
 |recR a d e ts q=>
  intro a h
  rcases aG.mp h with rfl|h
  ·exact trivial
  rcases aG.mp h with rfl|h
  ·exact trivial
  rcases aG.mp h with rfl|h
  ·exact trivial
  rcases cQ.mp h with h|h
  ·exact WG ts a h
  rcases aG.mp h with rfl|h
  ·exact trivial
  rw[aO.mp h];exact trivial
theorem Xw{n d:Nat}(hn:n<5)(hd:d<5):(kd 1 (Fc 1 n (mV d) 3)).1=n:=
 IW (P:=fun n=>(kd 1 (Fc 1 n (mV d) 3)).1=n) (IW (P:=fun d=>(kd 1 (Fc 1 0 (mV d) 3)).1=0) rfl rfl rfl rfl rfl hd) (IW (P:=fun d=>(kd 1 (Fc 1 1 (mV d) 3)).1=1) rfl rfl rfl rfl rfl hd) (IW (P:=fun d=>(kd 1 (Fc 1 2 (mV d) 3)).1=2) rfl rfl rfl rfl rfl hd) (IW (P:=fun d=>(kd 1 (Fc 1 3 (mV d) 3)).1=3) rfl rfl rfl rfl rfl hd) (IW (P:=fun d=>(kd 1 (Fc 1 4 (mV d) 3)).1=4) rfl rfl rfl rfl rfl hd) hn
noncomputable def TN(rd:RD):Nat:=match rd with
 | .alone _=>0
 | .std _ d _ _ _=>d
 | .recR _ d _ _ _=>d
theorem aej{n:Nat}{rd:RD}(hn:n<5)(hd:TN rd<5):aje n (jy n rd)=Dd (jy n rd):=by
 cases rd with
 |alone l=>rfl
 |std a d e ts q=>rfl
 |recR a d e ts l=>
  show j6 _ _ (.lst (_++[.frz cg fW (j8 (17+n) l .opq)])) _ _=j6 _ _ (.lst (_++[.frz cg fW (j8 (17+(kd 1 (Fc 1 n (mV d) 3)).1) l .opq)])) _ _
  rw[Xw hn (show d<5 from hd)]
theorem amb{rd:RD}{l:ac}{b:Int}(h:cD (Jf rd++l) b):TN rd<5:=by
 cases rd with
 |alone l=>exact gY _
 |std a d e ts q=>exact rf (by decide) h.2.2.2.1
 |recR a d e ts q=>exact rf (by decide) h.2.2.2.1
theorem aib{n:Nat}{rd:RD}:aN (.int (am (RM rd))::Dd (jy n rd))=true:=by
 rw[gU,aic];rfl
theorem y4(n:Nat):aj n n=true:=by rw[fV];exact decide_eq_true rfl
theorem aei{σ:AS}{x n:Nat}{CL r:aa}{rd:RD}(hg:σ.get x=some (.orc 0 CL))(hn:n<5)(h:FS rd)(hd:TN rd<5):
  sU [.ref x,.str (nm n)] (σ.set x (.orc 0 (rdM rd++r)))=some (.ref σ.next,⟨σ.next+1,(σ.next,.inst cg fW (.int (am (RM rd))::Dd (jy n rd)))::ls x (.orc 0 r) σ.cells⟩):=by
 have h:=amk hn h r
 unfold Nb at h
 rw[aej hn hd]at h
 refine fM h fun a ay h1 h=> ?_
 revert h1
 refine ir h fun y h=>instE h fun c ks vs hy h=>FT h fun k l h0 h=>kN h fun q h h1=> ?_
 have h:=aH h
 cases h
 have hp:wB (.ref y) ay=[y]:=by
  show(ob (ay.get y) _).getD []=_
  rw[hy];rfl
 refine(SW (ej hg) rfl).trans ?_
 rw[h1,aX]
 show ob (ay.get 0) _=_
 rw[h0,hp]
 show(bif (aj 0 y||false)then none else _)=_
 have q0:aj 0 y=false:=by cases y with
  |zero=>exact absurd q (by decide)
  |succ y=>rfl
 rw[q0]
 have hx:Xu x σ.next [y] y=some σ.next:=by
  cases y with
  |zero=>exact absurd q (by decide)
  |succ y=>
   show(bif aj (y+1) (y+1)then some σ.next else _)=_
   rw[y4];rfl
 show ob ((Xu x σ.next [y] y).map AV.ref) _=_
 rw[hx]
 show ob (ob (ay.get y) _) _=_
 rw[hy]
 show ob (ob ((on _ _).map (bF.inst cg fW)) _) _=_
 rw[jw aib]
 show some (AV.ref σ.next,AS.mk (σ.next+1) (_::ls x (.orc 0 r) (ls x (.orc 0 (rdM rd++r)) σ.cells)))=_
 rw[oy];rfl
section
variable{C:PC}{kF:Nat}{f:ah}(R:qe C mac bx VB)
include R
theorem Wi(hF:aF C kF f sU):aF C kF f Br:=pE hF fun args σ a ai e=>by
 refine Kt e fun a1 a2 e=> ?_
 refine ir e fun x e=> ?_
 refine fO e fun s e=> ?_
 refine Ze e fun c m ks vs r hg e=>kS e fun z9 e=> ?_
 rw[aD z9]at hg
 revert hg
 refine kG e fun n ks e=> ?_
 refine kG e fun lv code e=>kS e fun zs e hg=> ?_
 have hs:nm n=s:=by rw[kK,decide_eq_true_iff]at zs;exact zs
 by_cases hv:VB (.frz c (9::n::lv::code) vs)
 ·obtain⟨n',rd,h1,h2,h3⟩:=hv
  have h1:AV.frz c (9::n::lv::code) vs= .frz 0 (9::n'::RM rd::Xb (jy n' rd)) [.frz 0 (Jf rd) []]:=h1
  cases h1
  have hx: ∀l,xb bx (.frz 0 (9::n::RM rd::Xb (jy n rd)) [.frz 0 (Jf rd) []]::l)=Jf rd++xb bx l:=fun _=>rfl
  refine⟨x,0,_,hg,fun hc _=>⟨rdM rd++r,fun c h=>UH R h ((amH rd r).trans (hx r).symm) fun hv a ha=>(cQ.mp ha).elim (ak4 rd a) fun h=>hv a (aQ _ h),?_⟩⟩
  obtain⟨c,hc⟩:=hc
  obtain⟨b,hb⟩:=G0 R hc
  rw[hx]at hb
  rw[<- hs]
  refine(aei hg h2 h3 (amb hb)).trans ?_
  refine yy ?_ e
  have hlen:(jy n rd).ts.length <=8:=by
   have: ∀ts:List TD,(HE n ts).length=ts.length:=fun ts=>by
    induction ts with
    |nil=>rfl
    |cons t ts ih=>exact congrArg nM ih
   cases rd with
   |alone l=>exact aU _
   |std a d e ts q=>exact au (eA (this ts)) (au h3.1 (by decide))
   |recR a d e ts q=>exact au (eA (this ts)) (au h3.1 (by decide))
  rw[NC _ hlen]
 ·exact⟨x,0,_,hg,fun hc _=>hc.elim fun c hc=>absurd (((R.bag _ _).mp hc).1 _ (bb ..)) hv⟩
theorem apU:amM C:=⟨Rf R,Ka R,MD R,Wg R,Wh R,Wi R⟩
end
theorem ze{PI:aW}{args:aa}{σ ay:AS}{a:AV}(hn:aN args=true)(h:PI args ⟨0,[]⟩=some (a,ay))(ha:noRef a=true):vJ nU PI args σ=some (a,σ):=by
 show(bif aN args then bw (PI args ⟨0,[]⟩) _ else none)=_
 rw[hn,h]
 show ob (uC _ a) _=_
 rw[uj ha];rfl
theorem Z4{PI:aW}{args:aa}{σ ay:AS}{x:Nat}{l:aa}(hn:aN args=true)(h:PI args ⟨0,[]⟩=some (.ref x,ay))(hx:ay.get x=some (.lst l))(hl:aN l=true):vJ aay PI args σ=some (.ref σ.next,σ.alloc (.lst l)):=by
 show(bif aN args then bw (PI args ⟨0,[]⟩) _ else none)=_
 rw[hn,h]
 have hi:Z8 σ.next [x] x=some σ.next:=by
  show(bif aj x x then some σ.next else _)=_
  rw[y4];rfl
 show ob ((Z8 σ.next [x] x).map AV.ref) _=_
 rw[hi]
 show ob (ob (ay.get x) _) _=_
 rw[hx]
 show ob (ob ((on _ l).map bF.lst) _) _=_
 rw[jw hl];rfl
theorem zj{l:List (List Nat×List Nat×Nat)}: ∀{c:Nat} {a:Bool},aN (wz a c l)=true:=by
 induction l with
 |nil=>exact rfl
 |cons x l ih=>exact fun{c a}=>show(true&&aN (wz false (c+x.2.2) l))=true from ih
theorem yb{t:ac}{a:Bool}{l:aa}(h:kI t a=some l)(hl:aN l=true)(σ:AS):cH [.str t,.bool a] σ=some (.ref σ.next,σ.alloc (.lst l)):=fM h fun x ay h1 h=>by
 revert h1
 refine ir h fun x h=>lstE h fun l' hx h h1=> ?_
 rw[aH h]at hx
 exact Z4 rfl h1 hx hl
theorem aaW{t:ac}{l:aa}(h:kI t false=some l)(hl:aN l=true)(σ:AS):cH [.str t] σ=some (.ref σ.next,σ.alloc (.lst l)):=fM h fun x ay h1 h=>by
 revert h1
 refine ir h fun x h=>lstE h fun l' hx h h1=> ?_
 rw[aH h]at hx
 exact Z4 (PI:=rC) rfl h1 hx hl
theorem aes{it:AV}{a:Bool}{l:aa}(h:uG it a=some l)(hn:aN [it]=true): ∃t,kI t a=some l/\ ∀σ,ng [it] σ=some (.str t,σ):=fM h fun x ay h1 h=>by
 revert h1
 refine fO h fun t h h1=> ?_
 exact⟨t,h,fun σ=>ze hn h1 rfl⟩
theorem Yi{n:Nat}{l:aa}(h:ou n=some l): ∃t,kI t false=some l/\ ∀σ,lF [qk n] σ=some (.str t,σ):=fM h fun x ay h1 h=>by
 revert h1
 refine fO h fun t h h1=> ?_
 exact⟨t,h,fun σ=>ze rfl h1 rfl⟩
theorem cW{v:AV}{i:Nat}: ∀{fr:Fm},gt (put fr i v) i=v:=by
 induction i with
 |zero=>intro fr;cases fr<;>rfl
 |succ i ih=>intro fr;cases fr with
  |nil=>exact ih (fr:=[])
  |cons a fr=>exact ih
theorem fJ{v:AV}{i:Nat}: ∀{j:Nat} {fr:Fm},aj i j=false->gt (put fr i v) j=gt fr j:=by
 induction i with
 |zero=>
  intro j fr h
  cases j with
  |zero=>exact ff h.symm
  |succ j=>cases fr with
   |nil=>rfl
   |cons a fr=>rfl
 |succ i ih=>
  intro j fr h
  cases j with
  |zero=>cases fr<;>rfl
  |succ j=>cases fr with
   |nil=>exact ih (fr:=[]) h
   |cons a fr=>exact ih h
theorem ajq{σ:AS}{i:Nat}{a b:bF}:(σ.set i a).set i b=σ.set i b:=congrArg (AS.mk σ.next) (oy ..)
theorem ag0{σ:AS}{i:Nat}{l m:aa}(hi:σ.get i=some (.lst l))(hk:l.length+m.length<=4000000):fU [.ref i,.lst m] σ=some (.none,σ.set i (.lst (l++m))):=by
 have h:fU [.ref i,.lst m] σ=bif dv (l.length+m.length)then some (.none,σ.set i (.lst (l++m)))else none:=ji hi
 rw[h,fQ hk];rfl
theorem ag1{σ:AS}{i j:Nat}{l m:aa}(hi:σ.get i=some (.lst l))(hj:σ.get j=some (.lst m))(hij:aj i j=false)(hk:l.length+m.length<=4000000):fU [.ref i,.ref j] σ=some (.none,σ.set i (.lst (l++m))):=by
 have h1:agZ σ i (.ref j)=some m:=by
  show(bif aj i j then none else np σ j some)=_
  rw[hij];exact ji hj
 have h2:fU [.ref i,.ref j] σ=ob (np σ i some) fun l=>bif dv (l.length+m.length)then some (.none,σ.set i (.lst (l++m)))else none:=by
  refine(ji h1).trans ?_
  rw[show np σ i some=some l from ji hi];exact ji hi
 rw[h2,show np σ i some=some l from ji hi,b4,fQ hk];rfl
theorem I7{σ:AS}{i:Nat}{l:aa}{F:aW}(hi:σ.get i=some (.lst l)):fN F (.ref i) σ=some F:=ji hi
theorem dI{σ:AS}{i:Nat}{c d:bF}(hi:σ.get i=some c)(h:i<σ.next):(σ.alloc d).get i=some c:=by rw[AS.get_alloc,if_neg (cj h)];exact hi
theorem ag9{sel:Nat->Bool}{n:Nat}{a:AV}{σ:AS}(h:noRef a=true):ub sel n a σ=(a,σ):=by
 cases n with
 |zero=>rfl
 |succ n=>cases a<;>first|rfl|exact ff h
theorem aaA{α β γ:Type}{p:α×β}{a:α}{b:β}{f:α->β->γ}(h:p=(a,b)):pr p f=f a b:=by rw[h];rfl
theorem P0{sel:Nat->Bool}{n:Nat}{l:aa}: ∀{σ:AS},aN l=true->pR (ub sel n) l σ=(l,σ):=by
 induction l with
 |nil=>exact fun _=>rfl
 |cons a l ih=>
  intro σ h
  refine aE (show(noRef a&&aN l)=true from h) fun h1 h2=> ?_
  exact(aaA (ag9 h1)).trans (aaA (ih h2))
theorem xH{n:Nat}{x:Nat}{l:aa}{σ:AS}(hx:σ.get x=some (.lst l))(h:aN l=true):jF (n+1) (.ref x) σ=(.lst l,σ.drop x):=by
 show bj (motive:=fun _=>AV×AS) (.opq,σ) (fun c=>SL (ub _ n) _ x σ c) (σ.get x)=_
 rw[hx]
 show pr (pR (ub (fun _=>true) n) l (σ.drop x)) (fun l' ai=>(AV.lst l',ai))=_
 exact aaA (P0 h)
noncomputable def Ms(lvl:Nat):Bool:=bif aj lvl 1 then true else aj lvl 77
theorem amB{lvl:Nat}(h:ri lvl=true)(σ:AS):bV .In (.int (am lvl)) iR σ=some (Ms lvl):=lvE (P:=fun lvl=>bV .In (.int (am lvl)) iR σ=some (Ms lvl)) h rfl rfl rfl rfl
theorem amx{lvl:Nat}(h:ri lvl=true)(i:Nat)(c k p:AV):uG (.frz cg fW (.int (am lvl)::j6 (kd lvl i) c k p .none)) (Ms lvl)=some (kn lvl (kd lvl i)):=
 lvE (P:=fun lvl=>kd lvl i∈kT lvl->iD c k p lvl (kd lvl i)=iE lvl (kd lvl i)) h (fun h=>aqp _ _ _ h) (fun h=>aqq _ _ _ h) (fun h=>ao8 _ _ _ h) (fun h=>ao9 _ _ _ h) (U6 lvl i)
noncomputable def IG:EM:=bq cH (aw (bq ng (aw (al 0) aJ)) (aw (rO (fi (bV .In) (un (aA 20) (al 0)) (a7 iR))) aJ))
theorem adC{it:AV}{fr:Fm}{σ:AS}{b:Bool}{lv:AV}{l:aa}(hf:gt fr 0=it)(hu:bQ it=false)(hn:aN [it]=true)(hs:uG it b=some l)(hl:aN l=true)(ha:aA 20 it σ=some lv)(hb:bV .In lv iR σ=some b):IG fr σ=some (.ref σ.next,σ.alloc (.lst l)):=by
 obtain⟨t,h1,h2⟩:=aes hs hn
 unfold IG
 simp only[ef,cq,ci,be,hf,hu,ae,aX,h2,wA,fx,fY,ha,b4,dW,hb,yb h1 hl]
noncomputable def G3:SM:=aV (kX (cF (fN fU) (al 1) (aw (bq cH (aw (bq lF (aw (al 2) aJ)) aJ)) aJ))) bk
noncomputable def PP(self:aW):SM:=aV (kX (cF (fN fU) (al 1) (aw (bq self (aw (al 3) aJ)) aJ))) bk
@[simp] theorem Jk (e) {fr:Fm} {σ:AS}:kX e fr σ=bw (e fr σ) fun _ ai=>some (.next fr ai):=rfl
theorem Ez{i:Nat}{b:SM}{a:AV}{r:aa}{fr gO:Fm}{σ ay:AS}(h:b (put fr i a) σ=some (.next gO ay)):pD [i] b (a::r) fr σ=pD [i] b r gO ay:=by
 show ob (b (put fr i a) σ) _=_
 rw[h];rfl
theorem aaa{self:aW}{ks:List (AV×List AV)}: ∀{fr:Fm} {σ:AS} {i:Nat} {L:aa},(∀k∈ks,bQ k.1=false/\ ∀σ,self [k.1] σ=some (.lst k.2,σ))->gt fr 1= .ref i->σ.get i=some (.lst L)->L.length+(ks.flatMap (·.2)).length <=4000000->
  ∃fr',pD [3] (PP self) (ks.map (·.1)) fr σ=some (.next fr' (σ.set i (.lst (L++ks.flatMap (·.2)))))/\gt fr' 1= .ref i:=by
 induction ks with
 |nil=>exact fun{fr σ i L} _ hf hi _=>⟨fr,by rw[bD,aR,EA hi];rfl,hf⟩
 |cons k ks ih=>
  intro fr σ i L h hf hi hk
  obtain⟨hu,hs⟩:=h k (bb ..)
  rw[aY]at hk ⊢
  have hk1:L.length+k.2.length<=4000000:=au (dq (by rw[ao];exact cU _ _) _) hk
  have h1:gt (put fr 3 k.1) 1= .ref i:=(fJ rfl).trans hf
  have e1:PP self (put fr 3 k.1) σ=some (.next (put fr 3 k.1) (σ.set i (.lst (L++k.2)))):=by
   unfold PP
   simp only[df,Jk,eC,be,h1,cW,fe,hu,ae,aX,I7 hi,b4,cq,ci,ef,hs,ag0 hi hk1,dz,fE]
  obtain⟨fr',e2,h2⟩:=ih (fr:=put fr 3 k.1) (σ:=σ.set i (.lst (L++k.2))) (L:=L++k.2) (fun k hk=>h k (aQ _ hk)) h1 (ej hi) (by rw[ao,kB,<- ao];exact hk)
  refine⟨fr',?_,h2⟩
  rw[bd,Ez e1,e2,ajq,aB]
theorem ac4{n:Nat}{fr:Fm}{σ:AS}{i:Nat}{L:aa}(hn:n<17)(hf:gt fr 1= .ref i)(hi:σ.get i=some (.lst L))(hs:i<σ.next)(hk:L.length+(fz n).length <=4000000):
  G3 (put fr 2 (qk n)) σ=some (.next (put fr 2 (qk n)) ((σ.alloc (.lst (fz n))).set i (.lst (L++fz n)))):=by
 obtain⟨t,h1,h2⟩:=Yi (nmS hn)
 have h3:gt (put fr 2 (qk n)) 1= .ref i:=(fJ rfl).trans hf
 have hu:bQ (qk n)=false:=rfl
 have hij:aj i σ.next=false:=by rw[fV];exact decide_eq_false (cj hs)
 unfold G3
 simp only[df,Jk,eC,be,h3,cW,fe,hu,ae,aX,I7 hi,b4,cq,ci,ef,h2,aaW h1 zj,ag1 (dI hi hs) b8 hij hk,dz,fE]
noncomputable def rK(lvl:Nat)(l:Lf):List AV:=bif l.c then fz (j0 lvl l)else[]
theorem LV{lvl:Nat}{l:Lf}{fr:Fm}{σ:AS}{i:Nat}{L:aa}(hn:j0 lvl l<17)(hf:gt fr 1= .ref i)(hi:σ.get i=some (.lst L))(hs:i<σ.next)(hk:L.length+(rK lvl l).length <=4000000):
  ∃fr' ai cs,conds lvl l= .lst cs/\cs.length<=1/\pD [2] G3 cs fr σ=some (.next fr' ai)/\gt fr' 1= .ref i/\ai.get i=some (.lst (L++rK lvl l))/\(∀j,aj 2 j=false->gt fr' j=gt fr j):=by
 obtain⟨k,c⟩:=l
 cases c with
 |false=>exact⟨fr,σ,[],rfl,aU _,rfl,hf,by rw[show rK lvl ⟨k,false⟩=[] from rfl,aR];exact hi,fun _ _=>rfl⟩
 |true=>exact⟨_,_,[qk (j0 lvl ⟨k,true⟩)],rfl,ax _,(Ez (ac4 hn hf hi hs hk)).trans rfl,(fJ rfl).trans hf,ej (dI hi hs),fun j h=>fJ h⟩
theorem ahL(lvl i:Nat):(kd lvl i).1<17:=by
 have h1: ∀x∈iU,x.1<17:=by decide +kernel
 have h5: ∀x∈dF,x.1<17:=by decide +kernel
 have h10: ∀x∈sp,x.1<17:=by decide +kernel
 have h77: ∀x∈gz,x.1<17:=by decide +kernel
 have h:=U6 lvl i
 generalize kd lvl i=x at h
 unfold kT at h
 revert h
 cases aj lvl 1
 ·cases aj lvl 5
  ·cases aj lvl 10
   ·exact h77 x
   ·exact h10 x
  ·exact h5 x
 ·exact h1 x
noncomputable def dN(lvl:Nat)(l:Lf):List AV:=kn lvl (kd lvl l.i)++rK lvl l
theorem ac8{self:aW}{args:aa}{σ:AS}:bg 1 [] (nA self) args σ=bg 1 [] (aV (cO [1] IG) (aV (gv [2] (un (aA 23) (al 0)) G3) (aV (gv [3] (un (aA 22) (al 0)) (PP self)) (aV (eD (al 1)) bk)))) args σ:=rfl
theorem zb{xs:ac}{it:EM}{b:SM}{l:aa}{fr:Fm}{σ:AS}(h:it fr σ=some (.lst l,σ))(hl:l.length<=4000000):gv xs it b fr σ=pD xs b l fr σ:=by
 have h2:fy σ (.lst l)=some (l,σ):=by
  show(bif dv l.length then some (l,σ)else none)=_
  rw[fQ hl];rfl
 show bw (it fr σ) (fun x ai=>bw (fy ai x) fun l ay=>pD xs b l fr ay)=_
 rw[h,aX,h2];rfl
theorem Pq{n:Nat}{it lv:AV}{b:Bool}{T Cd:aa}{cs:aa}{ks:List (AV×List AV)}(hit:noRef it=true)(hu:bQ it=false)(ha: ∀σ,aA 20 it σ=some lv)(hb: ∀σ,bV .In lv iR σ=some b)(hc: ∀σ,aA 23 it σ=some (.lst cs))(hkd: ∀σ,aA 22 it σ=some (.lst (ks.map (·.1))))
  (hsh:uG it b=some T)(hT:aN T=true)(hC:aN Cd=true)(hcl:cs.length<=4000000)
  (hcs: ∀{fr σ i L},gt fr 1= .ref i->σ.get i=some (.lst L)->i<σ.next->L.length+Cd.length<=4000000-> ∃fr' ai,pD [2] G3 cs fr σ=some (.next fr' ai)/\gt fr' 1= .ref i/\ai.get i=some (.lst (L++Cd))/\(∀j,aj 2 j=false->gt fr' j=gt fr j))
  (hg: ∀k∈ks,bQ k.1=false/\ ∀σ,cn n [k.1] σ=some (.lst k.2,σ))(hgn:aN (ks.flatMap (·.2))=true)(hk:((T++Cd)++ks.flatMap (·.2)).length <=4000000)(hkl:ks.length<=4000000)(σ:AS):
  cn (n+1) [it] σ=some (.lst ((T++Cd)++ks.flatMap (·.2)),σ):=by
 have h1:=adC (it:=it) (fr:=[it]) (σ:=⟨0,[]⟩) rfl hu (by rw[gU,hit];rfl) hsh hT (ha _) (hb _)
 have hk1:T.length+Cd.length<=4000000:=by
  rw[<- ao]
  exact au (by rw[ao (as:=T++Cd)];exact cU _ _) hk
 obtain⟨fr2,gV,h2,hf2,hi2,hj2⟩:=hcs (fr:=[it,.ref 0]) (σ:=AS.alloc ⟨0,[]⟩ (.lst T)) (i:=0) rfl rfl (gY _) hk1
 have h0:gt fr2 0=it:=(hj2 0 rfl).trans rfl
 obtain⟨fr3,h3,hf3⟩:=aaa (self:=cn n) hg hf2 hi2 (by rw[<- ao];exact hk)
 have e2:gv [2] (un (aA 23) (al 0)) G3 [it,.ref 0] (AS.alloc ⟨0,[]⟩ (.lst T))=some (.next fr2 gV):=by
  refine(zb (l:=cs) ?_ hcl).trans h2
  simp only[fY,be,kE,hu,ae,aX,hc,b4]
 have e3:gv [3] (un (aA 22) (al 0)) (PP (cn n)) fr2 gV=some (.next fr3 (gV.set 0 (.lst ((T++Cd)++ks.flatMap (·.2))))):=by
  refine(zb (l:=ks.map (·.1)) ?_ (by rw[aS];exact hkl)).trans h3
  simp only[fY,be,h0,hu,ae,aX,hkd,b4]
 have e4:bg 1 [] (nA (cn n)) [it] ⟨0,[]⟩=some (.ref 0,gV.set 0 (.lst ((T++Cd)++ks.flatMap (·.2)))):=by
  rw[ac8]
  show ob (aV (cO [1] IG) _ [it] ⟨0,[]⟩) ik=_
  simp only[df,fD,h1,aX,b4,dz]
  show ob (ob (gv [2] (un (aA 23) (al 0)) G3 [it,.ref 0] _) _) ik=_
  simp only[e2,b4,dz,df,e3,d7,be,hf3,fe,ae,aX,dB,gu]
 have hnr:aN ((T++Cd)++ks.flatMap (·.2))=true:=by
  rw[bW,bW,hgn,hT,hC];rfl
 refine ze (PI:=xc (cn n)) (by rw[gU,hit];rfl) (ay:=(gV.set 0 (.lst ((T++Cd)++ks.flatMap (·.2)))).drop 0) ?_ hnr
 show bw (bg 1 [] (nA (cn n)) [it] ⟨0,[]⟩) (fun a ai=>some (jF 12 a ai))=_
 rw[e4]
 show some (jF 12 (.ref 0) _)=_
 rw[xH (ej hi2) hnr]
theorem XM{lvl:Nat}{l:Lf}:aN (rK lvl l)=true:=by
 unfold rK
 cases l.c
 ·rfl
 ·exact zj
noncomputable def pd(lvl:Nat)(l:Lf)(ks:aa)(p:AV):AV:=.frz cg fW (.int (am lvl)::j6 (kd lvl l.i) (conds lvl l) (.lst ks) p .none)
theorem En{n lvl:Nat}{l:Lf}{ks:List (AV×List AV)}{p:AV}(hlv:ri lvl=true)(hks:aN (ks.map (·.1))=true)(hp:noRef p=true)(hg: ∀k∈ks,bQ k.1=false/\ ∀σ,cn n [k.1] σ=some (.lst k.2,σ))(hgn:aN (ks.flatMap (·.2))=true)(hk:(dN lvl l++ks.flatMap (·.2)).length <=4000000)(hkl:ks.length<=4000000)(σ:AS):
  cn (n+1) [pd lvl l (ks.map (·.1)) p] σ=some (.lst (dN lvl l++ks.flatMap (·.2)),σ):=by
 have hit:noRef (pd lvl l (ks.map (·.1)) p)=true:=by
  show(true&&aN (j6 _ _ _ _ _))=true
  rw[Hn,Hm,sq,hks,hp];rfl
 obtain⟨_,_,cs,hcs,hcl,_⟩:=LV (lvl:=lvl) (l:=l) (fr:=[.none,.ref 0]) (σ:=⟨1,[(0,.lst [])]⟩) (i:=0) (L:=[]) (ahL lvl l.i) rfl rfl (gY _) (au (eA (hV _)) (au (by unfold dN;rw[ao,ao];exact au (jp _ _) (cU _ _)) hk))
 refine Pq (it:=pd lvl l (ks.map (·.1)) p) hit rfl (fun _=>rfl) (amB hlv) (cs:=cs) (fun σ=> ?_) (fun _=>rfl) (amx hlv _ _ _ _) zj XM (au hcl (by decide)) (fun{fr σ i L} h1 h2 h3 h4=> ?_) hg hgn hk hkl σ
 ·rw[<- hcs]
  obtain⟨i,c⟩:=l
  cases c<;>rfl
 ·obtain⟨fr',ai,cs',e,_,h⟩:=LV (lvl:=lvl) (l:=l) (ahL lvl l.i) h1 h2 h3 h4
  rw[hcs]at e
  cases e
  exact⟨fr',ai,h⟩
theorem ai9{n i l:Nat}(hi:i<5)(σ:AS):cn (n+1) [.frz cg fW (j8 (17+i) l .opq)] σ=some (.lst (gw (17+i) l),σ):=by
 have hrn:noRef (xX l)=true:=by unfold xX;cases l<;>rfl
 have hit:noRef (.frz cg fW (j8 (17+i) l .opq))=true:=by
  show aN (j8 (17+i) l .opq)=true
  simp only[j8,gU,XQ,XN,XK,XJ,aca,sq,hrn,XO,rt]
 have hlen:(gw (17+i) l).length <=4000000:=by
  unfold gw
  cases l<;>exact av rfl
 have h:=Pq (n:=n) (it:=.frz cg fW (j8 (17+i) l .opq)) (T:=gw (17+i) l) (Cd:=[]) (cs:=[]) (ks:=[]) (b:=false) hit rfl (fun _=>rfl) (fun _=>rfl) (fun _=>rfl) (fun _=>rfl) (rnS hi l .opq) zj rfl (aU _) (fun{fr σ i L} h1 h2 _ _=>⟨fr,σ,rfl,h1,by rw[aR];exact h2,fun _ _=>rfl⟩) (fun _ h=>absurd h bc) rfl (by rw[bD,aR,aR];exact hlen) (aU _) σ
 rw[bD,aR,aR]at h
 exact h
theorem CG{l:List (List Nat×List Nat×Nat)}: ∀{c:Nat} {a:Bool},(wz a c l).length=l.length:=by
 induction l with
 |nil=>exact rfl
 |cons x l ih=>exact congrArg nM ih
theorem aio(p:Nat):(RL p).length <=2:=by
 unfold RL xR
 cases aj p 0
 ·cases aj p 1
  ·cases aj p 2
   ·exact aU _
   ·exact ax _
  ·exact ax _
 ·exact ax _
theorem akF(p:Nat):(RX p).length <=3:=by
 unfold RX
 cases aj p 1
 ·exact aU _
 ·exact ax _
theorem aih(p:Nat):(RK p).length <=10:=by
 unfold RK
 cases aj p 2
 ·cases aj p 3
  ·exact aU _
  ·exact ax _
 ·exact ax _
theorem Z5(lvl:Nat)(x:Nat×Nat×Nat):(kn lvl x).length <=18:=by
 unfold kn am1
 rw[CG]
 show((RL x.2.2++(RX x.2.1++(RK x.2.1++[KA]))).length +1+1)<=18
 rw[ao,ao,ao]
 exact ba (ba (au (aK (aio _) (aK (akF _) (aK (aih _) (ax 1)))) (by decide)))
theorem oj(lvl:Nat)(l:Lf):(dN lvl l).length <=30:=by
 unfold dN rK
 rw[ao]
 refine aK (b:=18) (d:=12) (Z5 _ _) ?_
 cases l.c
 ·exact aU _
 ·show(fz _).length <=12
  unfold fz;rw[CG];exact av rfl
noncomputable def u4(t:Tn):List AV:=match t with
 | .leaf l=>dN 5 l
 | .grp g a=>dN 5 g++dN 10 a
 | .grp2 g a b=>dN 5 g++(dN 10 a++dN 10 b)
theorem Dy(t:Tn):(u4 t).length <=90:=by
 cases t with
 |leaf l=>exact au (oj 5 l) (by decide)
 |grp g a=>exact(ao (as:=dN 5 g))▸au (aK (oj 5 g) (oj 10 a)) (by decide)
 |grp2 g a b=>
  show(dN 5 g++(dN 10 a++dN 10 b)).length <=90
  rw[ao,ao]
  exact aK (oj 5 g) (aK (oj 10 a) (oj 10 b))
noncomputable def Vs(i n:Nat):List AV:=gX (motive:=fun _=>List AV) [] (fun l _=>gw (17+i) l) n
theorem ajc(i n:Nat):(Vs i n).length <=90:=by
 cases n with
 |zero=>exact aU _
 |succ l=>
  show(gw (17+i) l).length <=90
  unfold gw;rw[CG]
  cases l<;>exact av rfl
theorem qJ{lvl:Nat}{l:Lf}:aN (dN lvl l)=true:=by
 unfold dN;rw[bW,show aN (kn lvl (kd lvl l.i))=true from zj,XM];rfl
theorem alY{t:Tn}:aN (u4 t)=true:=by
 cases t with
 |leaf l=>exact qJ
 |grp g a=>
  show aN (dN 5 g++dN 10 a)=true
  rw[bW,qJ,qJ];rfl
 |grp2 g a b=>
  show aN (dN 5 g++(dN 10 a++dN 10 b))=true
  rw[bW,bW,qJ,qJ,qJ];rfl
theorem acb{i n:Nat}:aN (Vs i n)=true:=by
 cases n with
 |zero=>rfl
 |succ l=>exact zj
theorem Eo{n lvl:Nat}{l:Lf}(h:ri lvl=true)(σ:AS):cn (n+1) [ol lvl l .opq] σ=some (.lst (dN lvl l),σ):=by
 have h:=En (n:=n) (l:=l) (ks:=[]) (p:=.opq) h rfl rfl (fun _ h=>absurd h bc) rfl (by rw[bD,aR];exact au (oj lvl l) (by decide)) (aU _) σ
 rw[bD,aR]at h
 exact h
theorem Jp{l:aa}{m:Nat}(h:l.length<=m)(hm:cT m 4000000=true):l.length<=4000000:=au h (av hm)
theorem ad3{n:Nat}(t:Tn)(σ:AS):cn (n+2) [sE t] σ=some (.lst (u4 t),σ):=by
 cases t with
 |leaf l=>exact Eo (n:=n+1) rfl σ
 |grp g a=>
  have h:=En (n:=n+1) (lvl:=5) (l:=g) (ks:=[(ol 10 a .opq,dN 10 a)]) (p:=.opq) rfl (by rw[bd,jQ,gU,ql];rfl) rfl (fun k hk=>(aO.mp hk)▸⟨rfl,fun σ=>Eo (n:=n) rfl σ⟩)
   (by rw[aY,bD,aR];exact qJ) (by rw[aY,bD,aR];exact Jp (Dy (.grp g a)) rfl) (by exact av rfl) σ
  rw[aY,bD,aR]at h
  exact h
 |grp2 g a b=>
  have h:=En (n:=n+1) (lvl:=5) (l:=g) (ks:=[(ol 10 a .opq,dN 10 a),(ol 10 b .opq,dN 10 b)]) (p:=.opq) rfl (by rw[bd,bd,jQ,gU,gU,ql,ql];rfl) rfl
   (fun k hk=>(aG.mp hk).elim (fun h=>h▸⟨rfl,fun σ=>Eo (n:=n) rfl σ⟩) fun hk=>(aO.mp hk)▸⟨rfl,fun σ=>Eo (n:=n) rfl σ⟩)
   (by rw[aY,aY,bD,aR,bW,qJ,qJ];rfl) (by rw[aY,aY,bD,aR];exact Jp (Dy (.grp2 g a b)) rfl) (by exact av rfl) σ
  rw[aY,aY,bD,aR]at h
  exact h
noncomputable def Eu(ts:List Tn):List (AV×List AV):=ts.map fun t=>(sE t,u4 t)
noncomputable def Hw(i n:Nat):List (AV×List AV):=gX (motive:=fun _=>List (AV×List AV)) [] (fun l _=>[(.frz cg fW (j8 (17+i) l .opq),gw (17+i) l)]) n
noncomputable def il(r:Rt):List AV:=dN r.lvl r.it++(r.ts.flatMap u4++Vs (j0 1 r.it) r.ren)
theorem aav(ts:List Tn):(Eu ts).map (·.1)=Dx ts:=by
 induction ts with
 |nil=>rfl
 |cons t ts ih=>exact congrArg (sE t:: ·) ih
theorem aax(ts:List Tn):(Eu ts).flatMap (·.2)=ts.flatMap u4:=by
 induction ts with
 |nil=>rfl
 |cons t ts ih=>
  show u4 t++(Eu ts).flatMap (·.2)=_
  rw[ih];rfl
theorem Ti(ts:List Tn):aN (ts.flatMap u4)=true:=by
 induction ts with
 |nil=>rfl
 |cons t ts ih=>rw[aY,bW,alY,ih];rfl
theorem aaw{ts:List Tn}(h:ts.length<=2):(ts.flatMap u4).length <=180:=by
 cases ts with
 |nil=>exact aU _
 |cons s ts=>cases ts with
  |nil=>rw[aY,bD,aR];exact au (Dy s) (by decide)
  |cons t ts=>cases ts with
   |nil=>rw[aY,aY,bD,aR,ao];exact aK (Dy s) (Dy t)
   |cons u ts=>exact absurd h (yC.mpr (ba (ba (ba (aU _)))))
structure oa(r:Rt):Prop where
 ok:XZ r=true
 nm:r.ren≠0->j0 1 r.it<5
theorem oa.lv{r:Rt}(h:oa r):ri r.lvl=true/\r.ts.length<=2:=by
 have q:=h.ok
 unfold XZ at q
 cases z:aj r.lvl 1 with
 |true=>
  rw[z]at q
  rw[aD z];exact⟨rfl,av q⟩
 |false=>
  rw[z]at q
  refine aE (show(aj r.lvl 77&&(r.ts.isEmpty&&aj r.ren 0))=true from q) fun h1 h=>aE h fun h2 _=> ?_
  rw[aD h1,ek.mp h2];exact⟨rfl,aU _⟩
theorem uD{r:Rt}(h:oa r):(il r).length <=300:=by
 unfold il
 rw[ao,ao]
 exact au (aK (oj _ _) (aK (aaw h.lv.2) (ajc _ _))) (by decide)
theorem I5{r:Rt}:aN (il r)=true:=by
 unfold il
 rw[bW,bW,qJ,Ti,acb];rfl
theorem Vt{r:Rt}(h:oa r)(σ:AS):cn 6 [d4 r] σ=some (.lst (il r),σ):=by
 obtain⟨h1,h2⟩:=h.lv
 have hr:(Hw (j0 1 r.it) r.ren).map (·.1)=qK r/\(Hw (j0 1 r.it) r.ren).flatMap (·.2)=Vs (j0 1 r.it) r.ren/\(Hw (j0 1 r.it) r.ren).length <=1/\ ∀k∈Hw (j0 1 r.it) r.ren,bQ k.1=false/\ ∀σ,cn 5 [k.1] σ=some (.lst k.2,σ):=by
  have hn:=h.nm
  obtain⟨lv,it,ts,n⟩:=r
  cases n with
  |zero=>exact⟨rfl,rfl,aU _,fun _ h=>absurd h bc⟩
  |succ l=>exact⟨rfl,aR _,ax _,fun k hk=>(aO.mp hk)▸⟨rfl,fun σ=>ai9 (n:=4) (hn (ke _)) σ⟩⟩
 obtain⟨r1,r2,r3,r4⟩:=hr
 have hf:(Eu r.ts++Hw (j0 1 r.it) r.ren).map (·.1)=Dx r.ts++qK r:=by rw[bm,aav,r1]
 have hs:(Eu r.ts++Hw (j0 1 r.it) r.ren).flatMap (·.2)=r.ts.flatMap u4++Vs (j0 1 r.it) r.ren:=by rw[kQ,aax,r2]
 have q:=En (n:=5) (lvl:=r.lvl) (l:=r.it) (ks:=Eu r.ts++Hw (j0 1 r.it) r.ren) (p:=.none) h1 (by rw[hf,bW,NM,Vh];rfl) rfl
  (fun k hk=>(cQ.mp hk).elim (fun hk=>by
   obtain⟨t,_,rfl⟩:=dy.mp hk
   exact⟨by cases t<;>rfl,fun σ=>ad3 (n:=3) t σ⟩) (r4 k))
  (by rw[hs,bW,Ti,acb];rfl) (by rw[hs];exact Jp (uD h) rfl) (by rw[ao];exact au (aK (au (eA (aS ..)) h2) r3) (by decide)) σ
 rw[hf,hs]at q
 exact q
noncomputable def Eh(wk lk:aa)(fk:List (List Nat))(fv so:aa):AV:=.frz Zj [24,25,26,27,31,5] [.lst wk,.lst lk,.dct fk fv,.lst so,.int 0,.dct [] []]
section
variable{σ:AS}{i j:Nat}{l m:aa}
theorem pf:cX [] σ=some (.ref σ.next,σ.alloc (.lst [])):=rfl
theorem Ee(hi:σ.get i=some (.lst l))(hk:l.length+m.length<=4000000):bU .Add (.ref i) (.lst m) σ=some (.ref σ.next,σ.alloc (.lst (l++m))):=by
 have h1:iL σ (.ref i)=some l:=ji hi
 show ob (iL σ (.ref i)) _=_
 rw[h1]
 show(bif dv (l.length+m.length)then _ else none)=_
 rw[fQ hk];rfl
theorem Ix(hi:σ.get i=some (.lst l))(hj:σ.get j=some (.lst m))(hk:l.length+m.length<=4000000):bU .Add (.ref i) (.ref j) σ=some (.ref σ.next,σ.alloc (.lst (l++m))):=by
 have h1:iL σ (.ref i)=some l:=ji hi
 have h2:iL σ (.ref j)=some m:=ji hj
 show ob (iL σ (.ref i)) (fun l=>ob (iL σ (.ref j)) fun m=>bif dv (l.length+m.length)then some (AV.ref σ.next,σ.alloc (.lst (l++m)))else none)=_
 rw[h1,b4,h2,b4,fQ hk];rfl
theorem XG(hi:σ.get i=some (.lst l))(hj:σ.get j=some (.lst [])):bV .NotEq (.ref i) (.ref j) σ=some (!l.isEmpty):=by
 have h1:iL σ (.ref i)=some l:=ji hi
 have h2:iL σ (.ref j)=some []:=ji hj
 show ob (od (iL σ (.ref i)) (fun l=>ob (iL σ (.ref j)) fun m=>bif rl l m then KC (wu 16) l m else some false) _) _=_
 rw[h1,am8,h2]
 cases l<;>rfl
theorem II(hj:σ.get j=some (.lst [])):bV .Eq (.lst l) (.ref j) σ=some l.isEmpty:=by
 have h2:iL σ (.ref j)=some []:=ji hj
 show ob (iL σ (.ref j)) (fun m=>bif rl l m then KC (wu 16) l m else some false)=_
 rw[h2]
 cases l<;>rfl
end
noncomputable def Vq:SM:=aV (kX (cF (fN fU) (al 1) (aw (bq (cn 6) (aw (al 2) aJ)) aJ))) bk
theorem Qo{r:Rt}(h:oa r)(σ:AS):iA [.lst [d4 r]] σ=some (.lst (il r),σ):=by
 have e1:Vq [.lst [d4 r],.ref 0,d4 r] (AS.alloc ⟨0,[]⟩ (.lst []))=some (.next [.lst [d4 r],.ref 0,d4 r] ((AS.alloc ⟨0,[]⟩ (.lst [])).set 0 (.lst ([]++il r)))):=by
  have hu:bQ (d4 r)=false:=rfl
  unfold Vq
  simp only[df,Jk,eC,be,kE,o9,fe,hu,ae,aX,I7 (i:=0) (σ:=AS.alloc ⟨0,[]⟩ (.lst [])) (l:=[]) rfl,b4,cq,ci,ef,Vt h,ag0 (i:=0) (σ:=AS.alloc ⟨0,[]⟩ (.lst [])) (l:=[]) rfl (au (eA (hV _)) (Jp (uD h) rfl)),dz,fE]
 have e2:gv [2] (al 0) Vq [.lst [d4 r],.ref 0] (AS.alloc ⟨0,[]⟩ (.lst []))=some (.next [.lst [d4 r],.ref 0,d4 r] ((AS.alloc ⟨0,[]⟩ (.lst [])).set 0 (.lst (il r)))):=(zb (l:=[d4 r]) rfl (av rfl)).trans (Ez e1)
 have e3:bg 1 [] rJ [.lst [d4 r]] ⟨0,[]⟩=some (.ref 0,(AS.alloc ⟨0,[]⟩ (.lst [])).set 0 (.lst (il r))):=by
  show ob (ob (gv [2] (al 0) Vq [.lst [d4 r],.ref 0] (AS.alloc ⟨0,[]⟩ (.lst []))) (gP (aV (eD (al 1)) bk))) ik=_
  rw[e2];rfl
 refine ze (PI:=xf) (by rw[gU,sq,gU,KR];rfl) (ay:=((AS.alloc ⟨0,[]⟩ (.lst [])).set 0 (.lst (il r))).drop 0) ?_ I5
 show bw (bg 1 [] rJ [.lst [d4 r]] ⟨0,[]⟩) (fun a ai=>some (jF 12 a ai))=_
 rw[e3]
 show some (jF 12 (.ref 0) _)=_
 rw[xH (l:=il r) rfl I5]
noncomputable def b7(a b:ac):List AV:=wz true 8 [wd a,(uF,b,b.length),KA]
noncomputable def mx:List Nat:=[87,79,82,75,73,78,71,45,83,84,79,82,65,71,69]
noncomputable def pJ:List Nat:=[76,73,78,75,65,71,69]
noncomputable def cZ:List Nat:=[83,69,67,84,73,79,78]
noncomputable def gQ:List Nat:=[70,73,76,69]
noncomputable def jC:List Nat:=[68,65,84,65]
noncomputable def uE:List Nat:=[68,73,86,73,83,73,79,78]
noncomputable def sFD:List Nat:=[70,68]
noncomputable def sSD:List Nat:=[83,68]
noncomputable def sF1:List Nat:=[70,49]
noncomputable def aqm:List Nat:=[79,76,68]
noncomputable def kj(s:Bool):List Nat:=bif s then sSD else sFD
noncomputable def d9(o:Bool):List Nat:=bif o then aqm else sF1
theorem an7:kI (mx++32::cZ++[46]) true=some (b7 mx cZ):=by kernel_rfl
theorem an6:kI (pJ++32::cZ++[46]) true=some (b7 pJ cZ):=by kernel_rfl
theorem an5:kI (gQ++32::cZ++[46]) true=some (b7 gQ cZ):=by kernel_rfl
theorem an4:kI (jC++32::uE++[46]) true=some (b7 jC uE):=by kernel_rfl
theorem apN(o s:Bool):kI (kj s++32::d9 o++[46]) true=some (b7 (kj s) (d9 o)):=by
 cases o<;>cases s<;>kernel_rfl
theorem zi{a b:ac}:aN (b7 a b)=true:=zj
noncomputable def fF(h:aa)(o:Option Rt):List AV:=bj (motive:=fun _=>List AV) [] (fun r=>h++il r) o
noncomputable def jj(o:Option Rt):List AV:=bj (motive:=fun _=>List AV) [] (fun r=>[d4 r]) o
def Kb(o:Option Rt):Prop:= ∀r,o=some r->oa r
theorem Yh{h t a b:ac}{o:Option Rt}(he: ∀σ,bU .Add (.str h) (.str [32,83,69,67,84,73,79,78,46]) σ=some (.str t,σ))(hh:kI t true=some (b7 a b))(ho:Kb o)(σ:AS):eK [.str h,.lst (jj o)] σ=some (.lst (fF (b7 a b) o),σ):=by
 cases o with
 |none=>
  have e3:bg 2 [] eL [.str h,.lst []] ⟨0,[]⟩=some (.ref 1,AS.alloc (AS.alloc ⟨0,[]⟩ (.lst [])) (.lst [])):=by
   show ob (eL [.str h,.lst []] ⟨0,[]⟩) ik=_
   have hu:bQ (.lst [])=false:=rfl
   simp only[eL,df,jY,fx,be,kE,o9,hu,ae,aX,b4,ef,ci,pf,II (σ:=AS.alloc ⟨0,[]⟩ (.lst [])) (j:=0) (l:=[]) rfl,Gn,af,d7,dB,gu]
   rfl
  refine ze (PI:=nQ) rfl (ay:=AS.drop (AS.alloc (AS.alloc ⟨0,[]⟩ (.lst [])) (.lst [])) 1) ?_ rfl
  show bw (bg 2 [] eL [.str h,.lst []] ⟨0,[]⟩) (fun a ai=>some (jF 12 a ai))=_
  rw[e3];rfl
 |some r=>
  have hr:=ho r rfl
  have hk:(b7 a b).length +(il r).length <=4000000:=au (aK (b:=3) (eA CG) (uD hr)) (by decide)
  have hn:aN (b7 a b++il r)=true:=by rw[bW,zi,I5];rfl
  have e3:bg 2 [] eL [.str h,.lst [d4 r]] ⟨0,[]⟩=some (.ref 2,AS.alloc (AS.alloc (AS.alloc ⟨0,[]⟩ (.lst [])) (.lst (b7 a b))) (.lst (b7 a b++il r))):=by
   show ob (eL [.str h,.lst [d4 r]] ⟨0,[]⟩) ik=_
   have hu:bQ (.lst [d4 r])=false:=rfl
   simp only[eL,df,jY,fx,be,kE,o9,hu,mU,ae,aX,b4,ef,ci,cq,dW,pf,II (σ:=AS.alloc ⟨0,[]⟩ (.lst [])) (j:=0) (l:=[d4 r]) rfl,EK,fE,dz,d7,jD,he,yb hh zi,Qo hr,Ee (σ:=AS.alloc (AS.alloc ⟨0,[]⟩ (.lst [])) (.lst (b7 a b))) (i:=(AS.alloc ⟨0,[]⟩ (.lst [])).next) (l:=b7 a b) rfl hk,dB,gu]
   rfl
  refine ze (PI:=nQ) (by rw[gU,gU,show noRef (.lst (jj (some r)))=true from by show aN [d4 r]=true;rw[gU,KR];rfl];rfl) (ay:=AS.drop (AS.alloc (AS.alloc (AS.alloc ⟨0,[]⟩ (.lst [])) (.lst (b7 a b))) (.lst (b7 a b++il r))) 2) ?_ hn
  show bw (bg 2 [] eL [.str h,.lst [d4 r]] ⟨0,[]⟩) (fun a ai=>some (jF 12 a ai))=_
  rw[e3]
  show some (jF 12 (.ref 2) _)=_
  rw[xH (l:=b7 a b++il r) rfl hn];rfl
structure DS where
 f:Option (Bool×Bool×Rt)
 w:Option Rt
 l:Option Rt
structure jg(d:DS):Prop where
 f: ∀x,d.f=some x->oa x.2.2/\x.2.2.lvl=1
 w:Kb d.w
 l:Kb d.l
noncomputable def RH(d:DS):List (List Nat):=bj (motive:=fun _=>List (List Nat)) [] (fun x=>[d9 x.1]) d.f
noncomputable def Pw(d:DS):List AV:=bj (motive:=fun _=>List AV) [] (fun x=>[.lst [d4 x.2.2]]) d.f
noncomputable def fSo(d:DS):List AV:=bj (motive:=fun _=>List AV) [] (fun x=>bif x.2.1 then[.str (d9 x.1)]else[]) d.f
noncomputable def bG(d:DS):AV:=Eh (jj d.w) (jj d.l) (RH d) (Pw d) (fSo d)
noncomputable def flT(d:DS):List AV:=bj (motive:=fun _=>List AV) [] (fun x=>b7 (kj x.2.1) (d9 x.1)++il x.2.2) d.f
noncomputable def ja(d:DS):List AV:=bj (motive:=fun _=>List AV) [] (fun x=>b7 gQ cZ++(b7 (kj x.2.1) (d9 x.1)++il x.2.2)) d.f
noncomputable def dS(d:DS):List AV:=(ja d++fF (b7 mx cZ) d.w)++fF (b7 pJ cZ) d.l
noncomputable def gG(d:DS):List AV:=bif (dS d).isEmpty then[]else b7 jC uE++dS d
theorem ra{a b:ac}:(b7 a b).length=3:=CG
theorem xZ{a b:ac}{o:Option Rt}(h:Kb o):(fF (b7 a b) o).length <=303:=by
 cases o with
 |none=>exact aU _
 |some r=>
  show(b7 a b++il r).length <=303
  rw[ao,ra];exact dq (uD (h r rfl)) 3
theorem acd{a b:ac}{o:Option Rt}:aN (fF (b7 a b) o)=true:=by
 cases o with
 |none=>rfl
 |some r=>
  show aN (b7 a b++il r)=true
  rw[bW,zi,I5];rfl
theorem Hc{d:DS}(h:jg d):(ja d).length <=306:=by
 obtain⟨f,w,l⟩:=d
 cases f with
 |none=>exact aU _
 |some x=>
  show(b7 gQ cZ++(b7 (kj x.2.1) (d9 x.1)++il x.2.2)).length <=306
  rw[ao,ao,ra,ra];exact dq (dq (uD (h.f x rfl).1) 3) 3
theorem aia{d:DS}:aN (ja d)=true:=by
 obtain⟨f,w,l⟩:=d
 cases f with
 |none=>rfl
 |some x=>
  show aN (b7 gQ cZ++(b7 (kj x.2.1) (d9 x.1)++il x.2.2))=true
  rw[bW,bW,zi,zi,I5];rfl
theorem O5{d:DS}(h:jg d):(dS d).length <=1000:=by
 unfold dS
 rw[ao,ao]
 exact au (aK (aK (Hc h) (xZ h.w)) (xZ h.l)) (by decide)
theorem ah9{d:DS}:aN (dS d)=true:=by
 unfold dS;rw[bW,bW,aia,acd,acd];rfl
theorem Vg{d:DS}:aN (gG d)=true:=by
 unfold gG
 cases (dS d).isEmpty
 ·show aN (b7 jC uE++dS d)=true
  rw[bW,zi,ah9];rfl
 ·rfl
noncomputable def KD:SM:=aV (cO [3] (s7 (fi (bV .In) (al 2) (un (aA 27) (al 0))) (a7 (.str [83,68,32])) (a7 (.str [70,68,32]))))
  (aV (kX (cF (fN fU) (al 1) (aw (bi (bU .Add) (bq cH (aw (bi (bU .Add) (bi (bU .Add) (al 3) (al 2)) (a7 (.str [46]))) (aw (a7 (.bool true)) aJ))) (bq iA (aw (bi fP (un (aA 26) (al 0)) (al 2)) aJ))) aJ))) bk)
noncomputable def Eg:SM:=r5 (fi (bV .NotEq) (al 1) (bq cX aJ)) (aV (cO [1] (bi (bU .Add) (bq cH (aw (a7 (.str [70,73,76,69,32,83,69,67,84,73,79,78,46])) (aw (a7 (.bool true)) aJ))) (al 1))) bk) bk
noncomputable def s5:SM:=cO [1] (bi (bU .Add) (bi (bU .Add) (al 1) (bq eK (aw (a7 (.str [87,79,82,75,73,78,71,45,83,84,79,82,65,71,69])) (aw (un (aA 24) (al 0)) aJ)))) (bq eK (aw (a7 (.str [76,73,78,75,65,71,69])) (aw (un (aA 25) (al 0)) aJ))))
noncomputable def o7:SM:=aV (eD (s7 (fi (bV .NotEq) (al 1) (bq cX aJ)) (bi (bU .Add) (bq cH (aw (a7 (.str [68,65,84,65,32,68,73,86,73,83,73,79,78,46])) (aw (a7 (.bool true)) aJ))) (al 1)) (bq cX aJ))) bk
theorem af0:o5=aV (cO [1] (bq cX aJ)) (aV (gv [2] (un (aA 26) (al 0)) KD) (aV Eg (aV s5 o7))):=rfl
theorem aef{d:DS}(h:jg d){fr:Fm}{σ:AS}{i:Nat}(h0:gt fr 0=bG d)(h1:gt fr 1= .ref i)(hi:σ.get i=some (.lst (ja d)))(hs:i<σ.next): ∃k ai,aV s5 o7 fr σ=some (.ret (.ref k) ai)/\ai.get k=some (.lst (gG d)):=by
 have hu:bQ (bG d)=false:=rfl
 have a24: ∀σ,aA 24 (bG d) σ=some (.lst (jj d.w)):=fun _=>rfl
 have a25: ∀σ,aA 25 (bG d) σ=some (.lst (jj d.l)):=fun _=>rfl
 have s1: ∀σ,eK [.str [87,79,82,75,73,78,71,45,83,84,79,82,65,71,69],.lst (jj d.w)] σ=some (.lst (fF (b7 mx cZ) d.w),σ):=Yh (fun _=>rfl) an7 h.w
 have s2: ∀σ,eK [.str [76,73,78,75,65,71,69],.lst (jj d.l)] σ=some (.lst (fF (b7 pJ cZ) d.l),σ):=Yh (fun _=>rfl) an6 h.l
 have k1:(ja d).length +(fF (b7 mx cZ) d.w).length <=4000000:=au (aK (Hc h) (xZ h.w)) (by decide)
 have k2:(ja d++fF (b7 mx cZ) d.w).length +(fF (b7 pJ cZ) d.l).length <=4000000:=by
  rw[ao];exact au (aK (aK (Hc h) (xZ h.w)) (xZ h.l)) (by decide)
 have e1:=Ee (m:=fF (b7 mx cZ) d.w) hi k1
 have e2:=Ee (σ:=σ.alloc (.lst (ja d++fF (b7 mx cZ) d.w))) (i:=σ.next) (l:=ja d++fF (b7 mx cZ) d.w) (m:=fF (b7 pJ cZ) d.l) b8 k2
 generalize hσ:(σ.alloc (.lst (ja d++fF (b7 mx cZ) d.w))).alloc (.lst ((ja d++fF (b7 mx cZ) d.w)++fF (b7 pJ cZ) d.l))=aM at e2
 have g2:aM.get (σ.alloc (.lst (ja d++fF (b7 mx cZ) d.w))).next=some (.lst (dS d)):=by rw[<- hσ];exact b8
 have l2:(σ.alloc (.lst (ja d++fF (b7 mx cZ) d.w))).next <aM.next:=by rw[<- hσ];exact bO _
 generalize (σ.alloc (.lst (ja d++fF (b7 mx cZ) d.w))).next=j at e2 g2 l2
 have r2:s5 fr σ=some (.next (put fr 1 (.ref j)) aM):=by
  unfold s5
  simp only[fD,jD,be,h0,h1,hu,fe,ae,aX,ef,cq,ci,dW,fY,a24,a25,b4,s1,s2,e1,e2]
 have n1:=XG (σ:=aM.alloc (.lst [])) (i:=j) (j:=aM.next) (l:=dS d) (dI g2 l2) b8
 have hj:gt (put fr 1 (.ref j)) 1= .ref j:=cW
 cases hb:(dS d).isEmpty with
 |true=>
  refine⟨(aM.alloc (.lst [])).next,(aM.alloc (.lst [])).alloc (.lst []),?_,?_⟩
  ·show ob (s5 fr σ) (gP o7)=_
   rw[r2]
   show o7 (put fr 1 (.ref j)) aM=_
   unfold o7
   simp only[df,d7,ww,fx,be,hj,fe,ae,aX,ef,ci,pf,n1,hb,et,b4,dB]
  ·rw[b8];unfold gG;rw[hb];rfl
 |false=>
  have t1:=yb an4 zi (aM.alloc (.lst []))
  have g3:((aM.alloc (.lst [])).alloc (.lst (b7 jC uE))).get j=some (.lst (dS d)):=dI (dI g2 l2) (cK l2)
  have e3:=Ix (σ:=(aM.alloc (.lst [])).alloc (.lst (b7 jC uE))) (i:=(aM.alloc (.lst [])).next) (j:=j) b8 g3 (au (aK (eA ra) (O5 h)) (by decide))
  refine⟨((aM.alloc (.lst [])).alloc (.lst (b7 jC uE))).next,((aM.alloc (.lst [])).alloc (.lst (b7 jC uE))).alloc (.lst (b7 jC uE++dS d)),?_,?_⟩
  ·show ob (s5 fr σ) (gP o7)=_
   rw[r2]
   show o7 (put fr 1 (.ref j)) aM=_
   unfold o7
   have t1':cH [.str [68,65,84,65,32,68,73,86,73,83,73,79,78,46],.bool true] (aM.alloc (.lst []))=some (.ref (aM.alloc (.lst [])).next,(aM.alloc (.lst [])).alloc (.lst (b7 jC uE))):=t1
   simp only[df,d7,ww,fx,jD,be,hj,fe,ae,af,aX,ef,ci,cq,dW,pf,n1,hb,fj,b4,t1',e3,dB]
  ·rw[b8];unfold gG;rw[hb];rfl
theorem Z0(o s:Bool)(σ:AS):bV .In (.str (d9 o)) (.lst (bif s then[.str (d9 o)]else[])) σ=some s:=by cases o<;>cases s<;>rfl
theorem ZV(o:Bool)(v:AV)(σ:AS):fP (.dct [d9 o] [v]) (.str (d9 o)) σ=some (v,σ):=by cases o<;>rfl
theorem anv(o s:Bool)(σ:AS):bU .Add (.str (bif s then[83,68,32]else[70,68,32])) (.str (d9 o)) σ=some (.str (kj s++32::d9 o),σ):=by cases o<;>cases s<;>rfl
theorem anu(o s:Bool)(σ:AS):bU .Add (.str (kj s++32::d9 o)) (.str [46]) σ=some (.str (kj s++32::d9 o++[46]),σ):=by cases o<;>cases s<;>rfl
theorem ZI{o s:Bool}{r:Rt}{w l:Option Rt}{fr:Fm}{σ:AS}{i:Nat}(h:oa r)(h0:gt fr 0=bG ⟨some (o,s,r),w,l⟩)(h1:gt fr 1= .ref i)(hi:σ.get i=some (.lst []))(hs:i<σ.next):
  ∃fr' ai,KD (put fr 2 (.str (d9 o))) σ=some (.next fr' ai)/\gt fr' 0=bG ⟨some (o,s,r),w,l⟩/\gt fr' 1= .ref i/\ai.get i=some (.lst (b7 (kj s) (d9 o)++il r))/\i<ai.next:=by
 have hu:bQ (bG ⟨some (o,s,r),w,l⟩)=false:=rfl
 have a26: ∀σ,aA 26 (bG ⟨some (o,s,r),w,l⟩) σ=some (.dct [d9 o] [.lst [d4 r]]):=fun _=>rfl
 have a27: ∀σ,aA 27 (bG ⟨some (o,s,r),w,l⟩) σ=some (.lst (bif s then[.str (d9 o)]else[])):=fun _=>rfl
 have g0:gt (put fr 2 (.str (d9 o))) 0=bG ⟨some (o,s,r),w,l⟩:=(fJ rfl).trans h0
 have g2:gt (put fr 2 (.str (d9 o))) 2= .str (d9 o):=cW
 have e0:cO [3] (s7 (fi (bV .In) (al 2) (un (aA 27) (al 0))) (a7 (.str [83,68,32])) (a7 (.str [70,68,32]))) (put fr 2 (.str (d9 o))) σ=some (.next (put (put fr 2 (.str (d9 o))) 3 (.str (bif s then[83,68,32]else[70,68,32]))) σ):=by
  simp only[fD,ww,fx,be,g0,g2,hu,mU,ae,aX,fY,a27,b4,Z0,dW]
  cases s<;>rfl
 generalize hf:put (put fr 2 (.str (d9 o))) 3 (.str (bif s then[83,68,32]else[70,68,32]))=fr2 at e0
 have f0:gt fr2 0=bG ⟨some (o,s,r),w,l⟩:=by rw[<- hf];exact(fJ rfl).trans g0
 have f1:gt fr2 1= .ref i:=by rw[<- hf];exact(fJ rfl).trans ((fJ rfl).trans h1)
 have f2:gt fr2 2= .str (d9 o):=by rw[<- hf];exact(fJ rfl).trans g2
 have f3:gt fr2 3= .str (bif s then[83,68,32]else[70,68,32]):=by rw[<- hf];exact cW
 have t1:=yb (apN o s) zi σ
 have k1:(b7 (kj s) (d9 o)).length +(il r).length <=4000000:=au (aK (eA ra) (uD h)) (by decide)
 have e1:=Ee (σ:=σ.alloc (.lst (b7 (kj s) (d9 o)))) (i:=σ.next) (l:=b7 (kj s) (d9 o)) (m:=il r) b8 k1
 generalize hσ:(σ.alloc (.lst (b7 (kj s) (d9 o)))).alloc (.lst (b7 (kj s) (d9 o)++il r))=aM at e1
 have g3:aM.get (σ.alloc (.lst (b7 (kj s) (d9 o)))).next=some (.lst (b7 (kj s) (d9 o)++il r)):=by rw[<- hσ];exact b8
 have g4:aM.get i=some (.lst []):=by rw[<- hσ];exact dI (dI hi hs) (cK hs)
 have l2:i<(σ.alloc (.lst (b7 (kj s) (d9 o)))).next:=cK hs
 have l3:i<aM.next:=by rw[<- hσ];exact cK (cK hs)
 generalize (σ.alloc (.lst (b7 (kj s) (d9 o)))).next=j at e1 g3 l2
 have hij:aj i j=false:=by rw[fV];exact decide_eq_false (cj l2)
 have k2:([]:List AV).length +(b7 (kj s) (d9 o)++il r).length <=4000000:=by rw[ao];exact au (eA (hV _)) k1
 have e2:=ag1 g4 g3 hij k2
 refine⟨fr2,aM.set i (.lst ([]++(b7 (kj s) (d9 o)++il r))),?_,f0,f1,ej g4,l3⟩
 show ob (cO [3] (s7 (fi (bV .In) (al 2) (un (aA 27) (al 0))) (a7 (.str [83,68,32])) (a7 (.str [70,68,32]))) (put fr 2 (.str (d9 o))) σ) _=_
 rw[e0]
 show aV _ _ fr2 σ=_
 simp only[df,Jk,eC,be,f0,f1,f2,f3,hu,fe,mU,ae,aX,I7 hi,b4,cq,ci,ef,jD,anv,anu,dW,t1,fY,a26,ZV,Qo h,e1,e2,dz,fE]
theorem ZR{d:DS}(h:jg d){fr:Fm}{σ:AS}{i:Nat}{L:aa}(h0:gt fr 0=bG d)(h1:gt fr 1= .ref i)(hi:σ.get i=some (.lst L))(hs:i<σ.next)(hL:L=flT d): ∃fr' ai j,Eg fr σ=some (.next fr' ai)/\gt fr' 0=bG d/\gt fr' 1= .ref j/\ai.get j=some (.lst (ja d))/\j<ai.next:=by
 have n1:=XG (σ:=σ.alloc (.lst [])) (i:=i) (j:=σ.next) (l:=L) (dI hi hs) b8
 obtain⟨f,w,l⟩:=d
 cases f with
 |none=>
  have hL:L=[]:=hL
  subst hL
  refine⟨fr,σ.alloc (.lst []),i,?_,h0,h1,dI hi hs,cK hs⟩
  unfold Eg
  simp only[jY,fx,be,h1,fe,ae,aX,ef,ci,pf,n1,Gn,et,b4,fE]
 |some x=>
  have hL:L=b7 (kj x.2.1) (d9 x.1)++il x.2.2:=hL
  have he:L.isEmpty=false:=by rw[hL];rfl
  have t1:=yb an5 zi (σ.alloc (.lst []))
  have t1':cH [.str [70,73,76,69,32,83,69,67,84,73,79,78,46],.bool true] (σ.alloc (.lst []))=some (.ref (σ.alloc (.lst [])).next,(σ.alloc (.lst [])).alloc (.lst (b7 gQ cZ))):=t1
  have g3:((σ.alloc (.lst [])).alloc (.lst (b7 gQ cZ))).get i=some (.lst L):=dI (dI hi hs) (cK hs)
  have hk:(b7 gQ cZ).length +L.length<=4000000:=by
   rw[hL,ao]
   exact au (aK (eA ra) (aK (eA ra) (uD (h.f x rfl).1))) (by decide)
  have e3:=Ix (σ:=(σ.alloc (.lst [])).alloc (.lst (b7 gQ cZ))) (i:=(σ.alloc (.lst [])).next) (j:=i) b8 g3 hk
  refine⟨put fr 1 (.ref ((σ.alloc (.lst [])).alloc (.lst (b7 gQ cZ))).next),((σ.alloc (.lst [])).alloc (.lst (b7 gQ cZ))).alloc (.lst (b7 gQ cZ++L)),((σ.alloc (.lst [])).alloc (.lst (b7 gQ cZ))).next,?_,(fJ rfl).trans h0,cW,?_,bO _⟩
  ·unfold Eg
   simp only[jY,fx,be,h1,fe,ae,af,aX,ef,ci,cq,dW,pf,n1,he,fj,b4,df,fD,jD,t1',e3,dz,fE]
  ·rw[b8,hL];rfl
theorem KQ{d:DS}:aN [bG d]=true:=by
 have h: ∀o:Option Rt,aN (jj o)=true:=fun o=>by
  cases o with
  |none=>rfl
  |some r=>show aN [d4 r]=true;rw[gU,KR];rfl
 obtain⟨f,w,l⟩:=d
 have hf:aN (Pw ⟨f,w,l⟩)=true:=by
  cases f with
  |none=>rfl
  |some x=>show aN [.lst [d4 x.2.2]]=true;rw[gU,sq,gU,KR];rfl
 have hs:aN (fSo ⟨f,w,l⟩)=true:=by
  cases f with
  |none=>rfl
  |some x=>show aN (bif x.2.1 then[.str (d9 x.1)]else[])=true;cases x.2.1<;>rfl
 show(aN [.lst (jj w),.lst (jj l),.dct _ (Pw ⟨f,w,l⟩),.lst (fSo ⟨f,w,l⟩),.int 0,.dct [] []]&&true)=true
 rw[gU,gU,gU,gU,sq,sq,sq,h,h,hs,show noRef (.dct (RH ⟨f,w,l⟩) (Pw ⟨f,w,l⟩))=true from hf];rfl
theorem ac5{d:DS}(h:jg d)(σ:AS):ia [bG d] σ=some (.lst (gG d),σ):=by
 have hu:bQ (bG d)=false:=rfl
 have start: ∃fr' ai,gv [2] (un (aA 26) (al 0)) KD [bG d,.ref 0] (AS.alloc ⟨0,[]⟩ (.lst []))=some (.next fr' ai)/\gt fr' 0=bG d/\gt fr' 1= .ref 0/\ai.get 0=some (.lst (flT d))/\0<ai.next:=by
  obtain⟨f,w,l⟩:=d
  cases f with
  |none=>exact⟨_,_,rfl,rfl,rfl,rfl,gY _⟩
  |some x=>
   obtain⟨fr',ai,e,h0,h1,h2,h3⟩:=ZI (o:=x.1) (s:=x.2.1) (r:=x.2.2) (w:=w) (l:=l) (fr:=[bG ⟨some (x.1,x.2.1,x.2.2),w,l⟩,.ref 0]) (σ:=AS.alloc ⟨0,[]⟩ (.lst [])) (i:=0) (h.f x rfl).1 rfl rfl rfl (gY _)
   exact⟨fr',ai,(show gv [2] (un (aA 26) (al 0)) KD [bG ⟨some x,w,l⟩,.ref 0] (AS.alloc ⟨0,[]⟩ (.lst []))=pD [2] KD [.str (d9 x.1)] [bG ⟨some x,w,l⟩,.ref 0] (AS.alloc ⟨0,[]⟩ (.lst [])) from rfl).trans ((Ez e).trans rfl),h0,h1,h2,h3⟩
 obtain⟨fr1,gy,e1,a0,a1,a2,a3⟩:=start
 obtain⟨fr2,gV,j,e2,b0,b1,b2,b3⟩:=ZR h a0 a1 a2 a3 rfl
 obtain⟨k,qu,e3,c1⟩:=aef h b0 b1 b2 b3
 have e4:bg 1 [] o5 [bG d] ⟨0,[]⟩=some (.ref k,qu):=by
  rw[af0]
  show ob (ob (gv [2] (un (aA 26) (al 0)) KD [bG d,.ref 0] (AS.alloc ⟨0,[]⟩ (.lst []))) (gP (aV Eg (aV s5 o7)))) ik=_
  rw[e1]
  show ob (ob (Eg fr1 gy) (gP (aV s5 o7))) ik=_
  rw[e2]
  show ob (aV s5 o7 fr2 gV) ik=_
  rw[e3];rfl
 have e5:rB [bG d] ⟨0,[]⟩=some (.lst (gG d),qu.drop k):=by
  show bw (bg 1 [] o5 [bG d] ⟨0,[]⟩) (fun a ai=>some (jF 12 a ai))=_
  rw[e4]
  show some (jF 12 (.ref k) _)=_
  rw[xH c1 Vg]
 show pr (pR (jF 14) [bG d] σ) (fun args' ai=>vJ nU rB args' ai)=_
 rw[show pR (jF 14) [bG d] σ=([bG d],σ) from P0 KQ]
 exact ze KQ e5 Vg
noncomputable def flat:Nat->AV->Bool
 |n,a=>match a with
  | .none=>true
  | .bool _=>true
  | .int _=>true
  | .str _=>true
  | .bytes _=>true
  | .tup l=>match n with
   |0=>false
   |n+1=>l.all (flat n)
  |_=>false
theorem Pu(s:ac):dg s s=true:=by rw[kK];exact decide_eq_true rfl
theorem adb(i:Int):KB i i=true:=by cases i<;>exact y4 _
theorem ada(b:List UInt8):IH b (.bytes b)=some true:=congrArg some (beq_self_eq_true b)
theorem OX{n:Nat}{a:AV}(h:flat n a=true)(ht:CC a=false):LN a a=some true:=by
 cases a with
 |none=>rfl
 |bool b=>cases b<;>rfl
 |int i=>exact congrArg some (adb i)
 |str s=>exact congrArg some (Pu s)
 |bytes b=>exact ada b
 |tup l=>exact ff ht.symm
 |_=>cases n<;>exact ff h
theorem SK{n:Nat}: ∀{a:AV},flat n a=true->wu n a a=some true:=by
 induction n with
 |zero=>
  intro a h
  refine OX h ?_
  cases a<;>first|rfl|exact ff h
 |succ n ih=>
  intro a h
  by_cases q: ∃l,a= .tup l
  ·obtain⟨l,rfl⟩:=q
   have h:l.all (flat n)=true:=h
   show KC (wu n) l l=some true
   induction l with
   |nil=>rfl
   |cons a l ihl=>
    obtain⟨h1,h2⟩:=bu.mp (show(flat n a&&l.all (flat n))=true from h)
    show ob (wu n a a) (fun x=>ob (KC (wu n) l l) fun y=>some (x&&y))=_
    rw[ih h1,b4,ihl (by exact h2) (by exact h2)];rfl
  ·have ht:CC a=false:=by cases a<;>first|rfl|exact absurd ⟨_,rfl⟩ q
   show(bif CC a&&CC a then _ else LN a a)=_
   rw[ht];exact OX h ht
theorem G6{i:Nat}{elt:EM}{fr:Fm}{ps:List (AV×AV)}: ∀{σ:AS},(∀p∈ps,∀σ,elt (put fr i p.1) σ=some (p.2,σ))->eB [i] (fun _ σ=>some (true,σ)) elt (ps.map (·.1)) fr σ=some (ps.map (·.2),σ):=by
 induction ps with
 |nil=>exact fun _=>rfl
 |cons p ps ih=>
  intro σ h
  show bw (elt (put fr i p.1) σ) (fun b fR=>bw (eB [i] (fun _ σ=>some (true,σ)) elt (ps.map (·.1)) fr fR) fun l cJ=>some (b::l,cJ))=_
  rw[h p (bb ..),aX,ih fun q hq=>h q (aQ _ hq)];rfl
theorem NI{l:aa}{σ:AS}(h:l.length<=4000000):fy σ (.lst l)=some (l,σ):=by
 show(bif dv l.length then some (l,σ)else none)=_
 rw[fQ h];rfl
theorem G8{i:Nat}{it elt:EM}{fr:Fm}{ps:List (AV×AV)}{σ:AS}(hi:it fr σ=some (.lst (ps.map (·.1)),σ))(hl:ps.length<=4000000)(h: ∀p∈ps,∀σ,elt (put fr i p.1) σ=some (p.2,σ)):
  eJ [i] it (fun _ σ=>some (true,σ)) elt fr σ=some (.ref σ.next,σ.alloc (.lst (ps.map (·.2)))):=by
 show bw (it fr σ) (fun x ai=>bw (fy ai x) fun l ay=>bw (eB [i] (fun _ σ=>some (true,σ)) elt l fr ay) fun vs aM=>bif dv vs.length then some (AV.ref aM.next,aM.alloc (.lst vs))else none)=_
 rw[hi,aX,NI (by rw[aS];exact hl),aX,G6 h,aX,fQ (by rw[aS];exact hl)];rfl
theorem ye{l:aa}{σ:AS}{j:Nat}(hj:σ.get j=some (.lst l))(h:l.length<=4000000):eZ [.ref j] σ=some (.tup l,σ):=by
 show ob (iL σ (.ref j)) (fun l=>bif dv l.length then some (AV.tup l,σ)else none)=_
 rw[show iL σ (.ref j)=some l from ji hj,b4,fQ h];rfl
noncomputable def QD(lv nmv cl:AV)(nds kds:aa):AV:=.tup [lv,nmv,cl,.tup nds,.tup kds]
noncomputable def ndT(n:Nat):AV:=.tup [.str ([73,83,45]++nm n),.tup [.tup [.tup [.str [110,117,109,98,101,114],.tup [.int (-5),.int 0]],.tup [.str [110,117,109,98,101,114],.tup [.int 125,.int 2]]],.tup [.tup [.str [116,101,120,116],.bytes [113]],.none]]]
theorem TI{n:Nat}{it lv nmv cl:AV}{cs ks:List (AV×AV)}(hit:noRef it=true)(hu:bQ it=false)(h20: ∀σ,aA 20 it σ=some lv)(h18: ∀σ,aA 18 it σ=some nmv)(h23: ∀σ,aA 23 it σ=some (.lst (cs.map (·.1))))(h22: ∀σ,aA 22 it σ=some (.lst (ks.map (·.1))))(hm: ∀σ,yL it σ=some jl)(hcl: ∀σ,jl [it] σ=some (cl,σ))
  (hc: ∀p∈cs,∀σ,bQ p.1=false/\FF p.1 σ=some nB/\fg [p.1] σ=some (p.2,σ))(hk: ∀p∈ks,∀σ,bQ p.1=false/\FF p.1 σ=some cg/\bA n [p.1] σ=some (p.2,σ))(hcl1:cs.length<=4000000)(hkl:ks.length<=4000000)(hr:noRef (QD lv nmv cl (cs.map (·.2)) (ks.map (·.2)))=true)(σ:AS):
  bA (n+1) [it] σ=some (QD lv nmv cl (cs.map (·.2)) (ks.map (·.2)),σ):=by
 have c1: ∀σ,eJ [3] (un (aA 23) (al 0)) (fun _ σ=>some (true,σ)) (cF (fc nB fg (fc cg (bA n) gK)) (al 3) aJ) [it] σ=some (.ref σ.next,σ.alloc (.lst (cs.map (·.2)))):=fun σ=>G8 (by simp only[fY,be,kE,hu,ae,aX,h23,b4]) hcl1 fun p hp σ=>by
  obtain⟨u,q1,q2⟩:=hc p hp σ
  have hd:fc nB fg (fc cg (bA n) gK) p.1 σ=some fg:=ji q1
  simp only[eC,be,cW,u,ae,aX,hd,b4,ci,q2]
 have c2: ∀fr σ,gt fr 0=it->eJ [2] (un (aA 22) (al 0)) (fun _ σ=>some (true,σ)) (cF (fc nB fg (fc cg (bA n) gK)) (al 2) aJ) fr σ=some (.ref σ.next,σ.alloc (.lst (ks.map (·.2)))):=fun fr σ hf=>G8 (by simp only[fY,be,hf,hu,ae,aX,h22,b4]) hkl fun p hp σ=>by
  obtain⟨u,q1,q2⟩:=hk p hp σ
  have hd:fc nB fg (fc cg (bA n) gK) p.1 σ=some (bA n):=(ji q1).trans (ji q1)
  simp only[eC,be,cW,u,ae,aX,hd,b4,ci,q2]
 have t1: ∀σ:AS,eZ [.ref σ.next] (σ.alloc (.lst (cs.map (·.2))))=some (.tup (cs.map (·.2)),σ.alloc (.lst (cs.map (·.2)))):=fun σ=>ye b8 (by rw[aS];exact hcl1)
 have t2: ∀σ:AS,eZ [.ref σ.next] (σ.alloc (.lst (ks.map (·.2))))=some (.tup (ks.map (·.2)),σ.alloc (.lst (ks.map (·.2)))):=fun σ=>ye b8 (by rw[aS];exact hkl)
 have hmk: ∀a b c d e σ,fX [a,b,c,d,e] σ=some (.tup [a,b,c,d,e],σ):=fun _ _ _ _ _ _=>rfl
 have e1: ∀σ:AS,wq (bA n) [it] σ=some (QD lv nmv cl (cs.map (·.2)) (ks.map (·.2)),(σ.alloc (.lst (cs.map (·.2)))).alloc (.lst (ks.map (·.2)))):=fun σ=>by
  show ob (yT (bA n) [it] σ) ik=_
  have hut:bQ (.tup (cs.map (·.2)))=false:=rfl
  simp only[yT,df,fD,ef,cq,ci,c1,aX,t1,b4,dz,su,sv,putN,d7,fY,be,kE,o9,hu,hut,ae,h20,h18,eC,hm,hcl,c2 [it,.tup (cs.map (·.2))] _ rfl,t2,hmk,dB,gu]
  rfl
 exact ze (PI:=wq (bA n)) (by rw[gU,hit];rfl) (e1 _) hr
theorem t9{n:Nat}: ∀{a:AV},flat n a=true->flat (n+1) a=true:=by
 induction n with
 |zero=>intro a h;cases a<;>first|rfl|exact ff h
 |succ n ih=>
  intro a h
  cases a with
  |tup l=>exact bT.mpr fun b hb=>ih (bT.mp (show l.all (flat n)=true from h) b hb)
  |_=>first|rfl|exact ff h
theorem Ek{n k:Nat}{a:AV}(h:flat n a=true):flat (n+k) a=true:=by
 induction k with
 |zero=>exact h
 |succ k ih=>exact t9 ih
theorem Px{n:Nat}: ∀{a:AV},flat n a=true->noRef a=true:=by
 induction n with
 |zero=>intro a h;cases a<;>first|rfl|exact ff h
 |succ n ih=>
  intro a h
  cases a with
  |tup l=>
   have h:l.all (flat n)=true:=h
   show aN l=true
   induction l with
   |nil=>rfl
   |cons a l ihl=>
    obtain⟨h1,h2⟩:=bu.mp (show(flat n a&&l.all (flat n))=true from h)
    rw[gU,ih h1,ihl h2 h2];rfl
  |_=>first|rfl|exact ff h
theorem UX{n:Nat}{a:AV}{l:aa}:(a::l).all (flat n)=(flat n a&&l.all (flat n)):=rfl
noncomputable def ocT(w:Nat):AV:=bif aj w 2 then .tup [.int 3,.int 3,.none,.tup [.tup [.bool false,.str [75]]],.tup [.str [73,88]]]
 else bif aj w 3 then .tup [.int 0,.int 4,.tup [.str [114,101,102],.str [78],.tup [.str [71]],.tup [],.none],.tup [],.tup []]else .none
noncomputable def clT(x:Nat×Nat×Nat):AV:=.tup [xR x.2.2,.str (anl x.2.1),.str [],.bool false,ocT x.2.1,.str [],.none,.bool false,.bool false,.none]
theorem Tl(p:Nat):tc (xR p)=some (xR p)/\flat 1 (xR p)=true:=by
 unfold xR
 cases aj p 0
 ·cases aj p 1
  ·cases aj p 2<;>exact⟨rfl,rfl⟩
  ·exact⟨rfl,rfl⟩
 ·exact⟨rfl,rfl⟩
theorem xQ{P:AV->AV->Prop}{w:Nat}(h0:P .none .none)(h2:P (.frz lI [8,9,7,6,5] [.int 3,.int 3,.none,.tup [.tup [.bool false,.str [75]]],.tup [.str [73,88]]]) (.tup [.int 3,.int 3,.none,.tup [.tup [.bool false,.str [75]]],.tup [.str [73,88]]]))
  (h3:P (.frz lI [8,9,7,6,5] [.int 0,.int 4,.tup [.str [114,101,102],.str [78],.tup [.str [71]],.tup [],.none],.tup [],.tup []]) (.tup [.int 0,.int 4,.tup [.str [114,101,102],.str [78],.tup [.str [71]],.tup [],.none],.tup [],.tup []])):P (Qf w) (ocT w):=by
 unfold Qf ocT
 cases aj w 2
 ·cases aj w 3
  ·exact h0
  ·exact h3
 ·exact h2
theorem LU{it o ot a16 a15 a10 a35 a17 a11 a13 a12 a21:AV}(hu:bQ it=false)(h14: ∀σ,aA 14 it σ=some o)(ho: ∀σ,(s7 (fi (bV .Is) (un (aA 14) (al 0)) (a7 (.none))) (a7 (.none)) (cF (fc lI i5 gK) (un (aA 14) (al 0)) aJ)) [it] σ=some (ot,σ))(hou:bQ ot=false)
  (h16: ∀σ,aA 16 it σ=some a16)(h15: ∀σ,aA 15 it σ=some a15)(h10: ∀σ,aA 10 it σ=some a10)(h35: ∀σ,aA 35 it σ=some a35)(h17: ∀σ,aA 17 it σ=some a17)(h11: ∀σ,aA 11 it σ=some a11)(h13: ∀σ,aA 13 it σ=some a13)(h12: ∀σ,aA 12 it σ=some a12)(h21: ∀σ,aA 21 it σ=some a21)(σ:AS):
  jl [it] σ=some (.tup [a16,a15,a10,a35,ot,a17,a11,a13,a12,a21],σ):=by
 have m6: ∀a b c d e f σ,fX [a,b,c,d,e,f] σ=some (.tup [a,b,c,d,e,f],σ):=fun _ _ _ _ _ _ _=>rfl
 have m4: ∀a b c d σ,fX [a,b,c,d] σ=some (.tup [a,b,c,d],σ):=fun _ _ _ _ _=>rfl
 have ad: ∀a b c d e f g h i j σ,bU .Add (.tup [a,b,c,d,e,f]) (.tup [g,h,i,j]) σ=some (.tup [a,b,c,d,e,f,g,h,i,j],σ):=fun _ _ _ _ _ _ _ _ _ _ _=>rfl
 show ob (ob (bw ((s7 (fi (bV .Is) (un (aA 14) (al 0)) (a7 (.none))) (a7 (.none)) (cF (fc lI i5 gK) (un (aA 14) (al 0)) aJ)) [it] σ) fun v ai=>some (j5.next (put [it] 1 v) ai)) (gP (aV (cO [2] (bq fX (aw (un (aA 16) (al 0)) (aw (un (aA 15) (al 0)) (aw (un (aA 10) (al 0)) (aw (un (aA 35) (al 0)) (aw (al 1) (aw (un (aA 17) (al 0)) aJ))))))))
  (aV (eD (bi (bU .Add) (al 2) (bq fX (aw (un (aA 11) (al 0)) (aw (un (aA 13) (al 0)) (aw (un (aA 12) (al 0)) (aw (un (aA 21) (al 0)) aJ))))))) bk)))) ik=_
 rw[ho]
 have hut: ∀l,bQ (.tup l)=false:=fun _=>rfl
 simp only[aX,b4,dz,su,sv,putN,df,fD,ef,cq,ci,fY,be,kE,o9,hu,hou,hut,ae,h16,h15,h10,h35,h17,h11,h13,h12,h21,m6,m4,d7,jD,ad,dB,gu]
theorem Zn{x:Nat×Nat×Nat}{lv:Int}{c k p:AV}(σ:AS):jl [.frz cg fW (.int lv::j6 x c k p .none)] σ=some (clT x,σ):=by
 refine LU (it:=.frz cg fW (.int lv::j6 x c k p .none)) (o:=Qf x.2.1) (ot:=ocT x.2.1) rfl (fun _=> ?_) (fun σ=> ?_) ?_ (fun _=>(Tl x.2.2).1) (fun _=>rfl) (fun _=>rfl) (fun _=>rfl) (fun _=>rfl) (fun _=>rfl) (fun _=>rfl) (fun _=>rfl) (fun _=>rfl) σ
 ·exact xQ (P:=fun o _=>tc o=some o) rfl rfl rfl
 ·have h: ∀σ,aA 14 (.frz cg fW (.int lv::j6 x c k p .none)) σ=some (Qf x.2.1):=fun _=>xQ (P:=fun o _=>tc o=some o) rfl rfl rfl
  have hu:bQ (.frz cg fW (.int lv::j6 x c k p .none))=false:=rfl
  revert h hu
  generalize AV.frz cg fW (.int lv::j6 x c k p .none)=it
  intro h hu
  simp only[ww,fx,fY,be,kE,hu,ae,aX,h,b4,dW,ahH,eC,ci]
  exact xQ (P:=fun o t=>(bw (ob (lK o) fun r=>some (r,σ)) fun t' ai=>bif t' then some (AV.none,ai)else ob (fc lI i5 gK o ai) fun F=>F [o] ai)=some (t,σ)) rfl rfl rfl
 ·exact xQ (P:=fun _ t=>bQ t=false) rfl rfl rfl
theorem ac0(x:Nat×Nat×Nat):flat 6 (clT x)=true:=by
 have h1:flat 5 (xR x.2.2)=true:=Ek (n:=1) (k:=4) (Tl x.2.2).2
 have h2:flat 5 (ocT x.2.1)=true:=xQ (P:=fun _ t=>flat 5 t=true) rfl rfl rfl
 show(flat 5 (xR x.2.2)&&(true&&(true&&(true&&(flat 5 (ocT x.2.1)&&true)))))=true
 rw[h1,h2];rfl
theorem adY(n:Nat):flat 5 (ndT n)=true:=rfl
noncomputable def XF(lvl:Nat)(l:Lf):List AV:=bif l.c then[ndT (j0 lvl l)]else[]
noncomputable def Hg(lvl:Nat)(l:Lf)(kds:aa):AV:=QD (.int (am lvl)) (.str (nm (j0 lvl l))) (clT (kd lvl l.i)) (XF lvl l) kds
theorem rb{n lvl:Nat}{l:Lf}{kds:aa}(h:kds.all (flat (n+5))=true):flat (n+7) (Hg lvl l kds)=true:=by
 have h1:flat (n+6) (clT (kd lvl l.i))=true:=lx 6 n▸Ek (k:=n) (ac0 (kd lvl l.i))
 have h2:(XF lvl l).all (flat (n+5))=true:=by
  unfold XF
  cases l.c
  ·rfl
  ·show(flat (n+5) (ndT (j0 lvl l))&&true)=true
   rw[show flat (n+5) (ndT (j0 lvl l))=true from lx 5 n▸Ek (k:=n) (adY (j0 lvl l))];rfl
 show(true&&(true&&(flat (n+6) (clT (kd lvl l.i))&&((XF lvl l).all (flat (n+5))&&(kds.all (flat (n+5))&&true)))))=true
 rw[h1,h2,h];rfl
theorem zA{n m lvl:Nat}{l:Lf}{ks:List (AV×AV)}{p:AV}(hks:aN (ks.map (·.1))=true)(hp:noRef p=true)(hk: ∀q∈ks,∀σ,bQ q.1=false/\FF q.1 σ=some cg/\bA n [q.1] σ=some (q.2,σ))(hkl:ks.length<=4000000)(hf:(ks.map (·.2)).all (flat (m+5))=true)(σ:AS):
  bA (n+1) [pd lvl l (ks.map (·.1)) p] σ=some (Hg lvl l (ks.map (·.2)),σ):=by
 have hit:noRef (pd lvl l (ks.map (·.1)) p)=true:=by
  show(true&&aN (j6 _ _ _ _ _))=true
  rw[Hn,Hm,sq,hks,hp];rfl
 have hr:=Px (rb (n:=m) (lvl:=lvl) (l:=l) hf)
 have key: ∀cs:List (AV×AV),conds lvl l= .lst (cs.map (·.1))->cs.map (·.2)=XF lvl l->cs.length<=4000000->(∀q∈cs,∀σ,bQ q.1=false/\FF q.1 σ=some nB/\fg [q.1] σ=some (q.2,σ))->bA (n+1) [pd lvl l (ks.map (·.1)) p] σ=some (Hg lvl l (ks.map (·.2)),σ):=fun cs h1 h2 h3 h4=>by
  have h:=TI (n:=n) (it:=pd lvl l (ks.map (·.1)) p) (lv:=.int (am lvl)) (nmv:=.str (nm (j0 lvl l))) (cl:=clT (kd lvl l.i)) (cs:=cs) (ks:=ks) hit rfl (fun _=>rfl) (fun _=>rfl) (fun σ=> ?_) (fun _=>rfl) (fun _=>rfl) (fun _=>Zn _) h4 hk h3 hkl (by rw[h2];exact hr) σ
  ·rw[h2]at h;exact h
  ·rw[<- h1]
   obtain⟨i,c⟩:=l
   cases c<;>rfl
 obtain⟨i,c⟩:=l
 cases c with
 |false=>exact key [] rfl rfl (aU _) fun _ h=>absurd h bc
 |true=>exact key [(qk (j0 lvl ⟨i,true⟩),ndT (j0 lvl ⟨i,true⟩))] rfl rfl (av rfl) fun q hq σ=>(aO.mp hq)▸⟨rfl,rfl,rfl⟩
noncomputable def rnC(l:Nat):AV:=.tup [.none,.str [],.str [],.bool false,.none,.str [],.none,.bool false,.bool false,xX l]
noncomputable def Tq(n l:Nat):AV:=QD (.int 66) (.str (nm n)) (rnC l) [] []
theorem NO{P:AV->Prop}(h0:P (.tup [.str (nm 16),.none]))(h1:P (.tup [.str (nm 16),.str (nm 22)]))(l:Nat):P (xX l):=by
 cases l with
 |zero=>exact h0
 |succ l=>exact h1
theorem Qm(n l:Nat):flat 6 (Tq n l)=true:=by
 have h:flat 4 (xX l)=true:=NO (P:=fun a=>flat 4 a=true) rfl rfl l
 show(true&&(true&&((true&&(true&&(true&&(true&&(true&&(true&&(true&&(true&&(true&&(flat 4 (xX l)&&true))))))))))&&(true&&(true&&true)))))=true
 rw[h];rfl
theorem ae1{n i l:Nat}(σ:AS):bA (n+1) [.frz cg fW (j8 i l .opq)] σ=some (Tq i l,σ):=by
 have hrn:noRef (xX l)=true:=NO (P:=fun a=>noRef a=true) rfl rfl l
 have hit:noRef (.frz cg fW (j8 i l .opq))=true:=by
  show aN (j8 i l .opq)=true
  simp only[j8,gU,XQ,XN,XK,XJ,aca,sq,hrn,XO,rt]
 exact TI (n:=n) (it:=.frz cg fW (j8 i l .opq)) (lv:=.int 66) (nmv:=.str (nm i)) (cl:=rnC l) (cs:=[]) (ks:=[]) hit rfl (fun _=>rfl) (fun _=>rfl) (fun _=>rfl) (fun _=>rfl) (fun _=>rfl)
  (fun σ=>LU (it:=.frz cg fW (j8 i l .opq)) (o:=.none) (ot:=.none) (a21:=xX l) rfl (fun _=>rfl) (fun _=>rfl) rfl (fun _=>rfl) (fun _=>rfl) (fun _=>rfl) (fun _=>rfl) (fun _=>rfl) (fun _=>rfl) (fun _=>rfl) (fun _=>rfl) (fun _=>NO (P:=fun a=>tc a=some a) rfl rfl l) σ)
  (fun _ h=>absurd h bc) (fun _ h=>absurd h bc) (aU _) (aU _) (Px (Qm i l)) σ
noncomputable def CH(lvl:Nat)(l:Lf):AV:=Hg lvl l []
theorem KJ(lvl:Nat)(l:Lf):flat 7 (CH lvl l)=true:=rb (n:=0) rfl
theorem JF{n lvl:Nat}{l:Lf}(σ:AS):bA (n+1) [ol lvl l .opq] σ=some (CH lvl l,σ):=zA (m:=0) (ks:=[]) rfl rfl (fun _ h=>absurd h bc) (aU _) rfl σ
noncomputable def JE(t:Tn):AV:=match t with
 | .leaf l=>CH 5 l
 | .grp g a=>Hg 5 g [CH 10 a]
 | .grp2 g a b=>Hg 5 g [CH 10 a,CH 10 b]
theorem aaY(t:Tn):flat 9 (JE t)=true:=by
 have h: ∀a,flat 7 (CH 10 a)=true:=KJ 10
 cases t with
 |leaf l=>exact t9 (t9 (KJ 5 l))
 |grp g a=>exact rb (n:=2) (by rw[UX];show(flat 7 (CH 10 a)&&true)=true;rw[h];rfl)
 |grp2 g a b=>exact rb (n:=2) (by rw[UX,UX];show(flat 7 (CH 10 a)&&(flat 7 (CH 10 b)&&true))=true;rw[h,h];rfl)
theorem akw{n:Nat}(t:Tn)(σ:AS):bA (n+2) [sE t] σ=some (JE t,σ):=by
 have h: ∀a,flat 7 (CH 10 a)=true:=KJ 10
 cases t with
 |leaf l=>exact JF (n:=n+1) σ
 |grp g a=>exact zA (n:=n+1) (m:=2) (lvl:=5) (l:=g) (ks:=[(ol 10 a .opq,CH 10 a)]) (p:=.opq) (by rw[bd,jQ,gU,ql];rfl) rfl (fun q hq σ=>(aO.mp hq)▸⟨rfl,rfl,JF σ⟩) (av rfl) (by show(flat 7 (CH 10 a)&&true)=true;rw[h];rfl) σ
 |grp2 g a b=>exact zA (n:=n+1) (m:=2) (lvl:=5) (l:=g) (ks:=[(ol 10 a .opq,CH 10 a),(ol 10 b .opq,CH 10 b)]) (p:=.opq) (by rw[bd,bd,jQ,gU,gU,ql,ql];rfl) rfl (fun q hq σ=>(aG.mp hq).elim (fun h=>h▸⟨rfl,rfl,JF σ⟩) fun hq=>(aO.mp hq)▸⟨rfl,rfl,JF σ⟩) (av rfl) (by show(flat 7 (CH 10 a)&&(flat 7 (CH 10 b)&&true))=true;rw[h,h];rfl) σ
noncomputable def Qn(i n:Nat):List AV:=gX (motive:=fun _=>List AV) [] (fun l _=>[Tq (17+i) l]) n
noncomputable def Ji(r:Rt):AV:=Hg r.lvl r.it (r.ts.map JE++Qn (j0 1 r.it) r.ren)
theorem S5(r:Rt):(r.ts.map JE++Qn (j0 1 r.it) r.ren).all (flat 9)=true:=by
 rw[kZ]
 have h1:(r.ts.map JE).all (flat 9)=true:=bT.mpr fun a ha=>by
  obtain⟨t,_,rfl⟩:=dy.mp ha
  exact aaY t
 have h2:(Qn (j0 1 r.it) r.ren).all (flat 9)=true:=by
  cases r.ren with
  |zero=>rfl
  |succ l=>
   show(flat 9 (Tq (17+j0 1 r.it) l)&&true)=true
   rw[show flat 9 (Tq (17+j0 1 r.it) l)=true from Ek (n:=6) (k:=3) (Qm _ _)];rfl
 rw[h1,h2];rfl
theorem Qp(r:Rt):flat 11 (Ji r)=true:=rb (n:=4) (S5 r)
theorem akv{r:Rt}(h:r.ts.length<=8)(σ:AS):bA 6 [d4 r] σ=some (Ji r,σ):=by
 have hr: ∃ks:List (AV×AV),ks.map (·.1)=qK r/\ks.map (·.2)=Qn (j0 1 r.it) r.ren/\ks.length<=1/\ ∀k∈ks,∀σ,bQ k.1=false/\FF k.1 σ=some cg/\bA 5 [k.1] σ=some (k.2,σ):=by
  obtain⟨lv,it,ts,n⟩:=r
  cases n with
  |zero=>exact⟨[],rfl,rfl,aU _,fun _ h=>absurd h bc⟩
  |succ l=>exact⟨[(.frz cg fW (j8 (17+j0 1 it) l .opq),Tq (17+j0 1 it) l)],rfl,rfl,ax _,fun k hk σ=>(aO.mp hk)▸⟨rfl,rfl,ae1 σ⟩⟩
 obtain⟨ks,r1,r2,r3,r4⟩:=hr
 have hf:(r.ts.map (fun t=>(sE t,JE t))++ks).map (·.1)=Dx r.ts++qK r:=by
  rw[bm,r1,gF]
  refine congrArg (· ++qK r) ?_
  induction r.ts with
  |nil=>rfl
  |cons t ts ih=>exact congrArg (sE t:: ·) ih
 have hs:(r.ts.map (fun t=>(sE t,JE t))++ks).map (·.2)=r.ts.map JE++Qn (j0 1 r.it) r.ren:=by
  rw[bm,r2,gF];rfl
 have q:=zA (n:=5) (m:=4) (lvl:=r.lvl) (l:=r.it) (ks:=r.ts.map (fun t=>(sE t,JE t))++ks) (p:=.none) (by rw[hf,bW,NM,Vh];rfl) rfl
  (fun q hq σ=>(cQ.mp hq).elim (fun hq=>by
   obtain⟨t,_,rfl⟩:=dy.mp hq
   exact⟨by cases t<;>rfl,by cases t<;>rfl,akw (n:=3) t σ⟩) fun hq=>r4 q hq σ)
  (by rw[ao,aS];exact au (aK h r3) (by decide))
  (by rw[hs];exact S5 r) σ
 rw[hf,hs]at q
 exact q
noncomputable def kv(o:Option Rt):List AV:=bj (motive:=fun _=>List AV) [] (fun r=>[Ji r]) o
noncomputable def Pv(d:DS):List AV:=bj (motive:=fun _=>List AV) [] (fun x=>[.tup [.str (d9 x.1),.bool x.2.1,.tup [Ji x.2.2]]]) d.f
noncomputable def af8(d:DS):AV:=.tup [.tup (kv d.w),.tup (kv d.l),.tup (Pv d)]
theorem Yc(o:Option Rt):(kv o).all (flat 11)=true:=by
 cases o with
 |none=>rfl
 |some r=>
  show(flat 11 (Ji r)&&true)=true
  rw[Qp];rfl
theorem Pn(d:DS):flat 16 (af8 d)=true:=by
 have up: ∀o,(kv o).all (flat 14)=true:=fun o=>bT.mpr fun a ha=>t9 (t9 (t9 (bT.mp (Yc o) a ha)))
 have hf:(Pv d).all (flat 14)=true:=by
  obtain⟨f,w,l⟩:=d
  cases f with
  |none=>rfl
  |some x=>
   show((true&&(true&&((flat 12 (Ji x.2.2)&&true)&&true)))&&true)=true
   have:flat 12 (Ji x.2.2)=true:=t9 (Qp x.2.2)
   rw[this];rfl
 show(((kv d.w).all (flat 14))&&((kv d.l).all (flat 14)&&((Pv d).all (flat 14)&&true)))=true
 rw[up,up,hf];rfl
theorem Po{i:Nat}{it elt:EM}{fr:Fm}{ps:List (AV×AV)}{σ:AS}{x:AV}(hi:it fr σ=some (x,σ))(hx:fy σ x=some (ps.map (·.1),σ))(hl:ps.length<=4000000)(h: ∀p∈ps,∀σ,∃ai,elt (put fr i p.1) σ=some (p.2,ai)):
  ∃ai:AS,eJ [i] it (fun _ σ=>some (true,σ)) elt fr σ=some (.ref ai.next,ai.alloc (.lst (ps.map (·.2)))):=by
 have hc: ∀(ps:List (AV×AV)),(∀p∈ps,∀σ,∃ai,elt (put fr i p.1) σ=some (p.2,ai))-> ∀σ,∃ai,eB [i] (fun _ σ=>some (true,σ)) elt (ps.map (·.1)) fr σ=some (ps.map (·.2),ai):=fun ps=>by
  induction ps with
  |nil=>exact fun _ σ=>⟨σ,rfl⟩
  |cons p ps ih=>
   intro h σ
   obtain⟨gy,e1⟩:=h p (bb ..) σ
   obtain⟨gV,e2⟩:=ih (fun q hq=>h q (aQ _ hq)) gy
   refine⟨gV,?_⟩
   show bw (elt (put fr i p.1) σ) (fun b fR=>bw (eB [i] (fun _ σ=>some (true,σ)) elt (ps.map (·.1)) fr fR) fun l cJ=>some (b::l,cJ))=_
   rw[e1,aX,e2];rfl
 obtain⟨ai,e⟩:=hc ps h σ
 refine⟨ai,?_⟩
 show bw (it fr σ) (fun x ai=>bw (fy ai x) fun l ay=>bw (eB [i] (fun _ σ=>some (true,σ)) elt l fr ay) fun vs aM=>bif dv vs.length then some (AV.ref aM.next,aM.alloc (.lst vs))else none)=_
 rw[hi,aX,hx,aX,e,aX,fQ (by rw[aS];exact hl)];rfl
theorem Kb.ts{o:Option Rt}(h:Kb o): ∀r,o=some r->r.ts.length<=8:=fun r e=>au (h r e).lv.2 (by decide)
noncomputable def rtP(o:Option Rt):List (AV×AV):=bj (motive:=fun _=>List (AV×AV)) [] (fun r=>[(d4 r,Ji r)]) o
theorem Dc{o:Option Rt}(h: ∀r,o=some r->r.ts.length<=8){i:Nat}{it:EM}{fr:Fm}{σ:AS}(hi:it fr σ=some (.lst (jj o),σ)):eJ [i] it (fun _ σ=>some (true,σ)) (cF (fc cg (bA 6) gK) (al i) aJ) fr σ=some (.ref σ.next,σ.alloc (.lst (kv o))):=by
 have h1:(rtP o).map (·.1)=jj o/\(rtP o).map (·.2)=kv o/\(rtP o).length <=4000000:=by cases o<;>exact⟨rfl,rfl,av rfl⟩
 rw[<- h1.2.1]
 refine G8 (ps:=rtP o) (by rw[h1.1];exact hi) h1.2.2 fun p hp σ=> ?_
 cases o with
 |none=>exact absurd hp bc
 |some r=>
  rw[aO.mp hp]
  have hd:fc cg (bA 6) gK (d4 r) σ=some (bA 6):=rfl
  have hu:bQ (d4 r)=false:=rfl
  simp only[eC,be,cW,hu,ae,aX,hd,b4,ci,akv (h r rfl)]
theorem aaZ{d:DS}(h:jg d)(σ:AS):sT [bG d] σ=some (af8 d,σ):=by
 have hu:bQ (bG d)=false:=rfl
 have a24: ∀σ,aA 24 (bG d) σ=some (.lst (jj d.w)):=fun _=>rfl
 have a25: ∀σ,aA 25 (bG d) σ=some (.lst (jj d.l)):=fun _=>rfl
 have start: ∀σ,∃ai,cO [1] (bq eZ (aw (eJ [4] (un (aA 26) (al 0)) (fun _ σ=>some (true,σ)) (bq fX (aw (al 4) (aw (rO (fi (bV .In) (al 4) (un (aA 27) (al 0)))) (aw (bq eZ (aw (eJ [5] (bi fP (un (aA 26) (al 0)) (al 4)) (fun _ σ=>some (true,σ)) (cF (fc cg (bA 6) gK) (al 5) aJ)) aJ)) aJ))))) aJ)) [bG d] σ=some (.next [bG d,.tup (Pv d)] ai):=fun σ=>by
  have hc: ∃ai:AS,eJ [4] (un (aA 26) (al 0)) (fun _ σ=>some (true,σ)) (bq fX (aw (al 4) (aw (rO (fi (bV .In) (al 4) (un (aA 27) (al 0)))) (aw (bq eZ (aw (eJ [5] (bi fP (un (aA 26) (al 0)) (al 4)) (fun _ σ=>some (true,σ)) (cF (fc cg (bA 6) gK) (al 5) aJ)) aJ)) aJ)))) [bG d] σ=some (.ref ai.next,ai.alloc (.lst (Pv d)))/\(Pv d).length <=4000000:=by
   obtain⟨f,w,l⟩:=d
   cases f with
   |none=>
    obtain⟨ai,e⟩:=Po (i:=4) (it:=un (aA 26) (al 0)) (elt:=bq fX (aw (al 4) (aw (rO (fi (bV .In) (al 4) (un (aA 27) (al 0)))) (aw (bq eZ (aw (eJ [5] (bi fP (un (aA 26) (al 0)) (al 4)) (fun _ σ=>some (true,σ)) (cF (fc cg (bA 6) gK) (al 5) aJ)) aJ)) aJ)))) (fr:=[bG ⟨none,w,l⟩]) (ps:=[]) (σ:=σ) (x:=.dct [] []) rfl rfl (aU _) (fun _ h=>absurd h bc)
    exact⟨ai,e,aU _⟩
   |some x=>
    obtain⟨o,s,r⟩:=x
    have hr: ∀r',some r=some r'->r'.ts.length<=8:=fun r' e=>by cases e;exact au (h.f _ rfl).1.lv.2 (by decide)
    obtain⟨ai,e⟩:=Po (i:=4) (it:=un (aA 26) (al 0)) (elt:=bq fX (aw (al 4) (aw (rO (fi (bV .In) (al 4) (un (aA 27) (al 0)))) (aw (bq eZ (aw (eJ [5] (bi fP (un (aA 26) (al 0)) (al 4)) (fun _ σ=>some (true,σ)) (cF (fc cg (bA 6) gK) (al 5) aJ)) aJ)) aJ)))) (fr:=[bG ⟨some (o,s,r),w,l⟩]) (ps:=[(.str (d9 o),.tup [.str (d9 o),.bool s,.tup [Ji r]])]) (σ:=σ) (x:=.dct [d9 o] [.lst [d4 r]]) rfl rfl (av rfl) (fun p hp σ=>by
     rw[aO.mp hp]
     have a26: ∀σ,aA 26 (bG ⟨some (o,s,r),w,l⟩) σ=some (.dct [d9 o] [.lst [d4 r]]):=fun _=>rfl
     have a27: ∀σ,aA 27 (bG ⟨some (o,s,r),w,l⟩) σ=some (.lst (bif s then[.str (d9 o)]else[])):=fun _=>rfl
     have g0:gt (put [bG ⟨some (o,s,r),w,l⟩] 4 (.str (d9 o))) 0=bG ⟨some (o,s,r),w,l⟩:=rfl
     have m3: ∀a b c σ,fX [a,b,c] σ=some (.tup [a,b,c],σ):=fun _ _ _ _=>rfl
     have hrt:=Dc (o:=some r) hr (i:=5) (it:=bi fP (un (aA 26) (al 0)) (al 4)) (fr:=put [bG ⟨some (o,s,r),w,l⟩] 4 (.str (d9 o))) (σ:=σ) (by simp only[jD,fY,be,g0,cW,hu,mU,ae,aX,a26,b4,ZV];rfl)
     have ht:=ye (σ:=σ.alloc (.lst (kv (some r)))) (j:=σ.next) b8 (show(kv (some r)).length <=4000000 from av rfl)
     exact⟨_,by
      simp only[ef,cq,ci,be,cW,g0,hu,mU,ae,aX,wA,fx,fY,a27,b4,Z0,hrt,ht,m3]
      rfl⟩)
    exact⟨ai,e,av rfl⟩
  obtain⟨ai,e,hl⟩:=hc
  have ht:=ye (σ:=ai.alloc (.lst (Pv d))) (j:=ai.next) b8 hl
  exact⟨ai.alloc (.lst (Pv d)),by simp only[fD,ef,cq,ci,e,aX,ht,su,sv,putN]⟩
 obtain⟨gy,e1⟩:=start ⟨0,[]⟩
 have c3:=Dc h.w.ts (i:=3) (it:=un (aA 24) (al 0)) (fr:=[bG d,.tup (Pv d)]) (σ:=gy) (by simp only[fY,be,kE,hu,ae,aX,a24,b4])
 have c2:=Dc h.l.ts (i:=2) (it:=un (aA 25) (al 0)) (fr:=[bG d,.tup (Pv d)]) (σ:=gy.alloc (.lst (kv d.w))) (by simp only[fY,be,kE,hu,ae,aX,a25,b4])
 have t3:=ye (σ:=gy.alloc (.lst (kv d.w))) (j:=gy.next) b8 (show(kv d.w).length <=4000000 by cases d.w<;>exact av rfl)
 have t2:=ye (σ:=(gy.alloc (.lst (kv d.w))).alloc (.lst (kv d.l))) (j:=(gy.alloc (.lst (kv d.w))).next) b8 (show(kv d.l).length <=4000000 by cases d.l<;>exact av rfl)
 have m3: ∀a b c σ,fX [a,b,c] σ=some (.tup [a,b,c],σ):=fun _ _ _ _=>rfl
 have e2:wo [bG d] ⟨0,[]⟩=some (af8 d,(gy.alloc (.lst (kv d.w))).alloc (.lst (kv d.l))):=by
  show ob (ob (cO [1] _ [bG d] ⟨0,[]⟩) (gP (aV (eD (bq fX (aw (bq eZ (aw (eJ [3] (un (aA 24) (al 0)) (fun _ σ=>some (true,σ)) (cF (fc cg (bA 6) gK) (al 3) aJ)) aJ)) (aw (bq eZ (aw (eJ [2] (un (aA 25) (al 0)) (fun _ σ=>some (true,σ)) (cF (fc cg (bA 6) gK) (al 2) aJ)) aJ)) (aw (al 1) aJ))))) bk))) ik=_
  rw[e1]
  have hut:bQ (.tup (Pv d))=false:=rfl
  simp only[b4,dz,df,d7,ef,cq,ci,c3,c2,aX,t3,t2,be,kE,o9,hut,ae,m3,dB,gu]
  rfl
 exact ze (PI:=wo) KQ e2 (Px (Pn d))
noncomputable def rtX(lvl:Nat)(code:ac):AV:=.frz cg fW (.int (am lvl)::Dd (A9 (lvl::code)))
noncomputable def mX(lvl:Nat)(code:ac):List AV:=[.frz 0 (4::lvl::code) [],Yw]
noncomputable def mF(f:Option (Bool×Bool×List Nat)):List AV:=bj (motive:=fun _=>List AV) [] (fun x=>b7 gQ cZ++(b7 (kj x.2.1) (d9 x.1)++mX 1 x.2.2)) f
noncomputable def mS(h:aa)(o:Option (Nat×List Nat)):List AV:=bj (motive:=fun _=>List AV) [] (fun x=>h++mX x.1 x.2) o
noncomputable def mB(f:Option (Bool×Bool×List Nat))(w l:Option (Nat×List Nat)):List AV:=(mF f++mS (b7 mx cZ) w)++mS (b7 pJ cZ) l
noncomputable def mA(f:Option (Bool×Bool×List Nat))(w l:Option (Nat×List Nat)):List AV:=bif (mB f w l).isEmpty then[]else b7 jC uE++mB f w l
noncomputable def xL(o:Option (Nat×List Nat)):List AV:=bj (motive:=fun _=>List AV) [] (fun x=>[rtX x.1 x.2]) o
noncomputable def xD(f:Option (Bool×Bool×List Nat))(w l:Option (Nat×List Nat)):AV:=Eh (xL w) (xL l) (bj (motive:=fun _=>List (List Nat)) [] (fun x=>[d9 x.1]) f) (bj (motive:=fun _=>List AV) [] (fun x=>[.lst [rtX 1 x.2.2]]) f) (bj (motive:=fun _=>List AV) [] (fun x=>bif x.2.1 then[.str (d9 x.1)]else[]) f)
noncomputable def rdO(f:Option (Bool×Bool×List Nat))(w l:Option (Nat×List Nat)):Option (AV×Nat×List AV):=bw (Ft [.ref 0] ⟨1,[(0,.orc 1021 (mA f w l))]⟩) fun a σ=>sr σ 0 fun k l=>some (a,k,l)
theorem aiw(f:Option (Bool×Bool×List Nat))(w l:Option (Nat×List Nat)):rdO f w l=some (xD f w l,1021,[]):=by
 rcases f with _|⟨_|_,_|_,cf⟩<;>rcases w with _|⟨lw,cw⟩<;>rcases l with _|⟨ll,cl⟩<;>kernel_rfl
section
noncomputable def xz(r:Rt):List Nat:=Xa r.it++r.ren::(r.ts.map ZE).flatten
noncomputable def FG(d:DS):Option (Bool×Bool×List Nat):=d.f.map fun x=>(x.1,x.2.1,xz x.2.2)
noncomputable def jE(o:Option Rt):Option (Nat×List Nat):=o.map fun r=>(r.lvl,xz r)
noncomputable def Pm(d:DS):List AV:=mA (FG d) (jE d.w) (jE d.l)
theorem oa.ts8{r:Rt}(h:oa r):r.ts.length<=8:=au h.lv.2 (by decide)
theorem Vv{r:Rt}(h:r.ts.length<=8):rtX r.lvl (xz r)=d4 r:=by
 unfold rtX
 rw[show r.lvl::xz r=Xb r from rfl,NC r h];rfl
theorem akR{o:Option Rt}(h:Kb o):xL (jE o)=jj o:=by
 cases o with
 |none=>rfl
 |some r=>exact congrArg (fun a=>[a]) (Vv (h r rfl).ts8)
theorem apl{d:DS}(h:jg d):xD (FG d) (jE d.w) (jE d.l)=bG d:=by
 unfold xD bG
 rw[akR h.w,akR h.l]
 obtain⟨f,w,l⟩:=d
 cases f with
 |none=>rfl
 |some x=>
  obtain⟨h1,h2⟩:=h.f x rfl
  show Eh _ _ [d9 x.1] [.lst [rtX 1 (xz x.2.2)]] _=Eh _ _ [d9 x.1] [.lst [d4 x.2.2]] _
  rw[<- h2,Vv h1.ts8];rfl
theorem Qk{d:DS}(h:jg d){σ:AS}{x:Nat}{L:aa}(hx:σ.get x=some (.orc 1021 L)):oX [.ref x] (σ.set x (.orc 1021 (Pm d)))=some (bG d,σ.set x (.orc 1021 [])):=by
 have hr:=aiw (FG d) (jE d.w) (jE d.l)
 rw[apl h]at hr
 refine fM hr fun a ay h1 hr=>FT hr fun k l' h0 hr=> ?_
 have hr:=aH hr
 cases hr
 exact SU hx h1 h0 (by have:=KQ (d:=d);exact aE (show(noRef (bG d)&&aN [])=true from this) fun h _=>h)
theorem Hb{lvl:Nat}{l:Lf}(h:ri lvl=true):xp iw (rM (G9 lvl l))=dN lvl l:=by
 obtain⟨i,c⟩:=l
 have h1:iw [1,lvl,i]=kn lvl (kd lvl i):=by
  show(bif ri lvl then kn lvl (kd lvl i)else bad)=_
  rw[h];rfl
 have h2:iw [2,lvl,i]=fz (kd lvl i).1:=by
  show(bif bt (kd lvl i).1 17 then fz (kd lvl i).1 else bad)=_
  rw[G2 (ahL lvl i)];rfl
 cases c with
 |false=>exact(congrArg (· ++[]) h1)
 |true=>
  show iw [1,lvl,i]++(iw [2,lvl,i]++[])=kn lvl (kd lvl i)++fz (kd lvl i).1
  rw[h1,h2,aR]
theorem aqt(t:Tn):xp iw (rM (abL t))=u4 t:=by
 cases t with
 |leaf l=>exact Hb rfl
 |grp g a=>
  show xp iw (rM (G9 5 g++G9 10 a))=dN 5 g++dN 10 a
  rw[kH,zD,Hb rfl,Hb rfl]
 |grp2 g a b=>
  show xp iw (rM (G9 5 g++(G9 10 a++G9 10 b)))=dN 5 g++(dN 10 a++dN 10 b)
  rw[kH,zD,kH,zD,Hb rfl,Hb rfl,Hb rfl]
theorem apf(ts:List Tn):xp iw (rM (abM ts))=ts.flatMap u4:=by
 induction ts with
 |nil=>rfl
 |cons t ts ih=>
  show xp iw (rM (abL t++abM ts))=_
  rw[kH,zD,aqt,ih,aY]
theorem aql{r:Rt}(h:oa r):xp iw (FI r)=il r:=by
 rw[ND]
 unfold aga il
 rw[kH,kH,zD,zD,Hb h.lv.1,apf]
 refine congrArg (fun q=>dN r.lvl r.it++(r.ts.flatMap u4++q)) ?_
 have hn:=h.nm
 obtain⟨lv,it,ts,n⟩:=r
 cases n with
 |zero=>rfl
 |succ l=>
  have:iw [3,it.i,l]=gw (17+(kd 1 it.i).1) l:=by
   show(bif bt (kd 1 it.i).1 5 then gw (17+(kd 1 it.i).1) l else bad)=_
   rw[G2 (show(kd 1 it.i).1<5 from hn (ke _))];rfl
  show iw [3,it.i,l]++[]=gw (17+(kd 1 it.i).1) l
  rw[this,aR]
theorem alV{r:Rt}(h:oa r):mac (4::r.lvl::xz r)=il r:=by
 have hc:okC (r.lvl::xz r)=true:=by
  show(aj (A9 (Xb r)).lvl r.lvl&&XZ (A9 (Xb r)))=true
  rw[NC r h.ts8,y4,h.ok];rfl
 show RN (r.lvl::xz r)=_
 unfold RN
 rw[hc]
 show xp iw (FI (A9 (Xb r)))=_
 rw[NC r h.ts8,aql h]
theorem CQ{a b:ac}:de (b7 a b)=true:=Ev (a:=false)
theorem am6{r:Rt}(h:oa r){m:aa}(hm:u5 mac m)(hn:Es (xp mac m)=true):xp mac (mX r.lvl (xz r)++m)=il r++xp mac m/\u5 mac (mX r.lvl (xz r)++m):=
 ⟨congrArg (· ++xp mac m) (alV h),fun z=>ff z,fun _=>hn,hm⟩
theorem am5{a b:ac}{o:Option Rt}(h:Kb o){m:aa}(hm:u5 mac m)(hn:Es (xp mac m)=true):xp mac (mS (b7 a b) (jE o)++m)=fF (b7 a b) o++xp mac m/\u5 mac (mS (b7 a b) (jE o)++m)/\Es (xp mac (mS (b7 a b) (jE o)++m))=true:=by
 cases o with
 |none=>exact⟨rfl,hm,hn⟩
 |some r=>
  obtain⟨h1,h2⟩:=am6 (h r rfl) hm hn
  have h3:=EE (mac:=mac) (m:=mX r.lvl (xz r)++m) (CQ (a:=a) (b:=b))
  have e:mS (b7 a b) (jE (some r))++m=b7 a b++(mX r.lvl (xz r)++m):=aB ..
  have e2:xp mac (mS (b7 a b) (jE (some r))++m)=fF (b7 a b) (some r)++xp mac m:=by
   rw[e,h3.1,h1];exact(aB ..).symm
  refine⟨e2,by rw[e];exact h3.2 h2,?_⟩
  rw[e2];rfl
theorem apS{d:DS}(h:jg d):xp mac (mB (FG d) (jE d.w) (jE d.l))=dS d/\u5 mac (mB (FG d) (jE d.w) (jE d.l)):=by
 obtain⟨l1,l2,l3⟩:=am5 (a:=pJ) (b:=cZ) h.l (m:=[]) trivial rfl
 obtain⟨w1,w2,w3⟩:=am5 (a:=mx) (b:=cZ) h.w l2 l3
 have e:mB (FG d) (jE d.w) (jE d.l)=mF (FG d)++(mS (b7 mx cZ) (jE d.w)++(mS (b7 pJ cZ) (jE d.l)++[])):=by
  unfold mB;rw[aR,aB]
 have e3:dS d=ja d++(fF (b7 mx cZ) d.w++(fF (b7 pJ cZ) d.l++[])):=by
  unfold dS;rw[aR,aB]
 rw[e,e3]
 rw[l1]at w1
 have w1:xp mac (mS (b7 mx cZ) (jE d.w)++(mS (b7 pJ cZ) (jE d.l)++[]))=fF (b7 mx cZ) d.w++(fF (b7 pJ cZ) d.l++[]):=w1
 rw[<- w1]
 generalize mS (b7 mx cZ) (jE d.w)++(mS (b7 pJ cZ) (jE d.l)++[])=m at w2 w3 ⊢
 obtain⟨f,w,l⟩:=d
 cases f with
 |none=>exact⟨rfl,w2⟩
 |some x=>
  obtain⟨h1,h2⟩:=h.f x rfl
  obtain⟨x1,x2⟩:=am6 h1 w2 w3
  rw[h2]at x1 x2
  have h3:=EE (mac:=mac) (m:=mX 1 (xz x.2.2)++m) (CQ (a:=kj x.2.1) (b:=d9 x.1))
  have h4:=EE (mac:=mac) (m:=b7 (kj x.2.1) (d9 x.1)++(mX 1 (xz x.2.2)++m)) (CQ (a:=gQ) (b:=cZ))
  have e:mF (FG ⟨some x,w,l⟩)++m=b7 gQ cZ++(b7 (kj x.2.1) (d9 x.1)++(mX 1 (xz x.2.2)++m)):=by
   show(b7 gQ cZ++(b7 (kj x.2.1) (d9 x.1)++mX 1 (xz x.2.2)))++m=_
   rw[aB,aB]
  have e':ja ⟨some x,w,l⟩++xp mac m=b7 gQ cZ++(b7 (kj x.2.1) (d9 x.1)++(il x.2.2++xp mac m)):=by
   show(b7 gQ cZ++(b7 (kj x.2.1) (d9 x.1)++il x.2.2))++xp mac m=_
   rw[aB,aB]
  rw[e,e',h4.1,h3.1,x1]
  exact⟨rfl,h4.2 (h3.2 x2)⟩
theorem ab5{d:DS}:(mB (FG d) (jE d.w) (jE d.l)).isEmpty=(dS d).isEmpty:=by
 obtain⟨f,w,l⟩:=d
 cases f<;>cases w<;>cases l<;>rfl
theorem anH{d:DS}(h:jg d):xp mac (Pm d)=gG d/\u5 mac (Pm d):=by
 obtain⟨h1,h2⟩:=apS h
 unfold Pm mA gG
 rw[ab5]
 cases (dS d).isEmpty with
 |true=>exact⟨rfl,trivial⟩
 |false=>
  have h3:=EE (mac:=mac) (m:=mB (FG d) (jE d.w) (jE d.l)) (CQ (a:=jC) (b:=uE))
  exact⟨h3.1.trans (congrArg _ h1),h3.2 h2⟩
theorem zl{lvl:Nat}{l:Lf}:de (dN lvl l)=true:=by
 unfold dN rK
 rw[lp,SX]
 cases l.c
 ·rfl
 ·exact Ev (a:=false)
theorem aoG{t:Tn}:de (u4 t)=true:=by
 cases t with
 |leaf l=>exact zl
 |grp g a=>
  show de (dN 5 g++dN 10 a)=true
  rw[lp,zl,zl];rfl
 |grp2 g a b=>
  show de (dN 5 g++(dN 10 a++dN 10 b))=true
  rw[lp,lp,zl,zl,zl];rfl
theorem aip{r:Rt}:de (il r)=true:=by
 unfold il
 have h1:de (r.ts.flatMap u4)=true:=by
  induction r.ts with
  |nil=>rfl
  |cons t ts ih=>rw[aY,lp,aoG,ih];rfl
 have h2:de (Vs (j0 1 r.it) r.ren)=true:=by
  cases r.ren with
  |zero=>rfl
  |succ l=>exact Ev (a:=false)
 rw[lp,lp,zl,h1,h2];rfl
theorem ack{a b:ac}{o:Option Rt}:de (fF (b7 a b) o)=true:=by
 cases o with
 |none=>rfl
 |some r=>
  show de (b7 a b++il r)=true
  rw[lp,CQ,aip];rfl
theorem acj{d:DS}:de (gG d)=true:=by
 have hf:de (ja d)=true:=by
  obtain⟨f,w,l⟩:=d
  cases f with
  |none=>rfl
  |some x=>
   show de (b7 gQ cZ++(b7 (kj x.2.1) (d9 x.1)++il x.2.2))=true
   rw[lp,lp,CQ,CQ,aip];rfl
 have hb:de (dS d)=true:=by
  unfold dS;rw[lp,lp,hf,ack,ack];rfl
 unfold gG
 cases (dS d).isEmpty with
 |true=>rfl
 |false=>
  show de (b7 jC uE++dS d)=true
  rw[lp,CQ,hb];rfl
open Classical in
noncomputable def CF(d:DS)(L:aa):List AV:=if L=gG d then Pm d else L
theorem ahO{d:DS}(h:jg d)(L:aa)(c:bF)(hc:lJ mac L c):lJ mac (CF d L) c:=by
 unfold CF
 by_cases q:L=gG d
 ·rw[if_pos q]
  obtain⟨h1,h2⟩:=anH h
  refine tp hc ?_ fun _=>h2
  rw[h1,q,(TO acj).1]
 ·rw[if_neg q];exact hc
theorem ahN(d:DS):CF d (gG d)=Pm d:=if_pos rfl
theorem adT(d:DS):CF d []=[]:=by
 unfold CF
 by_cases q:[]=gG d
 ·rw[if_pos q]
  unfold gG at q
  unfold Pm mA
  rw[ab5]
  cases z:(dS d).isEmpty with
  |true=>rfl
  |false=>rw[z]at q;exact absurd q (by intro q;cases q)
 ·rw[if_neg q]
end
theorem X8{T:aa}(hk:T.length<=4000000)(hn:aN T=true)(hp:de T=true)(σ:AS): ∃x ai,xh [.lst T] σ=some (.ref x,ai)/\ai.get x=some (.orc 1021 T):=by
 have g0:(σ.alloc (.inst 1021 [] [])).get σ.next=some (.inst 1021 [] []):=b8
 have s1:oq 38 (.lst T) (.ref σ.next) (σ.alloc (.inst 1021 [] []))=some ((σ.alloc (.inst 1021 [] [])).set σ.next (.inst 1021 [38] [.lst T])):=ji g0
 have l1:σ.next<((σ.alloc (.inst 1021 [] [])).set σ.next (.inst 1021 [38] [.lst T])).next:=bO _
 have g1:((σ.alloc (.inst 1021 [] [])).set σ.next (.inst 1021 [38] [.lst T])).get σ.next=some (.inst 1021 [38] [.lst T]):=ej g0
 generalize (σ.alloc (.inst 1021 [] [])).set σ.next (.inst 1021 [38] [.lst T])=gy at s1 l1 g1
 have s2:oq 4 (.int 0) (.ref σ.next) gy=some (gy.set σ.next (.inst 1021 [38,4] [.lst T,.int 0])):=ji g1
 have l2:σ.next<(gy.set σ.next (.inst 1021 [38,4] [.lst T,.int 0])).next:=l1
 have g2:(gy.set σ.next (.inst 1021 [38,4] [.lst T,.int 0])).get σ.next=some (.inst 1021 [38,4] [.lst T,.int 0]):=ej g1
 generalize gy.set σ.next (.inst 1021 [38,4] [.lst T,.int 0])=gV at s2 l2 g2
 have g3:(gV.alloc (.dct [] [])).get σ.next=some (.inst 1021 [38,4] [.lst T,.int 0]):=dI g2 l2
 have s3:oq 37 (.ref gV.next) (.ref σ.next) (gV.alloc (.dct [] []))=some ((gV.alloc (.dct [] [])).set σ.next (.inst 1021 [38,4,37] [.lst T,.int 0,.ref gV.next])):=ji g3
 have l3:σ.next<((gV.alloc (.dct [] [])).set σ.next (.inst 1021 [38,4,37] [.lst T,.int 0,.ref gV.next])).next:=cK l2
 have g4:((gV.alloc (.dct [] [])).set σ.next (.inst 1021 [38,4,37] [.lst T,.int 0,.ref gV.next])).get σ.next=some (.inst 1021 [38,4,37] [.lst T,.int 0,.ref gV.next]):=ej g3
 generalize (gV.alloc (.dct [] [])).set σ.next (.inst 1021 [38,4,37] [.lst T,.int 0,.ref gV.next])=qu at s3 l3 g4
 have g5:(qu.alloc (.dct [] [])).get σ.next=some (.inst 1021 [38,4,37] [.lst T,.int 0,.ref gV.next]):=dI g4 l3
 have s4:oq 36 (.ref qu.next) (.ref σ.next) (qu.alloc (.dct [] []))=some ((qu.alloc (.dct [] [])).set σ.next (.inst 1021 [38,4,37,36] [.lst T,.int 0,.ref gV.next,.ref qu.next])):=ji g5
 have g6:((qu.alloc (.dct [] [])).set σ.next (.inst 1021 [38,4,37,36] [.lst T,.int 0,.ref gV.next,.ref qu.next])).get σ.next=some (.inst 1021 [38,4,37,36] [.lst T,.int 0,.ref gV.next,.ref qu.next]):=ej g5
 generalize (qu.alloc (.dct [] [])).set σ.next (.inst 1021 [38,4,37,36] [.lst T,.int 0,.ref gV.next,.ref qu.next])=σ4 at s4 g6
 have ed: ∀fr σ,FH fr σ=some (.ref σ.next,σ.alloc (.dct [] [])):=fun _ _=>rfl
 have e1:i6 [.ref σ.next,.lst T] (σ.alloc (.inst 1021 [] []))=some (.none,σ4):=by
  show ob (kh [.ref σ.next,.lst T,.int 0] (σ.alloc (.inst 1021 [] []))) ik=_
  have hu:bQ (.lst T)=false:=rfl
  simp only[kh,df,xY,be,kE,o9,fe,lX,hu,ae,aX,s1,b4,dz,s2,ed,s3,s4,fE,amd]
 have e2:ui dj i6 [.lst T] σ=some (.ref σ.next,σ4):=by
  show bw (i6 [.ref σ.next,.lst T] (σ.alloc (.inst 1021 [] []))) (fun a ai=>sZ a (some (AV.ref σ.next,ai)))=_
  rw[e1];rfl
 refine⟨σ.next,σ4.set σ.next (.orc 1021 T),?_,ej g6⟩
 show bw (ui dj i6 [.lst T] σ) (fun a ay=>ic a fun x=>CA ay x fun c ks vs=>bif aj c 1021&&dg ks [38,4,37,36]then ob (Z3 vs) (fun L=>bif dv L.length&&aN L&&de L then some (AV.ref x,ay.set x (.orc 1021 L))else none)else none)=_
 rw[e2]
 show ob (σ4.get σ.next) _=_
 rw[g6]
 show(bif dv T.length&&aN T&&de T then some (AV.ref σ.next,σ4.set σ.next (.orc 1021 T))else none)=_
 rw[fQ hk,hn,hp];rfl
theorem W9{d:DS}(h:jg d):(gG d).length <=1003:=by
 unfold gG
 cases (dS d).isEmpty with
 |true=>exact aU _
 |false=>
  show(b7 jC uE++dS d).length <=1003
  rw[ao,ra];exact au (dq (O5 h) 3) (by decide)
theorem ah3{a:AV}(h:flat 16 a=true)(σ:AS):bV .NotEq a a σ=some false:=by
 show ob (od (wu 16 a a) some _) _=_
 rw[SK h];rfl
theorem ame{d:DS}(h:jg d){lab:List AV->List AV}(hl:lab (gG d)=Pm d)(σ:AS): ∃ai x,(aV (cO [1] (bq ia (aw (al 0) aJ))) (aV (cO [2] (bq xh (aw (al 1) aJ))) (r5 (RC (fi (bV .NotEq) (cF qy (bq (mc lab) (aw (al 2) aJ)) aJ) (cF qy (al 0) aJ)) (o8 (jd (cF qa (al 2) aJ)))) (aV (fun _ _=>none) bk) bk))) [bG d] σ=some (.next [bG d,.lst (gG d),.ref x] ai):=by
 obtain⟨x,gy,r1,r2⟩:=X8 (T:=gG d) (au (W9 h) (by decide)) Vg acj σ
 have hu:bQ (bG d)=false:=rfl
 have hut:bQ (.lst (gG d))=false:=rfl
 have rd1:mc lab [.ref x] gy=some (bG d,gy.set x (.orc 1021 [])):=by
  have h1:rd gy x=some (gG d):=ji r2
  have h2:mc lab [.ref x] gy=oX [.ref x] (gy.set x (.orc 1021 (lab (gG d)))):=ji h1
  rw[h2,hl];exact Qk h r2
 have g2:(gy.set x (.orc 1021 [])).get x=some (.orc 1021 []):=ej r2
 have dn:vm [.ref x] (gy.set x (.orc 1021 []))=some (.bool true,gy.set x (.orc 1021 [])):=ji (show rd (gy.set x (.orc 1021 [])) x=some [] from ji g2)
 have mt: ∀σ,qy (bG d) σ=some sT:=fun _=>rfl
 have md:qa (.ref x) (gy.set x (.orc 1021 []))=some vm:=aau g2
 refine⟨gy.set x (.orc 1021 []),x,?_⟩
 simp only[df,fD,ef,cq,ci,be,kE,o9,hu,hut,fe,ae,aX,ac5 h,b4,dz,su,sv,putN,r1,jY,GZ,fx,eC,rd1,mt,aaZ h,ah3 (Pn d),qH,lV,md,dn,iM,et,fE]
noncomputable def anj(t:AV):Option AV:=ob (aA 28 t ⟨0,[]⟩) fun b=>UD b (aA 1 t ⟨0,[]⟩)
noncomputable def wy(t:AV):Bool:=(ob (aA 2 t ⟨0,[]⟩) fun k=>ob (aA 1 t ⟨0,[]⟩) fun w=>d8 k fun k=>d8 w fun w=>some (dg k jk&&dg w [46])).getD false
noncomputable def L2(t:AV):Option Int:=ob (aA 2 t ⟨0,[]⟩) fun k=>ob (aA 1 t ⟨0,[]⟩) fun w=>d8 k fun k=>d8 w fun w=>bif dg k pT then ob (lN 0 w) (fun n=>some (am n))else none
noncomputable def jV(p:Bool)(T:aa):List AV:=bo (motive:=fun _=>Bool->List AV) (fun _=>[]) (fun t _ ih p=>bif p then t::ih (wy t)else ih (wy t)) T p
noncomputable def mI(T:aa):List AV:=T.filterMap anj
noncomputable def iu(T:aa):List Int:=(jV true T).filterMap L2
theorem iW(l m:aa):mI (l++m)=mI l++mI m:=List.filterMap_append
theorem NR{l:List (List Nat×List Nat×Nat)}: ∀{c:Nat},mI (wz false c l)=[]:=by
 induction l with
 |nil=>exact rfl
 |cons x l ih=>exact fun{c}=>ih (c:=c+x.2.2)
theorem TJ{a:Bool}{c:Nat}{x:List Nat×List Nat×Nat}{l:List (List Nat×List Nat×Nat)}:mI (wz a c (x::l))=bif a then[.str x.2.1]else[]:=by
 cases a with
 |false=>exact NR
 |true=>exact congrArg (AV.str x.2.1:: ·) (NR (c:=c+x.2.2))
noncomputable def xO(l:List (List Nat×List Nat×Nat)):Bool:=l.all fun x=> !(dg x.1 jk&&dg x.2.1 [46])
theorem Er{l m:List (List Nat×List Nat×Nat)}:xO (l++m)=(xO l&&xO m):=kZ
theorem an0{l:List (List Nat×List Nat×Nat)}{m:aa}: ∀{a:Bool} {c:Nat},xO l=true->jV false (wz a c (l++[KA])++m)=jV true m:=by
 induction l with
 |nil=>exact fun _=>rfl
 |cons x l ih=>
  intro a c h
  refine aE (show(!(dg x.1 jk&&dg x.2.1 [46])&&xO l)=true from h) fun h1 h2=> ?_
  show jV (dg x.1 jk&&dg x.2.1 [46]) (wz false (c+x.2.2) (l++[KA])++m)=_
  rw[pj h1];exact ih h2
theorem ag7{x:List Nat×List Nat×Nat}{l:List (List Nat×List Nat×Nat)}{m:aa}{a:Bool}{c:Nat}(hx:(dg x.1 jk&&dg x.2.1 [46])=false)(h:xO l=true):jV true (wz a c (x::(l++[KA]))++m)=tk x.1 x.2.1 c a::jV true m:=by
 show tk x.1 x.2.1 c a::jV (dg x.1 jk&&dg x.2.1 [46]) (wz false (c+x.2.2) (l++[KA])++m)=_
 rw[hx,an0 h]
theorem IX{x:List Nat×List Nat×Nat}{l:List (List Nat×List Nat×Nat)}{m:aa}{a:Bool}{c:Nat}(hx:(dg x.1 jk&&dg x.2.1 [46])=false)(h:xO l=true):iu (wz a c (x::(l++[KA]))++m)=(L2 (tk x.1 x.2.1 c a)).toList++iu m:=by
 unfold iu
 rw[ag7 hx h,kP]
 cases L2 (tk x.1 x.2.1 c a)<;>rfl
theorem ain(p:Nat):xO (RL p)=true:=by
 unfold RL xR
 cases aj p 0
 ·cases aj p 1
  ·cases aj p 2<;>rfl
  ·rfl
 ·rfl
theorem akE(p:Nat):xO (RX p)=true:=by
 unfold RX
 cases aj p 1<;>rfl
theorem aig(p:Nat):xO (RK p)=true:=by
 unfold RK
 cases aj p 2
 ·cases aj p 3<;>rfl
 ·rfl
theorem Hf(lvl:Nat)(x:Nat×Nat×Nat):kn lvl x=wz (Ms lvl) (bif Ms lvl then 8 else 12) (nu (nT lvl)::((wd (nm x.1)::(RL x.2.2++(RX x.2.1++RK x.2.1)))++[KA])):=by
 show wz _ _ (nu (nT lvl)::wd (nm x.1)::(RL x.2.2++(RX x.2.1++(RK x.2.1++[KA]))))=_
 rw[eS,aB,aB];rfl
noncomputable def lvI(lvl:Nat):Option Int:=L2 (tk pT (nT lvl) 0 false)
theorem aog{lvl:Nat}(h:ri lvl=true):lvI lvl=some (am lvl):=lvE (P:=fun lvl=>lvI lvl=some (am lvl)) h rfl rfl rfl rfl
theorem ahT{lvl:Nat}{x:Nat×Nat×Nat}{m:aa}(h:ri lvl=true):iu (kn lvl x++m)=am lvl::iu m:=by
 rw[Hf,IX rfl (by
  show(!(dg uF jk&&dg (nm x.1) [46])&&xO (RL x.2.2++(RX x.2.1++RK x.2.1)))=true
  rw[Er,Er,ain,akE,aig];rfl)]
 have:L2 (tk (nu (nT lvl)).1 (nu (nT lvl)).2.1 (bif Ms lvl then 8 else 12) (Ms lvl))=some (am lvl):=(show _=lvI lvl from rfl).trans (aog h)
 rw[this];rfl
theorem ahU{n:Nat}{m:aa}:iu (fz n++m)=88::iu m:=IX (x:=nu [56,56]) (l:=[wd ([73,83,45]++nm n),wd [86,65,76,85,69],(jk,[45],1),nu [53],wd [84,72,82,85],nu [49,46,50,53],(Ye,[113],4)]) rfl rfl
theorem ahV{n l:Nat}{m:aa}:iu (gw n l++m)=66::iu m:=by
 unfold gw
 cases l with
 |zero=>exact IX (x:=nu [54,54]) (l:=[wd (nm n),wd [82,69,78,65,77,69,83],wd (nm 16)]) rfl rfl
 |succ l=>exact IX (x:=nu [54,54]) (l:=[wd (nm n),wd [82,69,78,65,77,69,83],wd (nm 16),wd [84,72,82,85],wd (nm 22)]) rfl rfl
theorem IY{a b:ac}{m:aa}:iu (b7 a b++m)=iu m:=IX (x:=wd a) (l:=[(uF,b,b.length)]) rfl rfl
noncomputable def nS(l:Lf):List Int:=bif l.c then[88]else[]
theorem qj{lvl:Nat}{l:Lf}{m:aa}(h:ri lvl=true):iu (dN lvl l++m)=am lvl::(nS l++iu m):=by
 obtain⟨i,c⟩:=l
 unfold dN rK
 rw[aB,ahT h]
 cases c with
 |false=>rfl
 |true=>exact congrArg (am lvl:: ·) ahU
noncomputable def yc(t:Tn):List Int:=match t with
 | .leaf l=>5::nS l
 | .grp g a=>5::(nS g++10::nS a)
 | .grp2 g a b=>5::(nS g++10::(nS a++10::nS b))
theorem ahW{t:Tn}{m:aa}:iu (u4 t++m)=yc t++iu m:=by
 cases t with
 |leaf l=>exact qj rfl
 |grp g a=>
  show iu ((dN 5 g++dN 10 a)++m)=5::((nS g++10::nS a)++iu m)
  rw[aB,qj rfl,qj rfl,aB];rfl
 |grp2 g a b=>
  show iu ((dN 5 g++(dN 10 a++dN 10 b))++m)=5::((nS g++10::(nS a++10::nS b))++iu m)
  rw[aB,qj rfl,aB,qj rfl,qj rfl,aB,eS,aB];rfl
noncomputable def Ql(n:Nat):List Int:=gX (motive:=fun _=>List Int) [] (fun _ _=>[66]) n
noncomputable def Ap(r:Rt):List Int:=am r.lvl::(nS r.it++(r.ts.flatMap yc++Ql r.ren))
theorem adV{ts:List Tn}{m:aa}:iu (ts.flatMap u4++m)=ts.flatMap yc++iu m:=by
 induction ts with
 |nil=>rfl
 |cons t ts ih=>rw[aY,aY,aB,ahW,ih,aB]
theorem Xz{r:Rt}(h:oa r){m:aa}:iu (il r++m)=Ap r++iu m:=by
 unfold il Ap
 rw[aB,qj h.lv.1,aB,adV]
 have:iu (Vs (j0 1 r.it) r.ren++m)=Ql r.ren++iu m:=by
  cases r.ren with
  |zero=>rfl
  |succ l=>exact ahV
 rw[this,eS,aB,aB]
theorem qt{lvl:Nat}{l:Lf}:mI (dN lvl l)=bif Ms lvl then[.str (nT lvl)]else[]:=by
 unfold dN rK
 rw[iW,Hf,TJ]
 have:mI (bif l.c then fz (j0 lvl l)else[])=[]:=by
  cases l.c
  ·rfl
  ·exact NR
 rw[this,aR];rfl
theorem akA{t:Tn}:mI (u4 t)=[]:=by
 cases t with
 |leaf l=>exact qt
 |grp g a=>exact(iW _ _).trans (by rw[qt,qt];rfl)
 |grp2 g a b=>exact(iW _ _).trans (by rw[iW,qt,qt,qt];rfl)
theorem oa.top{r:Rt}(h:oa r):r.lvl=1\/r.lvl=77:=by
 have q:=h.ok
 unfold XZ at q
 cases z:aj r.lvl 1 with
 |true=>exact .inl (aD z)
 |false=>
  rw[z]at q
  exact aE (show(aj r.lvl 77&&(r.ts.isEmpty&&aj r.ren 0))=true from q) fun h1 _=>.inr (aD h1)
theorem YF{r:Rt}(h:oa r):mI (il r)=[.str (nT r.lvl)]:=by
 unfold il
 have h1:mI (r.ts.flatMap u4)=[]:=by
  induction r.ts with
  |nil=>rfl
  |cons t ts ih=>rw[aY,iW,akA,ih];rfl
 have h2:mI (Vs (j0 1 r.it) r.ren)=[]:=by
  cases r.ren with
  |zero=>rfl
  |succ l=>exact NR
 rw[iW,iW,qt,h1,h2]
 rcases h.top with e|e<;>rw[e]<;>rfl
theorem JG{a b:ac}:mI (b7 a b)=[.str a]:=TJ
noncomputable def fL(d:DS):List AV:=jj (d.f.map (·.2.2))
noncomputable def dZ(d:DS):List AV:=(fL d++jj d.w)++jj d.l
theorem rk(o:Option Rt):(jj o).length <=1:=by cases o<;>exact av rfl
theorem Vi(o:Option Rt):aN (jj o)=true:=by
 cases o with
 |none=>rfl
 |some r=>show aN [d4 r]=true;rw[gU,KR];rfl
theorem ad1(d:DS):aN (dZ d)=true:=by
 unfold dZ fL;rw[bW,bW,Vi,Vi,Vi];rfl
theorem afT{i:Nat}{fr:Fm}{σ:AS}{l:aa}(hu: ∀a∈l,bQ a=false):eB [i] (fun _ σ=>some (true,σ)) (al i) l fr σ=some (l,σ):=by
 have h:=G6 (i:=i) (elt:=al i) (fr:=fr) (ps:=l.map fun a=>(a,a)) (σ:=σ) fun p hp σ=>by
  obtain⟨a,ha,rfl⟩:=dy.mp hp
  rw[be,cW,hu a ha];rfl
 rw[gF,gF]at h
 rwa[show NX ((fun x:AV×AV=>x.1)∘fun a=>(a,a)) l=l from tz l,show NX ((fun x:AV×AV=>x.2)∘fun a=>(a,a)) l=l from tz l]at h
theorem Xj{d:DS}{fr:Fm}{σ:AS}(h0:gt fr 0=bG d):qG 15 (un (aA 26) (al 0)) 16 (bi fP (un (aA 26) (al 0)) (al 15)) (al 16) fr σ=some (.ref σ.next,σ.alloc (.lst (fL d))):=by
 have hu:bQ (bG d)=false:=rfl
 obtain⟨f,w,l⟩:=d
 cases f with
 |none=>
  have a26: ∀σ,aA 26 (bG ⟨none,w,l⟩) σ=some (.dct [] []):=fun _=>rfl
  have e1:un (aA 26) (al 0) fr σ=some (.dct [] [],σ):=by simp only[fY,be,h0,hu,ae,aX,a26,b4]
  show bw (un (aA 26) (al 0) fr σ) (fun a ai=>bw (fy ai a) fun l ay=>bw (ju 15 (bi fP (un (aA 26) (al 0)) (al 15)) 16 (al 16) l (put fr 16 .unb) ay) fun vs aM=>bif dv vs.length then some (AV.ref aM.next,aM.alloc (.lst vs))else none)=_
  rw[e1];rfl
 |some x=>
  obtain⟨o,s,r⟩:=x
  have a26: ∀σ,aA 26 (bG ⟨some (o,s,r),w,l⟩) σ=some (.dct [d9 o] [.lst [d4 r]]):=fun _=>rfl
  have e1:un (aA 26) (al 0) fr σ=some (.dct [d9 o] [.lst [d4 r]],σ):=by simp only[fY,be,h0,hu,ae,aX,a26,b4]
  have g0:gt (put (put fr 16 .unb) 15 (.str (d9 o))) 0=bG ⟨some (o,s,r),w,l⟩:=(fJ rfl).trans ((fJ rfl).trans h0)
  have e2:bi fP (un (aA 26) (al 0)) (al 15) (put (put fr 16 .unb) 15 (.str (d9 o))) σ=some (.lst [d4 r],σ):=by simp only[jD,fY,be,g0,cW,hu,mU,ae,aX,a26,b4,ZV]
  have e3:eB [16] (fun _ σ=>some (true,σ)) (al 16) [d4 r] (put (put fr 16 .unb) 15 (.str (d9 o))) σ=some ([d4 r],σ):=afT fun a ha=>by rw[aO.mp ha];rfl
  show bw (un (aA 26) (al 0) fr σ) (fun a ai=>bw (fy ai a) fun l ay=>bw (ju 15 (bi fP (un (aA 26) (al 0)) (al 15)) 16 (al 16) l (put fr 16 .unb) ay) fun vs aM=>bif dv vs.length then some (AV.ref aM.next,aM.alloc (.lst vs))else none)=_
  rw[e1]
  show bw (bw (bi fP (un (aA 26) (al 0)) (al 15) (put (put fr 16 .unb) 15 (.str (d9 o))) σ) fun s ai=>bw (fy ai s) fun l ay=>bw (eB [16] (fun _ σ=>some (true,σ)) (al 16) l (put (put fr 16 .unb) 15 (.str (d9 o))) ay) fun bs fR=>bw (ju 15 (bi fP (un (aA 26) (al 0)) (al 15)) 16 (al 16) [] (put fr 16 .unb) fR) fun cs cJ=>some (bs++cs,cJ)) (fun vs aM=>bif dv vs.length then some (AV.ref aM.next,aM.alloc (.lst vs))else none)=_
  rw[e2]
  show bw (bw (eB [16] (fun _ σ=>some (true,σ)) (al 16) [d4 r] (put (put fr 16 .unb) 15 (.str (d9 o))) σ) fun bs fR=>bw (ju 15 (bi fP (un (aA 26) (al 0)) (al 15)) 16 (al 16) [] (put fr 16 .unb) fR) fun cs cJ=>some (bs++cs,cJ)) (fun vs aM=>bif dv vs.length then some (AV.ref aM.next,aM.alloc (.lst vs))else none)=_
  rw[e3];rfl
theorem amf{d:DS}{T:AV}{x:Nat}(σ:AS)(hT:bQ T=false): ∃ai,(aV (cO [3] (bi (bU .Add) (bi (bU .Add) (qG 15 (un (aA 26) (al 0)) 16 (bi fP (un (aA 26) (al 0)) (al 15)) (al 16)) (un (aA 24) (al 0))) (un (aA 25) (al 0)))) (Qr 3)) [bG d,T,.ref x] σ=some (.next [bG d,T,.ref x,.lst (dZ d)] ai):=by
 have hu:bQ (bG d)=false:=rfl
 have a24: ∀σ,aA 24 (bG d) σ=some (.lst (jj d.w)):=fun _=>rfl
 have a25: ∀σ,aA 25 (bG d) σ=some (.lst (jj d.l)):=fun _=>rfl
 have c1:=Xj (d:=d) (fr:=[bG d,T,.ref x]) (σ:=σ) rfl
 have k1:(fL d).length +(jj d.w).length <=4000000:=au (aK (rk _) (rk _)) (by decide)
 have k2:(fL d++jj d.w).length +(jj d.l).length <=4000000:=by
  rw[ao];exact au (aK (aK (rk _) (rk _)) (rk _)) (by decide)
 have e1:=Ee (σ:=σ.alloc (.lst (fL d))) (i:=σ.next) (l:=fL d) (m:=jj d.w) b8 k1
 have e2:=Ee (σ:=(σ.alloc (.lst (fL d))).alloc (.lst (fL d++jj d.w))) (i:=(σ.alloc (.lst (fL d))).next) (l:=fL d++jj d.w) (m:=jj d.l) b8 k2
 have hz:=xH (n:=13) (x:=((σ.alloc (.lst (fL d))).alloc (.lst (fL d++jj d.w))).next) (l:=dZ d) (σ:=((σ.alloc (.lst (fL d))).alloc (.lst (fL d++jj d.w))).alloc (.lst (dZ d))) b8 (ad1 d)
 refine⟨AS.drop (((σ.alloc (.lst (fL d))).alloc (.lst (fL d++jj d.w))).alloc (.lst (dZ d))) ((σ.alloc (.lst (fL d))).alloc (.lst (fL d++jj d.w))).next,?_⟩
 show ob (cO [3] _ [bG d,T,.ref x] σ) (gP (Qr 3))=_
 have e3:cO [3] (bi (bU .Add) (bi (bU .Add) (qG 15 (un (aA 26) (al 0)) 16 (bi fP (un (aA 26) (al 0)) (al 15)) (al 16)) (un (aA 24) (al 0))) (un (aA 25) (al 0))) [bG d,T,.ref x] σ=some (.next [bG d,T,.ref x,.ref ((σ.alloc (.lst (fL d))).alloc (.lst (fL d++jj d.w))).next] (((σ.alloc (.lst (fL d))).alloc (.lst (fL d++jj d.w))).alloc (.lst (dZ d)))):=by
  simp only[fD,jD,c1,aX,fY,be,kE,hu,ae,a24,a25,b4,e1,e2,su,sv,putN]
  rfl
 rw[e3]
 show pr (jF 14 (.ref _) _) (fun a ai=>some (j5.next (put [bG d,T,.ref x,.ref _] 3 a) ai))=_
 rw[hz];rfl
theorem O8{i:Nat}{test:BM}{elt:EM}{fr:Fm}{g:AV->Option AV}{l:aa}: ∀{σ:AS},(∀t∈l,∀σ,∃b,test (put fr i t) σ=some (b,σ)/\(b=true-> ∃v,elt (put fr i t) σ=some (v,σ)/\g t=some v)/\(b=false->g t=none))->eB [i] test elt l fr σ=some (l.filterMap g,σ):=by
 induction l with
 |nil=>exact fun _=>rfl
 |cons t l ih=>
  intro σ h
  have ih:=ih (σ:=σ) fun t ht=>h t (aQ _ ht)
  obtain⟨b,h1,h2,h3⟩:=h t (bb ..) σ
  show bw (test (put fr i t) σ) (fun b ai=>bif b then bw (elt (put fr i t) ai) (fun v fR=>bw (eB [i] test elt l fr fR) fun l cJ=>some (v::l,cJ))else eB [i] test elt l fr ai)=_
  rw[h1,aX]
  cases b with
  |true=>
   obtain⟨v,e1,e2⟩:=h2 rfl
   rw[af,e1,aX,ih,kP,e2];rfl
  |false=>
   rw[ae,ih,kP,h3 rfl]
def lH(l:aa):Prop:= ∀t∈l,∃k w c a,t=tk k w c a
theorem lH.app{l m:aa}(h:lH l)(h':lH m):lH (l++m):=fun t ht=>(cQ.mp ht).elim (h t) (h' t)
theorem lH.nil:lH []:=fun _ h=>absurd h bc
theorem zz{l:List (List Nat×List Nat×Nat)}: ∀{c:Nat} {a:Bool},lH (wz a c l):=by
 induction l with
 |nil=>exact lH.nil
 |cons x l ih=>exact fun{c a} t ht=>(aG.mp ht).elim (fun h=>⟨_,_,_,_,h⟩) (ih t)
theorem zy{lvl:Nat}{l:Lf}:lH (dN lvl l):=by
 refine lH.app zz ?_
 unfold rK
 cases l.c
 ·exact lH.nil
 ·exact zz
theorem ape{t:Tn}:lH (u4 t):=by
 cases t with
 |leaf l=>exact zy
 |grp g a=>exact lH.app zy zy
 |grp2 g a b=>exact lH.app zy (lH.app zy zy)
theorem akt{r:Rt}:lH (il r):=by
 refine lH.app zy (lH.app ?_ ?_)
 ·exact fun t ht=>(List.mem_flatMap.mp ht).elim fun s h=>ape t h.2
 ·cases r.ren with
  |zero=>exact lH.nil
  |succ l=>exact zz
theorem acv{a b:ac}{o:Option Rt}:lH (fF (b7 a b) o):=by
 cases o with
 |none=>exact lH.nil
 |some r=>exact lH.app zz akt
theorem aaX{d:DS}:lH (gG d):=by
 have hf:lH (ja d):=by
  obtain⟨f,w,l⟩:=d
  cases f with
  |none=>exact lH.nil
  |some x=>exact lH.app zz (lH.app zz akt)
 unfold gG
 cases (dS d).isEmpty
 ·exact lH.app zz (lH.app (lH.app hf acv) acv)
 ·exact lH.nil
theorem aa0{T:aa}(hT:lH T)(hk:T.length<=4000000){fr:Fm}{σ:AS}(h1:gt fr 1= .lst T):eJ [14] (al 1) (jd (un (aA 28) (al 14))) (un (aA 1) (al 14)) fr σ=some (.ref σ.next,σ.alloc (.lst (mI T))):=by
 have e1:al 1 fr σ=some (.lst T,σ):=by rw[be,h1];rfl
 have c:eB [14] (jd (un (aA 28) (al 14))) (un (aA 1) (al 14)) T fr σ=some (mI T,σ):=O8 (g:=anj) fun t ht σ=>by
  obtain⟨k,w,c,a,rfl⟩:=hT t ht
  have a28: ∀σ,aA 28 (tk k w c a) σ=some (.bool a):=fun _=>rfl
  have a1: ∀σ,aA 1 (tk k w c a) σ=some (.str w):=fun _=>rfl
  have hu:bQ (tk k w c a)=false:=rfl
  refine⟨a,by simp only[lV,fY,be,cW,hu,ae,aX,a28,b4,iM],fun ha=>⟨.str w,by simp only[fY,be,cW,hu,ae,aX,a1,b4],by rw[ha];rfl⟩,fun ha=>by rw[ha];rfl⟩
 show bw (al 1 fr σ) (fun x ai=>bw (fy ai x) fun l ay=>bw (eB [14] (jd (un (aA 28) (al 14))) (un (aA 1) (al 14)) l fr ay) fun vs aM=>bif dv vs.length then some (AV.ref aM.next,aM.alloc (.lst vs))else none)=_
 rw[e1,aX,NI hk,aX,c,aX,fQ (n:=(mI T).length) (au (tx ..) hk)];rfl
noncomputable def s8:BM:=RC (fi (bV .Eq) (al 11) (a7 (.int (0)))) (fi (bV .Eq) (cF qy (bi fP (al 1) (bi (bU .Sub) (al 11) (a7 (.int (1))))) aJ) (bq fX (aw (a7 (.str [115,105,103,110])) (aw (a7 (.str [46])) aJ))))
theorem UW{T:aa}(hT:lH T)(hk:T.length<=99999){fr:Fm}{σ:AS}(h1:gt fr 1= .lst T): ∀(m i:Nat) (p:Bool),i+m=T.length->(i=0->p=true)->(∀j t,i=j+1->T[j]? =some t->p=wy t)->
  eB [11] s8 (bi fP (al 1) (al 11)) ((iP i m).map fun i=>.int (am i)) fr σ=some (jV p (T.drop i),σ):=by
 intro m
 induction m with
 |zero=>
  intro i p hi _ _
  rw[g8 (show T.length<=i from eA hi.symm)];rfl
 |succ m ih=>
  intro i p hi hp0 hp
  have hlt:i<T.length:=by rw[<- hi];exact uX (Nat.succ_pos m)
  have hx:T[i]? =some T[i]:=eU hlt
  obtain⟨k,w,c,a,ht⟩:=hT _ (Gm hlt)
  have ih:=ih (i+1) (wy T[i]) (by rw[<- hi];omega) (fun h=>absurd h (ke _)) fun j t hj ht=>by
   have:j=i:=(jS hj).symm
   rw[this,hx]at ht
   exact congrArg wy (aH ht)
  have u1:bQ (.lst T)=false:=rfl
  have g1:gt (put fr 11 (.int (am i))) 1= .lst T:=(fJ rfl).trans h1
  have oi: ∀{i},i<T.length->dv i=true:=fun h=>fQ (au (iZ h) (au hk (by decide)))
  have el:bi fP (al 1) (al 11) (put fr 11 (.int (am i))) σ=some (T[i],σ):=by
   simp only[jD,be,g1,cW,u1,lX,ae,aX,IQ (oi hlt) hx]
  have te:s8 (put fr 11 (.int (am i))) σ=some (p,σ):=by
   unfold s8
   cases i with
   |zero=>
    have e0: ∀σ,bV .Eq (.int (am 0)) (.int 0) σ=some true:=fun _=>rfl
    rw[hp0 rfl]
    simp only[GZ,fx,be,cW,lX,ae,af,aX,dW,e0,b4]
   |succ j=>
    have e0: ∀σ,bV .Eq (.int (am (j+1))) (.int 0) σ=some false:=fun _=>rfl
    have e1: ∀σ,bU .Sub (.int (am (j+1))) (.int 1) σ=some (.int (am j),σ):=fun σ=>by
     show some (AV.int (am (j+1)-1),σ)=_
     rw[show am (j+1)-1=am j from Be (j:Int) 1]
    have hj:j<T.length:=Nat.lt_of_succ_lt hlt
    have hy:T[j]? =some T[j]:=eU hj
    obtain⟨k,w,c,a,ht⟩:=hT _ (Gm hj)
    rw[hp j _ rfl hy]
    rw[ht]at hy ⊢
    have mt: ∀σ,qy (tk k w c a) σ=some qB:=fun _=>rfl
    have pt: ∀σ,qB [tk k w c a] σ=some (.tup [.str k,.str w],σ):=fun _=>rfl
    have m2: ∀a b σ,fX [a,b] σ=some (.tup [a,b],σ):=fun _ _ _=>rfl
    have ce: ∀σ,bV .Eq (.tup [.str k,.str w]) (.tup [.str [115,105,103,110],.str [46]]) σ=some (wy (tk k w c a)):=fun σ=>by
     show some (dg k jk&&(dg w [46]&&true))=some (dg k jk&&dg w [46])
     rw[zE]
    have ut:bQ (tk k w c a)=false:=rfl
    simp only[GZ,fx,be,cW,g1,u1,lX,ae,aX,dW,e0,b4,eC,jD,e1,IQ (oi hj) hy,mt,ci,pt,ef,cq,m2,ce]
  rw[tB,bd]
  show bw (s8 (put fr 11 (.int (am i))) σ) (fun b ai=>bif b then bw (bi fP (al 1) (al 11) (put fr 11 (.int (am i))) ai) (fun v fR=>bw (eB [11] s8 (bi fP (al 1) (al 11)) ((iP (i+1) m).map fun i=>.int (am i)) fr fR) fun l cJ=>some (v::l,cJ))else eB [11] s8 (bi fP (al 1) (al 11)) ((iP (i+1) m).map fun i=>.int (am i)) fr ai)=_
  rw[te,aX,List.drop_eq_getElem_cons hlt]
  cases p with
  |true=>rw[af,el,aX,ih];rfl
  |false=>rw[ae,ih];rfl
theorem UV{T:aa}(hT:lH T)(hk:T.length<=99999){fr:Fm}{σ:AS}(h1:gt fr 1= .lst T):eJ [11] (bq lB (aw (bq eO (aw (al 1) aJ)) aJ)) s8 (bi fP (al 1) (al 11)) fr σ=some (.ref σ.next,σ.alloc (.lst (jV true T))):=by
 have u1:bQ (.lst T)=false:=rfl
 have hk':T.length<=4000000:=au hk (by decide)
 have er:lB [.int (am T.length)] σ=some (.rng 0 T.length,σ):=by
  show(bif bt T.length 100000 then some (AV.rng 0 T.length,σ)else none)=_
  rw[G2 (Nat.lt_succ_of_le hk)];rfl
 have e1:bq lB (aw (bq eO (aw (al 1) aJ)) aJ) fr σ=some (.rng 0 T.length,σ):=by
  simp only[ef,cq,ci,be,h1,u1,ae,aX,xM (fQ hk'),er]
 have e2:fy σ (.rng 0 T.length)=some ((iP 0 T.length).map (fun i=>.int (am i)),σ):=by
  show bw (some ((cu (T.length-0)).map (fun i=>AV.int (am (0+i))),σ)) (fun l ai=>bif dv l.length then some (l,ai)else none)=_
  rw[aX,aS,EL,N0,fQ hk',List.range_eq_range']
  refine congrArg (fun l=>some (l,σ)) (fS fun i _=> ?_)
  rw[hV]
 have c:=UW hT hk h1 (σ:=σ) T.length 0 true (hV _) (fun _=>rfl) fun j t hj _=>absurd hj.symm (ke _)
 have hl: ∀(T:List AV) (p:Bool),(jV p T).length <=T.length:=fun T=>by
  induction T with
  |nil=>exact fun _=>ax _
  |cons t T ih=>
   intro p
   cases p with
   |true=>exact ba (ih (wy t))
   |false=>exact mK (ih (wy t))
 show bw (bq lB (aw (bq eO (aw (al 1) aJ)) aJ) fr σ) (fun x ai=>bw (fy ai x) fun l ay=>bw (eB [11] s8 (bi fP (al 1) (al 11)) l fr ay) fun vs aM=>bif dv vs.length then some (AV.ref aM.next,aM.alloc (.lst vs))else none)=_
 rw[e1,aX,e2,aX,c,aX,lZ,fQ (au (hl T true) hk')];rfl
noncomputable def U0(t:AV):Bool:=(ob (aA 2 t ⟨0,[]⟩) fun k=>ob (aA 1 t ⟨0,[]⟩) fun w=>d8 k fun k=>some (bif dg k pT then(tO [w] ⟨0,[]⟩).isSome else true)).getD false
noncomputable def iT(T:aa):Bool:=(jV true T).all U0
theorem IL{x:List Nat×List Nat×Nat}{l:List (List Nat×List Nat×Nat)}{m:aa}{a:Bool}{c:Nat}(hx:(dg x.1 jk&&dg x.2.1 [46])=false)(h:xO l=true)(hg:U0 (tk x.1 x.2.1 c a)=true):iT (wz a c (x::(l++[KA]))++m)=iT m:=by
 unfold iT
 rw[ag7 hx h,ru,hg];rfl
theorem ahp{lvl:Nat}(h:ri lvl=true)(c:Nat)(a:Bool):U0 (tk pT (nT lvl) c a)=true:=lvE (P:=fun lvl=>U0 (tk pT (nT lvl) c a)=true) h rfl rfl rfl rfl
theorem aho{lvl:Nat}{x:Nat×Nat×Nat}{m:aa}(h:ri lvl=true):iT (kn lvl x++m)=iT m:=by
 rw[Hf,IL rfl (by
  show(!(dg uF jk&&dg (nm x.1) [46])&&xO (RL x.2.2++(RX x.2.1++RK x.2.1)))=true
  rw[Er,Er,ain,akE,aig];rfl) (ahp h _ _)]
theorem ahq{n:Nat}{m:aa}:iT (fz n++m)=iT m:=IL (x:=nu [56,56]) (l:=[wd ([73,83,45]++nm n),wd [86,65,76,85,69],(jk,[45],1),nu [53],wd [84,72,82,85],nu [49,46,50,53],(Ye,[113],4)]) rfl rfl rfl
theorem ahr{n l:Nat}{m:aa}:iT (gw n l++m)=iT m:=by
 unfold gw
 cases l with
 |zero=>exact IL (x:=nu [54,54]) (l:=[wd (nm n),wd [82,69,78,65,77,69,83],wd (nm 16)]) rfl rfl rfl
 |succ l=>exact IL (x:=nu [54,54]) (l:=[wd (nm n),wd [82,69,78,65,77,69,83],wd (nm 16),wd [84,72,82,85],wd (nm 22)]) rfl rfl rfl
theorem IM{a b:ac}{m:aa}:iT (b7 a b++m)=iT m:=IL (x:=wd a) (l:=[(uF,b,b.length)]) rfl rfl rfl
theorem qi{lvl:Nat}{l:Lf}{m:aa}(h:ri lvl=true):iT (dN lvl l++m)=iT m:=by
 obtain⟨i,c⟩:=l
 unfold dN rK
 rw[aB,aho h]
 cases c with
 |false=>rfl
 |true=>exact ahq
theorem ahs{t:Tn}{m:aa}:iT (u4 t++m)=iT m:=by
 cases t with
 |leaf l=>exact qi rfl
 |grp g a=>
  show iT ((dN 5 g++dN 10 a)++m)=iT m
  rw[aB,qi rfl,qi rfl]
 |grp2 g a b=>
  show iT ((dN 5 g++(dN 10 a++dN 10 b))++m)=iT m
  rw[aB,qi rfl,aB,qi rfl,qi rfl]
theorem Xm{r:Rt}(h:oa r){m:aa}:iT (il r++m)=iT m:=by
 unfold il
 have h1: ∀(ts:List Tn) (m:List AV),iT (ts.flatMap u4++m)=iT m:=fun ts m=>by
  induction ts with
  |nil=>rfl
  |cons t ts ih=>rw[aY,aB,ahs,ih]
 have h2:iT (Vs (j0 1 r.it) r.ren++m)=iT m:=by
  cases r.ren with
  |zero=>rfl
  |succ l=>exact ahr
 rw[aB,qi h.lv.1,aB,h1,h2]
theorem acp{a b:ac}{o:Option Rt}(h:Kb o){m:aa}:iT (fF (b7 a b) o++m)=iT m/\iu (fF (b7 a b) o++m)=(o.map Ap).getD []++iu m:=by
 cases o with
 |none=>exact⟨rfl,rfl⟩
 |some r=>
  have e:fF (b7 a b) (some r)++m=b7 a b++(il r++m):=aB ..
  rw[e]
  exact⟨by rw[IM,Xm (h r rfl)],by rw[IY,Xz (h r rfl)];rfl⟩
noncomputable def Cq(d:DS):List Int:=((d.f.map (·.2.2)).map Ap).getD []++((d.w.map Ap).getD []++(d.l.map Ap).getD [])
theorem anI{d:DS}(h:jg d):iT (gG d)=true/\iu (gG d)=Cq d:=by
 obtain⟨l1,l2⟩:=acp (a:=pJ) (b:=cZ) h.l (m:=[])
 obtain⟨w1,w2⟩:=acp (a:=mx) (b:=cZ) h.w (m:=fF (b7 pJ cZ) d.l++[])
 have hb:iT (dS d)=true/\iu (dS d)=Cq d:=by
  have e3:dS d=ja d++(fF (b7 mx cZ) d.w++(fF (b7 pJ cZ) d.l++[])):=by
   unfold dS;rw[aR,aB]
  have hf:iT (ja d++(fF (b7 mx cZ) d.w++(fF (b7 pJ cZ) d.l++[])))=iT (fF (b7 mx cZ) d.w++(fF (b7 pJ cZ) d.l++[]))/\iu (ja d++(fF (b7 mx cZ) d.w++(fF (b7 pJ cZ) d.l++[])))=((d.f.map (·.2.2)).map Ap).getD []++iu (fF (b7 mx cZ) d.w++(fF (b7 pJ cZ) d.l++[])):=by
   generalize fF (b7 mx cZ) d.w++(fF (b7 pJ cZ) d.l++[])=m
   obtain⟨f,w,l⟩:=d
   cases f with
   |none=>exact⟨rfl,rfl⟩
   |some x=>
    have e:ja ⟨some x,w,l⟩++m=b7 gQ cZ++(b7 (kj x.2.1) (d9 x.1)++(il x.2.2++m)):=by
     show(b7 gQ cZ++(b7 (kj x.2.1) (d9 x.1)++il x.2.2))++m=_
     rw[aB,aB]
    have hr:=(h.f x rfl).1
    rw[e]
    exact⟨by rw[IM,IM,Xm hr],by rw[IY,IY,Xz hr];rfl⟩
  rw[e3,hf.1,hf.2,w1,w2,l1,l2]
  refine⟨rfl,?_⟩
  unfold Cq
  rw[show iu []=[] from rfl,aR]
 unfold gG
 cases z:(dS d).isEmpty with
 |true=>
  have hb0:=ek.mp z
  rw[hb0]at hb
  exact hb
 |false=>exact⟨IM.trans hb.1,IY.trans hb.2⟩
theorem ag8{T:aa}: ∀{p:Bool},∀t∈jV p T,t∈T:=by
 induction T with
 |nil=>exact fun t h=>h
 |cons x T ih=>
  intro p t h
  cases p with
  |true=>exact(aG.mp (show t∈x::jV (wy x) T from h)).elim (fun h=>h▸bb ..) fun h=>aQ _ (ih t h)
  |false=>exact aQ _ (ih t (show t∈jV (wy x) T from h))
theorem adJ{w:ac}(h:(tO [.str w] ⟨0,[]⟩).isSome=true): ∃n,lN 0 w=some n/\ ∀σ,tO [.str w] σ=some (.int (am n),σ):=by
 cases w with
 |nil=>exact ff h
 |cons c r=>
  have h:(bif bt r.length 18 then ob (lN 0 (c::r)) (fun n=>some (AV.int (am n),(⟨0,[]⟩:AS)))else none).isSome=true:=h
  cases z:bt r.length 18 with
  |false=>rw[z]at h;exact ff h
  |true=>
   rw[z,af]at h
   cases e:lN 0 (c::r)with
   |none=>rw[e]at h;exact ff h
   |some n=>
    refine⟨n,rfl,fun σ=> ?_⟩
    show(bif bt r.length 18 then ob (lN 0 (c::r)) (fun n=>some (AV.int (am n),σ))else none)=_
    rw[z,e];rfl
theorem U8{T:aa}(hT:lH T)(hg:iT T=true){fr:Fm}{σ:AS}{j:Nat}(h6:gt fr 6= .ref j)(hj:σ.get j=some (.lst (jV true T)))(hk:(jV true T).length <=4000000):
  eJ [10] (al 6) (fi (bV .Eq) (un (aA 2) (al 10)) (a7 (.str [110,117,109,98,101,114]))) (bq tO (aw (un (aA 1) (al 10)) aJ)) fr σ=some (.ref (σ.drop j).next,(σ.drop j).alloc (.lst ((iu T).map .int))):=by
 have e1:al 6 fr σ=some (.ref j,σ):=by rw[be,h6];rfl
 have e2:fy σ (.ref j)=some (jV true T,σ.drop j):=by
  show bw (ob (σ.get j) _) _=_
  rw[hj]
  show(bif dv (jV true T).length then some (jV true T,σ.drop j)else none)=_
  rw[fQ hk];rfl
 have c:eB [10] (fi (bV .Eq) (un (aA 2) (al 10)) (a7 (.str [110,117,109,98,101,114]))) (bq tO (aw (un (aA 1) (al 10)) aJ)) (jV true T) fr (σ.drop j)=some ((jV true T).filterMap (fun t=>(L2 t).map AV.int),σ.drop j):=O8 fun t ht σ=>by
  obtain⟨k,w,c,a,rfl⟩:=hT t (ag8 t ht)
  have a2: ∀σ,aA 2 (tk k w c a) σ=some (.str k):=fun _=>rfl
  have a1: ∀σ,aA 1 (tk k w c a) σ=some (.str w):=fun _=>rfl
  have hu:bQ (tk k w c a)=false:=rfl
  have gd:(bif dg k pT then(tO [.str w] ⟨0,[]⟩).isSome else true)=true:=bT.mp hg _ ht
  have lg:L2 (tk k w c a)=bif dg k pT then ob (lN 0 w) (fun n=>some (am n))else none:=rfl
  have ce: ∀σ,bV .Eq (.str k) (.str [110,117,109,98,101,114]) σ=some (dg k pT):=fun _=>rfl
  refine⟨dg k pT,by simp only[fx,fY,be,cW,hu,ae,aX,a2,b4,dW,ce],fun hb=> ?_,fun hb=>by rw[lg,hb];rfl⟩
  rw[hb]at gd
  obtain⟨n,p1,p2⟩:=adJ gd
  exact⟨.int (am n),by simp only[ef,cq,ci,fY,be,cW,hu,ae,aX,a1,b4,p2],by rw[lg,hb,af,p1];rfl⟩
 have hm:(jV true T).filterMap (fun t=>(L2 t).map AV.int)=(iu T).map AV.int:=List.map_filterMap.symm
 show bw (al 6 fr σ) (fun x ai=>bw (fy ai x) fun l ay=>bw (eB [10] (fi (bV .Eq) (un (aA 2) (al 10)) (a7 (.str [110,117,109,98,101,114]))) (bq tO (aw (un (aA 1) (al 10)) aJ)) l fr ay) fun vs aM=>bif dv vs.length then some (AV.ref aM.next,aM.alloc (.lst vs))else none)=_
 rw[e1,aX,e2,aX,c,aX,fQ (au (tx ..) hk),hm];rfl
noncomputable def Lg(self:aW):SM:=aV (cO [1] (bi (bU .Add) (al 1) (bq self (aw (al 2) aJ)))) bk
theorem aa1{self:aW}{ks:List (AV×List AV)}: ∀{fr:Fm} {σ:AS} {i:Nat} {L:aa},(∀k∈ks,bQ k.1=false/\ ∀σ,self [k.1] σ=some (.ref σ.next,σ.alloc (.lst k.2)))->gt fr 1= .ref i->σ.get i=some (.lst L)->i<σ.next->L.length+(ks.flatMap (·.2)).length <=4000000->
  ∃fr' ai j,pD [2] (Lg self) (ks.map (·.1)) fr σ=some (.next fr' ai)/\gt fr' 1= .ref j/\ai.get j=some (.lst (L++ks.flatMap (·.2))):=by
 induction ks with
 |nil=>exact fun{fr σ i L} _ hf hi _ _=>⟨fr,σ,i,rfl,hf,by rw[bD,aR];exact hi⟩
 |cons k ks ih=>
  intro fr σ i L h hf hi hs hk
  obtain⟨hu,hself⟩:=h k (bb ..)
  rw[aY]at hk ⊢
  have hk1:L.length+k.2.length<=4000000:=au (dq (by rw[ao];exact cU _ _) _) hk
  have h1:gt (put fr 2 k.1) 1= .ref i:=(fJ rfl).trans hf
  have ea:=Ix (σ:=σ.alloc (.lst k.2)) (i:=i) (j:=σ.next) (dI hi hs) b8 hk1
  have e1:Lg self (put fr 2 k.1) σ=some (.next (put (put fr 2 k.1) 1 (.ref (σ.alloc (.lst k.2)).next)) ((σ.alloc (.lst k.2)).alloc (.lst (L++k.2)))):=by
   unfold Lg
   simp only[df,fD,jD,be,h1,cW,fe,hu,ae,aX,ef,cq,ci,hself,ea,b4,dz,fE]
  obtain⟨fr',ai,j,e2,h2,h3⟩:=ih (fr:=put (put fr 2 k.1) 1 (.ref (σ.alloc (.lst k.2)).next)) (σ:=(σ.alloc (.lst k.2)).alloc (.lst (L++k.2))) (i:=(σ.alloc (.lst k.2)).next) (L:=L++k.2) (fun k hk=>h k (aQ _ hk)) cW b8 (bO _) (by rw[ao,kB,<- ao];exact hk)
  refine⟨fr',ai,j,?_,h2,by rw[h3,aB]⟩
  rw[bd,Ez e1,e2]
theorem aol{σ:AS}{j m:Nat}{l:aa}(hj:σ.get j=some (.lst l))(hm:m<100)(hl:l.length<=1000):bU .Mult (.ref j) (.int (am m)) σ=some (.ref σ.next,σ.alloc (.lst (bH m l).flatten)):=by
 show(bif bt m 100 then ob (σ.get j) _ else none)=_
 rw[G2 hm,hj]
 show(bif cT l.length 1000 then _ else none)=_
 rw[f8 hl];rfl
theorem TM{n:Nat}{it lv:AV}{cs:aa}{ks:List (AV×List AV)}(hit:noRef it=true)(hu:bQ it=false)(ha: ∀σ,aA 20 it σ=some lv)(hlv:noRef lv=true)(hc: ∀σ,aA 23 it σ=some (.lst cs))(hcl:cs.length<100)(hkd: ∀σ,aA 22 it σ=some (.lst (ks.map (·.1))))
  (hk: ∀k∈ks,bQ k.1=false/\ ∀σ,bv n [k.1] σ=some (.ref σ.next,σ.alloc (.lst k.2)))(hn:aN (([lv]++(bH cs.length [AV.int 88]).flatten)++ks.flatMap (·.2))=true)(hl:(([lv]++(bH cs.length [AV.int 88]).flatten)++ks.flatMap (·.2)).length <=4000000)(hkl:ks.length<=4000000)(σ:AS):
  bv (n+1) [it] σ=some (.ref σ.next,σ.alloc (.lst (([lv]++(bH cs.length [AV.int 88]).flatten)++ks.flatMap (·.2)))):=by
 have mk1: ∀a σ,cX [a] σ=some (.ref σ.next,σ.alloc (.lst [a])):=fun _ _=>rfl
 have key: ∀σ:AS,∃x ai,zL (bv n) [it] σ=some (.ref x,ai)/\ai.get x=some (.lst (([lv]++(bH cs.length [AV.int 88]).flatten)++ks.flatMap (·.2))):=fun σ=>by
  have k1:[lv].length +((bH cs.length [AV.int 88]).flatten).length <=4000000:=by
   rw[<- ao]
   exact au (by rw[ao (as:=[lv]++(bH cs.length [AV.int 88]).flatten)];exact cU _ _) hl
  have em:=aol (σ:=(σ.alloc (.lst [lv])).alloc (.lst [.int 88])) (j:=(σ.alloc (.lst [lv])).next) (l:=[.int 88]) b8 hcl (by decide)
  have g1:(((σ.alloc (.lst [lv])).alloc (.lst [.int 88])).alloc (.lst (bH cs.length [AV.int 88]).flatten)).get σ.next=some (.lst [lv]):=dI (dI b8 (bO _)) (cK (bO _))
  have ea:=Ix (σ:=((σ.alloc (.lst [lv])).alloc (.lst [.int 88])).alloc (.lst (bH cs.length [AV.int 88]).flatten)) (i:=σ.next) (j:=((σ.alloc (.lst [lv])).alloc (.lst [.int 88])).next) g1 b8 k1
  generalize hS:(((σ.alloc (.lst [lv])).alloc (.lst [.int 88])).alloc (.lst (bH cs.length [AV.int 88]).flatten)).alloc (.lst ([lv]++(bH cs.length [AV.int 88]).flatten))=gV at ea
  have g2:gV.get (((σ.alloc (.lst [lv])).alloc (.lst [.int 88])).alloc (.lst (bH cs.length [AV.int 88]).flatten)).next=some (.lst ([lv]++(bH cs.length [AV.int 88]).flatten)):=by rw[<- hS];exact b8
  have l2:(((σ.alloc (.lst [lv])).alloc (.lst [.int 88])).alloc (.lst (bH cs.length [AV.int 88]).flatten)).next <gV.next:=by rw[<- hS];exact bO _
  generalize (((σ.alloc (.lst [lv])).alloc (.lst [.int 88])).alloc (.lst (bH cs.length [AV.int 88]).flatten)).next=i at ea g2 l2
  have ln: ∀σ:AS,eO [.lst cs] σ=some (.int (.ofNat cs.length),σ):=fun σ=>xM (fQ (au (iZ hcl) (by decide)))
  have e1:cO [1] (bi (bU .Add) (bq cX (aw (un (aA 20) (al 0)) aJ)) (bi (bU .Mult) (bq cX (aw (a7 (.int (88))) aJ)) (bq eO (aw (un (aA 23) (al 0)) aJ)))) [it] σ=some (.next [it,.ref i] gV):=by
   simp only[fD,jD,ef,cq,ci,fY,be,kE,hu,ae,aX,ha,b4,mk1,dW,hc,ln,em,ea,su,sv,putN]
  obtain⟨fr',ai,j,e2,h2,h3⟩:=aa1 (self:=bv n) (fr:=[it,.ref i]) (σ:=gV) (i:=i) hk rfl g2 l2 (by rw[<- ao];exact hl)
  have e3:gv [2] (un (aA 22) (al 0)) (Lg (bv n)) [it,.ref i] gV=some (.next fr' ai):=by
   refine(zb (l:=ks.map (·.1)) ?_ (by rw[aS];exact hkl)).trans e2
   simp only[fY,be,kE,hu,ae,aX,hkd,b4]
  refine⟨j,ai,?_,h3⟩
  show ob (ob (cO [1] _ [it] σ) (gP (aV (gv [2] (un (aA 22) (al 0)) (Lg (bv n))) (aV (eD (al 1)) bk)))) ik=_
  rw[e1]
  show ob (ob (gv [2] (un (aA 22) (al 0)) (Lg (bv n)) [it,.ref i] gV) (gP (aV (eD (al 1)) bk))) ik=_
  rw[e3]
  show ob (aV (eD (al 1)) bk fr' ai) ik=_
  simp only[df,d7,be,h2,fe,ae,aX,b4,dB,gu]
 obtain⟨x,ai,e,g⟩:=key ⟨0,[]⟩
 exact Z4 (by rw[gU,hit];rfl) e g hn
theorem CN(l:List Int):aN (l.map AV.int)=true:=by
 induction l with
 |nil=>rfl
 |cons a l ih=>exact ih
noncomputable def CE(lvl:Nat)(l:Lf):List AV:=(am lvl::nS l).map AV.int
theorem zC{n lvl:Nat}{l:Lf}{ks:List (AV×List AV)}{p:AV}(hks:aN (ks.map (·.1))=true)(hp:noRef p=true)(hk: ∀k∈ks,bQ k.1=false/\ ∀σ,bv n [k.1] σ=some (.ref σ.next,σ.alloc (.lst k.2)))(hn:aN (ks.flatMap (·.2))=true)(hl:(CE lvl l++ks.flatMap (·.2)).length <=4000000)(hkl:ks.length<=4000000)(σ:AS):
  bv (n+1) [pd lvl l (ks.map (·.1)) p] σ=some (.ref σ.next,σ.alloc (.lst (CE lvl l++ks.flatMap (·.2)))):=by
 have hit:noRef (pd lvl l (ks.map (·.1)) p)=true:=by
  show(true&&aN (j6 _ _ _ _ _))=true
  rw[Hn,Hm,sq,hks,hp];rfl
 have key: ∀cs:List AV,conds lvl l= .lst cs->[AV.int (am lvl)]++(bH cs.length [AV.int 88]).flatten=CE lvl l->cs.length<100->bv (n+1) [pd lvl l (ks.map (·.1)) p] σ=some (.ref σ.next,σ.alloc (.lst (CE lvl l++ks.flatMap (·.2)))):=fun cs h1 h2 h3=>by
  have h:=TM (n:=n) (it:=pd lvl l (ks.map (·.1)) p) (lv:=.int (am lvl)) (cs:=cs) (ks:=ks) hit rfl (fun _=>rfl) rfl (fun σ=> ?_) h3 (fun _=>rfl) hk (by rw[h2,bW,hn,show aN (CE lvl l)=true from CN _];rfl) (by rw[h2];exact hl) hkl σ
  ·rw[h2]at h;exact h
  ·rw[<- h1]
   obtain⟨i,c⟩:=l
   cases c<;>rfl
 obtain⟨i,c⟩:=l
 cases c with
 |false=>exact key [] rfl rfl (by decide)
 |true=>exact key [qk (j0 lvl ⟨i,true⟩)] rfl rfl (show 1<100 by decide)
theorem uf(lvl:Nat)(l:Lf):(CE lvl l).length <=2:=by
 unfold CE nS
 cases l.c<;>exact av rfl
theorem JI{n lvl:Nat}{l:Lf}(σ:AS):bv (n+1) [ol lvl l .opq] σ=some (.ref σ.next,σ.alloc (.lst (CE lvl l))):=by
 have h:=zC (n:=n) (lvl:=lvl) (l:=l) (ks:=[]) (p:=.opq) rfl rfl (fun _ h=>absurd h bc) rfl (by rw[bD,aR];exact au (uf lvl l) (by decide)) (aU _) σ
 rw[bD,aR]at h
 exact h
theorem ae6{n i l:Nat}(σ:AS):bv (n+1) [.frz cg fW (j8 i l .opq)] σ=some (.ref σ.next,σ.alloc (.lst [.int 66])):=by
 have hrn:noRef (xX l)=true:=NO (P:=fun a=>noRef a=true) rfl rfl l
 have hit:noRef (.frz cg fW (j8 i l .opq))=true:=by
  show aN (j8 i l .opq)=true
  simp only[j8,gU,XQ,XN,XK,XJ,aca,sq,hrn,XO,rt]
 exact TM (n:=n) (it:=.frz cg fW (j8 i l .opq)) (lv:=.int 66) (cs:=[]) (ks:=[]) hit rfl (fun _=>rfl) rfl (fun _=>rfl) (by decide) (fun _=>rfl) (fun _ h=>absurd h bc) rfl (av rfl) (aU _) σ
theorem akL{n:Nat}(t:Tn)(σ:AS):bv (n+2) [sE t] σ=some (.ref σ.next,σ.alloc (.lst ((yc t).map AV.int))):=by
 cases t with
 |leaf l=>exact JI (n:=n+1) σ
 |grp g a=>
  have h:=zC (n:=n+1) (lvl:=5) (l:=g) (ks:=[(ol 10 a .opq,CE 10 a)]) (p:=.opq) (by rw[bd,jQ,gU,ql];rfl) rfl (fun k hk=>(aO.mp hk)▸⟨rfl,fun σ=>JI σ⟩)
   (by rw[aY,bD,aR];exact CN _) (by rw[aY,bD,aR,ao];exact au (aK (uf _ _) (uf _ _)) (by decide)) (av rfl) σ
  rw[aY,bD,aR,show CE 5 g++CE 10 a=(yc (.grp g a)).map AV.int from(bm ..).symm]at h
  exact h
 |grp2 g a b=>
  have h:=zC (n:=n+1) (lvl:=5) (l:=g) (ks:=[(ol 10 a .opq,CE 10 a),(ol 10 b .opq,CE 10 b)]) (p:=.opq) (by rw[bd,bd,jQ,gU,gU,ql,ql];rfl) rfl
   (fun k hk=>(aG.mp hk).elim (fun h=>h▸⟨rfl,fun σ=>JI σ⟩) fun hk=>(aO.mp hk)▸⟨rfl,fun σ=>JI σ⟩)
   (by rw[aY,aY,bD,aR,bW];exact(congr (congrArg and (CN _)) (CN _))) (by rw[aY,aY,bD,aR,ao,ao];exact au (aK (uf _ _) (aK (uf _ _) (uf _ _))) (by decide)) (av rfl) σ
  rw[aY,aY,bD,aR]at h
  have e:CE 5 g++(CE 10 a++CE 10 b)=(yc (.grp2 g a b)).map AV.int:=by
   show(am 5::nS g).map AV.int++((am 10::nS a).map AV.int++(am 10::nS b).map AV.int)=_
   rw[<- bm,<- bm];rfl
  rw[e]at h
  exact h
theorem aku(t:Tn):(yc t).length <=6:=by
 have h: ∀l:Lf,(nS l).length <=1:=fun l=>by unfold nS;cases l.c<;>exact av rfl
 cases t with
 |leaf l=>exact au (ba (h l)) (by decide)
 |grp g a=>
  show(5::(nS g++10::nS a)).length <=6
  rw[bM,ao,bM]
  exact au (ba (aK (h g) (ba (h a)))) (by decide)
 |grp2 g a b=>
  show(5::(nS g++10::(nS a++10::nS b))).length <=6
  rw[bM,ao,bM,ao,bM]
  exact ba (aK (h g) (ba (aK (h a) (ba (h b)))))
theorem KS{ts:List Tn}(h:ts.length<=8):(ts.flatMap yc).length <=48:=by
 have: ∀ts:List Tn,(ts.flatMap yc).length <=6*ts.length:=fun ts=>by
  induction ts with
  |nil=>exact ax _
  |cons t ts ih=>
   rw[aY,ao,bM,NZ,lx]
   exact aK ih (aku t)
 exact au (this ts) (pN 6 h)
theorem akK{r:Rt}(h:r.ts.length<=8)(σ:AS):bv 6 [d4 r] σ=some (.ref σ.next,σ.alloc (.lst ((Ap r).map AV.int))):=by
 have hr: ∃ks:List (AV×List AV),ks.map (·.1)=qK r/\ks.flatMap (·.2)=(Ql r.ren).map AV.int/\ks.length<=1/\ ∀k∈ks,bQ k.1=false/\ ∀σ,bv 5 [k.1] σ=some (.ref σ.next,σ.alloc (.lst k.2)):=by
  obtain⟨lv,it,ts,n⟩:=r
  cases n with
  |zero=>exact⟨[],rfl,rfl,aU _,fun _ h=>absurd h bc⟩
  |succ l=>exact⟨[(.frz cg fW (j8 (17+j0 1 it) l .opq),[.int 66])],rfl,rfl,ax _,fun k hk=>(aO.mp hk)▸⟨rfl,fun σ=>ae6 σ⟩⟩
 obtain⟨ks,r1,r2,r3,r4⟩:=hr
 have hf:(r.ts.map (fun t=>(sE t,(yc t).map AV.int))++ks).map (·.1)=Dx r.ts++qK r:=by
  rw[bm,r1,gF]
  refine congrArg (· ++qK r) ?_
  induction r.ts with
  |nil=>rfl
  |cons t ts ih=>exact congrArg (sE t:: ·) ih
 have hs:(r.ts.map (fun t=>(sE t,(yc t).map AV.int))++ks).flatMap (·.2)=(r.ts.flatMap yc++Ql r.ren).map AV.int:=by
  rw[kQ,r2,bm]
  refine congrArg (· ++(Ql r.ren).map AV.int) ?_
  induction r.ts with
  |nil=>rfl
  |cons t ts ih=>
   show(yc t).map AV.int++(ts.map (fun t=>(sE t,(yc t).map AV.int))).flatMap (·.2)=(yc t++ts.flatMap yc).map AV.int
   rw[ih,bm]
 have hrn:(Ql r.ren).length <=1:=by cases r.ren<;>exact av rfl
 have q:=zC (n:=5) (lvl:=r.lvl) (l:=r.it) (ks:=r.ts.map (fun t=>(sE t,(yc t).map AV.int))++ks) (p:=.none) (by rw[hf,bW,NM,Vh];rfl) rfl
  (fun k hk=>(cQ.mp hk).elim (fun hk=>by
   obtain⟨t,_,rfl⟩:=dy.mp hk
   exact⟨by cases t<;>rfl,fun σ=>akL (n:=3) t σ⟩) (r4 k))
  (by rw[hs];exact CN _)
  (by rw[hs,ao,aS,ao];exact au (aK (uf _ _) (aK (KS h) hrn)) (by decide))
  (by rw[ao,aS];exact au (aK h r3) (by decide)) σ
 have e:CE r.lvl r.it++(r.ts.flatMap yc++Ql r.ren).map AV.int=(Ap r).map AV.int:=(bm ..).symm
 rw[hf,hs,e]at q
 exact q
def kD(σ ai:AS):Prop:=σ.next<=ai.next/\ ∀j c,j<σ.next->σ.get j=some c->ai.get j=some c
theorem kD.rfl'{σ:AS}:kD σ σ:=⟨ax _,fun _ _ _ h=>h⟩
theorem kD.trans{a b c:AS}(h:kD a b)(h':kD b c):kD a c:=⟨au h.1 h'.1,fun j x hj hx=>h'.2 j x (eW hj h.1) (h.2 j x hj hx)⟩
theorem kD.alloc{σ:AS}{d:bF}:kD σ (σ.alloc d):=⟨cM _,fun _ _ hj hx=>dI hx hj⟩
theorem kD.adrop{σ:AS}{d:bF}:kD σ ((σ.alloc d).drop σ.next):=⟨cM _,fun _ _ hj hx=>by rw[AS.get_drop,if_neg (cj hj)];exact dI hx hj⟩
theorem ae5{rs:List (AV×List AV)}{fr:Fm}: ∀{σ:AS},(∀p∈rs,bQ p.1=false/\(∀a∈p.2,bQ a=false)/\p.2.length<=4000000/\ ∀σ,bv 6 [p.1] σ=some (.ref σ.next,σ.alloc (.lst p.2)))->
  ∃ai,ju 8 (bq (bv 6) (aw (al 8) aJ)) 9 (al 9) (rs.map (·.1)) fr σ=some (rs.flatMap (·.2),ai)/\kD σ ai:=by
 induction rs with
 |nil=>exact fun{σ} _=>⟨σ,rfl,kD.rfl'⟩
 |cons p rs ih=>
  intro σ h
  obtain⟨hu,hi,hk,hw⟩:=h p (bb ..)
  have e1:bq (bv 6) (aw (al 8) aJ) (put fr 8 p.1) σ=some (.ref σ.next,σ.alloc (.lst p.2)):=by
   simp only[ef,cq,ci,be,cW,hu,ae,aX,hw]
  have e2:fy (σ.alloc (.lst p.2)) (.ref σ.next)=some (p.2,(σ.alloc (.lst p.2)).drop σ.next):=by
   show bw (ob ((σ.alloc (.lst p.2)).get σ.next) _) _=_
   rw[b8]
   show(bif dv p.2.length then some (p.2,(σ.alloc (.lst p.2)).drop σ.next)else none)=_
   rw[fQ hk];rfl
  obtain⟨ai,e4,hK⟩:=ih (σ:=(σ.alloc (.lst p.2)).drop σ.next) fun q hq=>h q (aQ _ hq)
  refine⟨ai,?_,kD.adrop.trans hK⟩
  show bw (bq (bv 6) (aw (al 8) aJ) (put fr 8 p.1) σ) (fun s ai=>bw (fy ai s) fun l ay=>bw (eB [9] (fun _ σ=>some (true,σ)) (al 9) l (put fr 8 p.1) ay) fun bs fR=>bw (ju 8 (bq (bv 6) (aw (al 8) aJ)) 9 (al 9) (rs.map (·.1)) fr fR) fun cs cJ=>some (bs++cs,cJ))=_
  rw[e1,aX,e2,aX,afT hi,aX,e4];rfl
noncomputable def Nc(o:Option Rt):List (AV×List AV):=bj (motive:=fun _=>List (AV×List AV)) [] (fun r=>[(d4 r,(Ap r).map AV.int)]) o
theorem Vu{o:Option Rt}(h: ∀r,o=some r->r.ts.length<=8):(Nc o).map (·.1)=jj o/\(Nc o).flatMap (·.2)=((o.map Ap).getD []).map AV.int/\ ∀p∈Nc o,bQ p.1=false/\(∀a∈p.2,bQ a=false)/\p.2.length<=4000000/\ ∀σ,bv 6 [p.1] σ=some (.ref σ.next,σ.alloc (.lst p.2)):=by
 cases o with
 |none=>exact⟨rfl,rfl,fun _ h=>absurd h bc⟩
 |some r=>
  refine⟨rfl,aR _,fun p hp=> ?_⟩
  rw[aO.mp hp]
  refine⟨rfl,fun a ha=> ?_,?_,akK (h r rfl)⟩
  ·obtain⟨i,_,rfl⟩:=dy.mp ha
   rfl
  ·have hc:(nS r.it).length <=1:=by unfold nS;cases r.it.c<;>exact av rfl
   have hrn:(Ql r.ren).length <=1:=by cases r.ren<;>exact av rfl
   rw[aS]
   show(am r.lvl::(nS r.it++(r.ts.flatMap yc++Ql r.ren))).length <=4000000
   rw[bM,ao,ao]
   exact au (ba (aK hc (aK (KS (h r rfl)) hrn))) (by decide)
theorem jg.fo{d:DS}(h:jg d): ∀r,d.f.map (·.2.2)=some r->r.ts.length<=8:=fun r e=>by
 cases q:d.f with
 |none=>rw[q]at e;exact nn e
 |some x=>
  rw[q]at e
  rw[<- aH e]
  exact(h.f x q).1.ts8
theorem VQ{d:DS}(h:jg d){fr:Fm}{σ:AS}(h3:gt fr 3= .lst (dZ d)): ∃ai:AS,qG 8 (al 3) 9 (bq (bv 6) (aw (al 8) aJ)) (al 9) fr σ=some (.ref ai.next,ai.alloc (.lst ((Cq d).map AV.int)))/\kD σ ai:=by
 obtain⟨a1,a2,a3⟩:=Vu h.fo
 obtain⟨b1,b2,b3⟩:=Vu h.w.ts
 obtain⟨c1,c2,c3⟩:=Vu h.l.ts
 have m1:(((Nc (d.f.map (·.2.2))++Nc d.w)++Nc d.l)).map (·.1)=dZ d:=by
  rw[bm,bm,a1,b1,c1];rfl
 have m2:(((Nc (d.f.map (·.2.2))++Nc d.w)++Nc d.l)).flatMap (·.2)=(Cq d).map AV.int:=by
  rw[kQ,kQ,a2,b2,c2,<- bm,<- bm,aB];rfl
 have all: ∀p∈(Nc (d.f.map (·.2.2))++Nc d.w)++Nc d.l,bQ p.1=false/\(∀a∈p.2,bQ a=false)/\p.2.length<=4000000/\ ∀σ,bv 6 [p.1] σ=some (.ref σ.next,σ.alloc (.lst p.2)):=fun p hp=>(cQ.mp hp).elim (fun hp=>(cQ.mp hp).elim (a3 p) (b3 p)) (c3 p)
 obtain⟨ai,e,hK⟩:=ae5 (fr:=put fr 9 .unb) (σ:=σ) all
 rw[m1,m2]at e
 refine⟨ai,?_,hK⟩
 have e1:al 3 fr σ=some (.lst (dZ d),σ):=by rw[be,h3];rfl
 have hr:(dZ d).length <=4000000:=by
  unfold dZ fL
  rw[ao,ao]
  exact au (aK (aK (rk _) (rk _)) (rk _)) (by decide)
 have hl:(Cq d).length <=4000000:=by
  have ho: ∀o:Option Rt,(∀r,o=some r->r.ts.length<=8)->((o.map Ap).getD []).length <=1000:=fun o h=>by
   cases o with
   |none=>exact aU _
   |some r=>
    have hc:(nS r.it).length <=1:=by unfold nS;cases r.it.c<;>exact av rfl
    have hrn:(Ql r.ren).length <=1:=by cases r.ren<;>exact av rfl
    show(am r.lvl::(nS r.it++(r.ts.flatMap yc++Ql r.ren))).length <=1000
    rw[bM,ao,ao]
    exact au (ba (aK hc (aK (KS (h r rfl)) hrn))) (by decide)
  unfold Cq
  rw[ao,ao]
  exact au (aK (ho _ h.fo) (aK (ho _ h.w.ts) (ho _ h.l.ts))) (by decide)
 show bw (al 3 fr σ) (fun a ai=>bw (fy ai a) fun l ay=>bw (ju 8 (bq (bv 6) (aw (al 8) aJ)) 9 (al 9) l (put fr 9 .unb) ay) fun vs aM=>bif dv vs.length then some (AV.ref aM.next,aM.alloc (.lst vs))else none)=_
 rw[e1,aX,NI hr,aX,e,aX,fQ (by rw[aS];exact hl)];rfl
noncomputable def Mb(h:ac)(o:Option Rt):List (List Nat):=bj (motive:=fun _=>List (List Nat)) [] (fun r=>[h,nT r.lvl]) o
noncomputable def UU(d:DS):List (List Nat):=bj (motive:=fun _=>List (List Nat)) [] (fun x=>[gQ,kj x.2.1,nT x.2.2.lvl]) d.f
noncomputable def wL(d:DS):List (List Nat):=bif (dS d).isEmpty then[]else jC::((UU d++Mb mx d.w)++Mb pJ d.l)
theorem TK{a b:ac}{o:Option Rt}(h:Kb o):mI (fF (b7 a b) o)=(Mb a o).map .str:=by
 cases o with
 |none=>rfl
 |some r=>
  show mI (b7 a b++il r)=_
  rw[iW,JG,YF (h r rfl)];rfl
theorem akz{d:DS}(h:jg d):mI (gG d)=(wL d).map .str:=by
 have hf:mI (ja d)=(UU d).map .str:=by
  obtain⟨f,w,l⟩:=d
  cases f with
  |none=>rfl
  |some x=>
   show mI (b7 gQ cZ++(b7 (kj x.2.1) (d9 x.1)++il x.2.2))=_
   rw[iW,iW,JG,JG,YF (h.f x rfl).1];rfl
 have hb:mI (dS d)=((UU d++Mb mx d.w)++Mb pJ d.l).map .str:=by
  unfold dS
  rw[iW,iW,hf,TK h.w,TK h.l,<- bm,<- bm]
 unfold gG wL
 cases (dS d).isEmpty with
 |true=>rfl
 |false=>
  show mI (b7 jC uE++dS d)=_
  rw[iW,JG,hb];rfl
noncomputable def hW(h:ac)(o:Option Rt):List (List Nat):=bj (motive:=fun _=>List (List Nat)) [] (fun _=>[h]) o
noncomputable def lW(o:Option Rt):List (List Nat):=bj (motive:=fun _=>List (List Nat)) [] (fun r=>[nT r.lvl]) o
noncomputable def fdW(d:DS):List (List Nat):=bj (motive:=fun _=>List (List Nat)) [] (fun x=>[kj x.2.1]) d.f
noncomputable def Ae(d:DS):List (List Nat):=((([jC]++hW gQ (d.f.map (·.2.2)))++hW mx d.w)++hW pJ d.l)++fdW d++((lW (d.f.map (·.2.2))++lW d.w)++lW d.l)
theorem akj{d:DS}(h:jg d)(hb:(dS d).isEmpty=false):jM (wL d)=jM (Ae d):=by
 have lv: ∀r,oa r->nT r.lvl=[48,49]\/nT r.lvl=[55,55]:=fun r h=>h.top.elim (fun e=>.inl (by rw[e];rfl)) fun e=>.inr (by rw[e];rfl)
 have e:wL d=jC::((UU d++Mb mx d.w)++Mb pJ d.l):=by unfold wL;rw[hb];rfl
 rw[e]
 unfold Ae
 clear e hb
 obtain⟨hf,hw,hl⟩:=h
 obtain⟨f,w,l⟩:=d
 have kl: ∀{o:Option Rt},Kb o->o.map (fun r=>nT r.lvl)=none\/o.map (fun r=>nT r.lvl)=some [48,49]\/o.map (fun r=>nT r.lvl)=some [55,55]:=by
  intro o h
  cases o with
  |none=>exact .inl rfl
  |some r=>exact .inr ((lv r (h r rfl)).imp (congrArg some) (congrArg some))
 have e1: ∀(a:List Nat) (o:Option Rt),Mb a o=bj (motive:=fun _=>List (List Nat)) [] (fun x=>[a,x]) (o.map fun r=>nT r.lvl):=fun a o=>by cases o<;>rfl
 have e2: ∀(a:List Nat) (o:Option Rt),hW a o=bj (motive:=fun _=>List (List Nat)) [] (fun _=>[a]) (o.map fun r=>nT r.lvl):=fun a o=>by cases o<;>rfl
 have e3: ∀(o:Option Rt),lW o=bj (motive:=fun _=>List (List Nat)) [] (fun x=>[x]) (o.map fun r=>nT r.lvl):=fun o=>by cases o<;>rfl
 have kf:(f=none)\/ ∃o s r,f=some (o,s,r)/\(nT r.lvl=[48,49]\/nT r.lvl=[55,55]):=by
  cases f with
  |none=>exact .inl rfl
  |some x=>exact .inr ⟨x.1,x.2.1,x.2.2,rfl,lv _ (hf x rfl).1⟩
 have kw:=kl hw
 have k3:=kl hl
 rw[e1,e1,e2 mx,e2 pJ,e3 w,e3 l]
 revert kw k3
 generalize w.map (fun r=>nT r.lvl)=w'
 generalize l.map (fun r=>nT r.lvl)=l'
 intro kw k3
 rcases kf with rfl|⟨o,s,r,rfl,kr⟩
 ·rcases kw with rfl|rfl|rfl<;>rcases k3 with rfl|rfl|rfl<;>rfl
 ·show jM (jC::(([gQ,kj s,nT r.lvl]++_)++_))=jM (((([jC]++[gQ])++_)++_)++[kj s]++(([nT r.lvl]++_)++_))
  revert kr
  generalize nT r.lvl=x
  intro kr
  cases s<;>rcases kr with rfl|rfl<;>rcases kw with rfl|rfl|rfl<;>rcases k3 with rfl|rfl|rfl<;>rfl
def Yl(σ:AS)(e:EM)(fr:Fm)(l:aa):Prop:= ∃i ai,e fr σ=some (.ref i,ai)/\ai.get i=some (.lst l)/\i<ai.next/\kD σ ai
theorem akW{as:LM}{fr:Fm}{l:aa}{σ:AS}(h:as fr σ=some (l,σ))(hk:l.length<=4000000):Yl σ (bq cX as) fr l:=by
 refine⟨σ.next,σ.alloc (.lst l),?_,b8,bO _,kD.alloc⟩
 rw[ef,h,aX]
 show(bif dv l.length then some (AV.ref σ.next,σ.alloc (.lst l))else none)=_
 rw[fQ hk];rfl
theorem amJ{i j:Nat}{fr:Fm}{σ:AS}{l:aa}(h:gt fr i= .ref j)(g:σ.get j=some (.lst l))(hj:j<σ.next):Yl σ (al i) fr l:=⟨j,σ,by rw[be,h];rfl,g,hj,kD.rfl'⟩
theorem JJ{a b:EM}{fr:Fm}{l m:aa}{σ:AS}(ha:Yl σ a fr l)(hb: ∀ai,kD σ ai->Yl ai b fr m)(hk:l.length+m.length<=4000000):Yl σ (bi (bU .Add) a b) fr (l++m):=by
 obtain⟨i,gy,e1,g1,l1,k1⟩:=ha
 obtain⟨j,gV,e2,g2,l2,k2⟩:=hb gy k1
 refine⟨gV.next,gV.alloc (.lst (l++m)),?_,b8,bO _,k1.trans (k2.trans kD.alloc)⟩
 rw[jD,e1,aX,e2,aX,Ix (k2.2 _ _ l1 g1) g2 hk]
theorem aba{c:BM}{a b:EM}{fr:Fm}{t:Bool}{l m:aa}{σ:AS}(hc: ∃ai,c fr σ=some (t,ai)/\kD σ ai)(ha: ∀σ,Yl σ a fr l)(hb: ∀σ,Yl σ b fr m):Yl σ (s7 c a b) fr (bif t then l else m):=by
 obtain⟨gy,e1,k1⟩:=hc
 cases t with
 |true=>
  obtain⟨i,gV,e2,g,l2,k2⟩:=ha gy
  exact⟨i,gV,by rw[ww,e1,aX];exact e2,g,l2,k1.trans k2⟩
 |false=>
  obtain⟨i,gV,e2,g,l2,k2⟩:=hb gy
  exact⟨i,gV,by rw[ww,e1,aX];exact e2,g,l2,k1.trans k2⟩
theorem YJ{i:Nat}{it elt:EM}{fr:Fm}{ps:List (AV×AV)}{σ:AS}{a:AV}(e1:it fr σ=some (a,σ))(e2:fy σ a=some (ps.map (·.1),σ))(hl:ps.length<=4000000)(h: ∀p∈ps,∀σ,elt (put fr i p.1) σ=some (p.2,σ)):
  Yl σ (eJ [i] it (fun _ σ=>some (true,σ)) elt) fr (ps.map (·.2)):=by
 refine⟨σ.next,σ.alloc (.lst (ps.map (·.2))),?_,b8,bO _,kD.alloc⟩
 show bw (it fr σ) (fun x ai=>bw (fy ai x) fun l ay=>bw (eB [i] (fun _ σ=>some (true,σ)) elt l fr ay) fun vs aM=>bif dv vs.length then some (AV.ref aM.next,aM.alloc (.lst vs))else none)=_
 rw[e1,aX,e2,aX,G6 (i:=i) (elt:=elt) (fr:=fr) (ps:=ps) (σ:=σ) h,aX,fQ (by rw[aS];exact hl)];rfl
theorem aeW{l:List (List Nat)}:nK (l.map AV.str)=some l:=by
 induction l with
 |nil=>rfl
 |cons a l ih=>
  show ob (nK (l.map AV.str)) (fun l=>some (a::l))=_
  rw[ih];rfl
theorem srt{σ:AS}{i:Nat}{l:List (List Nat)}(h:σ.get i=some (.lst (l.map AV.str)))(hk:l.length<64):p9 [.ref i] σ=some (.ref σ.next,σ.alloc (.lst ((jM l).map .str))):=by
 have h1:iL σ (.ref i)=some (l.map AV.str):=ji h
 show ob (iL σ (.ref i)) (fun l=>ob (nK l) fun ss=>bif bt ss.length 64 then some (AV.ref σ.next,σ.alloc (.lst ((jM ss).map .str)))else none)=_
 rw[h1,b4,aeW,b4,G2 hk];rfl
theorem ade{n:Nat}{l:aa}(h: ∀a∈l,wu n a a=some true):KC (wu n) l l=some true:=by
 induction l with
 |nil=>rfl
 |cons a l ih=>
  show ob (wu n a a) _=_
  rw[h a (bb ..),b4]
  rw[ih fun b hb=>h b (aQ _ hb)];rfl
theorem abF{σ:AS}{i j:Nat}{l:aa}(hi:σ.get i=some (.lst l))(hj:σ.get j=some (.lst l))(h: ∀a∈l,wu 16 a a=some true):eqA σ (.ref i) (.ref j)=some true:=by
 have h1:iL σ (.ref i)=some l:=ji hi
 have h2:iL σ (.ref j)=some l:=ji hj
 show od (iL σ (.ref i)) (fun l=>ob (iL σ (.ref j)) fun m=>bif rl l m then KC (wu 16) l m else some false) _=_
 rw[h1,am8,h2,b4,show rl l l=true from NY _]
 exact ade h
theorem afl(s:ac):wu 16 (.str s) (.str s)=some true:=by
 show some (dg s s)=_
 rw[Pu]
theorem c26{d:DS}{fr:Fm}{σ:AS}(h0:gt fr 0=bG d): ∃ai,fi (bV .NotEq) (un (aA 26) (al 0)) FH fr σ=some (d.f.isSome,ai)/\kD σ ai:=by
 refine⟨σ.alloc (.dct [] []),?_,kD.alloc⟩
 have hu:bQ (bG d)=false:=rfl
 have a26: ∀σ,aA 26 (bG d) σ=some (.dct (RH d) (Pw d)):=fun _=>rfl
 have ed:FH fr σ=some (.ref σ.next,σ.alloc (.dct [] [])):=rfl
 have h1:Ph (σ.alloc (.dct [] [])) (.ref σ.next)=some []:=(show ob ((σ.alloc (.dct [] [])).get σ.next) _=_ by rw[b8];rfl)
 have ne:bV .NotEq (.dct (RH d) (Pw d)) (.ref σ.next) (σ.alloc (.dct [] []))=some d.f.isSome:=by
  show ob (ob (Ph (σ.alloc (.dct [] [])) (.ref σ.next)) fun ks'=>bif ks'.isEmpty then some (RH d).isEmpty else none) (fun b=>some !b)=_
  rw[h1]
  obtain⟨f,w,l⟩:=d
  cases f<;>rfl
 simp only[fx,fY,be,h0,hu,ae,aX,a26,b4,ed,ne]
theorem amV{d:DS}{k:Nat}{o:Option Rt}{fr:Fm}{σ:AS}(h0:gt fr 0=bG d)(ak: ∀σ,aA k (bG d) σ=some (.lst (jj o))): ∃ai,fi (bV .NotEq) (un (aA k) (al 0)) (bq cX aJ) fr σ=some (o.isSome,ai)/\kD σ ai:=by
 refine⟨σ.alloc (.lst []),?_,kD.alloc⟩
 have hu:bQ (bG d)=false:=rfl
 have ne:bV .NotEq (.lst (jj o)) (.ref σ.next) (σ.alloc (.lst []))=some o.isSome:=by
  show Th (bV .Eq (.lst (jj o)) (.ref σ.next) (σ.alloc (.lst [])))=_
  rw[II b8]
  cases o<;>rfl
 simp only[fx,fY,be,h0,hu,ae,aX,ak,b4,ef,ci,pf,ne]
noncomputable def ZQ:EM:=bi (bU .Add) (bi (bU .Add) (bi (bU .Add) (bq cX (aw (a7 (.str [68,65,84,65])) aJ)) (s7 (fi (bV .NotEq) (un (aA 26) (al 0)) FH) (bq cX (aw (a7 (.str [70,73,76,69])) aJ)) (bq cX aJ))) (s7 (fi (bV .NotEq) (un (aA 24) (al 0)) (bq cX aJ)) (bq cX (aw (a7 (.str [87,79,82,75,73,78,71,45,83,84,79,82,65,71,69])) aJ)) (bq cX aJ))) (s7 (fi (bV .NotEq) (un (aA 25) (al 0)) (bq cX aJ)) (bq cX (aw (a7 (.str [76,73,78,75,65,71,69])) aJ)) (bq cX aJ))
noncomputable def KG(d:DS):List (List Nat):=(([jC]++hW gQ (d.f.map (·.2.2)))++hW mx d.w)++hW pJ d.l
theorem ZS{d:DS}{fr:Fm}{σ:AS}(h0:gt fr 0=bG d):Yl σ ZQ fr ((KG d).map .str):=by
 have m0: ∀σ,Yl σ (bq cX aJ) fr []:=fun σ=>akW rfl (aU _)
 have m1: ∀s σ,Yl σ (bq cX (aw (a7 (.str s)) aJ)) fr [.str s]:=fun s σ=>akW rfl (av rfl)
 have le: ∀(t:Bool) (s:List Nat),(bif t then[AV.str s]else[]).length <=1:=fun t s=>by cases t<;>exact av rfl
 have y1:=JJ (m1 [68,65,84,65] σ) (fun ai _=>aba (c26 (σ:=ai) h0) (m1 [70,73,76,69]) m0) (au (dq (le _ _) 1) (by decide))
 have y2:=JJ y1 (fun ai _=>aba (amV (k:=24) (o:=d.w) (σ:=ai) h0 fun _=>rfl) (m1 [87,79,82,75,73,78,71,45,83,84,79,82,65,71,69]) m0) (by rw[ao];exact au (aK (dq (le _ _) 1) (le _ _)) (by decide))
 have y3:=JJ y2 (fun ai _=>aba (amV (k:=25) (o:=d.l) (σ:=ai) h0 fun _=>rfl) (m1 [76,73,78,75,65,71,69]) m0) (by rw[ao,ao];exact au (aK (aK (dq (le _ _) 1) (le _ _)) (le _ _)) (by decide))
 have e:(KG d).map AV.str=(([AV.str [68,65,84,65]]++bif d.f.isSome then[AV.str [70,73,76,69]]else[])++bif d.w.isSome then[AV.str [87,79,82,75,73,78,71,45,83,84,79,82,65,71,69]]else[])++bif d.l.isSome then[AV.str [76,73,78,75,65,71,69]]else[]:=by
  obtain⟨f,w,l⟩:=d
  cases f<;>cases w<;>cases l<;>rfl
 rw[e];exact y3
noncomputable def fdE:EM:=eJ [12] (un (aA 26) (al 0)) (fun _ σ=>some (true,σ)) (s7 (fi (bV .In) (al 12) (un (aA 27) (al 0))) (a7 (.str [83,68])) (a7 (.str [70,68])))
noncomputable def aac:EM:=eJ [13] (al 3) (fun _ σ=>some (true,σ)) (bi fP (bq (Hl [1,77]) (aw (a7 (.str [48,49])) (aw (a7 (.str [55,55])) aJ))) (un (aA 20) (al 13)))
noncomputable def amX(d:DS):List (AV×AV):=bj (motive:=fun _=>List (AV×AV)) [] (fun x=>[(.str (d9 x.1),.str (kj x.2.1))]) d.f
noncomputable def lvP(o:Option Rt):List (AV×AV):=bj (motive:=fun _=>List (AV×AV)) [] (fun r=>[(d4 r,.str (nT r.lvl))]) o
noncomputable def Tb(d:DS):List (AV×AV):=(lvP (d.f.map (·.2.2))++lvP d.w)++lvP d.l
theorem alh{d:DS}{fr:Fm}{σ:AS}(h0:gt fr 0=bG d):Yl σ fdE fr ((fdW d).map .str):=by
 have hu:bQ (bG d)=false:=rfl
 obtain⟨f,w,l⟩:=d
 have a26: ∀σ,aA 26 (bG ⟨f,w,l⟩) σ=some (.dct (RH ⟨f,w,l⟩) (Pw ⟨f,w,l⟩)):=fun _=>rfl
 have e1:un (aA 26) (al 0) fr σ=some (.dct (RH ⟨f,w,l⟩) (Pw ⟨f,w,l⟩),σ):=by simp only[fY,be,h0,hu,ae,aX,a26,b4]
 have e2:fy σ (.dct (RH ⟨f,w,l⟩) (Pw ⟨f,w,l⟩))=some ((amX ⟨f,w,l⟩).map (·.1),σ):=by cases f<;>rfl
 have e3:(fdW ⟨f,w,l⟩).map AV.str=(amX ⟨f,w,l⟩).map (·.2):=by cases f<;>rfl
 rw[e3]
 refine YJ e1 e2 (by cases f<;>exact av rfl) ?_
 cases f with
 |none=>exact fun _ h=>absurd h bc
 |some x=>
  obtain⟨o,s,r⟩:=x
  intro p hp σ
  rw[show p=(.str (d9 o),.str (kj s)) from aO.mp hp]
  have g0:gt (put fr 12 (.str (d9 o))) 0=bG ⟨some (o,s,r),w,l⟩:=(fJ rfl).trans h0
  have a27: ∀σ,aA 27 (bG ⟨some (o,s,r),w,l⟩) σ=some (.lst (bif s then[.str (d9 o)]else[])):=fun _=>rfl
  simp only[ww,fx,fY,be,g0,cW,hu,mU,ae,aX,a27,b4,Z0,dW]
  cases s<;>rfl
theorem aad(o:Option Rt):(lvP o).map (·.1)=jj o/\(lvP o).map (·.2)=(lW o).map AV.str/\(lvP o).length <=1:=by
 cases o with
 |none=>exact⟨rfl,rfl,aU _⟩
 |some r=>exact⟨rfl,rfl,ax _⟩
theorem jg.fok{d:DS}(h:jg d):Kb (d.f.map (·.2.2)):=fun r e=>by
 cases q:d.f with
 |none=>rw[q]at e;exact nn e
 |some x=>
  rw[q]at e
  rw[<- aH e]
  exact(h.f x q).1
theorem Vb{o:Option Rt}(h:Kb o){fr:Fm}: ∀p∈lvP o,∀σ,bi fP (bq (Hl [1,77]) (aw (a7 (.str [48,49])) (aw (a7 (.str [55,55])) aJ))) (un (aA 20) (al 13)) (put fr 13 p.1) σ=some (p.2,σ):=by
 cases o with
 |none=>exact fun _ h=>absurd h bc
 |some r=>
  intro p hp σ
  rw[show p=(d4 r,.str (nT r.lvl)) from aO.mp hp]
  have hu:bQ (d4 r)=false:=rfl
  have a20: ∀σ,aA 20 (d4 r) σ=some (.int (am r.lvl)):=fun _=>rfl
  have md: ∀a b σ,Hl [1,77] [a,b] σ=some (.dcti [1,77] [a,b],σ):=fun _ _ _=>rfl
  have ix: ∀σ,fP (.dcti [1,77] [.str [48,49],.str [55,55]]) (.int (am r.lvl)) σ=some (.str (nT r.lvl),σ):=fun σ=>by
   rcases(h r rfl).top with e|e<;>rw[e]<;>rfl
  simp only[jD,ef,cq,ci,dW,aX,md,fY,be,cW,hu,ae,a20,b4,ix]
theorem alT{d:DS}(h:jg d){fr:Fm}{σ:AS}(h3:gt fr 3= .lst (dZ d)):Yl σ aac fr (((lW (d.f.map (·.2.2))++lW d.w)++lW d.l).map .str):=by
 obtain⟨a1,a2,a3⟩:=aad (d.f.map (·.2.2))
 obtain⟨b1,b2,b3⟩:=aad d.w
 obtain⟨c1,c2,c3⟩:=aad d.l
 have m1:(Tb d).map (·.1)=dZ d:=by unfold Tb;rw[bm,bm,a1,b1,c1];rfl
 have m2:((lW (d.f.map (·.2.2))++lW d.w)++lW d.l).map AV.str=(Tb d).map (·.2):=by unfold Tb;rw[bm,bm,bm,bm,a2,b2,c2]
 have hk:(Tb d).length <=4000000:=by
  unfold Tb;rw[ao,ao];exact au (aK (aK a3 b3) c3) (by decide)
 have e1:al 3 fr σ=some (.lst (dZ d),σ):=by rw[be,h3];rfl
 rw[m2]
 refine YJ e1 (by rw[m1];refine NI ?_;rw[<- m1,aS];exact hk) hk ?_
 exact fun p hp=>(cQ.mp hp).elim (fun hp=>(cQ.mp hp).elim (Vb h.fok p) (Vb h.w p)) (Vb h.l p)
theorem abP(d:DS):(Ae d).map AV.str=((KG d).map .str++(fdW d).map .str)++((lW (d.f.map (·.2.2))++lW d.w)++lW d.l).map .str:=by
 unfold Ae KG
 rw[bm,bm]
theorem ant(d:DS):(KG d).length <=4/\(fdW d).length <=1/\((lW (d.f.map (·.2.2))++lW d.w)++lW d.l).length <=3/\(wL d).length <=8:=by
 obtain⟨f,w,l⟩:=d
 refine⟨?_,?_,?_,?_⟩
 ·cases f<;>cases w<;>cases l<;>exact av rfl
 ·cases f<;>exact av rfl
 ·cases f<;>cases w<;>cases l<;>exact av rfl
 ·unfold wL
  cases (dS ⟨f,w,l⟩).isEmpty
  ·cases f<;>cases w<;>cases l<;>exact av rfl
  ·exact aU _
noncomputable def akk:BM:=fi (bV .NotEq) (bq p9 (aw (al 5) aJ)) (bq p9 (aw (bi (bU .Add) (bi (bU .Add) (al 4) fdE) aac) aJ))
theorem akl{d:DS}(h:jg d)(hb:(dS d).isEmpty=false){fr:Fm}{σ:AS}{i j:Nat}(h0:gt fr 0=bG d)(h3:gt fr 3= .lst (dZ d))(h4:gt fr 4= .ref i)(h5:gt fr 5= .ref j)
  (gi:σ.get i=some (.lst ((KG d).map .str)))(li:i<σ.next)(gj:σ.get j=some (.lst ((wL d).map .str))): ∃ai,akk fr σ=some (false,ai):=by
 obtain⟨k1,k2,k3,k4⟩:=ant d
 have s1:=srt gj (eV k4 (by decide))
 have y1:Yl (σ.alloc (.lst ((jM (wL d)).map .str))) (bi (bU .Add) (bi (bU .Add) (al 4) fdE) aac) fr ((Ae d).map .str):=by
  rw[abP]
  refine JJ (JJ (amJ h4 (dI gi li) (cK li)) (fun ai _=>alh h0) ?_) (fun ai _=>alT h h3) ?_
  ·rw[aS,aS];exact au (aK k1 k2) (by decide)
  ·rw[ao,aS,aS,aS];exact au (aK (aK k1 k2) k3) (by decide)
 obtain⟨x,gV,e2,g2,l2,K2⟩:=y1
 have kx:(Ae d).length <64:=by
  have:((Ae d).map AV.str).length=(Ae d).length:=aS ..
  rw[<- this,abP,ao,ao,aS,aS,aS]
  exact eV (aK (aK k1 k2) k3) (by decide)
 have s2:=srt g2 kx
 have gf:(gV.alloc (.lst ((jM (Ae d)).map .str))).get σ.next=some (.lst ((jM (Ae d)).map .str)):=by
  have h6:=K2.2 σ.next _ (bO _) b8
  rw[akj h hb]at h6
  exact dI h6 (eW (bO _) K2.1)
 have cm:bV .NotEq (.ref σ.next) (.ref gV.next) (gV.alloc (.lst ((jM (Ae d)).map .str)))=some false:=by
  show ob (eqA _ (.ref σ.next) (.ref gV.next)) (fun b=>some (!b))=_
  rw[abF gf b8 fun a ha=>by
   obtain⟨s,_,rfl⟩:=dy.mp ha
   exact afl s]
  rfl
 refine⟨gV.alloc (.lst ((jM (Ae d)).map .str)),?_⟩
 unfold akk
 simp only[fx,ef,cq,ci,be,h5,fe,ae,aX,s1,e2,s2,cm,b4]
noncomputable def aky:EM:=eJ [14] (al 1) (jd (un (aA 28) (al 14))) (un (aA 1) (al 14))
noncomputable def amY:EM:=eJ [11] (bq lB (aw (bq eO (aw (al 1) aJ)) aJ)) s8 (bi fP (al 1) (al 11))
noncomputable def am4:EM:=eJ [10] (al 6) (fi (bV .Eq) (un (aA 2) (al 10)) (a7 (.str [110,117,109,98,101,114]))) (bq tO (aw (un (aA 1) (al 10)) aJ))
noncomputable def akJ:EM:=qG 8 (al 3) 9 (bq (bv 6) (aw (al 8) aJ)) (al 9)
noncomputable def Pp:SM:=r5 (fi (bV .Eq) (al 3) (bq cX aJ)) (aV (eD (rO (fi (bV .Eq) (al 1) (bq cX aJ)))) bk) bk
noncomputable def aaV:SM:=aV (cO [4] ZQ) (aV (cO [5] aky) (aV (r5 akk (aV (fun _ _=>none) bk) bk) (aV (cO [6] amY) (aV (cO [7] am4) (aV (eD (rO (fi (bV .Eq) (al 7) akJ))) bk)))))
theorem anh{a b r:SM}{fr fr':Fm}{σ ai:AS}(h:aV a b fr σ=some (.next fr' ai)):aV a (aV b r) fr σ=r fr' ai:=by
 have h:ob (a fr σ) (gP b)=_:=h
 show ob (a fr σ) (gP (aV b r))=_
 revert h
 cases a fr σ with
 |none=>exact fun h=>nn h
 |some o=>
  cases o with
  |next f s=>
   intro h
   have h:b f s=_:=h
   show ob (b f s) (gP r)=_
   rw[h];rfl
  |ret x s=>exact fun h=>j5.noConfusion (aH h)
  |brk x s=>exact fun h=>j5.noConfusion (aH h)
  |cont x s=>exact fun h=>j5.noConfusion (aH h)
theorem aqo{a b c r:SM}{fr fr':Fm}{σ ai:AS}(h:aV a (aV b c) fr σ=some (.next fr' ai)):aV a (aV b (aV c r)) fr σ=r fr' ai:=by
 have e:aV a (aV b (aV c r)) fr σ=aV a (aV (aV b c) r) fr σ:=by
  show ob (a fr σ) (gP (aV b (aV c r)))=ob (a fr σ) (gP (aV (aV b c) r))
  refine congrArg (ob (a fr σ)) (funext fun o=> ?_)
  cases o with
  |next f s=>
   show ob (b f s) (gP (aV c r))=ob (ob (b f s) (gP c)) (gP r)
   cases b f s with
   |none=>rfl
   |some o=>cases o<;>rfl
  |ret x s=>rfl
  |brk x s=>rfl
  |cont x s=>rfl
 rw[e];exact anh h
theorem ajd(d:DS):(dZ d).isEmpty=(dS d).isEmpty:=by
 obtain⟨f,w,l⟩:=d
 cases f<;>cases w<;>cases l<;>rfl
theorem aeX{d:DS}(h:jg d)(hb:(dS d).isEmpty=false){x:Nat}(σ:AS): ∃ai,aaV [bG d,.lst (gG d),.ref x,.lst (dZ d)] σ=some (.ret (.bool true) ai):=by
 have hk:(gG d).length <=99999:=au (W9 h) (by decide)
 obtain⟨i,gy,e1,g1,l1,-⟩:=ZS (d:=d) (fr:=[bG d,.lst (gG d),.ref x,.lst (dZ d)]) (σ:=σ) rfl
 have e2:=aa0 (aaX (d:=d)) (au hk (by decide)) (fr:=[bG d,.lst (gG d),.ref x,.lst (dZ d),.ref i]) (σ:=gy) rfl
 rw[akz h]at e2
 obtain⟨qu,e3⟩:=akl h hb (fr:=[bG d,.lst (gG d),.ref x,.lst (dZ d),.ref i,.ref gy.next]) (σ:=gy.alloc (.lst ((wL d).map .str))) rfl rfl rfl rfl (dI g1 l1) (cK l1) b8
 have e4:=UV (aaX (d:=d)) hk (fr:=[bG d,.lst (gG d),.ref x,.lst (dZ d),.ref i,.ref gy.next]) (σ:=qu) rfl
 obtain⟨gd,lv⟩:=anI h
 have hf:(jV true (gG d)).length <=4000000:=by
  have fl: ∀(T:List AV) (p:Bool),(jV p T).length <=T.length:=fun T=>by
   induction T with
   |nil=>exact fun _=>ax _
   |cons t T ih=>
    intro p
    cases p with
    |true=>exact ba (ih _)
    |false=>exact mK (ih _)
  exact au (fl _ _) (au hk (by decide))
 have e5:=U8 (aaX (d:=d)) gd (fr:=[bG d,.lst (gG d),.ref x,.lst (dZ d),.ref i,.ref gy.next,.ref qu.next]) (σ:=qu.alloc (.lst (jV true (gG d)))) rfl b8 hf
 rw[lv]at e5
 generalize aqC:(qu.alloc (.lst (jV true (gG d)))).drop qu.next=VW at e5
 obtain⟨YL,e6,K6⟩:=VQ h (fr:=[bG d,.lst (gG d),.ref x,.lst (dZ d),.ref i,.ref gy.next,.ref qu.next,.ref VW.next]) (σ:=VW.alloc (.lst ((Cq d).map AV.int))) rfl
 have g7:=K6.2 VW.next _ (bO _) b8
 have e7:bV .Eq (.ref VW.next) (.ref YL.next) (YL.alloc (.lst ((Cq d).map AV.int)))=some true:=by
  show eqA _ (.ref VW.next) (.ref YL.next)=_
  refine abF (dI g7 (eW (bO _) K6.1)) b8 fun a ha=> ?_
  obtain⟨n,_,rfl⟩:=dy.mp ha
  exact SK (a:=.int n) rfl
 have e1:ZQ [bG d,.lst (gG d),.ref x,.lst (dZ d)] σ=_:=e1
 have e2:aky [bG d,.lst (gG d),.ref x,.lst (dZ d),.ref i] gy=_:=e2
 have e4:amY [bG d,.lst (gG d),.ref x,.lst (dZ d),.ref i,.ref gy.next] qu=_:=e4
 have e5:am4 [bG d,.lst (gG d),.ref x,.lst (dZ d),.ref i,.ref gy.next,.ref qu.next] (qu.alloc (.lst (jV true (gG d))))=_:=e5
 have e6:akJ [bG d,.lst (gG d),.ref x,.lst (dZ d),.ref i,.ref gy.next,.ref qu.next,.ref VW.next] (VW.alloc (.lst ((Cq d).map AV.int)))=_:=e6
 refine⟨YL.alloc (.lst ((Cq d).map AV.int)),?_⟩
 unfold aaV
 simp only[df,fD,e1,e2,e3,e4,e5,e6,e7,aX,b4,dz,dB,su,sv,putN,jY,ae,fE,d7,wA,fx,be,o9,kE,fe]
theorem L1{d:DS}(h:jg d){lab:List AV->List AV}(hl:lab (gG d)=Pm d)(σ:AS): ∃ai,bg 1 [] (gn lab) [bG d] σ=some (.bool true,ai):=by
 obtain⟨gy,x,e1⟩:=ame h hl σ
 obtain⟨gV,e2⟩:=amf (d:=d) (T:=.lst (gG d)) (x:=x) gy rfl
 have body: ∃ai,gn lab [bG d] σ=some (.ret (.bool true) ai):=by
  have q1:gn lab [bG d] σ=aV (cO [3] (bi (bU .Add) (bi (bU .Add) (qG 15 (un (aA 26) (al 0)) 16 (bi fP (un (aA 26) (al 0)) (al 15)) (al 16)) (un (aA 24) (al 0))) (un (aA 25) (al 0)))) (aV (Qr 3) (aV Pp aaV)) [bG d,.lst (gG d),.ref x] gy:=aqo e1
  rw[q1,anh e2]
  have ee:fi (bV .Eq) (al 3) (bq cX aJ) [bG d,.lst (gG d),.ref x,.lst (dZ d)] gV=some ((dS d).isEmpty,gV.alloc (.lst [])):=by
   have hu:bQ (.lst (dZ d))=false:=rfl
   simp only[fx,be,o9,kE,hu,ae,aX,ef,ci,pf,II (σ:=gV.alloc (.lst [])) (l:=dZ d) b8,b4,ajd]
  cases z:(dS d).isEmpty with
  |true=>
   have hT:gG d=[]:=by unfold gG;rw[z];rfl
   have hu:bQ (.lst (gG d))=false:=rfl
   have e9:fi (bV .Eq) (al 1) (bq cX aJ) [bG d,.lst (gG d),.ref x,.lst (dZ d)] (gV.alloc (.lst []))=some (true,(gV.alloc (.lst [])).alloc (.lst [])):=by
    simp only[fx,be,o9,kE,hu,ae,aX,ef,ci,pf,II (σ:=(gV.alloc (.lst [])).alloc (.lst [])) (l:=gG d) b8,b4]
    rw[hT];rfl
   rw[z]at ee
   refine⟨(gV.alloc (.lst [])).alloc (.lst []),?_⟩
   unfold Pp
   simp only[df,jY,ee,aX,af,d7,wA,e9,b4,dB]
  |false=>
   rw[z]at ee
   obtain⟨ai,e⟩:=aeX (x:=x) h z (gV.alloc (.lst []))
   refine⟨ai,?_⟩
   unfold Pp
   simp only[df,jY,ee,aX,ae,fE,b4,dz,e]
 obtain⟨ai,e⟩:=body
 refine⟨ai,?_⟩
 show ob (gn lab [bG d] σ) ik=_
 rw[e];rfl
theorem aab{d:DS}(h:jg d){lab:List AV->List AV}(hl:lab (gG d)=Pm d)(σ:AS): ∃ai,eE lab [bG d] σ=some (.bool true,ai):=by
 have e:eE lab [bG d] σ=bg 1 [] (gn lab) [bG d] σ:=by
  show pr (pR (jF 14) [bG d] σ) (fun args' ai=>bg 1 [] (gn lab) args' ai)=_
  rw[show pR (jF 14) [bG d] σ=([bG d],σ) from P0 KQ];rfl
 rw[e];exact L1 h hl σ
noncomputable def Yd(n lvl:Nat)(code:ac):AV:=.frz cg fW (.int (am n)::Dd (A9 (lvl::code)))
noncomputable def mY(n lv lvl:Nat)(code:ac)(z:aa):AV:=.frz 0 (9::n::lv::lvl::code) z
noncomputable def drO(L:aa):Option (AV×Nat×List AV):=bw (qz [.ref 0] ⟨1,[(0,.orc 0 L)]⟩) fun a σ=>sr σ 0 fun k l=>some (a,k,l)
noncomputable def drF(a b:Nat)(c:ac)(z:aa)(f:Option (Bool×Bool)):List AV:=bj (motive:=fun _=>List AV) [m2 3 1] (fun x=>[m2 3 (bif x.1 then 2 else 0),mY (bif x.1 then 1 else 0) a b c z,m2 2 (bif x.2 then 0 else 1)]) f
noncomputable def drW(a b:Nat)(c:ac)(z:aa)(w:Option Bool):List AV:=bj (motive:=fun _=>List AV) [m2 3 2] (fun v=>[m2 3 (bif v then 1 else 0),mY (bif v then 3 else 2) a b c z]) w
noncomputable def X2{α β:Type}(o:Option α)(f:α->List β):List β:=bj (motive:=fun _=>List β) [] f o
theorem drX(a b:Nat)(c:ac)(z:aa)(a' b':Nat)(c':ac)(z':aa)(a'' b'':Nat)(c'':ac)(z'':aa)(f:Option (Bool×Bool))(w:Option Bool)(k:Bool):
  drO (drF a b c z f++(drW a' b' c' z' w++[mY 4 a'' b'' c'' z'',m2 2 (bif k then 0 else 1)]))=some (Eh (X2 w fun _=>[Yd a' b' c']) (bif k then[]else[Yd a'' b'' c'']) (X2 f fun x=>[d9 x.1]) (X2 f fun _=>[.lst [Yd 1 b c]]) (X2 f fun x=>bif x.2 then[.str (d9 x.1)]else[]),0,[]):=by
 rcases f with _|⟨_|_,_|_⟩<;>rcases w with _|_|_<;>cases k<;>kernel_rfl
noncomputable def ZD:FD->Option (Bool×Bool×Rt)
 | .none=>none
 | .one o rd s=>some (o,CD s,jy (fnI o) rd)
noncomputable def dsW:WD->Option Rt
 | .none=>none
 | .one v rd=>some (jy (wnI v) rd)
noncomputable def af6(x:DD):DS:=⟨ZD x.f,dsW x.w,bif CD x.k then none else some (jy 4 x.l)⟩
def To(rd:RD):Prop:=FS rd/\TN rd<5
theorem Jg(b:Int):To (Ba b).1:=by
 refine⟨(KW (b:=b) (r:=[]) trivial).2,?_⟩
 unfold Ba
 cases gZ 4 b with
 |zero=>exact gY _
 |succ a=>
  show TN (match sD (gZ 3 (bP 4 (bP 5 (bP 4 b)))) (bP 3 (bP 4 (bP 5 (bP 4 b))))with
   |(ts,b')=>_:RD×Int).1<5
  obtain⟨ts,b'⟩:=sD (gZ 3 (bP 4 (bP 5 (bP 4 b)))) (bP 3 (bP 4 (bP 5 (bP 4 b))))
  show TN (match gZ 4 b' with
   |0=>(RD.recR a (gZ 5 (bP 4 b)) (gZ 4 (bP 5 (bP 4 b))) ts (gZ 2 (bP 4 b')),bP 2 (bP 4 b'))
   |q+1=>(RD.std a (gZ 5 (bP 4 b)) (gZ 4 (bP 5 (bP 4 b))) ts q,bP 4 b')).1<5
  cases gZ 4 b'<;>exact ml (by decide) _
structure ae8(x:DD):Prop where
 f: ∀o rd s,x.f= .one o rd s->To rd/\s<2
 w: ∀v rd,x.w= .one v rd->To rd
 l:To x.l
 k:x.k<2
theorem NE{o o2:Bool}{a a2:RD}{s s2:Nat}(h:FD.one o a s=FD.one o2 a2 s2):a=a2/\s=s2:=by cases h;exact⟨rfl,rfl⟩
theorem acx{o o2:Bool}{a a2:RD}(h:WD.one o a=WD.one o2 a2):a=a2:=by cases h;rfl
theorem abH(b:Int):ae8 (Pj b):=by
 refine⟨fun o rd s h=> ?_,fun v rd h=> ?_,Jg _,ml (by decide) _⟩
 ·have h:(IJ b).1= .one o rd s:=h
  unfold IJ at h
  revert h
  cases gZ 3 b with
  |zero=>exact fun h=>(NE h).1▸(NE h).2▸⟨Jg _,ml (by decide) _⟩
  |succ n=>cases n with
   |zero=>exact fun h=>FD.noConfusion h
   |succ n=>exact fun h=>(NE h).1▸(NE h).2▸⟨Jg _,ml (by decide) _⟩
 ·have h:(QP (IJ b).2).1= .one v rd:=h
  unfold QP at h
  revert h
  cases gZ 3 (IJ b).2 with
  |zero=>exact fun h=>acx h▸Jg _
  |succ n=>cases n with
   |zero=>exact fun h=>acx h▸Jg _
   |succ n=>exact fun h=>WD.noConfusion h
theorem YE(n:Nat)(ts:List TD):(HE n ts).length=ts.length:=by
 induction ts with
 |nil=>rfl
 |cons t ts ih=>exact congrArg nM ih
theorem aob{n:Nat}(hn:n<2):PR 77 n=1:=by
 cases n with
 |zero=>rfl
 |succ n=>cases n with
  |zero=>rfl
  |succ n=>exact absurd hn (b6.mpr (ba (ba (aU _))))
theorem Vx{n:Nat}{rd:RD}(hn:n<5)(h:To rd):oa (jy n rd):=by
 obtain⟨h1,h2⟩:=h
 cases rd with
 |alone l=>
  refine⟨?_,fun h=>absurd rfl h⟩
  have: ∀n:Nat,XZ ⟨PR 77 n,S9 (PR 77 n) n l,[],0⟩=true:=fun n=>by
   unfold PR
   cases aj 77 77&&cT n 1<;>rfl
  exact this n
 |std a d e ts q=>
  refine⟨?_,fun h=>absurd rfl h⟩
  show cT (HE n ts).length 2=true
  rw[YE];exact f8 h1.1
 |recR a d e ts l=>
  refine⟨?_,fun _=> ?_⟩
  ·show cT (HE n ts).length 2=true
   rw[YE];exact f8 h1.1
  ·show(kd 1 (Fc 1 n (mV d) 3)).1<5
   rw[Xw hn (show d<5 from h2)];exact hn
theorem ajg{n:Nat}{rd:RD}(hn:1<n):(jy n rd).lvl=RM rd:=by
 cases rd with
 |alone l=>
  show PR 77 n=77
  unfold PR
  rw[show cT n 1=false from EG.mpr fun h=>absurd (av h) (yC.mpr hn)]
  rfl
 |_=>rfl
theorem ajf{n:Nat}{rd:RD}(hn:n<2):(jy n rd).lvl=1:=by
 cases rd with
 |alone l=>exact aob hn
 |_=>rfl
theorem Vw{n:Nat}{rd:RD}{m:Nat}(hn:n<5)(h:To rd)(hm:m=(jy n rd).lvl):Yd m (jy n rd).lvl (xz (jy n rd))=d4 (jy n rd):=by
 rw[hm];exact Vv (Vx hn h).ts8
theorem aof{s:Nat}(h:s<2){P:Nat->Prop}(h0:P 0)(h1:P 1):P s:=by
 cases s with
 |zero=>exact h0
 |succ s=>cases s with
  |zero=>exact h1
  |succ s=>exact absurd h (b6.mpr (ba (ba (aU _))))
theorem af7{x:DD}(h:ae8 x):jg (af6 x):=by
 obtain⟨f,w,l,k⟩:=x
 refine⟨fun y e=> ?_,fun r e=> ?_,fun r e=> ?_⟩
 ·cases f with
  |none=>exact nn e
  |one o rd s=>
   rw[<- aH e]
   have:fnI o<2:=by cases o<;>decide
   exact⟨Vx (eW this (by decide)) (h.f o rd s rfl).1,ajf this⟩
 ·cases w with
  |none=>exact nn e
  |one v rd=>
   rw[<- aH e]
   exact Vx (by cases v<;>decide) (h.w v rd rfl)
 ·have e:(bif CD k then none else some (jy 4 l))=some r:=e
  cases z:CD k with
  |true=>rw[z]at e;exact nn e
  |false=>
   rw[z]at e
   rw[<- aH e]
   exact Vx (by decide) h.l
theorem bit{s:Nat}(h:s<2):s=bif CD s then 0 else 1:=aof (P:=fun s=>s=bif CD s then 0 else 1) h rfl rfl
theorem ao6(b:Bool)(r:Rt):jj (bif b then none else some r)=bif b then[]else[d4 r]:=by cases b<;>rfl
theorem apE{x:DD}(h:ae8 x):drO (ddM x)=some (bG (af6 x),0,[]):=by
 obtain⟨f,w,l,k⟩:=x
 have hl:=Vw (n:=4) (by decide) h.l (ajg (n:=4) (by decide)).symm
 have hk:m2 2 k=m2 2 (bif CD k then 0 else 1):=congrArg (m2 2) (bit h.k)
 have hw: ∃a b c z w',wdM w=drW a b c z w'/\jj (dsW w)=X2 w' fun _=>[Yd a b c]:=by
  cases w with
  |none=>exact⟨0,0,[],[],none,rfl,rfl⟩
  |one v rd=>
   refine⟨RM rd,(jy (wnI v) rd).lvl,xz (jy (wnI v) rd),[.frz 0 (Jf rd) []],some v,by cases v<;>rfl,?_⟩
   show[d4 (jy (wnI v) rd)]=[Yd _ _ _]
   rw[Vw (by cases v<;>decide) (h.w v rd rfl) (ajg (by cases v<;>decide)).symm]
 have hf: ∃a b c z f',fdM f=drF a b c z f'/\RH ⟨ZD f,none,none⟩=(X2 f' fun x=>[d9 x.1])/\Pw ⟨ZD f,none,none⟩=(X2 f' fun _=>[.lst [Yd 1 b c]])/\fSo ⟨ZD f,none,none⟩=X2 f' fun x=>bif x.2 then[.str (d9 x.1)]else[]:=by
  cases f with
  |none=>exact⟨0,0,[],[],none,rfl,rfl,rfl,rfl⟩
  |one o rd s=>
   obtain⟨h1,h2⟩:=h.f o rd s rfl
   refine⟨RM rd,(jy (fnI o) rd).lvl,xz (jy (fnI o) rd),[.frz 0 (Jf rd) []],some (o,CD s),?_,rfl,?_,rfl⟩
   ·show _=[_,_,m2 2 (bif CD s then 0 else 1)]
    rw[<- bit h2]
    cases o<;>rfl
   ·show[AV.lst [d4 (jy (fnI o) rd)]]=[AV.lst [Yd 1 _ _]]
    rw[Vw (by cases o<;>decide) h1 (ajf (by cases o<;>decide)).symm]
 obtain⟨a',b',c',z',w',w1,w2⟩:=hw
 obtain⟨a,b,c,z,f',f1,f2,f3,f4⟩:=hf
 show drO (fdM f++(wdM w++[mY 4 (RM l) (jy 4 l).lvl (xz (jy 4 l)) [.frz 0 (Jf l) []],m2 2 k]))=some (Eh (jj (dsW w)) (jj (bif CD k then none else some (jy 4 l))) (RH ⟨ZD f,none,none⟩) (Pw ⟨ZD f,none,none⟩) (fSo ⟨ZD f,none,none⟩),0,[])
 rw[hk,f1,w1,w2,f2,f3,f4,ao6,<- hl]
 exact drX ..
noncomputable def bB(k:Nat):Nat:=10^(81+7*k)
noncomputable def UG:SM:=aV (cO [1] (bi (bU .Add) (bi (bU .Mult) (al 1) (a7 (.int (1000003)))) (bi (bU .Mod) (al 2) (bi (bU .Pow) (a7 (.int (10))) (a7 (.int (80))))))) bk
theorem aoI(σ:AS):bU .Pow (.int 10) (.int 80) σ=some (.int (am (10^80)),σ):=by kernel_rfl
theorem ait(σ:AS):bU .Pow (.int 10) (.int 60) σ=some (.int (am (10^60)),σ):=by kernel_rfl
theorem aoH(σ:AS):bU .Pow (.int 10) (.int 68) σ=some (.int (am (10^68)),σ):=by kernel_rfl
theorem anG(σ:AS):bU .FloorDiv (.int (am (10^68))) (.int 13) σ=some (.int (am (10^68 / 13)),σ):=by kernel_rfl
theorem anw{k:Nat}(h:k<=30):bB k<=2^4000:=au (iO (by decide) (dq (pN 7 h) 81)) (av (by kernel_rfl))
theorem Tv{n k:Nat}(h:n<=bB k)(hk:k<=30):my (am n)=true:=f8 (au h (anw hk))
theorem aj2:my 1000003=true:=by kernel_rfl
theorem apB{n k m:Nat}(h:n<=bB k)(hm:m<10^80):n*1000003+m<=bB (k+1):=by
 have e:bB (k+1)=bB k*10^7:=by
  show 10^(81+7*(k+1))=_
  rw[NZ,<- kB,Nat.pow_add];rfl
 have l:10^80<=bB k:=iO (by decide) (au (by decide) (cU 81 _))
 rw[e]
 generalize bB k=B at h l
 generalize 10^80=P at hm l
 omega
theorem aok{n k:Nat}(h:n<=bB k)(hk:k<=30)(σ:AS):bU .Mult (.int (am n)) (.int 1000003) σ=some (.int (am (n*1000003)),σ):=by
 show od (bif my (am n)&&my 1000003 then some (AV.int (am n*1000003))else none) (fun c=>some (c,σ)) _=_
 rw[Tv h hk,aj2];rfl
theorem aoj(c:Int): ∃m,m<10^80/\ ∀σ,bU .Mod (.int c) (.int (am (10^80))) σ=some (.int (am m),σ):=by
 have z:KB (am (10^80)) 0=false:=by kernel_rfl
 have p:(0:Int)<am (10^80):=hU.mpr (Nat.pow_pos (by decide))
 have a:=mW c p
 have b:=qT c p
 obtain⟨m,hm⟩:=uV a
 refine⟨m,?_,fun σ=> ?_⟩
 ·rw[hm]at b;exact hU.mp b
 ·show od (bif KB (am (10^80)) 0 then none else some (AV.int (c.fmod (am (10^80))))) (fun c=>some (c,σ)) _=_
  rw[z,hm];rfl
theorem acV{cs:List Int}: ∀{n k:Nat},n<=bB k->k+cs.length<=30-> ∃n',n'<=bB 30/\ ∀{fr:Fm} {σ:AS},gt fr 1= .int (am n)-> ∃fr',pD [2] UG (cs.map .int) fr σ=some (.next fr' σ)/\gt fr' 1= .int (am n'):=by
 induction cs with
 |nil=>
  intro n k hn hk
  exact⟨n,au hn (iO (by decide) (dq (pN 7 hk) 81)),fun{fr σ} h1=>⟨fr,rfl,h1⟩⟩
 |cons c cs ih=>
  intro n k hn hk
  have hk':k<=30:=au (cU _ _) hk
  obtain⟨m,hm,em⟩:=aoj c
  obtain⟨n',h3,h4⟩:=ih (n:=n*1000003+m) (k:=k+1) (apB hn hm) (by rw[kB,lx 1];exact hk)
  refine⟨n',h3,fun{fr σ} h1=> ?_⟩
  have g1:gt (put fr 2 (.int c)) 1= .int (am n):=(fJ rfl).trans h1
  have e1:UG (put fr 2 (.int c)) σ=some (.next (put (put fr 2 (.int c)) 1 (.int (am (n*1000003+m)))) σ):=by
   unfold UG
   simp only[df,fD,jD,be,g1,cW,lX,ae,aX,dW,aok hn hk',aoI,em,Nx,b4,dz,fE]
  obtain⟨fr',e2,h2⟩:=h4 (fr:=put (put fr 2 (.int c)) 1 (.int (am (n*1000003+m)))) (σ:=σ) cW
  refine⟨fr',?_,h2⟩
  rw[bd,Ez e1,e2]
noncomputable def afw:EM:=bq cX (aw (s7 (fi (bV .Gt) (al 1) (bi (bU .Pow) (a7 (.int (10))) (a7 (.int (60))))) (al 1) (bi (bU .Add) (bi (bU .Pow) (al 1) (a7 (.int (6)))) (bi (bU .FloorDiv) (bi (bU .Pow) (a7 (.int (10))) (a7 (.int (68)))) (a7 (.int (13)))))) aJ)
theorem afy{cs:List Int}(hl:cs.length<=99999): ∃b,∀σ,∃ai i,qY [.lst (cs.map .int)] σ=some (.ref i,ai)/\ai.get i=some (.lst [.int b]):=by
 have hL:dv (eR (cs.map AV.int))=true:=by
  rw[ig,aS];exact fQ (au hl (by decide))
 have hk:(cs.take 30).length <=30:=by rw[kb];exact Nat.min_le_left _ _
 obtain⟨n,hn,hloop⟩:=acV (cs:=cs.take 30) (n:=23) (k:=0) (au (show 23<=10^2 by decide) (iO (by decide) (by decide))) (by rw[hV];exact hk)
 have gt1: ∀σ,bV .Gt (.int (am n)) (.int (am (10^60))) σ=some (bt (10^60) n):=fun _=>rfl
 have p6: ∀σ,bU .Pow (.int (am n)) (.int 6) σ=some (.int (am n^6),σ):=fun σ=>by
  show od (bif (my (am n)&& !CJ 6 0)&&CJ 6 1000 then some (AV.int (am n^Int.toNat 6))else none) (fun c=>some (c,σ)) _=_
  rw[Tv hn (ax _)];rfl
 have ad: ∀a b σ,bU .Add (.int a) (.int b) σ=some (.int (a+b),σ):=fun _ _ _=>rfl
 have mk: ∀a σ,cX [a] σ=some (.ref σ.next,σ.alloc (.lst [a])):=fun _ _=>rfl
 have er: ∃b,∀fr',gt fr' 1= .int (am n)-> ∀gy,afw fr' gy=some (.ref gy.next,gy.alloc (.lst [.int b])):=by
  unfold afw
  cases z:bt (10^60) n with
  |true=>exact⟨am n,fun fr' h1 gy=>by simp only[ef,cq,ci,ww,fx,jD,be,dW,h1,lX,ae,af,aX,ait,gt1,z,b4,mk]⟩
  |false=>exact⟨am n^6+am (10^68 / 13),fun fr' h1 gy=>by simp only[ef,cq,ci,ww,fx,jD,be,dW,h1,lX,ae,aX,ait,gt1,z,b4,p6,aoH,anG,ad,mk]⟩
 obtain⟨b,er⟩:=er
 refine⟨b,fun σ=> ?_⟩
 have es:SH (al 0) (a7 .none) (a7 (.int (30))) [.lst (cs.map .int),.int 23] σ=some (.ref σ.next,σ.alloc (.lst ((cs.take 30).map .int))):=by
  show ob (some (cs.map AV.int)) (fun l=>bif dv (eR l)then ob (some 0) (fun x=>ob (some (DN 30 (eR l))) fun y=>some (AV.ref σ.next,σ.alloc (.lst (Pe l x y))))else none)=_
  rw[b4,hL,af,b4,b4,Pf,ig,aS]
  have:Kz (cs.map AV.int) 0 (DN 30 cs.length)=(cs.take 30).map AV.int:=by
   unfold Kz
   rw[lZ,N0,<- List.map_take]
   refine congrArg _ ?_
   rw[show DN 30 cs.length=min 30 cs.length from rfl,<- J0,List.take_of_length_le (ax cs.length)]
  rw[this]
 have ei:fy (σ.alloc (.lst ((cs.take 30).map .int))) (.ref σ.next)=some ((cs.take 30).map .int,(σ.alloc (.lst ((cs.take 30).map .int))).drop σ.next):=by
  show bw (ob ((σ.alloc (.lst ((cs.take 30).map .int))).get σ.next) _) _=_
  rw[b8]
  show(bif dv ((cs.take 30).map AV.int).length then some _ else none)=_
  rw[fQ (by rw[aS];exact au hk (by decide))];rfl
 generalize (σ.alloc (.lst ((cs.take 30).map .int))).drop σ.next=gy at ei
 obtain⟨fr',el,h1⟩:=hloop (fr:=[.lst (cs.map .int),.int 23]) (σ:=gy) rfl
 have er:=er fr' h1 gy
 refine⟨gy.alloc (.lst [.int b]),gy.next,?_,b8⟩
 have q:BS [.lst (cs.map .int)] σ=some (.ret (.ref gy.next) (gy.alloc (.lst [.int b]))):=by
  show ob (bw (SH (al 0) (a7 .none) (a7 (.int (30))) [.lst (cs.map .int),.int 23] σ) fun x ai=>bw (fy ai x) fun l ay=>pD [2] UG l [.lst (cs.map .int),.int 23] ay) (gP (aV (eD afw) bk))=_
  rw[es,aX,ei,aX,el,b4,dz]
  simp only[df,d7,er,aX,b4,dB]
 show ob (BS [.lst (cs.map .int)] σ) ik=_
 rw[q];rfl
theorem Zv(b:Int): ∃d,jg d/\ ∀{σ:AS} {x:Nat},σ.get x=some (.lst [.int b])-> ∃ai,mh [.ref x] σ=some (bG d,ai):=by
 have hd:=apE (abH b)
 have ok:=af7 (abH b)
 generalize af6 (Pj b)=d at hd ok
 refine⟨d,ok,fun{σ x} hx=> ?_⟩
 have hg:(σ.set x (.orc 0 (zk b))).get x=some (.orc 0 (zk b)):=ej hx
 have hb:mh [.ref x] σ=ue nU qz [.ref x] (σ.set x (.orc 0 (zk b))):=by
  show ob (σ.get x) _=_
  rw[hx];rfl
 refine⟨σ.set x (.orc 0 []),hb.trans ?_⟩
 refine fM hd fun a ay h1 hr=>FT hr fun k l' h0 hr=> ?_
 have hr:=aH hr
 cases hr
 have h1:qz [.ref 0] ⟨1,[(0,.orc 0 (zk b))]⟩=some (bG d,ay):=h1
 rw[Xq hg,h1,aX]
 show ob (ay.get 0) _=_
 rw[h0]
 show ob (uC _ (bG d)) _=_
 rw[uj (by have:=KQ (d:=d);exact aE (show(noRef (bG d)&&aN [])=true from this) fun h _=>h)]
 show some (bG d,AS.mk σ.next (ls x (.orc 0 []) (ls x (.orc 0 (zk b)) σ.cells)))=_
 rw[oy];rfl
noncomputable def Tu(l:List SM)(k:SM):SM:=l.foldr aV k
theorem ajm{l:List SM}{k:SM}: ∀{fr:Fm} {σ:AS},Tu l k fr σ=ob (Tu l bk fr σ) (gP k):=by
 induction l with
 |nil=>exact fun{fr σ}=>rfl
 |cons a l ih=>
  intro fr σ
  show ob (a fr σ) (gP (Tu l k))=ob (ob (a fr σ) (gP (Tu l bk))) (gP k)
  cases a fr σ with
  |none=>rfl
  |some o=>
   cases o with
   |next f s=>exact ih
   |ret x s=>rfl
   |brk x s=>rfl
   |cont x s=>rfl
noncomputable def am2:List SM:=[(cO [1,2,3] (bq fX (aw (bq vp aJ) (aw (bq oU (aw (a7 (.int (5))) (aw (a7 (.str [71])) aJ))) (aw (bq oU (aw (a7 (.int (10))) (aw (a7 (.str [76])) aJ))) aJ))))),
 (lR 16 (al 3) (a7 (.str [88]))),
 (kX (cF (fN gk) (un (aA 23) (al 2)) (aw (bq xg (aw (a7 (.str [79,78])) (aw (bq cX (aw (bq fX (aw (bq fX (aw (a7 (.str [116,101,120,116])) (aw (a7 (.bytes [121])) aJ))) (aw (a7 (.none)) aJ))) aJ)) aJ))) aJ))),
 (kX (cF yK (al 2) (aw (al 3) aJ))),
 (cO [4] (bq oU (aw (a7 (.int (1))) (aw (a7 (.str [82])) aJ)))),
 (kX (cF yK (al 4) (aw (al 2) aJ))),
 (lR 24 (al 1) (bq cX (aw (al 4) aJ))),
 (cO [5] (eJ [6] (bq ia (aw (al 1) aJ)) (fun _ σ=>some (true,σ)) (un (aA 1) (al 6))))]
noncomputable def acy:BM:=(fi (bV .NotEq) (al 5) (cF (ii kC) (a7 (.str [68,65,84,65,32,68,73,86,73,83,73,79,78,32,46,32,87,79,82,75,73,78,71,45,83,84,79,82,65,71,69,32,83,69,67,84,73,79,78,32,46,32,48,49,32,82,32,46,32,48,53,32,71,32,46,32,56,56,32,79,78,32,86,65,76,85,69,32,121,32,46,32,49,48,32,76,32,80,73,67,32,88,32,46])) (aw (a7 (.str [32])) aJ)))
noncomputable def mkD:EM:=bq vp aJ
noncomputable def acf{β:Type}(o:Option j5)(f:Fm->AS->Option β):Option β:=ob o fun o=>j5.rec (motive:=fun _=>Option β) (fun fr σ=>f fr σ) (fun _ _=>none) (fun _ _=>none) (fun _ _=>none) o
theorem aii{β:Type}{o:Option j5}{f:Fm->AS->Option β}{r:β}{P:Prop}(h:acf o f=some r)(k: ∀fr σ,o=some (.next fr σ)->f fr σ=some r->P):P:=by
 cases o with
 |none=>exact nn h
 |some o=>
  cases o with
  |next fr σ=>exact k fr σ rfl h
  |ret x s=>exact nn h
  |brk x s=>exact nn h
  |cont x s=>exact nn h
noncomputable def apO(L:aa):Option (Bool×AV×List AV):=acf (Tu am2 bk [.lst L] ⟨0,[]⟩) fun fr σ=>bw (acy fr σ) fun b ai=>bw (mkD fr ai) fun a fR=>some (b,gt fr 0,(pR (jF 14) [a] fR).1)
theorem adU(L:aa):apO L=some (false,.lst L,[bG ⟨none,none,none⟩]):=by kernel_rfl
noncomputable def ahP(lab:List AV->List AV):SM:=aV (r5 (RC acy (o8 (jd (bq (eE lab) (aw mkD aJ))))) (aV (fun _ _=>none) bk) bk) (aV (eD (bq (eE lab) (aw (bq mh (aw (bq qY (aw (al 0) aJ)) aJ)) aJ))) bk)
theorem ahQ(lab:List AV->List AV):Um lab=Tu am2 (ahP lab):=rfl
theorem alK(lab:List AV->List AV)(a:AV)(σ:AS):Y1 lab [a] σ=ob (Um lab [a] σ) ik:=rfl
theorem aeg(lab:List AV->List AV)(a:AV)(σ:AS):eE lab [a] σ=bg 1 [] (gn lab) (pR (jF 14) [a] σ).1 (pR (jF 14) [a] σ).2:=rfl
theorem ale:jg ⟨none,none,none⟩:=⟨fun _ e=>nn e,fun _ e=>nn e,fun _ e=>nn e⟩
theorem af9(d:DS):CF d (gG ⟨none,none,none⟩)=Pm ⟨none,none,none⟩:=adT d
theorem ahS{cs:List Int}(hl:cs.length<=99999): ∃d,jg d/\ ∃ai,Y1 (CF d) [.lst (cs.map .int)] ⟨0,[]⟩=some (.bool true,ai):=by
 obtain⟨b,hb⟩:=afy hl
 obtain⟨d,ok,hd⟩:=Zv b
 refine⟨d,ok,?_⟩
 refine aii (adU (cs.map .int)) fun fr σ e8 h=>fM h fun t ai ew h=>fM h fun a fR ed h=> ?_
 have h:=aH h
 have h1:t=false:=congrArg (·.1) h
 have h2:gt fr 0= .lst (cs.map .int):=congrArg (·.2.1) h
 have h3:(pR (jF 14) [a] fR).1=[bG ⟨none,none,none⟩]:=congrArg (·.2.2) h
 clear h
 obtain⟨qu,e3⟩:=L1 ale (af9 d) (pR (jF 14) [a] fR).2
 have e3:eE (CF d) [a] fR=some (.bool true,qu):=by
  rw[aeg,h3];exact e3
 obtain⟨σ4,i,e4,g4⟩:=hb qu
 obtain⟨VW,e5⟩:=hd g4
 obtain⟨YL,e6⟩:=aab ok (ahN d) VW
 refine⟨YL,?_⟩
 have hu:bQ (.lst (cs.map .int))=false:=rfl
 have eT:ahP (CF d) fr σ=some (.ret (.bool true) YL):=by
  rw[h1]at ew
  unfold ahP
  simp only[df,jY,GZ,ew,aX,ae,qH,lV,ef,cq,ed,ci,e3,iM,b4,et,fE,dz,d7,be,h2,hu,e4,e5,e6,dB]
 have eQ:Um (CF d) [.lst (cs.map .int)] ⟨0,[]⟩=some (.ret (.bool true) YL):=by
  rw[ahQ,ajm,e8,b4,dz,eT]
 rw[alK,eQ];rfl
abbrev PW:fT:=J2
noncomputable def IA:List co:=behindTheImports PW
noncomputable def xF:Env:={scope:=PW.main.scope,locals:=mainNs,globals:=mainNs,cells:=[],code:=.ref 13,frame:=some 14}
noncomputable def anB:Obj:={cls:=.type "code",data:=.fields #[.str "<module>" 182,.str "<module>" 183,.str "/claim/cut.py" 184,.int 1 0,.int 0 0,.int 0 0,.int 0 0,.int 0 0,.ref 11,.bool false,.int 181 0,.ref 12,.none,.none,.none,.none,.int 185 0,.int 1 0,.str "/claim/cut.py" 186]}
noncomputable def anZ:Obj:={cls:=.type "frame",slots:= #[some (.ref 13),some (.ref 3),some (.ref 3),none,some (.str "__main__" 164),none,some (.ref 0)]}
noncomputable def tr4(P:Params):BT:=((((((((((((((BT.nil.ins 0 (boot_o_0 P)).ins 1 (boot_o_1 P)).ins 2 (boot_o_2 P)).ins 3 (boot_o_3 P)).ins 4 (boot_o_4 P)).ins 5 (boot_o_5 P)).ins 6 (boot_o_6 P)).ins 7 (boot_o_7 P)).ins 8 (boot_o_8 P)).ins 9 (boot_o_9 P)).ins 10 (boot_o_10 P)).ins 11 (tupObj0)).ins 12 {cls:=.none,data:=.fields #[]}).ins 13 anB).ins 14 anZ
where tupObj0:Obj:={cls:=.type "tuple",data:=.seq #[]}
noncomputable def sT4(w:dH)(os:kJ):n8:=⟨tr4 w.params,15,{},#[],{},187,os⟩
abbrev ps0:Pos:=⟨0,0,0,0⟩
abbrev psE:Pos:=⟨927,0,938,53⟩
abbrev B0:List Frame:=[topFrame ps0]
theorem al3(w:dH)(os:kJ):topGo treeTable PW w 11 (some (.ref 6)) 12 ⟨jq w.params,pV [],sP,vi,os⟩ (topStub PW)=some ((sT4 w os).abs,⟨denote treeTable (.body IA xF),.body IA xF,ps0,B0⟩):=by
 rw[DZ,cE,DR]
 kernel_rfl
theorem acY(w:dH)(os:kJ):segRun treeTable PW w 11 (some (.ref 6)) 1 1 (sT4 w os).abs (blockOf IA xF (.body IA xF) ps0 B0)=some (.next,(sT4 w os).abs,.body IA xF,ps0):=by
 rw[DX,cE]
 kernel_rfl
theorem ali(w:dH)(s:az):topRun treeTable PW w 11 (some (.ref 6)) 2 s ⟨doneF .next,.body IA xF,psE,B0⟩=some s:=by
 rw[DW,cE]
 kernel_rfl
theorem aik: ∀w:dH,(fencedOpening treeTable PW w 10000).map (fun s=>(s.heap,s.gens,s.drawn,s.toks))=some (jq w.params,pV [],sP,vi):=
 boot_open (by kernel_rfl) (by decide) (fun s=>by kernel_rfl)
theorem ajZ(w:dH):((jq w.params).isNs mainGlobals&&(pV []:Array yz).size ==0,(jq w.params).objs.size,(jq w.params).nsMap mainGlobals "__annotations__")=(true,11,some (.ref 6)):=by
 kernel_rfl
noncomputable def loose0:List Str:=PW.boundNames.filter fun x=> !(x==("law":Str))
noncomputable def q0:fT:=view PW [149]
noncomputable def ah1:List Str:=importedModules PW.main.body
noncomputable def NQ(w:dH)(s:az):Bool:=staticsOk ah1 (jq w.params) s.heap&&namesBound PW s.heap&&gensDone s&&laidKept (jq w.params) s.heap
noncomputable def lkF(a:aC)(l:List (aC×Obj)):Option Obj:=bo (motive:=fun _=>Option Obj) none (fun p _ ih=>Bool.rec (motive:=fun _=>Option Obj) ih (some p.2) (aj a p.1)) l
theorem NJ: @qw aC Obj instBEqOfDecidableEq=lkF:=funext fun a=>funext fun l=>by
 induction l with
 |nil=>rfl
 |cons p l ih=>
  obtain⟨b,o⟩:=p
  refine yy (cz ..) ?_
  rw[ih]
  show(match a==b with|true=>some o|false=>lkF a l)=Bool.rec (motive:=fun _=>Option Obj) (lkF a l) (some o) (aj a b)
  rw[show(a==b)=aj a b from by rw[oA,beq_iff_eq,Nat.beq_eq]]
  cases aj a b<;>rfl
noncomputable def thr:Thread:=piecesOf IA xF (.body IA xF) ps0 B0
noncomputable def Xt0(s:az):Bool:=true
noncomputable def Dz(w:dH)(os:kJ):Option (JY×n8×Code×Pos):=segRunT treeTable PW w 11 (some (.ref 6)) 1 7241 (sT4 w os) thr
noncomputable def XU(w:dH)(x:JY×n8×Code×Pos):=(x.1,x.2.2.1,x.2.2.2,NQ w x.2.1.abs,openSeen q0 loose0 ah1 Xt0 true x.2.1.abs,abr (KF Zc x.2.1))
noncomputable def XV(x:JY×n8×Code×Pos):=(abt (KF Zc x.2.1)&&cT 1 x.2.1.toks,kY (KF Zc x.2.1))
theorem aml(w:dH)(os:kJ):(Dz (w.withFollow "special-get-raises" false) os).map (XU (w.withFollow "special-get-raises" false))=some (.next,.body IA xF,psE,true,openGood q0 loose0,true):=by
 unfold Dz thr piecesOf XU NQ staticsOk namesBound laidKept abr UY ZK UT codeIn Fd Vj nsIn iQ keepIn lO
 rw[fm,cE,ft,mL,bp,NJ]
 kernel_rfl
theorem amn(w:dH)(os:kJ):(Dz (w.withFollow "special-get-raises" false) os).map XV=some (true,kYa (w.withFollow "special-get-raises" false)):=by
 unfold Dz thr piecesOf XV abt UY ZK UT codeIn Fd Vj nsIn iQ keepIn Zs mrB grB Zg I8 yZ lO
 rw[fm,cE,ft,bp,NJ]
 kernel_rfl
theorem amm(w:dH)(os:kJ):(Dz (w.withFollow "special-get-raises" true) os).map (XU (w.withFollow "special-get-raises" true))=some (.next,.body IA xF,psE,true,openGood q0 loose0,true):=by
 unfold Dz thr piecesOf XU NQ staticsOk namesBound laidKept abr UY ZK UT codeIn Fd Vj nsIn iQ keepIn lO
 rw[fm,cE,ft,mL,bp,NJ]
 kernel_rfl
theorem amo(w:dH)(os:kJ):(Dz (w.withFollow "special-get-raises" true) os).map XV=some (true,kYa (w.withFollow "special-get-raises" true)):=by
 unfold Dz thr piecesOf XV abt UY ZK UT codeIn Fd Vj nsIn iQ keepIn Zs mrB grB Zg I8 yZ lO
 rw[fm,cE,ft,bp,NJ]
 kernel_rfl
noncomputable def U4(c:Nat):Bool:=yY.any fun r=>aj r.c c
noncomputable def fnm(i:Nat):Str:=(Ah FN i).getD ""
def Zq(k:Nat)(l:aa)(c:bF):Prop:=(k=1021/\lJ mac l c)\/(k=0/\afV bx VB l c)
theorem ag4: ∀i j,i<FN.length->j<FN.length->fnm i=fnm j->i=j:=by
 have h:(cu FN.length).all (fun i=>(cu FN.length).all fun j=>aj i j|| !(fnm i==fnm j))=true:=by kernel_rfl
 intro i j hi hj e
 have h1:=bT.mp (bT.mp h i (pY.mpr hi)) j (pY.mpr hj)
 rcases kM.mp h1 with q|q
 ·exact aD q
 ·rw[e,beq_self_eq_true]at q;exact absurd q (by decide)
theorem al4{L:aa}{m:Nat}(h:aN L=true):Ef (cR L m)=true:=by
 show(noRef (.lst L)&&(true&&(true&&(true&&true))))=true
 rw[show noRef (.lst L)=aN L from rfl,h];rfl
theorem W5: ∀k l c,Zq k l c->Ef c=true:=fun k l c h=>by
 rcases h with⟨_,_,pre,_,h1,h2,rfl⟩|⟨_,_,b,rfl,_⟩
 ·exact al4 (by rw[bW,h1,h2];rfl)
 ·rfl
theorem W6: ∀k l c,Zq k l c->U4 k=true-> ∃ks vs,c= .inst k ks vs:=fun k l c h hc=>by
 rcases h with⟨rfl,_,pre,_,_,_,rfl⟩|⟨rfl,_⟩
 ·exact⟨_,_,rfl⟩
 ·exact absurd hc (by decide)
theorem ac1{K:dQ}(h:yY.all (Zs K)=true): ∀c k,U4 c=true->k<FN.length->Sv c k=false->yZ K c (fnm k)=true:=fun c k hc hk hb=>by
 obtain⟨r,hr,e⟩:=j9.mp hc
 obtain rfl:=aD e
 refine aE (bT.mp h r hr) fun _ h=>aE h fun _ h=>aE h fun _ h=>aE h fun _ h=>aE h fun _ h=> ?_
 have:=bT.mp h k (pY.mpr hk)
 rw[hb]at this
 exact this
structure Ob(K:dQ):Prop where
 ok:Za K=true
 gf:gfB K=true
 sys:(K.lookup sysModules).isSome=true
theorem Ob.of{K:dQ}(h:Sx K=true):Ob K:=by
 refine aE h fun h1 h=>aE h fun h2 h=>aE h fun h3 h=>aE h fun h4 h=>aE h fun h5 h=>aE h fun h6 h=>aE h fun h7 h=>aE h fun h8 h=>aE h fun h9 h=>aE h fun h10 h=>aE h fun h11 h=>aE h fun h12 _=>⟨?_,h11,h12⟩
 have:t5.all (UY K)=true:=by
  rw[<- jR 56 t5,kZ]
  exact bu.mpr ⟨h1,h2⟩
 unfold Za
 rw[this,h3,h4,h5,h6,h7,h8,h9,h10];rfl
theorem Ob.n{K:dQ}(h:Sx K=true):Fd K "USAGE_NAMES" (.ref 503)=true/\Fd K "USAGE_WORDS" (.ref 711)=true:=
 aE h fun _ h=>aE h fun _ h=>aE h fun _ h=>aE h fun _ h=>aE h fun _ h=>aE h fun _ h=>aE h fun _ h=>aE h fun _ h=>aE h fun _ h=>aE h fun _ h=>aE h fun _ h=>aE h fun _ h=>aE h hH
theorem Ob.cr{K:dQ}(h:Ob K):yY.all (Zs K)=true:=aE h.ok fun _ h=>aE h fun h _=>h
section
variable{w:dH}{h:bJ}{K:dQ}{p:fT}{loose:List Str}{mean:ExcName->Option ah}{mg mb:Str->Option ah}
noncomputable def X5(prog:fT)(w:dH)(T:Top p loose mean mg mb h)(X:K.In h)(ck:Ob K):PC where
 prog:=prog
 w:=w
 K:=K
 fname:=fnm
 pc:=h
 mg:=mg
 mb:=mb
 g:=T.g
 b:=T.b
 nolimit:=T.nolimit
 boot:=T.builtins
 inK:=X
 sys:=(eX.mp ck.sys).imp fun o e=>X _ _ e
 cls:=U4
 nf:=FN.length
 attr:=ac1 ck.cr
 conc:=Zq
 concFree:=W5
 concInst:=W6
 fnameInj:=ag4
theorem al1{prog:fT}{T:Top p loose mean mg mb h}{X:K.In h}{ck:Ob K}:qe (X5 prog w T X ck) mac bx VB where
 mac0:=rfl
 rdr:=fun l c=>⟨fun h=>h.elim (fun h=>h.2) fun h=>absurd h.1 (by decide),fun h=>.inl ⟨rfl,h⟩⟩
 bx2:=fun m d vs=>rfl
 bag:=fun l c=>⟨fun h=>h.elim (fun h=>absurd h.1 (by decide)) fun h=>h.2,fun h=>.inr ⟨rfl,h⟩⟩
theorem ald{C:PC}{o:Obj}{ws:List (Str×Str×Nat)}(ho:o={cls:=.type "dict",data:=.dict (ws.map fun x=>t7 C.w x.1 x.2.1 x.2.2).toArray ws.length})(hn:(ws.map (·.1)).Nodup):
  o.IsDictOf (strKind C.prog C.w) (ws.map fun x=>(x.1,gg x.2.1 (x.2.2+1))):=by
 subst ho
 refine⟨_,_,⟨rfl,rfl,rfl⟩,rfl,fun e he=> ?_,?_,by rw[gF];exact hn⟩
 ·rw[tA]at he
  obtain⟨x,_,rfl⟩:=dy.mp he
  exact⟨x.1,tE _ _ _ _,rfl⟩
 ·show Pairs _ (ws.map fun x=>t7 C.w x.1 x.2.1 x.2.2) _
  clear hn
  induction ws with
  |nil=>exact .nil
  |cons x ws ih=>exact .cons (tE _ _ _ _) rfl ih
theorem dcV{C:PC}{W:Wd}(hW:ImK C W){a:aC}{o:Obj}(hl:C.K.lookup a=some o)(ha:(a==sysModules)=false){ws:List (Str×Str×Nat)}(ho:o={cls:=.type "dict",data:=.dict (ws.map fun x=>t7 C.w x.1 x.2.1 x.2.2).toArray ws.length})(hn:(ws.map (·.1)).Nodup)
  {ks ss:List (List Nat)}(hk:ws.map (·.1)=ks.map aP)(hv:ws.map (·.2.1)=ss.map aP):V C W (.dct ks (ss.map .str)) (.ref a):=by
 have hl1:ks.length=ws.length:=by
  have:=congrArg mZ hk
  rwa[aS,aS,eq_comm]at this
 refine⟨a,o,ws.map fun x=>gg x.2.1 (x.2.2+1),rfl,ha,hW _ _ hl,?_,by rw[aS];exact hl1,?_⟩
 ·clear ho hn hk hl1 hl
  induction ws generalizing ss with
  |nil=>
   cases ss with
   |nil=>rfl
   |cons s ss=>exact absurd hv (fun h=>by cases h)
  |cons x ws ih=>
   cases ss with
   |nil=>exact absurd hv (fun h=>by cases h)
   |cons s ss=>
    have h:=List.cons.inj (show x.2.1::ws.map (·.2.1)=aP s::ss.map aP from hv)
    exact⟨_,_,rfl,⟨_,congrArg (fun s=>gg s (x.2.2+1)) h.1⟩,ih h.2⟩
 ·have:=ald (C:=C) ho hn
  rw[<- hk,List.zip_map']
  exact this
structure abg(w:dH)(K:dQ):Prop where
 ck:Ob K
 un:K.lookup 503=some (unO w)
 uw:K.lookup 711=some (uwO w)
 rs:nsIn K 3 "RESERVED"=some (some (.str FY 1445))
 le:UI K 65=some leB
 n1:Fd K "USAGE_NAMES" (.ref 503)=true
 n2:Fd K "USAGE_WORDS" (.ref 711)=true
theorem abg.of{w:dH}{K:dQ}(h:Sx K=true)(e:kY K=kYa w):abg w K:=by
 obtain⟨e1,e⟩:=cN e
 obtain⟨e2,e⟩:=cN e
 obtain⟨e3,e4⟩:=cN e
 exact⟨Ob.of h,e1,e2,e3,e4,Ob.n h |>.1,Ob.n h |>.2⟩
noncomputable def IZ(a:AV):List Nat:=match a with
 | .str l=>l
 |_=>[]
theorem aoE{s:String}{cs:List Char}(h:s=String.ofList cs):lA s=aP (cs.map Char.toNat):=by
 rw[h,Str.ofString_eq_toList,String.toList_ofList];rfl
theorem Vr:FY=aP (IZ lC):=(aoE (cs:=(IZ lC).map Char.ofNat) (by kernel_rfl)).trans (by kernel_rfl)
theorem al0{w:dH}{h:bJ}{K:dQ}{p:fT}{loose:List Str}{mean:ExcName->Option ah}{mg mb:Str->Option ah}{prog:fT}(T:Top p loose mean mg mb h)(X:K.In h)(F:abg w K):rA (X5 prog w T X F.ck) where
 ok:=F.ck.ok
 nf:=rfl
 fn:=fun i x e=>by show(Ah FN i).getD ""=x;rw[e];rfl
 cls:=fun r hr=>j9.mpr ⟨r,hr,NY _⟩
 name:=fun l c h=>h.elim (fun h=>by obtain⟨_,_,pre,_,_,_,rfl⟩:=h;exact⟨_,rfl⟩) fun h=>absurd h.1 (by decide)
 gf:=adB F.ck.gf fun o fd ho hd=>by
  have h:=F.le
  unfold UI at h
  rw[show K.lookup 65=some o from ho,nN,hd]at h
  revert h
  show(match fd.body with| .stmts b=>some b|_=>none)=some leB->_
  cases fd.body with
  |stmts b=>exact fun h=>congrArg _ (aH h)
  |_=>exact fun h=>nn h
 un:=lT (I6 (C:=X5 prog w T X F.ck) F.n1) fun W hW=>dcV hW F.un rfl (ws:=[("display","DISPLAY",925),("binary","BINARY",927),("packed","PACKED-DECIMAL",929),("index","INDEX",931)]) rfl (by decide +kernel)
  (ks:=[[100,105,115,112,108,97,121],[98,105,110,97,114,121],[112,97,99,107,101,100],[105,110,100,101,120]]) (ss:=[[68,73,83,80,76,65,89],[66,73,78,65,82,89],[80,65,67,75,69,68,45,68,69,67,73,77,65,76],[73,78,68,69,88]]) (by kernel_rfl) (by kernel_rfl)
 uw:=lT (I6 (C:=X5 prog w T X F.ck) F.n2) fun W hW=>dcV hW F.uw rfl (ws:=[("DISPLAY","display",1250),("COMP","binary",1252),("COMPUTATIONAL","binary",1254),("BINARY","binary",1256),("PACKED-DECIMAL","packed",1258),("COMP-3","packed",1260),("COMPUTATIONAL-3","packed",1262),("INDEX","index",1264)]) rfl (by decide +kernel)
  (ks:=[[68,73,83,80,76,65,89],[67,79,77,80],[67,79,77,80,85,84,65,84,73,79,78,65,76],[66,73,78,65,82,89],[80,65,67,75,69,68,45,68,69,67,73,77,65,76],[67,79,77,80,45,51],[67,79,77,80,85,84,65,84,73,79,78,65,76,45,51],[73,78,68,69,88]]) (ss:=[[100,105,115,112,108,97,121],[98,105,110,97,114,121],[98,105,110,97,114,121],[98,105,110,97,114,121],[112,97,99,107,101,100],[112,97,99,107,101,100],[112,97,99,107,101,100],[105,110,100,101,120]]) (by kernel_rfl) (by kernel_rfl)
 rs:=lT (aie (C:=X5 prog w T X F.ck) F.rs) fun W hW=>⟨1445,congrArg (fun s=>gg s 1445) Vr⟩
end
abbrev RW:OpenLaw:=b9
noncomputable def Yf0(s:az):=(Sx (zc Zc s.heap)&&cT 1 s.toks,kY (zc Zc s.heap))
noncomputable def Ya0(w:dH):=(true,kYa w)
theorem ad5{args:List WData}(h:RW.row.toRowW.claim.pre args=true): ∃cs:List Int,args=[.list (cs.map .int)]/\cs.length<=63:=by
 obtain⟨h1,h2⟩:=pre_splitW h
 obtain⟨d,r,rfl,h3,h4⟩:=hasAllW_cons (R:=RW.row.records) (e:=.list .int) (es:=[]) h1
 obtain rfl:=hasAllW_nil h4
 obtain⟨xs,rfl,h5⟩:=hasW_list h3
 obtain⟨cs,rfl⟩:=items_int h5
 refine⟨cs,rfl,?_⟩
 have h2:(match(match(match(match(some (Bl ((cs.map Bl).length:Nat)))with|some y=>((less? (.int 63) y).map yF)|_=>none)with|some (.bool b)=>some (yF (!b))|_=>none)with
  |some (.bool false)=>some (yF false)
  |some (.bool true)=>some (.bool true)
  |_=>none)with|some (.bool true)=>true|_=>false)=true:=h2
 have h6:less? (.int 63) (.int ((cs.map Bl).length:Nat))=some (decide ((63:Int)<((cs.map Bl).length:Nat))):=rfl
 rw[aS]at h6 h2
 cases z:decide ((63:Int)<(cs.length:Nat))with
 |true=>
  rw[z]at h6
  simp only[h6]at h2
  exact absurd h2 (by decide)
 |false=>exact Nat.le_of_not_lt fun q=>of_decide_eq_false z (hU.mpr q)
theorem aa2{P:Params}{h:bJ}{C:PC}{W:Wd}: ∀{cs:List Int} {vs:List ah},WellAll P h vs (cs.map .int)->VL C W (cs.map .int) vs:=by
 intro cs
 induction cs with
 |nil=>intro vs h;cases h;rfl
 |cons c cs ih=>
  intro vs h
  cases h with
  |cons h1 h2=>cases h1 with
   |int i t=>exact⟨_,_,rfl,⟨_,rfl⟩,ih h2⟩
theorem ais{a b:List WData}:RW.row.toRowW.claim.post a (.bool true) b=true:=by
 have h:same (.bool true) (.bool true)=true:=by kernel_rfl
 show(WShape.has RW.row.records (.bool true) .bool&&(match some (yF (same (.bool true) (.bool true)))with|some (.bool true)=>true|_=>false))=true
 rw[h];rfl
theorem amj:eI callerA 23:=⟨rfl,by decide,by decide⟩
theorem ahR{C:PC}(O:rA C)(R:qe C mac bx VB){s:az}(hb: ∀b o,C.pc.get? b=some o->s.heap.get? b=some o)(tk:1<=s.toks){x:aC}{vs:List ah}{cs:List Int}(hx:s.heap.get? x=some (dw vs 0))(hw: ∀W,VL C W (cs.map .int) vs)(hlen:cs.length<=63):
  wpAny (dC C) callerA (T3 (.ref 1082) [.ref x]) (fun v s'=>v= .bool true/\Sm s s'/\ ∀b o,s.heap.get? b=some o->s'.heap.get? b=some o) dp s:=by
 obtain⟨ds,ok,ai,e⟩:=ahS (cs:=cs) (au hlen (by decide))
 have hv:V C ⟨fun _=>none,s.heap.get?,fun _=>none⟩ (.lst (cs.map .int)) (.ref x):=⟨x,0,vs,rfl,hx,hw _⟩
 refine eo (ans (lab:=CF ds) ⟨O,apU R,R⟩ (ahO ok) callerA amj ⟨fun _=>none,s.heap.get?,fun _=>none⟩ ⟨0,[]⟩ s [.lst (cs.map .int)] [.ref x] ⟨hb,fun _ _ e=>e,fun _ _ e=>nn e,fun _ _ e=>nn e,fun _ _=>rfl,fun _ _ e=>nn e,fun _ _ _ _ _ _ e=>nn e⟩ (VL.one hv) tk _ _ e) fun v s' P=> ?_
 obtain⟨h1,W',l,R',hq⟩:=P
 exact⟨hq,h1,fun b o e=>R'.im _ _ (l.2.1 b o e)⟩
theorem law_walk{d:DefRec}{kwd:List (Str×PySem.Expr)}(hn:d.name="law"):WalkX q0 loose0 (fun _ _=>True) Yf0 Ya0 RW.row.toRowW d kwd fun f vs=>T3 f vs:=by
 intro w nq bn mg mb G Y a o pm cd doc dV kV ho hdt hcd hD hmg hgens args vals as L hpre hlay hrd hwl hlo
 have X:Frag.In (zc Zc nq.heap) bn.heap:=fun b o e=>L.keeps _ _ (ag6 _ _ b o e)
 have y:=bu.mp (cN Y).1
 have F:=abg.of y.1 (cN Y).2
 have tk:1<=bn.toks:=by
  obtain⟨ord,_,e⟩:=L.laid
  exact au (av y.2) (layAllW_grows _ _ _ e).toks
 have O:=al0 (w:=w) (prog:=RW.row.prog) G.T X F
 have R:=al1 (w:=w) (prog:=RW.row.prog) (T:=G.T) (X:=X) (ck:=F.ck)
 have ha:a=1082:=by
  have e:mg "law"=some (.ref 1082):=O.frE (i:=110) (r:=aaC) rfl fun _ _ h=>h "law" rfl
  rw[hn,e]at hmg
  cases hmg;rfl
 subst ha
 obtain⟨cs,rfl,hlen⟩:=ad5 hpre
 obtain⟨v,x,vs,rfl,rfl,hx,hvs⟩: ∃v x vs,vals=[v]/\v= .ref x/\bn.heap.get? x=some (dw vs 0)/\WellAll w.params bn.heap vs (cs.map .int):=by
  cases hwl with
  |cons h1 h2=>
   cases h2
   cases h1 with
   |list h3 h4=>exact⟨_,_,_,rfl,rfl,h3,h4⟩
 refine KP (eo (ahR O R (fun _ _ e=>e) tk hx (fun _=>aa2 hvs) hlen) fun v s' P=> ?_)
 obtain⟨rfl,⟨h',t',rfl,_⟩,hk⟩:=P
 exact⟨.inl ⟨_,.bool true,[],rfl,fun _=>rfl,.bool true,ais,fun _=>⟨l0,fun a ha=>absurd ha bc⟩⟩,OldK.of_keep hk,rfl,AllBare.of_eq hgens⟩
theorem akx{w:dH}{os:kJ}{x:JY×n8×Code×Pos}(h:Dz w os=some x)(h1:x.1= .next)(h2:x.2.2.1= .body IA xF)(h3:x.2.2.2=psE):
  topRun treeTable PW w 11 (some (.ref 6)) 10000 ⟨jq w.params,pV [],sP,vi,os⟩ (topStub PW)=some x.2.1.abs:=by
 obtain⟨f,s,c,q⟩:=x
 obtain rfl:f= .next:=h1
 obtain rfl:c= .body IA xF:=h2
 obtain rfl:q=psE:=h3
 have k1:=ali w s.abs
 have k2:=piece_app (l:=IA) (rest:=[]) (segRun_of h) (piece_nil k1)
 rw[aR]at k2
 have k3:=piece_block (acY w os) k2
 have k4:=go_top (al3 w os) k3
 have k5:=topRun_mono 2744 _ _ _ _ k4
 have e:12+(1+(7241+2))+2744=10000:=by decide
 rw[e]at k5
 exact k5
theorem Xy(w:dH)(hA: ∀os,(Dz w os).map (XU w)=some (.next,.body IA xF,psE,true,openGood q0 loose0,true))(hB: ∀os,(Dz w os).map XV=some (true,kYa w)):
  (openEnds treeTable PW w 10000).map (fun s=>(openSeen q0 loose0 (importedModules PW.main.body) Xt0 true s,Yf0 s))=some (openGood q0 loose0,Ya0 w):=by
 obtain⟨⟨h,gs,d,k,os⟩,e,e'⟩:=g9.mp (aik w)
 obtain⟨e1,e'⟩:=cN e'
 obtain⟨e2,e'⟩:=cN e'
 obtain⟨e3,e4⟩:=cN e'
 have e1:h=jq w.params:=e1
 have e2:gs=pV []:=e2
 have e3:d=sP:=e3
 have e4:k=vi:=e4
 subst e1 e2 e3 e4
 obtain⟨x,hx,a⟩:=g9.mp (hA os)
 obtain⟨a1,a⟩:=cN a
 obtain⟨a2,a⟩:=cN a
 obtain⟨a3,a⟩:=cN a
 obtain⟨a4,a⟩:=cN a
 obtain⟨a5,a6⟩:=cN a
 have b:=hB os
 rw[hx]at b
 obtain⟨b1,b2⟩:=cN (aH b)
 obtain⟨b1,b3⟩:=bu.mp b1
 obtain⟨z1,z'⟩:=cN (ajZ w)
 obtain⟨z2,z3⟩:=cN z'
 have t:topFrom treeTable PW w 10000 ⟨jq w.params,pV [],sP,vi,os⟩=some x.2.1.abs:=by
  unfold topFrom
  dsimp only
  rw[z1,z2,z3,akx hx a1 a2 a3]
  show(match NQ w x.2.1.abs with|true=>some x.2.1.abs|false=>none)=_
  rw[a4]
 unfold openEnds
 rw[e,nN,t]
 have y:Yf0 x.2.1.abs=Ya0 w:=by
  unfold Yf0 Ya0
  rw[ZL,b2]
  refine congrArg (fun b=>(b,kYa w)) ?_
  show(Sx (KF Zc x.2.1)&&cT 1 x.2.1.toks)=true
  unfold Sx
  rw[a6,b1,b3];rfl
 exact congrArg some (N2 a5 y)
theorem left:LeftO PW q0 loose0 Xt0 Yf0 Ya0 10000:=fun w=>by
 have e:=World.withFollow_self w "special-get-raises"
 cases hb:w.params.followText "special-get-raises" with
 |false=>
  rw[hb]at e
  exact Xy w (fun os=>by have:=aml w os;rwa[e]at this) (fun os=>by have:=amn w os;rwa[e]at this)
 |true=>
  rw[hb]at e
  exact Xy w (fun os=>by have:=amm w os;rwa[e]at this) (fun os=>by have:=amo w os;rwa[e]at this)
theorem aak{lk:Look}{s:co}{r:List co}: ∀{n:Nat} {l:List co},l.drop n=s::r->noRoadLSs lk (l.take n)=true->noRoadLS lk s=true->noRoadLSs lk r=true->noRoadLSs lk l=true:=by
 intro n
 induction n with
 |zero=>
  intro l h _ h2 h3
  rw[lZ]at h
  rw[h]
  exact Bm h2 h3
 |succ n ih=>
  intro l h h1 h2 h3
  cases l with
  |nil=>cases h
  |cons a l=>
   obtain⟨a1,a2⟩:=bu.mp (show(noRoadLS lk a&&noRoadLSs lk (l.take n))=true from h1)
   exact Bm a1 (ih (l:=l) h a2 h2 h3)
theorem O0{α:Type}{l:List α}{p:α->Bool}:l.toArray.any p=l.any p:=tw
noncomputable def U9:Look:={strict:= !(importedModules b9.row.prog.main.body).all cThrough.contains,foot:=none,bare:=(["vars","dir","locals"]:List Str).filter (readsOut b9.row.prog b9.row.prog.main.body)}
theorem aeh:roadStr FY=false:=by
 rw[Vr]
 show(((IZ lC).toArray.any fun c=>c==123||c==125)||((IZ lC).toArray.any (· ==46)&& !(IZ lC).toArray.any (· <=32)))=false
 rw[O0,O0,O0]
 kernel_rfl
theorem akn{lk:Look}(h:lk.word FY=true):lk.str FY=true:=by
 unfold Look.str
 rw[h,aeh,Bool.or_true];rfl
theorem ae7:U9.word FY=true:=by
 rw[Vr]
 kernel_rfl
theorem amz:noRoadLS U9 (.Assign [.Name "RESERVED" ⟨722,0,722,8⟩] (.Constant (.str FY) 0 ⟨722,11,722,1873⟩) ⟨722,0,722,1873⟩)=true:=by
 show(U9.stores [.Name "RESERVED" ⟨722,0,722,8⟩]&&noRoadLs U9 [.Name "RESERVED" ⟨722,0,722,8⟩]&&U9.str FY)=true
 refine Bm ?_ (akn ae7)
 kernel_rfl
theorem amg:noRoadLSs U9 (b9.row.prog.main.body.take 136)=true:=by
 unfold U9
 rw[iJ,cA,mM,aI,bI,bp,l7,yE,l5]
 kernel_rfl
theorem amh:noRoadLSs U9 (b9.row.prog.main.body.drop 137)=true:=by
 unfold U9
 rw[iJ,cA,mM,aI,bI,bp,l7,yE,l5]
 kernel_rfl
theorem ami:b9.row.prog.main.body.drop 136= .Assign [.Name "RESERVED" ⟨722,0,722,8⟩] (.Constant (.str FY) 0 ⟨722,11,722,1873⟩) ⟨722,0,722,1873⟩::b9.row.prog.main.body.drop 137:=by kernel_rfl
theorem said:b9.wellSaid=true:=by
 unfold OpenLaw.wellSaid OpenRow.wellSaid OpenRow.partSaid looksOpen
 repeat' with_reducible refine Bm ?_ ?_
 ·rw[DQ,aI]
  kernel_rfl
 ·rw[E1,aI,DU]
  kernel_rfl
 ·rw[EY,aI]
  kernel_rfl
 ·rw[cA,fw,aI,bI,bp,DY]
  kernel_rfl
 ·exact aak ami amg amz amh
 ·rw[fu,aI,D8]
  kernel_rfl
 ·rw[aI]
  kernel_rfl
 ·rw[aI]
  kernel_rfl
 ·rw[aI,cA,E0]
  kernel_rfl
 ·rw[cA,aI,bI,bp,fw,T1,ES]
  kernel_rfl
 ·rw[YP,aI,bp]
  kernel_rfl
 ·rw[cA,aI,EV,n7,bI,bp,fw]
  kernel_rfl
 ·rw[DV,aI]
  kernel_rfl
 ·rw[iH,aI]
  kernel_rfl
 ·rw[iH,aI]
  kernel_rfl
 ·rw[cA,aI,iH]
  kernel_rfl
 ·rw[cA,aI,EU,YO,ET]
  kernel_rfl
 ·rw[cA,aI]
  kernel_rfl
 ·rw[aI]
  kernel_rfl
 ·rw[bI,bp,fw,aI]
  kernel_rfl
 ·rw[bI,bp,DT,aI]
  kernel_rfl
 ·kernel_rfl
 ·rw[cA,DP]
  kernel_rfl
 ·rw[EX]
  kernel_rfl
 ·kernel_rfl
 ·kernel_rfl
 ·rw[iJ,na,mN]
  kernel_rfl
 ·rw[EZ]
  kernel_rfl
 ·rw[D0]
  kernel_rfl
 ·rw[cA,bp]
  kernel_rfl
 ·rw[cA,na,n7,bp,iI]
  kernel_rfl
 ·rw[cA,l6,l4,iI]
  kernel_rfl
 ·rw[cA,l6,l4,iI,Fj,bp]
  kernel_rfl
 ·rw[fu,bI,bp,mN]
  kernel_rfl
 ·rw[bI,bp,fq]
  kernel_rfl
 ·rw[EW,bp,fq]
  kernel_rfl
 ·rw[cA,fq,n7]
  kernel_rfl
 ·rw[fu,bI,bp,fq]
  kernel_rfl
 ·rw[fu,bp]
  kernel_rfl
theorem def_ok:(defOf q0 RW.row.name).map (fun x=>(x.1.name,kwWritten? x.1.params.kwonlyargs x.1.params.kw_defaults,x.2,RW.row.prog.theDef RW.row.name))=(defOf q0 RW.row.name).map (fun x=>(("law":Str),some x.2,x.2,some (x.1.params,x.1.body,x.1.scope))):=by kernel_rfl
theorem def_some:(defOf q0 RW.row.name).isSome=true:=by kernel_rfl
theorem ok_ok:(chainsOk q0&&opensWell RW.row.prog&&(frees RW.row.toRowW&&RW.row.within.isEmpty))=true:=by decide +kernel
theorem bare_ok:RW.row.prog.bare:=⟨rfl,rfl,rfl,rfl,rfl,by decide +kernel⟩
theorem prom_ok:RW.row.toRowW.promised:=⟨[.list []],by decide +kernel,by decide +kernel⟩
end Mine
set_option maxHeartbeats 4000000 in
theorem PySem.Challenge.cw_pq0651_01_holds : PySem.Challenge.rw_pq0651_01.Holds := by
 obtain⟨⟨d,kwd⟩,hdef⟩:=eX.mp Mine.def_some
 have h:=Mine.def_ok
 rw[hdef]at h
 have h:=aH h
 obtain⟨h1,h⟩:=cN h
 obtain⟨h2,h⟩:=cN h
 obtain⟨_,h3⟩:=cN h
 exact holds_law Mine.said fun k1=>holds_openX (q:=Mine.q0) (loose:=Mine.loose0) (Xt:=Mine.Xt0) (XP:=fun _ _=>True) (Yf:=Mine.Yf0) (Ya:=Mine.Ya0) (N:=10000) Mine.left (fun _ _=>trivial) (fun _ _ _ _ _=>trivial) hdef h3 h2 (fun _ _=>recFacts_nil rfl) rfl k1 Mine.ok_ok Mine.bare_ok Mine.prom_ok (Mine.law_walk h1)
