import PyProof.Rows.All
import Wide.All
import OpenK.AllK
import Wide.FinOn
import Open.Tops
import KE.KBytesWalk
import PyProof.CompFree
import KE.KPop
import KE.KListMore
import KE.KIntText
import KE.BytesMake
import PyProof.CollectIter
import PyProof.JoinWalk
import PyProof.Rows.StrNews
import KE.IntTextLaws
import PyProof.Rows.SortStr
import PyProof.Rows.SortWalk
import PyProof.StrCalls6
import Lean
import PySem.Challenge.RW_pq0651_01
set_option Elab.async false
set_option maxRecDepth 100000
set_option linter.all false
set_option genInjectivity false
set_option genSizeOf false
set_option compiler.extract_closed false
open And renaming intro->g8
open Array renaming any_toList->Ga,mk->pP,toList->NJ
open Bool renaming and_eq_true->cD,and_eq_true_iff->br,and_self->rl,and_true->Mp,eq_false_iff->EB,eq_iff_iff->uY,not_eq_true'->dX,not_false->fi,not_true->eo,or_eq_false_iff->ou,or_eq_true->ow,or_eq_true_iff->kI
open Eq renaming trans->Gc
open False renaming elim->TC
open ForInStep renaming yield->gy
open Int renaming add_sub_cancel->Ba,eq_ofNat_of_zero_le->uQ,fmod_lt_of_pos->qN,fmod_nonneg_of_pos->mR,lt_of_le_of_lt->Bb,lt_of_lt_of_le->Bc,natCast_nonneg->de,negSucc->qp,negSucc_lt_zero->pG,not_lt->sF,ofNat->am,ofNat_le->NL,ofNat_lt->hH,toNat_of_nonneg->AY
open Int.negSucc renaming inj->aaW
open List renaming all_append->kR,all_cons->rm,all_eq_false->r6,all_eq_true->bR,any_cons->rn,any_eq_false->EE,any_eq_true->j7,any_toArray->tq,append_assoc->aB,append_nil->aR,append_toArray->AZ,cons_append->eR,contains_iff_mem->wP,drop->Bd,dropLast_eq_take->wQ,drop_drop->pR,drop_eq_nil_iff->oz,drop_eq_nil_of_le->gY,drop_zero->lT,filter->QT,filterMap_cons->kK,find?_cons->oA,flatMap_append->kL,flatMap_cons->aY,flatMap_nil->bA,flatten_cons->mD,foldl->TE,foldl_cons->HF,forIn_cons->gA,getElem?_append_right->kv,getElem?_drop->qO,getElem?_eq_getElem->eS,getElem?_eq_none->nX,getElem?_eq_some_iff->cL,getElem?_map->jG,getElem?_toArray->jN,getElem?_zip_eq_some->sG,getElem_mem->Gf,getLast?_eq_getElem?->sH,isEmpty_cons->EF,isEmpty_iff->ej,isEmpty_nil->Gg,length->mT,length_append->ao,length_cons->bK,length_drop->gU,length_eq_zero_iff->mx,length_filterMap_le->tr,length_map->aS,length_nil->HG,length_range->EG,length_take->j8,lookup->wf,lookup_cons->cO,lookup_cons_self->fX,map->NN,map_append->bj,map_congr_left->fP,map_cons->bc,map_id'->tt,map_inj_left->iD,map_map->gB,map_nil->jO,mem_append->cM,mem_cons->aH,mem_cons_of_mem->aQ,mem_cons_self->ba,mem_filterMap->lp,mem_map->dy,mem_of_getElem?->a7,mem_range->pS,mem_range'_1->EH,mem_singleton->aO,mem_toArray->tu,nil_append->u9,nodup_cons->dL,nodup_nil->lU,not_mem_nil->bb,of_mem_zip->HH,pairwise_cons->jm,pairwise_singleton->uR,push_toArray->EI,range->ct,range'->iM,range'_succ->tv,rec->bq,rel_of_pairwise_cons->kU,replicate->bD,replicate_succ->kM,reverse_cons->EJ,size_toArray->aZ,take_append_drop->jP,take_succ_cons->A0,take_take->JS,zip_cons_cons->bJ
open List.Perm renaming eq_of_pairwise->NM
open List.cons renaming injEq->u6
open Nat renaming add_assoc->ky,add_comm->lq,add_le_add->aK,add_le_add_left->dq,add_sub_cancel'->A1,add_sub_cancel_left->my,beq->aj,beq_refl->NO,ble->cP,ble_eq_true_of_le->fY,blt->bp,blt_eq->cX,eq_of_beq_eq_true->aD,exists_eq_add_of_le->je,le_add_left->jn,le_add_right->cQ,le_antisymm->vb,le_of_ble_eq_true->av,le_of_eq->eu,le_of_lt->iW,le_of_lt_succ->EK,le_of_succ_le->EL,le_of_succ_le_succ->mU,le_refl->ax,le_succ->cJ,le_succ_of_le->mG,le_trans->au,le_zero->QU,log2_lt->Fc,lt_add_of_pos_right->uS,lt_irrefl->zB,lt_of_add_lt_add_left->sI,lt_of_le_of_lt->eU,lt_of_lt_of_le->eV,lt_of_succ_lt_succ->mV,lt_or_ge->oB,lt_succ_of_lt->cG,lt_succ_self->bL,min->DI,min_eq_left->HK,min_le_right->Gi,mul_le_mul_left->pH,mul_succ->NP,ne_of_gt->oF,ne_of_lt->ci,noConfusion->dM,not_le->yz,not_lt->b5,not_lt_zero->ik,pow_le_pow_right->iL,pow_lt_pow_right->yA,rec->gV,sub_le->TF,sub_self->Be,sub_zero->NQ,succ->nG,succ_le_succ->a9,succ_ne_zero->j9,succ_sub->NR,succ_sub_succ_eq_sub->tw,zero_add->hJ,zero_le->aU,zero_lt_succ->gW
open Nat.succ renaming inj->jQ
open Ne renaming symm->tf
open Option renaming bind_some->nJ,getD_none->tx,getD_some->nK,isNone_iff_eq_none->dA,isSome_iff_exists->eW,map_eq_some_iff->gZ,none_or->JT,rec->bm
open Option.some renaming inj->aG,injEq->YA
open Prod renaming ext->NS,rec->NT
open Prod.mk renaming inj->cY
open PyProof.Rows renaming Assign_Tuple_swapped->yv,Compare_chain->Mq,add_int->TG,add_str->TH,assign_Name->lr,floordiv_int->Nh,ge_int->VH,getItem_str->NU,gt_int->VI,in_str->VJ,join_list->QW,join_tuple->QS,le_int->VK,len_str->TI,len_tuple->QX,lt_int->VM,mod_int->TJ,mul_int->TK,neg_int->TL,notIn_str->QY,not_of->VN,pow_int->TM,sub_int->TN,truthy_none->NV,truthy_tuple->Ni,StrsAre->RQ,isTrue_chain->NZ,slot_str_getitem->Gk
open PySem renaming Addr->aC,Around->bW,BindsTo->RO,ClassData->Lg,CmpOp->gP,Comprehension->dK,Data->A8,DictEntry->g9,Expr->an,Flow->Ge,FuncBody->NK,FuncData->gz,GenState->yw,Heap->bH,Keyword->td,Model->kW,NameKind->fW,Operator->iu,OsState->ji,Program->fQ,BoolOp->cz,call->TP,strKind->rq,strKind_is->tz,wpAt_bind->HM,wpAt_of_wpAny->A3,Result->tA,Scope->dS,Shared->az,Stmt->cn,UnaryOp->RS,Value->ah,World->dD,builtinLookup_eq_fast->wW,call_list_seq->Ms,call_meets->l4,codeAny_builtin->HN,codeAny_call_builtin->oG,codeAny_loop->NX,codeAny_mono->NY,codeAny_of_tree->HO,evalPairs_cons->JX,intKind_is->HT,pastItsLine_dict->Gj,plainId_quiet->Mt,plainObj_wpAny_Assign_Attribute->jc,refuseLoop_ref->JY,sizeLine_eq->jy,slot_dict_getitem->EX,slot_list_getitem->EY,slot_list_setitem->EZ,typeIs_str->l5,typeLookup_type->HU,wpAny_Constant_int->qQ,wpAny_Expr_any->JZ,wpAny_askSetting->Gl,wpAny_assignInOrder_more->eX,wpAny_assignInOrder_none->tF,wpAny_bind->aq,wpAny_bindName->l6,wpAny_call->oH,wpAny_comprehension_free->tG,wpAny_execs_cons->nL,wpAny_execs_nil->oJ,wpAny_getItem_of->Gm,wpAny_holding->dF,wpAny_isSubtype_exc->kO,wpAny_list_append_plain->uT,wpAny_loadPart->pU,wpAny_loadPart_at->gF,wpAny_lookBehind->Gn,wpAny_madeBy_exc->Go,wpAny_mono->jp,wpAny_newObj_type->gG,wpAny_pure->aL,wpAny_pyIter_dict->E0,wpAny_rule->HV,wpAny_specialOf->HX,wpAny_standAt->du,wpAny_truthy_bool->fD,wpAny_typeOf->N0,wpAny_unpackItems_tuple->uU
open PySem.Around renaming under_plainId->yu
open PySem.AutoListH renaming list___mul___list_int_3->Fb
open PySem.AutoSeq1 renaming list_extend_list_list_0->A2
open PySem.BoolOp renaming And->YD,Or->aaX
open PySem.Builtin.BaseException renaming bexcPut->JQ
open PySem.Builtin.Int renaming intBits->kJ
open PySem.Builtin.List renaming listExtendWith->qH,listFitsIndex->ku,listLengthHint->Lc,listSameRef->tm,listSubscript?->Ld,listTooLong->iU
open PySem.Builtin.Range renaming rangeFitsLong->Le,rangeSize->mw,small->AW
open PySem.Builtin.Str renaming glued->Yz,occurrences->QR,strSliceIndices->qI,strKind->gm
open PySem.Calls renaming Constant_str->oy,Name_function_global->yy,call_len_list->Nj,spliced_cons->Bj
open PySem.Challenge renaming pw_pq0651_01->JU,rw_pq0651_01->b8
open PySem.Code renaming builtin->tn,quiet_builtin->A7
open PySem.DictEntry renaming refKey->Gb
open PySem.Expr.Attribute renaming elim->pE
open PySem.Expr.BinOp renaming elim->uZ
open PySem.Expr.BoolOp renaming elim->tp
open PySem.Expr.Call renaming elim->wL
open PySem.Expr.Compare renaming elim->rY
open PySem.Expr.Constant renaming elim->qJ
open PySem.Expr.Dict renaming elim->wM
open PySem.Expr.IfExp renaming elim->u2
open PySem.Expr.List renaming elim->wN
open PySem.Expr.ListComp renaming elim->qK
open PySem.Expr.Name renaming elim->wO
open PySem.Expr.Slice renaming elim->u4
open PySem.Expr.Subscript renaming elim->pF
open PySem.Expr.Tuple renaming elim->jk
open PySem.Expr.UnaryOp renaming elim->rZ
open PySem.F renaming args_str_split_2->qL,entry_str_split->r0,plainAttrs_list->r5,plain_list_iadd->EC,slot_int_rmul->HE,slot_str_join->u5,slot_str_replace->qM,slot_str_split->nF,type_str_replace->A9,excBase_Exception->gn
open PySem.Heap renaming MadeExcOf->JR,SameBut->iV,dictOf_iff->jl,get?_none_of_le->yx,get?_push_at->ED,get?_push_of_some->bz,get?_push_size->bg,get?_update_ne->AX,get?_update_self->jM,lt_size->co,size_push->pQ
open PySem.Heap.SameBut renaming update->jb
open PySem.IsL renaming update->YE
open PySem.MeetsSeq renaming list_pop_last->JV
open PySem.NameKind renaming cell->et,free->dr
open PySem.Obj renaming mapSeq->HL,putName->QV
open PySem.Pairs renaming nil->VO
open PySem.PyData renaming keyHash->pT
open PySem.ScopeKind renaming function->ls
open PySem.Sem.pure renaming elim->zC
open PySem.Stmt.Assign renaming elim->tB
open PySem.Stmt.Continue renaming elim->qP
open PySem.Stmt.Expr renaming elim->wR
open PySem.Stmt.For renaming elim->zD
open PySem.Stmt.If renaming elim->Bf
open PySem.Stmt.Return renaming elim->tC
open PySem.Stmt.While renaming elim->vc
open PySem.Str renaming append->TQ,empty->VP,length->TR,ofString->lu
open PySem.StrLaws renaming occBody->d4,occ_eq->wS,subAt_eq->tD
open PySem.Txt renaming join->NW,replace->QZ,split->Lh
open PySem.Value renaming int->Bg,isStr->qq,noConfusion->r7,ref->nZ,str->fZ
open PySem.Value.int renaming elim->wT
open PySem.Value.ref renaming elim->wU
open PySem.Value.str renaming elim->wV
open PySem.W renaming Frag->dQ,Looks->HJ,SharedT->l0,boot_drawn->sJ,boot_heap->jo,boot_toks->vd,callWith_of->Fe,look_both->Bi,looks_clsIn->wg,looks_findIn->tE,plainGet_of->qr,set_plain->Li
open PySem.W.Fast renaming named_eq->nY,sDec_eq->bM,te10110043849684766642->dj,te10501279942588096481->DJ,te10792542408131684335->fj,te11788848310118352699->DK,te11892475500146522536->DL,te12563942051412417395->dk,te12749700546528644094->DM,te12862048085361865435->DN,te12879404354523853263->lV,te13343964577679436407->lX,te13582783067957832011->DP,te14082659384304107361->DQ,te14364793385576792824->bP,te14374325043358763698->DR,te14412699480532031325->DT,te15667345088766844465->DU,te16286561074155671207->DV,te17095254045102204799->lY,te17119622794617984870->fm,te17691160309236699985->lZ,te17868728402115742887->DW,te18344453789297297638->fq,te2357444279172408678->EN,te2368527892694137696->aI,te3471404346716756564->bG,te4187177175401517315->mH,te4274047373036748609->EO,te4579403493507170074->EP,te482687673346738481->Fd,te4857012375875476094->EQ,te5318747976498570220->iE,te5923862056798008813->mI,te6984425678791042302->iG,te7723801398212525404->ER,te797321630700447069->mW,te8179353310426384613->ES,te8326940854005059898->iH,te8377067652309620493->ET,te9558739934217749035->EU,te9572597257264208301->mJ,te9706382859710513879->EV,te9807087744658564304->EW
open PySem.W.KIN renaming call_text->RP
open PySem.W.Looks renaming of_pure->rp
open PySem.W.R renaming allR_eq->cv,anyR_eq->YB,filterR_eq->yB,mapR_eq->YC
open PySem.W.S renaming strDecS_eq->TO
open PySem.W.WData renaming bool->yC,int->Bh
open PySem.Walks renaming dictKeys->JW
open PySem.Within renaming cons->Q1,nil->TT
open UInt8 renaming ofNat->Q0
open PySem PySem.W PySem.Calls PyProof.Rows
namespace Mine
abbrev ac:=List Nat
theorem ae.{u}{α:Sort u}{a b:α}:cond false a b=b:=rfl
theorem af.{u}{α:Sort u}{a b:α}:cond true a b=a:=rfl
theorem ag{p:Prop}[Decidable p](h:decide p=true):p:=of_decide_eq_true h
theorem nn{α:Type}{P:Prop}{r:α}(h:none=some r):P:=Option.noConfusion rfl (heq_of_eq h)
theorem ff{P:Prop}(h:false=true):P:=Bool.noConfusion h
theorem s2{α β:Type}{P:α->β->Prop}{a c:α}{b d:β}(e:some (a,b)=some (c,d))(h:P a b):P c d:=by
 cases e;exact h
theorem s1{α:Type}{P:α->Prop}{a c:α}(e:some a=some c)(h:P a):P c:=by
 cases e;exact h
theorem bS{α:Type}{c:Bool}{x:Option α}{r:α}(h:(bif c then x else none)=some r):c=true/\x=some r:=by
 cases c with
 |true=>exact⟨rfl,h⟩
 |false=>cases h
theorem bN{α:Type}{c:Bool}{x:Option α}{r:α}(h:(bif c then none else x)=some r):c=false/\x=some r:=by
 cases c with
 |false=>exact⟨rfl,h⟩
 |true=>cases h
theorem kS{α:Type}{c:Bool}{x:Option α}{r:α}{P:Prop}(h:(bif c then x else none)=some r)(k:c=true->x=some r->P):P:=k (bS h).1 (bS h).2
theorem kN{α:Type}{c:Bool}{x:Option α}{r:α}{P:Prop}(h:(bif c then none else x)=some r)(k:c=false->x=some r->P):P:=k (bN h).1 (bN h).2
section
variable{P:Prop}
theorem aps{Fa:Sort _}{B0:(x0:Fa)->Prop}(h: ∃x0:Fa,B0 x0)(k:(x0:Fa)->B0 x0->P):P:=by obtain⟨x0,h0⟩:=h;exact k x0 h0
theorem apt{Fa:Sort _}{B0:(x0:Fa)->Prop}{B1:(x0:Fa)->Prop}(h: ∃x0:Fa,B0 x0/\B1 x0)(k:(x0:Fa)->B0 x0->B1 x0->P):P:=by obtain⟨x0,h0,h1⟩:=h;exact k x0 h0 h1
theorem apu{Fa:Sort _}{α1:(x0:Fa)->Sort _}{B0:(x0:Fa)->(x1:α1 x0)->Prop}{B1:(x0:Fa)->(x1:α1 x0)->Prop}{B2:(x0:Fa)->(x1:α1 x0)->Prop}{B3:(x0:Fa)->(x1:α1 x0)->Prop}(h: ∃x0:Fa,∃x1:α1 x0,B0 x0 x1/\B1 x0 x1/\B2 x0 x1/\B3 x0 x1)(k:(x0:Fa)->(x1:α1 x0)->B0 x0 x1->B1 x0 x1->B2 x0 x1->B3 x0 x1->P):P:=by obtain⟨x0,x1,h0,h1,h2,h3⟩:=h;exact k x0 x1 h0 h1 h2 h3
end
inductive AV where
 |unb
 |none
 |opq
 |bool(b:Bool)
 |int(i:Int)
 |str(s:List Nat)
 |bytes(s:List UInt8)
 |tup(l:List AV)
 |lst(l:List AV)
 |frz(c:Nat)(ks:List Nat)(vs:List AV)
 |dct(ks:List (List Nat))(vs:List AV)
 |dcti(ks:List Int)(vs:List AV)
 |rng(a b:Nat)
 |ref(a:Nat)
 |glob(v:ah)
 deriving Inhabited
abbrev aa:=List AV
inductive bF where
 |lst(l:List AV)
 |inst(c:Nat)(ks:List Nat)(vs:List AV)
 |dct(ks:List (List Nat))(vs:List AV)
 |orc(k:Nat)(l:List AV)
 deriving Inhabited
mutual
noncomputable def noRef:AV->Bool
 | .ref _=>false
 | .tup l=>aN l
 | .lst l=>aN l
 | .frz _ _ l=>aN l
 | .dct _ l=>aN l
 | .dcti _ l=>aN l
 |_=>true
noncomputable def aN:List AV->Bool
 |[]=>true
 |a::l=>noRef a&&aN l
end
noncomputable def Ea:bF->Bool
 | .lst l=>aN l
 | .inst _ _ l=>aN l
 | .dct _ l=>aN l
 | .orc _ _=>false
noncomputable def Iq(K:dQ)(C:aC)(name:Str):Bool:=plainGet K C name&&hasDictIn K C&&(match findIn K (.ref C) name with
 |some attr=>noGet K attr
 |none=>false)&&findIn K (.ref C) "__setattr__" ==some (some (.builtin "object.__setattr__"))&&plainOver K C&&takerIn K C name==some none
noncomputable def Sh(c k:Nat):Bool:=aj c 1021&&aj k 18
structure PC where
 prog:fQ
 w:dD
 K:dQ
 fname:Nat->Str
 o4:bH
 mg:Str->Option ah
 mb:Str->Option ah
 g:o4.Ns mainGlobals mg
 b:o4.Ns builtinsNs mb
 nolimit:o4.NoLimit
 boot: ∀x:Str,x≠ "__name__" ->mb x=bootBuiltins x
 inK:K.In o4
 sys: ∃o,o4.get? sysModules=some o
 cls:Nat->Bool
 nf:Nat
 attr: ∀c k,cls c=true->k<nf->Sh c k=false->Iq K c (fname k)=true
 conc:Nat->List AV->bF->Prop
 concFree: ∀k l c,conc k l c->Ea c=true
 concInst: ∀k l c,conc k l c->cls k=true-> ∃ks vs,c= .inst k ks vs
 fnameInj: ∀i j,i<nf->j<nf->fname i=fname j->i=j
structure Wd where
 ρ:Nat->Option (aC×aC)
 im:aC->Option Obj
 pr:aC->Option Obj
noncomputable def aP(s:ac):Str:=⟨s.toArray⟩
abbrev tb(vs:List ah)(n:Nat):Obj:={cls:=.type "tuple",data:=.seq vs.toArray n}
abbrev dw(vs:List ah)(n:Nat):Obj:={cls:=.type "list",data:=.seq vs.toArray n}
def oM(C:PC):List Nat->List ah->List g9->Prop
 |k::ks,v::vs,e::es=>k<C.nf/\(∃t,e.key= .str (C.fname k) t)/\e.val=v/\oM C ks vs es
 |[],[],[]=>True
 |_,_,_=>False
def DY(C:PC)(ks:List (List Nat))(vs:List ah)(o:Obj):Prop:=ks.length=vs.length/\o.IsDictOf (strKind C.prog C.w) ((ks.map aP).zip vs)
def aa2(C:PC)(ks:List Int)(vs:List ah)(o:Obj):Prop:=ks.length=vs.length/\o.IsDictOf (intKind C.prog C.w) (ks.zip vs)
mutual
def V(C:PC)(W:Wd):AV->ah->Prop
 | .unb,_=>False
 | .none,v=>v= .none
 | .opq,_=>True
 | .bool b,v=>v= .bool b
 | .int i,v=> ∃t,v= .int i t
 | .str s,v=> ∃t,v= .str (aP s) t
 | .bytes s,v=> ∃t,v= .bytes s.toArray t
 | .tup l,v=> ∃x n vs,v= .ref x/\W.im x=some (tb vs n)/\VL C W l vs
 | .lst l,v=> ∃x n vs,v= .ref x/\W.im x=some (dw vs n)/\VL C W l vs
 | .frz c ks fs,v=> ∃x d es n vs,v= .ref x/\C.cls c=true/\W.im x=some (instObj c d)/\W.im d=some (dictOf es n)/\VL C W fs vs/\oM C ks vs es
 | .dct ks fs,v=> ∃x o vs,v= .ref x/\(x==sysModules)=false/\W.im x=some o/\VL C W fs vs/\DY C ks vs o
 | .dcti ks fs,v=> ∃x o vs,v= .ref x/\(x==sysModules)=false/\W.im x=some o/\VL C W fs vs/\aa2 C ks vs o
 | .rng a b,v=> ∃x t u w,v= .ref x/\W.im x=some {cls:=.type "range",dict:=none,data:=.fields #[.int a t,.int b u,.int 1 w],slots:= #[]}/\a<2^20/\b<2^20
 | .ref a,v=> ∃p,W.ρ a=some p/\v= .ref p.1
 | .glob a,v=>v=a
def VL(C:PC)(W:Wd):List AV->List ah->Prop
 |[],vs=>vs=[]
 |a::l,vs=> ∃v r,vs=v::r/\V C W a v/\VL C W l r
end
def Wd.le0(W W':Wd):Prop:=(∀a p,W.ρ a=some p->W'.ρ a=some p)/\(∀x o,W.im x=some o->W'.im x=some o)
def Wd.le(W W':Wd):Prop:=(∀a p,W.ρ a=some p->W'.ρ a=some p)/\(∀x o,W.im x=some o->W'.im x=some o)/\W'.pr=W.pr
theorem Wd.le.refl(W:Wd):W.le W:=⟨fun _ _ e=>e,fun _ _ e=>e,rfl⟩
theorem Wd.le.trans{W W' W'':Wd}(h:W.le W')(h':W'.le W''):W.le W'':=
 ⟨fun a p e=>h'.1 _ _ (h.1 a p e),fun x o q=>h'.2.1 x o (h.2.1 x o q),h'.2.2.trans h.2.2⟩
mutual
theorem V.mono0{C:PC}{W W':Wd}(h:W.le0 W'): ∀{a:AV} {v:ah},V C W a v->V C W' a v
 | .unb,_,x=>x
 | .none,_,x=>x
 | .opq,_,x=>x
 | .bool _,_,x=>x
 | .int _,_,x=>x
 | .str _,_,x=>x
 | .bytes _,_,x=>x
 | .tup _,_,y=>by obtain⟨x,n,vs,e,q,r⟩:=y;exact⟨x,n,vs,e,h.2 _ _ q,r.mono0 h⟩
 | .lst _,_,y=>by obtain⟨x,n,vs,e,q,r⟩:=y;exact⟨x,n,vs,e,h.2 _ _ q,r.mono0 h⟩
 | .frz _ _ _,_,y=>by obtain⟨x,d,es,n,vs,e,q0,q1,q2,r,z⟩:=y;exact⟨x,d,es,n,vs,e,q0,h.2 _ _ q1,h.2 _ _ q2,r.mono0 h,z⟩
 | .dct _ _,_,y=>by obtain⟨x,o,vs,e,q0,q1,r,z⟩:=y;exact⟨x,o,vs,e,q0,h.2 _ _ q1,r.mono0 h,z⟩
 | .dcti _ _,_,y=>by obtain⟨x,o,vs,e,q0,q1,r,z⟩:=y;exact⟨x,o,vs,e,q0,h.2 _ _ q1,r.mono0 h,z⟩
 | .rng _ _,_,y=>by obtain⟨x,t,u,w,e,q,z⟩:=y;exact⟨x,t,u,w,e,h.2 _ _ q,z⟩
 | .ref _,_,y=>by obtain⟨p,e,q⟩:=y;exact⟨p,h.1 _ _ e,q⟩
 | .glob _,_,x=>x
theorem VL.mono0{C:PC}{W W':Wd}(h:W.le0 W'): ∀{l:aa} {vs:List ah},VL C W l vs->VL C W' l vs
 |[],_,x=>x
 |_::_,_,⟨v,r,e,q,z⟩=>⟨v,r,e,q.mono0 h,z.mono0 h⟩
end
theorem Wd.le.to0{W W':Wd}(h:W.le W'):W.le0 W':=⟨h.1,h.2.1⟩
theorem V.mono{C:PC}{W W':Wd}(h:W.le W'){a:AV}{v:ah}(x:V C W a v):V C W' a v:=x.mono0 h.to0
theorem VL.mono{C:PC}{W W':Wd}(h:W.le W'){l:aa}{vs:List ah}(x:VL C W l vs):VL C W' l vs:=x.mono0 h.to0
theorem VL.length{C:PC}{W:Wd}: ∀{l:aa} {vs:List ah},VL C W l vs->vs.length=l.length
 |[],_,e=>by rw[show _=[] from e];rfl
 |_::_,_,⟨_,_,e,_,z⟩=>by rw[e,bK,bK,z.length]
theorem VL.get{C:PC}{W:Wd}: ∀{l:aa} {vs:List ah} {i:Nat} {a:AV},VL C W l vs->l[i]? =some a-> ∃v,vs[i]? =some v/\V C W a v
 |_::_,_,0,_,⟨v,r,e,q,_⟩,h=>by cases h;subst e;exact⟨v,rfl,q⟩
 |_::_,_,i+1,_,⟨v,r,e,_,z⟩,h=>by
  subst e
  exact z.get (i:=i) h
theorem VL.append{C:PC}{W:Wd}: ∀{l l':aa} {vs vs':List ah},VL C W l vs->VL C W l' vs'->VL C W (l++l') (vs++vs')
 |[],_,_,_,e,h=>by rw[show _=[] from e];exact h
 |_::_,_,_,_,⟨v,r,e,q,z⟩,h=>by subst e;exact⟨v,_,rfl,q,z.append h⟩
theorem VL.nil{C:PC}{W:Wd}:VL C W [] []:=rfl
theorem VL.cons{C:PC}{W:Wd}{a:AV}{v:ah}{l:aa}{vs:List ah}(h:V C W a v)(r:VL C W l vs):VL C W (a::l) (v::vs):=⟨v,vs,rfl,h,r⟩
theorem VL.one{C:PC}{W:Wd}{a:AV}{v:ah}(h:V C W a v):VL C W [a] [v]:=⟨v,[],rfl,h,rfl⟩
theorem VL.set{C:PC}{W:Wd}: ∀{l:aa} {vs:List ah} {i:Nat} {a:AV} {v:ah},VL C W l vs->V C W a v->VL C W (l.set i a) (vs.set i v)
 |[],_,_,_,_,e,_=>by rw[show _=[] from e];rfl
 |_::_,_,0,_,_,⟨v,r,e,q,z⟩,h=>by subst e;exact⟨_,_,rfl,h,z⟩
 |_::_,_,i+1,_,_,⟨v,r,e,q,z⟩,h=>by subst e;exact⟨_,_,rfl,q,z.set (i:=i) h⟩
theorem VL.take{C:PC}{W:Wd}: ∀{l:aa} {vs:List ah} (i:Nat),VL C W l vs->VL C W (l.take i) (vs.take i)
 |[],_,i,e=>by rw[show _=[] from e];simp;exact VL.nil
 |_::_,_,0,_=>VL.nil
 |_::_,_,i+1,⟨v,r,e,q,z⟩=>by subst e;exact⟨_,_,rfl,q,z.take i⟩
theorem VL.drop{C:PC}{W:Wd}: ∀{l:aa} {vs:List ah} (i:Nat),VL C W l vs->VL C W (l.drop i) (vs.drop i)
 |[],_,i,e=>by rw[show _=[] from e];simp;exact VL.nil
 |_::_,_,0,h=>h
 |_::_,_,i+1,⟨v,r,e,q,z⟩=>by subst e;exact z.drop i
structure AS where
 next:Nat
 cells:List (Nat×bF)
 deriving Inhabited
noncomputable def lk(a:Nat)(l:List (Nat×bF)):Option bF:=bq (motive:=fun _=>Option bF) none (fun p _ ih=>cond (aj a p.1) (some p.2) ih) l
theorem abM(a:Nat):lk a []=none:=rfl
theorem nd(a b:Nat)(c:bF)(r:List (Nat×bF)):lk a ((b,c)::r)=bif aj a b then some c else lk a r:=rfl
noncomputable def lm(a:Nat)(c:bF)(l:List (Nat×bF)):List (Nat×bF):=bq (motive:=fun _=>List (Nat×bF)) [] (fun p r ih=>cond (aj a p.1) ((p.1,c)::r) (p::ih)) l
theorem aj6(a:Nat)(c:bF):lm a c []=[]:=rfl
theorem Ey(a:Nat)(c:bF)(b:Nat)(d:bF)(r:List (Nat×bF)):lm a c ((b,d)::r)=bif aj a b then(b,c)::r else(b,d)::lm a c r:=rfl
noncomputable def drp(a:Nat)(l:List (Nat×bF)):List (Nat×bF):=bq (motive:=fun _=>List (Nat×bF)) [] (fun p _ ih=>cond (aj a p.1) ih (p::ih)) l
theorem afP(a:Nat):drp a []=[]:=rfl
theorem acQ(a b:Nat)(d:bF)(r:List (Nat×bF)):drp a ((b,d)::r)=bif aj a b then drp a r else(b,d)::drp a r:=rfl
noncomputable def AS.get(σ:AS)(a:Nat):Option bF:=lk a σ.cells
noncomputable def AS.set(σ:AS)(a:Nat)(c:bF):AS:=⟨σ.next,lm a c σ.cells⟩
noncomputable def AS.alloc(σ:AS)(c:bF):AS:=⟨σ.next+1,(σ.next,c)::σ.cells⟩
noncomputable def AS.drop(σ:AS)(a:Nat):AS:=⟨σ.next,drp a σ.cells⟩
theorem fS(a b:Nat):aj a b=decide (a=b):=by
 cases h:aj a b with
 |true=>rw[decide_eq_true (aD h)]
 |false=>rw[decide_eq_false (Nat.ne_of_beq_eq_false h)]
theorem AS.get_set(σ:AS)(a:Nat)(c:bF)(b:Nat):(σ.set a c).get b=if b=a then(σ.get a).map (fun _=>c)else σ.get b:=by
 obtain⟨n,l⟩:=σ
 simp only[AS.get,AS.set]
 induction l with
 |nil=>simp[abM,aj6]
 |cons p r ih=>
  obtain⟨x,d⟩:=p
  simp only[Ey,nd,fS]
  by_cases h:a=x
  ·subst h
   simp only[decide_true,af,nd,fS,Option.map_some]
   by_cases q:b=a<;>simp[q]
  ·simp only[h,decide_false,ae,nd,fS]
   rw[ih]
   by_cases q:b=x
   ·subst q
    have:b≠a:=fun e=>h e.symm
    simp[this]
   ·simp[q]
theorem AS.get_alloc(σ:AS)(c:bF)(b:Nat):(σ.alloc c).get b=if b=σ.next then some c else σ.get b:=by
 simp only[AS.get,AS.alloc,nd,fS]
 by_cases q:b=σ.next<;>simp[q]
theorem AS.get_drop(σ:AS)(a b:Nat):(σ.drop a).get b=if b=a then none else σ.get b:=by
 obtain⟨n,l⟩:=σ
 simp only[AS.get,AS.drop]
 induction l with
 |nil=>simp[abM,afP]
 |cons p r ih=>
  obtain⟨x,d⟩:=p
  simp only[acQ,nd,fS]
  by_cases h:a=x
  ·subst h
   simp only[decide_true,af]
   rw[ih]
   by_cases q:b=a<;>simp[q]
  ·simp only[h,decide_false,ae,nd,fS]
   rw[ih]
   by_cases q:b=x
   ·subst q
    have:b≠a:=fun e=>h e.symm
    simp[this]
   ·simp[q]
def iI(C:PC)(W:Wd)(h:bH)(p:aC×aC):bF->Prop
 | .lst l=>p.1=p.2/\ ∃vs n,h.get? p.2=some (dw vs n)/\VL C W l vs
 | .inst k ks fs=>C.cls k=true/\W.im p.1=some (instObj k p.2)/\ ∃es n vs,h.get? p.2=some (dictOf es n)/\VL C W fs vs/\oM C ks vs es
 | .dct ks fs=>p.1=p.2/\(p.2==sysModules)=false/\ ∃o vs,h.get? p.2=some o/\VL C W fs vs/\DY C ks vs o
 | .orc _ _=>False
def dT(C:PC)(W:Wd)(h:bH)(p:aC×aC):bF->Prop
 | .lst l=>p.1=p.2/\ ∃vs n,h.get? p.2=some (dw vs n)/\VL C W l vs
 | .inst k ks fs=>C.cls k=true/\W.im p.1=some (instObj k p.2)/\ ∃es n vs,h.get? p.2=some (dictOf es n)/\VL C W fs vs/\oM C ks vs es
 | .dct ks fs=>p.1=p.2/\(p.2==sysModules)=false/\ ∃o vs,h.get? p.2=some o/\VL C W fs vs/\DY C ks vs o
 | .orc k l=> ∃c,C.conc k l c/\iI C W h p c
noncomputable def bF.isOrc:bF->Bool
 | .orc _ _=>true
 |_=>false
theorem dT.to0{C:PC}{W:Wd}{h:bH}{p:aC×aC}{c:bF}(hc:c.isOrc=false)(x:dT C W h p c):iI C W h p c:=by
 cases c with
 |orc=>cases hc
 |lst=>exact x
 |inst=>exact x
 |dct=>exact x
theorem iI.to{C:PC}{W:Wd}{h:bH}{p:aC×aC}{c:bF}(x:iI C W h p c):dT C W h p c:=by
 cases c with
 |orc=>exact x.elim
 |_=>exact x
structure cu(C:PC)(W:Wd)(σ:AS)(h:bH):Prop where
 base: ∀b o,C.o4.get? b=some o->W.im b=some o
 im: ∀b o,W.im b=some o->h.get? b=some o
 pr: ∀b o,W.pr b=some o->h.get? b=some o
 dis: ∀b o,W.pr b=some o->W.im b=none
 fresh: ∀a,σ.next<=a->W.ρ a=none
 cell: ∀a c,σ.get a=some c-> ∃p,W.ρ a=some p/\dT C W h p c/\W.im p.2=none/\W.pr p.2=none
 inj: ∀a b ca cb p q,σ.get a=some ca->σ.get b=some cb->W.ρ a=some p->W.ρ b=some q->p.2=q.2->a=b
theorem iI.keeps{C:PC}{W:Wd}{h h':bH}{p:aC×aC}{c:bF}(x:iI C W h p c)(k: ∀o,h.get? p.2=some o->h'.get? p.2=some o):iI C W h' p c:=by
 cases c with
 |lst l=>obtain⟨a,vs,n,b,r⟩:=x;exact⟨a,vs,n,k _ b,r⟩
 |inst cc ks fs=>obtain⟨q0,a,es,n,vs,b,r⟩:=x;exact⟨q0,a,es,n,vs,k _ b,r⟩
 |dct ks fs=>obtain⟨a,q0,o,vs,b,r⟩:=x;exact⟨a,q0,o,vs,k _ b,r⟩
 |orc=>exact x
theorem dT.keeps{C:PC}{W:Wd}{h h':bH}{p:aC×aC}{c:bF}(x:dT C W h p c)(k: ∀o,h.get? p.2=some o->h'.get? p.2=some o):dT C W h' p c:=by
 cases c with
 |orc kk l=>obtain⟨c,q,x⟩:=x;exact⟨c,q,x.keeps k⟩
 |_=>exact(iI.keeps (x.to0 rfl) k).to
theorem iI.mono{C:PC}{W W':Wd}{h:bH}{p:aC×aC}{c:bF}(l:W.le0 W')(x:iI C W h p c):iI C W' h p c:=by
 cases c with
 |lst _=>obtain⟨a,vs,n,b,r⟩:=x;exact⟨a,vs,n,b,r.mono0 l⟩
 |inst cc ks fs=>obtain⟨q0,a,es,n,vs,b,r,z⟩:=x;exact⟨q0,l.2 _ _ a,es,n,vs,b,r.mono0 l,z⟩
 |dct ks fs=>obtain⟨a,q0,o,vs,b,r,z⟩:=x;exact⟨a,q0,o,vs,b,r.mono0 l,z⟩
 |orc=>exact x
theorem dT.mono0{C:PC}{W W':Wd}{h:bH}{p:aC×aC}{c:bF}(l:W.le0 W')(x:dT C W h p c):dT C W' h p c:=by
 cases c with
 |orc kk ll=>obtain⟨c,q,x⟩:=x;exact⟨c,q,x.mono l⟩
 |_=>exact(iI.mono l (x.to0 rfl)).to
theorem dT.mono{C:PC}{W W':Wd}{h:bH}{p:aC×aC}{c:bF}(l:W.le W')(x:dT C W h p c):dT C W' h p c:=x.mono0 l.to0
theorem iI.some{C:PC}{W:Wd}{h:bH}{p:aC×aC}{c:bF}(x:iI C W h p c): ∃o,h.get? p.2=some o:=by
 cases c with
 |lst _=>obtain⟨a,vs,n,b,r⟩:=x;exact⟨_,b⟩
 |inst cc ks fs=>obtain⟨q0,a,es,n,vs,b,r,z⟩:=x;exact⟨_,b⟩
 |dct ks fs=>obtain⟨a,q0,o,vs,b,r,z⟩:=x;exact⟨_,b⟩
 |orc=>exact x.elim
theorem dT.some{C:PC}{W:Wd}{h:bH}{p:aC×aC}{c:bF}(x:dT C W h p c): ∃o,h.get? p.2=some o:=by
 cases c with
 |orc kk l=>obtain⟨c,q,x⟩:=x;exact x.some
 |_=>exact(x.to0 rfl).some
section
variable{C:PC}{W:Wd}{σ:AS}{h h':bH}
theorem cu.keeps(R:cu C W σ h)(k: ∀b o,h.get? b=some o->h'.get? b=some o):cu C W σ h':=
 ⟨R.base,fun b o e=>k _ _ (R.im b o e),fun b o e=>k _ _ (R.pr b o e),R.dis,R.fresh,
  fun a c e=>let⟨p,a1,a2,a3⟩:=R.cell a c e;⟨p,a1,a2.keeps fun o q=>k _ _ q,a3⟩,R.inj⟩
theorem cu.keepsBut(R:cu C W σ h){d:aC}(hi:W.im d=none)(hp:W.pr d=none)(hc: ∀a c p,σ.get a=some c->W.ρ a=some p->p.2≠d)
  (k: ∀b o,b≠d->h.get? b=some o->h'.get? b=some o):cu C W σ h':=
 ⟨R.base,fun b o e=>k _ _ (fun q=>by rw[q,hi]at e;cases e) (R.im b o e),fun b o e=>k _ _ (fun q=>by rw[q,hp]at e;cases e) (R.pr b o e),R.dis,R.fresh,
  fun a c e=>let⟨p,a1,a2,a3⟩:=R.cell a c e;⟨p,a1,a2.keeps fun o q=>k _ _ (hc a c p e a1) q,a3⟩,R.inj⟩
theorem cu.set(R:cu C W σ h){a:Nat}{eL c:bF}{p:aC×aC}(hg:σ.get a=some eL)(hp:W.ρ a=some p)(k: ∀b o,b≠p.2->h.get? b=some o->h'.get? b=some o)
  (hc:dT C W h' p c):cu C W (σ.set a c) h':=by
 obtain⟨p',e,_,hi,hpr⟩:=R.cell a eL hg
 rw[hp]at e;cases e
 refine⟨R.base,fun b o e=>k _ _ (fun q=>by rw[q,hi]at e;cases e) (R.im b o e),fun b o e=>k _ _ (fun q=>by rw[q,hpr]at e;cases e) (R.pr b o e),R.dis,R.fresh,?_,?_⟩
 ·intro b cb e
  rw[AS.get_set]at e
  split at e
  ·rename_i q;subst q;rw[hg]at e;cases e;exact⟨p,hp,hc,hi,hpr⟩
  ·rename_i q
   obtain⟨p',a1,a2,a3⟩:=R.cell b cb e
   exact⟨p',a1,a2.keeps fun o z=>k _ _ (fun w=>q (R.inj _ _ _ _ _ _ e hg a1 hp w)) z,a3⟩
 ·have look: ∀b cb,(σ.set a c).get b=some cb-> ∃c',σ.get b=some c':=by
   intro b cb e
   rw[AS.get_set]at e
   split at e
   ·rename_i q;subst q;exact⟨_,hg⟩
   ·exact⟨_,e⟩
  intro x y cx cy px py ex ey
  obtain⟨_,ex⟩:=look _ _ ex
  obtain⟨_,ey⟩:=look _ _ ey
  exact R.inj x y _ _ px py ex ey
theorem cu.drop(R:cu C W σ h)(a:Nat):cu C W (σ.drop a) h:=by
 have look: ∀b cb,(σ.drop a).get b=some cb->σ.get b=some cb:=by
  intro b cb e
  rw[AS.get_drop]at e
  split at e
  ·cases e
  ·exact e
 exact⟨R.base,R.im,R.pr,R.dis,R.fresh,fun b cb e=>R.cell b cb (look _ _ e),fun x y cx cy px py ex ey=>R.inj x y cx cy px py (look _ _ ex) (look _ _ ey)⟩
noncomputable def Wd.addIm(W:Wd)(x:aC)(o:Obj):Wd:={W with im:=fun b=>if b=x then some o else W.im b}
theorem Wd.le_addIm{W:Wd}{x:aC}{o:Obj}(h: ∀o',W.im x=some o'->o'=o):W.le (W.addIm x o):=
 ⟨fun _ _ e=>e,fun b o' e=>by
  show(if b=x then some o else W.im b)=some o'
  split
  ·rename_i q;subst q;rw[h _ e]
  ·exact e,rfl⟩
theorem cu.addIm(R:cu C W σ h){x:aC}{o:Obj}(ho:h.get? x=some o)(hp:W.pr x=none)(hc: ∀a c p,σ.get a=some c->W.ρ a=some p->p.2≠x):cu C (W.addIm x o) σ h:=by
 have l:W.le (W.addIm x o):=Wd.le_addIm fun o' e=>by have:=R.im _ _ e;rw[ho]at this;exact(aG this).symm
 refine⟨fun b o' e=>l.2.1 _ _ (R.base b o' e),fun b o' e=> ?_,R.pr,fun b o' e=> ?_,R.fresh,fun a c e=> ?_,R.inj⟩
 ·by_cases q:b=x
  ·subst q
   have e:(if b=b then some o else W.im b)=some o':=e
   rw[if_pos rfl]at e;cases e;exact ho
  ·have e:(if b=x then some o else W.im b)=some o':=e
   rw[if_neg q]at e;exact R.im _ _ e
 ·show(if b=x then some o else W.im b)=none
  have e:W.pr b=some o':=e
  rw[if_neg (fun q=>by rw[q,hp]at e;cases e)];exact R.dis _ _ e
 ·obtain⟨p,a1,a2,a3,a4⟩:=R.cell a c e
  refine⟨p,a1,a2.mono l,?_,a4⟩
  show(if p.2=x then some o else W.im p.2)=none
  rw[if_neg (hc a c p e a1)];exact a3
theorem cu.freeze(R:cu C W σ h){a:Nat}{c:bF}{p:aC×aC}{o:Obj}(hg:σ.get a=some c)(hp:W.ρ a=some p)(ho:h.get? p.2=some o):cu C (W.addIm p.2 o) (σ.drop a) h:=by
 refine(R.drop a).addIm ho ?_ ?_
 ·obtain⟨q,e,_,_,x⟩:=R.cell a c hg
  rw[hp]at e;cases e;exact x
 ·intro b cb q e e' z
  rw[AS.get_drop]at e
  split at e
  ·cases e
  ·rename_i n;exact n (R.inj _ _ _ _ _ _ e hg e' hp z)
noncomputable def Wd.addId(W:Wd)(a:Nat)(p:aC×aC):Wd:={W with ρ:=fun b=>if b=a then some p else W.ρ b}
theorem Wd.le_addId{W:Wd}{a:Nat}{p:aC×aC}(h:W.ρ a=none):W.le (W.addId a p):=
 ⟨fun b q e=>by
  show(if b=a then some p else W.ρ b)=some q
  split
  ·rename_i z;subst z;rw[h]at e;cases e
  ·exact e,fun _ _ e=>e,rfl⟩
theorem cu.alloc(R:cu C W σ h){c:bF}{p:aC×aC}(hc:dT C (W.addId σ.next p) h p c)(hi:W.im p.2=none)(hpr:W.pr p.2=none)(hn: ∀a c q,σ.get a=some c->W.ρ a=some q->q.2≠p.2):
  cu C (W.addId σ.next p) (σ.alloc c) h:=by
 have l:W.le (W.addId σ.next p):=Wd.le_addId (R.fresh _ (ax _))
 have old: ∀b cb,σ.get b=some cb->b≠σ.next:=fun b cb e q=>by
  obtain⟨p',z,_⟩:=R.cell b cb e
  rw[q,R.fresh _ (ax _)]at z;cases z
 have at_: ∀b,b≠σ.next->(W.addId σ.next p).ρ b=W.ρ b:=fun b q=>if_neg q
 have at0:(W.addId σ.next p).ρ σ.next=some p:=if_pos rfl
 refine⟨R.base,R.im,R.pr,R.dis,fun b hb=> ?_,fun b cb e=> ?_,fun x y cx cy px py ex ey hx hy z=> ?_⟩
 ·have hb:σ.next+1<=b:=hb
  rw[at_ _ (by omega)];exact R.fresh _ (by omega)
 ·rw[AS.get_alloc]at e
  split at e
  ·rename_i q;subst q;cases e;exact⟨p,at0,hc,hi,hpr⟩
  ·rename_i q
   obtain⟨p',a1,a2,a3⟩:=R.cell b cb e
   exact⟨p',(at_ _ q).trans a1,a2.mono l,a3⟩
 ·rw[AS.get_alloc]at ex ey
  split at ex<;>split at ey
  ·rename_i q q';rw[q,q']
  ·rename_i q q';subst q;rw[at0]at hx;cases hx;rw[at_ _ q']at hy;exact absurd z.symm (hn _ _ _ ey hy)
  ·rename_i q q';subst q';rw[at0]at hy;cases hy;rw[at_ _ q]at hx;exact absurd z (hn _ _ _ ex hx)
  ·rename_i q q';rw[at_ _ q]at hx;rw[at_ _ q']at hy;exact R.inj x y _ _ _ _ ex ey hx hy z
theorem cu.lt(R:cu C W σ h){a:Nat}{c:bF}{p:aC×aC}(hg:σ.get a=some c)(hp:W.ρ a=some p):p.2<h.objs.size:=by
 obtain⟨q,e,x,_⟩:=R.cell a c hg
 rw[hp]at e;cases e
 obtain⟨o,ho⟩:=x.some
 exact co ho
theorem cu.im_new(R:cu C W σ h){x:aC}(hx:h.objs.size<=x):W.im x=none:=by
 cases e:W.im x with
 |none=>rfl
 |some o=>exact absurd (co (R.im _ _ e)) (b5.mpr hx)
theorem cu.pr_new(R:cu C W σ h){x:aC}(hx:h.objs.size<=x):W.pr x=none:=by
 cases e:W.pr x with
 |none=>rfl
 |some o=>exact absurd (co (R.pr _ _ e)) (b5.mpr hx)
theorem cu.cell_new(R:cu C W σ h){x:aC}(hx:h.objs.size<=x): ∀a c p,σ.get a=some c->W.ρ a=some p->p.2≠x:=fun _ _ _ e e' q=>
 absurd (R.lt e e') (b5.mpr (q▸hx))
theorem cu.sys(R:cu C W σ h):sysModules<h.objs.size:=let⟨_,e⟩:=C.sys;co (R.im _ _ (R.base _ _ e))
theorem ef(h:bH)(o:Obj): ∀b o',h.get? b=some o'->(h.push o).get? b=some o':=fun _ _ e=>bz _ e
theorem cu.pushIm(R:cu C W σ h){o:Obj}(hf:o.isFreed=false):W.le (W.addIm h.objs.size o)/\cu C (W.addIm h.objs.size o) σ (h.push o):=
 ⟨Wd.le_addIm (fun o' e=>by have z:=R.im_new (x:=h.objs.size) (ax _);rw[z]at e;cases e),
  (R.keeps (ef h o)).addIm (bg _ hf) (R.pr_new (ax _)) (R.cell_new (ax _))⟩
end
structure eH(A:bW)(k:Nat):Prop where
 handled:A.handled=none
 depth:A.depth+k<recursionLimit
 units:A.units+4*k<cLine
theorem eH.le{A:bW}{k k':Nat}(R:eH A k)(h:k'<=k):eH A k':=⟨R.handled,by have:=R.depth;omega,by have:=R.units;omega⟩
theorem eH.in1{A:bW}{k:Nat}(R:eH A (k+1)):eH A.in1 k:=⟨R.handled,by have:=R.depth;show A.depth+k<_;omega,by have:=R.units;show A.units+1+4*k<_;omega⟩
theorem eH.deeper{A:bW}{k:Nat}(R:eH A (k+1))(env:Env):eH (A.deeper env) k:=⟨R.handled,by have:=R.depth;show A.depth+1+k<_;omega,by have:=R.units;show A.units+3+4*k<_;omega⟩
theorem eH.d0{A:bW}{k:Nat}(R:eH A k):A.depth<recursionLimit:=by have:=R.depth;omega
abbrev dC(C:PC):kW:=model C.prog C.w
def dm:ah->az->Prop:=fun _ _=>False
def Sm(s s':az):Prop:= ∃h t,s'={s with heap:=h,toks:=t}/\s.toks<=t
theorem Sm.refl(s:az):Sm s s:=⟨s.heap,s.toks,rfl,ax _⟩
theorem Sm.trans{s s' s'':az}:Sm s s'->Sm s' s''->Sm s s''
 |⟨_,_,e,l⟩,⟨h,t,e',l'⟩=>⟨h,t,by rw[e',e],by subst e;exact au l l'⟩
theorem Sm.mk'{ni s:az}(x:Sm ni s)(h:bH)(t:Nat)(ht:s.toks<=t):Sm ni {s with heap:=h,toks:=t}:=x.trans ⟨h,t,rfl,ht⟩
theorem Sm.le{s s':az}:Sm s s'->s.toks<=s'.toks
 |⟨_,_,e,l⟩=>by subst e;exact l
def Sn(ni s:az):Prop:=1<=ni.toks/\Sm ni s
theorem Sn.trans{s s' s'':az}(x:Sn s s')(y:Sm s' s''):Sn s s'':=⟨x.1,x.2.trans y⟩
theorem Sn.mk'{ni s:az}(x:Sn ni s)(h:bH)(t:Nat)(ht:s.toks<=t):Sn ni {s with heap:=h,toks:=t}:=⟨x.1,x.2.mk' h t ht⟩
theorem Sn.pos{ni s:az}(x:Sn ni s):1<=s.toks:=au x.1 x.2.le
abbrev Fm:=List AV
structure FX where
 C:PC
 env:Env
 names:Nat->Option Str
 own:List aC
 ni:az
def i5(X:FX)(h:bH)(m:Str->Option ah)(x:Str)(v:ah):Prop:=
 match X.env.kindOf x with
 |some .local=>m x=some v
 |some .cell |some .free=> ∃c,X.env.cells.lookup x=some c/\h.IsCell c (some v)
 |_=>False
structure uV(X:FX):Prop where
 kind:X.env.scope.kind= .function
 glob:X.env.globals=mainGlobals
 blt:X.env.builtins=builtinsNs
 loc:X.env.locals∈X.own
 apart:X.env.cells.Pairwise fun x y=>x.2≠y.2
 notL: ∀n c,X.env.cells.lookup n=some c->c≠X.env.locals
 plain: ∀(i:Nat) x,X.names i=some x->(x==("__debug__":Str)||x==("__classdict__":Str))=false
def FX.Has(X:FX)(c:aC):Prop:=c=X.env.locals\/(∃n,X.env.cells.lookup n=some c)\/c∈X.own
def sN(W:Wd)(σ:AS)(c:aC):Prop:= ∀a cc p,σ.get a=some cc->W.ρ a=some p->p.2≠c
structure pI(X:FX)(W:Wd)(fr:Fm)(σ:AS)(h:bH):Prop where
 vars: ∃m,h.Ns X.env.locals m/\ ∀(i:Nat) a,fr[i]? =some a->a= .unb\/ ∀x,X.names i=some x-> ∃v,i5 X h m x v/\V X.C W a v
 cells: ∀n c,X.env.cells.lookup n=some c-> ∃v,h.IsCell c v
 apart: ∀c,X.Has c->sN W σ c
 sep: ∀c,X.Has c->W.im c=none
 own: ∀c∈X.own,W.pr c=none
 live: ∀c,X.Has c-> ∃o,h.get? c=some o
structure St(X:FX)(W:Wd)(fr:Fm)(σ:AS)(s:az):Prop where
 rel:cu X.C W σ s.heap
 fr:pI X W fr σ s.heap
 sm:Sn X.ni s
def fE(X:FX)(W:Wd)(fr:Fm)(a:AV)(σ:AS)(v:ah)(s:az):Prop:= ∃W',W.le W'/\St X W' fr σ s/\V X.C W' a v
def J9(X:FX)(W:Wd)(fr:Fm)(l:aa)(σ:AS)(vs:List ah)(s:az):Prop:= ∃W',W.le W'/\St X W' fr σ s/\VL X.C W' l vs
def oS(X:FX)(W:Wd)(fr:Fm)(b:Bool)(σ:AS)(b':Bool)(s:az):Prop:=b'=b/\ ∃W',W.le W'/\St X W' fr σ s
def yP(X:FX)(W:Wd)(fr:Fm)(σ:AS)(s:az):Prop:= ∃W',W.le W'/\St X W' fr σ s
abbrev EM:=Fm->AS->Option (AV×AS)
abbrev LM:=Fm->AS->Option (List AV×AS)
abbrev BM:=Fm->AS->Option (Bool×AS)
inductive jZ where
 |next(fr:Fm)(σ:AS)
 |brk(fr:Fm)(σ:AS)
 |cont(fr:Fm)(σ:AS)
 |ret(a:AV)(σ:AS)
abbrev SM:=Fm->AS->Option jZ
abbrev aW:=List AV->AS->Option (AV×AS)
def bX(X:FX)(k:Nat)(m:EM)(e:an):Prop:=
 ∀A,eH A k-> ∀W fr σ s,St X W fr σ s-> ∀a ai,m fr σ=some (a,ai)->wpAny (dC X.C) A (eval e X.env) (fE X W fr a ai) dm s
def zW(X:FX)(k:Nat)(m:LM)(es:List an):Prop:=
 ∀A,eH A k-> ∀W fr σ s,St X W fr σ s-> ∀l ai,m fr σ=some (l,ai)-> ∀pos,wpAny (dC X.C) A (spliced (backTo pos (starEach es X.env))) (J9 X W fr l ai) dm s
def m8(X:FX)(k:Nat)(m:BM)(e:an):Prop:=
 ∀A,eH A k-> ∀W fr σ s,St X W fr σ s-> ∀b ai,m fr σ=some (b,ai)->wpAny (dC X.C) A (isTrue e X.env (eval e X.env)) (oS X W fr b ai) dm s
def BG(X:FX)(W:Wd)(r:jZ)(f:Ge)(s:az):Prop:=match r with
 | .next fr σ=>f= .next/\yP X W fr σ s
 | .brk fr σ=>f= .brk/\yP X W fr σ s
 | .cont fr σ=>f= .cont/\yP X W fr σ s
 | .ret a σ=> ∃v fr,f= .ret v/\fE X W fr a σ v s
def lC(X:FX)(k:Nat)(m:SM)(st:cn):Prop:=
 ∀A,eH A k-> ∀W fr σ s,St X W fr σ s-> ∀r,m fr σ=some r->wpAny (dC X.C) A (exec st X.env) (BG X W r) dm s
def mM(X:FX)(k:Nat)(m:SM)(sts:List cn):Prop:=
 ∀A,eH A k-> ∀W fr σ s,St X W fr σ s-> ∀r,m fr σ=some r->wpAny (dC X.C) A (execs sts X.env) (BG X W r) dm s
def aF(C:PC)(k:Nat)(f:ah)(F:aW):Prop:=
 ∀A,eH A k-> ∀W σ s args vs,cu C W σ s.heap->VL C W args vs->1<=s.toks-> ∀a ai,F args σ=some (a,ai)->
  wpAny (dC C) A (call f vs) (fun v s'=>Sm s s'/\ ∃W',W.le W'/\cu C W' ai s'.heap/\V C W' a v) dm s
section
variable{X:FX}{k:Nat}{W W':Wd}{fr:Fm}{σ ai:AS}{s s':az}{h h':bH}
theorem fE.le{a:AV}{v:ah}(l:W.le W')(p:fE X W' fr a σ v s):fE X W fr a σ v s:=let⟨W'',a,b⟩:=p;⟨W'',l.trans a,b⟩
theorem J9.le{a:aa}{v:List ah}(l:W.le W')(p:J9 X W' fr a σ v s):J9 X W fr a σ v s:=let⟨W'',a,b⟩:=p;⟨W'',l.trans a,b⟩
theorem oS.le{a b:Bool}(l:W.le W')(p:oS X W' fr a σ b s):oS X W fr a σ b s:=let⟨e,W'',a,b⟩:=p;⟨e,W'',l.trans a,b⟩
theorem yP.le(l:W.le W')(p:yP X W' fr σ s):yP X W fr σ s:=let⟨W'',a,b⟩:=p;⟨W'',l.trans a,b⟩
theorem BG.le{r:jZ}{f:Ge}(l:W.le W')(p:BG X W' r f s):BG X W r f s:=by
 cases r with
 |next fr σ=>exact⟨p.1,p.2.le l⟩
 |brk fr σ=>exact⟨p.1,p.2.le l⟩
 |cont fr σ=>exact⟨p.1,p.2.le l⟩
 |ret a σ=>obtain⟨v,fr,e,q⟩:=p;exact⟨v,fr,e,q.le l⟩
theorem i5.keeps{m:Str->Option ah}{x:Str}{v:ah}(q:i5 X h m x v)(k: ∀c n w,X.env.cells.lookup n=some c->h.IsCell c w->h'.IsCell c w):i5 X h' m x v:=by
 unfold i5 at q ⊢
 split
 ·simp_all
 ·simp_all;obtain⟨c,a,b⟩:=q;exact⟨c,a,k c _ _ a b⟩
 ·simp_all;obtain⟨c,a,b⟩:=q;exact⟨c,a,k c _ _ a b⟩
 ·simp_all
theorem pI.keeps(F:pI X W fr σ h)(hk: ∀b o,h.get? b=some o->h'.get? b=some o):pI X W fr σ h':=by
 obtain⟨⟨m,a,b⟩,c,d,xA,d',Co⟩:=F
 exact⟨⟨m,a.keeps hk,fun i x e=>(b i x e).imp id fun f y p=>let⟨v,q,r⟩:=f y p;⟨v,q.keeps fun c n w _ z=>z.keeps hk,r⟩⟩,fun n c' e=>let⟨v,z⟩:=c n c' e;⟨v,z.keeps hk⟩,d,xA,d',
  fun c hc=>let⟨o,e⟩:=Co c hc;⟨o,hk _ _ e⟩⟩
theorem St.keeps(T:St X W fr σ s)(hk: ∀b o,s.heap.get? b=some o->h'.get? b=some o)(t:Nat)(ht:s.toks<=t:=by first|exact ax _|exact cJ _|omega):St X W fr σ {s with heap:=h',toks:=t}:=
 ⟨T.rel.keeps hk,T.fr.keeps hk,T.sm.mk' _ _ ht⟩
theorem St.toks(T:St X W fr σ s)(t:Nat)(ht:s.toks<=t:=by first|exact ax _|exact cJ _|omega):St X W fr σ {s with toks:=t}:=T.keeps (h':=s.heap) (fun _ _ e=>e) t ht
theorem St.post(T:St X W fr σ s){a:AV}{v:ah}(q:V X.C W a v):fE X W fr a σ v s:=⟨W,.refl W,T,q⟩
theorem St.postU(T:St X W fr σ s):yP X W fr σ s:=⟨W,.refl W,T⟩
theorem St.postB(T:St X W fr σ s)(b:Bool):oS X W fr b σ b s:=⟨rfl,W,.refl W,T⟩
theorem pI.turn(F:pI X W fr σ h)(l:W.le W')(hn: ∀b o,W.im b=none->W'.im b=some o-> ¬X.Has b)
  (hc: ∀c,X.Has c->sN W' ai c)(hk: ∀c,X.Has c-> ∀o,h.get? c=some o->h'.get? c=some o):pI X W' fr ai h':=by
 obtain⟨⟨m,a,b⟩,c,d,xA,d',Co⟩:=F
 have kc: ∀c n w,X.env.cells.lookup n=some c->h.IsCell c w->h'.IsCell c w:=fun c n w e ⟨o,p,q⟩=>⟨o,hk _ (.inr (.inl ⟨n,e⟩)) _ p,q⟩
 refine⟨⟨m,?_,fun i x e=>(b i x e).imp id fun f y p=>let⟨v,q,r⟩:=f y p;⟨v,q.keeps kc,r.mono l⟩⟩,fun n c' e=>let⟨v,z⟩:=c n c' e;⟨v,kc _ _ _ e z⟩,hc,fun c hcm=> ?_,fun c hcm=>by rw[l.2.2];exact d' c hcm,
  fun c hc=>let⟨o,e⟩:=Co c hc;⟨o,hk _ hc _ e⟩⟩
 ·obtain⟨o,es,ep,e,r⟩:=a;exact⟨o,es,ep,hk _ (.inl rfl) _ e,r⟩
 ·cases e:W'.im c with
  |none=>rfl
  |some o=>exact absurd hcm (hn _ _ (xA c hcm) e)
theorem pI.lt(F:pI X W fr σ h){c:aC}(hc:X.Has c):c<h.objs.size:=let⟨_,e⟩:=F.live c hc;co e
theorem pI.grow(F:pI X W fr σ h)(l:W.le W')(hn: ∀b o,W.im b=none->W'.im b=some o->h.objs.size<=b)
  (hc: ∀a cc p,ai.get a=some cc->W'.ρ a=some p->(∃c,σ.get a=some c/\W.ρ a=some p)\/h.objs.size<=p.2)
  (hk: ∀b o,h.get? b=some o->h'.get? b=some o):pI X W' fr ai h':=
 F.turn l (fun b o e e' hb=>absurd (F.lt hb) (b5.mpr (hn b o e e'))) (fun c hb a cc p e e' q=>by
  rcases hc a cc p e e' with⟨c',e1,e2⟩|z
  ·exact F.apart _ hb a c' p e1 e2 q
  ·exact absurd (F.lt hb) (b5.mpr (q▸z))) fun c _ o e=>hk _ _ e
theorem St.pushIm(T:St X W fr σ s){o:Obj}(hf:o.isFreed=false)(t:Nat)(ht:s.toks<=t:=by first|exact ax _|exact cJ _|omega):
  W.le (W.addIm s.heap.objs.size o)/\St X (W.addIm s.heap.objs.size o) fr σ {s with heap:=s.heap.push o,toks:=t}:=by
 obtain⟨l,R⟩:=T.rel.pushIm hf
 refine⟨l,R,T.fr.grow l (fun b o' e e'=> ?_) (fun a cc p e e'=>.inl ⟨cc,e,e'⟩) (ef _ _),T.sm.mk' _ _ ht⟩
 have e':(if b=s.heap.objs.size then some o else W.im b)=some o':=e'
 split at e'
 ·rename_i q;exact eu q.symm
 ·rw[e]at e';cases e'
theorem St.pushLst(T:St X W fr σ s){l:aa}{vs:List ah}(q:VL X.C W l vs)(t:Nat)(ht:s.toks<=t:=by first|exact ax _|exact cJ _|omega):
  W.le (W.addId σ.next (s.heap.objs.size,s.heap.objs.size))/\St X (W.addId σ.next (s.heap.objs.size,s.heap.objs.size)) fr (σ.alloc (.lst l)) {s with heap:=s.heap.push (dw vs 0),toks:=t}:=by
 have le:W.le (W.addId σ.next (s.heap.objs.size,s.heap.objs.size)):=Wd.le_addId (T.rel.fresh _ (ax _))
 refine⟨le,(T.rel.keeps (ef _ _)).alloc ⟨rfl,vs,0,bg _ rfl,q.mono le⟩ (T.rel.im_new (ax _)) (T.rel.pr_new (ax _)) (T.rel.cell_new (ax _)),
  T.fr.grow le (fun b o e e'=>by rw[show W.im b=some o from e']at e;cases e) (fun a cc p e e'=> ?_) (ef _ _),T.sm.mk' _ _ ht⟩
 rw[AS.get_alloc]at e
 by_cases z:a=σ.next
 ·subst z
  have e':(if σ.next=σ.next then some (s.heap.objs.size,s.heap.objs.size)else W.ρ σ.next)=some p:=e'
  rw[if_pos rfl]at e';cases e';exact .inr (ax _)
 ·rw[if_neg z]at e
  have e':(if a=σ.next then some (s.heap.objs.size,s.heap.objs.size)else W.ρ a)=some p:=e'
  rw[if_neg z]at e';exact .inl ⟨cc,e,e'⟩
theorem St.pushDct(T:St X W fr σ s)(t:Nat)(ht:s.toks<=t:=by first|exact ax _|exact cJ _|omega):
  W.le (W.addId σ.next (s.heap.objs.size,s.heap.objs.size))/\St X (W.addId σ.next (s.heap.objs.size,s.heap.objs.size)) fr (σ.alloc (.dct [] [])) {s with heap:=s.heap.push (dictOf [] 0),toks:=t}:=by
 have le:W.le (W.addId σ.next (s.heap.objs.size,s.heap.objs.size)):=Wd.le_addId (T.rel.fresh _ (ax _))
 refine⟨le,(T.rel.keeps (ef _ _)).alloc ⟨rfl,by simpa using oF T.rel.sys,_,[],bg _ rfl,VL.nil,rfl,#[],0,⟨rfl,rfl,rfl⟩,rfl,fun _ he=>by simp at he,VO,by simp⟩ (T.rel.im_new (ax _)) (T.rel.pr_new (ax _)) (T.rel.cell_new (ax _)),
  T.fr.grow le (fun b o e e'=>by rw[show W.im b=some o from e']at e;cases e) (fun a cc p e e'=> ?_) (ef _ _),T.sm.mk' _ _ ht⟩
 rw[AS.get_alloc]at e
 by_cases z:a=σ.next
 ·subst z
  have e':(if σ.next=σ.next then some (s.heap.objs.size,s.heap.objs.size)else W.ρ σ.next)=some p:=e'
  rw[if_pos rfl]at e';cases e';exact .inr (ax _)
 ·rw[if_neg z]at e
  have e':(if a=σ.next then some (s.heap.objs.size,s.heap.objs.size)else W.ρ a)=some p:=e'
  rw[if_neg z]at e';exact .inl ⟨cc,e,e'⟩
theorem qU{C:PC}{n:Nat}{p:aC×aC}:V C (W.addId n p) (.ref n) (.ref p.1):=⟨p,if_pos rfl,rfl⟩
theorem mh{x:aC}{o:Obj}:(W.addIm x o).im x=some o:=if_pos rfl
theorem St.set(T:St X W fr σ s){a:Nat}{eL c:bF}{p:aC×aC}(hg:σ.get a=some eL)(hp:W.ρ a=some p)(hs:iV p.2 s.heap h')(hc:dT X.C W h' p c)(t:Nat)(ht:s.toks<=t:=by first|exact ax _|exact cJ _|omega):
  St X W fr (σ.set a c) {s with heap:=h',toks:=t}:=by
 refine⟨T.rel.set hg hp (fun b o hb e=>hs.extBut b o hb e) hc,T.fr.turn (.refl _) (fun b o e e'=>by rw[e]at e';cases e') (fun d hd b cb q e e'=> ?_) (fun b hb o e=> ?_),T.sm.mk' _ _ ht⟩
 ·rw[AS.get_set]at e
  by_cases z:b=a
  ·subst z;exact T.fr.apart _ hd b eL q hg e'
  ·rw[if_neg z]at e;exact T.fr.apart _ hd b cb q e e'
 ·exact hs.extBut b o (fun q=>T.fr.apart _ hb a eL p hg hp q.symm) e
theorem St.drop(T:St X W fr σ s)(a:Nat):St X W fr (σ.drop a) s:=by
 refine⟨T.rel.drop a,T.fr.turn (.refl _) (fun b o e e'=>by rw[e]at e';cases e') (fun d hd b cb q e e'=> ?_) (fun b _ o e=>e),T.sm⟩
 rw[AS.get_drop]at e
 by_cases z:b=a
 ·rw[if_pos z]at e;cases e
 ·rw[if_neg z]at e;exact T.fr.apart _ hd b cb q e e'
end
noncomputable def ob{α β:Type}(o:Option α)(f:α->Option β):Option β:=bm (motive:=fun _=>Option β) none f o
noncomputable def bu{α γ β:Type}(o:Option (α×γ))(f:α->γ->Option β):Option β:=bm (motive:=fun _=>Option β) none (fun p=>NT (motive:=fun _=>Option β) f p) o
noncomputable def od{α β:Type}(o:Option α)(f:α->Option β)(g:Option β):Option β:=bm (motive:=fun _=>Option β) g f o
theorem oE{α β:Type}{o:Option α}{f:α->Option β}{r:β}{P:Prop}(h:ob o f=some r)(k: ∀a,o=some a->f a=some r->P):P:=by
 cases o with
 |none=>exact nn h
 |some a=>exact k a rfl h
theorem fG{α γ β:Type}{o:Option (α×γ)}{f:α->γ->Option β}{r:β}{P:Prop}(h:bu o f=some r)(k: ∀a b,o=some (a,b)->f a b=some r->P):P:=by
 cases o with
 |none=>exact nn h
 |some p=>exact k p.1 p.2 rfl h
theorem odE{α β:Type}{o:Option α}{f:α->Option β}{g:Option β}{r:β}{P:Prop}(h:od o f g=some r)(k: ∀a,o=some a->f a=some r->P)(k':g=some r->P):P:=by
 cases o with
 |none=>exact k' h
 |some a=>exact k a rfl h
theorem bE{β:Type}{c:Bool}{x y:Option β}{r:β}{P:Prop}(h:(bif c then x else y)=some r)(k:c=true->x=some r->P)(k':c=false->y=some r->P):P:=by
 cases c with
 |true=>exact k rfl h
 |false=>exact k' rfl h
noncomputable def eO{β:Type}(a:AV)(f:Int->Option β):Option β:=match a with
 | .int i=>f i
 |_=>none
noncomputable def d7{β:Type}(a:AV)(f:List Nat->Option β):Option β:=match a with
 | .str s=>f s
 |_=>none
noncomputable def GQ{β:Type}(a:AV)(f:List AV->Option β):Option β:=match a with
 | .tup s=>f s
 |_=>none
noncomputable def ia{β:Type}(a:AV)(f:Nat->Option β):Option β:=match a with
 | .ref s=>f s
 |_=>none
noncomputable def sT{β:Type}(a:AV)(f:Option β):Option β:=match a with
 | .none=>f
 |_=>none
noncomputable def nN{β:Type}(a:AV)(f:Nat->Option β):Option β:=match a with
 | .int i=>Int.rec (motive:=fun _=>Option β) f (fun _=>none) i
 |_=>none
noncomputable def nh{β:Type}(σ:AS)(x:Nat)(f:List AV->Option β):Option β:=ob (σ.get x) fun c=>match c with
 | .lst l=>f l
 |_=>none
noncomputable def Cw{β:Type}(σ:AS)(x:Nat)(f:Nat->List Nat->List AV->Option β):Option β:=ob (σ.get x) fun c=>match c with
 | .inst c ks vs=>f c ks vs
 |_=>none
noncomputable def So{β:Type}(σ:AS)(x:Nat)(f:List (List Nat)->List AV->Option β):Option β:=ob (σ.get x) fun c=>match c with
 | .dct ks vs=>f ks vs
 |_=>none
section
variable{β:Type}{r:β}{P:Prop}{a:AV}{σ:AS}{x:Nat}
theorem lstE{f:List AV->Option β}(h:nh σ x f=some r)(k: ∀l,σ.get x=some (.lst l)->f l=some r->P):P:=oE h fun c hc h=>by
 cases c with
 |lst l=>exact k l hc h
 |_=>exact nn h
theorem instE{f:Nat->List Nat->List AV->Option β}(h:Cw σ x f=some r)(k: ∀c ks vs,σ.get x=some (.inst c ks vs)->f c ks vs=some r->P):P:=oE h fun c hc h=>by
 cases c with
 |inst c ks vs=>exact k c ks vs hc h
 |_=>exact nn h
theorem dctE{f:List (List Nat)->List AV->Option β}(h:So σ x f=some r)(k: ∀ks vs,σ.get x=some (.dct ks vs)->f ks vs=some r->P):P:=oE h fun c hc h=>by
 cases c with
 |dct ks vs=>exact k ks vs hc h
 |_=>exact nn h
@[elab_as_elim] theorem lb {Q:AV->Prop} {f:Int->Option β} (h:eO a f=some r) (k: ∀i,f i=some r->Q (.int i)):Q a:=by
 cases a<;>first|exact nn h|exact k _ h
@[elab_as_elim] theorem fJ {Q:AV->Prop} {f:List Nat->Option β} (h:d7 a f=some r) (k: ∀i,f i=some r->Q (.str i)):Q a:=by
 cases a<;>first|exact nn h|exact k _ h
@[elab_as_elim] theorem Np {Q:AV->Prop} {f:List AV->Option β} (h:GQ a f=some r) (k: ∀i,f i=some r->Q (.tup i)):Q a:=by
 cases a<;>first|exact nn h|exact k _ h
@[elab_as_elim] theorem ip {Q:AV->Prop} {f:Nat->Option β} (h:ia a f=some r) (k: ∀i,f i=some r->Q (.ref i)):Q a:=by
 cases a<;>first|exact nn h|exact k _ h
@[elab_as_elim] theorem Cb {Q:AV->Prop} {f:Option β} (h:sT a f=some r) (k:f=some r->Q .none):Q a:=by
 cases a<;>first|exact nn h|exact k h
@[elab_as_elim] theorem mc {Q:AV->Prop} {f:Nat->Option β} (h:nN a f=some r) (k: ∀i,f i=some r->Q (.int (.ofNat i))):Q a:=by
 cases a with
 |int i=>cases i with
  |ofNat n=>exact k _ h
  |negSucc n=>exact nn h
 |_=>exact nn h
variable{C:PC}{W:Wd}{v:ah}{Q:ah->Prop}
@[elab_as_elim] theorem V.intE {i:Int} (h:V C W (.int i) v) (k: ∀t,Q (.int i t)):Q v:=by obtain⟨t,rfl⟩:=h;exact k t
@[elab_as_elim] theorem V.strE {i:ac} (h:V C W (.str i) v) (k: ∀t,Q (.str (aP i) t)):Q v:=by obtain⟨t,rfl⟩:=h;exact k t
@[elab_as_elim] theorem V.bytesE {i:List UInt8} (h:V C W (.bytes i) v) (k: ∀t,Q (.bytes i.toArray t)):Q v:=by obtain⟨t,rfl⟩:=h;exact k t
@[elab_as_elim] theorem V.tupE {l:aa} (h:V C W (.tup l) v) (k: ∀x n vs,W.im x=some (tb vs n)->VL C W l vs->Q (.ref x)):Q v:=by obtain⟨x,n,vs,rfl,q,z⟩:=h;exact k x n vs q z
@[elab_as_elim] theorem V.lstE {l:aa} (h:V C W (.lst l) v) (k: ∀x n vs,W.im x=some (dw vs n)->VL C W l vs->Q (.ref x)):Q v:=by obtain⟨x,n,vs,rfl,q,z⟩:=h;exact k x n vs q z
@[elab_as_elim] theorem V.dctE {ks:List (List Nat)} {fs:aa} (h:V C W (.dct ks fs) v) (k: ∀x o vs,(x==sysModules)=false->W.im x=some o->VL C W fs vs->DY C ks vs o->Q (.ref x)):Q v:=by obtain⟨x,o,vs,rfl,q1,q2,q3,q4⟩:=h;exact k x o vs q1 q2 q3 q4
@[elab_as_elim] theorem V.dctiE {ks:List Int} {fs:aa} (h:V C W (.dcti ks fs) v) (k: ∀x o vs,(x==sysModules)=false->W.im x=some o->VL C W fs vs->aa2 C ks vs o->Q (.ref x)):Q v:=by obtain⟨x,o,vs,rfl,q1,q2,q3,q4⟩:=h;exact k x o vs q1 q2 q3 q4
@[elab_as_elim] theorem V.frzE {c:Nat} {ks:ac} {fs:aa} (h:V C W (.frz c ks fs) v) (k: ∀x d es n vs,C.cls c=true->W.im x=some (instObj c d)->W.im d=some (dictOf es n)->VL C W fs vs->oM C ks vs es->Q (.ref x)):Q v:=by obtain⟨x,d,es,n,vs,rfl,q1,q2,q3,q4,q5⟩:=h;exact k x d es n vs q1 q2 q3 q4 q5
@[elab_as_elim] theorem V.rngE {a b:Nat} (h:V C W (.rng a b) v) (k: ∀x t u w,W.im x=some {cls:=.type "range",dict:=none,data:=.fields #[.int a t,.int b u,.int 1 w],slots:= #[]}->a<2^20->b<2^20->Q (.ref x)):Q v:=by obtain⟨x,t,u,w,rfl,q1,q2,q3⟩:=h;exact k x t u w q1 q2 q3
@[elab_as_elim] theorem V.refE {a:Nat} (h:V C W (.ref a) v) (k: ∀p,W.ρ a=some p->Q (.ref p.1)):Q v:=by obtain⟨p,e,rfl⟩:=h;exact k p e
@[elab_as_elim] theorem V.noneE (h:V C W .none v) (k:Q .none):Q v:=(show v= .none from h)▸k
@[elab_as_elim] theorem V.boolE {b:Bool} (h:V C W (.bool b) v) (k:Q (.bool b)):Q v:=(show v= .bool b from h)▸k
@[elab_as_elim] theorem VL.consE {a:AV} {l:aa} {vs:List ah} {Q:List ah->Prop} (h:VL C W (a::l) vs) (k: ∀v r,V C W a v->VL C W l r->Q (v::r)):Q vs:=by obtain⟨v,r,rfl,q,z⟩:=h;exact k v r q z
@[elab_as_elim] theorem VL.nilE {vs:List ah} {Q:List ah->Prop} (h:VL C W [] vs) (k:Q []):Q vs:=(show vs=[] from h)▸k
@[elab_as_elim] theorem cu.lstE {h:bH} (R:cu C W σ h) {l:aa} (hg:σ.get x=some (.lst l)) (hv:V C W (.ref x) v) (k: ∀p vs n,W.ρ x=some p->p.1=p.2->h.get? p.1=some (dw vs n)->VL C W l vs->Q (.ref p.1)):Q v:=by
 obtain⟨p,q,rfl⟩:=hv
 obtain⟨p',e',⟨z,vs,n,g,r⟩,_⟩:=R.cell _ _ hg
 rw[q]at e';cases e'
 exact k p vs n q z (z▸g) r
@[elab_as_elim] theorem cu.instE {h:bH} (R:cu C W σ h) {c:Nat} {ks:ac} {fs:aa} (hg:σ.get x=some (.inst c ks fs)) (hv:V C W (.ref x) v) (k: ∀p es n vs,W.ρ x=some p->C.cls c=true->W.im p.1=some (instObj c p.2)->h.get? p.2=some (dictOf es n)->VL C W fs vs->oM C ks vs es->Q (.ref p.1)):Q v:=by
 obtain⟨p,q,rfl⟩:=hv
 obtain⟨p',e',⟨q0,q1,es,n,vs,q2,r,z⟩,_⟩:=R.cell _ _ hg
 rw[q]at e';cases e'
 exact k p es n vs q q0 q1 q2 r z
@[elab_as_elim] theorem cu.dctE {h:bH} (R:cu C W σ h) {ks:List (List Nat)} {fs:aa} (hg:σ.get x=some (.dct ks fs)) (hv:V C W (.ref x) v) (k: ∀p o vs,W.ρ x=some p->p.1=p.2->(p.1==sysModules)=false->h.get? p.1=some o->VL C W fs vs->DY C ks vs o->Q (.ref p.1)):Q v:=by
 obtain⟨p,q,rfl⟩:=hv
 obtain⟨p',e',⟨z,q0,o,vs,g,r,z1⟩,_⟩:=R.cell _ _ hg
 rw[q]at e';cases e'
 exact k p o vs q z (z▸q0) (z▸g) r z1
end
noncomputable def gt(l:aa)(i:Nat):AV:=bq (motive:=fun _=>Nat->AV) (fun _=>.unb) (fun a _ ih i=>gV (motive:=fun _=>AV) a (fun j _=>ih j) i) l i
noncomputable def pad(i:Nat)(v:AV):List AV:=gV (motive:=fun _=>List AV) [v] (fun _ ih=>.unb::ih) i
noncomputable def put(l:aa)(i:Nat)(v:AV):List AV:=bq (motive:=fun _=>Nat->List AV) (fun i=>pad i v) (fun a r ih i=>gV (motive:=fun _=>List AV) (v::r) (fun j _=>a::ih j) i) l i
noncomputable def Cx(l:ac):Bool:=bq (motive:=fun _=>Bool) true (fun _ _ _=>false) l
noncomputable def dp(l m:ac):Bool:=bq (motive:=fun _=>List Nat->Bool) Cx (fun a _ ih m=>bq (motive:=fun _=>Bool) false (fun b t _=>cond (aj a b) (ih t) false) m) l m
theorem Sl(a b:Bool):cond a b false=(a&&b):=by cases a<;>rfl
theorem xz(a b:Bool):cond a true b=(a||b):=by cases a<;>rfl
theorem af4:dp [] []=true:=rfl
theorem af3(b t):dp [] (b::t)=false:=rfl
theorem af2(a r):dp (a::r) []=false:=rfl
theorem af1(a r b t):dp (a::r) (b::t)=(aj a b&&dp r t):=Sl _ _
noncomputable def jU(l m:ac):Bool:=bq (motive:=fun _=>List Nat->Bool) (fun _=>true) (fun a _ ih m=>bq (motive:=fun _=>Bool) false (fun b t _=>cond (aj a b) (ih t) false) m) l m
theorem aie(s):jU [] s=true:=rfl
theorem adN(a r):jU (a::r) []=false:=rfl
theorem Tb(a r b t):jU (a::r) (b::t)=(aj a b&&jU r t):=Sl _ _
noncomputable def y9(p s:ac):Bool:=bq (motive:=fun _=>Bool) (jU p []) (fun b t ih=>cond (jU p (b::t)) true ih) s
theorem aho(p):y9 p []=jU p []:=rfl
theorem IK(p b t):y9 p (b::t)=(jU p (b::t)||y9 p t):=xz _ _
noncomputable def eP{α:Type}(l:List α):Nat:=bq (motive:=fun _=>Nat) 0 (fun _ _ ih=>nG ih) l
theorem ib{α:Type}(l:List α):eP l=l.length:=by
 induction l with
 |nil=>rfl
 |cons a r ih=>exact congrArg nG ih
noncomputable def Zl{α:Type}(n:Nat)(l:List α):List α:=bq (motive:=fun _=>Nat->List α) (fun _=>[]) (fun a r ih n=>gV (motive:=fun _=>List α) (a::r) (fun j _=>ih j) n) l n
theorem Sp{α:Type}(l:List α): ∀n,Zl n l=l.drop n:=by
 induction l with
 |nil=>intro n;cases n<;>rfl
 |cons a r ih=>intro n;cases n with
  |zero=>rfl
  |succ n=>exact ih n
noncomputable def akb{α:Type}(n:Nat)(l:List α):List α:=bq (motive:=fun _=>Nat->List α) (fun _=>[]) (fun a r ih n=>gV (motive:=fun _=>List α) [] (fun j _=>a::ih j) n) l n
theorem aeH{α:Type}(l:List α): ∀n,akb n l=l.take n:=by
 induction l with
 |nil=>intro n;cases n<;>rfl
 |cons a r ih=>intro n;cases n with
  |zero=>rfl
  |succ n=>exact congrArg (a:: ·) (ih n)
noncomputable def ae5{α:Type}(l m:List α):List α:=bq (motive:=fun _=>List α) m (fun a _ ih=>a::ih) l
theorem Ww{α:Type}(l m:List α):ae5 l m=l++m:=by
 induction l with
 |nil=>rfl
 |cons a r ih=>exact congrArg (a:: ·) ih
noncomputable def S0(c:Nat)(l:ac):Bool:=bq (motive:=fun _=>Bool) false (fun b _ ih=>cond (aj c b) true ih) l
noncomputable def Pu(p s:ac):Bool:=bq (motive:=fun _=>Bool) (y9 [] s) (fun c r _=>bq (motive:=fun _=>Bool) (S0 c s) (fun d t _=>y9 (c::d::t) s) r) p
noncomputable def CG:List Nat->List Nat->Bool
 |_,[]=>false
 |[],_::_=>true
 |a::r,b::t=>bp a b||(aj a b&&CG r t)
noncomputable def Kt(a b:Int):Bool:=match a,b with
 | .ofNat a,.ofNat b=>aj a b
 | .negSucc a,.negSucc b=>aj a b
 |_,_=>false
noncomputable def CF(a b:Int):Bool:=match a,b with
 | .ofNat a,.ofNat b=>bp a b
 | .negSucc a,.negSucc b=>bp b a
 | .negSucc _,.ofNat _=>true
 | .ofNat _,.negSucc _=>false
noncomputable def UG(b:AV):Option Bool:=match b with
 | .none=>some true
 | .int _=>some false
 | .str _=>some false
 | .tup _=>some false
 |_=>none
noncomputable def Zo(x:Int)(b:AV):Option Bool:=match b with
 | .int y=>some (Kt x y)
 | .none=>some false
 |_=>none
noncomputable def Zp(x:ac)(b:AV):Option Bool:=match b with
 | .str y=>some (dp x y)
 | .none=>some false
 |_=>none
noncomputable def Ph(x:Bool)(b:AV):Option Bool:=match b with
 | .bool y=>some (x==y)
 |_=>none
noncomputable def IB(x:List UInt8)(b:AV):Option Bool:=match b with
 | .bytes y=>some (x==y)
 |_=>none
noncomputable def Lw(a b:AV):Option Bool:=match a with
 | .none=>UG b
 | .bool x=>Ph x b
 | .int x=>Zo x b
 | .str x=>Zp x b
 | .tup _=>sT b (some false)
 | .bytes x=>IB x b
 |_=>none
noncomputable def Cy(a:AV):Bool:=match a with
 | .tup _=>true
 |_=>false
noncomputable def Ku(f:AV->AV->Option Bool):List AV->List AV->Option Bool
 |[],[]=>some true
 |a::r,b::t=>ob (f a b) fun x=>ob (Ku f r t) fun y=>some (x&&y)
 |_,_=>some false
noncomputable def wo:Nat->AV->AV->Option Bool
 |0,a,b=>Lw a b
 |n+1,a,b=>bif Cy a&&Cy b then GQ a fun l=>GQ b fun m=>Ku (wo n) l m else Lw a b
noncomputable def dv(n:Nat):Bool:=cP n 4000000
noncomputable def Po(l:aa):Option Bool:=bif dv l.length then some (!l.isEmpty)else none
noncomputable def qG(σ:AS):AV->Option Bool
 | .none=>some false
 | .bool b=>some b
 | .int i=>some (!Kt i 0)
 | .str s=>bif dv s.length then some (!s.isEmpty)else none
 | .tup l=>Po l
 | .lst l=>Po l
 | .ref a=>nh σ a Po
 |_=>none
noncomputable def nw(σ:AS):AV->Option (List AV)
 | .tup l=>some l
 | .lst l=>some l
 | .ref a=>nh σ a some
 |_=>none
noncomputable def aht(σ:AS):AV->Option (List AV×AS)
 | .tup l=>some (l,σ)
 | .lst l=>some (l,σ)
 | .str s=>some (s.map fun c=>.str [c],σ)
 | .dct ks _=>some (ks.map .str,σ)
 | .bytes b=>some (b.map fun x=>.int (am x.toNat),σ)
 | .rng a b=>some ((ct (b-a)).map fun i=>.int (am (a+i)),σ)
 | .ref a=>nh σ a fun l=>some (l,σ.drop a)
 |_=>none
noncomputable def fu(σ:AS)(a:AV):Option (List AV×AS):=bu (aht σ a) fun l ai=>bif dv l.length then some (l,ai)else none
noncomputable def mu(i:Int):Bool:=cP i.natAbs (2^4000)
noncomputable def apm(a b:AV):Option AV:=match a with
 | .int i=>eO b fun j=>some (.int (i+j))
 | .str s=>d7 b fun t=>bif dv (eP s+eP t)then some (.str (ae5 s t))else none
 | .tup l=>GQ b fun m=>bif dv (l.length+m.length)&& !l.isEmpty&& !m.isEmpty then some (.tup (l++m))else none
 |_=>none
noncomputable def apG(a b:AV):Option AV:=match a with
 | .int i=>eO b fun j=>bif mu i&&mu j then some (.int (i*j))else none
 | .str _=>eO b fun j=>bif CF (-1000) j&&CF j 1 then some (.str [])else none
 |_=>none
noncomputable def amG(op:iu)(a b:AV):Option AV:=match op with
 | .Add=>apm a b
 | .Sub=>eO a fun i=>eO b fun j=>some (.int (i-j))
 | .Mult=>apG a b
 | .Mod=>eO a fun i=>eO b fun j=>bif Kt j 0 then none else some (.int (i.fmod j))
 | .FloorDiv=>eO a fun i=>eO b fun j=>bif Kt j 0|| !mu j then none else some (.int (i.fdiv j))
 | .Pow=>eO a fun i=>eO b fun j=>bif mu i&& !CF j 0&&CF j 1000 then some (.int (i^j.toNat))else none
 |_=>none
noncomputable def iJ(σ:AS):AV->Option (List AV)
 | .lst l=>some l
 | .ref a=>nh σ a some
 |_=>none
noncomputable def apo(op:iu)(a b:AV)(σ:AS):Option (AV×AS):=match op with
 | .Add=>ob (iJ σ a) fun l=>ob (iJ σ b) fun m=>bif dv (l.length+m.length)then some (.ref σ.next,σ.alloc (.lst (l++m)))else none
 | .Mult=>ia a fun x=>nN b fun j=>bif bp j 100 then nh σ x (fun l=>bif cP l.length 1000 then some (.ref σ.next,σ.alloc (.lst ((bD j l).flatten)))else none)else none
 |_=>none
noncomputable def bT(op:iu)(a b:AV)(σ:AS):Option (AV×AS):=od (amG op a b) (fun c=>some (c,σ)) (apo op a b σ)
noncomputable def wq(x:ac)(l:List (List Nat)):Bool:=bq (motive:=fun _=>Bool) false (fun a _ ih=>cond (dp a x) true ih) l
theorem Wv(x):wq x []=false:=rfl
theorem Wu(x a r):wq x (a::r)=(dp a x||wq x r):=xz _ _
noncomputable def Wt(x:Int):List Int->Bool
 |[]=>false
 |a::r=>Kt a x||Wt x r
noncomputable def nE:List AV->Option (List (List Nat))
 |[]=>some []
 |a::r=>d7 a fun s=>ob (nE r) fun l=>some (s::l)
noncomputable def Nz:List AV->Option (List Int)
 |[]=>some []
 |a::r=>eO a fun s=>ob (Nz r) fun l=>some (s::l)
noncomputable def inL(x:AV)(l:aa):Option Bool:=match x with
 | .str p=>ob (nE l) fun ss=>some (wq p ss)
 | .int i=>ob (Nz l) fun is=>some (Wt i is)
 |_=>none
noncomputable def inA(σ:AS)(x c:AV):Option Bool:=match c with
 | .str s=>d7 x fun p=>some (Pu p s)
 | .dct ks _=>d7 x fun p=>some (wq p ks)
 | .tup l=>inL x l
 | .lst l=>inL x l
 | .ref a=>ob (σ.get a) fun c=>match c with
  | .lst l=>inL x l
  | .dct ks _=>d7 x fun p=>some (wq p ks)
  |_=>none
 |_=>none
noncomputable def S6(o:Option Bool):Option Bool:=ob o fun b=>some !b
noncomputable def O6(σ:AS):AV->Option (List (List Nat))
 | .dct ks _=>some ks
 | .ref a=>So σ a fun ks _=>some ks
 |_=>none
noncomputable def re{α β:Type}(l:List α)(m:List β):Bool:=aj (eP l) (eP m)
noncomputable def eqA(σ:AS)(a b:AV):Option Bool:=od (wo 16 a b) some (od (iJ σ a) (fun l=>ob (iJ σ b) fun m=>bif re l m then Ku (wo 16) l m else some false)
 (ob (O6 σ a) fun ks=>ob (O6 σ b) fun ks'=>bif ks'.isEmpty then some ks.isEmpty else none))
noncomputable def lG:AV->Option Bool
 | .none=>some true
 | .opq=>none
 | .unb=>none
 | .glob _=>none
 |_=>some false
noncomputable def leA(a b:AV):Option Bool:=match a with
 | .int i=>eO b fun j=>some (!CF j i)
 | .str s=>d7 b fun t=>some (!CG t s)
 |_=>none
noncomputable def bU(op:gP)(a b:AV)(σ:AS):Option Bool:=match op with
 | .Eq=>eqA σ a b
 | .NotEq=>S6 (eqA σ a b)
 | .Lt=>eO a fun i=>eO b fun j=>some (CF i j)
 | .LtE=>leA a b
 | .Gt=>eO a fun i=>eO b fun j=>some (CF j i)
 | .GtE=>eO a fun i=>eO b fun j=>some (!CF i j)
 | .Is=>sT b (lG a)
 | .IsNot=>sT b (S6 (lG a))
 | .In=>inA σ a b
 | .NotIn=>S6 (inA σ a b)
noncomputable def xE(k:Nat)(ks:ac)(vs:aa):Option AV:=bq (motive:=fun _=>List AV->Option AV) (fun _=>none) (fun x _ ih vs=>bq (motive:=fun _=>Option AV) none (fun v t _=>cond (aj k x) (some v) (ih t)) vs) ks vs
theorem W4(k x ks v vs):xE k (x::ks) (v::vs)=bif aj k x then some v else xE k ks vs:=rfl
noncomputable def s7(a:AV):Option AV:=match a with
 | .unb=>none
 | .opq=>none
 | .glob _=>none
 |a=>some a
noncomputable def Nx(c k:Nat)(ks:ac)(vs:aa):Option AV:=bif Sh c k then none else xE k ks vs
noncomputable def aA(k:Nat)(a:AV)(σ:AS):Option AV:=match a with
 | .frz c ks vs=>ob (Nx c k ks vs) fun v=>s7 v
 | .ref x=>Cw σ x fun c ks vs=>ob (Nx c k ks vs) fun v=>s7 v
 |_=>none
noncomputable def PR{α:Type}(l:List α):Nat->Option α:=bq (motive:=fun _=>Nat->Option α) (fun _=>none) (fun a _ ih i=>gV (motive:=fun _=>Option α) (some a) (fun j _=>ih j) i) l
noncomputable def XC{α:Type}(l:List α)(i:Int):Option α:=match i with
 | .ofNat n=>bif dv n then PR l n else none
 | .negSucc n=>bif dv n&&bp n l.length then PR l (l.length-1-n)else none
noncomputable def Nt(k:ac):List (List Nat)->List AV->Option AV
 |x::ks,v::vs=>bif dp x k then some v else Nt k ks vs
 |_,_=>none
noncomputable def Iz(k:Int):List Int->List AV->Option AV
 |x::ks,v::vs=>bif Kt x k then some v else Iz k ks vs
 |_,_=>none
noncomputable def qz(k:ac)(v:AV):List (List Nat)->List AV->List (List Nat)×List AV
 |x::ks,w::vs=>bif dp x k then(x::ks,v::vs)else let r:=qz k v ks vs;(x::r.1,w::r.2)
 |_,_=>([k],[v])
noncomputable def afL(σ:AS):AV->Option (List (List Nat)×List AV)
 | .dct ks vs=>some (ks,vs)
 | .ref x=>So σ x fun ks vs=>some (ks,vs)
 |_=>none
noncomputable def aa6{β:Type}(a:AV)(f:List Int->List AV->Option β):Option β:=match a with
 | .dcti ks vs=>f ks vs
 |_=>none
noncomputable def abH(a i:AV)(σ:AS):Option AV:=match i with
 | .int j=>od (d7 a some) (fun s=>ob (XC s j) fun c=>some (.str [c])) (od (aa6 a fun ks vs=>some (Iz j ks vs)) (fun r=>r) (ob (nw σ a) fun l=>XC l j))
 | .str k=>bu (afL σ a) fun ks vs=>Nt k ks vs
 |_=>none
noncomputable def kg(n:Nat)(d:Nat):AV->Option Nat
 | .none=>some d
 | .int (.ofNat i)=>some (DI i n)
 | .int (.negSucc i)=>some (n-(i+1))
 |_=>none
noncomputable def Kr{α:Type}(l:List α)(a b:Nat):List α:=(l.drop a).take (b-a)
noncomputable def O3{α:Type}(l:List α)(a b:Nat):List α:=akb (b-a) (Zl a l)
theorem O4{α:Type}(l:List α)(a b:Nat):O3 l a b=Kr l a b:=by rw[O3,Kr,aeH,Sp]
noncomputable def am4(a lo hi:AV)(σ:AS):Option (AV×AS):=od (d7 a some) (fun s=>bif dv (eP s)then ob (kg (eP s) 0 lo) (fun x=>ob (kg (eP s) (eP s) hi) fun y=>some (.str (O3 s x y),σ))else none)
 (ob (iJ σ a) fun l=>bif dv (eP l)then ob (kg (eP l) 0 lo) (fun x=>ob (kg (eP l) (eP l) hi) fun y=>some (.ref σ.next,σ.alloc (.lst (O3 l x y))))else none)
noncomputable def pr{α β γ:Type}(p:α×β)(f:α->β->γ):γ:=NT (motive:=fun _=>γ) f p
noncomputable def pL(f:AV->AS->AV×AS):List AV->AS->List AV×AS
 |[],σ=>([],σ)
 |a::r,σ=>pr (f a σ) fun a' ai=>pr (pL f r ai) fun r' fO=>(a'::r',fO)
noncomputable def SZ(sel:Nat->Bool)(f:AV->AS->AV×AS):List Nat->List AV->AS->List AV×AS
 |k::ks,v::vs,σ=>pr (bif sel k then f v σ else(v,σ)) fun v' ai=>pr (SZ sel f ks vs ai) fun vs' fO=>(v'::vs',fO)
 |[],vs,σ=>(vs,σ)
 |_::_,[],σ=>([],σ)
noncomputable def Sw(f:AV->AS->AV×AS)(sel:Nat->Bool)(x:Nat)(σ:AS):bF->AV×AS
 | .lst l=>pr (pL f l (σ.drop x)) fun l' ai=>(.lst l',ai)
 | .inst c ks vs=>pr (SZ sel f ks vs (σ.drop x)) fun vs' ai=>(.frz c ks vs',ai)
 | .dct ks vs=>pr (pL f vs (σ.drop x)) fun vs' ai=>(.dct ks vs',ai)
 | .orc _ _=>(.opq,σ)
noncomputable def t6(sel:Nat->Bool):Nat->AV->AS->AV×AS
 |0,a,σ=>(a,σ)
 |n+1,a,σ=>match a with
  | .ref x=>bm (motive:=fun _=>AV×AS) (.opq,σ) (fun c=>Sw (t6 sel n) sel x σ c) (σ.get x)
  |a=>(a,σ)
noncomputable def jD:Nat->AV->AS->AV×AS:=t6 fun _=>true
abbrev gK:=AV->AS->Option aW
inductive T where
 |nop
 |cst(a:AV)
 |var(i:Nat)
 |glb(g:Nat)
 |bin(op:iu)(a b:T)
 |neg(a:T)
 |not(a:T)
 |and(a b:T)
 |or(a b:T)
 |ife(c a b:T)
 |cmp(op:gP)(a b:T)
 |cmp2(op op':gP)(a b c:T)
 |atr(k:Nat)(a:T)
 |idx(a i:T)
 |slc(a lo hi:T)
 |lst(l:T)
 |tup(l:T)
 |dic
 |dicI(k1 k2:Int)(a b:List Nat)
 |rep(c:Nat)(a:T)
 |call(f:Nat)(l:T)
 |meth(n:Nat)(o l:T)
 |nil
 |cons(a l:T)
 |comp(xs:List Nat)(it:T)(c:T)(elt:T)
 |comp2(x:Nat)(it:T)(y:Nat)(it2:T)(elt:T)
noncomputable def vz:List Nat->List AV->Fm->Option Fm
 |[],[],fr=>some fr
 |x::xs,a::l,fr=>vz xs l (put fr x a)
 |_,_,_=>none
noncomputable def me(xs:ac)(a:AV)(fr:Fm)(_:AS):Option Fm:=match xs with
 |[x]=>some (put fr x a)
 |xs=>GQ a fun l=>vz xs l fr
noncomputable def eA(xs:ac)(test:BM)(elt:EM):List AV->Fm->AS->Option (List AV×AS)
 |[],_,σ=>some ([],σ)
 |a::r,fr,σ=>ob (me xs a fr σ) fun fr'=>bu (test fr' σ) fun t ai=>bif t then bu (elt fr' ai) (fun b fO=>bu (eA xs test elt r fr fO) fun l cF=>some (b::l,cF))else eA xs test elt r fr ai
noncomputable def js(x:Nat)(it2:EM)(y:Nat)(elt:EM):List AV->Fm->AS->Option (List AV×AS)
 |[],_,σ=>some ([],σ)
 |a::r,fr,σ=>bu (it2 (put fr x a) σ) fun s ai=>bu (fu ai s) fun l ay=>bu (eA [y] (fun _ σ=>some (true,σ)) elt l (put fr x a) ay) fun bs fO=>bu (js x it2 y elt r fr fO) fun cs cF=>some (bs++cs,cF)
noncomputable def ja(m:EM):BM:=fun fr σ=>bu (m fr σ) fun a ai=>ob (qG ai a) fun b=>some (b,ai)
noncomputable def un(f:AV->AS->Option AV)(m:EM):EM:=fun fr σ=>bu (m fr σ) fun a ai=>ob (f a ai) fun b=>some (b,ai)
noncomputable def bi(f:AV->AV->AS->Option (AV×AS))(m n:EM):EM:=fun fr σ=>bu (m fr σ) fun a ai=>bu (n fr ai) fun b fO=>f a b fO
noncomputable def fh(f:AV->AV->AS->Option Bool)(m n:EM):BM:=fun fr σ=>bu (m fr σ) fun a ai=>bu (n fr ai) fun b fO=>ob (f a b fO) fun r=>some (r,fO)
noncomputable def ahO(a:AV)(_:AS):Option AV:=eO a fun i=>some (.int (-i))
noncomputable def Hp(c:Nat):List Nat->List Nat
 |[]=>[]
 |a::r=>bif aj a c then Hp c r else a::Hp c r
noncomputable def aiU(c:Nat)(a:AV)(_:AS):Option AV:=d7 a fun s=>bif dv s.length then some (.str (Hp c s))else none
noncomputable def one:EM->LM:=fun m fr σ=>bu (m fr σ) fun a ai=>some ([a],ai)
noncomputable def rI(m:BM):EM:=fun fr σ=>bu (m fr σ) fun b ai=>some (.bool b,ai)
noncomputable def oZ(b:BM):BM:=fun fr σ=>bu (b fr σ) fun b ai=>some (!b,ai)
noncomputable def amE(a b:BM):BM:=fun fr σ=>bu (a fr σ) fun t ai=>bif t then b fr ai else some (false,ai)
noncomputable def Rp(a b:BM):BM:=fun fr σ=>bu (a fr σ) fun t ai=>bif t then some (true,ai)else b fr ai
noncomputable def Sq(a b:EM):EM:=fun fr σ=>bu (a fr σ) fun v ai=>ob (qG ai v) fun t=>bif t then b fr ai else some (v,ai)
noncomputable def eOr(a b:EM):EM:=fun fr σ=>bu (a fr σ) fun v ai=>ob (qG ai v) fun t=>bif t then some (v,ai)else b fr ai
noncomputable def sY(c:BM)(a b:EM):EM:=fun fr σ=>bu (c fr σ) fun t ai=>bif t then a fr ai else b fr ai
noncomputable def bQ(a:AV):Bool:=match a with
 | .unb=>true
 |_=>false
noncomputable def al(i:Nat):EM:=fun fr σ=>bif bQ (gt fr i)then none else some (gt fr i,σ)
noncomputable def a6(a:AV):EM:=fun _ σ=>some (a,σ)
noncomputable def OT(op op':gP)(a b c:EM):BM:=fun fr σ=>bu (a fr σ) fun x ai=>bu (b fr ai) fun y aM=>ob (bU op x y aM) fun t=>bif t then bu (c fr aM) (fun z cF=>ob (bU op' y z cF) fun r=>some (r,cF))else some (false,aM)
noncomputable def fM(x y:AV)(σ:AS):Option (AV×AS):=ob (abH x y σ) fun z=>some (z,σ)
noncomputable def Ss(a lo hi:EM):EM:=fun fr σ=>bu (a fr σ) fun x ai=>bu (lo fr ai) fun y aM=>bu (hi fr aM) fun z cF=>am4 x y z cF
noncomputable def bn(f:aW)(l:LM):EM:=fun fr σ=>bu (l fr σ) fun vs ai=>f vs ai
noncomputable def cC(D:gK)(o:EM)(l:LM):EM:=fun fr σ=>bu (o fr σ) fun x ai=>ob (D x ai) fun F=>bu (l fr ai) fun vs aM=>F (x::vs) aM
noncomputable def cU:aW:=fun vs σ=>bif dv vs.length then some (.ref σ.next,σ.alloc (.lst vs))else none
noncomputable def fU:aW:=fun vs σ=>bif dv vs.length then some (.tup vs,σ)else none
noncomputable def Hg(ks:List Int):aW:=fun vs σ=>some (.dcti ks vs,σ)
noncomputable def FA:EM:=fun _ σ=>some (.ref σ.next,σ.alloc (.dct [] []))
noncomputable def aw(a:EM)(l:LM):LM:=fun fr σ=>bu (a fr σ) fun v ai=>bu (l fr ai) fun vs aM=>some (v::vs,aM)
noncomputable def aJ:LM:=fun _ σ=>some ([],σ)
noncomputable def eI(xs:ac)(it:EM)(c:BM)(elt:EM):EM:=fun fr σ=>bu (it fr σ) fun x ai=>bu (fu ai x) fun l ay=>bu (eA xs c elt l fr ay) fun vs aM=>bif dv vs.length then some (.ref aM.next,aM.alloc (.lst vs))else none
noncomputable def qA(x:Nat)(it:EM)(y:Nat)(it2 elt:EM):EM:=fun fr σ=>bu (it fr σ) fun a ai=>bu (fu ai a) fun l ay=>bu (js x it2 y elt l (put fr y .unb) ay) fun vs aM=>bif dv vs.length then some (.ref aM.next,aM.alloc (.lst vs))else none
structure D where
 e:EM
 b:BM
 l:LM
noncomputable def D.ofE(e:EM):D:=⟨e,ja e,fun _ _=>none⟩
noncomputable def D.ofBool(b:BM):D:=⟨rI b,b,fun _ _=>none⟩
noncomputable def D.bad:D:=⟨fun _ _=>none,fun _ _=>none,fun _ _=>none⟩
structure cA where
 glb:List (Str×AV)
 fns:List (Str×aW)
 mts:List (Str×gK)
noncomputable def pM{α:Type}:List (Str×α)->Nat->Option (Str×α)
 |[],_=>none
 |p::_,0=>some p
 |_::r,i+1=>pM r i
noncomputable def aca(l:List (Str×AV))(i:Nat):AV:=match pM l i with
 |some (_,a)=>a
 |none=>.unb
noncomputable def acb(l:List (Str×aW))(i:Nat):aW:=match pM l i with
 |some (_,a)=>a
 |none=>fun _ _=>none
noncomputable def acd(l:List (Str×gK))(i:Nat):gK:=match pM l i with
 |some (_,a)=>a
 |none=>fun _ _=>none
noncomputable def gL(Γ:cA):T->D
 | .nop=>⟨a6 .none,fun _ σ=>some (true,σ),aJ⟩
 | .cst a=>.ofE (a6 a)
 | .var i=>.ofE (al i)
 | .glb g=>.ofE (a6 (aca Γ.glb g))
 | .bin op a b=>.ofE (bi (bT op) (gL Γ a).e (gL Γ b).e)
 | .neg a=>.ofE (un ahO (gL Γ a).e)
 | .not a=>⟨rI (oZ (ja (gL Γ a).e)),oZ (gL Γ a).b,fun _ _=>none⟩
 | .and a b=>⟨Sq (gL Γ a).e (gL Γ b).e,amE (gL Γ a).b (gL Γ b).b,fun _ _=>none⟩
 | .or a b=>⟨eOr (gL Γ a).e (gL Γ b).e,Rp (gL Γ a).b (gL Γ b).b,fun _ _=>none⟩
 | .ife c a b=>.ofE (sY (gL Γ c).b (gL Γ a).e (gL Γ b).e)
 | .cmp op a b=>.ofBool (fh (bU op) (gL Γ a).e (gL Γ b).e)
 | .cmp2 op op' a b c=>.ofBool (OT op op' (gL Γ a).e (gL Γ b).e (gL Γ c).e)
 | .atr k a=>.ofE (un (aA k) (gL Γ a).e)
 | .idx a i=>.ofE (bi fM (gL Γ a).e (gL Γ i).e)
 | .slc a lo hi=>.ofE (Ss (gL Γ a).e (gL Γ lo).e (gL Γ hi).e)
 | .lst l=>.ofE (bn cU (gL Γ l).l)
 | .tup l=>.ofE (bn fU (gL Γ l).l)
 | .dic=>.ofE FA
 | .dicI k1 k2 a b=>.ofE (bn (Hg [k1,k2]) (aw (a6 (.str a)) (aw (a6 (.str b)) aJ)))
 | .rep c a=>.ofE (un (aiU c) (gL Γ a).e)
 | .call f l=>.ofE (bn (acb Γ.fns f) (gL Γ l).l)
 | .meth n o l=>.ofE (cC (acd Γ.mts n) (gL Γ o).e (gL Γ l).l)
 | .comp xs it c elt=>.ofE (eI xs (gL Γ it).e (gL Γ c).b (gL Γ elt).e)
 | .comp2 x it y it2 elt=>.ofE (qA x (gL Γ it).e y (gL Γ it2).e (gL Γ elt).e)
 | .nil=>⟨fun _ _=>none,fun _ _=>none,aJ⟩
 | .cons a l=>⟨fun _ _=>none,fun _ _=>none,aw (gL Γ a).e (gL Γ l).l⟩
termination_by structural t=>t
inductive TS where
 |bad
 |expr(e:T)
 |asg(i:Nat)(e:T)
 |asgT(is:List Nat)(e:T)
 |asgA(k:Nat)(o e:T)
 |asgI(o i e:T)
 |ifs(c:T)(a b:TS)
 |whl(c:T)(b:TS)
 |for_(xs:List Nat)(it:T)(b:TS)
 |ret(e:T)
 |cont
 |frz(i:Nat)
 |nil
 |cons(s r:TS)
noncomputable def LZ(k:Nat)(v:AV)(ks:ac)(vs:aa):List Nat×List AV:=bq (motive:=fun _=>List AV->List Nat×List AV) (fun _=>([k],[v])) (fun x ks ih vs=>bq (motive:=fun _=>List Nat×List AV) ([k],[v]) (fun w vs _=>cond (aj k x) (x::ks,v::vs) (NT (motive:=fun _=>List Nat×List AV) (fun ks' vs'=>(x::ks',w::vs')) (ih vs))) vs) ks vs
theorem ai8(k v x ks w vs):LZ k v (x::ks) (w::vs)=bif aj k x then(x::ks,v::vs)else match LZ k v ks vs with
  |(ks',vs')=>(x::ks',w::vs'):=rfl
noncomputable def oj(k:Nat)(v o:AV)(σ:AS):Option AS:=ia o fun x=>Cw σ x fun c ks vs=>pr (LZ k v ks vs) fun ks' vs'=>bif cP ks'.length 1000&& !Sh c k then some (σ.set x (.inst c ks' vs'))else none
noncomputable def NG:List AV->Nat->AV->List AV
 |[],_,_=>[]
 |_::r,0,v=>v::r
 |a::r,i+1,v=>a::NG r i v
noncomputable def KN(v o i:AV)(σ:AS):Option AS:=ia o fun x=>ob (σ.get x) fun c=>match c with
 | .lst l=>nN i fun n=>bif dv n&&bp n l.length then some (σ.set x (.lst (NG l n v)))else none
 | .dct ks vs=>d7 i fun k=>pr (qz k v ks vs) fun ks' vs'=>bif dv ks.length then some (σ.set x (.dct ks' vs'))else none
 |_=>none
noncomputable def gN(k:SM)(r:jZ):Option jZ:=match r with
 | .next fr' ai=>k fr' ai
 |r=>some r
noncomputable def Kz(k:SM)(r:jZ):Option jZ:=match r with
 | .next fr' ai=>k fr' ai
 | .cont fr' ai=>k fr' ai
 | .brk fr' ai=>some (.next fr' ai)
 | .ret a ai=>some (.ret a ai)
noncomputable def aV(a b:SM):SM:=fun fr σ=>ob (a fr σ) (gN b)
noncomputable def bh:SM:=fun fr σ=>some (.next fr σ)
noncomputable def rV(c:BM)(a b:SM):SM:=fun fr σ=>bu (c fr σ) fun t ai=>bif t then a fr ai else b fr ai
noncomputable def kQ(e:EM):SM:=fun fr σ=>bu (e fr σ) fun _ ai=>some (.next fr ai)
noncomputable def cK(is:ac)(e:EM):SM:=fun fr σ=>bu (e fr σ) fun v ai=>ob (me is v fr ai) fun fr'=>some (.next fr' ai)
noncomputable def lM(k:Nat)(o e:EM):SM:=fun fr σ=>bu (e fr σ) fun v ai=>bu (o fr ai) fun x aM=>ob (oj k v x aM) fun cF=>some (.next fr cF)
noncomputable def Qf(o i e:EM):SM:=fun fr σ=>bu (e fr σ) fun v ai=>bu (o fr ai) fun x aM=>bu (i fr aM) fun y cF=>ob (KN v x y cF) fun uP=>some (.next fr uP)
noncomputable def eC(e:EM):SM:=fun fr σ=>bu (e fr σ) fun v ai=>some (.ret v ai)
noncomputable def Tf(c:BM)(b:SM):Nat->SM
 |0=>fun _ _=>none
 |n+1=>fun fr σ=>bu (c fr σ) fun t ai=>bif t then ob (b fr ai) (Kz (Tf c b n))else some (.next fr ai)
noncomputable def pv(xs:ac)(b:SM):List AV->SM
 |[]=>bh
 |a::r=>fun fr σ=>ob (me xs a fr σ) fun gM=>ob (b gM σ) (Kz (pv xs b r))
noncomputable def gq(xs:ac)(it:EM)(b:SM):SM:=fun fr σ=>bu (it fr σ) fun x ai=>bu (fu ai x) fun l ay=>pv xs b l fr ay
noncomputable def Qg(i:Nat):SM:=fun fr σ=>pr (jD 14 (gt fr i) σ) fun a ai=>some (.next (put fr i a) ai)
noncomputable def b4(Γ:cA):TS->SM
 | .bad=>fun _ _=>none
 | .expr e=>kQ (gL Γ e).e
 | .asg i e=>cK [i] (gL Γ e).e
 | .asgT is e=>cK is (gL Γ e).e
 | .asgA k o e=>lM k (gL Γ o).e (gL Γ e).e
 | .asgI o i e=>Qf (gL Γ o).e (gL Γ i).e (gL Γ e).e
 | .ifs c a b=>rV (gL Γ c).b (b4 Γ a) (b4 Γ b)
 | .whl c b=>Tf (gL Γ c).b (b4 Γ b) 2000
 | .for_ xs it b=>gq xs (gL Γ it).e (b4 Γ b)
 | .ret e=>eC (gL Γ e).e
 | .cont=>fun fr σ=>some (.cont fr σ)
 | .frz i=>Qg i
 | .nil=>bh
 | .cons a b=>aV (b4 Γ a) (b4 Γ b)
termination_by structural t=>t
noncomputable def ig(r:jZ):Option (AV×AS):=match r with
 | .next _ ai=>some (.none,ai)
 | .ret a ai=>some (a,ai)
 |_=>none
noncomputable def bf(n:Nat)(dfl:aa)(b:SM):aW:=fun args σ=>bif cP (eP args) n&&cP n (eP args+eP dfl)then ob (b (ae5 args (Zl (eP args+eP dfl-n) dfl)) σ) ig else none
noncomputable def ud(c:Nat)(init:aW):aW:=fun args σ=>bu (init (.ref σ.next::args) (σ.alloc (.inst c [] []))) fun a ai=>sT a (some (.ref σ.next,ai))
noncomputable def FE(n:Nat)(F:aW):aW:=fun args σ=>bu (F args σ) fun a ai=>some (jD n a ai)
noncomputable def Zu(n:Nat)(F:aW):aW:=fun args σ=>pr (pL (jD n) args σ) fun args' ai=>F args' ai
noncomputable def dh(c:Nat):List Nat->List Nat->List (List Nat)
 |acc,[]=>[acc.reverse]
 |acc,a::r=>bif aj a c then acc.reverse::dh c [] r else dh c (a::acc) r
noncomputable def lc(sep:ac):List (List Nat)->List Nat
 |[]=>[]
 |[a]=>a
 |a::r=>a++sep++lc sep r
noncomputable def Ee(p:ac):Nat->List Nat->Option Nat
 |i,[]=>bif jU p []then some i else none
 |i,a::s=>bif jU p (a::s)then some i else Ee p (i+1) s
noncomputable def O9(n:Nat):List Nat:=bif bp n 10 then[48+n]else bif bp n 100 then[48+n / 10,48+n%10]else[48+n / 100,48+n / 10%10,48+n%10]
noncomputable def lJ:Nat->List Nat->Option Nat
 |n,[]=>some n
 |n,c::r=>bif cP 48 c&&cP c 57 then lJ (n*10+(c-48)) r else none
noncomputable def Kx(x:ac):List (List Nat)->List (List Nat)
 |[]=>[x]
 |y::r=>bif CG x y then x::y::r else y::Kx x r
noncomputable def jK:List (List Nat)->List (List Nat)
 |[]=>[]
 |x::r=>Kx x (jK r)
noncomputable def Z9:List AV->Option (List UInt8)
 |[]=>some []
 |a::r=>nN a fun n=>bif bp n 256 then ob (Z9 r) (fun l=>some (Q0 n::l))else none
noncomputable def abL(σ:AS)(a:AV):Option (List (List Nat)):=match a with
 | .dct ks _=>some ks
 |a=>ob (nw σ a) nE
noncomputable def qV{β:Type}(l:aa)(f:AV->Option β):Option β:=bq (motive:=fun _=>Option β) none (fun a r _=>bq (motive:=fun _=>Option β) (f a) (fun _ _ _=>none) r) l
noncomputable def vy{β:Type}(l:aa)(f:AV->AV->Option β):Option β:=bq (motive:=fun _=>Option β) none (fun a r _=>qV r (f a)) l
noncomputable def Wx{β:Type}(l:aa)(f:AV->AV->AV->Option β):Option β:=bq (motive:=fun _=>Option β) none (fun a r _=>vy r (f a)) l
noncomputable def Uq{β:Type}(a:AV)(f:Nat->Option β):Option β:=d7 a fun s=>arg1' s f
where arg1' {β:Type} (l:List Nat) (f:Nat->Option β):Option β:=bq (motive:=fun _=>Option β) none (fun a r _=>bq (motive:=fun _=>Option β) (f a) (fun _ _ _=>none) r) l
noncomputable def Nq{β:Type}(a:AV)(f:Nat->List Nat->Option β):Option β:=d7 a fun s=>bq (motive:=fun _=>Option β) none (fun a r _=>f a r) s
noncomputable def amQ(σ:AS)(a:AV):Option (AV×AS):=match a with
 | .str s=>bif dv (eP s)then some (.int (am (eP s)),σ)else none
 |a=>ob (nw σ a) fun l=>bif dv (eP l)then some (.int (am (eP l)),σ)else none
noncomputable def eN:aW:=fun args σ=>qV args (amQ σ)
noncomputable def RU:aW:=fun args σ=>qV args fun a=>nN a fun n=>bif bp n 100000 then some (.rng 0 n,σ)else none
noncomputable def RV:aW:=fun args σ=>vy args fun a b=>nN a fun n=>nN b fun m=>bif bp n 100000&&bp m 100000 then some (.rng n m,σ)else none
noncomputable def lx:aW:=fun args σ=>bif aj (eP args) 1 then RU args σ else RV args σ
noncomputable def TY:aW:=fun args σ=>qV args fun a=>nN a fun n=>bif bp n 1000 then some (.str (O9 n),σ)else none
noncomputable def aqh(σ:AS)(a:AV):Option (AV×AS):=bif Cy a then some (a,σ)else ob (iJ σ a) fun l=>bif dv l.length then some (.tup l,σ)else none
noncomputable def eY:aW:=fun args σ=>qV args (aqh σ)
noncomputable def aaZ:aW:=fun args σ=>qV args fun a=>ob (nw σ a) fun l=>bif dv l.length then some (.ref σ.next,σ.alloc (.lst l))else none
noncomputable def YG:aW:=fun args σ=>qV args fun a=>eO a fun i=>some (.int (am i.natAbs),σ)
noncomputable def YH:aW:=fun args σ=>qV args fun a=>nN a fun n=>bif bp n 0xD800 then some (.str [n],σ)else none
noncomputable def YI:aW:=fun args σ=>qV args fun a=>Uq a fun c=>some (.int (am c),σ)
noncomputable def pW:aW:=fun args σ=>qV args fun a=>ob (iJ σ a) fun l=>ob (nE l) fun ss=>bif bp ss.length 64 then some (.ref σ.next,σ.alloc (.lst ((jK ss).map .str)))else none
noncomputable def tI:aW:=fun args σ=>qV args fun a=>Nq a fun c r=>bif bp r.length 18 then ob (lJ 0 (c::r)) (fun n=>some (.int (am n),σ))else none
noncomputable def VU:aW:=fun args σ=>qV args fun a=>ob (iJ σ a) fun l=>ob (Z9 l) fun b=>bif dv b.length then some (.bytes b,σ)else none
noncomputable def TX:aW:=fun args σ=>vy args fun a b=>eO a fun i=>eO b fun j=>some (.int (bif CF j i then j else i),σ)
noncomputable def kz:aW:=fun args σ=>vy args fun a b=>d7 a fun s=>Uq b fun c=>bif dv s.length then some (.ref σ.next,σ.alloc (.lst ((dh c [] s).map .str)))else none
noncomputable def vf:aW:=fun args σ=>vy args fun a b=>d7 a fun s=>ob (abL σ b) fun l=>bif dv (eP (lc s l)+eP l*eP s+eP l)then some (.str (lc s l),σ)else none
noncomputable def tJ:aW:=fun args σ=>Wx args fun a b d=>d7 a fun s=>Nq b fun c p=>d7 d fun _=>bif Pu (c::p) s then none else some (.str s,σ)
noncomputable def H5:aW:=fun args σ=>vy args fun a b=>d7 a fun s=>Nq b fun c p=>ob (Ee (c::p) 0 s) fun i=>some (.int (am i),σ)
noncomputable def f8:aW:=fun args σ=>vy args fun a v=>ia a fun x=>nh σ x fun l=>bif dv l.length then some (.none,σ.set x (.lst (l++[v])))else none
noncomputable def agJ(σ:AS)(x:Nat)(b:AV):Option (List AV):=match b with
 | .ref c=>bif aj x c then none else nh σ c some
 | .lst m=>some m
 |_=>none
noncomputable def fR:aW:=fun args σ=>vy args fun a b=>ia a fun x=>ob (agJ σ x b) fun m=>nh σ x fun l=>bif dv (l.length+m.length)then some (.none,σ.set x (.lst (l++m)))else none
noncomputable def YJ:aW:=fun args σ=>qV args fun a=>ia a fun x=>nh σ x fun l=>ob l.getLast? fun v=>bif dv l.length then some (v,σ.set x (.lst l.dropLast))else none
noncomputable def TW:aW:=fun _ _=>none
noncomputable def WK(c:bF):Option Nat:=match c with
 | .inst d _ _=>some d
 | .orc d _=>some d
 |_=>none
noncomputable def Fy(a:AV)(σ:AS):Option Nat:=match a with
 | .frz d _ _=>some d
 | .ref x=>ob (σ.get x) WK
 |_=>none
noncomputable def fb(c:Nat)(F:aW)(G:gK):gK:=fun a σ=>ob (Fy a σ) fun d=>bif aj c d then some F else G a σ
noncomputable def gH:gK:=fun _ _=>none
noncomputable def ic(F:aW):gK:=fun a _=>d7 a fun _=>some F
noncomputable def fH(F:aW):gK:=fun a σ=>ia a fun x=>nh σ x fun _=>some F
section
open PySem.SeqAt
noncomputable section
section
variable{X:FX}{k:Nat}{W W':Wd}{fr:Fm}{σ ai:AS}{s s':az}{h h':bH}{A:bW}
theorem VC{α:Type}{M:kW}{A:bW}{s:az}{t:Sem α}{Q:α->az->Prop}{n:Nat}(hn:n<=s.toks)(h:wpAny M A t (fun a s'=>n<=s'.toks->Q a s') dm s):wpAny M A t Q dm s:=
 jp (wpAny_toks_of hn h) (fun _ _ x=>x.2 x.1) fun _ _ x=>x.2
theorem ek{α:Type}{M:kW}{t:Sem α}{Q Q':α->az->Prop}(h:wpAny M A t Q dm s)(hQ: ∀a s,Q a s->Q' a s):wpAny M A t Q' dm s:=jp h hQ fun _ _ e=>e
theorem aez{p:Pos}{n:Nat}:bX X k (a6 .none) (.Constant .none n p):=fun A _ W fr σ s T a ai e=>by
 apply s2 e;exact fun _ _ _=>T.post rfl
theorem aep{b:Bool}{p:Pos}{n:Nat}:bX X k (a6 (.bool b)) (.Constant (.bool b) n p):=fun A _ W fr σ s T a ai e=>by
 apply s2 e;exact fun _ _ _=>T.post rfl
theorem ajV{i:Int}{p:Pos}{n:Nat}:bX X k (a6 (.int i)) (.Constant (.int i) n p):=fun A _ W fr σ s T a ai e=>by
 apply s2 e;exact qQ ((T.toks _).post ⟨_,rfl⟩)
theorem aj1{x:Str}{l:ac}{p:Pos}{n:Nat}(hx:aP l=x):bX X k (a6 (.str l)) (.Constant (.str x) n p):=fun A _ W fr σ s T a ai e=>by
 apply s2 e;exact oy ((T.toks _).post ⟨_,by rw[hx]⟩)
theorem aau{x:List UInt8}{p:Pos}{n:Nat}:bX X k (a6 (.bytes x)) (.Constant (.bytes x) n p):=fun A _ W fr σ s T a ai e=>by
 apply s2 e;exact Constant_bytes ((T.toks _).post ⟨_,rfl⟩)
theorem UN: ∀(fr:Fm) (i:Nat),(fr[i]? =some (gt fr i))\/gt fr i= .unb
 |[],_=>.inr rfl
 |_::_,0=>.inl rfl
 |_::r,i+1=>(UN r i).imp (fun h=>h) (fun h=>h)
theorem St.load(O:uV X)(T:St X W fr σ s){i:Nat}{x:Str}(hx:X.names i=some x)(hu:gt fr i≠ .unb):
  wpAny (dC X.C) A (loadName X.env x) (fun v s'=>s'=s/\V X.C W (gt fr i) v) dm s:=by
 obtain⟨m,hn,hv⟩:=T.fr.vars
 obtain⟨v,e2,e3⟩:=((UN fr i).resolve_right hu|>hv i _).resolve_left hu x hx
 unfold i5 at e2
 split at e2
 ·rename_i q;exact wpAny_loadName_local O.kind q hn e2 ⟨rfl,e3⟩
 ·rename_i q;obtain⟨c,a,b⟩:=e2;exact wpAny_loadName_cell O.kind q a b ⟨rfl,e3⟩
 ·rename_i q;obtain⟨c,a,b⟩:=e2
  by_cases z:(x==("__classdict__":Str))=true
  ·exact absurd (O.plain i x hx) (by rw[beq_iff_eq.mp z];decide)
  ·exact wpAny_loadName_free O.kind q a b ⟨rfl,e3⟩ (by simpa using z)
 ·exact e2.elim
theorem amp{a:AV}(h:bQ a=false):a≠ .unb:=fun q=>by rw[q]at h;cases h
theorem uD(O:uV X){i:Nat}{x:Str}{p:Pos}(hx:X.names i=some x):bX X k (al i) (.Name x p):=fun A _ W fr σ s T a ai e=>by
 refine kN e fun hu e=> ?_
 apply s2 e
 have hd:(x==("__debug__":Str))=false:=by
  cases z:(x==("__debug__":Str))with
  |false=>rfl
  |true=>exact absurd (O.plain i x hx) (by rw[beq_iff_eq.mp z];decide)
 exact wpAny_Name (ek (T.load O hx (amp hu)) fun v s' h=>by rw[h.1];exact T.post h.2) hd
def na(C:PC)(x:Str)(a:AV):Prop:= ∀M A E (env:Env) (W:Wd) σ s (Q:ah->az->Prop),env.globals=mainGlobals->env.builtins=builtinsNs->cu C W σ s.heap->(∀v,V C W a v->Q v s)->wpAny M A (loadGlobal env x) Q E s
theorem Yd(O:uV X){a:AV}{x:Str}{p:Pos}(hx:X.env.kindOf x=some .globalImplicit)(hd:(x==("__debug__":Str))=false)(h:na X.C x a):bX X k (a6 a) (.Name x p):=fun A _ W fr σ s T b ai e=>by
 apply s2 e
 exact yy O.kind hx (h _ A dm X.env W σ s _ O.glob O.blt T.rel fun v q=>T.post q) hd
def amz(X:FX)(k:Nat)(t:ah->ah->Sem ah)(f:AV->AV->AS->Option (AV×AS)):Prop:=
 ∀A,eH A k-> ∀W fr σ s,St X W fr σ s-> ∀a b v w,V X.C W a v->V X.C W b w-> ∀c ai,f a b σ=some (c,ai)->wpAny (dC X.C) A (t v w) (fE X W fr c ai) dm s
theorem WE{f:AV->AV->AS->Option (AV×AS)}{m n:EM}{c:AV}(e:bi f m n fr σ=some (c,ai)){P:Prop}(k: ∀a ay b aM,m fr σ=some (a,ay)->n fr ay=some (b,aM)->f a b aM=some (c,ai)->P):P:=
 fG e fun a ay e1 e=>fG e fun b aM e2 e=>k a ay b aM e1 e2 e
theorem fE.elim{a:AV}{v:ah}{P:Prop}(h:fE X W fr a σ v s)(k: ∀W',W.le W'->St X W' fr σ s->V X.C W' a v->P):P:=by
 obtain⟨W',h1,h2,h3⟩:=h;exact k W' h1 h2 h3
theorem J9.elim{a:aa}{v:List ah}{P:Prop}(h:J9 X W fr a σ v s)(k: ∀W',W.le W'->St X W' fr σ s->VL X.C W' a v->P):P:=by
 obtain⟨W',h1,h2,h3⟩:=h;exact k W' h1 h2 h3
@[elab_as_elim] theorem oS.elim {b b':Bool} {Q:Bool->Prop} (h:oS X W fr b σ b' s) (k: ∀W',W.le W'->St X W' fr σ s->Q b):Q b':=by
 obtain⟨rfl,W',h1,h2⟩:=h;exact k W' h1 h2
theorem yP.elim{P:Prop}(h:yP X W fr σ s)(k: ∀W',W.le W'->St X W' fr σ s->P):P:=by
 obtain⟨W',h1,h2⟩:=h;exact k W' h1 h2
theorem bX.go{m:EM}{x:an}(hm:bX X k m x)(R:eH A k)(T:St X W fr σ s){a:AV}{ay:AS}(e:m fr σ=some (a,ay)){Q:ah->az->Prop}(h: ∀v bk be,W.le be->St X be fr ay bk->V X.C be a v->Q v bk):wpAny (dC X.C) A (eval x X.env) Q dm s:=
 ek (hm A R W fr σ s T a ay e) fun v bk z=>z.elim fun be l bo q=>h v bk be l bo q
theorem zW.go{m:LM}{x:List an}(hm:zW X k m x)(R:eH A k)(T:St X W fr σ s){a:aa}{ay:AS}(e:m fr σ=some (a,ay))(pos:Pos){Q:List ah->az->Prop}(h: ∀v bk be,W.le be->St X be fr ay bk->VL X.C be a v->Q v bk):wpAny (dC X.C) A (spliced (backTo pos (starEach x X.env))) Q dm s:=
 ek (hm A R W fr σ s T a ay e pos) fun v bk z=>z.elim fun be l bo q=>h v bk be l bo q
theorem m8.go{m:BM}{x:an}(hm:m8 X k m x)(R:eH A k)(T:St X W fr σ s){b:Bool}{ay:AS}(e:m fr σ=some (b,ay)){Q:Bool->az->Prop}(h: ∀bk be,W.le be->St X be fr ay bk->Q b bk):wpAny (dC X.C) A (isTrue x X.env (eval x X.env)) Q dm s:=
 ek (hm A R W fr σ s T b ay e) fun b' bk z=>z.elim fun be l bo=>h bk be l bo
theorem Ex{m n:EM}{a b:an}(hm:bX X k m a)(hn:bX X k n b){Q:ah->ah->az->Prop}(R:eH A k)(T:St X W fr σ s){x y:AV}{ay aM:AS}(e1:m fr σ=some (x,ay))(e2:n fr ay=some (y,aM))
  (h: ∀v w dP cq,W.le cq->St X cq fr aM dP->V X.C cq x v->V X.C cq y w->Q v w dP):
  wpAny (dC X.C) A (eval a X.env) (fun v bk=>wpAny (dC X.C) A (eval b X.env) (fun w dP=>Q v w dP) dm bk) dm s:=
 hm.go R T e1 fun v bk be bv bo d5=>hn.go R bo e2 fun w dP cq dJ cH jV=>h v w dP cq (bv.trans dJ) cH (d5.mono dJ) jV
theorem ajP{op:iu}{f:AV->AV->AS->Option (AV×AS)}{m n:EM}{a b:an}{p:Pos}(hm:bX X k m a)(hn:bX X k n b)(ho:amz X k (binaryOp op) f):bX X k (bi f m n) (.BinOp a op b p):=fun A R W fr σ s T c ai e=>
 WE e fun x ay y aM e1 e2 e3=>wpAny_BinOp (Ex hm hn R T e1 e2 fun v w dP cq l cH d5 jV=>ek (ho A R cq fr aM dP cH x y v w d5 jV c ai e3) fun _ _ z=>z.le l)
end
end
end
section
open PySem.SeqAt
noncomputable section
theorem oa: ∀{a b:ac},dp a b=decide (a=b)
 |[],[]=>by simp[af4]
 |[],_::_=>by simp[af3]
 |_::_,[]=>by simp[af2]
 |a::r,b::t=>by
  rw[af1,oa,fS]
  by_cases h:a=b<;>by_cases q:r=t<;>simp[h,q]
theorem qW{a b:Int}:Kt a b=decide (a=b):=by
 cases a with
 |ofNat a=>cases b with
  |ofNat b=>
   show aj a b=_
   rw[fS]
   exact decide_eq_decide.mpr ⟨fun h=>by rw[h],fun h=>Int.ofNat.inj h⟩
  |negSucc b=>rfl
 |negSucc a=>cases b with
  |ofNat b=>rfl
  |negSucc b=>
   show aj a b=_
   rw[fS]
   exact decide_eq_decide.mpr ⟨fun h=>by rw[h],fun h=>aaW h⟩
theorem ql{a b:ac}:(aP a==aP b)=dp a b:=by
 rw[oa,uY,beq_iff_eq,decide_eq_true_iff]
 exact⟨fun h=>by have:=congrArg (fun x=>x.cps.toList) h;simpa[aP] using this,fun h=>by rw[h]⟩
section
variable{A:bW}{s:az}
theorem RcAt.bytes_bytes(a b:Array UInt8)(t u:Tok):RcAt A s (.bytes a t) (.bytes b u) (a.toList==b.toList):=fun prog w E Q h=>PySem.W.eq_bytes h
theorem EqAt.bytes_bytes(a b:Array UInt8)(t u:Tok):EqAt A s (.bytes a t) (.bytes b u) (a.toList==b.toList):=fun prog w E Q h=>by
 unfold eqBool
 refine dF ?_
 refine wpAny_ite_split (fun hab=> ?_) (fun _=> ?_)
 ·have e:=eq_of_beq hab
  injection e with e1 e2
  subst e1
  exact aq (HV (aL (by simpa using h)))
 ·exact aq (RcAt.bytes_bytes a b t u prog w E _ (fD h))
theorem RcNeAt.bytes_bytes(a b:Array UInt8)(t u:Tok):RcNeAt A s (.bytes a t) (.bytes b u) (!(a.toList==b.toList)):=fun prog w E Q h=>PySem.W.ne_bytes (by simpa[bne] using h)
variable{C:PC}{W:Wd}
theorem wJ{x n:Nat}{vs:List ah}(hi: ∀b o,W.im b=some o->s.heap.get? b=some o)(e:W.im x=some (tb vs n)):s.heap.IsTuple x vs.toArray:=⟨_,hi _ _ e,rfl,n,rfl⟩
structure Eqs(A:bW)(s:az)(v w:ah)(r:Bool):Prop where
 rc:RcAt A s v w r
 ne:RcNeAt A s v w (!r)
 eq:EqAt A s v w r
@[elab_as_elim] theorem WZ {b:AV} {r:Bool} {Q:AV->Bool->Prop} (e:UG b=some r) (k1:Q .none true) (k2: ∀i,Q (.int i) false) (k3: ∀i,Q (.str i) false) (k4: ∀i,Q (.tup i) false):Q b r:=by
 cases b<;>first|exact nn e|(apply s1 e;first|exact k1|exact k2 _|exact k3 _|exact k4 _)
@[elab_as_elim] theorem abv {x:Int} {b:AV} {r:Bool} {Q:AV->Bool->Prop} (e:Zo x b=some r) (k1: ∀i,Q (.int i) (Kt x i)) (k2:Q .none false):Q b r:=by
 cases b<;>first|exact nn e|(apply s1 e;first|exact k2|exact k1 _)
@[elab_as_elim] theorem abw {x:ac} {b:AV} {r:Bool} {Q:AV->Bool->Prop} (e:Zp x b=some r) (k1: ∀i,Q (.str i) (dp x i)) (k2:Q .none false):Q b r:=by
 cases b<;>first|exact nn e|(apply s1 e;first|exact k2|exact k1 _)
@[elab_as_elim] theorem WY {x:Bool} {b:AV} {r:Bool} {Q:AV->Bool->Prop} (e:Ph x b=some r) (k1: ∀i,Q (.bool i) (x==i)):Q b r:=by
 cases b<;>first|exact nn e|(apply s1 e;exact k1 _)
@[elab_as_elim] theorem Su {x:List UInt8} {b:AV} {r:Bool} {Q:AV->Bool->Prop} (e:IB x b=some r) (k1: ∀i,Q (.bytes i) (x==i)):Q b r:=by
 cases b<;>first|exact nn e|(apply s1 e;exact k1 _)
@[elab_as_elim] theorem ae3 {a b:AV} {r:Bool} {Q:AV->Prop} (e:Lw a b=some r) (k1:UG b=some r->Q .none) (k2: ∀x,Ph x b=some r->Q (.bool x)) (k3: ∀x,Zo x b=some r->Q (.int x)) (k4: ∀x,Zp x b=some r->Q (.str x)) (k5: ∀l,sT b (some false)=some r->Q (.tup l)) (k6: ∀x,IB x b=some r->Q (.bytes x)):Q a:=by
 cases a<;>first|exact nn e|exact k1 e|exact k2 _ e|exact k3 _ e|exact k4 _ e|exact k5 _ e|exact k6 _ e
theorem Lx(hi: ∀b o,W.im b=some o->s.heap.get? b=some o)(hu:A.units<cLine){a b:AV}{r:Bool}(e:Lw a b=some r){v w:ah}:V C W a v->V C W b w->Eqs A s v w r:=by
 refine ae3 e (fun e hv=> ?_) (fun x e hv=> ?_) (fun x e hv=> ?_) (fun x e hv=> ?_) (fun l e hv=> ?_) fun x e hv=> ?_
 ·refine hv.noneE ?_
  exact WZ e (fun hw=>hw.noneE ⟨RcAt.none_none,RcNeAt.none_none,EqAt.same _⟩) (fun _ hw=>hw.intE fun t=>⟨RcAt.none_int _ _,RcNeAt.none_int _ _,EqAt.none_int _ _⟩)
   (fun _ hw=>hw.strE fun t=>⟨RcAt.none_str _ _,RcNeAt.none_str _ _,EqAt.none_str _ _⟩) fun _ hw=>hw.tupE fun x n vs q _=>⟨RcAt.none_tuple (wJ hi q) hu,RcNeAt.none_tuple (wJ hi q) hu,EqAt.none_tuple (wJ hi q) hu⟩
 ·refine hv.boolE ?_
  exact WY e fun _ hw=>hw.boolE ⟨RcAt.bool_bool _ _,RcNeAt.bool_bool _ _,EqAt.bool_bool _ _⟩
 ·refine hv.intE fun t=> ?_
  exact abv e (fun _ hw=>by rw[qW];exact hw.intE fun t=>⟨RcAt.int_int _ _ _ _,RcNeAt.int_int _ _ _ _,EqAt.int_int _ _ _ _⟩) fun hw=>hw.noneE ⟨RcAt.int_none _ _,RcNeAt.int_none _ _,EqAt.int_none _ _⟩
 ·refine hv.strE fun t=> ?_
  exact abw e (fun _ hw=>by rw[<- ql];exact hw.strE fun t=>⟨RcAt.str_str _ _ _ _,RcNeAt.str_str _ _ _ _,EqAt.str_str _ _ _ _⟩) fun hw=>hw.noneE ⟨RcAt.str_none _ _,RcNeAt.str_none _ _,EqAt.str_none _ _⟩
 ·refine hv.tupE fun x n vs q _=> ?_
  refine Cb e fun e hw=> ?_
  apply s1 e
  exact hw.noneE ⟨RcAt.tuple_none (wJ hi q) hu,RcNeAt.tuple_none (wJ hi q) hu,EqAt.tuple_none (wJ hi q) hu⟩
 ·refine hv.bytesE fun t=> ?_
  refine Su e fun y hw=>hw.bytesE fun u=> ?_
  have z:=fun p q:List UInt8=>show(p.toArray.toList==q.toArray.toList)=(p==q) by simp
  rw[<- z]
  exact⟨RcAt.bytes_bytes _ _ _ _,RcNeAt.bytes_bytes _ _ _ _,EqAt.bytes_bytes _ _ _ _⟩
theorem Pi{f:AV->AV->Option Bool}{P:ah->ah->Bool->Prop}(hf: ∀a b r,f a b=some r-> ∀v w,V C W a v->V C W b w->P v w r): ∀{l m:aa} {r:Bool},Ku f l m=some r->
  ∀{vs ws:List ah},VL C W l vs->VL C W m ws-> ∃e:Nat->Bool,(∀j (h1:j<vs.length) (h2:j<ws.length),P vs[j] ws[j] (e j))/\r=((ct (min vs.length ws.length)).all e&&vs.length==ws.length):=by
 intro l
 induction l with
 |nil=>
  intro m r h vs ws hv hw
  refine hv.nilE ?_
  cases m with
  |nil=>
   apply s1 h
   exact hw.nilE ⟨fun _=>true,fun j h1=>absurd h1 (ik _),rfl⟩
  |cons=>
   apply s1 h
   exact hw.consE fun w ws _ _=>⟨fun _=>true,fun j h1=>absurd h1 (ik _),by simp⟩
 |cons a l ih=>
  intro m r h vs ws hv hw
  refine hv.consE fun v vs h1 h2=> ?_
  cases m with
  |nil=>
   apply s1 h
   exact hw.nilE ⟨fun _=>true,fun j _ h2=>absurd h2 (ik _),by simp⟩
  |cons b m=>
   refine hw.consE fun w ws h3 h4=>oE h fun x hx h=>oE h fun y hy h=> ?_
   apply s1 h
   obtain⟨e,p,q⟩:=ih hy h2 h4
   refine⟨fun j=>match j with|0=>x|j+1=>e j,fun j h1' h2'=> ?_,?_⟩
   ·cases j with
    |zero=>exact hf _ _ _ hx _ _ h1 h3
    |succ j=>exact p j (mV h1') (mV h2')
   ·rw[q]
    simp only[bK,Nat.succ_min_succ]
    rw[List.range_succ_eq_map]
    simp only[rm,List.all_map]
    cases x<;>simp[Function.comp_def]
theorem OL{a b:AV}{r:Bool}(e:Lw a b=some r){v:ah}:V C W a v->V C W b v->r=true:=by
 refine ae3 e (fun e hv=> ?_) (fun x e hv=> ?_) (fun x e hv=> ?_) (fun x e hv=> ?_) (fun l e hv=> ?_) fun x e hv=> ?_
 ·refine hv.noneE ?_
  exact WZ e (fun _=>rfl) (fun _ hw=>let⟨t,q⟩:=hw;r7 q) (fun _ hw=>let⟨t,q⟩:=hw;r7 q) fun _ hw=>let⟨x,n,vs,q,_⟩:=hw;r7 q
 ·exact WY e fun y hw=>by cases hv;cases hw;simp
 ·exact abv e (fun y hw=>by obtain⟨t,rfl⟩:=hv;obtain⟨u,q⟩:=hw;cases q;simp[qW]) fun hw=>by obtain⟨t,rfl⟩:=hv;cases hw
 ·exact abw e (fun y hw=>by
   obtain⟨t,rfl⟩:=hv;obtain⟨u,q⟩:=hw
   rw[<- ql]
   injection q with q1;simp[q1]) fun hw=>by obtain⟨t,rfl⟩:=hv;cases hw
 ·refine Cb e fun e hw=> ?_
  obtain⟨x,n,vs,rfl,q,_⟩:=hv
  cases hw
 ·refine Su e fun y hw=> ?_
  obtain⟨t,rfl⟩:=hv
  obtain⟨u,q⟩:=hw
  injection q with q1
  have q2:=congrArg NJ q1
  simp only at q2
  simp[q2]
theorem acV{f:AV->AV->Option Bool}(hf: ∀a b r,f a b=some r-> ∀v,V C W a v->V C W b v->r=true): ∀{l m:aa} {r:Bool},Ku f l m=some r-> ∀{vs:List ah},VL C W l vs->VL C W m vs->r=true:=by
 intro l
 induction l with
 |nil=>
  intro m r h vs hv hw
  cases m with
  |nil=>apply s1 h;rfl
  |cons=>cases hv;obtain⟨_,_,q,_⟩:=hw;cases q
 |cons a l ih=>
  intro m r h vs hv hw
  cases m with
  |nil=>cases hw;obtain⟨_,_,q,_⟩:=hv;cases q
  |cons b m=>
   obtain⟨v,vs,rfl,h1,h2⟩:=hv
   obtain⟨w,ws,q,h3,h4⟩:=hw
   cases q
   refine oE h fun x hx h=>oE h fun y hy h=> ?_
   apply s1 h
   rw[hf _ _ _ hx _ h1 h3,ih hy h2 h4];rfl
@[elab_as_elim] theorem amD {n:Nat} {a b:AV} {r:Bool} (e:wo (n+1) a b=some r) {Q:AV->AV->Prop} (k: ∀l m,Ku (wo n) l m=some r->Q (.tup l) (.tup m)) (k':Lw a b=some r->Q a b):Q a b:=bE e (fun _ e=>Np e fun l e=>Np e fun m e=>k l m e) fun _ e=>k' e
theorem acB: ∀(n:Nat) (a b:AV) (r:Bool),wo n a b=some r-> ∀v:ah,V C W a v->V C W b v->r=true:=by
 intro n
 induction n with
 |zero=>intro a b r e v hv hw;exact OL e hv hw
 |succ n ih=>
  intro a b r e v
  refine amD e (fun l m e hv hw=> ?_) fun e hv hw=>OL e hv hw
  obtain⟨x,k,vs,rfl,q,hl⟩:=hv
  obtain⟨y,k',ws,q2,q',hm⟩:=hw
  cases q2
  have:=q.symm.trans q'
  simp only[YA,Obj.mk.injEq,Data.seq.injEq,true_and,and_true]at this
  have e1:vs=ws:=by simpa using this.1
  subst e1
  exact acV ih e hl hm
theorem ON(hi: ∀b o,W.im b=some o->s.heap.get? b=some o): ∀(n:Nat) (A:bW),A.units+n<cLine-> ∀(a b:AV) (r:Bool),wo n a b=some r-> ∀v w:ah,V C W a v->V C W b w->Eqs A s v w r:=by
 intro n
 induction n with
 |zero=>intro A hu a b r e v w hv hw;exact Lx hi hu e hv hw
 |succ n ih=>
  intro A hu a b r e v w
  have hu':A.units<cLine:=eU (cQ _ _) hu
  have hu1:A.in1.units+n<cLine:=by show A.units+1+n<_;rw[Nat.add_right_comm];exact hu
  have same:=fun v=>acB (C:=C) (W:=W) (n+1) a b r e v
  revert same
  refine amD e (fun l m e same hv hw=> ?_) (fun e _ hv hw=>Lx hi hu' e hv hw)
  obtain⟨x,k,vs,rfl,q,hl⟩:=hv
  obtain⟨y,k',ws,rfl,q',hm⟩:=hw
  obtain⟨f,p,rfl⟩:=Pi (P:=Eqs A.in1 s) (fun a b r e v w hv hw=>ih A.in1 hu1 a b r e v w hv hw) e hl hm
  have key:=RcAt.tuples (e:=f) (wJ hi q) (wJ hi q') hu' (fun j h1 h2=>by simpa using (p j (by simpa using h1) (by simpa using h2)).eq)
  have key2:=RcNeAt.tuples (e:=f) (wJ hi q) (wJ hi q') hu' (fun j h1 h2=>by simpa using (p j (by simpa using h1) (by simpa using h2)).eq)
  simp only[aZ]at key key2
  refine⟨key,key2,?_⟩
  by_cases z:x=y
  ·subst z
   rw[same _ ⟨x,k,vs,rfl,q,hl⟩ ⟨x,k',ws,rfl,q',hm⟩];exact EqAt.same _
  ·exact EqAt.of_refs z key
end
end
end
section
open PySem.SeqAt
noncomputable section
theorem bI(s:ac):(aP s).length=s.length:=by simp[aP,TR]
theorem gJ(s:ac):(aP s).cps.toList=s:=by simp[aP]
theorem RJ(s t:ac):aP s++aP t=aP (s++t):=by
 show TQ _ _=_
 simp[TQ,aP]
theorem Hl: ∀{p s:ac},jU p s=true↔s.take p.length=p
 |[],s=>by simp[aie]
 |_::_,[]=>by simp[adN]
 |a::r,b::t=>by
  rw[Tb,cD,Hl,fS,decide_eq_true_iff]
  simp only[bK,A0,u6]
  exact⟨fun⟨x,y⟩=>⟨x.symm,y⟩,fun⟨x,y⟩=>⟨x.symm,y⟩⟩
theorem Pv: ∀{p s:ac},y9 p s=true↔ ∃i,i<=s.length/\jU p (s.drop i)=true
 |p,[]=>by
  rw[aho]
  exact⟨fun h=>⟨0,ax _,h⟩,fun⟨i,_,h⟩=>by simpa using h⟩
 |p,b::t=>by
  rw[IK,ow,Pv]
  constructor
  ·rintro(h|⟨i,h1,h2⟩)
   ·exact⟨0,aU _,h⟩
   ·exact⟨i+1,a9 h1,h2⟩
  ·rintro⟨i,h1,h2⟩
   cases i with
   |zero=>exact .inl h2
   |succ i=>exact .inr ⟨i,mU h1,h2⟩
theorem Xo(c:Nat): ∀s:List Nat,S0 c s=y9 [c] s
 |[]=>rfl
 |b::t=>by
  rw[IK,Tb,<- Xo c t]
  show cond (aj c b) true (S0 c t)=(aj c b&&true||S0 c t)
  cases aj c b<;>rfl
theorem Xb(p s:ac):Pu p s=y9 p s:=by
 match p with
 |[]=>rfl
 |[c]=>exact Xo _ _
 |_::_::_=>rfl
theorem ado{p s:ac}:Pu p s=true↔ ∃i,i<=s.length/\jU p (s.drop i)=true:=by rw[Xb];exact Pv
theorem SA(p s:ac):(!(QR (aP s) (aP p) 0 (aP s).length 1).isEmpty)=Pu p s:=by
 rw[uY,StrLaws.found_iff,ado]
 simp only[bI,tD,gJ,beq_iff_eq,Hl]
 constructor
 ·rintro⟨i,h1,h2⟩;exact⟨i,by omega,h2⟩
 ·rintro⟨i,h1,h2⟩
  refine⟨i,?_,h2⟩
  have:=congrArg mT h2
  simp only[j8,gU]at this
  omega
theorem OU{a b:Nat}:bp a b=decide (a<b):=by rw[uY,decide_eq_true_iff,cX]
theorem xK{a b:Int}:CF a b=decide (a<b):=by
 cases a with
 |ofNat a=>cases b with
  |ofNat b=>
   show bp a b=_
   rw[OU]
   exact decide_eq_decide.mpr hH.symm
  |negSucc b=>
   refine(decide_eq_false ?_).symm
   exact sF.mpr (Int.le_of_lt (Bc (pG b) (de a)))
 |negSucc a=>cases b with
  |ofNat b=>
   refine(decide_eq_true ?_).symm
   exact Bc (pG a) (de b)
  |negSucc b=>
   show bp b a=_
   rw[OU]
   exact decide_eq_decide.mpr (by omega)
theorem Ek: ∀{a b:ac},CG a b=decide (a<b)
 |[],[]=>by simp[CG]
 |_::_,[]=>by simp[CG]
 |[],_::_=>by simp[CG]
 |a::r,b::t=>by
  rw[CG,Ek,StrLaws.lt_cons_cons,fS]
  rw[OU]
  congr 1
section
variable{C:PC}{W:Wd}{σ:AS}{h:bH}{A:bW}{s:az}
@[elab_as_elim] theorem an1 {a:AV} {l:aa} {Q:AV->Prop} (e:iJ σ a=some l) (k1:Q (.lst l)) (k2: ∀x,σ.get x=some (.lst l)->Q (.ref x)):Q a:=by
 cases a<;>first|exact nn e|skip
 ·cases e;exact k1
 ·refine lstE e fun l' hg e=> ?_
  cases e;exact k2 _ hg
@[elab_as_elim] theorem ng (R:cu C W σ h) {a:AV} {l:aa} (e:iJ σ a=some l) {v:ah} {Q:ah->Prop} (hv:V C W a v) (k: ∀x n vs,h.get? x=some (dw vs n)->VL C W l vs->Q (.ref x)):Q v:=by
 revert hv
 refine an1 e (fun hv=> ?_) fun x hg hv=> ?_
 ·exact hv.lstE fun x n vs q r=>k x n vs (R.im _ _ q) r
 ·exact R.lstE hg hv fun p vs n _ _ q r=>k p.1 n vs q r
theorem lI{x n:Nat}{vs:List ah}(e:h.get? x=some (dw vs n)):h.IsList x vs.toArray:=⟨_,e,rfl,n,rfl⟩
@[elab_as_elim] theorem Hd (R:cu C W σ h) {a:AV} {l:aa} (e:nw σ a=some l) {v:ah} {Q:ah->Prop} (hv:V C W a v) (k: ∀x n vs,VL C W l vs->(h.get? x=some (dw vs n)\/h.get? x=some (tb vs n))->Q (.ref x)):Q v:=by
 by_cases ht: ∃m,a= .tup m
 ·obtain⟨m,rfl⟩:=ht
  cases e
  exact hv.tupE fun x n vs q r=>k x n vs r (.inr (R.im _ _ q))
 ·have e':iJ σ a=some l:=by
   cases a<;>first|exact nn e|exact e|skip
   exact absurd ⟨_,rfl⟩ ht
  exact ng R e' hv fun x n vs q r=>k x n vs r (.inl q)
@[elab_as_elim] theorem Hc (R:cu C W σ h) {a:AV} {l:aa} (e:nw σ a=some l) {v:ah} {Q:ah->Prop} (hv:V C W a v) (k: ∀x vs,VL C W l vs->(h.IsList x vs.toArray\/h.IsTuple x vs.toArray)->Q (.ref x)):Q v:=
 Hd R e hv fun x n vs q z=>k x vs q (z.imp (fun z=>⟨_,z,rfl,n,rfl⟩) fun z=>⟨_,z,rfl,n,rfl⟩)
@[elab_as_elim] theorem anq {a:AV} {ks:List (List Nat)} {Q:AV->Prop} (e:O6 σ a=some ks) (k1: ∀vs,Q (.dct ks vs)) (k2: ∀x vs,σ.get x=some (.dct ks vs)->Q (.ref x)):Q a:=by
 cases a<;>first|exact nn e|skip
 ·cases e;exact k1 _
 ·refine dctE e fun ks' vs hg e=> ?_
  cases e;exact k2 _ _ hg
@[elab_as_elim] theorem O7 (R:cu C W σ h) {a:AV} {ks:List (List Nat)} (e:O6 σ a=some ks) {v:ah} {Q:ah->Prop} (hv:V C W a v) (k: ∀x vs,(x==sysModules)=false->ks.length=vs.length->h.DictOf (strKind C.prog C.w) x ((ks.map aP).zip vs)->Q (.ref x)):Q v:=by
 revert hv
 refine anq e (fun _ hv=> ?_) fun x _ hg hv=> ?_
 ·exact hv.dctE fun x o vs q0 q r z=>k x vs q0 z.1 (jl.mpr ⟨o,R.im _ _ q,z.2⟩)
 ·exact R.dctE hg hv fun p o vs _ _ q0 g r z=>k p.1 vs q0 z.1 (jl.mpr ⟨o,g,z.2⟩)
theorem Jf{α β:Type}{l:List α}{m:List β}:re l m=decide (l.length=m.length):=by
 unfold re
 rw[ib,ib,fS]
structure aeT(C:PC)(A:bW)(s:az)(v w:ah)(r:Bool):Prop where
 eq: ∀Q:ah->az->Prop,Q (.bool r) s->wpAny (dC C) A (compareOp .Eq v w) Q dm s
 ne: ∀Q:ah->az->Prop,Q (.bool !r) s->wpAny (dC C) A (compareOp .NotEq v w) Q dm s
theorem afZ{ks:List (List Nat)}{x y:aC}{vs ws:List ah}(hu:A.units+17<cLine)(x0:(x==sysModules)=false)(xl:ks.length=vs.length)(xd:s.heap.DictOf (strKind C.prog C.w) x ((ks.map aP).zip vs))(y0:(y==sysModules)=false)(yd:s.heap.DictOf (strKind C.prog C.w) y ((([]:List (List Nat)).map aP).zip ws)):aeT C A s (.ref x) (.ref y) ks.isEmpty:=by
 have hl:((((ks.map aP).zip vs).length ==((([]:List (List Nat)).map aP).zip ws).length)&&true)=ks.isEmpty:=by
  cases ks with
  |nil=>simp
  |cons k ks=>cases vs with
   |nil=>simp at xl
   |cons v vs=>simp
 have hits:((ks.map aP).zip vs).length=((([]:List (List Nat)).map aP).zip ws).length->KeqHits A.in1 s ((([]:List (List Nat)).map aP).zip ws) ((ks.map aP).zip vs) true:=fun z=>by
  have:(ks.map aP).zip vs=[]:=mx.mp (by simpa using z)
  rw[this];exact KeqHits.nil
 exact⟨fun Q h=>keq_eq x0 y0 xd yd (by omega) hits (by rw[hl];exact h),fun Q h=>keq_ne x0 y0 xd yd (by omega) hits (by rw[hl];exact h)⟩
theorem af0(hi: ∀b o,W.im b=some o->s.heap.get? b=some o)(hu:A.units+17<cLine){l m:aa}{r:Bool}(e:(bif re l m then Ku (wo 16) l m else some false)=some r){x y n n':Nat}{vs ws:List ah}(g:s.heap.get? x=some (dw vs n))(q:VL C W l vs)(g':s.heap.get? y=some (dw ws n'))(q':VL C W m ws):aeT C A s (.ref x) (.ref y) r:=by
 have hu':A.units<cLine:=eU (cQ _ _) hu
 refine bE e (fun hs e=> ?_) fun hs e=> ?_
 ·rw[Jf,decide_eq_true_iff]at hs
  have hs':vs.length=ws.length:=by rw[q.length,q'.length,hs]
  obtain⟨f,p,rfl⟩:=Pi (P:=Eqs A.in1 s) (fun a b r e v w hv hw=>ON (C:=C) hi 16 A.in1 (by show A.units+1+16<_;rw[ky];exact hu) a b r e v w hv hw) e q q'
  have he: ∀j (h1:j<vs.toArray.size) (h2:j<ws.toArray.size),EqAt A.in1 s vs.toArray[j] ws.toArray[j] (f j):=fun j h1 h2=>by simpa using (p j (by simpa using h1) (by simpa using h2)).eq
  have k1:=RcAt.lists (e:=f) (lI g) (lI g') (by simpa using hs') hu' he
  have k2:=RcNeAt.lists (e:=f) (lI g) (lI g') (by simpa using hs') hu' he
  simp only[aZ]at k1 k2
  have ez:((ct (min vs.length ws.length)).all f&&vs.length==ws.length)=(ct vs.length).all f:=by rw[hs'];simp
  rw[ez]
  exact⟨fun Q h=>k1 _ _ _ _ h,fun Q h=>k2 _ _ _ _ h⟩
 ·apply s1 e
  rw[Jf,decide_eq_false_iff_not]at hs
  have hs':(vs.toArray.size !=ws.toArray.size)=true:=by simpa[q.length,q'.length] using hs
  exact⟨fun Q h=>RcAt.lists_lengths (lI g) (lI g') hs' hu' _ _ _ _ h,fun Q h=>RcNeAt.lists_lengths (lI g) (lI g') hs' hu' _ _ _ _ h⟩
theorem Pg(R:cu C W σ s.heap)(hu:A.units+17<cLine){a b:AV}{r:Bool}(e:eqA σ a b=some r){v w:ah}(hv:V C W a v)(hw:V C W b w):aeT C A s v w r:=by
 have hi:=R.im
 refine odE e (fun b' q e=> ?_) fun e=>odE e (fun l hl e=>oE e fun m hm e=> ?_) fun e=>oE e fun ks hk e=>oE e fun ks' hm e=>kS e fun z e=> ?_
 ·apply s1 e
  have z:=ON (C:=C) hi 16 A (eU (cJ _) hu) a b b' q v w hv hw
  exact⟨fun Q h=>z.rc _ _ _ _ h,fun Q h=>z.ne _ _ _ _ h⟩
 ·exact ng R hl hv fun x n vs g q=>ng R hm hw fun y n' ws g' q'=>af0 hi hu e g q g' q'
 ·apply s1 e
  have z:ks'=[]:=ej.mp z
  subst z
  exact O7 R hk hv fun x vs x0 xl xd=>O7 R hm hw fun y ws y0 _ yd=>afZ hu x0 xl xd y0 yd
end
end
end
section
open PySem.SeqAt
noncomputable section
section
variable{C:PC}{W:Wd}{σ:AS}{h:bH}{A:bW}{s:az}
structure Gq(C:PC)(A:bW)(s:az)(v w:ah)(r:Bool):Prop where
 isIn: ∀Q:ah->az->Prop,(∀t,Q (.bool r) {s with toks:=t})->wpAny (dC C) A (compareOp .In v w) Q dm s
 not: ∀Q:ah->az->Prop,(∀t,Q (.bool !r) {s with toks:=t})->wpAny (dC C) A (compareOp .NotIn v w) Q dm s
theorem OJ: ∀{l:aa} {ss:List (List Nat)},nE l=some ss-> ∀{vs:List ah},VL C W l vs-> ∃ts:List Tok,ts.length=ss.length/\vs=(ss.zip ts).map fun p=>.str (aP p.1) p.2:=by
 intro l
 induction l with
 |nil=>intro ss e vs hv;cases e;exact hv.nilE ⟨[],rfl,rfl⟩
 |cons a l ih=>
  intro ss e vs hv
  refine hv.consE fun v r hv h2=> ?_
  revert hv
  refine fJ e fun x e hv=>oE e fun ss' q e=> ?_
  cases e
  refine hv.strE fun t=> ?_
  obtain⟨ts,a,b⟩:=ih q h2
  exact⟨t::ts,by simp[a],by simp[b]⟩
theorem ae1: ∀{l:aa} {ss:List Int},Nz l=some ss-> ∀{vs:List ah},VL C W l vs-> ∃ts:List Tok,ts.length=ss.length/\vs=(ss.zip ts).map fun p=>.int p.1 p.2:=by
 intro l
 induction l with
 |nil=>intro ss e vs hv;cases e;exact hv.nilE ⟨[],rfl,rfl⟩
 |cons a l ih=>
  intro ss e vs hv
  refine hv.consE fun v r hv h2=> ?_
  revert hv
  refine lb e fun x e hv=>oE e fun ss' q e=> ?_
  cases e
  refine hv.intE fun t=> ?_
  obtain⟨ts,a,b⟩:=ih q h2
  exact⟨t::ts,by simp[a],by simp[b]⟩
noncomputable def isS(x:Str)(y:ah):Bool:=match y with
 | .str z _=>z==x
 |_=>false
noncomputable def isI(x:Int)(y:ah):Bool:=match y with
 | .int z _=>z==x
 |_=>false
theorem Sf(p:ac): ∀(ss:List (List Nat)) (ts:List Tok),ts.length=ss.length->(((ss.zip ts).map fun p=>fZ (aP p.1) p.2).any (isS (aP p)))=wq p ss
 |[],_,_=>by simp[Wv]
 |a::r,[],e=>by simp at e
 |a::r,t::ts,e=>by
  rw[bJ,bc,rn,Wu,Sf p r ts (by simpa using e),<- ql];rfl
theorem Se(i:Int): ∀(ss:List Int) (ts:List Tok),ts.length=ss.length->(((ss.zip ts).map fun p=>Bg p.1 p.2).any (isI i))=Wt i ss
 |[],_,_=>by simp[Wt]
 |a::r,[],e=>by simp at e
 |a::r,t::ts,e=>by
  have:(a==i)=Kt a i:=by rw[qW];rfl
  rw[bJ,bc,rn,Wt,Se i r ts (by simpa using e),<- this];rfl
theorem abI{v:ah}{vs:List ah}{r:Bool}{f:ah->Bool}(hf: ∀y,y∈vs.toArray->EqAt A.in1 s y v (f y))(he:vs.toArray.any f=r){w:aC}(hw:s.heap.IsList w vs.toArray\/s.heap.IsTuple w vs.toArray):Gq C A s v (.ref w) r:=by
 subst he
 rcases hw with hw|hw
 ·exact⟨fun Q h=>in_listAt f hw hf (h s.toks),fun Q h=>notIn_listAt f hw hf (h s.toks)⟩
 ·exact⟨fun Q h=>in_tupleAt f hw hf (h s.toks),fun Q h=>notIn_tupleAt f hw hf (h s.toks)⟩
theorem ZI{x:AV}{l:aa}{r:Bool}(e:inL x l=some r){v:ah}(hv:V C W x v){vs:List ah}(hl:VL C W l vs){w:aC}(hw:s.heap.IsList w vs.toArray\/s.heap.IsTuple w vs.toArray):
  Gq C A s v (.ref w) r:=by
 revert hv
 cases x<;>intro hv<;>first|exact nn e|skip
 ·refine oE (show ob (Nz l) _=_ from e) fun ss q e=> ?_
  apply s1 e
  refine hv.intE fun t=> ?_
  obtain⟨ts,a,rfl⟩:=ae1 q hl
  exact abI (f:=isI _) (fun y hy=>by
   simp only[tu,dy]at hy
   obtain⟨z,_,rfl⟩:=hy
   exact EqAt.int_int _ _ _ _) (by rw[tq];exact Se _ ss ts a) hw
 ·refine oE (show ob (nE l) _=_ from e) fun ss q e=> ?_
  apply s1 e
  refine hv.strE fun t=> ?_
  obtain⟨ts,a,rfl⟩:=OJ q hl
  exact abI (f:=isS _) (fun y hy=>by
   simp only[tu,dy]at hy
   obtain⟨z,_,rfl⟩:=hy
   exact EqAt.str_str _ _ _ _) (by rw[tq];exact Sf _ ss ts a) hw
theorem JA(p:ac): ∀(ks:List (List Nat)) (vs:List ah),ks.length=vs.length->(valueAt ((ks.map aP).zip vs) (aP p)).isSome=wq p ks
 |[],_,_=>by simp[valueAt,Wv]
 |k::ks,[],e=>by simp at e
 |k::ks,v::vs,e=>by
  have ih:=JA p ks vs (by simpa using e)
  have z:=ql (a:=k) (b:=p)
  simp only[valueAt,bc,bJ,oA,Wu]at ih ⊢
  by_cases q:aP k=aP p
  ·rw[q]at z;simp only[beq_self_eq_true]at z;simp[q,<- z]
  ·have:dp k p=false:=by rw[<- z];exact beq_eq_false_iff_ne.mpr q
   simp[q,this,ih]
theorem ZH{x:aC}{ks:List (List Nat)}{vs:List ah}{p:ac}{t:Tok}(x0:(x==sysModules)=false)(xl:ks.length=vs.length)(xd:s.heap.DictOf (strKind C.prog C.w) x ((ks.map aP).zip vs)):
  Gq C A s (.str (aP p) t) (.ref x) (wq p ks):=by
 have e:=JA p ks vs xl
 exact⟨fun Q h=>wpAny_in_of (strKind_is C.prog C.w (aP p) t) x0 xd.mapOf (by rw[e];exact h _),fun Q h=>wpAny_notIn_of (strKind_is C.prog C.w (aP p) t) x0 xd.mapOf (by rw[e];exact h _)⟩
theorem ZG(R:cu C W σ s.heap){x c:AV}{r:Bool}(e:inA σ x c=some r){v w:ah}(hv:V C W x v)(hw:V C W c w):Gq C A s v w r:=by
 have dct: ∀{c:AV} {ks:List (List Nat)},O6 σ c=some ks->V C W c w->(d7 x fun p=>some (wq p ks))=some r->Gq C A s v w r:=fun hc hw e=>by
  revert hv
  refine fJ e fun p e hv=> ?_
  apply s1 e
  exact hv.strE fun u=>O7 R hc hw fun y vs y0 yl yd=>ZH y0 yl yd
 have seq: ∀{c:AV} {l:List AV},nw σ c=some l->V C W c w->inL x l=some r->Gq C A s v w r:=fun hc hw e=>Hc R hc hw fun y vs q z=>ZI e hv q z
 revert hw
 cases c<;>intro hw<;>first|exact nn e|skip
 ·rename_i s'
  revert hv
  refine fJ e fun p e hv=> ?_
  apply s1 e
  exact hv.strE fun u=>hw.strE fun t=>⟨fun Q h=>VJ (by rw[SA];exact h s.toks),fun Q h=>QY (by rw[SA];exact h s.toks)⟩
 ·exact seq rfl hw e
 ·exact seq rfl hw e
 ·exact dct rfl hw e
 ·rename_i a
  refine oE (show ob (σ.get a) _=_ from e) fun cl hg e=> ?_
  cases cl<;>first|exact nn e|skip
  ·exact seq (c:=.ref a) (show nh σ a some=_ by unfold nh;rw[hg];rfl) hw e
  ·exact dct (c:=.ref a) (show So σ a (fun ks _=>some ks)=_ by unfold So;rw[hg];rfl) hw e
theorem FH{a:AV}{r:Bool}(e:lG a=some r){v:ah}(hv:V C W a v):(v== .none)=r:=by
 revert hv
 cases a<;>intro hv<;>first|exact nn e|(apply s1 e;first|exact hv.noneE rfl|exact hv.boolE rfl|exact hv.intE fun _=>rfl|exact hv.strE fun _=>rfl|exact hv.bytesE fun _=>rfl|exact hv.tupE fun _ _ _ _ _=>rfl|exact hv.lstE fun _ _ _ _ _=>rfl|exact hv.frzE fun _ _ _ _ _ _ _ _ _ _=>rfl|exact hv.dctE fun _ _ _ _ _ _ _=>rfl|exact hv.dctiE fun _ _ _ _ _ _ _=>rfl|exact hv.rngE fun _ _ _ _ _ _ _=>rfl|exact hv.refE fun _ _=>rfl)
end
end
end
section
open PySem.SeqAt
noncomputable section
section
variable{X:FX}{k:Nat}{W W':Wd}{fr:Fm}{σ ai:AS}{s s':az}{A:bW}
@[elab_as_elim] theorem U1 {o:Option Bool} {r:Bool} {P:Bool->Prop} (e:S6 o=some r) (k: ∀b,o=some b->P (!b)):P r:=oE e fun b q e=>by
 apply s1 e;exact k b q
theorem yZ(hk:5<=k)(R:eH A k)(T:St X W fr σ s){op:gP}{a b:AV}{r:Bool}(e:bU op a b σ=some r){v w:ah}(hv:V X.C W a v)(hw:V X.C W b w):
  wpAny (dC X.C) A (compareOp op v w) (fE X W fr (.bool r) σ) dm s:=by
 have hu:A.units+17<cLine:=by have:=R.units;omega
 have fin: ∀r,fE X W fr (.bool r) σ (.bool r) s:=fun r=>T.post rfl
 have two: ∀{f:Int->Int->Bool} {op:gP},(eO a fun i=>eO b fun j=>some (f i j))=some r->(∀i j t u,wpAny (dC X.C) A (compareOp op (.int i t) (.int j u)) (fE X W fr (.bool (f i j)) σ) dm s)->wpAny (dC X.C) A (compareOp op v w) (fE X W fr (.bool r) σ) dm s:=fun e h=>by
  revert hv
  refine lb e fun i e hv=> ?_
  revert hw
  refine lb e fun j e hw=> ?_
  apply s1 e
  exact hv.intE fun t=>hw.intE fun u=>h i j t u
 have inn: ∀{r':Bool},inA σ a b=some r'->Gq X.C A s v w r':=fun e=>ZG T.rel e hv hw
 have le: ∀i j:Int,(!CF j i)=decide (i<=j):=fun i j=>by rw[xK,<- decide_not];congr 1;rw[sF]
 cases op with
 |Eq=>exact(Pg T.rel hu e hv hw).eq _ (fin _)
 |NotEq=>exact U1 e fun b' q=>(Pg T.rel hu q hv hw).ne _ (fin _)
 |Lt=>exact two e fun i j t u=>by rw[xK];exact VM (fin _)
 |LtE=>
  revert hv
  cases a<;>intro hv<;>first|exact nn e|skip
  ·rename_i i
   revert hw
   refine lb (show(eO b fun j=>some (!CF j i))=some r from e) fun j e hw=> ?_
   apply s1 e
   refine hv.intE fun t=>hw.intE fun u=> ?_
   rw[le];exact VK (fin _)
  ·rename_i x
   revert hw
   refine fJ (show(d7 b fun t=>some (!CG t x))=some r from e) fun j e hw=> ?_
   apply s1 e
   refine hv.strE fun t=>hw.strE fun u=>PySem.P.le_str ?_
   rw[gJ,gJ,Ek]
   exact fin _
 |Gt=>exact two (f:=fun i j=>CF j i) e fun i j t u=>by rw[xK];exact VI (fin _)
 |GtE=>exact two (f:=fun i j=> !CF i j) e fun i j t u=>by rw[le];exact VH (fin _)
 |Is=>
  revert hw
  exact Cb e fun e hw=>hw.noneE (is_none (by rw[FH e hv];exact fin _))
 |IsNot=>
  revert hw
  exact Cb e fun e hw=>hw.noneE (U1 e fun b' q=>isNot_none (by rw[FH q hv];exact fin _))
 |In=>exact VC (ax s.toks) ((inn e).isIn _ fun t ht=>(T.toks t ht).post rfl)
 |NotIn=>exact U1 e fun b' q=>VC (ax s.toks) ((inn q).not _ fun t ht=>(T.toks t ht).post rfl)
theorem Si{f:AV->AV->AS->Option Bool}{m n:EM}{r:Bool}(e:fh f m n fr σ=some (r,ai)){P:Prop}(k: ∀a ay b,m fr σ=some (a,ay)->n fr ay=some (b,ai)->f a b ai=some r->P):P:=
 fG e fun a ay e1 e=>fG e fun b aM e2 e=>oE e fun r' e3 e=>by
  cases e;exact k a ay b e1 e2 e3
@[elab_as_elim] theorem aaa {m:BM} {c:AV} {Q:AV->AS->Prop} (e:rI m fr σ=some (c,ai)) (k: ∀b ay,m fr σ=some (b,ay)->Q (.bool b) ay):Q c ai:=fG e fun b ay q e=>by
 apply s2 e;exact k b ay q
theorem ajQ{op:gP}{m n:EM}{a b:an}{p:Pos}(hk:5<=k)(hm:bX X k m a)(hn:bX X k n b)(hb:behindInMarks op b=false):bX X k (rI (fh (bU op) m n)) (.Compare a [op] [b] p):=fun A R W fr σ s T c ai e=>by
 refine aaa e fun r ay q=> ?_
 exact Si q fun x ay y e1 e2 e3=>wpAny_Compare1 (Ex hm hn R T e1 e2 fun v w dP cq l cH d5 jV=>ek (yZ hk R cH e3 d5 jV) fun _ _ z=>z.le l) hb
theorem aet{op:gP}{m n:EM}{a b:an}{p:Pos}(hk:5<=k)(hm:bX X k m a)(hn:bX X k n b)(hb:behindInMarks op b=false):m8 X k (fh (bU op) m n) (.Compare a [op] [b] p):=fun A R W fr σ s T r ai e=>by
 refine Si e fun x ay y e1 e2 e3=>wpAny_isTrue_Compare1 (Ex hm hn R T e1 e2 fun v w dP cq l cH d5 jV=>ek (yZ hk R cH e3 d5 jV) fun u jE z=> ?_) hb
 exact z.elim fun xq gR iZ h=>h.boolE (fD ⟨rfl,xq,l.trans gR,iZ⟩)
theorem jJ{n:Nat}(h:dv n=true):n<=4000000:=av h
theorem iR{n:Nat}(h:dv n=true):n<=sizeLine:=au (jJ h) (by decide)
theorem mi{l:aa}{vs:List ah}(h:VL X.C W l vs):vs.toArray.isEmpty=l.isEmpty:=by
 have:=h.length
 cases l<;>cases vs<;>simp_all
@[elab_as_elim] theorem LG {l:aa} {b:Bool} (e:Po l=some b) {P:Bool->Prop} (k:dv l.length=true->P (!l.isEmpty)):P b:=kS e fun h e=>by
 apply s1 e;exact k h
theorem zy(T:St X W fr σ s){a:AV}{b:Bool}(e:qG σ a=some b){v:ah}(hv:V X.C W a v):wpAny (dC X.C) A (truthy v) (oS X W fr b σ) dm s:=by
 have lst: ∀{a:AV} {l:List AV},iJ σ a=some l->V X.C W a v->Po l=some b->wpAny (dC X.C) A (truthy v) (oS X W fr b σ) dm s:=fun q1 hv q2=>by
  refine ng T.rel q1 hv fun x n vs g q=> ?_
  refine LG q2 fun ok=> ?_
  refine wpAny_truthy_list (lI g) (by have:=jJ ok;simp only[aZ,q.length];omega) ?_
  rw[mi q];exact(T.toks _).postB _
 revert hv
 cases a<;>intro hv<;>first|exact nn e|skip
 ·apply s1 e;exact hv.noneE (NV (T.postB _))
 ·apply s1 e;exact hv.boolE (fD (T.postB _))
 ·rename_i i
  apply s1 e
  have:(!Kt i 0)=(i !=0):=by rw[qW];rfl
  rw[this]
  exact hv.intE fun t=>PySem.P.truthy_int (T.postB _)
 ·rename_i x
  refine kS e fun ok e=> ?_
  apply s1 e
  have hl:=jJ ok
  refine hv.strE fun t=>PySem.P.truthy_str (by rw[bI];omega) ?_
  have:(((aP x).length:Int) !=0)= !x.isEmpty:=by
   rw[bI]
   cases x with
   |nil=>rfl
   |cons a l=>simp only[bK,EF,fi];exact bne_iff_ne.mpr (by omega)
  rw[this];exact(T.toks _).postB _
 ·rename_i l
  refine LG e fun ok=> ?_
  refine hv.tupE fun x n vs g q=> ?_
  refine Ni (items:=vs.toArray) ⟨_,T.rel.im _ _ g,rfl,n,rfl⟩ (by have:=jJ ok;simp only[aZ,q.length];omega) ?_
  rw[mi q];exact(T.toks _).postB _
 ·exact lst rfl hv e
 ·refine lstE e fun l hg e=>lst (a:=.ref _) ?_ hv e
  show nh σ _ some=some l
  unfold nh;rw[hg];rfl
theorem oS.le'{b b':Bool}(l:W.le W')(z:oS X W' fr b σ b' s):oS X W fr b σ b' s:=⟨z.1,let⟨cq,dJ,cH⟩:=z.2;⟨cq,l.trans dJ,cH⟩⟩
theorem Yp{m:EM}{b:Bool}{P:Prop}(e:ja m fr σ=some (b,ai))(k: ∀a,m fr σ=some (a,ai)->qG ai a=some b->P):P:=fG e fun a ay e1 e=>oE e fun b' e2 e=>by
 cases e;exact k a e1 e2
theorem aeC{m:EM}{e:an}(hm:bX X k m e)(he: ∀env w,isTrue e env w=(do let v <- w;standAt e.pos;holding [v] (truthy v))):m8 X k (ja m) e:=fun A R W fr σ s T b ai q=>by
 rw[he]
 exact Yp q fun a e1 e2=>aq (hm.go R T e1 fun v bk be bv bo d5=>aq (du (dF (ek (zy bo e2 d5) fun _ _ z=>z.le' bv))))
@[elab_as_elim] theorem abr {m:BM} {b:Bool} {Q:Bool->AS->Prop} (e:oZ m fr σ=some (b,ai)) (k: ∀a ay,m fr σ=some (a,ay)->Q (!a) ay):Q b ai:=fG e fun a ay e1 e=>by
 apply s2 e;exact k a ay e1
theorem aeA{b:BM}{e:an}{p:Pos}(hb:m8 X k b e):m8 X k (oZ b) (.UnaryOp .Not e p):=fun A R W fr σ s T r ai q=>by
 refine abr q fun a ay e1=> ?_
 show wpAny _ _ (do return !(<- isTrue e X.env (eval e X.env))) _ _ _
 exact aq (hb.go R T e1 fun bk be bv bo=>aL ⟨rfl,be,bv,bo⟩)
theorem akQ(op:cz)(x y:an)(env:Env):allTrue op [x,y] env=(do match op,<- isTrue x env (eval x env)with| .And,false=>pure false| .Or,true=>pure true|_,_=>allTrue op [y] env):=rfl
theorem Uo{M:kW}{Q:Bool->az->Prop}{E:ah->az->Prop}(op:cz)(y:an)(env:Env)(h:wpAny M A (isTrue y env (eval y env)) Q E s):wpAny M A (allTrue op [y] env) Q E s:=by
 show wpAny M A (do match op,<- isTrue y env (eval y env)with| .And,false=>pure false| .Or,true=>pure true|_,_=>allTrue op [] env) Q E s
 refine aq (jp h (fun b s' hq=> ?_) fun _ _ e=>e)
 cases op<;>cases b<;>exact aL hq
def pJ(X:FX)(k:Nat)(op:cz)(m:BM)(es:List an):Prop:=
 ∀A,eH A k-> ∀W fr σ s,St X W fr σ s-> ∀b ai,m fr σ=some (b,ai)->wpAny (dC X.C) A (allTrue op es X.env) (oS X W fr b ai) dm s
theorem pJ.one{op:cz}{b:BM}{e:an}(h:m8 X k b e):pJ X k op b [e]:=fun A R W fr σ s T r ai q=>Uo op e X.env (h A R W fr σ s T r ai q)
theorem pJ.and{a b:BM}{e:an}{es:List an}(ha:m8 X k a e)(hb:pJ X k .And b es):pJ X k .And (amE a b) (e::es):=fun A R W fr σ s T r ai q=>by
 show wpAny _ _ (do match YD,<- isTrue e X.env (eval e X.env)with| .And,false=>pure false| .Or,true=>pure true|_,_=>allTrue .And es X.env) _ _ _
 refine fG q fun t ay e1 q=>aq (ha.go R T e1 fun bk be bv bo=> ?_)
 cases t with
 |true=>exact ek (hb A R be fr ay bk bo r ai q) fun _ _ z=>z.le' bv
 |false=>apply s2 q;exact aL ⟨rfl,be,bv,bo⟩
theorem pJ.or{a b:BM}{e:an}{es:List an}(ha:m8 X k a e)(hb:pJ X k .Or b es):pJ X k .Or (Rp a b) (e::es):=fun A R W fr σ s T r ai q=>by
 show wpAny _ _ (do match aaX,<- isTrue e X.env (eval e X.env)with| .And,false=>pure false| .Or,true=>pure true|_,_=>allTrue .Or es X.env) _ _ _
 refine fG q fun t ay e1 q=>aq (ha.go R T e1 fun bk be bv bo=> ?_)
 cases t with
 |true=>apply s2 q;exact aL ⟨rfl,be,bv,bo⟩
 |false=>exact ek (hb A R be fr ay bk bo r ai q) fun _ _ z=>z.le' bv
theorem pJ.test{op:cz}{m:BM}{es:List an}{p:Pos}(h:pJ X k op m es):m8 X k m (.BoolOp op es p):=fun A R W fr σ s T r ai q=>h A R W fr σ s T r ai q
def kP(X:FX)(k:Nat)(op:cz)(m:EM)(es:List an):Prop:=
 ∀A,eH A k-> ∀W fr σ s,St X W fr σ s-> ∀a ai,m fr σ=some (a,ai)-> ∀p,wpAny (dC X.C) A (boolOp p op (evalEach es X.env)) (fE X W fr a ai) dm s
theorem kP.one{op:cz}{m:EM}{e:an}(h:bX X k m e):kP X k op m [e]:=fun A R W fr σ s T a ai q p=>h A R W fr σ s T a ai q
theorem Ux(p:Pos)(op:cz)(x:Sem ah)(y:Sem ah)(r:List (Sem ah)):boolOp p op (x::y::r)=(do
  let v <- x
  standAt p
  let t <- holding [v] (truthy v)
  match op,t with
  | .And,false| .Or,true=>pure v
  |_,_=>boolOp p op (y::r)):=rfl
theorem WJ{op:cz}{m:EM}{e e':an}{es:List an}(hm:bX X k m e)(R:eH A k)(T:St X W fr σ s){a:AV}{ay:AS}(e1:m fr σ=some (a,ay)){t:Bool}(e2:qG ay a=some t){p:Pos}{Q:ah->az->Prop}
  (h: ∀v dP cq,W.le cq->St X cq fr ay dP->V X.C cq a v->wpAny (dC X.C) A (match op,t with| .And,false| .Or,true=>pure v|_,_=>boolOp p op (evalEach (e'::es) X.env)) Q dm dP):wpAny (dC X.C) A (boolOp p op (evalEach (e::e'::es) X.env)) Q dm s:=by
 show wpAny _ _ (boolOp p op (eval e X.env::eval e' X.env::evalEach es X.env)) _ _ _
 rw[Ux]
 exact aq (hm.go R T e1 fun v bk be bv bo d5=>aq (du (aq (dF (ek (zy bo e2 d5) fun t dP z=>z.elim fun cq dJ cH=>h v dP cq (bv.trans dJ) cH (d5.mono dJ))))))
theorem kP.and{m n:EM}{e e':an}{es:List an}(hm:bX X k m e)(hn:kP X k .And n (e'::es)):kP X k .And (Sq m n) (e::e'::es):=fun A R W fr σ s T a ai q p=>by
 refine fG q fun vX ay e1 q=>oE q fun t e2 q=>WJ hm R T e1 e2 fun v dP cq l cH z=> ?_
 cases t with
 |true=>exact ek (hn A R cq fr ay dP cH a ai q p) fun _ _ z=>z.le l
 |false=>apply s2 q;exact aL ⟨cq,l,cH,z⟩
theorem kP.or{m n:EM}{e e':an}{es:List an}(hm:bX X k m e)(hn:kP X k .Or n (e'::es)):kP X k .Or (eOr m n) (e::e'::es):=fun A R W fr σ s T a ai q p=>by
 refine fG q fun vX ay e1 q=>oE q fun t e2 q=>WJ hm R T e1 e2 fun v dP cq l cH z=> ?_
 cases t with
 |true=>apply s2 q;exact aL ⟨cq,l,cH,z⟩
 |false=>exact ek (hn A R cq fr ay dP cH a ai q p) fun _ _ z=>z.le l
theorem kP.val{op:cz}{m:EM}{es:List an}{p:Pos}(h:kP X k op m es):bX X k m (.BoolOp op es p):=fun A R W fr σ s T a ai q=>h A R W fr σ s T a ai q p
theorem ajX{m:EM}{e:an}{p:Pos}(hm:bX X k m e):bX X k (rI (oZ (ja m))) (.UnaryOp .Not e p):=fun A R W fr σ s T a ai q=>by
 refine aaa q fun r ay e0=> ?_
 refine abr e0 fun r ay e0=> ?_
 refine Yp e0 fun a e1 e2=> ?_
 show wpAny _ _ (do let v <- eval e X.env;standAt p;holding [v] (unaryOp .Not v)) _ _ _
 exact aq (hm.go R T e1 fun v bk be bv bo d5=>aq (du (dF (VN (ek (zy bo e2 d5) fun t dP z=>z.elim fun cq dJ cH=>⟨cq,bv.trans dJ,cH,rfl⟩)))))
theorem ajW{m:EM}{e:an}{p:Pos}(hm:bX X k m e):bX X k (un ahO m) (.UnaryOp .USub e p):=fun A R W fr σ s T a ai q=>by
 refine fG q fun vX ay e1 q=>oE q fun b e2 q=> ?_
 apply s2 q
 show wpAny _ _ (do let v <- eval e X.env;standAt p;holding [v] (unaryOp .USub v)) _ _ _
 refine aq (hm.go R T e1 fun v bk be bv bo d5=>aq (du (dF ?_)))
 revert d5
 refine lb e2 fun i e2 d5=> ?_
 apply s1 e2
 exact d5.intE fun t=>TL ⟨be,bv,bo.toks _,_,rfl⟩
theorem ajU{c:BM}{m n:EM}{t a b:an}{p:Pos}(hc:m8 X k c t)(hm:bX X k m a)(hn:bX X k n b):bX X k (sY c m n) (.IfExp t a b p):=fun A R W fr σ s T v ai q=>by
 show wpAny _ _ (do if <- isTrue t X.env (eval t X.env)then eval a X.env else eval b X.env) _ _ _
 refine fG q fun r ay e1 q=>aq (hc.go R T e1 fun bk be bv bo=> ?_)
 cases r with
 |true=>exact ek (hm A R be fr ay bk bo v ai q) fun _ _ z=>z.le bv
 |false=>exact ek (hn A R be fr ay bk bo v ai q) fun _ _ z=>z.le bv
end
end
end
section
open PySem.SeqAt
noncomputable section
section
variable{X:FX}{k:Nat}{W W':Wd}{fr:Fm}{σ ai:AS}{s s':az}{A:bW}
theorem zq{i:Int}(h:mu i=true):kJ i<=4001:=by
 have h1:i.natAbs<=2^4000:=av h
 unfold kJ
 split
 ·omega
 ·rename_i q
  have h0:i.natAbs≠0:=by simpa using q
  have:i.natAbs.log2<4001:=(Fc h0).mpr (eU h1 (yA (by decide) (by decide)))
  omega
theorem t5: ∀(n:Nat) (x acc:List ah),((bD n x.toArray).foldl (fun x1 x2=>x1++x2) acc.toArray)=(acc++(bD n x).flatten).toArray
 |0,x,acc=>by simp
 |n+1,x,acc=>by
  rw[kM,HF,kM,mD,<- aB]
  have e:acc.toArray++x.toArray=(acc++x).toArray:=by simp
  rw[e];exact t5 n x (acc++x)
theorem aa5{C:PC}{l:aa}{vs:List ah}(h:VL C W l vs): ∀n,VL C W ((bD n l).flatten) ((bD n vs).flatten)
 |0=>VL.nil
 |n+1=>by
  rw[kM,mD,kM,mD]
  exact h.append (aa5 h n)
@[elab_as_elim] theorem ae7 {a b:AV} {f:Int->Int->Option AV} {r:AV} {C:PC} {W:Wd} {v w:ah} {Q:ah->ah->Prop} (e:(eO a fun i=>eO b fun j=>f i j)=some r) (hv:V C W a v) (hw:V C W b w) (k: ∀i j t u,f i j=some r->Q (.int i t) (.int j u)):Q v w:=by
 revert hv
 refine lb e fun i e hv=> ?_
 revert hw
 refine lb e fun j e hw=> ?_
 exact hv.intE fun t=>hw.intE fun u=>k i j t u e
theorem X4{j:Int}(h:mu j=true)(h0:j≠0):j.natAbs.log2<4001:=by
 have h1:j.natAbs<=2^4000:=av h
 exact(Fc (Int.natAbs_ne_zero.mpr h0)).mpr (eU h1 (yA (by decide) (by decide)))
theorem WF(T:St X W fr σ s){op:iu}{a b c:AV}(e:amG op a b=some c){v w:ah}(hv:V X.C W a v)(hw:V X.C W b w):
  wpAny (dC X.C) A (binaryOp op v w) (fE X W fr c σ) dm s:=by
 have int: ∀i t,fE X W fr (.int i) σ (.int i t) {s with toks:=s.toks+1}:=fun i t=>(T.toks _).post ⟨_,rfl⟩
 have hii: ∀{op:iu} {f:Int->Int->Option AV},(eO a fun i=>eO b fun j=>f i j)=some c->(∀i j t u,f i j=some c->wpAny (dC X.C) A (binaryOp op (.int i t) (.int j u)) (fE X W fr c σ) dm s)->wpAny (dC X.C) A (binaryOp op v w) (fE X W fr c σ) dm s:=fun e h=>ae7 e hv hw h
 cases op<;>first|exact nn e|skip
 ·revert hv
  cases a<;>intro hv<;>first|exact nn e|skip
  ·revert hw
   refine lb (show(eO b fun j=>_)=some c from e) fun j e hw=> ?_
   apply s1 e
   exact hv.intE fun t=>hw.intE fun u=>TG (int _ _)
  ·rename_i x
   revert hw
   refine fJ (show(d7 b fun t=>_)=some c from e) fun y e hw=>kS e fun ok e=> ?_
   rw[ib,ib]at ok
   rw[Ww]at e
   apply s1 e
   refine hv.strE fun t=>hw.strE fun u=>VC (ax s.toks) (TH (fun t' tk ht=>(T.toks _ ht).post ⟨t',by rw[RJ]⟩) ?_)
   rw[bI,bI];exact iR ok
  ·rename_i l
   revert hw
   refine Np (show(GQ b fun t=>_)=some c from e) fun m e hw=>kS e fun z e=> ?_
   apply s1 e
   simp only[cD,dX]at z
   obtain⟨⟨z1,z2⟩,z3⟩:=z
   refine hv.tupE fun x n vs g q=>hw.tupE fun y n' ws g' q'=> ?_
   refine PySem.P.add_tuple (items:=vs.toArray) (items2:=ws.toArray) (T.rel.im _ _ g) (T.rel.im _ _ g') (by rw[mi q,z2];decide) (by rw[mi q',z3];decide) ?_ ?_
   ·rw[AZ]
    obtain⟨l,T'⟩:=T.pushIm (o:=tb (vs++ws) 0) rfl s.toks
    exact⟨_,l,T',_,0,vs++ws,rfl,mh,(q.mono l).append (q'.mono l)⟩
   ·rw[aZ,aZ,q.length,q'.length];exact iR z1
 ·exact hii e fun i j t u e=>by apply s1 e;exact TN (int _ _)
 ·revert hv
  cases a<;>intro hv<;>first|exact nn e|skip
  ·revert hw
   refine lb (show(eO b fun j=>_)=some c from e) fun j e hw=>kS e fun ok e=> ?_
   apply s1 e
   obtain⟨o1,o2⟩:=br.mp ok
   exact hv.intE fun t=>hw.intE fun u=>TK (int _ _) (IntMulOk.of_bits (au (zq o1) (by decide)) (au (zq o2) (by decide)))
  ·revert hw
   refine lb (show(eO b fun j=>_)=some c from e) fun j e hw=>kS e fun z e=> ?_
   apply s1 e
   simp only[cD,xK,decide_eq_true_eq]at z
   obtain⟨z1,z2⟩:=z
   refine hv.strE fun t=>hw.intE fun u=>VC (ax s.toks) (PySem.SB.mul ⟨by simp;omega,fun h=>absurd z2 h,fun h=>absurd z2 h⟩ fun t' tk ht=>(T.toks _ ht).post ⟨t',?_⟩)
   unfold Txt.mul;rw[if_pos z2];rfl
 ·exact hii e fun i j t u e=>kN e fun z e=>by
   apply s1 e
   rw[qW,decide_eq_false_iff_not]at z
   exact TJ z (int _ _)
 ·exact hii e fun i j t u e=>kS e fun z e=>by
   apply s1 e
   simp only[cD,dX,xK,decide_eq_true_eq,decide_eq_false_iff_not]at z
   obtain⟨⟨z1,z2⟩,z3⟩:=z
   refine TM (sF.mp z2) ?_ (int _ _)
   have:=zq z1
   have h1:(kJ i:Int)<=4001:=by omega
   have h2:(kJ i:Int)*j<=4001*1000:=Int.mul_le_mul h1 (by omega) (by omega) (by omega)
   omega
 ·exact hii e fun i j t u e=>kN e fun z e=>by
   apply s1 e
   simp only[ou,qW,decide_eq_false_iff_not,Bool.not_eq_false']at z
   exact Nh z.1 (int _ _) (.inl (PyProof.noPylong_of_log2 (Nat.lt_trans (X4 z.2 z.1) (by decide))))
theorem UZ{prog:fQ}{w:dD}{E:ah->az->Prop}{l:aC}{items:Array ah}{n:Nat}{x:Int}{u:Tok}{Q:ah->az->Prop}(hl:s.heap.get? l=some {cls:=.type "list",dict:=none,data:=.seq items n,slots:= #[]})
  (k1: ¬(!ku x)=true)(k2: ¬items.size*x.toNat>(2^63-1) / 8)(k3: ¬iU (items.size*x.toNat)=true)
  (h:Q (.ref s.heap.objs.size) {s with heap:=s.heap.push {cls:=.type "list",data:=.seq (TE (fun x1 x2=>x1++x2) #[] (bD (if items.isEmpty=true then 0 else x.toNat) items))}}):
  wpAny (model prog w) A (binaryOp .Mult (.ref l) (.int x u)) Q E s:=
 wpAny_binaryOp_repeat_ref (T:="list") (U:="int") (by decide) ⟨_,hl,rfl⟩ (fun s'=>typeIs_int s' x u) noFill_list_mul F.fills_int_mul HE repeat_list F.slot_int_index.lookup
  (l4 HE (typeIs_int s x u) F.entry_int_rmul (F.args_int_rmul_2 _ _) (int___rmul___int_list x u l items n)
   ⟨hl,rfl,⟨_,hl,rfl⟩,l4 F.slot_list_mul ⟨_,hl,rfl⟩ F.entry_list_mul (F.args_list_mul_2 _ _)
    (Fb l items n x u k1 k2 k3) ⟨hl,h⟩⟩)
theorem Z3(T:St X W fr σ s){x j:Nat}{l:aa}(hg:σ.get x=some (.lst l))(z:bp j 100=true)(z2:cP l.length 1000=true){v:ah}(hv:V X.C W (.ref x) v)(u:Tok):
  wpAny (dC X.C) A (binaryOp .Mult v (.int (.ofNat j) u)) (fE X W fr (.ref σ.next) (σ.alloc (.lst ((bD j l).flatten)))) dm s:=by
 refine T.rel.lstE hg hv fun p vs n _ _ g q=> ?_
 have z:=cX.mp z
 have z2:=av z2
 have hp:vs.length*j<=1000*100:=Nat.mul_le_mul (by rw[q.length];exact z2) (iW z)
 have hj:(am j).toNat=j:=rfl
 have hz:vs.toArray.size*(am j).toNat <=100000:=by rw[aZ,hj];exact hp
 clear hv hg hp z2
 have k1: ¬(!ku (am j))=true:=by
  have h1:(-(2^63):Int)<=am j:=by have:=de j;show(-(2^63):Int)<=(j:Int);omega
  have h2:(am j:Int)<2^63:=by show(j:Int)<2^63;omega
  simp only[ku,decide_eq_true h1,decide_eq_true h2];decide
 have k2: ¬vs.toArray.size*(am j).toNat >(2^63-1) / 8:=b5.mpr (au hz (by decide))
 have k3: ¬iU (vs.toArray.size*(am j).toNat)=true:=by
  unfold iU sizeLine;rw[decide_eq_true_iff];exact b5.mpr (au hz (by decide))
 refine UZ g k1 k2 k3 ?_
 have e1:(TE (fun x1 x2=>x1++x2) #[] (bD (if vs.toArray.isEmpty=true then 0 else(am j).toNat) vs.toArray))=((bD j vs).flatten).toArray:=by
  have e2:=t5 (if vs.toArray.isEmpty=true then 0 else(am j).toNat) vs []
  rw[u9]at e2
  rw[show(#[]:Array ah)=([]:List ah).toArray from rfl,e2]
  cases vs with
  |nil=>simp
  |cons v vs=>simp
 rw[e1]
 obtain⟨l,T'⟩:=T.pushLst (aa5 q j) s.toks
 exact⟨_,l,T',qU⟩
theorem Y1{op:iu}:amz X k (binaryOp op) (bT op):=fun A R W fr σ s T a b v w hv hw c ai e=>by
 refine odE e (fun c' q e=> ?_) fun e=> ?_
 ·apply s2 e;exact WF T q hv hw
 cases op<;>first|exact nn e|skip
 ·refine oE (show ob (iJ σ a) _=_ from e) fun l hl e=>oE e fun m hm e=>kS e fun ok e=> ?_
  apply s2 e
  refine ng T.rel hl hv fun x n vs g q=>ng T.rel hm hw fun y n' ws g' q'=>PySem.P.add_list (items:=vs.toArray) (items2:=ws.toArray) g g' ?_ ?_
  ·rw[AZ]
   obtain⟨l,T'⟩:=T.pushLst (q.append q') s.toks
   exact⟨_,l,T',qU⟩
  ·rw[aZ,aZ,q.length,q'.length];exact iR ok
 ·revert hv
  refine ip (show(ia a fun x=>_)=some (c,ai) from e) fun x e hv=> ?_
  revert hw
  refine mc e fun j e hw=>kS e fun z e=>lstE e fun l hg e=>kS e fun z2 e=> ?_
  apply s2 e
  exact hw.intE fun u=>Z3 T hg z z2 hv u
end
end
end
section
open PySem.SeqAt
noncomputable section
section
variable{X:FX}{k:Nat}{W W':Wd}{fr:Fm}{σ ai:AS}{s s':az}{A:bW}{h:bH}{C:PC}
noncomputable def sU:an->Bool
 | .Call f a _ _=>match f with
  | .Name .. => !a.isEmpty
  | .Attribute .. =>true
  |_=>false
 |_=>true
theorem afi{o:an}(ho:sU o=true)(attr:Str)(env:Env)(w:Sem ah):attributeBase o attr env w=w:=by
 cases o with
 |Call f a k p=>cases f with
  |Name x q=>cases a with
   |nil=>exact ff ho
   |cons=>rfl
  |Attribute=>rfl
  |_=>exact ff ho
 |_=>rfl
theorem lR{M:kW}{E:ah->az->Prop}{o:an}{attr:Str}{env:Env}{Q:ah->az->Prop}(ho:sU o=true)
  (h:wpAny M A (eval o env) Q E s):wpAny M A (attributeBase o attr env (eval o env)) Q E s:=by
 rw[afi ho];exact h
theorem U9{a b:AV}(e:s7 a=some b){P:AV->Prop}(k:(∀{v:ah},V C W a v->handedIn v=true)->P a):P b:=by
 cases a<;>first|exact nn e|(apply s1 e;refine k fun{v} hv=> ?_;first|exact hv.noneE rfl|exact hv.boolE rfl|exact hv.intE fun _=>rfl|exact hv.strE fun _=>rfl|exact hv.bytesE fun _=>rfl|exact hv.tupE fun _ _ _ _ _=>rfl|exact hv.lstE fun _ _ _ _ _=>rfl|exact hv.frzE fun _ _ _ _ _ _ _ _ _ _=>rfl|exact hv.dctE fun _ _ _ _ _ _ _=>rfl|exact hv.dctiE fun _ _ _ _ _ _ _=>rfl|exact hv.rngE fun _ _ _ _ _ _ _=>rfl|exact hv.refE fun _ _=>rfl)
theorem Zw{x k:Nat}(hx:x<C.nf)(hk:k<C.nf){en:g9}{es:List g9}{t:Tok}(ht:en.key= .str (C.fname x) t):getL (C.fname k) (en::es)=if k=x then some (some en.val)else getL (C.fname k) es:=by
 by_cases h:k=x
 ·subst h
  rw[if_pos rfl]
  unfold getL
  rw[oA,ht]
  simp[qq]
 ·rw[if_neg h]
  have hne:C.fname x≠C.fname k:=fun q=>h (C.fnameInj _ _ hx hk q).symm
  have hf:en.key.isStr (C.fname k)=false:=by rw[ht];simp[qq,hne]
  have hr:en.refKey=false:=by unfold Gb;rw[ht]
  unfold getL
  rw[oA,hf,rn,hr];rfl
theorem W3{k:Nat}(hk:k<C.nf): ∀{ks:ac} {fs:aa} {vs:List ah} {es:List g9} {b:AV},xE k ks fs=some b->VL C W fs vs->oM C ks vs es-> ∃v,getL (C.fname k) es=some (some v)/\V C W b v:=by
 intro ks
 induction ks with
 |nil=>intro fs vs es b e;exact nn e
 |cons x ks ih=>
  intro fs vs es b e hv
  cases fs with
  |nil=>exact nn e
  |cons a fs=>
   refine hv.consE fun v r h1 h2 hK=> ?_
   cases es with
   |nil=>exact hK.elim
   |cons en es=>
    obtain⟨hx,⟨t,ht⟩,rfl,hK⟩:=hK
    rw[Zw hx hk ht]
    rw[W4,fS]at e
    by_cases z:k=x
    ·rw[if_pos z]
     rw[decide_eq_true z]at e
     cases e
     exact⟨_,rfl,h1⟩
    ·rw[if_neg z]
     rw[decide_eq_false z]at e
     exact ih e h2 hK
theorem Ly{K:dQ}{c:aC}{n:Str}(h:Iq K c n=true):plainGet K c n=true/\hasDictIn K c=true/\(∃a,findIn K (.ref c) n=some a/\noGet K a=true)/\findIn K (.ref c) "__setattr__"=some (some (.builtin "object.__setattr__"))/\plainOver K c=true/\takerIn K c n=some none:=by
 unfold Iq at h
 simp only[cD,beq_iff_eq]at h
 obtain⟨⟨⟨⟨⟨a,b⟩,c⟩,d⟩,e⟩,f⟩:=h
 refine⟨a,b,?_,d,e,f⟩
 revert c
 cases findIn K (.ref _) n with
 |none=>exact fun c=>ff c
 |some x=>exact fun c=>⟨x,rfl,c⟩
theorem cu.K(R:cu C W σ h):C.K.In h:=fun a o e=>R.im _ _ (R.base _ _ (C.inK _ _ e))
structure N6(C:PC)(W:Wd)(h:bH)(v:ah)(c:Nat)(ks:List Nat)(fs:List AV):Prop where
 at_: ∃x d es n vs,v= .ref x/\C.cls c=true/\h.get? x=some (instObj c d)/\h.get? d=some (dictOf es n)/\VL C W fs vs/\oM C ks vs es
theorem Sx(R:cu C W σ h){c:Nat}{ks:ac}{fs:aa}{v:ah}(hv:V C W (.frz c ks fs) v):N6 C W h v c ks fs:=
 hv.frzE fun x d es n vs q0 q1 q2 r z=>⟨x,d,es,n,vs,rfl,q0,R.im _ _ q1,R.im _ _ q2,r,z⟩
theorem Td(R:cu C W σ h){a c:Nat}{ks:ac}{fs:aa}{v:ah}(hg:σ.get a=some (.inst c ks fs))(hv:V C W (.ref a) v):N6 C W h v c ks fs:=
 R.instE hg hv fun p es n vs _ q0 q1 q2 r z=>⟨p.1,p.2,es,n,vs,rfl,q0,R.im _ _ q1,q2,r,z⟩
theorem aiS(R:cu C W σ h){a c:Nat}{l:aa}{v:ah}(hg:σ.get a=some (.orc c l))(hc:C.cls c=true)(hv:V C W (.ref a) v): ∃ks fs,N6 C W h v c ks fs:=by
 obtain⟨p,q,rfl⟩:=hv
 obtain⟨p',e',⟨cc,q1,q2⟩,_⟩:=R.cell _ _ hg
 rw[q]at e';cases e'
 obtain⟨ks,fs,rfl⟩:=C.concInst _ _ _ q1 hc
 obtain⟨q0,q1,es,n,vs,q2,r,z⟩:=q2
 exact⟨ks,fs,p.1,p.2,es,n,vs,rfl,q0,R.im _ _ q1,q2,r,z⟩
theorem OS(T:St X W fr σ s){v:ah}{c kk:Nat}{ks:ac}{fs:aa}(I:N6 X.C W s.heap v c ks fs)(hk:kk<X.C.nf){b:AV}(e:(ob (Nx c kk ks fs) fun v=>s7 v)=some b){ex:Bool}:
  wpAny (dC X.C) A (getAttr v (X.C.fname kk) ex) (fE X W fr b σ) dm s:=by
 obtain⟨x,d,es,n,vs,rfl,q0,q1,q2,r,z⟩:=I.at_
 refine oE e fun aqo e0 e'=>kN e0 fun e0 e=> ?_
 obtain⟨p1,p2,⟨a,p3,p4⟩,_⟩:=Ly (X.C.attr c kk q0 hk e0)
 obtain⟨w,g,q⟩:=W3 hk e r z
 apply U9 (C:=X.C) (W:=W) e';intro e2
 exact get_value T.rel.K (I:=(⟨q1,rfl,rfl,q2⟩:InstAt s.heap x (instObj c d) c (some (dictOf es n)))) (qr p1).1 (findObj_own p2 p3 p4 g) (e2 q) ((T.toks _).post q)
theorem Ut(T:St X W fr σ s){kk:Nat}(hk:kk<X.C.nf){a b:AV}(e:aA kk a σ=some b){v:ah}(hv:V X.C W a v){ex:Bool}:wpAny (dC X.C) A (getAttr v (X.C.fname kk) ex) (fE X W fr b σ) dm s:=by
 revert hv
 cases a<;>intro hv<;>first|exact nn e|skip
 ·exact OS T (Sx T.rel hv) hk e
 ·exact instE e fun c ks vs hg e=>OS T (Td T.rel hg hv) hk e
theorem ajO{kk:Nat}{m:EM}{o:an}{p:Pos}(hk:kk<X.C.nf)(hb:sU o=true)(hm:bX X k m o):bX X k (un (aA kk) m) (.Attribute o (X.C.fname kk) p):=fun A R W fr σ s T a ai q=>by
 refine fG q fun vX ay e1 q=>oE q fun b e2 q=> ?_
 apply s2 q
 rw[arm_eval_Attribute]
 exact aq (lR hb (hm.go R T e1 fun v bk be bv bo d5=>aq (du (aq (dF
  (ek (Ut bo hk e2 d5) fun r dP z=>aq (wpAny_letTemporaryGo (aL (z.le bv)))))))))
theorem PS{α:Type}: ∀{l:List α} {i:Nat} {a:α},PR l i=some a->l[i]? =some a
 |_::_,0,_,e=>e
 |_::r,i+1,_,e=>PS (l:=r) e
 |[],_,_,e=>by cases e
theorem alH{n:Nat}(h3:n<=4000000): -(2^63)<= -(n:Int)-1:=by omega
theorem NC(n:Nat): -(n:Int)-1<0:=by omega
theorem abP{m n:Nat}(h2:n<m): -(m:Int)<= -(n:Int)-1:=by omega
theorem abQ{m n:Nat}(h2:n<m):m-1-n=(-(n:Int)-1+m).toNat:=by
 rw[show-(n:Int)-1+m=((m-1-n:Nat):Int) by omega];rfl
theorem S8{α:Type}{l:List α}{i:Int}{a:α}(e:XC l i=some a): ∃n,seqIndex? i l.length=some n/\l[n]? =some a/\ -(2^63)<=i/\i<2^63/\((0<=i/\n=i.toNat)\/(i<0/\ -(l.length:Int)<=i/\n=(i+l.length).toNat)):=by
 cases i with
 |ofNat n=>
  refine kS e fun ok e=> ?_
  have h1:=PS e
  have h2:n<l.length:=(cL.mp h1).1
  exact⟨n,StrLaws.seqIndex_nonneg (de n) (hH.mpr h2),h1,Int.le_trans (by decide) (de n),Bb (NL.mpr (jJ ok)) (by decide),.inl ⟨de n,rfl⟩⟩
 |negSucc n=>
  refine kS e fun ok e=> ?_
  obtain⟨o1,o2⟩:=br.mp ok
  have h2:=cX.mp o2
  rw[show(qp n)= -(n:Int)-1 from by omega]
  refine⟨l.length-1-n,?_,PS e,alH (jJ o1),Int.lt_trans (NC n) (by decide),.inr ⟨NC n,abP h2,abQ h2⟩⟩
  rw[StrLaws.seqIndex_neg (NC n) (abP h2),abQ h2]
theorem adv(T:St X W fr σ s){a b:AV}{l:aa}(hl:nw σ a=some l){j:Int}{t:Tok}(e:XC l j=some b){v:ah}(hv:V X.C W a v):
  wpAny (dC X.C) A (getItem v (.int j t)) (fE X W fr b σ) dm s/\ ∃T',s.TypeIs v T'/\ ∃id,typeLookup (.type T') "__getitem__"=pure (some (.builtin id)):=by
 refine Hd T.rel hl hv fun x m vs q z=> ?_
 obtain⟨n,e1,e2,e3,e4,e5⟩:=S8 e
 obtain⟨w,g,r⟩:=q.get e2
 have g':vs.toArray[n]? =some w:=by rw[jN];exact g
 have hs:(vs.toArray.size:Int)=l.length:=by rw[aZ,q.length]
 rcases z with z|z
 ·have z:=lI z
  refine⟨?_,"list",z.typeIs,_,EY.lookup⟩
  rcases e5 with⟨h0,rfl⟩|⟨h0,h1,rfl⟩
  ·exact wpAny_getItem_list z h0 e4 g' (T.post r)
  ·exact wpAny_getItem_list_neg z h0 (by rw[hs];exact h1) e3 (by rw[hs];exact g') (T.post r)
 ·refine⟨?_,"tuple",⟨_,z,rfl⟩,_,F.slot_tuple_getitem.lookup⟩
  exact PySem.P.getItem_tuple (items:=vs.toArray) z e3 e4 (by rw[aZ,q.length];exact e1) g' (T.post r)
theorem F1{α:Type}[DecidableEq α]{a p:α}{v:ah}{l:List (α×ah)}:valueAt ((a,v)::l) p=if a=p then some v else valueAt l p:=by
 unfold valueAt
 rw[oA]
 by_cases h:a=p
 ·rw[if_pos h,decide_eq_true h];rfl
 ·rw[if_neg h,decide_eq_false h]
theorem Zg(p:ac): ∀{ks:List (List Nat)} {fs:aa} {vs:List ah} {b:AV},Nt p ks fs=some b->VL C W fs vs-> ∃v,valueAt ((ks.map aP).zip vs) (aP p)=some v/\V C W b v:=by
 intro ks
 induction ks with
 |nil=>intro fs vs b e;exact nn e
 |cons k ks ih=>
  intro fs vs b e hv
  cases fs with
  |nil=>exact nn e
  |cons a fs=>
   refine hv.consE fun v r h1 h2=> ?_
   rw[bc,bJ,F1]
   have z:=ql (a:=k) (b:=p)
   refine bE e (fun q e=> ?_) fun q e=> ?_
   ·rw[q]at z
    cases e
    exact⟨v,if_pos (beq_iff_eq.mp z),h1⟩
   ·rw[q]at z
    rw[if_neg (beq_eq_false_iff_ne.mp z)]
    exact ih e h2
theorem WT(p:Int): ∀{ks:List Int} {fs:aa} {vs:List ah} {b:AV},Iz p ks fs=some b->VL C W fs vs-> ∃v,valueAt (ks.zip vs) p=some v/\V C W b v:=by
 intro ks
 induction ks with
 |nil=>intro fs vs b e;exact nn e
 |cons k ks ih=>
  intro fs vs b e hv
  cases fs with
  |nil=>exact nn e
  |cons a fs=>
   refine hv.consE fun v r h1 h2=> ?_
   rw[bJ,F1]
   refine bE e (fun q e=> ?_) fun q e=> ?_
   ·rw[qW,decide_eq_true_iff]at q
    cases e
    exact⟨v,if_pos q,h1⟩
   ·rw[qW,decide_eq_false_iff_not]at q
    rw[if_neg q]
    exact ih e h2
@[elab_as_elim] theorem afM (R:cu C W σ h) {a:AV} {ks:List (List Nat)} {fs:aa} (e:afL σ a=some (ks,fs)) {v:ah} {Q:ah->Prop} (hv:V C W a v) (k: ∀x vs,(x==sysModules)=false->VL C W fs vs->h.DictOf (strKind C.prog C.w) x ((ks.map aP).zip vs)->Q (.ref x)):Q v:=by
 revert hv
 cases a<;>intro hv<;>first|exact nn e|skip
 ·cases e
  exact hv.dctE fun x o vs q0 q r z=>k x vs q0 r (jl.mpr ⟨o,R.im _ _ q,z.2⟩)
 ·refine dctE (show So σ _ _=_ from e) fun ks' vs hg e=> ?_
  cases e
  exact R.dctE hg hv fun p o vs _ _ q0 g r z=>k p.1 vs q0 r (jl.mpr ⟨o,g,z.2⟩)
@[elab_as_elim] theorem ae6 {β:Type} {a:AV} {r:β} {Q:AV->Prop} {f:List Int->List AV->Option β} (h:aa6 a f=some r) (k: ∀ks vs,f ks vs=some r->Q (.dcti ks vs)):Q a:=by
 cases a<;>first|exact nn h|exact k _ _ h
theorem ahn(T:St X W fr σ s){x:ac}{j:Int}{b:AV}(e:(ob (XC x j) fun c=>some (AV.str [c]))=some b){v:ah}(hv:V X.C W (.str x) v)(t:Tok):
  wpAny (dC X.C) A (getItem v (.int j t)) (fE X W fr b σ) dm s/\ ∃T',s.TypeIs v T'/\ ∃id,typeLookup (.type T') "__getitem__"=pure (some (.builtin id)):=oE e fun c hc e=>by
 apply s1 e
 refine hv.strE fun u=> ?_
 obtain⟨n,e1,e2,e3,e4,e5⟩:=S8 hc
 refine⟨NU (c:=c) (by simp;omega) ?_ ((T.toks _).post ⟨_,rfl⟩),"str",rfl,_,Gk.lookup⟩
 rw[bI,e1]
 simp only[nJ,aP]
 simpa using e2
theorem adm(T:St X W fr σ s){ks:List Int}{fs:aa}{j:Int}{b:AV}(e:Iz j ks fs=some b){v:ah}(hv:V X.C W (.dcti ks fs) v)(t:Tok):
  wpAny (dC X.C) A (getItem v (.int j t)) (fE X W fr b σ) dm s/\ ∃T',s.TypeIs v T'/\ ∃id,typeLookup (.type T') "__getitem__"=pure (some (.builtin id)):=hv.dctiE fun x o vs q0 q r z=>by
 have hd:s.heap.DictOf (intKind X.C.prog X.C.w) x (ks.zip vs):=jl.mpr ⟨o,T.rel.im _ _ q,z.2⟩
 obtain⟨y,g,r'⟩:=WT j e r
 exact⟨Gm (HT X.C.prog X.C.w j t) hd.mapOf g ((T.toks _).post r'),"dict",hd.typeIs,_,EX.lookup⟩
theorem ahm(T:St X W fr σ s){a:AV}{p:ac}{b:AV}(e:(bu (afL σ a) fun ks vs=>Nt p ks vs)=some b){v:ah}(hv:V X.C W a v)(t:Tok):
  wpAny (dC X.C) A (getItem v (.str (aP p) t)) (fE X W fr b σ) dm s/\ ∃T',s.TypeIs v T'/\ ∃id,typeLookup (.type T') "__getitem__"=pure (some (.builtin id)):=fG e fun ks fs hd e=>afM T.rel hd hv fun x vs q0 r hd=>by
 obtain⟨y,g,r'⟩:=Zg p e r
 exact⟨Gm (strKind_is X.C.prog X.C.w (aP p) t) hd.mapOf g ((T.toks _).post r'),"dict",hd.typeIs,_,EX.lookup⟩
theorem ZF(T:St X W fr σ s){a i b:AV}(e:abH a i σ=some b){v w:ah}(hv:V X.C W a v)(hw:V X.C W i w):
  wpAny (dC X.C) A (getItem v w) (fE X W fr b σ) dm s/\ ∃T',s.TypeIs v T'/\ ∃id,typeLookup (.type T') "__getitem__"=pure (some (.builtin id)):=by
 revert hw
 cases i<;>intro hw<;>first|exact nn e|skip
 ·refine hw.intE fun t=>odE e (fun x hx e=> ?_) fun e=>odE e (fun r hr e=> ?_) fun e=>oE e fun l hl e=>adv T hl e hv
  ·revert hv
   refine fJ hx fun x' hx hv=> ?_
   cases hx;exact ahn T e hv t
  ·revert hv
   refine ae6 hr fun ks fs hr hv=> ?_
   cases hr;exact adm T e hv t
 ·exact hw.strE fun t=>ahm T e hv t
noncomputable def PA:an->Bool
 | .Slice .. =>true
 |_=>false
theorem Hw{slice:an}(h:PA slice=false)(o i:ah):subscripted slice false o i=operate [o,i] (getItem o i):=by
 cases slice<;>first|rfl|cases h
theorem ajT{m n:EM}{a i:an}{p:Pos}(hs:PA i=false)(hm:bX X k m a)(hn:bX X k n i):bX X k (bi fM m n) (.Subscript a i p):=fun A R W fr σ s T c ai e=>by
 refine WE e fun x ay y aM e1 e2 e3=>oE e3 fun z e4 e3=> ?_
 apply s2 e3
 refine Subscript_ (Ex hm hn R T e1 e2 fun v w dP cq l cH d5 jV=> ?_)
 obtain⟨h1,T',hT,id,hl⟩:=ZF cH e4 d5 jV
 exact tail_any hT hl (ek h1 fun _ _ z=>z.le l) (Hw hs _ _)
end
end
end
section
open PySem.SeqAt
noncomputable section
noncomputable def s5(a:AV):Option Int:=eO a some
@[elab_as_elim] theorem abk {n d a:Nat} {v:AV} {Q:AV->Nat->Prop} (e:kg n d v=some a) (k1:Q .none d) (k2: ∀i,Q (.int (.ofNat i)) (DI i n)) (k3: ∀i,Q (.int (.negSucc i)) (n-(i+1))):Q v a:=by
 cases v<;>first|exact nn e|skip
 ·apply s1 e;exact k1
 ·rename_i i
  cases i with
  |ofNat i=>apply s1 e;exact k2 i
  |negSucc i=>apply s1 e;exact k3 i
theorem Y7(i n:Nat):max 0 (min (if(i:Int)<0 then(i:Int)+n else i) n)=((min i n:Nat):Int):=by
 rw[if_neg (sF.mpr (de i)),Int.max_eq_right]
 ·omega
 ·exact Int.le_min.mpr ⟨de i,de n⟩
theorem Y6(i n:Nat):max 0 (min (if-(i:Int)-1<0 then-(i:Int)-1+n else-(i:Int)-1) n)=((n-(i+1):Nat):Int):=by
 rw[if_pos (NC i),Int.min_eq_left (by omega),Int.max_def]
 split<;>omega
theorem An(a b:Nat):sliceRange (a:Int) (b:Int) 1=(ct (b-a)).map fun k=>a+k:=by
 unfold sliceRange
 simp only[show((1:Int)>0)=True from by simp,if_true]
 by_cases hlt:(a:Int)<b
 ·have e3:(((b:Int)-a+1-1) / 1).toNat=b-a:=by first|omega|(simp;done)|(simp;omega)
  simp only[hlt,if_true,e3]
  refine fP fun k _=> ?_
  omega
 ·have:b-a=0:=by omega
  simp[hlt,this]
theorem n8{n d a:Nat}{v:AV}(e:kg n d v=some a)(hd:d<=n):a<=n/\(match s5 v with|none=>(d:Int)|some i=>max 0 (min (if i<0 then i+n else i) n))=(a:Int):=by
 revert hd
 refine abk e (fun hd=>⟨hd,rfl⟩) (fun i hd=>⟨Gi _ _,Y7 i n⟩) fun i hd=>⟨TF _ _,?_⟩
 show max 0 (min (if qp i<0 then qp i+n else qp i) n)=_
 rw[show(qp i)= -(i:Int)-1 by omega]
 exact Y6 i n
theorem vC{n d a:Nat}{v:AV}(e:kg n d v=some a):v= .none\/ ∃i,v= .int i:=by
 exact abk e (.inl rfl) (fun i=>.inr ⟨_,rfl⟩) fun i=>.inr ⟨_,rfl⟩
theorem Y3{n a b:Nat}{lo hi:AV}(h1:kg n 0 lo=some a)(h2:kg n n hi=some b):sliceBounds (s5 lo) (s5 hi) none n=((a:Int),(b:Int),1):=by
 have e1:=(n8 h1 (aU _)).2
 have e2:=(n8 h2 (ax _)).2
 unfold sliceBounds
 simp only[tx,show((1:Int)>0)=True from by simp,if_true]
 refine NS ?_ (NS ?_ rfl)
 ·rw[<- e1];rfl
 ·exact e2
theorem RF{n a b:Nat}{lo hi:AV}(h1:kg n 0 lo=some a)(h2:kg n n hi=some b):qI (s5 lo) (s5 hi) 1 n=(ct (b-a)).map fun k=>a+k:=by
 have e1:=(n8 h1 (aU _)).2
 have e2:=(n8 h2 (ax _)).2
 rw[<- An]
 unfold qI
 simp only[show((1:Int)>0)=True from by simp,if_true]
 congr 1
theorem O5{α:Type}(l:List α){a b:Nat}(ha:a<=l.length)(hb:b<=l.length):((ct (b-a)).map fun k=>a+k).filterMap (l[·]?)=Kr l a b:=by
 rw[StrLaws.picks l (b-a) a (by omega)];rfl
theorem afG{α:Type}(l:List α)(a b:Nat):(Kr l a b).length <=l.length:=by
 unfold Kr
 rw[j8,gU]
 exact au (Gi _ _) (TF _ _)
theorem Ze{α:Type}(l:List α){a b:Nat}(ha:a<=l.length)(hb:b<=l.length)(h:b-a=l.length):Kr l a b=l:=by
 by_cases z:l.length=0
 ·have:l=[]:=mx.mp z
  subst this;simp[Kr]
 ·have h1:a=0:=by omega
  have h2:b=l.length:=by omega
  subst h1 h2
  simp[Kr]
section
variable{X:FX}{k:Nat}{W W':Wd}{fr:Fm}{σ ai:AS}{s s':az}{A:bW}{h:bH}{C:PC}
theorem Pz{v:AV}(h:v= .none\/ ∃i,v= .int i){w:ah}(hw:V C W v w):IsPart w (s5 v):=by
 rcases h with rfl|⟨i,rfl⟩
 ·cases hw;exact .none
 ·obtain⟨t,rfl⟩:=hw;exact .int i t
theorem LW{v:AV}(h:v= .none\/ ∃i,v= .int i){w:ah}(hw:V C W v w): ∃p:Option (Int×Tok),w=partValue p/\p.map (·.1)=s5 v:=by
 rcases h with rfl|⟨i,rfl⟩
 ·cases hw;exact⟨none,rfl,rfl⟩
 ·obtain⟨t,rfl⟩:=hw;exact⟨some (i,t),rfl,rfl⟩
theorem ajL(bo:St X W fr σ s){L:aC}{x:ac}{lo hi b:AV}(e:(bif dv (eP x)then ob (kg (eP x) 0 lo) (fun p=>ob (kg (eP x) (eP x) hi) fun q=>some (AV.str (O3 x p q),σ))else none)=some (b,ai)){v vl vh:ah}(hv:V X.C W (.str x) v)(hl:V X.C W lo vl)(hh:V X.C W hi vh)(hL:s.heap.get? L=some {cls:=.type "slice",data:=.fields #[vl,vh,.none]}):
  wpAny (dC X.C) A (getItem v (.ref L)) (fE X W fr b ai) dm s/\ ∃T',s.TypeIs v T'/\ ∃id,typeLookup (.type T') "__getitem__"=pure (some (.builtin id)):=by
 rw[ib]at e
 refine kS e fun ok e=>oE e fun p h1 e=>oE e fun q h2 e=> ?_
 rw[O4]at e
 apply s2 e
 refine hv.strE fun t=> ?_
 obtain⟨pl,rfl,el⟩:=LW (vC h1) hl
 obtain⟨ph,rfl,eh⟩:=LW (vC h2) hh
 refine⟨VC (n:=s.toks) (ax _) (wpAny_getItem_str_slice (l:=pl) (u:=ph) (st:=none) ⟨_,hL,rfl,rfl⟩ rfl ?_),"str",rfl,_,Gk.lookup⟩
 have ha:=(n8 h1 (aU _)).1
 have hb:=(n8 h2 (ax _)).1
 have e1:slicePicked (aP x) pl ph none=(ct (q-p)).map fun k=>p+k:=by
  unfold slicePicked
  rw[el,eh,bI]
  exact RF h1 h2
 have e2:(slicePicked (aP x) pl ph none).filterMap ((aP x).cps[·]?)=Kr x p q:=by
  rw[e1]
  have:=O5 x ha hb
  simpa[aP] using this
 unfold sliceMade
 refine post_val_or_made (fun _=> ?_) fun t' tk ht=> ?_
 ·rw[e2]
  show(aP (Kr x p q)).length <=_
  rw[bI];exact au (afG x p q) (iR ok)
 ·refine(bo.toks _ ht).post ⟨t',?_⟩
  congr 1
  rw[e2]
  split
  ·rename_i z
   rw[e1,bI]at z
   have z':q-p=x.length:=by simpa using z
   rw[Ze x ha hb z']
  ·rfl
theorem ajK(bo:St X W fr σ s){L:aC}{l:aa}{lo hi b:AV}(e:(bif dv (eP l)then ob (kg (eP l) 0 lo) (fun p=>ob (kg (eP l) (eP l) hi) fun q=>some (AV.ref σ.next,σ.alloc (.lst (O3 l p q))))else none)=some (b,ai)){x n:Nat}{vs:List ah}{vl vh:ah}(g:s.heap.get? x=some (dw vs n))(r:VL X.C W l vs)(hl:V X.C W lo vl)(hh:V X.C W hi vh)(hL:s.heap.get? L=some {cls:=.type "slice",data:=.fields #[vl,vh,.none]}):
  wpAny (dC X.C) A (getItem (.ref x) (.ref L)) (fE X W fr b ai) dm s/\ ∃T',s.TypeIs (.ref x) T'/\ ∃id,typeLookup (.type T') "__getitem__"=pure (some (.builtin id)):=by
 rw[ib]at e
 refine kS e fun ok e=>oE e fun p h1 e=>oE e fun q h2 e=> ?_
 rw[O4]at e
 apply s2 e
 refine⟨wpAny_getItem_list_slice (lI g) ⟨_,hL,rfl,rfl⟩ (Pz (vC h1) hl) (Pz (vC h2) hh) .none (by simp) ?_ ?_,"list",(lI g).typeIs,_,EY.lookup⟩
 ·have ha:=(n8 h1 (aU _)).1
  have hb:=(n8 h2 (ax _)).1
  have e1:slicePick vs.toArray (s5 lo) (s5 hi) none=(Kr vs p q).toArray:=by
   unfold slicePick
   rw[aZ,r.length,Y3 h1 h2]
   simp only[An]
   have:=O5 vs (a:=p) (b:=q) (by rw[r.length];exact ha) (by rw[r.length];exact hb)
   simpa using congrArg List.toArray this
  rw[e1]
  obtain⟨le,T'⟩:=bo.pushLst ((r.drop p).take (q-p)) s.toks
  exact⟨_,le,T',qU⟩
 ·rw[aZ,r.length];exact iR ok
theorem aap(T:St X W fr σ s){a lo hi b:AV}(e:am4 a lo hi σ=some (b,ai)){v vl vh:ah}(hv:V X.C W a v)(hl:V X.C W lo vl)(hh:V X.C W hi vh):
  wpAny (dC X.C) A (getItem v (.ref s.heap.objs.size)) (fE X W fr b ai) dm {s with heap:=s.heap.push {cls:=.type "slice",data:=.fields #[vl,vh,.none]}}/\
   ∃T',Shared.TypeIs {s with heap:=s.heap.push {cls:=.type "slice",data:=.fields #[vl,vh,.none]}} v T'/\ ∃id,typeLookup (.type T') "__getitem__"=pure (some (.builtin id)):=by
 have bo:St X W fr σ {s with heap:=s.heap.push {cls:=.type "slice",data:=.fields #[vl,vh,.none]}}:=T.keeps (ef _ _) s.toks
 refine odE e (fun x hx e=> ?_) fun e=>oE e fun l hla e=>ng T.rel hla hv fun x n vs g r=>ajK bo e (ef _ _ _ _ g) r hl hh (bg _ rfl)
 revert hv
 refine fJ hx fun x' hx hv=> ?_
 cases hx
 exact ajL bo e hv hl hh (bg _ rfl)
def Ft(X:FX)(k:Nat)(m:EM)(e:Option an):Prop:=
 ∀A,eH A k-> ∀W fr σ s,St X W fr σ s-> ∀a ai,m fr σ=some (a,ai)->wpAny (dC X.C) A (valueOrNone (evalOpt e X.env)) (fE X W fr a ai) dm s
theorem Ft.none:Ft X k (a6 .none) none:=fun A _ W fr σ s T a ai e=>by apply s2 e;exact aL (T.post rfl)
theorem Ft.some{m:EM}{e:an}(h:bX X k m e):Ft X k m (some e):=h
theorem aj0{m n o:EM}{a:an}{lo hi:Option an}{p p':Pos}(hm:bX X k m a)(hn:Ft X k n lo)(ho:Ft X k o hi):bX X k (Ss m n o) (.Subscript a (.Slice lo hi none p') p):=fun A R W fr σ s T c ai e=>by
 refine fG e fun x ay e1 e=>fG e fun y aM e2 e=>fG e fun z cF e3 e=>Subscript_ (hm.go R T e1 fun v bk be bv bo d5=> ?_)
 rw[arm_eval_Slice]
 refine aq (ek (hn A R be fr _ bk bo _ _ e2) fun vl dP z=>z.elim fun cq dJ cH jV=> ?_)
 refine aq (dF (ek (ho A R cq fr _ dP cH _ _ e3) fun vh jE z=>z.elim fun xq gR iZ ap4=> ?_))
 refine aq (dF (aL (gG ?_ (by size_fits))))
 obtain⟨h1,T',hT,id,hl⟩:=aap (A:=A) iZ e ((d5.mono dJ).mono gR) (jV.mono gR) ap4
 exact tail_any hT hl (ek h1 fun _ _ z=>z.le (bv.trans (dJ.trans gR))) rfl
end
end
end
section
open PySem.SeqAt
noncomputable section
section
variable{X:FX}{k:Nat}{W W':Wd}{fr:Fm}{σ ai:AS}{s s':az}{A:bW}{h h':bH}{C:PC}
noncomputable def i8:an->Bool
 | .Starred .. =>true
 |_=>false
theorem lO{e:an}(he:i8 e=false)(es:List an)(env:Env):starEach (e::es) env=(false,eval e env)::starEach es env:=by
 cases e<;>first|rfl|cases he
theorem Ye:zW X k aJ []:=fun A _ W fr σ s T l ai e pos=>by
 apply s2 e;exact spliced_nil ⟨W,.refl W,T,VL.nil⟩
theorem KT{m:EM}{n:LM}{e:an}{es:List an}(he:i8 e=false)(hm:bX X k m e)(hn:zW X k n es):zW X k (aw m n) (e::es):=fun A R W fr σ s T l ai q pos=>by
 refine fG q fun vX ay e1 q=>fG q fun aqn aM e2 q=> ?_
 apply s2 q
 rw[lO he]
 show wpAny _ _ (spliced ((false,eval e X.env)::backTo pos (starEach es X.env))) _ _ _
 exact Bj (hm.go R T e1 fun v bk be bv bo d5=>hn.go R bo e2 pos fun vs dP cq dJ cH jV=>⟨cq,bv.trans dJ,cH,VL.cons (d5.mono dJ) jV⟩)
theorem aac{f:aW}{l:LM}{c:AV}(e:bn f l fr σ=some (c,ai)){P:Prop}(k: ∀vs ay,l fr σ=some (vs,ay)->f vs ay=some (c,ai)->P):P:=fG e k
theorem aex{n:LM}{es:List an}{p:Pos}(hn:zW X k n es):bX X k (bn cU n) (.List es p):=fun A R W fr σ s T c ai e=>by
 refine aac e fun l ay e1 e2=>kS e2 fun ok e2=> ?_
 apply s2 e2
 refine List_ (hn.go R T e1 p fun vs bk be bv bo d5=>gG ?_ (by show vs.toArray.size<=sizeLine;rw[aZ,d5.length];exact iR ok))
 obtain⟨le,T'⟩:=bo.pushLst d5 bk.toks
 exact⟨_,bv.trans le,T',qU⟩
theorem aj2{n:LM}{es:List an}{p:Pos}{j:Nat}(hn:zW X k n es):bX X k (bn fU n) (.Tuple es j p):=fun A R W fr σ s T c ai e=>by
 refine aac e fun l ay e1 e2=>kS e2 fun ok e2=> ?_
 apply s2 e2
 refine Tuple_ (hn.go R T e1 p fun vs bk be bv bo d5=>gG ?_ (by show vs.toArray.size<=sizeLine;rw[aZ,d5.length];exact iR ok))
 obtain⟨le,T'⟩:=bo.pushIm (o:=tb vs 0) rfl bk.toks
 exact⟨_,bv.trans le,T',_,0,vs,rfl,mh,d5.mono le⟩
theorem ajR{p:Pos}:bX X k FA (.Dict [] [] p):=fun A R W fr σ s T c ai e=>by
 apply s2 e
 rw[eval_Dict_empty]
 refine aq (du (gG ?_ (by size_fits)))
 obtain⟨le,T'⟩:=T.pushDct s.toks
 exact⟨_,le,T',qU⟩
theorem St.other(T:St X W fr σ s){d:aC}(hi:W.im d=none)(hp:W.pr d=none)(hc:sN W σ d)(hd: ¬X.Has d)(k: ∀b o,b≠d->s.heap.get? b=some o->h'.get? b=some o)(t:Nat)(ht:s.toks<=t:=by first|exact ax _|exact cJ _|omega):St X W fr σ {s with heap:=h',toks:=t}:=
 ⟨T.rel.keepsBut hi hp (fun a c p e e'=>hc a c p e e') k,T.fr.turn (.refl _) (fun b o e e'=>by rw[e]at e';cases e') (fun c hc=>T.fr.apart c hc) fun c hc o e=>k _ _ (fun q=>hd (q▸hc)) e,T.sm.mk' _ _ ht⟩
theorem St.addIm(T:St X W fr σ s){x:aC}{o:Obj}(ho:s.heap.get? x=some o)(hp:W.pr x=none)(hc:sN W σ x)(hd: ¬X.Has x):W.le (W.addIm x o)/\St X (W.addIm x o) fr σ s:=by
 have le:W.le (W.addIm x o):=Wd.le_addIm fun o' e=>by have:=T.rel.im _ _ e;rw[ho]at this;exact(aG this).symm
 refine⟨le,T.rel.addIm ho hp (fun a c p e e'=>hc a c p e e'),T.fr.turn le (fun b o' e e' hb=> ?_) (fun c hc=>T.fr.apart c hc) (fun _ _ _ e=>e),T.sm⟩
 have e':(if b=x then some o else W.im b)=some o':=e'
 split at e'
 ·rename_i q;subst q;exact hd hb
 ·rw[e]at e';cases e'
theorem St.newAddr(T:St X W fr σ s){d:aC}(hd:s.heap.objs.size<=d):W.im d=none/\W.pr d=none/\sN W σ d/\ ¬X.Has d:=
 ⟨T.rel.im_new hd,T.rel.pr_new hd,T.rel.cell_new hd,fun h=>absurd (T.fr.lt h) (b5.mpr hd)⟩
theorem aev{k1 k2:Int}{a b:ac}{x y:Str}{p p1 p2 p3 p4:Pos}{j1 j2 j3 j4:Nat}(hk:k1≠k2)(hx:aP a=x)(hy:aP b=y):
  bX X k (bn (Hg [k1,k2]) (aw (a6 (.str a)) (aw (a6 (.str b)) aJ))) (.Dict [some (.Constant (.int k1) j1 p1),some (.Constant (.int k2) j2 p2)] [.Constant (.str x) j3 p3,.Constant (.str y) j4 p4] p):=fun A R W fr σ s T c ai e=>by
 apply s2 e
 refine wpAny_Dict_pairs (knd:=intKind X.C.prog X.C.w) (pairs:=[(eval (.Constant (.int k1) j1 p1) X.env,do let v <- eval (.Constant (.str x) j3 p3) X.env;standAt p;pure v),(eval (.Constant (.int k2) j2 p2) X.env,do let v <- eval (.Constant (.str y) j4 p4) X.env;standAt p;pure v)]) rfl (by simp) (by simp) ?_
 refine JX (qQ (aq (oy (aq (du (aL ?_))))))
 refine JX (qQ (aq (oy (aq (du (aL ?_))))))
 refine evalPairs_nil ?_
 refine⟨[(k1,.str x (s.toks+1)),(k2,.str y (s.toks+1+1+1))],⟨HT _ _ _ _,rfl,HT _ _ _ _,rfl,trivial⟩,⟨_,#[],0,bg _ rfl,⟨rfl,rfl,rfl⟩,rfl,fun _ he=>by simp at he,VO,by simp⟩,fun h' hd hs=> ?_⟩
 obtain⟨n1,n2,n3,n4⟩:=T.newAddr (d:=s.heap.objs.size) (ax _)
 have bo:St X W fr σ {s with heap:=h',toks:=s.toks+1+1+1+1+[(Bg k1 s.toks,fZ x (s.toks+1)),(Bg k2 (s.toks+1+1),fZ y (s.toks+1+1+1))].length}:=
  T.other n1 n2 n3 n4 (fun b o hb e=>hs.extBut b o hb (bz _ e)) _
 obtain⟨o,ho,hd'⟩:=jl.mp hd
 obtain⟨le,cH⟩:=bo.addIm ho n2 n3 n4
 refine⟨_,le,cH,_,o,[.str x (s.toks+1),.str y (s.toks+1+1+1)],rfl,?_,mh,VL.cons ⟨_,by rw[hx]⟩ (VL.cons ⟨_,by rw[hy]⟩ VL.nil),rfl,?_⟩
 ·simpa using oF T.rel.sys
 ·have:merged [] [(k1,fZ x (s.toks+1)),(k2,fZ y (s.toks+1+1+1))]=[(k1,fZ x (s.toks+1)),(k2,fZ y (s.toks+1+1+1))]:=by
   simp[merged,stored,hk]
  rw[this]at hd'
  exact hd'
end
end
end
section
open PySem.SeqAt
noncomputable section
section
variable{X:FX}{k:Nat}{W W':Wd}{fr:Fm}{σ ai:AS}{s s':az}{A:bW}{h h':bH}{C:PC}
theorem WC{op op':gP}{a b c:EM}{r:Bool}(e:OT op op' a b c fr σ=some (r,ai)){P:Bool->AS->Prop}(k: ∀x ay y aM,a fr σ=some (x,ay)->b fr ay=some (y,aM)->(bU op x y aM=some false->P false aM)/\ ∀z cF r,bU op x y aM=some true->c fr aM=some (z,cF)->bU op' y z cF=some r->P r cF):P r ai:=
 fG e fun x ay e1 e=>fG e fun y aM e2 e=>oE e fun t e3 e=>bE e (fun ht e=>fG e fun z cF e4 e=>oE e fun r' e5 e=>by apply s2 e;exact(k x ay y aM e1 e2).2 z cF r' (ht▸e3) e4 e5) fun ht e=>by apply s2 e;exact(k x ay y aM e1 e2).1 (ht▸e3)
theorem Iy(hk:5<=k)(R:eH A k)(T:St X W fr σ s){op:gP}{a b:AV}{r:Bool}(e:bU op a b σ=some r){v w:ah}(hv:V X.C W a v)(hw:V X.C W b w){Q:ah->az->Prop}
  (h: ∀bk be,W.le be->St X be fr σ bk->Q (.bool r) bk):wpAny (dC X.C) A (compareOp op v w) Q dm s:=
 ek (yZ hk R T e hv hw) fun u bk z=>z.elim fun be l bo q=>q.boolE (h bk be l bo)
theorem aes{op op':gP}{m n o:EM}{a b c:an}{p:Pos}(hk:5<=k)(hm:bX X k m a)(hn:bX X k n b)(ho:bX X k o c)(hb:lastMarks [op,op'] [b,c]=false):bX X k (rI (OT op op' m n o)) (.Compare a [op,op'] [b,c] p):=fun A R W fr σ s T v ai e=>by
 refine aaa e fun r ay q=> ?_
 apply WC q;intro x ay y aM e1 e2
 refine⟨fun e3=> ?_,fun z cF r e3 e4 e5=> ?_⟩
 ·exact Mq (hm.go R T e1 fun v bk be bv bo d5=>chain_link (hn.go R bo e2 fun w dP cq dJ cH jV=>Iy hk R cH e3 (d5.mono dJ) jV fun jE xq gR iZ=>fD ⟨xq,bv.trans (dJ.trans gR),iZ,rfl⟩)) hb
 ·exact Mq (hm.go R T e1 fun v bk be bv bo d5=>chain_link (hn.go R bo e2 fun w dP cq dJ cH jV=>Iy hk R cH e3 (d5.mono dJ) jV fun jE xq gR iZ=>fD
   (chain_last (ho.go R iZ e4 fun w' oq amB PK n7 aif=>ek (yZ hk R n7 e5 ((jV.mono gR).mono PK) aif) fun _ _ z=>z.le (bv.trans (dJ.trans (gR.trans PK))))))) hb
theorem aav{op op':gP}{m n o:EM}{a b c:an}{p:Pos}(hk:5<=k)(hm:bX X k m a)(hn:bX X k n b)(ho:bX X k o c)(hb:lastMarks [op,op'] [b,c]=false):m8 X k (OT op op' m n o) (.Compare a [op,op'] [b,c] p):=fun A R W fr σ s T v ai e=>by
 apply WC e;intro x ay y aM e1 e2
 refine⟨fun e3=> ?_,fun z cF r e3 e4 e5=> ?_⟩
 ·exact NZ (hm.go R T e1 fun v bk be bv bo d5=>test_link (hn.go R bo e2 fun w dP cq dJ cH jV=>Iy hk R cH e3 (d5.mono dJ) jV fun jE xq gR iZ=>fD ⟨rfl,xq,bv.trans (dJ.trans gR),iZ⟩)) hb
 ·exact NZ (hm.go R T e1 fun v bk be bv bo d5=>test_link (hn.go R bo e2 fun w dP cq dJ cH jV=>Iy hk R cH e3 (d5.mono dJ) jV fun jE xq gR iZ=>fD
   (test_last (ho.go R iZ e4 fun w' oq amB PK n7 aif=>Iy hk R n7 e5 ((jV.mono gR).mono PK) aif fun sr Ws Xm xo=>fD ⟨rfl,Ws,bv.trans (dJ.trans (gR.trans (PK.trans Xm))),xo⟩)))) hb
theorem UT{W W':Wd}(h1:W'.ρ=W.ρ)(h2:W'.im=W.im):W.le0 W':=⟨fun a p e=>by rw[h1];exact e,fun x o e=>by rw[h2];exact e⟩
theorem VL.pr{W W':Wd}{l:aa}{vs:List ah}(q:VL C W l vs)(h1:W'.ρ=W.ρ)(h2:W'.im=W.im):VL C W' l vs:=q.mono0 (UT h1 h2)
theorem V.pr{W W':Wd}{a:AV}{v:ah}(q:V C W a v)(h1:W'.ρ=W.ρ)(h2:W'.im=W.im):V C W' a v:=q.mono0 (UT h1 h2)
theorem dT.pr{W W':Wd}{p:aC×aC}{c:bF}(a2:dT C W h p c)(h1:W'.ρ=W.ρ)(h2:W'.im=W.im):dT C W' h p c:=dT.mono0 (UT h1 h2) a2
open Classical in
noncomputable def Wd.guard(W:Wd)(X:FX)(h:bH):Wd:={W with pr:=fun b=>if X.Has b then h.get? b else W.pr b}
theorem t8{b:aC}(hb:X.Has b):(W.guard X h).pr b=h.get? b:=if_pos hb
theorem ki{b:aC}(hb: ¬X.Has b):(W.guard X h).pr b=W.pr b:=if_neg hb
theorem St.guard(T:St X W fr σ s):cu X.C (W.guard X s.heap) σ s.heap:=by
 obtain⟨R,F,_⟩:=T
 refine⟨R.base,R.im,fun b o e=> ?_,fun b o e=> ?_,R.fresh,fun a c e=> ?_,R.inj⟩
 ·by_cases hb:X.Has b
  ·rw[t8 hb]at e;exact e
  ·rw[ki hb]at e;exact R.pr _ _ e
 ·by_cases hb:X.Has b
  ·exact F.sep _ hb
  ·rw[ki hb]at e;exact R.dis _ _ e
 ·obtain⟨p,a1,a2,a3,a4⟩:=R.cell a c e
  refine⟨p,a1,?_,a3,?_⟩
  ·exact a2.pr rfl rfl
  ·rw[ki fun hb=>F.apart _ hb a c p e a1 rfl];exact a4
theorem St.back(T:St X W fr σ s){be:Wd}(l:(W.guard X s.heap).le be)(R:cu X.C be ai s'.heap)(hs:Sm s s'):W.le {be with pr:=W.pr}/\St X {be with pr:=W.pr} fr ai s':=by
 have hpr:be.pr=(W.guard X s.heap).pr:=l.2.2
 have le:W.le {be with pr:=W.pr}:=⟨l.1,l.2.1,rfl⟩
 have kept: ∀c,X.Has c-> ∀o,s.heap.get? c=some o->s'.heap.get? c=some o:=fun c hc o e=>R.pr _ _ (by rw[hpr,t8 hc];exact e)
 have nc: ∀c,X.Has c->sN {be with pr:=W.pr} ai c:=fun c hc a cc p e e' q=>by
  obtain⟨p',a1,a2,a3,a4⟩:=R.cell a cc e
  have e':be.ρ a=some p:=e'
  rw[e']at a1;cases a1
  rw[q,hpr,t8 hc]at a4
  obtain⟨o,z⟩:=T.fr.live c hc
  rw[z]at a4;cases a4
 refine⟨le,⟨R.base,R.im,fun b o e=> ?_,fun b o e=> ?_,R.fresh,fun a c e=> ?_,R.inj⟩,T.fr.turn le (fun b o e e' hb=> ?_) nc kept,T.sm.trans hs⟩
 ·have e:W.pr b=some o:=e
  by_cases hb:X.Has b
  ·exact kept b hb o (T.rel.pr _ _ e)
  ·exact R.pr _ _ (by rw[hpr,ki hb];exact e)
 ·have e:W.pr b=some o:=e
  show be.im b=none
  by_cases hb:X.Has b
  ·obtain⟨o',z⟩:=T.fr.live b hb
   exact R.dis b o' (by rw[hpr,t8 hb];exact z)
  ·exact R.dis b o (by rw[hpr,ki hb];exact e)
 ·obtain⟨p,a1,a2,a3,a4⟩:=R.cell a c e
  refine⟨p,a1,?_,a3,?_⟩
  ·exact a2.pr rfl rfl
  ·have hn: ¬X.Has p.2:=fun hc=>nc _ hc a c p e a1 rfl
   rw[hpr,ki hn]at a4;exact a4
 ·have e':be.im b=some o:=e'
  obtain⟨o',z⟩:=T.fr.live b hb
  have:=R.dis b o' (by rw[hpr,t8 hb];exact z)
  rw[this]at e';cases e'
theorem St.call(T:St X W fr σ s){kF:Nat}{f:ah}{F:aW}(hF:aF X.C kF f F)(R:eH A kF){args:aa}{vs:List ah}(hv:VL X.C W args vs){a:AV}(e:F args σ=some (a,ai)):
  wpAny (dC X.C) A (call f vs) (fE X W fr a ai) dm s:=
 ek (hF A R (W.guard X s.heap) σ s args vs T.guard (hv.pr rfl rfl) T.sm.pos a ai e) fun v s' ⟨hs,be,l,R',q⟩=>by
  obtain⟨le,T'⟩:=T.back l R' hs
  exact⟨_,le,T',q.pr rfl rfl⟩
def oL(C:PC)(f:ah):Prop:= ∀h,C.K.In h-> ∃k,(k=Keeper.frame\/k=Keeper.machine\/k=Keeper.boundFrame)/\HJ (dC C) h (keeperOf f) k
theorem q6{C:PC}{f:ah}(h:keepIn C.K f=true):oL C f:=fun h' X=>keeps_K h h' X
theorem fg{C:PC}{id:String}:oL C (.builtin id):=fun _ _=>⟨.machine,.inr (.inl rfl),rp rfl⟩
theorem mj{C:PC}{id:String}:oL C (.type id):=fun _ _=>⟨.machine,.inr (.inl rfl),rp rfl⟩
theorem qy{es:List an}{env:Env}{pos:Pos}(hs:es.all (fun e=> !i8 e)=true):(backTo pos (starEach es env)).any (·.1)=false:=by
 induction es with
 |nil=>rfl
 |cons e es ih=>
  simp only[rm,cD,dX]at hs
  rw[lO hs.1]
  show(false||(backTo pos (starEach es env)).any (·.1))=false
  rw[ih hs.2];rfl
theorem wu{M:kW}{E:ah->az->Prop}{f:ah}{es:List an}{env:Env}{pos:Pos}(hs:es.all (fun e=> !i8 e)=true){Q:Args->az->Prop}
  (h:wpAny M A (spliced (backTo pos (starEach es env))) (fun vs s'=>Q ⟨vs,[]⟩ s') E s):wpAny M A (evalArgs f true (backTo pos (starEach es env)) []) Q E s:=by
 cases es with
 |nil=>
  unfold evalArgs
  show wpAny M A (spliced []>>=_) Q E s
  refine aq (jp h (fun vs s' h'=> ?_) fun _ _ x=>x)
  refine aq (aL ?_)
  refine dF ?_
  exact aq (aL (aq (aL (aL h'))))
 |cons e es=>
  simp only[rm,cD,dX]at hs
  rw[lO hs.1]at h ⊢
  exact evalArgs_plain h
theorem Fx{X:FX}{k kF:Nat}{W:Wd}{fr:Fm}{σ ay ai:AS}{s:az}(T:St X W fr σ s){f:ah}{F:aW}(hf:oL X.C f)(hF:aF X.C kF f F)(hk:kF<=k)(R:eH A k){n:LM}{es:List an}(hs:es.all (fun e=> !i8 e)=true)(hn:zW X k n es)
  {l:List AV}(e1:n fr σ=some (l,ay)){first:List ah}{fa:List AV}(h1:VL X.C W fa first){a:AV}(e2:F (fa++l) ay=some (a,ai))(pos:Pos):
  wpAny (dC X.C) A (callWith pos f first (backTo pos (starEach es X.env)) []) (fE X W fr a ai) dm s:=by
 refine Fe (P:=X.C.K.In) (by rw[qy hs];rfl) hf ?_
 refine wu hs (hn.go R T e1 pos fun vs bk be bv bo d5=>⟨bo.rel.K,?_⟩)
 exact ek (bo.call hF (R.le hk) ((h1.mono bv).append d5) e2) fun _ _ z=>z.le bv
theorem aer(O:uV X){kF:Nat}{fv:ah}{F:aW}{n:LM}{x:Str}{es:List an}{p p':Pos}(hx:X.env.kindOf x=some .globalImplicit)(hd:(x==("__debug__":Str))=false)(hg:na X.C x (.glob fv))(hf:oL X.C fv)(hF:aF X.C kF fv F)(hk:kF<=k)
  (hs:es.all (fun e=> !i8 e)=true)(hn:zW X k n es):bX X k (bn F n) (.Call (.Name x p') es [] p):=fun A R W fr σ s T a ai e=>by
 refine aac e fun l ay e1 e2=> ?_
 show wpAny _ _ (do callWith p (<- eval (.Name x p') X.env) [] (backTo p (starEach es X.env)) (backToKw p (keywordEach [] X.env))) _ _ _
 refine aq (yy O.kind hx (hg _ A dm X.env W σ s _ O.glob O.blt T.rel fun v q=> ?_) hd)
 cases q
 exact Fx T hf hF hk R hs hn e1 VL.nil e2 p
def dW(C:PC)(k:Nat)(name:Str)(D:gK):Prop:= ∀W σ h a v F,cu C W σ h->V C W a v->D a σ=some F->
 ∃f,(∀A s pl E (Q:ah×List ah->az->Prop),s.heap=h->Q (f,[v]) s->wpAny (dC C) A (getMethod v name pl) Q E s)/\oL C f/\aF C k f F
theorem S3{m:EM}{x:Str}{o:an}{es:List an}{ap p:Pos}(hb:sU o=true)(hl:(ap.endLine==p.line)=true)(hfew:es.length<30)(hm:bX X k m o)(hs:es.all (fun e=> !i8 e)=true)
  (R:eH A k)(T:St X W fr σ s){vX:AV}{ay:AS}(e1:m fr σ=some (vX,ay)){Q:ah->az->Prop}
  (h: ∀v bk be,W.le be->St X be fr ay bk->V X.C be vX v-> ∃f,(∀A s pl E (Q:ah×List ah->az->Prop),s.heap=bk.heap->Q (f,[v]) s->wpAny (dC X.C) A (getMethod v x pl) Q E s)/\
   wpAny (dC X.C) A (callWith p f [v] (backTo p (starEach es X.env)) []) Q dm bk):wpAny (dC X.C) A (eval (.Call (.Attribute o x ap) es [] p) X.env) Q dm s:=by
 show wpAny _ _ (do
  let ov <- attributeBase o x X.env (eval o X.env)
  standAt ap.atName
  methodCall o x ap p X.env ov (es.length+([]:List td).length) (backTo p (starEach es X.env)) (backToKw p (keywordEach [] X.env))) _ _ _
 refine aq (lR hb (hm.go R T e1 fun v bk be bv bo d5=>aq (du ?_)))
 obtain⟨f,g1,g2⟩:=h v bk be bv bo d5
 have hform:methodCallForm (es.length+([]:List td).length) (backTo p (starEach es X.env)) (backToKw p (keywordEach [] X.env))=true:=by
  unfold methodCallForm
  have h1:(backTo p (starEach es X.env)).all (!·.1)=true:=by
   have:=qy (env:=X.env) (pos:=p) hs
   rw[bR];rw[EE]at this
   intro y hy;simpa using this y hy
  rw[h1]
  have h2:(backToKw p (keywordEach [] X.env)).all (·.1.isSome)=true:=rfl
  rw[h2]
  simp;exact hfew
 unfold methodCall
 rw[hform]
 have hpos:methodCallPos true o X.env ap p=pure p:=by unfold methodCallPos;simp[hl]
 refine aq (dF ?_)
 show wpAny _ _ (getMethod v x _) _ _ _
 refine g1 A bk _ dm _ rfl ?_
 show wpAny _ _ (do let callPos <- methodCallPos true o X.env ap p;callWith callPos f [v] (backTo p (starEach es X.env)) (backToKw p (keywordEach [] X.env))) _ _ _
 rw[hpos]
 exact aq (aL g2)
theorem aey{kF:Nat}{D:gK}{m:EM}{n:LM}{x:Str}{o:an}{es:List an}{ap p:Pos}(hb:sU o=true)(hl:(ap.endLine==p.line)=true)(hfew:es.length<30)(hm:bX X k m o)(hD:dW X.C kF x D)(hk:kF<=k)
  (hs:es.all (fun e=> !i8 e)=true)(hn:zW X k n es):bX X k (cC D m n) (.Call (.Attribute o x ap) es [] p):=fun A R W fr σ s T a ai e=>by
 refine fG e fun vX ay e1 e=>oE e fun F e2 e=>fG e fun l aM e3 e=>S3 hb hl hfew hm hs R T e1 fun v bk be bv bo d5=> ?_
 obtain⟨f,g1,g2,g3⟩:=hD be _ bk.heap vX v F bo.rel d5 e2
 exact⟨f,g1,ek (Fx bo g2 g3 hk R hs hn e3 (VL.one d5) e p) fun _ _ z=>z.le bv⟩
end
end
end
section
open PySem.SeqAt
noncomputable section
section
variable{X:FX}{k:Nat}{W W':Wd}{fr:Fm}{σ ai:AS}{s s':az}{A:bW}{h h':bH}{C:PC}
structure hU(X:FX)(W:Wd)(σ:AS)(I:aC):Prop where
 im:W.im I=none
 pr:W.pr I=none
 cell:sN W σ I
 out: ¬X.Has I
theorem hU.new(T:St X W fr σ s){I:aC}(hI:s.heap.objs.size<=I):hU X W σ I:=
 ⟨T.rel.im_new hI,T.rel.pr_new hI,T.rel.cell_new hI,fun hc=>absurd (T.fr.lt hc) (b5.mpr hI)⟩
theorem St.but(T:St X W fr σ s){I:aC}(L:hU X W σ I)(hk: ∀b o,b≠I->s.heap.get? b=some o->h'.get? b=some o)(t:Nat)(ht:s.toks<=t:=by first|exact ax _|exact cJ _|omega):St X W fr σ {s with heap:=h',toks:=t}:=
 ⟨T.rel.keepsBut L.im L.pr L.cell hk,T.fr.turn (.refl _) (fun b o e e'=>by rw[e]at e';cases e') (fun c hc=>T.fr.apart c hc) fun c hc o e=>hk _ _ (fun q=>L.out (q▸hc)) e,T.sm.mk' _ _ ht⟩
noncomputable def Wd.pin(W:Wd)(I:aC)(o:Obj):Wd:={W with pr:=fun b=>if b=I then some o else W.pr b}
theorem I4{I:aC}{o:Obj}:(W.pin I o).pr I=some o:=if_pos rfl
theorem ju{I b:aC}{o:Obj}(hb:b≠I):(W.pin I o).pr b=W.pr b:=if_neg hb
theorem St.pin(T:St X W fr σ s){I:aC}(L:hU X W σ I){o:Obj}(ho:s.heap.get? I=some o):St X (W.pin I o) fr σ s:=by
 obtain⟨R,⟨⟨m,a,b⟩,c,d,xA,d',Co⟩,S⟩:=T
 refine⟨⟨R.base,R.im,fun b o' e=> ?_,fun b o' e=> ?_,R.fresh,fun a c e=> ?_,R.inj⟩,⟨⟨m,a,fun i x e=>(b i x e).imp id fun f y p=>let⟨v,q,r⟩:=f y p;⟨v,q,r.pr rfl rfl⟩⟩,c,d,xA,fun c hc=> ?_,Co⟩,S⟩
 ·by_cases q:b=I
  ·subst q;rw[I4]at e;cases e;exact ho
  ·rw[ju q]at e;exact R.pr _ _ e
 ·by_cases q:b=I
  ·subst q;exact L.im
  ·rw[ju q]at e;exact R.dis _ _ e
 ·obtain⟨p,a1,a2,a3,a4⟩:=R.cell a c e
  exact⟨p,a1,a2.pr rfl rfl,a3,by rw[ju (L.cell a c p e a1)];exact a4⟩
 ·rw[ju fun q=>L.out (by rw[<- q];exact .inr (.inr hc))];exact d' c hc
theorem St.unpin{be:Wd}{fr':Fm}{I:aC}{o:Obj}(l:(W.pin I o).le be)(L:hU X W σ I)(T:St X be fr' ai s'):
  W.le {be with pr:=W.pr}/\St X {be with pr:=W.pr} fr' ai s'/\s'.heap.get? I=some o/\hU X {be with pr:=W.pr} ai I:=by
 have hpr:be.pr=(W.pin I o).pr:=l.2.2
 have hI:be.pr I=some o:=by rw[hpr,I4]
 obtain⟨R,⟨⟨m,a,b⟩,c,d,xA,d',Co⟩,S⟩:=T
 have nc:sN be ai I:=fun a cc p e e' q=>by
  obtain⟨p',a1,a2,a3,a4⟩:=R.cell a cc e
  rw[e']at a1;cases a1
  rw[q,hI]at a4;cases a4
 refine⟨⟨l.1,l.2.1,rfl⟩,⟨⟨R.base,R.im,fun b o' e=> ?_,fun b o' e=> ?_,R.fresh,fun a c e=> ?_,R.inj⟩,⟨⟨m,a,fun i x e=>(b i x e).imp id fun f y p=>let⟨v,q,r⟩:=f y p;⟨v,q,r.pr rfl rfl⟩⟩,c,d,xA,fun c hc=> ?_,Co⟩,S⟩,
  R.pr _ _ hI,⟨R.dis _ _ hI,L.pr,nc,L.out⟩⟩
 ·have e:W.pr b=some o':=e
  exact R.pr _ _ (by rw[hpr,ju (fun q=>by rw[q,L.pr]at e;cases e)];exact e)
 ·have e:W.pr b=some o':=e
  exact R.dis b o' (by rw[hpr,ju (fun q=>by rw[q,L.pr]at e;cases e)];exact e)
 ·obtain⟨p,a1,a2,a3,a4⟩:=R.cell a c e
  refine⟨p,a1,a2.pr rfl rfl,a3,?_⟩
  rw[hpr,ju (nc a c p e a1)]at a4;exact a4
 ·have:=d' c hc
  rw[hpr,ju fun q=>L.out (by rw[<- q];exact .inr (.inr hc))]at this;exact this
structure w6(X:FX)(W:Wd)(σ:AS)(I:aC)(l:List AV)(h:bH)(S:Nat->bH->Prop)(fp:List aC)(P:Nat->ah->Prop):Prop where
 walks: ∀A',A'.handled=none->Walks X.C.prog X.C.w A' I fp [I] l.length P S
 st:S 0 h
 fp: ∀b∈fp,b=I\/ ∃o,W.im b=some o
 val: ∀i v,i<l.length->P i v-> ∃a,l[i]? =some a/\V X.C W a v
 obj: ∀i h,S i h-> ∃o n,h.get? I=some o/\o.cls= .type n/\(["enumerate","zip","dict_itemiterator","dict_reverseitemiterator","odict_iterator","itertools.zip_longest","itertools.pairwise"].contains n)=false
theorem w6.mono{I:aC}{l:aa}{S:Nat->bH->Prop}{fp:List aC}{P:Nat->ah->Prop}(q:w6 X W σ I l h S fp P)(le:W.le W'):w6 X W' σ I l h S fp P:=
 ⟨q.walks,q.st,fun b hb=>(q.fp b hb).imp id fun⟨o,e⟩=>⟨o,le.2.1 _ _ e⟩,fun i v hi p=>let⟨a,e,r⟩:=q.val i v hi p;⟨a,e,r.mono le⟩,q.obj⟩
theorem VL.ith{W:Wd}{l:aa}{vs:List ah}(q:VL C W l vs){i:Nat}{v:ah}(e:vs[i]? =some v): ∃a,l[i]? =some a/\V C W a v:=by
 have hl:i<l.length:=by
  rw[<- q.length]
  exact(cL.mp e).1
 obtain⟨v',e',r⟩:=q.get (show l[i]? =some l[i] from eS hl)
 rw[e]at e';cases e'
 exact⟨_,eS hl,r⟩
def l8(X:FX)(W:Wd)(fr:Fm)(σ:AS)(l:aa)(it:ah)(s':az):Prop:=
 ∃I W' S fp P,it= .ref I/\W.le W'/\St X W' fr σ s'/\hU X W' σ I/\w6 X W' σ I l s'.heap S fp P
theorem Er(T:St X W fr σ s)(o:Obj):hU X W σ s.heap.objs.size/\St X W fr σ {s with heap:=s.heap.push o}:=
 ⟨hU.new T (ax _),T.keeps (ef _ _) s.toks⟩
theorem SL(T:St X W fr σ s){x n:Nat}{vs:List ah}{l:aa}(hx:W.im x=some (dw vs n))(q:VL X.C W l vs):wpAny (dC X.C) A (pyIter (.ref x)) (l8 X W fr σ l) dm s:=by
 have hg:=T.rel.im _ _ hx
 refine wpAny_pyIter_list (lI hg) ?_
 obtain⟨L,T'⟩:=Er T {cls:=.type "list_iterator",data:=.fields #[.ref x,.int 0 0]}
 have ne:x≠s.heap.objs.size:=ci (co hg)
 have hl:vs.toArray.size=l.length:=by rw[aZ,q.length]
 refine⟨_,W,_,[s.heap.objs.size,x],_,rfl,.refl _,T',L,⟨fun A' hA=>hl▸Walks.list hA _ x ne vs.toArray,⟨⟨_,bg _ rfl,rfl,rfl⟩,lI (ef _ _ _ _ hg)⟩,fun b hb=> ?_,fun i v _ e=> ?_,fun _ _ st=>let⟨o,e1,e2,_⟩:=st.1;⟨o,_,e1,e2,by decide⟩⟩⟩
 ·simp at hb;exact hb.imp id fun e=>⟨_,e▸hx⟩
 ·exact q.ith (by simpa using e)
theorem ady(T:St X W fr σ s){x n:Nat}{vs:List ah}{l:aa}(hx:W.im x=some (tb vs n))(q:VL X.C W l vs):wpAny (dC X.C) A (pyIter (.ref x)) (l8 X W fr σ l) dm s:=by
 have hg:=T.rel.im _ _ hx
 have ht:s.heap.IsTuple x vs.toArray:=⟨_,hg,rfl,n,rfl⟩
 refine wpAny_pyIter_tuple ht ?_
 obtain⟨L,T'⟩:=Er T {cls:=.type "tuple_iterator",data:=.fields #[.ref x,.int 0 0]}
 have ne:x≠s.heap.objs.size:=ci (co hg)
 have hl:vs.toArray.size=l.length:=by rw[aZ,q.length]
 refine⟨_,W,_,[s.heap.objs.size,x],_,rfl,.refl _,T',L,⟨fun A' hA=>hl▸Walks.tuple hA _ x ne vs.toArray,⟨⟨_,bg _ rfl,rfl,rfl⟩,ht.push _⟩,fun b hb=> ?_,fun i v _ e=> ?_,fun _ _ st=>let⟨o,e1,e2,_⟩:=st.1;⟨o,_,e1,e2,by decide⟩⟩⟩
 ·simp at hb;exact hb.imp id fun e=>⟨_,e▸hx⟩
 ·exact q.ith (by simpa using e)
theorem ahu{a:AV}{l:aa}(e:fu σ a=some (l,ai)){P:Prop}(k:aht σ a=some (l,ai)->l.length<=4000000->P):P:=fG e fun l' ay q e=>kS e fun z e=>by
 cases e;exact k q (jJ z)
@[elab_as_elim] theorem l8.elim {l:aa} {it:ah} {Q:ah->Prop} (h:l8 X W fr σ l it s) (k: ∀I W' S fp P,W.le W'->St X W' fr σ s->hU X W' σ I->w6 X W' σ I l s.heap S fp P->Q (.ref I)):Q it:=by
 obtain⟨I,W',S,fp,P,rfl,h1,h2,h3,h4⟩:=h;exact k I W' S fp P h1 h2 h3 h4
theorem St.freezeL(T:St X W fr σ s){a:Nat}{l:aa}(hg:σ.get a=some (.lst l)): ∃x vs n,W.ρ a=some (x,x)/\W.le (W.addIm x (dw vs n))/\St X (W.addIm x (dw vs n)) fr (σ.drop a) s/\VL X.C (W.addIm x (dw vs n)) l vs:=by
 obtain⟨⟨x,y⟩,a1,⟨a2,vs,n,b,r⟩,a3,a4⟩:=T.rel.cell _ _ hg
 obtain rfl:x=y:=a2
 have R:=T.rel.freeze hg a1 b
 have le:W.le (W.addIm x (dw vs n)):=Wd.le_addIm fun o' e=>by have:=T.rel.im _ _ e;rw[b]at this;exact(aG this).symm
 refine⟨x,vs,n,a1,le,⟨R,T.fr.turn le (fun b' o' e e' hb=> ?_) (fun c hc b' cb p e e'=> ?_) fun c _ o e=>e,T.sm⟩,r.mono le⟩
 ·have e':(if b'=x then some (dw vs n)else W.im b')=some o':=e'
  by_cases q:b'=x
  ·exact T.fr.apart _ hb a _ _ hg a1 q.symm
  ·rw[if_neg q,e]at e';cases e'
 ·rw[AS.get_drop]at e
  split at e
  ·cases e
  ·exact T.fr.apart c hc b' cb p e e'
theorem XU{a b:Nat}(ha:a<2^20)(hb:b<2^20):AW (a:Int) (b:Int) 1=true/\mw (a:Int) (b:Int) 1=(b-a:Nat):=by
 have h1:mw (a:Int) (b:Int) 1=(b-a:Nat):=by
  unfold mw
  simp
  omega
 refine⟨?_,h1⟩
 unfold AW
 rw[h1]
 unfold Le
 simp
 omega
theorem strKind_is{key:Str}{v:ah}(e:(rq C.prog C.w).is key v=true): ∃t,v= .str key t:=by
 exact Value.isStrOf_shape e
theorem ZP{M:dD}{p:fQ}{E:ah->az->Prop}{x:Str}{t:Tok}{Q:ah->az->Prop}
  (hQ: ∀(o:Obj) (S:Nat->bH->Prop),(∀A':bW,A'.handled=none->Walks p M A' s.heap.objs.size [s.heap.objs.size] [s.heap.objs.size] x.cps.size (SignAt x) S)->S 0 (s.heap.push o)->
   (∀i h,S i h-> ∃o n,h.get? s.heap.objs.size=some o/\o.cls= .type n/\(["enumerate","zip","dict_itemiterator","dict_reverseitemiterator","odict_iterator","itertools.zip_longest","itertools.pairwise"].contains n)=false)->
   Q (.ref s.heap.objs.size) {s with heap:=s.heap.push o}):wpAny (model p M) A (pyIter (.str x t)) Q E s:=by
 cases ha:x.cps.all (· <128)
 ·exact wpAny_pyIter_wide ha (hQ _ _ (fun A' hA=>Walks.strWide hA _ x t) ⟨_,bg _ rfl,rfl,rfl⟩ fun _ _ st=>let⟨o,e1,e2,_⟩:=st;⟨o,_,e1,e2,by decide⟩)
 ·exact wpAny_pyIter_ascii ha (hQ _ _ (fun A' hA=>Walks.strAscii hA _ x t) ⟨_,bg _ rfl,rfl,rfl⟩ fun _ _ st=>let⟨o,e1,e2,_⟩:=st;⟨o,_,e1,e2,by decide⟩)
theorem adQ{n i:Nat}(hi:i<n):(ct n)[i]? =some i:=by rw[List.getElem?_range hi]
theorem ZQ(T:St X W fr σ s){ss:ac}(t:Tok):wpAny (dC X.C) A (pyIter (.str (aP ss) t)) (l8 X W fr σ (ss.map fun c=>.str [c])) dm s:=by
 refine ZP fun o S hW hS hO=> ?_
 obtain⟨L,T'⟩:=Er T o
 have hl:(aP ss).cps.size=(ss.map fun c=>AV.str [c]).length:=by rw[aS];rfl
 refine⟨_,W,_,[s.heap.objs.size],_,rfl,.refl _,T',L,⟨fun A' hA=>hl▸hW A' hA,hS,fun b hb=>.inl (aO.mp hb),fun i v _ ⟨c,u,e,ev⟩=> ?_,hO⟩⟩
 subst ev
 have e:ss.toArray[i]? =some c:=e
 rw[jN]at e
 exact⟨.str [c],by rw[jG,e];rfl,u,rfl⟩
theorem adw(T:St X W fr σ s){x:aC}{o:Obj}{ks:List (List Nat)}{ws:List ah}(h0:(x==sysModules)=false)(h1:W.im x=some o)(h3:DY X.C ks ws o):wpAny (dC X.C) A (pyIter (.ref x)) (l8 X W fr σ (ks.map .str)) dm s:=by
 obtain⟨h3,es,ep,hd⟩:=h3
 have hg:=T.rel.im _ _ h1
 have hd':s.heap.DictAt (strKind X.C.prog X.C.w) x ((ks.map aP).zip ws) ep:=⟨o,es,hg,hd⟩
 refine E0 h0 hd' ?_
 have hz:((ks.map aP).zip ws).length=(ks.map AV.str).length:=by simp[h3]
 obtain⟨L,T'⟩:=Er T {cls:=.type "dict_keyiterator",data:=.fields #[.ref x,.int 0 0,.int ((ks.map aP).zip ws).length 0,.int ep 0]}
 have ne:x≠s.heap.objs.size:=ci (co hg)
 refine⟨_,W,_,[s.heap.objs.size,x],_,rfl,.refl _,T',L,⟨fun A' hA=>hz▸JW hA _ x ne _ ep,⟨⟨_,bg _ rfl,rfl,by rw[hz];rfl⟩,hd'.at' fun o e=>ef _ _ _ _ e⟩,fun b hb=> ?_,fun i v _ ⟨key,y,e,hk⟩=> ?_,fun _ _ st=>let⟨o,e1,e2,_⟩:=st.1;⟨o,_,e1,e2,by decide⟩⟩⟩
 ·rcases aH.mp hb with hb|hb
  ·exact .inl hb
  ·exact .inr ⟨_,aO.mp hb▸h1⟩
 ·obtain⟨t,rfl⟩:=strKind_is hk
  rw[sG,jG]at e
  obtain⟨kk,e1,e2⟩:=gZ.mp e.1
  exact⟨.str kk,by rw[jG,e1];rfl,t,by rw[e2]⟩
theorem Xe(T:St X W fr σ s){b:List UInt8}(t:Tok):wpAny (dC X.C) A (pyIter (.bytes b.toArray t)) (l8 X W fr σ (b.map fun x=>.int (am x.toNat))) dm s:=by
 refine KBw.pyIter_bytes ?_
 obtain⟨L,T'⟩:=Er T {cls:=.type "bytes_iterator",data:=.fields #[.bytes b.toArray t,.int 0 0]}
 have hl:b.toArray.size=(b.map fun x=>AV.int (am x.toNat)).length:=by rw[aS];rfl
 refine⟨_,W,_,[s.heap.objs.size],_,rfl,.refl _,T',L,⟨fun A' hA=>hl▸KBw.walks hA _ b.toArray t,⟨_,bg _ rfl,rfl,rfl⟩,fun b hb=>.inl (aO.mp hb),fun i v _ ⟨c,u,e,ev⟩=> ?_,fun _ _ st=>let⟨o,e1,e2,_⟩:=st;⟨o,_,e1,e2,by decide⟩⟩⟩
 subst ev
 rw[jN]at e
 exact⟨.int (am c.toNat),by rw[jG,e];rfl,u,rfl⟩
theorem adx(T:St X W fr σ s){a b:Nat}{x:aC}{t u w:Tok}(h1:W.im x=some {cls:=.type "range",dict:=none,data:=.fields #[.int a t,.int b u,.int 1 w],slots:= #[]})(h2:a<2^20)(h3:b<2^20):wpAny (dC X.C) A (pyIter (.ref x)) (l8 X W fr σ ((ct (b-a)).map fun i=>.int (am (a+i)))) dm s:=by
 have hg:=T.rel.im _ _ h1
 obtain⟨r1,r2⟩:=XU h2 h3
 refine wpAny_pyIter_range hg r1 ?_
 rw[r2]
 obtain⟨L,T'⟩:=Er T {cls:=.type "range_iterator",data:=.fields #[rawInt a,rawInt (b-a:Nat),rawInt 1]}
 have hl:((ct (b-a)).map fun i=>AV.int (am (a+i))).length=b-a:=by rw[aS,EG]
 refine⟨_,W,_,[s.heap.objs.size],_,rfl,.refl _,T',L,⟨fun A' hA=>by have:=Walks.range (prog:=X.C.prog) (w:=X.C.w) hA s.heap.objs.size a 1 (b-a);rw[hl];exact this,?_,fun b hb=>.inl (aO.mp hb),?_,fun _ _ st=>⟨_,_,st,rfl,by decide⟩⟩⟩
 ·show IsRangeIter _ _ _ _ _
  have:IsRangeIter (s.heap.push {cls:=.type "range_iterator",data:=.fields #[rawInt a,rawInt (b-a:Nat),rawInt 1]}) s.heap.objs.size a (b-a:Nat) 1:=bg _ rfl
  simpa using this
 ·rintro i v hi ⟨u,rfl⟩
  rw[hl]at hi
  exact⟨.int (a+i:Nat),by rw[jG,adQ hi];rfl,u,by simp⟩
theorem vG(T:St X W fr σ s){a:AV}{l:aa}(e:fu σ a=some (l,ai)){v:ah}(hv:V X.C W a v):wpAny (dC X.C) A (pyIter v) (l8 X W fr ai l) dm s:=ahu e fun e _=>by
 revert hv
 cases a<;>intro hv<;>first|exact nn e|skip
 ·apply s2 e;exact hv.strE fun t=>ZQ T t
 ·apply s2 e;exact hv.bytesE fun t=>Xe T t
 ·apply s2 e;exact hv.tupE fun x n vs q r=>ady T q r
 ·apply s2 e;exact hv.lstE fun x n vs q r=>SL T q r
 ·apply s2 e;exact hv.dctE fun x o vs q0 q1 _ q3=>adw T q0 q1 q3
 ·apply s2 e;exact hv.rngE fun x t u w h1 h2 h3=>adx T h1 h2 h3
 ·refine lstE e fun l' hg e=> ?_
  apply s2 e
  obtain⟨x,vs,n,hr,le,T',q⟩:=T.freezeL hg
  obtain⟨p,e1,rfl⟩:=hv
  rw[hr]at e1;cases e1
  exact ek (SL T' mh q) fun it s' z=>z.elim fun I W' S fp P l1 h2 h3 h4=>⟨I,W',S,fp,P,rfl,le.trans l1,h2,h3,h4⟩
end
end
end
section
open PySem.SeqAt
noncomputable section
section
variable{X:FX}{k:Nat}{W W':Wd}{fr fr':Fm}{σ ai:AS}{s s':az}{A:bW}{h h':bH}{C:PC}
theorem xQ: ∀(fr:Fm) (i:Nat) (a:AV) (j:Nat) (b:AV),(put fr i a)[j]? =some b->(j=i/\b=a)\/(j≠i/\(fr[j]? =some b\/b= .unb)):=by
 have up: ∀{i j:Nat} {P Q Q':Prop},(Q->Q')->((j=i/\P)\/(j≠i/\Q))->((j+1=i+1/\P)\/(j+1≠i+1/\Q')):=fun f h=>h.imp (fun h=>⟨congrArg _ h.1,h.2⟩) fun h=>⟨fun q=>h.1 (jQ q),f h.2⟩
 have nl: ∀(i:Nat) (a:AV) (j:Nat) (b:AV),(put [] i a)[j]? =some b->(j=i/\b=a)\/(j≠i/\(([]:Fm)[j]? =some b\/b= .unb)):=by
  intro i
  induction i with
  |zero=>intro a j b e;cases j with
   |zero=>cases e;exact .inl ⟨rfl,rfl⟩
   |succ j=>cases e
  |succ i ih=>intro a j b e;cases j with
   |zero=>cases e;exact .inr ⟨dM,.inr rfl⟩
   |succ j=>exact up (fun h=>h) (ih a j b e)
 intro fr
 induction fr with
 |nil=>exact nl
 |cons x r ih=>
  intro i a j b e
  cases i with
  |zero=>cases j with
   |zero=>cases e;exact .inl ⟨rfl,rfl⟩
   |succ j=>exact .inr ⟨dM,.inl e⟩
  |succ i=>cases j with
   |zero=>exact .inr ⟨dM,.inl e⟩
   |succ j=>exact up (fun h=>h) (ih i a j b e)
theorem qg: ∀(fr:Fm) {i j:Nat} (a b:AV),i≠j->put (put fr i a) j b=put (put fr j b) i a:=by
 have nl: ∀(i j:Nat) (a b:AV),i≠j->put (put [] i a) j b=put (put [] j b) i a:=by
  intro i
  induction i with
  |zero=>intro j a b h;cases j with
   |zero=>exact absurd rfl h
   |succ j=>rfl
  |succ i ih=>intro j a b h;cases j with
   |zero=>rfl
   |succ j=>exact congrArg (AV.unb:: ·) (ih j a b fun q=>h (congrArg _ q))
 intro fr
 induction fr with
 |nil=>intro i j a b h;exact nl i j a b h
 |cons x r ih=>
  intro i j a b h
  cases i with
  |zero=>cases j with
   |zero=>exact absurd rfl h
   |succ j=>rfl
  |succ i=>cases j with
   |zero=>rfl
   |succ j=>exact congrArg (x:: ·) (ih a b fun q=>h (congrArg _ q))
structure GP(X:FX):Prop where
 uniq: ∀(i j:Nat) x,X.names i=some x->X.names j=some x->i=j
 inter:interactive X.env=false
theorem dH{α β:Type}[BEq α][LawfulBEq α]{n:α}{c:β}: ∀{l:List (α×β)},l.lookup n=some c->(n,c)∈l
 |(m,d)::r,e=>by
  rw[cO]at e
  split at e
  ·rename_i q;cases e;rw[beq_iff_eq.mp q];exact ba
  ·exact aQ _ (dH e)
theorem I3{l:List (Str×aC)}(h:l.Pairwise fun x y=>x.2≠y.2){n n':Str}{c:aC}(e:(n,c)∈l)(e':(n',c)∈l):n=n':=by
 induction l with
 |nil=>cases e
 |cons p r ih=>
  rw[jm]at h
  rcases aH.mp e with q|q<;>rcases aH.mp e' with q'|q'
  ·rw[<- q]at q';exact(cY q').1.symm
  ·exact absurd (by rw[<- q]) (h.1 _ q')
  ·exact absurd (by rw[<- q']) (h.1 _ q)
  ·exact ih h.2 q q'
theorem pI.put(F:pI X W fr σ h)(O':GP X){i:Nat}{x:Str}(hx:X.names i=some x){a:AV}{v:ah}(hv:V X.C W a v){m':Str->Option ah}(hn:h'.Ns X.env.locals m')(hnew:i5 X h' m' x v)
  (hold: ∀m,h.Ns X.env.locals m-> ∀z u,z≠x->i5 X h m z u->i5 X h' m' z u)(cells: ∀n c,X.env.cells.lookup n=some c-> ∃v,h'.IsCell c v)(live: ∀c,X.Has c-> ∃o,h'.get? c=some o):pI X W (put fr i a) σ h':=by
 obtain⟨⟨m,h1,b⟩,_,d,xA,d',_⟩:=F
 refine⟨⟨m',hn,fun j y e=> ?_⟩,cells,d,xA,d',live⟩
 rcases xQ fr i a j y e with⟨rfl,rfl⟩|⟨hj,e|e⟩
 ·refine .inr fun z p=> ?_
  rw[hx]at p;cases p
  exact⟨v,hnew,hv⟩
 ·refine(b j y e).imp id fun f z p=> ?_
  obtain⟨u,q,r⟩:=f z p
  exact⟨u,hold m h1 z u (fun q=>hj (O'.uniq _ _ _ (q▸p) hx)) q,r⟩
 ·exact .inl e
theorem ahX{h:bH}{a:aC}{m m':Str->Option ah}(x:h.Ns a m)(y:h.Ns a m'):m=m':=by
 obtain⟨o,es,ep,h1,h2,_,h4⟩:=x
 obtain⟨o',es',ep',g1,g2,_,g4⟩:=y
 rw[h1]at g1;cases g1
 rw[h2]at g2;cases g2
 funext n;rw[<- h4,<- g4]
theorem i5.turn{m m':Str->Option ah}{z:Str}{u:ah}(q:i5 X h m z u)(hl:X.env.kindOf z=some .local->m z=some u->m' z=some u)(hc: ∀c,X.env.cells.lookup z=some c->h.IsCell c (some u)->h'.IsCell c (some u)):i5 X h' m' z u:=by
 unfold i5 at q ⊢
 revert q hl
 cases X.env.kindOf z with
 |none=>exact fun q _=>q.elim
 |some kd=>
  cases kd with
  |«local»=>exact fun q hl=>hl rfl q
  |cell=>exact fun⟨c,q1,q2⟩ _=>⟨c,q1,hc c q1 q2⟩
  |free=>exact fun⟨c,q1,q2⟩ _=>⟨c,q1,hc c q1 q2⟩
  |_=>exact fun q _=>q.elim
theorem St.store(O:uV X)(O':GP X)(T:St X W fr σ s){i:Nat}{x:Str}(hx:X.names i=some x)(hk:X.env.kindOf x=some .local\/(X.env.kindOf x=some .cell/\ ∃c,X.env.cells.lookup x=some c/\c∈X.own)){a:AV}{v:ah}(hv:V X.C W a v):
  wpAny (dC X.C) A (storeName X.env x v) (fun _ s'=>St X W (put fr i a) σ s') dm s:=by
 obtain⟨R,F,S⟩:=T
 obtain⟨m,hn,_⟩:=F.vars
 rcases hk with hl|⟨hc,cx,hcx,own⟩
 ·refine wpAny_storeName_local hl hn (fun h' hn' hs=> ?_) (by rw[O.kind];rfl)
  have hb: ∀b o,b≠X.env.locals->s.heap.get? b=some o->h'.get? b=some o:=fun b o q e=>hs.extBut b o q e
  have keepC: ∀c n w,X.env.cells.lookup n=some c->s.heap.IsCell c w->h'.IsCell c w:=fun c n w e ⟨o,p,q⟩=>⟨o,hb _ _ (O.notL n c e) p,q⟩
  refine⟨R.keepsBut (F.sep _ (.inl rfl)) (F.own _ O.loc) (fun a cc p e e'=>F.apart _ (.inl rfl) a cc p e e') hb,F.put O' hx hv hn' (by unfold i5;rw[hl];exact if_pos rfl) (fun ahM Pt z u hz q=> ?_) (fun n c' e=>let⟨v,z⟩:=F.cells n c' e;⟨v,keepC _ _ _ e z⟩) fun c' hc'=> ?_,S.mk' _ _ (by first|exact ax _|exact cJ _|(dsimp only;omega))⟩
  ·rw[ahX Pt hn]at q
   exact q.turn (fun _ e=>(if_neg hz).trans e) fun c e q=>keepC c z _ e q
  ·by_cases q:c'=X.env.locals
   ·obtain⟨o,_,_,z,_⟩:=hn';exact⟨o,by rw[q];exact z⟩
   ·obtain⟨o,z⟩:=F.live c' hc';exact⟨o,hb _ _ q z⟩
 ·obtain⟨vX,hcv⟩:=F.cells x cx hcx
  refine wpAny_storeName_cell O.kind hc hcx hcv fun h' hn' hs=> ?_
  have hb: ∀b o,b≠cx->s.heap.get? b=some o->h'.get? b=some o:=fun b o q e=>hs.extBut b o q e
  have keepC: ∀c n w,X.env.cells.lookup n=some c->n≠x->s.heap.IsCell c w->h'.IsCell c w:=fun c n w e hne ⟨o,p,q⟩=>⟨o,hb _ _ (fun q=>by subst q;exact hne (I3 O.apart (dH e) (dH hcx))) p,q⟩
  have has:X.Has cx:=.inr (.inr own)
  refine⟨R.keepsBut (F.sep _ has) (F.own _ own) (fun a cc p e e'=>F.apart _ has a cc p e e') hb,F.put O' hx hv (hn.at' fun o e=>hb _ _ (tf (O.notL x cx hcx)) e) (by unfold i5;rw[hc];exact⟨cx,hcx,hn'⟩) (fun ahM Pt z u hz q=> ?_) (fun n c' e=> ?_) fun c' hc'=> ?_,S.trans ⟨_,_,rfl,ax _⟩⟩
  ·rw[ahX Pt hn]at q
   exact q.turn (fun _ e=>e) fun c e q=>keepC c z _ e hz q
  ·by_cases q:n=x
   ·subst q;rw[hcx]at e;cases e;exact⟨_,hn'⟩
   ·obtain⟨v,z⟩:=F.cells n c' e;exact⟨v,keepC _ _ _ e q z⟩
  ·by_cases q:c'=cx
   ·obtain⟨o,z,_⟩:=hn';exact⟨o,by rw[q];exact z⟩
   ·obtain⟨o,z⟩:=F.live c' hc';exact⟨o,hb _ _ q z⟩
def Sb(X:FX)(is:ac)(t:an):Prop:=
 ∀A,A.handled=none-> ∀W fr σ s,St X W fr σ s-> ∀a v,V X.C W a v-> ∀fr',me is a fr σ=some fr'->wpAny (dC X.C) A (assign t X.env v) (fun _ s'=>St X W fr' σ s') dm s
def kb(X:FX)(i:Nat)(x:Str):Prop:=X.names i=some x/\(X.env.kindOf x=some .local\/(X.env.kindOf x=some .cell/\ ∃c,X.env.cells.lookup x=some c/\c∈X.own))
theorem Hu(O:uV X)(O':GP X){i:Nat}{x:Str}{p:Pos}(hx:kb X i x):Sb X [i] (.Name x p):=fun A _ W fr σ s T a v hv fr' e=>by
 apply s1 e
 exact lr (T.store O O' hx.1 hx.2 hv)
inductive pZ(X:FX):List Nat->List an->Prop where
 |nil:pZ X [] []
 |cons {i x p is ts} (h:kb X i x) (r:pZ X is ts):pZ X (i::is) (.Name x p::ts)
theorem pZ.len{is:ac}{ts:List an}(N:pZ X is ts):is.length=ts.length:=by induction N<;>simp_all
theorem pZ.each{is:ac}{ts:List an}(N:pZ X is ts){env:Env}:(assignEach ts env).findIdx? (·.1)=none/\(assignEach ts env).length=ts.length/\(assignEach ts env).all (fun p=> !p.1)=true:=by
 induction N with
 |nil=>exact⟨rfl,rfl,rfl⟩
 |cons h r ih=>
  rename_i i x p is ts
  have e:assignEach (.Name x p::ts) env=(false,assign (.Name x p) env)::assignEach ts env:=rfl
  rw[e]
  refine⟨?_,by simp[ih.2.1],by simpa using ih.2.2⟩
  rw[List.findIdx?_cons];simp[ih.1]
theorem pZ.order(O:uV X)(O':GP X){is:ac}{ts:List an}(N:pZ X is ts): ∀{W fr σ s},St X W fr σ s-> ∀{l vs},VL X.C W l vs-> ∀{fr'},vz is l fr=some fr'->
  wpAny (dC X.C) A (assignInOrder ((assignEach ts X.env).map (·.2)) vs) (fun _ s'=>St X W fr' σ s') dm s:=by
 induction N with
 |nil=>
  intro W fr σ s T l vs q fr' e
  cases l with
  |nil=>cases e;rw[show vs=[] from q];exact aL T
  |cons=>cases e
 |cons h r ih=>
  intro W fr σ s T l vs q fr' e
  cases l with
  |nil=>cases e
  |cons a l=>
   obtain⟨v,vs,rfl,q,q'⟩:=q
   rename_i i x p is ts
   refine eX (ek (lr (T.store O O' h.1 h.2 q)) fun _ s' T'=>ih T' q' e)
theorem Lz: ∀{is:ac} {l:aa} {fr fr':Fm},vz is l fr=some fr'->is.length=l.length
 |[],[],_,_,_=>rfl
 |i::is,a::l,fr,fr',e=>congrArg nG (Lz (is:=is) (l:=l) (fr:=put fr i a) (fr':=fr') e)
 |[],_::_,_,_,e=>by cases e
 |_::_,[],_,_,e=>by cases e
@[elab_as_elim] theorem Km {i j:Nat} {is:ac} {a:AV} {fr fr':Fm} {Q:AV->Prop} (e:me (i::j::is) a fr σ=some fr') (k: ∀l,vz (i::j::is) l fr=some fr'->Q (.tup l)):Q a:=Np (show GQ a (fun l=>vz (i::j::is) l fr)=some fr' from e) k
theorem KS(O:uV X)(O':GP X){i j:Nat}{is:ac}{ts:List an}{c:Nat}{p:Pos}(N:pZ X (i::j::is) ts):Sb X (i::j::is) (.Tuple ts c p):=fun A hA W fr σ s T a v hv fr' e=>by
 revert hv
 refine Km e fun l e hv=>hv.tupE fun x n vs q r=> ?_
 have ht:s.heap.IsTuple x vs.toArray:=⟨_,T.rel.im _ _ q,rfl,n,rfl⟩
 obtain⟨n1,n2,n3⟩:=N.each (env:=X.env)
 refine wpAny_assign_Tuple hA ht ?_ n1 fun h' he=> ?_
 ·rw[n2,<- N.len,Lz e,aZ,r.length]
 ·exact N.order O O' (T.keeps (fun b o z=>he b o (ci (co z)) z) s.toks) r e
end
end
end
section
open PySem.SeqAt
noncomputable section
section
variable{X:FX}{k:Nat}{W W':Wd}{fr fr':Fm}{σ ai:AS}{s s':az}{A:bW}{h h':bH}{C:PC}
theorem KD{M:kW}{α:Type}{t:Sem α}{Q:α->az->Prop}{E:ah->az->Prop}(h:wpAny M A t Q dm s):wpAny M A t Q E s:=jp h (fun _ _ q=>q) fun _ _ e=>e.elim
theorem aeD:mM X k bh []:=fun A R W fr σ s T r e=>by
 apply s1 e;exact oJ ⟨rfl,T.postU⟩
theorem aay{m n:SM}{st:cn}{sts:List cn}(hm:lC X k m st)(hn:mM X k n sts):mM X k (aV m n) (st::sts):=fun A R W fr σ s T r e=>by
 refine oE e fun o q e=>nL (ek (hm A R W fr σ s T _ q) fun f bk P=> ?_)
 cases o with
 |next gM ay=>
  obtain⟨rfl,P⟩:=P
  exact P.elim fun be bv bo=>ek (hn A R be gM ay bk bo r e) fun _ _ z=>z.le bv
 |brk gM ay=>apply s1 e;obtain⟨rfl,P⟩:=P;exact⟨rfl,P⟩
 |cont gM ay=>apply s1 e;obtain⟨rfl,P⟩:=P;exact⟨rfl,P⟩
 |ret a ay=>apply s1 e;obtain⟨v,t7,rfl,P⟩:=P;exact⟨v,t7,rfl,P⟩
theorem Yg{m n:SM}{sts:List cn}(hm: ∀W fr σ s,St X W fr σ s-> ∀r,m fr σ=some r-> ∃W' fr' ai,r= .next fr' ai/\W.le W'/\St X W' fr' ai s)(hn:mM X k n sts):mM X k (aV m n) sts:=fun A R W fr σ s T r e=>by
 refine oE e fun o q e=> ?_
 obtain⟨be,gM,ay,rfl,bv,bo⟩:=hm W fr σ s T _ q
 exact ek (hn A R be gM ay s bo r e) fun _ _ z=>z.le bv
theorem amk{c:BM}{m n:SM}{test:an}{b o:List cn}{p:Pos}(hc:m8 X k c test)(hm:mM X k m b)(hn:mM X k n o):lC X k (rV c m n) (.If test b o p):=fun A R W fr σ s T r e=>by
 refine fG e fun t ay q e=>wpAny_If (hc.go R T q fun bk be bv bo=> ?_)
 cases t with
 |true=>exact ek (hm A R be fr ay bk bo r e) fun _ _ z=>z.le bv
 |false=>exact ek (hn A R be fr ay bk bo r e) fun _ _ z=>z.le bv
noncomputable def qa(e:an):Option dS:=match e with
 | .ListComp _ _ s _| .SetComp _ _ s _| .DictComp _ _ _ s _=>some s
 |_=>none
noncomputable def km(e:an):Bool:=(qa e).isNone
theorem tl{e:an}(h:km e=true){t:Option an}{l:Nat}{env:Env}:swapsWith e t l env=pure false:=by
 have h:=dA.mp h
 unfold swapsWith
 show(match qa e with|some scope=>_|x=>pure false)=_
 rw[h]
theorem aew(O':GP X){m:EM}{e:an}{p:Pos}(hm:bX X k m e)(hc:km e=true):lC X k (kQ m) (.Expr e p):=fun A R W fr σ s T r q=>by
 refine fG q fun a ay q1 q=> ?_
 apply s1 q
 exact JZ (hm.go R T q1 fun v bk be bv bo _=>⟨rfl,be,bv,bo⟩) O'.inter (tl hc)
theorem ajZ{m:EM}{e:an}{p:Pos}(hm:bX X k m e):lC X k (eC m) (.Return (some e) p):=fun A R W fr σ s T r q=>by
 refine fG q fun a ay q1 q=> ?_
 apply s1 q
 exact wpAny_Return_some (ek (hm A R W fr σ s T _ _ q1) fun v bk z=>⟨v,fr,rfl,z⟩)
theorem aeB{p:Pos}:lC X k (eC (a6 .none)) (.Return none p):=fun A R W fr σ s T r q=>by
 apply s1 q
 exact wpAny_Return_none ⟨.none,fr,rfl,T.post rfl⟩
theorem aeu{p:Pos}:lC X k (fun fr σ=>some (.cont fr σ)) (.Continue p):=fun A R W fr σ s T r q=>by
 apply s1 q
 exact fun _ _ _=>⟨rfl,T.postU⟩
theorem Jc{is:ac}{m:EM}{r:jZ}{Q:jZ->Prop}(e:cK is m fr σ=some r)(k: ∀a ay fr',m fr σ=some (a,ay)->me is a fr ay=some fr'->Q (.next fr' ay)):Q r:=fG e fun a ay q e=>oE e fun fr' q' e=>by
 apply s1 e;exact k a ay fr' q q'
theorem Yc(O:uV X)(O':GP X){i:Nat}{x:Str}{m:EM}{e:an}{p p':Pos}(hx:kb X i x)(hm:bX X k m e)(hc:swapsWith e (some (.Name x p')) p.line X.env=pure false):lC X k (cK [i] m) (.Assign [.Name x p'] e p):=fun A R W fr σ s T r q=>by
 apply Jc q;intro a ay fr' q1 q2
 apply s1 q2
 exact wpAny_Assign_Name (hm.go R T q1 fun v bk be bv bo z=>ek (bo.store O O' hx.1 hx.2 z) fun _ dP cH=>⟨rfl,be,bv,cH⟩) hc
theorem aen(O:uV X)(O':GP X){i j:Nat}{is:ac}{ts:List an}{c:Nat}{m:EM}{e:an}{p p':Pos}(N:pZ X (i::j::is) ts)(hm:bX X k m e)(hc:km e=true)
  (hw:swappedStores [.Tuple ts c p'] e X.env=pure none):lC X k (cK (i::j::is) m) (.Assign [.Tuple ts c p'] e p):=fun A R W fr σ s T r q=>by
 apply Jc q;intro a ay fr' q1 q2
 exact Assign_Tuple (hm.go R T q1 fun v bk be bv bo z=>ek (KS O O' N A R.handled be fr ay bk bo a v z fr' q2) fun _ dP cH=>⟨rfl,be,bv,cH⟩) (show swapsWith e (some (.Tuple ts c p')) p.line X.env=pure false from tl hc) hw
theorem aeo(O:uV X)(O':GP X){i j:Nat}{x y:Str}{ts:List an}{c:Nat}{m:EM}{e:an}{p p':Pos}(hx:kb X i x)(hy:kb X j y)(hij:i≠j)(hm:bX X k m e)(hc:km e=true)
  (hw:swappedStores [.Tuple ts c p'] e X.env=pure (some [x,y])):lC X k (cK [i,j] m) (.Assign [.Tuple ts c p'] e p):=fun A R W fr σ s T r q=>by
 apply Jc q;intro a ay fr' q1 q2
 refine yv (hm.go R T q1 fun v bk be bv bo z=> ?_) (show swapsWith e (some (.Tuple ts c p')) p.line X.env=pure false from tl hc) hw
 clear q1
 revert z
 refine Km q2 fun l q2 z=>z.tupE fun x' n vs q r=> ?_
 revert q2
 match l,r with
 |[a,b],⟨v,_,e1,r1,w,_,e2,r2,r3⟩=>
  intro q2
  cases r3;cases e2;cases e1
  refine uU (items:= #[v,w]) R.handled ⟨_,bo.rel.im _ _ q,rfl,n,rfl⟩ fun h' he=> ?_
  have cH:=bo.keeps (fun b o z=>he b o (ci (co z)) z) bk.toks
  show wpAny _ _ (assignInOrder [bindName X.env y,bindName X.env x] [w,v]) _ _ _
  refine eX (l6 (ek (cH.store O O' hy.1 hy.2 r2) fun _ jE iZ=>eX (l6 (ek (iZ.store O O' hx.1 hx.2 r1) fun _ oq n7=>tF ⟨rfl,be,bv,?_⟩))))
  apply s1 q2
  rw[qg _ _ _ hij];exact n7
 |[],_=>exact fun q2=>nn q2
 |[_],_=>exact fun q2=>nn q2
 |_::_::_::_,_=>exact fun q2=>nn q2
theorem aat(O:uV X)(O':GP X){i j l:Nat}{x y z:Str}{ts:List an}{c:Nat}{m:EM}{e:an}{p p':Pos}(hx:kb X i x)(hy:kb X j y)(hz:kb X l z)(hij:i≠j)(hil:i≠l)(hjl:j≠l)(hm:bX X k m e)(hc:km e=true)
  (hw:swappedStores [.Tuple ts c p'] e X.env=pure (some [x,y,z])):lC X k (cK [i,j,l] m) (.Assign [.Tuple ts c p'] e p):=fun A R W fr σ s T r q=>by
 apply Jc q;intro a ay fr' q1 q2
 refine yv (hm.go R T q1 fun v bk be bv bo pB=> ?_) (show swapsWith e (some (.Tuple ts c p')) p.line X.env=pure false from tl hc) hw
 clear q1
 revert pB
 refine Km q2 fun la q2 pB=>pB.tupE fun x' n vs q r=> ?_
 revert q2
 match la,r with
 |[a,b,d],⟨v,_,e1,r1,w,_,e2,r2,u,_,e3,r3,r4⟩=>
  intro q2
  cases r4;cases e3;cases e2;cases e1
  refine uU (items:= #[v,w,u]) R.handled ⟨_,bo.rel.im _ _ q,rfl,n,rfl⟩ fun h' he=> ?_
  have cH:=bo.keeps (fun b o z=>he b o (ci (co z)) z) bk.toks
  show wpAny _ _ (assignInOrder [bindName X.env z,bindName X.env y,bindName X.env x] [u,w,v]) _ _ _
  refine eX (l6 (ek (cH.store O O' hz.1 hz.2 r3) fun _ jE iZ=>eX (l6 (ek (iZ.store O O' hy.1 hy.2 r2) fun _ oq n7=>eX (l6 (ek (n7.store O O' hx.1 hx.2 r1) fun _ sr xo=>tF ⟨rfl,be,bv,?_⟩))))))
  apply s1 q2
  rw[qg (put fr i a) _ _ hjl,qg fr _ _ hil,qg (put fr l d) _ _ hij];exact xo
 |[],_=>exact fun q2=>nn q2
 |[_],_=>exact fun q2=>nn q2
 |[_,_],_=>exact fun q2=>nn q2
 |_::_::_::_::_,_=>exact fun q2=>nn q2
theorem mM.turn{b:SM}{body:List cn}(hb:mM X k b body)(R:eH A k)(T:St X W fr σ s){kk:SM}{r:jZ}(e:ob (b fr σ) (Kz kk)=some r){Q:Ge->az->Prop}
  (h1: ∀fr' ai s' W',W.le W'->St X W' fr' ai s'->kk fr' ai=some r->Q .next s'/\Q .cont s')(h2: ∀fr' ai s' W',W.le W'->St X W' fr' ai s'->r= .next fr' ai->Q .brk s')(h3: ∀a ai v fr' s' W',W.le W'->St X W' fr' ai s'->V X.C W' a v->r= .ret a ai->Q (.ret v) s'):
  wpAny (dC X.C) A (execs body X.env) Q dm s:=oE e fun o q e=>ek (hb A R W fr σ s T _ q) fun f bk P=>by
 cases o with
 |next fr' ai=>obtain⟨rfl,W',l,T'⟩:=P;exact(h1 fr' ai bk W' l T' e).1
 |cont fr' ai=>obtain⟨rfl,W',l,T'⟩:=P;exact(h1 fr' ai bk W' l T' e).2
 |brk fr' ai=>obtain⟨rfl,W',l,T'⟩:=P;exact h2 fr' ai bk W' l T' (aG e).symm
 |ret a ai=>obtain⟨v,fr',rfl,W',l,T',z⟩:=P;exact h3 a ai v fr' bk W' l T' z (aG e).symm
def ae2(X:FX)(W:Wd)(c:BM)(b:SM)(r:jZ)(n:Nat)(s':az):Prop:= ∃W' fr σ,W.le W'/\St X W' fr σ s'/\Tf c b n fr σ=some r
theorem Yt{R':tA->az->Prop}{c:BM}{b:SM}{r:jZ}{n:Nat}{test:an}{body:List cn}(hc:m8 X k c test)(hb:mM X k b body)(R:eH A k)(hR: ∀f s',BG X W r f s'->R' (.ok f) s')(h:ae2 X W c b r n s):codeAny (dC X.C) A (.whileLoop test body [] X.env) R' s:=by
 refine codeAny_whileLoop (ae2 X W c b r) (fun n s' h=> ?_) n h
 obtain⟨W',fr,σ,l,T,e⟩:=h
 cases n with
 |zero=>exact nn e
 |succ n=>
  refine fG (show bu (c fr σ) (fun t ai=>bif t then ob (b fr ai) (Kz (Tf c b n))else some (.next fr ai))=some r from e) fun t ay q e=>KD (hc.go R T q fun bk be bv bo=> ?_)
  have l:=l.trans bv
  cases t with
  |false=>exact oJ (hR _ _ (by apply s1 e;exact⟨rfl,be,l,bo⟩))
  |true=>
   refine KD (hb.turn R bo e (fun t7 aM dP cq dJ cH e=> ?_) (fun t7 aM dP cq dJ cH e=> ?_) fun a aM v t7 dP cq dJ cH z e=> ?_)
   ·have h: ∃m,m<n+1/\ae2 X W c b r m dP:=⟨n,bL _,cq,t7,aM,l.trans dJ,cH,e⟩
    exact⟨h,h⟩
   ·exact hR _ _ (by rw[e];exact⟨rfl,cq,l.trans dJ,cH⟩)
   ·exact hR _ _ (by rw[e];exact⟨v,t7,rfl,cq,l.trans dJ,cH,z⟩)
theorem aax{c:BM}{b:SM}{n:Nat}{test:an}{body:List cn}{p:Pos}(hc:m8 X k c test)(hb:mM X k b body):lC X k (Tf c b n) (.While test body [] p):=fun A R W fr σ s T r e=>
 wpAny_While (Yt hc hb R (fun _ _ h=>h) ⟨W,fr,σ,.refl _,T,e⟩)
structure hZ(X:FX)(W:Wd)(σ:AS)(I:aC)(l:List AV)(i:Nat)(h:bH)(S:Nat->bH->Prop)(fp:List aC)(P:Nat->ah->Prop):Prop where
 it: ∃o4,w6 X W σ I l o4 S fp P
 at_:S i h
 loose:hU X W σ I
theorem Pa{α:Type}{l:List α}{i:Nat}{a:α}{r:List α}(h:l.drop i=a::r):i<l.length/\r=l.drop (i+1):=by
 refine⟨?_,?_⟩
 ·rcases oB i l.length with z|z
  ·exact z
  ·rw[gY z]at h;cases h
 ·have:=congrArg (Bd 1) h
  rw[pR]at this
  exact this.symm
theorem hZ.item{I:aC}{l:aa}{i:Nat}{S:Nat->bH->Prop}{fp:List aC}{P:Nat->ah->Prop}(w:hZ X W σ I l i s.heap S fp P)(T:St X W fr σ s)(hA:A.handled=none){a:AV}{r:aa}(e:l.drop i=a::r)
  {Q:Option ah->az->Prop}(h: ∀v s',St X W fr σ s'->hZ X W σ I l (i+1) s'.heap S fp P->V X.C W a v->(∀b o,b≠I->s.heap.get? b=some o->s'.heap.get? b=some o)->Q (some v) s'):wpAny (dC X.C) A (pyNext (.ref I)) Q dm s:=by
 obtain⟨⟨o4,It⟩,st,L⟩:=w
 have hi:=(Pa e).1
 have hg:l[i]? =some a:=by
  have:(l.drop i)[0]? =some a:=by rw[e];rfl
  rwa[qO]at this
 refine VC (ax s.toks) ?_
 refine(It.walks A hA).item i s _ _ hi st fun v h' tk hP hS hk=>fun ht=> ?_
 obtain⟨a',e1,q⟩:=It.val i v hi hP
 rw[hg]at e1;cases e1
 exact h v _ (T.but L (fun b o hb=>hk b o (by simpa using hb)) tk ht) ⟨⟨o4,It⟩,hS,L⟩ q fun b o hb=>hk b o (by simpa using hb)
theorem hZ.done{I:aC}{l:aa}{i:Nat}{S:Nat->bH->Prop}{fp:List aC}{P:Nat->ah->Prop}(w:hZ X W σ I l i s.heap S fp P)(T:St X W fr σ s)(hA:A.handled=none)(hl:i<=l.length)(e:l.drop i=[])
  {Q:Option ah->az->Prop}(h: ∀s',St X W fr σ s'->(∀b o,b≠I->s.heap.get? b=some o->s'.heap.get? b=some o)->Q none s'):wpAny (dC X.C) A (pyNext (.ref I)) Q dm s:=by
 obtain⟨⟨o4,It⟩,st,L⟩:=w
 have hi:i=l.length:=by
  exact vb hl (oz.mp e)
 subst hi
 refine VC (ax s.toks) ?_
 exact(It.walks A hA).done s _ _ st fun h' tk hk=>fun ht=>h _ (T.but L (fun b o hb=>hk b o (by simpa using hb)) tk ht) fun b o hb=>hk b o (by simpa using hb)
theorem hZ.pin{I:aC}{l:aa}{i:Nat}{S:Nat->bH->Prop}{fp:List aC}{P:Nat->ah->Prop}(w:hZ X W σ I l i s.heap S fp P)(T:St X W fr σ s):
  ∃o,St X (W.pin I o) fr σ s/\ ∀{be:Wd} {fr':Fm} {ai:AS} {s':az},(W.pin I o).le be->St X be fr' ai s'->W.le {be with pr:=W.pr}/\St X {be with pr:=W.pr} fr' ai s'/\hZ X {be with pr:=W.pr} ai I l i s'.heap S fp P:=by
 obtain⟨⟨o4,It⟩,st,L⟩:=w
 obtain⟨o,n,ho,_,_⟩:=It.obj i _ st
 refine⟨o,T.pin L ho,fun{be fr' ai s'} bv bo=> ?_⟩
 obtain⟨le,cH,e,Bs⟩:=St.unpin bv L bo
 refine⟨le,cH,⟨o4,⟨It.walks,It.st,(It.mono le).fp,(It.mono le).val,It.obj⟩⟩,(It.walks {} rfl).frame i _ _ st fun b hb o' e'=> ?_,Bs⟩
 rcases It.fp b hb with rfl|⟨oo,z⟩
 ·rw[ho]at e';cases e';exact e
 ·have z1:=T.rel.im _ _ z
  rw[e']at z1;cases z1
  exact cH.rel.im _ _ (le.2.1 _ _ z)
theorem hZ.go{I:aC}{l:aa}{i:Nat}{S:Nat->bH->Prop}{fp:List aC}{P:Nat->ah->Prop}(w:hZ X W σ I l i s.heap S fp P){v:ah}{Q:Unit->az->Prop}{t:an}(hq:Q () s):
  wpAny (dC X.C) A (letOwnedTupleGo t (.ref I) v) Q dm s:=by
 obtain⟨⟨o4,It⟩,st,L⟩:=w
 obtain⟨o,n,ho,hc,hn⟩:=It.obj i _ st
 have key:wpAny (dC X.C) A (do
   let(.ref r,.ref a):=(nZ I,v)|return
   let o <- load r
   match o.cls,o.data with
   | .type n,.fields vs=>
    if["enumerate","zip","dict_itemiterator","dict_reverseitemiterator","odict_iterator","itertools.zip_longest","itertools.pairwise"].contains n&&vs[0]? ==some (rawInt a)then
     rule "for.unpacks-the-owned-tuple"
     updateField r 0 .none
   |_,_=>pure ():Sem Unit) Q dm s:=by
  cases v with
  |ref a=>
   refine aq (wpAny_load ho ?_)
   rw[hc]
   cases hd:o.data with
   |fields vs=>
    dsimp only
    rw[hn,Bool.false_and,if_neg (by decide)]
    exact aL hq
   |_=>exact aL hq
  |_=>exact aL hq
 unfold letOwnedTupleGo
 cases t<;>first|exact aL hq|exact key
def aeU(X:FX)(W:Wd)(is:ac)(b:SM)(I:aC)(l:aa)(S:Nat->bH->Prop)(fp:List aC)(P:Nat->ah->Prop)(r:jZ)(n:Nat)(s':az):Prop:= ∃i W' fr σ,n=l.length-i/\i<=l.length/\W.le W'/\St X W' fr σ s'/\hZ X W' σ I l i s'.heap S fp P/\pv is b (l.drop i) fr σ=some r
theorem Ym{n i:Nat}(h:i<n):n-(i+1)<n-i:=Nat.sub_lt_sub_left h (bL i)
theorem adh{R':tA->az->Prop}{is:ac}{b:SM}{tg:an}{body:List cn}{I:aC}{l:aa}{S:Nat->bH->Prop}{fp:List aC}{P:Nat->ah->Prop}{r:jZ}(ht:Sb X is tg)(hb:mM X k b body)(R:eH A k)(hR: ∀f s',BG X W r f s'->R' (.ok f) s'){n:Nat}(h:aeU X W is b I l S fp P r n s):codeAny (dC X.C) A (.forLoop tg (.ref I) body [] X.env) R' s:=by
 refine codeAny_forLoop_any (aeU X W is b I l S fp P r) (fun n s' h=> ?_) n h
 obtain⟨i,W',fr,σ,rfl,hl,le,T,w,e⟩:=h
 cases hd:l.drop i with
 |nil=>
  rw[hd]at e
  exact KD (w.done T R.handled hl hd fun s' T' _=>oJ (hR _ _ (by apply s1 e;exact⟨rfl,W',le,T'⟩)))
 |cons a r'=>
  rw[hd]at e
  obtain⟨hi',hr⟩:=Pa hd
  refine oE (show ob (me is a fr σ) (fun gM=>ob (b gM σ) (Kz (pv is b r')))=some r from e) fun gM q3 e=>KD (w.item T R.handled hd fun v jE iZ am8 Yx _=>KD (am8.go ?_))
  obtain⟨o,n7,back⟩:=am8.pin iZ
  refine KD (ek (ht A R.handled _ fr σ jE n7 a v (Yx.pr rfl rfl) gM q3) fun _ oq xo=>KD (hb.turn R xo e (fun t7 cF sr Im PL Lu e=> ?_) (fun t7 cF sr Im PL Lu e=> ?_) fun a cF v t7 sr Im PL Lu akI e=> ?_))
  ·obtain⟨le7,T7,w7⟩:=back PL Lu
   have h: ∃m,m<l.length-i/\aeU X W is b I l S fp P r m sr:=⟨l.length-(i+1),Ym hi',i+1,_,t7,cF,rfl,hi',le.trans le7,T7,w7,hr▸e⟩
   exact⟨h,h⟩
  ·obtain⟨le7,T7,w7⟩:=back PL Lu
   exact hR _ _ (by rw[e];exact⟨rfl,_,le.trans le7,T7⟩)
  ·obtain⟨le7,T7,w7⟩:=back PL Lu
   exact hR _ _ (by rw[e];exact⟨v,t7,rfl,_,le.trans le7,T7,akI.pr rfl rfl⟩)
theorem ajS{is:ac}{it:EM}{b:SM}{tg ie:an}{body:List cn}{p:Pos}(hi:bX X k it ie)(ht:Sb X is tg)(hb:mM X k b body)(hs: ∀x,foldedSetIterable ie X.env x=pure x):lC X k (gq is it b) (.For tg ie body [] p):=fun A R W fr σ s T r e=>by
 refine fG e fun a ay q1 e=>fG e fun l aM q2 e=>wpAny_For (hi.go R T q1 fun v bk be bv bo pB=>ek (vG bo q2 pB) fun it dP z=>z.elim fun I cq S fp P dJ cH Bs It=> ?_) hs
 exact adh ht hb R (fun _ _ h=>h) ⟨0,cq,fr,aM,rfl,aU _,bv.trans dJ,cH,⟨⟨_,It⟩,It.st,Bs⟩,e⟩
end
end
end
section
open PySem.SeqAt
noncomputable section
section
variable{X:FX}{k:Nat}{W W':Wd}{fr fr':Fm}{σ ai:AS}{s s':az}{A:bW}{h h':bH}{C:PC}
theorem ai9{K:dQ}{prog:fQ}{w:dD}{E:ah->az->Prop}{x c d:aC}{es es':List g9}{n n':Nat}{name:Str}{v:ah}{Q:Unit->az->Prop}(X:K.In s.heap)(hx:s.heap.get? x=some (instObj c d))(hd:s.heap.get? d=some (dictOf es n))
  (hs:findIn K (.ref c) "__setattr__"=some (some (.builtin "object.__setattr__")))(hp:plainOver K c=true)(ht:takerIn K c name=some none)(hh:hasDictIn K c=true)(hl:(getL name es).isSome=true)
  (e:(putL name (pT w.params name) (.str name (s.toks+1)) v es,putN name es n)=(es',n'))(hz:es'.length<=1000)
  (h: ∀h',h'.get? d=some (dictOf es' n')->iV d s.heap h'->Q () {s with heap:=h',toks:=s.toks+2}):
  wpAny (model prog w) A (setAttr (.ref x) name v) Q E s:=by
 obtain⟨e1,e2⟩:=cY e
 have I:InstAt s.heap x (instObj c d) c (some (dictOf es n)):=⟨hx,rfl,rfl,hd⟩
 refine Li X I hs (osa_open (s:={s with toks:=s.toks+1}) X I hp ht fun b=> ?_)
 obtain⟨cd,hc,hd'⟩:=any_some hh
 refine aq (aL (aq (aq (pU hx (aq (wg X hc _ _ _ _ (fun _ _ e=>e) ?_))))))
 rw[hd']
 refine aL (a:=some d) (aq (aL (aq ?_)))
 unfold nsSet
 refine aq (aq (Gl (aL (aq (wpAny_mkText (aq (pU hd ?_)))))))
 have c0:(!es.toArray.any (·.key.isStr name)&&es.toArray.any (·.refKey))=false:=by
  rw[<- Ga,<- Ga]
  unfold getL at hl
  split at hl
  ·rename_i en he
   rw[j7.mpr ⟨en,List.mem_of_find?_eq_some he,List.find?_some he⟩];rfl
  ·split at hl
   ·cases hl
   ·rename_i z;rw[Bool.not_eq_true]at z;rw[z,Bool.and_false]
 dsimp only
 rw[aRefKeyMayBeTheName_at,c0]
 have hf:QV name (pT w.params name) (.str name (s.toks+1)) v (dictOf es n)=dictOf es' n':=by rw[putName_dict,e1,e2]
 have D':(s.heap.update d (QV name (pT w.params name) (.str name (s.toks+1)) v)).get? d=some (dictOf es' n'):=by
  rw[<- hf];exact jM _ hd (by rw[hf];rfl)
 refine wpAny_updatePart hd ?_
 refine aq (Gn D' (Gj (by rw[aZ,jy];omega)) ?_)
 exact aL (h _ D' (jb ..))
theorem Hf: ∀{ks:ac} {vs:List ah} {es:List g9},oM C ks vs es->(∀e∈es,e.refKey=false)/\es.length=ks.length:=by
 intro ks
 induction ks with
 |nil=>intro vs es q;cases vs with
  |nil=>cases es with
   |nil=>exact⟨fun e he=>(by cases he),rfl⟩
   |cons=>exact q.elim
  |cons=>exact q.elim
 |cons k ks ih=>intro vs es q;cases vs with
  |nil=>exact q.elim
  |cons v vs=>cases es with
   |nil=>exact q.elim
   |cons en es=>
    obtain⟨_,⟨t,ht⟩,_,q⟩:=q
    obtain⟨h1,h2⟩:=ih q
    refine⟨fun e he=> ?_,congrArg _ h2⟩
    rcases aH.mp he with rfl|he
    ·unfold Gb;rw[ht]
    ·exact h1 e he
theorem Xi(q:oM C ks vs es)(name:Str):(getL name es).isSome=true:=by
 unfold getL
 split
 ·rfl
 ·rw[if_neg];rfl
  intro h
  obtain⟨e,he,h⟩:=j7.mp h
  rw[(Hf q).1 e he]at h;cases h
theorem aam{x kk:Nat}(hx:x<C.nf)(hk:kk<C.nf){hsh:Int}{t u:Tok}{v:ah}{en:g9}{es:List g9}(hu:en.key= .str (C.fname x) u):putL (C.fname kk) hsh (.str (C.fname kk) t) v (en::es)=if kk=x then{en with val:=v}::es else en::putL (C.fname kk) hsh (.str (C.fname kk) t) v es:=by
 by_cases h:kk=x
 ·subst h
  rw[if_pos rfl,putL,if_pos (by rw[hu];simp[qq])]
 ·rw[if_neg h,putL,if_neg]
  rw[hu]
  have:C.fname x≠C.fname kk:=fun q=>h (C.fnameInj _ _ hx hk q).symm
  simp[qq,this]
theorem ai7{kk:Nat}(hk:kk<C.nf){a:AV}{v:ah}{hsh:Int}{t:Tok}(hv:V C W a v): ∀{ks:ac} {fs:aa} {vs:List ah} {es:List g9},VL C W fs vs->oM C ks vs es->
  ∃vs',VL C W (LZ kk a ks fs).2 vs'/\oM C (LZ kk a ks fs).1 vs' (putL (C.fname kk) hsh (.str (C.fname kk) t) v es):=by
 intro ks
 induction ks with
 |nil=>
  intro fs vs es hf q
  cases vs with
  |nil=>cases es with
   |nil=>exact⟨[v],⟨v,[],rfl,hv,rfl⟩,hk,⟨t,rfl⟩,rfl,trivial⟩
   |cons=>exact q.elim
  |cons=>exact q.elim
 |cons x ks ih=>
  intro fs vs es hf
  cases fs with
  |nil=>exact hf.nilE fun q=>q.elim
  |cons b fs=>
   refine hf.consE fun w r h1 h2 q=> ?_
   cases es with
   |nil=>exact q.elim
   |cons en es=>
    obtain⟨hx,⟨u,hu⟩,rfl,q⟩:=q
    rw[aam hx hk hu,ai8,fS]
    by_cases z:kk=x
    ·rw[if_pos z,decide_eq_true z]
     exact⟨v::r,⟨v,r,rfl,hv,h2⟩,hx,⟨u,hu⟩,rfl,q⟩
    ·rw[if_neg z,decide_eq_false z]
     obtain⟨vs',i1,i2⟩:=ih h2 q
     exact⟨en.val::vs',⟨_,_,rfl,h1,i1⟩,hx,⟨u,hu⟩,rfl,i2⟩
theorem Qh(T:St X W fr σ s){kk:Nat}(hk:kk<X.C.nf){a o:AV}(e:oj kk a o σ=some ai){v ov:ah}(hv:V X.C W a v)(ho:V X.C W o ov):
  wpAny (dC X.C) A (setAttr ov (X.C.fname kk) v) (fun _ s'=>St X W fr ai s') dm s:=by
 revert ho
 refine ip e fun x e ho=>instE e fun c ks fs hg e=>kS (show(bif cP (LZ kk a ks fs).1.length 1000&& !Sh c kk then some (σ.set x (.inst c (LZ kk a ks fs).1 (LZ kk a ks fs).2))else none)=some ai from e) fun z e=> ?_
 apply s1 e
 obtain⟨z1,z2⟩:=br.mp z
 refine T.rel.instE hg ho fun p es n vs q q0 q1 q2 r q3=> ?_
 obtain⟨p1,p2,_,p4,p5,p6⟩:=Ly (X.C.attr c kk q0 hk (by rwa[dX]at z2))
 obtain⟨vs',i1,i2⟩:=ai7 (W:=W) hk (hsh:=pT X.C.w.params (X.C.fname kk)) (t:=s.toks+1) hv r q3
 refine ai9 T.rel.K (T.rel.im _ _ q1) q2 p4 p5 p6 p2 (Xi q3 _) rfl (by rw[(Hf i2).2];exact av z1) fun h' h1 h2=> ?_
 exact T.set (c:=.inst c _ _) hg q h2 ⟨q0,q1,_,_,vs',h1,i1,i2⟩ _
theorem De{e:an}{o:an}{x:Str}{p:Pos}{l:Nat}{env:Env}:swapsWith e (some (.Attribute o x p)) l env=pure false:=by
 unfold swapsWith
 show(match qa e with|some scope=>pure false|x=>pure false)=_
 cases qa e<;>rfl
theorem aaE{e:an}{o x:an}{p:Pos}{l:Nat}{env:Env}:swapsWith e (some (.Subscript o x p)) l env=pure false:=by
 unfold swapsWith
 show(match qa e with|some scope=>pure false|x=>pure false)=_
 cases qa e<;>rfl
theorem aek{kk:Nat}{o m:EM}{oe e:an}{p ap:Pos}(hk:kk<X.C.nf)(hm:bX X k m e)(ho:bX X k o oe):lC X k (lM kk o m) (.Assign [.Attribute oe (X.C.fname kk) ap] e p):=fun A R W fr σ s T r q=>by
 refine fG q fun a ay q1 q=>fG q fun x aM q2 q=>oE q fun cF q3 q=> ?_
 apply s1 q
 refine jc (hm.go R T q1 fun v bk be bv bo pB=>ho.go R bo q2 fun ov dP cq dJ cH Mk=> ?_) De
 exact ek (Qh cH hk q3 (pB.mono dJ) Mk) fun _ jE iZ=>⟨rfl,cq,bv.trans dJ,iZ⟩
theorem Vj{prog:fQ}{w:dD}{E:ah->az->Prop}{l:aC}{vs:List ah}{n:Nat}{k:Int}{t:Tok}{v:ah}{Q:Unit->az->Prop}(hl:s.heap.get? l=some (dw vs n))(h0:0<=k)(hfit:k<2^63)(hn:k<vs.length)
  (hQ: ∀h' n',h'.get? l=some (dw (vs.set k.toNat v) n')->iV l s.heap h'->Q () {s with heap:=h'}):wpAny (model prog w) A (setItem (.ref l) (.int k t) v) Q E s:=by
 have hl':=lI hl
 unfold setItem
 refine dF ?_
 refine aq (wpAny_sequenceKey hl'.typeIs (by decide) ?_)
 refine aq (wpAny_callSpecial?_slot (name:=lu "__setitem__") hl'.typeIs EZ
  (wpAny_call_entry EZ hl'.typeIs entry_list_setitem ?_ (args_list_setitem _ _ _)))
 show wpAny _ _ (Ld (.int k t)>>=_) _ _ s
 refine aq (wpAny_listSubscript_int (fitsIndex_of h0 hfit) ?_)
 clear hfit
 obtain⟨j,rfl⟩:=uQ h0
 have hn:j<vs.length:=by omega
 have hx':vs.toArray[j]? =some vs[j]:=by simp[hn]
 show wpAny _ _ ((seqItemAt l j>>=fun r=>pure (r.map (j,·)))>>=_) _ _ s
 refine aq (aq (wpAny_seqItemAt hl rfl (aL ?_)))
 rw[hx']
 show wpAny _ _ (setSeqItemAt l j v>>=_) _ _ s
 obtain⟨n',hd'⟩:=Obj.data_mapSeq (o:=dw vs n) rfl (·.setIfInBounds j v)
 have hfin:(s.heap.update l (HL (·.setIfInBounds j v))).get? l=some (dw (vs.set j v) n'):=by
  rw[jM (HL (·.setIfInBounds j v)) hl (Obj.isFreed_of_seq hd')]
  have: ∀o:Obj,o.cls= .type "list" ->o.dict=none->o.slots= #[]->o.data= .seq (vs.toArray.setIfInBounds j v) n'->o=dw (vs.set j v) n':=by
   rintro⟨c,d,da,sl⟩ rfl rfl rfl h
   have h:da=_:=h
   rw[h]
   simp[dw]
  rw[this _ (Obj.cls_mapSeq ..) (by rfl) (by rfl) hd']
 refine aq (wpAny_setSeqItemAt hl rfl ?_)
 first
  |exact aq (aL (aL ⟨.none,rfl,aL (hQ _ _ hfin (jb ..))⟩))
  |exact aL ⟨.none,rfl,aL (hQ _ _ hfin (jb ..))⟩
theorem aao: ∀(l:aa) (i:Nat) (v:AV),NG l i v=l.set i v:=by
 intro l
 induction l with
 |nil=>intro i v;rfl
 |cons a r ih=>intro i v;cases i with
  |zero=>rfl
  |succ i=>exact congrArg (a:: ·) (ih i v)
theorem W0{a b:ac}:dp a b=decide (aP a=aP b):=by
 have:=ql (a:=a) (b:=b)
 rw[<- this]
 by_cases q:aP a=aP b<;>simp[q]
theorem Vs{x p:Str}{w v:ah}{l:List (Str×ah)}(hN:x∉l.map (·.1)):stored ((x,w)::l) p v=if x=p then(x,v)::l else(x,w)::stored l p v:=by
 unfold stored
 by_cases z:x=p
 ·subst z
  rw[if_pos rfl,if_pos (by simp)]
  simp only[bc,if_true,u6,true_and]
  rw[fP (g:=id),List.map_id]
  intro q hq
  exact if_neg fun e=>hN (dy.mpr ⟨q,hq,e⟩)
 ·rw[if_neg z]
  simp only[rn,z,decide_false,Bool.false_or,bc,if_false]
  split<;>rfl
theorem Zi(k:ac)(v:AV)(x:ac)(ks:List (List Nat))(w:AV)(vs:aa):qz k v (x::ks) (w::vs)=bif dp x k then(x::ks,v::vs)else(x::(qz k v ks vs).1,w::(qz k v ks vs).2):=rfl
theorem Zh{kk:ac}{a:AV}{v:ah}(hv:V C W a v): ∀{ks:List (List Nat)} {fs:aa} {vs:List ah},VL C W fs vs->ks.length=vs.length->(((ks.map aP).zip vs).map (·.1)).Nodup->
  ∃vs',VL C W (qz kk a ks fs).2 vs'/\(qz kk a ks fs).1.length=vs'.length/\stored ((ks.map aP).zip vs) (aP kk) v=((qz kk a ks fs).1.map aP).zip vs':=by
 intro ks
 induction ks with
 |nil=>
  intro fs vs hf hl hN
  cases vs with
  |nil=>exact⟨[v],⟨v,[],rfl,hv,rfl⟩,rfl,rfl⟩
  |cons=>cases hl
 |cons x ks ih=>
  intro fs vs hf hl
  cases fs with
  |nil=>rw[show vs=[] from hf]at hl;cases hl
  |cons b fs=>
   revert hl
   refine hf.consE fun w r h1 h2 hl hN=> ?_
   rw[bc,bJ,bc,dL]at hN
   have hl:=jQ hl
   rw[bc,bJ,Vs hN.1,Zi,W0]
   by_cases z:aP x=aP kk
   ·rw[if_pos z,decide_eq_true z]
    exact⟨v::r,⟨v,r,rfl,hv,h2⟩,congrArg _ hl,rfl⟩
   ·rw[if_neg z,decide_eq_false z]
    obtain⟨vs',i1,i2,i3⟩:=ih h2 hl hN.2
    exact⟨w::vs',⟨w,vs',rfl,h1,i1⟩,congrArg _ i2,congrArg ((aP x,w):: ·) i3⟩
theorem Qi(T:St X W fr σ s){a o i:AV}(e:KN a o i σ=some ai){v ov iv:ah}(hv:V X.C W a v)(ho:V X.C W o ov)(hi:V X.C W i iv):
  wpAny (dC X.C) A (setItem ov iv v) (fun _ s'=>St X W fr ai s') dm s:=by
 revert ho
 refine ip e fun x e ho=>oE e fun c hg e=> ?_
 revert hi
 cases c<;>first|exact fun _=>nn e|skip
 ·refine mc (show(nN i fun n=>bif dv n&&bp n (mT _)then some (σ.set x (.lst (NG _ n a)))else none)=some ai from e) fun n e hi=>kS e fun z e=> ?_
  apply s1 e
  obtain⟨z1,z2⟩:=br.mp z
  have z1:=jJ z1
  have z2:=cX.mp z2
  refine hi.intE fun t=>T.rel.lstE hg ho fun p vs n' q q0 q2 r=> ?_
  rw[q0]at q2 ⊢
  refine Vj (k:=am n) q2 (de n) (Bb (NL.mpr z1) (by decide)) (by rw[r.length];exact hH.mpr z2) fun h' aqr h1 h2=> ?_
  exact T.set (c:=.lst _) hg q h2 ⟨q0,_,_,h1,by rw[aao];exact r.set hv⟩ _
 ·rename_i ks fs
  refine fJ (show(d7 i fun k=>bif dv ks.length then some (σ.set x (.dct (qz k a ks fs).1 (qz k a ks fs).2))else none)=some ai from e) fun kk e hi=>kS e fun z e=> ?_
  apply s1 e
  refine hi.strE fun t=>T.rel.dctE hg ho fun p oo vs q q0 q1 q2 r q4=> ?_
  rw[q0]at q1 q2 ⊢
  obtain⟨q3,es,ep,w1,w2,w3,w4,w5⟩:=q4
  obtain⟨vs',i1,i2,i3⟩:=Zh (kk:=kk) hv r q3 w5
  refine wpAny_setItem_pairs (knd:=rq X.C.prog X.C.w) (k:=aP kk) (kvs:=(ks.map aP).zip vs) (tz X.C.prog X.C.w (aP kk) t) ⟨oo,es,ep,q2,w1,w2,w3,w4,w5⟩ (fun h' h1 h2=> ?_) ?_
  ·obtain⟨oo',es',ep',g,w⟩:=h1
   rw[i3]at w
   exact T.set (c:=.dct _ _) hg q h2 ⟨q0,q1,oo',vs',g,i1,i2,es',ep',w⟩ _
  ·have:=iR z
   simp;omega
theorem aem{o i m:EM}{oe ie e:an}{p ap:Pos}(hm:bX X k m e)(ho:bX X k o oe)(hi:bX X k i ie):lC X k (Qf o i m) (.Assign [.Subscript oe ie ap] e p):=fun A R W fr σ s T r q=>by
 refine fG q fun a ay q1 q=>fG q fun x aM q2 q=>fG q fun y cF q3 q=>oE q fun uP q4 q=> ?_
 apply s1 q
 refine wpAny_Assign_Subscript (hm.go R T q1 fun v bk be bv bo pB=>ho.go R bo q2 fun ov dP cq dJ cH Mk=>hi.go R cH q3 fun iv jE xq gR iZ Yx=> ?_) aaE
 exact ek (Qi iZ q4 ((pB.mono dJ).mono gR) (Mk.mono gR) Yx) fun _ oq n7=>⟨rfl,xq,bv.trans (dJ.trans gR),n7⟩
end
end
end
section
open PySem.SeqAt
noncomputable section
section
variable{X:FX}{k:Nat}{W W' W'':Wd}{fr fr':Fm}{σ ai fO:AS}{s s':az}{A:bW}{h h':bH}{C:PC}
structure Gh(W:Wd)(σ:AS)(W':Wd)(ai:AS):Prop where
 le:W.le W'
 ρ:W'.ρ=W.ρ
 im: ∀b o,W.im b=none->W'.im b=some o-> ∃a c p,σ.get a=some c/\W.ρ a=some p/\p.2=b
 sub: ∀a c,ai.get a=some c->σ.get a=some c
theorem Gh.refl(W:Wd)(σ:AS):Gh W σ W σ:=⟨.refl _,rfl,fun _ _ e e'=>(by rw[e]at e';cases e'),fun _ _ e=>e⟩
theorem Gh.trans(g:Gh W σ W' ai)(g':Gh W' ai W'' fO):Gh W σ W'' fO:=by
 refine⟨g.le.trans g'.le,g'.ρ.trans g.ρ,fun b o e e'=> ?_,fun a c e=>g.sub _ _ (g'.sub _ _ e)⟩
 cases q:W'.im b with
 |some o'=>exact g.im b o' e q
 |none=>
  obtain⟨a,c,p,h1,h2,h3⟩:=g'.im b o q e'
  exact⟨a,c,p,g.sub _ _ h1,by rw[<- g.ρ];exact h2,h3⟩
theorem pI.ghost(F:pI X W fr σ h)(g:Gh W σ W' ai):pI X W' fr ai h:=
 F.turn g.le (fun b o e e' hb=>let⟨a,c,p,h1,h2,h3⟩:=g.im b o e e';F.apart b hb a c p h1 h2 h3) (fun c hc a cc p e e'=>F.apart c hc a cc p (g.sub _ _ e) (by rw[<- g.ρ];exact e')) fun _ _ _ e=>e
theorem cu.ghost1(R:cu C W σ h){a:Nat}{c:bF}{p:aC×aC}{o:Obj}(hg:σ.get a=some c)(hp:W.ρ a=some p)(ho:h.get? p.2=some o):Gh W σ (W.addIm p.2 o) (σ.drop a)/\cu C (W.addIm p.2 o) (σ.drop a) h:=by
 refine⟨⟨Wd.le_addIm fun o' e=>by have:=R.im _ _ e;rw[ho]at this;exact(aG this).symm,rfl,fun b o' e e'=> ?_,fun b cb e=> ?_⟩,R.freeze hg hp ho⟩
 ·have e':(if b=p.2 then some o else W.im b)=some o':=e'
  by_cases q:b=p.2
  ·exact⟨a,c,p,hg,hp,q.symm⟩
  ·rw[if_neg q,e]at e';cases e'
 ·rw[AS.get_drop]at e
  split at e
  ·cases e
  ·exact e
def Frz(C:PC)(h:bH)(f:AV->AS->AV×AS):Prop:= ∀W σ a v,cu C W σ h->V C W a v-> ∃W',Gh W σ W' (f a σ).2/\cu C W' (f a σ).2 h/\V C W' (f a σ).1 v
theorem Ct{f:AV->AS->AV×AS}(hf:Frz C h f): ∀(l:aa) (W:Wd) (σ:AS) (vs:List ah),cu C W σ h->VL C W l vs->
  ∃W',Gh W σ W' (pL f l σ).2/\cu C W' (pL f l σ).2 h/\VL C W' (pL f l σ).1 vs:=by
 intro l
 induction l with
 |nil=>exact fun W σ vs R q=>⟨W,.refl _ _,R,q⟩
 |cons a l ih=>
  intro W σ vs R q
  refine q.consE fun v r q1 q2=> ?_
  obtain⟨be,g1,R1,z1⟩:=hf W σ a v R q1
  obtain⟨cq,g2,R2,z2⟩:=ih be (f a σ).2 r R1 (q2.mono g1.le)
  exact⟨cq,g1.trans g2,R2,v,r,rfl,z1.mono g2.le,z2⟩
theorem LS{sel:Nat->Bool}{f:AV->AS->AV×AS}(hf:Frz C h f): ∀(ks:ac) (l:aa) (W:Wd) (σ:AS) (vs:List ah),cu C W σ h->VL C W l vs->
  ∃W',Gh W σ W' (SZ sel f ks l σ).2/\cu C W' (SZ sel f ks l σ).2 h/\VL C W' (SZ sel f ks l σ).1 vs:=by
 intro ks
 induction ks with
 |nil=>intro l W σ vs R q;cases l<;>exact⟨W,.refl _ _,R,q⟩
 |cons kk ks ih=>
  intro l W σ vs R q
  cases l with
  |nil=>exact⟨W,.refl _ _,R,q⟩
  |cons a l=>
   refine q.consE fun v r q1 q2=> ?_
   have h1: ∃W',Gh W σ W' (bif sel kk then f a σ else(a,σ)).2/\cu C W' (bif sel kk then f a σ else(a,σ)).2 h/\V C W' (bif sel kk then f a σ else(a,σ)).1 v:=by
    cases sel kk
    ·exact⟨W,.refl _ _,R,q1⟩
    ·exact hf W σ a v R q1
   obtain⟨be,g1,R1,z1⟩:=h1
   obtain⟨cq,g2,R2,z2⟩:=ih l be _ r R1 (q2.mono g1.le)
   exact⟨cq,g1.trans g2,R2,v,r,rfl,z1.mono g2.le,z2⟩
theorem W6{sel:Nat->Bool}{f:AV->AS->AV×AS}(hf:Frz C h f){x:Nat}{c:bF}(R:cu C W σ h)(hg:σ.get x=some c){v:ah}(q:V C W (.ref x) v): ∃W',Gh W σ W' (Sw f sel x σ c).2/\cu C W' (Sw f sel x σ c).2 h/\V C W' (Sw f sel x σ c).1 v:=by
 cases c with
 |lst l=>
  refine R.lstE hg q fun p vs m hp q0 q2 r=> ?_
  rw[q0]at q2 ⊢
  obtain⟨g,R1⟩:=R.ghost1 hg hp q2
  obtain⟨cq,g2,R2,z2⟩:=Ct hf l _ _ vs R1 (r.mono g.le)
  exact⟨cq,g.trans g2,R2,p.2,m,vs,rfl,g2.le.2.1 _ _ mh,z2⟩
 |inst c ks fs=>
  refine R.instE hg q fun p es m vs hp q0 q1 q2 r q3=> ?_
  obtain⟨g,R1⟩:=R.ghost1 hg hp q2
  obtain⟨cq,g2,R2,z2⟩:=LS (sel:=sel) hf ks fs _ _ vs R1 (r.mono g.le)
  exact⟨cq,g.trans g2,R2,p.1,p.2,es,m,vs,rfl,q0,g2.le.2.1 _ _ (g.le.2.1 _ _ q1),g2.le.2.1 _ _ mh,z2,q3⟩
 |dct ks fs=>
  refine R.dctE hg q fun p oo vs hp q0 q1 q2 r q3=> ?_
  rw[q0]at q1 q2 ⊢
  obtain⟨g,R1⟩:=R.ghost1 hg hp q2
  obtain⟨cq,g2,R2,z2⟩:=Ct hf fs _ _ vs R1 (r.mono g.le)
  exact⟨cq,g.trans g2,R2,p.2,oo,vs,rfl,q1,g2.le.2.1 _ _ mh,z2,q3⟩
 |orc=>exact⟨W,.refl _ _,R,trivial⟩
theorem Cs{sel:Nat->Bool}(n:Nat):Frz C h (t6 sel n):=by
 induction n with
 |zero=>exact fun W σ a v R q=>⟨W,.refl _ _,R,q⟩
 |succ n ih=>
  intro W σ a v R q
  by_cases ha: ∃x,a= .ref x
  ·obtain⟨x,rfl⟩:=ha
   have hd:t6 sel (n+1) (.ref x) σ=bm (motive:=fun _=>AV×AS) (.opq,σ) (fun c=>Sw (t6 sel n) sel x σ c) (σ.get x):=rfl
   rw[hd]
   cases hg:σ.get x with
   |none=>exact⟨W,.refl _ _,R,trivial⟩
   |some c=>exact W6 (sel:=sel) ih R hg q
  ·have:t6 sel (n+1) a σ=(a,σ):=by
    cases a<;>first|rfl|exact absurd ⟨_,rfl⟩ ha
   rw[this]
   exact⟨W,.refl _ _,R,q⟩
theorem Cr(n:Nat):Frz C h (jD n):=Cs n
theorem St.ghost(T:St X W fr σ s)(g:Gh W σ W' ai)(R:cu X.C W' ai s.heap):St X W' fr ai s:=⟨R,T.fr.ghost g,T.sm⟩
theorem adP: ∀(fr:Fm) (i:Nat) (a b:AV) (j:Nat) (c:AV),fr[i]? =some a->(put fr i b)[j]? =some c->(j=i/\c=b)\/(j≠i/\fr[j]? =some c):=fun fr i a b j c e e'=>by
 rcases xQ fr i b j c e' with h|⟨h1,h2|h2⟩
 ·exact .inl h
 ·exact .inr ⟨h1,h2⟩
 ·subst h2
  refine .inr ⟨h1,?_⟩
  revert i j e e' h1
  induction fr with
  |nil=>intro i j e;cases e
  |cons x r ih=>
   intro i j e h1 e'
   cases i with
   |zero=>cases j with
    |zero=>exact absurd rfl h1
    |succ j=>exact e'
   |succ i=>cases j with
    |zero=>exact e'
    |succ j=>exact ih i j e (fun q=>h1 (congrArg _ q)) (by exact e')
theorem agU{i:Nat}{y:Str}(hx:X.names i=some y): ∀W fr σ s,St X W fr σ s-> ∀r,Qg i fr σ=some r-> ∃W' fr' ai,r= .next fr' ai/\W.le W'/\St X W' fr' ai s:=fun W fr σ s T r e=>by
 have e:some (jZ.next (put fr i (jD 14 (gt fr i) σ).1) (jD 14 (gt fr i) σ).2)=some r:=e
 apply s1 e
 by_cases hu:gt fr i= .unb
 ·rw[hu]
  refine⟨W,_,_,rfl,.refl _,T.rel,?_,T.sm⟩
  obtain⟨⟨m,a,b⟩,c,d,xA,d',Co⟩:=T.fr
  exact⟨⟨m,a,fun j y e=>by
   rcases xQ fr i _ j y e with⟨rfl,rfl⟩|⟨hj,e|e⟩
   ·exact .inl rfl
   ·exact b j y e
   ·exact .inl e⟩,c,d,xA,d',Co⟩
 ·have hi:=(UN fr i).resolve_right hu
  obtain⟨m,hn,hv⟩:=T.fr.vars
  obtain⟨v,e2,e3⟩:=(hv i _ hi).resolve_left hu y hx
  obtain⟨be,g,R,z⟩:=Cr 14 W σ (gt fr i) v T.rel e3
  refine⟨be,_,_,rfl,g.le,?_⟩
  have bo:=T.ghost g R
  refine⟨bo.rel,⟨⟨m,hn,fun j b e=> ?_⟩,bo.fr.cells,bo.fr.apart,bo.fr.sep,bo.fr.own,bo.fr.live⟩,bo.sm⟩
  rcases adP fr i _ _ j b hi e with⟨rfl,rfl⟩|⟨hj,e⟩
  ·refine .inr fun z' p=> ?_
   rw[hx]at p;cases p
   exact⟨v,e2,z⟩
  ·exact(hv j b e).imp id fun f y p=>let⟨v,q,r⟩:=f y p;⟨v,q,r.mono g.le⟩
theorem mv{kF n:Nat}{f:ah}{F:aW}(hF:aF C kF f F):aF C kF f (FE n F):=fun A R W σ s args vs Re hv tk a ai e=>by
 refine fG e fun xr ay q e=> ?_
 obtain⟨rfl,rfl⟩:a=(jD n xr ay).1/\ai=(jD n xr ay).2:=by rw[aG e];exact⟨rfl,rfl⟩
 refine ek (hF A R W σ s args vs Re hv tk _ _ q) fun v s' ⟨h1,be,bv,aeZ,pB⟩=> ?_
 obtain⟨cq,g,Ou,Mk⟩:=Cr n be ay xr v aeZ pB
 exact⟨h1,cq,bv.trans g.le,Ou,Mk⟩
theorem L2{kF n:Nat}{f:ah}{F:aW}(hF:aF C kF f F):aF C kF f (Zu n F):=fun A R W σ s args vs Re hv tk a ai e=>by
 obtain⟨cq,g,Ou,Mk⟩:=Ct (Cr n) args W σ vs Re hv
 exact ek (hF A R cq _ s _ vs Ou Mk tk a ai e) fun v s' ⟨h1,be,bv,aeZ,pB⟩=>⟨h1,be,g.le.trans bv,aeZ,pB⟩
end
end
end
section
open PySem.SeqAt
noncomputable section
section
variable{prog:fQ}{w:dD}{A:bW}{R:tA->az->Prop}{s:az}
def Nm(e:an)(d:Nat)(elt target iter:an)(ifs:List an):Prop:= ∀it acc env,compTurn e d it acc env=(do
   standAt iter.pos
   match <- pyNext it with
   |none=>pure (.done .next)
   |some v=>
    letOwnedTupleGo target it v
    assign target env v
    let mut ok:=true
    for c in ifs do
     if ok then ok <- isTrue c env (eval c env)
    if ok then
     (do let _ <- call (.builtin "list.append") [acc,<- eval elt env])
    again (.compLoop e d it acc env))
theorem aeL{elt target iter:an}{ifs:List an}{scope:dS}{pos:Pos}:Nm (.ListComp elt [⟨target,iter,ifs,0⟩] scope pos) 0 elt target iter ifs:=fun _ _ _=>rfl
theorem aeM{elt target iter:an}{g:dK}{ifs:List an}{scope:dS}{pos:Pos}:Nm (.ListComp elt [g,⟨target,iter,ifs,0⟩] scope pos) 1 elt target iter ifs:=fun _ _ _=>rfl
theorem A4{gs:List dK}{scope:dS}{pos:Pos}{d:Nat}{elt target iter:an}{ifs:List an}{it acc:ah}{env:Env}(hT:Nm (.ListComp elt gs scope pos) d elt target iter ifs)(I:Nat->az->Prop)
  (turn: ∀n s,I n s->wpAny (model prog w) A (pyNext it) (fun r bk=>match r with
   |none=>R (.ok .next) bk
   |some v=>wpAny (model prog w) A (letOwnedTupleGo target it v) (fun _ Qr=>wpAny (model prog w) A (assign target env v) (fun _ dP=>
     wpAny (model prog w) A (forIn ifs true fun c r=>if r=true then do let ok <- isTrue c env (eval c env);pure (gy ok)else pure (gy r)) (fun ok jE=>
      if ok=true then wpAny (model prog w) A (eval elt env) (fun x oq=>
       wpAny (model prog w) A (call (.builtin "list.append") [acc,x]) (fun _ sr=> ∃m,m<n/\I m sr) dm oq) dm jE
      else ∃m,m<n/\I m jE) dm dP) dm Qr) dm bk) dm s)
  (n:Nat)(h:I n s):codeAny (model prog w) A (.compLoop (.ListComp elt gs scope pos) d it acc env) R s:=by
 refine NX rfl I (fun n s hI=> ?_) n h
 show wpAny _ A ((compTurn (.ListComp elt gs scope pos) d it acc env).onRaise (fun x=>do noteFrame x env;theTreesLotGoes x)) _ _ s
 refine wpAny_noted ?_
 rw[hT it acc env]
 refine KD (aq (du (aq (ek (turn n s hI) fun r bk se=> ?_))))
 cases r with
 |none=>exact aL se
 |some v=>
  refine aq (ek se fun _ Qr ZD=> ?_)
  refine aq (ek ZD fun _ dP ahk=>aq (ek ahk fun ok jE abG=> ?_))
  cases ok with
  |false=>exact aL ⟨rfl,abG⟩
  |true=>
   exact aq (aq (ek abG fun x oq ahl=>aq (ek ahl fun _ sr W9=>aL (aL ⟨rfl,W9⟩))))
end
section
variable{X:FX}{k:Nat}{W W':Wd}{fr fr':Fm}{σ ai:AS}{s s':az}{A:bW}{h h':bH}{C:PC}
theorem St.forget(T:St X W fr σ s)(hf: ∀(j:Nat) b,fr'[j]? =some b->b= .unb\/fr[j]? =some b):St X W fr' σ s:=by
 obtain⟨R,⟨⟨m,a,b⟩,c,d,xA,d',Co⟩,S⟩:=T
 exact⟨R,⟨⟨m,a,fun i x e=>(hf i x e).elim .inl (b i x)⟩,c,d,xA,d',Co⟩,S⟩
noncomputable def Dw:List Nat->Fm->Fm
 |[],fr=>fr
 |x::xs,fr=>Dw xs (put fr x .unb)
theorem CM: ∀(fr:Fm) (i:Nat) (a b:AV),put (put fr i a) i b=put fr i b:=by
 have nl: ∀(i:Nat) (a b:AV),put (put [] i a) i b=put [] i b:=fun i a b=>by
  induction i with
  |zero=>rfl
  |succ i ih=>exact congrArg (AV.unb:: ·) ih
 intro fr
 induction fr with
 |nil=>exact nl
 |cons x r ih=>intro i a b;cases i with
  |zero=>rfl
  |succ i=>exact congrArg (x:: ·) (ih i a b)
theorem NE: ∀(fr:Fm) (i:Nat) (a:AV) (j:Nat) (b:AV),j≠i->fr[j]? =some b->(put fr i a)[j]? =some b:=by
 intro fr
 induction fr with
 |nil=>intro i a j b _ e;cases e
 |cons x r ih=>intro i a j b h e;cases i with
  |zero=>cases j with
   |zero=>exact absurd rfl h
   |succ j=>exact e
  |succ i=>cases j with
   |zero=>exact e
   |succ j=>exact ih i a j b (fun q=>h (congrArg _ q)) e
theorem PZ{fr gM:Fm}{i:Nat}(h: ∀(j:Nat) b,j≠i->fr[j]? =some b->b= .unb\/gM[j]? =some b): ∀(j:Nat) b,(put fr i .unb)[j]? =some b->b= .unb\/gM[j]? =some b:=fun j b e=>by
 rcases xQ _ _ _ _ _ e with⟨_,h⟩|⟨h1,h2|h2⟩
 ·exact .inl h
 ·exact h j b h1 h2
 ·exact .inl h2
inductive Tg(X:FX):List Nat->an->Prop where
 |name {i x p} (h:kb X i x):Tg X [i] (.Name x p)
 |two {i j is ts c p} (h:is=[i,j]) (N:pZ X is ts) (ij:i≠j):Tg X is (.Tuple ts c p)
theorem Tg.snd(O:uV X)(O':GP X){is:ac}{t:an}(g:Tg X is t):Sb X is t:=by
 cases g with
 |name h=>exact Hu O O' h
 |two h N ij=>subst h;exact KS O O' N
theorem Tg.binds{is:ac}{t:an}(g:Tg X is t){a:AV}:me is a (Dw is fr) σ=me is a fr σ:=by
 cases g with
 |name h=>simp only[me,Dw,CM]
 |two h N ij=>
  rename_i i j ts c p
  subst h
  cases a<;>try rfl
  rename_i l
  show vz [i,j] l (put (put fr i .unb) j .unb)=vz [i,j] l fr
  match l with
  |[]=>rfl
  |[a]=>rfl
  |[a,b]=>
   show some (put (put (put (put fr i .unb) j .unb) i a) j b)=some (put (put fr i a) j b)
   rw[qg (put fr i .unb) .unb a (tf ij),CM,CM]
  |_::_::_::_=>rfl
theorem Tg.forget{is:ac}{t:an}(g:Tg X is t){a:AV}(e:me is a fr σ=some fr'): ∀(j:Nat) b,(Dw is fr)[j]? =some b->b= .unb\/fr'[j]? =some b:=by
 cases g with
 |name h=>
  cases e
  exact PZ fun j b h e=>.inr (NE _ _ _ _ _ h e)
 |two h N ij=>
  rename_i i j ts c p
  subst h
  revert e
  cases a<;>intro e<;>first|exact nn e|skip
  rename_i l
  match l,e with
  |[a,b],e=>
   cases e
   refine PZ fun m x hm e=> ?_
   rcases xQ _ _ _ _ _ e with⟨_,h⟩|⟨h3,h4|h4⟩
   ·exact .inl h
   ·exact .inr (NE _ _ _ _ _ hm (NE _ _ _ _ _ h3 h4))
   ·exact .inl h4
def Nk(X:FX)(k:Nat)(m:BM)(ifs:List an):Prop:=
 ∀A,eH A k-> ∀W fr σ s,St X W fr σ s-> ∀b ai,m fr σ=some (b,ai)->
  wpAny (dC X.C) A (forIn ifs true fun c r=>if r=true then do let ok <- isTrue c X.env (eval c X.env);pure (gy ok)else pure (gy r)) (oS X W fr b ai) dm s
theorem L5:Nk X k (fun _ σ=>some (true,σ)) []:=fun A R W fr σ s T b ai e=>by
 apply s2 e;exact wpAny_tests_nil (T.postB _)
theorem L6{m:BM}{c:an}(h:m8 X k m c):Nk X k m [c]:=fun A R W fr σ s T b ai e=>wpAny_tests_one (h A R W fr σ s T b ai e)
structure Gr(X:FX)(W:Wd)(fr:Fm)(σ:AS)(I:aC)(l:List AV)(i:Nat)(S:Nat->bH->Prop)(fp:List aC)(P:Nat->ah->Prop)(D:aC)(acc:List AV)(s:az):Prop where
 T:St X W fr σ s
 w:hZ X W σ I l i s.heap S fp P
 L:hU X W σ D
 g: ∃vs n,s.heap.get? D=some (dw vs n)/\VL X.C W acc vs
def xm(X:FX)(k:Nat)(e:an)(d:Nat)(xs:ac)(body:List AV->Fm->AS->Option (List AV×AS)):Prop:=
 ∀A,eH A k-> ∀W fr σ s I l i S fp P D acc,D≠I->i<=l.length->Gr X W (Dw xs fr) σ I l i S fp P D acc s-> ∀out aM,body (l.drop i) fr σ=some (out,aM)->acc.length+out.length<=4000000-> ∀R,
  (∀W' s',W.le W'->St X W' (Dw xs fr) aM s'->hU X W' aM D->(∃vs n,s'.heap.get? D=some (dw vs n)/\VL X.C W' (acc++out) vs)->R (.ok .next) s')->
  codeAny (dC X.C) A (.compLoop e d (.ref I) (.ref D) X.env) R s
theorem hZ.but{I D:aC}{l:aa}{i:Nat}{S:Nat->bH->Prop}{fp:List aC}{P:Nat->ah->Prop}(w:hZ X W σ I l i h S fp P)(hD:D≠I)(him:W.im D=none)(hk: ∀b o,b≠D->h.get? b=some o->h'.get? b=some o):hZ X W σ I l i h' S fp P:=by
 obtain⟨⟨o4,It⟩,st,L⟩:=w
 refine⟨⟨o4,It⟩,(It.walks {} rfl).frame i _ _ st fun b hb o' e'=>hk b o' ?_ e',L⟩
 rcases It.fp b hb with rfl|⟨oo,z⟩
 ·exact tf hD
 ·rintro rfl;rw[him]at z;cases z
section
variable{I D:aC}{l acc:aa}{i:Nat}{S:Nat->bH->Prop}{fp:List aC}{P:Nat->ah->Prop}
theorem Gr.forget(h:Gr X W fr σ I l i S fp P D acc s)(hf: ∀(j:Nat) b,fr'[j]? =some b->b= .unb\/fr[j]? =some b):Gr X W fr' σ I l i S fp P D acc s:=⟨h.T.forget hf,h.w,h.L,h.g⟩
theorem Gr.pin(h:Gr X W fr σ I l i S fp P D acc s)(hD:D≠I): ∃Fw,St X Fw fr σ s/\Fw.ρ=W.ρ/\Fw.im=W.im/\(∀b,Fw.pr b=none->W.pr b=none/\b≠I/\b≠D)/\
  ∀{be:Wd} {fr':Fm} {ai:AS} {s':az},Fw.le be->St X be fr' ai s'-> ∃cq,W.le cq/\cq.ρ=be.ρ/\cq.im=be.im/\Gr X cq fr' ai I l i S fp P D acc s':=by
 obtain⟨T,w,L,vs,n,g,q⟩:=h
 obtain⟨oI,bo,back⟩:=w.pin T
 have R6:hU X (W.pin I oI) σ D:=⟨L.im,by rw[ju hD];exact L.pr,L.cell,L.out⟩
 refine⟨_,bo.pin R6 g,rfl,rfl,fun b e=> ?_,fun{be fr' ai s'} bv iZ=> ?_⟩
 ·have h1:b≠D:=fun q=>by rw[q,I4]at e;cases e
  rw[ju h1]at e
  have h2:b≠I:=fun q=>by rw[q,I4]at e;cases e
  rw[ju h2]at e
  exact⟨e,h2,h1⟩
 ·obtain⟨le3,T4,g4,L4⟩:=St.unpin bv R6 iZ
  obtain⟨le5,T5,w5⟩:=back le3 T4
  exact⟨_,le5,rfl,rfl,T5,w5,⟨L4.im,L.pr,L4.cell,L4.out⟩,vs,n,g4,q.mono le5⟩
theorem Gr.push(h:Gr X W fr σ I l i S fp P D acc s)(hD:D≠I){a:AV}{v:ah}(hv:V X.C W a v)(hN:acc.length<4000000){Q:ah->az->Prop}(kk: ∀s',Gr X W fr σ I l i S fp P D (acc++[a]) s'->Q .none s'):wpAny (dC X.C) A (call (.builtin "list.append") [.ref D,v]) Q dm s:=by
 obtain⟨T,w,L,vs,n,g,q⟩:=h
 refine uT (items:=vs.toArray) ⟨n,g⟩ (fun h' hp hs=> ?_) (by rw[aZ,q.length];exact au (iW hN) (by decide))
 obtain⟨n',hg'⟩:=hp
 rw[EI]at hg'
 exact kk _ ⟨T.but L (fun b o hb e=>hs.extBut b o hb e) _,w.but hD L.im fun b o hb e=>hs.extBut b o hb e,L,_,n',hg',q.append (VL.one hv)⟩
def Ff(X:FX)(W:Wd)(Cu:Fm)(body:List AV->AS->Option (List AV×AS))(I:aC)(l:aa)(S:Nat->bH->Prop)(fp:List aC)(P:Nat->ah->Prop)(D:aC)(tot:aa)(aM:AS)(n:Nat)(s:az):Prop:=
 ∃i W' σ acc out,n=l.length-i/\i<=l.length/\W.le W'/\Gr X W' Cu σ I l i S fp P D acc s/\body (l.drop i) σ=some (out,aM)/\acc++out=tot
theorem Ff.less{Cu:Fm}{body:List AV->AS->Option (List AV×AS)}{tot out:aa}{aM:AS}(hi:i<l.length)(le:W.le W')(La:Gr X W' Cu σ I l (i+1) S fp P D acc s)(e:body (l.drop (i+1)) σ=some (out,aM))(h:acc++out=tot): ∃m,m<l.length-i/\Ff X W Cu body I l S fp P D tot aM m s:=
 ⟨l.length-(i+1),Ym hi,i+1,W',σ,acc,out,rfl,hi,le,La,e,h⟩
theorem Ff.turn{Cu:Fm}{body:List AV->AS->Option (List AV×AS)}{tot:aa}{aM:AS}{n:Nat}(h:Ff X W Cu body I l S fp P D tot aM n s)(hA:A.handled=none)(hD:D≠I){Q:Option ah->az->Prop}
  (hnil: ∀W' σ acc out bk,W.le W'->St X W' Cu σ bk->hU X W' σ D->(∃vs n,bk.heap.get? D=some (dw vs n)/\VL X.C W' acc vs)->body [] σ=some (out,aM)->acc++out=tot->Q none bk)
  (hcons: ∀i W' σ acc out a v bk,i<l.length->n=l.length-i->W.le W'->Gr X W' Cu σ I l (i+1) S fp P D acc bk->V X.C W' a v->body (a::l.drop (i+1)) σ=some (out,aM)->acc++out=tot->Q (some v) bk):wpAny (dC X.C) A (pyNext (.ref I)) Q dm s:=by
 obtain⟨i,W',σ,acc,out,hn,hi,le,⟨T,w,L,vs,m,g,q⟩,e,hEq⟩:=h
 cases hd:l.drop i with
 |nil=>
  rw[hd]at e
  exact w.done T hA hi hd fun bk bo hk=>hnil W' σ acc out bk le bo L ⟨vs,m,hk _ _ hD g,q⟩ e hEq
 |cons a r=>
  rw[hd]at e
  obtain⟨hi',rfl⟩:=Pa hd
  exact w.item T hA hd fun v bk bo aqi pB hk=>hcons i W' σ acc out a v bk hi' hn le ⟨bo,aqi,L,vs,m,hk _ _ hD g,q⟩ pB e hEq
end
theorem afE{xs:ac}{c:BM}{elt:EM}{a:AV}{r out:aa}{aM:AS}(e:eA xs c elt (a::r) fr σ=some (out,aM)){Q:Prop}(kk: ∀gM b ay,me xs a fr σ=some gM->c gM σ=some (b,ay)->
  (bif b then bu (elt gM ay) (fun y ai=>bu (eA xs c elt r fr ai) fun o cF=>some (y::o,cF))else eA xs c elt r fr ay)=some (out,aM)->Q):Q:=
 oE (show ob (me xs a fr σ) (fun fr'=>bu (c fr' σ) fun t ai=>bif t then bu (elt fr' ai) (fun b fO=>bu (eA xs c elt r fr fO) fun l cF=>some (b::l,cF))else eA xs c elt r fr ai)=some (out,aM) from e) fun gM h1 e=>fG e fun b ay h2 e=>kk gM b ay h1 h2 e
theorem alx{a b c d:aa}{y:AV}{n:Nat}(h:a++(y::b)=c++d)(hN:c.length+d.length<=n):a.length<n:=by
 have:=congrArg mT h
 rw[ao,ao,bK]at this
 omega
theorem SW(O:uV X)(O':GP X){gs:List dK}{scope:dS}{pos:Pos}{d:Nat}{xs:ac}{tg iter ee:an}{c:BM}{elt:EM}{ifs:List an}(hT:Nm (.ListComp ee gs scope pos) d ee tg iter ifs)(g:Tg X xs tg)(hc:Nk X k c ifs)(he:bX X k elt ee):
  xm X k (.ListComp ee gs scope pos) d xs (eA xs c elt):=fun A Rm W fr σ s I l i S fp P D acc hD hi La out aM e hN R hR=>by
 refine A4 hT (Ff X W (Dw xs fr) (fun l σ=>eA xs c elt l fr σ) I l S fp P D (acc++out) aM) (fun n s' h=>h.turn Rm.handled hD (fun W' σ acc' out' bk le T L g e hEq=> ?_) fun i W' σ acc' out' a v bk hi' hn le La z e hEq=> ?_) (l.length-i)
  ⟨i,W,σ,acc,out,rfl,hi,.refl _,La,e,rfl⟩
 ·cases e
  rw[aR]at hEq
  exact hR W' bk le T L (hEq▸g)
 ·subst hn
  refine afE e fun gM b ay e1 e2 e=>La.w.go ?_
  obtain⟨Fw,cH,xG,him,_,back⟩:=La.pin hD
  refine ek (g.snd O O' A Rm.handled Fw _ σ bk cH a v (z.pr xG him) gM (by rw[g.binds];exact e1)) fun _ dP iZ=>ek (hc A Rm Fw gM σ dP iZ b ay e2) fun ok jE z=>z.elim fun xq gR n7=> ?_
  cases b with
  |false=>
   rw[if_neg (by decide)]
   obtain⟨Ws,le5,_,_,YL⟩:=back gR n7
   exact Ff.less hi' (le.trans le5) (YL.forget (g.forget (σ:=σ) (a:=a) e1)) e hEq
  |true=>
   rw[if_pos rfl]
   rw[af]at e
   refine fG e fun y uP e5 e=>fG e fun o' ao9 e6 e=> ?_
   cases e
   refine he.go Rm n7 e5 fun x oq amB PK xo ana=> ?_
   obtain⟨Ws,le5,hV1,hV2,YL⟩:=back (gR.trans PK) xo
   exact YL.push hD (ana.pr hV1 hV2) (alx hEq hN) fun s' wj=>Ff.less hi' (le.trans le5) (wj.forget (g.forget (σ:=σ) (a:=a) e1)) e6 (by rw[aB];exact hEq)
end
end
end
section
open PySem.SeqAt
noncomputable section
section
variable{X:FX}{k:Nat}{W W':Wd}{fr fr':Fm}{σ ai:AS}{s s':az}{A:bW}{h h':bH}{C:PC}
noncomputable def FX.inner(X:FX)(scope:dS)(cl:List (Str×aC))(nm:Nat->Option Str)(L:aC)(ni:az):FX:={C:=X.C,env:=compEnvC scope cl L X.env,names:=nm,own:=[L],ni:=ni}
structure DX(X:FX)(scope:dS)(cl:List (Str×aC))(nm:Nat->Option Str)(xs:List Nat):Prop where
 clos:closureFor scope X.env=pure cl
 kind:scope.kind= .function
 nocell: ∀y∈scope.names,y.2≠ .cell
 locals: ∀y∈scope.names,y.2= .local->scope.names.lookup y.1=some .local
 vis: ∀i x,nm i=some x->i∈xs\/(X.names i=some x/\(X.env.kindOf x=some .cell\/X.env.kindOf x=some .free)/\((relabel scope X.env).names.lookup x=some .cell\/(relabel scope X.env).names.lookup x=some .free)/\cl.lookup x=X.env.cells.lookup x)
 sub: ∀n c,cl.lookup n=some c->X.env.cells.lookup n=some c
 apart:cl.Pairwise fun x y=>x.2≠y.2
 plain: ∀i x,nm i=some x->(x==("__debug__":Str)||x==("__classdict__":Str))=false
theorem aeN: ∀(xs:ac) (fr:Fm) (i:Nat) (a:AV),(Dw xs fr)[i]? =some a->a= .unb\/(i∉xs/\fr[i]? =some a):=by
 intro xs
 induction xs with
 |nil=>exact fun fr i a e=>.inr ⟨bb,e⟩
 |cons x xs ih=>
  intro fr i a e
  rcases ih (put fr x .unb) i a e with h|⟨h1,h2⟩
  ·exact .inl h
  ·rcases xQ _ _ _ _ _ h2 with⟨_,h⟩|⟨h3,h4|h4⟩
   ·exact .inl h
   ·exact .inr ⟨fun q=>(aH.mp q).elim h3 h1,h4⟩
   ·exact .inl h4
theorem i5.ex{X:FX}{m:Str->Option ah}{x:Str}{v:ah}(q:i5 X h m x v)(hk:X.env.kindOf x=some .cell\/X.env.kindOf x=some .free): ∃c,X.env.cells.lookup x=some c/\h.IsCell c (some v):=by
 unfold i5 at q
 rcases hk with hk|hk<;>rw[hk]at q<;>exact q
theorem i5.mk{X:FX}{m:Str->Option ah}{x:Str}{v:ah}(hk:X.env.kindOf x=some .cell\/X.env.kindOf x=some .free)(q: ∃c,X.env.cells.lookup x=some c/\h.IsCell c (some v)):i5 X h m x v:=by
 unfold i5
 rcases hk with hk|hk<;>rw[hk]<;>exact q
theorem adp(O:uV X){scope:dS}{cl:List (Str×aC)}{nm:Nat->Option Str}{xs:ac}{L:aC}{ni:az}(K:DX X scope cl nm xs)(hL: ∀n c,X.env.cells.lookup n=some c->c≠L):uV (X.inner scope cl nm L ni):=
 ⟨K.kind,O.glob,O.blt,aO.mpr rfl,K.apart,fun n c e=>hL n c (K.sub n c e),K.plain⟩
theorem St.inner(T:St X W fr σ s){scope:dS}{cl:List (Str×aC)}{nm:Nat->Option Str}{xs:ac}{L:aC}{m:Str->Option ah}(K:DX X scope cl nm xs)(hL:s.heap.objs.size<=L)
  (hk: ∀b o,s.heap.get? b=some o->h'.get? b=some o)(hn:h'.Ns L m)(t:Nat)(ht:s.toks<=t):St (X.inner scope cl nm L s) (W.guard X s.heap) (Dw xs fr) σ {s with heap:=h',toks:=t}:=by
 have nH: ¬X.Has L:=fun hc=>absurd (T.fr.lt hc) (b5.mpr hL)
 have has: ∀c,(X.inner scope cl nm L s).Has c->c=L\/X.Has c:=fun c hc=>by
  rcases hc with e|⟨n,e⟩|e
  ·exact .inl e
  ·exact .inr (.inr (.inl ⟨n,K.sub n c e⟩))
  ·exact .inl (aO.mp e)
 have kc: ∀c w,s.heap.IsCell c w->h'.IsCell c w:=fun c w ⟨o,p,q⟩=>⟨o,hk _ _ p,q⟩
 refine⟨(T.guard).keeps hk,⟨⟨m,hn,fun i a e=> ?_⟩,fun n c e=> ?_,fun c hc=> ?_,fun c hc=> ?_,fun c hc=> ?_,fun c hc=> ?_⟩,T.sm.pos,⟨_,_,rfl,ht⟩⟩
 ·rcases aeN xs fr i a e with h|⟨h1,h2⟩
  ·exact .inl h
  ·obtain⟨aqq,aqm,hv⟩:=T.fr.vars
   refine(hv i a h2).imp id fun f x hx=> ?_
   rcases K.vis i x hx with h|⟨v1,v2,v3,v4⟩
   ·exact absurd h h1
   ·obtain⟨v,q,r⟩:=f x v1
    obtain⟨c,e1,e2⟩:=q.ex v2
    exact⟨v,i5.mk v3 ⟨c,by rw[show(X.inner scope cl nm L s).env.cells=cl from rfl,v4];exact e1,kc _ _ e2⟩,r.pr rfl rfl⟩
 ·obtain⟨v,z⟩:=T.fr.cells n c (K.sub n c e);exact⟨v,kc _ _ z⟩
 ·rcases has c hc with rfl|hc
  ·exact T.rel.cell_new hL
  ·exact T.fr.apart c hc
 ·rcases has c hc with rfl|hc
  ·exact T.rel.im_new hL
  ·exact T.fr.sep c hc
 ·rw[aO.mp hc,ki nH];exact T.rel.pr_new hL
 ·rcases has c hc with rfl|hc
  ·obtain⟨o,_,_,z,_⟩:=hn;exact⟨o,z⟩
  ·obtain⟨o,z⟩:=T.fr.live c hc;exact⟨o,hk _ _ z⟩
def CP(X:FX)(W:Wd)(fr:Fm)(ai:AS)(a:AV)(D C:aC)(s':az):Prop:= ∃W',W.le W'/\St X W' fr ai s'/\V X.C W' a (.ref D)/\hU X W' ai C/\ ∃m,s'.heap.Ns C m
theorem O1(T:St X W fr σ s){scope:dS}{cl:List (Str×aC)}{nm:Nat->Option Str}{xs:ac}(K:DX X scope cl nm xs){I:aC}{l:aa}{S:Nat->bH->Prop}{fp:List aC}{P:Nat->ah->Prop}
  (LI:hU X W σ I)(It:w6 X W σ I l s.heap S fp P){e:an}{body:List AV->Fm->AS->Option (List AV×AS)}{ee tg it:an}{ifs:List an}{rest:List dK}{pos:Pos}(he:e= .ListComp ee (⟨tg,it,ifs,0⟩::rest) scope pos)
  (hloop: ∀L,(∀n c,X.env.cells.lookup n=some c->c≠L)->xm (X.inner scope cl nm L s) k e 0 xs body)(Rm:eH A k){out:List AV}{aM:AS}(eb:body l fr σ=some (out,aM))(hN:out.length<=4000000){RR:ah->aC->tA->az->Prop}
  (hRR: ∀D C s',CP X W fr (aM.alloc (.lst out)) (.ref aM.next) D C s'->RR (.ref D) C (.ok .next) s'):
  wpAny (dC X.C) A (newList []) (fun acc jE=>wpAny (dC X.C) A (newFunctionEnv scope X.env.globals cl [] X.env.qual none .none (some X.env)) (fun cenv oq=>
   codeAny (dC X.C) A (.compStart e 0 (.ref I) acc {cenv with scope:=relabel scope X.env}) (RR acc cenv.locals) oq) dm jE) dm s:=by
 subst he
 refine gG (wpAny_newFunctionEnv K.nocell (by intro y hy;simp at hy) (fun se UP Ny=> ?_) K.kind)
 dsimp only at UP Ny ⊢
 generalize hH2:s.heap.push {cls:=.type "list",dict:=none,data:=.seq ([]:List ah).toArray}=H2 at UP Ny ⊢
 have hC:H2.objs.size=s.heap.objs.size+1:=by rw[<- hH2,pQ]
 have hDC:s.heap.objs.size≠H2.objs.size:=by rw[hC];exact ci (bL _)
 have hCle:s.heap.objs.size<=H2.objs.size:=by rw[hC];exact cJ _
 have old: ∀b o,s.heap.get? b=some o->se.get? b=some o:=fun b o e=>Ny.extBut b o (ci (eV (co e) hCle)) (bz _ (hH2▸bz _ e))
 have gD:se.get? s.heap.objs.size=some (dw [] 0):=Ny.extBut _ _ hDC (bz _ (hH2▸bg _ rfl))
 have T':=T.inner (nm:=nm) (xs:=xs) K hCle old UP (s.toks+([]:List (Str×ah)).length) (cQ _ _)
 have nHas: ∀c,s.heap.objs.size<=c-> ¬X.Has c:=fun c hc hX=>absurd (T.fr.lt hX) (b5.mpr hc)
 have hasI: ∀c,(X.inner scope cl nm H2.objs.size s).Has c->c=H2.objs.size\/X.Has c:=fun c hc=>by
  rcases hc with e|⟨n,e⟩|e
  ·exact .inl e
  ·exact .inr (.inr (.inl ⟨n,K.sub n c e⟩))
  ·exact .inl (aO.mp e)
 obtain⟨oI,nI,gI,_⟩:=It.obj 0 _ It.st
 have hI:I<s.heap.objs.size:=co gI
 have LI':hU (X.inner scope cl nm H2.objs.size s) (W.guard X s.heap) σ I:=
  ⟨LI.im,by rw[ki LI.out];exact LI.pr,LI.cell,fun hc=>(hasI _ hc).elim (fun e=>absurd hI (by rw[e];exact b5.mpr hCle)) LI.out⟩
 have LD:hU (X.inner scope cl nm H2.objs.size s) (W.guard X s.heap) σ s.heap.objs.size:=
  ⟨T.rel.im_new (ax _),by rw[ki (nHas _ (ax _))];exact T.rel.pr_new (ax _),T.rel.cell_new (ax _),fun hc=>(hasI _ hc).elim hDC (nHas _ (ax _))⟩
 have hst:S 0 se:=(It.walks {} rfl).frame 0 _ _ It.st fun b _ o e=>old b o e
 have w:hZ (X.inner scope cl nm H2.objs.size s) (W.guard X s.heap) σ I l 0 se S fp P:=
  ⟨⟨se,⟨It.walks,hst,It.fp,fun i v hi p=>let⟨a,e,r⟩:=It.val i v hi p;⟨a,e,r.pr rfl rfl⟩,It.obj⟩⟩,hst,LI'⟩
 have loop: ∀jE:az,jE={s with heap:=se,toks:=s.toks+([]:List (Str×ah)).length}->
   codeAny (dC X.C) A (.compLoop (.ListComp ee (⟨tg,it,ifs,0⟩::rest) scope pos) 0 (.ref I) (.ref s.heap.objs.size) (compEnvC scope cl H2.objs.size X.env)) (RR (.ref s.heap.objs.size) H2.objs.size) jE:=by
  rintro jE rfl
  refine hloop H2.objs.size (fun n c e=> ?_) A Rm (W.guard X s.heap) fr σ _ I l 0 S fp P s.heap.objs.size [] (ci hI).symm (aU _) ⟨T',w,LD,[],0,gD,VL.nil⟩ out aM eb (by rw[HG,hJ];exact hN) _ fun W' s' le cH Bs g=> ?_
  ·exact ci (eV (T.fr.lt (.inr (.inl ⟨n,e⟩))) hCle)
  ·obtain⟨vs',n',apx,jV⟩:=g
   have Ou:=cH.rel
   have aph:cu X.C (W'.addId aM.next (s.heap.objs.size,s.heap.objs.size)) (aM.alloc (.lst out)) s'.heap:=
    Ou.alloc (p:=(s.heap.objs.size,s.heap.objs.size)) ⟨rfl,vs',n',apx,jV.mono (Wd.le_addId (Ou.fresh _ (ax _)))⟩ Bs.im Bs.pr Bs.cell
   obtain⟨anZ,n7⟩:=T.back (le.trans (Wd.le_addId (Ou.fresh _ (ax _)))) aph cH.sm.2
   obtain⟨ahM,Pt,_⟩:=cH.fr.vars
   refine hRR _ _ s' ⟨_,anZ,n7,qU (W:={W' with pr:=W.pr}),⟨cH.fr.sep _ (.inl rfl),T.rel.pr_new hCle,fun a cc p e e' q=> ?_,nHas _ hCle⟩,ahM,Pt⟩
   rw[AS.get_alloc]at e
   have e':(if a=aM.next then some (s.heap.objs.size,s.heap.objs.size)else W'.ρ a)=some p:=e'
   by_cases z:a=aM.next
   ·rw[if_pos z]at e';cases e';exact hDC q
   ·rw[if_neg z]at e e';exact cH.fr.apart _ (.inl rfl) a cc p e e' q
 exact codeAny_compStart_list (loop _ rfl) (KD ((It.walks A Rm.handled).self 0 _ _ _ hst (loop _ rfl)))
noncomputable def sX(it:EM)(body:List AV->Fm->AS->Option (List AV×AS)):EM:=fun fr σ=>bu (it fr σ) fun x ai=>bu (fu ai x) fun l ay=>bu (body l fr ay) fun vs aM=>bif dv vs.length then some (.ref aM.next,aM.alloc (.lst vs))else none
theorem Sr{it:EM}{body:List AV->Fm->AS->Option (List AV×AS)}{a:AV}(e:sX it body fr σ=some (a,ai)){Q:AV->AS->Prop}(kk: ∀x Lb l ay vs aM,it fr σ=some (x,Lb)->fu Lb x=some (l,ay)->body l fr ay=some (vs,aM)->vs.length<=4000000->Q (.ref aM.next) (aM.alloc (.lst vs))):Q a ai:=
 fG e fun x Lb e1 e=>fG e fun l ay e2 e=>fG e fun vs aM e3 e=>kS e fun z e=>by
  apply s2 e;exact kk x Lb l ay vs aM e1 e2 e3 (jJ z)
theorem aaw{scope:dS}{cl:List (Str×aC)}{nm:Nat->Option Str}{xs:ac}(K:DX X scope cl nm xs){it:EM}{body:List AV->Fm->AS->Option (List AV×AS)}{ee tg ie:an}{ifs:List an}{rest:List dK}{pos:Pos}
  (hi:bX X k it ie)(hs: ∀x,foldedSetIterable ie X.env x=pure x)
  (hloop: ∀s L,(∀n c,X.env.cells.lookup n=some c->c≠L)->xm (X.inner scope cl nm L s) k (.ListComp ee (⟨tg,ie,ifs,0⟩::rest) scope pos) 0 xs body):bX X k (sX it body) (.ListComp ee (⟨tg,ie,ifs,0⟩::rest) scope pos):=fun A Rm W fr σ s T a ai e=>by
 apply Sr e;intro x Lb l ay vs aM e1 e2 e3 e4
 show wpAny _ _ (comprehension (.ListComp ee (⟨tg,ie,ifs,0⟩::rest) scope pos) scope X.env _ (newList []) false (eval ie X.env)) _ _ _
 refine tG (use:=none) rfl hs K.clos K.kind K.locals (hi.go Rm T e1 fun v bk be bv bo pB=>ek (vG bo e2 pB) fun it dP z=>z.elim fun I cq S fp P dJ cH Bs It=> ?_)
 refine O1 cH K Bs It rfl (hloop dP) Rm e3 e4 (RR:=fun acc C=>compPost (dC X.C) A dm none (fE X W fr (.ref aM.next) (aM.alloc (.lst vs))) acc C) fun D C s' h=> ?_
 obtain⟨W',le,T',q,LC,m,hm⟩:=h
 exact⟨m,hm,fun h' hs=>⟨W',bv.trans (dJ.trans le),T'.but LC (fun b o hb e=>hs.extBut b o hb e) _,q⟩⟩
theorem ael(O:uV X)(O':GP X){scope:dS}{cl:List (Str×aC)}{nm:Nat->Option Str}{xs:ac}(K:DX X scope cl nm xs){it:EM}{body:List AV->Fm->AS->Option (List AV×AS)}{ee tg ie:an}{ifs:List an}{rest:List dK}{pos spos:Pos}
  (hi:bX X k it ie)(hs: ∀x,foldedSetIterable ie X.env x=pure x)
  (hloop: ∀s L,(∀n c,X.env.cells.lookup n=some c->c≠L)->xm (X.inner scope cl nm L s) k (.ListComp ee (⟨tg,ie,ifs,0⟩::rest) scope pos) 0 xs body)
  {i:Nat}{y:Str}{py:Pos}(hx:kb X i y)(hsw:swapsWith (.ListComp ee (⟨tg,ie,ifs,0⟩::rest) scope pos) (some (.Name y py)) spos.line X.env=pure true):
  lC X k (cK [i] (sX it body)) (.Assign [.Name y py] (.ListComp ee (⟨tg,ie,ifs,0⟩::rest) scope pos) spos):=fun A Rm W fr σ s T r q=>by
 apply Jc q;intro a ai fr' e q2
 revert q2
 apply Sr e;intro x Lb l ay vs aM e1 e2 e3 e4 q2
 apply s1 q2
 rw[exec_Assign_Name_used _ _ _ _ hsw]
 refine aq (du (aq ?_))
 show wpAny _ A (do let _ <- comprehension (.ListComp ee (⟨tg,ie,ifs,0⟩::rest) scope pos) scope X.env _ (newList []) false (eval ie X.env) (some (assign (.Name y py) X.env))) _ _ s
 generalize hQ:BG X W (.next (put fr i (.ref aM.next)) (aM.alloc (.lst vs)))=QQ
 refine aq (ek (tG (use:=some (assign (.Name y py) X.env)) (Q:=fun _ s'=>QQ .next s') rfl hs K.clos K.kind K.locals
  (hi.go Rm T e1 fun v bk be bv bo pB=>ek (vG bo e2 pB) fun it dP z=>z.elim fun I cq S fp P dJ cH Bs It=> ?_)) fun _ s' hq=>aL (aL hq))
 refine O1 cH K Bs It rfl (hloop dP) Rm e3 e4 (RR:=fun acc C=>compPost (dC X.C) A dm (some (assign (.Name y py) X.env)) (fun _ s'=>QQ .next s') acc C) fun D C s' h=> ?_
 obtain⟨W',le,T',q,LC,m,hm⟩:=h
 obtain⟨oC,es,ep,gC,hr⟩:=hm
 show wpAny _ A (assign (.Name y py) X.env (.ref D)) _ _ _
 refine lr (ek ((T'.pin LC gC).store O O' hx.1 hx.2 (q.pr rfl rfl)) fun _ oq n7=> ?_)
 obtain⟨an0,xo,apy,apg⟩:=St.unpin (.refl _) LC n7
 exact⟨m,⟨oC,es,ep,apy,hr⟩,fun h' hs=>by rw[<- hQ];exact⟨rfl,_,bv.trans (dJ.trans (le.trans an0)),xo.but apg (fun b o hb e=>hs.extBut b o hb e) _⟩⟩
end
end
end
section
open PySem.SeqAt
noncomputable section
section
variable{prog:fQ}{w:dD}{A:bW}{R:tA->az->Prop}{s:az}
theorem y5{elt target iter it acc env scope pos}{g:dK}
  (h0:codeAny (model prog w) A (.compLoop (.ListComp elt [g,⟨target,iter,[],0⟩] scope pos) 1 it acc env) R s)
  (h:wpAny (model prog w) A (pyIter it) (fun it' s'=>codeAny (model prog w) A (.compLoop (.ListComp elt [g,⟨target,iter,[],0⟩] scope pos) 1 it' acc env) R s') dm s):
  codeAny (model prog w) A (.compStart (.ListComp elt [g,⟨target,iter,[],0⟩] scope pos) 1 it acc env) R s:=by
 refine HO ?_
 show wpAny _ _ ((compStart (.ListComp elt [g,⟨target,iter,[],0⟩] scope pos) 1 it acc env).onRaise (fun x=>do noteFrame x env;standAt theWindowsPlace)) _ _ s
 refine wpAny_notedAt (KD ?_)
 unfold compStart
 show wpAny _ _ (ask>>=_) _ _ s
 refine aq (Gl (wpAny_ite ?_))
 split
 ·first
   |exact aq (aL (aL (g8 rfl h0)))
   |exact aL (g8 rfl h0)
 ·first
   |exact aq (HV (aq (du (aq (jp h (fun it' s' h'=>aL (g8 rfl h')) fun _ _ x=>x)))))
   |(refine aq (HV ?_);show wpAny _ _ (standAt iter.pos>>=_) _ _ s;exact aq (du (aq (jp h (fun it' s' h'=>aL (g8 rfl h')) fun _ _ x=>x))))
theorem OZ(elt t1 i1 t2 i2:an)(scope:dS)(pos:Pos)(it acc:ah)(env:Env):
  compTurn (.ListComp elt [⟨t1,i1,[],0⟩,⟨t2,i2,[],0⟩] scope pos) 0 it acc env=(do
   standAt i1.pos
   match <- pyNext it with
   |none=>pure (.done .next)
   |some v=>
    letOwnedTupleGo t1 it v
    assign t1 env v
    let x <- eval i2 env
    standAt i2.pos
    let x <- foldedSetIterable i2 env x
    let _ <- runOwn (.compStart (.ListComp elt [⟨t1,i1,[],0⟩,⟨t2,i2,[],0⟩] scope pos) 1 (<- holding [x] (pyIter x)) acc env) env
    again (.compLoop (.ListComp elt [⟨t1,i1,[],0⟩,⟨t2,i2,[],0⟩] scope pos) 0 it acc env)):=by rfl
theorem y4{elt t1 i1 t2 i2:an}{scope:dS}{pos:Pos}{it acc:ah}{env:Env}(hs: ∀x,foldedSetIterable i2 env x=pure x)(I:Nat->az->Prop)
  (turn: ∀n s,I n s->wpAny (model prog w) A (pyNext it) (fun r bk=>match r with
   |none=>R (.ok .next) bk
   |some v=>wpAny (model prog w) A (letOwnedTupleGo t1 it v) (fun _ Qr=>wpAny (model prog w) A (assign t1 env v) (fun _ dP=>
     wpAny (model prog w) A (eval i2 env) (fun x jE=>wpAny (model prog w) A (pyIter x) (fun j oq=>
      codeAny (model prog w) A (.compStart (.ListComp elt [⟨t1,i1,[],0⟩,⟨t2,i2,[],0⟩] scope pos) 1 j acc env) (fun r sr=>r= .ok .next/\ ∃m,m<n/\I m sr) oq) dm jE) dm dP) dm Qr) dm bk) dm s)
  (n:Nat)(h:I n s):codeAny (model prog w) A (.compLoop (.ListComp elt [⟨t1,i1,[],0⟩,⟨t2,i2,[],0⟩] scope pos) 0 it acc env) R s:=by
 refine NX rfl I (fun n s hI=> ?_) n h
 show wpAny _ A ((compTurn (.ListComp elt [⟨t1,i1,[],0⟩,⟨t2,i2,[],0⟩] scope pos) 0 it acc env).onRaise (fun x=>do noteFrame x env;theTreesLotGoes x)) _ _ s
 refine wpAny_noted ?_
 rw[OZ]
 refine KD (aq (du (aq (ek (turn n s hI) fun r bk se=> ?_))))
 cases r with
 |none=>exact aL se
 |some v=>
  refine aq (ek se fun _ Qr ZD=> ?_)
  refine aq (ek ZD fun _ dP ahk=> ?_)
  refine aq (ek ahk fun x jE abG=> ?_)
  refine aq (du ?_)
  refine aq (wpAny_of_eq (hs x) ?_)
  refine aq (dF (ek abG fun j oq ahl=> ?_))
  refine aq (wpAny_runOwn (h:=none) (NY ahl fun r sr W9=> ?_))
  obtain⟨rfl,W9⟩:=W9
  exact aL ⟨rfl,W9⟩
end
section
variable{X:FX}{k:Nat}{W W':Wd}{fr fr':Fm}{σ ai:AS}{s s':az}{A:bW}{h h':bH}{C:PC}
theorem acL{x y:Nat}{it2 elt:EM}{a:AV}{r out:aa}{aM:AS}(e:js x it2 y elt (a::r) fr σ=some (out,aM)){Q:List AV->Prop}(kk: ∀b ay l cF bs uP cs,it2 (put fr x a) σ=some (b,ay)->fu ay b=some (l,cF)->
  eA [y] (fun _ σ=>some (true,σ)) elt l (put fr x a) cF=some (bs,uP)->js x it2 y elt r fr uP=some (cs,aM)->Q (bs++cs)):Q out:=
 fG (show bu (it2 (put fr x a) σ) (fun s ai=>bu (fu ai s) fun l ay=>bu (eA [y] (fun _ σ=>some (true,σ)) elt l (put fr x a) ay) fun bs fO=>bu (js x it2 y elt r fr fO) fun cs cF=>some (bs++cs,cF))=some (out,aM) from e) fun b ay e1 e=>fG e fun l cF e2 e=>fG e fun bs uP e3 e=>fG e fun cs ao9 e4 e=>by
  cases e;exact kk b ay l cF bs uP cs e1 e2 e3 e4
theorem w6.walking{I:aC}{l:aa}{S:Nat->bH->Prop}{fp:List aC}{P:Nat->ah->Prop}(It:w6 X W σ I l h S fp P)(L:hU X W σ I):hZ X W σ I l 0 h S fp P:=⟨⟨h,It⟩,It.st,L⟩
theorem w6.im{be cq:Wd}{I:aC}{l:aa}{S:Nat->bH->Prop}{fp:List aC}{P:Nat->ah->Prop}(It:w6 X be σ I l h S fp P)(h1:cq.ρ=be.ρ)(h2:cq.im=be.im):w6 X cq σ I l h S fp P:=
 ⟨It.walks,It.st,fun b hb=>by rw[h2];exact It.fp b hb,fun i v hi p=>let⟨a,e,r⟩:=It.val i v hi p;⟨a,e,r.pr h1 h2⟩,It.obj⟩
theorem alw{a b c d e:aa}{n:Nat}(h:a++(b++e)=c++d)(hN:c.length+d.length<=n):a.length+b.length<=n:=by
 have:=congrArg mT h
 rw[ao,ao,ao]at this
 omega
theorem adF(O:uV X)(O':GP X){x y:Nat}{nx ny:Str}{px py:Pos}{it2 elt:EM}{ee i1 i2:an}{scope:dS}{pos:Pos}(hx:kb X x nx)(hy:kb X y ny)(hxy:x≠y)(hi:bX X k it2 i2)(hs: ∀v,foldedSetIterable i2 X.env v=pure v)(he:bX X k elt ee):
  xm X k (.ListComp ee [⟨.Name nx px,i1,[],0⟩,⟨.Name ny py,i2,[],0⟩] scope pos) 0 [x,y] (fun l fr σ=>js x it2 y elt l (put fr y .unb) σ):=fun A Rm W fr σ s I l i S fp P D acc hD hi0 La out aM e hN R hR=>by
 have hfr:Dw [x,y] fr=put (put fr y .unb) x .unb:=qg _ _ _ hxy
 rw[hfr]at La hR
 have hin:=SW O O' (k:=k) (aeM (g:=⟨.Name nx px,i1,[],0⟩) (scope:=scope) (pos:=pos)) (Tg.name (p:=py) hy) L5 he (iter:=i2)
 refine y4 hs (Ff X W (put (put fr y .unb) x .unb) (fun l σ=>js x it2 y elt l (put fr y .unb) σ) I l S fp P D (acc++out) aM) (fun n s' h=>h.turn Rm.handled hD (fun W' σ acc' out' bk le T L g e hEq=> ?_) fun i W' σ acc' out' a v bk hi' hn le La z e hEq=> ?_) (l.length-i)
  ⟨i,W,σ,acc,out,rfl,hi0,.refl _,La,e,rfl⟩
 ·cases e
  rw[aR]at hEq
  exact hR W' bk le T L (hEq▸g)
 ·subst hn
  revert hEq
  apply acL e;intro b ay l2 cF bs uP cs e1 e2 e3 e4 hEq
  refine La.w.go ?_
  obtain⟨Fw,cH,xG,him,hpr,back⟩:=La.pin hD
  have hfr2:Dw [y] (put (put fr y .unb) x a)=put (put fr y .unb) x a:=by show put (put (put fr y .unb) x a) y .unb=_;rw[qg _ _ _ hxy,CM]
  refine ek (Hu O O' hx A Rm.handled Fw _ σ bk cH a v (z.pr xG him) (put (put fr y .unb) x a) (congrArg some (CM _ _ _ _))) fun _ dP iZ=> ?_
  refine hi.go Rm iZ e1 fun xv jE xq gR n7 aql=>ek (vG n7 e2 aql) fun jv oq z=>z.elim fun J Ws S2 fp2 P2 Xm xo LJ It2=> ?_
  have l05:=gR.trans Xm
  obtain⟨hJp,hJI,hJD⟩:=hpr J (by rw[<- l05.2.2];exact LJ.pr)
  obtain⟨Im,le6,hV1,hV2,wj⟩:=back l05 xo
  have LJ6:hU X Im cF J:=⟨by rw[hV2];exact LJ.im,by rw[le6.2.2];exact hJp,fun a cc p e e'=>LJ.cell a cc p e (by rw[<- hV1];exact e'),LJ.out⟩
  obtain⟨oI,apj,back7⟩:=wj.w.pin wj.T
  have anc:Gr X (Im.pin I oI) (put (put fr y .unb) x a) cF J l2 0 S2 fp2 P2 D acc' oq:=by
   obtain⟨vs,m,g,q⟩:=wj.g
   exact⟨apj,(show w6 X (Im.pin I oI) cF J l2 oq.heap S2 fp2 P2 from It2.im hV1 hV2).walking ⟨LJ6.im,by rw[ju hJI];exact LJ6.pr,LJ6.cell,LJ6.out⟩,⟨wj.L.im,by rw[ju hD];exact wj.L.pr,wj.L.cell,wj.L.out⟩,vs,m,g,q.pr rfl rfl⟩
  have inner:codeAny (dC X.C) A (.compLoop (.ListComp ee [⟨.Name nx px,i1,[],0⟩,⟨.Name ny py,i2,[],0⟩] scope pos) 1 (.ref J) (.ref D) X.env) (fun r sr=>r= .ok .next/\ ∃m,m<l.length-i/\Ff X W (put (put fr y .unb) x .unb) (fun l σ=>js x it2 y elt l (put fr y .unb) σ) I l S fp P D (acc++out) aM m sr) oq:=by
   refine hin A Rm (Im.pin I oI) (put (put fr y .unb) x a) cF oq J l2 0 S2 fp2 P2 D acc' (tf hJD) (aU _) (by rw[hfr2];exact anc) bs uP e3 (alw hEq hN) _ fun apl sr apE amA aeW g=>⟨rfl,?_⟩
   rw[hfr2]at amA
   obtain⟨vs,m,apz,ap5⟩:=g
   obtain⟨le9,apk,aqj⟩:=back7 apE amA
   have ane:Gr X {apl with pr:=Im.pr} (put (put fr y .unb) x .unb) uP I l (i+1) S fp P D (acc'++bs) sr:=⟨apk.forget (PZ fun j b h e=>.inr (NE _ _ _ _ _ h e)),aqj,⟨aeW.im,wj.L.pr,aeW.cell,aeW.out⟩,vs,m,apz,ap5.pr rfl rfl⟩
   exact Ff.less hi' (le.trans (le6.trans le9)) ane e4 (by rw[aB];exact hEq)
  exact y5 inner ((It2.walks A Rm.handled).self 0 _ _ _ It2.st inner)
end
end
end
section
open PySem.SeqAt
noncomputable section
section
variable{X:FX}{k:Nat}{W W':Wd}{fr fr':Fm}{σ ai:AS}{s s':az}{A:bW}{h h':bH}{C:PC}
theorem z8: ∀{names:List (Str×fW)} {n:Str} (m:Nat) (acc:List (Str×aC)),((n,et)∈names\/(acc.lookup n).isSome=true)->((cellsFrom m names acc).lookup n).isSome=true:=by
 intro names
 induction names with
 |nil=>intro n m acc h;exact h.resolve_left bb
 |cons p r ih=>
  intro n m acc h
  obtain⟨x,kd⟩:=p
  unfold cellsFrom
  split
  ·refine ih _ _ ?_
   by_cases hx:n=x
   ·subst hx;exact .inr (by rw[fX];rfl)
   ·refine h.imp (fun h=>(aH.mp h).resolve_left fun e=>hx (congrArg Prod.fst e)) fun h=> ?_
    rw[cO,beq_eq_false_iff_ne.mpr hx];exact h
  ·rename_i hk
   refine ih _ _ (h.imp_left fun h=>(aH.mp h).resolve_left fun e=> ?_)
   cases e;exact hk rfl
theorem WH{kindOf:Str->Option fW}: ∀{binds:List (Str×ah)} {m:Str->Option ah} {x:Str},x∉binds.map (·.1)->bindL kindOf binds m x=m x:=by
 intro binds
 induction binds with
 |nil=>exact fun _=>rfl
 |cons p r ih=>
  intro m x h
  obtain⟨n,v⟩:=p
  have h1:x≠n:=fun e=>h (e▸ba)
  show bindL kindOf r (if kindOf n=some .local then fun y=>if y=n then some v else m y else m) x=m x
  rw[ih fun q=>h (aQ _ q)]
  split
  ·exact if_neg h1
  ·rfl
theorem WG{kindOf:Str->Option fW}: ∀{binds:List (Str×ah)} {m:Str->Option ah} {x:Str},x∉binds.map (·.1)->bindC kindOf binds m x=m x:=by
 intro binds
 induction binds with
 |nil=>exact fun _=>rfl
 |cons p r ih=>
  intro m x h
  obtain⟨n,v⟩:=p
  have h1:x≠n:=fun e=>h (e▸ba)
  show bindC kindOf r (if kindOf n=some .local then m else fun y=>if y=n then some v else m y) x=m x
  rw[ih fun q=>h (aQ _ q)]
  split
  ·rfl
  ·exact if_neg h1
theorem Hz{ps:List Str}{ws:List ah}(hl:ws.length=ps.length):(ps.zip ws).map (·.1)=ps:=by
 rw[<- List.unzip_fst,List.unzip_zip_left (by omega)]
theorem acG{kindOf:Str->Option fW}: ∀{ps:List Str} {ws:List ah} {m:Str->Option ah} {i:Nat} {x:Str} {v:ah},ps.Nodup->ps.length=ws.length->ps[i]? =some x->ws[i]? =some v->kindOf x=some .local->bindL kindOf (ps.zip ws) m x=some v:=by
 intro ps
 induction ps with
 |nil=>intro ws m i x v _ _ e;cases e
 |cons p ps ih=>
  intro ws m i x v hN hl e e' hk
  rw[dL]at hN
  cases ws with
  |nil=>cases e'
  |cons w ws=>
   have hl:=jQ hl
   cases i with
   |zero=>
    have e:p=x:=aG e
    have e':w=v:=aG e'
    subst e e'
    show bindL kindOf (ps.zip ws) (if kindOf p=some .local then fun y=>if y=p then some w else m y else m) p=some w
    rw[WH (by rw[Hz hl.symm];exact hN.1),if_pos hk,if_pos rfl]
   |succ i=>exact ih hN.2 hl e e' hk
theorem acF{kindOf:Str->Option fW}: ∀{ps:List Str} {ws:List ah} {m:Str->Option ah} {i:Nat} {x:Str} {v:ah},ps.Nodup->ps.length=ws.length->ps[i]? =some x->ws[i]? =some v->kindOf x=some .cell->bindC kindOf (ps.zip ws) m x=some v:=by
 intro ps
 induction ps with
 |nil=>intro ws m i x v _ _ e;cases e
 |cons p ps ih=>
  intro ws m i x v hN hl e e' hk
  rw[dL]at hN
  cases ws with
  |nil=>cases e'
  |cons w ws=>
   have hl:=jQ hl
   cases i with
   |zero=>
    have e:p=x:=aG e
    have e':w=v:=aG e'
    subst e e'
    show bindC kindOf (ps.zip ws) (if kindOf p=some .local then m else fun y=>if y=p then some w else m y) p=some w
    rw[WG (by rw[Hz hl.symm];exact hN.1),if_neg (by rw[hk];decide),if_pos rfl]
   |succ i=>exact ih hN.2 hl e e' hk
structure aaY(C:PC)(fd:gz)(nm:Nat->Option Str)(X:FX):Prop where
 C:X.C=C
 ok:uV X
 nm:X.names=nm
 scope:X.env.scope=fd.scope
 own: ∀n c,X.env.cells.lookup n=some c->c∈X.own
 cells: ∀n,(n,et)∈fd.scope.names-> ∃c,X.env.cells.lookup n=some c
structure aeV(C:PC)(f:aC)(fd:gz)(body:List cn)(ps:List Str)(dfl:List AV)(nm:Nat->Option Str):Prop where
 there: ∃o,C.K.lookup f=some o/\o.data= .func fd
 code:codeIn C.K fd.code fd.qualname=true
 body:fd.body= .stmts body
 clo:fd.closure=[]
 glob:fd.globals=mainGlobals
 blt:fd.builtins=builtinsNs
 kind:fd.scope.kind= .function
 coro:fd.scope.isCoroutine=false
 gen:fd.scope.isGenerator=false
 bind: ∀W σ s args vs,cu C W σ s.heap->VL C W args vs->args.length<=ps.length->ps.length<=args.length+dfl.length->
  ∃ws,VL C W (args++dfl.drop (args.length+dfl.length-ps.length)) ws/\RO s fd ⟨vs,[]⟩ (ps.zip ws)
 nodup:ps.Nodup
 kinds: ∀x∈ps,fd.scope.names.lookup x=some .local\/fd.scope.names.lookup x=some .cell
 nmAt: ∀(i:Nat) x,i<ps.length->nm i=some x->ps[i]? =some x
 plain: ∀i x,nm i=some x->(x==("__debug__":Str)||x==("__classdict__":Str))=false
def pK(C:PC)(k:Nat)(f:ah)(F:aW):Prop:=
 ∀A,eH A k-> ∀W σ s args vs,cu C W σ s.heap->VL C W args vs->1<=s.toks-> ∀a ai,F args σ=some (a,ai)->
  codeAny (dC C) A (.call f ⟨vs,[]⟩) (fun r s'=>match r with| .ok (.ret v)=>Sm s s'/\ ∃W',W.le W'/\cu C W' ai s'.heap/\V C W' a v| .ok _=>False| .error e=>dm e s') s
theorem pK.snd{f:ah}{F:aW}(h:pK C k f F):aF C k f F:=fun A Rm W σ s args vs R hv tk a ai e=>oH (h A Rm W σ s args vs R hv tk a ai e)
theorem Sg{a d p:Nat}(h1:a<=p)(h2:p<=a+d):a+(d-(a+d-p))=p:=by omega
theorem aby{f:aC}{fd:gz}{body:List cn}{ps:List Str}{dfl:aa}{nm:Nat->Option Str}(F:aeV C f fd body ps dfl nm){A:bW}(Rm:eH A (k+1)){args:aa}{vs:List ah}(R:cu C W σ s.heap)(hv:VL C W args vs)(tk:1<=s.toks)(h1:args.length<=ps.length)(h2:ps.length<=args.length+dfl.length){Rz:tA->az->Prop}
  (hb: ∀X,aaY C fd nm X->X.ni=s->eH (A.deeper X.env) k-> ∀bk,(∀b o,s.heap.get? b=some o->bk.heap.get? b=some o)->(∀c,X.Has c->s.heap.get? c=none)->St X W (args++dfl.drop (args.length+dfl.length-ps.length)) σ bk->
   wpAny (dC C) (A.deeper X.env) (execs body X.env) (fun fl dP=>Rz (.ok (.ret (match fl with| .ret v=>v|_=>.none))) dP) dm bk):codeAny (dC C) A (.call (.ref f) ⟨vs,[]⟩) Rz s:=by
 obtain⟨ws,hws,hbind⟩:=F.bind W σ s args vs R hv h1 h2
 obtain⟨o,ho,hd⟩:=F.there
 have hwl:ws.length=ps.length:=by rw[hws.length,ao,gU];exact Sg h1 h2
 have K:=R.K
 have hcell: ∀x∈ps,fd.scope.names.lookup x=some .cell-> ∀m,((cellsFrom m fd.scope.names []).lookup x).isSome=true:=fun x hx hl m=>z8 _ _ (.inl (mem_of_lookup hl))
 refine codeAny_call_function Rm.d0 (K _ _ ho) hd F.coro F.gen F.body (codeRec_of K F.code) (hbind _ _ _ _ ?_)
 rw[F.clo]
 refine wpAny_with_toks (ax s.toks) (wpAny_newFunctionEnv_cells F.kind (fun x hx=> ?_) fun env he bk x=>fun htk=> ?_)
 ·have hx':x.1∈ps:=by rw[<- Hz hwl];exact List.mem_map_of_mem hx
  exact(F.kinds x.1 hx').imp id fun h=>⟨h,hcell x.1 hx' h _⟩
 ·have hns:env.scope=fd.scope:=by rw[he];rfl
  have hcs:env.cells=cellsFrom (s.heap.objs.size+1) fd.scope.names []:=by rw[he];rfl
  have keep:=x.toInCall.keep
  have hL:s.heap.objs.size<=env.locals:=x.toInCall.fresh
  have hC: ∀n c,env.cells.lookup n=some c->s.heap.objs.size<=c:=fun n c e=>iW (eU hL (x.above n c (mem_of_lookup e)))
  refine⟨(C.nolimit.keeps fun b o e=>R.im _ _ (R.base _ _ e)).keeps keep,codeAny_func ?_⟩
  let X:FX:=⟨C,env,nm,env.locals::env.cells.filterMap (fun p=>env.cells.lookup p.1),s⟩
  have hown: ∀n c,env.cells.lookup n=some c->c∈X.own:=fun n c e=>aQ _ (lp.mpr ⟨(n,c),mem_of_lookup e,e⟩)
  have has: ∀c,X.Has c->s.heap.objs.size<=c:=fun c hc=>by
   rcases hc with rfl|⟨n,e⟩|e
   ·exact hL
   ·exact hC n c e
   ·rcases aH.mp e with rfl|e
    ·exact hL
    ·obtain⟨p,hp,e⟩:=lp.mp e
     exact hC _ _ e
  have ok:uV X:=⟨by show env.scope.kind=_;rw[hns];exact F.kind,by show env.globals=_;rw[he];exact F.glob,by show env.builtins=_;rw[he];exact F.blt,ba,x.apart,
   fun n c e=>oF (x.above n c (mem_of_lookup e)),F.plain⟩
  have B:aaY C fd nm X:=⟨rfl,ok,rfl,hns,hown,fun n hn=>by
   show ∃c,env.cells.lookup n=some c
   rw[hcs];exact eW.mp (z8 _ _ (.inl hn))⟩
  have hsm:Sm s bk:=by obtain⟨se,akl,e⟩:=x.toInCall.same;exact⟨se,akl,e,by rw[e]at htk;exact htk⟩
  have T:St X W (args++dfl.drop (args.length+dfl.length-ps.length)) σ bk:=by
   refine⟨R.keeps keep,⟨⟨_,x.toInCall.ns,fun i a e=>.inr fun y hy=> ?_⟩,fun n c e=>⟨_,x.cell n c e⟩,fun c hc=>R.cell_new (has c hc),fun c hc=>R.im_new (has c hc),fun c hc=>R.pr_new (has c (.inr (.inr hc))),fun c hc=> ?_⟩,tk,hsm⟩
   ·have hi:i<ps.length:=by
     have:=(cL.mp e).1
     rwa[ao,gU,Sg h1 h2]at this
    obtain⟨v,e',q⟩:=hws.get e
    have hp:=F.nmAt i y hi hy
    refine⟨v,?_,q⟩
    have hy':y∈ps:=a7 hp
    have hk: ∀kd,fd.scope.names.lookup y=some kd->env.kindOf y=some kd:=fun kd h=>by show env.scope.names.lookup y=_;rw[hns];exact h
    unfold i5
    rcases F.kinds y hy' with hl|hl
    ·rw[show X.env.kindOf y=some .local from hk _ hl]
     exact acG F.nodup hwl.symm hp e' (hk _ hl)
    ·rw[show X.env.kindOf y=some .cell from hk _ hl]
     obtain⟨c,hc⟩:=eW.mp (hcell y hy' hl (s.heap.objs.size+1))
     rw[<- hcs]at hc
     refine⟨c,hc,?_⟩
     have z:=x.cell y c hc
     rw[acF F.nodup hwl.symm hp e' (hk _ hl)]at z;exact z
   ·rcases hc with rfl|⟨n,e⟩|e
    ·obtain⟨o,_,_,z,_⟩:=x.toInCall.ns;exact⟨o,z⟩
    ·obtain⟨o,z,_⟩:=x.cell n c e;exact⟨o,z⟩
    ·rcases aH.mp e with rfl|e
     ·obtain⟨o,_,_,z,_⟩:=x.toInCall.ns;exact⟨o,z⟩
     ·obtain⟨p,hp,e⟩:=lp.mp e
      obtain⟨o,z,_⟩:=x.cell _ c e;exact⟨o,z⟩
  exact KD (hb X B rfl (Rm.deeper env) bk keep (fun c hc=>by
   cases e:s.heap.get? c with
   |none=>rfl
   |some o=>exact absurd (co e) (b5.mpr (has c hc))) T)
theorem ajN{f:aC}{fd:gz}{body:List cn}{ps:List Str}{dfl:aa}{nm:Nat->Option Str}{b:SM}(F:aeV C f fd body ps dfl nm)(hb: ∀X,aaY C fd nm X->mM X k b body):pK C (k+1) (.ref f) (bf ps.length dfl b):=fun A Rm W σ s args vs R hv tk a ai e=>by
 refine kS e fun hc e=> ?_
 rw[ib,ib]at hc e
 rw[Ww,Sp]at e
 obtain⟨h1,h2⟩:=br.mp hc
 refine aby F Rm R hv tk (av h1) (av h2) fun X B es Rm' bk _ _ T=> ?_
 have hC:=B.C
 subst hC
 refine oE e fun r q e=>ek (hb X B _ Rm' W _ σ bk T r q) fun fl dP P=> ?_
 cases r with
 |next gM ay=>
  apply s2 e
  obtain⟨rfl,be,bv,bo⟩:=P
  exact⟨es▸bo.sm.2,be,bv,bo.rel,rfl⟩
 |ret xr ay=>
  apply s2 e
  obtain⟨v,gM,rfl,be,bv,bo,z⟩:=P
  exact⟨es▸bo.sm.2,be,bv,bo.rel,z⟩
 |brk _ _=>exact nn e
 |cont _ _=>exact nn e
end
end
end
section
open PySem.SeqAt
noncomputable section
noncomputable def Cp:List (Str×ah)->List (Str×ah)->List (Str×ah)
 |[],sl=>sl
 |(n,d)::r,sl=>Cp r (if(sl.lookup n).isNone then sl++[(n,d)]else sl)
theorem Xl{ps:List Str}{vs:List ah}: ∀{n:Str},n∈ps.take vs.length->((ps.zip vs).lookup n).isSome=true:=by
 induction ps generalizing vs with
 |nil=>intro n h;simp at h
 |cons p ps ih=>
  intro n h
  cases vs with
  |nil=>simp at h
  |cons v vs=>
   simp only[bK,A0,aH]at h
   rw[bJ,cO]
   cases q:n==p with
   |true=>rfl
   |false=>exact ih (h.resolve_left fun e=>by rw[e]at q;simp at q)
theorem Zs: ∀(L:List (Str×ah)) (sl:List (Str×ah)),(forIn L sl fun x r=>if(wf x.fst r).isNone=true then pure (gy (r++[(x.fst,x.snd)]))else pure (gy r):Sem (List (Str×ah)))=pure (Cp L sl):=by
 intro L
 induction L with
 |nil=>exact fun sl=>rfl
 |cons p L ih=>
  intro sl
  rw[gA]
  show(if(wf p.1 sl).isNone=true then _ else _)>>=_=pure (Cp L (if(sl.lookup p.1).isNone then sl++[(p.1,p.2)]else sl))
  split
  ·rw[pure_bind];exact ih _
  ·rw[pure_bind];exact ih _
theorem M1{fd:gz}{s:az}{vs ds:List ah}{ps:List Str}{d:Option (Array ah)}(h1:fd.params.posonlyargs=[])(h2:fd.params.kwonlyargs=[])(h3:fd.params.vararg=none)(h4:fd.params.kwarg=none)(hps:fd.params.args.map (·.arg)=ps)
  (hd: ∀(M:kW) (A:bW) (E:ah->az->Prop) (Q:Option (Array ah)->az->Prop),Q d s->wpAny M A (seqItems? fd.defaults) Q E s)(hds:(d.getD #[]).toList=ds)(hl:vs.length<=ps.length)(hl2:ps.length<=vs.length+ds.length)(hl3:ds.length<=ps.length):
  RO s fd ⟨vs,[]⟩ (ps.filterMap fun n=>((Cp ((ps.drop (ps.length-ds.length)).zip ds) (ps.zip vs)).lookup n).map (n,·)):=fun M A E Q hQ=>by
 obtain⟨f1,f2,⟨po,ar,va,ko,kd,ka,ds0⟩,f4,f5,f6,f7,dflt,f9⟩:=fd
 dsimp only at h1 h2 h3 h4 hps hd
 subst h1 h2 h3 h4 hps
 refine aq (m:=seqItems? dflt) (hd M A E _ ?_)
 rw[hds]
 rw[if_neg (by simp only[cD,decide_eq_true_eq,not_and];exact fun h=>absurd h (b5.mpr (by simpa using hl)))]
 have z:ds.length-(ar.map (·.arg)).length=0:=Nat.sub_eq_zero_of_le hl3
 have miss:QT (fun n=>(((ar.map (·.arg)).zip vs).lookup n).isNone) ((ar.map (·.arg)).take ((ar.map (·.arg)).length -ds.length))=[]:=by
  rw[List.filter_eq_nil_iff]
  intro n hn
  have:(((ar.map (·.arg)).zip vs).lookup n).isSome=true:=Xl (by
   have:(ar.map (·.arg)).take ((ar.map (·.arg)).length -ds.length)=((ar.map (·.arg)).take vs.length).take ((ar.map (·.arg)).length -ds.length):=by rw[JS,HK (by omega)]
   rw[this]at hn;exact List.mem_of_mem_take hn)
  rw[dA]
  intro q;rw[q]at this;cases this
 rw[if_neg]
 rotate_left
 ·show ¬((!(QT (fun n=>(((ar.map (·.arg)).zip vs).lookup n).isNone) ((ar.map (·.arg)).take ((ar.map (·.arg)).length -(ds.drop (ds.length-(ar.map (·.arg)).length)).length))).isEmpty)=true)
  rw[z,lT,miss];decide
 refine aq (m:=forIn _ _ _) ?_
 rw[Zs]
 refine aL (aL ?_)
 show Q (List.filterMap (fun n=>Option.map (fun x=>(n,x)) (wf n (Cp ((Bd ((ar.map (·.arg)).length -(ds.drop (ds.length-(ar.map (·.arg)).length)).length) (ar.map (·.arg))).zip (ds.drop (ds.length-(ar.map (·.arg)).length))) ((ar.map (·.arg)).zip vs)))) (ar.map (·.arg)++[])) s
 rw[z,lT,aR]
 exact hQ
theorem LQ{l m:List (Str×ah)}{x:Str}:(l++m).lookup x=(l.lookup x).or (m.lookup x):=by
 induction l with
 |nil=>simp
 |cons p l ih=>
  rw[eR,cO,cO]
  split<;>simp_all
theorem FC{x:Str}: ∀(L sl:List (Str×ah)),(Cp L sl).lookup x=(sl.lookup x).or (L.lookup x)
 |[],sl=>by simp[Cp]
 |(n,d)::r,sl=>by
  unfold Cp
  rw[FC r,cO]
  cases q:x==n with
  |true=>
   have:=beq_iff_eq.mp q
   subst this
   cases z:sl.lookup x with
   |none=>
    simp only[Option.isNone_none,if_true]
    rw[LQ,z]
    simp
   |some v=>simp[z]
  |false=>
   split
   ·rw[LQ]
    have:wf x [(n,d)]=none:=by rw[cO,q];rfl
    rw[this];simp
   ·rfl
theorem uc: ∀{ps:List Str} {vs:List ah} {i:Nat} {x:Str},ps.Nodup->ps[i]? =some x->(ps.zip vs).lookup x=vs[i]?
 |[],_,_,_,_,e=>by simp at e
 |_::_,[],_,_,_,_=>by simp
 |p::ps,v::vs,0,x,_,e=>by cases e;simp
 |p::ps,v::vs,i+1,x,hN,e=>by
  rw[dL]at hN
  have e:ps[i]? =some x:=by simpa using e
  have hx:x∈ps:=a7 e
  have:(x==p)=false:=by
   rw[beq_eq_false_iff_ne];rintro rfl;exact hN.1 hx
  rw[bJ,cO,this]
  simpa using uc (vs:=vs) hN.2 e
theorem Cq{g:Str->Option ah}: ∀{ps:List Str} {ws:List ah},ps.length=ws.length->(∀(i:Nat) x w,ps[i]? =some x->ws[i]? =some w->g x=some w)->ps.filterMap (fun n=>(g n).map (n,·))=ps.zip ws
 |[],_,_,_=>by simp
 |_::_,[],h,_=>by simp at h
 |p::ps,w::ws,h,hg=>by
  have h0:=hg 0 p w rfl rfl
  have ih:=Cq (g:=g) (ps:=ps) (ws:=ws) (by simpa using h) fun i x w e e'=>hg (i+1) x w (by simpa using e) (by simpa using e')
  rw[kK,h0]
  simp[ih]
theorem ix0{i p d v:Nat}(h:p<=v+d)(hv:v<=i):p-d<=i:=Nat.sub_le_of_le_add (au h (Nat.add_le_add_right hv d))
theorem ix1{i q:Nat}(h:q<=i):q+(i-q)=i:=A1 h
theorem ix2{i p d v:Nat}(h:p<=v+d)(h3:d<=p)(hv:v<=i):i-(p-d)=v+d-p+(i-v):=by
 obtain⟨a,rfl⟩:=je h3
 obtain⟨b,rfl⟩:=je hv
 rw[my,lq v d,Nat.add_sub_add_left,my]
 exact Nat.sub_add_comm (Nat.le_of_add_le_add_left (by rw[lq v d]at h;exact h))
theorem WI{fd:gz}{s:az}{vs ds:List ah}{ps:List Str}{d:Option (Array ah)}(h1:fd.params.posonlyargs=[])(h2:fd.params.kwonlyargs=[])(h3:fd.params.vararg=none)(h4:fd.params.kwarg=none)(hps:fd.params.args.map (·.arg)=ps)
  (hd: ∀(M:kW) (A:bW) (E:ah->az->Prop) (Q:Option (Array ah)->az->Prop),Q d s->wpAny M A (seqItems? fd.defaults) Q E s)(hds:(d.getD #[]).toList=ds)(hl:vs.length<=ps.length)(hl2:ps.length<=vs.length+ds.length)(hl3:ds.length<=ps.length)(hN:ps.Nodup):
  RO s fd ⟨vs,[]⟩ (ps.zip (vs++ds.drop (vs.length+ds.length-ps.length))):=by
 have:=M1 h1 h2 h3 h4 hps hd hds hl hl2 hl3
 rw[Cq (ws:=vs++ds.drop (vs.length+ds.length-ps.length)) (by rw[ao,gU];omega)]at this
 ·exact this
 ·intro i x w e e'
  have hi:i<ps.length:=(cL.mp e).1
  rw[FC,uc hN e]
  by_cases hv:i<vs.length
  ·rw[List.getElem?_append_left hv]at e'
   rw[e'];rfl
  ·rw[kv (b5.mp hv),qO]at e'
   rw[nX (b5.mp hv),JT]
   have hN':(ps.drop (ps.length-ds.length)).Nodup:=hN.sublist (List.drop_sublist _ _)
   rw[uc (i:=i-(ps.length-ds.length)) hN' (by rw[qO,ix1 (ix0 hl2 (b5.mp hv))];exact e),<- e',ix2 hl2 hl3 (b5.mp hv)]
theorem Xs{v:ah}{s:az}(hv:v= .none): ∀(M:kW) (A:bW) (E:ah->az->Prop) (Q:Option (Array ah)->az->Prop),Q none s->wpAny M A (seqItems? v) Q E s:=fun _ _ _ _ h=>by
 subst hv;exact aq (aL (aL h))
end
end
section
open PySem.SeqAt
noncomputable section
structure SI where
 names:List (Str×fW)
 nm:List (Nat×Str)
 own:Bool
noncomputable def SI.kind(st:SI)(x:Str):Option fW:=st.names.lookup x
noncomputable def SI.at_(st:SI)(i:Nat):Option Str:=st.nm.lookup i
noncomputable def o9{α:Type}[BEq α]:List α->Bool
 |[]=>true
 |x::r=> !r.contains x&&o9 r
noncomputable def zi(x:Str):Bool:= !(x==("__debug__":Str)||x==("__classdict__":Str))
noncomputable def SI.inner(st:SI)(scope:dS)(xs:ac)(ts:List Str):SI:=
 {names:=scope.names.map fun p=>if(p.2==dr&&st.kind p.1==some et)then(p.1,et)else p
  nm:=xs.zip ts++st.nm.filter fun p=> !xs.contains p.1&&scope.names.lookup p.2==some .free
  own:=false}
noncomputable def Nr(st:SI)(scope:dS)(xs:ac)(ts:List Str):Bool:=
 scope.kind== .function&&scope.names.all (fun y=>y.2 != .cell)&&scope.names.all (fun y=>y.2 != .local||scope.names.lookup y.1==some .local)&&
 scope.names.all (fun y=>y.2 != .free||(st.kind y.1==some .cell||st.kind y.1==some .free))&&o9 (scope.names.map (·.1))&&
 ts.all (fun t=>scope.names.lookup t==some .local&&zi t)&&o9 ((st.inner scope xs ts).nm.map (·.2))&&xs.length==ts.length&&o9 xs&&o9 (st.nm.map (·.1))
theorem aE{a b:Bool}{P:Prop}(h:(a&&b)=true)(k:a=true->b=true->P):P:=by
 cases a with
 |true=>exact k rfl h
 |false=>exact ff h
theorem rE{a b:Bool}{P:Prop}(h:(a||b)=true)(k:a=true->P)(k':b=true->P):P:=by
 cases a with
 |true=>exact k rfl
 |false=>exact k' h
@[elab_as_elim] theorem dE {α:Type} {a b:α} {i:Decidable (a=b)} {Q:α->Prop} (h:decide (a=b)=true) (k:Q a):Q b:=ag h▸k
theorem pc{a:Bool}(h:(!a)=true):a=false:=by cases a with
 |true=>cases h
 |false=>rfl
noncomputable def Hk{α:Type}(o:Option α)(f:α->Bool):Bool:=bm (motive:=fun _=>Bool) false f o
@[elab_as_elim] theorem ah3 {α:Type} {Q:Option α->Prop} {o:Option α} {f:α->Bool} (h:Hk o f=true) (k: ∀a,f a=true->Q (some a)):Q o:=by
 cases o with
 |some a=>exact k a h
 |none=>exact ff h
noncomputable def hd{α:Type}(l:List α)(f:α->List α->Bool):Bool:=bq (motive:=fun _=>Bool) false (fun a r _=>f a r) l
@[elab_as_elim] theorem UO {α:Type} {Q:List α->Prop} {l:List α} {f:α->List α->Bool} (h:hd l f=true) (k: ∀a r,f a r=true->Q (a::r)):Q l:=by
 cases l with
 |cons a r=>exact k a r h
 |nil=>exact ff h
noncomputable def nl{α:Type}(l:List α)(b:Bool):Bool:=bq (motive:=fun _=>Bool) b (fun _ _ _=>false) l
@[elab_as_elim] theorem IY {α:Type} {Q:List α->Prop} {l:List α} {b:Bool} (h:nl l b=true) (k:b=true->Q []):Q l:=by
 cases l with
 |cons a r=>exact ff h
 |nil=>exact k h
noncomputable def uf{α:Type}(l:List α)(f:α->Bool):Bool:=hd l fun a r=>nl r (f a)
@[elab_as_elim] theorem pe {α:Type} {Q:List α->Prop} {l:List α} {f:α->Bool} (h:uf l f=true) (k: ∀a,f a=true->Q [a]):Q l:=UO h fun a _ h=>IY h fun h=>k a h
noncomputable def Dv{α:Type}(l:List α)(f:α->α->Bool):Bool:=hd l fun a r=>uf r (f a)
@[elab_as_elim] theorem wK {α:Type} {Q:List α->Prop} {l:List α} {f:α->α->Bool} (h:Dv l f=true) (k: ∀a b,f a b=true->Q [a,b]):Q l:=UO h fun a _ h=>pe h fun b h=>k a b h
noncomputable def Vx{α:Type}(l:List α)(f:α->α->α->Bool):Bool:=hd l fun a r=>Dv r (f a)
@[elab_as_elim] theorem Yq {α:Type} {Q:List α->Prop} {l:List α} {f:α->α->α->Bool} (h:Vx l f=true) (k: ∀a b c,f a b c=true->Q [a,b,c]):Q l:=UO h fun a _ h=>wK h fun b c h=>k a b c h
theorem pC{c:Prop}{i:Decidable c}{t:c->Bool}{P:Prop}(h:(if h:c then t h else false)=true)(k: ∀hc,t hc=true->P):P:=by
 cases i with
 |isTrue hc=>exact k hc h
 |isFalse hc=>exact ff h
noncomputable def rX(x:an)(f:Str->Bool):Bool:=if h:x.ctorIdx=23 then wO (motive_1:=fun _=>Bool) x h (fun x0 _=>f x0)else false
@[elab_as_elim] theorem pA {Q:an->Prop} {x:an} {f:Str->Bool} (h:rX x f=true) (k: ∀(x0:Str) (x1:Pos),f x0=true->Q (.Name x0 x1)):Q x:=pC h fun hc h=>wO (motive_1:=fun x=> ∀hc:x.ctorIdx=23,wO (motive_1:=fun _=>Bool) x hc (fun x0 _=>f x0)=true->Q x) x hc (fun x0 x1 _ h=>k x0 x1 h) hc h
noncomputable def ack(x:an)(f:Const->Bool):Bool:=if h:x.ctorIdx=19 then qJ (motive_1:=fun _=>Bool) x h (fun x0 _ _=>f x0)else false
@[elab_as_elim] theorem QI {Q:an->Prop} {x:an} {f:Const->Bool} (h:ack x f=true) (k: ∀(x0:Const) (x1:Nat) (x2:Pos),f x0=true->Q (.Constant x0 x1 x2)):Q x:=pC h fun hc h=>qJ (motive_1:=fun x=> ∀hc:x.ctorIdx=19,qJ (motive_1:=fun _=>Bool) x hc (fun x0 _ _=>f x0)=true->Q x) x hc (fun x0 x1 x2 _ h=>k x0 x1 x2 h) hc h
noncomputable def am9(x:an)(f:an->iu->an->Bool):Bool:=if h:x.ctorIdx=2 then uZ (motive_1:=fun _=>Bool) x h (fun x0 x1 x2 _=>f x0 x1 x2)else false
@[elab_as_elim] theorem ao7 {Q:an->Prop} {x:an} {f:an->iu->an->Bool} (h:am9 x f=true) (k: ∀(x0:an) (x1:iu) (x2:an) (x3:Pos),f x0 x1 x2=true->Q (.BinOp x0 x1 x2 x3)):Q x:=pC h fun hc h=>uZ (motive_1:=fun x=> ∀hc:x.ctorIdx=2,uZ (motive_1:=fun _=>Bool) x hc (fun x0 x1 x2 _=>f x0 x1 x2)=true->Q x) x hc (fun x0 x1 x2 x3 _ h=>k x0 x1 x2 x3 h) hc h
noncomputable def xUn(x:an)(f:RS->an->Bool):Bool:=if h:x.ctorIdx=3 then rZ (motive_1:=fun _=>Bool) x h (fun x0 x1 _=>f x0 x1)else false
@[elab_as_elim] theorem akF {Q:an->Prop} {x:an} {f:RS->an->Bool} (h:xUn x f=true) (k: ∀(x0:RS) (x1:an) (x2:Pos),f x0 x1=true->Q (.UnaryOp x0 x1 x2)):Q x:=pC h fun hc h=>rZ (motive_1:=fun x=> ∀hc:x.ctorIdx=3,rZ (motive_1:=fun _=>Bool) x hc (fun x0 x1 _=>f x0 x1)=true->Q x) x hc (fun x0 x1 x2 _ h=>k x0 x1 x2 h) hc h
noncomputable def aky(x:an)(f:cz->List an->Bool):Bool:=if h:x.ctorIdx=0 then tp (motive_1:=fun _=>Bool) x h (fun x0 x1 _=>f x0 x1)else false
@[elab_as_elim] theorem amq {Q:an->Prop} {x:an} {f:cz->List an->Bool} (h:aky x f=true) (k: ∀(x0:cz) (x1:List an) (x2:Pos),f x0 x1=true->Q (.BoolOp x0 x1 x2)):Q x:=pC h fun hc h=>tp (motive_1:=fun x=> ∀hc:x.ctorIdx=0,tp (motive_1:=fun _=>Bool) x hc (fun x0 x1 _=>f x0 x1)=true->Q x) x hc (fun x0 x1 x2 _ h=>k x0 x1 x2 h) hc h
noncomputable def xIf(x:an)(f:an->an->an->Bool):Bool:=if h:x.ctorIdx=5 then u2 (motive_1:=fun _=>Bool) x h (fun x0 x1 x2 _=>f x0 x1 x2)else false
@[elab_as_elim] theorem aqk {Q:an->Prop} {x:an} {f:an->an->an->Bool} (h:xIf x f=true) (k: ∀(x0:an) (x1:an) (x2:an) (x3:Pos),f x0 x1 x2=true->Q (.IfExp x0 x1 x2 x3)):Q x:=pC h fun hc h=>u2 (motive_1:=fun x=> ∀hc:x.ctorIdx=5,u2 (motive_1:=fun _=>Bool) x hc (fun x0 x1 x2 _=>f x0 x1 x2)=true->Q x) x hc (fun x0 x1 x2 x3 _ h=>k x0 x1 x2 x3 h) hc h
noncomputable def akz(x:an)(f:an->List gP->List an->Bool):Bool:=if h:x.ctorIdx=15 then rY (motive_1:=fun _=>Bool) x h (fun x0 x1 x2 _=>f x0 x1 x2)else false
@[elab_as_elim] theorem akA {Q:an->Prop} {x:an} {f:an->List gP->List an->Bool} (h:akz x f=true) (k: ∀(x0:an) (x1:List gP) (x2:List an) (x3:Pos),f x0 x1 x2=true->Q (.Compare x0 x1 x2 x3)):Q x:=pC h fun hc h=>rY (motive_1:=fun x=> ∀hc:x.ctorIdx=15,rY (motive_1:=fun _=>Bool) x hc (fun x0 x1 x2 _=>f x0 x1 x2)=true->Q x) x hc (fun x0 x1 x2 x3 _ h=>k x0 x1 x2 x3 h) hc h
noncomputable def QH(x:an)(f:an->Str->Pos->Bool):Bool:=if h:x.ctorIdx=20 then pE (motive_1:=fun _=>Bool) x h (fun x0 x1 x2=>f x0 x1 x2)else false
@[elab_as_elim] theorem NI {Q:an->Prop} {x:an} {f:an->Str->Pos->Bool} (h:QH x f=true) (k: ∀(x0:an) (x1:Str) (x2:Pos),f x0 x1 x2=true->Q (.Attribute x0 x1 x2)):Q x:=pC h fun hc h=>pE (motive_1:=fun x=> ∀hc:x.ctorIdx=20,pE (motive_1:=fun _=>Bool) x hc (fun x0 x1 x2=>f x0 x1 x2)=true->Q x) x hc (fun x0 x1 x2 _ h=>k x0 x1 x2 h) hc h
noncomputable def acn(x:an)(f:an->an->Bool):Bool:=if h:x.ctorIdx=21 then pF (motive_1:=fun _=>Bool) x h (fun x0 x1 _=>f x0 x1)else false
@[elab_as_elim] theorem aaR {Q:an->Prop} {x:an} {f:an->an->Bool} (h:acn x f=true) (k: ∀(x0:an) (x1:an) (x2:Pos),f x0 x1=true->Q (.Subscript x0 x1 x2)):Q x:=pC h fun hc h=>pF (motive_1:=fun x=> ∀hc:x.ctorIdx=21,pF (motive_1:=fun _=>Bool) x hc (fun x0 x1 _=>f x0 x1)=true->Q x) x hc (fun x0 x1 x2 _ h=>k x0 x1 x2 h) hc h
noncomputable def acm(x:an)(f:Option an->Option an->Option an->Bool):Bool:=if h:x.ctorIdx=26 then u4 (motive_1:=fun _=>Bool) x h (fun x0 x1 x2 _=>f x0 x1 x2)else false
@[elab_as_elim] theorem akD {Q:an->Prop} {x:an} {f:Option an->Option an->Option an->Bool} (h:acm x f=true) (k: ∀(x0:Option an) (x1:Option an) (x2:Option an) (x3:Pos),f x0 x1 x2=true->Q (.Slice x0 x1 x2 x3)):Q x:=pC h fun hc h=>u4 (motive_1:=fun x=> ∀hc:x.ctorIdx=26,u4 (motive_1:=fun _=>Bool) x hc (fun x0 x1 x2 _=>f x0 x1 x2)=true->Q x) x hc (fun x0 x1 x2 x3 _ h=>k x0 x1 x2 x3 h) hc h
noncomputable def akC(x:an)(f:List an->Bool):Bool:=if h:x.ctorIdx=24 then wN (motive_1:=fun _=>Bool) x h (fun x0 _=>f x0)else false
@[elab_as_elim] theorem amr {Q:an->Prop} {x:an} {f:List an->Bool} (h:akC x f=true) (k: ∀(x0:List an) (x1:Pos),f x0=true->Q (.List x0 x1)):Q x:=pC h fun hc h=>wN (motive_1:=fun x=> ∀hc:x.ctorIdx=24,wN (motive_1:=fun _=>Bool) x hc (fun x0 _=>f x0)=true->Q x) x hc (fun x0 x1 _ h=>k x0 x1 h) hc h
noncomputable def aco(x:an)(f:List an->Bool):Bool:=if h:x.ctorIdx=25 then jk (motive_1:=fun _=>Bool) x h (fun x0 _ _=>f x0)else false
@[elab_as_elim] theorem aaS {Q:an->Prop} {x:an} {f:List an->Bool} (h:aco x f=true) (k: ∀(x0:List an) (x1:Nat) (x2:Pos),f x0=true->Q (.Tuple x0 x1 x2)):Q x:=pC h fun hc h=>jk (motive_1:=fun x=> ∀hc:x.ctorIdx=25,jk (motive_1:=fun _=>Bool) x hc (fun x0 _ _=>f x0)=true->Q x) x hc (fun x0 x1 x2 _ h=>k x0 x1 x2 h) hc h
noncomputable def akE(x:an)(f:List an->Nat->Pos->Bool):Bool:=if h:x.ctorIdx=25 then jk (motive_1:=fun _=>Bool) x h (fun x0 x1 x2=>f x0 x1 x2)else false
@[elab_as_elim] theorem ams {Q:an->Prop} {x:an} {f:List an->Nat->Pos->Bool} (h:akE x f=true) (k: ∀(x0:List an) (x1:Nat) (x2:Pos),f x0 x1 x2=true->Q (.Tuple x0 x1 x2)):Q x:=pC h fun hc h=>jk (motive_1:=fun x=> ∀hc:x.ctorIdx=25,jk (motive_1:=fun _=>Bool) x hc (fun x0 x1 x2=>f x0 x1 x2)=true->Q x) x hc (fun x0 x1 x2 _ h=>k x0 x1 x2 h) hc h
noncomputable def aaQ(x:an)(f:List (Option an)->List an->Bool):Bool:=if h:x.ctorIdx=6 then wM (motive_1:=fun _=>Bool) x h (fun x0 x1 _=>f x0 x1)else false
@[elab_as_elim] theorem acl {Q:an->Prop} {x:an} {f:List (Option an)->List an->Bool} (h:aaQ x f=true) (k: ∀(x0:List (Option an)) (x1:List an) (x2:Pos),f x0 x1=true->Q (.Dict x0 x1 x2)):Q x:=pC h fun hc h=>wM (motive_1:=fun x=> ∀hc:x.ctorIdx=6,wM (motive_1:=fun _=>Bool) x hc (fun x0 x1 _=>f x0 x1)=true->Q x) x hc (fun x0 x1 x2 _ h=>k x0 x1 x2 h) hc h
noncomputable def VD(x:an)(f:an->List an->List td->Pos->Bool):Bool:=if h:x.ctorIdx=16 then wL (motive_1:=fun _=>Bool) x h (fun x0 x1 x2 x3=>f x0 x1 x2 x3)else false
@[elab_as_elim] theorem VE {Q:an->Prop} {x:an} {f:an->List an->List td->Pos->Bool} (h:VD x f=true) (k: ∀(x0:an) (x1:List an) (x2:List td) (x3:Pos),f x0 x1 x2 x3=true->Q (.Call x0 x1 x2 x3)):Q x:=pC h fun hc h=>wL (motive_1:=fun x=> ∀hc:x.ctorIdx=16,wL (motive_1:=fun _=>Bool) x hc (fun x0 x1 x2 x3=>f x0 x1 x2 x3)=true->Q x) x hc (fun x0 x1 x2 x3 _ h=>k x0 x1 x2 x3 h) hc h
noncomputable def aaP(x:an)(f:an->List dK->dS->Bool):Bool:=if h:x.ctorIdx=8 then qK (motive_1:=fun _=>Bool) x h (fun x0 x1 x2 _=>f x0 x1 x2)else false
@[elab_as_elim] theorem acj {Q:an->Prop} {x:an} {f:an->List dK->dS->Bool} (h:aaP x f=true) (k: ∀(x0:an) (x1:List dK) (x2:dS) (x3:Pos),f x0 x1 x2=true->Q (.ListComp x0 x1 x2 x3)):Q x:=pC h fun hc h=>qK (motive_1:=fun x=> ∀hc:x.ctorIdx=8,qK (motive_1:=fun _=>Bool) x hc (fun x0 x1 x2 _=>f x0 x1 x2)=true->Q x) x hc (fun x0 x1 x2 x3 _ h=>k x0 x1 x2 x3 h) hc h
noncomputable def ab4(x:cn)(f:an->Bool):Bool:=if h:x.ctorIdx=24 then wR (motive_2:=fun _=>Bool) x h (fun x0 _=>f x0)else false
@[elab_as_elim] theorem ai2 {Q:cn->Prop} {x:cn} {f:an->Bool} (h:ab4 x f=true) (k: ∀(x0:an) (x1:Pos),f x0=true->Q (.Expr x0 x1)):Q x:=pC h fun hc h=>wR (motive_2:=fun x=> ∀hc:x.ctorIdx=24,wR (motive_2:=fun _=>Bool) x hc (fun x0 _=>f x0)=true->Q x) x hc (fun x0 x1 _ h=>k x0 x1 h) hc h
noncomputable def Da(x:cn)(f:List an->an->Bool):Bool:=if h:x.ctorIdx=5 then tB (motive_2:=fun _=>Bool) x h (fun x0 x1 _=>f x0 x1)else false
@[elab_as_elim] theorem Et {Q:cn->Prop} {x:cn} {f:List an->an->Bool} (h:Da x f=true) (k: ∀(x0:List an) (x1:an) (x2:Pos),f x0 x1=true->Q (.Assign x0 x1 x2)):Q x:=pC h fun hc h=>tB (motive_2:=fun x=> ∀hc:x.ctorIdx=5,tB (motive_2:=fun _=>Bool) x hc (fun x0 x1 _=>f x0 x1)=true->Q x) x hc (fun x0 x1 x2 _ h=>k x0 x1 x2 h) hc h
noncomputable def am0(x:cn)(f:an->List cn->List cn->Bool):Bool:=if h:x.ctorIdx=12 then Bf (motive_2:=fun _=>Bool) x h (fun x0 x1 x2 _=>f x0 x1 x2)else false
@[elab_as_elim] theorem aoU {Q:cn->Prop} {x:cn} {f:an->List cn->List cn->Bool} (h:am0 x f=true) (k: ∀(x0:an) (x1:List cn) (x2:List cn) (x3:Pos),f x0 x1 x2=true->Q (.If x0 x1 x2 x3)):Q x:=pC h fun hc h=>Bf (motive_2:=fun x=> ∀hc:x.ctorIdx=12,Bf (motive_2:=fun _=>Bool) x hc (fun x0 x1 x2 _=>f x0 x1 x2)=true->Q x) x hc (fun x0 x1 x2 x3 _ h=>k x0 x1 x2 x3 h) hc h
noncomputable def ab5(x:cn)(f:an->List cn->List cn->Bool):Bool:=if h:x.ctorIdx=11 then vc (motive_2:=fun _=>Bool) x h (fun x0 x1 x2 _=>f x0 x1 x2)else false
@[elab_as_elim] theorem ai4 {Q:cn->Prop} {x:cn} {f:an->List cn->List cn->Bool} (h:ab5 x f=true) (k: ∀(x0:an) (x1:List cn) (x2:List cn) (x3:Pos),f x0 x1 x2=true->Q (.While x0 x1 x2 x3)):Q x:=pC h fun hc h=>vc (motive_2:=fun x=> ∀hc:x.ctorIdx=11,vc (motive_2:=fun _=>Bool) x hc (fun x0 x1 x2 _=>f x0 x1 x2)=true->Q x) x hc (fun x0 x1 x2 x3 _ h=>k x0 x1 x2 x3 h) hc h
noncomputable def ai3(x:cn)(f:an->an->List cn->List cn->Bool):Bool:=if h:x.ctorIdx=9 then zD (motive_2:=fun _=>Bool) x h (fun x0 x1 x2 x3 _=>f x0 x1 x2 x3)else false
@[elab_as_elim] theorem amc {Q:cn->Prop} {x:cn} {f:an->an->List cn->List cn->Bool} (h:ai3 x f=true) (k: ∀(x0:an) (x1:an) (x2:List cn) (x3:List cn) (x4:Pos),f x0 x1 x2 x3=true->Q (.For x0 x1 x2 x3 x4)):Q x:=pC h fun hc h=>zD (motive_2:=fun x=> ∀hc:x.ctorIdx=9,zD (motive_2:=fun _=>Bool) x hc (fun x0 x1 x2 x3 _=>f x0 x1 x2 x3)=true->Q x) x hc (fun x0 x1 x2 x3 x4 _ h=>k x0 x1 x2 x3 x4 h) hc h
noncomputable def X1(x:cn)(f:Option an->Bool):Bool:=if h:x.ctorIdx=3 then tC (motive_2:=fun _=>Bool) x h (fun x0 _=>f x0)else false
@[elab_as_elim] theorem ad3 {Q:cn->Prop} {x:cn} {f:Option an->Bool} (h:X1 x f=true) (k: ∀(x0:Option an) (x1:Pos),f x0=true->Q (.Return x0 x1)):Q x:=pC h fun hc h=>tC (motive_2:=fun x=> ∀hc:x.ctorIdx=3,tC (motive_2:=fun _=>Bool) x hc (fun x0 _=>f x0)=true->Q x) x hc (fun x0 x1 _ h=>k x0 x1 h) hc h
noncomputable def ai1(x:cn)(f:Bool):Bool:=if h:x.ctorIdx=27 then qP (motive_2:=fun _=>Bool) x h (fun _=>f)else false
@[elab_as_elim] theorem amb {Q:cn->Prop} {x:cn} {f:Bool} (h:ai1 x f=true) (k: ∀(x0:Pos),f=true->Q (.Continue x0)):Q x:=pC h fun hc h=>qP (motive_2:=fun x=> ∀hc:x.ctorIdx=27,qP (motive_2:=fun _=>Bool) x hc (fun _=>f)=true->Q x) x hc (fun x0 _ h=>k x0 h) hc h
noncomputable def abA(g:dK)(f:an->an->List an->Bool):Bool:=decide ((0:Int)=g.is_async)&&f g.target g.iter g.ifs
@[elab_as_elim] theorem Zv {Q:dK->Prop} {g:dK} {f:an->an->List an->Bool} (h:abA g f=true) (k: ∀t i fs,f t i fs=true->Q ⟨t,i,fs,0⟩):Q g:=by
 cases g with
 |mk t i fs a=>exact aE h fun h0 h=>dE (Q:=fun a=>Q ⟨t,i,fs,a⟩) h0 (k t i fs h)
structure Ck where
 e:SI->an->Bool
 b:SI->an->Bool
 l:SI->List an->Bool
 o:SI->cz->List an->Bool
 a:SI->cz->List an->Bool
 p:SI->Option an->Bool
 i:SI->List an->Bool
noncomputable def aia:List Nat:=[19,23,16,20,21,8,2,24,25]
noncomputable def PY(x:an):Bool:=S0 x.ctorIdx aia
noncomputable def no1(_:SI)(_:List an):Bool:=false
noncomputable def Ck.both(e b:SI->an->Bool):Ck:=⟨e,b,no1,fun st _ xs=>uf xs (e st),fun st _ xs=>uf xs (b st),fun st x=>Hk x (e st),fun st xs=>uf xs (b st)⟩
noncomputable def Ck.ofE(e:SI->an->Bool):Ck:=.both e fun st x=>PY x&&e st x
noncomputable def p9(f:an->Bool)(g:List an->Bool)(l:List an):Bool:=hd l fun x r=>f x&&hd r fun y r=>g (y::r)
noncomputable def s0(op:cz)(g:List an->Bool)(x:an):Bool:=aky x fun o l=>decide (op=o)&&g l
noncomputable def aad(op op':cz)(f:an->Bool)(g:List an->Bool)(l:List an):Bool:=uf l f||(decide (op=op')&&g l)
noncomputable def Ck.bool(op:cz)(a b:Ck):Ck:=
 ⟨fun st=>s0 op (p9 (a.e st) (b.o st op)),fun st=>s0 op (p9 (a.b st) (b.a st op)),no1,fun st op'=>aad op op' (s0 op (p9 (a.e st) (b.o st op))) (p9 (a.e st) (b.o st op)),fun st op'=>aad op op' (s0 op (p9 (a.b st) (b.a st op))) (p9 (a.b st) (b.a st op)),
  fun st x=>Hk x (s0 op (p9 (a.e st) (b.o st op))),fun st xs=>uf xs (s0 op (p9 (a.b st) (b.a st op)))⟩
noncomputable def cOf(a:AV)(f:Const->Bool):Bool:=match a with
 | .none=>f .none
 | .bool b=>f (.bool b)
 | .int i=>f (.int i)
 | .str l=>f (.str (aP l))
 | .bytes l=>f (.bytes l)
 |_=>false
noncomputable def Ci(a:AV)(x:an):Bool:=ack x fun c=>cOf a fun d=>decide (d=c)
structure V3 where
 glb:List Str
 fns:List Str
 mts:List Str
noncomputable def cA.nms(Γ:cA):V3:=⟨Γ.glb.map (·.1),Γ.fns.map (·.1),Γ.mts.map (·.1)⟩
noncomputable def Ad:List Str->Nat->Option Str
 |[],_=>none
 |x::_,0=>some x
 |_::r,i+1=>Ad r i
noncomputable def NB(l:List Str)(i:Nat)(x:Str):Bool:=decide (Ad l i=some x)
noncomputable def Zx(st:SI)(x:Str):Bool:=st.kind x==some .globalImplicit&& !(x==("__debug__":Str))
noncomputable def En(x:an):Bool:= !aj x.ctorIdx 7
noncomputable def Yo(x:an)(f:List Str->Bool):Bool:=rX x (fun n=>f [n])||aco x fun t=>Dv t fun a b=>rX a fun n=>rX b fun m=>f [n,m]
noncomputable def Xu(es:List an):Bool:=es.all fun e=> !i8 e
noncomputable def ZL(i:Int)(o:Option an):Bool:=Hk o fun e=>Ci (.int i) e
noncomputable def afO(k1 k2:Int)(a b:ac)(x:an):Bool:=aaQ x fun d e=>Dv d fun k k'=>Dv e fun v v'=>ZL k1 k&&(ZL k2 k'&&(Ci (.str a) v&&(Ci (.str b) v'&& !decide (k1=k2))))
noncomputable def afv:Ck:=⟨fun _ _=>false,fun _ _=>false,no1,fun _ _ _=>false,fun _ _ _=>false,fun _ x=>x.isNone,fun _ xs=>xs.isEmpty⟩
noncomputable def ano(a:AV):Ck:=.ofE fun _ x=>Ci a x
noncomputable def afC(i:Nat):Ck:=.ofE fun st x=>rX x fun y=>decide (st.at_ i=some y)
noncomputable def afp(N:V3)(g:Nat):Ck:=.ofE fun st x=>rX x fun y=>Zx st y&&NB N.glb g y
noncomputable def afm(op:iu)(a b:Ck):Ck:=.ofE fun st x=>am9 x fun l o r=>decide (op=o)&&(a.e st l&&b.e st r)
noncomputable def aft(a:Ck):Ck:=.ofE fun st x=>xUn x fun o r=>decide (.USub=o)&&a.e st r
noncomputable def afw(a:Ck):Ck:=.both (fun st x=>xUn x fun o r=>decide (.Not=o)&&a.e st r) (fun st x=>xUn x fun o r=>decide (.Not=o)&&a.b st r)
noncomputable def afr(c a b:Ck):Ck:=.ofE fun st x=>xIf x fun t l r=>c.b st t&&(a.e st l&&b.e st r)
noncomputable def Za(op:gP)(a b:an->Bool)(x:an):Bool:=akz x fun l os rs=>uf os fun o=>uf rs fun r=>decide (op=o)&&(!behindInMarks op r&&(a l&&b r))
noncomputable def afn(op:gP)(a b:Ck):Ck:=.both (fun st=>Za op (a.e st) (b.e st)) (fun st=>Za op (a.e st) (b.e st))
noncomputable def UA(op op':gP)(a b c:an->Bool)(x:an):Bool:=akz x fun l os rs=>Dv os fun o o'=>Dv rs fun r r'=>decide (op=o)&&(decide (op'=o')&&(!lastMarks [op,op'] [r,r']&&(a l&&(b r&&c r'))))
noncomputable def abc(op op':gP)(a b c:Ck):Ck:=.both (fun st=>UA op op' (a.e st) (b.e st) (c.e st)) (fun st=>UA op op' (a.e st) (b.e st) (c.e st))
noncomputable def afl(FN:List Str)(k:Nat)(a:Ck):Ck:=.ofE fun st x=>QH x fun o n _=>decide (Ad FN k=some n)&&(sU o&&a.e st o)
noncomputable def afq(a i:Ck):Ck:=.ofE fun st x=>acn x fun o j=> !PA j&&(a.e st o&&i.e st j)
noncomputable def afA(a lo hi:Ck):Ck:=.ofE fun st x=>acn x fun o j=>acm j fun l h s=>decide (none=s)&&(a.e st o&&(lo.p st l&&hi.p st h))
noncomputable def afs(l:Ck):Ck:=.ofE fun st x=>akC x fun es=>l.l st es
noncomputable def afB(l:Ck):Ck:=.ofE fun st x=>aco x fun es=>l.l st es
noncomputable def afo:Ck:=.ofE fun _ x=>aaQ x fun a b=>nl a (nl b true)
noncomputable def akU(k1 k2:Int)(a b:ac):Ck:=.ofE fun _ x=>afO k1 k2 a b x
noncomputable def afx(c:Nat)(a:Ck):Ck:=.ofE fun st x=>VD x fun f es ks p=>QH f fun o n ap=>Dv es fun v v'=>decide ("replace"=n)&&(sU o&&(decide (ap.endLine=p.line)&&nl ks (Ci (.str [c]) v&&(Ci (.str []) v'&&a.e st o))))
noncomputable def abb(N:V3)(f:Nat)(l:Ck):Ck:=.ofE fun st x=>VD x fun g es ks _=>rX g fun y=>Zx st y&&(NB N.fns f y&&nl ks (Xu es&&l.l st es))
noncomputable def abe(N:V3)(n:Nat)(o l:Ck):Ck:=.ofE fun st x=>VD x fun g es ks p=>QH g fun q y ap=>NB N.mts n y&&(sU q&&(decide (ap.endLine=p.line)&&(bp es.length 30&&nl ks (Xu es&&(o.e st q&&l.l st es)))))
noncomputable def afu:Ck:=⟨fun _ _=>true,fun _ _=>true,fun _ xs=>nl xs true,fun _ _ _=>true,fun _ _ _=>true,fun _ _=>true,fun _ _=>true⟩
noncomputable def abd(a l:Ck):Ck:=⟨fun _ _=>false,fun _ _=>false,fun st xs=>hd xs fun x r=> !i8 x&&(a.e st x&&l.l st r),fun _ _ _=>false,fun _ _ _=>false,fun _ _=>false,fun _ _=>false⟩
noncomputable def Uz(xs:ac)(it c elt:Ck):Ck:=.ofE fun st x=>aaP x fun ee gs sc=>uf gs fun g=>abA g fun tg ie fs=>Yo tg fun ts=>
 it.e st ie&&(En ie&&(Nr st sc xs ts&&(c.i (st.inner sc xs ts) fs&&elt.e (st.inner sc xs ts) ee)))
noncomputable def OW(x':Nat)(it:Ck)(y':Nat)(it2 elt:Ck):Ck:=.ofE fun st x=>aaP x fun ee gs sc=>Dv gs fun g g'=>abA g fun tg ie fs=>abA g' fun tg' ie' fs'=>rX tg fun nx=>rX tg' fun ny=>
 nl fs (nl fs' (it.e st ie&&(En ie&&(En ie'&&(Nr st sc [x',y'] [nx,ny]&&(it2.e (st.inner sc [x',y'] [nx,ny]) ie'&&elt.e (st.inner sc [x',y'] [nx,ny]) ee))))))
noncomputable def ck(FN:List Str)(N:V3)(t:T):Ck:=T.rec (motive:=fun _=>Ck) afv ano afC (afp N) (fun op _ _=>afm op) (fun _=>aft) (fun _=>afw) (fun _ _=>.bool .And) (fun _ _=>.bool .Or) (fun _ _ _=>afr) (fun op _ _=>afn op) (fun op op' _ _ _=>abc op op')
 (fun k _=>afl FN k) (fun _ _=>afq) (fun _ _ _=>afA) (fun _=>afs) (fun _=>afB) afo akU (fun c _=>afx c) (fun f _=>abb N f) (fun n _ _=>abe N n) afu (fun _ _=>abd) (fun xs _ _ _=>Uz xs) (fun x _ y _ _ a=>OW x a y) t
structure sK where
 s:SI->cn->Bool
 ss:SI->List cn->Bool
 g:SI->Bool
noncomputable def o8(st:SI)(i:Nat)(x:Str):Bool:=decide (st.at_ i=some x)&&(decide (st.kind x=some .local)||(st.own&&decide (st.kind x=some .cell)))
noncomputable def CI(st:SI):List Nat->List an->Bool
 |[],ts=>nl ts true
 |i::is,ts=>hd ts fun t r=>rX t (fun x=>o8 st i x)&&CI st is r
noncomputable def Py(t:T):Bool:=if h:t.ctorIdx=1 then T.cst.elim (motive:=fun _=>Bool) t h fun a=>(sT a (some ())).isSome else false
noncomputable def sK.one(s:SI->cn->Bool):sK:=⟨s,fun _ _=>false,fun _=>false⟩
noncomputable def afY(st:SI):Env:={scope:=⟨.function,st.names,false,false,[]⟩,locals:=0,globals:=0,cells:=[]}
noncomputable def aa7{α:Type}(m:Sem α)(f:α->Bool):Bool:=if h:m.ctorIdx=0 then zC (motive:=fun _=>Bool) m h f else false
@[elab_as_elim] theorem ae9 {α:Type} {Q:Sem α->Prop} {m:Sem α} {f:α->Bool} (h:aa7 m f=true) (k: ∀a,f a=true->Q (.pure a)):Q m:=pC h fun hc h=>zC (motive:=fun x=> ∀hc:x.ctorIdx=0,zC (motive:=fun _=>Bool) x hc f=true->Q x) m hc (fun a _ h=>k a h) hc h
noncomputable def ah5(st:SI)(is:ac)(names:List Str):Bool:=Dv is fun i j=>Dv names fun x y=>o8 st i x&&(o8 st j y&& !decide (i=j))
noncomputable def ah6(st:SI)(is:ac)(names:List Str):Bool:=Vx is fun i j l=>Vx names fun x y z=>
 o8 st i x&&(o8 st j y&&(o8 st l z&&(!decide (i=j)&&(!decide (i=l)&& !decide (j=l)))))
noncomputable def aa8(st:SI)(is:ac)(t:an)(ts:List an)(v:an):Bool:=aa7 (swappedStores [t] v (afY st)) fun o=>bm (motive:=fun _=>Bool) (bp 1 is.length&&CI st is ts) (fun names=>ah5 st is names||ah6 st is names) o
noncomputable def akV:sK:=⟨fun _ _=>true,fun _ _=>false,fun _=>false⟩
noncomputable def WP(e:Ck):sK:=.one fun st x=>ab4 x fun v=>km v&&e.e st v
noncomputable def abf(i:Nat)(e:Ck):sK:=.one fun st x=>Da x fun ts v=>uf ts fun t=>rX t fun y=>o8 st i y&&e.e st v
noncomputable def WN(is:ac)(e:Ck):sK:=.one fun st x=>Da x fun ts v=>uf ts fun t=>akE t fun q c p=>km v&&(e.e st v&&aa8 st is (.Tuple q c p) q v)
noncomputable def WL(FN:List Str)(k:Nat)(o e:Ck):sK:=.one fun st x=>Da x fun ts v=>uf ts fun t=>QH t fun q n _=>decide (Ad FN k=some n)&&(o.e st q&&e.e st v)
noncomputable def WM(o i e:Ck):sK:=.one fun st x=>Da x fun ts v=>uf ts fun t=>acn t fun q j=>o.e st q&&(i.e st j&&e.e st v)
noncomputable def afz(c:Ck)(a b:sK):sK:=.one fun st x=>am0 x fun t l r=>c.b st t&&(a.ss st l&&b.ss st r)
noncomputable def abj(c:Ck)(b:sK):sK:=.one fun st x=>ab5 x fun t l r=>nl r (c.b st t&&b.ss st l)
noncomputable def agP(st:SI)(xs:ac)(t:an):Bool:=uf xs (fun i=>rX t fun y=>o8 st i y)||aco t fun q=>bp 1 xs.length&&CI st xs q
noncomputable def abg(xs:ac)(it:Ck)(b:sK):sK:=.one fun st x=>ai3 x fun t i l r=>nl r (agP st xs t&&(En i&&(it.e st i&&b.ss st l)))
noncomputable def abi(n:Bool)(e:Ck):sK:=.one fun st x=>X1 x fun o=>bm (motive:=fun _=>Bool) n (e.e st) o
noncomputable def afy:sK:=.one fun _ x=>ai1 x true
noncomputable def abh(i:Nat):sK:=⟨fun _ _=>false,fun _ _=>false,fun st=>(st.at_ i).isSome⟩
noncomputable def akW:sK:=⟨fun _ _=>false,fun _ xs=>nl xs true,fun _=>false⟩
noncomputable def WO(a b:sK):sK:=⟨fun _ _=>false,fun st xs=>(a.g st&&b.ss st xs)||hd xs fun x r=>a.s st x&&b.ss st r,fun _=>false⟩
noncomputable def ckS(FN:List Str)(N:V3)(t:TS):sK:=TS.rec (motive:=fun _=>sK) akV (fun e=>WP (ck FN N e)) (fun i e=>abf i (ck FN N e)) (fun is e=>WN is (ck FN N e)) (fun k o e=>WL FN k (ck FN N o) (ck FN N e)) (fun o i e=>WM (ck FN N o) (ck FN N i) (ck FN N e))
 (fun c _ _=>afz (ck FN N c)) (fun c _=>abj (ck FN N c)) (fun xs it _=>abg xs (ck FN N it)) (fun e=>abi (Py e) (ck FN N e)) afy abh akW (fun _ _=>WO) t
end
end
section
open PySem.SeqAt
noncomputable section
structure gQ(X:FX)(st:SI):Prop where
 names:X.env.scope.names=st.names
 nm:X.names=st.at_
 ok:uV X
 sto:GP X
 cells: ∀n,(n,et)∈st.names\/(n,dr)∈st.names-> ∃c,X.env.cells.lookup n=some c
 own:st.own=true-> ∀n c,X.env.cells.lookup n=some c->c∈X.own
theorem gQ.kind{X:FX}{st:SI}(H:gQ X st)(x:Str):X.env.kindOf x=st.kind x:=by
 unfold Env.kindOf SI.kind;rw[H.names]
theorem j5{α:Type}[BEq α][LawfulBEq α]: ∀{l:List α},o9 l=true->l.Nodup
 |[],_=>lU
 |x::r,h=>by
  simp only[o9,cD,dX]at h
  rw[dL]
  refine⟨fun hm=> ?_,j5 h.2⟩
  rw[wP.mpr hm]at h
  exact absurd h.1 (by decide)
noncomputable def Cf(cells:List (Str×aC)):List (Str×fW)->List (Str×aC)->List (Str×aC)
 |[],acc=>acc
 |(n,kd)::r,acc=>if kd== .free then Cf cells r ((n,(cells.lookup n).getD 0)::acc)else Cf cells r acc
theorem Cg{env:Env}: ∀(names:List (Str×fW)) (acc:List (Str×aC)),(∀n,(n,dr)∈names-> ∃c,env.cells.lookup n=some c)->
  (forIn names acc fun x r=>(if x.2==dr then(do let a <- cellOf env x.1;pure (gy ((x.1,a)::r)))else pure (gy r):Sem (ForInStep (List (Str×aC)))))=pure (Cf env.cells names acc)
 |[],acc,_=>rfl
 |(n,kd)::r,acc,h=>by
  rw[gA]
  unfold Cf
  dsimp only
  split
  ·rename_i q
   have q:kd= .free:=by simpa using q
   subst q
   obtain⟨c,hc⟩:=h n ba
   have:cellOf env n=pure c:=by unfold cellOf;rw[hc]
   rw[this,pure_bind,pure_bind,hc]
   exact Cg r _ fun m hm=>h m (aQ _ hm)
  ·rw[pure_bind]
   exact Cg r _ fun m hm=>h m (aQ _ hm)
theorem xx{cells:List (Str×aC)}: ∀{names:List (Str×fW)} {acc:List (Str×aC)} {p:Str×aC},p∈Cf cells names acc->p∈acc\/((p.1,dr)∈names/\p.2=(cells.lookup p.1).getD 0)
 |[],acc,p,h=>.inl h
 |(n,kd)::r,acc,p,h=>by
  unfold Cf at h
  split at h
  ·rename_i q
   have q:kd= .free:=by simpa using q
   subst q
   rcases xx h with h|h
   ·rcases aH.mp h with e|h
    ·subst e;exact .inr ⟨ba,rfl⟩
    ·exact .inl h
   ·exact .inr ⟨aQ _ h.1,h.2⟩
  ·rcases xx h with h|h
   ·exact .inl h
   ·exact .inr ⟨aQ _ h.1,h.2⟩
theorem Kq{cells:List (Str×aC)}: ∀{names:List (Str×fW)} {acc:List (Str×aC)} {n:Str},(n,dr)∈names\/n∈acc.map (·.1)->n∈(Cf cells names acc).map (·.1)
 |[],acc,n,h=>by
  rcases h with h|h
  ·cases h
  ·exact h
 |(m,kd)::r,acc,n,h=>by
  unfold Cf
  split
  ·refine Kq ?_
   rcases h with h|h
   ·rcases aH.mp h with e|h
    ·cases e;exact .inr (by simp)
    ·exact .inl h
   ·exact .inr (by rw[bc];exact aQ _ h)
  ·rename_i q
   refine Kq ?_
   rcases h with h|h
   ·rcases aH.mp h with e|h
    ·cases e;exact absurd rfl q
    ·exact .inl h
   ·exact .inr h
theorem vB{cells:List (Str×aC)}: ∀{names:List (Str×fW)} {acc:List (Str×aC)},(names.map (·.1)).Nodup->(acc.map (·.1)).Nodup->(∀n,n∈names.map (·.1)->n∉acc.map (·.1))->((Cf cells names acc).map (·.1)).Nodup
 |[],acc,_,h,_=>h
 |(n,kd)::r,acc,h1,h2,h3=>by
  rw[bc,dL]at h1
  unfold Cf
  split
  ·refine vB h1.2 (by rw[bc,dL];exact⟨h3 n (by simp),h2⟩) fun m hm=> ?_
   rw[bc,aH,not_or]
   exact⟨fun e=>h1.1 (e▸hm),h3 m (aQ _ hm)⟩
  ·exact vB h1.2 h2 fun m hm=>h3 m (aQ _ hm)
theorem o6{α β:Type}[BEq α][LawfulBEq α]: ∀{l:List (α×β)} {n:α} {c:β},(l.map (·.1)).Nodup->(n,c)∈l->l.lookup n=some c
 |(m,d)::r,n,c,hN,h=>by
  rw[bc,dL]at hN
  rw[cO]
  rcases aH.mp h with e|h'
  ·cases e;simp
  ·have:(n==m)=false:=by
    rw[beq_eq_false_iff_ne];intro e;exact hN.1 (e▸dy.mpr ⟨_,h',rfl⟩)
   rw[this];exact o6 hN.2 h'
theorem UW{α β:Type}[BEq α][LawfulBEq α]{l:List (α×β)}{n:α}(h:n∈l.map (·.1)): ∃c,l.lookup n=some c:=by
 induction l with
 |nil=>cases h
 |cons p r ih=>
  rw[cO]
  cases q:n==p.1 with
  |true=>exact⟨_,rfl⟩
  |false=>
   rw[bc,aH]at h
   exact ih (h.resolve_left fun e=>by rw[e]at q;simp at q)
section
variable{X:FX}{k:Nat}{st:SI}
structure oK(st:SI)(scope:dS)(xs:List Nat)(ts:List Str):Prop where
 kind:scope.kind= .function
 nocell: ∀y∈scope.names,y.2≠ .cell
 locals: ∀y∈scope.names,y.2= .local->scope.names.lookup y.1=some .local
 free: ∀n,(n,dr)∈scope.names->st.kind n=some .cell\/st.kind n=some .free
 nodup:(scope.names.map (·.1)).Nodup
 tloc: ∀t∈ts,scope.names.lookup t=some .local
 tplain: ∀t∈ts,(t==("__debug__":Str)||t==("__classdict__":Str))=false
 uniq:((st.inner scope xs ts).nm.map (·.2)).Nodup
 len:xs.length=ts.length
 xnodup:xs.Nodup
 keys:(st.nm.map (·.1)).Nodup
theorem UB{scope:dS}{xs:ac}{ts:List Str}(h:Nr st scope xs ts=true):oK st scope xs ts:=by
 unfold Nr at h
 simp only[cD,bR,beq_iff_eq,bne_iff_ne,ne_eq,ow]at h
 obtain⟨⟨⟨⟨⟨⟨⟨⟨⟨h1,h2⟩,h3⟩,h4⟩,h5⟩,h6⟩,h7⟩,h8⟩,h9⟩,h10⟩:=h
 refine⟨h1,h2,fun y hy e=>(h3 y hy).resolve_left fun q=>q e,fun n hn=>(h4 _ hn).resolve_left fun q=>q rfl,j5 h5,fun t ht=>(h6 t ht).1,fun t ht=> ?_,j5 h7,h8,j5 h9,j5 h10⟩
 have:=(h6 t ht).2
 unfold zi at this
 simpa using this
abbrev OX(X:FX)(scope:dS):List (Str×aC):=Cf X.env.cells scope.names []
theorem G8(H:gQ X st){scope:dS}{xs:ac}{ts:List Str}(K:oK st scope xs ts){n:Str}(hn:(n,dr)∈scope.names): ∃c,X.env.cells.lookup n=some c:=
 H.cells n ((K.free n hn).imp dH dH)
theorem yY(H:gQ X st){scope:dS}{xs:ac}{ts:List Str}(K:oK st scope xs ts){n:Str}(hn:(n,dr)∈scope.names):(OX X scope).lookup n=X.env.cells.lookup n:=by
 have hN:=vB (cells:=X.env.cells) (acc:=[]) K.nodup lU (fun _ _ h=>by cases h)
 obtain⟨c,hc⟩:=UW (Kq (cells:=X.env.cells) (acc:=[]) (.inl hn))
 rcases xx (dH hc)with h|⟨_,h⟩
 ·cases h
 ·obtain⟨d,hd⟩:=G8 H K hn
  have h:c=(X.env.cells.lookup n).getD 0:=h
  rw[hc,hd,h,hd];rfl
theorem Mj{xs:ac}{ts:List Str}{i:Nat}{x:Str}(h:(xs.zip ts).lookup i=some x):i∈xs/\x∈ts:=by
 have:=dH h
 exact⟨(HH this).1,(HH this).2⟩
theorem Ab{α β:Type}[BEq α]{l m:List (α×β)}{x:α}:(l++m).lookup x=(l.lookup x).or (m.lookup x):=by
 induction l with
 |nil=>simp
 |cons p l ih=>
  rw[eR,cO,cO]
  split<;>simp_all
theorem SD{scope:dS}{xs:ac}{ts:List Str}(K:oK st scope xs ts){i:Nat}{x:Str}(h:(st.inner scope xs ts).at_ i=some x):((xs.zip ts).lookup i=some x/\i∈xs/\x∈ts)\/(i∉xs/\st.at_ i=some x/\scope.names.lookup x=some .free):=by
 unfold SI.at_ SI.inner at h
 rw[Ab]at h
 cases q:(xs.zip ts).lookup i with
 |some y=>rw[q]at h;cases h;exact .inl ⟨rfl,Mj q⟩
 |none=>
  rw[q,JT]at h
  have:=List.mem_filter.mp (dH h)
  simp only[cD,dX,beq_iff_eq]at this
  obtain⟨h1,h2,h3⟩:=this
  exact .inr ⟨fun hm=>(by rw[wP.mpr hm]at h2;cases h2),o6 K.keys h1,h3⟩
theorem uv(H:gQ X st){scope:dS}{xs:ac}{ts:List Str}:(relabel scope X.env).names=(st.inner scope xs ts).names:=by
 unfold relabel SI.inner
 dsimp only
 refine fP fun p hp=> ?_
 obtain⟨n,kd⟩:=p
 rw[H.ok.kind,H.kind n]
 dsimp only
 by_cases h:(kd==dr&&st.kind n==some et)=true
 ·have h':(kd==dr&&(ls==ls)&&st.kind n==some et)=true:=by simpa using h
  rw[if_pos h,if_pos h']
 ·have h': ¬(kd==dr&&(ls==ls)&&st.kind n==some et)=true:=by simpa using h
  rw[if_neg h,if_neg h']
theorem FF{scope:dS}{xs:ac}{ts:List Str}(K:oK st scope xs ts){n:Str}{kd:fW}(h:(n,kd)∈scope.names):(st.inner scope xs ts).names.lookup n=some (if(kd==dr&&st.kind n==some et)then et else kd):=by
 refine o6 ?_ (dy.mpr ⟨(n,kd),h,?_⟩)
 ·have:(st.inner scope xs ts).names.map (·.1)=scope.names.map (·.1):=by
   show(scope.names.map fun p=>if(p.2==dr&&st.kind p.1==some et)then(p.1,et)else p).map (·.1)=_
   rw[gB]
   refine fP fun p _=> ?_
   show(if _ then _ else _:Str×fW).1=p.1
   split<;>rfl
  rw[this];exact K.nodup
 ·dsimp only
  split<;>rfl
theorem O2(H:gQ X st){scope:dS}{xs:ac}{ts:List Str}(K:oK st scope xs ts):DX X scope (OX X scope) (st.inner scope xs ts).at_ xs:=by
 refine⟨?_,K.kind,K.nocell,K.locals,fun i x hx=> ?_,fun n c e=> ?_,?_,fun i x hx=> ?_⟩
 ·unfold closureFor
  have:=Cg (env:=X.env) scope.names [] fun n hn=>G8 H K hn
  rw[bind_pure]
  exact this
 ·rcases SD K hx with⟨_,h,_⟩|⟨h1,h2,h3⟩
  ·exact .inl h
  ·have hf:=dH h3
   refine .inr ⟨by rw[H.nm];exact h2,by rw[H.kind];exact K.free x hf,?_,yY H K hf⟩
   rw[uv H (xs:=xs) (ts:=ts),FF K hf]
   split
   ·exact .inl rfl
   ·exact .inr rfl
 ·have hm:=xx (dH e)
  rcases hm with h|⟨h,_⟩
  ·cases h
  ·rw[<- yY H K h];exact e
 ·have hN:=vB (cells:=X.env.cells) (acc:=[]) K.nodup lU (fun _ _ h=>by cases h)
  have hP:(OX X scope).Pairwise fun p q=>p.1≠q.1:=List.pairwise_map.mp hN
  refine hP.imp_of_mem fun{p q} hp hq hne e=>hne ?_
  have look: ∀p∈OX X scope,X.env.cells.lookup p.1=some p.2:=fun p hp=>by
   rcases xx hp with h|⟨h,_⟩
   ·cases h
   ·rw[<- yY H K h];exact o6 hN hp
  have e1:=dH (look p hp)
  have e2:=dH (look q hq)
  rw[<- e]at e2
  exact I3 H.ok.apart e1 e2
 ·rcases SD K hx with⟨_,_,h⟩|⟨h1,h2,h3⟩
  ·exact K.tplain x h
  ·exact H.ok.plain i x (by rw[H.nm];exact h2)
theorem KU{x:Str}: ∀{l:List (Nat×Str)} {i j:Nat},(l.map (·.2)).Nodup->(i,x)∈l->(j,x)∈l->i=j
 |(m,d)::r,i,j,hN,h,h'=>by
  rw[bc,dL]at hN
  rcases aH.mp h with e|h1<;>rcases aH.mp h' with e'|h2
  ·cases e;cases e';rfl
  ·cases e;exact absurd (dy.mpr ⟨_,h2,rfl⟩) hN.1
  ·cases e';exact absurd (dy.mpr ⟨_,h1,rfl⟩) hN.1
  ·exact KU hN.2 h1 h2
theorem LH(H:gQ X st){scope:dS}{xs:ac}{ts:List Str}(K:oK st scope xs ts){n:Str}{kd:fW}(h:(n,kd)∈(st.inner scope xs ts).names)(hk:kd= .cell\/kd= .free):(n,dr)∈scope.names:=by
 obtain⟨⟨m,d⟩,hm,e⟩:=dy.mp h
 dsimp only at e
 split at e
 ·rename_i q
  cases e
  simp only[cD,beq_iff_eq]at q
  rw[q.1]at hm;exact hm
 ·cases e
  rcases hk with rfl|rfl
  ·exact absurd rfl (K.nocell _ hm)
  ·exact hm
theorem adq(H:gQ X st){scope:dS}{xs:ac}{ts:List Str}(K:oK st scope xs ts){s:az}{L:aC}(hL: ∀n c,X.env.cells.lookup n=some c->c≠L):gQ (X.inner scope (OX X scope) (st.inner scope xs ts).at_ L s) (st.inner scope xs ts):=by
 have hk:(X.inner scope (OX X scope) (st.inner scope xs ts).at_ L s).env.scope.kind= .function:=K.kind
 refine⟨uv H,rfl,adp H.ok (O2 H K) hL,⟨fun i j x hi hj=> ?_,?_⟩,fun n hn=> ?_,fun h=>by cases h⟩
 ·exact KU K.uniq (dH hi) (dH hj)
 ·unfold interactive;rw[hk];rfl
 ·have hf:(n,dr)∈scope.names:=hn.elim (fun h=>LH H K h (.inl rfl)) fun h=>LH H K h (.inr rfl)
  obtain⟨c,hc⟩:=G8 H K hf
  exact⟨c,by show(OX X scope).lookup n=_;rw[yY H K hf];exact hc⟩
theorem xH(H:gQ X st){scope:dS}{xs:ac}{ts:List Str}(K:oK st scope xs ts){s:az}{L:aC}{i:Nat}{x:Str}(h:(xs.zip ts).lookup i=some x):kb (X.inner scope (OX X scope) (st.inner scope xs ts).at_ L s) i x:=by
 obtain⟨hi,hx⟩:=Mj h
 refine⟨?_,.inl ?_⟩
 ·show(st.inner scope xs ts).at_ i=some x
  unfold SI.at_ SI.inner
  rw[Ab,h];rfl
 ·show(relabel scope X.env).names.lookup x=_
  rw[uv H (xs:=xs) (ts:=ts),FF K (dH (K.tloc x hx))]
  rfl
end
end
end
section
open PySem.SeqAt
noncomputable section
noncomputable def akq(v:ah)(f:Int->Bool):Bool:=if h:v.ctorIdx=4 then wT (motive:=fun _=>Bool) v h fun i _=>f i else false
@[elab_as_elim] theorem ao4 {Q:ah->Prop} {v:ah} {f:Int->Bool} (h:akq v f=true) (k: ∀i t,f i=true->Q (.int i t)):Q v:=pC h fun hc h=>wT (motive:=fun v=> ∀hc:v.ctorIdx=4,wT (motive:=fun _=>Bool) v hc (fun i _=>f i)=true->Q v) v hc (fun i t _ h=>k i t h) hc h
noncomputable def aks(v:ah)(f:Str->Bool):Bool:=if h:v.ctorIdx=6 then wV (motive:=fun _=>Bool) v h fun i _=>f i else false
@[elab_as_elim] theorem ao5 {Q:ah->Prop} {v:ah} {f:Str->Bool} (h:aks v f=true) (k: ∀i t,f i=true->Q (.str i t)):Q v:=pC h fun hc h=>wV (motive:=fun v=> ∀hc:v.ctorIdx=6,wV (motive:=fun _=>Bool) v hc (fun i _=>f i)=true->Q v) v hc (fun i t _ h=>k i t h) hc h
noncomputable def acf(v:ah)(f:aC->Bool):Bool:=if h:v.ctorIdx=10 then wU (motive:=fun _=>Bool) v h f else false
@[elab_as_elim] theorem akr {Q:ah->Prop} {v:ah} {f:aC->Bool} (h:acf v f=true) (k: ∀i,f i=true->Q (.ref i)):Q v:=pC h fun hc h=>wU (motive:=fun v=> ∀hc:v.ctorIdx=10,wU (motive:=fun _=>Bool) v hc f=true->Q v) v hc (fun i _ h=>k i h) hc h
noncomputable def afI(d:A8)(f:Array ah->Nat->Bool):Bool:=match d with
 | .seq vs n=>f vs n
 |_=>false
@[elab_as_elim] theorem afJ {Q:A8->Prop} {d:A8} {f:Array ah->Nat->Bool} (h:afI d f=true) (k: ∀vs n,f vs n=true->Q (.seq vs n)):Q d:=by
 cases d<;>first|exact ff h|exact k _ _ h
noncomputable def UR(o:Obj)(f:List ah->Bool):Bool:=o.cls== .type "tuple" &&(o.dict.isNone&&(decide (o.slots= #[])&&afI o.data fun vs _=>f vs.toList))
@[elab_as_elim] theorem ahq {Q:Obj->Prop} {o:Obj} {f:List ah->Bool} (h:UR o f=true) (k: ∀vs n,f vs=true->Q (tb vs n)):Q o:=by
 cases o with
 |mk c d dt sl=>
  refine aE h fun h1 h=>aE h fun h2 h=>aE h fun h3 h=>afJ (Q:=fun dt=>Q ⟨c,d,dt,sl⟩) h fun vs n h=> ?_
  rw[show c=_ from beq_iff_eq.mp h1,show d=none from dA.mp h2,show sl=_ from ag h3]
  exact k vs.toList n h
section
variable{k:Nat}{C:PC}
theorem aeJ{s:Str}{l:ac}(h:dp s.cps.toList l=true):s=aP l:=by
 obtain⟨⟨m⟩⟩:=s
 rw[oa]at h
 exact congrArg aP (ag h)
mutual
noncomputable def kV(K:dQ)(v:ah)(a:AV):Bool:=match a with
 | .none=>v== .none
 | .opq=>true
 | .bool b=>v== .bool b
 | .int i=>akq v fun j=>decide (j=i)
 | .str l=>aks v fun s=>dp s.cps.toList l
 | .tup l=>acf v fun x=>Hk (K.lookup x) fun o=>UR o fun vs=>kVL K vs l
 | .glob w=>v==w
 |_=>false
noncomputable def kVL(K:dQ)(vs:List ah)(l:aa):Bool:=match l with
 |[]=>nl vs true
 |a::l=>hd vs fun v r=>kV K v a&&kVL K r l
end
def ImK(C:PC)(W:Wd):Prop:= ∀x o,C.K.lookup x=some o->W.im x=some o
theorem cu.imK{W:Wd}{σ:AS}{h:bH}(R:cu C W σ h):ImK C W:=fun x o e=>R.base _ _ (C.inK _ _ e)
theorem LV{α:Type}{P:Prop}{o:Option α}{f:α->Bool}(h:Hk o f=true)(k: ∀a,o=some a->f a=true->P):P:=by
 cases o with
 |some a=>exact k a rfl h
 |none=>exact ff h
mutual
theorem SP{W:Wd}(hW:ImK C W): ∀{a:AV} {v:ah},kV C.K v a=true->V C W a v
 | .none,v,h=>beq_iff_eq.mp (show(v== .none)=true from h)
 | .opq,v,h=>trivial
 | .bool b,v,h=>beq_iff_eq.mp (show(v== .bool b)=true from h)
 | .int i,v,h=>ao4 (show akq v (fun j=>decide (j=i))=true from h) fun j t h=>⟨t,(ag h)▸rfl⟩
 | .str l,v,h=>ao5 (show aks v (fun s=>dp s.cps.toList l)=true from h) fun j t h=>⟨t,congrArg (fun x=>fZ x t) (aeJ h)⟩
 | .tup l,v,h=>akr (show acf v (fun x=>Hk (C.K.lookup x) fun o=>UR o fun vs=>kVL C.K vs l)=true from h) fun x h=>LV h fun o ho h=>ahq (Q:=fun o=>C.K.lookup x=some o->V C W (.tup l) (.ref x)) h (fun vs n h ho=>⟨x,n,vs,rfl,hW _ _ ho,He hW h⟩) ho
 | .glob w,v,h=>(beq_iff_eq.mp (show(v==w)=true from h))
 | .unb,v,h=>ff h
 | .bytes _,v,h=>ff h
 | .lst _,v,h=>ff h
 | .frz _ _ _,v,h=>ff h
 | .dct _ _,v,h=>ff h
 | .dcti _ _,v,h=>ff h
 | .rng _ _,v,h=>ff h
 | .ref _,v,h=>ff h
theorem He{W:Wd}(hW:ImK C W): ∀{l:aa} {vs:List ah},kVL C.K vs l=true->VL C W l vs
 |[],vs,h=>IY (show nl vs true=true from h) fun _=>VL.nil
 |a::l,vs,h=>UO (show hd vs (fun v r=>kV C.K v a&&kVL C.K r l)=true from h) fun v r h=>aE h fun h1 h2=>VL.cons (SP hW h1) (He hW h2)
end
noncomputable def afN(K:dQ)(dfl:aa)(v:ah):Bool:=bq (motive:=fun _=>Bool) (v== .none) (fun _ _ _=>acf v fun x=>Hk (K.lookup x) fun o=>afI o.data fun vs _=>kVL K vs.toList dfl) dfl
theorem Zj{dfl:aa}{v:ah}(h:afN C.K dfl v=true){W:Wd}{σ:AS}{s:az}(R:cu C W σ s.heap): ∃d:Option (Array ah),VL C W dfl (d.getD #[]).toList/\
  ∀(M:kW) (A:bW) (E:ah->az->Prop) (Q:Option (Array ah)->az->Prop),Q d s->wpAny M A (seqItems? v) Q E s:=by
 cases dfl with
 |nil=>exact⟨none,VL.nil,Xs (beq_iff_eq.mp (show(v== .none)=true from h))⟩
 |cons a l=>
  exact akr h fun x h=>LV h fun o ho h=>afJ (d:=o.data) (Q:=fun d'=>o.data=d'-> ∃d:Option (Array ah),VL C W (a::l) (d.getD #[]).toList/\ ∀(M:kW) (A:bW) (E:ah->az->Prop) (Q:Option (Array ah)->az->Prop),Q d s->wpAny M A (seqItems? (.ref x)) Q E s) h
   (fun vs n h hd=>⟨some vs,He R.imK h,fun M A E Q hq=>wpAny_seqItems (R.K _ _ ho) hd hq⟩) rfl
end
end
end
section
open PySem.SeqAt
noncomputable section
section
variable{k:Nat}{C:PC}
theorem cu.ns{W:Wd}{σ:AS}{h:bH}(R:cu C W σ h):h.Ns mainGlobals C.mg/\h.Ns builtinsNs C.mb:=
 ⟨C.g.keeps fun b o e=>R.im _ _ (R.base _ _ e),C.b.keeps fun b o e=>R.im _ _ (R.base _ _ e)⟩
theorem lN{x:Str}{a:AV}{v:ah}(hm:C.mg x=some v)(hv: ∀W,ImK C W->V C W a v):na C x a:=fun M A E env W σ s Q hg hb R h=>
 loadGlobal_global (by rw[hg];exact R.ns.1) hm (h v (hv W R.imK))
theorem To{x:Str}{v:ah}(hm:C.mg x=none)(hn:x≠ "__name__")(hv:bootBuiltins x=some v):na C x (.glob v):=fun M A E env W σ s Q hg hb R h=>
 loadGlobal_builtin (by rw[hg];exact R.ns.1) hm (by rw[hb];exact R.ns.2) (by rw[C.boot x hn];exact hv) (h v rfl)
theorem eH.under{A:bW}(R:eH A (k+1)){c:aC}{v:List ah}{kw:List (Str×ah)}:eH (A.under (.builtin "type.__call__" ⟨.ref c::v,kw⟩)) k:=by
 have h1:(tn "type.__call__" ⟨.ref c::v,kw⟩).weight=1:=by first|rfl|kernel_rfl
 have h2:(tn "type.__call__" ⟨.ref c::v,kw⟩).cUnits=1:=by first|rfl|kernel_rfl
 have:=R.depth
 have:=R.units
 exact⟨R.handled,by show A.depth+(tn "type.__call__" ⟨.ref c::v,kw⟩).weight +k<_;omega,by show A.units+(tn "type.__call__" ⟨.ref c::v,kw⟩).cUnits +4*k<_;omega⟩
theorem aee{c fI:aC}{F:aW}(hm:makesIn C.K c=true)(hi:findIn C.K (.ref c) "__init__"=some (some (.ref fI)))(hf:typeIn C.K (.ref fI)=some (.type "function"))(hc:C.cls c=true)(hF:pK C k (.ref fI) F):aF C (k+1) (.ref c) (ud c F):=fun A Rm W σ s args vs R hv tk a ai e=>by
 refine fG (show bu (F (.ref σ.next::args) (σ.alloc (.inst c [] []))) _=_ from e) fun xr ay q e=> ?_
 revert q
 refine Cb (Q:=fun xr=>F (.ref σ.next::args) (σ.alloc (.inst c [] []))=some (xr,ay)->_) e fun e q=> ?_
 apply s2 e
 ·refine oH ?_
  obtain⟨hh,g,d,t,os⟩:=s
  have X:=R.K
  refine make_core (makes_of X hm) (tE X hi) (fun self=>bind_fn X self hf) (.inl rfl) ?_
  have k1: ∀b o,hh.get? b=some o->((hh.push emptyDict).push (instObj c hh.objs.size)).get? b=some o:=fun b o e=>bz _ (bz _ e)
  have gd:((hh.push emptyDict).push (instObj c hh.objs.size)).get? hh.objs.size=some (dictOf [] 0):=bz _ (bg _ rfl)
  have gx:((hh.push emptyDict).push (instObj c hh.objs.size)).get? (hh.objs.size+1)=some (instObj c hh.objs.size):=by
   have:=bg (hh.push emptyDict) (o:=instObj c hh.objs.size) rfl
   rwa[pQ]at this
  have R1:cu C W σ ((hh.push emptyDict).push (instObj c hh.objs.size)):=R.keeps k1
  have R2:=R1.addIm (x:=hh.objs.size+1) gx (R.pr_new (cJ _)) (R.cell_new (cJ _))
  have le1:W.le (W.addIm (hh.objs.size+1) (instObj c hh.objs.size)):=Wd.le_addIm fun o' e=>by rw[R.im_new (cJ _)]at e;cases e
  have le2:(W.addIm (hh.objs.size+1) (instObj c hh.objs.size)).le ((W.addIm (hh.objs.size+1) (instObj c hh.objs.size)).addId σ.next (hh.objs.size+1,hh.objs.size)):=Wd.le_addId (R2.fresh _ (ax _))
  have R3:=R2.alloc (c:=.inst c [] []) (p:=(hh.objs.size+1,hh.objs.size)) ⟨hc,mh,[],0,[],gd,VL.nil,trivial⟩
   (by
    show(if hh.objs.size=hh.objs.size+1 then _ else W.im hh.objs.size)=none
    rw[if_neg (ci (bL _))];exact R.im_new (ax _)) (R.pr_new (ax _)) (R.cell_new (ax _))
  have hv':=VL.cons (qU (C:=C) (W:=W.addIm (hh.objs.size+1) (instObj c hh.objs.size)) (n:=σ.next) (p:=(hh.objs.size+1,hh.objs.size))) (hv.mono (le1.trans le2))
  refine NY (hF _ Rm.under _ _ ⟨(hh.push emptyDict).push (instObj c hh.objs.size),g,d,t,os⟩ _ _ R3 hv' tk _ _ q) fun r s' z=> ?_
  match r,z with
  | .ok (.ret v),z=>
   obtain⟨⟨se,akl,hs,anW⟩,W',l',R',hq⟩:=z
   obtain rfl:v= .none:=hq
   exact⟨rfl,⟨se,akl,hs,anW⟩,W',(le1.trans le2).trans l',R',_,l'.1 _ _ (if_pos rfl),rfl⟩
  | .error e,z=>exact z.elim
end
end
end
section
open PySem.SeqAt
noncomputable section
section
variable{k:Nat}{C:PC}
theorem aF.le{k':Nat}{f:ah}{F:aW}(h:aF C k f F)(hk:k<=k'):aF C k' f F:=fun A R=>h A (R.le hk)
theorem dW.le{k':Nat}{x:Str}{D:gK}(h:dW C k x D)(hk:k<=k'):dW C k' x D:=fun W σ hh a v F R hv e=>let⟨f,h1,h2,h3⟩:=h W σ hh a v F R hv e;⟨f,h1,h2,h3.le hk⟩
theorem dg{x:Str}:dW C k x gH:=fun W σ h a v F R hv e=>by cases e
theorem SR{x:Str}{ks:ac}{vs:List ah}{es:List g9}(hx: ∀i∈ks,i<C.nf->C.fname i≠x)(q:oM C ks vs es):getL x es=some none:=by
 have h1:es.find? (·.key.isStr x)=none:=by
  rw[List.find?_eq_none]
  intro e he
  induction es generalizing ks vs with
  |nil=>cases he
  |cons en es ih=>
   cases ks with
   |nil=>cases vs<;>exact TC q
   |cons kk ks=>cases vs with
    |nil=>exact TC q
    |cons v vs=>
     obtain⟨hk,⟨t,ht⟩,_,q⟩:=q
     rcases aH.mp he with rfl|he
     ·rw[ht];simp[qq,hx kk (ba ..) hk]
     ·exact ih (fun i hi=>hx i (aQ _ hi)) q he
 unfold getL
 rw[h1,if_neg]
 intro h
 obtain⟨e,he,h⟩:=j7.mp h
 rw[(Hf q).1 e he]at h;cases h
theorem Y9{W:Wd}{σ:AS}{h:bH}(R:cu C W σ h){c:Nat}(hcl:C.cls c=true){a:AV}{v:ah}(hv:V C W a v)(hd:Fy a σ=some c): ∃ks fs,N6 C W h v c ks fs:=by
 cases a with
 |frz d ks fs=>cases hd;exact⟨ks,fs,Sx R hv⟩
 |ref y=>
  refine oE (show ob (σ.get y) WK=some c from hd) fun cc hc hd=> ?_
  cases cc with
  |inst d ks fs=>cases hd;exact⟨ks,fs,Td R hc hv⟩
  |orc d l=>cases hd;exact aiS R hc hcl hv
  |_=>exact nn hd
 |_=>exact nn hd
theorem aeb{x:Str}{c f:aC}{F:aW}{G:gK}(hcl:C.cls c=true)(hx: ∀i,i<C.nf->C.fname i≠x)(hg:plainGet C.K c x=true)(hf:findIn C.K (.ref c) x=some (some (.ref f)))(ht:typeIn C.K (.ref f)=some (.type "function"))(hk:keepIn C.K (.ref f)=true)
  (hF:aF C k (.ref f) F)(hG:dW C k x G):dW C k x (fb c F G):=fun W σ h a v F' R hv e=>by
 refine oE (show ob (Fy a σ) _=_ from e) fun d hd e=>bE e (fun z e=> ?_) fun z e=>hG W σ h _ v F' R hv e
 apply s1 e
 have z:c=d:=aD z
 obtain⟨ks,fs,I⟩:=Y9 R hcl hv (z▸hd)
 obtain⟨y,d,es,n,vs,hy,q0,q1,q2,r,z⟩:=I.at_
 refine⟨.ref f,fun A s pl E Q hs hq=> ?_,q6 hk,hF⟩
 subst hs;subst hy
 exact method_fn R.K (I:=(⟨q1,rfl,rfl,q2⟩:InstAt s.heap y (instObj c d) c (some (dictOf es n)))) (qr hg).1 (qr hg).2 hf ht (by show(lookIn x (dictOf es n)).map _=_;rw[lookIn_dict,SR (fun i _=>hx i) z];rfl) hq
end
end
end
section
open PySem.SeqAt
noncomputable section
section
variable{k:Nat}{C:PC}{W:Wd}{σ:AS}{s:az}{h':bH}
def Sm0(s s':az):Prop:= ∃h t,s'={s with heap:=h,toks:=t}
def ry(C:PC)(W:Wd)(ai:AS)(a:AV)(s:az)(v:ah)(s':az):Prop:=Sm0 s s'/\ ∃W',W.le W'/\cu C W' ai s'.heap/\V C W' a v
theorem Jj{f:ah}{F:aW}(h: ∀A,eH A k-> ∀W σ s args vs,cu C W σ s.heap->VL C W args vs->1<=s.toks-> ∀a ai,F args σ=some (a,ai)->wpAny (dC C) A (call f vs) (ry C W ai a s) dm s):aF C k f F:=
 fun A R W σ s args vs Re hv tk a ai e=>VC (ax s.toks) (ek (h A R W σ s args vs Re hv tk a ai e) fun v s' ⟨⟨h',t',q⟩,z⟩ ht=>⟨⟨h',t',q,by rw[q]at ht;exact ht⟩,z⟩)
theorem cu.same(R:cu C W σ s.heap){a:AV}{v:ah}(q:V C W a v)(t:Nat):ry C W σ a s v {s with toks:=t}:=⟨⟨s.heap,t,rfl⟩,W,.refl _,R,q⟩
theorem cu.grown(R:cu C W σ s.heap){a:AV}{v:ah}(q:V C W a v)(hk: ∀b o,s.heap.get? b=some o->h'.get? b=some o)(t:Nat):ry C W σ a s v {s with heap:=h',toks:=t}:=⟨⟨h',t,rfl⟩,W,.refl _,R.keeps hk,q⟩
theorem cu.free(R:cu C W σ s.heap){x:aC}(hx:s.heap.get? x=none):W.im x=none/\W.pr x=none/\sN W σ x:=by
 refine⟨?_,?_,fun a cc p e e' q=> ?_⟩
 ·cases e:W.im x with
  |none=>rfl
  |some o=>have:=R.im _ _ e;rw[hx]at this;cases this
 ·cases e:W.pr x with
  |none=>rfl
  |some o=>have:=R.pr _ _ e;rw[hx]at this;cases this
 ·obtain⟨p',a1,a2,_⟩:=R.cell a cc e
  rw[e']at a1;cases a1
  obtain⟨o,ho⟩:=a2.some
  rw[q,hx]at ho;cases ho
theorem tj(h:bH):h.get? h.objs.size=none:=by
 cases e:h.get? h.objs.size with
 |none=>rfl
 |some o=>exact absurd (co e) (zB _)
theorem cu.newIm(R:cu C W σ s.heap)(a:AV){x:aC}{o:Obj}(hk: ∀b o,s.heap.get? b=some o->h'.get? b=some o)(hx:s.heap.get? x=none)(ho:h'.get? x=some o)(q: ∀W',W.le W'->W'.im x=some o->V C W' a (.ref x))(t:Nat):ry C W σ a s (.ref x) {s with heap:=h',toks:=t}:=by
 obtain⟨f1,f2,f3⟩:=R.free hx
 have R':=(R.keeps hk).addIm ho f2 f3
 have le:W.le (W.addIm x o):=Wd.le_addIm fun o' e=>by rw[f1]at e;cases e
 exact⟨⟨h',t,rfl⟩,_,le,R',q _ le mh⟩
theorem cu.newLst(R:cu C W σ s.heap){l:aa}{vs:List ah}{n:Nat}{x:aC}(hk: ∀b o,s.heap.get? b=some o->h'.get? b=some o)(hx:s.heap.get? x=none)(ho:h'.get? x=some (dw vs n))(q:VL C W l vs)(t:Nat):
  ry C W (σ.alloc (.lst l)) (.ref σ.next) s (.ref x) {s with heap:=h',toks:=t}:=by
 obtain⟨f1,f2,f3⟩:=R.free hx
 have le:W.le (W.addId σ.next (x,x)):=Wd.le_addId (R.fresh _ (ax _))
 exact⟨⟨h',t,rfl⟩,_,le,(R.keeps hk).alloc (p:=(x,x)) ⟨rfl,vs,n,ho,q.mono le⟩ f1 f2 f3,qU⟩
theorem Ca{i:Int}{t:Tok}:V C W (.int i) (.int i t):=⟨t,rfl⟩
theorem GO{l:ac}{t:Tok}:V C W (.str l) (.str (aP l) t):=⟨t,rfl⟩
theorem KP{f:ah}:aF C k f TW:=Jj fun A R W σ s args vs Re hv tk a ai e=>by cases e
theorem aab{n:Nat}(h:dv n=true):(n:Int)<2^63:=by
 have:=jJ h
 omega
@[elab_as_elim] theorem Up {β:Type} {Q:List AV->Prop} {l:aa} {f:AV->Option β} {r:β} (h:qV l f=some r) (kk: ∀a,f a=some r->Q [a]):Q l:=by
 cases l with
 |nil=>exact nn h
 |cons a l=>cases l with
  |nil=>exact kk a h
  |cons b l=>exact nn h
@[elab_as_elim] theorem Kl {β:Type} {Q:List AV->Prop} {l:aa} {f:AV->AV->Option β} {r:β} (h:vy l f=some r) (kk: ∀a b,f a b=some r->Q [a,b]):Q l:=by
 cases l with
 |nil=>exact nn h
 |cons a l=>exact Up (Q:=fun l=>Q (a::l)) h fun b h=>kk a b h
@[elab_as_elim] theorem YY {β:Type} {Q:List AV->Prop} {l:aa} {f:AV->AV->AV->Option β} {r:β} (h:Wx l f=some r) (kk: ∀a b c,f a b c=some r->Q [a,b,c]):Q l:=by
 cases l with
 |nil=>exact nn h
 |cons a l=>exact Kl (Q:=fun l=>Q (a::l)) h fun b c h=>kk a b c h
theorem rW{f:ah}{G:AS->AV->Option (AV×AS)}(h: ∀A,eH A k-> ∀W σ s a v,cu C W σ s.heap->V C W a v->1<=s.toks-> ∀r ai,G σ a=some (r,ai)->wpAny (dC C) A (call f [v]) (ry C W ai r s) dm s):aF C k f (fun args σ=>qV args (G σ)):=
 Jj fun A R W σ s args vs Re hv tk r ai e=>Up (Q:=fun args=>VL C W args vs->_) e (fun a e hv=>hv.consE fun v l q hv=>hv.nilE (h A R W σ s a v Re q tk r ai e)) hv
theorem Hr{f:ah}{G:AS->AV->AV->Option (AV×AS)}(h: ∀A,eH A k-> ∀W σ s a b v w,cu C W σ s.heap->V C W a v->V C W b w->1<=s.toks-> ∀r ai,G σ a b=some (r,ai)->wpAny (dC C) A (call f [v,w]) (ry C W ai r s) dm s):aF C k f (fun args σ=>vy args (G σ)):=
 Jj fun A R W σ s args vs Re hv tk r ai e=>Kl (Q:=fun args=>VL C W args vs->_) e (fun a b e hv=>hv.consE fun v l q hv=>hv.consE fun w l q' hv=>hv.nilE (h A R W σ s a b v w Re q q' tk r ai e)) hv
theorem aoX{f:ah}{G:AS->AV->AV->AV->Option (AV×AS)}(h: ∀A,eH A k-> ∀W σ s a b d v w u,cu C W σ s.heap->V C W a v->V C W b w->V C W d u->1<=s.toks-> ∀r ai,G σ a b d=some (r,ai)->wpAny (dC C) A (call f [v,w,u]) (ry C W ai r s) dm s):aF C k f (fun args σ=>Wx args (G σ)):=
 Jj fun A R W σ s args vs Re hv tk r ai e=>YY (Q:=fun args=>VL C W args vs->_) e (fun a b d e hv=>hv.consE fun v l q hv=>hv.consE fun w l q' hv=>hv.consE fun u l q'' hv=>hv.nilE (h A R W σ s a b d v w u Re q q' q'' tk r ai e)) hv
theorem alv{P:Prop}{a:AV}{p:AV×AS}(h:amQ σ a=some p)(k1: ∀s,a= .str s->(bif dv (eP s)then some (AV.int (am (eP s)),σ)else none)=some p->P)(k2:(ob (nw σ a) fun l=>bif dv (eP l)then some (AV.int (am (eP l)),σ)else none)=some p->P):P:=by
 cases a with
 |str s=>exact k1 s rfl h
 |_=>exact k2 h
theorem eE:aF C k (.builtin "len") eN:=rW fun A R W σ s a v Re q tk r ai e=>alv e (fun x ha e=>kS e fun z e=>by
  rw[ib]at z e
  apply s2 e
  rw[ha]at q
  refine q.strE fun t=>TI (by rw[bI];exact Int.not_le.mpr (aab z)) ?_
  rw[bI]
  exact Re.same Ca _) fun e=>oE e fun l hl e=>kS e fun z e=>by
  rw[ib]at z e
  apply s2 e
  refine Hc Re hl q fun x ws hw hx=> ?_
  have h3:ws.toArray.size=l.length:=by rw[aZ];exact hw.length
  rcases hx with hx|hx
  ·refine Nj hx (by rw[h3];exact aab z) ?_
   rw[h3];exact Re.same Ca _
  ·refine QX hx (by rw[h3];exact aab z) ?_
   rw[h3];exact Re.same Ca _
theorem Qj{n:Nat}(z:bp n 100000=true):n<2^20:=eV (cX.mp z) (by decide)
theorem Vm:aF C k (.type "range") RU:=rW fun A R W σ s a v Re q tk r ai e=>mc (Q:=fun a=>V C W a v->_) e (fun n e q=>q.intE fun t=>kS e fun z e=>by
  apply s2 e
  exact call_range_1 (Re.newIm (.rng 0 n) (ef _ _) (tj _) (bg _ rfl) (fun W' _ e=>⟨_,_,_,_,rfl,e,by decide,Qj z⟩) _)) q
theorem Vn:aF C k (.type "range") RV:=Hr fun A R W σ s a b v w Re q q' tk r ai e=>mc (Q:=fun a=>V C W a v->_) e (fun n e q=>mc (Q:=fun b=>V C W b w->_) e (fun m e q'=>q.intE fun t=>q'.intE fun u=>kS e fun z e=>aE z fun z1 z2=>by
  apply s2 e
  exact call_range_2 (Re.newIm (.rng n m) (ef _ _) (tj _) (bg _ rfl) (fun W' _ e=>⟨_,_,_,_,rfl,e,Qj z1,Qj z2⟩) _)) q') q
theorem vQ:aF C k (.type "range") lx:=fun A Rm W σ s args vs R hv tk a ai e=>bE e (fun _ e=>Vm A Rm W σ s args vs R hv tk a ai e) fun _ e=>Vn A Rm W σ s args vs R hv tk a ai e
theorem alt{Q:AV->Prop}{a:AV}(h:Cy a=true)(kk: ∀l,Q (.tup l)):Q a:=by
 cases a<;>first|exact ff h|exact kk _
theorem om:aF C k (.type "tuple") eY:=rW fun A R W σ s a v Re q tk r ai e=>bE e (fun z e=>s2 (P:=fun r ai=>wpAny (dC C) A (call (.type "tuple") [v]) (ry C W ai r s) dm s) e (alt (Q:=fun a=>V C W a v->wpAny (dC C) A (call (.type "tuple") [v]) (ry C W σ a s) dm s) z (fun l q=>by
  exact V.tupE (Q:=fun v=>V C W (.tup l) v->wpAny (dC C) A (call (.type "tuple") [v]) (ry C W σ (.tup l) s) dm s) q (fun x n ws h1 h2 q'=>call_tuple_same (items:=ws.toArray) ⟨_,Re.im _ _ h1,rfl,n,rfl⟩ (Re.same q' _)) q) q)) fun _ e=>oE e fun l hl e=>kS e fun z e=>by
  apply s2 e
  refine ng Re hl q fun x n ws hx hw=> ?_
  refine call_tuple_list (lI hx) (fun h' hk=> ?_) (by rw[aZ,hw.length];exact iR z)
  refine Re.newIm (s:=s) (.tup l) (h':=h'.push {cls:=.type "tuple",data:=.seq ws.toArray}) (o:=tb ws 0) (fun b o e=>ef _ _ _ _ (hk b o e)) (by
    cases e:s.heap.get? h'.objs.size with
    |none=>rfl
    |some o=>exact absurd (co (hk _ _ e)) (zB _)) (bg _ rfl) (fun W' le e=>⟨_,0,ws,rfl,e,hw.mono le⟩) _
theorem aar:aF C k (.type "list") aaZ:=rW fun A R W σ s a v Re q tk r ai e=>oE e fun l hl e=>kS e fun z e=>by
  apply s2 e
  refine Hd Re hl q fun x n ws hw hx=> ?_
  have h2:ws.toArray.size<=sizeLine:=by rw[aZ,hw.length];exact iR z
  rcases hx with hx|hx
  ·exact Ms x (.inl rfl) hx rfl rfl (fun h' c' hk ho=>Re.newLst hk (tj _) ho hw _) h2
  ·exact Ms x (.inr rfl) hx rfl rfl (fun h' c' hk ho=>Re.newLst hk (tj _) ho hw _) h2
theorem akP{i:Int}:(if i<0 then-i else i)=am i.natAbs:=by
 cases i with
 |ofNat n=>exact if_neg (sF.mpr (de n))
 |negSucc n=>exact if_pos (pG n)
theorem Tj:aF C k (.builtin "abs") YG:=rW fun A R W σ s a v Re q tk r ai e=>lb (Q:=fun a=>V C W a v->_) e (fun i e q=>q.intE fun t=>by
  apply s2 e
  refine call_abs_int fun u tk=> ?_
  rw[akP];exact Re.same Ca _) q
theorem akT{n:Nat}(z:bp n 0xD800=true):(decide ((n:Int)<0)||decide ((n:Int)>1114111))=false:=by
 have:=cX.mp z
 rw[decide_eq_false (by omega),decide_eq_false (by omega)];rfl
theorem Tk:aF C k (.builtin "chr") YH:=rW fun A R W σ s a v Re q tk r ai e=>mc (Q:=fun a=>V C W a v->_) e (fun n e q=>q.intE fun t=>kS e fun z e=>by
  apply s2 e
  exact PySem.P.chr_of_int (akT z) (Re.same (GO (l:=[n])) _)) q
@[elab_as_elim] theorem WA {β:Type} {Q:AV->Prop} {a:AV} {f:Nat->Option β} {r:β} (h:Uq a f=some r) (kk: ∀c,f c=some r->Q (.str [c])):Q a:=fJ h fun s h=>by
 cases s with
 |nil=>exact nn h
 |cons c l=>cases l with
  |nil=>exact kk c h
  |cons=>exact nn h
@[elab_as_elim] theorem OQ {β:Type} {Q:AV->Prop} {a:AV} {f:Nat->List Nat->Option β} {r:β} (h:Nq a f=some r) (kk: ∀c l,f c l=some r->Q (.str (c::l))):Q a:=fJ h fun s h=>by
 cases s with
 |nil=>exact nn h
 |cons c l=>exact kk c l h
theorem Tl:aF C k (.builtin "ord") YI:=rW fun A R W σ s a v Re q tk r ai e=>WA (Q:=fun a=>V C W a v->_) e (fun i e q=>q.strE fun t=>by
  apply s2 e
  exact PySem.P.ord_of_char (Re.same Ca _)) q
theorem alG{i j:Int}{t u:Tok}:(if j<i then Bg j u else .int i t)= .int (bif CF j i then j else i) (if j<i then u else t):=by
 rw[xK]
 by_cases q:j<i
 ·rw[if_pos q,if_pos q,decide_eq_true q];rfl
 ·rw[if_neg q,if_neg q,decide_eq_false q];rfl
theorem aeh:aF C k (.builtin "min") TX:=Hr fun A R W σ s a b v w Re q q' tk r ai e=>lb (Q:=fun a=>V C W a v->_) e (fun i e q=>lb (Q:=fun b=>V C W b w->_) e (fun j e q'=>q.intE fun t=>q'.intE fun u=>by
  apply s2 e
  refine min_two_ints R.handled fun h' tk hk=> ?_
  rw[alG];exact Re.grown Ca hk _) q') q
theorem Vk:aF C k (.builtin "list.append") f8:=Hr fun A R W σ s a b v w Re q q' tk r ai e=>ip (Q:=fun a=>V C W a v->_) e (fun x e q=>lstE e fun l hg e=>kS e fun z e=>by
  apply s2 e
  refine Re.lstE hg q fun p us n q1 q0 q2 r=> ?_
  refine uT (items:=us.toArray) ⟨n,q2⟩ (fun h' hp hs=> ?_) (by rw[aZ,r.length];exact iR z)
  obtain⟨n',hg'⟩:=hp
  rw[EI]at hg'
  exact⟨⟨h',s.toks,rfl⟩,W,.refl _,Re.set (c:=.lst _) hg q1 (fun b o hb e=>hs.extBut b o (q0▸hb) e) ⟨q0,_,_,q0▸hg',r.append (VL.one q')⟩,rfl⟩) q
end
end
end
section
open PySem.SeqAt
noncomputable section
section
variable{k:Nat}{C:PC}{W:Wd}{σ:AS}{s:az}{h':bH}
theorem Tx{h:bH}{l:aC}{vs ws:List ah}{n:Nat}{f:Array ah->Array ah}(hl:h.get? l=some (dw vs n))(hf:f vs.toArray=ws.toArray): ∃n',(h.update l (HL f)).get? l=some (dw ws n'):=by
 have q:=YE (h:=h) (l:=l) (items:=vs.toArray) (n:=n) hl f
 rw[hf]at q
 exact⟨_,q⟩
theorem VL.last{l:aa}{us:List ah}{y:AV}(q:VL C W l us)(h:l.getLast?=some y): ∃v,us=us.dropLast++[v]/\V C W y v/\VL C W l.dropLast us.dropLast:=by
 have hne:l≠[]:=by rintro rfl;cases h
 have hl:0<l.length:=List.length_pos_iff.mpr hne
 rw[sH]at h
 obtain⟨v,e,q'⟩:=q.get h
 have hu:=q.length
 refine⟨v,?_,q',?_⟩
 ·have hne':us≠[]:=by rintro rfl;simp at hu;omega
  have e2:us.getLast hne'=v:=by
   have:us.getLast?=some v:=by rw[sH,hu];exact e
   rw[List.getLast?_eq_some_getLast hne']at this;exact aG this
  rw[<- e2];exact(List.dropLast_concat_getLast hne').symm
 ·rw[wQ,wQ,hu];exact q.take _
theorem aib{A:bW}{x:aC}{us:List ah}{v:ah}{n:Nat}{Q:ah->az->Prop}(e1:us=us.dropLast++[v])(g:s.heap.get? x=some (dw us n))(hz:us.length<=sizeLine)
  (h: ∀h' n',h'.get? x=some (dw us.dropLast n')->iV x s.heap h'->Q v {s with heap:=h'}):wpAny (dC C) A (call (.builtin "list.pop") [.ref x]) Q dm s:=by
 have hk:us.toArray.size-1=us.dropLast.length:=by rw[aZ,List.length_dropLast]
 have hy':us.toArray[us.toArray.size-1]? =some v:=by
  rw[hk]
  have:us[us.dropLast.length]? =some v:=(congrArg (fun z:List ah=>z[us.dropLast.length]?) e1).trans (by rw[List.getElem?_concat_length])
  rw[jN];exact this
 obtain⟨n',hg'⟩:=Tx (ws:=us.dropLast) (f:=fun x=>x.eraseIdxIfInBounds (us.toArray.size-1)) g (by
  show us.toArray.eraseIdxIfInBounds (us.toArray.size-1)=us.dropLast.toArray
  rw[hk]
  have key:(us.dropLast++[v]).toArray.eraseIdxIfInBounds us.dropLast.length=us.dropLast.toArray:=by rw[kl_erase,aR]
  exact(congrArg (fun z:List ah=>z.toArray.eraseIdxIfInBounds us.dropLast.length) e1).trans key)
 exact l4 PySem.F.slot_list_pop ⟨_,g,rfl⟩ PySem.F.entry_list_pop (PySem.F.args_list_pop_1 _) (JV x _ n v hy' (by rw[aZ];exact hz)) ⟨g,h _ _ hg' (jb ..)⟩
theorem aei:aF C k (.builtin "list.pop") YJ:=rW fun A R W σ s a v Re q tk r ai e=>ip (Q:=fun a=>V C W a v->_) e (fun x e q=>lstE e fun l hg e=>oE e fun y hy e=>kS e fun z e=>by
  apply s2 e
  refine Re.lstE hg q fun p us n q1 q0 q2 r=> ?_
  obtain⟨v,e1,h1,h2⟩:=r.last hy
  exact aib e1 q2 (by rw[r.length];exact iR z) fun h' n' hg' hs=>⟨⟨_,_,rfl⟩,W,.refl _,Re.set (c:=.lst _) hg q1 (fun b o hb e=>hs.extBut b o (q0▸hb) e) ⟨q0,_,_,q0▸hg',h2⟩,h1⟩) q
theorem W1{A:bW}{E:ah->az->Prop}{x y:aC}{us ws:List ah}{n n2:Nat}{Q:ah->az->Prop}(hx:s.heap.get? x=some (dw us n))(hy:s.heap.get? y=some (dw ws n2))(hz:us.length+ws.length<=4000000)
  (h: ∀h' n',h'.get? x=some (dw (us++ws) n')->iV x s.heap h'->Q .none {s with heap:=h'}):wpAny (dC C) A (call (.builtin "list.extend") [.ref x,.ref y]) Q E s:=by
 obtain⟨n',hg'⟩:=Tx (ws:=us++ws) (f:=fun x=>x++ws.toArray) hx (by simp)
 refine l4 PySem.F.slot_list_extend ⟨_,hx,rfl⟩ PySem.F.entry_list_extend (PySem.F.args_list_extend_2 _ _) (A2 x us.toArray n y ws.toArray n2 ?_ ?_ ?_) ⟨hx,hy,h _ _ hg' (jb ..)⟩
 ·unfold iU
  simp only[aZ,jy]
  have: ¬us.length+ws.length>16777216:=by omega
  simp[this]
 ·rw[aZ,jy];omega
 ·rw[aZ,aZ,jy];omega
theorem W2(Re:cu C W σ s.heap){x:Nat}{l m:aa}{p:aC×aC}{us ws:List ah}{h':bH}{n':Nat}(h1:σ.get x=some (.lst l))(q1:W.ρ x=some p)(q0:p.1=p.2)(r:VL C W l us)(r2:VL C W m ws)(hg':h'.get? p.1=some (dw (us++ws) n'))(hs:iV p.1 s.heap h'):
  ry C W (σ.set x (.lst (l++m))) .none s .none {s with heap:=h'}:=⟨⟨h',s.toks,rfl⟩,W,.refl _,Re.set (c:=.lst _) h1 q1 (fun b o hb e=>hs.extBut b o (q0▸hb) e) ⟨q0,_,_,q0▸hg',r.append r2⟩,rfl⟩
theorem ak0{x:Nat}{b:AV}{m:aa}{Q:AV->Prop}(e:agJ σ x b=some m)(k1: ∀y,σ.get y=some (.lst m)->Q (.ref y))(k2:Q (.lst m)):Q b:=by
 cases b with
 |ref y=>exact kN e fun _ e=>lstE e fun l hg e=>by cases e;exact k1 y hg
 |lst l=>cases e;exact k2
 |_=>exact nn e
theorem Vl:aF C k (.builtin "list.extend") fR:=Hr fun A R W σ s a b v w Re q q' tk r ai e=>ip (Q:=fun a=>V C W a v->_) e (fun x e q=>oE e fun m hm e=>lstE e fun l h1 e=>kS e fun z e=>by
  apply s2 e
  refine Re.lstE h1 q fun p us n q1 q0 g r=> ?_
  have hz: ∀{ws:List ah},VL C W m ws->us.length+ws.length<=4000000:=fun r2=>by rw[r.length,r2.length];exact jJ z
  exact ak0 (Q:=fun b=>V C W b w->_) hm (fun y h2 q'=>Re.lstE h2 q' fun p2 ws n2 _ _ g2 r2=>W1 g g2 (hz r2) fun h' n' hg' hs=>W2 Re h1 q1 q0 r r2 hg' hs)
   (fun q'=>q'.lstE fun y n2 ws g2 r2=>W1 g (Re.im _ _ g2) (hz r2) fun h' n' hg' hs=>W2 Re h1 q1 q0 r r2 hg' hs) q') q
theorem WU: ∀n:Fin 1000,(lu (toString (am n.val))).cps.toList=O9 n.val:=by decide +kernel
theorem aaB{n:Nat}(hn:n<1000):(am n).natAbs.log2 <1920:=by
 by_cases q:n=0
 ·subst q;decide
 ·exact(Fc q).mpr (show n<2^1920 from eV hn (au (show 1000<=2^10 by decide) (iL (by decide) (by decide))))
theorem Yj{n:Nat}(hn:n<1000):lu (toString (am n))=aP (O9 n):=congrArg (fun l:List Nat=>(⟨l.toArray⟩:Str)) (WU ⟨n,hn⟩)
theorem KR:aF C k (.type "str") TY:=rW fun A R W σ s a v Re q tk r ai e=>mc (Q:=fun a=>V C W a v->_) e (fun n e q=>q.intE fun t=>kS e fun z e=>by
  apply s2 e
  refine PySem.P.str_of_int (aaB (cX.mp z)) ?_
  rw[Yj (cX.mp z)]
  exact Re.same GO _) q
theorem Rq{n:Nat}{ns:List Int}{l:List UInt8}(h3:byteArr ns=l.toArray):byteArr (am n::ns)=(Q0 n::l).toArray:=by
 have h3:ns.map (fun n=>n.toNat.toUInt8)=l:=congrArg NJ h3
 rw[<- h3];rfl
theorem XJ{l:aa}: ∀{b:List UInt8},Z9 l=some b-> ∀{vs:List ah},VL C W l vs->(∃ns:List Int,IntsAre vs ns/\(∀n∈ns,0<=n/\n<256)/\byteArr ns=b.toArray)/\b.length=l.length:=by
 induction l with
 |nil=>exact fun e vs q=>s1 (P:=fun b=>(∃ns:List Int,IntsAre vs ns/\(∀n∈ns,0<=n/\n<256)/\byteArr ns=b.toArray)/\b.length=0) e (q.nilE ⟨⟨[],.nil,fun _ h=>absurd h bb,rfl⟩,rfl⟩)
 |cons a r ih=>exact fun{b} e vs q=>q.consE fun v us q1 q2=>mc (Q:=fun a=>V C W a v->_) e (fun n e q1=>kS e fun z e=>oE e fun l hl e=>q1.intE fun t=>by
   apply s1 e
   obtain⟨⟨ns,h1,h2,h3⟩,h4⟩:=ih hl q2
   refine⟨⟨am n::ns,.cons _ _ h1,fun m hm=>(aH.mp hm).elim (fun e=>e▸⟨de n,hH.mpr (cX.mp z)⟩) (h2 m),Rq h3⟩,congrArg nG h4⟩) q1
theorem X5:aF C k (.type "bytes") VU:=rW fun A R W σ s a v Re q tk r ai e=>oE e fun l hl e=>oE e fun b hb e=>kS e fun z e=>by
  apply s2 e
  refine ng Re hl q fun x n ws hx hw=> ?_
  obtain⟨⟨ns,h1,h2,h3⟩,h5⟩:=XJ hb hw
  refine call_bytes_ints (lI hx) h1 h2 (by rw[hw.length,<- h5];exact iR z) R.handled fun h' t kk hk=> ?_
  rw[h3]
  exact Re.grown (show V C W (.bytes b) (.bytes b.toArray t) from⟨t,rfl⟩) hk _
end
end
end
section
open PySem.SeqAt
noncomputable section
section
variable{k:Nat}{C:PC}{W:Wd}{σ:AS}{s:az}{h':bH}
noncomputable def zu(sep:ac):List (List Nat)->List Nat
 |[]=>[]
 |b::r=>sep++b++zu sep r
theorem IP(sep:ac): ∀(a:ac) (r:List (List Nat)),lc sep (a::r)=a++zu sep r
 |a,[]=>by simp[lc,zu]
 |a,b::r=>by
  rw[lc,IP sep b r,zu]
  ·simp
  ·simp
theorem Pr(sep:ac): ∀(r:List (List Nat)) (acc:ac),(r.map aP).foldl (fun acc p=>acc++(aP sep).cps++p.cps) acc.toArray=(acc++zu sep r).toArray
 |[],acc=>by simp[zu]
 |b::r,acc=>by
  rw[bc,HF]
  have:acc.toArray++(aP sep).cps++(aP b).cps=(acc++sep++b).toArray:=by simp[aP]
  rw[this,Pr sep r,zu]
  simp
theorem Eg(sep:ac)(l:List (List Nat)):NW (aP sep) (l.map aP)=aP (lc sep l):=by
 unfold NW Yz
 cases l with
 |nil=>rfl
 |cons a r=>
  rw[IP]
  show(⟨(r.map aP).foldl _ (aP a).cps⟩:Str)=_
  have:=Pr sep r a
  unfold aP at this ⊢
  rw[this]
theorem Qq: ∀(ss:List (List Nat)) (ts:List Tok),ts.length=ss.length->RQ ((ss.zip ts).map fun p=>.str (aP p.1) p.2) (ss.map aP)
 |[],_,_=>.nil
 |a::ss,t::ts,h=>.cons _ _ (Qq ss ts (by simpa using h))
 |_::_,[],h=>by simp at h
theorem SO(sep:ac): ∀l:List (List Nat),((l.map aP).map (·.length)).sum <=(lc sep l).length
 |[]=>by simp
 |[a]=>by simp[lc,bI]
 |a::b::r=>by
  have:=SO sep (b::r)
  rw[lc]
  ·simp only[bc,List.sum_cons,ao,bI]at this ⊢;omega
  ·simp
end
end
end
section
open PySem.SeqAt
open Builtin Builtin.Str
noncomputable section
theorem adJ:typeLookup (.type "dict_keyiterator") "__len__"=pure none:=by rw[HU,wW];kernel_rfl
theorem ahi:typeLookup (.type "dict_keyiterator") "__length_hint__"=pure (some (.builtin "dict_keyiterator.__length_hint__")):=by rw[HU,wW];kernel_rfl
section
variable{prog:fQ}{w:dD}{A:bW}{E:ah->az->Prop}{s:az}{I:aC}{fp wr:List aC}{G:Array yw->Array yw->Prop}{n:Nat}{P:Nat->ah->Prop}{St:Nat->az->Prop}
theorem Rs{Q:List ah->az->Prop}(W:WalksS prog w A.in1 I fp wr G n P St)(hT: ∀i s,St i s->s.TypeIs (.ref I) "dict_keyiterator")(hst:St 0 s)(hfp: ∀b∈fp,b<s.heap.objs.size)(hI:I∈fp)
  (hQ: ∀s' acc,Moved wr G s s'->ItemsOf P acc n->Q acc.toList s')(hn:n<=sizeLine):wpAny (model prog w) A (collect (.ref I)) Q E s:=by
 have hSf:s.heap.objs.size∉fp:=fun hm=>zB _ (hfp _ hm)
 have hSI:s.heap.objs.size≠I:=fun e=>hSf (e▸hI)
 unfold collect
 refine aq (wpAny_runValue (HN F.entry_proto_collect ?_))
 rw[yu F.plain_proto_collect _]
 show wpAny _ A.in1 (newList []>>=fun l=>again (.builtin "list.__iadd__" ⟨[l,.ref I],[]⟩)) _ _ s
 refine aq (gG ?_)
 refine aL ⟨Mt EC _,HN F.entry_list_iadd ?_⟩
 rw[yu EC _]
 have Eh:=W.frame 0 s (s.heap.push {cls:=.type "list",data:=.seq ([]:List ah).toArray}) s.toks hst (ax _) fun b _ o e=>bz _ e
 have anQ:(s.heap.push {cls:=.type "list",data:=.seq ([]:List ah).toArray}).get? s.heap.objs.size=some {cls:=.type "list",data:=.seq ([]:List ah).toArray}:=bg _ rfl
 have h1:tm (.ref s.heap.objs.size) (.ref I)=false:=by simp[tm,hSI]
 show wpAny _ A.in1 (qH (.ref s.heap.objs.size) (.ref I) (.ref s.heap.objs.size)) _ _ _
 unfold qH
 refine aq (N0 (hT 0 _ Eh) ?_)
 rw[if_neg (by rw[h1];decide)]
 refine aq (W.self 0 _ _ _ Eh ?_)
 refine aq (dF ?_)
 unfold Lc
 refine aq (HX (hT 0 _ Eh) adJ ?_)
 show wpAny _ A.in1 (specialOf (nZ I) (lu "__length_hint__")>>=_) _ _ _
 refine aq (HX (hT 0 _ Eh) ahi ?_)
 generalize hid:("dict_keyiterator.__length_hint__":String)=id0
 wp_delta
 rw[show splitId id0=some ("dict_keyiterator","__length_hint__") from by subst hid;decide +kernel]
 subst hid
 refine aq (wpAny_isInstance (b:=true) (hT 0 _ Eh) (by rw[isSubtype_type];kernel_rfl) ?_)
 refine aL ?_
 rw[if_neg (by decide)]
 refine aL ⟨Mt F.plain_extend_loop _,codeAny_extend_loopS W hn _ hSf _ n 0 _ _ _ rfl (aU _) Eh anQ (ItemsOf.nil P) fun s' acc' c' hm hS' hacc=> ?_⟩
 show wpAny _ A (load s.heap.objs.size>>=_) _ _ s'
 refine aq (wpAny_load hS' ?_)
 exact aL (hQ s' acc' (Moved.drop_new (o:={cls:=.type "list",data:=.seq ([]:List ah).toArray}) (tk:=s.toks) hm (ax _)) hacc)
end
section
variable{k:Nat}{C:PC}{W:Wd}{σ:AS}{s:az}{h':bH}{A:bW}{E:ah->az->Prop}
theorem akH{ks:List Str}: ∀{vs:List ah} {j:Nat} {a:Str} {y:ah},(ks.zip vs)[j]? =some (a,y)->ks[j]?.getD VP=a:=by
 induction ks with
 |nil=>exact fun{vs j a y} h=>by cases h
 |cons b ks ih=>
  intro vs j a y h
  cases vs with
  |nil=>cases h
  |cons v vs=>cases j with
   |zero=>cases h;rfl
   |succ j=>exact ih (vs:=vs) (j:=j) h
theorem aaC{L:List ah}: ∀{ks:List Str},(∀(j:Nat) v,L[j]? =some v-> ∃t,v= .str (ks[j]?.getD VP) t)->L.length=ks.length-> ∃l:List (Str×Tok),strValues l=L/\l.map (·.1)=ks:=by
 induction L with
 |nil=>
  intro ks _ hlen
  cases ks with
  |nil=>exact⟨[],rfl,rfl⟩
  |cons=>cases hlen
 |cons v L ih=>
  intro ks each hlen
  cases ks with
  |nil=>cases hlen
  |cons kk ks=>
   obtain⟨t,ht⟩:=each 0 v rfl
   obtain⟨l,h1,h2⟩:=ih (ks:=ks) (fun j v e=>each (j+1) v e) (jQ hlen)
   exact⟨(kk,t)::l,by rw[<- h1,ht];rfl,by rw[<- h2];rfl⟩
theorem ZS{x:Str}{t:Tok}{d:aC}{ks:List Str}{vs:List ah}{ep:Nat}{Q:ah->az->Prop}(hh:A.handled=none)(h0:(d==sysModules)=false)(hl:ks.length=vs.length)(hd:s.heap.DictAt (rq C.prog C.w) d (ks.zip vs) ep)(hN:ks.length<=sizeLine)
  (hok:JoinOk x ks=true)(h: ∀h' t' tk,(∀b o,s.heap.get? b=some o->h'.get? b=some o)->Q (.str (NW x ks) t') {s with heap:=h',toks:=tk}):wpAny (dC C) A (call (.builtin "str.join") [.str x t,.ref d]) Q E s:=by
 have hT:s.TypeIs (.ref d) "dict":=hd.dictOf.typeIs
 refine oH (oG u5.plain F.entry_str_join (u5.check _ _ _ _ _ _ _ _ (l5 _ _ _) (F.args_str_join_2 _ _) ?_))
 rw[join_tree_other]
 refine aq (N0 hT ?_)
 show wpAny _ A.in1 ((pyIter (.ref d)).tryCatch _>>=fun it=>collect it>>=fun items=>joinTail x items) _ _ s
 have hz:(ks.zip vs).length=ks.length:=by simp[hl]
 have ne:d≠s.heap.objs.size:=by obtain⟨o,es,ho,_⟩:=hd;exact ci (co ho)
 refine aq (wpAny_tryCatch (E0 h0 hd ?_))
 have W:=(JW (A:=A.in1.in1) (knd:=rq C.prog C.w) hh s.heap.objs.size d ne (ks.zip vs) ep).toS
 refine aq (Rs W (fun _ _ st=>let⟨o,ho,hc,_⟩:=st.1;⟨o,ho,hc⟩) ⟨⟨_,bg _ rfl,rfl,rfl⟩,hd.at' fun o e=>ef _ _ _ _ e⟩ (fun b hb=> ?_) (by simp) (fun s' acc hm hacc=> ?_) (by rw[hz];exact hN))
 ·rw[pQ]
  simp at hb
  rcases hb with rfl|rfl
  ·exact bL _
  ·obtain⟨o,es,ho,_⟩:=hd;exact cG (co ho)
 ·obtain⟨ha,hv⟩:=hacc
  have key: ∃l:List (Str×Tok),strValues l=acc.toList/\l.map (·.1)=ks:=aaC (fun j v e=>by
    obtain⟨kk,y,e1,e2⟩:=hv j v (by rw[<- Array.getElem?_toList];exact e)
    obtain⟨t,rfl⟩:=Mine.strKind_is e2
    exact⟨t,congrArg (fZ · t) (akH e1).symm⟩) (by rw[Array.length_toList,ha,hz])
  obtain⟨l,hl1,hl2⟩:=key
  rw[<- hl1]
  have hs':s'={s with heap:=s'.heap,toks:=s'.toks}:=by
   obtain⟨h1,g1,d1,t1,o1⟩:=s'
   have a1:=hm.gens
   have a2:=hm.drawn
   have a3:=hm.os
   dsimp only at a1 a2 a3 ⊢
   rw[a2,a3,a1]
  have keep: ∀b o,s.heap.get? b=some o->s'.heap.get? b=some o:=fun b o e=>hm.heap b o (by simp;exact ci (co e)) (ef _ _ _ _ e)
  have hok':=hok
  rw[<- hl2]at hok'
  unfold JoinOk at hok'
  rw[dX]at hok'
  have g:Gives (joinTail x (strValues l)) (joinMade x l):=by
   have g0:=gives_joinTail x l hok'
   cases l with
   |nil=>exact g0
   |cons p r=>cases r with
    |nil=>exact g0
    |cons q r'=>exact g0
  exact g C.prog C.w A (wants Q E) s' (post_join l ⟨joinFit_length hok',fun t' kk=>by rw[hl2,hs'];exact h _ _ _ keep⟩)
theorem adA{b:AV}{l:List (List Nat)}{P:Prop}(h:abL σ b=some l)(k1: ∀fs,b= .dct l fs->P)(k2: ∀m,nw σ b=some m->nE m=some l->P):P:=by
 have k3:ob (nw σ b) nE=some l->P:=fun h=>oE h k2
 clear k2
 cases b with
 |dct ks fs=>exact s1 (P:=fun l=>(∀fs',AV.dct ks fs= .dct l fs'->P)->P) h (fun k1=>k1 fs rfl) k1
 |_=>exact k3 h
theorem Xg{sep:ac}{l:List (List Nat)}(z:dv (eP (lc sep l)+eP l*eP sep+eP l)=true):((l.map aP).map (·.length)).sum +(l.map aP).length *(aP sep).length <=16777216/\l.length<=sizeLine:=by
 rw[ib,ib,ib]at z
 have hz:=jJ z
 have hsum:=SO sep l
 rw[aS,bI,jy]
 generalize l.length*sep.length=q at *
 generalize ((l.map aP).map (·.length)).sum=w at *
 generalize (lc sep l).length=u at *
 exact⟨by omega,by omega⟩
theorem aaq:aF C k (.builtin "str.join") vf:=Hr fun A R W σ s a b v w Re q q' tk r ai e=>fJ (Q:=fun a=>V C W a v->_) e (fun sep e q=>q.strE fun t=>oE e fun l hl e=>kS e fun z e=>by
  apply s2 e
  have hok:=Xg z
  refine adA hl (fun fs hb=> ?_) fun m hm hl=> ?_
  ·subst hb
   refine q'.dctE fun x o ws q0 q1 q2 qd=> ?_
   obtain⟨q3,es,ep,qd⟩:=qd
   refine ZS R.handled q0 (by rw[aS];exact q3) ⟨o,es,Re.im _ _ q1,qd⟩ ?_ (joinOk_of hok.1) fun h' t' tk hk=> ?_
   ·rw[aS];exact hok.2
   ·rw[Eg];exact Re.grown GO hk _
  ·refine Hc Re hm q' fun x ws hws hx=> ?_
   obtain⟨ts,h1,h2⟩:=OJ hl hws
   subst h2
   have hs:=Qq l ts h1
   rcases hx with hx|hx
   ·refine QW hx hs hok.1 fun t' kk=> ?_
    rw[Eg];exact Re.same GO _
   ·refine QS hx hs hok.1 fun t' kk=> ?_
    rw[Eg];exact Re.same GO _) q
end
end
end
section
open PySem.SeqAt
open Builtin Builtin.Str
noncomputable section
def HY(s p:ac)(i:Nat):Prop:=i+p.length<=s.length/\subAt (aP s) (aP p) i=true
theorem Ch{s p:ac}{i:Nat}(hi:i<=s.length):HY s p i↔jU p (s.drop i)=true:=by
 unfold HY
 simp only[tD,gJ,bI,beq_iff_eq,Hl]
 constructor
 ·rintro⟨_,h⟩;exact h
 ·intro h
  refine⟨?_,h⟩
  have:=congrArg mT h
  simp only[j8,gU]at this
  omega
theorem S9(s p:ac): ∀(l:ac) (j f:Nat),(forIn l ((#[j]:Array Nat),f) (d4 (aP s) (aP p) s.length 1)).run.fst= #[j]
 |[],_,_=>rfl
 |a::l,j,f=>by
  rw[gA]
  unfold d4
  rw[if_neg (by simp)]
  exact S9 s p l j f
theorem PV(s p:ac): ∀(pre post:ac) (j free:Nat),(∀i∈pre++[j],free<=i)->(∀i∈pre,¬HY s p i)->HY s p j->
  (forIn (pre++j::post) ((#[]:Array Nat),free) (d4 (aP s) (aP p) s.length 1)).run.fst= #[j]
 |[],post,j,free,hf,_,hj=>by
  rw[u9,gA]
  unfold d4
  have h1:free<=j:=hf j (by simp)
  have h2:=hj.1
  rw[if_pos ⟨⟨⟨by simp,h1⟩,by rw[bI];exact h2⟩,hj.2⟩]
  exact S9 s p post j _
 |a::pre,post,j,free,hf,hn,hj=>by
  rw[eR,gA]
  unfold d4
  rw[if_neg (by
   rintro⟨⟨_,h1⟩,h2⟩
   rw[bI]at h1
   exact hn a (ba ..) ⟨h1,h2⟩)]
  exact PV s p pre post j free (fun i hi=>hf i (by rw[eR];exact aQ _ hi)) (fun i hi=>hn i (aQ _ hi)) hj
theorem IE(p:ac): ∀(s:ac) (i j:Nat),Ee p i s=some j-> ∃k,j=i+k/\k<=s.length/\jU p (s.drop k)=true/\ ∀m,m<k->jU p (s.drop m)=false
 |[],i,j,e=>by
  unfold Ee at e
  cases z:jU p []<;>rw[z]at e<;>cases e
  exact⟨0,rfl,ax _,z,fun m hm=>absurd hm (ik _)⟩
 |a::s,i,j,e=>by
  unfold Ee at e
  cases z:jU p (a::s)<;>rw[z]at e
  ·obtain⟨k,h1,h2,h3,h4⟩:=IE p s (i+1) j e
   refine⟨k+1,by omega,by simp;exact h2,h3,fun m hm=> ?_⟩
   cases m with
   |zero=>exact z
   |succ m=>exact h4 m (by omega)
  ·cases e
   exact⟨0,rfl,aU _,z,fun m hm=>absurd hm (ik _)⟩
theorem Z8{s p:ac}{j:Nat}(e:Ee p 0 s=some j):occurrences (aP s) (aP p) 0 (aP s).length 1=[j]:=by
 obtain⟨k,h1,h2,h3,h4⟩:=IE p s 0 j e
 have hk:k=j:=by omega
 subst hk
 rw[wS,bI]
 have hs:iM 0 (s.length+1-0)=iM 0 k++k::iM (k+1) (s.length-k):=by
  have h5:s.length+1-0=k+((s.length-k)+1):=by omega
  rw[h5,<- List.range'_append_1,hJ,tv]
 rw[hs,PV s p _ _ k 0 (fun _ _=>aU _) (fun i hi=> ?_) ((Ch h2).mpr h3)]
 have hi:i<k:=by simpa[EH] using hi
 rw[Ch (by omega),h4 i hi]
 decide
section
variable{k:Nat}{C:PC}
theorem X6:aF C k (.builtin "str.index") H5:=Hr fun A R W σ s a b v w Re q q' tk r ai e=>fJ (Q:=fun a=>V C W a v->_) e (fun sep e q=>OQ (Q:=fun b=>V C W b w->_) e (fun c p e q'=>oE e fun i hi e=>q.strE fun t=>q'.strE fun u=>by
  apply s2 e
  exact PySem.SC.index (Z8 hi) (Re.same Ca _)) q') q
end
end
end
section
open PySem.SeqAt
open Builtin Builtin.Str
noncomputable section
noncomputable def pf(c:Nat):Nat->List Nat->List Nat
 |_,[]=>[]
 |i,a::r=>bif aj a c then i::pf c (i+1) r else pf c (i+1) r
theorem aaD{s:ac}{c i a:Nat}{r:ac}(h:s.drop i=a::r):subAt (aP s) (aP [c]) i=aj a c:=by
 rw[tD,gJ,bI,gJ,h,fS]
 by_cases q:a=c<;>simp[q]
theorem PU(s:ac)(c lim:Nat): ∀(r:ac) (i:Nat) (found:Array Nat) (free:Nat),s.drop i=r->i<=s.length->free<=i->found.size+r.length<lim->
  (forIn (iM i (r.length+1)) (found,free) (d4 (aP s) (aP [c]) s.length lim)).run.fst.toList=found.toList++pf c i r
 |[],i,found,free,h,hi,hf,hl=>by
  have:s.length<=i:=oz.mp h
  rw[show iM i (([]:List Nat).length +1)=[i] from rfl,gA]
  unfold d4
  rw[if_neg (by
   rintro⟨⟨_,h1⟩,_⟩
   rw[bI]at h1;simp at h1;omega)]
  simp[pf]
 |a::r,i,found,free,h,hi,hf,hl=>by
  have hlt:i<s.length:=by
   rcases oB i s.length with z|z
   ·exact z
   ·rw[gY z]at h;cases h
  have hr:s.drop (i+1)=r:=by
   have:=congrArg (Bd 1) h
   simpa[pR] using this
  rw[bK,tv,gA]
  unfold pf
  have hs:=aaD (c:=c) h
  cases q:aj a c with
  |true=>
   rw[q]at hs
   unfold d4
   rw[if_pos ⟨⟨⟨by simp at hl ⊢;omega,hf⟩,by rw[bI];simp;omega⟩,hs⟩]
   have ih:=PU s c lim r (i+1) (found.push i) (i+(aP [c]).length) hr hlt (by rw[bI];simp) (by simp at hl ⊢;omega)
   simp only[af]
   rw[Array.toList_push]at ih
   exact ih.trans (by simp)
  |false=>
   rw[q]at hs
   unfold d4
   rw[if_neg (by rintro⟨_,h2⟩;rw[hs]at h2;cases h2)]
   exact PU s c lim r (i+1) found free hr hlt (mG hf) (by simp at hl ⊢;omega)
theorem XI(s:ac)(c:Nat):occurrences (aP s) (aP [c]) 0 (aP s).length ((aP s).length +1)=pf c 0 s:=by
 rw[wS,bI]
 have:=PU s c (s.length+1) s 0 #[] 0 rfl (aU _) (ax _) (by simp)
 simpa using this
theorem ab9(s:ac)(a b:Nat):strSub (aP s) a b=aP ((s.take b).drop a):=by
 unfold strSub aP
 congr 1
 apply Array.toList_inj.mp
 simp[List.drop_take]
theorem vI(s:ac)(c:Nat): ∀(r:ac) (i i0:Nat) (acc:ac),s.drop i=r->i0<=i->i<=s.length->acc.reverse=(s.take i).drop i0->
  ((i0::(pf c i r).map (· +1)).zip (pf c i r++[s.length])).map (fun p=>strSub (aP s) p.1 p.2)=(dh c acc r).map aP
 |[],i,i0,acc,h,h0,hi,ha=>by
  have hl:s.length<=i:=oz.mp h
  have:i=s.length:=vb hi hl
  subst this
  simp only[pf,jO,u9,bJ,List.zip_nil_left,bc,dh]
  rw[ab9,ha]
 |a::r,i,i0,acc,h,h0,hi,ha=>by
  have hlt:i<s.length:=by
   rcases oB i s.length with z|z
   ·exact z
   ·rw[gY z]at h;cases h
  have hr:s.drop (i+1)=r:=by
   have:=congrArg (Bd 1) h
   simpa[pR] using this
  have hai:s[i]? =some a:=by
   have:(s.drop i)[0]? =some a:=by rw[h];rfl
   simpa using this
  unfold pf dh
  cases q:aj a c with
  |true=>
   simp only[af,bc,eR,bJ]
   have ih:=vI s c r (i+1) (i+1) [] hr (ax _) hlt (by simp)
   rw[ab9,ha]
   exact congrArg _ ih
  |false=>
   simp only[ae]
   refine vI s c r (i+1) i0 (a::acc) hr (mG h0) hlt ?_
   rw[EJ,ha,List.take_add_one,hai,List.drop_append_of_le_length (by simp;omega)]
   rfl
end
end
section
open PySem.SeqAt
open Builtin Builtin.Str
noncomputable section
section
variable{k:Nat}{C:PC}{s:az}{A:bW}{E:ah->az->Prop}
theorem aaA{x y:Str}{t u:Tok}{Q:ah->az->Prop}(hy:(y.length==0)=false)
  (h: ∀(l:List (Str×Tok)) k,l.map (·.1)=Lh x y->Q (.ref s.heap.objs.size) {s with heap:=s.heap.push (dw (strValues l) 0),toks:=k})
  (hsz:x.length+2<=sizeLine):
  wpAny (dC C) A (call (.builtin "str.split") [.str x t,.str y u]) Q E s:=by
 have hn:(partsBetween x (occurrences x y 0 x.length (x.length+1)) y.length).length <=sizeLine:=by
  have e1:=StrLaws.occ_length_le x y 0 x.length (x.length+1)
  rw[length_partsBetween];omega
 cases h1:(decide (x.length<y.length)||decide (gm x<gm y))
 ·cases hf:(occurrences x y 0 x.length (x.length+1)).isEmpty
  ·refine l4 nF (l5 _ _ _) r0 (qL _ _) (meets_str_split_sep x y t u h1 hy hf (by omega) hn) ?_
   show wants Q E _ {s with toks:=_,heap:=s.heap.push {cls:=.type "list",data:=.seq (strsFrom s.toks (partsBetween x (occurrences x y 0 x.length (x.length+1)) y.length)).toArray}}
   rw[strsFrom_eq]
   exact h (numbered s.toks _) _ ((numbered_texts _ _).trans ((if_neg (ne_true_of_eq_false h1)).trans (if_neg (ne_true_of_eq_false hf))).symm)
  ·exact l4 nF (l5 _ _ _) r0 (qL _ _) (meets_str_split_not_found x y t u h1 hy hf)
    (h [(x,t)] s.toks ((if_neg (ne_true_of_eq_false h1)).trans (if_pos hf)).symm)
 ·exact l4 nF (l5 _ _ _) r0 (qL _ _) (meets_str_split_cannot_occur x y t u h1)
   (h [(x,t)] s.toks (if_pos h1).symm)
theorem Dc(c:Nat): ∀(s acc:ac),(∀a∈s,aj a c=false)->dh c acc s=[acc.reverse++s]
 |[],acc,_=>by simp[dh]
 |a::s,acc,h=>by
  unfold dh
  rw[h a (ba ..),ae,Dc c s (a::acc) fun b hb=>h b (aQ _ hb)]
  simp
theorem KI(c:Nat): ∀(s:ac) (i:Nat),pf c i s=[]-> ∀a∈s,aj a c=false
 |[],_,_,a,h=>by cases h
 |b::s,i,e,a,h=>by
  unfold pf at e
  cases q:aj b c with
  |true=>rw[q]at e;cases e
  |false=>
   rw[q]at e
   rcases aH.mp h with rfl|h
   ·exact q
   ·exact KI c s (i+1) e a h
theorem ahw{s:ac}{c:Nat}(h:gm (aP s)<gm (aP [c])): ∀a∈s,aj a c=false:=by
 intro a ha
 cases q:aj a c with
 |false=>rfl
 |true=>
  exfalso
  have:=aD q
  subst this
  unfold gm aP at h
  simp only[List.all_toArray]at h
  by_cases h1:a<256
  ·simp[h1]at h
   split at h<;>(try split at h)<;>omega
  ·by_cases h2:a<65536
   ·have e1:(s.all fun x=>decide (x<256))=false:=by
     rw[r6];exact⟨a,ha,by simp[h1]⟩
    simp[h1,h2,e1]at h
    first|omega|(split at h<;>omega)
   ·have e1:(s.all fun x=>decide (x<256))=false:=by
     rw[r6];exact⟨a,ha,by simp[h1]⟩
    have e2:(s.all fun x=>decide (x<65536))=false:=by
     rw[r6];exact⟨a,ha,by simp[h2]⟩
    simp[h1,h2,e1,e2]at h
theorem aeE(s:ac)(c:Nat):Lh (aP s) (aP [c])=(dh c [] s).map aP:=by
 have no:(∀a∈s,aj a c=false)->[aP s]=(dh c [] s).map aP:=fun h=>by rw[Dc c s [] h];simp
 unfold Lh
 split
 ·rename_i h
  rw[ow,decide_eq_true_iff,decide_eq_true_iff,bI,bI]at h
  rcases h with h|h
  ·have:s=[]:=List.eq_nil_of_length_eq_zero (by simp at h;simp[h])
   subst this;exact no fun a ha=>by cases ha
  ·exact no (ahw h)
 ·rw[XI]
  split
  ·rename_i h
   exact no (KI c s 0 (ej.mp h))
  ·have:=vI s c s 0 0 [] rfl (ax _) (aU _) (by simp)
   rw[<- this]
   unfold partsBetween
   rw[bI,bI]
   rfl
theorem Lv{W:Wd}: ∀{ss:List (List Nat)} {l:List (Str×Tok)},l.map (·.1)=ss.map aP->VL C W (ss.map .str) (strValues l)
 |[],[],_=>VL.nil
 |a::ss,(x,t)::l,h=>by
  simp only[bc,u6]at h
  exact⟨.str x t,strValues l,rfl,⟨t,by rw[h.1]⟩,Lv h.2⟩
 |[],_::_,h=>by simp at h
 |_::_,[],h=>by simp at h
theorem Yb:aF C k (.builtin "str.split") kz:=Hr fun A R W σ s a b v w Re q q' tk r ai e=>fJ (Q:=fun a=>V C W a v->_) e (fun x e q=>WA (Q:=fun b=>V C W b w->_) e (fun c e q'=>kS e fun z e=>q.strE fun t=>q'.strE fun u=>by
  apply s2 e
  refine aaA (by rw[bI];rfl) (fun l tk hl=> ?_) (by have:=jJ z;rw[bI,jy];omega)
  rw[aeE]at hl
  exact Re.newLst (ef _ _) (tj _) (bg _ rfl) (Lv hl) _) q') q
end
end
end
section
open PySem.SeqAt
open Builtin Builtin.Str
noncomputable section
section
variable{k:Nat}{C:PC}
theorem Ew{x:Str}{id:String}{F:aW}(slot:Slot "str" x id)(ty:typeOf (.builtin id)=pure (.type "method_descriptor"))(hF:aF C k (.builtin id) F):dW C k x (ic F):=fun W σ h a v F' R hv e=>by
 revert hv
 exact fJ (Q:=fun a=>V C W a v->_) e fun i e=>by
  apply s1 e
  exact fun hv=>hv.strE fun t=>⟨.builtin id,fun A s pl E Q hs hq=>GM.of _ (l5 _ _ _) slot ty GM.noRef hq,fg,hF⟩
theorem KO{x:Str}{id:String}{F:aW}(pa:PlainAttrs "list")(slot:Slot "list" x id)(ty:typeOf (.builtin id)=pure (.type "method_descriptor"))(hF:aF C k (.builtin id) F):dW C k x (fH F):=fun W σ h a v F' R hv e=>by
 revert hv
 exact ip (Q:=fun a=>V C W a v->_) e fun y e=>lstE e fun l hg e=>by
  apply s1 e
  intro hv
  refine R.lstE hg hv fun p us n q q0 q2 r=>⟨.builtin id,fun A s pl E Q hs hq=> ?_,fg,hF⟩
  subst hs
  exact getMethod_builtin (⟨_,q2,rfl⟩:s.TypeIs (.ref p.1) "list") pa slot ty (fun a ha=>by cases ha;exact⟨_,q2,rfl⟩) hq
theorem rf:dW C k "split" (ic kz):=Ew nF F.type_str_split Yb
theorem qk:dW C k "join" (ic vf):=Ew u5 F.type_str_join aaq
theorem L1:dW C k "index" (ic H5):=Ew F.slot_str_index F.type_str_index X6
theorem fx:dW C k "append" (fH f8):=KO r5 F.slot_list_append F.type_list_append Vk
theorem ta:dW C k "extend" (fH fR):=KO r5 F.slot_list_extend F.type_list_extend Vl
theorem aec:dW C k "pop" (fH YJ):=KO r5 F.slot_list_pop F.type_list_pop aei
end
end
end
section
open PySem.SeqAt
open PySem.NumText
noncomputable section
section
variable{k:Nat}{C:PC}
theorem FL: ∀(l:ac) (n m:Nat),lJ n l=some m->AllDigits l/\l.foldl (fun acc c=>acc*10+(c-48)) n=m
 |[],n,m,e=>by cases e;exact⟨fun c h=>(by cases h),rfl⟩
 |c::r,n,m,e=>by
  unfold lJ at e
  cases z:cP 48 c&&cP c 57<;>rw[z]at e
  ·cases e
  ·simp only[cD]at z
   obtain⟨h1,h2⟩:=FL r _ _ e
   refine⟨fun d hd=> ?_,h2⟩
   rcases aH.mp hd with rfl|hd
   ·exact⟨av z.1,av z.2⟩
   ·exact h1 d hd
theorem ads{c n:Nat}{r:ac}(hl:r.length<18)(hn:lJ 0 (c::r)=some n):PySem.intText? (aP (c::r))=some (n:Int):=by
 obtain⟨h1,h2⟩:=FL _ _ _ hn
 have:=intText_digits (x:=aP (c::r)) (by rw[gJ];exact h1) (by rw[gJ];exact List.cons_ne_nil _ _) (by rw[bI,bK];omega)
 rw[gJ]at this
 rw[<- h2];exact this
theorem aef:aF C k (.type "int") tI:=rW fun A R W σ s a v Re q tk r ai e=>OQ (Q:=fun a=>V C W a v->_) e (fun c r e q=>kS e fun z e=>oE e fun n hn e=>q.strE fun t=>by
  apply s2 e
  have hl:=cX.mp z
  exact RP (ads hl hn) (by rw[bI,bK];omega) (Re.same Ca _)) q
end
end
end
section
open PySem.SeqAt
open Builtin Builtin.Str
noncomputable section
theorem abV(s p:ac)(lim:Nat): ∀(l:ac) (free:Nat),(∀i∈l,¬HY s p i)->(forIn l ((#[]:Array Nat),free) (d4 (aP s) (aP p) s.length lim)).run.fst= #[]
 |[],_,_=>rfl
 |a::l,free,hn=>by
  rw[gA]
  unfold d4
  rw[if_neg (by
   rintro⟨⟨_,h1⟩,h2⟩
   rw[bI]at h1
   exact hn a (ba ..) ⟨h1,h2⟩)]
  exact abV s p lim l free fun i hi=>hn i (aQ _ hi)
theorem Sz(p:ac): ∀(s:ac) (i:Nat),y9 p s=false->i<=s.length->jU p (s.drop i)=false
 |[],i,h,hi=>by
  have:i=0:=QU.mp hi
  subst this;exact h
 |a::s,0,h,_=>by rw[IK]at h;exact(ou.mp h).1
 |a::s,i+1,h,hi=>by
  rw[IK]at h
  exact Sz p s i (ou.mp h).2 (mU hi)
theorem ahp(p s:ac)(i:Nat)(h:Pu p s=false)(hi:i<=s.length):jU p (s.drop i)=false:=Sz p s i (by rw[<- Xb];exact h) hi
theorem XH{s p:ac}(h:Pu p s=false)(lim:Nat):occurrences (aP s) (aP p) 0 (aP s).length lim=[]:=by
 rw[wS,bI,abV s p lim _ 0 fun i hi q=> ?_]
 have hi:i<=s.length:=by
  have:=(EH.mp hi).2;omega
 rw[Ch hi,ahp p s i h hi]at q
 cases q
section
variable{k:Nat}{C:PC}{X:FX}
theorem RC:aF C k (.builtin "str.replace") tJ:=aoX fun A R W σ s a b d v w u Re q q' q'' tk r ai e=>fJ (Q:=fun a=>V C W a v->_) e (fun x e q=>OQ (Q:=fun b=>V C W b w->_) e (fun c p e q'=>fJ (Q:=fun d=>V C W d u->_) e (fun y e q''=>kN e fun z e=>q.strE fun t=>q'.strE fun t'=>q''.strE fun t''=>by
  apply s2 e
  have ho:=XH z ((aP x).length +1)
  refine call_gives qM (l5 _ _ _) F.entry_str_replace (F.args_str_replace_3 _ _ _) (gives_str_replace (aP x) _ _ t t' t'' fun h=> ?_) ?_
  ·rw[ho]at h;cases h
  ·rw[ho]
   exact Re.same GO s.toks) q'') q') q
theorem wH:dW C k "replace" (ic tJ):=Ew qM A9 RC
theorem LK: ∀l:List (List Nat),lc [] l=l.flatten
 |[]=>rfl
 |[a]=>(aR a).symm
 |a::b::r=>by
  unfold lc
  rw[LK (b::r),aR];rfl
theorem Dd(c:Nat): ∀(s acc:ac),(dh c acc s).flatten=acc.reverse++Hp c s
 |[],acc=>rfl
 |a::s,acc=>by
  unfold dh Hp
  cases q:aj a c with
  |true=>rw[af,af,mD,Dd c s []];rfl
  |false=>rw[ae,ae,Dd c s (a::acc),EJ,aB];rfl
theorem U8(s:ac)(c:Nat):partsBetween (aP s) (pf c 0 s) (aP [c]).length=(dh c [] s).map aP:=by
 have:=vI s c s 0 0 [] rfl (ax _) (aU _) (by rw[List.take_zero,List.drop_nil];rfl)
 rw[<- this]
 unfold partsBetween
 rw[bI,bI]
 rfl
theorem XW(s:ac)(c:Nat):QZ (aP s) (aP [c]) (aP [])=aP (Hp c s):=by
 have flat:Hp c s=(dh c [] s).flatten:=(Dd c s []).symm
 unfold QZ
 rw[XI]
 cases ho:(pf c 0 s).isEmpty with
 |true=>
  rw[if_pos (by rfl),flat,Dc c s [] (KI c s 0 (ej.mp ho))]
  exact congrArg aP (aR s).symm
 |false=>
  have h1:(aP [c]).length=1:=bI _
  rw[if_neg (by rw[h1];decide),U8,flat,<- LK,<- Eg]
  rfl
theorem ajY{c:Nat}{m:EM}{o:an}{ap p p1 p2:Pos}{j1 j2:Nat}(hb:sU o=true)(hl:(ap.endLine==p.line)=true)(hm:bX X k m o):
  bX X k (un (aiU c) m) (.Call (.Attribute o "replace" ap) [.Constant (.str (aP [c])) j1 p1,.Constant (.str (aP [])) j2 p2] [] p):=fun A R W fr σ s T a ai e=>by
 refine fG e fun vX ay e1 e=>oE e fun b e2 e=> ?_
 apply s2 e
 revert e1
 refine fJ (Q:=fun vX=>m fr σ=some (vX,ay)->_) (show d7 vX _=some b from e2) fun x e2 e1=>kS e2 fun ok e2=> ?_
 apply s1 e2
 refine S3 (es:=[.Constant (.str (aP [c])) j1 p1,.Constant (.str (aP [])) j2 p2]) hb hl (show 2<30 by decide) hm rfl R T e1 fun v bk be bv bo d5=> ?_
 refine d5.strE fun t=> ?_
 refine⟨.builtin "str.replace",fun A s pl E Q hs hq=>GM.of _ (l5 _ _ _) qM A9 GM.noRef hq,?_⟩
 refine Fe (P:=X.C.K.In) rfl fg (wu rfl ?_)
 rw[lO rfl,lO rfl]
 refine Bj (oy (k:=j1) (pos:=p1) (Bj (oy (k:=j2) (pos:=p2) (spliced_nil ⟨bo.rel.K,?_⟩))))
 have hp:=bo.sm.pos
 refine VC (n:=bk.toks) (au (cJ _) (cJ _)) ?_
 refine PySem.SC.replace (oF hp) (j9 _) (ci (bL _)) ?_ ?_ fun t' k' ht=> ?_
 ·rw[beq_eq_false_iff_ne]
  intro q
  have:=congrArg TR q
  rw[bI,bI]at this
  cases this
 ·rw[bI,bI]
  show x.length+(x.length+1)*0<=_
  rw[Nat.mul_zero]
  exact au (jJ ok) (by decide)
 ·rw[XW]
  exact((bo.toks k' ht).post GO).le bv
def xI(a b:ac):Prop:= ¬b<a
theorem Cv(x:ac): ∀l,(Kx x l).Perm (x::l)
 |[]=>.refl _
 |y::r=>by
  unfold Kx
  cases CG x y with
  |true=>exact .refl _
  |false=>exact((Cv x r).cons y).trans (.swap x y r)
theorem Jk: ∀l,(jK l).Perm l
 |[]=>.refl _
 |x::r=>(Cv x _).trans ((Jk r).cons x)
theorem xI.trans{a b c:ac}(h:xI a b)(h':xI b c):xI a c:=List.le_trans (show a<=b from h) (show b<=c from h')
theorem FG(x:ac): ∀l,l.Pairwise xI->(Kx x l).Pairwise xI
 |[],_=>uR ..
 |y::r,h=>by
  unfold Kx
  cases q:CG x y with
  |true=>
   have q:x<y:=ag (Ek.symm.trans q)
   have hxy:xI x y:=List.lt_asymm q
   refine jm.mpr ⟨fun z hz=> ?_,h⟩
   rcases aH.mp hz with rfl|hz
   ·exact hxy
   ·exact hxy.trans (kU h hz)
  |false=>
   have q:xI y x:=of_decide_eq_false (Ek.symm.trans q)
   refine jm.mpr ⟨fun z hz=> ?_,FG x r (jm.mp h).2⟩
   rcases aH.mp ((Cv x r).mem_iff.mp hz)with rfl|hz
   ·exact q
   ·exact kU h hz
theorem Db: ∀l,(jK l).Pairwise xI
 |[]=>.nil
 |x::r=>FG x _ (Db r)
theorem Ja: ∀(r:List (List Nat)) (p:ac),risingS (aP p) (r.map aP)=true->(p::r).Pairwise xI
 |[],_,_=>uR ..
 |x::r,p,h=>by
  obtain⟨h1,h2⟩:=br.mp h
  have ih:=Ja r x h2
  have q:xI p x:=by
   rw[ltCps_eq,dX,decide_eq_false_iff_not,gJ,gJ]at h1
   exact h1
  refine jm.mpr ⟨fun z hz=> ?_,ih⟩
  rcases aH.mp hz with rfl|hz
  ·exact q
  ·exact q.trans (kU ih hz)
theorem Vr: ∀(l:List (List Nat)),sortedS (l.map aP)=true->l.Pairwise xI
 |[],_=>.nil
 |x::r,h=>Ja r x h
theorem Z2(l:List Str): ∃m:List (List Nat),l=m.map aP:=⟨l.map fun s=>s.cps.toList,by rw[gB];exact(tt l).symm.trans (fP fun s _=>by obtain⟨⟨l⟩⟩:=s;rfl)⟩
theorem aaz{l:List (List Nat)}{ss':List Str}(hp:ss'.Perm (l.map aP))(hs:sortedS ss'=true):ss'=(jK l).map aP:=by
 obtain⟨m,rfl⟩:=Z2 ss'
 have hp':m.Perm l:=by
  have:=hp.map fun s=>s.cps.toList
  rw[gB,gB]at this
  have e: ∀k:List (List Nat),k.map ((fun s:Str=>s.cps.toList)∘aP)=k:=fun k=>(fP fun s _=>gJ s).trans (tt k)
  rwa[e,e]at this
 refine congrArg _ (NM (le:=xI) (fun a b _ _ h1 h2=>List.le_antisymm (show a<=b from h1) (show b<=a from h2)) (Vr m hs) (Db l) (hp'.trans (Jk l).symm))
theorem Yk{W:Wd}: ∀{vs:List ah} {l:List (List Nat)},RQ vs (l.map aP)->VL C W (l.map .str) vs
 |[],[],_=>VL.nil
 |[],_::_,h=>by cases h
 |v::vs,a::l,h=>by
  cases h with
  |cons x t h=>exact⟨_,_,rfl,⟨t,rfl⟩,Yk h⟩
theorem Wr{W:Wd}{l:aa}{ss:List (List Nat)}{vs:List ah}(h:nE l=some ss)(hv:VL C W l vs):RQ vs (ss.map aP):=by
 obtain⟨ts,hl,rfl⟩:=OJ h hv
 exact Qq ss ts hl
theorem Vq:aF C k (.builtin "sorted") pW:=rW fun A R W σ s a v Re q tk r ai e=>oE e fun l hl e=>oE e fun ss hss e=>kS e fun z e=>by
  apply s2 e
  refine ng Re hl q fun x n us hx hu=> ?_
  have hS:=Wr hss hu
  have hlen:us.length=ss.length:=hS.length.trans (aS ..)
  refine sorted_strs ⟨_,hx,rfl,n,rfl⟩ hS (by rw[hlen];exact av z) fun out ss' h1 h2 h3=> ?_
  obtain⟨e',he⟩:=sortedAll_at s.heap us out
  have q':=aaz h2 h3
  subst q'
  refine Re.newLst (n:=e') (fun b o hb=>sortedAll_old hb) ?_ (by rw[he]) (Yk h1) s.toks
  cases g:s.heap.get? (s.heap.objs.size+1)with
  |none=>rfl
  |some o=>exact absurd (co g) (b5.mpr (cJ _))
end
end
end
section
open PySem.SeqAt
noncomputable section
structure Kj(C:PC)(k:Nat)(Γ:cA):Prop where
 glb: ∀g x a,pM Γ.glb g=some (x,a)->na C x a
 fns: ∀f x F,pM Γ.fns f=some (x,F)-> ∃fv kF,na C x (.glob fv)/\oL C fv/\aF C kF fv F/\kF<=k
 mts: ∀n x D,pM Γ.mts n=some (x,D)-> ∃kF,dW C kF x D/\kF<=k
def RT(C:PC)(FN:List Str):Prop:= ∀i x,Ad FN i=some x->i<C.nf/\C.fname i=x
def yS(X:FX)(k:Nat)(m:EM)(e:an):Prop:= ∀i y py spos,kb X i y->lC X k (cK [i] m) (.Assign [.Name y py] e spos)
section
variable{X:FX}{k:Nat}{st:SI}{C:PC}
structure Gd(X:FX)(k:Nat)(st:SI)(c:Ck)(d:D):Prop where
 e: ∀x,c.e st x=true->bX X k d.e x
 u: ∀x,c.e st x=true->yS X k d.e x
 b: ∀x,c.b st x=true->m8 X k d.b x
 l: ∀x,c.l st x=true->zW X k d.l x
 o: ∀op x,c.o st op x=true->kP X k op d.e x
 a: ∀op x,c.a st op x=true->pJ X k op d.b x
 p: ∀x,c.p st x=true->Ft X k d.e x
 i: ∀x,c.i st x=true->Nk X k d.b x
theorem Gd.both{e b:SI->an->Bool}{m:EM}{n:BM}(he: ∀x,e st x=true->bX X k m x)(hu: ∀x,e st x=true->yS X k m x)(hb: ∀x,b st x=true->m8 X k n x):Gd X k st (.both e b) ⟨m,n,fun _ _=>none⟩:=
 ⟨he,hu,hb,fun _ h=>ff h,fun op xs h=>pe h fun x h=>kP.one (he x h),fun op xs h=>pe h fun x h=>pJ.one (hb x h),fun x h=>ah3 h fun y h=>Ft.some (he y h),fun xs h=>pe h fun x h=>L6 (hb x h)⟩
theorem XT{e:an}(h:PY e=true): ∀env w,isTrue e env w=(do let v <- w;standAt e.pos;holding [v] (truthy v)):=by
 cases e<;>first|exact ff h|exact fun _ _=>rfl
theorem Gd.ofE{e:SI->an->Bool}{m:EM}(he: ∀x,e st x=true->bX X k m x)(hu: ∀x,e st x=true->yS X k m x):Gd X k st (.ofE e) (.ofE m):=
 .both he hu fun x h=>aE h fun h1 h=>aeC (he x h) (XT h1)
theorem Us(H:gQ X st){m:EM}{e:an}(hm:bX X k m e)(hc:km e=true):yS X k m e:=fun i y py spos hx=>Yc H.ok H.sto hx hm (tl hc)
theorem Gd.ofE'(H:gQ X st){e:SI->an->Bool}{m:EM}(he: ∀x,e st x=true->bX X k m x/\km x=true):Gd X k st (.ofE e) (.ofE m):=
 .ofE (fun x h=>(he x h).1) fun x h=>Us H (he x h).1 (he x h).2
theorem Gd.both'(H:gQ X st){e b:SI->an->Bool}{m:EM}{n:BM}(he: ∀x,e st x=true->bX X k m x/\km x=true)(hb: ∀x,b st x=true->m8 X k n x):Gd X k st (.both e b) ⟨m,n,fun _ _=>none⟩:=
 .both (fun x h=>(he x h).1) (fun x h=>Us H (he x h).1 (he x h).2) hb
@[elab_as_elim] theorem aba {Q:List an->Prop} {f:an->Bool} {g:List an->Bool} {es:List an} (h:p9 f g es=true) (kk: ∀x y r,f x=true->g (y::r)=true->Q (x::y::r)):Q es:=
 UO h fun x r h=>aE h fun h1 h=>UO (Q:=fun r=>Q (x::r)) h fun y r h=>kk x y r h1 h
@[elab_as_elim] theorem XM {Q:an->Prop} {op:cz} {g:List an->Bool} {x:an} (h:s0 op g x=true) (kk: ∀es p,g es=true->Q (.BoolOp op es p)):Q x:=
 amq h fun o es p h=>aE h fun h1 h=>dE (Q:=fun o=>Q (.BoolOp o es p)) h1 (kk es p h)
theorem abX{P:Prop}{op op':cz}{f:an->Bool}{g:List an->Bool}{xs:List an}(h:aad op op' f g xs=true)(k1: ∀x,xs=[x]->f x=true->P)(k2:op=op'->g xs=true->P):P:=
 rE h (fun h=>pe (Q:=fun xs'=>xs=xs'->P) h (fun x h e=>k1 x e h) rfl) fun h=>aE h fun h1 h=>k2 (ag h1) h
theorem Gd.bool(H:gQ X st){op:cz}{a b:Ck}{da db:D}{m:EM}{n:BM}(ga:Gd X k st a da)(gb:Gd X k st b db)(hm: ∀e e' es,bX X k da.e e->kP X k op db.e (e'::es)->kP X k op m (e::e'::es))
  (hn: ∀e es,m8 X k da.b e->pJ X k op db.b es->pJ X k op n (e::es)):Gd X k st (.bool op a b) ⟨m,n,fun _ _=>none⟩:=
 have c1: ∀es,p9 (a.e st) (b.o st op) es=true->kP X k op m es:=fun es h=>aba h fun x y r h1 h2=>hm x y r (ga.e x h1) (gb.o op _ h2)
 have c2: ∀es,p9 (a.b st) (b.a st op) es=true->pJ X k op n es:=fun es h=>aba h fun x y r h1 h2=>hn x _ (ga.b x h1) (gb.a op _ h2)
 have he: ∀x,s0 op (p9 (a.e st) (b.o st op)) x=true->bX X k m x/\km x=true:=fun x h=>XM h fun es p h=>⟨(c1 es h).val,rfl⟩
 have hb: ∀x,s0 op (p9 (a.b st) (b.a st op)) x=true->m8 X k n x:=fun x h=>XM h fun es p h=>(c2 es h).test
 ⟨fun x h=>(he x h).1,fun x h=>Us H (he x h).1 (he x h).2,hb,fun _ h=>ff h,fun op' xs h=>abX h (fun x e h=>e▸kP.one (he x h).1) fun e h=>e▸c1 xs h,fun op' xs h=>abX h (fun x e h=>e▸pJ.one (hb x h)) fun e h=>e▸c2 xs h,
  fun x h=>ah3 h fun y h=>Ft.some (he y h).1,fun xs h=>pe h fun x h=>L6 (hb x h)⟩
theorem ald:Gd X k st afu ⟨fun _ _=>none,fun _ _=>none,aJ⟩:=
 ⟨fun _ _ A R W fr σ s T a ai e=>nn e,fun _ _ i y py spos hx A R W fr σ s T a e=>nn e,fun _ _ A R W fr σ s T a ai e=>nn e,fun xs h=>IY h fun _=>Ye,fun _ _ _ A R W fr σ s T a ai e=>nn e,fun _ _ _ A R W fr σ s T a ai e=>nn e,fun _ _ A R W fr σ s T a ai e=>nn e,fun _ _ A R W fr σ s T a ai e=>nn e⟩
theorem Z6{α:Type}{x:Str}{l:List (Str×α)}: ∀{i:Nat},Ad (l.map (·.1)) i=some x-> ∃a,pM l i=some (x,a):=by
 induction l with
 |nil=>intro i h;exact nn h
 |cons p r ih=>
  intro i h
  cases i with
  |zero=>exact s1 (P:=fun x=> ∃a,pM (p::r) 0=some (x,a)) (a:=p.1) h ⟨p.2,rfl⟩
  |succ i=>exact ih h
theorem PO{α:Type}{l:List (Str×α)}{i:Nat}{x:Str}{P:Prop}(h:NB (l.map (·.1)) i x=true)(kk: ∀a,pM l i=some (x,a)->P):P:=(Z6 (ag h)).elim kk
theorem abD(H:gQ X st){x:Str}{P:Prop}(h:Zx st x=true)(kk:X.env.kindOf x=some .globalImplicit->(x==("__debug__":Str))=false->P):P:=
 aE h fun h1 h2=>kk ((H.kind x).trans (beq_iff_eq.mp h1)) (pc h2)
theorem pd{e:an}(h:En e=true){env:Env}: ∀x,foldedSetIterable e env x=pure x:=by
 cases e<;>first|exact ff h|exact fun _=>rfl
theorem Zd{a:AV}{x:an}(h:Ci a x=true):bX X k (a6 a) x/\km x=true:=QI h fun c j p h=>by
 refine⟨?_,rfl⟩
 cases a<;>first|exact ff h|skip
 ·exact dE h aez
 ·exact dE h aep
 ·exact dE h ajV
 ·exact dE h (aj1 rfl)
 ·exact dE h aau
@[elab_as_elim] theorem abJ {i:Int} {Q:Option an->Prop} {o:Option an} (h:ZL i o=true) (kk: ∀j p,Q (some (.Constant (.int i) j p))):Q o:=ah3 h fun e h=>QI (Q:=fun e=>Q (some e)) h fun c j p h=>dE (Q:=fun c=>Q (some (.Constant c j p))) h (kk j p)
@[elab_as_elim] theorem strE {i:ac} {Q:an->Prop} {o:an} (h:Ci (.str i) o=true) (kk: ∀j p,Q (.Constant (.str (aP i)) j p)):Q o:=QI h fun c j p h=>dE (Q:=fun c=>Q (.Constant c j p)) h (kk j p)
theorem Zk{k1 k2:Int}{a b:ac}{x:an}(h:afO k1 k2 a b x=true):bX X k (bn (Hg [k1,k2]) (aw (a6 (.str a)) (aw (a6 (.str b)) aJ))) x/\km x=true:=
 acl h fun d e p h=>wK h fun y y' h=>wK h fun v v' h=>aE h fun h1 h=>aE h fun h2 h=>aE h fun h3 h=>aE h fun h4 h=>abJ h1 fun _ _=>abJ h2 fun _ _=>strE h3 fun _ _=>strE h4 fun _ _=>
  ⟨aev (of_decide_eq_false (pc h)) rfl rfl,rfl⟩
end
end
end
section
open PySem.SeqAt
noncomputable section
section
variable{k:Nat}{X:FX}{st:SI}
theorem aeI(H:gQ X st){scope:dS}{xs:ac}{tg:an}{f:List Str->Bool}{P:Prop}(h:Yo tg f=true)
  (kk: ∀ts,f ts=true->(oK st scope xs ts-> ∀s L,Tg (X.inner scope (OX X scope) (st.inner scope xs ts).at_ L s) xs tg)->P):P:=
 rE h (fun h=>pA (Q:=fun t=>t=tg->P) h (fun n p h e=>kk _ h fun K s L=>e▸match xs,K with
  |[i],K=>.name (xH H K (by rw[bJ,fX]))
  |[],K=>dM K.len
  |_::_::_,K=>dM K.len fun h=>dM h) rfl) fun h=>aaS (Q:=fun t=>t=tg->P) h (fun l c p h=>wK (Q:=fun l=>.Tuple l c p=tg->P) h fun a b h=>pA (Q:=fun a=>.Tuple [a,b] c p=tg->P) h fun n p1 h=>pA (Q:=fun b=>.Tuple [.Name n p1,b] c p=tg->P) h fun m p2 h e=>
   kk _ h fun K s L=>e▸match xs,K with
  |[i,j],K=>
   have hij:i≠j:=fun e=>(dL.mp K.xnodup).1 (e▸aO.mpr rfl)
   .two rfl (.cons (xH H K (by rw[bJ,fX])) (.cons (xH H K (by rw[bJ,cO,beq_eq_false_iff_ne.mpr (tf hij),bJ,fX])) .nil)) hij
  |[],K=>dM K.len
  |[_],K=>dM K.len fun h=>dM h
  |_::_::_::_,K=>dM K.len fun h=>dM h fun h=>dM h) rfl
section
variable{a b c l lo hi o i:Ck}{da db dc dl dlo dhi do_ di:D}{FN:List Str}{Γ:cA}
theorem ale:Gd X k st afv ⟨a6 .none,fun _ σ=>some (true,σ),aJ⟩:=
 ⟨fun _ h=>ff h,fun _ h=>ff h,fun _ h=>ff h,fun _ h=>ff h,fun _ _ h=>ff h,fun _ _ h=>ff h,fun x h=>(dA.mp h).symm ▸Ft.none,fun xs h=>(ej.mp h).symm ▸L5⟩
theorem alj(H:gQ X st){i:Nat}:Gd X k st (afC i) (.ofE (al i)):=Gd.ofE' H fun x h=>pA h fun y p h=>⟨uD H.ok (by rw[H.nm];exact ag h),rfl⟩
theorem aj8{l:List (Str×AV)}{i:Nat}{x:Str}{a:AV}(h:pM l i=some (x,a)):a=aca l i:=by unfold aca;rw[h]
theorem aj9{l:List (Str×aW)}{i:Nat}{x:Str}{a:aW}(h:pM l i=some (x,a)):a=acb l i:=by unfold acb;rw[h]
theorem aka{l:List (Str×gK)}{i:Nat}{x:Str}{a:gK}(h:pM l i=some (x,a)):a=acd l i:=by unfold acd;rw[h]
theorem ak8(eM:Kj X.C k Γ)(H:gQ X st){g:Nat}:Gd X k st (afp Γ.nms g) (.ofE (a6 (aca Γ.glb g))):=Gd.ofE' H fun x h=>pA h fun y p h=>aE h fun h h'=>abD H h fun h1 h2=>PO h' fun a ha=>
 ⟨aj8 ha▸Yd H.ok h1 h2 (eM.glb _ _ _ ha),rfl⟩
theorem ak5(H:gQ X st){op:iu}(ga:Gd X k st a da)(gb:Gd X k st b db):Gd X k st (afm op a b) (.ofE (bi (bT op) da.e db.e)):=Gd.ofE' H fun x h=>ao7 h fun l o r p h=>aE h fun h0 h=>aE h fun h1 h2=>dE h0 ⟨ajP (ga.e _ h1) (gb.e _ h2) Y1,rfl⟩
theorem alc(H:gQ X st)(ga:Gd X k st a da):Gd X k st (aft a) (.ofE (un ahO da.e)):=Gd.ofE' H fun x h=>akF h fun o r p h=>aE h fun h0 h=>dE h0 ⟨ajW (ga.e _ h),rfl⟩
theorem alf(H:gQ X st)(ga:Gd X k st a da):Gd X k st (afw a) ⟨rI (oZ (ja da.e)),oZ da.b,fun _ _=>none⟩:=Gd.both' H (fun x h=>akF h fun o r p h=>aE h fun h0 h=>dE h0 ⟨ajX (ga.e _ h),rfl⟩) fun x h=>akF h fun o r p h=>aE h fun h0 h=>dE h0 (aeA (ga.b _ h))
theorem ala(H:gQ X st)(gc:Gd X k st c dc)(ga:Gd X k st a da)(gb:Gd X k st b db):Gd X k st (afr c a b) (.ofE (sY dc.b da.e db.e)):=Gd.ofE' H fun x h=>aqk h fun t l r p h=>aE h fun h0 h=>aE h fun h1 h2=>⟨ajU (gc.b _ h0) (ga.e _ h1) (gb.e _ h2),rfl⟩
@[elab_as_elim] theorem abl {Q:an->Prop} {op:gP} {f g:an->Bool} {x:an} (h:Za op f g x=true) (kk: ∀l r p,behindInMarks op r=false->f l=true->g r=true->Q (.Compare l [op] [r] p)):Q x:=
 akA h fun l os rs p h=>pe h fun o h=>pe h fun r h=>aE h fun h0 h=>aE h fun h1 h=>aE h fun h2 h3=>dE (Q:=fun o=>Q (.Compare l [o] [r] p)) h0 (kk l r p (pc h1) h2 h3)
theorem ak6(hk:5<=k)(H:gQ X st){op:gP}(ga:Gd X k st a da)(gb:Gd X k st b db):Gd X k st (afn op a b) (.ofBool (fh (bU op) da.e db.e)):=
 Gd.both' H (fun x h=>abl h fun l r p h1 h2 h3=>⟨ajQ hk (ga.e _ h2) (gb.e _ h3) h1,rfl⟩) fun x h=>abl h fun l r p h1 h2 h3=>aet hk (ga.e _ h2) (gb.e _ h3) h1
@[elab_as_elim] theorem WQ {Q:an->Prop} {op op':gP} {f g f':an->Bool} {x:an} (h:UA op op' f g f' x=true) (kk: ∀l r r' p,lastMarks [op,op'] [r,r']=false->f l=true->g r=true->f' r'=true->Q (.Compare l [op,op'] [r,r'] p)):Q x:=
 akA h fun l os rs p h=>wK h fun o o' h=>wK h fun r r' h=>aE h fun h0 h=>aE h fun h0' h=>aE h fun h1 h=>aE h fun h2 h=>aE h fun h3 h4=>dE (Q:=fun o=>Q (.Compare l [o,o'] [r,r'] p)) h0 (dE (Q:=fun o'=>Q (.Compare l [op,o'] [r,r'] p)) h0' (kk l r r' p (pc h1) h2 h3 h4))
theorem agW(hk:5<=k)(H:gQ X st){op op':gP}(ga:Gd X k st a da)(gb:Gd X k st b db)(gc:Gd X k st c dc):Gd X k st (abc op op' a b c) (.ofBool (OT op op' da.e db.e dc.e)):=
 Gd.both' H (fun x h=>WQ h fun l r r' p h1 h2 h3 h4=>⟨aes hk (ga.e _ h2) (gb.e _ h3) (gc.e _ h4) h1,rfl⟩) fun x h=>WQ h fun l r r' p h1 h2 h3 h4=>aav hk (ga.e _ h2) (gb.e _ h3) (gc.e _ h4) h1
theorem ak4(hF:RT X.C FN)(H:gQ X st){kk:Nat}(ga:Gd X k st a da):Gd X k st (afl FN kk a) (.ofE (un (aA kk) da.e)):=Gd.ofE' H fun x h=>NI h fun o n p h=>aE h fun h0 h=>aE h fun h1 h2=>(hF _ _ (ag h0)).2▸⟨ajO (hF _ _ (ag h0)).1 h1 (ga.e _ h2),rfl⟩
theorem ak9(H:gQ X st)(ga:Gd X k st a da)(gi:Gd X k st i di):Gd X k st (afq a i) (.ofE (bi fM da.e di.e)):=Gd.ofE' H fun x h=>aaR h fun o j p h=>aE h fun h0 h=>aE h fun h1 h2=>⟨ajT (pc h0) (ga.e _ h1) (gi.e _ h2),rfl⟩
theorem alh(H:gQ X st)(ga:Gd X k st a da)(gl:Gd X k st lo dlo)(gh:Gd X k st hi dhi):Gd X k st (afA a lo hi) (.ofE (Ss da.e dlo.e dhi.e)):=Gd.ofE' H fun x h=>aaR h fun o j p h=>akD h fun l u s p' h=>aE h fun h0 h=>aE h fun h1 h=>aE h fun h2 h3=>dE h0 ⟨aj0 (ga.e _ h1) (gl.p _ h2) (gh.p _ h3),rfl⟩
theorem alb(H:gQ X st)(gl:Gd X k st l dl):Gd X k st (afs l) (.ofE (bn cU dl.l)):=Gd.ofE' H fun x h=>amr h fun es p h=>⟨aex (gl.l _ h),rfl⟩
theorem ali(H:gQ X st)(gl:Gd X k st l dl):Gd X k st (afB l) (.ofE (bn fU dl.l)):=Gd.ofE' H fun x h=>aaS h fun es j p h=>⟨aj2 (gl.l _ h),rfl⟩
theorem ak7(H:gQ X st):Gd X k st afo (.ofE FA):=Gd.ofE' H fun x h=>acl h fun d e p h=>IY h fun h=>IY h fun _=>⟨ajR,rfl⟩
theorem alg(H:gQ X st){n:Nat}(ga:Gd X k st a da):Gd X k st (afx n a) (.ofE (un (aiU n) da.e)):=Gd.ofE' H fun x h=>VE h fun f es ks p h=>NI h fun o m ap h=>wK h fun v v' h=>aE h fun h0 h=>aE h fun h1 h=>aE h fun h2 h=>IY h fun h=>aE h fun h3 h=>aE h fun h4 h=>
 strE h3 fun _ _=>strE h4 fun _ _=>dE h0 ⟨ajY h1 (beq_iff_eq.mpr (ag h2)) (ga.e _ h),rfl⟩
theorem agV(eM:Kj X.C k Γ)(H:gQ X st){f:Nat}(gl:Gd X k st l dl):Gd X k st (abb Γ.nms f l) (.ofE (bn (acb Γ.fns f) dl.l)):=Gd.ofE' H fun x h=>VE h fun g es ks p h=>pA h fun y p' h=>aE h fun h0 h=>aE h fun h1 h=>IY h fun h=>aE h fun h2 h=>
 abD H h0 fun g1 g2=>PO h1 fun F hFn=>apu (eM.fns _ _ _ hFn) fun fv kF e1 e2 e3 e4=>aj9 hFn▸⟨aer H.ok g1 g2 e1 e2 e3 e4 h2 (gl.l _ h),rfl⟩
theorem agZ(eM:Kj X.C k Γ)(H:gQ X st){n:Nat}(go:Gd X k st o do_)(gl:Gd X k st l dl):Gd X k st (abe Γ.nms n o l) (.ofE (cC (acd Γ.mts n) do_.e dl.l)):=Gd.ofE' H fun x h=>VE h fun g es ks p h=>NI h fun q y ap h=>aE h fun h0 h=>aE h fun h1 h=>aE h fun h2 h=>aE h fun h3 h=>IY h fun h=>aE h fun h4 h=>aE h fun h5 h=>
 PO h0 fun D hD=>apt (eM.mts _ _ _ hD) fun kF e1 e2=>aka hD▸⟨aey h1 (beq_iff_eq.mpr (ag h2)) (cX.mp h3) (go.e _ h5) e1 e2 h4 (gl.l _ h),rfl⟩
theorem agY(ga:Gd X k st a da)(gl:Gd X k st l dl):Gd X k st (abd a l) ⟨fun _ _=>none,fun _ _=>none,aw da.e dl.l⟩:=
 ⟨fun _ h=>ff h,fun _ h=>ff h,fun _ h=>ff h,fun xs h=>UO h fun x r h=>aE h fun h0 h=>aE h fun h1 h2=>KT (pc h0) (ga.e _ h1) (gl.l _ h2),fun _ _ h=>ff h,fun _ _ h=>ff h,fun _ h=>ff h,fun _ h=>ff h⟩
theorem aow{P:Prop}{m:Sem Bool}{b:Bool}(h:m=pure b)(kf:m=pure false->P)(kt:m=pure true->P):P:=by
 cases b with
 |false=>exact kf h
 |true=>exact kt h
theorem O0(H:gQ X st){scope:dS}{xs:ac}{ts:List Str}(K:oK st scope xs ts){it:EM}{body:List AV->Fm->AS->Option (List AV×AS)}{ee tg ie:an}{ifs:List an}{rest:List dK}{pos:Pos}
  (hi:bX X k it ie)(hs:En ie=true)(hloop: ∀s L,gQ (X.inner scope (OX X scope) (st.inner scope xs ts).at_ L s) (st.inner scope xs ts)->xm (X.inner scope (OX X scope) (st.inner scope xs ts).at_ L s) k (.ListComp ee (⟨tg,ie,ifs,0⟩::rest) scope pos) 0 xs body):
  bX X k (sX it body) (.ListComp ee (⟨tg,ie,ifs,0⟩::rest) scope pos)/\yS X k (sX it body) (.ListComp ee (⟨tg,ie,ifs,0⟩::rest) scope pos):=
 have hl:=fun s L hL=>hloop s L (adq H K hL)
 have hE:=aaw (O2 H K) hi (pd hs) hl
 ⟨hE,fun i y py spos hx=>aow (m:=swapsWith (.ListComp ee (⟨tg,ie,ifs,0⟩::rest) scope pos) (some (.Name y py)) spos.line X.env) rfl (fun h=>Yc H.ok H.sto hx hE h) fun h=>ael H.ok H.sto (O2 H K) hi (pd hs) hl hx h⟩
theorem IL(X:FX){scope:dS}{cl:List (Str×aC)}{nm:Nat->Option Str}{L:aC}{s:az}:(X.inner scope cl nm L s).C=X.C:=rfl
theorem agX(H:gQ X st){xs:ac}(gi:Gd X k st i di)(gc: ∀X' st',X'.C=X.C->gQ X' st'->Gd X' k st' c dc)(ge: ∀X' st',X'.C=X.C->gQ X' st'->Gd X' k st' a da):Gd X k st (Uz xs i c a) (.ofE (eI xs di.e dc.b da.e)):=
 have key: ∀x,(Uz xs i c a).e st x=true->bX X k (sX di.e (eA xs dc.b da.e)) x/\yS X k (sX di.e (eA xs dc.b da.e)) x:=fun x h=>acj h fun ee gs sc p h=>pe h fun g h=>Zv h fun tg ie fs h=>aeI H h fun ts h hT=>aE h fun h1 h=>aE h fun h2 h=>aE h fun h3 h=>aE h fun h4 h5=>
  O0 H (UB h3) (gi.e _ h1) h2 fun s L HI=>SW HI.ok HI.sto aeL (hT (UB h3) s L) ((gc _ _ (IL X) HI).i _ h4) ((ge _ _ (IL X) HI).e _ h5)
 Gd.ofE (fun x h=>(key x h).1) fun x h=>(key x h).2
theorem adi(H:gQ X st){x' y':Nat}(gi:Gd X k st i di)(g2: ∀X' st',X'.C=X.C->gQ X' st'->Gd X' k st' c dc)(ge: ∀X' st',X'.C=X.C->gQ X' st'->Gd X' k st' a da):Gd X k st (OW x' i y' c a) (.ofE (qA x' di.e y' dc.e da.e)):=
 have key: ∀x,(OW x' i y' c a).e st x=true->bX X k (sX di.e (fun l fr σ=>js x' dc.e y' da.e l (put fr y' .unb) σ)) x/\yS X k (sX di.e (fun l fr σ=>js x' dc.e y' da.e l (put fr y' .unb) σ)) x:=fun x h=>acj h fun ee gs sc p h=>wK h fun g g' h=>Zv h fun tg ie fs h=>Zv h fun tg' ie' fs' h=>pA h fun nx px h=>pA h fun ny py h=>IY h fun h=>IY h fun h=>
  aE h fun h1 h=>aE h fun h2 h=>aE h fun h2' h=>aE h fun h3 h=>aE h fun h4 h5=>
  have K:=UB h3
  have hxy:x'≠y':=fun e=>(dL.mp K.xnodup).1 (e▸aO.mpr rfl)
  have q:(y'==x')=false:=beq_eq_false_iff_ne.mpr (tf hxy)
  O0 H K (gi.e _ h1) h2 fun s L HI=>adF HI.ok HI.sto (xH H K (by rw[bJ,fX])) (xH H K (by rw[bJ,cO,q,bJ,fX])) hxy ((g2 _ _ (IL X) HI).e _ h4) (pd h2') ((ge _ _ (IL X) HI).e _ h5)
 Gd.ofE (fun x h=>(key x h).1) fun x h=>(key x h).2
end
theorem acI(hk:5<=k){FN:List Str}{Γ:cA}(t:T): ∀(X:FX) (st:SI),RT X.C FN->Kj X.C k Γ->gQ X st->Gd X k st (ck FN Γ.nms t) (gL Γ t):=by
 induction t with
 |nop=>exact fun X st hF eM H=>ale
 |cst a=>exact fun X st hF eM H=>Gd.ofE' H fun x h=>Zd h
 |var i=>exact fun X st hF eM H=>alj H
 |glb g=>exact fun X st hF eM H=>ak8 eM H
 |bin op a b ga gb=>exact fun X st hF eM H=>ak5 H (ga X st hF eM H) (gb X st hF eM H)
 |neg a ga=>exact fun X st hF eM H=>alc H (ga X st hF eM H)
 |not a ga=>exact fun X st hF eM H=>alf H (ga X st hF eM H)
 |and a b ga gb=>exact fun X st hF eM H=>Gd.bool H (ga X st hF eM H) (gb X st hF eM H) (fun _ _ _ h1 h2=>kP.and h1 h2) fun _ _ h1 h2=>pJ.and h1 h2
 |or a b ga gb=>exact fun X st hF eM H=>Gd.bool H (ga X st hF eM H) (gb X st hF eM H) (fun _ _ _ h1 h2=>kP.or h1 h2) fun _ _ h1 h2=>pJ.or h1 h2
 |ife c a b gc ga gb=>exact fun X st hF eM H=>ala H (gc X st hF eM H) (ga X st hF eM H) (gb X st hF eM H)
 |cmp op a b ga gb=>exact fun X st hF eM H=>ak6 hk H (ga X st hF eM H) (gb X st hF eM H)
 |cmp2 op op' a b c ga gb gc=>exact fun X st hF eM H=>agW hk H (ga X st hF eM H) (gb X st hF eM H) (gc X st hF eM H)
 |atr kk a ga=>exact fun X st hF eM H=>ak4 hF H (ga X st hF eM H)
 |idx a i ga gi=>exact fun X st hF eM H=>ak9 H (ga X st hF eM H) (gi X st hF eM H)
 |slc a lo hi ga gl gh=>exact fun X st hF eM H=>alh H (ga X st hF eM H) (gl X st hF eM H) (gh X st hF eM H)
 |lst l gl=>exact fun X st hF eM H=>alb H (gl X st hF eM H)
 |tup l gl=>exact fun X st hF eM H=>ali H (gl X st hF eM H)
 |dic=>exact fun X st hF eM H=>ak7 H
 |dicI k1 k2 a b=>exact fun X st hF eM H=>Gd.ofE' H fun x h=>Zk h
 |rep c a ga=>exact fun X st hF eM H=>alg H (ga X st hF eM H)
 |call f l gl=>exact fun X st hF eM H=>agV eM H (gl X st hF eM H)
 |meth n o l go gl=>exact fun X st hF eM H=>agZ eM H (go X st hF eM H) (gl X st hF eM H)
 |nil=>exact fun X st hF eM H=>ald
 |cons a l ga gl=>exact fun X st hF eM H=>agY (ga X st hF eM H) (gl X st hF eM H)
 |comp xs it c elt gi gc ge=>exact fun X st hF eM H=>agX H (gi X st hF eM H) (fun X' st' e HI=>gc X' st' (e▸hF) (e▸eM) HI) (fun X' st' e HI=>ge X' st' (e▸hF) (e▸eM) HI)
 |comp2 x it y it2 elt gi g2 ge=>exact fun X st hF eM H=>adi H (gi X st hF eM H) (fun X' st' e HI=>g2 X' st' (e▸hF) (e▸eM) HI) (fun X' st' e HI=>ge X' st' (e▸hF) (e▸eM) HI)
end
end
end
section
open PySem.SeqAt
noncomputable section
section
variable{k:Nat}{X:FX}{st:SI}
theorem og(H:gQ X st){i:Nat}{x:Str}(h:o8 st i x=true):kb X i x:=aE h fun h1 h=>
 ⟨by rw[H.nm];exact ag h1,rE h (fun h=>.inl ((H.kind x).trans (ag h))) fun h=>aE h fun h2 h3=>
  have h3:=ag h3
  aps (H.cells x (.inl (dH h3))) fun c hc=>.inr ⟨(H.kind x).trans h3,c,hc,H.own h2 _ _ hc⟩⟩
theorem S5(H:gQ X st){is:ac}: ∀{ts:List an},CI st is ts=true->pZ X is ts:=by
 induction is with
 |nil=>exact fun h=>IY h fun _=>.nil
 |cons i is ih=>exact fun h=>UO h fun t r h=>aE h fun h1 h2=>pA h1 fun n p h1=>.cons (og H h1) (ih h2)
@[elab_as_elim] theorem am6 {α:Type} {l:List α} {Q:List α->Prop} (h:bp 1 l.length=true) (kk: ∀i j r,Q (i::j::r)):Q l:=by
 cases l with
 |nil=>exact ff h
 |cons i l=>cases l with
  |nil=>exact ff h
  |cons j r=>exact kk i j r
theorem akZ{e:Env}{n:List (Str×fW)}(h1:e.scope.names=n)(h2:e.scope.kind= .function){st:SI}(h3:n=st.names){ts:List an}{v:an}:swappedStores ts v e=swappedStores ts v (afY st):=by
 cases e with
 |mk sc=>cases sc with
  |mk kd nm=>subst h2;subst h1;subst h3;rfl
structure w0(X:FX)(k:Nat)(st:SI)(c:sK)(m:SM):Prop where
 s: ∀x,c.s st x=true->lC X k m x
 ss: ∀x,c.ss st x=true->mM X k m x
 g:c.g st=true-> ∀W fr σ s,St X W fr σ s-> ∀r,m fr σ=some r-> ∃W' fr' ai,r= .next fr' ai/\W.le W'/\St X W' fr' ai s
theorem w0.one{c:SI->cn->Bool}{m:SM}(h: ∀x,c st x=true->lC X k m x):w0 X k st (.one c) m:=⟨h,fun _ h=>ff h,fun h=>ff h⟩
theorem XQ(H:gQ X st){is:ac}{names:List Str}{ts:List an}{c:Nat}{m:EM}{e:an}{p p':Pos}(h:(ah5 st is names||ah6 st is names)=true)(hm:bX X k m e)(hc:km e=true):swappedStores [.Tuple ts c p'] e X.env=pure (some names)->
  lC X k (cK is m) (.Assign [.Tuple ts c p'] e p):=
 rE h (fun h=>wK h fun i j h=>wK h fun x y h=>aE h fun h1 h=>aE h fun h2 h3 hw=>aeo H.ok H.sto (og H h1) (og H h2) (of_decide_eq_false (pc h3)) hm hc hw)
  fun h=>Yq h fun i j l h=>Yq h fun x y z h=>aE h fun h1 h=>aE h fun h2 h=>aE h fun h3 h=>aE h fun h4 h=>aE h fun h5 h6 hw=>aat H.ok H.sto (og H h1) (og H h2) (og H h3) (of_decide_eq_false (pc h4)) (of_decide_eq_false (pc h5)) (of_decide_eq_false (pc h6)) hm hc hw
theorem WB(H:gQ X st){is:ac}{ts:List an}{c:Nat}{m:EM}{e:an}{p p':Pos}(h:aa8 st is (.Tuple ts c p') ts e=true)(hm:bX X k m e)(hc:km e=true):lC X k (cK is m) (.Assign [.Tuple ts c p'] e p):=
 ae9 (Q:=fun m'=>swappedStores [.Tuple ts c p'] e X.env=m'->lC X k (cK is m) (.Assign [.Tuple ts c p'] e p)) h (fun o h hw=>match o,h,hw with
  |none,h,hw=>aE h fun h1 h2=>am6 (Q:=fun is=>CI st is ts=true->lC X k (cK is m) (.Assign [.Tuple ts c p'] e p)) h1 (fun i j r h2=>aen H.ok H.sto (S5 H h2) hm hc hw) h2
  |some names,h,hw=>XQ H h hm hc hw) (akZ H.names H.ok.kind rfl)
theorem adt{e:T}{Q:T->Prop}(h:Py e=true)(kk:Q (.cst .none)):Q e:=pC h fun hc h=>T.cst.elim (motive:=fun x=> ∀hc:x.ctorIdx=1,T.cst.elim (motive:=fun _=>Bool) x hc (fun a=>(sT a (some ())).isSome)=true->Q x) e hc (fun a _ h=>by
 cases a<;>first|exact ff h|exact kk) hc h
variable{e c i o it:Ck}{d dc di do_:D}{a b:sK}{m n:SM}{FN:List Str}{Γ:cA}
theorem ahh(H:gQ X st)(ge:Gd X k st e d):w0 X k st (WP e) (kQ d.e):=.one fun x h=>ai2 h fun v p h=>aE h fun h1 h2=>aew H.sto (ge.e _ h2) h1
theorem aln(H:gQ X st){j:Nat}(ge:Gd X k st e d):w0 X k st (abf j e) (cK [j] d.e):=.one fun x h=>Et h fun ts v p h=>pe h fun t h=>pA h fun y p' h=>aE h fun h1 h2=>ge.u _ h2 _ _ _ _ (og H h1)
theorem ahf(H:gQ X st){is:ac}(ge:Gd X k st e d):w0 X k st (WN is e) (cK is d.e):=.one fun x h=>Et h fun ts v p h=>pe h fun t h=>ams h fun q c p' h=>aE h fun h1 h=>aE h fun h2 h3=>WB H h3 (ge.e _ h2) h1
theorem ahd(hF:RT X.C FN){kk:Nat}(go:Gd X k st o do_)(ge:Gd X k st e d):w0 X k st (WL FN kk o e) (lM kk do_.e d.e):=.one fun x h=>Et h fun ts v p h=>pe h fun t h=>NI h fun q n p' h=>aE h fun h0 h=>aE h fun h1 h2=>(hF _ _ (ag h0)).2▸aek (hF _ _ (ag h0)).1 (ge.e _ h2) (go.e _ h1)
theorem ahe(go:Gd X k st o do_)(gi:Gd X k st i di)(ge:Gd X k st e d):w0 X k st (WM o i e) (Qf do_.e di.e d.e):=.one fun x h=>Et h fun ts v p h=>pe h fun t h=>aaR h fun q j p' h=>aE h fun h0 h=>aE h fun h1 h2=>aem (ge.e _ h2) (go.e _ h0) (gi.e _ h1)
theorem anP(gc:Gd X k st c dc)(ga:w0 X k st a m)(gb:w0 X k st b n):w0 X k st (afz c a b) (rV dc.b m n):=.one fun x h=>aoU h fun t l r p h=>aE h fun h0 h=>aE h fun h1 h2=>amk (gc.b _ h0) (ga.ss _ h1) (gb.ss _ h2)
theorem alr(gc:Gd X k st c dc)(gb:w0 X k st b n){j:Nat}:w0 X k st (abj c b) (Tf dc.b n j):=.one fun x h=>ai4 h fun t l r p h=>IY h fun h=>aE h fun h0 h1=>aax (gc.b _ h0) (gb.ss _ h1)
theorem ak3(H:gQ X st){xs:ac}{t:an}(h:agP st xs t=true):Sb X xs t:=rE h (fun h=>pe h fun i h=>pA h fun y p h=>Hu H.ok H.sto (og H h)) fun h=>aaS h fun q c p h=>aE h fun h1=>am6 h1 fun i j r h2=>KS H.ok H.sto (S5 H h2)
theorem alo(H:gQ X st){xs:ac}(gi:Gd X k st it di)(gb:w0 X k st b n):w0 X k st (abg xs it b) (gq xs di.e n):=.one fun x h=>amc h fun t j l r p h=>IY h fun h=>aE h fun h1 h=>aE h fun h2 h=>aE h fun h3 h4=>ajS (gi.e _ h3) (ak3 H h1) (gb.ss _ h4) (pd h2)
theorem alq{Γ:cA}{t:T}{FN:List Str}(ge:Gd X k st (ck FN Γ.nms t) (gL Γ t)):w0 X k st (abi (Py t) (ck FN Γ.nms t)) (eC (gL Γ t).e):=.one fun x h=>ad3 h fun o p h=>match o,h with
 |some v,h=>ajZ (ge.e _ h)
 |none,h=>adt (Q:=fun t=>lC X k (eC (gL Γ t).e) (.Return none p)) h aeB
theorem alp(H:gQ X st){j:Nat}:w0 X k st (abh j) (Qg j):=⟨fun _ h=>ff h,fun _ h=>ff h,fun h=>(eW.mp h).elim fun y hy=>agU (y:=y) (by rw[H.nm];exact hy)⟩
theorem ahg(ga:w0 X k st a m)(gb:w0 X k st b n):w0 X k st (WO a b) (aV m n):=⟨fun _ h=>ff h,fun xs h=>rE h (fun h=>aE h fun h1 h2=>Yg (ga.g h1) (gb.ss _ h2)) fun h=>UO h fun x r h=>aE h fun h1 h2=>aay (ga.s _ h1) (gb.ss _ h2),fun h=>ff h⟩
theorem Y5(hk:5<=k){FN:List Str}(hF:RT X.C FN){Γ:cA}(eM:Kj X.C k Γ)(H:gQ X st)(t:TS):w0 X k st (ckS FN Γ.nms t) (b4 Γ t):=by
 have g:=fun t=>acI hk t X st hF eM H
 induction t with
 |bad=>exact⟨fun _ _ A R W fr σ s T r e=>nn e,fun _ h=>ff h,fun h=>ff h⟩
 |expr e=>exact ahh H (g e)
 |asg i e=>exact aln H (g e)
 |asgT is e=>exact ahf H (g e)
 |asgA kk o e=>exact ahd hF (g o) (g e)
 |asgI o i e=>exact ahe (g o) (g i) (g e)
 |ifs c a b ga gb=>exact anP (g c) ga gb
 |whl c b gb=>exact alr (g c) gb
 |for_ xs it b gb=>exact alo H (g it) gb
 |ret e=>exact alq (g e)
 |cont=>exact .one fun x h=>amb h fun p _=>aeu
 |frz i=>exact alp H
 |nil=>exact⟨fun _ h=>ff h,fun xs h=>IY h fun _=>aeD,fun h=>ff h⟩
 |cons a b ga gb=>exact ahg ga gb
end
end
end
section
open PySem.SeqAt
noncomputable section
section
variable{k:Nat}{C:PC}
noncomputable def abn(d:A8)(f:gz->Bool):Bool:=match d with
 | .func fd=>f fd
 |_=>false
@[elab_as_elim] theorem afH {Q:A8->Prop} {d:A8} {f:gz->Bool} (h:abn d f=true) (k: ∀fd,f fd=true->Q (.func fd)):Q d:=by
 cases d<;>first|exact ff h|exact k _ h
noncomputable def amF(d:NK)(f:List cn->Bool):Bool:=match d with
 | .stmts b=>f b
 |_=>false
@[elab_as_elim] theorem ank {Q:NK->Prop} {d:NK} {f:List cn->Bool} (h:amF d f=true) (k: ∀b,f b=true->Q (.stmts b)):Q d:=by
 cases d<;>first|exact ff h|exact k _ h
noncomputable def fdB(K:dQ)(n:Nat)(dfl:aa)(nm:List (Nat×Str))(fd:gz)(ps:List Str):Bool:=
 codeIn K fd.code fd.qualname&&(fd.closure.isEmpty&&(fd.globals==mainGlobals&&(fd.builtins==builtinsNs&&(fd.scope.kind== .function&&(!fd.scope.isCoroutine&&(!fd.scope.isGenerator&&
 (fd.params.posonlyargs.isEmpty&&(fd.params.kwonlyargs.isEmpty&&(fd.params.vararg.isNone&&(fd.params.kwarg.isNone&&(ps.length==n&&(cP dfl.length n&&(afN K dfl fd.defaults&&(o9 ps&&
 (ps.all (fun x=>fd.scope.names.lookup x==some .local||fd.scope.names.lookup x==some .cell)&&(((ct n).zip ps).all (fun p=>nm.lookup p.1==some p.2)&&(nm.all (fun p=>zi p.2)&&(o9 (nm.map (·.2))&&
 fd.scope.names.all (fun y=>y.2 != .free)))))))))))))))))))
noncomputable def fnB(K:dQ)(FN:List Str)(f:aC)(n:Nat)(dfl:aa)(nm:List (Nat×Str))(N:V3)(t:TS):Bool:=Hk (K.lookup f) fun o=>abn o.data fun fd=>amF fd.body fun body=>fdB K n dfl nm fd (fd.params.args.map (·.arg))&&(ckS FN N t).ss ⟨fd.scope.names,nm,true⟩ body
theorem aaV{ps:List Str}{i:Nat}{x:Str}(h:ps[i]? =some x):(i,x)∈(ct ps.length).zip ps:=by
 rw[List.mem_iff_getElem?]
 refine⟨i,?_⟩
 have hi:=(cL.mp h).1
 rw[sG]
 exact⟨by simp[hi],h⟩
structure FdB(K:dQ)(n:Nat)(dfl:List AV)(nm:List (Nat×Str))(fd:gz)(ps:List Str):Prop where
 h1:codeIn K fd.code fd.qualname=true
 h2:fd.closure.isEmpty=true
 h3:(fd.globals==mainGlobals)=true
 h4:(fd.builtins==builtinsNs)=true
 h5:(fd.scope.kind== .function)=true
 h6:(!fd.scope.isCoroutine)=true
 h7:(!fd.scope.isGenerator)=true
 h8:fd.params.posonlyargs.isEmpty=true
 h9:fd.params.kwonlyargs.isEmpty=true
 ha:fd.params.vararg.isNone=true
 hb:fd.params.kwarg.isNone=true
 hc:(ps.length==n)=true
 hd:cP dfl.length n=true
 he:afN K dfl fd.defaults=true
 hf:o9 ps=true
 hg:ps.all (fun x=>fd.scope.names.lookup x==some .local||fd.scope.names.lookup x==some .cell)=true
 hi:((ct n).zip ps).all (fun p=>nm.lookup p.1==some p.2)=true
 hj:nm.all (fun p=>zi p.2)=true
 hk:o9 (nm.map (·.2))=true
 hl:fd.scope.names.all (fun y=>y.2 != .free)=true
theorem FdB.of{K:dQ}{n:Nat}{dfl:aa}{nm:List (Nat×Str)}{fd:gz}{ps:List Str}(h:fdB K n dfl nm fd ps=true):FdB K n dfl nm fd ps:=
 aE h fun h1 h=>aE h fun h2 h=>aE h fun h3 h=>aE h fun h4 h=>aE h fun h5 h=>aE h fun h6 h=>aE h fun h7 h=>aE h fun h8 h=>aE h fun h9 h=>aE h fun h10 h=>aE h fun h11 h=>aE h fun h12 h=>aE h fun h13 h=>aE h fun h14 h=>aE h fun h15 h=>aE h fun h16 h=>aE h fun h17 h=>aE h fun h18 h=>aE h fun h19 h20=>⟨h1,h2,h3,h4,h5,h6,h7,h8,h9,h10,h11,h12,h13,h14,h15,h16,h17,h18,h19,h20⟩
theorem agN{f:aC}{o:Obj}(ho:C.K.lookup f=some o){n:Nat}{dfl:aa}{nm:List (Nat×Str)}{fd:gz}{body:List cn}(hd:o.data= .func fd)(hb:fd.body= .stmts body){ps:List Str}(hps:fd.params.args.map (·.arg)=ps)(h:fdB C.K n dfl nm fd ps=true):
  ps.length=n/\aeV C f fd body ps dfl (⟨fd.scope.names,nm,true⟩:SI).at_/\ ∀X,aaY C fd (⟨fd.scope.names,nm,true⟩:SI).at_ X->gQ X ⟨fd.scope.names,nm,true⟩:=
 by
 have H:=FdB.of h
 have h5:=beq_iff_eq.mp H.h5
 obtain rfl:ps.length=n:=beq_iff_eq.mp H.hc
 have hdl:=av H.hd
 refine⟨rfl,⟨⟨o,ho,hd⟩,H.h1,hb,ej.mp H.h2,beq_iff_eq.mp H.h3,beq_iff_eq.mp H.h4,h5,pc H.h6,pc H.h7,fun W σ s args vs R hv hl hl2=> ?_,j5 H.hf,fun x hx=> ?_,fun i x hi hx=> ?_,fun i x hx=> ?_⟩,fun X B=> ?_⟩
 ·obtain⟨d,hd1,hd2⟩:=Zj (s:=s) H.he R
  have hlen:=hd1.length
  have hvl:=hv.length
  refine⟨vs++(d.getD #[]).toList.drop (vs.length+(d.getD #[]).toList.length -ps.length),?_,WI (ej.mp H.h8) (ej.mp H.h9) (dA.mp H.ha) (dA.mp H.hb) hps hd2 rfl (by rw[hvl];exact hl) (by rw[hvl,hlen];exact hl2) (by rw[hlen];exact hdl) (j5 H.hf)⟩
  rw[hlen,hvl]
  exact hv.append (hd1.drop _)
 ·exact rE (bR.mp H.hg x hx) (fun h=>.inl (beq_iff_eq.mp h)) fun h=>.inr (beq_iff_eq.mp h)
 ·have hp:ps[i]? =some ps[i]:=eS hi
  have hz:=beq_iff_eq.mp (bR.mp H.hi _ (aaV hp))
  exact hp.trans (hz.symm.trans hx)
 ·exact pc (bR.mp H.hj _ (dH hx))
 ·refine⟨by rw[B.scope],B.nm,B.ok,⟨fun i j x hi hj=> ?_,?_⟩,fun n hn=> ?_,fun _=>B.own⟩
  ·rw[B.nm]at hi hj
   exact KU (j5 H.hk) (dH hi) (dH hj)
  ·unfold interactive;rw[B.scope,h5];rfl
  ·exact hn.elim (B.cells n) fun hn=>absurd rfl (bne_iff_ne.mp (bR.mp H.hl _ hn))
theorem ade{f:aC}{o:Obj}(ho:C.K.lookup f=some o){n:Nat}{dfl:aa}{nm:List (Nat×Str)}{fd:gz}{body:List cn}(hd:o.data= .func fd)(hb:fd.body= .stmts body){ps:List Str}(hps:fd.params.args.map (·.arg)=ps){b:SM}(h:fdB C.K n dfl nm fd ps=true)
  (hs: ∀X:FX,X.C=C->gQ X ⟨fd.scope.names,nm,true⟩->mM X k b body):pK C (k+1) (.ref f) (bf n dfl b):=by
 obtain⟨rfl,F,H⟩:=agN ho hd hb hps h
 exact ajN F fun X B=>hs X B.C (H X B)
theorem adf(hk:5<=k){FN:List Str}(hF:RT C FN){Γ:cA}(eM:Kj C k Γ){f:aC}{n:Nat}{dfl:aa}{nm:List (Nat×Str)}{t:TS}(h:fnB C.K FN f n dfl nm Γ.nms t=true):pK C (k+1) (.ref f) (bf n dfl (b4 Γ t)):=LV h fun o ho h=>
 afH (d:=o.data) (Q:=fun d=>o.data=d->pK C (k+1) (.ref f) (bf n dfl (b4 Γ t))) h (fun fd h hd=>ank (d:=fd.body) (Q:=fun b=>fd.body=b->pK C (k+1) (.ref f) (bf n dfl (b4 Γ t))) h (fun body h hb=>aE h fun h1 h2=>
  ade ho hd hb rfl h1 fun X e H=>(Y5 hk (e▸hF) (e▸eM) H t).ss _ h2) rfl) rfl
end
end
end
section
mutual
noncomputable def ux(f:Nat->Option Nat):AV->Option AV
 | .ref a=>(f a).map .ref
 | .tup l=>(oh f l).map .tup
 | .lst l=>(oh f l).map .lst
 | .frz c ks l=>(oh f l).map (.frz c ks)
 | .dct ks l=>(oh f l).map (.dct ks)
 | .dcti ks l=>(oh f l).map (.dcti ks)
 | .unb=>some .unb
 | .none=>some .none
 | .opq=>some .opq
 | .bool b=>some (.bool b)
 | .int i=>some (.int i)
 | .str s=>some (.str s)
 | .bytes s=>some (.bytes s)
 | .rng a b=>some (.rng a b)
 | .glob v=>some (.glob v)
noncomputable def oh(f:Nat->Option Nat):List AV->Option (List AV)
 |[]=>some []
 |a::l=>ob (ux f a) fun b=>ob (oh f l) fun m=>some (b::m)
end
noncomputable def ab3(f:Nat->Option Nat):bF->Option bF
 | .lst l=>(oh f l).map .lst
 | .inst c ks l=>(oh f l).map (.inst c ks)
 | .dct ks l=>(oh f l).map (.dct ks)
 | .orc k l=>some (.orc k l)
noncomputable def ZR:Nat->List Nat->Nat->Option Nat
 |_,[],_=>none
 |n,b::r,a=>bif aj a b then some n else ZR (n+1) r a
noncomputable def Xa(f:Nat->Option Nat)(σ:AS):Nat->List Nat->Option (List (Nat×bF))
 |_,[]=>some []
 |n,b::r=>ob (σ.get b) fun c=>ob (ab3 f c) fun c'=>ob (Xa f σ (n+1) r) fun m=>some ((n,c')::m)
noncomputable def FI(a:Nat):List Nat->Bool
 |[]=>false
 |b::r=>aj a b||FI a r
noncomputable def ndN:List Nat->Bool
 |[]=>true
 |a::r=> !FI a r&&ndN r
noncomputable def imp(f:Nat->Option Nat)(ids:ac)(n:Nat)(cells:List (Nat×bF))(a:AV)(ai:AS):Option (AV×AS):=bif ndN ids then ob (ux f a) (fun b=>ob (Xa f ai n ids) fun cs=>some (b,⟨n+ids.length,cs++cells⟩))else none
noncomputable def vF(pick:AV->AS->List Nat)(F:aW):aW:=fun args σ=>bif aN args then bu (F args ⟨0,[]⟩) (fun a ai=>imp (ZR σ.next (pick a ai)) (pick a ai) σ.next σ.cells a ai)else none
noncomputable def Xf(r n:Nat)(ids:ac):Nat->Option Nat
 |0=>some r
 |a+1=>ZR n ids (a+1)
noncomputable def sh{β:Type}(σ:AS)(x:Nat)(f:Nat->List AV->Option β):Option β:=ob (σ.get x) fun c=>match c with
 | .orc k l=>f k l
 |_=>none
theorem FK{β:Type}{σ:AS}{x:Nat}{f:Nat->List AV->Option β}{r:β}{P:Prop}(h:sh σ x f=some r)(k: ∀n l,σ.get x=some (.orc n l)->f n l=some r->P):P:=oE h fun c hc h=>by
 cases c with
 |orc n l=>exact k n l hc h
 |_=>exact nn h
noncomputable def qX{α β:Type}(l:List α)(f:α->List α->Option β):Option β:=bq (motive:=fun _=>Option β) none (fun a r _=>f a r) l
@[elab_as_elim] theorem kD {α β:Type} {Q:List α->Prop} {l:List α} {f:α->List α->Option β} {r:β} (h:qX l f=some r) (k: ∀a m,f a m=some r->Q (a::m)):Q l:=by
 cases l with
 |nil=>exact nn h
 |cons a m=>exact k a m h
noncomputable def t9(pick:AV->AS->List Nat)(F:aW):aW:=fun args σ=>qX args fun a as=>ia a fun r=>bif aN as then sh σ r (fun k l=>bu (F (.ref 0::as) ⟨1,[(0,.orc k l)]⟩) fun a ai=>sh ai 0 fun k' l'=>bif FI 0 (pick a ai)then none else imp (Xf r σ.next (pick a ai)) (pick a ai) σ.next (lm r (.orc k' l') σ.cells) a ai)else none
section
variable{k:Nat}{C:PC}{W W' W'':Wd}{σ ai:AS}{h h':bH}
theorem IW{α β:Type}{o:Option α}{g:α->β}{b:β}{P:β->Prop}(e:o.map g=some b)(k: ∀a,o=some a->P (g a)):P b:=by
 cases o with
 |none=>exact nn e
 |some a=>exact s1 e (k a rfl)
mutual
theorem ab2{f:Nat->Option Nat}(xG: ∀i j p,f i=some j->W.ρ i=some p->W'.ρ j=some p)(hi: ∀x o,W.im x=some o->W'.im x=some o):
  ∀{a b:AV} {v:ah},ux f a=some b->V C W a v->V C W' b v
 | .unb,_,_,e,q=>q.elim
 | .none,b,v,e,q=>s1 (P:=fun b=>V C W' b v) e q
 | .opq,b,v,e,q=>s1 (P:=fun b=>V C W' b v) e trivial
 | .bool _,b,v,e,q=>s1 (P:=fun b=>V C W' b v) e q
 | .int _,b,v,e,q=>s1 (P:=fun b=>V C W' b v) e q
 | .str _,b,v,e,q=>s1 (P:=fun b=>V C W' b v) e q
 | .bytes _,b,v,e,q=>s1 (P:=fun b=>V C W' b v) e q
 | .tup l,b,v,e,q=>IW (P:=fun b=>V C W' b v) e fun m e1=>q.tupE fun x n vs q r=>⟨x,n,vs,rfl,hi _ _ q,qF xG hi e1 r⟩
 | .lst l,b,v,e,q=>IW (P:=fun b=>V C W' b v) e fun m e1=>q.lstE fun x n vs q r=>⟨x,n,vs,rfl,hi _ _ q,qF xG hi e1 r⟩
 | .frz c ks l,b,v,e,q=>IW (P:=fun b=>V C W' b v) e fun m e1=>q.frzE fun x d es n vs q0 q1 q2 r z=>⟨x,d,es,n,vs,rfl,q0,hi _ _ q1,hi _ _ q2,qF xG hi e1 r,z⟩
 | .dct ks l,b,v,e,q=>IW (P:=fun b=>V C W' b v) e fun m e1=>q.dctE fun x o vs q0 q1 r z=>⟨x,o,vs,rfl,q0,hi _ _ q1,qF xG hi e1 r,z⟩
 | .dcti ks l,b,v,e,q=>IW (P:=fun b=>V C W' b v) e fun m e1=>q.dctiE fun x o vs q0 q1 r z=>⟨x,o,vs,rfl,q0,hi _ _ q1,qF xG hi e1 r,z⟩
 | .rng _ _,b,v,e,q=>s1 (P:=fun b=>V C W' b v) e (q.rngE fun x t u w q z1 z2=>⟨x,t,u,w,rfl,hi _ _ q,z1,z2⟩)
 | .ref _,b,v,e,q=>IW (P:=fun b=>V C W' b v) e fun m e1=>q.refE fun p e=>⟨p,xG _ _ _ e1 e,rfl⟩
 | .glob _,b,v,e,q=>s1 (P:=fun b=>V C W' b v) e q
theorem qF{f:Nat->Option Nat}(xG: ∀i j p,f i=some j->W.ρ i=some p->W'.ρ j=some p)(hi: ∀x o,W.im x=some o->W'.im x=some o):
  ∀{l m:List AV} {vs:List ah},oh f l=some m->VL C W l vs->VL C W' m vs
 |[],m,vs,e,q=>s1 (P:=fun m=>VL C W' m vs) e q
 |a::l,m,vs,e,q=>q.consE fun v r q1 q2=>oE (show ob (ux f a) (fun b=>ob (oh f l) fun m=>some (b::m))=some m from e) fun b hb e=>oE e fun m' hm e=>s1 (P:=fun m=>VL C W' m (v::r)) e ⟨v,r,rfl,ab2 xG hi hb q1,qF xG hi hm q2⟩
end
mutual
theorem ue{f:Nat->Option Nat}: ∀{a:AV},noRef a=true->ux f a=some a
 | .unb,_=>rfl
 | .none,_=>rfl
 | .opq,_=>rfl
 | .bool _,_=>rfl
 | .int _,_=>rfl
 | .str _,_=>rfl
 | .bytes _,_=>rfl
 | .tup l,e=>by show(oh f l).map _=_;rw[jt (l:=l) e];rfl
 | .lst l,e=>by show(oh f l).map _=_;rw[jt (l:=l) e];rfl
 | .frz c ks l,e=>by show(oh f l).map _=_;rw[jt (l:=l) e];rfl
 | .dct ks l,e=>by show(oh f l).map _=_;rw[jt (l:=l) e];rfl
 | .dcti ks l,e=>by show(oh f l).map _=_;rw[jt (l:=l) e];rfl
 | .rng _ _,_=>rfl
 | .ref _,e=>by cases e
 | .glob _,_=>rfl
theorem jt{f:Nat->Option Nat}: ∀{l:aa},aN l=true->oh f l=some l
 |[],_=>rfl
 |a::l,e=>by
  have e:(noRef a&&aN l)=true:=e
  rw[cD]at e
  show ob (ux f a) _=_
  rw[ue e.1]
  show ob (oh f l) _=_
  rw[jt e.2];rfl
end
theorem xN(hi: ∀x o,W.im x=some o->W'.im x=some o){l:aa}{vs:List ah}(e:aN l=true)(q:VL C W l vs):VL C W' l vs:=
 qF (f:=fun _=>none) (fun _ _ _ e=>by cases e) hi (jt e) q
theorem Rr(hi: ∀x o,W.im x=some o->W'.im x=some o){p:aC×aC}{c:bF}(e:Ea c=true)(x:iI C W h p c):iI C W' h p c:=by
 cases c with
 |lst _=>obtain⟨a,vs,n,b,r⟩:=x;exact⟨a,vs,n,b,xN hi e r⟩
 |inst cc ks fs=>obtain⟨q0,a,es,n,vs,b,r,z⟩:=x;exact⟨q0,hi _ _ a,es,n,vs,b,xN hi e r,z⟩
 |dct ks fs=>obtain⟨a,q0,o,vs,b,r,z⟩:=x;exact⟨a,q0,o,vs,b,xN hi e r,z⟩
 |orc=>exact x
theorem yX(hi: ∀x o,W.im x=some o->W'.im x=some o){p:aC×aC}{kk:Nat}{l:aa}(x:dT C W h p (.orc kk l)):dT C W' h p (.orc kk l):=by
 obtain⟨c,q,x⟩:=x
 exact⟨c,q,Rr hi (C.concFree _ _ _ q) x⟩
theorem alW{f:Nat->Option Nat}(xG: ∀i j p,f i=some j->W.ρ i=some p->W'.ρ j=some p)(hi: ∀x o,W.im x=some o->W'.im x=some o){p:aC×aC}{c c':bF}(e:ab3 f c=some c')(x:dT C W h p c):dT C W' h p c':=by
 cases c with
 |lst _=>exact IW (P:=fun c'=>dT C W' h p c') e fun m e1=>let⟨a,vs,n,b,r⟩:=x;⟨a,vs,n,b,qF xG hi e1 r⟩
 |inst cc ks fs=>exact IW (P:=fun c'=>dT C W' h p c') e fun m e1=>let⟨q0,a,es,n,vs,b,r,z⟩:=x;⟨q0,hi _ _ a,es,n,vs,b,qF xG hi e1 r,z⟩
 |dct ks fs=>exact IW (P:=fun c'=>dT C W' h p c') e fun m e1=>let⟨a,q0,o,vs,b,r,z⟩:=x;⟨a,q0,o,vs,b,qF xG hi e1 r,z⟩
 |orc=>exact s1 (P:=fun c'=>dT C W' h p c') e (yX hi x)
theorem SN{ids:ac}: ∀{n a j:Nat},ZR n ids a=some j->n<=j/\ids[j-n]? =some a:=by
 induction ids with
 |nil=>exact fun e=>nn e
 |cons b r ih=>
  intro n a j e
  refine bE (show(bif aj a b then some n else ZR (n+1) r a)=some j from e) (fun q e=> ?_) fun _ e=> ?_
  ·refine s1 (P:=fun j=>n<=j/\(b::r)[j-n]? =some a) e ⟨ax _,?_⟩
   rw[Be,aD q];rfl
  ·obtain⟨h1,h2⟩:=ih e
   refine⟨EL h1,?_⟩
   rw[<- tw j n,NR h1];exact h2
theorem ahI{a n:Nat}{c:bF}{l:List (Nat×bF)}(h:a≠n):lk a ((n,c)::l)=lk a l:=by rw[nd,fS,decide_eq_false h];rfl
theorem ahH{n:Nat}{c:bF}{l:List (Nat×bF)}:lk n ((n,c)::l)=some c:=by rw[nd,fS,decide_eq_true rfl];rfl
theorem adn{f:Nat->Option Nat}{ids:ac}: ∀{n:Nat} {cs:List (Nat×bF)},Xa f ai n ids=some cs-> ∀(rest:List (Nat×bF)) (a:Nat),
  (∃i c c',n<=a/\ids[a-n]? =some i/\ai.get i=some c/\ab3 f c=some c'/\lk a (cs++rest)=some c')\/((a<n\/n+ids.length<=a)/\lk a (cs++rest)=lk a rest):=by
 induction ids with
 |nil=>exact fun{n cs} e rest a=>s1 (P:=fun cs=>_\/((a<n\/n+([]:List Nat).length <=a)/\lk a (cs++rest)=lk a rest)) e (.inr ⟨oB a n,rfl⟩)
 |cons b r ih=>
  intro n cs e rest a
  refine oE (show ob (ai.get b) _=some cs from e) fun c hc e=>oE e fun c' hc' e=>oE e fun m hm e=> ?_
  apply s1 e
  by_cases q:a=n
  ·subst q
   exact .inl ⟨b,c,c',ax _,by rw[Be];rfl,hc,hc',ahH⟩
  ·rw[eR,ahI q]
   rcases ih hm rest a with⟨i,eL,Cj,h1,h2,h3,h4,h5⟩|⟨h1,h2⟩
   ·exact .inl ⟨i,eL,Cj,EL h1,by rw[<- tw a n,NR h1];exact h2,h3,h4,h5⟩
   ·refine .inr ⟨h1.imp (fun h=>Nat.lt_of_le_of_ne (EK h) q) fun h=> ?_,h2⟩
    rw[bK,<- Nat.succ_add_eq_add_succ];exact h
theorem KA{a:Nat}: ∀{l:ac},FI a l=true↔a∈l
 |[]=>by simp[FI]
 |b::r=>by rw[FI,ow,KA,fS,decide_eq_true_iff,aH]
theorem Xp: ∀{l:ac},ndN l=true->l.Nodup
 |[],_=>lU
 |a::r,e=>by
  rw[ndN,cD,dX]at e
  refine dL.mpr ⟨fun q=> ?_,Xp e.2⟩
  rw[KA.mpr q]at e;cases e.1
def Gu(W:Wd)(σ:AS)(ro:Option Nat)(b:aC):Prop:= ∃a c p,some a≠ro/\σ.get a=some c/\W.ρ a=some p/\p.2=b
open Classical in
noncomputable def Wd.loc(W:Wd)(σ:AS)(h:bH)(ro:Option Nat):Wd:=⟨fun i=>if i=0 then ro.bind W.ρ else none,W.im,fun b=>if Gu W σ ro b then h.get? b else W.pr b⟩
noncomputable def Pw(n:Nat)(ids:ac)(a:Nat):Option Nat:=if n<=a then ids[a-n]? else none
noncomputable def Wd.imp(W W':Wd)(n:Nat)(ids:ac):Wd:=⟨fun a=>match Pw n ids a with
 |some i=>W'.ρ i
 |none=>W.ρ a,W'.im,W.pr⟩
theorem IV{ro:Option Nat}{b:aC}(hb:Gu W σ ro b):(W.loc σ h ro).pr b=h.get? b:=if_pos hb
theorem CE{ro:Option Nat}{b:aC}(hb: ¬Gu W σ ro b):(W.loc σ h ro).pr b=W.pr b:=if_neg hb
theorem cu.loc(R:cu C W σ h){ro:Option Nat}{σ0:AS}(hn:1<=σ0.next\/ro=none)(hc: ∀a c,σ0.get a=some c->a=0/\ ∃r kk l,ro=some r/\c= .orc kk l/\σ.get r=some c):cu C (W.loc σ h ro) σ0 h:=by
 refine⟨R.base,R.im,fun b o e=> ?_,fun b o e=> ?_,fun a ha=> ?_,fun a c e=> ?_,fun a b ca cb p q e e' _ _ _=>(hc a ca e).1.trans (hc b cb e').1.symm⟩
 ·by_cases hb:Gu W σ ro b
  ·rw[IV hb]at e;exact e
  ·rw[CE hb]at e;exact R.pr _ _ e
 ·by_cases hb:Gu W σ ro b
  ·obtain⟨a,c,p,_,h2,h3,rfl⟩:=hb
   obtain⟨p',e',_,h4,_⟩:=R.cell a c h2
   rw[h3]at e';cases e';exact h4
  ·rw[CE hb]at e;exact R.dis _ _ e
 ·show(if a=0 then ro.bind W.ρ else none)=none
  rcases hn with hn|rfl
  ·rw[if_neg (by omega)]
  ·split<;>rfl
 ·obtain⟨rfl,r,kk,l,rfl,rfl,hr⟩:=hc a c e
  obtain⟨p,a1,a2,a3,a4⟩:=R.cell _ _ hr
  refine⟨p,by show(if 0=0 then(some r).bind W.ρ else none)=_;rw[if_pos rfl];exact a1,yX (W':=W.loc σ h (some r)) (W:=W) (fun _ _ e=>e) a2,a3,?_⟩
  rw[CE]
  ·exact a4
  ·rintro⟨a',c',p',h1,h2,h3,h4⟩
   exact h1 (congrArg some (R.inj _ _ _ _ _ _ h2 hr h3 a1 h4))
abbrev api(σ ai:AS)(ids:List Nat)(f:Nat->Option Nat)(ro:Option Nat)(a:Nat)(c:bF):Prop:=
 (∃i eL,σ.next<=a/\ids[a-σ.next]? =some i/\ai.get i=some eL/\ab3 f eL=some c)\/
   (some a≠ro/\σ.get a=some c)\/(some a=ro/\(∃eL,σ.get a=some eL)/\(∃kk ll,c= .orc kk ll)/\ai.get 0=some c)
abbrev apf(W W':Wd)(σ ai:AS)(ids:List Nat)(ro:Option Nat)(a:Nat)(c:bF)(p:aC×aC):Prop:=
 (∃i eL,ai.get i=some eL/\W'.ρ i=some p/\W'.pr p.2=none/\((σ.next<=a/\ids[a-σ.next]? =some i)\/(some a=ro/\i=0)))\/(some a≠ro/\σ.get a=some c/\W.ρ a=some p/\ ∃o,W'.pr p.2=some o)
abbrev apc(C:PC)(W:Wd)(h:bH)(a:Nat)(c:bF):Prop:= ∃p,W.ρ a=some p/\dT C W h p c/\W.im p.2=none/\W.pr p.2=none
theorem cu.imp(R:cu C W σ h){ro:Option Nat}(l:(W.loc σ h ro).le W')(R':cu C W' ai h'){ids:ac}(hnd:ids.Nodup)(h0:ro≠none->0∉ids)(hro: ∀r,ro=some r-> ∃eL,σ.get r=some eL){cells:List (Nat×bF)}{cs:List (Nat×bF)}{f:Nat->Option Nat}
  (hf: ∀i j,f i=some j->(∃r,ro=some r/\i=0/\j=r)\/(σ.next<=j/\ids[j-σ.next]? =some i))(hi:Xa f ai σ.next ids=some cs)
  (hcell: ∀a c,lk a cells=some c->(some a≠ro/\σ.get a=some c)\/(some a=ro/\(∃eL,σ.get a=some eL)/\(∃kk ll,c= .orc kk ll)/\ai.get 0=some c)):
  W.le (W.imp W' σ.next ids)/\cu C (W.imp W' σ.next ids) ⟨σ.next+ids.length,cs++cells⟩ h'/\ ∀a b v,ux f a=some b->V C W' a v->V C (W.imp W' σ.next ids) b v:=by
 have hpr:W'.pr=(W.loc σ h ro).pr:=l.2.2
 have lim: ∀x o,W.im x=some o->W'.im x=some o:=fun x o e=>l.2.1 x o e
 have lt: ∀a p,W.ρ a=some p->a<σ.next:=fun a p e=>by
  by_cases q:σ.next<=a
  ·rw[R.fresh a q]at e;cases e
  ·omega
 have old: ∀a,a<σ.next->(W.imp W' σ.next ids).ρ a=W.ρ a:=fun a ha=>by
  show(match Pw σ.next ids a with|some i=>W'.ρ i|none=>W.ρ a)=_
  unfold Pw;rw[if_neg (by omega)]
 have new: ∀a i,σ.next<=a->ids[a-σ.next]? =some i->(W.imp W' σ.next ids).ρ a=W'.ρ i:=fun a i ha e=>by
  show(match Pw σ.next ids a with|some i=>W'.ρ i|none=>W.ρ a)=_
  unfold Pw;rw[if_pos ha,e]
 have le:W.le (W.imp W' σ.next ids):=⟨fun a p e=>(old a (lt a p e)).trans e,lim,rfl⟩
 have loc0: ∀r p,ro=some r->W.ρ r=some p->W'.ρ 0=some p:=fun r p hr e=>l.1 0 p (by show(if 0=0 then ro.bind W.ρ else none)=_;rw[if_pos rfl,hr];exact e)
 have nr: ∀r,ro=some r-> ∀p,W'.ρ 0=some p-> ∀eL,σ.get r=some eL->W.ρ r=some p:=fun r hr p e eL hc=>by
  obtain⟨p',a1,_⟩:=R.cell r eL hc
  rw[loc0 r p' hr a1]at e;cases e;exact a1
 have xG: ∀i j p,f i=some j->W'.ρ i=some p->(W.imp W' σ.next ids).ρ j=some p:=fun i j p e e'=>by
  rcases hf i j e with⟨r,hr,rfl,rfl⟩|⟨h1,h2⟩
  ·obtain⟨eL,hc⟩:=hro _ hr
   have:=nr _ hr p e' eL hc
   rw[old _ (lt _ _ this)];exact this
  ·rw[new _ _ h1 h2];exact e'
 have S6: ∀b,W'.pr b=none->(∃o,h.get? b=some o)->W.pr b=none:=fun b e ⟨o,ho⟩=>by
  rw[hpr]at e
  by_cases hb:Gu W σ ro b
  ·rw[IV hb,ho]at e;cases e
  ·rw[CE hb]at e;exact e
 have wpr: ∀b o,W.pr b=some o->W'.pr b=some o:=fun b o e=>by
  rw[hpr,CE]
  ·exact e
  ·rintro⟨a,c,p,_,h2,h3,rfl⟩
   obtain⟨p',e',_,_,h4⟩:=R.cell a c h2
   rw[h3]at e';cases e'
   rw[h4]at e;cases e
 have npr: ∀b,W'.pr b=none->W.pr b=none:=fun b e=>by
  cases q:W.pr b with
  |none=>rfl
  |some o=>rw[wpr b o q]at e;cases e
 have src: ∀a c,lk a (cs++cells)=some c->
   api σ ai ids f ro a c:=fun a c e=>by
  rcases adn hi cells a with⟨i,eL,Cj,h1,h2,h3,h4,h5⟩|⟨_,h2⟩
  ·rw[e]at h5;cases h5;exact .inl ⟨i,eL,h1,h2,h3,h4⟩
  ·rw[h2]at e;exact .inr (hcell a c e)
 refine⟨le,⟨R'.base,R'.im,fun b o e=>R'.pr _ _ (wpr b o e),fun b o e=>R'.dis _ _ (wpr b o e),fun a ha=> ?_,fun a c e=> ?_,fun a b ca cb p q e e' ep eq hpq=> ?_⟩,fun a b v e q=>ab2 xG (fun _ _ e=>e) e q⟩
 ·have ha:σ.next+ids.length<=a:=ha
  show(match Pw σ.next ids a with|some i=>W'.ρ i|none=>W.ρ a)=none
  unfold Pw
  rw[if_pos (by omega),nX (by omega)]
  exact R.fresh _ (by omega)
 ·show apc C (W.imp W' σ.next ids) h' a c
  rcases src a c e with⟨i,eL,h1,h2,h3,h4⟩|⟨h1,h2⟩|⟨h1,⟨eL,h2⟩,⟨kk,ll,rfl⟩,h3⟩
  ·obtain⟨p,a1,a2,a3,a4⟩:=R'.cell i eL h3
   exact⟨p,(new _ _ h1 h2).trans a1,alW xG (fun _ _ e=>e) h4 a2,a3,npr _ a4⟩
  ·obtain⟨p,a1,a2,a3,a4⟩:=R.cell a c h2
   have ho:Gu W σ ro p.2:=⟨a,c,p,h1,h2,a1,rfl⟩
   obtain⟨o,hx⟩:=a2.some
   have hp':W'.pr p.2=some o:=by rw[hpr,IV ho];exact hx
   exact⟨p,(old _ (lt _ _ a1)).trans a1,(a2.keeps fun o' z=>by rw[hx]at z;cases z;exact R'.pr _ _ hp').mono0 le.to0,R'.dis _ _ hp',a4⟩
  ·obtain⟨p,a1,a2,a3,a4⟩:=R'.cell 0 _ h3
   have hw:=nr a h1.symm p a1 eL h2
   exact⟨p,(old _ (lt _ _ hw)).trans hw,yX (W':=W.imp W' σ.next ids) (W:=W') (fun _ _ e=>e) a2,a3,npr _ a4⟩
 ·
  have key: ∀a c p,lk a (cs++cells)=some c->(W.imp W' σ.next ids).ρ a=some p->
    apf W W' σ ai ids ro a c p:=fun a c p e ep=>by
   rcases src a c e with⟨i,eL,h1,h2,h3,h4⟩|⟨h1,h2⟩|⟨h1,⟨eL,h2⟩,⟨kk,ll,rfl⟩,h3⟩
   ·rw[new _ _ h1 h2]at ep
    obtain⟨p',a1,a2,a3,a4⟩:=R'.cell i eL h3
    rw[ep]at a1;cases a1
    exact .inl ⟨i,eL,h3,ep,a4,.inl ⟨h1,h2⟩⟩
   ·obtain⟨p',a1,a2,a3,a4⟩:=R.cell a c h2
    rw[old _ (lt _ _ a1)]at ep
    rw[ep]at a1;cases a1
    obtain⟨o,hx⟩:=a2.some
    exact .inr ⟨h1,h2,ep,o,by rw[hpr,IV ⟨a,c,p,h1,h2,ep,rfl⟩];exact hx⟩
   ·obtain⟨p',a1,a2,a3,a4⟩:=R'.cell 0 _ h3
    have hw:=nr a h1.symm p' a1 eL h2
    rw[old _ (lt _ _ hw),hw]at ep;cases ep
    exact .inl ⟨0,_,h3,a1,a4,.inr ⟨h1,rfl⟩⟩
  rcases key a ca p e ep with⟨i,eL,i1,i2,i3,i4⟩|⟨h1,h2,h3,o,h4⟩
  ·rcases key b cb q e' eq with⟨j,Cj,j1,j2,j3,j4⟩|⟨h1',h2',h3',o',h4'⟩
   ·have hij:=R'.inj i j _ _ _ _ i1 j1 i2 j2 hpq
    subst hij
    rcases i4 with⟨x1,x2⟩|⟨x1,x2⟩<;>rcases j4 with⟨y1,y2⟩|⟨y1,y2⟩
    ·have hx:=(cL.mp x2).1
     have hy:=(cL.mp y2).1
     have:=(List.getElem?_inj hx hnd).mp (x2.trans y2.symm)
     omega
    ·subst y2
     exact absurd (a7 x2) (h0 (by rw[<- y1];exact fun z=>by cases z))
    ·subst x2
     exact absurd (a7 y2) (h0 (by rw[<- x1];exact fun z=>by cases z))
    ·exact aG (x1.trans y1.symm)
   ·rw[hpq,h4']at i3;cases i3
  ·rcases key b cb q e' eq with⟨j,Cj,j1,j2,j3,j4⟩|⟨h1',h2',h3',o',h4'⟩
   ·rw[<- hpq,h4]at j3;cases j3
   ·exact R.inj a b _ _ _ _ h2 h2' h3 h3' hpq
end
end
section
variable{k:Nat}{C:PC}{W W' W'':Wd}{σ ai:AS}{h h':bH}
@[elab_as_elim] theorem amN {f:Nat->Option Nat} {ids:ac} {n:Nat} {cells:List (Nat×bF)} {a b:AV} {ay aM:AS} {P:AS->Prop} (e:imp f ids n cells a ay=some (b,aM)) (kk:ids.Nodup->ux f a=some b-> ∀cs,Xa f ay n ids=some cs->P ⟨n+ids.length,cs++cells⟩):P aM:=
 kS e fun q e=>oE e fun b' hb e=>oE e fun cs hc e=>s2 (P:=fun b aM=>ux f a=some b->P aM) e (fun hb=>kk (Xp q) (s2 (P:=fun b _=>ux f a=some b) e hb) cs hc) (s2 (P:=fun b _=>ux f a=some b) e hb)
theorem i9{kF:Nat}{f:ah}{F:aW}{pick:AV->AS->List Nat}(hF:aF C kF f F):aF C kF f (vF pick F):=fun A Rm W σ s args vs Re hv tk a ai e=>kS e fun q e=>fG e fun xr ay e1 e=>by
 refine amN e fun hnd hb cs hc=> ?_
 have R0:cu C (W.loc σ s.heap none) ⟨0,[]⟩ s.heap:=Re.loc (.inr rfl) fun a c e=>nn e
 refine ek (hF A Rm (W.loc σ s.heap none) ⟨0,[]⟩ s args vs R0 (xN (W:=W) (W':=W.loc σ s.heap none) (fun _ _ e=>e) q hv) tk xr ay e1) fun v s' ⟨hs,W',le,R',hv'⟩=> ?_
 obtain⟨l2,R2,h2⟩:=Re.imp le R' hnd (fun z=>absurd rfl z) (fun r z=>nn z) (fun i j e=>.inr (SN e)) hc fun a c e=>.inl ⟨(fun z=>nn z.symm),e⟩
 exact⟨hs,_,l2,R2,h2 _ _ _ hb hv'⟩
theorem alB(a:Nat)(c:bF)(b:Nat)(cells:List (Nat×bF)):lk b (lm a c cells)=if b=a then(lk a cells).map (fun _=>c)else lk b cells:=AS.get_set ⟨0,cells⟩ a c b
theorem alz{c d:bF}{a:Nat}(e:lk a [(0,c)]=some d):a=0/\c=d:=by
 rw[nd]at e
 exact bE e (fun z e=>⟨aD z,aG e⟩) fun _ e=>nn e
theorem adz{r n:Nat}{ids:ac}{i j:Nat}(e:Xf r n ids i=some j):(∃r',some r=some r'/\i=0/\j=r')\/(n<=j/\ids[j-n]? =some i):=by
 cases i with
 |zero=>exact .inl ⟨j,e,rfl,rfl⟩
 |succ i=>exact .inr (SN e)
theorem alA{r a kk:Nat}{l:aa}{c:bF}(hr:σ.get r=some (.orc kk l)){k':Nat}{l':aa}{o:Option bF}(h0:o=some (.orc k' l'))(e:lk a (lm r (.orc k' l') σ.cells)=some c):
  (some a≠some r/\σ.get a=some c)\/(some a=some r/\(∃eL,σ.get a=some eL)/\(∃kk ll,c= .orc kk ll)/\o=some c):=by
 rw[alB]at e
 by_cases z:a=r
 ·subst z
  rw[if_pos rfl,show lk a σ.cells=some _ from hr]at e
  exact s1 (P:=fun c=>_\/(some a=some a/\(∃eL,σ.get a=some eL)/\(∃kk ll,c=bF.orc kk ll)/\o=some c)) e (.inr ⟨rfl,⟨_,hr⟩,⟨_,_,rfl⟩,h0⟩)
 ·rw[if_neg z]at e
  exact .inl ⟨fun y=>z (aG y),e⟩
theorem nW{kF:Nat}{f:ah}{F:aW}{pick:AV->AS->List Nat}(hF:aF C kF f F):aF C kF f (t9 pick F):=fun A Rm W σ s args vs Re hv tk a ai e=>by
 revert hv
 refine kD e fun b as e=> ?_
 refine ip e fun r e=> ?_
 refine fun hv=>kS e fun q e=>FK e fun kk l hr e=>fG e fun xr ay e1 e=>FK e fun k' l' h0 e=>kN e fun q0 e=> ?_
 refine amN e fun hnd hb cs hc=> ?_
 refine hv.consE fun v vr hv1 hv2=> ?_
 have R0:cu C (W.loc σ s.heap (some r)) ⟨1,[(0,.orc kk l)]⟩ s.heap:=Re.loc (.inl (ax _)) fun a c e=>let⟨z1,z2⟩:=alz e;⟨z1,r,kk,l,rfl,z2.symm,z2▸hr⟩
 have hv1':V C (W.loc σ s.heap (some r)) (.ref 0) v:=hv1
 refine ek (hF A Rm (W.loc σ s.heap (some r)) ⟨1,[(0,.orc kk l)]⟩ s (.ref 0::as) (v::vr) R0 (VL.cons hv1' (xN (W:=W) (W':=W.loc σ s.heap (some r)) (fun _ _ e=>e) q hv2)) tk xr ay e1) fun v s' ⟨hs,W',le,R',hv'⟩=> ?_
 obtain⟨l2,R2,h2⟩:=Re.imp le R' hnd (fun _ z=>by rw[KA.mpr z]at q0;cases q0) (fun r' z=>⟨_,(aG z)▸hr⟩) (fun i j e=>adz e) hc (cells:=lm r (.orc k' l') σ.cells) fun a c e=>alA hr h0 e
 exact⟨hs,_,l2,R2,h2 _ _ _ hb hv'⟩
theorem on(a:Nat)(c c':bF): ∀cells:List (Nat×bF),lm a c (lm a c' cells)=lm a c cells
 |[]=>rfl
 |(b,d)::r=>by
  simp only[Ey]
  cases h:aj a b<;>simp[Ey,h,on a c c' r]
theorem Tp: ∀(cells:List (Nat×bF)) (a:Nat) (c:bF),lk a cells=some c->lm a c cells=cells
 |[],_,_,_=>rfl
 |(b,d)::r,a,c,h=>by
  simp only[nd]at h
  simp only[Ey]
  cases q:aj a b<;>rw[q]at h
  ·simp only[ae]at h ⊢;rw[Tp r a c h]
  ·cases h;rw[aD q];rfl
theorem cu.conc(R:cu C W σ h){r kk:Nat}{l:aa}(hr:σ.get r=some (.orc kk l)): ∃c,C.conc kk l c/\cu C W (σ.set r c) h:=by
 obtain⟨p,a1,⟨c,q1,q2⟩,_⟩:=R.cell r _ hr
 exact⟨c,q1,R.set hr a1 (fun _ _ _ e=>e) q2.to⟩
theorem cu.abst(R:cu C W σ h){r kk:Nat}{l:aa}{c:bF}(hr:σ.get r=some c)(hc:C.conc kk l c):cu C W (σ.set r (.orc kk l)) h:=by
 obtain⟨p,a1,a2,_⟩:=R.cell r _ hr
 refine R.set hr a1 (fun _ _ _ e=>e) ⟨c,hc,a2.to0 ?_⟩
 have:=C.concFree _ _ _ hc
 cases c with
 |orc=>cases this
 |_=>rfl
theorem cu.sub{ai:AS}(R:cu C W σ h)(hn:σ.next<=ai.next)(hs: ∀a c,ai.get a=some c->σ.get a=some c):cu C W ai h:=
 ⟨R.base,R.im,R.pr,R.dis,fun a ha=>R.fresh a (au hn ha),fun a c e=>R.cell a c (hs a c e),fun a b ca cb p q e e'=>R.inj a b ca cb p q (hs _ _ e) (hs _ _ e')⟩
theorem uC{kF:Nat}{f:ah}{F F':aW}(hF:aF C kF f F)
  (H: ∀args σ a ai,F' args σ=some (a,ai)-> ∃r kk l,σ.get r=some (.orc kk l)/\ ∀c,C.conc kk l c->(∀b d,σ.get b=some d->b<σ.next)-> ∃ay Cj SS bv,F args (σ.set r c)=some (a,ay)/\ay.get r=some Cj/\C.conc SS bv Cj/\ay.next<=ai.next/\
   ∀b d,ai.get b=some d->(b=r/\d= .orc SS bv)\/(b≠r/\ay.get b=some d)):aF C kF f F':=fun A Rm W σ s args vs Re hv tk a ai e=>by
 obtain⟨r,kk,l,hr,H⟩:=H args σ a ai e
 obtain⟨c,hc,R1⟩:=Re.conc hr
 have hlt: ∀b d,σ.get b=some d->b<σ.next:=fun b d hb=>by
  by_cases q:σ.next<=b
  ·obtain⟨p,e,_⟩:=Re.cell b _ hb
   rw[Re.fresh b q]at e;cases e
  ·omega
 obtain⟨ay,Cj,SS,bv,e1,e2,e3,e4,e5⟩:=H c hc hlt
 refine ek (hF A Rm W _ s args vs R1 hv tk a ay e1) fun v s' ⟨hs,W',le,R',hv'⟩=>⟨hs,W',le,(R'.abst e2 e3).sub e4 fun b d q=> ?_,hv'⟩
 rw[AS.get_set]
 rcases e5 b d q with⟨rfl,rfl⟩|⟨h1,h2⟩
 ·rw[if_pos rfl,e2];rfl
 ·rw[if_neg h1];exact h2
theorem aas{kF:Nat}{f:ah}{F F':aW}(hF:aF C kF f F)(H: ∀args σ a ai,F' args σ=some (a,ai)->F args σ=some (a,ai)):aF C kF f F':=fun A Rm W σ s args vs Re hv tk a ai e=>hF A Rm W σ s args vs Re hv tk a ai (H _ _ _ _ e)
end
noncomputable def mN{β:Type}(a:AV)(f:Nat->List Nat->List AV->Option β):Option β:=match a with
 | .frz c ks vs=>f c ks vs
 |_=>none
@[elab_as_elim] theorem sS {β:Type} {a:AV} {Q:AV->Prop} {f:Nat->List Nat->List AV->Option β} {r:β} (h:mN a f=some r) (k: ∀c ks vs,f c ks vs=some r->Q (.frz c ks vs)):Q a:=by
 cases a with
 |frz c ks vs=>exact k c ks vs h
 |_=>exact nn h
noncomputable def jF(l:aa):Nat->Option (Option AV):=bq (motive:=fun _=>Nat->Option (Option AV)) (fun _=>some none) (fun a _ ih k=>mN a fun c ks _=>bif aj c 0 then(bif Cx ks then ih k else none)else gV (motive:=fun _=>Option (Option AV)) (some (some a)) (fun j _=>ih j) k) l
noncomputable def rF(l:aa):Nat->Option (List AV):=bq (motive:=fun _=>Nat->Option (List AV)) (fun j=>gV (motive:=fun _=>Option (List AV)) (some []) (fun _ _=>none) j) (fun a r ih j=>gV (motive:=fun _=>Option (List AV)) (some (a::r)) (fun i _=>
 mN a fun c ks _=>bif aj c 0 then(bif Cx ks then ih (i+1)else none)else gV (motive:=fun _=>Option (List AV)) (some r) (fun i' _=>ih (i'+1)) i) j) l
noncomputable def pz(k:Nat)(t:AV):Option AV:=mN t fun c ks vs=>ob (Nx c k ks vs) s7
noncomputable def pN:List Nat:=[110,117,109,98,101,114]
noncomputable def uA:List Nat:=[119,111,114,100]
noncomputable def jh:List Nat:=[115,105,103,110]
noncomputable def X0:List Nat:=[108,105,116,101,114,97,108]
noncomputable def rd(σ:AS)(r:Nat):Option (List AV):=sh σ r fun d l=>bif aj d 1021 then some l else none
noncomputable def qC(l:aa)(k:Nat)(w:ac):Option Bool:=ob (jF l k) fun o=>od o (fun t=>ob (pz 2 t) fun v=>d7 v fun s=>some (dp s w)) (some false)
noncomputable def QG(l:aa)(k:Nat)(w:ac):Option Bool:=ob (jF l k) fun o=>ob o fun t=>ob (pz 1 t) fun v=>d7 v fun s=>some (dp s w)
noncomputable def vA(l:aa)(k:Nat)(w s:ac):Option Bool:=ob (qC l k w) fun b=>bif b then QG l k s else some false
noncomputable def Dx(l:aa)(k:Nat)(ws:List (List Nat)):Option Bool:=bq (motive:=fun _=>Nat->Option Bool) (fun _=>some true) (fun w _ ih k=>ob (vA l k uA w) fun b=>bif b then ih (k+1)else some false) ws k
noncomputable def okW(w:ac):Bool:=dv w.length&&dv (dh 32 [] w).length
noncomputable def abZ{β:Type}(l:aa)(f:Nat->Option β):Option β:=bq (motive:=fun _=>Option β) (f 0) (fun a r _=>bq (motive:=fun _=>Option β) (nN a f) (fun _ _ _=>none) r) l
@[elab_as_elim] theorem aae {β:Type} {Q:List AV->Prop} {l:aa} {f:Nat->Option β} {r:β} (h:abZ l f=some r) (k0:f 0=some r->Q []) (k1: ∀k,f k=some r->Q [.int (.ofNat k)]):Q l:=by
 cases l with
 |nil=>exact k0 h
 |cons a l=>cases l with
  |nil=>exact mc h k1
  |cons=>exact nn h
noncomputable def self{β:Type}(args:aa)(σ:AS)(f:Nat->List AV->List AV->Option β):Option β:=qX args fun a as=>ia a fun r=>ob (rd σ r) fun l=>f r as l
theorem aiQ{σ:AS}{r:Nat}{l:aa}(h:rd σ r=some l):σ.get r=some (.orc 1021 l):=FK h fun d l' e h=>kS h fun q h=>by
 rw[e,aD q];exact congrArg (fun l=>some (bF.orc 1021 l)) (aG h)
@[elab_as_elim] theorem nV {β:Type} {Q:List AV->Prop} {args:aa} {σ:AS} {f:Nat->List AV->List AV->Option β} {x:β} (h:self args σ f=some x) (k: ∀r as l,σ.get r=some (.orc 1021 l)->f r as l=some x->Q (.ref r::as)):Q args:=
 kD h fun a as h=>ip (Q:=fun a=>Q (a::as)) h fun r h=>oE h fun l hl h=>k r as l (aiQ hl) h
noncomputable def KC{β:Type}(l:aa)(x:Option β):Option β:=bq (motive:=fun _=>Option β) x (fun _ _ _=>none) l
@[elab_as_elim] theorem Ac {β:Type} {Q:List AV->Prop} {l:aa} {x:Option β} {r:β} (h:KC l x=some r) (k:x=some r->Q []):Q l:=by
 cases l with
 |nil=>exact k h
 |cons a l=>exact nn h
noncomputable def Qp{β:Type}(l:aa)(f:List Nat->List AV->Option β):Option β:=qX l fun a r=>d7 a fun s=>f s r
@[elab_as_elim] theorem KV {β:Type} {Q:List AV->Prop} {l:aa} {f:List Nat->List AV->Option β} {r:β} (h:Qp l f=some r) (k: ∀s m,f s m=some r->Q (.str s::m)):Q l:=
 kD h fun a m h=>fJ (Q:=fun a=>Q (a::m)) h fun s h=>k s m h
noncomputable def H6:aW:=fun args σ=>self args σ fun _ as l=>abZ as fun k=>ob (jF l k) fun o=>some (od o some (some .none)|>.getD .none,σ)
noncomputable def RX:aW:=fun args σ=>self args σ fun _ as l=>Qp as fun _ bs=>KC bs (ob (jF l 0) fun o=>ob o fun t=>ob (pz 4 t) fun _=>some (.opq,σ))
noncomputable def vg:aW:=fun args σ=>self args σ fun _ as l=>KC as (ob (jF l 0) fun o=>od o (fun _=>some (.bool false,σ)) (some (.bool true,σ)))
noncomputable def VX:aW:=fun args σ=>self args σ fun r as l=>KC as (ob (jF l 0) fun o=>ob o fun t=>ob (rF l 1) fun l'=>some (t,σ.set r (.orc 1021 l')))
noncomputable def aiV(o:Option Bool)(σ:AS):Option (AV×AS):=ob o fun b=>some (.bool b,σ)
noncomputable def Lj:aW:=fun args σ=>self args σ fun _ as l=>Qp as fun w bs=>abZ bs fun k=>aiV (qC l k w) σ
noncomputable def Lk:aW:=fun args σ=>self args σ fun _ as l=>Qp as fun w bs=>abZ bs fun k=>aiV (vA l k jh w) σ
noncomputable def Ll:aW:=fun args σ=>self args σ fun _ as l=>Qp as fun w bs=>KC bs (bif okW w then aiV (Dx l 0 (dh 32 [] w)) ⟨σ.next+1,σ.cells⟩else none)
noncomputable def VW:aW:=fun args σ=>self args σ fun r as l=>Qp as fun w bs=>KC bs (bif okW w then ob (Dx l 0 (dh 32 [] w)) (fun b=>bif b then ob (rF l (dh 32 [] w).length) (fun l'=>some (.bool true,⟨σ.next+2,lm r (.orc 1021 l') σ.cells⟩))else some (.bool false,⟨σ.next+1,σ.cells⟩))else none)
noncomputable def Fg:aW:=fun args σ=>self args σ fun r as l=>Qp as fun w bs=>KC bs (ob (vA l 0 jh w) fun b=>bif b then ob (rF l 1) (fun l'=>some (.bool true,σ.set r (.orc 1021 l')))else some (.bool false,σ))
noncomputable def ug(F:aW)(args:aa):Option AV:=bif aN args then bu (F args ⟨0,[]⟩) (fun a _=>bif noRef a then some a else none)else none
noncomputable def wz(F:aW):aW:=fun args σ=>ob (ug F args) fun a=>some (a,σ)
noncomputable def Ur{β:Type}(a:AV)(x:Option β):Option β:=match a with
 | .bool b=>bif b then x else none
 |_=>none
theorem afa{β:Type}{a:AV}{x:Option β}{r:β}{P:Prop}(h:Ur a x=some r)(k:a= .bool true->x=some r->P):P:=by
 cases a with
 |bool b=>exact kS h fun hb h=>k (congrArg _ hb) h
 |_=>exact nn h
noncomputable def Wy{β:Type}(a:AV)(f:List UInt8->Option β):Option β:=match a with
 | .bytes b=>f b
 |_=>none
theorem acC{β:Type}{a:AV}{f:List UInt8->Option β}{r:β}{P:Prop}(h:Wy a f=some r)(k: ∀b,a= .bytes b->f b=some r->P):P:=by
 cases a with
 |bytes b=>exact k b rfl h
 |_=>exact nn h
noncomputable def VA{β:Type}(l:aa)(w:ac)(f:AV->List AV->Option β):Option β:=ob (qC l 0 w) fun b=>bif b then ob (jF l 0) (fun o=>ob o fun t=>ob (pz 1 t) fun v=>ob (rF l 1) fun l'=>f v l')else none
noncomputable def RY(dec isw who:aW):aW:=fun args σ=>self args σ fun r as l=>KC as (VA l pN fun w l'=>ob (ug dec [w]) fun d=>ob (ug isw [d]) fun b=>Ur b (ob (ug who [d]) fun n=>some (n,σ.set r (.orc 1021 l'))))
noncomputable def N5(oct:aW):aW:=fun args σ=>self args σ fun r as l=>KC as (VA l X0 fun w l'=>ob (ug oct [w]) fun v=>Wy v fun b=>some (.bytes b,σ.set r (.orc 1021 l')))
noncomputable def xpA(mac:List Nat->List AV)(a:AV)(r:aa):List AV:=match a with
 | .frz c ks _=>bif aj c 0 then mac ks++r else a::r
 |_=>a::r
noncomputable def xp(mac:List Nat->List AV):List AV->List AV
 |[]=>[]
 |a::r=>xpA mac a (xp mac r)
noncomputable def Em:List AV->Bool
 |[]=>true
 |t::_=>(ob (pz 2 t) fun v=>d7 v fun w=>some (!dp w pN)).getD false
noncomputable def Hv(a:AV):Bool:=(mN a fun c ks _=>some (aj c 0&&Cx ks)).getD false
def uX(mac:List Nat->List AV):List AV->Prop
 |[]=>True
 |a::r=>(Hv a=true->Em (xp mac r)=true)/\uX mac r
noncomputable def cN(L:aa)(m:Nat):bF:=.inst 1021 [38,4,37,36] [.lst L,.int (.ofNat m),.opq,.opq]
def lF(mac:List Nat->List AV)(l:aa)(c:bF):Prop:=uX mac l/\ ∃pre,dv (pre.length+(xp mac l).length)=true/\aN pre=true/\aN (xp mac l)=true/\c=cN (pre++xp mac l) pre.length
def cB:List Nat->Int->Prop
 |m::d::r,b=>0<m/\b.fmod (am m)=am d/\cB r (b.fdiv (am m))
 |_,_=>True
noncomputable def xb(bx:List Nat->List AV->List Nat):List AV->List Nat
 |[]=>[]
 |a::r=>match a with
  | .frz _ ks vs=>bx ks vs++xb bx r
  |_=>[]
def afF(bx:List Nat->List AV->List Nat)(VB:AV->Prop)(l:aa)(c:bF):Prop:=(∀a∈l,VB a)/\ ∃b,c= .lst [.int b]/\cB (xb bx l) b
section
variable{mac:List Nat->List AV}
theorem LF(r:aa):rF r 0=some r:=by cases r<;>rfl
theorem EA{c:Nat}{ks:ac}{vs:aa}(r:aa):xp mac (.frz c ks vs::r)=bif aj c 0 then mac ks++xp mac r else .frz c ks vs::xp mac r:=rfl
theorem Px{l:ac}(h:Cx l=true):l=[]:=by
 cases l with
 |nil=>rfl
 |cons=>exact ff h
theorem QD(h0:mac []=[]){l:aa}: ∀{k:Nat} {o:Option AV},jF l k=some o->(xp mac l)[k]? =o:=by
 induction l with
 |nil=>exact fun e=>s1 (P:=fun o=>none=o) e rfl
 |cons a r ih=>
  intro k o e
  refine sS (Q:=fun a'=>a'=a->(xp mac (a'::r))[k]? =o) e (fun c ks vs e ha=> ?_) rfl
  rw[EA]
  refine bE e (fun q e=> ?_) fun q e=> ?_
  ·rw[q]
   refine kS e fun q e=> ?_
   rw[Px q,af,h0];exact ih e
  ·rw[q]
   cases k with
   |zero=>exact s1 (P:=fun o=>(bif false then mac ks++xp mac r else AV.frz c ks vs::xp mac r)[0]? =o) e (congrArg some ha)
   |succ j=>exact ih e
theorem acP(h0:mac []=[]){l:aa}: ∀{j:Nat} {l':aa},uX mac l->rF l j=some l'->xp mac l'=(xp mac l).drop j/\j<=(xp mac l).length/\uX mac l':=by
 induction l with
 |nil=>
  intro j l' w e
  cases j with
  |zero=>exact s1 (P:=fun l'=>xp mac l'=[]/\0<=0/\uX mac l') e ⟨rfl,ax _,w⟩
  |succ j=>exact nn e
 |cons a r ih=>
  intro j l' w e
  cases j with
  |zero=>exact s1 (P:=fun l'=>xp mac l'=xp mac (a::r)/\0<=(xp mac (a::r)).length/\uX mac l') e ⟨rfl,aU _,w⟩
  |succ j=>
   refine sS (Q:=fun a'=>xp mac l'=(xp mac (a'::r)).drop (j+1)/\j+1<=(xp mac (a'::r)).length/\uX mac l') e fun c ks vs e=> ?_
   rw[EA]
   refine bE e (fun q e=> ?_) fun q e=> ?_
   ·rw[q]
    refine kS e fun q e=> ?_
    rw[Px q,af,h0];exact ih w.2 e
   ·rw[q]
    have e:rF r j=some l':=by
     cases j with
     |zero=>rw[LF];exact e
     |succ j=>exact e
    have:=ih w.2 e
    exact⟨this.1,a9 this.2.1,this.2.2⟩
end
noncomputable def Pn(sel:Nat->Bool)(n:Nat)(a:AV)(σ:AS):AV×AS:=(ia a fun x=>Cw σ x fun c ks vs=>some (pr (SZ sel (t6 sel n) ks vs (σ.drop x)) fun vs' ai=>(AV.ref x,(⟨ai.next,(x,.inst c ks vs')::ai.cells⟩:AS)))).getD (a,σ)
noncomputable def I2(g:AV->AS->AV×AS)(F:aW):aW:=fun args σ=>bu (F args σ) fun a ai=>some (g a ai)
noncomputable def cZ(l:aa):Bool:=l.all fun a=>(mN a fun c _ _=>some (!aj c 0)).getD false
noncomputable def ae8{β:Type}(a:AV)(f:List AV->Option β):Option β:=match a with
 | .lst l=>f l
 |_=>none
@[elab_as_elim] theorem akR {β:Type} {a:AV} {Q:AV->Prop} {f:List AV->Option β} {r:β} (h:ae8 a f=some r) (k: ∀l,f l=some r->Q (.lst l)):Q a:=by
 cases a with
 |lst l=>exact k l h
 |_=>exact nn h
noncomputable def ZM(vs:aa):Option (List AV):=qX vs fun a r=>qX r fun b r=>ae8 a fun L=>nN b fun n=>bif aj n 0 then vy r (fun _ _=>some L)else none
noncomputable def amZ(F:aW):aW:=fun args σ=>bu (F args σ) fun a ay=>ia a fun x=>Cw ay x fun c ks vs=>bif aj c 1021&&dp ks [38,4,37,36]then ob (ZM vs) (fun L=>bif dv L.length&&aN L&&cZ L then some (.ref x,ay.set x (.orc 1021 L))else none)else none
noncomputable def drA{β:Type}(a:AV)(f:Nat->Nat->Option β):Option β:=mN a fun _ ks _=>qX ks fun m r=>qX r fun d r=>bif Cx r then f m d else none
noncomputable def Bk:aW:=fun args σ=>vy args fun a b=>ia a fun x=>nN b fun m=>sh σ x fun k l=>bif aj k 0 then qX l (fun t r=>drA t fun m' d=>bif aj m m'&&bp m 1000 then some (.int (.ofNat d),σ.set x (.orc 0 r))else none)else none
noncomputable def afg(path:Int->List AV)(F:aW):aW:=fun args σ=>qV args fun a=>ia a fun x=>nh σ x fun l=>qV l fun v=>eO v fun b=>F [.ref x] (σ.set x (.orc 0 (path b)))
noncomputable def amU(c:Nat)(F:aW):gK:=fun a σ=>ia a fun x=>sh σ x fun d _=>bif aj c d then some F else none
noncomputable def b9:Nat:=680
noncomputable def nv:Nat:=633
noncomputable def lE:Nat:=605
noncomputable def Uy:Nat:=204
noncomputable def Y4:Nat:=706
noncomputable def names:List (List Nat):=[[70,49,45,82,69,67],
 [79,76,68,45,82,69,67],
 [87],
 [86,45,49],
 [65,82,71],
 [70,49,45,82,69,67,45,71],
 [79,76,68,45,82,69,67,45,71],
 [87,45,71],
 [86,45,49,45,71],
 [65,82,71,45,71],
 [70,73,76,76,69,82],
 [70,49,45,82,69,67,45,66],
 [79,76,68,45,82,69,67,45,66],
 [87,45,66],
 [86,45,49,45,66],
 [65,82,71,45,66],
 [76,79,87],
 [70,49,45,82,69,67,45,82],
 [79,76,68,45,82,69,67,45,82],
 [87,45,82],
 [86,45,49,45,82],
 [65,82,71,45,82],
 [72,73,71,72,45,79,78,69]]
noncomputable def nm(i:Nat):List Nat:=(PR names i).getD []
noncomputable def iQ:List (Nat×Nat×Nat):=[(0,0,3),(0,1,3),(0,2,3),(0,3,3),(1,0,3),(1,1,3),(1,2,3),(1,3,3),(2,0,3),(2,1,3),(2,2,3),(2,3,3),(3,0,3),(3,1,3),(3,2,3),(3,3,3),(4,0,3),(4,1,3),(4,2,3),(4,3,3),(0,0,0),(0,0,1),(0,0,2),(0,1,0),(0,1,1),(0,1,2),(0,2,0),(0,2,1),(0,2,2),(0,3,0),(0,3,1),(0,3,2),(1,0,0),(1,0,1),(1,0,2),(1,1,0),(1,1,1),(1,1,2),(1,2,0),(1,2,1),(1,2,2),(1,3,0),(1,3,1),(1,3,2)]
noncomputable def dG:List (Nat×Nat×Nat):=[(5,0,3),(5,1,3),(5,2,3),(5,3,3),(6,0,3),(6,1,3),(6,2,3),(6,3,3),(7,0,3),(7,1,3),(7,2,3),(7,3,3),(8,0,3),(8,1,3),(8,2,3),(8,3,3),(9,0,3),(9,1,3),(9,2,3),(9,3,3),(10,0,0),(10,0,1),(10,0,2),(10,1,0),(10,1,1),(10,1,2),(10,2,0),(10,2,1),(10,2,2),(10,3,0),(10,3,1),(10,3,2),(11,0,0),(11,0,1),(11,0,2),(11,1,0),(11,1,1),(11,1,2),(11,2,0),(11,2,1),(11,2,2),(11,3,0),(11,3,1),(11,3,2),(12,0,0),(12,0,1),(12,0,2),(12,1,0),(12,1,1),(12,1,2),(12,2,0),(12,2,1),(12,2,2),(12,3,0),(12,3,1),(12,3,2),(13,0,0),(13,0,1),(13,0,2),(13,1,0),(13,1,1),(13,1,2),(13,2,0),(13,2,1),(13,2,2),(13,3,0),(13,3,1),(13,3,2),(14,0,0),(14,0,1),(14,0,2),(14,1,0),(14,1,1),(14,1,2),(14,2,0),(14,2,1),(14,2,2),(14,3,0),(14,3,1),(14,3,2),(15,0,0),(15,0,1),(15,0,2),(15,1,0),(15,1,1),(15,1,2),(15,2,0),(15,2,1),(15,2,2),(15,3,0),(15,3,1),(15,3,2)]
noncomputable def sf:List (Nat×Nat×Nat):=[(16,0,0),(16,0,1),(16,0,2),(16,1,0),(16,1,1),(16,1,2),(16,2,0),(16,2,1),(16,2,2),(16,3,0),(16,3,1),(16,3,2)]
noncomputable def gw:List (Nat×Nat×Nat):=[(2,0,0),(2,0,1),(2,0,2),(2,1,0),(2,1,1),(2,1,2),(2,2,0),(2,2,1),(2,2,2),(2,3,0),(2,3,1),(2,3,2),(3,0,0),(3,0,1),(3,0,2),(3,1,0),(3,1,1),(3,1,2),(3,2,0),(3,2,1),(3,2,2),(3,3,0),(3,3,1),(3,3,2),(4,0,0),(4,0,1),(4,0,2),(4,1,0),(4,1,1),(4,1,2),(4,2,0),(4,2,1),(4,2,2),(4,3,0),(4,3,1),(4,3,2)]
noncomputable def kT(lvl:Nat):List (Nat×Nat×Nat):=bif aj lvl 1 then iQ else bif aj lvl 5 then dG else bif aj lvl 10 then sf else gw
noncomputable def kd(lvl i:Nat):Nat×Nat×Nat:=(PR (kT lvl) i).getD ((PR (kT lvl) 0).getD (0,0,3))
noncomputable def am7(w:Nat):List Nat:=bif aj w 1 then[112,97,99,107,101,100]else[]
noncomputable def PT(w:Nat):AV:=bif aj w 2 then .frz lE [8,9,7,6,5] [.int 3,.int 3,.none,.tup [.tup [.bool false,.str [75]]],.tup [.str [73,88]]]
 else bif aj w 3 then .frz lE [8,9,7,6,5] [.int 0,.int 4,.tup [.str [114,101,102],.str [78],.tup [.str [71]],.tup [],.none],.tup [],.tup []]else .none
noncomputable def xP(p:Nat):AV:=bif aj p 0 then .str [88,40,52,41]else bif aj p 1 then .str [83,57,40,51,41,86,57,57]else bif aj p 2 then .str [90,90,57,46,57,57]else .none
noncomputable def fT:List Nat:=[20,18,16,15,10,35,14,17,11,13,12,23,22,34,21,33,32,31,30]
noncomputable def j0(x:Nat×Nat×Nat)(conds kids par ren:AV):List AV:=[.str (nm x.1),xP x.2.2,.str (am7 x.2.1),.str [],.bool false,PT x.2.1,.str [],.none,.bool false,.bool false,conds,kids,par,ren,.str [],.int 0,.int 0,.none]
noncomputable def Xd(lvl i:Nat)(conds kids par:AV):List AV:=.int (am lvl)::j0 (kd lvl i) conds kids par .none
noncomputable def qe(n:Nat):AV:=.frz nv [18,19] [.str ([73,83,45]++nm n),.tup [.tup [.tup [.str [110,117,109,98,101,114],.tup [.int (-5),.int 0]],.tup [.str [110,117,109,98,101,114],.tup [.int 125,.int 2]]],.tup [.tup [.str [116,101,120,116],.bytes [113]],.none]]]
noncomputable def xV(l:Nat):AV:=.tup [.str (nm 16),bif aj l 0 then .none else .str (nm 22)]
noncomputable def j6(n l:Nat)(par:AV):List AV:=.int 66::[.str (nm n),.none,.str [],.str [],.bool false,.none,.str [],.none,.bool false,.bool false,.lst [],.lst [],par,xV l,.str [],.int 0,.int 0,.none]
noncomputable def nQ(_:AV)(_:AS):List Nat:=[]
noncomputable def aaj(a:AV)(_:AS):List Nat:=(ia a fun x=>some [x]).getD []
noncomputable def rfO(o:Option AV):Option Nat:=ob o fun a=>ia a some
noncomputable def wy(a:AV)(σ:AS):List Nat:=(ia a fun x=>Cw σ x fun _ ks vs=>od (rfO (xE 22 ks vs)) (fun k=>od (rfO (xE 23 ks vs)) (fun c=>some [c,k,x]) (some [k,x])) (some [x])).getD []
noncomputable def abO{β:Type}(a:AV)(f:List Nat->Option β):Option β:=mN a fun c ks _=>bif aj c 0 then f ks else none
noncomputable def Z4(σ:AS)(r:Nat)(l:aa)(cd:aa)(f:AV->AV->List AV):Option (AV×AS):=some (.ref (σ.next+2),⟨σ.next+3,(σ.next,.lst cd)::(σ.next+1,.lst [])::(σ.next+2,.inst b9 fT (f (.ref σ.next) (.ref (σ.next+1))))::lm r (.orc 1021 l) σ.cells⟩)
noncomputable def ahQ(n:Nat)(a b:AV):List AV:=.int 88::[.str ([73,83,45]++nm n),.none,.str [],.str [],.bool false,.none,.str [],.none,.bool false,.bool false,a,b,.none,.none,.str [],.int 0,.int 0,.none]
noncomputable def aih(n l:Nat)(a b:AV):List AV:=.int 66::[.str (nm n),.none,.str [],.str [],.bool false,.none,.str [],.none,.bool false,.bool false,a,b,.none,xV l,.str [],.int 0,.int 0,.none]
noncomputable def aiR(σ:AS)(r:Nat)(l:aa)(m x y:Nat):Option (AV×AS):=bif aj m 1 then Z4 σ r l [] (fun a b=>Xd x y a b .none)else bif aj m 2 then Z4 σ r l [qe (kd x y).1] (ahQ (kd x y).1)else bif aj m 3 then Z4 σ r l [] (aih (17+(kd 1 x).1) y)else none
noncomputable def KZ{β:Type}(ks:ac)(f:Nat->Nat->Nat->Option β):Option β:=qX ks fun m ks=>qX ks fun x ks=>qX ks fun y ks=>bif Cx ks then f m x y else none
noncomputable def wh:aW:=fun args σ=>self args σ fun r as L=>KC as (qX L fun t l=>abO t fun ks=>KZ ks (aiR σ r l))
noncomputable def anV(σ:AS)(m:Nat):Option (AV×AS):=bif cP 1 m&&cP m 3 then some (.bool true,σ)else none
noncomputable def pV:aW:=fun args σ=>self args σ fun _ as L=>KC as (bq (motive:=fun _=>Option (AV×AS)) (some (.bool false,σ)) (fun t _ _=>abO t fun ks=>bif Cx ks then some (.bool false,σ)else KZ ks fun m _ _=>anV σ m) L)
structure Lf where
 i:Nat
 c:Bool
inductive Tn where
 |leaf(l:Lf)
 |grp(g a:Lf)
 |grp2(g a b:Lf)
structure Rt where
 lvl:Nat
 it:Lf
 ts:List Tn
 ren:Nat
noncomputable def UD(c:Bool):Nat:=bif c then 1 else 0
noncomputable def WW(l:Lf):List Nat:=[l.i,UD l.c]
noncomputable def Zn:Tn->List Nat
 | .leaf l=>0::WW l
 | .grp g a=>1::(WW g++WW a)
 | .grp2 g a b=>2::(WW g++WW a++WW b)
noncomputable def WX(r:Rt):List Nat:=r.lvl::(WW r.it++r.ren::(r.ts.map Zn).flatten)
noncomputable def G0(n:Nat):Bool:=aj n 1
noncomputable def UC:Nat->List Nat->List Tn
 |0,_=>[]
 |n+1,l=>match l with
  |0::i::c::r=>.leaf ⟨i,G0 c⟩::UC n r
  |1::i::c::j::d::r=>.grp ⟨i,G0 c⟩ ⟨j,G0 d⟩::UC n r
  |2::i::c::j::d::k::e::r=>.grp2 ⟨i,G0 c⟩ ⟨j,G0 d⟩ ⟨k,G0 e⟩::UC n r
  |_=>[]
noncomputable def A5(l:ac):Rt:=match l with
 |lvl::i::c::ren::r=>⟨lvl,⟨i,G0 c⟩,UC 8 r,ren⟩
 |_=>⟨77,⟨0,false⟩,[],0⟩
theorem y6(c:Bool):G0 (UD c)=c:=by cases c<;>rfl
theorem abp: ∀(ts:List Tn) (n:Nat),ts.length<=n->UC n (ts.map Zn).flatten=ts
 |[],0,_=>rfl
 |[],n+1,_=>rfl
 |t::ts,n+1,h=>by
  have ih:=abp ts n (mU h)
  cases t with
  |leaf l=>
   show Tn.leaf ⟨l.i,G0 (UD l.c)⟩::UC n (ts.map Zn).flatten=_
   rw[ih,y6]
  |grp g a=>
   show Tn.grp ⟨g.i,G0 (UD g.c)⟩ ⟨a.i,G0 (UD a.c)⟩::UC n (ts.map Zn).flatten=_
   rw[ih,y6,y6]
  |grp2 g a b=>
   show Tn.grp2 ⟨g.i,G0 (UD g.c)⟩ ⟨a.i,G0 (UD a.c)⟩ ⟨b.i,G0 (UD b.c)⟩::UC n (ts.map Zn).flatten=_
   rw[ih,y6,y6,y6]
theorem Nu(r:Rt)(h:r.ts.length<=8):A5 (WX r)=r:=by
 show(⟨r.lvl,⟨r.it.i,G0 (UD r.it.c)⟩,UC 8 (r.ts.map Zn).flatten,r.ren⟩:Rt)=r
 rw[abp _ _ h,y6]
noncomputable def e1(lvl i:Nat):AV:=.frz 0 [1,lvl,i] []
noncomputable def e2(lvl i:Nat):AV:=.frz 0 [2,lvl,i] []
noncomputable def e3(i l:Nat):AV:=.frz 0 [3,i,l] []
noncomputable def Yi:AV:=.frz 0 [] []
noncomputable def jY(lvl:Nat)(l:Lf):Nat:=(kd lvl l.i).1
noncomputable def Cn(lvl:Nat)(l:Lf):List AV:=e1 lvl l.i::(match l.c with
 |true=>[e2 lvl l.i]
 |false=>[])
noncomputable def afW:Tn->List AV
 | .leaf l=>Cn 5 l
 | .grp g a=>Cn 5 g++Cn 10 a
 | .grp2 g a b=>Cn 5 g++(Cn 10 a++Cn 10 b)
noncomputable def UF:List Tn->List AV
 |[]=>[]
 |t::ts=>afW t++UF ts
noncomputable def afV(r:Rt):List AV:=match r.ren with
 |0=>[]
 |l+1=>[e3 r.it.i l]
noncomputable def FB(r:Rt):List AV:=Cn r.lvl r.it++(UF r.ts++afV r)
noncomputable def conds(lvl:Nat)(l:Lf):AV:=.lst (match l.c with
 |true=>[qe (jY lvl l)]
 |false=>[])
noncomputable def oc(lvl:Nat)(l:Lf)(par:AV):AV:=.frz b9 fT (Xd lvl l.i (conds lvl l) (.lst []) par)
noncomputable def sy:Tn->AV
 | .leaf l=>oc 5 l .opq
 | .grp g a=>.frz b9 fT (Xd 5 g.i (conds 5 g) (.lst [oc 10 a .opq]) .opq)
 | .grp2 g a b=>.frz b9 fT (Xd 5 g.i (conds 5 g) (.lst [oc 10 a .opq,oc 10 b .opq]) .opq)
noncomputable def Dt:List Tn->List AV
 |[]=>[]
 |t::ts=>sy t::Dt ts
noncomputable def qE(r:Rt):List AV:=match r.ren with
 |0=>[]
 |l+1=>[.frz b9 fT (j6 (17+jY 1 r.it) l .opq)]
noncomputable def C9(r:Rt):List AV:=j0 (kd r.lvl r.it.i) (conds r.lvl r.it) (.lst (Dt r.ts++qE r)) .none .none
noncomputable def dZ(r:Rt):AV:=.frz b9 fT (.int (am r.lvl)::C9 r)
noncomputable def ai5(k:Nat):Bool:=aj k 22||(aj k 23||aj k 34)
noncomputable def am1(k:Nat):Bool:=aj k 23
noncomputable def am2(k:Nat):Bool:=(cP 24 k&&cP k 27)||(aj k 5||ai5 k)
noncomputable def nj:aW:=fun args σ=>self args σ fun r as L=>KC as (qX L fun t L=>qX L fun t' l=>bif Hv t' then abO t (fun ks=>qX ks fun m ks=>bif aj m 4 then qX ks (fun lvl code=>some (.lst [.frz b9 fT (.int (am lvl)::C9 (A5 (lvl::code)))],σ.set r (.orc 1021 l)))else none)else none)
noncomputable def II(x:ac):List (List Nat)->Nat->Nat
 |[],i=>i
 |a::r,i=>bif dp a x then i else II x r (i+1)
noncomputable def mQ(d:Nat):Nat:=bif aj d 4 then 0 else d
noncomputable def E7(lvl n w p:Nat):Nat:=bif aj p 3 then(bif aj lvl 1 then 4*n+w else 4*(n-5)+w)
 else bif aj lvl 1 then 20+12*n+3*w+p else bif aj lvl 5 then 20+12*(n-10)+3*w+p else bif aj lvl 10 then 3*w+p else 12*(n-2)+3*w+p
noncomputable def Cz(d:Nat):Bool:=aj d 0
noncomputable def PE(lvl n:Nat):Nat:=bif aj lvl 77&&cP n 1 then 1 else lvl
noncomputable def U6(lvl n:Nat):Bool:=(aj lvl 1&&bp n 5)||(aj lvl 5&&(cP 5 n&&bp n 10))
noncomputable def U7(lvl n:Nat):Bool:=(aj lvl 77&&bp n 5)||((aj lvl 5&&(cP 10 n&&bp n 16))||(aj lvl 10&&aj n 16))
noncomputable def aa9{β:Type}(σ:AS)(x:Nat)(f:Nat->List Nat->List AV->Option β):Option β:=sh σ x fun k l=>bif aj k 0 then qX l (fun t r=>mN t fun _ ks _=>qX ks fun m ks=>f m ks r)else none
noncomputable def ahP(σ:AS)(x:Nat)(r:aa)(lvl L:Nat)(f:Lf):Option (AV×AS):=some (.ref (σ.next+1),⟨σ.next+2,(σ.next,.lst [])::(σ.next+1,.inst b9 fT (.int (am lvl)::j0 (kd L f.i) (conds L f) (.ref σ.next) .none .none))::lm x (.orc 0 r) σ.cells⟩)
noncomputable def apC(σ:AS)(x lvl:Nat)(s:ac)(n:Nat):Option (AV×AS):=bif dp (nm n) s&&U6 lvl n then aa9 σ x (fun m ks r=>bif aj m 5 then qX ks (fun d ks=>qX ks fun e ks=>bif Cx ks then ahP σ x r lvl lvl ⟨E7 lvl n (mQ d) 3,Cz e⟩else none)else none)else none
noncomputable def Bl:aW:=fun args σ=>Wx args fun a b d=>ia a fun x=>nN b fun lvl=>d7 d fun s=>apC σ x lvl s (II s names 0)
noncomputable def apD(σ:AS)(x lvl:Nat)(s:ac)(n L:Nat):Option (AV×AS):=bif dp (nm n) s&&U7 lvl n then aa9 σ x (fun m ks r=>bif aj m 6 then KZ ks (fun d e p=>ahP σ x r lvl L ⟨E7 L n (mQ d) p,Cz e⟩)else none)else none
noncomputable def Bm:aW:=fun args σ=>Wx args fun a b d=>ia a fun x=>nN b fun lvl=>d7 d fun s=>apD σ x lvl s (II s names 0) (PE lvl (II s names 0))
noncomputable def Bn:aW:=fun args σ=>vy args fun a d=>ia a fun x=>d7 d fun s=>aa9 σ x fun m ks r=>bif aj m 9 then qX ks (fun n ks=>qX ks fun lv code=>bif dp (nm n) s then some (.ref σ.next,⟨σ.next+1,(σ.next,.inst b9 fT (.int (am lv)::C9 (A5 code)))::lm x (.orc 0 r) σ.cells⟩)else none)else none
structure LD where
 d:Nat
 e:Nat
 p:Nat
inductive TD where
 |leaf(z nb:Nat)(l:LD)
 |grp(d e:Nat)(a:LD)
 |grp2(d e:Nat)(a b:LD)
inductive RD where
 |alone(l:LD)
 |std(a d e:Nat)(ts:List TD)(q:Nat)
 |recR(a d e:Nat)(ts:List TD)(l:Nat)
noncomputable def PF(l:LD):List Nat:=[5,l.d,4,l.e,3,l.p]
noncomputable def tdD:TD->List Nat
 | .leaf z nb l=>3::(z+1)::2::nb::PF l
 | .grp d e a=>3::0::5::d::4::e::2::0::PF a
 | .grp2 d e a b=>3::0::5::d::4::e::2::1::(PF a++PF b)
noncomputable def AF:List TD->List Nat
 |[]=>[]
 |t::ts=>tdD t++AF ts
noncomputable def I8:RD->List Nat
 | .alone l=>4::0::PF l
 | .std a d e ts q=>4::(a+1)::5::d::4::e::3::ts.length::(AF ts++[4,q+1])
 | .recR a d e ts l=>4::(a+1)::5::d::4::e::3::ts.length::(AF ts++[4,0,2,l])
noncomputable def m2(m d:Nat):AV:=.frz 0 [m,d] []
noncomputable def m5(d e:Nat):AV:=.frz 0 [5,d,e] []
noncomputable def m6(l:LD):AV:=.frz 0 [6,l.d,l.e,l.p] []
noncomputable def tdM:TD->List AV
 | .leaf z nb l=>[m2 3 (z+1),m2 2 nb,m6 l]
 | .grp d e a=>[m2 3 0,m5 d e,m2 2 0,m6 a]
 | .grp2 d e a b=>[m2 3 0,m5 d e,m2 2 1,m6 a,m6 b]
noncomputable def Mh:List TD->List AV
 |[]=>[]
 |t::ts=>tdM t++Mh ts
noncomputable def rdM:RD->List AV
 | .alone l=>[m2 4 0,m6 l]
 | .std a d e ts q=>m2 4 (a+1)::m5 d e::m2 3 ts.length::(Mh ts++[m2 4 (q+1)])
 | .recR a d e ts l=>m2 4 (a+1)::m5 d e::m2 3 ts.length::(Mh ts++[m2 4 0,m2 2 l])
noncomputable def SV(lvl n:Nat)(l:LD):Lf:=⟨E7 lvl n (mQ l.d) l.p,Cz l.e⟩
noncomputable def abK(lvl n d e:Nat):Lf:=⟨E7 lvl n (mQ d) 3,Cz e⟩
noncomputable def aqf(n:Nat):TD->Tn
 | .leaf _ nb l=>.leaf (SV 5 (match nb with
  |0=>10
  |_=>11+n) l)
 | .grp d e a=>.grp (abK 5 (5+n) d e) (SV 10 16 a)
 | .grp2 d e a b=>.grp2 (abK 5 (5+n) d e) (SV 10 16 a) (SV 10 16 b)
noncomputable def Hy(n:Nat):List TD->List Tn
 |[]=>[]
 |t::ts=>aqf n t::Hy n ts
noncomputable def jw(n:Nat):RD->Rt
 | .alone l=>⟨PE 77 n,SV (PE 77 n) n l,[],0⟩
 | .std _ d e ts _=>⟨1,abK 1 n d e,Hy n ts,0⟩
 | .recR _ d e ts l=>⟨1,abK 1 n d e,Hy n ts,l+1⟩
noncomputable def RA:RD->Nat
 | .alone _=>77
 |_=>1
def Ae:TD->Prop
 | .leaf _ nb _=>nb<2
 |_=>True
def FJ:RD->Prop
 | .alone _=>True
 | .std _ _ _ ts _=>ts.length<=2/\ ∀t∈ts,Ae t
 | .recR _ _ _ ts l=>ts.length<=2/\(∀t∈ts,Ae t)/\l<2
noncomputable def m9(n:Nat)(rd:RD):AV:=.frz 0 (9::n::RA rd::WX (jw n rd)) [.frz 0 (I8 rd) []]
noncomputable def bx(ks:ac)(vs:aa):List Nat:=match ks with
 |[m,d]=>[m,d]
 |[5,d,e]=>[5,d,4,e]
 |[6,d,e,p]=>[5,d,4,e,3,p]
 |9::_=>(match vs with
  |[.frz _ raw _]=>raw
  |_=>[])
 |_=>[]
def VB(a:AV):Prop:=match a with
 | .frz _ (9::r) _=> ∃n rd,a=m9 n rd/\n<5/\FJ rd
 |_=>True
noncomputable def gX(m:Nat)(b:Int):Nat:=(b.fmod (am m)).toNat
noncomputable def bO(m:Nat)(b:Int):Int:=b.fdiv (am m)
theorem jI{m:Nat}(hm:0<m){b:Int}{r:ac}(h:cB r (bO m b)):cB (m::gX m b::r) b:=by
 refine⟨hm,?_,h⟩
 have:0<=b.fmod (am m):=mR b (by simpa using hm)
 unfold gX
 exact(AY this).symm
theorem i6{m d:Nat}(hm:0<m){b:Int}{r:ac}(hd:gX m b=d)(h:cB r (bO m b)):cB (m::d::r) b:=hd▸jI hm h
theorem mf{m:Nat}(hm:0<m)(b:Int):gX m b<m:=by
 have h1:b.fmod (am m)<am m:=qN b (by simpa using hm)
 have h0:0<=b.fmod (am m):=mR b (by simpa using hm)
 unfold gX
 have:=AY h0
 have h2:(am m)=(m:Int):=rfl
 omega
noncomputable def ldP(b:Int):LD:=⟨gX 5 b,gX 4 (bO 5 b),gX 3 (bO 4 (bO 5 b))⟩
noncomputable def ZV(b:Int):Int:=bO 3 (bO 4 (bO 5 b))
theorem PG{b:Int}{r:ac}(h:cB r (ZV b)):cB (PF (ldP b)++r) b:=
 jI (by decide) (jI (by decide) (jI (by decide) h))
noncomputable def RI(b:Int):TD×Int:=match gX 3 b with
 |z+1=>(.leaf z (gX 2 (bO 3 b)) (ldP (bO 2 (bO 3 b))),ZV (bO 2 (bO 3 b)))
 |0=>match gX 2 (bO 4 (bO 5 (bO 3 b)))with
  |0=>(.grp (gX 5 (bO 3 b)) (gX 4 (bO 5 (bO 3 b))) (ldP (bO 2 (bO 4 (bO 5 (bO 3 b))))),ZV (bO 2 (bO 4 (bO 5 (bO 3 b)))))
  |_+1=>(.grp2 (gX 5 (bO 3 b)) (gX 4 (bO 5 (bO 3 b))) (ldP (bO 2 (bO 4 (bO 5 (bO 3 b))))) (ldP (ZV (bO 2 (bO 4 (bO 5 (bO 3 b)))))),ZV (ZV (bO 2 (bO 4 (bO 5 (bO 3 b))))))
theorem ao0{b:Int}{r:ac}(h:cB r (RI b).2):cB (tdD (RI b).1++r) b/\Ae (RI b).1:=by
 unfold RI at h ⊢
 split at h
 ·rename_i z hz
  refine⟨?_,mf (by decide) _⟩
  show cB (3::(z+1)::2::_::(PF _++r)) b
  exact i6 (by decide) hz (jI (by decide) (PG h))
 ·rename_i hz
  split at h
  ·rename_i hk
   refine⟨?_,trivial⟩
   show cB (3::0::5::_::4::_::2::0::(PF _++r)) b
   refine i6 (by decide) hz (jI (by decide) (jI (by decide) ?_))
   exact i6 (by decide) hk (PG h)
  ·rename_i n hk
   have hn:n=0:=by
    have:=mf (m:=2) (by decide) (bO 4 (bO 5 (bO 3 b)))
    omega
   subst hn
   refine⟨?_,trivial⟩
   show cB (3::0::5::_::4::_::2::1::((PF _++PF _)++r)) b
   refine i6 (by decide) hz (jI (by decide) (jI (by decide) ?_))
   refine i6 (by decide) hk ?_
   rw[aB]
   exact PG (PG h)
noncomputable def sx:Nat->Int->List TD×Int
 |0,b=>([],b)
 |n+1,b=>((RI b).1::(sx n (RI b).2).1,(sx n (RI b).2).2)
theorem Vw: ∀(n:Nat) {b:Int} {r:ac},cB r (sx n b).2->cB (AF (sx n b).1++r) b/\(sx n b).1.length=n/\ ∀t∈(sx n b).1,Ae t
 |0,b,r,h=>⟨h,rfl,fun _ ht=>by cases ht⟩
 |n+1,b,r,h=>by
  obtain⟨h1,h2,h3⟩:=Vw n (b:=(RI b).2) h
  obtain⟨h4,h5⟩:=ao0 h1
  refine⟨?_,congrArg nG h2,fun t ht=> ?_⟩
  ·show cB ((tdD (RI b).1++AF (sx n (RI b).2).1)++r) b
   rw[aB];exact h4
  ·rcases aH.mp ht with rfl|ht
   ·exact h5
   ·exact h3 t ht
noncomputable def A6(b:Int):RD×Int:=match gX 4 b with
 |0=>(.alone (ldP (bO 4 b)),ZV (bO 4 b))
 |a+1=>match sx (gX 3 (bO 4 (bO 5 (bO 4 b)))) (bO 3 (bO 4 (bO 5 (bO 4 b))))with
  |(ts,b')=>match gX 4 b' with
   |0=>(.recR a (gX 5 (bO 4 b)) (gX 4 (bO 5 (bO 4 b))) ts (gX 2 (bO 4 b')),bO 2 (bO 4 b'))
   |q+1=>(.std a (gX 5 (bO 4 b)) (gX 4 (bO 5 (bO 4 b))) ts q,bO 4 b')
theorem KM{b:Int}{r:ac}(h:cB r (A6 b).2):cB (I8 (A6 b).1++r) b/\FJ (A6 b).1:=by
 unfold A6 at h ⊢
 split at h
 ·rename_i hz
  refine⟨?_,trivial⟩
  show cB (4::0::(PF _++r)) b
  exact i6 (by decide) hz (PG h)
 ·rename_i a hz
  have key: ∀r',cB r' (sx (gX 3 (bO 4 (bO 5 (bO 4 b)))) (bO 3 (bO 4 (bO 5 (bO 4 b))))).2->cB (4::(a+1)::5::gX 5 (bO 4 b)::4::gX 4 (bO 5 (bO 4 b))::3::(sx (gX 3 (bO 4 (bO 5 (bO 4 b)))) (bO 3 (bO 4 (bO 5 (bO 4 b))))).1.length::(AF (sx (gX 3 (bO 4 (bO 5 (bO 4 b)))) (bO 3 (bO 4 (bO 5 (bO 4 b))))).1++r')) b:=fun r' h'=>by
   obtain⟨h1,h2,h3⟩:=Vw _ h'
   rw[h2]
   exact i6 (by decide) hz (jI (by decide) (jI (by decide) (jI (by decide) h1)))
  have lens:(sx (gX 3 (bO 4 (bO 5 (bO 4 b)))) (bO 3 (bO 4 (bO 5 (bO 4 b))))).1.length <=2/\ ∀t∈(sx (gX 3 (bO 4 (bO 5 (bO 4 b)))) (bO 3 (bO 4 (bO 5 (bO 4 b))))).1,Ae t:=by
   obtain⟨_,h2,h3⟩:=Vw (gX 3 (bO 4 (bO 5 (bO 4 b)))) (b:=bO 3 (bO 4 (bO 5 (bO 4 b)))) (r:=[]) trivial
   exact⟨by rw[h2];have:=mf (m:=3) (by decide) (bO 4 (bO 5 (bO 4 b)));omega,h3⟩
  generalize sx (gX 3 (bO 4 (bO 5 (bO 4 b)))) (bO 3 (bO 4 (bO 5 (bO 4 b))))=p at h key lens ⊢
  obtain⟨ts,b'⟩:=p
  dsimp only at h key lens ⊢
  split at h
  ·rename_i hq
   refine⟨?_,lens.1,lens.2,mf (by decide) _⟩
   show cB (4::(a+1)::5::_::4::_::3::ts.length::((AF ts++[4,0,2,_])++r)) b
   rw[aB]
   refine key _ ?_
   show cB (4::0::2::_::r) b'
   exact i6 (by decide) hq (jI (by decide) h)
  ·rename_i q hq
   refine⟨?_,lens.1,lens.2⟩
   show cB (4::(a+1)::5::_::4::_::3::ts.length::((AF ts++[4,q+1])++r)) b
   rw[aB]
   refine key _ ?_
   show cB (4::(q+1)::r) b'
   exact i6 (by decide) hq h
inductive FD where
 |none
 |one(o:Bool)(rd:RD)(s:Nat)
inductive WD where
 |none
 |one(v:Bool)(rd:RD)
structure DD where
 f:FD
 w:WD
 l:RD
 k:Nat
noncomputable def fnI(o:Bool):Nat:=match o with
 |true=>1
 |false=>0
noncomputable def wnI(v:Bool):Nat:=match v with
 |true=>3
 |false=>2
noncomputable def fdM:FD->List AV
 | .none=>[m2 3 1]
 | .one o rd s=>[m2 3 (match o with
  |true=>2
  |false=>0),m9 (fnI o) rd,m2 2 s]
noncomputable def wdM:WD->List AV
 | .none=>[m2 3 2]
 | .one v rd=>[m2 3 (match v with
  |true=>1
  |false=>0),m9 (wnI v) rd]
noncomputable def ddM(x:DD):List AV:=fdM x.f++(wdM x.w++[m9 4 x.l,m2 2 x.k])
noncomputable def ID(b:Int):FD×Int:=match gX 3 b with
 |0=>(.one false (A6 (bO 3 b)).1 (gX 2 (A6 (bO 3 b)).2),bO 2 (A6 (bO 3 b)).2)
 |1=>(.none,bO 3 b)
 |_=>(.one true (A6 (bO 3 b)).1 (gX 2 (A6 (bO 3 b)).2),bO 2 (A6 (bO 3 b)).2)
noncomputable def QE(b:Int):WD×Int:=match gX 3 b with
 |0=>(.one false (A6 (bO 3 b)).1,(A6 (bO 3 b)).2)
 |1=>(.one true (A6 (bO 3 b)).1,(A6 (bO 3 b)).2)
 |_=>(.none,bO 3 b)
noncomputable def O8(b:Int):DD:=⟨(ID b).1,(QE (ID b).2).1,(A6 (QE (ID b).2).2).1,gX 2 (A6 (QE (ID b).2).2).2⟩
def amX:FD->Prop
 | .none=>True
 | .one _ rd s=>FJ rd/\s<2
def amY:WD->Prop
 | .none=>True
 | .one _ rd=>FJ rd
def amW(x:DD):Prop:=amX x.f/\amY x.w/\FJ x.l/\x.k<2
noncomputable def zg(b:Int):List AV:=ddM (O8 b)
theorem anK{b:Int}{l:aa}(h:cB (xb bx l) (ID b).2):cB (xb bx (fdM (ID b).1++l)) b/\amX (ID b).1:=by
 unfold ID at h ⊢
 have h3:=mf (m:=3) (by decide) b
 split at h
 ·rename_i hz
  obtain⟨h1,h2⟩:=KM (jI (m:=2) (by decide) h)
  refine⟨?_,h2,mf (by decide) _⟩
  show cB (3::0::(I8 _++2::_::xb bx l)) b
  exact i6 (by decide) hz h1
 ·rename_i hz
  refine⟨?_,trivial⟩
  show cB (3::1::xb bx l) b
  exact i6 (by decide) hz h
 ·rename_i n0 n1
  have e0: ¬gX 3 b=0:=n0
  have e1: ¬gX 3 b=1:=n1
  have hz:gX 3 b=2:=by omega
  obtain⟨h1,h2⟩:=KM (jI (m:=2) (by decide) h)
  refine⟨?_,h2,mf (by decide) _⟩
  show cB (3::2::(I8 _++2::_::xb bx l)) b
  exact i6 (by decide) hz h1
theorem ao6{b:Int}{l:aa}(h:cB (xb bx l) (QE b).2):cB (xb bx (wdM (QE b).1++l)) b/\amY (QE b).1:=by
 unfold QE at h ⊢
 have h3:=mf (m:=3) (by decide) b
 split at h
 ·rename_i hz
  obtain⟨h1,h2⟩:=KM h
  refine⟨?_,h2⟩
  show cB (3::0::(I8 _++xb bx l)) b
  exact i6 (by decide) hz h1
 ·rename_i hz
  obtain⟨h1,h2⟩:=KM h
  refine⟨?_,h2⟩
  show cB (3::1::(I8 _++xb bx l)) b
  exact i6 (by decide) hz h1
 ·rename_i n0 n1
  have e0: ¬gX 3 b=0:=n0
  have e1: ¬gX 3 b=1:=n1
  have hz:gX 3 b=2:=by omega
  refine⟨?_,trivial⟩
  show cB (3::2::xb bx l) b
  exact i6 (by decide) hz h
theorem ZZ{n:Nat}{rd:RD}(hn:n<5)(h:FJ rd):VB (m9 n rd):=⟨n,rd,rfl,hn,h⟩
theorem XR(b:Int):(∀a∈zg b,VB a)/\cB (xb bx (zg b)) b/\amW (O8 b):=by
 have h4:cB (xb bx [m9 4 (O8 b).l,m2 2 (O8 b).k]) (QE (ID b).2).2/\FJ (O8 b).l:=by
  obtain⟨h1,h2⟩:=KM (b:=(QE (ID b).2).2) (r:=[2,(O8 b).k]) (jI (m:=2) (r:=[]) (by decide) trivial)
  exact⟨h1,h2⟩
 obtain⟨h3,h5⟩:=ao6 h4.1
 obtain⟨h2,h6⟩:=anK h3
 have hok:amW (O8 b):=⟨h6,h5,h4.2,mf (by decide) _⟩
 refine⟨fun a ha=> ?_,h2,hok⟩
 obtain⟨o1,o2,o3,_⟩:=hok
 unfold zg ddM at ha
 rcases cM.mp ha with ha|ha
 ·generalize (O8 b).f=f at ha o1
  cases f with
  |none=>simp only[fdM,aO]at ha;subst ha;trivial
  |one o rd s=>
   simp only[fdM,aH,bb,or_false]at ha
   rcases ha with rfl|rfl|rfl
   ·cases o<;>trivial
   ·exact ZZ (by cases o<;>decide) o1.1
   ·trivial
 ·rcases cM.mp ha with ha|ha
  ·generalize (O8 b).w=w at ha o2
   cases w with
   |none=>simp only[wdM,aO]at ha;subst ha;trivial
   |one o rd=>
    simp only[wdM,aH,bb,or_false]at ha
    rcases ha with rfl|rfl
    ·cases o<;>trivial
    ·exact ZZ (by cases o<;>decide) o2
  ·simp only[aH,bb,or_false]at ha
   rcases ha with rfl|rfl
   ·exact ZZ (by decide) o3
   ·trivial
noncomputable def cLine:Nat:=45
noncomputable def df:Nat:=1021
noncomputable def VV:aW:=fun l σ=>vy l fun _ _=>some (.opq,σ)
noncomputable def tL(l:List T):T:=bq (motive:=fun _=>T) .nil (fun a _ ih=>.cons a ih) l
noncomputable def sL(l:List TS):TS:=bq (motive:=fun _=>TS) .nil (fun a _ ih=>.cons a ih) l
noncomputable def cS(l:ac):T:=.cst (.str l)
noncomputable def cI(i:Int):T:=.cst (.int i)
noncomputable def kA(f:Nat)(l:List T):T:=.call f (tL l)
noncomputable def mE(n:Nat)(o:T)(l:List T):T:=.meth n o (tL l)
noncomputable def lS(l:List T):T:=.lst (tL l)
noncomputable def tU(l:List T):T:=.tup (tL l)
noncomputable def v0:T:=.var 0
noncomputable def v1:T:=.var 1
noncomputable def v2:T:=.var 2
noncomputable def v3:T:=.var 3
noncomputable def v4:T:=.var 4
noncomputable def v5:T:=.var 5
noncomputable def v6:T:=.var 6
noncomputable def v7:T:=.var 7
noncomputable def v8:T:=.var 8
noncomputable def v9:T:=.var 9
noncomputable def v10:T:=.var 10
noncomputable def v11:T:=.var 11
noncomputable def v12:T:=.var 12
noncomputable def v13:T:=.var 13
noncomputable def v14:T:=.var 14
noncomputable def v15:T:=.var 15
noncomputable def v16:T:=.var 16
noncomputable def mK:AV:=.str [48,49,50,51,52,53,54,55,56,57]
noncomputable def wi:AV:=.str [65,66,67,68,69,70,71,72,73,74,75,76,77,78,79,80,81,82,83,84,85,86,87,88,89,90,48,49,50,51,52,53,54,55,56,57,45]
noncomputable def kX:AV:=.str [48,49,50,51,52,53,54,55,56,57]
noncomputable def aa1:AV:=.str [46,44,59]
noncomputable def H7:AV:=.int (30)
noncomputable def Gp:AV:=.str [65,66,67,68,69,70,71,72,73,74,75,76,77,78,79,80,81,82,83,84,85,86,87,88,89,90]
noncomputable def rr:AV:=.int (18)
noncomputable def zF:AV:=.int (160)
noncomputable def J1:AV:=.str [34,39]
noncomputable def zG:AV:=.str [40,41,58,43,45,42,47,61,60,62]
noncomputable def zE:AV:=.str [42,42,32,60,61,32,62,61]
noncomputable def RZ:AV:=.int (8)
noncomputable def R4:AV:=.int (12)
noncomputable def Br:AV:=.dct [[100,105,115,112,108,97,121],[98,105,110,97,114,121],[112,97,99,107,101,100],[105,110,100,101,120]] [.str [68,73,83,80,76,65,89],.str [66,73,78,65,82,89],.str [80,65,67,75,69,68,45,68,69,67,73,77,65,76],.str [73,78,68,69,88]]
noncomputable def wZ:AV:=.int (66)
noncomputable def iO:AV:=.tup [.int (1),.int (77)]
noncomputable def tK:AV:=.dct [[68,73,83,80,76,65,89],[67,79,77,80],[67,79,77,80,85,84,65,84,73,79,78,65,76],[66,73,78,65,82,89],[80,65,67,75,69,68,45,68,69,67,73,77,65,76],[67,79,77,80,45,51],[67,79,77,80,85,84,65,84,73,79,78,65,76,45,51],[73,78,68,69,88]] [.str [100,105,115,112,108,97,121],.str [98,105,110,97,114,121],.str [98,105,110,97,114,121],.str [98,105,110,97,114,121],.str [112,97,99,107,101,100],.str [112,97,99,107,101,100],.str [112,97,99,107,101,100],.str [105,110,100,101,120]]
noncomputable def J0:AV:=.int (88)
noncomputable def Bq:AV:=.int (66)
noncomputable def Bo:AV:=.int (77)
noncomputable def R5:AV:=.str [70,73,76,76,69,82]
noncomputable def Fh:AV:=.int (49)
noncomputable def Bp:AV:=.int (20)
noncomputable def ly:AV:=.str [32,65,67,67,69,80,84,32,65,67,67,69,83,83,32,65,68,68,32,65,68,86,65,78,67,73,78,71,32,65,70,84,69,82,32,65,76,76,32,65,76,80,72,65,66,69,84,73,67,32,65,76,80,72,65,66,69,84,73,67,45,76,79,87,69,82,32,65,76,80,72,65,66,69,84,73,67,45,85,80,80,69,82,32,65,76,80,72,65,78,85,77,69,82,73,67,32,65,76,80,72,65,78,85,77,69,82,73,67,45,69,68,73,84,69,68,32,65,76,83,79,32,65,76,84,69,82,78,65,84,69,32,65,78,68,32,65,78,89,32,65,82,69,32,65,82,69,65,32,65,82,69,65,83,32,65,83,67,69,78,68,73,78,71,32,65,83,83,73,71,78,32,65,84,32,65,85,84,72,79,82,32,66,69,70,79,82,69,32,66,73,78,65,82,89,32,66,76,65,78,75,32,66,76,79,67,75,32,66,89,32,67,65,76,76,32,67,72,65,82,65,67,84,69,82,32,67,72,65,82,65,67,84,69,82,83,32,67,76,79,83,69,32,67,79,77,80,32,67,79,77,80,45,51,32,67,79,77,80,85,84,65,84,73,79,78,65,76,32,67,79,77,80,85,84,65,84,73,79,78,65,76,45,51,32,67,79,77,80,85,84,69,32,67,79,78,70,73,71,85,82,65,84,73,79,78,32,67,79,78,84,65,73,78,83,32,67,79,78,84,69,78,84,32,67,79,78,84,73,78,85,69,32,67,79,78,86,69,82,84,73,78,71,32,67,79,80,89,32,67,79,82,82,32,67,79,82,82,69,83,80,79,78,68,73,78,71,32,67,79,85,78,84,32,68,65,84,65,32,68,65,84,69,45,67,79,77,80,73,76,69,68,32,68,65,84,69,45,87,82,73,84,84,69,78,32,68,69,76,69,84,69,32,68,69,76,73,77,73,84,69,68,32,68,69,76,73,77,73,84,69,82,32,68,69,80,69,78,68,73,78,71,32,68,69,83,67,69,78,68,73,78,71,32,68,73,83,80,76,65,89,32,68,73,86,73,68,69,32,68,73,86,73,83,73,79,78,32,68,79,87,78,32,68,85,80,76,73,67,65,84,69,83,32,68,89,78,65,77,73,67,32,69,76,83,69,32,69,78,68,32,69,78,68,45,65,68,68,32,69,78,68,45,67,65,76,76,32,69,78,68,45,67,79,77,80,85,84,69,32,69,78,68,45,68,69,76,69,84,69,32,69,78,68,45,68,73,86,73,68,69,32,69,78,68,45,69,86,65,76,85,65,84,69,32,69,78,68,45,73,70,32,69,78,68,45,77,85,76,84,73,80,76,89,32,69,78,68,45,80,69,82,70,79,82,77,32,69,78,68,45,82,69,65,68,32,69,78,68,45,82,69,84,85,82,78,32,69,78,68,45,82,69,87,82,73,84,69,32,69,78,68,45,83,69,65,82,67,72,32,69,78,68,45,83,84,65,82,84,32,69,78,68,45,83,84,82,73,78,71,32,69,78,68,45,83,85,66,84,82,65,67,84,32,69,78,68,45,85,78,83,84,82,73,78,71,32,69,78,68,45,87,82,73,84,69,32,69,78,86,73,82,79,78,77,69,78,84,32,69,81,85,65,76,32,69,82,82,79,82,32,69,86,65,76,85,65,84,69,32,69,88,67,69,80,84,73,79,78,32,69,88,73,84,32,69,88,84,69,78,68,32,69,88,84,69,82,78,65,76,32,70,65,76,83,69,32,70,68,32,70,73,76,69,32,70,73,76,69,45,67,79,78,84,82,79,76,32,70,73,76,76,69,82,32,70,73,82,83,84,32,70,79,82,32,70,82,79,77,32,71,73,86,73,78,71,32,71,76,79,66,65,76,32,71,79,32,71,82,69,65,84,69,82,32,72,73,71,72,45,86,65,76,85,69,32,72,73,71,72,45,86,65,76,85,69,83,32,73,45,79,32,73,45,79,45,67,79,78,84,82,79,76,32,73,68,69,78,84,73,70,73,67,65,84,73,79,78,32,73,70,32,73,78,32,73,78,68,69,88,32,73,78,68,69,88,69,68,32,73,78,73,84,73,65,76,32,73,78,73,84,73,65,76,73,90,69,32,73,78,80,85,84,32,73,78,80,85,84,45,79,85,84,80,85,84,32,73,78,83,80,69,67,84,32,73,78,83,84,65,76,76,65,84,73,79,78,32,73,78,84,79,32,73,78,86,65,76,73,68,32,73,83,32,74,85,83,84,32,74,85,83,84,73,70,73,69,68,32,75,69,89,32,76,65,66,69,76,32,76,69,65,68,73,78,71,32,76,69,70,84,32,76,69,83,83,32,76,73,78,69,32,76,73,78,69,83,32,76,73,78,75,65,71,69,32,76,79,67,75,32,76,79,87,45,86,65,76,85,69,32,76,79,87,45,86,65,76,85,69,83,32,77,69,82,71,69,32,77,79,68,69,32,77,79,86,69,32,77,85,76,84,73,80,76,89,32,78,65,84,73,86,69,32,78,69,71,65,84,73,86,69,32,78,69,88,84,32,78,79,32,78,79,84,32,78,85,77,69,82,73,67,32,78,85,77,69,82,73,67,45,69,68,73,84,69,68,32,79,66,74,69,67,84,45,67,79,77,80,85,84,69,82,32,79,67,67,85,82,83,32,79,70,32,79,70,70,32,79,77,73,84,84,69,68,32,79,78,32,79,80,69,78,32,79,80,84,73,79,78,65,76,32,79,82,32,79,82,68,69,82,32,79,82,71,65,78,73,90,65,84,73,79,78,32,79,84,72,69,82,32,79,85,84,80,85,84,32,79,86,69,82,70,76,79,87,32,80,65,67,75,69,68,45,68,69,67,73,77,65,76,32,80,69,82,70,79,82,77,32,80,73,67,32,80,73,67,84,85,82,69,32,80,79,73,78,84,69,82,32,80,79,83,73,84,73,86,69,32,80,82,79,67,69,68,85,82,69,32,80,82,79,67,69,69,68,32,80,82,79,71,82,65,77,32,80,82,79,71,82,65,77,45,73,68,32,81,85,79,84,69,32,81,85,79,84,69,83,32,82,65,78,68,79,77,32,82,69,65,68,32,82,69,67,79,82,68,32,82,69,67,79,82,68,83,32,82,69,68,69,70,73,78,69,83,32,82,69,70,69,82,69,78,67,69,32,82,69,76,65,84,73,86,69,32,82,69,76,69,65,83,69,32,82,69,77,65,73,78,68,69,82,32,82,69,78,65,77,69,83,32,82,69,80,76,65,67,69,32,82,69,80,76,65,67,73,78,71,32,82,69,84,85,82,78,32,82,69,87,82,73,84,69,32,82,73,71,72,84,32,82,79,85,78,68,69,68,32,82,85,78,32,83,65,77,69,32,83,68,32,83,69,65,82,67,72,32,83,69,67,84,73,79,78,32,83,69,67,85,82,73,84,89,32,83,69,76,69,67,84,32,83,69,78,84,69,78,67,69,32,83,69,80,65,82,65,84,69,32,83,69,81,85,69,78,84,73,65,76,32,83,69,84,32,83,73,71,78,32,83,73,90,69,32,83,79,82,84,32,83,79,82,84,45,77,69,82,71,69,32,83,79,85,82,67,69,45,67,79,77,80,85,84,69,82,32,83,80,65,67,69,32,83,80,65,67,69,83,32,83,80,69,67,73,65,76,45,78,65,77,69,83,32,83,84,65,78,68,65,82,68,32,83,84,65,82,84,32,83,84,65,84,85,83,32,83,84,79,80,32,83,84,82,73,78,71,32,83,85,66,84,82,65,67,84,32,83,89,78,67,32,83,89,78,67,72,82,79,78,73,90,69,68,32,84,65,76,76,89,73,78,71,32,84,69,83,84,32,84,72,65,78,32,84,72,69,78,32,84,72,82,79,85,71,72,32,84,72,82,85,32,84,73,77,69,83,32,84,79,32,84,82,65,73,76,73,78,71,32,84,82,85,69,32,85,78,83,84,82,73,78,71,32,85,78,84,73,76,32,85,80,32,85,80,79,78,32,85,83,65,71,69,32,85,83,73,78,71,32,86,65,76,85,69,32,86,65,76,85,69,83,32,86,65,82,89,73,78,71,32,87,72,69,78,32,87,73,84,72,32,87,79,82,75,73,78,71,45,83,84,79,82,65,71,69,32,87,82,73,84,69,32,90,69,82,79,32,90,69,82,79,69,83,32,90,69,82,79,83,32]
noncomputable def Fi:AV:=.int (255)
noncomputable def Qx:TS:=sL [.asg 1 (.bin .Add (lS [.atr 20 v0]) (.bin .Mult (lS [cI 88]) (kA 1 [.atr 23 v0]))),.for_ [2] (.atr 22 v0) (sL [.asg 1 (.bin .Add v1 (kA 0 [v2]))]),.ret v1]
noncomputable def Nf(self:aW):cA:=⟨[],[("_law_walked",self),("len",eN)],[]⟩
noncomputable def Oh(self:aW):SM:=
  (aV (cK [1] (bi (bT .Add) (bn cU (aw (un (aA 20) (al 0)) aJ)) (bi (bT .Mult) (bn cU (aw (a6 (.int (88))) aJ)) (bn eN (aw (un (aA 23) (al 0)) aJ)))))
  (aV (gq [2] (un (aA 22) (al 0))
  (aV (cK [1] (bi (bT .Add) (al 1) (bn self (aw (al 2) aJ))))
  bh))
  (aV (eC (al 1))
  bh)))
noncomputable def zH(self:aW):aW:=bf 1 [] (Oh self)
noncomputable def bt:Nat->aW
 |0=>TW
 |n+1=>vF aaj (zH (bt n))
noncomputable def RH:TS:=sL [.ret (tU [.atr 2 v0,.atr 1 v0])]
noncomputable def QL:cA:=⟨[],[],[]⟩
noncomputable def Q5:SM:=
  (aV (eC (bn fU (aw (un (aA 2) (al 0)) (aw (un (aA 1) (al 0)) aJ))))
  bh)
noncomputable def qv:aW:=bf 1 [] Q5
noncomputable def Qt:TS:=sL [.ret (tU [.atr 8 v0,.atr 9 v0,.atr 7 v0,.atr 6 v0,.atr 5 v0])]
noncomputable def Na:cA:=⟨[],[],[]⟩
noncomputable def Od:SM:=
  (aV (eC (bn fU (aw (un (aA 8) (al 0)) (aw (un (aA 9) (al 0)) (aw (un (aA 7) (al 0)) (aw (un (aA 6) (al 0)) (aw (un (aA 5) (al 0)) aJ)))))))
  bh)
noncomputable def iX:aW:=bf 1 [] Od
noncomputable def RG:TS:=sL [.ret (tU [.atr 18 v0,.atr 19 v0])]
noncomputable def QK:cA:=⟨[],[],[]⟩
noncomputable def Q4:SM:=
  (aV (eC (bn fU (aw (un (aA 18) (al 0)) (aw (un (aA 19) (al 0)) aJ))))
  bh)
noncomputable def fe:aW:=bf 1 [] Q4
noncomputable def M5:TS:=sL [.asg 1 (.ife (.cmp .Is (.atr 14 v0) (.cst (.none))) (.cst (.none)) (mE 0 (.atr 14 v0) [])),.asg 2 (tU [.atr 16 v0,.atr 15 v0,.atr 10 v0,.atr 35 v0,v1,.atr 17 v0]),.ret (.bin .Add v2 (tU [.atr 11 v0,.atr 13 v0,.atr 12 v0,.atr 21 v0]))]
noncomputable def K4:cA:=⟨[],[],[("told",(fb lE iX gH))]⟩
noncomputable def Mv:SM:=
  (aV (cK [1] (sY (fh (bU .Is) (un (aA 14) (al 0)) (a6 (.none))) (a6 (.none)) (cC (fb lE iX gH) (un (aA 14) (al 0)) aJ)))
  (aV (cK [2] (bn fU (aw (un (aA 16) (al 0)) (aw (un (aA 15) (al 0)) (aw (un (aA 10) (al 0)) (aw (un (aA 35) (al 0)) (aw (al 1) (aw (un (aA 17) (al 0)) aJ))))))))
  (aV (eC (bi (bT .Add) (al 2) (bn fU (aw (un (aA 11) (al 0)) (aw (un (aA 13) (al 0)) (aw (un (aA 12) (al 0)) (aw (un (aA 21) (al 0)) aJ)))))))
  bh)))
noncomputable def jj:aW:=bf 1 [] Mv
noncomputable def yI:gK:=(fb b9 jj gH)
noncomputable def Vu:TS:=sL [.asg 1 (kA 0 [.comp [3] (.atr 23 v0) .nop (mE 0 v3 [])]),.ret (tU [.atr 20 v0,.atr 18 v0,mE 1 v0 [],v1,kA 0 [.comp [2] (.atr 22 v0) .nop (mE 0 v2 [])]])]
noncomputable def RM(self:aW):cA:=⟨[],[("tuple",eY)],[("told",(fb nv fe (fb b9 self gH))),("clauses",yI)]⟩
noncomputable def yQ(self:aW):SM:=
  (aV (cK [1] (bn eY (aw (eI [3] (un (aA 23) (al 0)) (fun _ σ=>some (true,σ)) (cC (fb nv fe (fb b9 self gH)) (al 3) aJ)) aJ)))
  (aV (eC (bn fU (aw (un (aA 20) (al 0)) (aw (un (aA 18) (al 0)) (aw (cC yI (al 0) aJ) (aw (al 1) (aw (bn eY (aw (eI [2] (un (aA 22) (al 0)) (fun _ σ=>some (true,σ)) (cC (fb nv fe (fb b9 self gH)) (al 2) aJ)) aJ)) aJ)))))))
  bh))
noncomputable def wm(self:aW):aW:=bf 1 [] (yQ self)
noncomputable def bw:Nat->aW
 |0=>TW
 |n+1=>vF nQ (wm (bw n))
noncomputable def Vt:TS:=sL [.asg 1 (kA 0 [.comp [4] (.atr 26 v0) .nop (tU [v4,.cmp .In v4 (.atr 27 v0),kA 0 [.comp [5] (.idx (.atr 26 v0) v4) .nop (mE 0 v5 [])]])]),.ret (tU [kA 0 [.comp [3] (.atr 24 v0) .nop (mE 0 v3 [])],kA 0 [.comp [2] (.atr 25 v0) .nop (mE 0 v2 [])],v1])]
noncomputable def RL:cA:=⟨[],[("tuple",eY)],[("told",(fb b9 (bw 6) gH))]⟩
noncomputable def TZ:SM:=
  (aV (cK [1] (bn eY (aw (eI [4] (un (aA 26) (al 0)) (fun _ σ=>some (true,σ)) (bn fU (aw (al 4) (aw (rI (fh (bU .In) (al 4) (un (aA 27) (al 0)))) (aw (bn eY (aw (eI [5] (bi fM (un (aA 26) (al 0)) (al 4)) (fun _ σ=>some (true,σ)) (cC (fb b9 (bw 6) gH) (al 5) aJ)) aJ)) aJ))))) aJ)))
  (aV (eC (bn fU (aw (bn eY (aw (eI [3] (un (aA 24) (al 0)) (fun _ σ=>some (true,σ)) (cC (fb b9 (bw 6) gH) (al 3) aJ)) aJ)) (aw (bn eY (aw (eI [2] (un (aA 25) (al 0)) (fun _ σ=>some (true,σ)) (cC (fb b9 (bw 6) gH) (al 2) aJ)) aJ)) (aw (al 1) aJ)))))
  bh))
noncomputable def wl:aW:=bf 1 [] TZ
noncomputable def sO:aW:=vF nQ wl
noncomputable def qs:gK:=(fb Uy qv (fb lE iX (fb nv fe (fb b9 (bw 6) (fb Y4 sO gH)))))
noncomputable def Jl:TS:=sL [.ret (.cmp .GtE (.atr 4 v0) (kA 0 [.atr 38 v0]))]
noncomputable def HA:cA:=⟨[],[("len",eN)],[]⟩
noncomputable def oT:SM:=
  (aV (eC (rI (fh (bU .GtE) (un (aA 4) (al 0)) (bn eN (aw (un (aA 38) (al 0)) aJ)))))
  bh)
noncomputable def kZ:aW:=bf 1 [] oT
noncomputable def VY:gK:=(fb df kZ gH)
noncomputable def pX:gK:=(fb df vg gH)
noncomputable def Qu:TS:=sL [.ifs (.cmp .Lt (.bin .Add (.atr 4 v0) v1) (kA 0 [.atr 38 v0])) (sL [.ret (.idx (.atr 38 v0) (.bin .Add (.atr 4 v0) v1))]) .nil,.ret (.cst (.none))]
noncomputable def Nb:cA:=⟨[],[("len",eN)],[]⟩
noncomputable def oU:SM:=
  (aV (rV (fh (bU .Lt) (bi (bT .Add) (un (aA 4) (al 0)) (al 1)) (bn eN (aw (un (aA 38) (al 0)) aJ)))
  (aV (eC (bi fM (un (aA 38) (al 0)) (bi (bT .Add) (un (aA 4) (al 0)) (al 1))))
  bh)
  bh)
  (aV (eC (a6 (.none)))
  bh))
noncomputable def hV:aW:=bf 2 [.int (0)] oU
noncomputable def gg:gK:=(fb df hV gH)
noncomputable def yL:gK:=(fb df H6 gH)
noncomputable def Jm:TS:=sL [.asg 3 (mE 0 v0 [v2]),.ret (.and (.cmp .IsNot v3 (.cst (.none))) (.cmp .Eq (.atr 2 v3) v1))]
noncomputable def HB:cA:=⟨[],[],[("peek",gg)]⟩
noncomputable def k7:SM:=
  (aV (cK [3] (cC gg (al 0) (aw (al 2) aJ)))
  (aV (eC (Sq (rI (fh (bU .IsNot) (al 3) (a6 (.none)))) (rI (fh (bU .Eq) (un (aA 2) (al 3)) (al 1)))))
  bh))
noncomputable def il:aW:=bf 3 [.int (0)] k7
noncomputable def eZ:gK:=(fb df il gH)
noncomputable def tM:gK:=(fb df Lj gH)
noncomputable def vT:TS:=sL [.asg 2 (cI 0),.for_ [3] (mE 0 v1 [cS [32]]) (sL [.ifs (.or (.not (mE 2 v0 [cS [119,111,114,100],v2])) (.cmp .NotEq (.atr 1 (mE 1 v0 [v2])) v3)) (sL [.ret (.cst (.bool false))]) .nil,.asg 2 (.bin .Add v2 (cI 1))]),.ret (.cst (.bool true))]
noncomputable def uL:cA:=⟨[],[],[("split",(ic kz)),("peek",gg),("is_kind",eZ)]⟩
noncomputable def Ie:SM:=
  b4 uL vT
noncomputable def jr:aW:=bf 2 [] Ie
noncomputable def qR:gK:=(fb df jr gH)
noncomputable def Gs:gK:=(fb df Ll gH)
noncomputable def Jn:TS:=sL [.ret (.and (mE 1 v0 [cS [115,105,103,110],v2]) (.cmp .Eq (.atr 1 (mE 0 v0 [v2])) v1))]
noncomputable def HC:cA:=⟨[],[],[("peek",gg),("is_kind",eZ)]⟩
noncomputable def k8:SM:=
  (aV (eC (Sq (cC eZ (al 0) (aw (a6 (.str [115,105,103,110])) (aw (al 2) aJ))) (rI (fh (bU .Eq) (un (aA 1) (cC gg (al 0) (aw (al 2) aJ))) (al 1)))))
  bh)
noncomputable def jq:aW:=bf 3 [.int (0)] k8
noncomputable def vi:gK:=(fb df jq gH)
noncomputable def pY:gK:=(fb df Lk gH)
noncomputable def E8:TS:=sL [.ifs (.not (mE 0 v0 [v1])) (sL [.ret (.cst (.bool false))]) .nil,.asgA 4 v0 (.bin .Add (.atr 4 v0) (cI 1)),.ret (.cst (.bool true))]
noncomputable def Dy:cA:=⟨[],[],[("is_sign",vi)]⟩
noncomputable def mL:SM:=
  (aV (rV (oZ (ja (cC vi (al 0) (aw (al 1) aJ))))
  (aV (eC (a6 (.bool false)))
  bh)
  bh)
  (aV (lM 4 (al 0) (bi (bT .Add) (un (aA 4) (al 0)) (a6 (.int (1)))))
  (aV (eC (a6 (.bool true)))
  bh)))
noncomputable def jH:aW:=bf 2 [] mL
noncomputable def Q2:gK:=(fb df jH gH)
noncomputable def sM:gK:=(fb df Fg gH)
noncomputable def sv:TS:=sL [.ifs (.not (mE 0 v0 [v1])) (sL [.bad]) .nil]
noncomputable def rj:cA:=⟨[],[],[("skip_sign",sM)]⟩
noncomputable def E2:SM:=
  b4 rj sv
noncomputable def r9:aW:=bf 2 [] E2
noncomputable def yK:gK:=(fb df r9 gH)
noncomputable def Qv:TS:=sL [.ifs (.not (mE 1 v0 [v1])) (sL [.ret (.cst (.bool false))]) .nil,.asgA 4 v0 (.bin .Add (.atr 4 v0) (kA 0 [mE 0 v1 [cS [32]]])),.ret (.cst (.bool true))]
noncomputable def Nc:cA:=⟨[],[("len",eN)],[("split",(ic kz)),("is_word",qR)]⟩
noncomputable def oV:SM:=
  (aV (rV (oZ (ja (cC qR (al 0) (aw (al 1) aJ))))
  (aV (eC (a6 (.bool false)))
  bh)
  bh)
  (aV (lM 4 (al 0) (bi (bT .Add) (un (aA 4) (al 0)) (bn eN (aw (cC (ic kz) (al 1) (aw (a6 (.str [32])) aJ)) aJ))))
  (aV (eC (a6 (.bool true)))
  bh)))
noncomputable def oO:aW:=bf 2 [] oV
noncomputable def aeX:gK:=(fb df oO gH)
noncomputable def vj:gK:=(fb df VW gH)
noncomputable def AE:TS:=sL [.ifs (.not (mE 1 v0 [v1])) (sL [.ret (.cst (.bool false))]) .nil,.expr (mE 0 v0 [cS [46]]),.ret (.cst (.bool true))]
noncomputable def yt:cA:=⟨[],[],[("need_sign",yK),("skip",vj)]⟩
noncomputable def ML:SM:=
  b4 yt AE
noncomputable def zV:aW:=bf 2 [] ML
noncomputable def L7:TS:=sL [.asgA 34 v1 v0,.expr (mE 0 (.atr 22 v0) [v1])]
noncomputable def JD:cA:=⟨[],[],[("append",(fH f8))]⟩
noncomputable def V4:SM:=
  b4 JD L7
noncomputable def Lm:aW:=bf 2 [] V4
noncomputable def yH:gK:=(fb b9 Lm gH)
noncomputable def Dm:TS:=sL [.whl (.and (.cmp .NotEq v0 (lS [])) (.cmp .GtE (.atr 20 (.idx v0 (.neg (cI 1)))) (.atr 20 v1))) (sL [.expr (mE 2 v0 [])]),.ifs (.or (.cmp .Eq v0 (lS [])) (.cmp .Eq (.atr 20 (.idx v0 (cI 0))) (.glb 1))) (sL [.bad]) .nil,.asg 2 (.idx v0 (.neg (cI 1))),.ifs (.and (.cmp .NotEq (.atr 22 v2) (lS [])) (.cmp .NotEq (.atr 20 (.idx (.atr 22 v2) (cI 0))) (.atr 20 v1))) (sL [.bad]) .nil,.ifs (.cmp .GtE (kA 0 [v0]) (.glb 0)) (sL [.bad]) .nil,.expr (mE 1 v2 [v1]),.expr (mE 0 v0 [v1])]
noncomputable def AN:cA:=⟨[("MOST_NESTED",Bp),("ALONE",Bo)],[("len",eN)],[("append",(fH f8)),("add",yH),("pop",(fH YJ))]⟩
noncomputable def On:SM:=
  b4 AN Dm
noncomputable def BC:aW:=bf 2 [] On
noncomputable def Tr:TS:=sL [.asgT [1,2,3,4] (tU [lS [],lS [],.cst (.none),lS []]),.for_ [5] v0 (sL [.ifs (.cmp .Eq (.atr 20 v5) (.glb 2)) (sL [.ifs (.cmp .Is v3 (.cst (.none))) (sL [.bad]) .nil,.expr (mE 1 (.atr 23 v3) [.idx (.atr 23 v5) (cI 0)]),.cont]) .nil,.ifs (.cmp .Eq (.atr 20 v5) (.glb 0)) (sL [.ifs (.or (.cmp .Eq v1 (lS [])) (.cmp .Eq (.atr 20 (.idx v1 (.neg (cI 1)))) (.glb 1))) (sL [.bad]) .nil,.expr (mE 1 v4 [tU [.bin .Sub (kA 0 [v1]) (cI 1),v5]])]) (sL [.ifs (.and (.cmp .NotEq v4 (lS [])) (.and (.cmp .Eq (.idx (.idx v4 (.neg (cI 1))) (cI 0)) (.bin .Sub (kA 0 [v1]) (cI 1))) (.cmp .NotIn (.atr 20 v5) (tU [cI 1,.glb 1])))) (sL [.bad]) (sL [.ifs (.cmp .In (.atr 20 v5) (tU [cI 1,.glb 1])) (sL [.expr (mE 1 v1 [v5]),.asg 2 (lS [v5])]) (sL [.expr (kA 1 [v2,v5])])])]),.asg 3 v5]),.for_ [6,5] v4 (sL [.expr (mE 0 (.idx v1 v6) [v5])]),.ret v1]
noncomputable def QN:cA:=⟨[("RENAMING",Bq),("ALONE",Bo),("NAMING",J0)],[("len",eN),("put_beneath",BC)],[("add",yH),("append",(fH f8))]⟩
noncomputable def acu:SM:=
  b4 QN Tr
noncomputable def R9:aW:=bf 1 [] acu
noncomputable def KY:TS:=sL [.asg 1 (mE 0 v0 []),.ret (.and (.cmp .IsNot v1 (.cst (.none))) (.cmp .Eq (.atr 2 v1) (cS [110,117,109,98,101,114])))]
noncomputable def JH:cA:=⟨[],[],[("peek",yL)]⟩
noncomputable def jS:SM:=
  (aV (cK [1] (cC yL (al 0) aJ))
  (aV (eC (Sq (rI (fh (bU .IsNot) (al 1) (a6 (.none)))) (rI (fh (bU .Eq) (un (aA 2) (al 1)) (a6 (.str [110,117,109,98,101,114]))))))
  bh))
noncomputable def jR:aW:=bf 1 [] jS
noncomputable def vR:TS:=sL [.asgA 18 v0 v1,.asgA 19 v0 (kA 0 [v2])]
noncomputable def uJ:cA:=⟨[],[("tuple",eY)],[]⟩
noncomputable def vp:SM:=
  b4 uJ vR
noncomputable def H8:aW:=bf 3 [] vp
noncomputable def xc:aW:=FE 8 (ud nv H8)
noncomputable def x6:TS:=sL [.for_ [2] (mE 0 v1 [cS [32]]) (sL [.ifs (mE 1 v0 [v2]) (sL [.ret v2]) .nil]),.ret (cS [])]
noncomputable def wb:cA:=⟨[],[],[("split",(ic kz)),("skip",vj)]⟩
noncomputable def Ka:SM:=
  b4 wb x6
noncomputable def xf:aW:=bf 2 [] Ka
noncomputable def th:gK:=(fb df xf gH)
noncomputable def vW:TS:=sL [.asg 1 (.comp [3] v0 .nop (kA 1 [v3])),.frz 1,.ifs (.comp [2] v1 (.cmp .Gt v2 (.glb 0)) v2) (sL [.bad]) .nil,.ret (kA 0 [v1])]
noncomputable def uO:cA:=⟨[("MOST_OCTET",Fi)],[("bytes",VU),("ord",YI)],[]⟩
noncomputable def Ih:SM:=
  b4 uO vW
noncomputable def io:aW:=bf 1 [] Ih
noncomputable def KW:TS:=sL [.ifs (.not (mE 1 v0 [cS [108,105,116,101,114,97,108]])) (sL [.bad]) .nil,.asg 1 (kA 0 [.atr 1 (mE 0 v0 [])]),.ifs (.cmp .Is v1 (.cst (.none))) (sL [.bad]) .nil,.asgA 4 v0 (.bin .Add (.atr 4 v0) (cI 1)),.ret v1]
noncomputable def JE:cA:=⟨[],[("octets_of_text",(wz io))],[("peek",gg),("is_kind",eZ)]⟩
noncomputable def p8:SM:=
  (aV (rV (oZ (ja (cC eZ (al 0) (aw (a6 (.str [108,105,116,101,114,97,108])) aJ))))
  (aV (fun _ _=>none)
  bh)
  bh)
  (aV (cK [1] (bn (wz io) (aw (un (aA 1) (cC gg (al 0) aJ)) aJ)))
  (aV (rV (fh (bU .Is) (al 1) (a6 (.none)))
  (aV (fun _ _=>none)
  bh)
  bh)
  (aV (lM 4 (al 0) (bi (bT .Add) (un (aA 4) (al 0)) (a6 (.int (1)))))
  (aV (eC (al 1))
  bh)))))
noncomputable def l9:aW:=bf 1 [] p8
noncomputable def YM:gK:=(fb df l9 gH)
noncomputable def R7:gK:=(fb df (N5 io) gH)
noncomputable def su:TS:=sL [.ifs (.or (mE 1 v0 [cS [43]]) (mE 1 v0 [cS [45]])) (sL [.ret (mE 0 v0 [cS [110,117,109,98,101,114],cI 1])]) .nil,.ret (mE 0 v0 [cS [110,117,109,98,101,114]])]
noncomputable def ri:cA:=⟨[],[],[("is_kind",tM),("is_sign",pY)]⟩
noncomputable def E1:SM:=
  b4 ri su
noncomputable def r8:aW:=bf 1 [] E1
noncomputable def yJ:gK:=(fb df r8 gH)
noncomputable def QB:TS:=sL [.ret (tU [.neg (.idx v0 (cI 0)),.idx v0 (cI 1)])]
noncomputable def Mn:cA:=⟨[],[],[]⟩
noncomputable def YR:SM:=
  b4 Mn QB
noncomputable def Oc:aW:=bf 1 [] YR
noncomputable def Qz:TS:=sL [.ifs (.cmp .Lt v1 (cI 0)) (sL [.bad]) .nil,.whl (.and (.cmp .Gt v1 (cI 0)) (.cmp .Eq (.bin .Mod v0 (cI 10)) (cI 0))) (sL [.bad,.bad]),.ret (tU [v0,v1])]
noncomputable def Ml:cA:=⟨[],[],[]⟩
noncomputable def YP:SM:=
  b4 Ml Qz
noncomputable def Oa:aW:=bf 2 [.int (0)] YP
noncomputable def Mg:TS:=sL [.asg 1 (cI 0),.for_ [2] v0 (sL [.asg 1 (.bin .Add (.bin .Mult v1 (cI 10)) (mE 0 (.glb 0) [v2]))]),.ret v1]
noncomputable def JP:cA:=⟨[("FIGURES_decimals",mK)],[],[("index",(ic H5))]⟩
noncomputable def We:SM:=
  b4 JP Mg
noncomputable def Ls:aW:=bf 1 [] We
noncomputable def Aw:TS:=sL [.asg 1 (.ife (.cmp .In (.slc v0 .nop (cI 1)) (tU [cS [43],cS [45]])) (cI 1) (cI 0)),.asgT [2,3] (tU [.slc v0 v1 .nop,cS []]),.ifs (.cmp .In (cS [46]) v2) (sL [.asg 4 (mE 0 v2 [cS [46]]),.asgT [2,3] (tU [.slc v2 .nop v4,.slc v2 (.bin .Add v4 (cI 1)) .nop]),.ifs (.cmp .Eq v3 (cS [])) (sL [.bad]) .nil]) .nil,.ifs (.cmp .Eq (.bin .Add v2 v3) (cS [])) (sL [.bad]) .nil,.for_ [5] (kA 3 [v1,kA 1 [v0]]) (sL [.ifs (.and (.cmp .NotIn (.idx v0 v5) (.glb 0)) (.cmp .NotEq v5 (.bin .Add v1 (kA 1 [v2])))) (sL [.bad]) .nil]),.asg 6 (kA 2 [.bin .Add v2 v3]),.ret (kA 0 [.ife (.cmp .Eq (.slc v0 .nop (cI 1)) (cS [45])) (.neg v6) v6,kA 1 [v3]])]
noncomputable def yk:cA:=⟨[("FIGURES_decimals",mK)],[("decimal",Oa),("len",eN),("worth_of",Ls),("range",lx)],[("index",(ic H5))]⟩
noncomputable def MD:SM:=
  b4 yk Aw
noncomputable def iw:aW:=bf 1 [] MD
noncomputable def Qw:TS:=sL [.asg 1 (mE 0 v0 []),.ifs (.cmp .Is v1 (.cst (.none))) (sL [.bad]) .nil,.asgA 4 v0 (.bin .Add (.atr 4 v0) (cI 1)),.ret v1]
noncomputable def Nd:cA:=⟨[],[],[("peek",gg)]⟩
noncomputable def tT:SM:=
  (aV (cK [1] (cC gg (al 0) aJ))
  (aV (rV (fh (bU .Is) (al 1) (a6 (.none)))
  (aV (fun _ _=>none)
  bh)
  bh)
  (aV (lM 4 (al 0) (bi (bT .Add) (un (aA 4) (al 0)) (a6 (.int (1)))))
  (aV (eC (al 1))
  bh))))
noncomputable def oP:aW:=bf 1 [] tT
noncomputable def aeY:gK:=(fb df oP gH)
noncomputable def D0:gK:=(fb df VX gH)
noncomputable def x7:TS:=sL [.ifs (.not (mE 2 v0 [])) (sL [.bad]) .nil,.asg 1 (mE 1 v0 [cS [45]]),.ifs (.not v1) (sL [.expr (mE 1 v0 [cS [43]])]) .nil,.asg 2 (kA 1 [.atr 1 (mE 0 v0 [])]),.ret (.ife v1 (kA 0 [v2]) v2)]
noncomputable def wc:cA:=⟨[],[("negated",Oc),("read_decimal",iw)],[("take",D0),("skip_sign",sM),("is_number",yJ)]⟩
noncomputable def Kb:SM:=
  b4 wc x7
noncomputable def xg:aW:=bf 1 [] Kb
noncomputable def R8:gK:=(fb df xg gH)
noncomputable def Az:TS:=sL [.ifs (mE 2 v0 []) (sL [.ret (tU [cS [110,117,109,98,101,114],mE 3 v0 []])]) .nil,.ifs (mE 0 v0 [cS [108,105,116,101,114,97,108]]) (sL [.ret (tU [cS [116,101,120,116],mE 1 v0 []])]) .nil,.bad,.bad,.bad]
noncomputable def yo:cA:=⟨[],[],[("is_kind",tM),("octets",R7),("is_number",yJ),("signed",R8)]⟩
noncomputable def MG:SM:=
  b4 yo Az
noncomputable def zQ:aW:=bf 2 [] MG
noncomputable def Dj:TS:=sL [.ret (.cmp .In (.bin .Add (.bin .Add (cS [32]) v0) (cS [32])) (.glb 0))]
noncomputable def AK:cA:=⟨[("RESERVED",ly)],[],[]⟩
noncomputable def Ok:SM:=
  b4 AK Dj
noncomputable def Bz:aW:=bf 1 [] Ok
noncomputable def vS:TS:=sL [.ret (.and (mE 1 v0 [cS [119,111,114,100],v1]) (.not (kA 0 [.atr 1 (mE 0 v0 [v1])])))]
noncomputable def uK:cA:=⟨[],[("is_reserved",Bz)],[("peek",yL),("is_kind",tM)]⟩
noncomputable def Ic:SM:=
  b4 uK vS
noncomputable def vm:aW:=bf 2 [.int (0)] Ic
noncomputable def tN:gK:=(fb df vm gH)
noncomputable def Ay:TS:=sL [.ifs (mE 0 v0 []) (sL [.bad]) .nil,.ret (kA 0 [v0,.glb 0])]
noncomputable def yn:cA:=⟨[("no_expression",.opq)],[("read_operand",zQ)],[("is_name",tN)]⟩
noncomputable def MF:SM:=
  b4 yn Ay
noncomputable def zP:aW:=bf 1 [] MF
noncomputable def Dp:TS:=sL [.ifs (.cmp .Eq (mE 2 v0 [cS [86,65,76,85,69,32,86,65,76,85,69,83]]) (cS [])) (sL [.bad]) .nil,.expr (mE 2 v0 [cS [73,83,32,65,82,69]]),.asg 1 (lS []),.whl (.or (.cmp .Eq v1 (lS [])) (.not (mE 0 v0 [cS [46]]))) (sL [.asgT [2,3] (tU [kA 0 [v0],.cst (.none)]),.ifs (.cmp .NotEq (mE 2 v0 [cS [84,72,82,85,32,84,72,82,79,85,71,72]]) (cS [])) (sL [.asg 3 (kA 0 [v0])]) .nil,.expr (mE 1 v1 [tU [v2,v3]])]),.ret v1]
noncomputable def AP:cA:=⟨[],[("read_literal",zP)],[("is_sign",pY),("append",(fH f8)),("one_of",th)]⟩
noncomputable def Op:SM:=
  b4 AP Dp
noncomputable def BE:aW:=bf 1 [] Op
noncomputable def Df:TS:=sL [.ifs (.not (mE 1 v0 [])) (sL [.bad]) .nil,.ret (.atr 1 (mE 0 v0 []))]
noncomputable def AG:cA:=⟨[],[],[("take",D0),("is_name",tN)]⟩
noncomputable def Oe:SM:=
  b4 AG Df
noncomputable def Bu:aW:=bf 1 [] Oe
noncomputable def DZ:gK:=(amU df Bu)
noncomputable def Dg:TS:=sL [.ifs (.not (mE 0 v0 [v1])) (sL [.bad]) .nil]
noncomputable def AH:cA:=⟨[],[],[("skip",vj)]⟩
noncomputable def Og:SM:=
  b4 AH Dg
noncomputable def Bv:aW:=bf 2 [] Og
noncomputable def aa3:gK:=(fb df Bv gH)
noncomputable def AA:TS:=sL [.expr (mE 2 v0 [cS [82,69,78,65,77,69,83]]),.asgT [1,2] (tU [mE 1 v0 [],.cst (.none)]),.ifs (.cmp .NotEq (mE 0 v0 [cS [84,72,82,85,32,84,72,82,79,85,71,72]]) (cS [])) (sL [.asg 2 (mE 1 v0 [])]) .nil,.ret (tU [v1,v2])]
noncomputable def yp:cA:=⟨[],[],[("one_of",th),("name",DZ),("need",aa3)]⟩
noncomputable def MH:SM:=
  b4 yp AA
noncomputable def zR:aW:=bf 1 [] MH
noncomputable def uE:TS:=sL [.asgA 8 v0 v1,.asgA 9 v0 v2,.asgA 7 v0 v3,.asgA 6 v0 (kA 0 [v4]),.asgA 5 v0 (kA 0 [v5])]
noncomputable def sA:cA:=⟨[],[("tuple",eY)],[]⟩
noncomputable def tS:SM:=
  b4 sA uE
noncomputable def Gv:aW:=bf 6 [.none,.tup [],.tup []] tS
noncomputable def J7:aW:=FE 8 (ud lE Gv)
noncomputable def Ao:TS:=sL [.asg 1 (lS [mE 1 v0 []]),.whl (mE 0 v0 []) (sL [.bad]),.ret v1]
noncomputable def yc:cA:=⟨[],[],[("is_name",tN),("name",DZ)]⟩
noncomputable def Mw:SM:=
  b4 yc Ao
noncomputable def zJ:aW:=bf 1 [] Mw
noncomputable def VZ:gK:=(fb df zJ gH)
noncomputable def Ar:TS:=sL [.asgT [1,2] (tU [cI 0,cI 0]),.whl (.or (.cmp .Gt v1 (cI 0)) (.and (.cmp .Eq v2 (cI 0)) (mE 0 v0 [cS [40]]))) (sL [.bad,.bad,.bad]),.ret (.cst (.bool false))]
noncomputable def yg:cA:=⟨[],[],[("is_sign",pY)]⟩
noncomputable def Mz:SM:=
  b4 yg Ar
noncomputable def zM:aW:=bf 1 [] Mz
noncomputable def Ma:TS:=sL [.asg 2 (mE 3 v0 []),.asg 3 (lS []),.whl (.cmp .NotEq (mE 1 v0 [cS [79,70,32,73,78]]) (cS [])) (sL [.expr (mE 2 v3 [mE 3 v0 []])]),.asg 4 (tU []),.ifs (.and (mE 0 v0 [cS [40]]) (.not (kA 1 [v0]))) (sL [.bad]) .nil,.asg 5 (.ife (kA 1 [v0]) .nil (.cst (.none))),.ret (tU [cS [114,101,102],v2,kA 0 [v3],v4,v5])]
noncomputable def JJ:cA:=⟨[],[("tuple",eY),("is_part_next",zM)],[("is_sign",pY),("one_of",th),("append",(fH f8)),("name",DZ)]⟩
noncomputable def V7:SM:=
  b4 JJ Ma
noncomputable def Ln:aW:=bf 2 [] V7
noncomputable def Md:TS:=sL [.ifs (.cmp .GtE v1 (.idx v0 (cI 1))) (sL [.ret (.bin .Mult (.idx v0 (cI 0)) (.bin .Pow (cI 10) (.bin .Sub v1 (.idx v0 (cI 1)))))]) .nil,.bad,.bad,.bad,.bad]
noncomputable def JM:cA:=⟨[],[],[]⟩
noncomputable def Wa:SM:=
  b4 JM Md
noncomputable def Lq:aW:=bf 3 [] Wa
noncomputable def Me:TS:=sL [.ret (kA 0 [v0,cI 0,.cst (.bool false)])]
noncomputable def JN:cA:=⟨[],[("units_at",Lq)],[]⟩
noncomputable def Wb:SM:=
  b4 JN Me
noncomputable def n6:aW:=bf 1 [] Wb
noncomputable def L9:TS:=sL [.ret (.cmp .Eq (.idx v0 (cI 1)) (cI 0))]
noncomputable def JI:cA:=⟨[],[],[]⟩
noncomputable def V6:SM:=
  b4 JI L9
noncomputable def lA:aW:=bf 1 [] V6
noncomputable def M7:TS:=sL [.ifs (.not (mE 1 v0 [cS [110,117,109,98,101,114]])) (sL [.bad]) .nil,.asg 1 (kA 2 [.atr 1 (mE 0 v0 [])]),.ifs (.not (kA 1 [v1])) (sL [.bad]) .nil,.asgA 4 v0 (.bin .Add (.atr 4 v0) (cI 1)),.ret (kA 0 [v1])]
noncomputable def K7:cA:=⟨[],[("whole_of",(wz n6)),("is_whole",(wz lA)),("read_decimal",(wz iw))],[("peek",gg),("is_kind",eZ)]⟩
noncomputable def rA:SM:=
  (aV (rV (oZ (ja (cC eZ (al 0) (aw (a6 (.str [110,117,109,98,101,114])) aJ))))
  (aV (fun _ _=>none)
  bh)
  bh)
  (aV (cK [1] (bn (wz iw) (aw (un (aA 1) (cC gg (al 0) aJ)) aJ)))
  (aV (rV (oZ (ja (bn (wz lA) (aw (al 1) aJ))))
  (aV (fun _ _=>none)
  bh)
  bh)
  (aV (lM 4 (al 0) (bi (bT .Add) (un (aA 4) (al 0)) (a6 (.int (1)))))
  (aV (eC (bn (wz n6) (aw (al 1) aJ)))
  bh)))))
noncomputable def np:aW:=bf 1 [] rA
noncomputable def acs:gK:=(fb df np gH)
noncomputable def N8:gK:=(fb df (RY iw lA n6) gH)
noncomputable def Dn:TS:=sL [.asg 1 (mE 5 v0 []),.asgT [2,3] (tU [v1,.cst (.none)]),.ifs (mE 0 v0 [cS [84,79]]) (sL [.asg 2 (mE 5 v0 [])]) .nil,.expr (mE 0 v0 [cS [84,73,77,69,83]]),.ifs (mE 0 v0 [cS [68,69,80,69,78,68,73,78,71]]) (sL [.expr (mE 0 v0 [cS [79,78]]),.asg 3 (kA 2 [v0,.glb 0])]) .nil,.asgT [4,5] (tU [lS [],tU []]),.whl (.or (mE 2 v0 [cS [65,83,67,69,78,68,73,78,71]]) (mE 2 v0 [cS [68,69,83,67,69,78,68,73,78,71]])) (sL [.asg 6 (.cmp .Eq (.atr 1 (mE 4 v0 [])) (cS [65,83,67,69,78,68,73,78,71])),.expr (mE 0 v0 [cS [75,69,89]]),.expr (mE 0 v0 [cS [73,83]]),.expr (mE 3 v4 [.comp [7] (mE 1 v0 []) .nop (tU [v6,v7])])]),.ifs (mE 0 v0 [cS [73,78,68,69,88,69,68]]) (sL [.expr (mE 0 v0 [cS [66,89]]),.asg 5 (kA 1 [mE 1 v0 []])]) .nil,.ifs (.or (.cmp .Lt v2 v1) (.or (.cmp .Eq v2 (cI 0)) (.and (.cmp .Is v3 (.cst (.none))) (.cmp .NotEq v2 v1)))) (sL [.bad]) .nil,.ret (kA 0 [v1,v2,v3,v4,v5])]
noncomputable def AO:cA:=⟨[("no_expression",.opq)],[("Occurs",J7),("tuple",eY),("read_ref",Ln)],[("skip",vj),("names",VZ),("is_word",Gs),("extend",(fH fR)),("take",D0),("whole",N8)]⟩
noncomputable def Oo:SM:=
  b4 AO Dn
noncomputable def BD:aW:=bf 1 [] Oo
noncomputable def rh:TS:=sL [.ifs (.cmp .Eq v2 (cS [82,69,68,69,70,73,78,69,83])) (sL [.bad]) (sL [.ifs (.cmp .Eq v2 (cS [79,67,67,85,82,83])) (sL [.asgA 14 v1 (kA 0 [v0])]) (sL [.ifs (.cmp .Eq v2 (cS [74,85,83,84,73,70,73,69,68])) (sL [.bad,.bad]) (sL [.ifs (.cmp .Eq v2 (cS [66,76,65,78,75])) (sL [.bad,.bad,.bad]) (sL [.ifs (.cmp .Eq v2 (cS [86,65,76,85,69])) (sL [.bad,.bad]) (sL [.ifs (.cmp .Eq v2 (cS [85,83,65,71,69])) (sL [.expr (mE 2 v0 [cS [73,83]]),.asg 3 (mE 0 v0 [mE 1 (cS [32]) [.glb 0]]),.ifs (.cmp .Eq v3 (cS [])) (sL [.bad]) .nil,.asgA 15 v1 (.idx (.glb 0) v3)]) (sL [.bad])])])])])])]
noncomputable def pO:cA:=⟨[("USAGE_WORDS",tK)],[("read_occurs",BD)],[("one_of",th),("join",(ic vf)),("skip",vj)]⟩
noncomputable def BP:SM:=
  b4 pO rh
noncomputable def qT:aW:=bf 3 [] BP
noncomputable def Dh:TS:=sL [.for_ [1] (tU [cS [82,69,68,69,70,73,78,69,83],cS [79,67,67,85,82,83],cS [66,76,65,78,75],cS [86,65,76,85,69],cS [85,83,65,71,69],cS [83,73,71,78]]) (sL [.ifs (mE 0 v0 [v1]) (sL [.ret v1]) .nil]),.bad,.bad,.bad]
noncomputable def AI:cA:=⟨[],[],[("skip",vj)]⟩
noncomputable def Oi:SM:=
  b4 AI Dh
noncomputable def Bw:aW:=bf 1 [] Oi
noncomputable def sw:TS:=sL [.ifs (.cmp .NotEq (mE 0 v0 [cS [80,73,67,32,80,73,67,84,85,82,69]]) (cS [])) (sL [.ifs (.not (mE 3 v0 [cS [112,105,99,116,117,114,101]])) (sL [.bad]) .nil,.asgA 16 v1 (.atr 1 (mE 2 v0 [])),.ret (cS [80,73,67,84,85,82,69])]) .nil,.asg 2 (mE 0 v0 [mE 1 (cS [32]) [.glb 0]]),.ifs (.cmp .NotEq v2 (cS [])) (sL [.bad,.bad]) .nil,.asg 3 (mE 0 v0 [cS [76,69,65,68,73,78,71,32,84,82,65,73,76,73,78,71]]),.ifs (.cmp .NotEq v3 (cS [])) (sL [.bad,.bad]) .nil,.ret (cS [])]
noncomputable def rk:cA:=⟨[("USAGE_WORDS",tK)],[],[("one_of",th),("join",(ic vf)),("take",D0),("is_kind",tM)]⟩
noncomputable def E3:SM:=
  b4 rk sw
noncomputable def sb:aW:=bf 2 [] E3
noncomputable def Av:TS:=sL [.asg 2 (lS []),.whl (.not (mE 0 v0 [cS [46]])) (sL [.asg 3 (mE 2 v0 []),.asg 4 (kA 2 [v0,v1]),.ifs (.cmp .Eq v4 (cS [])) (sL [.asg 4 (kA 1 [v0]),.ifs (.cmp .Eq v4 (cS [])) (sL [.bad]) .nil,.expr (kA 0 [v0,v1,v4])]) .nil,.ifs (.cmp .In v4 v2) (sL [.bad]) .nil,.expr (mE 1 v2 [v4])])]
noncomputable def yj:cA:=⟨[],[("read_named_clause",qT),("clause_word",Bw),("read_bare_clause",sb)],[("is_sign",pY),("append",(fH f8)),("peek",yL)]⟩
noncomputable def MC:SM:=
  b4 yj Av
noncomputable def zO:aW:=bf 2 [] MC
noncomputable def xZ:TS:=sL [.asgA 20 v0 v1,.asgA 18 v0 v2,.asgA 16 v0 (.cst (.none)),.asgA 15 v0 (cS []),.asgA 10 v0 (cS []),.asgA 35 v0 (.cst (.bool false)),.asgA 14 v0 (.cst (.none)),.asgA 17 v0 (cS []),.asgA 11 v0 (.cst (.none)),.asgA 13 v0 (.cst (.bool false)),.asgA 12 v0 (.cst (.bool false)),.asgA 23 v0 (lS []),.asgA 22 v0 (lS []),.asgA 34 v0 (.cst (.none)),.asgA 21 v0 (.cst (.none)),.asgA 33 v0 (cS []),.asgA 32 v0 (cI 0),.asgA 31 v0 (cI 0),.asgA 30 v0 (.cst (.none))]
noncomputable def vZ:cA:=⟨[],[],[]⟩
noncomputable def xj:SM:=
  b4 vZ xZ
noncomputable def J5:aW:=bf 3 [] xj
noncomputable def oN:aW:=ud b9 J5
noncomputable def M6:TS:=sL [.ifs (.not (.atr 38 v0)) (sL [.bad]) .nil,.ret (kA 0 [v1,.atr 4 (.idx (.atr 38 v0) (kA 1 [.atr 4 v0,.bin .Sub (kA 2 [.atr 38 v0]) (cI 1)]))])]
noncomputable def K5:cA:=⟨[],[("GrammarFault",VV),("min",TX),("len",eN)],[]⟩
noncomputable def rz:SM:=
  (aV (rV (oZ (ja (un (aA 38) (al 0))))
  (aV (fun _ _=>none)
  bh)
  bh)
  (aV (eC (bn VV (aw (al 1) (aw (un (aA 4) (bi fM (un (aA 38) (al 0)) (bn TX (aw (un (aA 4) (al 0)) (aw (bi (bT .Sub) (bn eN (aw (un (aA 38) (al 0)) aJ)) (a6 (.int (1)))) aJ))))) aJ))))
  bh))
noncomputable def nk:aW:=bf 2 [] rz
noncomputable def acr:gK:=(fb df nk gH)
noncomputable def N7:gK:=(fb df RX gH)
noncomputable def FZ:TS:=sL [.asg 1 (mE 5 v0 [cS [110,111,32,108,101,118,101,108]]),.asg 2 (mE 4 v0 []),.ifs (.and (.not (.cmp2 .LtE .LtE (cI 1) v2 (.glb 4))) (.cmp .NotIn v2 (tU [.glb 1,.glb 2,.glb 0]))) (sL [.bad]) .nil,.asg 3 (kA 4 [v2,.glb 3]),.ifs (mE 1 v0 []) (sL [.asgA 18 v3 (mE 2 v0 [])]) (sL [.ifs (.cmp .In v2 (tU [.glb 1,.glb 2,.glb 0])) (sL [.bad]) (sL [.expr (mE 3 v0 [.glb 3])])]),.ifs (.cmp .Eq v2 (.glb 0)) (sL [.asgA 23 v3 (lS [kA 0 [.atr 18 v3,kA 1 [v0]]])]) (sL [.ifs (.cmp .Eq v2 (.glb 1)) (sL [.asgA 21 v3 (kA 2 [v0])]) (sL [.expr (kA 3 [v0,v3])])]),.expr (mE 0 v0 [cS [46]]),.ret v3]
noncomputable def DG:cA:=⟨[("NAMING",J0),("RENAMING",Bq),("ALONE",Bo),("FILLER",R5),("MOST_LEVEL",Fh)],[("Named",xc),("read_worths",BE),("read_renames",zR),("read_clauses",zO),("Item",oN)],[("need_sign",yK),("is_name",tN),("name",DZ),("skip",vj),("whole",N8),("fault",N7)]⟩
noncomputable def Rc:SM:=
  b4 DG FZ
noncomputable def lz:aW:=bf 1 [] Rc
noncomputable def qw:aW:=t9 wy lz
noncomputable def Ax:TS:=sL [.asg 1 (lS []),.whl (kA 1 [v0]) (sL [.expr (mE 0 v1 [kA 2 [v0]])]),.ret (kA 0 [v1])]
noncomputable def ym:cA:=⟨[],[("nested",R9),("is_level_here",pV),("read_entry",wh)],[("append",(fH f8))]⟩
noncomputable def ME:SM:=
  b4 ym Ax
noncomputable def w9:aW:=I2 (t6 ai5 12) (bf 1 [] ME)
noncomputable def nq:aW:=t9 nQ w9
noncomputable def uI:TS:=sL [.asg 3 (mE 3 v0 [cS [97,32,102,105,108,101,32,116,119,105,99,101,44,32,111,114,32,111,110,101,32,119,105,116,104,111,117,116,32,114,101,99,111,114,100,115]]),.asg 4 (mE 2 v0 []),.whl (.not (mE 1 v0 [cS [46]])) (sL [.bad,.bad]),.asg 5 (kA 0 [v0]),.ifs (.cmp .NotEq (.comp [6] v5 (.cmp .Eq (.atr 20 v6) (.glb 0)) v6) (lS [])) (sL [.bad]) .nil,.ifs (.or (.cmp .In v4 (.atr 26 v1)) (.cmp .Eq v5 (lS []))) (sL [.bad]) .nil,.asgI (.atr 26 v1) v4 v5,.ifs v2 (sL [.expr (mE 0 (.atr 27 v1) [v4])]) .nil]
noncomputable def sE:cA:=⟨[("ALONE",Bo)],[("read_entries",nj)],[("append",(fH f8)),("skip_sign",sM),("name",DZ),("fault",N7)]⟩
noncomputable def GA:SM:=
  b4 sE uI
noncomputable def tR:aW:=bf 3 [] GA
noncomputable def xY:TS:=sL [.asgA 24 v0 (lS []),.asgA 25 v0 (lS []),.asgA 26 v0 .dic,.asgA 27 v0 (lS []),.asgA 31 v0 (cI 0),.asgA 5 v0 .dic]
noncomputable def vY:cA:=⟨[],[],[]⟩
noncomputable def xi:SM:=
  b4 vY xY
noncomputable def J4:aW:=bf 1 [] xi
noncomputable def vk:aW:=ud Y4 J4
noncomputable def Jt:TS:=sL [.asg 1 (kA 3 []),.ifs (.not (kA 0 [v0,cS [68,65,84,65,32,68,73,86,73,83,73,79,78]])) (sL [.ret v1]) .nil,.ifs (kA 0 [v0,cS [70,73,76,69,32,83,69,67,84,73,79,78]]) (sL [.whl (.or (mE 0 v0 [cS [70,68]]) (mE 0 v0 [cS [83,68]])) (sL [.expr (kA 2 [v0,v1,.cmp .Eq (.atr 1 (mE 2 v0 [])) (cS [83,68])])])]) .nil,.ifs (kA 0 [v0,cS [87,79,82,75,73,78,71,45,83,84,79,82,65,71,69,32,83,69,67,84,73,79,78]]) (sL [.asgA 24 v1 (kA 1 [v0])]) .nil,.ifs (kA 0 [v0,cS [76,73,78,75,65,71,69,32,83,69,67,84,73,79,78]]) (sL [.asgA 25 v1 (kA 1 [v0])]) .nil,.ifs (.and (.not (mE 1 v0 [])) (.not (mE 0 v0 [cS [80,82,79,67,69,68,85,82,69,32,68,73,86,73,83,73,79,78]]))) (sL [.bad]) .nil,.ret v1]
noncomputable def F7:cA:=⟨[],[("skip_heading",zV),("read_entries",nj),("read_file_entry",tR),("Data",vk)],[("is_word",Gs),("is_done",pX),("take",D0)]⟩
noncomputable def Ub:SM:=
  b4 F7 Jt
noncomputable def Fk:aW:=I2 (t6 am2 12) (bf 1 [] Ub)
noncomputable def oQ:aW:=t9 nQ Fk
noncomputable def l7(lab:List AV->List AV):aW:=fun args σ=>self args σ fun r as L=>KC as (oQ [.ref r] (σ.set r (.orc 1021 (lab L))))
noncomputable def Hx:TS:=sL [.asgA 38 v0 v1,.asgA 4 v0 v2,.asgA 37 v0 .dic,.asgA 36 v0 .dic]
noncomputable def E9:cA:=⟨[],[],[]⟩
noncomputable def ke:SM:=
  (aV (lM 38 (al 0) (al 1))
  (aV (lM 4 (al 0) (al 2))
  (aV (lM 37 (al 0) FA)
  (aV (lM 36 (al 0) FA)
  bh))))
noncomputable def iY:aW:=bf 3 [.int (0)] ke
noncomputable def xe:aW:=amZ (ud df iY)
noncomputable def vU:TS:=sL [.asgA 2 v0 v1,.asgA 1 v0 v2,.asgA 4 v0 v3,.asgA 28 v0 v4]
noncomputable def uM:cA:=⟨[],[],[]⟩
noncomputable def vq:SM:=
  b4 uM vU
noncomputable def H9:aW:=bf 5 [.tup [.int (0),.int (0)],.bool false] vq
noncomputable def N9:aW:=FE 8 (ud Uy H9)
noncomputable def uH:TS:=sL [.ret (.and (.cmp .Gt (kA 0 [v0]) (cI 0)) (.and (.cmp .Eq (.atr 2 (.idx v0 (.neg (cI 1)))) (cS [119,111,114,100])) (.cmp .In (.atr 1 (.idx v0 (.neg (cI 1)))) (tU [cS [80,73,67],cS [80,73,67,84,85,82,69]]))))]
noncomputable def sD:cA:=⟨[],[("len",eN)],[]⟩
noncomputable def Gz:SM:=
  b4 sD uH
noncomputable def tQ:aW:=bf 1 [] Gz
noncomputable def FT:TS:=sL [.ret (.ife (.cmp2 .LtE .LtE (cS [97]) v0 (cS [122])) (kA 0 [.bin .Sub (kA 1 [v0]) (cI 32)]) v0)]
noncomputable def DA:cA:=⟨[],[("chr",YH),("ord",YI)],[]⟩
noncomputable def Q7:SM:=
  b4 DA FT
noncomputable def mZ:aW:=bf 1 [] Q7
noncomputable def L8:TS:=sL [.ret (mE 0 (cS []) [.comp [1] v0 .nop (kA 0 [v1])])]
noncomputable def JG:cA:=⟨[],[("capital_of",mZ)],[("join",(ic vf))]⟩
noncomputable def V5:SM:=
  b4 JG L8
noncomputable def vn:aW:=bf 1 [] V5
noncomputable def Dl:TS:=sL [.asg 2 v1,.whl (.and (.cmp .Lt v2 (kA 0 [v0])) (.cmp .NotIn (.idx v0 v2) (cS [32,61]))) (sL [.asg 2 (.bin .Add v2 (cI 1))]),.ret (.ife (.and (.cmp .Gt v2 v1) (.cmp .In (.idx v0 (.bin .Sub v2 (cI 1))) (.glb 0))) (.bin .Sub v2 (cI 1)) v2)]
noncomputable def AM:cA:=⟨[("ENDS",aa1)],[("len",eN)],[]⟩
noncomputable def Om:SM:=
  b4 AM Dl
noncomputable def BB:aW:=bf 2 [] Om
noncomputable def uG:TS:=sL [.asg 2 (kA 1 [.atr 0 v0,v1]),.ifs (.cmp .Eq v2 v1) (sL [.bad]) .nil,.ret (tU [kA 0 [.slc (.atr 0 v0) v1 v2],v2])]
noncomputable def sC:cA:=⟨[],[("capitals",vn),("picture_end",BB)],[]⟩
noncomputable def Gy:SM:=
  b4 sC uG
noncomputable def tP:aW:=bf 2 [] Gy
noncomputable def Js:TS:=sL [.ret (.or (.cmp .GtE v1 (kA 0 [v0])) (.cmp .Eq (.idx v0 v1) (cS [32])))]
noncomputable def F6:cA:=⟨[],[("len",eN)],[]⟩
noncomputable def T8:SM:=
  b4 F6 Js
noncomputable def sQ:aW:=bf 2 [] T8
noncomputable def QA:TS:=sL [.asg 2 (.slc (.atr 0 v0) v1 (.bin .Add v1 (cI 2))),.ifs (.cmp .Eq v2 (cS [61,61])) (sL [.bad]) .nil,.ifs (.cmp .In v2 (mE 0 (.glb 1) [cS [32]])) (sL [.bad]) .nil,.asg 3 (.idx (.atr 0 v0) v1),.ifs (.or (.cmp .In v3 (.glb 0)) (.and (.cmp .Eq v3 (cS [46])) (kA 0 [.atr 0 v0,.bin .Add v1 (cI 1)]))) (sL [.ret (tU [cS [115,105,103,110],v3])]) .nil,.bad]
noncomputable def Mm:cA:=⟨[("SINGLE_SIGNS",zG),("DOUBLE_SIGNS",zE)],[("is_parted",sQ)],[("split",(ic kz))]⟩
noncomputable def YQ:SM:=
  b4 Mm QA
noncomputable def Ob:aW:=bf 2 [] YQ
noncomputable def uF:TS:=sL [.asg 3 (.idx (.atr 0 v0) v1),.asg 4 (mE 0 (.slc (.atr 0 v0) (.bin .Add v1 (cI 1)) (.bin .Sub v2 (cI 1))) [.bin .Add v3 v3,v3]),.ifs (.not (.cmp2 .LtE .LtE (cI 1) (kA 0 [v4]) (.glb 0))) (sL [.bad]) .nil,.ret v4]
noncomputable def sB:cA:=⟨[("MOST_LITERAL",zF)],[("len",eN)],[("replace",(ic tJ))]⟩
noncomputable def Gx:SM:=
  b4 sB uF
noncomputable def tO:aW:=bf 3 [] Gx
noncomputable def As:TS:=sL [.ret (.cmp .In (kA 0 [v0]) (.glb 0))]
noncomputable def yh:cA:=⟨[("WORD_SIGNS",wi)],[("capital_of",mZ)],[]⟩
noncomputable def MA:SM:=
  b4 yh As
noncomputable def zN:aW:=bf 1 [] MA
noncomputable def FW:TS:=sL [.asg 2 (.slc (.atr 0 v0) v1 (.bin .Add v1 (cI 2))),.ifs (.cmp .Eq v2 (cS [])) (sL [.bad]) .nil,.ifs (.or (.and (kA 0 [.idx v2 (cI 0)]) (.cmp .NotEq (.idx v2 (cI 0)) (cS [45]))) (.cmp .In (.idx v2 (cI 0)) (.glb 1))) (sL [.bad]) .nil,.ifs (.and (.cmp .Eq (.idx v2 (cI 0)) (cS [46])) (.and (.cmp .NotEq (.slc v2 (cI 1) .nop) (cS [])) (.cmp .In (.idx v2 (cI 1)) (.glb 0)))) (sL [.bad]) .nil]
noncomputable def DE:cA:=⟨[("FIGURES_tokens",kX),("QUOTES",J1)],[("is_word_sign",zN)],[]⟩
noncomputable def Ra:SM:=
  b4 DE FW
noncomputable def Fp:aW:=bf 2 [] Ra
noncomputable def Dk:TS:=sL [.asg 2 (.idx (.atr 0 v0) v1),.asg 3 (.bin .Add v1 (cI 1)),.whl (.cmp .Lt v3 (kA 0 [.atr 0 v0])) (sL [.ifs (.cmp .NotEq (.idx (.atr 0 v0) v3) v2) (sL [.asg 3 (.bin .Add v3 (cI 1))]) (sL [.ifs (.cmp .Eq (.slc (.atr 0 v0) (.bin .Add v3 (cI 1)) (.bin .Add v3 (cI 2))) v2) (sL [.bad]) (sL [.ret (.bin .Add v3 (cI 1))])])]),.bad]
noncomputable def AL:cA:=⟨[],[("len",eN)],[]⟩
noncomputable def Ol:SM:=
  b4 AL Dk
noncomputable def BA:aW:=bf 2 [] Ol
noncomputable def Ap:TS:=sL [.asg 3 (kA 1 [.slc (.atr 0 v0) v1 v2]),.ifs (.cmp .Eq (.comp [4] v3 (.cmp .In v4 (.glb 1)) v4) (lS [])) (sL [.bad]) .nil,.ifs (.cmp .Eq (.idx v3 (.neg (cI 1))) (cS [45])) (sL [.bad]) .nil,.ifs (.cmp .Gt (kA 0 [v3]) (.glb 0)) (sL [.bad]) .nil,.ret v3]
noncomputable def ye:cA:=⟨[("MOST_WORD",H7),("LETTERS",Gp)],[("len",eN),("capitals",vn)],[]⟩
noncomputable def Mx:SM:=
  b4 ye Ap
noncomputable def zK:aW:=bf 3 [] Mx
noncomputable def vV:TS:=sL [.asg 3 (.slc (.atr 0 v0) v1 v2),.ifs (.cmp .Gt (kA 0 [.rep 46 v3]) (.glb 0)) (sL [.bad]) .nil,.ret v3]
noncomputable def uN:cA:=⟨[("MOST_FIGURES",rr)],[("len",eN)],[]⟩
noncomputable def Ig:SM:=
  b4 uN vV
noncomputable def vo:aW:=bf 3 [] Ig
noncomputable def QC:TS:=sL [.whl (.and (.cmp .Lt v1 (kA 1 [v0])) (.cmp .In (kA 0 [.idx v0 v1]) v2)) (sL [.asg 1 (.bin .Add v1 (cI 1))]),.ret v1]
noncomputable def Mo:cA:=⟨[],[("capital_of",mZ),("len",eN)],[]⟩
noncomputable def YS:SM:=
  b4 Mo QC
noncomputable def Gw:aW:=bf 3 [] YS
noncomputable def FY:TS:=sL [.asg 2 (kA 0 [v0,v1,.glb 0]),.ifs (.and (.cmp .Eq (.slc v0 v2 (.bin .Add v2 (cI 1))) (cS [46])) (.and (.cmp .NotEq (.slc v0 (.bin .Add v2 (cI 1)) (.bin .Add v2 (cI 2))) (cS [])) (.cmp .In (.idx v0 (.bin .Add v2 (cI 1))) (.glb 0)))) (sL [.asg 2 (kA 0 [v0,.bin .Add v2 (cI 1),.glb 0])]) .nil,.ret v2]
noncomputable def DF:cA:=⟨[("FIGURES_tokens",kX)],[("run_end",Gw)],[]⟩
noncomputable def Rb:SM:=
  b4 DF FY
noncomputable def Fq:aW:=bf 2 [] Rb
noncomputable def Mf:TS:=sL [.asg 2 (kA 9 [.idx (.atr 0 v0) v1]),.ifs (.or (.cmp .In v2 (.glb 2)) (.cmp .In v2 (.glb 1))) (sL [.asg 3 (kA 8 [.atr 0 v0,v1,.glb 3]),.asg 4 (kA 7 [.atr 0 v0,v1]),.ifs (.and (.cmp .In v2 (.glb 1)) (.cmp .GtE v4 v3)) (sL [.expr (kA 3 [v0,v4]),.ret (tU [cS [110,117,109,98,101,114],kA 6 [v0,v1,v4],v4])]) .nil,.expr (kA 3 [v0,v3]),.ret (tU [cS [119,111,114,100],kA 5 [v0,v1,v3],v3])]) .nil,.ifs (.and (.cmp .Eq v2 (cS [46])) (.and (.cmp .NotEq (.slc (.atr 0 v0) (.bin .Add v1 (cI 1)) (.bin .Add v1 (cI 2))) (cS [])) (.cmp .In (.idx (.atr 0 v0) (.bin .Add v1 (cI 1))) (.glb 1)))) (sL [.bad,.bad,.bad]) .nil,.ifs (.cmp .In v2 (.glb 0)) (sL [.asg 3 (kA 4 [v0,v1]),.expr (kA 3 [v0,v3]),.ret (tU [cS [108,105,116,101,114,97,108],kA 2 [v0,v1,v3],v3])]) .nil,.asgT [5,6] (kA 1 [v0,v1]),.ret (tU [v5,v6,.bin .Add v1 (kA 0 [v6])])]
noncomputable def JO:cA:=⟨[("QUOTES",J1),("FIGURES_tokens",kX),("LETTERS",Gp),("WORD_SIGNS",wi)],[("len",eN),("mark_at",Ob),("checked_literal",tO),("need_apart",Fp),("literal_end",BA),("checked_word",zK),("checked_number",vo),("number_end",Fq),("run_end",Gw),("capital_of",mZ)],[]⟩
noncomputable def Wc:SM:=
  b4 JO Mf
noncomputable def Lr:aW:=bf 2 [] Wc
noncomputable def FU:TS:=sL [.ret (.and (.cmp .Eq (kA 1 [.slc v0 v1 (.bin .Add v1 (cI 2))]) (cS [73,83])) (kA 0 [v0,.bin .Add v1 (cI 2)]))]
noncomputable def DB:cA:=⟨[],[("is_parted",sQ),("capitals",vn)],[]⟩
noncomputable def Q8:SM:=
  b4 DB FU
noncomputable def Fn:aW:=bf 2 [] Q8
noncomputable def Di:TS:=sL [.ret (.or (.cmp .Eq (.idx v0 v1) (cS [32])) (.and (.cmp .In (.idx v0 v1) (cS [44,59])) (kA 0 [v0,.bin .Add v1 (cI 1)])))]
noncomputable def AJ:cA:=⟨[],[("is_parted",sQ)],[]⟩
noncomputable def Oj:SM:=
  b4 AJ Di
noncomputable def Bx:aW:=bf 2 [] Oj
noncomputable def FS:TS:=sL [.asg 2 (cI 0),.asg 3 (.cst (.bool false)),.whl (.cmp .Lt v2 (kA 0 [.atr 0 v1])) (sL [.ifs (kA 6 [.atr 0 v1,v2]) (sL [.asg 2 (.bin .Add v2 (cI 1)),.cont]) .nil,.asg 4 (.idx (.atr 3 v1) v2),.ifs (.and (kA 2 [v0]) (.and (.not v3) (kA 5 [.atr 0 v1,v2]))) (sL [.bad,.bad,.bad]) .nil,.ifs (kA 2 [v0]) (sL [.asg 5 (cS [112,105,99,116,117,114,101]),.asgT [6,7] (kA 3 [v1,v2])]) (sL [.asgT [5,6,7] (kA 4 [v1,v2])]),.expr (mE 0 v0 [kA 1 [v5,v6,v4,.cmp2 .LtE .LtE (cI 8) (.idx v4 (cI 1)) (cI 11)]]),.asg 3 (.cst (.bool false)),.asg 2 v7])]
noncomputable def Dz:cA:=⟨[],[("len",eN),("Token",N9),("is_picture_next",tQ),("checked_picture",tP),("worth_at",Lr),("is_word_is",Fn),("is_blank_at",Bx)],[("append",(fH f8))]⟩
noncomputable def Q6:SM:=
  b4 Dz FS
noncomputable def Fl:aW:=bf 2 [] Q6
noncomputable def Jw:TS:=sL [.asg 1 (lS []),.for_ [2] v0 (sL [.expr (kA 0 [v1,v2])]),.ret v1]
noncomputable def F9:cA:=⟨[],[("add_tokens",Fl)],[]⟩
noncomputable def Ud:SM:=
  b4 F9 Jw
noncomputable def Ib:aW:=FE 12 (bf 1 [] Ud)
noncomputable def x5:TS:=sL [.asgA 0 v0 v1,.asgA 3 v0 v2]
noncomputable def wa:cA:=⟨[],[],[]⟩
noncomputable def xk:SM:=
  b4 wa x5
noncomputable def J6:aW:=bf 3 [] xk
noncomputable def aa4:aW:=FE 8 (ud cLine J6)
noncomputable def Ds:TS:=sL [.asg 2 (.ife v1 (.glb 0) (.glb 1)),.asg 3 (kA 3 [lS [kA 4 [v0,.comp [5] (kA 0 [kA 1 [v0]]) .nop (tU [cI 1,.bin .Add v2 v5])]]]),.ret (.comp [4] (kA 0 [kA 1 [v3]]) .nop (kA 2 [.atr 2 (.idx v3 v4),.atr 1 (.idx v3 v4),.atr 4 (.idx v3 v4),.and v1 (.cmp .Eq v4 (cI 0))]))]
noncomputable def AU:cA:=⟨[("AREA_A",RZ),("AREA_B",R4)],[("range",lx),("len",eN),("Token",N9),("tokens_of",Ib),("Line",aa4)],[]⟩
noncomputable def Ot:SM:=
  b4 AU Ds
noncomputable def rv:aW:=bf 2 [.bool false] Ot
noncomputable def cE:aW:=vF aaj rv
noncomputable def Tq:TS:=sL [.ret (mE 0 (cS [32]) [.comp [1] v0 (.cmp .NotEq v1 (cS [])) v1])]
noncomputable def QM:cA:=⟨[],[],[("join",(ic vf))]⟩
noncomputable def act:SM:=
  b4 QM Tq
noncomputable def D8:aW:=bf 1 [] act
noncomputable def Ts:TS:=sL [.ret (.bin .Add (.bin .Add (cS [34]) (mE 0 v0 [cS [34],cS [34,34]])) (cS [34]))]
noncomputable def QO:cA:=⟨[],[],[("replace",(ic tJ))]⟩
noncomputable def acv:SM:=
  b4 QO Ts
noncomputable def Sa:aW:=bf 1 [] acv
noncomputable def AD:TS:=sL [.ret (kA 0 [mE 0 (cS []) [.comp [1] v0 .nop (kA 1 [v1])]])]
noncomputable def ys:cA:=⟨[],[("quoted",Sa),("chr",YH)],[("join",(ic vf))]⟩
noncomputable def MK:SM:=
  b4 ys AD
noncomputable def zU:aW:=bf 1 [] MK
noncomputable def x8:TS:=sL [.asg 1 (kA 1 [kA 2 [.idx v0 (cI 0)]]),.ifs (.cmp .Gt (.idx v0 (cI 1)) (cI 0)) (sL [.asg 1 (.bin .Add (.bin .Mult (cS [48]) (.bin .Sub (.bin .Add (.idx v0 (cI 1)) (cI 1)) (kA 0 [v1]))) v1),.asg 1 (.bin .Add (.bin .Add (.slc v1 .nop (.bin .Sub (kA 0 [v1]) (.idx v0 (cI 1)))) (cS [46])) (.slc v1 (.bin .Sub (kA 0 [v1]) (.idx v0 (cI 1))) .nop))]) .nil,.ret (.ife (.cmp .Lt (.idx v0 (cI 0)) (cI 0)) (.bin .Add (cS [45]) v1) v1)]
noncomputable def we:cA:=⟨[],[("len",eN),("str",TY),("abs",YG)],[]⟩
noncomputable def Kc:SM:=
  b4 we x8
noncomputable def xh:aW:=bf 1 [] Kc
noncomputable def AC:TS:=sL [.asg 1 (kA 1 [v0]),.ret (.ife (.and (.cmp .Eq (.idx v0 (cI 1)) (.glb 0)) (.cmp .Lt (kA 0 [.idx v0 (cI 0)]) (.bin .Pow (cI 10) (.idx v0 (cI 1))))) (mE 0 v1 [cS [48,46],cS [46],cI 1]) v1)]
noncomputable def yr:cA:=⟨[("MOST_FIGURES",rr)],[("abs",YG),("write_decimal",xh)],[("replace",(ic tJ))]⟩
noncomputable def MJ:SM:=
  b4 yr AC
noncomputable def zT:aW:=bf 1 [] MJ
noncomputable def AB:TS:=sL [.ifs (.cmp .Eq (.idx v0 (cI 0)) (cS [114,101,102])) (sL [.bad]) .nil,.ifs (.cmp .Eq (.idx v0 (cI 0)) (cS [110,117,109,98,101,114])) (sL [.ret (kA 1 [.idx v0 (cI 1)])]) .nil,.ifs (.cmp .Eq (.idx v0 (cI 0)) (cS [102,105,103,117,114,101])) (sL [.bad]) .nil,.ret (.bin .Add (.ife (.cmp .Eq (.idx v0 (cI 0)) (cS [97,108,108])) (cS [65,76,76,32]) (cS [])) (kA 0 [.idx v0 (cI 1)]))]
noncomputable def yq:cA:=⟨[],[("shown_octets",zU),("shown_number",zT)],[]⟩
noncomputable def MI:SM:=
  b4 yq AB
noncomputable def zS:aW:=bf 2 [] MI
noncomputable def Au:TS:=sL [.ret (kA 0 [v0,.glb 0])]
noncomputable def yi:cA:=⟨[("show_expression",.opq)],[("show_operand",zS)],[]⟩
noncomputable def MB:SM:=
  b4 yi Au
noncomputable def rx:aW:=bf 1 [] MB
noncomputable def Dr:TS:=sL [.asg 1 (lS []),.for_ [2,3] (.atr 19 v0) (sL [.expr (mE 0 v1 [.bin .Add (kA 1 [v2]) (.ife (.cmp .Is v3 (.cst (.none))) (cS []) (.bin .Add (cS [32,84,72,82,85,32]) (kA 1 [v3])))])]),.ret (.bin .Add (.bin .Add (.bin .Add (.bin .Add (cS [56,56,32]) (.atr 18 v0)) (cS [32,86,65,76,85,69,32])) (kA 0 [v1])) (cS [32,46]))]
noncomputable def AR:cA:=⟨[],[("joined",D8),("operand_text",rx)],[("append",(fH f8))]⟩
noncomputable def Os:SM:=
  b4 AR Dr
noncomputable def zI:aW:=bf 1 [] Os
noncomputable def lB:aW:=vF nQ zI
noncomputable def Tt:TS:=sL [.ret (.ife (.cmp .Eq v1 (cS [])) (cS []) (.bin .Add (.bin .Add v0 (cS [32])) v1))]
noncomputable def QP:cA:=⟨[],[],[]⟩
noncomputable def acw:SM:=
  b4 QP Tt
noncomputable def J8:aW:=bf 2 [] acw
noncomputable def Mc:TS:=sL [.asg 2 (mE 0 (cS [32,79,70,32]) [.bin .Add (lS [.idx v0 (cI 1)]) (kA 0 [.idx v0 (cI 2)])]),.ifs (.cmp .NotEq (.idx v0 (cI 3)) (tU [])) (sL [.bad]) .nil,.ifs (.cmp .IsNot (.idx v0 (cI 4)) (.cst (.none))) (sL [.bad,.bad]) .nil,.ret v2]
noncomputable def JL:cA:=⟨[],[("list",aaZ)],[("join",(ic vf))]⟩
noncomputable def V9:SM:=
  b4 JL Mc
noncomputable def Lp:aW:=bf 2 [] V9
noncomputable def Mb:TS:=sL [.ret (kA 0 [v0,.glb 0])]
noncomputable def JK:cA:=⟨[("show_expression",.opq)],[("show_ref",Lp)],[]⟩
noncomputable def V8:SM:=
  b4 JK Mb
noncomputable def Lo:aW:=bf 1 [] V8
noncomputable def Dq:TS:=sL [.ifs (.cmp .Is (.atr 7 v0) (.cst (.none))) (sL [.asg 1 (.bin .Add (.bin .Add (cS [79,67,67,85,82,83,32]) (kA 2 [.atr 8 v0])) (cS [32,84,73,77,69,83]))]) (sL [.asg 1 (.bin .Add (.bin .Add (.bin .Add (.bin .Add (.bin .Add (cS [79,67,67,85,82,83,32]) (kA 2 [.atr 8 v0])) (cS [32,84,79,32])) (kA 2 [.atr 9 v0])) (cS [32,84,73,77,69,83,32,68,69,80,69,78,68,73,78,71,32,79,78,32])) (kA 3 [.atr 7 v0]))]),.asg 2 (.comp [3,4] (.atr 6 v0) .nop (.bin .Add (.ife v3 (cS [65,83,67,69,78,68,73,78,71,32,75,69,89,32,73,83,32]) (cS [68,69,83,67,69,78,68,73,78,71,32,75,69,89,32,73,83,32])) v4)),.ret (kA 0 [.bin .Add (.bin .Add (lS [v1]) v2) (lS [kA 1 [cS [73,78,68,69,88,69,68,32,66,89],kA 0 [.atr 5 v0]]])])]
noncomputable def AQ:cA:=⟨[],[("joined",D8),("worded",J8),("str",TY),("ref_text",Lo)],[]⟩
noncomputable def Oq:SM:=
  b4 AQ Dq
noncomputable def BF:aW:=bf 1 [] Oq
noncomputable def Jv:TS:=sL [.ifs (.cmp .Eq (.atr 10 v0) (cS [])) (sL [.ret (cS [])]) .nil,.bad]
noncomputable def F8:cA:=⟨[],[],[]⟩
noncomputable def Uc:SM:=
  b4 F8 Jv
noncomputable def Ia:aW:=bf 1 [] Uc
noncomputable def Aq:TS:=sL [.ret (lS [kA 3 [cS [82,69,68,69,70,73,78,69,83],.atr 17 v0],.ife (.cmp .Is (.atr 16 v0) (.cst (.none))) (cS []) (.bin .Add (cS [80,73,67,32]) (.atr 16 v0)),.ife (.cmp .Eq (.atr 15 v0) (cS [])) (cS []) (.bin .Add (cS [85,83,65,71,69,32,73,83,32]) (.idx (.glb 0) (.atr 15 v0))),kA 2 [v0],.ife (.cmp .Is (.atr 14 v0) (.cst (.none))) (cS []) (kA 1 [.atr 14 v0]),.ife (.atr 13 v0) (cS [74,85,83,84,73,70,73,69,68,32,82,73,71,72,84]) (cS []),.ife (.atr 12 v0) (cS [66,76,65,78,75,32,87,72,69,78,32,90,69,82,79]) (cS []),.ife (.cmp .Is (.atr 11 v0) (.cst (.none))) (cS []) (.bin .Add (cS [86,65,76,85,69,32,73,83,32]) (kA 0 [.atr 11 v0]))])]
noncomputable def yf:cA:=⟨[("USAGE_NAMES",Br)],[("operand_text",rx),("show_occurs",BF),("show_sign",Ia),("worded",J8)],[]⟩
noncomputable def My:SM:=
  b4 yf Aq
noncomputable def zL:aW:=bf 1 [] My
noncomputable def FV:TS:=sL [.ret (.slc (.bin .Add (cS [48]) (kA 0 [v0])) (.neg (cI 2)) .nop)]
noncomputable def DC:cA:=⟨[],[("str",TY)],[]⟩
noncomputable def Q9:SM:=
  b4 DC FV
noncomputable def Fo:aW:=bf 1 [] Q9
noncomputable def F0:TS:=sL [.asg 1 (.bin .Add (.bin .Add (kA 2 [.atr 20 v0]) (cS [32])) (.atr 18 v0)),.ifs (.cmp .Eq (.atr 20 v0) (.glb 0)) (sL [.asgT [2,3] (.atr 21 v0),.ret (.bin .Add (.bin .Add (.bin .Add (.bin .Add v1 (cS [32,82,69,78,65,77,69,83,32])) v2) (.ife (.cmp .Is v3 (.cst (.none))) (cS []) (.bin .Add (cS [32,84,72,82,85,32]) v3))) (cS [32,46]))]) .nil,.ret (kA 0 [.bin .Add (.bin .Add (lS [v1]) (kA 1 [v0])) (lS [cS [46]])])]
noncomputable def DH:cA:=⟨[("RENAMES_LEVEL",wZ)],[("joined",D8),("clause_texts",zL),("level_text",Fo)],[]⟩
noncomputable def Rd:SM:=
  b4 DH F0
noncomputable def Bt:aW:=bf 1 [] Rd
noncomputable def m7:aW:=vF nQ Bt
noncomputable def M8:TS:=sL [.asg 1 (kA 1 [kA 3 [v0],.cmp .In (.atr 20 v0) (.glb 0)]),.for_ [2] (.atr 23 v0) (sL [.expr (mE 0 v1 [kA 1 [kA 2 [v2]]])]),.for_ [3] (.atr 22 v0) (sL [.expr (mE 0 v1 [kA 0 [v3]])]),.ret v1]
noncomputable def K8(self:aW):cA:=⟨[("TOP_LEVELS",iO)],[("entry_tokens",self),("text_tokens",cE),("show_worths",lB),("show_entry",m7)],[("extend",(fH fR))]⟩
noncomputable def nt(self:aW):SM:=
  (aV (cK [1] (bn cE (aw (bn m7 (aw (al 0) aJ)) (aw (rI (fh (bU .In) (un (aA 20) (al 0)) (a6 iO))) aJ))))
  (aV (gq [2] (un (aA 23) (al 0))
  (aV (kQ (cC (fH fR) (al 1) (aw (bn cE (aw (bn lB (aw (al 2) aJ)) aJ)) aJ)))
  bh))
  (aV (gq [3] (un (aA 22) (al 0))
  (aV (kQ (cC (fH fR) (al 1) (aw (bn self (aw (al 3) aJ)) aJ)))
  bh))
  (aV (eC (al 1))
  bh))))
noncomputable def w8(self:aW):aW:=FE 12 (bf 1 [] (nt self))
noncomputable def cj:Nat->aW
 |0=>TW
 |n+1=>vF nQ (w8 (cj n))
noncomputable def M9:TS:=sL [.asg 1 (lS []),.for_ [2] v0 (sL [.expr (mE 0 v1 [kA 0 [v2]])]),.ret v1]
noncomputable def K9:cA:=⟨[],[("entry_tokens",(cj 6))],[("extend",(fH fR))]⟩
noncomputable def rB:SM:=
  (aV (cK [1] (bn cU aJ))
  (aV (gq [2] (al 0)
  (aV (kQ (cC (fH fR) (al 1) (aw (bn (cj 6) (aw (al 2) aJ)) aJ)))
  bh))
  (aV (eC (al 1))
  bh)))
noncomputable def xa:aW:=FE 12 (bf 1 [] rB)
noncomputable def iy:aW:=vF nQ xa
noncomputable def Ju:TS:=sL [.ifs (.cmp .Eq v1 (lS [])) (sL [.ret (lS [])]) .nil,.ret (.bin .Add (kA 0 [.bin .Add v0 (cS [32,83,69,67,84,73,79,78,46]),.cst (.bool true)]) (kA 1 [v1]))]
noncomputable def HD:cA:=⟨[],[("text_tokens",cE),("roots_tokens",iy)],[]⟩
noncomputable def eK:SM:=
  (aV (rV (fh (bU .Eq) (al 1) (bn cU aJ))
  (aV (eC (bn cU aJ))
  bh)
  bh)
  (aV (eC (bi (bT .Add) (bn cE (aw (bi (bT .Add) (al 0) (a6 (.str [32,83,69,67,84,73,79,78,46]))) (aw (a6 (.bool true)) aJ))) (bn iy (aw (al 1) aJ))))
  bh))
noncomputable def nM:aW:=FE 12 (bf 2 [] eK)
noncomputable def eJ:aW:=vF nQ nM
noncomputable def Qy:TS:=sL [.asg 1 (lS []),.for_ [2] (.atr 26 v0) (sL [.asg 3 (.ife (.cmp .In v2 (.atr 27 v0)) (cS [83,68,32]) (cS [70,68,32])),.expr (mE 0 v1 [.bin .Add (kA 0 [.bin .Add (.bin .Add v3 v2) (cS [46]),.cst (.bool true)]) (kA 2 [.idx (.atr 26 v0) v2])])]),.ifs (.cmp .NotEq v1 (lS [])) (sL [.asg 1 (.bin .Add (kA 0 [cS [70,73,76,69,32,83,69,67,84,73,79,78,46],.cst (.bool true)]) v1)]) .nil,.asg 1 (.bin .Add (.bin .Add v1 (kA 1 [cS [87,79,82,75,73,78,71,45,83,84,79,82,65,71,69],.atr 24 v0])) (kA 1 [cS [76,73,78,75,65,71,69],.atr 25 v0])),.ret (.ife (.cmp .NotEq v1 (lS [])) (.bin .Add (kA 0 [cS [68,65,84,65,32,68,73,86,73,83,73,79,78,46],.cst (.bool true)]) v1) (lS []))]
noncomputable def Ng:cA:=⟨[],[("text_tokens",cE),("section_tokens",eJ),("roots_tokens",iy)],[("extend",(fH fR))]⟩
noncomputable def oW:SM:=
  (aV (cK [1] (bn cU aJ))
  (aV (gq [2] (un (aA 26) (al 0))
  (aV (cK [3] (sY (fh (bU .In) (al 2) (un (aA 27) (al 0))) (a6 (.str [83,68,32])) (a6 (.str [70,68,32]))))
  (aV (kQ (cC (fH fR) (al 1) (aw (bi (bT .Add) (bn cE (aw (bi (bT .Add) (bi (bT .Add) (al 3) (al 2)) (a6 (.str [46]))) (aw (a6 (.bool true)) aJ))) (bn iy (aw (bi fM (un (aA 26) (al 0)) (al 2)) aJ))) aJ)))
  bh)))
  (aV (rV (fh (bU .NotEq) (al 1) (bn cU aJ))
  (aV (cK [1] (bi (bT .Add) (bn cE (aw (a6 (.str [70,73,76,69,32,83,69,67,84,73,79,78,46])) (aw (a6 (.bool true)) aJ))) (al 1)))
  bh)
  bh)
  (aV (cK [1] (bi (bT .Add) (bi (bT .Add) (al 1) (bn eJ (aw (a6 (.str [87,79,82,75,73,78,71,45,83,84,79,82,65,71,69])) (aw (un (aA 24) (al 0)) aJ)))) (bn eJ (aw (a6 (.str [76,73,78,75,65,71,69])) (aw (un (aA 25) (al 0)) aJ)))))
  (aV (eC (sY (fh (bU .NotEq) (al 1) (bn cU aJ)) (bi (bT .Add) (bn cE (aw (a6 (.str [68,65,84,65,32,68,73,86,73,83,73,79,78,46])) (aw (a6 (.bool true)) aJ))) (al 1)) (bn cU aJ)))
  bh)))))
noncomputable def ru:aW:=FE 12 (bf 1 [] oW)
noncomputable def hY:aW:=Zu 14 (vF nQ ru)
noncomputable def KX:TS:=sL [.asg 1 (kA 7 [v0]),.asg 2 (kA 6 [v1]),.ifs (.or (.cmp .NotEq (mE 0 (kA 5 [v2]) []) (mE 0 v0 [])) (.not (mE 1 v2 []))) (sL [.bad]) .nil,.asg 3 (.bin .Add (.bin .Add (.comp2 15 (.atr 26 v0) 16 (.idx (.atr 26 v0) v15) v16) (.atr 24 v0)) (.atr 25 v0)),.frz 3,.ifs (.cmp .Eq v3 (lS [])) (sL [.ret (.cmp .Eq v1 (lS []))]) .nil,.asg 4 (.bin .Add (.bin .Add (.bin .Add (lS [cS [68,65,84,65]]) (.ife (.cmp .NotEq (.atr 26 v0) .dic) (lS [cS [70,73,76,69]]) (lS []))) (.ife (.cmp .NotEq (.atr 24 v0) (lS [])) (lS [cS [87,79,82,75,73,78,71,45,83,84,79,82,65,71,69]]) (lS []))) (.ife (.cmp .NotEq (.atr 25 v0) (lS [])) (lS [cS [76,73,78,75,65,71,69]]) (lS []))),.asg 5 (.comp [14] v1 (.atr 28 v14) (.atr 1 v14)),.ifs (.cmp .NotEq (kA 4 [v5]) (kA 4 [.bin .Add (.bin .Add v4 (.comp [12] (.atr 26 v0) .nop (.ife (.cmp .In v12 (.atr 27 v0)) (cS [83,68]) (cS [70,68])))) (.comp [13] v3 .nop (.idx (.dicI 1 77 [48,49] [55,55]) (.atr 20 v13)))])) (sL [.bad]) .nil,.asg 6 (.comp [11] (kA 2 [kA 3 [v1]]) (.or (.cmp .Eq v11 (cI 0)) (.cmp .Eq (mE 0 (.idx v1 (.bin .Sub v11 (cI 1))) []) (tU [cS [115,105,103,110],cS [46]]))) (.idx v1 v11)),.asg 7 (.comp [10] v6 (.cmp .Eq (.atr 2 v10) (cS [110,117,109,98,101,114])) (kA 1 [.atr 1 v10])),.ret (.cmp .Eq v7 (.comp2 8 v3 9 (kA 0 [v8]) v9))]
noncomputable def JF(lab:List AV->List AV):cA:=⟨[],[("_law_walked",(bt 6)),("int",tI),("range",lx),("len",eN),("sorted",pW),("read_data",(l7 lab)),("Reader",xe),("data_tokens",hY)],[("told",qs),("is_done",pX)]⟩
noncomputable def gk(lab:List AV->List AV):SM:=
  (aV (cK [1] (bn hY (aw (al 0) aJ)))
  (aV (cK [2] (bn xe (aw (al 1) aJ)))
  (aV (rV (Rp (fh (bU .NotEq) (cC qs (bn (l7 lab) (aw (al 2) aJ)) aJ) (cC qs (al 0) aJ)) (oZ (ja (cC pX (al 2) aJ))))
  (aV (fun _ _=>none)
  bh)
  bh)
  (aV (cK [3] (bi (bT .Add) (bi (bT .Add) (qA 15 (un (aA 26) (al 0)) 16 (bi fM (un (aA 26) (al 0)) (al 15)) (al 16)) (un (aA 24) (al 0))) (un (aA 25) (al 0))))
  (aV (Qg 3)
  (aV (rV (fh (bU .Eq) (al 3) (bn cU aJ))
  (aV (eC (rI (fh (bU .Eq) (al 1) (bn cU aJ))))
  bh)
  bh)
  (aV (cK [4] (bi (bT .Add) (bi (bT .Add) (bi (bT .Add) (bn cU (aw (a6 (.str [68,65,84,65])) aJ)) (sY (fh (bU .NotEq) (un (aA 26) (al 0)) FA) (bn cU (aw (a6 (.str [70,73,76,69])) aJ)) (bn cU aJ))) (sY (fh (bU .NotEq) (un (aA 24) (al 0)) (bn cU aJ)) (bn cU (aw (a6 (.str [87,79,82,75,73,78,71,45,83,84,79,82,65,71,69])) aJ)) (bn cU aJ))) (sY (fh (bU .NotEq) (un (aA 25) (al 0)) (bn cU aJ)) (bn cU (aw (a6 (.str [76,73,78,75,65,71,69])) aJ)) (bn cU aJ))))
  (aV (cK [5] (eI [14] (al 1) (ja (un (aA 28) (al 14))) (un (aA 1) (al 14))))
  (aV (rV (fh (bU .NotEq) (bn pW (aw (al 5) aJ)) (bn pW (aw (bi (bT .Add) (bi (bT .Add) (al 4) (eI [12] (un (aA 26) (al 0)) (fun _ σ=>some (true,σ)) (sY (fh (bU .In) (al 12) (un (aA 27) (al 0))) (a6 (.str [83,68])) (a6 (.str [70,68]))))) (eI [13] (al 3) (fun _ σ=>some (true,σ)) (bi fM (bn (Hg [1,77]) (aw (a6 (.str [48,49])) (aw (a6 (.str [55,55])) aJ))) (un (aA 20) (al 13))))) aJ)))
  (aV (fun _ _=>none)
  bh)
  bh)
  (aV (cK [6] (eI [11] (bn lx (aw (bn eN (aw (al 1) aJ)) aJ)) (Rp (fh (bU .Eq) (al 11) (a6 (.int (0)))) (fh (bU .Eq) (cC qs (bi fM (al 1) (bi (bT .Sub) (al 11) (a6 (.int (1))))) aJ) (bn fU (aw (a6 (.str [115,105,103,110])) (aw (a6 (.str [46])) aJ))))) (bi fM (al 1) (al 11))))
  (aV (cK [7] (eI [10] (al 6) (fh (bU .Eq) (un (aA 2) (al 10)) (a6 (.str [110,117,109,98,101,114]))) (bn tI (aw (un (aA 1) (al 10)) aJ))))
  (aV (eC (rI (fh (bU .Eq) (al 7) (qA 8 (al 3) 9 (bn (bt 6) (aw (al 8) aJ)) (al 9)))))
  bh))))))))))))
noncomputable def eD(lab:List AV->List AV):aW:=Zu 14 (bf 1 [] (gk lab))
noncomputable def Vv:TS:=sL [.asg 2 (.bin .Mod (.idx v0 (cI 0)) v1),.asgI v0 (cI 0) (.bin .FloorDiv (.idx v0 (cI 0)) v1),.ret v2]
noncomputable def RN:cA:=⟨[],[],[]⟩
noncomputable def yR:SM:=
  (aV (cK [2] (bi (bT .Mod) (bi fM (al 0) (a6 (.int (0)))) (al 1)))
  (aV (Qf (al 0) (a6 (.int (0))) (bi (bT .FloorDiv) (bi fM (al 0) (a6 (.int (0)))) (al 1)))
  (aV (eC (al 2))
  bh)))
noncomputable def yO:aW:=bf 2 [] yR
noncomputable def Jp:TS:=sL [.asg 3 (kA 3 [v1,v2]),.asg 4 (kA 0 [v0,cI 5]),.ifs (.cmp .Eq v4 (cI 1)) (sL [.asgA 15 v3 (cS [112,97,99,107,101,100])]) (sL [.ifs (.cmp .Eq v4 (cI 2)) (sL [.asgA 14 v3 (kA 2 [cI 3,cI 3,.cst (.none),lS [tU [.cst (.bool false),cS [75]]],lS [cS [73,88]]])]) (sL [.ifs (.cmp .Eq v4 (cI 3)) (sL [.asgA 14 v3 (kA 2 [cI 0,cI 4,tU [cS [114,101,102],cS [78],tU [cS [71]],tU [],.cst (.none)]])]) .nil])]),.ifs (.cmp .Eq (kA 0 [v0,cI 4]) (cI 0)) (sL [.expr (mE 0 (.atr 23 v3) [kA 1 [.bin .Add (cS [73,83,45]) v2,lS [tU [tU [cS [110,117,109,98,101,114],tU [.neg (cI 5),cI 0]],tU [cS [110,117,109,98,101,114],tU [cI 125,cI 2]]],tU [tU [cS [116,101,120,116],.cst (.bytes [113])],.cst (.none)]]]])]) .nil,.ret v3]
noncomputable def F3:cA:=⟨[],[("_law_take",Bk),("Named",xc),("Occurs",J7),("Item",oN)],[("append",(fH f8))]⟩
noncomputable def T1:SM:=
  b4 F3 Jp
noncomputable def qu:aW:=I2 (Pn am1 12) (bf 3 [] T1)
noncomputable def yM:aW:=t9 wy qu
noncomputable def Jq:TS:=sL [.asg 3 (kA 1 [v0,v1,v2]),.asgA 16 v3 (.idx (lS [cS [88,40,52,41],cS [83,57,40,51,41,86,57,57],cS [90,90,57,46,57,57]]) (kA 0 [v0,cI 3])),.ret v3]
noncomputable def F4:cA:=⟨[],[("_law_take",Bk),("_law_item",qu)],[]⟩
noncomputable def T3:SM:=
  b4 F4 Jq
noncomputable def wn:aW:=I2 (Pn am1 12) (bf 3 [] T3)
noncomputable def yN:aW:=t9 wy wn
noncomputable def Jr:TS:=sL [.ifs (.cmp .Eq (kA 0 [v0,cI 4]) (cI 0)) (sL [.ret (kA 3 [v0,cI 77,v1])]) .nil,.asg 2 (kA 4 [v0,cI 1,v1]),.for_ [3] (kA 2 [kA 0 [v0,cI 3]]) (sL [.ifs (.cmp .Gt (kA 0 [v0,cI 3]) (cI 0)) (sL [.expr (mE 0 v2 [kA 3 [v0,cI 5,.idx (lS [cS [70,73,76,76,69,82],.bin .Add v1 (cS [45,66])]) (kA 0 [v0,cI 2])]]),.cont]) .nil,.asg 4 (kA 4 [v0,cI 5,.bin .Add v1 (cS [45,71])]),.for_ [5] (kA 2 [.bin .Add (cI 1) (kA 0 [v0,cI 2])]) (sL [.expr (mE 0 v4 [kA 3 [v0,cI 10,cS [76,79,87]]])]),.expr (mE 0 v2 [v4])]),.ifs (.cmp .Eq (kA 0 [v0,cI 4]) (cI 0)) (sL [.asg 6 (kA 1 [cI 66,.bin .Add v1 (cS [45,82])]),.asgA 21 v6 (tU [cS [76,79,87],.idx (lS [.cst (.none),cS [72,73,71,72,45,79,78,69]]) (kA 0 [v0,cI 2])]),.expr (mE 0 v2 [v6])]) .nil,.ret v2]
noncomputable def F5:cA:=⟨[],[("_law_take",Bk),("Item",oN),("range",lx),("_law_leaf",Bm),("_law_item",Bl)],[("add",yH)]⟩
noncomputable def T6:SM:=
  b4 F5 Jr
noncomputable def Fj:aW:=I2 (Pn ai5 12) (bf 2 [] T6)
noncomputable def sP:aW:=t9 wy Fj
noncomputable def Jo:TS:=sL [.asg 1 (kA 2 []),.for_ [2] (.idx (lS [lS [cS [70,49]],lS [],lS [cS [79,76,68]]]) (kA 1 [v0,cI 3])) (sL [.asgI (.atr 26 v1) v2 (lS [kA 0 [v0,.bin .Add v2 (cS [45,82,69,67])]]),.asgA 20 (.idx (.idx (.atr 26 v1) v2) (cI 0)) (cI 1),.ifs (.cmp .Eq (kA 1 [v0,cI 2]) (cI 0)) (sL [.expr (mE 0 (.atr 27 v1) [v2])]) .nil]),.asgA 24 v1 (.comp [3] (.idx (lS [lS [cS [87]],lS [cS [86,45,49]],lS []]) (kA 1 [v0,cI 3])) .nop (kA 0 [v0,v3])),.asgA 25 v1 (.slc (lS [kA 0 [v0,cS [65,82,71]]]) .nop (kA 1 [v0,cI 2])),.ret v1]
noncomputable def F2:cA:=⟨[],[("_law_root",Bn),("_law_take",Bk),("Data",vk)],[("append",(fH f8))]⟩
noncomputable def T0:SM:=
  b4 F2 Jo
noncomputable def qt:aW:=I2 (t6 am2 12) (bf 1 [] T0)
noncomputable def ma:aW:=afg zg (t9 nQ qt)
noncomputable def Yn:TS:=sL [.asg 1 (cI 23),.for_ [2] (.slc v0 .nop (cI 30)) (sL [.asg 1 (.bin .Add (.bin .Mult v1 (cI 1000003)) (.bin .Mod v2 (.bin .Pow (cI 10) (cI 80))))]),.ret (lS [.ife (.cmp .Gt v1 (.bin .Pow (cI 10) (cI 60))) v1 (.bin .Add (.bin .Pow v1 (cI 6)) (.bin .FloorDiv (.bin .Pow (cI 10) (cI 68)) (cI 13)))])]
noncomputable def VF:cA:=⟨[],[],[]⟩
noncomputable def BH:SM:=
  (aV (cK [1] (a6 (.int (23))))
  (aV (gq [2] (Ss (al 0) (a6 .none) (a6 (.int (30))))
  (aV (cK [1] (bi (bT .Add) (bi (bT .Mult) (al 1) (a6 (.int (1000003)))) (bi (bT .Mod) (al 2) (bi (bT .Pow) (a6 (.int (10))) (a6 (.int (80)))))))
  bh))
  (aV (eC (bn cU (aw (sY (fh (bU .Gt) (al 1) (bi (bT .Pow) (a6 (.int (10))) (a6 (.int (60))))) (al 1) (bi (bT .Add) (bi (bT .Pow) (al 1) (a6 (.int (6)))) (bi (bT .FloorDiv) (bi (bT .Pow) (a6 (.int (10))) (a6 (.int (68)))) (a6 (.int (13)))))) aJ)))
  bh)))
noncomputable def qS:aW:=bf 1 [] BH
noncomputable def aoZ:TS:=sL [.asgT [1,2,3] (tU [kA 3 [],kA 5 [cI 5,cS [71]],kA 5 [cI 10,cS [76]]]),.asgA 16 v3 (cS [88]),.expr (mE 2 (.atr 23 v2) [kA 6 [cS [79,78],lS [tU [tU [cS [116,101,120,116],.cst (.bytes [121])],.cst (.none)]]]]),.expr (mE 1 v2 [v3]),.asg 4 (kA 5 [cI 1,cS [82]]),.expr (mE 1 v4 [v2]),.asgA 24 v1 (lS [v4]),.asg 5 (.comp [6] (kA 4 [v1]) .nop (.atr 1 v6)),.ifs (.or (.cmp .NotEq v5 (mE 0 (cS [68,65,84,65,32,68,73,86,73,83,73,79,78,32,46,32,87,79,82,75,73,78,71,45,83,84,79,82,65,71,69,32,83,69,67,84,73,79,78,32,46,32,48,49,32,82,32,46,32,48,53,32,71,32,46,32,56,56,32,79,78,32,86,65,76,85,69,32,121,32,46,32,49,48,32,76,32,80,73,67,32,88,32,46]) [cS [32]])) (.not (kA 0 [kA 3 []]))) (sL [.bad]) .nil,.ret (kA 0 [kA 1 [kA 2 [v0]]])]
noncomputable def amw(lab:List AV->List AV):cA:=⟨[],[("_law_is_right",(eD lab)),("_law_data",ma),("_law_bag",qS),("Data",vk),("data_tokens",hY),("Item",oN),("Named",xc)],[("split",(ic kz)),("add",yH),("append",(fH f8))]⟩
noncomputable def Ua(lab:List AV->List AV):SM:=
  (aV (cK [1,2,3] (bn fU (aw (bn vk aJ) (aw (bn oN (aw (a6 (.int (5))) (aw (a6 (.str [71])) aJ))) (aw (bn oN (aw (a6 (.int (10))) (aw (a6 (.str [76])) aJ))) aJ)))))
  (aV (lM 16 (al 3) (a6 (.str [88])))
  (aV (kQ (cC (fH f8) (un (aA 23) (al 2)) (aw (bn xc (aw (a6 (.str [79,78])) (aw (bn cU (aw (bn fU (aw (bn fU (aw (a6 (.str [116,101,120,116])) (aw (a6 (.bytes [121])) aJ))) (aw (a6 (.none)) aJ))) aJ)) aJ))) aJ)))
  (aV (kQ (cC yH (al 2) (aw (al 3) aJ)))
  (aV (cK [4] (bn oN (aw (a6 (.int (1))) (aw (a6 (.str [82])) aJ))))
  (aV (kQ (cC yH (al 4) (aw (al 2) aJ)))
  (aV (lM 24 (al 1) (bn cU (aw (al 4) aJ)))
  (aV (cK [5] (eI [6] (bn hY (aw (al 1) aJ)) (fun _ σ=>some (true,σ)) (un (aA 1) (al 6))))
  (aV (rV (Rp (fh (bU .NotEq) (al 5) (cC (ic kz) (a6 (.str [68,65,84,65,32,68,73,86,73,83,73,79,78,32,46,32,87,79,82,75,73,78,71,45,83,84,79,82,65,71,69,32,83,69,67,84,73,79,78,32,46,32,48,49,32,82,32,46,32,48,53,32,71,32,46,32,56,56,32,79,78,32,86,65,76,85,69,32,121,32,46,32,49,48,32,76,32,80,73,67,32,88,32,46])) (aw (a6 (.str [32])) aJ))) (oZ (ja (bn (eD lab) (aw (bn vk aJ) aJ)))))
  (aV (fun _ _=>none)
  bh)
  bh)
  (aV (eC (bn (eD lab) (aw (bn ma (aw (bn qS (aw (al 0) aJ)) aJ)) aJ)))
  bh))))))))))
noncomputable def YO(lab:List AV->List AV):aW:=bf 1 [] (Ua lab)
noncomputable def FN:List Str:=[("text":Str),("worth":Str),("kind":Str),("places":Str),("at":Str),("indexes":Str),("keys":Str),("depending":Str),("low":Str),("high":Str),("sign":Str),("value":Str),("is_blank_zero":Str),("is_justified":Str),("occurs":Str),("usage":Str),("picture_text":Str),("redefines":Str),("name":Str),("rows":Str),("level":Str),("renames":Str),("kids":Str),("conditions":Str),("working":Str),("linkage":Str),("files":Str),("sorts":Str),("is_in_a":Str),("what":Str),("shape":Str),("size":Str),("offset":Str),("base":Str),("parent":Str),("is_separate":Str),("shared":Str),("named":Str),("tokens":Str)]
structure FR where
 x:Option Str
 f:aC
 n:Nat
 dfl:List AV
 nm:List (Nat×Str)
 N:V3
 t:TS
noncomputable def cV(i:Nat)(l:List Str):List (Nat×Str):=bq (motive:=fun _=>Nat->List (Nat×Str)) (fun _=>[]) (fun x _ ih i=>(i,x)::ih (i+1)) l i
noncomputable def pg:FR:=⟨some "_law_walked",1072,1,[],cV 0 ["item","found","kid"],⟨[],["_law_walked","len"],[]⟩,Qx⟩
noncomputable def FO:FR:=⟨none,201,1,[],cV 0 ["self"],⟨[],[],[]⟩,RH⟩
noncomputable def CN:FR:=⟨none,602,1,[],cV 0 ["self"],⟨[],[],[]⟩,Qt⟩
noncomputable def FM:FR:=⟨none,630,1,[],cV 0 ["self"],⟨[],[],[]⟩,RG⟩
noncomputable def Af:FR:=⟨none,672,1,[],cV 0 ["self","often","first"],⟨[],[],["told"]⟩,M5⟩
noncomputable def I7:FR:=⟨none,677,1,[],cV 0 ["self","named"],⟨[],["tuple"],["told","clauses"]⟩,Vu⟩
noncomputable def I6:FR:=⟨none,703,1,[],cV 0 ["self","files"],⟨[],["tuple"],["told"]⟩,Vt⟩
noncomputable def vK:FR:=⟨none,882,1,[],cV 0 ["self"],⟨[],["len"],[]⟩,Jl⟩
noncomputable def CS:FR:=⟨none,875,2,[.int (0)],cV 0 ["self","ahead"],⟨[],["len"],[]⟩,Qu⟩
noncomputable def vL:FR:=⟨none,904,3,[.int (0)],cV 0 ["self","kind","ahead","token"],⟨[],[],["peek"]⟩,Jm⟩
noncomputable def vO:FR:=⟨none,911,2,[],cV 0 ["self","words","ahead","word"],⟨[],[],["split","peek","is_kind"]⟩,vT⟩
noncomputable def vN:FR:=⟨none,969,3,[.int (0)],cV 0 ["self","sign","ahead"],⟨[],[],["peek","is_kind"]⟩,Jn⟩
noncomputable def sq:FR:=⟨none,976,2,[],cV 0 ["self","sign"],⟨[],[],["is_sign"]⟩,E8⟩
noncomputable def sp:FR:=⟨none,983,2,[],cV 0 ["self","sign"],⟨[],[],["skip_sign"]⟩,sv⟩
noncomputable def CT:FR:=⟨none,918,2,[],cV 0 ["self","words"],⟨[],["len"],["split","is_word"]⟩,Qv⟩
noncomputable def rU:FR:=⟨some "skip_heading",833,2,[],cV 0 ["reader","words"],⟨[],[],["need_sign","skip"]⟩,AE⟩
noncomputable def LX:FR:=⟨none,658,2,[],cV 0 ["self","kid"],⟨[],[],["append"]⟩,L7⟩
noncomputable def um:FR:=⟨some "put_beneath",800,2,[],cV 0 ["open_items","item","above"],⟨["MOST_NESTED","ALONE"],["len"],["append","add","pop"]⟩,Dm⟩
noncomputable def KJ:FR:=⟨some "nested",807,1,[],cV 0 ["entries","roots","open_items","last","renaming","item","index"],⟨["RENAMING","ALONE","NAMING"],["len","put_beneath"],["add","append"]⟩,Tr⟩
noncomputable def qi:FR:=⟨some "is_level_here",793,1,[],cV 0 ["reader","token"],⟨[],[],["peek"]⟩,KY⟩
noncomputable def lh:FR:=⟨none,623,3,[],cV 0 ["self","name","rows"],⟨[],["tuple"],[]⟩,vR⟩
noncomputable def xS:FR:=⟨none,932,2,[],cV 0 ["self","words","word"],⟨[],[],["split","skip"]⟩,x6⟩
noncomputable def pn:FR:=⟨some "octets_of_text",852,1,[],cV 0 ["text","numbers"],⟨["MOST_OCTET"],["bytes","ord"],[]⟩,vW⟩
noncomputable def xR:FR:=⟨none,1018,1,[],cV 0 ["self","found"],⟨[],["octets_of_text"],["peek","is_kind"]⟩,KW⟩
noncomputable def sk:FR:=⟨none,990,1,[],cV 0 ["self"],⟨[],[],["is_kind","is_sign"]⟩,su⟩
noncomputable def Ho:FR:=⟨some "negated",136,1,[],cV 0 ["a"],⟨[],[],[]⟩,QB⟩
noncomputable def Hm:FR:=⟨some "decimal",129,2,[.int (0)],cV 0 ["units","scale"],⟨[],[],[]⟩,Qz⟩
noncomputable def C7:FR:=⟨some "worth_of",164,1,[],cV 0 ["figures","number","figure"],⟨["FIGURES_decimals"],[],["index"]⟩,Mg⟩
noncomputable def nB:FR:=⟨some "read_decimal",171,1,[],cV 0 ["text","begin","ahead","behind","point","at","units"],⟨["FIGURES_decimals"],["decimal","len","worth_of","range"],["index"]⟩,Aw⟩
noncomputable def CU:FR:=⟨none,896,1,[],cV 0 ["self","token"],⟨[],[],["peek"]⟩,Qw⟩
noncomputable def xT:FR:=⟨none,997,1,[],cV 0 ["self","is_below","found"],⟨[],["negated","read_decimal"],["take","skip_sign","is_number"]⟩,x7⟩
noncomputable def rP:FR:=⟨some "read_operand",409,2,[],cV 0 ["reader","read_expr","figure"],⟨[],[],["is_kind","octets","is_number","signed"]⟩,Az⟩
noncomputable def uj:FR:=⟨some "is_reserved",847,1,[],cV 0 ["word"],⟨["RESERVED"],[],[]⟩,Dj⟩
noncomputable def vM:FR:=⟨none,947,2,[.int (0)],cV 0 ["self","ahead"],⟨[],["is_reserved"],["peek","is_kind"]⟩,vS⟩
noncomputable def rO:FR:=⟨some "read_literal",725,1,[],cV 0 ["reader"],⟨["no_expression"],["read_operand"],["is_name"]⟩,Ay⟩
noncomputable def uq:FR:=⟨some "read_worths",772,1,[],cV 0 ["reader","rows","first","last"],⟨[],["read_literal"],["is_sign","append","one_of"]⟩,Dp⟩
noncomputable def CO:FR:=⟨none,954,1,[],cV 0 ["self"],⟨[],[],["take","is_name"]⟩,Df⟩
noncomputable def CQ:FR:=⟨none,925,2,[],cV 0 ["self","words"],⟨[],[],["skip"]⟩,Dg⟩
noncomputable def rQ:FR:=⟨some "read_renames",779,1,[],cV 0 ["reader","first","last"],⟨[],[],["one_of","name","need"]⟩,AA⟩
noncomputable def kn:FR:=⟨none,595,6,[.none,.tup [],.tup []],cV 0 ["self","low","high","depending","keys","indexes"],⟨[],["tuple"],[]⟩,uE⟩
noncomputable def Ah:FR:=⟨none,961,1,[],cV 0 ["self","found"],⟨[],[],["is_name","name"]⟩,Ao⟩
noncomputable def rL:FR:=⟨some "is_part_next",367,1,[],cV 0 ["reader","depth","ahead"],⟨[],[],["is_sign"]⟩,Ar⟩
noncomputable def CX:FR:=⟨some "read_ref",388,2,[],cV 0 ["reader","read_expr","name","qualifiers","subscripts","part"],⟨[],["tuple","is_part_next"],["is_sign","one_of","append","name"]⟩,Ma⟩
noncomputable def C0:FR:=⟨some "units_at",143,3,[],cV 0 ["a","scale","is_rounded","size","half"],⟨[],[],[]⟩,Md⟩
noncomputable def C5:FR:=⟨some "whole_of",157,1,[],cV 0 ["a"],⟨[],["units_at"],[]⟩,Me⟩
noncomputable def CW:FR:=⟨some "is_whole",150,1,[],cV 0 ["a"],⟨[],[],[]⟩,L9⟩
noncomputable def Ai:FR:=⟨none,1004,1,[],cV 0 ["self","found"],⟨[],["whole_of","is_whole","read_decimal"],["peek","is_kind"]⟩,M7⟩
noncomputable def uo:FR:=⟨some "read_occurs",730,1,[],cV 0 ["reader","low","high","depending","keys","indexes","is_ascending"],⟨["no_expression"],["Occurs","tuple","read_ref"],["skip","names","is_word","extend","take","whole"]⟩,Dn⟩
noncomputable def lK:FR:=⟨some "read_named_clause",744,3,[],cV 0 ["reader","item","word","told_usage","place"],⟨["USAGE_WORDS"],["read_occurs"],["one_of","join","skip"]⟩,rh⟩
noncomputable def uh:FR:=⟨some "clause_word",751,1,[],cV 0 ["reader","word"],⟨[],[],["skip"]⟩,Dh⟩
noncomputable def mO:FR:=⟨some "read_bare_clause",758,2,[],cV 0 ["reader","item","usage","place"],⟨["USAGE_WORDS"],[],["one_of","join","take","is_kind"]⟩,sw⟩
noncomputable def rN:FR:=⟨some "read_clauses",765,2,[],cV 0 ["reader","item","met","ahead","word"],⟨[],["read_named_clause","clause_word","read_bare_clause"],["is_sign","append","peek"]⟩,Av⟩
noncomputable def mm:FR:=⟨none,651,3,[],cV 0 ["self","level","name"],⟨[],[],[]⟩,xZ⟩
noncomputable def Ag:FR:=⟨none,889,2,[],cV 0 ["self","what"],⟨[],["GrammarFault","min","len"],[]⟩,M6⟩
noncomputable def wF:FR:=⟨some "read_entry",786,1,[],cV 0 ["reader","place","level","item"],⟨["NAMING","RENAMING","ALONE","FILLER","MOST_LEVEL"],["Named","read_worths","read_renames","read_clauses","Item"],["need_sign","is_name","name","skip","whole","fault"]⟩,FZ⟩
noncomputable def nC:FR:=⟨some "read_entries",814,1,[],cV 0 ["reader","entries"],⟨[],["nested","is_level_here","read_entry"],["append"]⟩,Ax⟩
noncomputable def nU:FR:=⟨some "read_file_entry",826,3,[],cV 0 ["reader","data","is_sort","place","name","roots"],⟨["ALONE"],["read_entries"],["append","skip_sign","name","fault"]⟩,uI⟩
noncomputable def ml:FR:=⟨none,698,1,[],cV 0 ["self"],⟨[],[],[]⟩,xY⟩
noncomputable def zm:FR:=⟨some "read_data",840,1,[],cV 0 ["reader","data"],⟨[],["skip_heading","read_entries","read_file_entry","Data"],["is_word","is_done","take"]⟩,Jt⟩
noncomputable def kp:FR:=⟨none,867,3,[.int (0)],cV 0 ["self","tokens","at"],⟨[],[],[]⟩,Hx⟩
noncomputable def lj:FR:=⟨none,194,5,[.tup [.int (0),.int (0)],.bool false],cV 0 ["self","kind","worth","at","is_in_a"],⟨[],[],[]⟩,vU⟩
noncomputable def nT:FR:=⟨some "is_picture_next",330,1,[],cV 0 ["tokens"],⟨[],["len"],[]⟩,uH⟩
noncomputable def kH:FR:=⟨some "capital_of",215,1,[],cV 0 ["sign"],⟨[],["chr","ord"],[]⟩,FT⟩
noncomputable def ra:FR:=⟨some "capitals",220,1,[],cV 0 ["text"],⟨[],["capital_of"],["join"]⟩,L8⟩
noncomputable def ul:FR:=⟨some "picture_end",269,2,[],cV 0 ["text","at","end"],⟨["ENDS"],["len"],[]⟩,Dl⟩
noncomputable def nS:FR:=⟨some "checked_picture",295,2,[],cV 0 ["line","at","end"],⟨[],["capitals","picture_end"],[]⟩,uG⟩
noncomputable def pk:FR:=⟨some "is_parted",234,2,[],cV 0 ["text","at"],⟨[],["len"],[]⟩,Js⟩
noncomputable def Hn:FR:=⟨some "mark_at",309,2,[],cV 0 ["line","at","pair","sign"],⟨["SINGLE_SIGNS","DOUBLE_SIGNS"],["is_parted"],["split"]⟩,QA⟩
noncomputable def nR:FR:=⟨some "checked_literal",288,3,[],cV 0 ["line","at","end","quote","worth"],⟨["MOST_LITERAL"],["len"],["replace"]⟩,uF⟩
noncomputable def rM:FR:=⟨some "is_word_sign",227,1,[],cV 0 ["sign"],⟨["WORD_SIGNS"],["capital_of"],[]⟩,As⟩
noncomputable def wD:FR:=⟨some "need_apart",302,2,[],cV 0 ["line","end","behind"],⟨["FIGURES_tokens","QUOTES"],["is_word_sign"],[]⟩,FW⟩
noncomputable def uk:FR:=⟨some "literal_end",262,2,[],cV 0 ["line","at","quote","end"],⟨[],["len"],[]⟩,Dk⟩
noncomputable def rJ:FR:=⟨some "checked_word",274,3,[],cV 0 ["line","at","end","worth"],⟨["MOST_WORD","LETTERS"],["len","capitals"],[]⟩,Ap⟩
noncomputable def pi:FR:=⟨some "checked_number",281,3,[],cV 0 ["line","at","end","worth"],⟨["MOST_FIGURES"],["len"],[]⟩,vV⟩
noncomputable def zn:FR:=⟨some "run_end",248,3,[],cV 0 ["text","at","signs"],⟨[],["capital_of","len"],[]⟩,QC⟩
noncomputable def wE:FR:=⟨some "number_end",255,2,[],cV 0 ["text","at","end"],⟨["FIGURES_tokens"],["run_end"],[]⟩,FY⟩
noncomputable def C6:FR:=⟨some "worth_at",316,2,[],cV 0 ["line","at","sign","end","behind","kind","worth"],⟨["QUOTES","FIGURES_tokens","LETTERS","WORD_SIGNS"],["len","mark_at","checked_literal","need_apart","literal_end","checked_word","checked_number","number_end","run_end","capital_of"],[]⟩,Mf⟩
noncomputable def wB:FR:=⟨some "is_word_is",344,2,[],cV 0 ["text","at"],⟨[],["is_parted","capitals"],[]⟩,FU⟩
noncomputable def ui:FR:=⟨some "is_blank_at",323,2,[],cV 0 ["text","at"],⟨[],["is_parted"],[]⟩,Di⟩
noncomputable def wA:FR:=⟨some "add_tokens",337,2,[],cV 0 ["tokens","line","at","was_is","place","kind","worth","end"],⟨[],["len","Token","is_picture_next","checked_picture","worth_at","is_word_is","is_blank_at"],["append"]⟩,FS⟩
noncomputable def zp:FR:=⟨some "tokens_of",351,1,[],cV 0 ["lines","tokens","line"],⟨[],["add_tokens"],[]⟩,Jw⟩
noncomputable def mo:FR:=⟨none,35,3,[],cV 0 ["self","text","spots"],⟨[],[],[]⟩,x5⟩
noncomputable def lL:FR:=⟨some "text_tokens",510,2,[.bool false],cV 0 ["text","is_in_a","begin","found"],⟨["AREA_A","AREA_B"],["range","len","Token","tokens_of","Line"],[]⟩,Ds⟩
noncomputable def xU:FR:=⟨some "joined",495,1,[],cV 0 ["parts"],⟨[],[],["join"]⟩,Tq⟩
noncomputable def KL:FR:=⟨some "quoted",358,1,[],cV 0 ["text"],⟨[],[],["replace"]⟩,Ts⟩
noncomputable def rT:FR:=⟨some "shown_octets",414,1,[],cV 0 ["octets"],⟨[],["quoted","chr"],["join"]⟩,AD⟩
noncomputable def qj:FR:=⟨some "write_decimal",178,1,[],cV 0 ["a","figures"],⟨[],["len","str","abs"],[]⟩,x8⟩
noncomputable def rS:FR:=⟨some "shown_number",421,1,[],cV 0 ["worth","text"],⟨["MOST_FIGURES"],["abs","write_decimal"],["replace"]⟩,AC⟩
noncomputable def rR:FR:=⟨some "show_operand",440,2,[],cV 0 ["operand","show_expr"],⟨[],["shown_octets","shown_number"],[]⟩,AB⟩
noncomputable def nA:FR:=⟨some "operand_text",483,1,[],cV 0 ["operand"],⟨["show_expression"],["show_operand"],[]⟩,Au⟩
noncomputable def uu:FR:=⟨some "show_worths",543,1,[],cV 0 ["named","rows","first","last"],⟨[],["joined","operand_text"],["append"]⟩,Dr⟩
noncomputable def Es:FR:=⟨some "worded",502,2,[],cV 0 ["word","text"],⟨[],[],[]⟩,Tt⟩
noncomputable def CZ:FR:=⟨some "show_ref",433,2,[],cV 0 ["ref","show_expr","found","length"],⟨[],["list"],["join"]⟩,Mc⟩
noncomputable def CY:FR:=⟨some "ref_text",490,1,[],cV 0 ["ref"],⟨["show_expression"],["show_ref"],[]⟩,Mb⟩
noncomputable def ur:FR:=⟨some "show_occurs",522,1,[],cV 0 ["occurs","head","keys"],⟨[],["joined","worded","str","ref_text"],[]⟩,Dq⟩
noncomputable def zo:FR:=⟨some "show_sign",529,1,[],cV 0 ["item"],⟨[],[],[]⟩,Jv⟩
noncomputable def rK:FR:=⟨some "clause_texts",536,1,[],cV 0 ["item"],⟨["USAGE_NAMES"],["operand_text","show_occurs","show_sign","worded"],[]⟩,Aq⟩
noncomputable def wC:FR:=⟨some "level_text",517,1,[],cV 0 ["level"],⟨[],["str"],[]⟩,FV⟩
noncomputable def wG:FR:=⟨some "show_entry",550,1,[],cV 0 ["item","head","first","last"],⟨["RENAMES_LEVEL"],["joined","clause_texts","level_text"],[]⟩,F0⟩
noncomputable def nz:FR:=⟨some "entry_tokens",557,1,[],cV 0 ["item","found","named","kid"],⟨["TOP_LEVELS"],["entry_tokens","text_tokens","show_worths","show_entry"],["extend"]⟩,M8⟩
noncomputable def nD:FR:=⟨some "roots_tokens",564,1,[],cV 0 ["roots","found","root"],⟨[],["entry_tokens"],["extend"]⟩,M9⟩
noncomputable def pp:FR:=⟨some "section_tokens",571,2,[],cV 0 ["heading","roots"],⟨[],["text_tokens","roots_tokens"],[]⟩,Ju⟩
noncomputable def pj:FR:=⟨some "data_tokens",578,1,[],cV 0 ["data","found","name","head"],⟨[],["text_tokens","section_tokens","roots_tokens"],["extend"]⟩,Qy⟩
noncomputable def qh:FR:=⟨some "_law_is_right",1077,1,[],cV 0 ["data","tokens","reader","roots","heads","tops","first","levels"],⟨[],["_law_walked","int","range","len","sorted","read_data","Reader","data_tokens"],["told","is_done"]⟩,KX⟩
noncomputable def mq:FR:=⟨some "_law_take",1032,2,[],cV 0 ["bag","many","worth"],⟨[],[],[]⟩,Vv⟩
noncomputable def s8:FR:=⟨some "_law_item",1046,3,[],cV 0 ["bag","level","name","item","way"],⟨[],["_law_take","Named","Occurs","Item"],["append"]⟩,Jp⟩
noncomputable def zk:FR:=⟨some "_law_leaf",1053,3,[],cV 0 ["bag","level","name","item"],⟨[],["_law_take","_law_item"],[]⟩,Jq⟩
noncomputable def zl:FR:=⟨some "_law_root",1060,2,[],cV 0 ["bag","name","root","turn","group","inner","renaming"],⟨[],["_law_take","Item","range","_law_leaf","_law_item"],["add"]⟩,Jr⟩
noncomputable def zj:FR:=⟨some "_law_data",1065,1,[],cV 0 ["bag","data","name"],⟨[],["_law_root","_law_take","Data"],["append"]⟩,Jo⟩
noncomputable def CV:FR:=⟨some "_law_bag",1039,1,[],cV 0 ["script","number","cell"],⟨[],[],[]⟩,Yn⟩
noncomputable def aan:FR:=⟨some "law",1082,1,[],cV 0 ["script","data","group","leaf","root","words"],⟨[],["_law_is_right","_law_data","_law_bag","Data","data_tokens","Item","Named"],["split","add","append"]⟩,aoZ⟩
noncomputable def tW:List FR:=[
 pg,
 FO,
 CN,
 FM,
 Af,
 I7,
 I6,
 vK,
 CS,
 vL,
 vO,
 vN,
 sq,
 sp,
 CT,
 rU,
 LX,
 um,
 KJ,
 qi,
 lh,
 xS,
 pn,
 xR,
 sk,
 Ho,
 Hm,
 C7,
 nB,
 CU,
 xT,
 rP,
 uj,
 vM,
 rO,
 uq,
 CO,
 CQ,
 rQ,
 kn,
 Ah,
 rL,
 CX,
 C0,
 C5,
 CW,
 Ai,
 uo,
 lK,
 uh,
 mO,
 rN,
 mm,
 Ag,
 wF,
 nC,
 nU,
 ml,
 zm,
 kp,
 lj,
 nT,
 kH,
 ra,
 ul,
 nS,
 pk,
 Hn,
 nR,
 rM,
 wD,
 uk,
 rJ,
 pi,
 zn,
 wE,
 C6,
 wB,
 ui,
 wA,
 zp,
 mo,
 lL,
 xU,
 KL,
 rT,
 qj,
 rS,
 rR,
 nA,
 uu,
 Es,
 CZ,
 CY,
 ur,
 zo,
 rK,
 wC,
 wG,
 nz,
 nD,
 pp,
 pj,
 qh,
 mq,
 s8,
 zk,
 zl,
 zj,
 CV,
 aan]
structure GR where
 x:Str
 a:AV
noncomputable def OO:List GR:=[⟨"FIGURES_decimals",mK⟩,
 ⟨"WORD_SIGNS",wi⟩,
 ⟨"FIGURES_tokens",kX⟩,
 ⟨"ENDS",aa1⟩,
 ⟨"MOST_WORD",H7⟩,
 ⟨"LETTERS",Gp⟩,
 ⟨"MOST_FIGURES",rr⟩,
 ⟨"MOST_LITERAL",zF⟩,
 ⟨"QUOTES",J1⟩,
 ⟨"SINGLE_SIGNS",zG⟩,
 ⟨"DOUBLE_SIGNS",zE⟩,
 ⟨"AREA_A",RZ⟩,
 ⟨"AREA_B",R4⟩,
 ⟨"RENAMES_LEVEL",wZ⟩,
 ⟨"TOP_LEVELS",iO⟩,
 ⟨"NAMING",J0⟩,
 ⟨"RENAMING",Bq⟩,
 ⟨"ALONE",Bo⟩,
 ⟨"FILLER",R5⟩,
 ⟨"MOST_LEVEL",Fh⟩,
 ⟨"MOST_NESTED",Bp⟩,
 ⟨"MOST_OCTET",Fi⟩]
structure CR where
 x:Str
 c:aC
 i:aC
noncomputable def yV:List CR:=[⟨"Line",45,35⟩,⟨"Token",204,194⟩,⟨"Occurs",605,595⟩,⟨"Named",633,623⟩,⟨"Item",680,651⟩,⟨"Data",706,698⟩,⟨"Reader",1021,867⟩]
structure MR where
 c:aC
 x:Str
 f:aC
noncomputable def Kk:List MR:=[⟨204,"told",201⟩,⟨605,"told",602⟩,⟨633,"told",630⟩,⟨680,"add",658⟩,⟨680,"clauses",672⟩,⟨680,"told",677⟩,⟨706,"told",703⟩,⟨1021,"peek",875⟩,⟨1021,"is_done",882⟩,⟨1021,"fault",889⟩,⟨1021,"take",896⟩,⟨1021,"is_kind",904⟩,⟨1021,"is_word",911⟩,⟨1021,"skip",918⟩,⟨1021,"need",925⟩,⟨1021,"one_of",932⟩,⟨1021,"is_name",947⟩,⟨1021,"name",954⟩,⟨1021,"names",961⟩,⟨1021,"is_sign",969⟩,⟨1021,"skip_sign",976⟩,⟨1021,"need_sign",983⟩,⟨1021,"is_number",990⟩,⟨1021,"signed",997⟩,⟨1021,"whole",1004⟩,⟨1021,"octets",1018⟩]
noncomputable def Un:List Str:=[("len":Str),("range":Str),("str":Str),("tuple":Str),("list":Str),("abs":Str),("chr":Str),("ord":Str),("sorted":Str),("int":Str),("bytes":Str),("min":Str)]
section simps
variable{fr:Fm}{σ:AS}
@[simp] theorem bZ {α β:Type} (a:α) (f:α->Option β):ob (some a) f=f a:=rfl
@[simp] theorem aX {α γ β:Type} (a:α) (b:γ) (f:α->γ->Option β):bu (some (a,b)) f=f a b:=rfl
@[simp] theorem amV {α β:Type} (a:α) (f:α->Option β) (g):od (some a) f g=f a:=rfl
@[simp] theorem fV (f m):un f m fr σ=bu (m fr σ) fun a ai=>ob (f a ai) fun b=>some (b,ai):=rfl
@[simp] theorem jB (f m n):bi f m n fr σ=bu (m fr σ) fun a ai=>bu (n fr ai) fun b fO=>f a b fO:=rfl
@[simp] theorem ft (f m n):fh f m n fr σ=bu (m fr σ) fun a ai=>bu (n fr ai) fun b fO=>ob (f a b fO) fun r=>some (r,fO):=rfl
@[simp] theorem lP (m):ja m fr σ=bu (m fr σ) fun a ai=>ob (qG ai a) fun b=>some (b,ai):=rfl
@[simp] theorem wx (m):rI m fr σ=bu (m fr σ) fun b ai=>some (.bool b,ai):=rfl
@[simp] theorem qB (b):oZ b fr σ=bu (b fr σ) fun b ai=>some (!b,ai):=rfl
@[simp] theorem GS (a b):Rp a b fr σ=bu (a fr σ) fun t ai=>bif t then some (true,ai)else b fr ai:=rfl
@[simp] theorem Ed (a b):Sq a b fr σ=bu (a fr σ) fun v ai=>ob (qG ai v) fun t=>bif t then b fr ai else some (v,ai):=rfl
@[simp] theorem wt (c a b):sY c a b fr σ=bu (c fr σ) fun t ai=>bif t then a fr ai else b fr ai:=rfl
theorem bd(i):al i fr σ=bif bQ (gt fr i)then none else some (gt fr i,σ):=rfl
@[simp] theorem dU (a):a6 a fr σ=some (a,σ):=rfl
@[simp] theorem d9 (f l):bn f l fr σ=bu (l fr σ) fun vs ai=>f vs ai:=rfl
@[simp] theorem cg:aJ fr σ=some ([],σ):=rfl
@[simp] theorem cp (a l):aw a l fr σ=bu (a fr σ) fun v ai=>bu (l fr ai) fun vs aM=>some (v::vs,aM):=rfl
@[simp] theorem eB (D o l):cC D o l fr σ=bu (o fr σ) fun x ai=>ob (D x ai) fun F=>bu (l fr ai) fun vs aM=>F (x::vs) aM:=rfl
@[simp] theorem c9 (a b):aV a b fr σ=ob (a fr σ) (gN b):=rfl
@[simp] theorem dz (k fr' ai):gN k (.next fr' ai)=k fr' ai:=rfl
@[simp] theorem dB (k a ai):gN k (.ret a ai)=some (.ret a ai):=rfl
@[simp] theorem fz:bh fr σ=some (.next fr σ):=rfl
@[simp] theorem jW (c a b):rV c a b fr σ=bu (c fr σ) fun t ai=>bif t then a fr ai else b fr ai:=rfl
@[simp] theorem d6 (e):eC e fr σ=bu (e fr σ) fun v ai=>some (.ret v ai):=rfl
@[simp] theorem fy (i e):cK [i] e fr σ=bu (e fr σ) fun v ai=>some (.next (put fr i v) ai):=rfl
@[simp] theorem xW (k o e):lM k o e fr σ=bu (e fr σ) fun v ai=>bu (o fr ai) fun x aM=>ob (oj k v x aM) fun cF=>some (.next fr cF):=rfl
@[simp] theorem kC (a:AV) (r):gt (a::r) 0=a:=rfl
@[simp] theorem o0 (a:AV) (r i):gt (a::r) (i+1)=gt r i:=rfl
@[simp] theorem si (a v:AV) (r):put (a::r) 0 v=v::r:=rfl
@[simp] theorem sj (a v:AV) (r i):put (a::r) (i+1) v=a::put r i v:=rfl
@[simp] theorem putN (v:AV):put [] 0 v=[v]:=rfl
@[simp] theorem alX (fr' ai):ig (.next fr' ai)=some (.none,ai):=rfl
@[simp] theorem gp (a ai):ig (.ret a ai)=some (a,ai):=rfl
@[simp] theorem iK (b):qG σ (.bool b)=some b:=rfl
@[simp] theorem OK (a):bT .Add (.int (.ofNat a)) (.int 1) σ=some (.int (.ofNat (a+1)),σ):=rfl
@[simp] theorem Nn (a b):bT .Add (.int (.ofNat a)) (.int (.ofNat b)) σ=some (.int (.ofNat (a+b)),σ):=rfl
@[simp] theorem ahJ (a b):bU .Lt (.int (.ofNat a)) (.int (.ofNat b)) σ=some (bp a b):=rfl
@[simp] theorem anO (a b):bU .GtE (.int (.ofNat a)) (.int (.ofNat b)) σ=some (!bp a b):=rfl
@[simp] theorem Zq (a b):bU .Eq (.str a) (.str b) σ=some (dp a b):=rfl
@[simp] theorem an9 (a b):bU .NotEq (.str a) (.str b) σ=some (!dp a b):=rfl
@[simp] theorem ahr (a):bU .Is a .none σ=lG a:=rfl
@[simp] theorem IM (a):bU .IsNot a .none σ=ob (lG a) fun b=>some (!b):=rfl
@[simp] theorem SE:lG .none=some true:=rfl
@[simp] theorem adu (l):lG (.bytes l)=some false:=rfl
@[simp] theorem fc (a):bQ (.ref a)=false:=rfl
@[simp] theorem lQ (a):bQ (.int a)=false:=rfl
@[simp] theorem mP (a):bQ (.str a)=false:=rfl
@[simp] theorem akn:bQ .none=false:=rfl
@[simp] theorem ao3 (a):bQ (.bytes a)=false:=rfl
@[simp] theorem XN (F l):ic F (.str l) σ=some F:=rfl
end simps
theorem alJ{α:Type}{l:List α}: ∀(i:Nat),PR l i=l[i]? :=by
 induction l with
 |nil=>exact fun i=>rfl
 |cons a l ih=>
  intro i
  cases i with
  |zero=>rfl
  |succ i=>exact ih i
theorem fN{n:Nat}(h:n<=4000000):dv n=true:=fY h
theorem GV{a b:Nat}(h:a<b):bp a b=true:=cX.mpr h
theorem Y2{a b:Nat}(h:b<=a):bp a b=false:=EB.mpr fun e=>b5.mpr h (cX.mp e)
section
variable{σ:AS}{r m:Nat}{L l:aa}{mac:List Nat->List AV}
theorem jf{α β:Type}{o:Option α}{a:α}{f:α->Option β}(h:o=some a):ob o f=f a:=h▸rfl
theorem oX(hg:σ.get r=some (cN L m)):aA 4 (.ref r) σ=some (.int (.ofNat m)):=jf hg
theorem Ir(hg:σ.get r=some (cN L m)):aA 38 (.ref r) σ=some (.lst L):=jf hg
theorem xJ(hL:dv L.length=true):eN [.lst L] σ=some (.int (.ofNat L.length),σ):=by
 rw[<- ib]at hL ⊢
 show(bif dv (eP L)then _ else none)=_
 rw[hL];rfl
theorem rH{F:aW}{G:gK}(hg:σ.get r=some (cN L m)):fb df F G (.ref r) σ=some F:=jf (show Fy (.ref r) σ=some 1021 from jf hg)
theorem Jg(hg:σ.get r=some (cN L m))(k:Nat):oj 4 (.int (.ofNat k)) (.ref r) σ=some (σ.set r (cN L k)):=jf hg
theorem IJ{i:Nat}{a:AV}(h:dv i=true)(e:L[i]? =some a):fM (.lst L) (.int (.ofNat i)) σ=some (a,σ):=by
 have h1:abH (.lst L) (.int (.ofNat i)) σ=some a:=by
  show(bif dv i then PR L i else none)=_
  rw[h,alJ];exact e
 exact jf h1
theorem alM(hg:σ.get r=some (cN L m))(hL:dv L.length=true)(k:Nat):hV [.ref r,.int (.ofNat k)] σ=some ((L[m+k]?).getD .none,σ):=by
 show ob (oU [.ref r,.int (.ofNat k)] σ) ig=_
 by_cases hk:m+k<L.length
 ·have hx:L[m+k]? =some L[m+k]:=eS hk
  simp only[oU,c9,jW,ft,jB,fV,bd,kC,o0,fc,lQ,ae,aX,bZ,oX hg,Ir hg,Nn,d9,cp,cg,xJ hL,ahJ,GV hk,af,d6,IJ (fN (au (iW hk) (jJ hL))) hx,dB,gp]
  rw[hx];rfl
 ·simp only[oU,c9,jW,ft,jB,fV,bd,kC,o0,fc,lQ,ae,aX,bZ,oX hg,Ir hg,Nn,d9,cp,cg,xJ hL,ahJ,Y2 (b5.mp hk),d6,dU,dB,dz,gp,fz]
  rw[nX (b5.mp hk)];rfl
noncomputable def at_(L:aa)(i:Nat):AV:=(L[i]?).getD .none
def k9(mac:List Nat->List AV)(l:aa)(L:aa)(m:Nat):Prop:=mac []=[]/\ ∃pre,pre.length=m/\L=pre++xp mac l
theorem k9.at(S:k9 mac l L m){k:Nat}{o:Option AV}(e:jF l k=some o):at_ L (m+k)=o.getD .none:=by
 unfold at_
 obtain⟨pre,h1,h2⟩:=S.2
 rw[h2,<- h1,kv (cQ _ _),my,QD S.1 e]
theorem s6(hg:σ.get r=some (cN L m))(hL:dv L.length=true)(S:k9 mac l L m){k:Nat}{o:Option AV}(e:jF l k=some o):hV [.ref r,.int (.ofNat k)] σ=some (o.getD .none,σ):=(alM hg hL k).trans (congrArg (fun x=>some (x,σ)) (S.at e))
theorem jX{k:Nat}{t v:AV}(h:pz k t=some v):aA k t σ=some v/\lG t=some false/\bQ t=false:=sS (Q:=fun t=>aA k t σ=some v/\lG t=some false/\bQ t=false) h fun c ks vs h=>⟨h,rfl,rfl⟩
theorem anX{k:Nat}{w:ac}{b:Bool}{P:Prop}(e:qC l k w=some b)(k0:jF l k=some none->b=false->P)(k1: ∀t s,jF l k=some (some t)->pz 2 t=some (.str s)->b=dp s w->P):P:=
 oE e fun o ho e=>by
  cases o with
  |none=>exact k0 ho (aG e).symm
  |some t=>exact oE e fun v hv e=>fJ (Q:=fun v=>pz 2 t=some v->P) e (fun s e hv=>k1 t s ho hv (aG e).symm) hv
theorem aci{k:Nat}{w:ac}{b:Bool}{P:Prop}(e:QG l k w=some b)(k1: ∀t s,jF l k=some (some t)->pz 1 t=some (.str s)->b=dp s w->P):P:=
 oE e fun o ho e=>oE (o:=o) e fun t ht e=>oE e fun v hv e=>fJ (Q:=fun v=>pz 1 t=some v->P) e (fun s e hv=>k1 t s (ht▸ho) hv (aG e).symm) hv
theorem afj{k:Nat}{w s:ac}{b:Bool}{P:Prop}(e:vA l k w s=some b)(k1:qC l k w=some true->QG l k s=some b->P)(k0:qC l k w=some false->b=false->P):P:=
 oE e fun c hc e=>bE e (fun z e=>k1 (z▸hc) e) fun z e=>k0 (z▸hc) (aG e).symm
theorem lH(hg:σ.get r=some (cN L m))(hL:dv L.length=true)(S:k9 mac l L m){k:Nat}{w:ac}{b:Bool}(e:qC l k w=some b):il [.ref r,.str w,.int (.ofNat k)] σ=some (.bool b,σ):=by
 show ob (k7 [.ref r,.str w,.int (.ofNat k)] σ) ig=_
 refine anX e (fun ht hb=> ?_) fun t s ht h2 hb=> ?_
 ·rw[hb]
  simp only[k7,gg,c9,fy,eB,bd,kC,o0,fc,lQ,ae,aX,bZ,rH hg,cp,cg,s6 hg hL S ht,tx,dz,si,sj,putN,d6,Ed,wx,ft,akn,dU,IM,SE,eo,iK,dB,gp]
 ·rw[hb]
  simp only[k7,gg,c9,fy,eB,bd,kC,o0,fc,lQ,mP,ae,aX,bZ,rH hg,cp,cg,s6 hg hL S ht,nK,dz,si,sj,putN,d6,Ed,wx,ft,(jX (σ:=σ) h2).2.2,dU,IM,(jX (σ:=σ) h2).2.1,fi,iK,dB,gp,af,fV,(jX (σ:=σ) h2).1,Zq]
theorem G9(hg:σ.get r=some (cN L m))(hL:dv L.length=true)(S:k9 mac l L m){k:Nat}{w:ac}{b:Bool}(e:vA l k jh w=some b):jq [.ref r,.str w,.int (.ofNat k)] σ=some (.bool b,σ):=by
 show ob (k8 [.ref r,.str w,.int (.ofNat k)] σ) ig=_
 refine afj e (fun e1 e2=>aci e2 fun t s ht h2 hb=> ?_) fun e1 hb=> ?_
 ·have h1:=lH hg hL S e1
  unfold jh at h1
  rw[hb]
  simp only[k8,gg,eZ,c9,eB,bd,kC,o0,fc,lQ,mP,ae,aX,bZ,rH hg,cp,cg,h1,s6 hg hL S ht,nK,d6,Ed,wx,ft,dU,iK,dB,gp,af,fV,(jX (σ:=σ) h2).1,Zq]
 ·have h1:=lH hg hL S e1
  unfold jh at h1
  rw[hb]
  simp only[k8,eZ,c9,eB,bd,kC,o0,fc,lQ,mP,ae,aX,bZ,rH hg,cp,cg,h1,d6,Ed,dU,iK,dB,gp]
noncomputable def tc:SM:=(aV (rV (Rp (oZ (ja (cC eZ (al 0) (aw (a6 (.str [119,111,114,100])) (aw (al 2) aJ))))) (fh (bU .NotEq) (un (aA 1) (cC gg (al 0) (aw (al 2) aJ))) (al 3)))
  (aV (eC (a6 (.bool false)))
  bh)
  bh)
  (aV (cK [2] (bi (bT .Add) (al 2) (a6 (.int (1)))))
  bh))
theorem akw(hg:σ.get r=some (cN L m))(hL:dv L.length=true)(S:k9 mac l L m){w:AV}{x:ac}{k:Nat}{b:Bool}(e:vA l k uA x=some b):
  tc [.ref r,w,.int (.ofNat k),.str x] σ=some (bif b then .next [.ref r,w,.int (.ofNat (k+1)),.str x] σ else .ret (.bool false) σ):=by
 refine afj e (fun e1 e2=>aci e2 fun t s ht h2 hb=> ?_) fun e1 hb=> ?_
 ·have h1:=lH hg hL S e1
  unfold uA at h1
  rw[hb]
  cases z:dp s x<;>simp only[tc,gg,eZ,c9,jW,GS,qB,lP,eB,bd,kC,o0,fc,lQ,mP,ae,aX,bZ,rH hg,cp,cg,h1,s6 hg hL S ht,nK,ft,dU,iK,eo,fi,af,fV,(jX (σ:=σ) h2).1,an9,z,d6,dB,dz,fz,fy,jB,OK,si,sj]
 ·have h1:=lH hg hL S e1
  unfold uA at h1
  rw[hb]
  simp only[tc,eZ,c9,jW,GS,qB,lP,eB,bd,kC,o0,fc,lQ,mP,ae,aX,bZ,rH hg,cp,cg,h1,dU,iK,fi,af,d6,dB]
theorem aaO(hg:σ.get r=some (cN L m))(hL:dv L.length=true)(S:k9 mac l L m)(w:AV){ws:List (List Nat)}: ∀(k:Nat) (f3:Fm) (b:Bool),f3.length<=1->Dx l k ws=some b->
  ∃fr',pv [3] tc (ws.map .str) (.ref r::w:: .int (.ofNat k)::f3) σ=(bif b then some (.next fr' σ)else some (.ret (.bool false) σ)):=by
 induction ws with
 |nil=>exact fun k f3 b _ e=>s1 (P:=fun b=> ∃fr',some (jZ.next (.ref r::w:: .int (.ofNat k)::f3) σ)=(bif b then some (.next fr' σ)else some (.ret (.bool false) σ))) e ⟨_,rfl⟩
 |cons x ws ih=>
  intro k f3 b h3 e
  have hf:put (.ref r::w:: .int (.ofNat k)::f3) 3 (.str x)=[.ref r,w,.int (.ofNat k),.str x]:=by
   cases f3 with
   |nil=>rfl
   |cons a f3=>cases f3 with
    |nil=>rfl
    |cons=>exact absurd h3 (Nat.not_succ_le_self _∘au (a9 (a9 (aU _))))
  refine oE (show ob (vA l k uA x) _=some b from e) fun c hc e=> ?_
  have h:=akw hg hL S (w:=w) hc
  have hs: ∀{o},tc [.ref r,w,.int (.ofNat k),.str x] σ=some o->pv [3] tc ((x::ws).map .str) (.ref r::w:: .int (.ofNat k)::f3) σ=Kz (pv [3] tc (ws.map .str)) o:=fun{o} h=>by
   show ob (tc (put (.ref r::w:: .int (.ofNat k)::f3) 3 (.str x)) σ) _=_
   rw[hf,h];rfl
  cases c with
  |true=>
   obtain⟨fr',ih⟩:=ih (k+1) [.str x] b (ax _) e
   exact⟨fr',(hs h).trans ih⟩
  |false=>exact s1 (P:=fun b=> ∃fr',_=(bif b then some (jZ.next fr' σ)else some (.ret (.bool false) σ))) e ⟨[],hs h⟩
end
section
variable{σ:AS}{r m:Nat}{L l:aa}{mac:List Nat->List AV}
noncomputable def sW(σ:AS)(w:ac):AS:=(σ.alloc (.lst ((dh 32 [] w).map .str))).drop σ.next
theorem Je{σ:AS}{w:ac}{b:Nat}(h:b<σ.next):(sW σ w).get b=σ.get b:=by
 have h:=ci h
 unfold sW
 rw[AS.get_drop,AS.get_alloc,if_neg h,if_neg h]
theorem Yh{w:ac}(hw:dv w.length=true):kz [.str w,.str [32]] σ=some (.ref σ.next,σ.alloc (.lst ((dh 32 [] w).map .str))):=by
 show(bif dv w.length then _ else none)=_
 rw[hw];rfl
theorem b7{c:bF}:(σ.alloc c).get σ.next=some c:=by rw[AS.get_alloc,if_pos rfl]
theorem PB(hg:σ.get r=some (cN L m))(hL:dv L.length=true)(S:k9 mac l L m)(hr:r<σ.next){w:ac}{b:Bool}(hw:okW w=true)(e:Dx l 0 (dh 32 [] w)=some b):jr [.ref r,.str w] σ=some (.bool b,sW σ w):=aE hw fun hw1 hw2=>by
 obtain⟨fr',h⟩:=aaO ((Je hr).trans hg) hL S (.str w) 0 [] b (aU _) e
 have hit:fu (σ.alloc (.lst ((dh 32 [] w).map .str))) (.ref σ.next)=some ((dh 32 [] w).map .str,sW σ w):=by
  show bu (ob ((σ.alloc _).get σ.next) _) _=_
  rw[b7]
  show(bif dv ((dh 32 [] w).map AV.str).length then _ else none)=_
  rw[aS,hw2];rfl
 have e1:jr [.ref r,.str w] σ=ob (ob (bu (bu (some (AV.str w,σ)) fun x ai=>ob (ic kz x ai) fun F=>F [x,.str [32]] ai) fun x ai=>bu (fu ai x) fun l ay=>pv [3] tc l [.ref r,.str w,.int (.ofNat 0)] ay) (gN (aV (eC (a6 (.bool true))) bh))) ig:=rfl
 rw[e1,aX,XN,bZ,Yh hw1,aX,hit,aX,h]
 cases b<;>rfl
theorem amm(hg:σ.get r=some (cN L m))(hL:dv L.length=true)(S:k9 mac l L m){t:AV}(e:jF l 0=some (some t))(hr:lG t=some false)(hu:bQ t=false):oP [.ref r] σ=some (t,σ.set r (cN L (m+1))):=by
 have hp:hV [.ref r] σ=some (t,σ):=s6 hg hL S e
 show ob (tT [.ref r] σ) ig=_
 simp only[tT,gg,c9,jW,fy,xW,ft,jB,fV,eB,bd,kC,o0,fc,lQ,hu,ae,af,aX,bZ,rH hg,cp,cg,hp,dz,si,sj,putN,ahr,hr,dU,fz,oX hg,OK,Jg hg,d6,dB,gp]
theorem aak{t:AV}{k:Nat}: ∀{l:aa} {k:Nat},jF l k=some (some t)-> ∃c ks vs,t= .frz c ks vs:=fun{l}=>by
 induction l with
 |nil=>exact fun e=>nn (aG e)
 |cons a r ih=>
  intro k e
  refine sS (Q:=fun a'=>a'=a-> ∃c ks vs,t= .frz c ks vs) e (fun c ks vs e ha=> ?_) rfl
  refine bE e (fun q e=>kS e fun _ e=>ih e) fun q e=> ?_
  cases k with
  |zero=>exact⟨c,ks,vs,ha.trans (aG (aG e))|>.symm⟩
  |succ j=>exact ih e
theorem Jh(hg:σ.get r=some (cN L m))(hL:dv L.length=true)(S:k9 mac l L m){w:ac}{b:Bool}(e:vA l 0 jh w=some b):jH [.ref r,.str w] σ=some (.bool b,bif b then σ.set r (cN L (m+1))else σ):=by
 have h:jq [.ref r,.str w] σ=some (.bool b,σ):=G9 hg hL S (k:=0) e
 show ob (mL [.ref r,.str w] σ) ig=_
 cases b<;>simp only[mL,vi,c9,jW,qB,lP,eB,bd,kC,o0,fc,mP,ae,af,aX,bZ,rH hg,cp,cg,h,iK,eo,fi,d6,dU,dB,dz,gp,fz,xW,jB,fV,oX hg,OK,Jg hg]
theorem ab7(hg:σ.get r=some (cN L m))(hL:dv L.length=true)(S:k9 mac l L m)(hr:r<σ.next){w:ac}{b:Bool}(hw:okW w=true)(e:Dx l 0 (dh 32 [] w)=some b):
  oO [.ref r,.str w] σ=some (.bool b,bif b then((sW σ w).alloc (.lst ((dh 32 [] w).map .str))).set r (cN L (m+(dh 32 [] w).length))else sW σ w):=aE hw fun hw1 hw2=>by
 have h:=PB hg hL S hr hw e
 have hg':(sW σ w).get r=some (cN L m):=(Je hr).trans hg
 show ob (oV [.ref r,.str w] σ) ig=_
 cases b
 ·simp only[oV,qR,c9,jW,qB,lP,eB,bd,kC,o0,fc,mP,ae,af,aX,bZ,rH hg,cp,cg,h,iK,fi,d6,dU,dB,gp]
 ·have hg2:((sW σ w).alloc (.lst ((dh 32 [] w).map .str))).get r=some (cN L m):=by
   rw[AS.get_alloc,if_neg (show r≠(sW σ w).next from ci (cG hr))];exact hg'
  have hlen:eN [.ref (sW σ w).next] ((sW σ w).alloc (.lst ((dh 32 [] w).map .str)))=some (.int (.ofNat (dh 32 [] w).length),(sW σ w).alloc (.lst ((dh 32 [] w).map .str))):=by
   show ob (ob (((sW σ w).alloc _).get (sW σ w).next) _) _=_
   rw[b7]
   show(bif dv (eP ((dh 32 [] w).map AV.str))then _ else none)=_
   rw[ib,aS,hw2];rfl
  simp only[oV,qR,c9,jW,qB,lP,eB,bd,kC,o0,fc,mP,ae,af,aX,bZ,rH hg,cp,cg,h,iK,eo,fz,d6,dU,dB,dz,gp,xW,jB,fV,oX hg',d9,XN,Yh hw1,hlen,Nn,Jg hg2]
end
section
variable{σ:AS}{r m:Nat}{L l:aa}{mac:List Nat->List AV}
theorem vJ{F:aW}{args:aa}{a:AV}(h:ug F args=some a)(σ:AS):wz F args σ=some (a,σ):=jf h
theorem akx(hg:σ.get r=some (cN L m))(hL:dv L.length=true)(S:k9 mac l L m){t w d n:AV}(e1:qC l 0 pN=some true)(e2:jF l 0=some (some t))(e3:pz 1 t=some w)
  (e4:ug iw [w]=some d)(e5:ug lA [d]=some (.bool true))(e6:ug n6 [d]=some n)(hd:bQ d=false):np [.ref r] σ=some (n,σ.set r (cN L (m+1))):=by
 have h:il [.ref r,.str [110,117,109,98,101,114]] σ=some (.bool true,σ):=lH hg hL S e1
 have hp:hV [.ref r] σ=some (t,σ):=s6 hg hL S e2
 show ob (rA [.ref r] σ) ig=_
 simp only[rA,eZ,gg,c9,jW,GS,qB,lP,eB,bd,kC,o0,fc,hd,ae,af,aX,bZ,rH hg,cp,cg,dU,h,iK,eo,fi,fz,dz,dB,fy,d9,fV,hp,(jX (σ:=σ) e3).1,vJ e4,vJ e5,vJ e6,si,sj,putN,xW,jB,oX hg,OK,Jg hg,d6,gp]
theorem adL(hg:σ.get r=some (cN L m))(hL:dv L.length=true)(S:k9 mac l L m){t w:AV}{b:List UInt8}(e1:qC l 0 X0=some true)(e2:jF l 0=some (some t))(e3:pz 1 t=some w)
  (e4:ug io [w]=some (.bytes b)):l9 [.ref r] σ=some (.bytes b,σ.set r (cN L (m+1))):=by
 have h:il [.ref r,.str [108,105,116,101,114,97,108]] σ=some (.bool true,σ):=lH hg hL S e1
 have hp:hV [.ref r] σ=some (t,σ):=s6 hg hL S e2
 show ob (p8 [.ref r] σ) ig=_
 simp only[p8,eZ,gg,c9,jW,ft,qB,lP,eB,bd,kC,o0,fc,ao3,ae,af,aX,bZ,rH hg,cp,cg,dU,h,iK,eo,fz,dz,dB,fy,d9,fV,hp,(jX (σ:=σ) e3).1,vJ e4,ahr,adu,si,sj,putN,xW,jB,oX hg,OK,Jg hg,d6,gp]
theorem abq(hg:σ.get r=some (cN L m))(hL:dv L.length=true):kZ [.ref r] σ=some (.bool (!bp m L.length),σ):=by
 show ob (oT [.ref r] σ) ig=_
 simp only[oT,c9,d6,wx,ft,fV,bd,kC,fc,ae,aX,bZ,oX hg,Ir hg,d9,cp,cg,xJ hL,anO,dB,gp]
theorem k9.lt(S:k9 mac l L m){t:AV}(e:jF l 0=some (some t)):L[m]? =some t:=by
 obtain⟨pre,h1,h2⟩:=S.2
 rw[h2,<- h1,kv (ax _),Be,QD S.1 e]
theorem an5(hm:m<L.length):TX [.int (.ofNat m),.int (am L.length-1)] σ=some (.int (.ofNat m),σ):=by
 obtain⟨j,hj⟩:=Nat.exists_eq_add_of_lt hm
 rw[hj,show am (m+j+1)-1=am (m+j) from Ba (m+j:Nat) 1]
 show some (AV.int (bif bp (m+j) m then am (m+j)else am m),σ)=_
 rw[Y2 (cQ m j)];rfl
theorem agM(hg:σ.get r=some (cN L m))(hL:dv L.length=true)(S:k9 mac l L m){t w:AV}{x:ac}(e2:jF l 0=some (some t))(e3:pz 4 t=some w):nk [.ref r,.str x] σ=some (.opq,σ):=by
 have hat:=S.lt e2
 have hm:=(cL.mp hat).1
 have ht:qG σ (.lst L)=some true:=by
  show(bif dv L.length then some (!L.isEmpty)else none)=_
  rw[hL]
  cases L with
  |nil=>exact absurd hm (ik _)
  |cons=>rfl
 have hs:bT .Sub (.int (.ofNat L.length)) (.int 1) σ=some (.int (am L.length-1),σ):=rfl
 have hix:=IJ (σ:=σ) (fN (au (iW hm) (jJ hL))) hat
 have ho: ∀a b,VV [a,b] σ=some (.opq,σ):=fun _ _=>rfl
 show ob (rz [.ref r,.str x] σ) ig=_
 simp only[rz,c9,jW,qB,eo,fz,dz,d6,wt,lP,jB,fV,bd,kC,o0,fc,mP,ae,af,aX,bZ,Ir hg,oX hg,ht,d9,cp,cg,xJ hL,dU,hs,an5 hm,hix,(jX (σ:=σ) e3).1,ho,dB,gp]
end
section
variable{C:PC}{kF:Nat}{f:ah}{mac:List Nat->List AV}{bx:List Nat->List AV->List Nat}{VB:AV->Prop}
structure p7(C:PC)(mac:List Nat->List AV)(bx:List Nat->List AV->List Nat)(VB:AV->Prop):Prop where
 mac0:mac []=[]
 rdr: ∀l c,C.conc 1021 l c↔lF mac l c
 bx2: ∀m d vs,bx [m,d] vs=[m,d]
 bag: ∀l c,C.conc 0 l c↔afF bx VB l c
theorem eg{σ:AS}{r:Nat}{eL c:bF}(h:σ.get r=some eL):(σ.set r c).get r=some c:=by rw[AS.get_set,if_pos rfl,h];rfl
theorem s9{σ:AS}{r b:Nat}{c:bF}(h:b≠r):(σ.set r c).get b=σ.get b:=by rw[AS.get_set,if_neg h]
theorem bV{l l':aa}:aN (l++l')=(aN l&&aN l'):=by
 induction l with
 |nil=>rfl
 |cons a l ih=>exact(congrArg (noRef a&& ·) ih).trans (Bool.and_assoc ..).symm
theorem LU{l:aa}{j:Nat}(h:aN l=true):aN (l.take j)=true/\aN (l.drop j)=true:=by
 rw[<- jP j l,bV]at h
 exact aE h g8
theorem vD{σ:AS}{l:aa}{r:Nat}{c eL:bF}(h:lF mac l c)(m0:mac []=[])(hg:σ.get r=some eL): ∃L m,(σ.set r c).get r=some (cN L m)/\c=cN L m/\dv L.length=true/\k9 mac l L m/\m+(xp mac l).length=L.length/\
  ∀j l',rF l j=some l'->lF mac l' (cN L (m+j)):=by
 obtain⟨w,pre,h1,h2,h3,rfl⟩:=h
 refine⟨_,_,eg hg,rfl,by rw[ao];exact h1,⟨m0,pre,rfl,rfl⟩,ao.symm,fun j l' e=> ?_⟩
 obtain⟨d1,d2,d3⟩:=acP m0 w e
 have hl:(pre++(xp mac l).take j).length=pre.length+j:=by rw[ao,j8,HK d2]
 refine⟨d3,pre++(xp mac l).take j,?_,?_,?_,?_⟩
 ·rw[hl,d1,gU,ky,A1 d2];exact h1
 ·rw[bV,h2,(LU h3).1];rfl
 ·rw[d1];exact(LU h3).2
 ·rw[hl,d1,aB,jP]
theorem ub(O:p7 C mac bx VB){F F':aW}(hF:aF C kF f F)(H: ∀args σ a ai,F' args σ=some (a,ai)-> ∃r l,σ.get r=some (.orc 1021 l)/\ai=σ/\
  ∀jx L m,jx.get r=some (cN L m)->dv L.length=true->k9 mac l L m->m+(xp mac l).length=L.length->F args jx=some (a,jx)):aF C kF f F':=uC hF fun args σ a ai e=>by
 obtain⟨r,l,hr,rfl,H⟩:=H args σ a ai e
 refine⟨r,1021,l,hr,fun c hc hlt=> ?_⟩
 obtain⟨L,m,h1,h2,h3,h4,h5,h6⟩:=vD ((O.rdr _ _).mp hc) O.mac0 hr
 refine⟨_,c,1021,l,H _ L m h1 h3 h4 h5,h2▸h1,hc,ax _,fun b d q=> ?_⟩
 by_cases z:b=r
 ·exact .inl ⟨z,aG (q.symm.trans (z▸hr))⟩
 ·exact .inr ⟨z,(s9 z).trans q⟩
theorem YW{σ ay:AS}{r:Nat}{c' eL:bF}(hr:σ.get r=some eL)(h: ∀b d,b≠r->σ.get b=some d->ay.get b=some d)(b:Nat)(d:bF)(q:(σ.set r c').get b=some d):(b=r/\d=c')\/(b≠r/\ay.get b=some d):=by
 by_cases z:b=r
 ·subst z;rw[eg hr]at q;exact .inl ⟨rfl,(aG q).symm⟩
 ·rw[s9 z]at q;exact .inr ⟨z,h b d z q⟩
theorem zb(O:p7 C mac bx VB){F F':aW}(hF:aF C kF f F)(H: ∀args σ a ai,F' args σ=some (a,ai)-> ∃r l j l',σ.get r=some (.orc 1021 l)/\rF l j=some l'/\ai=σ.set r (.orc 1021 l')/\
  ∀jx L m,jx.get r=some (cN L m)->dv L.length=true->k9 mac l L m->F args jx=some (a,jx.set r (cN L (m+j)))):aF C kF f F':=uC hF fun args σ a ai e=>by
 obtain⟨r,l,j,l',hr,hd,rfl,H⟩:=H args σ a ai e
 refine⟨r,1021,l,hr,fun c hc hlt=> ?_⟩
 obtain⟨L,m,h1,h2,h3,h4,h5,h6⟩:=vD ((O.rdr _ _).mp hc) O.mac0 hr
 exact⟨_,cN L (m+j),1021,l',H _ L m h1 h3 h4,eg h1,(O.rdr _ _).mpr (h6 _ _ hd),ax _,YW hr fun b d z q=>by rw[s9 z,s9 z];exact q⟩
theorem zc{F:aW}{args:aa}{σ:AS}{r:Nat}{l:aa}{a b:AV}{ai:AS}(hr:σ.get r=some (.orc 1021 l))(e:some (b,σ)=some (a,ai))(H: ∀jx L m,jx.get r=some (cN L m)->dv L.length=true->k9 mac l L m->m+(xp mac l).length=L.length->F args jx=some (b,jx)):
  ∃r l,σ.get r=some (.orc 1021 l)/\ai=σ/\ ∀jx L m,jx.get r=some (cN L m)->dv L.length=true->k9 mac l L m->m+(xp mac l).length=L.length->F args jx=some (a,jx):=by
 apply s2 e;exact⟨r,l,hr,rfl,H⟩
theorem Qo{F:aW}{args:aa}{σ:AS}{r j:Nat}{l l':aa}{a b:AV}{ai:AS}(hr:σ.get r=some (.orc 1021 l))(hd:rF l j=some l')(e:some (b,σ.set r (.orc 1021 l'))=some (a,ai))(H: ∀jx L m,jx.get r=some (cN L m)->dv L.length=true->k9 mac l L m->F args jx=some (b,jx.set r (cN L (m+j)))):
  ∃r l j l',σ.get r=some (.orc 1021 l)/\rF l j=some l'/\ai=σ.set r (.orc 1021 l')/\ ∀jx L m,jx.get r=some (cN L m)->dv L.length=true->k9 mac l L m->F args jx=some (a,jx.set r (cN L (m+j))):=by
 apply s2 e;exact⟨r,l,j,l',hr,hd,rfl,H⟩
theorem U5(o:Option AV):((od o some (some .none)).getD .none)=o.getD .none:=by cases o<;>rfl
theorem X7(O:p7 C mac bx VB)(hF:aF C kF f hV):aF C kF f H6:=ub O hF fun args σ a ai e=>nV e fun r as l hr e=>aae e
 (fun e=>oE e fun o ho e=>zc hr e fun jx L m hg hL S _=>by rw[U5];exact s6 hg hL S ho) fun k e=>oE e fun o ho e=>zc hr e fun jx L m hg hL S _=>by rw[U5];exact s6 hg hL S ho
theorem Ql(O:p7 C mac bx VB)(hF:aF C kF f il):aF C kF f Lj:=ub O hF fun args σ a ai e=>nV e fun r as l hr e=>KV e fun w bs e=>aae e
 (fun e=>oE e fun b e1 e=>zc hr e fun jx L m hg hL S _=>lH hg hL S e1) fun k e=>oE e fun b e1 e=>zc hr e fun jx L m hg hL S _=>lH hg hL S e1
theorem Qm(O:p7 C mac bx VB)(hF:aF C kF f jq):aF C kF f Lk:=ub O hF fun args σ a ai e=>nV e fun r as l hr e=>KV e fun w bs e=>aae e
 (fun e=>oE e fun b e1 e=>zc hr e fun jx L m hg hL S _=>G9 hg hL S e1) fun k e=>oE e fun b e1 e=>zc hr e fun jx L m hg hL S _=>G9 hg hL S e1
theorem Qk(O:p7 C mac bx VB)(hF:aF C kF f kZ):aF C kF f vg:=ub O hF fun args σ a ai e=>nV e fun r as l hr e=>Ac e fun e=>oE e fun o ho e=>by
 have ho:=fun h=>QD (mac:=mac) h ho
 cases o with
 |some t=>
  exact zc hr e fun jx L m hg hL S hlen=>by
   have h:=(cL.mp (ho O.mac0)).1
   rw[abq hg hL,GV (by rw[<- hlen];exact uS h)];rfl
 |none=>
  exact zc hr e fun jx L m hg hL S hlen=>by
   have h:=QU.mp (List.getElem?_eq_none_iff.mp (ho O.mac0))
   rw[abq hg hL,Y2 (by rw[<- hlen,h];exact ax _)];rfl
theorem Vo(O:p7 C mac bx VB)(hF:aF C kF f nk):aF C kF f RX:=ub O hF fun args σ a ai e=>nV e fun r as l hr e=>KV e fun x bs e=>Ac e fun e=>oE e fun o ho e=>oE (o:=o) e fun t ht e=>oE e fun w hw e=>
 zc hr e fun jx L m hg hL S _=>agM hg hL S (ht▸ho) hw
theorem X9(O:p7 C mac bx VB)(hF:aF C kF f oP):aF C kF f VX:=zb O hF fun args σ a ai e=>nV e fun r as l hr e=>Ac e fun e=>oE e fun o ho e=>oE (o:=o) e fun t ht e=>oE e fun l' hd e=>
 Qo hr hd e fun jx L m hg hL S=>let⟨c,ks,vs,h⟩:=aak (k:=0) (ht▸ho);amm hg hL S (ht▸ho) (h▸rfl) (h▸rfl)
theorem Ev{σ:AS}{r:Nat}{c:bF}(h:σ.get r=some c):σ.set r c=σ:=congrArg (AS.mk σ.next) (Tp _ _ _ h)
theorem KQ(O:p7 C mac bx VB)(hF:aF C kF f jH):aF C kF f Fg:=zb O hF fun args σ a ai e=>nV e fun r as l hr e=>KV e fun w bs e=>Ac e fun e=>oE e fun b hb e=>bE e
 (fun z e=>oE e fun l' hd e=>Qo hr hd e fun jx L m hg hL S=>Jh hg hL S (z▸hb)) fun z e=>Qo (j:=0) hr (LF l) ((congrArg (fun σ=>some (AV.bool false,σ)) (Ev hr)).trans e) fun jx L m hg hL S=>(Jh hg hL S (z▸hb)).trans (congrArg (fun σ=>some (AV.bool false,σ)) (Ev hg).symm)
theorem Yu{β:Type}{l:aa}{w:ac}{f:AV->List AV->Option β}{x:β}{P:Prop}(e:VA l w f=some x)(kk: ∀t v l',qC l 0 w=some true->jF l 0=some (some t)->pz 1 t=some v->rF l 1=some l'->f v l'=some x->P):P:=
 oE e fun b hb e=>kS e fun z e=>oE e fun o ho e=>oE (o:=o) e fun t ht e=>oE e fun v hv e=>oE e fun l' hd e=>kk t v l' (z▸hb) (ht▸ho) hv hd e
theorem aaN{d:AV}(h:ug lA [d]=some (.bool true)):bQ d=false:=by
 cases d<;>first|rfl|exact nn h
theorem Vp(O:p7 C mac bx VB)(hF:aF C kF f np):aF C kF f (RY iw lA n6):=zb O hF fun args σ a ai e=>nV e fun r as l hr e=>Ac e fun e=>Yu e fun t v l' hk ht hv hd e=>oE e fun d h1 e=>oE e fun b h2 e=>afa e fun hb e=>oE e fun n h3 e=>
 Qo hr hd e fun jx L m hg hL S=>akx hg hL S hk ht hv h1 (hb▸h2) h3 (aaN (hb▸h2))
theorem RE(O:p7 C mac bx VB)(hF:aF C kF f l9):aF C kF f (N5 io):=zb O hF fun args σ a ai e=>nV e fun r as l hr e=>Ac e fun e=>Yu e fun t v l' hk ht hv hd e=>oE e fun x h1 e=>acC e fun b hb e=>
 Qo hr hd e fun jx L m hg hL S=>adL hg hL S hk ht hv (hb▸h1)
theorem QF{F:aW}{args:aa}{σ:AS}{r:Nat}{l:aa}{a:AV}{w:ac}(O:p7 C mac bx VB)(hr:σ.get r=some (.orc 1021 l))(H: ∀jx L m,jx.get r=some (cN L m)->dv L.length=true->k9 mac l L m->r<jx.next->F args jx=some (a,sW jx w)):
  ∃r kk l,σ.get r=some (.orc kk l)/\ ∀c,C.conc kk l c->(∀b d,σ.get b=some d->b<σ.next)-> ∃ay Cj SS bv,F args (σ.set r c)=some (a,ay)/\ay.get r=some Cj/\C.conc SS bv Cj/\ay.next<=(⟨σ.next+1,σ.cells⟩:AS).next/\
   ∀b d,(⟨σ.next+1,σ.cells⟩:AS).get b=some d->(b=r/\d= .orc SS bv)\/(b≠r/\ay.get b=some d):=by
 refine⟨r,1021,l,hr,fun c hc hlt=> ?_⟩
 obtain⟨L,m,h1,h2,h3,h4,h5,h6⟩:=vD ((O.rdr _ _).mp hc) O.mac0 hr
 refine⟨_,c,1021,l,H _ _ _ h1 h3 h4 (hlt _ _ hr),((Je (σ:=σ.set r c) (hlt _ _ hr)).trans h1).trans (congrArg some h2.symm),hc,ax _,fun b d q=> ?_⟩
 have q:σ.get b=some d:=q
 by_cases z:b=r
 ·exact .inl ⟨z,aG (q.symm.trans (z▸hr))⟩
 ·exact .inr ⟨z,(Je (σ:=σ.set r c) (hlt _ _ q)).trans ((s9 z).trans q)⟩
theorem Qn(O:p7 C mac bx VB)(hF:aF C kF f jr):aF C kF f Ll:=uC hF fun args σ a ai e=>nV e fun r as l hr e=>KV e fun w bs e=>Ac e fun e=>kS e fun hw e=>oE e fun b e1 e=>by
 apply s2 e
 exact QF O hr fun jx L m hg hL S hr=>PB hg hL S hr hw e1
theorem X8(O:p7 C mac bx VB)(hF:aF C kF f oO):aF C kF f VW:=uC hF fun args σ a ai e=>nV e fun r as l hr e=>KV e fun w bs e=>Ac e fun e=>kS e fun hw e=>oE e fun b e1 e=>bE e
 (fun z e=>oE e fun l' hd e9=>by
  subst z
  apply s2 e9
  refine⟨r,1021,l,hr,fun c hc hlt=> ?_⟩
  obtain⟨L,m,h1,h2,h3,h4,h5,h6⟩:=vD ((O.rdr _ _).mp hc) O.mac0 hr
  have hs: ∀{b:Nat},b<σ.next->((sW (σ.set r c) w).alloc (.lst ((dh 32 [] w).map .str))).get b=(σ.set r c).get b:=fun{b} h=>by
   rw[AS.get_alloc,if_neg (show b≠(sW (σ.set r c) w).next from ci (cG h))];exact Je (σ:=σ.set r c) h
  exact⟨_,cN L (m+(dh 32 [] w).length),1021,l',ab7 h1 h3 h4 (hlt _ _ hr) hw e1,eg ((hs (hlt _ _ hr)).trans h1),(O.rdr _ _).mpr (h6 _ _ hd),ax _,
   YW hr fun b d z q=>(s9 (σ:=(sW (σ.set r c) w).alloc _) z).trans ((hs (hlt _ _ q)).trans ((s9 z).trans q))⟩) fun z e9=>by
  subst z
  apply s2 e9
  exact QF O hr fun jx L m hg hL S hr=>ab7 hg hL S hr hw e1
theorem zr{F:aW}(hF:aF C kF f F):aF C kF f (wz F):=aas (i9 (pick:=fun _ _=>[]) hF) fun args σ a ai e=>oE e fun b h e=>kS h fun hr h=>fG h fun xr ay e1 h=>kS h fun ha h=>by
 apply s2 e
 apply s1 h
 show(bif aN args then bu (F args ⟨0,[]⟩) _ else none)=_
 rw[hr,e1]
 show ob (ux _ xr) _=_
 rw[ue ha];rfl
end
section
variable{k:Nat}{C:PC}{W W' W'':Wd}{σ ai:AS}{h h':bH}
theorem ZK{ay:AS}{cq:Wd}{x:Nat}{c:Nat}{ks:ac}{fs fs':aa}{p:aC×aC}{es:List g9}{m:Nat}{vs:List ah}(R:cu C W σ h)(hg:σ.get x=some (.inst c ks fs))(hp:W.ρ x=some p)(hpr:W.pr p.2=none)(hi:W.im p.2=none)(q0:C.cls c=true)(q1:W.im p.1=some (instObj c p.2))(q2:h.get? p.2=some (dictOf es m))(q3:oM C ks vs es)
  (g2:Gh W (σ.drop x) cq ay)(R2:cu C cq ay h)(z2:VL C cq fs' vs):cu C cq ⟨ay.next,(x,.inst c ks fs')::ay.cells⟩ h:=by
 have hx: ∀b c,(σ.drop x).get b=some c->b≠x/\σ.get b=some c:=fun b c e=>by
  rw[AS.get_drop]at e
  by_cases z:b=x
  ·rw[if_pos z]at e;exact nn e
  ·rw[if_neg z]at e;exact⟨z,e⟩
 have hp2:cq.ρ x=some p:=by rw[g2.ρ];exact hp
 have hi2:cq.im p.2=none:=by
  cases z:cq.im p.2 with
  |none=>rfl
  |some o=>
   obtain⟨b,c',p',h1,h2,h3⟩:=g2.im _ _ hi z
   obtain⟨n1,n2⟩:=hx _ _ h1
   exact absurd (R.inj _ _ _ _ _ _ n2 hg h2 hp h3) n1
 have look: ∀b c',AS.get ⟨ay.next,(x,.inst c ks fs')::ay.cells⟩ b=some c'->(b=x/\c'= .inst c ks fs')\/(b≠x/\ay.get b=some c'):=fun b c' e=>by
  by_cases z:b=x
  ·subst z;exact .inl ⟨rfl,(aG (ahH.symm.trans e)).symm⟩
  ·exact .inr ⟨z,(ahI z).symm.trans e⟩
 refine⟨R2.base,R2.im,R2.pr,R2.dis,R2.fresh,fun b c' e=> ?_,fun b b' cb cb' pb pb' e e' ep ep' hpp=> ?_⟩
 ·rcases look b c' e with⟨rfl,rfl⟩|⟨h1,h2⟩
  ·exact⟨p,hp2,⟨q0,g2.le.2.1 _ _ q1,es,m,vs,q2,z2,q3⟩,hi2,by rw[g2.le.2.2];exact hpr⟩
  ·exact R2.cell _ _ h2
 ·have old: ∀b c',AS.get ⟨ay.next,(x,.inst c ks fs')::ay.cells⟩ b=some c'-> ∃c'',σ.get b=some c'':=fun b c' e=>(look b c' e).elim (fun h=>⟨_,h.1▸hg⟩) fun h=>⟨_,(hx _ _ (g2.sub _ _ h.2)).2⟩
  obtain⟨d,e⟩:=old b cb e
  obtain⟨d',e'⟩:=old b' cb' e'
  exact R.inj _ _ _ _ _ _ e e' (by rw[<- g2.ρ];exact ep) (by rw[<- g2.ρ];exact ep') hpp
theorem W7{sel:Nat->Bool}(n:Nat)(W:Wd)(σ:AS)(a:AV)(v:ah)(R:cu C W σ h)(q:V C W a v): ∃W',W.le W'/\cu C W' (Pn sel n a σ).2 h/\V C W' (Pn sel n a σ).1 v:=by
 unfold Pn
 generalize e:ia a _=o
 cases o with
 |none=>exact⟨W,.refl _,R,q⟩
 |some r=>
  show ∃W',W.le W'/\cu C W' r.2 h/\V C W' r.1 v
  revert q
  refine ip e fun x e=>instE e fun c ks fs hg e=> ?_
  apply s1 e
  intro q
  obtain⟨p,hp,rfl⟩:=q
  obtain⟨p',e',⟨q0,q1,es,m,vs,q2,r,q3⟩,hi,hpr⟩:=R.cell _ _ hg
  rw[hp]at e';cases e'
  obtain⟨cq,g2,R2,z2⟩:=LS (sel:=sel) (Cs (sel:=sel) n) ks fs W (σ.drop x) vs (R.drop x) r
  exact⟨cq,g2.le,ZK R hg hp hpr hi q0 q1 q2 q3 g2 R2 z2,p,g2.le.1 _ _ hp,rfl⟩
theorem Tm{kF:Nat}{f:ah}{F:aW}{g:AV->AS->AV×AS}(hg: ∀h W σ a v,cu C W σ h->V C W a v-> ∃W',W.le W'/\cu C W' (g a σ).2 h/\V C W' (g a σ).1 v)(hF:aF C kF f F):aF C kF f (I2 g F):=fun A R W σ s args vs Re hv tk a ai e=>fG e fun b ay e1 e=>by
 refine ek (hF A R W σ s args vs Re hv tk b ay e1) fun v s' ⟨hs,W',le,R',hv'⟩=> ?_
 obtain⟨cq,l2,R2,v2⟩:=hg _ _ _ _ _ R' hv'
 rw[show g b ay=(a,ai) from aG e]at R2 v2
 exact⟨hs,cq,le.trans l2,R2,v2⟩
theorem Hs{kF n:Nat}{sel:Nat->Bool}{f:ah}{F:aW}(hF:aF C kF f F):aF C kF f (I2 (t6 sel n) F):=Tm (fun h W σ a v R q=>let⟨W',g,R',v'⟩:=Cs n W σ a v R q;⟨W',g.le,R',v'⟩) hF
theorem Ht{kF n:Nat}{sel:Nat->Bool}{f:ah}{F:aW}(hF:aF C kF f F):aF C kF f (I2 (Pn sel n) F):=Tm (fun h W σ a v R q=>W7 n W σ a v R q) hF
end
section
variable{C:PC}{kF:Nat}{f:ah}{mac:List Nat->List AV}{bx:List Nat->List AV->List Nat}{VB:AV->Prop}
theorem Va{a:AV}{Q:AV->Prop}(h:(mN a fun c _ _=>some (!aj c 0)).getD false=true)(kk: ∀c ks vs,aj c 0=false->Q (.frz c ks vs)):Q a:=by
 cases a with
 |frz c ks vs=>exact kk c ks vs (pc h)
 |_=>exact ff h
theorem TB{l:aa}:cZ l=true->xp mac l=l/\uX mac l:=by
 induction l with
 |nil=>exact fun _=>⟨rfl,trivial⟩
 |cons a l ih=>
  refine fun h=>aE (show((mN a fun c _ _=>some (!aj c 0)).getD false&&cZ l)=true from h) fun h1 h2=>Va (Q:=fun a=>xp mac (a::l)=a::l/\uX mac (a::l)) h1 fun c ks vs h1=> ?_
  obtain⟨i1,i2⟩:=ih h2
  refine⟨?_,fun z=> ?_,i2⟩
  ·rw[EA,h1,i1];rfl
  ·have z:(aj c 0&&Cx ks)=true:=z
   rw[h1]at z;exact ff z
@[elab_as_elim] theorem als {vs:aa} {L:aa} {Q:List AV->Prop} (h:ZM vs=some L) (kk: ∀x y,Q [.lst L,.int (.ofNat 0),x,y]):Q vs:=
 kD h fun a r h=>kD (Q:=fun r=>Q (a::r)) h fun b r h=>akR (Q:=fun a=>Q (a::b::r)) h fun L' h=>mc (Q:=fun b=>Q (.lst L'::b::r)) h fun n h=>kS h fun z h=>Kl (Q:=fun r=>Q (.lst L':: .int (.ofNat n)::r)) h fun x y h=>
  s1 (P:=fun L=>(∀x y,Q [.lst L,.int (.ofNat 0),x,y])->Q [.lst L',.int (.ofNat n),x,y]) h (fun kk=>by rw[aD z];exact kk x y) kk
theorem aej(O:p7 C mac bx VB){F:aW}(hF:aF C kF f F):aF C kF f (amZ F):=fun A R W σ s args vs Re hv tk a ai e=>fG e fun b ay e1 e=>by
 revert e1
 refine ip e fun x e=>instE e fun c ks fs hc e=>kS e fun z e=>oE e fun L hL e=>kS e fun q e e1=> ?_
 apply s2 e
 obtain⟨z1,z2⟩:=aE z g8
 rw[oa,decide_eq_true_iff]at z2
 obtain⟨q,h3⟩:=aE q g8
 obtain⟨h1,h2⟩:=aE q g8
 obtain⟨xl,xw⟩:=TB (mac:=mac) h3
 refine ek (hF A R W σ s args vs Re hv tk _ ay e1) fun v s' ⟨hs,W',le,R',hv'⟩=> ?_
 obtain⟨p,a1,⟨q0,q1,es,n,vs,q2,r,q3⟩,_⟩:=R'.cell _ _ hc
 have r4:VL C W' [.lst L,.int (.ofNat 0),.opq,.opq] vs:=als (Q:=fun fs=>VL C W' fs vs->VL C W' [.lst L,.int (.ofNat 0),.opq,.opq] vs) hL (fun x y r=>r.consE fun v1 r1 z1 r=>r.consE fun v2 r2 z2 r=>r.consE fun v3 r3 _ r=>r.consE fun v4 r4 _ r=>.cons z1 (.cons z2 (.cons trivial (.cons trivial r)))) r
 rw[aD z1]at q0 q1
 rw[z2]at q3
 exact⟨hs,W',le,R'.set hc a1 (fun _ _ _ e=>e) ⟨cN L 0,(O.rdr _ _).mpr ⟨xw,[],by rw[xl,HG,hJ];exact h1,rfl,by rw[xl];exact h2,by rw[xl];rfl⟩,q0,q1,es,n,vs,q2,r4,q3⟩,hv'⟩
theorem akc{σ:AS}{x m:Nat}{b:Int}(hg:σ.get x=some (.lst [.int b]))(hm:0<m)(hs:bp m 1000=true):yO [.ref x,.int (.ofNat m)] σ=some (.int (b.fmod (am m)),σ.set x (.lst [.int (b.fdiv (am m))])):=by
 obtain⟨j,rfl⟩:=Nat.exists_eq_succ_of_ne_zero (oF hm)
 have h1:mu (am (j+1))=true:=fY (au (iW (cX.mp hs)) (by decide +kernel))
 have hi:fM (.ref x) (.int 0) σ=some (.int b,σ):=jf (show abH (.ref x) (.int 0) σ=some (.int b) from jf (show nw σ (.ref x)=some [.int b] from jf hg))
 have e1:bT .Mod (.int b) (.int (.ofNat (j+1))) σ=some (.int (b.fmod (am (j+1))),σ):=rfl
 have e2:bT .FloorDiv (.int b) (.int (.ofNat (j+1))) σ=some (.int (b.fdiv (am (j+1))),σ):=by
  show od (bif false|| !mu (am (j+1))then none else _) _ _=_
  rw[h1];rfl
 have hset:KN (.int (b.fdiv (am (j+1)))) (.ref x) (.int 0) σ=some (σ.set x (.lst [.int (b.fdiv (am (j+1)))])):=jf hg
 show ob (yR [.ref x,.int (.ofNat (j+1))] σ) ig=_
 simp only[yR,c9,fy,jB,bd,kC,o0,fc,lQ,ae,aX,bZ,dU,hi,e1,dz,si,sj,putN,Qf,e2,hset,d6,dB,gp]
@[elab_as_elim] theorem apq {β:Type} {a:AV} {Q:AV->Prop} {f:Nat->Nat->Option β} {r:β} (h:drA a f=some r) (kk: ∀c m d vs,f m d=some r->Q (.frz c [m,d] vs)):Q a:=
 sS h fun c ks vs h=>kD (Q:=fun ks=>Q (.frz c ks vs)) h fun m l h=>kD (Q:=fun l=>Q (.frz c (m::l) vs)) h fun d l h=>kS h fun z h=>by rw[Px z];exact kk c m d vs h
theorem vP(O:p7 C mac bx VB)(hF:aF C kF f yO):aF C kF f Bk:=uC hF fun args σ a ai e=>Kl e fun a1 b1 e=>ip e fun x e=>mc e fun m e=>FK e fun kk l hg e=>kS e fun q0 e=>by
 rw[aD q0]at hg
 revert hg
 refine kD (Q:=fun l=>σ.get x=some (.orc 0 l)->_) e fun t r e=> ?_
 refine apq (Q:=fun t=>σ.get x=some (.orc 0 (t::r))->_) e fun eL m' d vs e=> ?_
 refine fun hg=>kS e fun q e=>aE q fun q hs=> ?_
 apply s2 e
 rw[<- aD q]at hg
 refine⟨x,0,_,hg,fun c hc hlt=> ?_⟩
 obtain⟨hv,b,rfl,h3⟩:=(O.bag _ _).mp hc
 rw[show xb bx (.frz eL [m,d] vs::r)=m::d::xb bx r from congrArg (· ++xb bx r) (O.bx2 m d vs)]at h3
 obtain⟨hm,hd,hr⟩:=h3
 have hg1:(σ.set x (.lst [.int b])).get x=some (.lst [.int b]):=eg hg
 exact⟨(σ.set x (.lst [.int b])).set x (.lst [.int (b.fdiv (am m))]),.lst [.int (b.fdiv (am m))],0,r,(akc hg1 hm hs).trans (by rw[hd]),eg hg1,(O.bag _ _).mpr ⟨fun a h=>hv a (aQ _ h),_,rfl,hr⟩,ax _,
  YW hg fun b d z q=>by rw[s9 z,s9 z];exact q⟩
theorem aed(O:p7 C mac bx VB){path:Int->List AV}(hp: ∀b,(∀a∈path b,VB a)/\cB (xb bx (path b)) b){F:aW}(hF:aF C kF f F):aF C kF f (afg path F):=fun A R W σ s args vs Re hv tk a ai e=>by
 revert hv
 refine Up e fun b e=> ?_
 refine ip e fun x e=>lstE e fun l hg e=> ?_
 revert hg
 refine Up e fun v e=> ?_
 refine lb e fun b e hg hv=> ?_
 exact hF A R W _ s [.ref x] vs (Re.abst hg ((O.bag _ _).mpr ⟨(hp b).1,b,rfl,(hp b).2⟩)) hv tk a ai e
end
noncomputable def tk(k w:ac)(c:Nat)(a:Bool):AV:=.frz Uy [2,1,4,28] [.str k,.str w,.tup [.int 1,.int (am c)],.bool a]
noncomputable def aqa:List Nat:=[112,105,99,116,117,114,101]
noncomputable def ww(a:Bool)(c:Nat):List (List Nat×List Nat×Nat)->List AV
 |[]=>[]
 |(k,w,n)::r=>tk k w c a::ww false (c+n) r
noncomputable def wd(w:ac):List Nat×List Nat×Nat:=(uA,w,w.length+1)
noncomputable def nu(w:ac):List Nat×List Nat×Nat:=(pN,w,w.length+1)
noncomputable def Ks:List Nat×List Nat×Nat:=(jh,[46],2)
noncomputable def nP(l:Nat):List Nat:=bif aj l 1 then[48,49]else bif aj l 5 then[48,53]else bif aj l 10 then[49,48]else[55,55]
noncomputable def Ry(p:Nat):List (List Nat×List Nat×Nat):=(d7 (xP p) fun s=>some [wd [80,73,67],(aqa,s,s.length+1)]).getD []
noncomputable def RK(w:Nat):List (List Nat×List Nat×Nat):=bif aj w 1 then[wd [85,83,65,71,69],wd [73,83],wd [80,65,67,75,69,68,45,68,69,67,73,77,65,76]]else[]
noncomputable def Rx(w:Nat):List (List Nat×List Nat×Nat):=bif aj w 2 then[wd [79,67,67,85,82,83],nu [51],wd [84,73,77,69,83],wd [68,69,83,67,69,78,68,73,78,71],wd [75,69,89],wd [73,83],wd [75],wd [73,78,68,69,88,69,68],wd [66,89],wd [73,88]]else bif aj w 3 then[wd [79,67,67,85,82,83],nu [48],wd [84,79],nu [52],wd [84,73,77,69,83],wd [68,69,80,69,78,68,73,78,71],wd [79,78],wd [78],wd [79,70],wd [71]]else[]
noncomputable def amO(lvl:Nat)(x:Nat×Nat×Nat)(a:Bool):List AV:=ww a (bif a then 8 else 12) (nu (nP lvl)::wd (nm x.1)::(Ry x.2.2++(RK x.2.1++(Rx x.2.1++[Ks]))))
noncomputable def kj(lvl:Nat)(x:Nat×Nat×Nat):List AV:=amO lvl x (bif aj lvl 1 then true else aj lvl 77)
noncomputable def fw(n:Nat):List AV:=ww false 12 [nu [56,56],wd ([73,83,45]++nm n),wd [86,65,76,85,69],(jh,[45],1),nu [53],wd [84,72,82,85],nu [49,46,50,53],(X0,[113],4),Ks]
noncomputable def gu(n l:Nat):List AV:=ww false 12 ([nu [54,54],wd (nm n),wd [82,69,78,65,77,69,83],wd (nm 16)]++((bif aj l 0 then[]else[wd [84,72,82,85],wd (nm 22)])++[Ks]))
noncomputable def kG(t:ac)(a:Bool):Option (List AV):=bu (rv [.str t,.bool a] ⟨0,[]⟩) fun x σ=>ia x fun x=>nh σ x some
noncomputable def uB(x:AV)(a:Bool):Option (List AV):=bu (Bt [x] ⟨0,[]⟩) fun t _=>d7 t fun t=>kG t a
noncomputable def vE(r n:Nat)(cells:List (Nat×bF))(x:Option (AV×AS)):Option (AV×AS):=bu x fun a ai=>sh ai 0 fun k' l'=>bif FI 0 (wy a ai)then none else imp (Xf r n (wy a ai)) (wy a ai) n (lm r (.orc k' l') cells) a ai
theorem t1(c k p:AV):uB (.frz b9 fT (.int (am 10)::j0 (16,2,1) c k p .none)) false=some (kj 10 (16,2,1)):=by kernel_rfl
theorem t2(r n cells rest):vE r n cells (lz [.ref 0] ⟨1,[(0,.orc 1021 (kj 10 (16,2,1)++rest))]⟩)=some (.ref (n+2),⟨n+3,(n,.lst [])::(n+1,.lst [])::(n+2,.inst b9 fT (.int (am 10)::j0 (16,2,1) (.ref n) (.ref (n+1)) .none .none))::lm r (.orc 1021 rest) cells⟩):=by kernel_rfl
section
open PySem.SeqAt
noncomputable section
noncomputable def y8(as:List aC)(h:bH):dQ:=as.filterMap fun a=>(h.get? a).map (a,·)
noncomputable def nsO(K:dQ)(x:Str)(f:Option ah->Bool):Bool:=Hk (nsIn K 3 x) f
noncomputable def M3(K:dQ)(x:Str)(v:ah):Bool:=nsO K x fun o=>decide (some v=o)
noncomputable def frB(K:dQ)(r:FR):Bool:=fnB K FN r.f r.n r.dfl r.nm r.N r.t&&(keepIn K (.ref r.f)&&bm (motive:=fun _=>Bool) true (fun x=>M3 K x (.ref r.f)) r.x)
noncomputable def crB(K:dQ)(r:CR):Bool:=makesIn K r.c&&(decide (findIn K (.ref r.c) "__init__"=some (some (.ref r.i)))&&(decide (typeIn K (.ref r.i)=some (.type "function"))&&(keepIn K (.ref r.c)&&(M3 K r.x (.ref r.c)&&(ct FN.length).all fun i=>Sh r.c i||Iq K r.c ((Ad FN i).getD "")))))
noncomputable def mrB(K:dQ)(r:MR):Bool:=plainGet K r.c r.x&&(decide (findIn K (.ref r.c) r.x=some (some (.ref r.f)))&&(decide (typeIn K (.ref r.f)=some (.type "function"))&&keepIn K (.ref r.f)))
noncomputable def grB(K:dQ)(r:GR):Bool:=nsO K r.x fun o=>Hk o fun v=>kV K v r.a
noncomputable def blB(K:dQ)(x:Str):Bool:=nsO K x (·.isNone)
noncomputable def PX(K:dQ)(x:Str):Bool:=nsO K x (·.isSome)
noncomputable def YX(K:dQ):Bool:=tW.all (frB K)&&(yV.all (crB K)&&(Kk.all (mrB K)&&(OO.all (grB K)&&(Un.all (blB K)&&(PX K "show_expression" &&(PX K "no_expression" &&(keepIn K (.ref 112)&&M3 K "GrammarFault" (.ref 112))))))))
structure rt(C:PC):Prop where
 ok:YX C.K=true
 nf:C.nf=FN.length
 fn: ∀i x,Ad FN i=some x->C.fname i=x
 cls: ∀r∈yV,C.cls r.c=true
 name: ∀l c,C.conc 1021 l c-> ∃vs,c= .inst 1021 [38,4,37,36] vs
 gf: ∀k,5<=k->aF C (k+1) (.ref 112) VV
 un:na C "USAGE_NAMES" Br
 uw:na C "USAGE_WORDS" tK
 rs:na C "RESERVED" ly
section
variable{C:PC}{k:Nat}
theorem CK{α:Type}{p:α->Bool}{l:List α}(h:l.all p=true){i:Nat}{r:α}(e:l[i]? =some r):p r=true:=bR.mp h r (a7 e)
theorem Z7{l:List Str}: ∀{i:Nat},i<l.length-> ∃x,Ad l i=some x/\x∈l:=by
 induction l with
 |nil=>exact fun h=>absurd h (ik _)
 |cons a l ih=>
  intro i h
  cases i with
  |zero=>exact⟨a,rfl,ba ..⟩
  |succ i=>exact(ih (mV h)).imp fun x h=>⟨h.1,aQ _ h.2⟩
theorem ahZ{l:List Str}: ∀{i:Nat} {x:Str},Ad l i=some x->i<l.length:=by
 induction l with
 |nil=>exact fun e=>nn e
 |cons a l ih=>
  intro i x e
  cases i with
  |zero=>exact gW _
  |succ i=>exact Nat.succ_lt_succ (ih e)
theorem ahY{x:Str}{r:Option ah}(e:nsIn C.K 3 x=some r):C.mg x=r:=by
 obtain⟨o,es,ep,h1,h2,h3,h4⟩:=C.g
 have h1:C.o4.get? 3=some o:=h1
 unfold nsIn at e
 split at e
 ·rename_i c d es' n sl ho
  have:=C.inK _ _ ho
  rw[h1]at this;cases this
  cases h2
  rw[<- h4]
  unfold nsFind findBy
  rw[<- Array.find?_toList]
  split at e
  ·rename_i en he;cases e;rw[he];rfl
  ·rename_i he
   rw[he]
   split at e
   ·cases e
   ·cases e;rfl
 ·cases e
theorem XB{x:Str}{f:Option ah->Bool}(h:nsO C.K x f=true){P:Prop}(kk: ∀o,C.mg x=o->f o=true->P):P:=LV h fun o ho h=>kk o (ahY ho) h
theorem I0{x:Str}{v:ah}(h:M3 C.K x v=true):C.mg x=some v:=XB h fun o ho h=>ho.trans (ag h).symm
section
variable(O:rt C)
include O
theorem rt.partE{P:Prop}(kk:tW.all (frB C.K)=true->yV.all (crB C.K)=true->Kk.all (mrB C.K)=true->OO.all (grB C.K)=true->Un.all (blB C.K)=true->PX C.K "show_expression"=true->PX C.K "no_expression"=true->keepIn C.K (.ref 112)=true->M3 C.K "GrammarFault" (.ref 112)=true->P):P:=
 aE O.ok fun h1 h=>aE h fun h2 h=>aE h fun h3 h=>aE h fun h4 h=>aE h fun h5 h=>aE h fun h6 h=>aE h fun h7 h=>aE h fun h8 h9=>kk h1 h2 h3 h4 h5 h6 h7 h8 h9
theorem rt.fno:RT C FN:=fun i x e=>⟨by rw[O.nf];exact ahZ e,O.fn i x e⟩
theorem rt.gr{i:Nat}{x:Str}{a:AV}(e:OO[i]? =some ⟨x,a⟩):na C x a:=O.partE fun _ _ _ h _ _ _ _ _=>XB (CK h e) fun o ho h=>LV h fun v hv h=>lN (ho.trans hv) fun W hW=>SP hW h
omit O in
theorem abY{x:Str}(h:PX C.K x=true):na C x .opq:=XB h fun o ho h=>(eW.mp h).elim fun v hv=>lN (ho.trans hv) fun W hW=>trivial
end
structure Cl(C:PC)(x:Str)(fv:ah):Prop where
 g:na C x (.glob fv)
 k:oL C fv
theorem rt.show(O:rt C):na C "show_expression" .opq:=O.partE fun _ _ _ _ _ h _ _ _=>abY h
theorem rt.noe(O:rt C):na C "no_expression" .opq:=O.partE fun _ _ _ _ _ _ h _ _=>abY h
section
variable(O:rt C)
include O
theorem rt.bl{i:Nat}{x:Str}{v:ah}(e:Un[i]? =some x)(hn:x≠ "__name__")(hv:bootBuiltins x=some v)(hk:oL C v):Cl C x v:=O.partE fun _ _ _ _ h _ _ _ _=>XB (CK h e) fun o ho h=>⟨To (ho.trans (dA.mp h)) hn hv,hk⟩
theorem rt.frE{i:Nat}{r:FR}(e:tW[i]? =some r){P:Prop}(kk:fnB C.K FN r.f r.n r.dfl r.nm r.N r.t=true->keepIn C.K (.ref r.f)=true->(∀x,r.x=some x->C.mg x=some (.ref r.f))->P):P:=O.partE fun h _ _ _ _ _ _ _ _=>aE (CK h e) fun h1 h=>aE h fun h2 h=>kk h1 h2 fun x hx=>by
 rw[hx]at h
 exact I0 h
theorem rt.cf{i:Nat}{r:FR}(e:tW[i]? =some r){x:Str}(hx:r.x=some x):Cl C x (.ref r.f):=O.frE e fun _ h2 h3=>⟨lN (h3 x hx) fun W _=>rfl,q6 h2⟩
theorem rt.cr{i:Nat}{r:CR}(e:yV[i]? =some r):Cl C r.x (.ref r.c)/\ ∀{F:aW},pK C k (.ref r.i) F->aF C (k+1) (.ref r.c) (ud r.c F):=O.partE fun _ h _ _ _ _ _ _ _=>aE (CK h e) fun h1 h=>aE h fun h2 h=>aE h fun h3 h=>aE h fun h4 h=>aE h fun h5 h6=>
 ⟨⟨lN (I0 h5) fun W _=>rfl,q6 h4⟩,fun hF=>aee h1 (ag h2) (ag h3) (O.cls _ (a7 e)) hF⟩
theorem rt.gfc:Cl C "GrammarFault" (.ref 112):=O.partE fun _ _ _ _ _ _ _ h1 h2=>⟨lN (I0 h2) fun W _=>rfl,q6 h1⟩
end
def YK(C:PC)(l:List (Str×AV)):Prop:= ∀g x a,pM l g=some (x,a)->na C x a
def N4(C:PC)(k:Nat)(l:List (Str×aW)):Prop:= ∀f x F,pM l f=some (x,F)-> ∃fv kF,na C x (.glob fv)/\oL C fv/\aF C kF fv F/\kF<=k
def YN(C:PC)(k:Nat)(l:List (Str×gK)):Prop:= ∀n x D,pM l n=some (x,D)-> ∃kF,dW C kF x D/\kF<=k
theorem g0:YK C []:=fun _ _ _ e=>nn e
theorem f0:N4 C k []:=fun _ _ _ e=>nn e
theorem m0:YN C k []:=fun _ _ _ e=>nn e
theorem Hj{α:Type}{p:Str×α}{l:List (Str×α)}{i:Nat}{x:Str}{a:α}{Q:Str->α->Prop}(e:pM (p::l) i=some (x,a))(h:Q p.1 p.2)(r: ∀i x a,pM l i=some (x,a)->Q x a):Q x a:=by
 cases i with
 |zero=>exact s2 (P:=Q) (a:=p.1) (b:=p.2) e h
 |succ i=>exact r i x a e
theorem g1{x:Str}{a:AV}{l:List (Str×AV)}(h:na C x a)(r:YK C l):YK C ((x,a)::l):=fun _ _ _ e=>Hj (Q:=na C) e h r
theorem f1{x:Str}{F:aW}{fv:ah}{kF:Nat}{l:List (Str×aW)}(c:Cl C x fv)(h:aF C kF fv F)(hk:kF<=k)(r:N4 C k l):N4 C k ((x,F)::l):=fun _ _ _ e=>Hj (Q:=fun x F=> ∃fv kF,na C x (.glob fv)/\oL C fv/\aF C kF fv F/\kF<=k) e ⟨fv,kF,c.g,c.k,h,hk⟩ r
theorem m1{x:Str}{D:gK}{kF:Nat}{l:List (Str×gK)}(h:dW C kF x D)(hk:kF<=k)(r:YN C k l):YN C k ((x,D)::l):=fun _ _ _ e=>Hj (Q:=fun x D=> ∃kF,dW C kF x D/\kF<=k) e ⟨kF,h,hk⟩ r
theorem anL(O:rt C){i:Nat}{r:FR}(e:tW[i]? =some r)(hk:5<=k){G:List (Str×AV)}{Fs:List (Str×aW)}{M:List (Str×gK)}(hN:cA.nms ⟨G,Fs,M⟩=r.N){Q:SM}(q:Q=b4 ⟨G,Fs,M⟩ r.t)(hG:YK C G)(hF:N4 C k Fs)(hM:YN C k M):
  pK C (k+1) (.ref r.f) (bf r.n r.dfl Q):=by
 subst q
 exact O.frE e fun h _ _=>adf hk O.fno (Γ:=⟨G,Fs,M⟩) ⟨hG,hF,hM⟩ (hN▸h)
theorem adg(O:rt C){x:Str}(h:FN.all (fun y=>y !=x)=true): ∀i,i<C.nf->C.fname i≠x:=fun i hi=>by
 rw[O.nf]at hi
 obtain⟨y,e,m⟩:=Z7 hi
 rw[O.fn i y e]
 exact bne_iff_ne.mp (bR.mp h y m)
theorem rt.mrE(O:rt C){i:Nat}{r:MR}(e:Kk[i]? =some r){P:Prop}(kk:plainGet C.K r.c r.x=true->findIn C.K (.ref r.c) r.x=some (some (.ref r.f))->typeIn C.K (.ref r.f)=some (.type "function")->keepIn C.K (.ref r.f)=true->P):P:=
 O.partE fun _ _ h _ _ _ _ _ _=>aE (CK h e) fun h1 h=>aE h fun h2 h=>aE h fun h3 h4=>kk h1 (ag h2) (ag h3) h4
theorem rt.mr(O:rt C){i:Nat}{r:MR}(e:Kk[i]? =some r){j:Nat}{cr:CR}(ec:yV[j]? =some cr)(hc:cr.c=r.c)(hx:FN.all (fun y=>y !=r.x)=true){F:aW}{G:gK}(hF:aF C k (.ref r.f) F)(hG:dW C k r.x G):dW C k r.x (fb r.c F G):=
 O.mrE e fun h1 h2 h3 h4=>aeb (hc▸O.cls _ (a7 ec)) (adg O hx) h1 h2 h3 h4 hF hG
theorem rt.mro(O:rt C){i:Nat}{r:MR}(e:Kk[i]? =some r)(hc:r.c=1021)(hx: ∀i∈[38,4,37,36],C.fname i≠r.x){F:aW}(hF:aF C k (.ref r.f) F):dW C k r.x (amU r.c F):=fun W σ h a v F' R hv e'=>O.mrE e fun h1 h2 h3 h4=>by
 rw[hc]at h1 h2 e'
 revert hv
 refine ip e' fun y e'=>FK e' fun d l hgt e'=>kS e' fun z e'=> ?_
 apply s1 e'
 rw[<- aD z]at hgt
 rintro⟨p,q,rfl⟩
 obtain⟨p',ep,⟨cc,q1,q2⟩,_⟩:=R.cell _ _ hgt
 rw[q]at ep;cases ep
 obtain⟨vs0,rfl⟩:=O.name _ _ q1
 obtain⟨q0,q1,es,n,vs,q2,r',z⟩:=q2
 refine⟨.ref r.f,fun A s pl E Q hs hq=> ?_,q6 h4,hF⟩
 subst hs
 refine method_fn R.K (I:=(⟨R.im _ _ q1,rfl,rfl,q2⟩:InstAt s.heap p.1 (instObj 1021 p.2) 1021 (some (dictOf es n)))) (qr h1).1 (qr h1).2 h2 h3 ?_ hq
 show(lookIn r.x (dictOf es n)).map _=_
 rw[lookIn_dict,SR (fun i hi _=>hx i hi) z];rfl
theorem pw{kF:Nat}{f:ah}{F F':aW}(hF:aF C kF f F)
  (H: ∀args σ a ai,F' args σ=some (a,ai)-> ∃r kk l,σ.get r=some (.orc kk l)/\((∃c,C.conc kk l c)->(∀b d,σ.get b=some d->b<σ.next)-> ∃bv,(∀c,C.conc kk l c->C.conc kk bv c)/\F args (σ.set r (.orc kk bv))=some (a,ai))):aF C kF f F':=fun A Rm W σ s args vs Re hv tk a ai e=>by
 obtain⟨r,kk,l,hr,h1⟩:=H args σ a ai e
 obtain⟨p,a1,⟨c,q1,q2⟩,_⟩:=Re.cell r _ hr
 obtain⟨bv,h1,e1⟩:=h1 ⟨c,q1⟩ fun b d hb=>Nat.lt_of_not_le fun q=>(Re.cell b _ hb).elim fun p h=>nn ((Re.fresh b q).symm.trans h.1)
 have hc:dT C W s.heap p (.orc kk bv):=⟨c,h1 c q1,q2⟩
 exact hF A Rm W _ s args vs (Re.set hr a1 (fun _ _ _ e=>e) hc) hv tk a ai e1
theorem aeg{kF:Nat}{f:ah}{mac:List Nat->List AV}{bx:List Nat->List AV->List Nat}{VB:AV->Prop}(R:p7 C mac bx VB){lab:List AV->List AV}(hl: ∀L c,lF mac L c->lF mac (lab L) c)(hF:aF C kF f oQ):aF C kF f (l7 lab):=pw hF fun args σ a ai e=>nV e fun r as L hL e=>Ac e fun e=>
 ⟨r,1021,L,hL,fun _ _=>⟨lab L,fun c hc=>(R.rdr _ _).mpr (hl _ _ ((R.rdr _ _).mp hc)),e⟩⟩
end
end
end
section
open PySem.SeqAt
open Sem (wp)
noncomputable section
noncomputable def tX:List ah:=[.ref 75,.type "Exception",.type "BaseException",.type "object"]
section
variable{M:kW}{prog:fQ}{w:dD}{A:bW}{E:ah->az->Prop}{h:bH}{g:Array yw}{d:Drawn}{t:Nat}{os:ji}
variable{nm q:Str}{N:aC}{bs:List ah}{hdct:Bool}{sn:List Str}{sub:List ah}{ab:Bool}{col:Option Bool}{dd:Option aC}{k0 k1 k2 k3 k5:Option ah}
theorem Pq:(nZ 112::tX).contains (.type "Exception")=true:=by decide +kernel
theorem Rv{rest:List ah}{Q:Unit->az->Prop}(hC:h.get? 112=some (excClassObj nm q 112 N bs tX hdct sn sub ab col dd k0 k1 k2 k3 k5 "Exception.__new__"))(hq:Q () ⟨h,g,d,t,os⟩):wpAny M A (checkBuiltinCall "Exception.__new__" ⟨.ref 112::rest,[]⟩) Q E ⟨h,g,d,t,os⟩:=by
 have F:=gn
 have hcont:=Pq
 have hstar:=F.noStar
 simp only[checkBuiltinCall,F.newKind,F.newSplit,F.newRow]
 repeat (first|refine gF hC ?_|(refine kO hC ?_;rw[hcont])|refine wpAny_staticBase_exc hC ?_|refine Go hC ?_|simp only[bne_self_eq_false,Bool.false_eq_true,if_false]|wp_step)
 exact hq
theorem alm{R:tA->az->Prop}{rest:List ah}(hC:h.get? 112=some (excClassObj nm q 112 N bs tX hdct sn sub ab col dd k0 k1 k2 k3 k5 "Exception.__new__"))
  (hq:R (.ok (.ret (.ref (h.objs.size+1)))) ⟨(h.push {cls:=.type "tuple",data:=.seq rest.toArray}).push {cls:=.ref 112,data:=.fields #[.ref h.objs.size,.none,.none,.none,.bool false,.none]},g,d,t,os⟩)(hrest:rest.length<=sizeLine):
  codeAny (model prog w) A (.builtin "Exception.__new__" ⟨.ref 112::rest,[]⟩) R ⟨h,g,d,t,os⟩:=by
 have F:=gn
 have hends:=F.ends
 have hcB:=Pq
 have hcA:(nZ 112::tX).contains (.type "AttributeError")=false:=by decide +kernel
 have hcN:(nZ 112::tX).contains (.type "NameError")=false:=by decide +kernel
 refine codeAny_builtinAt F.entry ?_
 unfold Builtin.«BaseException.__new__»
 refine HM ?_
 show PySem.wpAt _ _ _ (stack>>=_) _ _ _
 refine HM (PySem.wpAt_stack fun p below=>A3 ?_)
 wp_walk
 refine A3 ?_
 rw[F.owner]
 repeat (first|with_reducible refine wpAny_madeHere_exc F.canon hC ?_|with_reducible refine gF hC ?_|(with_reducible refine kO hC ?_;first|rw[hcB]|rw[hcA]|rw[hcN])|wp_step)
 show R _ _
 rw[pQ]
 exact hq
theorem Rw{K:dQ}(X:K.In h)(hi:findIn K (.ref 112) "__init__"=some (some (.ref 65)))(hf:typeIn K (.ref 65)=some (.type "function")){rest:List ah}{Q:Fin->az->Prop}
  (hC:h.get? 112=some (excClassObj nm q 112 N bs tX hdct sn sub ab col dd k0 k1 k2 k3 k5 "Exception.__new__"))
  (hq: ∀h' e,JR h h' e (.ref 112) rest->wpAny (model prog w) A (call (.ref 65) (.ref e::rest)) (fun r s'=>r= .none/\Q (.done (.ret (.ref e))) s') E ⟨h',g,d,t,os⟩)(hrest:rest.length<=sizeLine):
  wpAny (model prog w) A (Builtin.«type.__call__» ⟨.ref 112::rest,[]⟩) Q E ⟨h,g,d,t,os⟩:=by
 have F:=gn
 repeat (first|with_reducible refine gF hC ?_|with_reducible refine Go hC ?_|wp_step)
 refine codeAny_call_builtin_code (A7 _ F.quiet) (Rv hC ?_)
 refine alm hC ?_ hrest
 show wpAny _ _ _ _ _ _
 have kk: ∀b o,h.get? b=some o->((h.push {cls:=.type "tuple",data:=.seq rest.toArray}).push {cls:=.ref 112,data:=.fields #[.ref h.objs.size,.none,.none,.none,.bool false,.none]}).get? b=some o:=fun b o e=>bz _ (bz _ e)
 have Ps:=kk _ _ hC
 have amC:K.In ((h.push {cls:=.type "tuple",data:=.seq rest.toArray}).push {cls:=.ref 112,data:=.fields #[.ref h.objs.size,.none,.none,.none,.bool false,.none]}):=fun a o e=>kk _ _ (X a o e)
 have hget:((h.push {cls:=.type "tuple",data:=.seq rest.toArray}).push {cls:=.ref 112,data:=.fields #[.ref h.objs.size,.none,.none,.none,.bool false,.none]}).get? (h.objs.size+1)=some {cls:=.ref 112,data:=.fields #[.ref h.objs.size,.none,.none,.none,.bool false,.none]}:=by heap_get
 have hcC:(nZ 112::tX).contains (.ref 112)=true:=by decide +kernel
 unfold isInstance
 repeat (first|with_reducible refine gF hget ?_|(with_reducible refine kO Ps ?_;rw[hcC])|wp_step)
 show wpAny _ _ (typeLookup (.ref 112) _) _ _ _
 refine(tE amC hi).here ?_
 refine dF (aq ?_)
 refine(bind_fn amC _ hf).here ?_
 refine(aq (jp (hq _ (h.objs.size+1) ⟨fun b o hb=>kk b o hb,yx (cJ _),h.objs.size,hget,yx (ax _),?_⟩) (fun r s' hr=> ?_) fun _ _ x=>x))
 ·exact bz _ (ED rfl rfl)
 ·obtain⟨rfl,hQ⟩:=hr
  wp_walk
  exact hQ
theorem ag3{K:dQ}(X:K.In h)(hi:findIn K (.ref 112) "__init__"=some (some (.ref 65)))(hf:typeIn K (.ref 65)=some (.type "function")){rest:List ah}{Q:ah->az->Prop}
  (hC:h.get? 112=some (excClassObj nm q 112 N bs tX hdct sn sub ab col dd k0 k1 k2 k3 k5 "Exception.__new__"))
  (hq: ∀h' e,JR h h' e (.ref 112) rest->wpAny (model prog w) (A.under (.builtin "type.__call__" ⟨.ref 112::rest,[]⟩)) (call (.ref 65) (.ref e::rest)) (fun r s'=>r= .none/\Q (.ref e) s') E ⟨h',g,d,t,os⟩)(hrest:rest.length<=sizeLine):
  wpAny (model prog w) A (call (.ref 112) rest) Q E ⟨h,g,d,t,os⟩:=by
 have f1:=tc_lookup
 have f2:=tc_bind (.ref 112)
 have hT:(⟨h,g,d,t,os⟩:az).TypeIs (.ref 112) "type":=⟨_,hC,rfl⟩
 refine oH (HO ?_)
 show wpAny _ _ (callAny (.ref 112) _) _ _ _
 repeat (any_goals (first|assumption|with_reducible refine gF hC ?_|wp_step))
 refine⟨rfl,?_⟩
 refine codeAny_call_builtin_at (A7 _ (by decide +kernel)) entry_typeCall (wpAny_check_type_call_sub hC (Rw X hi hf hC (fun h' e hm=> ?_) hrest))
 exact hq h' e hm
end
end
end
section
open PySem.SeqAt
open Sem (wp)
noncomputable section
section
variable{M:kW}{prog:fQ}{w:dD}{A:bW}{E:ah->az->Prop}{h:bH}{g:Array yw}{d:Drawn}{t:Nat}{os:ji}
variable{nm q:Str}{N:aC}{bs:List ah}{hdct:Bool}{sn:List Str}{sub:List ah}{ab:Bool}{col:Option Bool}{dd:Option aC}{k0 k1 k2 k3 k5:Option ah}
abbrev UL(t0:aC)(dx:Option aC):Obj:={cls:=.ref 112,dict:=dx,data:=.fields #[.ref t0,.none,.none,.none,.bool false,.none]}
theorem Pp{e:aC}{oe:Obj}{rest:List ah}{Q:Unit->az->Prop}(hC:h.get? 112=some (excClassObj nm q 112 N bs tX hdct sn sub ab col dd k0 k1 k2 k3 k5 "Exception.__new__"))(he:h.get? e=some oe)(hcls:oe.cls= .ref 112)(hq:Q () ⟨h,g,d,t,os⟩):
  wpAny M A (checkBuiltinCall "Exception.__init__" ⟨.ref e::rest,[]⟩) Q E ⟨h,g,d,t,os⟩:=by
 have F:=gn
 have hcB:=Pq
 have hshort:=F.noStar
 simp only[checkBuiltinCall,F.initKind,F.initSplit,F.initRow]
 repeat (first|(with_reducible refine gF he ?_;rw[hcls])|with_reducible refine gF hC ?_|(with_reducible refine kO hC ?_;rw[hcB])|wp_step)
 refine wpAny_onRaise ?_
 rw[show ∀(a b:String) (n:Nat),Bind.check ⟨.positional,"*","Exception",.self,[⟨"args",.varPos,false⟩]⟩ a b n (NN (fun x=>x.fst) ({pos:=nZ e::rest}:Args).kw)=pure () from
  fun a b n=>check_star_args _ _ _ _ _ _]
 exact aL hq
theorem ag5{e t0:aC}{v:ah}{Q:ah->az->Prop}(hC:h.get? 112=some (excClassObj nm q 112 N bs tX hdct sn sub ab col dd k0 k1 k2 k3 k5 "Exception.__new__"))(he:h.get? e=some (UL t0 none))
  (hq: ∀h',h'.get? e=some (UL h.objs.size none)->(∀b o,b≠e->h.get? b=some o->h'.get? b=some o)->Q .none ⟨h',g,d,t,os⟩):
  wpAny (model prog w) A (call (.builtin "Exception.__init__") [.ref e,v]) Q E ⟨h,g,d,t,os⟩:=by
 have F:=gn
 refine oH (oG F.init.plain F.initEntry (Pp hC he rfl ?_))
 unfold Builtin.«BaseException.__init__»
 dsimp only
 rw[if_neg (by simp)]
 unfold newTuple JQ
 have ZC:=bz (h:=h) {cls:=.type "tuple",data:=.seq #[v]} he
 refine aq (gG (aq (aq (wpAny_field ZC rfl rfl (aq (wpAny_setField ZC rfl (by show 0<6;decide) ?_))))) (by size_fits))
 refine wpAny_letGo (aL ?_)
 refine hq _ ?_ fun b o hb hbo=> ?_
 ·rw[jM _ ZC rfl];rfl
 ·rw[Heap.get?_update_other _ _ (tf hb)];exact bz _ hbo
end
end
end
section
open PySem.SeqAt
open Sem (wp)
open PySem.Builtin PySem.Builtin.ObjectAttr
noncomputable section
section
variable{M:kW}{prog:fQ}{w:dD}{A:bW}{E:ah->az->Prop}{s:az}{K:dQ}{x:aC}{ox:Obj}{od:Option Obj}{cd:Lg}{name:Str}{tk:Tok}{v:ah}
theorem alk(hc:clsIn K 112=some cd)(hm:cd.mro= .ref 112::tX):mroIn K 112 (.type "object")=some true:=by
 unfold mroIn
 rw[hc,nJ,hm]
 decide +kernel
theorem abB{R:tA->az->Prop}(X:K.In s.heap)(I:InstAt s.heap x ox 112 od)(hc:clsIn K 112=some cd)(hm:cd.mro= .ref 112::tX)(ht:takerIn K 112 name=some none)
  (h: ∀b,wpAny (model prog w) A.in1 (storeInOwnDict (.ref x) (.ref 112) (.str name tk) name v b) (fun fin s'=>match fin with| .done f=>R (.ok f) s'| .again c'=>c'.quiet=true/\codeAny (model prog w) A c' R s') (fun e s'=>R (.error e) s') s):
  codeAny (model prog w) A (.call (.builtin "object.__setattr__") ⟨[.ref x,.str name tk,v],[]⟩) R s:=by
 have SF:=PySem.F.store_object
 have sub:HJ (model prog w) s.heap (isInstance (.ref x) (.type "object")) true:=I.type.andThen (looks_mroIn X (alk hc hm))
 refine oG SF.slot.plain SF.entry (@check_slot (model prog w) _ _ s "object.__setattr__" "object" "__setattr__" (.ref x) [.str name tk,v] [] _ SF.kind SF.split sub (SF.args (.ref x) (.str name tk) v) ?_)
 obtain⟨attr,ha,hr⟩:=Option.bind_eq_some_iff.mp ht
 have hmr:HJ (model prog w) s.heap (mroOf (.ref 112)) cd.mro:=(wg X hc).andThen .now
 have L3:HJ (model prog w) s.heap (storeTaker? attr) none:=by
  cases attr with
  |none=>exact .now
  |some a=>
   obtain⟨b,hb,e⟩:=gZ.mp hr
   refine(looks_takesIn X hb).andThen ?_
   cases b with
   |true=>exact nn e.symm
   |false=>exact .now
 rw[osa_eq,refuse_eq]
 refine aq (aq (I.type.here (aq (hmr.here ?_))))
 rw[hm,tX,JY,JY,PySem.F.store_Exception.passes]
 refine aL (aq (I.type.here (aq ((tE X ha).here (aq (L3.here ?_))))))
 exact h _
theorem abC{d:aC}{m:Str->Option ah}{ns:List Str}{Q:PySem.Fin->az->Prop}(hns:s.heap.Ns1 d m)(hw:Within m ns)(hz:ns.length<=100)
  (h: ∀h',h'.Ns1 d (fun y=>if y=name then some v else m y)->iV d s.heap h'->Q (.done (.ret .none)) {s with heap:=h',toks:=s.toks+1}):wpAny M A (storeInDict d (.str name tk) name v) Q E s:=by
 unfold storeInDict newKeyGuard
 refine aq (aL (aq (wpAny_nsSet1 hns fun h' hn' hs=> ?_)))
 obtain⟨oD,esD,epD,hoD,hdD,hcD⟩:=hn'.count (Q1 name v hw)
 refine aq (Gn hoD (by rw[hdD];exact Gj (au hcD (by rw[bK,jy];omega))) ?_)
 exact aL (h h' hn' hs)
theorem ag6{t0:aC}{Q:Unit->az->Prop}(X:K.In s.heap)(he:s.heap.get? x=some (UL t0 none))(hs:findIn K (.ref 112) "__setattr__"=some (some (.builtin "object.__setattr__")))(hc:clsIn K 112=some cd)(hm:cd.mro= .ref 112::tX)(hh:cd.hasDict=true)(ht:takerIn K 112 name=some none)
  (h: ∀h' d,d≠x->s.heap.get? d=none->h'.get? x=some (UL t0 (some d))->h'.Ns1 d (fun y=>if y=name then some v else none)->(∀b o,b≠x->s.heap.get? b=some o->h'.get? b=some o)->Q () {s with heap:=h',toks:=s.toks+2}):wpAny (model prog w) A (setAttr (.ref x) name v) Q E s:=by
 have I:InstAt s.heap x (UL t0 none) 112 none:=⟨he,rfl,rfl,trivial⟩
 refine Li X I hs (abB (s:={s with toks:=s.toks+1}) X I hc hm ht fun b=> ?_)
 refine aq (aL (aq (aq (pU he (aq (wg X hc _ _ _ _ (fun _ _ e=>e) ?_))))))
 rw[hh]
 have hxs:x≠s.heap.objs.size:=ci (co he)
 have ahj:(s.heap.push {cls:=.type "dict",data:=.dict #[]}).get? x=some (UL t0 none):=bz _ he
 show wpAny _ _ (do
  let d <- alloc {cls:=.type "dict",data:=.dict #[]}
  update x fun o=>{o with dict:=some d}
  dictMade (.ref 112) x d) _ _ _
 refine aq (wpAny_alloc' ?_)
 refine aq (wpAny_update' ahj ?_)
 refine aL ?_
 have hgd:((s.heap.push {cls:=.type "dict",data:=.dict #[]}).update x fun o=>{o with dict:=some s.heap.objs.size}).get? s.heap.objs.size=some {cls:=.type "dict",data:=.dict #[]}:=
  (AX _ _ _ _ hxs.symm).trans (ED rfl rfl)
 have hnd:((s.heap.push {cls:=.type "dict",data:=.dict #[]}).update x fun o=>{o with dict:=some s.heap.objs.size}).Ns s.heap.objs.size (fun _=>none):=
  ⟨_,#[],_,hgd,rfl,fun e he=>absurd he (by simp),fun _=>rfl⟩
 refine aq (aL ?_)
 show wpAny _ _ (storeInDict s.heap.objs.size (.str name s.toks) name v) _ _ _
 refine abC (s:={s with heap:=(s.heap.push {cls:=.type "dict",data:=.dict #[]}).update x fun o=>{o with dict:=some s.heap.objs.size},toks:=s.toks+1}) (Heap.Ns1.of_empty hnd) TT (aU _) fun h' hn' hs'=> ?_
 refine h h' s.heap.objs.size hxs.symm (tj _) ?_ hn' fun b o hb ho=> ?_
 ·exact(hs'.2 x hxs).trans (jM _ ahj rfl)
 ·exact(hs'.2 b (ci (co ho))).trans ((AX _ _ _ _ hb).trans (bz _ ho))
theorem ag7{t0 d:aC}{m:Str->Option ah}{ns:List Str}{Q:Unit->az->Prop}(X:K.In s.heap)(he:s.heap.get? x=some (UL t0 (some d)))(hns:s.heap.Ns1 d m)(hw:Within m ns)(hz:ns.length<=100)(hs:findIn K (.ref 112) "__setattr__"=some (some (.builtin "object.__setattr__")))(hc:clsIn K 112=some cd)(hm:cd.mro= .ref 112::tX)(hh:cd.hasDict=true)(ht:takerIn K 112 name=some none)
  (h: ∀h',iV d s.heap h'->Q () {s with heap:=h',toks:=s.toks+2}):wpAny (model prog w) A (setAttr (.ref x) name v) Q E s:=by
 obtain⟨o,es,ep,ho,r⟩:=id hns
 have I:InstAt s.heap x (UL t0 (some d)) 112 (some o):=⟨he,rfl,rfl,ho⟩
 refine Li X I hs (abB (s:={s with toks:=s.toks+1}) X I hc hm ht fun b=> ?_)
 refine aq (aL (aq (aq (pU he (aq (wg X hc _ _ _ _ (fun _ _ e=>e) ?_))))))
 rw[hh]
 refine aL (a:=some d) (aq (aL ?_))
 show wpAny _ _ (storeInDict d (.str name s.toks) name v) _ _ _
 exact abC (s:={s with toks:=s.toks+1}) hns hw hz fun h' _ hs'=>h h' hs'
end
end
end
section
open PySem.SeqAt
open Sem (wp)
noncomputable section
section
variable{C:PC}{X:FX}{k:Nat}{W W':Wd}{fr:Fm}{σ:AS}{s:az}{A:bW}{E:ah->az->Prop}{K:dQ}
theorem ag4{prog:fQ}{w:dD}{pl:Sem Bool}{Q:ah×List ah->az->Prop}(X:K.In s.heap)(h:Q (.builtin "Exception.__init__",[]) {s with toks:=s.toks+1}):wpAny (model prog w) A (getMethod (.type "Exception") "__init__" pl) Q E s:=by
 have ht:typeOf (.type "Exception")=pure (.type "type"):=by kernel_rfl
 have hs:Manifest.isStub "Exception"=false:=by decide +kernel
 have e:findCls K (.type "Exception") (.type "type") "__init__"=some (.val (.builtin "Exception.__init__")):=by kernel_rfl
 have hh:handedIn (.builtin "Exception.__init__")=true:=by decide +kernel
 have hstub:opaqueClassAbove (.type "Exception")=pure none:=by unfold opaqueClassAbove;dsimp only;rw[hs];rfl
 have L0:HJ (model prog w) s.heap (typeOf (.type "Exception")) (.type "type"):=rp ht
 have hg:findIn K (.type "type") "__getattribute__"=some (some (.builtin "type.__getattribute__")):=type_tga
 unfold getMethod specialOf
 refine aq (aq (L0.here ((tE X hg).here ?_)))
 dsimp only
 rw[if_pos canon_tga]
 refine aq (jp (Q:=fun v=>Q (v,[])) (E:=E) ?_ (fun _ _ z=>aL z) fun _ _ z=>z)
 have LO:HJ (model prog w) s.heap (opaqueClassAbove (.type "Exception")) none:=rp hstub
 exact cls_open X LO L0 hg (looks_hook X (r:=none) (by rfl)) (by show subIn K _ _=_;rfl) e
  (aL (by show wpAny _ _ (handedOut (.builtin "Exception.__init__")) _ _ _;rw[handedOut_of hh];exact aL h))
theorem adj{n:LM}{es:List an}{ap p p0:Pos}(O:uV X)(hx:X.env.kindOf "Exception"=some .globalImplicit)(hg:na X.C "Exception" (.glob (.type "Exception")))(hl:(ap.endLine==p.line)=true)(hfew:es.length<30)
  (hs:es.all (fun e=> !i8 e)=true)(hn:zW X k n es)(R:eH A k)(T:St X W fr σ s){l:List AV}(e:n fr σ=some (l,σ)){Q:ah->az->Prop}
  (h: ∀vs bk be,W.le be->St X be fr σ bk->VL X.C be l vs->wpAny (dC X.C) A (call (.builtin "Exception.__init__") vs) Q dm bk):wpAny (dC X.C) A (eval (.Call (.Attribute (.Name "Exception" p0) "__init__" ap) es [] p) X.env) Q dm s:=by
 show wpAny _ _ (do
  let ov <- attributeBase (.Name "Exception" p0) "__init__" X.env (eval (.Name "Exception" p0) X.env)
  standAt ap.atName
  methodCall (.Name "Exception" p0) "__init__" ap p X.env ov (es.length+([]:List td).length) (backTo p (starEach es X.env)) (backToKw p (keywordEach [] X.env))) _ _ _
 have hm:bX X k (a6 (.glob (.type "Exception"))) (.Name "Exception" p0):=Yd O hx (by decide) hg
 refine aq (lR rfl (hm.go R T rfl fun v bk be bv bo d5=>aq (du ?_)))
 obtain rfl:v= .type "Exception":=d5
 have hform:methodCallForm (es.length+([]:List td).length) (backTo p (starEach es X.env)) (backToKw p (keywordEach [] X.env))=true:=by
  unfold methodCallForm
  have h1:(backTo p (starEach es X.env)).all (!·.1)=true:=by
   have:=qy (env:=X.env) (pos:=p) hs
   rw[bR];rw[EE]at this
   intro y hy;simpa using this y hy
  rw[h1]
  have h2:(backToKw p (keywordEach [] X.env)).all (·.1.isSome)=true:=rfl
  rw[h2]
  simp;exact hfew
 unfold methodCall
 rw[hform]
 have hpos:methodCallPos true (.Name "Exception" p0) X.env ap p=pure p:=by unfold methodCallPos;simp[hl]
 refine aq (dF ?_)
 show wpAny _ _ (getMethod (.type "Exception") "__init__" _) _ _ _
 refine ag4 bo.rel.K ?_
 show wpAny _ _ (do let callPos <- methodCallPos true (.Name "Exception" p0) X.env ap p;callWith callPos (.builtin "Exception.__init__") [] (backTo p (starEach es X.env)) (backToKw p (keywordEach [] X.env))) _ _ _
 rw[hpos]
 refine aq (aL ?_)
 refine Fe (P:=X.C.K.In) (by rw[qy hs];rfl) fg ?_
 exact wu hs (hn.go R (bo.toks (bk.toks+1) (cJ _)) e p fun vs dP cq dJ cH jV=>⟨cH.rel.K,h vs dP cq (bv.trans dJ) cH jV⟩)
end
end
end
section
open PySem.SeqAt
noncomputable section
noncomputable def leB:List cn:=[
 .Expr (.Call (.Attribute (.Name "Exception" ⟨20,8,20,17⟩) "__init__" ⟨20,8,20,26⟩) [.Name "self" ⟨20,27,20,31⟩,.Name "what" ⟨20,33,20,37⟩] [] ⟨20,8,20,38⟩) ⟨20,8,20,38⟩,
 .Assign [.Attribute (.Name "self" ⟨21,8,21,12⟩) "what" ⟨21,8,21,17⟩] (.Name "what" ⟨21,20,21,24⟩) ⟨21,8,21,24⟩,
 .Assign [.Attribute (.Name "self" ⟨22,8,22,12⟩) "at" ⟨22,8,22,15⟩] (.Name "at" ⟨22,18,22,20⟩) ⟨22,8,22,20⟩]
noncomputable def nmG:List (Nat×Str):=[(0,"self"),(1,"what"),(2,"at")]
noncomputable def amJ(d:A8)(f:Lg->Bool):Bool:=match d with
 | .cls cd=>f cd
 |_=>false
@[elab_as_elim] theorem anp {Q:A8->Prop} {d:A8} {f:Lg->Bool} (h:amJ d f=true) (k: ∀cd,f cd=true->Q (.cls cd)):Q d:=by
 cases d<;>first|exact ff h|exact k _ h
noncomputable def gfC(o:Obj):Bool:=o.cls== .type "type" &&(amJ o.data (fun cd=>decide (cd.mro= .ref 112::tX)&&(!cd.hasDel&&cd.hasDict))&&(o.slots.toList[4]? ==some (some (.builtin "Exception.__new__"))&&o.slots.toList.length==6))
noncomputable def gfF(K:dQ)(fd:gz):Bool:=fdB K 3 [.tup [.int 0,.int 0]] nmG fd (fd.params.args.map (·.arg))&&fd.scope.names.lookup ("Exception":Str)==some .globalImplicit
noncomputable def gfB(K:dQ):Bool:=Hk (K.lookup 112) gfC&&(Hk (K.lookup 65) (fun o=>abn o.data (gfF K))&&(decide (findIn K (.ref 112) "__init__"=some (some (.ref 65)))&&(decide (typeIn K (.ref 65)=some (.type "function"))&&
 (decide (findIn K (.ref 112) "__setattr__"=some (some (.builtin "object.__setattr__")))&&(decide (takerIn K 112 "what"=some none)&&(decide (takerIn K 112 "at"=some none)&&blB K "Exception"))))))
structure GfB(K:dQ):Prop where
 c1:Hk (K.lookup 112) gfC=true
 c2:Hk (K.lookup 65) (fun o=>abn o.data (gfF K))=true
 c3:decide (findIn K (.ref 112) "__init__"=some (some (.ref 65)))=true
 c4:decide (typeIn K (.ref 65)=some (.type "function"))=true
 c5:decide (findIn K (.ref 112) "__setattr__"=some (some (.builtin "object.__setattr__")))=true
 c6:decide (takerIn K 112 "what"=some none)=true
 c7:decide (takerIn K 112 "at"=some none)=true
 c8:blB K "Exception"=true
theorem GfB.of{K:dQ}(h:gfB K=true):GfB K:=aE h fun c1 h=>aE h fun c2 h=>aE h fun c3 h=>aE h fun c4 h=>aE h fun c5 h=>aE h fun c6 h=>aE h fun c7 c8=>⟨c1,c2,c3,c4,c5,c6,c7,c8⟩
@[elab_as_elim] theorem SU {α:Type} {P:List α->Prop} {l:List α} {n:Nat} (h:l.length=n+1) (k: ∀a t,t.length=n->P (a::t)):P l:=by
 cases l with
 |nil=>cases h
 |cons a t=>exact k a t (jQ h)
theorem six{α:Type}{l:List α}{a:α}(h:l[4]? =some a)(hl:l.length=6): ∃b c d e f,l=[b,c,d,e,a,f]:=by
 revert h
 refine SU hl fun b l h=>SU h fun c l h=>SU h fun d l h=>SU h fun e l h=>SU h fun x l h=>SU h fun f l h h'=> ?_
 rw[mx.mp h]
 exact⟨b,c,d,e,f,by rw[aG (show some x=some a from h')]⟩
theorem ag1{o:Obj}(h:gfC o=true): ∃nm q N bs hdct sn sub ab col dd k0 k1 k2 k3 k5 cd,o=excClassObj nm q 112 N bs tX hdct sn sub ab col dd k0 k1 k2 k3 k5 "Exception.__new__" /\o.data= .cls cd/\cd.mro= .ref 112::tX/\cd.hasDict=true:=by
 obtain⟨c,dd,dt,sl⟩:=o
 refine aE h fun h1 h=>aE h fun h2 h=>aE h fun h3 h4=> ?_
 have h1:c= .type "type":=beq_iff_eq.mp h1
 obtain⟨k0,k1,k2,k3,k5,hs⟩:=six (beq_iff_eq.mp h3) (beq_iff_eq.mp h4)
 have hsl:sl= #[k0,k1,k2,k3,some (.builtin "Exception.__new__"),k5]:=by
  obtain⟨l⟩:=sl
  exact congrArg pP hs
 clear h h3 h4 hs
 refine anp (d:=dt) (Q:=fun dt=> ∃nm q N bs hdct sn sub ab col dd' k0 k1 k2 k3 k5 cd,(⟨c,dd,dt,sl⟩:Obj)=excClassObj nm q 112 N bs tX hdct sn sub ab col dd' k0 k1 k2 k3 k5 "Exception.__new__" /\dt= .cls cd/\cd.mro= .ref 112::tX/\cd.hasDict=true) h2 fun cd h2=>aE h2 fun m1 m=>aE m fun m2 m3=> ?_
 obtain⟨nm,bs,mro,ns,qn,hd,sn,sub,ab,col,del⟩:=cd
 have m1:mro= .ref 112::tX:=ag m1
 have m2:del=false:=pc m2
 refine⟨nm,qn,ns,bs,hd,sn,sub,ab,col,dd,k0,k1,k2,k3,k5,_,?_,rfl,m1,m3⟩
 rw[h1,hsl,m1,m2]
theorem Sy{o:Obj}{P:Prop}(h:gfC o=true)(k: ∀nm q N bs hdct sn sub ab col dd k0 k1 k2 k3 k5 cd,o=excClassObj nm q 112 N bs tX hdct sn sub ab col dd k0 k1 k2 k3 k5 "Exception.__new__" ->o.data= .cls cd->cd.mro= .ref 112::tX->cd.hasDict=true->P):P:=by
 obtain⟨nm,q,N,bs,hdct,sn,sub,ab,col,dd,k0,k1,k2,k3,k5,cd,a,b,c,d⟩:=ag1 h
 exact k nm q N bs hdct sn sub ab col dd k0 k1 k2 k3 k5 cd a b c d
section
variable{C:PC}{X:FX}{k:Nat}{W W':Wd}{fr:Fm}{σ:AS}{s:az}{A:bW}
theorem hU.pin{I J:aC}{o:Obj}(L:hU X W σ J)(h:J≠I):hU X (W.pin I o) σ J:=⟨L.im,by rw[ju h];exact L.pr,L.cell,L.out⟩
theorem ag2{fd:gz}(hB:gfB X.C.K=true)(H:gQ X ⟨fd.scope.names,nmG,true⟩)(hx:fd.scope.names.lookup ("Exception":Str)=some .globalImplicit)(R:eH A k){e t0:aC}{a b:AV}(T:St X W [.glob (.ref e),a,b] σ s)(L:hU X W σ e)(he:s.heap.get? e=some (UL t0 none))(ha:bQ a=false)(hb:bQ b=false):
  wpAny (dC X.C) A (execs leB X.env) (fun fl s'=>fl= .next/\Sn X.ni s'/\ ∃W',W.le W'/\cu X.C W' σ s'.heap) dm s:=by
 have G:=GfB.of hB
 have O:=H.ok
 have at0:X.names 0=some "self":=by rw[H.nm];rfl
 have at1:X.names 1=some "what":=by rw[H.nm];rfl
 have at2:X.names 2=some "at":=by rw[H.nm];rfl
 have hxE:X.env.kindOf "Exception"=some .globalImplicit:=(H.kind _).trans hx
 have hg:na X.C "Exception" (.glob (.type "Exception")):=XB G.c8 fun o ho h=>To (ho.trans (dA.mp h)) (by decide) (by boot_by_name)
 refine LV G.c1 fun o112 ho hc=> ?_
 refine Sy hc fun nm q N bs hdct sn sub ab col dd k0 k1 k2 k3 k5 cd hobj hdat hmro hdic=> ?_
 have hcls:clsIn X.C.K 112=some cd:=by
  unfold clsIn
  rw[ho]
  obtain⟨c,d,dt,sl⟩:=o112
  obtain rfl:dt= .cls cd:=hdat
  rfl
 have sa:=ag G.c5
 have u0:bQ (.glob (.ref e))=false:=rfl
 have e0: ∀σ,al 0 [.glob (.ref e),a,b] σ=some (.glob (.ref e),σ):=fun _=>rfl
 have e1: ∀σ,al 1 [.glob (.ref e),a,b] σ=some (a,σ):=fun σ=>by
  show(bif bQ a then none else some (a,σ))=_
  rw[ha];rfl
 have e2: ∀σ,al 2 [.glob (.ref e),a,b] σ=some (b,σ):=fun σ=>by
  show(bif bQ b then none else some (b,σ))=_
  rw[hb];rfl
 unfold leB
 refine nL (JZ ?_ H.sto.inter (tl rfl))
 refine adj O hxE hg rfl (by decide) rfl (KT rfl (uD O at0) (KT rfl (uD O at1) Ye)) R (T.pin L he) (l:=[.glob (.ref e),a]) (by simp only[cp,cg,e0,e1,aX]) fun vs bk be bv bo d5=> ?_
 obtain⟨bv,ae0,amM,R6⟩:=St.unpin bv L bo
 have Ps:=(bo.rel.K _ _ ho)
 clear bo
 rw[hobj]at Ps
 obtain⟨w2,rfl⟩: ∃w2,vs=[.ref e,w2]:=by
  obtain⟨v,r,e1,e2,w,r',f1,f2,f3⟩:=d5
  exact⟨w,by rw[e1,f1,show v= .ref e from e2,show r'=[] from f3]⟩
 obtain⟨hp,g,d,tk,os⟩:=bk
 refine ag5 Ps amM fun h' g2 k2=> ?_
 have T2:=St.but (s:=⟨hp,g,d,tk,os⟩) (h':=h') ae0 R6 k2 tk (ax _)
 clear ae0 amM Ps k2 d5
 refine nL (jc ?_ De)
 refine(uD O at1:bX X k (al 1) (.Name "what" ⟨21,20,21,24⟩)).go R (T2.pin R6 g2) (e1 σ) fun v dP cq dJ cH Mk=> ?_
 refine(uD O at0:bX X k (al 0) (.Name "self" ⟨21,8,21,12⟩)).go R cH (e0 σ) fun ov jE xq gR iZ Yx=> ?_
 obtain rfl:ov= .ref e:=Yx
 have u3:=St.unpin (dJ.trans gR) R6 iZ
 refine ag6 iZ.rel.K u3.2.2.1 sa hcls hmro hdic (ag G.c6) fun h' dx hd1 hd2 g4 n4 k4=> ?_
 obtain⟨f1,f2,f3⟩:=u3.2.1.rel.free hd2
 have L4:hU X _ σ dx:=⟨f1,f2,f3,fun hc=>by
  obtain⟨o,z⟩:=u3.2.1.fr.live _ hc
  rw[hd2]at z;exact nn z⟩
 have T4:=u3.2.1.but u3.2.2.2 k4 (jE.toks+2) (cQ _ _)
 clear T2 cH iZ dJ gR f1 f2 f3
 obtain⟨oD,esD,epD,gD,rD⟩:=id n4
 refine nL (jc ?_ De)
 refine(uD O at2:bX X k (al 2) (.Name "at" ⟨22,18,22,20⟩)).go R ((T4.pin u3.2.2.2 g4).pin (L4.pin hd1) gD) (e2 σ) fun v sr Ws Xm xo ana=> ?_
 refine(uD O at0:bX X k (al 0) (.Name "self" ⟨22,8,22,12⟩)).go R xo (e0 σ) fun ov aqe Im PL Lu akI=> ?_
 obtain rfl:ov= .ref e:=akI
 have u7:=St.unpin (Xm.trans PL) (L4.pin hd1) Lu
 have u8:=St.unpin u7.1 u3.2.2.2 u7.2.1
 refine ag7 (d:=dx) Lu.rel.K u8.2.2.1 ⟨oD,esD,epD,u7.2.2.1,rD⟩ (Q1 _ _ TT) (by decide) sa hcls hmro hdic (ag G.c7) fun h' hsb=> ?_
 have T9:=u8.2.1.but (I:=dx) (h':=h') ⟨u7.2.2.2.im,L4.pr,u7.2.2.2.cell,u7.2.2.2.out⟩ (fun b o hb ho=>(hsb.2 b hb).trans ho) (aqe.toks+2) (cQ _ _)
 exact oJ ⟨rfl,T9.sm,_,(bv.trans u3.1).trans u8.1,T9.rel⟩
end
end
end
section
open PySem.SeqAt
noncomputable section
section
variable{C:PC}
theorem akm{W:Wd}{a:AV}{v:ah}(h:V C W a v):bQ a=false:=by
 cases a<;>first|rfl|exact h.elim
theorem adk(hB:gfB C.K=true)(hbody: ∀o fd,C.K.lookup 65=some o->o.data= .func fd->fd.body= .stmts leB): ∀k,5<=k->aF C (k+1) (.ref 112) VV:=fun k hk A Rm W σ s args vs R hv tk a ai e=>by
 obtain⟨k,rfl⟩: ∃j,k=j+1:=⟨k-1,by omega⟩
 revert hv
 refine Kl (l:=args) (Q:=fun args=>VL C W args vs->_) e fun a1 a2 e hv=> ?_
 apply s2 e
 obtain⟨v1,r,rfl,q1,v2,r',rfl,q2,f3⟩:=hv
 obtain rfl:r'=[]:=f3
 have G:=GfB.of hB
 refine LV G.c1 fun o112 ho hc=> ?_
 refine Sy hc fun nm q N bs hdct sn sub ab col dd k0 k1 k2 k3 k5 cd hobj _ _ _=> ?_
 have hC:=R.K _ _ ho
 rw[hobj]at hC
 refine LV G.c2 fun o65 h65 hf65=> ?_
 obtain⟨fd,hd,hfd⟩: ∃fd,o65.data= .func fd/\gfF C.K fd=true:=afH (d:=o65.data) (Q:=fun d=> ∃fd,d= .func fd/\gfF C.K fd=true) hf65 fun fd h=>⟨fd,rfl,h⟩
 refine aE hfd fun g1 g2=> ?_
 obtain⟨hlen,F,H⟩:=agN h65 hd (hbody _ _ h65 hd) rfl g1
 obtain⟨hp,g,d,t,os⟩:=s
 refine ag3 R.K (ag G.c3) (ag G.c4) hC (fun h' e m=> ?_) (by rw[jy];exact av rfl)
 obtain⟨mk,mn,t0,mt,-⟩:=m
 have R':cu C W σ h':=R.keeps mk
 refine oH (aby F Rm.under (s:=⟨h',g,d,t,os⟩) (args:=[.glob (.ref e),a1,a2]) R' (VL.cons rfl (VL.cons q1 (VL.one q2))) tk (by rw[hlen];exact ax _) (by rw[hlen];exact av rfl) fun X B es Rm' bk keep hnew T=> ?_)
 have hCC:=B.C
 subst hCC
 rw[hlen]at T
 obtain⟨f1,f2,f3⟩:=R.free (s:=⟨hp,g,d,t,os⟩) mn
 refine ek (ag2 hB (H X B) (beq_iff_eq.mp g2) Rm' (a:=a1) (b:=a2) T ⟨f1,f2,f3,fun hc=> ?_⟩ (keep _ _ mt) (akm q1) (akm q2)) fun fl dP P=> ?_
 ·have z:=hnew _ hc
  rw[show(⟨h',g,d,t,os⟩:az).heap.get? e=_ from mt]at z;exact nn z.symm
 ·obtain⟨rfl,hs,W',l,R''⟩:=P
  refine⟨rfl,?_,W',l,R'',trivial⟩
  exact Sm.trans ⟨h',t,rfl,ax _⟩ (es▸hs.2)
end
end
end
noncomputable def ag0(x:l0)(a:aC):Option Obj:=bif bp a x.n then alive ((x.tree.get a).getD default)else none
theorem acA(x:l0)(a:aC):x.abs.heap.get? a=ag0 x a:=by
 unfold ag0
 cases z:bp a x.n with
 |false=>exact abs_get_none fun h=>by rw[cX.mpr h]at z;cases z
 |true=>
  have h:a<x.n:=cX.mp z
  show(absHeap x.tree x.n x.life).get? a=alive ((x.tree.get a).getD default)
  cases g:x.tree.get a with
  |some o=>exact abs_get h g
  |none=>
   unfold Heap.get?
   rw[absHeap_at,if_pos h,g];rfl
noncomputable def G7(as:List aC)(x:l0):dQ:=as.filterMap fun a=>(ag0 x a).map (a,·)
theorem Zt(as:List aC)(x:l0):y8 as x.abs.heap=G7 as x:=by
 unfold y8 G7
 exact congrArg (fun f=>as.filterMap f) (funext fun a=>by rw[acA])
theorem agQ(as:List aC)(h:bH):Frag.In (y8 as h) h:=by
 intro a o e
 have m:=dH e
 unfold y8 at m
 obtain⟨b,_,hb⟩:=lp.mp m
 obtain⟨o',ho,e'⟩:=gZ.mp hb
 cases e'
 exact ho
noncomputable def Wz:List aC:=[1,2,3,12,34,35,44,45,55,56,57,58,64,65,74,75,111,112,122,128,129,135,136,142,143,149,150,156,157,163,164,170,171,177,178,183,184,185,186,187,193,194,200,201,203,204,214,215,219,220,226,227,233,234,247,248,254,255,261,262,268,269,273,274,280,281,287,288,294,295,301,302,308,309,315,316,322,323,329,330,336,337,343,344,350,351,357,358,366,367,387,388,408,409,413,414,420,421,432,433,439,440,482,483,489,490,494,495,501,502,503,504,505,509,510,516,517,521,522,528,529,535,536,542,543,549,550,556,557,563,564,570,571,577,578,584,585,586,587,588,594,595,601,602,604,605,622,623,629,630,632,633,650,651,657,658,671,672,676,677,679,680,697,698,702,703,705,706,711,724,725,729,730,743,744,750,751,757,758,764,765,771,772,778,779,785,786,792,793,799,800,806,807,813,814,825,826,832,833,839,840,846,847,851,852,860,866,867,868,874,875,881,882,888,889,895,896,897,903,904,910,911,917,918,924,925,931,932,940,946,947,953,954,960,961,962,968,969,975,976,982,983,989,990,996,997,1003,1004,1017,1018,1020,1021,1031,1032,1038,1039,1045,1046,1052,1053,1059,1060,1064,1065,1071,1072,1076,1077,1081,1082]
noncomputable def Uw(K:dQ)(a:aC):Option (List cn):=(K.lookup a).bind fun o=>match o.data with
 | .func fd=>(match fd.body with
  | .stmts b=>some b
  |_=>none)
 |_=>none
noncomputable def afk(K:dQ):Bool:=(tW.take 56).all (frB K)
noncomputable def amI(K:dQ):Bool:=(tW.drop 56).all (frB K)&&(yV.all (crB K)&&(Kk.all (mrB K)&&(OO.all (grB K)&&(Un.all (blB K)&&(PX K "show_expression" &&(PX K "no_expression" &&(keepIn K (.ref 112)&&(M3 K "GrammarFault" (.ref 112)&&(gfB K&&((K.lookup sysModules).isSome&&(M3 K "USAGE_NAMES" (.ref 503)&&M3 K "USAGE_WORDS" (.ref 711))))))))))))
noncomputable def Sj(K:dQ):Bool:=afk K&&amI K
noncomputable def kY(K:dQ):=(K.lookup 503,K.lookup 711,nsIn K 3 "RESERVED",Uw K 65)
noncomputable def tY(w:dD)(k v:Str)(t:Nat):g9:=⟨hashStr w k,.str k t,.str v (t+1)⟩
noncomputable def unO(w:dD):Obj:={cls:=.type "dict",data:=.dict #[tY w "display" "DISPLAY" 925,tY w "binary" "BINARY" 927,tY w "packed" "PACKED-DECIMAL" 929,tY w "index" "INDEX" 931] 4}
noncomputable def uwO(w:dD):Obj:={cls:=.type "dict",data:=.dict #[tY w "DISPLAY" "display" 1250,tY w "COMP" "binary" 1252,tY w "COMPUTATIONAL" "binary" 1254,tY w "BINARY" "binary" 1256,tY w "PACKED-DECIMAL" "packed" 1258,tY w "COMP-3" "packed" 1260,tY w "COMPUTATIONAL-3" "packed" 1262,tY w "INDEX" "index" 1264] 8}
noncomputable def FP:Str:=lu " ACCEPT ACCESS ADD ADVANCING AFTER ALL ALPHABETIC ALPHABETIC-LOWER ALPHABETIC-UPPER ALPHANUMERIC ALPHANUMERIC-EDITED ALSO ALTERNATE AND ANY ARE AREA AREAS ASCENDING ASSIGN AT AUTHOR BEFORE BINARY BLANK BLOCK BY CALL CHARACTER CHARACTERS CLOSE COMP COMP-3 COMPUTATIONAL COMPUTATIONAL-3 COMPUTE CONFIGURATION CONTAINS CONTENT CONTINUE CONVERTING COPY CORR CORRESPONDING COUNT DATA DATE-COMPILED DATE-WRITTEN DELETE DELIMITED DELIMITER DEPENDING DESCENDING DISPLAY DIVIDE DIVISION DOWN DUPLICATES DYNAMIC ELSE END END-ADD END-CALL END-COMPUTE END-DELETE END-DIVIDE END-EVALUATE END-IF END-MULTIPLY END-PERFORM END-READ END-RETURN END-REWRITE END-SEARCH END-START END-STRING END-SUBTRACT END-UNSTRING END-WRITE ENVIRONMENT EQUAL ERROR EVALUATE EXCEPTION EXIT EXTEND EXTERNAL FALSE FD FILE FILE-CONTROL FILLER FIRST FOR FROM GIVING GLOBAL GO GREATER HIGH-VALUE HIGH-VALUES I-O I-O-CONTROL IDENTIFICATION IF IN INDEX INDEXED INITIAL INITIALIZE INPUT INPUT-OUTPUT INSPECT INSTALLATION INTO INVALID IS JUST JUSTIFIED KEY LABEL LEADING LEFT LESS LINE LINES LINKAGE LOCK LOW-VALUE LOW-VALUES MERGE MODE MOVE MULTIPLY NATIVE NEGATIVE NEXT NO NOT NUMERIC NUMERIC-EDITED OBJECT-COMPUTER OCCURS OF OFF OMITTED ON OPEN OPTIONAL OR ORDER ORGANIZATION OTHER OUTPUT OVERFLOW PACKED-DECIMAL PERFORM PIC PICTURE POINTER POSITIVE PROCEDURE PROCEED PROGRAM PROGRAM-ID QUOTE QUOTES RANDOM READ RECORD RECORDS REDEFINES REFERENCE RELATIVE RELEASE REMAINDER RENAMES REPLACE REPLACING RETURN REWRITE RIGHT ROUNDED RUN SAME SD SEARCH SECTION SECURITY SELECT SENTENCE SEPARATE SEQUENTIAL SET SIGN SIZE SORT SORT-MERGE SOURCE-COMPUTER SPACE SPACES SPECIAL-NAMES STANDARD START STATUS STOP STRING SUBTRACT SYNC SYNCHRONIZED TALLYING TEST THAN THEN THROUGH THRU TIMES TO TRAILING TRUE UNSTRING UNTIL UP UPON USAGE USING VALUE VALUES VARYING WHEN WITH WORKING-STORAGE WRITE ZERO ZEROES ZEROS "
noncomputable def kYa(w:dD):=(some (unO w),some (uwO w),some (some (fZ FP 1445)),some leB)
structure amy(C:PC):Prop where
 read_entry: ∀{k f},aF C k f qw->aF C k f wh
 is_level_here: ∀{k f},aF C k f jR->aF C k f pV
 read_entries: ∀{k f},aF C k f nq->aF C k f nj
 law_item: ∀{k f},aF C k f yM->aF C k f Bl
 law_leaf: ∀{k f},aF C k f yN->aF C k f Bm
 law_root: ∀{k f},aF C k f sP->aF C k f Bn
def Zz(C:PC)(mac:List Nat->List AV):Prop:=rt C/\amy C/\p7 C mac bx VB
section
variable{C:PC}{mac:List Nat->List AV}(Z:Zz C mac){lab:List AV->List AV}{k kF:Nat}{x:Str}
include Z
theorem fC(i:Nat)(r:FR){F:aW}{l:List (Str×aW)}(h:aF C kF (.ref r.f) F)(t:N4 C k l)(e:tW[i]? =some r:=by rfl)(hx:r.x=some x:=by rfl)(hk:kF<=k:=by first|decide|omega):N4 C k ((x,F)::l):=f1 (Z.1.cf e hx) h hk t
omit Z in theorem fB {F:aW} {l:List (Str×aW)} {fv:ah} (c:Cl C x fv) (h:aF C 0 fv F) (t:N4 C k l):N4 C k ((x,F)::l):=f1 c h (aU _) t
omit Z in theorem fK {F:aW} {l:List (Str×aW)} {fv:ah} (c:Cl C x fv) (h:aF C kF fv F) (t:N4 C k l) (hk:kF<=k:=by first|decide|omega):N4 C k ((x,F)::l):=f1 c h hk t
omit Z in theorem mC {D:gK} {l:List (Str×gK)} (h:dW C kF x D) (t:YN C k l) (hk:kF<=k:=by first|decide|omega):YN C k ((x,D)::l):=m1 h hk t
theorem gC(i:Nat){a:AV}{l:List (Str×AV)}(t:YK C l)(e:OO[i]? =some ⟨x,a⟩:=by rfl):YK C ((x,a)::l):=g1 (Z.1.gr e) t
theorem cR(i:Nat)(r:FR)(Γ:cA){Q:SM}(hG:YK C Γ.glb)(hF:N4 C k Γ.fns)(hM:YN C k Γ.mts)(e:tW[i]? =some r:=by rfl)(hk:5<=k:=by first|decide|omega)(hN:Γ.nms=r.N:=by rfl)(q:Q=b4 Γ r.t:=by kernel_rfl):pK C (k+1) (.ref r.f) (bf r.n r.dfl Q):=anL Z.1 e hk hN q hG hF hM
theorem jz:Cl C "len" (.builtin "len"):=Z.1.bl (i:=0) rfl (by decide) (by boot_by_name) fg
theorem Iu:Cl C "range" (.type "range"):=Z.1.bl (i:=1) rfl (by decide) (by boot_by_name) mj
theorem YZ:Cl C "str" (.type "str"):=Z.1.bl (i:=2) rfl (by decide) (by boot_by_name) mj
theorem xt:Cl C "tuple" (.type "tuple"):=Z.1.bl (i:=3) rfl (by decide) (by boot_by_name) mj
theorem akS:Cl C "list" (.type "list"):=Z.1.bl (i:=4) rfl (by decide) (by boot_by_name) mj
theorem afb:Cl C "abs" (.builtin "abs"):=Z.1.bl (i:=5) rfl (by decide) (by boot_by_name) fg
theorem afd:Cl C "chr" (.builtin "chr"):=Z.1.bl (i:=6) rfl (by decide) (by boot_by_name) fg
theorem afe:Cl C "ord" (.builtin "ord"):=Z.1.bl (i:=7) rfl (by decide) (by boot_by_name) fg
theorem acD:Cl C "sorted" (.builtin "sorted"):=Z.1.bl (i:=8) rfl (by decide) (by boot_by_name) fg
theorem anl:Cl C "int" (.type "int"):=Z.1.bl (i:=9) rfl (by decide) (by boot_by_name) mj
theorem afc:Cl C "bytes" (.type "bytes"):=Z.1.bl (i:=10) rfl (by decide) (by boot_by_name) mj
theorem anm:Cl C "min" (.builtin "min"):=Z.1.bl (i:=11) rfl (by decide) (by boot_by_name) fg
theorem BV: ∀n,aF C (5+n) (.ref 1072) (bt n)
 |0=>KP
 |n+1=>by
  have ih:=BV n
  exact(i9 (cR Z (k:=5+n) 0 pg (Nf (bt n)) g0 (fC Z 0 pg ih (fB (jz Z) eE f0)) m0).snd)
theorem Rg:aF C 6 (.ref 201) qv:=(cR Z 1 FO QL g0 f0 m0).snd
theorem BQ:aF C 6 (.ref 602) iX:=(cR Z 2 CN Na g0 f0 m0).snd
theorem Fv:aF C 6 (.ref 630) fe:=(cR Z 3 FM QK g0 f0 m0).snd
theorem MM:aF C 7 (.ref 672) jj:=(cR Z 4 Af K4 g0 f0 (mC (Z.1.mr (k:=6) (i:=1) (j:=2) rfl rfl rfl (by decide +kernel) (aF.le (k':=6) (BQ Z) (by decide)) dg) m0)).snd
theorem YF:dW C 7 "clauses" yI:=(Z.1.mr (k:=7) (i:=4) (j:=4) rfl rfl rfl (by decide +kernel) (aF.le (k':=7) (MM Z) (by decide)) dg)
theorem yT: ∀n,aF C (7+n) (.ref 677) (bw n)
 |0=>KP
 |n+1=>by
  have ih:=yT n
  exact(i9 (cR Z (k:=7+n) 5 I7 (RM (bw n)) g0 (fB (xt Z) om f0) (mC (Z.1.mr (k:=(7+n)) (i:=2) (j:=3) rfl rfl rfl (by decide +kernel) (aF.le (k':=(7+n)) (Fv Z) (by omega)) (Z.1.mr (k:=(7+n)) (i:=5) (j:=4) rfl rfl rfl (by decide +kernel) (aF.le (k':=(7+n)) ih (by omega)) dg)) (mC (YF Z) m0))).snd)
theorem Uf:aF C 14 (.ref 703) sO:=(i9 (cR Z 6 I6 RL g0 (fB (xt Z) om f0) (mC (Z.1.mr (k:=13) (i:=5) (j:=4) rfl rfl rfl (by decide +kernel) (aF.le (k':=13) (yT Z 6) (by decide)) dg) m0)).snd)
theorem akL:dW C 14 "told" qs:=(Z.1.mr (k:=14) (i:=0) (j:=1) rfl rfl rfl (by decide +kernel) (aF.le (k':=14) (Rg Z) (by decide)) (Z.1.mr (k:=14) (i:=1) (j:=2) rfl rfl rfl (by decide +kernel) (aF.le (k':=14) (BQ Z) (by decide)) (Z.1.mr (k:=14) (i:=2) (j:=3) rfl rfl rfl (by decide +kernel) (aF.le (k':=14) (Fv Z) (by decide)) (Z.1.mr (k:=14) (i:=5) (j:=4) rfl rfl rfl (by decide +kernel) (aF.le (k':=14) (yT Z 6) (by decide)) (Z.1.mr (k:=14) (i:=6) (j:=5) rfl rfl rfl (by decide +kernel) (aF.le (k':=14) (Uf Z) (by decide)) dg)))))
theorem vu:aF C 6 (.ref 882) kZ:=(cR Z 7 vK HA g0 (fB (jz Z) eE f0) m0).snd
theorem amx:dW C 6 "is_done" VY:=(Z.1.mr (k:=6) (i:=8) (j:=6) rfl rfl rfl (by decide +kernel) (aF.le (k':=6) (vu Z) (by decide)) dg)
theorem N2:dW C 6 "is_done" pX:=(Z.1.mr (k:=6) (i:=8) (j:=6) rfl rfl rfl (by decide +kernel) (Qk Z.2.2 (vu Z)) dg)
theorem BR:aF C 6 (.ref 875) hV:=(cR Z 8 CS Nb g0 (fB (jz Z) eE f0) m0).snd
theorem wX:dW C 6 "peek" gg:=(Z.1.mr (k:=6) (i:=7) (j:=6) rfl rfl rfl (by decide +kernel) (aF.le (k':=6) (BR Z) (by decide)) dg)
theorem TV:dW C 6 "peek" yL:=(Z.1.mr (k:=6) (i:=7) (j:=6) rfl rfl rfl (by decide +kernel) (X7 Z.2.2 (BR Z)) dg)
theorem vv:aF C 7 (.ref 904) il:=(cR Z 9 vL HB g0 f0 (mC (wX Z) m0)).snd
theorem ve:dW C 7 "is_kind" eZ:=(Z.1.mr (k:=7) (i:=11) (j:=6) rfl rfl rfl (by decide +kernel) (aF.le (k':=7) (vv Z) (by decide)) dg)
theorem yD:dW C 7 "is_kind" tM:=(Z.1.mr (k:=7) (i:=11) (j:=6) rfl rfl rfl (by decide +kernel) (Ql Z.2.2 (vv Z)) dg)
theorem vx:aF C 8 (.ref 911) jr:=(cR Z 10 vO uL g0 f0 (mC (rf (k:=0)) (mC (wX Z) (mC (ve Z) m0)))).snd
theorem VR:dW C 8 "is_word" qR:=(Z.1.mr (k:=8) (i:=12) (j:=6) rfl rfl rfl (by decide +kernel) (aF.le (k':=8) (vx Z) (by decide)) dg)
theorem N3:dW C 8 "is_word" Gs:=(Z.1.mr (k:=8) (i:=12) (j:=6) rfl rfl rfl (by decide +kernel) (Qn Z.2.2 (vx Z)) dg)
theorem vw:aF C 8 (.ref 969) jq:=(cR Z 11 vN HC g0 f0 (mC (wX Z) (mC (ve Z) m0))).snd
theorem VQ:dW C 8 "is_sign" vi:=(Z.1.mr (k:=8) (i:=19) (j:=6) rfl rfl rfl (by decide +kernel) (aF.le (k':=8) (vw Z) (by decide)) dg)
theorem tH:dW C 8 "is_sign" pY:=(Z.1.mr (k:=8) (i:=19) (j:=6) rfl rfl rfl (by decide +kernel) (Qm Z.2.2 (vw Z)) dg)
theorem sd:aF C 9 (.ref 976) jH:=(cR Z 12 sq Dy g0 f0 (mC (VQ Z) m0)).snd
theorem akJ:dW C 9 "skip_sign" Q2:=(Z.1.mr (k:=9) (i:=20) (j:=6) rfl rfl rfl (by decide +kernel) (aF.le (k':=9) (sd Z) (by decide)) dg)
theorem yG:dW C 9 "skip_sign" sM:=(Z.1.mr (k:=9) (i:=20) (j:=6) rfl rfl rfl (by decide +kernel) (KQ Z.2.2 (sd Z)) dg)
theorem E5:aF C 10 (.ref 983) r9:=(cR Z 13 sp rj g0 f0 (mC (yG Z) m0)).snd
theorem H3:dW C 10 "need_sign" yK:=(Z.1.mr (k:=10) (i:=21) (j:=6) rfl rfl rfl (by decide +kernel) (aF.le (k':=10) (E5 Z) (by decide)) dg)
theorem BS:aF C 9 (.ref 918) oO:=(cR Z 14 CT Nc g0 (fB (jz Z) eE f0) (mC (rf (k:=0)) (mC (VR Z) m0))).snd
theorem apd:dW C 9 "skip" aeX:=(Z.1.mr (k:=9) (i:=13) (j:=6) rfl rfl rfl (by decide +kernel) (aF.le (k':=9) (BS Z) (by decide)) dg)
theorem yF:dW C 9 "skip" vj:=(Z.1.mr (k:=9) (i:=13) (j:=6) rfl rfl rfl (by decide +kernel) (X8 Z.2.2 (BS Z)) dg)
theorem M0:aF C 11 (.ref 833) zV:=(cR Z 15 rU yt g0 f0 (mC (H3 Z) (mC (yF Z) m0))).snd
theorem Wf:aF C 6 (.ref 658) Lm:=(cR Z 16 LX JD g0 f0 (mC (fx (k:=0)) m0)).snd
theorem TU:dW C 6 "add" yH:=(Z.1.mr (k:=6) (i:=3) (j:=4) rfl rfl rfl (by decide +kernel) (aF.le (k':=6) (Wf Z) (by decide)) dg)
theorem OD:aF C 7 (.ref 800) BC:=(cR Z 17 um AN (gC Z 20 (gC Z 17 g0)) (fB (jz Z) eE f0) (mC (fx (k:=0)) (mC (TU Z) (mC (aec (k:=0)) m0)))).snd
theorem acy:aF C 8 (.ref 807) R9:=(cR Z 18 KJ QN (gC Z 16 (gC Z 17 (gC Z 15 g0))) (fB (jz Z) eE (fC Z 17 um (OD Z) f0)) (mC (TU Z) (mC (fx (k:=0)) m0))).snd
theorem Kg:aF C 7 (.ref 793) jR:=(cR Z 19 qi JH g0 f0 (mC (TV Z) m0)).snd
theorem Iw:pK C 6 (.ref 623) (bf lh.n lh.dfl vp):=cR Z 20 lh uJ g0 (fB (xt Z) om f0) m0
theorem Ov:aF C 7 (.ref 633) xc:=(mv ((Z.1.cr (i:=3) rfl).2 (Iw Z)))
theorem Kd:aF C 10 (.ref 932) xf:=(cR Z 21 xS wb g0 f0 (mC (rf (k:=0)) (mC (yF Z) m0))).snd
theorem wY:dW C 10 "one_of" th:=(Z.1.mr (k:=10) (i:=15) (j:=6) rfl rfl rfl (by decide +kernel) (aF.le (k':=10) (Kd Z) (by decide)) dg)
theorem Ik:aF C 6 (.ref 852) io:=(cR Z 22 pn uO (gC Z 21 g0) (fB (afc Z) X5 (fB (afe Z) Tl f0)) m0).snd
theorem xn:aF C 8 (.ref 1018) l9:=(cR Z 23 xR JE g0 (fC Z 22 pn (zr (Ik Z)) f0) (mC (wX Z) (mC (ve Z) m0))).snd
theorem anb:dW C 8 "octets" YM:=(Z.1.mr (k:=8) (i:=25) (j:=6) rfl rfl rfl (by decide +kernel) (aF.le (k':=8) (xn Z) (by decide)) dg)
theorem acp:dW C 8 "octets" R7:=(Z.1.mr (k:=8) (i:=25) (j:=6) rfl rfl rfl (by decide +kernel) (RE Z.2.2 (xn Z)) dg)
theorem E4:aF C 9 (.ref 990) r8:=(cR Z 24 sk ri g0 f0 (mC (yD Z) (mC (tH Z) m0))).snd
theorem H0:dW C 9 "is_number" yJ:=(Z.1.mr (k:=9) (i:=22) (j:=6) rfl rfl rfl (by decide +kernel) (aF.le (k':=9) (E4 Z) (by decide)) dg)
theorem YV:aF C 6 (.ref 136) Oc:=(cR Z 25 Ho Mn g0 f0 m0).snd
theorem YT:aF C 6 (.ref 129) Oa:=(cR Z 26 Hm Ml g0 f0 m0).snd
theorem Wp:aF C 6 (.ref 164) Ls:=(cR Z 27 C7 JP (gC Z 0 g0) f0 (mC (L1 (k:=0)) m0)).snd
theorem z4:aF C 7 (.ref 171) iw:=(cR Z 28 nB yk (gC Z 0 g0) (fC Z 26 Hm (YT Z) (fB (jz Z) eE (fC Z 27 C7 (Wp Z) (fB (Iu Z) vQ f0)))) (mC (L1 (k:=0)) m0)).snd
theorem BU:aF C 7 (.ref 896) oP:=(cR Z 29 CU Nd g0 f0 (mC (wX Z) m0)).snd
theorem ape:dW C 7 "take" aeY:=(Z.1.mr (k:=7) (i:=10) (j:=6) rfl rfl rfl (by decide +kernel) (aF.le (k':=7) (BU Z) (by decide)) dg)
theorem H4:dW C 7 "take" D0:=(Z.1.mr (k:=7) (i:=10) (j:=6) rfl rfl rfl (by decide +kernel) (X9 Z.2.2 (BU Z)) dg)
theorem Ke:aF C 10 (.ref 997) xg:=(cR Z 30 xT wc g0 (fC Z 25 Ho (YV Z) (fC Z 28 nB (z4 Z) f0)) (mC (H4 Z) (mC (yG Z) (mC (H0 Z) m0)))).snd
theorem acq:dW C 10 "signed" R8:=(Z.1.mr (k:=10) (i:=23) (j:=6) rfl rfl rfl (by decide +kernel) (aF.le (k':=10) (Ke Z) (by decide)) dg)
theorem MV:aF C 11 (.ref 409) zQ:=(cR Z 31 rP yo g0 f0 (mC (yD Z) (mC (acp Z) (mC (H0 Z) (mC (acq Z) m0))))).snd
theorem OA:aF C 6 (.ref 847) Bz:=(cR Z 32 uj AK (g1 Z.1.rs g0) f0 m0).snd
theorem Ii:aF C 8 (.ref 947) vm:=(cR Z 33 vM uK g0 (fC Z 32 uj (OA Z) f0) (mC (TV Z) (mC (yD Z) m0))).snd
theorem yE:dW C 8 "is_name" tN:=(Z.1.mr (k:=8) (i:=16) (j:=6) rfl rfl rfl (by decide +kernel) (aF.le (k':=8) (Ii Z) (by decide)) dg)
theorem MU:aF C 12 (.ref 725) zP:=(cR Z 34 rO yn (g1 Z.1.noe g0) (fC Z 31 rP (MV Z) f0) (mC (yE Z) m0)).snd
theorem OF:aF C 13 (.ref 772) BE:=(cR Z 35 uq AP g0 (fC Z 34 rO (MU Z) f0) (mC (tH Z) (mC (fx (k:=0)) (mC (wY Z) m0)))).snd
theorem Ow:aF C 9 (.ref 954) Bu:=(cR Z 36 CO AG g0 f0 (mC (H4 Z) (mC (yE Z) m0))).snd
theorem H1:dW C 9 "name" DZ:=Z.1.mro (i:=17) (r:=⟨1021,"name",954⟩) rfl rfl (fun i hi=>by simp only[aH,bb,or_false]at hi;rcases hi with rfl|rfl|rfl|rfl<;>(rw[Z.1.fn _ _ rfl];decide)) (Ow Z)
theorem Ox:aF C 10 (.ref 925) Bv:=(cR Z 37 CQ AH g0 f0 (mC (yF Z) m0)).snd
theorem akK:dW C 10 "need" aa3:=(Z.1.mr (k:=10) (i:=14) (j:=6) rfl rfl rfl (by decide +kernel) (aF.le (k':=10) (Ox Z) (by decide)) dg)
theorem MW:aF C 11 (.ref 779) zR:=(cR Z 38 rQ yp g0 f0 (mC (wY Z) (mC (H1 Z) (mC (akK Z) m0)))).snd
theorem GX:pK C 6 (.ref 595) (bf kn.n kn.dfl tS):=cR Z 39 kn sA g0 (fB (xt Z) om f0) m0
theorem Sc:aF C 7 (.ref 605) J7:=(mv ((Z.1.cr (i:=2) rfl).2 (GX Z)))
theorem MN:aF C 10 (.ref 961) zJ:=(cR Z 40 Ah yc g0 f0 (mC (yE Z) (mC (H1 Z) m0))).snd
theorem aeS:dW C 10 "names" VZ:=(Z.1.mr (k:=10) (i:=18) (j:=6) rfl rfl rfl (by decide +kernel) (aF.le (k':=10) (MN Z) (by decide)) dg)
theorem MQ:aF C 9 (.ref 367) zM:=(cR Z 41 rL yg g0 f0 (mC (tH Z) m0)).snd
theorem Wj:aF C 11 (.ref 388) Ln:=(cR Z 42 CX JJ g0 (fB (xt Z) om (fC Z 41 rL (MQ Z) f0)) (mC (tH Z) (mC (wY Z) (mC (fx (k:=0)) (mC (H1 Z) m0))))).snd
theorem Wm:aF C 6 (.ref 143) Lq:=(cR Z 43 C0 JM g0 f0 m0).snd
theorem Wn:aF C 7 (.ref 157) n6:=(cR Z 44 C5 JN g0 (fC Z 43 C0 (Wm Z) f0) m0).snd
theorem Wi:aF C 6 (.ref 150) lA:=(cR Z 45 CW JI g0 f0 m0).snd
theorem zY:aF C 8 (.ref 1004) np:=(cR Z 46 Ai K7 g0 (fC Z 44 C5 (zr (Wn Z)) (fC Z 45 CW (zr (Wi Z)) (fC Z 28 nB (zr (z4 Z)) f0))) (mC (wX Z) (mC (ve Z) m0))).snd
theorem apb:dW C 8 "whole" acs:=(Z.1.mr (k:=8) (i:=24) (j:=6) rfl rfl rfl (by decide +kernel) (aF.le (k':=8) (zY Z) (by decide)) dg)
theorem VT:dW C 8 "whole" N8:=(Z.1.mr (k:=8) (i:=24) (j:=6) rfl rfl rfl (by decide +kernel) (Vp Z.2.2 (zY Z)) dg)
theorem OE:aF C 12 (.ref 730) BD:=(cR Z 47 uo AO (g1 Z.1.noe g0) (fK ((Z.1.cr (k:=0) (i:=2) rfl).1) (Sc Z) (fB (xt Z) om (fC Z 42 CX (Wj Z) f0))) (mC (yF Z) (mC (aeS Z) (mC (N3 Z) (mC (ta (k:=0)) (mC (H4 Z) (mC (VT Z) m0))))))).snd
theorem BZ:aF C 13 (.ref 744) qT:=(cR Z 48 lK pO (g1 Z.1.uw g0) (fC Z 47 uo (OE Z) f0) (mC (wY Z) (mC (qk (k:=0)) (mC (yF Z) m0)))).snd
theorem Oy:aF C 10 (.ref 751) Bw:=(cR Z 49 uh AI g0 f0 (mC (yF Z) m0)).snd
theorem E6:aF C 11 (.ref 758) sb:=(cR Z 50 mO rk (g1 Z.1.uw g0) f0 (mC (wY Z) (mC (qk (k:=0)) (mC (H4 Z) (mC (yD Z) m0))))).snd
theorem MT:aF C 14 (.ref 765) zO:=(cR Z 51 rN yj g0 (fC Z 48 lK (BZ Z) (fC Z 49 uh (Oy Z) (fC Z 50 mO (E6 Z) f0))) (mC (tH Z) (mC (fx (k:=0)) (mC (TV Z) m0)))).snd
theorem Ko:pK C 6 (.ref 651) (bf mm.n mm.dfl xj):=cR Z 52 mm vZ g0 f0 m0
theorem Nl:aF C 7 (.ref 680) oN:=((Z.1.cr (i:=4) rfl).2 (Ko Z))
theorem zX:aF C 7 (.ref 889) nk:=(cR Z 53 Ag K5 g0 (fK (Z.1.gfc) (Z.1.gf 5 (by decide)) (fB (anm Z) aeh (fB (jz Z) eE f0))) m0).snd
theorem apa:dW C 7 "fault" acr:=(Z.1.mr (k:=7) (i:=9) (j:=6) rfl rfl rfl (by decide +kernel) (aF.le (k':=7) (zX Z) (by decide)) dg)
theorem VS:dW C 7 "fault" N7:=(Z.1.mr (k:=7) (i:=9) (j:=6) rfl rfl rfl (by decide +kernel) (Vo Z.2.2 (zX Z)) dg)
theorem Rn:aF C 15 (.ref 786) qw:=(nW (cR Z 54 wF DG (gC Z 15 (gC Z 16 (gC Z 17 (gC Z 18 (gC Z 19 g0))))) (fK ((Z.1.cr (k:=0) (i:=3) rfl).1) (Ov Z) (fC Z 35 uq (OF Z) (fC Z 38 rQ (MW Z) (fC Z 51 rN (MT Z) (fK ((Z.1.cr (k:=0) (i:=4) rfl).1) (Nl Z) f0))))) (mC (H3 Z) (mC (yE Z) (mC (H1 Z) (mC (yF Z) (mC (VT Z) (mC (VS Z) m0))))))).snd)
theorem z6:aF C 16 (.ref 814) nq:=(nW (Hs (cR Z 55 nC ym g0 (fC Z 18 KJ (acy Z) (fC Z 19 qi (Z.2.1.is_level_here (Kg Z)) (fC Z 54 wF (Z.2.1.read_entry (Rn Z)) f0))) (mC (fx (k:=0)) m0)).snd))
theorem GN:aF C 17 (.ref 826) tR:=(cR Z 56 nU sE (gC Z 17 g0) (fC Z 55 nC (Z.2.1.read_entries (z6 Z)) f0) (mC (fx (k:=0)) (mC (yG Z) (mC (H1 Z) (mC (VS Z) m0))))).snd
theorem Kn:pK C 6 (.ref 698) (bf ml.n ml.dfl xi):=cR Z 57 ml vY g0 f0 m0
theorem Ue:aF C 7 (.ref 706) vk:=((Z.1.cr (i:=5) rfl).2 (Kn Z))
theorem Uk:aF C 18 (.ref 840) oQ:=(nW (Hs (cR Z 58 zm F7 g0 (fC Z 15 rU (M0 Z) (fC Z 55 nC (Z.2.1.read_entries (z6 Z)) (fC Z 56 nU (GN Z) (fK ((Z.1.cr (k:=0) (i:=5) rfl).1) (Ue Z) f0)))) (mC (N3 Z) (mC (N2 Z) (mC (H4 Z) m0)))).snd))
theorem GY:pK C 6 (.ref 867) (bf kp.n kp.dfl ke):=cR Z 59 kp E9 g0 f0 m0
theorem acx:aF C 7 (.ref 1021) xe:=(aej Z.2.2 ((Z.1.cr (i:=6) rfl).2 (GY Z)))
theorem Ix:pK C 6 (.ref 194) (bf lj.n lj.dfl vq):=cR Z 60 lj uM g0 f0 m0
theorem Wg:aF C 7 (.ref 204) N9:=(mv ((Z.1.cr (i:=1) rfl).2 (Ix Z)))
theorem GG:aF C 6 (.ref 330) tQ:=(cR Z 61 nT sD g0 (fB (jz Z) eE f0) m0).snd
theorem qx:aF C 6 (.ref 215) mZ:=(cR Z 62 kH DA g0 (fB (afd Z) Tk (fB (afe Z) Tl f0)) m0).snd
theorem BW:aF C 7 (.ref 220) vn:=(cR Z 63 ra JG g0 (fC Z 62 kH (qx Z) f0) (mC (qk (k:=0)) m0)).snd
theorem OC:aF C 6 (.ref 269) BB:=(cR Z 64 ul AM (gC Z 3 g0) (fB (jz Z) eE f0) m0).snd
theorem GC:aF C 8 (.ref 295) tP:=(cR Z 65 nS sC g0 (fC Z 63 ra (BW Z) (fC Z 64 ul (OC Z) f0)) m0).snd
theorem yU:aF C 6 (.ref 234) sQ:=(cR Z 66 pk F6 g0 (fB (jz Z) eE f0) m0).snd
theorem YU:aF C 7 (.ref 309) Ob:=(cR Z 67 Hn Mm (gC Z 9 (gC Z 10 g0)) (fC Z 66 pk (yU Z) f0) (mC (rf (k:=0)) m0)).snd
theorem GB:aF C 6 (.ref 288) tO:=(cR Z 68 nR sB (gC Z 7 g0) (fB (jz Z) eE f0) (mC (wH (k:=0)) m0)).snd
theorem MS:aF C 7 (.ref 227) zN:=(cR Z 69 rM yh (gC Z 1 g0) (fC Z 62 kH (qx Z) f0) m0).snd
theorem Rk:aF C 8 (.ref 302) Fp:=(cR Z 70 wD DE (gC Z 2 (gC Z 8 g0)) (fC Z 69 rM (MS Z) f0) m0).snd
theorem OB:aF C 6 (.ref 262) BA:=(cR Z 71 uk AL g0 (fB (jz Z) eE f0) m0).snd
theorem MO:aF C 8 (.ref 274) zK:=(cR Z 72 rJ ye (gC Z 4 (gC Z 5 g0)) (fB (jz Z) eE (fC Z 63 ra (BW Z) f0)) m0).snd
theorem Ij:aF C 6 (.ref 281) vo:=(cR Z 73 pi uN (gC Z 6 g0) (fB (jz Z) eE f0) m0).snd
theorem OG:aF C 7 (.ref 248) Gw:=(cR Z 74 zn Mo g0 (fC Z 62 kH (qx Z) (fB (jz Z) eE f0)) m0).snd
theorem Rl:aF C 8 (.ref 255) Fq:=(cR Z 75 wE DF (gC Z 2 g0) (fC Z 74 zn (OG Z) f0) m0).snd
theorem Wo:aF C 9 (.ref 316) Lr:=(cR Z 76 C6 JO (gC Z 8 (gC Z 2 (gC Z 5 (gC Z 1 g0)))) (fB (jz Z) eE (fC Z 67 Hn (YU Z) (fC Z 68 nR (GB Z) (fC Z 70 wD (Rk Z) (fC Z 71 uk (OB Z) (fC Z 72 rJ (MO Z) (fC Z 73 pi (Ij Z) (fC Z 75 wE (Rl Z) (fC Z 74 zn (OG Z) (fC Z 62 kH (qx Z) f0)))))))))) m0).snd
theorem Ri:aF C 8 (.ref 344) Fn:=(cR Z 77 wB DB g0 (fC Z 66 pk (yU Z) (fC Z 63 ra (BW Z) f0)) m0).snd
theorem Oz:aF C 7 (.ref 323) Bx:=(cR Z 78 ui AJ g0 (fC Z 66 pk (yU Z) f0) m0).snd
theorem Rh:aF C 10 (.ref 337) Fl:=(cR Z 79 wA Dz g0 (fB (jz Z) eE (fK ((Z.1.cr (k:=0) (i:=1) rfl).1) (Wg Z) (fC Z 61 nT (GG Z) (fC Z 65 nS (GC Z) (fC Z 76 C6 (Wo Z) (fC Z 77 wB (Ri Z) (fC Z 78 ui (Oz Z) f0))))))) (mC (fx (k:=0)) m0)).snd
theorem Um:aF C 11 (.ref 351) Ib:=(mv (cR Z 80 zp F9 g0 (fC Z 79 wA (Rh Z) f0) m0).snd)
theorem Kp:pK C 6 (.ref 35) (bf mo.n mo.dfl xk):=cR Z 81 mo wa g0 f0 m0
theorem akN:aF C 7 (.ref 45) aa4:=(mv ((Z.1.cr (i:=0) rfl).2 (Kp Z)))
theorem tV:aF C 12 (.ref 510) cE:=(i9 (cR Z 82 lL AU (gC Z 11 (gC Z 12 g0)) (fB (Iu Z) vQ (fB (jz Z) eE (fK ((Z.1.cr (k:=0) (i:=1) rfl).1) (Wg Z) (fC Z 80 zp (Um Z) (fK ((Z.1.cr (k:=0) (i:=0) rfl).1) (akN Z) f0))))) m0).snd)
theorem Kh:aF C 6 (.ref 495) D8:=(cR Z 83 xU QM g0 f0 (mC (qk (k:=0)) m0)).snd
theorem acz:aF C 6 (.ref 358) Sa:=(cR Z 84 KL QO g0 f0 (mC (wH (k:=0)) m0)).snd
theorem MZ:aF C 7 (.ref 414) zU:=(cR Z 85 rT ys g0 (fC Z 84 KL (acz Z) (fB (afd Z) Tk f0)) (mC (qk (k:=0)) m0)).snd
theorem Ki:aF C 6 (.ref 178) xh:=(cR Z 86 qj we g0 (fB (jz Z) eE (fB (YZ Z) KR (fB (afb Z) Tj f0))) m0).snd
theorem MY:aF C 7 (.ref 421) zT:=(cR Z 87 rS yr (gC Z 6 g0) (fB (afb Z) Tj (fC Z 86 qj (Ki Z) f0)) (mC (wH (k:=0)) m0)).snd
theorem MX:aF C 8 (.ref 440) zS:=(cR Z 88 rR yq g0 (fC Z 85 rT (MZ Z) (fC Z 87 rS (MY Z) f0)) m0).snd
theorem z0:aF C 9 (.ref 483) rx:=(cR Z 89 nA yi (g1 Z.1.show g0) (fC Z 88 rR (MX Z) f0) m0).snd
theorem OI:aF C 10 (.ref 543) lB:=(i9 (cR Z 90 uu AR g0 (fC Z 83 xU (Kh Z) (fC Z 89 nA (z0 Z) f0)) (mC (fx (k:=0)) m0)).snd)
theorem Sd:aF C 6 (.ref 502) J8:=(cR Z 91 Es QP g0 f0 m0).snd
theorem Wl:aF C 6 (.ref 433) Lp:=(cR Z 92 CZ JL g0 (fB (akS Z) aar f0) (mC (qk (k:=0)) m0)).snd
theorem Wk:aF C 7 (.ref 490) Lo:=(cR Z 93 CY JK (g1 Z.1.show g0) (fC Z 92 CZ (Wl Z) f0) m0).snd
theorem OH:aF C 8 (.ref 522) BF:=(cR Z 94 ur AQ g0 (fC Z 83 xU (Kh Z) (fC Z 91 Es (Sd Z) (fB (YZ Z) KR (fC Z 93 CY (Wk Z) f0)))) m0).snd
theorem Ul:aF C 6 (.ref 529) Ia:=(cR Z 95 zo F8 g0 f0 m0).snd
theorem MP:aF C 10 (.ref 536) zL:=(cR Z 96 rK yf (g1 Z.1.un g0) (fC Z 89 nA (z0 Z) (fC Z 94 ur (OH Z) (fC Z 95 zo (Ul Z) (fC Z 91 Es (Sd Z) f0)))) m0).snd
theorem Rj:aF C 6 (.ref 517) Fo:=(cR Z 97 wC DC g0 (fB (YZ Z) KR f0) m0).snd
theorem Ro:aF C 11 (.ref 550) m7:=(i9 (cR Z 98 wG DH (gC Z 13 g0) (fC Z 83 xU (Kh Z) (fC Z 96 rK (MP Z) (fC Z 97 wC (Rj Z) f0))) m0).snd)
theorem zZ: ∀n,aF C (12+n) (.ref 557) (cj n)
 |0=>KP
 |n+1=>by
  have ih:=zZ n
  exact(i9 (mv (cR Z (k:=12+n) 99 nz (K8 (cj n)) (gC Z 14 g0) (fC Z 99 nz ih (fC Z 82 lL (tV Z) (fC Z 90 uu (OI Z) (fC Z 98 wG (Ro Z) f0)))) (mC (ta (k:=0)) m0)).snd))
theorem z7:aF C 19 (.ref 564) iy:=(i9 (mv (cR Z 100 nD K9 g0 (fC Z 99 nz (zZ Z 6) f0) (mC (ta (k:=0)) m0)).snd))
theorem Il:aF C 20 (.ref 571) eJ:=(i9 (mv (cR Z 101 pp HD g0 (fC Z 82 lL (tV Z) (fC Z 100 nD (z7 Z) f0)) m0).snd))
theorem BX:aF C 21 (.ref 578) hY:=(L2 (i9 (mv (cR Z 102 pj Ng g0 (fC Z 82 lL (tV Z) (fC Z 101 pp (Il Z) (fC Z 100 nD (z7 Z) f0))) (mC (ta (k:=0)) m0)).snd)))
theorem Kf(hl: ∀L c,lF mac L c->lF mac (lab L) c):aF C 22 (.ref 1077) (eD lab):=(L2 (cR Z 103 qh (JF lab) g0 (fC Z 0 pg (BV Z 6) (fB (anl Z) aef (fB (Iu Z) vQ (fB (jz Z) eE (fB (acD Z) Vq (fC Z 58 zm (aeg Z.2.2 hl (Uk Z)) (fK ((Z.1.cr (k:=0) (i:=6) rfl).1) (acx Z) (fC Z 102 pj (BX Z) f0)))))))) (mC (akL Z) (mC (N2 Z) m0))).snd)
theorem sR:aF C 6 (.ref 1032) yO:=(cR Z 104 mq RN g0 f0 m0).snd
theorem Fu:aF C 8 (.ref 1046) qu:=(Ht (cR Z 105 s8 F3 g0 (fC Z 104 mq (vP Z.2.2 (sR Z)) (fK ((Z.1.cr (k:=0) (i:=3) rfl).1) (Ov Z) (fK ((Z.1.cr (k:=0) (i:=2) rfl).1) (Sc Z) (fK ((Z.1.cr (k:=0) (i:=4) rfl).1) (Nl Z) f0)))) (mC (fx (k:=0)) m0)).snd)
theorem Uh:aF C 8 (.ref 1046) yM:=(nW (Fu Z))
theorem Rf:aF C 9 (.ref 1053) wn:=(Ht (cR Z 106 zk F4 g0 (fC Z 104 mq (vP Z.2.2 (sR Z)) (fC Z 105 s8 (Fu Z) f0)) m0).snd)
theorem Ui:aF C 9 (.ref 1053) yN:=(nW (Rf Z))
theorem Uj:aF C 10 (.ref 1060) sP:=(nW (Ht (cR Z 107 zl F5 g0 (fC Z 104 mq (vP Z.2.2 (sR Z)) (fK ((Z.1.cr (k:=0) (i:=4) rfl).1) (Nl Z) (fB (Iu Z) vQ (fC Z 106 zk (Z.2.1.law_leaf (Ui Z)) (fC Z 105 s8 (Z.2.1.law_item (Uh Z)) f0))))) (mC (TU Z) m0)).snd))
theorem Ug:aF C 11 (.ref 1065) ma:=(aed Z.2.2 (fun b=>⟨(XR b).1,(XR b).2.1⟩) (nW (Hs (cR Z 108 zj F2 g0 (fC Z 107 zl (Z.2.1.law_root (Uj Z)) (fC Z 104 mq (vP Z.2.2 (sR Z)) (fK ((Z.1.cr (k:=0) (i:=5) rfl).1) (Ue Z) f0))) (mC (fx (k:=0)) m0)).snd)))
theorem Wh:aF C 6 (.ref 1039) qS:=(cR Z 109 CV VF g0 f0 m0).snd
theorem anf(hl: ∀L c,lF mac L c->lF mac (lab L) c):aF C 23 (.ref 1082) (YO lab):=(cR Z 110 aan (amw lab) g0 (fC Z 103 qh (Kf Z hl) (fC Z 108 zj (Ug Z) (fC Z 109 CV (Wh Z) (fK ((Z.1.cr (k:=0) (i:=5) rfl).1) (Ue Z) (fC Z 102 pj (BX Z) (fK ((Z.1.cr (k:=0) (i:=4) rfl).1) (Nl Z) (fK ((Z.1.cr (k:=0) (i:=3) rfl).1) (Ov Z) f0))))))) (mC (rf (k:=0)) (mC (TU Z) (mC (fx (k:=0)) m0)))).snd
end
noncomputable def ch(a:Nat)(l:List (Nat×Nat×Nat)):List (Nat×Nat×Nat):=(l.drop a).take 4
theorem Ce{β:Type}{l:List (Nat×Nat×Nat)}{a:Nat}{f g:Nat×Nat×Nat->β}(h:l.length<=a):(l.drop a).map f=(l.drop a).map g:=by rw[gY h];rfl
theorem a8{β:Type}{l:List (Nat×Nat×Nat)}{a:Nat}{f g:Nat×Nat×Nat->β}(h:(ch a l).map f=(ch a l).map g)(h':(l.drop (a+4)).map f=(l.drop (a+4)).map g):(l.drop a).map f=(l.drop a).map g:=by
 rw[<- jP 4 (l.drop a),bj,bj,pR]
 exact congr (congrArg (· ++ ·) h) h'
theorem Cc{β:Type}{l:List (Nat×Nat×Nat)}{f g:Nat×Nat×Nat->β}(h:(l.drop 0).map f=(l.drop 0).map g){x:Nat×Nat×Nat}(hx:x∈l):f x=g x:=iD.mp h x hx
section
variable(c k p:AV)
noncomputable def iB(lvl:Nat)(x:Nat×Nat×Nat):Option (List AV):=uB (.frz b9 fT (.int (am lvl)::j0 x c k p .none)) (bif aj lvl 1 then true else aj lvl 77)
noncomputable def iC(lvl:Nat)(x:Nat×Nat×Nat):Option (List AV):=some (kj lvl x)
theorem amd:(ch 0 iQ).map (iB c k p 1)=(ch 0 iQ).map (iC 1):=by kernel_rfl
theorem ame:(ch 4 iQ).map (iB c k p 1)=(ch 4 iQ).map (iC 1):=by kernel_rfl
theorem amf:(ch 8 iQ).map (iB c k p 1)=(ch 8 iQ).map (iC 1):=by kernel_rfl
theorem aje:(ch 12 iQ).map (iB c k p 1)=(ch 12 iQ).map (iC 1):=by kernel_rfl
theorem ajf:(ch 16 iQ).map (iB c k p 1)=(ch 16 iQ).map (iC 1):=by kernel_rfl
theorem ajg:(ch 20 iQ).map (iB c k p 1)=(ch 20 iQ).map (iC 1):=by kernel_rfl
theorem ajh:(ch 24 iQ).map (iB c k p 1)=(ch 24 iQ).map (iC 1):=by kernel_rfl
theorem aji:(ch 28 iQ).map (iB c k p 1)=(ch 28 iQ).map (iC 1):=by kernel_rfl
theorem ajj:(ch 32 iQ).map (iB c k p 1)=(ch 32 iQ).map (iC 1):=by kernel_rfl
theorem ajk:(ch 36 iQ).map (iB c k p 1)=(ch 36 iQ).map (iC 1):=by kernel_rfl
theorem ajl:(ch 40 iQ).map (iB c k p 1)=(ch 40 iQ).map (iC 1):=by kernel_rfl
theorem aqc{x:Nat×Nat×Nat}(hx:x∈iQ):iB c k p 1 x=iC 1 x:=Cc (a8 (amd c k p) (a8 (ame c k p) (a8 (amf c k p) (a8 (aje c k p) (a8 (ajf c k p) (a8 (ajg c k p) (a8 (ajh c k p) (a8 (aji c k p) (a8 (ajj c k p) (a8 (ajk c k p) (a8 (ajl c k p) (Ce (by decide))))))))))))) hx
theorem amg:(ch 0 dG).map (iB c k p 5)=(ch 0 dG).map (iC 5):=by kernel_rfl
theorem amh:(ch 4 dG).map (iB c k p 5)=(ch 4 dG).map (iC 5):=by kernel_rfl
theorem ami:(ch 8 dG).map (iB c k p 5)=(ch 8 dG).map (iC 5):=by kernel_rfl
theorem ajm:(ch 12 dG).map (iB c k p 5)=(ch 12 dG).map (iC 5):=by kernel_rfl
theorem ajn:(ch 16 dG).map (iB c k p 5)=(ch 16 dG).map (iC 5):=by kernel_rfl
theorem ajo:(ch 20 dG).map (iB c k p 5)=(ch 20 dG).map (iC 5):=by kernel_rfl
theorem ajp:(ch 24 dG).map (iB c k p 5)=(ch 24 dG).map (iC 5):=by kernel_rfl
theorem ajq:(ch 28 dG).map (iB c k p 5)=(ch 28 dG).map (iC 5):=by kernel_rfl
theorem ajr:(ch 32 dG).map (iB c k p 5)=(ch 32 dG).map (iC 5):=by kernel_rfl
theorem ajs:(ch 36 dG).map (iB c k p 5)=(ch 36 dG).map (iC 5):=by kernel_rfl
theorem ajt:(ch 40 dG).map (iB c k p 5)=(ch 40 dG).map (iC 5):=by kernel_rfl
theorem aju:(ch 44 dG).map (iB c k p 5)=(ch 44 dG).map (iC 5):=by kernel_rfl
theorem ajv:(ch 48 dG).map (iB c k p 5)=(ch 48 dG).map (iC 5):=by kernel_rfl
theorem ajw:(ch 52 dG).map (iB c k p 5)=(ch 52 dG).map (iC 5):=by kernel_rfl
theorem ajx:(ch 56 dG).map (iB c k p 5)=(ch 56 dG).map (iC 5):=by kernel_rfl
theorem ajy:(ch 60 dG).map (iB c k p 5)=(ch 60 dG).map (iC 5):=by kernel_rfl
theorem ajz:(ch 64 dG).map (iB c k p 5)=(ch 64 dG).map (iC 5):=by kernel_rfl
theorem ajA:(ch 68 dG).map (iB c k p 5)=(ch 68 dG).map (iC 5):=by kernel_rfl
theorem ajB:(ch 72 dG).map (iB c k p 5)=(ch 72 dG).map (iC 5):=by kernel_rfl
theorem ajC:(ch 76 dG).map (iB c k p 5)=(ch 76 dG).map (iC 5):=by kernel_rfl
theorem ajD:(ch 80 dG).map (iB c k p 5)=(ch 80 dG).map (iC 5):=by kernel_rfl
theorem ajE:(ch 84 dG).map (iB c k p 5)=(ch 84 dG).map (iC 5):=by kernel_rfl
theorem ajF:(ch 88 dG).map (iB c k p 5)=(ch 88 dG).map (iC 5):=by kernel_rfl
theorem aqd{x:Nat×Nat×Nat}(hx:x∈dG):iB c k p 5 x=iC 5 x:=Cc (a8 (amg c k p) (a8 (amh c k p) (a8 (ami c k p) (a8 (ajm c k p) (a8 (ajn c k p) (a8 (ajo c k p) (a8 (ajp c k p) (a8 (ajq c k p) (a8 (ajr c k p) (a8 (ajs c k p) (a8 (ajt c k p) (a8 (aju c k p) (a8 (ajv c k p) (a8 (ajw c k p) (a8 (ajx c k p) (a8 (ajy c k p) (a8 (ajz c k p) (a8 (ajA c k p) (a8 (ajB c k p) (a8 (ajC c k p) (a8 (ajD c k p) (a8 (ajE c k p) (a8 (ajF c k p) (Ce (by decide))))))))))))))))))))))))) hx
theorem ajb:(ch 0 sf).map (iB c k p 10)=(ch 0 sf).map (iC 10):=by kernel_rfl
theorem ajc:(ch 4 sf).map (iB c k p 10)=(ch 4 sf).map (iC 10):=by kernel_rfl
theorem ajd:(ch 8 sf).map (iB c k p 10)=(ch 8 sf).map (iC 10):=by kernel_rfl
theorem aoV{x:Nat×Nat×Nat}(hx:x∈sf):iB c k p 10 x=iC 10 x:=Cc (a8 (ajb c k p) (a8 (ajc c k p) (a8 (ajd c k p) (Ce (by decide))))) hx
theorem ajG:(ch 0 gw).map (iB c k p 77)=(ch 0 gw).map (iC 77):=by kernel_rfl
theorem ajH:(ch 4 gw).map (iB c k p 77)=(ch 4 gw).map (iC 77):=by kernel_rfl
theorem ajI:(ch 8 gw).map (iB c k p 77)=(ch 8 gw).map (iC 77):=by kernel_rfl
theorem ad4:(ch 12 gw).map (iB c k p 77)=(ch 12 gw).map (iC 77):=by kernel_rfl
theorem ad5:(ch 16 gw).map (iB c k p 77)=(ch 16 gw).map (iC 77):=by kernel_rfl
theorem ad6:(ch 20 gw).map (iB c k p 77)=(ch 20 gw).map (iC 77):=by kernel_rfl
theorem ad7:(ch 24 gw).map (iB c k p 77)=(ch 24 gw).map (iC 77):=by kernel_rfl
theorem ad8:(ch 28 gw).map (iB c k p 77)=(ch 28 gw).map (iC 77):=by kernel_rfl
theorem ad9:(ch 32 gw).map (iB c k p 77)=(ch 32 gw).map (iC 77):=by kernel_rfl
theorem aoW{x:Nat×Nat×Nat}(hx:x∈gw):iB c k p 77 x=iC 77 x:=Cc (a8 (ajG c k p) (a8 (ajH c k p) (a8 (ajI c k p) (a8 (ad4 c k p) (a8 (ad5 c k p) (a8 (ad6 c k p) (a8 (ad7 c k p) (a8 (ad8 c k p) (a8 (ad9 c k p) (Ce (by decide))))))))))) hx
end
section
variable(r n:Nat)(cells:List (Nat×bF))(rest:aa)
noncomputable def IX(cd:aa)(f:AV->AV->List AV):Option (AV×AS):=some (.ref (n+2),⟨n+3,(n,.lst cd)::(n+1,.lst [])::(n+2,.inst b9 fT (f (.ref n) (.ref (n+1))))::lm r (.orc 1021 rest) cells⟩)
noncomputable def iz(lvl:Nat)(x:Nat×Nat×Nat):Option (AV×AS):=vE r n cells (lz [.ref 0] ⟨1,[(0,.orc 1021 (kj lvl x++rest))]⟩)
noncomputable def iA(lvl:Nat)(x:Nat×Nat×Nat):Option (AV×AS):=IX r n cells rest [] (fun a b=>.int (am lvl)::j0 x a b .none .none)
theorem alP:(ch 0 iQ).map (iz r n cells rest 1)=(ch 0 iQ).map (iA r n cells rest 1):=by kernel_rfl
theorem alQ:(ch 4 iQ).map (iz r n cells rest 1)=(ch 4 iQ).map (iA r n cells rest 1):=by kernel_rfl
theorem alR:(ch 8 iQ).map (iz r n cells rest 1)=(ch 8 iQ).map (iA r n cells rest 1):=by kernel_rfl
theorem ail:(ch 12 iQ).map (iz r n cells rest 1)=(ch 12 iQ).map (iA r n cells rest 1):=by kernel_rfl
theorem aim:(ch 16 iQ).map (iz r n cells rest 1)=(ch 16 iQ).map (iA r n cells rest 1):=by kernel_rfl
theorem ain:(ch 20 iQ).map (iz r n cells rest 1)=(ch 20 iQ).map (iA r n cells rest 1):=by kernel_rfl
theorem aio:(ch 24 iQ).map (iz r n cells rest 1)=(ch 24 iQ).map (iA r n cells rest 1):=by kernel_rfl
theorem aip:(ch 28 iQ).map (iz r n cells rest 1)=(ch 28 iQ).map (iA r n cells rest 1):=by kernel_rfl
theorem aiq:(ch 32 iQ).map (iz r n cells rest 1)=(ch 32 iQ).map (iA r n cells rest 1):=by kernel_rfl
theorem air:(ch 36 iQ).map (iz r n cells rest 1)=(ch 36 iQ).map (iA r n cells rest 1):=by kernel_rfl
theorem ais:(ch 40 iQ).map (iz r n cells rest 1)=(ch 40 iQ).map (iA r n cells rest 1):=by kernel_rfl
theorem ap6{x:Nat×Nat×Nat}(hx:x∈iQ):iz r n cells rest 1 x=iA r n cells rest 1 x:=Cc (a8 (alP r n cells rest) (a8 (alQ r n cells rest) (a8 (alR r n cells rest) (a8 (ail r n cells rest) (a8 (aim r n cells rest) (a8 (ain r n cells rest) (a8 (aio r n cells rest) (a8 (aip r n cells rest) (a8 (aiq r n cells rest) (a8 (air r n cells rest) (a8 (ais r n cells rest) (Ce (by decide))))))))))))) hx
theorem alS:(ch 0 dG).map (iz r n cells rest 5)=(ch 0 dG).map (iA r n cells rest 5):=by kernel_rfl
theorem alT:(ch 4 dG).map (iz r n cells rest 5)=(ch 4 dG).map (iA r n cells rest 5):=by kernel_rfl
theorem alU:(ch 8 dG).map (iz r n cells rest 5)=(ch 8 dG).map (iA r n cells rest 5):=by kernel_rfl
theorem ait:(ch 12 dG).map (iz r n cells rest 5)=(ch 12 dG).map (iA r n cells rest 5):=by kernel_rfl
theorem aiu:(ch 16 dG).map (iz r n cells rest 5)=(ch 16 dG).map (iA r n cells rest 5):=by kernel_rfl
theorem aiv:(ch 20 dG).map (iz r n cells rest 5)=(ch 20 dG).map (iA r n cells rest 5):=by kernel_rfl
theorem aiw:(ch 24 dG).map (iz r n cells rest 5)=(ch 24 dG).map (iA r n cells rest 5):=by kernel_rfl
theorem aix:(ch 28 dG).map (iz r n cells rest 5)=(ch 28 dG).map (iA r n cells rest 5):=by kernel_rfl
theorem aiy:(ch 32 dG).map (iz r n cells rest 5)=(ch 32 dG).map (iA r n cells rest 5):=by kernel_rfl
theorem aiz:(ch 36 dG).map (iz r n cells rest 5)=(ch 36 dG).map (iA r n cells rest 5):=by kernel_rfl
theorem aiA:(ch 40 dG).map (iz r n cells rest 5)=(ch 40 dG).map (iA r n cells rest 5):=by kernel_rfl
theorem aiB:(ch 44 dG).map (iz r n cells rest 5)=(ch 44 dG).map (iA r n cells rest 5):=by kernel_rfl
theorem aiC:(ch 48 dG).map (iz r n cells rest 5)=(ch 48 dG).map (iA r n cells rest 5):=by kernel_rfl
theorem aiD:(ch 52 dG).map (iz r n cells rest 5)=(ch 52 dG).map (iA r n cells rest 5):=by kernel_rfl
theorem aiE:(ch 56 dG).map (iz r n cells rest 5)=(ch 56 dG).map (iA r n cells rest 5):=by kernel_rfl
theorem aiF:(ch 60 dG).map (iz r n cells rest 5)=(ch 60 dG).map (iA r n cells rest 5):=by kernel_rfl
theorem aiG:(ch 64 dG).map (iz r n cells rest 5)=(ch 64 dG).map (iA r n cells rest 5):=by kernel_rfl
theorem aiH:(ch 68 dG).map (iz r n cells rest 5)=(ch 68 dG).map (iA r n cells rest 5):=by kernel_rfl
theorem aiI:(ch 72 dG).map (iz r n cells rest 5)=(ch 72 dG).map (iA r n cells rest 5):=by kernel_rfl
theorem aiJ:(ch 76 dG).map (iz r n cells rest 5)=(ch 76 dG).map (iA r n cells rest 5):=by kernel_rfl
theorem aiK:(ch 80 dG).map (iz r n cells rest 5)=(ch 80 dG).map (iA r n cells rest 5):=by kernel_rfl
theorem aiL:(ch 84 dG).map (iz r n cells rest 5)=(ch 84 dG).map (iA r n cells rest 5):=by kernel_rfl
theorem aiM:(ch 88 dG).map (iz r n cells rest 5)=(ch 88 dG).map (iA r n cells rest 5):=by kernel_rfl
theorem ap7{x:Nat×Nat×Nat}(hx:x∈dG):iz r n cells rest 5 x=iA r n cells rest 5 x:=Cc (a8 (alS r n cells rest) (a8 (alT r n cells rest) (a8 (alU r n cells rest) (a8 (ait r n cells rest) (a8 (aiu r n cells rest) (a8 (aiv r n cells rest) (a8 (aiw r n cells rest) (a8 (aix r n cells rest) (a8 (aiy r n cells rest) (a8 (aiz r n cells rest) (a8 (aiA r n cells rest) (a8 (aiB r n cells rest) (a8 (aiC r n cells rest) (a8 (aiD r n cells rest) (a8 (aiE r n cells rest) (a8 (aiF r n cells rest) (a8 (aiG r n cells rest) (a8 (aiH r n cells rest) (a8 (aiI r n cells rest) (a8 (aiJ r n cells rest) (a8 (aiK r n cells rest) (a8 (aiL r n cells rest) (a8 (aiM r n cells rest) (Ce (by decide))))))))))))))))))))))))) hx
theorem aii:(ch 0 sf).map (iz r n cells rest 10)=(ch 0 sf).map (iA r n cells rest 10):=by kernel_rfl
theorem aij:(ch 4 sf).map (iz r n cells rest 10)=(ch 4 sf).map (iA r n cells rest 10):=by kernel_rfl
theorem aik:(ch 8 sf).map (iz r n cells rest 10)=(ch 8 sf).map (iA r n cells rest 10):=by kernel_rfl
theorem aox{x:Nat×Nat×Nat}(hx:x∈sf):iz r n cells rest 10 x=iA r n cells rest 10 x:=Cc (a8 (aii r n cells rest) (a8 (aij r n cells rest) (a8 (aik r n cells rest) (Ce (by decide))))) hx
theorem aiN:(ch 0 gw).map (iz r n cells rest 77)=(ch 0 gw).map (iA r n cells rest 77):=by kernel_rfl
theorem aiO:(ch 4 gw).map (iz r n cells rest 77)=(ch 4 gw).map (iA r n cells rest 77):=by kernel_rfl
theorem aiP:(ch 8 gw).map (iz r n cells rest 77)=(ch 8 gw).map (iA r n cells rest 77):=by kernel_rfl
theorem adR:(ch 12 gw).map (iz r n cells rest 77)=(ch 12 gw).map (iA r n cells rest 77):=by kernel_rfl
theorem adS:(ch 16 gw).map (iz r n cells rest 77)=(ch 16 gw).map (iA r n cells rest 77):=by kernel_rfl
theorem adT:(ch 20 gw).map (iz r n cells rest 77)=(ch 20 gw).map (iA r n cells rest 77):=by kernel_rfl
theorem adU:(ch 24 gw).map (iz r n cells rest 77)=(ch 24 gw).map (iA r n cells rest 77):=by kernel_rfl
theorem adV:(ch 28 gw).map (iz r n cells rest 77)=(ch 28 gw).map (iA r n cells rest 77):=by kernel_rfl
theorem adW:(ch 32 gw).map (iz r n cells rest 77)=(ch 32 gw).map (iA r n cells rest 77):=by kernel_rfl
theorem aoy{x:Nat×Nat×Nat}(hx:x∈gw):iz r n cells rest 77 x=iA r n cells rest 77 x:=Cc (a8 (aiN r n cells rest) (a8 (aiO r n cells rest) (a8 (aiP r n cells rest) (a8 (adR r n cells rest) (a8 (adS r n cells rest) (a8 (adT r n cells rest) (a8 (adU r n cells rest) (a8 (adV r n cells rest) (a8 (adW r n cells rest) (Ce (by decide))))))))))) hx
end
noncomputable def ol(n:Nat):Option (List AV):=bu (zI [qe n] ⟨0,[]⟩) fun t _=>d7 t fun t=>kG t false
theorem nmE{P:Nat->Prop}(h0:P 0)(h1:P 1)(h2:P 2)(h3:P 3)(h4:P 4)(h5:P 5)(h6:P 6)(h7:P 7)(h8:P 8)(h9:P 9)(h10:P 10)(h11:P 11)(h12:P 12)(h13:P 13)(h14:P 14)(h15:P 15)(h16:P 16){n:Nat}(hn:n<17):P n:=by
 rcases n with _|_|_|_|_|_|_|_|_|_|_|_|_|_|_|_|_|n
 all_goals first|assumption|exact absurd hn (b5.mpr (jn 17 n))
section
variable(r n:Nat)(cells:List (Nat×bF))(rest:aa)
noncomputable def pq(i:Nat):Option (AV×AS):=vE r n cells (lz [.ref 0] ⟨1,[(0,.orc 1021 (fw i++rest))]⟩)
noncomputable def pu(i:Nat):Option (AV×AS):=IX r n cells rest [qe i] (ahQ i)
noncomputable def Aj(i l:Nat):Option (AV×AS):=vE r n cells (lz [.ref 0] ⟨1,[(0,.orc 1021 (gu i l++rest))]⟩)
noncomputable def Ak(i l:Nat):Option (AV×AS):=IX r n cells rest [] (aih i l)
noncomputable def Am(i l:Nat)(p:AV):Option (List AV):=uB (.frz b9 fT (j6 i l p)) false
theorem apS:ol 0=some (fw 0):=by kernel_rfl
theorem apI:pq r n cells rest 0=pu r n cells rest 0:=by kernel_rfl
theorem apT:ol 1=some (fw 1):=by kernel_rfl
theorem apJ:pq r n cells rest 1=pu r n cells rest 1:=by kernel_rfl
theorem apU:ol 2=some (fw 2):=by kernel_rfl
theorem apK:pq r n cells rest 2=pu r n cells rest 2:=by kernel_rfl
theorem apV:ol 3=some (fw 3):=by kernel_rfl
theorem apL:pq r n cells rest 3=pu r n cells rest 3:=by kernel_rfl
theorem apW:ol 4=some (fw 4):=by kernel_rfl
theorem apM:pq r n cells rest 4=pu r n cells rest 4:=by kernel_rfl
theorem apX:ol 5=some (fw 5):=by kernel_rfl
theorem apN:pq r n cells rest 5=pu r n cells rest 5:=by kernel_rfl
theorem apY:ol 6=some (fw 6):=by kernel_rfl
theorem apO:pq r n cells rest 6=pu r n cells rest 6:=by kernel_rfl
theorem apZ:ol 7=some (fw 7):=by kernel_rfl
theorem apP:pq r n cells rest 7=pu r n cells rest 7:=by kernel_rfl
theorem ap0:ol 8=some (fw 8):=by kernel_rfl
theorem apQ:pq r n cells rest 8=pu r n cells rest 8:=by kernel_rfl
theorem ap1:ol 9=some (fw 9):=by kernel_rfl
theorem apR:pq r n cells rest 9=pu r n cells rest 9:=by kernel_rfl
theorem aoh:ol 10=some (fw 10):=by kernel_rfl
theorem aoa:pq r n cells rest 10=pu r n cells rest 10:=by kernel_rfl
theorem aoi:ol 11=some (fw 11):=by kernel_rfl
theorem aob:pq r n cells rest 11=pu r n cells rest 11:=by kernel_rfl
theorem aoj:ol 12=some (fw 12):=by kernel_rfl
theorem aoc:pq r n cells rest 12=pu r n cells rest 12:=by kernel_rfl
theorem aok:ol 13=some (fw 13):=by kernel_rfl
theorem aod:pq r n cells rest 13=pu r n cells rest 13:=by kernel_rfl
theorem aol:ol 14=some (fw 14):=by kernel_rfl
theorem aoe:pq r n cells rest 14=pu r n cells rest 14:=by kernel_rfl
theorem aom:ol 15=some (fw 15):=by kernel_rfl
theorem aof:pq r n cells rest 15=pu r n cells rest 15:=by kernel_rfl
theorem aon:ol 16=some (fw 16):=by kernel_rfl
theorem aog:pq r n cells rest 16=pu r n cells rest 16:=by kernel_rfl
theorem nmS{i:Nat}(hi:i<17):ol i=some (fw i):=nmE (P:=fun i=>ol i=some (fw i)) apS apT apU apV apW apX apY apZ ap0 ap1 aoh aoi aoj aok aol aom aon hi
theorem nmR{i:Nat}(hi:i<17):pq r n cells rest i=pu r n cells rest i:=nmE (P:=fun i=>pq r n cells rest i=pu r n cells rest i) (apI r n cells rest) (apJ r n cells rest) (apK r n cells rest) (apL r n cells rest) (apM r n cells rest) (apN r n cells rest) (apO r n cells rest) (apP r n cells rest) (apQ r n cells rest) (apR r n cells rest) (aoa r n cells rest) (aob r n cells rest) (aoc r n cells rest) (aod r n cells rest) (aoe r n cells rest) (aof r n cells rest) (aog r n cells rest) hi
theorem aoJ(p:AV):Am 17 0 p=some (gu 17 0):=by kernel_rfl
theorem aoz:Aj r n cells rest 17 0=Ak r n cells rest 17 0:=by kernel_rfl
theorem aoK(l:Nat)(p:AV):Am 17 (l+1) p=some (gu 17 (l+1)):=by kernel_rfl
theorem aoA(l:Nat):Aj r n cells rest 17 (l+1)=Ak r n cells rest 17 (l+1):=by kernel_rfl
theorem aoL(p:AV):Am 18 0 p=some (gu 18 0):=by kernel_rfl
theorem aoB:Aj r n cells rest 18 0=Ak r n cells rest 18 0:=by kernel_rfl
theorem aoM(l:Nat)(p:AV):Am 18 (l+1) p=some (gu 18 (l+1)):=by kernel_rfl
theorem aoC(l:Nat):Aj r n cells rest 18 (l+1)=Ak r n cells rest 18 (l+1):=by kernel_rfl
theorem aoN(p:AV):Am 19 0 p=some (gu 19 0):=by kernel_rfl
theorem aoD:Aj r n cells rest 19 0=Ak r n cells rest 19 0:=by kernel_rfl
theorem aoO(l:Nat)(p:AV):Am 19 (l+1) p=some (gu 19 (l+1)):=by kernel_rfl
theorem aoE(l:Nat):Aj r n cells rest 19 (l+1)=Ak r n cells rest 19 (l+1):=by kernel_rfl
theorem aoP(p:AV):Am 20 0 p=some (gu 20 0):=by kernel_rfl
theorem aoF:Aj r n cells rest 20 0=Ak r n cells rest 20 0:=by kernel_rfl
theorem aoQ(l:Nat)(p:AV):Am 20 (l+1) p=some (gu 20 (l+1)):=by kernel_rfl
theorem aoG(l:Nat):Aj r n cells rest 20 (l+1)=Ak r n cells rest 20 (l+1):=by kernel_rfl
theorem aoR(p:AV):Am 21 0 p=some (gu 21 0):=by kernel_rfl
theorem aoH:Aj r n cells rest 21 0=Ak r n cells rest 21 0:=by kernel_rfl
theorem aoS(l:Nat)(p:AV):Am 21 (l+1) p=some (gu 21 (l+1)):=by kernel_rfl
theorem aoI(l:Nat):Aj r n cells rest 21 (l+1)=Ak r n cells rest 21 (l+1):=by kernel_rfl
theorem rnE{P:Nat->Nat->Prop}(h0:P 0 0)(k0: ∀l,P 0 (l+1))(h1:P 1 0)(k1: ∀l,P 1 (l+1))(h2:P 2 0)(k2: ∀l,P 2 (l+1))(h3:P 3 0)(k3: ∀l,P 3 (l+1))(h4:P 4 0)(k4: ∀l,P 4 (l+1)){i:Nat}(hi:i<5)(l:Nat):P i l:=by
 rcases i with _|_|_|_|_|i
 all_goals first|(cases l<;>first|assumption|(first|exact k0 _|exact k1 _|exact k2 _|exact k3 _|exact k4 _))|exact absurd hi (b5.mpr (jn 5 i))
theorem rnS{i:Nat}(hi:i<5)(l:Nat)(p:AV):Am (17+i) l p=some (gu (17+i) l):=rnE (P:=fun i l=>Am (17+i) l p=some (gu (17+i) l)) (aoJ p) (fun l=>aoK l p) (aoL p) (fun l=>aoM l p) (aoN p) (fun l=>aoO l p) (aoP p) (fun l=>aoQ l p) (aoR p) (fun l=>aoS l p) hi l
theorem rnR{i:Nat}(hi:i<5)(l:Nat):Aj r n cells rest (17+i) l=Ak r n cells rest (17+i) l:=rnE (P:=fun i l=>Aj r n cells rest (17+i) l=Ak r n cells rest (17+i) l) (aoz r n cells rest) (fun l=>aoA r n cells rest l) (aoB r n cells rest) (fun l=>aoC r n cells rest l) (aoD r n cells rest) (fun l=>aoE r n cells rest l) (aoF r n cells rest) (fun l=>aoG r n cells rest l) (aoH r n cells rest) (fun l=>aoI r n cells rest l) hi l
end
noncomputable def bad:List AV:=[.ref 0]
noncomputable def q9(lvl:Nat):Bool:=S0 lvl [1,5,10,77]
noncomputable def itM(lvl i:Nat):List AV:=bif q9 lvl then kj lvl (kd lvl i)else bad
noncomputable def nmM(lv i:Nat):List AV:=bif bp (kd lv i).1 17 then fw (kd lv i).1 else bad
noncomputable def rnM(i l:Nat):List AV:=bif bp (kd 1 i).1 5 then gu (17+(kd 1 i).1) l else bad
noncomputable def vH(m x y:Nat):List AV:=bif aj m 1 then itM x y else bif aj m 2 then nmM x y else bif aj m 3 then rnM x y else bad
noncomputable def ir(ks:ac):List AV:=(KZ ks fun m x y=>some (vH m x y)).getD bad
noncomputable def XK(r:Rt):Bool:=bif aj r.lvl 1 then cP r.ts.length 2 else aj r.lvl 77&&(r.ts.isEmpty&&aj r.ren 0)
noncomputable def okC(code:ac):Bool:=(qX code fun lv _=>some (aj (A5 code).lvl lv)).getD false&&XK (A5 code)
noncomputable def RB(code:ac):List AV:=bif okC code then xp ir (FB (A5 code))else bad
noncomputable def mac(ks:ac):List AV:=bq (motive:=fun _=>List AV) [] (fun m r _=>bif aj m 4 then RB r else ir ks) ks
theorem lvE{P:Nat->Prop}{x:Nat}(h:q9 x=true)(h1:P 1)(h5:P 5)(h10:P 10)(h77:P 77):P x:=by
 have q: ∀{y:Nat},aj x y=true->y=x:=fun h=>(aD h).symm
 have h:(cond (aj x 1) true (cond (aj x 5) true (cond (aj x 10) true (cond (aj x 77) true false))))=true:=h
 rw[xz,xz,xz,xz,Bool.or_false]at h
 exact rE h (fun h=>q h▸h1) fun h=>rE h (fun h=>q h▸h5) fun h=>rE h (fun h=>q h▸h10) fun h=>q h▸h77
theorem XD{α:Type}{l:List α}: ∀{i:Nat} {x:α},PR l i=some x->x∈l:=by
 induction l with
 |nil=>exact fun h=>nn h
 |cons a l ih=>
  intro i x h
  cases i with
  |zero=>exact s1 (P:=fun x=>x∈a::l) h (ba ..)
  |succ i=>exact aQ _ (ih h)
theorem US(lvl i:Nat):kd lvl i∈kT lvl:=by
 unfold kd
 cases h:PR (kT lvl) i with
 |some x=>exact XD h
 |none=>
  have: ∃x,PR (kT lvl) 0=some x:=by
   unfold kT
   cases aj lvl 1
   ·cases aj lvl 5
    ·cases aj lvl 10<;>exact⟨_,rfl⟩
    ·exact⟨_,rfl⟩
   ·exact⟨_,rfl⟩
  obtain⟨x,hx⟩:=this
  rw[hx];exact XD hx
theorem I5{a:AV}{l:aa}:cZ (a::l)=((mN a fun c _ _=>some (!aj c 0)).getD false&&cZ l):=rfl
theorem lf{l m:aa}:cZ (l++m)=(cZ l&&cZ m):=kR
theorem Ep{a:Bool}{l:List (List Nat×List Nat×Nat)}: ∀{c:Nat} {a:Bool},cZ (ww a c l)=true:=by
 induction l with
 |nil=>exact rfl
 |cons x l ih=>exact fun{c a}=>show(true&&cZ (ww false (c+x.2.2) l))=true from ih
theorem abR{a:AV}(h:(mN a fun c _ _=>some (!aj c 0)).getD false=true)(mac:List Nat->List AV)(r:aa):xp mac (a::r)=a::xp mac r/\Hv a=false:=Va (Q:=fun a=>xp mac (a::r)=a::xp mac r/\Hv a=false) h fun c ks vs h=>⟨by rw[EA,h];rfl,show(aj c 0&&Cx ks)=false by rw[h];rfl⟩
theorem Ez{mac:List Nat->List AV}{l m:aa}:cZ l=true->xp mac (l++m)=l++xp mac m/\(uX mac m->uX mac (l++m)):=by
 induction l with
 |nil=>exact fun _=>⟨rfl,id⟩
 |cons a l ih=>exact fun h=>aE (I5▸h) fun h1 h2=>⟨((abR h1 mac (l++m)).1).trans (congrArg (a:: ·) (ih h2).1),fun w=>⟨fun z=>ff ((abR h1 mac []).2.symm.trans z),(ih h2).2 w⟩⟩
theorem zd{P:Prop}(h:aN bad=true):P:=ff h
theorem Z0{m x y:Nat}{P:Prop}(h:aN (vH m x y)=true)(k1:m=1->q9 x=true->vH m x y=kj x (kd x y)->P)(k2:m=2->(kd x y).1<17->vH m x y=fw (kd x y).1->P)(k3:m=3->(kd 1 x).1<5->vH m x y=gu (17+(kd 1 x).1) y->P):P:=by
 unfold vH at h k1 k2 k3
 cases q:aj m 1 with
 |true=>
  rw[q]at h k1
  unfold itM at h k1
  cases z:q9 x with
  |true=>rw[z]at k1;exact k1 (aD q) rfl rfl
  |false=>rw[z]at h;exact zd h
 |false=>
  rw[q]at h k2 k3
  cases q:aj m 2 with
  |true=>
   rw[q]at h k2
   unfold nmM at h k2
   cases z:bp (kd x y).1 17 with
   |true=>rw[z]at k2;exact k2 (aD q) (cX.mp z) rfl
   |false=>rw[z]at h;exact zd h
  |false=>
   rw[q]at h k3
   cases q:aj m 3 with
   |true=>
    rw[q]at h k3
    unfold rnM at h k3
    cases z:bp (kd 1 x).1 5 with
    |true=>rw[z]at k3;exact k3 (aD q) (cX.mp z) rfl
    |false=>rw[z]at h;exact zd h
   |false=>rw[q]at h;exact zd h
theorem SK{lvl:Nat}{x:Nat×Nat×Nat}:cZ (kj lvl x)=true:=Ep (a:=false)
theorem ahK{m x y:Nat}(h:aN (vH m x y)=true):cZ (vH m x y)=true:=Z0 h (fun _ _ e=>e▸SK) (fun _ _ e=>e▸Ep (a:=false)) fun _ _ e=>e▸Ep (a:=false)
theorem Xn{ks:ac}(h:aN (ir ks)=true):cZ (ir ks)=true:=by
 unfold ir at h ⊢
 cases e:KZ ks fun m x y=>some (vH m x y)with
 |none=>rw[e]at h;exact zd h
 |some l=>
  rw[e]at h
  exact kD (Q:=fun _=>cZ l=true) e fun m ks e=>kD (Q:=fun _=>cZ l=true) e fun x ks e=>kD (Q:=fun _=>cZ l=true) e fun y ks e=>kS e fun _ e=>s1 (P:=fun l=>aN l=true->cZ l=true) e ahK h
noncomputable def rG(l:List (List Nat)):List AV:=l.map fun ks=>.frz 0 ks []
theorem zA{f:List Nat->List AV}{l:List (List Nat)}{m:aa}:xp f (rG l++m)=xp f (rG l)++xp f m:=by
 induction l with
 |nil=>rfl
 |cons a l ih=>exact(congrArg (f a++ ·) ih).trans (aB ..).symm
theorem aaT{l:List (List Nat)}(h:aN (xp ir (rG l))=true):cZ (xp ir (rG l))=true:=by
 induction l with
 |nil=>rfl
 |cons a l ih=>
  have h:aN (ir a++xp ir (rG l))=true:=h
  rw[bV]at h
  show cZ (ir a++xp ir (rG l))=true
  rw[lf]
  exact aE h fun h1 h2=>by rw[Xn h1,ih h2];rfl
theorem ti{mac:List Nat->List AV}{l l':aa}{c:bF}(h:lF mac l c)(he:xp mac l'=xp mac l)(hw:uX mac l->uX mac l'):lF mac l' c:=by
 obtain⟨w,pre,h⟩:=h
 exact⟨hw w,pre,he.symm▸h⟩
theorem acM{mac:List Nat->List AV}{l l':aa}{c:bF}(h:lF mac l c)(he:xp mac l=l'++xp mac m):aN l'=true:=by
 obtain⟨w,pre,_,_,h,_⟩:=h
 rw[he,bV]at h
 exact aE h fun h _=>h
theorem Zc{mac:List Nat->List AV}(hm: ∀ks,aN (mac ks)=true->cZ (mac ks)=true){ks:ac}{vs l:aa}{c:bF}(h:lF mac (.frz 0 ks vs::l) c):aN (mac ks)=true/\lF mac (mac ks++l) c:=
 have hn:aN (mac ks)=true:=acM (m:=l) h rfl
 have hp:=Ez (mac:=mac) (m:=l) (hm ks hn)
 ⟨hn,ti h hp.1 fun w=>hp.2 w.2⟩
theorem SY{m:Nat}{r:ac}:mac (m::r)=bif aj m 4 then RB r else ir (m::r):=rfl
noncomputable def G3(lvl:Nat)(l:Lf):List (List Nat):=[1,lvl,l.i]::(bif l.c then[[2,lvl,l.i]]else[])
noncomputable def abt(t:Tn):List (List Nat):=match t with
 | .leaf l=>G3 5 l
 | .grp g a=>G3 5 g++G3 10 a
 | .grp2 g a b=>G3 5 g++(G3 10 a++G3 10 b)
noncomputable def abu(ts:List Tn):List (List Nat):=bq (motive:=fun _=>List (List Nat)) [] (fun t _ ih=>abt t++ih) ts
noncomputable def enN(i n:Nat):List (List Nat):=gV (motive:=fun _=>List (List Nat)) [] (fun l _=>[[3,i,l]]) n
noncomputable def afU(r:Rt):List (List Nat):=G3 r.lvl r.it++(abu r.ts++enN r.it.i r.ren)
theorem kE{l m:List (List Nat)}:rG (l++m)=rG l++rG m:=bj
theorem tZ(lvl:Nat)(l:Lf):Cn lvl l=rG (G3 lvl l):=by
 obtain⟨i,c⟩:=l
 cases c<;>rfl
theorem afX(t:Tn):afW t=rG (abt t):=by
 cases t with
 |leaf l=>exact tZ 5 l
 |grp g a=>exact(congr (congrArg _ (tZ 5 g)) (tZ 10 a)).trans kE.symm
 |grp2 g a b=>exact(congr (congrArg _ (tZ 5 g)) ((congr (congrArg _ (tZ 10 a)) (tZ 10 b)).trans kE.symm)).trans kE.symm
theorem acS(ts:List Tn):UF ts=rG (abu ts):=by
 induction ts with
 |nil=>rfl
 |cons t ts ih=>exact(congr (congrArg _ (afX t)) ih).trans kE.symm
theorem Nv(r:Rt):FB r=rG (afU r):=by
 have h:afV r=rG (enN r.it.i r.ren):=by
  obtain⟨lv,it,ts,n⟩:=r
  cases n<;>rfl
 exact(congr (congrArg _ (tZ _ _)) ((congr (congrArg _ (acS _)) h).trans kE.symm)).trans kE.symm
theorem UY: ∀ks,aN (mac ks)=true->cZ (mac ks)=true:=by
 intro ks h
 cases ks with
 |nil=>rfl
 |cons m r=>
  rw[SY]at h ⊢
  cases q:aj m 4 with
  |true=>
   rw[q]at h
   have h:aN (RB r)=true:=h
   show cZ (RB r)=true
   unfold RB at h ⊢
   cases z:okC r with
   |true=>
    rw[z]at h
    have h:aN (xp ir (FB (A5 r)))=true:=h
    show cZ (xp ir (FB (A5 r)))=true
    rw[Nv]at h ⊢
    exact aaT h
   |false=>rw[z]at h;exact zd h
  |false=>rw[q]at h;exact Xn h
section
variable{C:PC}{kF:Nat}{f:ah}(R:p7 C mac bx VB)
include R
theorem xy{ks:ac}{vs l:aa}{c:bF}(h:C.conc 1021 (.frz 0 ks vs::l) c):aN (mac ks)=true/\C.conc 1021 (mac ks++l) c:=
 (Zc UY ((R.rdr _ _).mp h)).imp id (R.rdr _ _).mpr
end
theorem ahs{σ:AS}{r:Nat}{CH L:aa}{PI:aW}(hr:σ.get r=some (.orc 1021 CH)):t9 wy PI [.ref r] (σ.set r (.orc 1021 L))=vE r σ.next (lm r (.orc 1021 L) σ.cells) (PI [.ref 0] ⟨1,[(0,.orc 1021 L)]⟩):=by
 show ob ((σ.set r (.orc 1021 L)).get r) _=_
 rw[eg hr];rfl
theorem KB{r n:Nat}{cells:List (Nat×bF)}{c:bF}{l cd:aa}{f:AV->AV->List AV}:IX r n (lm r c cells) l cd f=IX r n cells l cd f:=by
 unfold IX;rw[on]
@[elab_as_elim] theorem Z1 {β:Type} {t:AV} {f:List Nat->Option β} {x:β} {Q:AV->Prop} (e:abO t f=some x) (kk: ∀ks vs,f ks=some x->Q (.frz 0 ks vs)):Q t:=
 sS e fun c ks vs e=>kS e fun q e=>by rw[aD q];exact kk ks vs e
@[elab_as_elim] theorem Vy {β:Type} {ks:ac} {f:Nat->Nat->Nat->Option β} {x:β} {Q:List Nat->Prop} (e:KZ ks f=some x) (kk: ∀a b c,f a b c=some x->Q [a,b,c]):Q ks:=
 kD e fun a r e=>kD (Q:=fun r=>Q (a::r)) e fun b r e=>kD (Q:=fun r=>Q (a::b::r)) e fun c r e=>kS e fun z e=>by rw[Px z];exact kk a b c e
theorem adX{σ:AS}{r:Nat}{CH l:aa}{m x y:Nat}(hr:σ.get r=some (.orc 1021 CH))(h:aN (vH m x y)=true):qw [.ref r] (σ.set r (.orc 1021 (vH m x y++l)))=aiR σ r l m x y:=by
 refine(ahs hr).trans ?_
 refine Z0 h (fun h1 h2 e=> ?_) (fun h1 h2 e=> ?_) fun h1 h2 e=> ?_
 ·rw[e,h1]
  show _=IX r σ.next σ.cells l [] (fun a b=>Xd x y a b .none)
  refine Gc ?_ (KB (c:=.orc 1021 (kj x (kd x y)++l)))
  exact lvE (P:=fun x=>kd x y∈kT x->iz r σ.next _ l x (kd x y)=iA r σ.next _ l x (kd x y)) h2 (fun h=>ap6 _ _ _ _ h) (fun h=>ap7 _ _ _ _ h) (fun h=>aox _ _ _ _ h) (fun h=>aoy _ _ _ _ h) (US x y)
 ·rw[e,h1]
  show _=IX r σ.next σ.cells l [qe (kd x y).1] (ahQ (kd x y).1)
  exact(nmR _ _ _ _ h2).trans KB
 ·rw[e,h1]
  show _=IX r σ.next σ.cells l [] (aih (17+(kd 1 x).1) y)
  exact(rnR _ _ _ _ h2 y).trans KB
theorem PM{m x y:Nat}(h:aj m 4=false):mac [m,x,y]=vH m x y:=by rw[SY,h];rfl
theorem Q3{C:PC}{kF:Nat}{f:ah}(R:p7 C mac bx VB)(hF:aF C kF f qw):aF C kF f wh:=pw hF fun args σ a ai e=>nV e fun r as L hr e=>Ac e fun e=>by
 revert hr
 refine kD e fun t l e=> ?_
 refine Z1 e fun ks vs e=> ?_
 refine Vy e fun m x y e hr=> ?_
 have h4:aj m 4=false:=by
  cases z:aj m 4 with
  |false=>rfl
  |true=>rw[aD z]at e;exact nn e
 refine⟨r,1021,_,hr,fun hc _=>⟨mac [m,x,y]++l,fun c h=>(xy R h).2,?_⟩⟩
 obtain⟨c,hc⟩:=hc
 have h:=(xy R hc).1
 rw[PM h4]at h ⊢
 exact(adX hr h).trans e
section
variable{σ:AS}{r:Nat}{l:aa}
theorem aaf(hr:σ.get r=some (.orc 1021 l)){F:aW}:fb df F gH (.ref r) σ=some F:=jf (show Fy (.ref r) σ=some 1021 from jf hr)
theorem XX(hr:σ.get r=some (.orc 1021 l)){o:Option AV}(h:jF l 0=some o):H6 [.ref r] σ=some (o.getD .none,σ):=by
 have h1:rd σ r=some l:=jf hr
 have h2:H6 [.ref r] σ=ob (jF l 0) fun o=>some (od o some (some .none)|>.getD .none,σ):=jf h1
 rw[h2,h,bZ,U5]
theorem abE(hr:σ.get r=some (.orc 1021 l))(h:jF l 0=some none):jR [.ref r] σ=some (.bool false,σ):=by
 have hp:=XX hr h
 show ob (jS [.ref r] σ) ig=_
 simp only[jS,yL,c9,fy,eB,bd,kC,o0,fc,ae,aX,bZ,aaf hr,cg,hp,tx,dz,si,sj,putN,d6,Ed,wx,ft,akn,dU,IM,SE,eo,iK,dB,gp]
theorem abF(hr:σ.get r=some (.orc 1021 l)){t:AV}{w:ac}(h:jF l 0=some (some t))(h2:pz 2 t=some (.str w)):jR [.ref r] σ=some (.bool (dp w pN),σ):=by
 have hp:=XX hr h
 show ob (jS [.ref r] σ) ig=_
 simp only[jS,yL,c9,fy,eB,bd,kC,o0,fc,ae,aX,bZ,aaf hr,cg,hp,nK,dz,si,sj,putN,d6,Ed,wx,ft,(jX (σ:=σ) h2).2.2,dU,IM,(jX (σ:=σ) h2).2.1,fi,iK,af,fV,(jX (σ:=σ) h2).1,Zq,dB,gp]
 rfl
end
noncomputable def q8(l:aa):Bool:=l.all fun a=>(mN a fun c _ _=>some (!aj c 0)).getD true
theorem ahR{l:aa}:cZ l=true->q8 l=true:=by
 induction l with
 |nil=>exact fun _=>rfl
 |cons a l ih=>
  refine fun h=>aE (I5▸h) fun h1 h2=>Va (Q:=fun a=>q8 (a::l)=true) h1 fun c ks vs h=> ?_
  show(!aj c 0&&q8 l)=true
  rw[h,ih h2];rfl
theorem adI{l m:aa}:q8 (l++m)=(q8 l&&q8 m):=kR
theorem QJ{mac:List Nat->List AV}{l:aa}:q8 l=true->xp mac l=l/\uX mac l:=by
 induction l with
 |nil=>exact fun _=>⟨rfl,trivial⟩
 |cons a l ih=>
  refine fun h=>aE (show((mN a fun c _ _=>some (!aj c 0)).getD true&&q8 l)=true from h) fun h1 h2=> ?_
  obtain⟨i1,i2⟩:=ih h2
  by_cases q: ∃c ks vs,a= .frz c ks vs
  ·obtain⟨c,ks,vs,rfl⟩:=q
   have h1:aj c 0=false:=pc h1
   refine⟨by rw[EA,h1,i1];rfl,fun z=> ?_,i2⟩
   have z:(aj c 0&&Cx ks)=true:=z
   rw[h1]at z;exact ff z
  ·have:xp mac (a::l)=a::xp mac l/\Hv a=false:=by
    cases a<;>first|exact⟨rfl,rfl⟩|exact absurd ⟨_,_,_,rfl⟩ q
   exact⟨this.1.trans (congrArg (a:: ·) i1),fun z=>ff (this.2.symm.trans z),i2⟩
theorem ahS{l:aa}:aN (xp mac l)=true->q8 (xp mac l)=true:=by
 induction l with
 |nil=>exact fun _=>rfl
 |cons a l ih=>
  intro h
  by_cases q: ∃c ks vs,a= .frz c ks vs
  ·obtain⟨c,ks,vs,rfl⟩:=q
   rw[EA]at h ⊢
   cases z:aj c 0 with
   |true=>
    rw[z]at h
    have h:aN (mac ks++xp mac l)=true:=h
    show q8 (mac ks++xp mac l)=true
    rw[bV]at h
    rw[adI]
    exact aE h fun h1 h2=>by rw[ahR (UY ks h1),ih h2];rfl
   |false=>
    rw[z]at h
    have h:(noRef (.frz c ks vs)&&aN (xp mac l))=true:=h
    show(!aj c 0&&q8 (xp mac l))=true
    rw[z]
    exact aE h fun _ h2=>ih h2
  ·have:xp mac (a::l)=a::xp mac l/\q8 (a::xp mac l)=q8 (xp mac l):=by
    cases a<;>first|exact⟨rfl,rfl⟩|exact absurd ⟨_,_,_,rfl⟩ q
   rw[this.1]at h ⊢
   exact this.2.trans (aE (show(noRef a&&aN (xp mac l))=true from h) fun _ h2=>ih h2)
theorem U0{l:aa}(h:Em l=true)(hm:q8 l=true):jF l 0=some none\/ ∃t w,jF l 0=some (some t)/\pz 2 t=some (.str w)/\dp w pN=false:=by
 cases l with
 |nil=>exact .inl rfl
 |cons t l=>
  have h:(ob (pz 2 t) fun v=>d7 v fun w=>some (!dp w pN)).getD false=true:=h
  generalize e:ob (pz 2 t) _=o at h
  cases o with
  |none=>exact ff h
  |some b=>
   refine oE e fun v hv e=> ?_
   revert hv
   refine fJ e fun w e hv=> ?_
   have hw:dp w pN=false:=pc ((aG e).trans h)
   refine .inr ⟨t,w,?_,hv,hw⟩
   refine sS (Q:=fun t=>q8 (t::l)=true->jF (t::l) 0=some (some t)) hv (fun c ks vs _ hm=> ?_) hm
   have hc:aj c 0=false:=aE (show(!aj c 0&&q8 l)=true from hm) fun h _=>pc h
   show(bif aj c 0 then _ else _)=_
   rw[hc];rfl
theorem adG{m x y:Nat}(h:aN (vH m x y)=true)(l:aa): ∃t,jF (vH m x y++l) 0=some (some t)/\pz 2 t=some (.str pN):=Z0 h (fun _ _ e=>e▸⟨_,rfl,rfl⟩) (fun _ _ e=>e▸⟨_,rfl,rfl⟩) fun _ _ e=>e▸⟨_,rfl,rfl⟩
section
variable{C:PC}{kF:Nat}{f:ah}(R:p7 C mac bx VB)
include R
theorem Sk{l:aa}{c:bF}(h:C.conc 1021 l c):q8 (xp mac l)=true/\C.conc 1021 (xp mac l) c:=by
 have h:=(R.rdr _ _).mp h
 have hn:aN (xp mac l)=true:=by obtain⟨_,_,_,_,h,_⟩:=h;exact h
 have hm:=ahS hn
 exact⟨hm,(R.rdr _ _).mpr (ti h (QJ hm).1 fun _=>(QJ hm).2)⟩
omit R in
theorem FQ{F F':aW}(hF:aF C kF f F)(H: ∀args σ a ai,F' args σ=some (a,ai)-> ∃r kk l,σ.get r=some (.orc kk l)/\((∃c,C.conc kk l c)-> ∃bv dJ gR,(∀c,C.conc kk l c->C.conc kk bv c)/\F args (σ.set r (.orc kk bv))=some (a,σ.set r (.orc kk dJ))/\(∀c,C.conc kk dJ c->C.conc kk gR c)/\ai=σ.set r (.orc kk gR))):aF C kF f F':=fun A Rm W σ s args vs Re hv tk a ai e=>by
 obtain⟨r,kk,l,hr,h1⟩:=H args σ a ai e
 obtain⟨p,a1,⟨c,q1,q2⟩,_⟩:=Re.cell r _ hr
 obtain⟨bv,dJ,gR,h1,e1,h2,h3⟩:=h1 ⟨c,q1⟩
 have hc:dT C W s.heap p (.orc kk bv):=⟨c,h1 c q1,q2⟩
 refine ek (hF A Rm W _ s args vs (Re.set hr a1 (fun _ _ _ e=>e) hc) hv tk a _ e1) fun v s' ⟨hs,W',le,R',hv'⟩=>⟨hs,W',le,?_,hv'⟩
 have e2:(σ.set r (.orc kk dJ)).get r=some (.orc kk dJ):=eg hr
 obtain⟨p,a1,⟨c,q1,q2⟩,_⟩:=R'.cell r _ e2
 have hc:dT C W' s'.heap p (.orc kk gR):=⟨c,h2 c q1,q2⟩
 have R3:=R'.set e2 a1 (fun _ _ _ e=>e) hc
 rw[h3,show σ.set r (.orc kk gR)=(σ.set r (.orc kk dJ)).set r (.orc kk gR) from congrArg (AS.mk σ.next) (on ..).symm]
 exact R3
theorem PH{F:aW}{r:Nat}{σ ai:AS}{a b:AV}{l bv:aa}(hr:σ.get r=some (.orc 1021 l))(e:some (b,σ)=some (a,ai))(h: ∀c,C.conc 1021 l c->C.conc 1021 bv c)(he:xp mac bv=xp mac l)(hc: ∃c,C.conc 1021 l c)(hF:F [.ref r] (σ.set r (.orc 1021 bv))=some (b,σ.set r (.orc 1021 bv))):
  ∃bv dJ gR,(∀c,C.conc 1021 l c->C.conc 1021 bv c)/\F [.ref r] (σ.set r (.orc 1021 bv))=some (a,σ.set r (.orc 1021 dJ))/\(∀c,C.conc 1021 dJ c->C.conc 1021 gR c)/\ai=σ.set r (.orc 1021 gR):=by
 apply s2 e
 obtain⟨c,hc⟩:=hc
 exact⟨bv,bv,l,h,hF,fun c h=>(R.rdr _ _).mpr (ti ((R.rdr _ _).mp h) he.symm fun _=>((R.rdr _ _).mp hc).1),(Ev hr).symm⟩
theorem J2(hF:aF C kF f jR):aF C kF f pV:=FQ hF fun args σ a ai e=>nV e fun r as L hr e=>Ac e fun e=>⟨r,1021,L,hr,fun hc=>by
 cases L with
 |nil=>exact PH R hr e (fun _ h=>h) rfl hc (abE (eg hr) rfl)
 |cons t l=>
  revert hr hc
  refine Z1 e fun ks vs e=> ?_
  intro hr hc
  obtain⟨c,hc'⟩:=hc
  refine bE e (fun z e=> ?_) fun z e=> ?_
  ·have hz:=Px z
   subst hz
   obtain⟨hm,_⟩:=Sk R hc'
   have hx:xp mac (xp mac (.frz 0 [] vs::l))=xp mac (.frz 0 [] vs::l):=(QJ hm).1
   have hn:Em (xp mac (.frz 0 [] vs::l))=true:=((R.rdr _ _).mp hc').1.1 rfl
   refine PH R hr e (fun c h=>(Sk R h).2) hx ⟨c,hc'⟩ ?_
   rcases U0 hn hm with h|⟨t,w,h1,h2,h3⟩
   ·exact abE (eg hr) h
   ·rw[<- h3];exact abF (eg hr) h1 h2
  ·revert hr hc'
   refine Vy e fun m x y e=>kS e fun z e hr hc'=> ?_
   have h4:aj m 4=false:=by
    cases q:aj m 4 with
    |false=>rfl
    |true=>rw[aD q]at z;exact ff z
   obtain⟨h1,h2⟩:=xy R hc'
   have hx:xp mac (mac [m,x,y]++l)=xp mac (.frz 0 [m,x,y] vs::l):=(Ez (UY _ h1)).1
   refine PH R hr e (fun c h=>(xy R h).2) hx ⟨c,hc'⟩ ?_
   rw[PM h4]at h1 ⊢
   obtain⟨t,h3,h4⟩:=adG h1 l
   exact abF (eg hr) h3 h4⟩
end
noncomputable def eF(lv i0:Nat)(c:Bool)(n:Nat)(l:aa)(ts:List Tn):Option (AV×Nat×List AV):=bu (w9 [.ref 0] ⟨1,[(0,.orc 1021 (FB ⟨lv,⟨i0,c⟩,ts,n⟩++Yi::l))]⟩) fun a σ=>sh σ 0 fun k l'=>some (a,k,l')
noncomputable def eG(lv i0:Nat)(c:Bool)(n:Nat)(l:aa)(ts:List Tn):Option (AV×Nat×List AV):=some (.lst [dZ ⟨lv,⟨i0,c⟩,ts,n⟩],1021,Yi::l)
noncomputable def S14(i j k:Nat):List Tn:=[.leaf ⟨i,false⟩,.leaf ⟨i,true⟩,.grp ⟨i,false⟩ ⟨j,false⟩,.grp ⟨i,false⟩ ⟨j,true⟩,.grp ⟨i,true⟩ ⟨j,false⟩,.grp ⟨i,true⟩ ⟨j,true⟩,.grp2 ⟨i,false⟩ ⟨j,false⟩ ⟨k,false⟩,.grp2 ⟨i,false⟩ ⟨j,false⟩ ⟨k,true⟩,.grp2 ⟨i,false⟩ ⟨j,true⟩ ⟨k,false⟩,.grp2 ⟨i,false⟩ ⟨j,true⟩ ⟨k,true⟩,.grp2 ⟨i,true⟩ ⟨j,false⟩ ⟨k,false⟩,.grp2 ⟨i,true⟩ ⟨j,false⟩ ⟨k,true⟩,.grp2 ⟨i,true⟩ ⟨j,true⟩ ⟨k,false⟩,.grp2 ⟨i,true⟩ ⟨j,true⟩ ⟨k,true⟩]
def SF(i0:Nat)(c:Bool)(n:Nat)(l:aa)(i j k:Nat)(p:Tn->List Tn):Prop:=(S14 i j k).map (fun t=>eF 1 i0 c n l (p t))=(S14 i j k).map (fun t=>eG 1 i0 c n l (p t))
section
variable(i0 e:Nat)(l:aa)(a b d i j k:Nat)
theorem anB:eF 1 i0 false 0 l []=eG 1 i0 false 0 l []:=by kernel_rfl
theorem anG:SF i0 false 0 l i j k (fun t=>[t]):=by unfold SF;kernel_rfl
theorem af5:SF i0 false 0 l i j k (fun t=>[.leaf ⟨a,false⟩,t]):=by unfold SF;kernel_rfl
theorem af6:SF i0 false 0 l i j k (fun t=>[.leaf ⟨a,true⟩,t]):=by unfold SF;kernel_rfl
theorem af7:SF i0 false 0 l i j k (fun t=>[.grp ⟨a,false⟩ ⟨b,false⟩,t]):=by unfold SF;kernel_rfl
theorem af8:SF i0 false 0 l i j k (fun t=>[.grp ⟨a,false⟩ ⟨b,true⟩,t]):=by unfold SF;kernel_rfl
theorem af9:SF i0 false 0 l i j k (fun t=>[.grp ⟨a,true⟩ ⟨b,false⟩,t]):=by unfold SF;kernel_rfl
theorem aga:SF i0 false 0 l i j k (fun t=>[.grp ⟨a,true⟩ ⟨b,true⟩,t]):=by unfold SF;kernel_rfl
theorem agb:SF i0 false 0 l i j k (fun t=>[.grp2 ⟨a,false⟩ ⟨b,false⟩ ⟨d,false⟩,t]):=by unfold SF;kernel_rfl
theorem agc:SF i0 false 0 l i j k (fun t=>[.grp2 ⟨a,false⟩ ⟨b,false⟩ ⟨d,true⟩,t]):=by unfold SF;kernel_rfl
theorem agd:SF i0 false 0 l i j k (fun t=>[.grp2 ⟨a,false⟩ ⟨b,true⟩ ⟨d,false⟩,t]):=by unfold SF;kernel_rfl
theorem age:SF i0 false 0 l i j k (fun t=>[.grp2 ⟨a,false⟩ ⟨b,true⟩ ⟨d,true⟩,t]):=by unfold SF;kernel_rfl
theorem acX:SF i0 false 0 l i j k (fun t=>[.grp2 ⟨a,true⟩ ⟨b,false⟩ ⟨d,false⟩,t]):=by unfold SF;kernel_rfl
theorem acY:SF i0 false 0 l i j k (fun t=>[.grp2 ⟨a,true⟩ ⟨b,false⟩ ⟨d,true⟩,t]):=by unfold SF;kernel_rfl
theorem acZ:SF i0 false 0 l i j k (fun t=>[.grp2 ⟨a,true⟩ ⟨b,true⟩ ⟨d,false⟩,t]):=by unfold SF;kernel_rfl
theorem ac0:SF i0 false 0 l i j k (fun t=>[.grp2 ⟨a,true⟩ ⟨b,true⟩ ⟨d,true⟩,t]):=by unfold SF;kernel_rfl
theorem anC:eF 1 i0 false (e+1) l []=eG 1 i0 false (e+1) l []:=by kernel_rfl
theorem anH:SF i0 false (e+1) l i j k (fun t=>[t]):=by unfold SF;kernel_rfl
theorem agf:SF i0 false (e+1) l i j k (fun t=>[.leaf ⟨a,false⟩,t]):=by unfold SF;kernel_rfl
theorem agg:SF i0 false (e+1) l i j k (fun t=>[.leaf ⟨a,true⟩,t]):=by unfold SF;kernel_rfl
theorem agh:SF i0 false (e+1) l i j k (fun t=>[.grp ⟨a,false⟩ ⟨b,false⟩,t]):=by unfold SF;kernel_rfl
theorem agi:SF i0 false (e+1) l i j k (fun t=>[.grp ⟨a,false⟩ ⟨b,true⟩,t]):=by unfold SF;kernel_rfl
theorem agj:SF i0 false (e+1) l i j k (fun t=>[.grp ⟨a,true⟩ ⟨b,false⟩,t]):=by unfold SF;kernel_rfl
theorem agk:SF i0 false (e+1) l i j k (fun t=>[.grp ⟨a,true⟩ ⟨b,true⟩,t]):=by unfold SF;kernel_rfl
theorem agl:SF i0 false (e+1) l i j k (fun t=>[.grp2 ⟨a,false⟩ ⟨b,false⟩ ⟨d,false⟩,t]):=by unfold SF;kernel_rfl
theorem agm:SF i0 false (e+1) l i j k (fun t=>[.grp2 ⟨a,false⟩ ⟨b,false⟩ ⟨d,true⟩,t]):=by unfold SF;kernel_rfl
theorem agn:SF i0 false (e+1) l i j k (fun t=>[.grp2 ⟨a,false⟩ ⟨b,true⟩ ⟨d,false⟩,t]):=by unfold SF;kernel_rfl
theorem ago:SF i0 false (e+1) l i j k (fun t=>[.grp2 ⟨a,false⟩ ⟨b,true⟩ ⟨d,true⟩,t]):=by unfold SF;kernel_rfl
theorem ac1:SF i0 false (e+1) l i j k (fun t=>[.grp2 ⟨a,true⟩ ⟨b,false⟩ ⟨d,false⟩,t]):=by unfold SF;kernel_rfl
theorem ac2:SF i0 false (e+1) l i j k (fun t=>[.grp2 ⟨a,true⟩ ⟨b,false⟩ ⟨d,true⟩,t]):=by unfold SF;kernel_rfl
theorem ac3:SF i0 false (e+1) l i j k (fun t=>[.grp2 ⟨a,true⟩ ⟨b,true⟩ ⟨d,false⟩,t]):=by unfold SF;kernel_rfl
theorem ac4:SF i0 false (e+1) l i j k (fun t=>[.grp2 ⟨a,true⟩ ⟨b,true⟩ ⟨d,true⟩,t]):=by unfold SF;kernel_rfl
theorem apv:eF 77 i0 false 0 l []=eG 77 i0 false 0 l []:=by kernel_rfl
theorem anE:eF 1 i0 true 0 l []=eG 1 i0 true 0 l []:=by kernel_rfl
theorem anI:SF i0 true 0 l i j k (fun t=>[t]):=by unfold SF;kernel_rfl
theorem agp:SF i0 true 0 l i j k (fun t=>[.leaf ⟨a,false⟩,t]):=by unfold SF;kernel_rfl
theorem agq:SF i0 true 0 l i j k (fun t=>[.leaf ⟨a,true⟩,t]):=by unfold SF;kernel_rfl
theorem agr:SF i0 true 0 l i j k (fun t=>[.grp ⟨a,false⟩ ⟨b,false⟩,t]):=by unfold SF;kernel_rfl
theorem ags:SF i0 true 0 l i j k (fun t=>[.grp ⟨a,false⟩ ⟨b,true⟩,t]):=by unfold SF;kernel_rfl
theorem agt:SF i0 true 0 l i j k (fun t=>[.grp ⟨a,true⟩ ⟨b,false⟩,t]):=by unfold SF;kernel_rfl
theorem agu:SF i0 true 0 l i j k (fun t=>[.grp ⟨a,true⟩ ⟨b,true⟩,t]):=by unfold SF;kernel_rfl
theorem agv:SF i0 true 0 l i j k (fun t=>[.grp2 ⟨a,false⟩ ⟨b,false⟩ ⟨d,false⟩,t]):=by unfold SF;kernel_rfl
theorem agw:SF i0 true 0 l i j k (fun t=>[.grp2 ⟨a,false⟩ ⟨b,false⟩ ⟨d,true⟩,t]):=by unfold SF;kernel_rfl
theorem agx:SF i0 true 0 l i j k (fun t=>[.grp2 ⟨a,false⟩ ⟨b,true⟩ ⟨d,false⟩,t]):=by unfold SF;kernel_rfl
theorem agy:SF i0 true 0 l i j k (fun t=>[.grp2 ⟨a,false⟩ ⟨b,true⟩ ⟨d,true⟩,t]):=by unfold SF;kernel_rfl
theorem ac5:SF i0 true 0 l i j k (fun t=>[.grp2 ⟨a,true⟩ ⟨b,false⟩ ⟨d,false⟩,t]):=by unfold SF;kernel_rfl
theorem ac6:SF i0 true 0 l i j k (fun t=>[.grp2 ⟨a,true⟩ ⟨b,false⟩ ⟨d,true⟩,t]):=by unfold SF;kernel_rfl
theorem ac7:SF i0 true 0 l i j k (fun t=>[.grp2 ⟨a,true⟩ ⟨b,true⟩ ⟨d,false⟩,t]):=by unfold SF;kernel_rfl
theorem ac8:SF i0 true 0 l i j k (fun t=>[.grp2 ⟨a,true⟩ ⟨b,true⟩ ⟨d,true⟩,t]):=by unfold SF;kernel_rfl
theorem anF:eF 1 i0 true (e+1) l []=eG 1 i0 true (e+1) l []:=by kernel_rfl
theorem anJ:SF i0 true (e+1) l i j k (fun t=>[t]):=by unfold SF;kernel_rfl
theorem agz:SF i0 true (e+1) l i j k (fun t=>[.leaf ⟨a,false⟩,t]):=by unfold SF;kernel_rfl
theorem agA:SF i0 true (e+1) l i j k (fun t=>[.leaf ⟨a,true⟩,t]):=by unfold SF;kernel_rfl
theorem agB:SF i0 true (e+1) l i j k (fun t=>[.grp ⟨a,false⟩ ⟨b,false⟩,t]):=by unfold SF;kernel_rfl
theorem agC:SF i0 true (e+1) l i j k (fun t=>[.grp ⟨a,false⟩ ⟨b,true⟩,t]):=by unfold SF;kernel_rfl
theorem agD:SF i0 true (e+1) l i j k (fun t=>[.grp ⟨a,true⟩ ⟨b,false⟩,t]):=by unfold SF;kernel_rfl
theorem agE:SF i0 true (e+1) l i j k (fun t=>[.grp ⟨a,true⟩ ⟨b,true⟩,t]):=by unfold SF;kernel_rfl
theorem agF:SF i0 true (e+1) l i j k (fun t=>[.grp2 ⟨a,false⟩ ⟨b,false⟩ ⟨d,false⟩,t]):=by unfold SF;kernel_rfl
theorem agG:SF i0 true (e+1) l i j k (fun t=>[.grp2 ⟨a,false⟩ ⟨b,false⟩ ⟨d,true⟩,t]):=by unfold SF;kernel_rfl
theorem agH:SF i0 true (e+1) l i j k (fun t=>[.grp2 ⟨a,false⟩ ⟨b,true⟩ ⟨d,false⟩,t]):=by unfold SF;kernel_rfl
theorem agI:SF i0 true (e+1) l i j k (fun t=>[.grp2 ⟨a,false⟩ ⟨b,true⟩ ⟨d,true⟩,t]):=by unfold SF;kernel_rfl
theorem ac9:SF i0 true (e+1) l i j k (fun t=>[.grp2 ⟨a,true⟩ ⟨b,false⟩ ⟨d,false⟩,t]):=by unfold SF;kernel_rfl
theorem ada:SF i0 true (e+1) l i j k (fun t=>[.grp2 ⟨a,true⟩ ⟨b,false⟩ ⟨d,true⟩,t]):=by unfold SF;kernel_rfl
theorem adb:SF i0 true (e+1) l i j k (fun t=>[.grp2 ⟨a,true⟩ ⟨b,true⟩ ⟨d,false⟩,t]):=by unfold SF;kernel_rfl
theorem adc:SF i0 true (e+1) l i j k (fun t=>[.grp2 ⟨a,true⟩ ⟨b,true⟩ ⟨d,true⟩,t]):=by unfold SF;kernel_rfl
theorem apw:eF 77 i0 true 0 l []=eG 77 i0 true 0 l []:=by kernel_rfl
end
theorem tnE{P:Tn->Prop}(h0: ∀i,P (.leaf ⟨i,false⟩))(h1: ∀i,P (.leaf ⟨i,true⟩))(h2: ∀i j,P (.grp ⟨i,false⟩ ⟨j,false⟩))(h3: ∀i j,P (.grp ⟨i,false⟩ ⟨j,true⟩))(h4: ∀i j,P (.grp ⟨i,true⟩ ⟨j,false⟩))(h5: ∀i j,P (.grp ⟨i,true⟩ ⟨j,true⟩))(h6: ∀i j k,P (.grp2 ⟨i,false⟩ ⟨j,false⟩ ⟨k,false⟩))(h7: ∀i j k,P (.grp2 ⟨i,false⟩ ⟨j,false⟩ ⟨k,true⟩))(h8: ∀i j k,P (.grp2 ⟨i,false⟩ ⟨j,true⟩ ⟨k,false⟩))(h9: ∀i j k,P (.grp2 ⟨i,false⟩ ⟨j,true⟩ ⟨k,true⟩))(h10: ∀i j k,P (.grp2 ⟨i,true⟩ ⟨j,false⟩ ⟨k,false⟩))(h11: ∀i j k,P (.grp2 ⟨i,true⟩ ⟨j,false⟩ ⟨k,true⟩))(h12: ∀i j k,P (.grp2 ⟨i,true⟩ ⟨j,true⟩ ⟨k,false⟩))(h13: ∀i j k,P (.grp2 ⟨i,true⟩ ⟨j,true⟩ ⟨k,true⟩))(t:Tn):P t:=by
 cases t with
 |leaf l=>
  obtain⟨i,c⟩:=l
  cases c
  ·exact h0 i
  ·exact h1 i
 |grp g a=>
  obtain⟨i,c⟩:=g
  obtain⟨j,d⟩:=a
  cases c<;>cases d
  ·exact h2 i j
  ·exact h3 i j
  ·exact h4 i j
  ·exact h5 i j
 |grp2 g a b=>
  obtain⟨i,c⟩:=g
  obtain⟨j,d⟩:=a
  obtain⟨k,e⟩:=b
  cases c<;>cases d<;>cases e
  ·exact h6 i j k
  ·exact h7 i j k
  ·exact h8 i j k
  ·exact h9 i j k
  ·exact h10 i j k
  ·exact h11 i j k
  ·exact h12 i j k
  ·exact h13 i j k
theorem an4{P:Tn->Prop}(h: ∀i j k,∀t∈S14 i j k,P t)(t:Tn):P t:=tnE (P:=P) (fun i=>h i 0 0 _ (a7 (i:=0) rfl)) (fun i=>h i 0 0 _ (a7 (i:=1) rfl)) (fun i j=>h i j 0 _ (a7 (i:=2) rfl)) (fun i j=>h i j 0 _ (a7 (i:=3) rfl)) (fun i j=>h i j 0 _ (a7 (i:=4) rfl)) (fun i j=>h i j 0 _ (a7 (i:=5) rfl)) (fun i j k=>h i j k _ (a7 (i:=6) rfl)) (fun i j k=>h i j k _ (a7 (i:=7) rfl)) (fun i j k=>h i j k _ (a7 (i:=8) rfl)) (fun i j k=>h i j k _ (a7 (i:=9) rfl)) (fun i j k=>h i j k _ (a7 (i:=10) rfl)) (fun i j k=>h i j k _ (a7 (i:=11) rfl)) (fun i j k=>h i j k _ (a7 (i:=12) rfl)) (fun i j k=>h i j k _ (a7 (i:=13) rfl)) t
theorem vt{i0:Nat}{c:Bool}{n:Nat}{l:aa}{p:Tn->List Tn}(h: ∀i j k,SF i0 c n l i j k p)(t:Tn):eF 1 i0 c n l (p t)=eG 1 i0 c n l (p t):=an4 (P:=fun t=>eF 1 i0 c n l (p t)=eG 1 i0 c n l (p t)) (fun i j k t ht=>iD.mp (h i j k) t ht) t
section
variable(i0 e:Nat)(l:aa)
theorem anu(s t:Tn):eF 1 i0 false 0 l [s,t]=eG 1 i0 false 0 l [s,t]:=vt (p:=fun t=>[s,t]) (fun i j k=>tnE (P:=fun s=>SF i0 false 0 l i j k (fun t=>[s,t])) (fun a=>af5 i0 l a i j k) (fun a=>af6 i0 l a i j k) (fun a b=>af7 i0 l a b i j k) (fun a b=>af8 i0 l a b i j k) (fun a b=>af9 i0 l a b i j k) (fun a b=>aga i0 l a b i j k) (fun a b d=>agb i0 l a b d i j k) (fun a b d=>agc i0 l a b d i j k) (fun a b d=>agd i0 l a b d i j k) (fun a b d=>age i0 l a b d i j k) (fun a b d=>acX i0 l a b d i j k) (fun a b d=>acY i0 l a b d i j k) (fun a b d=>acZ i0 l a b d i j k) (fun a b d=>ac0 i0 l a b d i j k) s) t
theorem anv(s t:Tn):eF 1 i0 false (e+1) l [s,t]=eG 1 i0 false (e+1) l [s,t]:=vt (p:=fun t=>[s,t]) (fun i j k=>tnE (P:=fun s=>SF i0 false (e+1) l i j k (fun t=>[s,t])) (fun a=>agf i0 e l a i j k) (fun a=>agg i0 e l a i j k) (fun a b=>agh i0 e l a b i j k) (fun a b=>agi i0 e l a b i j k) (fun a b=>agj i0 e l a b i j k) (fun a b=>agk i0 e l a b i j k) (fun a b d=>agl i0 e l a b d i j k) (fun a b d=>agm i0 e l a b d i j k) (fun a b d=>agn i0 e l a b d i j k) (fun a b d=>ago i0 e l a b d i j k) (fun a b d=>ac1 i0 e l a b d i j k) (fun a b d=>ac2 i0 e l a b d i j k) (fun a b d=>ac3 i0 e l a b d i j k) (fun a b d=>ac4 i0 e l a b d i j k) s) t
theorem anw(s t:Tn):eF 1 i0 true 0 l [s,t]=eG 1 i0 true 0 l [s,t]:=vt (p:=fun t=>[s,t]) (fun i j k=>tnE (P:=fun s=>SF i0 true 0 l i j k (fun t=>[s,t])) (fun a=>agp i0 l a i j k) (fun a=>agq i0 l a i j k) (fun a b=>agr i0 l a b i j k) (fun a b=>ags i0 l a b i j k) (fun a b=>agt i0 l a b i j k) (fun a b=>agu i0 l a b i j k) (fun a b d=>agv i0 l a b d i j k) (fun a b d=>agw i0 l a b d i j k) (fun a b d=>agx i0 l a b d i j k) (fun a b d=>agy i0 l a b d i j k) (fun a b d=>ac5 i0 l a b d i j k) (fun a b d=>ac6 i0 l a b d i j k) (fun a b d=>ac7 i0 l a b d i j k) (fun a b d=>ac8 i0 l a b d i j k) s) t
theorem anx(s t:Tn):eF 1 i0 true (e+1) l [s,t]=eG 1 i0 true (e+1) l [s,t]:=vt (p:=fun t=>[s,t]) (fun i j k=>tnE (P:=fun s=>SF i0 true (e+1) l i j k (fun t=>[s,t])) (fun a=>agz i0 e l a i j k) (fun a=>agA i0 e l a i j k) (fun a b=>agB i0 e l a b i j k) (fun a b=>agC i0 e l a b i j k) (fun a b=>agD i0 e l a b i j k) (fun a b=>agE i0 e l a b i j k) (fun a b d=>agF i0 e l a b d i j k) (fun a b d=>agG i0 e l a b d i j k) (fun a b d=>agH i0 e l a b d i j k) (fun a b d=>agI i0 e l a b d i j k) (fun a b d=>ac9 i0 e l a b d i j k) (fun a b d=>ada i0 e l a b d i j k) (fun a b d=>adb i0 e l a b d i j k) (fun a b d=>adc i0 e l a b d i j k) s) t
theorem anz{lv i0:Nat}{c:Bool}{ts:List Tn}{n:Nat}(h:(bif aj lv 1 then cP ts.length 2 else aj lv 77&&(ts.isEmpty&&aj n 0))=true)(l:aa):eF lv i0 c n l ts=eG lv i0 c n l ts:=by
 cases q:aj lv 1 with
 |true=>
  rw[q]at h
  rw[aD q]
  cases ts with
  |nil=>
   cases c<;>cases n
   ·exact anB i0 l
   ·exact anC i0 _ l
   ·exact anE i0 l
   ·exact anF i0 _ l
  |cons s ts=>cases ts with
   |nil=>
    cases c<;>cases n
    ·exact vt (p:=fun t=>[t]) (fun i j k=>anG i0 l i j k) s
    ·exact vt (p:=fun t=>[t]) (fun i j k=>anH i0 _ l i j k) s
    ·exact vt (p:=fun t=>[t]) (fun i j k=>anI i0 l i j k) s
    ·exact vt (p:=fun t=>[t]) (fun i j k=>anJ i0 _ l i j k) s
   |cons t ts=>cases ts with
    |nil=>
     cases c<;>cases n
     ·exact anu i0 l s t
     ·exact anv i0 _ l s t
     ·exact anw i0 l s t
     ·exact anx i0 _ l s t
    |cons u ts=>exact absurd (av h) (yz.mpr (a9 (a9 (a9 (aU _)))))
 |false=>
  rw[q]at h
  have h:(aj lv 77&&(ts.isEmpty&&aj n 0))=true:=h
  refine aE h fun h1 h=>aE h fun h2 h3=> ?_
  rw[aD h1,ej.mp h2,aD h3]
  cases c
  ·exact apv i0 l
  ·exact apw i0 l
end
theorem gS{a:AV}{l:aa}:aN (a::l)=(noRef a&&aN l):=rfl
theorem Xz:aN []=true:=rfl
theorem XA{s:ac}:noRef (.str s)=true:=rfl
theorem Xy{i:Int}:noRef (.int i)=true:=rfl
theorem Xw{b:Bool}:noRef (.bool b)=true:=rfl
theorem Xv:noRef .none=true:=rfl
theorem abS:noRef .opq=true:=rfl
theorem sg{l:aa}:noRef (.lst l)=aN l:=rfl
theorem aop(p:Nat):noRef (xP p)=true:=by
 unfold xP
 cases aj p 0
 ·cases aj p 1
  ·cases aj p 2<;>rfl
  ·rfl
 ·rfl
theorem aoo(w:Nat):noRef (PT w)=true:=by
 unfold PT
 cases aj w 2
 ·cases aj w 3<;>rfl
 ·rfl
theorem Hi{x:Nat×Nat×Nat}{c k p r:AV}:aN (j0 x c k p r)=(noRef c&&(noRef k&&(noRef p&&noRef r))):=by
 simp only[j0,gS,XA,Xy,Xw,Xv,aop,aoo,Xz,Bool.true_and,Mp]
theorem Hh(lvl:Nat)(l:Lf):noRef (conds lvl l)=true:=by
 obtain⟨i,c⟩:=l
 cases c<;>rfl
theorem qf(lvl:Nat)(l:Lf):noRef (oc lvl l .opq)=true:=by
 show(true&&aN (j0 _ _ _ _ _))=true
 rw[Hi,Hh];rfl
theorem aoq(t:Tn):noRef (sy t)=true:=by
 cases t with
 |leaf l=>exact qf 5 l
 |grp g a=>
  show(true&&aN (j0 _ _ (.lst [oc 10 a .opq]) _ _))=true
  rw[Hi,Hh,sg,gS,qf];rfl
 |grp2 g a b=>
  show(true&&aN (j0 _ _ (.lst [oc 10 a .opq,oc 10 b .opq]) _ _))=true
  rw[Hi,Hh,sg,gS,gS,qf,qf];rfl
theorem ND(ts:List Tn):aN (Dt ts)=true:=by
 induction ts with
 |nil=>rfl
 |cons t ts ih=>exact(congr (congrArg (· && ·) (aoq t)) ih)
theorem U3(r:Rt):aN (qE r)=true:=by
 obtain⟨lv,it,ts,n⟩:=r
 cases n with
 |zero=>rfl
 |succ l=>
  show(aN (j6 _ l .opq)&&true)=true
  have:noRef (xV l)=true:=by unfold xV;cases l<;>rfl
  simp only[j6,gS,XA,Xy,Xw,Xv,abS,sg,this,Xz,rl]
theorem ahW(r:Rt):aN (C9 r)=true:=by
 unfold C9
 rw[Hi,Hh,sg,bV,ND,U3];rfl
theorem KG(r:Rt):noRef (dZ r)=true:=by
 show(true&&aN (C9 r))=true
 rw[ahW];rfl
theorem Xc{pick:AV->AS->List Nat}{F:aW}{σ:AS}{r k:Nat}{L:aa}(hr:σ.get r=some (.orc k L)):t9 pick F [.ref r] σ=bu (F [.ref 0] ⟨1,[(0,.orc k L)]⟩) fun a ai=>sh ai 0 fun k' l'=>bif FI 0 (pick a ai)then none else imp (Xf r σ.next (pick a ai)) (pick a ai) σ.next (lm r (.orc k' l') σ.cells) a ai:=jf hr
theorem SG{σ ay:AS}{r:Nat}{CH L l':aa}{PI:aW}{a:AV}(hr:σ.get r=some (.orc 1021 CH))(h:PI [.ref 0] ⟨1,[(0,.orc 1021 L)]⟩=some (a,ay))(h0:ay.get 0=some (.orc 1021 l'))(ha:noRef a=true):
  t9 nQ PI [.ref r] (σ.set r (.orc 1021 L))=some (a,σ.set r (.orc 1021 l')):=by
 rw[Xc (eg hr),h,aX]
 show ob (ay.get 0) _=_
 rw[h0]
 show ob (ux _ a) _=_
 rw[ue ha]
 show some (a,AS.mk σ.next (lm r (.orc 1021 l') (lm r (.orc 1021 L) σ.cells)))=_
 rw[on];rfl
theorem UE{σ:AS}{r:Nat}{CH l:aa}(hr:σ.get r=some (.orc 1021 CH)){R:Rt}(hR:XK R=true):nq [.ref r] (σ.set r (.orc 1021 (FB R++Yi::l)))=some (.lst [dZ R],σ.set r (.orc 1021 (Yi::l))):=by
 obtain⟨lv,⟨i0,c⟩,ts,n⟩:=R
 have h:eF lv i0 c n l ts=some (.lst [dZ ⟨lv,⟨i0,c⟩,ts,n⟩],1021,Yi::l):=anz hR l
 refine fG h fun a ay h1 h=>FK h fun k l' h0 h=> ?_
 have h:=aG h
 cases h
 exact SG hr h1 h0 (by rw[sg,gS,KG];rfl)
@[elab_as_elim] theorem aoY {a:AV} {Q:AV->Prop} (h:Hv a=true) (kk: ∀vs,Q (.frz 0 [] vs)):Q a:=by
 unfold Hv at h
 generalize e:mN a _=o at h
 cases o with
 |none=>exact ff h
 |some b=>
  refine sS e fun c ks vs e=> ?_
  have e:(aj c 0&&Cx ks)=true:=(aG e).trans h
  exact aE e fun h1 h2=>by rw[aD h1,Px h2];exact kk vs
theorem alE{l:List (List Nat)}(h: ∀ks∈l,mac ks=ir ks/\Cx ks=false):xp mac (rG l)=xp ir (rG l)/\ ∀m,uX mac m->uX mac (rG l++m):=by
 induction l with
 |nil=>exact⟨rfl,fun _ w=>w⟩
 |cons ks l ih=>
  obtain⟨h1,h2⟩:=h ks (ba ..)
  obtain⟨i1,i2⟩:=ih fun k hk=>h k (aQ _ hk)
  refine⟨?_,fun m w=>⟨fun z=> ?_,i2 m w⟩⟩
  ·show mac ks++xp mac (rG l)=ir ks++xp ir (rG l)
   rw[h1,i1]
  ·have z:Cx ks=true:=z
   rw[h2]at z;exact ff z
def en3(ks:ac):Prop:=mac ks=ir ks/\Cx ks=false
theorem G4(lvl:Nat)(l:Lf): ∀ks∈G3 lvl l,en3 ks:=by
 obtain⟨i,c⟩:=l
 cases c with
 |false=>exact fun ks h=>(aO.mp h)▸⟨rfl,rfl⟩
 |true=>exact fun ks h=>(aH.mp h).elim (fun h=>h▸⟨rfl,rfl⟩) fun h=>(aO.mp h)▸⟨rfl,rfl⟩
theorem xB{l m:List (List Nat)}(h1: ∀ks∈l,en3 ks)(h2: ∀ks∈m,en3 ks): ∀ks∈l++m,en3 ks:=fun ks h=>(cM.mp h).elim (h1 ks) (h2 ks)
theorem anA(r:Rt): ∀ks∈afU r,en3 ks:=by
 refine xB (G4 _ _) (xB ?_ ?_)
 ·induction r.ts with
  |nil=>exact fun _ h=>absurd h bb
  |cons t ts ih=>
   refine xB ?_ ih
   cases t with
   |leaf l=>exact G4 5 l
   |grp g a=>exact xB (G4 5 g) (G4 10 a)
   |grp2 g a b=>exact xB (G4 5 g) (xB (G4 10 a) (G4 10 b))
 ·cases r.ren with
  |zero=>exact fun _ h=>absurd h bb
  |succ l=>exact fun ks h=>(aO.mp h)▸⟨rfl,rfl⟩
section
variable{C:PC}{kF:Nat}{f:ah}(R:p7 C mac bx VB)
include R
theorem Mu(hF:aF C kF f nq):aF C kF f nj:=FQ hF fun args σ a ai e=>nV e fun r as L hr e=>Ac e fun e=>by
 revert hr
 refine kD e fun t L e=> ?_
 refine kD e fun t' l e=>kS e fun zt e=> ?_
 refine aoY zt fun vs'=> ?_
 refine Z1 e fun ks vs e=> ?_
 refine kD e fun m ks e=>kS e fun z e=> ?_
 rw[aD z]
 refine kD e fun lvl code e=> ?_
 intro hr
 refine⟨r,1021,_,hr,fun hc=> ?_⟩
 apply s2 e
 obtain⟨c,hc⟩:=hc
 have hn:=(xy R hc).1
 have hn:aN (RB (lvl::code))=true:=hn
 have hk:okC (lvl::code)=true/\mac (4::lvl::code)=xp ir (FB (A5 (lvl::code))):=by
  show _/\RB (lvl::code)=_
  unfold RB at hn ⊢
  cases z:okC (lvl::code)with
  |true=>exact⟨rfl,rfl⟩
  |false=>rw[z]at hn;exact zd hn
 obtain⟨hl,hk1⟩:aj (A5 (lvl::code)).lvl lvl=true/\XK (A5 (lvl::code))=true:=aE hk.1 g8
 have hl:=aD hl
 obtain⟨m1,m2⟩:=alE (anA (A5 (lvl::code)))
 refine⟨FB (A5 (lvl::code))++Yi::l,Yi::l,l,fun c h=> ?_,(UE hr hk1).trans (by unfold dZ;rw[hl]),fun c h=>(R.rdr _ _).mpr (ti ((R.rdr _ _).mp h) rfl fun w=>w.2),rfl⟩
 have h:=(R.rdr _ _).mp h
 refine(R.rdr _ _).mpr (ti h ?_ fun w=> ?_)
 ·show _=mac (4::lvl::code)++xp mac l
  rw[hk.2,Nv,zA,m1];rfl
 ·rw[Nv];exact m2 _ ⟨fun _=>w.2.1 rfl,w.2.2⟩
end
section
variable(x nn:Nat)(cells:List (Nat×bF))(r:aa)
noncomputable def PP(lvl L:Nat)(f:Lf):Option (AV×AS):=some (.ref (nn+1),⟨nn+2,(nn,.lst [])::(nn+1,.inst b9 fT (.int (am lvl)::j0 (kd L f.i) (conds L f) (.ref nn) .none .none))::lm x (.orc 0 r) cells⟩)
noncomputable def liF(lvl n e d:Nat):Option (AV×AS):=vE x nn cells (qu [.ref 0,.int (.ofNat lvl),.str (nm n)] ⟨1,[(0,.orc 0 (m2 5 d::m2 4 e::r))]⟩)
noncomputable def liG(lvl n e d:Nat):Option (AV×AS):=PP x nn cells r lvl lvl ⟨E7 lvl n (mQ d) 3,Cz e⟩
noncomputable def llF(lvl n e:Nat)(p d:Nat):Option (AV×AS):=vE x nn cells (wn [.ref 0,.int (.ofNat lvl),.str (nm n)] ⟨1,[(0,.orc 0 (m2 5 d::m2 4 e::m2 3 p::r))]⟩)
noncomputable def llG(lvl n e:Nat)(p d:Nat):Option (AV×AS):=PP x nn cells r lvl (PE lvl n) ⟨E7 (PE lvl n) n (mQ d) p,Cz e⟩
def LI(lvl n e:Nat):Prop:=(ct 5).map (liF x nn cells r lvl n e)=(ct 5).map (liG x nn cells r lvl n e)
def LL(lvl n e:Nat):Prop:=(ct 3).map (fun p=>(ct 5).map (llF x nn cells r lvl n e p))=(ct 3).map (fun p=>(ct 5).map (llG x nn cells r lvl n e p))
end
theorem rg{β:Type}{f g:Nat->β}{m:Nat}(h:(ct m).map f=(ct m).map g){i:Nat}(hi:i<m):f i=g i:=iD.mp h i (pS.mpr hi)
theorem IQ{P:Nat->Prop}(h0:P 0)(h1:P 1)(h2:P 2)(h3:P 3)(h4:P 4){n:Nat}(hn:n<5):P n:=by
 rcases n with _|_|_|_|_|n
 all_goals first|assumption|exact absurd hn (b5.mpr (jn 5 n))
theorem ap2{P:Nat->Nat->Prop}{lvl n:Nat}(h:U6 lvl n=true)(h1: ∀n,n<5->P 1 n)(h5: ∀n,n<5->P 5 (5+n)):P lvl n:=by
 rcases kI.mp h with h|h
 ·obtain⟨a,b⟩:=br.mp h
  rw[aD a];exact h1 n (cX.mp b)
 ·obtain⟨a,b⟩:=br.mp h
  obtain⟨b,c⟩:=br.mp b
  obtain⟨k,rfl⟩:=je (av b)
  rw[aD a];exact h5 k (sI (n:=5) (cX.mp c))
theorem ap3{P:Nat->Nat->Prop}{lvl n:Nat}(h:U7 lvl n=true)(h1: ∀n,n<5->P 77 n)(h5: ∀n,n<5->P 5 (10+n))(h6:P 5 15)(h10:P 10 16):P lvl n:=by
 rcases kI.mp h with h|h
 ·obtain⟨a,b⟩:=br.mp h
  rw[aD a];exact h1 n (cX.mp b)
 ·rcases kI.mp h with h|h
  ·obtain⟨a,b⟩:=br.mp h
   obtain⟨b,c⟩:=br.mp b
   rw[aD a]
   obtain⟨k,rfl⟩:=je (av b)
   have hk:k<6:=sI (n:=10) (cX.mp c)
   rcases oB k 5 with q|q
   ·exact h5 k q
   ·have:k=5:=vb (EK hk) q
    rw[this];exact h6
  ·obtain⟨a,b⟩:=br.mp h
   rw[aD a,aD b];exact h10
section
variable(x nn:Nat)(cells:List (Nat×bF))(r:aa)
theorem aly{lvl n d:Nat}(h:U6 lvl n=true)(hd:d<5)(e:Nat):liF x nn cells r lvl n e d=liG x nn cells r lvl n e d:=by
 have t:LI x nn cells r lvl n e:=ap2 (P:=fun lvl n=>LI x nn cells r lvl n e) h (fun n hn=>by
  refine IQ (P:=fun n=>LI x nn cells r 1 n e) ?_ ?_ ?_ ?_ ?_ hn<;>(clear h hd hn;cases e<;>(unfold LI;kernel_rfl))) (fun n hn=>by
  refine IQ (P:=fun n=>LI x nn cells r 5 (5+n) e) ?_ ?_ ?_ ?_ ?_ hn<;>(clear h hd hn;cases e<;>(unfold LI;kernel_rfl)))
 exact rg t hd
theorem alC{lvl n d p:Nat}(h:U7 lvl n=true)(hd:d<5)(hp:p<3)(e:Nat):llF x nn cells r lvl n e p d=llG x nn cells r lvl n e p d:=by
 have t:LL x nn cells r lvl n e:=ap3 (P:=fun lvl n=>LL x nn cells r lvl n e) h (fun n hn=>by
  refine IQ (P:=fun n=>LL x nn cells r 77 n e) ?_ ?_ ?_ ?_ ?_ hn<;>(clear h hd hp hn;cases e<;>(unfold LL;kernel_rfl))) (fun n hn=>by
  refine IQ (P:=fun n=>LL x nn cells r 5 (10+n) e) ?_ ?_ ?_ ?_ ?_ hn<;>(clear h hd hp hn;cases e<;>(unfold LL;kernel_rfl))) (by clear h hd hp;cases e<;>(unfold LL;kernel_rfl)) (by clear h hd hp;cases e<;>(unfold LL;kernel_rfl))
 exact rg (rg t hp) hd
end
noncomputable def rnN(n ren:Nat):List AV:=gV (motive:=fun _=>List AV) [] (fun l _=>[.frz b9 fT (j6 (17+n) l .opq)]) ren
noncomputable def aiY(n:Nat)(r:Rt):List AV:=j0 (kd r.lvl r.it.i) (conds r.lvl r.it) (.lst (Dt r.ts++rnN n r.ren)) .none .none
noncomputable def PJ(n:Nat)(rd:RD)(r:aa):Option (Nat×List Nat×List AV×Nat×List AV):=bu (Fj [.ref 0,.str (nm n)] ⟨1,[(0,.orc 0 (rdM rd++r))]⟩) fun a σ=>ia a fun x=>Cw σ x fun c ks vs=>sh σ 0 fun k l=>bif aj x 0 then none else some (c,ks,vs,k,l)
noncomputable def M2(n:Nat)(rd:RD)(r:aa):Option (Nat×List Nat×List AV×Nat×List AV):=some (b9,fT,.int (am (RA rd))::aiY n (jw n rd),0,r)
noncomputable def S4(z d e:Nat)(l m:LD):List TD:=[.leaf z 0 l,.leaf z 1 l,.grp d e l,.grp2 d e l m]
def LR(n:Nat)(f:TD->RD)(r:aa)(z d e:Nat)(l m:LD):Prop:=(S4 z d e l m).map (fun t=>PJ n (f t) r)=(S4 z d e l m).map (fun t=>M2 n (f t) r)
theorem s4E{P:TD->Prop}(h: ∀z d e l m,∀t∈S4 z d e l m,P t){t:TD}(ht:Ae t):P t:=by
 cases t with
 |leaf z nb l=>
  cases nb with
  |zero=>exact h z 0 0 l l _ (a7 (i:=0) rfl)
  |succ nb=>cases nb with
   |zero=>exact h z 0 0 l l _ (a7 (i:=1) rfl)
   |succ nb=>exact absurd ht (b5.mpr (jn 2 nb))
 |grp d e l=>exact h 0 d e l l _ (a7 (i:=2) rfl)
 |grp2 d e l m=>exact h 0 d e l m _ (a7 (i:=3) rfl)
theorem akM{n:Nat}{f:TD->RD}{r:aa}(h: ∀z d e l m,LR n f r z d e l m){t:TD}(ht:Ae t):PJ n (f t) r=M2 n (f t) r:=s4E (P:=fun t=>PJ n (f t) r=M2 n (f t) r) (fun z d e l m t ht=>iD.mp (h z d e l m) t ht) ht
theorem amo{P:List TD->Prop}(h0:P [])(h1: ∀t,Ae t->P [t])(h2: ∀s t,Ae s->Ae t->P [s,t]){ts:List TD}(hl:ts.length<=2)(ht: ∀t∈ts,Ae t):P ts:=by
 cases ts with
 |nil=>exact h0
 |cons s ts=>cases ts with
  |nil=>exact h1 s (ht s (ba ..))
  |cons t ts=>cases ts with
   |nil=>exact h2 s t (ht s (ba ..)) (ht t (aQ _ (ba ..)))
   |cons u ts=>exact absurd hl (yz.mpr (a9 (a9 (a9 (aU _)))))
def GD(n:Nat)(f:List TD->RD)(r:aa):Prop:=PJ n (f []) r=M2 n (f []) r/\(∀z d e l m,LR n (fun t=>f [t]) r z d e l m)/\ ∀z d e l m z2 d2 e2 l2 m2,(S4 z d e l m).map (fun s=>(S4 z2 d2 e2 l2 m2).map fun t=>PJ n (f [s,t]) r)=(S4 z d e l m).map fun s=>(S4 z2 d2 e2 l2 m2).map fun t=>M2 n (f [s,t]) r
theorem abz{n:Nat}{f:List TD->RD}{r:aa}(G:GD n f r){ts:List TD}(hl:ts.length<=2)(ht: ∀t∈ts,Ae t):PJ n (f ts) r=M2 n (f ts) r:=amo (P:=fun ts=>PJ n (f ts) r=M2 n (f ts) r) G.1 (fun t h=>akM (f:=fun t=>f [t]) G.2.1 h) (fun s t hs ht=>s4E (P:=fun s=>PJ n (f [s,t]) r=M2 n (f [s,t]) r) (fun z d e l m s hs=>s4E (P:=fun t=>PJ n (f [s,t]) r=M2 n (f [s,t]) r) (fun z2 d2 e2 l2 m2 t ht=>iD.mp (iD.mp (G.2.2 z d e l m z2 d2 e2 l2 m2) s hs) t ht) ht) hs) hl ht
theorem al4{n:Nat}(hn:n<5){rd:RD}(h:FJ rd)(r:aa):PJ n rd r=M2 n rd r:=by
 cases rd with
 |alone l=>refine IQ (P:=fun n=>PJ n (.alone l) r=M2 n (.alone l) r) ?_ ?_ ?_ ?_ ?_ hn<;>kernel_rfl
 |std a d e ts q=>
  refine abz (f:=fun ts=>.std a d e ts q) ?_ h.1 h.2
  clear h
  refine IQ (P:=fun n=>GD n (fun ts=>.std a d e ts q) r) ?_ ?_ ?_ ?_ ?_ hn<;>exact⟨by kernel_rfl,fun _ _ _ _ _=>by unfold LR;kernel_rfl,fun _ _ _ _ _ _ _ _ _ _=>by kernel_rfl⟩
 |recR a d e ts l=>
  refine abz (f:=fun ts=>.recR a d e ts l) ?_ h.1 h.2.1
  have h:=h.2.2
  rcases l with _|_|l
  ·clear h
   refine IQ (P:=fun n=>GD n (fun ts=>.recR a d e ts 0) r) ?_ ?_ ?_ ?_ ?_ hn<;>exact⟨by kernel_rfl,fun _ _ _ _ _=>by unfold LR;kernel_rfl,fun _ _ _ _ _ _ _ _ _ _=>by kernel_rfl⟩
  ·clear h
   refine IQ (P:=fun n=>GD n (fun ts=>.recR a d e ts 1) r) ?_ ?_ ?_ ?_ ?_ hn<;>exact⟨by kernel_rfl,fun _ _ _ _ _=>by unfold LR;kernel_rfl,fun _ _ _ _ _ _ _ _ _ _=>by kernel_rfl⟩
  ·exact absurd h (b5.mpr (jn 2 l))
section
variable{σ:AS}{x:Nat}{CH l:aa}{as:aa}{PI:aW}
theorem SJ{pick:AV->AS->List Nat}{F:aW}{k:Nat}{L:aa}(hr:σ.get x=some (.orc k L))(ha:aN as=true):t9 pick F (.ref x::as) σ=bu (F (.ref 0::as) ⟨1,[(0,.orc k L)]⟩) fun a ai=>sh ai 0 fun k' l'=>bif FI 0 (pick a ai)then none else imp (Xf x σ.next (pick a ai)) (pick a ai) σ.next (lm x (.orc k' l') σ.cells) a ai:=by
 have h:t9 pick F (.ref x::as) σ=bif aN as then sh σ x (fun k l=>bu (F (.ref 0::as) ⟨1,[(0,.orc k l)]⟩) fun a ai=>sh ai 0 fun k' l'=>bif FI 0 (pick a ai)then none else imp (Xf x σ.next (pick a ai)) (pick a ai) σ.next (lm x (.orc k' l') σ.cells) a ai)else none:=rfl
 rw[h,ha];exact jf hr
theorem SH(hr:σ.get x=some (.orc 0 CH))(ha:aN as=true):t9 wy PI (.ref x::as) (σ.set x (.orc 0 l))=vE x σ.next (lm x (.orc 0 l) σ.cells) (PI (.ref 0::as) ⟨1,[(0,.orc 0 l)]⟩):=SJ (eg hr) ha
theorem PQ{nn:Nat}{cells:List (Nat×bF)}{c:bF}{r:aa}{lvl L:Nat}{f:Lf}:PP x nn (lm x c cells) r lvl L f=PP x nn cells r lvl L f:=by
 unfold PP;rw[on]
theorem Y0{β:Type}{f:Nat->List Nat->List AV->Option β}{y:β}{P:Prop}(e:aa9 σ x f=some y)(kk: ∀c m ks vs r,σ.get x=some (.orc 0 (.frz c (m::ks) vs::r))->f m ks r=some y->P):P:=
 FK e fun k l hg e=>kS e fun q e=>by
  rw[aD q]at hg
  revert hg
  refine kD e fun t r e=> ?_
  refine sS e fun c ks vs e=> ?_
  refine kD e fun m ks e hg=> ?_
  exact kk c m ks vs r hg e
end
noncomputable def two{β:Type}(ks:ac)(f:Nat->Nat->Option β):Option β:=qX ks fun d ks=>qX ks fun e ks=>bif Cx ks then f d e else none
@[elab_as_elim] theorem aos {β:Type} {ks:ac} {f:Nat->Nat->Option β} {y:β} {Q:List Nat->Prop} (e:two ks f=some y) (kk: ∀d e',f d e'=some y->Q [d,e']):Q ks:=
 kD e fun d ks e=>kD (Q:=fun ks=>Q (d::ks)) e fun e' ks e=>kS e fun z e=>by rw[Px z];exact kk d e' e
section
variable{C:PC}{kF:Nat}{f:ah}(R:p7 C mac bx VB)
include R
theorem Uv{l l':aa}{c:bF}(h:C.conc 0 l c)(hx:xb bx l'=xb bx l)(hv:(∀a∈l,VB a)-> ∀a∈l',VB a):C.conc 0 l' c:=by
 obtain⟨h1,b,h2,h3⟩:=(R.bag _ _).mp h
 exact(R.bag _ _).mpr ⟨hv h1,b,h2,hx.symm▸h3⟩
omit R in
theorem q7{b:Int}{m d:Nat}(hm:0<m)(h:b.fmod (am m)=am d):d<m:=by
 have h1:b.fmod (am m)<am m:=qN b (hH.mpr hm)
 rw[h]at h1
 exact hH.mp h1
theorem GU{l:aa}{c:bF}(h:C.conc 0 l c): ∃b,cB (xb bx l) b:=by
 obtain⟨_,b,_,h⟩:=(R.bag _ _).mp h
 exact⟨b,h⟩
theorem V0(hF:aF C kF f yM):aF C kF f Bl:=pw hF fun args σ a ai e=>by
 refine YY e fun a1 a2 a3 e=> ?_
 refine ip e fun x e=> ?_
 refine mc e fun lvl e=> ?_
 refine fJ e fun s e=> ?_
 refine kS e fun z e=>Y0 e fun c m ks vs r hg e=>kS e fun z5 e=> ?_
 rw[aD z5]at hg
 revert hg
 refine aos (show two ks (fun d e'=>ahP σ x r lvl lvl ⟨E7 lvl (II s names 0) (mQ d) 3,Cz e'⟩)=some (a,ai) from e) fun d e' e hg=> ?_
 refine⟨x,0,_,hg,fun hc _=>⟨m2 5 d::m2 4 e'::r,fun c h=>Uv R h rfl fun hv a ha=> ?_,?_⟩⟩
 ·rcases aH.mp ha with rfl|ha
  ·exact trivial
  ·rcases aH.mp ha with rfl|ha
   ·exact trivial
   ·exact hv a (aQ _ ha)
 ·obtain⟨c,hc⟩:=hc
  obtain⟨b,hb⟩:=GU R hc
  have hd:d<5:=q7 (by decide) hb.2.1
  obtain⟨z1,z2⟩:=aE z g8
  have hs:nm (II s names 0)=s:=by rw[oa,decide_eq_true_iff]at z1;exact z1
  refine(SH hg rfl).trans ?_
  refine Gc ?_ e
  generalize II s names 0=n at hs z2 ⊢
  rw[<- hs]
  exact(aly x σ.next (lm x _ σ.cells) r z2 hd e').trans PQ
theorem V1(hF:aF C kF f yN):aF C kF f Bm:=pw hF fun args σ a ai e=>by
 refine YY e fun a1 a2 a3 e=> ?_
 refine ip e fun x e=> ?_
 refine mc e fun lvl e=> ?_
 refine fJ e fun s e=> ?_
 refine kS e fun z e=>Y0 e fun c m ks vs r hg e=>kS e fun z5 e=> ?_
 rw[aD z5]at hg
 revert hg
 refine Vy e fun d e' p e hg=> ?_
 refine⟨x,0,_,hg,fun hc _=>⟨m2 5 d::m2 4 e'::m2 3 p::r,fun c h=>Uv R h rfl fun hv a ha=> ?_,?_⟩⟩
 ·rcases aH.mp ha with rfl|ha
  ·exact trivial
  ·rcases aH.mp ha with rfl|ha
   ·exact trivial
   ·rcases aH.mp ha with rfl|ha
    ·exact trivial
    ·exact hv a (aQ _ ha)
 ·obtain⟨c,hc⟩:=hc
  obtain⟨b,hb⟩:=GU R hc
  have hd:d<5:=q7 (by decide) hb.2.1
  have hp:p<3:=q7 (by decide) hb.2.2.2.2.2.1
  obtain⟨z1,z2⟩:=aE z g8
  have hs:nm (II s names 0)=s:=by rw[oa,decide_eq_true_iff]at z1;exact z1
  refine(SH hg rfl).trans ?_
  refine Gc ?_ e
  generalize II s names 0=n at hs z2 ⊢
  rw[<- hs]
  exact(alC x σ.next (lm x _ σ.cells) r z2 hd hp e').trans PQ
end
theorem amu(t:TD)(l:aa):xb bx (tdM t++l)=tdD t++xb bx l:=by cases t<;>rfl
theorem Yv(ts:List TD)(l:aa):xb bx (Mh ts++l)=AF ts++xb bx l:=by
 induction ts with
 |nil=>rfl
 |cons t ts ih=>
  show xb bx ((tdM t++Mh ts)++l)=(tdD t++AF ts)++xb bx l
  rw[aB,amu,ih,aB]
theorem amt(rd:RD)(l:aa):xb bx (rdM rd++l)=I8 rd++xb bx l:=by
 cases rd with
 |alone l=>rfl
 |std a d e ts q=>
  show 4::(a+1)::5::d::4::e::3::ts.length::xb bx ((Mh ts++[m2 4 (q+1)])++l)=4::(a+1)::5::d::4::e::3::ts.length::((AF ts++[4,q+1])++xb bx l)
  rw[aB,Yv,aB];rfl
 |recR a d e ts q=>
  show 4::(a+1)::5::d::4::e::3::ts.length::xb bx ((Mh ts++[m2 4 0,m2 2 q])++l)=4::(a+1)::5::d::4::e::3::ts.length::((AF ts++[4,0,2,q])++xb bx l)
  rw[aB,Yv,aB];rfl
theorem Wq(ts:List TD): ∀a∈Mh ts,VB a:=by
 induction ts with
 |nil=>exact fun _ h=>absurd h bb
 |cons t ts ih=>
  refine fun a h=>(cM.mp h).elim (fun h=> ?_) (ih a)
  cases t with
  |leaf z nb l=>
   rcases aH.mp h with rfl|h
   ·exact trivial
   rcases aH.mp h with rfl|h
   ·exact trivial
   rw[aO.mp h];exact trivial
  |grp d e l=>
   rcases aH.mp h with rfl|h
   ·exact trivial
   rcases aH.mp h with rfl|h
   ·exact trivial
   rcases aH.mp h with rfl|h
   ·exact trivial
   rw[aO.mp h];exact trivial
  |grp2 d e l m=>
   rcases aH.mp h with rfl|h
   ·exact trivial
   rcases aH.mp h with rfl|h
   ·exact trivial
   rcases aH.mp h with rfl|h
   ·exact trivial
   rcases aH.mp h with rfl|h
   ·exact trivial
   rw[aO.mp h];exact trivial
theorem akO(rd:RD): ∀a∈rdM rd,VB a:=by
 cases rd with
 |alone l=>
  intro a h
  rcases aH.mp h with rfl|h
  ·exact trivial
  rw[aO.mp h];exact trivial
 |std a d e ts q=>
  intro a h
  rcases aH.mp h with rfl|h
  ·exact trivial
  rcases aH.mp h with rfl|h
  ·exact trivial
  rcases aH.mp h with rfl|h
  ·exact trivial
  rcases cM.mp h with h|h
  ·exact Wq ts a h
  rw[aO.mp h];exact trivial
 |recR a d e ts q=>
  intro a h
  rcases aH.mp h with rfl|h
  ·exact trivial
  rcases aH.mp h with rfl|h
  ·exact trivial
  rcases aH.mp h with rfl|h
  ·exact trivial
  rcases cM.mp h with h|h
  ·exact Wq ts a h
  rcases aH.mp h with rfl|h
  ·exact trivial
  rw[aO.mp h];exact trivial
theorem Xh{n d:Nat}(hn:n<5)(hd:d<5):(kd 1 (E7 1 n (mQ d) 3)).1=n:=
 IQ (P:=fun n=>(kd 1 (E7 1 n (mQ d) 3)).1=n) (IQ (P:=fun d=>(kd 1 (E7 1 0 (mQ d) 3)).1=0) rfl rfl rfl rfl rfl hd) (IQ (P:=fun d=>(kd 1 (E7 1 1 (mQ d) 3)).1=1) rfl rfl rfl rfl rfl hd) (IQ (P:=fun d=>(kd 1 (E7 1 2 (mQ d) 3)).1=2) rfl rfl rfl rfl rfl hd) (IQ (P:=fun d=>(kd 1 (E7 1 3 (mQ d) 3)).1=3) rfl rfl rfl rfl rfl hd) (IQ (P:=fun d=>(kd 1 (E7 1 4 (mQ d) 3)).1=4) rfl rfl rfl rfl rfl hd) hn
noncomputable def TA(rd:RD):Nat:=match rd with
 | .alone _=>0
 | .std _ d _ _ _=>d
 | .recR _ d _ _ _=>d
theorem ad2{n:Nat}{rd:RD}(hn:n<5)(hd:TA rd<5):aiY n (jw n rd)=C9 (jw n rd):=by
 cases rd with
 |alone l=>rfl
 |std a d e ts q=>rfl
 |recR a d e ts l=>
  show j0 _ _ (.lst (_++[.frz b9 fT (j6 (17+n) l .opq)])) _ _=j0 _ _ (.lst (_++[.frz b9 fT (j6 (17+(kd 1 (E7 1 n (mQ d) 3)).1) l .opq)])) _ _
  rw[Xh hn (show d<5 from hd)]
theorem alV{rd:RD}{l:ac}{b:Int}(h:cB (I8 rd++l) b):TA rd<5:=by
 cases rd with
 |alone l=>exact gW _
 |std a d e ts q=>exact q7 (by decide) h.2.2.2.1
 |recR a d e ts q=>exact q7 (by decide) h.2.2.2.1
theorem ahV{n:Nat}{rd:RD}:aN (.int (am (RA rd))::C9 (jw n rd))=true:=by
 rw[gS,ahW];rfl
theorem yW(n:Nat):aj n n=true:=by rw[fS];exact decide_eq_true rfl
theorem ad1{σ:AS}{x n:Nat}{CH r:aa}{rd:RD}(hg:σ.get x=some (.orc 0 CH))(hn:n<5)(h:FJ rd)(hd:TA rd<5):
  sP [.ref x,.str (nm n)] (σ.set x (.orc 0 (rdM rd++r)))=some (.ref σ.next,⟨σ.next+1,(σ.next,.inst b9 fT (.int (am (RA rd))::C9 (jw n rd)))::lm x (.orc 0 r) σ.cells⟩):=by
 have h:=al4 hn h r
 unfold M2 at h
 rw[ad2 hn hd]at h
 refine fG h fun a ay h1 h=> ?_
 revert h1
 refine ip h fun y h=>instE h fun c ks vs hy h=>FK h fun k l h0 h=>kN h fun q h h1=> ?_
 have h:=aG h
 cases h
 have hp:wy (.ref y) ay=[y]:=by
  show(ob (ay.get y) _).getD []=_
  rw[hy];rfl
 refine(SJ (eg hg) rfl).trans ?_
 rw[h1,aX]
 show ob (ay.get 0) _=_
 rw[h0,hp]
 show(bif (aj 0 y||false)then none else _)=_
 have q0:aj 0 y=false:=by cases y with
  |zero=>exact absurd q (by decide)
  |succ y=>rfl
 rw[q0]
 have hx:Xf x σ.next [y] y=some σ.next:=by
  cases y with
  |zero=>exact absurd q (by decide)
  |succ y=>
   show(bif aj (y+1) (y+1)then some σ.next else _)=_
   rw[yW];rfl
 show ob ((Xf x σ.next [y] y).map AV.ref) _=_
 rw[hx]
 show ob (ob (ay.get y) _) _=_
 rw[hy]
 show ob (ob ((oh _ _).map (bF.inst b9 fT)) _) _=_
 rw[jt ahV]
 show some (AV.ref σ.next,AS.mk (σ.next+1) (_::lm x (.orc 0 r) (lm x (.orc 0 (rdM rd++r)) σ.cells)))=_
 rw[on];rfl
section
variable{C:PC}{kF:Nat}{f:ah}(R:p7 C mac bx VB)
include R
theorem V2(hF:aF C kF f sP):aF C kF f Bn:=pw hF fun args σ a ai e=>by
 refine Kl e fun a1 a2 e=> ?_
 refine ip e fun x e=> ?_
 refine fJ e fun s e=> ?_
 refine Y0 e fun c m ks vs r hg e=>kS e fun z9 e=> ?_
 rw[aD z9]at hg
 revert hg
 refine kD e fun n ks e=> ?_
 refine kD e fun lv code e=>kS e fun zs e hg=> ?_
 have hs:nm n=s:=by rw[oa,decide_eq_true_iff]at zs;exact zs
 by_cases hv:VB (.frz c (9::n::lv::code) vs)
 ·obtain⟨n',rd,h1,h2,h3⟩:=hv
  have h1:AV.frz c (9::n::lv::code) vs= .frz 0 (9::n'::RA rd::WX (jw n' rd)) [.frz 0 (I8 rd) []]:=h1
  cases h1
  have hx: ∀l,xb bx (.frz 0 (9::n::RA rd::WX (jw n rd)) [.frz 0 (I8 rd) []]::l)=I8 rd++xb bx l:=fun _=>rfl
  refine⟨x,0,_,hg,fun hc _=>⟨rdM rd++r,fun c h=>Uv R h ((amt rd r).trans (hx r).symm) fun hv a ha=>(cM.mp ha).elim (akO rd a) fun h=>hv a (aQ _ h),?_⟩⟩
  obtain⟨c,hc⟩:=hc
  obtain⟨b,hb⟩:=GU R hc
  rw[hx]at hb
  rw[<- hs]
  refine(ad1 hg h2 h3 (alV hb)).trans ?_
  refine Gc ?_ e
  have hlen:(jw n rd).ts.length <=8:=by
   have: ∀ts:List TD,(Hy n ts).length=ts.length:=fun ts=>by
    induction ts with
    |nil=>rfl
    |cons t ts ih=>exact congrArg nG ih
   cases rd with
   |alone l=>exact aU _
   |std a d e ts q=>exact au (eu (this ts)) (au h3.1 (by decide))
   |recR a d e ts q=>exact au (eu (this ts)) (au h3.1 (by decide))
  rw[Nu _ hlen]
 ·exact⟨x,0,_,hg,fun hc _=>hc.elim fun c hc=>absurd (((R.bag _ _).mp hc).1 _ (ba ..)) hv⟩
theorem apH:amy C:=⟨Q3 R,J2 R,Mu R,V0 R,V1 R,V2 R⟩
end
theorem za{PI:aW}{args:aa}{σ ay:AS}{a:AV}(hn:aN args=true)(h:PI args ⟨0,[]⟩=some (a,ay))(ha:noRef a=true):vF nQ PI args σ=some (a,σ):=by
 show(bif aN args then bu (PI args ⟨0,[]⟩) _ else none)=_
 rw[hn,h]
 show ob (ux _ a) _=_
 rw[ue ha];rfl
theorem ZN{PI:aW}{args:aa}{σ ay:AS}{x:Nat}{l:aa}(hn:aN args=true)(h:PI args ⟨0,[]⟩=some (.ref x,ay))(hx:ay.get x=some (.lst l))(hl:aN l=true):vF aaj PI args σ=some (.ref σ.next,σ.alloc (.lst l)):=by
 show(bif aN args then bu (PI args ⟨0,[]⟩) _ else none)=_
 rw[hn,h]
 have hi:ZR σ.next [x] x=some σ.next:=by
  show(bif aj x x then some σ.next else _)=_
  rw[yW];rfl
 show ob ((ZR σ.next [x] x).map AV.ref) _=_
 rw[hi]
 show ob (ob (ay.get x) _) _=_
 rw[hx]
 show ob (ob ((oh _ l).map bF.lst) _) _=_
 rw[jt hl];rfl
theorem zf{l:List (List Nat×List Nat×Nat)}: ∀{c:Nat} {a:Bool},aN (ww a c l)=true:=by
 induction l with
 |nil=>exact rfl
 |cons x l ih=>exact fun{c a}=>show(true&&aN (ww false (c+x.2.2) l))=true from ih
theorem x9{t:ac}{a:Bool}{l:aa}(h:kG t a=some l)(hl:aN l=true)(σ:AS):cE [.str t,.bool a] σ=some (.ref σ.next,σ.alloc (.lst l)):=fG h fun x ay h1 h=>by
 revert h1
 refine ip h fun x h=>lstE h fun l' hx h h1=> ?_
 rw[aG h]at hx
 exact ZN rfl h1 hx hl
theorem aaG{t:ac}{l:aa}(h:kG t false=some l)(hl:aN l=true)(σ:AS):cE [.str t] σ=some (.ref σ.next,σ.alloc (.lst l)):=fG h fun x ay h1 h=>by
 revert h1
 refine ip h fun x h=>lstE h fun l' hx h h1=> ?_
 rw[aG h]at hx
 exact ZN (PI:=rv) rfl h1 hx hl
theorem aea{it:AV}{a:Bool}{l:aa}(h:uB it a=some l)(hn:aN [it]=true): ∃t,kG t a=some l/\ ∀σ,m7 [it] σ=some (.str t,σ):=fG h fun x ay h1 h=>by
 revert h1
 refine fJ h fun t h h1=> ?_
 exact⟨t,h,fun σ=>za hn h1 rfl⟩
theorem X3{n:Nat}{l:aa}(h:ol n=some l): ∃t,kG t false=some l/\ ∀σ,lB [qe n] σ=some (.str t,σ):=fG h fun x ay h1 h=>by
 revert h1
 refine fJ h fun t h h1=> ?_
 exact⟨t,h,fun σ=>za rfl h1 rfl⟩
theorem cT{v:AV}{i:Nat}: ∀{fr:Fm},gt (put fr i v) i=v:=by
 induction i with
 |zero=>intro fr;cases fr<;>rfl
 |succ i ih=>intro fr;cases fr with
  |nil=>exact ih (fr:=[])
  |cons a fr=>exact ih
theorem fF{v:AV}{i:Nat}: ∀{j:Nat} {fr:Fm},aj i j=false->gt (put fr i v) j=gt fr j:=by
 induction i with
 |zero=>
  intro j fr h
  cases j with
  |zero=>exact ff h.symm
  |succ j=>cases fr with
   |nil=>rfl
   |cons a fr=>rfl
 |succ i ih=>
  intro j fr h
  cases j with
  |zero=>cases fr<;>rfl
  |succ j=>cases fr with
   |nil=>exact ih (fr:=[]) h
   |cons a fr=>exact ih h
theorem aja{σ:AS}{i:Nat}{a b:bF}:(σ.set i a).set i b=σ.set i b:=congrArg (AS.mk σ.next) (on ..)
theorem agK{σ:AS}{i:Nat}{l m:aa}(hi:σ.get i=some (.lst l))(hk:l.length+m.length<=4000000):fR [.ref i,.lst m] σ=some (.none,σ.set i (.lst (l++m))):=by
 have h:fR [.ref i,.lst m] σ=bif dv (l.length+m.length)then some (.none,σ.set i (.lst (l++m)))else none:=jf hi
 rw[h,fN hk];rfl
theorem agL{σ:AS}{i j:Nat}{l m:aa}(hi:σ.get i=some (.lst l))(hj:σ.get j=some (.lst m))(hij:aj i j=false)(hk:l.length+m.length<=4000000):fR [.ref i,.ref j] σ=some (.none,σ.set i (.lst (l++m))):=by
 have h1:agJ σ i (.ref j)=some m:=by
  show(bif aj i j then none else nh σ j some)=_
  rw[hij];exact jf hj
 have h2:fR [.ref i,.ref j] σ=ob (nh σ i some) fun l=>bif dv (l.length+m.length)then some (.none,σ.set i (.lst (l++m)))else none:=by
  refine(jf h1).trans ?_
  rw[show nh σ i some=some l from jf hi];exact jf hi
 rw[h2,show nh σ i some=some l from jf hi,bZ,fN hk];rfl
theorem I1{σ:AS}{i:Nat}{l:aa}{F:aW}(hi:σ.get i=some (.lst l)):fH F (.ref i) σ=some F:=jf hi
theorem dI{σ:AS}{i:Nat}{c d:bF}(hi:σ.get i=some c)(h:i<σ.next):(σ.alloc d).get i=some c:=by rw[AS.get_alloc,if_neg (ci h)];exact hi
theorem agT{sel:Nat->Bool}{n:Nat}{a:AV}{σ:AS}(h:noRef a=true):t6 sel n a σ=(a,σ):=by
 cases n with
 |zero=>rfl
 |succ n=>cases a<;>first|rfl|exact ff h
theorem aal{α β γ:Type}{p:α×β}{a:α}{b:β}{f:α->β->γ}(h:p=(a,b)):pr p f=f a b:=by rw[h];rfl
theorem PN{sel:Nat->Bool}{n:Nat}{l:aa}: ∀{σ:AS},aN l=true->pL (t6 sel n) l σ=(l,σ):=by
 induction l with
 |nil=>exact fun _=>rfl
 |cons a l ih=>
  intro σ h
  refine aE (show(noRef a&&aN l)=true from h) fun h1 h2=> ?_
  exact(aal (agT h1)).trans (aal (ih h2))
theorem xF{n:Nat}{x:Nat}{l:aa}{σ:AS}(hx:σ.get x=some (.lst l))(h:aN l=true):jD (n+1) (.ref x) σ=(.lst l,σ.drop x):=by
 show bm (motive:=fun _=>AV×AS) (.opq,σ) (fun c=>Sw (t6 _ n) _ x σ c) (σ.get x)=_
 rw[hx]
 show pr (pL (t6 (fun _=>true) n) l (σ.drop x)) (fun l' ai=>(AV.lst l',ai))=_
 exact aal (PN h)
noncomputable def Mi(lvl:Nat):Bool:=bif aj lvl 1 then true else aj lvl 77
theorem amn{lvl:Nat}(h:q9 lvl=true)(σ:AS):bU .In (.int (am lvl)) iO σ=some (Mi lvl):=lvE (P:=fun lvl=>bU .In (.int (am lvl)) iO σ=some (Mi lvl)) h rfl rfl rfl rfl
theorem amj{lvl:Nat}(h:q9 lvl=true)(i:Nat)(c k p:AV):uB (.frz b9 fT (.int (am lvl)::j0 (kd lvl i) c k p .none)) (Mi lvl)=some (kj lvl (kd lvl i)):=
 lvE (P:=fun lvl=>kd lvl i∈kT lvl->iB c k p lvl (kd lvl i)=iC lvl (kd lvl i)) h (fun h=>aqc _ _ _ h) (fun h=>aqd _ _ _ h) (fun h=>aoV _ _ _ h) (fun h=>aoW _ _ _ h) (US lvl i)
noncomputable def IA:EM:=bn cE (aw (bn m7 (aw (al 0) aJ)) (aw (rI (fh (bU .In) (un (aA 20) (al 0)) (a6 iO))) aJ))
theorem adl{it:AV}{fr:Fm}{σ:AS}{b:Bool}{lv:AV}{l:aa}(hf:gt fr 0=it)(hu:bQ it=false)(hn:aN [it]=true)(hs:uB it b=some l)(hl:aN l=true)(ha:aA 20 it σ=some lv)(hb:bU .In lv iO σ=some b):IA fr σ=some (.ref σ.next,σ.alloc (.lst l)):=by
 obtain⟨t,h1,h2⟩:=aea hs hn
 unfold IA
 simp only[d9,cp,cg,bd,hf,hu,ae,aX,h2,wx,ft,fV,ha,bZ,dU,hb,x9 h1 hl]
noncomputable def GW:SM:=aV (kQ (cC (fH fR) (al 1) (aw (bn cE (aw (bn lB (aw (al 2) aJ)) aJ)) aJ))) bh
noncomputable def PD(self:aW):SM:=aV (kQ (cC (fH fR) (al 1) (aw (bn self (aw (al 3) aJ)) aJ))) bh
@[simp] theorem Jd (e) {fr:Fm} {σ:AS}:kQ e fr σ=bu (e fr σ) fun _ ai=>some (.next fr ai):=rfl
theorem Eu{i:Nat}{b:SM}{a:AV}{r:aa}{fr gM:Fm}{σ ay:AS}(h:b (put fr i a) σ=some (.next gM ay)):pv [i] b (a::r) fr σ=pv [i] b r gM ay:=by
 show ob (b (put fr i a) σ) _=_
 rw[h];rfl
theorem ZT{self:aW}{ks:List (AV×List AV)}: ∀{fr:Fm} {σ:AS} {i:Nat} {L:aa},(∀k∈ks,bQ k.1=false/\ ∀σ,self [k.1] σ=some (.lst k.2,σ))->gt fr 1= .ref i->σ.get i=some (.lst L)->L.length+(ks.flatMap (·.2)).length <=4000000->
  ∃fr',pv [3] (PD self) (ks.map (·.1)) fr σ=some (.next fr' (σ.set i (.lst (L++ks.flatMap (·.2)))))/\gt fr' 1= .ref i:=by
 induction ks with
 |nil=>exact fun{fr σ i L} _ hf hi _=>⟨fr,by rw[bA,aR,Ev hi];rfl,hf⟩
 |cons k ks ih=>
  intro fr σ i L h hf hi hk
  obtain⟨hu,hs⟩:=h k (ba ..)
  rw[aY]at hk ⊢
  have hk1:L.length+k.2.length<=4000000:=au (dq (by rw[ao];exact cQ _ _) _) hk
  have h1:gt (put fr 3 k.1) 1= .ref i:=(fF rfl).trans hf
  have e1:PD self (put fr 3 k.1) σ=some (.next (put fr 3 k.1) (σ.set i (.lst (L++k.2)))):=by
   unfold PD
   simp only[c9,Jd,eB,bd,h1,cT,fc,hu,ae,aX,I1 hi,bZ,cp,cg,d9,hs,agK hi hk1,dz,fz]
  obtain⟨fr',e2,h2⟩:=ih (fr:=put fr 3 k.1) (σ:=σ.set i (.lst (L++k.2))) (L:=L++k.2) (fun k hk=>h k (aQ _ hk)) h1 (eg hi) (by rw[ao,ky,<- ao];exact hk)
  refine⟨fr',?_,h2⟩
  rw[bc,Eu e1,e2,aja,aB]
theorem acN{n:Nat}{fr:Fm}{σ:AS}{i:Nat}{L:aa}(hn:n<17)(hf:gt fr 1= .ref i)(hi:σ.get i=some (.lst L))(hs:i<σ.next)(hk:L.length+(fw n).length <=4000000):
  GW (put fr 2 (qe n)) σ=some (.next (put fr 2 (qe n)) ((σ.alloc (.lst (fw n))).set i (.lst (L++fw n)))):=by
 obtain⟨t,h1,h2⟩:=X3 (nmS hn)
 have h3:gt (put fr 2 (qe n)) 1= .ref i:=(fF rfl).trans hf
 have hu:bQ (qe n)=false:=rfl
 have hij:aj i σ.next=false:=by rw[fS];exact decide_eq_false (ci hs)
 unfold GW
 simp only[c9,Jd,eB,bd,h3,cT,fc,hu,ae,aX,I1 hi,bZ,cp,cg,d9,h2,aaG h1 zf,agL (dI hi hs) b7 hij hk,dz,fz]
noncomputable def rC(lvl:Nat)(l:Lf):List AV:=bif l.c then fw (jY lvl l)else[]
theorem LB{lvl:Nat}{l:Lf}{fr:Fm}{σ:AS}{i:Nat}{L:aa}(hn:jY lvl l<17)(hf:gt fr 1= .ref i)(hi:σ.get i=some (.lst L))(hs:i<σ.next)(hk:L.length+(rC lvl l).length <=4000000):
  ∃fr' ai cs,conds lvl l= .lst cs/\cs.length<=1/\pv [2] GW cs fr σ=some (.next fr' ai)/\gt fr' 1= .ref i/\ai.get i=some (.lst (L++rC lvl l))/\(∀j,aj 2 j=false->gt fr' j=gt fr j):=by
 obtain⟨k,c⟩:=l
 cases c with
 |false=>exact⟨fr,σ,[],rfl,aU _,rfl,hf,by rw[show rC lvl ⟨k,false⟩=[] from rfl,aR];exact hi,fun _ _=>rfl⟩
 |true=>exact⟨_,_,[qe (jY lvl ⟨k,true⟩)],rfl,ax _,(Eu (acN hn hf hi hs hk)).trans rfl,(fF rfl).trans hf,eg (dI hi hs),fun j h=>fF h⟩
theorem ahv(lvl i:Nat):(kd lvl i).1<17:=by
 have h1: ∀x∈iQ,x.1<17:=by decide +kernel
 have h5: ∀x∈dG,x.1<17:=by decide +kernel
 have h10: ∀x∈sf,x.1<17:=by decide +kernel
 have h77: ∀x∈gw,x.1<17:=by decide +kernel
 have h:=US lvl i
 generalize kd lvl i=x at h
 unfold kT at h
 revert h
 cases aj lvl 1
 ·cases aj lvl 5
  ·cases aj lvl 10
   ·exact h77 x
   ·exact h10 x
  ·exact h5 x
 ·exact h1 x
noncomputable def dN(lvl:Nat)(l:Lf):List AV:=kj lvl (kd lvl l.i)++rC lvl l
theorem acR{self:aW}{args:aa}{σ:AS}:bf 1 [] (nt self) args σ=bf 1 [] (aV (cK [1] IA) (aV (gq [2] (un (aA 23) (al 0)) GW) (aV (gq [3] (un (aA 22) (al 0)) (PD self)) (aV (eC (al 1)) bh)))) args σ:=rfl
theorem y7{xs:ac}{it:EM}{b:SM}{l:aa}{fr:Fm}{σ:AS}(h:it fr σ=some (.lst l,σ))(hl:l.length<=4000000):gq xs it b fr σ=pv xs b l fr σ:=by
 have h2:fu σ (.lst l)=some (l,σ):=by
  show(bif dv l.length then some (l,σ)else none)=_
  rw[fN hl];rfl
 show bu (it fr σ) (fun x ai=>bu (fu ai x) fun l ay=>pv xs b l fr ay)=_
 rw[h,aX,h2];rfl
theorem Pf{n:Nat}{it lv:AV}{b:Bool}{T Cd:aa}{cs:aa}{ks:List (AV×List AV)}(hit:noRef it=true)(hu:bQ it=false)(ha: ∀σ,aA 20 it σ=some lv)(hb: ∀σ,bU .In lv iO σ=some b)(hc: ∀σ,aA 23 it σ=some (.lst cs))(hkd: ∀σ,aA 22 it σ=some (.lst (ks.map (·.1))))
  (hsh:uB it b=some T)(hT:aN T=true)(hC:aN Cd=true)(hcl:cs.length<=4000000)
  (hcs: ∀{fr σ i L},gt fr 1= .ref i->σ.get i=some (.lst L)->i<σ.next->L.length+Cd.length<=4000000-> ∃fr' ai,pv [2] GW cs fr σ=some (.next fr' ai)/\gt fr' 1= .ref i/\ai.get i=some (.lst (L++Cd))/\(∀j,aj 2 j=false->gt fr' j=gt fr j))
  (hg: ∀k∈ks,bQ k.1=false/\ ∀σ,cj n [k.1] σ=some (.lst k.2,σ))(hgn:aN (ks.flatMap (·.2))=true)(hk:((T++Cd)++ks.flatMap (·.2)).length <=4000000)(hkl:ks.length<=4000000)(σ:AS):
  cj (n+1) [it] σ=some (.lst ((T++Cd)++ks.flatMap (·.2)),σ):=by
 have h1:=adl (it:=it) (fr:=[it]) (σ:=⟨0,[]⟩) rfl hu (by rw[gS,hit];rfl) hsh hT (ha _) (hb _)
 have hk1:T.length+Cd.length<=4000000:=by
  rw[<- ao]
  exact au (by rw[ao (as:=T++Cd)];exact cQ _ _) hk
 obtain⟨fr2,gT,h2,hf2,hi2,hj2⟩:=hcs (fr:=[it,.ref 0]) (σ:=AS.alloc ⟨0,[]⟩ (.lst T)) (i:=0) rfl rfl (gW _) hk1
 have h0:gt fr2 0=it:=(hj2 0 rfl).trans rfl
 obtain⟨fr3,h3,hf3⟩:=ZT (self:=cj n) hg hf2 hi2 (by rw[<- ao];exact hk)
 have e2:gq [2] (un (aA 23) (al 0)) GW [it,.ref 0] (AS.alloc ⟨0,[]⟩ (.lst T))=some (.next fr2 gT):=by
  refine(y7 (l:=cs) ?_ hcl).trans h2
  simp only[fV,bd,kC,hu,ae,aX,hc,bZ]
 have e3:gq [3] (un (aA 22) (al 0)) (PD (cj n)) fr2 gT=some (.next fr3 (gT.set 0 (.lst ((T++Cd)++ks.flatMap (·.2))))):=by
  refine(y7 (l:=ks.map (·.1)) ?_ (by rw[aS];exact hkl)).trans h3
  simp only[fV,bd,h0,hu,ae,aX,hkd,bZ]
 have e4:bf 1 [] (nt (cj n)) [it] ⟨0,[]⟩=some (.ref 0,gT.set 0 (.lst ((T++Cd)++ks.flatMap (·.2)))):=by
  rw[acR]
  show ob (aV (cK [1] IA) _ [it] ⟨0,[]⟩) ig=_
  simp only[c9,fy,h1,aX,bZ,dz]
  show ob (ob (gq [2] (un (aA 23) (al 0)) GW [it,.ref 0] _) _) ig=_
  simp only[e2,bZ,dz,c9,e3,d6,bd,hf3,fc,ae,aX,dB,gp]
 have hnr:aN ((T++Cd)++ks.flatMap (·.2))=true:=by
  rw[bV,bV,hgn,hT,hC];rfl
 refine za (PI:=w8 (cj n)) (by rw[gS,hit];rfl) (ay:=(gT.set 0 (.lst ((T++Cd)++ks.flatMap (·.2)))).drop 0) ?_ hnr
 show bu (bf 1 [] (nt (cj n)) [it] ⟨0,[]⟩) (fun a ai=>some (jD 12 a ai))=_
 rw[e4]
 show some (jD 12 (.ref 0) _)=_
 rw[xF (eg hi2) hnr]
theorem Xx{lvl:Nat}{l:Lf}:aN (rC lvl l)=true:=by
 unfold rC
 cases l.c
 ·rfl
 ·exact zf
noncomputable def o5(lvl:Nat)(l:Lf)(ks:aa)(p:AV):AV:=.frz b9 fT (.int (am lvl)::j0 (kd lvl l.i) (conds lvl l) (.lst ks) p .none)
theorem Ei{n lvl:Nat}{l:Lf}{ks:List (AV×List AV)}{p:AV}(hlv:q9 lvl=true)(hks:aN (ks.map (·.1))=true)(hp:noRef p=true)(hg: ∀k∈ks,bQ k.1=false/\ ∀σ,cj n [k.1] σ=some (.lst k.2,σ))(hgn:aN (ks.flatMap (·.2))=true)(hk:(dN lvl l++ks.flatMap (·.2)).length <=4000000)(hkl:ks.length<=4000000)(σ:AS):
  cj (n+1) [o5 lvl l (ks.map (·.1)) p] σ=some (.lst (dN lvl l++ks.flatMap (·.2)),σ):=by
 have hit:noRef (o5 lvl l (ks.map (·.1)) p)=true:=by
  show(true&&aN (j0 _ _ _ _ _))=true
  rw[Hi,Hh,sg,hks,hp];rfl
 obtain⟨_,_,cs,hcs,hcl,_⟩:=LB (lvl:=lvl) (l:=l) (fr:=[.none,.ref 0]) (σ:=⟨1,[(0,.lst [])]⟩) (i:=0) (L:=[]) (ahv lvl l.i) rfl rfl (gW _) (au (eu (hJ _)) (au (by unfold dN;rw[ao,ao];exact au (jn _ _) (cQ _ _)) hk))
 refine Pf (it:=o5 lvl l (ks.map (·.1)) p) hit rfl (fun _=>rfl) (amn hlv) (cs:=cs) (fun σ=> ?_) (fun _=>rfl) (amj hlv _ _ _ _) zf Xx (au hcl (by decide)) (fun{fr σ i L} h1 h2 h3 h4=> ?_) hg hgn hk hkl σ
 ·rw[<- hcs]
  obtain⟨i,c⟩:=l
  cases c<;>rfl
 ·obtain⟨fr',ai,cs',e,_,h⟩:=LB (lvl:=lvl) (l:=l) (ahv lvl l.i) h1 h2 h3 h4
  rw[hcs]at e
  cases e
  exact⟨fr',ai,h⟩
theorem aiT{n i l:Nat}(hi:i<5)(σ:AS):cj (n+1) [.frz b9 fT (j6 (17+i) l .opq)] σ=some (.lst (gu (17+i) l),σ):=by
 have hrn:noRef (xV l)=true:=by unfold xV;cases l<;>rfl
 have hit:noRef (.frz b9 fT (j6 (17+i) l .opq))=true:=by
  show aN (j6 (17+i) l .opq)=true
  simp only[j6,gS,XA,Xy,Xw,Xv,abS,sg,hrn,Xz,rl]
 have hlen:(gu (17+i) l).length <=4000000:=by
  unfold gu
  cases l<;>exact av rfl
 have h:=Pf (n:=n) (it:=.frz b9 fT (j6 (17+i) l .opq)) (T:=gu (17+i) l) (Cd:=[]) (cs:=[]) (ks:=[]) (b:=false) hit rfl (fun _=>rfl) (fun _=>rfl) (fun _=>rfl) (fun _=>rfl) (rnS hi l .opq) zf rfl (aU _) (fun{fr σ i L} h1 h2 _ _=>⟨fr,σ,rfl,h1,by rw[aR];exact h2,fun _ _=>rfl⟩) (fun _ h=>absurd h bb) rfl (by rw[bA,aR,aR];exact hlen) (aU _) σ
 rw[bA,aR,aR]at h
 exact h
theorem CC{l:List (List Nat×List Nat×Nat)}: ∀{c:Nat} {a:Bool},(ww a c l).length=l.length:=by
 induction l with
 |nil=>exact rfl
 |cons x l ih=>exact congrArg nG ih
theorem ah8(p:Nat):(Ry p).length <=2:=by
 unfold Ry xP
 cases aj p 0
 ·cases aj p 1
  ·cases aj p 2
   ·exact aU _
   ·exact ax _
  ·exact ax _
 ·exact ax _
theorem akp(p:Nat):(RK p).length <=3:=by
 unfold RK
 cases aj p 1
 ·exact aU _
 ·exact ax _
theorem ah1(p:Nat):(Rx p).length <=10:=by
 unfold Rx
 cases aj p 2
 ·cases aj p 3
  ·exact aU _
  ·exact ax _
 ·exact ax _
theorem ZO(lvl:Nat)(x:Nat×Nat×Nat):(kj lvl x).length <=18:=by
 unfold kj amO
 rw[CC]
 show((Ry x.2.2++(RK x.2.1++(Rx x.2.1++[Ks]))).length +1+1)<=18
 rw[ao,ao,ao]
 exact a9 (a9 (au (aK (ah8 _) (aK (akp _) (aK (ah1 _) (ax 1)))) (by decide)))
theorem n9(lvl:Nat)(l:Lf):(dN lvl l).length <=30:=by
 unfold dN rC
 rw[ao]
 refine aK (b:=18) (d:=12) (ZO _ _) ?_
 cases l.c
 ·exact aU _
 ·show(fw _).length <=12
  unfold fw;rw[CC];exact av rfl
noncomputable def uW(t:Tn):List AV:=match t with
 | .leaf l=>dN 5 l
 | .grp g a=>dN 5 g++dN 10 a
 | .grp2 g a b=>dN 5 g++(dN 10 a++dN 10 b)
theorem Du(t:Tn):(uW t).length <=90:=by
 cases t with
 |leaf l=>exact au (n9 5 l) (by decide)
 |grp g a=>exact(ao (as:=dN 5 g))▸au (aK (n9 5 g) (n9 10 a)) (by decide)
 |grp2 g a b=>
  show(dN 5 g++(dN 10 a++dN 10 b)).length <=90
  rw[ao,ao]
  exact aK (n9 5 g) (aK (n9 10 a) (n9 10 b))
noncomputable def Vd(i n:Nat):List AV:=gV (motive:=fun _=>List AV) [] (fun l _=>gu (17+i) l) n
theorem aiW(i n:Nat):(Vd i n).length <=90:=by
 cases n with
 |zero=>exact aU _
 |succ l=>
  show(gu (17+i) l).length <=90
  unfold gu;rw[CC]
  cases l<;>exact av rfl
theorem qD{lvl:Nat}{l:Lf}:aN (dN lvl l)=true:=by
 unfold dN;rw[bV,show aN (kj lvl (kd lvl l.i))=true from zf,Xx];rfl
theorem alI{t:Tn}:aN (uW t)=true:=by
 cases t with
 |leaf l=>exact qD
 |grp g a=>
  show aN (dN 5 g++dN 10 a)=true
  rw[bV,qD,qD];rfl
 |grp2 g a b=>
  show aN (dN 5 g++(dN 10 a++dN 10 b))=true
  rw[bV,bV,qD,qD,qD];rfl
theorem abT{i n:Nat}:aN (Vd i n)=true:=by
 cases n with
 |zero=>rfl
 |succ l=>exact zf
theorem Ej{n lvl:Nat}{l:Lf}(h:q9 lvl=true)(σ:AS):cj (n+1) [oc lvl l .opq] σ=some (.lst (dN lvl l),σ):=by
 have h:=Ei (n:=n) (l:=l) (ks:=[]) (p:=.opq) h rfl rfl (fun _ h=>absurd h bb) rfl (by rw[bA,aR];exact au (n9 lvl l) (by decide)) (aU _) σ
 rw[bA,aR]at h
 exact h
theorem Ji{l:aa}{m:Nat}(h:l.length<=m)(hm:cP m 4000000=true):l.length<=4000000:=au h (av hm)
theorem adM{n:Nat}(t:Tn)(σ:AS):cj (n+2) [sy t] σ=some (.lst (uW t),σ):=by
 cases t with
 |leaf l=>exact Ej (n:=n+1) rfl σ
 |grp g a=>
  have h:=Ei (n:=n+1) (lvl:=5) (l:=g) (ks:=[(oc 10 a .opq,dN 10 a)]) (p:=.opq) rfl (by rw[bc,jO,gS,qf];rfl) rfl (fun k hk=>(aO.mp hk)▸⟨rfl,fun σ=>Ej (n:=n) rfl σ⟩)
   (by rw[aY,bA,aR];exact qD) (by rw[aY,bA,aR];exact Ji (Du (.grp g a)) rfl) (by exact av rfl) σ
  rw[aY,bA,aR]at h
  exact h
 |grp2 g a b=>
  have h:=Ei (n:=n+1) (lvl:=5) (l:=g) (ks:=[(oc 10 a .opq,dN 10 a),(oc 10 b .opq,dN 10 b)]) (p:=.opq) rfl (by rw[bc,bc,jO,gS,gS,qf,qf];rfl) rfl
   (fun k hk=>(aH.mp hk).elim (fun h=>h▸⟨rfl,fun σ=>Ej (n:=n) rfl σ⟩) fun hk=>(aO.mp hk)▸⟨rfl,fun σ=>Ej (n:=n) rfl σ⟩)
   (by rw[aY,aY,bA,aR,bV,qD,qD];rfl) (by rw[aY,aY,bA,aR];exact Ji (Du (.grp2 g a b)) rfl) (by exact av rfl) σ
  rw[aY,aY,bA,aR]at h
  exact h
noncomputable def Eo(ts:List Tn):List (AV×List AV):=ts.map fun t=>(sy t,uW t)
noncomputable def Hq(i n:Nat):List (AV×List AV):=gV (motive:=fun _=>List (AV×List AV)) [] (fun l _=>[(.frz b9 fT (j6 (17+i) l .opq),gu (17+i) l)]) n
noncomputable def ii(r:Rt):List AV:=dN r.lvl r.it++(r.ts.flatMap uW++Vd (jY 1 r.it) r.ren)
theorem aag(ts:List Tn):(Eo ts).map (·.1)=Dt ts:=by
 induction ts with
 |nil=>rfl
 |cons t ts ih=>exact congrArg (sy t:: ·) ih
theorem aai(ts:List Tn):(Eo ts).flatMap (·.2)=ts.flatMap uW:=by
 induction ts with
 |nil=>rfl
 |cons t ts ih=>
  show uW t++(Eo ts).flatMap (·.2)=_
  rw[ih];rfl
theorem S7(ts:List Tn):aN (ts.flatMap uW)=true:=by
 induction ts with
 |nil=>rfl
 |cons t ts ih=>rw[aY,bV,alI,ih];rfl
theorem aah{ts:List Tn}(h:ts.length<=2):(ts.flatMap uW).length <=180:=by
 cases ts with
 |nil=>exact aU _
 |cons s ts=>cases ts with
  |nil=>rw[aY,bA,aR];exact au (Du s) (by decide)
  |cons t ts=>cases ts with
   |nil=>rw[aY,aY,bA,aR,ao];exact aK (Du s) (Du t)
   |cons u ts=>exact absurd h (yz.mpr (a9 (a9 (a9 (aU _)))))
structure n5(r:Rt):Prop where
 ok:XK r=true
 nm:r.ren≠0->jY 1 r.it<5
theorem n5.lv{r:Rt}(h:n5 r):q9 r.lvl=true/\r.ts.length<=2:=by
 have q:=h.ok
 unfold XK at q
 cases z:aj r.lvl 1 with
 |true=>
  rw[z]at q
  rw[aD z];exact⟨rfl,av q⟩
 |false=>
  rw[z]at q
  refine aE (show(aj r.lvl 77&&(r.ts.isEmpty&&aj r.ren 0))=true from q) fun h1 h=>aE h fun h2 _=> ?_
  rw[aD h1,ej.mp h2];exact⟨rfl,aU _⟩
theorem uy{r:Rt}(h:n5 r):(ii r).length <=300:=by
 unfold ii
 rw[ao,ao]
 exact au (aK (n9 _ _) (aK (aah h.lv.2) (aiW _ _))) (by decide)
theorem IZ{r:Rt}:aN (ii r)=true:=by
 unfold ii
 rw[bV,bV,qD,S7,abT];rfl
theorem Ve{r:Rt}(h:n5 r)(σ:AS):cj 6 [dZ r] σ=some (.lst (ii r),σ):=by
 obtain⟨h1,h2⟩:=h.lv
 have hr:(Hq (jY 1 r.it) r.ren).map (·.1)=qE r/\(Hq (jY 1 r.it) r.ren).flatMap (·.2)=Vd (jY 1 r.it) r.ren/\(Hq (jY 1 r.it) r.ren).length <=1/\ ∀k∈Hq (jY 1 r.it) r.ren,bQ k.1=false/\ ∀σ,cj 5 [k.1] σ=some (.lst k.2,σ):=by
  have hn:=h.nm
  obtain⟨lv,it,ts,n⟩:=r
  cases n with
  |zero=>exact⟨rfl,rfl,aU _,fun _ h=>absurd h bb⟩
  |succ l=>exact⟨rfl,aR _,ax _,fun k hk=>(aO.mp hk)▸⟨rfl,fun σ=>aiT (n:=4) (hn (j9 _)) σ⟩⟩
 obtain⟨r1,r2,r3,r4⟩:=hr
 have hf:(Eo r.ts++Hq (jY 1 r.it) r.ren).map (·.1)=Dt r.ts++qE r:=by rw[bj,aag,r1]
 have hs:(Eo r.ts++Hq (jY 1 r.it) r.ren).flatMap (·.2)=r.ts.flatMap uW++Vd (jY 1 r.it) r.ren:=by rw[kL,aai,r2]
 have q:=Ei (n:=5) (lvl:=r.lvl) (l:=r.it) (ks:=Eo r.ts++Hq (jY 1 r.it) r.ren) (p:=.none) h1 (by rw[hf,bV,ND,U3];rfl) rfl
  (fun k hk=>(cM.mp hk).elim (fun hk=>by
   obtain⟨t,_,rfl⟩:=dy.mp hk
   exact⟨by cases t<;>rfl,fun σ=>adM (n:=3) t σ⟩) (r4 k))
  (by rw[hs,bV,S7,abT];rfl) (by rw[hs];exact Ji (uy h) rfl) (by rw[ao];exact au (aK (au (eu (aS ..)) h2) r3) (by decide)) σ
 rw[hf,hs]at q
 exact q
noncomputable def Ec(wk lk:aa)(fk:List (List Nat))(fv so:aa):AV:=.frz Y4 [24,25,26,27,31,5] [.lst wk,.lst lk,.dct fk fv,.lst so,.int 0,.dct [] []]
section
variable{σ:AS}{i j:Nat}{l m:aa}
theorem o7:cU [] σ=some (.ref σ.next,σ.alloc (.lst [])):=rfl
theorem D9(hi:σ.get i=some (.lst l))(hk:l.length+m.length<=4000000):bT .Add (.ref i) (.lst m) σ=some (.ref σ.next,σ.alloc (.lst (l++m))):=by
 have h1:iJ σ (.ref i)=some l:=jf hi
 show ob (iJ σ (.ref i)) _=_
 rw[h1]
 show(bif dv (l.length+m.length)then _ else none)=_
 rw[fN hk];rfl
theorem Ip(hi:σ.get i=some (.lst l))(hj:σ.get j=some (.lst m))(hk:l.length+m.length<=4000000):bT .Add (.ref i) (.ref j) σ=some (.ref σ.next,σ.alloc (.lst (l++m))):=by
 have h1:iJ σ (.ref i)=some l:=jf hi
 have h2:iJ σ (.ref j)=some m:=jf hj
 show ob (iJ σ (.ref i)) (fun l=>ob (iJ σ (.ref j)) fun m=>bif dv (l.length+m.length)then some (AV.ref σ.next,σ.alloc (.lst (l++m)))else none)=_
 rw[h1,bZ,h2,bZ,fN hk];rfl
theorem Xr(hi:σ.get i=some (.lst l))(hj:σ.get j=some (.lst [])):bU .NotEq (.ref i) (.ref j) σ=some (!l.isEmpty):=by
 have h1:iJ σ (.ref i)=some l:=jf hi
 have h2:iJ σ (.ref j)=some []:=jf hj
 show ob (od (iJ σ (.ref i)) (fun l=>ob (iJ σ (.ref j)) fun m=>bif re l m then Ku (wo 16) l m else some false) _) _=_
 rw[h1,amV,h2]
 cases l<;>rfl
theorem IC(hj:σ.get j=some (.lst [])):bU .Eq (.lst l) (.ref j) σ=some l.isEmpty:=by
 have h2:iJ σ (.ref j)=some []:=jf hj
 show ob (iJ σ (.ref j)) (fun m=>bif re l m then Ku (wo 16) l m else some false)=_
 rw[h2]
 cases l<;>rfl
end
noncomputable def Vb:SM:=aV (kQ (cC (fH fR) (al 1) (aw (bn (cj 6) (aw (al 2) aJ)) aJ))) bh
theorem Qd{r:Rt}(h:n5 r)(σ:AS):iy [.lst [dZ r]] σ=some (.lst (ii r),σ):=by
 have e1:Vb [.lst [dZ r],.ref 0,dZ r] (AS.alloc ⟨0,[]⟩ (.lst []))=some (.next [.lst [dZ r],.ref 0,dZ r] ((AS.alloc ⟨0,[]⟩ (.lst [])).set 0 (.lst ([]++ii r)))):=by
  have hu:bQ (dZ r)=false:=rfl
  unfold Vb
  simp only[c9,Jd,eB,bd,kC,o0,fc,hu,ae,aX,I1 (i:=0) (σ:=AS.alloc ⟨0,[]⟩ (.lst [])) (l:=[]) rfl,bZ,cp,cg,d9,Ve h,agK (i:=0) (σ:=AS.alloc ⟨0,[]⟩ (.lst [])) (l:=[]) rfl (au (eu (hJ _)) (Ji (uy h) rfl)),dz,fz]
 have e2:gq [2] (al 0) Vb [.lst [dZ r],.ref 0] (AS.alloc ⟨0,[]⟩ (.lst []))=some (.next [.lst [dZ r],.ref 0,dZ r] ((AS.alloc ⟨0,[]⟩ (.lst [])).set 0 (.lst (ii r)))):=(y7 (l:=[dZ r]) rfl (av rfl)).trans (Eu e1)
 have e3:bf 1 [] rB [.lst [dZ r]] ⟨0,[]⟩=some (.ref 0,(AS.alloc ⟨0,[]⟩ (.lst [])).set 0 (.lst (ii r))):=by
  show ob (ob (gq [2] (al 0) Vb [.lst [dZ r],.ref 0] (AS.alloc ⟨0,[]⟩ (.lst []))) (gN (aV (eC (al 1)) bh))) ig=_
  rw[e2];rfl
 refine za (PI:=xa) (by rw[gS,sg,gS,KG];rfl) (ay:=((AS.alloc ⟨0,[]⟩ (.lst [])).set 0 (.lst (ii r))).drop 0) ?_ IZ
 show bu (bf 1 [] rB [.lst [dZ r]] ⟨0,[]⟩) (fun a ai=>some (jD 12 a ai))=_
 rw[e3]
 show some (jD 12 (.ref 0) _)=_
 rw[xF (l:=ii r) rfl IZ]
noncomputable def b6(a b:ac):List AV:=ww true 8 [wd a,(uA,b,b.length),Ks]
noncomputable def ms:List Nat:=[87,79,82,75,73,78,71,45,83,84,79,82,65,71,69]
noncomputable def pD:List Nat:=[76,73,78,75,65,71,69]
noncomputable def cW:List Nat:=[83,69,67,84,73,79,78]
noncomputable def gO:List Nat:=[70,73,76,69]
noncomputable def jA:List Nat:=[68,65,84,65]
noncomputable def uz:List Nat:=[68,73,86,73,83,73,79,78]
noncomputable def sFD:List Nat:=[70,68]
noncomputable def sSD:List Nat:=[83,68]
noncomputable def sF1:List Nat:=[70,49]
noncomputable def ap9:List Nat:=[79,76,68]
noncomputable def kh(s:Bool):List Nat:=bif s then sSD else sFD
noncomputable def d8(o:Bool):List Nat:=bif o then ap9 else sF1
theorem anU:kG (ms++32::cW++[46]) true=some (b6 ms cW):=by kernel_rfl
theorem anT:kG (pD++32::cW++[46]) true=some (b6 pD cW):=by kernel_rfl
theorem anS:kG (gO++32::cW++[46]) true=some (b6 gO cW):=by kernel_rfl
theorem anR:kG (jA++32::uz++[46]) true=some (b6 jA uz):=by kernel_rfl
theorem apA(o s:Bool):kG (kh s++32::d8 o++[46]) true=some (b6 (kh s) (d8 o)):=by
 cases o<;>cases s<;>kernel_rfl
theorem ze{a b:ac}:aN (b6 a b)=true:=zf
noncomputable def fA(h:aa)(o:Option Rt):List AV:=bm (motive:=fun _=>List AV) [] (fun r=>h++ii r) o
noncomputable def jg(o:Option Rt):List AV:=bm (motive:=fun _=>List AV) [] (fun r=>[dZ r]) o
def J3(o:Option Rt):Prop:= ∀r,o=some r->n5 r
theorem X2{h t a b:ac}{o:Option Rt}(he: ∀σ,bT .Add (.str h) (.str [32,83,69,67,84,73,79,78,46]) σ=some (.str t,σ))(hh:kG t true=some (b6 a b))(ho:J3 o)(σ:AS):eJ [.str h,.lst (jg o)] σ=some (.lst (fA (b6 a b) o),σ):=by
 cases o with
 |none=>
  have e3:bf 2 [] eK [.str h,.lst []] ⟨0,[]⟩=some (.ref 1,AS.alloc (AS.alloc ⟨0,[]⟩ (.lst [])) (.lst [])):=by
   show ob (eK [.str h,.lst []] ⟨0,[]⟩) ig=_
   have hu:bQ (.lst [])=false:=rfl
   simp only[eK,c9,jW,ft,bd,kC,o0,hu,ae,aX,bZ,d9,cg,o7,IC (σ:=AS.alloc ⟨0,[]⟩ (.lst [])) (j:=0) (l:=[]) rfl,Gg,af,d6,dB,gp]
   rfl
  refine za (PI:=nM) rfl (ay:=AS.drop (AS.alloc (AS.alloc ⟨0,[]⟩ (.lst [])) (.lst [])) 1) ?_ rfl
  show bu (bf 2 [] eK [.str h,.lst []] ⟨0,[]⟩) (fun a ai=>some (jD 12 a ai))=_
  rw[e3];rfl
 |some r=>
  have hr:=ho r rfl
  have hk:(b6 a b).length +(ii r).length <=4000000:=au (aK (b:=3) (eu CC) (uy hr)) (by decide)
  have hn:aN (b6 a b++ii r)=true:=by rw[bV,ze,IZ];rfl
  have e3:bf 2 [] eK [.str h,.lst [dZ r]] ⟨0,[]⟩=some (.ref 2,AS.alloc (AS.alloc (AS.alloc ⟨0,[]⟩ (.lst [])) (.lst (b6 a b))) (.lst (b6 a b++ii r))):=by
   show ob (eK [.str h,.lst [dZ r]] ⟨0,[]⟩) ig=_
   have hu:bQ (.lst [dZ r])=false:=rfl
   simp only[eK,c9,jW,ft,bd,kC,o0,hu,mP,ae,aX,bZ,d9,cg,cp,dU,o7,IC (σ:=AS.alloc ⟨0,[]⟩ (.lst [])) (j:=0) (l:=[dZ r]) rfl,EF,fz,dz,d6,jB,he,x9 hh ze,Qd hr,D9 (σ:=AS.alloc (AS.alloc ⟨0,[]⟩ (.lst [])) (.lst (b6 a b))) (i:=(AS.alloc ⟨0,[]⟩ (.lst [])).next) (l:=b6 a b) rfl hk,dB,gp]
   rfl
  refine za (PI:=nM) (by rw[gS,gS,show noRef (.lst (jg (some r)))=true from by show aN [dZ r]=true;rw[gS,KG];rfl];rfl) (ay:=AS.drop (AS.alloc (AS.alloc (AS.alloc ⟨0,[]⟩ (.lst [])) (.lst (b6 a b))) (.lst (b6 a b++ii r))) 2) ?_ hn
  show bu (bf 2 [] eK [.str h,.lst [dZ r]] ⟨0,[]⟩) (fun a ai=>some (jD 12 a ai))=_
  rw[e3]
  show some (jD 12 (.ref 2) _)=_
  rw[xF (l:=b6 a b++ii r) rfl hn];rfl
structure DS where
 f:Option (Bool×Bool×Rt)
 w:Option Rt
 l:Option Rt
structure jd(d:DS):Prop where
 f: ∀x,d.f=some x->n5 x.2.2/\x.2.2.lvl=1
 w:J3 d.w
 l:J3 d.l
noncomputable def Ru(d:DS):List (List Nat):=bm (motive:=fun _=>List (List Nat)) [] (fun x=>[d8 x.1]) d.f
noncomputable def Pl(d:DS):List AV:=bm (motive:=fun _=>List AV) [] (fun x=>[.lst [dZ x.2.2]]) d.f
noncomputable def fSo(d:DS):List AV:=bm (motive:=fun _=>List AV) [] (fun x=>bif x.2.1 then[.str (d8 x.1)]else[]) d.f
noncomputable def bC(d:DS):AV:=Ec (jg d.w) (jg d.l) (Ru d) (Pl d) (fSo d)
noncomputable def flT(d:DS):List AV:=bm (motive:=fun _=>List AV) [] (fun x=>b6 (kh x.2.1) (d8 x.1)++ii x.2.2) d.f
noncomputable def i7(d:DS):List AV:=bm (motive:=fun _=>List AV) [] (fun x=>b6 gO cW++(b6 (kh x.2.1) (d8 x.1)++ii x.2.2)) d.f
noncomputable def dR(d:DS):List AV:=(i7 d++fA (b6 ms cW) d.w)++fA (b6 pD cW) d.l
noncomputable def gE(d:DS):List AV:=bif (dR d).isEmpty then[]else b6 jA uz++dR d
theorem qY{a b:ac}:(b6 a b).length=3:=CC
theorem xX{a b:ac}{o:Option Rt}(h:J3 o):(fA (b6 a b) o).length <=303:=by
 cases o with
 |none=>exact aU _
 |some r=>
  show(b6 a b++ii r).length <=303
  rw[ao,qY];exact dq (uy (h r rfl)) 3
theorem abU{a b:ac}{o:Option Rt}:aN (fA (b6 a b) o)=true:=by
 cases o with
 |none=>rfl
 |some r=>
  show aN (b6 a b++ii r)=true
  rw[bV,ze,IZ];rfl
theorem G6{d:DS}(h:jd d):(i7 d).length <=306:=by
 obtain⟨f,w,l⟩:=d
 cases f with
 |none=>exact aU _
 |some x=>
  show(b6 gO cW++(b6 (kh x.2.1) (d8 x.1)++ii x.2.2)).length <=306
  rw[ao,ao,qY,qY];exact dq (dq (uy (h.f x rfl).1) 3) 3
theorem ahU{d:DS}:aN (i7 d)=true:=by
 obtain⟨f,w,l⟩:=d
 cases f with
 |none=>rfl
 |some x=>
  show aN (b6 gO cW++(b6 (kh x.2.1) (d8 x.1)++ii x.2.2))=true
  rw[bV,bV,ze,ze,IZ];rfl
theorem OV{d:DS}(h:jd d):(dR d).length <=1000:=by
 unfold dR
 rw[ao,ao]
 exact au (aK (aK (G6 h) (xX h.w)) (xX h.l)) (by decide)
theorem ahT{d:DS}:aN (dR d)=true:=by
 unfold dR;rw[bV,bV,ahU,abU,abU];rfl
theorem U2{d:DS}:aN (gE d)=true:=by
 unfold gE
 cases (dR d).isEmpty
 ·show aN (b6 jA uz++dR d)=true
  rw[bV,ze,ahT];rfl
 ·rfl
noncomputable def Kv:SM:=aV (cK [3] (sY (fh (bU .In) (al 2) (un (aA 27) (al 0))) (a6 (.str [83,68,32])) (a6 (.str [70,68,32]))))
  (aV (kQ (cC (fH fR) (al 1) (aw (bi (bT .Add) (bn cE (aw (bi (bT .Add) (bi (bT .Add) (al 3) (al 2)) (a6 (.str [46]))) (aw (a6 (.bool true)) aJ))) (bn iy (aw (bi fM (un (aA 26) (al 0)) (al 2)) aJ))) aJ))) bh)
noncomputable def Eb:SM:=rV (fh (bU .NotEq) (al 1) (bn cU aJ)) (aV (cK [1] (bi (bT .Add) (bn cE (aw (a6 (.str [70,73,76,69,32,83,69,67,84,73,79,78,46])) (aw (a6 (.bool true)) aJ))) (al 1))) bh) bh
noncomputable def sV:SM:=cK [1] (bi (bT .Add) (bi (bT .Add) (al 1) (bn eJ (aw (a6 (.str [87,79,82,75,73,78,71,45,83,84,79,82,65,71,69])) (aw (un (aA 24) (al 0)) aJ)))) (bn eJ (aw (a6 (.str [76,73,78,75,65,71,69])) (aw (un (aA 25) (al 0)) aJ))))
noncomputable def oY:SM:=aV (eC (sY (fh (bU .NotEq) (al 1) (bn cU aJ)) (bi (bT .Add) (bn cE (aw (a6 (.str [68,65,84,65,32,68,73,86,73,83,73,79,78,46])) (aw (a6 (.bool true)) aJ))) (al 1)) (bn cU aJ))) bh
theorem afK:oW=aV (cK [1] (bn cU aJ)) (aV (gq [2] (un (aA 26) (al 0)) Kv) (aV Eb (aV sV oY))):=rfl
theorem adY{d:DS}(h:jd d){fr:Fm}{σ:AS}{i:Nat}(h0:gt fr 0=bC d)(h1:gt fr 1= .ref i)(hi:σ.get i=some (.lst (i7 d)))(hs:i<σ.next): ∃k ai,aV sV oY fr σ=some (.ret (.ref k) ai)/\ai.get k=some (.lst (gE d)):=by
 have hu:bQ (bC d)=false:=rfl
 have a24: ∀σ,aA 24 (bC d) σ=some (.lst (jg d.w)):=fun _=>rfl
 have a25: ∀σ,aA 25 (bC d) σ=some (.lst (jg d.l)):=fun _=>rfl
 have s1: ∀σ,eJ [.str [87,79,82,75,73,78,71,45,83,84,79,82,65,71,69],.lst (jg d.w)] σ=some (.lst (fA (b6 ms cW) d.w),σ):=X2 (fun _=>rfl) anU h.w
 have s2: ∀σ,eJ [.str [76,73,78,75,65,71,69],.lst (jg d.l)] σ=some (.lst (fA (b6 pD cW) d.l),σ):=X2 (fun _=>rfl) anT h.l
 have k1:(i7 d).length +(fA (b6 ms cW) d.w).length <=4000000:=au (aK (G6 h) (xX h.w)) (by decide)
 have k2:(i7 d++fA (b6 ms cW) d.w).length +(fA (b6 pD cW) d.l).length <=4000000:=by
  rw[ao];exact au (aK (aK (G6 h) (xX h.w)) (xX h.l)) (by decide)
 have e1:=D9 (m:=fA (b6 ms cW) d.w) hi k1
 have e2:=D9 (σ:=σ.alloc (.lst (i7 d++fA (b6 ms cW) d.w))) (i:=σ.next) (l:=i7 d++fA (b6 ms cW) d.w) (m:=fA (b6 pD cW) d.l) b7 k2
 generalize hσ:(σ.alloc (.lst (i7 d++fA (b6 ms cW) d.w))).alloc (.lst ((i7 d++fA (b6 ms cW) d.w)++fA (b6 pD cW) d.l))=aM at e2
 have g2:aM.get (σ.alloc (.lst (i7 d++fA (b6 ms cW) d.w))).next=some (.lst (dR d)):=by rw[<- hσ];exact b7
 have l2:(σ.alloc (.lst (i7 d++fA (b6 ms cW) d.w))).next <aM.next:=by rw[<- hσ];exact bL _
 generalize (σ.alloc (.lst (i7 d++fA (b6 ms cW) d.w))).next=j at e2 g2 l2
 have r2:sV fr σ=some (.next (put fr 1 (.ref j)) aM):=by
  unfold sV
  simp only[fy,jB,bd,h0,h1,hu,fc,ae,aX,d9,cp,cg,dU,fV,a24,a25,bZ,s1,s2,e1,e2]
 have n1:=Xr (σ:=aM.alloc (.lst [])) (i:=j) (j:=aM.next) (l:=dR d) (dI g2 l2) b7
 have hj:gt (put fr 1 (.ref j)) 1= .ref j:=cT
 cases hb:(dR d).isEmpty with
 |true=>
  refine⟨(aM.alloc (.lst [])).next,(aM.alloc (.lst [])).alloc (.lst []),?_,?_⟩
  ·show ob (sV fr σ) (gN oY)=_
   rw[r2]
   show oY (put fr 1 (.ref j)) aM=_
   unfold oY
   simp only[c9,d6,wt,ft,bd,hj,fc,ae,aX,d9,cg,o7,n1,hb,eo,bZ,dB]
  ·rw[b7];unfold gE;rw[hb];rfl
 |false=>
  have t1:=x9 anR ze (aM.alloc (.lst []))
  have g3:((aM.alloc (.lst [])).alloc (.lst (b6 jA uz))).get j=some (.lst (dR d)):=dI (dI g2 l2) (cG l2)
  have e3:=Ip (σ:=(aM.alloc (.lst [])).alloc (.lst (b6 jA uz))) (i:=(aM.alloc (.lst [])).next) (j:=j) b7 g3 (au (aK (eu qY) (OV h)) (by decide))
  refine⟨((aM.alloc (.lst [])).alloc (.lst (b6 jA uz))).next,((aM.alloc (.lst [])).alloc (.lst (b6 jA uz))).alloc (.lst (b6 jA uz++dR d)),?_,?_⟩
  ·show ob (sV fr σ) (gN oY)=_
   rw[r2]
   show oY (put fr 1 (.ref j)) aM=_
   unfold oY
   have t1':cE [.str [68,65,84,65,32,68,73,86,73,83,73,79,78,46],.bool true] (aM.alloc (.lst []))=some (.ref (aM.alloc (.lst [])).next,(aM.alloc (.lst [])).alloc (.lst (b6 jA uz))):=t1
   simp only[c9,d6,wt,ft,jB,bd,hj,fc,ae,af,aX,d9,cg,cp,dU,o7,n1,hb,fi,bZ,t1',e3,dB]
  ·rw[b7];unfold gE;rw[hb];rfl
theorem ZJ(o s:Bool)(σ:AS):bU .In (.str (d8 o)) (.lst (bif s then[.str (d8 o)]else[])) σ=some s:=by cases o<;>cases s<;>rfl
theorem ZE(o:Bool)(v:AV)(σ:AS):fM (.dct [d8 o] [v]) (.str (d8 o)) σ=some (v,σ):=by cases o<;>rfl
theorem ani(o s:Bool)(σ:AS):bT .Add (.str (bif s then[83,68,32]else[70,68,32])) (.str (d8 o)) σ=some (.str (kh s++32::d8 o),σ):=by cases o<;>cases s<;>rfl
theorem anh(o s:Bool)(σ:AS):bT .Add (.str (kh s++32::d8 o)) (.str [46]) σ=some (.str (kh s++32::d8 o++[46]),σ):=by cases o<;>cases s<;>rfl
theorem Zr{o s:Bool}{r:Rt}{w l:Option Rt}{fr:Fm}{σ:AS}{i:Nat}(h:n5 r)(h0:gt fr 0=bC ⟨some (o,s,r),w,l⟩)(h1:gt fr 1= .ref i)(hi:σ.get i=some (.lst []))(hs:i<σ.next):
  ∃fr' ai,Kv (put fr 2 (.str (d8 o))) σ=some (.next fr' ai)/\gt fr' 0=bC ⟨some (o,s,r),w,l⟩/\gt fr' 1= .ref i/\ai.get i=some (.lst (b6 (kh s) (d8 o)++ii r))/\i<ai.next:=by
 have hu:bQ (bC ⟨some (o,s,r),w,l⟩)=false:=rfl
 have a26: ∀σ,aA 26 (bC ⟨some (o,s,r),w,l⟩) σ=some (.dct [d8 o] [.lst [dZ r]]):=fun _=>rfl
 have a27: ∀σ,aA 27 (bC ⟨some (o,s,r),w,l⟩) σ=some (.lst (bif s then[.str (d8 o)]else[])):=fun _=>rfl
 have g0:gt (put fr 2 (.str (d8 o))) 0=bC ⟨some (o,s,r),w,l⟩:=(fF rfl).trans h0
 have g2:gt (put fr 2 (.str (d8 o))) 2= .str (d8 o):=cT
 have e0:cK [3] (sY (fh (bU .In) (al 2) (un (aA 27) (al 0))) (a6 (.str [83,68,32])) (a6 (.str [70,68,32]))) (put fr 2 (.str (d8 o))) σ=some (.next (put (put fr 2 (.str (d8 o))) 3 (.str (bif s then[83,68,32]else[70,68,32]))) σ):=by
  simp only[fy,wt,ft,bd,g0,g2,hu,mP,ae,aX,fV,a27,bZ,ZJ,dU]
  cases s<;>rfl
 generalize hf:put (put fr 2 (.str (d8 o))) 3 (.str (bif s then[83,68,32]else[70,68,32]))=fr2 at e0
 have f0:gt fr2 0=bC ⟨some (o,s,r),w,l⟩:=by rw[<- hf];exact(fF rfl).trans g0
 have f1:gt fr2 1= .ref i:=by rw[<- hf];exact(fF rfl).trans ((fF rfl).trans h1)
 have f2:gt fr2 2= .str (d8 o):=by rw[<- hf];exact(fF rfl).trans g2
 have f3:gt fr2 3= .str (bif s then[83,68,32]else[70,68,32]):=by rw[<- hf];exact cT
 have t1:=x9 (apA o s) ze σ
 have k1:(b6 (kh s) (d8 o)).length +(ii r).length <=4000000:=au (aK (eu qY) (uy h)) (by decide)
 have e1:=D9 (σ:=σ.alloc (.lst (b6 (kh s) (d8 o)))) (i:=σ.next) (l:=b6 (kh s) (d8 o)) (m:=ii r) b7 k1
 generalize hσ:(σ.alloc (.lst (b6 (kh s) (d8 o)))).alloc (.lst (b6 (kh s) (d8 o)++ii r))=aM at e1
 have g3:aM.get (σ.alloc (.lst (b6 (kh s) (d8 o)))).next=some (.lst (b6 (kh s) (d8 o)++ii r)):=by rw[<- hσ];exact b7
 have g4:aM.get i=some (.lst []):=by rw[<- hσ];exact dI (dI hi hs) (cG hs)
 have l2:i<(σ.alloc (.lst (b6 (kh s) (d8 o)))).next:=cG hs
 have l3:i<aM.next:=by rw[<- hσ];exact cG (cG hs)
 generalize (σ.alloc (.lst (b6 (kh s) (d8 o)))).next=j at e1 g3 l2
 have hij:aj i j=false:=by rw[fS];exact decide_eq_false (ci l2)
 have k2:([]:List AV).length +(b6 (kh s) (d8 o)++ii r).length <=4000000:=by rw[ao];exact au (eu (hJ _)) k1
 have e2:=agL g4 g3 hij k2
 refine⟨fr2,aM.set i (.lst ([]++(b6 (kh s) (d8 o)++ii r))),?_,f0,f1,eg g4,l3⟩
 show ob (cK [3] (sY (fh (bU .In) (al 2) (un (aA 27) (al 0))) (a6 (.str [83,68,32])) (a6 (.str [70,68,32]))) (put fr 2 (.str (d8 o))) σ) _=_
 rw[e0]
 show aV _ _ fr2 σ=_
 simp only[c9,Jd,eB,bd,f0,f1,f2,f3,hu,fc,mP,ae,aX,I1 hi,bZ,cp,cg,d9,jB,ani,anh,dU,t1,fV,a26,ZE,Qd h,e1,e2,dz,fz]
theorem ZA{d:DS}(h:jd d){fr:Fm}{σ:AS}{i:Nat}{L:aa}(h0:gt fr 0=bC d)(h1:gt fr 1= .ref i)(hi:σ.get i=some (.lst L))(hs:i<σ.next)(hL:L=flT d): ∃fr' ai j,Eb fr σ=some (.next fr' ai)/\gt fr' 0=bC d/\gt fr' 1= .ref j/\ai.get j=some (.lst (i7 d))/\j<ai.next:=by
 have n1:=Xr (σ:=σ.alloc (.lst [])) (i:=i) (j:=σ.next) (l:=L) (dI hi hs) b7
 obtain⟨f,w,l⟩:=d
 cases f with
 |none=>
  have hL:L=[]:=hL
  subst hL
  refine⟨fr,σ.alloc (.lst []),i,?_,h0,h1,dI hi hs,cG hs⟩
  unfold Eb
  simp only[jW,ft,bd,h1,fc,ae,aX,d9,cg,o7,n1,Gg,eo,bZ,fz]
 |some x=>
  have hL:L=b6 (kh x.2.1) (d8 x.1)++ii x.2.2:=hL
  have he:L.isEmpty=false:=by rw[hL];rfl
  have t1:=x9 anS ze (σ.alloc (.lst []))
  have t1':cE [.str [70,73,76,69,32,83,69,67,84,73,79,78,46],.bool true] (σ.alloc (.lst []))=some (.ref (σ.alloc (.lst [])).next,(σ.alloc (.lst [])).alloc (.lst (b6 gO cW))):=t1
  have g3:((σ.alloc (.lst [])).alloc (.lst (b6 gO cW))).get i=some (.lst L):=dI (dI hi hs) (cG hs)
  have hk:(b6 gO cW).length +L.length<=4000000:=by
   rw[hL,ao]
   exact au (aK (eu qY) (aK (eu qY) (uy (h.f x rfl).1))) (by decide)
  have e3:=Ip (σ:=(σ.alloc (.lst [])).alloc (.lst (b6 gO cW))) (i:=(σ.alloc (.lst [])).next) (j:=i) b7 g3 hk
  refine⟨put fr 1 (.ref ((σ.alloc (.lst [])).alloc (.lst (b6 gO cW))).next),((σ.alloc (.lst [])).alloc (.lst (b6 gO cW))).alloc (.lst (b6 gO cW++L)),((σ.alloc (.lst [])).alloc (.lst (b6 gO cW))).next,?_,(fF rfl).trans h0,cT,?_,bL _⟩
  ·unfold Eb
   simp only[jW,ft,bd,h1,fc,ae,af,aX,d9,cg,cp,dU,o7,n1,he,fi,bZ,c9,fy,jB,t1',e3,dz,fz]
  ·rw[b7,hL];rfl
theorem KF{d:DS}:aN [bC d]=true:=by
 have h: ∀o:Option Rt,aN (jg o)=true:=fun o=>by
  cases o with
  |none=>rfl
  |some r=>show aN [dZ r]=true;rw[gS,KG];rfl
 obtain⟨f,w,l⟩:=d
 have hf:aN (Pl ⟨f,w,l⟩)=true:=by
  cases f with
  |none=>rfl
  |some x=>show aN [.lst [dZ x.2.2]]=true;rw[gS,sg,gS,KG];rfl
 have hs:aN (fSo ⟨f,w,l⟩)=true:=by
  cases f with
  |none=>rfl
  |some x=>show aN (bif x.2.1 then[.str (d8 x.1)]else[])=true;cases x.2.1<;>rfl
 show(aN [.lst (jg w),.lst (jg l),.dct _ (Pl ⟨f,w,l⟩),.lst (fSo ⟨f,w,l⟩),.int 0,.dct [] []]&&true)=true
 rw[gS,gS,gS,gS,sg,sg,sg,h,h,hs,show noRef (.dct (Ru ⟨f,w,l⟩) (Pl ⟨f,w,l⟩))=true from hf];rfl
theorem acO{d:DS}(h:jd d)(σ:AS):hY [bC d] σ=some (.lst (gE d),σ):=by
 have hu:bQ (bC d)=false:=rfl
 have start: ∃fr' ai,gq [2] (un (aA 26) (al 0)) Kv [bC d,.ref 0] (AS.alloc ⟨0,[]⟩ (.lst []))=some (.next fr' ai)/\gt fr' 0=bC d/\gt fr' 1= .ref 0/\ai.get 0=some (.lst (flT d))/\0<ai.next:=by
  obtain⟨f,w,l⟩:=d
  cases f with
  |none=>exact⟨_,_,rfl,rfl,rfl,rfl,gW _⟩
  |some x=>
   obtain⟨fr',ai,e,h0,h1,h2,h3⟩:=Zr (o:=x.1) (s:=x.2.1) (r:=x.2.2) (w:=w) (l:=l) (fr:=[bC ⟨some (x.1,x.2.1,x.2.2),w,l⟩,.ref 0]) (σ:=AS.alloc ⟨0,[]⟩ (.lst [])) (i:=0) (h.f x rfl).1 rfl rfl rfl (gW _)
   exact⟨fr',ai,(show gq [2] (un (aA 26) (al 0)) Kv [bC ⟨some x,w,l⟩,.ref 0] (AS.alloc ⟨0,[]⟩ (.lst []))=pv [2] Kv [.str (d8 x.1)] [bC ⟨some x,w,l⟩,.ref 0] (AS.alloc ⟨0,[]⟩ (.lst [])) from rfl).trans ((Eu e).trans rfl),h0,h1,h2,h3⟩
 obtain⟨fr1,gv,e1,a0,a1,a2,a3⟩:=start
 obtain⟨fr2,gT,j,e2,b0,b1,b2,b3⟩:=ZA h a0 a1 a2 a3 rfl
 obtain⟨k,qo,e3,c1⟩:=adY h b0 b1 b2 b3
 have e4:bf 1 [] oW [bC d] ⟨0,[]⟩=some (.ref k,qo):=by
  rw[afK]
  show ob (ob (gq [2] (un (aA 26) (al 0)) Kv [bC d,.ref 0] (AS.alloc ⟨0,[]⟩ (.lst []))) (gN (aV Eb (aV sV oY)))) ig=_
  rw[e1]
  show ob (ob (Eb fr1 gv) (gN (aV sV oY))) ig=_
  rw[e2]
  show ob (aV sV oY fr2 gT) ig=_
  rw[e3];rfl
 have e5:ru [bC d] ⟨0,[]⟩=some (.lst (gE d),qo.drop k):=by
  show bu (bf 1 [] oW [bC d] ⟨0,[]⟩) (fun a ai=>some (jD 12 a ai))=_
  rw[e4]
  show some (jD 12 (.ref k) _)=_
  rw[xF c1 U2]
 show pr (pL (jD 14) [bC d] σ) (fun args' ai=>vF nQ ru args' ai)=_
 rw[show pL (jD 14) [bC d] σ=([bC d],σ) from PN KF]
 exact za KF e5 U2
noncomputable def flat:Nat->AV->Bool
 |n,a=>match a with
  | .none=>true
  | .bool _=>true
  | .int _=>true
  | .str _=>true
  | .bytes _=>true
  | .tup l=>match n with
   |0=>false
   |n+1=>l.all (flat n)
  |_=>false
theorem Pj(s:ac):dp s s=true:=by rw[oa];exact decide_eq_true rfl
theorem acU(i:Int):Kt i i=true:=by cases i<;>exact yW _
theorem acT(b:List UInt8):IB b (.bytes b)=some true:=congrArg some (beq_self_eq_true b)
theorem OM{n:Nat}{a:AV}(h:flat n a=true)(ht:Cy a=false):Lw a a=some true:=by
 cases a with
 |none=>rfl
 |bool b=>cases b<;>rfl
 |int i=>exact congrArg some (acU i)
 |str s=>exact congrArg some (Pj s)
 |bytes b=>exact acT b
 |tup l=>exact ff ht.symm
 |_=>cases n<;>exact ff h
theorem Sv{n:Nat}: ∀{a:AV},flat n a=true->wo n a a=some true:=by
 induction n with
 |zero=>
  intro a h
  refine OM h ?_
  cases a<;>first|rfl|exact ff h
 |succ n ih=>
  intro a h
  by_cases q: ∃l,a= .tup l
  ·obtain⟨l,rfl⟩:=q
   have h:l.all (flat n)=true:=h
   show Ku (wo n) l l=some true
   induction l with
   |nil=>rfl
   |cons a l ihl=>
    obtain⟨h1,h2⟩:=br.mp (show(flat n a&&l.all (flat n))=true from h)
    show ob (wo n a a) (fun x=>ob (Ku (wo n) l l) fun y=>some (x&&y))=_
    rw[ih h1,bZ,ihl (by exact h2) (by exact h2)];rfl
  ·have ht:Cy a=false:=by cases a<;>first|rfl|exact absurd ⟨_,rfl⟩ q
   show(bif Cy a&&Cy a then _ else Lw a a)=_
   rw[ht];exact OM h ht
theorem GZ{i:Nat}{elt:EM}{fr:Fm}{ps:List (AV×AV)}: ∀{σ:AS},(∀p∈ps,∀σ,elt (put fr i p.1) σ=some (p.2,σ))->eA [i] (fun _ σ=>some (true,σ)) elt (ps.map (·.1)) fr σ=some (ps.map (·.2),σ):=by
 induction ps with
 |nil=>exact fun _=>rfl
 |cons p ps ih=>
  intro σ h
  show bu (elt (put fr i p.1) σ) (fun b fO=>bu (eA [i] (fun _ σ=>some (true,σ)) elt (ps.map (·.1)) fr fO) fun l cF=>some (b::l,cF))=_
  rw[h p (ba ..),aX,ih fun q hq=>h q (aQ _ hq)];rfl
theorem NA{l:aa}{σ:AS}(h:l.length<=4000000):fu σ (.lst l)=some (l,σ):=by
 show(bif dv l.length then some (l,σ)else none)=_
 rw[fN h];rfl
theorem G2{i:Nat}{it elt:EM}{fr:Fm}{ps:List (AV×AV)}{σ:AS}(hi:it fr σ=some (.lst (ps.map (·.1)),σ))(hl:ps.length<=4000000)(h: ∀p∈ps,∀σ,elt (put fr i p.1) σ=some (p.2,σ)):
  eI [i] it (fun _ σ=>some (true,σ)) elt fr σ=some (.ref σ.next,σ.alloc (.lst (ps.map (·.2)))):=by
 show bu (it fr σ) (fun x ai=>bu (fu ai x) fun l ay=>bu (eA [i] (fun _ σ=>some (true,σ)) elt l fr ay) fun vs aM=>bif dv vs.length then some (AV.ref aM.next,aM.alloc (.lst vs))else none)=_
 rw[hi,aX,NA (by rw[aS];exact hl),aX,GZ h,aX,fN (by rw[aS];exact hl)];rfl
theorem yb{l:aa}{σ:AS}{j:Nat}(hj:σ.get j=some (.lst l))(h:l.length<=4000000):eY [.ref j] σ=some (.tup l,σ):=by
 show ob (iJ σ (.ref j)) (fun l=>bif dv l.length then some (AV.tup l,σ)else none)=_
 rw[show iJ σ (.ref j)=some l from jf hj,bZ,fN h];rfl
noncomputable def Qs(lv nmv cl:AV)(nds kds:aa):AV:=.tup [lv,nmv,cl,.tup nds,.tup kds]
noncomputable def ndT(n:Nat):AV:=.tup [.str ([73,83,45]++nm n),.tup [.tup [.tup [.str [110,117,109,98,101,114],.tup [.int (-5),.int 0]],.tup [.str [110,117,109,98,101,114],.tup [.int 125,.int 2]]],.tup [.tup [.str [116,101,120,116],.bytes [113]],.none]]]
theorem Tu{n:Nat}{it lv nmv cl:AV}{cs ks:List (AV×AV)}(hit:noRef it=true)(hu:bQ it=false)(h20: ∀σ,aA 20 it σ=some lv)(h18: ∀σ,aA 18 it σ=some nmv)(h23: ∀σ,aA 23 it σ=some (.lst (cs.map (·.1))))(h22: ∀σ,aA 22 it σ=some (.lst (ks.map (·.1))))(hm: ∀σ,yI it σ=some jj)(hcl: ∀σ,jj [it] σ=some (cl,σ))
  (hc: ∀p∈cs,∀σ,bQ p.1=false/\Fy p.1 σ=some nv/\fe [p.1] σ=some (p.2,σ))(hk: ∀p∈ks,∀σ,bQ p.1=false/\Fy p.1 σ=some b9/\bw n [p.1] σ=some (p.2,σ))(hcl1:cs.length<=4000000)(hkl:ks.length<=4000000)(hr:noRef (Qs lv nmv cl (cs.map (·.2)) (ks.map (·.2)))=true)(σ:AS):
  bw (n+1) [it] σ=some (Qs lv nmv cl (cs.map (·.2)) (ks.map (·.2)),σ):=by
 have c1: ∀σ,eI [3] (un (aA 23) (al 0)) (fun _ σ=>some (true,σ)) (cC (fb nv fe (fb b9 (bw n) gH)) (al 3) aJ) [it] σ=some (.ref σ.next,σ.alloc (.lst (cs.map (·.2)))):=fun σ=>G2 (by simp only[fV,bd,kC,hu,ae,aX,h23,bZ]) hcl1 fun p hp σ=>by
  obtain⟨u,q1,q2⟩:=hc p hp σ
  have hd:fb nv fe (fb b9 (bw n) gH) p.1 σ=some fe:=jf q1
  simp only[eB,bd,cT,u,ae,aX,hd,bZ,cg,q2]
 have c2: ∀fr σ,gt fr 0=it->eI [2] (un (aA 22) (al 0)) (fun _ σ=>some (true,σ)) (cC (fb nv fe (fb b9 (bw n) gH)) (al 2) aJ) fr σ=some (.ref σ.next,σ.alloc (.lst (ks.map (·.2)))):=fun fr σ hf=>G2 (by simp only[fV,bd,hf,hu,ae,aX,h22,bZ]) hkl fun p hp σ=>by
  obtain⟨u,q1,q2⟩:=hk p hp σ
  have hd:fb nv fe (fb b9 (bw n) gH) p.1 σ=some (bw n):=(jf q1).trans (jf q1)
  simp only[eB,bd,cT,u,ae,aX,hd,bZ,cg,q2]
 have t1: ∀σ:AS,eY [.ref σ.next] (σ.alloc (.lst (cs.map (·.2))))=some (.tup (cs.map (·.2)),σ.alloc (.lst (cs.map (·.2)))):=fun σ=>yb b7 (by rw[aS];exact hcl1)
 have t2: ∀σ:AS,eY [.ref σ.next] (σ.alloc (.lst (ks.map (·.2))))=some (.tup (ks.map (·.2)),σ.alloc (.lst (ks.map (·.2)))):=fun σ=>yb b7 (by rw[aS];exact hkl)
 have hmk: ∀a b c d e σ,fU [a,b,c,d,e] σ=some (.tup [a,b,c,d,e],σ):=fun _ _ _ _ _ _=>rfl
 have e1: ∀σ:AS,wm (bw n) [it] σ=some (Qs lv nmv cl (cs.map (·.2)) (ks.map (·.2)),(σ.alloc (.lst (cs.map (·.2)))).alloc (.lst (ks.map (·.2)))):=fun σ=>by
  show ob (yQ (bw n) [it] σ) ig=_
  have hut:bQ (.tup (cs.map (·.2)))=false:=rfl
  simp only[yQ,c9,fy,d9,cp,cg,c1,aX,t1,bZ,dz,si,sj,putN,d6,fV,bd,kC,o0,hu,hut,ae,h20,h18,eB,hm,hcl,c2 [it,.tup (cs.map (·.2))] _ rfl,t2,hmk,dB,gp]
  rfl
 exact za (PI:=wm (bw n)) (by rw[gS,hit];rfl) (e1 _) hr
theorem t4{n:Nat}: ∀{a:AV},flat n a=true->flat (n+1) a=true:=by
 induction n with
 |zero=>intro a h;cases a<;>first|rfl|exact ff h
 |succ n ih=>
  intro a h
  cases a with
  |tup l=>exact bR.mpr fun b hb=>ih (bR.mp (show l.all (flat n)=true from h) b hb)
  |_=>first|rfl|exact ff h
theorem Ef{n k:Nat}{a:AV}(h:flat n a=true):flat (n+k) a=true:=by
 induction k with
 |zero=>exact h
 |succ k ih=>exact t4 ih
theorem Pm{n:Nat}: ∀{a:AV},flat n a=true->noRef a=true:=by
 induction n with
 |zero=>intro a h;cases a<;>first|rfl|exact ff h
 |succ n ih=>
  intro a h
  cases a with
  |tup l=>
   have h:l.all (flat n)=true:=h
   show aN l=true
   induction l with
   |nil=>rfl
   |cons a l ihl=>
    obtain⟨h1,h2⟩:=br.mp (show(flat n a&&l.all (flat n))=true from h)
    rw[gS,ih h1,ihl h2 h2];rfl
  |_=>first|rfl|exact ff h
theorem UK{n:Nat}{a:AV}{l:aa}:(a::l).all (flat n)=(flat n a&&l.all (flat n)):=rfl
noncomputable def ocT(w:Nat):AV:=bif aj w 2 then .tup [.int 3,.int 3,.none,.tup [.tup [.bool false,.str [75]]],.tup [.str [73,88]]]
 else bif aj w 3 then .tup [.int 0,.int 4,.tup [.str [114,101,102],.str [78],.tup [.str [71]],.tup [],.none],.tup [],.tup []]else .none
noncomputable def clT(x:Nat×Nat×Nat):AV:=.tup [xP x.2.2,.str (am7 x.2.1),.str [],.bool false,ocT x.2.1,.str [],.none,.bool false,.bool false,.none]
theorem Ta(p:Nat):s7 (xP p)=some (xP p)/\flat 1 (xP p)=true:=by
 unfold xP
 cases aj p 0
 ·cases aj p 1
  ·cases aj p 2<;>exact⟨rfl,rfl⟩
  ·exact⟨rfl,rfl⟩
 ·exact⟨rfl,rfl⟩
theorem xO{P:AV->AV->Prop}{w:Nat}(h0:P .none .none)(h2:P (.frz lE [8,9,7,6,5] [.int 3,.int 3,.none,.tup [.tup [.bool false,.str [75]]],.tup [.str [73,88]]]) (.tup [.int 3,.int 3,.none,.tup [.tup [.bool false,.str [75]]],.tup [.str [73,88]]]))
  (h3:P (.frz lE [8,9,7,6,5] [.int 0,.int 4,.tup [.str [114,101,102],.str [78],.tup [.str [71]],.tup [],.none],.tup [],.tup []]) (.tup [.int 0,.int 4,.tup [.str [114,101,102],.str [78],.tup [.str [71]],.tup [],.none],.tup [],.tup []])):P (PT w) (ocT w):=by
 unfold PT ocT
 cases aj w 2
 ·cases aj w 3
  ·exact h0
  ·exact h3
 ·exact h2
theorem LA{it o ot a16 a15 a10 a35 a17 a11 a13 a12 a21:AV}(hu:bQ it=false)(h14: ∀σ,aA 14 it σ=some o)(ho: ∀σ,(sY (fh (bU .Is) (un (aA 14) (al 0)) (a6 (.none))) (a6 (.none)) (cC (fb lE iX gH) (un (aA 14) (al 0)) aJ)) [it] σ=some (ot,σ))(hou:bQ ot=false)
  (h16: ∀σ,aA 16 it σ=some a16)(h15: ∀σ,aA 15 it σ=some a15)(h10: ∀σ,aA 10 it σ=some a10)(h35: ∀σ,aA 35 it σ=some a35)(h17: ∀σ,aA 17 it σ=some a17)(h11: ∀σ,aA 11 it σ=some a11)(h13: ∀σ,aA 13 it σ=some a13)(h12: ∀σ,aA 12 it σ=some a12)(h21: ∀σ,aA 21 it σ=some a21)(σ:AS):
  jj [it] σ=some (.tup [a16,a15,a10,a35,ot,a17,a11,a13,a12,a21],σ):=by
 have m6: ∀a b c d e f σ,fU [a,b,c,d,e,f] σ=some (.tup [a,b,c,d,e,f],σ):=fun _ _ _ _ _ _ _=>rfl
 have m4: ∀a b c d σ,fU [a,b,c,d] σ=some (.tup [a,b,c,d],σ):=fun _ _ _ _ _=>rfl
 have ad: ∀a b c d e f g h i j σ,bT .Add (.tup [a,b,c,d,e,f]) (.tup [g,h,i,j]) σ=some (.tup [a,b,c,d,e,f,g,h,i,j],σ):=fun _ _ _ _ _ _ _ _ _ _ _=>rfl
 show ob (ob (bu ((sY (fh (bU .Is) (un (aA 14) (al 0)) (a6 (.none))) (a6 (.none)) (cC (fb lE iX gH) (un (aA 14) (al 0)) aJ)) [it] σ) fun v ai=>some (jZ.next (put [it] 1 v) ai)) (gN (aV (cK [2] (bn fU (aw (un (aA 16) (al 0)) (aw (un (aA 15) (al 0)) (aw (un (aA 10) (al 0)) (aw (un (aA 35) (al 0)) (aw (al 1) (aw (un (aA 17) (al 0)) aJ))))))))
  (aV (eC (bi (bT .Add) (al 2) (bn fU (aw (un (aA 11) (al 0)) (aw (un (aA 13) (al 0)) (aw (un (aA 12) (al 0)) (aw (un (aA 21) (al 0)) aJ))))))) bh)))) ig=_
 rw[ho]
 have hut: ∀l,bQ (.tup l)=false:=fun _=>rfl
 simp only[aX,bZ,dz,si,sj,putN,c9,fy,d9,cp,cg,fV,bd,kC,o0,hu,hou,hut,ae,h16,h15,h10,h35,h17,h11,h13,h12,h21,m6,m4,d6,jB,ad,dB,gp]
theorem Y8{x:Nat×Nat×Nat}{lv:Int}{c k p:AV}(σ:AS):jj [.frz b9 fT (.int lv::j0 x c k p .none)] σ=some (clT x,σ):=by
 refine LA (it:=.frz b9 fT (.int lv::j0 x c k p .none)) (o:=PT x.2.1) (ot:=ocT x.2.1) rfl (fun _=> ?_) (fun σ=> ?_) ?_ (fun _=>(Ta x.2.2).1) (fun _=>rfl) (fun _=>rfl) (fun _=>rfl) (fun _=>rfl) (fun _=>rfl) (fun _=>rfl) (fun _=>rfl) (fun _=>rfl) σ
 ·exact xO (P:=fun o _=>s7 o=some o) rfl rfl rfl
 ·have h: ∀σ,aA 14 (.frz b9 fT (.int lv::j0 x c k p .none)) σ=some (PT x.2.1):=fun _=>xO (P:=fun o _=>s7 o=some o) rfl rfl rfl
  have hu:bQ (.frz b9 fT (.int lv::j0 x c k p .none))=false:=rfl
  revert h hu
  generalize AV.frz b9 fT (.int lv::j0 x c k p .none)=it
  intro h hu
  simp only[wt,ft,fV,bd,kC,hu,ae,aX,h,bZ,dU,ahr,eB,cg]
  exact xO (P:=fun o t=>(bu (ob (lG o) fun r=>some (r,σ)) fun t' ai=>bif t' then some (AV.none,ai)else ob (fb lE iX gH o ai) fun F=>F [o] ai)=some (t,σ)) rfl rfl rfl
 ·exact xO (P:=fun _ t=>bQ t=false) rfl rfl rfl
theorem acJ(x:Nat×Nat×Nat):flat 6 (clT x)=true:=by
 have h1:flat 5 (xP x.2.2)=true:=Ef (n:=1) (k:=4) (Ta x.2.2).2
 have h2:flat 5 (ocT x.2.1)=true:=xO (P:=fun _ t=>flat 5 t=true) rfl rfl rfl
 show(flat 5 (xP x.2.2)&&(true&&(true&&(true&&(flat 5 (ocT x.2.1)&&true)))))=true
 rw[h1,h2];rfl
theorem adH(n:Nat):flat 5 (ndT n)=true:=rfl
noncomputable def Xq(lvl:Nat)(l:Lf):List AV:=bif l.c then[ndT (jY lvl l)]else[]
noncomputable def Hb(lvl:Nat)(l:Lf)(kds:aa):AV:=Qs (.int (am lvl)) (.str (nm (jY lvl l))) (clT (kd lvl l.i)) (Xq lvl l) kds
theorem qZ{n lvl:Nat}{l:Lf}{kds:aa}(h:kds.all (flat (n+5))=true):flat (n+7) (Hb lvl l kds)=true:=by
 have h1:flat (n+6) (clT (kd lvl l.i))=true:=lq 6 n▸Ef (k:=n) (acJ (kd lvl l.i))
 have h2:(Xq lvl l).all (flat (n+5))=true:=by
  unfold Xq
  cases l.c
  ·rfl
  ·show(flat (n+5) (ndT (jY lvl l))&&true)=true
   rw[show flat (n+5) (ndT (jY lvl l))=true from lq 5 n▸Ef (k:=n) (adH (jY lvl l))];rfl
 show(true&&(true&&(flat (n+6) (clT (kd lvl l.i))&&((Xq lvl l).all (flat (n+5))&&(kds.all (flat (n+5))&&true)))))=true
 rw[h1,h2,h];rfl
theorem zx{n m lvl:Nat}{l:Lf}{ks:List (AV×AV)}{p:AV}(hks:aN (ks.map (·.1))=true)(hp:noRef p=true)(hk: ∀q∈ks,∀σ,bQ q.1=false/\Fy q.1 σ=some b9/\bw n [q.1] σ=some (q.2,σ))(hkl:ks.length<=4000000)(hf:(ks.map (·.2)).all (flat (m+5))=true)(σ:AS):
  bw (n+1) [o5 lvl l (ks.map (·.1)) p] σ=some (Hb lvl l (ks.map (·.2)),σ):=by
 have hit:noRef (o5 lvl l (ks.map (·.1)) p)=true:=by
  show(true&&aN (j0 _ _ _ _ _))=true
  rw[Hi,Hh,sg,hks,hp];rfl
 have hr:=Pm (qZ (n:=m) (lvl:=lvl) (l:=l) hf)
 have key: ∀cs:List (AV×AV),conds lvl l= .lst (cs.map (·.1))->cs.map (·.2)=Xq lvl l->cs.length<=4000000->(∀q∈cs,∀σ,bQ q.1=false/\Fy q.1 σ=some nv/\fe [q.1] σ=some (q.2,σ))->bw (n+1) [o5 lvl l (ks.map (·.1)) p] σ=some (Hb lvl l (ks.map (·.2)),σ):=fun cs h1 h2 h3 h4=>by
  have h:=Tu (n:=n) (it:=o5 lvl l (ks.map (·.1)) p) (lv:=.int (am lvl)) (nmv:=.str (nm (jY lvl l))) (cl:=clT (kd lvl l.i)) (cs:=cs) (ks:=ks) hit rfl (fun _=>rfl) (fun _=>rfl) (fun σ=> ?_) (fun _=>rfl) (fun _=>rfl) (fun _=>Y8 _) h4 hk h3 hkl (by rw[h2];exact hr) σ
  ·rw[h2]at h;exact h
  ·rw[<- h1]
   obtain⟨i,c⟩:=l
   cases c<;>rfl
 obtain⟨i,c⟩:=l
 cases c with
 |false=>exact key [] rfl rfl (aU _) fun _ h=>absurd h bb
 |true=>exact key [(qe (jY lvl ⟨i,true⟩),ndT (jY lvl ⟨i,true⟩))] rfl rfl (av rfl) fun q hq σ=>(aO.mp hq)▸⟨rfl,rfl,rfl⟩
noncomputable def rnC(l:Nat):AV:=.tup [.none,.str [],.str [],.bool false,.none,.str [],.none,.bool false,.bool false,xV l]
noncomputable def Te(n l:Nat):AV:=Qs (.int 66) (.str (nm n)) (rnC l) [] []
theorem NF{P:AV->Prop}(h0:P (.tup [.str (nm 16),.none]))(h1:P (.tup [.str (nm 16),.str (nm 22)]))(l:Nat):P (xV l):=by
 cases l with
 |zero=>exact h0
 |succ l=>exact h1
theorem Qb(n l:Nat):flat 6 (Te n l)=true:=by
 have h:flat 4 (xV l)=true:=NF (P:=fun a=>flat 4 a=true) rfl rfl l
 show(true&&(true&&((true&&(true&&(true&&(true&&(true&&(true&&(true&&(true&&(true&&(flat 4 (xV l)&&true))))))))))&&(true&&(true&&true)))))=true
 rw[h];rfl
theorem aeK{n i l:Nat}(σ:AS):bw (n+1) [.frz b9 fT (j6 i l .opq)] σ=some (Te i l,σ):=by
 have hrn:noRef (xV l)=true:=NF (P:=fun a=>noRef a=true) rfl rfl l
 have hit:noRef (.frz b9 fT (j6 i l .opq))=true:=by
  show aN (j6 i l .opq)=true
  simp only[j6,gS,XA,Xy,Xw,Xv,abS,sg,hrn,Xz,rl]
 exact Tu (n:=n) (it:=.frz b9 fT (j6 i l .opq)) (lv:=.int 66) (nmv:=.str (nm i)) (cl:=rnC l) (cs:=[]) (ks:=[]) hit rfl (fun _=>rfl) (fun _=>rfl) (fun _=>rfl) (fun _=>rfl) (fun _=>rfl)
  (fun σ=>LA (it:=.frz b9 fT (j6 i l .opq)) (o:=.none) (ot:=.none) (a21:=xV l) rfl (fun _=>rfl) (fun _=>rfl) rfl (fun _=>rfl) (fun _=>rfl) (fun _=>rfl) (fun _=>rfl) (fun _=>rfl) (fun _=>rfl) (fun _=>rfl) (fun _=>rfl) (fun _=>NF (P:=fun a=>s7 a=some a) rfl rfl l) σ)
  (fun _ h=>absurd h bb) (fun _ h=>absurd h bb) (aU _) (aU _) (Pm (Qb i l)) σ
noncomputable def CD(lvl:Nat)(l:Lf):AV:=Hb lvl l []
theorem Ky(lvl:Nat)(l:Lf):flat 7 (CD lvl l)=true:=qZ (n:=0) rfl
theorem Jy{n lvl:Nat}{l:Lf}(σ:AS):bw (n+1) [oc lvl l .opq] σ=some (CD lvl l,σ):=zx (m:=0) (ks:=[]) rfl rfl (fun _ h=>absurd h bb) (aU _) rfl σ
noncomputable def Jx(t:Tn):AV:=match t with
 | .leaf l=>CD 5 l
 | .grp g a=>Hb 5 g [CD 10 a]
 | .grp2 g a b=>Hb 5 g [CD 10 a,CD 10 b]
theorem aaI(t:Tn):flat 9 (Jx t)=true:=by
 have h: ∀a,flat 7 (CD 10 a)=true:=Ky 10
 cases t with
 |leaf l=>exact t4 (t4 (Ky 5 l))
 |grp g a=>exact qZ (n:=2) (by rw[UK];show(flat 7 (CD 10 a)&&true)=true;rw[h];rfl)
 |grp2 g a b=>exact qZ (n:=2) (by rw[UK,UK];show(flat 7 (CD 10 a)&&(flat 7 (CD 10 b)&&true))=true;rw[h,h];rfl)
theorem akg{n:Nat}(t:Tn)(σ:AS):bw (n+2) [sy t] σ=some (Jx t,σ):=by
 have h: ∀a,flat 7 (CD 10 a)=true:=Ky 10
 cases t with
 |leaf l=>exact Jy (n:=n+1) σ
 |grp g a=>exact zx (n:=n+1) (m:=2) (lvl:=5) (l:=g) (ks:=[(oc 10 a .opq,CD 10 a)]) (p:=.opq) (by rw[bc,jO,gS,qf];rfl) rfl (fun q hq σ=>(aO.mp hq)▸⟨rfl,rfl,Jy σ⟩) (av rfl) (by show(flat 7 (CD 10 a)&&true)=true;rw[h];rfl) σ
 |grp2 g a b=>exact zx (n:=n+1) (m:=2) (lvl:=5) (l:=g) (ks:=[(oc 10 a .opq,CD 10 a),(oc 10 b .opq,CD 10 b)]) (p:=.opq) (by rw[bc,bc,jO,gS,gS,qf,qf];rfl) rfl (fun q hq σ=>(aH.mp hq).elim (fun h=>h▸⟨rfl,rfl,Jy σ⟩) fun hq=>(aO.mp hq)▸⟨rfl,rfl,Jy σ⟩) (av rfl) (by show(flat 7 (CD 10 a)&&(flat 7 (CD 10 b)&&true))=true;rw[h,h];rfl) σ
noncomputable def Qc(i n:Nat):List AV:=gV (motive:=fun _=>List AV) [] (fun l _=>[Te (17+i) l]) n
noncomputable def Jb(r:Rt):AV:=Hb r.lvl r.it (r.ts.map Jx++Qc (jY 1 r.it) r.ren)
theorem SQ(r:Rt):(r.ts.map Jx++Qc (jY 1 r.it) r.ren).all (flat 9)=true:=by
 rw[kR]
 have h1:(r.ts.map Jx).all (flat 9)=true:=bR.mpr fun a ha=>by
  obtain⟨t,_,rfl⟩:=dy.mp ha
  exact aaI t
 have h2:(Qc (jY 1 r.it) r.ren).all (flat 9)=true:=by
  cases r.ren with
  |zero=>rfl
  |succ l=>
   show(flat 9 (Te (17+jY 1 r.it) l)&&true)=true
   rw[show flat 9 (Te (17+jY 1 r.it) l)=true from Ef (n:=6) (k:=3) (Qb _ _)];rfl
 rw[h1,h2];rfl
theorem Qe(r:Rt):flat 11 (Jb r)=true:=qZ (n:=4) (SQ r)
theorem akf{r:Rt}(h:r.ts.length<=8)(σ:AS):bw 6 [dZ r] σ=some (Jb r,σ):=by
 have hr: ∃ks:List (AV×AV),ks.map (·.1)=qE r/\ks.map (·.2)=Qc (jY 1 r.it) r.ren/\ks.length<=1/\ ∀k∈ks,∀σ,bQ k.1=false/\Fy k.1 σ=some b9/\bw 5 [k.1] σ=some (k.2,σ):=by
  obtain⟨lv,it,ts,n⟩:=r
  cases n with
  |zero=>exact⟨[],rfl,rfl,aU _,fun _ h=>absurd h bb⟩
  |succ l=>exact⟨[(.frz b9 fT (j6 (17+jY 1 it) l .opq),Te (17+jY 1 it) l)],rfl,rfl,ax _,fun k hk σ=>(aO.mp hk)▸⟨rfl,rfl,aeK σ⟩⟩
 obtain⟨ks,r1,r2,r3,r4⟩:=hr
 have hf:(r.ts.map (fun t=>(sy t,Jx t))++ks).map (·.1)=Dt r.ts++qE r:=by
  rw[bj,r1,gB]
  refine congrArg (· ++qE r) ?_
  induction r.ts with
  |nil=>rfl
  |cons t ts ih=>exact congrArg (sy t:: ·) ih
 have hs:(r.ts.map (fun t=>(sy t,Jx t))++ks).map (·.2)=r.ts.map Jx++Qc (jY 1 r.it) r.ren:=by
  rw[bj,r2,gB];rfl
 have q:=zx (n:=5) (m:=4) (lvl:=r.lvl) (l:=r.it) (ks:=r.ts.map (fun t=>(sy t,Jx t))++ks) (p:=.none) (by rw[hf,bV,ND,U3];rfl) rfl
  (fun q hq σ=>(cM.mp hq).elim (fun hq=>by
   obtain⟨t,_,rfl⟩:=dy.mp hq
   exact⟨by cases t<;>rfl,by cases t<;>rfl,akg (n:=3) t σ⟩) fun hq=>r4 q hq σ)
  (by rw[ao,aS];exact au (aK h r3) (by decide))
  (by rw[hs];exact SQ r) σ
 rw[hf,hs]at q
 exact q
noncomputable def kq(o:Option Rt):List AV:=bm (motive:=fun _=>List AV) [] (fun r=>[Jb r]) o
noncomputable def Pk(d:DS):List AV:=bm (motive:=fun _=>List AV) [] (fun x=>[.tup [.str (d8 x.1),.bool x.2.1,.tup [Jb x.2.2]]]) d.f
noncomputable def afS(d:DS):AV:=.tup [.tup (kq d.w),.tup (kq d.l),.tup (Pk d)]
theorem XY(o:Option Rt):(kq o).all (flat 11)=true:=by
 cases o with
 |none=>rfl
 |some r=>
  show(flat 11 (Jb r)&&true)=true
  rw[Qe];rfl
theorem Pc(d:DS):flat 16 (afS d)=true:=by
 have up: ∀o,(kq o).all (flat 14)=true:=fun o=>bR.mpr fun a ha=>t4 (t4 (t4 (bR.mp (XY o) a ha)))
 have hf:(Pk d).all (flat 14)=true:=by
  obtain⟨f,w,l⟩:=d
  cases f with
  |none=>rfl
  |some x=>
   show((true&&(true&&((flat 12 (Jb x.2.2)&&true)&&true)))&&true)=true
   have:flat 12 (Jb x.2.2)=true:=t4 (Qe x.2.2)
   rw[this];rfl
 show(((kq d.w).all (flat 14))&&((kq d.l).all (flat 14)&&((Pk d).all (flat 14)&&true)))=true
 rw[up,up,hf];rfl
theorem Pd{i:Nat}{it elt:EM}{fr:Fm}{ps:List (AV×AV)}{σ:AS}{x:AV}(hi:it fr σ=some (x,σ))(hx:fu σ x=some (ps.map (·.1),σ))(hl:ps.length<=4000000)(h: ∀p∈ps,∀σ,∃ai,elt (put fr i p.1) σ=some (p.2,ai)):
  ∃ai:AS,eI [i] it (fun _ σ=>some (true,σ)) elt fr σ=some (.ref ai.next,ai.alloc (.lst (ps.map (·.2)))):=by
 have hc: ∀(ps:List (AV×AV)),(∀p∈ps,∀σ,∃ai,elt (put fr i p.1) σ=some (p.2,ai))-> ∀σ,∃ai,eA [i] (fun _ σ=>some (true,σ)) elt (ps.map (·.1)) fr σ=some (ps.map (·.2),ai):=fun ps=>by
  induction ps with
  |nil=>exact fun _ σ=>⟨σ,rfl⟩
  |cons p ps ih=>
   intro h σ
   obtain⟨gv,e1⟩:=h p (ba ..) σ
   obtain⟨gT,e2⟩:=ih (fun q hq=>h q (aQ _ hq)) gv
   refine⟨gT,?_⟩
   show bu (elt (put fr i p.1) σ) (fun b fO=>bu (eA [i] (fun _ σ=>some (true,σ)) elt (ps.map (·.1)) fr fO) fun l cF=>some (b::l,cF))=_
   rw[e1,aX,e2];rfl
 obtain⟨ai,e⟩:=hc ps h σ
 refine⟨ai,?_⟩
 show bu (it fr σ) (fun x ai=>bu (fu ai x) fun l ay=>bu (eA [i] (fun _ σ=>some (true,σ)) elt l fr ay) fun vs aM=>bif dv vs.length then some (AV.ref aM.next,aM.alloc (.lst vs))else none)=_
 rw[hi,aX,hx,aX,e,aX,fN (by rw[aS];exact hl)];rfl
theorem J3.ts{o:Option Rt}(h:J3 o): ∀r,o=some r->r.ts.length<=8:=fun r e=>au (h r e).lv.2 (by decide)
noncomputable def rtP(o:Option Rt):List (AV×AV):=bm (motive:=fun _=>List (AV×AV)) [] (fun r=>[(dZ r,Jb r)]) o
theorem C8{o:Option Rt}(h: ∀r,o=some r->r.ts.length<=8){i:Nat}{it:EM}{fr:Fm}{σ:AS}(hi:it fr σ=some (.lst (jg o),σ)):eI [i] it (fun _ σ=>some (true,σ)) (cC (fb b9 (bw 6) gH) (al i) aJ) fr σ=some (.ref σ.next,σ.alloc (.lst (kq o))):=by
 have h1:(rtP o).map (·.1)=jg o/\(rtP o).map (·.2)=kq o/\(rtP o).length <=4000000:=by cases o<;>exact⟨rfl,rfl,av rfl⟩
 rw[<- h1.2.1]
 refine G2 (ps:=rtP o) (by rw[h1.1];exact hi) h1.2.2 fun p hp σ=> ?_
 cases o with
 |none=>exact absurd hp bb
 |some r=>
  rw[aO.mp hp]
  have hd:fb b9 (bw 6) gH (dZ r) σ=some (bw 6):=rfl
  have hu:bQ (dZ r)=false:=rfl
  simp only[eB,bd,cT,hu,ae,aX,hd,bZ,cg,akf (h r rfl)]
theorem aaJ{d:DS}(h:jd d)(σ:AS):sO [bC d] σ=some (afS d,σ):=by
 have hu:bQ (bC d)=false:=rfl
 have a24: ∀σ,aA 24 (bC d) σ=some (.lst (jg d.w)):=fun _=>rfl
 have a25: ∀σ,aA 25 (bC d) σ=some (.lst (jg d.l)):=fun _=>rfl
 have start: ∀σ,∃ai,cK [1] (bn eY (aw (eI [4] (un (aA 26) (al 0)) (fun _ σ=>some (true,σ)) (bn fU (aw (al 4) (aw (rI (fh (bU .In) (al 4) (un (aA 27) (al 0)))) (aw (bn eY (aw (eI [5] (bi fM (un (aA 26) (al 0)) (al 4)) (fun _ σ=>some (true,σ)) (cC (fb b9 (bw 6) gH) (al 5) aJ)) aJ)) aJ))))) aJ)) [bC d] σ=some (.next [bC d,.tup (Pk d)] ai):=fun σ=>by
  have hc: ∃ai:AS,eI [4] (un (aA 26) (al 0)) (fun _ σ=>some (true,σ)) (bn fU (aw (al 4) (aw (rI (fh (bU .In) (al 4) (un (aA 27) (al 0)))) (aw (bn eY (aw (eI [5] (bi fM (un (aA 26) (al 0)) (al 4)) (fun _ σ=>some (true,σ)) (cC (fb b9 (bw 6) gH) (al 5) aJ)) aJ)) aJ)))) [bC d] σ=some (.ref ai.next,ai.alloc (.lst (Pk d)))/\(Pk d).length <=4000000:=by
   obtain⟨f,w,l⟩:=d
   cases f with
   |none=>
    obtain⟨ai,e⟩:=Pd (i:=4) (it:=un (aA 26) (al 0)) (elt:=bn fU (aw (al 4) (aw (rI (fh (bU .In) (al 4) (un (aA 27) (al 0)))) (aw (bn eY (aw (eI [5] (bi fM (un (aA 26) (al 0)) (al 4)) (fun _ σ=>some (true,σ)) (cC (fb b9 (bw 6) gH) (al 5) aJ)) aJ)) aJ)))) (fr:=[bC ⟨none,w,l⟩]) (ps:=[]) (σ:=σ) (x:=.dct [] []) rfl rfl (aU _) (fun _ h=>absurd h bb)
    exact⟨ai,e,aU _⟩
   |some x=>
    obtain⟨o,s,r⟩:=x
    have hr: ∀r',some r=some r'->r'.ts.length<=8:=fun r' e=>by cases e;exact au (h.f _ rfl).1.lv.2 (by decide)
    obtain⟨ai,e⟩:=Pd (i:=4) (it:=un (aA 26) (al 0)) (elt:=bn fU (aw (al 4) (aw (rI (fh (bU .In) (al 4) (un (aA 27) (al 0)))) (aw (bn eY (aw (eI [5] (bi fM (un (aA 26) (al 0)) (al 4)) (fun _ σ=>some (true,σ)) (cC (fb b9 (bw 6) gH) (al 5) aJ)) aJ)) aJ)))) (fr:=[bC ⟨some (o,s,r),w,l⟩]) (ps:=[(.str (d8 o),.tup [.str (d8 o),.bool s,.tup [Jb r]])]) (σ:=σ) (x:=.dct [d8 o] [.lst [dZ r]]) rfl rfl (av rfl) (fun p hp σ=>by
     rw[aO.mp hp]
     have a26: ∀σ,aA 26 (bC ⟨some (o,s,r),w,l⟩) σ=some (.dct [d8 o] [.lst [dZ r]]):=fun _=>rfl
     have a27: ∀σ,aA 27 (bC ⟨some (o,s,r),w,l⟩) σ=some (.lst (bif s then[.str (d8 o)]else[])):=fun _=>rfl
     have g0:gt (put [bC ⟨some (o,s,r),w,l⟩] 4 (.str (d8 o))) 0=bC ⟨some (o,s,r),w,l⟩:=rfl
     have m3: ∀a b c σ,fU [a,b,c] σ=some (.tup [a,b,c],σ):=fun _ _ _ _=>rfl
     have hrt:=C8 (o:=some r) hr (i:=5) (it:=bi fM (un (aA 26) (al 0)) (al 4)) (fr:=put [bC ⟨some (o,s,r),w,l⟩] 4 (.str (d8 o))) (σ:=σ) (by simp only[jB,fV,bd,g0,cT,hu,mP,ae,aX,a26,bZ,ZE];rfl)
     have ht:=yb (σ:=σ.alloc (.lst (kq (some r)))) (j:=σ.next) b7 (show(kq (some r)).length <=4000000 from av rfl)
     exact⟨_,by
      simp only[d9,cp,cg,bd,cT,g0,hu,mP,ae,aX,wx,ft,fV,a27,bZ,ZJ,hrt,ht,m3]
      rfl⟩)
    exact⟨ai,e,av rfl⟩
  obtain⟨ai,e,hl⟩:=hc
  have ht:=yb (σ:=ai.alloc (.lst (Pk d))) (j:=ai.next) b7 hl
  exact⟨ai.alloc (.lst (Pk d)),by simp only[fy,d9,cp,cg,e,aX,ht,si,sj,putN]⟩
 obtain⟨gv,e1⟩:=start ⟨0,[]⟩
 have c3:=C8 h.w.ts (i:=3) (it:=un (aA 24) (al 0)) (fr:=[bC d,.tup (Pk d)]) (σ:=gv) (by simp only[fV,bd,kC,hu,ae,aX,a24,bZ])
 have c2:=C8 h.l.ts (i:=2) (it:=un (aA 25) (al 0)) (fr:=[bC d,.tup (Pk d)]) (σ:=gv.alloc (.lst (kq d.w))) (by simp only[fV,bd,kC,hu,ae,aX,a25,bZ])
 have t3:=yb (σ:=gv.alloc (.lst (kq d.w))) (j:=gv.next) b7 (show(kq d.w).length <=4000000 by cases d.w<;>exact av rfl)
 have t2:=yb (σ:=(gv.alloc (.lst (kq d.w))).alloc (.lst (kq d.l))) (j:=(gv.alloc (.lst (kq d.w))).next) b7 (show(kq d.l).length <=4000000 by cases d.l<;>exact av rfl)
 have m3: ∀a b c σ,fU [a,b,c] σ=some (.tup [a,b,c],σ):=fun _ _ _ _=>rfl
 have e2:wl [bC d] ⟨0,[]⟩=some (afS d,(gv.alloc (.lst (kq d.w))).alloc (.lst (kq d.l))):=by
  show ob (ob (cK [1] _ [bC d] ⟨0,[]⟩) (gN (aV (eC (bn fU (aw (bn eY (aw (eI [3] (un (aA 24) (al 0)) (fun _ σ=>some (true,σ)) (cC (fb b9 (bw 6) gH) (al 3) aJ)) aJ)) (aw (bn eY (aw (eI [2] (un (aA 25) (al 0)) (fun _ σ=>some (true,σ)) (cC (fb b9 (bw 6) gH) (al 2) aJ)) aJ)) (aw (al 1) aJ))))) bh))) ig=_
  rw[e1]
  have hut:bQ (.tup (Pk d))=false:=rfl
  simp only[bZ,dz,c9,d6,d9,cp,cg,c3,c2,aX,t3,t2,bd,kC,o0,hut,ae,m3,dB,gp]
  rfl
 exact za (PI:=wl) KF e2 (Pm (Pc d))
noncomputable def rtX(lvl:Nat)(code:ac):AV:=.frz b9 fT (.int (am lvl)::C9 (A5 (lvl::code)))
noncomputable def mX(lvl:Nat)(code:ac):List AV:=[.frz 0 (4::lvl::code) [],Yi]
noncomputable def mF(f:Option (Bool×Bool×List Nat)):List AV:=bm (motive:=fun _=>List AV) [] (fun x=>b6 gO cW++(b6 (kh x.2.1) (d8 x.1)++mX 1 x.2.2)) f
noncomputable def mS(h:aa)(o:Option (Nat×List Nat)):List AV:=bm (motive:=fun _=>List AV) [] (fun x=>h++mX x.1 x.2) o
noncomputable def mB(f:Option (Bool×Bool×List Nat))(w l:Option (Nat×List Nat)):List AV:=(mF f++mS (b6 ms cW) w)++mS (b6 pD cW) l
noncomputable def mA(f:Option (Bool×Bool×List Nat))(w l:Option (Nat×List Nat)):List AV:=bif (mB f w l).isEmpty then[]else b6 jA uz++mB f w l
noncomputable def xL(o:Option (Nat×List Nat)):List AV:=bm (motive:=fun _=>List AV) [] (fun x=>[rtX x.1 x.2]) o
noncomputable def xD(f:Option (Bool×Bool×List Nat))(w l:Option (Nat×List Nat)):AV:=Ec (xL w) (xL l) (bm (motive:=fun _=>List (List Nat)) [] (fun x=>[d8 x.1]) f) (bm (motive:=fun _=>List AV) [] (fun x=>[.lst [rtX 1 x.2.2]]) f) (bm (motive:=fun _=>List AV) [] (fun x=>bif x.2.1 then[.str (d8 x.1)]else[]) f)
noncomputable def rdO(f:Option (Bool×Bool×List Nat))(w l:Option (Nat×List Nat)):Option (AV×Nat×List AV):=bu (Fk [.ref 0] ⟨1,[(0,.orc 1021 (mA f w l))]⟩) fun a σ=>sh σ 0 fun k l=>some (a,k,l)
theorem aig(f:Option (Bool×Bool×List Nat))(w l:Option (Nat×List Nat)):rdO f w l=some (xD f w l,1021,[]):=by
 rcases f with _|⟨_|_,_|_,cf⟩<;>rcases w with _|⟨lw,cw⟩<;>rcases l with _|⟨ll,cl⟩<;>kernel_rfl
section
noncomputable def xu(r:Rt):List Nat:=WW r.it++r.ren::(r.ts.map Zn).flatten
noncomputable def Fz(d:DS):Option (Bool×Bool×List Nat):=d.f.map fun x=>(x.1,x.2.1,xu x.2.2)
noncomputable def jC(o:Option Rt):Option (Nat×List Nat):=o.map fun r=>(r.lvl,xu r)
noncomputable def Pb(d:DS):List AV:=mA (Fz d) (jC d.w) (jC d.l)
theorem n5.ts8{r:Rt}(h:n5 r):r.ts.length<=8:=au h.lv.2 (by decide)
theorem Vg{r:Rt}(h:r.ts.length<=8):rtX r.lvl (xu r)=dZ r:=by
 unfold rtX
 rw[show r.lvl::xu r=WX r from rfl,Nu r h];rfl
theorem akB{o:Option Rt}(h:J3 o):xL (jC o)=jg o:=by
 cases o with
 |none=>rfl
 |some r=>exact congrArg (fun a=>[a]) (Vg (h r rfl).ts8)
theorem ao8{d:DS}(h:jd d):xD (Fz d) (jC d.w) (jC d.l)=bC d:=by
 unfold xD bC
 rw[akB h.w,akB h.l]
 obtain⟨f,w,l⟩:=d
 cases f with
 |none=>rfl
 |some x=>
  obtain⟨h1,h2⟩:=h.f x rfl
  show Ec _ _ [d8 x.1] [.lst [rtX 1 (xu x.2.2)]] _=Ec _ _ [d8 x.1] [.lst [dZ x.2.2]] _
  rw[<- h2,Vg h1.ts8];rfl
theorem P0{d:DS}(h:jd d){σ:AS}{x:Nat}{L:aa}(hx:σ.get x=some (.orc 1021 L)):oQ [.ref x] (σ.set x (.orc 1021 (Pb d)))=some (bC d,σ.set x (.orc 1021 [])):=by
 have hr:=aig (Fz d) (jC d.w) (jC d.l)
 rw[ao8 h]at hr
 refine fG hr fun a ay h1 hr=>FK hr fun k l' h0 hr=> ?_
 have hr:=aG hr
 cases hr
 exact SG hx h1 h0 (by have:=KF (d:=d);exact aE (show(noRef (bC d)&&aN [])=true from this) fun h _=>h)
theorem G5{lvl:Nat}{l:Lf}(h:q9 lvl=true):xp ir (rG (G3 lvl l))=dN lvl l:=by
 obtain⟨i,c⟩:=l
 have h1:ir [1,lvl,i]=kj lvl (kd lvl i):=by
  show(bif q9 lvl then kj lvl (kd lvl i)else bad)=_
  rw[h];rfl
 have h2:ir [2,lvl,i]=fw (kd lvl i).1:=by
  show(bif bp (kd lvl i).1 17 then fw (kd lvl i).1 else bad)=_
  rw[GV (ahv lvl i)];rfl
 cases c with
 |false=>exact(congrArg (· ++[]) h1)
 |true=>
  show ir [1,lvl,i]++(ir [2,lvl,i]++[])=kj lvl (kd lvl i)++fw (kd lvl i).1
  rw[h1,h2,aR]
theorem aqg(t:Tn):xp ir (rG (abt t))=uW t:=by
 cases t with
 |leaf l=>exact G5 rfl
 |grp g a=>
  show xp ir (rG (G3 5 g++G3 10 a))=dN 5 g++dN 10 a
  rw[kE,zA,G5 rfl,G5 rfl]
 |grp2 g a b=>
  show xp ir (rG (G3 5 g++(G3 10 a++G3 10 b)))=dN 5 g++(dN 10 a++dN 10 b)
  rw[kE,zA,kE,zA,G5 rfl,G5 rfl,G5 rfl]
theorem ao2(ts:List Tn):xp ir (rG (abu ts))=ts.flatMap uW:=by
 induction ts with
 |nil=>rfl
 |cons t ts ih=>
  show xp ir (rG (abt t++abu ts))=_
  rw[kE,zA,aqg,ih,aY]
theorem ap8{r:Rt}(h:n5 r):xp ir (FB r)=ii r:=by
 rw[Nv]
 unfold afU ii
 rw[kE,kE,zA,zA,G5 h.lv.1,ao2]
 refine congrArg (fun q=>dN r.lvl r.it++(r.ts.flatMap uW++q)) ?_
 have hn:=h.nm
 obtain⟨lv,it,ts,n⟩:=r
 cases n with
 |zero=>rfl
 |succ l=>
  have:ir [3,it.i,l]=gu (17+(kd 1 it.i).1) l:=by
   show(bif bp (kd 1 it.i).1 5 then gu (17+(kd 1 it.i).1) l else bad)=_
   rw[GV (show(kd 1 it.i).1<5 from hn (j9 _))];rfl
  show ir [3,it.i,l]++[]=gu (17+(kd 1 it.i).1) l
  rw[this,aR]
theorem alF{r:Rt}(h:n5 r):mac (4::r.lvl::xu r)=ii r:=by
 have hc:okC (r.lvl::xu r)=true:=by
  show(aj (A5 (WX r)).lvl r.lvl&&XK (A5 (WX r)))=true
  rw[Nu r h.ts8,yW,h.ok];rfl
 show RB (r.lvl::xu r)=_
 unfold RB
 rw[hc]
 show xp ir (FB (A5 (WX r)))=_
 rw[Nu r h.ts8,ap8 h]
theorem CL{a b:ac}:cZ (b6 a b)=true:=Ep (a:=false)
theorem amT{r:Rt}(h:n5 r){m:aa}(hm:uX mac m)(hn:Em (xp mac m)=true):xp mac (mX r.lvl (xu r)++m)=ii r++xp mac m/\uX mac (mX r.lvl (xu r)++m):=
 ⟨congrArg (· ++xp mac m) (alF h),fun z=>ff z,fun _=>hn,hm⟩
theorem amS{a b:ac}{o:Option Rt}(h:J3 o){m:aa}(hm:uX mac m)(hn:Em (xp mac m)=true):xp mac (mS (b6 a b) (jC o)++m)=fA (b6 a b) o++xp mac m/\uX mac (mS (b6 a b) (jC o)++m)/\Em (xp mac (mS (b6 a b) (jC o)++m))=true:=by
 cases o with
 |none=>exact⟨rfl,hm,hn⟩
 |some r=>
  obtain⟨h1,h2⟩:=amT (h r rfl) hm hn
  have h3:=Ez (mac:=mac) (m:=mX r.lvl (xu r)++m) (CL (a:=a) (b:=b))
  have e:mS (b6 a b) (jC (some r))++m=b6 a b++(mX r.lvl (xu r)++m):=aB ..
  have e2:xp mac (mS (b6 a b) (jC (some r))++m)=fA (b6 a b) (some r)++xp mac m:=by
   rw[e,h3.1,h1];exact(aB ..).symm
  refine⟨e2,by rw[e];exact h3.2 h2,?_⟩
  rw[e2];rfl
theorem apF{d:DS}(h:jd d):xp mac (mB (Fz d) (jC d.w) (jC d.l))=dR d/\uX mac (mB (Fz d) (jC d.w) (jC d.l)):=by
 obtain⟨l1,l2,l3⟩:=amS (a:=pD) (b:=cW) h.l (m:=[]) trivial rfl
 obtain⟨w1,w2,w3⟩:=amS (a:=ms) (b:=cW) h.w l2 l3
 have e:mB (Fz d) (jC d.w) (jC d.l)=mF (Fz d)++(mS (b6 ms cW) (jC d.w)++(mS (b6 pD cW) (jC d.l)++[])):=by
  unfold mB;rw[aR,aB]
 have e3:dR d=i7 d++(fA (b6 ms cW) d.w++(fA (b6 pD cW) d.l++[])):=by
  unfold dR;rw[aR,aB]
 rw[e,e3]
 rw[l1]at w1
 have w1:xp mac (mS (b6 ms cW) (jC d.w)++(mS (b6 pD cW) (jC d.l)++[]))=fA (b6 ms cW) d.w++(fA (b6 pD cW) d.l++[]):=w1
 rw[<- w1]
 generalize mS (b6 ms cW) (jC d.w)++(mS (b6 pD cW) (jC d.l)++[])=m at w2 w3 ⊢
 obtain⟨f,w,l⟩:=d
 cases f with
 |none=>exact⟨rfl,w2⟩
 |some x=>
  obtain⟨h1,h2⟩:=h.f x rfl
  obtain⟨x1,x2⟩:=amT h1 w2 w3
  rw[h2]at x1 x2
  have h3:=Ez (mac:=mac) (m:=mX 1 (xu x.2.2)++m) (CL (a:=kh x.2.1) (b:=d8 x.1))
  have h4:=Ez (mac:=mac) (m:=b6 (kh x.2.1) (d8 x.1)++(mX 1 (xu x.2.2)++m)) (CL (a:=gO) (b:=cW))
  have e:mF (Fz ⟨some x,w,l⟩)++m=b6 gO cW++(b6 (kh x.2.1) (d8 x.1)++(mX 1 (xu x.2.2)++m)):=by
   show(b6 gO cW++(b6 (kh x.2.1) (d8 x.1)++mX 1 (xu x.2.2)))++m=_
   rw[aB,aB]
  have e':i7 ⟨some x,w,l⟩++xp mac m=b6 gO cW++(b6 (kh x.2.1) (d8 x.1)++(ii x.2.2++xp mac m)):=by
   show(b6 gO cW++(b6 (kh x.2.1) (d8 x.1)++ii x.2.2))++xp mac m=_
   rw[aB,aB]
  rw[e,e',h4.1,h3.1,x1]
  exact⟨rfl,h4.2 (h3.2 x2)⟩
theorem abN{d:DS}:(mB (Fz d) (jC d.w) (jC d.l)).isEmpty=(dR d).isEmpty:=by
 obtain⟨f,w,l⟩:=d
 cases f<;>cases w<;>cases l<;>rfl
theorem ans{d:DS}(h:jd d):xp mac (Pb d)=gE d/\uX mac (Pb d):=by
 obtain⟨h1,h2⟩:=apF h
 unfold Pb mA gE
 rw[abN]
 cases (dR d).isEmpty with
 |true=>exact⟨rfl,trivial⟩
 |false=>
  have h3:=Ez (mac:=mac) (m:=mB (Fz d) (jC d.w) (jC d.l)) (CL (a:=jA) (b:=uz))
  exact⟨h3.1.trans (congrArg _ h1),h3.2 h2⟩
theorem zh{lvl:Nat}{l:Lf}:cZ (dN lvl l)=true:=by
 unfold dN rC
 rw[lf,SK]
 cases l.c
 ·rfl
 ·exact Ep (a:=false)
theorem aot{t:Tn}:cZ (uW t)=true:=by
 cases t with
 |leaf l=>exact zh
 |grp g a=>
  show cZ (dN 5 g++dN 10 a)=true
  rw[lf,zh,zh];rfl
 |grp2 g a b=>
  show cZ (dN 5 g++(dN 10 a++dN 10 b))=true
  rw[lf,lf,zh,zh,zh];rfl
theorem ah9{r:Rt}:cZ (ii r)=true:=by
 unfold ii
 have h1:cZ (r.ts.flatMap uW)=true:=by
  induction r.ts with
  |nil=>rfl
  |cons t ts ih=>rw[aY,lf,aot,ih];rfl
 have h2:cZ (Vd (jY 1 r.it) r.ren)=true:=by
  cases r.ren with
  |zero=>rfl
  |succ l=>exact Ep (a:=false)
 rw[lf,lf,zh,h1,h2];rfl
theorem ab1{a b:ac}{o:Option Rt}:cZ (fA (b6 a b) o)=true:=by
 cases o with
 |none=>rfl
 |some r=>
  show cZ (b6 a b++ii r)=true
  rw[lf,CL,ah9];rfl
theorem ab0{d:DS}:cZ (gE d)=true:=by
 have hf:cZ (i7 d)=true:=by
  obtain⟨f,w,l⟩:=d
  cases f with
  |none=>rfl
  |some x=>
   show cZ (b6 gO cW++(b6 (kh x.2.1) (d8 x.1)++ii x.2.2))=true
   rw[lf,lf,CL,CL,ah9];rfl
 have hb:cZ (dR d)=true:=by
  unfold dR;rw[lf,lf,hf,ab1,ab1];rfl
 unfold gE
 cases (dR d).isEmpty with
 |true=>rfl
 |false=>
  show cZ (b6 jA uz++dR d)=true
  rw[lf,CL,hb];rfl
open Classical in
noncomputable def CB(d:DS)(L:aa):List AV:=if L=gE d then Pb d else L
theorem ahy{d:DS}(h:jd d)(L:aa)(c:bF)(hc:lF mac L c):lF mac (CB d L) c:=by
 unfold CB
 by_cases q:L=gE d
 ·rw[if_pos q]
  obtain⟨h1,h2⟩:=ans h
  refine ti hc ?_ fun _=>h2
  rw[h1,q,(TB ab0).1]
 ·rw[if_neg q];exact hc
theorem ahx(d:DS):CB d (gE d)=Pb d:=if_pos rfl
theorem adB(d:DS):CB d []=[]:=by
 unfold CB
 by_cases q:[]=gE d
 ·rw[if_pos q]
  unfold gE at q
  unfold Pb mA
  rw[abN]
  cases z:(dR d).isEmpty with
  |true=>rfl
  |false=>rw[z]at q;exact absurd q (by intro q;cases q)
 ·rw[if_neg q]
end
theorem XV{T:aa}(hk:T.length<=4000000)(hn:aN T=true)(hp:cZ T=true)(σ:AS): ∃x ai,xe [.lst T] σ=some (.ref x,ai)/\ai.get x=some (.orc 1021 T):=by
 have g0:(σ.alloc (.inst 1021 [] [])).get σ.next=some (.inst 1021 [] []):=b7
 have s1:oj 38 (.lst T) (.ref σ.next) (σ.alloc (.inst 1021 [] []))=some ((σ.alloc (.inst 1021 [] [])).set σ.next (.inst 1021 [38] [.lst T])):=jf g0
 have l1:σ.next<((σ.alloc (.inst 1021 [] [])).set σ.next (.inst 1021 [38] [.lst T])).next:=bL _
 have g1:((σ.alloc (.inst 1021 [] [])).set σ.next (.inst 1021 [38] [.lst T])).get σ.next=some (.inst 1021 [38] [.lst T]):=eg g0
 generalize (σ.alloc (.inst 1021 [] [])).set σ.next (.inst 1021 [38] [.lst T])=gv at s1 l1 g1
 have s2:oj 4 (.int 0) (.ref σ.next) gv=some (gv.set σ.next (.inst 1021 [38,4] [.lst T,.int 0])):=jf g1
 have l2:σ.next<(gv.set σ.next (.inst 1021 [38,4] [.lst T,.int 0])).next:=l1
 have g2:(gv.set σ.next (.inst 1021 [38,4] [.lst T,.int 0])).get σ.next=some (.inst 1021 [38,4] [.lst T,.int 0]):=eg g1
 generalize gv.set σ.next (.inst 1021 [38,4] [.lst T,.int 0])=gT at s2 l2 g2
 have g3:(gT.alloc (.dct [] [])).get σ.next=some (.inst 1021 [38,4] [.lst T,.int 0]):=dI g2 l2
 have s3:oj 37 (.ref gT.next) (.ref σ.next) (gT.alloc (.dct [] []))=some ((gT.alloc (.dct [] [])).set σ.next (.inst 1021 [38,4,37] [.lst T,.int 0,.ref gT.next])):=jf g3
 have l3:σ.next<((gT.alloc (.dct [] [])).set σ.next (.inst 1021 [38,4,37] [.lst T,.int 0,.ref gT.next])).next:=cG l2
 have g4:((gT.alloc (.dct [] [])).set σ.next (.inst 1021 [38,4,37] [.lst T,.int 0,.ref gT.next])).get σ.next=some (.inst 1021 [38,4,37] [.lst T,.int 0,.ref gT.next]):=eg g3
 generalize (gT.alloc (.dct [] [])).set σ.next (.inst 1021 [38,4,37] [.lst T,.int 0,.ref gT.next])=qo at s3 l3 g4
 have g5:(qo.alloc (.dct [] [])).get σ.next=some (.inst 1021 [38,4,37] [.lst T,.int 0,.ref gT.next]):=dI g4 l3
 have s4:oj 36 (.ref qo.next) (.ref σ.next) (qo.alloc (.dct [] []))=some ((qo.alloc (.dct [] [])).set σ.next (.inst 1021 [38,4,37,36] [.lst T,.int 0,.ref gT.next,.ref qo.next])):=jf g5
 have g6:((qo.alloc (.dct [] [])).set σ.next (.inst 1021 [38,4,37,36] [.lst T,.int 0,.ref gT.next,.ref qo.next])).get σ.next=some (.inst 1021 [38,4,37,36] [.lst T,.int 0,.ref gT.next,.ref qo.next]):=eg g5
 generalize (qo.alloc (.dct [] [])).set σ.next (.inst 1021 [38,4,37,36] [.lst T,.int 0,.ref gT.next,.ref qo.next])=σ4 at s4 g6
 have ed: ∀fr σ,FA fr σ=some (.ref σ.next,σ.alloc (.dct [] [])):=fun _ _=>rfl
 have e1:iY [.ref σ.next,.lst T] (σ.alloc (.inst 1021 [] []))=some (.none,σ4):=by
  show ob (ke [.ref σ.next,.lst T,.int 0] (σ.alloc (.inst 1021 [] []))) ig=_
  have hu:bQ (.lst T)=false:=rfl
  simp only[ke,c9,xW,bd,kC,o0,fc,lQ,hu,ae,aX,s1,bZ,dz,s2,ed,s3,s4,fz,alX]
 have e2:ud df iY [.lst T] σ=some (.ref σ.next,σ4):=by
  show bu (iY [.ref σ.next,.lst T] (σ.alloc (.inst 1021 [] []))) (fun a ai=>sT a (some (AV.ref σ.next,ai)))=_
  rw[e1];rfl
 refine⟨σ.next,σ4.set σ.next (.orc 1021 T),?_,eg g6⟩
 show bu (ud df iY [.lst T] σ) (fun a ay=>ia a fun x=>Cw ay x fun c ks vs=>bif aj c 1021&&dp ks [38,4,37,36]then ob (ZM vs) (fun L=>bif dv L.length&&aN L&&cZ L then some (AV.ref x,ay.set x (.orc 1021 L))else none)else none)=_
 rw[e2]
 show ob (σ4.get σ.next) _=_
 rw[g6]
 show(bif dv T.length&&aN T&&cZ T then some (AV.ref σ.next,σ4.set σ.next (.orc 1021 T))else none)=_
 rw[fN hk,hn,hp];rfl
theorem WV{d:DS}(h:jd d):(gE d).length <=1003:=by
 unfold gE
 cases (dR d).isEmpty with
 |true=>exact aU _
 |false=>
  show(b6 jA uz++dR d).length <=1003
  rw[ao,qY];exact au (dq (OV h) 3) (by decide)
theorem ahN{a:AV}(h:flat 16 a=true)(σ:AS):bU .NotEq a a σ=some false:=by
 show ob (od (wo 16 a a) some _) _=_
 rw[Sv h];rfl
theorem alY{d:DS}(h:jd d){lab:List AV->List AV}(hl:lab (gE d)=Pb d)(σ:AS): ∃ai x,(aV (cK [1] (bn hY (aw (al 0) aJ))) (aV (cK [2] (bn xe (aw (al 1) aJ))) (rV (Rp (fh (bU .NotEq) (cC qs (bn (l7 lab) (aw (al 2) aJ)) aJ) (cC qs (al 0) aJ)) (oZ (ja (cC pX (al 2) aJ)))) (aV (fun _ _=>none) bh) bh))) [bC d] σ=some (.next [bC d,.lst (gE d),.ref x] ai):=by
 obtain⟨x,gv,r1,r2⟩:=XV (T:=gE d) (au (WV h) (by decide)) U2 ab0 σ
 have hu:bQ (bC d)=false:=rfl
 have hut:bQ (.lst (gE d))=false:=rfl
 have rd1:l7 lab [.ref x] gv=some (bC d,gv.set x (.orc 1021 [])):=by
  have h1:rd gv x=some (gE d):=jf r2
  have h2:l7 lab [.ref x] gv=oQ [.ref x] (gv.set x (.orc 1021 (lab (gE d)))):=jf h1
  rw[h2,hl];exact P0 h r2
 have g2:(gv.set x (.orc 1021 [])).get x=some (.orc 1021 []):=eg r2
 have dn:vg [.ref x] (gv.set x (.orc 1021 []))=some (.bool true,gv.set x (.orc 1021 [])):=jf (show rd (gv.set x (.orc 1021 [])) x=some [] from jf g2)
 have mt: ∀σ,qs (bC d) σ=some sO:=fun _=>rfl
 have md:pX (.ref x) (gv.set x (.orc 1021 []))=some vg:=aaf g2
 refine⟨gv.set x (.orc 1021 []),x,?_⟩
 simp only[c9,fy,d9,cp,cg,bd,kC,o0,hu,hut,fc,ae,aX,acO h,bZ,dz,si,sj,putN,r1,jW,GS,ft,eB,rd1,mt,aaJ h,ahN (Pc d),qB,lP,md,dn,iK,eo,fz]
noncomputable def am5(t:AV):Option AV:=ob (aA 28 t ⟨0,[]⟩) fun b=>Ur b (aA 1 t ⟨0,[]⟩)
noncomputable def wv(t:AV):Bool:=(ob (aA 2 t ⟨0,[]⟩) fun k=>ob (aA 1 t ⟨0,[]⟩) fun w=>d7 k fun k=>d7 w fun w=>some (dp k jh&&dp w [46])).getD false
noncomputable def LP(t:AV):Option Int:=ob (aA 2 t ⟨0,[]⟩) fun k=>ob (aA 1 t ⟨0,[]⟩) fun w=>d7 k fun k=>d7 w fun w=>bif dp k pN then ob (lJ 0 w) (fun n=>some (am n))else none
noncomputable def jT(p:Bool)(T:aa):List AV:=bq (motive:=fun _=>Bool->List AV) (fun _=>[]) (fun t _ ih p=>bif p then t::ih (wv t)else ih (wv t)) T p
noncomputable def mz(T:aa):List AV:=T.filterMap am5
noncomputable def iq(T:aa):List Int:=(jT true T).filterMap LP
theorem iT(l m:aa):mz (l++m)=mz l++mz m:=List.filterMap_append
theorem NH{l:List (List Nat×List Nat×Nat)}: ∀{c:Nat},mz (ww false c l)=[]:=by
 induction l with
 |nil=>exact rfl
 |cons x l ih=>exact fun{c}=>ih (c:=c+x.2.2)
theorem Tv{a:Bool}{c:Nat}{x:List Nat×List Nat×Nat}{l:List (List Nat×List Nat×Nat)}:mz (ww a c (x::l))=bif a then[.str x.2.1]else[]:=by
 cases a with
 |false=>exact NH
 |true=>exact congrArg (AV.str x.2.1:: ·) (NH (c:=c+x.2.2))
noncomputable def xM(l:List (List Nat×List Nat×Nat)):Bool:=l.all fun x=> !(dp x.1 jh&&dp x.2.1 [46])
theorem El{l m:List (List Nat×List Nat×Nat)}:xM (l++m)=(xM l&&xM m):=kR
theorem anN{l:List (List Nat×List Nat×Nat)}{m:aa}: ∀{a:Bool} {c:Nat},xM l=true->jT false (ww a c (l++[Ks])++m)=jT true m:=by
 induction l with
 |nil=>exact fun _=>rfl
 |cons x l ih=>
  intro a c h
  refine aE (show(!(dp x.1 jh&&dp x.2.1 [46])&&xM l)=true from h) fun h1 h2=> ?_
  show jT (dp x.1 jh&&dp x.2.1 [46]) (ww false (c+x.2.2) (l++[Ks])++m)=_
  rw[pc h1];exact ih h2
theorem agR{x:List Nat×List Nat×Nat}{l:List (List Nat×List Nat×Nat)}{m:aa}{a:Bool}{c:Nat}(hx:(dp x.1 jh&&dp x.2.1 [46])=false)(h:xM l=true):jT true (ww a c (x::(l++[Ks]))++m)=tk x.1 x.2.1 c a::jT true m:=by
 show tk x.1 x.2.1 c a::jT (dp x.1 jh&&dp x.2.1 [46]) (ww false (c+x.2.2) (l++[Ks])++m)=_
 rw[hx,anN h]
theorem IR{x:List Nat×List Nat×Nat}{l:List (List Nat×List Nat×Nat)}{m:aa}{a:Bool}{c:Nat}(hx:(dp x.1 jh&&dp x.2.1 [46])=false)(h:xM l=true):iq (ww a c (x::(l++[Ks]))++m)=(LP (tk x.1 x.2.1 c a)).toList++iq m:=by
 unfold iq
 rw[agR hx h,kK]
 cases LP (tk x.1 x.2.1 c a)<;>rfl
theorem ah7(p:Nat):xM (Ry p)=true:=by
 unfold Ry xP
 cases aj p 0
 ·cases aj p 1
  ·cases aj p 2<;>rfl
  ·rfl
 ·rfl
theorem ako(p:Nat):xM (RK p)=true:=by
 unfold RK
 cases aj p 1<;>rfl
theorem ah0(p:Nat):xM (Rx p)=true:=by
 unfold Rx
 cases aj p 2
 ·cases aj p 3<;>rfl
 ·rfl
theorem Ha(lvl:Nat)(x:Nat×Nat×Nat):kj lvl x=ww (Mi lvl) (bif Mi lvl then 8 else 12) (nu (nP lvl)::((wd (nm x.1)::(Ry x.2.2++(RK x.2.1++Rx x.2.1)))++[Ks])):=by
 show ww _ _ (nu (nP lvl)::wd (nm x.1)::(Ry x.2.2++(RK x.2.1++(Rx x.2.1++[Ks]))))=_
 rw[eR,aB,aB];rfl
noncomputable def lvI(lvl:Nat):Option Int:=LP (tk pN (nP lvl) 0 false)
theorem an3{lvl:Nat}(h:q9 lvl=true):lvI lvl=some (am lvl):=lvE (P:=fun lvl=>lvI lvl=some (am lvl)) h rfl rfl rfl rfl
theorem ahD{lvl:Nat}{x:Nat×Nat×Nat}{m:aa}(h:q9 lvl=true):iq (kj lvl x++m)=am lvl::iq m:=by
 rw[Ha,IR rfl (by
  show(!(dp uA jh&&dp (nm x.1) [46])&&xM (Ry x.2.2++(RK x.2.1++Rx x.2.1)))=true
  rw[El,El,ah7,ako,ah0];rfl)]
 have:LP (tk (nu (nP lvl)).1 (nu (nP lvl)).2.1 (bif Mi lvl then 8 else 12) (Mi lvl))=some (am lvl):=(show _=lvI lvl from rfl).trans (an3 h)
 rw[this];rfl
theorem ahE{n:Nat}{m:aa}:iq (fw n++m)=88::iq m:=IR (x:=nu [56,56]) (l:=[wd ([73,83,45]++nm n),wd [86,65,76,85,69],(jh,[45],1),nu [53],wd [84,72,82,85],nu [49,46,50,53],(X0,[113],4)]) rfl rfl
theorem ahF{n l:Nat}{m:aa}:iq (gu n l++m)=66::iq m:=by
 unfold gu
 cases l with
 |zero=>exact IR (x:=nu [54,54]) (l:=[wd (nm n),wd [82,69,78,65,77,69,83],wd (nm 16)]) rfl rfl
 |succ l=>exact IR (x:=nu [54,54]) (l:=[wd (nm n),wd [82,69,78,65,77,69,83],wd (nm 16),wd [84,72,82,85],wd (nm 22)]) rfl rfl
theorem IT{a b:ac}{m:aa}:iq (b6 a b++m)=iq m:=IR (x:=wd a) (l:=[(uA,b,b.length)]) rfl rfl
noncomputable def nO(l:Lf):List Int:=bif l.c then[88]else[]
theorem qc{lvl:Nat}{l:Lf}{m:aa}(h:q9 lvl=true):iq (dN lvl l++m)=am lvl::(nO l++iq m):=by
 obtain⟨i,c⟩:=l
 unfold dN rC
 rw[aB,ahD h]
 cases c with
 |false=>rfl
 |true=>exact congrArg (am lvl:: ·) ahE
noncomputable def ya(t:Tn):List Int:=match t with
 | .leaf l=>5::nO l
 | .grp g a=>5::(nO g++10::nO a)
 | .grp2 g a b=>5::(nO g++10::(nO a++10::nO b))
theorem ahG{t:Tn}{m:aa}:iq (uW t++m)=ya t++iq m:=by
 cases t with
 |leaf l=>exact qc rfl
 |grp g a=>
  show iq ((dN 5 g++dN 10 a)++m)=5::((nO g++10::nO a)++iq m)
  rw[aB,qc rfl,qc rfl,aB];rfl
 |grp2 g a b=>
  show iq ((dN 5 g++(dN 10 a++dN 10 b))++m)=5::((nO g++10::(nO a++10::nO b))++iq m)
  rw[aB,qc rfl,aB,qc rfl,qc rfl,aB,eR,aB];rfl
noncomputable def Qa(n:Nat):List Int:=gV (motive:=fun _=>List Int) [] (fun _ _=>[66]) n
noncomputable def Al(r:Rt):List Int:=am r.lvl::(nO r.it++(r.ts.flatMap ya++Qa r.ren))
theorem adE{ts:List Tn}{m:aa}:iq (ts.flatMap uW++m)=ts.flatMap ya++iq m:=by
 induction ts with
 |nil=>rfl
 |cons t ts ih=>rw[aY,aY,aB,ahG,ih,aB]
theorem Xk{r:Rt}(h:n5 r){m:aa}:iq (ii r++m)=Al r++iq m:=by
 unfold ii Al
 rw[aB,qc h.lv.1,aB,adE]
 have:iq (Vd (jY 1 r.it) r.ren++m)=Qa r.ren++iq m:=by
  cases r.ren with
  |zero=>rfl
  |succ l=>exact ahF
 rw[this,eR,aB,aB]
theorem qm{lvl:Nat}{l:Lf}:mz (dN lvl l)=bif Mi lvl then[.str (nP lvl)]else[]:=by
 unfold dN rC
 rw[iT,Ha,Tv]
 have:mz (bif l.c then fw (jY lvl l)else[])=[]:=by
  cases l.c
  ·rfl
  ·exact NH
 rw[this,aR];rfl
theorem akk{t:Tn}:mz (uW t)=[]:=by
 cases t with
 |leaf l=>exact qm
 |grp g a=>exact(iT _ _).trans (by rw[qm,qm];rfl)
 |grp2 g a b=>exact(iT _ _).trans (by rw[iT,qm,qm,qm];rfl)
theorem n5.top{r:Rt}(h:n5 r):r.lvl=1\/r.lvl=77:=by
 have q:=h.ok
 unfold XK at q
 cases z:aj r.lvl 1 with
 |true=>exact .inl (aD z)
 |false=>
  rw[z]at q
  exact aE (show(aj r.lvl 77&&(r.ts.isEmpty&&aj r.ren 0))=true from q) fun h1 _=>.inr (aD h1)
theorem Ys{r:Rt}(h:n5 r):mz (ii r)=[.str (nP r.lvl)]:=by
 unfold ii
 have h1:mz (r.ts.flatMap uW)=[]:=by
  induction r.ts with
  |nil=>rfl
  |cons t ts ih=>rw[aY,iT,akk,ih];rfl
 have h2:mz (Vd (jY 1 r.it) r.ren)=[]:=by
  cases r.ren with
  |zero=>rfl
  |succ l=>exact NH
 rw[iT,iT,qm,h1,h2]
 rcases h.top with e|e<;>rw[e]<;>rfl
theorem Jz{a b:ac}:mz (b6 a b)=[.str a]:=Tv
noncomputable def fL(d:DS):List AV:=jg (d.f.map (·.2.2))
noncomputable def dY(d:DS):List AV:=(fL d++jg d.w)++jg d.l
theorem rb(o:Option Rt):(jg o).length <=1:=by cases o<;>exact av rfl
theorem U4(o:Option Rt):aN (jg o)=true:=by
 cases o with
 |none=>rfl
 |some r=>show aN [dZ r]=true;rw[gS,KG];rfl
theorem adK(d:DS):aN (dY d)=true:=by
 unfold dY fL;rw[bV,bV,U4,U4,U4];rfl
theorem afD{i:Nat}{fr:Fm}{σ:AS}{l:aa}(hu: ∀a∈l,bQ a=false):eA [i] (fun _ σ=>some (true,σ)) (al i) l fr σ=some (l,σ):=by
 have h:=GZ (i:=i) (elt:=al i) (fr:=fr) (ps:=l.map fun a=>(a,a)) (σ:=σ) fun p hp σ=>by
  obtain⟨a,ha,rfl⟩:=dy.mp hp
  rw[bd,cT,hu a ha];rfl
 rw[gB,gB]at h
 rwa[show NN ((fun x:AV×AV=>x.1)∘fun a=>(a,a)) l=l from tt l,show NN ((fun x:AV×AV=>x.2)∘fun a=>(a,a)) l=l from tt l]at h
theorem W5{d:DS}{fr:Fm}{σ:AS}(h0:gt fr 0=bC d):qA 15 (un (aA 26) (al 0)) 16 (bi fM (un (aA 26) (al 0)) (al 15)) (al 16) fr σ=some (.ref σ.next,σ.alloc (.lst (fL d))):=by
 have hu:bQ (bC d)=false:=rfl
 obtain⟨f,w,l⟩:=d
 cases f with
 |none=>
  have a26: ∀σ,aA 26 (bC ⟨none,w,l⟩) σ=some (.dct [] []):=fun _=>rfl
  have e1:un (aA 26) (al 0) fr σ=some (.dct [] [],σ):=by simp only[fV,bd,h0,hu,ae,aX,a26,bZ]
  show bu (un (aA 26) (al 0) fr σ) (fun a ai=>bu (fu ai a) fun l ay=>bu (js 15 (bi fM (un (aA 26) (al 0)) (al 15)) 16 (al 16) l (put fr 16 .unb) ay) fun vs aM=>bif dv vs.length then some (AV.ref aM.next,aM.alloc (.lst vs))else none)=_
  rw[e1];rfl
 |some x=>
  obtain⟨o,s,r⟩:=x
  have a26: ∀σ,aA 26 (bC ⟨some (o,s,r),w,l⟩) σ=some (.dct [d8 o] [.lst [dZ r]]):=fun _=>rfl
  have e1:un (aA 26) (al 0) fr σ=some (.dct [d8 o] [.lst [dZ r]],σ):=by simp only[fV,bd,h0,hu,ae,aX,a26,bZ]
  have g0:gt (put (put fr 16 .unb) 15 (.str (d8 o))) 0=bC ⟨some (o,s,r),w,l⟩:=(fF rfl).trans ((fF rfl).trans h0)
  have e2:bi fM (un (aA 26) (al 0)) (al 15) (put (put fr 16 .unb) 15 (.str (d8 o))) σ=some (.lst [dZ r],σ):=by simp only[jB,fV,bd,g0,cT,hu,mP,ae,aX,a26,bZ,ZE]
  have e3:eA [16] (fun _ σ=>some (true,σ)) (al 16) [dZ r] (put (put fr 16 .unb) 15 (.str (d8 o))) σ=some ([dZ r],σ):=afD fun a ha=>by rw[aO.mp ha];rfl
  show bu (un (aA 26) (al 0) fr σ) (fun a ai=>bu (fu ai a) fun l ay=>bu (js 15 (bi fM (un (aA 26) (al 0)) (al 15)) 16 (al 16) l (put fr 16 .unb) ay) fun vs aM=>bif dv vs.length then some (AV.ref aM.next,aM.alloc (.lst vs))else none)=_
  rw[e1]
  show bu (bu (bi fM (un (aA 26) (al 0)) (al 15) (put (put fr 16 .unb) 15 (.str (d8 o))) σ) fun s ai=>bu (fu ai s) fun l ay=>bu (eA [16] (fun _ σ=>some (true,σ)) (al 16) l (put (put fr 16 .unb) 15 (.str (d8 o))) ay) fun bs fO=>bu (js 15 (bi fM (un (aA 26) (al 0)) (al 15)) 16 (al 16) [] (put fr 16 .unb) fO) fun cs cF=>some (bs++cs,cF)) (fun vs aM=>bif dv vs.length then some (AV.ref aM.next,aM.alloc (.lst vs))else none)=_
  rw[e2]
  show bu (bu (eA [16] (fun _ σ=>some (true,σ)) (al 16) [dZ r] (put (put fr 16 .unb) 15 (.str (d8 o))) σ) fun bs fO=>bu (js 15 (bi fM (un (aA 26) (al 0)) (al 15)) 16 (al 16) [] (put fr 16 .unb) fO) fun cs cF=>some (bs++cs,cF)) (fun vs aM=>bif dv vs.length then some (AV.ref aM.next,aM.alloc (.lst vs))else none)=_
  rw[e3];rfl
theorem alZ{d:DS}{T:AV}{x:Nat}(σ:AS)(hT:bQ T=false): ∃ai,(aV (cK [3] (bi (bT .Add) (bi (bT .Add) (qA 15 (un (aA 26) (al 0)) 16 (bi fM (un (aA 26) (al 0)) (al 15)) (al 16)) (un (aA 24) (al 0))) (un (aA 25) (al 0)))) (Qg 3)) [bC d,T,.ref x] σ=some (.next [bC d,T,.ref x,.lst (dY d)] ai):=by
 have hu:bQ (bC d)=false:=rfl
 have a24: ∀σ,aA 24 (bC d) σ=some (.lst (jg d.w)):=fun _=>rfl
 have a25: ∀σ,aA 25 (bC d) σ=some (.lst (jg d.l)):=fun _=>rfl
 have c1:=W5 (d:=d) (fr:=[bC d,T,.ref x]) (σ:=σ) rfl
 have k1:(fL d).length +(jg d.w).length <=4000000:=au (aK (rb _) (rb _)) (by decide)
 have k2:(fL d++jg d.w).length +(jg d.l).length <=4000000:=by
  rw[ao];exact au (aK (aK (rb _) (rb _)) (rb _)) (by decide)
 have e1:=D9 (σ:=σ.alloc (.lst (fL d))) (i:=σ.next) (l:=fL d) (m:=jg d.w) b7 k1
 have e2:=D9 (σ:=(σ.alloc (.lst (fL d))).alloc (.lst (fL d++jg d.w))) (i:=(σ.alloc (.lst (fL d))).next) (l:=fL d++jg d.w) (m:=jg d.l) b7 k2
 have hz:=xF (n:=13) (x:=((σ.alloc (.lst (fL d))).alloc (.lst (fL d++jg d.w))).next) (l:=dY d) (σ:=((σ.alloc (.lst (fL d))).alloc (.lst (fL d++jg d.w))).alloc (.lst (dY d))) b7 (adK d)
 refine⟨AS.drop (((σ.alloc (.lst (fL d))).alloc (.lst (fL d++jg d.w))).alloc (.lst (dY d))) ((σ.alloc (.lst (fL d))).alloc (.lst (fL d++jg d.w))).next,?_⟩
 show ob (cK [3] _ [bC d,T,.ref x] σ) (gN (Qg 3))=_
 have e3:cK [3] (bi (bT .Add) (bi (bT .Add) (qA 15 (un (aA 26) (al 0)) 16 (bi fM (un (aA 26) (al 0)) (al 15)) (al 16)) (un (aA 24) (al 0))) (un (aA 25) (al 0))) [bC d,T,.ref x] σ=some (.next [bC d,T,.ref x,.ref ((σ.alloc (.lst (fL d))).alloc (.lst (fL d++jg d.w))).next] (((σ.alloc (.lst (fL d))).alloc (.lst (fL d++jg d.w))).alloc (.lst (dY d)))):=by
  simp only[fy,jB,c1,aX,fV,bd,kC,hu,ae,a24,a25,bZ,e1,e2,si,sj,putN]
  rfl
 rw[e3]
 show pr (jD 14 (.ref _) _) (fun a ai=>some (jZ.next (put [bC d,T,.ref x,.ref _] 3 a) ai))=_
 rw[hz];rfl
theorem OY{i:Nat}{test:BM}{elt:EM}{fr:Fm}{g:AV->Option AV}{l:aa}: ∀{σ:AS},(∀t∈l,∀σ,∃b,test (put fr i t) σ=some (b,σ)/\(b=true-> ∃v,elt (put fr i t) σ=some (v,σ)/\g t=some v)/\(b=false->g t=none))->eA [i] test elt l fr σ=some (l.filterMap g,σ):=by
 induction l with
 |nil=>exact fun _=>rfl
 |cons t l ih=>
  intro σ h
  have ih:=ih (σ:=σ) fun t ht=>h t (aQ _ ht)
  obtain⟨b,h1,h2,h3⟩:=h t (ba ..) σ
  show bu (test (put fr i t) σ) (fun b ai=>bif b then bu (elt (put fr i t) ai) (fun v fO=>bu (eA [i] test elt l fr fO) fun l cF=>some (v::l,cF))else eA [i] test elt l fr ai)=_
  rw[h1,aX]
  cases b with
  |true=>
   obtain⟨v,e1,e2⟩:=h2 rfl
   rw[af,e1,aX,ih,kK,e2];rfl
  |false=>
   rw[ae,ih,kK,h3 rfl]
def lD(l:aa):Prop:= ∀t∈l,∃k w c a,t=tk k w c a
theorem lD.app{l m:aa}(h:lD l)(h':lD m):lD (l++m):=fun t ht=>(cM.mp ht).elim (h t) (h' t)
theorem lD.nil:lD []:=fun _ h=>absurd h bb
theorem zw{l:List (List Nat×List Nat×Nat)}: ∀{c:Nat} {a:Bool},lD (ww a c l):=by
 induction l with
 |nil=>exact lD.nil
 |cons x l ih=>exact fun{c a} t ht=>(aH.mp ht).elim (fun h=>⟨_,_,_,_,h⟩) (ih t)
theorem zv{lvl:Nat}{l:Lf}:lD (dN lvl l):=by
 refine lD.app zw ?_
 unfold rC
 cases l.c
 ·exact lD.nil
 ·exact zw
theorem ao1{t:Tn}:lD (uW t):=by
 cases t with
 |leaf l=>exact zv
 |grp g a=>exact lD.app zv zv
 |grp2 g a b=>exact lD.app zv (lD.app zv zv)
theorem akd{r:Rt}:lD (ii r):=by
 refine lD.app zv (lD.app ?_ ?_)
 ·exact fun t ht=>(List.mem_flatMap.mp ht).elim fun s h=>ao1 t h.2
 ·cases r.ren with
  |zero=>exact lD.nil
  |succ l=>exact zw
theorem ace{a b:ac}{o:Option Rt}:lD (fA (b6 a b) o):=by
 cases o with
 |none=>exact lD.nil
 |some r=>exact lD.app zw akd
theorem aaH{d:DS}:lD (gE d):=by
 have hf:lD (i7 d):=by
  obtain⟨f,w,l⟩:=d
  cases f with
  |none=>exact lD.nil
  |some x=>exact lD.app zw (lD.app zw akd)
 unfold gE
 cases (dR d).isEmpty
 ·exact lD.app zw (lD.app (lD.app hf ace) ace)
 ·exact lD.nil
theorem aaK{T:aa}(hT:lD T)(hk:T.length<=4000000){fr:Fm}{σ:AS}(h1:gt fr 1= .lst T):eI [14] (al 1) (ja (un (aA 28) (al 14))) (un (aA 1) (al 14)) fr σ=some (.ref σ.next,σ.alloc (.lst (mz T))):=by
 have e1:al 1 fr σ=some (.lst T,σ):=by rw[bd,h1];rfl
 have c:eA [14] (ja (un (aA 28) (al 14))) (un (aA 1) (al 14)) T fr σ=some (mz T,σ):=OY (g:=am5) fun t ht σ=>by
  obtain⟨k,w,c,a,rfl⟩:=hT t ht
  have a28: ∀σ,aA 28 (tk k w c a) σ=some (.bool a):=fun _=>rfl
  have a1: ∀σ,aA 1 (tk k w c a) σ=some (.str w):=fun _=>rfl
  have hu:bQ (tk k w c a)=false:=rfl
  refine⟨a,by simp only[lP,fV,bd,cT,hu,ae,aX,a28,bZ,iK],fun ha=>⟨.str w,by simp only[fV,bd,cT,hu,ae,aX,a1,bZ],by rw[ha];rfl⟩,fun ha=>by rw[ha];rfl⟩
 show bu (al 1 fr σ) (fun x ai=>bu (fu ai x) fun l ay=>bu (eA [14] (ja (un (aA 28) (al 14))) (un (aA 1) (al 14)) l fr ay) fun vs aM=>bif dv vs.length then some (AV.ref aM.next,aM.alloc (.lst vs))else none)=_
 rw[e1,aX,NA hk,aX,c,aX,fN (n:=(mz T).length) (au (tr ..) hk)];rfl
noncomputable def sZ:BM:=Rp (fh (bU .Eq) (al 11) (a6 (.int (0)))) (fh (bU .Eq) (cC qs (bi fM (al 1) (bi (bT .Sub) (al 11) (a6 (.int (1))))) aJ) (bn fU (aw (a6 (.str [115,105,103,110])) (aw (a6 (.str [46])) aJ))))
theorem UJ{T:aa}(hT:lD T)(hk:T.length<=99999){fr:Fm}{σ:AS}(h1:gt fr 1= .lst T): ∀(m i:Nat) (p:Bool),i+m=T.length->(i=0->p=true)->(∀j t,i=j+1->T[j]? =some t->p=wv t)->
  eA [11] sZ (bi fM (al 1) (al 11)) ((iM i m).map fun i=>.int (am i)) fr σ=some (jT p (T.drop i),σ):=by
 intro m
 induction m with
 |zero=>
  intro i p hi _ _
  rw[gY (show T.length<=i from eu hi.symm)];rfl
 |succ m ih=>
  intro i p hi hp0 hp
  have hlt:i<T.length:=by rw[<- hi];exact uS (Nat.succ_pos m)
  have hx:T[i]? =some T[i]:=eS hlt
  obtain⟨k,w,c,a,ht⟩:=hT _ (Gf hlt)
  have ih:=ih (i+1) (wv T[i]) (by rw[<- hi];omega) (fun h=>absurd h (j9 _)) fun j t hj ht=>by
   have:j=i:=(jQ hj).symm
   rw[this,hx]at ht
   exact congrArg wv (aG ht)
  have u1:bQ (.lst T)=false:=rfl
  have g1:gt (put fr 11 (.int (am i))) 1= .lst T:=(fF rfl).trans h1
  have oi: ∀{i},i<T.length->dv i=true:=fun h=>fN (au (iW h) (au hk (by decide)))
  have el:bi fM (al 1) (al 11) (put fr 11 (.int (am i))) σ=some (T[i],σ):=by
   simp only[jB,bd,g1,cT,u1,lQ,ae,aX,IJ (oi hlt) hx]
  have te:sZ (put fr 11 (.int (am i))) σ=some (p,σ):=by
   unfold sZ
   cases i with
   |zero=>
    have e0: ∀σ,bU .Eq (.int (am 0)) (.int 0) σ=some true:=fun _=>rfl
    rw[hp0 rfl]
    simp only[GS,ft,bd,cT,lQ,ae,af,aX,dU,e0,bZ]
   |succ j=>
    have e0: ∀σ,bU .Eq (.int (am (j+1))) (.int 0) σ=some false:=fun _=>rfl
    have e1: ∀σ,bT .Sub (.int (am (j+1))) (.int 1) σ=some (.int (am j),σ):=fun σ=>by
     show some (AV.int (am (j+1)-1),σ)=_
     rw[show am (j+1)-1=am j from Ba (j:Int) 1]
    have hj:j<T.length:=Nat.lt_of_succ_lt hlt
    have hy:T[j]? =some T[j]:=eS hj
    obtain⟨k,w,c,a,ht⟩:=hT _ (Gf hj)
    rw[hp j _ rfl hy]
    rw[ht]at hy ⊢
    have mt: ∀σ,qs (tk k w c a) σ=some qv:=fun _=>rfl
    have pt: ∀σ,qv [tk k w c a] σ=some (.tup [.str k,.str w],σ):=fun _=>rfl
    have m2: ∀a b σ,fU [a,b] σ=some (.tup [a,b],σ):=fun _ _ _=>rfl
    have ce: ∀σ,bU .Eq (.tup [.str k,.str w]) (.tup [.str [115,105,103,110],.str [46]]) σ=some (wv (tk k w c a)):=fun σ=>by
     show some (dp k jh&&(dp w [46]&&true))=some (dp k jh&&dp w [46])
     rw[Mp]
    have ut:bQ (tk k w c a)=false:=rfl
    simp only[GS,ft,bd,cT,g1,u1,lQ,ae,aX,dU,e0,bZ,eB,jB,e1,IJ (oi hj) hy,mt,cg,pt,d9,cp,m2,ce]
  rw[tv,bc]
  show bu (sZ (put fr 11 (.int (am i))) σ) (fun b ai=>bif b then bu (bi fM (al 1) (al 11) (put fr 11 (.int (am i))) ai) (fun v fO=>bu (eA [11] sZ (bi fM (al 1) (al 11)) ((iM (i+1) m).map fun i=>.int (am i)) fr fO) fun l cF=>some (v::l,cF))else eA [11] sZ (bi fM (al 1) (al 11)) ((iM (i+1) m).map fun i=>.int (am i)) fr ai)=_
  rw[te,aX,List.drop_eq_getElem_cons hlt]
  cases p with
  |true=>rw[af,el,aX,ih];rfl
  |false=>rw[ae,ih];rfl
theorem UI{T:aa}(hT:lD T)(hk:T.length<=99999){fr:Fm}{σ:AS}(h1:gt fr 1= .lst T):eI [11] (bn lx (aw (bn eN (aw (al 1) aJ)) aJ)) sZ (bi fM (al 1) (al 11)) fr σ=some (.ref σ.next,σ.alloc (.lst (jT true T))):=by
 have u1:bQ (.lst T)=false:=rfl
 have hk':T.length<=4000000:=au hk (by decide)
 have er:lx [.int (am T.length)] σ=some (.rng 0 T.length,σ):=by
  show(bif bp T.length 100000 then some (AV.rng 0 T.length,σ)else none)=_
  rw[GV (Nat.lt_succ_of_le hk)];rfl
 have e1:bn lx (aw (bn eN (aw (al 1) aJ)) aJ) fr σ=some (.rng 0 T.length,σ):=by
  simp only[d9,cp,cg,bd,h1,u1,ae,aX,xJ (fN hk'),er]
 have e2:fu σ (.rng 0 T.length)=some ((iM 0 T.length).map (fun i=>.int (am i)),σ):=by
  show bu (some ((ct (T.length-0)).map (fun i=>AV.int (am (0+i))),σ)) (fun l ai=>bif dv l.length then some (l,ai)else none)=_
  rw[aX,aS,EG,NQ,fN hk',List.range_eq_range']
  refine congrArg (fun l=>some (l,σ)) (fP fun i _=> ?_)
  rw[hJ]
 have c:=UJ hT hk h1 (σ:=σ) T.length 0 true (hJ _) (fun _=>rfl) fun j t hj _=>absurd hj.symm (j9 _)
 have hl: ∀(T:List AV) (p:Bool),(jT p T).length <=T.length:=fun T=>by
  induction T with
  |nil=>exact fun _=>ax _
  |cons t T ih=>
   intro p
   cases p with
   |true=>exact a9 (ih (wv t))
   |false=>exact mG (ih (wv t))
 show bu (bn lx (aw (bn eN (aw (al 1) aJ)) aJ) fr σ) (fun x ai=>bu (fu ai x) fun l ay=>bu (eA [11] sZ (bi fM (al 1) (al 11)) l fr ay) fun vs aM=>bif dv vs.length then some (AV.ref aM.next,aM.alloc (.lst vs))else none)=_
 rw[e1,aX,e2,aX,c,aX,lT,fN (au (hl T true) hk')];rfl
noncomputable def UM(t:AV):Bool:=(ob (aA 2 t ⟨0,[]⟩) fun k=>ob (aA 1 t ⟨0,[]⟩) fun w=>d7 k fun k=>some (bif dp k pN then(tI [w] ⟨0,[]⟩).isSome else true)).getD false
noncomputable def iP(T:aa):Bool:=(jT true T).all UM
theorem IG{x:List Nat×List Nat×Nat}{l:List (List Nat×List Nat×Nat)}{m:aa}{a:Bool}{c:Nat}(hx:(dp x.1 jh&&dp x.2.1 [46])=false)(h:xM l=true)(hg:UM (tk x.1 x.2.1 c a)=true):iP (ww a c (x::(l++[Ks]))++m)=iP m:=by
 unfold iP
 rw[agR hx h,rm,hg];rfl
theorem ag9{lvl:Nat}(h:q9 lvl=true)(c:Nat)(a:Bool):UM (tk pN (nP lvl) c a)=true:=lvE (P:=fun lvl=>UM (tk pN (nP lvl) c a)=true) h rfl rfl rfl rfl
theorem ag8{lvl:Nat}{x:Nat×Nat×Nat}{m:aa}(h:q9 lvl=true):iP (kj lvl x++m)=iP m:=by
 rw[Ha,IG rfl (by
  show(!(dp uA jh&&dp (nm x.1) [46])&&xM (Ry x.2.2++(RK x.2.1++Rx x.2.1)))=true
  rw[El,El,ah7,ako,ah0];rfl) (ag9 h _ _)]
theorem aha{n:Nat}{m:aa}:iP (fw n++m)=iP m:=IG (x:=nu [56,56]) (l:=[wd ([73,83,45]++nm n),wd [86,65,76,85,69],(jh,[45],1),nu [53],wd [84,72,82,85],nu [49,46,50,53],(X0,[113],4)]) rfl rfl rfl
theorem ahb{n l:Nat}{m:aa}:iP (gu n l++m)=iP m:=by
 unfold gu
 cases l with
 |zero=>exact IG (x:=nu [54,54]) (l:=[wd (nm n),wd [82,69,78,65,77,69,83],wd (nm 16)]) rfl rfl rfl
 |succ l=>exact IG (x:=nu [54,54]) (l:=[wd (nm n),wd [82,69,78,65,77,69,83],wd (nm 16),wd [84,72,82,85],wd (nm 22)]) rfl rfl rfl
theorem IH{a b:ac}{m:aa}:iP (b6 a b++m)=iP m:=IG (x:=wd a) (l:=[(uA,b,b.length)]) rfl rfl rfl
theorem qb{lvl:Nat}{l:Lf}{m:aa}(h:q9 lvl=true):iP (dN lvl l++m)=iP m:=by
 obtain⟨i,c⟩:=l
 unfold dN rC
 rw[aB,ag8 h]
 cases c with
 |false=>rfl
 |true=>exact aha
theorem ahc{t:Tn}{m:aa}:iP (uW t++m)=iP m:=by
 cases t with
 |leaf l=>exact qb rfl
 |grp g a=>
  show iP ((dN 5 g++dN 10 a)++m)=iP m
  rw[aB,qb rfl,qb rfl]
 |grp2 g a b=>
  show iP ((dN 5 g++(dN 10 a++dN 10 b))++m)=iP m
  rw[aB,qb rfl,aB,qb rfl,qb rfl]
theorem W8{r:Rt}(h:n5 r){m:aa}:iP (ii r++m)=iP m:=by
 unfold ii
 have h1: ∀(ts:List Tn) (m:List AV),iP (ts.flatMap uW++m)=iP m:=fun ts m=>by
  induction ts with
  |nil=>rfl
  |cons t ts ih=>rw[aY,aB,ahc,ih]
 have h2:iP (Vd (jY 1 r.it) r.ren++m)=iP m:=by
  cases r.ren with
  |zero=>rfl
  |succ l=>exact ahb
 rw[aB,qb h.lv.1,aB,h1,h2]
theorem ab6{a b:ac}{o:Option Rt}(h:J3 o){m:aa}:iP (fA (b6 a b) o++m)=iP m/\iq (fA (b6 a b) o++m)=(o.map Al).getD []++iq m:=by
 cases o with
 |none=>exact⟨rfl,rfl⟩
 |some r=>
  have e:fA (b6 a b) (some r)++m=b6 a b++(ii r++m):=aB ..
  rw[e]
  exact⟨by rw[IH,W8 (h r rfl)],by rw[IT,Xk (h r rfl)];rfl⟩
noncomputable def Cm(d:DS):List Int:=((d.f.map (·.2.2)).map Al).getD []++((d.w.map Al).getD []++(d.l.map Al).getD [])
theorem ant{d:DS}(h:jd d):iP (gE d)=true/\iq (gE d)=Cm d:=by
 obtain⟨l1,l2⟩:=ab6 (a:=pD) (b:=cW) h.l (m:=[])
 obtain⟨w1,w2⟩:=ab6 (a:=ms) (b:=cW) h.w (m:=fA (b6 pD cW) d.l++[])
 have hb:iP (dR d)=true/\iq (dR d)=Cm d:=by
  have e3:dR d=i7 d++(fA (b6 ms cW) d.w++(fA (b6 pD cW) d.l++[])):=by
   unfold dR;rw[aR,aB]
  have hf:iP (i7 d++(fA (b6 ms cW) d.w++(fA (b6 pD cW) d.l++[])))=iP (fA (b6 ms cW) d.w++(fA (b6 pD cW) d.l++[]))/\iq (i7 d++(fA (b6 ms cW) d.w++(fA (b6 pD cW) d.l++[])))=((d.f.map (·.2.2)).map Al).getD []++iq (fA (b6 ms cW) d.w++(fA (b6 pD cW) d.l++[])):=by
   generalize fA (b6 ms cW) d.w++(fA (b6 pD cW) d.l++[])=m
   obtain⟨f,w,l⟩:=d
   cases f with
   |none=>exact⟨rfl,rfl⟩
   |some x=>
    have e:i7 ⟨some x,w,l⟩++m=b6 gO cW++(b6 (kh x.2.1) (d8 x.1)++(ii x.2.2++m)):=by
     show(b6 gO cW++(b6 (kh x.2.1) (d8 x.1)++ii x.2.2))++m=_
     rw[aB,aB]
    have hr:=(h.f x rfl).1
    rw[e]
    exact⟨by rw[IH,IH,W8 hr],by rw[IT,IT,Xk hr];rfl⟩
  rw[e3,hf.1,hf.2,w1,w2,l1,l2]
  refine⟨rfl,?_⟩
  unfold Cm
  rw[show iq []=[] from rfl,aR]
 unfold gE
 cases z:(dR d).isEmpty with
 |true=>
  have hb0:=ej.mp z
  rw[hb0]at hb
  exact hb
 |false=>exact⟨IH.trans hb.1,IT.trans hb.2⟩
theorem agS{T:aa}: ∀{p:Bool},∀t∈jT p T,t∈T:=by
 induction T with
 |nil=>exact fun t h=>h
 |cons x T ih=>
  intro p t h
  cases p with
  |true=>exact(aH.mp (show t∈x::jT (wv x) T from h)).elim (fun h=>h▸ba ..) fun h=>aQ _ (ih t h)
  |false=>exact aQ _ (ih t (show t∈jT (wv x) T from h))
theorem adr{w:ac}(h:(tI [.str w] ⟨0,[]⟩).isSome=true): ∃n,lJ 0 w=some n/\ ∀σ,tI [.str w] σ=some (.int (am n),σ):=by
 cases w with
 |nil=>exact ff h
 |cons c r=>
  have h:(bif bp r.length 18 then ob (lJ 0 (c::r)) (fun n=>some (AV.int (am n),(⟨0,[]⟩:AS)))else none).isSome=true:=h
  cases z:bp r.length 18 with
  |false=>rw[z]at h;exact ff h
  |true=>
   rw[z,af]at h
   cases e:lJ 0 (c::r)with
   |none=>rw[e]at h;exact ff h
   |some n=>
    refine⟨n,rfl,fun σ=> ?_⟩
    show(bif bp r.length 18 then ob (lJ 0 (c::r)) (fun n=>some (AV.int (am n),σ))else none)=_
    rw[z,e];rfl
theorem UU{T:aa}(hT:lD T)(hg:iP T=true){fr:Fm}{σ:AS}{j:Nat}(h6:gt fr 6= .ref j)(hj:σ.get j=some (.lst (jT true T)))(hk:(jT true T).length <=4000000):
  eI [10] (al 6) (fh (bU .Eq) (un (aA 2) (al 10)) (a6 (.str [110,117,109,98,101,114]))) (bn tI (aw (un (aA 1) (al 10)) aJ)) fr σ=some (.ref (σ.drop j).next,(σ.drop j).alloc (.lst ((iq T).map .int))):=by
 have e1:al 6 fr σ=some (.ref j,σ):=by rw[bd,h6];rfl
 have e2:fu σ (.ref j)=some (jT true T,σ.drop j):=by
  show bu (ob (σ.get j) _) _=_
  rw[hj]
  show(bif dv (jT true T).length then some (jT true T,σ.drop j)else none)=_
  rw[fN hk];rfl
 have c:eA [10] (fh (bU .Eq) (un (aA 2) (al 10)) (a6 (.str [110,117,109,98,101,114]))) (bn tI (aw (un (aA 1) (al 10)) aJ)) (jT true T) fr (σ.drop j)=some ((jT true T).filterMap (fun t=>(LP t).map AV.int),σ.drop j):=OY fun t ht σ=>by
  obtain⟨k,w,c,a,rfl⟩:=hT t (agS t ht)
  have a2: ∀σ,aA 2 (tk k w c a) σ=some (.str k):=fun _=>rfl
  have a1: ∀σ,aA 1 (tk k w c a) σ=some (.str w):=fun _=>rfl
  have hu:bQ (tk k w c a)=false:=rfl
  have gd:(bif dp k pN then(tI [.str w] ⟨0,[]⟩).isSome else true)=true:=bR.mp hg _ ht
  have lg:LP (tk k w c a)=bif dp k pN then ob (lJ 0 w) (fun n=>some (am n))else none:=rfl
  have ce: ∀σ,bU .Eq (.str k) (.str [110,117,109,98,101,114]) σ=some (dp k pN):=fun _=>rfl
  refine⟨dp k pN,by simp only[ft,fV,bd,cT,hu,ae,aX,a2,bZ,dU,ce],fun hb=> ?_,fun hb=>by rw[lg,hb];rfl⟩
  rw[hb]at gd
  obtain⟨n,p1,p2⟩:=adr gd
  exact⟨.int (am n),by simp only[d9,cp,cg,fV,bd,cT,hu,ae,aX,a1,bZ,p2],by rw[lg,hb,af,p1];rfl⟩
 have hm:(jT true T).filterMap (fun t=>(LP t).map AV.int)=(iq T).map AV.int:=List.map_filterMap.symm
 show bu (al 6 fr σ) (fun x ai=>bu (fu ai x) fun l ay=>bu (eA [10] (fh (bU .Eq) (un (aA 2) (al 10)) (a6 (.str [110,117,109,98,101,114]))) (bn tI (aw (un (aA 1) (al 10)) aJ)) l fr ay) fun vs aM=>bif dv vs.length then some (AV.ref aM.next,aM.alloc (.lst vs))else none)=_
 rw[e1,aX,e2,aX,c,aX,fN (au (tr ..) hk),hm];rfl
noncomputable def K0(self:aW):SM:=aV (cK [1] (bi (bT .Add) (al 1) (bn self (aw (al 2) aJ)))) bh
theorem aaL{self:aW}{ks:List (AV×List AV)}: ∀{fr:Fm} {σ:AS} {i:Nat} {L:aa},(∀k∈ks,bQ k.1=false/\ ∀σ,self [k.1] σ=some (.ref σ.next,σ.alloc (.lst k.2)))->gt fr 1= .ref i->σ.get i=some (.lst L)->i<σ.next->L.length+(ks.flatMap (·.2)).length <=4000000->
  ∃fr' ai j,pv [2] (K0 self) (ks.map (·.1)) fr σ=some (.next fr' ai)/\gt fr' 1= .ref j/\ai.get j=some (.lst (L++ks.flatMap (·.2))):=by
 induction ks with
 |nil=>exact fun{fr σ i L} _ hf hi _ _=>⟨fr,σ,i,rfl,hf,by rw[bA,aR];exact hi⟩
 |cons k ks ih=>
  intro fr σ i L h hf hi hs hk
  obtain⟨hu,hself⟩:=h k (ba ..)
  rw[aY]at hk ⊢
  have hk1:L.length+k.2.length<=4000000:=au (dq (by rw[ao];exact cQ _ _) _) hk
  have h1:gt (put fr 2 k.1) 1= .ref i:=(fF rfl).trans hf
  have ea:=Ip (σ:=σ.alloc (.lst k.2)) (i:=i) (j:=σ.next) (dI hi hs) b7 hk1
  have e1:K0 self (put fr 2 k.1) σ=some (.next (put (put fr 2 k.1) 1 (.ref (σ.alloc (.lst k.2)).next)) ((σ.alloc (.lst k.2)).alloc (.lst (L++k.2)))):=by
   unfold K0
   simp only[c9,fy,jB,bd,h1,cT,fc,hu,ae,aX,d9,cp,cg,hself,ea,bZ,dz,fz]
  obtain⟨fr',ai,j,e2,h2,h3⟩:=ih (fr:=put (put fr 2 k.1) 1 (.ref (σ.alloc (.lst k.2)).next)) (σ:=(σ.alloc (.lst k.2)).alloc (.lst (L++k.2))) (i:=(σ.alloc (.lst k.2)).next) (L:=L++k.2) (fun k hk=>h k (aQ _ hk)) cT b7 (bL _) (by rw[ao,ky,<- ao];exact hk)
  refine⟨fr',ai,j,?_,h2,by rw[h3,aB]⟩
  rw[bc,Eu e1,e2]
theorem an8{σ:AS}{j m:Nat}{l:aa}(hj:σ.get j=some (.lst l))(hm:m<100)(hl:l.length<=1000):bT .Mult (.ref j) (.int (am m)) σ=some (.ref σ.next,σ.alloc (.lst (bD m l).flatten)):=by
 show(bif bp m 100 then ob (σ.get j) _ else none)=_
 rw[GV hm,hj]
 show(bif cP l.length 1000 then _ else none)=_
 rw[fY hl];rfl
theorem Tz{n:Nat}{it lv:AV}{cs:aa}{ks:List (AV×List AV)}(hit:noRef it=true)(hu:bQ it=false)(ha: ∀σ,aA 20 it σ=some lv)(hlv:noRef lv=true)(hc: ∀σ,aA 23 it σ=some (.lst cs))(hcl:cs.length<100)(hkd: ∀σ,aA 22 it σ=some (.lst (ks.map (·.1))))
  (hk: ∀k∈ks,bQ k.1=false/\ ∀σ,bt n [k.1] σ=some (.ref σ.next,σ.alloc (.lst k.2)))(hn:aN (([lv]++(bD cs.length [AV.int 88]).flatten)++ks.flatMap (·.2))=true)(hl:(([lv]++(bD cs.length [AV.int 88]).flatten)++ks.flatMap (·.2)).length <=4000000)(hkl:ks.length<=4000000)(σ:AS):
  bt (n+1) [it] σ=some (.ref σ.next,σ.alloc (.lst (([lv]++(bD cs.length [AV.int 88]).flatten)++ks.flatMap (·.2)))):=by
 have mk1: ∀a σ,cU [a] σ=some (.ref σ.next,σ.alloc (.lst [a])):=fun _ _=>rfl
 have key: ∀σ:AS,∃x ai,zH (bt n) [it] σ=some (.ref x,ai)/\ai.get x=some (.lst (([lv]++(bD cs.length [AV.int 88]).flatten)++ks.flatMap (·.2))):=fun σ=>by
  have k1:[lv].length +((bD cs.length [AV.int 88]).flatten).length <=4000000:=by
   rw[<- ao]
   exact au (by rw[ao (as:=[lv]++(bD cs.length [AV.int 88]).flatten)];exact cQ _ _) hl
  have em:=an8 (σ:=(σ.alloc (.lst [lv])).alloc (.lst [.int 88])) (j:=(σ.alloc (.lst [lv])).next) (l:=[.int 88]) b7 hcl (by decide)
  have g1:(((σ.alloc (.lst [lv])).alloc (.lst [.int 88])).alloc (.lst (bD cs.length [AV.int 88]).flatten)).get σ.next=some (.lst [lv]):=dI (dI b7 (bL _)) (cG (bL _))
  have ea:=Ip (σ:=((σ.alloc (.lst [lv])).alloc (.lst [.int 88])).alloc (.lst (bD cs.length [AV.int 88]).flatten)) (i:=σ.next) (j:=((σ.alloc (.lst [lv])).alloc (.lst [.int 88])).next) g1 b7 k1
  generalize hS:(((σ.alloc (.lst [lv])).alloc (.lst [.int 88])).alloc (.lst (bD cs.length [AV.int 88]).flatten)).alloc (.lst ([lv]++(bD cs.length [AV.int 88]).flatten))=gT at ea
  have g2:gT.get (((σ.alloc (.lst [lv])).alloc (.lst [.int 88])).alloc (.lst (bD cs.length [AV.int 88]).flatten)).next=some (.lst ([lv]++(bD cs.length [AV.int 88]).flatten)):=by rw[<- hS];exact b7
  have l2:(((σ.alloc (.lst [lv])).alloc (.lst [.int 88])).alloc (.lst (bD cs.length [AV.int 88]).flatten)).next <gT.next:=by rw[<- hS];exact bL _
  generalize (((σ.alloc (.lst [lv])).alloc (.lst [.int 88])).alloc (.lst (bD cs.length [AV.int 88]).flatten)).next=i at ea g2 l2
  have ln: ∀σ:AS,eN [.lst cs] σ=some (.int (.ofNat cs.length),σ):=fun σ=>xJ (fN (au (iW hcl) (by decide)))
  have e1:cK [1] (bi (bT .Add) (bn cU (aw (un (aA 20) (al 0)) aJ)) (bi (bT .Mult) (bn cU (aw (a6 (.int (88))) aJ)) (bn eN (aw (un (aA 23) (al 0)) aJ)))) [it] σ=some (.next [it,.ref i] gT):=by
   simp only[fy,jB,d9,cp,cg,fV,bd,kC,hu,ae,aX,ha,bZ,mk1,dU,hc,ln,em,ea,si,sj,putN]
  obtain⟨fr',ai,j,e2,h2,h3⟩:=aaL (self:=bt n) (fr:=[it,.ref i]) (σ:=gT) (i:=i) hk rfl g2 l2 (by rw[<- ao];exact hl)
  have e3:gq [2] (un (aA 22) (al 0)) (K0 (bt n)) [it,.ref i] gT=some (.next fr' ai):=by
   refine(y7 (l:=ks.map (·.1)) ?_ (by rw[aS];exact hkl)).trans e2
   simp only[fV,bd,kC,hu,ae,aX,hkd,bZ]
  refine⟨j,ai,?_,h3⟩
  show ob (ob (cK [1] _ [it] σ) (gN (aV (gq [2] (un (aA 22) (al 0)) (K0 (bt n))) (aV (eC (al 1)) bh)))) ig=_
  rw[e1]
  show ob (ob (gq [2] (un (aA 22) (al 0)) (K0 (bt n)) [it,.ref i] gT) (gN (aV (eC (al 1)) bh))) ig=_
  rw[e3]
  show ob (aV (eC (al 1)) bh fr' ai) ig=_
  simp only[c9,d6,bd,h2,fc,ae,aX,bZ,dB,gp]
 obtain⟨x,ai,e,g⟩:=key ⟨0,[]⟩
 exact ZN (by rw[gS,hit];rfl) e g hn
theorem CJ(l:List Int):aN (l.map AV.int)=true:=by
 induction l with
 |nil=>rfl
 |cons a l ih=>exact ih
noncomputable def CA(lvl:Nat)(l:Lf):List AV:=(am lvl::nO l).map AV.int
theorem zz{n lvl:Nat}{l:Lf}{ks:List (AV×List AV)}{p:AV}(hks:aN (ks.map (·.1))=true)(hp:noRef p=true)(hk: ∀k∈ks,bQ k.1=false/\ ∀σ,bt n [k.1] σ=some (.ref σ.next,σ.alloc (.lst k.2)))(hn:aN (ks.flatMap (·.2))=true)(hl:(CA lvl l++ks.flatMap (·.2)).length <=4000000)(hkl:ks.length<=4000000)(σ:AS):
  bt (n+1) [o5 lvl l (ks.map (·.1)) p] σ=some (.ref σ.next,σ.alloc (.lst (CA lvl l++ks.flatMap (·.2)))):=by
 have hit:noRef (o5 lvl l (ks.map (·.1)) p)=true:=by
  show(true&&aN (j0 _ _ _ _ _))=true
  rw[Hi,Hh,sg,hks,hp];rfl
 have key: ∀cs:List AV,conds lvl l= .lst cs->[AV.int (am lvl)]++(bD cs.length [AV.int 88]).flatten=CA lvl l->cs.length<100->bt (n+1) [o5 lvl l (ks.map (·.1)) p] σ=some (.ref σ.next,σ.alloc (.lst (CA lvl l++ks.flatMap (·.2)))):=fun cs h1 h2 h3=>by
  have h:=Tz (n:=n) (it:=o5 lvl l (ks.map (·.1)) p) (lv:=.int (am lvl)) (cs:=cs) (ks:=ks) hit rfl (fun _=>rfl) rfl (fun σ=> ?_) h3 (fun _=>rfl) hk (by rw[h2,bV,hn,show aN (CA lvl l)=true from CJ _];rfl) (by rw[h2];exact hl) hkl σ
  ·rw[h2]at h;exact h
  ·rw[<- h1]
   obtain⟨i,c⟩:=l
   cases c<;>rfl
 obtain⟨i,c⟩:=l
 cases c with
 |false=>exact key [] rfl rfl (by decide)
 |true=>exact key [qe (jY lvl ⟨i,true⟩)] rfl rfl (show 1<100 by decide)
theorem ua(lvl:Nat)(l:Lf):(CA lvl l).length <=2:=by
 unfold CA nO
 cases l.c<;>exact av rfl
theorem JB{n lvl:Nat}{l:Lf}(σ:AS):bt (n+1) [oc lvl l .opq] σ=some (.ref σ.next,σ.alloc (.lst (CA lvl l))):=by
 have h:=zz (n:=n) (lvl:=lvl) (l:=l) (ks:=[]) (p:=.opq) rfl rfl (fun _ h=>absurd h bb) rfl (by rw[bA,aR];exact au (ua lvl l) (by decide)) (aU _) σ
 rw[bA,aR]at h
 exact h
theorem aeP{n i l:Nat}(σ:AS):bt (n+1) [.frz b9 fT (j6 i l .opq)] σ=some (.ref σ.next,σ.alloc (.lst [.int 66])):=by
 have hrn:noRef (xV l)=true:=NF (P:=fun a=>noRef a=true) rfl rfl l
 have hit:noRef (.frz b9 fT (j6 i l .opq))=true:=by
  show aN (j6 i l .opq)=true
  simp only[j6,gS,XA,Xy,Xw,Xv,abS,sg,hrn,Xz,rl]
 exact Tz (n:=n) (it:=.frz b9 fT (j6 i l .opq)) (lv:=.int 66) (cs:=[]) (ks:=[]) hit rfl (fun _=>rfl) rfl (fun _=>rfl) (by decide) (fun _=>rfl) (fun _ h=>absurd h bb) rfl (av rfl) (aU _) σ
theorem akv{n:Nat}(t:Tn)(σ:AS):bt (n+2) [sy t] σ=some (.ref σ.next,σ.alloc (.lst ((ya t).map AV.int))):=by
 cases t with
 |leaf l=>exact JB (n:=n+1) σ
 |grp g a=>
  have h:=zz (n:=n+1) (lvl:=5) (l:=g) (ks:=[(oc 10 a .opq,CA 10 a)]) (p:=.opq) (by rw[bc,jO,gS,qf];rfl) rfl (fun k hk=>(aO.mp hk)▸⟨rfl,fun σ=>JB σ⟩)
   (by rw[aY,bA,aR];exact CJ _) (by rw[aY,bA,aR,ao];exact au (aK (ua _ _) (ua _ _)) (by decide)) (av rfl) σ
  rw[aY,bA,aR,show CA 5 g++CA 10 a=(ya (.grp g a)).map AV.int from(bj ..).symm]at h
  exact h
 |grp2 g a b=>
  have h:=zz (n:=n+1) (lvl:=5) (l:=g) (ks:=[(oc 10 a .opq,CA 10 a),(oc 10 b .opq,CA 10 b)]) (p:=.opq) (by rw[bc,bc,jO,gS,gS,qf,qf];rfl) rfl
   (fun k hk=>(aH.mp hk).elim (fun h=>h▸⟨rfl,fun σ=>JB σ⟩) fun hk=>(aO.mp hk)▸⟨rfl,fun σ=>JB σ⟩)
   (by rw[aY,aY,bA,aR,bV];exact(congr (congrArg and (CJ _)) (CJ _))) (by rw[aY,aY,bA,aR,ao,ao];exact au (aK (ua _ _) (aK (ua _ _) (ua _ _))) (by decide)) (av rfl) σ
  rw[aY,aY,bA,aR]at h
  have e:CA 5 g++(CA 10 a++CA 10 b)=(ya (.grp2 g a b)).map AV.int:=by
   show(am 5::nO g).map AV.int++((am 10::nO a).map AV.int++(am 10::nO b).map AV.int)=_
   rw[<- bj,<- bj];rfl
  rw[e]at h
  exact h
theorem ake(t:Tn):(ya t).length <=6:=by
 have h: ∀l:Lf,(nO l).length <=1:=fun l=>by unfold nO;cases l.c<;>exact av rfl
 cases t with
 |leaf l=>exact au (a9 (h l)) (by decide)
 |grp g a=>
  show(5::(nO g++10::nO a)).length <=6
  rw[bK,ao,bK]
  exact au (a9 (aK (h g) (a9 (h a)))) (by decide)
 |grp2 g a b=>
  show(5::(nO g++10::(nO a++10::nO b))).length <=6
  rw[bK,ao,bK,ao,bK]
  exact a9 (aK (h g) (a9 (aK (h a) (a9 (h b)))))
theorem KH{ts:List Tn}(h:ts.length<=8):(ts.flatMap ya).length <=48:=by
 have: ∀ts:List Tn,(ts.flatMap ya).length <=6*ts.length:=fun ts=>by
  induction ts with
  |nil=>exact ax _
  |cons t ts ih=>
   rw[aY,ao,bK,NP,lq]
   exact aK ih (ake t)
 exact au (this ts) (pH 6 h)
theorem aku{r:Rt}(h:r.ts.length<=8)(σ:AS):bt 6 [dZ r] σ=some (.ref σ.next,σ.alloc (.lst ((Al r).map AV.int))):=by
 have hr: ∃ks:List (AV×List AV),ks.map (·.1)=qE r/\ks.flatMap (·.2)=(Qa r.ren).map AV.int/\ks.length<=1/\ ∀k∈ks,bQ k.1=false/\ ∀σ,bt 5 [k.1] σ=some (.ref σ.next,σ.alloc (.lst k.2)):=by
  obtain⟨lv,it,ts,n⟩:=r
  cases n with
  |zero=>exact⟨[],rfl,rfl,aU _,fun _ h=>absurd h bb⟩
  |succ l=>exact⟨[(.frz b9 fT (j6 (17+jY 1 it) l .opq),[.int 66])],rfl,rfl,ax _,fun k hk=>(aO.mp hk)▸⟨rfl,fun σ=>aeP σ⟩⟩
 obtain⟨ks,r1,r2,r3,r4⟩:=hr
 have hf:(r.ts.map (fun t=>(sy t,(ya t).map AV.int))++ks).map (·.1)=Dt r.ts++qE r:=by
  rw[bj,r1,gB]
  refine congrArg (· ++qE r) ?_
  induction r.ts with
  |nil=>rfl
  |cons t ts ih=>exact congrArg (sy t:: ·) ih
 have hs:(r.ts.map (fun t=>(sy t,(ya t).map AV.int))++ks).flatMap (·.2)=(r.ts.flatMap ya++Qa r.ren).map AV.int:=by
  rw[kL,r2,bj]
  refine congrArg (· ++(Qa r.ren).map AV.int) ?_
  induction r.ts with
  |nil=>rfl
  |cons t ts ih=>
   show(ya t).map AV.int++(ts.map (fun t=>(sy t,(ya t).map AV.int))).flatMap (·.2)=(ya t++ts.flatMap ya).map AV.int
   rw[ih,bj]
 have hrn:(Qa r.ren).length <=1:=by cases r.ren<;>exact av rfl
 have q:=zz (n:=5) (lvl:=r.lvl) (l:=r.it) (ks:=r.ts.map (fun t=>(sy t,(ya t).map AV.int))++ks) (p:=.none) (by rw[hf,bV,ND,U3];rfl) rfl
  (fun k hk=>(cM.mp hk).elim (fun hk=>by
   obtain⟨t,_,rfl⟩:=dy.mp hk
   exact⟨by cases t<;>rfl,fun σ=>akv (n:=3) t σ⟩) (r4 k))
  (by rw[hs];exact CJ _)
  (by rw[hs,ao,aS,ao];exact au (aK (ua _ _) (aK (KH h) hrn)) (by decide))
  (by rw[ao,aS];exact au (aK h r3) (by decide)) σ
 have e:CA r.lvl r.it++(r.ts.flatMap ya++Qa r.ren).map AV.int=(Al r).map AV.int:=(bj ..).symm
 rw[hf,hs,e]at q
 exact q
def kB(σ ai:AS):Prop:=σ.next<=ai.next/\ ∀j c,j<σ.next->σ.get j=some c->ai.get j=some c
theorem kB.rfl'{σ:AS}:kB σ σ:=⟨ax _,fun _ _ _ h=>h⟩
theorem kB.trans{a b c:AS}(h:kB a b)(h':kB b c):kB a c:=⟨au h.1 h'.1,fun j x hj hx=>h'.2 j x (eV hj h.1) (h.2 j x hj hx)⟩
theorem kB.alloc{σ:AS}{d:bF}:kB σ (σ.alloc d):=⟨cJ _,fun _ _ hj hx=>dI hx hj⟩
theorem kB.adrop{σ:AS}{d:bF}:kB σ ((σ.alloc d).drop σ.next):=⟨cJ _,fun _ _ hj hx=>by rw[AS.get_drop,if_neg (ci hj)];exact dI hx hj⟩
theorem aeO{rs:List (AV×List AV)}{fr:Fm}: ∀{σ:AS},(∀p∈rs,bQ p.1=false/\(∀a∈p.2,bQ a=false)/\p.2.length<=4000000/\ ∀σ,bt 6 [p.1] σ=some (.ref σ.next,σ.alloc (.lst p.2)))->
  ∃ai,js 8 (bn (bt 6) (aw (al 8) aJ)) 9 (al 9) (rs.map (·.1)) fr σ=some (rs.flatMap (·.2),ai)/\kB σ ai:=by
 induction rs with
 |nil=>exact fun{σ} _=>⟨σ,rfl,kB.rfl'⟩
 |cons p rs ih=>
  intro σ h
  obtain⟨hu,hi,hk,hw⟩:=h p (ba ..)
  have e1:bn (bt 6) (aw (al 8) aJ) (put fr 8 p.1) σ=some (.ref σ.next,σ.alloc (.lst p.2)):=by
   simp only[d9,cp,cg,bd,cT,hu,ae,aX,hw]
  have e2:fu (σ.alloc (.lst p.2)) (.ref σ.next)=some (p.2,(σ.alloc (.lst p.2)).drop σ.next):=by
   show bu (ob ((σ.alloc (.lst p.2)).get σ.next) _) _=_
   rw[b7]
   show(bif dv p.2.length then some (p.2,(σ.alloc (.lst p.2)).drop σ.next)else none)=_
   rw[fN hk];rfl
  obtain⟨ai,e4,hK⟩:=ih (σ:=(σ.alloc (.lst p.2)).drop σ.next) fun q hq=>h q (aQ _ hq)
  refine⟨ai,?_,kB.adrop.trans hK⟩
  show bu (bn (bt 6) (aw (al 8) aJ) (put fr 8 p.1) σ) (fun s ai=>bu (fu ai s) fun l ay=>bu (eA [9] (fun _ σ=>some (true,σ)) (al 9) l (put fr 8 p.1) ay) fun bs fO=>bu (js 8 (bn (bt 6) (aw (al 8) aJ)) 9 (al 9) (rs.map (·.1)) fr fO) fun cs cF=>some (bs++cs,cF))=_
  rw[e1,aX,e2,aX,afD hi,aX,e4];rfl
noncomputable def M4(o:Option Rt):List (AV×List AV):=bm (motive:=fun _=>List (AV×List AV)) [] (fun r=>[(dZ r,(Al r).map AV.int)]) o
theorem Vf{o:Option Rt}(h: ∀r,o=some r->r.ts.length<=8):(M4 o).map (·.1)=jg o/\(M4 o).flatMap (·.2)=((o.map Al).getD []).map AV.int/\ ∀p∈M4 o,bQ p.1=false/\(∀a∈p.2,bQ a=false)/\p.2.length<=4000000/\ ∀σ,bt 6 [p.1] σ=some (.ref σ.next,σ.alloc (.lst p.2)):=by
 cases o with
 |none=>exact⟨rfl,rfl,fun _ h=>absurd h bb⟩
 |some r=>
  refine⟨rfl,aR _,fun p hp=> ?_⟩
  rw[aO.mp hp]
  refine⟨rfl,fun a ha=> ?_,?_,aku (h r rfl)⟩
  ·obtain⟨i,_,rfl⟩:=dy.mp ha
   rfl
  ·have hc:(nO r.it).length <=1:=by unfold nO;cases r.it.c<;>exact av rfl
   have hrn:(Qa r.ren).length <=1:=by cases r.ren<;>exact av rfl
   rw[aS]
   show(am r.lvl::(nO r.it++(r.ts.flatMap ya++Qa r.ren))).length <=4000000
   rw[bK,ao,ao]
   exact au (a9 (aK hc (aK (KH (h r rfl)) hrn))) (by decide)
theorem jd.fo{d:DS}(h:jd d): ∀r,d.f.map (·.2.2)=some r->r.ts.length<=8:=fun r e=>by
 cases q:d.f with
 |none=>rw[q]at e;exact nn e
 |some x=>
  rw[q]at e
  rw[<- aG e]
  exact(h.f x q).1.ts8
theorem Vz{d:DS}(h:jd d){fr:Fm}{σ:AS}(h3:gt fr 3= .lst (dY d)): ∃ai:AS,qA 8 (al 3) 9 (bn (bt 6) (aw (al 8) aJ)) (al 9) fr σ=some (.ref ai.next,ai.alloc (.lst ((Cm d).map AV.int)))/\kB σ ai:=by
 obtain⟨a1,a2,a3⟩:=Vf h.fo
 obtain⟨b1,b2,b3⟩:=Vf h.w.ts
 obtain⟨c1,c2,c3⟩:=Vf h.l.ts
 have m1:(((M4 (d.f.map (·.2.2))++M4 d.w)++M4 d.l)).map (·.1)=dY d:=by
  rw[bj,bj,a1,b1,c1];rfl
 have m2:(((M4 (d.f.map (·.2.2))++M4 d.w)++M4 d.l)).flatMap (·.2)=(Cm d).map AV.int:=by
  rw[kL,kL,a2,b2,c2,<- bj,<- bj,aB];rfl
 have all: ∀p∈(M4 (d.f.map (·.2.2))++M4 d.w)++M4 d.l,bQ p.1=false/\(∀a∈p.2,bQ a=false)/\p.2.length<=4000000/\ ∀σ,bt 6 [p.1] σ=some (.ref σ.next,σ.alloc (.lst p.2)):=fun p hp=>(cM.mp hp).elim (fun hp=>(cM.mp hp).elim (a3 p) (b3 p)) (c3 p)
 obtain⟨ai,e,hK⟩:=aeO (fr:=put fr 9 .unb) (σ:=σ) all
 rw[m1,m2]at e
 refine⟨ai,?_,hK⟩
 have e1:al 3 fr σ=some (.lst (dY d),σ):=by rw[bd,h3];rfl
 have hr:(dY d).length <=4000000:=by
  unfold dY fL
  rw[ao,ao]
  exact au (aK (aK (rb _) (rb _)) (rb _)) (by decide)
 have hl:(Cm d).length <=4000000:=by
  have ho: ∀o:Option Rt,(∀r,o=some r->r.ts.length<=8)->((o.map Al).getD []).length <=1000:=fun o h=>by
   cases o with
   |none=>exact aU _
   |some r=>
    have hc:(nO r.it).length <=1:=by unfold nO;cases r.it.c<;>exact av rfl
    have hrn:(Qa r.ren).length <=1:=by cases r.ren<;>exact av rfl
    show(am r.lvl::(nO r.it++(r.ts.flatMap ya++Qa r.ren))).length <=1000
    rw[bK,ao,ao]
    exact au (a9 (aK hc (aK (KH (h r rfl)) hrn))) (by decide)
  unfold Cm
  rw[ao,ao]
  exact au (aK (ho _ h.fo) (aK (ho _ h.w.ts) (ho _ h.l.ts))) (by decide)
 show bu (al 3 fr σ) (fun a ai=>bu (fu ai a) fun l ay=>bu (js 8 (bn (bt 6) (aw (al 8) aJ)) 9 (al 9) l (put fr 9 .unb) ay) fun vs aM=>bif dv vs.length then some (AV.ref aM.next,aM.alloc (.lst vs))else none)=_
 rw[e1,aX,NA hr,aX,e,aX,fN (by rw[aS];exact hl)];rfl
noncomputable def LY(h:ac)(o:Option Rt):List (List Nat):=bm (motive:=fun _=>List (List Nat)) [] (fun r=>[h,nP r.lvl]) o
noncomputable def UH(d:DS):List (List Nat):=bm (motive:=fun _=>List (List Nat)) [] (fun x=>[gO,kh x.2.1,nP x.2.2.lvl]) d.f
noncomputable def wI(d:DS):List (List Nat):=bif (dR d).isEmpty then[]else jA::((UH d++LY ms d.w)++LY pD d.l)
theorem Tw{a b:ac}{o:Option Rt}(h:J3 o):mz (fA (b6 a b) o)=(LY a o).map .str:=by
 cases o with
 |none=>rfl
 |some r=>
  show mz (b6 a b++ii r)=_
  rw[iT,Jz,Ys (h r rfl)];rfl
theorem akj{d:DS}(h:jd d):mz (gE d)=(wI d).map .str:=by
 have hf:mz (i7 d)=(UH d).map .str:=by
  obtain⟨f,w,l⟩:=d
  cases f with
  |none=>rfl
  |some x=>
   show mz (b6 gO cW++(b6 (kh x.2.1) (d8 x.1)++ii x.2.2))=_
   rw[iT,iT,Jz,Jz,Ys (h.f x rfl).1];rfl
 have hb:mz (dR d)=((UH d++LY ms d.w)++LY pD d.l).map .str:=by
  unfold dR
  rw[iT,iT,hf,Tw h.w,Tw h.l,<- bj,<- bj]
 unfold gE wI
 cases (dR d).isEmpty with
 |true=>rfl
 |false=>
  show mz (b6 jA uz++dR d)=_
  rw[iT,Jz,hb];rfl
noncomputable def hW(h:ac)(o:Option Rt):List (List Nat):=bm (motive:=fun _=>List (List Nat)) [] (fun _=>[h]) o
noncomputable def lW(o:Option Rt):List (List Nat):=bm (motive:=fun _=>List (List Nat)) [] (fun r=>[nP r.lvl]) o
noncomputable def fdW(d:DS):List (List Nat):=bm (motive:=fun _=>List (List Nat)) [] (fun x=>[kh x.2.1]) d.f
noncomputable def Aa(d:DS):List (List Nat):=((([jA]++hW gO (d.f.map (·.2.2)))++hW ms d.w)++hW pD d.l)++fdW d++((lW (d.f.map (·.2.2))++lW d.w)++lW d.l)
theorem aj3{d:DS}(h:jd d)(hb:(dR d).isEmpty=false):jK (wI d)=jK (Aa d):=by
 have lv: ∀r,n5 r->nP r.lvl=[48,49]\/nP r.lvl=[55,55]:=fun r h=>h.top.elim (fun e=>.inl (by rw[e];rfl)) fun e=>.inr (by rw[e];rfl)
 have e:wI d=jA::((UH d++LY ms d.w)++LY pD d.l):=by unfold wI;rw[hb];rfl
 rw[e]
 unfold Aa
 clear e hb
 obtain⟨hf,hw,hl⟩:=h
 obtain⟨f,w,l⟩:=d
 have kl: ∀{o:Option Rt},J3 o->o.map (fun r=>nP r.lvl)=none\/o.map (fun r=>nP r.lvl)=some [48,49]\/o.map (fun r=>nP r.lvl)=some [55,55]:=by
  intro o h
  cases o with
  |none=>exact .inl rfl
  |some r=>exact .inr ((lv r (h r rfl)).imp (congrArg some) (congrArg some))
 have e1: ∀(a:List Nat) (o:Option Rt),LY a o=bm (motive:=fun _=>List (List Nat)) [] (fun x=>[a,x]) (o.map fun r=>nP r.lvl):=fun a o=>by cases o<;>rfl
 have e2: ∀(a:List Nat) (o:Option Rt),hW a o=bm (motive:=fun _=>List (List Nat)) [] (fun _=>[a]) (o.map fun r=>nP r.lvl):=fun a o=>by cases o<;>rfl
 have e3: ∀(o:Option Rt),lW o=bm (motive:=fun _=>List (List Nat)) [] (fun x=>[x]) (o.map fun r=>nP r.lvl):=fun o=>by cases o<;>rfl
 have kf:(f=none)\/ ∃o s r,f=some (o,s,r)/\(nP r.lvl=[48,49]\/nP r.lvl=[55,55]):=by
  cases f with
  |none=>exact .inl rfl
  |some x=>exact .inr ⟨x.1,x.2.1,x.2.2,rfl,lv _ (hf x rfl).1⟩
 have kw:=kl hw
 have k3:=kl hl
 rw[e1,e1,e2 ms,e2 pD,e3 w,e3 l]
 revert kw k3
 generalize w.map (fun r=>nP r.lvl)=w'
 generalize l.map (fun r=>nP r.lvl)=l'
 intro kw k3
 rcases kf with rfl|⟨o,s,r,rfl,kr⟩
 ·rcases kw with rfl|rfl|rfl<;>rcases k3 with rfl|rfl|rfl<;>rfl
 ·show jK (jA::(([gO,kh s,nP r.lvl]++_)++_))=jK (((([jA]++[gO])++_)++_)++[kh s]++(([nP r.lvl]++_)++_))
  revert kr
  generalize nP r.lvl=x
  intro kr
  cases s<;>rcases kr with rfl|rfl<;>rcases kw with rfl|rfl|rfl<;>rcases k3 with rfl|rfl|rfl<;>rfl
def Yl(σ:AS)(e:EM)(fr:Fm)(l:aa):Prop:= ∃i ai,e fr σ=some (.ref i,ai)/\ai.get i=some (.lst l)/\i<ai.next/\kB σ ai
theorem akG{as:LM}{fr:Fm}{l:aa}{σ:AS}(h:as fr σ=some (l,σ))(hk:l.length<=4000000):Yl σ (bn cU as) fr l:=by
 refine⟨σ.next,σ.alloc (.lst l),?_,b7,bL _,kB.alloc⟩
 rw[d9,h,aX]
 show(bif dv l.length then some (AV.ref σ.next,σ.alloc (.lst l))else none)=_
 rw[fN hk];rfl
theorem amv{i j:Nat}{fr:Fm}{σ:AS}{l:aa}(h:gt fr i= .ref j)(g:σ.get j=some (.lst l))(hj:j<σ.next):Yl σ (al i) fr l:=⟨j,σ,by rw[bd,h];rfl,g,hj,kB.rfl'⟩
theorem JC{a b:EM}{fr:Fm}{l m:aa}{σ:AS}(ha:Yl σ a fr l)(hb: ∀ai,kB σ ai->Yl ai b fr m)(hk:l.length+m.length<=4000000):Yl σ (bi (bT .Add) a b) fr (l++m):=by
 obtain⟨i,gv,e1,g1,l1,k1⟩:=ha
 obtain⟨j,gT,e2,g2,l2,k2⟩:=hb gv k1
 refine⟨gT.next,gT.alloc (.lst (l++m)),?_,b7,bL _,k1.trans (k2.trans kB.alloc)⟩
 rw[jB,e1,aX,e2,aX,Ip (k2.2 _ _ l1 g1) g2 hk]
theorem aaU{c:BM}{a b:EM}{fr:Fm}{t:Bool}{l m:aa}{σ:AS}(hc: ∃ai,c fr σ=some (t,ai)/\kB σ ai)(ha: ∀σ,Yl σ a fr l)(hb: ∀σ,Yl σ b fr m):Yl σ (sY c a b) fr (bif t then l else m):=by
 obtain⟨gv,e1,k1⟩:=hc
 cases t with
 |true=>
  obtain⟨i,gT,e2,g,l2,k2⟩:=ha gv
  exact⟨i,gT,by rw[wt,e1,aX];exact e2,g,l2,k1.trans k2⟩
 |false=>
  obtain⟨i,gT,e2,g,l2,k2⟩:=hb gv
  exact⟨i,gT,by rw[wt,e1,aX];exact e2,g,l2,k1.trans k2⟩
theorem Yw{i:Nat}{it elt:EM}{fr:Fm}{ps:List (AV×AV)}{σ:AS}{a:AV}(e1:it fr σ=some (a,σ))(e2:fu σ a=some (ps.map (·.1),σ))(hl:ps.length<=4000000)(h: ∀p∈ps,∀σ,elt (put fr i p.1) σ=some (p.2,σ)):
  Yl σ (eI [i] it (fun _ σ=>some (true,σ)) elt) fr (ps.map (·.2)):=by
 refine⟨σ.next,σ.alloc (.lst (ps.map (·.2))),?_,b7,bL _,kB.alloc⟩
 show bu (it fr σ) (fun x ai=>bu (fu ai x) fun l ay=>bu (eA [i] (fun _ σ=>some (true,σ)) elt l fr ay) fun vs aM=>bif dv vs.length then some (AV.ref aM.next,aM.alloc (.lst vs))else none)=_
 rw[e1,aX,e2,aX,GZ (i:=i) (elt:=elt) (fr:=fr) (ps:=ps) (σ:=σ) h,aX,fN (by rw[aS];exact hl)];rfl
theorem aeF{l:List (List Nat)}:nE (l.map AV.str)=some l:=by
 induction l with
 |nil=>rfl
 |cons a l ih=>
  show ob (nE (l.map AV.str)) (fun l=>some (a::l))=_
  rw[ih];rfl
theorem srt{σ:AS}{i:Nat}{l:List (List Nat)}(h:σ.get i=some (.lst (l.map AV.str)))(hk:l.length<64):pW [.ref i] σ=some (.ref σ.next,σ.alloc (.lst ((jK l).map .str))):=by
 have h1:iJ σ (.ref i)=some (l.map AV.str):=jf h
 show ob (iJ σ (.ref i)) (fun l=>ob (nE l) fun ss=>bif bp ss.length 64 then some (AV.ref σ.next,σ.alloc (.lst ((jK ss).map .str)))else none)=_
 rw[h1,bZ,aeF,bZ,GV hk];rfl
theorem acW{n:Nat}{l:aa}(h: ∀a∈l,wo n a a=some true):Ku (wo n) l l=some true:=by
 induction l with
 |nil=>rfl
 |cons a l ih=>
  show ob (wo n a a) _=_
  rw[h a (ba ..),bZ]
  rw[ih fun b hb=>h b (aQ _ hb)];rfl
theorem abm{σ:AS}{i j:Nat}{l:aa}(hi:σ.get i=some (.lst l))(hj:σ.get j=some (.lst l))(h: ∀a∈l,wo 16 a a=some true):eqA σ (.ref i) (.ref j)=some true:=by
 have h1:iJ σ (.ref i)=some l:=jf hi
 have h2:iJ σ (.ref j)=some l:=jf hj
 show od (iJ σ (.ref i)) (fun l=>ob (iJ σ (.ref j)) fun m=>bif re l m then Ku (wo 16) l m else some false) _=_
 rw[h1,amV,h2,bZ,show re l l=true from NO _]
 exact acW h
theorem ae4(s:ac):wo 16 (.str s) (.str s)=some true:=by
 show some (dp s s)=_
 rw[Pj]
theorem c26{d:DS}{fr:Fm}{σ:AS}(h0:gt fr 0=bC d): ∃ai,fh (bU .NotEq) (un (aA 26) (al 0)) FA fr σ=some (d.f.isSome,ai)/\kB σ ai:=by
 refine⟨σ.alloc (.dct [] []),?_,kB.alloc⟩
 have hu:bQ (bC d)=false:=rfl
 have a26: ∀σ,aA 26 (bC d) σ=some (.dct (Ru d) (Pl d)):=fun _=>rfl
 have ed:FA fr σ=some (.ref σ.next,σ.alloc (.dct [] [])):=rfl
 have h1:O6 (σ.alloc (.dct [] [])) (.ref σ.next)=some []:=(show ob ((σ.alloc (.dct [] [])).get σ.next) _=_ by rw[b7];rfl)
 have ne:bU .NotEq (.dct (Ru d) (Pl d)) (.ref σ.next) (σ.alloc (.dct [] []))=some d.f.isSome:=by
  show ob (ob (O6 (σ.alloc (.dct [] [])) (.ref σ.next)) fun ks'=>bif ks'.isEmpty then some (Ru d).isEmpty else none) (fun b=>some !b)=_
  rw[h1]
  obtain⟨f,w,l⟩:=d
  cases f<;>rfl
 simp only[ft,fV,bd,h0,hu,ae,aX,a26,bZ,ed,ne]
theorem amH{d:DS}{k:Nat}{o:Option Rt}{fr:Fm}{σ:AS}(h0:gt fr 0=bC d)(ak: ∀σ,aA k (bC d) σ=some (.lst (jg o))): ∃ai,fh (bU .NotEq) (un (aA k) (al 0)) (bn cU aJ) fr σ=some (o.isSome,ai)/\kB σ ai:=by
 refine⟨σ.alloc (.lst []),?_,kB.alloc⟩
 have hu:bQ (bC d)=false:=rfl
 have ne:bU .NotEq (.lst (jg o)) (.ref σ.next) (σ.alloc (.lst []))=some o.isSome:=by
  show S6 (bU .Eq (.lst (jg o)) (.ref σ.next) (σ.alloc (.lst [])))=_
  rw[IC b7]
  cases o<;>rfl
 simp only[ft,fV,bd,h0,hu,ae,aX,ak,bZ,d9,cg,o7,ne]
noncomputable def Zy:EM:=bi (bT .Add) (bi (bT .Add) (bi (bT .Add) (bn cU (aw (a6 (.str [68,65,84,65])) aJ)) (sY (fh (bU .NotEq) (un (aA 26) (al 0)) FA) (bn cU (aw (a6 (.str [70,73,76,69])) aJ)) (bn cU aJ))) (sY (fh (bU .NotEq) (un (aA 24) (al 0)) (bn cU aJ)) (bn cU (aw (a6 (.str [87,79,82,75,73,78,71,45,83,84,79,82,65,71,69])) aJ)) (bn cU aJ))) (sY (fh (bU .NotEq) (un (aA 25) (al 0)) (bn cU aJ)) (bn cU (aw (a6 (.str [76,73,78,75,65,71,69])) aJ)) (bn cU aJ))
noncomputable def Kw(d:DS):List (List Nat):=(([jA]++hW gO (d.f.map (·.2.2)))++hW ms d.w)++hW pD d.l
theorem ZB{d:DS}{fr:Fm}{σ:AS}(h0:gt fr 0=bC d):Yl σ Zy fr ((Kw d).map .str):=by
 have m0: ∀σ,Yl σ (bn cU aJ) fr []:=fun σ=>akG rfl (aU _)
 have m1: ∀s σ,Yl σ (bn cU (aw (a6 (.str s)) aJ)) fr [.str s]:=fun s σ=>akG rfl (av rfl)
 have le: ∀(t:Bool) (s:List Nat),(bif t then[AV.str s]else[]).length <=1:=fun t s=>by cases t<;>exact av rfl
 have y1:=JC (m1 [68,65,84,65] σ) (fun ai _=>aaU (c26 (σ:=ai) h0) (m1 [70,73,76,69]) m0) (au (dq (le _ _) 1) (by decide))
 have y2:=JC y1 (fun ai _=>aaU (amH (k:=24) (o:=d.w) (σ:=ai) h0 fun _=>rfl) (m1 [87,79,82,75,73,78,71,45,83,84,79,82,65,71,69]) m0) (by rw[ao];exact au (aK (dq (le _ _) 1) (le _ _)) (by decide))
 have y3:=JC y2 (fun ai _=>aaU (amH (k:=25) (o:=d.l) (σ:=ai) h0 fun _=>rfl) (m1 [76,73,78,75,65,71,69]) m0) (by rw[ao,ao];exact au (aK (aK (dq (le _ _) 1) (le _ _)) (le _ _)) (by decide))
 have e:(Kw d).map AV.str=(([AV.str [68,65,84,65]]++bif d.f.isSome then[AV.str [70,73,76,69]]else[])++bif d.w.isSome then[AV.str [87,79,82,75,73,78,71,45,83,84,79,82,65,71,69]]else[])++bif d.l.isSome then[AV.str [76,73,78,75,65,71,69]]else[]:=by
  obtain⟨f,w,l⟩:=d
  cases f<;>cases w<;>cases l<;>rfl
 rw[e];exact y3
noncomputable def fdE:EM:=eI [12] (un (aA 26) (al 0)) (fun _ σ=>some (true,σ)) (sY (fh (bU .In) (al 12) (un (aA 27) (al 0))) (a6 (.str [83,68])) (a6 (.str [70,68])))
noncomputable def ZW:EM:=eI [13] (al 3) (fun _ σ=>some (true,σ)) (bi fM (bn (Hg [1,77]) (aw (a6 (.str [48,49])) (aw (a6 (.str [55,55])) aJ))) (un (aA 20) (al 13)))
noncomputable def amK(d:DS):List (AV×AV):=bm (motive:=fun _=>List (AV×AV)) [] (fun x=>[(.str (d8 x.1),.str (kh x.2.1))]) d.f
noncomputable def ZX(o:Option Rt):List (AV×AV):=bm (motive:=fun _=>List (AV×AV)) [] (fun r=>[(dZ r,.str (nP r.lvl))]) o
noncomputable def SX(d:DS):List (AV×AV):=(ZX (d.f.map (·.2.2))++ZX d.w)++ZX d.l
theorem ak1{d:DS}{fr:Fm}{σ:AS}(h0:gt fr 0=bC d):Yl σ fdE fr ((fdW d).map .str):=by
 have hu:bQ (bC d)=false:=rfl
 obtain⟨f,w,l⟩:=d
 have a26: ∀σ,aA 26 (bC ⟨f,w,l⟩) σ=some (.dct (Ru ⟨f,w,l⟩) (Pl ⟨f,w,l⟩)):=fun _=>rfl
 have e1:un (aA 26) (al 0) fr σ=some (.dct (Ru ⟨f,w,l⟩) (Pl ⟨f,w,l⟩),σ):=by simp only[fV,bd,h0,hu,ae,aX,a26,bZ]
 have e2:fu σ (.dct (Ru ⟨f,w,l⟩) (Pl ⟨f,w,l⟩))=some ((amK ⟨f,w,l⟩).map (·.1),σ):=by cases f<;>rfl
 have e3:(fdW ⟨f,w,l⟩).map AV.str=(amK ⟨f,w,l⟩).map (·.2):=by cases f<;>rfl
 rw[e3]
 refine Yw e1 e2 (by cases f<;>exact av rfl) ?_
 cases f with
 |none=>exact fun _ h=>absurd h bb
 |some x=>
  obtain⟨o,s,r⟩:=x
  intro p hp σ
  rw[show p=(.str (d8 o),.str (kh s)) from aO.mp hp]
  have g0:gt (put fr 12 (.str (d8 o))) 0=bC ⟨some (o,s,r),w,l⟩:=(fF rfl).trans h0
  have a27: ∀σ,aA 27 (bC ⟨some (o,s,r),w,l⟩) σ=some (.lst (bif s then[.str (d8 o)]else[])):=fun _=>rfl
  simp only[wt,ft,fV,bd,g0,cT,hu,mP,ae,aX,a27,bZ,ZJ,dU]
  cases s<;>rfl
theorem ZY(o:Option Rt):(ZX o).map (·.1)=jg o/\(ZX o).map (·.2)=(lW o).map AV.str/\(ZX o).length <=1:=by
 cases o with
 |none=>exact⟨rfl,rfl,aU _⟩
 |some r=>exact⟨rfl,rfl,ax _⟩
theorem jd.fok{d:DS}(h:jd d):J3 (d.f.map (·.2.2)):=fun r e=>by
 cases q:d.f with
 |none=>rw[q]at e;exact nn e
 |some x=>
  rw[q]at e
  rw[<- aG e]
  exact(h.f x q).1
theorem UX{o:Option Rt}(h:J3 o){fr:Fm}: ∀p∈ZX o,∀σ,bi fM (bn (Hg [1,77]) (aw (a6 (.str [48,49])) (aw (a6 (.str [55,55])) aJ))) (un (aA 20) (al 13)) (put fr 13 p.1) σ=some (p.2,σ):=by
 cases o with
 |none=>exact fun _ h=>absurd h bb
 |some r=>
  intro p hp σ
  rw[show p=(dZ r,.str (nP r.lvl)) from aO.mp hp]
  have hu:bQ (dZ r)=false:=rfl
  have a20: ∀σ,aA 20 (dZ r) σ=some (.int (am r.lvl)):=fun _=>rfl
  have md: ∀a b σ,Hg [1,77] [a,b] σ=some (.dcti [1,77] [a,b],σ):=fun _ _ _=>rfl
  have ix: ∀σ,fM (.dcti [1,77] [.str [48,49],.str [55,55]]) (.int (am r.lvl)) σ=some (.str (nP r.lvl),σ):=fun σ=>by
   rcases(h r rfl).top with e|e<;>rw[e]<;>rfl
  simp only[jB,d9,cp,cg,dU,aX,md,fV,bd,cT,hu,ae,a20,bZ,ix]
theorem alD{d:DS}(h:jd d){fr:Fm}{σ:AS}(h3:gt fr 3= .lst (dY d)):Yl σ ZW fr (((lW (d.f.map (·.2.2))++lW d.w)++lW d.l).map .str):=by
 obtain⟨a1,a2,a3⟩:=ZY (d.f.map (·.2.2))
 obtain⟨b1,b2,b3⟩:=ZY d.w
 obtain⟨c1,c2,c3⟩:=ZY d.l
 have m1:(SX d).map (·.1)=dY d:=by unfold SX;rw[bj,bj,a1,b1,c1];rfl
 have m2:((lW (d.f.map (·.2.2))++lW d.w)++lW d.l).map AV.str=(SX d).map (·.2):=by unfold SX;rw[bj,bj,bj,bj,a2,b2,c2]
 have hk:(SX d).length <=4000000:=by
  unfold SX;rw[ao,ao];exact au (aK (aK a3 b3) c3) (by decide)
 have e1:al 3 fr σ=some (.lst (dY d),σ):=by rw[bd,h3];rfl
 rw[m2]
 refine Yw e1 (by rw[m1];refine NA ?_;rw[<- m1,aS];exact hk) hk ?_
 exact fun p hp=>(cM.mp hp).elim (fun hp=>(cM.mp hp).elim (UX h.fok p) (UX h.w p)) (UX h.l p)
theorem abx(d:DS):(Aa d).map AV.str=((Kw d).map .str++(fdW d).map .str)++((lW (d.f.map (·.2.2))++lW d.w)++lW d.l).map .str:=by
 unfold Aa Kw
 rw[bj,bj]
theorem ang(d:DS):(Kw d).length <=4/\(fdW d).length <=1/\((lW (d.f.map (·.2.2))++lW d.w)++lW d.l).length <=3/\(wI d).length <=8:=by
 obtain⟨f,w,l⟩:=d
 refine⟨?_,?_,?_,?_⟩
 ·cases f<;>cases w<;>cases l<;>exact av rfl
 ·cases f<;>exact av rfl
 ·cases f<;>cases w<;>cases l<;>exact av rfl
 ·unfold wI
  cases (dR ⟨f,w,l⟩).isEmpty
  ·cases f<;>cases w<;>cases l<;>exact av rfl
  ·exact aU _
noncomputable def aj4:BM:=fh (bU .NotEq) (bn pW (aw (al 5) aJ)) (bn pW (aw (bi (bT .Add) (bi (bT .Add) (al 4) fdE) ZW) aJ))
theorem aj5{d:DS}(h:jd d)(hb:(dR d).isEmpty=false){fr:Fm}{σ:AS}{i j:Nat}(h0:gt fr 0=bC d)(h3:gt fr 3= .lst (dY d))(h4:gt fr 4= .ref i)(h5:gt fr 5= .ref j)
  (gi:σ.get i=some (.lst ((Kw d).map .str)))(li:i<σ.next)(gj:σ.get j=some (.lst ((wI d).map .str))): ∃ai,aj4 fr σ=some (false,ai):=by
 obtain⟨k1,k2,k3,k4⟩:=ang d
 have s1:=srt gj (eU k4 (by decide))
 have y1:Yl (σ.alloc (.lst ((jK (wI d)).map .str))) (bi (bT .Add) (bi (bT .Add) (al 4) fdE) ZW) fr ((Aa d).map .str):=by
  rw[abx]
  refine JC (JC (amv h4 (dI gi li) (cG li)) (fun ai _=>ak1 h0) ?_) (fun ai _=>alD h h3) ?_
  ·rw[aS,aS];exact au (aK k1 k2) (by decide)
  ·rw[ao,aS,aS,aS];exact au (aK (aK k1 k2) k3) (by decide)
 obtain⟨x,gT,e2,g2,l2,K2⟩:=y1
 have kx:(Aa d).length <64:=by
  have:((Aa d).map AV.str).length=(Aa d).length:=aS ..
  rw[<- this,abx,ao,ao,aS,aS,aS]
  exact eU (aK (aK k1 k2) k3) (by decide)
 have s2:=srt g2 kx
 have gf:(gT.alloc (.lst ((jK (Aa d)).map .str))).get σ.next=some (.lst ((jK (Aa d)).map .str)):=by
  have h6:=K2.2 σ.next _ (bL _) b7
  rw[aj3 h hb]at h6
  exact dI h6 (eV (bL _) K2.1)
 have cm:bU .NotEq (.ref σ.next) (.ref gT.next) (gT.alloc (.lst ((jK (Aa d)).map .str)))=some false:=by
  show ob (eqA _ (.ref σ.next) (.ref gT.next)) (fun b=>some (!b))=_
  rw[abm gf b7 fun a ha=>by
   obtain⟨s,_,rfl⟩:=dy.mp ha
   exact ae4 s]
  rfl
 refine⟨gT.alloc (.lst ((jK (Aa d)).map .str)),?_⟩
 unfold aj4
 simp only[ft,d9,cp,cg,bd,h5,fc,ae,aX,s1,e2,s2,cm,bZ]
noncomputable def aki:EM:=eI [14] (al 1) (ja (un (aA 28) (al 14))) (un (aA 1) (al 14))
noncomputable def amL:EM:=eI [11] (bn lx (aw (bn eN (aw (al 1) aJ)) aJ)) sZ (bi fM (al 1) (al 11))
noncomputable def amR:EM:=eI [10] (al 6) (fh (bU .Eq) (un (aA 2) (al 10)) (a6 (.str [110,117,109,98,101,114]))) (bn tI (aw (un (aA 1) (al 10)) aJ))
noncomputable def akt:EM:=qA 8 (al 3) 9 (bn (bt 6) (aw (al 8) aJ)) (al 9)
noncomputable def Pe:SM:=rV (fh (bU .Eq) (al 3) (bn cU aJ)) (aV (eC (rI (fh (bU .Eq) (al 1) (bn cU aJ)))) bh) bh
noncomputable def aaF:SM:=aV (cK [4] Zy) (aV (cK [5] aki) (aV (rV aj4 (aV (fun _ _=>none) bh) bh) (aV (cK [6] amL) (aV (cK [7] amR) (aV (eC (rI (fh (bU .Eq) (al 7) akt))) bh)))))
theorem am3{a b r:SM}{fr fr':Fm}{σ ai:AS}(h:aV a b fr σ=some (.next fr' ai)):aV a (aV b r) fr σ=r fr' ai:=by
 have h:ob (a fr σ) (gN b)=_:=h
 show ob (a fr σ) (gN (aV b r))=_
 revert h
 cases a fr σ with
 |none=>exact fun h=>nn h
 |some o=>
  cases o with
  |next f s=>
   intro h
   have h:b f s=_:=h
   show ob (b f s) (gN r)=_
   rw[h];rfl
  |ret x s=>exact fun h=>jZ.noConfusion (aG h)
  |brk x s=>exact fun h=>jZ.noConfusion (aG h)
  |cont x s=>exact fun h=>jZ.noConfusion (aG h)
theorem aqb{a b c r:SM}{fr fr':Fm}{σ ai:AS}(h:aV a (aV b c) fr σ=some (.next fr' ai)):aV a (aV b (aV c r)) fr σ=r fr' ai:=by
 have e:aV a (aV b (aV c r)) fr σ=aV a (aV (aV b c) r) fr σ:=by
  show ob (a fr σ) (gN (aV b (aV c r)))=ob (a fr σ) (gN (aV (aV b c) r))
  refine congrArg (ob (a fr σ)) (funext fun o=> ?_)
  cases o with
  |next f s=>
   show ob (b f s) (gN (aV c r))=ob (ob (b f s) (gN c)) (gN r)
   cases b f s with
   |none=>rfl
   |some o=>cases o<;>rfl
  |ret x s=>rfl
  |brk x s=>rfl
  |cont x s=>rfl
 rw[e];exact am3 h
theorem aiX(d:DS):(dY d).isEmpty=(dR d).isEmpty:=by
 obtain⟨f,w,l⟩:=d
 cases f<;>cases w<;>cases l<;>rfl
theorem aeG{d:DS}(h:jd d)(hb:(dR d).isEmpty=false){x:Nat}(σ:AS): ∃ai,aaF [bC d,.lst (gE d),.ref x,.lst (dY d)] σ=some (.ret (.bool true) ai):=by
 have hk:(gE d).length <=99999:=au (WV h) (by decide)
 obtain⟨i,gv,e1,g1,l1,-⟩:=ZB (d:=d) (fr:=[bC d,.lst (gE d),.ref x,.lst (dY d)]) (σ:=σ) rfl
 have e2:=aaK (aaH (d:=d)) (au hk (by decide)) (fr:=[bC d,.lst (gE d),.ref x,.lst (dY d),.ref i]) (σ:=gv) rfl
 rw[akj h]at e2
 obtain⟨qo,e3⟩:=aj5 h hb (fr:=[bC d,.lst (gE d),.ref x,.lst (dY d),.ref i,.ref gv.next]) (σ:=gv.alloc (.lst ((wI d).map .str))) rfl rfl rfl rfl (dI g1 l1) (cG l1) b7
 have e4:=UI (aaH (d:=d)) hk (fr:=[bC d,.lst (gE d),.ref x,.lst (dY d),.ref i,.ref gv.next]) (σ:=qo) rfl
 obtain⟨gd,lv⟩:=ant h
 have hf:(jT true (gE d)).length <=4000000:=by
  have fl: ∀(T:List AV) (p:Bool),(jT p T).length <=T.length:=fun T=>by
   induction T with
   |nil=>exact fun _=>ax _
   |cons t T ih=>
    intro p
    cases p with
    |true=>exact a9 (ih _)
    |false=>exact mG (ih _)
  exact au (fl _ _) (au hk (by decide))
 have e5:=UU (aaH (d:=d)) gd (fr:=[bC d,.lst (gE d),.ref x,.lst (dY d),.ref i,.ref gv.next,.ref qo.next]) (σ:=qo.alloc (.lst (jT true (gE d)))) rfl b7 hf
 rw[lv]at e5
 generalize aqp:(qo.alloc (.lst (jT true (gE d)))).drop qo.next=VG at e5
 obtain⟨Yy,e6,K6⟩:=Vz h (fr:=[bC d,.lst (gE d),.ref x,.lst (dY d),.ref i,.ref gv.next,.ref qo.next,.ref VG.next]) (σ:=VG.alloc (.lst ((Cm d).map AV.int))) rfl
 have g7:=K6.2 VG.next _ (bL _) b7
 have e7:bU .Eq (.ref VG.next) (.ref Yy.next) (Yy.alloc (.lst ((Cm d).map AV.int)))=some true:=by
  show eqA _ (.ref VG.next) (.ref Yy.next)=_
  refine abm (dI g7 (eV (bL _) K6.1)) b7 fun a ha=> ?_
  obtain⟨n,_,rfl⟩:=dy.mp ha
  exact Sv (a:=.int n) rfl
 have e1:Zy [bC d,.lst (gE d),.ref x,.lst (dY d)] σ=_:=e1
 have e2:aki [bC d,.lst (gE d),.ref x,.lst (dY d),.ref i] gv=_:=e2
 have e4:amL [bC d,.lst (gE d),.ref x,.lst (dY d),.ref i,.ref gv.next] qo=_:=e4
 have e5:amR [bC d,.lst (gE d),.ref x,.lst (dY d),.ref i,.ref gv.next,.ref qo.next] (qo.alloc (.lst (jT true (gE d))))=_:=e5
 have e6:akt [bC d,.lst (gE d),.ref x,.lst (dY d),.ref i,.ref gv.next,.ref qo.next,.ref VG.next] (VG.alloc (.lst ((Cm d).map AV.int)))=_:=e6
 refine⟨Yy.alloc (.lst ((Cm d).map AV.int)),?_⟩
 unfold aaF
 simp only[c9,fy,e1,e2,e3,e4,e5,e6,e7,aX,bZ,dz,dB,si,sj,putN,jW,ae,fz,d6,wx,ft,bd,o0,kC,fc]
theorem LN{d:DS}(h:jd d){lab:List AV->List AV}(hl:lab (gE d)=Pb d)(σ:AS): ∃ai,bf 1 [] (gk lab) [bC d] σ=some (.bool true,ai):=by
 obtain⟨gv,x,e1⟩:=alY h hl σ
 obtain⟨gT,e2⟩:=alZ (d:=d) (T:=.lst (gE d)) (x:=x) gv rfl
 have body: ∃ai,gk lab [bC d] σ=some (.ret (.bool true) ai):=by
  have q1:gk lab [bC d] σ=aV (cK [3] (bi (bT .Add) (bi (bT .Add) (qA 15 (un (aA 26) (al 0)) 16 (bi fM (un (aA 26) (al 0)) (al 15)) (al 16)) (un (aA 24) (al 0))) (un (aA 25) (al 0)))) (aV (Qg 3) (aV Pe aaF)) [bC d,.lst (gE d),.ref x] gv:=aqb e1
  rw[q1,am3 e2]
  have ee:fh (bU .Eq) (al 3) (bn cU aJ) [bC d,.lst (gE d),.ref x,.lst (dY d)] gT=some ((dR d).isEmpty,gT.alloc (.lst [])):=by
   have hu:bQ (.lst (dY d))=false:=rfl
   simp only[ft,bd,o0,kC,hu,ae,aX,d9,cg,o7,IC (σ:=gT.alloc (.lst [])) (l:=dY d) b7,bZ,aiX]
  cases z:(dR d).isEmpty with
  |true=>
   have hT:gE d=[]:=by unfold gE;rw[z];rfl
   have hu:bQ (.lst (gE d))=false:=rfl
   have e9:fh (bU .Eq) (al 1) (bn cU aJ) [bC d,.lst (gE d),.ref x,.lst (dY d)] (gT.alloc (.lst []))=some (true,(gT.alloc (.lst [])).alloc (.lst [])):=by
    simp only[ft,bd,o0,kC,hu,ae,aX,d9,cg,o7,IC (σ:=(gT.alloc (.lst [])).alloc (.lst [])) (l:=gE d) b7,bZ]
    rw[hT];rfl
   rw[z]at ee
   refine⟨(gT.alloc (.lst [])).alloc (.lst []),?_⟩
   unfold Pe
   simp only[c9,jW,ee,aX,af,d6,wx,e9,bZ,dB]
  |false=>
   rw[z]at ee
   obtain⟨ai,e⟩:=aeG (x:=x) h z (gT.alloc (.lst []))
   refine⟨ai,?_⟩
   unfold Pe
   simp only[c9,jW,ee,aX,ae,fz,bZ,dz,e]
 obtain⟨ai,e⟩:=body
 refine⟨ai,?_⟩
 show ob (gk lab [bC d] σ) ig=_
 rw[e];rfl
theorem ZU{d:DS}(h:jd d){lab:List AV->List AV}(hl:lab (gE d)=Pb d)(σ:AS): ∃ai,eD lab [bC d] σ=some (.bool true,ai):=by
 have e:eD lab [bC d] σ=bf 1 [] (gk lab) [bC d] σ:=by
  show pr (pL (jD 14) [bC d] σ) (fun args' ai=>bf 1 [] (gk lab) args' ai)=_
  rw[show pL (jD 14) [bC d] σ=([bC d],σ) from PN KF];rfl
 rw[e];exact LN h hl σ
noncomputable def XZ(n lvl:Nat)(code:ac):AV:=.frz b9 fT (.int (am n)::C9 (A5 (lvl::code)))
noncomputable def mY(n lv lvl:Nat)(code:ac)(z:aa):AV:=.frz 0 (9::n::lv::lvl::code) z
noncomputable def drO(L:aa):Option (AV×Nat×List AV):=bu (qt [.ref 0] ⟨1,[(0,.orc 0 L)]⟩) fun a σ=>sh σ 0 fun k l=>some (a,k,l)
noncomputable def drF(a b:Nat)(c:ac)(z:aa)(f:Option (Bool×Bool)):List AV:=bm (motive:=fun _=>List AV) [m2 3 1] (fun x=>[m2 3 (bif x.1 then 2 else 0),mY (bif x.1 then 1 else 0) a b c z,m2 2 (bif x.2 then 0 else 1)]) f
noncomputable def drW(a b:Nat)(c:ac)(z:aa)(w:Option Bool):List AV:=bm (motive:=fun _=>List AV) [m2 3 2] (fun v=>[m2 3 (bif v then 1 else 0),mY (bif v then 3 else 2) a b c z]) w
noncomputable def XO{α β:Type}(o:Option α)(f:α->List β):List β:=bm (motive:=fun _=>List β) [] f o
theorem drX(a b:Nat)(c:ac)(z:aa)(a' b':Nat)(c':ac)(z':aa)(a'' b'':Nat)(c'':ac)(z'':aa)(f:Option (Bool×Bool))(w:Option Bool)(k:Bool):
  drO (drF a b c z f++(drW a' b' c' z' w++[mY 4 a'' b'' c'' z'',m2 2 (bif k then 0 else 1)]))=some (Ec (XO w fun _=>[XZ a' b' c']) (bif k then[]else[XZ a'' b'' c'']) (XO f fun x=>[d8 x.1]) (XO f fun _=>[.lst [XZ 1 b c]]) (XO f fun x=>bif x.2 then[.str (d8 x.1)]else[]),0,[]):=by
 rcases f with _|⟨_|_,_|_⟩<;>rcases w with _|_|_<;>cases k<;>kernel_rfl
noncomputable def Zm:FD->Option (Bool×Bool×Rt)
 | .none=>none
 | .one o rd s=>some (o,Cz s,jw (fnI o) rd)
noncomputable def dsW:WD->Option Rt
 | .none=>none
 | .one v rd=>some (jw (wnI v) rd)
noncomputable def afQ(x:DD):DS:=⟨Zm x.f,dsW x.w,bif Cz x.k then none else some (jw 4 x.l)⟩
def Tc(rd:RD):Prop:=FJ rd/\TA rd<5
theorem I9(b:Int):Tc (A6 b).1:=by
 refine⟨(KM (b:=b) (r:=[]) trivial).2,?_⟩
 unfold A6
 cases gX 4 b with
 |zero=>exact gW _
 |succ a=>
  show TA (match sx (gX 3 (bO 4 (bO 5 (bO 4 b)))) (bO 3 (bO 4 (bO 5 (bO 4 b))))with
   |(ts,b')=>_:RD×Int).1<5
  obtain⟨ts,b'⟩:=sx (gX 3 (bO 4 (bO 5 (bO 4 b)))) (bO 3 (bO 4 (bO 5 (bO 4 b))))
  show TA (match gX 4 b' with
   |0=>(RD.recR a (gX 5 (bO 4 b)) (gX 4 (bO 5 (bO 4 b))) ts (gX 2 (bO 4 b')),bO 2 (bO 4 b'))
   |q+1=>(RD.std a (gX 5 (bO 4 b)) (gX 4 (bO 5 (bO 4 b))) ts q,bO 4 b')).1<5
  cases gX 4 b'<;>exact mf (by decide) _
structure aeR(x:DD):Prop where
 f: ∀o rd s,x.f= .one o rd s->Tc rd/\s<2
 w: ∀v rd,x.w= .one v rd->Tc rd
 l:Tc x.l
 k:x.k<2
theorem Nw{o o2:Bool}{a a2:RD}{s s2:Nat}(h:FD.one o a s=FD.one o2 a2 s2):a=a2/\s=s2:=by cases h;exact⟨rfl,rfl⟩
theorem acg{o o2:Bool}{a a2:RD}(h:WD.one o a=WD.one o2 a2):a=a2:=by cases h;rfl
theorem abo(b:Int):aeR (O8 b):=by
 refine⟨fun o rd s h=> ?_,fun v rd h=> ?_,I9 _,mf (by decide) _⟩
 ·have h:(ID b).1= .one o rd s:=h
  unfold ID at h
  revert h
  cases gX 3 b with
  |zero=>exact fun h=>(Nw h).1▸(Nw h).2▸⟨I9 _,mf (by decide) _⟩
  |succ n=>cases n with
   |zero=>exact fun h=>FD.noConfusion h
   |succ n=>exact fun h=>(Nw h).1▸(Nw h).2▸⟨I9 _,mf (by decide) _⟩
 ·have h:(QE (ID b).2).1= .one v rd:=h
  unfold QE at h
  revert h
  cases gX 3 (ID b).2 with
  |zero=>exact fun h=>acg h▸I9 _
  |succ n=>cases n with
   |zero=>exact fun h=>acg h▸I9 _
   |succ n=>exact fun h=>WD.noConfusion h
theorem Yr(n:Nat)(ts:List TD):(Hy n ts).length=ts.length:=by
 induction ts with
 |nil=>rfl
 |cons t ts ih=>exact congrArg nG ih
theorem anY{n:Nat}(hn:n<2):PE 77 n=1:=by
 cases n with
 |zero=>rfl
 |succ n=>cases n with
  |zero=>rfl
  |succ n=>exact absurd hn (b5.mpr (a9 (a9 (aU _))))
theorem Vi{n:Nat}{rd:RD}(hn:n<5)(h:Tc rd):n5 (jw n rd):=by
 obtain⟨h1,h2⟩:=h
 cases rd with
 |alone l=>
  refine⟨?_,fun h=>absurd rfl h⟩
  have: ∀n:Nat,XK ⟨PE 77 n,SV (PE 77 n) n l,[],0⟩=true:=fun n=>by
   unfold PE
   cases aj 77 77&&cP n 1<;>rfl
  exact this n
 |std a d e ts q=>
  refine⟨?_,fun h=>absurd rfl h⟩
  show cP (Hy n ts).length 2=true
  rw[Yr];exact fY h1.1
 |recR a d e ts l=>
  refine⟨?_,fun _=> ?_⟩
  ·show cP (Hy n ts).length 2=true
   rw[Yr];exact fY h1.1
  ·show(kd 1 (E7 1 n (mQ d) 3)).1<5
   rw[Xh hn (show d<5 from h2)];exact hn
theorem ai0{n:Nat}{rd:RD}(hn:1<n):(jw n rd).lvl=RA rd:=by
 cases rd with
 |alone l=>
  show PE 77 n=77
  unfold PE
  rw[show cP n 1=false from EB.mpr fun h=>absurd (av h) (yz.mpr hn)]
  rfl
 |_=>rfl
theorem aiZ{n:Nat}{rd:RD}(hn:n<2):(jw n rd).lvl=1:=by
 cases rd with
 |alone l=>exact anY hn
 |_=>rfl
theorem Vh{n:Nat}{rd:RD}{m:Nat}(hn:n<5)(h:Tc rd)(hm:m=(jw n rd).lvl):XZ m (jw n rd).lvl (xu (jw n rd))=dZ (jw n rd):=by
 rw[hm];exact Vg (Vi hn h).ts8
theorem an2{s:Nat}(h:s<2){P:Nat->Prop}(h0:P 0)(h1:P 1):P s:=by
 cases s with
 |zero=>exact h0
 |succ s=>cases s with
  |zero=>exact h1
  |succ s=>exact absurd h (b5.mpr (a9 (a9 (aU _))))
theorem afR{x:DD}(h:aeR x):jd (afQ x):=by
 obtain⟨f,w,l,k⟩:=x
 refine⟨fun y e=> ?_,fun r e=> ?_,fun r e=> ?_⟩
 ·cases f with
  |none=>exact nn e
  |one o rd s=>
   rw[<- aG e]
   have:fnI o<2:=by cases o<;>decide
   exact⟨Vi (eV this (by decide)) (h.f o rd s rfl).1,aiZ this⟩
 ·cases w with
  |none=>exact nn e
  |one v rd=>
   rw[<- aG e]
   exact Vi (by cases v<;>decide) (h.w v rd rfl)
 ·have e:(bif Cz k then none else some (jw 4 l))=some r:=e
  cases z:Cz k with
  |true=>rw[z]at e;exact nn e
  |false=>
   rw[z]at e
   rw[<- aG e]
   exact Vi (by decide) h.l
theorem bit{s:Nat}(h:s<2):s=bif Cz s then 0 else 1:=an2 (P:=fun s=>s=bif Cz s then 0 else 1) h rfl rfl
theorem aoT(b:Bool)(r:Rt):jg (bif b then none else some r)=bif b then[]else[dZ r]:=by cases b<;>rfl
theorem apr{x:DD}(h:aeR x):drO (ddM x)=some (bC (afQ x),0,[]):=by
 obtain⟨f,w,l,k⟩:=x
 have hl:=Vh (n:=4) (by decide) h.l (ai0 (n:=4) (by decide)).symm
 have hk:m2 2 k=m2 2 (bif Cz k then 0 else 1):=congrArg (m2 2) (bit h.k)
 have hw: ∃a b c z w',wdM w=drW a b c z w'/\jg (dsW w)=XO w' fun _=>[XZ a b c]:=by
  cases w with
  |none=>exact⟨0,0,[],[],none,rfl,rfl⟩
  |one v rd=>
   refine⟨RA rd,(jw (wnI v) rd).lvl,xu (jw (wnI v) rd),[.frz 0 (I8 rd) []],some v,by cases v<;>rfl,?_⟩
   show[dZ (jw (wnI v) rd)]=[XZ _ _ _]
   rw[Vh (by cases v<;>decide) (h.w v rd rfl) (ai0 (by cases v<;>decide)).symm]
 have hf: ∃a b c z f',fdM f=drF a b c z f'/\Ru ⟨Zm f,none,none⟩=(XO f' fun x=>[d8 x.1])/\Pl ⟨Zm f,none,none⟩=(XO f' fun _=>[.lst [XZ 1 b c]])/\fSo ⟨Zm f,none,none⟩=XO f' fun x=>bif x.2 then[.str (d8 x.1)]else[]:=by
  cases f with
  |none=>exact⟨0,0,[],[],none,rfl,rfl,rfl,rfl⟩
  |one o rd s=>
   obtain⟨h1,h2⟩:=h.f o rd s rfl
   refine⟨RA rd,(jw (fnI o) rd).lvl,xu (jw (fnI o) rd),[.frz 0 (I8 rd) []],some (o,Cz s),?_,rfl,?_,rfl⟩
   ·show _=[_,_,m2 2 (bif Cz s then 0 else 1)]
    rw[<- bit h2]
    cases o<;>rfl
   ·show[AV.lst [dZ (jw (fnI o) rd)]]=[AV.lst [XZ 1 _ _]]
    rw[Vh (by cases o<;>decide) h1 (aiZ (by cases o<;>decide)).symm]
 obtain⟨a',b',c',z',w',w1,w2⟩:=hw
 obtain⟨a,b,c,z,f',f1,f2,f3,f4⟩:=hf
 show drO (fdM f++(wdM w++[mY 4 (RA l) (jw 4 l).lvl (xu (jw 4 l)) [.frz 0 (I8 l) []],m2 2 k]))=some (Ec (jg (dsW w)) (jg (bif Cz k then none else some (jw 4 l))) (Ru ⟨Zm f,none,none⟩) (Pl ⟨Zm f,none,none⟩) (fSo ⟨Zm f,none,none⟩),0,[])
 rw[hk,f1,w1,w2,f2,f3,f4,aoT,<- hl]
 exact drX ..
noncomputable def bB(k:Nat):Nat:=10^(81+7*k)
noncomputable def Uu:SM:=aV (cK [1] (bi (bT .Add) (bi (bT .Mult) (al 1) (a6 (.int (1000003)))) (bi (bT .Mod) (al 2) (bi (bT .Pow) (a6 (.int (10))) (a6 (.int (80))))))) bh
theorem aov(σ:AS):bT .Pow (.int 10) (.int 80) σ=some (.int (am (10^80)),σ):=by kernel_rfl
theorem aid(σ:AS):bT .Pow (.int 10) (.int 60) σ=some (.int (am (10^60)),σ):=by kernel_rfl
theorem aou(σ:AS):bT .Pow (.int 10) (.int 68) σ=some (.int (am (10^68)),σ):=by kernel_rfl
theorem anr(σ:AS):bT .FloorDiv (.int (am (10^68))) (.int 13) σ=some (.int (am (10^68 / 13)),σ):=by kernel_rfl
theorem anj{k:Nat}(h:k<=30):bB k<=2^4000:=au (iL (by decide) (dq (pH 7 h) 81)) (av (by kernel_rfl))
theorem Ti{n k:Nat}(h:n<=bB k)(hk:k<=30):mu (am n)=true:=fY (au h (anj hk))
theorem ajM:mu 1000003=true:=by kernel_rfl
theorem apn{n k m:Nat}(h:n<=bB k)(hm:m<10^80):n*1000003+m<=bB (k+1):=by
 have e:bB (k+1)=bB k*10^7:=by
  show 10^(81+7*(k+1))=_
  rw[NP,<- ky,Nat.pow_add];rfl
 have l:10^80<=bB k:=iL (by decide) (au (by decide) (cQ 81 _))
 rw[e]
 generalize bB k=B at h l
 generalize 10^80=P at hm l
 omega
theorem an7{n k:Nat}(h:n<=bB k)(hk:k<=30)(σ:AS):bT .Mult (.int (am n)) (.int 1000003) σ=some (.int (am (n*1000003)),σ):=by
 show od (bif mu (am n)&&mu 1000003 then some (AV.int (am n*1000003))else none) (fun c=>some (c,σ)) _=_
 rw[Ti h hk,ajM];rfl
theorem an6(c:Int): ∃m,m<10^80/\ ∀σ,bT .Mod (.int c) (.int (am (10^80))) σ=some (.int (am m),σ):=by
 have z:Kt (am (10^80)) 0=false:=by kernel_rfl
 have p:(0:Int)<am (10^80):=hH.mpr (Nat.pow_pos (by decide))
 have a:=mR c p
 have b:=qN c p
 obtain⟨m,hm⟩:=uQ a
 refine⟨m,?_,fun σ=> ?_⟩
 ·rw[hm]at b;exact hH.mp b
 ·show od (bif Kt (am (10^80)) 0 then none else some (AV.int (c.fmod (am (10^80))))) (fun c=>some (c,σ)) _=_
  rw[z,hm];rfl
theorem acE{cs:List Int}: ∀{n k:Nat},n<=bB k->k+cs.length<=30-> ∃n',n'<=bB 30/\ ∀{fr:Fm} {σ:AS},gt fr 1= .int (am n)-> ∃fr',pv [2] Uu (cs.map .int) fr σ=some (.next fr' σ)/\gt fr' 1= .int (am n'):=by
 induction cs with
 |nil=>
  intro n k hn hk
  exact⟨n,au hn (iL (by decide) (dq (pH 7 hk) 81)),fun{fr σ} h1=>⟨fr,rfl,h1⟩⟩
 |cons c cs ih=>
  intro n k hn hk
  have hk':k<=30:=au (cQ _ _) hk
  obtain⟨m,hm,em⟩:=an6 c
  obtain⟨n',h3,h4⟩:=ih (n:=n*1000003+m) (k:=k+1) (apn hn hm) (by rw[ky,lq 1];exact hk)
  refine⟨n',h3,fun{fr σ} h1=> ?_⟩
  have g1:gt (put fr 2 (.int c)) 1= .int (am n):=(fF rfl).trans h1
  have e1:Uu (put fr 2 (.int c)) σ=some (.next (put (put fr 2 (.int c)) 1 (.int (am (n*1000003+m)))) σ):=by
   unfold Uu
   simp only[c9,fy,jB,bd,g1,cT,lQ,ae,aX,dU,an7 hn hk',aov,em,Nn,bZ,dz,fz]
  obtain⟨fr',e2,h2⟩:=h4 (fr:=put (put fr 2 (.int c)) 1 (.int (am (n*1000003+m)))) (σ:=σ) cT
  refine⟨fr',?_,h2⟩
  rw[bc,Eu e1,e2]
noncomputable def aff:EM:=bn cU (aw (sY (fh (bU .Gt) (al 1) (bi (bT .Pow) (a6 (.int (10))) (a6 (.int (60))))) (al 1) (bi (bT .Add) (bi (bT .Pow) (al 1) (a6 (.int (6)))) (bi (bT .FloorDiv) (bi (bT .Pow) (a6 (.int (10))) (a6 (.int (68)))) (a6 (.int (13)))))) aJ)
theorem afh{cs:List Int}(hl:cs.length<=99999): ∃b,∀σ,∃ai i,qS [.lst (cs.map .int)] σ=some (.ref i,ai)/\ai.get i=some (.lst [.int b]):=by
 have hL:dv (eP (cs.map AV.int))=true:=by
  rw[ib,aS];exact fN (au hl (by decide))
 have hk:(cs.take 30).length <=30:=by rw[j8];exact Nat.min_le_left _ _
 obtain⟨n,hn,hloop⟩:=acE (cs:=cs.take 30) (n:=23) (k:=0) (au (show 23<=10^2 by decide) (iL (by decide) (by decide))) (by rw[hJ];exact hk)
 have gt1: ∀σ,bU .Gt (.int (am n)) (.int (am (10^60))) σ=some (bp (10^60) n):=fun _=>rfl
 have p6: ∀σ,bT .Pow (.int (am n)) (.int 6) σ=some (.int (am n^6),σ):=fun σ=>by
  show od (bif (mu (am n)&& !CF 6 0)&&CF 6 1000 then some (AV.int (am n^Int.toNat 6))else none) (fun c=>some (c,σ)) _=_
  rw[Ti hn (ax _)];rfl
 have ad: ∀a b σ,bT .Add (.int a) (.int b) σ=some (.int (a+b),σ):=fun _ _ _=>rfl
 have mk: ∀a σ,cU [a] σ=some (.ref σ.next,σ.alloc (.lst [a])):=fun _ _=>rfl
 have er: ∃b,∀fr',gt fr' 1= .int (am n)-> ∀gv,aff fr' gv=some (.ref gv.next,gv.alloc (.lst [.int b])):=by
  unfold aff
  cases z:bp (10^60) n with
  |true=>exact⟨am n,fun fr' h1 gv=>by simp only[d9,cp,cg,wt,ft,jB,bd,dU,h1,lQ,ae,af,aX,aid,gt1,z,bZ,mk]⟩
  |false=>exact⟨am n^6+am (10^68 / 13),fun fr' h1 gv=>by simp only[d9,cp,cg,wt,ft,jB,bd,dU,h1,lQ,ae,aX,aid,gt1,z,bZ,p6,aou,anr,ad,mk]⟩
 obtain⟨b,er⟩:=er
 refine⟨b,fun σ=> ?_⟩
 have es:Ss (al 0) (a6 .none) (a6 (.int (30))) [.lst (cs.map .int),.int 23] σ=some (.ref σ.next,σ.alloc (.lst ((cs.take 30).map .int))):=by
  show ob (some (cs.map AV.int)) (fun l=>bif dv (eP l)then ob (some 0) (fun x=>ob (some (DI 30 (eP l))) fun y=>some (AV.ref σ.next,σ.alloc (.lst (O3 l x y))))else none)=_
  rw[bZ,hL,af,bZ,bZ,O4,ib,aS]
  have:Kr (cs.map AV.int) 0 (DI 30 cs.length)=(cs.take 30).map AV.int:=by
   unfold Kr
   rw[lT,NQ,<- List.map_take]
   refine congrArg _ ?_
   rw[show DI 30 cs.length=min 30 cs.length from rfl,<- JS,List.take_of_length_le (ax cs.length)]
  rw[this]
 have ei:fu (σ.alloc (.lst ((cs.take 30).map .int))) (.ref σ.next)=some ((cs.take 30).map .int,(σ.alloc (.lst ((cs.take 30).map .int))).drop σ.next):=by
  show bu (ob ((σ.alloc (.lst ((cs.take 30).map .int))).get σ.next) _) _=_
  rw[b7]
  show(bif dv ((cs.take 30).map AV.int).length then some _ else none)=_
  rw[fN (by rw[aS];exact au hk (by decide))];rfl
 generalize (σ.alloc (.lst ((cs.take 30).map .int))).drop σ.next=gv at ei
 obtain⟨fr',el,h1⟩:=hloop (fr:=[.lst (cs.map .int),.int 23]) (σ:=gv) rfl
 have er:=er fr' h1 gv
 refine⟨gv.alloc (.lst [.int b]),gv.next,?_,b7⟩
 have q:BH [.lst (cs.map .int)] σ=some (.ret (.ref gv.next) (gv.alloc (.lst [.int b]))):=by
  show ob (bu (Ss (al 0) (a6 .none) (a6 (.int (30))) [.lst (cs.map .int),.int 23] σ) fun x ai=>bu (fu ai x) fun l ay=>pv [2] Uu l [.lst (cs.map .int),.int 23] ay) (gN (aV (eC aff) bh))=_
  rw[es,aX,ei,aX,el,bZ,dz]
  simp only[c9,d6,er,aX,bZ,dB]
 show ob (BH [.lst (cs.map .int)] σ) ig=_
 rw[q];rfl
theorem Zf(b:Int): ∃d,jd d/\ ∀{σ:AS} {x:Nat},σ.get x=some (.lst [.int b])-> ∃ai,ma [.ref x] σ=some (bC d,ai):=by
 have hd:=apr (abo b)
 have ok:=afR (abo b)
 generalize afQ (O8 b)=d at hd ok
 refine⟨d,ok,fun{σ x} hx=> ?_⟩
 have hg:(σ.set x (.orc 0 (zg b))).get x=some (.orc 0 (zg b)):=eg hx
 have hb:ma [.ref x] σ=t9 nQ qt [.ref x] (σ.set x (.orc 0 (zg b))):=by
  show ob (σ.get x) _=_
  rw[hx];rfl
 refine⟨σ.set x (.orc 0 []),hb.trans ?_⟩
 refine fG hd fun a ay h1 hr=>FK hr fun k l' h0 hr=> ?_
 have hr:=aG hr
 cases hr
 have h1:qt [.ref 0] ⟨1,[(0,.orc 0 (zg b))]⟩=some (bC d,ay):=h1
 rw[Xc hg,h1,aX]
 show ob (ay.get 0) _=_
 rw[h0]
 show ob (ux _ (bC d)) _=_
 rw[ue (by have:=KF (d:=d);exact aE (show(noRef (bC d)&&aN [])=true from this) fun h _=>h)]
 show some (bC d,AS.mk σ.next (lm x (.orc 0 []) (lm x (.orc 0 (zg b)) σ.cells)))=_
 rw[on];rfl
noncomputable def Th(l:List SM)(k:SM):SM:=l.foldr aV k
theorem ai6{l:List SM}{k:SM}: ∀{fr:Fm} {σ:AS},Th l k fr σ=ob (Th l bh fr σ) (gN k):=by
 induction l with
 |nil=>exact fun{fr σ}=>rfl
 |cons a l ih=>
  intro fr σ
  show ob (a fr σ) (gN (Th l k))=ob (ob (a fr σ) (gN (Th l bh))) (gN k)
  cases a fr σ with
  |none=>rfl
  |some o=>
   cases o with
   |next f s=>exact ih
   |ret x s=>rfl
   |brk x s=>rfl
   |cont x s=>rfl
noncomputable def amP:List SM:=[(cK [1,2,3] (bn fU (aw (bn vk aJ) (aw (bn oN (aw (a6 (.int (5))) (aw (a6 (.str [71])) aJ))) (aw (bn oN (aw (a6 (.int (10))) (aw (a6 (.str [76])) aJ))) aJ))))),
 (lM 16 (al 3) (a6 (.str [88]))),
 (kQ (cC (fH f8) (un (aA 23) (al 2)) (aw (bn xc (aw (a6 (.str [79,78])) (aw (bn cU (aw (bn fU (aw (bn fU (aw (a6 (.str [116,101,120,116])) (aw (a6 (.bytes [121])) aJ))) (aw (a6 (.none)) aJ))) aJ)) aJ))) aJ))),
 (kQ (cC yH (al 2) (aw (al 3) aJ))),
 (cK [4] (bn oN (aw (a6 (.int (1))) (aw (a6 (.str [82])) aJ)))),
 (kQ (cC yH (al 4) (aw (al 2) aJ))),
 (lM 24 (al 1) (bn cU (aw (al 4) aJ))),
 (cK [5] (eI [6] (bn hY (aw (al 1) aJ)) (fun _ σ=>some (true,σ)) (un (aA 1) (al 6))))]
noncomputable def ach:BM:=(fh (bU .NotEq) (al 5) (cC (ic kz) (a6 (.str [68,65,84,65,32,68,73,86,73,83,73,79,78,32,46,32,87,79,82,75,73,78,71,45,83,84,79,82,65,71,69,32,83,69,67,84,73,79,78,32,46,32,48,49,32,82,32,46,32,48,53,32,71,32,46,32,56,56,32,79,78,32,86,65,76,85,69,32,121,32,46,32,49,48,32,76,32,80,73,67,32,88,32,46])) (aw (a6 (.str [32])) aJ)))
noncomputable def mkD:EM:=bn vk aJ
noncomputable def abW{β:Type}(o:Option jZ)(f:Fm->AS->Option β):Option β:=ob o fun o=>jZ.rec (motive:=fun _=>Option β) (fun fr σ=>f fr σ) (fun _ _=>none) (fun _ _=>none) (fun _ _=>none) o
theorem ah2{β:Type}{o:Option jZ}{f:Fm->AS->Option β}{r:β}{P:Prop}(h:abW o f=some r)(k: ∀fr σ,o=some (.next fr σ)->f fr σ=some r->P):P:=by
 cases o with
 |none=>exact nn h
 |some o=>
  cases o with
  |next fr σ=>exact k fr σ rfl h
  |ret x s=>exact nn h
  |brk x s=>exact nn h
  |cont x s=>exact nn h
noncomputable def apB(L:aa):Option (Bool×AV×List AV):=abW (Th amP bh [.lst L] ⟨0,[]⟩) fun fr σ=>bu (ach fr σ) fun b ai=>bu (mkD fr ai) fun a fO=>some (b,gt fr 0,(pL (jD 14) [a] fO).1)
theorem adC(L:aa):apB L=some (false,.lst L,[bC ⟨none,none,none⟩]):=by kernel_rfl
noncomputable def ahz(lab:List AV->List AV):SM:=aV (rV (Rp ach (oZ (ja (bn (eD lab) (aw mkD aJ))))) (aV (fun _ _=>none) bh) bh) (aV (eC (bn (eD lab) (aw (bn ma (aw (bn qS (aw (al 0) aJ)) aJ)) aJ))) bh)
theorem ahA(lab:List AV->List AV):Ua lab=Th amP (ahz lab):=rfl
theorem alu(lab:List AV->List AV)(a:AV)(σ:AS):YO lab [a] σ=ob (Ua lab [a] σ) ig:=rfl
theorem adZ(lab:List AV->List AV)(a:AV)(σ:AS):eD lab [a] σ=bf 1 [] (gk lab) (pL (jD 14) [a] σ).1 (pL (jD 14) [a] σ).2:=rfl
theorem akY:jd ⟨none,none,none⟩:=⟨fun _ e=>nn e,fun _ e=>nn e,fun _ e=>nn e⟩
theorem afT(d:DS):CB d (gE ⟨none,none,none⟩)=Pb ⟨none,none,none⟩:=adB d
theorem ahC{cs:List Int}(hl:cs.length<=99999): ∃d,jd d/\ ∃ai,YO (CB d) [.lst (cs.map .int)] ⟨0,[]⟩=some (.bool true,ai):=by
 obtain⟨b,hb⟩:=afh hl
 obtain⟨d,ok,hd⟩:=Zf b
 refine⟨d,ok,?_⟩
 refine ah2 (adC (cs.map .int)) fun fr σ e8 h=>fG h fun t ai ew h=>fG h fun a fO ed h=> ?_
 have h:=aG h
 have h1:t=false:=congrArg (·.1) h
 have h2:gt fr 0= .lst (cs.map .int):=congrArg (·.2.1) h
 have h3:(pL (jD 14) [a] fO).1=[bC ⟨none,none,none⟩]:=congrArg (·.2.2) h
 clear h
 obtain⟨qo,e3⟩:=LN akY (afT d) (pL (jD 14) [a] fO).2
 have e3:eD (CB d) [a] fO=some (.bool true,qo):=by
  rw[adZ,h3];exact e3
 obtain⟨σ4,i,e4,g4⟩:=hb qo
 obtain⟨VG,e5⟩:=hd g4
 obtain⟨Yy,e6⟩:=ZU ok (ahx d) VG
 refine⟨Yy,?_⟩
 have hu:bQ (.lst (cs.map .int))=false:=rfl
 have eT:ahz (CB d) fr σ=some (.ret (.bool true) Yy):=by
  rw[h1]at ew
  unfold ahz
  simp only[c9,jW,GS,ew,aX,ae,qB,lP,d9,cp,ed,cg,e3,iK,bZ,eo,fz,dz,d6,bd,h2,hu,e4,e5,e6,dB]
 have eQ:Ua (CB d) [.lst (cs.map .int)] ⟨0,[]⟩=some (.ret (.bool true) Yy):=by
  rw[ahA,ai6,e8,bZ,dz,eT]
 rw[alu,eQ];rfl
abbrev PW:fQ:=JU
noncomputable def Iv:List cn:=behindTheImports PW
noncomputable def xC:Env:={scope:=PW.main.scope,locals:=mainNs,globals:=mainNs,cells:=[],code:=.ref 13,frame:=some 14}
noncomputable def ann:Obj:={cls:=.type "code",data:=.fields #[.str "<module>" 182,.str "<module>" 183,.str "/claim/cut.py" 184,.int 1 0,.int 0 0,.int 0 0,.int 0 0,.int 0 0,.ref 11,.bool false,.int 181 0,.ref 12,.none,.none,.none,.none,.int 185 0,.int 1 0,.str "/claim/cut.py" 186]}
noncomputable def anM:Obj:={cls:=.type "frame",slots:= #[some (.ref 13),some (.ref 3),some (.ref 3),none,some (.str "__main__" 164),none,some (.ref 0)]}
noncomputable def tr4(P:Params):BT:=((((((((((((((BT.nil.ins 0 (boot_o_0 P)).ins 1 (boot_o_1 P)).ins 2 (boot_o_2 P)).ins 3 (boot_o_3 P)).ins 4 (boot_o_4 P)).ins 5 (boot_o_5 P)).ins 6 (boot_o_6 P)).ins 7 (boot_o_7 P)).ins 8 (boot_o_8 P)).ins 9 (boot_o_9 P)).ins 10 (boot_o_10 P)).ins 11 (tupObj0)).ins 12 {cls:=.none,data:=.fields #[]}).ins 13 ann).ins 14 anM
where tupObj0:Obj:={cls:=.type "tuple",data:=.seq #[]}
noncomputable def sT4(w:dD)(os:ji):l0:=⟨tr4 w.params,15,{},#[],{},187,os⟩
abbrev ps0:Pos:=⟨0,0,0,0⟩
abbrev psE:Pos:=⟨927,0,938,53⟩
abbrev B0:List Frame:=[topFrame ps0]
theorem alN(w:dD)(os:ji):topGo treeTable PW w 11 (some (.ref 6)) 12 ⟨jo w.params,pP [],sJ,vd,os⟩ (topStub PW)=some ((sT4 w os).abs,⟨denote treeTable (.body Iv xC),.body Iv xC,ps0,B0⟩):=by
 rw[DU,bP,DL]
 kernel_rfl
theorem acH(w:dD)(os:ji):segRun treeTable PW w 11 (some (.ref 6)) 1 1 (sT4 w os).abs (blockOf Iv xC (.body Iv xC) ps0 B0)=some (.next,(sT4 w os).abs,.body Iv xC,ps0):=by
 rw[DR,bP]
 kernel_rfl
theorem ak2(w:dD)(s:az):topRun treeTable PW w 11 (some (.ref 6)) 2 s ⟨doneF .next,.body Iv xC,psE,B0⟩=some s:=by
 rw[DQ,bP]
 kernel_rfl
theorem ah4: ∀w:dD,(fencedOpening treeTable PW w 10000).map (fun s=>(s.heap,s.gens,s.drawn,s.toks))=some (jo w.params,pP [],sJ,vd):=
 boot_open (by kernel_rfl) (by decide) (fun s=>by kernel_rfl)
theorem ajJ(w:dD):((jo w.params).isNs mainGlobals&&(pP []:Array yw).size ==0,(jo w.params).objs.size,(jo w.params).nsMap mainGlobals "__annotations__")=(true,11,some (.ref 6)):=by
 kernel_rfl
noncomputable def loose0:List Str:=PW.boundNames.filter fun x=> !(x==("law":Str))
noncomputable def q0:fQ:=view PW [149]
noncomputable def ahL:List Str:=importedModules PW.main.body
noncomputable def ab8(w:dD)(s:az):Bool:=staticsOk ahL (jo w.params) s.heap&&namesBound PW s.heap&&gensDone s&&laidKept (jo w.params) s.heap
noncomputable def thr:Thread:=piecesOf Iv xC (.body Iv xC) ps0 B0
noncomputable def Xt0(s:az):Bool:=true
noncomputable def sz(w:dD)(os:ji):Option (Ge×l0×Code×Pos):=segRunT treeTable PW w 11 (some (.ref 6)) 1 7241 (sT4 w os) thr
noncomputable def XE(w:dD)(x:Ge×l0×Code×Pos):=(x.1,x.2.2.1,x.2.2.2,ab8 w x.2.1.abs,openSeen q0 loose0 ahL Xt0 true x.2.1.abs)
noncomputable def XF(x:Ge×l0×Code×Pos):=afk (G7 Wz x.2.1)
noncomputable def XG(x:Ge×l0×Code×Pos):=(amI (G7 Wz x.2.1)&&cP 1 x.2.1.toks,kY (G7 Wz x.2.1))
theorem al5(w:dD)(os:ji):(sz (w.withFollow "special-get-raises" false) os).map (XE (w.withFollow "special-get-raises" false))=some (.next,.body Iv xC,psE,true,openGood q0 loose0):=by
 unfold sz thr piecesOf XE
 rw[dj,bP,dk,mH]
 kernel_rfl
theorem al7(w:dD)(os:ji):(sz (w.withFollow "special-get-raises" false) os).map XF=some true:=by
 unfold sz thr piecesOf XF
 rw[dj,bP,dk]
 kernel_rfl
theorem al9(w:dD)(os:ji):(sz (w.withFollow "special-get-raises" false) os).map XG=some (true,kYa (w.withFollow "special-get-raises" false)):=by
 unfold sz thr piecesOf XG
 rw[dj,bP,dk]
 kernel_rfl
theorem al6(w:dD)(os:ji):(sz (w.withFollow "special-get-raises" true) os).map (XE (w.withFollow "special-get-raises" true))=some (.next,.body Iv xC,psE,true,openGood q0 loose0):=by
 unfold sz thr piecesOf XE
 rw[dj,bP,dk,mH]
 kernel_rfl
theorem al8(w:dD)(os:ji):(sz (w.withFollow "special-get-raises" true) os).map XF=some true:=by
 unfold sz thr piecesOf XF
 rw[dj,bP,dk]
 kernel_rfl
theorem ama(w:dD)(os:ji):(sz (w.withFollow "special-get-raises" true) os).map XG=some (true,kYa (w.withFollow "special-get-raises" true)):=by
 unfold sz thr piecesOf XG
 rw[dj,bP,dk]
 kernel_rfl
noncomputable def UQ(c:Nat):Bool:=yV.any fun r=>aj r.c c
noncomputable def fnm(i:Nat):Str:=(Ad FN i).getD ""
def Zb(k:Nat)(l:aa)(c:bF):Prop:=(k=1021/\lF mac l c)\/(k=0/\afF bx VB l c)
theorem agO: ∀i j,i<FN.length->j<FN.length->fnm i=fnm j->i=j:=by
 have h:(ct FN.length).all (fun i=>(ct FN.length).all fun j=>aj i j|| !(fnm i==fnm j))=true:=by kernel_rfl
 intro i j hi hj e
 have h1:=bR.mp (bR.mp h i (pS.mpr hi)) j (pS.mpr hj)
 rcases kI.mp h1 with q|q
 ·exact aD q
 ·rw[e,beq_self_eq_true]at q;exact absurd q (by decide)
theorem alO{L:aa}{m:Nat}(h:aN L=true):Ea (cN L m)=true:=by
 show(noRef (.lst L)&&(true&&(true&&(true&&true))))=true
 rw[show noRef (.lst L)=aN L from rfl,h];rfl
theorem WR: ∀k l c,Zb k l c->Ea c=true:=fun k l c h=>by
 rcases h with⟨_,_,pre,_,h1,h2,rfl⟩|⟨_,_,b,rfl,_⟩
 ·exact alO (by rw[bV,h1,h2];rfl)
 ·rfl
theorem WS: ∀k l c,Zb k l c->UQ k=true-> ∃ks vs,c= .inst k ks vs:=fun k l c h hc=>by
 rcases h with⟨rfl,_,pre,_,_,_,rfl⟩|⟨rfl,_⟩
 ·exact⟨_,_,rfl⟩
 ·exact absurd hc (by decide)
theorem acK{K:dQ}(h:yV.all (crB K)=true): ∀c k,UQ c=true->k<FN.length->Sh c k=false->Iq K c (fnm k)=true:=fun c k hc hk hb=>by
 obtain⟨r,hr,e⟩:=j7.mp hc
 obtain rfl:=aD e
 refine aE (bR.mp h r hr) fun _ h=>aE h fun _ h=>aE h fun _ h=>aE h fun _ h=>aE h fun _ h=> ?_
 have:=bR.mp h k (pS.mpr hk)
 rw[hb]at this
 exact this
structure N1(K:dQ):Prop where
 ok:YX K=true
 gf:gfB K=true
 sys:(K.lookup sysModules).isSome=true
theorem N1.of{K:dQ}(h:Sj K=true):N1 K:=by
 refine aE h fun h1 h=>aE h fun h2 h=>aE h fun h3 h=>aE h fun h4 h=>aE h fun h5 h=>aE h fun h6 h=>aE h fun h7 h=>aE h fun h8 h=>aE h fun h9 h=>aE h fun h10 h=>aE h fun h11 h=>aE h fun h12 _=>⟨?_,h11,h12⟩
 have:tW.all (frB K)=true:=by
  rw[<- jP 56 tW,kR]
  exact br.mpr ⟨h1,h2⟩
 unfold YX
 rw[this,h3,h4,h5,h6,h7,h8,h9,h10];rfl
theorem N1.n{K:dQ}(h:Sj K=true):M3 K "USAGE_NAMES" (.ref 503)=true/\M3 K "USAGE_WORDS" (.ref 711)=true:=
 aE h fun _ h=>aE h fun _ h=>aE h fun _ h=>aE h fun _ h=>aE h fun _ h=>aE h fun _ h=>aE h fun _ h=>aE h fun _ h=>aE h fun _ h=>aE h fun _ h=>aE h fun _ h=>aE h fun _ h=>aE h g8
theorem N1.cr{K:dQ}(h:N1 K):yV.all (crB K)=true:=aE h.ok fun _ h=>aE h fun h _=>h
section
variable{w:dD}{h:bH}{K:dQ}{p:fQ}{loose:List Str}{mean:ExcName->Option ah}{mg mb:Str->Option ah}
noncomputable def XS(prog:fQ)(w:dD)(T:Top p loose mean mg mb h)(X:K.In h)(ck:N1 K):PC where
 prog:=prog
 w:=w
 K:=K
 fname:=fnm
 o4:=h
 mg:=mg
 mb:=mb
 g:=T.g
 b:=T.b
 nolimit:=T.nolimit
 boot:=T.builtins
 inK:=X
 sys:=(eW.mp ck.sys).imp fun o e=>X _ _ e
 cls:=UQ
 nf:=FN.length
 attr:=acK ck.cr
 conc:=Zb
 concFree:=WR
 concInst:=WS
 fnameInj:=agO
theorem alL{prog:fQ}{T:Top p loose mean mg mb h}{X:K.In h}{ck:N1 K}:p7 (XS prog w T X ck) mac bx VB where
 mac0:=rfl
 rdr:=fun l c=>⟨fun h=>h.elim (fun h=>h.2) fun h=>absurd h.1 (by decide),fun h=>.inl ⟨rfl,h⟩⟩
 bx2:=fun m d vs=>rfl
 bag:=fun l c=>⟨fun h=>h.elim (fun h=>absurd h.1 (by decide)) fun h=>h.2,fun h=>.inr ⟨rfl,h⟩⟩
theorem akX{C:PC}{o:Obj}{ws:List (Str×Str×Nat)}(ho:o={cls:=.type "dict",data:=.dict (ws.map fun x=>tY C.w x.1 x.2.1 x.2.2).toArray ws.length})(hn:(ws.map (·.1)).Nodup):
  o.IsDictOf (strKind C.prog C.w) (ws.map fun x=>(x.1,fZ x.2.1 (x.2.2+1))):=by
 subst ho
 refine⟨_,_,⟨rfl,rfl,rfl⟩,rfl,fun e he=> ?_,?_,by rw[gB];exact hn⟩
 ·rw[tu]at he
  obtain⟨x,_,rfl⟩:=dy.mp he
  exact⟨x.1,tz _ _ _ _,rfl⟩
 ·show Pairs _ (ws.map fun x=>tY C.w x.1 x.2.1 x.2.2) _
  clear hn
  induction ws with
  |nil=>exact .nil
  |cons x ws ih=>exact .cons (tz _ _ _ _) rfl ih
theorem dcV{C:PC}{W:Wd}(hW:ImK C W){a:aC}{o:Obj}(hl:C.K.lookup a=some o)(ha:(a==sysModules)=false){ws:List (Str×Str×Nat)}(ho:o={cls:=.type "dict",data:=.dict (ws.map fun x=>tY C.w x.1 x.2.1 x.2.2).toArray ws.length})(hn:(ws.map (·.1)).Nodup)
  {ks ss:List (List Nat)}(hk:ws.map (·.1)=ks.map aP)(hv:ws.map (·.2.1)=ss.map aP):V C W (.dct ks (ss.map .str)) (.ref a):=by
 have hl1:ks.length=ws.length:=by
  have:=congrArg mT hk
  rwa[aS,aS,eq_comm]at this
 refine⟨a,o,ws.map fun x=>fZ x.2.1 (x.2.2+1),rfl,ha,hW _ _ hl,?_,by rw[aS];exact hl1,?_⟩
 ·clear ho hn hk hl1 hl
  induction ws generalizing ss with
  |nil=>
   cases ss with
   |nil=>rfl
   |cons s ss=>exact absurd hv (fun h=>by cases h)
  |cons x ws ih=>
   cases ss with
   |nil=>exact absurd hv (fun h=>by cases h)
   |cons s ss=>
    have h:=List.cons.inj (show x.2.1::ws.map (·.2.1)=aP s::ss.map aP from hv)
    exact⟨_,_,rfl,⟨_,congrArg (fun s=>fZ s (x.2.2+1)) h.1⟩,ih h.2⟩
 ·have:=akX (C:=C) ho hn
  rw[<- hk,List.zip_map']
  exact this
structure aa0(w:dD)(K:dQ):Prop where
 ck:N1 K
 un:K.lookup 503=some (unO w)
 uw:K.lookup 711=some (uwO w)
 rs:nsIn K 3 "RESERVED"=some (some (.str FP 1445))
 le:Uw K 65=some leB
 n1:M3 K "USAGE_NAMES" (.ref 503)=true
 n2:M3 K "USAGE_WORDS" (.ref 711)=true
theorem aa0.of{w:dD}{K:dQ}(h:Sj K=true)(e:kY K=kYa w):aa0 w K:=by
 obtain⟨e1,e⟩:=cY e
 obtain⟨e2,e⟩:=cY e
 obtain⟨e3,e4⟩:=cY e
 exact⟨N1.of h,e1,e2,e3,e4,N1.n h |>.1,N1.n h |>.2⟩
noncomputable def IU(a:AV):List Nat:=match a with
 | .str l=>l
 |_=>[]
theorem aor{s:String}{cs:List Char}(h:s=String.ofList cs):lu s=aP (cs.map Char.toNat):=by
 rw[h,Str.ofString_eq_toList,String.toList_ofList];rfl
theorem Vc:FP=aP (IU ly):=(aor (cs:=(IU ly).map Char.ofNat) (by kernel_rfl)).trans (by kernel_rfl)
theorem alK{w:dD}{h:bH}{K:dQ}{p:fQ}{loose:List Str}{mean:ExcName->Option ah}{mg mb:Str->Option ah}{prog:fQ}(T:Top p loose mean mg mb h)(X:K.In h)(F:aa0 w K):rt (XS prog w T X F.ck) where
 ok:=F.ck.ok
 nf:=rfl
 fn:=fun i x e=>by show(Ad FN i).getD ""=x;rw[e];rfl
 cls:=fun r hr=>j7.mpr ⟨r,hr,NO _⟩
 name:=fun l c h=>h.elim (fun h=>by obtain⟨_,_,pre,_,_,_,rfl⟩:=h;exact⟨_,rfl⟩) fun h=>absurd h.1 (by decide)
 gf:=adk F.ck.gf fun o fd ho hd=>by
  have h:=F.le
  unfold Uw at h
  rw[show K.lookup 65=some o from ho,nJ,hd]at h
  revert h
  show(match fd.body with| .stmts b=>some b|_=>none)=some leB->_
  cases fd.body with
  |stmts b=>exact fun h=>congrArg _ (aG h)
  |_=>exact fun h=>nn h
 un:=lN (I0 (C:=XS prog w T X F.ck) F.n1) fun W hW=>dcV hW F.un rfl (ws:=[("display","DISPLAY",925),("binary","BINARY",927),("packed","PACKED-DECIMAL",929),("index","INDEX",931)]) rfl (by decide +kernel)
  (ks:=[[100,105,115,112,108,97,121],[98,105,110,97,114,121],[112,97,99,107,101,100],[105,110,100,101,120]]) (ss:=[[68,73,83,80,76,65,89],[66,73,78,65,82,89],[80,65,67,75,69,68,45,68,69,67,73,77,65,76],[73,78,68,69,88]]) (by kernel_rfl) (by kernel_rfl)
 uw:=lN (I0 (C:=XS prog w T X F.ck) F.n2) fun W hW=>dcV hW F.uw rfl (ws:=[("DISPLAY","display",1250),("COMP","binary",1252),("COMPUTATIONAL","binary",1254),("BINARY","binary",1256),("PACKED-DECIMAL","packed",1258),("COMP-3","packed",1260),("COMPUTATIONAL-3","packed",1262),("INDEX","index",1264)]) rfl (by decide +kernel)
  (ks:=[[68,73,83,80,76,65,89],[67,79,77,80],[67,79,77,80,85,84,65,84,73,79,78,65,76],[66,73,78,65,82,89],[80,65,67,75,69,68,45,68,69,67,73,77,65,76],[67,79,77,80,45,51],[67,79,77,80,85,84,65,84,73,79,78,65,76,45,51],[73,78,68,69,88]]) (ss:=[[100,105,115,112,108,97,121],[98,105,110,97,114,121],[98,105,110,97,114,121],[98,105,110,97,114,121],[112,97,99,107,101,100],[112,97,99,107,101,100],[112,97,99,107,101,100],[105,110,100,101,120]]) (by kernel_rfl) (by kernel_rfl)
 rs:=lN (ahY (C:=XS prog w T X F.ck) F.rs) fun W hW=>⟨1445,congrArg (fun s=>fZ s 1445) Vc⟩
end
abbrev RW:OpenLaw:=b8
noncomputable def Yf0(s:az):=(Sj (y8 Wz s.heap)&&cP 1 s.toks,kY (y8 Wz s.heap))
noncomputable def Ya0(w:dD):=(true,kYa w)
theorem adO{args:List WData}(h:RW.row.toRowW.claim.pre args=true): ∃cs:List Int,args=[.list (cs.map .int)]/\cs.length<=63:=by
 obtain⟨h1,h2⟩:=pre_splitW h
 obtain⟨d,r,rfl,h3,h4⟩:=hasAllW_cons (R:=RW.row.records) (e:=.list .int) (es:=[]) h1
 obtain rfl:=hasAllW_nil h4
 obtain⟨xs,rfl,h5⟩:=hasW_list h3
 obtain⟨cs,rfl⟩:=items_int h5
 refine⟨cs,rfl,?_⟩
 have h2:(match(match(match(match(some (Bh ((cs.map Bh).length:Nat)))with|some y=>((less? (.int 63) y).map yC)|_=>none)with|some (.bool b)=>some (yC (!b))|_=>none)with
  |some (.bool false)=>some (yC false)
  |some (.bool true)=>some (.bool true)
  |_=>none)with|some (.bool true)=>true|_=>false)=true:=h2
 have h6:less? (.int 63) (.int ((cs.map Bh).length:Nat))=some (decide ((63:Int)<((cs.map Bh).length:Nat))):=rfl
 rw[aS]at h6 h2
 cases z:decide ((63:Int)<(cs.length:Nat))with
 |true=>
  rw[z]at h6
  simp only[h6]at h2
  exact absurd h2 (by decide)
 |false=>exact Nat.le_of_not_lt fun q=>of_decide_eq_false z (hH.mpr q)
theorem aaM{P:Params}{h:bH}{C:PC}{W:Wd}: ∀{cs:List Int} {vs:List ah},WellAll P h vs (cs.map .int)->VL C W (cs.map .int) vs:=by
 intro cs
 induction cs with
 |nil=>intro vs h;cases h;rfl
 |cons c cs ih=>
  intro vs h
  cases h with
  |cons h1 h2=>cases h1 with
   |int i t=>exact⟨_,_,rfl,⟨_,rfl⟩,ih h2⟩
theorem aic{a b:List WData}:RW.row.toRowW.claim.post a (.bool true) b=true:=by
 have h:same (.bool true) (.bool true)=true:=by kernel_rfl
 show(WShape.has RW.row.records (.bool true) .bool&&(match some (yC (same (.bool true) (.bool true)))with|some (.bool true)=>true|_=>false))=true
 rw[h];rfl
theorem al3:eH callerA 23:=⟨rfl,by decide,by decide⟩
theorem ahB{C:PC}(O:rt C)(R:p7 C mac bx VB){s:az}(hb: ∀b o,C.o4.get? b=some o->s.heap.get? b=some o)(tk:1<=s.toks){x:aC}{vs:List ah}{cs:List Int}(hx:s.heap.get? x=some (dw vs 0))(hw: ∀W,VL C W (cs.map .int) vs)(hlen:cs.length<=63):
  wpAny (dC C) callerA (TP (.ref 1082) [.ref x]) (fun v s'=>v= .bool true/\Sm s s'/\ ∀b o,s.heap.get? b=some o->s'.heap.get? b=some o) dm s:=by
 obtain⟨ds,ok,ai,e⟩:=ahC (cs:=cs) (au hlen (by decide))
 have hv:V C ⟨fun _=>none,s.heap.get?,fun _=>none⟩ (.lst (cs.map .int)) (.ref x):=⟨x,0,vs,rfl,hx,hw _⟩
 refine ek (anf (lab:=CB ds) ⟨O,apH R,R⟩ (ahy ok) callerA al3 ⟨fun _=>none,s.heap.get?,fun _=>none⟩ ⟨0,[]⟩ s [.lst (cs.map .int)] [.ref x] ⟨hb,fun _ _ e=>e,fun _ _ e=>nn e,fun _ _ e=>nn e,fun _ _=>rfl,fun _ _ e=>nn e,fun _ _ _ _ _ _ e=>nn e⟩ (VL.one hv) tk _ _ e) fun v s' P=> ?_
 obtain⟨h1,W',l,R',hq⟩:=P
 exact⟨hq,h1,fun b o e=>R'.im _ _ (l.2.1 b o e)⟩
theorem law_walk{d:DefRec}{kwd:List (Str×PySem.Expr)}(hn:d.name="law"):WalkX q0 loose0 (fun _ _=>True) Yf0 Ya0 RW.row.toRowW d kwd fun f vs=>TP f vs:=by
 intro w ni bk mg mb G Y a o pm cd doc dV kV ho hdt hcd hD hmg hgens args vals as L hpre hlay hrd hwl hlo
 have X:Frag.In (y8 Wz ni.heap) bk.heap:=fun b o e=>L.keeps _ _ (agQ _ _ b o e)
 have y:=br.mp (cY Y).1
 have F:=aa0.of y.1 (cY Y).2
 have tk:1<=bk.toks:=by
  obtain⟨ord,_,e⟩:=L.laid
  exact au (av y.2) (layAllW_grows _ _ _ e).toks
 have O:=alK (w:=w) (prog:=RW.row.prog) G.T X F
 have R:=alL (w:=w) (prog:=RW.row.prog) (T:=G.T) (X:=X) (ck:=F.ck)
 have ha:a=1082:=by
  have e:mg "law"=some (.ref 1082):=O.frE (i:=110) (r:=aan) rfl fun _ _ h=>h "law" rfl
  rw[hn,e]at hmg
  cases hmg;rfl
 subst ha
 obtain⟨cs,rfl,hlen⟩:=adO hpre
 obtain⟨v,x,vs,rfl,rfl,hx,hvs⟩: ∃v x vs,vals=[v]/\v= .ref x/\bk.heap.get? x=some (dw vs 0)/\WellAll w.params bk.heap vs (cs.map .int):=by
  cases hwl with
  |cons h1 h2=>
   cases h2
   cases h1 with
   |list h3 h4=>exact⟨_,_,_,rfl,rfl,h3,h4⟩
 refine KD (ek (ahB O R (fun _ _ e=>e) tk hx (fun _=>aaM hvs) hlen) fun v s' P=> ?_)
 obtain⟨rfl,⟨h',t',rfl,_⟩,hk⟩:=P
 exact⟨.inl ⟨_,.bool true,[],rfl,fun _=>rfl,.bool true,aic,fun _=>⟨lU,fun a ha=>absurd ha bb⟩⟩,OldK.of_keep hk,rfl,AllBare.of_eq hgens⟩
theorem akh{w:dD}{os:ji}{x:Ge×l0×Code×Pos}(h:sz w os=some x)(h1:x.1= .next)(h2:x.2.2.1= .body Iv xC)(h3:x.2.2.2=psE):
  topRun treeTable PW w 11 (some (.ref 6)) 10000 ⟨jo w.params,pP [],sJ,vd,os⟩ (topStub PW)=some x.2.1.abs:=by
 obtain⟨f,s,c,q⟩:=x
 obtain rfl:f= .next:=h1
 obtain rfl:c= .body Iv xC:=h2
 obtain rfl:q=psE:=h3
 have k1:=ak2 w s.abs
 have k2:=piece_app (l:=Iv) (rest:=[]) (segRun_of h) (piece_nil k1)
 rw[aR]at k2
 have k3:=piece_block (acH w os) k2
 have k4:=go_top (alN w os) k3
 have k5:=topRun_mono 2744 _ _ _ _ k4
 have e:12+(1+(7241+2))+2744=10000:=by decide
 rw[e]at k5
 exact k5
theorem Xj(w:dD)(hA: ∀os,(sz w os).map (XE w)=some (.next,.body Iv xC,psE,true,openGood q0 loose0))(hB: ∀os,(sz w os).map XF=some true)(hC: ∀os,(sz w os).map XG=some (true,kYa w)):
  (openEnds treeTable PW w 10000).map (fun s=>(openSeen q0 loose0 (importedModules PW.main.body) Xt0 true s,Yf0 s))=some (openGood q0 loose0,Ya0 w):=by
 obtain⟨⟨h,gs,d,k,os⟩,e,e'⟩:=gZ.mp (ah4 w)
 obtain⟨e1,e'⟩:=cY e'
 obtain⟨e2,e'⟩:=cY e'
 obtain⟨e3,e4⟩:=cY e'
 have e1:h=jo w.params:=e1
 have e2:gs=pP []:=e2
 have e3:d=sJ:=e3
 have e4:k=vd:=e4
 subst e1 e2 e3 e4
 obtain⟨x,hx,a⟩:=gZ.mp (hA os)
 obtain⟨a1,a⟩:=cY a
 obtain⟨a2,a⟩:=cY a
 obtain⟨a3,a⟩:=cY a
 obtain⟨a4,a5⟩:=cY a
 have b:=hB os
 have c:=hC os
 rw[hx]at b c
 have b:afk (G7 Wz x.2.1)=true:=aG b
 obtain⟨c1,c2⟩:=cY (aG c)
 obtain⟨c1,c3⟩:=br.mp c1
 obtain⟨z1,z'⟩:=cY (ajJ w)
 obtain⟨z2,z3⟩:=cY z'
 have t:topFrom treeTable PW w 10000 ⟨jo w.params,pP [],sJ,vd,os⟩=some x.2.1.abs:=by
  unfold topFrom
  dsimp only
  rw[z1,z2,z3,akh hx a1 a2 a3]
  show(match ab8 w x.2.1.abs with|true=>some x.2.1.abs|false=>none)=_
  rw[a4]
 unfold openEnds
 rw[e,nJ,t]
 have y:Yf0 x.2.1.abs=Ya0 w:=by
  unfold Yf0 Ya0
  rw[Zt,c2]
  refine congrArg (fun b=>(b,kYa w)) ?_
  show(Sj (G7 Wz x.2.1)&&cP 1 x.2.1.toks)=true
  unfold Sj
  rw[b,c1,c3];rfl
 exact congrArg some (NS a5 y)
theorem left:LeftO PW q0 loose0 Xt0 Yf0 Ya0 10000:=fun w=>by
 have e:=World.withFollow_self w "special-get-raises"
 cases hb:w.params.followText "special-get-raises" with
 |false=>
  rw[hb]at e
  exact Xj w (fun os=>by have:=al5 w os;rwa[e]at this) (fun os=>by have:=al7 w os;rwa[e]at this) (fun os=>by have:=al9 w os;rwa[e]at this)
 |true=>
  rw[hb]at e
  exact Xj w (fun os=>by have:=al6 w os;rwa[e]at this) (fun os=>by have:=al8 w os;rwa[e]at this) (fun os=>by have:=ama w os;rwa[e]at this)
theorem Z5{lk:Look}{s:cn}{r:List cn}: ∀{n:Nat} {l:List cn},l.drop n=s::r->noRoadLSs lk (l.take n)=true->noRoadLS lk s=true->noRoadLSs lk r=true->noRoadLSs lk l=true:=by
 intro n
 induction n with
 |zero=>
  intro l h _ h2 h3
  rw[lT]at h
  rw[h]
  exact Bi h2 h3
 |succ n ih=>
  intro l h h1 h2 h3
  cases l with
  |nil=>cases h
  |cons a l=>
   obtain⟨a1,a2⟩:=br.mp (show(noRoadLS lk a&&noRoadLSs lk (l.take n))=true from h1)
   exact Bi a1 (ih (l:=l) h a2 h2 h3)
theorem OP{α:Type}{l:List α}{p:α->Bool}:l.toArray.any p=l.any p:=tq
noncomputable def UV:Look:={strict:= !(importedModules b8.row.prog.main.body).all cThrough.contains,foot:=none,bare:=(["vars","dir","locals"]:List Str).filter (readsOut b8.row.prog b8.row.prog.main.body)}
theorem ad0:roadStr FP=false:=by
 rw[Vc]
 show(((IU ly).toArray.any fun c=>c==123||c==125)||((IU ly).toArray.any (· ==46)&& !(IU ly).toArray.any (· <=32)))=false
 rw[OP,OP,OP]
 kernel_rfl
theorem aj7{lk:Look}(h:lk.word FP=true):lk.str FP=true:=by
 unfold Look.str
 rw[h,ad0,Bool.or_true];rfl
theorem aeQ:UV.word FP=true:=by
 rw[Vc]
 kernel_rfl
theorem aml:noRoadLS UV (.Assign [.Name "RESERVED" ⟨722,0,722,8⟩] (.Constant (.str FP) 0 ⟨722,11,722,1873⟩) ⟨722,0,722,1873⟩)=true:=by
 show(UV.stores [.Name "RESERVED" ⟨722,0,722,8⟩]&&noRoadLs UV [.Name "RESERVED" ⟨722,0,722,8⟩]&&UV.str FP)=true
 refine Bi ?_ (aj7 aeQ)
 kernel_rfl
theorem al0:noRoadLSs UV (b8.row.prog.main.body.take 136)=true:=by
 unfold UV
 rw[iH,cv,mI,aI,bG,bM,lZ,yB,lX]
 kernel_rfl
theorem al1:noRoadLSs UV (b8.row.prog.main.body.drop 137)=true:=by
 unfold UV
 rw[iH,cv,mI,aI,bG,bM,lZ,yB,lX]
 kernel_rfl
theorem al2:b8.row.prog.main.body.drop 136= .Assign [.Name "RESERVED" ⟨722,0,722,8⟩] (.Constant (.str FP) 0 ⟨722,11,722,1873⟩) ⟨722,0,722,1873⟩::b8.row.prog.main.body.drop 137:=by kernel_rfl
theorem said:b8.wellSaid=true:=by
 unfold OpenLaw.wellSaid OpenRow.wellSaid OpenRow.partSaid looksOpen
 repeat' with_reducible refine Bi ?_ ?_
 ·rw[DK,aI]
  kernel_rfl
 ·rw[EW,aI,DN]
  kernel_rfl
 ·rw[ET,aI]
  kernel_rfl
 ·rw[cv,fq,aI,bG,bM,DT]
  kernel_rfl
 ·exact Z5 al2 al0 aml al1
 ·rw[fm,aI,DW]
  kernel_rfl
 ·rw[aI]
  kernel_rfl
 ·rw[aI]
  kernel_rfl
 ·rw[aI,cv,EV]
  kernel_rfl
 ·rw[cv,aI,bG,bM,fq,TO,EN]
  kernel_rfl
 ·rw[YC,aI,bM]
  kernel_rfl
 ·rw[cv,aI,EQ,nY,bG,bM,fq]
  kernel_rfl
 ·rw[DP,aI]
  kernel_rfl
 ·rw[iE,aI]
  kernel_rfl
 ·rw[iE,aI]
  kernel_rfl
 ·rw[cv,aI,iE]
  kernel_rfl
 ·rw[cv,aI,EP,YB,EO]
  kernel_rfl
 ·rw[cv,aI]
  kernel_rfl
 ·rw[aI]
  kernel_rfl
 ·rw[bG,bM,fq,aI]
  kernel_rfl
 ·rw[bG,bM,DM,aI]
  kernel_rfl
 ·kernel_rfl
 ·rw[cv,DJ]
  kernel_rfl
 ·rw[ES]
  kernel_rfl
 ·kernel_rfl
 ·kernel_rfl
 ·rw[iH,mW,mJ]
  kernel_rfl
 ·rw[EU]
  kernel_rfl
 ·rw[DV]
  kernel_rfl
 ·rw[cv,bM]
  kernel_rfl
 ·rw[cv,mW,nY,bM,iG]
  kernel_rfl
 ·rw[cv,lY,lV,iG]
  kernel_rfl
 ·rw[cv,lY,lV,iG,Fd,bM]
  kernel_rfl
 ·rw[fm,bG,bM,mJ]
  kernel_rfl
 ·rw[bG,bM,fj]
  kernel_rfl
 ·rw[ER,bM,fj]
  kernel_rfl
 ·rw[cv,fj,nY]
  kernel_rfl
 ·rw[fm,bG,bM,fj]
  kernel_rfl
 ·rw[fm,bM]
  kernel_rfl
theorem def_ok:(defOf q0 RW.row.name).map (fun x=>(x.1.name,kwWritten? x.1.params.kwonlyargs x.1.params.kw_defaults,x.2,RW.row.prog.theDef RW.row.name))=(defOf q0 RW.row.name).map (fun x=>(("law":Str),some x.2,x.2,some (x.1.params,x.1.body,x.1.scope))):=by kernel_rfl
theorem def_some:(defOf q0 RW.row.name).isSome=true:=by kernel_rfl
theorem ok_ok:(chainsOk q0&&opensWell RW.row.prog&&(frees RW.row.toRowW&&RW.row.within.isEmpty))=true:=by decide +kernel
theorem bare_ok:RW.row.prog.bare:=⟨rfl,rfl,rfl,rfl,rfl,by decide +kernel⟩
theorem prom_ok:RW.row.toRowW.promised:=⟨[.list []],by decide +kernel,by decide +kernel⟩
end Mine
set_option maxHeartbeats 4000000 in
theorem PySem.Challenge.cw_pq0651_01_holds : PySem.Challenge.rw_pq0651_01.Holds := by
 obtain⟨⟨d,kwd⟩,hdef⟩:=eW.mp Mine.def_some
 have h:=Mine.def_ok
 rw[hdef]at h
 have h:=aG h
 obtain⟨h1,h⟩:=cY h
 obtain⟨h2,h⟩:=cY h
 obtain⟨_,h3⟩:=cY h
 exact holds_law Mine.said fun k1=>holds_openX (q:=Mine.q0) (loose:=Mine.loose0) (Xt:=Mine.Xt0) (XP:=fun _ _=>True) (Yf:=Mine.Yf0) (Ya:=Mine.Ya0) (N:=10000) Mine.left (fun _ _=>trivial) (fun _ _ _ _ _=>trivial) hdef h3 h2 (fun _ _=>recFacts_nil rfl) rfl k1 Mine.ok_ok Mine.bare_ok Mine.prom_ok (Mine.law_walk h1)
