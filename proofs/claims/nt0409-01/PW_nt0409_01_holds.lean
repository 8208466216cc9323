import PyProof.Rows.All
import Wide.All
import OpenK.AllK
import Wide.FinOn
import Lean
import PySem.Challenge.RW_nt0409_01
set_option Elab.async false
set_option maxRecDepth 1000000
set_option maxHeartbeats 0
set_option linter.all false
set_option genSizeOf false
set_option genInjectivity false
set_option genCtorIdx false
set_option bootstrap.genMatcherCode false
set_option tactic.hygienic false
open List renaming getElem?_cons_zero->ah,getElem?_cons_succ->ai,length_map->ak,length_append->ao,mem_singleton->au,length_cons->az,getElem?_eq_some_iff->aC,length_nil->aD,set_cons_zero->aF,set_cons_succ->aG,mem_of_getElem?->aJ,mem_cons->aN,append_nil->aP,mem_cons_self->aR,mem_append_right->aU,append_assoc->aV,getElem?_append_left->aZ,not_mem_nil->ba,mem_cons_of_mem->bf,mem_append->bg,getElem?_eq_getElem->bA,length_set->bD,replicate->bF,all_eq_true->bI,map_append->bM,mem_append_left->bS,getD_eq_getElem?_getD->bU,mem_map->bX,size_toArray->b9,lookup_cons->cf,length_take->cv,getElem?_map->cy,getElem?_append_right->cB,getElem?_concat_length->cP,nodup_cons->du,filter_cons_of_pos->dF,nil_append->dU,getElem?_set_ne->dZ,cons_append->eJ,map_cons->eN,any_cons->eO,filter_cons_of_neg->eX,range->fG,length_eq_zero_iff->gh,toArray->gx,getElem?_set_self->gy,foldl->gz,reverse_cons->hK,isEmpty_iff->iM,set->i5,find?_cons->i6,zip_cons_cons->jg,lookup->jj,mem_range->jB,length_filter_le->jO,take_length->jT,length_drop->jU,pairwise_append->kg,mem_iff_getElem->kh,forall_mem_cons->kj,mem_or_eq_of_mem_set->lY,mem_of_find?_eq_some->lZ,drop_eq_getElem_cons->l4,length_range->mc,map_take->mB,drop_length->mY,any_eq_true->mZ,filter_eq_nil_iff->n5,mem_of_mem_take->pJ,replicate_succ->qS,drop_nil->qX,getElem?_drop->rK,map_nil->s9,map_map->tc,reverse_nil->vq,getElem_mem->vr,take_append_of_le_length->vG,of_mem_zip->wd,forIn_cons->wg,take_succ->yk,drop_zero->yl,map_drop->Ab,getElem?_take_of_lt->Ac,pairwise_singleton->Av,take_of_length_le->BD,map_set->BE,set_append_right->CS,getElem?_eq_none->CT,map_congr_left->El
open Option.some renaming inj->aj,injEq->dY
open PySem renaming wpAny_bind->aq,Shared->av,Value->ax,model->aA,wpAny->aE,Addr->aK,wpAny_pure->aW,wpAny_mono->bp,wpAny_holding->bC,wpAny_standAt->bR,Heap->bV,Expr->bY,mainGlobals->cF,World->c0,compareOp->eh,wpAny_truthy_bool->eC,Params->eK,wpAny_items_cons->eT,recursionLimit->fb,wpAny_loadPart_at->fg,callEnv->fq,call_meets->fy,sizeLine->fz,excClassObj->fK,DictEntry->fZ,wpAny_isNot_plain->f7,NameKind->f9,getItem->gw,wpAny_execs_cons->gG,treeTable->gI,starEach->gJ,binaryOp->gM,Builtin->gO,codeAny->gZ,builtinsNs->g9,wpAny_items_nil->hZ,FuncData->ij,wpAny_ite->ik,swappedStores->iu,foldedSetIterable->iI,Stmt->iO,wpAny_is_plain->iT,wpAny_field->iU,typeLookup->iV,assignEach->iZ,assign->ji,wpAny_execs_nil->jr,importedModules->jw,OsState->jA,sizeLine_eq->jI,cLine->jM,wpAny_newObj_type->jW,wpAny_Call_ofName->jX,wpAny_rule->kQ,wpAny_release->kX,assignInOrder->kY,evalEach->mJ,cameBackBy->mK,backTo->mL,Around->mR,wpAny_assign_Name->nh,swapsWithSole->n9,rawInt->oj,wpAny_call->pO,truthy->pP,stored->pQ,pyIter->pR,isTrue->pT,intKind_is->pU,mem_of_lookup->pV,letOwnedTupleGo->qu,wpAny_typeLookup_exc->rO,wpAny_loadName_local->rP,wpAny_letTemporaryGo->rQ,interactive->r9,compEnvC->sh,arm_assign_Attribute->sF,Result->sH,spliced->sO,cellsFrom->sZ,wpAny_isSubtype_exc->ti,wpAny_Constant_str->vA,typeIs_str->vB,strKind_is->vC,setAttr->wu,concat_meets->w8,bootBuiltins->xd,Scope->xj,wpAny_call_entry->yt,noFill_tuple_add->yu,wpAny_operating->Ah,arm_exec_Assign->Ar,valueAt->AK,setItem->AP,notedBy->A0,holding->Bj,Program->BC,BindsTo->BI,wpAny_setField->BM,wpAny_Name->BN,typeIs_int->BS,markedBehindIn->Cp,wpAny_binaryOp_repeat_ref->C6,wpAny_getItem_list_slice->D7,wpAny_assignInOrder_none->D8,wpAny_assignInOrder_more->D9,seq_tuple_add->Ea,comprehension->Ej,Comprehension->En
open PyProof.Rows renaming wpS_bind->aM,pendingOf->aY,wpS_pure->bh,kindOf->cw,Keyed->cG,wpS_forRange->cO,SortSt->cQ,wpS_mono->ef,wpS_modify->gj,wpS_get->kW,seqObj->lH,oneType'->mG,wpS_lift->rN,arrOf->sD,sortedHeap->vD,tail_any->wq,failedOf->w5,get?_update_seq->Aq,size_push'->B1,setPending->B3,mergeAt'->Ck,listUpdate_at->Ee
open Nat renaming le_refl->aO,le_trans->aQ,lt_of_lt_of_le->bK,zero_le->bL,not_lt->bO,lt_of_le_of_lt->cm,ne_of_lt->dh,le_of_lt->dj,le_of_ble_eq_true->dD,le_succ_of_le->eu,beq->eG,le_of_eq->fS,succ_le_succ->gn,lt_irrefl->gX,lt_succ_self->iP,add_le_add_left->i3,le_succ->jn,lt_or_ge->jF,le_add_right->j7,add_sub_cancel_left->m8,sub_self->oB,not_lt_zero->oK,ble->qR,lt_trans->tJ,lt_succ_of_lt->tK,min_eq_left->xl,ne_of_gt->CQ,mul_comm->CR,eq_of_beq_eq_true->D3,ble_eq_true_of_le->D4
open PySem.Data renaming noConfusion->bk
open Bool renaming false_ne_true->bq,and_eq_true->bz,and_eq_true_iff->bG,false_eq_true->cN,false_or->q5,decide_or->yo,true_and->Ae,true_or->BF,not_not->BG,or_eq_true_iff->Eo,true->af,false->ag
open PySem.Heap renaming get?_push_of_some->br,lt_size->bx,get?_push_size->cE,get?_update_self->dQ,get?_update_other->el,SameBut->fv,size_push->iC,size_after_update->jC,get?_update_ne->kR,size_update->m3
open Exists renaming intro->bB
open PySem.W.Fast renaming te14364793385576792824->bN,te14374325043358763698->cu,te18344453789297297638->m6,te3399658132070893891->nZ,te821141287760084731->oA
open Or renaming elim->b8
open Int renaming toNat_natCast->cg,ofNat->cM,natCast_nonneg->eM,eq_ofNat_of_zero_le->e8,add_zero->fT,toNat_of_nonneg->gi,le_refl->gD,toNat->jo,mul_nonpos_of_nonpos_of_nonneg->sI,le_of_lt->tL,neg_one_mul->xm,emod_nonneg->xn,zero_add->CU,le_of_eq->CV,mul_one->Em
open PySem.W renaming look_both->cR,boot_drawn->hG,piecesOf->ig,boot_heap->iz,looks_pair->iX,topFrame->mD,Frag->qY,piece_app->sQ,findIn->yw,emptyDict->yx,boot_toks->yy,segRun->B4,nsIn->Ed
open PySem.Str renaming ofString->cU,join->tI
open PySem.PyData renaming keyHash->dq,depthAll->m7,eqv->DZ,canLayAll0->Ek
open Option renaming none->dv,toList_none->eF,map_eq_some_iff->jm,bind_eq_some_iff->mA,map_some->vp,isNone_iff_eq_none->xk,isSome_iff_exists->yj,toList_some->D0,isSome_none->D1,some->aa,none->ae
open PySem.Value renaming ref->dP,none->ie,type->xi
open ForInStep renaming yield->ec
open PySem.NameKind renaming free->eH
open List.cons renaming inj->eZ
open Eq renaming symm->fc
open Array renaming getElem?_eq_some_iff->fE,size_extract->lu,getElem?_toList->oF,toList_append->pW,size_map->xo,eraseIdxIfInBounds->yB,toArray_toList->CX,toList_modify->D5
open PySem.Txt renaming split->gm
open PySem.F renaming excBase_Exception->iB,plainAttrs_list->jP,slot_tuple_mul->kq,args_tuple_add_2->lK,store_Exception->l9,entry_tuple_add->ma,slot_tuple_add->mP,slot_str_split->oC,slot_list_pop->pL,slot_int_rmul->pM,slot_list_getitem->sJ,args_tuple_mul_2->tM,args_str_split_2->tN,entry_tuple_mul->vH,entry_str_split->vI
open PySem.Obj renaming mapSeq->iD,mapFields->kf,putName->wc,isFreed_of_fields->D2
open PySem.Builtin.Slice renaming sliceApplied->jQ,slicePlaces->j8,sliceAdjust->j9
open PySem.Around renaming frames_deeper->jV
open PySem.Builtin.Range renaming rangeSize->kU
open PySem.Code renaming builtin->kZ
open PySem.Calls renaming Name_function_global->lr,callWith_builtin->m9,loadGlobal_builtin->yA
open Ne renaming symm->lF
open PySem.Value.ref renaming inj->l6
open PySem.Heap.SameBut renaming update->m4
open PySem.Challenge renaming pw_nt0409_01->oX
open PySem.Builtin.Tuple renaming tupleTooMany->qZ
open PySem.Builtin.List renaming listFitsIndex->rM,listTooLong->td
open Classical renaming byContradiction->vu
open PySem.Heap.IsSliceOf renaming new->wh
open PySem.Builtin.Str renaming strKind->yn
open PySem.Arg renaming arg->yp
open PySem.EntryCells renaming newEntry->yz
open PySem.ScopeKind renaming function->As
open Prod.mk renaming inj->Au
open PySem.Expr renaming Name->Ax
open PySem.BindsTo renaming of_defaults->BH
open PyProof.Rows.SortSt renaming mk'->DX
noncomputable section
namespace Internal
variable {α:Type _}{α3 P5 CY yr:Sort _}{E D:yr->CY->Prop}{a:α}{C B A:yr->CY->P5->Prop}{P:Prop}
theorem pS {A B C:Prop}(h:A/\B/\C)(k:A->B->C->P):P:=k  h.1 h.2.1 h.2.2
theorem o03 {A B C D:Prop}(h:A/\B/\C/\D)(k:A->B->C->D->P):P:=k  h.1 h.2.1 h.2.2.1 h.2.2.2
theorem o04 {A B C D E:Prop}(h:A/\B/\C/\D/\E)(k:A->B->C->D->E->P):P:=k  h.1 h.2.1 h.2.2.1 h.2.2.2.1 h.2.2.2.2
theorem o05 {A B C D E F:Prop}(h:A/\B/\C/\D/\E/\F)(k:A->B->C->D->E->F->P):P:=k  h.1 h.2.1 h.2.2.1 h.2.2.2.1 h.2.2.2.2.1 h.2.2.2.2.2
theorem o06 {A B C D E F G:Prop}(h:A/\B/\C/\D/\E/\F/\G)(k:A->B->C->D->E->F->G->P):P:=k  h.1 h.2.1 h.2.2.1 h.2.2.2.1 h.2.2.2.2.1 h.2.2.2.2.2.1 h.2.2.2.2.2.2
theorem o08 {A B C D E F G H I:Prop}(h:A/\B/\C/\D/\E/\F/\G/\H/\I)(k:A->B->C->D->E->F->G->H->I->P):P:=k  h.1 h.2.1 h.2.2.1 h.2.2.2.1 h.2.2.2.2.1 h.2.2.2.2.2.1 h.2.2.2.2.2.2.1 h.2.2.2.2.2.2.2.1 h.2.2.2.2.2.2.2.2
theorem dC {A B:yr->Prop}(h:∃a,A a/\B a)(k:∀a,A a->B a->P):P:=h.elim λa h=>k a h.1 h.2
theorem tv {A B C:yr->Prop}(h:∃a,A a/\B a/\C a)(k:∀a,A a->B a->C a->P):P:=h.elim λa h=>k a h.1 h.2.1 h.2.2
theorem o13 {A B C D:yr->Prop}(h:∃a,A a/\B a/\C a/\D a)(k:∀a,A a->B a->C a->D a->P):P:=h.elim λa h=>k a h.1 h.2.1 h.2.2.1 h.2.2.2
theorem o14 {A B C D E:yr->Prop}(h:∃a,A a/\B a/\C a/\D a/\E a)(k:∀a,A a->B a->C a->D a->E a->P):P:=h.elim λa h=>k a h.1 h.2.1 h.2.2.1 h.2.2.2.1 h.2.2.2.2
theorem o15 {A B C D E F:yr->Prop}(h:∃a,A a/\B a/\C a/\D a/\E a/\F a)(k:∀a,A a->B a->C a->D a->E a->F a->P):P:=h.elim λa h=>k a h.1 h.2.1 h.2.2.1 h.2.2.2.1 h.2.2.2.2.1 h.2.2.2.2.2
theorem H0  {A:yr->CY->Prop}(h:∃a b,A a b)(k:∀a b,A a b->P):P:=h.elim λa h=>h.elim λb h=>k a b h
theorem Ec  {A B:yr->CY->Prop}(h:∃a b,A a b/\B a b)(k:∀a b,A a b->B a b->P):P:=h.elim λa h=>h.elim λb h=>k a b h.1 h.2
theorem mI  {A B C:yr->CY->Prop}(h:∃a b,A a b/\B a b/\C a b)(k:∀a b,A a b->B a b->C a b->P):P:=h.elim λa h=>h.elim λb h=>k a b h.1 h.2.1 h.2.2
theorem o23   {A B C:yr->CY->Prop}(h:∃a b,A a b/\B a b/\C a b/\D a b)(k:∀a b,A a b->B a b->C a b->D a b->P):P:=h.elim λa h=>h.elim λb h=>k a b h.1 h.2.1 h.2.2.1 h.2.2.2
theorem wL   {A B C:yr->CY->Prop}(h:∃a b,A a b/\B a b/\C a b/\D a b/\E a b)(k:∀a b,A a b->B a b->C a b->D a b->E a b->P):P:=h.elim λa h=>h.elim λb h=>k a b h.1 h.2.1 h.2.2.1 h.2.2.2.1 h.2.2.2.2
theorem o25   {A B C F:yr->CY->Prop}(h:∃a b,A a b/\B a b/\C a b/\D a b/\E a b/\F a b)(k:∀a b,A a b->B a b->C a b->D a b->E a b->F a b->P):P:=h.elim λa h=>h.elim λb h=>k a b h.1 h.2.1 h.2.2.1 h.2.2.2.1 h.2.2.2.2.1 h.2.2.2.2.2
theorem o30     (h:∃a b c,A a b c)(k:∀a b c,A a b c->P):P:=h.elim λa h=>h.elim λb h=>h.elim λc h=>k a b c h
theorem o31     (h:∃a b c,A a b c/\B a b c)(k:∀a b c,A a b c->B a b c->P):P:=h.elim λa h=>h.elim λb h=>h.elim λc h=>k a b c h.1 h.2
theorem Eb     (h:∃a b c,A a b c/\B a b c/\C a b c)(k:∀a b c,A a b c->B a b c->C a b c->P):P:=h.elim λa h=>h.elim λb h=>h.elim λc h=>k a b c h.1 h.2.1 h.2.2
theorem MH    {D:yr->CY->P5->Prop}(h:∃a b c,A a b c/\B a b c/\C a b c/\D a b c)(k:∀a b c,A a b c->B a b c->C a b c->D a b c->P):P:=h.elim λa h=>h.elim λb h=>h.elim λc h=>k a b c h.1 h.2.1 h.2.2.1 h.2.2.2
theorem o35    {D E F:yr->CY->P5->Prop}(h:∃a b c,A a b c/\B a b c/\C a b c/\D a b c/\E a b c/\F a b c)(k:∀a b c,A a b c->B a b c->C a b c->D a b c->E a b c->F a b c->P):P:=h.elim λa h=>h.elim λb h=>h.elim λc h=>k a b c h.1 h.2.1 h.2.2.1 h.2.2.2.1 h.2.2.2.2.1 h.2.2.2.2.2
theorem o41    {A B:yr->CY->P5->α3->Prop}(h:∃a b c d,A a b c d/\B a b c d)(k:∀a b c d,A a b c d->B a b c d->P):P:=h.elim λa h=>h.elim λb h=>h.elim λc h=>h.elim λd h=>k a b c d h.1 h.2
theorem MG    {A B C:yr->CY->P5->α3->Prop}(h:∃a b c d,A a b c d/\B a b c d/\C a b c d)(k:∀a b c d,A a b c d->B a b c d->C a b c d->P):P:=h.elim λa h=>h.elim λb h=>h.elim λc h=>h.elim λd h=>k a b c d h.1 h.2.1 h.2.2
theorem o43    {A B C D:yr->CY->P5->α3->Prop}(h:∃a b c d,A a b c d/\B a b c d/\C a b c d/\D a b c d)(k:∀a b c d,A a b c d->B a b c d->C a b c d->D a b c d->P):P:=h.elim λa h=>h.elim λb h=>h.elim λc h=>h.elim λd h=>k a b c d h.1 h.2.1 h.2.2.1 h.2.2.2
theorem fw   (h:ae=aa a):P:=nomatch h
theorem oSN   (h:aa a=ae):P:=nomatch h
theorem oTF (h:af=ag):P:=nomatch h
theorem jE (h:ag=af):P:=nomatch h
end Internal
end
noncomputable section
namespace Internal.Ln
inductive N|v (i:Nat)|k (n:Nat)|a (s t:N)|m (n:Nat) (t:N)|r (t:N) (n:Nat)
inductive I|v (i:Nat)|k (n:Nat)|a (s t:I)|b (s t:I)|m (n:Nat) (t:I)|c (t:N)|g (t:I)
inductive F|ln (s t:N)|sn (s t:N)|en (s t:N)|li (s t:I)|si (s t:I)|ei (s t:I)|and (a b:F)|or (a b:F)|not (a:F)|imp (a b:F)|ff|p (i:Nat)
noncomputable def qj {α:Type}(d:α):List α->Nat->α
 |[],_=>d
 |a::_,0=>a
 |_::l,i+1=>qj d l i
section
variable (ns:List Nat)(js:List Int)(ps:List Prop)
def N.d:N->Nat
 |.v i=>qj 0 ns i
 |.k n=>n
 |.a s t=>s.d+t.d
 |.m n t=>n*t.d
 |.r t n=>t.d*n
def I.d:I->Int
 |.v i=>qj 0 js i
 |.k n=>cM n
 |.a s t=>s.d+t.d
 |.b s t=>s.d-t.d
 |.m n t=>cM n*t.d
 |.c t=>((t.d ns:Nat):Int)
 |.g t=>- t.d
def F.d:F->Prop
 |.ln s t=>s.d ns<=t.d ns
 |.sn s t=>s.d ns<t.d ns
 |.en s t=>s.d ns=t.d ns
 |.li s t=>s.d ns js<=t.d ns js
 |.si s t=>s.d ns js<t.d ns js
 |.ei s t=>s.d ns js=t.d ns js
 |.and a b=>a.d/\b.d
 |.or a b=>a.d\/b.d
 |.not a=>¬a.d
 |.imp a b=>a.d->b.d
 |.ff=>False
 |.p i=>qj True ps i
end
noncomputable def un:Nat->List Int
 |0=>[1]
 |i+1=>0::un i
noncomputable def ad:List Int->List Int->List Int
 |[],l=>l
 |a::k,l=>match l with
  |[]=>a::k
  |b::l=>(a+b)::ad k l
noncomputable def sc (c:Int):List Int->List Int
 |[]=>[]
 |a::l=>(c*a)::sc c l
def N.l:N->List Int
 |.v i=>un (2*i+1)
 |.k n=>[cM n]
 |.a s t=>ad s.l t.l
 |.m n t=>sc (cM n) t.l
 |.r t n=>sc (cM n) t.l
def I.l:I->List Int
 |.v i=>un (2*i+2)
 |.k n=>[cM n]
 |.a s t=>ad s.l t.l
 |.b s t=>ad s.l (sc (-1) t.l)
 |.m n t=>sc (cM n) t.l
 |.c t=>t.l
 |.g t=>sc (-1) t.l
noncomputable def dot:List Int->(Nat->Int)->Int
 |[],_=>0
 |a::l,e=>a*e 0+dot l λi=>e (i+1)
theorem HA (i:Nat):∀e,dot (un i) e=e i:=by
 induction i with
 |zero=>intro e;show 1*e 0+0=e 0;rw[Int.one_mul,fT]
 |succ i ih=>intro e;show 0*e 0+dot (un i) _=_;rw[ih,Int.zero_mul,CU]
theorem pE (k:List Int):∀l e,dot (ad k l) e=dot k e+dot l e:=by
 induction k with
 |nil=>intro l e;exact(CU _).symm
 |cons a k ih =>
  intro l e;cases l with
  |nil=>exact(fT _).symm
  |cons b l =>show(a+b)*e 0+dot (ad k l) _=_;rw[ih,Int.add_mul];show _=a*e 0+_+(b*e 0+_);generalize dot k _=x;generalize dot l _=y;generalize a*e 0=u;generalize b*e 0=v;lia
theorem pD (c:Int)(l:List Int):∀e,dot (sc c l) e=c*dot l e:=by
 induction l with
 |nil=>intro e;exact(Int.mul_zero c).symm
 |cons a l ih =>intro e;show c*a*e 0+dot (sc c l) _=c*(a*e 0+dot l _);rw[ih,Int.mul_add,Int.mul_assoc]
section
variable {ns:List Nat}{js:List Int}{e:Nat->Int}(e0:e 0=1)(en:∀i,e (2*i+1)=(qj 0 ns i:Nat))(ej:∀i,e (2*i+2)=qj 0 js i)
include e0 en
theorem dk (n:Nat):dot [cM n] e=cM n:=by show cM n*e 0+0=_;rw[e0,Em,fT]
theorem N.ok (t:N):dot t.l e=(t.d ns:Nat):=by
 induction t with
 |v i=>exact(HA _ _).trans (en i)
 |k n=>exact dk e0 en n
 |a s t h h'=>exact(pE _ _ _).trans (by rw[h,h'];rfl)
 |m n t h=>exact(pD _ _ _).trans (by rw[h];rfl)
 |r t n h=>exact(pD _ _ _).trans (by rw[h];exact Int.mul_comm _ _)
include ej
theorem I.ok (t:I):dot t.l e=t.d ns js:=by
 induction t with
 |v i=>exact(HA _ _).trans (ej i)
 |k n=>exact dk e0 en n
 |a s t h h'=>exact(pE _ _ _).trans (by rw[h,h'];rfl)
 |b s t h h'=>exact(pE _ _ _).trans (by rw[h,pD,h',xm];rfl)
 |m n t h=>exact(pD _ _ _).trans (by rw[h];rfl)
 |c t=>exact N.ok e0 en t
 |g t h=>exact(pD _ _ _).trans (by rw[h,xm];rfl)
end
def sb (k:Nat)(s t:List Int):List Int:=ad [- cM k] (ad t (sc (-1) s))
def fm:Nat->List (List Int)->List Int×Nat
 |n,[]=>([],n)
 |n,l::r=>bif eG (n%2) 0 then fm (n/2) r else bif eG (n/2%2) 0 then(ad l (fm (n/4) r).1,(fm (n/4) r).2)else(ad (sc (cM (n/4%64)) l) (fm (n/256) r).1,(fm (n/256) r).2)
noncomputable def PJ:List Int->Bool
 |[]=>af
 |a::l=>decide (a<=0)&&match l with
  |[]=>af
  |b::l=>decide (b=0)&&PJ l
noncomputable def bad:List Int->Bool
 |[]=>ag
 |a::l=>decide (a<0)&&PJ l
def tab:Nat->List (Bool×F)->List (List Int)->Nat->Option Nat
 |0,_,_,_=>ae
 |_+1,[],L,n=>let q:=fm n L;bif bad q.1 then aa q.2 else ae
 |f+1,(b,x)::r,L,n=>match x with
  |.ln s t=>tab f r ((match b with|true=>sb 0 s.l t.l|false=>sb 1 t.l s.l)::L) n
  |.sn s t=>tab f r ((match b with|true=>sb 1 s.l t.l|false=>sb 0 t.l s.l)::L) n
  |.li s t=>tab f r ((match b with|true=>sb 0 s.l t.l|false=>sb 1 t.l s.l)::L) n
  |.si s t=>tab f r ((match b with|true=>sb 1 s.l t.l|false=>sb 0 t.l s.l)::L) n
  |.en s t=>match b with
   |true=>tab f r (sb 0 s.l t.l::sb 0 t.l s.l::L) n
   |false=>(tab f r (sb 1 s.l t.l::L) n).bind (tab f r (sb 1 t.l s.l::L))
  |.ei s t=>match b with
   |true=>tab f r (sb 0 s.l t.l::sb 0 t.l s.l::L) n
   |false=>(tab f r (sb 1 s.l t.l::L) n).bind (tab f r (sb 1 t.l s.l::L))
  |.and x y=>match b with
   |true=>tab f ((af,x)::(af,y)::r) L n
   |false=>(tab f ((ag,x)::r) L n).bind (tab f ((ag,y)::r) L)
  |.or x y=>match b with
   |false=>tab f ((ag,x)::(ag,y)::r) L n
   |true=>(tab f ((af,x)::r) L n).bind (tab f ((af,y)::r) L)
  |.imp x y=>match b with
   |false=>tab f ((af,x)::(ag,y)::r) L n
   |true=>(tab f ((ag,x)::r) L n).bind (tab f ((af,y)::r) L)
  |.not x=>tab f ((!b,x)::r) L n
  |.ff=>match b with
   |true=>aa n
   |false=>tab f r L n
  |.p _=>tab f r L n
theorem CN:∀(l:List Int) (e:Nat->Int),(∀i,0<=e (2*i))->PJ l=af->dot l e<=0
 |[],_,_,_=>gD _
 |[a],e,h,q=>by have q:=bG.1 q;show a*e 0+0<=0;rw[fT];exact sI (of_decide_eq_true q.1) (h 0)
 |a::b::l,e,h,q=>by have q:=bG.1 q;have q2:=bG.1 q.2;show a*e 0+(b*e 1+dot l _)<=0;rw[of_decide_eq_true q2.1,Int.zero_mul,CU];exact Int.add_nonpos (sI (of_decide_eq_true q.1) (h 0)) (CN l _ (λi=>h (i+1)) q2.2)
section
variable {ns:List Nat}{js:List Int}{ps:List Prop}{e:Nat->Int}(e0:e 0=1)(en:∀i,e (2*i+1)=(qj 0 ns i:Nat))(ej:∀i,e (2*i+2)=qj 0 js i)
def sg (ns:List Nat)(js:List Int)(ps:List Prop):Bool->F->Prop
 |true,x=>x.d ns js ps
 |false,x=>¬x.d ns js ps
include e0
theorem mE {k:Nat}{s t:List Int}(h:dot s e+cM k<=dot t e):0<=dot (sb k s t) e:=by
 unfold sb;rw[pE,pE,pD,xm];have:dot [- cM k] e =-cM k:=by show-cM k*e 0+0=_;rw[e0,Em,fT]
 rw[this];lia
theorem aab:∀(L:List (List Int)) n,(∀l∈L,0<=dot l e)->0<=dot (fm n L).1 e:=by
 intro L;induction L with
 |nil=>intro n _;exact gD _
 |cons l r ih =>
  intro n h;have hr:=λx m=>h x (.tail l m);show 0<=dot (bif eG (n%2) 0 then fm (n/2) r else bif eG (n/2%2) 0 then(ad l (fm (n/4) r).1,(fm (n/4) r).2)else(ad (sc (cM (n/4%64)) l) (fm (n/256) r).1,(fm (n/256) r).2)).1 e;induction eG (n%2) 0 with
  |true=>exact ih _ hr
  |false =>
   induction eG (n/2%2) 0 with
   |true =>show 0<=dot (ad _ _) e;rw[pE];exact Int.add_nonneg (h l (.head _)) (ih _ hr)
   |false =>show 0<=dot (ad _ _) e;rw[pE,pD];exact Int.add_nonneg (Int.mul_nonneg (eM _) (h l (.head _))) (ih _ hr)
include en
theorem PD {l:List Int}(h:bad l=af)(q:0<=dot l e):False:=by
 cases l with
 |nil=>cases h
 |cons a l =>have h:=bG.1 h;have q:0<=a*e 0+dot l _:=q;rw[e0,Em]at q;have:=CN l (λi=>e (i+1)) (λi=>by show 0<=e (2*i+1);rw[en i];exact eM _) h.2;have:=of_decide_eq_true h.1;lia
include ej
theorem NA:∀(f:Nat) (r:List (Bool×F)) (L:List (List Int)) (n m:Nat),tab f r L n=aa m->(∀q∈r,sg ns js ps q.1 q.2)->(∀l∈L,0<=dot l e)->False:=by
 intro f;induction f with
 |zero=>exact λr L n m h=>nomatch h
 |succ f ih =>
  have pu:∀ {l:List Int} {L},(∀l∈L,0<=dot l e)->0<=dot l e->∀x∈l::L,0<=dot x e:=λh q=>kj.2 ⟨q,h⟩;have pq:∀ {b:Bool} {x:F} {r},(∀q∈r,sg ns js ps q.1 q.2)->sg ns js ps b x->∀q∈(b,x)::r,sg ns js ps q.1 q.2:=λh q=>kj.2 ⟨q,h⟩;have two:∀ {o:Option Nat} {g:Nat->Option Nat} {m},o.bind g=aa m->(∀m,o=aa m->False)\/(∀n m,g n=aa m->False)->False:=λ{o g m} h q=>by
   induction o with
   |none=>cases h
   |some k=>exact q.elim (λq=>q _ rfl) λq=>q _ _ h
  intro r L n m;induction r using List.casesOn with
  |nil =>
   intro h _ hL;have h:(bif bad (fm n L).1 then aa (fm n L).2 else ae)=aa m:=h;induction hb:bad (fm n L).1 with
   |true=>exact PD e0 en hb (aab e0 L n hL)
   |false=>rw[hb]at h;cases h
  |cons z r =>
   refine λh hr hL=>?_;have key:∀b x,sg ns js ps b x->(∀q∈r,sg ns js ps q.1 q.2)->tab (f+1) ((b,x)::r) L n=aa m->False:=λb x=>by
    have go:=λ{l} hr (q:0<=dot l e) (h:tab f r (l::L) n=aa m)=>ih r _ n m h hr (pu hL q);have ge:=λ{s t:List Int} hr (q:dot s e=dot t e) (h:tab f r (sb 0 s t::sb 0 t s::L) n=aa m)=>ih r _ n m h hr (pu (pu hL (mE e0 (by rw[q];exact CV (fT _)))) (mE e0 (by rw[q];exact CV (fT _))));have ne:=λ{s t:List Int} hr (q:dot s e≠dot t e) (h:(tab f r (sb 1 s t::L) n).bind (tab f r (sb 1 t s::L))=aa m) =>
     two h ((Int.lt_or_gt_of_ne q).imp (λq m h=>ih r _ n m h hr (pu hL (mE e0 q))) λq n m h=>ih r _ n m h hr (pu hL (mE e0 q)))
    have N:=N.ok (ns:=ns) e0 en;have I:=I.ok (ns:=ns) (js:=js) e0 en ej;have z:∀ {x y:Int},x<=y->x+cM 0<=y:=λh=>Int.le_trans (CV (fT _)) h;have cl:∀ {x y:Nat} {s t:List Int},dot s e=(x:Nat)->dot t e=(y:Nat)->x<=y->dot s e+cM 0<=dot t e:=λa b h=>z (by rw[a,b];exact Int.ofNat_le.2 h);have cs:∀ {x y:Nat} {s t:List Int},dot s e=(x:Nat)->dot t e=(y:Nat)->x<y->dot s e+cM 1<=dot t e:=λa b h=>by rw[a,b];exact Int.ofNat_le.2 h
    have il:∀ {x y:Int} {s t:List Int},dot s e=x->dot t e=y->x<=y->dot s e+cM 0<=dot t e:=λa b h=>z (by rw[a,b];exact h);have is:∀ {x y:Int} {s t:List Int},dot s e=x->dot t e=y->x<y->dot s e+cM 1<=dot t e:=λa b h=>by rw[a,b];exact h
    induction x using F.casesOn with
    |ln s t=>induction b with
     |true=>exact λhx hr h=>go hr (mE e0 (cl (N s) (N t) hx)) h
     |false=>exact λhx hr h=>go hr (mE e0 (cs (N t) (N s) (Nat.not_le.1 hx))) h
    |sn s t=>induction b with
     |true=>exact λhx hr h=>go hr (mE e0 (cs (N s) (N t) hx)) h
     |false=>exact λhx hr h=>go hr (mE e0 (cl (N t) (N s) (bO.1 hx))) h
    |li s t=>induction b with
     |true=>exact λhx hr h=>go hr (mE e0 (il (I s) (I t) hx)) h
     |false=>exact λhx hr h=>go hr (mE e0 (is (I t) (I s) (Int.not_le.1 hx))) h
    |si s t=>induction b with
     |true=>exact λhx hr h=>go hr (mE e0 (is (I s) (I t) hx)) h
     |false=>exact λhx hr h=>go hr (mE e0 (il (I t) (I s) (Int.not_lt.1 hx))) h
    |en s t=>induction b with
     |true=>exact λhx hr h=>ge hr ((N s).trans ((congrArg cM hx).trans (N t).symm)) h
     |false=>exact λhx hr h=>ne hr (λq=>hx (Int.ofNat.inj ((N s).symm.trans (q.trans (N t))))) h
    |ei s t=>induction b with
     |true=>exact λhx hr h=>ge hr ((I s).trans (hx.trans (I t).symm)) h
     |false=>exact λhx hr h=>ne hr (λq=>hx ((I s).symm.trans (q.trans (I t)))) h
    |and x y=>induction b with
     |true=>exact λhx hr h=>ih _ L n m h (pq (pq hr (And.right hx)) (And.left hx)) hL
     |false=>exact λhx hr h=>two h ((Classical.not_and_iff_not_or_not.1 hx).imp (λq m h=>ih _ L n m h (pq hr q) hL) λq n m h=>ih _ L n m h (pq hr q) hL)
    |or x y=>induction b with
     |false=>exact λhx hr h=>ih _ L n m h (pq (pq hr (λq=>hx (.inr q))) (λq=>hx (.inl q))) hL
     |true=>exact λhx hr h=>two h (Or.imp (λq m h=>ih _ L n m h (pq hr q) hL) (λq n m h=>ih _ L n m h (pq hr q) hL) hx)
    |imp x y=>induction b with
     |false=>exact λhx hr h=>ih _ L n m h (pq (pq hr (λq=>hx λU=>q)) (vu λq=>hx λz=>absurd z q)) hL
     |true=>exact λhx hr h=>two h ((Classical.em (x.d ns js ps)).symm.imp (λq m h=>ih _ L n m h (pq hr q) hL) λq n m h=>ih _ L n m h (pq hr (hx q)) hL)
    |not x=>induction b with
     |true=>exact λhx hr h=>ih _ L n m h (pq hr hx) hL
     |false=>exact λhx hr h=>ih _ L n m h (pq hr (Classical.not_not.1 hx)) hL
    |ff=>induction b with
     |true=>exact λhx hr h=>hx
     |false=>exact λhx hr h=>ih _ L n m h hr hL
    |p i=>exact λhx hr h=>ih _ L n m h hr hL
   exact key z.1 z.2 (hr _ (.head _)) (λq m=>hr q (.tail _ m)) h
end
def ev (ns:List Nat)(js:List Int):Nat->Int
 |0=>1
 |1=>(qj 0 ns 0:Nat)
 |2=>qj 0 js 0
 |i+3=>ev (ns.drop 1) (js.drop 1) (i+1)
theorem zH {α:Type}(d:α)(l:List α)(i:Nat):qj d (l.drop 1) i=qj d l (i+1):=by cases l<;>cases i<;>rfl
theorem acT (i:Nat):∀ns js,ev ns js (2*i+1)=(qj 0 ns i:Nat):=by
 induction i with
 |zero=>intro ns js;rfl
 |succ i ih=>intro ns js;exact(ih _ _).trans (by rw[zH])
theorem acU (i:Nat):∀ns js,ev ns js (2*i+2)=qj 0 js i:=by
 induction i with
 |zero=>intro ns js;rfl
 |succ i ih=>intro ns js;exact(ih _ _).trans (by rw[zH])
theorem IB {x:F}{n m:Nat}(h:tab 99 [(ag,x)] [] n=aa m)(ns:List Nat)(js:List Int)(ps:List Prop):x.d ns js ps :=
 vu λq=>NA (e:=ev ns js) rfl (λi=>acT i _ _) (λi=>acU i _ _) 99 [(ag,x)] [] n m h (kj.2 ⟨q,λU m=>nomatch m⟩) λU m=>nomatch m
inductive D|s (a b:N)|n (a b:N)|x (a b:N)|d (a:N) (k:Nat)|t (a:I)|a (a:I)
noncomputable def N.o (k:Nat):N->Bool
 |.v i=>decide (i<k)
 |.k _=>af
 |.a s t=>s.o k&&t.o k
 |.m _ t=>t.o k
 |.r t _=>t.o k
noncomputable def I.o (k:Nat):I->Bool
 |.v _=>af
 |.k _=>af
 |.a s t=>s.o k&&t.o k
 |.b s t=>s.o k&&t.o k
 |.m _ t=>t.o k
 |.c t=>t.o k
 |.g t=>t.o k
def D.o (k:Nat):D->Bool
 |.s p q=>p.o k&&q.o k
 |.n p q=>p.o k&&q.o k
 |.x p q=>p.o k&&q.o k
 |.d p j=>p.o k&&decide (0<j)
 |.t p=>p.o k
 |.a p=>p.o k
def D.e (l:List Nat)(j:List Int):D->Nat
 |.s p q=>p.d l-q.d l
 |.n p q=>min (p.d l) (q.d l)
 |.x p q=>max (p.d l) (q.d l)
 |.d p k=>p.d l/k
 |.t p=>(p.d l j).toNat
 |.a p=>(p.d l j).natAbs
noncomputable def D.f (k:Nat):D->F
 |.s p q=>.or (.en (.a (.v k) q) p) (.and (.en (.v k) (.k 0)) (.sn p q))
 |.n p q=>.or (.and (.en (.v k) p) (.ln p q)) (.and (.en (.v k) q) (.sn q p))
 |.x p q=>.or (.and (.en (.v k) q) (.ln p q)) (.and (.en (.v k) p) (.sn q p))
 |.d p j=>.and (.ln (.m j (.v k)) p) (.sn p (.a (.m j (.v k)) (.k j)))
 |.t p=>.or (.ei (.c (.v k)) p) (.and (.en (.v k) (.k 0)) (.si p (.k 0)))
 |.a p=>.or (.ei (.c (.v k)) p) (.and (.ei (.c (.v k)) (.g p)) (.si p (.k 0)))
def ext:List D->List Nat->List Int->List Nat
 |[],l,_=>l
 |d::r,l,j=>ext r (l++[d.e l j]) j
noncomputable def wr:List D->Nat->F->F
 |[],_,x=>x
 |d::r,k,x=>.imp (d.f k) (wr r (k+1) x)
def PR:List D->Nat->Bool
 |[],_=>af
 |d::r,k=>d.o k&&PR r (k+1)
theorem MI:∀(l r:List Nat) (i:Nat),i<l.length->qj 0 (l++r) i=qj 0 l i
 |[],_,_,h=>absurd h (oK _)
 |_::_,_,0,_=>rfl
 |_::l,r,i+1,h=>MI l r i (Nat.lt_of_succ_lt_succ h)
theorem uA:∀(l r:List Nat) (v:Nat),qj 0 (l++v::r) l.length=v
 |[],_,_=>rfl
 |_::l,r,v=>uA l r v
theorem N.ly (l r:List Nat):∀t:N,t.o l.length=af->t.d (l++r)=t.d l
 |.v i,h=>MI l r i (of_decide_eq_true h)
 |.k _,_=>rfl
 |.a s t,h=>by have h:=bG.1 h;show s.d _+t.d _=_;rw[N.ly l r s h.1,N.ly l r t h.2];rfl
 |.m n t,h=>by show n*t.d _=_;rw[N.ly l r t h];rfl
 |.r t n,h=>by show t.d _*n=_;rw[N.ly l r t h];rfl
theorem I.ly (l r:List Nat)(j:List Int):∀t:I,t.o l.length=af->t.d (l++r) j=t.d l j
 |.v i,h=>rfl
 |.k _,_=>rfl
 |.a s t,h=>by have h:=bG.1 h;show s.d _ j+t.d _ j=_;rw[I.ly l r j s h.1,I.ly l r j t h.2];rfl
 |.b s t,h=>by have h:=bG.1 h;show s.d _ j-t.d _ j=_;rw[I.ly l r j s h.1,I.ly l r j t h.2];rfl
 |.m n t,h=>by show cM n*t.d _ j=_;rw[I.ly l r j t h];rfl
 |.c t,h=>congrArg cM (N.ly l r t h)
 |.g t,h=>congrArg Int.neg (I.ly l r j t h)
theorem Hh:∀(ds:List D) (l:List Nat) (j:List Int),∃r,ext ds l j=l++r
 |[],l,_=>⟨[],(aP l).symm⟩
 |d::ds,l,j=>let ⟨r,e⟩:=Hh ds (l++[d.e l j]) j;⟨d.e l j::r,e.trans (aV ..)⟩
theorem fs (a b:Nat):a-b+b=a\/a-b=0/\a<b:=(jF a b).elim (λh=>.inr ⟨Nat.sub_eq_zero_of_le (dj h),h⟩) λh=>.inl (Nat.sub_add_cancel h)
theorem fi (a b:Nat):min a b=a/\a<=b\/min a b=b/\b<a:=(jF b a).elim (λh=>.inr ⟨Nat.min_eq_right (dj h),h⟩) λh=>.inl ⟨xl h,h⟩
theorem fx (a b:Nat):max a b=b/\a<=b\/max a b=a/\b<a:=(jF b a).elim (λh=>.inr ⟨Nat.max_eq_left (dj h),h⟩) λh=>.inl ⟨Nat.max_eq_right h,h⟩
theorem ft (a:Int):(a.toNat:Int)=a\/a.toNat=0/\a<0:=(Int.lt_or_le a 0).elim (λh=>.inr ⟨Int.toNat_of_nonpos (tL h),h⟩) λh=>.inl (gi h)
theorem fa (a:Int):(a.natAbs:Int)=a\/(a.natAbs:Int) = -a/\a<0:=(Int.lt_or_le a 0).elim (λh=>.inr ⟨Int.ofNat_natAbs_of_nonpos (tL h),h⟩) λh=>.inl (Int.natAbs_of_nonneg h)
theorem fd (a k:Nat)(h:0<k):k*(a/k)<=a/\a<k*(a/k)+k:=⟨Nat.mul_div_le a k,Nat.lt_mul_div_succ a h⟩
theorem D.acR (l r:List Nat)(j:List Int)(ps:List Prop)(z:D)(h:z.o l.length=af):(z.f l.length).d (l++z.e l j::r) j ps:=by
 induction z with
 |s p q =>have h:=bG.1 h;show qj 0 _ _+q.d _=p.d _\/qj 0 _ _=0/\p.d _<q.d _;rw[uA,N.ly l _ p h.1,N.ly l _ q h.2];exact fs _ _
 |n p q =>have h:=bG.1 h;show qj 0 _ _=p.d _/\p.d _<=q.d _\/qj 0 _ _=q.d _/\q.d _<p.d _;rw[uA,N.ly l _ p h.1,N.ly l _ q h.2];exact fi _ _
 |x p q =>have h:=bG.1 h;show qj 0 _ _=q.d _/\p.d _<=q.d _\/qj 0 _ _=p.d _/\q.d _<p.d _;rw[uA,N.ly l _ p h.1,N.ly l _ q h.2];exact fx _ _
 |d p k =>have h:=bG.1 h;show k*qj 0 _ _<=p.d _/\p.d _<k*qj 0 _ _+k;rw[uA,N.ly l _ p h.1];exact fd _ _ (of_decide_eq_true h.2)
 |t p =>show(qj 0 _ _:Nat)=p.d _ j\/qj 0 _ _=0/\p.d _ j<0;rw[uA,I.ly l _ j p h];exact ft _
 |a p =>show(qj 0 _ _:Nat)=p.d _ j\/(qj 0 _ _:Nat) =-p.d _ j/\p.d _ j<0;rw[uA,I.ly l _ j p h];exact fa _
theorem K3 (j:List Int)(ps:List Prop)(x:F):∀(ds:List D) (l:List Nat),PR ds l.length=af->(wr ds l.length x).d (ext ds l j) j ps->x.d (ext ds l j) j ps
 |[],_,_,h=>h
 |d::ds,l,q,h=>by have q:=bG.1 q;have L:(l++[d.e l j]).length=l.length+1:=ao;refine K3 j ps x ds (l++[d.e l j]) (by rw[L];exact q.2) ?_;rw[L];refine h ?_;obtain⟨r,e⟩:=Hh ds (l++[d.e l j]) j;show(d.f l.length).d (ext ds (l++[d.e l j]) j) j ps;rw[e,aV];exact D.acR l r j ps d q.1
noncomputable def n1 {α β:Type}(z:β)(k:α->List α->β):List α->β
 |t::a=>k t a
 |_=>z
noncomputable def n2 {α β:Type}(z:β)(k:α->α->List α->β):List α->β
 |t::s::a=>k t s a
 |_=>z
def run:Nat->Nat->List N->List I->List F->List D->F×List D×Nat
 |0,n,_,_,_,d=>(.ff,d,n)
 |f+1,n,a,b,c,d =>
  bif qR (n%64) 15 then run f (n/64) (.v (n%64)::a) b c d
  else bif qR (n%64) 23 then run f (n/64) (.k (n%64-16)::a) b c d
  else bif qR (n%64) 27 then run f (n/64) a (.v (n%64-24)::b) c d
  else bif qR (n%64) 30 then run f (n/64) a (.k (n%64-28)::b) c d
  else match n%64-31 with
  |0=>n2 (.ff,d,0) (λt s a=>run f (n/64) (.a s t::a) b c d) a
  |1=>n2 (.ff,d,0) (λt s b=>run f (n/64) a (.a s t::b) c d) b
  |2=>n2 (.ff,d,0) (λt s b=>run f (n/64) a (.b s t::b) c d) b
  |3=>n1 (.ff,d,0) (λt a=>run f (n/64/65536) (.m (n/64%65536) t::a) b c d) a
  |4=>n1 (.ff,d,0) (λt b=>run f (n/64/65536) a (.m (n/64%65536) t::b) c d) b
  |5=>n1 (.ff,d,0) (λt a=>run f (n/64) a (.c t::b) c d) a
  |6=>n1 (.ff,d,0) (λt b=>run f (n/64) a (.g t::b) c d) b
  |7=>n2 (.ff,d,0) (λt s a=>run f (n/64) a b (.ln s t::c) d) a
  |8=>n2 (.ff,d,0) (λt s a=>run f (n/64) a b (.sn s t::c) d) a
  |9=>n2 (.ff,d,0) (λt s a=>run f (n/64) a b (.en s t::c) d) a
  |10=>n2 (.ff,d,0) (λt s b=>run f (n/64) a b (.li s t::c) d) b
  |11=>n2 (.ff,d,0) (λt s b=>run f (n/64) a b (.si s t::c) d) b
  |12=>n2 (.ff,d,0) (λt s b=>run f (n/64) a b (.ei s t::c) d) b
  |13=>n2 (.ff,d,0) (λt s c=>run f (n/64) a b (.and s t::c) d) c
  |14=>n2 (.ff,d,0) (λt s c=>run f (n/64) a b (.or s t::c) d) c
  |15=>n2 (.ff,d,0) (λt s c=>run f (n/64) a b (.imp s t::c) d) c
  |16=>n1 (.ff,d,0) (λt c=>run f (n/64) a b (.not t::c) d) c
  |17=>run f (n/64) a b (.ff::c) d
  |18=>run f (n/2048) a b (.p (n/64%32)::c) d
  |19=>run f (n/64/131072) (.k (n/64%131072)::a) b c d
  |20=>run f (n/64/131072) a (.k (n/64%131072)::b) c d
  |21=>run f (n/64/18446744073709551616) (.k (n/64%18446744073709551616)::a) b c d
  |22=>run f (n/64/18446744073709551616) a (.k (n/64%18446744073709551616)::b) c d
  |23=>n1 (.ff,d,0) (λt a=>run f (n/64/65536) (.r t (n/64%65536)::a) b c d) a
  |24=>n2 (.ff,d,0) (λt s a=>run f (n/64) a b c (.s s t::d)) a
  |25=>n2 (.ff,d,0) (λt s a=>run f (n/64) a b c (.n s t::d)) a
  |26=>n2 (.ff,d,0) (λt s a=>run f (n/64) a b c (.x s t::d)) a
  |27=>n1 (.ff,d,0) (λt a=>run f (n/64/65536) a b c (.d t (n/64%65536)::d)) a
  |28=>n1 (.ff,d,0) (λt b=>run f (n/64) a b c (.t t::d)) b
  |29=>n1 (.ff,d,0) (λt b=>run f (n/64) a b c (.a t::d)) b
  |30=>run f (n/2048) a (.v (n/64%32)::b) c d
  |_=>n1 (.ff,d,0) (λx U=>(x,d,n/64)) c
def dec (n:Nat):F×List D×Nat:=run 200 n [] [] [] []
noncomputable def chk (k n:Nat):Bool:=PR (dec n).2.1 k&&match tab 99 [(ag,wr (dec n).2.1 k (dec n).1)] [] (dec n).2.2 with
 |some _=>af
 |none=>ag
theorem dK (k n:Nat)(h:chk k n=af)(l:List Nat)(e:l.length=k)(j:List Int)(ps:List Prop):(dec n).1.d (ext (dec n).2.1 l j) j ps:=by
 subst e;have h:=bG.1 h;refine K3 j ps _ _ l h.1 ?_;cases q:tab 99 [(ag,wr (dec n).2.1 l.length (dec n).1)] [] (dec n).2.2 with
 |none=>have h:=h.2;rw[q]at h;cases h
 |some m=>exact IB q _ j ps
def qn:Nat->(List Nat->Prop)->Prop
 |0,p=>p []
 |k+1,p=>∀⦃a:Nat⦄,qn k λl=>p (a::l)
def qi:Nat->(List Int->Prop)->Prop
 |0,p=>p []
 |k+1,p=>∀⦃a:Int⦄,qi k λl=>p (a::l)
def qp:Nat->(List Prop->Prop)->Prop
 |0,p=>p []
 |k+1,p=>∀⦃a:Prop⦄,qp k λl=>p (a::l)
theorem FV:∀(k:Nat) (p:List Nat->Prop),(∀l,l.length=k->p l)->qn k p
 |0,_,h=>h [] rfl
 |k+1,_,h=>λa=>FV k _ λl e=>h (a::l) (congrArg Nat.succ e)
theorem MD:∀(k:Nat) (p:List Int->Prop),(∀l,p l)->qi k p
 |0,_,h=>h []
 |k+1,_,h=>λa=>MD k _ λl=>h (a::l)
theorem MC:∀(k:Nat) (p:List Prop->Prop),(∀l,p l)->qp k p
 |0,_,h=>h []
 |k+1,_,h=>λa=>MC k _ λl=>h (a::l)
def Q (k n:Nat):Prop:=qn k λl=>(dec n).1.d (ext (dec n).2.1 l []) [] []
def W (k m r n:Nat):Prop:=qn k λl=>qi m λj=>qp r λps=>(dec n).1.d (ext (dec n).2.1 l j) j ps
theorem q {k n:Nat}(h:chk k n=af):Q k n:=FV k _ λl e=>dK k n h l e [] []
theorem w {k m r n:Nat}(h:chk k n=af):W k m r n:=FV k _ λl e=>MD m _ λj=>MC r _ λps=>dK k n h l e j ps
end Internal.Ln
namespace Internal
section
open Ln
theorem qq1:Q 3 0x17fba70809c27c000e27d1040:=q rfl
theorem qq2:Q 3 0x4844109110824911444a1feea017c402c99f080066040dc17c20370c2:=q rfl
theorem qq3:Q 3 0x5fee9c27c025993e981384f800a44fa20be012cc80:=q rfl
theorem qq4:Q 3 0x17fba709f49f4409c27c000e27d1040:=q rfl
theorem qq5:Q 3 0x17fba709f00148817c025993e981384f800a44fa20be012cc80:=q rfl
theorem qq6:Q 3 0x5fee9c27c000e205f4409c27c000e27d1040:=q rfl
theorem qq7:Q 4 0x57fbae9c27c0052205f009664f86fa604ca87384f800a44fa20be012cc80:=q rfl
theorem qq8:Q 3 0x5fee9c27c000e205f45f4409c27c000e27d1040:=q rfl
theorem qq9:Q 2 0x517fba609f4509c2437040:=q rfl
theorem YI:Q 2 0x2108a1447fbaea01028402980077040:=q rfl
theorem acg:Q 4 0x2a855feebae9c17c4026084980011905382f8010320380c2:=q rfl
theorem acf:Q 1 0x5fee98007f9017d52012000ff2:=q rfl
theorem ace:Q 2 0x5fee9c17d102705f480:=q rfl
theorem Yd:Q 2 0x9fee9c00687d1040:=q rfl
theorem Oh:Q 2 0x9fee9800687d2040:=q rfl
theorem acd:Q 2 0x17fba705f00236404e0be012cc80:=q rfl
theorem FQ:Q 2 0x9fee9800687d1040:=q rfl
theorem XG{a b c d:Nat}:a<b->a=c->b<=d->c<=d:=dK 4 0xa5feebae9830a60c1a02027040 rfl [a,b,c,d] rfl [] []
theorem Og{a b:Nat}:a<=b->a<=b+1:=dK 2 0x5fee99f441026040 rfl [a,b] rfl [] []
theorem Jl:Q 3 0x25feeba6081982028040:=q rfl
theorem acb:W 1 2 0 0x285feebaa86402405c9c1026040ee1658:=w rfl
theorem aca{a:Int}{b:Nat}:a+(b:Int)+1=a+((b+1:Nat):Int):=dK 1 0x5feb8247d101881d824018 rfl [b] rfl [a] []
theorem ab9{a b:Int}{c:Nat}:(((jo (a-b)):Nat):Int)-(c:Int)-1=(((jo (a-b)):Nat):Int)-((c+1:Nat):Int):=dK 1 0x2111feb8647d1024061761900901ee1658 rfl [c] rfl [a,b] []
theorem ab8:W 1 2 0 0x1145feeba990085962f9c1026040ee1658:=w rfl
theorem ab7:W 1 2 0 0xa17fbaea5c86402406f9c1026040ee1658:=w rfl
theorem ab6:Q 3 0x1141feeba8402a017c2028040:=q rfl
theorem ab5{a:Int}:a+(((0:Nat):Nat):Int)=a:=dK 0 0x17fad8824418 rfl [] rfl [a] []
theorem Wo{a b:Nat}:a<=b->b<=a->a=b:=dK 2 0x125feeba8040980066040 rfl [a,b] rfl [] []
theorem We{a b:Nat}:a<=b->a<b->b+1-(a+1)<b+1-a:=dK 2 0x4842048a1feeba70c29c1026040ddf4407d107701f441 rfl [a,b] rfl [] []
theorem ab4:Q 3 0x29feeba6080a010a6040:=q rfl
theorem ab3{a b:Nat}:a=b->b=a:=dK 2 0x125feea00068040 rfl [a,b] rfl [] []
theorem ab2{a b c d e f:Nat}:a<b->c<=d->d<a->e=c->b<=f->e<=f:=dK 6 0xa95feebaebae985126141a021270039830a7040 rfl [a,b,c,d,e,f] rfl [] []
theorem ab1:Q 3 0x14887fbae9c00e7081a027c1037440:=q rfl
theorem ab0:Q 3 0x1485124a47fbaea027df4410e7081a027c1037440:=q rfl
theorem abZ{a b:Nat}:a<b+15->a-b<15:=dK 2 0x895fee9c001f9053be000fc81037040 rfl [a,b] rfl [] []
theorem abY{a b:Nat}:a<=b->a+(b-a)=b:=dK 2 0x1424947fba805f080981037001 rfl [a,b] rfl [] []
theorem abX{a:Nat}:0<=a:=dK 1 0x1fe6010 rfl [a] rfl [] []
theorem abW:Q 1 0x17fba77c001f92004e000fc80:=q rfl
theorem abV:Q 1 0x2ff74ef8003f20007e404e001ec80:=q rfl
theorem abU:Q 1 0x2ff74ef8003f2000f6404e002cc80:=q rfl
theorem abT:Q 2 0x17fba705f002064fa204e0be0041c80:=q rfl
theorem abS:Q 0 0x7fbea71d:=q rfl
theorem abR{a:Nat}:¬(a:Int)<0:=dK 1 0x1fefa9c900 rfl [a] rfl [] []
theorem abQ:Q 1 0x5fee983fffffffffffffff40260000000001000000d00:=q rfl
theorem abP:Q 1 0x5fee98000000000400000340260000000001000000d00:=q rfl
theorem abO{a:Nat}:(a:Int)=0->a=0:=dK 1 0x147fba8400adc900 rfl [a] rfl [] []
theorem abN{a b c:Nat}:a<=b->b<=c->b-a<=c:=dK 3 0x5097fbae9820e6081981037001 rfl [a,b,c] rfl [] []
theorem abM{a b c:Nat}:a<=b->b<=c->(min a b)<=c:=dK 3 0x14257fbae9820e6081981038040 rfl [a,b,c] rfl [] []
theorem abL{a b:Nat}:a+b=b+a:=dK 2 0x5fe87c005f040 rfl [a,b] rfl [] []
theorem Tc{a b c d e f:Nat}:a+b<c->a=d->b=e->c<=f->d+e<=f:=dK 6 0x525feebaeba615f1039850a8101a0302709f040 rfl [a,b,c,d,e,f] rfl [] []
theorem abK:W 1 1 0 0x48a7fbae9c006982401872fa5873b824018:=w rfl
theorem abJ:W 0 1 0 0x17fbaa718be961c:=w rfl
theorem Sz{a:Int}:0<=a->¬a<0:=dK 0 0x17fbafa9c62961c rfl [] rfl [a] []
theorem abI{a:Int}:0<=a->a=(((jo a):Nat):Int):=dK 0 0x1229127fbab90062961ced8 rfl [] rfl [a] []
theorem abH:W 1 1 0 0x48a449feeae406090062982401873b824018:=w rfl
theorem abG:W 1 1 0 0x17fba9625900a6090061c:=w rfl
theorem RU:Q 1 0xbfdd300000000008000006804f86a0c80:=q rfl
theorem abF:Q 1 0xbfdd33e880000000008000006804c03e8c80:=q rfl
theorem Rz:Q 3 0x297fbae9807d190564c0034040d0000fc80:=q rfl
theorem abE:W 2 1 0 0x10a00410200800440042802081008008800841002200200220042080220040088008480020802002200424002080400880108400808100220084200a0210047fbaebacaa000000000000000356296258000000000000000d6db2ca0402982405872a718b280c0a587274000000000000000d029c103c63b63b824058:=w (by decide +kernel)
theorem abD:(0:Nat)+(1:Nat)<=(16777216:Nat)+(1:Nat):=dK 0 0x1fe67d10000000001000000d1f450 rfl [] rfl [] []
theorem abC:W 0 1 0 0x4925fee9c0000000100000003402ca800000000003d0903562a61cf18:=w rfl
theorem abB{a b c:Nat}:a=b->c=b->a<=(jo (c:Int)):=dK 3 0x408a7fbae983028042a0103b902 rfl [a,b,c] rfl [] []
theorem abA{a b c d:Nat}:a<=b->c=d->c<a->d<=b:=dK 4 0xa5feebae9810e7002a030a6040 rfl [a,b,c,d] rfl [] []
theorem abz{a b c d e:Nat}:a<=b->c<a/\d=1/\e<a->c<=b:=dK 5 0xa1feeba6042b2c9c01284439c00a6040 rfl [a,b,c,d,e] rfl [] []
theorem aby{a b c d e:Nat}:a<=b->c<a/\d=1/\e<a->e<=b:=dK 5 0x85feeba6044b2c9c01284439c00a6040 rfl [a,b,c,d,e] rfl [] []
theorem abx:Q 1 0x509082928885feea007c146fa10037440:=q rfl
theorem Ri{a b c d:Nat}:a<b->b<=c->a=d->d<=c:=dK 4 0xa9feebae9820e80c0982067040 rfl [a,b,c,d] rfl [] []
theorem abw{a b:Nat}:a=b->a<=b-1+1:=dK 2 0x9517fba67d1080a01037441 rfl [a,b] rfl [] []
theorem abv{a b:Nat}:a=b->¬b-1<b->b<=b-1:=dK 2 0x505feeba6081be7042a01037441 rfl [a,b] rfl [] []
theorem abu{a b:Nat}{c:Int}:a=b->(jo c)<a->(jo c)<b:=dK 2 0x2a15feeba70429c00a8040ed8 rfl [a,b] rfl [c] []
theorem abt{a b:Nat}{c:Int}:a<b->0<=c->b=100000->(jo c)<a->(-9223372036854775808)<=c/\c<9223372036854775808:=dK 2 0x10208522a10ff75d75d6550000000000000001ab14b12c0000000000000006b38015186a0c81a58727040ed8 rfl [a,b] rfl [c] []
theorem abr{a b c d:Nat}:a<b->b<=c->b=100000->a=d->d<=c:=dK 4 0x513fdd75d74c10740605186a0c81982067040 rfl [a,b,c,d] rfl [] []
theorem abq{a:Int}{b c:Nat}:0<=a->b=c->(jo a)<b->0<=a/\a<(c:Int):=dK 2 0x1150850a887fbaebacaa4058a58727002a0102961ced8 rfl [b,c] rfl [a] []
theorem abp{a b c d e:Nat}{f:Prop}:a+b<c->c=100000->a=d->b=e->¬f->d+e<=16777216:=dK 5 0x949feebaebae98000000000400000347c40ef0634080d0181461a8320a709f040 rfl [a,b,c,d,e] rfl [] [f]
theorem abo{a b c d e:Nat}:a+b<c->c<=d->c=100000->a=e->e<=d:=dK 5 0x513fdd75d74c18940805186a0c829830a709f040 rfl [a,b,c,d,e] rfl [] []
theorem abn{a b c d e f:Nat}:a+b<c->c<=d->c=100000->a=e->b=f->e+f<=d+1:=dK 6 0x2893fdd75d75d33e886f8a25028340805186a0c829830a709f040 rfl [a,b,c,d,e,f] rfl [] []
theorem abm:Q 2 0x5feebb09df010066040:=q rfl
theorem abl:Q 3 0x5fee9df7d10810277c27d1040:=q rfl
theorem abk:Q 3 0x15feeba70429c00a77d1040:=q rfl
theorem abj{a:Int}{b:Nat}:0<=a->a<(b:Int)->b<100000->(Int.natAbs a)<4611686018427387904:=dK 1 0x1224aff75d74e8000000000000001a033e1a83202a90062961cf18 rfl [b] rfl [a] []
theorem Rh{a:Int}{b:Nat}:0<=a->a<(b:Int)->(jo a)<b:=dK 1 0x5097fbae9c006a90062961ced8 rfl [b] rfl [a] []
theorem Rg:W 0 1 0 0x924bfdd74e8000000000000001a01561a83362961cf18:=w rfl
theorem abi:W 1 1 0 0x110542215fee9f0d419053e1a83203b637040:=w rfl
theorem abh:W 1 1 0 0x8a48892a925fee9f0d41905561a83363b638001:=w rfl
theorem abg:W 0 1 0 0x27fbafadc62a61c:=w rfl
theorem Rf{a:Int}:0<=a->a<2147483647->(Int.natAbs a)<4611686018427387904:=dK 0 0x4925feeba74000000000000000d00a800000001ffffffff562961cf18 rfl [] rfl [a] []
theorem abf:(0:Int)<=(1:Int):=dK 0 0x1fe975c rfl [] rfl [] []
theorem abe:(0:Int)<=(0:Int):=dK 0 0x1fe971c rfl [] rfl [] []
theorem zo{a:Nat}:0<=(a:Int):=dK 1 0x7fa6401c rfl [a] rfl [] []
theorem Rd:Q 1 0x17fbaa9000ab94804e0055c80:=q rfl
theorem Jk:(85:Nat)<(100000:Nat):=dK 0 0x7f9f0d419001572 rfl [] rfl [] []
theorem qh:Q 1 0x17fba7c3506404e1388c80:=q rfl
theorem abd:Q 1 0x17fba7c35064fa204e1388c80:=q rfl
theorem abc{a:Nat}:((a+1:Nat):Int)-1=(a:Int):=dK 1 0x5feb90085d91f440 rfl [a] rfl [] []
theorem Jj:Q 2 0x5feeaa4064027040:=q rfl
theorem abb:Q 1 0x17fbafaa40240000000001000000d260000000001000000d00:=q rfl
theorem aba:Q 2 0x17fba709c46404e1388c9f7d1040:=q rfl
theorem aa9:Q 2 0x17fba709c464f82fa204e1388c9f7d1040:=q rfl
theorem YH:W 0 1 0 0x112bfdd3ac0540006cd8ed8:=w rfl
theorem YG:Q 2 0x57fbae9c271193e08132c0ce0fa0c80:=q rfl
theorem YF:Q 3 0x15feeba67d605f0809960a6040:=q rfl
theorem YE{a:Nat}:6<=2*a+10:=dK 1 0xff33e000ac8000a2016 rfl [a] rfl [] []
theorem YD{a b:Nat}:a+5+b+1<=a+(2*b+10):=dK 2 0xff33ef8002b2000288101f45f05f540 rfl [a,b] rfl [] []
theorem YC{a b:Nat}:a+5+b+1+b<=a+(2*b+10):=dK 2 0xff33ef8002b2000288101f05f45f05f540 rfl [a,b] rfl [] []
theorem YB{a b:Nat}:a+7+b+2<=a+(2*b+10):=dK 2 0xff33ef8002b2000288101f49f05f5c0 rfl [a,b] rfl [] []
theorem YA{a b:Nat}:a+4+b+5+b+1<=a+(2*b+10):=dK 2 0xff33ef8002b2000288101f45f05f55f05f500 rfl [a,b] rfl [] []
theorem Yz{a b:Nat}:a+4+b+4+b+2<=a+(2*b+10):=dK 2 0xff33ef8002b2000288101f49f05f51f05f500 rfl [a,b] rfl [] []
theorem Yy{a b:Nat}:a+5<=a+(2*b+10):=dK 2 0xff33ef8002b2000288101f540 rfl [a,b] rfl [] []
theorem Yx{a b:Nat}:a+2<=a+(2*b+10):=dK 2 0xff33ef8002b2000288101f480 rfl [a,b] rfl [] []
theorem MB{a b:Nat}:a<=a+b+b+b:=dK 2 0x1fe67c17c17c1000 rfl [a,b] rfl [] []
theorem Yw{a b:Nat}:a<=a+b+b:=dK 2 0x1fe67c17c1000 rfl [a,b] rfl [] []
theorem Yv{a b:Nat}:a<=a+b+b+b+b:=dK 2 0x1fe67c17c17c17c1000 rfl [a,b] rfl [] []
theorem Yu{a b:Nat}:a<=a+b:=dK 2 0x1fe67c1000 rfl [a,b] rfl [] []
theorem zv:Q 2 0x17fba709c46404e0fa0c9f040:=q rfl
theorem wH:Q 2 0x17fba709c464fa204e0fa0c9f040:=q rfl
theorem zu:Q 2 0x17fba709c464fa2fa204e0fa0c9f040:=q rfl
theorem wG:Q 2 0x17fba709c464fa2fa2fa204e0fa0c9f040:=q rfl
theorem Yt{a:Nat}:a<a+1+1+1:=dK 1 0x1fe77d17d17d1000 rfl [a] rfl [] []
theorem rX:Q 2 0x17fba709c464fa2fa2fa2fa204e0fa0c9f040:=q rfl
theorem Ys:Q 3 0x17fbae9c1f4193e13e8be8be8be8be881383e8327df000564000510404e0fa0c9f040:=q rfl
theorem wF:W 1 1 0 0xa9feeae4021758ae47d1018:=w rfl
theorem MA:Q 3 0x17fbae9c271193e13e8be8be8be8be881383e8327df000564000510404e0fa0c9f040:=q rfl
theorem FU:Q 3 0x17fbae9c271193e8be13e8be8be8be8be881383e8327df000564000510404e0fa0c9f040:=q rfl
theorem Mz:Q 2 0x5fee9c17d102605f4c0:=q rfl
theorem Yr:Q 2 0x5fee9c17d202605f4c0:=q rfl
theorem Yq:Q 2 0xbfdd383e8327c17d17c17d17d17d17d17d102707d064fbe000ac8000a2040:=q rfl
theorem Yp:Q 2 0xbfdd384e2327c17d17c17d17d17d17d17d102707d064fbe000ac8000a2040:=q rfl
theorem Yo:Q 3 0x15feeba709f48098206605f4c0:=q rfl
theorem Yn{a:Nat}:a<a+1+1:=dK 1 0x1fe77d17d1000 rfl [a] rfl [] []
theorem Ym:Q 2 0x17fba709c464fa2fa2fa2fa2fa204e0fa0c9f040:=q rfl
theorem Yl:Q 2 0x17fba709c464fa2fa2fa2fa2fa2fa204e0fa0c9f040:=q rfl
theorem Yk:Q 2 0xbfdd383e8327c17d17d17d17d17d17d17d102707d064fbe000ac8000a2040:=q rfl
theorem Yj:W 1 1 0 0xa9feeae47d1020758ae4018:=w rfl
theorem Yi:Q 3 0x17fbae9c271193e13e8be8be8be8be8be8be881383e8327df000564000510404e0fa0c9f040:=q rfl
theorem My:Q 3 0x17fbae9c271193e8be13e8be8be8be8be8be8be881383e8327df000564000510404e0fa0c9f040:=q rfl
theorem Yh:Q 2 0x27fbaf9c1028040:=q rfl
theorem Yg:Q 2 0x5fee9c17d102605f480:=q rfl
theorem Ye:Q 2 0x57fbae9f0d419033000ce1388c80:=q rfl
theorem Yc{a:Nat}:a<a+1+1+1+1:=dK 1 0x1fe77d17d17d17d1000 rfl [a] rfl [] []
theorem Yb:Q 3 0x17fbae9c1f4193e13e8be8be8be881383e8327df000564000510404e0fa0c9f040:=q rfl
theorem X9:Q 3 0x17fbae9c271193e13e8be8be8be881383e8327df000564000510404e0fa0c9f040:=q rfl
theorem X8:Q 3 0x17fbae9c271193e8be13e8be8be8be881383e8327df000564000510404e0fa0c9f040:=q rfl
theorem FT:Q 3 0x17fbae9c271193e8be8be13e8be8be8be881383e8327df000564000510404e0fa0c9f040:=q rfl
theorem X7:Q 2 0x5fee9c17d102605f500:=q rfl
theorem FR:Q 3 0x17fbae9c271193e8be8be8be13e8be8be8be881383e8327df000564000510404e0fa0c9f040:=q rfl
theorem X6:Q 3 0x2aff75d74f86a0c9f0809d86a190330032320a6040:=q rfl
theorem X5:Q 3 0x57fbae99f0064640be10130032320a6040:=q rfl
theorem Mx:Q 3 0x17fbae9c271193e8be8be8be8be13e8be8be8be881383e8327df000564000510404e0fa0c9f040:=q rfl
theorem Mw:Q 2 0x5fee9c17d202605f500:=q rfl
theorem X4:Q 2 0xbfdd383e8327c17d17d17d17d17c17d17d17d17d102707d064fbe000ac8000a2040:=q rfl
theorem X3:W 1 1 0 0x2a7fbab91f48080000a3758ae4018:=w rfl
theorem X2:Q 2 0xbfdd384e2327c17d17d17d17d17c17d17d17d17d102707d064fbe000ac8000a2040:=q rfl
theorem Mv:Q 2 0xbfdd384e2327d17c17d17d17d17d17c17d17d17d17d102707d064fbe000ac8000a2040:=q rfl
theorem Mu:Q 3 0x15feeba709f4c098206605f500:=q rfl
theorem X1:Q 2 0xbfdd383e8327c17d17d17d17d17d17c17d17d17d17d102707d064fbe000ac8000a2040:=q rfl
theorem X0:W 1 1 0 0x2a7fbab90080000a3718ae4018:=w rfl
theorem Mt:Q 2 0xbfdd384e2327c17d17d17d17d17d17c17d17d17d17d102707d064fbe000ac8000a2040:=q rfl
theorem XZ:W 0 1 0 0x245152feebadadd62b718a9e62961c:=w rfl
theorem XY:Q 1 0x17fba707d06404e0fa0c9f580:=q rfl
theorem XX:W 1 1 0 0x27fbaa61cae47d1018:=w rfl
theorem XW:Q 2 0x17fba707d06404e0fa0c9f040:=q rfl
theorem Ms{a:Nat}:a<a+1:=dK 1 0x1fe77d1000 rfl [a] rfl [] []
theorem Mr:Q 2 0x57fbae9df4007d19033000ce0384c80:=q rfl
theorem Mq:Q 1 0x17fba709c46404e0384c80:=q rfl
theorem Mp:Q 3 0x4a955feeba709c4641cc003380e132038042:=q rfl
theorem XU:W 1 1 0 0x4425feeba7001ad8901aa4018ed8:=w rfl
theorem XT:Q 2 0x5fee99f4417c0466040:=q rfl
theorem XS:Q 1 0xa7fbacaa401ca5c727010:=q rfl
theorem wD:W 1 1 0 0x17fbaa90062fa58900:=w rfl
theorem XR:Q 6 0xa5feebae99f0c57c10284449c50a67df10309f040:=q rfl
theorem XQ:Q 6 0xa5feebae99f1427c10284439c51267c47c309f040:=q rfl
theorem XO:W 1 1 0 0x17fbafa58900aa4018:=w rfl
theorem XN:Q 2 0x5fee99f4417c0426040:=q rfl
theorem XM:W 1 1 0 0x5feebb0aa4018a58900:=w rfl
theorem XK:Q 3 0x5fee9c27c10004880a027df4410004880:=q rfl
theorem XJ:Q 4 0x15feeba60df04001220260c2a027df4410004880:=q rfl
theorem XI:Q 6 0x129feebae9c57c1028444a057df1030a67c309f040:=q rfl
theorem XH:Q 4 0x4a104449289feeba61449830a809f7d10400122037083ddf0400122003:=q rfl
theorem XF:Q 7 0x4a9feebaeba619f040a11126185a057df1030a67c309f040:=q rfl
theorem XE:Q 6 0xa265feebaeba709f14001221287c30459c01264c3a027df4410004880:=q rfl
theorem XD:Q 8 0x141feebaeba67d111f040a111a81df7c614399f4447c30a67c309f040:=q rfl
theorem XC:Q 7 0x2a265feebaebae9837c60004885a1f1011a70059931260c2a027df4410004880:=q rfl
theorem XB:Q 4 0x15feeba67d10df01f44299f4437c10a7040:=q rfl
theorem XA:Q 7 0x1010204114925249feebaeba6207a11126185a057df1030a67c309f040dc51b77c1006:=q rfl
theorem Xz:Q 7 0x408041011244ca512265feebaebae9881e87c40469c01664c49830a809f7d10400122037083ddf1800122143:=q rfl
theorem Xy:Q 7 0x2040208012a264512265feebaebae9887d11e87c40469c01664c49830a809f7d10400122037083ddf1800122143:=q rfl
theorem Xx:Q 7 0x808102014a85249feebaeba621f447a11126185a057df1030a67c309f040dc51b77c1006:=q rfl
theorem Xw:Q 3 0x15feeba6000489f4427c00660004882066500:=q rfl
theorem Xv{a:Nat}:a=7->¬a=0:=dK 1 0x47fbafa100285c0 rfl [a] rfl [] []
theorem Xu:W 1 1 0 0x9517fbaeaa40189c006961ced8:=w rfl
theorem Xs:W 1 2 0 0x4440a220511024444feeb6cb2965cad962fa177c00139016572bac50bbe0009c809c001393e0009c80:=w rfl
theorem Xr:Q 1 0x5feebb0a640000ab9ce0055c80:=q rfl
theorem Xq:W 1 1 0 0x14feebaa798a17028480:=w rfl
theorem Xp:W 0 1 0 0xa14547fbaebab718beb758a9e62961c:=w rfl
theorem Xo:(2:Nat)<=(4:Nat):=dK 0 0x1fe6512 rfl [] rfl [] []
theorem Xn:W 1 2 0 0x2a254bfbaebb0b6a619a17029658be85c0:=w rfl
theorem Mo:W 0 1 0 0x2ff752c4a0003ce961c:=w rfl
theorem Xm:W 0 1 0 0x5feea6075872961c:=w rfl
theorem Mn:W 0 2 0 0x17fbaa619be9658:=w rfl
theorem Xl:(1:Nat)<=(4:Nat):=dK 0 0x1fe6511 rfl [] rfl [] []
theorem Xk:Q 1 0x27fbaec2b724027010:=q rfl
theorem FP:Q 1 0x17fba77d001f46404e0384c80:=q rfl
theorem Xj:W 1 1 0 0x2257fba6001a64018ed8:=w rfl
theorem ur:Q 1 0x17fba7c3506404ec350c80:=q rfl
theorem Xi:W 1 1 0 0x8a2442114297fbae9f0d4193e8853b0d43202990063b638001:=w rfl
theorem Xh:Q 2 0x57fbae9f0d4193e88333e8800cec350c80:=q rfl
theorem Mm{a:Nat}:0<=(a:Int)+1:=dK 1 0x7fa6076401c rfl [a] rfl [] []
theorem Xg:Q 2 0x15feebaac3506703b2033800ce0384c80:=q rfl
theorem zt:Q 1 0x17fba7c3506404e0384c80:=q rfl
theorem Xf:Q 2 0x15feeba64df040991066480:=q rfl
theorem Xe:Q 3 0x15497fba70409c3038081:=q rfl
theorem FO{a b:Nat}:a<b->a+1<=b:=dK 2 0x5fee9817d1027040 rfl [a,b] rfl [] []
theorem Ml{a b:Nat}:¬a<b->b<=a:=dK 2 0x17fba6001be7040 rfl [a,b] rfl [] []
theorem Xd:W 0 1 0 0x5feebb0a9c62961c:=w rfl
theorem Mk:Q 2 0x2a7fbaea010277d1040be7040:=q rfl
theorem Mj:W 1 1 0 0x17fba990062fa98900:=w rfl
theorem Mi{a:Nat}:a=6->¬a=0:=dK 1 0x47fbafa10028580 rfl [a] rfl [] []
theorem Xc{a:Nat}:(a:Int)=70->a=70:=dK 1 0xa9feea0008d90158011b3900 rfl [a] rfl [] []
theorem Xb{a:Nat}:¬(a:Int)=70->¬a=70:=dK 1 0x12afeebe800236405f58011b3900 rfl [a] rfl [] []
theorem Xa{a:Nat}:(a:Int)=76->a=76:=dK 1 0xa9feea000999015801333900 rfl [a] rfl [] []
theorem W9{a:Nat}:¬(a:Int)=76->¬a=76:=dK 1 0x12afeebe800266405f5801333900 rfl [a] rfl [] []
theorem W8:Q 2 0x57fbae9f0d4193e0813280cec350c80:=q rfl
theorem Mh:Q 1 0x112bfdd3e1a8320001d8199403b900:=q rfl
theorem Mg:Q 1 0x2ff75403e8ce4026500:=q rfl
theorem W7:Q 1 0x9fee9c0428480:=q rfl
theorem Mf:Q 1 0xbfdd3b0d432028480:=q rfl
theorem W6:Q 1 0x9fee9c0468480:=q rfl
theorem W0:W 0 2 0 0x11feebaec2ca5972b95d62a719ae5758:=w rfl
theorem FN:W 0 1 0 0x17fba961cbea718:=w rfl
theorem WZ:Q 2 0x2bfdd74f86a0c9f040991066480:=q rfl
theorem oM{a:Nat}:a<300->a<5000:=dK 1 0x17fba709c46404e012cc80 rfl [a] rfl [] []
theorem WY:Q 1 0x17fba74e206404e1388c80:=q rfl
theorem WX:Q 1 0xa9feea0007b9015800f73900:=q rfl
theorem WW:Q 1 0xa9feea0007d9015800fb3900:=q rfl
theorem Me:Q 1 0xbfdd3e1a832026440:=q rfl
theorem Md:Q 1 0x17fba761a86404e1388c80:=q rfl
theorem WV{a:Nat}:a=79->¬a=78:=dK 1 0x11feebe8002764050004fc80 rfl [a] rfl [] []
theorem WU{a:Nat}:a=77->¬a=78:=dK 1 0xafeebe8002764050004dc80 rfl [a] rfl [] []
theorem WT{a:Nat}:a=77->¬a=79:=dK 1 0xafeebe80027e4050004dc80 rfl [a] rfl [] []
theorem WS:Q 2 0x57fbae9c07d193e8833000ce012cc80:=q rfl
theorem WR:Q 5 0xa57fbaebae9f0d4190733e88225023e1853000ce012cc80:=q rfl
theorem WQ:Q 6 0xa97fbaebae9f0d4193e289404fbe2881ccfa20853000ce012cc80:=q rfl
theorem WO:Q 4 0x4c284c4c4d7fbaeba709c46414c000910814c0033804b320370df441:=q rfl
theorem WN:Q 1 0x895fee9f0d41903384e23203b900:=q rfl
theorem WM:Q 1 0x44aff74e8000000000000001a03384e23203c900:=q rfl
theorem Mc{a:Nat}:0<=0+(a:Int):=dK 1 0x7fa6090071c rfl [a] rfl [] []
theorem WL:Q 7 0x457fbaebae9c465193e28d33e880f8234c98b408fbe1840ce012cc80:=q rfl
theorem WK:Q 2 0x5feeaa4060900727040:=q rfl
theorem WJ:Q 7 0x2a57fbaebaeba7119464f8c24c98d404fbe2881ccfa20853000ce012cc80:=q rfl
theorem WI:Q 1 0x17fba761a86404e9c40c80:=q rfl
theorem Mb{a:Nat}:0<((a+1:Nat):Int):=dK 1 0x7faa47d101c rfl [a] rfl [] []
theorem FK:Q 1 0x17fba7c3506404e012cc80:=q rfl
theorem mF:Q 2 0x97fbae9f0d419034000ce9c40c80:=q rfl
theorem Ma:Q 2 0x5fee9c102a901900:=q rfl
theorem L9:Q 2 0x17fba7c3506404e2328c9f7d1040:=q rfl
theorem L8:Q 2 0x5feebe7040bea901900:=q rfl
theorem L7:Q 2 0x1229127fbab90286406402faa4064037040:=q rfl
theorem Cf:Q 3 0x201feebaea640dcae40e1902900bea902901a01037081:=q rfl
theorem L6:Q 2 0x17fba7119464f82fa204e2328c9f7d1040:=q rfl
theorem L5:Q 3 0x201252080907fbae98112b9038640a4028040dc207b903:=q rfl
theorem WH{a b:Int}:a=(-1)->b=(-1)->a=b:=dK 0 0x2945feebab658ae5759ae5758 rfl [] rfl [a,b] []
theorem L4:Q 2 0x17fba7119464f8204e2328c9f7d1040:=q rfl
theorem WG{a b:Int}:a=(-1)->b=(-2)->¬a=b:=dK 0 0x227fbaebeb658ae5799ae5758 rfl [] rfl [a,b] []
theorem WE{a b:Int}:a=(-1)->b=(-3)->¬a=b:=dK 0 0x44ff75d7d6cb15ca0003cd9ae5758 rfl [] rfl [a,b] []
theorem WD{a b:Int}:a=(-1)->b≠(-1)/\b≠(-2)/\b≠(-3)->¬a=b:=dK 0 0x2884828120a02888a13fdd75f5b2c5965f5ca0003cd9beb95e66fae5759ae5758 rfl [] rfl [a,b] []
theorem WC{a b:Int}:a=(-2)->b=(-1)->¬a=b:=dK 0 0x14bfbaebeb658ae5759ae5798 rfl [] rfl [a,b] []
theorem WA{a b:Int}:a=(-2)->b=(-2)->a=b:=dK 0 0x2945feebab658ae5799ae5798 rfl [] rfl [a,b] []
theorem Wz{a b:Int}:a=(-2)->b=(-3)->¬a=b:=dK 0 0x44ff75d7d6cb15ca0003cd9ae5798 rfl [] rfl [a,b] []
theorem Wy{a b:Int}:a=(-2)->b≠(-1)/\b≠(-2)/\b≠(-3)->¬a=b:=dK 0 0x144241409050140a213fdd75f5b2c5965f5ca0003cd9beb95e66fae5759ae5798 rfl [] rfl [a,b] []
theorem Wx{a b:Int}:a=(-3)->b=(-1)->¬a=b:=dK 0 0x297f75d7d6cb15caeb35ca0003cd8 rfl [] rfl [a,b] []
theorem Ww{a b:Int}:a=(-3)->b=(-2)->¬a=b:=dK 0 0x297f75d7d6cb15caf335ca0003cd8 rfl [] rfl [a,b] []
theorem Wv{a b:Int}:a=(-3)->b=(-3)->a=b:=dK 0 0xa517fbaead962b9400079b35ca0003cd8 rfl [] rfl [a,b] []
theorem Wu:Q 1 0xa9feea0009d90158013b3900:=q rfl
theorem Wt{a b:Int}:a=(-3)->b≠(-1)/\b≠(-2)/\b≠(-3)->¬a=b:=dK 0 0x5109050242482814427fbaebeb658b2cbeb9400079b37d72bccdf5caeb35ca0003cd8 rfl [] rfl [a,b] []
theorem Ws{a b:Int}:a≠(-1)/\a≠(-2)/\a≠(-3)->b=(-1)->¬a=b:=dK 0 0x42520a048280a0490a5fdd75f5b2c572bacd965f5ca0003cd8beb95e62fae5758 rfl [] rfl [a,b] []
theorem Wr{a b:Int}:a≠(-1)/\a≠(-2)/\a≠(-3)->b=(-2)->¬a=b:=dK 0 0x21290502414050280a5fdd75f5b2c572bccd965f5ca0003cd8beb95e62fae5758 rfl [] rfl [a,b] []
theorem Wn:Q 2 0x97fbae9f0d4193e9034000ce9c40c80:=q rfl
theorem Wm{a b:Int}:a≠(-1)/\a≠(-2)/\a≠(-3)->b=(-3)->¬a=b:=dK 0 0x84a414090224a05014bfbaebeb658ae50001e6cd965f5ca0003cd8beb95e62fae5758 rfl [] rfl [a,b] []
theorem Wl{a:Int}:a=(-1)->¬(a≠(-1)/\a≠(-2)/\a≠(-3)):=dK 0 0x5048a12282a243fdd7d965f5ca0003cd8beb95e62fae5758ae5758 rfl [] rfl [a] []
theorem Wk{a:Int}:a=(-2)->¬(a≠(-1)/\a≠(-2)/\a≠(-3)):=dK 0 0x5048a122828543fdd7d965f5ca0003cd8beb95e62fae5758ae5798 rfl [] rfl [a] []
theorem Wj{a:Int}:a=(-3)->¬(a≠(-1)/\a≠(-2)/\a≠(-3)):=dK 0 0xa0914249050a87fbafb2cbeb9400079b17d72bcc5f5caeb15ca0003cd8 rfl [] rfl [a] []
theorem L3:Q 3 0x481025224110a0409105104a07fbaea0212b9038640a4028040dc20770c1:=q rfl
theorem Wi{a:Int}:0<=a->¬a=(-1):=dK 0 0x9feebeb95d62961c rfl [] rfl [a] []
theorem Wh{a:Int}:0<=a->¬a=(-2):=dK 0 0x9feebeb95e62961c rfl [] rfl [a] []
theorem Wg{a:Int}:0<=a->¬a=(-3):=dK 0 0x13fdd7d728000f362961c rfl [] rfl [a] []
theorem Wf:Q 1 0xa9feea0009f90158013f3900:=q rfl
theorem Wd:Q 2 0x2549feeba8480a12068040:=q rfl
theorem Wc:Q 1 0xa9feea0009b9015801373900:=q rfl
theorem Wb:Q 2 0x49feeba7010a11068040:=q rfl
theorem Wa:Q 2 0x4bfdd74ec350c80a11068040:=q rfl
theorem V9:Q 2 0x97fbae9f0d4193e8834000ce9c40c80:=q rfl
theorem V8:Q 1 0x2a2893fdd756004ece402800276405f58013b3900:=q rfl
theorem V7:Q 1 0x2a2893fdd756004fce40280027e405f58013f3900:=q rfl
theorem V6:Q 1 0x2a2893fdd756004dce40280026e405f5801373900:=q rfl
theorem L2:Q 3 0x114091012200541feebae9d38819095c81c32052034000ce9c40c80dc2038003:=q rfl
theorem V5:Q 1 0x54ff7560006ce4028580:=q rfl
theorem V4:Q 1 0x957f75f58001b3900be8580:=q rfl
theorem V3{a:Nat}:a=69->(a:Int)=69:=dK 1 0xa9feeac008b9c80500045c80 rfl [a] rfl [] []
theorem V2{a:Nat}:¬a=69->(a:Int)≠69:=dK 1 0x12afeebeb0022e72017d00045c80 rfl [a] rfl [] []
theorem L0:Q 3 0x80941feebaeab0d419c81d72070c81480d00033a71032037080:=q rfl
theorem LZ:Q 2 0x57fbae9f0d419033000ce0384c80:=q rfl
theorem LY:Q 1 0xbfdd3e1a8327d1026440:=q rfl
theorem V1:Q 1 0xbfdd3e1a8327d0026440:=q rfl
theorem V0:Q 1 0x17fba7c35064fa404e9c40c80:=q rfl
theorem VZ:W 1 1 0 0x57fbaeab0d419b17d4c4804e9c40c80:=w rfl
theorem VY:Q 2 0x57fbae9f0d4193e0813280ce9c40c80:=q rfl
theorem VX:W 1 1 0 0x11052110a7fba67d101f442bea62403b638001:=w rfl
theorem VW:Q 1 0x7fbb09c001393e0009c80:=q rfl
theorem VV:Q 2 0x49feeba7010a12068040:=q rfl
theorem LX:Q 2 0x57fbae9f0d4190333e8800ce9c40c80:=q rfl
theorem VU:Q 1 0xbfdd3e1a832026500:=q rfl
theorem LW:Q 2 0x4bfdd74ec350c80a12068040:=q rfl
theorem VT{a b:Nat}:a<200->b<=a->4*b+1<1000:=dK 2 0x4c4dfeeba701f464fa200091033000ce00c8c80 rfl [a,b] rfl [] []
theorem VS:Q 1 0xbfdd3e1a8327d1026480:=q rfl
theorem VR:Q 2 0x49feeba7011a12068040:=q rfl
theorem VQ:Q 4 0x130a1343435feebae9d86a190530002442053000ce00c8c80dc37d10004881:=q rfl
theorem VP:Q 2 0x57fbae9f0d4193e88333e8800ce9c40c80:=q rfl
theorem VO:Q 3 0x57fbae9c271190333e880f840ce00c8c80:=q rfl
theorem VN:W 0 1 0 0x2248a122828522feeba961cb2cbeb9400079b17d72bcc5f5caeb14b128000f3:=w rfl
theorem VM:Q 6 0x4c0a13434317fbaebae9d388190b300024430b408fbe88600091053000ce00c8c80dc47d10004881:=q rfl
theorem VL:W 0 2 0 0x90881100480908802404809feebaeb2cbeb9400079b37d72bccdf5caeb3652cb95caeb17d965f5ca0003cd9beb95e66fae5759ae5758:=w rfl
theorem VK:Q 1 0x17fba7c35064fa204e9c40c80:=q rfl
theorem VJ:Q 5 0x262697fbaebae9f0d4193e889404fbe888000910733e88002440853000ce00c8c80:=q rfl
theorem VI:Q 3 0xa5feebae9f0d4190540215f5480c804e9c40c80:=q rfl
theorem uq:Q 1 0x17fba7c3506404e00c8c80:=q rfl
theorem VH:Q 1 0x17fba77d001f46404e012cc80:=q rfl
theorem VG:Q 4 0x295feebaeba7c350641cc10740215f5480c804e9c40c80:=q rfl
theorem VF:W 1 2 0 0x4812a1feeb2a620900669824019667040ee1658:=w rfl
theorem VE:W 0 3 0 0x2a11015145feeba7040a9a669658ee1619ee161a:=w rfl
theorem VD:W 0 2 0 0x1424947fbab660900629658ee1619:=w rfl
theorem VC:W 0 3 0 0x15feebb0b2a61aa5a669658:=w rfl
theorem VB:Q 3 0x57fbae9f0d4190333e880f840ce00c8c80:=q rfl
theorem VA:W 0 2 0 0x17fba9619be9658:=w rfl
theorem Vz:W 0 2 0 0x5feea6175962a658:=w rfl
theorem Vy{a:Int}:a-1<a:=dK 0 0x1fea621758 rfl [] rfl [a] []
theorem Vx:W 0 4 0 0x2a1feebaca5a6e9658b2a6a175ba6175b62ca9a669658:=w rfl
theorem Vw:W 0 5 0 0x2150948485050feebaeb2a649ed24f5ab2a6c9ed24f58b2a6daa9962ebaca596e961aa9b6aa658:=w rfl
theorem zr:Q 1 0x17fba700966404e00c8c80:=q rfl
theorem Vv:W 0 5 0 0x12947fbaebb0b2a649ed24f5ab2a6c9ed24f58beca9b6aa658:=w rfl
theorem Vu:Q 6 0x989a57fbaebaeba7c35064f8a24c98b404fbe888000910733e88002440853000ce00c8c80:=q rfl
theorem Vt:W 0 2 0 0x8128bfdd74f86a0c80b2a138866cd4cca2710ceca84e219b1531289c433ee1619:=w rfl
theorem LV:W 0 1 0 0x4925fee9d0000000000000003402ca84e219b1531289c433f18:=w rfl
theorem Vr:W 0 2 0 0x8128bfdd74ec350c80b2a138866cd4cca2710ceca84e219b1531289c433ee1619:=w rfl
theorem Vq:W 0 2 0 0x5feebb0a98669658:=w rfl
theorem LU:W 0 1 0 0x5feebb0a5872a718:=w rfl
theorem Vp:W 1 1 0 0x5feebb0a64018a98900:=w rfl
theorem Vo:W 0 2 0 0x17fba9619bea658:=w rfl
theorem Vn:Q 2 0x57fbae9f0d419033000cec350c80:=q rfl
theorem Vm{a:Nat}:a-1<a->0<=(-1)+(a:Int):=dK 1 0x517fba982402575c9c0077440 rfl [a] rfl [] []
theorem Vl:Q 1 0x280a892228281544897fba80429c0077440ee090095d:=q rfl
theorem Vk:Q 2 0x2221feeba7042be7481a12037441:=q rfl
theorem Vj:Q 2 0x8104051041028220215104417fbaeba809f4439c10af9d2068480dd1077481:=q rfl
theorem Ce:Q 1 0x17fba709c46404e00c8c80:=q rfl
theorem Vi:Q 1 0xa24547fba801f4419c0077440:=q rfl
theorem FJ:Q 1 0x17fbaa900727010:=q rfl
theorem Vh:Q 2 0x4a55fee9df4007d1905380e132038001:=q rfl
theorem oL:W 1 1 0 0xa9feeb2a03e88e07a4018a98940fa2381e900b2a03e88e0764018a98940fa2381d900:=w rfl
theorem FI:W 1 1 0 0xa9feeb2a03e88e0760764018a98940fa2381d81d900b2a03e88e07a4018a98940fa2381e900:=w rfl
theorem Vg:Q 2 0x4a55fee9f0d41905380e132038001:=q rfl
theorem Vf{a:Nat}:a+1≠a:=dK 1 0x7fbe801f440 rfl [a] rfl [] []
theorem Ve{a:Nat}:a+1≠a+2:=dK 1 0xbfbe87d201f440 rfl [a] rfl [] []
theorem Vd{a:Nat}:a+2≠a:=dK 1 0x7fbe801f480 rfl [a] rfl [] []
theorem Vc{a:Nat}:a+2≠a+1:=dK 1 0x7fbe87d101f480 rfl [a] rfl [] []
theorem FH:W 1 1 0 0xa9feeb2a03e88e0760764018a98940fa2381d81d900b2a03e88e0764018a98940fa2381d900:=w rfl
theorem Vb:0<(((85:Nat):Nat):Int):=dK 0 0xff5480055c9c rfl [] rfl [] []
theorem Va:Q 1 0x17fba7002ae40552001572900:=q rfl
theorem U9:W 1 1 0 0x54ff75d65407d11c0f48031531281f44703d20150000f362961c:=w rfl
theorem U8:W 1 2 0 0x9527fbaeb2a03e88e07a4020658aa0658940fa2381e900b29799a5995db2a03e88e0764018a98940fa2381d900:=w rfl
theorem U7:W 0 1 0 0x44285142450949fdd75b6d6f315bac56e3150000f362961c:=w rfl
theorem U6:W 1 1 0 0x12497fbae9c006a900627010ed8:=w rfl
theorem U5:W 1 1 0 0x1feebaa81d90072a90062961c:=w rfl
theorem U4:W 2 1 0 0x1293fdd75d65407d11c0f480b1531281f44703d203540ec80314b0e4e00c8c80:=w rfl
theorem U3:W 1 1 0 0x114a7fbae9c0067011aa4018ed8:=w rfl
theorem U2:Q 1 0x17fba7011aa401d:=q rfl
theorem U1:Q 2 0x284a7fbae9c14280819c0477440:=q rfl
theorem U0:Q 2 0x82925feebae9c01919034040ce00c8c809c0477440:=q rfl
theorem UZ:W 0 1 0 0x1040a050502414090a04424110a0442411140844421120844421140844421120844421487f75d6db6db580013362b0001e6c56f315bac56e31500017362961c:=w rfl
theorem LS:Q 3 0x280a1109244828a289feea1f1020e6040dc07c10b7001:=q rfl
theorem LR{a b c:Nat}{d:Prop}{e f:Nat}:¬(a<b\/c≠6/\d\/e=6\/c=77\/c=78\/c=79)->¬f+a<b:=dK 5 0x1042828504850490504282850485049044211042120421104240442110421204211042407fbaf9c17c012fb6db6db680027e4150004ec82a0009b90542c1d80c6fa160a7040 (by decide +kernel) [a,b,c,e,f] rfl [] [d]
theorem LQ{a b c:Nat}{d:Prop}{e:Nat}:¬(a<b\/c≠6/\d\/e=6\/c=77\/c=78\/c=79)->b<=a:=dK 4 0x410a0a1412141241410a0a14121412411084410848108441090110844108481084410901fee98006fb6db6db680027e4150004ec82a0009b90542c1d80c6fa160a7040 (by decide +kernel) [a,b,c,e] rfl [] [d]
theorem UY:Q 1 0x94feebab75ca12028440:=q rfl
theorem UX:W 0 1 0 0x4925feeba74000000000000000d00a9e62961cf18:=w rfl
theorem UW:Q 1 0xa2feebab75ca120284c0:=q rfl
theorem UU:W 1 1 0 0x1122feebab758a120285c0:=w rfl
theorem UT:Q 2 0x1082814140905024217f75f42e0597d0004fc81b2fa0009d90365f4001372068580:=q rfl
theorem US{a b:Nat}:¬a+b<b:=dK 2 0x7fbe705f040 rfl [a,b] rfl [] []
theorem Cd:Q 3 0x15feeba6080982066040:=q rfl
theorem UR{a:Nat}:¬a+1<1:=dK 1 0x7fbe745f440 rfl [a] rfl [] []
theorem UQ:W 3 4 0 0x541208a2110481feebacb2cb2ca5b7299016a9699a64059a996296240acb2cb2ca5b7299006a9699a64019a996296240a6040:=w rfl
theorem UP{a:Nat}:¬a<0:=dK 1 0x7fbe7400 rfl [a] rfl [] []
theorem UO:W 3 4 0 0x28120884220a81feebacb2cb2ca5b7299026a9699a64099a9962962402cb2cb2ca5b7299026a9699a64099a99629624066040:=w rfl
theorem UN{a:Nat}:¬a+2<2:=dK 1 0x7fbe749f480 rfl [a] rfl [] []
theorem UM:W 3 8 0 0x428110817f75d759497d669609ed4c93db2cb2cb293fae532046f6937a5f699022fb517d27b493d901b2cb2cb296dca6405aa5a66990166a658a58900:=w rfl
theorem UL:Q 4 0x55feebae9830260819830a6040:=q rfl
theorem UK:W 4 4 0 0x1482408910841481feebaeb2cb2cb296dca640daa5a66990366a658a58900b2cb2cb296dca6409aa5a66990266a658a589019830a6040:=w rfl
theorem UJ:Q 3 0x5fee9df081027040:=q rfl
theorem LP:W 1 2 0 0x216502dfeebaeb2a03e88e07a402100028d981d62a84000a3660758940fa2381e900a9e66965cb2a03e88e0764018a98940fa2381d900:=w rfl
theorem UI:W 4 4 0 0xa21feebae9c10acb2cb2ca5b7299006a9698a64018a986696640ea6240a7040:=w rfl
theorem UH:W 4 4 0 0x4841409feebae9c112cb2cb2ca5b7299006a9698a64018a986696640ea6240a7040eda:=w rfl
theorem UG:Q 2 0x17fbaebe60409c0066040:=q rfl
theorem LO:Q 3 0x25feeba60029810a87d1040:=q rfl
theorem UE:Q 3 0x25feeba60029810a8040:=q rfl
theorem UD:Q 3 0x5217fbaeba8042be70429c00a87d1040:=q rfl
theorem FG:Q 3 0x25feeba70029c10a87d1040:=q rfl
theorem UC:Q 3 0xa7fbaebe8002982067040:=q rfl
theorem LN:Q 3 0x9fee9800687c2040:=q rfl
theorem UB:Q 3 0x15feeba70429c00a8040:=q rfl
theorem zq:Q 3 0x25feeba70029c10a8040:=q rfl
theorem Cc:Q 3 0x15feeba70429c00a6040:=q rfl
theorem UA:Q 3 0x15feeba60429800a6040:=q rfl
theorem Uz:Q 5 0x2549feeba87df102043a1f1000e87c2040:=q rfl
theorem Uy:Q 2 0x17fbaf9c0066040:=q rfl
theorem Ux:Q 6 0x25feebae983166005a1f1000e87c2040:=q rfl
theorem Uw:Q 4 0x25feeba60c19830287c2040:=q rfl
theorem FF:Q 2 0x5feebb09c0066040:=q rfl
theorem Uv:Q 3 0x29feeba7080a1f4c10a87d1040:=q rfl
theorem Uu:Q 1 0x1feec2801f440:=q rfl
theorem Ut:Q 1 0x1feec2801f480:=q rfl
theorem Us:Q 3 0x29feeba7080a1f4810a87d1040:=q rfl
theorem Ur:Q 3 0x25feeba70819820287d3040:=q rfl
theorem Uq:Q 3 0x45feeba7002a010a87d2040:=q rfl
theorem LM:Q 3 0x147fbaebe8002a1f4810a87d1040:=q rfl
theorem Up:Q 5 0xa45feebaeba7084a031280c0a1f4810a87d1040:=q rfl
theorem Uo:Q 4 0xa5feebae9c30260c2a1f4c10a87d2040:=q rfl
theorem Un:Q 3 0x25feeba70819820287d2040:=q rfl
theorem Um:Q 3 0x89feebaec28042a020287d1040:=q rfl
theorem Ul:Q 6 0x82848544487fbaebaeb2cb2cb29905729904903a640e40a9904902aa40a40699019009840e60c29c2068040:=q rfl
theorem Uk{a b:Nat}:(a:Int)<=((a+b:Nat):Int):=dK 2 0x1fe991f040900 rfl [a,b] rfl [] []
theorem LL:Q 1 0x1feec2b95d900:=q rfl
theorem LK:Q 3 0x147fbaebe8002a1f4410a8040:=q rfl
theorem Uj:Q 4 0x49feeba77d2003a030687c2040:=q rfl
theorem Ui:Q 4 0x9feeba60df480a1f4800e87c2040:=q rfl
theorem Uh:Q 4 0x129feebae9837d40680839820287d4040:=q rfl
theorem Ug:Q 4 0xa47fbaebafa000e8083a1f4810a8040:=q rfl
theorem Ue:Q 4 0xa47fbaebafa000e8083a1f4810a87d1040:=q rfl
theorem Ud:Q 4 0xa47fbaebafa000e8083a1f4c10a8040:=q rfl
theorem Uc:Q 4 0xa47fbaebafa000e8083a1f4c10a87d1040:=q rfl
theorem Ub{a b c:Nat}:a=b->c=b+4->a<c:=dK 3 0x29feeba7080a1f5010a8040 rfl [a,b,c] rfl [] []
theorem Ua:Q 3 0x29feeba77d1080a1f4c10a8040:=q rfl
theorem T9:Q 4 0xa5feebae9c30260c2a1f5010a87d1040:=q rfl
theorem T8:Q 7 0xa40bfbaebafa0302cb2c9c41a6182b271059850ac9c40e60c2a1f5010a87d1040:=q rfl
theorem T7:Q 7 0xa10bfbaebafa0502cb2c9c41a6182b271059850ac9c40e60c2a1f5010a87d1040:=q rfl
theorem T5:Q 7 0xa04bfbaebafa0602cb2c9c41a6182b271059850ac9c40e60c2a1f5010a87d1040:=q rfl
theorem T4:W 3 1 0 0x5feeba991f4806299006287c2040:=w rfl
theorem TZ:Q 2 0x9fee980068040:=q rfl
theorem TY:W 3 4 0 0x481feeba962406cb2cb2ca5b7299026a9699a64099a99629624028040:=w rfl
theorem FE:Q 3 0x25feeba7042a1f4800a605f500:=q rfl
theorem LJ:Q 3 0x25feeba7042a1f4c00a605f500:=q rfl
theorem TX:Q 1 0x107fbaebe8480a12028580:=q rfl
theorem TU:Q 2 0x5feeaa47d2064026040:=q rfl
theorem TR:W 2 4 0 0x207fba961cb2cb2cb296dca6405aa5a66990166a658a58900:=w rfl
theorem TQ:W 2 4 0 0x107fbaa658b2cb2cb296dca6405aa5a66990166a658a58900:=w rfl
theorem TP:W 2 4 0 0x21feea647d2059b2cb2cb296dca6405aa5a66990166a658a58900:=w rfl
theorem LI:W 2 4 0 0xa47fba969cb2cb2cb296dca6405aa5a66990166a658a58900:=w rfl
theorem TO:W 2 4 0 0x9feeaa47d205ab2cb2cb296dca6405aa5a66990166a658a58900:=w rfl
theorem Cb{a b c:Nat}:a=b+2->c=b+3->c≠a:=dK 3 0x147fbaebe8002a1f4c10a87d2040 rfl [a,b,c] rfl [] []
theorem TN:W 2 4 0 0x17fba96dcb2cb2cb296dca6405aa5a66990166a658a58900:=w rfl
theorem TM:W 2 4 0 0x87fbaec2ca996a9698b2cb2cb296dca6405aa5a66990166a658a58900:=w rfl
theorem TL{a:Nat}:0<(a:Int)+2:=dK 1 0x7faa07a401c rfl [a] rfl [] []
theorem TK:W 1 1 0 0x5feeaa47d2018b2a81e90062961c:=w rfl
theorem LH:Q 3 0x25feeba7042a000a605f500:=q rfl
theorem TJ:W 1 1 0 0x4517fbaeaa07a40189df48006961ced8:=w rfl
theorem LF:Q 3 0x14bfbaebe8080a1f4810a8040:=q rfl
theorem TH:W 1 1 0 0x17fbafa98900a64018:=w rfl
theorem LD{a:Nat}:1+(a:Int)=((a+1:Nat):Int):=dK 1 0x5feb91f44082401d rfl [a] rfl [] []
theorem LC:Q 3 0x14bfbaebe8080a1f4c10a8040:=q rfl
theorem TG{a:Nat}:(a:Int)<3->a+1<5000:=dK 1 0x5fee9c271193e88150000f3900 rfl [a] rfl [] []
theorem TC:Q 1 0x2ff74c9be88150000f3900:=q rfl
theorem B9:Q 1 0x17fba7c3506404c003fc80:=q rfl
theorem Tz:Q 1 0x5fee9937c04264c0:=q rfl
theorem Tx{a:Nat}:(min (40:Nat) a)<=63:=dK 1 0x549fe6001fe40f00000a32 rfl [a] rfl [] []
theorem LB:Q 3 0x25feeba7042a1f4400a605f500:=q rfl
theorem FD:Q 3 0x217fbaeba70029df4410acaa07a40640a99027287d1040:=q rfl
theorem Tv:Q 2 0x5fee9d50264df7d1040:=q rfl
theorem Tu:Q 1 0x17fba77d001f46404c003fc80:=q rfl
theorem LA:Q 3 0x14bfbaebe8080a1f4810a87d1040:=q rfl
theorem Tt:Q 2 0x5fee9937c17d10264df7d1040:=q rfl
theorem Lz:Q 3 0x14bfbaebe8080a1f4c10a87d1040:=q rfl
theorem Ts:W 0 1 0 0x5feea800000000ee6b2803562ca807d19b1531280fa33:=w rfl
theorem Ly:W 0 1 0 0xa9feeb2a138866c54c4a2710ceca807d19b1531280fa33:=w rfl
theorem Tr:Q 2 0x5fee99f481026040:=q rfl
theorem Lx{a b c d:Nat}:a+4<=b->c=a+2->d=b->c<d:=dK 4 0x129feebae9c30a8043a1f4800a605f500 rfl [a,b,c,d] rfl [] []
theorem Tq{a:Nat}:(a:Int)<2->a+1<5000:=dK 1 0x2ff74e1388c9f440a9e900 rfl [a] rfl [] []
theorem Tp:Q 1 0x17fba649f440a9e900:=q rfl
theorem To:Q 1 0x1b6ff74c006cc9f0036880426480:=q rfl
theorem Tn:Q 5 0x49feeba67c409f481a1f0c00a87d2040:=q rfl
theorem Lw:Q 4 0x15feeba709f0c09c10e609f040:=q rfl
theorem Tj:Q 6 0x20b0b0b42ffbaebae9c27c602f9851260c49c10e609f0400002e9f105:=q rfl
theorem Ti:Q 2 0x245feeba87d1040be77d1040b2a81e901900a6401c:=q rfl
theorem Th:Q 3 0x20b42ffbae9817d10ef9820260400002e9f002:=q rfl
theorem Tf:Q 3 0x20b42ffbae9810ef9820260400002e9f002:=q rfl
theorem Te:Q 2 0xbfdd383e8327c006d9013001b327c00da27d1040:=q rfl
theorem Td:Q 2 0x9fee9c04287d2040:=q rfl
theorem wC:Q 5 0x252bfbaebaebe81029840e8043a1f4c00a605f500:=q rfl
theorem Ta:Q 2 0x97fbae9c019190343e9000ce0096c80:=q rfl
theorem S9:Q 2 0x2ff74c006cc9f00368817c006d9013001b327c00da27d1040:=q rfl
theorem S8:Q 3 0x15feeba7004b6414c0053001b327c00da2040:=q rfl
theorem S7:Q 3 0x15feeba701c26414c0053001b327c00da2040:=q rfl
theorem S6:Q 3 0x1425feeba705f080be60839c1037001:=q rfl
theorem S5:W 0 1 0 0x24bfdd759500fa3362a62501f4674b0e5403e8cd8:=w rfl
theorem S4:Q 2 0x5fee9c27119013001b327c00da2040:=q rfl
theorem S3:Q 3 0x2108448929fee9817c4027040dc00780c2:=q rfl
theorem S2:W 2 4 0 0x94240ff75d65403e8cd8a989407d19d96596594b6e53200d52d334c8033532c52c480ce0096c80:=w rfl
theorem S1:Q 2 0x5fee9c271193e8813001b327c00da2040:=q rfl
theorem SY:W 2 1 0 0x25feeba96247d20696240287d2040:=w rfl
theorem SW:W 2 4 0 0x884a0ff75d65403e8cd9a999407d19d96596594b6e53200d52d334c8033532c52c480ce0096c80:=w rfl
theorem SV:Q 2 0x5fee9c070993e8be8813001b327c00da2040:=q rfl
theorem Lv:Q 3 0x42282d0bfeeba705f102be60809810370800002e83:=q rfl
theorem Lu:Q 3 0x42282d0bfeeba605f102be60809810370800002e83:=q rfl
theorem SU:Q 3 0x4a57fba70439c1037080:=q rfl
theorem SR:Q 3 0x4a57fba60439c1037080:=q rfl
theorem FC:Q 1 0xa27fba7001980477440:=q rfl
theorem SQ:Q 1 0xa10a2fee98146fa10077440:=q rfl
theorem SP:Q 1 0x4abfbae9804a6011be8440:=q rfl
theorem SO:Q 1 0x2527fba6001980477440:=q rfl
theorem SN{a:Nat}:a<=a:=dK 1 0x1fe6000 rfl [a] rfl [] []
theorem SM:Q 4 0x49feeba609f441a1f0c00a87d3040:=q rfl
theorem SK:Q 1 0x517fbae9c07d142fa007d1426011:=q rfl
theorem SJ:Q 3 0xa17fba609f41f043a027c10f7440:=q rfl
theorem SI:Q 1 0x517fbae9c046fa00466011:=q rfl
theorem SG:(1:Nat)+(0:Nat)<=(0:Nat)+(1:Nat):=dK 0 0x1fe67d141f411 rfl [] rfl [] []
theorem SE:W 5 0 2 0x2800a02452a48a541400a0284a94257fbaebaebac0e20c6609f19f1039844a60d1a027c1166011dd10397c1010:=w rfl
theorem SD:W 4 0 2 0x141445515feebaeb03883199f0807c44670c29c17d10397c3050:=w rfl
theorem Sy:Q 1 0x2917fba6051980479011:=q rfl
theorem Sx:Q 1 0x1447fba6001980479011:=q rfl
theorem Lr:Q 5 0xa5feebae9c27c40280c49c10e609f040:=q rfl
theorem Sw:Q 5 0x4a89497fbaebae9c21680c49c10e60d19827c103745f100:=q rfl
theorem Sv:Q 2 0x29feeba6051a00066011:=q rfl
theorem Lq:Q 3 0x25feeba6042a000a7040:=q rfl
theorem Lp:Q 3 0x88517fbaeba70039810a6092a01037442:=q rfl
theorem zp:Q 2 0x5fee9c102705f440:=q rfl
theorem Su:Q 3 0x251447fbae9834687d1081980479001:=q rfl
theorem Ss:Q 3 0x2812425081feebae9810e87d1002be8040981039042:=q rfl
theorem Sr:Q 3 0x210917fbaebae9c10e6002982468001980477442:=q rfl
theorem Lo:W 5 0 3 0x52ff75d74e13e2016596501882c4388319c10e609f040:=w rfl
theorem Sq:Q 3 0x5fee98202609f040:=q rfl
theorem Sp:Q 3 0x5fee99f7d10817c04667c205f011:=q rfl
theorem Lm:W 7 0 3 0x4a51284bfdd75d75d3843d965940a30b10e20c670459850e87d11039827c103745f180:=w rfl
theorem So:W 2 1 0 0x25feeba96247d10696240287d3040:=w rfl
theorem Sm:Q 3 0x5fee99f09f4417c04667c205f011:=q rfl
theorem Sl:Q 2 0x5fee99f040466011:=q rfl
theorem Sk:W 4 0 3 0x94ff75d74c1a36596501062c4388319820287d1040:=w rfl
theorem Sj:Q 3 0x28241485feeba67c37c145f052be801f4509804797c2010:=q rfl
theorem Si:W 3 0 3 0x12ff75d30215965940010b10e20c67040:=w rfl
theorem Sh:Q 2 0x48917fbaeba6002980066051980477441:=q rfl
theorem Sg{a:Nat}:1+(a+1)<=2+a:=dK 1 0x1fe67c049f7d1011 rfl [a] rfl [] []
theorem Se:Q 6 0x88085044085feebae9827c57c41e609f15f10398346809f046dd1037443:=q rfl
theorem Sd:Q 6 0x25512897fbaebaeba7086a041670449840e60d19827c103745f140:=q rfl
theorem Sb:Q 3 0xa9feebae982468042981026011:=q rfl
theorem Sa:Q 2 0x289fee9817c202f980077001:=q rfl
theorem R9:Q 2 0x525fee98246f980077001:=q rfl
theorem R8:Q 2 0x9227fbae982466001980479001:=q rfl
theorem R7:Q 6 0x2a9feebaeba715f103a0116601f09f103982466040:=q rfl
theorem R6:Q 2 0x1447fba6042981039040:=q rfl
theorem R5:Q 1 0x5fee9c0426011:=q rfl
theorem R4{a b:Nat}:a+1<b->0<b-a:=dK 2 0x1497fba70909c17d1037001 rfl [a,b] rfl [] []
theorem R1:Q 6 0x2a9feebaeba615f103a0116601f09f103982466040:=q rfl
theorem RZ:Q 3 0x15feeba708098146609f040:=q rfl
theorem RY:Q 2 0x5097fbae9810a60409804b7440:=q rfl
theorem RX:Q 4 0x284805145feebaeba7084be80439810e60d19827c103745f0c0:=q rfl
theorem Ll:Q 4 0x84105128921feeba605f142984026011dc20780c4:=q rfl
theorem RW{a b:Nat}:a+1<b->a+(b-a)<=b:=dK 2 0xa27fba605f0809c17d1037001 rfl [a,b] rfl [] []
theorem RV:Q 7 0x2241000220040010202000894a8800bfbaebaebae9c522fa101e80459807c37c21260d1982466040dc60b745f1df184:=q rfl
theorem RQ:Q 6 0x88085044085feebae9827c57c712609f15f0c49834a809f046dd1037443:=q rfl
theorem RP:Q 4 0x108084042510a7fbaebae9854670c29840a6091be6001dc00780c4:=q rfl
theorem RO:Q 6 0xa9feebae9857c47c30a80459807c47c30a6040:=q rfl
theorem RN:Q 3 0x2917fba67c305f4419804797c2010:=q rfl
theorem Lk:Q 1 0x2527fba70019c0477480:=q rfl
theorem RM{a b c:Nat}:a<b->c=a+1->c≠b->0<b-c:=dK 3 0x942110905feebae9c342fa010a87d10029c1037081 rfl [a,b,c] rfl [] []
theorem Lj:Q 1 0xa27fba701f4419c0477480:=q rfl
theorem RL{a b c:Nat}:a<b->c=a+1->c≠b->c+(b-c)<=b:=dK 3 0x4a1088241feebae9817c30afa010a87d10029c1037081 rfl [a,b,c] rfl [] []
theorem RK:Q 7 0x4001000084a40000110004000220010001021540001022a80004504080008a2028002feebaebae98946fa101e80459807c27c40e6091981037184e057c40f77c60c8:=q (by decide +kernel)
theorem RJ:Q 3 0x12897fbae9817c00a60c0980477081:=q rfl
theorem Lh:Q 7 0x1055400048954400482040012202800bfbaebaeba6211be8406a0116601f09f103982466040e057c67c40f77c40c7:=q rfl
theorem RI:Q 8 0x4000a000080002a0000840014000200015000084000a000080002a00008400140002000150000850554500008000540002022a800008000a80008504050000800054000214402a0004000540004feebaebaebae98a46f98722fa101efa102280459807c27c40e6091981037184e057c40f77c60c9:=q (by decide +kernel)
theorem RH:Q 3 0x9417fbaeba705f442be805f442a1f4400a705f440:=q rfl
theorem RG:Q 3 0x25feeba601f0909810a8040:=q rfl
theorem RF:Q 8 0x14a5feebaebae99f1c67df4417c04661c4a1f4451a6142a1f4431267c309f05f011:=q rfl
theorem RE{a b:Nat}:2+a<=1+a+(b+1):=dK 2 0x1fe67df4417c045f012 rfl [a,b] rfl [] []
theorem RD:Q 4 0x1102897fbaebae9c00e81039810a6092a01037442:=q rfl
theorem RC:Q 1 0x110484427fba6042be6440dd2037441:=q rfl
theorem RB:Q 1 0x289fee9c07d106f991037480:=q rfl
theorem RA:Q 4 0x1042497fbaebaeba70449820e60d19800a8001980477443:=q rfl
theorem Ry:Q 2 0x210840440440109052082107fbaeba7043be8441a02066012dd1037441:=q rfl
theorem Rx{a b c:Nat}:a<b->c=a+1->c≠b->c<b:=dK 3 0x9417fbaeba7042be8042a1f4400a7040 rfl [a,b,c] rfl [] []
theorem Rw:Q 4 0x1102897fbaebae9807c34281039810a6092a01037442:=q rfl
theorem Rv:Q 5 0x20812497fbaebaebae9c11281449820e60d19800a8001980477443:=q rfl
theorem Ru:Q 2 0x2810282feeba6011be8400a02037441:=q rfl
theorem Rt:Q 4 0x1102497fbaebaeba6003a040e6042982466001980477442:=q rfl
theorem Rq:Q 4 0x501257fbaebae9810e6083a040a60409804b7440:=q rfl
theorem Rp:Q 11 0x810001040001010024249504080010400020200909257fbaebaebaebae9827df7d11857ca2661caa0d2661089884683079827df1857c31260d2a027c12f7440dd10f7448:=q (by decide +kernel)
theorem Ro{a b:Nat}:a+1<=a+(b+1):=dK 2 0x1fe67df44101f440 rfl [a,b] rfl [] []
theorem Rn:Q 1 0x254a2feeba6012be8400be8440:=q rfl
theorem Rm:Q 2 0x1405002a52feebae9814afa110680819804b7440:=q rfl
theorem FA:Q 1 0xbfdd300000000008000006804d86a0c80:=q rfl
theorem Rl:Q 1 0xabfba6011be8400:=q rfl
theorem Rk:Q 1 0x5feeba67d10000000001000000d009d2028000:=q rfl
theorem Rj:Q 1 0xbfdd33e880000000008000006804d86a0c80:=q rfl
end
end Internal
end
noncomputable section
open PySem PySem.W PyProof.Rows
namespace Internal
variable {α:Type}{P:Prop}{b:Bool}{a:α}
set_option genCtorIdx true in
set_option genInjectivity true in
inductive V where
 |none|bool (b:Bool)|int (i:Int)|str (s:Str)|tup (l:List V)|lst (l:List V)|loc (n:Nat)
 deriving Inhabited
set_option genCtorIdx true in
set_option genInjectivity true in
inductive O where
 |list (l:List V)|cJ (l:List (Int×V))|dN (l:List (Str×V))|inst (l:List V)
 deriving Inhabited
noncomputable abbrev bo:=List O
noncomputable abbrev Vs:=List (Option V)
set_option genCtorIdx true in
set_option genInjectivity true in
inductive R (α:Type) where
 |ok (a:α) (σ:bo)|exc (σ:bo)|bad
noncomputable abbrev R.bind {β:Type}(r:R α)(f:α->bo->R β):R β:=match r with
 |.ok a σ=>f a σ
 |.exc σ=>.exc σ
 |.bad=>.bad
noncomputable def R.get (o:Option α)(σ:bo):R α:=match o with
 |some a=>.ok a σ
 |none=>.bad
theorem rOB  {σ:bo}(h:R.ok a σ=.bad):P:=nomatch h
theorem Rb  {σ:bo}(h:.bad=R.ok a σ):P:=nomatch h
theorem Ra  {σ τ:bo}(h:R.ok a σ=.exc τ):P:=nomatch h
theorem rEO  {σ τ:bo}(h:.exc τ=R.ok a σ):P:=nomatch h
theorem rEB {σ:bo}(h:(R.exc σ:R α)=.bad):P:=nomatch h
theorem B8 {σ:bo}(h:(R.bad:R α)=.exc σ):P:=nomatch h
theorem rI  {b:α}{σ τ:bo}(h:R.ok a σ=.ok b τ):a=b/\σ=τ:=⟨congrArg (λr=>match r with|.ok a _=>a|_=>a) h,congrArg (λr=>match r with|.ok _ σ=>σ|_=>σ) h⟩
inductive Nh where|add|sub|mul|fdiv|mod|pow (u:Unit)
inductive Cm where|eq|ne|lt|le|gt|ge|is|r8 (u:Unit)|ry|H3
inductive X where
 |k (c:V)
 |v (i:Nat)
 |c (i:Nat)
 |g (i:Nat)
 |tup (l:List X)
 |lst (m:Bool) (l:List X)
 |z4 (ks:List Int) (l:List X)
 |sY (ks:List Str) (l:List X)
 |bin (o:Nh) (m:Bool) (a b:X)
 |neg (a:X)
 |cmp (a:X) (o:List Cm) (l:List X)
 |and (l:List X)
 |or (l:List X)
 |not (a:X)
 |ite (c a b:X)
 |sub (a i:X)
 |xN (a lo:X)
 |vE (a hi:X)
 |dm (a:X) (f:Nat)
 |call (f:Nat) (l:List X)
 |len (a:X)
 |abs (a:X)
 |k7 (a:X)
 |tolist (a:X)
 |An (t:Nat) (a:X)
 |app (o a:X)
 |pop (o:X)
 |uu (o i:X)
 |ext (o a:X)
 |index (o a:X)
 |split (o:X) (sep:Str)
 |zZ (o a:X)
 |mk (l:List X)
 |nz (l:List X)
 |pC (a:X)
 |comp (m:Bool) (e:X) (it:X) (ifs:List X)
noncomputable def X.ix (x:X):Nat:=X.casesOn x (λU=>0) (λU=>1) (λU=>2) (λU=>3) (λU=>4) (λU U=>5) (λU U=>6) (λU U=>7) (λU U U U=>8) (λU=>9) (λU U U=>10) (λU=>11) (λU=>12) (λU=>13) (λU U U=>14) (λU U=>15) (λU U=>16) (λU U=>17) (λU U=>18) (λU U=>19) (λU=>20) (λU=>21) (λU=>22) (λU=>23) (λU U=>24) (λU U=>25) (λU=>26) (λU U=>27) (λU U=>28) (λU U=>29) (λU U=>30) (λU U=>31) (λU=>32) (λU=>33) (λU=>34) (λU U U U=>35)
inductive Tg where
 |n (i:Nat)|t (is:List Nat)
inductive TA where
 |n (i:Nat)|dm (o:X) (f:Nat)|sub (o i:X)
inductive S where
 |expr (e:X)
 |asg (i:Nat) (e:X)
 |fY (ts:List TA) (e:X)
 |fj (o:X) (f:Nat) (e:X)
 |eY (o i e:X)
 |ite (c:X) (a b:List S)
 |vK (c:X) (b:List S)
 |jx (t:Tg) (it:X) (b:List S)
 |yb (i:Nat) (d c:X)
 |ret (e:X)
 |raise (a b:X)
 |vR (f:Nat) (l:List X) (v:V)
 |dead
noncomputable def lim:Nat:=100000
noncomputable def big (i:Int):Bool:=decide (i.natAbs<2 ^ 62)
noncomputable def aaR:V->V->Option Bool
 |.none,.none=>aa af
 |.bool a,.bool b=>aa (a==b)
 |.int a,.int b=>aa (a==b)
 |.str a,.str b=>aa (a==b)
 |.bool _,.int _=>dv
 |.int _,.bool _=>dv
 |.loc _,_=>dv
 |_,.loc _=>dv
 |.none,_=>aa ag
 |.bool _,_=>aa ag
 |.int _,_=>aa ag
 |.str _,_=>aa ag
 |.tup _,_=>aa ag
 |.lst _,_=>aa ag
noncomputable def sN (f:V->V->Option Bool):List V->List V->Option Bool
 |[],[]=>aa af
 |a::l,b::r=>match f a b,sN f l r with
  |some x,aa y=>aa (x&&y)
  |_,_=>dv
 |_,_=>aa ag
def yY:Nat->V->V->Option Bool
 |0,_,_=>ae
 |n+1,.tup a,.tup b=>sN (yY n) a b
 |n+1,.lst a,.lst b=>sN (yY n) a b
 |_+1,a,b=>aaR a b
noncomputable def lI:Nat->V->Bool
 |0,_=>ag
 |_+1,.none=>af
 |_+1,.bool _=>af
 |_+1,.int _=>af
 |_+1,.str s=>s.cps.all (·<0x110000)
 |n+1,.tup l=>l.all (lI n)
 |n+1,.lst l=>l.all (lI n)
 |_+1,.loc _=>ag
def sX (x y:V):Option Bool:=if lI 8 x&&lI 8 y then yY 8 x y else ae
noncomputable def oQ (σ:bo):V->Option V
 |.loc n=>match σ[n]? with
  |some (.list l)=>aa (.lst l)
  |_=>ae
 |v=>aa v
noncomputable def items (σ:bo):V->Option (List V)
 |.lst l=>aa l
 |.tup l=>aa l
 |.loc n=>match σ[n]? with
  |some (.list l)=>aa l
  |_=>ae
 |_=>ae
def qm (x:V):List V->Option Bool
 |[]=>aa ag
 |y::l=>match sX y x,qm x l with
  |some a,aa b=>aa (a||b)
  |_,_=>ae
noncomputable def j4:List (Int×V)->Int->Option V
 |[],_=>ae
 |(a,v)::r,k=>if a=k then aa v else j4 r k
noncomputable def qC:List (Str×V)->Str->Option V
 |[],_=>ae
 |(a,v)::r,k=>if a=k then aa v else qC r k
noncomputable def nU:List (Int×V)->Int->V->List (Int×V)
 |[],k,v=>[(k,v)]
 |(a,u)::r,k,v=>if a=k then(a,v)::r else(a,u)::nU r k v
noncomputable def lQ:List (Str×V)->Str->V->List (Str×V)
 |[],k,v=>[(k,v)]
 |(a,u)::r,k,v=>if a=k then(a,v)::r else(a,u)::lQ r k v
noncomputable def ib (a b:V)(f:Int->Int->Bool):Option Bool:=match a with
 |.int x=>(match b with
  |.int y=>aa (f x y)
  |_=>ae)
 |_=>ae
noncomputable def MS:V->Bool
 |.none=>af
 |_=>ag
noncomputable def isM:V->Bool
 |.none=>ag
 |_=>af
noncomputable def eqD (o p:Option V):Option Bool:=match o with
 |some x=>(match p with
  |some y=>sX x y
  |none=>ae)
 |none=>ae
def inO (a:V)(o:Option O):Option Bool:=match o with
 |some o=>(match o with
  |.list l=>qm a l
  |.cJ l=>(match a with
   |.int i=>aa (j4 l i).isSome
   |_=>ae)
  |.dN l=>(match a with
   |.str i=>aa (qC l i).isSome
   |_=>ae)
  |.inst _=>ae)
 |none=>ae
def inV (σ:bo)(a b:V):Option Bool:=match b with
 |.lst l=>qm a l
 |.tup l=>qm a l
 |.loc n=>inO a σ[n]?
 |_=>ae
def fe (σ:bo)(o:Cm)(a b:V):Option Bool:=match o with
 |.eq=>eqD (oQ σ a) (oQ σ b)
 |.ne=>(eqD (oQ σ a) (oQ σ b)).map (!·)
 |.lt=>match a with
  |.int x=>(match b with
   |.int y=>aa (decide (x<y))
   |_=>ae)
  |_=>ae
 |.le=>match a with
  |.int x=>(match b with
   |.int y=>aa (decide (x<=y))
   |_=>ae)
  |_=>ae
 |.gt=>match a with
  |.int x=>(match b with
   |.int y=>aa (decide (y<x))
   |_=>ae)
  |_=>ae
 |.ge=>match a with
  |.int x=>(match b with
   |.int y=>aa (decide (y<=x))
   |_=>ae)
  |_=>ae
 |.is=>if MS b then aa (MS a)else ae
 |.r8 _=>if MS b then aa (isM a)else ae
 |.ry=>inV σ a b
 |.H3=>(inV σ a b).map (!·)
noncomputable def mV (l:List V):Nat->List V
 |0=>[]
 |n+1=>l++mV l n
def gQ (m:Bool)(l:List V)(σ:bo):R V :=
 if l.length<lim then(if m then .ok (.loc σ.length) (σ++[.list l])else .ok (.lst l) σ)else .bad
noncomputable def ii (a b:V)(f:Int->Int->R V):R V:=match a with
 |.int x=>(match b with
  |.int y=>f x y
  |_=>.bad)
 |_=>.bad
noncomputable def Ak (σ:bo)(a:V):Option (List V):=match a with
 |.lst l=>aa l
 |.loc n=>(match σ[n]? with
  |some (.list l)=>aa l
  |_=>ae)
 |_=>ae
def Pe (σ:bo)(m:Bool)(o p:Option (List V)):R V:=match o with
 |some x=>(match p with
  |some y=>gQ m (x++y) σ
  |none=>.bad)
 |none=>.bad
def aaz (σ:bo)(m:Bool)(a b:V):R V:=match a with
 |.int x=>ii (.int x) b λx y=>.ok (.int (x+y)) σ
 |.str x=>(match b with
  |.str y=>if x.cps.size+y.cps.size<lim then .ok (.str ⟨x.cps++y.cps⟩) σ else .bad
  |_=>.bad)
 |.tup x=>(match b with
  |.tup y=>if x.length+y.length<lim then .ok (.tup (x++y)) σ else .bad
  |_=>.bad)
 |a=>Pe σ m (Ak σ a) (Ak σ b)
def YY (σ:bo)(m:Bool)(a b:V):R V:=match b with
 |.int y=>(match a with
  |.int x=>if big x&&big y then .ok (.int (x*y)) σ else .bad
  |.tup x=>if y.toNat*x.length<lim/\0<=y/\y<1000 then .ok (.tup (mV x y.toNat)) σ else .bad
  |.lst x=>if y.toNat*x.length<lim/\0<=y/\y<1000 then gQ m (mV x y.toNat) σ else .bad
  |_=>.bad)
 |_=>.bad
def Pm (σ:bo)(o:Nh)(m:Bool)(a b:V):R V:=match o with
 |.add=>aaz σ m a b
 |.sub=>ii a b λx y=>.ok (.int (x-y)) σ
 |.mul=>YY σ m a b
 |.fdiv=>ii a b λx y=>if 0<y/\y<1000000 then .ok (.int (x/y)) σ else .bad
 |.mod=>ii a b λx y=>if 0<y then .ok (.int (x%y)) σ else .bad
 |.pow _=>ii a b λx y=>if x=10/\y=9 then .ok (.int 1000000000) σ else .bad
def place (i:Int)(n:Nat):Option Nat:=if big i=ag then ae else
 if 0<=i then(if i.toNat<n then aa i.toNat else ae)
 else(if 0<=i+n then aa (i+n).toNat else ae)
def idx (l:List V)(i:V):Option V:=match i with
 |.int i=>(place i l.length).bind λj=>l[j]?
 |_=>ae
def DN (o:Option O)(i:V):Option V:=match o with
 |some o=>(match o with
  |.list l=>idx l i
  |.cJ l=>(match i with
   |.int i=>j4 l i
   |_=>ae)
  |.dN l=>(match i with
   |.str i=>qC l i
   |_=>ae)
  |.inst _=>ae)
 |none=>ae
def hU (σ:bo)(a i:V):Option V:=match a with
 |.lst l=>idx l i
 |.tup l=>idx l i
 |.str s=>(match i with
  |.int i=>(place i s.cps.size).bind λj=>s.cps[j]?.map λc=>.str ⟨#[c]⟩
  |_=>ae)
 |.loc n=>DN σ[n]? i
 |_=>ae
def IY (σ:bo)(n:Nat)(o:Option O)(i x:V):Option bo:=match o with
 |some o=>(match o with
  |.list l=>(match i with
   |.int i=>if 0<=i then(place i l.length).map λj=>σ.set n (.list (l.set j x))else ae
   |_=>ae)
  |.cJ l=>(match i with
   |.int i=>if l.length<lim then aa (σ.set n (.cJ (nU l i x)))else ae
   |_=>ae)
  |.dN l=>(match i with
   |.str i=>if l.length<lim then aa (σ.set n (.dN (lQ l i x)))else ae
   |_=>ae)
  |.inst _=>ae)
 |none=>ae
def o8 (σ:bo)(a i x:V):Option bo:=match a with
 |.loc n=>IY σ n σ[n]? i x
 |_=>ae
noncomputable def KL (o:Option O)(f:Nat):Option V:=match o with
 |some o=>(match o with
  |.inst l=>l[f]?
  |_=>ae)
 |none=>ae
noncomputable def yg (σ:bo)(a:V)(f:Nat):Option V:=match a with
 |.loc n=>KL σ[n]? f
 |_=>ae
noncomputable def I1 (σ:bo)(n:Nat)(o:Option O)(f:Nat)(x:V):Option bo:=match o with
 |some o=>(match o with
  |.inst l=>if f<l.length then aa (σ.set n (.inst (l.set f x)))else if f=l.length then aa (σ.set n (.inst (l++[x])))else ae
  |_=>ae)
 |none=>ae
noncomputable def kD (σ:bo)(a:V)(f:Nat)(x:V):Option bo:=match a with
 |.loc n=>I1 σ n σ[n]? f x
 |_=>ae
noncomputable def cut (up:Bool)(i:Int)(l:List V):List V:=if up then l.take i.toNat else l.drop i.toNat
def IV (up:Bool)(σ:bo)(i:Int)(o:Option (List V)):R V:=match o with
 |some l=>if 0<=i/\big i=af/\l.length<lim then gQ ag (cut up i l) σ else .bad
 |none=>.bad
def N1 (up:Bool)(σ:bo)(a:V)(i:Int):R V:=match a with
 |.tup l=>if 0<=i/\i.toNat<=l.length/\l.length<lim then .ok (.tup (cut up i l)) σ else .bad
 |a=>IV up σ i (Ak σ a)
def slc (up:Bool)(σ:bo)(a i:V):R V:=match i with
 |.int i=>N1 up σ a i
 |_=>.bad
def xN (σ:bo)(a i:V):R V:=slc ag σ a i
def vE (σ:bo)(a i:V):R V:=slc af σ a i
def ju (a:V)(sep:Str):Option (List V):=match a with
 |.str s=>if s.length<lim/\sep.length=1/\(gm s sep).length<lim then aa ((gm s sep).map .str)else ae
 |_=>ae
noncomputable def nj:V->Option V
 |.int i=>aa (.int i)
 |.bool b=>aa (.int (if b then 1 else 0))
 |.str s=>if s.length<=640 then(PySem.intText? s).map .int else ae
 |_=>ae
noncomputable def GF (t:Nat)(a b c:Bool):Option Bool:=match t with
 |0=>aa a
 |1=>aa b
 |2=>aa c
 |_=>ae
def Bc (t:Nat)(a:V):Option Bool:=match a with
 |.int _=>GF t af ag ag
 |.bool _=>GF t af af ag
 |.none=>GF t ag ag ag
 |.str _=>GF t ag ag af
 |_=>ae
noncomputable def findS (q:Str):List V->Option (Option Nat)
 |[]=>aa ae
 |.str s::l=>match findS q l with
  |some r=>if s=q then aa (aa 0)else aa (r.map (·+1))
  |none=>ae
 |_=>ae
noncomputable def iw (a b:Int):List V:=(fG (b-a).toNat).map λ(i:Nat)=>V.int (a+(i:Int))
set_option genCtorIdx true in
set_option genInjectivity true in
inductive IK where
 |items (l:List V)|live (n:Nat) (en:Bool)
noncomputable def Ol (f:X->Bool):List X->Bool
 |[]=>af
 |x::r=>f x&&Ol f r
mutual
noncomputable def gr:X->Bool
 |.k _=>af
 |.v _=>af
 |.c _=>af
 |.g _=>af
 |.tup l=>j2 l
 |.cmp a _ l=>gr a&&j2 l
 |.and l=>j2 l
 |.or l=>j2 l
 |.not a=>gr a
 |.sub a i=>gr a&&gr i
 |.abs a=>gr a
 |.k7 a=>gr a
 |.split a _=>gr a
 |.neg a=>gr a
 |.dm a _=>gr a
 |.zZ a b=>gr a&&gr b
 |_=>ag
noncomputable def j2:List X->Bool
 |[]=>af
 |x::r=>gr x&&j2 r
end
noncomputable def iK (f:V->Option Bool)(e:V->Option V):List V->Option (List V)
 |[]=>aa []
 |x::r=>match f x with
  |some af=>match e x,iK f e r with
   |some y,aa l=>aa (y::l)
   |_,_=>ae
  |some ag=>iK f e r
  |none=>ae
noncomputable def R.val {α:Type}:R α->Option α
 |.ok a _=>aa a
 |_=>ae
noncomputable def uQ (σ:bo):V->Bool
 |.loc n=>match σ[n]? with
  |some (.list _)=>af
  |_=>ag
 |_=>ag
noncomputable def isD (σ:bo):V->Bool
 |.loc n=>match σ[n]? with
  |some (.cJ _)=>af
  |_=>ag
 |_=>ag
noncomputable def isF:V->Bool
 |.lst _=>af
 |_=>ag
def iY (v:V)(σ:bo):R IK:=match v with
 |.lst l=>R.ok (IK.items l) σ
 |.tup l=>R.ok (IK.items l) σ
 |.loc n=>if uQ σ (.loc n)then R.ok (.live n ag) σ else R.bad
 |_=>R.bad
def Q8 (x:V)(σ:bo):R IK:=match x with
 |.int i=>if i.toNat<lim/\big i=af then .ok (.items (iw 0 i)) σ else .bad
 |_=>.bad
def Oe (x y:V)(σ:bo):R IK:=match x,y with
 |.int i,.int j=>if(j-i).toNat<lim/\big i=af/\big j=af then .ok (.items (iw i j)) σ else .bad
 |_,_=>.bad
def Hy (x:V)(σ:bo):R IK:=if uQ σ x then match x with
  |.loc n=>.ok (.live n af) σ
  |_=>.bad
 else .bad
def AW (x:V)(σ:bo):R IK:=match x with
 |.tup [a]=>Q8 a σ
 |.tup [a,b]=>Oe a b σ
 |_=>.bad
def jK (x:X):V->bo->R IK:=bif eG x.ix 33 then AW else bif eG x.ix 34 then Hy else iY
noncomputable def itemsOf (k:IK)(σ:bo):Option (List V):=match k with
 |.items l=>aa l
 |.live n ag=>(match σ[n]? with|some (.list l)=>aa l|_=>ae)
 |_=>ae
noncomputable def GJ:Nat:=0
section
variable (G:List V)(Φ:Nat->List V->bo->R V)(vs:Vs)
mutual
def ev:X->List V->bo->R V
 |.k c,_,σ=>.ok c σ
 |.v i,_,σ=>match vs[i]? with
  |some (aa x)=>.ok x σ
  |_=>.bad
 |.c i,cs,σ=>R.get cs[i]? σ
 |.g i,_,σ=>R.get G[i]? σ
 |.tup l,cs,σ=>(CH l cs σ).bind λxs σ=>if xs.length<lim then .ok (.tup xs) σ else .bad
 |.lst m l,cs,σ=>(CH l cs σ).bind λxs σ=>gQ m xs σ
 |.z4 ks l,cs,σ=>(CH l cs (σ++[.cJ []])).bind λxs cD=>if ks.length=xs.length/\xs.length<=15 then match cD[σ.length]? with
  |some (.cJ [])=>.ok (.loc σ.length) (cD.set σ.length (.cJ ((ks.zip xs).foldl (λd kv=>nU d kv.1 kv.2) [])))
  |_=>.bad
  else .bad
 |.sY ks l,cs,σ=>(CH l cs (σ++[.dN []])).bind λxs cD=>if ks.length=xs.length/\xs.length<=15 then match cD[σ.length]? with
  |some (.dN [])=>.ok (.loc σ.length) (cD.set σ.length (.dN ((ks.zip xs).foldl (λd kv=>lQ d kv.1 kv.2) [])))
  |_=>.bad
  else .bad
 |.bin o m a b,cs,σ=>(ev a cs σ).bind λx σ=>(ev b cs σ).bind λy σ=>Pm σ o m x y
 |.neg a,cs,σ=>(ev a cs σ).bind λx σ=>match x with
  |.int i=>.ok (.int (-i)) σ
  |_=>.bad
 |.cmp a o l,cs,σ=>(ev a cs σ).bind λx σ=>Ic x o l cs σ
 |.and l,cs,σ=>qV af l cs σ
 |.or l,cs,σ=>qV ag l cs σ
 |.not a,cs,σ=>(ev a cs σ).bind λx σ=>match x with
  |.bool b=>.ok (.bool !b) σ
  |_=>.bad
 |.ite c a b,cs,σ=>(ev c cs σ).bind λx σ=>match x with
  |.bool af=>ev a cs σ
  |.bool ag=>ev b cs σ
  |_=>.bad
 |.sub a i,cs,σ=>(ev a cs σ).bind λx σ=>(ev i cs σ).bind λy σ=>R.get (hU σ x y) σ
 |.xN a i,cs,σ=>(ev a cs σ).bind λx σ=>(ev i cs σ).bind λy σ=>xN σ x y
 |.vE a i,cs,σ=>(ev a cs σ).bind λx σ=>(ev i cs σ).bind λy σ=>vE σ x y
 |.dm a f,cs,σ=>(ev a cs σ).bind λx σ=>R.get (yg σ x f) σ
 |.call f l,cs,σ=>(CH l cs σ).bind λxs σ=>Φ f xs σ
 |.len a,cs,σ=>(ev a cs σ).bind λx σ=>match items σ x with
  |some l=>if l.length<lim then .ok (.int l.length) σ else .bad
  |none=>.bad
 |.abs a,cs,σ=>(ev a cs σ).bind λx σ=>match x with
  |.int i=>.ok (.int i.natAbs) σ
  |_=>.bad
 |.k7 a,cs,σ=>(ev a cs σ).bind λx σ=>R.get (nj x) σ
 |.tolist a,cs,σ=>(ev a cs σ).bind λx σ=>match x with
  |.tup l=>gQ af l σ
  |_=>.bad
 |.An t a,cs,σ=>(ev a cs σ).bind λx σ=>match Bc t x with
  |some b=>.ok (.bool b) σ
  |none=>.bad
 |.app o a,cs,σ=>(ev o cs σ).bind λx σ=>if uQ σ x then(ev a cs σ).bind λy σ=>match x with
  |.loc n=>match σ[n]? with
   |some (.list l)=>if l.length<lim then .ok .none (σ.set n (.list (l++[y])))else .bad
   |_=>.bad
  |_=>.bad
  else .bad
 |.pop o,cs,σ=>(ev o cs σ).bind λx σ=>match x with
  |.loc n=>match σ[n]? with
   |some (.list l)=>match l.getLast? with
    |some y=>if l.length<lim then .ok y (σ.set n (.list l.dropLast))else .bad
    |none=>.bad
   |_=>.bad
  |_=>.bad
 |.uu o i,cs,σ=>(ev o cs σ).bind λx σ=>if uQ σ x then(ev i cs σ).bind λy σ=>match x,y with
  |.loc n,.int i=>match σ[n]? with
   |some (.list l)=>match l[i.toNat]? with
    |some y=>if l.length<lim/\0<=i then .ok y (σ.set n (.list (l.eraseIdx i.toNat)))else .bad
    |none=>.bad
   |_=>.bad
  |_,_=>.bad
  else .bad
 |.ext o a,cs,σ=>(ev o cs σ).bind λx σ=>if uQ σ x then(ev a cs σ).bind λy σ=>match x,y with
  |.loc n,.lst r=>match σ[n]? with
   |some (.list l)=>if l.length+r.length<lim then .ok .none (σ.set n (.list (l++r)))else .bad
   |_=>.bad
  |_,_=>.bad
  else .bad
 |.index o a,cs,σ=>(ev o cs σ).bind λx σ=>if isF x then(ev a cs σ).bind λy σ=>match x,y with
  |.lst l,.str q=>match findS q l with
   |some (aa j)=>if l.length<lim then .ok (.int j) σ else .bad
   |_=>.bad
  |_,_=>.bad
  else .bad
 |.split o sep,cs,σ=>(ev o cs σ).bind λx σ=>match ju x sep with
  |some l=>gQ ag l σ
  |none=>.bad
 |.zZ o a,cs,σ=>(ev o cs σ).bind λx σ=>if isD σ x then(ev a cs σ).bind λy σ=>match x,y with
  |.loc n,.int i=>match σ[n]? with
   |some (.cJ l)=>.ok ((j4 l i).getD .none) σ
   |_=>.bad
  |_,_=>.bad
  else .bad
 |.mk l,cs,σ=>(CH l cs σ).bind λxs σ=>(Φ GJ (.loc σ.length::xs) (σ++[.inst []])).bind λr cD=>match r with
  |.none=>.ok (.loc σ.length) cD
  |_=>.bad
 |.nz l,cs,σ=>(CH l cs σ).bind λxs σ=>.ok (.tup xs) σ
 |.pC a,cs,σ=>ev a cs σ
 |.comp m e it ifs,cs,σ=>((ev it cs σ).bind (jK it)).bind λk σ =>
  match itemsOf k σ with
  |some l=>if gr e&&j2 ifs&&decide (l.length<lim)then
    match iK (λx=>match R.val (qV af ifs [x] σ)with|some (.bool b)=>aa b|_=>ae) (λx=>R.val (ev e [x] σ)) l with
    |some ys=>gQ m ys σ
    |none=>.bad
   else .bad
  |none=>.bad
def CH:List X->List V->bo->R (List V)
 |[],_,σ=>.ok [] σ
 |x::l,cs,σ=>(ev x cs σ).bind λv σ=>(CH l cs σ).bind λvs σ=>.ok (v::vs) σ
def Ic:V->List Cm->List X->List V->bo->R V
 |x,[o],[b],cs,σ=>(ev b cs σ).bind λy σ=>match fe σ o x y with
  |some r=>.ok (.bool r) σ
  |none=>.bad
 |x,o::os,b::l,cs,σ=>(ev b cs σ).bind λy σ=>match fe σ o x y with
  |some af=>Ic y os l cs σ
  |some ag=>.ok (.bool ag) σ
  |none=>.bad
 |_,_,_,_,_=>.bad
def qV:Bool->List X->List V->bo->R V
 |w,[],_,σ=>.ok (.bool w) σ
 |w,x::l,cs,σ=>(ev x cs σ).bind λv σ=>match v with
  |.bool b=>if b=w then qV w l cs σ else .ok (.bool b) σ
  |_=>.bad
end
def uX (x:X)(cs:List V)(σ:bo):R IK:=(ev G Φ vs x cs σ).bind (jK x)
end
inductive Fl where
 |nx|rt (v:V)
abbrev RS:=R (Fl×Vs)
noncomputable def lh (t:Tg)(v:V)(vs:Vs):Option Vs:=match t with
 |.n i=>aa (vs.set i (aa v))
 |.t is=>match v with
  |.tup l=>if l.length=is.length then aa ((is.zip l).foldl (λvs p=>vs.set p.1 (aa p.2)) vs)else ae
  |_=>ae
noncomputable def oN (c:Vs->bo->R V)(b:Vs->bo->RS):Nat->Vs->bo->RS
 |0,_,_=>.bad
 |n+1,vs,σ=>(c vs σ).bind λx σ=>match x with
  |.bool af=>(b vs σ).bind λr σ=>match r with
   |(.nx,vs)=>oN c b n vs σ
   |(.rt v,vs)=>.ok (.rt v,vs) σ
  |.bool ag=>.ok (.nx,vs) σ
  |_=>.bad
noncomputable def jc (t:Tg)(b:Vs->bo->RS):List V->Vs->bo->RS
 |[],vs,σ=>.ok (.nx,vs) σ
 |x::l,vs,σ=>match lh t x vs with
  |some vs=>(b vs σ).bind λr σ=>match r with
   |(.nx,vs)=>jc t b l vs σ
   |(.rt v,vs)=>.ok (.rt v,vs) σ
  |none=>.bad
noncomputable def qr (t:Tg)(en:Bool)(b:Vs->bo->RS)(n:Nat):Nat->Nat->Vs->bo->RS
 |0,_,_,_=>.bad
 |f+1,i,vs,σ=>match σ[n]? with
  |some (.list l)=>match l[i]? with
   |some x=>match lh t (if en then .tup [.int i,x]else x) vs with
    |some vs=>(b vs σ).bind λr σ=>match r with
     |(.nx,vs)=>qr t en b n f (i+1) vs σ
     |(.rt v,vs)=>.ok (.rt v,vs) σ
    |none=>.bad
   |none=>.ok (.nx,vs) σ
  |_=>.bad
noncomputable def oy (b:Int->Bool):List (Int×V)->Bool
 |[]=>af
 |(k,_)::r=>b k&&oy b r
section
variable (G:List V)(Φ:Nat->List V->bo->R V)(W:Nat)
noncomputable def zx (t:TA)(x:V)(vs:Vs)(σ:bo):R Vs:=match t with
 |.n i=>.ok (vs.set i (aa x)) σ
 |.dm o f=>(ev G Φ vs o [] σ).bind λa σ=>match kD σ a f x with
  |some σ=>.ok vs σ
  |none=>.bad
 |.sub o i=>(ev G Φ vs o [] σ).bind λa σ=>(ev G Φ vs i [] σ).bind λj σ=>match o8 σ a j x with
  |some σ=>.ok vs σ
  |none=>.bad
def nA:List TA->List V->Vs->bo->R Vs
 |[],[],vs,σ=>.ok vs σ
 |t::ts,x::xs,vs,σ=>(zx G Φ t x vs σ).bind λvs σ=>nA ts xs vs σ
 |_,_,_,_=>.bad
mutual
def ex:S->Vs->bo->RS
 |.expr e,vs,σ=>(ev G Φ vs e [] σ).bind λU σ=>.ok (.nx,vs) σ
 |.asg i e,vs,σ=>(ev G Φ vs e [] σ).bind λx σ=>.ok (.nx,vs.set i (aa x)) σ
 |.fY ts e,vs,σ=>(ev G Φ vs e [] σ).bind λx σ=>match x with
  |.tup l=>if l.length=ts.length then(nA G Φ ts l vs σ).bind λvs σ=>.ok (.nx,vs) σ else .bad
  |_=>.bad
 |.fj o f e,vs,σ=>(ev G Φ vs e [] σ).bind λx σ=>(ev G Φ vs o [] σ).bind λa σ=>match kD σ a f x with
  |some σ=>.ok (.nx,vs) σ
  |none=>.bad
 |.eY o i e,vs,σ=>(ev G Φ vs e [] σ).bind λx σ=>(ev G Φ vs o [] σ).bind λa σ=>(ev G Φ vs i [] σ).bind λj σ=>match o8 σ a j x with
  |some σ=>.ok (.nx,vs) σ
  |none=>.bad
 |.ite c a b,vs,σ=>(ev G Φ vs c [] σ).bind λx σ=>match x with
  |.bool af=>l5 a vs σ
  |.bool ag=>l5 b vs σ
  |_=>.bad
 |.vK c b,vs,σ=>oN (λvs σ=>ev G Φ vs c [] σ) (λvs σ=>l5 b vs σ) W vs σ
 |.jx t it b,vs,σ=>(uX G Φ vs it [] σ).bind λk σ=>match k with
  |.items l=>jc t (λvs σ=>l5 b vs σ) l vs σ
  |.live n en=>qr t en (λvs σ=>l5 b vs σ) n W 0 vs σ
 |.yb i d c,vs,σ=>(ev G Φ vs d [] σ).bind λx σ=>match x with
  |.loc n=>match σ[n]? with
   |some (.cJ l)=>if gr c&&decide (l.length<lim)&&oy (λk=>match R.val (ev G Φ (vs.set i (aa (.int k))) c [] σ)with|some (.bool ag)=>af|_=>ag) l
     then .ok (.nx,vs.set i dv) σ else .bad
   |_=>.bad
  |_=>.bad
 |.ret e,vs,σ=>(ev G Φ vs e [] σ).bind λx σ=>.ok (.rt x,vs) σ
 |.raise a b,vs,σ=>(ev G Φ vs a [] σ).bind λU σ=>(ev G Φ vs b [] σ).bind λU σ=>.exc σ
 |.vR f l v,vs,σ=>(CH G Φ vs l [] σ).bind λxs σ=>match Φ f xs σ with
  |.ok _ σ=>.ok (.nx,vs) σ
  |.exc σ=>.ok (.rt v,vs) σ
  |.bad=>.bad
 |.dead,_,_=>.bad
def l5:List S->Vs->bo->RS
 |[],vs,σ=>.ok (.nx,vs) σ
 |s::r,vs,σ=>(ex s vs σ).bind λq σ=>match q with
  |(.nx,vs)=>l5 r vs σ
  |(.rt v,vs)=>.ok (.rt v,vs) σ
end
end
structure Fn where
 np:Nat
 nv:Nat
 body:List S
 df:List V
def kM (G:List V)(F:List Fn)(W:Nat):Nat->Nat->List V->bo->R V
 |0,_,_,_=>.bad
 |d+1,f,xs,σ=>match F[f]? with
  |some fn=>if xs.length<=fn.np/\fn.np<=xs.length+fn.df.length then
    (l5 G (kM G F W d) W fn.body ((xs++fn.df.drop (xs.length+fn.df.length-fn.np)).map aa++bF (fn.nv-fn.np) dv) σ).bind λr σ=>match r with
     |(.rt v,_)=>.ok v σ
     |(.nx,_)=>.ok .none σ
   else .bad
  |none=>.bad
theorem qP {a:Bool}(h:(a&&b)=af):a=af:=(bG.mp h).1
theorem vk {a:Bool}(h:(a&&b)=af):b=af:=(bG.mp h).2
theorem A7 (t:Tg)(b:Vs->bo->RS)(x:V)(l:List V)(vs:Vs)(σ:bo):jc t b (x::l) vs σ=match lh t x vs with
  |some vs=>(b vs σ).bind λr σ=>match r with
   |(.nx,vs)=>jc t b l vs σ
   |(.rt v,vs)=>.ok (.rt v,vs) σ
  |none=>.bad:=rfl
theorem uH (t:Tg)(en:Bool)(b:Vs->bo->RS)(n f i:Nat)(vs:Vs)(σ:bo):qr t en b n (f+1) i vs σ=match σ[n]? with
  |some (.list l)=>match l[i]? with
   |some x=>match lh t (if en then .tup [.int i,x]else x) vs with
    |some vs=>(b vs σ).bind λr σ=>match r with
     |(.nx,vs)=>qr t en b n f (i+1) vs σ
     |(.rt v,vs)=>.ok (.rt v,vs) σ
    |none=>.bad
   |none=>.ok (.nx,vs) σ
  |_=>.bad:=rfl
theorem u5 (G:List V)(F:List Fn)(W d f:Nat)(xs:List V)(σ:bo):kM G F W (d+1) f xs σ=match F[f]? with
  |some fn=>if xs.length<=fn.np/\fn.np<=xs.length+fn.df.length then
    (l5 G (kM G F W d) W fn.body ((xs++fn.df.drop (xs.length+fn.df.length-fn.np)).map aa++bF (fn.nv-fn.np) dv) σ).bind λr σ=>match r with
     |(.rt v,_)=>.ok v σ
     |(.nx,_)=>.ok .none σ
   else .bad
  |none=>.bad:=rfl
end Internal
end
noncomputable section
open PySem
namespace Internal
variable {α:Type}{x y:R α}{σ:bo}
def Still (σ:bo)(r:R α):Prop:=r=.bad\/∃v,r=.ok v σ
theorem Still.bind {β:Type}{r:R α}{f:α->bo->R β}(h:Still σ r)(k:∀a,Still σ (f a σ)):Still σ (r.bind f):=by
 rcases h with rfl|⟨v,rfl⟩
 .exact .inl rfl
 .exact k v
theorem Still.ok  (v:α):Still σ (.ok v σ):=.inr ⟨v,rfl⟩
theorem Still.bad {σ:bo}:Still (α:=α) σ .bad:=.inl rfl
theorem Still.get  (o:Option α):Still σ (R.get o σ):=by induction o;exact .bad;exact .ok _
theorem Still.ite  {c:Prop}[d:Decidable c](h:Still σ x)(k:Still σ y):Still σ (if c then x else y):=by cases d;exact k;exact h
section
variable (G:List V)(Φ:Nat->List V->bo->R V)(vs:Vs)
theorem aaf  {o:Option Bool}(h:Still σ x)(k:Still σ y):Still σ (match o with|some af=>x|some ag=>y|none=>.bad):=by
 induction o with
 |none=>exact .bad
 |some b=>induction b;exact k;exact h
mutual
theorem d0:∀(x:X) (cs:List V) (σ:bo),gr x=af->Still σ (ev G Φ vs x cs σ)
 |.k c,cs,σ,_=>.ok _
 |.v i,cs,σ,_=>by
  refine(?_:Still σ (match vs[i]? with|some (aa x)=>.ok x σ|_=>.bad));induction vs[i]? with
  |none=>exact .bad
  |some o=>induction o;exact .bad;exact .ok _
 |.c i,cs,σ,_=>.get _
 |.g i,cs,σ,_=>.get _
 |.tup l,cs,σ,h=>(rf l cs σ h).bind λxs=>.ite (.ok _) .bad
 |.neg a,cs,σ,h=>(d0 a cs σ h).bind λx=>by induction x using V.casesOn<;>first|exact .ok _|exact .bad
 |.cmp a o l,cs,σ,h=>(d0 a cs σ (qP h)).bind λx=>rh x o l cs σ (vk h)
 |.and l,cs,σ,h=>og af l cs σ h
 |.or l,cs,σ,h=>og ag l cs σ h
 |.not a,cs,σ,h=>(d0 a cs σ h).bind λx=>by induction x using V.casesOn<;>first|exact .ok _|exact .bad
 |.sub a i,cs,σ,h=>(d0 a cs σ (qP h)).bind λx=>(d0 i cs σ (vk h)).bind λy=>.get _
 |.dm a f,cs,σ,h=>(d0 a cs σ h).bind λx=>.get _
 |.abs a,cs,σ,h=>(d0 a cs σ h).bind λx=>by induction x using V.casesOn<;>first|exact .ok _|exact .bad
 |.k7 a,cs,σ,h=>(d0 a cs σ h).bind λx=>.get _
 |.zZ a b,cs,σ,h=>(d0 a cs σ (qP h)).bind λx=>.ite ((d0 b cs σ (vk h)).bind λy=>by
   induction x using V.casesOn with
   |loc n =>
    induction y using V.casesOn with
    |int i =>
     refine(?_:Still σ (match σ[n]? with|some (.cJ l)=>.ok ((j4 l i).getD .none) σ|_=>.bad));induction σ[n]? with
     |none=>exact .bad
     |some o=>induction o<;>first|exact .ok _|exact .bad
    |_=>exact .bad
   |_=>exact .bad) .bad
 |.split a s,cs,σ,h=>(d0 a cs σ h).bind λx=>by
  refine(?_:Still σ (match ju x s with|some l=>gQ ag l σ|none=>.bad));induction ju x s with
  |none=>exact .bad
  |some l=>exact .ite (.ok _) .bad
 |.lst _ _,_,_,h|.z4 _ _,_,_,h|.sY _ _,_,_,h|.bin _ _ _ _,_,_,h|.ite _ _ _,_,_,h|.xN _ _,_,_,h|.vE _ _,_,_,h|.call _ _,_,_,h|.len _,_,_,h|.tolist _,_,_,h|.An _ _,_,_,h
 |.app _ _,_,_,h|.pop _,_,_,h|.uu _ _,_,_,h|.ext _ _,_,_,h|.index _ _,_,_,h|.mk _,_,_,h|.nz _,_,_,h|.pC _,_,_,h|.comp _ _ _ _,_,_,h=>absurd h bq
theorem rf:∀(l:List X) (cs:List V) (σ:bo),j2 l=af->Still σ (CH G Φ vs l cs σ)
 |[]=>λcs σ U=>.ok _
 |x::l=>λcs σ h=>(d0 x cs σ (qP h)).bind λv=>(rf l cs σ (vk h)).bind λvs=>.ok _
theorem rh:∀(x:V) (o:List Cm) (l:List X) (cs:List V) (σ:bo),j2 l=af->Still σ (Ic G Φ vs x o l cs σ)
 |x,[],[]=>λcs σ h=>.bad
 |x,_::[],[]=>λcs σ h=>.bad
 |x,_::_::_,[]=>λcs σ h=>.bad
 |x,[],b::l=>λcs σ h=>.bad
 |x,[o],[b]=>λcs σ h=>(d0 b cs σ (qP h)).bind λy=>by
  refine(?_:Still σ (match fe σ o x y with|some r=>R.ok (V.bool r) σ|none=>.bad));induction fe σ o x y with
  |none=>exact .bad
  |some r=>exact .ok _
 |x,[o],b::b'::l=>λcs σ h=>(d0 b cs σ (qP h)).bind λy=>aaf (rh y [] (b'::l) cs σ (vk h)) (.ok _)
 |x,o::o'::os,b::l=>λcs σ h=>(d0 b cs σ (qP h)).bind λy=>aaf (rh y (o'::os) l cs σ (vk h)) (.ok _)
theorem og:∀(w:Bool) (l:List X) (cs:List V) (σ:bo),j2 l=af->Still σ (qV G Φ vs w l cs σ)
 |w,[]=>λcs σ U=>.ok _
 |w,x::l=>λcs σ h=>(d0 x cs σ (qP h)).bind λv=>by
  induction v using V.casesOn with
  |bool b=>exact .ite (og w l cs σ (vk h)) (.ok _)
  |_=>exact .bad
end
end
noncomputable abbrev st (s:String):Str:=cU s
abbrev ks (s:String):X:=.k (.str (st s))
noncomputable abbrev ki (n:Int):X:=.k (.int n)
def ro (a b:String)(n m:Int):V:=.tup [.str (st a),.str (st b),.int n,.int m]
def HO:List S :=
 [.fj (.v 0) 0 (.v 1),
 .fj (.v 0) 1 (.v 2),
 .fj (.v 0) 2 (.lst af []),
 .fj (.v 0) 3 (.lst ag []),
 .fj (.v 0) 4 (.lst ag []),
 .fj (.v 0) 5 (.lst af []),
 .fj (.v 0) 6 (.lst ag []),
 .fj (.v 0) 7 (ki 0),
 .fj (.v 0) 8 (ki 0),
 .fj (.v 0) 9 (.lst ag []),
 .fj (.v 0) 10 (.k (.bool ag)),
 .fj (.v 0) 11 (.k (.bool ag)),
 .fj (.v 0) 12 (.k (.none)),
 .fj (.v 0) 13 (.k (.none)),
 .fj (.v 0) 14 (.lst ag [])]
def Iw:List Str:=[(st "self"),(st "name"),(st "params")]
def Bo:Fn:=⟨3,3,HO,[]⟩
def vi:List S :=
 [.ret (.sub (.sub (.g 0) (.v 0)) (ki 1))]
def yW:List Str:=[(st "op")]
def pA:Fn:=⟨1,1,vi,[]⟩
def oS:List S :=
 [.ret (.bin .add ag (.sub (.sub (.g 0) (.v 0)) (ki 2)) (.ite (.cmp (.sub (.sub (.g 0) (.v 0)) (ki 1)) [.eq] [ks "n"]) (.v 1) (ki 0)))]
def tY:List Str:=[(st "op"),(st "arg")]
def lB:Fn:=⟨2,2,oS,[]⟩
def sm:List S :=
 [.ret (.sub (.sub (.g 0) (.v 0)) (ki 3))]
def xA:List Str:=[(st "op")]
def nJ:Fn:=⟨1,1,sm,[]⟩
noncomputable def xg:List S :=
 [.ret (.cmp (.v 0) [.ry] [.g 1])]
def AI:List Str:=[(st "op")]
def rH:Fn:=⟨1,1,xg,[]⟩
def pI:List S :=
 [.ret (.and [.An 0 (.v 0),.not (.An 1 (.v 0)),.cmp (.v 0) [.ge] [ki 0]])]
def yU:List Str:=[(st "value")]
def kJ:Fn:=⟨1,1,pI,[]⟩
def vh:List S :=
 [.ite (.or [.cmp (.v 1) [.eq] [ks "k"],.cmp (.v 1) [.eq] [ks "s"]]) [.ret (.len (.dm (.v 0) 3))] [],
 .ite (.cmp (.v 1) [.eq] [ks "l"]) [.ret (.dm (.v 0) 7)] [],
 .ite (.cmp (.v 1) [.eq] [ks "c"]) [.ret (.dm (.v 0) 8)] [],
 .ite (.cmp (.v 1) [.eq] [ks "u"]) [.ret (.len (.dm (.v 0) 9))] [],
 .ite (.cmp (.v 1) [.eq] [ks "t"]) [.ret (.len (.dm (.v 0) 2))] [],
 .ret (.ite (.cmp (.v 1) [.eq] [ks "f"]) (.len (.dm (.v 0) 4)) (.neg (ki 1)))]
def yV:List Str:=[(st "unit"),(st "kind")]
def pz:Fn:=⟨2,2,vh,[]⟩
def sC:List S :=
 [.fY [.n 2,.n 3] (.sub (.dm (.v 0) 2) (.v 1)),
 .ite (.or [.not (.call 5 [.v 2]),.cmp (.v 2) [.ge] [.g 2]]) [.raise (ks "no operation") (.v 1)] [],
 .asg 4 (.call 1 [.v 2]),
 .ite (.cmp (.v 4) [.eq] [ks ""]) [.ite (.cmp (.v 3) [.r8 ()] [.k (.none)]) [.raise (ks "an argument too many") (.v 1)] [],
  .ret (.k .none)] [],
 .asg 5 (.call 6 [.v 0,.v 4]),
 .ite (.or [.not (.call 5 [.v 3]),.cmp (ki 0) [.le,.le] [.v 5,.v 3]]) [.raise (ks "an argument out of its bounds") (.v 1)] [],
 .ite (.and [.cmp (.v 4) [.eq] [ks "s"],.not (.An 2 (.sub (.dm (.v 0) 3) (.v 3)))]) [.raise (ks "a name that is no text") (.v 1)] []]
def xI:List Str:=[(st "unit"),(st "pc"),(st "op"),(st "arg"),(st "kind"),(st "bound")]
def nS:Fn:=⟨2,6,sC,[]⟩
noncomputable def wa:List S :=
 [.ite (.cmp (.v 1) [.r8 ()] [.k (.none)]) [.dead] []]
def t6:List Str:=[(st "unit"),(st "place"),(st "bound")]
def oP:Fn:=⟨2,3,wa,[]⟩
def yf:List S :=
 [.jx (.n 1) (.dm (.v 0) 14) [.dead],
 .expr (.call 8 [.v 0,.dm (.v 0) 12]),
 .expr (.call 8 [.v 0,.dm (.v 0) 13]),
 .ite (.or [.cmp (.len (.dm (.v 0) 14)) [.gt] [.len (.dm (.v 0) 1)],.cmp (.len (.dm (.v 0) 2)) [.eq] [ki 0]]) [.raise (ks "too many places, or no code") (.neg (ki 1))] [],
 .ite (.and [.cmp (.dm (.v 0) 6) [.ne] [.lst ag []],.cmp (.len (.dm (.v 0) 6)) [.ne] [.len (.dm (.v 0) 2)]]) [.raise (ks "lines for other code") (.neg (ki 1))] [],
 .jx (.n 2) (.dm (.v 0) 4) [.dead]]
def vQ:List Str:=[(st "unit"),(st "place"),(st "inner"),(st "is_frame"),(st "index")]
def qy:Fn:=⟨1,5,yf,[]⟩
def z6:List S :=
 [.ret (.and [.cmp (.sub (.v 1) (ki 0)) [.le] [.sub (.v 0) (ki 0)],.cmp (.sub (.v 0) (ki 1)) [.le] [.sub (.v 1) (ki 1)]])]
def xG:List Str:=[(st "one"),(st "other")]
def se:Fn:=⟨2,2,z6,[]⟩
def lT:List S :=
 [.asg 1 (.len (.dm (.v 0) 2)),
 .jx (.t [2,3]) (.pC (.dm (.v 0) 5)) [.ite (.or [.not (.cmp (ki 0) [.le,.lt,.le] [.sub (.v 3) (ki 0),.sub (.v 3) (ki 1),.v 1]),.not (.cmp (ki 0) [.le,.lt] [.sub (.v 3) (ki 2),.v 1]),.not (.call 5 [.sub (.v 3) (ki 3)])]) [.raise (ks "a handler out of its bounds") (.sub (.v 3) (ki 0))] [],
  .ite (.cmp (.sub (.v 3) (ki 0)) [.le,.lt] [.sub (.v 3) (ki 2),.sub (.v 3) (ki 1)]) [.raise (ks "a handler that covers itself") (.sub (.v 3) (ki 2))] [],
  .jx (.n 4) (.xN (.dm (.v 0) 5) (.bin .add ag (.v 2) (ki 1))) [.ite (.and [.cmp (.sub (.v 3) (ki 0)) [.lt] [.sub (.v 4) (ki 1)],.cmp (.sub (.v 4) (ki 0)) [.lt] [.sub (.v 3) (ki 1)],.not (.call 10 [.v 3,.v 4])]) [.raise (ks "handlers across one another") (.sub (.v 3) (ki 0))] []]]]
def qc:List Str:=[(st "unit"),(st "many"),(st "at"),(st "one"),(st "other")]
def jz:Fn:=⟨1,5,lT,[]⟩
def qN:List S :=
 [.jx (.n 2) (.v 0) [.ite (.cmp (.sub (.v 2) (ki 0)) [.le,.lt] [.v 1,.sub (.v 2) (ki 1)]) [.ret (.v 2)] []],
 .ret (.k (.none))]
def vO:List Str:=[(st "handlers"),(st "pc"),(st "one")]
def ml:Fn:=⟨2,3,qN,[]⟩
def kN:List S :=
 [.asg 2 (.bin .add ag (.vE (.v 1) (.sub (.v 0) (ki 3))) (.tup [.g 3])),
 .ret (.ite (.sub (.v 0) (ki 4)) (.bin .add ag (.v 2) (.tup [.sub (.v 0) (ki 2)])) (.v 2))]
def oI:List Str:=[(st "handler"),(st "stack"),(st "kept")]
def iQ:Fn:=⟨2,3,kN,[]⟩
def oR:List S :=
 [.asg 3 (.call 12 [.dm (.v 0) 5,.v 1]),
 .ite (.or [.cmp (.v 3) [.is] [.k (.none)],.cmp (.sub (.sub (.dm (.v 0) 2) (.v 1)) (ki 0)) [.ry] [.g 4]]) [.ret (.lst ag [])] [],
 .ite (.cmp (.len (.v 2)) [.lt] [.sub (.v 3) (ki 3)]) [.raise (ks "a stack that is less than its handler's") (.v 1)] [],
 .ret (.lst ag [.tup [.sub (.v 3) (ki 2),.call 13 [.v 3,.v 2]]])]
def tX:List Str:=[(st "unit"),(st "pc"),(st "stack"),(st "handler")]
def lA:Fn:=⟨3,4,oR,[]⟩
def oU:List S :=
 [.jx (.n 3) (.v 0) [.ite (.and [.cmp (.v 3) [.ne] [.g 3],.not (.and [.v 2,.cmp (.v 3) [.eq] [.g 5]])]) [.raise (ks "no value on the stack") (.v 1)] []]]
def tZ:List Str:=[(st "taken_things"),(st "pc"),(st "is_hole_let"),(st "thing")]
def lC:Fn:=⟨3,4,oU,[]⟩
noncomputable def xf:List S :=
 [.ite (.cmp (.v 0) [.eq] [.g 6]) [.ret (.tup [.g 5])] [],
 .ite (.cmp (.v 0) [.eq] [.g 7]) [.ret (.tup [.g 8])] [],
 .ret (.bin .mul ag (.tup [.g 3]) (.v 1))]
def AH:List Str:=[(st "op"),(st "pushed")]
def rF:Fn:=⟨2,2,xf,[]⟩
def xe:List S :=
 [.fY [.n 3,.n 4] (.sub (.dm (.v 0) 2) (.v 1)),
 .asg 5 (.call 2 [.v 3,.v 4]),
 .ite (.cmp (.len (.v 2)) [.lt] [.v 5]) [.raise (ks "nothing on the stack") (.v 1)] [],
 .fY [.n 6,.n 7] (.tup [.xN (.v 2) (.bin .sub ag (.len (.v 2)) (.v 5)),.vE (.v 2) (.bin .sub ag (.len (.v 2)) (.v 5))]),
 .ite (.cmp (.v 3) [.eq] [.g 9]) [.ret (.lst ag [.tup [.v 4,.bin .add ag (.v 2) (.tup [.g 3,.v 4])],.tup [.bin .add ag (.v 1) (ki 1),.v 2]])] [],
 .ite (.cmp (.v 3) [.eq] [.g 10]) [.ret (.call 18 [.v 6,.v 1])] [],
 .ite (.cmp (.v 3) [.eq] [.g 11]) [.ite (.cmp (.sub (.v 6) (ki 0)) [.ne] [.g 8]) [.raise (ks "no keys to go through") (.v 1)] [],
  .ret (.lst ag [.tup [.v 4,.v 2],.tup [.bin .add ag (.v 1) (ki 1),.bin .add ag (.v 2) (.tup [.g 3])]])] [],
 .ite (.cmp (.v 3) [.ne] [.g 12]) [.expr (.call 15 [.v 6,.v 1,.cmp (.v 3) [.eq] [.g 13]])] [],
 .asg 8 (.bin .add ag (.v 7) (.call 16 [.v 3,.call 3 [.v 3]])),
 .asg 9 (.ite (.call 4 [.v 3]) (.lst af []) (.lst af [.tup [.bin .add ag (.v 1) (ki 1),.v 8]])),
 .ite (.cmp (.call 1 [.v 3]) [.eq] [ks "t"]) [.expr (.app (.v 9) (.tup [.v 4,.ite (.cmp (.v 3) [.ry] [.tup [.g 14,.g 15]]) (.v 2) (.v 8)]))] [],
 .ret (.v 9)]
def AG:List Str:=[(st "unit"),(st "pc"),(st "stack"),(st "op"),(st "arg"),(st "many"),(st "things"),(st "below"),(st "behind"),(st "found")]
def rE:Fn:=⟨3,10,xe,[]⟩
def u7:List S :=
 [.ite (.or [.cmp (.sub (.v 0) (ki 0)) [.ne] [.g 3],.cmp (.sub (.v 0) (ki 1)) [.lt] [ki 0]]) [.raise (ks "no way back") (.v 1)] [],
 .ret (.lst ag [])]
def yM:List Str:=[(st "things"),(st "pc")]
def pe:Fn:=⟨2,2,u7,[]⟩
def sj:List S :=
 [.fY [.n 1,.n 2] (.tup [.z4 [0] [.tup []],.lst af [ki 0]]),
 .vK (.cmp (.len (.v 2)) [.gt] [ki 0]) [.asg 3 (.pop (.v 2)),
  .asg 4 (.sub (.v 1) (.v 3)),
  .asg 5 (.bin .add ag (.call 17 [.v 0,.v 3,.v 4]) (.call 14 [.v 0,.v 3,.v 4])),
  .jx (.t [6,7]) (.v 5) [.ite (.cmp (.v 6) [.ge] [.len (.dm (.v 0) 2)]) [.raise (ks "beyond the end") (.v 3)] [],
  .ite (.cmp (.v 6) [.H3] [.v 1]) [.eY (.v 1) (.v 6) (.v 7),
   .expr (.app (.v 2) (.v 6))] [.ite (.cmp (.sub (.v 1) (.v 6)) [.ne] [.v 7]) [.raise (ks "two stacks at one place") (.v 6)] []]]],
 .ret (.v 1)]
def xy:List Str:=[(st "unit"),(st "found"),(st "waiting"),(st "pc"),(st "stack"),(st "later"),(st "place"),(st "told")]
def nI:Fn:=⟨1,8,sj,[]⟩
noncomputable def sy:List S :=
 [.expr (.call 9 [.v 0]),
 .jx (.n 1) (.nz [.len (.dm (.v 0) 2)]) [.expr (.call 7 [.v 0,.v 1])],
 .expr (.call 11 [.v 0]),
 .expr (.call 19 [.v 0])]
def xH:List Str:=[(st "unit"),(st "pc")]
def nR:Fn:=⟨1,2,sy,[]⟩
def qO:List S :=
 [.asg 1 (.lst af [.v 0]),
 .vK (.cmp (.len (.v 1)) [.gt] [ki 0]) [.asg 2 (.pop (.v 1)),
  .expr (.call 20 [.v 2]),
  .expr (.ext (.v 1) (.dm (.v 2) 4))]]
def vP:List Str:=[(st "unit"),(st "waiting"),(st "here")]
def mm:Fn:=⟨1,3,qO,[]⟩
def sv:List S :=
 [.fY [.n 1,.n 2] (.tup [.comp af (.abs (.k7 (.c 0))) (.vE (.v 0) (ki 40)) [],ki 7411]),
 .jx (.n 3) (.v 1) [.asg 2 (.bin .mod ag (.bin .add ag (.bin .add ag (.bin .mul ag (.v 2) (ki 31)) (.bin .mod ag (.v 3) (ki 1000003))) (ki 5)) (ki 2147483647))],
 .ret (.lst af [.v 1,.v 2])]
def xF:List Str:=[(st "script"),(st "pool"),(st "seed"),(st "one")]
def nQ:Fn:=⟨1,4,sv,[]⟩
def vc:List S :=
 [.ite (.cmp (.sub (.v 0) (ki 0)) [.ne] [.lst ag []]) [.ret (.bin .mod ag (.uu (.sub (.v 0) (ki 0)) (ki 0)) (.v 1))] [],
 .eY (.v 0) (ki 1) (.bin .mod ag (.bin .add ag (.bin .mul ag (.sub (.v 0) (ki 1)) (ki 48271)) (ki 17)) (ki 2147483647)),
 .ret (.bin .mod ag (.bin .fdiv ag (.sub (.v 0) (ki 1)) (ki 16)) (.v 1))]
def yP:List Str:=[(st "draws"),(st "many")]
def ph:Fn:=⟨2,2,vc,[]⟩
def so:List S :=
 [.asg 0 (ks "UNDEF:-01 NULL:-01 TRUE:-01 FALSE:-01 CONST:k01 THIS:-01 POP:-10 DUP:-12 DUP2:-24 SWAP:-22 "),
 .asg 0 (.bin .add ag (.v 0) (ks "ROT3:-33 GETLOC:l01 SETLOC:l11 GETCELL:c01 SETCELL:c11 GETUP:u01 SETUP:u11 FRESH:c00 ")),
 .asg 0 (.bin .add ag (.v 0) (ks "GETGLOB:s01 TYPEGLOB:s01 SETGLOB:s11 DECLVAR:s00 DECLFUN:s10 GETPROP:s11 SETPROP:s21 ")),
 .asg 0 (.bin .add ag (.v 0) (ks "GETELEM:-21 SETELEM:-31 DELPROP:s11 DELELEM:-21 DELNAME:s01 ADD:-21 SUB:-21 MUL:-21 DIV:-21 ")),
 .asg 0 (.bin .add ag (.v 0) (ks "MOD:-21 SHL:-21 SHR:-21 USHR:-21 AND:-21 OR:-21 XOR:-21 EQ:-21 NE:-21 SEQ:-21 SNE:-21 ")),
 .asg 0 (.bin .add ag (.v 0) (ks "LT:-21 GT:-21 LE:-21 GE:-21 IN:-21 INSTANCEOF:-21 NEG:-11 TONUM:-11 NOT:-11 BITNOT:-11 ")),
 .asg 0 (.bin .add ag (.v 0) (ks "TYPEOF:-11 INC:-11 DEC:-11 JMP:t00 JF:t10 JT:t10 JFK:t10 JTK:t10 CALL:n21 NEW:n11 RET:-10 ")),
 .asg 0 (.bin .add ag (.v 0) (ks "THROW:-10 CLOSURE:f01 NEWOBJ:-01 NEWARR:n01 HOLE:-01 INITPROP:s21 INITGET:s21 INITSET:s21 ")),
 .asg 0 (.bin .add ag (.v 0) (ks "METHOD:s12 METHODEL:-22 FORIN:-11 NEXTIN:t12 GOSUB:t00 RETSUB:-20 CHECKOBJ:-11 TOKEY:-22 ")),
 .asg 0 (.bin .add ag (.v 0) (ks "ROT4:-44 FAILSET:s10 REGEXP:-21")),
 .ret (.comp ag (.tup [.sub (.split (.c 0) (st ":")) (ki 0),.sub (.c 0) (.neg (ki 3)),.k7 (.sub (.c 0) (.neg (ki 2))),.k7 (.sub (.c 0) (.neg (ki 1)))]) (.split (.v 0) (st " ")) [])]
def xB:List Str:=[(st "text")]
def nK:Fn:=⟨0,1,so,[]⟩
def sq:List S :=
 [.asg 0 (ks "UNDEF NULL TRUE FALSE CONST THIS POP DUP DUP2 SWAP ROT3 ROT4 GETLOC SETLOC GETCELL SETCELL GETUP SETUP "),
 .asg 0 (.bin .add ag (.v 0) (ks "FRESH SEQ SNE NOT TYPEOF JMP JF JT JFK JTK RET CLOSURE NEWOBJ NEWARR HOLE GOSUB")),
 .ret (.split (.v 0) (st " "))]
def xC:List Str:=[(st "text")]
def nM:Fn:=⟨0,1,sq,[]⟩
def lR:List S :=
 [.expr (.app (.sub (.v 0) (ks "rows")) (.tup [.v 1,.v 2]))]
def kx:List Str:=[(st "box"),(st "name"),(st "given")]
def rG:Fn:=⟨3,3,lR,[.none]⟩
def su:List S :=
 [.expr (.app (.sub (.v 0) (ks "labels")) (.bin .sub ag (ki 0) (ki 1))),
 .ret (.bin .sub ag (.len (.sub (.v 0) (ks "labels"))) (ki 1))]
def xE:List Str:=[(st "box")]
def nP:Fn:=⟨1,1,su,[]⟩
def vf:List S :=
 [.eY (.sub (.v 0) (ks "labels")) (.v 1) (.len (.sub (.v 0) (ks "rows")))]
def yS:List Str:=[(st "box"),(st "label")]
def pn:Fn:=⟨2,2,vf,[]⟩
def qL:List S :=
 [.asg 2 (.call 23 [.v 0,ki 6]),
 .asg 3 (.lst af [.lst ag [ks "CONST 0",ks "POP"],.lst ag [ks "CONST 0",ks "GETLOC 0",ks "ADD",ks "SETLOC 0",ks "POP"]]),
 .expr (.app (.v 3) (.lst ag [ks "HOLE",ks "CONST 0",ks "NEWARR 2",ks "POP"])),
 .asg 3 (.bin .add af (.v 3) (.lst ag [.lst ag [ks "GETGLOB 1",ks "UNDEF",ks "CONST 0",ks "CALL 1",ks "POP"],.lst ag [ks "NEWOBJ",ks "CONST 0",ks "INITPROP 1",ks "POP"]])),
 .expr (.app (.v 3) (.lst ag [ks "GETLOC 0",ks "DUP",ks "SWAP",ks "TOKEY",ks "GETELEM",ks "POP"])),
 .jx (.n 4) (.sub (.v 3) (.v 2)) [.asg 5 (.split (.v 4) (st " ")),
  .expr (.call 26 [.v 1,.sub (.v 5) (ki 0),.ite (.cmp (.len (.v 5)) [.gt] [ki 1]) (.k7 (.sub (.v 5) (ki 1))) (.k (.none))])]]
def vM:List Str:=[(st "draws"),(st "box"),(st "form"),(st "pool"),(st "word"),(st "pieces")]
def mi:Fn:=⟨2,6,qL,[]⟩
def mM:List S :=
 [.asg 4 (.ite (.cmp (.v 3) [.gt] [ki 0]) (.call 23 [.v 0,ki 9]) (ki 0)),
 .ite (.cmp (.v 4) [.lt] [ki 2]) [.expr (.call 29 [.v 0,.v 1])] [.ite (.cmp (.v 4) [.lt] [ki 4]) [.expr (.call 31 [.v 0,.v 1,.v 2,.v 3,.cmp (.v 4) [.eq] [ki 3]])] [.ite (.cmp (.v 4) [.eq] [ki 4]) [.expr (.call 32 [.v 0,.v 1,.v 2,.v 3])] [.ite (.cmp (.v 4) [.lt] [ki 7]) [.expr (.call 33 [.v 0,.v 1,.v 2,.v 3,.cmp (.v 4) [.eq] [ki 6]])] [.ite (.cmp (.v 4) [.eq] [ki 7]) [.asg 5 (.call 27 [.v 1]),
    .expr (.call 26 [.v 1,ks "GETLOC",ki 0]),
    .expr (.call 26 [.v 1,.sub (.lst ag [ks "JFK",ks "JTK"]) (.call 23 [.v 0,ki 2]),.v 5]),
    .expr (.call 26 [.v 1,ks "CONST",ki 0]),
    .expr (.call 28 [.v 1,.v 5]),
    .expr (.call 26 [.v 1,ks "POP"])] [.expr (.call 26 [.v 1,ks "CONST",ki 0]),
    .expr (.call 26 [.v 1,.sub (.lst ag [ks "RET",ks "THROW"]) (.call 23 [.v 0,ki 2])])]]]]]]
def q8:List Str:=[(st "draws"),(st "box"),(st "depth"),(st "deep"),(st "form"),(st "kept")]
def iN:Fn:=⟨4,6,mM,[]⟩
def vb:List S :=
 [.fY [.n 5,.n 6,.n 7] (.tup [.call 27 [.v 1],.call 27 [.v 1],.call 27 [.v 1]]),
 .expr (.call 28 [.v 1,.v 5]),
 .expr (.call 26 [.v 1,ks "GETLOC",ki 0]),
 .expr (.call 26 [.v 1,ks "JF",.v 6]),
 .expr (.call 30 [.v 0,.v 1,.v 2,.bin .sub ag (.v 3) (ki 1)]),
 .expr (.call 26 [.v 1,ks "JMP",.ite (.v 4) (.v 5) (.v 7)]),
 .expr (.call 28 [.v 1,.v 6]),
 .ite (.not (.v 4)) [.expr (.call 30 [.v 0,.v 1,.v 2,.bin .sub ag (.v 3) (ki 1)])] [],
 .expr (.call 28 [.v 1,.v 7])]
def yO:List Str:=[(st "draws"),(st "box"),(st "depth"),(st "deep"),(st "is_loop"),(st "start_at"),(st "other"),(st "end")]
def pg:Fn:=⟨5,8,vb,[]⟩
def Bz:List S :=
 [.fY [.n 4,.n 5] (.tup [.call 27 [.v 1],.call 27 [.v 1]]),
 .expr (.call 26 [.v 1,ks "GETLOC",ki 0]),
 .expr (.call 26 [.v 1,ks "FORIN"]),
 .expr (.call 28 [.v 1,.v 4]),
 .expr (.call 26 [.v 1,ks "NEXTIN",.v 5]),
 .expr (.call 26 [.v 1,ks "SETLOC",ki 0]),
 .expr (.call 26 [.v 1,ks "POP"]),
 .expr (.call 30 [.v 0,.v 1,.bin .add ag (.v 2) (ki 1),.bin .sub ag (.v 3) (ki 1)]),
 .expr (.call 26 [.v 1,ks "JMP",.v 4]),
 .expr (.call 28 [.v 1,.v 5]),
 .expr (.call 26 [.v 1,ks "POP"])]
def yR:List Str:=[(st "draws"),(st "box"),(st "depth"),(st "deep"),(st "start_at"),(st "end")]
def uV:Fn:=⟨4,6,Bz,[]⟩
def oW:List S :=
 [.fY [.n 5,.n 6,.n 7,.n 8] (.tup [.call 27 [.v 1],.call 27 [.v 1],.call 27 [.v 1],.call 27 [.v 1]]),
 .expr (.call 28 [.v 1,.v 5]),
 .expr (.call 30 [.v 0,.v 1,.v 2,.bin .sub ag (.v 3) (ki 1)]),
 .expr (.call 26 [.v 1,ks "GETGLOB",ki 1]),
 .expr (.call 26 [.v 1,ks "POP"]),
 .expr (.call 28 [.v 1,.v 6]),
 .ite (.v 4) [.expr (.call 26 [.v 1,ks "GOSUB",.v 7])] [],
 .expr (.call 26 [.v 1,ks "JMP",.v 8]),
 .expr (.call 28 [.v 1,.v 7]),
 .ite (.not (.v 4)) [.expr (.call 26 [.v 1,ks "SETLOC",ki 0]),
  .expr (.call 26 [.v 1,ks "POP"])] [],
 .expr (.call 30 [.v 0,.v 1,.bin .add ag (.v 2) (.bin .mul ag (ki 2) (.k7 (.v 4))),.bin .sub ag (.v 3) (ki 1)]),
 .ite (.v 4) [.expr (.call 26 [.v 1,ks "RETSUB"])] [],
 .expr (.call 28 [.v 1,.v 8]),
 .expr (.app (.sub (.v 1) (ks "handlers")) (.tup [.v 5,.v 6,.v 7,.v 2,.v 4]))]
def t5:List Str:=[(st "draws"),(st "box"),(st "depth"),(st "deep"),(st "is_finally"),(st "start_at"),(st "end"),(st "handler"),(st "behind")]
def lD:Fn:=⟨5,9,oW,[]⟩
def vd:List S :=
 [.fY [.n 2,.n 3] (.tup [.comp ag (.sub (.c 0) (ki 0)) (.v 1) [],.mk [ks "drawn",.lst ag []]]),
 .jx (.t [4,5]) (.sub (.v 0) (ks "rows")) [.asg 6 (.index (.v 2) (.v 4)),
  .expr (.app (.dm (.v 3) 2) (.tup [.v 6,.ite (.cmp (.sub (.sub (.v 1) (.v 6)) (ki 1)) [.eq] [ks "t"]) (.sub (.sub (.v 0) (ks "labels")) (.v 5)) (.v 5)]))],
 .jx (.t [7,8,9,10,11]) (.sub (.v 0) (ks "handlers")) [.asg 12 (.comp ag (.sub (.sub (.v 0) (ks "labels")) (.c 0)) (.tup [.v 7,.v 8,.v 9]) []),
  .expr (.app (.dm (.v 3) 5) (.tup [.sub (.v 12) (ki 0),.sub (.v 12) (ki 1),.sub (.v 12) (ki 2),.v 10,.v 11]))],
 .fY [.dm (.v 3) 3,.dm (.v 3) 7] (.tup [.lst ag [ki 4607182418800017408,ks "x"],ki 1]),
 .ret (.v 3)]
def yQ:List Str:=[(st "box"),(st "table"),(st "names"),(st "drawn"),(st "name"),(st "given"),(st "op"),(st "start_at"),(st "end"),(st "handler"),(st "depth"),(st "is_finally"),(st "places")]
def pj:Fn:=⟨2,13,vd,[]⟩
def vg:List S :=
 [.fY [.n 3,.n 4] (.tup [.call 23 [.v 0,ki 7],.call 23 [.v 0,.len (.dm (.v 1) 2)]]),
 .fY [.n 5,.n 6] (.sub (.dm (.v 1) 2) (.v 4)),
 .ite (.cmp (.v 3) [.lt] [ki 2]) [.asg 7 (.call 23 [.v 0,.len (.v 2)]),
  .eY (.dm (.v 1) 2) (.v 4) (.tup [.v 7,.ite (.cmp (.sub (.sub (.v 2) (.v 7)) (ki 1)) [.eq] [ks "-"]) (.k (.none)) (.ite (.cmp (.v 6) [.is] [.k (.none)]) (.call 23 [.v 0,ki 3]) (.v 6))])] [.ite (.and [.cmp (.v 3) [.eq] [ki 2],.cmp (.v 6) [.r8 ()] [.k (.none)]]) [.eY (.dm (.v 1) 2) (.v 4) (.tup [.v 5,.bin .add ag (.v 6) (.sub (.lst ag [ki 1,.bin .sub ag (ki 0) (ki 1),ki 2]) (.call 23 [.v 0,ki 3]))])] [.ite (.and [.cmp (.v 3) [.eq] [ki 3],.cmp (.sub (.sub (.v 2) (.v 5)) (ki 1)) [.eq] [ks "t"]]) [.eY (.dm (.v 1) 2) (.v 4) (.tup [.v 5,.call 23 [.v 0,.bin .add ag (.len (.dm (.v 1) 2)) (ki 1)]])] [.ite (.and [.cmp (.v 3) [.eq] [ki 4],.cmp (.dm (.v 1) 5) [.ne] [.lst ag []]]) [.fY [.n 8,.n 9] (.tup [.call 23 [.v 0,.len (.dm (.v 1) 5)],.call 23 [.v 0,ki 5]]),
   .asg 10 (.tolist (.sub (.dm (.v 1) 5) (.v 8))),
   .eY (.v 10) (.v 9) (.ite (.cmp (.v 9) [.eq] [ki 4]) (.not (.sub (.v 10) (.v 9))) (.bin .sub ag (.bin .add ag (.sub (.v 10) (.v 9)) (ki 1)) (.bin .mul ag (ki 2) (.call 23 [.v 0,ki 2])))),
   .eY (.dm (.v 1) 5) (.v 8) (.tup [.sub (.v 10) (ki 0),.sub (.v 10) (ki 1),.sub (.v 10) (ki 2),.sub (.v 10) (ki 3),.sub (.v 10) (ki 4)])] [.ite (.and [.cmp (.v 3) [.eq] [ki 5],.cmp (.len (.dm (.v 1) 2)) [.gt] [ki 1]]) [.expr (.uu (.dm (.v 1) 2) (.v 4))] [.asg 9 (.call 23 [.v 0,.len (.dm (.v 1) 2)]),
    .fY [.sub (.dm (.v 1) 2) (.v 4),.sub (.dm (.v 1) 2) (.v 9)] (.tup [.sub (.dm (.v 1) 2) (.v 9),.sub (.dm (.v 1) 2) (.v 4)])]]]]]]
def yT:List Str:=[(st "draws"),(st "drawn"),(st "table"),(st "form"),(st "pc"),(st "op"),(st "given"),(st "other"),(st "at"),(st "spot"),(st "row")]
def pv:Fn:=⟨3,11,vg,[]⟩
def lS:List S :=
 [.asg 2 (.sY [(st "k"),(st "s"),(st "l"),(st "c"),(st "u"),(st "t"),(st "n"),(st "f")] [ki 2,ki 2,ki 1,ki 0,ki 0,.len (.dm (.v 0) 2),.bin (.pow ()) ag (ki 10) (ki 9),ki 0]),
 .jx (.t [3,4]) (.dm (.v 0) 2) [.asg 5 (.sub (.sub (.v 1) (.v 3)) (ki 1)),
  .asg 6 (.and [.cmp (.v 5) [.eq] [ks "s"],.cmp (.v 4) [.ne] [ki 1]]),
  .ite (.or [.cmp (.cmp (.v 5) [.eq] [ks "-"]) [.ne] [.cmp (.v 4) [.is] [.k (.none)]],.and [.cmp (.v 5) [.ne] [ks "-"],.not (.cmp (ki 0) [.le,.lt] [.v 4,.sub (.v 2) (.v 5)])],.v 6]) [.ret (.k (.bool ag))] []],
 .ret (.k (.bool af))]
def qb:List Str:=[(st "drawn"),(st "table"),(st "bounds"),(st "op"),(st "given"),(st "sort"),(st "is_name_wrong")]
def jy:Fn:=⟨2,7,lS,[]⟩
def jN:List S :=
 [.fY [.n 1,.n 2] (.tup [.lst af [],.len (.dm (.v 0) 2)]),
 .jx (.t [3,4,5,6,7]) (.dm (.v 0) 5) [.asg 8 (.comp ag (.c 0) (.nz [.v 3,.v 4]) []),
  .ite (.or [.cmp (.v 8) [.eq] [.lst ag []],.cmp (.v 3) [.lt] [ki 0],.cmp (.v 4) [.gt] [.v 2],.not (.cmp (ki 0) [.le,.lt] [.v 5,.v 2]),.cmp (.v 5) [.ry] [.v 8],.cmp (.v 6) [.lt] [ki 0]]) [.ret (.k (.bool ag))] [],
  .jx (.n 9) (.v 1) [.ite (.cmp (.comp ag (.c 0) (.v 9) [.cmp (.c 0) [.ry] [.v 8]]) [.H3] [.tup [.lst ag [],.v 9]]) [.ret (.k (.bool ag))] []],
  .expr (.app (.v 1) (.v 8))],
 .ret (.k (.bool af))]
def mT:List Str:=[(st "drawn"),(st "lots"),(st "many"),(st "start_at"),(st "end"),(st "target"),(st "depth"),(st "is_finally"),(st "lot"),(st "other")]
def gS:Fn:=⟨1,10,jN,[]⟩
def u9:List S :=
 [.fY [.n 4,.n 5] (.sub (.dm (.v 0) 2) (.v 2)),
 .fY [.n 6,.n 7,.n 8,.n 9] (.sub (.v 1) (.v 4)),
 .asg 8 (.bin .add ag (.v 8) (.ite (.cmp (.v 7) [.eq] [ks "n"]) (.v 5) (ki 0))),
 .ite (.cmp (.len (.v 3)) [.lt] [.v 8]) [.ret (.k (.none))] [],
 .fY [.n 10,.n 11] (.tup [.xN (.v 3) (.bin .sub ag (.len (.v 3)) (.v 8)),.vE (.v 3) (.bin .sub ag (.len (.v 3)) (.v 8))]),
 .ite (.cmp (.v 6) [.eq] [ks "GOSUB"]) [.ret (.lst ag [.tup [.v 5,.bin .add ag (.v 3) (.lst ag [ks "v",.v 5])],.tup [.bin .add ag (.v 2) (ki 1),.v 3]])] [],
 .ite (.cmp (.v 6) [.eq] [ks "RETSUB"]) [.ret (.ite (.and [.cmp (.sub (.v 10) (ki 0)) [.eq] [ks "v"],.An 0 (.sub (.v 10) (ki 1))]) (.lst ag []) (.k (.none)))] [],
 .ite (.cmp (.v 6) [.eq] [ks "NEXTIN"]) [.ret (.ite (.cmp (.v 10) [.eq] [.lst ag [ks "k"]]) (.lst ag [.tup [.v 5,.v 3],.tup [.bin .add ag (.v 2) (ki 1),.bin .add ag (.v 3) (.lst ag [ks "v"])]]) (.k (.none)))] [],
 .ite (.and [.cmp (.v 6) [.ne] [ks "POP"],.cmp (.comp ag (.c 0) (.v 10) [.and [.cmp (.c 0) [.ne] [ks "v"],.not (.and [.cmp (.v 6) [.eq] [ks "NEWARR"],.cmp (.c 0) [.eq] [ks "h"]])]]) [.ne] [.lst ag []]]) [.ret (.k (.none))] [],
 .asg 12 (.bin .add ag (.v 11) (.ite (.cmp (.v 6) [.ry] [.tup [ks "HOLE",ks "FORIN"]]) (.sub (.sY [(st "HOLE"),(st "FORIN")] [.lst ag [ks "h"],.lst ag [ks "k"]]) (.v 6)) (.bin .mul ag (.lst ag [ks "v"]) (.v 9)))),
 .asg 13 (.ite (.cmp (.v 6) [.ry] [.tup [ks "JMP",ks "RET",ks "THROW",ks "FAILSET"]]) (.lst ag []) (.lst ag [.tup [.bin .add ag (.v 2) (ki 1),.v 12]])),
 .ret (.bin .add ag (.v 13) (.ite (.cmp (.v 7) [.eq] [ks "t"]) (.lst ag [.tup [.v 5,.ite (.cmp (.v 6) [.ry] [.tup [ks "JFK",ks "JTK"]]) (.v 3) (.v 12)]]) (.lst ag [])))]
def yN:List Str:=[(st "drawn"),(st "table"),(st "pc"),(st "stack"),(st "op"),(st "given"),(st "name"),(st "sort"),(st "takes"),(st "puts"),(st "gone"),(st "below"),(st "behind"),(st "found")]
def pf:Fn:=⟨4,14,u9,[]⟩
def sr:List S :=
 [.asg 5 (.call 38 [.v 0,.v 1,.v 3,.v 4]),
 .asg 6 (.comp ag (.c 0) (.dm (.v 0) 5) [.cmp (.sub (.c 0) (ki 0)) [.le,.lt] [.v 3,.sub (.c 0) (ki 1)]]),
 .ite (.or [.cmp (.v 5) [.is] [.k (.none)],.cmp (.v 6) [.eq] [.lst ag []],.cmp (.sub (.sub (.v 1) (.sub (.sub (.dm (.v 0) 2) (.v 3)) (ki 0))) (ki 0)) [.ry] [.v 2]]) [.ret (.v 5)] [],
 .ite (.cmp (.len (.v 4)) [.lt] [.sub (.sub (.v 6) (ki 0)) (ki 3)]) [.ret (.k (.none))] [],
 .ret (.bin .add ag (.v 5) (.lst ag [.tup [.sub (.sub (.v 6) (ki 0)) (ki 2),.bin .add ag (.bin .add ag (.vE (.v 4) (.sub (.sub (.v 6) (ki 0)) (ki 3))) (.lst ag [ks "v"])) (.ite (.sub (.sub (.v 6) (ki 0)) (ki 4)) (.lst ag [.sub (.sub (.v 6) (ki 0)) (ki 2)]) (.lst ag []))]]))]
def xD:List Str:=[(st "drawn"),(st "table"),(st "quiet"),(st "pc"),(st "stack"),(st "later"),(st "over")]
def nN:Fn:=⟨5,7,sr,[]⟩
def qK:List S :=
 [.fY [.n 3,.n 4] (.tup [.z4 [] [],.lst af [.tup [ki 0,.lst ag []]]]),
 .vK (.cmp (.v 4) [.ne] [.lst ag []]) [.fY [.n 5,.n 6] (.uu (.v 4) (ki 0)),
  .ite (.or [.cmp (.v 5) [.ge] [.len (.dm (.v 0) 2)],.and [.cmp (.v 5) [.ry] [.v 3],.cmp (.sub (.v 3) (.v 5)) [.ne] [.v 6]]]) [.ret (.k (.none))] [],
  .ite (.cmp (.v 5) [.H3] [.v 3]) [.eY (.v 3) (.v 5) (.v 6),
  .asg 7 (.call 39 [.v 0,.v 1,.v 2,.v 5,.v 6]),
  .ite (.cmp (.v 7) [.is] [.k (.none)]) [.ret (.k (.none))] [],
  .expr (.ext (.v 4) (.v 7))] []],
 .ret (.v 3)]
def vL:List Str:=[(st "drawn"),(st "table"),(st "quiet"),(st "found"),(st "waiting"),(st "pc"),(st "stack"),(st "later")]
def mh:Fn:=⟨3,8,qK,[]⟩
def nW:List S :=
 [.ite (.or [.not (.call 36 [.v 0,.v 1]),.not (.call 37 [.v 0])]) [.ret (.k (.bool ag))] [],
 .asg 2 (.call 40 [.v 0,.v 1,.call 25 []]),
 .ite (.cmp (.v 2) [.is] [.k (.none)]) [.ret (.k (.bool ag))] [],
 .yb 3 (.v 2) (.and [.cmp (.sub (.sub (.v 1) (.sub (.sub (.dm (.v 0) 2) (.v 3)) (ki 0))) (ki 0)) [.eq] [ks "RETSUB"],.cmp (.zZ (.v 2) (.sub (.sub (.v 2) (.v 3)) (.neg (ki 1)))) [.ne] [.sub (.v 2) (.v 3)]]),
 .ret (.k (.bool af))]
def sM:List Str:=[(st "drawn"),(st "table"),(st "found"),(st "pc")]
def kH:Fn:=⟨2,4,nW,[]⟩
noncomputable def qM:List S :=
 [.vR 21 [.v 0] (.bool ag),
 .ret (.k (.bool af))]
def vN:List Str:=[(st "drawn")]
def mj:Fn:=⟨1,1,qM,[]⟩
def Na:List S :=
 [.fY [.n 1,.n 2] (.tup [.call 22 [.v 0],.call 24 []]),
 .asg 3 (.sY [(st "rows"),(st "labels"),(st "handlers")] [.lst af [],.lst af [],.lst af []]),
 .jx (.n 4) (.nz [.bin .add ag (ki 1) (.call 23 [.v 1,ki 2])]) [.expr (.call 30 [.v 1,.v 3,ki 0,ki 2])],
 .expr (.call 26 [.v 3,ks "UNDEF"]),
 .expr (.call 26 [.v 3,ks "RET"]),
 .asg 5 (.call 34 [.v 3,.v 2]),
 .ite (.or [.cmp (.len (.v 2)) [.ne] [.g 2],.not (.call 42 [.v 5]),.not (.call 41 [.v 5,.v 2])]) [.ret (.k (.bool ag))] [],
 .jx (.n 4) (.nz [.bin .add ag (ki 1) (.call 23 [.v 1,ki 3])]) [.expr (.call 35 [.v 1,.v 5,.v 2]),
  .ite (.cmp (.call 42 [.v 5]) [.ne] [.call 41 [.v 5,.v 2]]) [.ret (.k (.bool ag))] []],
 .ret (.k (.bool af))]
def Nv:List Str:=[(st "script"),(st "draws"),(st "table"),(st "box"),(st "turn"),(st "drawn")]
def Hf:Fn:=⟨1,6,Na,[]⟩
def ya:List Str:=[(st "OPERATIONS"),(st "LAST_OPS"),(st "OP_COUNT"),(st "VALUE"),(st "QUIET_OPS"),(st "NO_VALUE"),(st "OP_HOLE"),(st "OP_FORIN"),(st "KEYS"),(st "OP_GOSUB"),(st "OP_RETSUB"),(st "OP_NEXTIN"),(st "OP_POP"),(st "OP_NEWARR"),(st "OP_JFK"),(st "OP_JTK")]
def G:List V:=[.lst [ro "UNDEF" "" 0 1,ro "NULL" "" 0 1,ro "TRUE" "" 0 1,ro "FALSE" "" 0 1,ro "CONST" "k" 0 1,ro "THIS" "" 0 1,ro "POP" "" 1 0,ro "DUP" "" 1 2,ro "DUP2" "" 2 4,ro "SWAP" "" 2 2,ro "ROT3" "" 3 3,ro "GETLOC" "l" 0 1,ro "SETLOC" "l" 1 1,ro "GETCELL" "c" 0 1,ro "SETCELL" "c" 1 1,ro "GETUP" "u" 0 1,ro "SETUP" "u" 1 1,ro "FRESH" "c" 0 0,ro "GETGLOB" "s" 0 1,ro "TYPEGLOB" "s" 0 1,ro "SETGLOB" "s" 1 1,ro "DECLVAR" "s" 0 0,ro "DECLFUN" "s" 1 0,ro "GETPROP" "s" 1 1,ro "SETPROP" "s" 2 1,ro "GETELEM" "" 2 1,ro "SETELEM" "" 3 1,ro "DELPROP" "s" 1 1,ro "DELELEM" "" 2 1,ro "DELNAME" "s" 0 1,ro "ADD" "" 2 1,ro "SUB" "" 2 1,ro "MUL" "" 2 1,ro "DIV" "" 2 1,ro "MOD" "" 2 1,ro "SHL" "" 2 1,ro "SHR" "" 2 1,ro "USHR" "" 2 1,ro "AND" "" 2 1,ro "OR" "" 2 1,ro "XOR" "" 2 1,ro "EQ" "" 2 1,ro "NE" "" 2 1,ro "SEQ" "" 2 1,ro "SNE" "" 2 1,ro "LT" "" 2 1,ro "GT" "" 2 1,ro "LE" "" 2 1,ro "GE" "" 2 1,ro "IN" "" 2 1,ro "INSTANCEOF" "" 2 1,ro "NEG" "" 1 1,ro "TONUM" "" 1 1,ro "NOT" "" 1 1,ro "BITNOT" "" 1 1,ro "TYPEOF" "" 1 1,ro "INC" "" 1 1,ro "DEC" "" 1 1,ro "JMP" "t" 0 0,ro "JF" "t" 1 0,ro "JT" "t" 1 0,ro "JFK" "t" 1 0,ro "JTK" "t" 1 0,ro "CALL" "n" 2 1,ro "NEW" "n" 1 1,ro "RET" "" 1 0,ro "THROW" "" 1 0,ro "CLOSURE" "f" 0 1,ro "NEWOBJ" "" 0 1,ro "NEWARR" "n" 0 1,ro "HOLE" "" 0 1,ro "INITPROP" "s" 2 1,ro "INITGET" "s" 2 1,ro "INITSET" "s" 2 1,ro "METHOD" "s" 1 2,ro "METHODEL" "" 2 2,ro "FORIN" "" 1 1,ro "NEXTIN" "t" 1 2,ro "GOSUB" "t" 0 0,ro "RETSUB" "" 2 0,ro "CHECKOBJ" "" 1 1,ro "TOKEY" "" 2 2,ro "ROT4" "" 4 4,ro "FAILSET" "s" 1 0,ro "REGEXP" "" 2 1],
 .lst [.int 58,.int 65,.int 66,.int 79,.int 83],
 .int 85,
 .int (-1),
 .lst [.int 0,.int 1,.int 2,.int 3,.int 4,.int 5,.int 6,.int 7,.int 8,.int 9,.int 10,.int 82,.int 11,.int 12,.int 13,.int 14,.int 15,.int 16,.int 17,.int 43,.int 44,.int 53,.int 55,.int 58,.int 59,.int 60,.int 61,.int 62,.int 65,.int 67,.int 68,.int 69,.int 70,.int 78],
 .int (-3),
 .int 70,
 .int 76,
 .int (-2),
 .int 78,
 .int 79,
 .int 77,
 .int 6,
 .int 69,
 .int 61,
 .int 62]
def rC:List Str:=[(st "Unit.__init__"),(st "arg_kind"),(st "taken_count"),(st "put_count"),(st "is_last"),(st "is_count"),(st "bound_of"),(st "check_arg"),(st "check_place"),(st "check_head"),(st "is_within"),(st "check_handlers"),(st "handler_at"),(st "stack_in_handler"),(st "ways_thrown"),(st "need_values"),(st "made_by"),(st "ways_on"),(st "way_back"),(st "stacks_of"),(st "check_one"),(st "check_unit"),(st "_law_draws"),(st "_law_take"),(st "_law_table"),(st "_law_quiet"),(st "_law_put"),(st "_law_label"),(st "_law_here"),(st "_law_simple"),(st "_law_statement"),(st "_law_test"),(st "_law_keys"),(st "_law_guarded"),(st "_law_made"),(st "_law_bent"),(st "_law_args_right"),(st "_law_handlers_right"),(st "_law_ways"),(st "_law_later"),(st "_law_stacks"),(st "_law_is_right"),(st "_law_is_let"),(st "law")]
def F:List Fn:=[Bo,pA,lB,nJ,rH,kJ,pz,nS,oP,qy,se,jz,ml,iQ,lA,lC,rF,rE,pe,nI,nR,mm,nQ,ph,nK,nM,rG,nP,pn,mi,iN,pg,uV,lD,pj,pv,jy,gS,pf,nN,mh,kH,mj,Hf]
end Internal
end
noncomputable section
open PySem
namespace Internal.Pu
variable {ifs:List X}{it:X}{d:List (Int×V)}{δ γ β α:Type}{Q':α->bo->Prop}{p:α->Option β}{K:V->Vs->bo->Prop}{m:Bool}{W n:Nat}{q:α->β->Option γ}{r:α->β->γ->Option δ}{A:Vs->bo->Prop}{i:Int}{o:Option α}{a:α}{xs cs l:List V}{Φ:Nat->List V->bo->R V}{vs:Vs}{E:bo->Prop}{x:Str}{Q:V->bo->Prop}{σ:bo}
def Wp (r:R α)(Q:α->bo->Prop)(E:bo->Prop):Prop:=match r with
 |.ok a σ=>Q a σ
 |.exc σ=>E σ
 |.bad=>False
theorem Wp.mono {r:R α}{Q:α->bo->Prop}{E':bo->Prop}(h:Wp r Q E)(q:∀a σ,Q a σ->Q' a σ)(e:∀σ,E σ->E' σ):Wp r Q' E':=by
 induction r with
 |ok a σ=>exact q a σ h
 |exc σ=>exact e σ h
 |bad=>exact h
theorem Wp.imp {r:R α}{Q:α->bo->Prop}(h:Wp r Q E)(q:∀a σ,Q a σ->Q' a σ):Wp r Q' E:=h.mono q λU h=>h
theorem Wp.bind {r:R α}{f:α->bo->R β}{Q:β->bo->Prop}(h:Wp r (λa σ=>Wp (f a σ) Q E) E):Wp (r.bind f) Q E:=by
 induction r with
 |ok a σ=>exact h
 |exc σ=>exact h
 |bad=>exact h
def Gt (o:Option α)(Q:α->Prop):Prop:=match o with
 |some a=>Q a
 |none=>False
theorem Gs (a:α)(Q:α->Prop):Gt (aa a) Q=Q a:=rfl
theorem Gi   {Q:α->Prop}(e:o=aa a)(h:Q a):Gt o Q:=by rw[e];exact h
theorem jh    {b:β}{Q:α->β->Prop}(e:o=aa a)(f:p a=aa b)(h:Q a b):Gt o λa=>Gt (p a) λb=>Q a b:=Gi e (Gi f h)
theorem HY    {b:β}{c:γ}{Q:α->β->γ->Prop}(e:o=aa a)(f:p a=aa b)(g:q a b=aa c)(h:Q a b c):Gt o λa=>Gt (p a) λb=>Gt (q a b) λc=>Q a b c:=Gi e (Gi f (Gi g h))
theorem Gi4    {b:β}{c:γ}{d:δ}{Q:α->β->γ->δ->Prop}(e:o=aa a)(f:p a=aa b)(g:q a b=aa c)(k:r a b c=aa d)(h:Q a b c d):Gt o λa=>Gt (p a) λb=>Gt (q a b) λc=>Gt (r a b c) λd=>Q a b c d:=Gi e (Gi f (Gi g (Gi k h)))
theorem QF {ε:Type}{b:β}{c:γ}{d:δ}{s:α->β->γ->δ->Option ε}{x:ε}{Q:α->β->γ->δ->ε->Prop}(e:o=aa a)(f:p a=aa b)(g:q a b=aa c)(k:r a b c=aa d)(l:s a b c d=aa x)(h:Q a b c d x):Gt o λa=>Gt (p a) λb=>Gt (q a b) λc=>Gt (r a b c) λd=>Gt (s a b c d) λe=>Q a b c d e:=Gi e (Gi f (Gi g (Gi k (Gi l h))))
theorem Gw   {Q:α->bo->Prop}(h:Gt o λa=>Q a σ):Wp (R.get o σ) Q E:=by induction o<;>exact h
theorem Gt.imp  {Q Q':α->Prop}(h:Gt o Q)(q:∀a,Q a->Q' a):Gt o Q':=by induction o with
 |none=>exact h
 |some a=>exact q a h
def Tw (x:V)(A B:Prop):Prop:=match x with
 |.bool b=>if b=af then A else B
 |_=>False
theorem Tb (b:Bool)(A B:Prop):Tw (.bool b) A B=if b=af then A else B:=rfl
def Ls (σ:bo)(x:V)(Q:Nat->List V->Prop):Prop:=match x with
 |.loc n=>Gt σ[n]? λo=>match o with
  |.list l=>Q n l
  |_=>False
 |_=>False
def aI (x:V)(Q:Int->Prop):Prop:=match x with
 |.int i=>Q i
 |_=>False
def aB (x:V)(Q:Bool->Prop):Prop:=match x with
 |.bool i=>Q i
 |_=>False
def aT (x:V)(Q:List V->Prop):Prop:=match x with
 |.tup i=>Q i
 |_=>False
def aL (x:V)(Q:List V->Prop):Prop:=match x with
 |.lst i=>Q i
 |_=>False
def aS (x:V)(Q:Str->Prop):Prop:=match x with
 |.str i=>Q i
 |_=>False
def cn (m:Bool)(l:List V)(σ:bo)(Q:V->bo->Prop):Prop:=l.length<lim/\(match m with
 |true=>Q (.loc σ.length) (σ++[.list l])
 |false=>Q (.lst l) σ)
theorem qE     (h:cn m l σ Q):Wp (gQ m l σ) Q E:=by unfold gQ;rw[if_pos h.1];induction m<;>exact h.2
def ac2 (σ:bo)(m:Bool)(a b:V)(Q:V->bo->Prop):Prop:=match a with
 |.int x=>aI b λy=>Q (.int (x+y)) σ
 |.tup x=>aT b λy=>x.length+y.length<lim/\Q (.tup (x++y)) σ
 |.lst x=>aL b λy=>cn m (x++y) σ Q
 |.loc n=>aL b λy=>Ls σ (.loc n) λU x=>cn m (x++y) σ Q
 |.str x=>aS b λy=>x.cps.size+y.cps.size<lim/\Q (.str ⟨x.cps++y.cps⟩) σ
 |_=>False
def acW (σ:bo)(m:Bool)(a b:V)(Q:V->bo->Prop):Prop:=match a with
 |.int x=>aI b λy=>(big x&&big y)=af/\Q (.int (x*y)) σ
 |.tup x=>aI b λy=>(y.toNat*x.length<lim/\0<=y/\y<1000)/\Q (.tup (mV x y.toNat)) σ
 |.lst x=>aI b λy=>(y.toNat*x.length<lim/\0<=y/\y<1000)/\cn m (mV x y.toNat) σ Q
 |_=>False
def cb (σ:bo)(o:Nh)(m:Bool)(a b:V)(Q:V->bo->Prop):Prop:=match o with
 |.add=>ac2 σ m a b Q
 |.sub=>aI a λx=>aI b λy=>Q (.int (x-y)) σ
 |.mul=>acW σ m a b Q
 |.fdiv=>aI a λx=>aI b λy=>(0<y/\y<1000000)/\Q (.int (x/y)) σ
 |.mod=>aI a λx=>aI b λy=>0<y/\Q (.int (x%y)) σ
 |.pow _=>(a=.int 10/\b=.int 9)/\Q (.int 1000000000) σ
theorem tH {c:Prop}[Decidable c]{r:R α}{Q:α->bo->Prop}(h:c/\Wp r Q E):Wp (if c then r else .bad) Q E:=by rw[if_pos h.1];exact h.2
theorem aah {o:Nh}{a b:V}(h:cb σ o m a b Q):Wp (Pm σ o m a b) Q E:=by
 induction o with
 |add =>
  induction a using V.casesOn with
  |int x=>induction b using V.casesOn<;>first|exact h|exact(show False from h).elim
  |str x=>induction b using V.casesOn<;>first|exact tH (show _/\_ from h)|exact(show False from h).elim
  |tup x=>induction b using V.casesOn<;>first|exact tH (show _/\_ from h)|exact(show False from h).elim
  |lst x=>induction b using V.casesOn<;>first|exact(show False from h).elim|exact qE (l:=x++_) h
  |loc n=>induction b using V.casesOn with
   |lst y =>
    have h:Gt σ[n]? _:=h;have q:∀l,σ[n]?=aa (.list l)->Ak σ (.loc n)=aa l:=λl e=>by show(match σ[n]? with|some (.list l)=>aa l|_=>ae)=_;rw[e]
    refine(?_:Wp (Pe σ m (Ak σ (.loc n)) (aa y)) Q E);induction e:σ[n]? with
    |none=>rw[e]at h;exact(show False from h).elim
    |some o =>
     rw[e]at h;induction o with
     |list l=>rw[q l e];exact qE h
     |_=>exact(show False from h).elim
   |_=>exact(show False from h).elim
  |_=>exact(show False from h).elim
 |sub=>induction a using V.casesOn<;>first|exact(show False from h).elim|(induction b using V.casesOn<;>first|exact h|exact(show False from h).elim)
 |mul =>
  induction a using V.casesOn with
  |int x=>induction b using V.casesOn<;>first|exact tH (show _/\_ from h)|exact(show False from h).elim
  |tup x=>induction b using V.casesOn<;>first|exact tH (show _/\_ from h)|exact(show False from h).elim
  |lst x=>induction b using V.casesOn<;>first|exact tH ⟨h.1,qE h.2⟩|exact(show False from h).elim
  |_=>exact(show False from h).elim
 |fdiv=>induction a using V.casesOn<;>first|exact(show False from h).elim|(induction b using V.casesOn<;>first|exact tH (show _/\_ from h)|exact(show False from h).elim)
 |mod=>induction a using V.casesOn<;>first|exact(show False from h).elim|(induction b using V.casesOn<;>first|exact tH (show _/\_ from h)|exact(show False from h).elim)
 |pow=>obtain⟨⟨rfl,rfl⟩,h⟩:=h;exact tH (c:=(10:Int)=10/\(9:Int)=9) (r:=R.ok (V.int 1000000000) σ) ⟨⟨rfl,rfl⟩,h⟩
def CJ (up:Bool)(σ:bo)(a i:V)(Q:V->bo->Prop):Prop:=aI i λi=>match a with
 |.tup l=>(0<=i/\i.toNat<=l.length/\l.length<lim)/\Q (.tup (if up then l.take i.toNat else l.drop i.toNat)) σ
 |.lst l=>(0<=i/\big i=af/\l.length<lim)/\cn ag (if up then l.take i.toNat else l.drop i.toNat) σ Q
 |.loc n=>Ls σ (.loc n) λU l=>(0<=i/\big i=af/\l.length<lim)/\cn ag (if up then l.take i.toNat else l.drop i.toNat) σ Q
 |_=>False
theorem lsL   (e:σ[n]?=aa (.list l)):Ak σ (.loc n)=aa l:=by refine(?_:(match σ[n]? with|some (.list l)=>aa l|_=>ae)=_);rw[e]
theorem Fb {up:Bool}{a i:V}(h:CJ up σ a i Q):Wp (slc up σ a i) Q E:=by
 induction i using V.casesOn with
 |int i =>
  induction a using V.casesOn with
  |tup l=>exact tH (show _/\_ from h)
  |lst l=>exact tH ⟨h.1,qE h.2⟩
  |loc n =>
   have h:Gt σ[n]? _:=h;refine(?_:Wp (IV up σ i (Ak σ (.loc n))) Q E);induction e:σ[n]? with
   |none=>rw[e]at h;exact(show False from h).elim
   |some o =>
    rw[e]at h;induction o with
    |list l=>rw[lsL e];exact tH ⟨h.1,qE h.2⟩
    |_=>exact(show False from h).elim
  |_=>exact(show False from h).elim
 |_=>exact(show False from h).elim
theorem N0 {a i:V}(h:CJ ag σ a i Q):Wp (xN σ a i) Q E:=Fb h
theorem N5 {a i:V}(h:CJ af σ a i Q):Wp (vE σ a i) Q E:=Fb h
section
variable (G:List V)(Φ:Nat->List V->bo->R V)(vs:Vs)(E:bo->Prop)
mutual
def we:X->List V->bo->(V->bo->Prop)->Prop
 |.k c,_,σ,Q=>Q c σ
 |.v i,_,σ,Q=>Gt vs[i]? λo=>Gt o λx=>Q x σ
 |.c i,cs,σ,Q=>Gt cs[i]? λx=>Q x σ
 |.g i,_,σ,Q=>Gt G[i]? λx=>Q x σ
 |.tup l,cs,σ,Q=>xr l cs σ λxs σ=>xs.length<lim/\Q (.tup xs) σ
 |.lst m l,cs,σ,Q=>xr l cs σ λxs σ=>cn m xs σ Q
 |.bin o m a b,cs,σ,Q=>we a cs σ λx σ=>we b cs σ λy σ=>cb σ o m x y Q
 |.neg a,cs,σ,Q=>we a cs σ λx σ=>aI x λi=>Q (.int (-i)) σ
 |.cmp a o l,cs,σ,Q=>we a cs σ λx σ=>Nn x o l cs σ Q
 |.and l,cs,σ,Q=>Ey af l cs σ Q
 |.or l,cs,σ,Q=>Ey ag l cs σ Q
 |.not a,cs,σ,Q=>we a cs σ λx σ=>aB x λb=>Q (.bool !b) σ
 |.ite c a b,cs,σ,Q=>we c cs σ λx σ=>Tw x (we a cs σ Q) (we b cs σ Q)
 |.sub a i,cs,σ,Q=>we a cs σ λx σ=>we i cs σ λy σ=>Gt (hU σ x y) λz=>Q z σ
 |.xN a i,cs,σ,Q=>we a cs σ λx σ=>we i cs σ λy σ=>CJ ag σ x y Q
 |.vE a i,cs,σ,Q=>we a cs σ λx σ=>we i cs σ λy σ=>CJ af σ x y Q
 |.dm a f,cs,σ,Q=>we a cs σ λx σ=>Gt (yg σ x f) λz=>Q z σ
 |.call f l,cs,σ,Q=>xr l cs σ λxs σ=>Wp (Φ f xs σ) Q E
 |.len a,cs,σ,Q=>we a cs σ λx σ=>Gt (items σ x) λl=>l.length<lim/\Q (.int l.length) σ
 |.abs a,cs,σ,Q=>we a cs σ λx σ=>aI x λi=>Q (.int i.natAbs) σ
 |.k7 a,cs,σ,Q=>we a cs σ λx σ=>Gt (nj x) λz=>Q z σ
 |.tolist a,cs,σ,Q=>we a cs σ λx σ=>aT x λl=>cn af l σ Q
 |.An t a,cs,σ,Q=>we a cs σ λx σ=>Gt (Bc t x) λb=>Q (.bool b) σ
 |.app o a,cs,σ,Q=>we o cs σ λx σ=>uQ σ x=af/\we a cs σ λy σ=>Ls σ x λn l=>l.length<lim/\Q .none (σ.set n (.list (l++[y])))
 |.pop o,cs,σ,Q=>we o cs σ λx σ=>Ls σ x λn l=>Gt l.getLast? λy=>l.length<lim/\Q y (σ.set n (.list l.dropLast))
 |.uu o i,cs,σ,Q=>we o cs σ λx σ=>uQ σ x=af/\we i cs σ λy σ=>aI y λi=>Ls σ x λn l=>Gt l[i.toNat]? λy=>(l.length<lim/\0<=i)/\Q y (σ.set n (.list (l.eraseIdx i.toNat)))
 |.ext o a,cs,σ,Q=>we o cs σ λx σ=>uQ σ x=af/\we a cs σ λy σ=>aL y λr=>Ls σ x λn l=>l.length+r.length<lim/\Q .none (σ.set n (.list (l++r)))
 |.index o a,cs,σ,Q=>we o cs σ λx σ=>aL x λl=>we a cs σ λy σ=>aS y λq=>Gt (findS q l) λo=>Gt o λj=>l.length<lim/\Q (.int j) σ
 |.split o sep,cs,σ,Q=>we o cs σ λx σ=>Gt (ju x sep) λl=>cn ag l σ Q
 |.nz l,cs,σ,Q=>xr l cs σ λxs σ=>Q (.tup xs) σ
 |.pC a,cs,σ,Q=>we a cs σ Q
 |x,cs,σ,Q=>Wp (ev G Φ vs x cs σ) Q E
def xr:List X->List V->bo->(List V->bo->Prop)->Prop
 |[],_,σ,Q=>Q [] σ
 |x::l,cs,σ,Q=>we x cs σ λv σ=>xr l cs σ λr σ=>Q (v::r) σ
def Nn:V->List Cm->List X->List V->bo->(V->bo->Prop)->Prop
 |_,_,[],_,_,_=>False
 |_,[],_::_,_,_,_=>False
 |x,o::os,b::l,cs,σ,Q=>we b cs σ λy σ=>Gt (fe σ o x y) λr=>match os with
  |[]=>(match l with
   |[]=>Q (.bool r) σ
   |_::_=>False)
  |_::_=>if r=af then Nn y os l cs σ Q else Q (.bool ag) σ
def Ey:Bool->List X->List V->bo->(V->bo->Prop)->Prop
 |w,[],_,σ,Q=>Q (.bool w) σ
 |w,x::l,cs,σ,Q=>we x cs σ λv σ=>aB v λb=>if b=w then Ey w l cs σ Q else Q (.bool b) σ
end
section
variable (cs:List V)(σ:bo)
theorem cY (c:V)(Q:V->bo->Prop):we G Φ vs E (.k c) cs σ Q=(Q c σ):=rfl
theorem cq (i:Nat)(Q:V->bo->Prop):we G Φ vs E (.v i) cs σ Q=(Gt vs[i]? λo=>Gt o λx=>Q x σ):=rfl
theorem It (i:Nat)(Q:V->bo->Prop):we G Φ vs E (.c i) cs σ Q=(Gt cs[i]? λx=>Q x σ):=rfl
theorem sL (i:Nat)(Q:V->bo->Prop):we G Φ vs E (.g i) cs σ Q=(Gt G[i]? λx=>Q x σ):=rfl
theorem dX (l:List X)(Q:V->bo->Prop):we G Φ vs E (.tup l) cs σ Q=(xr G Φ vs E l cs σ λxs σ=>xs.length<lim/\Q (.tup xs) σ):=rfl
theorem eI (m:Bool)(l:List X)(Q:V->bo->Prop):we G Φ vs E (.lst m l) cs σ Q=(xr G Φ vs E l cs σ λxs σ=>cn m xs σ Q):=rfl
theorem eR (o:Nh)(m:Bool)(a b:X)(Q:V->bo->Prop):we G Φ vs E (.bin o m a b) cs σ Q=(we G Φ vs E a cs σ λx σ=>we G Φ vs E b cs σ λy σ=>cb σ o m x y Q):=rfl
theorem AD (a:X)(Q:V->bo->Prop):we G Φ vs E (.neg a) cs σ Q=(we G Φ vs E a cs σ λx σ=>aI x λi=>Q (.int (-i)) σ):=rfl
theorem cj (a:X)(o:List Cm)(l:List X)(Q:V->bo->Prop):we G Φ vs E (.cmp a o l) cs σ Q=(we G Φ vs E a cs σ λx σ=>Nn G Φ vs E x o l cs σ Q):=rfl
theorem iq (l:List X)(Q:V->bo->Prop):we G Φ vs E (.and l) cs σ Q=(Ey G Φ vs E af l cs σ Q):=rfl
theorem mC (l:List X)(Q:V->bo->Prop):we G Φ vs E (.or l) cs σ Q=(Ey G Φ vs E ag l cs σ Q):=rfl
theorem ja (a:X)(Q:V->bo->Prop):we G Φ vs E (.not a) cs σ Q=(we G Φ vs E a cs σ λx σ=>aB x λb=>Q (.bool !b) σ):=rfl
theorem jb (c a b:X)(Q:V->bo->Prop):we G Φ vs E (.ite c a b) cs σ Q=(we G Φ vs E c cs σ λx σ=>Tw x (we G Φ vs E a cs σ Q) (we G Φ vs E b cs σ Q)):=rfl
theorem cA (a i:X)(Q:V->bo->Prop):we G Φ vs E (.sub a i) cs σ Q=(we G Φ vs E a cs σ λx σ=>we G Φ vs E i cs σ λy σ=>Gt (hU σ x y) λz=>Q z σ):=rfl
theorem tT (a i:X)(Q:V->bo->Prop):we G Φ vs E (.xN a i) cs σ Q=(we G Φ vs E a cs σ λx σ=>we G Φ vs E i cs σ λy σ=>CJ ag σ x y Q):=rfl
theorem tU (a i:X)(Q:V->bo->Prop):we G Φ vs E (.vE a i) cs σ Q=(we G Φ vs E a cs σ λx σ=>we G Φ vs E i cs σ λy σ=>CJ af σ x y Q):=rfl
theorem dR (a:X)(f:Nat)(Q:V->bo->Prop):we G Φ vs E (.dm a f) cs σ Q=(we G Φ vs E a cs σ λx σ=>Gt (yg σ x f) λz=>Q z σ):=rfl
theorem dz (f:Nat)(l:List X)(Q:V->bo->Prop):we G Φ vs E (.call f l) cs σ Q=(xr G Φ vs E l cs σ λxs σ=>Wp (Φ f xs σ) Q E):=rfl
theorem eQ (a:X)(Q:V->bo->Prop):we G Φ vs E (.len a) cs σ Q=(we G Φ vs E a cs σ λx σ=>Gt (items σ x) λl=>l.length<lim/\Q (.int l.length) σ):=rfl
theorem aaK (a:X)(Q:V->bo->Prop):we G Φ vs E (.abs a) cs σ Q=(we G Φ vs E a cs σ λx σ=>aI x λi=>Q (.int i.natAbs) σ):=rfl
theorem yJ (a:X)(Q:V->bo->Prop):we G Φ vs E (.k7 a) cs σ Q=(we G Φ vs E a cs σ λx σ=>Gt (nj x) λz=>Q z σ):=rfl
theorem C9 (a:X)(Q:V->bo->Prop):we G Φ vs E (.tolist a) cs σ Q=(we G Φ vs E a cs σ λx σ=>aT x λl=>cn af l σ Q):=rfl
theorem xw (t:Nat)(a:X)(Q:V->bo->Prop):we G Φ vs E (.An t a) cs σ Q=(we G Φ vs E a cs σ λx σ=>Gt (Bc t x) λb=>Q (.bool b) σ):=rfl
theorem md (o a:X)(Q:V->bo->Prop):we G Φ vs E (.app o a) cs σ Q=(we G Φ vs E o cs σ λx σ=>uQ σ x=af/\we G Φ vs E a cs σ λy σ=>Ls σ x λn l=>l.length<lim/\Q .none (σ.set n (.list (l++[y])))):=rfl
theorem EA (o:X)(Q:V->bo->Prop):we G Φ vs E (.pop o) cs σ Q=(we G Φ vs E o cs σ λx σ=>Ls σ x λn l=>Gt l.getLast? λy=>l.length<lim/\Q y (σ.set n (.list l.dropLast))):=rfl
theorem xv (o i:X)(Q:V->bo->Prop):we G Φ vs E (.uu o i) cs σ Q=(we G Φ vs E o cs σ λx σ=>uQ σ x=af/\we G Φ vs E i cs σ λy σ=>aI y λi=>Ls σ x λn l=>Gt l[i.toNat]? λy=>(l.length<lim/\0<=i)/\Q y (σ.set n (.list (l.eraseIdx i.toNat)))):=rfl
theorem EC (o a:X)(Q:V->bo->Prop):we G Φ vs E (.ext o a) cs σ Q=(we G Φ vs E o cs σ λx σ=>uQ σ x=af/\we G Φ vs E a cs σ λy σ=>aL y λr=>Ls σ x λn l=>l.length+r.length<lim/\Q .none (σ.set n (.list (l++r)))):=rfl
theorem EB (o a:X)(Q:V->bo->Prop):we G Φ vs E (.index o a) cs σ Q=(we G Φ vs E o cs σ λx σ=>aL x λl=>we G Φ vs E a cs σ λy σ=>aS y λq=>Gt (findS q l) λo=>Gt o λj=>l.length<lim/\Q (.int j) σ):=rfl
theorem Ez (o:X)(sep:Str)(Q:V->bo->Prop):we G Φ vs E (.split o sep) cs σ Q=(we G Φ vs E o cs σ λx σ=>Gt (ju x sep) λl=>cn ag l σ Q):=rfl
theorem xu (l:List X)(Q:V->bo->Prop):we G Φ vs E (.nz l) cs σ Q=(xr G Φ vs E l cs σ λxs σ=>Q (.tup xs) σ):=rfl
theorem Np (a:X)(Q:V->bo->Prop):we G Φ vs E (.pC a) cs σ Q=(we G Φ vs E a cs σ Q):=rfl
theorem dT (Q:List V->bo->Prop):xr G Φ vs E [] cs σ Q=Q [] σ:=rfl
theorem ez (x:X)(l:List X)(Q:List V->bo->Prop):xr G Φ vs E (x::l) cs σ Q=(we G Φ vs E x cs σ λv σ=>xr G Φ vs E l cs σ λr σ=>Q (v::r) σ):=rfl
theorem eU (x:V)(o:Cm)(b:X)(Q:V->bo->Prop):Nn G Φ vs E x [o] [b] cs σ Q=(we G Φ vs E b cs σ λy σ=>Gt (fe σ o x y) λr=>Q (.bool r) σ):=rfl
theorem yI (x:V)(o o':Cm)(os:List Cm)(b:X)(l:List X)(Q:V->bo->Prop):Nn G Φ vs E x (o::o'::os) (b::l) cs σ Q=(we G Φ vs E b cs σ λy σ=>Gt (fe σ o x y) λr=>if r=af then Nn G Φ vs E y (o'::os) l cs σ Q else Q (.bool ag) σ):=rfl
theorem jH (w:Bool)(Q:V->bo->Prop):Ey G Φ vs E w [] cs σ Q=Q (.bool w) σ:=rfl
theorem jG (w:Bool)(x:X)(l:List X)(Q:V->bo->Prop):Ey G Φ vs E w (x::l) cs σ Q=(we G Φ vs E x cs σ λv σ=>aB v λb=>if b=w then Ey G Φ vs E w l cs σ Q else Q (.bool b) σ):=rfl
end
theorem PQ {x y:V}{σ:bo}{Q:V->bo->Prop}(h:Ls σ x λn l=>l.length<lim/\Q .none (σ.set n (.list (l++[y])))) :
  Wp (match x with
  |.loc n=>match σ[n]? with
   |some (.list l)=>if l.length<lim then .ok .none (σ.set n (.list (l++[y])))else .bad
   |_=>.bad
  |_=>.bad) Q E:=by
 induction x using V.casesOn with
 |loc n =>
  have h:Gt σ[n]? _:=h;dsimp only;induction e:σ[n]? with
  |none=>rw[e]at h;exact h
  |some o =>
   rw[e]at h;induction o with
   |list l=>exact tH h
   |_=>exact h
 |_=>exact h
theorem Ls.elim {x:V}{Q:Nat->List V->Prop}(h:Ls σ x Q):∃n l,x=.loc n/\σ[n]?=aa (.list l)/\Q n l:=by
 induction x using V.casesOn with
 |loc n =>
  have h:Gt σ[n]? _:=h;induction e:σ[n]? with
  |none=>rw[e]at h;exact h.elim
  |some o =>
   rw[e]at h;induction o with
   |list l=>exact⟨n,l,rfl,e,h⟩
   |_=>exact(show False from h).elim
 |_=>exact(show False from h).elim
mutual
theorem cz:∀(x:X) (cs:List V) (σ:bo) (Q:V->bo->Prop),we G Φ vs E x cs σ Q->Wp (ev G Φ vs x cs σ) Q E
 |.k c,cs,σ,Q,h=>h
 |.v i,cs,σ,Q,h=>by
  have h:Gt vs[i]? _:=h;refine(?_:Wp (match vs[i]? with|some (aa x)=>.ok x σ|_=>.bad) Q E);induction e:vs[i]? with
  |none=>rw[e]at h;exact h
  |some o=>rw[e]at h;induction o<;>exact h
 |.c i,cs,σ,Q,h=>Gw (Q:=Q) h
 |.g i,cs,σ,Q,h=>Gw (Q:=Q) h
 |.tup l,cs,σ,Q,h=>Wp.bind ((lx l cs σ _ h).imp λxs σ h=>tH h)
 |.lst m l,cs,σ,Q,h=>Wp.bind ((lx l cs σ _ h).imp λxs σ h=>qE h)
 |.bin o m a b,cs,σ,Q,h=>Wp.bind ((cz a cs σ _ h).imp λx σ h=>Wp.bind ((cz b cs σ _ h).imp λy σ h=>aah h))
 |.neg a,cs,σ,Q,h=>Wp.bind ((cz a cs σ _ h).imp λx σ h=>by induction x using V.casesOn<;>exact h)
 |.cmp a o l,cs,σ,Q,h=>Wp.bind ((cz a cs σ _ h).imp λx σ h=>Ex x o l cs σ _ h)
 |.and l,cs,σ,Q,h=>xt af l cs σ _ h
 |.or l,cs,σ,Q,h=>xt ag l cs σ _ h
 |.not a,cs,σ,Q,h=>Wp.bind ((cz a cs σ _ h).imp λx σ h=>by induction x using V.casesOn<;>exact h)
 |.ite c a b,cs,σ,Q,h=>Wp.bind ((cz c cs σ _ h).imp λx σ h=>by
  induction x using V.casesOn with
  |bool v=>induction v;exact cz b cs σ _ h;exact cz a cs σ _ h
  |_=>exact h)
 |.sub a i,cs,σ,Q,h=>Wp.bind ((cz a cs σ _ h).imp λx σ h=>Wp.bind ((cz i cs σ _ h).imp λy σ h=>Gw (Q:=Q) h))
 |.xN a i,cs,σ,Q,h=>Wp.bind ((cz a cs σ _ h).imp λx σ h=>Wp.bind ((cz i cs σ _ h).imp λy σ h=>N0 h))
 |.vE a i,cs,σ,Q,h=>Wp.bind ((cz a cs σ _ h).imp λx σ h=>Wp.bind ((cz i cs σ _ h).imp λy σ h=>N5 h))
 |.dm a f,cs,σ,Q,h=>Wp.bind ((cz a cs σ _ h).imp λx σ h=>Gw (Q:=Q) h)
 |.call f l,cs,σ,Q,h=>Wp.bind (lx l cs σ _ h)
 |.len a,cs,σ,Q,h=>Wp.bind ((cz a cs σ _ h).imp λx σ h=>by
  induction e:items σ x with
  |none=>rw[e]at h;exact h
  |some l=>rw[e]at h;exact tH h)
 |.abs a,cs,σ,Q,h=>Wp.bind ((cz a cs σ _ h).imp λx σ h=>by induction x using V.casesOn<;>exact h)
 |.k7 a,cs,σ,Q,h=>Wp.bind ((cz a cs σ _ h).imp λx σ h=>Gw (Q:=Q) h)
 |.tolist a,cs,σ,Q,h=>Wp.bind ((cz a cs σ _ h).imp λx σ h=>by
  induction x using V.casesOn with
  |tup l=>exact qE h
  |_=>exact h)
 |.An t a,cs,σ,Q,h=>Wp.bind ((cz a cs σ _ h).imp λx σ h=>by
  induction e:Bc t x with
  |none=>rw[e]at h;exact h
  |some l=>rw[e]at h;exact h)
 |.app o a,cs,σ,Q,h=>Wp.bind ((cz o cs σ _ h).imp λx σ h=>tH ⟨h.1,Wp.bind ((cz a cs σ _ h.2).imp λy σ h=>PQ E h)⟩)
 |.pop o,cs,σ,Q,h=>Wp.bind ((cz o cs σ _ h).imp λx σ h=>by
  obtain⟨n,l,rfl,e,h⟩:=h.elim;dsimp only;rw[e];dsimp only;induction e2:l.getLast? with
  |none=>rw[e2]at h;exact h
  |some y=>rw[e2]at h;exact tH h)
 |.uu o i,cs,σ,Q,h=>Wp.bind ((cz o cs σ _ h).imp λx σ h=>tH ⟨h.1,Wp.bind ((cz i cs σ _ h.2).imp λy σ h=>by
  induction y using V.casesOn with
  |int i =>
   obtain⟨n,l,rfl,e,h⟩:=Ls.elim h;dsimp only;rw[e];dsimp only;induction e2:l[i.toNat]? with
   |none=>rw[e2]at h;exact h
   |some y=>rw[e2]at h;exact tH h
  |_=>exact(show False from h).elim)⟩)
 |.ext o a,cs,σ,Q,h=>Wp.bind ((cz o cs σ _ h).imp λx σ h=>tH ⟨h.1,Wp.bind ((cz a cs σ _ h.2).imp λy σ h=>by
  induction y using V.casesOn with
  |lst r =>obtain⟨n,l,rfl,e,h⟩:=Ls.elim h;dsimp only;rw[e];exact tH h
  |_=>exact(show False from h).elim)⟩)
 |.index o a,cs,σ,Q,h=>Wp.bind ((cz o cs σ _ h).imp λx σ h=>by
  induction x using V.casesOn with
  |lst l =>
   refine tH ⟨rfl,Wp.bind ((cz a cs σ _ h).imp λy σ h=>?_)⟩;induction y using V.casesOn with
   |str q =>
    dsimp only;induction e:findS q l with
    |none=>rw[show aS (.str q) _=Gt (findS q l) _ from rfl,e]at h;exact h
    |some o =>
     rw[show aS (.str q) _=Gt (findS q l) _ from rfl,e]at h;induction o with
     |none=>exact h
     |some j=>exact tH h
   |_=>exact(show False from h).elim
  |_=>exact(show False from h).elim)
 |.split o sep,cs,σ,Q,h=>Wp.bind ((cz o cs σ _ h).imp λx σ h=>by
  induction e:ju x sep with
  |none=>rw[e]at h;exact h
  |some l=>rw[e]at h;exact qE h)
 |.nz l,cs,σ,Q,h=>Wp.bind (lx l cs σ _ h)
 |.pC a,cs,σ,Q,h=>cz a cs σ _ h
 |.z4 _ _,cs,σ,Q,h|.sY _ _,cs,σ,Q,h|.zZ _ _,cs,σ,Q,h|.mk _,cs,σ,Q,h|.comp _ _ _ _,cs,σ,Q,h=>h
theorem lx:∀(l:List X) (cs:List V) (σ:bo) (Q:List V->bo->Prop),xr G Φ vs E l cs σ Q->Wp (CH G Φ vs l cs σ) Q E
 |[]=>λcs σ Q h=>h
 |x::l=>λcs σ Q h=>Wp.bind ((cz x cs σ _ h).imp λv σ h=>Wp.bind ((lx l cs σ _ h).imp λr σ h=>h))
theorem Ex:∀(x:V) (os:List Cm) (l:List X) (cs:List V) (σ:bo) (Q:V->bo->Prop),Nn G Φ vs E x os l cs σ Q->Wp (Ic G Φ vs x os l cs σ) Q E
 |x,os,[]=>λcs σ Q h=>by induction os using List.casesOn<;>exact(show False from h).elim
 |x,[],b::l=>λcs σ Q h=>(show False from h).elim
 |x,[o],b::l=>λcs σ Q h=>by
  have h:we G Φ vs E b cs σ _:=h;induction l with
  |nil =>
   exact Wp.bind ((cz b cs σ _ h).imp λy σ h=>by
    induction e:fe σ o x y with
    |none=>rw[e]at h;exact h
    |some r=>rw[e]at h;exact h)
  |cons c l =>
   exact Wp.bind ((cz b cs σ _ h).imp λy σ h=>by
    induction e:fe σ o x y with
    |none=>rw[e]at h;exact h
    |some r=>rw[e]at h;exact(show False from h).elim)
 |x,o::o'::os,b::l=>λcs σ Q h=>by
  have h:we G Φ vs E b cs σ _:=h;have key:Wp ((ev G Φ vs b cs σ).bind λy σ=>match fe σ o x y with
   |some af=>Ic G Φ vs y (o'::os) l cs σ
   |some ag=>.ok (.bool ag) σ
   |none=>.bad) Q E:=Wp.bind ((cz b cs σ _ h).imp λy σ h=>by
    induction e:fe σ o x y with
    |none=>rw[e]at h;exact h
    |some r =>
     rw[e]at h;induction r
     .exact h
     .exact Ex y (o'::os) l cs σ _ h)
  exact key
theorem xt:∀(w:Bool) (l:List X) (cs:List V) (σ:bo) (Q:V->bo->Prop),Ey G Φ vs E w l cs σ Q->Wp (qV G Φ vs w l cs σ) Q E
 |w,[]=>λcs σ Q h=>h
 |w,x::l=>λcs σ Q h=>Wp.bind ((cz x cs σ _ h).imp λv σ h=>by
  induction v using V.casesOn with
  |bool b =>
   dsimp only;have h:if b=w then Ey G Φ vs E w l cs σ Q else Q (.bool b) σ:=h
   split at h
   .rename_i e;rw[if_pos e];exact xt w l cs σ _ h
   .rename_i e;rw[if_neg e];exact h
  |_=>exact h)
end
end
section
variable (G:List V)(Φ:Nat->List V->bo->R V)(W:Nat)(E:bo->Prop)
def P6 (t:TA)(x:V)(vs:Vs)(σ:bo)(Q:Vs->bo->Prop):Prop:=match t with
 |.n i=>Q (vs.set i (aa x)) σ
 |.dm o f=>we G Φ vs E o [] σ λa σ=>Gt (kD σ a f x) λσ=>Q vs σ
 |.sub o i=>we G Φ vs E o [] σ λa σ=>we G Φ vs E i [] σ λj σ=>Gt (o8 σ a j x) λσ=>Q vs σ
def Az:List TA->List V->Vs->bo->(Vs->bo->Prop)->Prop
 |[],[],vs,σ,Q=>Q vs σ
 |t::ts,x::xs,vs,σ,Q=>P6 G Φ E t x vs σ λvs σ=>Az ts xs vs σ Q
 |_,_,_,_,_=>False
theorem Nl {t:TA}{x:V}{Q:Vs->bo->Prop}(h:P6 G Φ E t x vs σ Q):Wp (zx G Φ t x vs σ) Q E:=by
 induction t with
 |n i=>exact h
 |dm o f =>
  refine Wp.bind ((cz G Φ vs E o [] σ _ h).imp λa σ h=>?_);induction e:kD σ a f x with
  |none=>rw[e]at h;exact h
  |some r=>rw[e]at h;exact h
 |sub o i =>
  refine Wp.bind ((cz G Φ vs E o [] σ _ h).imp λa σ h=>Wp.bind ((cz G Φ vs E i [] σ _ h).imp λj σ h=>?_));induction e:o8 σ a j x with
  |none=>rw[e]at h;exact h
  |some r=>rw[e]at h;exact h
theorem BL:∀(ts:List TA) (xs:List V) (vs:Vs) (σ:bo) (Q:Vs->bo->Prop),Az G Φ E ts xs vs σ Q->Wp (nA G Φ ts xs vs σ) Q E
 |[],[]=>λvs σ Q h=>h
 |t::ts,x::xs=>λvs σ Q h=>Wp.bind ((Nl G Φ E h).imp λvs σ h=>BL ts xs vs σ Q h)
 |[],_::_=>λU U U h=>(h:False).elim
 |_::_,[]=>λU U U h=>(h:False).elim
def tO (A:Vs->bo->Prop)(K:V->Vs->bo->Prop)(q:Fl×Vs)(σ:bo):Prop:=match q.1 with
 |.nx=>A q.2 σ
 |.rt v=>K v q.2 σ
def wit (t:Tg)(b:Vs->bo->RS)(k:IK)(vs:Vs)(σ:bo)(Q:Fl×Vs->bo->Prop):Prop:=match k with
 |.items l=>Wp (jc t b l vs σ) Q E
 |.live n en=>Wp (qr t en b n W 0 vs σ) Q E
mutual
def wx:S->Vs->bo->(Vs->bo->Prop)->(V->Vs->bo->Prop)->Prop
 |.expr e,vs,σ,A,_=>we G Φ vs E e [] σ λU σ=>A vs σ
 |.asg i e,vs,σ,A,_=>we G Φ vs E e [] σ λx σ=>A (vs.set i (aa x)) σ
 |.fY ts e,vs,σ,A,_=>we G Φ vs E e [] σ λx σ=>aT x λl=>l.length=ts.length/\Az G Φ E ts l vs σ A
 |.fj o f e,vs,σ,A,_=>we G Φ vs E e [] σ λx σ=>we G Φ vs E o [] σ λa σ=>Gt (kD σ a f x) λσ=>A vs σ
 |.eY o i e,vs,σ,A,_=>we G Φ vs E e [] σ λx σ=>we G Φ vs E o [] σ λa σ=>we G Φ vs E i [] σ λj σ=>Gt (o8 σ a j x) λσ=>A vs σ
 |.ite c a b,vs,σ,A,K=>we G Φ vs E c [] σ λx σ=>Tw x (iR a vs σ A K) (iR b vs σ A K)
 |.vK c b,vs,σ,A,K=>Wp (oN (λvs σ=>ev G Φ vs c [] σ) (λvs σ=>l5 G Φ W b vs σ) W vs σ) (tO A K) E
 |.jx t it b,vs,σ,A,K=>we G Φ vs E it [] σ λx σ=>Wp (jK it x σ) (λk σ=>wit W E t (λvs σ=>l5 G Φ W b vs σ) k vs σ (tO A K)) E
 |.ret e,vs,σ,_,K=>we G Φ vs E e [] σ λx σ=>K x vs σ
 |.raise a b,vs,σ,_,_=>we G Φ vs E a [] σ λU σ=>we G Φ vs E b [] σ λU σ=>E σ
 |.vR f l v,vs,σ,A,K=>xr G Φ vs E l [] σ λxs σ=>Wp (Φ f xs σ) (λU σ=>A vs σ) (λσ=>K v vs σ)
 |s,vs,σ,A,K=>Wp (ex G Φ W s vs σ) (tO A K) E
def iR:List S->Vs->bo->(Vs->bo->Prop)->(V->Vs->bo->Prop)->Prop
 |[],vs,σ,A,_=>A vs σ
 |s::r,vs,σ,A,K=>wx s vs σ (λvs σ=>iR r vs σ A K) K
end
mutual
theorem QG:∀(s:S) (vs:Vs) (σ:bo) (A:Vs->bo->Prop) (K:V->Vs->bo->Prop),wx G Φ W E s vs σ A K->Wp (ex G Φ W s vs σ) (tO A K) E
 |.expr e,vs,σ,A,K,h=>Wp.bind ((cz G Φ vs E e [] σ _ h).imp λx σ h=>h)
 |.asg i e,vs,σ,A,K,h=>Wp.bind ((cz G Φ vs E e [] σ _ h).imp λx σ h=>h)
 |.fY ts e,vs,σ,A,K,h=>Wp.bind ((cz G Φ vs E e [] σ _ h).imp λx σ h=>by
  induction x using V.casesOn with
  |tup l=>exact tH ⟨h.1,Wp.bind ((BL G Φ E ts l vs σ _ h.2).imp λvs σ h=>h)⟩
  |_=>exact(h:False).elim)
 |.fj o f e,vs,σ,A,K,h=>Wp.bind ((cz G Φ vs E e [] σ _ h).imp λx σ h=>Wp.bind ((cz G Φ vs E o [] σ _ h).imp λa σ h=>by
  induction e:kD σ a f x with
  |none=>rw[e]at h;exact h
  |some r=>rw[e]at h;exact h))
 |.eY o i e,vs,σ,A,K,h=>Wp.bind ((cz G Φ vs E e [] σ _ h).imp λx σ h=>Wp.bind ((cz G Φ vs E o [] σ _ h).imp λa σ h=>Wp.bind ((cz G Φ vs E i [] σ _ h).imp λj σ h=>by
  induction e:o8 σ a j x with
  |none=>rw[e]at h;exact h
  |some r=>rw[e]at h;exact h)))
 |.ite c a b,vs,σ,A,K,h=>Wp.bind ((cz G Φ vs E c [] σ _ h).imp λx σ h=>by
  induction x using V.casesOn with
  |bool v=>induction v;exact fF b vs σ _ _ h;exact fF a vs σ _ _ h
  |_=>exact h)
 |.vK c b,vs,σ,A,K,h=>h
 |.jx t it b,vs,σ,A,K,h=>by have h:we G Φ vs E it [] σ _:=h;have q:=(cz G Φ vs E it [] σ _ h);exact Wp.bind (Wp.bind (q.imp λx σ h=>h.imp λk σ h=>by induction k using Internal.IK.casesOn<;>exact h))
 |.ret e,vs,σ,A,K,h=>Wp.bind ((cz G Φ vs E e [] σ _ h).imp λx σ h=>h)
 |.raise a b,vs,σ,A,K,h=>Wp.bind ((cz G Φ vs E a [] σ _ h).imp λx σ h=>Wp.bind ((cz G Φ vs E b [] σ _ h).imp λx σ h=>h))
 |.vR f l v,vs,σ,A,K,h=>Wp.bind ((lx G Φ vs E l [] σ _ h).imp λxs σ h=>by
  induction e:Φ f xs σ with
  |ok a s=>rw[e]at h;exact h
  |exc s=>rw[e]at h;exact h
  |bad=>rw[e]at h;exact h)
 |.yb _ _ _,vs,σ,A,K,h|.dead,vs,σ,A,K,h=>h
theorem fF:∀(l:List S) (vs:Vs) (σ:bo) (A:Vs->bo->Prop) (K:V->Vs->bo->Prop),iR G Φ W E l vs σ A K->Wp (l5 G Φ W l vs σ) (tO A K) E
 |[]=>λvs σ A K h=>h
 |s::r=>λvs σ A K h=>Wp.bind ((QG s vs σ _ K h).imp λq σ h=>by
  match q with
  |(.nx,vs)=>exact fF r vs σ A K h
  |(.rt v,vs)=>exact h)
end
section
variable (vs:Vs)(σ:bo)(A:Vs->bo->Prop)(K:V->Vs->bo->Prop)
theorem er (e:X):wx G Φ W E (.expr e) vs σ A K=(we G Φ vs E e [] σ λU σ=>A vs σ):=rfl
theorem ew (i:Nat)(e:X):wx G Φ W E (.asg i e) vs σ A K=(we G Φ vs E e [] σ λx σ=>A (vs.set i (aa x)) σ):=rfl
theorem fJ (ts:List TA)(e:X):wx G Φ W E (.fY ts e) vs σ A K=(we G Φ vs E e [] σ λx σ=>aT x λl=>l.length=ts.length/\Az G Φ E ts l vs σ A):=rfl
theorem CZ (o:X)(f:Nat)(e:X):wx G Φ W E (.fj o f e) vs σ A K=(we G Φ vs E e [] σ λx σ=>we G Φ vs E o [] σ λa σ=>Gt (kD σ a f x) λσ=>A vs σ):=rfl
theorem hR (o i e:X):wx G Φ W E (.eY o i e) vs σ A K=(we G Φ vs E e [] σ λx σ=>we G Φ vs E o [] σ λa σ=>we G Φ vs E i [] σ λj σ=>Gt (o8 σ a j x) λσ=>A vs σ):=rfl
theorem dW (c:X)(a b:List S):wx G Φ W E (.ite c a b) vs σ A K=(we G Φ vs E c [] σ λx σ=>Tw x (iR G Φ W E a vs σ A K) (iR G Φ W E b vs σ A K)):=rfl
theorem xq (c:X)(b:List S):wx G Φ W E (.vK c b) vs σ A K=(Wp (oN (λvs σ=>ev G Φ vs c [] σ) (λvs σ=>l5 G Φ W b vs σ) W vs σ) (tO A K) E):=rfl
theorem fH (t:Tg)(it:X)(b:List S):wx G Φ W E (.jx t it b) vs σ A K=(we G Φ vs E it [] σ λx σ=>Wp (jK it x σ) (λk σ=>wit W E t (λvs σ=>l5 G Φ W b vs σ) k vs σ (tO A K)) E):=rfl
theorem dG (e:X):wx G Φ W E (.ret e) vs σ A K=(we G Φ vs E e [] σ λx σ=>K x vs σ):=rfl
theorem iE (a b:X):wx G Φ W E (.raise a b) vs σ A K=(we G Φ vs E a [] σ λU σ=>we G Φ vs E b [] σ λU σ=>E σ):=rfl
theorem Ij (f:Nat)(l:List X)(v:V):wx G Φ W E (.vR f l v) vs σ A K=(xr G Φ vs E l [] σ λxs σ=>Wp (Φ f xs σ) (λU σ=>A vs σ) (λσ=>K v vs σ)):=rfl
theorem dw:iR G Φ W E [] vs σ A K=A vs σ:=rfl
theorem cZ (s:S)(r:List S):iR G Φ W E (s::r) vs σ A K=wx G Φ W E s vs σ (λvs σ=>iR G Φ W E r vs σ A K) K:=rfl
theorem mS (i:Nat)(x:V)(Q:Vs->bo->Prop):P6 G Φ E (.n i) x vs σ Q=Q (vs.set i (aa x)) σ:=rfl
theorem aaH (o:X)(f:Nat)(x:V)(Q:Vs->bo->Prop):P6 G Φ E (.dm o f) x vs σ Q=(we G Φ vs E o [] σ λa σ=>Gt (kD σ a f x) λσ=>Q vs σ):=rfl
theorem aaG (o i:X)(x:V)(Q:Vs->bo->Prop):P6 G Φ E (.sub o i) x vs σ Q=(we G Φ vs E o [] σ λa σ=>we G Φ vs E i [] σ λj σ=>Gt (o8 σ a j x) λσ=>Q vs σ):=rfl
theorem i8 (Q:Vs->bo->Prop):Az G Φ E [] [] vs σ Q=Q vs σ:=rfl
theorem i7 (t:TA)(ts:List TA)(x:V)(xs:List V)(Q:Vs->bo->Prop):Az G Φ E (t::ts) (x::xs) vs σ Q=(P6 G Φ E t x vs σ λvs σ=>Az G Φ E ts xs vs σ Q):=rfl
theorem BO (t:Tg)(b:Vs->bo->RS)(l:List V)(Q:Fl×Vs->bo->Prop):wit W E t b (.items l) vs σ Q=Wp (jc t b l vs σ) Q E:=rfl
theorem adi (t:Tg)(b:Vs->bo->RS)(n:Nat)(en:Bool)(Q:Fl×Vs->bo->Prop):wit W E t b (.live n en) vs σ Q=Wp (qr t en b n W 0 vs σ) Q E:=rfl
end
end
theorem M7:∃c:Nat->Nat->List V->bo->R V,c=kM G F 1000:=⟨_,rfl⟩
noncomputable def cl:Nat->Nat->List V->bo->R V:=Classical.choose M7
theorem M8:cl=kM G F 1000:=Classical.choose_spec M7
theorem HG {d f:Nat}(fn:Fn)(h:F[f]?=aa fn)(hl:(qR xs.length fn.np&&qR fn.np (xs.length+fn.df.length))=af)
  (h2:iR G (cl d) 1000 E fn.body ((xs++fn.df.drop (xs.length+fn.df.length-fn.np)).map aa++bF (fn.nv-fn.np) dv) σ (λU σ=>Q .none σ) (λv U σ=>Q v σ)):Wp (cl (d+1) f xs σ) Q E:=by
 rw[M8]at h2 ⊢;rw[u5,h];dsimp only;rw[bz]at hl;rw[if_pos ⟨dD hl.1,dD hl.2⟩];refine Wp.bind ((fF _ _ _ _ _ _ _ _ _ h2).imp λr σ h=>?_)
 match r with
 |(.rt v,_)=>exact h
 |(.nx,_)=>exact h
noncomputable def Ot:Nat->Vs
 |0=>[]
 |k+1=>ae::Ot k
def Qk (k:Nat):List V->Vs
 |[]=>Ot k
 |x::xs=>aa x::Qk k xs
theorem d5 (x:V)(xs:List V)(k:Nat):Qk k (x::xs)=aa x::Qk k xs:=rfl
theorem d6 (k:Nat):Qk k []=Ot k:=rfl
theorem d4:Ot 0=[]:=rfl
theorem gu (k:Nat):Ot (k+1)=ae::Ot k:=rfl
theorem Gf:∀k:Nat,Ot k=bF k ae
 |0=>rfl
 |k+1=>congrArg (λl=>ae::l) (Gf k)
theorem GB (k:Nat):∀xs:List V,Qk k xs=xs.map aa++bF k ae
 |[]=>Gf k
 |x::xs=>congrArg (λl=>aa x::l) (GB k xs)
theorem call {d f:Nat}(fn:Fn)(k:Nat)(h:F[f]?=aa fn)(hl:(eG xs.length fn.np&&eG fn.nv (fn.np+k)&&fn.df.isEmpty)=af)
  (h2:iR G (cl d) 1000 E fn.body (Qk k xs) σ (λU σ=>Q .none σ) (λv U σ=>Q v σ)):Wp (cl (d+1) f xs σ) Q E:=by
 rw[bz,bz]at hl;have e1:=D3 hl.1.1;have e2:=D3 hl.1.2;have e3:=iM.1 hl.2;rw[GB]at h2;refine HG fn h ?_ ?_
 .rw[e1,e3,D4 (aO _),D4 (j7 _ _)];rfl
 .rw[e3,qX,aP,e2,m8];exact h2
theorem oo {t:Tg}{b:Vs->bo->RS}{A:Vs->bo->Prop}{K:V->Vs->bo->Prop}{E:bo->Prop}(I:List V->Vs->bo->Prop)
  (st:∀x l vs σ,I (x::l) vs σ->Gt (lh t x vs) λvs=>Wp (b vs σ) (tO (I l) K) E)(dn:∀vs σ,I [] vs σ->A vs σ) :
  ∀(l:List V) (vs:Vs) (σ:bo),I l vs σ->Wp (jc t b l vs σ) (tO A K) E
 |[]=>λvs σ h=>dn vs σ h
 |x::l=>λvs σ h=>by
  have q:=st x l vs σ h;refine(?_:Wp (match lh t x vs with|some vs=>_|none=>_) _ _);induction hp:lh t x vs with
  |none=>rw[hp]at q;exact q
  |some k6 =>
   rw[hp]at q;refine Wp.bind (Wp.imp q λr σ h=>?_)
   match r with
   |(.nx,vs)=>exact oo I st dn l vs σ h
   |(.rt v,vs)=>exact h
theorem ke {t:Tg}{en:Bool}{b:Vs->bo->RS}{n:Nat}{A:Vs->bo->Prop}{K:V->Vs->bo->Prop}{E:bo->Prop}(l:List V)(I:Nat->Vs->bo->Prop)
  (at_:∀i vs σ,I i vs σ->σ[n]?=aa (.list l))
  (st:∀i x vs σ,l[i]?=aa x->I i vs σ->Gt (lh t (if en then .tup [.int i,x]else x) vs) λvs=>Wp (b vs σ) (tO (I (i+1)) K) E)(dn:∀vs σ,I l.length vs σ->A vs σ) :
  ∀(f i:Nat) (vs:Vs) (σ:bo),i<=l.length->l.length<f+i->I i vs σ->Wp (qr t en b n f i vs σ) (tO A K) E
 |0=>λi vs σ h0 hl h=>by exact(abm h0 hl).elim
 |f+1=>λi vs σ h0 hl h=>by
  rw[uH];rw[at_ i vs σ h];dsimp only;induction hx:l[i]? with
  |none=>exact dn vs σ (Nat.le_antisymm h0 (List.getElem?_eq_none_iff.1 hx)▸h)
  |some x =>
   have q:=st i x vs σ hx h;dsimp only;induction hp:lh t (if en then .tup [.int i,x]else x) vs with
   |none=>rw[hp]at q;exact q
   |some k6 =>
    rw[hp]at q;refine Wp.bind (Wp.imp q λr σ h=>?_)
    match r with
    |(.nx,vs)=>exact ke l I at_ st dn f (i+1) vs σ (aC.1 hx).1 (abl hl) h
    |(.rt v,vs)=>exact h
theorem tx {c:Vs->bo->R V}{b:Vs->bo->RS}{A:Vs->bo->Prop}{K:V->Vs->bo->Prop}{E:bo->Prop}(I:Nat->Vs->bo->Prop)
  (st:∀m vs σ,I m vs σ->Wp (c vs σ) (λx σ=>Tw x (Wp (b vs σ) (tO (λvs σ=>∃m',m'<m/\I m' vs σ) K) E) (A vs σ)) E) :
  ∀(W m:Nat) (vs:Vs) (σ:bo),m<W->I m vs σ->Wp (oN c b W vs σ) (tO A K) E
 |0=>λm vs σ hl h=>absurd hl (oK _)
 |W+1=>λm vs σ hl h=>Wp.bind ((st m vs σ h).imp λx σ h=>by
  match x with
  |.bool af =>
   refine Wp.bind (Wp.imp h λr σ h=>?_)
   match r with
   |(.nx,vs) =>obtain⟨m',hm,h⟩:=h;exact tx I st W m' vs σ (abk hl hm) h
   |(.rt v,vs)=>exact h
  |.bool ag=>exact h
  |.none|.int _|.str _|.tup _|.lst _|.loc _=>exact h)
theorem li0 (t:Tg)(b:Vs->bo->RS)(vs:Vs)(σ:bo)(A:Vs->bo->Prop)(K:V->Vs->bo->Prop)(E:bo->Prop):Wp (jc t b [] vs σ) (tO A K) E=A vs σ:=rfl
theorem nT:(!true)=ag:=rfl
theorem nF:(!false)=af:=rfl
theorem vF (A B:Prop):(if af=af then A else B)=A:=rfl
theorem qU (A B:Prop):(if ag=af then A else B)=B:=rfl
theorem MU (A B:Prop):(if af=ag then A else B)=B:=rfl
theorem MV (A B:Prop):(if ag=ag then A else B)=A:=rfl
theorem KS (a:α)(σ:bo)(Q:α->bo->Prop)(E:bo->Prop):Wp (.ok a σ) Q E=Q a σ:=rfl
theorem PU (i:Int)(Q:Int->Prop):aI (.int i) Q=Q i:=rfl
theorem oz (i:Bool)(Q:Bool->Prop):aB (.bool i) Q=Q i:=rfl
theorem xh (i:List V)(Q:List V->Prop):aT (.tup i) Q=Q i:=rfl
theorem aLe (i:List V)(Q:List V->Prop):aL (.lst i) Q=Q i:=rfl
theorem aSe (i:Str)(Q:Str->Prop):aS (.str i) Q=Q i:=rfl
theorem qW (l:List V)(σ:bo)(Q:V->bo->Prop):cn ag l σ Q=(l.length<lim/\Q (.lst l) σ):=rfl
theorem Ie (l:List V)(σ:bo)(Q:V->bo->Prop):cn af l σ Q=(l.length<lim/\Q (.loc σ.length) (σ++[.list l])):=rfl
section
variable (σ:bo)(m:Bool)(Q:V->bo->Prop)
theorem Ig (x y:Int):cb σ .add m (.int x) (.int y) Q=Q (.int (x+y)) σ:=rfl
theorem cat (x y:List V):cb σ .add m (.tup x) (.tup y) Q=(x.length+y.length<lim/\Q (.tup (x++y)) σ):=rfl
theorem cal (x y:List V):cb σ .add m (.lst x) (.lst y) Q=cn m (x++y) σ Q:=rfl
theorem cak (n:Nat)(y:List V):cb σ .add m (.loc n) (.lst y) Q=Ls σ (.loc n) λU x=>cn m (x++y) σ Q:=rfl
theorem cas (x y:Str):cb σ .add m (.str x) (.str y) Q=(x.cps.size+y.cps.size<lim/\Q (.str ⟨x.cps++y.cps⟩) σ):=rfl
theorem Qz (x y:Int):cb σ .sub m (.int x) (.int y) Q=Q (.int (x-y)) σ:=rfl
theorem cmi (x y:Int):cb σ .mul m (.int x) (.int y) Q=((big x&&big y)=af/\Q (.int (x*y)) σ):=rfl
theorem cmt (x:List V)(y:Int):cb σ .mul m (.tup x) (.int y) Q=((y.toNat*x.length<lim/\0<=y/\y<1000)/\Q (.tup (mV x y.toNat)) σ):=rfl
theorem cml (x:List V)(y:Int):cb σ .mul m (.lst x) (.int y) Q=((y.toNat*x.length<lim/\0<=y/\y<1000)/\cn m (mV x y.toNat) σ Q):=rfl
theorem cdi (x y:Int):cb σ .fdiv m (.int x) (.int y) Q=((0<y/\y<1000000)/\Q (.int (x/y)) σ):=rfl
theorem cri (x y:Int):cb σ .mod m (.int x) (.int y) Q=(0<y/\Q (.int (x%y)) σ):=rfl
end
theorem Li   {Q:Nat->List V->Prop}(h:σ[n]?=aa (.list l))(q:Q n l):Ls σ (.loc n) Q:=by refine(?_:Gt σ[n]? _);rw[h];exact q
theorem lm (h:qR (n+1) 100000=af):n<lim:=dD h
theorem qv   (h:σ[n]?=aa (.list l)):uQ σ (.loc n)=af:=by refine(?_:(match σ[n]? with|some (.list _)=>af|_=>ag)=af);rw[h]
theorem gE (σ:bo)(o:O):(σ++[o])[σ.length]?=aa o:=cP
theorem sE (σ:bo)(o p:O):(σ++[o]).set σ.length p=σ++[p]:=by rw[CS _ _ (aO _),oB];rfl
theorem mx (h:i.natAbs<2 ^ 62):big i=af:=decide_eq_true h
theorem slt (σ:bo)(x y:Int):fe σ .lt (.int x) (.int y)=aa (decide (x<y)):=rfl
theorem sle (σ:bo)(x y:Int):fe σ .le (.int x) (.int y)=aa (decide (x<=y)):=rfl
theorem Le (σ:bo)(x y:Int):fe σ .gt (.int x) (.int y)=aa (decide (y<x)):=rfl
theorem sge (σ:bo)(x y:Int):fe σ .ge (.int x) (.int y)=aa (decide (y<=x)):=rfl
theorem q_i (x y:Int):sX (.int x) (.int y)=aa (decide (x=y)):=rfl
theorem AQ (σ:bo)(x y:Int):fe σ .eq (.int x) (.int y)=aa (decide (x=y)):=rfl
theorem QV (σ:bo)(x y:Int):fe σ .ne (.int x) (.int y)=aa (!decide (x=y)):=rfl
theorem aa1 (σ:bo)(x y:Bool):fe σ .ne (.bool x) (.bool y)=aa (!(x==y)):=rfl
theorem P9 (σ:bo)(x:V):fe σ .is x .none=aa (match x with|.none=>af|_=>ag):=rfl
theorem QZ (σ:bo)(x:V):fe σ (.r8 ()) x .none=aa (match x with|.none=>ag|_=>af):=rfl
theorem il (σ:bo)(n:Nat):uQ σ (.loc n)=match σ[n]? with
 |some (.list _)=>af
 |_=>ag:=rfl
theorem acw (σ:bo)(l:List V):items σ (.lst l)=aa l:=rfl
theorem acv (σ:bo)(l:List V):items σ (.tup l)=aa l:=rfl
theorem adv (σ:bo)(n:Nat):items σ (.loc n)=match σ[n]? with
 |some (.list l)=>aa l
 |_=>ae:=rfl
theorem adp (i:Int):nj (.int i)=aa (.int i):=rfl
theorem aaY (b:Bool):nj (.bool b)=aa (.int (if b then 1 else 0)):=rfl
theorem zQ (i:Nat)(v:V)(σ:bo):jK (.v i) v σ=iY v σ:=rfl
theorem adw (i:Nat)(v:V)(σ:bo):jK (.c i) v σ=iY v σ:=rfl
theorem JY (o:X)(i:Nat)(v:V)(σ:bo):jK (.dm o i) v σ=iY v σ:=rfl
theorem Zk (o i:X)(v:V)(σ:bo):jK (.sub o i) v σ=iY v σ:=rfl
theorem ON (o i:X)(v:V)(σ:bo):jK (.xN o i) v σ=iY v σ:=rfl
theorem acy (l:List X)(v:V)(σ:bo):jK (.tup l) v σ=iY v σ:=rfl
theorem acz (o i:X)(v:V)(σ:bo):jK (.vE o i) v σ=iY v σ:=rfl
theorem JX (l:List X)(v:V)(σ:bo):jK (.nz l) v σ=AW v σ:=rfl
theorem acA (a:X)(v:V)(σ:bo):jK (.pC a) v σ=Hy v σ:=rfl
theorem DG (l:List V)(σ:bo):iY (.lst l) σ=.ok (.items l) σ:=rfl
theorem Zh (l:List V)(σ:bo):iY (.tup l) σ=.ok (.items l) σ:=rfl
theorem DM   (i:Int)(h:σ[n]?=aa (.list l)):hU σ (.loc n) (.int i)=hU σ (.lst l) (.int i):=by refine(?_:DN σ[n]? (.int i)=_);rw[h];rfl
theorem Kf   (i:Int)(h:σ[n]?=aa (.cJ d)):hU σ (.loc n) (.int i)=j4 d i:=by refine(?_:DN σ[n]? (.int i)=_);rw[h];rfl
theorem QW (h:lI 8 (.lst l)=af)(σ:bo):fe σ .ne (.lst l) (.lst [])=aa (!l.isEmpty):=by refine(?_:(if lI 8 (.lst l)&&lI 8 (.lst [])then yY 8 (.lst l) (.lst [])else ae).map (!·)=_);rw[show lI 8 (.lst [])=af from rfl,Bool.and_true,if_pos h];induction l using List.casesOn<;>rfl
theorem NZ   (h:σ[n]?=aa (.list l))(k:lI 8 (.lst l)=af):fe σ .ne (.loc n) (.lst [])=aa (!l.isEmpty):=by rw[<- QW k σ];refine(?_:(eqD (match σ[n]? with|some (.list l)=>aa (V.lst l)|_=>ae) (aa (V.lst []))).map (!·)=_);rw[h];rfl
theorem okI:∀(l:List Int),lI 8 (.lst (l.map .int))=af
 |[]=>rfl
 |a::l=>okI l
theorem place_lt  (h0:0<=i)(h1:i<n)(hn:n<100000):place i n=aa i.toNat:=by unfold place;rw[if_neg (by rw[mx (abj h0 h1 hn)];decide),if_pos h0,if_pos (Rh h0 h1)]
theorem Z2  (σ:bo)(h0:0<=i)(h1:i<l.length)(hn:l.length<100000):hU σ (.tup l) (.int i)=l[i.toNat]?:=by refine(?_:(place i l.length).bind _=_);rw[place_lt h0 h1 hn];rfl
theorem zU  (σ:bo)(h0:0<=i)(h1:i<l.length)(hn:l.length<100000):hU σ (.lst l) (.int i)=l[i.toNat]?:=Z2 σ h0 h1 hn
theorem Fc    (x:V)(h:σ[n]?=aa (.list l))(h0:0<=i)(h1:i<l.length)(hn:l.length<100000):o8 σ (.loc n) (.int i) x=aa (σ.set n (.list (l.set i.toNat x))):=by refine(?_:IY σ n σ[n]? (.int i) x=_);rw[h];exact(if_pos h0).trans (by rw[place_lt h0 h1 hn];rfl)
theorem Q2   (i:Int)(x:V)(h:σ[n]?=aa (.cJ d))(hn:d.length<lim):o8 σ (.loc n) (.int i) x=aa (σ.set n (.cJ (nU d i x))):=by refine(?_:IY σ n σ[n]? (.int i) x=_);rw[h];exact if_pos hn
section
theorem slL (h0:0<=i)(hb:i<100000)(hl:l.length<100000)(q:Q (.lst (l.drop i.toNat)) σ):CJ ag σ (.lst l) (.int i) Q :=
 ⟨⟨h0,mx (Rg h0 hb),hl⟩,show _<100000 by rw[if_neg bq,jU];exact abi hl,q⟩
theorem shL (h0:0<=i)(hb:i<100000)(hl:l.length<100000)(q:Q (.lst (l.take i.toNat)) σ):CJ af σ (.lst l) (.int i) Q :=
 ⟨⟨h0,mx (Rg h0 hb),hl⟩,show _<100000 by rw[if_pos rfl,cv];exact abh hb,q⟩
theorem slK (h:σ[n]?=aa (.list l))(h0:0<=i)(hb:i<100000)(hl:l.length<100000)(q:Q (.lst (l.drop i.toNat)) σ):CJ ag σ (.loc n) (.int i) Q :=
 show Ls σ (.loc n) (λU l=>CJ ag σ (.lst l) (.int i) Q)from Li h (slL h0 hb hl q)
theorem slT (h0:0<=i)(hi:i.toNat<=l.length)(hl:l.length<100000)(q:Q (.tup (l.drop i.toNat)) σ):CJ ag σ (.tup l) (.int i) Q:=⟨⟨h0,hi,hl⟩,q⟩
theorem shT (h0:0<=i)(hi:i.toNat<=l.length)(hl:l.length<100000)(q:Q (.tup (l.take i.toNat)) σ):CJ af σ (.tup l) (.int i) Q:=⟨⟨h0,hi,hl⟩,q⟩
end
def tab:List (Str×Nat×Nat×Nat):=[(st "UNDEF",0,0,1),(st "NULL",0,0,1),(st "TRUE",0,0,1),(st "FALSE",0,0,1),(st "CONST",1,0,1),(st "THIS",0,0,1),(st "POP",0,1,0),(st "DUP",0,1,2),(st "DUP2",0,2,4),(st "SWAP",0,2,2),(st "ROT3",0,3,3),(st "GETLOC",3,0,1),(st "SETLOC",3,1,1),(st "GETCELL",4,0,1),(st "SETCELL",4,1,1),(st "GETUP",5,0,1),(st "SETUP",5,1,1),(st "FRESH",4,0,0),(st "GETGLOB",2,0,1),(st "TYPEGLOB",2,0,1),(st "SETGLOB",2,1,1),(st "DECLVAR",2,0,0),(st "DECLFUN",2,1,0),(st "GETPROP",2,1,1),(st "SETPROP",2,2,1),(st "GETELEM",0,2,1),(st "SETELEM",0,3,1),(st "DELPROP",2,1,1),(st "DELELEM",0,2,1),(st "DELNAME",2,0,1),(st "ADD",0,2,1),(st "SUB",0,2,1),(st "MUL",0,2,1),(st "DIV",0,2,1),(st "MOD",0,2,1),(st "SHL",0,2,1),(st "SHR",0,2,1),(st "USHR",0,2,1),(st "AND",0,2,1),(st "OR",0,2,1),(st "XOR",0,2,1),(st "EQ",0,2,1),(st "NE",0,2,1),(st "SEQ",0,2,1),(st "SNE",0,2,1),(st "LT",0,2,1),(st "GT",0,2,1),(st "LE",0,2,1),(st "GE",0,2,1),(st "IN",0,2,1),(st "INSTANCEOF",0,2,1),(st "NEG",0,1,1),(st "TONUM",0,1,1),(st "NOT",0,1,1),(st "BITNOT",0,1,1),(st "TYPEOF",0,1,1),(st "INC",0,1,1),(st "DEC",0,1,1),(st "JMP",6,0,0),(st "JF",6,1,0),(st "JT",6,1,0),(st "JFK",6,1,0),(st "JTK",6,1,0),(st "CALL",7,2,1),(st "NEW",7,1,1),(st "RET",0,1,0),(st "THROW",0,1,0),(st "CLOSURE",8,0,1),(st "NEWOBJ",0,0,1),(st "NEWARR",7,0,1),(st "HOLE",0,0,1),(st "INITPROP",2,2,1),(st "INITGET",2,2,1),(st "INITSET",2,2,1),(st "METHOD",2,1,2),(st "METHODEL",0,2,2),(st "FORIN",0,1,1),(st "NEXTIN",6,1,2),(st "GOSUB",6,0,0),(st "RETSUB",0,2,0),(st "CHECKOBJ",0,1,1),(st "TOKEY",0,2,2),(st "ROT4",0,4,4),(st "FAILSET",2,1,0),(st "REGEXP",0,2,1)]
noncomputable def Ji:List Nat:=[0,1,2,3,4,5,6,7,8,9,10,82,11,12,13,14,15,16,17,43,44,53,55,58,59,60,61,62,65,67,68,69,70,78]
def kAl:List Str:=[st "",st "k",st "s",st "l",st "c",st "u",st "t",st "n",st "f"]
def kBl:List Str:=[st "-",st "k",st "s",st "l",st "c",st "u",st "t",st "n",st "f"]
def kA (k:Nat):Str:=kAl.getD k (st "")
def kB (k:Nat):Str:=kBl.getD k (st "")
def Od (r:Str×Nat×Nat×Nat):V:=.tup [.str r.1,.str (kA r.2.1),.int r.2.2.1,.int r.2.2.2]
def xQ (r:Str×Nat×Nat×Nat):V:=.tup [.str r.1,.str (kB r.2.1),.int r.2.2.1,.int r.2.2.2]
def y4 (o:Nat):Str×Nat×Nat×Nat:=tab.getD o (st "",0,0,0)
def nm (o:Nat):Str:=(y4 o).1
def kd (o:Nat):Nat:=(y4 o).2.1
def tk (o:Nat):Nat:=(y4 o).2.2.1
def pt (o:Nat):Nat:=(y4 o).2.2.2
def fh:V:=.lst (tab.map xQ)
theorem G0:G[0]?=aa (.lst (tab.map Od)):=by rfl
theorem jD:tab.length=85:=by rfl
theorem EN {o:Nat}(h:o<85):tab[o]?=aa (y4 o):=by unfold y4;rw[bU];rw[bA (by rw[jD];exact h)];rfl
theorem gA (σ:bo){o:Nat}(h:o<85):hU σ (.lst (tab.map Od)) (.int o)=aa (Od (y4 o)):=by rw[zU σ zo (by rw[ak,jD];exact Rd h) (by rw[ak,jD];exact Jk),cg,cy,EN h];rfl
theorem gB (σ:bo){o:Nat}(h:o<85):hU σ fh (.int o)=aa (xQ (y4 o)):=by unfold fh;rw[zU σ zo (by rw[ak,jD];exact Rd h) (by rw[ak,jD];exact Jk),cg,cy,EN h];rfl
noncomputable def Nc (p:Nat->Bool):Bool:=(fG 85).all p
theorem lU {p:Nat->Bool}(h:Nc p=af){o:Nat}(ho:o<85):p o=af:=bI.1 h o (jB.2 ho)
theorem wU {o:Nat}(h:o<85):kd o<9:=of_decide_eq_true (lU (p:=λo=>decide (kd o<9)) (by decide +kernel) h)
theorem kAe:∀(k:Nat),k<9->∀(j:Nat),j<9->sX (.str (kA k)) (.str (kA j))=aa (decide (k=j)):=by decide +kernel
theorem kBe:∀(k:Nat),k<9->∀(j:Nat),j<9->sX (.str (kB k)) (.str (kB j))=aa (decide (k=j)):=by decide +kernel
theorem YV {o p:Nat}(h:o<85)(hp:p<85)(e:nm o=nm p):o=p:=by have:=lU (p:=λo=>Nc λp=>decide (nm o=nm p->o=p)) (by decide +kernel) h;exact of_decide_eq_true (lU (p:=λp=>decide (nm o=nm p->o=p)) this hp) e
theorem MJ {o:Nat}(h:o<85):(nm o).cps.all (·<0x110000)=af :=
 lU (p:=λo=>(nm o).cps.all (·<0x110000)) (by decide +kernel) h
theorem nme {o p:Nat}(h:o<85)(hp:p<85):sX (.str (nm o)) (.str (nm p))=aa (decide (o=p)):=by
 refine(?_:(if(nm o).cps.all _&&(nm p).cps.all _ then aa (decide (nm o=nm p))else ae)=_);rw[MJ h,MJ hp];refine(?_:aa (decide (nm o=nm p))=_);congr 1;by_cases e:o=p
 .subst e;rw[decide_eq_true rfl,decide_eq_true rfl]
 .rw[decide_eq_false e,decide_eq_false λq=>e (YV h hp q)]
theorem CI {c:Nat}:∀ {x y X Y:List Nat},c∉x->c∉y->x++c::X=y++c::Y->x=y/\X=Y
 |[],[],_,_,_,_,e=>⟨rfl,(eZ e).2⟩
 |[],b::y,_,_,_,h,e=>absurd ((eZ e).1▸aR) h
 |a::x,[],_,_,h,_,e=>absurd ((eZ e).1▸aR) h
 |a::x,b::y,_,_,h,h2,e=>by have:=eZ e;have q:=CI (λm=>h (bf _ m)) (λm=>h2 (bf _ m)) this.2;exact⟨by rw[this.1,q.1],q.2⟩
theorem zM (c:Nat)(x y:Str)(r:List Str):(tI ⟨#[c]⟩ (x::y::r)).cps.toList=x.cps.toList++c::(tI ⟨#[c]⟩ (y::r)).cps.toList:=by refine(?_:(x.cps++#[c]++(tI ⟨#[c]⟩ (y::r)).cps).toList=_);rw[pW,pW,aV];rfl
theorem BX {y:Str}(h:x.cps.toList=y.cps.toList):x=y:=by obtain⟨⟨a⟩⟩:=x;obtain⟨⟨b⟩⟩:=y;cases h;rfl
theorem zL (c:Nat):∀(a b:List Str),a≠[]->b≠[]->(∀p∈a,c∉p.cps.toList)->(∀p∈b,c∉p.cps.toList)->(tI ⟨#[c]⟩ a).cps.toList=(tI ⟨#[c]⟩ b).cps.toList->a=b
 |[],_=>λh U U U U=>absurd rfl h
 |_,[]=>λU h U U U=>absurd rfl h
 |[x],[y]=>λU U U U e=>congrArg (λx=>[x]) (BX e)
 |[x],y::z::r=>λU U h U e=>by rw[zM]at e;exact absurd ((e:x.cps.toList=_)▸aU _ aR) (h x aR)
 |y::z::r,[x]=>λU U U h e=>by rw[zM]at e;exact absurd ((e:_=x.cps.toList)▸aU _ aR) (h x aR)
 |x::x2::a,y::y2::b=>λU U h h2 e=>by rw[zM,zM]at e;have q:=CI (h x aR) (h2 y aR) e;rw[BX q.1,zL c (x2::a) (y2::b) (by simp) (by simp) (λp m=>h p (bf _ m)) (λp m=>h2 p (bf _ m)) q.2]
noncomputable def jl (c:Nat):List Str->List Nat
 |[]=>[]
 |[x]=>x.cps.toList
 |x::y::r=>x.cps.toList++c::jl c (y::r)
theorem MP (c:Nat):∀l:List Str,(tI ⟨#[c]⟩ l).cps.toList=jl c l
 |[]=>rfl
 |[x]=>rfl
 |x::y::r=>by rw[zM,MP c (y::r)];rfl
theorem E9 (x:Str)(c:Nat)(l:List Str)(h:(!l.isEmpty&&l.all (λp=>!p.cps.toList.contains c)&&decide (jl c l=x.cps.toList))=af):gm x ⟨#[c]⟩=l:=by
 rw[bz,bz]at h;refine zL c _ _ (λe=>?_) (λe=>?_) (StrLaws.split_free x c) (λp hp m=>?_) ?_
 .have:=PyProof.Rows.split_pos x ⟨#[c]⟩;rw[e]at this;exact absurd this (by decide)
 .rw[e]at h;exact absurd h.1.1 (by decide)
 .have:=bI.1 h.1.2 p hp;rw[List.contains_iff_mem.2 m]at this;exact absurd this (by decide)
 .rw[StrLaws.join_split,MP,of_decide_eq_true h.2]
theorem kn {c:Nat}(l:List Str)(h:((!l.isEmpty&&l.all (λp=>!p.cps.toList.contains c)&&decide (jl c l=x.cps.toList))&&(decide (x.length<2000)&&decide (l.length<2000)))=af):ju (.str x) ⟨#[c]⟩=aa (l.map V.str):=by have h:=(bz _ _)▸h;have h2:=(bz _ _)▸h.2;show(if x.length<lim/\_/\(gm x ⟨#[c]⟩).length<lim then aa ((gm x ⟨#[c]⟩).map V.str)else ae)=_;rw[E9 x c l h.1,if_pos ⟨bK (of_decide_eq_true h2.1) (by decide),rfl,bK (of_decide_eq_true h2.2) (by decide)⟩]
theorem BZ:st " "=⟨#[32]⟩:=by decide +kernel
theorem adm:st ":"=⟨#[58]⟩:=by decide +kernel
def wds:List Str:=[st "UNDEF:-01",st "NULL:-01",st "TRUE:-01",st "FALSE:-01",st "CONST:k01",st "THIS:-01",st "POP:-10",st "DUP:-12",st "DUP2:-24",st "SWAP:-22",st "ROT3:-33",st "GETLOC:l01",st "SETLOC:l11",st "GETCELL:c01",st "SETCELL:c11",st "GETUP:u01",st "SETUP:u11",st "FRESH:c00",st "GETGLOB:s01",st "TYPEGLOB:s01",st "SETGLOB:s11",st "DECLVAR:s00",st "DECLFUN:s10",st "GETPROP:s11",st "SETPROP:s21",st "GETELEM:-21",st "SETELEM:-31",st "DELPROP:s11",st "DELELEM:-21",st "DELNAME:s01",st "ADD:-21",st "SUB:-21",st "MUL:-21",st "DIV:-21",st "MOD:-21",st "SHL:-21",st "SHR:-21",st "USHR:-21",st "AND:-21",st "OR:-21",st "XOR:-21",st "EQ:-21",st "NE:-21",st "SEQ:-21",st "SNE:-21",st "LT:-21",st "GT:-21",st "LE:-21",st "GE:-21",st "IN:-21",st "INSTANCEOF:-21",st "NEG:-11",st "TONUM:-11",st "NOT:-11",st "BITNOT:-11",st "TYPEOF:-11",st "INC:-11",st "DEC:-11",st "JMP:t00",st "JF:t10",st "JT:t10",st "JFK:t10",st "JTK:t10",st "CALL:n21",st "NEW:n11",st "RET:-10",st "THROW:-10",st "CLOSURE:f01",st "NEWOBJ:-01",st "NEWARR:n01",st "HOLE:-01",st "INITPROP:s21",st "INITGET:s21",st "INITSET:s21",st "METHOD:s12",st "METHODEL:-22",st "FORIN:-11",st "NEXTIN:t12",st "GOSUB:t00",st "RETSUB:-20",st "CHECKOBJ:-11",st "TOKEY:-22",st "ROT4:-44",st "FAILSET:s10",st "REGEXP:-21"]
theorem AL {r:R α}(h:Wp r (λv U=>v=a) (λU=>False)):R.val r=aa a:=by
 induction r with
 |ok v σ=>exact congrArg aa h
 |exc σ=>exact h.elim
 |bad=>exact h.elim
theorem xb {f:V->Option Bool}{e:V->Option V}{α:Type}(g h:α->V):∀ {l:List α},(∀x∈l,f (g x)=aa af/\e (g x)=aa (h x))->iK f e (l.map g)=aa (l.map h)
 |[]=>λU=>rfl
 |a::l=>λq=>by have q1:=q a aR;have ih:=xb g h (l:=l) λx m=>q x (bf _ m);refine(?_:(match f (g a)with|some af=>_|some ag=>_|none=>_)=_);rw[q1.1];dsimp only;rw[q1.2,ih];rfl
theorem qD {f:V->Option Bool}{e:V->Option V}{α:Type}(g:α->V)(p:α->Bool):∀ {l:List α},(∀x∈l,f (g x)=aa (p x)/\e (g x)=aa (g x))->iK f e (l.map g)=aa ((l.filter p).map g)
 |[]=>λU=>rfl
 |a::l=>λq=>by
  have q1:=q a aR;have ih:=qD g p (l:=l) λx m=>q x (bf _ m);refine(?_:(match f (g a)with|some af=>_|some ag=>_|none=>_)=_);rw[q1.1];induction hp:p a with
  |true=>dsimp only;rw[q1.2,ih,dF hp];rfl
  |false=>dsimp only;rw[ih,eX (by rw[hp];exact bq)]
theorem Pc {G:List V}{e:X}
  (h:we G Φ vs E it cs σ λx σ=>Wp (jK it x σ) (λk σ=>Gt (itemsOf k σ) λl=>(gr e&&j2 ifs&&decide (l.length<lim))=af /\
   Gt (iK (λx=>match R.val (qV G Φ vs af ifs [x] σ)with|some (.bool b)=>aa b|_=>ae) (λx=>R.val (ev G Φ vs e [x] σ)) l) λys=>cn m ys σ Q) E) :
  Wp (ev G Φ vs (.comp m e it ifs) cs σ) Q E:=by
 refine Wp.bind (Wp.bind (Wp.imp (cz G Φ vs E it cs σ _ h) λx σ h=>Wp.imp h λk σ h=>?_));induction e1:itemsOf k σ with
 |none=>rw[e1]at h;exact h
 |some l =>
  rw[e1]at h;refine tH ⟨h.1,?_⟩;have h:=h.2;cases e2:iK (λx=>match R.val (qV G Φ vs af ifs [x] σ)with|some (.bool b)=>aa b|_=>ae) (λx=>R.val (ev G Φ vs e [x] σ)) l with
  |none=>rw[e2]at h;exact h
  |some ys=>rw[e2]at h;exact qE h
theorem k4 {G:List V}{e:X}
  (h:we G Φ vs E it cs σ λx σ=>Wp (jK it x σ) (λk σ=>Gt (itemsOf k σ) λl=>(gr e&&j2 ifs&&decide (l.length<lim))=af /\
   Gt (iK (λx=>match R.val (qV G Φ vs af ifs [x] σ)with|some (.bool b)=>aa b|_=>ae) (λx=>R.val (ev G Φ vs e [x] σ)) l) λys=>cn m ys σ Q) E) :
  we G Φ vs E (.comp m e it ifs) cs σ Q:=Pc h
theorem iL {G:List V}{s t:Str}{r:List S}(n:Nat)(hs:s.cps.size<=n)(ht:t.cps.size<=200)(hn:n<50000)
  (q:(⟨(s.cps.toList++t.cps.toList).toArray⟩:Str).cps.size<=n+200->iR G Φ W E r [aa (.str ⟨(s.cps.toList++t.cps.toList).toArray⟩)] σ A K):iR G Φ W E (.asg 0 (.bin .add ag (.v 0) (.k (.str t)))::r) [aa (.str s)] σ A K:=by
 have e:(s.cps.toList++t.cps.toList).toArray=s.cps++t.cps:=by rw[<- pW]
 rw[e]at q;exact⟨show _<100000 by exact X6 hs ht hn,q (by show(s.cps++t.cps).size<=_;rw[Array.size_append];exact X5 hs ht)⟩
theorem xc {G:List V}{s:Str}{r:List S}
  (q:iR G Φ W E r [aa (.str s)] σ A K):iR G Φ W E (.asg 0 (.k (.str s))::r) [ae] σ A K:=q
theorem za {G:List V}{s:Str}{e:X}{p:Str}{ws:List Str}{ys:List V}
  (h:ju (.str s) p=aa (ws.map V.str))(h2:ws.length<lim)(hp:gr e=af)
  (c:iK (λx=>match R.val (qV G Φ [aa (.str s)] af [] [x] σ)with|some (.bool b)=>aa b|_=>ae) (λx=>R.val (ev G Φ [aa (.str s)] e [x] σ)) (ws.map V.str)=aa ys)(hy:ys.length<lim)(q:K (.lst ys) [aa (.str s)] σ) :
  iR G Φ W E [.ret (.comp ag e (.split (.v 0) p) [])] [aa (.str s)] σ A K :=
 k4 (Gi h ⟨by rw[ak];exact h2,show _/\_ from⟨by rw[hp,ak,decide_eq_true h2];rfl,Gi c ⟨hy,q⟩⟩⟩)
theorem EM (d:Nat)(σ:bo)(h:Q fh σ):Wp (cl (d+1) 24 [] σ) Q E:=by
 refine call nK 1 (by kernel_rfl) (by kernel_rfl) ?_;delta nK so;refine xc ?_;have h0:(st "UNDEF:-01 NULL:-01 TRUE:-01 FALSE:-01 CONST:k01 THIS:-01 POP:-10 DUP:-12 DUP2:-24 SWAP:-22 ").cps.size<=200:=by decide +kernel
 refine iL 200 h0 (by decide +kernel) (by decide) λh0=>?_;refine iL 400 h0 (by decide +kernel) (by decide) λh0=>?_;refine iL 600 h0 (by decide +kernel) (by decide) λh0=>?_;refine iL 800 h0 (by decide +kernel) (by decide) λh0=>?_;refine iL 1000 h0 (by decide +kernel) (by decide) λh0=>?_;refine iL 1200 h0 (by decide +kernel) (by decide) λh0=>?_;refine iL 1400 h0 (by decide +kernel) (by decide) λh0=>?_;refine iL 1600 h0 (by decide +kernel) (by decide) λh0=>?_;refine iL 1800 h0 (by decide +kernel) (by decide) λh0=>?_;refine za (ws:=wds) (ys:=tab.map xQ) (by rw[BZ];exact kn wds (by decide +kernel)) (by decide +kernel) rfl ?_ (by decide +kernel) h
 kernel_rfl
theorem Fz (d:Nat)(σ:bo)(h:Q (.lst (Ji.map λo=>.str (nm o))) σ):Wp (cl (d+1) 25 [] σ) Q E:=by refine call nM 1 (by kernel_rfl) (by kernel_rfl) ?_;delta nM sq;refine xc (iL 200 (by decide +kernel) (by decide +kernel) (by decide) λh0=>?_);exact Gi (by rw[BZ];exact kn (Ji.map nm) (by decide +kernel)) ⟨by decide +kernel,h⟩
theorem IA (d:Nat)(uv:List Int)(vT m:Int)(σ:bo)(hp:∀x∈uv,0<=x)(h0:0<=vT)(h1:vT<2147483647)(hm:0<m)(hl:uv.length<100000)
  (h:∀(r:Int) (F0:List Int) (Ff:Int),0<=r->r<m->(∀x∈F0,0<=x)->0<=Ff->Ff<2147483647->F0.length<=uv.length ->
   Q (.int r) (.list (F0.map .int)::.list [.loc 0,.int Ff]::σ)) :
  Wp (cl (d+1) 23 [.loc 1,.int m] (.list (uv.map .int)::.list [.loc 0,.int vT]::σ)) Q E:=by
 have r0:∀a:Int,0<=a%m:=λa=>xn _ (abg hm);have r1:∀a:Int,a%m<m:=λa=>Int.emod_lt_of_pos _ hm;refine call ph 0 rfl rfl ?_;dsimp only[ph,vc,cY,cq,eI,eR,cj,cA,xv,dT,eU,hR,dW,dG,dw,cZ,Gs,Tb,PU,qW,d5,d6,d4,aD,ah,ai];refine Gi rfl ⟨by decide,Gi (NZ rfl (okI uv)) ?_⟩;induction uv with
 |nil =>
  have b:(big vT&&big 48271)=af:=by rw[mx (Rf h0 h1)];rfl
  exact Gi rfl ⟨b,by decide,jh (Fc _ rfl abf (Int.lt_add_one_of_le (gD 1)) (dD rfl)) rfl ⟨by decide,hm,h _ [] _ (r0 _) (r1 _) (λU h=>nomatch h) (by lia) (by lia) (aO _)⟩⟩
 |cons a l =>exact Gi rfl ⟨rfl,Gi rfl ⟨⟨show _<100000 by simpa using hl,by exact abe⟩,hm,h _ l vT (r0 _) (r1 _) (λx h=>hp x (bf _ h)) h0 h1 (jn _)⟩⟩
end Internal.Pu
end
noncomputable section
open PySem
namespace Internal.Pu
theorem jq {p:Prop}[Decidable p]{A B:Prop}(a:p->A)(b:¬p->B):if decide p=af then A else B:=by
 by_cases h:p
 .rw[if_pos (decide_eq_true h)];exact a h
 .rw[if_neg (by rw[decide_eq_false h];exact bq)];exact b h
theorem bcI {c:Bool}{A B:Prop}(a:c=af->A)(b:c=ag->B):if c=af then A else B:=by
 induction c
 .exact b rfl
 .exact a rfl
noncomputable abbrev Row:=Nat×Option Int
noncomputable def oV:Option Int->V
 |none=>.none
 |some i=>.int i
def rV (r:Row):V:=.tup [.str (nm r.1),oV r.2]
structure Hl where
 s:Nat
 e:Nat
 h:Nat
 d:Int
 f:Bool
noncomputable def ZE (h:Hl):V:=.tup [.int h.s,.int h.e,.int h.h,.int h.d,.bool h.f]
structure Bx where
 R:List Row
 L:List Int
 H:List Hl
structure Dr where
 uv:List Int
 vT:Int
structure Dr.Ok (x:Dr):Prop where
 p:∀i∈x.uv,0<=i
 s0:0<=x.vT
 s1:x.vT<2147483647
 l:x.uv.length<100000
def aan:O:=.dN [(st "rows",.loc 3),(st "labels",.loc 4),(st "handlers",.loc 5)]
noncomputable def eW (x:Dr)(γ:bo):bo:=.list (x.uv.map .int)::.list [.loc 0,.int x.vT]::γ
def gN (x:Dr)(b:Bx)(γ:bo):bo:=eW x (aan::.list (b.R.map rV)::.list (b.L.map .int)::.list (b.H.map ZE)::γ)
theorem jZ {d:Nat}{x:Dr}{m:Int}{γ:bo}{Q:V->bo->Prop}{E:bo->Prop}(hx:x.Ok)(hm:0<m)(h:∀(r:Int) (x':Dr),0<=r->r<m->x'.Ok->Q (.int r) (eW x' γ)) :
  Wp (cl (d+1) 23 [.loc 1,.int m] (eW x γ)) Q E :=
 IA d x.uv x.vT m γ hx.p hx.s0 hx.s1 hm hx.l λr p' s' h0 h1 h2 h3 h4 h5=>h r ⟨p',s'⟩ h0 h1 ⟨h2,h3,h4,cm h5 hx.l⟩
namespace Bx
noncomputable def put (b:Bx)(o:Nat)(g:Option Int):Bx:={b with R:=b.R++[(o,g)]}
noncomputable def pb (b:Bx)(l:List Row):Bx:={b with R:=b.R++l}
noncomputable def fD (b:Bx):Bx:={b with L:=b.L++[-1]}
noncomputable def here (b:Bx)(l:Nat):Bx:={b with L:=b.L.set l b.R.length}
noncomputable def x7 (b:Bx)(h:Hl):Bx:={b with H:=b.H++[h]}
end Bx
theorem gR (x:Dr)(b:Bx)(γ:bo):hU (gN x b γ) (.loc 2) (.str (st "rows"))=aa (.loc 3):=by kernel_rfl
theorem gL (x:Dr)(b:Bx)(γ:bo):hU (gN x b γ) (.loc 2) (.str (st "labels"))=aa (.loc 4):=by kernel_rfl
theorem gH (x:Dr)(b:Bx)(γ:bo):hU (gN x b γ) (.loc 2) (.str (st "handlers"))=aa (.loc 5):=by kernel_rfl
section
variable {d:Nat}{x:Dr}{b:Bx}{γ:bo}{Q:V->bo->Prop}{E:bo->Prop}
theorem Cg (o:Nat)(g:Option Int)(hl:b.R.length<5000)(h:Q .none (gN x (b.put o g) γ)):Wp (cl (d+1) 26 [.loc 2,.str (nm o),oV g] (gN x b γ)) Q E:=by refine HG rG rfl rfl ?_;refine(?_:iR G (cl d) 1000 E lR [aa (.loc 2),aa (.str (nm o)),aa (oV g)] _ _ _);dsimp only[lR,cY,cq,dX,cA,md,dT,ez,er,dw,cZ,Gs,az,aD,ah,ai];refine Gi (gR _ _ _) ⟨rfl,by decide,Li rfl ⟨show _<100000 by rw[ak];exact qh hl,?_⟩⟩;have e:(b.R++[(o,g)]).map rV=b.R.map rV++[rV (o,g)]:=bM;unfold gN Bx.put at h;rw[e]at h;exact h
theorem Jn (o:Nat)(hl:b.R.length<5000)(h:Q .none (gN x (b.put o ae) γ)):Wp (cl (d+1) 26 [.loc 2,.str (nm o)] (gN x b γ)) Q E:=by refine HG rG rfl rfl ?_;refine(?_:iR G (cl d) 1000 E lR [aa (.loc 2),aa (.str (nm o)),aa .none] _ _ _);dsimp only[lR,cY,cq,dX,cA,md,dT,ez,er,dw,cZ,Gs,az,aD,ah,ai];refine Gi (gR _ _ _) ⟨rfl,by decide,Li rfl ⟨show _<100000 by rw[ak];exact qh hl,?_⟩⟩;have e:(b.R++[(o,ae)]).map rV=b.R.map rV++[rV (o,ae)]:=bM;unfold gN Bx.put at h;rw[e]at h;exact h
theorem OD (hl:b.L.length<5000)(h:Q (.int b.L.length) (gN x b.fD γ)):Wp (cl (d+1) 27 [.loc 2] (gN x b γ)) Q E:=by
 refine call nP 0 rfl rfl ?_;dsimp only[nP,su,cY,cq,eR,cA,eQ,md,er,dG,dw,cZ,Gs,Qz,d5,d6,d4,ah];refine Gi (gL _ _ _) ⟨rfl,Li rfl ⟨show _<100000 by rw[ak];exact qh hl,?_⟩⟩;have e:(b.L++[-1]).map V.int=b.L.map V.int++[V.int (0-1)]:=bM;unfold gN Bx.fD at h;rw[e]at h;refine jh (gL x b.fD γ) rfl ⟨show(b.L.map V.int++[V.int (0-1)]).length<100000 by rw[ao,ak];show _+1<_;exact abd hl,?_⟩;have e2:(((b.L.map V.int++[V.int (0-1)]).length:Nat):Int)-1=b.L.length:=by rw[ao,ak];show((b.L.length+1:Nat):Int)-1=_;exact abc
 rw[<- e2]at h;exact h
theorem J9 (l:Nat)(hl:l<b.L.length)(h1:b.L.length<5000)(h2:b.R.length<5000)(h:Q .none (gN x (b.here l) γ)):Wp (cl (d+1) 28 [.loc 2,.int l] (gN x b γ)) Q E:=by
 refine call pn 0 rfl rfl ?_;dsimp only[pn,vf,cY,cq,cA,eQ,hR,dw,cZ,Gs,d5,d6,d4,ah,ai];refine jh (gR _ _ _) rfl ⟨show _<100000 by rw[ak];exact qh h2,jh (gL _ _ _) (Fc _ rfl zo (by rw[ak];exact Jj hl) (by rw[ak];exact qh h1)) ?_⟩;have e:(b.L.set l b.R.length).map V.int=(b.L.map V.int).set l (V.int ((b.R.map rV).length:Nat)):=by rw[BE,ak]
 unfold gN Bx.here at h;rw[e]at h;exact h
end
end Internal.Pu
end
noncomputable section
open PySem
namespace Internal.Pu
variable {cs:List V}{L' L:List Int}{bE b' b0:Bx}{β α:Type}{own:Nat->Prop}{P2 Hs3 Hs:List Hl}{vs:Vs}{v10 v6 v8 v1 v5 v7 v9 v2 v4 v3 v0:Option V}{K:V->Vs->bo->Prop}{g:Option Int}{A:Vs->bo->Prop}{kI dI fo p pc:Int}{c:List Row}{Q:V->bo->Prop}{x:Dr}{mid H N M lo j hi m o t i d:Nat}{B E:bo->Prop}{r:Row}{τ γ σ:bo}
def okW (w:Str)(r:Row):Prop:=match r.2 with
 |none=>ju (.str w) (st " ")=aa [.str (nm r.1)]
 |some i=>∃t,ju (.str w) (st " ")=aa [.str (nm r.1),.str t]/\nj (.str t)=aa (.int i)
abbrev aag (x:Str)(l:List Str):Bool:=(!l.isEmpty&&l.all (λp=>!p.cps.toList.contains 32)&&decide (jl 32 l=x.cps.toList))&&(decide (x.length<2000)&&decide (l.length<2000))
def dg (i:Nat):Str:=if i=0 then st "0" else if i=1 then st "1" else st "2"
theorem Pb (i:Nat)(h:i<3):nj (.str (dg i))=aa (.int i):=by
 match i,h with
 |0,_=>kernel_rfl
 |1,_=>kernel_rfl
 |2,_=>kernel_rfl
def sP:List (List (Str×Nat×Option Nat)) :=
 [[(st "CONST 0",4,aa 0),(st "POP",6,ae)],
  [(st "CONST 0",4,aa 0),(st "GETLOC 0",11,aa 0),(st "ADD",30,ae),(st "SETLOC 0",12,aa 0),(st "POP",6,ae)],
  [(st "HOLE",70,ae),(st "CONST 0",4,aa 0),(st "NEWARR 2",69,aa 2),(st "POP",6,ae)],
  [(st "GETGLOB 1",18,aa 1),(st "UNDEF",0,ae),(st "CONST 0",4,aa 0),(st "CALL 1",63,aa 1),(st "POP",6,ae)],
  [(st "NEWOBJ",68,ae),(st "CONST 0",4,aa 0),(st "INITPROP 1",71,aa 1),(st "POP",6,ae)],
  [(st "GETLOC 0",11,aa 0),(st "DUP",7,ae),(st "SWAP",9,ae),(st "TOKEY",81,ae),(st "GETELEM",25,ae),(st "POP",6,ae)]]
noncomputable def nk (p:Str×Nat×Option Nat):Row:=(p.2.1,p.2.2.map cM)
def Q1:Bool:=sP.all λl=>decide (l.length<=6)&&l.all λp=>decide (p.2.1<85)&&match p.2.2 with
 |none=>aag p.1 [nm p.2.1]
 |some i=>decide (i<3)&&aag p.1 [nm p.2.1,dg i]
theorem zc:Q1=af:=by decide +kernel
theorem B2 {l:List (Str×Nat×Option Nat)}(hl:l∈sP):l.length<=6:=by have h:=bI.1 zc l hl;rw[bz]at h;exact of_decide_eq_true h.1
theorem N3 {l:List (Str×Nat×Option Nat)}(hl:l∈sP):∀p∈l,okW p.1 (nk p):=by
 intro p hp;have h:=bI.1 zc l hl;rw[bz]at h;have h:=bI.1 h.2 p hp;rw[bz]at h;obtain⟨w,o,g⟩:=p;induction g with
 |none =>refine(?_:ju (.str w) (st " ")=_);rw[BZ];exact kn [nm o] h.2
 |some i =>have h2:=h.2;rw[bz]at h2;refine⟨dg i,?_,Pb i (of_decide_eq_true h2.1)⟩;rw[BZ];exact kn [nm o,dg i] h2.2
theorem zw (b:Bx):b.pb []=b:=by delta Bx.pb;rw[aP]
theorem wI (b:Bx)(r:Row)(l:List Row):b.pb (r::l)=(b.put r.1 r.2).pb l:=by delta Bx.pb Bx.put;dsimp only;rw[aV];rfl
def BR:List S:=[.asg 5 (.split (.v 4) (st " ")),
  .expr (.call 26 [.v 1,.sub (.v 5) (.k (.int 0)),.ite (.cmp (.len (.v 5)) [.gt] [.k (.int 1)]) (.k7 (.sub (.v 5) (.k (.int 1)))) (.k (.none))])]
theorem yH {d:Nat}{x:Dr}{A:Vs->bo->Prop}{K:V->Vs->bo->Prop}{E:bo->Prop}{γ:bo}{v0 v2 v3:Option V}:∀(l:List (Str×Nat×Option Nat)) (b:Bx) (a c:Option V),
  (∀p∈l,okW p.1 (nk p))->b.R.length+l.length<5000->(∀a c,A [v0,aa (.loc 2),v2,v3,a,c] (gN x (b.pb (l.map nk)) γ)) ->
  Wp (jc (.n 4) (λvs σ=>l5 G (cl (d+1)) 1000 BR vs σ) (l.map λp=>.str p.1) [v0,aa (.loc 2),v2,v3,a,c] (gN x b γ)) (tO A K) E
 |[]=>λb a c U U h=>by have:=h a c;rw[s9,zw]at this;exact this
 |p::l=>λb a c hw hn h=>by
  have ih:=yH (d:=d) (x:=x) (A:=A) (K:=K) (E:=E) (γ:=γ) (v0:=v0) (v2:=v2) (v3:=v3) l (b.put (nk p).1 (nk p).2);have hp:=hw p aR;rw[az]at hn;have hn1:(b.put (nk p).1 (nk p).2).R.length=b.R.length+1:=ao;have key:∀c',Wp (cl (d+1) 26 [.loc 2,.str (nm (nk p).1),oV (nk p).2] (gN x b γ)) (λU σ=>tO (λvs σ=>Wp (jc (.n 4) (λvs σ=>l5 G (cl (d+1)) 1000 BR vs σ) (l.map λp=>.str p.1) vs σ) (tO A K) E) K (.nx,[v0,aa (.loc 2),v2,v3,aa (.str p.1),aa c']) σ) E:=λc'=>by refine Cg _ _ (aba hn) ?_;refine ih _ _ (λq hq=>hw q (bf _ hq)) (by rw[hn1];exact aa9 hn) λa c=>?_;have:=h a c;rw[eN,wI]at this;exact this
  refine Wp.bind (Wp.imp (fF _ _ _ _ _ _ _ (λvs σ=>Wp (jc (.n 4) (λvs σ=>l5 G (cl (d+1)) 1000 BR vs σ) (l.map λp=>.str p.1) vs σ) (tO A K) E) K ?_) λq σ h=>?_)
  .delta BR;dsimp only[cY,cq,cj,jb,cA,dz,eQ,yJ,Ez,dT,ez,eU,er,ew,dw,cZ,Gs,Tb,qW,Le,acw,ah,ai,aF,aG];delta okW at hp;induction hg:(nk p).2 with
   |none =>rw[hg]at hp;refine Gi hp ⟨lm rfl,Gi rfl ⟨lm rfl,?_⟩⟩;have k:=key (.lst [.str (nm (nk p).1)]);rw[hg]at k;exact k
   |some i =>rw[hg]at hp;obtain⟨t,h1,h2⟩:=hp;refine Gi h1 ⟨lm rfl,Gi rfl ⟨lm rfl,Gi h2 ?_⟩⟩;have k:=key (.lst [.str (nm (nk p).1),.str t]);rw[hg]at k;exact k
  .match q with
   |(.nx,vs)=>exact h
   |(.rt v,vs)=>exact h
theorem wt  {b:Bx}(hx:x.Ok)(hb:b.R.length<4000)
  (h:∀x' l yE,x'.Ok->l∈sP->Q .none (gN x' (b.pb (l.map nk)) yE)):Wp (cl (d+2) 29 [.loc 1,.loc 2] (gN x b γ)) Q E:=by
 refine call mi 4 rfl rfl ?_;dsimp only[mi,qL,cY,cq,eI,eR,cA,dz,md,dT,ez,er,ew,fH,dw,cZ,Gs,cak,qW,Ie,Zk,d5,d6,d4,gu,az,aD,ah,ai,aF,aG];refine jZ hx (by decide) λr x' h0 h1 H6=>⟨lm rfl,lm rfl,lm rfl,qv (gE _ _),lm rfl,Li (gE _ _) ⟨lm rfl,?_⟩⟩;rw[sE];refine⟨lm rfl,lm rfl,lm rfl,Li (gE _ _) ⟨lm rfl,qv (gE _ _),lm rfl,Li (gE _ _) ⟨lm rfl,?_⟩⟩⟩;rw[sE];have hP:∀(σ:bo) (n:Nat),σ[n]?=aa (.list (sP.map λl=>.lst (l.map λp=>.str p.1)))->∃l,l∈sP/\hU σ (.loc n) (.int r)=aa (.lst (l.map λp=>.str p.1)):=by
  intro σ n hn;have hr:r.toNat<sP.length:=show _<6 by exact YH h1
  rw[DM _ hn,zU σ h0 (by rw[ak];show _<6;exact h1) (by decide),cy,bA hr];exact⟨_,vr hr,rfl⟩
 obtain⟨l,hl,e⟩:=hP _ _ (gE _ _);have hs:=B2 hl;refine Gi e ?_;exact yH (x:=x') (A:=λU σ=>Q .none σ) (K:=λv U σ=>Q v σ) (γ:=γ++[_]++[_]) l b _ _ (N3 hl) (YG hb hs) λa c=>h x' l _ H6 hl
noncomputable def cost:Nat->Nat
 |0=>6
 |k+1=>2*cost k+10
structure Bd (b:Bx)(n:Nat):Prop where
 r:b.R.length<=n
 l:b.L.length<=n
 h:b.H.length<=n
section
variable {b:Bx}{n:Nat}
theorem Bd.put (h:Bd b n)(o:Nat)(g:Option Int):Bd (b.put o g) (n+1):=⟨by have:=h.r;show(b.R++[_]).length<=_;rw[ao];exact gn this,eu h.l,eu h.h⟩
theorem Bd.pb (h:Bd b n){l:List (Str×Nat×Option Nat)}(hl:l∈sP):Bd (b.pb (l.map nk)) (n+6) :=
 ⟨by have:=h.r;have:=B2 hl;show(b.R++_).length<=_;rw[ao,ak];exact YF (by assumption) this,aQ h.l (j7 _ _),aQ h.h (j7 _ _)⟩
theorem Bd.fD (h:Bd b n):Bd b.fD (n+1):=⟨eu h.r,by have:=h.l;show(b.L++[_]).length<=_;rw[ao];exact gn this,eu h.h⟩
theorem Bd.here (h:Bd b n)(l:Nat):Bd (b.here l) n:=⟨h.r,by have:=h.l;show(b.L.set _ _).length<=_;rw[bD];exact this,h.h⟩
theorem Bd.x7 (h:Bd b n)(l:Hl):Bd (b.x7 l) (n+1):=⟨eu h.r,eu h.l,by have:=h.h;show(b.H++[_]).length<=_;rw[ao];exact gn this⟩
theorem Bd.le (h:Bd b n)(q:n<=m):Bd b m:=⟨aQ h.r q,aQ h.l q,aQ h.h q⟩
end
noncomputable def l0 (b:Bx):Nat:=b.L.length
noncomputable def l1 (b:Bx):Nat:=b.fD.L.length
noncomputable def l2 (b:Bx):Nat:=b.fD.fD.L.length
noncomputable def l3 (b:Bx):Nat:=b.fD.fD.fD.L.length
def tA (b:Bx):Bx:=((b.fD.fD.fD.here (l0 b)).put 11 (aa 0)).put 59 (aa (l1 b))
def tB (lp:Bool)(b b2:Bx):Bx:=(b2.put 58 (aa (if lp then l0 b else l2 b:Nat))).here (l1 b)
def Qh (b:Bx):Bx:=(((((b.fD.fD.put 11 (aa 0)).put 76 ae).here (l0 b)).put 77 (aa (l1 b))).put 12 (aa 0)).put 6 ae
def kyB (b b2:Bx):Bx:=((b2.put 58 (aa (l0 b))).here (l1 b)).put 6 ae
def M5 (b:Bx):Bx:=b.fD.fD.fD.fD.here (l0 b)
def m5 (b b2:Bx):Bx:=((b2.put 18 (aa 1)).put 6 ae).here (l1 b)
def grC (fin:Bool)(b b2:Bx):Bx:=(((if fin then(m5 b b2).put 78 (aa (l2 b))else m5 b b2)).put 58 (aa (l3 b))).here (l2 b)
def Ei (fin:Bool)(b b2:Bx):Bx:=if fin then grC fin b b2 else((grC fin b b2).put 12 (aa 0)).put 6 ae
def grE (fin:Bool)(dp:Nat)(b b7:Bx):Bx:=((if fin then b7.put 79 ae else b7).here (l3 b)).x7 ⟨l0 b,l1 b,l2 b,dp,fin⟩
def cnB (j:Nat)(b:Bx):Bx:=((((b.fD.put 11 (aa 0)).put j (aa (l0 b))).put 4 (aa 0)).here (l0 b)).put 6 ae
noncomputable def otB (j:Nat)(b:Bx):Bx:=(b.put 4 (aa 0)).put j ae
inductive Gn:Nat->Nat->Bx->Bx->Prop
 |sim {dp k b l} (h:l∈sP):Gn dp k b (b.pb (l.map nk))
 |lop {dp k b b2} (h:Gn dp k (tA b) b2):Gn dp (k+1) b ((tB af b b2).here (l2 b))
 |iff {dp k b b2 b3} (h:Gn dp k (tA b) b2) (h2:Gn dp k (tB ag b b2) b3):Gn dp (k+1) b (b3.here (l2 b))
 |key {dp k b b2} (h:Gn (dp+1) k (Qh b) b2):Gn dp (k+1) b (kyB b b2)
 |Z4 {dp k b b2 b7} (fin:Bool) (h:Gn dp k (M5 b) b2) (h2:Gn (dp+if fin then 2 else 0) k (Ei fin b b2) b7):Gn dp (k+1) b (grE fin dp b b7)
 |cnd {dp k b} (j:Nat) (h:j=61\/j=62):Gn dp (k+1) b (cnB j b)
 |out {dp k b} (j:Nat) (h:j=65\/j=66):Gn dp (k+1) b (otB j b)
section
variable {b b2:Bx}{n:Nat}
theorem Lb (h:Bd b n):Bd (tA b) (n+5):=((h.fD.fD.fD.here _).put _ _).put _ _
theorem K9 (lp:Bool)(h:Bd b2 n):Bd (tB lp b b2) (n+1):=(h.put _ _).here _
theorem OF (h:Bd b n):Bd (Qh b) (n+7):=(((((h.fD.fD.put _ _).put _ _).here _).put _ _).put _ _).put _ _
theorem OE (h:Bd b2 n):Bd (kyB b b2) (n+2):=((h.put _ _).here _).put _ _
theorem O3 (h:Bd b n):Bd (M5 b) (n+4):=h.fD.fD.fD.fD.here _
theorem G8 (h:Bd b2 n):Bd (m5 b b2) (n+2):=((h.put _ _).put _ _).here _
theorem G7 (fin:Bool)(h:Bd b2 n):Bd (grC fin b b2) (n+if fin then 4 else 3):=by
 induction fin
 .exact((G8 h).put _ _).here _
 .exact(((G8 h).put _ _).put _ _).here _
theorem O1 (fin:Bool)(h:Bd b2 n):Bd (Ei fin b b2) (n+if fin then 4 else 5):=by
 induction fin
 .exact((G7 ag h).put _ _).put _ _
 .exact G7 af h
theorem O0 (fin:Bool)(dp:Nat)(h:Bd b2 n):Bd (grE fin dp b b2) (n+if fin then 2 else 1):=by
 induction fin
 .exact(h.here _).x7 _
 .exact((h.put _ _).here _).x7 _
end
theorem HC:∀k,6<=cost k
 |0=>aO _
 |k+1=>by show 6<=2*cost k+10;exact YE
theorem Gn.bd {dp k:Nat}{b:Bx}(h:Gn dp k b b'):∀ {n},Bd b n->Bd b' (n+cost k):=by
 induction h with
 |sim h=>exact λq=>(q.pb h).le (i3 (HC _) _)
 |lop h ih=>exact λ{n} q=>((K9 af (ih (Lb q))).here _).le (by show n+5+cost _+1<=n+(2*cost _+10);exact YD)
 |iff h h2 ih Bg=>exact λ{n} q=>((Bg (K9 ag (ih (Lb q)))).here _).le (by show n+5+cost _+1+cost _<=n+(2*cost _+10);exact YC)
 |key h ih=>exact λ{n} q=>(OE (ih (OF q))).le (by show n+7+cost _+2<=n+(2*cost _+10);exact YB)
 |Z4 fin h h2 ih Bg =>
  exact λ{n} q=>by
   refine(O0 fin _ (Bg (O1 fin (ih (O3 q))))).le ?_;induction fin
   .show n+4+cost _+5+cost _+1<=n+(2*cost _+10);exact YA
   .show n+4+cost _+4+cost _+2<=n+(2*cost _+10);exact Yz
 |cnd j h=>exact λ{n} q=>(((((q.fD.put _ _).put _ _).put _ _).here _).put _ _).le (by show n+5<=n+(2*cost _+10);exact Yy)
 |out j h=>exact λ{n} q=>((q.put _ _).put _ _).le (by show n+2<=n+(2*cost _+10);exact Yx)
theorem n11:nm 11=st "GETLOC":=rfl
theorem n59:nm 59=st "JF":=rfl
theorem YX:nm 58=st "JMP":=rfl
theorem n76:nm 76=st "FORIN":=rfl
theorem n77:nm 77=st "NEXTIN":=rfl
theorem n12:nm 12=st "SETLOC":=rfl
theorem n6:nm 6=st "POP":=rfl
theorem n18:nm 18=st "GETGLOB":=rfl
theorem n78:nm 78=st "GOSUB":=rfl
theorem n79:nm 79=st "RETSUB":=rfl
theorem n4:nm 4=st "CONST":=rfl
theorem n0:nm 0=st "UNDEF":=rfl
theorem n61:nm 61=st "JFK":=rfl
theorem n62:nm 62=st "JTK":=rfl
theorem n65:nm 65=st "RET":=rfl
theorem n66:nm 66=st "THROW":=rfl
section
variable {b:Bx}{n:Nat}
theorem put3 {s:Str}(o:Nat)(g:Option Int)(e:nm o=s)(hl:Bd b n)(hn:n<5000)(h:Bd (b.put o g) (n+1)->Q .none (gN x (b.put o g) γ)):Wp (cl (d+1) 26 [.loc 2,.str s,oV g] (gN x b γ)) Q E:=by rw[<- e];exact Cg o g (cm hl.r hn) (h (hl.put _ _))
theorem put2 {s:Str}(o:Nat)(e:nm o=s)(hl:Bd b n)(hn:n<5000)(h:Bd (b.put o ae) (n+1)->Q .none (gN x (b.put o ae) γ)):Wp (cl (d+1) 26 [.loc 2,.str s] (gN x b γ)) Q E:=by rw[<- e];exact Jn o (cm hl.r hn) (h (hl.put _ _))
theorem vW (hl:Bd b n)(hn:n<5000)(h:Bd b.fD (n+1)->Q (.int (b.L.length:Nat)) (gN x b.fD γ)):Wp (cl (d+1) 27 [.loc 2] (gN x b γ)) Q E :=
 OD (cm hl.l hn) (h hl.fD)
theorem kG (l:Nat)(hl:Bd b n)(hn:n<5000)(q:l<b.L.length)(h:Bd (b.here l) n->Q .none (gN x (b.here l) γ)):Wp (cl (d+1) 28 [.loc 2,.int l] (gN x b γ)) Q E :=
 J9 l q (cm hl.l hn) (cm hl.r hn) (h (hl.here l))
end
def KU (k:Nat):Prop:=∀(d:Nat) (x:Dr) (b:Bx) (γ:bo) (dp n:Nat) (dI kI:Int) (Q:V->bo->Prop) (E:bo->Prop),x.Ok->Bd b n->n+cost k<4000->dI=dp->kI=k ->
 (∀x' b' yE,x'.Ok->Gn dp k b b'->Bd b' (n+cost k)->Q .none (gN x' b' yE))->Wp (cl (d+2*k+3) 30 [.loc 1,.loc 2,.int dI,.int kI] (gN x b γ)) Q E
theorem Gn.DF {dp k:Nat}{b:Bx}(h:Gn dp k b b'):b.L.length<=b'.L.length:=by
 induction h with
 |sim h=>exact aO _
 |lop h ih =>
  refine aQ (aQ ?_ ih) ?_
  .refine(?_:_<=(((_++[_])++[_]++[_]).set _ _).length);rw[bD,ao,ao,ao];exact MB
  .refine(?_:_<=((i5 _ _ _).set _ _).length);rw[bD,bD];exact aO _
 |iff h h2 ih Bg =>
  refine aQ (aQ ?_ ih) (aQ (aQ ?_ Bg) ?_)
  .refine(?_:_<=(((_++[_])++[_]++[_]).set _ _).length);rw[bD,ao,ao,ao];exact MB
  .refine(?_:_<=(i5 _ _ _).length);rw[bD];exact aO _
  .refine(?_:_<=(i5 _ _ _).length);rw[bD];exact aO _
 |key h ih =>
  refine aQ (aQ ?_ ih) ?_
  .refine(?_:_<=(((_++[_])++[_]).set _ _).length);rw[bD,ao,ao];exact Yw
  .refine(?_:_<=(i5 _ _ _).length);rw[bD];exact aO _
 |Z4 fin h h2 ih Bg =>
  refine aQ (aQ ?_ ih) (aQ (aQ ?_ Bg) ?_)
  .refine(?_:_<=((((_++[_])++[_]++[_])++[_]).set _ _).length);rw[bD,ao,ao,ao,ao];exact Yv
  .induction fin
   .refine(?_:_<=((i5 _ _ _).set _ _).length);rw[bD,bD];exact aO _
   .refine(?_:_<=((i5 _ _ _).set _ _).length);rw[bD,bD];exact aO _
  .induction fin
   .refine(?_:_<=(i5 _ _ _).length);rw[bD];exact aO _
   .refine(?_:_<=(i5 _ _ _).length);rw[bD];exact aO _
 |cnd j h =>refine(?_:_<=((_++[_]).set _ _).length);rw[bD,ao];exact Yu
 |out j h=>exact aO _
section
theorem dB (b:Bx):b.fD.L.length=b.L.length+1:=ao
theorem gK (b:Bx)(l:Nat):(b.here l).L.length=b.L.length:=bD
theorem Gx (b:Bx):l1 b=b.L.length+1:=dB b
theorem H4 (b:Bx):l2 b=b.L.length+2:=by unfold l2;rw[dB,dB]
theorem l3e (b:Bx):l3 b=b.L.length+3:=by unfold l3;rw[dB,dB,dB]
theorem EP (b:Bx):(tA b).L.length=b.L.length+3:=by refine(?_:((b.fD.fD.fD).here _).L.length=_);rw[gK,dB,dB,dB]
theorem Gz (b:Bx):(Qh b).L.length=b.L.length+2:=by refine(?_:((b.fD.fD.put _ _).put _ _ |>.here _).L.length=_);rw[gK];refine(?_:b.fD.fD.L.length=_);rw[dB,dB]
theorem G9 (b:Bx):(M5 b).L.length=b.L.length+4:=by refine(?_:((b.fD.fD.fD.fD).here _).L.length=_);rw[gK,dB,dB,dB,dB]
theorem EO (lp:Bool)(b b2:Bx):(tB lp b b2).L.length=b2.L.length:=gK _ _
theorem G6 (fin:Bool)(b b2:Bx):(Ei fin b b2).L.length=b2.L.length:=by
 induction fin
 .refine(?_:(i5 (i5 _ _ _) _ _).length=_);rw[bD,bD];rfl
 .refine(?_:(i5 (i5 _ _ _) _ _).length=_);rw[bD,bD];rfl
variable {k:Nat}{b:Bx}{dp n:Nat}
theorem Iz (ih:KU k)(lp:Bool)(hx:x.Ok)(hb:Bd b n)(hn:n+cost (k+1)<4000)(hd:dI=dp)(hk:kI=(k+1:Nat))
  (h:∀x' b' yE,x'.Ok->Gn dp (k+1) b b'->Q .none (gN x' b' yE)):Wp (cl (d+2*k+4) 31 [.loc 1,.loc 2,.int dI,.int kI,.bool lp] (gN x b γ)) Q E:=by
 have hc:n+(2*cost k+10)<4000:=hn;refine call pg 3 rfl rfl ?_;dsimp only[pg,vb,cY,cq,dX,eR,ja,jb,dz,dT,ez,er,fJ,dW,dw,cZ,mS,i8,i7,Gs,Tb,oz,xh,Qz,d5,d6,d4,gu,az,aD,ah,ai,aF,aG];refine vW hb (zv hn) λhb=>vW hb (wH hn) λhb=>vW hb (zu hn) λhb=>⟨lm rfl,rfl,?_⟩;refine kG _ hb (wG hn) (by rw[dB,dB,dB];exact Yt) λhb=>?_;refine put3 11 (aa 0) n11 hb (wG hn) λhb=>put3 59 (aa (l1 b)) n59 hb (rX hn) λhb=>?_;refine ih d x (tA b) γ dp _ dI (kI-1) _ _ hx hb (Ys hn hc) hd (wF hk) λx2 b2 Nj rz g2 Eg=>?_;have e2:b.L.length+3<=b2.L.length:=EP b▸g2.DF;induction lp with
 |true =>rw[if_pos rfl];refine put3 58 (aa (l0 b)) YX Eg (MA hn hc) λhb=>?_;refine kG (l1 b) hb (FU hn hc) (by show l1 b<b2.L.length;rw[Gx];exact Mz e2) λhb=>?_;refine kG (l2 b) hb (FU hn hc) (by show l2 b<(tB af b b2).L.length;rw[H4,EO];exact Yr e2) λhb=>?_;exact h _ _ _ rz (.lop g2)
 |false =>rw[if_neg bq];refine put3 58 (aa (l2 b)) YX Eg (MA hn hc) λhb=>?_;refine kG (l1 b) hb (FU hn hc) (by show l1 b<b2.L.length;rw[Gx];exact Mz e2) λhb=>?_;refine ih d x2 (tB ag b b2) Nj dp _ dI (kI-1) _ _ rz hb (Yq hc) hd (wF hk) λx3 b3 γ3 Bi g3 ZO=>?_;have e3:b2.L.length<=b3.L.length:=EO ag b b2▸g3.DF;refine kG (l2 b) ZO (Yp hc) (by rw[H4];exact Yo e2 e3) λhb=>?_;exact h _ _ _ Bi (.iff g2 g3)
theorem JO (ih:KU k)(hx:x.Ok)(hb:Bd b n)(hn:n+cost (k+1)<4000)(hd:dI=dp)(hk:kI=(k+1:Nat))
  (h:∀x' b' yE,x'.Ok->Gn dp (k+1) b b'->Q .none (gN x' b' yE)):Wp (cl (d+2*k+4) 32 [.loc 1,.loc 2,.int dI,.int kI] (gN x b γ)) Q E:=by
 have hc:n+(2*cost k+10)<4000:=hn;refine call uV 2 rfl rfl ?_;refine vW hb (zv hn) λhb=>vW hb (wH hn) λhb=>⟨lm rfl,rfl,?_⟩;refine put3 11 (aa 0) n11 hb (zu hn) λhb=>put2 76 n76 hb (wG hn) λhb=>?_;refine kG (l0 b) hb (rX hn) (by show l0 b<b.fD.fD.L.length;rw[dB,dB];show b.L.length<_;exact Yn) λhb=>?_;refine put3 77 (aa (l1 b)) n77 hb (rX hn) λhb=>put3 12 (aa 0) n12 hb (Ym hn) λhb=>put2 6 n6 hb (Yl hn) λhb=>?_;refine ih d x (Qh b) γ (dp+1) _ (dI+1) (kI-1) _ _ hx hb (Yk hc) (Yj hd) (wF hk) λx2 b2 Nj rz g2 Eg=>?_;have e2:b.L.length+2<=b2.L.length:=Gz b▸g2.DF;refine put3 58 (aa (l0 b)) YX Eg (Yi hn hc) λhb=>?_;refine kG (l1 b) hb (My hn hc) (by show l1 b<b2.L.length;rw[Gx];exact Yg e2) λhb=>?_;exact put2 6 n6 hb (My hn hc) λhb=>h _ _ _ rz (.key g2)
theorem GU {P:bo->Prop}(l0 l1 l2:Nat)(fin:Bool)(hb:Bd b n)(hn:n<5000)(hd:dI=dp)(hm:qR (m+1) 100000=af)(h:P (gN x (b.x7 ⟨l0,l1,l2,dp,fin⟩) γ)) :
  Gt (hU (gN x b γ) (.loc 2) (.str (st "handlers"))) λz=>uQ (gN x b γ) z=af/\m<lim/\Ls (gN x b γ) z λn l=>l.length<lim/\P ((gN x b γ).set n (.list (l++[.tup [.int l0,.int l1,.int l2,.int dI,.bool fin]]))):=by
 refine Gi (gH _ _ _) ⟨rfl,lm hm,Li rfl ⟨show _<100000 by have:=hb.h;rw[ak];exact Ye hn this,?_⟩⟩;have e:(b.H++[(⟨l0,l1,l2,dp,fin⟩:Hl)]).map ZE=b.H.map ZE++[ZE ⟨l0,l1,l2,dp,fin⟩]:=bM;unfold gN Bx.x7 at h;rw[e]at h;subst hd;exact h
theorem OZ (ih:KU k)(fin:Bool)(hx:x.Ok)(hb:Bd b n)(hn:n+cost (k+1)<4000)(hd:dI=dp)(hk:kI=(k+1:Nat))
  (h:∀x' b' yE,x'.Ok->Gn dp (k+1) b b'->Q .none (gN x' b' yE)):Wp (cl (d+2*k+4) 33 [.loc 1,.loc 2,.int dI,.int kI,.bool fin] (gN x b γ)) Q E:=by
 have hc:n+(2*cost k+10)<4000:=hn;refine call lD 4 rfl rfl ?_;dsimp only[lD,oW,cZ,fJ,cY,cq,dX,eR,ja,cA,dz,yJ,md,dT,ez,er,fJ,dW,dw,cZ,mS,i8,i7,Gs,Tb,oz,xh,Ig,Qz,cmi,aaY,d5,d6,d4,gu,az,aD,ah,ai,aF,aG];refine vW hb (zv hn) λhb=>vW hb (wH hn) λhb=>vW hb (zu hn) λhb=>vW hb (wG hn) λhb=>⟨lm rfl,rfl,?_⟩;refine kG (l0 b) hb (rX hn) (by show l0 b<b.fD.fD.fD.fD.L.length;rw[dB,dB,dB,dB];show b.L.length<_;exact Yc) λhb=>?_;refine ih d x (M5 b) γ dp _ dI (kI-1) _ _ hx hb (Yb hn hc) hd (wF hk) λx2 b2 Nj rz g2 Eg=>?_;have e2:b.L.length+4<=b2.L.length:=G9 b▸g2.DF;refine put3 18 (aa 1) n18 Eg (X9 hn hc) λhb=>put2 6 n6 hb (X8 hn hc) λhb=>?_;refine kG (l1 b) hb (FT hn hc) (by show l1 b<b2.L.length;rw[Gx];exact X7 e2) λhb=>?_;induction fin with
 |true =>rw[if_pos rfl];refine put3 78 (aa (l2 b)) n78 hb (FT hn hc) λhb=>put3 58 (aa (l3 b)) YX hb (FR hn hc) λhb=>?_;refine kG (l2 b) hb (Mx hn hc) (by show l2 b<(m5 b b2).L.length;unfold m5;rw[gK,H4];show _<b2.L.length;exact Mw e2) λhb=>?_;refine⟨rfl,?_⟩;refine ih d x2 (Ei af b b2) Nj (dp+2) _ (dI+2*1) (kI-1) _ _ rz hb (X4 hc) (X3 hd) (wF hk) λx3 b3 γ3 Bi g3 ZO=>?_;have e3:b2.L.length<=b3.L.length:=G6 af b b2▸g3.DF;refine put2 79 n79 ZO (X2 hc) λhb=>kG (l3 b) hb (Mv hc) (by show l3 b<b3.L.length;rw[l3e];exact Mu e2 e3) λhb=>?_;exact GU (P:=λσ=>Q .none σ) (l0 b) (l1 b) (l2 b) af hb (Mv hc) hd rfl (h _ _ _ Bi (.Z4 af g2 g3))
 |false =>rw[if_neg bq];refine put3 58 (aa (l3 b)) YX hb (FT hn hc) λhb=>?_;refine kG (l2 b) hb (FR hn hc) (by show l2 b<(m5 b b2).L.length;unfold m5;rw[gK,H4];show _<b2.L.length;exact Mw e2) λhb=>?_;refine put3 12 (aa 0) n12 hb (FR hn hc) λhb=>put2 6 n6 hb (Mx hn hc) λhb=>⟨rfl,?_⟩;refine ih d x2 (Ei ag b b2) Nj dp _ (dI+2*0) (kI-1) _ _ rz hb (X1 hc) (X0 hd) (wF hk) λx3 b3 γ3 Bi g3 ZO=>?_;have e3:b2.L.length<=b3.L.length:=G6 ag b b2▸g3.DF;refine kG (l3 b) ZO (Mt hc) (by rw[l3e];exact Mu e2 e3) λhb=>?_;exact GU (P:=λσ=>Q .none σ) (l0 b) (l1 b) (l2 b) ag hb (Mt hc) hd rfl (h _ _ _ Bi (.Z4 ag g2 g3))
theorem EJ {j:Int}(h:0<=j)(h2:j<2):j=0\/j=1:=by exact XZ h h2
theorem QU:∀k:Nat,KU k:=by
 intro k;induction k with
 |zero =>intro d x b γ dp n dI kI Q E hx hb hn hd hk h;have hc:n+6<4000:=hn;refine call iN 2 rfl rfl ?_;subst hk;refine wt hx (cm hb.r (XY hc)) λx2 l Nj rz hl=>h _ _ _ rz (.sim hl) (hb.pb hl)
 |succ k ih =>
  intro d x b γ dp n dI kI Q E hx hb hn hd hk h;have hc:n+(2*cost k+10)<4000:=hn;have h:∀x' b' yE,x'.Ok->Gn dp (k+1) b b'->Q .none (gN x' b' yE):=λx' b' yE hx g=>h x' b' yE hx g (g.bd hb);refine call iN 2 rfl rfl ?_;dsimp only[iN,mM,cY,cq,eI,cj,jb,cA,dz,dT,ez,eU,er,ew,dW,dw,cZ,Gs,Tb,qW,slt,Le,AQ,d5,d6,d4,gu,az,aD,ah,ai,aF,aG];rw[if_pos (decide_eq_true (show 0<kI by exact XX hk))];refine jZ hx (by decide) λr x1 h0 h1 rA=>?_;refine jq (λh2=>?_) λh2=>jq (λh3=>?_) λh3=>jq (λh4=>?_) λh4=>jq (λh5=>?_) λh5=>jq (λh6=>?_) λh6=>?_
  .exact wt rA (cm hb.r (XW hn)) λx2 l Nj rz hl=>h _ _ _ rz (.sim hl)
  .exact Iz ih _ rA hb hn hd hk h
  .exact JO ih rA hb hn hd hk h
  .exact OZ ih _ rA hb hn hd hk h
  .refine vW hb (zv hn) λhb=>put3 11 (aa 0) n11 hb (wH hn) λhb=>⟨lm rfl,jZ rA (by decide) λj x2 j0 j1 rz=>?_⟩;have e:=EJ j0 j1;refine e.elim (λe=>?_) (λe=>?_)
   .subst e;refine Gi rfl (put3 61 (aa (l0 b)) n61 hb (zu hn) λhb=>put3 4 (aa 0) n4 hb (wG hn) λhb=>kG (l0 b) hb (rX hn) (by show b.L.length<b.fD.L.length;rw[dB];exact Ms) λhb=>?_);exact put2 6 n6 hb (rX hn) λhb=>h _ _ _ rz (.cnd 61 (.inl rfl))
   .subst e;refine Gi rfl (put3 62 (aa (l0 b)) n62 hb (zu hn) λhb=>put3 4 (aa 0) n4 hb (wG hn) λhb=>kG (l0 b) hb (rX hn) (by show b.L.length<b.fD.L.length;rw[dB];exact Ms) λhb=>?_);exact put2 6 n6 hb (rX hn) λhb=>h _ _ _ rz (.cnd 62 (.inr rfl))
  .refine put3 4 (aa 0) n4 hb (zv hn) λhb=>⟨lm rfl,jZ rA (by decide) λj x2 j0 j1 rz=>?_⟩;refine(EJ j0 j1).elim (λe=>?_) (λe=>?_)
   .subst e;exact Gi rfl (put2 65 n65 hb (wH hn) λhb=>h _ _ _ rz (.out 65 (.inl rfl)))
   .subst e;exact Gi rfl (put2 66 n66 hb (wH hn) λhb=>h _ _ _ rz (.out 66 (.inr rfl)))
end
theorem QK {G:List V}{Φ:Nat->List V->bo->R V}{l:List X}
  (h:xr G Φ vs E l cs σ λxs σ=>Wp (Φ 0 (.loc σ.length::xs) (σ++[.inst []])) (λr cD=>r=.none/\Q (.loc σ.length) cD) E):we G Φ vs E (.mk l) cs σ Q:=by
 refine Wp.bind (Wp.imp (lx G Φ vs E l cs σ _ h) λxs σ h=>Wp.bind (Wp.imp h λr cD h=>?_));obtain⟨rfl,h⟩:=h;exact h
def uF (n:Nat)(k:List V)(lc:Int):List V:=[.str (st "drawn"),.lst [],.loc (n+1),.lst k,.lst [],.loc (n+2),.lst [],.int lc,.int 0,.lst [],.bool ag,.bool ag,.none,.none,.lst []]
def Dn (σ:bo)(k:List V)(lc:Int)(c h:List V):bo:=σ++[.inst (uF σ.length k lc),.list c,.list h]
theorem gU  {o:O}(h:τ[i]?=aa o):(σ++τ)[σ.length+i]?=aa o:=by rw[cB (j7 _ _),m8];exact h
theorem Hb {o:O}(h:τ[0]?=aa o):(σ++τ)[σ.length]?=aa o:=gU (i:=0) h
theorem O6  {o:O}(h:σ[i]?=aa o):(σ++τ)[i]?=aa o:=by rw[aZ (aC.1 h).1];exact h
theorem sU (σ τ:bo)(i:Nat)(o:O):(σ++τ).set (σ.length+i) o=σ++τ.set i o:=by rw[CS _ _ (j7 _ _),m8]
theorem sA (l:List V)(x:V)(f:Nat)(h:f=l.length):kD (σ++.inst l::τ) (.loc σ.length) f x=aa (σ++.inst (l++[x])::τ):=by refine(?_:I1 _ _ ((σ++.inst l::τ)[σ.length]?) f x=_);rw[Hb (τ:=.inst l::τ) rfl];refine(if_neg (Yh h)).trans ((if_pos h).trans ?_);exact congrArg aa (sU σ (.inst l::τ) 0 _)
theorem sA2 (l:List V)(x:V)(f:Nat)(h:f<l.length):kD (σ++.inst l::τ) (.loc σ.length) f x=aa (σ++.inst (l.set f x)::τ):=by refine(?_:I1 _ _ ((σ++.inst l::τ)[σ.length]?) f x=_);rw[Hb (τ:=.inst l::τ) rfl];refine(if_pos h).trans ?_;exact congrArg aa (sU σ (.inst l::τ) 0 _)
theorem gAt {l:List V}{f:Nat}{x:V}(h:l[f]?=aa x):yg (σ++.inst l::τ) (.loc σ.length) f=aa x:=by refine(?_:KL ((σ++.inst l::τ)[σ.length]?) f=_);rw[Hb (τ:=.inst l::τ) rfl];exact h
theorem JV    (h:Q .none (Dn σ [] 0 [] [])):Wp (cl (d+1) 0 [.loc σ.length,.str (st "drawn"),.lst []] (σ++[.inst []])) Q E:=by refine call Bo 0 rfl rfl ?_;dsimp only[Bo,HO,cY,cq,eI,dT,CZ,dw,cZ,Gs,qW,Ie,d5,d6,d4,aD,ah,ai];refine jh (sA _ _ _ rfl) (sA _ _ _ rfl) ⟨lm rfl,?_⟩;rw[aV,ao];refine Gi (sA _ _ _ rfl) ⟨lm rfl,Gi (sA _ _ _ rfl) ⟨lm rfl,Gi (sA _ _ _ rfl) ⟨lm rfl,?_⟩⟩⟩;rw[aV,ao];refine Gi (sA _ _ _ rfl) ⟨lm rfl,HY (sA _ _ _ rfl) (sA _ _ _ rfl) (sA _ _ _ rfl) ⟨lm rfl,QF (sA _ _ _ rfl) (sA _ _ _ rfl) (sA _ _ _ rfl) (sA _ _ _ rfl) (sA _ _ _ rfl) ⟨lm rfl,Gi (sA _ _ _ rfl) ?_⟩⟩⟩;exact h
def cV (r:Row):V:=.tup [.int r.1,oV r.2]
def o9 (L:List Int)(r:Row):Row:=if kd r.1=6 then(r.1,aa (L.getD (r.2.getD 0).toNat 0))else r
structure Hn where
 s:Int
 e:Int
 h:Int
 d:Int
 f:Bool
noncomputable def hV (h:Hn):V:=.tup [.int h.s,.int h.e,.int h.h,.int h.d,.bool h.f]
noncomputable def k9 (L:List Int)(h:Hl):Hn:=⟨L.getD h.s 0,L.getD h.e 0,L.getD h.h 0,h.d,h.f⟩
structure HV (b:Bx):Prop where
 op:∀r∈b.R,r.1<85
 lb:∀r∈b.R,kd r.1=6->∃l:Nat,r.2=aa (l:Int)/\l<b.L.length
 hs:∀h∈b.H,h.s<b.L.length/\h.e<b.L.length/\h.h<b.L.length
def A4:List V:=tab.map λr=>.str r.1
theorem He (h:o<85):findS (nm o) A4=aa (aa o) :=
 of_decide_eq_true (lU (p:=λo=>decide (findS (nm o) A4=aa (aa o))) (by decide +kernel) h)
theorem kq6 (σ:bo)(h:o<85):fe σ .eq (.str (kB (kd o))) (.str (st "t"))=aa (decide (kd o=6)):=kBe (kd o) (wU h) 6 (by decide)
theorem gRU (x:Dr)(b:Bx)(γ:bo)(τ:bo):hU (gN x b γ++τ) (.loc 2) (.str (st "rows"))=aa (.loc 3):=by kernel_rfl
theorem gLU (x:Dr)(b:Bx)(γ:bo)(τ:bo):hU (gN x b γ++τ) (.loc 2) (.str (st "labels"))=aa (.loc 4):=by kernel_rfl
theorem gHU (x:Dr)(b:Bx)(γ:bo)(τ:bo):hU (gN x b γ++τ) (.loc 2) (.str (st "handlers"))=aa (.loc 5):=by kernel_rfl
theorem Ba {l:Nat}(h:l<L.length):L[l]?=aa (L.getD l 0):=by rw[bU,bA h];rfl
theorem gLb {n:Nat}{l:Nat}(Cy:σ[n]?=aa (.list (L.map .int)))(h:l<L.length)(hl:L.length<5000):hU σ (.loc n) (.int l)=aa (.int (L.getD l 0)):=by rw[DM _ Cy,zU σ zo (by rw[ak];exact Jj h) (by rw[ak];exact qh hl),cg,cy,Ba h];rfl
section
variable {b:Bx}{n:Nat}
def MM:List S:=[.asg 6 (.index (.v 2) (.v 4)),
  .expr (.app (.dm (.v 3) 2) (.tup [.v 6,.ite (.cmp (.sub (.sub (.v 1) (.v 6)) (.k (.int 1))) [.eq] [.k (.str (st "t"))]) (.sub (.sub (.v 0) (.k (.str (st "labels")))) (.v 5)) (.v 5)]))]
theorem acm (hb:Bd b n)(hn:n<5000)(h1:r.1<85)(h2:kd r.1=6->∃l:Nat,r.2=aa (l:Int)/\l<b.L.length){c:List V}(hc:c.length<5000)(a6 a7 a8 a9 PW PV KR:Option V)
 (h:A [aa (.loc 2),aa fh,aa (.lst A4),aa (.loc (gN x b γ).length),aa (.str (nm r.1)),aa (oV r.2),aa (.int r.1),a7,a8,a9,PW,PV,KR] (Dn (gN x b γ) [] 0 (c++[cV (o9 b.L r)]) [])) :
  iR G (cl d) 1000 E MM [aa (.loc 2),aa fh,aa (.lst A4),aa (.loc (gN x b γ).length),aa (.str (nm r.1)),aa (oV r.2),a6,a7,a8,a9,PW,PV,KR] (Dn (gN x b γ) [] 0 c []) A K:=by
 unfold MM;dsimp only[cY,cq,dX,cj,jb,cA,dR,md,EB,dT,ez,eU,er,ew,dw,cZ,Gs,Tb,aLe,aSe,az,aD,ah,ai,aF,aG];have fin:∀y,V.tup [.int r.1,y]=cV (o9 b.L r)->Ls (Dn (gN x b γ) [] 0 c []) (.loc ((gN x b γ).length+1)) λn l=>l.length<lim/\A [aa (.loc 2),aa fh,aa (.lst A4),aa (.loc (gN x b γ).length),aa (.str (nm r.1)),aa (oV r.2),aa (.int r.1),a7,a8,a9,PW,PV,KR] ((Dn (gN x b γ) [] 0 c []).set n (.list (l++[V.tup [.int r.1,y]]))):=λy e=>by refine Li (gU rfl) ⟨show _<100000 by exact qh hc,?_⟩;rw[e];unfold Dn;rw[sU];exact h
 refine Gi (He h1) ⟨lm rfl,Gi (gAt rfl) ⟨qv (gU rfl),HY (gB _ h1) rfl (kq6 _ h1) (jq (λe=>?_) λe=>?_)⟩⟩
 .refine dC (h2 e) λl e1 e2=>?_;have q:o9 b.L r=(r.1,aa (b.L.getD l 0)):=by unfold o9;rw[if_pos e,e1];rfl
  rw[e1];refine jh (gLU _ _ _ _) (gLb (O6 (σ:=gN x b γ) rfl) e2 (cm hb.l hn)) ⟨lm rfl,?_⟩;rw[e1]at fin;exact fin _ (by rw[q];rfl)
 .have q:o9 b.L r=r:=if_neg e;exact⟨lm rfl,fin _ (by rw[q];rfl)⟩
end
section
variable {b:Bx}{n:Nat}
def nH:List S:=[.asg 12 (.comp ag (.sub (.sub (.v 0) (.k (.str (st "labels")))) (.c 0)) (.tup [.v 7,.v 8,.v 9]) []),
  .expr (.app (.dm (.v 3) 5) (.tup [.sub (.v 12) (.k (.int 0)),.sub (.v 12) (.k (.int 1)),.sub (.v 12) (.k (.int 2)),.v 10,.v 11]))]
theorem CK {G:List V}{Φ:Nat->List V->bo->R V}{e:X}(g h:α->V){l:List α}(q:∀x∈l,we G Φ vs (λU=>False) e [g x] σ λv U=>v=h x) :
  iK (λx=>match R.val (qV G Φ vs af [] [x] σ)with|some (.bool b)=>aa b|_=>ae) (λx=>R.val (ev G Φ vs e [x] σ)) (l.map g)=aa (l.map h) :=
 xb g h λx hx=>⟨rfl,AL (cz _ _ _ _ _ _ _ _ (q x hx))⟩
theorem aco (hb:Bd b n)(hn:n<5000){r:Hl}(h1:r.s<b.L.length/\r.e<b.L.length/\r.h<b.L.length){c h0:List V}(hc:h0.length<5000)(a1 a2 a4 a5 a6 KR:Option V)
 (h:A [aa (.loc 2),a1,a2,aa (.loc (gN x b γ).length),a4,a5,a6,aa (.int r.s),aa (.int r.e),aa (.int r.h),aa (.int r.d),aa (.bool r.f),aa (.lst [.int (k9 b.L r).s,.int (k9 b.L r).e,.int (k9 b.L r).h])] (Dn (gN x b γ) [] 0 c (h0++[hV (k9 b.L r)]))) :
  iR G (cl d) 1000 E nH [aa (.loc 2),a1,a2,aa (.loc (gN x b γ).length),a4,a5,a6,aa (.int r.s),aa (.int r.e),aa (.int r.h),aa (.int r.d),aa (.bool r.f),KR] (Dn (gN x b γ) [] 0 c h0) A K:=by
 unfold nH;dsimp only[cY,cq,dX,cA,dR,md,dT,ez,er,ew,dw,cZ,Gs,az,aD,ah,ai,aF,aG];refine k4 ?_;dsimp only[cq,dX,dT,ez,Gs,qW,acy,Zh,KS,az,aD,ah,ai];refine⟨lm rfl,⟨rfl,Gi (CK (λi:Nat=>V.int i) (λi=>V.int (b.L.getD i 0)) (l:=[r.s,r.e,r.h]) λi hi=>?_) ⟨lm rfl,Gi (gAt rfl) ⟨qv (gU rfl),HY rfl rfl rfl ⟨lm rfl,Li (gU rfl) ⟨show _<100000 by exact qh hc,?_⟩⟩⟩⟩⟩⟩
 .dsimp only[cY,cq,It,cA,Gs,ah];refine jh (gLU _ _ _ _) (gLb (O6 (σ:=gN x b γ) rfl) ?_ (cm hb.l hn)) rfl;refine b8 (aN.1 hi) (λe=>?_) λhi=>?_
  .rw[e];exact h1.1
  refine b8 (aN.1 hi) (λe=>?_) λhi=>?_
  .rw[e];exact h1.2.1
  refine b8 (aN.1 hi) (λe=>?_) λhi=>?_
  .rw[e];exact h1.2.2
  .exact absurd hi ba
 unfold Dn;simp only[sU];exact h
end
def JJ:List V:=[.int 4607182418800017408,.str (st "x")]
theorem take_succ (f:α->β){l:List α}{a:α}(h:l[i]?=aa a):(l.take (i+1)).map f=(l.take i).map f++[f a]:=by rw[yk,h,bM];rfl
theorem nE {f:α->β}{l:List α}{v:β}(h:(l.map f)[i]?=aa v):∃a,l[i]?=aa a/\v=f a:=by
 rw[cy]at h;induction e:l[i]? with
 |none=>rw[e]at h;exact nomatch h
 |some a=>rw[e]at h;exact⟨a,rfl,(aj h).symm⟩
inductive JM (x:Dr)(b:Bx)(γ:bo)(i:Nat):Vs->bo->Prop
 |mk (a4 a5 a6:Option V):JM x b γ i [aa (.loc 2),aa fh,aa (.lst A4),aa (.loc (gN x b γ).length),a4,a5,a6,ae,ae,ae,ae,ae,ae] (Dn (gN x b γ) [] 0 (((b.R.take i).map (o9 b.L)).map cV) [])
inductive JN (x:Dr)(b:Bx)(γ:bo)(a4 a5 a6:Option V)(i:Nat):Vs->bo->Prop
 |mk (a7 a8 a9 PW PV KR:Option V):JN x b γ a4 a5 a6 i [aa (.loc 2),aa fh,aa (.lst A4),aa (.loc (gN x b γ).length),a4,a5,a6,a7,a8,a9,PW,PV,KR] (Dn (gN x b γ) [] 0 ((b.R.map (o9 b.L)).map cV) (((b.H.take i).map (k9 b.L)).map hV))
theorem Jw  {b:Bx}{n:Nat}(hb:Bd b n)(hn:n<900)(ok:HV b)
  (h:Q (.loc (gN x b γ).length) (Dn (gN x b γ) JJ 1 ((b.R.map (o9 b.L)).map cV) ((b.H.map (k9 b.L)).map hV))):Wp (cl (d+2) 34 [.loc 2,fh] (gN x b γ)) Q E:=by
 refine call pj 11 rfl rfl ?_;dsimp only[pj,vd,cY,cq,dX,eI,cA,dT,ez,fJ,fH,dG,dw,cZ,mS,aaH,i8,i7,Gs,xh,qW,Zk,d5,d6,d4,gu,az,aD,ah,aF,aG];refine k4 ?_;dsimp only[fh,cq,Gs,qW,zQ,DG,KS,ah,ai];refine⟨rfl,Gi (CK xQ (λr=>.str r.1) λr U=>Gi rfl rfl) ⟨lm rfl,QK ?_⟩⟩;dsimp only[cY,eI,dT,ez,qW,aD];refine⟨lm rfl,JV ⟨rfl,lm rfl,rfl,Gi (gRU _ _ _ _) ?_⟩⟩;have hr:=hb.r;have hh:=hb.h;refine ke (b.R.map rV) (JM x b γ) ?_ ?_ ?_ 1000 0 _ _ (bL _) (by rw[ak];exact Mr hn hr) (.mk ae ae ae)
 .intro i vs σ I;induction I with|mk=>exact O6 (σ:=gN x b γ) rfl
 .intro i v vs σ hv I;induction I with|mk a4 a5 a6=>?_
  (refine dC (nE hv) λr hr z1=>?_;subst z1);have hm:r∈b.R:=aJ hr;refine Gi rfl (fF _ _ _ _ _ _ _ _ _ (acm hb (Mq hn) (ok.op r hm) (ok.lb r hm) ?_ _ _ _ _ _ _ _ ?_))
  .rw[ak,ak,cv];exact Mp hn (by assumption)
  .have e:=JM.mk (x:=x) (b:=b) (γ:=γ) (i:=i+1) (aa (.str (nm r.1))) (aa (oV r.2)) (aa (.int r.1));rw[take_succ _ hr,bM]at e;exact e
 .intro vs σ I;induction I with|mk a4 a5 a6=>?_
  rw[ak,jT];dsimp only[Gs,ah];refine Gi (gHU _ _ _ _) ?_;refine ke (b.H.map ZE) (JN x b γ a4 a5 a6) ?_ ?_ ?_ 1000 0 _ _ (bL _) (by rw[ak];exact Mr hn hh) (.mk ae ae ae ae ae ae)
  .intro i vs σ I;induction I with|mk=>exact O6 (σ:=gN x b γ) rfl
  .intro i v vs σ hv I;induction I with|mk a7 a8 a9 PW PV KR=>?_
   (refine dC (nE hv) λr hr z1=>?_;subst z1);have hm:r∈b.H:=aJ hr;refine Gi rfl (fF _ _ _ _ _ _ _ _ _ (aco hb (Mq hn) (ok.hs r hm) ?_ _ _ _ _ _ _ ?_))
   .rw[ak,ak,cv];exact Mp hn hh
   .have e:=JN.mk (x:=x) (b:=b) (γ:=γ) (a4:=a4) (a5:=a5) (a6:=a6) (i:=i+1) (aa (.int r.s)) (aa (.int r.e)) (aa (.int r.h)) (aa (.int r.d)) (aa (.bool r.f)) (aa (.lst [.int (k9 b.L r).s,.int (k9 b.L r).e,.int (k9 b.L r).h]));rw[take_succ _ hr,bM]at e;exact e
  .intro vs σ I;induction I with|mk a7 a8 a9 PW PV KR=>?_
   rw[ak,jT];dsimp only[Gs,ah,ai];refine⟨lm rfl,lm rfl,rfl,jh (sA2 _ _ _ (dD rfl)) (sA2 _ _ _ (dD rfl)) h⟩
noncomputable abbrev cW:=List Int
abbrev Fd:=List (Int×cW)
noncomputable def look:Fd->Int->Option cW
 |[],_=>ae
 |(a,t)::r,p=>if a=p then aa t else look r p
theorem uL (f:Fd)(p q:Int)(t:cW):look (f++[(p,t)]) q=match look f q with
  |some s=>aa s
  |none=>if p=q then aa t else ae:=by
 induction f with
 |nil=>rfl
 |cons a f ih =>
  obtain⟨a,s⟩:=a;refine(?_:(if a=q then aa s else look (f++[(p,t)]) q)=match (if a=q then aa s else look f q)with|some s=>_|none=>_);by_cases e:a=q
  .rw[if_pos e,if_pos e]
  .rw[if_neg e,if_neg e,ih]
theorem uK {f:Fd}{t:cW}(h:look f p=ae):look (f++[(p,t)]) p=aa t:=by rw[uL,h];exact if_pos rfl
theorem uJ {f:Fd}{q:Int}{t s:cW}(h:look f q=aa s):look (f++[(p,t)]) q=aa s:=by rw[uL,h]
theorem kF {f:Fd}{q:Int}{t s:cW}(h:look (f++[(p,t)]) q=aa s):look f q=aa s\/(q=p/\s=t):=by
 rw[uL]at h;induction e:look f q with
 |some u=>rw[e]at h;exact .inl h
 |none =>
  rw[e]at h;by_cases e2:p=q
  .exact .inr ⟨e2.symm,(aj ((if_pos e2).symm.trans h)).symm⟩
  .exact nomatch (if_neg e2).symm.trans h
def free (n:Nat)(f:Fd):Nat:=((fG n).filter λ(p:Nat)=>(look f p).isNone).length
theorem filter_le {α:Type}{p q:α->Bool}(h:∀x,q x=af->p x=af):∀l:List α,(l.filter q).length<=(l.filter p).length
 |[]=>aO _
 |a::l=>by
  have ih:=filter_le h l;induction hq:q a with
  |true=>rw[dF hq,dF (h a hq)];exact gn ih
  |false =>
   rw[eX (by rw[hq];exact bq)];induction hp:p a with
   |true=>rw[dF hp];exact eu ih
   |false=>rw[eX (by rw[hp];exact bq)];exact ih
theorem filter_lt {α:Type}{p q:α->Bool}(h:∀x,q x=af->p x=af){a:α}(ha:p a=af)(hb:q a=ag):∀ {l:List α},a∈l->(l.filter q).length<(l.filter p).length
 |[]=>λhm=>absurd hm ba
 |b::l=>λhm=>by
  have ih:=filter_le h l;refine b8 (aN.1 hm) (λe=>?_) λhm=>?_
  .subst e;rw[eX (by rw[hb];exact bq),dF ha];exact Nat.lt_succ_of_le ih
  .have Bg:=filter_lt h ha hb hm;induction hq:q b with
   |true=>rw[dF hq,dF (h b hq)];exact Nat.succ_lt_succ Bg
   |false =>
    rw[eX (by rw[hq];exact bq)];induction hp:p b with
    |true=>rw[dF hp];exact tK Bg
    |false=>rw[eX (by rw[hp];exact bq)];exact Bg
theorem tD (n:Nat)(f:Fd):free n f<=n:=by have:=jO (λ(p:Nat)=>(look f p).isNone) (fG n);rw[mc]at this;exact this
theorem uU {n:Nat}{f:Fd}{t:cW}(h:look f p=ae)(h0:0<=p)(h1:p<n):free n (f++[(p,t)])<free n f:=by
 have e:((p.toNat:Nat):Int)=p:=gi h0;refine filter_lt (a:=p.toNat) (λx hx=>?_) ?_ ?_ (jB.2 (XU h1 e))
 .induction e:look f x with
  |none=>rfl
  |some s=>rw[uJ e]at hx;exact nomatch hx
 .refine(?_:(look f _).isNone=af);rw[e,h];rfl
 .refine(?_:(look _ _).isNone=ag);rw[e,uK h];rfl
abbrev DW:=Int->cW->Option Fd
structure Ad (n:Nat)(st:DW)(S:Int->Option cW):Prop where
 z:S 0=aa []
 c:∀p s,S p=aa s->p<n/\∃l,st p s=aa l/\∀q∈l,S q.1=aa q.2
def Good (n:Nat)(st:DW):Prop:=∃S,Ad n st S
def Pk (k:Nat)(s:cW):Prop:=s.length<=4*k/\∀x∈s,-3<=x
theorem Pk.le {k:Nat}{s:cW}(h:Pk k s)(q:k<=m):Pk m s:=⟨aQ h.1 (Nat.mul_le_mul_left 4 q),h.2⟩
structure HU (st:DW):Prop where
 pk:∀k p s l,0<=p->Pk k s->st p s=aa l->∀q∈l,0<=q.1/\Pk (k+1) q.2
 tn:∀p s l,st p s=aa l->l.length<=3
def mW (n:Nat):Fd->Fd->List Int->Option (Fd×List Int)
 |[],f,w=>aa (f,w)
 |(p,t)::l,f,w=>if(n:Int)<=p then ae else match look f p with
  |none=>mW n l (f++[(p,t)]) (w++[p])
  |some s=>if s=t then mW n l f w else ae
structure KW (n:Nat)(st:DW)(M m:Nat)(f:Fd)(w:List Int):Prop where
 z:look f 0=aa []
 rg:∀p s,look f p=aa s->0<=p/\p<n
 wk:∀p∈w,∃s,look f p=aa s
 cl:∀p s,look f p=aa s->p∈w\/∃l,st p s=aa l/\∀q∈l,look f q.1=aa q.2
 mn:∀S,Ad n st S->∀p s,look f p=aa s->S p=aa s
 ms:free n f+w.length=m
 le:m<=M
 pk:∀p s,look f p=aa s->Pk (M-m) s
 fl:f.length+free n f<=n+1
theorem KW.start {n:Nat}{st:DW}(h:0<n):KW n st (free n [(0,[])]+1) (free n [(0,[])]+1) [(0,[])] [0]:=by
 have l1:∀p s,look [(0,[])] p=aa s->p=0/\s=[]:=λp s h=>by
  by_cases e:(0:Int)=p
  .exact⟨e.symm,(aj ((if_pos e).symm.trans h)).symm⟩
  .exact nomatch (if_neg e).symm.trans h
 refine⟨rfl,λp s h=>?_,λp h=>?_,λp s h=>?_,λS hS p s h=>?_,rfl,aO _,λp s h=>?_,by have:=tD n [(0,[])];show 1+_<=_;exact XT this⟩
 .obtain⟨rfl,rfl⟩:=l1 p s h;exact XS (by assumption)
 .rw[au.1 h];exact⟨[],rfl⟩
 .obtain⟨rfl,rfl⟩:=l1 p s h;exact .inl aR
 .obtain⟨rfl,rfl⟩:=l1 p s h;exact hS.z
 .obtain⟨rfl,rfl⟩:=l1 p s h;exact⟨bL _,λx h=>absurd h ba⟩
theorem KW.done {n:Nat}{st:DW}{f:Fd}(h:KW n st M m f []):Good n st :=
 ⟨look f,h.z,λp s e=>⟨(h.rg p s e).2,(h.cl p s e).elim (λq=>absurd q ba) id⟩⟩
theorem x5 {n:Nat}:∀(l f:Fd) (w:List Int) (f':Fd) (w':List Int),(∀q∈l,0<=q.1)->mW n l f w=aa (f',w') ->
  (∀p s,look f p=aa s->look f' p=aa s)/\(∀q∈l,look f' q.1=aa q.2/\q.1<n)/\(∀p s,look f' p=aa s->look f p=aa s\/((p,s)∈l/\p∈w'))/\(∀p∈w,p∈w')/\(∀p∈w',p∈w\/∃s,(p,s)∈l)/\free n f'+w'.length<=free n f+w.length/\f'.length+free n f'<=f.length+free n f
 |[]=>λf w f' w' U h=>by
  cases h
  exact⟨λU U h=>h,λU h=>absurd h ba,λU U h=>.inl h,λU h=>h,λU h=>.inl h,aO _,aO _⟩
 |(p,t)::l=>λf w f' w' h0 h=>by
  have hp:=h0 (p,t) aR;have h0':∀q∈l,0<=q.1:=λq hq=>h0 q (bf _ hq);have h:(if(n:Int)<=p then ae else match look f p with|none=>mW n l (f++[(p,t)]) (w++[p])|some s=>if s=t then mW n l f w else ae)=aa (f',w'):=h;by_cases e:(n:Int)<=p
  .rw[if_pos e]at h;exact nomatch h
  .rw[if_neg e]at h;induction e2:look f p with
   |none =>
    rw[e2]at h;refine o06 (x5 l _ _ _ _ h0' h) λa1 a2 a3 a4 a5 a6 a7=>?_;refine⟨λp s h=>a1 p s (uJ h),λq hq=>?_,λq s hq=>?_,λq hq=>a4 q (bS _ hq),λq hq=>?_,?_,?_⟩
    .refine b8 (aN.1 hq) (λhq=>?_) λhq=>?_
     .subst hq;exact⟨a1 _ _ (uK e2),by show p<n;exact wD e⟩
     .exact a2 q hq
    .refine b8 (a3 q s hq) (λh=>?_) λh=>?_
     .rcases kF h with h|⟨rfl,rfl⟩
      .exact .inl h
      .exact .inr ⟨aR,a4 _ (aU _ aR)⟩
     .exact .inr ⟨bf _ h.1,h.2⟩
    .rcases a5 q hq with h|⟨s,h⟩
     .refine b8 (bg.1 h) (λh=>?_) λh=>?_
      .exact .inl h
      .rw[au.1 h];exact .inr ⟨t,aR⟩
     .exact .inr ⟨s,bf _ h⟩
    .have q1:=uU (n:=n) (t:=t) e2 hp (wD e);rw[ao]at a6;have:[p].length=1:=rfl;exact XR a6 q1 this
    .have q1:=uU (n:=n) (t:=t) e2 hp (wD e);rw[ao]at a7;have:[(p,t)].length=1:=rfl;exact XQ a7 q1 this
   |some s =>
    rw[e2]at h;by_cases e3:s=t
    .rw[show(match aa s with|none=>mW n l (f++[(p,t)]) (w++[p])|some s=>if s=t then mW n l f w else ae)=mW n l f w from if_pos e3]at h;refine o06 (x5 l _ _ _ _ h0' h) λa1 a2 a3 a4 a5 a6 a7=>?_;refine⟨a1,λq hq=>?_,λq s hq=>?_,a4,λq hq=>?_,a6,a7⟩
     .refine b8 (aN.1 hq) (λhq=>?_) λhq=>?_
      .subst hq;exact⟨a1 _ _ (e3▸e2),by show p<n;exact wD e⟩
      .exact a2 q hq
     .exact(a3 q s hq).imp id λh=>⟨bf _ h.1,h.2⟩
     .exact(a5 q hq).imp id λz_=>by obtain⟨s,h⟩:=z_;exact⟨s,bf _ h⟩
    .exact nomatch ((if_neg e3).symm.trans h:ae=aa (f',w'))
theorem x6 {n:Nat}{S:Int->Option cW}(hS:∀p s,S p=aa s->p<n):∀(l f:Fd) (w:List Int),(∀p s,look f p=aa s->S p=aa s)->(∀q∈l,S q.1=aa q.2)->mW n l f w≠ae
 |[]=>λf w U U h=>nomatch h
 |(p,t)::l=>λf w h1 h2 h=>by
  have h:(if(n:Int)<=p then ae else match look f p with|none=>mW n l (f++[(p,t)]) (w++[p])|some s=>if s=t then mW n l f w else ae)=ae:=h;have hp:=h2 (p,t) aR;have h2':∀q∈l,S q.1=aa q.2:=λq hq=>h2 q (bf _ hq);rw[if_neg (by have:=hS p t hp;exact XO this)]at h;induction e2:look f p with
  |none =>
   rw[e2]at h;refine x6 hS l _ _ (λq s hq=>?_) h2' h;rcases kF hq with h|⟨rfl,rfl⟩
   .exact h1 q s h
   .exact hp
  |some s =>rw[e2]at h;have e3:s=t:=aj ((h1 p s e2).symm.trans hp);exact x6 hS l f w h1 h2' ((if_pos e3).symm.trans h)
theorem KW.turn {n:Nat}{st:DW}(ok:HU st){f:Fd}{w:List Int}(h:KW n st M m f (w++[p])):∃s,look f p=aa s/\Pk (M-m) s/\0<=p/\p<n /\
  (st p s=ae->¬Good n st)/\∀l,st p s=aa l->(mW n l f w=ae->¬Good n st)/\∀f' w',mW n l f w=aa (f',w')->∃m',m'<m/\KW n st M m' f' w':=by
 obtain⟨s,hs⟩:=h.wk p (aU _ aR);refine⟨s,hs,h.pk p s hs,(h.rg p s hs).1,(h.rg p s hs).2,λe ⟨S,hS⟩=>?_,λl e=>⟨λe2 ⟨S,hS⟩=>?_,λf' w' e2=>?_⟩⟩
 .obtain⟨_,l,e2,_⟩:=hS.c p s (h.mn S hS p s hs);rw[e]at e2;exact nomatch e2
 .obtain⟨_,l2,e3,h3⟩:=hS.c p s (h.mn S hS p s hs);rw[e]at e3;obtain rfl:=aj e3;exact x6 (λp s q=>(hS.c p s q).1) l f w (h.mn S hS) h3 e2
 .have hk:=ok.pk _ p s l (h.rg p s hs).1 (h.pk p s hs) e;refine o06 (x5 l f w f' w' (λq hq=>(hk q hq).1) e2) λa1 a2 a3 a4 a5 a6 a7=>?_;have J7:=h.fl;have hm:=h.ms;have hle:=h.le;rw[ao]at hm;have h1:[p].length=1:=rfl;refine⟨free n f'+w'.length,by exact XI a6 hm h1,a1 _ _ h.z,λq t hq=>?_,λq hq=>?_,λq t hq=>?_,λS hS q t hq=>?_,rfl,by exact XF a6 hm hle h1,λq t hq=>?_,by exact XD a7 J7 hm h1⟩
  .refine b8 (a3 q t hq) (λhq=>?_) λhq=>?_
   .exact h.rg q t hq
   .exact⟨(hk _ hq.1).1,(a2 _ hq.1).2⟩
  .rcases a5 q hq with hq|⟨t,hq⟩
   .obtain⟨t,ht⟩:=h.wk q (bS _ hq);exact⟨t,a1 _ _ ht⟩
   .exact⟨t,(a2 _ hq).1⟩
  .refine b8 (a3 q t hq) (λhq=>?_) λhq=>?_
   .by_cases e3:q=p
    .obtain rfl:=fc (e3);rw[hs]at hq;obtain rfl:=aj hq;exact .inr ⟨l,e,λp hq=>(a2 p hq).1⟩
    .rcases h.cl q t hq with h2|⟨l2,h2,h3⟩
     .refine b8 (bg.1 h2) (λh2=>?_) λh2=>?_
      .exact .inl (a4 q h2)
      .exact absurd (au.1 h2) e3
     .exact .inr ⟨l2,h2,λq hq=>a1 _ _ (h3 q hq)⟩
   .exact .inl hq.2
  .refine b8 (a3 q t hq) (λhq=>?_) λhq=>?_
   .exact h.mn S hS q t hq
   .obtain⟨_,l2,e3,h3⟩:=hS.c p s (h.mn S hS p s hs);rw[e]at e3;obtain rfl:=aj e3;exact h3 _ hq.1
  .refine b8 (a3 q t hq) (λhq=>?_) λhq=>?_
   .exact(h.pk q t hq).le (XA a6 hm hle h1)
   .exact(hk _ hq.1).2.le (Xx a6 hm hle h1)
def lX (X:Int->cW->Prop)(s:cW):Prop:=∀(i:Nat) (g:Int),s[i]?=aa g->0<=g->X g (s.take (i+1))
theorem lX.imp {X Y:Int->cW->Prop}{s:cW}(h:lX X s)(q:∀g t,X g t->Y g t):lX Y s:=λi g e e2=>q _ _ (h i g e e2)
def Ng (st:DW):Prop:=∀p s l X,lX X s->st p s=aa l->∀q∈l,lX (λg t=>X g t\/(g,t)∈l) q.2
def FW (f w:Fd)(g:Int)(t:cW):Prop:=look f g=aa t\/(g,t)∈w
structure Ih (n:Nat)(st:DW)(M m:Nat)(f w:Fd):Prop where
 z:FW f w 0 []
 rg:∀p s,look f p=aa s->0<=p/\p<n
 w0:∀q∈w,0<=q.1
 cl:∀p s,look f p=aa s->∃l,st p s=aa l/\∀q∈l,FW f w q.1 q.2
 mn:∀S,Ad n st S->∀p s,FW f w p s->S p=aa s
 ms:4*free n f+w.length=m
 le:m<=M
 pk:∀p s,FW f w p s->Pk (M-m) s
 tg:∀p s,FW f w p s->lX (FW f w) s
 fl:f.length+free n f<=n+1
theorem FW.one {s:cW}(h:FW [] [(0,[])] p s):p=0/\s=[]:=by
 rcases h with h|h
 .exact nomatch h
 .cases au.1 h;exact⟨rfl,rfl⟩
theorem Ih.start {n:Nat}{st:DW}:Ih n st (4*free n []+1) (4*free n []+1) [] [(0,[])] :=
 ⟨.inr aR,λp s h=>(nomatch h),λq h=>by rw[au.1 h];exact gD _,λp s h=>(nomatch h),λS hS p s h=>by obtain⟨rfl,rfl⟩:=h.one;exact hS.z,rfl,aO _,
  λp s h=>by obtain⟨rfl,rfl⟩:=h.one;exact⟨bL _,λx h=>absurd h ba⟩,λp s h=>by obtain⟨rfl,rfl⟩:=h.one;exact λi g e=>(nomatch e),by have:=tD n [];show 0+free n []<=n+1;exact XN this⟩
theorem FW.nil {f:Fd}{g:Int}{t:cW}(h:FW f [] g t):look f g=aa t:=h.elim id λh=>absurd h ba
theorem Ih.done {n:Nat}{st:DW}{f:Fd}(h:Ih n st M m f []):Ad n st (look f)/\∀p s,look f p=aa s->lX (λg t=>look f g=aa t) s :=
 ⟨⟨h.z.nil,λp s e=>⟨(h.rg p s e).2,let ⟨l,h1,h2⟩:=h.cl p s e;⟨l,h1,λq hq=>(h2 q hq).nil⟩⟩⟩,λp s e=>(h.tg p s (.inl e)).imp λU U h=>h.nil⟩
theorem Ih.turn {n:Nat}{st:DW}(ok:HU st)(ok2:Ng st){f w:Fd}{s:cW}(h:Ih n st M m f ((p,s)::w)):0<=p/\Pk (M-m) s/\((n:Int)<=p->¬Good n st) /\
  (∀t,look f p=aa t->t≠s->¬Good n st)/\(look f p=aa s->∃m',m'<m/\Ih n st M m' f w) /\
  (look f p=ae->p<n->(st p s=ae->¬Good n st)/\∀l,st p s=aa l->∃m',m'<m/\Ih n st M m' (f++[(p,s)]) (w++l)):=by
 have h1:FW f ((p,s)::w) p s:=.inr aR;have h0:0<=p:=h.w0 (p,s) aR;have hm:=h.ms;have hle:=h.le;rw[az]at hm;refine⟨h0,h.pk p s h1,λe ⟨S,hS⟩=>?_,λt e e2 ⟨S,hS⟩=>?_,λe=>?_,λe e2=>⟨λe3 ⟨S,hS⟩=>?_,λl e3=>?_⟩⟩
 .have:=(hS.c p s (h.mn S hS p s h1)).1;exact XM e this
 .exact e2 (aj ((h.mn S hS p t (.inl e)).symm.trans (h.mn S hS p s h1)))
 .have sub:∀g t,FW f ((p,s)::w) g t->FW f w g t:=λg t q=>q.elim .inl λq=>by
   rcases aN.1 q with q|q
   .cases q;exact .inl e
   .exact .inr q
  have sup:∀g t,FW f w g t->FW f ((p,s)::w) g t:=λg t q=>q.imp id (bf _);exact⟨4*free n f+w.length,by exact XK hm,sub _ _ h.z,h.rg,λq hq=>h.w0 q (bf _ hq),λp s hp=>let ⟨l,a,b⟩:=h.cl p s hp;⟨l,a,λq hq=>sub _ _ (b q hq)⟩,λS hS p s q=>h.mn S hS p s (sup _ _ q),
   rfl,by exact XJ hm hle,λp s q=>(h.pk p s (sup _ _ q)).le (XH hm hle),λp s q=>(h.tg p s (sup _ _ q)).imp sub,h.fl⟩
 .obtain⟨_,l,e4,_⟩:=hS.c p s (h.mn S hS p s h1);rw[e3]at e4;exact nomatch e4
 .have hk:=ok.pk _ p s l h0 (h.pk p s h1) e3;have hl:=ok.tn p s l e3;have hf:=uU (n:=n) (t:=s) e h0 e2;have sub:∀g t,FW f ((p,s)::w) g t->FW (f++[(p,s)]) (w++l) g t:=λg t q=>q.elim (λq=>.inl (uJ q)) λq=>by
   rcases aN.1 q with q|q
   .cases q;exact .inl (uK e)
   .exact .inr (bS _ q)
  have new:∀q∈l,FW (f++[(p,s)]) (w++l) q.1 q.2:=λq hq=>.inr (aU _ hq);have inv:∀g t,FW (f++[(p,s)]) (w++l) g t->FW f ((p,s)::w) g t\/(g,t)∈l:=λg t q=>by
   rcases q with q|q
   .rcases kF q with q|⟨rfl,rfl⟩
    .exact .inl (.inl q)
    .exact .inl h1
   .rcases bg.1 q with q|q
    .exact .inl (.inr (bf _ q))
    .exact .inr q
  have hlw:(w++l).length=w.length+l.length:=ao;refine⟨4*free n (f++[(p,s)])+(w++l).length,by exact XE hm hl hf hlw,sub _ _ h.z,λq t hq=>?_,λq hq=>?_,λq t hq=>?_,λS hS q t hq=>?_,rfl,by exact XC hm hle hl hf hlw,λq t hq=>?_,λq t hq=>?_,by have:=h.fl;rw[ao];show _+1+_<=_;exact XB hf this⟩
  .rcases kF hq with hq|⟨rfl,rfl⟩
   .exact h.rg q t hq
   .exact⟨h0,e2⟩
  .rcases bg.1 hq with hq|hq
   .exact h.w0 q (bf _ hq)
   .exact(hk q hq).1
  .rcases kF hq with hq|⟨rfl,rfl⟩
   .refine dC (h.cl q t hq) λl2 a b=>?_;exact⟨l2,a,λr hr=>sub _ _ (b r hr)⟩
   .exact⟨l,e3,new⟩
  .rcases inv q t hq with hq|hq
   .exact h.mn S hS q t hq
   .obtain⟨_,l2,e4,h4⟩:=hS.c p s (h.mn S hS p s h1);rw[e3]at e4;cases e4;exact h4 (q,t) hq
  .rcases inv q t hq with hq|hq
   .exact(h.pk q t hq).le (Xz hm hle hl hf hlw)
   .exact(hk (q,t) hq).2.le (Xy hm hle hl hf hlw)
  .rcases inv q t hq with hq|hq
   .exact(h.tg q t hq).imp sub
   .exact(ok2 p s l _ (h.tg p s h1) e3 (q,t) hq).imp λg t q=>q.elim (sub g t) λq=>new (g,t) q
def fP (r:Row):Nat:=tk r.1+if kd r.1=7 then(r.2.getD 0).toNat else 0
def made (o:Nat):cW:=if o=70 then[-3]else if o=76 then[-2]else bF (pt o) (-1)
noncomputable def vV:List Nat:=[58,65,66,79,83]
def dS (r:Row)(pc:Int)(s:cW):Option Fd :=
 if s.length<fP r then ae
 else if r.1=78 then aa [(r.2.getD 0,s++[-1,r.2.getD 0]),(pc+1,s)]
 else if r.1=79 then(if(s.drop (s.length-fP r)).getD 0 0 = -1/\0<=(s.drop (s.length-fP r)).getD 1 0 then aa []else ae)
 else if r.1=77 then(if(s.drop (s.length-fP r)).getD 0 0 = -2 then aa [(r.2.getD 0,s),(pc+1,s++[-1])]else ae)
 else if r.1≠6/\(s.drop (s.length-fP r)).any (λx=>x != -1&&!(r.1==69&&x == -3))=af then ae
 else aa ((if r.1∈vV then[]else[(pc+1,s.take (s.length-fP r)++made r.1)]) ++
  (if kd r.1=6 then[(r.2.getD 0,if r.1=61\/r.1=62 then s else s.take (s.length-fP r)++made r.1)]else[]))
noncomputable def over (hs:List Hn)(pc:Int):Option Hn:=hs.find? λh=>decide (h.s<=pc/\pc<h.e)
noncomputable def H5 (h:Hn)(s:cW):cW:=s.take h.d.toNat++[-1]++if h.f=af then[h.h]else[]
noncomputable def thrown (hs:List Hn)(o:Nat)(pc:Int)(s:cW):Option Fd:=match over hs pc with
 |none=>aa []
 |some h=>if o∈Ji then aa []else if(s.length:Int)<h.d then ae else aa [(h.h,H5 h s)]
noncomputable def step (c:List Row)(hs:List Hn):DW:=λpc s=>match c[pc.toNat]? with
 |none=>ae
 |some r=>match dS r pc s with
  |none=>ae
  |some l=>match thrown hs r.1 pc s with
   |none=>ae
   |some t=>aa (l++t)
noncomputable def Kr (n k:Nat):Int:=if k=1\/k=2 then 2 else if k=3 then 1 else if k=6 then n else 0
def dO (n:Nat)(r:Row):Prop:=if kd r.1=0 then r.2=ae else∃g,r.2=aa g/\0<=g/\(kd r.1=7\/g<Kr n (kd r.1))/\(kd r.1=2->g=1)
def Eh (n:Nat)(h:Hn):Prop:=(0<=h.s/\h.s<h.e/\h.e<=n)/\(0<=h.h/\h.h<n)/\0<=h.d/\¬(h.s<=h.h/\h.h<h.e)
def mf (a b:Hn):Prop:=a.s<b.e->b.s<a.e->b.s<=a.s/\a.e<=b.e
structure Valid (c:List Row)(hs:List Hn):Prop where
 arg:∀r∈c,dO c.length r
 h:∀h∈hs,Eh c.length h
 pr:hs.Pairwise mf
theorem dO.nn {n:Nat}(h:dO n r):0<=r.2.getD 0:=by
 unfold dO at h;by_cases e:kd r.1=0
 .rw[if_pos e]at h;rw[h];exact gD _
 .rw[if_neg e]at h;obtain⟨g,e2,h,_⟩:=h;rw[e2];exact h
theorem FY (h:o<85):pt o<=4:=of_decide_eq_true (lU (p:=λo=>decide (pt o<=4)) (by decide +kernel) h)
theorem uD (h:o<85):(made o).length<=4:=by
 unfold made
 split
 .decide
 split
 .decide
 rw[List.length_replicate];exact FY h
theorem Cq:∀x∈made o,-3<=x/\x<0:=by
 unfold made;intro x hx
 split at hx
 .rw[au.1 hx];decide
 split at hx
 .rw[au.1 hx];decide
 rw[List.eq_of_mem_replicate hx];decide
section
variable {k:Nat}{s t:cW}
theorem Pk.up (h:Pk k s):Pk (k+1) s:=h.le (jn _)
theorem Pk.app (h:Pk k s)(h1:t.length<=4)(h2:∀x∈t,-3<=x):Pk (k+1) (s++t) :=
 ⟨by have:=h.1;rw[ao];exact Xw h1 this,λx hx=>(bg.1 hx).elim (h.2 x) (h2 x)⟩
theorem Pk.take (h:Pk k s)(i:Nat):Pk k (s.take i):=⟨aQ (by rw[cv];exact Nat.min_le_right _ _) h.1,λx hx=>h.2 x (pJ hx)⟩
end
theorem wi  {s:cW}{l:Fd}{P:Fd->Prop}(h:dS r pc s=aa l)(p1:P [(r.2.getD 0,s++[-1,r.2.getD 0]),(pc+1,s)])(p2:P [])(p3:P [(r.2.getD 0,s),(pc+1,s++[-1])])
  (p4:∀u v:Fd,(u=[]\/u=[(pc+1,s.take (s.length-fP r)++made r.1)])->(v=[]\/v=[(r.2.getD 0,s)]\/v=[(r.2.getD 0,s.take (s.length-fP r)++made r.1)])->P (u++v)):P l:=by
 unfold dS at h
 split at h
 .exact nomatch h
 split at h
 .exact aj h▸p1
 split at h
 .split at h
  .exact aj h▸p2
  .exact nomatch h
 split at h
 .split at h
  .exact aj h▸p3
  .exact nomatch h
 split at h
 .exact nomatch h
 .refine aj h▸p4 _ _ ?_ ?_
  .split
   .exact .inl rfl
   .exact .inr rfl
  .split
   .split
    .exact .inr (.inl rfl)
    .exact .inr (.inr rfl)
   .exact .inl rfl
theorem tW  {s:cW}{l:Fd}{P:Int×cW->Prop}(h:dS r pc s=aa l)(a:(r.2.getD 0,s++[-1,r.2.getD 0])∈l->P (r.2.getD 0,s++[-1,r.2.getD 0]))(b:P (pc+1,s))(c:P (r.2.getD 0,s))(d:P (pc+1,s++[-1]))
  (e:P (pc+1,s.take (s.length-fP r)++made r.1))(f:P (r.2.getD 0,s.take (s.length-fP r)++made r.1)):∀q∈l,P q:=by
 have z:∀ {x:Int×cW} {m:Fd},P x->(∀q∈m,P q)->∀q∈x::m,P q:=λh k=>kj.2 ⟨h,k⟩;have n:∀q∈([]:Fd),P q:=λU q=>nomatch q;refine wi (P:=λl=>((r.2.getD 0,s++[-1,r.2.getD 0])∈l->P (r.2.getD 0,s++[-1,r.2.getD 0]))->∀q∈l,P q) h (λa=>z (a (.head _)) (z b n)) (λU=>n) (λU=>z c (z d n)) (λu v hu hv U q hq=>?_) a;refine(bg.1 hq).elim (λhq=>?_) λhq=>?_
 .rcases hu with rfl|rfl
  .exact n q hq
  .exact z e n q hq
 .rcases hv with rfl|rfl|rfl
  .exact n q hq
  .exact z c n q hq
  .exact z f n q hq
theorem Dc {n k:Nat}{s:cW}{l:Fd}(ho:r.1<85)(ha:dO n r)(hp:0<=pc)(hs:Pk k s)(h:dS r pc s=aa l):∀q∈l,0<=q.1/\Pk (k+1) q.2:=by
 have hg:=ha.nn;have ht:=(hs.take (s.length-fP r)).app (uD ho) λx hx=>(Cq x hx).1;have hq:0<=pc+1:=by exact Xm hp
 refine tW (P:=λq=>0<=q.1/\Pk (k+1) q.2) h (λU=>⟨hg,hs.app (by show 2<=4;exact Xo) λx hx=>?_⟩) ⟨hq,hs.up⟩ ⟨hg,hs.up⟩ ⟨hq,hs.app (by show 1<=4;exact Xl) λx hx=>by rw[au.1 hx];decide⟩ ⟨hq,ht⟩ ⟨hg,ht⟩;refine b8 (aN.1 hx) (λhx=>?_) λhx=>?_
 .rw[hx];decide
 .rw[au.1 hx];exact Mo hg
theorem oZ  {s:cW}{l:Fd}(h:dS r pc s=aa l):l.length<=2:=by refine wi (P:=λl=>l.length<=2) h (aO _) (bL _) (aO _) λu v hu hv=>?_;rcases hu with rfl|rfl<;>rcases hv with rfl|rfl|rfl<;>exact dD rfl
theorem Di {n k:Nat}{hs:List Hn}{s:cW}{l:Fd}(hv:∀h∈hs,Eh n h)(hk:Pk k s)(h:thrown hs o pc s=aa l):∀q∈l,0<=q.1/\Pk (k+1) q.2:=by
 unfold thrown at h
 split at h
 .obtain rfl:=aj h;exact λq hq=>absurd hq ba
 .rename_i a e
  have ha:=hv a (lZ e)
  split at h
  .obtain rfl:=aj h;exact λq hq=>absurd hq ba
  split at h
  .exact nomatch h
  .obtain rfl:=aj h;intro q hq;rw[au.1 hq];refine⟨ha.2.1.1,?_⟩;refine(?_:Pk (k+1) (_++_++_));rw[aV];refine(hk.take _).app ?_ λx hx=>?_
   .split<;>exact dD rfl
   .have:=ha.2.1.1;refine b8 (bg.1 hx) (λhx=>?_) λhx=>?_
    .rw[au.1 hx];decide
    .split at hx
     .rw[au.1 hx];exact Mo this
     .exact absurd hx ba
theorem ud {hs:List Hn}{s:cW}{l:Fd}(h:thrown hs o pc s=aa l):l.length<=1:=by
 unfold thrown at h
 split at h
 .obtain rfl:=aj h;exact bL _
 split at h
 .obtain rfl:=aj h;exact bL _
 split at h
 .exact nomatch h
 .obtain rfl:=aj h;exact aO _
set_option tactic.hygienic true in
theorem o7 {hs:List Hn}{s:cW}{l:Fd}(h:step c hs pc s=aa l):∃r a b,r∈c/\dS r pc s=aa a/\thrown hs r.1 pc s=aa b/\l=a++b:=by
 unfold step at h
 split at h
 .exact nomatch h
 rename_i r e
 split at h
 .exact nomatch h
 rename_i a e1
 split at h
 .exact nomatch h
 rename_i b e2
 obtain rfl:=aj h;exact⟨r,a,b,aJ e,e1,e2,rfl⟩
theorem tj {hs:List Hn}(ho:∀r∈c,r.1<85)(v:Valid c hs):HU (step c hs) where
 pk k p s l hp hk h q hq:=by
  (refine MH (o7 h) λr a b hr h1 h2 z1=>?_;subst z1);refine b8 (bg.1 hq) (λhq=>?_) λhq=>?_
  .exact Dc (ho r hr) (v.arg r hr) hp hk h1 q hq
  .exact Di v.h hk h2 q hq
 tn p s l h:=by(refine MH (o7 h) λr a b hr h1 h2 z1=>?_;subst z1);rw[ao];have:=oZ h1;have:=ud h2;exact Xf (by assumption) this
section
variable {X Y:Int->cW->Prop}{s t:cW}
theorem lX.take (h:lX X s)(k:Nat):lX X (s.take k):=λi g e e2=>by
 have hi:i<k:=by have:=(aC.1 e).1;rw[cv]at this;exact Xe this
 rw[Ac hi]at e;rw[List.take_take,xl (FO hi)];exact h i g e e2
theorem lX.app (h:lX X s)(ht:∀x∈t,x<0):lX X (s++t):=λi g e e2=>by
 by_cases hi:i<s.length
 .rw[aZ hi]at e;rw[vG (FO hi)];exact h i g e e2
 .rw[cB (Ml hi)]at e;have:=ht g (aJ e);exact(Xd e2 this).elim
theorem lX.one {g:Int}(h:lX X s)(hg:X g (s++[g])):lX X (s++[g]):=λi a e e2=>by
 by_cases hi:i<s.length
 .rw[aZ hi]at e;rw[vG (FO hi)];exact h i a e e2
 .have hl:=(aC.1 e).1;rw[ao]at hl;have hl:i<s.length+1:=hl;have hi:i=s.length:=by exact Mk hi hl
  subst hi;rw[cB (aO _),oB]at e;obtain rfl:=aj e;rw[BD (by rw[ao];exact aO _)];exact hg
end
theorem Js:∀x∈([-1]:cW),x<0:=λx hx=>by rw[au.1 hx];decide
set_option tactic.hygienic true in
theorem IL (c:List Row)(hs:List Hn):Ng (step c hs):=by
 intro p s l X hX h;(refine MH (o7 h) λr a b hr h1 h2 z1=>?_;subst z1);have Kd:lX (λg t=>X g t\/(g,t)∈a++b) s:=hX.imp λU U h=>.inl h;have sub:∀q∈a++b,(X q.1 q.2\/(q.1,q.2)∈a++b):=λq hq=>.inr hq;generalize hY:(λg t=>X g t\/(g,t)∈a++b)=Y at *;have sub:∀q∈a++b,Y q.1 q.2:=λq hq=>by rw[<- hY];exact .inr hq
 have hbe:lX Y (s.take (s.length-fP r)++made r.1):=(Kd.take _).app λx hx=>(Cq x hx).2;intro q hq;refine b8 (bg.1 hq) (λhq=>?_) λhq=>?_
 .refine tW (P:=λq=>lX Y q.2) h1 (λhq=>?_) Kd Kd (Kd.app Js) hbe hbe q hq;have:=sub _ (bS _ hq);have e:s++[-1,r.2.getD 0]=s++[-1]++[r.2.getD 0]:=by rw[aV];rfl
  dsimp only at this ⊢;rw[e]at this ⊢;exact(Kd.app Js).one this
 .unfold thrown at h2
  split at h2
  .obtain rfl:=aj h2;exact absurd hq ba
  rename_i hd e
  split at h2
  .obtain rfl:=aj h2;exact absurd hq ba
  split at h2
  .exact nomatch h2
  obtain rfl:=aj h2;have:=sub q (aU _ hq);rw[au.1 hq]at this ⊢;unfold H5 at this ⊢;dsimp only at this ⊢;induction hf:hd.f with
  |true =>rw[hf,if_pos rfl]at this;rw[if_pos rfl];exact((Kd.take _).app Js).one this
  |false =>rw[if_neg bq,aP];exact(Kd.take _).app Js
theorem orB {b:Bool}{R A B:Prop}(h:b=af->A)(h2:b=ag->R):if b=ag then R else if b=af then A else B:=by
 induction b
 .exact h2 rfl
 .exact h rfl
theorem aaw {b:Bool}{R A B:Prop}(h:b=af->R)(h2:b=ag->B):if b=af then R else if b=af then A else B:=by
 induction b
 .exact h2 rfl
 .exact h rfl
theorem AY {p:Prop}[Decidable p]{R A B:Prop}(h:p->A)(h2:¬p->R):if decide p=ag then R else if decide p=af then A else B :=
 orB (λe=>h (of_decide_eq_true e)) λe=>h2 (of_decide_eq_false e)
theorem vj {p:Prop}[Decidable p]{R A B:Prop}(h:p->R)(h2:¬p->B):if decide p=af then R else if decide p=af then A else B :=
 aaw (λe=>h (of_decide_eq_true e)) λe=>h2 (of_decide_eq_false e)
structure hJ (σ:bo)(n:Nat)(c:List Row)(h:List Hn):Prop where
 i:σ[n]?=aa (.inst (uF n JJ 1))
 c:σ[n+1]?=aa (.list (c.map cV))
 h:σ[n+2]?=aa (.list (h.map hV))
theorem hJ.app {n:Nat}{h:List Hn}(u:hJ σ n c h)(τ:bo):hJ (σ++τ) n c h:=⟨O6 u.i,O6 u.c,O6 u.h⟩
theorem hJ.dm {n:Nat}{h:List Hn}(u:hJ σ n c h)(f:Nat){x:V}(hx:(uF n JJ 1)[f]?=aa x):yg σ (.loc n) f=aa x:=by refine(?_:KL (σ[n]?) f=_);rw[u.i];exact hx
theorem Am {n:Nat}{l:List V}(h:σ[n]?=aa (.list l)):items σ (.loc n)=aa l:=by refine(?_:(match σ[n]? with|some (.list l)=>aa l|_=>ae)=_);rw[h]
theorem GA (σ:bo)(h:o<85)(j:Nat)(s:Str)(hj:j<9)(e:kA j=s):fe σ .eq (.str (kA (kd o))) (.str s)=aa (decide (kd o=j)):=e▸kAe (kd o) (wU h) j hj
theorem Qi (σ:bo)(h:o<85)(j:Nat)(s:Str)(hj:j<9)(e:kB j=s):fe σ .eq (.str (kB (kd o))) (.str s)=aa (decide (kd o=j)):=e▸kBe (kd o) (wU h) j hj
section
variable {n:Nat}{hs:List Hn}
theorem yd (i:Int)(h:Q (.bool (decide (0<=i))) σ):Wp (cl (d+1) 5 [.int i] σ) Q E:=by
 refine call kJ 0 rfl rfl ?_;dsimp only[kJ,pI,cY,cq,cj,iq,ja,xw,eU,jH,jG,dG,dw,cZ,Gs,oz,sge,d5,d6,d4,ah];refine Gi rfl (Gi rfl (jq (λe=>?_) λe=>?_))
 .rw[decide_eq_true e]at h;exact h
 .exact h
theorem Kp (h:Q (.bool ag) σ):Wp (cl (d+1) 5 [.none] σ) Q E:=by refine call kJ 0 rfl rfl ?_;dsimp only[kJ,pI,cY,cq,cj,iq,ja,xw,eU,jH,jG,dG,dw,cZ,Gs,oz,d5,d6,d4,ah];exact Gi rfl h
theorem Ct (ho:r.1<85)(h:Q (.str (kA (kd r.1))) σ):Wp (cl (d+1) 1 [.int r.1] σ) Q E:=by refine call pA 0 rfl rfl ?_;dsimp only[pA,vi,cY,cq,sL,cA,dG,dw,cZ,Gs,d5,d6,d4,ah];exact HY G0 (gA _ ho) rfl h
theorem Jm (ho:r.1<85)(h:Q (.int (pt r.1)) σ):Wp (cl (d+1) 3 [.int r.1] σ) Q E:=by refine call nJ 0 rfl rfl ?_;dsimp only[nJ,sm,cY,cq,sL,cA,dG,dw,cZ,Gs,d5,d6,d4,ah];exact HY G0 (gA _ ho) rfl h
theorem dO.g7 (h:dO n r)(e:kd r.1=7):∃g:Nat,r.2=aa (g:Int):=by unfold dO at h;rw[if_neg (Xv e)]at h;obtain⟨g,e2,h,_⟩:=h;exact⟨g.toNat,by rw[e2,gi h]⟩
theorem EL (ho:r.1<85)(ha:dO n r)(h:Q (.int (fP r)) σ):Wp (cl (d+1) 2 [.int r.1,oV r.2] σ) Q E:=by
 refine call lB 0 rfl rfl ?_;dsimp only[lB,oS,cY,cq,sL,eR,cj,jb,cA,eU,dG,dw,cZ,Gs,Tb,d5,d6,d4,ah,ai];refine QF G0 (gA _ ho) rfl G0 (gA _ ho) (jh rfl (GA _ ho 7 _ (by decide) rfl) (jq (λe=>?_) λe=>?_))
 .obtain⟨g,e2⟩:=ha.g7 e;rw[e2];have q:fP r=tk r.1+g:=by unfold fP;rw[if_pos e,e2];rfl
  rw[q]at h;exact h
 .have q:fP r=tk r.1:=by unfold fP;rw[if_neg e];rfl
  rw[q]at h;refine(?_:Q (.int (tk r.1+0)) σ);rw[fT];exact h
theorem qk (i:Int):∀l:List Int,qm (.int i) (l.map .int)=aa (decide (i∈l))
 |[]=>rfl
 |a::l=>by
  refine(?_:(match sX (.int a) (.int i),qm (.int i) (l.map .int)with|some a,aa b=>aa (a||b)|_,_=>ae)=_);rw[qk i l];refine(?_:aa (decide (a=i)||decide (i∈l))=_);congr 1;rw[<- yo];refine decide_eq_decide.2 ⟨λh=>?_,λh=>?_⟩
  .refine b8 h (λh=>?_) λh=>?_
   .rw[h];exact aR
   .exact bf _ h
  .exact(aN.1 h).imp fc id
theorem Cn (o:Nat)(l:List Nat):qm (.int o) (l.map λi:Nat=>V.int i)=aa (decide (o∈l)):=by have h:=qk o (l.map cM);rw[tc]at h;refine h.trans (congrArg aa (decide_eq_decide.2 ⟨λh=>?_,λh=>bX.2 ⟨o,h,rfl⟩⟩));refine dC (bX.1 h) λa h e=>?_;have:a=o:=Int.ofNat.inj e;exact this▸h
theorem JF (h:Q (.bool (decide (r.1∈vV))) σ):Wp (cl (d+1) 4 [.int r.1] σ) Q E:=by refine call rH 0 rfl rfl ?_;dsimp only[rH,xg,cq,sL,cj,eU,dG,dw,cZ,Gs,d5,d6,d4,ah];exact jh (show G[1]?=aa (.lst (vV.map λi:Nat=>V.int i))from rfl) (Cn r.1 vV) h
noncomputable def HI (n k:Nat):Int:=if k=1\/k=2 then 2 else if k=3 then 1 else if k=4 then 0 else if k=5 then 0 else if k=6 then n else if k=8 then 0 else -1
theorem HH (u:hJ σ n c hs)(hc:c.length<5000)(ho:r.1<85)(h:Q (.int (HI c.length (kd r.1))) σ):Wp (cl (d+1) 6 [.loc n,.str (kA (kd r.1))] σ) Q E:=by
 refine call pz 0 rfl rfl ?_;dsimp only[pz,vh,cY,cq,AD,cj,mC,jb,dR,eQ,eU,jH,jG,dW,dG,dw,cZ,Gs,Tb,PU,oz,qU,d5,d6,d4,ah,ai];have two:kd r.1=1\/kd r.1=2->Gt (yg σ (.loc n) 3) λz=>Gt (items σ z) λl=>l.length<lim/\Q (.int l.length) σ:=λe=>by unfold HI at h;rw[if_pos e]at h;exact jh (u.dm 3 rfl) rfl ⟨lm rfl,h⟩
 refine Gi (GA _ ho 1 _ (by decide) rfl) (AY (λe=>two (.inl e)) λe1=>Gi (GA _ ho 2 _ (by decide) rfl) (AY (λe=>two (.inr e)) λe2=>?_));unfold HI at h;rw[if_neg (λe=>e.elim e1 e2)]at h;refine Gi (GA _ ho 3 _ (by decide) rfl) (jq (λe=>?_) λe=>?_)
 .rw[if_pos e]at h;exact Gi (u.dm 7 rfl) h
 rw[if_neg e]at h;refine Gi (GA _ ho 4 _ (by decide) rfl) (jq (λe=>?_) λe=>?_)
 .rw[if_pos e]at h;exact Gi (u.dm 8 rfl) h
 rw[if_neg e]at h;refine Gi (GA _ ho 5 _ (by decide) rfl) (jq (λe=>?_) λe=>?_)
 .rw[if_pos e]at h;exact jh (u.dm 9 rfl) rfl ⟨lm rfl,h⟩
 rw[if_neg e]at h;refine Gi (GA _ ho 6 _ (by decide) rfl) (jq (λe=>?_) λe=>?_)
 .rw[if_pos e]at h;refine jh (u.dm 2 rfl) (Am u.c) ⟨show _<100000 by rw[ak];exact qh hc,?_⟩;rw[ak];exact h
 rw[if_neg e]at h;refine Gi (GA _ ho 8 _ (by decide) rfl) (jq (λe=>?_) λe=>?_)
 .rw[if_pos e]at h;exact jh (u.dm 4 rfl) rfl ⟨lm rfl,h⟩
 rw[if_neg e]at h;exact h
end
section
variable {n:Nat}{hs:List Hn}
theorem hJ.row (u:hJ σ n c hs)(h0:0<=pc)(hp:c[pc.toNat]?=aa r)(hc:c.length<5000):hU σ (.loc (n+1)) (.int pc)=aa (cV r):=by have:=(aC.1 hp).1;rw[DM _ u.c,zU σ h0 (by rw[ak];exact Xu h0 this) (by rw[ak];exact qh hc),cy,hp];rfl
theorem Pj (n:Nat):∀k,k<9->k≠0->(k=7/\HI n k = -1)\/(k≠7/\HI n k=Kr n k/\0<=Kr n k)
 |0,_,h=>absurd rfl h
 |1,_,_|2,_,_=>.inr ⟨by decide,rfl,show(0:Int)<=2 by decide⟩
 |3,_,_=>.inr ⟨by decide,rfl,show(0:Int)<=1 by decide⟩
 |4,_,_|5,_,_|8,_,_=>.inr ⟨by decide,rfl,show(0:Int)<=0 by decide⟩
 |6,_,_=>.inr ⟨by decide,rfl,eM n⟩
 |7,_,_=>.inl ⟨rfl,rfl⟩
 |k+9,h,_=>by exact Xs h
theorem PO (u:hJ σ n c hs)(hc:c.length<5000)(h0:0<=pc)(hp:c[pc.toNat]?=aa r)(ho:r.1<85)(h:dO c.length r->Q .none σ)(he:¬dO c.length r->E σ):Wp (cl (d+2) 7 [.loc n,.int pc] σ) Q E:=by
 refine call nS 4 rfl rfl ?_;dsimp only[nS,sC,cY,cq,sL,cj,iq,mC,ja,cA,dR,dz,xw,dT,ez,eU,yI,jH,jG,ew,fJ,dW,dG,iE,dw,cZ,Gs,Tb,oz,QZ,vF,qU,MV,d5,d6,d4,gu,az,aD,ah,ai];refine jh (u.dm 2 rfl) (u.row h0 hp hc) ?_;dsimp only[cV,mS,i8,i7,Gs,xh,az,aD,ah,ai,aF,aG];refine⟨rfl,yd _ ?_⟩;rw[decide_eq_true (eM _)];dsimp only[oz,qU,MV,nT];refine jh (rfl:G[2]?=aa (.int 85)) rfl (AY (λe=>by exact(Xr ho e).elim) λU=>Ct ho (Gi (GA _ ho 0 _ (by decide) rfl) (jq (λe=>?_) λe=>?_)))
 .unfold dO at h he;rw[if_pos e]at h he;induction e2:r.2 with
  |none=>exact h e2
  |some g=>exact he λq=>nomatch e2.symm.trans q
 .unfold dO at h he;rw[if_neg e]at h he;refine HH u hc ho ?_;induction e2:r.2 with
  |none =>refine Kp ?_;dsimp only[Gs,oz,sle,vF,MU,nF];exact he λz_=>by obtain⟨g,q,_⟩:=z_;exact nomatch e2.symm.trans q
  |some g =>
   refine yd _ ?_;by_cases h1:0<=g
   .rw[decide_eq_true h1];dsimp only[Gs,oz,sle,qU,MV,nT];have hk:=wU ho;have bad:¬(kd r.1=7\/g<Kr c.length (kd r.1))->E σ:=λq=>he λ⟨g2,q1,q2,q3,q4⟩=>by
     cases e2.symm.trans q1
     exact q q3
    have rest:(kd r.1=7\/g<Kr c.length (kd r.1))->Gt (fe σ .eq (.str (kA (kd r.1))) (.str (st "s"))) λQc=>if Qc=af then Gt (yg σ (.loc n) 3) λz=>Gt (hU σ z (.int g)) λz=>Gt (Bc 2 z) λb=>if(!b)=af then E σ else if(!b)=af then E σ else Q .none σ else if Qc=af then E σ else Q .none σ:=λq=>by
     refine Gi (GA _ ho 2 _ (by decide) rfl) (vj (λe3=>?_) λe3=>h ⟨g,e2,h1,q,λq=>absurd q e3⟩);have q2:g<2:=q.elim (λq=>by exact Xq e3 q) λq=>by rw[e3]at q;exact q
     refine Gi (u.dm 3 rfl) ?_;by_cases e4:g=1
     .subst e4;exact h ⟨1,e2,h1,q,λU=>rfl⟩
     .have e5:g=0:=by exact Xp h1 q2 e4
      subst e5;refine he λ⟨g2,q1,_,_,q4⟩=>?_;cases e2.symm.trans q1;exact absurd (q4 e3) (by decide)
    rcases Pj c.length (kd r.1) hk e with⟨e7,eb⟩|⟨e7,eb,b0⟩
    .rw[eb];exact rest (.inl e7)
    .rw[eb];refine jq (λU=>AY (λb1=>bad λq=>q.elim e7 λq=>by exact Xn e7 b1 (by assumption)) λb1=>rest (.inr (Mn b1))) λq=>absurd b0 q
   .rw[decide_eq_false h1];dsimp only[Gs,oz,sle,vF,MU,nF];exact he λ⟨g2,q1,q2,_⟩=>by
     cases e2.symm.trans q1
     exact h1 q2
end
section
variable {n:Nat}{hs:List Hn}
theorem zC (v:V)(h:Q .none σ):Wp (cl (d+1) 8 [v,.none] σ) Q E:=by refine call oP 1 rfl rfl ?_;exact h
theorem Ka (u:hJ σ n c hs)(hc:c.length<5000)(h0:0<c.length)(h:Q .none σ):Wp (cl (d+2) 9 [.loc n] σ) Q E:=by refine call qy 4 rfl rfl ?_;refine Gi (u.dm 14 rfl) ?_;dsimp only[cY,cq,eI,AD,cj,iq,mC,dR,dz,eQ,dT,ez,eU,jH,jG,er,dW,fH,iE,dw,cZ,BO,Gs,Tb,PU,oz,qW,Le,AQ,QV,JY,DG,vF,qU,li0,KS,d5,d6,d4,gu,aD,ah];refine Gi (u.dm 12 rfl) (zC _ (Gi (u.dm 13 rfl) (zC _ (jh (u.dm 14 rfl) rfl ⟨lm rfl,jh (u.dm 1 rfl) rfl ⟨lm rfl,AY (λe=>absurd e (by decide)) λU=>jh (u.dm 2 rfl) (Am u.c) ⟨show _<100000 by rw[ak];exact qh hc,?_⟩⟩⟩))));rw[ak];refine AY (λe=>by exact(Xk h0 e).elim) λU=>Gi (u.dm 6 rfl) ⟨lm rfl,Gi (a:=ag) rfl (Gi (u.dm 4 rfl) h)⟩
theorem C8 (a b:Hn)(h:b.s<=a.s/\a.e<=b.e->Q (.bool af) σ)(h2:¬(b.s<=a.s/\a.e<=b.e)->Q (.bool ag) σ):Wp (cl (d+1) 10 [hV a,hV b] σ) Q E:=by
 refine call se 0 rfl rfl ?_;refine Gi rfl (Gi rfl (Gi rfl (jq (λe=>Gi rfl (Gi rfl (Gi rfl (jq (λe2=>h ⟨e,e2⟩) λe2=>?_)))) λe=>?_)))
 .rw[decide_eq_false e2];exact h2 λq=>e2 q.2
 .rw[decide_eq_false e];exact h2 λq=>e q.1
end
section
variable {n:Nat}{hs:List Hn}
def MT:List S:=[.ite (.and [.cmp (.sub (.v 3) (.k (.int 0))) [.lt] [.sub (.v 4) (.k (.int 1))],.cmp (.sub (.v 4) (.k (.int 0))) [.lt] [.sub (.v 3) (.k (.int 1))],.not (.call 10 [.v 3,.v 4])]) [.raise (.k (.str (st "handlers across one another"))) (.sub (.v 3) (.k (.int 0)))] []]
inductive JI (v0 v1 v2:Option V)(a:Hn)(σ:bo)(A:Vs->bo->Prop)(E:bo->Prop)(vl:List V):Vs->bo->Prop
 |mk (a4:Option V) (l:List Hn):vl=l.map hV->((∀b∈l,mf a b)->∀a4,A [v0,v1,v2,aa (hV a),a4] σ)->(¬(∀b∈l,mf a b)->E σ)->JI v0 v1 v2 a σ A E vl [v0,v1,v2,aa (hV a),a4] σ
theorem lO (a:Hn)(l:List Hn)(a4:Option V)
  (h:(∀b∈l,mf a b)->∀a4,A [v0,v1,v2,aa (hV a),a4] σ)(he:¬(∀b∈l,mf a b)->E σ) :
  Wp (jc (.n 4) (λvs σ=>l5 G (cl (d+1)) 1000 MT vs σ) (l.map hV) [v0,v1,v2,aa (hV a),a4] σ) (tO A K) E:=by
 refine oo (JI v0 v1 v2 a σ A E) ?_ ?_ _ _ _ (.mk a4 l rfl h he)
 .clear h he;intro x vl vs τ I;induction I with|mk a4 l e h he=>?_
  induction l using List.casesOn with
  |nil=>exact nomatch e
  |cons b l =>
   (obtain⟨rfl,rfl⟩:=eZ e);have yes:mf a b->tO (JI v0 v1 v2 a σ A E (l.map hV)) K (.nx,[v0,v1,v2,aa (hV a),aa (hV b)]) σ:=λp =>
    JI.mk _ l rfl (λq=>h λb' hb=>(aN.1 hb).elim (λe=>e▸p) (q b')) λq=>he λq2=>q λb' hb=>q2 b' (bf _ hb)
   refine Gi rfl (fF _ _ _ _ _ _ _ _ _ ?_);unfold MT;dsimp only[cY,cq,cj,iq,ja,cA,dz,dT,ez,eU,jH,jG,dW,iE,dw,cZ,Gs,Tb,oz,vF,ah,ai,aF,aG];refine HY rfl rfl rfl (vj (λe1=>HY rfl rfl rfl (vj (λe2=>?_) λe2=>yes λU q=>absurd q e2)) λe1=>yes λq=>absurd q e1);refine C8 a b (λp=>?_) λp=>?_
   .exact yes λU U=>p
   .exact Gi rfl (he λq=>p (q b aR e1 e2))
 .clear h he;intro vs τ I;induction I with|mk a4 l e h he=>?_
  induction l using List.casesOn with
  |nil=>exact h (λU hb=>absurd hb ba) a4
  |cons b l=>exact nomatch e
def lG (m:Nat)(l:List Hn):Prop:=(∀h∈l,Eh m h)/\l.Pairwise mf
theorem lG.cons {a:Hn}{l:List Hn}:lG m (a::l)<->Eh m a/\(∀b∈l,mf a b)/\lG m l:=by unfold lG;rw[List.pairwise_cons];exact⟨λh=>⟨h.1 a aR,h.2.1,λb hb=>h.1 b (bf _ hb),h.2.2⟩,λh=>⟨λb hb=>(aN.1 hb).elim (λe=>e▸h.1) (h.2.2.1 b),h.2.1,h.2.2.2⟩⟩
theorem tE {l:List α}{a:α}(h:l[i]?=aa a):l.drop i=a::l.drop (i+1):=by obtain⟨hi,e⟩:=aC.1 h;rw[<- e];exact l4 hi
noncomputable def C1:X:=.or [.not (.cmp (.k (.int 0)) [.le,.lt,.le] [.sub (.v 3) (.k (.int 0)),.sub (.v 3) (.k (.int 1)),.v 1]),.not (.cmp (.k (.int 0)) [.le,.lt] [.sub (.v 3) (.k (.int 2)),.v 1]),.not (.call 5 [.sub (.v 3) (.k (.int 3))])]
noncomputable def C2:X:=.cmp (.sub (.v 3) (.k (.int 0))) [.le,.lt] [.sub (.v 3) (.k (.int 2)),.sub (.v 3) (.k (.int 1))]
theorem Gd {p:Prop}[Decidable p]{R A B:Prop}(h:¬p->A)(h2:p->R):if(!decide p)=ag then R else if(!decide p)=af then A else B :=
 orB (λe=>h λq=>by rw[decide_eq_true q]at e;exact nomatch e) λe=>h2 (of_decide_eq_true (by cases q:decide p;rw[q]at e;exact nomatch e;rfl))
theorem aak  {a:Hn}{A:bo->Prop}(h:(0<=a.s/\a.s<a.e/\a.e<=m)/\(0<=a.h/\a.h<m)/\0<=a.d->B σ)(he:¬((0<=a.s/\a.s<a.e/\a.e<=m)/\(0<=a.h/\a.h<m)/\0<=a.d)->A σ) :
  we G (cl (d+1)) [v0,aa (.int m),v2,aa (hV a),v4] E C1 [] σ λx σ=>Tw x (A σ) (B σ):=by
 unfold C1;dsimp only[cY,cq,cj,mC,ja,cA,dz,dT,ez,eU,yI,jH,jG,Gs,Tb,oz,vF,qU,MU,nF,ah,ai];refine jh rfl rfl (jq (λe1=>jh rfl rfl (jq (λe2=>Gi rfl (Gd (λe3=>he λq=>e3 q.1.2.2) λe3=>jh rfl rfl (jq (λe4=>Gi rfl (Gd (λe5=>he λq=>e5 q.2.1.2) λe5=>Gi rfl (yd _ ?_))) λe4=>?_))) λe2=>?_)) λe1=>?_)
 .exact Gd (p:=0<=a.d) (λe=>he λq=>e q.2.2) λe=>h ⟨⟨e1,e2,e3⟩,⟨e4,e5⟩,e⟩
 .exact he λq=>e4 q.2.1.1
 .exact he λq=>e2 q.1.2.1
 .exact he λq=>e1 q.1.1
theorem aaj {a:Hn}{A:bo->Prop}(h:a.s<=a.h/\a.h<a.e->A σ)(he:¬(a.s<=a.h/\a.h<a.e)->B σ) :
  we G (cl (d+1)) [v0,v1,v2,aa (hV a),v4] E C2 [] σ λx σ=>Tw x (A σ) (B σ):=by
 unfold C2;dsimp only[cY,cq,cj,cA,eU,yI,Gs,Tb,qU,ah,ai];exact HY rfl rfl rfl (jq (λe1=>jh rfl rfl (jq (λe2=>h ⟨e1,e2⟩) λe2=>he λq=>e2 q.2)) λe1=>he λq=>e1 q.1)
inductive JK (σ:bo)(n:Nat)(c:List Row)(hs:List Hn)(Q:V->bo->Prop)(E:bo->Prop)(i:Nat):Vs->bo->Prop
 |mk (a2 a3 a4:Option V):(lG c.length (hs.drop i)->Q .none σ)->(¬lG c.length (hs.drop i)->E σ)->JK σ n c hs Q E i [aa (.loc n),aa (.int c.length),a2,a3,a4] σ
theorem Zq (u:hJ σ n c hs)(hc:c.length<5000)(hh:hs.length<900)(h:lG c.length hs->Q .none σ)(he:¬lG c.length hs->E σ):Wp (cl (d+2) 11 [.loc n] σ) Q E:=by
 refine call jz 4 rfl rfl ?_;dsimp only[jz,lT,cq,dR,eQ,Np,ew,fH,dw,cZ,Gs,acA,d5,d6,d4,gu,ah,aF,aG];refine jh (u.dm 2 rfl) (Am u.c) ⟨show _<100000 by rw[ak];exact qh hc,?_⟩;rw[ak];have hw:Hy (.loc (n+2)) σ=.ok (.live (n+2) af) σ:=by unfold Hy;rw[qv u.h];rfl
 refine Gi (u.dm 5 rfl) ?_;rw[hw];refine ke (hs.map hV) (JK σ n c hs Q E) ?_ ?_ ?_ 1000 0 _ _ (bL _) (by rw[ak];exact FP hh) (.mk _ _ _ h he)
 .intro i vs τ I;induction I with|mk=>exact u.h
 .clear h he;intro i v vs τ hv I;induction I with|mk a2 a3 a4 h he=>?_
  (refine dC (nE hv) λa ha z1=>?_;subst z1);rw[tE ha,lG.cons]at h he;have hi:i<hs.length:=(aC.1 ha).1;refine Gi (a:=[aa (.loc n),aa (.int c.length),aa (.int i),aa (hV a),a4]) rfl (fF _ _ _ _ _ _ _ _ _ ?_);dsimp only[cZ,dW];refine aak (λp1=>aaj (λp2=>?_) λp2=>?_) λp1=>?_
  .dsimp only[cY,cq,eR,cA,tT,dR,fH,iE,dw,Gs,ON,ah,ai];exact Gi rfl (he λq=>q.1.2.2.2 p2)
  .dsimp only[cY,cq,eR,tT,dR,fH,dw,Gs,Ig,ON,ah,ai];have e:(hs.map hV).drop ((i:Int)+1).toNat=(hs.drop (i+1)).map hV:=by rw[show((i:Int)+1).toNat=i+1 by lia,Ab]
   refine Gi (u.dm 5 rfl) (slK u.h Mm (Xg hh hi) (by rw[ak];exact zt hh) ?_);dsimp only[BO,DG,KS];rw[e];refine lO a (hs.drop (i+1)) a4 (λp3 a4=>JK.mk _ _ _ (λp4=>h ⟨⟨p1.1,p1.2.1,p1.2.2,p2⟩,p3,p4⟩) λp4=>he λq=>p4 q.2.2) λp3=>he λq=>p3 q.2.1
  .dsimp only[cY,cq,eR,cj,cA,tT,dR,eU,yI,fH,iE,dw,Gs,Tb,ON,qU,ah,ai];exact Gi rfl (he λq=>p1 ⟨q.1.1,q.1.2.1,q.1.2.2.1⟩)
 .clear h he;intro vs τ I;induction I with|mk a2 a3 a4 h _=>?_
  rw[ak,mY]at h;exact h ⟨λU q=>absurd q ba,.nil⟩
end
noncomputable def tV (s:cW):V:=.tup (s.map .int)
def eA (q:Int×cW):V:=.tup [.int q.1,tV q.2]
section
variable {n:Nat}{hs:List Hn}
noncomputable def ohV:Option Hn->V
 |none=>.none
 |some h=>hV h
theorem F4 {a:Hn}{l:List Hn}(h:a.s<=pc/\pc<a.e):over (a::l) pc=aa a:=List.find?_cons_of_pos (p:=λh:Hn=>decide (h.s<=pc/\pc<h.e)) (decide_eq_true h)
theorem Jp {a:Hn}{l:List Hn}(h:¬(a.s<=pc/\pc<a.e)):over (a::l) pc=over l pc:=List.find?_cons_of_neg (p:=λh:Hn=>decide (h.s<=pc/\pc<h.e)) (by rw[decide_eq_false h];exact bq)
theorem aau (pc:Int){k:Nat}(hk:σ[k]?=aa (.list (hs.map hV)))(hh:hs.length<900)(h:Q (ohV (over hs pc)) σ):Wp (cl (d+1) 12 [.loc k,.int pc] σ) Q E:=by
 refine call ml 1 rfl rfl ?_;dsimp only[ml,qN,cY,cq,fH,dG,dw,cZ,Gs,zQ,d5,d6,d4,gu,ah];have hw:iY (.loc k) σ=.ok (.live k ag) σ:=by refine(?_:(if uQ σ (.loc k)then R.ok (IK.live k ag) σ else R.bad)=_);rw[qv hk];rfl
 rw[hw];refine ke (hs.map hV) (λi vs τ=>τ=σ/\(∃a2,vs=[aa (.loc k),aa (.int pc),a2])/\over hs pc=over (hs.drop i) pc) ?_ ?_ ?_ 1000 0 _ _ (bL _) (by rw[ak];exact FP hh) ⟨rfl,⟨_,rfl⟩,rfl⟩
 .rintro i vs τ ⟨rfl,_⟩;exact hk
 .rintro i v vs τ hv ⟨rfl,⟨a2,rfl⟩,e⟩;(refine dC (nE hv) λa ha z1=>?_;subst z1);refine Gi (a:=[aa (.loc k),aa (.int pc),aa (hV a)]) rfl (fF _ _ _ _ _ _ _ _ _ ?_);dsimp only[cY,cq,cj,cA,eU,yI,dW,dG,dw,cZ,Gs,Tb,qU,ah,ai];rw[tE ha]at e;have no:¬(a.s<=pc/\pc<a.e)->over hs pc=over (hs.drop (i+1)) pc:=λp=>by rw[Jp p]at e;exact e
  refine jh rfl rfl (jq (λe1=>jh rfl rfl (jq (λe2=>?_) λe2=>?_)) λe1=>?_)
  .rw[F4 ⟨e1,e2⟩]at e;rw[e]at h;exact h
  .exact⟨rfl,⟨_,rfl⟩,no λq=>e2 q.2⟩
  .exact⟨rfl,⟨_,rfl⟩,no λq=>e1 q.1⟩
 .rintro vs τ ⟨rfl,⟨a2,rfl⟩,e⟩;rw[ak,mY]at e;rw[e]at h;exact h
theorem EK (s t:cW):s.map V.int++t.map V.int=(s++t).map V.int:=bM.symm
theorem OL {a:Hn}{s:cW}(h0:0<=a.d)(h1:a.d<=s.length)(hl:s.length<50000)(h:Q (tV (H5 a s)) σ):Wp (cl (d+1) 13 [hV a,tV s] σ) Q E:=by
 refine call iQ 1 rfl rfl ?_;dsimp only[iQ,kN,tV,cY,cq,sL,dX,eR,jb,cA,tU,dT,ez,ew,dG,dw,cZ,Gs,d5,d6,d4,gu,az,aD,ah,ai,aF,aG];have hm:(s.map V.int).length=s.length:=ak _;refine Gi rfl (shT h0 (by rw[hm];exact Xj h1) (by rw[hm];exact ur hl) ?_);have e:(s.map V.int).take a.d.toNat++[V.int (-1)]=(s.take a.d.toNat++[-1]).map V.int:=by rw[<- mB,<- EK];rfl
 have Bm:(s.take a.d.toNat++[-1]).length<=s.length+1:=by rw[ao,cv];exact gn (Nat.min_le_right _ _)
 refine Gi (rfl:G[3]?=aa (.int (-1))) ⟨lm rfl,?_⟩;dsimp only[cat,az,aD];rw[e];refine⟨show _<100000 by rw[cv,hm];show _+1<_;exact Xi h1 hl,Gi rfl ?_⟩;unfold H5 at h;induction hf:a.f with
 |true =>rw[hf]at h;refine Gi rfl ⟨lm rfl,show _<100000 by rw[ak];show _+1<_;exact Xh hl Bm,?_⟩;rw[if_pos rfl,tV,<- EK]at h;exact h
 |false =>rw[hf,if_neg bq,aP]at h;exact h
end
section
variable {n:Nat}{hs:List Hn}
theorem y5 (s:cW):(s.map V.int).length=s.length:=ak _
theorem y6 (u:hJ σ n c hs)(hc:c.length<5000)(hh:hs.length<900)(hd:∀h∈hs,0<=h.d)(h0:0<=pc)(hp:c[pc.toNat]?=aa r){s:cW}(hl:s.length<50000)
  (h:∀l,thrown hs r.1 pc s=aa l->Q (.lst (l.map eA)) σ)(he:thrown hs r.1 pc s=ae->E σ):Wp (cl (d+2) 14 [.loc n,.int pc,tV s] σ) Q E:=by
 refine call lA 1 rfl rfl ?_;dsimp only[lA,oR,tV,cY,cq,sL,dX,eI,cj,mC,cA,dR,dz,eQ,dT,ez,eU,jH,jG,ew,dW,dG,iE,dw,cZ,Gs,Tb,oz,qW,P9,acv,qU,d5,d6,d4,gu,az,aD,ah,ai,aF,aG];refine Gi (u.dm 5 rfl) (aau pc u.h hh ?_);unfold thrown at h he;induction e:over hs pc with
 |none =>rw[e]at h;exact⟨lm rfl,h _ rfl⟩
 |some a =>
  rw[e]at h he;have ha:=hd a (lZ e);refine QF (u.dm 2 rfl) (u.row h0 hp hc) rfl (show G[4]?=aa (.lst (Ji.map λi:Nat=>V.int i))from rfl) (Cn r.1 Ji) (AY (λq=>?_) λq=>?_)
  .exact⟨lm rfl,h _ (if_pos q)⟩
  .dsimp only at h he;rw[if_neg q]at h he;refine⟨show _<100000 by rw[y5];exact ur hl,Gi rfl (jq (λe1=>?_) λe1=>?_)⟩
   .rw[y5]at e1;exact he (if_pos e1)
   .rw[y5]at e1;exact Gi rfl (OL ha (Mj e1) hl ⟨lm rfl,lm rfl,h _ (if_neg e1)⟩)
noncomputable def jJ (b:Bool)(x:Int):Bool:=x != -1&&!(b&&x == -3)
inductive JD (th:cW)(v1:V)(b:Bool)(σ:bo)(Q:V->bo->Prop)(E:bo->Prop)(vl:List V):Vs->bo->Prop
 |mk (a3:Option V) (l:cW):vl=l.map V.int->(l.any (jJ b)=ag->Q .none σ)->(l.any (jJ b)=af->E σ)->JD th v1 b σ Q E vl [aa (tV th),aa v1,aa (.bool b),a3] σ
theorem Jt (v1:V)(b:Bool)(th:cW)(h:th.any (jJ b)=ag->Q .none σ)(he:th.any (jJ b)=af->E σ):Wp (cl (d+1) 15 [tV th,v1,.bool b] σ) Q E:=by
 refine call lC 1 rfl rfl ?_;dsimp only[lC,oU,tV,cq,fH,dw,cZ,BO,Gs,zQ,Zh,KS,d5,d6,d4,gu,ah];refine oo (JD th v1 b σ Q E) ?_ ?_ _ _ _ (.mk _ th rfl h he)
 .clear h he;intro x vl vs τ I;induction I with|mk a3 l e h he=>?_
  induction l using List.casesOn with
  |nil=>exact nomatch e
  |cons x l =>
   (obtain⟨rfl,rfl⟩:=eZ e);rw[eO]at h he;have go:jJ b x=ag->tO (JD th v1 b σ Q E (l.map V.int)) (λv U σ=>Q v σ) (.nx,[aa (tV th),aa v1,aa (.bool b),aa (.int x)]) σ:=λp=>by rw[p,q5]at h he;exact JD.mk _ l rfl h he
   have no:jJ b x=af->E σ:=λp=>he (by rw[p,BF]);refine Gi (a:=[aa (tV th),aa v1,aa (.bool b),aa (.int x)]) rfl (fF _ _ _ _ _ _ _ _ _ ?_);dsimp only[cY,cq,sL,cj,iq,ja,eU,jH,jG,dW,iE,dw,cZ,Gs,Tb,oz,vF,qU,nT,ah,ai];refine jh (show G[3]?=aa (.int (-1))from rfl) rfl (aaw (λe1=>?_) λe1=>?_)
   .have e1:(x != -1)=af:=e1;induction b with
    |true =>
     dsimp only[vF,qU,nT];refine jh (show G[5]?=aa (.int (-3))from rfl) rfl ?_;by_cases e2:x = -3
     .subst e2;exact go rfl
     .rw[beq_eq_false_iff_ne.2 e2];exact no (by unfold jJ;rw[e1,beq_eq_false_iff_ne.2 e2];rfl)
    |false=>exact no (by unfold jJ;rw[e1];rfl)
   .have e1:(x != -1)=ag:=e1;exact go (by unfold jJ;rw[e1,Bool.false_and])
 .clear h he;intro vs τ I;induction I with|mk a3 l e h he=>?_
  induction l using List.casesOn with
  |nil=>exact h rfl
  |cons b l=>exact nomatch e
theorem uo (x:V):∀k:Nat,mV [x] k=bF k x
 |0=>rfl
 |k+1=>congrArg (λl=>x::l) (uo x k)
theorem Ow (ho:o<85)(h:Q (tV (made o)) σ):Wp (cl (d+1) 16 [.int o,.int (pt o)] σ) Q E:=by
 have hp:=FY ho;refine call rF 0 rfl rfl ?_;dsimp only[rF,xf,cq,sL,dX,eR,cj,dT,ez,eU,dW,dG,dw,cZ,Gs,Tb,cmt,d5,d6,d4,az,aD,ah,ai];unfold made at h;refine jh (show G[6]?=aa (.int 70)from rfl) rfl (jq (λe=>?_) λe=>?_)
 .rw[if_pos (Xc e)]at h;exact Gi (show G[5]?=aa (.int (-3))from rfl) ⟨lm rfl,h⟩
 rw[if_neg (Xb e)]at h;refine jh (show G[7]?=aa (.int 76)from rfl) rfl (jq (λe=>?_) λe=>?_)
 .rw[if_pos (Xa e)]at h;exact Gi (show G[8]?=aa (.int (-2))from rfl) ⟨lm rfl,h⟩
 rw[if_neg (W9 e)]at h;refine Gi (show G[3]?=aa (.int (-1))from rfl) ⟨lm rfl,?_⟩;refine⟨⟨show _<100000 by show(pt o:Int).toNat*1<_;exact Mh hp,by exact zo,by exact Mg hp⟩,?_⟩;rw[cg,uo];unfold tV at h;rw[List.map_replicate]at h;exact h
theorem gT {th:cW}(σ:bo)(h:i<th.length)(hl:th.length<50000):hU σ (tV th) (.int i)=aa (.int (th.getD i 0)):=by unfold tV;rw[Z2 σ zo (by rw[y5];exact Jj h) (by rw[y5];exact ur hl),cg,cy,Ba h];rfl
theorem KJ {th:cW}(v:V)(h2:th.length=2)(h:th.getD 0 0 = -1/\0<=th.getD 1 0->Q (.lst []) σ)(he:¬(th.getD 0 0 = -1/\0<=th.getD 1 0)->E σ):Wp (cl (d+1) 18 [tV th,v] σ) Q E:=by refine call pe 0 rfl rfl ?_;dsimp only[pe,u7,cY,cq,sL,eI,cj,mC,cA,dT,eU,jH,jG,dW,dG,iE,dw,cZ,Gs,Tb,oz,qW,qU,d5,d6,d4,aD,ah,ai];refine Gi (gT (i:=0) _ (W7 h2) (Mf h2)) (jh (show G[3]?=aa (.int (-1))from rfl) rfl (Gd (λe=>he λq=>e q.1) λe=>Gi (gT (i:=1) _ (W6 h2) (Mf h2)) (Gi rfl (AY (λe2=>he λq=>by exact W0 e e2 q) λe2=>⟨lm rfl,h ⟨e,by exact FN e2⟩⟩))))
end
section
variable {n:Nat}{hs:List Hn}
def Ew:List S:=[.asg 8 (.bin .add ag (.v 7) (.call 16 [.v 3,.call 3 [.v 3]])),
 .asg 9 (.ite (.call 4 [.v 3]) (.lst af []) (.lst af [.tup [.bin .add ag (.v 1) (.k (.int 1)),.v 8]])),
 .ite (.cmp (.call 1 [.v 3]) [.eq] [.k (.str (st "t"))]) [.expr (.app (.v 9) (.tup [.v 4,.ite (.cmp (.v 3) [.ry] [.tup [.g 14,.g 15]]) (.v 2) (.v 8)]))] [],
 .ret (.v 9)]
def F9 (o:Nat)(pc:Int)(b:cW):Fd:=if o∈vV then[]else[(pc+1,b)]
def jmp (r:Row)(s b:cW):Fd:=if kd r.1=6 then[(r.2.getD 0,if r.1=61\/r.1=62 then s else b)]else[]
theorem dO.g6  (h:dO m r)(e:kd r.1=6):r.2=aa (r.2.getD 0):=by unfold dO at h;rw[if_neg (Mi e)]at h;(refine dC h λg e2 U=>?_;try clear h);rw[e2];rfl
theorem Iq (ho:r.1<85)(ha:dO m r)(pc:Int)(s be:cW)(hb:be.length<50000)(h:Q (.loc σ.length) (σ++[.list ((F9 r.1 pc (be++made r.1)++jmp r s (be++made r.1)).map eA)])) :
  iR G (cl (d+1)) 1000 E Ew [v0,aa (.int pc),aa (tV s),aa (.int r.1),aa (oV r.2),v5,v6,aa (tV be),ae,ae] σ A (λv U σ=>Q v σ):=by
 unfold Ew;have hm:=uD ho;refine Jm ho (Ow ho ⟨show(be.map V.int).length+((made r.1).map V.int).length<100000 by rw[y5,y5];exact W8 hb hm,JF ?_⟩);rw[EK];have fin:∀l:Fd,l.length<=1->Q (.loc σ.length) (σ++[.list ((l++jmp r s (be++made r.1)).map eA)])->Wp (cl (d+1) 1 [.int r.1] (σ++[.list (l.map eA)])) (λx yC=>Gt (fe yC .eq x (.str (st "t"))) λQc=>if Qc=af then uQ yC (.loc σ.length)=af/\Gt G[14]? λx_1=>Gt G[15]? λx_2=>2<lim/\Gt (fe yC .ry (.int r.1) (.tup [x_1,x_2])) λr_2=>if r_2=af then 2<lim/\Ls yC (.loc σ.length) λn l=>l.length<lim/\Q (.loc σ.length) (yC.set n (.list (l++[.tup [oV r.2,tV s]])))else 2<lim/\Ls yC (.loc σ.length) λn l=>l.length<lim/\Q (.loc σ.length) (yC.set n (.list (l++[.tup [oV r.2,.tup ((be++made r.1).map V.int)]])))else Q (.loc σ.length) yC) E:=λl hl h=>by
  refine Ct ho (Gi (GA _ ho 6 _ (by decide) rfl) (jq (λe=>⟨qv (gE _ _),?_⟩) λe=>?_))
  .have eg:=ha.g6 e;unfold jmp at h;rw[if_pos e]at h;rw[eg];refine jh (rfl:G[14]?=aa (.int 61)) (rfl:G[15]?=aa (.int 62)) ⟨lm rfl,Gi (qk r.1 [61,62]) (jq (λe2=>?_) λe2=>?_)⟩
   .rw[if_pos (by refine b8 (aN.1 e2) (λe=>?_) λe2=>?_;exact .inl (WX e);exact .inr (by have:=au.1 e2;exact WW this)),bM]at h;refine⟨lm rfl,Li (gE _ _) ⟨show _<100000 by rw[ak];exact Me hl,?_⟩⟩;rw[sE];exact h
   .rw[if_neg (λq=>e2 (by refine b8 q (λq=>?_) λq=>?_;rw[q];exact aR;rw[q];exact bf _ aR)),bM]at h;refine⟨lm rfl,Li (gE _ _) ⟨show _<100000 by rw[ak];exact Me hl,?_⟩⟩;rw[sE];exact h
  .unfold jmp at h;rw[if_neg e,aP]at h;exact h
 unfold F9 at h;refine jq (λe=>?_) λe=>?_
 .rw[if_pos e]at h;exact⟨lm rfl,fin [] (bL _) h⟩
 .rw[if_neg e]at h;exact⟨lm rfl,lm rfl,fin _ (aO _) h⟩
end
section
variable {n:Nat}{hs:List Hn}
theorem aat:xe=[.fY [.n 3,.n 4] (.sub (.dm (.v 0) 2) (.v 1)),
 .asg 5 (.call 2 [.v 3,.v 4]),
 .ite (.cmp (.len (.v 2)) [.lt] [.v 5]) [.raise (.k (.str (st "nothing on the stack"))) (.v 1)] [],
 .fY [.n 6,.n 7] (.tup [.xN (.v 2) (.bin .sub ag (.len (.v 2)) (.v 5)),.vE (.v 2) (.bin .sub ag (.len (.v 2)) (.v 5))]),
 .ite (.cmp (.v 3) [.eq] [.g 9]) [.ret (.lst ag [.tup [.v 4,.bin .add ag (.v 2) (.tup [.g 3,.v 4])],.tup [.bin .add ag (.v 1) (.k (.int 1)),.v 2]])] [],
 .ite (.cmp (.v 3) [.eq] [.g 10]) [.ret (.call 18 [.v 6,.v 1])] [],
 .ite (.cmp (.v 3) [.eq] [.g 11]) [.ite (.cmp (.sub (.v 6) (.k (.int 0))) [.ne] [.g 8]) [.raise (.k (.str (st "no keys to go through"))) (.v 1)] [],
  .ret (.lst ag [.tup [.v 4,.v 2],.tup [.bin .add ag (.v 1) (.k (.int 1)),.bin .add ag (.v 2) (.tup [.g 3])]])] [],
 .ite (.cmp (.v 3) [.ne] [.g 12]) [.expr (.call 15 [.v 6,.v 1,.cmp (.v 3) [.eq] [.g 13]])] []]++Ew:=rfl
theorem wM  (e:r.1=o)(k:Nat)(h:(tk o==k&&!(kd o==7))=af):fP r=k:=by unfold fP;rw[e];rw[bz]at h;rw[if_neg (λq=>by rw[q]at h;exact absurd h.2 (by decide)),eq_of_beq h.1];rfl
theorem g_k   (h:dO m r)(e:r.1=o)(k:(kd o==6)=af):r.2=aa (r.2.getD 0):=h.g6 (by rw[e];exact eq_of_beq k)
section
variable {s:cW}
theorem Wlo (h:s.length<fP r):dS r pc s=ae:=if_pos h
theorem Wgo (h:¬s.length<fP r)(e:r.1=78):dS r pc s=aa [(r.2.getD 0,s++[-1,r.2.getD 0]),(pc+1,s)]:=by unfold dS;rw[if_neg h,if_pos e]
theorem Wre (h:¬s.length<fP r)(e:r.1=79):dS r pc s=if(s.drop (s.length-fP r)).getD 0 0 = -1/\0<=(s.drop (s.length-fP r)).getD 1 0 then aa []else ae:=by unfold dS;rw[if_neg h,if_neg (WV e),if_pos e]
theorem Wnx (h:¬s.length<fP r)(e:r.1=77):dS r pc s=if(s.drop (s.length-fP r)).getD 0 0 = -2 then aa [(r.2.getD 0,s),(pc+1,s++[-1])]else ae:=by unfold dS;rw[if_neg h,if_neg (WU e),if_neg (WT e),if_pos e]
theorem Wel (h:¬s.length<fP r)(e1:r.1≠78)(e2:r.1≠79)(e3:r.1≠77):dS r pc s=if r.1≠6/\(s.drop (s.length-fP r)).any (jJ (r.1==69))=af then ae else aa (F9 r.1 pc (s.take (s.length-fP r)++made r.1)++jmp r s (s.take (s.length-fP r)++made r.1)):=by unfold dS;rw[if_neg h,if_neg e1,if_neg e2,if_neg e3];rfl
end
theorem Nr (u:hJ σ n c hs)(hc:c.length<5000)(h0:0<=pc)(hp:c[pc.toNat]?=aa r)(ho:r.1<85)(ha:dO c.length r){s:cW}(hl:s.length<40000)
  (h:∀l,dS r pc s=aa l->Q (.lst (l.map eA)) σ/\Q (.loc σ.length) (σ++[.list (l.map eA)]))(he:dS r pc s=ae->E σ):Wp (cl (d+2) 17 [.loc n,.int pc,tV s] σ) Q E:=by
 refine call rE 7 rfl rfl ?_;dsimp only[rE];rw[aat];have ht:∀(be:cW) (v6:Option V),be.length<40000->Q (.loc σ.length) (σ++[.list ((F9 r.1 pc (be++made r.1)++jmp r s (be++made r.1)).map eA)])->iR G (cl (d+1)) 1000 E Ew [aa (.loc n),aa (.int pc),aa (tV s),aa (.int r.1),aa (oV r.2),aa (.int (fP r)),v6,aa (tV be),ae,ae] σ (λU σ=>Q .none σ) (λv U σ=>Q v σ) :=
  λbe v6 hb h=>Iq ho ha pc s be (WI hb) h
 generalize Ew=tl at *;dsimp only[cY,cq,sL,dX,eI,eR,cj,cA,tT,tU,dR,dz,eQ,dT,ez,eU,er,ew,fJ,dW,dG,iE,dw,cZ,mS,i8,i7,Gs,Tb,xh,qW,d5,d6,d4,gu,az,aD,ah,ai,dU,eJ];refine jh (u.dm 2 rfl) (u.row h0 hp hc) ?_;dsimp only[cV,mS,i8,i7,Gs,xh,Ig,az,aD,ah,ai,aF,aG];refine⟨rfl,EL ho ha ?_⟩;have hm:(s.map V.int).length=s.length:=y5 s;refine Gi (rfl:items σ (tV s)=aa (s.map V.int)) ⟨show _<100000 by exact mF hl hm,Gi rfl (jq (λe=>?_) λe=>?_)⟩
 .rw[hm]at e;exact he (Wlo (Ma e))
 rw[hm]at e;have hn:¬s.length<fP r:=by exact L8 e
 have e1:((s.map V.int).length:Int)-(fP r:Nat)=(s.length-fP r:Nat):=by rw[hm];exact L7 e
 refine Gi (rfl:items σ (tV s)=aa (s.map V.int)) ⟨show _<100000 by exact mF hl hm,?_⟩;dsimp only[Qz];rw[e1];refine slT (Cf hm e e1) (by rw[hm];exact L5 hm e1) (mF hl hm) (Gi (rfl:items σ (tV s)=aa (s.map V.int)) ⟨show _<100000 by exact mF hl hm,?_⟩);refine(?_:CJ af σ (tV s) (.int (((s.map V.int).length:Int)-(fP r:Nat))) _);rw[e1];refine shT (Cf hm e e1) (by rw[hm];exact L5 hm e1) (mF hl hm) ⟨lm rfl,rfl,jh (rfl:G[9]?=aa (.int 78)) rfl (jq (λe=>?_) λe=>?_)⟩
 .have e:r.1=78:=by exact Wu e
  have eg:=g_k ha e (by decide +kernel);have hq:=(h _ (Wgo hn e)).1;rw[eg];refine Gi (rfl:G[3]?=aa (.int (-1))) ⟨lm rfl,show(s.map V.int).length+2<100000 by exact Wn hl hm,lm rfl,lm rfl,lm rfl,?_⟩;have q:s.map V.int++[V.int (-1),oV (aa (r.2.getD 0))]=(s++[-1,r.2.getD 0]).map V.int:=EK s [-1,r.2.getD 0];rw[q];exact hq
 rw[cg,<- Ab,<- mB];have GV:(s.drop (s.length-fP r)).length=fP r:=by rw[jU];exact L3 hm e1
 refine jh (rfl:G[10]?=aa (.int 79)) rfl (jq (λe2=>?_) λe2=>?_)
 .have e2:r.1=79:=by exact Wf e2
  have hk:=wM e2 2 (by decide +kernel);have hw:=Wre (pc:=pc) hn e2;refine KJ (.int pc) (Wd GV hk) (λq=>?_) λq=>?_
  .exact(h [] (hw.trans (if_pos q))).1
  .exact he (hw.trans (if_neg q))
 refine jh (rfl:G[11]?=aa (.int 77)) rfl (jq (λe3=>?_) λe3=>?_)
 .have e3:r.1=77:=by exact Wc e3
  have hk:=wM e3 1 (by decide +kernel);have eg:=g_k ha e3 (by decide +kernel);have hw:=Wnx (pc:=pc) hn e3;refine Gi (gT (i:=0) _ (Wb GV hk) (Wa GV hk)) (jh (rfl:G[8]?=aa (.int (-2))) rfl ?_);by_cases q:(s.drop (s.length-fP r)).getD 0 0 = -2
  .rw[if_pos q]at hw;have hq:=(h _ hw).1;rw[q,eg];refine⟨lm rfl,Gi (rfl:G[3]?=aa (.int (-1))) ⟨lm rfl,show(s.map V.int).length+1<100000 by exact V9 hl hm,lm rfl,lm rfl,?_⟩⟩;have q:s.map V.int++[V.int (-1)]=(s++[-1]).map V.int:=EK s [-1];rw[q];exact hq
  .rw[if_neg q]at hw;rw[beq_eq_false_iff_ne.2 q];exact he hw
 have hw:=Wel (pc:=pc) hn (λq=>e (V8 e q)) (λq=>e2 (V7 e2 q)) (λq=>e3 (V6 e3 q));have hb:(s.take (s.length-fP r)).length<40000:=by rw[cv];exact L2 hl hm e1
 refine jh (rfl:G[12]?=aa (.int 6)) rfl ?_;by_cases e4:r.1=6
 .rw[if_neg (λq=>q.1 e4)]at hw;rw[show((r.1:Int)==6)=af from beq_iff_eq.2 (V5 e4)];exact ht _ _ hb (h _ hw).2
 .rw[show((r.1:Int)==6)=ag from beq_eq_false_iff_ne.2 (V4 e4)];have q2:fe σ .eq (.int r.1) (.int 69)=aa (r.1==69):=by
   refine(?_:aa ((r.1:Int)==69)=_);by_cases z:r.1=69
   .rw[beq_iff_eq.2 z,beq_iff_eq.2 (V3 z)]
   .rw[beq_eq_false_iff_ne.2 z,beq_eq_false_iff_ne.2 (V2 z)]
  dsimp only[vF,nF];refine jh (rfl:G[13]?=aa (.int 69)) q2 (Jt (.int pc) _ (s.drop (s.length-fP r)) (λq=>?_) λq=>?_)
  .rw[if_neg (λz=>by rw[q]at z;exact nomatch z.2)]at hw;exact ht _ _ hb (h _ hw).2
  .rw[if_pos ⟨e4,q⟩]at hw;exact he hw
end
theorem BQ {G:List V}{Φ:Nat->List V->bo->R V}{ks:List Int}{l:List X}
  (h:xr G Φ vs E l cs (σ++[.cJ []]) λxs cD=>cD=σ++[.cJ []]/\(ks.length=xs.length/\xs.length<=15)/\Q (.loc σ.length) (σ++[.cJ ((ks.zip xs).foldl (λd kv=>nU d kv.1 kv.2) [])])):we G Φ vs E (.z4 ks l) cs σ Q:=by
 refine Wp.bind (Wp.imp (lx G Φ vs E l cs _ _ h) λxs cD h=>?_);(refine pS h λz1 h1 h2=>?_;try clear h;subst z1);rw[if_pos h1,gE];dsimp only;rw[sE];exact h2
theorem nid {n:Nat}{d:List (Int×V)}(i:Int)(h:σ[n]?=aa (.cJ d)):fe σ .H3 (.int i) (.loc n)=aa (!(j4 d i).isSome):=by refine(?_:(inO (.int i) σ[n]?).map (!·)=_);rw[h];rfl
theorem ind {n:Nat}{d:List (Int×V)}(i:Int)(h:σ[n]?=aa (.cJ d)):fe σ .ry (.int i) (.loc n)=aa (j4 d i).isSome:=by refine(?_:inO (.int i) σ[n]?=_);rw[h];rfl
noncomputable def eD (e:cW->V)(q:Int×cW):Int×V:=(q.1,e q.2)
theorem iJ (e:cW->V)(p:Int):∀f:Fd,j4 (f.map (eD e)) p=(look f p).map e
 |[]=>rfl
 |(a,t)::f=>by
  refine(?_:(if a=p then aa (e t)else j4 (f.map (eD e)) p)=(if a=p then aa t else look f p).map e);by_cases h:a=p
  .rw[if_pos h,if_pos h];rfl
  .rw[if_neg h,if_neg h,iJ e p f]
theorem uY (e:cW->V)(p:Int)(t:cW):∀f:Fd,look f p=ae->nU (f.map (eD e)) p (e t)=(f++[(p,t)]).map (eD e)
 |[]=>λU=>rfl
 |(a,s)::f=>λh=>by
  have h:(if a=p then aa s else look f p)=ae:=h;by_cases q:a=p
  .rw[if_pos q]at h;exact nomatch h
  .rw[if_neg q]at h;refine(?_:(if a=p then _ else(a,e s)::nU (f.map (eD e)) p (e t))=_);rw[if_neg q,uY e p t f h];rfl
theorem ni (f:Int->V)(hf:∀x y,yY 7 (f x) (f y)=aa (decide (x=y))):∀a b:cW,sN (yY 7) (a.map f) (b.map f)=aa (decide (a=b))
 |[],[]=>rfl
 |[],_::_=>rfl
 |_::_,[]=>rfl
 |x::a,y::b=>by refine(?_:(match yY 7 (f x) (f y),sN (yY 7) (a.map f) (b.map f)with|some x,aa y=>aa (x&&y)|_,_=>ae)=_);rw[hf,ni f hf a b];refine(?_:aa (decide (x=y)&&decide (a=b))=_);rw[<- Bool.decide_and];exact congrArg aa (decide_eq_decide.2 ⟨λh=>by rw[h.1,h.2],λh=>eZ h⟩)
theorem okT:∀s:cW,lI 8 (tV s)=af
 |[]=>rfl
 |_::s=>okT s
theorem tne (σ:bo)(s t:cW):fe σ .ne (tV s) (tV t)=aa (!decide (s=t)):=by refine(?_:(if lI 8 (tV s)&&lI 8 (tV t)then sN (yY 7) (s.map .int) (t.map .int)else ae).map (!·)=_);rw[okT,okT,ni V.int (λx y=>rfl)];rfl
section
variable {n:Nat}{hs:List Hn}
def B5:List S:=[.ite (.cmp (.v 6) [.ge] [.len (.dm (.v 0) 2)]) [.raise (.k (.str (st "beyond the end"))) (.v 3)] [],
  .ite (.cmp (.v 6) [.H3] [.v 1]) [.eY (.v 1) (.v 6) (.v 7),
   .expr (.app (.v 2) (.v 6))] [.ite (.cmp (.sub (.v 1) (.v 6)) [.ne] [.v 7]) [.raise (.k (.str (st "two stacks at one place"))) (.v 6)] []]]
def y9 (σ:bo)(f:Fd)(w:List Int)(γ:bo):bo:=σ++.cJ (f.map (eD tV))::.list (w.map .int)::γ
theorem GI (u:hJ σ n c hs)(hc:c.length<5000){v4 v5:Option V}{pc:Int}{A:Vs->bo->Prop}{K:V->Vs->bo->Prop}{γ:bo}:∀(l f:Fd) (w:List Int) (a6 a7:Option V),f.length+l.length<9000->w.length+l.length<9000 ->
  (∀f' w',mW c.length l f w=aa (f',w')->∀a6 a7,A [aa (.loc n),aa (.loc σ.length),aa (.loc (σ.length+1)),aa (.int pc),v4,v5,a6,a7] (y9 σ f' w' γ))->(mW c.length l f w=ae->∀τ,E (σ++τ)) ->
  Wp (jc (.t [6,7]) (λvs σ=>l5 G (cl (d+1)) 1000 B5 vs σ) (l.map eA) [aa (.loc n),aa (.loc σ.length),aa (.loc (σ.length+1)),aa (.int pc),v4,v5,a6,a7] (y9 σ f w γ)) (tO A K) E
 |[]=>λf w a6 a7 U U h U=>h f w rfl a6 a7
 |(p,t)::l=>λf w a6 a7 hf hw h he=>by
  have ih:=λf w=>GI u hc (v4:=v4) (v5:=v5) (pc:=pc) (A:=A) (K:=K) (γ:=γ) l f w (aa (.int p)) (aa (tV t));rw[az]at hf hw;have u':=u.app (.cJ (f.map (eD tV))::.list (w.map .int)::γ);have hd:(y9 σ f w γ)[σ.length]?=aa (.cJ (f.map (eD tV))):=Hb rfl;have hr:mW c.length ((p,t)::l) f w=if(c.length:Int)<=p then ae else match look f p with
   |none=>mW c.length l (f++[(p,t)]) (w++[p])
   |some s=>if s=t then mW c.length l f w else ae:=rfl
  refine Wp.bind (Wp.imp (fF _ _ _ _ _ _ _ (λvs cD=>Wp (jc (.t [6,7]) (λvs σ=>l5 G (cl (d+1)) 1000 B5 vs σ) (l.map eA) vs cD) (tO A K) E) K ?_) λq σ h=>?_)
  .refine(?_:iR G (cl (d+1)) 1000 E B5 [aa (.loc n),aa (.loc σ.length),aa (.loc (σ.length+1)),aa (.int pc),v4,v5,aa (.int p),aa (tV t)] (y9 σ f w γ) _ _);unfold B5;dsimp only[cY,cq,cj,cA,dR,eQ,md,eU,er,hR,dW,iE,dw,cZ,Gs,Tb,sge,ah,ai];refine jh (u'.dm 2 rfl) (Am u'.c) ⟨show _<100000 by rw[ak];exact qh hc,Gi rfl (jq (λe=>?_) λe=>Gi (nid p hd) ?_)⟩
   .rw[ak]at e;exact he (hr.trans (if_pos e)) _
   .rw[ak]at e;rw[if_neg e]at hr;rw[iJ];induction e2:look f p with
    |none =>
     rw[e2]at hr;refine Gi (Q2 p (tV t) hd (show _<100000 by rw[ak];exact L9 hf)) ?_;have e3:(y9 σ f w γ).set σ.length (.cJ (nU (f.map (eD tV)) p (tV t)))=y9 σ (f++[(p,t)]) w γ:=by rw[uY tV p t f e2];exact sU σ _ 0 _
     rw[e3];refine⟨qv (gU rfl),Li (gU rfl) ⟨show _<100000 by rw[ak];exact L9 hw,?_⟩⟩;have e4:(y9 σ (f++[(p,t)]) w γ).set (σ.length+1) (.list (w.map V.int++[.int p]))=y9 σ (f++[(p,t)]) (w++[p]) γ:=by unfold y9;rw[sU,show(w++[p]).map V.int=w.map V.int++[.int p]from bM];rfl
     rw[e4];exact ih _ _ (by rw[ao];show _+1+_<_;exact L6 hf) (by rw[ao];show _+1+_<_;exact L6 hw) (λf' w' q=>h f' w' (hr.trans q)) λq=>he (hr.trans q)
    |some s =>
     rw[e2]at hr;refine jh ((Kf p hd).trans ((iJ tV p f).trans (by rw[e2];rfl))) (tne _ s t) ?_;by_cases e3:s=t
     .rw[decide_eq_true e3];have hr:=hr.trans (if_pos e3);exact ih f w (L4 hf) (L4 hw) (λf' w' q=>h f' w' (hr.trans q)) λq=>he (hr.trans q)
     .rw[decide_eq_false e3];exact he (hr.trans (if_neg e3)) _
  .match q with
   |(.nx,vs)=>exact h
   |(.rt v,vs)=>exact h
end
section
variable {n:Nat}{hs:List Hn}
theorem ny  (h0:0<=p)(h1:p<c.length):∃r,c[p.toNat]?=aa r/\r∈c:=by
 have h:p.toNat<c.length:=by exact Rh h0 h1
 exact⟨c[p.toNat],bA h,vr h⟩
theorem step_at {c:List Row}{hs:List Hn}{p:Int}{s:cW}{r:Row}(h:c[p.toNat]?=aa r):step c hs p s=match dS r p s with
  |none=>ae
  |some l=>match thrown hs r.1 p s with
   |none=>ae
   |some t=>aa (l++t):=by unfold step;rw[h]<;>rfl
theorem ac0  {x y:List V}(h:σ[n]?=aa (.list x))(h2:(x++y).length<lim/\Q (.lst (x++y)) σ):cb σ .add ag (.loc n) (.lst y) Q :=
 show Ls σ (.loc n) (λU x=>cn ag (x++y) σ Q)from Li h h2
theorem Gu (u:hJ σ n c hs)(hc:c.length<300)(hh:hs.length<900)(ho:∀r∈c,r.1<85)(v:Valid c hs)(h0:0<=pc)(h1:pc<c.length){s:cW}(hl:s.length<5000)
  (h:∀l τ,step c hs pc s=aa l->Q (.lst (l.map eA)) (σ++τ))(he:step c hs pc s=ae->∀τ,E (σ++τ)) :
  Wp (cl (d+2) 17 [.loc n,.int pc,tV s] σ) (λx cD=>Wp (cl (d+2) 14 [.loc n,.int pc,tV s] cD) (λy cD=>cb cD .add ag x y Q) E) E:=by
 refine dC (ny h0 h1) λr hr hm=>?_;have e:=step_at (hs:=hs) (s:=s) hr;have hd:∀h∈hs,0<=h.d:=λa ha=>(v.h a ha).2.2.1;have sum:∀l t:Fd,dS r pc s=aa l->thrown hs r.1 pc s=aa t->(l.map eA++t.map eA).length<lim/\∀τ,Q (.lst (l.map eA++t.map eA)) (σ++τ):=λl t q1 q2=>by have a1:=oZ q1;have a2:=ud q2;refine⟨show _<100000 by rw[ao,ak,ak];exact WZ a1 a2,λτ=>?_⟩;rw[<- bM];exact h _ τ (by rw[e,q1];dsimp only;rw[q2])
 refine Nr u (oM hc) h0 hr (ho r hm) (v.arg r hm) (WY hl) (λl q=>⟨?_,?_⟩) λq=>?_
 .refine y6 u (oM hc) hh hd h0 hr (Md hl) (λt q2=>?_) λq2=>?_
  .have:=(sum l t q q2).2 [];rw[aP]at this;exact⟨(sum l t q q2).1,this⟩
  .have:=he (by rw[e,q];dsimp only;rw[q2]) [];rw[aP]at this;exact this
 .refine y6 (u.app _) (oM hc) hh hd h0 hr (Md hl) (λt q2=>?_) λq2=>?_
  .exact ac0 (gE _ _) ⟨(sum l t q q2).1,(sum l t q q2).2 _⟩
  .exact he (by rw[e,q];dsimp only;rw[q2]) _
 .have:=he (by rw[e,q]) [];rw[aP]at this;exact this
inductive JS (σ:bo)(n:Nat)(c:List Row)(hs:List Hn)(m:Nat):Vs->bo->Prop
 |mk (f w) (γ:bo) (a3 a4 a5 a6 a7:Option V):KW c.length (step c hs) (free c.length [(0,[])]+1) m f w->JS σ n c hs m [aa (.loc n),aa (.loc σ.length),aa (.loc (σ.length+1)),a3,a4,a5,a6,a7] (y9 σ f w γ)
theorem Dm (u:hJ σ n c hs)(hc:c.length<300)(vX:0<c.length)(hh:hs.length<900)(ho:∀r∈c,r.1<85)(v:Valid c hs)
  (h:Good c.length (step c hs)->∀τ,Q (.loc σ.length) (σ++τ))(he:¬Good c.length (step c hs)->∀τ,E (σ++τ)):Wp (cl (d+3) 19 [.loc n] σ) Q E:=by
 refine call nI 7 rfl rfl ?_;dsimp only[nI,sj,cY,cq,dX,eI,dT,ez,fJ,xq,dG,dw,cZ,mS,i8,i7,xh,Ie,d5,d6,d4,gu,az,aD,aF,aG];refine BQ ?_;dsimp only[dX,dT,ez,az,aD];refine⟨lm rfl,rfl,⟨rfl,by decide⟩,lm rfl,lm rfl,rfl,?_⟩;rw[aV,ao];have hM:=tD c.length [(0,[])];refine tx (JS σ n c hs) ?_ 1000 (free c.length [(0,[])]+1) _ _ (WS hc hM) (.mk [(0,[])] [0] [] ae ae ae ae ae (KW.start vX));intro m vs τ I;induction I with|mk f w γ a3 a4 a5 a6 a7 inv=>?_
 have hm:=inv.ms;have hle:=inv.le;refine cz _ _ _ _ _ _ _ _ ?_;dsimp only[cY,cq,cj,eQ,eU,Gs,Tb,Le,ah,ai];refine Gi (Am (gU rfl)) ⟨show _<100000 by rw[ak];exact WR hc hM hm hle,jq (λe=>?_) λe=>?_⟩
 .rcases List.eq_nil_or_concat w with rfl|⟨w,p,rfl⟩
  .exact absurd e (by decide)
  rw[List.concat_eq_append]at inv hm ⊢;refine o15 (inv.turn (tj ho v)) λs Zs Qo p0 p1 no yes=>?_;refine fF _ _ _ _ _ _ _ _ _ ?_;dsimp only[cq,eR,cA,dz,EA,dT,ez,ew,fH,dw,cZ,Gs,zQ,ah,ai,aF,aG];refine Li (gU rfl) (Gi (a:=.int p) (by rw[bM];exact List.getLast?_concat) ⟨show _<100000 by rw[ak];rw[ao]at hm ⊢;exact WQ hc hM hle hm,?_⟩);have e1:(y9 σ f (w++[p]) γ).set (σ.length+1) (.list ((w++[p]).map V.int).dropLast)=y9 σ f w γ:=by unfold y9;rw[sU,bM];rw[show(w.map V.int++[p].map V.int).dropLast=w.map V.int from List.dropLast_concat];rfl
  simp only[e1];refine Gi ((Kf p (Hb rfl)).trans ((iJ tV p f).trans (by rw[Zs];rfl))) ?_;have hlen:s.length<5000:=by have:=Qo.1;exact WO hc hM this
  refine Gu (σ:=y9 σ f w γ) (u.app _) hc hh ho v p0 p1 hlen (λl τ q=>?_) λq τ=>?_
  .dsimp only[BO,DG,KS];have OT:l.length<=3:=(tj ho v).tn _ _ _ q;have J7:=inv.fl;rw[ao]at hm;have e2:y9 σ f w γ++τ=y9 σ f w (γ++τ):=aV _ _ _;simp only[e2];refine GI u (oM hc) l f w a6 a7 (WL hc hm OT J7) (WJ hc hM hle hm OT) (λf' w' q2 a6 a7=>?_) λq2 τ=>he ((yes l q).1 q2) τ;refine dC ((yes l q).2 f' w' q2) λm' H8 GH=>?_;exact⟨m',H8,JS.mk f' w' (γ++τ) _ _ _ a6 a7 GH⟩
  .simp only[show y9 σ f w γ++τ=σ++(_++τ)from aV _ _ _];exact he (no q) _
 .have e2:w=[]:=by
   induction w using List.casesOn with
   |nil=>rfl
   |cons a w=>exact absurd (show(0:Int)<(((a::w).map V.int).length:Nat) by rw[ak,az];exact Mb) e
  subst e2;exact h inv.done _
end
def Lets (c:List Row)(hs:List Hn):Prop:=Valid c hs/\Good c.length (step c hs)
section
variable {n:Nat}{hs:List Hn}
theorem AV {k:Nat}(hk:k<5000):AW (.tup [.int k]) σ=.ok (.items ((fG k).map λ(i:Nat)=>V.int (0+(i:Int)))) σ:=by refine(?_:(if(k:Int).toNat<lim/\big k=af then R.ok (IK.items (iw 0 k)) σ else R.bad)=_);rw[if_pos ⟨show _<100000 by exact WN hk,mx (WM hk)⟩];unfold iw;rw[Int.sub_zero,cg]
inductive JR (σ:bo)(n:Nat)(c:List Row)(A:Vs->bo->Prop)(E:bo->Prop)(vl:List V):Vs->bo->Prop
 |mk (a:Option V) (js:List Nat):vl=js.map (λ(i:Nat)=>V.int (0+(i:Int)))->(∀j∈js,j<c.length)->((∀j∈js,∀r,c[j]?=aa r->dO c.length r)->∀a,A [aa (.loc n),a] σ)->(¬(∀j∈js,∀r,c[j]?=aa r->dO c.length r)->E σ)->JR σ n c A E vl [aa (.loc n),a] σ
theorem KN (u:hJ σ n c hs)(hc:c.length<300)(ho:∀r∈c,r.1<85)(js:List Nat)(hj:∀j∈js,j<c.length)(a:Option V)
  (h:(∀j∈js,∀r,c[j]?=aa r->dO c.length r)->∀a,A [aa (.loc n),a] σ)(he:¬(∀j∈js,∀r,c[j]?=aa r->dO c.length r)->E σ) :
  Wp (jc (.n 1) (λvs σ=>l5 G (cl (d+2)) 1000 [.expr (.call 7 [.v 0,.v 1])] vs σ) (js.map λ(i:Nat)=>V.int (0+(i:Int))) [aa (.loc n),a] σ) (tO A K) E:=by
 refine oo (JR σ n c A E) ?_ ?_ _ _ _ (.mk a js rfl hj h he)
 .clear hj h he;intro x vl vs τ I;induction I with|mk a js e hj h he=>?_
  induction js using List.casesOn with
  |nil=>exact nomatch e
  |cons j js =>
   (obtain⟨rfl,rfl⟩:=eZ e);refine dC (ny (c:=c) (p:=0+(j:Int)) Mc (by have:=hj j aR;exact WK this)) λr hr hm=>?_;refine Gi rfl (fF _ _ _ _ _ _ _ _ _ ?_);dsimp only[cq,dz,dT,ez,er,dw,cZ,Gs,ah,ai,aF,aG];have hr2:c[j]?=aa r:=by rw[<- hr];congr 1;lia
   refine PO u (oM hc) Mc hr (ho r hm) (λq=>JR.mk _ js rfl (λi hi=>hj i (bf _ hi)) (λq2=>h λi hi r' DI=>?_) λq2=>he λq3=>q2 λi hi=>q3 i (bf _ hi)) λq=>he λq2=>q (q2 j aR r hr2);refine b8 (aN.1 hi) (λe=>?_) λhi=>?_
   .obtain rfl:=fc (e);rw[hr2]at DI;obtain rfl:=aj DI;exact q
   .exact q2 i hi r' DI
 .clear hj h he;intro vs τ I;induction I with|mk a js e hj h he=>?_
  induction js using List.casesOn with
  |nil=>exact h (λU q=>absurd q ba) a
  |cons j js=>exact nomatch e
theorem Oq (u:hJ σ n c hs)(hc:c.length<300)(vX:0<c.length)(hh:hs.length<900)(ho:∀r∈c,r.1<85)
  (h:Lets c hs->∀τ,Q .none (σ++τ))(he:¬Lets c hs->∀τ,E (σ++τ)):Wp (cl (d+4) 20 [.loc n] σ) Q E:=by
 refine call nR 1 rfl rfl ?_;dsimp only[nR,sy,cq,dR,dz,eQ,xu,dT,ez,er,fH,dw,cZ,Gs,JX,d5,d6,d4,gu,ah];have he0:¬Lets c hs->E σ:=λq=>by have:=he q [];rw[aP]at this;exact this
 refine Ka u (oM hc) vX (jh (u.dm 2 rfl) (Am u.c) ⟨show _<100000 by rw[ak];exact FK hc,?_⟩);rw[ak,AV (oM hc)];refine KN u hc ho (fG c.length) (λj q=>jB.1 q) _ (λq a=>?_) λq=>he0 λq2=>q λj U r hr=>q2.1.arg r (aJ hr);have ha:∀r∈c,dO c.length r:=λr hr=>by obtain⟨j,hj⟩:=List.getElem?_of_mem hr;exact q j (jB.2 (aC.1 hj).1) r hj
 refine Zq u (oM hc) hh (λq2=>?_) λq2=>he0 λq3=>q2 ⟨q3.1.h,q3.1.pr⟩;have v:Valid c hs:=⟨ha,q2.1,q2.2⟩;exact Dm u hc vX hh ho v (λq=>h ⟨v,q⟩) λq=>he λq2=>q q2.2
theorem aLi {l:List V}{P:List V->Prop}(h:P l):aL (.lst l) P:=h
inductive JU (σ:bo)(n:Nat)(c:List Row)(hs:List Hn):Nat->Vs->bo->Prop
 |a:JU σ n c hs 1 [aa (.loc n),aa (.loc σ.length),ae] (σ++[.list [.loc n]])
 |b (a:Option V) (γ:bo):Lets c hs->JU σ n c hs 0 [aa (.loc n),aa (.loc σ.length),a] (σ++.list []::γ)
theorem Iy (u:hJ σ n c hs)(hc:c.length<300)(vX:0<c.length)(hh:hs.length<900)(ho:∀r∈c,r.1<85)
  (h:Lets c hs->∀τ,Q .none (σ++τ))(he:¬Lets c hs->∀τ,E (σ++τ)):Wp (cl (d+5) 21 [.loc n] σ) Q E:=by
 refine call mm 2 rfl rfl ?_;dsimp only[mm,qO,cq,eI,dT,ez,ew,xq,dw,cZ,Gs,Ie,d5,d6,d4,gu,az,aD,ah,aF,aG];refine⟨lm rfl,?_⟩;refine tx (JU σ n c hs) ?_ 1000 1 _ _ (by decide) .a;intro m vs τ I;induction I with|a=>?_|b a γ hL=>?_
 .refine cz _ _ _ _ _ _ _ _ ?_;dsimp only[cY,cq,cj,eQ,eU,Gs,Tb,Le,ah,ai];refine Gi (Am (gE _ _)) ⟨lm rfl,jq (λU=>?_) λe=>absurd (show(0:Int)<(1:Nat) by decide) e⟩;refine fF _ _ _ _ _ _ _ _ _ ?_;dsimp only[cq,dR,dz,EA,EC,dT,ez,er,ew,dw,cZ,Gs,ah,ai,aF,aG];refine Li (gE _ _) (Gi rfl ⟨lm rfl,?_⟩);rw[sE];refine Oq (u.app _) hc vX hh ho (λhL τ=>?_) λhL τ=>?_
  .rw[aV];refine⟨qv (Hb rfl),Gi ((u.app _).dm 4 rfl) (aLi (Li (Hb rfl) ⟨lm rfl,0,by decide,?_⟩))⟩;have e:(σ++([O.list [V.loc n].dropLast]++τ)).set σ.length (O.list ([V.loc n].dropLast++[]))=σ++.list []::τ:=sU σ _ 0 _;rw[e];exact JU.b _ τ hL
  .rw[aV];exact he hL _
 .refine cz _ _ _ _ _ _ _ _ ?_;dsimp only[cY,cq,cj,eQ,eU,Gs,Tb,Le,ah,ai];exact Gi (Am (Hb rfl)) ⟨lm rfl,h hL _⟩
theorem Gp (u:hJ σ n c hs)(hc:c.length<300)(vX:0<c.length)(hh:hs.length<900)(ho:∀r∈c,r.1<85)
  (h:Lets c hs->∀τ,Q (.bool af) (σ++τ))(he:¬Lets c hs->∀τ,Q (.bool ag) (σ++τ)):Wp (cl (d+6) 42 [.loc n] σ) Q E:=by
 refine call mj 0 rfl rfl ?_;dsimp only[mj,qM,cY,cq,dT,ez,dG,Ij,dw,cZ,Gs,d5,d6,d4,ah];exact Iy u hc vX hh ho h he
end
def wV (x:Int):V:=if x = -1 then .str (st "v")else if x = -2 then .str (st "k")else if x = -3 then .str (st "h")else .int x
theorem ku (x:Int):(x = -1/\wV x=.str (st "v"))\/(x = -2/\wV x=.str (st "k"))\/(x = -3/\wV x=.str (st "h"))\/((x≠-1/\x≠-2/\x≠-3)/\wV x=.int x):=by
 unfold wV;by_cases h:x = -1
 .rw[if_pos h];exact .inl ⟨h,rfl⟩
 by_cases h2:x = -2
 .rw[if_neg h,if_pos h2];exact .inr (.inl ⟨h2,rfl⟩)
 by_cases h3:x = -3
 .rw[if_neg h,if_neg h2,if_pos h3];exact .inr (.inr (.inl ⟨h3,rfl⟩))
 .rw[if_neg h,if_neg h2,if_neg h3];exact .inr (.inr (.inr ⟨⟨h,h2,h3⟩,rfl⟩))
theorem wok (x:Int):lI 7 (wV x)=af:=by
 rcases ku x with⟨_,e⟩|⟨_,e⟩|⟨_,e⟩|⟨_,e⟩
 .rw[e];decide +kernel
 .rw[e];decide +kernel
 .rw[e];decide +kernel
 .rw[e];rfl
theorem QJ (x:Int):lI 8 (wV x)=af:=by
 rcases ku x with⟨_,e⟩|⟨_,e⟩|⟨_,e⟩|⟨_,e⟩
 .rw[e];decide +kernel
 .rw[e];decide +kernel
 .rw[e];decide +kernel
 .rw[e];rfl
theorem Nk (k:Nat)(x y:Int):yY (k+1) (wV x) (wV y)=aa (decide (x=y)):=by
 have cvk:((st "v" == st "k")=ag/\(st "v" == st "h")=ag/\(st "k" == st "v")=ag/\(st "k" == st "h")=ag/\(st "h" == st "v")=ag/\(st "h" == st "k")=ag/\(st "v" == st "v")=af/\(st "k" == st "k")=af/\(st "h" == st "h")=af):=by decide +kernel
 (refine o08 cvk λc1 c2 c3 c4 c5 c6 c7 c8 c9=>?_;try clear cvk);rcases ku x with⟨a,e⟩|⟨a,e⟩|⟨a,e⟩|⟨a,e⟩<;>rcases ku y with⟨b,f⟩|⟨b,f⟩|⟨b,f⟩|⟨b,f⟩<;>rw[e,f]
 .rw[decide_eq_true (WH a b)];exact congrArg aa c7
 .rw[decide_eq_false (WG a b)];exact congrArg aa c1
 .rw[decide_eq_false (WE a b)];exact congrArg aa c2
 .rw[decide_eq_false (WD a b)];rfl
 .rw[decide_eq_false (WC a b)];exact congrArg aa c3
 .rw[decide_eq_true (WA a b)];exact congrArg aa c8
 .rw[decide_eq_false (Wz a b)];exact congrArg aa c4
 .rw[decide_eq_false (Wy a b)];rfl
 .rw[decide_eq_false (Wx a b)];exact congrArg aa c5
 .rw[decide_eq_false (Ww a b)];exact congrArg aa c6
 .rw[decide_eq_true (Wv a b)];exact congrArg aa c9
 .rw[decide_eq_false (Wt a b)];rfl
 .rw[decide_eq_false (Ws a b)];rfl
 .rw[decide_eq_false (Wr a b)];rfl
 .rw[decide_eq_false (Wm a b)];rfl
 .rfl
theorem Nq (σ:bo)(x y:Int):fe σ .eq (wV x) (wV y)=aa (decide (x=y)):=by
 have e:∀z,oQ σ (wV z)=aa (wV z):=λz=>by rcases ku z with⟨_,e⟩|⟨_,e⟩|⟨_,e⟩|⟨_,e⟩<;>rw[e]<;>rfl
 refine(?_:eqD (oQ σ (wV x)) (oQ σ (wV y))=_);rw[e,e];refine(?_:(if lI 8 (wV x)&&lI 8 (wV y)then yY 8 (wV x) (wV y)else ae)=_);rw[QJ,QJ];exact Nk 7 x y
theorem aaL (σ:bo)(x y:Int):fe σ .ne (wV x) (wV y)=aa (!decide (x=y)):=by refine(?_:(fe σ .eq (wV x) (wV y)).map (!·)=_);rw[Nq];rfl
def lV (s:cW):V:=.lst (s.map wV)
theorem Qe:∀s:cW,lI 8 (lV s)=af
 |[]=>rfl
 |x::s=>by have:=Qe s;refine(?_:(lI 7 (wV x)&&(s.map wV).all (lI 7))=af);rw[wok,Ae];exact this
theorem leq (σ:bo)(s t:cW):fe σ .eq (lV s) (lV t)=aa (decide (s=t)):=by refine(?_:(if lI 8 (lV s)&&lI 8 (lV t)then sN (yY 7) (s.map wV) (t.map wV)else ae)=_);rw[Qe,Qe,ni wV (Nk 6)];rfl
theorem lne (σ:bo)(s t:cW):fe σ .ne (lV s) (lV t)=aa (!decide (s=t)):=by refine(?_:(if lI 8 (lV s)&&lI 8 (lV t)then sN (yY 7) (s.map wV) (t.map wV)else ae).map (!·)=_);rw[Qe,Qe,ni wV (Nk 6)];rfl
theorem aaJ (x:Int):Bc 0 (wV x)=aa (decide (x≠-1/\x≠-2/\x≠-3)):=by
 rcases ku x with⟨h,e⟩|⟨h,e⟩|⟨h,e⟩|⟨h,e⟩
 .rw[e,decide_eq_false (Wl h)];rfl
 .rw[e,decide_eq_false (Wk h)];rfl
 .rw[e,decide_eq_false (Wj h)];rfl
 .rw[e,decide_eq_true h];rfl
theorem Nm {x:Int}(h:0<=x):wV x=.int x:=by unfold wV;rw[if_neg (Wi h),if_neg (Wh h),if_neg (Wg h)]
theorem q6 (s:cW):(s.map wV).length=s.length:=ak _
theorem C7 (s t:cW):s.map wV++t.map wV=(s++t).map wV:=bM.symm
theorem gW {th:cW}(σ:bo)(h:i<th.length)(hl:th.length<50000):hU σ (lV th) (.int i)=aa (wV (th.getD i 0)):=by unfold lV;rw[zU σ zo (by rw[q6];exact Jj h) (by rw[q6];exact ur hl),cg,cy,Ba h];rfl
theorem nq (σ:bo)(h:o<85)(p:Nat)(s:Str)(hp:p<85)(e:nm p=s):fe σ .eq (.str (nm o)) (.str s)=aa (decide (o=p)):=e▸nme h hp
theorem nnq (σ:bo)(h:o<85)(p:Nat)(s:Str)(hp:p<85)(e:nm p=s):fe σ .ne (.str (nm o)) (.str s)=aa (!decide (o=p)):=by have q:sX (.str (nm o)) (.str s)=aa (decide (o=p)):=e▸nme h hp;refine(?_:(sX (.str (nm o)) (.str s)).map (!·)=_);rw[q];rfl
theorem uC {o:Nat}(h:o<85):∀ps:List Nat,(ps.all λp=>decide (p<85))=af->qm (.str (nm o)) (ps.map λp=>V.str (nm p))=aa (decide (o∈ps))
 |[]=>λU=>rfl
 |p::ps=>λq=>by
  rw[List.all_cons,bz]at q;refine(?_:(match sX (.str (nm p)) (.str (nm o)),qm (.str (nm o)) (ps.map λp=>V.str (nm p))with|some a,aa b=>aa (a||b)|_,_=>ae)=_);rw[uC h ps q.2,nme (of_decide_eq_true q.1) h];refine(?_:aa (decide (p=o)||decide (o∈ps))=_);rw[<- yo];refine congrArg aa (decide_eq_decide.2 ⟨λh=>?_,λh=>?_⟩)
  .refine b8 h (λh=>?_) λh=>?_
   .rw[h];exact aR
   .exact bf _ h
  .exact(aN.1 h).imp fc id
def eB (q:Int×cW):V:=.tup [.int q.1,lV q.2]
theorem BP {G:List V}{Φ:Nat->List V->bo->R V}{ks:List Str}{l:List X}
  (h:xr G Φ vs E l cs (σ++[.dN []]) λxs cD=>cD=σ++[.dN []]/\(ks.length=xs.length/\xs.length<=15)/\Q (.loc σ.length) (σ++[.dN ((ks.zip xs).foldl (λd kv=>lQ d kv.1 kv.2) [])])):we G Φ vs E (.sY ks l) cs σ Q:=by
 refine Wp.bind (Wp.imp (lx G Φ vs E l cs _ _ h) λxs cD h=>?_);(refine pS h λz1 h1 h2=>?_;try clear h;subst z1);rw[if_pos h1,gE];dsimp only;rw[sE];exact h2
theorem gds {n:Nat}{d:List (Str×V)}(s:Str)(h:σ[n]?=aa (.dN d)):hU σ (.loc n) (.str s)=qC d s:=by refine(?_:DN σ[n]? (.str s)=_);rw[h];rfl
section
variable {n:Nat}{hs:List Hn}
def Dz:List S:=[.asg 12 (.bin .add ag (.v 11) (.ite (.cmp (.v 6) [.ry] [.tup [.k (.str (st "HOLE")),.k (.str (st "FORIN"))]]) (.sub (.sY [(st "HOLE"),(st "FORIN")] [.lst ag [.k (.str (st "h"))],.lst ag [.k (.str (st "k"))]]) (.v 6)) (.bin .mul ag (.lst ag [.k (.str (st "v"))]) (.v 9)))),
 .asg 13 (.ite (.cmp (.v 6) [.ry] [.tup [.k (.str (st "JMP")),.k (.str (st "RET")),.k (.str (st "THROW")),.k (.str (st "FAILSET"))]]) (.lst ag []) (.lst ag [.tup [.bin .add ag (.v 2) (.k (.int 1)),.v 12]])),
 .ret (.bin .add ag (.v 13) (.ite (.cmp (.v 7) [.eq] [.k (.str (st "t"))]) (.lst ag [.tup [.v 5,.ite (.cmp (.v 6) [.ry] [.tup [.k (.str (st "JFK")),.k (.str (st "JTK"))]]) (.v 3) (.v 12)]]) (.lst ag [])))]
def Gk:List S:=[.asg 13 (.ite (.cmp (.v 6) [.ry] [.tup [.k (.str (st "JMP")),.k (.str (st "RET")),.k (.str (st "THROW")),.k (.str (st "FAILSET"))]]) (.lst ag []) (.lst ag [.tup [.bin .add ag (.v 2) (.k (.int 1)),.v 12]])),
 .ret (.bin .add ag (.v 13) (.ite (.cmp (.v 7) [.eq] [.k (.str (st "t"))]) (.lst ag [.tup [.v 5,.ite (.cmp (.v 6) [.ry] [.tup [.k (.str (st "JFK")),.k (.str (st "JTK"))]]) (.v 3) (.v 12)]]) (.lst ag [])))]
theorem Jx (ho:r.1<85)(ha:dO m r)(e79:r.1≠79)(pc:Int)(s b:cW){v11 v13:Option V}(h:Q (.lst ((F9 r.1 pc b++jmp r s b).map eB)) σ) :
  iR G (cl d) 1000 E Gk [v0,v1,aa (.int pc),aa (lV s),v4,aa (oV r.2),aa (.str (nm r.1)),aa (.str (kB (kd r.1))),v8,v9,v10,v11,aa (lV b),v13] σ A (λv U σ=>Q v σ):=by
 unfold Gk;dsimp only[cY,cq,dX,eI,eR,cj,jb,dT,ez,eU,ew,dG,dw,cZ,Gs,Tb,Ig,cal,qW,az,aD,ah,ai,aF,aG,dU,eJ];have fin:∀l:Fd,l.length<=1->Q (.lst ((l++jmp r s b).map eB)) σ->Gt (fe σ .eq (.str (kB (kd r.1))) (.str (st "t"))) λQc=>if Qc=af then 2<lim/\Gt (fe σ .ry (.str (nm r.1)) (.tup [.str (st "JFK"),.str (st "JTK")])) λr_2=>if r_2=af then 2<lim/\1<lim/\(l.map eB++[V.tup [oV r.2,lV s]]).length<lim/\Q (.lst (l.map eB++[V.tup [oV r.2,lV s]])) σ else 2<lim/\1<lim/\(l.map eB++[V.tup [oV r.2,lV b]]).length<lim/\Q (.lst (l.map eB++[V.tup [oV r.2,lV b]])) σ else 0<lim/\(l.map eB++[]).length<lim/\Q (.lst (l.map eB++[])) σ:=λl hl h=>by
  have hlm:(l.map eB).length<=1:=by rw[ak];exact hl
  refine Gi (Qi _ ho 6 _ (by decide) rfl) (jq (λe=>?_) λe=>?_)
  .have eg:=ha.g6 e;unfold jmp at h;rw[if_pos e,bM]at h;rw[eg];refine⟨lm rfl,Gi (uC ho [61,62] rfl) (jq (λe2=>?_) λe2=>?_)⟩
   .rw[if_pos (by refine b8 (aN.1 e2) (λe=>?_) λe2=>?_;exact .inl e;exact .inr (au.1 e2))]at h;exact⟨lm rfl,lm rfl,show _<100000 by rw[ao];show _+1<_;exact LY hlm,h⟩
   .rw[if_neg (λq=>e2 (by refine b8 q (λq=>?_) λq=>?_;rw[q];exact aR;rw[q];exact bf _ aR))]at h;exact⟨lm rfl,lm rfl,show _<100000 by rw[ao];show _+1<_;exact LY hlm,h⟩
  .unfold jmp at h;rw[if_neg e,bM]at h;exact⟨lm rfl,show _<100000 by rw[ao];show _+0<_;exact V1 hlm,h⟩
 unfold F9 at h;refine⟨lm rfl,Gi (uC ho [58,65,66,83] rfl) (jq (λe=>?_) λe=>?_)⟩
 .rw[if_pos (show r.1∈vV by
   refine b8 (aN.1 e) (λe=>?_) λe=>?_
   .rw[e];decide
   refine b8 (aN.1 e) (λe=>?_) λe=>?_
   .rw[e];decide
   refine b8 (aN.1 e) (λe=>?_) λe=>?_
   .rw[e];decide
   .rw[au.1 e];decide)]at h
  exact⟨lm rfl,fin [] (bL _) h⟩
 .rw[if_neg (show¬r.1∈vV from λq=>by
   refine b8 (aN.1 q) (λq=>?_) λq=>?_
   .exact e (by rw[q];decide)
   refine b8 (aN.1 q) (λq=>?_) λq=>?_
   .exact e (by rw[q];decide)
   refine b8 (aN.1 q) (λq=>?_) λq=>?_
   .exact e (by rw[q];decide)
   refine b8 (aN.1 q) (λq=>?_) λq=>?_
   .exact e79 q
   .exact e (by rw[au.1 q];decide))]at h
  exact⟨lm rfl,lm rfl,fin _ (aO _) h⟩
theorem ZI (h:o∈[70,76]):qC (gz (λd kv=>lQ d kv.1 kv.2) [] ([st "HOLE",st "FORIN"].zip [V.lst [V.str (st "h")],V.lst [V.str (st "k")]])) (nm o)=aa (lV (made o)):=by
 refine b8 (aN.1 h) (λe=>?_) λe=>?_
 .rw[e];kernel_rfl
 .rw[au.1 e];kernel_rfl
theorem Jy (ho:r.1<85)(ha:dO m r)(e79:r.1≠79)(pc:Int)(s be:cW)(hb:be.length<40000)(h:∀τ,Q (.lst ((F9 r.1 pc (be++made r.1)++jmp r s (be++made r.1)).map eB)) (σ++τ)) :
  iR G (cl d) 1000 E Dz [v0,v1,aa (.int pc),aa (lV s),v4,aa (oV r.2),aa (.str (nm r.1)),aa (.str (kB (kd r.1))),v8,aa (.int (pt r.1)),v10,aa (lV be),ae,ae] σ A (λv U σ=>Q v σ):=by
 have hm:=uD ho;have hp:=FY ho;refine(?_:iR G (cl d) 1000 E (_::Gk) _ _ _ _);have ht:∀τ:bo,iR G (cl d) 1000 E Gk [v0,v1,aa (.int pc),aa (lV s),v4,aa (oV r.2),aa (.str (nm r.1)),aa (.str (kB (kd r.1))),v8,aa (.int (pt r.1)),v10,aa (lV be),aa (lV (be++made r.1)),ae] (σ++τ) A (λv U σ=>Q v σ) :=
  λτ=>Jx ho ha e79 pc s _ (h τ)
 have hl:(be.map wV++(made r.1).map wV).length<lim:=show _<100000 by rw[ao,q6,q6];exact VY hb hm
 have ht0:=ht [];rw[aP]at ht0;generalize Gk=tl at *;dsimp only[cY,cq,dX,eI,eR,cj,jb,cA,dT,ez,eU,ew,cZ,Gs,Tb,cml,qW,az,aD,ah,ai,aF,aG];refine⟨lm rfl,Gi (uC ho [70,76] rfl) (jq (λe=>?_) λe=>?_)⟩
 .refine BP ?_;dsimp only[cY,eI,dT,ez,qW,az,aD];refine⟨lm rfl,lm rfl,rfl,⟨rfl,by decide⟩,Gi ((gds _ (gE _ _)).trans (ZI e)) ⟨hl,?_⟩⟩;rw[C7];exact ht _
 .have q:made r.1=bF (pt r.1) (-1):=by unfold made;rw[if_neg (λq=>e (by rw[q];decide)),if_neg (λq=>e (by rw[q];decide))]
  have q2:mV [V.str (st "v")] ((pt r.1:Nat):Int).toNat=(made r.1).map wV:=by rw[cg,uo,q,List.map_replicate];rfl
  refine⟨lm rfl,⟨show _<100000 by show(pt r.1:Int).toNat*1<_;exact Mh hp,by exact zo,by exact Mg hp⟩,?_⟩;rw[q2];refine⟨show _<100000 by rw[q6];exact VU hm,hl,?_⟩;rw[C7];exact ht0
end
theorem j5 {G:List V}{Φ:Nat->List V->bo->R V}{ifs:List X}(g:α->V)(p:α->Bool){l:List α}(q:∀x∈l,Ey G Φ vs (λU=>False) af ifs [g x] σ λv U=>v=.bool (p x)) :
  iK (λx=>match R.val (qV G Φ vs af ifs [x] σ)with|some (.bool b)=>aa b|_=>ae) (λx=>R.val (ev G Φ vs (.c 0) [x] σ)) (l.map g)=aa ((l.filter p).map g) :=
 qD g p λx hx=>⟨by rw[AL (xt _ _ _ _ _ _ _ _ _ (q x hx))],rfl⟩
theorem QL:V.str (st "v")=wV (-1):=rfl
theorem aaM:V.str (st "k")=wV (-2):=rfl
theorem ado:V.str (st "h")=wV (-3):=rfl
section
variable {n:Nat}{hs:List Hn}
def lw4 (tl:List S):List S:=.ite (.cmp (.len (.v 3)) [.lt] [.v 8]) [.ret (.k (.none))] [] ::
 .fY [.n 10,.n 11] (.tup [.xN (.v 3) (.bin .sub ag (.len (.v 3)) (.v 8)),.vE (.v 3) (.bin .sub ag (.len (.v 3)) (.v 8))]) ::
 .ite (.cmp (.v 6) [.eq] [.k (.str (st "GOSUB"))]) [.ret (.lst ag [.tup [.v 5,.bin .add ag (.v 3) (.lst ag [.k (.str (st "v")),.v 5])],.tup [.bin .add ag (.v 2) (.k (.int 1)),.v 3]])] [] ::
 .ite (.cmp (.v 6) [.eq] [.k (.str (st "RETSUB"))]) [.ret (.ite (.and [.cmp (.sub (.v 10) (.k (.int 0))) [.eq] [.k (.str (st "v"))],.An 0 (.sub (.v 10) (.k (.int 1)))]) (.lst ag []) (.k (.none)))] [] ::
 .ite (.cmp (.v 6) [.eq] [.k (.str (st "NEXTIN"))]) [.ret (.ite (.cmp (.v 10) [.eq] [.lst ag [.k (.str (st "k"))]]) (.lst ag [.tup [.v 5,.v 3],.tup [.bin .add ag (.v 2) (.k (.int 1)),.bin .add ag (.v 3) (.lst ag [.k (.str (st "v"))])]]) (.k (.none)))] [] ::
 .ite (.and [.cmp (.v 6) [.ne] [.k (.str (st "POP"))],.cmp (.comp ag (.c 0) (.v 10) [.and [.cmp (.c 0) [.ne] [.k (.str (st "v"))],.not (.and [.cmp (.v 6) [.eq] [.k (.str (st "NEWARR"))],.cmp (.c 0) [.eq] [.k (.str (st "h"))]])]]) [.ne] [.lst ag []]]) [.ret (.k (.none))] []::tl
theorem ac5:u9=.fY [.n 4,.n 5] (.sub (.dm (.v 0) 2) (.v 2))::.fY [.n 6,.n 7,.n 8,.n 9] (.sub (.v 1) (.v 4)) ::
 .asg 8 (.bin .add ag (.v 8) (.ite (.cmp (.v 7) [.eq] [.k (.str (st "n"))]) (.v 5) (.k (.int 0))))::lw4 Dz:=rfl
theorem Ox (ho:r.1<85)(ha:dO m r){s:cW}(hl:s.length<40000)(Zr:∀x∈s,-3<=x)
  (h:∀l,dS r pc s=aa l->∀τ,Q (.lst (l.map eB)) (σ++τ))(he:dS r pc s=ae->Q .none σ) :
  iR G (cl d) 1000 E (lw4 Dz) [v0,v1,aa (.int pc),aa (lV s),aa (.int r.1),aa (oV r.2),aa (.str (nm r.1)),aa (.str (kB (kd r.1))),aa (.int (fP r)),aa (.int (pt r.1)),ae,ae,ae,ae] σ A (λv U σ=>Q v σ):=by
 have h':∀l,dS r pc s=aa l->Q (.lst (l.map eB)) σ:=λl q=>by have:=h l q [];rw[aP]at this;exact this
 have ht:∀(be:cW) (v10:Option V),r.1≠79->be.length<40000->(∀τ,Q (.lst ((F9 r.1 pc (be++made r.1)++jmp r s (be++made r.1)).map eB)) (σ++τ))->iR G (cl d) 1000 E Dz [v0,v1,aa (.int pc),aa (lV s),aa (.int r.1),aa (oV r.2),aa (.str (nm r.1)),aa (.str (kB (kd r.1))),aa (.int (fP r)),aa (.int (pt r.1)),v10,aa (lV be),ae,ae] σ A (λv U σ=>Q v σ) :=
  λbe v6 h79 hb h=>Jy ho ha h79 pc s be hb h
 generalize Dz=tl at *;unfold lw4;dsimp only[cY,cq,dX,eI,eR,cj,iq,jb,cA,tT,tU,eQ,xw,dT,ez,eU,jH,jG,fJ,dW,dG,dw,cZ,mS,i8,i7,Gs,Tb,oz,xh,Ig,Qz,qW,slt,vF,az,aD,ah,ai,aF,aG];have hm:(s.map wV).length=s.length:=q6 s;refine Gi (rfl:items σ (lV s)=aa (s.map wV)) ⟨show _<100000 by exact mF hl hm,jq (λe=>?_) λe=>?_⟩
 .rw[hm]at e;exact he (Wlo (Ma e))
 rw[hm]at e;have hn:¬s.length<fP r:=by exact L8 e
 have e1:((s.map wV).length:Int)-(fP r:Nat)=(s.length-fP r:Nat):=by rw[hm];exact L7 e
 refine Gi (rfl:items σ (lV s)=aa (s.map wV)) ⟨show _<100000 by exact mF hl hm,?_⟩;rw[e1];refine slL (Cf hm e e1) (L0 hl hm e1) (mF hl hm) (Gi (rfl:items σ (lV s)=aa (s.map wV)) ⟨show _<100000 by exact mF hl hm,?_⟩);rw[e1];refine shL (Cf hm e e1) (L0 hl hm e1) (mF hl hm) ⟨lm rfl,rfl,Gi (nq _ ho 78 _ (by decide) rfl) (jq (λe=>?_) λe=>?_)⟩
 .have eg:=g_k ha e (by decide +kernel);have hq:=h' _ (Wgo hn e);have hnn:=ha.nn;rw[eg];have q:s.map wV++[V.str (st "v"),oV (aa (r.2.getD 0))]=(s++[-1,r.2.getD 0]).map wV:=by rw[<- C7];refine(?_:_=_++[wV (-1),wV (r.2.getD 0)]);rw[Nm hnn];rfl
  refine⟨lm rfl,show _<100000 by rw[ao,hm];show _+2<_;exact V0 hl,lm rfl,lm rfl,lm rfl,?_⟩;rw[q];exact hq
 rw[cg,<- Ab,<- mB];have GV:(s.drop (s.length-fP r)).length=fP r:=by rw[jU];exact L3 hm e1
 refine Gi (nq _ ho 79 _ (by decide) rfl) (jq (λe2=>?_) λe2=>?_)
 .have hk:=wM e2 2 (by decide +kernel);have hw:=Wre (pc:=pc) hn e2;have x1:-3<=(s.drop (s.length-fP r)).getD 1 0:=by
   rw[bU];induction q:(s.drop (s.length-fP r))[1]? with
   |none=>exact(by decide:(-3:Int)<=0)
   |some x=>exact Zr x (List.mem_of_mem_drop (aJ q))
  have no:¬((s.drop (s.length-fP r)).getD 0 0 = -1/\0<=(s.drop (s.length-fP r)).getD 1 0)->Q .none σ:=λq=>he (hw.trans (if_neg q));have yes:(s.drop (s.length-fP r)).getD 0 0 = -1->0<=(s.drop (s.length-fP r)).getD 1 0->0<lim/\Q (.lst []) σ:=λq1 q2=>⟨lm rfl,h' [] (hw.trans (if_pos ⟨q1,q2⟩))⟩;exact Gi (gW (i:=0) _ (VV GV hk) (LW GV hk)) (Gi (Nq σ _ (-1)) (vj (λq=>Gi (gW (i:=1) _ (VR GV hk) (LW GV hk)) (Gi (aaJ _) (vj (λq2=>yes q (VN x1 q2)) λq2=>no λq3=>q2 (VL q q2 q3)))) λq=>no λq3=>q q3.1))
 refine Gi (nq _ ho 77 _ (by decide) rfl) (jq (λe3=>?_) λe3=>?_)
 .have hk:=wM e3 1 (by decide +kernel);have eg:=g_k ha e3 (by decide +kernel);have hw:=Wnx (pc:=pc) hn e3;have ql:fe σ .eq (.lst ((s.drop (s.length-fP r)).map wV)) (.lst [.str (st "k")])=aa (decide (s.drop (s.length-fP r)=[-2])):=by rw[aaM];exact leq σ (s.drop (s.length-fP r)) [-2]
  refine⟨lm rfl,Gi ql (jq (λq=>?_) λq=>?_)⟩
  .rw[if_pos (by rw[q];rfl)]at hw;have hq:=h' _ hw;have q:s.map wV++[V.str (st "v")]=(s++[-1]).map wV:=by rw[QL];exact C7 s [-1]
   rw[eg];refine⟨lm rfl,lm rfl,show _<100000 by rw[ao,hm];show _+1<_;exact VK hl,lm rfl,lm rfl,?_⟩;rw[q];exact hq
  .refine he (hw.trans (if_neg λq2=>q ?_))
   match hth:s.drop (s.length-fP r),GV with
   |[x],_=>rw[hth]at q2;rw[show x = -2 from q2]
   |[],z=>exact absurd z (by rw[hk];decide)
   |_::_::_,z=>rw[hk]at z;exact absurd z (by simp)
 have hw:=Wel (pc:=pc) hn e e2 e3;have hb:(s.take (s.length-fP r)).length<40000:=by rw[cv];exact L2 hl hm e1
 refine Gi (nnq _ ho 6 _ (by decide) rfl) ?_;by_cases e4:r.1=6
 .rw[decide_eq_true e4];rw[if_neg (λq=>q.1 e4)]at hw;exact ht _ _ e2 hb (h _ hw)
 .rw[decide_eq_false e4];refine k4 ?_;dsimp only[cq,Gs,qW,zQ,DG,KS,ah,ai];refine⟨by rw[q6,decide_eq_true (p:=(s.drop (s.length-fP r)).length<lim) (show _<100000 by exact VI hl (by assumption) GV)];rfl,Gi (j5 wV (jJ (r.1==69)) λx U=>?_) ⟨show _<100000 by have:=jO (jJ (r.1==69)) (s.drop (s.length-fP r));rw[q6];exact VG hl (by assumption) GV this,lm rfl,Gi (QW (Qe _) _) ?_⟩⟩
  .dsimp only[cY,cq,It,cj,iq,ja,eU,jH,jG,Gs,oz,vF,qU,nT,ah,ai];refine Gi (aaL _ x (-1)) ?_;by_cases q:x = -1
   .rw[decide_eq_true q];subst q;rfl
   .rw[decide_eq_false q];refine Gi (nq _ ho 69 _ (by decide) rfl) ?_;by_cases q2:r.1=69
    .rw[decide_eq_true q2,q2];refine Gi (Nq _ x (-3)) ?_;by_cases q3:x = -3
     .rw[decide_eq_true q3];subst q3;rfl
     .rw[decide_eq_false q3];refine(?_:V.bool af=.bool (jJ (69==69) x));unfold jJ;rw[bne_iff_ne.2 q,beq_eq_false_iff_ne.2 q3];rfl
    .rw[decide_eq_false q2];refine(?_:V.bool af=.bool (jJ (r.1==69) x));unfold jJ;rw[bne_iff_ne.2 q,beq_eq_false_iff_ne.2 q2];rfl
  .induction q:(s.drop (s.length-fP r)).any (jJ (r.1==69))with
   |true =>
    rw[if_pos ⟨e4,q⟩]at hw;have q2:(((s.drop (s.length-fP r)).filter (jJ (r.1==69))).map wV).isEmpty=ag:=by
     refine dC (mZ.1 q) λx h1 h2=>?_;induction q3:(s.drop (s.length-fP r)).filter (jJ (r.1==69))using List.casesOn with
     |nil=>exact absurd (q3▸List.mem_filter.2 ⟨h1,h2⟩) ba
     |cons=>rfl
    rw[q2];exact he hw
   |false =>
    rw[if_neg (λz=>by rw[q]at z;exact nomatch z.2)]at hw;have q2:(s.drop (s.length-fP r)).filter (jJ (r.1==69))=[]:=n5.2 λx hx z=>by rw[mZ.2 ⟨x,hx,z⟩]at q;exact nomatch q
    rw[q2];exact ht _ _ e2 hb (h _ hw)
theorem Gj (u:hJ σ n c hs)(hc:c.length<5000)(h0:0<=pc)(hp:c[pc.toNat]?=aa r)(ho:r.1<85)(ha:dO c.length r){s:cW}(hl:s.length<40000)(Zr:∀x∈s,-3<=x)
  (h:∀l,dS r pc s=aa l->∀τ,Q (.lst (l.map eB)) (σ++τ))(he:dS r pc s=ae->Q .none σ):Wp (cl (d+1) 38 [.loc n,fh,.int pc,lV s] σ) Q E:=by
 refine call pf 10 rfl rfl ?_;dsimp only[pf];rw[ac5];have ht:=Ox (d:=d) (v0:=aa (.loc n)) (v1:=aa fh) (A:=λU σ=>Q .none σ) (E:=E) ho ha hl Zr h he;generalize lw4 Dz=tl at *;dsimp only[cY,cq,eR,cj,jb,cA,dR,eU,ew,fJ,cZ,Gs,Tb,d5,d6,d4,gu,az,aD,ah,ai];refine jh (u.dm 2 rfl) (u.row h0 hp hc) ?_;dsimp only[cV,mS,i8,i7,Gs,xh,az,aD,ah,ai,aF,aG];refine⟨rfl,Gi (gB _ ho) ?_⟩;dsimp only[xQ,mS,i8,i7,Gs,xh,Ig,az,aD,ah,ai,aF,aG];refine⟨rfl,Gi (Qi _ ho 7 _ (by decide) rfl) (jq (λe=>?_) λe=>?_)⟩
 .obtain⟨g,e2⟩:=ha.g7 e;rw[e2]at ht ⊢;have q:fP r=tk r.1+g:=by unfold fP;rw[if_pos e,e2];rfl
  rw[q]at ht;exact ht
 .have q:fP r=tk r.1:=by unfold fP;rw[if_neg e];rfl
  rw[q]at ht;rw[fT];exact ht
end
theorem aa4 {l:List V}(h:lI 8 (.lst l)=af)(σ:bo):fe σ .eq (.lst l) (.lst [])=aa l.isEmpty:=by refine(?_:(if lI 8 (.lst l)&&lI 8 (.lst [])then yY 8 (.lst l) (.lst [])else ae)=_);rw[h];induction l using List.casesOn<;>rfl
theorem okH:∀l:List Hn,lI 8 (.lst (l.map hV))=af
 |[]=>rfl
 |_::l=>okH l
theorem MQ {k:Nat}{l:List V}(h:σ[k]?=aa (.list l)):iY (.loc k) σ=.ok (.live k ag) σ:=by refine(?_:(if uQ σ (.loc k)then R.ok (IK.live k ag) σ else R.bad)=_);rw[qv h];rfl
theorem OG {k:Nat}{l:List V}(h:σ[k]?=aa (.list l)):itemsOf (.live k ag) σ=aa l:=by refine(?_:(match σ[k]? with|some (.list l)=>aa l|_=>ae)=_);rw[h]
noncomputable def nV (pc:Int)(h:Hn):Bool:=decide (h.s<=pc/\pc<h.e)
theorem zD (hs:List Hn)(pc:Int):over hs pc=(hs.filter (nV pc)).head?:=(List.head?_filter (p:=nV pc) (l:=hs)).symm
section
variable {n:Nat}{hs:List Hn}
def loV:Option Fd->V
 |none=>.none
 |some a=>.lst (a.map eB)
def Zc:List S:=[.asg 6 (.comp ag (.c 0) (.dm (.v 0) 5) [.cmp (.sub (.c 0) (.k (.int 0))) [.le,.lt] [.v 3,.sub (.c 0) (.k (.int 1))]]),
 .ite (.or [.cmp (.v 5) [.is] [.k (.none)],.cmp (.v 6) [.eq] [.lst ag []],.cmp (.sub (.sub (.v 1) (.sub (.sub (.dm (.v 0) 2) (.v 3)) (.k (.int 0)))) (.k (.int 0))) [.ry] [.v 2]]) [.ret (.v 5)] [],
 .ite (.cmp (.len (.v 4)) [.lt] [.sub (.sub (.v 6) (.k (.int 0))) (.k (.int 3))]) [.ret (.k (.none))] [],
 .ret (.bin .add ag (.v 5) (.lst ag [.tup [.sub (.sub (.v 6) (.k (.int 0))) (.k (.int 2)),.bin .add ag (.bin .add ag (.vE (.v 4) (.sub (.sub (.v 6) (.k (.int 0))) (.k (.int 3)))) (.lst ag [.k (.str (st "v"))])) (.ite (.sub (.sub (.v 6) (.k (.int 0))) (.k (.int 4))) (.lst ag [.sub (.sub (.v 6) (.k (.int 0))) (.k (.int 2))]) (.lst ag []))]]))]
theorem DE (u:hJ σ n c hs)(hc:c.length<300)(hh:hs.length<900)(hd:∀h∈hs,0<=h.d/\0<=h.h)(h0:0<=pc)(hr:c[pc.toNat]?=aa r)(ho:r.1<85){s:cW}(hl:s.length<40000)(l:Option Fd)(Bm:∀a,l=aa a->a.length<=2)
  (h:∀a b,l=aa a->thrown hs r.1 pc s=aa b->Q (.lst ((a++b).map eB)) σ)(he:l=ae\/thrown hs r.1 pc s=ae->Q .none σ){lv:V}(J6:lv=loV l) :
  iR G (cl d) 1000 E Zc
   [aa (.loc n),aa fh,aa (.lst (Ji.map λo=>.str (nm o))),aa (.int pc),aa (lV s),aa lv,ae] σ A (λv U σ=>Q v σ):=by
 have Qq:=zD hs pc;have J7:=jO (nV pc) hs;unfold Zc;refine k4 ?_;dsimp only[cY,cq,dX,eI,eR,cj,mC,jb,cA,tU,dR,eQ,dT,ez,eU,jH,jG,dW,dG,dw,cZ,Gs,Tb,oz,qW,P9,JY,qU,az,aD,ah,ai,aF,aG];refine Gi (u.dm 5 rfl) ?_;rw[MQ u.h];refine Gi (OG u.h) ⟨by rw[ak,decide_eq_true (p:=hs.length<lim) (show _<100000 by exact zt hh)];rfl,Gi (j5 hV (nV pc) λx U=>?_) ⟨show _<100000 by rw[ak];exact LZ hh J7,?_⟩⟩
 .dsimp only[cY,cq,It,cj,cA,eU,yI,jH,jG,Gs,oz,qU,ah,ai];refine jh rfl rfl (jq (λe=>jh rfl rfl (jq (λe2=>?_) λe2=>?_)) λe=>?_)
  .unfold nV;rw[decide_eq_true (⟨e,e2⟩:x.s<=pc/\pc<x.e)]
  .unfold nV;rw[decide_eq_false (λq:x.s<=pc/\pc<x.e=>e2 q.2),decide_eq_false e2]
  .unfold nV;rw[decide_eq_false (λq:x.s<=pc/\pc<x.e=>e q.1)]
 .induction l with
  |none=>subst J6;exact he (.inl rfl)
  |some a =>
   have J6:lv=.lst (a.map eB):=J6;subst J6;have ha2:=Bm a rfl;refine Gi rfl ?_;have Fv:thrown hs r.1 pc s=aa []->Q (.lst (a.map eB)) σ:=λq=>by have:=h a [] rfl q;rw[aP]at this;exact this
   unfold thrown at h he Fv;induction hF:hs.filter (nV pc)using List.casesOn with
   |nil =>rw[hF]at Qq;rw[Qq]at Fv;exact⟨lm rfl,Gi (a:=af) rfl (Fv rfl)⟩
   |cons x F =>
    rw[hF]at Qq;rw[Qq]at Fv h he;have hx:=hd x (List.mem_filter.1 (hF▸aR)).1;refine⟨lm rfl,Gi (a:=ag) (aa4 (okH (x::F)) σ) (QF (u.dm 2 rfl) (u.row h0 hr (oM hc)) rfl (gB _ ho) rfl (Gi (uC ho Ji rfl) (AY (λq=>Fv (if_pos q)) λq=>?_)))⟩;have g0:hU σ (.lst ((x::F).map hV)) (.int 0)=aa (hV x):=by rw[zU σ (by decide) (by rw[ak,az];exact Mb) (by rw[ak,<- hF];exact LZ hh J7)];rfl
    have hm:(s.map wV).length=s.length:=q6 s;refine Gi (rfl:items σ (lV s)=aa (s.map wV)) ⟨show _<100000 by exact mF hl hm,Gi g0 (Gi (a:=V.int x.d) rfl (Gi rfl (jq (λe=>?_) λe=>?_)))⟩
    .rw[hm]at e;exact he (.inr ((if_neg q).trans (if_pos e)))
    .rw[hm]at e;have hq:=h a _ rfl ((if_neg q).trans (if_neg e));refine Gi g0 (Gi (a:=V.int x.h) rfl (Gi g0 (Gi (a:=V.int x.d) rfl (shL hx.1 (VZ hl e) (mF hl hm) ⟨lm rfl,?_⟩))));have hq2:(s.map wV).take x.d.toNat++[V.str (st "v")]=(s.take x.d.toNat++[-1]).map wV:=by rw[QL,<- C7,mB];rfl
     have hlen:(s.take x.d.toNat++[-1]).length<=s.length+1:=by rw[ao,cv];show _+1<=_;exact VX e
     have hq3:[V.int x.h]=[x.h].map wV:=by show _=[wV x.h];rw[Nm hx.2]
     refine(?_:(_++[V.str (st "v")]).length<lim/\_);rw[hq2];refine⟨show _<100000 by rw[q6];exact LX hl hlen,Gi g0 (Gi (a:=V.bool x.f) rfl ?_)⟩;have ha3:(a.map eB).length<=2:=by rw[ak];exact ha2
     have fin:∀t:cW,H5 x s=t->0+1+1<lim/\0+1<lim/\(a.map eB++[V.tup [.int x.h,lV t]]).length<lim/\Q (.lst (a.map eB++[V.tup [.int x.h,lV t]])) σ:=λt q=>by rw[q,bM]at hq;exact⟨lm rfl,lm rfl,show _<100000 by rw[ao];show _+1<_;exact VS ha3,hq⟩
     induction hf:x.f with
     |true =>dsimp only[Tb,cal,qW,vF];refine Gi g0 (Gi (a:=V.int x.h) rfl ⟨lm rfl,?_⟩);refine(?_:(_++[V.int x.h]).length<lim/\_);rw[hq3,C7];exact⟨show _<100000 by rw[q6,ao];show _+1<_;exact VP hl hlen,fin _ (by unfold H5;rw[hf,if_pos rfl])⟩
     |false =>refine⟨lm rfl,?_⟩;refine(?_:(_++[]).length<lim/\_);rw[aP];exact⟨show _<100000 by rw[q6];exact LX hl hlen,fin _ (by unfold H5;rw[hf,if_neg bq,aP])⟩
end
abbrev quV:V:=.lst (Ji.map λo=>.str (nm o))
theorem ac6:sr=.asg 5 (.call 38 [.v 0,.v 1,.v 3,.v 4])::Zc:=rfl
theorem aaI (k:Nat)(x:Int):lI (k+1) (wV x)=af:=by
 rcases ku x with⟨_,e⟩|⟨_,e⟩|⟨_,e⟩|⟨_,e⟩
 .rw[e];show(st "v").cps.all _=af;decide +kernel
 .rw[e];show(st "k").cps.all _=af;decide +kernel
 .rw[e];show(st "h").cps.all _=af;decide +kernel
 .rw[e];rfl
theorem YR (k:Nat):∀s:cW,lI (k+2) (lV s)=af
 |[]=>rfl
 |x::s=>by have:=YR k s;refine(?_:(lI (k+1) (wV x)&&(s.map wV).all (lI (k+1)))=af);rw[aaI,Ae];exact this
theorem okB:∀w:Fd,lI 8 (.lst (w.map eB))=af
 |[]=>rfl
 |q::w=>by have:=okB w;refine(?_:((af&&(lI 6 (lV q.2)&&af))&&(w.map eB).all (lI 7))=af);rw[YR 4 q.2];exact this
section
variable {n:Nat}{hs:List Hn}
theorem zK (u:hJ σ n c hs)(hc:c.length<300)(hh:hs.length<900)(ho:∀r∈c,r.1<85)(v:Valid c hs)(h0:0<=pc)(h1:pc<c.length){s:cW}(hl:s.length<40000)(Zr:∀x∈s,-3<=x)
  (h:∀l,step c hs pc s=aa l->∀τ,Q (.lst (l.map eB)) (σ++τ))(he:step c hs pc s=ae->∀τ,Q .none (σ++τ)):Wp (cl (d+2) 39 [.loc n,fh,quV,.int pc,lV s] σ) Q E:=by
 refine dC (ny h0 h1) λr hr hm=>?_;have e:=step_at (hs:=hs) (s:=s) hr;have hd:∀h∈hs,0<=h.d/\0<=h.h:=λa ha=>⟨(v.h a ha).2.2.1,(v.h a ha).2.1.1⟩;refine call nN 2 rfl rfl ?_;dsimp only[nN];rw[ac6];have rest:∀τ (o:Option Fd) (lv:V),dS r pc s=o->lv=loV o->iR G (cl (d+1)) 1000 E Zc [aa (.loc n),aa fh,aa quV,aa (.int pc),aa (lV s),aa lv,ae] (σ++τ) (λU σ=>Q .none σ) (λv U σ=>Q v σ):=λτ o lv q J6 =>
  DE (u.app τ) hc hh hd h0 hr (ho r hm) hl o (λa q2=>oZ (q.trans q2)) (λa b q2 q3=>h _ (by rw[e,q,q2];dsimp only;rw[q3]) τ) (λq2=>he (by
   rw[e,q];rcases q2 with q2|q2
   .rw[q2]
   .induction o with
    |none=>rfl
    |some a=>dsimp only;rw[q2]) τ) J6
 generalize Zc=tl at *;dsimp only[cq,dz,dT,ez,ew,cZ,Gs,d5,d6,d4,gu,ah,ai,aF,aG];refine Gj u (oM hc) h0 hr (ho r hm) (v.arg r hm) hl Zr (λl q τ=>rest τ _ _ q rfl) λq=>?_;have:=rest [] _ _ q rfl;rw[aP]at this;exact this
def BY (σ:bo)(f w:Fd)(γ:bo):bo:=σ++.cJ (f.map (eD lV))::.list (w.map eB)::γ
inductive JL (σ:bo)(n:Nat)(c:List Row)(hs:List Hn)(m:Nat):Vs->bo->Prop
 |mk (f w) (γ:bo) (a5 a6 a7:Option V):Ih c.length (step c hs) (4*free c.length []+1) m f w->JL σ n c hs m [aa (.loc n),aa fh,aa quV,aa (.loc σ.length),aa (.loc (σ.length+1)),a5,a6,a7] (BY σ f w γ)
theorem A5 (u:hJ σ n c hs)(hc:c.length<200)(hh:hs.length<900)(ho:∀r∈c,r.1<85)(v:Valid c hs)
  (h:∀f γ,Ad c.length (step c hs) (look f)->(∀p s,look f p=aa s->lX (λg t=>look f g=aa t) s)->(∀p s,look f p=aa s->0<=p/\p<c.length)->(∀p s,look f p=aa s->s.length<50000)->f.length<5000->Q (.loc σ.length) (σ++.cJ (f.map (eD lV))::γ))
  (he:¬Good c.length (step c hs)->∀τ,Q .none (σ++τ)):Wp (cl (d+3) 40 [.loc n,fh,quV] σ) Q E:=by
 refine call mh 5 rfl rfl ?_;dsimp only[mh,qK,cY,cq,dX,eI,dT,ez,fJ,xq,dG,dw,cZ,mS,i8,i7,xh,qW,Ie,d5,d6,d4,gu,az,aD,aF,aG];refine BQ ?_;dsimp only[dT,aD];refine⟨rfl,⟨rfl,by decide⟩,lm rfl,lm rfl,lm rfl,lm rfl,rfl,?_⟩;rw[aV,ao];have hM:=tD c.length [];refine tx (JL σ n c hs) ?_ 1000 (4*free c.length []+1) _ _ (VT hc hM) (.mk [] [(0,[])] [] ae ae ae Ih.start);intro m vs τ I;induction I with|mk f w γ a5 a6 a7 inv=>?_
 have hm:=inv.ms;have hle:=inv.le;have J7:=inv.fl;refine cz _ _ _ _ _ _ _ _ ?_;dsimp only[cq,eI,cj,dT,eU,Gs,Tb,qW,aD,ah,ai];refine⟨lm rfl,Gi (NZ (gU rfl) (okB w)) ?_⟩;induction w with
 |nil=>exact h f _ inv.done.1 inv.done.2 inv.rg (λp s q=>by have:=(inv.pk p s (.inl q)).1;exact VQ hc hM this) (VO hc J7)
 |cons q w =>
  obtain⟨p,s⟩:=q;rw[az]at hm;refine o05 (inv.turn (tj ho v) (IL c hs)) λp0 pk no1 no2 aaF aaE=>?_;have hlen:s.length<40000:=by have:=pk.1;exact VM hc hM hm this
  have hd:(BY σ f w γ)[σ.length]?=aa (.cJ (f.map (eD lV))):=Hb rfl;have u':hJ (BY σ f w γ) n c hs:=u.app _;refine fF _ _ _ _ _ _ _ _ _ ?_;dsimp only[cY,cq,cj,iq,mC,cA,dR,dz,eQ,xv,EC,dT,ez,eU,jH,jG,er,ew,fJ,hR,dW,dG,dw,cZ,Gs,Tb,PU,oz,P9,vF,qU,MU,az,aD,ah,ai];refine⟨qv (gU rfl),Li (gU rfl) (Gi rfl ⟨⟨show _<100000 by rw[ak,az];exact VJ hc hM hle hm,by decide⟩,?_⟩)⟩;have e1:(BY σ f ((p,s)::w) γ).set (σ.length+1) (.list ((((p,s)::w).map eB).eraseIdx (jo 0)))=BY σ f w γ:=by unfold BY;rw[sU];rfl
  rw[e1];dsimp only[eB,mS,i8,i7,Gs,xh,sge,az,aD,ah,ai,aF,aG];refine⟨rfl,jh (u'.dm 2 rfl) (Am u'.c) ⟨show _<100000 by rw[ak];exact uq hc,?_⟩⟩;rw[ak];have out:∀ {P:Prop},(P->¬Good c.length (step c hs))->P->Q .none (BY σ f w γ):=λk p=>he (k p) _;refine AY (out no1) λe=>Gi (ind p hd) ?_;rw[iJ];induction e2:look f p with
  |none =>
   obtain⟨no3,aaD⟩:=aaE e2 (wD e);dsimp only[Option.map_none,D1,qU,MV];refine Gi (nid p hd) ?_;rw[iJ,e2];dsimp only[Option.map_none,D1,vF,nF];refine Gi (Q2 p (lV s) hd (show _<100000 by rw[ak];exact VB hc J7)) ?_;have e3:(BY σ f w γ).set σ.length (.cJ (nU (f.map (eD lV)) p (lV s)))=BY σ (f++[(p,s)]) w γ:=by rw[uY lV p s f e2];exact sU σ _ 0 _
   rw[e3];refine zK (σ:=BY σ (f++[(p,s)]) w γ) (u.app _) (zr hc) hh ho v p0 (wD e) hlen pk.2 (λl q τ=>?_) λq τ=>?_
   .have e4:BY σ (f++[(p,s)]) w γ++τ=BY σ (f++[(p,s)]) w (γ++τ):=aV _ _ _;rw[e4];have OT:l.length<=3:=(tj ho v).tn _ _ _ q;refine dC (aaD l q) λm' H8 GH=>?_;dsimp only[aLe,qU];refine⟨qv (gU rfl),Li (gU rfl) ⟨show _<100000 by rw[ak,ak];exact Vu hc hM hle hm OT,m',H8,?_⟩⟩;have e:=JL.mk (σ:=σ) (n:=n) (f++[(p,s)]) (w++l) (γ++τ) (aa (.int p)) (aa (lV s)) (aa (.lst (l.map eB))) GH;unfold BY at e ⊢;rw[show(w++l).map eB=w.map eB++l.map eB from bM]at e;rw[sU];exact e
   .rw[show BY σ (f++[(p,s)]) w γ++τ=σ++(_++τ)from aV _ _ _];exact he (no3 q) _
  |some t =>
   dsimp only[vp,Option.isSome_some,vF,MU];refine jh ((Kf p hd).trans ((iJ lV p f).trans (by rw[e2];rfl))) (lne _ t s) ?_;by_cases e3:t=s
   .rw[decide_eq_true e3];dsimp only[qU,MV,nT];refine Gi (nid p hd) ?_;rw[iJ,e2];refine dC (aaF (e3▸e2)) λm' H8 GH=>?_;exact⟨m',H8,JL.mk f w γ _ _ _ GH⟩
   .rw[decide_eq_false e3];exact out (no2 t e2) e3
end
def Pr (n:Nat):List (Str×V):=gz (λd kv=>lQ d kv.1 kv.2) [] ([st "k",st "s",st "l",st "c",st "u",st "t",st "n",st "f"].zip [.int 2,.int 2,.int 1,.int 0,.int 0,.int n,.int 1000000000,.int 0])
def Kq (n k:Nat):Int:=if k=7 then 1000000000 else Kr n k
theorem aaq (n:Nat):∀k,k<9->k≠0->qC (Pr n) (kB k)=aa (.int (Kq n k))
 |0,_,h=>absurd rfl h
 |1,_,_|2,_,_|3,_,_|4,_,_|5,_,_|6,_,_|7,_,_|8,_,_=>by kernel_rfl
 |k+9,h,_=>by exact(VW h).elim
section
variable {n:Nat}{hs:List Hn}
def KQ:S:=.ite (.or [.cmp (.cmp (.v 5) [.eq] [.k (.str (st "-"))]) [.ne] [.cmp (.v 4) [.is] [.k (.none)]],.and [.cmp (.v 5) [.ne] [.k (.str (st "-"))],.not (.cmp (.k (.int 0)) [.le,.lt] [.v 4,.sub (.v 2) (.v 5)])],.v 6]) [.ret (.k (.bool ag))] []
def Nd (tl:List S):List S:=.asg 5 (.sub (.sub (.v 1) (.v 3)) (.k (.int 1))) ::
  .asg 6 (.and [.cmp (.v 5) [.eq] [.k (.str (st "s"))],.cmp (.v 4) [.ne] [.k (.int 1)]])::tl
theorem YU {p:Prop}[Decidable p]{R A B:Prop}(h:¬p->A)(h2:p->R):if(!decide p)=af then A else if(!decide p)=ag then R else if(!decide p)=af then A else B:=by
 by_cases q:p
 .rw[decide_eq_true q];exact h2 q
 .rw[decide_eq_false q];exact h q
theorem Zg (σ:bo)(h:o<85)(s:Str)(e:kB 0=s):fe σ .ne (.str (kB (kd o))) (.str s)=aa (!decide (kd o=0)):=by have q:sX (.str (kB (kd o))) (.str s)=aa (decide (kd o=0)):=e▸kBe (kd o) (wU h) 0 (by decide);refine(?_:(sX (.str (kB (kd o))) (.str s)).map (!·)=_);rw[q];rfl
theorem KP  (ho:r.1<85)(hN:σ[N]?=aa (.dN (Pr m)))(hb:∀g,r.2=aa g->g<1000000000)(w:Bool)(hw:w=af<->kd r.1=2/\r.2≠aa 1)
  (h:dO m r->∀a5 a6,A [v0,v1,aa (.loc N),v3,aa (oV r.2),a5,a6] σ)(he:¬dO m r->∀vs,K (.bool ag) vs σ) :
  iR G (cl d) 1000 E [KQ] [v0,v1,aa (.loc N),v3,aa (oV r.2),aa (.str (kB (kd r.1))),aa (.bool w)] σ A K:=by
 unfold KQ;dsimp only[cY,cq,cj,iq,mC,ja,cA,eU,yI,jH,jG,dW,dG,dw,cZ,Gs,Tb,oz,aa1,P9,vF,qU,MU,nF,ah,ai];have hk:=wU ho;unfold dO at h he;refine Gi (Qi _ ho 0 _ (by decide) rfl) ?_;by_cases e0:kd r.1=0
 .rw[if_pos e0]at h he;rw[decide_eq_true e0];induction e2:r.2 with
  |none =>
   rw[e2]at h;have w0:w=ag:=by induction w;rfl;exact absurd (hw.1 rfl).1 (by lia)
   subst w0;dsimp only[oV,qU,MV];refine Gi (Zg _ ho _ rfl) ?_;rw[decide_eq_true e0];exact h rfl _ _
  |some g =>rw[e2]at he;exact he (λq=>nomatch q) _
 .rw[if_neg e0]at h he;rw[decide_eq_false e0];induction e2:r.2 with
  |none =>rw[e2]at he;exact he (λz_=>by obtain⟨_,q,_⟩:=z_;exact nomatch q) _
  |some g =>
   rw[e2]at h he hb hw;dsimp only[oV,Gs,sle];refine Gi (Zg _ ho _ rfl) ?_;rw[decide_eq_false e0];dsimp only[vF,MU,nF];have out:∀ {P:Prop},((∃g',aa g=aa g'/\0<=g'/\(kd r.1=7\/g'<Kr m (kd r.1))/\(kd r.1=2->g'=1))->¬P)->P->∀vs,K (.bool ag) vs σ:=λk p=>he λq=>k q p;refine jq (λe3=>Gi ((gds _ hN).trans (aaq m (kd r.1) hk e0)) (YU (out (P:=¬g<Kq m (kd r.1)) (λ⟨g',q,_,q2,_⟩ q3=>q3 ?_) · _) λe4=>?_)) λe3=>out (P:=¬0<=g) (λ⟨g',q,q2,_⟩ q3=>q3 (by obtain rfl:=aj q;exact q2)) e3 _
   .obtain rfl:=aj q;unfold Kq;by_cases e7:kd r.1=7
    .rw[if_pos e7];exact hb g rfl
    .rw[if_neg e7];exact q2.elim (λz=>absurd z e7) id
   .have q2:kd r.1=7\/g<Kr m (kd r.1):=by
     unfold Kq at e4;by_cases e7:kd r.1=7
     .exact .inl e7
     .rw[if_neg e7]at e4;exact .inr e4
    induction w with
    |true =>have:=hw.1 rfl;exact out (P:=kd r.1=2/\g≠1) (λz_ q3=>by obtain⟨g',q,_,_,q4⟩:=z_;exact by obtain rfl:=aj q;exact q3.2 (q4 q3.1)) ⟨this.1,λz=>this.2 (by rw[z])⟩ _
    |false =>
     refine h ⟨g,rfl,e3,q2,λz=>?_⟩ _ _;by_cases z2:g=1
     .exact z2
     .exact nomatch hw.2 ⟨z,λq=>z2 (aj q)⟩
theorem ac7  (ho:r.1<85)(hN:σ[N]?=aa (.dN (Pr m)))(hb:∀g,r.2=aa g->g<1000000000)
  (h:dO m r->∀a5 a6,A [v0,aa fh,aa (.loc N),aa (.int r.1),aa (oV r.2),a5,a6] σ)(he:¬dO m r->∀vs,K (.bool ag) vs σ) :
  iR G (cl d) 1000 E (Nd [KQ]) [v0,aa fh,aa (.loc N),aa (.int r.1),aa (oV r.2),v5,v6] σ A K:=by
 have ht:=λw hw=>KP (d:=d) (E:=E) (v0:=v0) (v1:=aa fh) (v3:=aa (.int r.1)) ho hN hb w hw h he;generalize[KQ]=tl at *;unfold Nd;dsimp only[cY,cq,cj,iq,cA,eU,jH,jG,ew,cZ,Gs,oz,ah,ai,aF,aG];refine HY (gB _ ho) rfl (Qi _ ho 2 _ (by decide) rfl) (jq (λe=>?_) λe=>?_)
 .induction e2:r.2 with
  |none =>refine Gi (a:=af) rfl ?_;have:=ht af ⟨λU=>⟨e,by rw[e2];exact nofun⟩,λU=>rfl⟩;rw[e2]at this;exact this
  |some g =>
   refine Gi (QV σ g 1) ?_;by_cases z:g=1
   .rw[decide_eq_true z];have:=ht ag ⟨nofun,λq=>absurd (by rw[e2,z]) q.2⟩;rw[e2]at this;exact this
   .rw[decide_eq_false z];have:=ht af ⟨λU=>⟨e,by rw[e2];exact λq=>z (aj q)⟩,λU=>rfl⟩;rw[e2]at this;exact this
 .rw[decide_eq_false e];exact ht ag ⟨nofun,λq=>absurd q.1 e⟩
end
section
variable {n:Nat}{hs:List Hn}
theorem Cs {k:Nat}{l:List V}{Q:IK->bo->Prop}(h:σ[k]?=aa (.list l))(q:Q (.live k ag) σ):Wp (iY (.loc k) σ) Q E:=by rw[MQ h];exact q
inductive JA (σ:bo)(n:Nat)(c:List Row)(Q:V->bo->Prop)(i:Nat):Vs->bo->Prop
 |mk (a3 a4 a5 a6:Option V):((∀r∈c.drop i,dO c.length r)->Q (.bool af) (σ++[.dN (Pr c.length)]))->(¬(∀r∈c.drop i,dO c.length r)->Q (.bool ag) (σ++[.dN (Pr c.length)]))->JA σ n c Q i [aa (.loc n),aa fh,aa (.loc σ.length),a3,a4,a5,a6] (σ++[.dN (Pr c.length)])
theorem Gv (u:hJ σ n c hs)(hc:c.length<300)(ho:∀r∈c,r.1<85)(hb:∀r∈c,∀g,r.2=aa g->g<1000000000)
  (h:(∀r∈c,dO c.length r)->∀τ,Q (.bool af) (σ++τ))(he:¬(∀r∈c,dO c.length r)->∀τ,Q (.bool ag) (σ++τ)):Wp (cl (d+1) 36 [.loc n,fh] σ) Q E:=by
 refine call jy 5 rfl rfl ?_;dsimp only[jy,lS,cY,cq,dR,ew,fH,dG,dw,cZ,Gs,JY,d5,d6,d4,gu,ah,aF,aG];refine BP ?_;dsimp only[cY,cq,eR,dR,eQ,dT,ez,Gs,az,aD,ah];refine jh ((u.app _).dm 2 rfl) (Am (u.app _).c) ⟨show _<100000 by rw[ak];exact FK hc,⟨rfl,rfl⟩,rfl,⟨rfl,dD rfl⟩,?_⟩;rw[ak];have u':=u.app [.dN (Pr c.length)];refine Gi (u'.dm 2 rfl) (Cs u'.c ?_);refine ke (c.map cV) (JA σ n c Q) ?_ ?_ ?_ 1000 0 _ _ (bL _) (by rw[ak];exact VH hc) (.mk _ _ _ _ (λq=>h q _) λq=>he q _)
 .intro i vs τ I;induction I with|mk=>exact u'.c
 .intro i v vs τ hv I;induction I with|mk a3 a4 a5 a6 h he=>?_
  (refine dC (nE hv) λr hr z1=>?_;subst z1);have hm:r∈c:=aJ hr;rw[tE hr]at h he;refine Gi (a:=[aa (.loc n),aa fh,aa (.loc σ.length),aa (.int r.1),aa (oV r.2),a5,a6]) rfl (fF _ _ _ _ _ _ _ _ _ ?_);refine ac7 (ho r hm) (gE _ _) (hb r hm) (λq a5 a6=>JA.mk _ _ _ _ (λq2=>h λr' DI=>(aN.1 DI).elim (λe=>e▸q) (q2 r')) λq2=>he λq3=>q2 λr' DI=>q3 r' (bf _ DI)) λq vs=>he λq2=>q (q2 r aR)
 .intro vs τ I;induction I with|mk a3 a4 a5 a6 h _=>?_
  rw[ak,mY]at h;exact h λU q=>absurd q ba
noncomputable def rq (h:Hn):List Int:=(fG (h.e-h.s).toNat).map λ(i:Nat)=>h.s+i
theorem fR {h:Hn}{x:Int}:x∈rq h<->h.s<=x/\x<h.e:=by
 unfold rq;rw[bX]
 constructor
 .rintro⟨i,hi,rfl⟩;have:=jB.1 hi;exact VF this
 .rintro⟨h1,h2⟩;exact⟨(x-h.s).toNat,jB.2 (VE h1 h2),by exact VD h1⟩
theorem Cr {h:Hn}:rq h=[]<->h.e<=h.s:=by
 constructor
 .intro q;by_cases h2:h.e<=h.s
  .exact h2
  .exact absurd (q▸fR.2 ⟨gD _,by exact Mn h2⟩:h.s∈[]) ba
 .intro q;induction e:rq h using List.casesOn with
  |nil=>rfl
  |cons x l =>have:=fR.1 (e▸aR:x∈rq h);exact(VC q this).elim
theorem F3 {a b:Hn}(ha:a.s<a.e)(hb:b.s<b.e):((rq a).filter (λx=>decide (x∈rq b))=[]\/(rq a).filter (λx=>decide (x∈rq b))=rq a)<->mf a b:=by
 rw[n5,List.filter_eq_self];unfold mf
 constructor
 .rintro(h|h) h1 h2
  .exfalso;by_cases q:a.s<=b.s
   .exact h b.s (fR.2 ⟨q,h2⟩) (decide_eq_true (fR.2 ⟨gD _,hb⟩))
   .exact h a.s (fR.2 ⟨gD _,ha⟩) (decide_eq_true (fR.2 ⟨by exact VA q,h1⟩))
  .have x1:=fR.1 (of_decide_eq_true (h a.s (fR.2 ⟨gD _,ha⟩)));have x2:=fR.1 (of_decide_eq_true (h (a.e-1) (fR.2 ⟨by exact Vz ha,by exact Vy⟩)));exact Vx x1 x2
 .intro h;by_cases q:a.s<b.e/\b.s<a.e
  .right
   intro x hx;have:=fR.1 hx;have:=h q.1 q.2;exact decide_eq_true (fR.2 (by exact Vw h q (by assumption)))
  .left
   intro x hx rz;have h1:=fR.1 hx;have h2:=fR.1 (of_decide_eq_true rz);exact Vv q h1 h2
end
noncomputable def oJ (h:Hn):V:=.lst ((rq h).map .int)
theorem OB (a b:List Int):sX (.lst (a.map .int)) (.lst (b.map .int))=aa (decide (a=b)):=by refine(?_:(if lI 8 (.lst (a.map .int))&&lI 8 (.lst (b.map .int))then sN (yY 7) (a.map .int) (b.map .int)else ae)=_);rw[okI,okI,ni V.int (λx y=>rfl)];rfl
theorem ack (σ:bo)(x y:List Int):fe σ .H3 (.lst (x.map .int)) (.tup [.lst [],.lst (y.map .int)])=aa (!decide (x=[]\/x=y)):=by refine(?_:(match sX (.lst []) (.lst (x.map .int)),(match sX (.lst (y.map .int)) (.lst (x.map .int)),aa ag with|some a,aa b=>aa (a||b)|_,_=>ae)with|some a,aa b=>aa (a||b)|_,_=>ae).map (!·)=_);rw[show sX (.lst []) (.lst (x.map .int))=aa (decide ([]=x))from OB [] x,OB y x];refine(?_:aa (!(decide ([]=x)||(decide (y=x)||false)))=_);rw[Bool.or_false,<- yo];exact congrArg (λb=>aa (!b)) (decide_eq_decide.2 ⟨λh=>h.imp fc fc,λh=>h.imp fc fc⟩)
section
variable {n:Nat}{hs:List Hn}
theorem Jz {a:Hn}(h1:-10000<a.s/\a.s<10000)(h2:-10000<a.e/\a.e<10000):AW (.tup [.int a.s,.int a.e]) σ=.ok (.items ((rq a).map .int)) σ:=by refine(?_:(if(a.e-a.s).toNat<lim/\big a.s=af/\big a.e=af then R.ok (IK.items (iw a.s a.e)) σ else R.bad)=_);rw[if_pos ⟨show _<100000 by exact Vt h1 h2,mx (LV h1),mx (LV h2)⟩];delta iw rq;rw[tc];rfl
theorem xX {a:Hn}(h1:-10000<a.s/\a.s<10000)(h2:-10000<a.e/\a.e<10000):(rq a).length<50000:=by delta rq;rw[ak,mc];exact Vr h1 h2
noncomputable def C3:X:=.or [.cmp (.v 8) [.eq] [.lst ag []],.cmp (.v 3) [.lt] [.k (.int 0)],.cmp (.v 4) [.gt] [.v 2],.not (.cmp (.k (.int 0)) [.le,.lt] [.v 5,.v 2]),.cmp (.v 5) [.ry] [.v 8],.cmp (.v 6) [.lt] [.k (.int 0)]]
theorem aai  {a:Hn}{A:bo->Prop}(h:Eh m a->B σ)(he:¬Eh m a->A σ) :
  we G (cl d) [v0,v1,aa (.int m),aa (.int a.s),aa (.int a.e),aa (.int a.h),aa (.int a.d),v7,aa (oJ a),v9] E C3 [] σ λx σ=>Tw x (A σ) (B σ):=by
 delta C3;dsimp only[cY,cq,eI,cj,mC,ja,dT,eU,yI,jH,jG,Gs,Tb,oz,qW,slt,sle,Le,vF,qU,MU,nF,aD,ah,ai];have q0:fe σ .eq (oJ a) (.lst [])=aa (decide (rq a=[])):=OB (rq a) [];refine⟨lm rfl,Gi q0 (AY (λe=>he λq=>?_) λe1=>AY (λe=>he λq=>?_) λe2=>AY (λe=>he λq=>?_) λe3=>jq (λe4=>Gd (λe=>he λq=>e q.2.1.2) λe5=>Gi (qk a.h (rq a)) (AY (λe=>he λq=>q.2.2.2 (fR.1 e)) λe6=>AY (λe=>he λq=>?_) λe7=>?_)) λe=>he λq=>e q.2.1.1)⟩
 .have:=Cr.1 e;have:=q.1.2.1;exact Vq (by assumption) this
 .have:=q.1.1;exact LU e this
 .have:=q.1.2.2;exact Vp e this
 .have:=q.2.2.1;exact LU e this
 .exact h ⟨⟨by exact FN e2,by by_cases z:a.s<a.e;exact z;exact absurd (Cr.2 (Vo z)) e1,by exact Mj e3⟩,⟨e4,e5⟩,by exact FN e7,λz=>e6 (fR.2 z)⟩
theorem GO {a:Hn}(h:hs[i]?=aa a):hs=hs.take i++a::hs.drop (i+1):=by rw[<- tE h,List.take_append_drop]
theorem lG.at {a:Hn}(h:hs[i]?=aa a)(q:lG m hs):Eh m a/\∀b∈hs.take i,mf b a:=by refine⟨q.1 a (aJ h),λb hb=>?_⟩;have:=q.2;rw[GO h]at this;exact(kg.1 this).2.2 b hb a aR
theorem lG.snoc {a:Hn}(h:hs[i]?=aa a)(q:lG m (hs.take i))(q1:Eh m a)(q2:∀b∈hs.take i,mf b a):lG m (hs.take (i+1)):=by
 have e:hs.take (i+1)=hs.take i++[a]:=by rw[yk,h];rfl
 simp only[e];refine⟨λx hx=>(bg.1 hx).elim (q.1 x) λhx=>by rw[au.1 hx];exact q1,kg.2 ⟨q.2,Av _ _,λb hb x hx=>by rw[au.1 hx];exact q2 b hb⟩⟩
noncomputable def F8:List S:=[.ite (.cmp (.comp ag (.c 0) (.v 9) [.cmp (.c 0) [.ry] [.v 8]]) [.H3] [.tup [.lst ag [],.v 9]]) [.ret (.k (.bool ag))] []]
theorem F7 {a b:Hn}(hb:(rq b).length<50000)(ha1:a.s<a.e)(hb1:b.s<b.e)
  (h:mf b a->A [v0,v1,v2,v3,v4,v5,v6,v7,aa (oJ a),aa (oJ b)] σ)(he:¬mf b a->K (.bool ag) [v0,v1,v2,v3,v4,v5,v6,v7,aa (oJ a),aa (oJ b)] σ) :
  iR G (cl d) 1000 E F8 [v0,v1,v2,v3,v4,v5,v6,v7,aa (oJ a),aa (oJ b)] σ A K:=by
 delta F8;dsimp only[cY,cq,dX,eI,cj,dT,ez,eU,dW,dG,dw,cZ,Gs,Tb,qW,az,aD,ah,ai];refine k4 ?_;dsimp only[oJ,cq,Gs,qW,zQ,DG,KS,ah,ai];refine⟨by rw[ak,decide_eq_true (p:=(rq b).length<lim) (show _<100000 by exact ur hb)];rfl,Gi (j5 V.int (λx=>decide (x∈rq a)) λx U=>?_) ⟨show _<100000 by have:=jO (λx=>decide (x∈rq a)) (rq b);rw[ak];exact Vn hb this,lm rfl,lm rfl,Gi (ack _ _ (rq b)) ?_⟩⟩
 .dsimp only[cq,It,cj,eU,jH,jG,Gs,oz,ah,ai];refine Gi (qk x (rq a)) ?_;by_cases q:x∈rq a
  .rw[decide_eq_true q];rfl
  .rw[decide_eq_false q];rfl
 .have:=F3 hb1 ha1;by_cases q:mf b a
  .rw[decide_eq_true (this.2 q)];exact h q
  .rw[decide_eq_false λz=>q (this.1 z)];exact he q
end
section
variable {n:Nat}{hs:List Hn}
structure HBd (h:Hn):Prop where
 s:-10000<h.s/\h.s<10000
 e:-10000<h.e/\h.e<10000
inductive JH (σ:bo)(n:Nat)(c:List Row)(hs:List Hn)(i:Nat):Vs->bo->Prop
 |mk (a3 a4 a5 a6 a7 a8 a9:Option V):lG c.length (hs.take i)->JH σ n c hs i [aa (.loc n),aa (.loc σ.length),aa (.int c.length),a3,a4,a5,a6,a7,a8,a9] (σ++[.list ((hs.take i).map oJ)])
inductive JG (σ:bo)(n:Nat)(c:List Row)(hs:List Hn)(i:Nat)(a:Hn)(j:Nat):Vs->bo->Prop
 |mk (a9:Option V):(∀b∈(hs.take i).take j,mf b a)->JG σ n c hs i a j [aa (.loc n),aa (.loc σ.length),aa (.int c.length),aa (.int a.s),aa (.int a.e),aa (.int a.h),aa (.int a.d),aa (.bool a.f),aa (oJ a),a9] (σ++[.list ((hs.take i).map oJ)])
theorem Oz (u:hJ σ n c hs)(hc:c.length<300)(hh:hs.length<900)(GY:∀h∈hs,HBd h)(h:lG c.length hs->∀τ,Q (.bool af) (σ++τ))(he:¬lG c.length hs->∀τ,Q (.bool ag) (σ++τ)):Wp (cl (d+1) 37 [.loc n] σ) Q E:=by
 refine call gS 9 rfl rfl ?_;dsimp only[gS,jN,cY,cq,dX,eI,dR,eQ,dT,ez,fJ,fH,dG,dw,cZ,mS,i8,i7,Gs,xh,Ie,JY,d5,d6,d4,gu,az,aD,ah,aF,aG];refine⟨lm rfl,jh ((u.app _).dm 2 rfl) (Am (u.app _).c) ⟨show _<100000 by rw[ak];exact FK hc,lm rfl,rfl,?_⟩⟩;rw[ak];have u1:=λl:List V=>u.app [.list l];refine Gi ((u1 _).dm 5 rfl) (Cs (u1 _).h ?_);refine ke (hs.map hV) (JH σ n c hs) ?_ ?_ ?_ 1000 0 _ _ (bL _) (by rw[ak];exact FP hh) (.mk _ _ _ _ _ _ _ ⟨λU q=>absurd q ba,.nil⟩)
 .intro i vs τ I;induction I with|mk=>exact(u1 _).h
 .intro i v vs τ hv I;induction I with|mk a3 a4 a5 a6 a7 a8 a9 GR=>?_
  (refine dC (nE hv) λa ha z1=>?_;subst z1);have hm:a∈hs:=aJ ha;have hb:=GY a hm;refine Gi (a:=[aa (.loc n),aa (.loc σ.length),aa (.int c.length),aa (.int a.s),aa (.int a.e),aa (.int a.h),aa (.int a.d),aa (.bool a.f),a8,a9]) rfl (fF _ _ _ _ _ _ _ _ _ ?_);have no:¬lG c.length hs->∀τ,Q (.bool ag) (σ++τ):=he;dsimp only[cZ,dw,ew];refine k4 ?_;dsimp only[xu,dT,ez,cq,JX,Gs,qW,KS,ah,ai,aF,aG];rw[Jz hb.s hb.e];refine⟨by rw[ak,decide_eq_true (p:=(rq a).length<lim) (show _<100000 by have:=xX hb.s hb.e;exact ur this)];rfl,Gi (CK V.int V.int λx U=>rfl) ⟨show _<100000 by have:=xX hb.s hb.e;rw[ak];exact ur this,?_⟩⟩;have ry:Eh c.length a->wx G (cl d) 1000 E (.jx (.n 9) (.v 1) F8) [aa (.loc n),aa (.loc σ.length),aa (.int c.length),aa (.int a.s),aa (.int a.e),aa (.int a.h),aa (.int a.d),aa (.bool a.f),aa (oJ a),a9] (σ++[.list ((hs.take i).map oJ)]) (λvs cD=>iR G (cl d) 1000 E [.expr (.app (.v 1) (.v 8))] vs cD (JH σ n c hs (i+1)) (λv U σ=>Q v σ)) (λv U σ=>Q v σ):=λq1=>by
   dsimp only[cq,md,er,fH,dw,cZ,Gs,zQ,ah,ai];refine Cs (gE _ _) ?_;refine ke ((hs.take i).map oJ) (JG σ n c hs i a) ?_ ?_ ?_ 1000 0 _ _ (bL _) (by rw[ak,cv];exact Vh hh) (.mk _ λU q=>absurd q ba)
   .intro j vs τ I;induction I with|mk=>exact gE _ _
   .intro j v vs τ hv I;induction I with|mk a9 hj=>?_
    (refine dC (nE hv) λb CE z1=>?_;subst z1);have hbm:b∈hs.take i:=aJ CE;have Eg:=GY b (pJ hbm);refine Gi rfl (fF _ _ _ _ _ _ _ _ _ (F7 (xX Eg.s Eg.e) q1.1.2.1 (GR.1 b hbm).1.2.1 (λq=>JG.mk _ λx hx=>?_) λq=>no (λz=>q ((lG.at ha z).2 b hbm)) _));rw[yk,CE]at hx;refine b8 (bg.1 hx) (λhx=>?_) λhx=>?_
    .exact hj x hx
    .rw[show x=b from au.1 hx];exact q
   .intro vs τ I;induction I with|mk a9 hj=>?_
    rw[ak,jT]at hj;dsimp only[Gs,ah,ai];refine⟨qv (gE _ _),Li (gE _ _) ⟨show _<100000 by rw[ak,cv];exact Vg hh,?_⟩⟩;rw[sE,<- take_succ oJ ha];exact JH.mk _ _ _ _ _ _ _ (lG.snoc ha GR q1 hj)
  rw[dW];refine aai (A:=λcD=>iR G (cl d) 1000 E [.ret (.k (.bool ag))] _ cD _ _) (B:=λcD=>iR G (cl d) 1000 E [] _ cD _ _) (λq=>ry q) λq=>?_;exact no (λz=>q (lG.at ha z).1) _
 .intro vs τ I;induction I with|mk a3 a4 a5 a6 a7 a8 a9 GR=>?_
  rw[ak,jT]at GR;exact h GR _
end
theorem vm {b:Int->Bool}:∀ {l:List (Int×V)},(∀q∈l,b q.1=af)->oy b l=af
 |[]=>λU=>rfl
 |q::l=>λh=>by refine(?_:(b q.1&&oy b l)=af);rw[h q aR,vm λr hr=>h r (bf _ hr)];rfl
theorem Ik {G:List V}{Φ:Nat->List V->bo->R V}{W:Nat}{dd c:X}
  (h:we G Φ vs E dd [] σ λx cD=>∃n l,x=.loc n/\cD[n]?=aa (.cJ l)/\gr c=af/\l.length<lim/\(∀q∈l,R.val (ev G Φ (vs.set i (aa (.int q.1))) c [] cD)=aa (.bool ag))/\A (vs.set i ae) cD) :
  wx G Φ W E (.yb i dd c) vs σ A K:=by
 refine Wp.bind (Wp.imp (cz G Φ vs E dd [] σ _ h) λx cD h=>?_);(refine o25 h λn l z1 h1 h2 h3 h4 h5=>?_;try clear h;subst z1);dsimp only;rw[h1];dsimp only;rw[h2,decide_eq_true h3,vm λq hq=>by rw[h4 q hq]];exact h5
theorem Ir {G:List V}{Φ:Nat->List V->bo->R V}{o a:X}{n:Nat}{l:List (Int×V)}(hn:σ[n]?=aa (.cJ l))
  (h:we G Φ vs E o cs σ λx cD=>x=.loc n/\cD=σ/\we G Φ vs E a cs σ λy cD=>cD=σ/\aI y λi=>Q ((j4 l i).getD .none) σ):we G Φ vs E (.zZ o a) cs σ Q:=by
 refine Wp.bind (Wp.imp (cz G Φ vs E o cs σ _ h) λx cD h=>?_);obtain⟨rfl,rfl,h⟩:=h;have hD:isD cD (.loc n)=af:=by refine(?_:(match cD[n]? with|some (.cJ _)=>af|_=>ag)=af);rw[hn]
 rw[if_pos hD];refine Wp.bind (Wp.imp (cz G Φ vs E a cs _ _ h) λy cD h=>?_);obtain⟨rfl,h⟩:=h;induction y using V.casesOn with
 |int i =>dsimp only;rw[hn];exact h
 |_=>exact(h:False).elim
theorem Z5 {s:cW}{x:Int}(σ:bo)(hl:s.length<50000)(h:s[s.length-1]?=aa x):hU σ (lV s) (.int (-1))=aa (wV x):=by
 have hp:=(aC.1 h).1;refine(?_:(place (-1) (s.map wV).length).bind (λj=>(s.map wV)[j]?)=_);rw[q6];have e:place (-1) s.length=aa (s.length-1):=by unfold place;rw[if_neg (by decide),if_neg (by decide),if_pos (Vm hp)];congr 1;exact Vl hp
 rw[e];refine(?_:(s.map wV)[s.length-1]?=_);rw[cy,h];rfl
section
variable {n:Nat}{hs:List Hn}
theorem Gm {f:Fd}{q:Int×cW}(h:q∈f):∃s,look f q.1=aa s:=by
 induction f with
 |nil=>exact absurd h ba
 |cons a f ih =>
  obtain⟨a,t⟩:=a;refine(?_:∃s,(if a=q.1 then aa t else look f q.1)=aa s);by_cases e:a=q.1
  .exact⟨t,if_pos e⟩
  .rw[if_neg e];refine b8 (aN.1 h) (λh=>?_) λh=>?_
   .exact absurd (by rw[h]) e
   .exact ih h
theorem y8   {s:cW}{l:Fd}(hr:c[p.toNat]?=aa r)(h:step c hs p s=aa l):∃a,dS r p s=aa a:=by
 rw[step_at hr]at h;induction e:dS r p s with
 |none=>rw[e]at h;exact nomatch h
 |some a=>exact⟨a,rfl⟩
theorem Fu  {s:cW}{a:Fd}(ho:r.1<85)(e:r.1=79)(h:dS r p s=aa a):∃g,s[s.length-1]?=aa g/\0<=g:=by
 have hk:=wM e 2 (by decide +kernel);by_cases hn:s.length<fP r
 .rw[Wlo hn]at h;exact nomatch h
 rw[Wre hn e]at h;by_cases q:(s.drop (s.length-fP r)).getD 0 0 = -1/\0<=(s.drop (s.length-fP r)).getD 1 0
 .have q2:=q.2;rw[bU,rK,hk]at q2;rw[hk]at hn;have hi:s.length-1<s.length:=by exact Vk hk hn
  refine⟨s[s.length-1],bA hi,?_⟩;rw[show s.length-2+1=s.length-1 by exact Vj hk hn hi,bA hi]at q2;exact q2
 .rw[if_neg q]at h;exact nomatch h
theorem um (u:hJ σ n c hs)(hc:c.length<200)(hh:hs.length<900)(ho:∀r∈c,r.1<85)(hb:∀r∈c,∀g,r.2=aa g->g<1000000000)(GY:∀h∈hs,HBd h)
  (h:Lets c hs->∀τ,Q (.bool af) (σ++τ))(he:¬Lets c hs->∀τ,Q (.bool ag) (σ++τ)):Wp (cl (d+4) 41 [.loc n,fh] σ) Q E:=by
 refine call kH 2 rfl rfl ?_;dsimp only[kH,nW,cY,cq,cj,mC,ja,dz,dT,ez,eU,jH,jG,ew,dW,dG,dw,cZ,Gs,Tb,oz,P9,qU,d5,d6,d4,gu,ah,ai,aF,aG];refine Gv u (zr hc) ho hb (λq1 τ=>?_) λq1 τ=>?_
 .dsimp only[oz,qU,MV,nT];refine Oz (u.app τ) (zr hc) hh GY (λq2 Ag=>?_) λq2 Ag=>?_
  .dsimp only[oz,qU,MV,nT];have v:Valid c hs:=⟨q1,q2.1,q2.2⟩;refine Fz _ _ (A5 ((u.app τ).app Ag) hc hh ho v (λf γ gs tg rg aa2 fl=>?_) λq3 τ3=>?_)
   .have eL:∀X:bo,σ++τ++Ag++X=σ++(τ++Ag++X):=λX=>by rw[aV,aV,aV]
    generalize Cy:σ++τ++Ag=Ni at *;have u2:hJ (Ni++.cJ (f.map (eD lV))::γ) n c hs:=by rw[<- Cy];exact((u.app τ).app Ag).app _
    have hd:(Ni++.cJ (f.map (eD lV))::γ)[Ni.length]?=aa (.cJ (f.map (eD lV))):=Hb rfl;have fin:Q (.bool af) (Ni++.cJ (f.map (eD lV))::γ):=by rw[eL];exact h ⟨v,look f,gs⟩ _
    dsimp only[qU];refine Ik ?_;dsimp only[cq,Gs,ah,ai,aF,aG];refine⟨Ni.length,f.map (eD lV),rfl,hd,rfl,show _<100000 by rw[ak];exact qh fl,λq hq=>?_,fin⟩;(refine dC (bX.1 hq) λq' hq' z1=>?_;subst z1);obtain⟨s,sS⟩:=Gm hq';obtain⟨p0,p1⟩:=rg _ _ sS;refine dC (ny p0 p1) λr hr hm=>?_;obtain⟨_,l,hl,_⟩:=gs.c _ _ sS;obtain⟨a,hw⟩:=y8 hr hl;refine AL (cz _ _ _ _ _ _ _ _ ?_);dsimp only[eD,cY,cq,cj,iq,cA,dR,eU,jH,jG,Gs,oz,ah,ai];refine QF (u2.dm 2 rfl) (u2.row p0 hr (Ce hc)) rfl (gB _ (ho r hm)) rfl (Gi (nq _ (ho r hm) 79 _ (by decide) rfl) (jq (λe=>?_) λe=>?_))
    .have hp:=tg _ _ sS;have hlen:s.length<50000:=aa2 _ _ sS;refine dC (Fu (ho r hm) e hw) λg e1 e2=>?_;have e3:look f g=aa s:=by have:=hp (s.length-1) g e1 e2;rwa[show s.length-1+1=s.length by have:=(aC.1 e1).1;exact Vi this,jT]at this
     have gp:hU (Ni++.cJ (f.map (eD lV))::γ) (.loc Ni.length) (.int q'.1)=aa (lV s):=(Kf _ hd).trans ((iJ lV _ f).trans (by rw[sS];rfl));refine Ir hd ?_;dsimp only[cY,cq,AD,cA,Gs,PU,ah,ai];refine⟨rfl,rfl,jh gp (Z5 _ hlen e1) ?_⟩;rw[Nm e2];refine⟨rfl,?_⟩;dsimp only[PU];rw[iJ,e3];exact jh gp (lne _ s s) (by rw[decide_eq_true rfl];rfl)
    .rw[decide_eq_false e]
   .have:=he (λq=>q3 q.2) (τ++Ag++τ3);rw[aV,aV,<- aV τ];exact this
  .rw[aV];exact he (λq=>q2 ⟨q.1.h,q.1.pr⟩) _
 .exact he (λq=>q1 q.1.arg) _
end
theorem wN {α β:Type}(f:α->β):∀(l:List α) (i:Nat),(l.eraseIdx i).map f=(l.map f).eraseIdx i
 |[],_=>rfl
 |_::_,0=>rfl
 |a::l,i+1=>congrArg (λr=>f a::r) (wN f l i)
structure s7 (t:Nat)(c:List Row)(hs:List Hn):Prop where
 pos:0<c.length
 len:c.length<200
 hl:hs.length<900
 op:∀r∈c,r.1<85
 g:∀r∈c,∀g,r.2=aa g->-(1000*(t+1))<g/\g<1000*(t+1)
 s:∀h∈hs,-(1000*(t+1))<h.s/\h.s<1000*(t+1)
 e:∀h∈hs,-(1000*(t+1))<h.e/\h.e<1000*(t+1)
theorem hJ.Q3 {n:Nat}{hs:List Hn}(u:hJ σ n c hs)(c':List Row):hJ (σ.set (n+1) (.list (c'.map cV))) n c' hs:=by
 have hl:=(aC.1 u.c).1;refine⟨?_,?_,?_⟩
 .rw[dZ Vf];exact u.i
 .rw[gy hl]
 .rw[dZ Ve];exact u.h
theorem hJ.N6 {n:Nat}{hs:List Hn}(u:hJ σ n c hs)(sS:List Hn):hJ (σ.set (n+2) (.list (sS.map hV))) n c sS:=by
 have hl:=(aC.1 u.h).1;refine⟨?_,?_,?_⟩
 .rw[dZ Vd];exact u.i
 .rw[dZ Vc];exact u.c
 .rw[gy hl]
theorem s7.up  {hs:List Hn}(h:s7 t c hs):s7 (t+1) c hs :=
 ⟨h.pos,h.len,h.hl,h.op,λr hr g e=>by have:=h.g r hr g e;push_cast;exact FH this,λa ha=>by have:=h.s a ha;push_cast;exact FH this,λa ha=>by have:=h.e a ha;push_cast;exact FH this⟩
theorem s7.set  {hs:List Hn}(h:s7 t c hs)(i:Nat)(r:Row)(ho:r.1<85)(hg:∀g,r.2=aa g->-(1000*(t+2))<g/\g<1000*(t+2)):s7 (t+1) (c.set i r) hs:=by
 have u:=h.up;have e:∀q∈c.set i r,q∈c\/q=r:=λq hq=>lY hq;refine⟨by rw[bD];exact u.pos,by rw[bD];exact u.len,u.hl,λq hq=>?_,λq hq g e2=>?_,u.s,u.e⟩
 .refine b8 (e q hq) (λh=>?_) λh=>?_
  .exact u.op q h
  .rw[h];exact ho
 .refine b8 (e q hq) (λh=>?_) λh=>?_
  .exact u.g q h g e2
  .have:=hg g (h▸e2);push_cast;exact FI this
section
variable {k:Nat}{hs:List Hn}
theorem hJ.dr {x':Dr}(u:hJ (eW x γ) (k+2) c hs):hJ (eW x' γ) (k+2) c hs:=⟨u.i,u.c,u.h⟩
theorem setC (u:hJ (eW x γ) (k+2) c hs)(hc:c.length<200)(h0:0<=pc)(h1:pc<c.length)(r:Row){v:V}(hv:v=cV r){A:bo->Prop}(h:hJ (eW x (γ.set (k+1) (.list ((c.set pc.toNat r).map cV)))) (k+2) (c.set pc.toNat r) hs->A (eW x (γ.set (k+1) (.list ((c.set pc.toNat r).map cV))))) :
  Gt (o8 (eW x γ) (.loc (k+2+1)) (.int pc) v) A:=by
 refine Gi (Fc v u.c h0 (by rw[ak];exact h1) (by rw[ak];exact uq hc)) ?_;have e:(c.map cV).set pc.toNat v=(c.set pc.toNat r).map cV:=by rw[hv,BE]
 rw[e];exact h (u.Q3 _)
def Af (k t:Nat)(Q:V->bo->Prop):Prop:=∀x γ c hs,x.Ok->hJ (eW x γ) (k+2) c hs->s7 (t+1) c hs->Q .none (eW x γ)
def bb1:List S:=[.asg 7 (.call 23 [.v 0,.len (.v 2)]),
  .eY (.dm (.v 1) 2) (.v 4) (.tup [.v 7,.ite (.cmp (.sub (.sub (.v 2) (.v 7)) (.k (.int 1))) [.eq] [.k (.str (st "-"))]) (.k (.none)) (.ite (.cmp (.v 6) [.is] [.k (.none)]) (.call 23 [.v 0,.k (.int 3)]) (.v 6))])]
theorem PB (hx:x.Ok)(u:hJ (eW x γ) (k+2) c hs)(ok:s7 t c hs)(h0:0<=pc)(h1:pc<c.length)(hr:r∈c)(h:Af k t Q)  :
  iR G (cl (d+1)) 1000 E bb1 [aa (.loc 1),aa (.loc (k+2)),aa fh,v3,aa (.int pc),v5,aa (oV r.2),v7,v8,v9,v10] (eW x γ) (λU σ=>Q .none σ) K:=by
 unfold bb1;dsimp only[cY,cq,dX,cj,jb,cA,dR,dz,eQ,dT,ez,eU,ew,hR,dw,cZ,Gs,Tb,P9,az,aD,ah,ai,aF,aG];have hl:=ok.len;refine Gi (rfl:items (eW x γ) fh=aa (tab.map xQ)) ⟨show(tab.map xQ).length<100000 by rw[ak,jD];exact Jk,jZ hx (by rw[ak,jD];exact Vb) λo x1 o0 o1 rA=>?_⟩;rw[ak,jD]at o1;obtain⟨o,rfl⟩:=e8 o0;have ho:o<85:=by exact Va o1
 have u1:hJ (eW x1 γ) (k+2) c hs:=u.dr;have hg:=ok.g r hr;refine HY (gB _ ho) rfl (Qi _ ho 0 _ (by decide) rfl) (jq (λe=>?_) λe=>?_)
 .exact⟨lm rfl,Gi (u1.dm 2 rfl) (setC u1 hl h0 h1 (o,ae) rfl λu2=>h _ _ _ _ rA u2 (ok.set _ _ ho nofun))⟩
 .induction e2:r.2 with
  |none =>dsimp only[oV];refine jZ rA (by decide) λg x2 g0 g1 rz=>?_;have u2:hJ (eW x2 γ) (k+2) c hs:=u.dr;exact⟨lm rfl,Gi (u2.dm 2 rfl) (setC u2 hl h0 h1 (o,aa g) rfl λu3=>h _ _ _ _ rz u3 (ok.set _ _ ho λg' q=>by obtain rfl:=aj q;exact U9 g0 g1))⟩
  |some g =>have:=hg g e2;dsimp only[oV];exact⟨lm rfl,Gi (u1.dm 2 rfl) (setC u1 hl h0 h1 (o,aa g) rfl λu3=>h _ _ _ _ rA u3 (ok.set _ _ ho λg' q=>by obtain rfl:=aj q;exact oL this))⟩
noncomputable def bb2:List S:=[.eY (.dm (.v 1) 2) (.v 4) (.tup [.v 5,.bin .add ag (.v 6) (.sub (.lst ag [.k (.int 1),.bin .sub ag (.k (.int 0)) (.k (.int 1)),.k (.int 2)]) (.call 23 [.v 0,.k (.int 3)]))])]
theorem PA (hx:x.Ok)(u:hJ (eW x γ) (k+2) c hs)(ok:s7 t c hs)(h0:0<=pc)(h1:pc<c.length)(hr:r∈c){g:Int}(e:r.2=aa g)(h:Af k t Q)  :
  iR G (cl (d+1)) 1000 E bb2 [aa (.loc 1),aa (.loc (k+2)),v2,v3,aa (.int pc),aa (.int r.1),aa (.int g),v7,v8,v9,v10] (eW x γ) (λU σ=>Q .none σ) K:=by
 unfold bb2;dsimp only[cY,cq,dX,eI,eR,cA,dR,dz,dT,ez,hR,dw,cZ,Gs,Qz,qW,az,aD,ah,ai];have hl:=ok.len;have hg:=ok.g r hr g e;have ho:=ok.op r hr;refine⟨lm rfl,jZ hx (by decide) λj x1 j0 j1 rA=>?_⟩;have u1:hJ (eW x1 γ) (k+2) c hs:=u.dr;have fin:∀z:Int,-1<=z/\z<=2->Gt (yg (eW x1 γ) (.loc (k+2)) 2) λz_1=>Gt (o8 (eW x1 γ) z_1 (.int pc) (.tup [.int r.1,.int (g+z)])) λσ=>Q .none σ:=λz hz =>
  Gi (u1.dm 2 rfl) (setC u1 hl h0 h1 (r.1,aa (g+z)) rfl λu3=>h _ _ _ _ rA u3 (ok.set _ _ ho λg' q=>by obtain rfl:=aj q;exact U8 hg hz))
 have three:j=0\/j=1\/j=2:=by exact U7 j0 j1
 rcases three with rfl|rfl|rfl
 .exact Gi (a:=V.int 1) rfl ⟨lm rfl,fin 1 (by decide)⟩
 .exact Gi (a:=V.int (0-1)) rfl ⟨lm rfl,fin (0-1) (by decide)⟩
 .exact Gi (a:=V.int 2) rfl ⟨lm rfl,fin 2 (by decide)⟩
noncomputable def bb3:List S:=[.eY (.dm (.v 1) 2) (.v 4) (.tup [.v 5,.call 23 [.v 0,.bin .add ag (.len (.dm (.v 1) 2)) (.k (.int 1))]])]
theorem Pz (hx:x.Ok)(u:hJ (eW x γ) (k+2) c hs)(ok:s7 t c hs)(h0:0<=pc)(h1:pc<c.length)(hr:r∈c)(h:Af k t Q)  :
  iR G (cl (d+1)) 1000 E bb3 [aa (.loc 1),aa (.loc (k+2)),v2,v3,aa (.int pc),aa (.int r.1),v6,v7,v8,v9,v10] (eW x γ) (λU σ=>Q .none σ) K:=by
 unfold bb3;dsimp only[cY,cq,dX,eR,dR,dz,eQ,dT,ez,hR,dw,cZ,Gs,Ig,az,aD,ah,ai];have hl:=ok.len;have ho:=ok.op r hr;refine jh (u.dm 2 rfl) (Am u.c) ⟨show _<100000 by rw[ak];exact uq hl,?_⟩;rw[ak];refine jZ hx (U5 h0 h1) λg x1 g0 g1 rA=>?_;have u1:hJ (eW x1 γ) (k+2) c hs:=u.dr;exact⟨lm rfl,Gi (u1.dm 2 rfl) (setC u1 hl h0 h1 (r.1,aa g) rfl λu3=>h _ _ _ _ rA u3 (ok.set _ _ ho λg' q=>by obtain rfl:=aj q;exact U4 hl g0 g1))⟩
noncomputable def bb5:List S:=[.expr (.uu (.dm (.v 1) 2) (.v 4))]
theorem Px (hx:x.Ok)(u:hJ (eW x γ) (k+2) c hs)(ok:s7 t c hs)(h0:0<=pc)(h1:pc<c.length)(hp:1<c.length)(h:Af k t Q)  :
  iR G (cl (d+1)) 1000 E bb5 [v0,aa (.loc (k+2)),v2,v3,aa (.int pc),v5,v6,v7,v8,v9,v10] (eW x γ) (λU σ=>Q .none σ) K:=by
 unfold bb5;dsimp only[cq,dR,xv,er,dw,cZ,Gs,PU,ah,ai];have hl:=ok.len;refine dC (ny h0 h1) λr hr hm=>?_;have hi:pc.toNat<c.length:=by exact U3 h1 hp
 refine Gi (u.dm 2 rfl) ⟨qv u.c,Li u.c (Gi (a:=cV r) (by rw[cy,hr];rfl) ⟨⟨show _<100000 by rw[ak];exact uq hl,h0⟩,?_⟩)⟩;have e:(c.map cV).eraseIdx pc.toNat=(c.eraseIdx pc.toNat).map cV:=(wN cV c pc.toNat).symm;rw[e];have Bm:(c.eraseIdx pc.toNat).length=c.length-1:=List.length_eraseIdx_of_lt hi;have mem:∀q∈c.eraseIdx pc.toNat,q∈c:=λq hq=>List.mem_of_mem_eraseIdx hq;have up:=ok.up;exact h x (γ.set (k+1) (.list ((c.eraseIdx pc.toNat).map cV))) (c.eraseIdx pc.toNat) hs hx (u.Q3 _) ⟨by exact U1 hp Bm,by exact U0 hp hl Bm,up.hl,λq hq=>up.op q (mem q hq),λq hq=>up.g q (mem q hq),up.s,up.e⟩
end
section
variable {k:Nat}{hs:List Hn}
noncomputable def bb6:List S:=[.asg 9 (.call 23 [.v 0,.len (.dm (.v 1) 2)]),
    .fY [.sub (.dm (.v 1) 2) (.v 4),.sub (.dm (.v 1) 2) (.v 9)] (.tup [.sub (.dm (.v 1) 2) (.v 9),.sub (.dm (.v 1) 2) (.v 4)])]
theorem Pw (hx:x.Ok)(u:hJ (eW x γ) (k+2) c hs)(ok:s7 t c hs)(h0:0<=pc)(h1:pc<c.length)(h:Af k t Q)  :
  iR G (cl (d+1)) 1000 E bb6 [aa (.loc 1),aa (.loc (k+2)),v2,v3,aa (.int pc),v5,v6,v7,v8,v9,v10] (eW x γ) (λU σ=>Q .none σ) K:=by
 unfold bb6;dsimp only[cq,dX,cA,dR,dz,eQ,dT,ez,ew,fJ,dw,cZ,aaG,i8,i7,Gs,xh,az,aD,ah,ai,aF,aG];have hl:=ok.len;have hp:=ok.pos;refine jh (u.dm 2 rfl) (Am u.c) ⟨show _<100000 by rw[ak];exact uq hl,?_⟩;rw[ak];refine jZ hx (FJ hp) λg x1 g0 g1 rA=>?_;have u1:hJ (eW x1 γ) (k+2) c hs:=u.dr;refine dC (ny h0 h1) λr hr hm=>?_;refine dC (ny g0 g1) λq hq DK=>?_;have up:=ok.up;refine Gi4 (u1.dm 2 rfl) (u1.row g0 hq (Ce hl)) (u1.dm 2 rfl) (u1.row h0 hr (Ce hl)) ⟨lm rfl,rfl,Gi (u1.dm 2 rfl) (setC u1 hl h0 h1 q rfl λu2=>Gi (u2.dm 2 rfl) (setC u2 (by rw[bD];exact hl) g0 (by rw[bD];exact g1) r rfl λu3=>?_))⟩;refine h _ _ _ _ rA u3 ?_;have o1:s7 (t+1) (c.set pc.toNat q) hs:=ok.set _ _ (ok.op q DK) λg e=>by have:=ok.g q DK g e;exact oL this
 have e:∀z∈(c.set pc.toNat q).set g.toNat r,z∈c.set pc.toNat q\/z=r:=λz hz=>lY hz;refine⟨by rw[bD];exact o1.pos,by rw[bD];exact o1.len,o1.hl,λz hz=>?_,λz hz g e2=>?_,o1.s,o1.e⟩
 .rcases e z hz with h|h
  .exact o1.op z h
  .rw[h];exact up.op r hm
 .rcases e z hz with h|h
  .exact o1.g z h g e2
  .exact up.g r hm g (h▸e2)
theorem s7.N6   (h:s7 t c hs)(i:Nat)(a:Hn)(sS:-(1000*(t+2))<a.s/\a.s<1000*(t+2))(he:-(1000*(t+2))<a.e/\a.e<1000*(t+2)):s7 (t+1) c (hs.set i a):=by
 have u:=h.up;have e:∀q∈hs.set i a,q∈hs\/q=a:=λq hq=>lY hq;refine⟨u.pos,u.len,by rw[bD];exact u.hl,u.op,u.g,λq hq=>?_,λq hq=>?_⟩
 .rcases e q hq with h|h
  .exact u.s q h
  .rw[h];push_cast;exact FI sS
 .rcases e q hq with h|h
  .exact u.e q h
  .rw[h];push_cast;exact FI he
noncomputable def hL (a:Hn):List V:=[.int a.s,.int a.e,.int a.h,.int a.d,.bool a.f]
theorem FX (hx:x.Ok)(u:hJ (eW x γ) (k+2) c hs)(ok:s7 t c hs)(a:Hn){at':Int}(a0:0<=at')(a1:at'<hs.length)(sS:-(1000*(t+2))<a.s/\a.s<1000*(t+2))(he:-(1000*(t+2))<a.e/\a.e<1000*(t+2))(h:Af k t Q){L:Nat}(Bn:L=(eW x γ).length)  :
  iR G (cl (d+1)) 1000 E [.eY (.dm (.v 1) 5) (.v 8) (.tup [.sub (.v 10) (.k (.int 0)),.sub (.v 10) (.k (.int 1)),.sub (.v 10) (.k (.int 2)),.sub (.v 10) (.k (.int 3)),.sub (.v 10) (.k (.int 4))])] [v0,aa (.loc (k+2)),v2,v3,v4,v5,v6,v7,aa (.int at'),v9,aa (.loc L)] (eW x γ++[O.list (hL a)]) (λU σ=>Q .none σ) K:=by
 subst Bn;dsimp only[cY,cq,dX,cA,dR,dT,ez,hR,dw,cZ,Gs,az,aD,ah,ai];have hh:=ok.hl;have u1:=u.app [O.list (hL a)];have g:∀i,hU (eW x γ++[O.list (hL a)]) (.loc (eW x γ).length) (.int i)=hU (eW x γ++[O.list (hL a)]) (.lst (hL a)) (.int i):=λi=>DM i (gE _ _);refine QF ((g 0).trans rfl) ((g 1).trans rfl) ((g 2).trans rfl) ((g 3).trans rfl) ((g 4).trans rfl) ⟨lm rfl,jh (u1.dm 5 rfl) (Fc _ u1.h a0 (by rw[ak];exact a1) (by rw[ak];exact zt hh)) ?_⟩;have e:(hs.map hV).set at'.toNat (hV a)=(hs.set at'.toNat a).map hV:=by rw[BE]
 refine(?_:Q .none ((eW x γ++[O.list (hL a)]).set (k+2+2) (O.list ((hs.map hV).set at'.toNat (hV a)))));rw[e];exact h x ((γ++[O.list (hL a)]).set (k+2) (O.list ((hs.set at'.toNat a).map hV))) c _ hx (u1.N6 _) (ok.N6 _ _ sS he)
end
section
variable {k:Nat}{hs:List Hn}
noncomputable def HK:List S:=[.eY (.dm (.v 1) 5) (.v 8) (.tup [.sub (.v 10) (.k (.int 0)),.sub (.v 10) (.k (.int 1)),.sub (.v 10) (.k (.int 2)),.sub (.v 10) (.k (.int 3)),.sub (.v 10) (.k (.int 4))])]
noncomputable def bb4 (tl:List S):List S:=.fY [.n 8,.n 9] (.tup [.call 23 [.v 0,.len (.dm (.v 1) 5)],.call 23 [.v 0,.k (.int 5)]]) ::
   .asg 10 (.tolist (.sub (.dm (.v 1) 5) (.v 8))) ::
   .eY (.v 10) (.v 9) (.ite (.cmp (.v 9) [.eq] [.k (.int 4)]) (.not (.sub (.v 10) (.v 9))) (.bin .sub ag (.bin .add ag (.sub (.v 10) (.v 9)) (.k (.int 1))) (.bin .mul ag (.k (.int 2)) (.call 23 [.v 0,.k (.int 2)]))))::tl
theorem Py (hx:x.Ok)(u:hJ (eW x γ) (k+2) c hs)(ok:s7 t c hs)(oO:0<hs.length)(h:Af k t Q)  :
  iR G (cl (d+1)) 1000 E (bb4 HK) [aa (.loc 1),aa (.loc (k+2)),v2,v3,v4,v5,v6,v7,v8,v9,v10] (eW x γ) (λU σ=>Q .none σ) K:=by
 have hz:∀(x:Dr) (a:Hn) (at':Int) (v9:Option V),x.Ok->hJ (eW x γ) (k+2) c hs->0<=at'->at'<hs.length->(-(1000*((t:Int)+2))<a.s/\a.s<1000*(t+2))->(-(1000*((t:Int)+2))<a.e/\a.e<1000*(t+2))->∀L,L=(eW x γ).length ->
   iR G (cl (d+1)) 1000 E HK [aa (.loc 1),aa (.loc (k+2)),v2,v3,v4,v5,v6,v7,aa (.int at'),v9,aa (.loc L)] (eW x γ++[O.list (hL a)]) (λU σ=>Q .none σ) K :=
  λx a at' v9 hx u a0 a1 h1 h2 L Bn=>FX hx u ok a a0 a1 h1 h2 h Bn
 generalize HK=tl at *;unfold bb4;dsimp only[cY,cq,dX,eR,cj,ja,jb,cA,dR,dz,eQ,C9,dT,ez,eU,ew,fJ,hR,cZ,mS,i8,i7,Gs,Tb,xh,Ie,az,aD,ah,ai,aF,aG];have hh:=ok.hl;refine jh (u.dm 5 rfl) (Am u.h) ⟨show _<100000 by rw[ak];exact zt hh,?_⟩;rw[ak];refine jZ hx (FJ oO) λat' x1 a0 a1 rA=>jZ rA (by decide) λsp x2 s0 s1 rz=>⟨lm rfl,rfl,?_⟩;have u2:hJ (eW x2 γ) (k+2) c hs:=u.dr;have hi:at'.toNat<hs.length:=by exact U6 oO a1
 have hg:hU (eW x2 γ) (.loc (k+2+2)) (.int at')=aa (hV hs[at'.toNat]):=by rw[DM _ u2.h,zU _ a0 (by rw[ak];exact a1) (by rw[ak];exact zt hh),cy,bA hi];rfl
 have hm:hs[at'.toNat]∈hs:=vr hi;generalize hs[at'.toNat]=a at *;have b1:=ok.s a hm;have b2:=ok.e a hm;refine jh (u2.dm 5 rfl) hg ?_;dsimp only[hV,Gs,xh,AQ,az,aD];refine⟨lm rfl,?_⟩;have gk:∀(x:Dr) (i:Int),hU (eW x γ++[O.list (hL a)]) (.loc (eW x2 γ).length) (.int i)=hU (eW x γ++[O.list (hL a)]) (.lst (hL a)) (.int i):=λx i=>DM i (gE (eW x γ) _);have sk:∀(x:Dr) (a':Hn) (i:Int) (v:V),0<=i->i<5->(hL a).set i.toNat v=hL a'->∀{A:bo->Prop},A (eW x γ++[O.list (hL a')])->Gt (o8 (eW x γ++[O.list (hL a)]) (.loc (eW x2 γ).length) (.int i) v) A:=λx a' i v i0 i1 e A h=>by refine Gi (Fc v (gE (eW x γ) (.list (hL a))) i0 (by show i<5;exact i1) (show 5<100000 by decide)) ?_;rw[e,show(eW x2 γ).length=(eW x γ).length from rfl,sE];exact h
 have go:∀(x:Dr) (a':Hn) (i:Int) (v:V) (v9:Option V),x.Ok->hJ (eW x γ) (k+2) c hs->0<=i->i<5->(hL a).set i.toNat v=hL a'->(-(1000*((t:Int)+2))<a'.s/\a'.s<1000*(t+2))->(-(1000*((t:Int)+2))<a'.e/\a'.e<1000*(t+2)) ->
   Gt (o8 (eW x γ++[O.list (hL a)]) (.loc (eW x2 γ).length) (.int i) v) λσ=>iR G (cl (d+1)) 1000 E tl [aa (.loc 1),aa (.loc (k+2)),v2,v3,v4,v5,v6,v7,aa (.int at'),v9,aa (.loc (eW x2 γ).length)] σ (λU σ=>Q .none σ) K :=
  λx a' i v v9 hx u i0 i1 e h1 h2=>sk x a' i v i0 i1 e (hz x a' at' v9 hx u a0 a1 h1 h2 _ rfl)
 have acQ:sp=0\/sp=1\/sp=2\/sp=3\/sp=4:=by exact UZ s0 s1
 have tk:∀(i:Int) {P:V->bo->Prop},(∀(j:Int) (x3:Dr),0<=j->j<2->x3.Ok->(big 2&&big j)=af->P (.int j) (eW x3 γ++[O.list (hL a)]))->Wp (cl (d+1) 23 [.loc 1,.int 2] (eW x2 γ++[O.list (hL a)])) P E:=λi P h =>
  jZ (γ:=γ++[O.list (hL a)]) rz (by decide) λj x3 j0 j1 Bi=>h j x3 j0 j1 Bi (by rw[mx (i:=j) (UX j0 j1)];rfl)
 rcases acQ with rfl|rfl|rfl|rfl|rfl
 .refine Gi ((gk x2 0).trans rfl) (tk 0 λj x3 j0 j1 Bi hb=>⟨hb,go x3 ⟨a.s+1-2*j,a.e,a.h,a.d,a.f⟩ 0 _ _ Bi u2.dr (by decide) (by decide) rfl (by dsimp only;exact LP b1 j0 j1) (by dsimp only;exact oL b2)⟩)
 .refine Gi ((gk x2 1).trans rfl) (tk 0 λj x3 j0 j1 Bi hb=>⟨hb,go x3 ⟨a.s,a.e+1-2*j,a.h,a.d,a.f⟩ 1 _ _ Bi u2.dr (by decide) (by decide) rfl (by dsimp only;exact oL b1) (by dsimp only;exact LP b2 j0 j1)⟩)
 .refine Gi ((gk x2 2).trans rfl) (tk 0 λj x3 j0 j1 Bi hb=>⟨hb,go x3 ⟨a.s,a.e,a.h+1-2*j,a.d,a.f⟩ 2 _ _ Bi u2.dr (by decide) (by decide) rfl (by dsimp only;exact oL b1) (by dsimp only;exact oL b2)⟩)
 .refine Gi ((gk x2 3).trans rfl) (tk 0 λj x3 j0 j1 Bi hb=>⟨hb,go x3 ⟨a.s,a.e,a.h,a.d+1-2*j,a.f⟩ 3 _ _ Bi u2.dr (by decide) (by decide) rfl (by dsimp only;exact oL b1) (by dsimp only;exact oL b2)⟩)
 .refine Gi ((gk x2 4).trans rfl) (go x2 ⟨a.s,a.e,a.h,a.d,!a.f⟩ 4 _ _ rz u2 (by decide) (by decide) rfl (by dsimp only;exact oL b1) (by dsimp only;exact oL b2))
end
section
variable {k:Nat}{hs:List Hn}
noncomputable def be5 (b5 b6:List S):List S:=[.ite (.and [.cmp (.v 3) [.eq] [.k (.int 5)],.cmp (.len (.dm (.v 1) 2)) [.gt] [.k (.int 1)]]) b5 b6]
noncomputable def be4 (b4 e5:List S):List S:=[.ite (.and [.cmp (.v 3) [.eq] [.k (.int 4)],.cmp (.dm (.v 1) 5) [.ne] [.lst ag []]]) b4 e5]
def be3 (b3 e4:List S):List S:=[.ite (.and [.cmp (.v 3) [.eq] [.k (.int 3)],.cmp (.sub (.sub (.v 2) (.v 5)) (.k (.int 1))) [.eq] [.k (.str (st "t"))]]) b3 e4]
noncomputable def be2 (b2 e3:List S):List S:=[.ite (.and [.cmp (.v 3) [.eq] [.k (.int 2)],.cmp (.v 6) [.r8 ()] [.k (.none)]]) b2 e3]
noncomputable def bbo (b1 e2:List S):List S:=[.fY [.n 3,.n 4] (.tup [.call 23 [.v 0,.k (.int 7)],.call 23 [.v 0,.len (.dm (.v 1) 2)]]),
 .fY [.n 5,.n 6] (.sub (.dm (.v 1) 2) (.v 4)),
 .ite (.cmp (.v 3) [.lt] [.k (.int 2)]) b1 e2]
theorem PN:vg=bbo bb1 (be2 bb2 (be3 bb3 (be4 (bb4 HK) (be5 bb5 bb6)))):=rfl
theorem Pn {b5 b6:List S}(u:hJ (eW x γ) (k+2) c hs)(hc:c.length<200)(h1:1<c.length->iR G (cl d) 1000 E b5 [aa (.loc 1),aa (.loc (k+2)),aa fh,aa (.int fo),aa (.int pc),aa (.int r.1),aa (oV r.2),ae,ae,ae,ae] (eW x γ) (λU σ=>Q .none σ) (λv U σ=>Q v σ))(h2:iR G (cl d) 1000 E b6 [aa (.loc 1),aa (.loc (k+2)),aa fh,aa (.int fo),aa (.int pc),aa (.int r.1),aa (oV r.2),ae,ae,ae,ae] (eW x γ) (λU σ=>Q .none σ) (λv U σ=>Q v σ)) :
  iR G (cl d) 1000 E (be5 b5 b6) [aa (.loc 1),aa (.loc (k+2)),aa fh,aa (.int fo),aa (.int pc),aa (.int r.1),aa (oV r.2),ae,ae,ae,ae] (eW x γ) (λU σ=>Q .none σ) (λv U σ=>Q v σ):=by
 unfold be5;dsimp only[cY,cq,cj,iq,dR,eQ,eU,jH,jG,dW,dw,cZ,Gs,Tb,oz,Le,AQ,vF,ah,ai];exact vj (λU=>jh (u.dm 2 rfl) (Am u.c) ⟨show _<100000 by rw[ak];exact uq hc,vj (λe=>h1 (by rw[ak]at e;exact U2 e)) λU=>h2⟩) λU=>h2
theorem Po {b5 b6:List S}(u:hJ (eW x γ) (k+2) c hs)(h1:0<hs.length->iR G (cl d) 1000 E b5 [aa (.loc 1),aa (.loc (k+2)),aa fh,aa (.int fo),aa (.int pc),aa (.int r.1),aa (oV r.2),ae,ae,ae,ae] (eW x γ) (λU σ=>Q .none σ) (λv U σ=>Q v σ))(h2:iR G (cl d) 1000 E b6 [aa (.loc 1),aa (.loc (k+2)),aa fh,aa (.int fo),aa (.int pc),aa (.int r.1),aa (oV r.2),ae,ae,ae,ae] (eW x γ) (λU σ=>Q .none σ) (λv U σ=>Q v σ)) :
  iR G (cl d) 1000 E (be4 b5 b6) [aa (.loc 1),aa (.loc (k+2)),aa fh,aa (.int fo),aa (.int pc),aa (.int r.1),aa (oV r.2),ae,ae,ae,ae] (eW x γ) (λU σ=>Q .none σ) (λv U σ=>Q v σ):=by
 unfold be4;dsimp only[cY,cq,eI,cj,iq,dR,dT,eU,jH,jG,dW,dw,cZ,Gs,Tb,oz,qW,AQ,vF,aD,ah,ai];refine vj (λU=>Gi (u.dm 5 rfl) ⟨lm rfl,Gi (NZ u.h (okH hs)) ?_⟩) λU=>h2;induction e:hs using List.casesOn with
 |nil=>exact h2
 |cons a l=>exact h1 (by rw[e];exact Nat.succ_pos _)
theorem Pp {b5 b6:List S}(ho:r.1<85)(h1:iR G (cl d) 1000 E b5 [aa (.loc 1),aa (.loc (k+2)),aa fh,aa (.int fo),aa (.int pc),aa (.int r.1),aa (oV r.2),ae,ae,ae,ae] (eW x γ) (λU σ=>Q .none σ) (λv U σ=>Q v σ))(h2:iR G (cl d) 1000 E b6 [aa (.loc 1),aa (.loc (k+2)),aa fh,aa (.int fo),aa (.int pc),aa (.int r.1),aa (oV r.2),ae,ae,ae,ae] (eW x γ) (λU σ=>Q .none σ) (λv U σ=>Q v σ)) :
  iR G (cl d) 1000 E (be3 b5 b6) [aa (.loc 1),aa (.loc (k+2)),aa fh,aa (.int fo),aa (.int pc),aa (.int r.1),aa (oV r.2),ae,ae,ae,ae] (eW x γ) (λU σ=>Q .none σ) (λv U σ=>Q v σ):=by
 unfold be3;dsimp only[cY,cq,cj,iq,cA,eU,jH,jG,dW,dw,cZ,Gs,Tb,oz,AQ,vF,ah,ai];exact vj (λU=>HY (gB _ ho) rfl (Qi _ ho 6 _ (by decide) rfl) (vj (λU=>h1) λU=>h2)) λU=>h2
theorem Pq {b5 b6:List S}(h1:∀g,r.2=aa g->iR G (cl d) 1000 E b5 [aa (.loc 1),aa (.loc (k+2)),aa fh,aa (.int fo),aa (.int pc),aa (.int r.1),aa (.int g),ae,ae,ae,ae] (eW x γ) (λU σ=>Q .none σ) (λv U σ=>Q v σ))(h2:iR G (cl d) 1000 E b6 [aa (.loc 1),aa (.loc (k+2)),aa fh,aa (.int fo),aa (.int pc),aa (.int r.1),aa (oV r.2),ae,ae,ae,ae] (eW x γ) (λU σ=>Q .none σ) (λv U σ=>Q v σ)) :
  iR G (cl d) 1000 E (be2 b5 b6) [aa (.loc 1),aa (.loc (k+2)),aa fh,aa (.int fo),aa (.int pc),aa (.int r.1),aa (oV r.2),ae,ae,ae,ae] (eW x γ) (λU σ=>Q .none σ) (λv U σ=>Q v σ):=by
 unfold be2;dsimp only[cY,cq,cj,iq,eU,jH,jG,dW,dw,cZ,Gs,Tb,oz,AQ,QZ,vF,ah,ai];refine vj (λU=>?_) λU=>h2;induction e:r.2 with
 |none=>rw[e]at h2;exact h2
 |some g=>exact h1 g e
theorem Kz (hx:x.Ok)(u:hJ (eW x γ) (k+2) c hs)(ok:s7 t c hs)(h:Af k t Q):Wp (cl (d+2) 35 [.loc 1,.loc (k+2),fh] (eW x γ)) Q E:=by
 refine call pv 8 rfl rfl ?_;dsimp only[pv];simp only[PN];have hl:=ok.len;have hp:=ok.pos;have hh:=ok.hl;have c1:=λ(x:Dr) hx (u:hJ (eW x γ) (k+2) c hs) pc h0 h1 r hr v3 v5 v7 v8 v9 v10=>PB (d:=d) (E:=E) (Q:=Q) hx u ok (pc:=pc) h0 h1 (r:=r) hr h (v3:=v3) (v5:=v5) (v7:=v7) (v8:=v8) (v9:=v9) (v10:=v10) (K:=λv U σ=>Q v σ);have e2:∀(x:Dr) (hx:x.Ok) (u:hJ (eW x γ) (k+2) c hs) (fo pc:Int) (h0:0<=pc) (h1:pc<c.length) (r:Row) (hr:r∈c),iR G (cl (d+1)) 1000 E (be2 bb2 (be3 bb3 (be4 (bb4 HK) (be5 bb5 bb6)))) [aa (.loc 1),aa (.loc (k+2)),aa fh,aa (.int fo),aa (.int pc),aa (.int r.1),aa (oV r.2),ae,ae,ae,ae] (eW x γ) (λU σ=>Q .none σ) (λv U σ=>Q v σ):=λx hx u fo pc h0 h1 r hr =>
  Pq (λg e=>PA hx u ok h0 h1 hr e h) (Pp (ok.op r hr) (Pz hx u ok h0 h1 hr h) (Po u (λoO=>Py hx u ok oO h) (Pn u hl (λhp=>Px hx u ok h0 h1 hp h) (Pw hx u ok h0 h1 h))))
 generalize bb1=b1 at *;generalize be2 _ _=b2 at *;unfold bbo;dsimp only[cY,cq,dX,cj,cA,dR,dz,eQ,dT,ez,eU,fJ,dW,dw,cZ,mS,i8,i7,Gs,Tb,xh,d5,d6,d4,gu,az,aD,ah,ai,aF,aG];refine jZ hx (by decide) λfo x1 f0 f1 rA=>?_;have u1:hJ (eW x1 γ) (k+2) c hs:=u.dr;refine jh (u1.dm 2 rfl) (Am u1.c) ⟨show _<100000 by rw[ak];exact uq hl,?_⟩;rw[ak];refine jZ rA (FJ hp) λpc x2 p0 p1 rz=>⟨lm rfl,rfl,?_⟩;have u2:hJ (eW x2 γ) (k+2) c hs:=u.dr;refine dC (ny p0 p1) λr hr hm=>?_;refine jh (u2.dm 2 rfl) (u2.row p0 hr (Ce hl)) ?_;dsimp only[cV,mS,i8,i7,Gs,xh,slt,az,aD,ah,ai,aF,aG];exact⟨rfl,jq (λU=>c1 x2 rz u2 pc p0 p1 r hm _ _ _ _ _ _) λU=>e2 x2 rz u2 fo pc p0 p1 r hm⟩
end
abbrev LT:=cW×Bool
noncomputable def ty (q:Int)(t:LT):cW:=if t.2=af then t.1++[-1,q]else t.1
def RT (T:List LT)(r:Row)(s nx:cW):Prop:=∀(p:Int) (Lf:List Int),∃l,dS (o9 Lf r) p s=aa l /\
 ∀e∈l,e=(p+1,nx)\/∃(i:Nat) (t:LT),r.2=aa (i:Int)/\T[i]?=aa t/\e=(Lf.getD i 0,ty (Lf.getD i 0) t)
theorem RT.mono {T:List LT}{s nx:cW}(h:RT T r s nx)(t:LT):RT (T++[t]) r s nx:=λp Lf=>by refine dC (h p Lf) λl h1 h2=>?_;refine⟨l,h1,λe he=>(h2 e he).imp id λ⟨i,t',a,b,c⟩=>⟨i,t',a,?_,c⟩⟩;rw[aZ (aC.1 b).1];exact b
def fQ (r:Row)(th:cW):Option cW:=if th.length<fP r\/(r.1≠6/\(th.drop (th.length-fP r)).any (jJ (r.1==69))=af)\/kd r.1=6\/r.1=77\/r.1=78\/r.1=79 then ae else aa (th.take (th.length-fP r)++made r.1)
theorem z7 (s th:cW)(m:Nat)(h:m<=th.length):(s++th).take ((s++th).length-m)=s++th.take (th.length-m):=by rw[ao,show s.length+th.length-m=s.length+(th.length-m) by exact LS h,List.take_length_add_append]
theorem nY (s th:cW)(m:Nat)(h:m<=th.length):(s++th).drop ((s++th).length-m)=th.drop (th.length-m):=by rw[ao,show s.length+th.length-m=s.length+(th.length-m) by exact LS h,List.drop_length_add_append]
theorem RT.rel {T:List LT}{s th th':cW}(h:fQ r th=aa th'):RT T r (s++th) (s++th'):=by
 unfold fQ at h;by_cases q:th.length<fP r\/(r.1≠6/\(th.drop (th.length-fP r)).any (jJ (r.1==69))=af)\/kd r.1=6\/r.1=77\/r.1=78\/r.1=79
 .rw[if_pos q]at h;exact nomatch h
 rw[if_neg q]at h;cases h;have q1:¬th.length<fP r:=λz=>q (.inl z);have q2:¬(r.1≠6/\(th.drop (th.length-fP r)).any (jJ (r.1==69))=af):=λz=>q (.inr (.inl z));have q3:¬kd r.1=6:=λz=>q (.inr (.inr (.inl z)));have q4:r.1≠77/\r.1≠78/\r.1≠79:=⟨λz=>q (by simp[z]),λz=>q (by simp[z]),λz=>q (by simp[z])⟩;intro p Lf;have e:o9 Lf r=r:=if_neg q3;rw[e,Wel (by rw[ao];exact LR q) q4.2.1 q4.2.2 q4.1,nY _ _ _ (LQ q),if_neg q2,z7 _ _ _ (LQ q)];refine⟨_,rfl,λe he=>.inl ?_⟩;unfold F9 jmp at he;rw[if_neg q3,aP]at he
 split at he
 .exact absurd he ba
 .rw[au.1 he,aV]
theorem RT.end_ {T:List LT}{s th th' nx:cW}(h:fQ r th=aa th')(hl:r.1∈vV):RT T r (s++th) nx:=by
 intro p Lf;unfold fQ at h;by_cases q:th.length<fP r\/(r.1≠6/\(th.drop (th.length-fP r)).any (jJ (r.1==69))=af)\/kd r.1=6\/r.1=77\/r.1=78\/r.1=79
 .rw[if_pos q]at h;exact nomatch h
 have q1:¬th.length<fP r:=λz=>q (.inl z);have q2:¬(r.1≠6/\(th.drop (th.length-fP r)).any (jJ (r.1==69))=af):=λz=>q (.inr (.inl z));have q3:¬kd r.1=6:=λz=>q (.inr (.inr (.inl z)));have q4:r.1≠77/\r.1≠78/\r.1≠79:=⟨λz=>q (by simp[z]),λz=>q (by simp[z]),λz=>q (by simp[z])⟩;have e:o9 Lf r=r:=if_neg q3;rw[e,Wel (by rw[ao];exact LR q) q4.2.1 q4.2.2 q4.1,nY _ _ _ (by lia),if_neg q2];refine⟨_,rfl,λe he=>?_⟩;unfold F9 jmp at he;rw[if_neg q3,aP,if_pos hl]at he;exact absurd he ba
section
variable {T:List LT}{s nx:cW}{t:LT}
theorem Fq (h:kd o=6)(Lf:List Int)(i:Nat):o9 Lf (o,aa (i:Int))=(o,aa (Lf.getD i 0)):=by unfold o9;rw[if_pos h];rfl
theorem Gh (o:Nat)(g:Option Int)(m:Nat)(h:(tk o==m&&!(kd o==7))=af):fP (o,g)=m:=wM (r:=(o,g)) rfl m h
theorem RT.jp {th:cW}(hk:(kd o==6&&o != 77&&o != 78&&o != 79)=af)(hm:(tk o==th.length)=af)(hv:th.any (jJ (o==69))=ag)(hn:o∈vV\/nx=s++made o)
  (hi:T[i]?=aa (if o=61\/o=62 then s++th else s++made o,ag)):RT T (o,aa (i:Int)) (s++th) nx:=by
 simp only[bz,beq_iff_eq,bne_iff_ne]at hk;have hm:=eq_of_beq hm;intro p Lf;rw[Fq hk.1.1.1];have m0:fP (o,aa (Lf.getD i 0))=th.length:=by unfold fP;rw[if_neg (by show¬kd o=7;exact UT hk)];exact hm
 have w:=Wel (r:=(o,aa (Lf.getD i 0))) (pc:=p) (s:=s++th) (by rw[m0,ao];exact US) hk.1.2 hk.2 hk.1.1.2;rw[m0,nY _ _ _ (aO _),z7 _ _ _ (aO _),oB,yl,List.take_zero,aP,if_neg (λz=>by rw[hv]at z;exact nomatch z.2)]at w;refine⟨_,w,λe he=>?_⟩;refine b8 (bg.1 he) (λhe=>?_) λhe=>?_
 .unfold F9 at he
  split at he
  .exact absurd he ba
  .rename_i q
   rw[au.1 he];exact .inl (by rw[hn.elim (λz=>absurd z q) id])
 .unfold jmp at he;rw[if_pos hk.1.1.1]at he;rw[au.1 he];exact .inr ⟨i,_,rfl,hi,rfl⟩
theorem RT.nxi (hi:T[i]?=aa (s++[-2],ag)):RT T (77,aa (i:Int)) (s++[-2]) (s++[-2]++[-1]):=by
 intro p Lf;rw[Fq (by decide +kernel)];have m0:=Gh 77 (aa (Lf.getD i 0)) 1 (by decide +kernel);have w:=Wnx (r:=(77,aa (Lf.getD i 0))) (pc:=p) (s:=s++[-2]) (by rw[m0,ao];show¬_+1<1;exact UR) rfl;rw[m0,nY _ [-2] 1 (aO _)]at w;refine⟨_,w,λe he=>?_⟩;refine b8 (aN.1 he) (λhe=>?_) λhe=>?_
 .rw[he];exact .inr ⟨i,_,rfl,hi,rfl⟩
 .rw[au.1 he];exact .inl rfl
theorem RT.go (hi:T[i]?=aa (s,af)):RT T (78,aa (i:Int)) s s:=by
 intro p Lf;rw[Fq (by decide +kernel)];have m0:=Gh 78 (aa (Lf.getD i 0)) 0 (by decide +kernel);refine⟨_,Wgo (by rw[m0];exact UP) rfl,λe he=>?_⟩;refine b8 (aN.1 he) (λhe=>?_) λhe=>?_
 .rw[he];exact .inr ⟨i,_,rfl,hi,rfl⟩
 .rw[au.1 he];exact .inl rfl
theorem RT.re {q:Int}(hq:0<=q):RT T (79,ae) (s++[-1,q]) nx:=by intro p Lf;have m0:=Gh 79 ae 2 (by decide +kernel);have e:o9 Lf (79,ae)=(79,ae):=if_neg (by decide +kernel);have w:=Wre (r:=(79,ae)) (pc:=p) (s:=s++[-1,q]) (by rw[m0,ao];show¬_+2<2;exact UN) rfl;rw[m0,nY _ [-1,q] 2 (aO _),if_pos ⟨rfl,hq⟩]at w;rw[e];exact⟨_,w,λe he=>absurd he ba⟩
end
def AR (m:Nat)(r:Row):Prop:=r.1<85/\(kd r.1=6->∃l:Nat,r.2=aa (l:Int)/\l<m)/\(kd r.1≠6->dO 0 r/\∀g,r.2=aa g->g<1000)
theorem AR.mono {m':Nat}(h:AR m r)(q:m<=m'):AR m' r:=⟨h.1,λe=>let ⟨l,a,b⟩:=h.2.1 e;⟨l,a,bK b q⟩,h.2.2⟩
structure Iv (b:Bx)(S:List cW)(cur:cW)(T:List LT):Prop where
 sl:S.length=b.R.length
 tl:T.length=b.L.length
 rt:∀(p:Nat) (r:Row) (s:cW),b.R[p]?=aa r->S[p]?=aa s->∃nx,(S++[cur])[p+1]?=aa nx/\RT T r s nx
 lb:∀(i:Nat) (q:Int) (τ:LT),b.L[i]?=aa q->T[i]?=aa τ->q = -1\/(0<=q/\(S++[cur])[q.toNat]?=aa (ty q τ))
 ar:∀r∈b.R,AR b.L.length r
theorem gf {l:List α}{a b:α}(h:l[i]?=aa a):(l++[b])[i]?=aa a:=by rw[aZ (aC.1 h).1];exact h
theorem CO {l:List α}{a b:α}(h:(l++[b])[i]?=aa a):l[i]?=aa a\/(i=l.length/\a=b):=by
 by_cases q:i<l.length
 .rw[aZ q]at h;exact .inl h
 .have hl:=(aC.1 h).1;rw[ao]at hl;have hl:i<l.length+1:=hl;have e:i=l.length:=by exact Mk q hl
  subst e;rw[cP]at h;exact .inr ⟨rfl,(aj h).symm⟩
section
variable {b:Bx}{S:List cW}{cur:cW}{T:List LT}
theorem Iv.put (h:Iv b S cur T){nx:cW}(hr:RT T (o,g) cur nx)(ha:AR b.L.length (o,g)):Iv (b.put o g) (S++[cur]) nx T:=by
 refine⟨by show _=(b.R++[_]).length;rw[ao,ao,h.sl];rfl,h.tl,λp r s hp hs=>?_,λi q τ hq ht=>(h.lb i q τ hq ht).imp id λz=>⟨z.1,gf z.2⟩,λr hr=>?_⟩
 .rcases CO (hp:(b.R++[(o,g)])[p]?=aa r)with hp|⟨rfl,rfl⟩
  .have GQ:=(aC.1 hp).1;rw[aZ (by rw[h.sl];exact GQ)]at hs;refine dC (h.rt p r s hp hs) λnx' h1 h2=>?_;exact⟨nx',gf h1,h2⟩
  .rw[<- h.sl,cP]at hs;obtain rfl:=aj hs;refine⟨nx,?_,hr⟩;rw[show b.R.length+1=(S++[cur]).length by rw[ao,h.sl];rfl,cP]
 .rcases bg.1 (hr:r∈b.R++[(o,g)])with hr|hr
  .exact h.ar r hr
  .rw[au.1 hr];exact ha
theorem Iv.fD (h:Iv b S cur T)(τ:LT):Iv b.fD S cur (T++[τ]):=by
 refine⟨h.sl,by rw[ao,h.tl,dB];rfl,λp r s hp hs=>let ⟨nx,a,c⟩:=h.rt p r s hp hs;⟨nx,a,c.mono τ⟩,λi q τ' hq ht=>?_,λr hr=>(h.ar r hr).mono (by rw[dB];exact jn _)⟩;rcases CO (hq:(b.L++[-1])[i]?=aa q)with hq|⟨rfl,rfl⟩
 .rw[aZ (by rw[h.tl];exact(aC.1 hq).1)]at ht;exact h.lb i q τ' hq ht
 .exact .inl rfl
theorem Iv.here (h:Iv b S cur T){τ:LT}(hi:T[i]?=aa τ)(hc:cur=ty (b.R.length:Int) τ):Iv (b.here i) S cur T:=by
 refine⟨h.sl,by rw[gK];exact h.tl,h.rt,λj q τ' hq ht=>?_,λr hr=>by rw[gK];exact h.ar r hr⟩;have hq:(b.L.set i b.R.length)[j]?=aa q:=hq;by_cases e:i=j
 .subst e;rw[gy (by rw[<- h.tl];exact(aC.1 hi).1)]at hq;obtain rfl:=aj hq;rw[hi]at ht;obtain rfl:=aj ht;refine .inr ⟨eM _,?_⟩;rw[cg,<- h.sl,cP,hc,h.sl]
 .rw[dZ e]at hq;exact h.lb j q τ' hq ht
theorem Iv.x7 (h:Iv b S cur T)(x:Hl):Iv (b.x7 x) S cur T:=⟨h.sl,h.tl,h.rt,h.lb,h.ar⟩
end
def jS:List Row->cW->Option (List cW×cW)
 |[],th=>aa ([],th)
 |r::l,th=>match fQ r th with
  |none=>ae
  |some th'=>match jS l th' with
   |none=>ae
   |some (w,z)=>aa (th::w,z)
theorem Iv.run {T:List LT}{s:cW}:∀(l:List Row) (b:Bx) (S:List cW) (th:cW) (w:List cW) (z:cW),Iv b S (s++th) T->jS l th=aa (w,z)->(∀r∈l,AR b.L.length r)->Iv (b.pb l) (S++w.map (s++·)) (s++z) T
 |[]=>λb S th w z h e U=>by
  cases e
  rw[zw,s9,aP];exact h
 |r::l=>λb S th w z h e ha=>by
  have e:(match fQ r th with|none=>ae|some th'=>match jS l th' with|none=>ae|some (w,z)=>aa (th::w,z))=aa (w,z):=e;induction e1:fQ r th with
  |none=>rw[e1]at e;exact nomatch e
  |some th' =>
   rw[e1]at e;dsimp only at e;induction e2:jS l th' with
   |none=>rw[e2]at e;exact nomatch e
   |some wz =>obtain⟨w',z'⟩:=wz;rw[e2]at e;cases e;have:=Iv.run l (b.put r.1 r.2) (S++[s++th]) th' _ _ (h.put (RT.rel e1) (ha r aR)) e2 λq hq=>ha q (bf _ hq);rw[wI,eN];rw[aV]at this;exact this
noncomputable def arC (k:Nat)(o:Option Int):Bool:=if k=0 then decide (o=ae)else if k=1 then decide (o=aa 0)else if k=2 then decide (o=aa 1)else if k=3 then decide (o=aa 0)else if k=7 then(match o with
  |some g=>decide (0<=g/\g<1000)
  |none=>ag)else ag
def QB (r:Row):Bool:=decide (r.1<85)&&(kd r.1 != 6)&&arC (kd r.1) r.2
theorem vz  (h:QB r=af):AR m r:=by
 unfold QB at h;rw[bz,bz]at h;obtain⟨⟨h1,h2⟩,h3⟩:=h;have h2:=bne_iff_ne.1 h2;refine⟨of_decide_eq_true h1,λq=>absurd q h2,λU=>?_⟩;delta dO;delta arC at h3;by_cases e1:kd r.1=0
 .rw[if_pos e1]at h3;have e2:=of_decide_eq_true h3;rw[if_pos e1,e2];exact⟨rfl,nofun⟩
 rw[if_neg e1]at h3;rw[if_neg e1];clear e1;by_cases e1:kd r.1=1
 .rw[if_pos e1]at h3;have e2:=of_decide_eq_true h3;exact⟨⟨0,e2,by decide,.inr (by rw[e1];decide),λq=>by exact UY e1 q⟩,λg q=>by rw[e2]at q;obtain rfl:=aj q;decide⟩
 rw[if_neg e1]at h3;clear e1;by_cases e1:kd r.1=2
 .rw[if_pos e1]at h3;have e2:=of_decide_eq_true h3;exact⟨⟨1,e2,by decide,.inr (by rw[e1];decide),λq=>rfl⟩,λg q=>by rw[e2]at q;obtain rfl:=aj q;decide⟩
 rw[if_neg e1]at h3;clear e1;by_cases e1:kd r.1=3
 .rw[if_pos e1]at h3;have e2:=of_decide_eq_true h3;exact⟨⟨0,e2,by decide,.inr (by rw[e1];decide),λq=>by exact UW e1 q⟩,λg q=>by rw[e2]at q;obtain rfl:=aj q;decide⟩
 rw[if_neg e1]at h3;clear e1;by_cases e1:kd r.1=7
 .rw[if_pos e1]at h3;obtain⟨g,e2,h3⟩:∃g,r.2=aa g/\decide (0<=g/\g<1000)=af:=by
   induction e2:r.2 with
   |none=>rw[e2]at h3;exact jE h3
   |some g=>rw[e2]at h3;exact⟨g,rfl,h3⟩
  exact⟨⟨g,e2,(of_decide_eq_true h3).1,.inl e1,λq=>by exact UU e1 q⟩,λg' q=>by rw[e2]at q;obtain rfl:=aj q;exact(of_decide_eq_true h3).2⟩
 .rw[if_neg e1]at h3;exact jE h3
def N4:Bool:=sP.all λl=>(match jS (l.map nk) []with
 |some (_,z)=>z.isEmpty
 |none=>ag)&&l.all λp=>QB (nk p)
theorem Ds:N4=af:=by decide +kernel
structure HB (lo hi:Nat)(hs:List Hn)(SS:List cW):Prop where
 le:lo<=hi
 len:hi<SS.length
 rg:∀h∈hs,(lo:Int)<=h.s/\h.s<h.e/\h.e<=hi/\h.e<=h.h/\h.h<=hi/\0<=h.d
 pr:hs.Pairwise mf
 th:∀(p:Nat) (s:cW) (h:Hn),SS[p]?=aa s->over hs p=aa h->h.d<=s.length/\SS[h.h.toNat]?=aa (H5 h s)
theorem uy {hs:List Hn}{h:Hn}(e:over hs p=aa h):h∈hs/\h.s<=p/\p<h.e :=
 ⟨lZ e,of_decide_eq_true (List.find?_some (p:=λh:Hn=>decide (h.s<=p/\p<h.e)) e)⟩
theorem zE (a b:List Hn)(p:Int):over (a++b) p=match over a p with
  |some h=>aa h
  |none=>over b p:=by
 unfold over;rw[List.find?_append];cases List.find? (λh:Hn=>decide (h.s<=p/\p<h.e)) a<;>rfl
section
variable {hs Qo:List Hn}{SS:List cW}
theorem HB.nil (h:lo<=hi)(h2:hi<SS.length):HB lo hi [] SS:=⟨h,h2,λU q=>absurd q ba,.nil,λU U U U q=>nomatch q⟩
theorem HB.app (h1:HB lo mid hs SS)(h2:HB mid hi Qo SS):HB lo hi (hs++Qo) SS:=by
 have:=h1.le;have:=h2.le;refine⟨by exact Cd (by assumption) this,h2.len,λh hm=>?_,kg.2 ⟨h1.pr,h2.pr,λa ha b hb=>?_⟩,λp s h e q=>?_⟩
 .refine b8 (bg.1 hm) (λhm=>?_) λhm=>?_
  .have:=h1.rg h hm;exact UQ (by assumption) this
  .have:=h2.rg h hm;exact UO (by assumption) this
 .have:=h1.rg a ha;have:=h2.rg b hb;intro _ z;exact UM (by assumption) this z
 .rw[zE]at q;induction e2:over hs p with
  |some h'=>rw[e2]at q;obtain rfl:=aj q;exact h1.th p s _ e e2
  |none=>rw[e2]at q;exact h2.th p s _ e q
theorem HB.wide {lo' hi':Nat}(h:HB lo hi hs SS)(h1:lo'<=lo)(h2:hi<=hi')(h3:hi'<SS.length):HB lo' hi' hs SS :=
 ⟨by have:=h.le;exact UL h1 h2 this,h3,λa ha=>by have:=h.rg a ha;exact UK h1 h2 this,h.pr,h.th⟩
theorem HB.ext {X:List cW}(h:HB lo hi hs SS):HB lo hi hs (SS++X):=by have:=h.len;refine⟨h.le,by rw[ao];exact UJ this,h.rg,h.pr,λp s a e q=>?_⟩;refine pS (uy q) λhm h1 h2=>?_;have:=h.rg a hm;rw[aZ (by exact UI (by assumption) h2 this)]at e;obtain⟨x,y⟩:=h.th p s a e q;refine⟨x,?_⟩;rw[aZ (by exact UH (by assumption) h2 this)];exact y
theorem HB.snoc {a:Hn}(h:HB lo hi hs SS)(h1:(lo:Int)<=a.s/\a.s<a.e/\a.e<=hi/\a.e<=a.h/\a.h<=hi/\0<=a.d)(h2:∀b∈hs,mf b a)(h3:∀(p:Nat) (s:cW),a.s<=p->p<a.e->SS[p]?=aa s->a.d<=s.length/\SS[a.h.toNat]?=aa (H5 a s)):HB lo hi (hs++[a]) SS:=by
 refine⟨h.le,h.len,λb hb=>(bg.1 hb).elim (h.rg b) λhb=>by rw[au.1 hb];exact h1,kg.2 ⟨h.pr,Av _ _,λb hb x hx=>by rw[au.1 hx];exact h2 b hb⟩,λp s b e q=>?_⟩;rw[zE]at q;induction e2:over hs p with
 |some h'=>rw[e2]at q;obtain rfl:=aj q;exact h.th p s _ e e2
 |none =>rw[e2]at q;refine pS (uy q) λhm q1 q2=>?_;rw[au.1 hm]at q1 q2 ⊢;exact h3 p s q1 q2 e
end
structure Bk (b b':Bx)(S:List cW)(s:cW)(Sn:List cW)(Hs:List Hl):Prop where
 keep:∀i,i<b.L.length->b'.L[i]?=b.L[i]?
 ll:b.L.length<=b'.L.length
 new:∀i,b.L.length<=i->i<b'.L.length->∃q:Nat,b'.L[i]?=aa (q:Int)/\b.R.length<=q/\q<=b'.R.length
 rl:b'.R.length=b.R.length+Sn.length
 pre:∀t∈Sn,∃u,t=s++u
 hE:b'.H=b.H++Hs
 hI:∀h∈Hs,(b.L.length<=h.s/\h.s<b'.L.length)/\(b.L.length<=h.e/\h.e<b'.L.length)/\(b.L.length<=h.h/\h.h<b'.L.length)
 hb:HB b.R.length b'.R.length (Hs.map (k9 b'.L)) (S++Sn++[s])
 fst:(Sn++[s])[0]?=aa s
theorem IW {l:List (Str×Nat×Option Nat)}(hl:l∈sP):(∃w,jS (l.map nk) []=aa (w,[]))/\∀(m:Nat),∀r∈l.map nk,AR m r:=by
 have h:=bI.1 Ds l hl;rw[bz]at h;refine⟨?_,λm r hr=>?_⟩
 .induction e:jS (l.map nk) []with
  |none=>rw[e]at h;exact nomatch h.1
  |some wz =>obtain⟨w,z⟩:=wz;rw[e]at h;have:z=[]:=iM.1 h.1;exact⟨w,by rw[this]⟩
 ·(refine dC (bX.1 hr) λp hp z1=>?_;subst z1);exact vz (bI.1 h.2 p hp)
theorem uk:∀(l:List Row) (th:cW) (w:List cW) (z:cW),jS l th=aa (w,z)->w.length=l.length
 |[]=>λth w z e=>by cases e;rfl
 |r::l=>λth w z e=>by
  have e:(match fQ r th with|none=>ae|some th'=>match jS l th' with|none=>ae|some (w,z)=>aa (th::w,z))=aa (w,z):=e;induction e1:fQ r th with
  |none=>rw[e1]at e;exact nomatch e
  |some th' =>
   rw[e1]at e;dsimp only at e;induction e2:jS l th' with
   |none=>rw[e2]at e;exact nomatch e
   |some wz =>obtain⟨w',z'⟩:=wz;rw[e2]at e;cases e;rw[az,az,uk l th' w' _ e2]
structure Pg (b0 b:Bx)(S0:List cW)(s0:cW)(Sn:List cW)(cur:cW)(T0 T:List LT)(Hs:List Hl)(own:Nat->Prop):Prop where
 iv:Iv b (S0++Sn) cur T
 tt:∀(i:Nat) (t:LT),T0[i]?=aa t->T[i]?=aa t
 keep:∀i,i<b0.L.length->b.L[i]?=b0.L[i]?
 ll:b0.L.length<=b.L.length
 new:∀i,b0.L.length<=i->i<b.L.length->own i\/∃q:Nat,b.L[i]?=aa (q:Int)/\b0.R.length<=q/\q<=b.R.length
 ow:∀i,own i->b0.L.length<=i
 rl:b.R.length=b0.R.length+Sn.length
 Qa:S0.length=b0.R.length
 pre:∀t∈Sn,∃u,t=s0++u
 pc:∃u,cur=s0++u
 hE:b.H=b0.H++Hs
 hI:∀h∈Hs,(b0.L.length<=h.s/\h.s<b.L.length/\¬own h.s)/\(b0.L.length<=h.e/\h.e<b.L.length/\¬own h.e)/\(b0.L.length<=h.h/\h.h<b.L.length/\¬own h.h)
 hb:HB b0.R.length b.R.length (Hs.map (k9 b.L)) (S0++Sn++[cur])
 fst:(Sn++[cur])[0]?=aa s0
theorem rm {h:Hl}(h1:L'[h.s]?=L[h.s]?)(h2:L'[h.e]?=L[h.e]?)(h3:L'[h.h]?=L[h.h]?):k9 L' h=k9 L h:=by unfold k9;rw[bU,bU,bU,bU,bU,bU,h1,h2,h3]
theorem xW  (h:∀x∈Hs,L'[x.s]?=L[x.s]?/\L'[x.e]?=L[x.e]?/\L'[x.h]?=L[x.h]?):Hs.map (k9 L')=Hs.map (k9 L) :=
 El λx hx=>rm (h x hx).1 (h x hx).2.1 (h x hx).2.2
section
variable {b b2:Bx}{S0 Sn CP:List cW}{s0 cur:cW}{T0 T T2:List LT}
theorem Pg.start {s:cW}(h:Iv b S0 s T):Pg b b S0 s [] s T T [] (λU=>False) :=
 ⟨by rw[aP];exact h,λU U q=>q,λU U=>rfl,aO _,λi h1 h2=>absurd h1 (UG h1 h2),λU q=>q.elim,rfl,h.sl,λU q=>absurd q ba,⟨[],(aP _).symm⟩,(aP _).symm,λU q=>absurd q ba,
  HB.nil (aO _) (by rw[aP,ao,h.sl];exact iP _),rfl⟩
theorem Pg.put (h:Pg b0 b S0 s0 Sn cur T0 T Hs own){nx:cW}(hr:RT T (o,g) cur nx)(ha:AR b.L.length (o,g))(hn:∃u,nx=s0++u):Pg b0 (b.put o g) S0 s0 (Sn++[cur]) nx T0 T Hs own:=by have hl:(b.put o g).R.length=b.R.length+1:=ao;have iv:=h.iv.put hr ha;have rl:=h.rl;have sl:=iv.sl;rw[aV]at iv;refine⟨iv,h.tt,h.keep,h.ll,λi h1 h2=>(h.new i h1 h2).imp id λz_=>by obtain⟨q,a,c,e⟩:=z_;exact⟨q,a,c,by exact LO hl e⟩,h.ow,by rw[hl,ao,h.rl];rfl,h.Qa,λt ht=>(bg.1 ht).elim (h.pre t) λht=>by rw[au.1 ht];exact h.pc,hn,h.hE,h.hI,?_,gf h.fst⟩;have hb:=(h.hb.ext (X:=[nx])).wide (hi':=(b.put o g).R.length) (aO _) (FQ hl) (by rw[ao,sl];exact iP _);rw[<- aV S0];exact hb
theorem Pg.fD (h:Pg b0 b S0 s0 Sn cur T0 T Hs own)(τ:LT):Pg b0 b.fD S0 s0 Sn cur T0 (T++[τ]) Hs (λi=>own i\/i=b.L.length):=by
 have hl:=dB b;have at_:∀i,i<b.L.length->b.fD.L[i]?=b.L[i]?:=λi hi=>aZ hi;refine⟨h.iv.fD τ,λi t q=>gf (h.tt i t q),λi hi=>(at_ i (bK hi h.ll)).trans (h.keep i hi),by have:=h.ll;exact LO hl this,λi h1 h2=>?_,λi q=>q.elim (h.ow i) λq=>by have:=h.ll;exact UE q this,h.rl,h.Qa,h.pre,h.pc,h.hE,λx hx=>?_,?_,h.fst⟩
 .by_cases e:i<b.L.length
  .exact(h.new i h1 e).imp .inl λz_=>by obtain⟨q,a,c⟩:=z_;exact⟨q,(at_ i e).trans a,c⟩
  .exact .inl (.inr (UD hl h2 e))
 ·(refine pS (h.hI x hx) λz1 z2 z3=>?_;obtain⟨a1,a2,a3⟩:=z1;obtain⟨c1,c2,c3⟩:=z2;obtain⟨e1,e2,e3⟩:=z3);exact⟨⟨a1,by exact FG hl a2,λq=>q.elim a3 λq=>by lia⟩,⟨c1,by exact FG hl c2,λq=>q.elim c3 λq=>by lia⟩,⟨e1,by exact FG hl e2,λq=>q.elim e3 λq=>by lia⟩⟩
 .have e:Hs.map (k9 b.fD.L)=Hs.map (k9 b.L):=xW λx hx=>by(refine pS (h.hI x hx) λz1 z2 z3=>?_;obtain⟨a1,a2,a3⟩:=z1;obtain⟨c1,c2,c3⟩:=z2;obtain⟨e1,e2,e3⟩:=z3);exact⟨at_ _ a2,at_ _ c2,at_ _ e2⟩
  rw[e];exact h.hb
theorem eE (b:Bx)(h:i≠j):(b.here i).L[j]?=b.L[j]?:=dZ h
theorem qw (b:Bx)(h:i<b.L.length):(b.here i).L[i]?=aa (b.R.length:Int):=gy h
theorem Pg.here (h:Pg b0 b S0 s0 Sn cur T0 T Hs own)(i:Nat)(ho:own i)(τ:LT)(hi:T[i]?=aa τ)(hc:cur=ty (b.R.length:Int) τ):Pg b0 (b.here i) S0 s0 Sn cur T0 T Hs (λj=>own j/\j≠i):=by
 have hl:=gK b i;have hil:i<b.L.length:=by rw[<- h.iv.tl];exact(aC.1 hi).1
 have rl:=h.rl;refine⟨h.iv.here hi hc,h.tt,λj hj=>(eE b (by have:=h.ow i ho;exact UC hj this)).trans (h.keep j hj),by rw[hl];exact h.ll,λj h1 h2=>?_,λj q=>h.ow j q.1,h.rl,h.Qa,h.pre,h.pc,h.hE,λx hx=>?_,?_,h.fst⟩
 .by_cases e:i=j
  .subst e;exact .inr ⟨b.R.length,qw b hil,by exact LN rl,aO _⟩
  .exact(h.new j h1 (UB hl h2)).imp (λq=>⟨q,λz=>e z.symm⟩) λz_=>by obtain⟨q,a,c⟩:=z_;exact⟨q,(eE b e).trans a,c⟩
 ·(refine pS (h.hI x hx) λz1 z2 z3=>?_;obtain⟨a1,a2,a3⟩:=z1;obtain⟨c1,c2,c3⟩:=z2;obtain⟨e1,e2,e3⟩:=z3);exact⟨⟨a1,by exact zq hl a2,λq=>a3 q.1⟩,⟨c1,by exact zq hl c2,λq=>c3 q.1⟩,⟨e1,by exact zq hl e2,λq=>e3 q.1⟩⟩
 .have e:Hs.map (k9 (b.here i).L)=Hs.map (k9 b.L):=xW λx hx=>by(refine pS (h.hI x hx) λz1 z2 z3=>?_;obtain⟨a1,a2,a3⟩:=z1;obtain⟨c1,c2,c3⟩:=z2;obtain⟨e1,e2,e3⟩:=z3);exact⟨eE b λq=>a3 (q▸ho),eE b λq=>c3 (q▸ho),eE b λq=>e3 (q▸ho)⟩
  rw[e];exact h.hb
theorem Pg.M9 (h:Pg b0 b S0 s0 Sn cur T0 T Hs own)(iv:Iv b2 (S0++Sn++CP) cur T2)(tt:∀(i:Nat) (t:LT),T[i]?=aa t->T2[i]?=aa t)(k:Bk b b2 (S0++Sn) cur CP P2)(sT:∀i,own i->i<b.L.length):Pg b0 b2 S0 s0 (Sn++CP) cur T0 T2 (Hs++P2) own:=by
 obtain⟨u,hu⟩:=h.pc;have kl:=k.ll;have ll:=h.ll;have rl:=h.rl;have krl:=k.rl;rw[aV]at iv;refine⟨iv,λi t q=>tt i t (h.tt i t q),λi hi=>(k.keep i (Cc ll hi)).trans (h.keep i hi),by exact UA kl ll,λi h1 h2=>?_,h.ow,by rw[ao];exact Uz rl krl,h.Qa,λt ht=>?_,h.pc,by rw[k.hE,h.hE,aV],λx hx=>?_,?_,?_⟩
 .by_cases e:i<b.L.length
  .exact(h.new i h1 e).imp id λz_=>by obtain⟨q,a,c,d⟩:=z_;exact⟨q,(k.keep i e).trans a,c,by exact Ux rl krl d⟩
  .refine tv (k.new i (Ml e) h2) λq a c d=>?_;exact .inr ⟨q,a,by exact Uw rl c,d⟩
 .rcases bg.1 ht with ht|ht
  .exact h.pre t ht
  .obtain⟨v,hv⟩:=k.pre t ht;exact⟨u++v,by rw[hv,hu,aV]⟩
 .rcases bg.1 hx with hx|hx
  ·(refine pS (h.hI x hx) λz1 z2 z3=>?_;obtain⟨a1,a2,a3⟩:=z1;obtain⟨c1,c2,c3⟩:=z2;obtain⟨e1,e2,e3⟩:=z3);exact⟨⟨a1,by exact Cc kl a2,a3⟩,⟨c1,by exact Cc kl c2,c3⟩,⟨e1,by exact Cc kl e2,e3⟩⟩
  ·(refine pS (k.hI x hx) λz1 z2 z3=>?_;obtain⟨a1,a2⟩:=z1;obtain⟨c1,c2⟩:=z2;obtain⟨e1,e2⟩:=z3);exact⟨⟨by exact Cd ll a1,a2,λq=>by have:=sT _ q;exact FF a1 this⟩,⟨by exact Cd ll c1,c2,λq=>by have:=sT _ q;exact FF c1 this⟩,⟨by exact Cd ll e1,e2,λq=>by have:=sT _ q;exact FF e1 this⟩⟩
 .have e:Hs.map (k9 b2.L)=Hs.map (k9 b.L):=xW λx hx=>by(refine pS (h.hI x hx) λz1 z2 z3=>?_;obtain⟨a1,a2,a3⟩:=z1;obtain⟨c1,c2,c3⟩:=z2;obtain⟨e1,e2,e3⟩:=z3);exact⟨k.keep _ a2,k.keep _ c2,k.keep _ e2⟩
  rw[bM,e];have khb:=k.hb;have eS:S0++Sn++CP++[cur]=S0++(Sn++CP)++[cur]:=by rw[aV S0]
  rw[eS]at khb;refine HB.app ?_ khb;induction CP with
  |nil=>rw[aP];exact h.hb
  |cons t CP =>
   have ht:t=cur:=aj k.fst;have e2:S0++(Sn++t::CP)++[cur]=S0++Sn++[cur]++(CP++[cur]):=by rw[ht];simp only[aV,eJ,dU]
   simp only[e2];exact h.hb.ext
 .have f1:=h.fst;have f2:=k.fst;induction Sn with
  |nil =>have:cur=s0:=aj f1;subst this;exact f2
  |cons t Sn=>exact f1
theorem Pg.done (h:Pg b0 b S0 s0 Sn s0 T0 T Hs own)(hn:∀i,¬own i):Bk b0 b S0 s0 Sn Hs :=
 ⟨h.keep,h.ll,λi h1 h2=>(h.new i h1 h2).resolve_left (hn i),h.rl,h.pre,h.hE,λx hx=>let ⟨⟨a1,a2,_⟩,⟨c1,c2,_⟩,⟨e1,e2,_⟩⟩:=h.hI x hx;⟨⟨a1,a2⟩,⟨c1,c2⟩,⟨e1,e2⟩⟩,h.hb,h.fst⟩
end
theorem yq {l:Nat}(h:(decide (o<85)&&kd o==6)=af)(hl:l<m):AR m (o,aa (l:Int)):=by rw[bz]at h;exact⟨of_decide_eq_true h.1,λU=>⟨l,rfl,hl⟩,λq=>absurd (eq_of_beq h.2) q⟩
theorem RT.aa8 {T:List LT}{s th':cW}(h:fQ r []=aa th'):RT T r s (s++th'):=by have:=RT.rel (T:=T) (s:=s) h;rw[aP]at this;exact this
theorem RT.adx {T:List LT}{s th' nx:cW}(h:fQ r []=aa th')(hl:r.1∈vV):RT T r s nx:=by have:=RT.end_ (T:=T) (s:=s) (nx:=nx) h hl;rw[aP]at this;exact this
theorem lE {l:List α}{n:Nat}(a:α)(h:l.length=n):(l++[a])[n]?=aa a:=by rw[<- h];exact cP
theorem zy (s:cW):∃u,s=s++u:=⟨[],(aP s).symm⟩
section
variable {b:Bx}{S0 Sn:List cW}{s0 cur:cW}{T0 T:List LT}
theorem Pg.row (h:Pg b0 b S0 s0 Sn (s0++cur) T0 T Hs own)(o:Nat)(g:Option Int){z:cW}(e:fQ (o,g) cur=aa z)(ha:QB (o,g)=af):Pg b0 (b.put o g) S0 s0 (Sn++[s0++cur]) (s0++z) T0 T Hs own :=
 h.put (RT.rel e) (vz ha) ⟨z,rfl⟩
theorem Pg.AU (h:Pg b0 b S0 s0 Sn s0 T0 T Hs own)(o:Nat)(g:Option Int){z:cW}(e:fQ (o,g) []=aa z)(ha:QB (o,g)=af):Pg b0 (b.put o g) S0 s0 (Sn++[s0]) (s0++z) T0 T Hs own :=
 h.put (RT.aa8 e) (vz ha) ⟨z,rfl⟩
theorem Pg.Jf (h:Pg b0 b S0 s0 Sn (s0++cur) T0 T Hs own)(o:Nat)(g:Option Int)(e:fQ (o,g) cur=aa [])(ha:QB (o,g)=af):Pg b0 (b.put o g) S0 s0 (Sn++[s0++cur]) s0 T0 T Hs own:=by have:=h.row o g e ha;rw[aP]at this;exact this
end
def kO (b b':Bx)(dp:Nat):Prop:=∀(S:List cW) (T:List LT) (s:cW),Iv b S s T->s.length=dp->∃Sn T' Hs,Iv b' (S++Sn) s T'/\(∀(i:Nat) (t:LT),T[i]?=aa t->T'[i]?=aa t)/\Bk b b' S s Sn Hs
theorem Ks {b:Bx}{dp:Nat}{l:List (Str×Nat×Option Nat)}(hl:l∈sP):kO b (b.pb (l.map nk)) dp:=by
 intro S T s iv _;obtain⟨⟨w,hw⟩,ZP⟩:=IW hl;have iv0:Iv b S (s++[]) T:=by rw[aP];exact iv
 have r:=Iv.run _ b S [] w [] iv0 hw (ZP _);rw[aP]at r;have hlen:=uk _ _ _ _ hw;have rl:(b.pb (l.map nk)).R.length=b.R.length+(w.map (s++·)).length:=by refine(?_:(b.R++l.map nk).length=_);rw[ao,ak (f:=(s++·)),hlen]
 have sl:=iv.sl;refine⟨w.map (s++·),T,[],r,λU U q=>q,λU U=>rfl,aO _,λi h1 h2=>absurd (h2:i<b.L.length) (Uy h1),rl,λt ht=>?_,(aP _).symm,λU q=>absurd q ba,HB.nil (LN rl) ?_,?_⟩
 ·(refine dC (bX.1 ht) λu U z1=>?_;subst z1);exact⟨u,rfl⟩
 .rw[ao,ao,rl,sl];exact iP _
 .induction h:l.map nk using List.casesOn with
  |nil =>rw[h]at hw;cases hw;rfl
  |cons r0 l' =>
   rw[h]at hw;have e:(match fQ r0 []with|none=>ae|some th'=>match jS l' th' with|none=>ae|some (w,z)=>aa (([]:cW)::w,z))=aa (w,[]):=hw;induction e1:fQ r0 []with
   |none=>rw[e1]at e;exact nomatch e
   |some th' =>
    rw[e1]at e;dsimp only at e;induction e2:jS l' th' with
    |none=>rw[e2]at e;exact nomatch e
    |some wz =>obtain⟨w',z⟩:=wz;rw[e2]at e;cases e;refine(?_:aa (s++[])=aa s);rw[aP]
theorem Kt {b:Bx}{dp:Nat}(j:Nat)(hj:j=65\/j=66):kO b (otB j b) dp:=by
 intro S T s iv _;have p1:=(Pg.start iv).AU 4 (aa 0) (z:=[-1]) (by decide +kernel) (by decide +kernel);have p2:Pg b (otB j b) S s ([]++[s]++[s++[-1]]) s T T [] (λU=>False):=by
  rcases hj with rfl|rfl
  .exact p1.put (RT.end_ (th:=[-1]) (th':=[]) (by decide +kernel) (by decide)) (vz (by decide +kernel)) (zy s)
  .exact p1.put (RT.end_ (th:=[-1]) (th':=[]) (by decide +kernel) (by decide)) (vz (by decide +kernel)) (zy s)
 exact⟨_,_,_,p2.iv,p2.tt,p2.done λU q=>q⟩
theorem YZ (s:cW):s++made 59=s:=by rw[show made 59=[] by decide +kernel,aP]
theorem acr (s:cW):s++made 58=s:=by rw[show made 58=[] by decide +kernel,aP]
theorem acq (s:cW):s++made 61=s:=by rw[show made 61=[] by decide +kernel,aP]
theorem acp (s:cW):s++made 62=s:=by rw[show made 62=[] by decide +kernel,aP]
section
variable {T:List LT}{s nx:cW}
theorem RT.jmp (hi:T[i]?=aa (s,ag)):RT T (58,aa (i:Int)) s nx:=by have h:=RT.jp (T:=T) (s:=s) (nx:=nx) (i:=i) (o:=58) (th:=[]) (by decide +kernel) (by decide +kernel) rfl (.inl (by decide)) (by rw[if_neg (by decide),acr];exact hi);rw[aP]at h;exact h
theorem RT.jf (hi:T[i]?=aa (s,ag)):RT T (59,aa (i:Int)) (s++[-1]) s :=
 RT.jp (th:=[-1]) (by decide +kernel) (by decide +kernel) (by decide) (.inr (YZ s).symm) (by rw[if_neg (by decide),YZ];exact hi)
theorem RT.jk (hj:j=61\/j=62)(hi:T[i]?=aa (s++[-1],ag)):RT T (j,aa (i:Int)) (s++[-1]) s:=by
 rcases hj with rfl|rfl
 .exact RT.jp (th:=[-1]) (by decide +kernel) (by decide +kernel) (by decide) (.inr (acq s).symm) (by rw[if_pos (.inl rfl)];exact hi)
 .exact RT.jp (th:=[-1]) (by decide +kernel) (by decide +kernel) (by decide) (.inr (acp s).symm) (by rw[if_pos (.inr rfl)];exact hi)
end
theorem Pg.YL {b:Bx}{S0 Sn:List cW}{s0 cur:cW}{T0 T:List LT}{Om:Nat->Prop}(h:Pg b0 b S0 s0 Sn cur T0 T Hs own)(e:∀i,own i<->Om i):Pg b0 b S0 s0 Sn cur T0 T Hs Om:=by have:own=Om:=funext λi=>propext (e i);exact this▸h
section
variable {b b2 b3:Bx}{dp:Nat}
theorem La {S:List cW}{T:List LT}{s:cW}(iv:Iv b S s T):∃Sn T1,Pg b (tA b) S s Sn s T T1 [] (λi=>i=l1 b\/i=l2 b)/\T1[l0 b]?=aa (s,ag)/\T1[l1 b]?=aa (s,ag)/\T1[l2 b]?=aa (s,ag):=by
 have t0:(T++[(s,ag)])[l0 b]?=aa (s,ag):=lE _ iv.tl;have p1:=(Pg.start iv).fD (s,ag);have t1:(T++[(s,ag)]++[(s,ag)])[l1 b]?=aa (s,ag):=lE _ p1.iv.tl;have p2:=p1.fD (s,ag);have t2:(T++[(s,ag)]++[(s,ag)]++[(s,ag)])[l2 b]?=aa (s,ag):=lE _ p2.iv.tl;have p3:=p2.fD (s,ag);have p4:=p3.here (l0 b) (.inl (.inl (.inr rfl))) (s,ag) (gf (gf t0)) rfl;have p5:=p4.AU 11 (aa 0) (z:=[-1]) (by decide +kernel) (by decide +kernel);have e1:=Gx b;have e2:=H4 b;have hL:((b.fD.fD.fD.here (l0 b)).put 11 (aa 0)).L.length=b.L.length+3:=by refine(?_:(b.fD.fD.fD.here (l0 b)).L.length=_);rw[gK,dB,dB,dB]
 have p6:=p5.put (o:=59) (g:=aa (l1 b:Int)) (RT.jf (gf t1)) (yq (by decide +kernel) (Uv e1 hL)) (zy s);refine⟨_,_,p6.YL λi=>⟨?_,?_⟩,gf (gf t0),gf t1,t2⟩
 .rintro⟨((h|h)|h)|h,q⟩
  .exact h.elim
  .exact absurd h q
  .exact .inl h
  .exact .inr h
 .rintro(h|h)
  .exact⟨.inl (.inr h),λq=>by rw[h,e1]at q;have:b.L.length+1=b.L.length:=q;exact Uu this⟩
  .exact⟨.inr h,λq=>by rw[h,e2]at q;have:b.L.length+2=b.L.length:=q;exact Ut this⟩
theorem Ku (h:kO (tA b) b2 dp):kO b ((tB af b b2).here (l2 b)) dp:=by
 intro S T s iv hs;refine o23 (La iv) λSn T1 p6 t0 t1 t2=>?_;refine Eb (h _ _ _ p6.iv hs) λCP T2 P2 JP wo k2=>?_;have e1:=Gx b;have e2:=H4 b;have CC:=EP b;have Bm:=k2.ll;have p7:=p6.M9 JP wo k2 λi q=>by rcases q with q|q<;>lia
 have p8:=p7.put (o:=58) (g:=aa (l0 b:Int)) (nx:=s) (RT.jmp (wo _ _ t0)) (yq (by decide +kernel) (by show b.L.length<_;exact Ur CC Bm)) (zy s);have p9:=p8.here (l1 b) (.inl rfl) (s,ag) (wo _ _ t1) rfl;have Jo:=p9.here (l2 b) ⟨.inr rfl,by exact LM e1 e2⟩ (s,ag) (wo _ _ t2) rfl;exact⟨_,_,_,Jo.iv,Jo.tt,Jo.done λi q=>by refine b8 (q.1.1) (λz=>?_) λz=>?_;exact q.1.2 z;exact q.2 z⟩
theorem Kw (h:kO (tA b) b2 dp)(h2:kO (tB ag b b2) b3 dp):kO b (b3.here (l2 b)) dp:=by
 intro S T s iv hs;refine o23 (La iv) λSn T1 p6 t0 t1 t2=>?_;refine Eb (h _ _ _ p6.iv hs) λCP T2 P2 JP wo k2=>?_;have e1:=Gx b;have e2:=H4 b;have CC:=EP b;have Bm:=k2.ll;have p7:=p6.M9 JP wo k2 λi q=>by rcases q with q|q<;>lia
 have p8:=p7.put (o:=58) (g:=aa (l2 b:Int)) (nx:=s) (RT.jmp (wo _ _ t2)) (yq (by decide +kernel) (Uo e2 CC Bm)) (zy s);have p9:=p8.here (l1 b) (.inl rfl) (s,ag) (wo _ _ t1) rfl;refine Eb (h2 _ _ _ p9.iv hs) λSn3 T3 Hs3 Zi HZ k3=>?_;have hlB:=EO ag b b2;have OT:=k3.ll;have p9b:=p9.M9 Zi HZ k3 λi q=>by have:(tB ag b b2).L.length=b2.L.length:=hlB;refine(?_:i<(tB ag b b2).L.length);rcases q.1 with z|z<;>lia
 have Jo:=p9b.here (l2 b) ⟨.inr rfl,by exact LM e1 e2⟩ (s,ag) (HZ _ _ (wo _ _ t2)) rfl;exact⟨_,_,_,Jo.iv,Jo.tt,Jo.done λi q=>by refine b8 (q.1.1) (λz=>?_) λz=>?_;exact q.1.2 z;exact q.2 z⟩
theorem Ky (j:Nat)(hj:j=61\/j=62):kO b (cnB j b) dp:=by intro S T s iv _;have t0:(T++[(s++[-1],ag)])[l0 b]?=aa (s++[-1],ag):=lE _ iv.tl;have p1:=(Pg.start iv).fD (s++[-1],ag);have p2:=p1.AU 11 (aa 0) (z:=[-1]) (by decide +kernel) (by decide +kernel);have hL:=dB b;have p3:=p2.put (o:=j) (g:=aa (l0 b:Int)) (RT.jk hj t0) (yq (by rcases hj with rfl|rfl<;>decide +kernel) (by show b.L.length<b.fD.L.length;exact Yd hL)) (zy s);have p4:=p3.AU 4 (aa 0) (z:=[-1]) (by decide +kernel) (by decide +kernel);have p5:=p4.here (l0 b) (.inr rfl) (s++[-1],ag) t0 rfl;have p6:=p5.Jf 6 ae (by decide +kernel) (by decide +kernel);exact⟨_,_,_,p6.iv,p6.tt,p6.done λi q=>q.1.elim id λz=>q.2 z⟩
end
section
variable {b b2 b7:Bx}{dp:Nat}
theorem Kv (h:kO (Qh b) b2 (dp+1)):kO b (kyB b b2) dp:=by
 intro S T s iv hs;have t0:(T++[(s++[-2],ag)])[l0 b]?=aa (s++[-2],ag):=lE _ iv.tl;have p1:=(Pg.start iv).fD (s++[-2],ag);have t1:(T++[(s++[-2],ag)]++[(s++[-2],ag)])[l1 b]?=aa (s++[-2],ag):=lE _ p1.iv.tl;have p2:=p1.fD (s++[-2],ag);have e1:=Gx b;have hL:b.fD.fD.L.length=b.L.length+2:=by rw[dB,dB]
 have p3:=p2.AU 11 (aa 0) (z:=[-1]) (by decide +kernel) (by decide +kernel);have p4:=p3.row 76 ae (z:=[-2]) (by decide +kernel) (by decide +kernel);have p5:=p4.here (l0 b) (.inl (.inr rfl)) (s++[-2],ag) (gf t0) rfl;have hL2:((((b.fD.fD.put 11 (aa 0)).put 76 ae).here (l0 b))).L.length=b.L.length+2:=by rw[gK];exact hL
 have a2:s++[-2]++[-1]=s++[-2,-1]:=by rw[aV];rfl
 have p6:=p5.put (o:=77) (g:=aa (l1 b:Int)) (nx:=s++[-2,-1]) (a2▸RT.nxi t1) (yq (by decide +kernel) (Us e1 hL2)) ⟨_,rfl⟩;have p7:=p6.row 12 (aa 0) (z:=[-2,-1]) (by decide +kernel) (by decide +kernel);have p8:=p7.row 6 ae (z:=[-2]) (by decide +kernel) (by decide +kernel);refine Eb (h _ _ _ p8.iv (by rw[ao,hs];rfl)) λCP T2 P2 JP wo k2=>?_;have CC:=Gz b;have Bm:=k2.ll;have p9:=p8.M9 JP wo k2 λi q=>by
  refine(?_:i<(Qh b).L.length);have:l1 b=b.fD.L.length:=rfl;rcases q.1 with(z|z)|z
  .exact z.elim
  .exact Uq CC z
  .exact Up e1 CC this z
 have Jo:=p9.put (o:=58) (g:=aa (l0 b:Int)) (nx:=s++[-2]) (RT.jmp (wo _ _ (gf t0))) (yq (by decide +kernel) (by show b.L.length<_;exact Un CC Bm)) ⟨_,rfl⟩;have p11:=Jo.here (l1 b) ⟨.inr rfl,λq=>by have:l0 b=b.L.length:=rfl;exact Um e1 q this⟩ (s++[-2],ag) (wo _ _ t1) rfl;have p12:=p11.Jf 6 ae (by decide +kernel) (by decide +kernel);refine⟨_,_,_,p12.iv,p12.tt,p12.done λi q=>?_⟩;rcases q.1.1 with(z|z)|z
 .exact z
 .exact q.1.2 z
 .exact q.2 z
end
theorem qx  {q:Int}(h:L[i]?=aa q):L.getD i 0=q:=by rw[bU,h];rfl
section
variable {b:Bx}{S0 Sn:List cW}{s cur:cW}{T0 T:List LT}
theorem Pg.x7 (h:Pg b0 b S0 s Sn s T0 T Hs own)(fin:Bool)(i j k:Nat){A E:Nat}(hA:b.L[i]?=aa (A:Int))(hE:b.L[j]?=aa (E:Int))(hH:b.L[k]?=aa (H:Int))
  (r1:b0.L.length<=i/\¬own i)(r2:b0.L.length<=j/\¬own j)(r3:b0.L.length<=k/\¬own k)(o1:b0.R.length=A)(o2:A<E)(o3:E<=H)(o4:H<=b.R.length)
  (hp:∀y∈Hs,mf (k9 b.L y) ⟨A,E,H,s.length,fin⟩)(hT:T[k]?=aa (if fin=af then(s,af)else(s++[-1],ag))) :
  Pg b0 (b.x7 ⟨i,j,k,s.length,fin⟩) S0 s Sn s T0 T (Hs++[⟨i,j,k,s.length,fin⟩]) own:=by
 have la:=λ{i:Nat} {q:Int} (e:b.L[i]?=aa q)=>(aC.1 e).1;have ex:k9 b.L ⟨i,j,k,s.length,fin⟩=⟨A,E,H,s.length,fin⟩:=by unfold k9;rw[qx hA,qx hE,qx hH]
 refine⟨h.iv.x7 _,h.tt,h.keep,h.ll,h.new,h.ow,h.rl,h.Qa,h.pre,h.pc,by show b.H++_=_;rw[h.hE,aV],λx hx=>?_,?_,h.fst⟩
 .rcases bg.1 hx with hx|hx
  .exact h.hI x hx
  .rw[au.1 hx];exact⟨⟨r1.1,la hA,r1.2⟩,⟨r2.1,la hE,r2.2⟩,⟨r3.1,la hH,r3.2⟩⟩
 .rw[bM];refine(?_:HB _ _ (Hs.map (k9 b.L)++[k9 b.L ⟨i,j,k,s.length,fin⟩]) _);rw[ex];have rl:=h.rl;have sl:=h.Qa;refine h.hb.snoc (by dsimp only;exact Ul o1 o2 o3 o4) (λy hy=>?_) λp t h1 h2 e=>?_
  ·(refine dC (bX.1 hy) λx hx z1=>?_;subst z1);exact hp x hx
  .have h1:(A:Int)<=p:=h1;have h2:(p:Int)<E:=h2;have e2:(S0++(Sn++[s]))[p]?=aa t:=by rw[<- aV];exact e
   rw[cB (by lia),aZ (by lia)]at e2;obtain⟨u,rfl⟩:=h.pre t (aJ e2);refine⟨by rw[ao];show((s.length:Nat):Int)<=_;exact Uk,?_⟩;rcases h.iv.lb k H _ hH hT with q|⟨_,q⟩
   .exact(LL q).elim
   .refine(?_:(S0++Sn++[s])[(H:Int).toNat]?=_);rw[q];unfold H5;refine(?_:aa (ty H _)=aa ((s++u).take ((s.length:Nat):Int).toNat++[-1]++if fin=af then[(H:Int)]else[]));rw[cg,List.take_left];induction fin with
    |true=>unfold ty;rw[if_pos rfl,if_pos rfl,if_pos rfl,aV];rfl
    |false=>unfold ty;rw[if_neg bq,if_neg bq,if_neg bq,aP]
end
section
variable {b b2 b7:Bx}{dp:Nat}
theorem O2 (h:kO (M5 b) b2 dp)(fin:Bool){S:List cW}{T:List LT}{s:cW}(iv:Iv b S s T)(hs:s.length=dp):∃Sn T1 Hs,Pg b (m5 b b2) S s Sn s T T1 Hs (λi=>i=l2 b\/i=l3 b)/\T1[l2 b]?=aa (if fin=af then(s,af)else(s++[-1],ag))/\T1[l3 b]?=aa (s,ag) /\
  (m5 b b2).L[l0 b]?=aa (b.R.length:Int)/\(∃E:Nat,(m5 b b2).L[l1 b]?=aa (E:Int)/\b.R.length<E/\E<=(m5 b b2).R.length/\∀y∈Hs,(k9 (m5 b b2).L y).e<=E)/\b.L.length+4<=(m5 b b2).L.length:=by
 let τ:LT:=if fin=af then(s,af)else(s++[-1],ag)
 have t0:(T++[(s,ag)])[l0 b]?=aa (s,ag):=lE _ iv.tl;have p1:=(Pg.start iv).fD (s,ag);have t1:(T++[(s,ag)]++[(s,ag)])[l1 b]?=aa (s,ag):=lE _ p1.iv.tl;have p2:=p1.fD (s,ag);have t2:(T++[(s,ag)]++[(s,ag)]++[τ])[l2 b]?=aa τ:=lE _ p2.iv.tl;have p3:=p2.fD τ;have t3:(T++[(s,ag)]++[(s,ag)]++[τ]++[(s,ag)])[l3 b]?=aa (s,ag):=lE _ p3.iv.tl;have p4:=p3.fD (s,ag);have e0:l0 b=b.L.length:=rfl;have e1:=Gx b;have e2:=H4 b;have e3:=l3e b;have p5:=p4.here (l0 b) (.inl (.inl (.inl (.inr rfl)))) (s,ag) (gf (gf (gf t0))) rfl;refine Eb (h _ _ _ p5.iv hs) λCP T2 P2 JP wo k2=>?_;have CC:=G9 b;have Bm:=k2.ll;have hrl:=k2.rl;have q1:b.fD.L.length=l1 b:=rfl;have q2:b.fD.fD.L.length=l2 b:=rfl;have q3:b.fD.fD.fD.L.length=l3 b:=rfl;have p6:=p5.M9 JP wo k2 λi q=>by
  refine(?_:i<(M5 b).L.length);rcases q.1 with(((z|z)|z)|z)|z
  .exact z.elim
  all_goals lia
 have p7:=p6.AU 18 (aa 1) (z:=[-1]) (by decide +kernel) (by decide +kernel);have p8:=p7.Jf 6 ae (by decide +kernel) (by decide +kernel);have p9:=p8.here (l1 b) ⟨.inl (.inl (.inr rfl)),by exact LK e0 e1⟩ (s,ag) (wo _ _ (gf (gf t1))) rfl;have hB:(m5 b b2).L.length=b2.L.length:=gK _ _;have hRB:(m5 b b2).R.length=b2.R.length+2:=by refine(?_:((b2.R++[_])++[_]).length=_);rw[ao,ao];rfl
 have hRA:(M5 b).R.length=b.R.length:=rfl;refine⟨_,_,_,p9.YL λi=>⟨?_,?_⟩,wo _ _ (gf t2),wo _ _ t3,?_,⟨b2.R.length+2,?_,by exact Uj hrl hRA,by exact Ui hrl hRB,λy hy=>?_⟩,by exact Uh CC Bm hB⟩
 .rintro⟨⟨(((z|z)|z)|z)|z,y0⟩,y1⟩
  .exact z.elim
  .exact absurd z y0
  .exact absurd z y1
  .exact .inl z
  .exact .inr z
 .rintro(z|z)
  .exact⟨⟨.inl (.inr z),by exact Ug e0 e2 z⟩,by exact Ue e1 e2 z⟩
  .exact⟨⟨.inr z,by exact Ud e0 e3 z⟩,by exact Uc e1 e3 z⟩
 .have x1:(m5 b b2).L[l0 b]?=b2.L[l0 b]?:=eE _ (LK e0 e1);rw[x1,k2.keep _ (Ub e0 CC)];exact qw _ (by rw[dB,q3];exact Ua e0 e3)
 .have:=qw ((b2.put 18 (aa 1)).put 6 ae) (i:=l1 b) (show l1 b<b2.L.length by exact T9 e1 CC Bm);rw[show(m5 b b2).L[l1 b]?=_ from this];rw[show((b2.put 18 (aa 1)).put 6 ae).R.length=b2.R.length+2 from hRB]
 .have hI:=k2.hI y hy;have e:k9 (m5 b b2).L y=k9 b2.L y:=rm (eE _ (T8 e1 CC hI)) (eE _ (T7 e1 CC hI)) (eE _ (T5 e1 CC hI));rw[e];have:=(k2.hb.rg _ (bX.2 ⟨y,hy,rfl⟩)).2.2.1;exact T4 hrl this
end
section
variable {b b2 b7:Bx}{dp:Nat}{S Sn:List cW}{s:cW}{T T6:List LT}
theorem zT (fin:Bool)(p:Pg b bE S s Sn s T T6 (Hs++Hs3) own)(sT:∀i,¬own i){A E:Nat}(hA:bE.L[l0 b]?=aa (A:Int))(hE:bE.L[l1 b]?=aa (E:Int))(hH:bE.L[l2 b]?=aa (H:Int))(o1:b.R.length=A)(o2:A<E)(o3:E<=H)(o4:H<=bE.R.length)
  (y1:∀y∈Hs,(k9 bE.L y).e<=E)(y2:∀y∈Hs3,(H:Int)<=(k9 bE.L y).s)(hT:T6[l2 b]?=aa (if fin=af then(s,af)else(s++[-1],ag))) :
  ∃Sn T' Hs,Iv (bE.x7 ⟨l0 b,l1 b,l2 b,s.length,fin⟩) (S++Sn) s T'/\(∀(i:Nat) (t:LT),T[i]?=aa t->T'[i]?=aa t)/\Bk b (bE.x7 ⟨l0 b,l1 b,l2 b,s.length,fin⟩) S s Sn Hs:=by
 have e0:l0 b=b.L.length:=rfl;have e1:=Gx b;have e2:=H4 b;have q:=p.x7 fin (l0 b) (l1 b) (l2 b) hA hE hH ⟨by exact TZ e0,sT _⟩ ⟨by exact FQ e1,sT _⟩ ⟨by exact Oh e2,sT _⟩ o1 o2 o3 o4 (λy hy=>?_) hT
 .exact⟨_,_,_,q.iv,q.tt,q.done sT⟩
 .have r:=p.hb.rg _ (bX.2 ⟨y,hy,rfl⟩);intro z1 z2;rcases bg.1 hy with hy|hy
  .have:=y1 y hy;exact⟨by show(A:Int)<=_;exact TY o1 r,this⟩
  .have:=y2 y hy;exfalso;have z1:(k9 bE.L y).s<(E:Int):=z1;lia
theorem Kx (fin:Bool)(h:kO (M5 b) b2 dp)(h2:kO (Ei fin b b2) b7 (dp+if fin then 2 else 0)):kO b (grE fin dp b b7) dp:=by
 intro S T s iv hs;(refine o35 (O2 h fin iv hs) λSn T1 Hs p Ny tl3 hA z1 hlen=>?_;obtain⟨E,hE,oE,oE2,hEy⟩:=z1);have e0:l0 b=b.L.length:=rfl;have e1:=Gx b;have e2:=H4 b;have e3:=l3e b;have hI:=p.hI;induction fin with
 |true =>
  rw[if_pos rfl]at Ny;have p1:=p.put (o:=78) (g:=aa (l2 b:Int)) (nx:=s) (RT.go Ny) (yq (by decide +kernel) (FE hlen e2)) (zy s);have p2:=p1.put (o:=58) (g:=aa (l3 b:Int)) (nx:=s++[-1,((((m5 b b2).put 78 (aa (l2 b:Int))).put 58 (aa (l3 b:Int))).R.length:Int)]) (RT.jmp tl3) (yq (by decide +kernel) (by show l3 b<(m5 b b2).L.length;exact LJ hlen e3)) ⟨_,rfl⟩;have p3:=p2.here (l2 b) (.inl rfl) (s,af) Ny rfl;refine Eb (h2 _ _ _ p3.iv (by rw[ao,hs];rfl)) λSn3 T3 Hs3 Zi HZ k3=>?_;have hD:(Ei af b b2).L.length=(m5 b b2).L.length:=gK _ _;have Qw:(Ei af b b2).R.length=(m5 b b2).R.length+2:=by refine(?_:(((m5 b b2).R++[_])++[_]).length=_);rw[ao,ao];rfl
  have OT:=k3.ll;have hr3:=k3.rl;have p4:=p3.M9 Zi HZ k3 λi q=>by refine(?_:i<(Ei af b b2).L.length);rcases q.1 with z|z<;>lia
  have p5:=p4.put (o:=79) (g:=ae) (nx:=s) (RT.re (eM _)) (vz (by decide +kernel)) (zy s);have p6:=p5.here (l3 b) ⟨.inr rfl,by exact Cb e2 e3⟩ (s,ag) (HZ _ _ tl3) rfl;have L1:∀i,i<(m5 b b2).L.length->i≠l2 b->i≠l3 b->((b7.put 79 ae).here (l3 b)).L[i]?=(m5 b b2).L[i]?:=λi h1 h2 h3=>by rw[eE _ (lF h3)];refine(?_:b7.L[i]?=_);rw[k3.keep i (zq hD h1)];exact eE _ (lF h2)
  subst hs;refine zT (bE:=(b7.put 79 ae).here (l3 b)) af p6 (λi q=>by rcases q.1.1 with z|z;exact q.1.2 z;exact q.2 z) (A:=b.R.length) (E:=E) (H:=(m5 b b2).R.length+2) ((L1 _ (LH hlen e0) (LF e0 e2) (LC e0 e3)).trans hA) ((L1 _ (LB hlen e1) (LA e1 e2) (Lz e1 e3)).trans hE) ?_ rfl oE (Tr oE2) ?_ (λy hy=>?_) (λy hy=>?_) (by rw[if_pos rfl];exact HZ _ _ Ny)
  .rw[eE _ (Cb e2 e3)];refine(?_:b7.L[l2 b]?=_);rw[k3.keep _ (Lx hlen e2 hD),<- Qw];exact qw _ (show l2 b<(m5 b b2).L.length by exact FE hlen e2)
  .refine(?_:_<=(b7.R++[_]).length);rw[ao];exact Tn Qw hr3
  ·(refine pS (hI y hy) λz1 z2 z3=>?_;obtain⟨a1,a2,a3⟩:=z1;obtain⟨c1,c2,c3⟩:=z2;obtain⟨d1,d2,d3⟩:=z3);rw[rm (L1 _ a2 (λz=>a3 (.inl z)) (λz=>a3 (.inr z))) (L1 _ c2 (λz=>c3 (.inl z)) (λz=>c3 (.inr z))) (L1 _ d2 (λz=>d3 (.inl z)) (λz=>d3 (.inr z)))];exact hEy y hy
  ·(refine pS (k3.hI y hy) λz1 z2 z3=>?_;obtain⟨a1,a2⟩:=z1;obtain⟨c1,c2⟩:=z2;obtain⟨d1,d2⟩:=z3);have z:k9 ((b7.put 79 ae).here (l3 b)).L y=k9 b7.L y:=rm (eE _ (wC hlen e3 hD a1)) (eE _ (wC hlen e3 hD c1)) (eE _ (wC hlen e3 hD d1));rw[z];have:=(k3.hb.rg _ (bX.2 ⟨y,hy,rfl⟩)).1;exact SY Qw this
 |false =>
  rw[if_neg bq]at Ny;have p1:=p.put (o:=58) (g:=aa (l3 b:Int)) (nx:=s++[-1]) (RT.jmp tl3) (yq (by decide +kernel) (LJ hlen e3)) ⟨_,rfl⟩;have p2:=p1.here (l2 b) (.inl rfl) (s++[-1],ag) Ny rfl;have p2b:=p2.row 12 (aa 0) (z:=[-1]) (by decide +kernel) (by decide +kernel);have p3:=p2b.Jf 6 ae (by decide +kernel) (by decide +kernel);refine Eb (h2 _ _ _ p3.iv hs) λSn3 T3 Hs3 Zi HZ k3=>?_;have hD:(Ei ag b b2).L.length=(m5 b b2).L.length:=gK _ _;have hRC:(((m5 b b2).put 58 (aa (l3 b:Int))).here (l2 b)).R.length=(m5 b b2).R.length+1:=ao;have Qw:(Ei ag b b2).R.length=(m5 b b2).R.length+3:=by refine(?_:((((m5 b b2).R++[_])++[_])++[_]).length=_);rw[ao,ao,ao];rfl
  have OT:=k3.ll;have hr3:=k3.rl;have p4:=p3.M9 Zi HZ k3 λi q=>by refine(?_:i<(Ei ag b b2).L.length);rcases q.1 with z|z<;>lia
  have p6:=p4.here (l3 b) ⟨.inr rfl,by exact Cb e2 e3⟩ (s,ag) (HZ _ _ tl3) rfl;have L1:∀i,i<(m5 b b2).L.length->i≠l2 b->i≠l3 b->(b7.here (l3 b)).L[i]?=(m5 b b2).L[i]?:=λi h1 h2 h3=>by rw[eE _ (lF h3),k3.keep i (zq hD h1)];exact eE _ (lF h2)
  subst hs;refine zT (bE:=b7.here (l3 b)) ag p6 (λi q=>by rcases q.1.1 with z|z;exact q.1.2 z;exact q.2 z) (A:=b.R.length) (E:=E) (H:=(m5 b b2).R.length+1) ((L1 _ (LH hlen e0) (LF e0 e2) (LC e0 e3)).trans hA) ((L1 _ (LB hlen e1) (LA e1 e2) (Lz e1 e3)).trans hE) ?_ rfl oE (Og oE2) ?_ (λy hy=>?_) (λy hy=>?_) (by rw[if_neg bq];exact HZ _ _ Ny)
  .rw[eE _ (Cb e2 e3),k3.keep _ (Lx hlen e2 hD),<- hRC];exact qw _ (show l2 b<(m5 b b2).L.length by exact FE hlen e2)
  .skip
   exact SM Qw hr3
  ·(refine pS (hI y hy) λz1 z2 z3=>?_;obtain⟨a1,a2,a3⟩:=z1;obtain⟨c1,c2,c3⟩:=z2;obtain⟨d1,d2,d3⟩:=z3);rw[rm (L1 _ a2 (λz=>a3 (.inl z)) (λz=>a3 (.inr z))) (L1 _ c2 (λz=>c3 (.inl z)) (λz=>c3 (.inr z))) (L1 _ d2 (λz=>d3 (.inl z)) (λz=>d3 (.inr z)))];exact hEy y hy
  ·(refine pS (k3.hI y hy) λz1 z2 z3=>?_;obtain⟨a1,a2⟩:=z1;obtain⟨c1,c2⟩:=z2;obtain⟨d1,d2⟩:=z3);have z:k9 (b7.here (l3 b)).L y=k9 b7.L y:=rm (eE _ (wC hlen e3 hD a1)) (eE _ (wC hlen e3 hD c1)) (eE _ (wC hlen e3 hD d1));rw[z];have:=(k3.hb.rg _ (bX.2 ⟨y,hy,rfl⟩)).1;exact So Qw this
end
theorem O4 {dp k:Nat}{b:Bx}(h:Gn dp k b b'):kO b b' dp:=by
 induction h with
 |sim h=>exact Ks h
 |lop h ih=>exact Ku ih
 |iff h h2 ih Bg=>exact Kw ih Bg
 |key h ih=>exact Kv ih
 |Z4 fin h h2 ih Bg=>exact Kx fin ih Bg
 |cnd j h=>exact Ky j h
 |out j h=>exact Kt j h
noncomputable def bx0:Bx:=⟨[],[],[]⟩
theorem iv0:Iv bx0 [] [] []:=⟨rfl,rfl,λp r s h=>(nomatch h),λi q τ h=>(nomatch h),λr h=>absurd h ba⟩
theorem Ft (p:Int):dS (65,ae) p [-1]=aa []:=by kernel_rfl
theorem KO {n:Nat}(h:kd r.1≠6)(q:dO 0 r):dO n r:=by
 unfold dO at q ⊢;by_cases e:kd r.1=0
 .rw[if_pos e]at q ⊢;exact q
 .rw[if_neg e]at q ⊢;(refine o13 q λg a c d f=>?_;try clear q);refine⟨g,a,c,d.imp id λz=>?_,f⟩;unfold Kr at z ⊢;rw[if_neg h]at z ⊢;exact z
section
variable {b:Bx}{Sn:List cW}{T:List LT}
noncomputable def qI (b:Bx):Bx:=(b.put 0 ae).put 65 ae
theorem Dy (p:Pg bx0 b [] [] Sn [] [] T Hs own)(no:∀i,¬own i)(hl:b.R.length<150)(hh:b.H.length<900) :
  Lets ((qI b).R.map (o9 (qI b).L)) ((qI b).H.map (k9 (qI b).L))/\s7 0 ((qI b).R.map (o9 (qI b).L)) ((qI b).H.map (k9 (qI b).L))/\HV (qI b):=by
 have p1:=p.AU 0 ae (z:=[-1]) (by decide +kernel) (by decide +kernel);have iv:=p1.iv;have hn:(qI b).R.length=b.R.length+2:=by show((b.R++[_])++[_]).length=_;rw[ao,ao];rfl
 have hL:(qI b).L=b.L:=rfl;have hH:(qI b).H=Hs:=p.hE;have fD:∀i,i<b.L.length->∃q:Nat,b.L[i]?=aa (q:Int)/\q<=b.R.length:=λi hi=>by refine tv ((p.new i (bL _) hi).resolve_left (no i)) λq a U c=>?_;exact⟨q,a,c⟩
 have ar:∀r∈(qI b).R,AR b.L.length r:=λr hr=>by
  refine b8 (bg.1 hr) (λhr=>?_) λhr=>?_
  .exact iv.ar r hr
  .rw[au.1 hr];exact vz (by decide +kernel)
 have mem:∀r'∈(qI b).R.map (o9 b.L),∃r,AR b.L.length r/\r'=o9 b.L r:=λr' h=>by(refine dC (bX.1 h) λr hr z1=>?_;subst z1);exact⟨r,ar r hr,rfl⟩
 have j6:∀r,AR b.L.length r->kd r.1=6->∃q:Nat,o9 b.L r=(r.1,aa (q:Int))/\q<=b.R.length:=λr h e=>by refine dC (h.2.1 e) λl e1 e2=>?_;refine dC (fD l e2) λq a c=>?_;refine⟨q,?_,c⟩;unfold o9;rw[if_pos e,e1];refine(?_:(r.1,aa (b.L.getD l 0))=_);rw[qx a]
 have n6:∀r,kd r.1≠6->o9 b.L r=r:=λr h=>if_neg h;have hb:=p1.hb;have hb0:=p.hb;rw[hL,hH];have hLb:(b.put 0 ae).L=b.L:=rfl;rw[hLb]at hb;have MX:((qI b).R.map (o9 b.L)).length=b.R.length+2:=by rw[ak,hn]
 have valid:Valid ((qI b).R.map (o9 b.L)) (Hs.map (k9 b.L)):=by
  refine⟨λr' DI=>?_,λh hm=>?_,hb0.pr⟩
  ·(refine dC (mem r' DI) λr h z1=>?_;subst z1);rw[MX];by_cases e:kd r.1=6
   .refine dC (j6 r h e) λq e1 e2=>?_;rw[e1];unfold dO;rw[if_neg (by show¬kd r.1=0;exact Mi e)];refine⟨q,rfl,eM _,.inr ?_,λz=>absurd (z:kd r.1=2) (TX e z)⟩;rw[e];exact TU e2
   .rw[n6 r e];exact KO e (h.2.2 e).1
  .have:=hb0.rg h hm;rw[MX];unfold Eh;refine⟨⟨by exact TR this,by exact TQ this,by exact TP this⟩,⟨by exact LI this,by exact TO this⟩,by exact TN this,λz=>by exact TM this z⟩
 refine⟨⟨valid,?_⟩,?_,?_⟩
 .refine⟨λq=>if 0<=q/\q<b.R.length+2 then(([]++(Sn++[[]]))++[[]++[-1]]:List cW)[q.toNat]? else ae,?_,λq s hs=>?_⟩
  .rw[if_pos ⟨gD _,by exact TL⟩];exact p1.fst
  .by_cases hq:0<=q/\q<b.R.length+2
   .rw[if_pos hq]at hs;rw[MX];refine⟨by exact TK hq,?_⟩;have sl:=iv.sl;have Cz:(b.put 0 ae).R.length=b.R.length+1:=ao;obtain⟨p',rfl⟩:=e8 hq.1;rw[cg]at hs;have inS:∀(x:Int) (t:cW),0<=x->([]++(Sn++[[]])++[[]++[-1]]:List cW)[x.toNat]?=aa t->(if 0<=x/\x<b.R.length+2 then([]++(Sn++[[]])++[[]++[-1]]:List cW)[x.toNat]? else ae)=aa t:=λx t h0 h1=>by have:=(aC.1 h1).1;rw[ao,sl,Cz]at this;have h2:x.toNat<b.R.length+2:=this;rw[if_pos ⟨h0,by exact TJ h0 h2⟩];exact h1
    have thr:∀o,∃t,thrown (Hs.map (k9 b.L)) o p' s=aa t/\∀e∈t,(if 0<=e.1/\e.1<b.R.length+2 then([]++(Sn++[[]])++[[]++[-1]]:List cW)[e.1.toNat]? else ae)=aa e.2:=λo=>by
     unfold thrown;induction eo:over (Hs.map (k9 b.L)) p' with
     |none=>exact⟨[],rfl,λU h=>absurd h ba⟩
     |some a =>
      by_cases hqu:o∈Ji
      .exact⟨[],if_pos hqu,λU h=>absurd h ba⟩
      .obtain⟨x,y⟩:=hb.th p' s a hs eo;have:=hb.rg a (uy eo).1;refine⟨_,(if_neg hqu).trans (if_neg (TH x)),λe he=>?_⟩;rw[au.1 he];exact inS a.h _ (LI this) y
    by_cases zR:p'<b.R.length+1
    .have hr1:(b.put 0 ae).R[p']?=aa ((b.put 0 ae).R[p']'(FD Cz hq zR)):=bA (FD Cz hq zR);generalize(b.put 0 ae).R[p']'(FD Cz hq zR)=r at hr1;have Qo:([]++(Sn++[[]]):List cW)[p']?=aa s:=by rw[aZ (by rw[sl,Cz];exact zR)]at hs;exact hs
     refine dC (iv.rt p' r s hr1 Qo) λnx n1 n2=>?_;refine dC (n2 p' b.L) λl w1 w2=>?_;refine dC (thr (o9 b.L r).1) λt t1 t2=>?_;have hc:((qI b).R.map (o9 b.L))[((p':Nat):Int).toNat]?=aa (o9 b.L r):=by rw[cg,cy];refine(?_:(((b.put 0 ae).R++[_])[p']?).map _=_);rw[gf hr1];rfl
     refine⟨l++t,by rw[step_at hc,w1];dsimp only;rw[t1],λe he=>?_⟩;refine b8 (bg.1 he) (λhe=>?_) λhe=>?_
     .rcases w2 e he with rfl|⟨i,τ,a,c,rfl⟩
      .exact inS _ _ (by show(0:Int)<=p'+1;exact Mm) (by rw[show((p':Nat)+1:Int).toNat=p'+1 by lia];exact n1)
      .have hi:i<b.L.length:=by rw[<- show T.length=b.L.length from iv.tl];exact(aC.1 c).1
       refine dC (fD i hi) λq a1 a2=>?_;rw[qx a1];rcases iv.lb i q τ a1 c with z|⟨z1,z2⟩
       .exact(LL z).elim
       .exact inS _ _ z1 z2
     .exact t2 e he
    .have ep:p'=b.R.length+1:=by exact Ti hq zR
     have es:s=[-1]:=by rw[ep,<- Cz,<- sl,cP]at hs;exact(aj hs).symm
     refine dC (thr 65) λt t1 t2=>?_;have hc:((qI b).R.map (o9 b.L))[((p':Nat):Int).toNat]?=aa (65,ae):=by rw[cg,cy,ep,<- Cz];show(((b.put 0 ae).R++[_])[_]?).map _=_;rw[cP];refine(?_:aa (o9 b.L (65,ae))=_);rw[n6 _ (by decide +kernel)]
     refine⟨[]++t,by rw[step_at hc,es,Ft];dsimp only;rw[<- es,t1],λe he=>t2 e he⟩
   .rw[if_neg hq]at hs;exact nomatch hs
 .have hHl:Hs.length<900:=by rw[<- show b.H=Hs from p.hE];exact hh
  refine⟨by exact Td MX,by exact Ta hl MX,by rw[ak];exact hHl,λr' DI=>?_,λr' DI g e=>?_,λh hm=>?_,λh hm=>?_⟩
  ·(refine dC (mem r' DI) λr h z1=>?_;subst z1);unfold o9
   split<;>exact h.1
  ·(refine dC (mem r' DI) λr h z1=>?_;subst z1);by_cases e6:kd r.1=6
   .refine dC (j6 r h e6) λq e1 e2=>?_;rw[e1]at e;have e:=aj e;have e:(q:Int)=g:=e;push_cast;lia
   .rw[n6 r e6]at e;have a1:=(h.2.2 e6).2 g e;have a2:=(h.2.2 e6).1.nn;rw[e]at a2;have a2:0<=g:=a2;push_cast;exact S5 a1 a2
  .have:=hb0.rg h hm;push_cast;exact S2 hl this
  .have:=hb0.rg h hm;push_cast;exact SW hl this
 .refine⟨λr hr=>(ar r hr).1,λr hr=>(ar r hr).2.1,λh hm=>?_⟩;rw[hH]at hm;(refine pS (p.hI h hm) λz1 z2 z3=>?_;obtain⟨_,a,_⟩:=z1;obtain⟨_,c,_⟩:=z2;obtain⟨_,e,_⟩:=z3);exact⟨a,c,e⟩
end
inductive JW (l q:List Int):Vs->bo->Prop
 |mk (s:Int) (a:Option V):0<=s->s<2147483647->JW l q [aa (.lst (l.map .int)),aa (.loc 0),aa (.int s),a] [.list (q.map .int)]
theorem Hz {l:List Int}(hl:l.length<=63)(h:∀x,x.Ok->Q (.loc 1) (eW x [])):Wp (cl (d+1) 22 [.lst (l.map .int)] []) Q E:=by
 refine call nQ 3 rfl rfl ?_;dsimp only[nQ,sv,cY,cq,dX,eI,dT,ez,fJ,fH,dG,dw,cZ,mS,i8,i7,Gs,xh,Ie,zQ,d5,d6,d4,gu,az,aD,ah,ai,aF,aG];refine k4 ?_;dsimp only[cY,cq,tU,Gs,Ie,acz,ah];refine shL (by decide) (by decide) (by rw[ak];exact B9 hl) ?_;rw[show(40:Int).toNat=40 from rfl,<- mB];have ht:(l.take 40).length<=63:=by rw[cv];exact Tx
 refine⟨by rw[ak,decide_eq_true (p:=(l.take 40).length<lim) (show _<100000 by exact B9 ht)];rfl,Gi (CK V.int (λi=>V.int (i.natAbs:Int)) λi U=>?_) ⟨show _<100000 by rw[ak];exact B9 ht,lm rfl,rfl,?_⟩⟩
 .exact rfl
 generalize l.take 40=p at ht;have em:p.map (λi=>V.int (i.natAbs:Int))=(p.map λi:Int=>(i.natAbs:Int)).map V.int:=by rw[tc];rfl
 rw[em];generalize hq:p.map (λi:Int=>(i.natAbs:Int))=q;have hq1:q.length<=63:=by rw[<- hq,ak];exact ht
 have hq2:∀i∈q,0<=i:=λi hi=>by rw[<- hq]at hi;(refine dC (bX.1 hi) λj U z1=>?_;subst z1);exact eM _
 dsimp only[aD,dU];refine Cs (l:=q.map .int) rfl ?_;refine ke (q.map .int) (λU=>JW l q) ?_ ?_ ?_ 1000 0 _ _ (bL _) (by rw[ak];exact Tu hq1) (.mk 7411 ae (by decide) (by decide))
 .intro i vs τ I;induction I with|mk=>rfl
 .intro i v vs τ hv I;induction I with|mk s a s0 s1=>?_
  (refine dC (nE hv) λz hz z1=>?_;subst z1);have z0:=hq2 z (aJ hz);refine Gi (a:=[aa (.lst (l.map .int)),aa (.loc 0),aa (.int s),aa (.int z)]) rfl (fF _ _ _ _ _ _ _ _ _ ?_);dsimp only[cY,cq,eR,ew,dw,cZ,Gs,Ig,cmi,cri,ah,ai,aF,aG];have m0:0<=z%1000003:=xn _ (by decide);refine⟨by rw[mx (Rf s0 s1)];rfl,by decide,by decide,JW.mk _ _ (xn _ (by decide)) (Int.emod_lt_of_pos _ (by decide))⟩
 .intro vs τ I;induction I with|mk s a s0 s1=>?_
  dsimp only[Gs,az,aD,ah,ai,dU,eJ];exact⟨lm rfl,h ⟨q,s⟩ ⟨hq2,s0,s1,show q.length<100000 by exact B9 hq1⟩⟩
theorem ED {G:List V}{Φ:Nat->List V->bo->R V}{ks:List Str}{l:List X}
  (h:xr G Φ vs E l cs (σ++[.dN []]) λxs cD=>cD[σ.length]?=aa (.dN [])/\(ks.length=xs.length/\xs.length<=15)/\Q (.loc σ.length) (cD.set σ.length (.dN ((ks.zip xs).foldl (λd kv=>lQ d kv.1 kv.2) [])))):we G Φ vs E (.sY ks l) cs σ Q:=by
 refine Wp.bind (Wp.imp (lx G Φ vs E l cs _ _ h) λxs cD h=>?_);(refine pS h λh0 h1 h2=>?_;try clear h);rw[if_pos h1,h0];exact h2
theorem Ph:O.dN (gz (λd kv=>lQ d kv.1 kv.2) [] ([st "rows",st "labels",st "handlers"].zip [V.loc 3,V.loc 4,V.loc 5]))=aan:=by kernel_rfl
noncomputable def lw9:List S:=[.expr (.call 35 [.v 1,.v 5,.v 2]),
  .ite (.cmp (.call 42 [.v 5]) [.ne] [.call 41 [.v 5,.v 2]]) [.ret (.k (.bool ag))] []]
theorem KC {k:Nat}{hs:List Hn}(hx:x.Ok)(u:hJ (eW x γ) (k+2) c hs)(ok:s7 t c hs)(ht:t<5)
  (h:∀x γ c hs,x.Ok->hJ (eW x γ) (k+2) c hs->s7 (t+1) c hs->A [v0,aa (.loc 1),aa fh,v3,v4,aa (.loc (k+2))] (eW x γ)) :
  iR G (cl (d+6)) 1000 E lw9 [v0,aa (.loc 1),aa fh,v3,v4,aa (.loc (k+2))] (eW x γ) A K:=by
 unfold lw9;dsimp only[cY,cq,cj,dz,dT,ez,eU,er,dW,dG,dw,cZ,Gs,Tb,ah,ai];refine Kz hx u ok ?_;intro x1 γ1 c1 Zs rA u1 F6;have hc:=F6.len;have hh:=F6.hl;have hb:∀r∈c1,∀g,r.2=aa g->g<1000000000:=λr hr g e=>by have:=F6.g r hr g e;push_cast at this;lia
 have GY:∀h∈Zs,HBd h:=λh hm=>⟨by have:=F6.s h hm;push_cast at this;lia,by have:=F6.e h hm;push_cast at this;lia⟩;refine Gp u1 (zr hc) F6.pos hh F6.op (λq τ=>?_) λq τ=>?_
 .refine um (u1.app τ) hc hh F6.op hb GY (λq2 Ag=>?_) λq2=>absurd q q2;exact h x1 (γ1++τ++Ag) c1 Zs rA ((u1.app τ).app Ag) F6
 .refine um (u1.app τ) hc hh F6.op hb GY (λq2=>absurd q2 q) λq2 Ag=>?_;exact h x1 (γ1++τ++Ag) c1 Zs rA ((u1.app τ).app Ag) F6
noncomputable def JE (f8:S):List S:=[.ite (.or [.cmp (.len (.v 2)) [.ne] [.g 2],.not (.call 42 [.v 5]),.not (.call 41 [.v 5,.v 2])]) [.ret (.k (.bool ag))] [],
 f8,.ret (.k (.bool af))]
def DC:S:=.jx (.n 4) (.nz [.bin .add ag (.k (.int 1)) (.call 23 [.v 1,.k (.int 3)])]) lw9
def Zf (f3:S)(tl:List S):List S:=[.fY [.n 1,.n 2] (.tup [.call 22 [.v 0],.call 24 []]),
 .asg 3 (.sY [(st "rows"),(st "labels"),(st "handlers")] [.lst af [],.lst af [],.lst af []]),f3,
 .expr (.call 26 [.v 3,.k (.str (st "UNDEF"))]),
 .expr (.call 26 [.v 3,.k (.str (st "RET"))]),
 .asg 5 (.call 34 [.v 3,.v 2])]++tl
noncomputable def Ze:S:=.jx (.n 4) (.nz [.bin .add ag (.k (.int 1)) (.call 23 [.v 1,.k (.int 2)])]) [.expr (.call 30 [.v 1,.v 3,.k (.int 0),.k (.int 2)])]
theorem PM:Na=Zf Ze (JE DC):=rfl
section
variable {k:Nat}{hs:List Hn}
inductive J8 (k:Nat)(v0 v3:Option V)(vl:List V):Vs->bo->Prop
 |mk (js:List Nat) (x:Dr) (γ:bo) (c:List Row) (hs:List Hn) (t:Nat) (v4:Option V):vl=js.map (λ(i:Nat)=>V.int (0+(i:Int)))->x.Ok->hJ (eW x γ) (k+2) c hs->s7 t c hs->t+js.length<=3->J8 k v0 v3 vl [v0,aa (.loc 1),aa fh,v3,v4,aa (.loc (k+2))] (eW x γ)
inductive J0 (l:List Int)(vl:List V):Vs->bo->Prop
 |mk (js:List Nat) (x:Dr) (b:Bx) (γ:bo) (Sn:List cW) (T:List LT) (Hs:List Hl) (n:Nat) (v4:Option V):vl=js.map (λ(i:Nat)=>V.int (0+(i:Int)))->x.Ok->Pg bx0 b [] [] Sn [] [] T Hs (λU=>False)->Bd b n->n+54*js.length<=108->J0 l vl [aa (.lst (l.map .int)),aa (.loc 1),aa fh,aa (.loc 2),v4,ae] (gN x b γ)
theorem JB (hx:x.Ok)(u:hJ (eW x γ) (k+2) c hs)(ok:s7 0 c hs)(h:∀σ,Q (.bool af) σ):iR G (cl (d+6)) 1000 E [DC,.ret (.k (.bool af))] [v0,aa (.loc 1),aa fh,v3,v4,aa (.loc (k+2))] (eW x γ) (λU σ=>Q .none σ) (λv U σ=>Q v σ):=by
 have ZN:=λ(x:Dr) (γ:bo) c hs t v4 hx u ok ht A h=>KC (d:=d) (k:=k) (t:=t) (x:=x) (γ:=γ) (c:=c) (hs:=hs) (E:=E) (v0:=v0) (v3:=v3) (v4:=v4) (A:=A) (K:=λv U σ=>Q v σ) hx u ok ht h;delta DC;generalize lw9=bd at *;dsimp only[cY,cq,eR,dz,xu,dT,ez,fH,dG,dw,cZ,Gs,JX,ah,ai];refine jZ hx (by decide) λj x1 j0 j1 rA=>?_;have u1:hJ (eW x1 γ) (k+2) c hs:=u.dr;obtain⟨j,rfl⟩:=e8 j0;dsimp only[Ig];rw[show(1:Int)+(j:Int)=((j+1:Nat):Int) by exact LD,AV (TG j1)];have hj:(fG (j+1)).length<=3:=by rw[mc];exact TC j1
 generalize fG (j+1)=js at hj;refine oo (J8 k v0 v3) ?_ ?_ _ _ _ (.mk js x1 γ c hs 0 v4 rfl rA u1 ok (by exact Tz hj))
 .intro v vl vs τ I;induction I with|mk js x γ c hs t v4 e hx u ok ht=>?_
  induction js using List.casesOn with
  |nil=>exact nomatch e
  |cons j js =>(obtain⟨rfl,rfl⟩:=eZ e);rw[az]at ht;refine Gi rfl (fF _ _ _ _ _ _ _ _ _ (ZN x γ c hs t _ hx u ok (Tv ht) _ λx' yE c' sS H6 u' ok'=>?_));exact J8.mk js x' yE c' sS (t+1) _ rfl H6 u' ok' (by exact Tt ht)
 .intro vs τ I;induction I with|mk=>exact h _
theorem JC (hx:x.Ok)(u:hJ (eW x γ) (k+2) c hs)(ok:s7 0 c hs)(hl:Lets c hs)(h:∀σ,Q (.bool af) σ):iR G (cl (d+6)) 1000 E (JE DC) [v0,aa (.loc 1),aa fh,v3,v4,aa (.loc (k+2))] (eW x γ) (λU σ=>Q .none σ) (λv U σ=>Q v σ):=by
 have h8:=λ(γ:bo) u=>JB (d:=d) (k:=k) (x:=x) (γ:=γ) (c:=c) (hs:=hs) (Q:=Q) (E:=E) (v0:=v0) (v3:=v3) (v4:=v4) hx u ok h;delta JE;generalize DC=l8 at *;have hc:=ok.len;have hh:=ok.hl;have hb:∀r∈c,∀g,r.2=aa g->g<1000000000:=λr hr g e=>by have:=ok.g r hr g e;push_cast at this;exact Ts this
 have GY:∀h∈hs,HBd h:=λh hm=>⟨by have:=ok.s h hm;push_cast at this;exact Ly this,by have:=ok.e h hm;push_cast at this;exact Ly this⟩;dsimp only[cY,cq,sL,cj,mC,ja,dz,eQ,dT,ez,eU,jH,jG,dW,dG,dw,cZ,Gs,Tb,oz,qU,ah,ai];refine Gi (rfl:items (eW x γ) fh=aa (tab.map xQ)) ⟨show(tab.map xQ).length<100000 by rw[ak,jD];exact Jk,Gi (rfl:G[2]?=aa (.int 85)) (Gi (a:=ag) (by rw[ak,jD];rfl) (Gp u (zr hc) ok.pos hh ok.op (λU τ=>?_) λq=>absurd hl q))⟩;refine um (u.app τ) hc hh ok.op hb GY (λU Ag=>?_) λq=>absurd hl q;exact h8 (γ++τ++Ag) ((u.app τ).app Ag)
end
theorem OC {l:List Int}(hl:l.length<=63)(h:∀σ,Q (.bool af) σ):Wp (cl (d+8) 43 [.lst (l.map .int)] []) Q E:=by
 refine call Hf 5 rfl rfl ?_;dsimp only[Hf];simp only[PM];have h7:=λ(x:Dr) (γ:bo) k c hs v0 v3 v4 hx u ok hl=>JC (d:=d+1) (k:=k) (x:=x) (γ:=γ) (c:=c) (hs:=hs) (Q:=Q) (E:=E) (v0:=v0) (v3:=v3) (v4:=v4) hx u ok hl h;generalize JE DC=l7 at *;delta Zf Ze;dsimp only[cY,cq,dX,eR,dz,xu,dT,ez,er,ew,fJ,fH,cZ,mS,i8,i7,Gs,xh,JX,d5,d6,d4,gu,az,aD,ah,ai,aF,aG,dU,eJ];refine Hz hl λx hx=>EM _ _ ⟨lm rfl,rfl,ED ?_⟩;dsimp only[eI,dT,ez,Ie,az,aD];refine⟨lm rfl,lm rfl,lm rfl,rfl,⟨rfl,by decide⟩,?_⟩;have eS:((eW x []++[O.dN []]++[O.list []]++[O.list []]++[O.list []]).set (eW x []).length (.dN (gz (λd kv=>lQ d kv.1 kv.2) [] ([st "rows",st "labels",st "handlers"].zip [V.loc (eW x []++[O.dN []]).length,V.loc (eW x []++[O.dN []]++[O.list []]).length,V.loc (eW x []++[O.dN []]++[O.list []]++[O.list []]).length]))))=gN x bx0 []:=by rw[show(gz (λd kv=>lQ d kv.1 kv.2) [] ([st "rows",st "labels",st "handlers"].zip [V.loc (eW x []++[O.dN []]).length,V.loc (eW x []++[O.dN []]++[O.list []]).length,V.loc (eW x []++[O.dN []]++[O.list []]++[O.list []]).length]))=gz (λd kv=>lQ d kv.1 kv.2) [] ([st "rows",st "labels",st "handlers"].zip [V.loc 3,V.loc 4,V.loc 5])from rfl,Ph];rfl
 simp only[eS];refine jZ hx (by decide) λj x1 j0 j1 rA=>?_;obtain⟨j,rfl⟩:=e8 j0;dsimp only[Ig];rw[show(1:Int)+(j:Int)=((j+1:Nat):Int) by exact LD,AV (Tq j1)];have hj:(fG (j+1)).length<=2:=by rw[mc];exact Tp j1
 generalize fG (j+1)=js at hj;refine oo (J0 l) ?_ ?_ _ _ _ (.mk js x1 bx0 [] [] [] [] 0 ae rfl rA (Pg.start iv0) ⟨aO _,aO _,aO _⟩ (by exact To hj))
 .intro v vl vs τ I;induction I with|mk js x b γ Sn T Hs n v4 e hx p hb hn=>?_
  induction js using List.casesOn with
  |nil=>exact nomatch e
  |cons j js =>(obtain⟨rfl,rfl⟩:=eZ e);rw[az]at hn;refine Gi rfl (fF _ _ _ _ _ _ _ _ _ ?_);dsimp only[cY,cq,dz,dT,ez,er,dw,cZ,Gs,ah,ai,aF,aG];refine QU 2 d x b γ 0 n 0 2 _ _ hx hb (by show n+54<4000;exact Te hn) rfl rfl λx' b' yE H6 g CE=>?_;refine Eb (O4 g _ _ _ p.iv rfl) λCP T2 P2 JP wo k2=>?_;exact J0.mk js x' b' yE _ _ _ (n+54) _ rfl H6 (p.M9 JP wo k2 λU q=>q.elim) CE (by exact S9 hn)
 .intro vs τ I;induction I with|mk js x b γ Sn T Hs n v4 e hx p hb hn=>?_
  have hr:=hb.r;have hh:=hb.h;refine pS (Dy p (λU q=>q) (S8 hn hr) (S7 hn hh)) λhL ok ro=>?_;dsimp only[Gs,ah,ai,aF,aG];refine put2 0 n0 hb (S4 hn) λhb1=>put2 65 n65 hb1 (S1 hn) λEg=>Jw (b:=qI b) Eg (SV hn) ro ?_;refine h7 x _ (γ.length+4) _ _ _ _ _ hx ?_ ok hL;have u:hJ (Dn (gN x (qI b) γ) JJ 1 (((qI b).R.map (o9 (qI b).L)).map cV) (((qI b).H.map (k9 (qI b).L)).map hV)) (gN x (qI b) γ).length ((qI b).R.map (o9 (qI b).L)) ((qI b).H.map (k9 (qI b).L)):=⟨Hb rfl,gU rfl,gU rfl⟩;exact u
theorem YK (l:List Int)(hl:l.length<=63):∃σ,kM G F 1000 25 43 [.lst (l.map .int)] []=.ok (.bool af) σ:=by
 have h:=OC (d:=17) (l:=l) (Q:=λv U=>v=.bool af) (E:=λU=>False) hl λU=>rfl;rw[M8]at h;induction e:kM G F 1000 25 43 [.lst (l.map .int)] []with
 |ok v σ =>have h2:Wp (kM G F 1000 25 43 [.lst (l.map .int)] []) (λv U=>v=.bool af) (λU=>False):=h;rw[e]at h2;exact⟨σ,by rw[show v=.bool af from h2]⟩
 |exc σ =>have h2:Wp (kM G F 1000 25 43 [.lst (l.map .int)] []) (λv U=>v=.bool af) (λU=>False):=h;rw[e]at h2;exact h2.elim
 |bad =>have h2:Wp (kM G F 1000 25 43 [.lst (l.map .int)] []) (λv U=>v=.bool af) (λU=>False):=h;rw[e]at h2;exact h2.elim
end Internal.Pu
end
noncomputable section
open PySem PySem.W PyProof.Rows
namespace Internal
variable {m:Str->Option ax}{K α β:Type}{W:(β->av->Prop)->(ax->av->Prop)->Prop}{n:Nat}{o:O}{σ:bo}{F' X':List aK}{ws:List ax}{ay s' s:av}{l:List V}{a x b:aK}{r:R α}{fk h₁ h' h:bV}
structure Pl where
 a:aK
 d:Option aK:=ae
noncomputable def Pl.lW (p:Pl):List aK:=p.a::p.d.toList
def Off (ρ:List Pl)(b:aK):Prop:=∀p∈ρ,b∉p.lW
def TupAt (h:bV)(a:aK)(vs:List ax):Prop:=∃n,h.get? a=aa {cls:=.type "tuple",data:=.seq vs.toArray n}
mutual
def bu (ρ:List Pl)(X:List aK)(h:bV):V->ax->Prop
 |.none,w=>w=.none
 |.bool b,w=>w=.bool b
 |.int i,w=>∃t,w=.int i t
 |.str s,w=>∃t,w=.str s t
 |.tup l,w=>∃a vs,w=.ref a/\Off ρ a/\a∉X/\TupAt h a vs/\bt ρ X h l vs
 |.lst l,w=>∃a vs,w=.ref a/\Off ρ a/\a∉X/\h.PlainList a vs.toArray/\bt ρ X h l vs
 |.loc n,w=>∃p,ρ[n]?=aa p/\w=.ref p.a
def bt (ρ:List Pl)(X:List aK)(h:bV):List V->List ax->Prop
 |[],ws=>ws=[]
 |v::l,ws=>∃w r,ws=w::r/\bu ρ X h v w/\bt ρ X h l r
end
structure dH (F:List aK)(ρ:List Pl)(h:bV)(bJ:List Pl)(h':bV):Prop where
 pre:∃δ,bJ=ρ++δ/\∀p∈δ,∀x∈p.lW,h.objs.size<=x
 size:h.objs.size<=h'.objs.size
 ev:∀b o,h.get? b=aa o->Off ρ b->b∉F->∃sl,h'.get? b=aa {o with slots:=sl}/\((∀es n,o.data≠.dict es n)->sl=o.slots)
theorem Off.append {ρ δ:List Pl}(h:Off ρ b)(k:∀p∈δ,b∉p.lW):Off (ρ++δ) b:=λp hp=>by
 rcases bg.mp hp with q|q
 .exact h p q
 .exact k p q
theorem Off.left {ρ δ:List Pl}(h:Off (ρ++δ) b):Off ρ b:=λp hp=>h p (bS _ hp)
theorem dH.off {F:List aK}{ρ bJ:List Pl}(g:dH F ρ h bJ h'){o:Obj}(e:h.get? b=aa o)(k:Off ρ b):Off bJ b:=by(refine dC g.pre λδ z1 GL=>?_;subst z1);refine k.append λp hp hb=>?_;exact absurd (bx e) (bO.mpr (GL p hp b hb))
theorem dH.refl {F:List aK}{ρ:List Pl}:dH F ρ h ρ h :=
 ⟨⟨[],by simp,λU hp=>nomatch hp⟩,aO _,λU o e U U=>⟨o.slots,e,λU=>rfl⟩⟩
theorem dH.trans {F:List aK}{ρ aH fU:List Pl}(x:dH F ρ h aH h₁)(y:dH F aH h₁ fU fk):dH F ρ h fU fk:=by
 refine⟨?_,aQ x.size y.size,λb o e k nF=>?_⟩
 ·(refine dC x.pre λδ z1 GL=>?_;subst z1);(refine dC y.pre λδ' z1 acB=>?_;subst z1);refine⟨δ++δ',by simp,λp hp z hz=>?_⟩;rcases bg.mp hp with q|q
  .exact GL p q z hz
  .exact aQ x.size (acB p q z hz)
 .refine dC (x.ev b o e k nF) λs1 e1 k1=>?_;refine dC (y.ev b _ e1 (x.off e k) nF) λs2 e2 k2=>?_;exact⟨s2,e2,λnd=>(k2 nd).trans (k1 nd)⟩
theorem dH.mono {F:List aK}{ρ bJ:List Pl}(x:dH F ρ h bJ h')(hF:∀b∈F,b∈F'):dH F' ρ h bJ h' :=
 ⟨x.pre,x.size,λb o e k n=>x.ev b o e k λq=>n (hF b q)⟩
theorem dH.any {F:List aK}{ρ bJ:List Pl}(x:dH [] ρ h bJ h'):dH F ρ h bJ h':=x.mono λU q=>nomatch q
theorem dH.drop {F:List aK}{ρ bJ:List Pl}(x:dH F ρ h bJ h')(hF:∀b∈F,h.objs.size<=b):dH [] ρ h bJ h' :=
 ⟨x.pre,x.size,λb o e k U=>x.ev b o e k λq=>absurd (bx e) (bO.mpr (hF b q))⟩
def Ext (h h':bV):Prop:=h.objs.size<=h'.objs.size/\∀b o,h.get? b=aa o->h'.get? b=aa o
theorem Ext.refl:Ext h h:=⟨aO _,λU U e=>e⟩
theorem Ext.push (o:Obj):Ext h (h.push o):=⟨by simp,λU U e=>br o e⟩
theorem Ext.trans (x:Ext h h₁)(y:Ext h₁ fk):Ext h fk:=⟨aQ x.1 y.1,λb o e=>y.2 b o (x.2 b o e)⟩
theorem Ext.grow {F:List aK}{ρ:List Pl}(x:Ext h h'):dH F ρ h ρ h' :=
 ⟨⟨[],by simp,λU hp=>nomatch hp⟩,x.1,λb o e U U=>⟨o.slots,x.2 b o e,λU=>rfl⟩⟩
theorem jd {F:List aK}{ρ:List Pl}(s:fv x h h')(m:x∈F):dH F ρ h ρ h' :=
 ⟨⟨[],by simp,λU hp=>nomatch hp⟩,fS s.1.symm,λb o e U n=>⟨o.slots,(s.2 b λq=>n (q▸m)).trans e,λU=>rfl⟩⟩
structure mQ (F:List aK)(ρ:List Pl)(h:bV)(bJ:List Pl)(h':bV):Prop where
 pre:∃δ,bJ=ρ++δ/\∀p∈δ,∀x∈p.lW,h.objs.size<=x
 size:h.objs.size<=h'.objs.size
 ev:∀b o,h.get? b=aa o->Off ρ b->b∉F->(∀vs,o.data≠.fields vs)->∃sl,h'.get? b=aa {o with slots:=sl}/\((∀es n,o.data≠.dict es n)->sl=o.slots)
theorem dH.g0 {F:List aK}{ρ bJ:List Pl}(g:dH F ρ h bJ h'):mQ F ρ h bJ h':=⟨g.pre,g.size,λb o e k n U=>g.ev b o e k n⟩
theorem mQ.off {F:List aK}{ρ bJ:List Pl}(g:mQ F ρ h bJ h'){o:Obj}(e:h.get? b=aa o)(k:Off ρ b):Off bJ b:=by(refine dC g.pre λδ z1 GL=>?_;subst z1);refine k.append λp hp hb=>?_;exact absurd (bx e) (bO.mpr (GL p hp b hb))
theorem TupAt.Z3 {F:List aK}{ρ bJ:List Pl}{vs:List ax}(t:TupAt h a vs)(g:mQ F ρ h bJ h')(k:Off ρ a)(n:a∉F):TupAt h' a vs:=by obtain⟨m,e⟩:=t;refine dC (g.ev a _ e k n (λU z=>by exact bk z)) λsl e' q=>?_;exact⟨m,by rw[e',q (λU U z=>by exact bk z)]⟩
theorem zA {F:List aK}{ρ bJ:List Pl}{vs:Array ax}(t:h.PlainList a vs)(g:mQ F ρ h bJ h')(k:Off ρ a)(n:a∉F):h'.PlainList a vs:=by obtain⟨m,e⟩:=t;refine dC (g.ev a _ e k n (λU z=>by exact bk z)) λsl e' q=>?_;exact⟨m,by rw[e',q (λU U z=>by exact bk z)]⟩
theorem TupAt.grow {F X:List aK}{ρ bJ:List Pl}{vs:List ax}(t:TupAt h a vs)(g:dH F ρ h bJ h')(k:Off ρ a)(n:a∉F):TupAt h' a vs:=by obtain⟨m,e⟩:=t;refine dC (g.ev a _ e k n) λsl e' q=>?_;exact⟨m,by rw[e',q (λU U z=>by exact bk z)]⟩
theorem uw {F:List aK}{ρ bJ:List Pl}{vs:Array ax}(t:h.PlainList a vs)(g:dH F ρ h bJ h')(k:Off ρ a)(n:a∉F):h'.PlainList a vs:=by obtain⟨m,e⟩:=t;refine dC (g.ev a _ e k n) λsl e' q=>?_;exact⟨m,by rw[e',q (λU U z=>by exact bk z)]⟩
mutual
theorem bu.ic {F X X':List aK}{ρ bJ:List Pl}{h h':bV}(g:mQ F ρ h bJ h')(hF:∀b∈F,b∈X)(hX:∀b∈X',b∈X\/h.objs.size<=b) :
  ∀(v:V) (w:ax),bu ρ X h v w->bu bJ X' h' v w
 |.none=>λU r=>r
 |.bool _=>λU r=>r
 |.int _=>λU r=>r
 |.str _=>λU r=>r
 |.tup l=>λw r=>by
  (refine wL r λa vs z1 k n t q=>?_;try clear r;subst z1);refine⟨a,vs,rfl,?_,?_,t.Z3 g k (λz=>n (hF a z)),bt.ic g hF hX l vs q⟩
  .obtain⟨m,e⟩:=t;exact g.off e k
  .obtain⟨m,e⟩:=t;exact λz=>(hX a z).elim n λy=>absurd (bx e) (bO.mpr y)
 |.lst l=>λw r=>by
  (refine wL r λa vs z1 k n t q=>?_;try clear r;subst z1);refine⟨a,vs,rfl,?_,?_,zA t g k (λz=>n (hF a z)),bt.ic g hF hX l vs q⟩
  .obtain⟨m,e⟩:=t;exact g.off e k
  .obtain⟨m,e⟩:=t;exact λz=>(hX a z).elim n λy=>absurd (bx e) (bO.mpr y)
 |.loc n=>λw r=>by(refine dC r λp e z1=>?_;try clear r;subst z1);(refine dC g.pre λδ z1 U=>?_;subst z1);refine⟨p,?_,rfl⟩;rw[aZ (aC.mp e).1];exact e
theorem bt.ic {F X X':List aK}{ρ bJ:List Pl}{h h':bV}(g:mQ F ρ h bJ h')(hF:∀b∈F,b∈X)(hX:∀b∈X',b∈X\/h.objs.size<=b) :
  ∀(l:List V) (ws:List ax),bt ρ X h l ws->bt bJ X' h' l ws
 |[]=>λU r=>r
 |v::l=>λws r=>by(refine mI r λw t z1 a b=>?_;try clear r;subst z1);exact bB w ⟨t,rfl,bu.ic g hF hX v w a,bt.ic g hF hX l t b⟩
end
theorem bu.mono {F X:List aK}{ρ bJ:List Pl}(g:dH F ρ h bJ h')(hF:∀b∈F,b∈X)(hX:∀b∈X',b∈X\/h.objs.size<=b)(v:V)(w:ax)(r:bu ρ X h v w):bu bJ X' h' v w:=bu.ic g.g0 hF hX v w r
theorem bt.mono {F X:List aK}{ρ bJ:List Pl}(g:dH F ρ h bJ h')(hF:∀b∈F,b∈X)(hX:∀b∈X',b∈X\/h.objs.size<=b)(l:List V)(ws:List ax)(r:bt ρ X h l ws):bt bJ X' h' l ws:=bt.ic g.g0 hF hX l ws r
theorem bu.less {X:List aK}{ρ:List Pl}{v:V}{w:ax}(r:bu ρ X h v w)(hX:∀b∈X',b∈X):bu ρ X' h v w :=
 bu.mono (F:=[]) dH.refl (λU q=>nomatch q) (λb q=>.inl (hX b q)) v w r
theorem bt.less {X:List aK}{ρ:List Pl}{v:List V}{w:List ax}(r:bt ρ X h v w)(hX:∀b∈X',b∈X):bt ρ X' h v w :=
 bt.mono (F:=[]) dH.refl (λU q=>nomatch q) (λb q=>.inl (hX b q)) v w r
theorem bt.length {ρ:List Pl}{X:List aK}{h:bV}:∀ {l:List V} {ws:List ax},bt ρ X h l ws->l.length=ws.length
 |[],_,r=>by subst r;rfl
 |v::l,_,r=>by(refine mI r λw t z1 U b=>?_;try clear r;subst z1);simp[b.length]
theorem bt.get {ρ:List Pl}{X:List aK}{h:bV}:∀ {l:List V} {ws:List ax} {i:Nat} {v:V},bt ρ X h l ws->l[i]?=aa v->∃w,ws[i]?=aa w/\bu ρ X h v w
 |[],_,_,_,r,e=>by simp at e
 |v::l,_,0,u,r,e=>by(refine mI r λw t z1 a b=>?_;try clear r;subst z1);simp only[ah,dY]at e ⊢;subst e;exact⟨w,rfl,a⟩
 |v::l,_,i+1,u,r,e=>by(refine mI r λw t z1 a b=>?_;try clear r;subst z1);simp only[ai]at e ⊢;exact b.get e
theorem bt.append {ρ:List Pl}{X:List aK}{h:bV}:∀ {l l':List V} {ws AB:List ax},bt ρ X h l ws->bt ρ X h l' AB->bt ρ X h (l++l') (ws++AB)
 |[],_,_,_,r,r'=>by subst r;exact r'
 |v::l,_,_,_,r,r'=>by(refine mI r λw t z1 a b=>?_;try clear r;subst z1);exact bB w ⟨_,rfl,a,b.append r'⟩
theorem bt.nil {ρ:List Pl}{X:List aK}:bt ρ X h [] []:=rfl
theorem bt.cons {ρ:List Pl}{X:List aK}{v:V}{w:ax}(a:bu ρ X h v w)(b:bt ρ X h l ws):bt ρ X h (v::l) (w::ws):=by exact bB w ⟨ws,rfl,a,b⟩
theorem bt.jt {ρ:List Pl}{X:List aK}{v:V}(r:bt ρ X h (v::l) ws):∃w t,ws=w::t/\bu ρ X h v w/\bt ρ X h l t:=by exact r
theorem bt.set {ρ:List Pl}{X:List aK}{h:bV}:∀ {l:List V} {ws:List ax} {i:Nat} {v:V} {w:ax},bt ρ X h l ws->bu ρ X h v w->bt ρ X h (l.set i v) (ws.set i w)
 |[],_,_,_,_,r,_=>by subst r;exact rfl
 |_::l,_,0,_,_,r,q=>by(refine mI r.jt λU t z1 a b=>?_;subst z1);exact .cons q b
 |_::l,_,i+1,_,_,r,q=>by(refine mI r.jt λU t z1 a b=>?_;subst z1);exact .cons a (b.set q)
theorem bt.eraseIdx {ρ:List Pl}{X:List aK}{h:bV}:∀ {l:List V} {ws:List ax} {i:Nat},bt ρ X h l ws->bt ρ X h (l.eraseIdx i) (ws.eraseIdx i)
 |[],_,_=>λr=>by subst r;exact rfl
 |_::l,_,0=>λr=>by(refine mI r.jt λU t z1 a b=>?_;subst z1);exact b
 |_::l,_,i+1=>λr=>by(refine mI r.jt λU t z1 a b=>?_;subst z1);exact .cons a b.eraseIdx
theorem bt.take {ρ:List Pl}{X:List aK}{h:bV}:∀ {l:List V} {ws:List ax} {i:Nat},bt ρ X h l ws->bt ρ X h (l.take i) (ws.take i)
 |[],_,_=>λr=>by subst r;rw[List.take_nil,List.take_nil];exact rfl
 |_::l,_,0=>λr=>by exact rfl
 |_::l,_,i+1=>λr=>by(refine mI r.jt λU t z1 a b=>?_;subst z1);exact .cons a b.take
theorem bt.drop {ρ:List Pl}{X:List aK}{h:bV}:∀ {l:List V} {ws:List ax} {i:Nat},bt ρ X h l ws->bt ρ X h (l.drop i) (ws.drop i)
 |[],_,_=>λr=>by subst r;rw[qX,qX];exact rfl
 |_::l,_,0=>λr=>r
 |_::l,_,i+1=>λr=>by(refine mI r.jt λU t z1 a b=>?_;subst z1);exact b.drop
theorem bt.rep {ρ:List Pl}{X:List aK}{h:bV}{l:List V}{ws:List ax}(r:bt ρ X h l ws):∀n:Nat,bt ρ X h (mV l n) ((bF n ws).flatten)
 |0=>.nil
 |n+1=>by rw[show mV l (n+1)=l++mV l n from rfl,qS,List.flatten_cons];exact r.append (r.rep n)
noncomputable def fields:List Str:=[cU "name",cU "params",cU "code",cU "consts",cU "units",cU "handlers",cU "lines",cU "local_count",cU "cell_count",
 cU "captures",cU "is_strict",cU "uses_arguments",cU "self_slot",cU "arguments_place",cU "param_places"]
structure ng where
 prog:BC
 w:c0
 base:bV
 K:qY
 C:aK
 CB:aK
 fa:List aK:=[]
def gY (ρ:List Pl)(X:List aK)(h:bV)(fs:List Str)(l:List V)(es:List fZ):Prop:=match l with
 |[]=>es=[]
 |v::l=>match fs with
  |[]=>False
  |f::fs=>∃hash t w r,es=⟨hash,.str f t,w⟩::r/\bu ρ X h v w/\gY ρ X h fs l r
termination_by structural l
section
variable (Z:ng)
def fu {K:Type}(ρ:List Pl)(X:List aK)(h:bV):List (K×V)->List (K×ax)->Prop
 |[],ws=>ws=[]
 |(k,v)::l,ws=>∃w r,ws=(k,w)::r/\bu ρ X h v w/\fu ρ X h l r
def s8 (ρ:List Pl)(X:List aK)(h:bV)(p:Pl):O->Prop
 |.list l=>p.d=ae/\∃vs,h.PlainList p.a vs.toArray/\bt ρ X h l vs
 |.cJ l=>p.d=ae/\∃lJ,h.DictOf (intKind Z.prog Z.w) p.a lJ/\fu ρ X h l lJ
 |.dN l=>p.d=ae/\∃lJ,h.DictOf (strKind Z.prog Z.w) p.a lJ/\fu ρ X h l lJ
 |.inst l=>∃dx es n,p.d=aa dx/\h.get? p.a=aa {cls:=.ref Z.C,dict:=aa dx,data:=.plain}/\h.get? dx=aa (dictOf es n)/\gY ρ X h fields l es
structure Rel (ρ:List Pl)(X:List aK)(σ:bo)(h:bV):Prop where
 keep:∀b o,Z.base.get? b=aa o->h.get? b=aa o
 bsize:Z.base.objs.size<=h.objs.size
 D6:∀x∈X,Z.base.objs.size<=x
 vJ:∀x∈X,x<h.objs.size
 len:ρ.length=σ.length
 ge:∀p∈ρ,∀x∈p.lW,Z.base.objs.size<=x/\x∉X
 sep:∀(i j:Nat) p q x,ρ[i]?=aa p->ρ[j]?=aa q->x∈p.lW->x∈q.lW->i=j
 self:∀p∈ρ,p.d≠aa p.a
 obj:∀(i:Nat) p o,ρ[i]?=aa p->σ[i]?=aa o->s8 Z ρ X h p o
end
theorem fu.ic {K:Type}{F X X':List aK}{ρ bJ:List Pl}{h h':bV}(g:mQ F ρ h bJ h')(hF:∀b∈F,b∈X)(hX:∀b∈X',b∈X\/h.objs.size<=b) :
  ∀(l:List (K×V)) (ws:List (K×ax)),fu ρ X h l ws->fu bJ X' h' l ws
 |[]=>λU r=>r
 |(k,v)::l=>λws r=>by(refine mI r λw t z1 a b=>?_;try clear r;subst z1);exact bB w ⟨t,rfl,bu.ic g hF hX v w a,fu.ic g hF hX l t b⟩
theorem fu.mono  {F X:List aK}{ρ bJ:List Pl}(g:dH F ρ h bJ h')(hF:∀b∈F,b∈X)(hX:∀b∈X',b∈X\/h.objs.size<=b)(l:List (K×V))(ws:List (K×ax))(r:fu ρ X h l ws):fu bJ X' h' l ws:=fu.ic g.g0 hF hX l ws r
theorem gY.ic {F X X':List aK}{ρ bJ:List Pl}{h h':bV}(g:mQ F ρ h bJ h')(hF:∀b∈F,b∈X)(hX:∀b∈X',b∈X\/h.objs.size<=b) :
  ∀(fs:List Str) (l:List V) (es:List fZ),gY ρ X h fs l es->gY bJ X' h' fs l es
 |_,[]=>λU r=>r
 |[],_::_=>λU r=>by exact r.elim
 |f::fs,v::l=>λes r=>by(refine MG r λhash t w q z1 a b=>?_;try clear r;subst z1);exact bB hash ⟨t,w,q,rfl,bu.ic g hF hX v w a,gY.ic g hF hX fs l q b⟩
theorem gY.mono {F X:List aK}{ρ bJ:List Pl}(g:dH F ρ h bJ h')(hF:∀b∈F,b∈X)(hX:∀b∈X',b∈X\/h.objs.size<=b)(fs:List Str)(l:List V)(es:List fZ)(r:gY ρ X h fs l es):gY bJ X' h' fs l es:=gY.ic g.g0 hF hX fs l es r
theorem w7 [DecidableEq K]{prog:BC}{w:c0}{knd:KeyKind prog w K}{lJ:List (K×ax)}(x:h.DictOf knd a lJ)(e:h'.get? a=h.get? a):h'.DictOf knd a lJ:=by(refine o31 x λo es ep ho r=>?_;try clear x);exact⟨o,es,ep,e.trans ho,r⟩
theorem acj   (x:h.Ns1 a m)(e:h'.get? a=h.get? a):h'.Ns1 a m:=by unfold Heap.Ns1 at x ⊢;rw[e];exact x
theorem plain_at  {vs:Array ax}(x:h.PlainList a vs)(e:h'.get? a=h.get? a):h'.PlainList a vs:=by unfold Heap.PlainList at x ⊢;rw[e];exact x
theorem s8.ic {Z:ng}{F X:List aK}{ρ bJ:List Pl}{p:Pl}(g:mQ F ρ h bJ h')(hF:∀b∈F,b∈X)(hX:∀b∈X',b∈X\/h.objs.size<=b)
  (e:∀x∈p.lW,h'.get? x=h.get? x)(r:s8 Z ρ X h p o):s8 Z bJ X' h' p o:=by
 induction o with
 |list l=>obtain⟨d,vs,a,b⟩:=r;exact⟨d,vs,plain_at a (e _ (.head _)),bt.ic g hF hX _ _ b⟩
 |cJ l=>obtain⟨d,vs,a,b⟩:=r;exact⟨d,vs,w7 a (e _ (.head _)),fu.ic g hF hX _ _ b⟩
 |dN l=>obtain⟨d,vs,a,b⟩:=r;exact⟨d,vs,w7 a (e _ (.head _)),fu.ic g hF hX _ _ b⟩
 |inst l=>obtain⟨dx,es,n,d,a,b,c⟩:=r;exact⟨dx,es,n,d,(e _ (.head _)).trans a,(e dx (by simp[Pl.lW,d])).trans b,gY.ic g hF hX _ _ _ c⟩
theorem s8.mono {Z:ng}{F X:List aK}{ρ bJ:List Pl}{p:Pl}(g:dH F ρ h bJ h')(hF:∀b∈F,b∈X)(hX:∀b∈X',b∈X\/h.objs.size<=b)
  (e:∀x∈p.lW,h'.get? x=h.get? x)(r:s8 Z ρ X h p o):s8 Z bJ X' h' p o:=s8.ic g.g0 hF hX e r
theorem Rel.Ld {Z:ng}{F X:List aK}{ρ:List Pl}(R:Rel Z ρ X σ h)(g:mQ F ρ h ρ h')(hF:∀b∈F,b∈X)(hX:∀b∈X',b∈X\/h.objs.size<=b)
  (e:∀p∈ρ,∀x∈p.lW,h'.get? x=h.get? x)(hb:∀b o,Z.base.get? b=aa o->h'.get? b=aa o)(hp:∀p∈ρ,∀x∈p.lW,x∉X')(hl:∀b∈X',b<h'.objs.size):Rel Z ρ X' σ h' where
 keep:=hb
 bsize:=aQ R.bsize g.size
 D6:=λx hx=>(hX x hx).elim (R.D6 x) λz=>aQ R.bsize z
 vJ:=hl
 len:=R.len
 ge:=λp CA x hx=>⟨(R.ge p CA x hx).1,hp p CA x hx⟩
 sep:=R.sep
 self:=R.self
 obj:=λi p o hi ho=>(R.obj i p o hi ho).ic g hF hX λx hx=>e p (aJ hi) x hx
theorem Rel.step {Z:ng}{F X:List aK}{ρ:List Pl}(R:Rel Z ρ X σ h)(g:dH F ρ h ρ h')(hF:∀b∈F,b∈X)(hX:∀b∈X',b∈X\/h.objs.size<=b)
  (e:∀p∈ρ,∀x∈p.lW,h'.get? x=h.get? x)(hb:∀b o,Z.base.get? b=aa o->h'.get? b=aa o)(hp:∀p∈ρ,∀x∈p.lW,x∉X')(hl:∀b∈X',b<h'.objs.size):Rel Z ρ X' σ h':=R.Ld g.g0 hF hX e hb hp hl
theorem Rel.there {Z:ng}{X:List aK}{ρ:List Pl}(R:Rel Z ρ X σ h){p:Pl}(hp:p∈ρ)(hx:x∈p.lW):∃o,h.get? x=aa o:=by
 obtain⟨i,hi,rfl⟩:=kh.mp hp;have e:ρ[i]?=aa ρ[i]:=bA hi;have hi':i<σ.length:=R.len▸hi;have ob:=R.obj i _ _ e (bA hi');induction ho:σ[i]with
 |list l =>rw[ho]at ob;obtain⟨d,vs,⟨n,a⟩,_⟩:=ob;simp only[Pl.lW,d,eF,au]at hx;subst hx;exact⟨_,a⟩
 |cJ l =>rw[ho]at ob;obtain⟨d,vs,⟨o,_,_,a,_⟩,_⟩:=ob;simp only[Pl.lW,d,eF,au]at hx;subst hx;exact⟨_,a⟩
 |dN l =>rw[ho]at ob;obtain⟨d,vs,⟨o,_,_,a,_⟩,_⟩:=ob;simp only[Pl.lW,d,eF,au]at hx;subst hx;exact⟨_,a⟩
 |inst l =>
  rw[ho]at ob;(refine MH ob λdx es n d a b U=>?_;try clear ob);simp only[Pl.lW,d,D0,aN,au]at hx;rcases hx with rfl|rfl|q
  .exact⟨_,a⟩
  .exact⟨_,b⟩
  .cases q
theorem Rel.lt {Z:ng}{X:List aK}{ρ:List Pl}(R:Rel Z ρ X σ h){p:Pl}(hp:p∈ρ)(hx:x∈p.lW):x<h.objs.size :=
 let ⟨_,e⟩:=R.there hp hx;bx e
theorem Rel.ext {Z:ng}{X:List aK}{ρ:List Pl}(R:Rel Z ρ X σ h)(x:Ext h h'):Rel Z ρ X σ h' :=
 R.step (F:=[]) x.grow (λU q=>nomatch q) (λU q=>.inl q) (λp hp y hy=>by obtain⟨o,e⟩:=R.there hp hy;rw[e];exact x.2 y o e) (λb o e=>x.2 b o (R.keep b o e)) (λp hp y hy=>(R.ge p hp y hy).2) λb hb=>bK (R.vJ b hb) x.1
theorem Rel.own {Z:ng}{X:List aK}{ρ:List Pl}(R:Rel Z ρ X σ h)(x:Ext h h')(hX:∀b∈X',b∈X\/h.objs.size<=b/\b<h'.objs.size):Rel Z ρ X' σ h' :=
 R.step (F:=[]) x.grow (λU q=>nomatch q) (λb q=>(hX b q).imp id (·.1)) (λp hp y hy=>by obtain⟨o,e⟩:=R.there hp hy;rw[e];exact x.2 y o e) (λb o e=>x.2 b o (R.keep b o e))
  (λp hp y hy q=>(hX y q).elim (R.ge p hp y hy).2 λz=>absurd (R.lt hp hy) (bO.mpr z.1)) λb q=>(hX b q).elim (λz=>bK (R.vJ b z) x.1) (·.2)
theorem Rel.less {Z:ng}{X:List aK}{ρ:List Pl}(R:Rel Z ρ X σ h)(hX:∀b∈X',b∈X):Rel Z ρ X' σ h:=R.own Ext.refl λb q=>.inl (hX b q)
theorem Rel.but {Z:ng}{X:List aK}{ρ:List Pl}(R:Rel Z ρ X σ h)(s:fv x h h')(m:x∈X):Rel Z ρ X σ h' :=
 R.step (F:=[x]) (jd s (.head _)) (λb q=>by cases q with|head=>exact m|tail _ q=>cases q) (λU q=>.inl q)
  (λp hp y hy=>s.2 y λq=>(R.ge p hp y hy).2 (q▸m)) (λb o e=>(s.2 b λq=>absurd (bx e) (bO.mpr (q▸R.D6 x m))).trans (R.keep b o e)) (λp hp y hy=>(R.ge p hp y hy).2) λb hb=>s.1▸R.vJ b hb
theorem Rel.set {Z:ng}{X:List aK}{ρ:List Pl}{p:Pl}(R:Rel Z ρ X σ h)(hn:ρ[n]?=aa p)(hx:x∈p.lW)(s:fv x h h')
  (ho:dH [] ρ h ρ h'->s8 Z ρ X h' p o):Rel Z ρ X (σ.set n o) h'/\dH [] ρ h ρ h':=by
 have hp:p∈ρ:=aJ hn;have g:dH [] ρ h ρ h':=⟨⟨[],by simp,λU q=>nomatch q⟩,fS s.1.symm,λb ob e k U=>⟨ob.slots,(s.2 b λq=>k p hp (q▸hx)).trans e,λU=>rfl⟩⟩;refine⟨⟨λb ob e=>(s.2 b λq=>absurd (bx e) (bO.mpr (q▸(R.ge p hp x hx).1))).trans (R.keep b ob e),aQ R.bsize g.size,R.D6,λb hb=>s.1▸R.vJ b hb,by simp[R.len],R.ge,R.sep,R.self,λi q oi hi yv=>?_⟩,g⟩;by_cases e:n=i
 .subst e;rw[hn]at hi;obtain rfl:=aj hi;rw[gy (by rw[<- R.len];exact(aC.mp hn).1)]at yv;obtain rfl:=aj yv;exact ho g
 .rw[dZ e]at yv;exact(R.obj i q oi hi yv).mono g (λU q=>nomatch q) (λU q=>.inl q) λy hy=>s.2 y λz=>e (R.sep n i p q x hn hi hx (z▸hy))
theorem Rel.new {Z:ng}{X:List aK}{ρ:List Pl}{p:Pl}(R:Rel Z ρ X σ h)(x:Ext h h')(hp:∀y∈p.lW,h.objs.size<=y)(hX:∀y∈p.lW,y∉X)(hs:p.d≠aa p.a)
  (ho:dH [] ρ h (ρ++[p]) h'->s8 Z (ρ++[p]) X h' p o):Rel Z (ρ++[p]) X (σ++[o]) h'/\dH [] ρ h (ρ++[p]) h':=by
 have g:dH [] ρ h (ρ++[p]) h':=⟨⟨[p],rfl,λq hq=>by rw[au.mp hq];exact hp⟩,x.1,λb ob e U U=>⟨ob.slots,x.2 b ob e,λU=>rfl⟩⟩;have at_:∀ {i:Nat} {q:Pl},(ρ++[p])[i]?=aa q->(ρ[i]?=aa q/\i<ρ.length)\/(i=ρ.length/\q=p):=λ{i q} e=>by
  rcases jF i ρ.length with l|l
  .rw[aZ l]at e;exact .inl ⟨e,l⟩
  .rw[cB l]at e;have:i-ρ.length=0:=by
    rcases Nat.eq_zero_or_pos (i-ρ.length)with z|z
    .exact z
    .rw[CT (by simp only[az,aD];exact qq9 z)]at e;exact fw e
   rw[this]at e;exact .inr ⟨by exact YI l this,(aj e).symm⟩
 refine⟨⟨λb ob e=>x.2 b ob (R.keep b ob e),aQ R.bsize x.1,R.D6,λb hb=>bK (R.vJ b hb) x.1,by simp[R.len],λq hq y hy=>?_,λi j q r y hi hj hy hz=>?_,λq hq=>?_,λi q oi hi yv=>?_⟩,g⟩
 .rcases bg.mp hq with m|m
  .exact R.ge q m y hy
  .rw[au.mp m]at hy;exact⟨aQ R.bsize (hp y hy),hX y hy⟩
 .rcases at_ hi with⟨a,_⟩|⟨rfl,rfl⟩<;>rcases at_ hj with⟨b,_⟩|⟨rfl,rfl⟩
  .exact R.sep i j q r y a b hy hz
  .exact absurd (R.lt (aJ a) hy) (bO.mpr (hp y hz))
  .exact absurd (R.lt (aJ b) hz) (bO.mpr (hp y hy))
  .rfl
 .rcases bg.mp hq with m|m
  .exact R.self q m
  .rw[au.mp m];exact hs
 .rcases at_ hi with⟨a,l⟩|⟨rfl,rfl⟩
  .rw[aZ (by rw[<- R.len];exact l)]at yv;exact(R.obj i q oi a yv).mono g (λU q=>nomatch q) (λU q=>.inl q) λy hy=>by obtain⟨ob,e⟩:=R.there (aJ a) hy;rw[e];exact x.2 y ob e
  .rw[R.len,cB (aO _)]at yv;simp only[oB,ah,dY]at yv;subst yv;exact ho g
theorem Rel.at {Z:ng}{X:List aK}{ρ:List Pl}(R:Rel Z ρ X σ h){p:Pl}(hn:ρ[n]?=aa p)(hs:σ[n]?=aa o):s8 Z ρ X h p o:=R.obj n p o hn hs
section
structure Go (F:List aK)(ρ:List Pl)(s:av)(bJ:List Pl)(s':av):Prop where
 grow:dH F ρ s.heap bJ s'.heap
 same:∃h t,s'={s with heap:=h,toks:=t}
theorem Go.refl {F:List aK}{ρ:List Pl}:Go F ρ s ρ s:=⟨.refl,s.heap,s.toks,rfl⟩
theorem Go.trans {F:List aK}{ρ aH fU:List Pl}{bH:av}(x:Go F ρ s aH ay)(y:Go F aH ay fU bH):Go F ρ s fU bH:=by refine⟨x.grow.trans y.grow,?_⟩;(refine H0 x.same λh t z1=>?_;subst z1);(refine H0 y.same λh' t' z1=>?_;subst z1);exact⟨h',t',rfl⟩
theorem Go.mono {F:List aK}{ρ bJ:List Pl}(x:Go F ρ s bJ s')(hF:∀b∈F,b∈F'):Go F' ρ s bJ s':=⟨x.grow.mono hF,x.same⟩
theorem Go.any {F:List aK}{ρ bJ:List Pl}(x:Go [] ρ s bJ s'):Go F ρ s bJ s':=⟨x.grow.any,x.same⟩
theorem Go.tok {F:List aK}{ρ:List Pl}{t:Nat}:Go F ρ s ρ {s with toks:=t}:=⟨.refl,s.heap,t,rfl⟩
theorem Go.ext {F:List aK}{ρ:List Pl}{t:Nat}(x:Ext s.heap h):Go F ρ s ρ {s with heap:=h,toks:=t}:=⟨x.grow,h,t,rfl⟩
def Aw (Z:ng)(h₀:bV)(e:aK)(h:bV):Prop :=
 h₀.objs.size<=e/\∃oe vs,h.get? e=aa oe/\oe.cls=.ref Z.CB/\oe.data=.fields vs /\
  (vs[1]?=aa .none\/∃T oT ts f,vs[1]?=aa (.ref T)/\h₀.objs.size<=T/\T≠e/\h.get? T=aa oT/\oT.data=.fields ts/\ts[3]?=aa f)
theorem Aw.mH {Z:ng}{h₀:bV}{e:aK}(x:Aw Z h₁ e h)(l:h₀.objs.size<=h₁.objs.size):Aw Z h₀ e h:=by obtain⟨a,oe,vs,b,c,d,k⟩:=x;refine⟨aQ l a,oe,vs,b,c,d,k.imp id ?_⟩;rintro⟨T,oT,ts,f,k1,k2,k3⟩;exact⟨T,oT,ts,f,k1,aQ l k2,k3⟩
section
variable (Z:ng)(F X:List aK)
def Run (ρ:List Pl)(s:av)(T:List Pl->bV->α->β->Prop)(r:R α)(W:(β->av->Prop)->(ax->av->Prop)->Prop):Prop :=
 match r with
 |.ok a cD=>∀Q E,(∀b bJ s',Go F ρ s bJ s'->Rel Z bJ X cD s'.heap->T bJ s'.heap a b->Q b s')->W Q E
 |.exc cD=>∀Q E,(∀e bJ s',Go F ρ s bJ s'->Rel Z bJ X cD s'.heap->Aw Z s.heap e s'.heap->E (.ref e) s')->W Q E
 |.bad=>True
end
variable {Z:ng}{F X:List aK}
theorem Run.imp {γ:Type}{ρ:List Pl}{T:List Pl->bV->α->β->Prop}{T':List Pl->bV->α->γ->Prop}{W':(γ->av->Prop)->(ax->av->Prop)->Prop}
  (h:Run Z F X ρ s T r W)(f:β->γ)(hT:∀ρ h a b,T ρ h a b->T' ρ h a (f b))(k:∀Q E,W (λb=>Q (f b)) E->W' Q E):Run Z F X ρ s T' r W':=by
 induction r with
 |ok a σ=>exact λQ E q=>k Q E (h _ E λb bJ s' g R t=>q _ bJ s' g R (hT _ _ _ _ t))
 |exc σ=>exact λQ E q=>k Q E (h _ E q)
 |bad=>trivial
theorem Run.w {ρ:List Pl}{T:List Pl->bV->α->β->Prop}{W':(β->av->Prop)->(ax->av->Prop)->Prop}
  (h:Run Z F X ρ s T r W)(k:∀Q E,W Q E->W' Q E):Run Z F X ρ s T r W':=h.imp id (λU U U U t=>t) k
theorem Run.seq {K0 KZ:Type}{ρ:List Pl}{T:List Pl->bV->α->β->Prop}{T':List Pl->bV->K0->KZ->Prop}{f:α->bo->R K0}
 {W2:β->av->(KZ->av->Prop)->(ax->av->Prop)->Prop}
  (h:Run Z F X ρ s T r W)(k:∀a cD b bJ s',Go F ρ s bJ s'->Rel Z bJ X cD s'.heap->T bJ s'.heap a b->Run Z F X bJ s' T' (f a cD) (W2 b s')) :
  Run Z F X ρ s T' (r.bind f) (λQ E=>W (λb s1=>W2 b s1 Q E) E):=by
 induction r with
 |bad=>trivial
 |exc σ=>exact λQ E q=>h _ E q
 |ok a σ =>
  refine(?_:Run Z F X ρ s T' (f a σ) _);have k:=λb bJ s' g R t=>k a σ b bJ s' g R t;induction hf:f a σ with
  |bad=>trivial
  |exc cD =>refine λQ E q=>h _ E λb bJ s' g R t=>?_;have:=k b bJ s' g R t;rw[hf]at this;exact this Q E λe kr lL g' R' y=>q e kr lL (g.trans g') R' (y.mH g.grow.size)
  |ok a' cD =>refine λQ E q=>h _ E λb bJ s' g R t=>?_;have:=k b bJ s' g R t;rw[hf]at this;exact this Q E λb' kr lL g' R' y=>q b' kr lL (g.trans g') R' y
theorem Run.later {ρ aH:List Pl}{T:List Pl->bV->α->β->Prop}
  (g:Go F ρ s aH ay)(h:Run Z F X aH ay T r W):Run Z F X ρ s T r W:=by
 induction r with
 |bad=>trivial
 |exc cD=>exact λQ E q=>h Q E λe kr lL g' R' y=>q e kr lL (g.trans g') R' (y.mH g.grow.size)
 |ok a' cD=>exact λQ E q=>h Q E λb' kr lL g' R' y=>q b' kr lL (g.trans g') R' y
theorem Run.any {ρ:List Pl}{T:List Pl->bV->α->β->Prop}
  (h:Run Z [] X ρ s T r W):Run Z F X ρ s T r W:=by
 induction r with
 |bad=>trivial
 |exc cD=>exact λQ E q=>h Q E λe kr lL g' R' y=>q e kr lL g'.any R' y
 |ok a' cD=>exact λQ E q=>h Q E λb' kr lL g' R' y=>q b' kr lL g'.any R' y
theorem Run.ok {ρ bJ:List Pl}{T:List Pl->bV->α->β->Prop}{a:α}{cD:bo}{b:β}
  (g:Go F ρ s bJ s')(R:Rel Z bJ X cD s'.heap)(t:T bJ s'.heap a b)(k:∀Q E,Q b s'->W Q E):Run Z F X ρ s T (.ok a cD) W:=λQ E q=>k Q E (q b bJ s' g R t)
theorem Run.tw {ρ:List Pl}{T:List Pl->bV->α->β->Prop}{a:α}{b:β}
  (R:Rel Z ρ X σ s.heap)(t:T ρ s.heap a b)(k:∀Q E,Q b s->W Q E):Run Z F X ρ s T (.ok a σ) W:=.ok .refl R t k
noncomputable abbrev TV (X:List aK)(ρ:List Pl)(h:bV)(v:V)(w:ax):Prop:=bu ρ X h v w
noncomputable abbrev TVs (X:List aK)(ρ:List Pl)(h:bV)(v:List V)(w:List ax):Prop:=bt ρ X h v w
theorem Go.v {ρ bJ:List Pl}{v:V}{w:ax}(g:Go [] ρ s bJ s')(r:bu ρ X s.heap v w):bu bJ X s'.heap v w :=
 bu.mono g.grow (λU q=>nomatch q) (λU q=>.inl q) v w r
theorem Go.vs {ρ bJ:List Pl}{v:List V}{w:List ax}(g:Go [] ρ s bJ s')(r:bt ρ X s.heap v w):bt bJ X s'.heap v w :=
 bt.mono g.grow (λU q=>nomatch q) (λU q=>.inl q) v w r
theorem bu.ext {ρ:List Pl}{v:V}{w:ax}(r:bu ρ X h v w)(x:Ext h h'):bu ρ X h' v w :=
 bu.mono (F:=[]) x.grow (λU q=>nomatch q) (λU q=>.inl q) v w r
theorem bt.ext {ρ:List Pl}{v:List V}{w:List ax}(r:bt ρ X h v w)(x:Ext h h'):bt ρ X h' v w :=
 bt.mono (F:=[]) x.grow (λU q=>nomatch q) (λU q=>.inl q) v w r
structure pK (Z:ng)(ρ:List Pl)(X:List aK)(h:bV)(env:Env)(vt:List Str)(vs:Vs)(ct:List Str)(cs:List V):Prop where
 kind:env.scope.kind=.function
 globals:env.globals=cF
 builtins:env.builtins=g9
 own:env.locals∈X
 ns:∃m,h.Ns env.locals m/\(∀(i:Nat) x v,vt[i]?=aa x->vs[i]?=aa (aa v)->x∉ct->env.kindOf x=aa .local->∃w,m x=aa w/\bu ρ X h v w) /\
  (∀(i:Nat) x v,ct[i]?=aa x->cs[i]?=aa v->env.kindOf x=aa .local->∃w,m x=aa w/\bu ρ X h v w)
 cell:∀(i:Nat) x v,vt[i]?=aa x->vs[i]?=aa (aa v)->env.kindOf x=aa .cell->∃c w,env.cells.lookup x=aa c/\h.IsCell c (aa w)/\bu ρ X h v w
 cells:∀x c,env.cells.lookup x=aa c->c∈X/\c≠env.locals/\∃w,h.IsCell c w
 has:∀x,env.kindOf x=aa .cell->∃c,env.cells.lookup x=aa c
 inj:∀x y c,env.cells.lookup x=aa c->env.cells.lookup y=aa c->x=y
end
end Internal
end
noncomputable section
open PySem PySem.W PyProof.Rows PySem.SeqAt
namespace Internal
variable {W:(ax->av->Prop)->(ax->av->Prop)->Prop}{name:Str}{sl:aK}{prog:BC}{K:Type}{ws vs:List ax}{u:Tok}{i:Int}{w:c0}{A:mR}{cD σ:bo}{j k n t:Nat}{Z:ng}{l:List V}{E Q:ax->av->Prop}{m r:Bool}{v y x:V}{b a:ax}{h:bV}{ρ:List Pl}{s:av}
noncomputable def toPy:Nat->V->PyData
 |0,_=>.none
 |_+1,.none=>.none
 |_+1,.bool b=>.bool b
 |_+1,.int i=>.int i
 |_+1,.str s=>.str s
 |n+1,.tup l=>.tuple (l.map (toPy n))
 |n+1,.lst l=>.list (l.map (toPy n))
 |_+1,.loc _=>.none
theorem qG {l:List PyData}(h:∀d∈l,d.canLay0=af):Ek l=af:=by
 induction l with
 |nil=>rfl
 |cons x r ih =>rw[Ek,h x (.head _),ih λd hd=>h d (.tail _ hd)];rfl
theorem gq:∀(n:Nat) (v:V),lI n v=af->(toPy n v).canLay0=af
 |0,_=>λh=>by exact jE h
 |n+1,.none=>λU=>rfl
 |n+1,.bool _=>λU=>rfl
 |n+1,.int _=>λU=>rfl
 |n+1,.str s=>λh=>h
 |n+1,.tup l=>λh=>by refine qG λd hd=>?_;(refine dC (bX.mp hd) λv hv z1=>?_;subst z1);exact gq n v (bI.mp h v hv)
 |n+1,.lst l=>λh=>by refine qG λd hd=>?_;(refine dC (bX.mp hd) λv hv z1=>?_;subst z1);exact gq n v (bI.mp h v hv)
 |n+1,.loc _=>λh=>by exact jE h
theorem sf {l:List PyData}(h:∀d∈l,d.depth<=n):m7 l<=n:=by
 induction l with
 |nil=>exact bL _
 |cons x r ih =>rw[m7];exact Nat.max_le.mpr ⟨h x (.head _),ih λd hd=>h d (.tail _ hd)⟩
theorem o6:∀(n:Nat) (v:V),(toPy n v).depth<=n
 |0,_=>aO _
 |n+1,.none=>bL _
 |n+1,.bool _=>bL _
 |n+1,.int _=>bL _
 |n+1,.str s=>bL _
 |n+1,.tup l=>by refine(?_:m7 (l.map (toPy n))+1<=n+1);refine gn (sf λd hd=>?_);(refine dC (bX.mp hd) λv hv z1=>?_;subst z1);exact o6 n v
 |n+1,.lst l=>by refine(?_:m7 (l.map (toPy n))+1<=n+1);refine gn (sf λd hd=>?_);(refine dC (bX.mp hd) λv hv z1=>?_;subst z1);exact o6 n v
 |n+1,.loc _=>bL _
theorem lg {ρ:List Pl}{X:List aK}{h:bV}{f:V->PyData}:∀ {l:List V} {ws:List ax},bt ρ X h l ws->(∀v∈l,∀w,bu ρ X h v w->∃as,Reads h w (f v) as)->∃as,ReadsAll h ws (l.map f) as
 |[],_,r,_=>by subst r;exact⟨[],.nil⟩
 |v::l,_,r,k=>by(refine mI r.jt λw t z1 a b=>?_;subst z1);obtain⟨as,ha⟩:=k v (.head _) w a;obtain⟨bs,hb⟩:=lg b λu hu=>k u (.tail _ hu);exact⟨as++bs,.cons ha hb⟩
theorem iG {ρ:List Pl}{X:List aK}{h:bV}:∀(n:Nat) (v:V) (w:ax),lI n v=af->bu ρ X h v w->∃as,Reads h w (toPy n v) as
 |0,_=>λU k U=>by exact jE k
 |n+1,.none=>λw U r=>by subst r;exact⟨[],.none⟩
 |n+1,.bool b=>λw U r=>by subst r;exact⟨[],.bool b⟩
 |n+1,.int i=>λw U r=>by obtain⟨t,rfl⟩:=r;exact⟨[],.int i t⟩
 |n+1,.str s=>λw U r=>by obtain⟨t,rfl⟩:=r;exact⟨[],.str s t⟩
 |n+1,.tup l=>λw k r=>by(refine wL r λa vs z1 U U z2 q=>?_;try clear r;subst z1;obtain⟨m,e⟩:=z2);obtain⟨as,ha⟩:=lg (f:=toPy n) q λv hv w r=>iG n v w (bI.mp k v hv) r;exact⟨as,.tuple e rfl rfl ha⟩
 |n+1,.lst l=>λw k r=>by(refine wL r λa vs z1 U U z2 q=>?_;try clear r;subst z1;obtain⟨m,e⟩:=z2);obtain⟨as,ha⟩:=lg (f:=toPy n) q λv hv w r=>iG n v w (bI.mp k v hv) r;exact⟨a::as,.list e rfl rfl ha⟩
 |n+1,.loc _=>λU k U=>by exact jE k
theorem w6 {f:V->V->Option Bool}{g:V->PyData}:∀ {a b:List V} {r:Bool},(∀x∈a,∀y∈b,∀r,f x y=aa r->DZ (g x) (g y)=r)->sN f a b=aa r->PyData.eqvAll (a.map g) (b.map g)=r
 |[],[],r,_,h=>by obtain rfl:=aj h;rfl
 |x::a,y::b,r,k,h=>by
  change (match f x y,sN f a b with|some x,aa y=>aa (x&&y)|_,_=>dv)=aa r at h;induction e1:f x y with
  |none=>rw[e1]at h;exact fw h
  |some p =>
   induction e2:sN f a b with
   |none=>rw[e1,e2]at h;exact fw h
   |some q =>rw[e1,e2]at h;obtain rfl:=aj h;refine(?_:(DZ (g x) (g y)&&PyData.eqvAll (a.map g) (b.map g))=_);rw[k x (.head _) y (.head _) p e1,w6 (λx hx y hy=>k x (.tail _ hx) y (.tail _ hy)) e2]
 |[],_::_,r,_,h=>by obtain rfl:=aj h;rfl
 |_::_,[],r,_,h=>by obtain rfl:=aj h;rfl
theorem yc (n:Nat):∀(x y:V) (r:Bool),yY n x y=aa r->DZ (toPy n x) (toPy n y)=r:=by
 induction n with
 |zero=>exact λU U U h=>fw h
 |succ n ih =>intro x y r;induction x using V.casesOn<;>induction y using V.casesOn<;>first|exact λh=>fw h|exact λh=>w6 (λx U y U r q=>ih x y r q) h|exact λh=>aj h
section
variable {X:List aK}
theorem ot (h:sX x y=aa r):lI 8 x=af/\lI 8 y=af/\yY 8 x y=aa r:=by
 unfold sX at h
 split at h
 .rename_i k;rw[bz]at k;exact⟨k.1,k.2,h⟩
 .exact fw h
theorem zk (hu:A.units+64<jM)(x y:V):A.units+min (toPy 8 x).depth (toPy 8 y).depth<jM:=by have:=o6 8 x;have:min (toPy 8 x).depth (toPy 8 y).depth<=(toPy 8 x).depth:=Nat.min_le_left _ _;exact acg hu (by assumption) this
theorem acY (h:sX x y=aa r)(ra:bu ρ X s.heap x a)(rb:bu ρ X s.heap y b)(hu:A.units+64<jM)(q:Q (.bool r) s):aE (aA prog w) A (eh .Eq a b) Q E s:=by refine pS (ot h) λk1 k2 k3=>?_;obtain⟨as,ha⟩:=iG 8 x a k1 ra;obtain⟨bs,hb⟩:=iG 8 y b k2 rb;refine compareEq_reads ha hb (gq 8 x k1) (gq 8 y k2) (zk hu x y) ?_;rw[yc 8 x y r k3];exact q
theorem acX (h:sX x y=aa r)(ra:bu ρ X s.heap x a)(rb:bu ρ X s.heap y b)(hu:A.units+64<jM)(q:Q (.bool (!r)) s):aE (aA prog w) A (eh .NotEq a b) Q E s:=by refine pS (ot h) λk1 k2 k3=>?_;obtain⟨as,ha⟩:=iG 8 x a k1 ra;obtain⟨bs,hb⟩:=iG 8 y b k2 rb;refine compareNe_reads ha hb (gq 8 x k1) (gq 8 y k2) (zk hu x y) ?_;rw[yc 8 x y r k3];exact q
theorem Kn (h:sX x y=aa r)(ra:bu ρ X s.heap x a)(rb:bu ρ X s.heap y b)(hu:A.units+64<jM):EqAt A s a b r:=by refine pS (ot h) λk1 k2 k3=>?_;obtain⟨as,ha⟩:=iG 8 x a k1 ra;obtain⟨bs,hb⟩:=iG 8 y b k2 rb;have:=eqAt_reads _ _ A s a b _ _ ha hb (gq 8 x k1) (gq 8 y k2) (zk hu x y);rw[yc 8 x y r k3]at this;exact this
end
theorem TupAt.Cv {a:aK}(t:TupAt h a vs):h.IsTuple a vs.toArray:=let ⟨n,e⟩:=t;⟨_,e,rfl,n,rfl⟩
theorem TupAt.isTup {a:aK}(t:TupAt h a vs):IsTup h a vs.toArray:=let ⟨n,e⟩:=t;⟨_,e,rfl,n,rfl⟩
noncomputable def Aj:Cm->CmpOp
 |.eq=>.Eq|.ne=>.NotEq|.lt=>.Lt|.le=>.LtE|.gt=>.Gt|.ge=>.GtE|.is=>.Is|.r8 _=>.IsNot|.ry=>.In|.H3=>.NotIn
theorem z8 {f g:ax->Bool}:∀ {t:List ax},(∀u∈t,f u=g u)->t.any f=t.any g
 |[]=>λU=>rfl
 |z::t=>λk=>by rw[eO,eO,k z (.head _),z8 λu hu=>k u (.tail _ hu)]
section
variable {X:List aK}
theorem rW (R:Rel Z ρ X σ s.heap){z:V}(h:oQ σ x=aa z)(k:lI 8 z=af)(ra:bu ρ X s.heap x a):∃as,Reads s.heap a (toPy 8 z) as:=by
 induction x using V.casesOn with
 |loc n =>
  obtain⟨l,hl,h⟩:∃l,σ[n]?=aa (.list l)/\aa (V.lst l)=aa z:=by
   change (match σ[n]? with|some (.list l)=>aa (V.lst l)|_=>ae)=aa z at h;induction hl:σ[n]? with
   |none=>rw[hl]at h;exact fw h
   |some o =>
    rw[hl]at h;induction o with
    |list l=>exact⟨l,rfl,h⟩
    |_=>exact fw h
  .obtain rfl:=aj h;(refine dC ra λp hp z1=>?_;try clear ra;subst z1);obtain⟨_,vs,⟨m,e⟩,q⟩:=R.obj n p _ hp hl;obtain⟨as,ha⟩:=lg (f:=toPy 7) q λv hv w r=>iG 7 v w (bI.mp k v hv) r;exact⟨_,.list e rfl rfl ha⟩
 |_=>obtain rfl:=aj h;exact iG 8 _ a k ra
theorem CL (R:Rel Z ρ X σ s.heap){u:V}(hx:oQ σ x=aa u)(hy:oQ σ y=aa v)(h:sX u v=aa r)(ra:bu ρ X s.heap x a)(rb:bu ρ X s.heap y b)(hu:A.units+64<jM) :
  (∀Q:ax->av->Prop,Q (.bool r) s->aE (aA Z.prog Z.w) A (eh .Eq a b) Q E s)/\(∀Q:ax->av->Prop,Q (.bool (!r)) s->aE (aA Z.prog Z.w) A (eh .NotEq a b) Q E s):=by
 refine pS (ot h) λk1 k2 k3=>?_;obtain⟨as,ha⟩:=rW R hx k1 ra;obtain⟨bs,hb⟩:=rW R hy k2 rb;refine⟨λQ q=>compareEq_reads ha hb (gq 8 u k1) (gq 8 v k2) (zk hu u v) ?_,λQ q=>compareNe_reads ha hb (gq 8 u k1) (gq 8 v k2) (zk hu u v) ?_⟩;all_goals (rw[yc 8 u v r k3];exact q)
open Classical in
theorem Co (ra:bu ρ X s.heap x a)(hu:A.units+64<jM):∀ {l:List V} {ws:List ax} {r:Bool},qm x l=aa r->bt ρ X s.heap l ws ->
  ∃e:ax->Bool,(∀w∈ws,EqAt A s w a (e w))/\ws.any e=r
 |[],_,r,h,q=>by subst q;obtain rfl:=aj h;exact⟨λU=>ag,(λU h=>nomatch h),rfl⟩
 |v::l,ws,r,h,q=>by
  (refine mI q.jt λw t z1 r1 r2=>?_;subst z1);change (match sX v x,qm x l with|some a,aa b=>aa (a||b)|_,_=>dv)=aa r at h;induction e1:sX v x with
  |none=>rw[e1]at h;exact fw h
  |some p =>
   induction e2:qm x l with
   |none=>rw[e1,e2]at h;exact fw h
   |some q =>
    rw[e1,e2]at h;obtain rfl:=aj h;refine dC (Co ra hu e2 r2) λe he ha=>?_;have hw:EqAt A s w a p:=Kn e1 r1 ra hu;by_cases m:w∈t
    .-- the same value aa0 behind too: its truth is told once
     by_cases z:e w=p
     .exact⟨e,λu hu=>by rcases aN.mp hu with rfl|m';rw[z];exact hw;exact he u m',by rw[eO,ha,z]⟩
     .refine⟨λu=>if u=w then p||e w else e u,λu hu=>?_,?_⟩
      .by_cases c:u=w
       .obtain rfl:=fc (c);simp only[if_true];induction p with
        |true=>exact hw
        |false=>exact he w m
       .simp only[if_neg c];rcases aN.mp hu with q'|q'
        .exact absurd q' c
        .exact he u q'
      .rw[eO];simp only[if_true];have hz:(p||e w)=af:=by induction p<;>cases h2:e w<;>simp_all
       rw[hz,BF];induction p with
       |true=>rfl
       |false =>
        have:e w=af:=by simpa using hz
        rw[q5,<- ha]
        symm
        exact mZ.mpr ⟨w,m,this⟩
    .refine⟨λu=>if u=w then p else e u,λu hu=>?_,?_⟩
     .by_cases c:u=w
      .obtain rfl:=fc (c);simp only[if_true];exact hw
      .simp only[if_neg c];rcases aN.mp hu with q'|q'
       .exact absurd q' c
       .exact he u q'
     .rw[eO];simp only[if_true];congr 1;rw[<- ha];have k:∀u∈t,(if u=w then p else e u)=e u:=λu hu=>if_neg λ(c:u=w)=>m (by rw[<- c];exact hu);exact z8 k
theorem zP (hu:A.units+65<jM)(h:qm x l=aa r)(ra:bu ρ X s.heap x a)(q:bt ρ X s.heap l vs) :
  ∃e:ax->Bool,(∀w∈vs.toArray,EqAt A.in1 s w a (e w))/\vs.toArray.any e=r:=by
 refine dC (Co (A:=A.in1) (s:=s) ra (by show A.units+1+64<jM;exact abT hu) h q) λe h1 h2=>?_;exact⟨e,λw hw=>h1 w (by simpa using hw),by rw[<- h2];simp⟩
theorem fu.at {K:Type}[DecidableEq K]{h:bV}:∀ {l:List (K×V)} {ws:List (K×ax)} {k:K},fu ρ X h l ws ->
  match (l.find? λp=>p.1=k).map (·.2)with
  |some v=>∃w,AK ws k=aa w/\bu ρ X h v w
  |none=>AK ws k=ae
 |[],_,k,r=>by subst r;rfl
 |(j,v)::l,_,k,r=>by
  (refine mI r λw t z1 a b=>?_;try clear r;subst z1);have ih:=fu.at (k:=k) b;unfold AK at ih ⊢;by_cases e:j=k
  .obtain rfl:=fc (e);simp only[i6,decide_true,vp];exact⟨w,rfl,a⟩
  .simp only[i6,e,decide_false];exact ih
theorem mu:∀(l:List (Int×V)) (k:Int),j4 l k=(l.find? λp=>p.1=k).map (·.2)
 |[]=>λU=>rfl
 |(j,v)::l=>λk=>by
  refine(?_:(if j=k then aa v else j4 l k)=_);by_cases e:j=k
  .subst e;simp
  .simp only[e,if_false,i6,decide_false];exact mu l k
theorem pF:∀(l:List (Str×V)) (k:Str),qC l k=(l.find? λp=>p.1=k).map (·.2)
 |[]=>λU=>rfl
 |(j,v)::l=>λk=>by
  refine(?_:(if j=k then aa v else qC l k)=_);by_cases e:j=k
  .subst e;simp
  .simp only[e,if_false,i6,decide_false];exact pF l k
theorem fu.some [DecidableEq K]{l:List (K×V)}{ws:List (K×ax)}{k:K}(r:fu ρ X h l ws):(AK ws k).isSome=((l.find? λp=>p.1=k).map (·.2)).isSome:=by
 have:=fu.at (k:=k) r
 split at this
 .rename_i e;(refine dC this λw hw U=>?_;try clear this);rw[hw,e];rfl
 .rename_i e;rw[this,e];rfl
theorem Rel.A1 (R:Rel Z ρ X σ s.heap)(hz:10<Z.base.objs.size){p:Pl}(hp:p∈ρ):(p.a==sysModules)=ag:=by
 have:=(R.ge p hp p.a (.head _)).1;have h2:p.a≠sysModules:=by unfold sysModules;exact λe=>by rw[e]at this;exact absurd (bK hz this) (by decide)
 simpa using h2
def P1 (Z:ng)(A:mR)(E:ax->av->Prop)(s:av)(a b:ax)(r:Bool):Prop :=
 (∀Q:ax->av->Prop,(∀t,Q (.bool r) {s with toks:=t})->aE (aA Z.prog Z.w) A (eh .In a b) Q E s)/\(∀Q:ax->av->Prop,(∀t,Q (.bool !r) {s with toks:=t})->aE (aA Z.prog Z.w) A (eh .NotIn a b) Q E s)
theorem in_list (hu:A.units+70<jM){p:aK}(h:qm x l=aa r)(ra:bu ρ X s.heap x a)(pl:s.heap.PlainList p vs.toArray)(q:bt ρ X s.heap l vs):P1 Z A E s a (.ref p) r:=by refine dC (zP (A:=A) (cm (i3 (by decide) _) hu) h ra q) λe h1 h2=>?_;exact⟨λQ q=>in_listAt e pl.isList h1 (h2▸q s.toks),λQ q=>notIn_listAt e pl.isList h1 (h2▸q s.toks)⟩
theorem OM (R:Rel Z ρ X σ s.heap)(hz:10<Z.base.objs.size)(hu:A.units+70<jM)(h:inO x σ[n]?=aa r)(ra:bu ρ X s.heap x a)(rb:bu ρ X s.heap (.loc n) b):P1 Z A E s a b r:=by
 (refine dC rb λp hp z1=>?_;try clear rb;subst z1);have hs:=R.A1 hz (aJ hp);induction hx:σ[n]? with
 |none=>rw[hx]at h;exact fw h
 |some o =>
  have ob:=R.obj n p o hp hx;rw[hx]at h;induction o with
  |list l =>obtain⟨_,vs,pl,q⟩:=ob;exact in_list hu h ra pl q
  |cJ l =>
   cases x with
   |int i =>
    obtain⟨t,rfl⟩:=ra;obtain⟨_,lJ,hd,pr⟩:=ob;have e:(AK lJ i).isSome=r:=by rw[<- aj h,mu];exact pr.some
    exact⟨λQ q=>wpAny_in_of (k:=i) (pU ..) hs hd.mapOf (e▸q _),λQ q=>wpAny_notIn_of (k:=i) (pU ..) hs hd.mapOf (e▸q _)⟩
   |_=>exact fw h
  |dN l =>
   cases x with
   |str i =>
    obtain⟨t,rfl⟩:=ra;obtain⟨_,lJ,hd,pr⟩:=ob;have e:(AK lJ i).isSome=r:=by rw[<- aj h,pF];exact pr.some
    exact⟨λQ q=>wpAny_in_of (k:=i) (vC ..) hs hd.mapOf (e▸q _),λQ q=>wpAny_notIn_of (k:=i) (vC ..) hs hd.mapOf (e▸q _)⟩
   |_=>exact fw h
  |inst l=>exact fw h
theorem Fo (R:Rel Z ρ X σ s.heap)(hz:10<Z.base.objs.size)(hu:A.units+70<jM)(h:inV σ x y=aa r)(ra:bu ρ X s.heap x a)(rb:bu ρ X s.heap y b):P1 Z A E s a b r:=by
 induction y using V.casesOn with
 |lst l=>(refine wL rb λp vs z1 U U pl q=>?_;try clear rb;subst z1);exact in_list hu h ra pl q
 |tup l =>(refine wL rb λp vs z1 U U pl q=>?_;try clear rb;subst z1);refine dC (zP (A:=A) (cm (i3 (by decide) _) hu) h ra q) λe h1 h2=>?_;exact⟨λQ q=>in_tupleAt e pl.Cv h1 (h2▸q s.toks),λQ q=>notIn_tupleAt e pl.Cv h1 (h2▸q s.toks)⟩
 |loc n=>exact OM R hz hu h ra rb
 |_=>exact fw h
theorem xP {op:CmpOp}{f:Int->Int->Bool}(h:ib x y f=aa r)(ra:bu ρ X s.heap x a)(rb:bu ρ X s.heap y b)(q:Q (.bool r) s)
  (k:∀i j t u,Q (.bool (f i j)) s->aE (aA Z.prog Z.w) A (eh op (.int i t) (.int j u)) Q E s):aE (aA Z.prog Z.w) A (eh op a b) Q E s:=by
 induction x using V.casesOn with
 |int i =>
  induction y using V.casesOn with
  |int j =>obtain⟨t,rfl⟩:=ra;obtain⟨u,rfl⟩:=rb;exact k i j t u (aj h▸q)
  |_=>exact fw h
 |_=>exact fw h
theorem OI (ra:bu ρ X s.heap x a)(h:MS x=af):a=.none:=by
 cases x with
 |none=>exact ra
 |_=>exact jE h
theorem Fm (ra:bu ρ X s.heap x a)(rb:bu ρ X s.heap y b)(hb:MS y=af) :
  (Q (.bool (MS x)) s->aE (aA Z.prog Z.w) A (eh .Is a b) Q E s)/\(Q (.bool (isM x)) s->aE (aA Z.prog Z.w) A (eh .IsNot a b) Q E s):=by
 obtain rfl:=OI rb hb;induction x using V.casesOn with
 |none=>subst ra;exact⟨λq=>iT (Q:=Q) rfl q,λq=>f7 (Q:=Q) rfl q⟩
 |bool i=>subst ra;exact⟨λq=>iT (Q:=Q) rfl q,λq=>f7 (Q:=Q) rfl q⟩
 |int i=>obtain⟨t,rfl⟩:=ra;exact⟨λq=>iT (Q:=Q) rfl q,λq=>f7 (Q:=Q) rfl q⟩
 |str i=>obtain⟨t,rfl⟩:=ra;exact⟨λq=>iT (Q:=Q) rfl q,λq=>f7 (Q:=Q) rfl q⟩
 |loc n=>(refine dC ra λt U z1=>?_;try clear ra;subst z1);exact⟨λq=>iT (Q:=Q) rfl q,λq=>f7 (Q:=Q) rfl q⟩
 |tup l=>(refine Ec ra λt vs z1 U=>?_;try clear ra;subst z1);exact⟨λq=>iT (Q:=Q) rfl q,λq=>f7 (Q:=Q) rfl q⟩
 |lst l=>(refine Ec ra λt vs z1 U=>?_;try clear ra;subst z1);exact⟨λq=>iT (Q:=Q) rfl q,λq=>f7 (Q:=Q) rfl q⟩
theorem Hv {o p:Option V}(h:eqD o p=aa r):∃u v,o=aa u/\p=aa v/\sX u v=aa r:=by
 induction o with
 |none=>exact fw h
 |some u =>
  induction p with
  |none=>exact fw h
  |some v=>exact⟨u,v,rfl,rfl,h⟩
theorem Ci {o:Option Bool}(h:o.map (!·)=aa r):o=aa (!r):=by
 induction o with
 |none=>exact fw h
 |some b=>obtain rfl:=aj h;exact congrArg aa (BG b).symm
theorem oh (R:Rel Z ρ X σ s.heap)(hz:10<Z.base.objs.size)(hu:A.units+70<jM)(o:Cm)(h:fe σ o x y=aa r)(ra:bu ρ X s.heap x a)(rb:bu ρ X s.heap y b)
  (q:∀t,Q (.bool r) {s with toks:=t}):aE (aA Z.prog Z.w) A (eh (Aj o) a b) Q E s:=by
 have q0:Q (.bool r) s:=q s.toks;have hu':A.units+64<jM:=cm (i3 (by decide) _) hu;induction o with
 |eq =>refine mI (Hv h) λu v hx hy e=>?_;exact(CL R hx hy e ra rb hu').1 Q q0
 |ne =>refine mI (Hv (Ci h)) λu v hx hy e=>?_;exact(CL R hx hy e ra rb hu').2 Q ((BG r).symm▸q0)
 |lt=>exact xP (f:=λx y=>decide (x<y)) h ra rb q0 λU U U U=>lt_int
 |le=>exact xP (f:=λx y=>decide (x<=y)) h ra rb q0 λU U U U=>le_int
 |gt=>exact xP (f:=λx y=>decide (y<x)) h ra rb q0 λU U U U=>gt_int
 |ge=>exact xP (f:=λx y=>decide (y<=x)) h ra rb q0 λU U U U=>ge_int
 |is =>
  by_cases hb:MS y=af
  .exact(Fm ra rb hb).1 (aj ((if_pos hb).symm.trans h)▸q0)
  .exact absurd ((if_neg hb).symm.trans h) (by nofun)
 |r8 =>
  by_cases hb:MS y=af
  .exact(Fm ra rb hb).2 (aj ((if_pos hb).symm.trans h)▸q0)
  .exact absurd ((if_neg hb).symm.trans h) (by nofun)
 |ry=>exact(Fo R hz hu h ra rb).1 Q q
 |H3=>exact(Fo R hz hu (Ci h) ra rb).2 Q ((BG r).symm▸q)
end
noncomputable abbrev tC (ws:List ax):Obj:={cls:=.type "list",data:=.seq ws.toArray}
noncomputable abbrev o5 (ws:List ax):Obj:={cls:=.type "tuple",data:=.seq ws.toArray}
theorem iy:lim<=fz:=by delta lim fz;decide
section
variable {X:List aK}
theorem Rel.Ov (R:Rel Z ρ X σ s.heap):Off ρ s.heap.objs.size:=λp hp q=>absurd (R.lt hp q) (gX _)
theorem Rel.newX (R:Rel Z ρ X σ s.heap):s.heap.objs.size∉X:=λq=>absurd (R.vJ _ q) (gX _)
theorem wy    {h':bV}{a:aK}(R:Rel Z ρ X σ s.heap)(r:bt ρ X s.heap l ws)(x:Ext s.heap h')
  (ha:s.heap.objs.size<=a)(hl:h'.PlainList a ws.toArray)(k:∀Q E,Q (.ref a) {s with heap:=h',toks:=t}->W Q E):Run Z [] X ρ s (TV X) (gQ m l σ) W:=by
 delta gQ;have hX:a∉X:=λq=>absurd (R.vJ _ q) (bO.mpr ha);have hO:Off ρ a:=λp hp q=>absurd (R.lt hp q) (bO.mpr ha)
 split
 .rename_i Qr
  induction m with
  |true =>
   simp only[if_true];have:=R.new (p:=⟨a,ae⟩) (o:=.list l) x (λy hy=>by simp only[Pl.lW,eF,au]at hy;subst hy;exact ha) (λy hy=>by simp only[Pl.lW,eF,au]at hy;subst hy;exact hX)
    (by simp) (λg=>⟨rfl,ws,hl,bt.mono g (λU q=>nomatch q) (λU q=>.inl q) _ _ r⟩)
   refine .ok ⟨this.2,h',t,rfl⟩ this.1 ?_ k;exact bB (⟨a,ae⟩) ⟨by rw[<- R.len];simp,rfl⟩
  |false =>simp only[cN,if_false];refine .ok (Go.ext x) (R.ext x) ?_ k;exact bB a ⟨ws,rfl,hO,hX,hl,r.ext x⟩
 .trivial
theorem nu    (R:Rel Z ρ X σ s.heap)(r:bt ρ X s.heap l ws)
  (k:l.length<lim->∀Q E,Q (.ref s.heap.objs.size) {s with heap:=s.heap.push (tC ws)}->W Q E):Run Z [] X ρ s (TV X) (gQ m l σ) W:=by
 by_cases hl:l.length<lim
 .exact wy (t:=s.toks) R r (Ext.push _) (aO _) ⟨0,cE _ rfl⟩ (k hl)
 .delta gQ;rw[if_neg hl];trivial
theorem nr   (R:Rel Z ρ X σ s.heap)(r:bt ρ X s.heap l ws)
  (k:∀Q E,Q (.ref s.heap.objs.size) {s with heap:=s.heap.push (o5 ws)}->W Q E):Run Z [] X ρ s (TV X) (.ok (.tup l) σ) W:=by
 refine .ok (Go.ext (t:=s.toks) (Ext.push _)) (R.ext (Ext.push _)) ?_ k;exact bB _ ⟨ws,rfl,R.Ov,R.newX,⟨0,cE _ rfl⟩,r.ext (Ext.push _)⟩
noncomputable def Qd:Nh->Operator
 |.add=>.Add|.sub=>.Sub|.mul=>.Mult|.fdiv=>.FloorDiv|.mod=>.Mod|.pow _=>.Pow
theorem TupAt.obj {a:aK}(t:TupAt h a vs):∃n,h.get? a=aa {cls:=.type "tuple",data:=.seq vs.toArray n}:=t
theorem zX:∀n:Nat,gz (λ(x1 x2:Array ax)=>x1++x2) #[] (bF n ws.toArray)=((bF n ws).flatten).toArray:=by
 have key:∀(n:Nat) (acc:Array ax),gz (λ(x1 x2:Array ax)=>x1++x2) acc (bF n ws.toArray)=acc++((bF n ws).flatten).toArray:=by
  intro n;induction n with
  |zero=>intro acc;simp
  |succ n ih=>intro acc;rw[qS,List.foldl_cons,ih,qS,List.flatten_cons];simp
 intro n;rw[key];simp
theorem wb {l b:aK}(hl:s.heap.IsList l vs.toArray)(hb:s.heap.IsList b ws.toArray)
  (h:Q (.ref s.heap.objs.size) {s with heap:=s.heap.push (tC (vs++ws))})(hsz:vs.length+ws.length<=fz):aE (aA Z.prog Z.w) A (gM .Add (.ref l) (.ref b)) Q E s:=by
 obtain⟨⟨cls,dd,data,sl⟩,ho,hc,n,hd⟩:=id hl;obtain⟨⟨acZ,dd2,data2,QX⟩,J5,Kb,n2,hd2⟩:=id hb;simp only at hc hd Kb hd2;subst hc hd Kb hd2;have e:vs.toArray++ws.toArray=(vs++ws).toArray:=by simp
 refine w8 ⟨_,ho,rfl⟩ ⟨_,J5,rfl⟩ noFill_list_add seq_list_add PySem.F.slot_list_add PySem.F.entry_list_add (PySem.F.args_list_add_2 _ _) (list_addW l b vs.toArray ws.toArray n n2 dd dd2 sl QX (by simpa using hsz)) ⟨ho,J5,?_⟩;rw[e];exact h
theorem vo {t b:aK}(ht:IsTup s.heap t vs.toArray)(hb:IsTup s.heap b ws.toArray)
  (h0:vs=[]->Q (.ref b) s)(h1:vs≠[]->ws=[]->Q (.ref t) s)(h2:Q (.ref s.heap.objs.size) {s with heap:=s.heap.push (o5 (vs++ws))})
  (hsz:vs.length+ws.length<=fz):aE (aA Z.prog Z.w) A (gM .Add (.ref t) (.ref b)) Q E s:=by
 obtain⟨⟨cls,dd,data,sl⟩,ho,hc,n,hd⟩:=id ht;obtain⟨⟨acZ,dd2,data2,QX⟩,J5,Kb,n2,hd2⟩:=id hb;simp only at hc hd Kb hd2;subst hc hd Kb hd2;have e:vs.toArray++ws.toArray=(vs++ws).toArray:=by simp
 by_cases hv:vs=[]
 .exact w8 ⟨_,ho,rfl⟩ ⟨_,J5,rfl⟩ yu Ea mP ma (lK _ _)
   (tuple_addW0 t b vs.toArray ws.toArray n n2 dd dd2 sl QX (by simp[hv])) ⟨ho,J5,h0 hv⟩
 .by_cases hw:ws=[]
  .exact w8 ⟨_,ho,rfl⟩ ⟨_,J5,rfl⟩ yu Ea mP ma (lK _ _)
    (tuple_addW1 t b vs.toArray ws.toArray n n2 dd dd2 sl QX (by simpa using hv) (by simp[hw])) ⟨ho,J5,h1 hv hw⟩
  .refine w8 ⟨_,ho,rfl⟩ ⟨_,J5,rfl⟩ yu Ea mP ma (lK _ _)
    (tuple_addW2 t b vs.toArray ws.toArray n n2 dd dd2 sl QX (by simpa using hv) (by simpa using hw) (by rw[b9,b9];exact hsz)) ⟨ho,J5,?_⟩
   rw[e];exact h2
theorem xV {l:aK}
  (hl:s.heap.get? l=aa {cls:=.type "list",dict:=ae,data:=.seq ws.toArray k,slots:=#[]})
  (Ef:0<=i)(hhi:i<2 ^ 63)(hsz:ws.length*i.toNat<=2 ^ 24)
  (h:Q (.ref s.heap.objs.size) {s with heap:=s.heap.push (tC ((bF i.toNat ws).flatten))}) :
  aE (aA Z.prog Z.w) A (gM .Mult (.ref l) (.int i u)) Q E s:=by
 refine C6 (T:="list") (U:="int") (by decide) ⟨_,hl,rfl⟩ (λs'=>BS s' i u) noFill_list_mul F.fills_int_mul pM repeat_list F.slot_int_index.lookup
  (fy pM (BS s i u) F.entry_int_rmul (F.args_int_rmul_2 _ _) (int___rmul___int_list i u l ws.toArray k)
   ⟨hl,rfl,⟨_,hl,rfl⟩,fy F.slot_list_mul ⟨_,hl,rfl⟩ F.entry_list_mul (F.args_list_mul_2 _ _)
    (AutoListH.list___mul___list_int_3 l ws.toArray k i u (by simp[rM];lia) (by simp;exact abQ hsz) (by simp[td,fz];exact abP hsz))
    ⟨hl,?_⟩⟩)
 have e:gz (λ(x1 x2:Array ax)=>x1++x2) #[] (bF (if ws.toArray.isEmpty=af then 0 else i.toNat) ws.toArray)=((bF i.toNat ws).flatten).toArray:=by
  by_cases hw:ws=[]
  .subst hw;simp
  .rw[if_neg (by simpa using hw)];exact zX _
 rw[e];exact h
end
section
theorem z9 (a n:Nat)(ha:a<=n):j9 ae (aa (a:Int)) 1 (n:Int)=(0,(a:Int)):=by
 delta j9;have h1:¬((1:Int)<0):=by exact abS
 have h2:¬((a:Int)<0):=by exact abR
 simp only[h1,h2,if_false];congr 1;lia
theorem zB (a:Nat):j8 0 (a:Int) 1=a:=by have:=places_from 0 a (bL _);simpa using this
theorem qd  {a:Nat}{Q:Int×Int×Nat->av->Prop}(hs:s.heap.IsSliceOf sl .none (.int a u) .none)(ha:a<=n)(h:Q (0,1,a) s) :
  aE (aA prog w) A (jQ (.ref sl) (pure (n:Int))) Q E s:=by
 refine tv (id hs) λos OP OW ZL=>?_;delta jQ Builtin.Slice.sliceFields;refine aq (aq (iU OP ZL (x:=.none) rfl (aq (iU OP ZL (x:=.int a u) rfl (aq (iU OP ZL (x:=.none) rfl (aW ?_)))))));refine aq (slicePart_none ?_);refine(?_:aE _ _ (if((1:Int)==0)=af then _ else _) _ _ s);rw[if_neg (by decide)];refine aq (slicePart_none (aq (slicePart_int (aq (aW ?_)))));refine(?_:aE _ _ (match j9 ae (aa (a:Int)) 1 (n:Int)with|(lo,hi)=>pure (lo,(1:Int),j8 lo hi 1)) _ _ s);rw[z9 a n ha];refine(?_:aE _ _ (pure ((0:Int),(1:Int),j8 (0:Int) (a:Int) 1)) _ _ s);rw[zB a];exact aW h
theorem Dw (xs:Array ax)(a:Nat)(ha:a<=xs.size):((fG a).filterMap λ(k:Nat)=>xs[((0:Int)+(k:Int)*1).toNat]?).toArray=(xs.toList.take a).toArray:=by
 have e:(λ(k:Nat)=>xs[((0:Int)+(k:Int)*1).toNat]?)=λk=>xs[0+k]?:=by
  funext k
  have:((0:Int)+(k:Int)*1).toNat=0+k:=by lia
  rw[this]
 rw[e];have:=pick_run xs 0 a;rw[List.filterMap_map]at this;have e2:((λx=>xs[x]?) ∘ λx=>0+x)=λk=>xs[0+k]?:=rfl;rw[e2]at this;rw[this];simp
theorem j3 {t:aK}{lo:Int}(ht:IsTup s.heap t vs.toArray)(hT:s.TypeIs (.ref sl) "slice")
  (hap:∀Q':Int×Int×Nat->av->Prop,Q' (lo,1,n) s->aE (aA prog w) A.in1 (jQ (.ref sl) (pure (vs.toArray.size:Int))) Q' (λe s'=>E e s') s)
  (hw:((fG n).filterMap λ(k:Nat)=>vs.toArray[(lo+(k:Int)*1).toNat]?).toArray=ws.toArray)
  (h0:lo=0->n=vs.length->Q (.ref t) s)(h1:Q (.ref s.heap.objs.size) {s with heap:=s.heap.push (o5 ws)})
  (hsz:ws.length<=fz):aE (aA prog w) A (gw (.ref t) (.ref sl)) Q E s:=by
 have GR:sizeOk (.seq ws.toArray):=by refine(?_:ws.toArray.size<=fz);rw[b9];exact hsz
 delta gw
 try with_reducible refine bC ?_
 first|refine aq (aW ?_)|skip
 refine aq (wpAny_sequenceKey ht.typeIs (by decide) ?_);refine aq (wpAny_callSpecial?_slot (name:=cU "__getitem__") ht.typeIs slot_tuple_getitem
  (yt slot_tuple_getitem ht.typeIs entry_tuple_getitem ?_ (args_tuple_getitem _ _)))
 refine(?_:aE _ _ (Builtin.Tuple.tupleItemsOf (.ref t) >>= _) _ _ s);refine aq (tupleItemsOf_ ht ?_);refine aq (wpAny_typeOf hT ?_);rw[if_pos (by decide)];refine aq (hap _ ?_);refine(?_:aE _ _ (if(lo==0&&(1:Int)==1&&n==vs.toArray.size)=af then _ else _) _ _ s);by_cases hc:(lo==0&&(1:Int)==1&&n==vs.toArray.size)=af
 .rw[if_pos hc];simp only[bz,beq_iff_eq,b9]at hc;delta Builtin.Tuple.tupleIsExact;refine aq (aq (wpAny_typeOf ht.typeIs (aW ?_)));rw[if_pos (by decide)];exact aq (kQ (aW ⟨_,rfl,aW (h0 hc.1.1 hc.2)⟩))
 .rw[if_neg hc,hw];exact aq (m:=Builtin.Tuple.tupleExact _) (jW (aW ⟨_,rfl,aW h1⟩) GR)
theorem Df {t:aK}{a:Nat}(ht:IsTup s.heap t vs.toArray)(hs:s.heap.IsSliceOf sl (.int a u) .none .none)(ha:a<=vs.length)
  (h0:a=0->Q (.ref t) s)(h1:Q (.ref s.heap.objs.size) {s with heap:=s.heap.push (o5 (vs.drop a))})(hsz:vs.length<=fz):aE (aA prog w) A (gw (.ref t) (.ref sl)) Q E s:=by
 refine tv (id hs) λos OP OW ZL=>?_;refine j3 (lo:=a) (n:=vs.length-a) (ws:=vs.drop a) ht ⟨os,OP,OW⟩ (λQ' q=>sliceApplied_from hs (by simpa using ha) (by simpa using q)) ?_ (λe U=>h0 (abO e)) h1 (by rw[jU];exact abN ha hsz);have:=pick_from vs.toArray a (by simpa using ha);simpa using this
theorem Dg {t:aK}{a:Nat}(ht:IsTup s.heap t vs.toArray)(hs:s.heap.IsSliceOf sl .none (.int a u) .none)(ha:a<=vs.length)
  (h0:a=vs.length->Q (.ref t) s)(h1:Q (.ref s.heap.objs.size) {s with heap:=s.heap.push (o5 (vs.take a))})(hsz:vs.length<=fz):aE (aA prog w) A (gw (.ref t) (.ref sl)) Q E s:=by
 refine tv (id hs) λos OP OW ZL=>?_;refine j3 (lo:=0) (n:=a) (ws:=vs.take a) ht ⟨os,OP,OW⟩ (λQ' q=>qd hs (by simpa using ha) q) ?_ (λU e=>h0 e) h1 (by rw[cv];exact abM ha hsz);have:=Dw vs.toArray a (by simpa using ha);simpa using this
end
theorem rp:fillsNumberSlot (.type "tuple") "mul"=pure ag :=
 PySem.fillsNumberSlot_seq (id:="tuple.__mul__") (r:=aa (.builtin "tuple.__rmul__")) kq.lookup (by decide +kernel) F.slot_tuple_rmul.lookup (by decide +kernel)
theorem xR:seqRepeat? (.type "tuple")=pure (aa (.builtin "tuple.__mul__")):=by unfold seqRepeat?;rw[PySem.seqSlot_of (T:="tuple") (name:="__mul__") (id:="tuple.__mul__") kq.lookup (by decide +kernel),PySem.seqSlot_of (T:="tuple") (name:="__rmul__") (id:="tuple.__rmul__") F.slot_tuple_rmul.lookup (by decide +kernel)];rfl
theorem uR (a:Int)(t:Tok)(l:aK)(items:Array ax)(n:Nat) :
  Meets (Builtin.«int.__rmul__» ⟨[.int a t,.ref l],[]⟩) (λU R s=>s.heap.get? l=aa {cls:=.type "tuple",dict:=ae,data:=.seq items n,slots:=#[]}/\R (.ok (.ret Value.notImplemented)) s) :=
 .of_wp λprog w A R s h=>by obtain⟨hp,g,d,tk,os⟩:=s;obtain⟨hl,h⟩:=h;wp_walk;exact⟨_,rfl,h⟩
theorem t9 (l:aK)(items:Array ax)(n:Nat)(i:Int)(u:Tok)(h0:¬(decide (i < -(2 ^ 63))||decide (i >= 2 ^ 63))=af)(h1:(items.isEmpty||i==1)=af) :
  Meets (Builtin.«tuple.__mul__» ⟨[.ref l,.int i u],[]⟩) (λU R s=>s.heap.get? l=aa {cls:=.type "tuple",dict:=ae,data:=.seq items n,slots:=#[]}/\R (.ok (.ret (dP l))) s) :=
 .of_wp λprog w A R s h=>by
  obtain⟨hp,g,d,tk,os⟩:=s;obtain⟨hl,h⟩:=h
  wp_walk
  refine ik ?_;rw[if_neg h0];wp_walk;exact⟨_,rfl,h⟩
theorem ua (l:aK)(items:Array ax)(n:Nat)(i:Int)(u:Tok)(h0:¬(decide (i < -(2 ^ 63))||decide (i >= 2 ^ 63))=af)(h1:¬(items.isEmpty||i==1)=af)(h2:(decide (i<=0)||items.isEmpty)=af) :
  Meets (Builtin.«tuple.__mul__» ⟨[.ref l,.int i u],[]⟩) (λU R s=>s.heap.get? l=aa {cls:=.type "tuple",dict:=ae,data:=.seq items n,slots:=#[]}/\R (.ok (.ret (dP s.heap.objs.size))) {s with heap:=s.heap.push {cls:=.type "tuple",data:=.seq #[]}}) :=
 .of_wp λprog w A R s h=>by
  obtain⟨hp,g,d,tk,os⟩:=s;obtain⟨hl,h⟩:=h
  wp_walk
  refine ik ?_;rw[if_neg h0];wp_walk;exact⟨_,rfl,h⟩
theorem ub (l:aK)(items:Array ax)(n:Nat)(i:Int)(u:Tok)(h0:¬(decide (i < -(2 ^ 63))||decide (i >= 2 ^ 63))=af)(h1:¬(items.isEmpty||i==1)=af)(h2:¬(decide (i<=0)||items.isEmpty)=af)
  (h3:¬(items.size:Int)*i>(2 ^ 63-1)/8)(h4:¬qZ ((items.size:Int)*i)=af)(h5:(gz (λ(x1 x2:Array ax)=>x1++x2) #[] (bF i.toNat items)).size<=fz) :
  Meets (Builtin.«tuple.__mul__» ⟨[.ref l,.int i u],[]⟩) (λU R s=>s.heap.get? l=aa {cls:=.type "tuple",dict:=ae,data:=.seq items n,slots:=#[]}/\R (.ok (.ret (dP s.heap.objs.size))) {s with heap:=s.heap.push {cls:=.type "tuple",data:=.seq (gz (λx1 x2=>x1++x2) #[] (bF i.toNat items))}}) :=
 .of_wp λprog w A R s h=>by
  obtain⟨hp,g,d,tk,os⟩:=s;obtain⟨hl,h⟩:=h
  wp_walk
  refine ik ?_;rw[if_neg h0];wp_walk;refine ik ?_;rw[if_neg h3];wp_walk;exact⟨_,rfl,h⟩
section
theorem vU {l:aK}
  (hl:s.heap.get? l=aa {cls:=.type "tuple",dict:=ae,data:=.seq ws.toArray k,slots:=#[]})
  (Ef:0<=i)(hhi:i<2 ^ 62)(hsz:ws.length*i.toNat<=2 ^ 24)
  (h0:ws=[]\/i=1->Q (.ref l) s)
  (h:Q (.ref s.heap.objs.size) {s with heap:=s.heap.push (o5 ((bF i.toNat ws).flatten))}) :
  aE (aA prog w) A (gM .Mult (.ref l) (.int i u)) Q E s:=by
 have k0:¬(decide (i < -(2 ^ 63))||decide (i >= 2 ^ 63))=af:=by simp;lia
 have key:aE (aA prog w) A (call (.builtin "tuple.__mul__") [.ref l,.int i u]) Q E s:=by
  by_cases h1:(ws.toArray.isEmpty||i==1)=af
  .refine fy kq ⟨_,hl,rfl⟩ vH (tM _ _) (t9 l ws.toArray k i u k0 h1) ⟨hl,h0 ?_⟩;rcases Eo.mp h1 with q|q
   .exact .inl (by simpa using q)
   .exact .inr (by simpa using q)
  .by_cases h2:(decide (i<=0)||ws.toArray.isEmpty)=af
   .refine fy kq ⟨_,hl,rfl⟩ vH (tM _ _) (ua l ws.toArray k i u k0 h1 h2) ⟨hl,?_⟩;have:i=0:=by
     rcases Eo.mp h2 with q|q
     .have:=of_decide_eq_true q;lia
     .exact absurd (by rw[q];rfl) h1
    subst this;exact h
   .have hm:(ws.toArray.size:Int)*i=((ws.length*i.toNat:Nat):Int):=by rw[b9,Int.natCast_mul,gi Ef]
    have e:=zX (ws:=ws) i.toNat;refine fy kq ⟨_,hl,rfl⟩ vH (tM _ _) (ub l ws.toArray k i u k0 h1 h2 (by rw[hm];lia) (by rw[hm];delta qZ fz;simp only[decide_eq_true_eq];exact abb hsz) ?_) ⟨hl,?_⟩
    .rw[e,b9];have:((bF i.toNat ws).flatten).length=i.toNat*ws.length:=by simp
     rw[this,CR];exact hsz
    .rw[e];exact h
 exact C6 (T:="tuple") (U:="int") (by decide) ⟨_,hl,rfl⟩ (λs'=>BS s' i u) rp F.fills_int_mul pM xR F.slot_int_index.lookup
  (fy pM (BS s i u) F.entry_int_rmul (F.args_int_rmul_2 _ _) (uR i u l ws.toArray k) ⟨hl,rfl,⟨_,hl,rfl⟩,key⟩)
end
theorem qJ (h:big i=af):i.natAbs<2 ^ 62:=by unfold big at h;simpa using h
section
variable {X:List aK}
theorem qf {w:ax}(R:Rel Z ρ X σ s.heap)(r:bu ρ X s.heap v w)(k:∀Q E,Q w {s with toks:=t}->W Q E):Run Z [] X ρ s (TV X) (.ok v σ) W :=
 .ok (s':={s with toks:=t}) Go.tok R r k
theorem mU   : bu ρ X h (.int i) (.int i t):=by exact bB t rfl
theorem t8 {i:Bool}:bu ρ X h (.bool i) (.bool i):=rfl
theorem AJ {i:Str}  : bu ρ X h (.str i) (.str i t):=by exact bB t rfl
theorem t7:bu ρ X h .none .none:=rfl
theorem zO (h:big i=af):Builtin.Int.intBits i<=64:=intBits_le_64 (by have:=qJ h;lia) (by have:=qJ h;lia)
theorem rU (l:List V):∀n,(mV l n).length=n*l.length
 |0=>(Nat.zero_mul _).symm
 |n+1=>by rw[show mV l (n+1)=l++mV l n from rfl,ao,rU l n,Nat.succ_mul];exact abL
section
variable {α:Type}{T:List Pl->bV->V->α->Prop}{r:R V}{W:(α->av->Prop)->(ax->av->Prop)->Prop}
theorem Run.if {c:Prop}[d:Decidable c](h:c->Run Z [] X ρ s T r W):Run Z [] X ρ s T (if c then r else .bad) W:=by
 induction d with
 |isTrue k=>exact h k
 |isFalse _=>trivial
end
theorem ui (op:Operator){f:Int->Int->R V}(ra:bu ρ X s.heap x a)(rb:bu ρ X s.heap y b)(h:∀i j t u,Run Z [] X ρ s (TV X) (f i j) (λQ E=>aE (aA Z.prog Z.w) A (gM op (.int i t) (.int j u)) Q E s)) :
  Run Z [] X ρ s (TV X) (ii x y f) (λQ E=>aE (aA Z.prog Z.w) A (gM op a b) Q E s):=by
 induction x using V.casesOn with
 |int i =>
  induction y using V.casesOn with
  |int j =>obtain⟨t,rfl⟩:=ra;obtain⟨u,rfl⟩:=rb;exact h i j t u
  |_=>trivial
 |_=>trivial
theorem uG (R:Rel Z ρ X σ s.heap)(h:Ak σ x=aa l)(ra:bu ρ X s.heap x a):∃p vs,a=.ref p/\s.heap.PlainList p vs.toArray/\bt ρ X s.heap l vs:=by
 induction x using V.casesOn with
 |lst k =>obtain rfl:=aj h;(refine wL ra λp vs e U U t q=>?_;try clear ra);exact⟨p,vs,e,t,q⟩
 |loc n =>
  (refine dC ra λp hp e=>?_;try clear ra);change (match σ[n]? with|some (.list l)=>aa l|_=>ae)=aa l at h;induction hx:σ[n]? with
  |none=>rw[hx]at h;exact fw h
  |some o =>
   rw[hx]at h;induction o with
   |list k =>obtain rfl:=aj h;obtain⟨_,vs,t,q⟩:=R.obj n p _ hp hx;exact⟨p.a,vs,e,t,q⟩
   |_=>exact fw h
 |_=>exact fw h
theorem Ja (m:Bool)(R:Rel Z ρ X σ s.heap)(ra:bu ρ X s.heap x a)(rb:bu ρ X s.heap y b) :
  Run Z [] X ρ s (TV X) (Pe σ m (Ak σ x) (Ak σ y)) (λQ E=>aE (aA Z.prog Z.w) A (gM .Add a b) Q E s):=by
 induction h1:Ak σ x with
 |none=>trivial
 |some l1 =>
  induction h2:Ak σ y with
  |none=>trivial
  |some l2 =>(refine mI (uG R h1 ra) λp vs z1 t1 q1=>?_;subst z1);(refine mI (uG R h2 rb) λp' ws z1 t2 q2=>?_;subst z1);exact nu R (q1.append q2) λhl Q E q=>wb t1.isList t2.isList q (by have l1:=q1.length;have l2:=q2.length;have:=iy;rw[ao]at hl;exact Tc hl l1 l2 this)
theorem HR {x y:Str}{t:Tok}(k:x.cps.size+y.cps.size<lim)(q:∀t' tk,Q (.str ⟨x.cps++y.cps⟩ t') {s with toks:=tk}):aE (aA Z.prog Z.w) A (gM .Add (.str x t) (.str y u)) Q E s:=by have e:({cps:=x.cps++y.cps}:Str)=x++y:=Str.ext' (by rw[Str.cps_append]);rw[e]at q;exact PyProof.Rows.add_str q (dj (bK k iy))
theorem Fp {x y:List V}(R:Rel Z ρ X σ s.heap)(ra:bu ρ X s.heap (.tup x) a)(rb:bu ρ X s.heap (.tup y) b)(k:x.length+y.length<lim) :
  Run Z [] X ρ s (TV X) (.ok (.tup (x++y)) σ) (λQ E=>aE (aA Z.prog Z.w) A (gM .Add a b) Q E s):=by
 have Qb:=ra;have rb':=rb;(refine wL ra λp vs z1 o1 x1 t1 q1=>?_;try clear ra;subst z1);(refine wL rb λp' ws z1 o2 x2 t2 q2=>?_;try clear rb;subst z1);intro Q E q;have l1:=q1.length;have l2:=q2.length;refine vo t1.isTup t2.isTup (λe=>?_) (λU e=>?_) ?_ (by have:=iy;exact Tc k l1 l2 this)
 .subst e;obtain rfl:x=[]:=gh.mp l1;exact q _ ρ s .refl R rb'
 .subst e;obtain rfl:y=[]:=gh.mp l2;exact q _ ρ s .refl R (by rw[aP];exact Qb)
 .exact nr R (q1.append q2) (λQ E q=>q) Q E q
theorem Fi {x:List V}(R:Rel Z ρ X σ s.heap)(ra:bu ρ X s.heap (.tup x) a)(k:i.toNat*x.length<lim/\0<=i/\i<1000) :
  Run Z [] X ρ s (TV X) (.ok (.tup (mV x i.toNat)) σ) (λQ E=>aE (aA Z.prog Z.w) A (gM .Mult a (.int i u)) Q E s):=by
 have Qb:=ra;(refine wL ra λp vs z1 o1 x1 t1 q1=>?_;try clear ra;subst z1);obtain⟨n,e⟩:=t1;have l1:=q1.length;intro Q E q;have sz:vs.length*i.toNat<=2 ^ 24:=by rw[CR,<- l1];have:=k.1;unfold lim at this;exact RU this
 refine vU e k.2.1 (by lia) sz (λz=>q _ ρ s .refl R ?_) ?_
 .have:mV x i.toNat=x:=by
   rcases z with z|z
   .subst z;obtain rfl:x=[]:=gh.mp l1;exact gh.mp (by rw[rU];rfl)
   .subst z;exact aP x
  rw[this];exact Qb
 .exact nr R (q1.rep i.toNat) (λQ E q=>q) Q E q
theorem Fj (m:Bool){x:List V}(R:Rel Z ρ X σ s.heap)(ra:bu ρ X s.heap (.lst x) a)(k:i.toNat*x.length<lim/\0<=i/\i<1000) :
  Run Z [] X ρ s (TV X) (gQ m (mV x i.toNat) σ) (λQ E=>aE (aA Z.prog Z.w) A (gM .Mult a (.int i u)) Q E s):=by
 (refine wL ra λp vs z1 o1 x1 z2 q1=>?_;try clear ra;subst z1;obtain⟨n,e⟩:=z2);have l1:=q1.length;have sz:vs.length*i.toNat<=2 ^ 24:=by rw[CR,<- l1];have:=k.1;unfold lim at this;exact RU this
 exact nu R (q1.rep i.toNat) λU Q E q=>xV e k.2.1 (by lia) sz q
theorem Jd (m:Bool)(R:Rel Z ρ X σ s.heap)(ra:bu ρ X s.heap x a)(rb:bu ρ X s.heap y b) :
  Run Z [] X ρ s (TV X) (aaz σ m x y) (λQ E=>aE (aA Z.prog Z.w) A (gM .Add a b) Q E s):=by
 induction x using V.casesOn with
 |int i=>exact ui .Add ra rb λU U U U=>qf R mU λQ E q=>add_int q
 |str x =>
  induction y using V.casesOn with
  |str y =>obtain⟨t,rfl⟩:=ra;obtain⟨u,rfl⟩:=rb;exact Run.if λk Q E q=>HR k λt' tk=>q _ ρ _ Go.tok R AJ
  |_=>trivial
 |tup x =>
  induction y using V.casesOn with
  |tup y=>exact Run.if λk=>Fp R ra rb k
  |_=>trivial
 |_=>exact Ja m R ra rb
theorem I8 (m:Bool)(R:Rel Z ρ X σ s.heap)(ra:bu ρ X s.heap x a)(rb:bu ρ X s.heap y b) :
  Run Z [] X ρ s (TV X) (YY σ m x y) (λQ E=>aE (aA Z.prog Z.w) A (gM .Mult a b) Q E s):=by
 induction y using V.casesOn with
 |int j =>
  obtain⟨u,rfl⟩:=rb;induction x using V.casesOn with
  |int i =>obtain⟨t,rfl⟩:=ra;exact Run.if λk=>qf R mU λQ E q=>PyProof.Rows.mul_int q (IntMulOk.of_left (zO (qP k)))
  |tup x=>exact Run.if λk=>Fi R ra k
  |lst x=>exact Run.if λk=>Fj m R ra k
  |_=>trivial
 |_=>trivial
theorem Jb (o:Nh)(m:Bool)(R:Rel Z ρ X σ s.heap)(ra:bu ρ X s.heap x a)(rb:bu ρ X s.heap y b) :
  Run Z [] X ρ s (TV X) (Pm σ o m x y) (λQ E=>aE (aA Z.prog Z.w) A (gM (Qd o) a b) Q E s):=by
 induction o with
 |add=>exact Jd m R ra rb
 |mul=>exact I8 m R ra rb
 |sub=>exact ui .Sub ra rb λU U U U=>qf R mU λQ E q=>sub_int q
 |fdiv=>exact ui .FloorDiv ra rb λi j t u=>Run.if λk Q E q=>floordiv_int (Int.ne_of_gt k.1) (by rw[Int.fdiv_eq_ediv_of_nonneg _ (tL k.1)];exact q _ ρ _ Go.tok R mU) (.inl (PyProof.noPylong_small (by have:=k.2;exact abC k)))
 |mod=>exact ui .Mod ra rb λi j t u=>Run.if λk Q E q=>PyProof.Rows.mod_int' (Int.ne_of_gt k) (by rw[Int.fmod_eq_emod_of_nonneg _ (tL k)];exact q _ ρ _ Go.tok R mU)
 |pow=>exact ui .Pow ra rb λi j t u=>Run.if λk=>by obtain⟨rfl,rfl⟩:=k;exact qf R mU λQ E q=>PyProof.Rows.pow_int_small (by decide) (by decide) (by decide) q
end
theorem nD  (h:place i n=aa j):j<n/\i.natAbs<2 ^ 62/\((0<=i/\j=i.toNat)\/(i<0/\0<=i+n/\j=(i+n).toNat)):=by
 unfold place at h
 split at h
 .exact fw h
 .rename_i hb
  have CE:=qJ (i:=i) (by simpa using hb)
  split at h
  .split at h
   .obtain rfl:=aj h;exact⟨by exact(by assumption),CE,.inl ⟨by exact(by assumption),rfl⟩⟩
   .exact fw h
  .split at h
   .obtain rfl:=aj h;exact⟨by exact abK (by assumption) (by assumption),CE,.inr ⟨by exact abJ (by assumption),by exact(by assumption),rfl⟩⟩
   .exact fw h
theorem seqIndex_of  (h:place i n=aa j):seqIndex? i n=aa j:=by
 refine pS (nD h) λa U b=>?_;have e:(if i<0 then i+n else i)=(j:Int):=by
  rcases b with⟨b,rfl⟩|⟨b,c,rfl⟩
  .rw[if_neg (Sz b)];exact abI b
  .rw[if_pos b];exact abH c
 unfold seqIndex?;rw[e,if_pos (by simp;exact a)];simp
section
variable {X:List aK}
theorem zI {l:aK}{t:Tok}{w:ax}(hl:s.heap.IsList l vs.toArray)(hp:place i vs.length=aa j)(hw:vs[j]?=aa w)(q:Q w s) :
  aE (aA Z.prog Z.w) A (gw (.ref l) (.int i t)) Q E s:=by
 refine pS (nD hp) λk1 k2 k3=>?_;rcases k3 with⟨b,rfl⟩|⟨b,c,rfl⟩
 .exact wpAny_getItem_list hl b (by lia) (by simpa using hw) q
 .exact wpAny_getItem_list_neg hl b (by simp;exact abG c) (by lia) (by simpa using hw) q
theorem Bh (h:idx l y=aa v)(rb:bu ρ X s.heap y b)(r:bt ρ X s.heap l vs):∃i t j w,y=.int i/\b=.int i t/\place i vs.length=aa j/\vs[j]?=aa w/\bu ρ X s.heap v w:=by
 induction y using V.casesOn with
 |int i =>obtain⟨t,rfl⟩:=rb;refine dC (mA.mp h) λj hj hv=>?_;refine dC (r.get hv) λw hw r'=>?_;exact⟨i,t,j,w,rfl,rfl,r.length▸hj,hw,r'⟩
 |_=>exact fw h
theorem Ke (R:Rel Z ρ X σ s.heap){o:Option O}(ho:σ[n]?=o)(h:DN o y=aa v)(ra:bu ρ X s.heap (.loc n) a)(rb:bu ρ X s.heap y b)(q:∀w t,bu ρ X s.heap v w->Q w {s with toks:=t}) :
  aE (aA Z.prog Z.w) A (gw a b) Q E s:=by
 obtain⟨p,hp,rfl⟩:=ra;induction o with
 |none=>exact fw h
 |some o =>
  have ob:=R.obj n p o hp ho;induction o with
  |list l =>obtain⟨_,vs,t1,q1⟩:=ob;obtain⟨i,t,j,w,rfl,rfl,hj,hw,r⟩:=Bh h rb q1;exact zI t1.isList hj hw (q w s.toks r)
  |cJ l =>
   cases y with
   |int i =>obtain⟨u,rfl⟩:=rb;obtain⟨_,lJ,hd,pr⟩:=ob;have:=fu.at (k:=i) pr;rw[<- mu,show j4 l i=aa v from h]at this;obtain⟨w,hw,r⟩:=this;exact wpAny_getItem_of (pU ..) hd.mapOf hw (q w _ r)
   |_=>exact fw h
  |dN l =>
   cases y with
   |str i =>obtain⟨u,rfl⟩:=rb;obtain⟨_,lJ,hd,pr⟩:=ob;have:=fu.at (k:=i) pr;rw[<- pF,show qC l i=aa v from h]at this;obtain⟨w,hw,r⟩:=this;exact wpAny_getItem_of (vC ..) hd.mapOf hw (q w _ r)
   |_=>exact fw h
  |inst l=>exact fw h
theorem Ha (R:Rel Z ρ X σ s.heap)(hz:10<Z.base.objs.size)(h:hU σ x y=aa v)(ra:bu ρ X s.heap x a)(rb:bu ρ X s.heap y b)(q:∀w t,bu ρ X s.heap v w->Q w {s with toks:=t}) :
  aE (aA Z.prog Z.w) A (gw a b) Q E s:=by
 induction x using V.casesOn with
 |lst l =>obtain⟨p,vs,rfl,o1,x1,t1,q1⟩:=ra;obtain⟨i,t,j,w,rfl,rfl,hj,hw,r⟩:=Bh h rb q1;exact zI t1.isList hj hw (q w s.toks r)
 |tup l =>obtain⟨p,vs,rfl,o1,x1,t1,q1⟩:=ra;obtain⟨i,t,j,w,rfl,rfl,hj,hw,r⟩:=Bh h rb q1;obtain⟨k1,k2,_⟩:=nD hj;exact getItem_tuple t1.isTup (by lia) (by lia) (seqIndex_of hj) (by simpa using hw) (q w s.toks r)
 |str z =>
  induction y using V.casesOn with
  |int i =>obtain⟨t,rfl⟩:=ra;obtain⟨u,rfl⟩:=rb;refine dC (mA.mp h) λj hj hv=>?_;obtain⟨c,hc,rfl⟩:=jm.mp hv;obtain⟨k1,k2,_⟩:=nD hj;refine getItem_str (c:=c) (by simp;exact abE k1 k2 (by assumption)) ?_ (q _ _ AJ);refine(?_:(seqIndex? _ z.cps.size).bind _=_);rw[seqIndex_of hj];exact hc
  |_=>exact fw h
 |loc n=>exact Ke R rfl h ra rb q
 |_=>exact fw h
theorem list_set {l:aK}{t:Tok}{w:ax}{Q:Unit->av->Prop}(hl:s.heap.PlainList l vs.toArray)(hp:place i vs.length=aa j)(h0:0<=i)
  (q:∀h',h'.PlainList l (vs.set j w).toArray->fv l s.heap h'->Q () {s with heap:=h'}) :
  aE (aA Z.prog Z.w) A (AP (.ref l) (.int i t) w) Q E s:=by
 refine pS (nD hp) λk1 k2 k3=>?_;have hj:j=i.toNat:=by rcases k3 with⟨_,e⟩|⟨b,_⟩<;>lia
 subst hj;obtain⟨n,e⟩:=hl;have hl:s.heap.IsList l vs.toArray:=⟨_,e,rfl,n,rfl⟩;unfold AP
 try with_reducible refine bC ?_
 first|refine aq (aW ?_)|skip
 refine aq (wpAny_sequenceKey hl.typeIs (by decide) ?_);refine aq (wpAny_callSpecial?_slot (name:=cU "__setitem__") hl.typeIs slot_list_setitem
  (yt slot_list_setitem hl.typeIs entry_list_setitem ?_ (args_list_setitem _ _ _)))
 refine(?_:aE _ _ (Builtin.List.listSubscript? (.int i t) >>= _) _ _ s);refine aq (wpAny_listSubscript_int (fitsIndex_of h0 (by lia)) ?_);have hb:i<2 ^ 63:=by lia
 clear k2 k3 hp;obtain⟨j,rfl⟩:=e8 h0;have hj:j<vs.toArray.size:=by simpa using k1
 have H6:vs.toArray[j]?=aa vs.toArray[j]:=Array.getElem?_eq_getElem hj;refine(?_:aE _ _ ((seqItemAt l j >>= λr=>pure (r.map (j,·))) >>= _) _ _ s);refine aq (aq (wpAny_seqItemAt e rfl (aW ?_)));rw[H6];refine(?_:aE _ _ (setSeqItemAt l j w >>= _) _ _ s);have acH:(s.heap.update l (iD (·.setIfInBounds j w))).PlainList l (vs.set j w).toArray:=by refine⟨n,?_⟩;rw[dQ _ e (by simp[iD,Obj.isFreed])];simp[iD]
 refine aq (wpAny_setSeqItemAt e rfl ?_);exact aq (aW (aW ⟨.none,rfl,aW (q _ acH (m4 ..))⟩))
theorem fu.store [DecidableEq K]{k:K}{w:ax}(r:bu ρ X h v w):∀ {l:List (K×V)} {ws:List (K×ax)},fu ρ X h l ws->(ws.map (·.1)).Nodup ->
  ∀(put:List (K×V)->List (K×V)),(put []=[(k,v)])->(∀j u r,put ((j,u)::r)=if j=k then(j,v)::r else(j,u)::put r)->fu ρ X h (put l) (pQ ws k w):=by
 intro l;induction l with
 |nil =>intro ws p _ put h0 _;subst p;rw[h0];refine(?_:fu ρ X h [(k,v)] (pQ [] k w));simp only[pQ,List.any_nil,cN,if_false,dU];exact bB w ⟨[],rfl,r,rfl⟩
 |cons c l ih =>
  intro ws p nd put h0 h1;obtain⟨j,u⟩:=c;(refine mI p λz t z1 a b=>?_;try clear p;subst z1);rw[h1];rw[eN,du]at nd;by_cases e:j=k
  .obtain rfl:=fc (e);rw[if_pos rfl];have:pQ ((k,z)::t) k w=(k,w)::t:=by simp only[pQ,eO,decide_true,BF,if_true,eN];rw[map_store_of_not_mem t k w nd.1]
   rw[this];exact bB w ⟨t,rfl,r,b⟩
  .rw[if_neg e];have:pQ ((j,z)::t) k w=(j,z)::pQ t k w:=by
    simp only[pQ,eO,e,decide_false,q5,eN,if_false]
    split<;>rfl
   rw[this];exact bB z ⟨_,rfl,a,ih b nd.2 put h0 h1⟩
theorem fu.length {K:Type}{h:bV}:∀ {l:List (K×V)} {ws:List (K×ax)},fu ρ X h l ws->l.length=ws.length
 |[],_,r=>by subst r;rfl
 |(_,_)::l,_,r=>by obtain⟨w,t,rfl,_,b⟩:=r;exact congrArg (·+1) (fu.length b)
theorem IX {w:ax}(R:Rel Z ρ X σ s.heap){o:Option O}(ho:σ[n]?=o)(h:IY σ n o y v=aa cD)(ra:bu ρ X s.heap (.loc n) a)(rb:bu ρ X s.heap y b)(nk:bu ρ X s.heap v w){Q:Unit->av->Prop}
  (q:∀h' t,Rel Z ρ X cD h'->dH [] ρ s.heap ρ h'->Q () {s with heap:=h',toks:=t}):aE (aA Z.prog Z.w) A (AP a b w) Q E s:=by
 obtain⟨p,hp,rfl⟩:=ra;have mv:∀ {h'},dH [] ρ s.heap ρ h'->bu ρ X h' v w:=λg=>bu.mono g (λU q=>nomatch q) (λU q=>.inl q) _ _ nk;have ite:∀ {α:Type} {c:Prop} [Decidable c] {o:Option α} {z:α},(if c then o else ae)=aa z->c/\o=aa z:=λ{α c d o z} e=>by cases d with|isTrue k=>exact⟨k,e⟩|isFalse _=>exact fw e
 induction o with
 |none=>exact fw h
 |some o =>
  have ob:=R.obj n p o hp ho;induction o with
  |list l =>
   cases y with
   |int i =>obtain⟨u,rfl⟩:=rb;obtain⟨hd,vs,t1,q1⟩:=ob;obtain⟨h0,h⟩:=ite h;obtain⟨j,hj,rfl⟩:=jm.mp h;refine list_set t1 (q1.length▸hj) h0 λh' t2 sb=>?_;have:=R.set (o:=.list _) hp (.head _) sb λg=>⟨hd,_,t2,(bt.mono g (λU q=>nomatch q) (λU q=>.inl q) _ _ q1).set (mv g)⟩;exact q h' s.toks this.1 this.2
   |_=>exact fw h
  |cJ l =>
   cases y with
   |int i =>
    obtain⟨u,rfl⟩:=rb;obtain⟨hd,lJ,t1,q1⟩:=ob;obtain⟨hlen,h⟩:=ite h;obtain rfl:=aj h;have nd:(lJ.map (·.1)).Nodup:=by obtain⟨_,_,_,_,_,_,_,_,n⟩:=t1;exact n
    refine wpAny_setItem_pairs (hsz:=by rw[<- q1.length];exact dj (bK hlen iy)) (pU ..) t1 λh' t2 sb=>?_;have:=R.set (o:=.cJ _) hp (.head _) sb λg=>⟨hd,_,t2,fu.store (mv g) (fu.mono g (λU q=>nomatch q) (λU q=>.inl q) _ _ q1) nd (λl=>nU l _ v) rfl λU U U=>rfl⟩;exact q h' _ this.1 this.2
   |_=>exact fw h
  |dN l =>
   cases y with
   |str i =>
    obtain⟨u,rfl⟩:=rb;obtain⟨hd,lJ,t1,q1⟩:=ob;obtain⟨hlen,h⟩:=ite h;obtain rfl:=aj h;have nd:(lJ.map (·.1)).Nodup:=by obtain⟨_,_,_,_,_,_,_,_,n⟩:=t1;exact n
    refine wpAny_setItem_pairs (hsz:=by rw[<- q1.length];exact dj (bK hlen iy)) (vC ..) t1 λh' t2 sb=>?_;have:=R.set (o:=.dN _) hp (.head _) sb λg=>⟨hd,_,t2,fu.store (mv g) (fu.mono g (λU q=>nomatch q) (λU q=>.inl q) _ _ q1) nd (λl=>lQ l _ v) rfl λU U U=>rfl⟩;exact q h' _ this.1 this.2
   |_=>exact fw h
  |inst l=>exact fw h
theorem xO {w:ax}(R:Rel Z ρ X σ s.heap)(h:o8 σ x y v=aa cD)(ra:bu ρ X s.heap x a)(rb:bu ρ X s.heap y b)(nk:bu ρ X s.heap v w){Q:Unit->av->Prop}
  (q:∀h' t,Rel Z ρ X cD h'->dH [] ρ s.heap ρ h'->Q () {s with heap:=h',toks:=t}):aE (aA Z.prog Z.w) A (AP a b w) Q E s:=by
 induction x using V.casesOn with
 |loc n=>exact IX R rfl h ra rb nk q
 |_=>exact fw h
end
theorem JT {x y:Str}{t:Tok}:Value.isStr (.str x t) y=(x==y):=rfl
theorem gY.len {ρ:List Pl}{X:List aK}{h:bV}:∀ {fs:List Str} {l:List V} {es:List fZ},gY ρ X h fs l es->l.length=es.length/\l.length<=fs.length
 |_,[],_,r=>by subst r;simp
 |[],_::_,_,r=>by exact r.elim
 |f::fs,v::l,es,r=>by(refine MG r λhash t w q z1 a b=>?_;try clear r;subst z1);have:=b.len;simp;exact this
theorem gY.noRef {ρ:List Pl}{X:List aK}{h:bV}:∀ {fs:List Str} {l:List V} {es:List fZ},gY ρ X h fs l es->es.any (·.refKey)=ag
 |_,[],_,r=>by subst r;rfl
 |[],_::_,_,r=>by exact r.elim
 |f::fs,v::l,es,r=>by(refine MG r λhash t w q z1 a b=>?_;try clear r;subst z1);rw[eO,b.noRef];rfl
theorem gY.get {ρ:List Pl}{X:List aK}{h:bV}:∀ {fs:List Str} {l:List V} {es:List fZ} {i:Nat} {x:Str} {v:V},fs.Nodup->gY ρ X h fs l es->fs[i]?=aa x->l[i]?=aa v ->
  ∃w,(es.find? (·.key.isStr x)).map (·.val)=aa w/\bu ρ X h v w
 |_,[],_,_,_,_,_,r,_,e=>by simp at e
 |[],_::_,_,_,_,_,_,r,_,_=>by exact r.elim
 |f::fs,v::l,es,0,x,u,nd,r,e1,e2=>by(refine MG r λhash t w q z1 a b=>?_;try clear r;subst z1);simp only[ah,dY]at e1 e2;subst e1 e2;refine⟨w,?_,a⟩;rw[i6];simp[JT]
 |f::fs,v::l,es,i+1,x,u,nd,r,e1,e2=>by
  (refine MG r λhash t w q z1 a b=>?_;try clear r;subst z1);simp only[ai]at e1 e2;rw[du]at nd;refine dC (b.get nd.2 e1 e2) λw' h1 h2=>?_;refine⟨w',?_,h2⟩;have oO:(f==x)=ag:=by rw[beq_eq_false_iff_ne];exact λz=>nd.1 (z▸aJ e1)
  rw[i6];simp only[JT,oO];exact h1
theorem gY.miss {ρ:List Pl}{X:List aK}{h:bV}:∀ {fs:List Str} {l:List V} {es:List fZ} {i:Nat} {x:Str},fs.Nodup->gY ρ X h fs l es->fs[i]?=aa x->l.length<=i ->
  es.any (·.key.isStr x)=ag
 |_,[],_,_,_,_,r,_,_=>by subst r;rfl
 |[],_::_,_,_,_,_,r,_,_=>by exact r.elim
 |f::fs,v::l,es,0,x,nd,r,e1,e2=>by simp at e2
 |f::fs,v::l,es,i+1,x,nd,r,e1,e2=>by
  (refine MG r λhash t w q z1 a b=>?_;try clear r;subst z1);simp only[ai]at e1;rw[du]at nd;have oO:(f==x)=ag:=by rw[beq_eq_false_iff_ne];exact λz=>nd.1 (z▸aJ e1)
  rw[eO,b.miss nd.2 e1 (by simpa using e2)];simp only[JT,oO,q5]
theorem gY.set {ρ:List Pl}{X:List aK}{h:bV}{k:Int}{kv:ax}:∀ {fs:List Str} {l:List V} {es:List fZ} {i:Nat} {x:Str} {v:V} {w:ax},fs.Nodup->gY ρ X h fs l es->fs[i]?=aa x->i<l.length->bu ρ X h v w ->
  gY ρ X h fs (l.set i v) (putL x k kv w es)/\es.any (·.key.isStr x)=af
 |_,[],_,_,_,_,_,_,r,_,e,_=>by simp at e
 |[],_::_,_,_,_,_,_,_,r,_,_,_=>by exact r.elim
 |f::fs,v::l,es,0,x,u,z,nd,r,e1,e2,q=>by obtain⟨hash,t,w,r,rfl,a,b⟩:=r;simp only[ah,dY]at e1;subst e1;refine⟨?_,by simp[JT]⟩;rw[aF,putL];simp only[JT,beq_self_eq_true,if_true];exact bB hash ⟨t,z,r,rfl,q,b⟩
 |f::fs,v::l,es,i+1,x,u,z,nd,r,e1,e2,q=>by
  obtain⟨hash,t,w,r,rfl,a,b⟩:=r;simp only[ai]at e1;rw[du]at nd;have oO:(f==x)=ag:=by rw[beq_eq_false_iff_ne];exact λz=>nd.1 (z▸aJ e1)
  obtain⟨h1,h2⟩:=b.set (k:=k) (kv:=kv) nd.2 e1 (by simpa using e2) q;refine⟨?_,by rw[eO,h2,Bool.or_true]⟩;rw[aG,putL];simp only[JT,oO,cN,if_false];exact bB hash ⟨t,w,_,rfl,a,h1⟩
theorem gY.add {ρ:List Pl}{X:List aK}{h:bV}{k:Int}{t:Nat}:∀ {fs:List Str} {l:List V} {es:List fZ} {x:Str} {v:V} {w:ax},fs.Nodup->gY ρ X h fs l es->fs[l.length]?=aa x->bu ρ X h v w ->
  gY ρ X h fs (l++[v]) (putL x k (.str x t) w es)
 |[],[],_,_,_,_,_,_,e,_=>by simp at e
 |f::fs,[],es,x,v,w,nd,r,e,q=>by subst r;simp only[aD,ah,dY]at e;subst e;rw[dU,putL];exact⟨k,t,w,[],rfl,q,rfl⟩
 |[],_::_,_,_,_,_,_,r,_,_=>by exact r.elim
 |f::fs,v::l,es,x,u,z,nd,r,e1,q=>by
  obtain⟨hash,t,w,r,rfl,a,b⟩:=r;simp only[az,ai]at e1;rw[du]at nd;have oO:(f==x)=ag:=by rw[beq_eq_false_iff_ne];exact λz=>nd.1 (z▸aJ e1)
  rw[eJ,putL];simp only[JT,oO,cN,if_false];exact bB hash ⟨t,w,_,rfl,a,b.add nd.2 e1 q⟩
theorem je:fields.Nodup:=by decide +kernel
structure CW (Z:ng):Prop where
 Qj:Z.K.In Z.base
 ga:yw Z.K (.ref Z.C) "__getattribute__"=aa (aa (.builtin "object.__getattribute__"))
 sa:yw Z.K (.ref Z.C) "__setattr__"=aa (aa (.builtin "object.__setattr__"))
 po:plainOver Z.K Z.C=af
 hd:hasDictIn Z.K Z.C=af
 fld:∀x∈fields,yw Z.K (.ref Z.C) x=aa ae
section
variable {X:List aK}
theorem yX {w:ax}(r:bu ρ X s.heap v w):handedIn w=af:=by
 induction v using V.casesOn
 .subst r;rfl
 .subst r;rfl
 .obtain⟨t,rfl⟩:=r;rfl
 .obtain⟨t,rfl⟩:=r;rfl
 ·(refine Ec r λp vs z1 U=>?_;try clear r;subst z1);rfl
 ·(refine Ec r λp vs z1 U=>?_;try clear r;subst z1);rfl
 ·(refine dC r λp U z1=>?_;try clear r;subst z1);rfl
theorem HP (R:Rel Z ρ X σ s.heap)(K:CW Z){f:Nat}{ex:Bool}(hf:fields[f]?=aa name)(h:yg σ x f=aa v)(ra:bu ρ X s.heap x a)
  (q:∀w t,bu ρ X s.heap v w->Q w {s with toks:=t}):aE (aA Z.prog Z.w) A (getAttr a name ex) Q E s:=by
 induction x using V.casesOn with
 |loc n =>
  obtain⟨p,hp,rfl⟩:=ra;change KL σ[n]? f=aa v at h;induction hl:σ[n]? with
  |none=>rw[hl]at h;exact fw h
  |some o =>
   rw[hl]at h;induction o with
   |inst l =>
    refine MH (R.obj _ p _ hp hl) λdx es n d e1 e2 fr=>?_;refine dC (fr.get je hf h) λw hw r=>?_;have hg:getL name es=aa (aa w):=by unfold getL;refine dC (jm.mp hw) λe he hv=>?_;rw[he];show aa (aa e.val)=_;rw[hv]
    exact get_value (K.Qj.keeps R.keep) (od:=aa (dictOf es n)) ⟨e1,rfl,rfl,e2⟩ K.ga (findObj_own K.hd (K.fld name (aJ hf)) rfl (by rw[lookIn_dict];exact hg)) (yX r) (q w _ r)
   |_=>exact fw h
 |_=>exact fw h
theorem zd (R:Rel Z ρ X σ s.heap)(K:CW Z){f:Nat}{w:ax}(hf:fields[f]?=aa name)(h:kD σ x f v=aa cD)(ra:bu ρ X s.heap x a)(nk:bu ρ X s.heap v w){Q:Unit->av->Prop}
  (q:∀h' t,Rel Z ρ X cD h'->dH [] ρ s.heap ρ h'->Q () {s with heap:=h',toks:=t}):aE (aA Z.prog Z.w) A (wu a name w) Q E s:=by
 induction x using V.casesOn with
 |loc nn =>
  (refine dC ra λp hp z1=>?_;try clear ra;subst z1);change I1 σ nn σ[nn]? f v=aa cD at h;induction hl:σ[nn]? with
  |none=>rw[hl]at h;exact fw h
  |some o =>
   rw[hl]at h;induction o with
   |inst l =>
    change (if f<l.length then aa (σ.set nn (.inst (l.set f v)))else if f=l.length then aa (σ.set nn (.inst (l++[v])))else ae)=aa cD at h;refine MH (R.obj _ p _ hp hl) λdx es n d e1 e2 fr=>?_;have DJ:dx∈p.lW:=by simp[Pl.lW,d]
    have oO:dx≠p.a:=λz=>R.self p (aJ hp) (by rw[d,z]);have hn:=aJ hf;have L:=fr.len;have Zu:es.any (·.refKey)=ag:=fr.noRef;have fin:∀(l':List V) (t:Nat),(∀h':bV,dH [] ρ s.heap ρ h'->gY ρ X h' fields l' (putL name (dq Z.w.params name) (.str name t) w es)) ->
      Rel Z ρ X (σ.set nn (.inst l')) (s.heap.update dx (wc name (dq Z.w.params name) (.str name t) w))/\dH [] ρ s.heap ρ (s.heap.update dx (wc name (dq Z.w.params name) (.str name t) w)):=by
     intro l' t uT;have eo:=putName_dict name (dq Z.w.params name) (.str name t) w es n;have Ap:(s.heap.update dx (wc name (dq Z.w.params name) (.str name t) w)).get? dx=aa (dictOf (putL name (dq Z.w.params name) (.str name t) w es) (putN name es n)):=by rw[dQ _ e2 (by rw[eo];rfl),eo]
     refine R.set hp DJ (m4 ..) λg=>⟨dx,_,_,d,?_,Ap,uT _ g⟩;rw[el _ _ oO];exact e1
    have go:∀(l':List V),cD=σ.set nn (.inst l')->(∀(t:Nat) (h':bV),dH [] ρ s.heap ρ h'->gY ρ X h' fields l' (putL name (dq Z.w.params name) (.str name t) w es)) ->
      (∀t,(putL name (dq Z.w.params name) (.str name t) w es).length<=1000) ->
      aE (aA Z.prog Z.w) A (wu (.ref p.a) name w) Q E s:=by
     intro l' Cy uT hlen;have Kh:=K.Qj.keeps R.keep;have I:InstAt s.heap p.a {cls:=.ref Z.C,dict:=aa dx,data:=.plain} Z.C (aa (dictOf es n)):=⟨e1,rfl,rfl,e2⟩;have ht:takerIn Z.K Z.C name=aa ae:=by unfold takerIn;rw[K.fld name hn];rfl
     refine set_plain Kh I K.sa (osa_open (s:={s with toks:=s.toks+1}) Kh I K.po ht λb=>?_);refine dC (any_some K.hd) λcd hc Ap=>?_;refine aq (aW (aq (aq (wpAny_loadPart e1 (aq ((looks_clsIn (M:=aA Z.prog Z.w) Kh hc) _ _ _ _ (λU U e=>e) ?_))))));rw[Ap];refine aW (a:=aa dx) (aq (aW (aq ?_)));unfold nsSet;refine aq (aq (wpAny_askSetting (aW (aq (wpAny_mkText (aq (wpAny_loadPart e2 ?_)))))));have c:(!es.toArray.any (·.key.isStr name)&&es.toArray.any (·.refKey))=ag:=by rw[<- Array.any_toList,<- Array.any_toList];refine(?_:(!es.any (·.key.isStr name)&&es.any (·.refKey))=ag);rw[Zu,Bool.and_false]
     dsimp only;rw[aRefKeyMayBeTheName_at,c];refine wpAny_updatePart e2 ?_;obtain⟨r1,r2⟩:=fin l' (s.toks+1) (uT _);have eo:=putName_dict name (dq Z.w.params name) (.str name (s.toks+1)) w es n;have D':(s.heap.update dx (wc name (dq Z.w.params name) (.str name (s.toks+1)) w)).get? dx=aa (dictOf (putL name (dq Z.w.params name) (.str name (s.toks+1)) w es) (putN name es n)):=by rw[dQ _ e2 (by rw[eo];rfl),eo]
     refine aq (wpAny_lookBehind D' (pastItsLine_dict (by rw[b9,jI];have:=hlen (s.toks+1);exact abF this)) ?_);exact aW (q _ _ (by rw[Cy];exact r1) r2)
    have f15:fields.length=15:=rfl;by_cases mX:f<l.length
    .replace h:=(if_pos mX).symm.trans h;obtain rfl:=aj h;refine go _ rfl (λt h' g=>((gY.mono g (λU q=>nomatch q) (λU q=>.inl q) _ _ _ fr).set je hf mX (bu.mono g (λU q=>nomatch q) (λU q=>.inl q) _ _ nk)).1) λt=>?_;have:=(fr.set (k:=dq Z.w.params name) (kv:=.str name t) je hf mX nk).1.len;exact Rz f15 this
    .replace h:=(if_neg mX).symm.trans h;by_cases mX:f=l.length
     .replace h:=(if_pos mX).symm.trans h;obtain rfl:=aj h;subst mX;refine go _ rfl (λt h' g=>(gY.mono g (λU q=>nomatch q) (λU q=>.inl q) _ _ _ fr).add je hf (bu.mono g (λU q=>nomatch q) (λU q=>.inl q) _ _ nk)) λt=>?_;have:=(fr.add (k:=dq Z.w.params name) (t:=t) je hf nk).len;exact Rz f15 this
     .exact fw ((if_neg mX).symm.trans h)
   |_=>exact fw h
 |_=>exact fw h
end
end Internal
end
noncomputable section
open PySem PySem.W PyProof.Rows PySem.SeqAt PySem.Builtin PySem.Builtin.Str
namespace Internal
variable {W:(ax->av->Prop)->(ax->av->Prop)->Prop}{f:Array ax->Array ax}{ws:List ax}{sep:Str}{sl:aK}{n:Nat}{i:Int}{A:mR}{y v x:V}{t:Tok}{l:List V}{σ:bo}{Z:ng}{b a:ax}{ρ:List Pl}{E Q:ax->av->Prop}{s:av}
section
variable {X:List aK}
theorem I6 (up:Bool){p:aK}{vs:List ax}(R:Rel Z ρ X σ s.heap)(hl:s.heap.IsList p vs.toArray)(q:bt ρ X s.heap l vs)
  (hs:if up then∃t,s.heap.IsSliceOf sl .none (.int i t) .none else∃t,s.heap.IsSliceOf sl (.int i t) .none .none)(k:0<=i/\big i=af/\l.length<lim) :
  Run Z [] X ρ s (TV X) (gQ ag (cut up i l) σ) (λQ E=>aE (aA Z.prog Z.w) A (gw (.ref p) (.ref sl)) Q E s):=by
 have sz:vs.toArray.size<=fz:=by rw[b9,<- q.length];exact dj (bK k.2.2 iy)
 induction up with
 |false =>obtain⟨t,hs⟩:=hs;have e:=slicePick_from' vs.toArray i.toNat;rw[gi k.1]at e;exact nu R q.drop λU Q E k=>D7 (lo:=aa i) (hi:=ae) (st:=ae) hl hs (.int _ _) .none .none (by simp) (by rw[e];simpa using k) (by exact sz)
 |true =>obtain⟨t,hs⟩:=hs;have e:=slicePick_upto' vs.toArray i.toNat;rw[gi k.1]at e;exact nu R q.take λU Q E k=>D7 (lo:=ae) (hi:=aa i) (st:=ae) hl hs .none (.int _ _) .none (by simp) (by rw[e];simpa using k) (by exact sz)
theorem I5 (up:Bool)(R:Rel Z ρ X σ s.heap)(ra:bu ρ X s.heap (.tup l) a)
  (hs:if up then∃t,s.heap.IsSliceOf sl .none (.int i t) .none else∃t,s.heap.IsSliceOf sl (.int i t) .none .none)(k:0<=i/\i.toNat<=l.length/\l.length<lim) :
  Run Z [] X ρ s (TV X) (.ok (.tup (cut up i l)) σ) (λQ E=>aE (aA Z.prog Z.w) A (gw a (.ref sl)) Q E s):=by
 have Qb:=ra;obtain⟨p,vs,rfl,o1,x1,t1,q1⟩:=ra;have l1:=q1.length;obtain⟨i',rfl⟩:=e8 k.1;have k2:i'<=vs.length:=l1▸k.2.1;have k3:vs.length<=fz:=l1▸dj (bK k.2.2 iy);intro Q E q;induction up with
 |false =>obtain⟨t,hs⟩:=hs;exact Df (a:=i') t1.isTup hs k2 (λe=>q _ ρ s .refl R (by subst e;exact Qb)) (nr R q1.drop (λQ E q=>q) Q E q) (by exact k3)
 |true =>obtain⟨t,hs⟩:=hs;refine Dg (a:=i') t1.isTup hs k2 (λe=>q _ ρ s .refl R ?_) (nr R q1.take (λQ E q=>q) Q E q) (by exact k3);rw[show cut af (i':Int) l=l from BD (abB l1 e)];exact Qb
theorem B7 (up:Bool)(R:Rel Z ρ X σ s.heap)(ra:bu ρ X s.heap x a)
  (hs:if up then∃t,s.heap.IsSliceOf sl .none (.int i t) .none else∃t,s.heap.IsSliceOf sl (.int i t) .none .none) :
  Run Z [] X ρ s (TV X) (N1 up σ x i) (λQ E=>aE (aA Z.prog Z.w) A (gw a (.ref sl)) Q E s):=by
 have key:Run Z [] X ρ s (TV X) (IV up σ i (Ak σ x)) (λQ E=>aE (aA Z.prog Z.w) A (gw a (.ref sl)) Q E s):=by
  induction h:Ak σ x with
  |none=>trivial
  |some l =>obtain⟨p,vs,rfl,t1,q1⟩:=uG R h ra;exact Run.if λk=>I6 up R t1.isList q1 hs k
 induction x using V.casesOn with
 |tup l=>exact Run.if λk=>I5 up R ra hs k
 |_=>exact key
theorem I4  (R:Rel Z ρ X σ s.heap)(ra:bu ρ X s.heap x a)(hs:s.heap.IsSliceOf sl (.int i t) .none .none) :
  Run Z [] X ρ s (TV X) (xN σ x (.int i)) (λQ E=>aE (aA Z.prog Z.w) A (gw a (.ref sl)) Q E s):=B7 ag R ra ⟨t,hs⟩
theorem I7  (R:Rel Z ρ X σ s.heap)(ra:bu ρ X s.heap x a)(hs:s.heap.IsSliceOf sl .none (.int i t) .none) :
  Run Z [] X ρ s (TV X) (vE σ x (.int i)) (λQ E=>aE (aA Z.prog Z.w) A (gw a (.ref sl)) Q E s):=B7 af R ra ⟨t,hs⟩
theorem Gq (R:Rel Z ρ X σ s.heap)(h:items σ x=aa l)(hl:l.length<lim)(ra:bu ρ X s.heap x a)(q:∀t t',Q (.int l.length t) {s with toks:=t'}) :
  aE (aA Z.prog Z.w) A (call (.builtin "len") [a]) Q E s:=by
 have fin:∀ {p:aK} {vs:List ax},s.heap.IsList p vs.toArray->bt ρ X s.heap l vs->aE (aA Z.prog Z.w) A (call (.builtin "len") [.ref p]) Q E s:=λ{p vs} t r =>
  PySem.Calls.call_len_list t (by have hL:lim=100000:=rfl;rw[b9,<- r.length];lia) (by rw[b9,<- r.length];exact q _ _)
 induction x using V.casesOn with
 |lst k =>obtain rfl:=aj h;obtain⟨p,vs,rfl,o1,x1,t1,q1⟩:=ra;exact fin t1.isList q1
 |tup k =>obtain rfl:=aj h;obtain⟨p,vs,rfl,o1,x1,⟨n,e⟩,q1⟩:=ra;exact len_tuple ⟨_,e,rfl,n,rfl⟩ (by have hL:lim=100000:=rfl;rw[b9,<- q1.length];lia) (by rw[b9,<- q1.length];exact q _ _)
 |loc n =>obtain⟨p,vs,rfl,t1,q1⟩:=uG (x:=.loc n) R h ra;exact fin t1.isList q1
 |_=>exact fw h
theorem HS   (q:∀u tk,Q (.int i.natAbs u) {s with toks:=tk}):aE (aA Z.prog Z.w) A (call (.builtin "abs") [.int i t]) Q E s:=by
 refine call_abs_int λu tk=>?_;have:(if i<0 then -i else i)=(i.natAbs:Int):=by split<;>lia
 rw[this];exact q u tk
theorem AM (h:nj x=aa v)(ra:bu ρ X s.heap x a)(q:∀w t,bu ρ X s.heap v w->Q w {s with toks:=t}):aE (aA Z.prog Z.w) A (call (.type "int") [a]) Q E s:=by
 induction x using V.casesOn with
 |int i =>obtain rfl:=aj h;obtain⟨t,rfl⟩:=ra;exact call_int_int (q _ s.toks mU)
 |bool b =>obtain rfl:=aj h;subst ra;exact call_int_bool (q _ _ mU)
 |str x =>
  obtain⟨t,rfl⟩:=ra;change (if x.length<=640 then(PySem.intText? x).map V.int else ae)=aa v at h;by_cases hl:x.length<=640
  .rw[if_pos hl]at h;(refine dC (jm.mp h) λn hn z1=>?_;subst z1);exact KIN.call_text hn hl (q _ _ mU)
  .rw[if_neg hl]at h;exact fw h
 |_=>exact fw h
theorem JQ {P:Nat->Bool->Prop}:∀ {t:Nat} {a b c r:Bool},GF t a b c=aa r->P 0 a->P 1 b->P 2 c->P t r
 |0,_,_,_,_,h,p,_,_=>aj h▸p
 |1,_,_,_,_,h,_,p,_=>aj h▸p
 |2,_,_,_,_,h,_,_,p=>aj h▸p
 |_+3,_,_,_,_,h,_,_,_=>nomatch h
def adf (Z:ng)(A:mR)(E:ax->av->Prop)(s:av)(Q:ax->av->Prop)(a:ax)(t:Nat)(r:Bool):Prop:=(∀t,Q (.bool r) {s with toks:=t})->aE (aA Z.prog Z.w) A (call (.builtin "isinstance") [a,.type (if t=0 then "int" else if t=1 then "bool" else "str")]) Q E s
theorem GD {t:Nat}{r:Bool}(h:Bc t x=aa r)(ra:bu ρ X s.heap x a)(q:∀t,Q (.bool r) {s with toks:=t}) :
  aE (aA Z.prog Z.w) A (call (.builtin "isinstance") [a,.type (if t=0 then "int" else if t=1 then "bool" else "str")]) Q E s:=by
 refine(?_:adf Z A E s Q a t r) q;induction x using V.casesOn with
 |int i=>obtain⟨u,rfl⟩:=ra;exact JQ h (λq=>IsiPair.int_int (q s.toks)) (λq=>IsiPair.int_bool (q _)) (λq=>IsiPair.int_str (q _))
 |bool i=>subst ra;exact JQ h (λq=>IsiPair.bool_int (q s.toks)) (λq=>IsiPair.bool_bool (q s.toks)) (λq=>IsiPair.bool_str (q _))
 |none=>subst ra;exact JQ h (λq=>IsiPair.NoneType_int (q _)) (λq=>IsiPair.NoneType_bool (q _)) (λq=>IsiPair.NoneType_str (q _))
 |str i=>obtain⟨u,rfl⟩:=ra;exact JQ h (λq=>IsiPair.str_int (q _)) (λq=>IsiPair.str_bool (q _)) (λq=>IsiPair.str_str (q s.toks))
 |_=>exact fw h
theorem qg {m:Bool}{a:aK}(R:Rel Z ρ X σ s.heap)(r:bt ρ X s.heap l ws)(ha:s.heap.objs.size<=a)
  (k:l.length<lim->∀Q E,(∀h' t,Ext s.heap h'->h'.PlainList a ws.toArray->Q (.ref a) {s with heap:=h',toks:=t})->W Q E):Run Z [] X ρ s (TV X) (gQ m l σ) W:=by
 by_cases hl:l.length<lim
 .have key:∀(h':bV) (t:Nat),Ext s.heap h'->h'.PlainList a ws.toArray->Run Z [] X ρ s (TV X) (gQ m l σ) (λQ E=>Q (.ref a) {s with heap:=h',toks:=t}) :=
   λh' t x pl=>wy R r x ha pl λQ E q=>q
  unfold gQ at key ⊢;rw[if_pos hl]at key ⊢;induction m with
  |true =>simp only[if_true]at key ⊢;exact λQ E q=>k hl Q E λh' t x pl=>key h' t x pl Q E q
  |false =>simp only[cN,if_false]at key ⊢;exact λQ E q=>k hl Q E λh' t x pl=>key h' t x pl Q E q
 .unfold gQ;rw[if_neg hl];trivial
theorem AS (R:Rel Z ρ X σ s.heap)(ra:bu ρ X s.heap (.tup l) a):Run Z [] X ρ s (TV X) (gQ af l σ) (λQ E=>aE (aA Z.prog Z.w) A (call (.type "list") [a]) Q E s):=by have pd:=iy;(refine wL ra λp vs z1 o1 x1 z2 q1=>?_;try clear ra;subst z1;obtain⟨n,e⟩:=z2);have l1:=q1.length;refine qg R q1 (aO _) λhl Q E k=>call_list_seq p (.inr rfl) e rfl rfl (λh' c' hk hn=>?_) (by simp;exact abA pd l1 hl);exact k h' s.toks ⟨dj (bx hn),hk⟩ ⟨c',hn⟩
theorem kn   (h:ju v sep=aa l):∃x,v=.str x/\(x.length<lim/\sep.length=1/\(gm x sep).length<lim)/\aa ((gm x sep).map V.str)=aa l:=by
 induction v using V.casesOn with
 |str x =>
  change (if x.length<lim/\sep.length=1/\(gm x sep).length<lim then aa ((gm x sep).map V.str)else ae)=aa l at h;by_cases hc:x.length<lim/\sep.length=1/\(gm x sep).length<lim
  .rw[if_pos hc]at h;exact⟨x,rfl,hc,h⟩
  .rw[if_neg hc]at h;exact fw h
 |_=>exact fw h
theorem Dt   (R:Rel Z ρ X σ s.heap)(h:ju x sep=aa l)(ra:bu ρ X s.heap x a) :
  Run Z [] X ρ s (TV X) (gQ ag l σ) (λQ E=>aE (aA Z.prog Z.w) A (call (.builtin "str.split") [a,.str sep t]) Q E s):=by
 have pd:=iy;obtain⟨x,rfl,k,e0⟩:=kn h
 .obtain⟨u,rfl⟩:=ra
  .have h:=e0;obtain rfl:=aj h;have hy:(sep.length==0)=ag:=by rw[k.2.1];rfl
   have vs:∀(l:List Str) (tk:Nat),bt ρ X s.heap (l.map .str) (strsFrom tk l):=by
    intro l;induction l with
    |nil=>intro tk;exact .nil
    |cons z l ih=>intro tk;exact .cons AJ (ih _)
   cases h1:(decide (x.length<sep.length)||decide (yn x<yn sep))
   .cases hf:(occurrences x sep 0 x.length (x.length+1)).isEmpty
    .have e:gm x sep=partsBetween x (occurrences x sep 0 x.length (x.length+1)) sep.length:=(if_neg (ne_true_of_eq_false h1)).trans (if_neg (ne_true_of_eq_false hf));rw[e]at k ⊢;refine qg (ws:=strsFrom s.toks (partsBetween x (occurrences x sep 0 x.length (x.length+1)) sep.length)) R (vs _ _) (aO _) λU Q E q=>?_;exact fy oC (vB _ _ _) vI (tN _ _) (meets_str_split_sep x sep u t h1 hy hf (abz pd k) (aby pd k)) (q _ _ (Ext.push _) ⟨0,cE _ rfl⟩)
    .have e:gm x sep=[x]:=(if_neg (ne_true_of_eq_false h1)).trans (if_pos hf);rw[e];refine qg (ws:=[.str x u]) R (.cons AJ .nil) (aO _) λU Q E q=>?_;exact fy oC (vB _ _ _) vI (tN _ _) (meets_str_split_not_found x sep u t h1 hy hf) (q _ s.toks (Ext.push _) ⟨0,cE _ rfl⟩)
   .have e:gm x sep=[x]:=if_pos h1;rw[e];refine qg (ws:=[.str x u]) R (.cons AJ .nil) (aO _) λU Q E q=>?_;exact fy oC (vB _ _ _) vI (tN _ _) (meets_str_split_cannot_occur x sep u t h1) (q _ s.toks (Ext.push _) ⟨0,cE _ rfl⟩)
theorem lq {p:Pl}{l':List V}{vs:List ax}{k:Nat}(R:Rel Z ρ X σ s.heap)(hp:ρ[n]?=aa p)(hl:σ[n]?=aa (.list l))(e:s.heap.get? p.a=aa {cls:=.type "list",data:=.seq vs.toArray k})
  (hf:f vs.toArray=ws.toArray)(hv:∀h',dH [] ρ s.heap ρ h'->bt ρ X h' l' ws):Rel Z ρ X (σ.set n (.list l')) (s.heap.update p.a (iD f))/\dH [] ρ s.heap ρ (s.heap.update p.a (iD f)):=by
 obtain⟨hd,_,_,_⟩:=R.obj n p _ hp hl;refine R.set (o:=.list l') hp (.head _) (m4 ..) λg=>⟨hd,ws,?_,hv _ g⟩;refine⟨if(f vs.toArray).size==vs.toArray.size then k else k+1,?_⟩;rw[dQ _ e (by simp[iD,Obj.isFreed])];simp only[iD,hf]
theorem HQ  {w:ax}(R:Rel Z ρ X σ s.heap)(hl:σ[n]?=aa (.list l))(hlen:l.length<lim)(ra:bu ρ X s.heap (.loc n) a)(nk:bu ρ X s.heap v w)
  (q:∀h',Rel Z ρ X (σ.set n (.list (l++[v]))) h'->dH [] ρ s.heap ρ h'->Q .none {s with heap:=h'}):aE (aA Z.prog Z.w) A (call (.builtin "list.append") [a,w]) Q E s:=by
 have pd:=iy;(refine dC ra λp hp z1=>?_;try clear ra;subst z1);obtain⟨_,vs,⟨k,e⟩,q1⟩:=R.obj n p _ hp hl;have l1:=q1.length;have:=lq (f:=λz=>z.push w) (ws:=vs++[w]) (l':=l++[v]) R hp hl e (by simp) λh' g=>(bt.mono g (λU q=>nomatch q) (λU q=>.inl q) _ _ q1).append (.cons (bu.mono g (λU q=>nomatch q) (λU q=>.inl q) _ _ nk) .nil);exact fy F.slot_list_append ⟨_,e,rfl⟩ F.entry_list_append (F.args_list_append_2 _ _) (list_append p.a vs.toArray k w (by simp;exact Ri hlen pd l1)) ⟨e,q _ this.1 this.2⟩
theorem FZ  (R:Rel Z ρ X σ s.heap)(hl:σ[n]?=aa (.list l))(hlen:l.length<lim)(hv:l.getLast?=aa v)(ra:bu ρ X s.heap (.loc n) a)
  (q:∀h' w,Rel Z ρ X (σ.set n (.list l.dropLast)) h'->dH [] ρ s.heap ρ h'->bu ρ X h' v w->Q w {s with heap:=h'}):aE (aA Z.prog Z.w) A (call (.builtin "list.pop") [a]) Q E s:=by
 have pd:=iy;(refine dC ra λp hp z1=>?_;try clear ra;subst z1);obtain⟨_,vs,⟨k,e⟩,q1⟩:=R.obj n p _ hp hl;have l1:=q1.length;have e1:l.dropLast=l.eraseIdx (vs.length-1):=by
  have oO:l≠[]:=by rintro rfl;exact fw hv
  rw[List.eraseIdx_eq_take_drop_succ,List.drop_of_length_le (abw l1),aP,List.dropLast_eq_take,l1]
 rw[List.getLast?_eq_getElem?]at hv;refine dC (q1.get hv) λw hw r=>?_;have:=lq (f:=λz=>z.eraseIdxIfInBounds (vs.toArray.size-1)) (ws:=vs.eraseIdx (vs.length-1)) (l':=l.dropLast) R hp hl e (by
   unfold yB
   split
   .simp
   .rename_i z
    simp only[b9]at z;rw[List.eraseIdx_of_length_le (abv l1 z)])
  λh' g=>by rw[e1];exact(bt.mono g (λU q=>nomatch q) (λU q=>.inl q) _ _ q1).eraseIdx
 exact fy pL ⟨_,e,rfl⟩ F.entry_list_pop (F.args_list_pop_1 _) (PySem.MeetsSeq.list_pop_last p.a vs.toArray k w (by simp;rw[<- l1];exact hw) (by simp;exact Ri hlen pd l1))
  ⟨e,q _ w this.1 this.2 (bu.mono this.2 (λU q=>nomatch q) (λU q=>.inl q) _ _ r)⟩
theorem Dv    (R:Rel Z ρ X σ s.heap)(hl:σ[n]?=aa (.list l))(hlen:l.length<lim)(h0:0<=i)(hv:l[i.toNat]?=aa v)(ra:bu ρ X s.heap (.loc n) a)
  (q:∀h' w,Rel Z ρ X (σ.set n (.list (l.eraseIdx i.toNat))) h'->dH [] ρ s.heap ρ h'->bu ρ X h' v w->Q w {s with heap:=h'}):aE (aA Z.prog Z.w) A (call (.builtin "list.pop") [a,.int i t]) Q E s:=by
 have pd:=iy;have hL:lim=100000:=rfl;(refine dC ra λp hp z1=>?_;try clear ra;subst z1);obtain⟨_,vs,⟨k,e⟩,q1⟩:=R.obj n p _ hp hl;have l1:=q1.length;have hi:=(aC.mp hv).1;refine dC (q1.get hv) λw hw r=>?_;have:=lq (f:=λz=>z.eraseIdxIfInBounds i.toNat) (ws:=vs.eraseIdx i.toNat) (l':=l.eraseIdx i.toNat) R hp hl e (by unfold yB;rw[dif_pos (by simp;exact abu l1 hi)];simp)
  λh' g=>(bt.mono g (λU q=>nomatch q) (λU q=>.inl q) _ _ q1).eraseIdx
 refine fy pL ⟨_,e,rfl⟩ F.entry_list_pop (F.args_list_pop_2 _ _) (PySem.MeetsSeq.list_pop_at p.a vs.toArray k i t i.toNat w (by simp[rM];exact abt hlen h0 hL hi) ?_ (by simpa using hw) (by simp;exact abr hlen pd hL l1))
  ⟨e,q _ w this.1 this.2 (bu.mono this.2 (λU q=>nomatch q) (λU q=>.inl q) _ _ r)⟩
 unfold seqIndex?;simp only[b9];rw[if_neg (by exact Sz h0:¬i<0),if_pos (by simp;exact abq h0 l1 hi)]
theorem Hg  {r:List V}(R:Rel Z ρ X σ s.heap)(hl:σ[n]?=aa (.list l))(hlen:l.length+r.length<lim)(ra:bu ρ X s.heap (.loc n) a)(rb:bu ρ X s.heap (.lst r) b)
  (q:∀h',Rel Z ρ X (σ.set n (.list (l++r))) h'->dH [] ρ s.heap ρ h'->Q .none {s with heap:=h'}):aE (aA Z.prog Z.w) A (call (.builtin "list.extend") [a,b]) Q E s:=by
 have pd:=iy;have hL:lim=100000:=rfl;(refine dC ra λp hp z1=>?_;try clear ra;subst z1);(refine wL rb λp2 vs2 z1 U U z2 q2=>?_;try clear rb;subst z1;obtain⟨k2,e2⟩:=z2);obtain⟨_,vs,⟨k,e⟩,q1⟩:=R.obj n p _ hp hl;have l1:=q1.length;have l2:=q2.length;have:=lq (f:=λz=>z++vs2.toArray) (ws:=vs++vs2) (l':=l++r) R hp hl e (by simp) λh' g=>(bt.mono g (λU q=>nomatch q) (λU q=>.inl q) _ _ q1).append (bt.mono g (λU q=>nomatch q) (λU q=>.inl q) _ _ q2);exact fy F.slot_list_extend ⟨_,e,rfl⟩ F.entry_list_extend (F.args_list_extend_2 _ _) (PySem.AutoSeq1.list_extend_list_list_0 p.a vs.toArray k p2 vs2.toArray k2 (by simp[td,fz];exact abp hlen hL l1 l2) (by simp;exact abo hlen pd hL l1) (by simp;exact abn hlen pd hL l1 l2)) ⟨e,e2,q _ this.1 this.2⟩
theorem Bf {q':Str}{j:Nat}(h:findS q' l=aa (aa j))(hlen:l.length<lim)(ra:bu ρ X s.heap (.lst l) a)(q:∀t t',Q (.int j t) {s with toks:=t'}) :
  aE (aA Z.prog Z.w) A (call (.builtin "list.index") [a,.str q' t]) Q E s:=by
 have hL:lim=100000:=rfl;(refine wL ra λp vs z1 U U z2 q1=>?_;try clear ra;subst z1;obtain⟨k,e⟩:=z2);have l1:=q1.length;have key:∀ {l:List V} {vs:List ax} {r:Option Nat},findS q' l=aa r->bt ρ X s.heap l vs->(∀w∈vs,∃y u,w=.str y u) /\
   match r with
   |some j=>∃h:j<vs.length,vs[j].isStr q'=af/\∀m (hm:m<vs.length),m<j->vs[m].isStr q'=ag
   |none=>True:=by
  intro l;induction l with
  |nil=>intro vs r h q;subst q;obtain rfl:=aj h;exact⟨λU h=>(nomatch h),trivial⟩
  |cons c l ih =>
   intro vs r h q;(refine mI q.jt λw ws z1 r1 r2=>?_;subst z1);induction c using V.casesOn with
   |str z =>
    obtain⟨u,rfl⟩:=r1;change (match findS q' l with|some r=>if z=q' then aa (aa 0)else aa (r.map (·+1))|none=>ae)=aa r at h;induction hf:findS q' l with
    |none=>rw[hf]at h;exact fw h
    |some r' =>
     rw[hf]at h;obtain⟨i1,i2⟩:=ih hf r2;refine⟨λw hw=>by rcases aN.mp hw with rfl|m;exact⟨_,_,rfl⟩;exact i1 w m,?_⟩;by_cases hz:z=q'
     .replace h:=(if_pos hz).symm.trans h;obtain rfl:=aj h;obtain rfl:=fc (hz);exact⟨by simp,by simp[JT],λm hm lt=>absurd lt (oK _)⟩
     .replace h:=(if_neg hz).symm.trans h;obtain rfl:=aj h;induction r' with
      |none=>trivial
      |some j =>
       (refine dC i2 λa1 a2 a3=>?_;try clear i2);refine⟨by simp;exact a1,by simpa using a2,λm hm lt=>?_⟩;induction m using Nat.casesOn with
       |zero=>simp[JT,hz]
       |succ m=>simpa using a3 m (by simpa using hm) (by simp at lt ⊢;exact lt)
   |_=>exact fw h
 obtain⟨k1,hj,k2,k3⟩:=key h q1;refine fy F.slot_list_index ⟨_,e,rfl⟩ F.entry_list_index (F.args_list_index_2 _ _)
  (list_indexAt p vs.toArray k ae #[] (.str q' t) (λw=>w.isStr q') j (by simpa using hj) (by lia) (by simpa using k2) (λm hm lt=>by simpa using k3 m (by simpa using hm) lt))
  ⟨e,λy hy=>?_,q _ _⟩
 (refine H0 (k1 y (by simpa using hy)) λz u z1=>?_;subst z1);exact EqAt.str_str z u q' t
end
end Internal
end
noncomputable section
open PySem PySem.W PyProof.Rows PySem.SeqAt
namespace Internal
variable {ct vt:List Str}{p:Pos}{own X':List aK}{ops:List Cm}{cs:List V}{vs:Vs}{y:V}{n:Str}{env:Env}{w:ax}{E Q:ax->av->Prop}{m mb mg:Str->Option ax}{o:Option V}{es:List bY}{et eb ea e:bY}{t:Sem ax}{β α:Type}{W' W:(β->av->Prop)->(ax->av->Prop)->Prop}{T:List Pl->bV->α->β->Prop}{cD σ:bo}{Z:ng}{s' s:av}{bJ ρ:List Pl}{h' h:bV}
theorem IsCell.grow {F:List aK}{c:aK}{v:Option ax}(t:h.IsCell c v)(g:dH F ρ h bJ h')(k:Off ρ c)(n:c∉F):h'.IsCell c v:=by(refine dC t λo e d=>?_;try clear t);refine dC (g.ev c _ e k n) λsl e' U=>?_;exact⟨_,e',d⟩
theorem Ns.grow {F:List aK}{c:aK}(t:h.Ns c m)(g:dH F ρ h bJ h')(k:Off ρ c)(n:c∉F):h'.Ns c m:=by(refine Eb t λo es ep e d r=>?_;try clear t);refine dC (g.ev c _ e k n) λsl e' U=>?_;exact⟨_,es,ep,e',d,r⟩
def da (X:List aK)(h:bV)(l:List Env):Prop :=
 ∀e∈l,e.scope.kind≠.module/\∃L o es n,e.frame=aa L/\L∈X/\h.get? L=aa o/\o.data=.dict es n
theorem Rel.off  {X:List aK}(R:Rel Z ρ X σ h){x:aK}(m:x∈X):Off ρ x:=λp hp q=>(R.ge p hp x q).2 m
theorem da.grow {F X:List aK}{l:List Env}(t:da X h l)(R:Rel Z ρ X σ h)(g:dH F ρ h bJ h')(n:∀e∈l,∀L,e.frame=aa L->L∉F):da X h' l:=λe he=>by obtain⟨a,L,o,es,k,b,c,d,f⟩:=t e he;refine dC (g.ev L _ d (R.off c) (n e he L b)) λsl e' U=>?_;exact⟨a,L,_,es,k,b,c,e',f⟩
theorem da.less {X:List aK}{l:List Env}(t:da X h l)(hX:∀b∈X,b∈X'):da X' h l:=λe he=>by obtain⟨a,L,o,es,k,b,c,d⟩:=t e he;exact⟨a,L,o,es,k,b,hX L c,d⟩
theorem da.fun {Z:ng}{ρ:List Pl}{X:List aK}{σ:bo}{h:bV}(R:Rel Z ρ X σ h):∀ {l:List Env},da X h l->h.FunFrames Z.base l
 |[]=>λU=>trivial
 |e::l=>λt=>by
  obtain⟨a,L,o,es,k,b,c,d,f⟩:=t e (.head _);refine⟨a,⟨L,o,b,?_,d,λvs q=>by rw[f]at q;exact bk q⟩,da.fun R λe he=>t e (.tail _ he)⟩;induction q:Z.base.get? L with
  |none=>rfl
  |some o=>exact absurd (bx q) (bO.mpr (R.D6 L c))
theorem pK.sd {F:List aK}{X:List aK}(t:pK Z ρ X h env vt vs ct cs)(R:Rel Z ρ X σ h)(g:dH F ρ h bJ h')
  (h1:∀b∈X,b∈X')(h2:∀b∈X',b∈X\/h.objs.size<=b)(hF:∀b∈F,b∈X)(n1:env.locals∉F)(n2:∀x c,env.cells.lookup x=aa c->c∉F):pK Z bJ X' h' env vt vs ct cs where
 kind:=t.kind
 globals:=t.globals
 builtins:=t.builtins
 own:=h1 _ t.own
 ns:=by
  refine tv t.ns λm a b c=>?_;refine⟨m,Ns.grow a g (R.off t.own) n1,λi x v e1 e2 e3 e4=>?_,λi x v e1 e2 e3=>?_⟩
  .refine dC (b i x v e1 e2 e3 e4) λw f r=>?_;exact⟨w,f,bu.mono g hF h2 _ _ r⟩
  .refine dC (c i x v e1 e2 e3) λw f r=>?_;exact⟨w,f,bu.mono g hF h2 _ _ r⟩
 cell:=λi x v e1 e2 e3=>by refine mI (t.cell i x v e1 e2 e3) λc w a b r=>?_;exact⟨c,w,a,IsCell.grow b g (R.off (t.cells x c a).1) (n2 x c a),bu.mono g hF h2 _ _ r⟩
 cells:=λx c e=>by obtain⟨a,b,w,d⟩:=t.cells x c e;exact⟨h1 _ a,b,w,IsCell.grow d g (R.off a) (n2 x c e)⟩
 has:=t.has
 inj:=t.inj
theorem pK.G5   {X:List aK}(t:pK Z ρ X h env vt vs ct cs)(R:Rel Z ρ X σ h)(g:dH [] ρ h bJ h')
  (h1:∀b∈X,b∈X')(h2:∀b∈X',b∈X\/h.objs.size<=b):pK Z bJ X' h' env vt vs ct cs :=
 t.sd R g h1 h2 (λU q=>nomatch q) (λq=>nomatch q) λU U U q=>nomatch q
theorem pK.grow  {X:List aK}(t:pK Z ρ X h env vt vs ct cs)(R:Rel Z ρ X σ h)(g:dH [] ρ h bJ h'):pK Z bJ X h' env vt vs ct cs :=
 t.G5 R g (λU q=>q) λU q=>.inl q
structure Cx where
 Z:ng
 A:mR
 l:List Env
 env:Env
 vt:List Str
 vs:Vs
 ct:List Str:=[]
 cs:List V:=[]
 X:List aK
 Φ:Nat->List V->bo->R V
structure St (c:Cx)(ρ:List Pl)(σ:bo)(h:bV):Prop where
 rel:Rel c.Z ρ c.X σ h
 fr:pK c.Z ρ c.X h c.env c.vt c.vs c.ct c.cs
 oq:da c.X h c.l
theorem St.go {c:Cx}(t:St c ρ σ s.heap)(g:Go [] ρ s bJ s')(R:Rel c.Z bJ c.X cD s'.heap) :
  St c bJ cD s'.heap:=⟨R,t.fr.grow t.rel g.grow,t.oq.grow t.rel g.grow λU U U U q=>nomatch q⟩
theorem St.sd {c:Cx}{F:List aK}(t:St c ρ σ h)(g:dH F ρ h bJ h')(R:Rel c.Z bJ c.X cD h')(hF:∀b∈F,b∈c.X)(n1:c.env.locals∉F)(n2:∀x a,c.env.cells.lookup x=aa a->a∉F)
  (n3:∀e∈c.l,∀L,e.frame=aa L->L∉F):St c bJ cD h' :=
 ⟨R,t.fr.sd t.rel g (λU q=>q) (λU q=>.inl q) hF n1 n2,t.oq.grow t.rel g n3⟩
theorem St.goX {c:Cx}(t:St c ρ σ s.heap)(g:Go [] ρ s bJ s')(R:Rel c.Z bJ X' cD s'.heap)(h1:∀b∈c.X,b∈X')(h2:∀b∈X',b∈c.X\/s.heap.objs.size<=b) :
  St {c with X:=X'} bJ cD s'.heap:=⟨R,t.fr.G5 t.rel g.grow h1 h2,(t.oq.grow t.rel g.grow λU U U U q=>nomatch q).less h1⟩
def gV:List (Str×ax):=[(st "len",.builtin "len"),(st "abs",.builtin "abs"),(st "isinstance",.builtin "isinstance"),(st "sorted",.builtin "sorted"),(st "int",.type "int"),(st "bool",.type "bool"),(st "str",.type "str"),
 (st "list",.type "list"),(st "range",.type "range"),(st "enumerate",.type "enumerate"),(st "Exception",.type "Exception")]
structure QE (Z:ng)(mg mb:Str->Option ax):Prop where
 g:Z.base.Ns cF mg
 b:Z.base.Ns g9 mb
 gv:∀(i:Nat) x v,ya[i]?=aa x->G[i]?=aa v->∃w,mg x=aa w/\bu [] [] Z.base v w
 bi:∀x v,(x,v)∈gV->mg x=ae/\mb x=aa v
 fn:∀(f:Nat) x a,rC[f]?=aa x->Z.fa[f]?=aa a->f≠0->mg x=aa (.ref a)
 fo:∀(f:Nat) a,Z.fa[f]?=aa a->∃o fd,Z.base.get? a=aa o/\o.data=.func fd
 un:mg (st "Unit")=aa (.ref Z.C)
 bc:mg (st "BadCode")=aa (.ref Z.CB)
theorem Rel.base  {X:List aK}(R:Rel Z ρ X σ h):dH [] [] Z.base ρ h :=
 ⟨⟨ρ,by simp,λp hp x hx=>(R.ge p hp x hx).1⟩,R.bsize,λb o e U U=>⟨o.slots,R.keep b o e,λU=>rfl⟩⟩
theorem bu.base  {X:List aK}{v:V}(r:bu [] [] Z.base v w)(R:Rel Z ρ X σ h):bu ρ X h v w :=
 bu.mono R.base (λU q=>nomatch q) (λb q=>.inr (R.D6 b q)) v w r
section
variable {c:Cx}
def SX (c:Cx)(x:X)(e:bY):Prop:=∀ρ s σ,St c ρ σ s.heap->Run c.Z [] c.X ρ s (TV c.X) (ev G c.Φ c.vs x c.cs σ) (λQ E=>aE (aA c.Z.prog c.Z.w) c.A (eval e c.env) Q E s)
noncomputable def fW (v:V)(σ:bo):R Bool:=match v with
 |.bool b=>.ok b σ
 |_=>.bad
noncomputable abbrev TB (_:List Pl)(_:bV)(v:V)(b:Bool):Prop:=v=.bool b
noncomputable abbrev TE (_:List Pl)(_:bV)(v:Bool)(b:Bool):Prop:=v=b
def SB (c:Cx)(x:X)(e:bY):Prop:=∀ρ s σ,St c ρ σ s.heap ->
 Run c.Z [] c.X ρ s TE ((ev G c.Φ c.vs x c.cs σ).bind fW) (λQ E=>aE (aA c.Z.prog c.Z.w) c.A (pT e c.env (eval e c.env)) Q E s)
theorem ID {k pos}:SX c (.k .none) (.Constant .none k pos):=λρ s σ t=>by exact .tw t.rel t7 λQ E q=>wpAny_Constant_none q
theorem BV {b k pos}:SX c (.k (.bool b)) (.Constant (.bool b) k pos):=λρ s σ t=>by exact .tw t.rel t8 λQ E q=>wpAny_Constant_bool q
theorem NO {i k pos}:SX c (.k (.int i)) (.Constant (.int i) k pos):=λρ s σ t=>by exact .ok (.tok (t:=s.toks+1)) t.rel (mU (t:=s.toks)) λQ E q=>wpAny_Constant_int q
theorem ND {x k pos}:SX c (.k (.str x)) (.Constant (.str x) k pos):=λρ s σ t=>by exact .ok (.tok (t:=s.toks+1)) t.rel (AJ (t:=s.toks)) λQ E q=>vA q
theorem Run.var  {X:List aK}{T:List Pl->bV->V->ax->Prop}{Φ:Nat->List V->bo->R V}{i:Nat}{W:(ax->av->Prop)->(ax->av->Prop)->Prop}(h:∀x,vs[i]?=aa (aa x)->Run Z own X ρ s T (.ok x σ) W):Run Z own X ρ s T (ev G Φ vs (.v i) cs σ) W:=by
 refine(?_:Run Z own X ρ s T (match vs[i]? with|some (aa x)=>.ok x σ|_=>.bad) W);induction e:vs[i]? with
 |none=>trivial
 |some o =>
  induction o with
  |none=>trivial
  |some x=>exact h x e
theorem Run.get  {X:List aK}{T:List Pl->bV->V->ax->Prop}{W:(ax->av->Prop)->(ax->av->Prop)->Prop}(h:∀x,o=aa x->Run Z own X ρ s T (.ok x σ) W):Run Z own X ρ s T (R.get o σ) W:=by
 induction o with
 |none=>trivial
 |some x=>exact h x rfl
theorem EU {i:Nat}{x:Str}{pos:Pos}(hv:c.vt[i]?=aa x)(hc:x∉c.ct)(hk:c.env.kindOf x=aa .local)(hd:(x==("__debug__" : Str))=ag):SX c (.v i) (.Name x pos):=λρ s σ t=>by refine Run.var λv e=>?_;refine tv t.fr.ns λm a b U=>?_;refine dC (b i x v hv e hc hk) λw f r=>?_;exact .tw t.rel r λQ E q=>BN (rP t.fr.kind hk a f q) hd
theorem II {i:Nat}{x:Str}{pos:Pos}(hv:c.vt[i]?=aa x)(hk:c.env.kindOf x=aa .cell)(hd:(x==("__debug__" : Str))=ag):SX c (.v i) (.Name x pos):=λρ s σ t=>by refine Run.var λv e=>?_;refine mI (t.fr.cell i x v hv e hk) λc w a b r=>?_;exact .tw t.rel r λQ E q=>BN (wpAny_loadName_cell t.fr.kind hk a b q) hd
theorem IH {i:Nat}{x:Str}{pos:Pos}(hv:c.ct[i]?=aa x)(hk:c.env.kindOf x=aa .local)(hd:(x==("__debug__" : Str))=ag):SX c (.c i) (.Name x pos):=λρ s σ t=>by refine Run.get λv e=>?_;refine tv t.fr.ns λm a U b=>?_;refine dC (b i x v hv e hk) λw f r=>?_;exact .tw t.rel r λQ E q=>BN (rP t.fr.kind hk a f q) hd
theorem lP   {x:Str}{pos:Pos}(D:QE c.Z mg mb)(t:St c ρ σ s.heap)(hk:c.env.kindOf x=aa .globalImplicit)(hd:(x==("__debug__" : Str))=ag)(e:mg x=aa w)(q:Q w s) :
  aE (aA c.Z.prog c.Z.w) c.A (eval (.Name x pos) c.env) Q E s :=
 lr t.fr.kind hk (Calls.loadGlobal_global (by rw[t.fr.globals];exact D.g.keeps t.rel.keep) e q) hd
theorem pH   {x:Str}{pos:Pos}(D:QE c.Z mg mb)(t:St c ρ σ s.heap)(hk:c.env.kindOf x=aa .globalImplicit)(hd:(x==("__debug__" : Str))=ag)(e:mg x=ae)(e':mb x=aa w)(q:Q w s) :
  aE (aA c.Z.prog c.Z.w) c.A (eval (.Name x pos) c.env) Q E s :=
 lr t.fr.kind hk (yA (by rw[t.fr.globals];exact D.g.keeps t.rel.keep) e (by rw[t.fr.builtins];exact D.b.keeps t.rel.keep) e' q) hd
theorem Dl {i:Nat}{x:Str}{pos:Pos}(D:QE c.Z mg mb)(hv:ya[i]?=aa x)(hk:c.env.kindOf x=aa .globalImplicit)(hd:(x==("__debug__" : Str))=ag):SX c (.g i) (.Name x pos):=λρ s σ t=>by refine Run.get λv e=>?_;refine dC (D.gv i x v hv e) λw f r=>?_;exact .tw t.rel (r.base t.rel) λQ E q=>lP D t hk hd f q
theorem NR {o:Nh}{m:Bool}{a b:X}{pos:Pos}(ha:SX c a ea)(hb:SX c b eb):SX c (.bin o m a b) (.BinOp ea (Qd o) eb pos):=λρ s σ t=>by refine Run.w (Run.seq (ha ρ s σ t) λx bj w aH ay bZ bP bT=>Run.seq (W2:=λw' bH Q E=>aE (aA c.Z.prog c.Z.w) c.A (gM (Qd o) w w') Q E bH) (hb aH ay bj (t.go bZ bP)) λy gF w' fU bH fN fO gb=>?_) λQ E h=>wpAny_BinOp h;exact Jb o m fO (fN.v bT) gb
end
def back (Q:ax->av->Prop)(E:ax->av->Prop)(r:sH)(s':av):Prop:=match r with
 |.ok (.ret v)=>Q v s'
 |.ok _=>False
 |.error e=>E e s'
def n8 (Z:ng)(Φ:Nat->List V->bo->R V)(A:mR)(l:List Env)(X:List aK):Prop :=
 ∀(f:Nat) a,Z.fa[f]?=aa a->∀ρ s σ xs ws,Rel Z ρ X σ s.heap->da X s.heap l->bt ρ X s.heap xs ws ->
  Run Z [] X ρ s (TV X) (Φ f xs σ) (λQ E=>gZ (aA Z.prog Z.w) A (.call (.ref a) ⟨ws,[]⟩) (back Q E) s)
structure Ok (c:Cx)(mg mb:Str->Option ax):Prop where
 z:10<c.Z.base.objs.size
 k:CW c.Z
 zV:QE c.Z mg mb
 hh:c.A.handled=ae
 fr:c.A.frames=aa c.l
 un:c.A.units+300<jM
 call:∀X,n8 c.Z c.Φ c.A c.l X
 mkc:∀X ws,n8 c.Z c.Φ (c.A.under (.builtin "type.__call__" ⟨.ref c.Z.C::ws,[]⟩)) c.l X
 mki:makesIn c.Z.K c.Z.C=af
 kp:keepIn c.Z.K (.ref c.Z.C)=af
 ini:∃fI,c.Z.fa[GJ]?=aa fI/\yw c.Z.K (.ref c.Z.C) "__init__"=aa (aa (.ref fI))/\typeIn c.Z.K (.ref fI)=aa (.type "function")
noncomputable def noStar (e:bY):Bool:=!(eG e.ctorIdx 22||eG e.ctorIdx 7)
theorem fL {r:List bY}(h:noStar e=af):gJ (e::r) env=(ag,eval e env)::gJ r env:=by induction e using PySem.Expr.casesOn<;>first|rfl|exact jE h
inductive e9 (P:X->bY->Prop):List X->List bY->Prop where
 |nil:e9 P [] []
 |cons {x:X} {e:bY} {l:List X} {r:List bY}:P x e->noStar e=af->e9 P l r->e9 P (x::l) (e::r)
section
variable {c:Cx}
theorem tq {xs:List X}(h:e9 (SX c) xs es)(pos:Pos):∀ρ s σ,St c ρ σ s.heap ->
  Run c.Z [] c.X ρ s (TVs c.X) (CH G c.Φ c.vs xs c.cs σ) (λQ E=>aE (aA c.Z.prog c.Z.w) c.A (sO (mL pos (gJ es c.env))) Q E s):=by
 induction h with
 |nil=>intro ρ s σ t;exact .tw t.rel .nil λQ E q=>hZ q
 |cons a b _ ih =>intro ρ s σ t;refine Run.w (Run.seq (a ρ s σ t) λx bj w aH ay bZ bP bT=>?_) λQ E h=>eT h (fL b);exact Run.w (Run.seq (ih aH ay bj (t.go bZ bP)) λy gF w' fU bH fN fO gb=>.tw (b:=w::w') (W:=λQ E=>Q (w::w') bH) fO (.cons (fN.v bT) gb) λU U q=>q) λU U h=>h
noncomputable def lj (e:bY):Bool:=!(eG e.ctorIdx 26)
theorem eP {o i:ax}(h:lj e=af):subscripted e ag o i=operate [o,i] (gw o i):=by induction e using PySem.Expr.casesOn<;>first|rfl|exact jE h
theorem Dj (D:Ok c mg mb){x v:V}{a b:ax}(R:Rel c.Z ρ c.X σ s.heap)(h:hU σ x y=aa v)(ra:bu ρ c.X s.heap x a)(rb:bu ρ c.X s.heap y b)
  (hp:lj eb=af)(q:∀w t,bu ρ c.X s.heap v w->Q w {s with toks:=t}):aE (aA c.Z.prog c.Z.w) c.A (subscriptTail ea eb a b) Q E s:=by
 have g:=Ha (A:=c.A) (E:=E) R D.z h ra rb q;induction x using V.casesOn with
 |lst l =>obtain⟨p,vs,rfl,o1,x1,t1,q1⟩:=ra;exact wq t1.isList.typeIs sJ.lookup g (eP hp)
 |tup l =>obtain⟨p,vs,rfl,o1,x1,⟨n,t1⟩,q1⟩:=ra;exact wq (T:="tuple") ⟨_,t1,rfl⟩ F.slot_tuple_getitem.lookup g (eP hp)
 |str z =>obtain⟨t,rfl⟩:=ra;exact wq (vB _ _ _) F.slot_str_getitem.lookup g (eP hp)
 |loc n =>
  obtain⟨p,CA,rfl⟩:=ra;change DN σ[n]? y=aa v at h;cases hl:σ[n]? with
  |none=>rw[hl]at h;exact fw h
  |some o =>
   rw[hl]at h;have ob:=R.obj n p o CA hl;induction o with
   |list l =>obtain⟨_,vs,t1,q1⟩:=ob;exact wq t1.isList.typeIs sJ.lookup g (eP hp)
   |cJ l =>obtain⟨_,lJ,t1,_⟩:=ob;exact wq t1.mapOf.typeIs F.slot_dict_getitem.lookup g (eP hp)
   |dN l =>obtain⟨_,lJ,t1,_⟩:=ob;exact wq t1.mapOf.typeIs F.slot_dict_getitem.lookup g (eP hp)
   |inst l=>exact fw h
 |_=>exact fw h
theorem run_get   {T:List Pl->bV->V->α->Prop}{W:(α->av->Prop)->(ax->av->Prop)->Prop}{F X:List aK}(h:∀v,o=aa v->Run Z F X ρ s T (.ok v σ) W):Run Z F X ρ s T (R.get o σ) W:=by
 induction o with
 |none=>trivial
 |some v=>exact h v rfl
theorem NC (D:Ok c mg mb){a b:X}{pos:Pos}(ha:SX c a ea)(hb:SX c b eb)(hp:lj eb=af):SX c (.sub a b) (.Subscript ea eb pos):=λρ s σ t=>by refine Run.w (Run.seq (ha ρ s σ t) λx bj w aH ay bZ bP bT=>Run.seq (W2:=λw' bH Q E=>aE (aA c.Z.prog c.Z.w) c.A (subscriptTail ea eb w w') Q E bH) (hb aH ay bj (t.go bZ bP)) λy gF w' fU bH fN fO gb=>?_) λQ E h=>Subscript_ h;refine run_get λv hv=>λQ E q=>Dj D fO hv (fN.v bT) gb hp λw t r=>q w fU _ .tok fO r
theorem i9 {M:Model}{A:mR}{value:bY}{lower upper:Option bY}{pos:Pos}
  (h:aE M A (eval value env) (λo ay=>aE M A (eval (.Slice lower upper ae p) env) (λi bH=>(∃T id,bH.TypeIs o T/\iV (.type T) "__getitem__"=pure (aa (.builtin id)))/\aE M A (gw o i) (λr fV=>aE M A (letTemporaryGo value o r) (λU rd=>Q r rd) E fV) E bH) E ay) E s) :
  aE M A (eval (.Subscript value (.Slice lower upper ae p) pos) env) Q E s:=by
 rw[eval_Subscript];refine aq (bp h (λo ay h₁=>aq (bC (bp h₁ (λi bH fk=>aq (bR ?_)) λU U x=>x)))
  λU U x=>x)
 obtain⟨⟨T,id,hT,hl⟩,fk⟩:=fk;have fin:aE M A (operate [i,o] (gw o i)) (λr fV=>aE M A (letTemporaryGo value o r >>= λU=>pure r) Q E fV) E bH :=
  Ah (bp fk (λr fV i4=>aq (bp i4 (λU U q=>aW q) λU U x=>x)) λU U x=>x)
 refine aq ?_;rw[getitemInPython_of_ne hT.not_modules];refine aq (wpAny_specialOf hT hl ?_);exact aW (aq fin)
theorem B0 (up:Bool){x:V}{i:Int}{a:ax}(R:Rel c.Z ρ c.X σ s.heap)(ra:bu ρ c.X s.heap x a)(h:N1 up σ x i≠.bad) :
  ∃T id,s.TypeIs a T/\iV (.type T) "__getitem__"=pure (aa (.builtin id)):=by
 have key:IV up σ i (Ak σ x)≠.bad->∃T id,s.TypeIs a T/\iV (.type T) "__getitem__"=pure (aa (.builtin id)):=λh=>by
  induction e:Ak σ x with
  |none=>rw[e]at h;exact absurd rfl h
  |some l =>obtain⟨p,vs,rfl,t1,q1⟩:=uG R e ra;exact⟨_,_,t1.isList.typeIs,sJ.lookup⟩
 induction x using V.casesOn with
 |tup l =>obtain⟨p,vs,rfl,o1,x1,⟨n,t1⟩,q1⟩:=ra;exact⟨"tuple",_,⟨_,t1,rfl⟩,F.slot_tuple_getitem.lookup⟩
 |_=>exact key h
theorem Run.KH  {F X:List aK}{r:R α}(h:r≠.bad->Run Z F X ρ s T r W):Run Z F X ρ s T r W:=by
 induction r with
 |bad=>trivial
 |ok a σ=>exact h λq=>nomatch q
 |exc σ=>exact h λq=>nomatch q
section
variable {F X:List aK}
theorem Run.ite {c:Prop}[Decidable c]{r:R α}(h:c->Run Z F X ρ s T r W):Run Z F X ρ s T (if c then r else .bad) W:=by
 by_cases hc:c
 .rw[if_pos hc];exact h hc
 .rw[if_neg hc];trivial
theorem Run.opt {f:V->R α}(h:∀a,o=aa a->Run Z F X ρ s T (f a) W):Run Z F X ρ s T (match (generalizing:=false) o with|some a=>f a|none=>.bad) W:=by
 induction o with
 |none=>trivial
 |some a=>exact h a rfl
theorem Run.Jq {o:Option (List V)}{f:List V->R α}(h:∀a,o=aa a->Run Z F X ρ s T (f a) W):Run Z F X ρ s T (match (generalizing:=false) o with|some a=>f a|none=>.bad) W:=by
 induction o with
 |none=>trivial
 |some a=>exact h a rfl
theorem Run.Oo {o:Option Bool}{f:Bool->R α}(h:∀a,o=aa a->Run Z F X ρ s T (f a) W):Run Z F X ρ s T (match (generalizing:=false) o with|some a=>f a|none=>.bad) W:=by
 induction o with
 |none=>trivial
 |some a=>exact h a rfl
theorem Run.YN {o:Option Bool}{a b:R α}(h:o=aa af->Run Z F X ρ s T a W)(k:o=aa ag->Run Z F X ρ s T b W):Run Z F X ρ s T (match (generalizing:=false) o with|some af=>a|some ag=>b|none=>.bad) W:=by
 induction o with
 |none=>trivial
 |some x=>induction x with
  |true=>exact h rfl
  |false=>exact k rfl
theorem Run.Zj {c:Prop}[Decidable c]{r r':R α}(h:c->Run Z F X ρ s T r W)(k:¬c->Run Z F X ρ s T r' W):Run Z F X ρ s T (if c then r else r') W:=by
 by_cases hc:c
 .rw[if_pos hc];exact h hc
 .rw[if_neg hc];exact k hc
theorem Run.vno {x:V}{r:R α}(h:x=.none->Run Z F X ρ s T r W):Run Z F X ρ s T (match (generalizing:=false) x with|.none=>r|_=>.bad) W:=by
 induction x using V.casesOn with
 |none=>exact h rfl
 |_=>trivial
theorem Run.ach {o:Option (Option Nat)}{f:Nat->R α}(h:∀a,o=aa (aa a)->Run Z F X ρ s T (f a) W):Run Z F X ρ s T (match (generalizing:=false) o with|some (aa a)=>f a|_=>.bad) W:=by
 induction o with
 |none=>trivial
 |some o=>induction o with
  |none=>trivial
  |some a=>exact h a rfl
theorem Run.lst {o:Option O}{f:List V->R α}(h:∀l,o=aa (.list l)->Run Z F X ρ s T (f l) W):Run Z F X ρ s T (match (generalizing:=false) o with|some (.list l)=>f l|_=>.bad) W:=by
 induction o with
 |none=>trivial
 |some o=>induction o with
  |list l=>exact h l rfl
  |_=>trivial
theorem Run.dic {o:Option O}{f:List (Int×V)->R α}(h:∀l,o=aa (.cJ l)->Run Z F X ρ s T (f l) W):Run Z F X ρ s T (match (generalizing:=false) o with|some (.cJ l)=>f l|_=>.bad) W:=by
 induction o with
 |none=>trivial
 |some o=>induction o with
  |cJ l=>exact h l rfl
  |_=>trivial
theorem Run.loc {x:V}{f:Nat->R α}(h:∀l,x=.loc l->Run Z F X ρ s T (f l) W):Run Z F X ρ s T (match (generalizing:=false) x with|.loc l=>f l|_=>.bad) W:=by
 induction x using V.casesOn with
 |loc l=>exact h l rfl
 |_=>trivial
theorem Run.int {x:V}{f:Int->R α}(h:∀l,x=.int l->Run Z F X ρ s T (f l) W):Run Z F X ρ s T (match (generalizing:=false) x with|.int l=>f l|_=>.bad) W:=by
 induction x using V.casesOn with
 |int l=>exact h l rfl
 |_=>trivial
theorem Run.bool {x:V}{f:Bool->R α}(h:∀l,x=.bool l->Run Z F X ρ s T (f l) W):Run Z F X ρ s T (match (generalizing:=false) x with|.bool l=>f l|_=>.bad) W:=by
 induction x using V.casesOn with
 |bool l=>exact h l rfl
 |_=>trivial
theorem Run.tup {x:V}{f:List V->R α}(h:∀l,x=.tup l->Run Z F X ρ s T (f l) W):Run Z F X ρ s T (match (generalizing:=false) x with|.tup l=>f l|_=>.bad) W:=by
 induction x using V.casesOn with
 |tup l=>exact h l rfl
 |_=>trivial
theorem Run.Zb {x:V}{f:Nat->Int->R α}(h:∀l r,x=.loc l->y=.int r->Run Z F X ρ s T (f l r) W):Run Z F X ρ s T (match (generalizing:=false) x,y with|.loc l,.int r=>f l r|_,_=>.bad) W:=by
 induction x using V.casesOn with
 |loc l=>induction y using V.casesOn with
  |int r=>exact h l r rfl rfl
  |_=>trivial
 |_=>trivial
theorem Run.acu {x:V}{f:Nat->List V->R α}(h:∀l r,x=.loc l->y=.lst r->Run Z F X ρ s T (f l r) W):Run Z F X ρ s T (match (generalizing:=false) x,y with|.loc l,.lst r=>f l r|_,_=>.bad) W:=by
 induction x using V.casesOn with
 |loc l=>induction y using V.casesOn with
  |lst r=>exact h l r rfl rfl
  |_=>trivial
 |_=>trivial
theorem Run.acs {x:V}{f:List V->Str->R α}(h:∀l r,x=.lst l->y=.str r->Run Z F X ρ s T (f l r) W):Run Z F X ρ s T (match (generalizing:=false) x,y with|.lst l,.str r=>f l r|_,_=>.bad) W:=by
 induction x using V.casesOn with
 |lst l=>induction y using V.casesOn with
  |str r=>exact h l r rfl rfl
  |_=>trivial
 |_=>trivial
theorem Run.ints {x:V}{f:Int->Int->R α}(h:∀l r,x=.int l->y=.int r->Run Z F X ρ s T (f l r) W):Run Z F X ρ s T (match (generalizing:=false) x,y with|.int l,.int r=>f l r|_,_=>.bad) W:=by
 induction x using V.casesOn with
 |int l=>induction y using V.casesOn with
  |int r=>exact h l r rfl rfl
  |_=>trivial
 |_=>trivial
end
theorem NF (D:Ok c mg mb){a b:X}{pos:Pos}(ha:SX c a ea)(hb:SX c b eb):SX c (.xN a b) (.Subscript ea (.Slice (aa eb) ae ae p) pos):=λρ s σ t=>by
 refine Run.w (Run.seq (ha ρ s σ t) λx bj w aH ay bZ bP bT=>Run.seq (W2:=λw' bH Q E=>aE (aA c.Z.prog c.Z.w) c.A (newFields "slice" [w',.none,.none])
   (λi bH=>(∃T id,bH.TypeIs w T/\iV (.type T) "__getitem__"=pure (aa (.builtin id)))/\aE (aA c.Z.prog c.Z.w) c.A (gw w i) Q E bH) E bH) (hb aH ay bj (t.go bZ bP)) λy gF w' fU bH fN fO gb=>?_)
  λQ E h=>i9 (bp h (λo ay h₁=>?_) λU U x=>x)
 .refine Run.KH λnb=>?_;cases y with
  |int i =>obtain⟨u,rfl⟩:=gb;have x:=Ext.push (h:=bH.heap) {cls:=.type "slice",data:=.fields #[.int i u,.none,.none]};have qQ:=fO.ext x;have ra:=(fN.v bT).ext x;refine Run.later (Go.ext (t:=bH.toks) x) (Run.w (I4 (A:=c.A) qQ ra (wh ..)) λQ E h=>?_);exact jW ⟨B0 ag qQ ra nb,h⟩
  |_=>exact absurd rfl nb
 .rw[arm_eval_Slice];exact aq (bp h₁ (λl ay h₁=>aq (bC (aW (aq (bC (aW (bp h₁ (λi bH fk=>⟨fk.1,bp fk.2 (λr fV i4=>rQ i4) λU U x=>x⟩) λU U x=>x))))))) λU U x=>x)
theorem NG (D:Ok c mg mb){a b:X}{pos:Pos}(ha:SX c a ea)(hb:SX c b eb):SX c (.vE a b) (.Subscript ea (.Slice ae (aa eb) ae p) pos):=λρ s σ t=>by
 refine Run.w (Run.seq (ha ρ s σ t) λx bj w aH ay bZ bP bT=>Run.seq (W2:=λw' bH Q E=>aE (aA c.Z.prog c.Z.w) c.A (newFields "slice" [.none,w',.none])
   (λi bH=>(∃T id,bH.TypeIs w T/\iV (.type T) "__getitem__"=pure (aa (.builtin id)))/\aE (aA c.Z.prog c.Z.w) c.A (gw w i) Q E bH) E bH) (hb aH ay bj (t.go bZ bP)) λy gF w' fU bH fN fO gb=>?_)
  λQ E h=>i9 (bp h (λo ay h₁=>?_) λU U x=>x)
 .refine Run.KH λnb=>?_;cases y with
  |int i =>obtain⟨u,rfl⟩:=gb;have x:=Ext.push (h:=bH.heap) {cls:=.type "slice",data:=.fields #[.none,.int i u,.none]};have qQ:=fO.ext x;have ra:=(fN.v bT).ext x;refine Run.later (Go.ext (t:=bH.toks) x) (Run.w (I7 (A:=c.A) qQ ra (wh ..)) λQ E h=>?_);exact jW ⟨B0 af qQ ra nb,h⟩
  |_=>exact absurd rfl nb
 .rw[arm_eval_Slice];exact aq (aW (aq (bC (bp h₁ (λl ay h₁=>aq (bC (aW (bp h₁ (λi bH fk=>⟨fk.1,bp fk.2 (λr fV i4=>rQ i4) λU U x=>x⟩) λU U x=>x)))) λU U x=>x))))
noncomputable def gc (e:bY):Bool:=!(eG e.ctorIdx 16)
theorem iA    (h:gc e=af):attributeBase e n env t=t:=by induction e using PySem.Expr.casesOn<;>first|rfl|exact jE h
theorem NS (D:Ok c mg mb){a:X}{f:Nat}{pos:Pos}(ha:SX c a ea)(hf:fields[f]?=aa n)(hn:gc ea=af):SX c (.dm a f) (.Attribute ea n pos):=λρ s σ t=>by
 refine Run.w (Run.seq (W2:=λw ay Q E=>aE (aA c.Z.prog c.Z.w) c.A (getAttr w n af) Q E ay) (ha ρ s σ t) λx bj w aH ay bZ bP bT=>?_) λQ E h=>?_
 .exact run_get λv hv=>λQ E q=>HP bP D.k hf hv bT λw t r=>q w aH _ .tok bP r
 .rw[arm_eval_Attribute,iA hn];exact aq (bp h (λo ay h₁=>aq (bR (aq (bC (bp h₁ (λr bH fk=>aq (rQ (aW fk))) λU U x=>x))))) λU U x=>x)
theorem NJ {a:X}{pos:Pos}(ha:SX c a ea):SX c (.neg a) (.UnaryOp .USub ea pos):=λρ s σ t=>by refine Run.w (Run.seq (W2:=λw ay Q E=>aE (aA c.Z.prog c.Z.w) c.A (unaryOp .USub w) Q E ay) (ha ρ s σ t) λx bj w aH ay bZ bP bT=>?_) λQ E h=>wpAny_UnaryOp h;refine Run.int λi e=>?_;subst e;obtain⟨u,rfl⟩:=bT;exact qf bP (mU (t:=ay.toks)) λQ E q=>PyProof.Rows.neg_int q
theorem NB {xs:List X}{k:Nat}{pos:Pos}(h:e9 (SX c) xs es):SX c (.tup xs) (.Tuple es k pos):=λρ s σ t=>by refine Run.w (Run.seq (W2:=λws ay Q E=>ws.length<=fz/\Q (.ref ay.heap.objs.size) {ay with heap:=ay.heap.push (o5 ws)}) (tq h pos ρ s σ t) λl bj ws aH ay bZ bP bT=>?_) λQ E h=>wpAny_Tuple h;refine Run.ite λhl=>?_;exact nr bP bT λQ E q=>⟨by have:=bT.length;have:=iy;exact XG hl (by assumption) this,q⟩
theorem NK {xs:List X}{m:Bool}{pos:Pos}(h:e9 (SX c) xs es):SX c (.lst m xs) (.List es pos):=λρ s σ t=>by refine Run.w (Run.seq (W2:=λws ay Q E=>ws.length<=fz/\Q (.ref ay.heap.objs.size) {ay with heap:=ay.heap.push (tC ws)}) (tq h pos ρ s σ t) λl bj ws aH ay bZ bP bT=>?_) λQ E h=>wpAny_List h;exact nu bP bT λhl Q E q=>⟨by have:=bT.length;have:=iy;exact XG hl (by assumption) this,q⟩
end
theorem Jr {op:CmpOp}(h:noStar e=af):Cp op e t=t:=by delta Cp behindInMarks;induction e using PySem.Expr.casesOn<;>first|rfl|exact jE h
theorem Run.toks  {F X:List aK}{r:R α}{W:Nat->(β->av->Prop)->(ax->av->Prop)->Prop}
  (h:∀t,Run Z F X ρ {s with toks:=t} T r (W t))(k:∀Q E,(∀t,W t Q E)->W' Q E):Run Z F X ρ s T r W':=by
 induction r with
 |ok a σ=>exact λQ E q=>k Q E λt=>h t Q E λb bJ s' g R y=>q b bJ s' (Go.tok.trans g) R y
 |exc σ=>exact λQ E q=>k Q E λt=>h t Q E λb bJ s' g R y=>q b bJ s' (Go.tok.trans g) R y
 |bad=>trivial
theorem St.tok {c:Cx}(t:St c ρ σ s.heap)(n:Nat):St c ρ σ ({s with toks:=n}:av).heap:=t
section
variable {c:Cx}
theorem vn {l:List X}(h:e9 (SX c) l es):∀ops:List CmpOp,markedEach ops es (mJ es c.env)=mJ es c.env:=by
 induction h with
 |nil=>intro ops;induction ops using List.casesOn with
  |nil=>rfl
  |cons a r=>induction r using List.casesOn<;>rfl
 |@cons x e l r a b hr ih =>
  intro ops;induction ops using List.casesOn with
  |nil=>rfl
  |cons o os =>
   induction hr with
   |nil=>induction os using List.casesOn with
    |nil=>show[Cp o e (eval e c.env)]=[eval e c.env];rw[Jr b]
    |cons a os=>induction os using List.casesOn<;>rfl
   |cons a' b' h' =>have:=ih os;induction os using List.casesOn<;>(show eval e c.env::_=eval e c.env::_;congr 1)
theorem wB (D:Ok c mg mb){l:List X}(h:e9 (SX c) l es)(pos:Pos):∀(ops:List Cm),ops.length=l.length->∀x w ρ s σ,St c ρ σ s.heap->bu ρ c.X s.heap x w ->
  Run c.Z [] c.X ρ s (TV c.X) (Ic G c.Φ c.vs x ops l c.cs σ) (λQ E=>aE (aA c.Z.prog c.Z.w) c.A (compareChain pos w (ops.map Aj) (mJ es c.env)) Q E s) /\
  Run c.Z [] c.X ρ s TB (Ic G c.Φ c.vs x ops l c.cs σ) (λQ E=>aE (aA c.Z.prog c.Z.w) c.A (testChain pos w (ops.map Aj) (mJ es c.env)) Q E s):=by
 have hu:c.A.units+70<jM:=by have:=D.un;exact acd this
 induction h with
 |nil =>
  intro ops hl x w ρ s σ t r;induction ops with
  |nil=>exact⟨trivial,trivial⟩
  |cons o os=>cases hl
 |@cons b e l r ha hb hr ih =>
  intro ops hl x w ρ s σ t rx;induction ops using List.casesOn with
  |nil=>cases hl
  |cons o os =>
   induction os using List.casesOn with
   |nil =>
    cases hr with
    |cons=>cases hl
    |nil =>
     constructor
     .refine Run.w (Run.seq (W2:=λw' ay Q E=>aE (aA c.Z.prog c.Z.w) c.A (eh (Aj o) w w') Q E ay) (ha ρ s σ t) λy bj w' aH ay bZ bP bT=>?_) λQ E h=>?_
      .refine Run.Oo λv hv=>?_;exact λQ E q=>oh bP D.z hu o hv (bZ.v rx) bT λt=>q _ aH _ .tok bP t8
      .exact aq (bC (bp h (λw' ay h₁=>aq (bR (Ah h₁))) λU U x=>x))
     .refine Run.w (Run.seq (W2:=λw' ay Q E=>aE (aA c.Z.prog c.Z.w) c.A (eh (Aj o) w w') (λr bH=>aE (aA c.Z.prog c.Z.w) c.A (pP r) Q E bH) E ay) (ha ρ s σ t) λy bj w' aH ay bZ bP bT=>?_) λQ E h=>?_
      .refine Run.Oo λv hv=>?_;exact λQ E q=>oh bP D.z hu o hv (bZ.v rx) bT λt=>eC (q _ aH _ .tok bP rfl)
      .exact aq (bC (bp h (λw' ay h₁=>aq (bR (aq (Ah (bp h₁ (λr bH fk=>bC fk) λU U x=>x))))) λU U x=>x))
   |cons o' os =>
    have mid {w':ax} {ay:av} {T:Sem ax} {Q:ax->av->Prop} {E:ax->av->Prop}
     (h:aE (aA c.Z.prog c.Z.w) c.A (eh (Aj o) w w') (λr bH=>aE (aA c.Z.prog c.Z.w) c.A (pP r) (λb fV=>if b then aE (aA c.Z.prog c.Z.w) c.A T Q E fV else Q r fV) E bH) E ay) :
     aE (aA c.Z.prog c.Z.w) c.A (do standAt pos;let r<-Bj [w,w'] (eh (Aj o) w w');release [w,w'] [r];if<-Bj [r,w'] (pP r)then T else pure r) Q E ay :=
     aq (bR (aq (bC (bp h (λr bH fk=>aq (kX (aq (bC (bp fk (λb fV i4=>ik (by induction b<;>first|exact i4|exact aW i4)) λU U x=>x))))) λU U x=>x))))
    have acn {w':ax} {ay:av} {T:Sem Bool} {Q:Bool->av->Prop} {E:ax->av->Prop}
     (h:aE (aA c.Z.prog c.Z.w) c.A (eh (Aj o) w w') (λr bH=>aE (aA c.Z.prog c.Z.w) c.A (pP r) (λb fV=>if b then aE (aA c.Z.prog c.Z.w) c.A T Q E fV else Q ag fV) E bH) E ay) :
     aE (aA c.Z.prog c.Z.w) c.A (do standAt pos;let r<-Bj [w,w'] (eh (Aj o) w w');release [w,w'] [r];if<-Bj [r,w'] (pP r)then T else pure ag) Q E ay :=
     aq (bR (aq (bC (bp h (λr bH fk=>aq (kX (aq (bC (bp fk (λb fV i4=>ik (by induction b<;>first|exact i4|exact aW i4)) λU U x=>x))))) λU U x=>x))))
    have ee:Ic G c.Φ c.vs x (o::o'::os) (b::l) c.cs σ=(ev G c.Φ c.vs b c.cs σ).bind λy σ=>match fe σ o x y with
      |some af=>Ic G c.Φ c.vs y (o'::os) l c.cs σ
      |some ag=>.ok (.bool ag) σ
      |none=>.bad:=rfl
    rw[ee];have Qr:(o'::os).length=l.length:=by simpa using hl
    induction hr with
    |nil=>cases Qr
    |@cons adz aad adu gb adl adk adj =>
    constructor
    .refine Run.w (Run.seq (W2:=λw' ay Q E=>aE (aA c.Z.prog c.Z.w) c.A (eh (Aj o) w w') (λr bH=>aE (aA c.Z.prog c.Z.w) c.A (pP r) (λb fV=>if b then aE (aA c.Z.prog c.Z.w) c.A (compareChain pos w' ((o'::os).map Aj) (mJ (aad::gb) c.env)) Q E fV else Q r fV) E bH) E ay)
      (ha ρ s σ t) λy bj w' aH ay bZ bP bT=>?_) λQ E h=>?_
     .refine Run.YN (λhv=>?_) λhv=>?_
      .exact Run.toks (λtk=>(ih (o'::os) Qr y w' aH {ay with toks:=tk} bj (t.go bZ bP:St c aH bj ay.heap) bT).1) λQ E h=>oh bP D.z hu o hv (bZ.v rx) bT λtk=>eC (by rw[if_pos rfl];exact h tk)
      .exact λQ E q=>oh bP D.z hu o hv (bZ.v rx) bT λt=>eC (by rw[if_neg bq];exact q _ aH _ .tok bP t8)
     .exact aq (bC (bp h (λw' ay h₁=>mid h₁) λU U x=>x))
    .refine Run.w (Run.seq (W2:=λw' ay Q E=>aE (aA c.Z.prog c.Z.w) c.A (eh (Aj o) w w') (λr bH=>aE (aA c.Z.prog c.Z.w) c.A (pP r) (λb fV=>if b then aE (aA c.Z.prog c.Z.w) c.A (testChain pos w' ((o'::os).map Aj) (mJ (aad::gb) c.env)) Q E fV else Q ag fV) E bH) E ay)
      (ha ρ s σ t) λy bj w' aH ay bZ bP bT=>?_) λQ E h=>?_
     .refine Run.YN (λhv=>?_) λhv=>?_
      .exact Run.toks (λtk=>(ih (o'::os) Qr y w' aH {ay with toks:=tk} bj (t.go bZ bP:St c aH bj ay.heap) bT).2) λQ E h=>oh bP D.z hu o hv (bZ.v rx) bT λtk=>eC (by rw[if_pos rfl];exact h tk)
      .exact λQ E q=>oh bP D.z hu o hv (bZ.v rx) bT λt=>eC (by rw[if_neg bq];exact q _ aH _ .tok bP rfl)
     .exact aq (bC (bp h (λw' ay h₁=>acn h₁) λU U x=>x))
theorem NQ (D:Ok c mg mb){a:X}{l:List X}{pos:Pos}(ha:SX c a ea)(h:e9 (SX c) l es)(hl:ops.length=l.length):SX c (.cmp a ops l) (.Compare ea (ops.map Aj) es pos):=λρ s σ t=>by refine Run.w (Run.seq (ha ρ s σ t) λx bj w aH ay bZ bP bT=>(wB D h pos ops hl x w aH ay bj (t.go bZ bP) bT).1) λQ E h'=>?_;rw[arm_eval_Compare,vn h];exact aq h'
theorem Run.tb {F X:List aK}{r:R V}{W:(Bool->av->Prop)->(ax->av->Prop)->Prop}(h:Run Z F X ρ s TB r W):Run Z F X ρ s TE (r.bind fW) W:=by
 induction r with
 |bad=>trivial
 |exc σ=>exact h
 |ok v σ=>induction v using V.casesOn with
  |bool b=>exact λQ E q=>h Q E λb' bJ s' g R e=>q b' bJ s' g R (by obtain rfl:=Internal.V.bool.inj e;rfl)
  |_=>trivial
theorem R.bind_assoc {γ:Type}(r:R α)(f:α->bo->R β)(g:β->bo->R γ):(r.bind f).bind g=r.bind λa σ=>(f a σ).bind g:=by induction r<;>rfl
theorem Oa (D:Ok c mg mb){a:X}{l:List X}{pos:Pos}(ha:SX c a ea)(h:e9 (SX c) l es)(hl:ops.length=l.length):SB c (.cmp a ops l) (.Compare ea (ops.map Aj) es pos):=λρ s σ t=>by rw[show(ev G c.Φ c.vs (.cmp a ops l) c.cs σ).bind fW=(ev G c.Φ c.vs a c.cs σ).bind λx σ=>(Ic G c.Φ c.vs x ops l c.cs σ).bind fW from R.bind_assoc _ _ _];refine Run.w (Run.seq (ha ρ s σ t) λx bj w aH ay bZ bP bT=>(wB D h pos ops hl x w aH ay bj (t.go bZ bP) bT).2.tb) λQ E h'=>?_;rw[arm_isTrue_Compare,vn h];exact aq h'
theorem Q5 {x:X}(h:SX c x e)(he:∀whole,pT e c.env whole=(do let v<-whole;standAt e.pos;Bj [v] (pP v))):SB c x e:=λρ s σ t=>by
 refine Run.w (Run.seq (W2:=λw ay Q E=>aE (aA c.Z.prog c.Z.w) c.A (pP w) Q E ay) (h ρ s σ t) λx bj w aH ay bZ bP bT=>?_) λQ E h'=>wpAny_isTrue_value h' (he _);induction x using V.casesOn with
 |bool b =>change bu _ _ _ _ _ at bT;subst bT;exact .tw bP rfl λQ E q=>eC q
 |_=>trivial
noncomputable def byValue:bY->Bool
 |.UnaryOp .Not _ _=>ag
 |.BoolOp _ _ _=>ag
 |.IfExp _ _ _ _=>ag
 |.Compare _ _ _ _=>ag
 |_=>af
theorem uP  (h:byValue e=af)(whole:Sem ax):pT e env whole=(do let v<-whole;standAt e.pos;Bj [v] (pP v)):=by
 induction e using PySem.Expr.casesOn with
 |UnaryOp o a p=>induction o using PySem.UnaryOp.casesOn<;>first|rfl|exact jE h
 |_=>first|rfl|exact jE h
theorem NI {a:X}{pos:Pos}(ha:SX c a ea):SX c (.not a) (.UnaryOp .Not ea pos):=λρ s σ t=>by refine Run.w (Run.seq (W2:=λw ay Q E=>aE (aA c.Z.prog c.Z.w) c.A (unaryOp .Not w) Q E ay) (ha ρ s σ t) λx bj w aH ay bZ bP bT=>?_) λQ E h=>wpAny_UnaryOp h;refine Run.bool λb e=>?_;subst e;subst bT;exact .tw bP t8 λQ E q=>not_of (eC q)
theorem N8 {a:X}{pos:Pos}(ha:SB c a ea):SB c (.not a) (.UnaryOp .Not ea pos):=λρ s σ t=>by
 have k:=ha ρ s σ t;have e:(ev G c.Φ c.vs (.not a) c.cs σ).bind fW=((ev G c.Φ c.vs a c.cs σ).bind fW).bind λb σ=>.ok (!b) σ:=by refine(?_:((ev G c.Φ c.vs a c.cs σ).bind _).bind fW=_);rw[R.bind_assoc,R.bind_assoc];congr 1;funext v cD;induction v using V.casesOn<;>rfl
 rw[e];exact Run.w (Run.seq k λb bj b' aH ay bZ bP bT=>.tw (b:=!b') (W:=λQ E=>Q (!b') ay) bP (congrArg (!·) bT) λU U q=>q) λQ E h=>wpAny_isTrue_Not h
theorem qA (w:Bool)(x:X)(l:List X)(σ:bo):qV G c.Φ c.vs w (x::l) c.cs σ=((ev G c.Φ c.vs x c.cs σ).bind fW).bind λb σ=>if b=w then qV G c.Φ c.vs w l c.cs σ else .ok (.bool b) σ:=by refine(?_:(ev G c.Φ c.vs x c.cs σ).bind _=_);rw[R.bind_assoc];congr 1;funext v cD;induction v using V.casesOn<;>rfl
theorem Jc (h:e9 (SB c) l es):∀ρ s σ,St c ρ σ s.heap->Run c.Z [] c.X ρ s TB (qV G c.Φ c.vs af l c.cs σ) (λQ E=>aE (aA c.Z.prog c.Z.w) c.A (allTrue .And es c.env) Q E s):=by
 induction h with
 |nil=>intro ρ s σ t;exact .tw t.rel rfl λQ E q=>wpAny_allTrue_And_nil q
 |@cons x e l r ha hb hr ih =>
  intro ρ s σ t;rw[qA];refine Run.w (Run.seq (W2:=λb ay Q E=>if b then aE (aA c.Z.prog c.Z.w) c.A (allTrue .And r c.env) Q E ay else Q ag ay) (ha ρ s σ t) λb bj b' aH ay bZ bP e=>?_) λQ E h=>wpAny_allTrue_And_cons h;subst e;induction b with
  |true=>exact ih aH ay bj (t.go bZ bP)
  |false=>exact .tw bP rfl λQ E q=>q
theorem Oc (h:e9 (SB c) l es):∀ρ s σ,St c ρ σ s.heap->Run c.Z [] c.X ρ s TB (qV G c.Φ c.vs ag l c.cs σ) (λQ E=>aE (aA c.Z.prog c.Z.w) c.A (allTrue .Or es c.env) Q E s):=by
 induction h with
 |nil=>intro ρ s σ t;exact .tw t.rel rfl λQ E q=>wpAny_allTrue_Or_nil q
 |@cons x e l r ha hb hr ih =>
  intro ρ s σ t;rw[qA];refine Run.w (Run.seq (W2:=λb ay Q E=>if b then Q af ay else aE (aA c.Z.prog c.Z.w) c.A (allTrue .Or r c.env) Q E ay) (ha ρ s σ t) λb bj b' aH ay bZ bP e=>?_) λQ E h=>wpAny_allTrue_Or_cons h;subst e;induction b with
  |false=>exact ih aH ay bj (t.go bZ bP)
  |true=>exact .tw bP rfl λQ E q=>q
theorem Ob {l:List X}{pos:Pos}(h:e9 (SB c) l es):SB c (.and l) (.BoolOp .And es pos):=λρ s σ t=>by exact Run.w (Jc h ρ s σ t).tb λQ E h=>wpAny_isTrue_BoolOp h
theorem Q4 {l:List X}{pos:Pos}(h:e9 (SB c) l es):SB c (.or l) (.BoolOp .Or es pos):=λρ s σ t=>by exact Run.w (Oc h ρ s σ t).tb λQ E h=>wpAny_isTrue_BoolOp h
theorem uj (op:BoolOp)(pos:Pos)(w:Bool)(hw:w=match op with|.And=>af|.Or=>ag)(h:e9 (SX c) l es)(hl:l≠[]):∀ρ s σ,St c ρ σ s.heap ->
  Run c.Z [] c.X ρ s (TV c.X) (qV G c.Φ c.vs w l c.cs σ) (λQ E=>aE (aA c.Z.prog c.Z.w) c.A (boolOp pos op (mJ es c.env)) Q E s):=by
 induction h with
 |nil=>exact absurd rfl hl
 |@cons x e l r ha hb hr ih =>
  intro ρ s σ t;rw[qA,R.bind_assoc];induction hr with
  |nil =>
   refine Run.w (Run.seq (W2:=λw ay Q E=>Q w ay) (ha ρ s σ t) λv bj u aH ay bZ bP e=>?_) λQ E h=>h;induction v using V.casesOn with
   |bool b =>
    refine(?_:Run _ _ _ _ _ _ (if b=w then _ else _) _);refine Run.Zj (λCE=>?_) λCE=>?_
    .obtain rfl:=fc (CE);exact .tw bP e λQ E q=>q
    .exact .tw bP e λQ E q=>q
   |_=>trivial
  |@cons x2 e2 l2 r2 ha2 Eg hr2 =>
   refine Run.w (Run.seq (W2:=λw ay Q E=>aE (aA c.Z.prog c.Z.w) c.A (pP w) (λb bH=>if b=(match op with|.And=>af|.Or=>ag)then aE (aA c.Z.prog c.Z.w) c.A (boolOp pos op (mJ (e2::r2) c.env)) Q E bH else Q w bH) E ay) (ha ρ s σ t) λv bj u aH ay bZ bP e=>?_) λQ E h=>?_
   .induction v using V.casesOn with
    |bool b =>
     subst e;refine(?_:Run _ _ _ _ _ _ (if b=w then _ else _) _);refine Run.Zj (λCE=>?_) λCE=>?_
     .exact Run.w (ih (by simp) aH ay bj (t.go bZ bP)) λQ E h=>eC (by rw[if_pos (CE.trans hw)];exact h)
     .exact .tw bP t8 λQ E q=>eC (by rw[if_neg λz=>CE (z.trans hw.symm)];exact q)
    |_=>trivial
   .refine(?_:aE _ _ (boolOp pos op (eval e c.env::eval e2 c.env::mJ r2 c.env)) _ _ _);refine aq (bp h (λv ay h₁=>aq (bR (aq (bC (bp h₁ (λb bH fk=>?_) λU U x=>x))))) λU U x=>x);induction op using PySem.BoolOp.casesOn<;>induction b<;>first|exact fk|exact aW fk
theorem NU {l:List X}{pos:Pos}(h:e9 (SX c) l es)(hl:l≠[]):SX c (.and l) (.BoolOp .And es pos):=λρ s σ t=>by exact Run.w (uj .And pos af rfl h hl ρ s σ t) λQ E h=>by rw[arm_eval_BoolOp];exact h
theorem QS {l:List X}{pos:Pos}(h:e9 (SX c) l es)(hl:l≠[]):SX c (.or l) (.BoolOp .Or es pos):=λρ s σ t=>by exact Run.w (uj .Or pos ag rfl h hl ρ s σ t) λQ E h=>by rw[arm_eval_BoolOp];exact h
theorem Hu (t a b:X)(σ:bo):ev G c.Φ c.vs (.ite t a b) c.cs σ=((ev G c.Φ c.vs t c.cs σ).bind fW).bind λx σ=>if x then ev G c.Φ c.vs a c.cs σ else ev G c.Φ c.vs b c.cs σ:=by
 refine(?_:(ev G c.Φ c.vs t c.cs σ).bind _=_);rw[R.bind_assoc];congr 1;funext v cD;induction v using V.casesOn with
 |bool b=>induction b<;>rfl
 |_=>rfl
theorem NM {t a b:X}{pos:Pos}(ht:SB c t et)(ha:SX c a ea)(hb:SX c b eb):SX c (.ite t a b) (.IfExp et ea eb pos):=λρ s σ t=>by
 rw[Hu];refine Run.w (Run.seq (W2:=λb ay Q E=>if b then aE (aA c.Z.prog c.Z.w) c.A (eval ea c.env) Q E ay else aE (aA c.Z.prog c.Z.w) c.A (eval eb c.env) Q E ay) (ht ρ s σ t) λb bj b' aH ay bZ bP e=>?_) λQ E h=>wpAny_IfExp h;subst e;induction b with
 |true=>exact ha aH ay bj (t.go bZ bP)
 |false=>exact hb aH ay bj (t.go bZ bP)
theorem N9 {t a b:X}{pos:Pos}(ht:SB c t et)(ha:SB c a ea)(hb:SB c b eb):SB c (.ite t a b) (.IfExp et ea eb pos):=λρ s σ t=>by
 rw[Hu,R.bind_assoc];refine Run.w (Run.seq (W2:=λb ay Q E=>if b then aE (aA c.Z.prog c.Z.w) c.A (pT ea c.env (eval ea c.env)) Q E ay else aE (aA c.Z.prog c.Z.w) c.A (pT eb c.env (eval eb c.env)) Q E ay) (ht ρ s σ t) λb bj b' aH ay bZ bP e=>?_) λQ E h=>?_
 .subst e;induction b with
  |true=>exact ha aH ay bj (t.go bZ bP)
  |false=>exact hb aH ay bj (t.go bZ bP)
 .rw[arm_isTrue_IfExp];exact aq (bp h (λb ay h₁=>ik h₁) λU U x=>x)
end
end Internal
end
noncomputable section
open PySem PySem.W PyProof.Rows PySem.SeqAt PySem.Calls
namespace Internal
variable {OK:bV->Prop}{use:Option (ax->Sem Unit)}{w1 w2:ax}{key:cG}{keys:List (Option bY)}{Rr:sH->av->Prop}{Γ:Ctx}{fn:Fn}{tf:V->Option Bool}{te:V->Option V}{os:jA}{id:String}{is:List Nat}{acI left ab:Bool}{dd:Option aK}{col:Option Bool}{k0 k1 k2 k3 k5:Option ax}{L:Nat->Nat->Vs->bo->RS}{name nm:Str}{body eb:List iO}{ts:List TA}{M:Model}{arr out:Array cG}{hint x' base ia na nb lo B:Nat}{fd:ij}{ct sn vt ns:List Str}{vals lv cs:List V}{scope:xj}{bs sub ws:List ax}{d:Drawn}{X':List aK}{env:Env}{prog:BC}{Z:ng}{g:Array GenState}{ay s':av}{mq es:List bY}{ta fB Da it C N:aK}{A:mR}{mN mb mg:Str->Option ax}{P:cG->Prop}{ζ ν ε K0 KZ γ δ K:Type}{kc:K->Const}{kv:K->Tok->ax}{T':List Pl->bV->K0->KZ->Prop}{k6 vs:Vs}{l:List Env}{DP px ap np pos p:Pos}{cD σ:bo}{k:IK}{aH bJ ρ:List Pl}{ei elt et iter eo ea e:bY}{h₁ h₀ h' h:bV}
theorem jv {P:X->bY->Prop}{xs:List X}(h:e9 P xs es):(mL pos (gJ es env)).any (·.1)=ag:=by
 induction h with
 |nil=>rfl
 |cons a b _ ih=>rw[fL b];exact ih
theorem mz {P:X->bY->Prop}{E:ax->av->Prop}{s:av}{f:ax}{xs:List X}{Q:Args->av->Prop}(h:e9 P xs es)
  (q:aE M A (sO (mL pos (gJ es env))) (λvs s'=>Q ⟨vs,[]⟩ s') E s):aE M A (evalArgs f af (mL pos (gJ es env)) []) Q E s:=by
 induction h with
 |nil=>unfold evalArgs;exact aq (bp q (λvs s' h=>bC (aq (aW (aq (aW (aW h)))))) λU U x=>x)
 |cons a b h' =>rw[fL b]at q ⊢;exact evalArgs_plain q
section
variable {c:Cx}
theorem tF (D:Ok c mg mb){x:Str}(hx:(x,Value.builtin id)∈gV)(hk:c.env.kindOf x=aa .globalImplicit)(hd:(x==("__debug__" : Str))=ag){P:X->bY->Prop}{xs:List X}(h:e9 P xs es){s:av}
  (t:St c ρ σ s.heap){Q:ax->av->Prop}{E:ax->av->Prop}
  (q:aE (aA c.Z.prog c.Z.w) c.A (sO (mL pos (gJ es c.env))) (λvs ay=>aE (aA c.Z.prog c.Z.w) c.A (call (.builtin id) vs) Q E ay) E s):aE (aA c.Z.prog c.Z.w) c.A (eval (.Call (.Name x np) es [] pos) c.env) Q E s:=by
 obtain⟨h1,h2⟩:=D.zV.bi _ _ hx;exact jX (pH D.zV t hk hd h1 h2 (m9 (jv h) (mz h q)))
theorem qH (D:Ok c mg mb){x:Str}{T:String}(hx:(x,xi T)∈gV)(hk:c.env.kindOf x=aa .globalImplicit)(hd:(x==("__debug__" : Str))=ag){P:X->bY->Prop}{xs:List X}(h:e9 P xs es){s:av}
  (t:St c ρ σ s.heap){Q:ax->av->Prop}{E:ax->av->Prop}
  (q:aE (aA c.Z.prog c.Z.w) c.A (sO (mL pos (gJ es c.env))) (λvs ay=>aE (aA c.Z.prog c.Z.w) c.A (call (.type T) vs) Q E ay) E s):aE (aA c.Z.prog c.Z.w) c.A (eval (.Call (.Name x np) es [] pos) c.env) Q E s:=by
 obtain⟨h1,h2⟩:=D.zV.bi _ _ hx;exact jX (pH D.zV t hk hd h1 h2 (PyProof.Rows.callWith_type (jv h) (mz h q)))
theorem k8 {a:X}(h:SX c a ea)(hs:noStar ea=af)(pos:Pos){s:av}(t:St c ρ σ s.heap) :
  Run c.Z [] c.X ρ s (λρ h v ws=>∃w,ws=[w]/\bu ρ c.X h v w) (ev G c.Φ c.vs a c.cs σ) (λQ E=>aE (aA c.Z.prog c.Z.w) c.A (sO (mL pos (gJ [ea] c.env))) Q E s) :=
 Run.imp (h ρ s σ t) (λw=>[w]) (λρ h v w r=>⟨w,rfl,r⟩) λQ E q=>eT (bp q (λv ay h₁=>hZ h₁) λU U x=>x) (fL hs)
theorem B6 {a b:X}{eb:bY}(ha:SX c a ea)(hb:SX c b eb)(hs:noStar ea=af)(sS:noStar eb=af)(pos:Pos){s:av}(t:St c ρ σ s.heap) :
  Run c.Z [] c.X ρ s (λρ h v ws=>∃w w',ws=[w,w']/\bu ρ c.X h v.1 w/\bu ρ c.X h v.2 w') ((ev G c.Φ c.vs a c.cs σ).bind λx σ=>(ev G c.Φ c.vs b c.cs σ).bind λy σ=>.ok (x,y) σ) (λQ E=>aE (aA c.Z.prog c.Z.w) c.A (sO (mL pos (gJ [ea,eb] c.env))) Q E s):=by
 refine Run.w (Run.seq (ha ρ s σ t) λx bj w aH ay bZ bP bT=>Run.seq (W2:=λw' bH Q E=>Q [w,w'] bH) (hb aH ay bj (t.go bZ bP)) λy gF w' fU bH fN fO gb=>.tw fO ⟨w,w',rfl,fN.v bT,gb⟩ λQ E q=>q) λQ E h=>?_;exact eT (bp h (λv ay h₁=>eT (bp h₁ (λv ay h₁=>hZ h₁) λU U x=>x) (fL sS)) λU U x=>x) (fL hs)
theorem NL (D:Ok c mg mb){a:X}(ha:SX c a ea)(hs:noStar ea=af)(hk:c.env.kindOf (st "len")=aa .globalImplicit):SX c (.len a) (.Call (.Name (st "len") np) [ea] [] pos):=λρ s σ t=>by refine Run.w (Run.seq (W2:=λws ay Q E=>aE (aA c.Z.prog c.Z.w) c.A (call (.builtin "len") ws) Q E ay) (k8 ha hs pos t) λx bj ws aH ay bZ bP bT=>?_) λQ E h=>tF D (by simp[gV]) hk (by decide) (.cons ha hs .nil) t h;obtain⟨w,rfl,bT⟩:=bT;refine Run.Jq λl hl=>?_;refine Run.ite λQr=>?_;exact λQ E q=>Gq bP hl Qr bT λt t'=>q _ aH _ .tok bP mU
theorem NV (D:Ok c mg mb){a:X}(ha:SX c a ea)(hs:noStar ea=af)(hk:c.env.kindOf (st "abs")=aa .globalImplicit):SX c (.abs a) (.Call (.Name (st "abs") np) [ea] [] pos):=λρ s σ t=>by refine Run.w (Run.seq (W2:=λws ay Q E=>aE (aA c.Z.prog c.Z.w) c.A (call (.builtin "abs") ws) Q E ay) (k8 ha hs pos t) λx bj ws aH ay bZ bP bT=>?_) λQ E h=>tF D (by simp[gV]) hk (by decide) (.cons ha hs .nil) t h;obtain⟨w,rfl,bT⟩:=bT;refine Run.int λi e=>?_;subst e;obtain⟨u,rfl⟩:=bT;exact λQ E q=>HS λt t'=>q _ aH _ .tok bP mU
theorem ES (D:Ok c mg mb){a:X}(ha:SX c a ea)(hs:noStar ea=af)(hk:c.env.kindOf (st "int")=aa .globalImplicit):SX c (.k7 a) (.Call (.Name (st "int") np) [ea] [] pos):=λρ s σ t=>by refine Run.w (Run.seq (W2:=λws ay Q E=>aE (aA c.Z.prog c.Z.w) c.A (call (.type "int") ws) Q E ay) (k8 ha hs pos t) λx bj ws aH ay bZ bP bT=>?_) λQ E h=>qH D (by simp[gV]) hk (by decide) (.cons ha hs .nil) t h;obtain⟨w,rfl,bT⟩:=bT;exact run_get λv hv=>λQ E q=>AM hv bT λw t r=>q _ aH _ .tok bP r
theorem Dk (D:Ok c mg mb){a:X}(ha:SX c a ea)(hs:noStar ea=af)(hk:c.env.kindOf (st "list")=aa .globalImplicit):SX c (.tolist a) (.Call (.Name (st "list") np) [ea] [] pos):=λρ s σ t=>by refine Run.w (Run.seq (W2:=λws ay Q E=>aE (aA c.Z.prog c.Z.w) c.A (call (.type "list") ws) Q E ay) (k8 ha hs pos t) λx bj ws aH ay bZ bP bT=>?_) λQ E h=>qH D (by simp[gV]) hk (by decide) (.cons ha hs .nil) t h;obtain⟨w,rfl,bT⟩:=bT;refine Run.tup λl e=>?_;subst e;exact AS bP bT
noncomputable def uc (t:Nat):String:=if t=0 then "int" else if t=1 then "bool" else "str"
theorem NN (D:Ok c mg mb){t:Nat}{x:Str}{a:X}{tp:Pos}(ha:SX c a ea)(hs:noStar ea=af)(hk:c.env.kindOf (st "isinstance")=aa .globalImplicit)(hx:(x,xi (uc t))∈gV)(hkx:c.env.kindOf x=aa .globalImplicit)(hd:(x==("__debug__" : Str))=ag) :
  SX c (.An t a) (.Call (.Name (st "isinstance") np) [ea,.Name x tp] [] pos):=λρ s σ t'=>by
 refine Run.w (Run.seq (W2:=λw ay Q E=>aE (aA c.Z.prog c.Z.w) c.A (eval (.Name x tp) c.env) (λu bH=>aE (aA c.Z.prog c.Z.w) c.A (call (.builtin "isinstance") [w,u]) Q E bH) E ay) (ha ρ s σ t') λv bj w aH ay bZ bP bT=>?_)
  λQ E h=>tF D (by simp[gV]) hk (by decide) (P:=λU U=>True) (.cons (x:=a) trivial hs (.cons (x:=a) trivial rfl .nil)) t' (eT (bp h (λv ay h₁=>eT (bp h₁ (λv ay h₁=>hZ h₁) λU U x=>x) rfl) λU U x=>x) (fL hs))
 obtain⟨h1,h2⟩:=D.zV.bi _ _ hx;refine Run.Oo λb hb=>?_;exact λQ E q=>pH D.zV (t'.go bZ bP) hkx hd h1 h2 (GD hb bT λt=>q _ aH _ .tok bP t8)
theorem IJ (D:Ok c mg mb){f:Nat}{a:aK}{x:Str}{xs:List X}(hf:rC[f]?=aa x)(ha:c.Z.fa[f]?=aa a)(h0:f≠0)(hk:c.env.kindOf x=aa .globalImplicit)(hd:(x==("__debug__" : Str))=ag)(h:e9 (SX c) xs es) :
  SX c (.call f xs) (.Call (.Name x np) es [] pos):=λρ s σ t=>by
 refine Ec (D.zV.fo f a ha) λo fd ho hfd=>?_;refine Run.w (Run.seq (W2:=λws ay Q E=>ay.heap.get? a=aa o/\aE (aA c.Z.prog c.Z.w) c.A (call (.ref a) ws) Q E ay) (tq h pos ρ s σ t) λl bj ws aH ay bZ bP bT=>?_) λQ E q=>?_
 .have eV:=t.go bZ bP;exact Run.w (D.call c.X f a ha aH ay bj l ws bP eV.oq bT) λQ E q=>⟨bP.keep _ _ ho,pO q⟩
 .exact jX (lP D.zV t hk hd (D.zV.fn f x a hf ha h0) (Calls.callWith_function (o:=o) (mz h (bp q (λvs ay h₁=>⟨⟨h₁.1,hfd⟩,h₁.2⟩) λU U x=>x))))
theorem call_meth {x:Str}{T:String}(pa:PlainAttrs T)(slot:Slot T x id)(hty:typeOf (.builtin id)=pure (.type "method_descriptor")){o:bY}{P:X->bY->Prop}{xs:List X}(h:e9 P xs es)(hn:gc o=af)(hl:(ap.endLine==pos.line)=af)(hlen:es.length<30)
  {s:av}{Q:ax->av->Prop}{E:ax->av->Prop}
  (q:aE (aA c.Z.prog c.Z.w) c.A (eval o c.env) (λv ay=>(ay.TypeIs v T/\∀a,v=.ref a->∃ob,ay.heap.get? a=aa ob/\ob.dict=ae) /\
   aE (aA c.Z.prog c.Z.w) c.A (sO (mL pos (gJ es c.env))) (λvs bH=>aE (aA c.Z.prog c.Z.w) c.A (call (.builtin id) (v::vs)) Q E bH) E ay) E s) :
  aE (aA c.Z.prog c.Z.w) c.A (eval (.Call (.Attribute o x ap) es [] pos) c.env) Q E s:=by
 refine wpAny_Call_method_late (iA hn) ?_ hl rfl (bp q (λv ay h₁=>⟨T,id,pa,slot,hty,h₁.1.1,h₁.1.2,m9 (jv h) (mz h h₁.2)⟩) λU U x=>x);have e:(mL pos (gJ es c.env)).all (λx=>!x.1)=af:=by have:=jv (pos:=pos) (env:=c.env) h;rw[List.any_eq_false]at this;rw[bI];intro y hy;simpa using this y hy
 rw[e];rw[show keywordEach [] c.env=[]from rfl];simp[hlen,backToKw]
theorem bu.wK  {s:av}{n:Nat}{l:List V}{a:ax}(R:Rel c.Z ρ c.X σ s.heap)(r:bu ρ c.X s.heap (.loc n) a)(h:σ[n]?=aa (.list l)):s.TypeIs a "list"/\∀b,a=.ref b->∃ob,s.heap.get? b=aa ob/\ob.dict=ae:=by(refine dC r λp hp z1=>?_;try clear r;subst z1);obtain⟨_,vs,⟨k,e⟩,q1⟩:=R.obj n p _ hp h;exact⟨⟨_,e,rfl⟩,λb hb=>by obtain rfl:=l6 hb;exact⟨_,e,rfl⟩⟩
theorem bu.frozen {s:av}{l:List V}{a:ax}(r:bu ρ c.X s.heap (.lst l) a):s.TypeIs a "list"/\∀b,a=.ref b->∃ob,s.heap.get? b=aa ob/\ob.dict=ae:=by(refine wL r λp vs z1 U U z2 q1=>?_;try clear r;subst z1;obtain⟨k,e⟩:=z2);exact⟨⟨_,e,rfl⟩,λb hb=>by obtain rfl:=l6 hb;exact⟨_,e,rfl⟩⟩
end
section
variable {c:Cx}
theorem Be {x:V}(h:uQ σ x=af):∃n l,x=.loc n/\σ[n]?=aa (.list l):=by
 induction x using V.casesOn with
 |loc n =>
  change (match σ[n]? with
  |some (.list _)=>af
  |_=>ag)=af at h
  rcases e:σ[n]? with _|o
  .rw[e]at h;exact jE h
  .rw[e]at h;induction o with
   |list l=>exact⟨n,l,rfl,e⟩
   |_=>exact jE h
 |_=>exact jE h
theorem OJ {x:V}(h:isD σ x=af):∃n l,x=.loc n/\σ[n]?=aa (.cJ l):=by
 induction x using V.casesOn with
 |loc n =>
  change (match σ[n]? with
  |some (.cJ _)=>af
  |_=>ag)=af at h
  rcases e:σ[n]? with _|o
  .rw[e]at h;exact jE h
  .rw[e]at h;induction o with
   |cJ l=>exact⟨n,l,rfl,e⟩
   |_=>exact jE h
 |_=>exact jE h
theorem lM {x:Str}{Ty:String}(pa:PlainAttrs Ty)(slot:Slot Ty x id)(hty:typeOf (.builtin id)=pure (.type "method_descriptor")){o a:X}(ho:SX c o eo)(ha:SX c a ea)(hs:noStar ea=af)(hn:gc eo=af)
  (hl:(ap.endLine==pos.line)=af){ok:bo->V->Bool}{f:V->V->bo->R V}(GR:∀(ρ:List Pl) (σ:bo) (s:av) (v:V) (w:ax),Rel c.Z ρ c.X σ s.heap->bu ρ c.X s.heap v w->ok σ v=af->s.TypeIs w Ty/\∀b,w=.ref b->∃ob,s.heap.get? b=aa ob/\ob.dict=ae)
  (hf:∀(ρ:List Pl) (σ:bo) (s:av) (v:V) (w:ax) (u:V) (y:ax),Rel c.Z ρ c.X σ s.heap->bu ρ c.X s.heap v w->bu ρ c.X s.heap u y->Run c.Z [] c.X ρ s (TV c.X) (f v u σ) (λQ E=>aE (aA c.Z.prog c.Z.w) c.A (call (.builtin id) [w,y]) Q E s)) :
  ∀ρ s σ,St c ρ σ s.heap->Run c.Z [] c.X ρ s (TV c.X) ((ev G c.Φ c.vs o c.cs σ).bind λx σ=>if ok σ x then(ev G c.Φ c.vs a c.cs σ).bind λy σ=>f x y σ else .bad)
   (λQ E=>aE (aA c.Z.prog c.Z.w) c.A (eval (.Call (.Attribute eo x ap) [ea] [] pos) c.env) Q E s):=λρ s σ t=>by
 refine Run.w (Run.seq (W2:=λw ay Q E=>(ay.TypeIs w Ty/\∀b,w=.ref b->∃ob,ay.heap.get? b=aa ob/\ob.dict=ae)/\aE (aA c.Z.prog c.Z.w) c.A (sO (mL pos (gJ [ea] c.env))) (λvs bH=>aE (aA c.Z.prog c.Z.w) c.A (call (.builtin id) (w::vs)) Q E bH) E ay)
  (ho ρ s σ t) λv bj w aH ay bZ bP bT=>?_) λQ E h=>call_meth pa slot hty (P:=λU U=>True) (.cons (x:=a) trivial hs .nil) hn hl (by simp) h
 refine Run.ite λhk=>?_
 .refine Run.w (Run.seq (W2:=λws bH Q E=>aE (aA c.Z.prog c.Z.w) c.A (call (.builtin id) (w::ws)) Q E bH) (k8 ha hs pos (t.go bZ bP)) λu gF ws fU bH fN fO gb=>?_) λQ E h=>⟨GR aH bj ay v w bP bT hk,h⟩;obtain⟨y,rfl,gb⟩:=gb;exact hf fU gF bH v w u y fO (fN.v bT) gb
theorem xZ (ρ:List Pl)(σ:bo)(s:av)(v:V)(w:ax)(R:Rel c.Z ρ c.X σ s.heap)(r:bu ρ c.X s.heap v w)(h:uQ σ v=af):s.TypeIs w "list"/\∀b,w=.ref b->∃ob,s.heap.get? b=aa ob/\ob.dict=ae:=by(refine Ec (Be h) λn l z1 e=>?_;subst z1);exact bu.wK R r e
theorem Ko (ρ:List Pl)(σ:bo)(s:av)(v:V)(w:ax)(R:Rel c.Z ρ c.X σ s.heap)(r:bu ρ c.X s.heap v w)(h:isD σ v=af):s.TypeIs w "dict"/\∀b,w=.ref b->∃ob,s.heap.get? b=aa ob/\ob.dict=ae:=by(refine Ec (OJ h) λn l z1 e=>?_;subst z1);(refine dC r λp hp z1=>?_;subst z1);obtain⟨_,lJ,⟨lo,es,ep,h1,h2,h3⟩,q1⟩:=R.obj n p _ hp e;exact⟨⟨_,h1,h2.1⟩,λb hb=>by obtain rfl:=l6 hb;exact⟨_,h1,h2.2.1⟩⟩
theorem NT {o a:X}(ho:SX c o eo)(ha:SX c a ea)(hs:noStar ea=af)(hn:gc eo=af)(hl:(ap.endLine==pos.line)=af):SX c (.app o a) (.Call (.Attribute eo (st "append") ap) [ea] [] pos):=λρ s σ t=>by
 refine lM jP F.slot_list_append F.type_list_append ho ha hs hn hl xZ (f:=λx y σ=>match x with
  |.loc n=>match σ[n]? with
   |some (.list l)=>if l.length<lim then .ok .none (σ.set n (.list (l++[y])))else .bad
   |_=>.bad
  |_=>.bad) (λρ σ s v w u y R r r'=>?_) ρ s σ t
 refine Run.loc λn e=>Run.lst λl h=>Run.ite λhlen=>?_;subst e;exact λQ E q=>HQ R h hlen r r' λh' R' g=>q .none ρ {s with heap:=h'} ⟨g,h',s.toks,rfl⟩ R' t7
theorem NP {o a:X}(ho:SX c o eo)(ha:SX c a ea)(hs:noStar ea=af)(hn:gc eo=af)(hl:(ap.endLine==pos.line)=af):SX c (.ext o a) (.Call (.Attribute eo (st "extend") ap) [ea] [] pos):=λρ s σ t=>by
 refine lM jP F.slot_list_extend F.type_list_extend ho ha hs hn hl xZ (f:=λx y σ=>match x,y with
  |.loc n,.lst r=>match σ[n]? with
   |some (.list l)=>if l.length+r.length<lim then .ok .none (σ.set n (.list (l++r)))else .bad
   |_=>.bad
  |_,_=>.bad) (λρ σ s v w u y R r r'=>?_) ρ s σ t
 refine Run.acu λn l e1 e2=>Run.lst λl h=>Run.ite λhlen=>?_;subst e1 e2;exact λQ E q=>Hg R h hlen r r' λh' R' g=>q .none ρ {s with heap:=h'} ⟨g,h',s.toks,rfl⟩ R' t7
theorem IC {o a:X}(ho:SX c o eo)(ha:SX c a ea)(hs:noStar ea=af)(hn:gc eo=af)(hl:(ap.endLine==pos.line)=af):SX c (.uu o a) (.Call (.Attribute eo (st "pop") ap) [ea] [] pos):=λρ s σ t=>by
 refine lM jP pL F.type_list_pop ho ha hs hn hl xZ (f:=λx y σ=>match x,y with
  |.loc n,.int i=>match σ[n]? with
   |some (.list l)=>match l[i.toNat]? with
    |some y=>if l.length<lim/\0<=i then .ok y (σ.set n (.list (l.eraseIdx i.toNat)))else .bad
    |none=>.bad
   |_=>.bad
  |_,_=>.bad) (λρ σ s v w u y R r r'=>?_) ρ s σ t
 refine Run.Zb λn i e1 e2=>Run.lst λl h=>?_;refine Run.opt λy hv=>?_;refine Run.ite λhlen=>?_;subst e1 e2;obtain⟨u',rfl⟩:=r';exact λQ E q=>Dv R h hlen.1 hlen.2 hv r λh' w R' g r'=>q w ρ {s with heap:=h'} ⟨g,h',s.toks,rfl⟩ R' r'
theorem IE (D:Ok c mg mb){o a:X}(ho:SX c o eo)(ha:SX c a ea)(hs:noStar ea=af)(hn:gc eo=af)(hl:(ap.endLine==pos.line)=af):SX c (.zZ o a) (.Call (.Attribute eo (st "get") ap) [ea] [] pos):=λρ s σ t=>by
 refine lM F.plainAttrs_dict F.slot_dict_get F.type_dict_get ho ha hs hn hl Ko (f:=λx y σ=>match x,y with
  |.loc n,.int i=>match σ[n]? with
   |some (.cJ l)=>.ok ((j4 l i).getD .none) σ
   |_=>.bad
  |_,_=>.bad) (λρ σ s v w u y R r r'=>?_) ρ s σ t
 refine Run.Zb λn i e1 e2=>Run.dic λl h=>?_;subst e1 e2;obtain⟨u',rfl⟩:=r';(refine dC r λp hp z1=>?_;subst z1);obtain⟨_,lJ,t1,q1⟩:=R.obj _ p _ hp h;have hd:=R.A1 D.z (aJ hp);refine λQ E q=>call_meetsIn F.slot_dict_get t1.mapOf.typeIs F.entry_dict_get (F.args_dict_get_2 _ _) (meets_dict_get (intKind c.Z.prog c.Z.w) p.a (pU _ _ _ _) hd) ⟨_,t1.mapOf,show Q _ _ from ?_⟩;have e:=fu.at (k:=i) q1;rw[<- mu]at e;induction hg:j4 l i with
 |none =>rw[hg]at e;rw[hg]at q;rw[e];exact q .none ρ _ .tok R t7
 |some v =>rw[hg]at e;rw[hg]at q;(refine dC e λw hw r=>?_;try clear e);rw[hw];exact q w ρ _ .tok R r
theorem EW {o a:X}(ho:SX c o eo)(ha:SX c a ea)(hs:noStar ea=af)(hn:gc eo=af)(hl:(ap.endLine==pos.line)=af):SX c (.index o a) (.Call (.Attribute eo (st "index") ap) [ea] [] pos):=λρ s σ t=>by
 refine lM jP F.slot_list_index F.type_list_index ho ha hs hn hl (ok:=λU v=>isF v) (λρ σ s v w R r h=>by
   induction v using V.casesOn with
   |lst l=>exact bu.frozen r
   |_=>exact jE h) (f:=λx y σ=>match x,y with
  |.lst l,.str q=>match findS q l with
   |some (aa j)=>if l.length<lim then .ok (.int j) σ else .bad
   |_=>.bad
  |_,_=>.bad) (λρ σ s v w u y R r r'=>?_) ρ s σ t
 refine Run.acs λl q e1 e2=>?_;subst e1 e2;obtain⟨u',rfl⟩:=r';refine Run.ach λj h=>?_;refine Run.ite λhlen=>?_;exact λQ E q=>Bf h hlen r λt t'=>q _ ρ _ .tok R mU
theorem NH {o:X}(ho:SX c o eo)(hn:gc eo=af)(hl:(ap.endLine==pos.line)=af):SX c (.pop o) (.Call (.Attribute eo (st "pop") ap) [] [] pos):=λρ s σ t=>by
 refine Run.w (Run.seq (W2:=λw ay Q E=>(ay.TypeIs w "list"/\∀b,w=.ref b->∃ob,ay.heap.get? b=aa ob/\ob.dict=ae)/\aE (aA c.Z.prog c.Z.w) c.A (call (.builtin "list.pop") [w]) Q E ay)
  (ho ρ s σ t) λv bj w aH ay bZ bP bT=>?_) λQ E h=>call_meth jP pL F.type_list_pop (P:=λU U=>True) .nil hn hl (by simp) (bp h (λv ay h₁=>⟨h₁.1,hZ h₁.2⟩) λU U x=>x)
 refine Run.loc λn e=>Run.lst λl h=>?_;refine Run.opt λy hv=>?_;refine Run.ite λhlen=>?_;subst e;exact λQ E q=>⟨bu.wK bP bT h,FZ bP h hlen hv bT λh' w R' g r'=>q w aH {ay with heap:=h'} ⟨g,h',ay.toks,rfl⟩ R' r'⟩
theorem ET {o:X}{sep:Str}{k:Nat}(ho:SX c o eo)(hn:gc eo=af)(hl:(ap.endLine==pos.line)=af):SX c (.split o sep) (.Call (.Attribute eo (st "split") ap) [.Constant (.str sep) k p] [] pos):=λρ s σ t=>by
 refine Run.w (Run.seq (W2:=λw ay Q E=>(ay.TypeIs w "str"/\∀b,w=.ref b->∃ob,ay.heap.get? b=aa ob/\ob.dict=ae)/\aE (aA c.Z.prog c.Z.w) c.A (call (.builtin "str.split") [w,.str sep ay.toks]) Q E {ay with toks:=ay.toks+1})
  (ho ρ s σ t) λv bj w aH ay bZ bP bT=>?_) λQ E h=>call_meth F.plainAttrs_str oC F.type_str_split (P:=λU U=>True) (.cons (x:=o) trivial rfl .nil) hn hl (by simp) (bp h (λv ay h₁=>⟨h₁.1,eT (vA (hZ h₁.2)) rfl⟩) λU U x=>x)
 refine Run.Jq λl hv=>?_
 .have hs:∃x,v=.str x:=by
   induction v using V.casesOn with
   |str=>exact⟨_,rfl⟩
   |_=>exact fw hv
  obtain⟨x,rfl⟩:=hs;have gb:bu aH c.X ay.heap (.str x) w:=bT;obtain⟨u,rfl⟩:=gb;exact Run.later (ay:={ay with toks:=ay.toks+1}) .tok (Run.w (Dt (s:={ay with toks:=ay.toks+1}) bP hv AJ) λQ E q=>⟨⟨vB _ _ _,λb hb=>nomatch hb⟩,q⟩)
end
theorem xM [DecidableEq K]{lJ:List (K×ax)}(k:K)(v:ax)(h:(lJ.map (·.1)).Nodup):((pQ lJ k v).map (·.1)).Nodup:=by
 delta pQ
 split
 .have:(lJ.map λkv=>if kv.1=k then(kv.1,v)else kv).map (·.1)=lJ.map (·.1):=by rw[tc];exact El λa U=>by dsimp only[Function.comp];split<;>simp_all
  first|(rw[this];exact h)|skip
 .rename_i hn
  rw[bM,List.nodup_append];refine⟨h,by simp,λa ha b hb=>?_⟩;simp only[eN,s9,au]at hb;subst hb;rintro rfl;apply hn;refine dC (bX.mp ha) λx hx e=>?_;simp only[mZ,decide_eq_true_eq];exact⟨x,hx,e⟩
theorem fu.fold {K:Type}[DecidableEq K]{X:List aK}{ρ:List Pl}{h:bV}(put:List (K×V)->K->V->List (K×V))(h0:∀k v,put [] k v=[(k,v)])(h1:∀j u r k v,put ((j,u)::r) k v=if j=k then(j,v)::r else(j,u)::put r k v) :
  ∀(ks:List K) (vs:List V) (ws:List ax) (acc:List (K×V)) (aw:List (K×ax)),ks.length=vs.length->bt ρ X h vs ws->fu ρ X h acc aw->(aw.map (·.1)).Nodup ->
  fu ρ X h ((ks.zip vs).foldl (λd kv=>put d kv.1 kv.2) acc) (merged aw (ks.zip ws))
 |[],vs=>λws acc aw U U r U=>by simpa[merged]using r
 |k::ks,[]=>λU U U e U U U=>by cases e
 |k::ks,v::vs=>λws acc aw e rs r hn=>by(refine mI rs.jt λw t z1 a b=>?_;subst z1);have:=fu.fold put h0 h1 ks vs t (put acc k v) (pQ aw k w) (by simpa using e) b (fu.store a r hn (λd=>put d k v) (h0 k v) λj u r=>h1 j u r k v) (xM k w hn);simpa[merged]using this
inductive rL {K:Type}(kc:K->Const):List K->List (Option bY)->Prop where
 |nil:rL kc [] []
 |cons {k:K} {n:Nat} {p:Pos} {ks:List K} {es:List (Option bY)}:rL kc ks es->rL kc (k::ks) (aa (.Constant (kc k) n p)::es)
theorem rL.all  {ks:List K}{es:List (Option bY)}(h:rL kc ks es):es.all (·.isSome)=af/\es.length=ks.length:=by
 induction h with
 |nil=>exact⟨rfl,rfl⟩
 |cons _ ih=>exact⟨by simpa using ih.1,by simpa using ih.2⟩
section
variable {c:Cx}
theorem Du [DecidableEq K](knd:KeyKind c.Z.prog c.Z.w K)(hkv:∀k t,knd.is k (kv k t)=af)
  (hke:∀k n p s (Q:ax->av->Prop) (E:ax->av->Prop),Q (kv k s.toks) {s with toks:=s.toks+1}->aE (aA c.Z.prog c.Z.w) c.A (eval (.Constant (kc k) n p) c.env) Q E s)(pos:Pos)
  {ks:List K}(hk:rL kc ks keys):∀ {xs:List X} {es:List bY},e9 (SX c) xs es->es.length=ks.length->∀ρ s σ,St c ρ σ s.heap ->
  Run c.Z [] c.X ρ s (λρ h vs Ai=>∃ws,bt ρ c.X h vs ws/\Carries knd Ai (ks.zip ws)/\ws.length=ks.length) (CH G c.Φ c.vs xs c.cs σ) (λQ E=>aE (aA c.Z.prog c.Z.w) c.A (evalPairs (pairTrees keys es c.env pos)) Q E s):=by
 induction hk with
 |nil =>
  intro xs es h hl ρ s σ t;induction h with
  |nil=>exact .tw t.rel ⟨[],.nil,(by exact trivial),rfl⟩ λQ E q=>pairTrees_nil_walk q
  |cons=>cases hl
 |@cons k n p ks keys hk ih =>
  intro xs es h hl ρ s σ t;induction h with
  |nil=>cases hl
  |@cons x e l r ha hb hr =>
   refine Run.later (ay:={s with toks:=s.toks+1}) .tok (Run.w (Run.seq (W2:=λw ay Q E=>aE (aA c.Z.prog c.Z.w) c.A (evalPairs (pairTrees keys r c.env pos)) (λAi bH=>Q ((kv k s.toks,w)::Ai) bH) E ay) (ha ρ {s with toks:=s.toks+1} σ t) λv bj w aH ay bZ bP bT=>?_)
    λQ E q=>pairTrees_cons_walk (hke k n p s _ _ q))
   refine Run.w (Run.seq (W2:=λAi bH Q E=>Q ((kv k s.toks,w)::Ai) bH) (ih hr (by simpa using hl) aH ay bj (St.go (s:={s with toks:=s.toks+1}) t bZ bP)) λvs gF Ai fU bH fN fO gb=>?_) λQ E h=>h;(refine tv gb λws a b d=>?_;try clear gb);exact .tw fO ⟨w::ws,.cons (fN.v bT) a,(by exact And.intro (hkv k _) ⟨rfl,b⟩),by simp[d]⟩ λQ E q=>q
theorem EX [DecidableEq K](knd:KeyKind c.Z.prog c.Z.w K)(hkv:∀k t,knd.is k (kv k t)=af)
  (hke:∀k n p s (Q:ax->av->Prop) (E:ax->av->Prop),Q (kv k s.toks) {s with toks:=s.toks+1}->aE (aA c.Z.prog c.Z.w) c.A (eval (.Constant (kc k) n p) c.env) Q E s)
  (mk:List (K×V)->O)(put:List (K×V)->K->V->List (K×V))(h0:∀k v,put [] k v=[(k,v)])(h1:∀j u r k v,put ((j,u)::r) k v=if j=k then(j,v)::r else(j,u)::put r k v)
  (hmk:∀ρ h p l,s8 c.Z ρ c.X h p (mk l)<->(p.d=ae/\∃lJ,h.DictOf knd p.a lJ/\fu ρ c.X h l lJ))
  {ks:List K}{xs:List X}(hk:rL kc ks keys)(h:e9 (SX c) xs es)(hl:es.length=ks.length)(ZX:ks.length<=15) :
  ∀ρ s σ (f:List V->bo->R V),(∀vs cD,f vs cD≠.bad->ks.length=vs.length/\vs.length<=15/\cD[σ.length]?=aa (mk [])/\f vs cD=.ok (.loc σ.length) (cD.set σ.length (mk ((ks.zip vs).foldl (λd kv=>put d kv.1 kv.2) [])))) ->
   St c ρ σ s.heap->Run c.Z [] c.X ρ s (TV c.X) ((CH G c.Φ c.vs xs c.cs (σ++[mk []])).bind f) (λQ E=>aE (aA c.Z.prog c.Z.w) c.A (eval (.Dict keys es pos) c.env) Q E s):=λρ s σ f hf t=>by
 have x:=Ext.push (h:=s.heap) {cls:=.type "dict",data:=.dict #[]};have nX:s.heap.objs.size∉c.X:=λq=>absurd (t.rel.vJ _ q) (gX _);obtain⟨R0,g0⟩:=t.rel.new (p:=⟨s.heap.objs.size,ae⟩) (o:=mk []) x (by simp[Pl.lW]) (by simpa[Pl.lW]using nX) (by simp) λg=>(hmk _ _ _ _).mpr ⟨rfl,[],Heap.DictOf.new _,rfl⟩;have g0':Go [] ρ s (ρ++[⟨s.heap.objs.size,ae⟩]) {s with heap:=s.heap.push {cls:=.type "dict",data:=.dict #[]}}:=⟨g0,_,s.toks,rfl⟩;have t0:St c (ρ++[⟨s.heap.objs.size,ae⟩]) (σ++[mk []]) (s.heap.push {cls:=.type "dict",data:=.dict #[]}):=St.go (s':={s with heap:=s.heap.push {cls:=.type "dict",data:=.dict #[]}}) t g0' R0;have hp:(ρ++[(⟨s.heap.objs.size,ae⟩:Pl)])[σ.length]?=aa ⟨s.heap.objs.size,ae⟩:=by rw[<- t.rel.len];simp
 have fin:∀ {aH:List Pl} {bj:bo} {ay:av} {vs:List V} {Ai:List (ax×ax)},Go [] (ρ++[⟨s.heap.objs.size,ae⟩]) {s with heap:=s.heap.push {cls:=.type "dict",data:=.dict #[]}} aH ay->Rel c.Z aH c.X bj ay.heap ->
   (∃ws,bt aH c.X ay.heap vs ws/\Carries knd Ai (ks.zip ws)/\ws.length=ks.length)->ks.length=vs.length->bj[σ.length]?=aa (mk []) ->
   Run c.Z [] c.X aH ay (TV c.X) (.ok (.loc σ.length) (bj.set σ.length (mk ((ks.zip vs).foldl (λd kv=>put d kv.1 kv.2) [])))) (λQ E=>∃lJ,Carries knd Ai lJ/\ay.heap.DictOf knd s.heap.objs.size [] /\
    ∀h',h'.DictOf knd s.heap.objs.size (merged [] lJ)->fv s.heap.objs.size ay.heap h'->Q (.ref s.heap.objs.size) {ay with heap:=h',toks:=ay.toks+Ai.length}):=by
  intro aH bj ay vs Ai bZ bP r e Cy Q E q;(refine tv r λws a b d=>?_;try clear r);have GP:aH[σ.length]?=aa ⟨s.heap.objs.size,ae⟩:=by refine dC bZ.grow.pre λδ z1 U=>?_;rw[z1,aZ (by simp[t.rel.len])];exact hp
  have ob:=(hmk _ _ _ _).mp (bP.obj _ _ _ GP Cy);obtain⟨_,lJ,d1,p1⟩:=ob;subst p1;refine⟨ks.zip ws,b,d1,λh' d2 sb=>?_⟩;obtain⟨fO,fN⟩:=bP.set (o:=mk ((ks.zip vs).foldl (λd kv=>put d kv.1 kv.2) [])) GP (x:=s.heap.objs.size) (.head _) sb λg=>(hmk _ _ _ _).mpr ⟨rfl,_,d2,fu.fold put h0 h1 ks vs ws [] [] e (bt.mono g (λU q=>nomatch q) (λU q=>.inl q) _ _ a) (rfl) (by simp)⟩;exact q _ _ {ay with heap:=h',toks:=ay.toks+Ai.length} ⟨fN,h',_,rfl⟩ fO (by exact bB _ ⟨GP,rfl⟩)
 by_cases oO:keys=[]
 .subst oO;cases hk;induction h with
  |cons=>cases hl
  |nil =>
   refine(?_:Run _ _ _ _ _ _ (f [] (σ++[mk []])) _);refine Run.KH λnb=>?_;refine o03 (hf _ _ nb) λU U U e=>?_;rw[e];refine .ok g0' (cD:=_) ?_ (b:=.ref s.heap.objs.size) ?_ λQ E q=>wpAny_Dict_empty q
   .have:(σ++[mk []]).set σ.length (mk (([].zip []).foldl (λd (kv:K×V)=>put d kv.1 kv.2) []))=σ++[mk []]:=by simp
    rw[this];exact R0
   .exact bB _ ⟨hp,rfl⟩
 .have ZF:=hk.all;refine Run.later g0' (Run.w (Run.seq (W2:=λAi ay Q E=>∃lJ,Carries knd Ai lJ/\ay.heap.DictOf knd s.heap.objs.size [] /\
   ∀h',h'.DictOf knd s.heap.objs.size (merged [] lJ)->fv s.heap.objs.size ay.heap h'->Q (.ref s.heap.objs.size) {ay with heap:=h',toks:=ay.toks+Ai.length})
   (Du knd hkv hke pos hk h hl _ {s with heap:=s.heap.push {cls:=.type "dict",data:=.dict #[]}} _ t0) λvs bj Ai aH ay bZ bP r=>?_) λQ E q=>wpAny_Dict_walk ZF.1 (ZF.2.trans hl.symm) oO (by rw[ZF.2];exact ZX) q)
  refine Run.KH λnb=>?_;refine o03 (hf _ _ nb) λe1 U e3 e4=>?_;rw[e4];exact fin bZ bP r e1 e3
theorem Gg {α:Type}{c:Prop}[Decidable c]{r:R α}(h:(if c then r else .bad)≠.bad):c/\r≠.bad:=by
 by_cases hc:c
 .rw[if_pos hc]at h;exact⟨hc,h⟩
 .rw[if_neg hc]at h;exact absurd rfl h
theorem Jv {α:Type}{o:Option O}{r:R α}(h:(match o with|some (.cJ [])=>r|_=>.bad)≠.bad):o=aa (.cJ []):=by rcases o with _|⟨_|⟨_|_⟩|_|_⟩<;>first|rfl|exact absurd rfl h
theorem Ju {α:Type}{o:Option O}{r:R α}(h:(match o with|some (.dN [])=>r|_=>.bad)≠.bad):o=aa (.dN []):=by rcases o with _|⟨_|_|⟨_|_⟩|_⟩<;>first|rfl|exact absurd rfl h
theorem IG {ks:List Int}{xs:List X}(hk:rL .int ks keys)(h:e9 (SX c) xs es)(hl:es.length=ks.length)(ZX:ks.length<=15):SX c (.z4 ks xs) (.Dict keys es pos):=λρ s σ t=>by refine EX (kv:=λk t=>.int k t) (intKind c.Z.prog c.Z.w) (λk t=>pU _ _ _ _) (λk n p s Q E q=>wpAny_Constant_int q) .cJ nU (λU U=>rfl) (λU U U U U=>rfl) (λU U U U=>Iff.rfl) hk h hl ZX ρ s σ _ (λvs cD nb=>?_) t;obtain⟨e,nb⟩:=Gg nb;have e':=Jv nb;rw[if_pos e];exact⟨e.1,e.2,e',by rw[e']⟩
theorem IF {ks:List Str}{xs:List X}(hk:rL .str ks keys)(h:e9 (SX c) xs es)(hl:es.length=ks.length)(ZX:ks.length<=15):SX c (.sY ks xs) (.Dict keys es pos):=λρ s σ t=>by refine EX (kv:=λk t=>.str k t) (strKind c.Z.prog c.Z.w) (λk t=>vC _ _ _ _) (λk n p s Q E q=>vA q) .dN lQ (λU U=>rfl) (λU U U U U=>rfl) (λU U U U=>Iff.rfl) hk h hl ZX ρ s σ _ (λvs cD nb=>?_) t;obtain⟨e,nb⟩:=Gg nb;have e':=Ju nb;rw[if_pos e];exact⟨e.1,e.2,e',by rw[e']⟩
theorem QT (D:Ok c mg mb){xs:List X}(hk:c.env.kindOf (st "Unit")=aa .globalImplicit)(h:e9 (SX c) xs es)(oO:xs≠[]):SX c (.mk xs) (.Call (.Name (st "Unit") np) es [] pos):=λρ s σ t=>by
 refine tv D.ini λfI hfa hfi hft=>?_;refine Run.w (Run.seq (W2:=λws ay Q E=>c.Z.K.In ay.heap/\aE (aA c.Z.prog c.Z.w) c.A (call (.ref c.Z.C) ws) Q E ay) (tq h pos ρ s σ t) λvs bj ws aH ay bZ bP bT=>?_)
  λQ E q=>jX (lP D.zV t hk (by decide) D.zV.un ?_)
 .have eV:=t.go bZ bP;have KI:c.Z.K.In ay.heap:=D.k.Qj.keeps bP.keep;have x:=(Ext.push (h:=ay.heap) yx).trans (Ext.push (instObj c.Z.C ay.heap.objs.size));have nX:∀y∈(⟨ay.heap.objs.size+1,aa ay.heap.objs.size⟩:Pl).lW,ay.heap.objs.size<=y:=by simp[Pl.lW]
  obtain⟨R2,g2⟩:=bP.new (p:=⟨ay.heap.objs.size+1,aa ay.heap.objs.size⟩) (o:=.inst []) x nX (λy hy q=>absurd (bP.vJ _ q) (bO.mpr (nX y hy))) (by simp) λg=>by
   refine⟨ay.heap.objs.size,[],0,rfl,?_,?_,by delta gY;induction fields using List.casesOn<;>rfl⟩
   .refine(?_:((ay.heap.push yx).push (instObj c.Z.C ay.heap.objs.size)).get? (ay.heap.objs.size+1)=_)
    heap_get
   .exact br _ (cE _ rfl)
  have g2':Go [] aH ay (aH++[⟨ay.heap.objs.size+1,aa ay.heap.objs.size⟩]) {ay with heap:=(ay.heap.push yx).push (instObj c.Z.C ay.heap.objs.size)}:=⟨g2,_,ay.toks,rfl⟩;have rs:bt (aH++[⟨ay.heap.objs.size+1,aa ay.heap.objs.size⟩]) c.X ((ay.heap.push yx).push (instObj c.Z.C ay.heap.objs.size)) (.loc bj.length::vs) (.ref (ay.heap.objs.size+1)::ws) :=
   .cons (by exact bB ⟨ay.heap.objs.size+1,aa ay.heap.objs.size⟩ ⟨by rw[<- bP.len];simp,rfl⟩) (bt.mono g2 (λU q=>nomatch q) (λU q=>.inl q) _ _ bT)
  have call:=D.mkc c.X ws GJ fI hfa _ {ay with heap:=(ay.heap.push yx).push (instObj c.Z.C ay.heap.objs.size)} _ _ _ R2 (St.go eV g2' R2).oq rs;refine Run.later g2' (Run.w (Run.seq (W2:=λw bH Q E=>w=.none/\Q (.ref (ay.heap.objs.size+1)) bH) call λr gF w fU bH fN qQ zi=>?_) λQ E q=>⟨KI,pO ?_⟩)
  .refine Run.vno λe=>?_
   .subst e;subst zi;refine .tw (b:=.ref (ay.heap.objs.size+1)) qQ ?_ λQ E q=>⟨rfl,q⟩;refine bB (⟨ay.heap.objs.size+1,aa ay.heap.objs.size⟩) ⟨?_,rfl⟩;refine dC fN.grow.pre λδ z1 U=>?_;rw[z1,aZ (by simp[bP.len]),<- bP.len];simp
  .obtain⟨hh,g,d,tk,os⟩:=ay;refine make_core (makes_of KI D.mki) (looks_findIn KI hfi) (λself=>bind_fn KI self hft) (.inl rfl) (codeAny_mono q λr s' z=>?_);rcases r with e|(v|_|_|_)<;>first|exact z|exact z.elim
 .exact callWith_of (P:=c.Z.K.In) (by rw[jv h];rfl) (keeps_K D.kp) (mz h q)
end
theorem rj   {t:Sem Fin}{fs:List Frame}{s:av}{e:End}(h:Runs M Γ p t fs s e s'):s.heap.objs.size<=s'.heap.objs.size:=by induction h<;>(try simp only[Shared.setGen,jC,iC]at *)<;>lia
theorem AE   {g:Nat}{r:Resume}{s:av}{res:GenResult}(h:Wakes M Γ p g r s res s'):s.heap.objs.size<=s'.heap.objs.size:=by
 delta Wakes at h;induction e:s.gens[g]? with
 |none=>rw[e]at h;exact h.elim
 |some st =>
  rw[e]at h;induction st using GenState.casesOn with
  |fresh c =>
   induction r using Resume.casesOn with
   |send v =>
    induction v using Value.casesOn with
    |none=>refine o23 h λU ay x U U z1=>?_;rw[z1];exact(rj x:(s.setGen g .running).heap.objs.size<=ay.heap.objs.size)
    |_=>rw[h.2];exact aO _
   |throw x=>rw[h.2];exact aO _
  |suspended=>refine o23 h λU ay x U U z1=>?_;rw[z1];exact(rj x:(s.setGen g .running).heap.objs.size<=ay.heap.objs.size)
  |_=>rw[h.2];exact aO _
theorem Io {α:Type}(M:Model)(Γ:Ctx)(n:Nat)(t:Sem α):∀(Q:α->Pos->av->Prop) (E:ax->Pos->av->Prop) (p:Pos) (s:av),n<=s.heap.objs.size->Sem.wp M Γ t Q E p s ->
  Sem.wp M Γ t (λa p' s'=>n<=s'.heap.objs.size/\Q a p' s') (λe p' s'=>n<=s'.heap.objs.size/\E e p' s') p s:=by
 induction t with
 |pure a=>exact λQ E p s hn h=>⟨hn,h⟩
 |raise e=>exact λQ E p s hn h=>⟨hn,h⟩
 |load a _ k ih=>exact λQ E p s hn h=>let ⟨o,ho,x⟩:=h;⟨o,ho,ih o Q E p s hn x⟩
 |update a _ f k ih=>exact λQ E p s hn h=>⟨h.1,ih () Q E p _ (by show n<=(s.heap.update a f).objs.size;rw[jC];exact hn) h.2⟩
 |alloc o k ih=>exact λQ E p s hn h=>ih _ Q E p _ (by show n<=(s.heap.push o).objs.size;rw[iC];exact Og hn) h
 |choose src m k ih=>exact λQ E p s hn h=>⟨h.1,ih _ Q E p _ hn h.2⟩
 |call c hd _ _ k ih=>exact λQ E p s hn h=>let ⟨r,s',hr,x⟩:=h;⟨r,s',hr,ih r Q E p s' (aQ hn (rj hr)) x⟩
 |genState g k ih=>exact λQ E p s hn h=>let ⟨st,hs,x⟩:=h;⟨st,hs,ih _ Q E p s hn x⟩
 |resume g r _ k ih=>exact λQ E p s hn h=>let ⟨res,s',hw,x⟩:=h;⟨res,s',hw,ih res Q E p s' (aQ hn (AE hw)) x⟩
 | «at» p' k ih=>exact λQ E p s hn h=>ih () Q E p' s hn h
 |rule _ k ih=>exact λQ E p s hn h=>ih () Q E p s hn h
 |point _ k ih=>exact λQ E p s hn h=>ih () Q E p s hn h
 |loadIfAlive a k ih=>exact λQ E p s hn h=>ih _ Q E p s hn h
 |fresh k ih=>exact λQ E p s hn h=>ih _ Q E p _ hn h
 |ask k ih=>exact λQ E p s hn h=>ih _ Q E p s hn h
 |os q _ k ih=>exact λQ E p s hn h=>ih _ Q E p _ hn h
 |handled own k ih=>exact λQ E p s hn h=>ih _ Q E p s hn h
 |newGen c k ih=>exact λQ E p s hn h=>ih _ Q E p _ hn h
 |stack k ih=>exact λQ E p s hn h=>ih _ Q E p s hn h
 |thread k ih=>exact λQ E p s hn h=>ih _ Q E p s hn h
 |_=>exact λQ E p s hn h=>h
theorem gP {α:Type}{s:av}{t:Sem α}{Q:α->av->Prop}{E:ax->av->Prop}
  (h:aE M A t (λa s'=>s.heap.objs.size<=s'.heap.objs.size->Q a s') E s):aE M A t Q E s :=
 λΓ p hΓ=>Sem.wp_mono M Γ t (λU U U x=>x.2 x.1) (λU U U x=>x.2) p s (Io M Γ _ t _ _ p s (aO _) (h Γ p hΓ))
def vv (F:List aK)(h h':bV):Prop:=∀b o,b∉F->h.get? b=aa o->h'.get? b=aa o
theorem vv.grow {F:List aK}(x:vv F h h')(z:h.objs.size<=h'.objs.size):dH F ρ h ρ h' :=
 ⟨⟨[],by simp,λU hp=>nomatch hp⟩,z,λb o e U n=>⟨o.slots,x b o n e,λU=>rfl⟩⟩
theorem Rel.DT {F X:List aK}(R:Rel Z ρ X σ h)(x:vv F h h')(z:h.objs.size<=h'.objs.size)(m:∀b∈F,b∈X):Rel Z ρ X σ h' :=
 R.step (F:=F) (x.grow z) m (λU q=>.inl q) (λp hp y hy=>by obtain⟨o,e⟩:=R.there hp hy;rw[e];exact x y o (λq=>(R.ge p hp y hy).2 (m y q)) e)
  (λb o e=>x b o (λq=>absurd (bx e) (bO.mpr (R.D6 b (m b q)))) (R.keep b o e)) (λp hp y hy=>(R.ge p hp y hy).2) λb hb=>bK (R.vJ b hb) z
inductive dE (ρ:List Pl)(X:List aK)(h:bV):List aK->aK->IK->Nat->Prop where
 |lst {a it:aK} {l:List V} {vs:List ax} {i:Nat} (o:Off ρ a) (x:a∉X) (p:h.PlainList a vs.toArray) (r:bt ρ X h l vs) (t:h.IsListIter it a i):dE ρ X h [it] it (.items l) i
 |tup {a it:aK} {l:List V} {vs:List ax} {i:Nat} (o:Off ρ a) (x:a∉X) (p:TupAt h a vs) (r:bt ρ X h l vs) (t:h.IsTupleIter it a i):dE ρ X h [it] it (.items l) i
 |nz {it:aK} {a b:Int} {i:Nat} (t:IsRangeIter h it (a+i) ((b-a).toNat-i) 1) (hi:i<=(b-a).toNat):dE ρ X h [it] it (.items (iw a b)) i
 |live {it:aK} {n:Nat} {p:Pl} {i:Nat} (e:ρ[n]?=aa p) (t:h.IsListIter it p.a i):dE ρ X h [it] it (.live n ag) i
 |pC {e it:aK} {n:Nat} {p:Pl} {i:Nat} {old:ax} (k:ρ[n]?=aa p) (ne:e≠it) (t:IsEnum h e it i old) (t':h.IsListIter it p.a i):dE ρ X h [e,it] e (.live n af) i
theorem dE.noDict {X:List aK}{own:List aK}{i:Nat}(I:dE ρ X h own it k i){L:aK}{o:Obj}{es:Array fZ}{n:Nat}(q:L∈own)(ho:h.get? L=aa o)(hd:o.data=.dict es n):False:=by
 have key:∀ {o':Obj},h.get? L=aa o'->(∀es n,o'.data≠.dict es n)->False:=λ{o'} e hn=>hn _ _ (aj (e.symm.trans ho)▸hd);induction I with
 |lst _ _ _ _ t=>obtain⟨o2,e2,_,d2⟩:=t;exact key (au.mp q▸e2) λU U z=>nomatch d2.symm.trans z
 |tup _ _ _ _ t=>obtain⟨o2,e2,_,d2⟩:=t;exact key (au.mp q▸e2) λU U z=>nomatch d2.symm.trans z
 |nz t _=>exact key (au.mp q▸t) λU U z=>by exact bk z
 |live _ t=>obtain⟨o2,e2,_,d2⟩:=t;exact key (au.mp q▸e2) λU U z=>nomatch d2.symm.trans z
 |pC _ _ t t' =>
  rcases aN.mp q with q|q
  .exact key (q▸t) λU U z=>by exact bk z
  .obtain⟨o2,e2,_,d2⟩:=t';exact key (au.mp q▸e2) λU U z=>nomatch d2.symm.trans z
theorem lz {F:List aK}{l:aK}{i:Nat}(t:h.IsListIter it l i)(g:dH F ρ h bJ h')(k:Off ρ it)(n:it∉F):h'.IsListIter it l i:=by(refine tv t λo e c d=>?_;try clear t);refine dC (g.ev it _ e k n) λsl e' U=>?_;exact⟨_,e',c,d⟩
theorem xK {F:List aK}{l:aK}{i:Nat}(t:h.IsTupleIter it l i)(g:dH F ρ h bJ h')(k:Off ρ it)(n:it∉F):h'.IsTupleIter it l i:=by(refine tv t λo e c d=>?_;try clear t);refine dC (g.ev it _ e k n) λsl e' U=>?_;exact⟨_,e',c,d⟩
theorem lN {F:List aK}{o:Obj}(e:h.get? it=aa o)(hd:∀es n,o.data≠.dict es n)(g:dH F ρ h bJ h')(k:Off ρ it)(n:it∉F):h'.get? it=aa o:=by refine dC (g.ev it _ e k n) λsl e' q=>?_;rw[e',q hd]
theorem dE.grow {F X:List aK}{own:List aK}{i:Nat}(t:dE ρ X h own it k i)(R:Rel Z ρ X σ h)(g:dH F ρ h bJ h')(hF:∀b∈F,b∈X)(ho:∀b∈own,b∈X/\b∉F):dE bJ X h' own it k i:=by
 have fx:∀ {a},a∉X->a∉F:=λn q=>n (hF _ q);have at_:∀ {n:Nat} {p:Pl},ρ[n]?=aa p->bJ[n]?=aa p:=λe=>by(refine dC g.pre λδ z1 U=>?_;subst z1);rw[aZ (aC.mp e).1];exact e
 induction t with
 |lst o x p r t =>have o':=ho _ (.head _);refine .lst ?_ x (uw p g o (fx x)) (bt.mono g hF (λU q=>.inl q) _ _ r) (lz t g (R.off o'.1) o'.2);obtain⟨m,e⟩:=p;exact g.off e o
 |tup o x p r t =>have o':=ho _ (.head _);refine .tup ?_ x (p.grow (X:=X) g o (fx x)) (bt.mono g hF (λU q=>.inl q) _ _ r) (xK t g (R.off o'.1) o'.2);obtain⟨m,e⟩:=p;exact g.off e o
 |nz t hi =>have o':=ho _ (.head _);exact .nz (lN t (λU U q=>by exact bk q) g (R.off o'.1) o'.2) hi
 |live e t =>have o':=ho _ (.head _);exact .live (at_ e) (lz t g (R.off o'.1) o'.2)
 |pC k ne t t' =>have o1:=ho _ (.head _);have o2:=ho _ (.tail _ (.head _));exact .pC (at_ k) ne (lN t (λU U q=>by exact bk q) g (R.off o1.1) o1.2) (lz t' g (R.off o2.1) o2.2)
noncomputable def itemAt (k:IK)(σ:bo)(i:Nat):Option (Option V):=match k with
 |.items l=>aa l[i]?
 |.live n en=>match σ[n]? with
  |some (.list l)=>aa (l[i]?.map λx=>if en then .tup [.int i,x]else x)
  |_=>ae
noncomputable def isTup (e:bY):Bool:=eG e.ctorIdx 25
noncomputable def isName (e:bY):Bool:=eG e.ctorIdx 23
theorem GG (h:isTup e=af):∃a b c,e=.Tuple a b c:=by induction e using PySem.Expr.casesOn<;>first|exact⟨_,_,_,rfl⟩|exact jE h
theorem QP (h:(isTup e||isName e)=af):(∃a b c,e=.Tuple a b c)\/∃a b,e=.Name a b:=by induction e using PySem.Expr.casesOn<;>first|exact .inl ⟨_,_,_,rfl⟩|exact .inr ⟨_,_,rfl⟩|exact jE h
noncomputable def ady (k:IK)(t:bY):Bool:=match k with
 |.live _ af=>isTup t
 |_=>isTup t||isName t
theorem OA {t:bY}{it v:ax}(h:isName t=af):qu t it v=pure ():=by induction t using PySem.Expr.casesOn<;>first|rfl|exact jE h
theorem A9 {w:c0}{E:ax->av->Prop}{s:av}{t:bY}{e a:aK}{i:Int}{item:ax}{Q:Unit->av->Prop}(h:isTup t=af)(he:IsEnumOut s.heap e it i item a)
  (hQ:∀h',IsEnum h' e it i item->fv e s.heap h'->Q () {s with heap:=h'}):aE (aA prog w) A (qu t (.ref e) (.ref a)) Q E s:=by
 obtain⟨_,_,_,rfl⟩:=GG h;exact wpAny_letOwnedTupleGo_enum he hQ
theorem zJ  {E:ax->av->Prop}{s:av}{t:bY}{r:aK}{v:ax}{o:Obj}{Q:Unit->av->Prop}(h:(isTup t||isName t)=af)(ho:s.heap.get? r=aa o)(hc:o.cls=.type "list_iterator"\/o.cls=.type "tuple_iterator"\/o.cls=.type "range_iterator")(q:Q () s):aE M A (qu t (.ref r) v) Q E s:=by
 obtain⟨es,k,p,rfl⟩|⟨_,_,rfl⟩:=QP h
 .unfold qu;induction v with
  |ref a =>refine aq (wpAny_load ho ?_);rcases hc with e|e|e<;>rw[e]<;>cases o.data<;>exact aW q
  |_=>exact aW q
 .exact aW q
theorem uE {β:Type}{o:Option O}{f:List V->Option β}{x:β}(h:(match o with|some (.list l)=>f l|_=>ae)=aa x):∃l,o=aa (.list l)/\f l=aa x:=by
 induction o with
 |none=>exact fw h
 |some o=>induction o with
  |list l=>exact⟨l,rfl,h⟩
  |_=>exact fw h
section
variable {E:ax->av->Prop}{s:av}{X:List aK}
theorem wW {own:List aK}{it:aK}{k:IK}{i:Nat}(R:Rel Z ρ X σ s.heap)(hh:A.handled=ae)(I:dE ρ X s.heap own it k i)(ho:∀b∈own,b∈X){ov:Option V}(hi:itemAt k σ i=aa ov)
  {Qn:av->Prop}{Qs LG:ax->av->Prop}
  (lg1:(∀n,k≠.live n af)->∀w ay o,ay.heap.get? it=aa o->(o.cls=.type "list_iterator"\/o.cls=.type "tuple_iterator"\/o.cls=.type "range_iterator")->Qs w ay->LG w ay)
  (lg2:∀n,k=.live n af->∀MR j item a ay,IsEnumOut ay.heap it MR j item a->(∀h',IsEnum h' it MR j item->fv it ay.heap h'->Qs (.ref a) {ay with heap:=h'})->LG (.ref a) ay)
  (qn:ov=ae->∀s',Go own ρ s ρ s'->Rel Z ρ X σ s'.heap->Qn s')
  (qs:∀v,ov=aa v->∀w s',Go own ρ s ρ s'->Rel Z ρ X σ s'.heap->dE ρ X s'.heap own it k (i+1)->bu ρ X s'.heap v w->Qs w s') :
  aE (aA Z.prog Z.w) A (pyNext (.ref it)) (λr ay=>match r with
   |none=>Qn ay
   |some w=>LG w ay) E s:=by
 have fin:∀ {h':bV} {MR:aK},MR∈own->Heap.ExtBut MR s.heap h'->s.heap.objs.size<=h'.objs.size->Go own ρ s ρ {s with heap:=h'}/\Rel Z ρ X σ h':=λm x z=>by have b:vv own s.heap _:=λb o n e=>x b o (λq=>n (q▸m)) e;exact⟨⟨b.grow z,_,s.toks,rfl⟩,R.DT b z ho⟩
 have mono:∀ {h':bV} {v:V} {w:ax},vv own s.heap h'->s.heap.objs.size<=h'.objs.size->bu ρ X s.heap v w->bu ρ X h' v w:=λb z r=>bu.mono (b.grow z) ho (λU q=>.inl q) _ _ r;have ML:∀ {h':bV} {v:List V} {w:List ax},vv own s.heap h'->s.heap.objs.size<=h'.objs.size->bt ρ X s.heap v w->bt ρ X h' v w:=λb z r=>bt.mono (b.grow z) ho (λU q=>.inl q) _ _ r;induction I with
 |@lst a it l vs i o x p r t =>
  obtain rfl:=aj hi;have nx:a∉[it]:=λq=>x (ho a q);cases hv:l[i]? with
  |none =>
   have hn:vs.toArray[i]?=ae:=by have:=r.length;simp at hv ⊢;exact Jl this hv
   exact gP (wpAny_pyNext_list_end hh t p.isList hn λh' e z=>let ⟨g,R'⟩:=fin (.head _) e z;qn hv _ g R')
  |some v =>refine dC (r.get hv) λw hw rv=>?_;refine wpAny_pyNext_list_item t p.isList (by simpa using hw) λh' t' sb=>?_;refine tv (id t') λob Zw hc U=>?_;have b:vv [it] s.heap h':=λb o n e=>(sb.2 b (λq=>n (q▸.head _))).trans e;have z:s.heap.objs.size<=h'.objs.size:=fS sb.1.symm;exact lg1 (λU q=>by exact Internal.IK.noConfusion q) _ _ _ Zw (.inl hc) (qs v hv w _ ⟨b.grow z,h',s.toks,rfl⟩ (R.DT b z ho) (.lst o x (uw p (b.grow (ρ:=ρ) z) o nx) (ML b z r) t') (mono b z rv))
 |@tup a it l vs i o x p r t =>
  obtain rfl:=aj hi;have nx:a∉[it]:=λq=>x (ho a q);have pt:s.heap.IsTuple a vs.toArray:=let ⟨n,e⟩:=p;⟨_,e,rfl,n,rfl⟩
  cases hv:l[i]? with
  |none =>
   have hn:vs.toArray[i]?=ae:=by have:=r.length;simp at hv ⊢;exact Jl this hv
   exact gP (wpAny_pyNext_tuple_end hh t pt hn λh' e z=>let ⟨g,R'⟩:=fin (.head _) e z;qn hv _ g R')
  |some v =>refine dC (r.get hv) λw hw rv=>?_;refine wpAny_pyNext_tuple_item t pt (by simpa using hw) λh' t' sb=>?_;refine tv (id t') λob Zw hc U=>?_;have b:vv [it] s.heap h':=λb o n e=>(sb.2 b (λq=>n (q▸.head _))).trans e;have z:s.heap.objs.size<=h'.objs.size:=fS sb.1.symm;exact lg1 (λU q=>by exact Internal.IK.noConfusion q) _ _ _ Zw (.inr (.inl hc)) (qs v hv w _ ⟨b.grow z,h',s.toks,rfl⟩ (R.DT b z ho) (.tup o x (p.grow (X:=X) (b.grow (ρ:=ρ) z) o nx) (ML b z r) t') (mono b z rv))
 |@nz it a b i t hle =>
  obtain rfl:=aj hi;by_cases hl:i<(b-a).toNat
  .have hv:(iw a b)[i]?=aa (.int (a+i)):=by unfold iw;simp[hl]
   refine wpAny_pyNext_range_item t (acb hle hl) λh' t' sb=>?_;have bb:vv [it] s.heap h':=λb o n e=>(sb.2 b (λq=>n (q▸.head _))).trans e;have z:s.heap.objs.size<=h'.objs.size:=fS sb.1.symm;refine lg1 (λU q=>by exact Internal.IK.noConfusion q) _ _ _ t' (.inr (.inr rfl)) (qs _ hv _ _ ⟨bb.grow z,h',s.toks+1,rfl⟩ (R.DT bb z ho) (.nz ?_ hl) mU);have e1:a+(i:Int)+1=a+((i+1:Nat):Int):=by exact aca
   have e2:((b-a).toNat:Int)-i-1=((b-a).toNat:Int)-((i+1:Nat):Int):=by exact ab9
   rw[e1,e2]at t';exact t'
  .have hv:(iw a b)[i]?=ae:=by unfold iw;simp;exact ab8 hle hl
   exact gP (wpAny_pyNext_range_end hh t (ab7 hle hl) λh' e z=>let ⟨g,R'⟩:=fin (.head _) e z;qn hv _ g R')
 |@live it n p i e t =>
  change (match σ[n]? with
   |some (.list l)=>aa (l[i]?.map λx=>if ag=af then .tup [.int i,x]else x)
   |_=>ae)=aa ov at hi
  obtain⟨l,hl,hi⟩:=uE hi
  .obtain rfl:=aj hi;obtain⟨_,vs,t1,q1⟩:=R.obj n p _ e hl;cases hv:l[i]? with
   |none =>
    have hn:vs.toArray[i]?=ae:=by have:=q1.length;simp at hv ⊢;exact Jl this hv
    exact gP (wpAny_pyNext_list_end hh t t1.isList hn λh' e z=>let ⟨g,R'⟩:=fin (.head _) e z;qn (by rw[hv];rfl) _ g R')
   |some v =>refine dC (q1.get hv) λw hw rv=>?_;refine wpAny_pyNext_list_item t t1.isList (by simpa using hw) λh' t' sb=>?_;refine tv (id t') λob Zw hc U=>?_;have b:vv [it] s.heap h':=λb o n e=>(sb.2 b (λq=>n (q▸.head _))).trans e;have z:s.heap.objs.size<=h'.objs.size:=fS sb.1.symm;exact lg1 (λU q=>by cases q) _ _ _ Zw (.inl hc) (qs v (by rw[hv];rfl) w _ ⟨b.grow z,h',s.toks,rfl⟩ (R.DT b z ho) (.live e t') (mono b z rv))
 |@pC e0 MR n p i old e' ne t t' =>
  change (match σ[n]? with
   |some (.list l)=>aa (l[i]?.map λx=>if af=af then V.tup [.int i,x]else x)
   |_=>ae)=aa ov at hi
  obtain⟨l,hl,hi⟩:=uE hi
  .obtain rfl:=aj hi;obtain⟨_,vs,t1,q1⟩:=R.obj n p _ e' hl;cases hv:l[i]? with
   |none =>
    have hn:vs.toArray[i]?=ae:=by have:=q1.length;simp at hv ⊢;exact Jl this hv
    exact gP (wpAny_pyNext_enum_end hh t t' t1.isList hn λh' e z=>let ⟨g,R'⟩:=fin (.tail _ (.head _)) e z;qn (by rw[hv];rfl) _ g R')
   |some v =>
    refine dC (q1.get hv) λw hw rv=>?_;refine wpAny_pyNext_enum_item t t' t1.isList (by simpa using hw) ne λh' he hi' ht' hz hk=>?_;have hel:e0<s.heap.objs.size:=bx t;have ne':e0≠s.heap.objs.size:=dh hel;refine lg2 n rfl _ _ _ _ _ he λfk zS sb=>?_;have b:vv [e0,MR] s.heap fk:=λb o nb eb=>(sb.2 b (λq=>nb (q▸.head _))).trans (hk b o (λq=>nb (q▸.head _)) (λq=>nb (q▸.tail _ (.head _))) eb);have z:s.heap.objs.size<=fk.objs.size:=by rw[sb.1];show _<=h'.objs.size;exact FQ hz
    have hw2:fk.get? s.heap.objs.size=aa {cls:=.type "tuple",data:=.seq #[.int i s.toks,w]}:=(sb.2 _ (lF ne')).trans ht';refine qs (.tup [.int i,v]) (by rw[hv];rfl) _ _ ⟨b.grow z,fk,s.toks+1,rfl⟩ (R.DT b z ho) (.pC e' ne zS ?_) ?_
    ·(refine tv hi' λoi yv ci di=>?_;try clear hi');exact⟨oi,(sb.2 _ (lF ne)).trans yv,ci,di⟩
    .refine bB (s.heap.objs.size) ⟨[.int i s.toks,w],rfl,λp hp q=>absurd (R.lt hp q) (gX _),λq=>absurd (R.vJ _ q) (gX _),⟨0,hw2⟩,.cons mU (.cons (mono b z rv) .nil)⟩
end
section
variable {c:Cx}
theorem GC {v:V}(h:iY v σ=.ok k cD):cD=σ/\∀n en,k=.live n en->en=ag:=by
 induction v using V.casesOn with
 |loc n =>
  change (if uQ σ (.loc n)=af then Internal.R.ok (IK.live n ag) σ else .bad)=_ at h;by_cases hl:uQ σ (.loc n)=af
  .rw[if_pos hl]at h;(obtain⟨rfl,rfl⟩:=rI h);exact⟨rfl,λU U e=>by(obtain⟨rfl,rfl⟩:=Internal.IK.live.inj e);rfl⟩
  .rw[if_neg hl]at h;exact Rb h
 |_=>first|exact Rb h|(obtain⟨rfl,rfl⟩:=rI h;exact⟨rfl,λU U e=>nomatch e⟩)
theorem wX {v:V}(h:iY v σ=.exc cD):False:=by
 induction v using V.casesOn with
 |loc n =>
  change (if uQ σ (.loc n)=af then Internal.R.ok (IK.live n ag) σ else .bad)=_ at h;by_cases hl:uQ σ (.loc n)=af
  .rw[if_pos hl]at h;exact Ra h
  .rw[if_neg hl]at h;exact B8 h
 |_=>first|exact B8 h|exact Ra h
theorem Go.qB {F own:List aK}{s:av}(g:Go (own++F) ρ s bJ s')(h:∀b∈own,s.heap.objs.size<=b):Go F ρ s bJ s' :=
 ⟨⟨g.grow.pre,g.grow.size,λb o e k n=>g.grow.ev b o e k λq=>(bg.mp q).elim (λz=>absurd (bx e) (bO.mpr (h b z))) n⟩,g.same⟩
theorem Run.own {α β:Type}{F X:List aK}{s:av}{T:List Pl->bV->α->β->Prop}{r:R α}{W:(β->av->Prop)->(ax->av->Prop)->Prop}{W2:aK->av->(β->av->Prop)->(ax->av->Prop)->Prop}{P:List aK->av->aK->Prop}
  (c:∀Q E,(∀own s' it,Go [] ρ s ρ s'->(∀b∈own,s.heap.objs.size<=b)->P own s' it->W2 it s' Q E)->W Q E)(K:∀own s' it,Go [] ρ s ρ s'->(∀b∈own,s.heap.objs.size<=b)->P own s' it->Run Z (own++F) X ρ s' T r (W2 it s')):Run Z F X ρ s T r W:=by
 induction r with
 |bad=>trivial
 |ok a σ=>exact λQ E q=>c Q E λown s' it g fr p=>K own s' it g fr p Q E λb bJ lL g'=>q b bJ lL ((g.any.trans g').qB fr)
 |exc σ=>exact λQ E q=>c Q E λown s' it g fr p=>K own s' it g fr p Q E λb bJ lL g' R' y=>q b bJ lL ((g.any.trans g').qB fr) R' (y.mH g.grow.size)
theorem Run.OH {α β:Type}{F X:List aK}{s:av}{T:List Pl->bV->α->β->Prop}{W:(β->av->Prop)->(ax->av->Prop)->Prop}{c:Prop}[Decidable c]{r:R γ}{f:γ->bo->R α}(h:c->Run Z F X ρ s T (r.bind f) W):Run Z F X ρ s T ((if c then r else .bad).bind f) W:=by
 by_cases hc:c
 .rw[if_pos hc];exact h hc
 .rw[if_neg hc];trivial
def s6 (c:Cx)(y:X)(e:bY):Prop:=∀(ρ:List Pl) (s:av) (σ:bo),St c ρ σ s.heap->∀{α β:Type} {F:List aK} {T:List Pl->bV->α->β->Prop} {f:IK->bo->R α} {W2:ax->av->(β->av->Prop)->(ax->av->Prop)->Prop},
 (∀k bj aH ay it own,Go [] ρ s aH ay->Rel c.Z aH (own++c.X) bj ay.heap->dE aH (own++c.X) ay.heap own it k 0->(∀b∈own,s.heap.objs.size<=b)->(∀n en,k=.live n en->en=af->∃a,y=.pC a)->Run c.Z (own++F) c.X aH ay T (f k bj) (W2 (.ref it) ay)) ->
 Run c.Z F c.X ρ s T ((uX G c.Φ c.vs y c.cs σ).bind f) (λQ E=>aE (aA c.Z.prog c.Z.w) c.A (eval e c.env) (λx ay=>aE (aA c.Z.prog c.Z.w) c.A (pR x) (λit bH=>W2 it bH Q E) E ay) E s)
theorem Run.I0 {α β:Type}{F X:List aK}{s:av}{T:List Pl->bV->α->β->Prop}{r:R α}{f:α->bo->R K0}
  {W:(β->av->Prop)->(ax->av->Prop)->Prop}{W2:β->av->(KZ->av->Prop)->(ax->av->Prop)->Prop}
  (h:Run Z [] X ρ s T r W)(k:∀a cD b bJ s',Go [] ρ s bJ s'->Rel Z bJ X cD s'.heap->T bJ s'.heap a b->Run Z F X bJ s' T' (f a cD) (W2 b s')) :
  Run Z F X ρ s T' (r.bind f) (λQ E=>W (λb s1=>W2 b s1 Q E) E):=by
 induction r with
 |bad=>trivial
 |exc σ=>exact λQ E q=>h _ E λe bJ s' g=>q e bJ s' g.any
 |ok a σ =>
  refine(?_:Run Z F X ρ s T' (f a σ) _);have k:=λb bJ s' g R t=>k a σ b bJ s' g R t;induction hf:f a σ with
  |bad=>trivial
  |exc cD =>refine λQ E q=>h _ E λb bJ s' g R t=>?_;have:=k b bJ s' g R t;rw[hf]at this;exact this Q E λe kr lL g' R' y=>q e kr lL (g.any.trans g') R' (y.mH g.grow.size)
  |ok a' cD =>refine λQ E q=>h _ E λb bJ s' g R t=>?_;have:=k b bJ s' g R t;rw[hf]at this;exact this Q E λb' kr lL g' R' y=>q b' kr lL (g.any.trans g') R' y
theorem Rel.plus {X own:List aK}(R:Rel Z ρ X σ h)(x:Ext h h')(ho:∀b∈own,h.objs.size<=b/\b<h'.objs.size):Rel Z ρ (own++X) σ h' :=
 R.own x λb hb=>(bg.mp hb).elim (λq=>.inr (ho b q)) .inl
theorem bu.plus {X own:List aK}{v:V}{w:ax}(r:bu ρ X h v w)(x:Ext h h')(ho:∀b∈own,h.objs.size<=b):bu ρ (own++X) h' v w :=
 bu.mono (F:=[]) x.grow (λU q=>nomatch q) (λb hb=>(bg.mp hb).elim (λq=>.inr (ho b q)) .inl) _ _ r
theorem bt.plus {X own:List aK}{v:List V}{w:List ax}(r:bt ρ X h v w)(x:Ext h h')(ho:∀b∈own,h.objs.size<=b):bt ρ (own++X) h' v w :=
 bt.mono (F:=[]) x.grow (λU q=>nomatch q) (λb hb=>(bg.mp hb).elim (λq=>.inr (ho b q)) .inl) _ _ r
theorem uN  {s:av}{v:V}{w:ax}(R:Rel c.Z ρ c.X σ s.heap)(r:bu ρ c.X s.heap v w)(hk:iY v σ=.ok k σ){Q:ax->av->Prop}{E:ax->av->Prop}
  (q:∀it own h',Go [] ρ s ρ {s with heap:=h'}->Rel c.Z ρ (own++c.X) σ h'->dE ρ (own++c.X) h' own it k 0->(∀b∈own,s.heap.objs.size<=b)->Q (.ref it) {s with heap:=h'}) :
  aE (aA c.Z.prog c.Z.w) c.A (pR w) Q E s:=by
 have fr:∀b∈[s.heap.objs.size],s.heap.objs.size<=b:=by simp
 have fr':∀o:Obj,∀b∈[s.heap.objs.size],s.heap.objs.size<=b/\b<(s.heap.push o).objs.size:=by simp
 have YS:∀ {a:aK} {o:Obj},s.heap.get? a=aa o->a∉c.X->a∉[s.heap.objs.size]++c.X:=λe n q=>(bg.mp q).elim (λz=>by rw[au.mp z]at e;exact absurd (bx e) (gX _)) n;unfold iY at hk;induction v using V.casesOn with
 |lst l =>
  cases hk
  (refine wL r λa vs z1 o1 x1 z2 q1=>?_;try clear r;subst z1;obtain⟨n,e⟩:=z2);have p:s.heap.PlainList a vs.toArray:=⟨n,e⟩;refine wpAny_pyIter_list p.isList (q _ [s.heap.objs.size] _ (Go.ext (t:=s.toks) (Ext.push _)) (R.plus (Ext.push _) (fr' _)) ?_ fr);exact .lst o1 (YS e x1) ⟨n,br _ e⟩ (q1.plus (Ext.push _) fr) ⟨_,cE _ rfl,rfl,rfl⟩
 |tup l =>
  cases hk
  (refine wL r λa vs z1 o1 x1 z2 q1=>?_;try clear r;subst z1;obtain⟨n,e⟩:=z2);refine wpAny_pyIter_tuple (items:=vs.toArray) ⟨_,e,rfl,n,rfl⟩ (q _ [s.heap.objs.size] _ (Go.ext (t:=s.toks) (Ext.push _)) (R.plus (Ext.push _) (fr' _)) ?_ fr);exact .tup o1 (YS e x1) ⟨n,br _ e⟩ (q1.plus (Ext.push _) fr) ⟨_,cE _ rfl,rfl,rfl⟩
 |loc n =>
  dsimp only at hk
  split at hk
  .rename_i hl
   cases hk
   refine Ec (Be hl) λn' l e hl=>?_;obtain rfl:=Internal.V.loc.inj e;(refine dC r λp hp z1=>?_;try clear r;subst z1);obtain⟨_,vs,t1,q1⟩:=R.obj n p _ hp hl;refine wpAny_pyIter_list t1.isList (q _ [s.heap.objs.size] _ (Go.ext (t:=s.toks) (Ext.push _)) (R.plus (Ext.push _) (fr' _)) ?_ fr);exact .live hp ⟨_,cE _ rfl,rfl,rfl⟩
  .exact Rb hk
 |_=>exact Rb hk
theorem zl {x:X}(h:SX c x e)(he:∀σ,uX G c.Φ c.vs x c.cs σ=(ev G c.Φ c.vs x c.cs σ).bind iY):s6 c x e:=λρ s σ t {α β F T f W2} K=>by
 rw[he,R.bind_assoc];refine Run.w (Run.I0 (W2:=λw ay Q E=>aE (aA c.Z.prog c.Z.w) c.A (pR w) (λit bH=>W2 it bH Q E) E ay) (h ρ s σ t) λv bj w aH ay bZ bP bT=>?_) λQ E q=>q;cases hk:iY v bj with
 |bad=>trivial
 |exc=>exact(wX hk).elim
 |ok k gF =>
  obtain⟨e2,nl⟩:=GC hk;subst e2;refine(?_:Run _ _ _ _ _ _ (f k gF) _);have nl:∀n en,k=.live n en->en=af->∃a,x=.pC a:=λn en e e'=>by rw[nl n en e]at e';exact jE e'
  exact Run.own (P:=λown s' it=>Rel c.Z aH (own++c.X) gF s'.heap/\dE aH (own++c.X) s'.heap own it k 0) (λQ E q=>uN bP bT hk λit own h' g R I fr=>q own _ it g fr ⟨R,I⟩)
   λown s' it g fr p=>K k gF aH s' it own (bZ.trans g) p.1 p.2 (λb hb=>aQ bZ.grow.size (fr b hb)) nl
theorem DU {a b:Int}(ha:big a=af)(hb:big b=af):Builtin.Range.small a b 1=af:=by have h1:=qJ ha;have h2:=qJ hb;exact small_one (by lia) (by lia) (by lia) (by lia)
theorem uO  {s:av}{a b:Int}{t u v:Tok}(R:Rel c.Z ρ c.X σ s.heap)(ha:big a=af)(hb:big b=af){Q:ax->av->Prop}{E:ax->av->Prop}(tk:Nat)
  (q:∀it own h',Go [] ρ s ρ {s with heap:=h',toks:=tk}->Rel c.Z ρ (own++c.X) σ h'->dE ρ (own++c.X) h' own it (.items (iw a b)) 0->(∀b∈own,s.heap.objs.size<=b)->Q (.ref it) {s with heap:=h',toks:=tk}) :
  aE (aA c.Z.prog c.Z.w) c.A (pR (.ref s.heap.objs.size)) Q E {s with heap:=s.heap.push {cls:=.type "range",data:=.fields #[.int a t,.int b u,.int 1 v]},toks:=tk}:=by
 refine wpAny_pyIter_range (IsRange.new s.heap a b 1 t u v) (DU ha hb) ?_;have x:Ext s.heap ((s.heap.push {cls:=.type "range",data:=.fields #[.int a t,.int b u,.int 1 v]}).push {cls:=.type "range_iterator",data:=.fields #[oj a,oj (kU a b 1),oj 1]}):=(Ext.push _).trans (Ext.push _);refine q _ [s.heap.objs.size+1] _ (Go.ext x) (R.plus x (by simp)) ?_ (by simp);have:IsRangeIter ((s.heap.push {cls:=.type "range",data:=.fields #[.int a t,.int b u,.int 1 v]}).push {cls:=.type "range_iterator",data:=.fields #[oj a,oj (kU a b 1),oj 1]}) (s.heap.objs.size+1) (a+((0:Nat):Int)) ((b-a).toNat-((0:Nat):Int)) 1:=by
  have e1:a+((0:Nat):Int)=a:=by exact ab5
  have e2:(((b-a).toNat:Nat):Int)-((0:Nat):Int)=kU a b 1:=by rw[rangeSize_one];split<;>lia
  rw[e1,e2];exact Heap.get?_push_at (by simp) rfl
 simp only[iC];exact .nz this (bL _)
theorem Hr {Φ:Nat->List V->bo->R V}{a:X}  : uX G Φ vs (.nz [a]) cs σ=(ev G Φ vs a cs σ).bind Q8:=by refine(?_:(((ev G Φ vs a cs σ).bind λv σ=>R.ok [v] σ).bind λxs σ=>R.ok (V.tup xs) σ).bind AW=_);simp only[R.bind_assoc];rfl
theorem Hq {Φ:Nat->List V->bo->R V}{a b:X}  : uX G Φ vs (.nz [a,b]) cs σ=(ev G Φ vs a cs σ).bind λx σ=>(ev G Φ vs b cs σ).bind λy σ=>Oe x y σ:=by refine(?_:(((ev G Φ vs a cs σ).bind λv σ=>((ev G Φ vs b cs σ).bind λw σ=>R.ok [w] σ).bind λl σ=>R.ok (v::l) σ).bind λxs σ=>R.ok (V.tup xs) σ).bind AW=_);simp only[R.bind_assoc];rfl
theorem Kl {Φ:Nat->List V->bo->R V}{a:X}  : uX G Φ vs (.pC a) cs σ=(ev G Φ vs a cs σ).bind Hy:=rfl
theorem Jh (D:Ok c mg mb){a:X}(ha:SX c a ea)(hs:noStar ea=af)(hk:c.env.kindOf (st "range")=aa .globalImplicit):s6 c (.nz [a]) (.Call (.Name (st "range") np) [ea] [] pos):=λρ s σ t {α β F T f W2} K=>by
 rw[Hr,R.bind_assoc];refine Run.w (Run.I0 (W2:=λws ay Q E=>aE (aA c.Z.prog c.Z.w) c.A (call (.type "range") ws) (λx ay=>aE (aA c.Z.prog c.Z.w) c.A (pR x) (λit bH=>W2 it bH Q E) E ay) E ay) (k8 ha hs pos t) λv bj ws aH ay bZ bP bT=>?_)
  λQ E q=>qH D (by simp[gV]) hk (by decide) (.cons ha hs .nil) t q
 obtain⟨w,rfl,bT⟩:=bT;induction v using V.casesOn with
 |int i =>
  refine Run.OH λhb=>?_;obtain⟨u,rfl⟩:=bT;exact Run.own (r:=f (.items (iw 0 i)) bj) (P:=λown s' it=>Rel c.Z aH (own++c.X) bj s'.heap/\dE aH (own++c.X) s'.heap own it (.items (iw 0 i)) 0) (λQ E q=>call_range_1 (uO bP (by decide) hb.2 _ λit own h' g R I fr=>q own _ it g fr ⟨R,I⟩))
   λown s' it g fr p=>K _ bj aH s' it own (bZ.trans g) p.1 p.2 (λb hb=>aQ bZ.grow.size (fr b hb)) λU U e=>nomatch e
 |_=>trivial
theorem Jg (D:Ok c mg mb){a b:X}{eb:bY}(ha:SX c a ea)(hs:noStar ea=af)(hb:SX c b eb)(sS:noStar eb=af)(hk:c.env.kindOf (st "range")=aa .globalImplicit):s6 c (.nz [a,b]) (.Call (.Name (st "range") np) [ea,eb] [] pos):=λρ s σ t {α β F T f W2} K=>by
 have e:(uX G c.Φ c.vs (.nz [a,b]) c.cs σ).bind f=((ev G c.Φ c.vs a c.cs σ).bind λx σ=>(ev G c.Φ c.vs b c.cs σ).bind λy σ=>.ok (x,y) σ).bind λp σ=>(Oe p.1 p.2 σ).bind f:=by
  rw[Hq];simp only[R.bind_assoc]
  try rfl
 rw[e];refine Run.w (Run.I0 (W2:=λws ay Q E=>aE (aA c.Z.prog c.Z.w) c.A (call (.type "range") ws) (λx ay=>aE (aA c.Z.prog c.Z.w) c.A (pR x) (λit bH=>W2 it bH Q E) E ay) E ay) (B6 ha hb hs sS pos t) λv bj ws aH ay bZ bP bT=>?_)
  λQ E q=>qH D (by simp[gV]) hk (by decide) (.cons ha hs (.cons hb sS .nil)) t q
 obtain⟨w,w',rfl,bT,gb⟩:=bT;obtain⟨v,v'⟩:=v;dsimp only at bT gb ⊢;induction v using V.casesOn with
 |int i=>induction v' using V.casesOn with
  |int j =>
   refine Run.OH λhb=>?_;obtain⟨u,rfl⟩:=bT;obtain⟨u',rfl⟩:=gb;exact Run.own (r:=f (.items (iw i j)) bj) (P:=λown s' it=>Rel c.Z aH (own++c.X) bj s'.heap/\dE aH (own++c.X) s'.heap own it (.items (iw i j)) 0) (λQ E q=>call_range_2 (uO bP hb.2.1 hb.2.2 _ λit own h' g R I fr=>q own _ it g fr ⟨R,I⟩))
    λown s' it g fr p=>K _ bj aH s' it own (bZ.trans g) p.1 p.2 (λb hb=>aQ bZ.grow.size (fr b hb)) λU U e=>nomatch e
  |_=>trivial
 |_=>trivial
theorem Of (D:Ok c mg mb){a:X}(ha:SX c a ea)(hs:noStar ea=af)(hk:c.env.kindOf (st "enumerate")=aa .globalImplicit):s6 c (.pC a) (.Call (.Name (st "enumerate") np) [ea] [] pos):=λρ s σ t {α β F T f W2} K=>by
 rw[Kl,R.bind_assoc];refine Run.w (Run.I0 (W2:=λws ay Q E=>aE (aA c.Z.prog c.Z.w) c.A (call (.type "enumerate") ws) (λx ay=>aE (aA c.Z.prog c.Z.w) c.A (pR x) (λit bH=>W2 it bH Q E) E ay) E ay) (k8 ha hs pos t) λv bj ws aH ay bZ bP bT=>?_)
  λQ E q=>qH D (by simp[gV]) hk (by decide) (.cons ha hs .nil) t q
 obtain⟨w,rfl,bT⟩:=bT;refine Run.OH λZD=>?_
 .skip
  (refine Ec (Be ZD) λn l z1 hl=>?_;subst z1);(refine dC bT λp hp z1=>?_;try clear bT;subst z1);obtain⟨_,vs,t1,q1⟩:=bP.obj n p _ hp hl;refine(?_:Run _ _ _ _ _ _ (f (.live n af) bj) _);have key:∀ {Q:ax->av->Prop} {E:ax->av->Prop},(∀it own h',Go [] aH ay aH {ay with heap:=h'}->Rel c.Z aH (own++c.X) bj h'->dE aH (own++c.X) h' own it (.live n af) 0->(∀b∈own,ay.heap.objs.size<=b)->Q (.ref it) {ay with heap:=h'}) ->
    aE (aA c.Z.prog c.Z.w) c.A (call (.type "enumerate") [.ref p.a]) (λx ay=>aE (aA c.Z.prog c.Z.w) c.A (pR x) Q E ay) E ay:=λ{Q E} q=>by
   refine call_enumerate_list t1.isList λh' he hi hz hk=>wpAny_pyIter_enum he ?_;have x:Ext ay.heap h':=⟨by exact Oh hz,hk⟩;have fr:∀b∈[ay.heap.objs.size+1,ay.heap.objs.size],ay.heap.objs.size<=b/\b<h'.objs.size:=by
    intro b hb;simp only[aN,ba,or_false]at hb;rcases hb with rfl|rfl
    .exact⟨jn _,by rw[hz];exact iP _⟩
    .exact⟨aO _,by rw[hz];exact Nat.lt_add_of_pos_right (by decide)⟩
   exact q _ [ay.heap.objs.size+1,ay.heap.objs.size] h' (Go.ext (t:=ay.toks) x) (bP.plus x fr) (.pC hp (Nat.succ_ne_self _) he hi) λb hb=>(fr b hb).1
  exact Run.own (P:=λown s' it=>Rel c.Z aH (own++c.X) bj s'.heap/\dE aH (own++c.X) s'.heap own it (.live n af) 0) (λQ E q=>key λit own h' g R I fr=>q own _ it g fr ⟨R,I⟩)
   λown s' it g fr p=>K _ bj aH s' it own (bZ.trans g) p.1 p.2 (λb hb=>aQ bZ.grow.size (fr b hb)) λU U e U=>⟨a,rfl⟩
end
noncomputable def kK (cells:List (Str×aK)):List (Str×f9)->List (Str×aK)->List (Str×aK)
 |[],acc=>acc
 |(n,k)::r,acc=>if k==.free then kK cells r ((n,(cells.lookup n).getD 0)::acc)else kK cells r acc
theorem mw (cells:List (Str×aK)):∀(names:List (Str×f9)) (acc:List (Str×aK)),(∀n,(n,eH)∈names->∃a,cells.lookup n=aa a)->(∀x a,acc.lookup x=aa a->cells.lookup x=aa a) ->
  ∀x a,(kK cells names acc).lookup x=aa a->cells.lookup x=aa a
 |[]=>λacc U h x a e=>h x a e
 |(n,k)::r=>λacc hn h x a e=>by
  change (if(k==eH)=af then kK cells r ((n,(cells.lookup n).getD 0)::acc)else kK cells r acc).lookup x=aa a at e
  split at e
  .rename_i hk
   have hk:k=.free:=by simpa using hk
   subst hk;obtain⟨b,hb⟩:=hn n (.head _);refine mw cells r _ (λm hm=>hn m (.tail _ hm)) (λy b' e'=>?_) x a e;rw[cf]at e'
   split at e'
   .rename_i hy
    have:y=n:=by simpa using hy
    obtain rfl:=fc (this);rw[hb]at e';rw[hb];exact e'
   .exact h y b' e'
  .exact mw cells r _ (λm hm=>hn m (.tail _ hm)) h x a e
theorem qF (cells:List (Str×aK))(x:Str):∀(names:List (Str×f9)) (acc:List (Str×aK)),((x,eH)∈names\/(acc.lookup x).isSome=af)->((kK cells names acc).lookup x).isSome=af
 |[]=>λacc h=>h.elim (λq=>nomatch q) id
 |(n,k)::r=>λacc h=>by
  refine(?_:((if(k==eH)=af then kK cells r ((n,(cells.lookup n).getD 0)::acc)else kK cells r acc).lookup x).isSome=af)
  split
  .refine qF cells x r _ ?_;rcases h with h|h
   .rcases aN.mp h with e|h
    ·(obtain⟨rfl,rfl⟩:=Au e);exact .inr (by simp[cf])
    .exact .inl h
   .refine .inr ?_;rw[cf]
    split
    .rfl
    .exact h
  .rename_i hk
   refine qF cells x r _ ?_;rcases h with h|h
   .rcases aN.mp h with e|h
    ·(obtain⟨rfl,rfl⟩:=Au e);exact absurd rfl hk
    .exact .inl h
   .exact .inr h
theorem Bw  (h:∀n,(n,eH)∈scope.names->∃a,env.cells.lookup n=aa a):closureFor scope env=pure (kK env.cells scope.names []):=by
 delta closureFor;have key:∀(names:List (Str×f9)) (acc:List (Str×aK)),(∀n,(n,eH)∈names->∃a,env.cells.lookup n=aa a) ->
   (forIn names acc λ(x:Str×f9) (cs:List (Str×aK))=>(if(x.2==.free)=af then do let a<-cellOf env x.1;pure (ec ((x.1,a)::cs))else pure (ec cs):Sem (ForInStep (List (Str×aK)))))=pure (kK env.cells names acc):=by
  intro names;induction names with
  |nil=>intro acc _;rfl
  |cons y r ih =>
   intro acc hn;obtain⟨n,k⟩:=y;rw[wg,show kK env.cells ((n,k)::r) acc=if(k==eH)=af then kK env.cells r ((n,(env.cells.lookup n).getD 0)::acc)else kK env.cells r acc from rfl];by_cases hk:(k==eH)=af
   .obtain rfl:k=.free:=by simpa using hk
    obtain⟨a,ha⟩:=hn n (.head _);have hc:cellOf env n=pure a:=by delta cellOf;rw[ha]
    rw[if_pos hk,if_pos hk,hc,ha];exact ih _ λm hm=>hn m (.tail _ hm)
   .rw[if_neg hk,if_neg hk];exact ih _ λm hm=>hn m (.tail _ hm)
 have:=key scope.names [] h;refine Eq.trans (b:=(forIn scope.names ([]:List (Str×aK)) λ(x:Str×f9) (cs:List (Str×aK))=>(if(x.2==.free)=af then do let a<-cellOf env x.1;pure (ec ((x.1,a)::cs))else pure (ec cs):Sem (ForInStep (List (Str×aK))))) >>= λcs=>pure cs) ?_ ?_
 .rfl
 .rw[this];rfl
noncomputable def zm (sc:xj)(names:List (Str×f9)):List (Str×f9) :=
 names.map λ(n,k)=>if(k==.free&&sc.kind==.function&&sc.names.lookup n==aa .cell)then(n,.cell)else(n,k)
structure pN (c:Cx)(scope:xj)(x:Str):Prop where
 kind:scope.kind=.function
 A3:∀y∈scope.names,y.2≠.cell
 loc:∀y∈scope.names,y.2=.local->scope.names.lookup y.1=aa .local
 own:scope.names.lookup x=aa .local
 free:∀n,(n,eH)∈scope.names->c.env.kindOf n=aa .cell
 vars:∀y,(zm c.env.scope scope.names).lookup y=aa .local->y∈c.vt->y∈[x]
noncomputable def d7 (c:Cx)(scope:xj)(x:Str)(C:aK)(X:List aK)(cs:List V):Cx :=
 {c with env:=sh scope (kK c.env.cells scope.names []) C c.env,ct:=[x],cs:=cs,X:=X}
theorem rn {sc:xj}:∀ {names:List (Str×f9)} {x:Str},(∀y∈names,y.2≠.cell)->(zm sc names).lookup x=aa .cell->(x,eH)∈names/\sc.names.lookup x=aa .cell
 |[],x,_,h=>by simp[zm]at h
 |(n,k)::r,x,hn,h=>by
  have ih:=@rn sc r x λy hy=>hn y (.tail _ hy);have e:zm sc ((n,k)::r)=(if(k==.free&&sc.kind==.function&&sc.names.lookup n==aa .cell)then(n,.cell)else(n,k))::zm sc r:=rfl;rw[e]at h
  split at h
  .rename_i hc
   simp only[bz,beq_iff_eq]at hc;rw[cf]at h
   split at h
   .rename_i hx
    have:x=n:=by simpa using hx
    subst this;obtain⟨⟨rfl,_⟩,e2⟩:=hc;exact⟨.head _,e2⟩
   .exact⟨.tail _ (ih h).1,(ih h).2⟩
  .rw[cf]at h
   split at h
   .rename_i hx
    have:x=n:=by simpa using hx
    subst this;exact absurd (aj h) (hn _ (.head _))
   .exact⟨.tail _ (ih h).1,(ih h).2⟩
section
variable {c:Cx}
theorem Bt {x:Str}{m:Str->Option ax}(K:pN c scope x)(t:St c ρ σ h)(g:dH [] ρ h bJ h')(h1:∀b∈c.X,b∈X')(h2:∀b∈X',b∈c.X\/h.objs.size<=b)
  (hC:C∈X')(hC':h.objs.size<=C)(hm:h'.Ns C m):pK c.Z bJ X' h' (sh scope (kK c.env.cells scope.names []) C c.env) c.vt c.vs [x] []:=by
 have f:=t.fr.G5 t.rel g h1 h2;have ZG:∀n,(n,eH)∈scope.names->∃a,c.env.cells.lookup n=aa a:=λn hn=>t.fr.has n (K.free n hn);have GX:=mw c.env.cells scope.names [] ZG (λx a e=>by exact fw e);have lt:∀y a,c.env.cells.lookup y=aa a->a≠C:=λy a e q=>by obtain⟨_,_,w,o,ho,_⟩:=t.fr.cells y a e;exact absurd (bx ho) (bO.mpr (q▸hC'))
 exact{
  kind:=K.kind
  globals:=t.fr.globals
  builtins:=t.fr.builtins
  own:=hC
  ns:=⟨m,hm,λi y v e1 e2 e3 e4=>absurd (K.vars y e4 (aJ e1)) e3,λi y v e1 e2 e3=>by exact fw e2⟩
  cell:=λi y v e1 e2 e3=>by obtain⟨hf,hk⟩:=rn K.A3 e3;refine mI (f.cell i y v e1 e2 (K.free y hf)) λa w b1 b2 b3=>?_;obtain⟨a',ha'⟩:=yj.mp (qF c.env.cells y scope.names [] (.inl hf));have:=GX y a' ha';rw[b1]at this;obtain rfl:=aj this;exact⟨a,w,ha',b2,b3⟩
  cells:=λy a e=>by have e':=GX y a e;refine pS (f.cells y a e') λa1 U a3=>?_;exact⟨a1,lt y a e',a3⟩
  has:=λy e=>by obtain⟨hf,_⟩:=rn K.A3 e;exact yj.mp (qF c.env.cells y scope.names [] (.inl hf))
  inj:=λy z a e1 e2=>t.fr.inj y z a (GX y a e1) (GX z a e2)}
theorem pK.item  {X:List aK}{x:Str}{v:V}{w:ax}{m:Str->Option ax}(t:pK Z ρ X h env vt vs [x] cs)(R:Rel Z ρ X σ h)(sb:fv env.locals h h')(hm:h'.Ns env.locals λy=>if y=x then aa w else m y)
  (hv:∀y,env.kindOf y=aa .local->y∈vt->y∈[x])(r:bu ρ X h v w):pK Z ρ X h' env vt vs [x] [v]:=by
 have g:dH [env.locals] ρ h ρ h':=jd sb (.head _);have hF:∀b∈[env.locals],b∈X:=λb hb=>by rw[au.mp hb];exact t.own
 have n2:∀y c,env.cells.lookup y=aa c->c∉[env.locals]:=λy c e q=>(t.cells y c e).2.1 (au.mp q);exact{
  kind:=t.kind
  globals:=t.globals
  builtins:=t.builtins
  own:=t.own
  ns:=⟨_,hm,λi y v' e1 e2 e3 e4=>absurd (hv y e4 (aJ e1)) e3,λi y v' e1 e2 e3=>by
   induction i using Nat.casesOn with
   |zero=>obtain rfl:=aj e1;obtain rfl:=aj e2;exact⟨w,if_pos rfl,bu.mono g hF (λU q=>.inl q) _ _ r⟩
   |succ i=>exact fw e1⟩
  cell:=λi y v' e1 e2 e3=>by refine mI (t.cell i y v' e1 e2 e3) λa w' b1 b2 b3=>?_;exact⟨a,w',b1,IsCell.grow b2 g (R.off (t.cells y a b1).1) (n2 y a b1),bu.mono g hF (λU q=>.inl q) _ _ b3⟩
  cells:=λy a e=>by obtain⟨a1,a2,w',a3⟩:=t.cells y a e;exact⟨a1,a2,w',IsCell.grow a3 g (R.off a1) (n2 y a e)⟩
  has:=t.has
  inj:=t.inj}
theorem pK.Ge  {X:List aK}(t:pK Z ρ X h env vt vs ct cs):pK Z ρ X h env vt vs ct []:=by refine tv t.ns λm a b U=>?_;exact{t with ns:=⟨m,a,b,λi y v e1 e2 e3=>by exact fw e2⟩}
theorem I9 {xs:List X}(h:e9 (SB c) xs es):∀ρ s σ,St c ρ σ s.heap ->
  Run c.Z [] c.X ρ s TB (qV G c.Φ c.vs af xs c.cs σ) (λQ E=>aE (aA c.Z.prog c.Z.w) c.A (forIn es af λe r=>if r=af then do let ok<-pT e c.env (eval e c.env);pure (ec ok)else pure (ec r)) Q E s):=by
 have skip:∀(es:List bY) (s:av) (Q:Bool->av->Prop) (E:ax->av->Prop),Q ag s->aE (aA c.Z.prog c.Z.w) c.A (forIn es ag λe r=>if r=af then do let ok<-pT e c.env (eval e c.env);pure (ec ok)else pure (ec r)) Q E s:=by
  intro es;induction es with
  |nil=>intro s Q E q;exact aW q
  |cons e es ih =>intro s Q E q;rw[wg];exact aq (ik (by simp only[cN,if_false];exact aW (ih s Q E q)))
 induction h with
 |nil=>intro ρ s σ t;exact .tw t.rel rfl λQ E q=>aW q
 |@cons x e l r ha hb hr ih =>
  intro ρ s σ t;rw[qA];refine Run.w (Run.seq (W2:=λb ay Q E=>aE (aA c.Z.prog c.Z.w) c.A (forIn r b λe r=>if r=af then do let ok<-pT e c.env (eval e c.env);pure (ec ok)else pure (ec r)) Q E ay) (ha ρ s σ t) λb bj b' aH ay bZ bP e=>?_) λQ E h=>?_
  .subst e;induction b with
   |true=>exact ih aH ay bj (t.go bZ bP)
   |false=>exact .tw bP rfl λQ E q=>skip r ay Q E q
  .rw[wg];refine aq (ik ?_);rw[if_pos rfl];exact aq (bp h (λb ay h₁=>aW h₁) λU U x=>x)
theorem Ok.cx {c':Cx}(D:Ok c mg mb)(h1:c'.Z=c.Z)(h2:c'.A=c.A)(h3:c'.l=c.l)(h4:c'.Φ=c.Φ):Ok c' mg mb:=by
 obtain⟨a,b,d,e,f,g,h,i,j,k,l⟩:=D
 constructor<;>(try rw[h1])<;>(try rw[h2])<;>(try rw[h3])<;>(try rw[h4])<;>assumption
theorem DO {Φ:Nat->List V->bo->R V}{l:List X}(h:j2 l=af):(∃v,qV G Φ vs af l cs σ=.ok v σ)\/qV G Φ vs af l cs σ=.bad:=(og G Φ vs af l cs σ h).symm.imp id id
theorem zY {Φ:Nat->List V->bo->R V}{x:X}(h:gr x=af):(∃v,ev G Φ vs x cs σ=.ok v σ)\/ev G Φ vs x cs σ=.bad:=(d0 G Φ vs x cs σ h).symm.imp id id
theorem Go.zg  {F X:List aK}{s:av}(g:Go F ρ s bJ s')(R:Rel Z ρ X σ s.heap)(R':Rel Z bJ X' σ s'.heap):ρ=bJ:=by
 (refine dC g.grow.pre λδ z1 U=>?_;subst z1);have h1:=R.len;have h2:=R'.len;have:δ.length=0:=by simp at h2;exact ab6 h1 h2
 rw[gh.mp this,aP]
theorem Bu (f:V->Option Bool)(e:V->Option V)(x:V)(r:List V):iK f e (x::r)=match f x with
  |some af=>match e x,iK f e r with
   |some y,aa ys=>aa (y::ys)
   |_,_=>ae
  |some ag=>iK f e r
  |none=>ae:=rfl
def adg (c:Cx)(scope:xj)(x:Str)(C Da:aK)(X' own:List aK)(it:aK)(k:IK)(tf:V->Option Bool)(te:V->Option V)(l lv:List V)(ρ:List Pl)(σ:bo)(s:av)(n:Nat)(s':av):Prop :=
 ∃i ys done rest,n=l.length+1-i/\i<=l.length/\Go (C::Da::own) ρ s ρ s'/\St (d7 c scope x C X' []) ρ σ s'.heap/\dE ρ X' s'.heap own it k i/\s'.heap.PlainList Da ys/\bt ρ X' s'.heap done ys.toList/\lv=done++rest/\done.length<=i/\iK tf te (l.drop i)=aa rest
theorem DQ (D:Ok c mg mb){x:Str}{e:X}{ifs:List X}(K:pN c scope x){own:List aK}{l:List V}
  (he:∀v,SX (d7 c scope x C X' [v]) e elt)(hi:∀v,e9 (SB (d7 c scope x C X' [v])) ifs mq)
  (hk:∀i,itemAt k σ i=aa l[i]?)(Qt:∀n,k≠.live n af)(hlen:l.length<lim)(Ql:∀v b,tf v=aa b->qV G c.Φ c.vs af ifs [v] σ=.ok (.bool b) σ)(Qm:∀v y,te v=aa y->ev G c.Φ c.vs e [v] σ=.ok y σ)(hl:iK tf te l=aa lv)
  (OY:C∈X')(Ia:Da∈X')(H7:∀b∈own,b∈X')(hDC:Da≠C)(hoC:C∉own)(Zx:Da∉own)(CD:∀y a,(kK c.env.cells scope.names []).lookup y=aa a->a∉own/\a≠Da/\a≠C)(uT:∀e∈c.l,∀L,e.frame=aa L->L∉own/\L≠Da/\L≠C)
 {s:av}(t:St (d7 c scope x C X' []) ρ σ s.heap)(I:dE ρ X' s.heap own it k 0)(hD:s.heap.PlainList Da #[])
  (fin:∀s' ys,Go (C::Da::own) ρ s ρ s'->St (d7 c scope x C X' []) ρ σ s'.heap->s'.heap.PlainList Da ys->bt ρ X' s'.heap lv ys.toList->Rr (.ok .next) s') :
  gZ (aA c.Z.prog c.Z.w) c.A (.compLoop (.ListComp elt [⟨.Name x px,iter,mq,0⟩] scope pos) 0 (.ref it) (.ref Da) (sh scope (kK c.env.cells scope.names []) C c.env)) Rr s:=by
 have hF:∀b∈C::Da::own,b∈X':=λb hb=>by
  rcases aN.mp hb with rfl|hb
  .exact OY
  .rcases aN.mp hb with rfl|hb
   .exact Ia
   .exact H7 b hb
 refine codeAny_compLoop_tests (adg c scope x C Da X' own it k tf te l lv ρ σ s) ?_ (l.length+1) (bB 0 ⟨#[],[],lv,rfl,bL _,.refl,t,I,hD,.nil,rfl,aO _,by simpa using hl⟩);rintro n ay ⟨i,ys,done,rest,rfl,hi',g,t,I,hD,r,rfl,hdl,hc⟩;have YT:∀e∈c.l,∀L,e.frame=aa L->L∉own:=λe he L hL=>(uT e he L hL).1;have DD:Ok (d7 c scope x C X' []) mg mb:=D.cx rfl rfl rfl rfl;refine wW (A:=c.A) t.rel D.hh I H7 (hk i) (Qn:=λs'=>Rr (.ok .next) s') (Qs:=λw s'=>aE (aA c.Z.prog c.Z.w) c.A (ji (.Name x px) (sh scope (kK c.env.cells scope.names []) C c.env) w) _ _ s') (LG:=λw s'=>aE (aA c.Z.prog c.Z.w) c.A (ji (.Name x px) (sh scope (kK c.env.cells scope.names []) C c.env) w) _ _ s')
  (λU U U U U U q=>q) (λn e=>absurd e (Qt n)) ?_ ?_
 .intro hv bH fN fO;have hil:i=l.length:=by
   have:l.length<=i:=by simpa using hv
   exact Wo hi' this
  have q9:=t.sd fN.grow fO H7 hoC (λy a e=>(CD y a e).1) YT;subst hil;rw[mY]at hc;replace hc:[]=rest:=aj hc;subst hc;rw[aP]at fin;have G1:bH.heap.PlainList Da ys:=by obtain⟨n,e⟩:=hD;exact⟨n,lN e (λU U q=>by exact bk q) fN.grow (t.rel.off Ia) Zx⟩
  refine fin bH ys (g.trans (fN.mono λb hb=>.tail _ (.tail _ hb))) q9 G1 (bt.mono fN.grow H7 (λU q=>.inl q) _ _ r)
 .intro v hv w bH fN fO P0 rv;have mX:i<l.length:=(aC.mp hv).1;have q9:=t.sd fN.grow fO H7 hoC (λy a e=>(CD y a e).1) YT;have G1:bH.heap.PlainList Da ys:=by obtain⟨n,e⟩:=hD;exact⟨n,lN e (λU U q=>by exact bk q) fN.grow (t.rel.off Ia) Zx⟩
  have gb:=bt.mono fN.grow H7 (λU q=>.inl q) _ _ r;have ZM:l.drop i=v::l.drop (i+1):=by
   rw[l4 mX];have:l[i]=v:=by have:=aC.mp hv;exact this.2
   rw[this]
  rw[ZM]at hc;refine dC q9.fr.ns λm hm U=>?_;refine nh (wpAny_storeName_local (lookup_relabel_local K.own) hm (λi4 Zy sb=>?_) (by simp[sh,relabel,K.kind]));have nC:∀y a,(kK c.env.cells scope.names []).lookup y=aa a->a≠C:=λy a e=>(CD y a e).2.2;have qQ:Rel c.Z ρ X' σ i4:=fO.but sb OY;have x9:Go [C] ρ bH ρ {bH with heap:=i4,toks:=bH.toks+1}:=⟨jd sb (.head _),i4,_,rfl⟩;have hC1:∀b∈[C],b∈X':=λb hb=>by rw[au.mp hb];exact OY
  have yZ:St (d7 c scope x C X' [v]) ρ σ i4:=⟨qQ,pK.item q9.fr fO sb Zy K.vars rv,q9.oq.grow fO x9.grow λe he L hL q=>(uT e he L hL).2.2 (au.mp q)⟩;have PZ:dE ρ X' i4 own it k (i+1):=P0.grow fO x9.grow hC1 λb hb=>⟨H7 b hb,λq=>hoC (au.mp q▸hb)⟩;have ZT:i4.PlainList Da ys:=by obtain⟨n,e⟩:=G1;exact⟨n,(sb.2 Da hDC).trans e⟩
  have zi:=bt.mono x9.grow hC1 (λU q=>.inl q) _ _ gb;have Q7:=I9 (hi v) ρ {bH with heap:=i4,toks:=bH.toks+1} σ yZ;have aa7:=he v;rw[Bu]at hc;induction htv:tf v with
  |none=>rw[htv]at hc;exact fw hc
  |some b =>
   have eb:=Ql v b htv;rw[show qV G (d7 c scope x C X' [v]).Φ (d7 c scope x C X' [v]).vs af ifs (d7 c scope x C X' [v]).cs σ=.ok (.bool b) σ from eb]at Q7;rw[htv]at hc;refine Q7 _ _ λb' BK rd x8 BB e4=>?_;obtain rfl:=Internal.V.bool.inj e4;obtain rfl:=Go.zg (s:={bH with heap:=i4,toks:=bH.toks+1}) x8 yZ.rel BB;have De:=St.go (s:={bH with heap:=i4,toks:=bH.toks+1}) yZ x8 BB;have aaC:dE ρ X' rd.heap own it k (i+1):=PZ.grow qQ x8.grow (λU q=>nomatch q) λb hb=>⟨H7 b hb,λq=>nomatch q⟩;have M3:rd.heap.PlainList Da ys:=by obtain⟨n,e⟩:=ZT;exact⟨n,lN e (λU U q=>by exact bk q) x8.grow (qQ.off Ia) (λq=>nomatch q)⟩
   have zh:=bt.mono x8.grow (λU q=>nomatch q) (λU q=>.inl q) _ _ zi;have gg:Go (C::Da::own) ρ s ρ rd:=((g.trans (fN.mono λb hb=>.tail _ (.tail _ hb))).trans (x9.mono λb hb=>by rw[au.mp hb];exact .head _)).trans x8.any;induction b with
   |false =>simp only[cN,if_false];exact⟨_,by exact We hi' mX,bB (i+1) ⟨ys,done,rest,rfl,mX,gg,⟨De.rel,De.fr.Ge,De.oq⟩,aaC,M3,zh,rfl,by exact Og hdl,hc⟩⟩
   |true =>
    simp only[if_true];dsimp only at hc;induction JZ:te v with
    |none=>rw[JZ]at hc;exact fw hc
    |some ve =>
     induction Kb:iK tf te (l.drop (i+1))with
     |none=>rw[JZ,Kb]at hc;exact fw hc
     |some Q9 =>
      rw[JZ,Kb]at hc;obtain rfl:=aj hc;have ee:=Qm v ve JZ;have run:=aa7 ρ rd σ De;rw[show ev G (d7 c scope x C X' [v]).Φ (d7 c scope x C X' [v]).vs e (d7 c scope x C X' [v]).cs σ=.ok ve σ from ee]at run;refine run _ _ λy adh ER DL KV aa6=>?_;obtain rfl:=Go.zg DL De.rel KV;have aaS:=De.go DL KV;have ade:dE ρ X' ER.heap own it k (i+1):=aaC.grow BB DL.grow (λU q=>nomatch q) λb hb=>⟨H7 b hb,λq=>nomatch q⟩;have ZS:ER.heap.PlainList Da ys:=by obtain⟨n,e⟩:=M3;exact⟨n,lN e (λU U q=>by exact bk q) DL.grow (BB.off Ia) (λq=>nomatch q)⟩
      have Q6:=bt.mono DL.grow (λU q=>nomatch q) (λU q=>.inl q) _ _ zh;have hys:ys.size=done.length:=by have:=zh.length;simp at this;exact ab3 this
      refine wpAny_list_append_plain (hsz:=by have:=iy;exact ab2 hlen hdl mX hys this) ZS λGK ZC Lg=>?_;have hD1:∀b∈[Da],b∈X':=λb hb=>by rw[au.mp hb];exact Ia
      have ada:Rel c.Z ρ X' σ GK:=Rel.but KV Lg Ia;have G3:Go [Da] ρ ER ρ {ER with heap:=GK}:=⟨jd Lg (.head _),GK,ER.toks,rfl⟩;have Nw:St (d7 c scope x C X' [v]) ρ σ GK:=St.sd (c:=d7 c scope x C X' [v]) aaS G3.grow ada hD1 (λq=>hDC (au.mp q).symm) (λy a e q=>(CD y a e).2.1 (au.mp q)) (λe he L hL q=>(uT e he L hL).2.1 (au.mp q));have adb:dE ρ X' GK own it k (i+1):=ade.grow KV G3.grow hD1 λb hb=>⟨H7 b hb,λq=>Zx (au.mp q▸hb)⟩;refine⟨_,by exact We hi' mX,i+1,ys.push y,done++[ve],Q9,rfl,mX,(gg.trans DL.any).trans (G3.mono λb hb=>by rw[au.mp hb];exact .tail _ (.head _)),⟨Nw.rel,Nw.fr.Ge,Nw.oq⟩,adb,ZC,?_,by simp,by simp;exact hdl,Kb⟩;rw[Array.toList_push];exact(bt.mono G3.grow hD1 (λU q=>.inl q) _ _ Q6).append (.cons (bu.mono G3.grow hD1 (λU q=>.inl q) _ _ aa6) .nil)
end
section
variable {X:List aK}
mutual
theorem bu.adopt (h1:∀b∈X,b∈X')(hD:Da∈X'):∀(v:V) (w:ax),bu ρ X' h v w->bu (ρ++[⟨Da,ae⟩]) X h v w
 |.none=>λU r=>r
 |.bool _=>λU r=>r
 |.int _=>λU r=>r
 |.str _=>λU r=>r
 |.tup l=>λw r=>by(refine wL r λa vs z1 k n t q=>?_;try clear r;subst z1);exact bB a ⟨vs,rfl,k.append λp hp z=>by rw[au.mp hp]at z;simp[Pl.lW]at z;exact n (z▸hD),λz=>n (h1 a z),t,bt.adopt h1 hD l vs q⟩
 |.lst l=>λw r=>by(refine wL r λa vs z1 k n t q=>?_;try clear r;subst z1);exact bB a ⟨vs,rfl,k.append λp hp z=>by rw[au.mp hp]at z;simp[Pl.lW]at z;exact n (z▸hD),λz=>n (h1 a z),t,bt.adopt h1 hD l vs q⟩
 |.loc n=>λw r=>by(refine dC r λp e z1=>?_;try clear r;subst z1);exact bB p ⟨by rw[aZ (aC.mp e).1];exact e,rfl⟩
theorem bt.adopt (h1:∀b∈X,b∈X')(hD:Da∈X'):∀(l:List V) (ws:List ax),bt ρ X' h l ws->bt (ρ++[⟨Da,ae⟩]) X h l ws
 |[]=>λU r=>r
 |v::l=>λws r=>by(refine mI r λw t z1 a b=>?_;try clear r;subst z1);exact bB w ⟨t,rfl,bu.adopt h1 hD v w a,bt.adopt h1 hD l t b⟩
end
theorem fu.adopt {K:Type}(h1:∀b∈X,b∈X')(hD:Da∈X'):∀(l:List (K×V)) (ws:List (K×ax)),fu ρ X' h l ws->fu (ρ++[⟨Da,ae⟩]) X h l ws
 |[]=>λU r=>r
 |(k,v)::l=>λws r=>by(refine mI r λw t z1 a b=>?_;try clear r;subst z1);exact bB w ⟨t,rfl,bu.adopt h1 hD v w a,fu.adopt h1 hD l t b⟩
theorem gY.adopt (h1:∀b∈X,b∈X')(hD:Da∈X'):∀(fs:List Str) (l:List V) (es:List fZ),gY ρ X' h fs l es->gY (ρ++[⟨Da,ae⟩]) X h fs l es
 |_,[]=>λU r=>r
 |[],_::_=>λU r=>by exact r.elim
 |f::fs,v::l=>λes r=>by(refine MG r λhash t w q z1 a b=>?_;try clear r;subst z1);exact bB hash ⟨t,w,q,rfl,bu.adopt h1 hD v w a,gY.adopt h1 hD fs l q b⟩
theorem Rel.adopt  {l:List V}{vs:List ax}(R:Rel Z ρ X' σ h)(h1:∀b∈X,b∈X')(hD:Da∈X')(hn:Da∉X)(p:h.PlainList Da vs.toArray)(r:bt ρ X' h l vs):Rel Z (ρ++[⟨Da,ae⟩]) X (σ++[.list l]) h:=by
 have at_:∀ {i:Nat} {q:Pl},(ρ++[(⟨Da,ae⟩:Pl)])[i]?=aa q->(ρ[i]?=aa q/\i<ρ.length)\/(i=ρ.length/\q=⟨Da,ae⟩):=λ{i q} e=>by
  rcases jF i ρ.length with l|l
  .rw[aZ l]at e;exact .inl ⟨e,l⟩
  .rw[cB l]at e;have:i-ρ.length=0:=by
    rcases Nat.eq_zero_or_pos (i-ρ.length)with z|z
    .exact z
    .rw[CT (by simp only[az,aD];exact qq9 z)]at e;exact fw e
   rw[this]at e;exact .inr ⟨by exact YI l this,(aj e).symm⟩
 refine⟨R.keep,R.bsize,λx hx=>R.D6 x (h1 x hx),λx hx=>R.vJ x (h1 x hx),by simp[R.len],λq hq y hy=>?_,λi j q r y hi hj hy hz=>?_,λq hq=>?_,λi q oi hi yv=>?_⟩
 .rcases bg.mp hq with m|m
  .exact⟨(R.ge q m y hy).1,λz=>(R.ge q m y hy).2 (h1 y z)⟩
  .rw[au.mp m]at hy;simp[Pl.lW]at hy;obtain rfl:=fc (hy);exact⟨R.D6 _ hD,hn⟩
 .rcases at_ hi with⟨a,_⟩|⟨rfl,rfl⟩<;>rcases at_ hj with⟨b,_⟩|⟨rfl,rfl⟩
  .exact R.sep i j q r y a b hy hz
  .simp[Pl.lW]at hz;subst hz;exact absurd hD (R.ge q (aJ a) _ hy).2
  .simp[Pl.lW]at hy;subst hy;exact absurd hD (R.ge r (aJ b) _ hz).2
  .rfl
 .rcases bg.mp hq with m|m
  .exact R.self q m
  .rw[au.mp m];simp
 .rcases at_ hi with⟨a,lt⟩|⟨rfl,rfl⟩
  .rw[aZ (by rw[<- R.len];exact lt)]at yv;have ob:=R.obj i q oi a yv;induction oi with
   |list l=>exact⟨ob.1,let ⟨vs,p,r⟩:=ob.2;⟨vs,p,bt.adopt h1 hD _ _ r⟩⟩
   |cJ l=>exact⟨ob.1,let ⟨vs,p,r⟩:=ob.2;⟨vs,p,fu.adopt h1 hD _ _ r⟩⟩
   |dN l=>exact⟨ob.1,let ⟨vs,p,r⟩:=ob.2;⟨vs,p,fu.adopt h1 hD _ _ r⟩⟩
   |inst l=>(refine MH ob λdx es n a b d e=>?_;try clear ob);exact⟨dx,es,n,a,b,d,gY.adopt h1 hD _ _ _ e⟩
  .rw[R.len,cB (aO _)]at yv;simp only[oB,ah,dY]at yv;subst yv;exact⟨rfl,vs,p,bt.adopt h1 hD _ _ r⟩
end
section
variable {c:Cx}
theorem DH {X:List aK}{s:av}{own:List aK}{i:Nat}(I:dE ρ X s.heap own it k i){Q:ax->av->Prop}{E:ax->av->Prop}(q:Q (.ref it) s):aE (aA c.Z.prog c.Z.w) c.A (pR (.ref it)) Q E s:=by
 induction I with
 |lst _ _ _ _ t=>exact wpAny_pyIter_listiter t q
 |tup _ _ _ _ t=>exact wpAny_pyIter_tupleiter t q
 |nz t _=>exact wpAny_pyIter_rangeiter t q
 |live _ t=>exact wpAny_pyIter_listiter t q
 |pC _ _ t _=>exact wpAny_pyIter_enum t q
theorem dE.plus {X:List aK}{own:List aK}{i:Nat}(I:dE ρ X h own it k i)(x1:Ext h h₁){N:List aK}(fr1:∀b∈N,h.objs.size<=b):dE ρ (N++X) h₁ own it k i:=by
 have off:∀ {a:aK} {o:Obj},h.get? a=aa o->a∉X->a∉N++X:=λea n q=>(bg.mp q).elim (λz=>absurd (bx ea) (bO.mpr (fr1 _ z))) n;induction I with
 |lst o x p r t=>exact .lst o (let ⟨n,ea⟩:=p;off ea x) (let ⟨n,ea⟩:=p;⟨n,x1.2 _ _ ea⟩) (r.plus x1 fr1) (let ⟨o,ea,d⟩:=t;⟨o,x1.2 _ _ ea,d⟩)
 |tup o x p r t=>exact .tup o (let ⟨n,ea⟩:=p;off ea x) (let ⟨n,ea⟩:=p;⟨n,x1.2 _ _ ea⟩) (r.plus x1 fr1) (let ⟨o,ea,d⟩:=t;⟨o,x1.2 _ _ ea,d⟩)
 |nz t hle=>exact .nz (x1.2 _ _ t) hle
 |live ea t=>exact .live ea (let ⟨o,ea,d⟩:=t;⟨o,x1.2 _ _ ea,d⟩)
 |pC ek ne t t'=>exact .pC ek ne (x1.2 _ _ t) (let ⟨o,ea,d⟩:=t';⟨o,x1.2 _ _ ea,d⟩)
theorem u0 (D:Ok c mg mb){x:Str}{e:X}{ifs:List X}(K:pN c scope x){own:List aK}{l:List V}
  (he:∀C X' v,SX (d7 c scope x C X' [v]) e elt)(hi:∀C X' v,e9 (SB (d7 c scope x C X' [v])) ifs mq){Ep:List Pl}{BJ:bo}{AO s:av}
  (hk:∀i,itemAt k σ i=aa l[i]?)(Qt:∀n,k≠.live n af)(hlen:l.length<lim)(Ql:∀v b,tf v=aa b->qV G c.Φ c.vs af ifs [v] σ=.ok (.bool b) σ)(Qm:∀v y,te v=aa y->ev G c.Φ c.vs e [v] σ=.ok y σ)(hl:iK tf te l=aa lv)
  (t₀:St c Ep BJ AO.heap)(G4:Go [] Ep AO ρ s)(R:Rel c.Z ρ (own++c.X) σ s.heap)(I:dE ρ (own++c.X) s.heap own it k 0)(sT:∀b∈own,AO.heap.objs.size<=b){RR:ax->aK->sH->av->Prop}{E:ax->av->Prop}
  (fin:∀Da C X' s' ys m,(∀b∈own++c.X,b∈X')->C∈X'->Da∈X'->s.heap.objs.size<=Da->s.heap.objs.size<=C->Da≠C->Go own ρ s ρ s'->Rel c.Z ρ X' σ s'.heap->s'.heap.PlainList Da ys->bt ρ X' s'.heap lv ys.toList->s'.heap.Ns C m ->
   (∀b∈X',b∈c.X\/AO.heap.objs.size<=b)->RR (.ref Da) C (.ok .next) s') :
  aE (aA c.Z.prog c.Z.w) c.A (newList []) (λacc fV=>aE (aA c.Z.prog c.Z.w) c.A (newFunctionEnv scope c.env.globals (kK c.env.cells scope.names []) [] c.env.qual ae .none (aa c.env)) (λHF rd =>
   gZ (aA c.Z.prog c.Z.w) c.A (.compStart (.ListComp elt [⟨.Name x px,iter,mq,0⟩] scope pos) 0 (.ref it) acc {HF with scope:=relabel scope c.env}) (RR acc HF.locals) rd) E fV) E s:=by
 refine jW (wpAny_newFunctionEnv K.A3 (by intro y hy;simp at hy) (λh₁ Bl uS=>?_) K.kind);dsimp only at Bl uS ⊢;generalize hH2:s.heap.push {cls:=.type "list",dict:=ae,data:=.seq ([]:List ax).toArray}=H2 at Bl uS ⊢;have hC:H2.objs.size=s.heap.objs.size+1:=by rw[<- hH2,iC]
 have mX:s.heap.objs.size<H2.objs.size:=by exact Yd hC
 have hz:h₁.objs.size=s.heap.objs.size+2:=by rw[uS.1,iC,hC]
 have x1:Ext s.heap h₁:=⟨by exact Oh hz,λb o eb=>by have lb:=bx eb;refine(uS.2 b (dh (tJ lb mX))).trans (br _ ?_);rw[<- hH2];exact br _ eb⟩
 have Kc:h₁.PlainList s.heap.objs.size #[]:=⟨0,(uS.2 _ (dh mX)).trans (br _ (by rw[<- hH2];exact cE _ rfl))⟩;have fr:∀b∈[H2.objs.size,s.heap.objs.size],s.heap.objs.size<=b/\b<h₁.objs.size:=by
  intro b hb;simp only[aN,ba,or_false]at hb;rcases hb with rfl|rfl
  .constructor<;>lia
  .constructor<;>lia
 have aaB:∀b∈[H2.objs.size,s.heap.objs.size]++(own++c.X),b∈c.X\/AO.heap.objs.size<=b:=λb hb=>by
  rcases bg.mp hb with q|q
  .exact .inr (aQ G4.grow.size (fr b q).1)
  .rcases bg.mp q with q|q
   .exact .inr (sT b q)
   .exact .inl q
 have OY:H2.objs.size∈[H2.objs.size,s.heap.objs.size]++(own++c.X):=.head _;have Ia:s.heap.objs.size∈[H2.objs.size,s.heap.objs.size]++(own++c.X):=.tail _ (.head _);have bP:Rel c.Z ρ ([H2.objs.size,s.heap.objs.size]++(own++c.X)) σ h₁:=R.plus x1 fr;have gg:Go [] Ep AO ρ {s with heap:=h₁,toks:=s.toks}:=G4.trans (Go.ext x1);have eV:St (d7 c scope x H2.objs.size ([H2.objs.size,s.heap.objs.size]++(own++c.X)) []) ρ σ h₁ :=
  ⟨bP,Bt K t₀ gg.grow (λb q=>aU _ (aU _ q)) aaB OY (aQ G4.grow.size (FQ hC)) Bl,
   (t₀.oq.grow t₀.rel gg.grow λU U U U q=>nomatch q).less λb q=>aU _ (aU _ q)⟩
 have MF:∀b∈own,b<s.heap.objs.size:=λb hb=>R.vJ b (bS _ hb);have HX:=I.plus x1 (N:=[H2.objs.size,s.heap.objs.size]) λb hb=>(fr b hb).1;have loop:∀fV:av,fV={s with heap:=h₁,toks:=s.toks+([]:List (Str×ax)).length} ->
   gZ (aA c.Z.prog c.Z.w) c.A (.compLoop (.ListComp elt [⟨.Name x px,iter,mq,0⟩] scope pos) 0 (.ref it) (.ref s.heap.objs.size) (sh scope (kK c.env.cells scope.names []) H2.objs.size c.env)) (RR (.ref s.heap.objs.size) H2.objs.size) fV:=by
  rintro fV rfl;refine DQ D K (X':=[H2.objs.size,s.heap.objs.size]++(own++c.X)) (he _ _) (hi _ _) hk Qt hlen Ql Qm hl OY Ia (λb hb=>aU _ (bS _ hb)) (dh mX) (λq=>absurd (MF _ q) (bO.mpr (dj mX))) (λq=>absurd (MF _ q) (gX _))
   (λy a ea=>?_) (λen OU L hL=>?_) eV HX Kc λs' ys g' t' p' r'=>?_
  .have ea':=mw c.env.cells scope.names [] (λn hn=>t₀.fr.has n (K.free n hn)) (λx a e=>by exact fw e) y a ea;obtain⟨_,_,w,o,ho,_⟩:=t₀.fr.cells y a ea';have lt:=bx ho;have lt':=bK lt G4.grow.size;exact⟨λq=>absurd lt (bO.mpr (sT a q)),dh lt',dh (tJ lt' mX)⟩
  .obtain⟨_,L',o,es,n,Bn,_,ho,_⟩:=t₀.oq en OU;rw[hL]at Bn;obtain rfl:=fc (aj Bn);have lt:=bx ho;have lt':=bK lt G4.grow.size;exact⟨λq=>absurd lt (bO.mpr (sT L' q)),dh lt',dh (tJ lt' mX)⟩
  .refine dC t'.fr.ns λm' H8 U=>?_;refine fin s.heap.objs.size H2.objs.size ([H2.objs.size,s.heap.objs.size]++(own++c.X)) s' ys m' (λb hb=>aU _ hb) OY Ia (aO _) (dj mX) (dh mX) ?_ t'.rel p' r' H8 aaB;have g2:=(Go.ext (F:=H2.objs.size::s.heap.objs.size::own) (ρ:=ρ) (s:=s) (t:=s.toks+([]:List (Str×ax)).length) x1).trans g';exact Go.qB (own:=[H2.objs.size,s.heap.objs.size]) g2 λb hb=>(fr b hb).1
 exact codeAny_compStart_list (loop _ rfl) (DH HX (loop _ rfl))
end
section
variable {c:Cx}
def j5 {α:Type}(Φ:Nat->List V->bo->R V)(vs:Vs)(e:X)(ifs:List X)(f2:List V->bo->R α)(k:IK)(σ:bo):R α:=match itemsOf k σ with
 |some l=>if gr e&&j2 ifs&&decide (l.length<lim)then
   match iK (λx=>match R.val (qV G Φ vs af ifs [x] σ)with|some (.bool b)=>aa b|_=>ae) (λx=>R.val (ev G Φ vs e [x] σ)) l with
   |some ys=>f2 ys σ
   |none=>.bad
  else .bad
 |none=>.bad
theorem Km {Φ:Nat->List V->bo->R V}{m:Bool}{e it:X}{ifs:List X}  : ev G Φ vs (.comp m e it ifs) cs σ=(uX G Φ vs it cs σ).bind (j5 Φ vs e ifs (gQ m)):=rfl
theorem Bv {α β:Type}{Φ:Nat->List V->bo->R V}{e:X}{ifs:List X}{f2:List V->bo->R α}(g:α->bo->R β):(j5 Φ vs e ifs f2 k σ).bind g=j5 Φ vs e ifs (λys σ=>(f2 ys σ).bind g) k σ:=by
 delta j5;rcases itemsOf k σ with _|l
 .rfl
 .dsimp only;by_cases h:(gr e&&j2 ifs&&decide (l.length<lim))=af
  .rw[if_pos h,if_pos h];rcases iK (λx=>match Internal.R.val (qV G Φ vs af ifs [x] σ)with|some (.bool b)=>aa b|_=>ae) (λx=>Internal.R.val (ev G Φ vs e [x] σ)) l with _|ys<;>rfl
  .rw[if_neg h,if_neg h]
theorem HD {α:Type}{Φ:Nat->List V->bo->R V}{e:X}{ifs:List X}{f2:List V->bo->R α}  : j5 Φ vs e ifs f2 k σ=.bad\/∃ys,j5 Φ vs e ifs f2 k σ=f2 ys σ:=by
 delta j5;rcases itemsOf k σ with _|l
 .exact .inl rfl
 .dsimp only;by_cases h:(gr e&&j2 ifs&&decide (l.length<lim))=af
  .rw[if_pos h];rcases iK (λx=>match Internal.R.val (qV G Φ vs af ifs [x] σ)with|some (.bool b)=>aa b|_=>ae) (λx=>Internal.R.val (ev G Φ vs e [x] σ)) l with _|ys
   .exact .inl rfl
   .exact .inr ⟨ys,rfl⟩
  .rw[if_neg h];exact .inl rfl
theorem Bb  {l:List V}(h:itemsOf k σ=aa l):(∀i,itemAt k σ i=aa l[i]?)/\∀n,k≠.live n af:=by
 induction k with
 |items l'=>obtain rfl:=aj h;exact⟨λi=>rfl,λU q=>nomatch q⟩
 |live n b =>
  induction b with
  |true=>exact fw h
  |false =>refine⟨λi=>?_,λU q=>nomatch q⟩;obtain⟨l',e,q⟩:=uE (f:=λl=>aa l) h;obtain rfl:=aj q;refine(?_:(match σ[n]? with|some (.list l)=>aa (l[i]?.map λx=>if ag=af then V.tup [.int i,x]else x)|_=>ae)=_);rw[e];simp only[cN,if_false,Option.map_id']
theorem w9 (D:Ok c mg mb){x:Str}{e y:X}{ifs:List X}(K:pN c scope x)(he:∀C X' v,SX (d7 c scope x C X' [v]) e elt)(hi:∀C X' v,e9 (SB (d7 c scope x C X' [v])) ifs mq)(hy:s6 c y iter)
  (hs:∀v,iI iter c.env v=pure v)(w3:∀a,y≠.pC a){α β:Type}{F:List aK}{T:List Pl->bV->α->β->Prop}{f2:List V->bo->R α}{Wq:(β->av->Prop)->ax->av->Prop}{s:av}(t:St c ρ σ s.heap)
  (final:∀lv aH bj ay own Da C X' s' ys m,Go [] ρ s aH ay->Go own aH ay aH s'->(∀b∈own,s.heap.objs.size<=b)->(∀b∈own++c.X,b∈X')->C∈X'->Da∈X'->ay.heap.objs.size<=Da->ay.heap.objs.size<=C->Da≠C->Rel c.Z aH X' bj s'.heap->s'.heap.PlainList Da ys->bt aH X' s'.heap lv ys.toList ->
   s'.heap.Ns C m->(∀b∈X',b∈c.X\/s.heap.objs.size<=b)->Run c.Z (Da::C::own++F) c.X aH ay T (f2 lv bj) (λQ E=>compPost (aA c.Z.prog c.Z.w) c.A E use (Wq Q) (.ref Da) C (.ok .next) s')) :
  Run c.Z F c.X ρ s T ((uX G c.Φ c.vs y c.cs σ).bind (j5 c.Φ c.vs e ifs f2)) (λQ E=>aE (aA c.Z.prog c.Z.w) c.A (Ej (.ListComp elt [⟨.Name x px,iter,mq,0⟩] scope pos) scope c.env (firstIterPos [⟨.Name x px,iter,mq,0⟩] pos) (newList []) ag (eval iter c.env) use) (Wq Q) E s):=by
 refine Run.w (hy ρ s σ t (W2:=λit bH Q E=>aE (aA c.Z.prog c.Z.w) c.A (newList []) (λacc fV=>aE (aA c.Z.prog c.Z.w) c.A (newFunctionEnv scope c.env.globals (kK c.env.cells scope.names []) [] c.env.qual ae .none (aa c.env)) (λHF rd =>
   gZ (aA c.Z.prog c.Z.w) c.A (.compStart (.ListComp elt [⟨.Name x px,iter,mq,0⟩] scope pos) 0 it acc {HF with scope:=relabel scope c.env}) (compPost (aA c.Z.prog c.Z.w) c.A E use (Wq Q) acc HF.locals) rd) E fV) E bH) λk bj aH ay it own g R I fr nl=>?_)
  λQ E q=>wpAny_comprehension_free (use:=use) rfl hs (Bw λn hn=>t.fr.has n (K.free n hn)) K.kind K.loc q
 refine Run.Jq λl hl=>?_
 .refine Run.ite λhp=>?_
  .simp only[bz,decide_eq_true_eq]at hp;refine Run.Jq λlv J6=>?_
   .have hk:=Bb hl;have Ql:∀v b,(match Internal.R.val (qV G c.Φ c.vs af ifs [v] bj)with|some (V.bool b)=>aa b|_=>ae)=aa b->qV G c.Φ c.vs af ifs [v] bj=.ok (.bool b) bj:=λv b q=>by
     rcases DO (Φ:=c.Φ) (vs:=c.vs) (l:=ifs) (cs:=[v]) (σ:=bj) hp.1.2 with⟨w,e'⟩|e'
     .rw[e']at q ⊢;induction w using V.casesOn with
      |bool b'=>obtain rfl:=aj q;rfl
      |_=>exact fw q
     .rw[e']at q;exact fw q
    have Qm:∀v w,Internal.R.val (ev G c.Φ c.vs e [v] bj)=aa w->ev G c.Φ c.vs e [v] bj=.ok w bj:=λv w q=>by
     rcases zY (Φ:=c.Φ) (vs:=c.vs) (x:=e) (cs:=[v]) (σ:=bj) hp.1.1 with⟨w',e'⟩|e'
     .rw[e']at q ⊢;obtain rfl:=aj q;rfl
     .rw[e']at q;exact fw q
    have key:=λ(Da C:aK) (X':List aK) (s':av) (ys:Array ax) (m:Str->Option ax) h1 h2 h3 h4 h5 h6 h7 h8 h9 Z0 ZZ ZY=>final lv aH bj ay own Da C X' s' ys m g h7 fr h1 h2 h3 h4 h5 h6 h8 h9 Z0 ZZ ZY;induction hf:f2 lv bj with
    |bad=>trivial
    |ok a cD =>
     refine λQ E q=>u0 D K he hi hk.1 hk.2 hp.2 Ql Qm J6 t g R I fr (RR:=λacc C=>compPost (aA c.Z.prog c.Z.w) c.A E use (Wq Q) acc C) λDa C X' s' ys m h1 h2 h3 h4 h5 h6 h7 h8 h9 Z0 ZZ ZY=>?_;have:=key Da C X' s' ys m h1 h2 h3 h4 h5 h6 h7 h8 h9 Z0 ZZ ZY;rw[hf]at this;refine this Q E λb bJ lL g'=>q b bJ lL ?_;have g2:Go ([Da,C]++(own++F)) aH ay bJ lL:=g';exact g2.qB λb hb=>by
      simp only[aN,ba,or_false]at hb;rcases hb with rfl|rfl
      .exact h4
      .exact h5
    |exc cD =>
     refine λQ E q=>u0 D K he hi hk.1 hk.2 hp.2 Ql Qm J6 t g R I fr (RR:=λacc C=>compPost (aA c.Z.prog c.Z.w) c.A E use (Wq Q) acc C) λDa C X' s' ys m h1 h2 h3 h4 h5 h6 h7 h8 h9 Z0 ZZ ZY=>?_;have:=key Da C X' s' ys m h1 h2 h3 h4 h5 h6 h7 h8 h9 Z0 ZZ ZY;rw[hf]at this;refine this Q E λb bJ lL g' R' y=>q b bJ lL ?_ R' y;have g2:Go ([Da,C]++(own++F)) aH ay bJ lL:=g';exact g2.qB λb hb=>by
      simp only[aN,ba,or_false]at hb;rcases hb with rfl|rfl
      .exact h4
      .exact h5
theorem wO {m:Bool}{ys:List ax}{v:V}(R:Rel c.Z ρ X' σ h)(h1:∀b∈c.X,b∈X')(hD:Da∈X')(hn:Da∉c.X)(p:h.PlainList Da ys.toArray)(r:bt ρ X' h lv ys)(e:gQ m lv σ=.ok v cD) :
  ∃bJ,(∃δ,bJ=ρ++δ/\∀p∈δ,p=⟨Da,ae⟩)/\Rel c.Z bJ c.X cD h/\bu bJ c.X h v (.ref Da)/\∀v w,bu ρ X' h v w->bu bJ c.X h v w:=by
 unfold gQ at e
 split at e
 .induction m with
  |true =>simp only[if_true]at e;(obtain⟨rfl,rfl⟩:=rI e);refine⟨_,⟨[⟨Da,ae⟩],rfl,by simp⟩,R.adopt h1 hD hn p r,?_,λv w=>bu.adopt h1 hD v w⟩;exact bB ⟨Da,ae⟩ ⟨by rw[<- R.len];simp,rfl⟩
  |false =>simp only[cN,if_false]at e;(obtain⟨rfl,rfl⟩:=rI e);refine⟨ρ,⟨[],by simp,by simp⟩,R.less h1,?_,λv w q=>q.less h1⟩;exact bB Da ⟨ys,rfl,R.off hD,hn,p,r.less h1⟩
 .exact Rb e
theorem uB {m:Bool}{l:List V}(e:gQ m l σ=.exc cD):False:=by
 unfold gQ at e
 split at e
 .split at e<;>exact Ra e
 .exact B8 e
theorem Go.more {F:List aK}{δ:List Pl}{s:av}(g:Go F ρ s ρ s')(GL:∀p∈δ,p=⟨Da,ae⟩)(h:s.heap.objs.size<=Da):Go F ρ s (ρ++δ) s' :=
 ⟨⟨⟨δ,rfl,λp hp x hx=>by rw[GL p hp]at hx;simp[Pl.lW]at hx;obtain rfl:=fc (hx);exact h⟩,g.grow.size,g.grow.ev⟩,g.same⟩
theorem EV (D:Ok c mg mb){m:Bool}{x:Str}{e y:X}{ifs:List X}(K:pN c scope x)(he:∀C X' v,SX (d7 c scope x C X' [v]) e elt)(hi:∀C X' v,e9 (SB (d7 c scope x C X' [v])) ifs mq)(hy:s6 c y iter)
  (hs:∀v,iI iter c.env v=pure v)(w3:∀a,y≠.pC a):SX c (.comp m e y ifs) (.ListComp elt [⟨.Name x px,iter,mq,0⟩] scope pos):=λρ s σ t=>by
 rw[Km];refine Run.w (w9 (px:=px) (pos:=pos) (use:=ae) (Wq:=λQ v=>Q v) D K he hi hy hs w3 t λlv aH bj ay own Da C X' s' ys m' g1 g2 ho hX hC hD ZU hCs oO R p r hm hX'=>?_) λQ E q=>by rw[eval_ListComp];exact q
 have hn:Da∉c.X:=λq=>absurd (t.rel.vJ _ q) (bO.mpr (aQ g1.grow.size ZU));induction e':gQ m lv bj with
 |bad=>trivial
 |exc cD=>exact(uB e').elim
 |ok v cD =>
  refine λQ E q=>⟨m',hm,λh' sb=>?_⟩;have R':Rel c.Z aH X' bj h':=R.but sb hC;have p':h'.PlainList Da ys.toList.toArray:=by obtain⟨n,ea⟩:=p;exact⟨n,by rw[(sb.2 Da oO).trans ea]⟩
  have gC:dH [C] aH s'.heap aH h':=jd sb (.head _);have r':bt aH X' h' lv ys.toList:=bt.mono gC (λb hb=>by rw[au.mp hb];exact hC) (λU q=>.inl q) _ _ r;(refine o13 (wO R' (λb hb=>hX b (aU _ hb)) hD hn p' r' e') λbJ z1 R2 rv U=>?_;obtain⟨δ,rfl,GL⟩:=z1);refine q (.ref Da) (aH++δ) {s' with heap:=h'} (Go.more ?_ GL ZU) R2 rv;have g3:Go (Da::C::own++[]) aH ay aH s':=g2.mono λb hb=>.tail _ (.tail _ (bS _ hb));exact g3.trans ⟨gC.mono λb hb=>by rw[au.mp hb];exact .tail _ (.head _),h',s'.toks,rfl⟩
end
noncomputable abbrev Cx.wv (c:Cx)(vs:Vs):Cx:={c with vs:=vs}
noncomputable abbrev Cx.wx (c:Cx)(X:List aK):Cx:={c with X:=X}
noncomputable def iH (c:Cx):List aK:=c.env.locals::c.env.cells.map (·.2)
theorem da.back {X:List aK}(a:da X h l)(b:da X' h' l):da X h' l:=λe he=>by obtain⟨k,L,_,_,_,hL,m,_⟩:=a e he;obtain⟨_,L',o,es,n,Bn,_,ho,hd⟩:=b e he;rw[hL]at Bn;obtain rfl:=aj Bn;exact⟨k,L,o,es,n,hL,m,ho,hd⟩
def cH (c:Cx){α β:Type}(ρ:List Pl)(s:av)(T:List Pl->bV->α->β->Prop)(r:R α)(W:(β->av->Prop)->(ax->av->Prop)->Prop):Prop :=
 match r with
 |.ok a cD=>∀Q E,(∀b bJ s',Go (iH c) ρ s bJ s'->Rel c.Z bJ c.X cD s'.heap->T bJ s'.heap a b->Q b s')->W Q E
 |.exc cD=>∀Q E,(∀e bJ s',Go (iH c) ρ s bJ s'->Rel c.Z bJ c.X cD s'.heap->Aw c.Z s.heap e s'.heap->da c.X s'.heap c.l->E (.ref e) s')->W Q E
 |.bad=>True
theorem cH.ite {c:Cx}{α β:Type}{s:av}{T:List Pl->bV->α->β->Prop}{W:(β->av->Prop)->(ax->av->Prop)->Prop}{c':Prop}[Decidable c']{r:R α}(h:c'->cH c ρ s T r W):cH c ρ s T (if c' then r else .bad) W:=by
 by_cases hc:c'
 .rw[if_pos hc];exact h hc
 .rw[if_neg hc];trivial
theorem cH.opts {c:Cx}{α β:Type}{s:av}{T:List Pl->bV->α->β->Prop}{W:(β->av->Prop)->(ax->av->Prop)->Prop}{o:Option bo}{f:bo->R α}(h:∀a,o=aa a->cH c ρ s T (f a) W):cH c ρ s T (match (generalizing:=false) o with|some a=>f a|none=>.bad) W:=by
 induction o with
 |none=>trivial
 |some a=>exact h a rfl
theorem cH.tup {c:Cx}{α β:Type}{s:av}{T:List Pl->bV->α->β->Prop}{W:(β->av->Prop)->(ax->av->Prop)->Prop}{x:V}{f:List V->R α}(h:∀l,x=.tup l->cH c ρ s T (f l) W):cH c ρ s T (match (generalizing:=false) x with|.tup l=>f l|_=>.bad) W:=by
 induction x using V.casesOn with
 |tup l=>exact h l rfl
 |_=>trivial
theorem cH.loc {c:Cx}{α β:Type}{s:av}{T:List Pl->bV->α->β->Prop}{W:(β->av->Prop)->(ax->av->Prop)->Prop}{x:V}{f:Nat->R α}(h:∀l,x=.loc l->cH c ρ s T (f l) W):cH c ρ s T (match (generalizing:=false) x with|.loc l=>f l|_=>.bad) W:=by
 induction x using V.casesOn with
 |loc l=>exact h l rfl
 |_=>trivial
theorem cH.dic {c:Cx}{α β:Type}{s:av}{T:List Pl->bV->α->β->Prop}{W:(β->av->Prop)->(ax->av->Prop)->Prop}{o:Option O}{f:List (Int×V)->R α}(h:∀l,o=aa (.cJ l)->cH c ρ s T (f l) W):cH c ρ s T (match (generalizing:=false) o with|some (.cJ l)=>f l|_=>.bad) W:=by
 induction o with
 |none=>trivial
 |some o=>induction o with
  |cJ l=>exact h l rfl
  |_=>trivial
theorem lookup_mem {l:List (Str×aK)}{y:Str}{b:aK}(e:l.lookup y=aa b):b∈l.map (·.2):=by
 induction l with
 |nil=>exact fw e
 |cons p l ih =>
  rw[cf]at e;rcases q:y==p.1 with _|_
  .rw[q]at e;exact .tail _ (ih e)
  .rw[q]at e;obtain rfl:=aj e;exact .head _
section
variable {c:Cx}
theorem cH.w {α β:Type}{s:av}{T:List Pl->bV->α->β->Prop}{r:R α}{W W':(β->av->Prop)->(ax->av->Prop)->Prop}(h:cH c ρ s T r W)(k:∀Q E,W Q E->W' Q E):cH c ρ s T r W':=by
 induction r with
 |ok a σ=>exact λQ E q=>k Q E (h _ E q)
 |exc σ=>exact λQ E q=>k Q E (h _ E q)
 |bad=>trivial
theorem cH.of {α β:Type}{s:av}{T:List Pl->bV->α->β->Prop}{r:R α}{W:(β->av->Prop)->(ax->av->Prop)->Prop}(t:St c ρ σ s.heap)(h:Run c.Z [] c.X ρ s T r W):cH c ρ s T r W:=by
 induction r with
 |ok a σ=>exact λQ E q=>h Q E λb bJ s' g=>q b bJ s' g.any
 |exc σ=>exact λQ E q=>h Q E λe bJ s' g R y=>q e bJ s' g.any R y (t.oq.grow t.rel g.grow λU U U U q=>nomatch q)
 |bad=>trivial
theorem cH.seq {α β:Type}{s:av}{T:List Pl->bV->α->β->Prop}{r:R α}{f:α->bo->R K0}
  {W:(β->av->Prop)->(ax->av->Prop)->Prop}{W2:β->av->(KZ->av->Prop)->(ax->av->Prop)->Prop}
  (h:cH c ρ s T r W)(k:∀a cD b bJ s',Go (iH c) ρ s bJ s'->Rel c.Z bJ c.X cD s'.heap->T bJ s'.heap a b->cH c bJ s' T' (f a cD) (W2 b s')) :
  cH c ρ s T' (r.bind f) (λQ E=>W (λb s1=>W2 b s1 Q E) E):=by
 induction r with
 |bad=>trivial
 |exc σ=>exact λQ E q=>h _ E q
 |ok a σ =>
  refine(?_:cH c ρ s T' (f a σ) _);have k:=λb bJ s' g R t=>k a σ b bJ s' g R t;induction hf:f a σ with
  |bad=>trivial
  |exc cD =>refine λQ E q=>h _ E λb bJ s' g R t=>?_;have:=k b bJ s' g R t;rw[hf]at this;exact this Q E λe kr lL g' R' y fo=>q e kr lL (g.trans g') R' (y.mH g.grow.size) fo
  |ok a' cD =>refine λQ E q=>h _ E λb bJ s' g R t=>?_;have:=k b bJ s' g R t;rw[hf]at this;exact this Q E λb' kr lL g' R' y=>q b' kr lL (g.trans g') R' y
theorem cH.aa3 {α β:Type}{s:av}{T:List Pl->bV->α->β->Prop}{r:R α}{f:α->bo->R K0}
  {W:(β->av->Prop)->(ax->av->Prop)->Prop}{W2:β->av->(KZ->av->Prop)->(ax->av->Prop)->Prop}
  (t:St c ρ σ s.heap)(h:Run c.Z [] c.X ρ s T r W)(k:∀a cD b bJ s',St c bJ cD s'.heap->Go [] ρ s bJ s'->T bJ s'.heap a b->cH c bJ s' T' (f a cD) (W2 b s')) :
  cH c ρ s T' (r.bind f) (λQ E=>W (λb s1=>W2 b s1 Q E) E):=by
 induction r with
 |bad=>trivial
 |exc σ=>exact λQ E q=>h _ E λe bJ s' g R y=>q e bJ s' g.any R y (t.oq.grow t.rel g.grow λU U U U q=>nomatch q)
 |ok a bj =>
  refine(?_:cH c ρ s T' (f a bj) _);have k:=λb bJ s' g R u=>k a bj b bJ s' (t.go g R) g u;induction hf:f a bj with
  |bad=>trivial
  |exc cD =>refine λQ E q=>h _ E λb bJ s' g R t=>?_;have:=k b bJ s' g R t;rw[hf]at this;exact this Q E λe kr lL g' R' y fo=>q e kr lL (g.any.trans g') R' (y.mH g.grow.size) fo
  |ok a' cD =>refine λQ E q=>h _ E λb bJ s' g R t=>?_;have:=k b bJ s' g R t;rw[hf]at this;exact this Q E λb' kr lL g' R' y=>q b' kr lL (g.any.trans g') R' y
theorem cH.ok {α β:Type}{s:av}{T:List Pl->bV->α->β->Prop}{a:α}{b:β}{W:(β->av->Prop)->(ax->av->Prop)->Prop}
  (g:Go (iH c) ρ s bJ s')(R:Rel c.Z bJ c.X cD s'.heap)(t:T bJ s'.heap a b)(k:∀Q E,Q b s'->W Q E):cH c ρ s T (.ok a cD) W:=λQ E q=>k Q E (q b bJ s' g R t)
def TF (X:List aK)(ρ:List Pl)(h:bV)(fl:Fl)(f:Flow):Prop:=match fl,f with
 |.nx,.next=>True
 |.rt v,.ret w=>bu ρ X h v w
 |_,_=>False
def TS (c:Cx)(ρ:List Pl)(h:bV)(r:Fl×Vs)(f:Flow):Prop:=pK c.Z ρ c.X h c.env c.vt r.2 c.ct c.cs/\da c.X h c.l/\TF c.X ρ h r.1 f
theorem TS.st  {r:Fl×Vs}{f:Flow}(t:TS c ρ h r f)(R:Rel c.Z ρ c.X σ h):St (c.wv r.2) ρ σ h:=⟨R,t.1,t.2.1⟩
structure bW (c:Cx):Prop where
 nodup:∀(i j:Nat) x,c.vt[i]?=aa x->c.vt[j]?=aa x->i=j
 ct:c.ct=[]
 cs:c.cs=[]
 frame:c.env.frame=aa c.env.locals
 top:∃outer,c.l=c.env::outer
 cells:∀p∈c.env.cells,c.env.cells.lookup p.1=aa p.2
theorem da.upd {X:List aK}{L:aK}{m:Str->Option ax}(t:da X h l)(sb:fv L h h')(hm:h'.Ns L m):da X h' l:=λe he=>by
 obtain⟨a,L',o,es,k,b,c,d,f⟩:=t e he;by_cases q:L'=L
 .subst q;(refine Eb hm λo' es' ep' GS Ap U=>?_;try clear hm);exact⟨a,L',o',es',ep',b,c,GS,Ap⟩
 .exact⟨a,L',o,es,k,b,c,(sb.2 L' q).trans d,f⟩
theorem da.cell {X:List aK}{L:aK}{v:Option ax}(t:da X h l)(sb:fv L h h')(hc:h.IsCell L v):da X h' l:=λe he=>by obtain⟨a,L',o,es,k,b,c,d,f⟩:=t e he;refine⟨a,L',o,es,k,b,c,(sb.2 L' λq=>?_).trans d,f⟩;subst q;(refine dC hc λo' GS Ap=>?_;try clear hc);rw[d]at GS;obtain rfl:=aj GS;rw[f]at Ap;exact bk Ap
theorem uf {i j:Nat}{v w:Option V}(h:(vs.set i v)[j]?=aa w):(j=i/\w=v)\/(j≠i/\vs[j]?=aa w):=by
 by_cases e:i=j
 .subst e;rw[List.getElem?_set_self']at h;induction hv:vs[i]? with
  |none=>rw[hv]at h;exact fw h
  |some a=>rw[hv]at h;exact .inl ⟨rfl,by simpa using h.symm⟩
 .rw[dZ e]at h;exact .inr ⟨λq=>e q.symm,h⟩
theorem kC (N:bW c){s:av}(t:St (c.wv vs) ρ σ s.heap){i:Nat}{x:Str}{v:V}{w:ax}(hi:c.vt[i]?=aa x)(hk:c.env.kindOf x=aa .local\/c.env.kindOf x=aa .cell)(r:bu ρ c.X s.heap v w)
  {Q:Unit->av->Prop}{E:ax->av->Prop}(q:∀h' tk,Go (iH c) ρ s ρ {s with heap:=h',toks:=tk}->St (c.wv (vs.set i (aa v))) ρ σ h'->(∀u y,bu ρ c.X s.heap u y->bu ρ c.X h' u y)->Q () {s with heap:=h',toks:=tk}):aE (aA c.Z.prog c.Z.w) c.A (storeName c.env x w) Q E s:=by
 have f:=t.fr;have hct:∀ {y:Str},y∉c.ct:=λ{y} q=>by rw[N.ct]at q;cases q
 have same:∀ {j:Nat},c.vt[j]?=aa x->j=i:=λ{j} hj=>N.nodup j i x hj hi;rcases hk with hk|hk
 .refine tv f.ns λm hm f1 U=>?_;refine wpAny_storeName_local hk hm (λh' H8 sb=>?_) (by rw[show c.env.scope.kind=.function from f.kind];rfl);have hF:∀b∈[c.env.locals],b∈c.X:=λb hb=>by rw[au.mp hb];exact f.own
  have g:dH [c.env.locals] ρ s.heap ρ h':=jd sb (.head _);have mono:∀u y,bu ρ c.X s.heap u y->bu ρ c.X h' u y:=λu y q=>bu.mono g hF (λU q=>.inl q) _ _ q;have n2:∀y a,c.env.cells.lookup y=aa a->a∉[c.env.locals]:=λy a e q=>(f.cells y a e).2.1 (au.mp q);refine q h' _ ⟨g.mono λb hb=>by rw[au.mp hb];exact .head _,h',_,rfl⟩ ⟨t.rel.but sb f.own,?_,t.oq.upd sb H8⟩ mono;exact{
   kind:=f.kind
   globals:=f.globals
   builtins:=f.builtins
   own:=f.own
   ns:=⟨_,H8,λj y u (e1:c.vt[j]?=aa y) e2 e3 e4=>by
    rcases uf e2 with⟨rfl,e⟩|⟨ne,e⟩
    .obtain rfl:=fc (aj e);rw[show c.vt[j]?=aa x from hi]at e1;obtain rfl:=aj e1;exact⟨w,if_pos rfl,mono _ _ r⟩
    .refine dC (f1 j y u e1 e e3 e4) λw' h1 h2=>?_;exact⟨w',(if_neg λ(q:y=x)=>ne (same (by rw[<- q];exact e1))).trans h1,mono _ _ h2⟩,λj y u e1 (e2:c.cs[j]?=aa u) e3=>by
    rw[N.cs]at e2;exact fw e2⟩
   cell:=λj y u (e1:c.vt[j]?=aa y) e2 e3=>by
    rcases uf e2 with⟨rfl,e⟩|⟨ne,e⟩
    .rw[show c.vt[j]?=aa x from hi]at e1;obtain rfl:=aj e1;rw[show c.env.kindOf x=_ from hk]at e3;cases e3
    .refine mI (f.cell j y u e1 e e3) λa w' b1 b2 b3=>?_;exact⟨a,w',b1,IsCell.grow b2 g (t.rel.off (f.cells y a b1).1) (n2 y a b1),mono _ _ b3⟩
   cells:=λy a e=>by obtain⟨a1,a2,w',a3⟩:=f.cells y a e;exact⟨a1,a2,w',IsCell.grow a3 g (t.rel.off a1) (n2 y a e)⟩
   has:=f.has
   inj:=f.inj}
 .obtain⟨a,ha⟩:=f.has x hk;obtain⟨aX,aL,adn,hc⟩:=f.cells x a ha;refine wpAny_storeName_cell f.kind hk ha hc λh' hc' sb=>?_;have hF:∀b∈[a],b∈c.X:=λb hb=>by rw[au.mp hb];exact aX
  have g:dH [a] ρ s.heap ρ h':=jd sb (.head _);have mono:∀u y,bu ρ c.X s.heap u y->bu ρ c.X h' u y:=λu y q=>bu.mono g hF (λU q=>.inl q) _ _ q;refine q h' s.toks ⟨g.mono λb hb=>by rw[au.mp hb];exact .tail _ (lookup_mem ha),h',s.toks,rfl⟩ ⟨t.rel.but sb aX,?_,t.oq.cell sb hc⟩ mono;refine tv f.ns λm hm f1 U=>?_;exact{
   kind:=f.kind
   globals:=f.globals
   builtins:=f.builtins
   own:=f.own
   ns:=⟨m,hm.sameBut sb aL.symm,λj y u (e1:c.vt[j]?=aa y) e2 e3 e4=>by
    rcases uf e2 with⟨rfl,e⟩|⟨ne,e⟩
    .rw[show c.vt[j]?=aa x from hi]at e1;obtain rfl:=aj e1;rw[show c.env.kindOf x=_ from hk]at e4;cases e4
    .refine dC (f1 j y u e1 e e3 e4) λw' h1 h2=>?_;exact⟨w',h1,mono _ _ h2⟩,λj y u e1 (e2:c.cs[j]?=aa u) e3=>by
    rw[N.cs]at e2;exact fw e2⟩
   cell:=λj y u (e1:c.vt[j]?=aa y) e2 e3=>by
    rcases uf e2 with⟨rfl,e⟩|⟨ne,e⟩
    .obtain rfl:=fc (aj e);rw[show c.vt[j]?=aa x from hi]at e1;obtain rfl:=aj e1;exact⟨a,w,ha,hc',mono _ _ r⟩
    .refine mI (f.cell j y u e1 e e3) λb w' b1 b2 b3=>?_;have:b≠a:=λq=>ne (same (f.inj y x a (q▸b1) ha▸e1));exact⟨b,w',b1,IsCell.grow b2 g (t.rel.off (f.cells y b b1).1) (λq=>this (au.mp q)),mono _ _ b3⟩
   cells:=λy b e=>by
    obtain⟨a1,a2,w',a3⟩:=f.cells y b e;by_cases q:b=a
    .obtain rfl:=fc (q);exact⟨a1,a2,_,hc'⟩
    .exact⟨a1,a2,w',IsCell.grow a3 g (t.rel.off a1) λz=>q (au.mp z)⟩
   has:=f.has
   inj:=f.inj}
end
section
variable {c:Cx}{W:Nat}
def SS (c:Cx)(W:Nat)(x:S)(e:iO):Prop:=∀vs ρ σ s,St (c.wv vs) ρ σ s.heap->cH c ρ s (TS c) (ex G c.Φ W x vs σ) (λQ E=>aE (aA c.Z.prog c.Z.w) c.A (exec e c.env) Q E s)
def DY (c:Cx)(W:Nat)(x:List S)(e:List iO):Prop:=∀vs ρ σ s,St (c.wv vs) ρ σ s.heap->cH c ρ s (TS c) (l5 G c.Φ W x vs σ) (λQ E=>aE (aA c.Z.prog c.Z.w) c.A (execs e c.env) Q E s)
def yi (c:Cx)(x:X)(e:bY):Prop:=∀(vs:Vs) (ρ:List Pl) (s:av) (σ:bo),St (c.wv vs) ρ σ s.heap->Run c.Z [] c.X ρ s (TV c.X) (ev G c.Φ vs x [] σ) (λQ E=>aE (aA c.Z.prog c.Z.w) c.A (eval e c.env) Q E s)
def QD (c:Cx)(x:X)(e:bY):Prop:=∀(vs:Vs) (ρ:List Pl) (s:av) (σ:bo),St (c.wv vs) ρ σ s.heap->Run c.Z [] c.X ρ s TE ((ev G c.Φ vs x [] σ).bind fW) (λQ E=>aE (aA c.Z.prog c.Z.w) c.A (pT e c.env (eval e c.env)) Q E s)
theorem yi.of (N:bW c){x:X}(h:∀vs,SX (c.wv vs) x e):yi c x e:=λvs ρ s σ t=>by have:=h vs ρ s σ t;rwa[show(c.wv vs).cs=[]from N.cs]at this
theorem QD.of (N:bW c){x:X}(h:∀vs,SB (c.wv vs) x e):QD c x e:=λvs ρ s σ t=>by have:=h vs ρ s σ t;rwa[show(c.wv vs).cs=[]from N.cs]at this
theorem cH.ri {α β:Type}{s:av}{T:List Pl->bV->α->β->Prop}{r:R α}{f:α->bo->R K0}
  {W:(β->av->Prop)->(ax->av->Prop)->Prop}{W2:β->av->(KZ->av->Prop)->(ax->av->Prop)->Prop}
  (t:St (c.wv vs) ρ σ s.heap)(h:Run c.Z [] c.X ρ s T r W)(k:∀a cD b bJ s',St (c.wv vs) bJ cD s'.heap->Go [] ρ s bJ s'->T bJ s'.heap a b->cH c bJ s' T' (f a cD) (W2 b s')) :
  cH c ρ s T' (r.bind f) (λQ E=>W (λb s1=>W2 b s1 Q E) E):=cH.aa3 (c:=c.wv vs) t h k
theorem TS.nx    (t:St (c.wv vs) ρ σ h):TS c ρ h (.nx,vs) .next:=⟨t.fr,t.oq,trivial⟩
theorem TS.rt    {v:V}{w:ax}(t:St (c.wv vs) ρ σ h)(r:bu ρ c.X h v w):TS c ρ h (.rt v,vs) (.ret w):=⟨t.fr,t.oq,r⟩
theorem tm:DY c W [] []:=λvs ρ σ s t=>by exact .ok .refl t.rel (TS.nx t) λQ E q=>jr q
theorem ue {x:S}{e:iO}{l:List S}{r:List iO}(h:SS c W x e)(k:DY c W l r):DY c W (x::l) (e::r):=λvs ρ σ s t=>by
 refine cH.w (cH.seq (W2:=λf ay Q E=>match f with|.next=>aE (aA c.Z.prog c.Z.w) c.A (execs r c.env) Q E ay|f=>Q f ay) (h vs ρ σ s t) λp bj f aH ay bZ bP bT=>?_) λQ E q=>gG q;obtain⟨fl,k6⟩:=p;induction fl with
 |nx =>
  induction f with
  |next=>exact k k6 aH bj ay (bT.st bP)
  |_=>exact bT.2.2.elim
 |rt v =>
  induction f with
  |ret w=>exact .ok .refl bP bT λQ E q=>q
  |_=>exact bT.2.2.elim
theorem rJ  {v:ax}{s:av}{Q:Flow->av->Prop}{E:ax->av->Prop}(q:Q .next s):aE (aA c.Z.prog c.Z.w) c.A (dropValue e pos v) Q E s:=by
 have a:aE (aA c.Z.prog c.Z.w) c.A (pure .next:Sem Flow) Q E s:=aW q;have b:aE (aA c.Z.prog c.Z.w) c.A (do standAt pos;let _<-runValue (.builtin "proto.let_go" {});pure .next:Sem Flow) Q E s :=
  aq (bR (aq (wpAny_runValue (codeAny_builtin entry_let_go (aW (aW q):aE _ _ (ret .none) _ _ s)))))
 induction e using PySem.Expr.casesOn with
 |Name=>exact a
 |_=>induction v with
  |ref=>exact b
  |_=>exact a
noncomputable def kb (e:bY):Bool:=!(eG e.ctorIdx 8||(eG e.ctorIdx 9||eG e.ctorIdx 10))
theorem kz {t:Option bY}{n:Nat}(h:kb e=af):swapsWith e t n env=pure ag:=by induction e using PySem.Expr.casesOn<;>first|rfl|exact jE h
theorem IS {x:X}(h:yi c x e)(hn:kb e=af):SS c W (.expr x) (.Expr e pos):=λvs ρ σ s t=>by
 have hi:r9 c.env=ag:=by unfold r9;rw[show c.env.scope.kind=.function from t.fr.kind];rfl
 refine cH.w (cH.ri (W2:=λv ay Q E=>Q .next ay) t (h vs ρ s σ t) λv bj w aH ay eV bZ bT=>.ok .refl eV.rel (TS.nx eV) λQ E q=>q) λQ E q=>?_;rw[exec_Expr c.env e pos hi (kz hn)];exact aq (bR (aq (bp q (λv ay h₁=>rJ h₁) λU U x=>x)))
theorem E8 (N:bW c){i:Nat}{x:X}{n:Str}(h:yi c x e)(hi:c.vt[i]?=aa n)(hk:c.env.kindOf n=aa .local\/c.env.kindOf n=aa .cell)(hs:swapsWith e (aa (.Name n p)) pos.line c.env=pure ag):SS c W (.asg i x) (.Assign [.Name n p] e pos):=λvs ρ σ s t=>by refine cH.w (cH.ri (W2:=λw ay Q E=>aE (aA c.Z.prog c.Z.w) c.A (storeName c.env n w) (λU=>Q .next) E ay) t (h vs ρ s σ t) λv bj w aH ay eV bZ bT=>?_) λQ E q=>wpAny_Assign_Name q hs;exact λQ E q=>kC N eV hi hk bT λh' tk g t' U=>q .next aH _ g t'.rel (TS.nx t')
theorem E4 {x:X}(h:yi c x e):SS c W (.ret x) (.Return (aa e) pos):=λvs ρ σ s t=>by exact cH.w (cH.ri (W2:=λw ay Q E=>Q (.ret w) ay) t (h vs ρ s σ t) λv bj w aH ay eV bZ bT=>.ok .refl eV.rel (TS.rt eV bT) λQ E q=>q) λQ E q=>wpAny_Return_some q
theorem IP:SS c W (.ret (.k .none)) (.Return ae pos):=λvs ρ σ s t=>by exact .ok (b:=.ret .none) .refl t.rel (TS.rt t t7) λQ E q=>wpAny_Return_none q
theorem Pa {t:X}{a b:List S}  : ex G c.Φ W (.ite t a b) vs σ=((ev G c.Φ vs t [] σ).bind fW).bind λx σ=>if x then l5 G c.Φ W a vs σ else l5 G c.Φ W b vs σ:=by
 refine(?_:(ev G c.Φ vs t [] σ).bind _=_);rw[R.bind_assoc];congr 1;funext v cD;induction v using V.casesOn with
 |bool b=>induction b<;>rfl
 |_=>rfl
theorem E6 {t:X}{a b:List S}{ea:List iO}(ht:QD c t et)(ha:DY c W a ea)(hb:DY c W b eb):SS c W (.ite t a b) (.If et ea eb pos):=λvs ρ σ s t=>by
 rw[Pa];refine cH.w (cH.ri (W2:=λb ay Q E=>if b then aE (aA c.Z.prog c.Z.w) c.A (execs ea c.env) Q E ay else aE (aA c.Z.prog c.Z.w) c.A (execs eb c.env) Q E ay) t (ht vs ρ s σ t) λb bj b' aH ay eV bZ e=>?_) λQ E h=>wpAny_If h;subst e;induction b with
 |true=>exact ha vs aH bj ay eV
 |false=>exact hb vs aH bj ay eV
end
section
variable {c:Cx}{W:Nat}
def TA1 (c:Cx)(ρ:List Pl)(h:bV)(vs:Vs)(_:Unit):Prop:=pK c.Z ρ c.X h c.env c.vt vs c.ct c.cs/\da c.X h c.l
def SA (c:Cx)(t:TA)(e:bY):Prop:=∀vs ρ σ s x w,St (c.wv vs) ρ σ s.heap->bu ρ c.X s.heap x w->cH c ρ s (TA1 c) (zx G c.Φ t x vs σ) (λQ E=>aE (aA c.Z.prog c.Z.w) c.A (ji e c.env w) Q E s)
theorem I3 (N:bW c){i:Nat}{n:Str}(hi:c.vt[i]?=aa n)(hk:c.env.kindOf n=aa .local\/c.env.kindOf n=aa .cell):SA c (.n i) (.Name n p):=λvs ρ σ s x w t r Q E q =>
 nh (kC N t hi hk r λh' tk g t' U=>q () ρ _ g t'.rel ⟨t'.fr,t'.oq⟩)
theorem Fh (D:Ok c mg mb){o:X}{f:Nat}{n:Str}(ho:yi c o eo)(hf:fields[f]?=aa n):SA c (.dm o f) (.Attribute eo n p):=λvs ρ σ s x w t r=>by
 refine cH.w (cH.ri (W2:=λv ay Q E=>aE (aA c.Z.prog c.Z.w) c.A (wu v n w) Q E ay) t (ho vs ρ s σ t) λa bj v aH ay eV bZ bT=>?_) λQ E q=>?_
 .refine cH.opts λcD hs=>?_
  .exact λQ E q=>zd eV.rel D.k hf hs bT (bZ.v r) λh' tk R' g'=>by have g2:Go [] aH ay aH {ay with heap:=h',toks:=tk}:=⟨g',h',tk,rfl⟩;have t':=eV.go g2 R';exact q () aH _ g2.any R' ⟨t'.fr,t'.oq⟩
 .rw[sF];exact aq (bC (bp q (λv ay h₁=>aq (bR (aq (bC (bp h₁ (λU bH fk=>kX fk) λU U x=>x))))) λU U x=>x))
theorem Fg (D:Ok c mg mb){o i:X}(ho:yi c o eo)(hi:yi c i ei)(hp:lj ei=af):SA c (.sub o i) (.Subscript eo ei p):=λvs ρ σ s x w t r=>by
 refine cH.w (cH.ri (W2:=λv ay Q E=>aE (aA c.Z.prog c.Z.w) c.A (eval ei c.env) (λy bH=>aE (aA c.Z.prog c.Z.w) c.A (AP v y w) Q E bH) E ay) t (ho vs ρ s σ t) λa bj v aH ay eV bZ bT=>?_) λQ E q=>?_
 .refine cH.w (cH.ri (W2:=λy bH Q E=>aE (aA c.Z.prog c.Z.w) c.A (AP v y w) Q E bH) eV (hi vs aH ay bj eV) λj gF y fU bH q9 fN gb=>?_) λQ E q=>q;refine cH.opts λcD hs=>?_
  .exact λQ E q=>xO q9.rel hs (fN.v bT) gb (fN.v (bZ.v r)) λh' tk R' g'=>by have g2:Go [] fU bH fU {bH with heap:=h',toks:=tk}:=⟨g',h',tk,rfl⟩;have t':=q9.go g2 R';exact q () fU _ g2.any R' ⟨t'.fr,t'.oq⟩
 .rw[arm_assign_Subscript];exact aq (bC (bp q (λv ay h₁=>aq (bC (bp h₁ (λy bH fk=>aq (bR (aq (bC (bp fk (λU fV i4=>kX i4) λU U x=>x))))) λU U x=>x))) λU U x=>x))
noncomputable def zG (e:bY):Bool:=eG e.ctorIdx 20||eG e.ctorIdx 21
theorem uz (h:zG e=af):(∃a b c,e=.Attribute a b c)\/∃a b c,e=.Subscript a b c:=by induction e using PySem.Expr.casesOn<;>first|exact .inl ⟨_,_,_,rfl⟩|exact .inr ⟨_,_,_,rfl⟩|exact jE h
theorem Dx  {l:Nat}{a:bY}(h:zG a=af):n9 [a] e l env=pure ag:=by obtain⟨_,_,_,rfl⟩|⟨_,_,_,rfl⟩:=uz h<;>induction e using PySem.Expr.casesOn<;>rfl
theorem zF  {a:bY}(h:zG a=af):iu [a] e env=pure ae:=by obtain⟨_,_,_,rfl⟩|⟨_,_,_,rfl⟩:=uz h<;>rfl
theorem F5 {a:bY}(h:zG a=af):iZ [a] env=[(ag,ji a env)]:=by obtain⟨_,_,_,rfl⟩|⟨_,_,_,rfl⟩:=uz h<;>rfl
theorem my {t:bY}{s:av}{Q:Flow->av->Prop}{E:ax->av->Prop}(ht:zG t=af)
  (q:aE (aA c.Z.prog c.Z.w) c.A (eval e c.env) (λv ay=>aE (aA c.Z.prog c.Z.w) c.A (ji t c.env v) (λU=>Q .next) E ay) E s):aE (aA c.Z.prog c.Z.w) c.A (exec (.Assign [t] e pos) c.env) Q E s:=by
 rw[Ar];rw[Dx ht,zF ht,F5 ht];refine aq (bR (aq (aW (ik ?_))));rw[if_neg bq];exact aq (bp q (λv ay h₁=>aq (aW (aq (bp h₁ (λU U h=>aW h) λU U x=>x):aE (aA c.Z.prog c.Z.w) c.A ((ji t c.env v:Sem Unit) >>= λU=>(pure Flow.next:Sem Flow)) Q E ay))) λU U x=>x)
theorem Dq (D:Ok c mg mb){o x:X}{f:Nat}{n:Str}(ho:yi c o eo)(hx:yi c x e)(hf:fields[f]?=aa n):SS c W (.fj o f x) (.Assign [.Attribute eo n p] e pos):=λvs ρ σ s t=>by
 have e1:ex G c.Φ W (.fj o f x) vs σ=(ev G c.Φ vs x [] σ).bind λx σ=>(zx G c.Φ (.dm o f) x vs σ).bind λvs σ=>.ok (.nx,vs) σ:=by
  refine(?_:(ev G c.Φ vs x [] σ).bind _=_);congr 1;funext x cD;refine(?_:(ev G c.Φ vs o [] cD).bind _=(R.bind (R.bind _ _) _));rw[R.bind_assoc];congr 1;funext a oY
  split<;>rfl
 rw[e1];refine cH.w (cH.ri (W2:=λw ay Q E=>aE (aA c.Z.prog c.Z.w) c.A (ji (.Attribute eo n p) c.env w) (λU=>Q .next) E ay) t (hx vs ρ s σ t) λv bj w aH ay eV bZ bT=>?_) λQ E q=>my rfl q;exact cH.w (cH.seq (W2:=λU bH Q E=>Q .next bH) (Fh D ho hf vs aH bj ay v w eV bT) λk6 gF U fU bH fN fO gb=>.ok .refl fO (TS.nx ⟨fO,gb.1,gb.2⟩) λQ E q=>q) λQ E q=>q
theorem Dp (D:Ok c mg mb){o i x:X}(ho:yi c o eo)(hi:yi c i ei)(hx:yi c x e)(hp:lj ei=af):SS c W (.eY o i x) (.Assign [.Subscript eo ei p] e pos):=λvs ρ σ s t=>by
 have e1:ex G c.Φ W (.eY o i x) vs σ=(ev G c.Φ vs x [] σ).bind λx σ=>(zx G c.Φ (.sub o i) x vs σ).bind λvs σ=>.ok (.nx,vs) σ:=by
  refine(?_:(ev G c.Φ vs x [] σ).bind _=_);congr 1;funext x cD;refine(?_:(ev G c.Φ vs o [] cD).bind _=(R.bind (R.bind _ _) _));rw[R.bind_assoc];congr 1;funext a oY;rw[R.bind_assoc];congr 1;funext a oY
  split<;>rfl
 rw[e1];refine cH.w (cH.ri (W2:=λw ay Q E=>aE (aA c.Z.prog c.Z.w) c.A (ji (.Subscript eo ei p) c.env w) (λU=>Q .next) E ay) t (hx vs ρ s σ t) λv bj w aH ay eV bZ bT=>?_) λQ E q=>my rfl q;exact cH.w (cH.seq (W2:=λU bH Q E=>Q .next bH) (Fg D ho hi hp vs aH bj ay v w eV bT) λk6 gF U fU bH fN fO gb=>.ok .refl fO (TS.nx ⟨fO,gb.1,gb.2⟩) λQ E q=>q) λQ E q=>q
inductive vy (P:TA->bY->Prop):List TA->List bY->Prop where
 |nil:vy P [] []
 |cons {x:TA} {e:bY} {l:List TA} {r:List bY}:P x e->noStar e=af->vy P l r->vy P (x::l) (e::r)
theorem mO {r:List bY}(h:noStar e=af):iZ (e::r) env=(ag,ji e env)::iZ r env:=by induction e using PySem.Expr.casesOn<;>first|rfl|exact jE h
theorem ux (N:bW c)(hc:∀p∈c.env.cells,c.env.cells.lookup p.1=aa p.2)(t:St (c.wv vs) ρ σ h):∀b∈iH c,b∈c.X:=λb hb=>by
 rcases aN.mp hb with rfl|hb
 .exact t.fr.own
 ·(refine dC (bX.mp hb) λp hp z1=>?_;subst z1);exact(t.fr.cells p.1 p.2 (hc p hp)).1
theorem zj (N:bW c)(hc:∀p∈c.env.cells,c.env.cells.lookup p.1=aa p.2)(h:vy (SA c) ts es):∀vs ρ σ s xs ws,St (c.wv vs) ρ σ s.heap->bt ρ c.X s.heap xs ws->xs.length=ts.length ->
  cH c ρ s (TA1 c) (nA G c.Φ ts xs vs σ) (λQ E=>aE (aA c.Z.prog c.Z.w) c.A (kY ((iZ es c.env).map (·.2)) ws) Q E s):=by
 induction h with
 |nil =>
  intro vs ρ σ s xs ws t r hl;induction xs with
  |nil =>subst r;exact .ok .refl t.rel ⟨t.fr,t.oq⟩ λQ E q=>D8 q
  |cons=>cases hl
 |@cons ta e l r ha hb hr ih =>
  intro vs ρ σ s xs ws t rr hl;induction xs using List.casesOn with
  |nil=>cases hl
  |cons x xs =>
   (refine mI rr.jt λw ws z1 r1 r2=>?_;subst z1);refine cH.w (cH.seq (W2:=λU ay Q E=>aE (aA c.Z.prog c.Z.w) c.A (kY ((iZ r c.env).map (·.2)) ws) Q E ay) (ha vs ρ σ s x w t r1) λk6 bj U aH ay bZ bP Rc=>?_) λQ E q=>by rw[mO hb];exact D9 q
   exact ih k6 aH bj ay xs ws ⟨bP,Rc.1,Rc.2⟩ (bt.mono bZ.grow (ux N hc t) (λU q=>.inl q) _ _ r2) (by simpa using hl)
end
noncomputable def isStar (e:bY):Bool:=eG e.ctorIdx 22
noncomputable def BW (names:List (Str×f9))(ts vs:List bY):Option (Option (List Str)) :=
 if !(ts.length==2||ts.length==3)||vs.length != ts.length then aa ae
 else if vs.any isStar then aa ae
 else
  let line:=(ts.head?.map (·.pos.line)).getD 0
  let ns:=ts.filterMap λ
   |.Name id pos=>if names.lookup id==aa .local&&pos.line==line then aa id else ae
   |_=>ae
  if ns.length != ts.length||ns.eraseDups.length != ns.length then aa ae
  else if vs.all (foldedForSure 8)then aa ae
  else if vs.all (constantsAlone 8)then ae
  else aa (aa ns)
def HT (o:Option (Option (List Str)))(m:Sem (Option (List Str))):Prop:=∀r,o=aa r->m=pure r
theorem HT.ite {b b':Bool}{y:Option (Option (List Str))}{n:Sem (Option (List Str))}(e:b'=b)(h:HT y n):HT (if b then aa ae else y) (if b' then pure ae else n):=λr q=>by
 subst e;induction b' with
 |true=>exact congrArg pure (aj q)
 |false=>exact h r q
theorem HT.last {b:Bool}{ns:Option (List Str)}{m:Sem (Option (List Str))}:HT (if b then ae else aa ns) (if b then m else pure ns):=λr q=>by
 induction b with
 |true=>exact fw q
 |false=>exact congrArg pure (aj q)
theorem EY (hk:env.scope.kind=.function){ts vs:List bY}{k k':Nat}{p':Pos}{r:Option (List Str)}(h:BW env.scope.names ts vs=aa r):iu [.Tuple ts k p] (.Tuple vs k' p') env=pure r:=by
 have hb:(env.blockKind != As)=ag:=by unfold Env.blockKind;rw[hk];rfl
 exact(HT.ite (by rw[hb,Bool.or_false]) (HT.ite (congrArg vs.any (funext λx=>by induction x using PySem.Expr.casesOn<;>rfl)) (HT.ite rfl (HT.ite rfl HT.last))):HT (BW env.scope.names ts vs) (iu [.Tuple ts k p] (.Tuple vs k' p') env)) r h
noncomputable def Ga:bY->Bool
 |.Tuple _ _ _=>ag
 |_=>af
theorem EZ {ts:List bY}{k:Nat}(h:Ga e=af):iu [.Tuple ts k p] e env=pure ae:=by induction e using PySem.Expr.casesOn<;>first|(exact absurd h bq)|rfl
section
variable {c:Cx}{W:Nat}
theorem rR (hh:c.A.handled=ae){s:av}{t:aK}(ht:TupAt s.heap t ws){Q:List ax->av->Prop}{E:ax->av->Prop}(q:∀h',Ext s.heap h'->Q ws {s with heap:=h'}):aE (aA c.Z.prog c.Z.w) c.A (unpackItems (.ref t) ws.length ae) Q E s:=by obtain⟨n,e⟩:=ht;have hT:s.heap.IsTuple t ws.toArray:=⟨_,e,rfl,n,rfl⟩;have:=gP (wpAny_unpackItems_tuple (prog:=c.Z.prog) (w:=c.Z.w) (E:=E) hh hT (Q:=λl s'=>s.heap.objs.size<=s'.heap.objs.size->Q l s') λh' x z=>q h' ⟨z,λb o e=>x b o (dh (bx e)) e⟩);simpa using this
theorem aax {P:TA->bY->Prop}(h:vy P ts es):es.length=ts.length:=by
 induction h with
 |nil=>rfl
 |cons _ _ _ ih=>simp[ih]
theorem DV {P:TA->bY->Prop}(h:vy P ts es):(iZ es env).length=ts.length/\(iZ es env).findIdx? (·.1)=ae:=by
 induction h with
 |nil=>exact⟨rfl,rfl⟩
 |cons _ hb _ ih=>rw[mO hb];exact⟨by simp[ih.1],by rw[List.findIdx?_cons];simp[ih.2]⟩
theorem wm  {l:List V}{w:ax}{X:List aK}(r:bu ρ X h (.tup l) w):∃t ws,w=.ref t/\TupAt h t ws/\bt ρ X h l ws:=by(refine wL r λa ws z1 U U t q=>?_;try clear r;subst z1);exact⟨a,ws,rfl,t,q⟩
theorem uh (N:bW c)(hc:∀p∈c.env.cells,c.env.cells.lookup p.1=aa p.2)(hh:c.A.handled=ae){k:Nat}(h:vy (SA c) ts es){s:av}{l:List V}{w:ax}(t:St (c.wv vs) ρ σ s.heap)(r:bu ρ c.X s.heap (.tup l) w)(hl:l.length=ts.length) :
  cH c ρ s (TA1 c) (nA G c.Φ ts l vs σ) (λQ E=>aE (aA c.Z.prog c.Z.w) c.A (ji (.Tuple es k p) c.env w) Q E s):=by
 (refine mI (wm r) λa ws z1 ta rs=>?_;subst z1);have key:∀h',Ext s.heap h'->cH c ρ {s with heap:=h'} (TA1 c) (nA G c.Φ ts l vs σ) (λQ E=>aE (aA c.Z.prog c.Z.w) c.A (kY ((iZ es c.env).map (·.2)) ws) Q E {s with heap:=h'}):=λh' x =>
  zj N hc h vs ρ σ {s with heap:=h'} l ws (St.go (c:=c.wv vs) (s':={s with heap:=h'}) t (Go.ext (t:=s.toks) x) (t.rel.ext x)) (rs.ext x) hl
 have red:∀ {Q:Unit->av->Prop} {E:ax->av->Prop},(∀h',Ext s.heap h'->aE (aA c.Z.prog c.Z.w) c.A (kY ((iZ es c.env).map (·.2)) ws) Q E {s with heap:=h'})->aE (aA c.Z.prog c.Z.w) c.A (ji (.Tuple es k p) c.env (.ref a)) Q E s:=λ{Q E} q=>by rw[arm_assign_Tuple];unfold unpack;have e1:=DV (env:=c.env) h;have e3:(iZ es c.env).length=ws.length:=e1.1.trans (hl.symm.trans rs.length);rw[e3,e1.2];exact aq (bR (aq (bC (rR hh ta q))))
 induction hr:nA G c.Φ ts l vs σ with
 |bad=>trivial
 |ok b cD =>refine λQ E q=>red λh' x=>?_;have:=key h' x;rw[hr]at this;exact this Q E λb bJ s' g=>q b bJ s' ((Go.ext x).trans g)
 |exc cD =>refine λQ E q=>red λh' x=>?_;have:=key h' x;rw[hr]at this;exact this Q E λb bJ s' g R y=>q b bJ s' ((Go.ext x).trans g) R (y.mH x.1)
theorem IT (N:bW c)(hc:∀p∈c.env.cells,c.env.cells.lookup p.1=aa p.2)(hh:c.A.handled=ae){x:X}{k:Nat}(h:vy (SA c) ts es)(hx:yi c x e)(hn:kb e=af)(hs:c.env.scope.kind=.function->iu [.Tuple es k p] e c.env=pure ae) :
  SS c W (.fY ts x) (.Assign [.Tuple es k p] e pos):=λvs ρ σ s t=>by
 have hk:c.env.scope.kind=.function:=t.fr.kind;refine cH.w (cH.ri (W2:=λw ay Q E=>aE (aA c.Z.prog c.Z.w) c.A (ji (.Tuple es k p) c.env w) (λU=>Q .next) E ay) t (hx vs ρ s σ t) λv bj w aH ay eV bZ bT=>?_) λQ E q=>?_
 .refine cH.tup λl e=>?_;refine cH.ite λhl=>?_;subst e;exact cH.w (cH.seq (W2:=λU bH Q E=>Q .next bH) (uh N hc hh h eV bT hl) λk6 gF U fU bH fN fO gb=>.ok .refl fO (TS.nx ⟨fO,gb.1,gb.2⟩) λQ E q=>q) λQ E q=>q
 .rw[Ar];have h1:n9 [.Tuple es k p] e pos.line c.env=pure ag:=by unfold n9;exact kz hn
  rw[h1,hs hk];refine aq (bR (aq (aW (ik ?_))));rw[if_neg bq];exact aq (bp q (λv ay h₁=>aq (aW (aq (bp h₁ (λU U h=>aW h) λU U x=>x):aE (aA c.Z.prog c.Z.w) c.A ((ji (.Tuple es k p) c.env v:Sem Unit) >>= λU=>(pure Flow.next:Sem Flow)) Q E ay))) λU U x=>x)
end
noncomputable def jR:List Nat->List V->Vs->Vs
 |i::is,x::xs,vs=>jR is xs (vs.set i (aa x))
 |_,_,vs=>vs
theorem rT {i:Nat}{x:V}:∀(is:List Nat) (xs:List V) (vs:Vs),i∉is->jR is xs (vs.set i (aa x))=(jR is xs vs).set i (aa x)
 |[],_=>λU U=>rfl
 |j::is,[]=>λU U=>rfl
 |j::is,y::xs=>λvs h=>by simp only[aN,not_or]at h;refine(?_:jR is xs ((vs.set i (aa x)).set j (aa y))=(jR is xs (vs.set j (aa y))).set i (aa x));rw[List.set_comm _ _ h.1,rT is xs _ h.2]
theorem rS {i:Nat}{x:V}:∀(is:List Nat) (xs:List V) (vs:Vs),is.length=xs.length->jR (is++[i]) (xs++[x]) vs=(jR is xs vs).set i (aa x)
 |[],[]=>λU U=>rfl
 |[],_::_=>λU h=>by cases h
 |_::_,[]=>λU h=>by cases h
 |j::is,y::xs=>λvs h=>by exact rS is xs (vs.set j (aa y)) (by simpa using h)
theorem ug:∀(is:List Nat) (xs:List V) (vs:Vs),is.length=xs.length->is.Nodup->jR is.reverse xs.reverse vs=jR is xs vs
 |[],[]=>λU U U=>rfl
 |[],_::_=>λU h U=>by cases h
 |_::_,[]=>λU h U=>by cases h
 |j::is,y::xs=>λvs h hn=>by rw[du]at hn;simp only[hK];rw[rS _ _ _ (by simpa using h),ug is xs vs (by simpa using h) hn.2];exact(rT is xs vs hn.1).symm
section
variable {c:Cx}{W:Nat}
theorem me {Φ:Nat->List V->bo->R V}:∀(is:List Nat) (xs:List V) (vs:Vs) (σ:bo),is.length=xs.length->nA G Φ (is.map .n) xs vs σ=.ok (jR is xs vs) σ
 |[],[]=>λvs σ U=>rfl
 |[],_::_=>λU U h=>by cases h
 |_::_,[]=>λU U h=>by cases h
 |i::is,x::xs=>λvs σ h=>by exact me is xs (vs.set i (aa x)) σ (by simpa using h)
def Ay (c:Cx):List Nat->List Str->Prop
 |[],[]=>True
 |i::is,n::ns=>c.vt[i]?=aa n/\(c.env.kindOf n=aa .local\/c.env.kindOf n=aa .cell)/\Ay c is ns
 |_,_=>False
theorem Ay.length:∀ {is:List Nat} {ns:List Str},Ay c is ns->is.length=ns.length
 |[],[],_=>rfl
 |_::_,_::_,h=>by simp[Ay.length h.2.2]
theorem Ay.snoc {i:Nat}{n:Str}(h:c.vt[i]?=aa n/\(c.env.kindOf n=aa .local\/c.env.kindOf n=aa .cell)):∀ {is:List Nat} {ns:List Str},Ay c is ns->Ay c (is++[i]) (ns++[n])
 |[],[],_=>⟨h.1,h.2,trivial⟩
 |_::_,_::_,k=>⟨k.1,k.2.1,Ay.snoc h k.2.2⟩
theorem Ay.rev:∀ {is:List Nat} {ns:List Str},Ay c is ns->Ay c is.reverse ns.reverse
 |[],[],_=>trivial
 |_::_,_::_,k=>by simp only[hK];exact Ay.snoc ⟨k.1,k.2.1⟩ (Ay.rev k.2.2)
theorem bt.rev {ρ:List Pl}{X:List aK}{h:bV}:∀ {l:List V} {ws:List ax},bt ρ X h l ws->bt ρ X h l.reverse ws.reverse
 |[],_,r=>by subst r;exact .nil
 |v::l,_,r=>by(refine mI r.jt λw t z1 a b=>?_;subst z1);simp only[hK];exact b.rev.append (.cons a .nil)
theorem wA (N:bW c)(hc:∀p∈c.env.cells,c.env.cells.lookup p.1=aa p.2):∀ {is:List Nat} {ns:List Str},Ay c is ns->∀vs ρ σ s xs ws,St (c.wv vs) ρ σ s.heap->bt ρ c.X s.heap xs ws->is.length=xs.length ->
  ∀{Q:Unit->av->Prop} {E:ax->av->Prop},(∀s',Go (iH c) ρ s ρ s'->St (c.wv (jR is xs vs)) ρ σ s'.heap->Q () s')->aE (aA c.Z.prog c.Z.w) c.A (kY (ns.map λn=>bindName c.env n) ws) Q E s
 |[],[],_,vs,ρ,σ,s,xs,ws,t,r,hl,Q,E,q=>by
  induction xs using List.casesOn with
  |nil=>subst r;exact D8 (q s .refl t)
  |cons=>cases hl
 |i::is,n::ns,h,vs,ρ,σ,s,xs,ws,t,r,hl,Q,E,q=>by
  induction xs using List.casesOn with
  |nil=>cases hl
  |cons x xs =>(refine mI r.jt λw ws z1 r1 r2=>?_;subst z1);refine D9 (wpAny_bindName (kC N t h.1 h.2.1 r1 λh' tk g t' mono=>?_));exact wA N hc h.2.2 _ ρ σ {s with heap:=h',toks:=tk} xs ws t' (bt.mono g.grow (ux N hc t) (λU q=>.inl q) _ _ r2) (by simpa using hl) λs' g' QR=>q s' (g.trans g') QR
theorem E7 (N:bW c)(hc:∀p∈c.env.cells,c.env.cells.lookup p.1=aa p.2)(hh:c.A.handled=ae){x:X}{k:Nat}(h:Ay c is ns)(x7:is.Nodup)(hx:yi c x e)(hn:kb e=af)
  (hs:c.env.scope.kind=.function->iu [.Tuple es k p] e c.env=pure (aa ns)):SS c W (.fY (is.map .n) x) (.Assign [.Tuple es k p] e pos):=λvs ρ σ s t=>by
 have hk:c.env.scope.kind=.function:=t.fr.kind;refine cH.w (cH.ri (W2:=λw ay Q E=>aE (aA c.Z.prog c.Z.w) c.A (unpackItems w ns.length ae) (λitems bH=>aE (aA c.Z.prog c.Z.w) c.A (kY (ns.reverse.map λn=>bindName c.env n) items.reverse) (λU=>Q .next) E bH) E ay) t (hx vs ρ s σ t) λv bj w aH ay eV bZ bT=>?_) λQ E q=>?_
 .refine cH.tup λl e=>?_
  .refine cH.ite λhl=>?_
   .subst e;have hl:is.length=l.length:=by simpa using hl.symm
    rw[me is l vs bj hl];(refine mI (wm bT) λa ws z1 ta rs=>?_;subst z1);have e3:ns.length=ws.length:=h.length.symm.trans (hl.trans rs.length);refine λQ E q=>?_;rw[e3];refine rR hh ta λh' x=>?_;have t':St (c.wv vs) aH bj h':=St.go (c:=c.wv vs) (s:=ay) (s':={ay with heap:=h'}) eV (Go.ext (t:=ay.toks) x) (eV.rel.ext x);refine wA N hc h.rev vs aH bj {ay with heap:=h'} l.reverse ws.reverse t' (rs.ext x).rev (by simpa using hl) λs' g QR=>?_;rw[ug is l vs hl x7]at QR;exact q .next aH s' ((Go.ext (t:=ay.toks) x).trans g) QR.rel (TS.nx QR)
 .rw[Ar];have h1:n9 [.Tuple es k p] e pos.line c.env=pure ag:=by unfold n9;exact kz hn
  rw[h1,hs hk];refine aq (bR (aq (aW (ik ?_))));rw[if_neg bq];refine aq (bp q (λv ay h₁=>aq (aW ?_)) λU U x=>x);unfold assignStores;exact aq (kQ (aq (bp h₁ (λitems bH fk=>aq (bp fk (λU fV i4=>aW i4) λU U x=>x)) λU U x=>x)))
theorem pK.less   {X:List aK}(t:pK Z ρ X' h env vt vs ct cs)(h1:∀b∈X,b∈X')(o:env.locals∈X)(hc:∀x c,env.cells.lookup x=aa c->c∈X):pK Z ρ X h env vt vs ct cs where
 kind:=t.kind
 globals:=t.globals
 builtins:=t.builtins
 own:=o
 ns:=by refine tv t.ns λm a b d=>?_;exact⟨m,a,λi x v e1 e2 e3 e4=>let ⟨w,f,r⟩:=b i x v e1 e2 e3 e4;⟨w,f,r.less h1⟩,λi x v e1 e2 e3=>let ⟨w,f,r⟩:=d i x v e1 e2 e3;⟨w,f,r.less h1⟩⟩
 cell:=λi x v e1 e2 e3=>let ⟨c,w,a,b,r⟩:=t.cell i x v e1 e2 e3;⟨c,w,a,b,r.less h1⟩
 cells:=λx c e=>⟨hc x c e,(t.cells x c e).2⟩
 has:=t.has
 inj:=t.inj
theorem IU (D:Ok c mg mb)(N:bW c)(hc:∀p∈c.env.cells,c.env.cells.lookup p.1=aa p.2){i:Nat}{m:Bool}{n:Str}{x:Str}{NY:Pos}{e y:X}{ifs:List X}(hi:c.vt[i]?=aa n)(hk:c.env.kindOf n=aa .local)(K:∀vs,pN (c.wv vs) scope x)
  (he:∀vs C X' v,SX (d7 (c.wv vs) scope x C X' [v]) e elt)(hif:∀vs C X' v,e9 (SB (d7 (c.wv vs) scope x C X' [v])) ifs mq)(hy:∀vs,s6 (c.wv vs) y iter)(hs:∀v,iI iter c.env v=pure v)(w3:∀a,y≠.pC a)
  (hyp:∀vs σ cD,uX G c.Φ vs y [] σ≠.exc cD)(hsw:swapsWith (.ListComp elt [⟨.Name x px,iter,mq,0⟩] scope pos) (aa (.Name n np)) NY.line c.env=pure af) :
  SS c W (.asg i (.comp m e y ifs)) (.Assign [.Name n np] (.ListComp elt [⟨.Name x px,iter,mq,0⟩] scope pos) NY):=λvs ρ σ s t=>by
 have e1:ex G c.Φ W (.asg i (.comp m e y ifs)) vs σ=(uX G c.Φ vs y [] σ).bind (j5 c.Φ vs e ifs λys σ=>(gQ m ys σ).bind λx σ=>.ok (Fl.nx,vs.set i (aa x)) σ):=by refine(?_:R.bind (R.bind _ _) _=_);rw[R.bind_assoc];congr 1;funext k cD;exact Bv _
 rw[e1];have core:=w9 (c:=c.wv vs) (px:=px) (pos:=pos) (use:=aa (ji (.Name n np) c.env)) (F:=iH c) (T:=TS c) (Wq:=λQ U=>Q .next) (f2:=λys σ=>(gQ m ys σ).bind λx σ=>.ok (Fl.nx,vs.set i (aa x)) σ) (D.cx rfl rfl rfl rfl) (K vs) (he vs) (hif vs) (hy vs) hs w3 t
  λlv aH bj ay own Da C X' s' ys m' g1 g2 ho hX hC hD ZU hCs oO R p r hm hX'=>?_
 .rw[show(c.wv vs).cs=[]from N.cs]at core;have red:∀ {Q:Flow->av->Prop} {E:ax->av->Prop},aE (aA c.Z.prog c.Z.w) c.A (Ej (.ListComp elt [⟨.Name x px,iter,mq,0⟩] scope pos) scope c.env (firstIterPos [⟨.Name x px,iter,mq,0⟩] pos) (newList []) ag (eval iter c.env) (aa (ji (.Name n np) c.env))) (λU=>Q .next) E s ->
    aE (aA c.Z.prog c.Z.w) c.A (exec (.Assign [.Name n np] (.ListComp elt [⟨.Name x px,iter,mq,0⟩] scope pos) NY) c.env) Q E s:=λ{Q E} q=>by
   rw[exec_Assign_Name_used _ _ _ _ hsw];exact aq (bR (aq (show aE (aA c.Z.prog c.Z.w) c.A (Ej (.ListComp elt [⟨.Name x px,iter,mq,0⟩] scope pos) scope c.env (firstIterPos [⟨.Name x px,iter,mq,0⟩] pos) (newList []) ag (eval iter c.env) (aa (ji (.Name n np) c.env)) >>= λU=>(pure ():Sem Unit)) _ _ _ from
    aq (bp q (λU ay h₁=>aW (aW h₁)) λU U x=>x))))
  induction hr:(uX G c.Φ vs y [] σ).bind (j5 c.Φ vs e ifs λys σ=>(gQ m ys σ).bind λx σ=>.ok (Fl.nx,vs.set i (aa x)) σ)with
  |bad=>trivial
  |ok a cD =>rw[show(uX G (c.wv vs).Φ (c.wv vs).vs y [] σ).bind (j5 (c.wv vs).Φ (c.wv vs).vs e ifs λys σ=>(gQ m ys σ).bind λx σ=>.ok (Fl.nx,vs.set i (aa x)) σ)=_ from hr]at core;exact λQ E q=>red (core Q E q)
  |exc cD =>
   exfalso;induction h1:uX G c.Φ vs y [] σ with
   |bad=>rw[h1]at hr;exact B8 hr
   |exc oY=>exact hyp vs σ oY h1
   |ok k oY =>
    rw[h1]at hr;change j5 _ _ _ _ _ _ _=_ at hr;rcases HD (Φ:=c.Φ) (vs:=vs) (e:=e) (ifs:=ifs) (f2:=λys σ=>(gQ m ys σ).bind λx σ=>.ok (Fl.nx,vs.set i (aa x)) σ) (k:=k) (σ:=oY)with q|⟨ys,q⟩
    .exact B8 (q.symm.trans hr)
    .have hr:=q.symm.trans hr;induction h2:gQ m ys oY with
     |bad=>rw[h2]at hr;exact B8 hr
     |ok v σ3=>rw[h2]at hr;exact Ra hr
     |exc σ3=>exact uB h2
 .have hsz:=g1.grow.size;have fresh:∀ {b o},s.heap.get? b=aa o->b≠C:=λ{b o} e q=>absurd (bx e) (bO.mpr (q▸aQ hsz hCs));have nL:c.env.locals≠C:=by(refine dC t.fr.ns λU z1 U=>?_;obtain⟨o,_,_,e,_⟩:=z1);exact fresh e
  have nc:∀y a,c.env.cells.lookup y=aa a->a≠C:=λy a e=>by obtain⟨_,_,w,o,ho,_⟩:=t.fr.cells y a e;exact fresh ho
  have nf:∀e∈c.l,∀L,e.frame=aa L->L≠C:=λe he L hL=>by obtain⟨_,L',o,_,_,Bn,_,ho,_⟩:=t.oq e he;rw[hL]at Bn;obtain rfl:=fc (aj Bn);exact fresh ho
  have hn:Da∉c.X:=λq=>absurd (t.rel.vJ _ q) (bO.mpr (aQ hsz ZU));induction e':gQ m lv bj with
  |bad=>trivial
  |exc cD=>exact(uB e').elim
  |ok v cD =>
   have p':s'.heap.PlainList Da ys.toList.toArray:=by simpa using p
   have Kd:∀b∈C::c.X,b∈X':=λb hb=>by
    rcases aN.mp hb with rfl|hb
    .exact hC
    .exact hX b (aU _ hb)
   (refine o13 (wO (c:=(c.wx (C::c.X))) R Kd hD (by simp[oO,hn]) p' r e') λbJ z1 R2 rv U=>?_;obtain⟨δ,rfl,GL⟩:=z1);have g3:Go own aH ay (aH++δ) s':=Go.more g2 GL ZU;have g4:Go [] ρ s (aH++δ) s':=Go.qB (F:=[]) (own:=own) (by rw[aP];exact g1.any.trans g3) ho;have t2:St ((c.wx (C::c.X)).wv vs) (aH++δ) cD s'.heap:=St.goX (c:=c.wv vs) t g4 R2 (λb q=>.tail _ q) λb q=>by
    rcases aN.mp q with rfl|q
    .exact .inr (aQ hsz hCs)
    .exact .inl q
   have N2:bW (c.wx (C::c.X)):=⟨N.nodup,N.ct,N.cs,N.frame,N.top,N.cells⟩;refine λQ E q=>nh (kC N2 t2 hi (.inl hk) rv λh' tk g5 t3 U=>?_);have aci:Off (aH++δ) C:=R2.off (.head _);have nO:C∉iH (c.wx (C::c.X)):=λz=>by
    rcases aN.mp z with e|z
    .exact nL e.symm
    .refine dC (bX.mp z) λpp hp e=>?_;exact nc pp.1 pp.2 (hc pp hp) e
   refine⟨m',Ns.grow hm g5.grow aci nO,λh3 sb=>?_⟩;have hF:∀b∈[C],b∈C::c.X:=λb hb=>by rw[au.mp hb];exact .head _
   have t4:St ((c.wx (C::c.X)).wv (vs.set i (aa v))) (aH++δ) cD h3:=St.sd (c:=(c.wx (C::c.X)).wv (vs.set i (aa v))) t3 (jd sb (.head _)) (t3.rel.but sb (.head _)) hF (λz=>nL (au.mp z)) (λy a e z=>nc y a e (au.mp z)) (λe he L hL z=>nf e he L hL (au.mp z));have f5:pK c.Z (aH++δ) c.X h3 c.env c.vt (vs.set i (aa v)) c.ct c.cs:=pK.less t4.fr (λb hb=>.tail _ hb) t.fr.own λy a e=>(t.fr.cells y a e).1;have fm5:da c.X h3 c.l:=da.back t.oq t4.oq;refine q .next (aH++δ) {s' with heap:=h3,toks:=tk} ?_ (t4.rel.less λb hb=>.tail _ hb) ⟨f5,fm5,trivial⟩;have g6:Go (iH c) (aH++δ) s' (aH++δ) {s' with heap:=h',toks:=tk}:=g5;have g7:Go [C] (aH++δ) {s' with heap:=h',toks:=tk} (aH++δ) {s' with heap:=h3,toks:=tk}:=⟨jd sb (.head _),h3,tk,rfl⟩;exact((g3.mono λb hb=>.tail _ (.tail _ (bS _ hb))).trans (g6.mono λb hb=>.tail _ (.tail _ (aU _ hb)))).trans (g7.mono λb hb=>by rw[au.mp hb];exact .tail _ (.head _))
end
structure ym (h₀:bV)(X:List aK)(h h':bV):Prop where
 size:h.objs.size<=h'.objs.size
 ev:∀b o,h.get? b=aa o->(b<h₀.objs.size\/∀vs,o.data≠.fields vs)->∃sl,h'.get? b=aa {o with slots:=sl}/\((∀es n,o.data≠.dict es n)\/b∉X->sl=o.slots)
theorem ym.refl {X:List aK}:ym h₀ X h h:=⟨aO _,λU o e U=>⟨o.slots,e,λU=>rfl⟩⟩
theorem ym.trans {fk:bV}{X:List aK}(x:ym h₀ X h h₁)(y:ym h₀ X h₁ fk):ym h₀ X h fk:=⟨aQ x.size y.size,λb o e k=>by refine dC (x.ev b o e k) λs1 e1 k1=>?_;refine dC (y.ev b _ e1 k) λs2 e2 k2=>?_;exact⟨s2,e2,λnd=>(k2 nd).trans (k1 nd)⟩⟩
theorem ym.g0 {X:List aK}(x:ym h₀ X h h'):mQ [] ρ h ρ h':=⟨⟨[],by simp,λU q=>nomatch q⟩,x.size,λb o e U U nf=>by refine dC (x.ev b o e (.inr nf)) λsl e' k=>?_;exact⟨sl,e',λnd=>k (.inl nd)⟩⟩
theorem Rel.chg  {X:List aK}(R:Rel Z ρ X σ h)(hb:Z.base.objs.size<=h₀.objs.size)(x:ym h₀ X h h'):Rel Z ρ X σ h':=by
 have keep:∀b o,b∉X->h.get? b=aa o->(b<h₀.objs.size\/∀vs,o.data≠.fields vs)->h'.get? b=aa o:=λb o n e k=>by refine dC (x.ev b o e k) λsl e' q=>?_;rw[e',q (.inr n)]
 refine R.Ld (F:=[]) x.g0 (λU q=>nomatch q) (λU q=>.inl q) (λp hp y hy=>?_) (λb o e=>keep b o (λq=>absurd (bx e) (bO.mpr (R.D6 b q))) (R.keep b o e) (.inl (bK (bx e) hb))) (λp hp y hy=>(R.ge p hp y hy).2) λb q=>bK (R.vJ b q) x.size;have nX:=(R.ge p hp y hy).2;obtain⟨i,hi,rfl⟩:=kh.mp hp;have e:ρ[i]?=aa ρ[i]:=bA hi;have hi':i<σ.length:=R.len▸hi;have ob:=R.obj i _ _ e (bA hi');have fin:∀ {o:Obj},h.get? y=aa o->(∀vs,o.data≠.fields vs)->h'.get? y=h.get? y:=λ{o} ey nf=>by rw[ey];exact keep y o nX ey (.inr nf)
 induction ho:σ[i]with
 |list l =>rw[ho]at ob;obtain⟨d,vs,⟨n,a⟩,_⟩:=ob;simp only[Pl.lW,d,eF,au]at hy;subst hy;exact fin a (λU q=>by exact bk q)
 |cJ l =>rw[ho]at ob;obtain⟨d,vs,⟨o,_,_,a,_,hd,_⟩,_⟩:=ob;simp only[Pl.lW,d,eF,au]at hy;subst hy;exact fin a (λU q=>by rw[hd]at q;exact bk q)
 |dN l =>rw[ho]at ob;obtain⟨d,vs,⟨o,_,_,a,_,hd,_⟩,_⟩:=ob;simp only[Pl.lW,d,eF,au]at hy;subst hy;exact fin a (λU q=>by rw[hd]at q;exact bk q)
 |inst l =>
  rw[ho]at ob;(refine MH ob λdx es n d a b U=>?_;try clear ob);simp only[Pl.lW,d,D0,aN,au]at hy;rcases hy with rfl|rfl|q
  .exact fin a (λU q=>by exact bk q)
  .exact fin b (λU q=>by exact bk q)
  .cases q
theorem da.chg {X:List aK}(t:da X h l)(x:ym h₀ X h h'):da X h' l:=λe he=>by obtain⟨a,L,o,es,k,b,c,d,f⟩:=t e he;refine dC (x.ev L o d (.inr λvs q=>by rw[f]at q;exact bk q)) λsl e' U=>?_;exact⟨a,L,_,es,k,b,c,e',f⟩
theorem Go.chg {F X:List aK}{s:av}(g:Go F ρ s aH ay)(x:ym s.heap X ay.heap h'):Go F ρ s aH {ay with heap:=h'}:=by
 refine⟨⟨g.grow.pre,aQ g.grow.size x.size,λb o e k n=>?_⟩,?_⟩
 .refine dC (g.grow.ev b o e k n) λs1 e1 k1=>?_;refine dC (x.ev b _ e1 (.inl (bx e))) λs2 e2 k2=>?_;exact⟨s2,e2,λnd=>(k2 (.inl nd)).trans (k1 nd)⟩
 .refine H0 g.same λh t e=>?_;exact⟨h',t,by rw[e]⟩
def Flew (Z:ng)(h₀:bV)(e:aK)(h:bV):Prop :=
 h₀.objs.size<=e/\∃oe vs,h.get? e=aa oe/\oe.cls=.ref Z.CB/\oe.data=.fields vs/\∃T oT ts f,vs[1]?=aa (.ref T)/\h₀.objs.size<=T/\T≠e/\h.get? T=aa oT/\oT.data=.fields ts/\ts[3]?=aa f
theorem Flew.fly  {e:aK}(x:Flew Z h₀ e h):Aw Z h₀ e h:=by obtain⟨a,oe,vs,b,c,d,T,oT,ts,f,k⟩:=x;exact⟨a,oe,vs,b,c,d,.inr ⟨T,oT,ts,f,k⟩⟩
section
variable {E:ax->av->Prop}{s:av}{X:List aK}
theorem pG {b:aK}{o:Obj}{vs:Array ax}(e:h.get? b=aa o)(d:o.data=.fields vs)(hb:h₀.objs.size<=b)(k:Nat)(x:ax):ym h₀ X h (h.update b (kf (·.setIfInBounds k x))):=by
 refine⟨by simp,λa oa ea ka=>?_⟩;have ne:b≠a:=λq=>by
  subst q;rw[e]at ea;obtain rfl:=aj ea;rcases ka with lt|nf
  .exact absurd lt (bO.mpr hb)
  .exact nf vs d
 exact⟨oa.slots,(el _ _ ne).trans ea,λU=>rfl⟩
theorem DR  (x:Heap.SlotsOnly (l.filterMap (·.frame)) h h')(t:da X h l):ym h₀ X h h':=by
 refine⟨fS x.1.symm,λb o e U=>?_⟩;by_cases m:b∈l.filterMap (·.frame)
 .obtain⟨sl,e'⟩:=x.2.2 b o e;refine⟨sl,e',λq=>?_⟩;refine dC (List.mem_filterMap.mp m) λenv he hf=>?_;obtain⟨_,L,o',es,n,hL,hX,ho,hd⟩:=t env he;rw[hf]at hL;obtain rfl:=aj hL;rw[e]at ho;obtain rfl:=aj ho;rcases q with nd|nX
  .exact absurd hd (nd es n)
  .exact absurd hX nX
 .exact⟨o.slots,(x.2.1 b m).trans e,λU=>rfl⟩
theorem HE (o:Obj):ym h₀ X h (h.push o):=⟨by simp,λb ob e U=>⟨ob.slots,br o e,λU=>rfl⟩⟩
theorem om {outer:List Env}{L e:aK}{base:bV}{Q:Unit->av->Prop}(uT:A.frames=aa (env::outer))(hf:env.frame=aa L)(t:da X s.heap (env::outer))(hl:s.heap.FunFrames base (env::outer))(y:Aw Z h₀ e s.heap)
  (q:∀h',ym h₀ X s.heap h'->Flew Z h₀ e h'->Q () {s with heap:=h'}):aE M A (noteFrame (.ref e) env) Q E s:=by
 obtain⟨Ao,oe,vs,he,hc,hd,hk⟩:=y;have ent:∀(ay:av) (head:ax) (CF:Bool) (oe:Obj) (vs:Array ax),ay.heap.FunFrames base (env::outer)->da X ay.heap (env::outer)->ay.heap.get? e=aa oe->oe.cls=.ref Z.CB->oe.data=.fields vs->1<vs.size->h₀.objs.size<=ay.heap.objs.size ->
   (∀h',ym h₀ X ay.heap h'->Flew Z h₀ e h'->Q () {ay with heap:=h'}) ->
   aE M A (do let a<-frameOf env;let pl<-entryPlaceOf L CF;let b<-yz head a .none (oj L) .none pl;setField (.ref e) 1 b) Q E ay:=by
  intro ay head CF oe vs hl t he hc hd hsz hle q;refine aq (wpAny_frameOf_fun uT hl hf λh₁ GN=>?_);refine aq (wpAny_entryPlaceOf λpl Cz=>?_);delta yz newFields;refine aq (jW ?_ (Cz.sizeOk5 _ _ _ _ _));have ne:e∉(env::outer).filterMap (·.frame):=λm=>by refine dC (List.mem_filterMap.mp m) λen OU hfe=>?_;obtain⟨_,L',o',es,n,hL,_,ho,Ap⟩:=t en OU;rw[hfe]at hL;obtain rfl:=aj hL;rw[he]at ho;obtain rfl:=aj ho;rw[hd]at Ap;exact bk Ap
  have MZ:h₁.get? e=aa oe:=(GN.2.1 e ne).trans he;have zS:=br (h:=h₁) {cls:=.type "traceback",dict:=ae,data:=.fields ([head,.ref L,.none,oj L,.none]++(if pl.isEmpty then bF 6 ie else pl)).toArray} MZ;refine BM zS hd hsz ?_;have H9:h₁.objs.size≠e:=CQ (bx MZ);have M1:=Obj.data_mapFields hd (·.setIfInBounds 1 (dP h₁.objs.size));have ZJ:=dQ (kf (·.setIfInBounds 1 (dP h₁.objs.size))) zS (D2 M1);have ZR:=(el (h₁.push {cls:=.type "traceback",dict:=ae,data:=.fields ([head,.ref L,.none,oj L,.none]++(if pl.isEmpty then bF 6 ie else pl)).toArray})
   (kf (·.setIfInBounds 1 (dP h₁.objs.size))) (lF H9)).trans (cE h₁ rfl)
  refine q _ ((DR GN t).trans ((HE _).trans (pG zS hd Ao _ _))) ⟨Ao,_,_,ZJ,(Obj.cls_mapFields _ _).trans hc,M1,h₁.objs.size,_,_,oj L,by simp[hsz],by have:=GN.1;exact ab4 hle this,H9,ZR,rfl,by simp⟩
 delta noteFrame;simp only[hf];rcases hk with h1|⟨T,oT,ts,f,h1,OX,H9,hT,GZ,h3⟩
 .refine aq (iU he hd h1 ?_);rw[if_neg (by decide)];exact ent s .none ag oe vs hl t he hc hd (fE.mp h1).1 (aQ Ao (dj (bx he))) q
 .refine aq (iU he hd h1 ?_);rw[if_pos (by simp:(dP T != ie)=af)];refine aq (iU hT GZ h3 ?_);by_cases hq:(f==oj L)=af
  .rw[if_pos hq];exact aW (q s.heap .refl ⟨Ao,oe,vs,he,hc,hd,T,oT,ts,f,h1,OX,H9,hT,GZ,h3⟩)
  .rw[if_neg hq];refine aq (BM hT GZ (fE.mp h3).1 ?_);have c1:ym h₀ X s.heap (s.heap.update T (kf (·.setIfInBounds 3 ie))):=pG hT GZ OX 3 .none;have Qv:=(el s.heap (kf (·.setIfInBounds 3 ie)) H9).trans he;refine ent {s with heap:=s.heap.update T (kf (·.setIfInBounds 3 ie))} (.ref T) af oe vs (hl.of_keeps λb o hb hnf=>⟨o,(el _ _ λq=>?_).trans hb,rfl⟩) (t.chg c1) Qv hc hd (fE.mp h1).1 (aQ Ao (dj (bx Qv))) λh' c2 y=>q h' (c1.trans c2) y;subst q;rw[hT]at hb;obtain rfl:=aj hb;exact hnf ts GZ
theorem jL {e:aK}{fr:Option aK}{Q:Unit->av->Prop}(y:Flew Z h₀ e s.heap)(q:∀h',ym h₀ X s.heap h'->Flew Z h₀ e h'->Q () {s with heap:=h'}):aE M A (setFlight (.ref e) fr) Q E s:=by obtain⟨Ao,oe,vs,he,hc,hd,T,oT,ts,f,h1,OX,H9,hT,GZ,h3⟩:=y;delta setFlight;refine aq (iU he hd h1 ?_);rw[if_pos (by simp:(dP T != ie)=af)];refine BM hT GZ (fE.mp h3).1 (q _ (pG hT GZ OX _ _) ?_);have Ap:=Obj.data_mapFields GZ (·.setIfInBounds 3 (fr.elim ie λf=>oj f));exact⟨Ao,oe,vs,(el _ _ H9).trans he,hc,hd,T,_,_,_,h1,OX,H9,dQ _ hT (D2 Ap),Ap,by simp[(fE.mp h3).1];rfl⟩
end
section
variable {c:Cx}{W:Nat}
theorem Gl (N:bW c)(uT:c.A.frames=aa c.l){s:av}{e:aK}{E:ax->av->Prop}(hb:c.Z.base.objs.size<=s.heap.objs.size)(g:Go (iH c) ρ s aH ay)(R:Rel c.Z aH c.X σ ay.heap)(y:Aw c.Z s.heap e ay.heap)(t:da c.X ay.heap c.l)
  (q:∀s',Go (iH c) ρ s aH s'->Rel c.Z aH c.X σ s'.heap->Aw c.Z s.heap e s'.heap->da c.X s'.heap c.l->E (.ref e) s') :
  A0 (aA c.Z.prog c.Z.w) c.A c.env (mK (aA c.Z.prog c.Z.w) c.A c.env E) (.ref e) ay:=by
 obtain⟨outer,ho⟩:=N.top;rw[ho]at uT;rw[ho]at t;refine om uT N.frame t (da.fun R t) y λh' c1 y1=>?_;unfold mK;have y2:=y1;obtain⟨Ao,oe,vs,he,hc,hd,T,oT,ts,f,h1,OX,H9,hT,GZ,h3⟩:=y1;refine aq (iU (s:={ay with heap:=h'}) he hd h1 ?_);rw[if_neg (show¬((dP T==ie)=af)from bq)];refine jL (Z:=c.Z) (X:=c.X) (h₀:=s.heap) (s:={ay with heap:=h'}) y2 λIb c2 y3=>?_;have cc:=c1.trans c2;refine q _ (g.chg cc) (R.chg hb cc) y3.fly ?_;rw[ho];exact t.chg cc
theorem A6 {cd:Vs->bo->R V}{b:Vs->bo->RS}{n:Nat}{vs:Vs}{σ:bo}:oN cd b (n+1) vs σ=((cd vs σ).bind fW).bind λx σ=>if x then(b vs σ).bind λr σ=>match r with
   |(.nx,vs)=>oN cd b n vs σ
   |(.rt v,vs)=>.ok (.rt v,vs) σ
  else .ok (.nx,vs) σ:=by
 refine(?_:(cd vs σ).bind _=_);rw[R.bind_assoc];congr 1;funext v cD;induction v using V.casesOn with
 |bool b=>induction b<;>rfl
 |_=>rfl
theorem E3 (D:Ok c mg mb)(N:bW c){t:X}{b:List S}(ht:QD c t et)(hb:DY c W b eb):SS c W (.vK t b) (.While et eb [] pos):=λvs ρ σ s t₀=>by
 have e0:ex G c.Φ W (.vK t b) vs σ=oN (λvs σ=>ev G c.Φ vs t [] σ) (λvs σ=>l5 G c.Φ W b vs σ) W vs σ:=rfl;rw[e0];have hbs:=t₀.rel.bsize;generalize hr:oN (λvs σ=>ev G c.Φ vs t [] σ) (λvs σ=>l5 G c.Φ W b vs σ) W vs σ=r;have core:∀ {Rr:sH->av->Prop} {E:ax->av->Prop},(r≠.bad) ->
   (∀a cD,r=.ok a cD->∀f bJ s',Go (iH c) ρ s bJ s'->Rel c.Z bJ c.X cD s'.heap->TS c bJ s'.heap a f->Rr (.ok f) s') ->
   (∀cD,r=.exc cD->∀e bJ s',Go (iH c) ρ s bJ s'->Rel c.Z bJ c.X cD s'.heap->Aw c.Z s.heap e s'.heap->da c.X s'.heap c.l->A0 (aA c.Z.prog c.Z.w) c.A c.env (λe s'=>Rr (.error e) s') (.ref e) s') ->
   gZ (aA c.Z.prog c.Z.w) c.A (.whileLoop et eb [] c.env) Rr s:=by
  intro Rr E nb qo qe;refine codeAny_whileLoop (λn ay=>∃ky aH bj,Go (iH c) ρ s aH ay/\St (c.wv ky) aH bj ay.heap/\oN (λvs σ=>ev G c.Φ vs t [] σ) (λvs σ=>l5 G c.Φ W b vs σ) n ky bj=r) ?_ W ⟨vs,ρ,σ,.refl,t₀,hr⟩;rintro n ay ⟨ky,aH,bj,bZ,eV,h₁⟩;induction n using Nat.casesOn with
  |zero=>exact absurd h₁.symm nb
  |succ n =>
   rw[A6]at h₁;have tst:=ht ky aH ay bj eV;induction hx:(ev G c.Φ ky t [] bj).bind fW with
   |bad=>rw[hx]at h₁;exact absurd h₁.symm nb
   |exc gF =>rw[hx]at h₁ tst;refine tst _ _ λe bJ s' g R y=>qe gF h₁.symm e bJ s' (bZ.trans g.any) R (y.mH bZ.grow.size) (eV.oq.grow eV.rel g.grow λU U U U q=>nomatch q)
   |ok x gF =>
    rw[hx]at h₁ tst;refine tst _ _ λx' fU bH fN fO e=>?_;subst e;have q9:St (c.wv ky) fU gF bH.heap:=St.go (c:=c.wv ky) eV fN fO;have CG:=bZ.trans (fN.any (F:=iH c));induction x with
    |false =>simp only[cN,if_false];exact jr (qo _ _ h₁.symm .next fU bH CG fO (TS.nx q9))
    |true =>
     simp only[if_true];change (l5 G c.Φ W b ky gF).bind _=r at h₁;have body:=hb ky fU gF bH q9;induction hy:l5 G c.Φ W b ky gF with
     |bad=>rw[hy]at h₁;exact absurd h₁.symm nb
     |exc tP =>rw[hy]at h₁ body;exact body _ _ λe bJ s' g R y fo=>qe tP h₁.symm e bJ s' (CG.trans g) R (y.mH CG.grow.size) fo
     |ok a tP =>
      rw[hy]at h₁ body;obtain⟨fl,EG⟩:=a;refine body _ _ λf yD fV x9 qQ zi=>?_;have w4:=CG.trans x9;induction fl with
      |nx =>
       induction f with
       |next=>exact⟨n,iP n,EG,yD,tP,w4,zi.st qQ,h₁⟩
       |_=>exact zi.2.2.elim
      |rt v =>
       induction f with
       |ret w=>exact qo _ _ h₁.symm (.ret w) yD fV w4 qQ zi
       |_=>exact zi.2.2.elim
 induction r with
 |bad=>trivial
 |ok a cD =>refine λQ E q=>wpAny_While (core (E:=E) (λz=>nomatch z) (λa' oY e f bJ s' g R t=>?_) λoY e=>nomatch e);(obtain⟨rfl,rfl⟩:=rI e);exact q f bJ s' g R t
 |exc cD =>refine λQ E q=>wpAny_While (core (E:=E) (λz=>nomatch z) (λa' oY e=>nomatch e) λoY e' e bJ s' g R y fo=>?_);obtain rfl:=Internal.R.exc.inj e';exact Gl N D.fr hbs g R y fo λlL g' R' y' Qx=>q e bJ lL g' R' y' Qx
end
def Aa (F:List aK)(c:Cx){α β:Type}(ρ:List Pl)(s:av)(T:List Pl->bV->α->β->Prop)(r:R α)(W:(β->av->Prop)->(ax->av->Prop)->Prop):Prop :=
 match r with
 |.ok a cD=>∀Q E,(∀b bJ s',Go F ρ s bJ s'->Rel c.Z bJ c.X cD s'.heap->T bJ s'.heap a b->Q b s')->W Q E
 |.exc cD=>∀Q E,(∀e bJ s',Go F ρ s bJ s'->Rel c.Z bJ c.X cD s'.heap->Aw c.Z s.heap e s'.heap->da c.X s'.heap c.l->E (.ref e) s')->W Q E
 |.bad=>True
section
variable {c:Cx}{W:Nat}
theorem s6.s (N:bW c){y:X}(h:s6 (c.wv vs) y e){s:av}(t:St (c.wv vs) ρ σ s.heap){α β:Type}{T:List Pl->bV->α->β->Prop}{f:IK->bo->R α}{W2:ax->av->(β->av->Prop)->(ax->av->Prop)->Prop}
  (K:∀k bj aH ay it own,Go [] ρ s aH ay->Rel c.Z aH (own++c.X) bj ay.heap->dE aH (own++c.X) ay.heap own it k 0->(∀b∈own,s.heap.objs.size<=b)->(∀n en,k=.live n en->en=af->∃a,y=.pC a)->Aa (own++iH c) c aH ay T (f k bj) (W2 (.ref it) ay)) :
  cH c ρ s T ((uX G c.Φ vs y [] σ).bind f) (λQ E=>aE (aA c.Z.prog c.Z.w) c.A (eval e c.env) (λx ay=>aE (aA c.Z.prog c.Z.w) c.A (pR x) (λit bH=>W2 it bH Q E) E ay) E s):=by
 have OW:(c.wv vs).cs=[]:=N.cs;induction hr:uX G c.Φ vs y [] σ with
 |bad=>trivial
 |exc cD =>have:=h ρ s σ t (F:=[]) (T:=T) (f:=λU U=>.bad) (W2:=W2) λU U U U U U U U U U U=>trivial;rw[OW]at this;rw[show uX G (c.wv vs).Φ (c.wv vs).vs y [] σ=.exc cD from hr]at this;exact λQ E q=>this Q E λe bJ s' g R y=>q e bJ s' g.any R y (t.oq.grow t.rel g.grow λU U U U q=>nomatch q)
 |ok k₀ BJ =>
  have:=h ρ s σ t (F:=iH c) (α:=Option α) (β:=Sum β aK) (T:=λρ h a b=>match a,b with
    |some a,.inl b=>T ρ h a b
    |none,.inr e=>Aw c.Z s.heap e h/\da c.X h c.l
    |_,_=>False) (f:=λk σ=>match f k σ with
    |.ok a σ=>.ok (aa a) σ
    |.exc σ=>.ok ae σ
    |.bad=>.bad) (W2:=λit ay Q U=>∀Q' E',(∀b s',Q (.inl b) s'->Q' b s')->(∀a s',Q (.inr a) s'->E' (.ref a) s')->W2 it ay Q' E') λk bj aH ay it own g R I fr nl=>?_
  .rw[OW]at this;rw[show uX G (c.wv vs).Φ (c.wv vs).vs y [] σ=.ok k₀ BJ from hr]at this;dsimp only[R.bind]at this ⊢;induction hf:f k₀ BJ with
   |bad=>trivial
   |ok a cD =>
    rw[hf]at this;refine λQ E q=>?_;have:=this (λb s'=>match b with|.inl b=>Q b s'|.inr a=>E (.ref a) s') E λb bJ s' g R t=>?_
    .exact bp this (λx ay h₁=>bp h₁ (λit bH fk=>fk Q E (λU U h=>h) λU U h=>h) λU U x=>x) λU U x=>x
    .induction b with
     |inl b=>exact q b bJ s' g R t
     |inr e=>exact t.elim
   |exc cD =>
    rw[hf]at this;refine λQ E q=>?_;have:=this (λb s'=>match b with|.inl b=>Q b s'|.inr a=>E (.ref a) s') E λb bJ s' g R t=>?_
    .exact bp this (λx ay h₁=>bp h₁ (λit bH fk=>fk Q E (λU U h=>h) λU U h=>h) λU U x=>x) λU U x=>x
    .induction b with
     |inl b=>exact t.elim
     |inr e=>exact q e bJ s' g R t.1 t.2
  .have:=K k bj aH ay it own g R I fr nl;induction hf:f k bj with
   |bad=>trivial
   |ok a cD =>rw[hf]at this;exact λQ E q Q' E' h1 h2=>this Q' E' λb bJ s' g R t=>h1 _ _ (q (.inl b) bJ s' g R t)
   |exc cD =>rw[hf]at this;exact λQ E q Q' E' h1 h2=>this Q' E' λe bJ s' g' R y fo=>h2 _ _ (q (.inr e) bJ s' g' R ⟨y.mH g.grow.size,fo⟩)
theorem Aa.less {F own:List aK}{X:List aK}{α β:Type}{s:av}{T T':List Pl->bV->α->β->Prop}{r:R α}{W:(β->av->Prop)->(ax->av->Prop)->Prop}(h:Aa F (c.wx (own++X)) ρ s T' r W)(f:da X h₀ c.l)(hT:∀ρ h a b,T' ρ h a b->T ρ h a b):Aa F (c.wx X) ρ s T r W:=by
 induction r with
 |bad=>trivial
 |ok a cD=>exact λQ E q=>h Q E λb bJ s' g R t=>q b bJ s' g (R.less λb hb=>aU _ hb) (hT _ _ _ _ t)
 |exc cD=>exact λQ E q=>h Q E λe bJ s' g R y fo=>q e bJ s' g (R.less λb hb=>aU _ hb) y (f.back fo)
def BA (c:Cx)(t:Tg)(et:bY):Prop:=∀vs ρ σ s x w,St (c.wv vs) ρ σ s.heap->bu ρ c.X s.heap x w->∀k6,lh t x vs=aa k6->∀{Q:Unit->av->Prop} {E:ax->av->Prop},
 (∀bJ s',Go (iH c) ρ s bJ s'->St (c.wv k6) bJ σ s'.heap->Q () s')->aE (aA c.Z.prog c.Z.w) c.A (ji et c.env w) Q E s
theorem BU (N:bW c){i:Nat}{n:Str}(hi:c.vt[i]?=aa n)(hk:c.env.kindOf n=aa .local\/c.env.kindOf n=aa .cell):BA c (.n i) (.Name n p):=λvs ρ σ s x w t r k6 e Q E q=>by obtain rfl:=aj e;exact nh (kC N t hi hk r λh' tk g t' U=>q ρ _ g t')
theorem tQ:∀(is:List Nat) (l:List V) (vs:Vs),(is.zip l).foldl (λvs p=>vs.set p.1 (aa p.2)) vs=jR is l vs
 |[],_=>λU=>rfl
 |_::_,[]=>λU=>rfl
 |i::is,x::l=>λvs=>tQ is l (vs.set i (aa x))
theorem Nz (N:bW c)(hh:c.A.handled=ae){k:Nat}(h:vy (SA c) (is.map .n) es):BA c (.t is) (.Tuple es k p):=λvs ρ σ s x w t r k6 e Q E q=>by
 induction x using V.casesOn with
 |tup l =>
  dsimp only[lh]at e
  split at e
  .rename_i hl
   obtain rfl:=aj e;have:=uh (p:=p) (k:=k) N N.cells hh h t r (by simpa using hl);rw[me is l vs σ (by simpa using hl.symm)]at this;exact this Q E λb bJ s' g R t'=>q bJ s' g (by rw[tQ];exact⟨R,t'.1,t'.2⟩)
  .exact fw e
 |_=>exact fw e
theorem DA (N:bW c)(uT:c.A.frames=aa c.l){F:List aK}{s:av}{e:aK}{E:ax->av->Prop}(hb:c.Z.base.objs.size<=s.heap.objs.size)(g:Go F ρ s aH ay)(R:Rel c.Z aH c.X σ ay.heap)(y:Aw c.Z s.heap e ay.heap)(t:da c.X ay.heap c.l)
  (q:∀s',Go F ρ s aH s'->Rel c.Z aH c.X σ s'.heap->Aw c.Z s.heap e s'.heap->da c.X s'.heap c.l->E (.ref e) s') :
  A0 (aA c.Z.prog c.Z.w) c.A c.env (mK (aA c.Z.prog c.Z.w) c.A c.env E) (.ref e) ay:=by
 obtain⟨outer,ho⟩:=N.top;rw[ho]at uT;rw[ho]at t;refine om uT N.frame t (da.fun R t) y λh' c1 y1=>?_;unfold mK;have y2:=y1;obtain⟨Ao,oe,vs,he,hc,hd,T,oT,ts,f,h1,OX,H9,hT,GZ,h3⟩:=y1;refine aq (iU (s:={ay with heap:=h'}) he hd h1 ?_);rw[if_neg (show¬((dP T==ie)=af)from bq)];refine jL (Z:=c.Z) (X:=c.X) (h₀:=s.heap) (s:={ay with heap:=h'}) y2 λIb c2 y3=>?_;have cc:=c1.trans c2;refine q _ (g.chg cc) (R.chg hb cc) y3.fly ?_;rw[ho];exact t.chg cc
structure HW (c:Cx)(W:Nat)(t:Tg)(b:List S)(k:IK)(L:Nat->Nat->Vs->bo->RS):Prop where
 go:∀n i vs σ,L n i vs σ≠.bad->∃ov,itemAt k σ i=aa ov/\(ov=ae->L n i vs σ=.ok (.nx,vs) σ)/\(∀x,ov=aa x->∃m k6,m<n/\lh t x vs=aa k6 /\
  L n i vs σ=(l5 G c.Φ W b k6 σ).bind λr σ=>match r with
   |(.nx,vs)=>L m (i+1) vs σ
   |(.rt v,vs)=>.ok (.rt v,vs) σ)
def PY (c:Cx)(own:List aK)(ρ:List Pl)(s:av)(it:aK)(k:IK)(L:Nat->Nat->Vs->bo->RS)(r:RS)(n:Nat)(s':av):Prop :=
 ∃vs aH σ i,Go (own++iH c) ρ s aH s'/\St (c.wv vs) aH σ s'.heap/\dE aH c.X s'.heap own it k i/\L n i vs σ=r
def Nf (c:Cx)(et:bY)(eb:List iO)(I:Nat->av->Prop)(Rr:sH->av->Prop)(n:Nat)(w:ax)(s:av):Prop :=
 aE (aA c.Z.prog c.Z.w) c.A (ji et c.env w) (λU s=>aE (aA c.Z.prog c.Z.w) c.A (execs eb c.env) (λf s=>match f with
  |.next|.cont=>∃m,m<n/\I m s
  |.brk=>Rr (.ok .next) s
  |.ret v=>Rr (.ok (.ret v)) s) (A0 (aA c.Z.prog c.Z.w) c.A c.env λe s'=>Rr (.error e) s') s) (A0 (aA c.Z.prog c.Z.w) c.A c.env λe s'=>Rr (.error e) s') s
theorem ru (hh:c.A.handled=ae)(uT:c.A.frames=aa c.l)(N:bW c){t:Tg}{b:List S}(hL:HW c W t b k L)(hb:DY c W b eb)(ht:BA c t et)(het:(isTup et||isName et)=af)(OU:(∃n,k=.live n af)->isTup et=af)
  {own:List aK}(ho:∀x∈own,x∈c.X)(J1:∀x∈own,x∉iH c){s:av}{n:Nat}(t₀:St (c.wv vs) ρ σ s.heap)(I:dE ρ c.X s.heap own it k 0) :
  Aa (own++iH c) c ρ s (TS c) (L n 0 vs σ) (λQ E=>gZ (aA c.Z.prog c.Z.w) c.A (.forLoop et (.ref it) eb [] c.env) (λr s'=>match r with|.ok f=>Q f s'|.error e=>mK (aA c.Z.prog c.Z.w) c.A c.env E e s') s):=by
 have hbs:=t₀.rel.bsize;generalize hr:L n 0 vs σ=r;have core:∀ {Rr:sH->av->Prop},(r≠.bad) ->
   (∀a cD,r=.ok a cD->∀f bJ s',Go (own++iH c) ρ s bJ s'->Rel c.Z bJ c.X cD s'.heap->TS c bJ s'.heap a f->Rr (.ok f) s') ->
   (∀cD,r=.exc cD->∀e bJ s',Go (own++iH c) ρ s bJ s'->Rel c.Z bJ c.X cD s'.heap->Aw c.Z s.heap e s'.heap->da c.X s'.heap c.l->A0 (aA c.Z.prog c.Z.w) c.A c.env (λe s'=>Rr (.error e) s') (.ref e) s') ->
   gZ (aA c.Z.prog c.Z.w) c.A (.forLoop et (.ref it) eb [] c.env) Rr s:=by
  intro Rr nb qo qe;refine codeAny_forLoop_any (PY c own ρ s it k L r) ?_ n (bB vs ⟨ρ,σ,0,.refl,t₀,I,hr⟩);rintro n ay ⟨ky,aH,bj,i,bZ,eV,HX,h₁⟩;refine tv (hL.go n i ky bj (by rw[h₁];exact nb)) λov Qq hn hs=>?_;have upd:∀ {bH:av},Go own aH ay aH bH->Rel c.Z aH c.X bj bH.heap->St (c.wv ky) aH bj bH.heap:=λ{bH} fN fO=>by
   have nF1:c.env.locals∉own:=λq=>J1 _ q (.head _);have nF2:∀x a,c.env.cells.lookup x=aa a->a∉own:=λx a e q=>J1 _ q (.tail _ (lookup_mem e));have nF3:∀e∈c.l,∀L,e.frame=aa L->L∉own:=λe he L hL q=>by obtain⟨_,L',o,es,n,Bn,_,GS,hd⟩:=eV.oq e he;rw[hL]at Bn;obtain rfl:=aj Bn;exact HX.noDict q GS hd
   exact St.sd (c:=c.wv ky) eV fN.grow fO ho nF1 nF2 nF3
  have turn:∀v,ov=aa v->∀w bH,Go own aH ay aH bH->Rel c.Z aH c.X bj bH.heap->dE aH c.X bH.heap own it k (i+1)->bu aH c.X bH.heap v w ->
    Nf c et eb (PY c own ρ s it k L r) Rr n w bH:=by
   intro v hv w bH fN fO P0 rv;refine mI (hs v hv) λm k6 hm hp hLn=>?_;have q9:=upd fN fO;refine ht ky aH bj bH v w q9 rv k6 hp λyD fV x9 yZ=>?_;have body:=hb k6 yD bj fV yZ;have w4:Go (own++iH c) ρ s yD fV:=(bZ.trans (fN.mono λb hb=>bS _ hb)).trans (x9.mono λb hb=>aU _ hb);have fX:∀b∈iH c,b∈c.X:=ux N N.cells eV;have PZ:=P0.grow fO x9.grow fX λb hb=>⟨ho b hb,J1 b hb⟩;rw[hLn]at h₁;induction hy:l5 G c.Φ W b k6 bj with
   |bad=>rw[hy]at h₁;exact absurd h₁.symm nb
   |exc tP =>rw[hy]at h₁ body;exact body _ _ λe bJ s' g R y fo=>qe tP h₁.symm e bJ s' (w4.trans (g.mono λb hb=>aU _ hb)) R (y.mH w4.grow.size) fo
   |ok a tP =>
    rw[hy]at h₁ body;obtain⟨fl,EG⟩:=a;refine body _ _ λf BK rd x8 BB zh=>?_;have M4:Go (own++iH c) ρ s BK rd:=w4.trans (x8.mono λb hb=>aU _ hb);induction fl with
    |nx =>
     induction f with
     |next=>exact⟨m,hm,bB EG ⟨BK,tP,i+1,M4,zh.st BB,PZ.grow yZ.rel x8.grow fX (λb hb=>⟨ho b hb,J1 b hb⟩),h₁⟩⟩
     |_=>exact zh.2.2.elim
    |rt v =>
     induction f with
     |ret w=>exact qo _ _ h₁.symm (.ret w) BK rd M4 BB zh
     |_=>exact zh.2.2.elim
  refine wW (Qn:=_) (Qs:=Nf c et eb (PY c own ρ s it k L r) Rr n) eV.rel hh HX ho Qq ?_ ?_ ?_ ?_
  .exact λhk w fV o GS hc q=>zJ het GS hc q
  .rintro n rfl MR j item a fV he q;exact A9 (OU ⟨n,rfl⟩) he q
  .intro e s' g R;have t':=upd g R;exact jr (qo _ _ (h₁.symm.trans (hn e)) .next aH s' (bZ.trans (g.mono λb hb=>bS _ hb)) R (TS.nx t'))
  .exact λv hv w s' g R I' rv=>turn v hv w s' g R I' rv
 induction r with
 |bad=>trivial
 |ok a cD =>refine λQ E q=>core (λz=>nomatch z) (λa' oY e f bJ s' g R t=>?_) λoY e=>nomatch e;(obtain⟨rfl,rfl⟩:=rI e);exact q f bJ s' g R t
 |exc cD =>refine λQ E q=>core (λz=>nomatch z) (λa' oY e=>nomatch e) λoY e' e bJ s' g R y fo=>?_;obtain rfl:=Internal.R.exc.inj e';exact DA N uT hbs g R y fo λlL g' R' y' Qx=>q e bJ lL g' R' y' Qx
theorem rY {t:Tg}{b:List S}{l:List V}:HW c W t b (.items l) (λn i vs σ=>if n+i=l.length then jc t (λvs σ=>l5 G c.Φ W b vs σ) (l.drop i) vs σ else .bad) where
 go:=λn i vs σ nb=>by
  by_cases hn:n+i=l.length
  .rw[if_pos hn]at nb ⊢;refine⟨l[i]?,rfl,λe=>?_,λx e=>?_⟩
   .rw[List.drop_eq_nil_of_le (by simpa using e)];rfl
   .have mX:=(aC.mp e).1;have hd:l.drop i=x::l.drop (i+1):=by rw[l4 mX,(aC.mp e).2]
    rw[hd,A7]at nb ⊢;induction hp:lh t x vs with
    |none=>rw[hp]at nb;exact absurd rfl nb
    |some k6 =>
     refine⟨n-1,k6,by exact ab1 hn mX,rfl,?_⟩;dsimp only;congr 1;funext r cD;obtain⟨fl,vs2⟩:=r;induction fl with
     |nx=>exact(if_pos (ab0 hn mX)).symm
     |rt v=>rfl
  .rw[if_neg hn]at nb;exact absurd rfl nb
theorem A8 {t:Tg}{b:List S}{n₀:Nat}{en:Bool}:HW c W t b (.live n₀ en) (λn i vs σ=>qr t en (λvs σ=>l5 G c.Φ W b vs σ) n₀ n i vs σ) where
 go:=λn i vs σ nb=>by
  induction n using Nat.casesOn with
  |zero=>exact absurd rfl nb
  |succ n =>
   rw[uH]at nb ⊢;unfold itemAt;induction Cy:σ[n₀]? with
   |none=>rw[Cy]at nb;exact absurd rfl nb
   |some o =>
    induction o with
    |list l =>
     rw[Cy]at nb;dsimp only at nb ⊢;refine⟨l[i]?.map λx=>if en then .tup [.int i,x]else x,by rw[Cy],λe=>?_,λx e=>?_⟩
     .induction hl:l[i]? with
      |none=>rfl
      |some x=>rw[hl]at e;exact oSN e
     .induction hl:l[i]? with
      |none=>rw[hl]at e;exact fw e
      |some y =>
       rw[hl]at e nb;obtain rfl:=aj e;dsimp only at nb ⊢;induction hp:lh t (if en=af then V.tup [.int i,y]else y) vs with
       |none=>rw[hp]at nb;exact absurd rfl nb
       |some k6=>exact⟨n,k6,iP n,rfl,rfl⟩
    |_=>rw[Cy]at nb;exact absurd rfl nb
theorem NX (hh:c.A.handled=ae)(uT:c.A.frames=aa c.l)(N:bW c){t:Tg}{y:X}{b:List S}(hy:∀vs,s6 (c.wv vs) y e)(ht:∀X',BA (c.wx X') t et)(hb:∀X',DY (c.wx X') W b eb)(het:(isTup et||isName et)=af)(OU:(∃a,y=.pC a)->isTup et=af)
  (hs:∀v,iI e c.env v=pure v):SS c W (.jx t y b) (.For et e eb [] pos):=λvs ρ σ s t₀=>by
 have e0:ex G c.Φ W (.jx t y b) vs σ=(uX G c.Φ vs y [] σ).bind λk σ=>match k with
  |.items l=>jc t (λvs σ=>l5 G c.Φ W b vs σ) l vs σ
  |.live n en=>qr t en (λvs σ=>l5 G c.Φ W b vs σ) n W 0 vs σ:=rfl
 rw[e0];refine cH.w (s6.s N (hy vs) t₀ (W2:=λit bH Q E=>gZ (aA c.Z.prog c.Z.w) c.A (.forLoop et it eb [] c.env) (λr s'=>match r with|.ok f=>Q f s'|.error e=>mK (aA c.Z.prog c.Z.w) c.A c.env E e s') bH) λk bj aH ay it own g R I fr nl=>?_) λQ E q=>wpAny_For q hs;have N':bW (c.wx (own++c.X)):=⟨N.nodup,N.ct,N.cs,N.frame,N.top,N.cells⟩;have eV:St ((c.wx (own++c.X)).wv vs) aH bj ay.heap:=St.goX (c:=c.wv vs) t₀ g R (λb q=>aU _ q) λb q=>(bg.mp q).elim (λz=>.inr (fr b z)) .inl;have J1:∀x∈own,x∉iH (c.wx (own++c.X)):=λx hx q=>by have:x∈c.X:=ux N N.cells t₀ x q;exact absurd (t₀.rel.vJ x this) (bO.mpr (fr x hx))
 have hT:∀ρ h a b,TS (c.wx (own++c.X)) ρ h a b->TS c ρ h a b:=λρ h a b q=>by refine⟨pK.less q.1 (λb hb=>aU _ hb) t₀.fr.own λy a e=>(t₀.fr.cells y a e).1,da.back t₀.oq q.2.1,?_⟩;obtain⟨fl,k6⟩:=a;have q3:=q.2.2;induction fl<;>induction b using PySem.Flow.casesOn<;>first|exact q3|exact bu.less q3 λb hb=>aU _ hb
 have ZK:(∃n,k=.live n af)->isTup et=af:=λz_=>by obtain⟨n,e⟩:=z_;exact OU (nl n af e rfl)
 induction k with
 |items l =>have:=ru (c:=c.wx (own++c.X)) hh uT N' (rY (c:=c.wx (own++c.X)) (l:=l)) (hb _) (ht _) het ZK (λx hx=>bS _ hx) J1 (n:=l.length) eV I;simp only[Nat.add_zero,if_true,yl]at this;exact Aa.less this t₀.oq hT
 |live n en=>exact Aa.less (ru (c:=c.wx (own++c.X)) hh uT N' (A8 (c:=c.wx (own++c.X)) (n₀:=n) (en:=en)) (hb _) (ht _) het ZK (λx hx=>bS _ hx) J1 (n:=W) eV I) t₀.oq hT
end
noncomputable def nB (p:Arguments):Bool:=p.posonlyargs.isEmpty&&p.kwonlyargs.isEmpty&&p.vararg.isNone&&p.kwarg.isNone&&decide (p.args.map (·.arg)).Nodup
theorem uI {ν α:Type}[BEq ν][LawfulBEq ν]:∀(ns:List ν) (vs:List α) (i:Nat) (n:ν) (v:α),ns.Nodup->ns[i]?=aa n->vs[i]?=aa v->(ns.zip vs).lookup n=aa v
 |[],_,_=>λU U U h U=>by simp at h
 |_::_,[],_=>λU U U U h=>by simp at h
 |a::ns,b::vs,0=>λn v U h k=>by obtain rfl:=aj h;obtain rfl:=aj k;rw[jg,cf,beq_self_eq_true]
 |a::ns,b::vs,i+1=>λn v nd h k=>by rw[du]at nd;have ne:(n==a)=ag:=beq_eq_false_iff_ne.mpr λq=>nd.1 (q▸aJ h);rw[jg,cf,ne];exact uI ns vs i n v nd.2 h k
theorem vY {α:Type}[BEq ν][LawfulBEq ν](ns:List ν)(vs:List α)(nd:ns.Nodup)(hl:ns.length=vs.length)(k:ν->Option α)(hk:∀(i:Nat) n v,ns[i]?=aa n->vs[i]?=aa v->k n=aa v):ns.filterMap (λn=>(k n).map (n,·))=ns.zip vs:=by
 induction ns generalizing vs with
 |nil=>rfl
 |cons a ns ih =>
  induction vs with
  |nil=>cases hl
  |cons b vs =>rw[du]at nd;rw[jg,List.filterMap_cons,hk 0 a b rfl rfl];dsimp only[vp];rw[ih vs nd.2 (by simpa using hl) λi n v h1 h2=>hk (i+1) n v h1 h2]
theorem bpl {ar:List Arg}{kd:List (Option bY)}{df:List bY}{r:List (Str×ax)}(hp:fd.params=⟨[],ar,ae,[],kd,ae,df⟩)(hd:fd.defaults=.none)(hn:ar.map yp=ns)(hl:¬(ws.length>ns.length))
  {z:List ax}(h0:List.drop (0-ns.length) []=z)(hm:List.filter (λn=>((ns.zip ws).lookup n).isNone) (List.take (ns.length-z.length) ns)=[])(hz:(List.drop (ns.length-z.length) ns).zip z=[])(hr:ns.filterMap (λn=>((ns.zip ws).lookup n).map (n,·))=r):bindArgs fd ⟨ws,[]⟩=pure r:=by
 obtain⟨nm,qn,p,bd,sc,gl,cl,de,kde,dc,pm,an,co,ct,bl⟩:=fd;subst hp;subst hd;subst hn h0;refine(if_neg ?_).trans ((if_neg ?_).trans ?_)
 .exact λh=>hl (of_decide_eq_true (qP h))
 .exact λh=>bq ((congrArg (λl=>!List.isEmpty l) hm).symm.trans h)
 refine Eq.trans (congrArg (λz=>bind (forIn z (List.zip (ar.map yp) ws) _) _) hz) ?_;refine Eq.trans (b:=pure (((ar.map yp)++[]).filterMap (λn=>(((ar.map yp).zip ws).lookup n).map (n,·)))) rfl ?_;rw[aP,hr]
theorem F1 {p:Arguments}(h:nB p=af):p=⟨[],p.args,ae,[],p.kw_defaults,ae,p.defaults⟩/\(p.args.map yp).Nodup:=by obtain⟨po,ar,va,ko,kd,kw,df⟩:=p;have h5:=of_decide_eq_true (vk h);replace h:=qP h;obtain rfl:kw=ae:=xk.mp (vk h);replace h:=qP h;obtain rfl:va=ae:=xk.mp (vk h);replace h:=qP h;obtain rfl:ko=[]:=iM.mp (vk h);obtain rfl:po=[]:=iM.mp (qP h);exact⟨rfl,h5⟩
theorem u6  (hp:nB fd.params=af)(hd:fd.defaults=.none)(hl:fd.params.args.length=ws.length):bindArgs fd ⟨ws,[]⟩=pure ((fd.params.args.map (·.arg)).zip ws):=by
 obtain⟨h1,nd⟩:=F1 hp;generalize hn:fd.params.args.map yp=ns at nd;have hl:ns.length=ws.length:=by rw[<- hn,ak];exact hl
 have lk:∀(i:Nat) n v,ns[i]?=aa n->ws[i]?=aa v->(ns.zip ws).lookup n=aa v:=λi n v a b=>uI _ _ i n v nd a b;refine bpl h1 hd hn (bO.mpr (fS hl.symm)) qX ?_ List.zip_nil_right (vY ns ws nd hl _ lk);rw[n5];intro n hn;obtain⟨i,hi,rfl⟩:=kh.mp (pJ hn);rw[lk i _ ws[i] (bA hi) (bA (hl▸hi))];exact bq
structure Ii (A:mR)(l:List Env)(d:Nat):Prop where
 hh:A.handled=ae
 fr:A.frames=aa l
 un:A.units+300+20*d<jM
 dp:A.depth+3*d<fb
theorem Ii.deeper  {d:Nat}(h:Ii A l (d+1))(env:Env):Ii (A.deeper env) (env::l) d :=
 ⟨h.hh,jV h.fr,by have:=h.un;show A.units+3+300+20*d<jM;exact qq5 this,by have:=h.dp;show A.depth+1+3*d<fb;exact qq6 this⟩
theorem y7 (args:Args):(kZ "type.__call__" args).cUnits<=5:=by
 refine(?_:(kZ "type.__call__" {}).cUnits<=5)
 decide +kernel
theorem AN (args:Args):(kZ "type.__call__" args).envs=[]:=by refine(?_:(kZ "type.__call__" {}).envs=[]);rfl
theorem Ii.maker  {d:Nat}(h:Ii A l (d+1))(env:Env)(C:aK)(ws:List ax):Ii ((A.deeper env).under (.builtin "type.__call__" ⟨.ref C::ws,[]⟩)) (env::l) d:=by
 refine⟨h.hh,?_,?_,?_⟩
 .refine(?_:pushEnvs (kZ "type.__call__" ⟨.ref C::ws,[]⟩).envs (A.deeper env).frames=_);rw[jV h.fr,AN];rfl
 .have:=h.un;have:=y7 ⟨.ref C::ws,[]⟩;refine(?_:A.units+3+(kZ "type.__call__" ⟨.ref C::ws,[]⟩).cUnits+300+20*d<jM);exact qq7 (by assumption) this
 .have:=h.dp;have e:((A.deeper env).under (.builtin "type.__call__" ⟨.ref C::ws,[]⟩)).depth=A.depth+1+1:=rfl;rw[e];exact qq8 this
structure FnAt (Z:ng)(a:aK)(fn:Fn)(vt:List Str)(fd:ij)(body:List iO):Prop where
 obj:∃o,Z.base.get? a=aa o/\o.data=.func fd
 co:fd.scope.isCoroutine=ag
 gen:fd.scope.isGenerator=ag
 kind:fd.scope.kind=.function
 code:Z.base.CodeRec fd.code fd.qualname
 body:fd.body=.stmts body
 clo:fd.closure=[]
 glo:fd.globals=cF
 blt:fd.builtins=g9
 lim:Z.base.NoLimit
 np:fn.np<=vt.length
 nv:fn.np<=fn.nv
 nodup:vt.Nodup
 keys:(fd.scope.names.map (·.1)).Nodup
 par:∀x∈vt.take fn.np,fd.scope.names.lookup x=aa .local\/fd.scope.names.lookup x=aa .cell
 bind:∀xs ws ρ X (s:av) σ,Rel Z ρ X σ s.heap->bt ρ X s.heap xs ws->xs.length<=fn.np->fn.np<=xs.length+fn.df.length ->
  ∃AB,BI s fd ⟨ws,[]⟩ ((vt.take fn.np).zip AB)/\bt ρ X s.heap (xs++fn.df.drop (xs.length+fn.df.length-fn.np)) AB
theorem kL:∀(names:List (Str×f9)) (n:aK) (acc:List (Str×aK)) (x:Str),(names.lookup x=aa .cell\/∃c,acc.lookup x=aa c)->∃c,(sZ n names acc).lookup x=aa c
 |[]=>λn acc x h=>by
  rcases h with h|h
  .exact fw h
  .exact h
 |(y,k)::r=>λn acc x h=>by
  unfold sZ
  split
  .rename_i hk
   refine kL r _ _ x ?_;by_cases e:x=y
   .subst e;right;exact⟨n,by rw[cf,beq_self_eq_true]⟩
   .have ne:(x==y)=ag:=beq_eq_false_iff_ne.mpr e;rcases h with h|⟨c,h⟩
    .rw[cf,ne]at h;exact .inl h
    .right;exact⟨c,by rw[cf,ne];exact h⟩
  .rename_i hk
   refine kL r _ _ x ?_;rcases h with h|h
   .rw[cf]at h
    split at h
    .obtain rfl:=aj h;simp at hk
    .exact .inl h
   .exact .inr h
theorem ou {kd:Str->Option f9}:∀(ns:List Str) (vs:List ax) (m:Str->Option ax) (x:Str),ns.Nodup->kd x=aa .local ->
  (∀(i:Nat) v,ns[i]?=aa x->vs[i]?=aa v->bindL kd (ns.zip vs) m x=aa v)/\(x∉ns->bindL kd (ns.zip vs) m x=m x)
 |[],vs=>λm x U U=>⟨λi v h=>by simp at h,λU=>by simp[bindL]⟩
 |a::ns,[]=>λm x U U=>⟨λi v U h=>by simp at h,λU=>by simp[bindL]⟩
 |a::ns,b::vs=>λm x nd hk=>by
  rw[du]at nd;rw[jg];unfold bindL;refine⟨λi v h k=>?_,λh=>?_⟩
  .cases i with
   |zero =>obtain rfl:=aj h;obtain rfl:=aj k;rw[if_pos hk,(ou ns vs _ _ nd.2 hk).2 nd.1];exact if_pos rfl
   |succ i=>exact(ou ns vs _ x nd.2 hk).1 i v h k
  .rw[aN,not_or]at h;rw[(ou ns vs _ x nd.2 hk).2 h.2]
   split
   .exact if_neg h.1
   .rfl
theorem ox {kd:Str->Option f9}:∀(ns:List Str) (vs:List ax) (m:Str->Option ax) (x:Str),ns.Nodup->kd x=aa .cell ->
  (∀(i:Nat) v,ns[i]?=aa x->vs[i]?=aa v->bindC kd (ns.zip vs) m x=aa v)/\(x∉ns->bindC kd (ns.zip vs) m x=m x)
 |[],vs=>λm x U U=>⟨λi v h=>by simp at h,λU=>by simp[bindC]⟩
 |a::ns,[]=>λm x U U=>⟨λi v U h=>by simp at h,λU=>by simp[bindC]⟩
 |a::ns,b::vs=>λm x nd hk=>by
  rw[du]at nd;rw[jg];unfold bindC;have nl:¬kd x=aa .local:=by rw[hk];decide
  refine⟨λi v h k=>?_,λh=>?_⟩
  .induction i using Nat.casesOn with
   |zero =>obtain rfl:=aj h;obtain rfl:=aj k;rw[if_neg nl,(ox ns vs _ _ nd.2 hk).2 nd.1];exact if_pos rfl
   |succ i=>exact(ox ns vs _ x nd.2 hk).1 i v h k
  .rw[aN,not_or]at h;rw[(ox ns vs _ x nd.2 hk).2 h.2]
   split
   .rfl
   .exact if_neg h.1
theorem rZ:∀ {cs:List (Str×aK)} {p:Str×aK},(∀x y c c',(x,c)∈cs->(y,c')∈cs->x=y->c=c')->p∈cs->cs.lookup p.1=aa p.2
 |[],_,_,h=>by cases h
 |q::cs,p,u,h=>by
  rw[cf];by_cases e:p.1=q.1
  .rw[beq_iff_eq.mpr e];exact congrArg aa (u q.1 p.1 q.2 p.2 (.head _) h e.symm)
  .rw[beq_eq_false_iff_ne.mpr e];rcases aN.mp h with rfl|h
   .exact absurd rfl e
   .exact rZ (λx y c c' a b=>u x y c c' (.tail _ a) (.tail _ b)) h
theorem u4:∀(names:List (Str×f9)) (n:aK) (acc:List (Str×aK)),(names.map (·.1)).Nodup->(acc.map (·.1)).Nodup->(∀x∈names.map (·.1),x∉acc.map (·.1))->((sZ n names acc).map (·.1)).Nodup
 |[]=>λU U U h U=>h
 |(y,k)::r=>λn acc h1 h2 h3=>by
  rw[eN,du]at h1;unfold sZ
  split
  .refine u4 r _ _ h1.2 ?_ λx hx=>?_
   .rw[eN,du];exact⟨h3 y (.head _),h2⟩
   .rw[eN,aN,not_or];exact⟨λq=>h1.1 (q▸hx),h3 x (.tail _ hx)⟩
  .exact u4 r _ _ h1.2 h2 λx hx=>h3 x (.tail _ hx)
theorem Cj:∀ {l:List (Str×aK)},(l.map (·.1)).Nodup->∀x y c c',(x,c)∈l->(y,c')∈l->x=y->c=c'
 |[]=>λU U U U U h U U=>by cases h
 |p::l=>λnd x y c c' h k e=>by
  rw[eN,du]at nd;subst e;rcases aN.mp h with h|h<;>rcases aN.mp k with k|k
  .rw[<- k]at h;exact(Au h).2
  .exact absurd (bX.mpr ⟨_,k,by rw[<- h]⟩) nd.1
  .exact absurd (bX.mpr ⟨_,h,by rw[<- k]⟩) nd.1
  .exact Cj nd.2 x x c c' h k rfl
noncomputable abbrev sV (Z:ng)(A:mR)(l:List Env)(env:Env)(vt:List Str)(X:List aK)(Φ:Nat->List V->bo->R V):Cx:={Z:=Z,A:=A.deeper env,l:=env::l,env:=env,vt:=vt,vs:=[],X:=env.locals::env.cells.map (·.2)++X,Φ:=Φ}
section
variable {a:aK}
theorem Hw (K:FnAt Z a fn vt fd body){Φ:Nat->List V->bo->R V}{X:List aK}{s:av}(R:Rel Z ρ X σ s.heap)(fo:da X s.heap l)(r:bt ρ X s.heap vals ws)(hv:vals.length=fn.np)
  (he:env=newEnv fd.scope s.heap.objs.size fd.globals (sZ (s.heap.objs.size+1) fd.scope.names []) (fd.qualname++".<locals>.") (aa a) fd.code ae fd.builtins)
  (C:InCallC s env.locals (bindL env.kindOf ((vt.take fn.np).zip ws) λU=>ae) env.cells (bindC env.kindOf ((vt.take fn.np).zip ws) λU=>ae) ay) :
  Ext s.heap ay.heap/\(∀b∈env.locals::env.cells.map (·.2),s.heap.objs.size<=b)/\St ((sV Z A l env vt X Φ).wv (vals.map aa++bF (fn.nv-fn.np) dv)) ρ σ ay.heap/\bW (sV Z A l env vt X Φ):=by
 have hL:env.locals=s.heap.objs.size:=by rw[he];rfl
 have hc:env.cells=sZ (s.heap.objs.size+1) fd.scope.names []:=by rw[he];rfl
 have hsc:env.scope=fd.scope:=by rw[he];rfl
 have uT:env.frame=aa env.locals:=by rw[he];rfl
 have w3:=C.toInCall.ns;have ltL:=w3.lt;have x:Ext s.heap ay.heap:=⟨by rw[<- hL];exact dj ltL,C.toInCall.keep⟩;have mem:∀ {b},b∈env.cells.map (·.2)->∃n,(n,b)∈env.cells:=λ{b} hb=>by(refine dC (bX.mp hb) λp hp z1=>?_;subst z1);exact⟨p.1,hp⟩
 have uniq:∀x y c c',(x,c)∈env.cells->(y,c')∈env.cells->x=y->c=c':=by rw[hc];exact Cj (u4 _ _ _ K.keys List.nodup_nil λU U q=>by cases q)
 have cl:∀p∈env.cells,env.cells.lookup p.1=aa p.2:=λp hp=>rZ uniq hp;have ge:∀b∈env.locals::env.cells.map (·.2),s.heap.objs.size<=b/\b<ay.heap.objs.size:=λb hb=>by
  rcases aN.mp hb with rfl|hb
  .exact⟨fS hL.symm,ltL⟩
  .obtain⟨n,hn⟩:=mem hb;exact⟨dj (hL▸C.above n b hn),(C.cell n b (cl _ hn)).lt⟩
 have bP:Rel Z ρ (env.locals::env.cells.map (·.2)++X) σ ay.heap:=R.own x λb hb=>(bg.mp hb).elim (λq=>.inr (ge b q)) .inl;have rs:bt ρ (env.locals::env.cells.map (·.2)++X) ay.heap vals ws:=bt.plus r x λb hb=>(ge b hb).1;have nodup:∀(i j:Nat) x,vt[i]?=aa x->vt[j]?=aa x->i=j:=λi j x h1 h2=>by have hi:=(aC.mp h1).1;have hj:=(aC.mp h2).1;exact(List.getElem_inj K.nodup (h₀:=hi) (h₁:=hj)).mp ((aC.mp h1).2.trans (aC.mp h2).2.symm)
 have ndt:(vt.take fn.np).Nodup:=List.Nodup.sublist (List.take_sublist _ _) K.nodup;have val:∀ {i:Nat} {v:V},(vals.map aa++bF (fn.nv-fn.np) (dv:Option V))[i]?=aa (aa v)->i<fn.np/\vals[i]?=aa v:=λ{i v} h=>by
  by_cases q:i<vals.length
  .rw[aZ (by simpa using q),cy]at h;rw[bA q]at h ⊢;exact⟨hv▸q,by simpa using h⟩
  .rw[cB (by simpa using q)]at h;rw[List.getElem?_replicate]at h
   split at h<;>cases h
 have nm:∀ {i:Nat} {x:Str},i<fn.np->vt[i]?=aa x->(vt.take fn.np)[i]?=aa x:=λ{i x} h e=>by rw[Ac h];exact e
 refine⟨x,λb hb=>(ge b hb).1,⟨bP,?_,?_⟩,⟨nodup,rfl,rfl,uT,⟨l,rfl⟩,cl⟩⟩
 .exact{
   kind:=by rw[show(sV Z A l env vt X Φ).env=env from rfl,hsc];exact K.kind
   globals:=by show env.globals=_;rw[he];exact K.glo
   builtins:=by show env.builtins=_;rw[he];exact K.blt
   own:=.head _
   ns:=⟨_,w3,λi x v e1 e2 U e4=>by obtain⟨hi,ev⟩:=val e2;refine dC (rs.get ev) λw hw rv=>?_;exact⟨w,(ou _ ws _ x ndt e4).1 i w (nm hi e1) hw,rv⟩,λi x v _ (e2:([]:List V)[i]?=aa v)=>by simp at e2⟩
   cell:=λi x v e1 e2 e3=>by obtain⟨hi,ev⟩:=val e2;refine dC (rs.get ev) λw hw rv=>?_;obtain⟨c,GX⟩:=kL fd.scope.names (s.heap.objs.size+1) [] x (.inl (by rw[<- hsc];exact e3));rw[<- hc]at GX;exact⟨c,w,GX,(ox _ ws _ x ndt e3).1 i w (nm hi e1) hw▸C.cell x c GX,rv⟩
   cells:=λx c e=>⟨bS _ (.tail _ (lookup_mem e)),CQ (C.above x c (pV e)),_,C.cell x c e⟩
   has:=λx e=>by obtain⟨c,GX⟩:=kL fd.scope.names (s.heap.objs.size+1) [] x (.inl (by rw[<- hsc];exact e));exact⟨c,by rw[<- hc]at GX;exact GX⟩
   inj:=λx y c e1 e2=>name_of_addr C.apart (pV e1) (pV e2)}
 .intro e Qv;rcases aN.mp Qv with rfl|Qv
  ·(refine Eb w3 λo es n ho hd U=>?_;try clear w3);exact⟨by rw[hsc,K.kind];decide,_,o,es,n,uT,.head _,ho,hd⟩
  .exact((fo.grow R (F:=[]) x.grow λU U U U q=>nomatch q).less λb hb=>aU _ hb) e Qv
end
section
variable {a:aK}{W:Nat}
noncomputable def YM (r:Fl×Vs)(σ:bo):R V:=match r with
 |(.rt v,_)=>.ok v σ
 |(.nx,_)=>.ok .none σ
theorem Hx (K:FnAt Z a fn vt fd body){Φ:Nat->List V->bo->R V}{d:Nat}(hA:Ii A l (d+1)){X:List aK}
  (nH:∀env X',env.scope=fd.scope->env.frame=aa env.locals->bW (sV Z A l env vt X' Φ)->DY (sV Z A l env vt X' Φ) W fn.body body)
 {s:av}{AB:List ax}(R:Rel Z ρ X σ s.heap)(fo:da X s.heap l)(hb:BI s fd ⟨ws,[]⟩ ((vt.take fn.np).zip AB))(r:bt ρ X s.heap vals AB)(hv:vals.length=fn.np) :
  Run Z [] X ρ s (TV X) ((l5 G Φ W fn.body (vals.map aa++bF (fn.nv-fn.np) dv) σ).bind YM) (λQ E=>gZ (aA Z.prog Z.w) A (.call (.ref a) ⟨ws,[]⟩) (back Q E) s):=by
 refine dC K.obj λo ho hd=>?_;have hcd:s.heap.CodeRec fd.code fd.qualname:=K.code.keeps R.keep;have pd:s.heap.NoLimit:=K.lim.keeps R.keep;have red:∀ {RR:sH->av->Prop},(∀env ay,env.scope=fd.scope->env.frame=aa env.locals->Ext s.heap ay.heap->(∃h t,ay={s with heap:=h,toks:=t})->(∀b∈env.locals::env.cells.map (·.2),s.heap.objs.size<=b) ->
   St ((sV Z A l env vt X Φ).wv (vals.map aa++bF (fn.nv-fn.np) dv)) ρ σ ay.heap->bW (sV Z A l env vt X Φ) ->
   aE (aA Z.prog Z.w) (A.deeper env) (execs body env) (λf s'=>RR (.ok (.ret (match f with|.ret v=>v|_=>.none))) s')
    (λe s'=>aE (aA Z.prog Z.w) (A.deeper env) (leaving env e) (λU lL=>RR (.error e) lL) (λe' lL=>RR (.error e') lL) s') ay) ->
   gZ (aA Z.prog Z.w) A (.call (.ref a) ⟨ws,[]⟩) RR s:=λ{RR} k=>by
  refine codeAny_call_function (by have:=hA.dp;exact qq1 this) (R.keep _ _ ho) hd K.co K.gen K.body hcd (hb _ _ _ _ ?_);rw[K.clo];refine wpAny_newFunctionEnv_cells K.kind (λx hx=>?_) λenv he ay C=>?_
  .have:x.1∈vt.take fn.np:=(wd (a:=x.1) (b:=x.2) hx).1;rcases K.par x.1 this with h|h
   .exact .inl h
   .obtain⟨c,hc⟩:=kL fd.scope.names (s.heap.objs.size+1) [] x.1 (.inl h);exact .inr ⟨h,by rw[hc];rfl⟩
  .refine o03 (Hw (A:=A) (l:=l) K (Φ:=Φ) R fo r hv he C) λx ge t N=>?_;exact⟨pd.keeps C.toInCall.keep,codeAny_func (k env ay (by rw[he];rfl) (by rw[he];rfl) x C.toInCall.same ge t N)⟩
 induction hr:l5 G Φ W fn.body (vals.map aa++bF (fn.nv-fn.np) dv) σ with
 |bad=>trivial
 |ok p cD =>
  obtain⟨fl,k6⟩:=p;have key:∀(v:V),YM (fl,k6) cD=.ok v cD->(∀X ρ h f,TF X ρ h fl f->bu ρ X h v (match f with|.ret v=>v|_=>.none))->Run Z [] X ρ s (TV X) (.ok v cD) (λQ E=>gZ (aA Z.prog Z.w) A (.call (.ref a) ⟨ws,[]⟩) (back Q E) s):=λv U hv' Q E q=>red λenv ay h1 h2 x same ge t N=>by
   have:=nH env X h1 h2 N _ ρ σ ay t;rw[show l5 G (sV Z A l env vt X Φ).Φ W fn.body (vals.map aa++bF (fn.nv-fn.np) dv) σ=_ from hr]at this;refine this _ _ λf bJ s' g R' ts=>?_;have g':Go [] ρ s bJ s':=by(refine H0 same λh tk z1=>?_;try clear same;subst z1);exact Go.qB (F:=[]) (own:=iH (sV Z A l env vt X Φ)) (by rw[aP];exact(Go.ext x).trans g) ge
   exact q _ bJ s' g' (R'.less λb hb=>aU _ hb) (bu.less (hv' _ bJ s'.heap f ts.2.2) λb hb=>aU _ hb)
  induction fl with
  |nx=>exact key .none rfl λX ρ h f t=>by induction f using PySem.Flow.casesOn<;>first|exact t7|exact t.elim
  |rt v=>exact key v rfl λX ρ h f t=>by induction f using PySem.Flow.casesOn<;>first|exact t|exact t.elim
 |exc cD =>
  refine λQ E q=>red λenv ay h1 h2 x same ge t N=>?_;have:=nH env X h1 h2 N _ ρ σ ay t;rw[show l5 G (sV Z A l env vt X Φ).Φ W fn.body (vals.map aa++bF (fn.nv-fn.np) dv) σ=_ from hr]at this;refine this _ _ λe bJ s' g R' y Qx=>?_;have g':Go [] ρ s bJ s':=by(refine H0 same λh tk z1=>?_;try clear same;subst z1);exact Go.qB (F:=[]) (own:=iH (sV Z A l env vt X Φ)) (by rw[aP];exact(Go.ext x).trans g) ge
  unfold leaving;refine aq (om (jV hA.fr) h2 Qx (da.fun R' Qx) y λh' c1 y1=>?_);refine jL (Z:=Z) (X:=env.locals::env.cells.map (·.2)++X) (h₀:=ay.heap) (s:={s' with heap:=h'}) y1 λIb c2 y2=>?_;have cc:=c1.trans c2;have cc':ym s.heap (env.locals::env.cells.map (·.2)++X) s'.heap Ib:=⟨cc.size,λb o e k=>cc.ev b o e (k.imp (λz=>bK z x.1) id)⟩;have gE:Go [] ρ s bJ {s' with heap:=Ib}:=by refine H0 g'.same λh tk e=>?_;refine⟨⟨g'.grow.pre,aQ g'.grow.size cc.size,λb o e k n=>?_⟩,Ib,tk,by rw[e]⟩;refine dC (g'.grow.ev b o e k n) λs1 e1 k1=>?_;refine dC (cc'.ev b _ e1 (.inl (bx e))) λs2 e2 k2=>?_;exact⟨s2,e2,λnd=>(k2 (.inl nd)).trans (k1 nd)⟩
  exact q _ bJ {s' with heap:=Ib} gE ((R'.chg (aQ R.bsize x.1) cc).less λb hb=>aU _ hb) (y2.fly.mH x.1)
end
theorem By {W:Nat}
  (H:∀(f:Nat) (a:aK),Z.fa[f]?=aa a->∃fn vt fd body,F[f]?=aa fn/\FnAt Z a fn vt fd body /\
   ∀(c:Cx),c.Z=Z->Ok c mg mb->c.A.depth+2<fb->bW c->c.env.scope=fd.scope->c.vt=vt->c.ct=[]->c.cs=[]->DY c W fn.body body)
  (Eh:∀(c:Cx),c.Z=Z->c.A.handled=ae->c.A.frames=aa c.l->c.A.units+300<jM->(∀X,n8 c.Z c.Φ c.A c.l X)->(∀X ws,n8 c.Z c.Φ (c.A.under (.builtin "type.__call__" ⟨.ref c.Z.C::ws,[]⟩)) c.l X)->Ok c mg mb) :
  ∀d A l X,Ii A l d->n8 Z (kM G F W d) A l X:=by
 intro d;induction d with
 |zero=>intro A l X _ f a hf ρ s σ xs ws R fo r;trivial
 |succ d ih =>
  intro A l X hA f a hf ρ s σ xs ws R fo r;refine MG (H f a hf) λfn vt fd body hfn K hb=>?_;rw[u5,hfn];dsimp only;refine Run.if λZP=>?_
  .refine dC (K.bind xs ws ρ X s σ R r ZP.1 ZP.2) λAB GY r'=>?_;have hlen:(xs++fn.df.drop (xs.length+fn.df.length-fn.np)).length=fn.np:=by rw[ao,jU];exact qq2 ZP
   have:=Hx (W:=W) (Φ:=kM G F W d) K hA (λenv X' h1 h2 N=>hb (sV Z A l env vt X' (kM G F W d)) rfl
    (Eh _ rfl hA.hh (jV hA.fr) (by have:=hA.un;show A.units+3+300<jM;exact qq3 this) (λX=>ih _ _ X (hA.deeper env)) λX ws=>ih _ _ X (hA.maker env Z.C ws)) (by have:=hA.dp;show A.depth+1+2<fb;exact qq4 this) N h1 rfl rfl rfl) R fo GY r' hlen
   exact this
noncomputable abbrev qz:List ax:=[.type "Exception",.type "BaseException",.type "object"]
noncomputable abbrev vZ (C:aK)(t:aK)(d:Option aK)(a:ax):Obj:={cls:=.ref C,dict:=d,data:=.fields #[a,.none,.none,.none,.bool ag,.none]}
section
variable {w:c0}{E:ax->av->Prop}{t:Nat}
variable {q:Str}
theorem HL {K:qY}{rest:List ax}{Q:ax->av->Prop}(X:K.In h)
  (hC:h.get? C=aa (fK nm q C N bs qz acI sn sub ab col dd k0 k1 k2 k3 k5 "Exception.__new__"))(hn:h.Ns N mN)(hni:mN "__init__"=aa (.ref fB))(hf:typeIn K (.ref fB)=aa (.type "function"))
  (Zt:rest.length<=fz)
  (hq:gZ (aA prog w) (A.under (.builtin "type.__call__" ⟨.ref C::rest,[]⟩)) (.call (.ref fB) ⟨.ref (h.objs.size+1)::rest,[]⟩)
   (λr s'=>match r with|.ok (.ret v)=>v=.none/\Q (.ref (h.objs.size+1)) s'|.ok _=>False|.error e=>E e s')
   ⟨(h.push {cls:=.type "tuple",data:=.seq rest.toArray}).push {cls:=.ref C,data:=.fields #[.ref h.objs.size,.none,.none,.none,.bool ag,.none]},g,d,t,os⟩) :
  aE (aA prog w) A (call (.ref C) rest) Q E ⟨h,g,d,t,os⟩:=by
 have F:=iB;have f1:=tc_lookup;have f2:=tc_bind (.ref C);have hT:(⟨h,g,d,t,os⟩:av).TypeIs (.ref C) "type":=⟨_,hC,rfl⟩;refine pO (codeAny_of_tree ?_);refine(?_:aE _ _ (callAny (.ref C) _) _ _ _)
 repeat (any_goals (first|assumption|with_reducible refine fg hC ?_|wp_step))
 refine⟨rfl,?_⟩;refine codeAny_call_builtin_at (Code.quiet_builtin _ (by decide +kernel)) entry_typeCall (wpAny_check_type_call_sub hC ?_)
 repeat (first|with_reducible refine fg hC ?_|with_reducible refine wpAny_madeBy_exc hC ?_|wp_step)
 refine codeAny_call_builtin_code (Code.quiet_builtin _ F.quiet) (wpAny_check_new_sub F hC ?_);refine codeAny_exc_new_sub F hC ?_ Zt;refine(?_:aE _ _ _ _ _ _);have G2:=br {cls:=.ref C,data:=.fields #[.ref h.objs.size,.none,.none,.none,.bool ag,.none]}
  (br {cls:=.type "tuple",data:=.seq rest.toArray} hC)
 have Zz:((h.push {cls:=.type "tuple",data:=.seq rest.toArray}).push {cls:=.ref C,data:=.fields #[.ref h.objs.size,.none,.none,.none,.bool ag,.none]}).Ns N mN :=
  let ⟨o,es,ep,e,r⟩:=hn;⟨o,es,ep,br _ (br _ e),r⟩
 have GW:((h.push {cls:=.type "tuple",data:=.seq rest.toArray}).push
   {cls:=.ref C,data:=.fields #[.ref h.objs.size,.none,.none,.none,.bool ag,.none]}).get? (h.objs.size+1)=aa
   {cls:=.ref C,data:=.fields #[.ref h.objs.size,.none,.none,.none,.bool ag,.none]}:=by heap_get
 have hcC:(dP C::qz).contains (.ref C)=af:=by simp
 have ac8:K.In ((h.push {cls:=.type "tuple",data:=.seq rest.toArray}).push {cls:=.ref C,data:=.fields #[.ref h.objs.size,.none,.none,.none,.bool ag,.none]}):=X.keeps λb o e=>br _ (br _ e);unfold isInstance
 repeat (first|with_reducible refine fg GW ?_|(with_reducible refine ti G2 ?_;rw[hcC])|wp_step)
 refine ti G2 ?_;rw[hcC]
 repeat (first|with_reducible refine fg GW ?_|wp_step)
 refine(?_:aE _ _ (iV (.ref C) _) _ _ _);refine rO G2 Zz F.mroIs F.init.lookup ?_;rw[hni];refine bC (aq ((bind_fn ac8 _ hf).here ?_));refine aq (pO (codeAny_mono hq λr s' z=>?_));rcases r with e|(v|_|_|_)<;>first|exact z|exact z.elim|skip
 obtain⟨rfl,z⟩:=z
 wp_walk
 exact z
end
theorem uW:findCls [] (.type "Exception") (.type "type") "__init__"=aa (.val (.builtin "Exception.__init__")):=by kernel_rfl
theorem Hi:typeOf (.type "Exception")=pure (.type "type"):=by first|rfl|kernel_rfl
theorem Hm:Manifest.isStub "Exception"=ag:=by decide +kernel
theorem Hj:iV (.type "Exception") "text"=pure ae:=by rw[typeLookup_type,builtinLookup_eq_fast];kernel_rfl
theorem O8:iV (.type "Exception") "pc"=pure ae:=by rw[typeLookup_type,builtinLookup_eq_fast];kernel_rfl
theorem Ou (h:bV):Frag.In [] h:=λa o z=>by exact fw z
theorem sW:handedIn (.builtin "Exception.__init__")=af:=rfl
theorem Br {w:c0}{E:ax->av->Prop}{s:av}{L:aK}{m:Str->Option ax}{pl:Sem Bool}{Q:ax×List ax->av->Prop}(hn:s.heap.Ns L m)(h:Q (.builtin "Exception.__init__",[]) {s with toks:=s.toks+1}) :
  aE (aA prog w) A (getMethod (.type "Exception") (st "__init__") pl) Q E s :=
 method_type (K:=[]) (h₀:={objs:=#[]}) ⟨hn,λb o z=>absurd (bx z) (oK _),bL _⟩ (Ou _) Hi Hm uW sW h
inductive P4 (C N:aK)(o:Option Obj):Prop where
 |mk (nm q:Str) (bs:List ax) (sn:List Str) (sub:List ax) (ab:Bool) (col:Option Bool) (dd:Option aK) (k0 k1 k2 k3 k5:Option ax) (e:o=aa (fK nm q C N bs qz af sn sub ab col dd k0 k1 k2 k3 k5 "Exception.__new__"))
inductive qT (b:FuncBody):Prop where
 |mk (p1 p2 p3 p4 p5 p6 q1 q2 q3 q4 r1 r2 r3 r4:Pos) (h:(p2.endLine==p5.line)=af) (e:b=.stmts
  [.Expr (.Call (.Attribute (.Name (st "Exception") p1) (st "__init__") p2) [.Name (st "self") p3,.Name (st "text") p4] [] p5) p6,
   .Assign [.Attribute (.Name (st "self") q1) (st "text") q2] (.Name (st "text") q3) q4,
   .Assign [.Attribute (.Name (st "self") r1) (st "pc") r2] (.Name (st "pc") r3) r4])
structure vx (Z:ng)(mg mb:Str->Option ax)(fB N:aK)(mN:Str->Option ax)(fd:ij):Prop where
 cls:P4 Z.CB N (Z.base.get? Z.CB)
 ns:Z.base.Ns N mN
 n1:mN "__init__"=aa (.ref fB)
 n2:mN "__setattr__"=ae
 n3:mN "text"=ae
 n4:mN "pc"=ae
 ty:typeIn Z.K (.ref fB)=aa (.type "function")
 Qj:Z.K.In Z.base
 obj:∃o,Z.base.get? fB=aa o/\o.data=.func fd
 co:fd.scope.isCoroutine=ag
 gen:fd.scope.isGenerator=ag
 kind:fd.scope.kind=.function
 names:fd.scope.names=[(st "self",.local),(st "text",.local),(st "pc",.local),(st "Exception",.globalImplicit)]
 code:Z.base.CodeRec fd.code fd.qualname
 lim:Z.base.NoLimit
 par:nB fd.params=af/\fd.params.args.map (·.arg)=[st "self",st "text",st "pc"]/\fd.defaults=.none
 glo:fd.globals=cF
 blt:fd.builtins=g9
 g:Z.base.Ns cF mg
 b:Z.base.Ns g9 mb
 ex:mg (st "Exception")=ae/\mb (st "Exception")=aa (.type "Exception")
 body:qT fd.body
section
theorem Bs {w:c0}{E:ax->av->Prop}{t:Nat}{q:Str}{e:aK}
 {v a:ax}{o:Obj}{tk:Tok}{Q:Fin->av->Prop}(hC:h.get? C=aa (fK nm q C N bs qz af sn sub ab col dd k0 k1 k2 k3 k5 "Exception.__new__"))(hn:h.Ns N mN)(hna:mN name=ae)
  (hB:iV (.type "Exception") name=pure ae)(hx:h.get? e=aa o)(hO:o=vZ C ta ae a)(hc:o.cls=.ref C)(hdn:o.dict=ae)(MX:∀c,o.data≠.cls c)
  (hq:∀h' vS,(∀b o,b≠e->h.get? b=aa o->h'.get? b=aa o)->h.objs.size<=h'.objs.size->h'.get? e=aa (vZ C ta (aa h.objs.size) a)->h'.Ns1 h.objs.size (λy=>if y=name then aa v else ae)->Q (.done (.ret .none)) ⟨h',g,d,vS,os⟩) :
  aE (aA prog w) A (Builtin.«object.__setattr__» ⟨[.ref e,.str name tk,v],[]⟩) Q E ⟨h,g,d,t,os⟩:=by
 have SF:=l9;have Zv:=SF.passes (.ref e);unfold Builtin.«object.__setattr__»
 repeat (first|rw[refuse_eq]|(rw[refuseLoop_ref,Zv])|(with_reducible refine fg hx ?_;rw[hc])|with_reducible refine wpAny_mroOf_exc hC ?_|(with_reducible refine rO hC hn SF.mro hB ?_;rw[hna])|wp_step)
 rw[hdn,if_neg (by simp[typeHasDict])];have hd:o.data=_:=congrArg Obj.data hO;rw[hd]
 .have MW:(h.push {cls:=.type "dict",data:=.dict #[]}).get? e=aa o:=br _ hx;have hxs:e≠h.objs.size:=dh (bx hx);refine aq (wpAny_alloc' ?_);refine aq (wpAny_update' MW ?_);refine aW ?_;have hgd:((h.push {cls:=.type "dict",data:=.dict #[]}).update e λo=>{cls:=o.cls,dict:=aa h.objs.size,data:=o.data,slots:=o.slots}).get? h.objs.size
    = aa {cls:=.type "dict",data:=.dict #[]} :=
   (kR _ _ _ _ hxs.symm).trans (Heap.get?_push_at rfl rfl)
  have x7:((h.push {cls:=.type "dict",data:=.dict #[]}).update e λo=>{cls:=o.cls,dict:=aa h.objs.size,data:=o.data,slots:=o.slots}).Ns h.objs.size (λU=>ae) :=
   ⟨_,#[],_,hgd,rfl,λe he=>absurd he (by simp),λU=>rfl⟩
  delta Builtin.ObjectAttr.storeInDict Builtin.ObjectAttr.newKeyGuard;refine aq (aW (aq (wpAny_nsSet1 (Heap.Ns1.of_empty x7) λh' hn' hs=>?_)));refine Eb (hn'.count (Within.cons name v Within.nil)) λoD esD epD Zx hdD hcD=>?_;refine aq (wpAny_lookBehind Zx (by rw[hdD];exact pastItsLine_dict (aQ hcD (by rw[az,aD,jI];exact abD))) ?_)
  wp_walk
  refine hq h' _ (λb ob hbx hb=>(hs.2 b (dh (bx hb))).trans ((kR _ _ _ _ hbx).trans (br _ hb))) ?_ ?_ hn'
  .have:=hs.1;rw[jC,iC]at this;exact FQ this
  .refine(hs.2 e hxs).trans ((dQ _ MW ?_).trans ?_)
   .rw[hO];rfl
   .rw[hO]
theorem Bp {w:c0}{E:ax->av->Prop}{t:Nat}{q:Str}{e:aK}
 {v:ax}{Q:Unit->av->Prop}{o:Obj}{P:bV->Prop}(SF:StoreFacts "Exception" qz "object.__setattr__" "object")(hC:h.get? C=aa (fK nm q C N bs qz af sn sub ab col dd k0 k1 k2 k3 k5 "Exception.__new__"))(hn:h.Ns N mN)(w3:mN "__setattr__"=ae)
  (hx:h.get? e=aa o)(hc:o.cls=.ref C)(H:∀(R:sH->av->Prop) (A':mR) t' tk,(∀h' vS,P h'->R (.ok (.ret .none)) ⟨h',g,d,vS,os⟩)->gZ (aA prog w) A' (.call (.builtin "object.__setattr__") ⟨[.ref e,.str name tk,v],[]⟩) R ⟨h,g,d,t',os⟩)
  (hq:∀h' vS,P h'->Q () ⟨h',g,d,vS,os⟩) :
  aE (aA prog w) A (wu (.ref e) name v) Q E ⟨h,g,d,t,os⟩:=by
 have f3:=SF.slot.bind (.ref e);unfold wu callSpecial? specialOf
 repeat (any_goals (first|assumption|(with_reducible refine fg hx ?_;rw[hc])|(with_reducible refine rO hC hn SF.mro SF.slot.lookup ?_;rw[w3])|wp_step))
 refine H _ _ _ _ λh' vS p=>?_
 repeat (any_goals (first|assumption|wp_step))
 exact hq h' vS p
theorem Ho {w:c0}{t:Nat}{q:Str}{e:aK}{bm:List ax}{B sa owner newId:String}
  {MK v:ax}{o:Obj}{R:sH->av->Prop}{P:bV->Prop}(SF:StoreFacts B bm sa owner)(hC:h.get? C=aa (fK nm q C N bs bm af sn sub ab col dd k0 k1 k2 k3 k5 newId))(hx:h.get? e=aa o)(hc:o.cls=.ref C)
  (H:∀(A':mR) (Q:Fin->av->Prop) (E:ax->av->Prop),(∀h' vS,P h'->Q (.done (.ret .none)) ⟨h',g,d,vS,os⟩)->aE (aA prog w) A' (Builtin.«object.__setattr__» ⟨[.ref e,MK,v],[]⟩) Q E ⟨h,g,d,t,os⟩)
  (hq:∀h' vS,P h'->R (.ok (.ret .none)) ⟨h',g,d,vS,os⟩):gZ (aA prog w) A (.call (.builtin sa) ⟨[.ref e,MK,v],[]⟩) R ⟨h,g,d,t,os⟩ :=
 codeAny_call_builtin SF.slot.plain SF.entry (wpAny_check_sa SF hC hx hc (H _ _ _ λh' vS p=>hq h' vS p))
theorem Bq {w:c0}{E:ax->av->Prop}{t:Nat}{q:Str}{e:aK}
 {v a:ax}{Q:Unit->av->Prop}(hC:h.get? C=aa (fK nm q C N bs qz af sn sub ab col dd k0 k1 k2 k3 k5 "Exception.__new__"))(hn:h.Ns N mN)(w3:mN "__setattr__"=ae)(hna:mN name=ae)
  (hB:iV (.type "Exception") name=pure ae)(hx:h.get? e=aa (vZ C ta ae a))
  (hq:∀h' vS,(∀b o,b≠e->h.get? b=aa o->h'.get? b=aa o)->h.objs.size<=h'.objs.size->h'.get? e=aa (vZ C ta (aa h.objs.size) a)->h'.Ns1 h.objs.size (λy=>if y=name then aa v else ae)->Q () ⟨h',g,d,vS,os⟩) :
  aE (aA prog w) A (wu (.ref e) name v) Q E ⟨h,g,d,t,os⟩:=by
 have SF:=l9;have key:∀(o:Obj),o=vZ C ta ae a->h.get? e=aa o->o.cls=.ref C->o.dict=ae->(∀c,o.data≠.cls c)->aE (aA prog w) A (wu (.ref e) name v) Q E ⟨h,g,d,t,os⟩:=by intro o hO hx hc hdn MX;refine Bp (P:=λh'=>(∀b o,b≠e->h.get? b=aa o->h'.get? b=aa o)/\h.objs.size<=h'.objs.size/\h'.get? e=aa (vZ C ta (aa h.objs.size) a)/\h'.Ns1 h.objs.size (λy=>if y=name then aa v else ae)) SF hC hn w3 hx hc (λR A' t' tk r=>?_) λh' vS p=>hq h' vS p.1 p.2.1 p.2.2.1 p.2.2.2;exact Ho SF hC hx hc (λA' Q E q=>Bs hC hn hna hB hx hO hc hdn MX λh' vS x1 x2 x3 x4=>q h' vS ⟨x1,x2,x3,x4⟩) r
 exact key _ rfl hx rfl rfl (by intro c q;exact bk q)
theorem HM (B:vx Z mg mb fB N mN fd)(hr:A.depth<fb){s:av}(keep:∀b o,Z.base.get? b=aa o->s.heap.get? b=aa o){e t:aK}(he:s.heap.get? e=aa (vZ Z.CB t ae (.ref t)))(OQ:Z.base.objs.size<=e){RR:sH->av->Prop}
  (q:∀h' tk d a,(∀b o,b≠e->s.heap.get? b=aa o->h'.get? b=aa o)->s.heap.objs.size<=h'.objs.size->h'.get? e=aa (vZ Z.CB t d a)->RR (.ok (.ret .none)) {s with heap:=h',toks:=tk}) :
  gZ (aA Z.prog Z.w) A (.call (.ref fB) ⟨[.ref e,w1,w2],[]⟩) RR s:=by
 refine dC B.obj λo ho hd=>?_;obtain⟨p1,p2,p3,p4,p5,p6,q1,q2,q3,q4,r1,r2,r3,r4,Cz,nH⟩:=B.body;have hb:bindArgs fd ⟨[.ref e,w1,w2],[]⟩=pure [(st "self",.ref e),(st "text",w1),(st "pc",w2)]:=by rw[u6 B.par.1 B.par.2.2 (by have:=congrArg List.length B.par.2.1;simpa using this),B.par.2.1];rfl
 have acD:∀x∈[(st "self",dP e),(st "text",w1),(st "pc",w2)],fd.scope.names.lookup x.1=aa .local:=by rw[B.names];intro x hx;simp only[aN,ba,or_false]at hx;rcases hx with rfl|rfl|rfl<;>(dsimp only;decide)
 refine codeAny_call_def hr (keep _ _ ho) hd (B.lim.keeps keep) (B.code.keeps keep) nH (BindsTo.of_eq hb) (by rw[B.names];decide) acD (λh₀ w3 hk=>?_) B.co B.gen B.kind;generalize hL:s.heap.objs.size=L at w3 ⊢;obtain⟨nm,qn,bs,sn,sub,ab,col,dd,k0,k1,k2,k3,k5,hC⟩:=B.cls;have elt:=bx he;have neL:e≠L:=λz=>by rw[z,<- hL]at elt;exact gX _ elt
 have kd:(fq fd L fB).scope.kind=.function:=B.kind;have ko:∀x,(fq fd L fB).kindOf x=fd.scope.names.lookup x:=λx=>rfl;have kE:(fq fd L fB).kindOf (st "Exception")=aa .globalImplicit:=by rw[ko,B.names];decide
 have kS:(fq fd L fB).kindOf (st "self")=aa .local:=by rw[ko,B.names];decide
 have kT:(fq fd L fB).kindOf (st "text")=aa .local:=by rw[ko,B.names];decide
 have kP:(fq fd L fB).kindOf (st "pc")=aa .local:=by rw[ko,B.names];decide
 have tG:∀b o,Z.base.get? b=aa o->h₀.get? b=aa o:=λb o z=>hk b o (keep b o z);have M0:=hk _ _ he;have ZW:=tG _ _ hC;have nC:Z.CB≠e:=λz=>absurd (bx hC) (bO.mpr (z▸OQ));have v1:(jj (st "self") [(st "self",dP e),(st "text",w1),(st "pc",w2)].reverse)=aa (.ref e):=by simp only[hK,vq,dU,eJ,cf];rfl
 have v2:(jj (st "text") [(st "self",dP e),(st "text",w1),(st "pc",w2)].reverse)=aa w1:=by simp only[hK,vq,dU,eJ,cf];rfl
 have v3:(jj (st "pc") [(st "self",dP e),(st "text",w1),(st "pc",w2)].reverse)=aa w2:=by simp only[hK,vq,dU,eJ,cf];rfl
 have ldn:∀ {x:Str} {v:ax} {pos:Pos} {ay:av} {A':mR} {Q:ax->av->Prop} {E:ax->av->Prop},ay.heap.Ns L (λx=>jj x [(st "self",dP e),(st "text",w1),(st "pc",w2)].reverse)->(fq fd L fB).kindOf x=aa .local->(jj x [(st "self",dP e),(st "text",w1),(st "pc",w2)].reverse)=aa v->(x==("__debug__" : Str))=ag->Q v ay ->
   aE (aA Z.prog Z.w) A' (eval (.Name x pos) (fq fd L fB)) Q E ay:=λhn hk' hv hdb q=>BN (rP kd hk' hn hv q) hdb
 refine gG ?_;rw[exec_Expr (fq fd L fB) _ p6 (by delta r9;rw[kd];rfl) (kz rfl)];refine aq (bR (aq ?_));refine bp (Q:=λv ay=>∃h1 tk,ay={s with heap:=h1,toks:=tk}/\(∀b o,b≠e->h₀.get? b=aa o->h1.get? b=aa o)/\h₀.objs.size<=h1.objs.size/\∃a,h1.get? e=aa (vZ Z.CB t ae a)) ?_ (λv ay hv=>?_) λU U x=>x
 .rw[arm_eval_Call,iA rfl];have gE:∀ {ay:av} {Q:ax->av->Prop} {E:ax->av->Prop},ay.heap=h₀->Q (.type "Exception") ay->aE (aA Z.prog Z.w) (A.deeper (fq fd L fB)) (eval (.Name (st "Exception") p1) (fq fd L fB)) Q E ay:=λhh qq =>
   lr kd kE (yA (by rw[show(fq fd L fB).globals=fd.globals from rfl,B.glo,hh];exact B.g.keeps tG) B.ex.1 (by rw[show(fq fd L fB).builtins=fd.builtins from rfl,B.blt,hh];exact B.b.keeps tG) B.ex.2 qq) (by decide)
  refine aq (gE rfl ?_);refine aq (bR ?_);have ZH:methodCallForm 2 (mL p5 (gJ [Ax (st "self") p3,Ax (st "text") p4] (fq fd L fB))) (backToKw p5 (keywordEach [] (fq fd L fB)))=af:=rfl;have vX:methodCallPos af (.Name (st "Exception") p1) (fq fd L fB) p2 p5=pure p5:=by delta methodCallPos;simp[Cz]
  delta methodCall;rw[show[Ax (st "self") p3,Ax (st "text") p4].length+([]:List Keyword).length=2 from rfl,ZH];refine aq (bC ?_);refine Br w3 ?_;refine aq (wpAny_of_eq vX ?_);refine m9 rfl (mz (P:=λU U=>True) (xs:=[.v 0,.v 0]) (.cons trivial rfl (.cons trivial rfl .nil)) ?_);refine eT (ldn w3 kS v1 (by decide) (eT (ldn w3 kT v2 (by decide) (hZ ?_)) rfl)) rfl;refine pO (codeAny_call_builtin iB.init.plain iB.initEntry (wpAny_check_init_sub iB ZW M0 rfl ?_));unfold Builtin.«BaseException.__init__»
  wp_walk
  have hp:(h₀.push {cls:=xi "tuple",data:=Data.seq #[w1]}).get? e=aa (vZ Z.CB t ae (.ref t)):=br _ M0;refine⟨_,_,rfl,λb o hb z=>(el _ _ (lF hb)).trans (br _ z),?_,_,dQ _ hp rfl⟩;rw[jC,iC];exact jn _
 .obtain⟨h1,tk,rfl,k1,z1,a1,e1⟩:=hv;refine rJ (c:=⟨Z,A.deeper (fq fd L fB),[],fq fd L fB,[],[],[],[],[],λU U U=>.bad⟩) ?_;have at1:∀b o,Z.base.get? b=aa o->h1.get? b=aa o:=λb o z=>k1 b o (λq=>absurd (bx z) (bO.mpr (q▸OQ))) (tG b o z);have ns1:h1.Ns L (λx=>jj x [(st "self",dP e),(st "text",w1),(st "pc",w2)].reverse):=let ⟨o,es,ep,ho,r⟩:=w3;⟨o,es,ep,k1 L o (lF neL) ho,r⟩
  refine gG (my (c:=⟨Z,A.deeper (fq fd L fB),[],fq fd L fB,[],[],[],[],[],λU U U=>.bad⟩) rfl (ldn ns1 kT v2 (by decide) ?_));rw[sF];refine aq (bC (ldn ns1 kS v1 (by decide) (aq (bR (aq (bC ?_))))));refine Bq (N:=N) (mN:=mN) (at1 _ _ hC) (B.ns.keeps at1) B.n2 B.n3 Hj e1 λh2 tk2 k2 z2 e2 d2=>kX ?_;have at2:∀b o,Z.base.get? b=aa o->h2.get? b=aa o:=λb o z=>k2 b o (λq=>absurd (bx z) (bO.mpr (q▸OQ))) (at1 b o z);have ns2:h2.Ns L (λx=>jj x [(st "self",dP e),(st "text",w1),(st "pc",w2)].reverse):=let ⟨o,es,ep,ho,r⟩:=ns1;⟨o,es,ep,k2 L o (lF neL) ho,r⟩
  refine gG (my (c:=⟨Z,A.deeper (fq fd L fB),[],fq fd L fB,[],[],[],[],[],λU U U=>.bad⟩) rfl (ldn ns2 kP v3 (by decide) ?_));rw[sF];refine aq (bC (ldn ns2 kS v1 (by decide) (aq (bR (aq (bC ?_))))));have acV:e<h1.objs.size:=bx e1;have I2:h2.Inst e Z.CB (λy=>if y=st "text" then aa w1 else ae):=⟨_,e2,rfl,(by intro c q;exact bk q),Or.inr ⟨h1.objs.size,rfl,CQ acV,d2⟩⟩;refine gP (store_attr l9 (at2 _ _ hC) (B.ns.keeps at2) B.n2 B.n4 O8 (lF nC) I2 (λh3 tk3 U k3 same z3=>kX (jr ?_)) (ns:=[st "text"]) (hw:=Within.cons (st "text") w1 Within.nil) (hsz:=by decide))
  .refine o14 (same _ e2) λo3 e3 c3 dd3 s3 U=>?_;obtain⟨oc,od,oda,osl⟩:=o3;dsimp only at c3 dd3 s3;subst c3 dd3 s3;refine q h3 tk3 od a1 (λb o hb z=>k3 b o hb (λadq dx z1' z2'=>?_) (k2 b o hb (k1 b o hb (hk b o z)))) ?_ e3
   .rw[e2]at z1';obtain rfl:=aj z1';obtain rfl:=aj z2';exact dh (bx (k1 b o hb (hk b o z)))
   .have z3:h2.objs.size<=h3.objs.size:=z3;have zs:s.heap.objs.size<=h₀.objs.size:=by rw[hL];exact dj w3.lt
    exact aQ zs (aQ z1 (aQ z2 z3))
end
section
variable {E:ax->av->Prop}
variable {q:Str}
theorem AX {s:av}{x:Sem ax}{Q:Flow->av->Prop}(hh:A.handled=ae)
  (h:aE M A x (λv ay=>∃e t d a,v=.ref e/\ay.heap.get? C=aa (fK nm q C N bs qz af sn sub ab col dd k0 k1 k2 k3 k5 "Exception.__new__") /\
   ay.heap.get? e=aa {cls:=.ref C,dict:=d,data:=.fields #[a,.none,.none,.none,.bool ag,.none],slots:=t}/\E (.ref e) ay) E s) :
  aE M A (raiseStmt env (aa x) ae) Q E s:=by
 have hcB:(dP C::qz).contains (.type "BaseException")=af:=by rw[List.contains_cons];rfl
 unfold raiseStmt;refine aq (bp h (λv ay h₁=>?_) λU U x=>x);(refine o43 h₁ λe t d a z1 hC he hE=>?_;try clear h₁;subst z1);obtain⟨hp,g,d,tk,os⟩:=ay
 repeat (first|with_reducible refine fg he ?_|with_reducible refine fg hC ?_|(with_reducible refine ti hC ?_;rw[hcB])|wp_step)
 exact wpAny_raiseNew_none hh hE
end
theorem Hp {G:List V}{Φ:Nat->List V->bo->R V}{W:Nat}{a b:X}  : ex G Φ W (.raise a b) vs σ=((ev G Φ vs a [] σ).bind λx σ=>(ev G Φ vs b [] σ).bind λy σ=>R.ok (x,y) σ).bind λU σ=>.exc σ:=by refine(?_:(ev G Φ vs a [] σ).bind _=_);rw[R.bind_assoc];congr 1;funext v cD;refine(?_:(ev G Φ vs b [] cD).bind _=_);rw[R.bind_assoc]
section
variable {c:Cx}{W:Nat}
theorem HN (D:Ok c mg mb)(B:vx c.Z mg mb fB N mN fd)(hd:c.A.depth+2<fb){s:av}(t:St (c.wv vs) ρ σ s.heap){E:ax->av->Prop}{qn:Str}
  (hC:c.Z.base.get? c.Z.CB=aa (fK nm qn c.Z.CB N bs qz af sn sub ab col dd k0 k1 k2 k3 k5 "Exception.__new__"))
  (k:∀e bJ s',Go (iH c) ρ s bJ s'->Rel c.Z bJ c.X σ s'.heap->Aw c.Z s.heap e s'.heap->da c.X s'.heap c.l->E (.ref e) s') :
  aE (aA c.Z.prog c.Z.w) c.A (call (.ref c.Z.CB) [w1,w2]) (λv ay=>∃e t d a,v=.ref e/\ay.heap.get? c.Z.CB=aa (fK nm qn c.Z.CB N bs qz af sn sub ab col dd k0 k1 k2 k3 k5 "Exception.__new__") /\
   ay.heap.get? e=aa {cls:=.ref c.Z.CB,dict:=d,data:=.fields #[a,.none,.none,.none,.bool ag,.none],slots:=t}/\E (.ref e) ay) E s:=by
 obtain⟨h,g,d,tk,os⟩:=s;have R:=t.rel;have x1:=(Ext.push (h:=h) {cls:=.type "tuple",data:=.seq [w1,w2].toArray}).trans (Ext.push {cls:=.ref c.Z.CB,data:=.fields #[.ref h.objs.size,.none,.none,.none,.bool ag,.none]});refine HL (fB:=fB) (B.Qj.keeps R.keep) (R.keep _ _ hC) (B.ns.keeps R.keep) B.n1 B.ty (by rw[jI];show 2<=_;decide) ?_;refine HM B (A:=c.A.under (.builtin "type.__call__" ⟨.ref c.Z.CB::[w1,w2],[]⟩)) (by show c.A.depth+1<fb;exact ace hd) (λb o e=>x1.2 _ _ (R.keep b o e)) (t:=h.objs.size) (by show Heap.get? ((h.push _).push _) (h.objs.size+1)=_;heap_get) (eu R.bsize) λh' vS d' a' p1 p2 p3=>?_;have x2:Ext h h':=⟨aQ x1.1 p2,λb o e=>p1 b o (dh (tK (bx e))) (x1.2 b o e)⟩;refine⟨rfl,h.objs.size+1,_,d',a',rfl,x2.2 _ _ (R.keep _ _ hC),p3,?_⟩;refine k _ ρ _ ⟨x2.grow,h',vS,rfl⟩ (R.ext x2) ⟨jn _,_,_,p3,rfl,rfl,.inl rfl⟩ (t.oq.grow (F:=[]) R x2.grow λU U U U q=>nomatch q)
theorem E5 (D:Ok c mg mb)(B:vx c.Z mg mb fB N mN fd)(hd:c.A.depth+2<fb)(hN:bW c){a b:X}{eb:bY}(hk:c.env.kindOf (st "BadCode")=aa .globalImplicit)(ha:∀vs,SX (c.wv vs) a ea)(hb:∀vs,SX (c.wv vs) b eb)(hs:noStar ea=af)(sS:noStar eb=af) :
  SS c W (.raise a b) (.Raise (aa (.Call (.Name (st "BadCode") np) [ea,eb] [] DP)) ae pos):=λvs ρ σ s t=>by
 rw[Hp];obtain⟨nm,qn,bs,sn,sub,ab,col,dd,k0,k1,k2,k3,k5,hC⟩:=B.cls;have h:∀vs,e9 (SX (c.wv vs)) [a,b] [ea,eb]:=λvs=>.cons (ha vs) hs (.cons (hb vs) sS .nil);have run:=B6 (ha vs) (hb vs) hs sS DP t;rw[show(c.wv vs).cs=[]from hN.cs]at run;refine cH.w (cH.ri (W2:=λws ay Q E=>ay.heap.get? c.Z.CB=aa (fK nm qn c.Z.CB N bs qz af sn sub ab col dd k0 k1 k2 k3 k5 "Exception.__new__")/\aE (aA c.Z.prog c.Z.w) c.A (call (.ref c.Z.CB) ws) (λv ay=>∃e t d a,v=.ref e/\ay.heap.get? c.Z.CB=aa (fK nm qn c.Z.CB N bs qz af sn sub ab col dd k0 k1 k2 k3 k5 "Exception.__new__") /\
   ay.heap.get? e=aa {cls:=.ref c.Z.CB,dict:=d,data:=.fields #[a,.none,.none,.none,.bool ag,.none],slots:=t}/\E (.ref e) ay) E ay) t run λxs bj ws aH ay eV bZ bT=>?_) λQ E q=>?_
 ·(refine mI bT λw1 w2 z1 U U=>?_;try clear bT;subst z1);exact λQ E k=>⟨eV.rel.keep _ _ hC,HN D B hd eV hC k⟩
 .rw[arm_exec_Raise];refine aq (bR (AX (C:=c.Z.CB) (nm:=nm) (q:=qn) (N:=N) (bs:=bs) (sn:=sn) (sub:=sub) (ab:=ab) (col:=col) (dd:=dd) (k0:=k0) (k1:=k1) (k2:=k2) (k3:=k3) (k5:=k5) D.hh (aq (bp (jX (lP (c:=c.wv vs) D.zV t hk (by decide) D.zV.bc ?_)) (λv fV i4=>aq (bR (aW i4))) λU U x=>x))));refine aq (bC (mz (h vs) (bp q (λws bH fk=>aq (bR ?_)) λU U x=>x)));obtain⟨hp,g,d,tk,os⟩:=bH;obtain⟨ZV,fk⟩:=fk;rw[show(List.any (mL DP (gJ [ea,eb] c.env)) λx=>x.1)=ag from jv (h vs)];refine aq (wpAny_keeperOf_exc ZV ?_);refine aq (bp fk (λv fV i4=>?_) λU U x=>x);(refine o41 i4 λe t' d' a' z1 r=>?_;try clear i4;subst z1);refine aq (bC (wpAny_point (aW ?_)));exact⟨e,t',d',a',rfl,r⟩
end
noncomputable def Nx (vs:Vs)(v:V)(r:R V):RS:=match r with
 |.ok _ σ=>.ok (.nx,vs) σ
 |.exc σ=>.ok (.rt v,vs) σ
 |.bad=>.bad
theorem O9 {G:List V}{Φ:Nat->List V->bo->R V}{W f i:Nat}{v:V}  : ex G Φ W (.vR f [.v i] v) vs σ=Nx vs v (ev G Φ vs (.call f [.v i]) [] σ):=by
 refine(?_:R.bind (R.bind (ev G Φ vs (.v i) [] σ) _) _=Nx vs v (R.bind (R.bind (ev G Φ vs (.v i) [] σ) _) _));rcases d0 G Φ vs (.v i) [] σ rfl with e|⟨x,e⟩
 .rw[e];rfl
 .rw[e];refine(?_:(match Φ f [x] σ with|.ok _ σ=>R.ok (Fl.nx,vs) σ|.exc σ=>R.ok (Fl.rt v,vs) σ|.bad=>R.bad)=Nx vs v (Φ f [x] σ));cases Φ f [x] σ<;>rfl
section
variable {c:Cx}{W:Nat}
theorem NW (D:Ok c mg mb)(B:vx c.Z mg mb fB N mN fd)(hN:bW c){f i:Nat}{k:Nat}{p1 p2 p3 p4:Pos}{b:Bool}(hk:c.env.kindOf (st "BadCode")=aa .globalImplicit)(h:yi c (.call f [.v i]) e)(hn:kb e=af) :
  SS c W (.vR f [.v i] (.bool b)) (.Try [.Expr e p1] [.ExceptHandler (aa (.Name (st "BadCode") np)) ae [.Return (aa (.Constant (.bool b) k p2)) p3] p4] [] [] pos):=λvs ρ σ s t=>by
 rw[O9];have hr:=h vs ρ s σ t;have hi:r9 c.env=ag:=by unfold r9;rw[show c.env.scope.kind=.function from t.fr.kind];rfl
 generalize hg:ev G c.Φ vs (.call f [.v i]) [] σ=r at hr;obtain⟨outer,Zp⟩:=hN.top;induction r with
 |bad=>trivial
 |ok v cD =>refine λQ E q=>wpAny_Try_except (gG ?_);rw[exec_Expr c.env e p1 hi (kz hn)];exact aq (bR (aq (hr _ _ λw bJ s' g R' r'=>rJ (jr (jr (q _ bJ s' g.any R' (TS.nx (t.go g R'))))))))
 |exc cD =>refine λQ E q=>wpAny_Try_except (gG ?_);rw[exec_Expr c.env e p1 hi (kz hn)];refine aq (bR (aq (hr _ _ λx bJ s' g R' y=>?_)));have t':=t.go g R';have Z8:da c.X s'.heap (c.env::outer):=Zp▸t'.oq;obtain⟨nm,qn,bs,sn,sub,ab,col,dd,k0,k1,k2,k3,k5,hC⟩:=B.cls;refine om (by rw[<- Zp];exact D.fr) hN.frame Z8 (da.fun R' Z8) y λh1 c1 y1=>?_;refine jL (Z:=c.Z) (X:=c.X) (h₀:=s.heap) (s:={s' with heap:=h1}) y1 λh2 c2 y2=>?_;have g2:=g.chg (c1.trans c2);have R2:=R'.chg (aQ (aO _) t.rel.bsize) (c1.trans c2);have t2:=t.go g2 R2;refine wpAny_handleBy_cons (codeAny_handlers_test ?_) (by intro q;exact PySem.Value.noConfusion q);refine lP (c:={c.wv vs with A:=c.A.mark (aa (.ref x))}) D.zV ⟨t2.rel,t2.fr,t2.oq⟩ hk (by decide) D.zV.bc ?_;obtain⟨_,oe,k6,he,hc,_⟩:=id y2;refine wpAny_excMatches_sub_self (R2.keep _ _ hC) he hc (by rw[List.contains_cons];rfl) (codeAny_handlers_suite ?_);refine jL (Z:=c.Z) (X:=c.X) (h₀:=s.heap) (s:={s' with heap:=h2}) y2 λh3 c3 y3=>?_;have g3:=g2.chg c3;have R3:=R2.chg t.rel.bsize c3;have t3:=t.go g3 R3;refine gG (wpAny_Return_some (wpAny_Constant_bool ?_));exact q _ bJ _ g3.any R3 (TS.rt t3 t8)
end
def n7 (P:cG->Prop):Prop:=∀p,P p->∃a t q,p=(.int a t,q)
def d8 (P:cG->Prop)(xs:Array cG):Prop:=∀p∈xs,P p
structure WB (P:cG->Prop)(n:Nat)(st:cQ):Prop where
 kind:cw st=mG
 size:(sD st).size=n
 all:d8 P (sD st)
 failed:w5 st=ae
noncomputable def Z7:Bool->cG->Array cG->Nat->Nat->Nat->StateT cQ Sem (Option Nat):=sortPriv% PySem.Builtin.gallop
noncomputable def Y8:Array cG->Array cG->StateT cQ Sem (Array cG):=sortPriv% PySem.Builtin.mergeLo
noncomputable def Y9:Array cG->Array cG->StateT cQ Sem (Array cG):=sortPriv% PySem.Builtin.mergeHi
section
variable {w:c0}{E:ax->av->Prop}{s:av}{n:Nat}
theorem aay {xs:Array cG}(h:d8 P xs){i:Nat}{p:cG}(e:xs[i]?=aa p):P p:=h p (Array.mem_of_getElem? e)
theorem d9 {xs:Array cG}{i:Nat}{Q:cG->cQ->Prop}{st:cQ}(h:d8 P xs)(hi:i<xs.size)(q:∀p,P p->Q p st):wpS (aA prog w) A E s (elem' xs i) Q st:=by rw[elem'_eq,getElem?_pos xs i hi];exact bh (q _ (h _ (by simp)))
theorem pY (hP:n7 P){st:cQ}(hk:cw st=mG){x y:cG}(hx:P x)(hy:P y){Q:Option Bool->cQ->Prop}(q:∀b,Q (aa b) st):wpS (aA prog w) A E s (lt' x y) Q st:=by(refine o30 (hP _ hx) λa t p z1=>?_;subst z1);(refine o30 (hP _ hy) λb u r z1=>?_;subst z1);rw[lt'_eq];refine aM (kW ?_);rw[hk,keyLt'_oneType];refine aM (rN (wpAny_attempt (oneLt_int ⟨rfl,?_⟩)));exact bh (q _)
theorem km (hP:n7 P){st:cQ}(W:WB P n st){i j:Nat}(hi:i<n)(hj:j<n){Q:Option Bool->cQ->Prop}(q:∀b,Q (aa b) st):wpS (aA prog w) A E s (ltAt' i j) Q st:=by rw[ltAt'_eq];refine aM (kW ?_);refine aM (d9 W.all (W.size▸hi) λx hx=>aM (d9 W.all (W.size▸hj) λy hy=>pY hP W.kind hx hy q))
theorem WB.perm {st:cQ}(W:WB P n st){xs:Array cG}(h:xs.Perm (sD st)):WB P n (setArr st xs) :=
 ⟨W.kind,h.size_eq.trans W.size,λp hp=>W.all p (by have:=(Array.perm_iff_toList_perm.mp h).mem_iff (a:=p);simpa using this.mp (by simpa using hp)),W.failed⟩
theorem pX {st:cQ}(W:WB P n st){i j:Nat}{Q:Unit->cQ->Prop}(q:∀bQ,WB P n bQ->aY bQ=aY st->Q () bQ):wpS (aA prog w) A E s (reverseSlice' i j) Q st:=by rw[reverseSlice'_eq];exact gj (q _ (W.perm (mirror_perm _ _ _ _)) rfl)
theorem C5 {st:cQ}(W:WB P n st){i j:Nat}{Q:Unit->cQ->Prop}(q:∀bQ,WB P n bQ->aY bQ=aY st->Q () bQ):wpS (aA prog w) A E s (moveDown' i j) Q st:=by rw[moveDown'_eq];exact gj (q _ (W.perm (bubble_perm _ _ _)) rfl)
theorem Eu (hP:n7 P){st:cQ}(W:WB P n st){m ok:Nat}(h:lo+m<=n){Q:Bool->cQ->Prop}(q:∀bQ,WB P n bQ->aY bQ=aY st->Q af bQ):wpS (aA prog w) A E s (binarySort' lo m ok) Q st:=by
 rw[binarySort'_eq];refine aM (ef (cO (I:=λk c bQ=>c=(ae,())/\WB P n bQ/\aY bQ=aY st)
  (Q:=λc bQ=>c=(ae,())/\WB P n bQ/\aY bQ=aY st) ?step (λU U h=>h) ⟨rfl,W,rfl⟩) ?post)
 case post =>
  rintro c bQ ⟨rfl,W',e⟩;exact bh (q bQ W' e)
 case step =>
  rintro k c bQ hk hkm ⟨rfl,W',e⟩;refine aM (ef (cO (I:=λU c iF=>iF=bQ/\∃l r,c=(ae,l,r)/\r<=k/\l<=k)
   (Q:=λc iF=>iF=bQ/\∃l r,c=(ae,l,r)/\r<=k/\l<=k) ?istep (λU U h=>h) ⟨rfl,0,k,rfl,aO _,bL _⟩) ?ipost)
  case istep =>
   rintro y c iF _ _ ⟨rfl,l,r,rfl,hr,hl⟩;dsimp only
   split
   .exact bh ⟨rfl,l,r,rfl,hr,hl⟩
   .rename_i hlr
    refine aM (km hP W' (Lw h hkm) (Tj h hkm hr hlr) λb=>?_);induction b
    .exact bh ⟨rfl,_,_,rfl,hr,by exact Th hr hlr⟩
    .exact bh ⟨rfl,_,_,rfl,by exact Tf hr hlr,hl⟩
  case ipost =>
   rintro c iF ⟨rfl,l,r,rfl,hr,hl⟩;exact aM (C5 W' λiW ac9 acS=>bh ⟨rfl,ac9,acS.trans e⟩)
end
section
variable {w:c0}{E:ax->av->Prop}{s:av}
theorem tS (hP:n7 P){st:cQ}(hk:cw st=mG){n:Nat}(hx:P key)(ha:d8 P arr)(hh:hint<n)(hn:base+n<=arr.size)
  {Q:Option Nat->cQ->Prop}(q:∀k,k<=n->Q (aa k) st):wpS (aA prog w) A E s (Z7 left key arr base n hint) Q st:=by
 have bey:∀i,i<n->∀(Q:Option Bool->cQ->Prop),(∀b,Q (aa b) st)->wpS (aA prog w) A E s (bind (elem' arr (base+i)) λx=>if left=af then lt' x key else bind (lt' key x) λr=>pure (r.map (!·))) Q st:=by
  intro i hi Q q;refine aM (d9 ha (Lw hn hi) λx H6=>?_)
  split
  .exact pY hP hk H6 hx q
  .exact aM (pY hP hk hx H6 λb=>bh (q _))
 unfold Z7;refine aM (bey hint hh _ λright=>?_);dsimp only
 split
 .refine aM (ef (cO (I:=λU c bQ=>bQ=st/\c.1=ae) (Q:=λc bQ=>bQ=st/\c.1=ae) ?s1 (λU U h=>h) ⟨rfl,rfl⟩) ?p1);case s1 =>
   rintro y ⟨r,c1,c2⟩ iF _ _ ⟨rfl,hr⟩;dsimp only at hr ⊢;subst hr
   split
   .exact bh ⟨rfl,rfl⟩
   .rename_i mX
    refine aM (bey _ (S6 hh mX) _ λmore=>?_);induction more<;>exact bh ⟨rfl,rfl⟩
  case p1 =>
   rintro⟨r,c1,c2⟩ iF ⟨rfl,hr⟩;dsimp only at hr ⊢;subst hr;dsimp only;refine aM (ef (cO (I:=λU c bQ=>bQ=iF/\c.1=ae/\c.2.2<=n) (Q:=λc bQ=>bQ=iF/\c.1=ae/\c.2.2<=n) ?s3 (λU U h=>h) ⟨rfl,rfl,by dsimp only;exact S3 hh⟩) ?p3);case s3 =>
    rintro y ⟨r,c1,c2⟩ iF _ _ ⟨rfl,hr,h2⟩;dsimp only at hr h2 ⊢;subst hr
    split
    .exact bh ⟨rfl,rfl,h2⟩
    .rename_i mX
     refine aM (bey _ (Lv h2 mX) _ λmore=>?_);induction more
     .exact bh ⟨rfl,rfl,by dsimp only;exact Lu h2 mX⟩
     .exact bh ⟨rfl,rfl,by dsimp only;exact h2⟩
   case p3 =>
    rintro⟨r,c1,c2⟩ iF ⟨rfl,hr,h2⟩;dsimp only at hr h2 ⊢;subst hr;exact bh (q _ (by exact h2))
 .refine aM (ef (cO (I:=λU c bQ=>bQ=st/\c.1=ae) (Q:=λc bQ=>bQ=st/\c.1=ae) ?s2 (λU U h=>h) ⟨rfl,rfl⟩) ?p2);case s2 =>
   rintro y ⟨r,c1,c2⟩ iF _ _ ⟨rfl,hr⟩;dsimp only at hr ⊢;subst hr
   split
   .exact bh ⟨rfl,rfl⟩
   .rename_i mX
    refine aM (bey _ (SU hh) _ λmore=>?_);induction more<;>exact bh ⟨rfl,rfl⟩
  case p2 =>
   rintro⟨r,c1,c2⟩ iF ⟨rfl,hr⟩;dsimp only at hr ⊢;subst hr;refine aM (ef (cO (I:=λU c bQ=>bQ=iF/\c.1=ae/\c.2.2<=n) (Q:=λc bQ=>bQ=iF/\c.1=ae/\c.2.2<=n) ?s4 (λU U h=>h) ⟨rfl,rfl,by dsimp only;exact SR hh⟩) ?p4);case s4 =>
    rintro y ⟨r,c1,c2⟩ iF _ _ ⟨rfl,hr,h2⟩;dsimp only at hr h2 ⊢;subst hr
    split
    .exact bh ⟨rfl,rfl,h2⟩
    .rename_i mX
     refine aM (bey _ (Lv h2 mX) _ λmore=>?_);induction more
     .exact bh ⟨rfl,rfl,by dsimp only;exact Lu h2 mX⟩
     .exact bh ⟨rfl,rfl,by dsimp only;exact h2⟩
   case p4 =>
    rintro⟨r,c1,c2⟩ iF ⟨rfl,hr,h2⟩;dsimp only at hr h2 ⊢;subst hr;exact bh (q _ (by exact h2))
end
def dJ (st bQ:cQ):Prop:=cw bQ=cw st/\sD bQ=sD st/\aY bQ=aY st/\w5 bQ=w5 st
theorem dJ.refl {st:cQ}:dJ st st:=⟨rfl,rfl,rfl,rfl⟩
theorem dJ.trans {a b c:cQ}(x:dJ a b)(y:dJ b c):dJ a c:=⟨y.1.trans x.1,y.2.1.trans x.2.1,y.2.2.1.trans x.2.2.1,y.2.2.2.trans x.2.2.2⟩
theorem dJ.kd {st bQ:cQ}(h:dJ st bQ)(hk:cw st=mG):cw bQ=mG:=h.1.trans hk
section
theorem d8.app {a b:Array cG}(x:d8 P a)(y:d8 P b):d8 P (a++b):=λp hp=>(Array.mem_append.mp hp).elim (x p) (y p)
theorem d8.push {a:Array cG}{p:cG}(x:d8 P a)(y:P p):d8 P (a.push p):=λq hq=>(Array.mem_push.mp hq).elim (x q) λe=>e▸y
theorem d8.ext {a:Array cG}{i j:Nat}(x:d8 P a):d8 P (a.extract i j):=λp hp=>by obtain⟨k,hk,e⟩:=Array.mem_extract_iff_getElem.mp hp;exact x p (by rw[<- e];simp)
theorem d8.rev {a:Array cG}(x:d8 P a):d8 P a.reverse:=λp hp=>x p (by simpa using hp)
theorem d8.one {p:cG}(y:P p):d8 P #[p]:=λq hq=>by
 have:q=p:=by simpa using hq
 exact this▸y
end
section
variable {w:c0}{E:ax->av->Prop}{s:av}
theorem dy {α σ:Type}{c:Prop}[Decidable c]{x y:StateT σ Sem α}{Q:α->σ->Prop}{st:σ}(h:c->wpS M A E s x Q st)(k:¬c->wpS M A E s y Q st):wpS M A E s (if c then x else y) Q st:=by
 by_cases e:c
 .rw[if_pos e];exact h e
 .rw[if_neg e];exact k e
theorem dM {α σ:Type}{i j:Nat}{x y:StateT σ Sem α}{Q:α->σ->Prop}{st:σ}(h:i=j->wpS M A E s x Q st)(k:i≠j->wpS M A E s y Q st):wpS M A E s (if(i==j)=af then x else y) Q st :=
 dy (λe=>h (by simpa using e)) λe=>k (by simpa using e)
structure Fy (P:cG->Prop)(A B x:Nat)(r:Option (Array cG))(out:Array cG)(ia ib:Nat):Prop where
 r:r=.none
 o:d8 P out
 a:ia+1<A
 b:ib<B
 e:x<=ia+ib
def Fw (P:cG->Prop)(A B x:Nat)(r:Option (Array cG))(out:Array cG)(ia ib:Nat):Prop:=(∀o,r=aa o->d8 P o)/\(r=ae->Fy P A B x r out ia ib)
theorem Fw.some {A x ib:Nat}{o:Array cG}(h:d8 P o):Fw P A B x (aa o) out ia ib:=⟨λU e=>aj e▸h,λe=>nomatch e⟩
theorem Fy.wk {A x ib:Nat}{r:Option (Array cG)}(h:Fy P A B x r out ia ib)(k:x'<=x):Fw P A B x' r out ia ib :=
 ⟨λU e=>(nomatch (h.r.symm.trans e)),λU=>⟨h.r,h.o,h.a,h.b,aQ k h.e⟩⟩
theorem p5 {α β:Type}{P:α×β×γ×δ×ε->Prop}(h:∀a b c d e,P (a,b,c,d,e))(x):P x:=h _ _ _ _ _
theorem p6 {α β:Type}{P:α×β×γ×δ×ε×ζ->Prop}(h:∀a b c d e f,P (a,b,c,d,e,f))(x):P x:=h _ _ _ _ _ _
theorem p7 {α β η:Type}{P:α×β×γ×δ×ε×ζ×η->Prop}(h:∀a b c d e f g,P (a,b,c,d,e,f,g))(x):P x:=h _ _ _ _ _ _ _
theorem iS {xs:Array cG}{i:Nat}{Q:cG->cQ->Prop}{st:cQ}(h:d8 P xs)(hi:i<xs.size)(q:∀p,P p->Q p st):wpS (aA prog w) A E s ((sortPriv% PySem.Builtin.elem) xs i) Q st:=d9 h hi q
theorem pZ (hP:n7 P){st:cQ}(hk:cw st=mG){n:Nat}(hx:P key)(ha:d8 P arr)(hh:hint<n)(hn:base+n<=arr.size)
  {Q:Option Nat->cQ->Prop}(q:∀k,k<=n->Q (aa k) st):wpS (aA prog w) A E s ((sortPriv% PySem.Builtin.gallop) left key arr base n hint) Q st:=tS hP hk hx ha hh hn q
theorem yG {g:Nat}{Lc st:cQ}(hs:dJ Lc st){Q:PUnit->cQ->Prop}(q:∀bQ,dJ Lc bQ->Q ⟨⟩ bQ):wpS (aA prog w) A E s ((sortPriv% PySem.Builtin.setMinGallop) g) Q st :=
 gj (q _ (hs.trans ⟨rfl,rfl,rfl,rfl⟩))
theorem Er (hP:n7 P){st:cQ}(hk:cw st=mG){a b:Array cG}(ha:d8 P a)(hb:d8 P b)(h1:1<=a.size)(h2:1<=b.size)
  {Q:Array cG->cQ->Prop}(q:∀out bQ,d8 P out->dJ st bQ->Q out bQ):wpS (aA prog w) A E s (Y8 a b) Q st:=by
 unfold Y8;refine aM (rN (kQ ⟨rfl,?_⟩));refine aM (d9 hb h2 λp0 OO=>?_);have dn:∀ {out:Array cG} {ia ib:Nat},d8 P out->d8 P (out++a.extract ia a.size++b.extract ib b.size):=λx=>(x.app ha.ext).app hb.ext;have la:∀ {out:Array cG} {ia ib:Nat},d8 P out->d8 P (out++b.extract ib b.size++a.extract ia a.size):=λx=>(x.app hb.ext).app ha.ext;refine dM (λU=>bh (q _ _ (dn (d8.one OO)) .refl)) λe1=>?_;refine dM (λU=>bh (q _ _ (la (d8.one OO)) .refl)) λe2=>?_;refine aM (kW ?_);refine aM (ef (cO (I:=λx c bQ=>dJ st bQ/\Fy P a.size b.size (1+x) c.1 c.2.1 c.2.2.1 c.2.2.2.1) (Q:=λc bQ=>dJ st bQ/\∃o,c.1=aa o/\d8 P o) ?ls ?lf ⟨.refl,rfl,d8.one OO,(by dsimp only;exact SK h1 e2),(by dsimp only;exact SI h2 e1),(by dsimp only;exact SG)⟩) ?lp);case lf =>
  intro c bQ ⟨hs,g⟩;have:=g.a;have:=g.b;have:=g.e;clear dn la ha hb g;exact SD (by assumption) (by assumption) this
 case lp =>
  refine p5 λr out ia ib mg bQ h=>?_;obtain⟨hs,o,e,ho⟩:=h;dsimp only at e ⊢;subst e;exact bh (q _ _ ho hs)
 case ls =>
  intro x c bQ _ hxt h;extract_lets s1 out s2 ia s3 ib mg ac bc;have hs:dJ st bQ:=h.1;have g:Fy P a.size b.size (1+x) ae out ia ib:=⟨rfl,h.2.2,h.2.3,h.2.4,h.2.5⟩;clear h;clear_value bc ac mg ib s3 ia s2 out s1;refine aM (ef (cO (I:=λy c bQ=>dJ st bQ/\Fy P a.size b.size (1+x) c.1 c.2.1 c.2.2.1 c.2.2.2.1) (Q:=λc bQ=>dJ st bQ/\Fw P a.size b.size (1+x) c.1 c.2.1 c.2.2.1 c.2.2.2.1) ?is ?if' ⟨hs,g⟩) ?ip);case if'=>exact λc bQ h=>⟨h.1,h.2.wk (aO _)⟩
  case is =>
   intro y c bQ _ _ h;extract_lets s1 xS s2 Zn s3 Zl s4 ac1 Pt;have hs:dJ st bQ:=h.1;have f1:d8 P xS:=h.2.o;have f2:Zn+1<a.size:=h.2.a;have f3:Zl<b.size:=h.2.b;have f4:1+x<=Zn+Zl:=h.2.e;clear h;clear_value Pt ac1 s4 Zl s3 Zn s2 xS s1;refine aM (d9 hb f3 λp1 hp1=>aM (d9 ha (zp f2) λp2 GQ=>aM (pY hP (hs.1.trans hk) hp1 GQ λbw=>?_)));refine dy (λU=>aM (d9 hb f3 λp3 wZ=>?_)) λU=>aM (d9 ha (zp f2) λp3 wZ=>?_)
   .refine dM (λU=>bh ⟨hs,Fw.some (dn (f1.push wZ))⟩) λe=>?_;have k:Fy P a.size b.size (1+x) ae (xS.push p3) Zn (Zl+1):=⟨rfl,f1.push wZ,f2,by lia,by exact Sp f4⟩;exact dy (λU=>bh ⟨hs,k.wk (aO _)⟩) λU=>bh ⟨hs,k⟩
   .refine dM (λU=>bh ⟨hs,Fw.some (la (f1.push wZ))⟩) λe=>?_;have k:Fy P a.size b.size (1+x) ae (xS.push p3) (Zn+1) Zl:=⟨rfl,f1.push wZ,by lia,f3,by exact Sm f4⟩;exact dy (λU=>bh ⟨hs,k.wk (aO _)⟩) λU=>bh ⟨hs,k⟩
  case ip =>
   clear g hs;refine p6 λr out ia ib ac bc bQ h=>?_;have hs:dJ st bQ:=h.1;have g:=h.2;clear h;dsimp only at g;induction r with
   |some o=>exact bh ⟨hs,o,rfl,g.1 o rfl⟩
   |none =>
    have g:=g.2 rfl;refine aM (rN (kQ ⟨rfl,?_⟩));refine aM (ef (cO (I:=λy c bQ=>dJ st bQ/\Fy P a.size b.size (1+x+y) c.1 c.2.1 c.2.2.1 c.2.2.2.1) (Q:=λc bQ=>dJ st bQ/\Fw P a.size b.size (2+x) c.1 c.2.1 c.2.2.1 c.2.2.2.1) ?js ?jf ⟨hs,g⟩) ?jp);case jf =>
     exact λc bQ h=>⟨h.1,h.2.wk (Sj h1 e2)⟩
    case jp =>
     clear g hs;refine p7 λr out ia ib mg ac bc bQ h=>?_;have hs:dJ st bQ:=h.1;have g:=h.2;clear h;dsimp only at g;induction r with
     |some o=>exact bh ⟨hs,o,rfl,g.1 o rfl⟩
     |none =>have k:=g.2 rfl;exact aM (gj (bh ⟨hs.trans ⟨rfl,rfl,rfl,rfl⟩,k.r,k.o,k.a,k.b,aQ Sg k.e⟩))
    case js =>
     clear g hs;intro y c bQ _ _ h;refine(λH=>H _ (λr na nb out mg ac bc bQ h k=>⟨h,k⟩) (λna nb out mg ac bc bQ h k=>⟨h,k⟩):(∀Qp:ForInStep (Option (Array cG)×Array cG×Nat×Nat×Nat×Nat×Nat)->cQ->Prop,(∀r out ia ib mg ac bc bQ,dJ st bQ->Fw P a.size b.size (2+x) r out ia ib->Qp (.done (r,out,ia,ib,mg,ac,bc)) bQ)->(∀out ia ib mg ac bc bQ,dJ st bQ->Fy P a.size b.size (1+x+(y+1)) ae out ia ib->Qp (.yield (ae,out,ia,ib,mg,ac,bc)) bQ)->wpS (aA prog w) A E s _ Qp bQ)->_) ?_;intro Qp hd hy;extract_lets s1 out s2 ia s3 ib s4 mg s5 ac bc n1 J m1;have hs:dJ st bQ:=h.1;have g1:d8 P out:=h.2.o;have g2:ia+1<a.size:=h.2.a;have g3:ib<b.size:=h.2.b;have g4:1+x+y<=ia+ib:=h.2.e;have g7:n1=ib+1:=rfl;have HJ:∀m bQ,dJ st bQ->wpS (aA prog w) A E s (J () m) Qp bQ:=by
      clear h hs;clear_value n1 bc ac s5 mg s4 ib s3 ia s2 out s1;intro m bQ hs;refine aM (yG hs λbQ hs=>?_);refine aM (iS hb g3 λp hp=>?_);refine aM (pZ hP (dJ.kd hs hk) hp ha (R4 g2) (RW g2) λk Qt=>?_);dsimp -zeta only;extract_lets ac1 J2;have KY:∀out Zo,d8 P out->ia<=Zo->Zo+1<a.size->wpS (aA prog w) A E s (J2 () out Zo) Qp bQ:=by
       intro out Zo h1 h2 h3;refine aM (iS hb g3 λp hp=>?_);refine dM (λU=>bh (hd _ _ _ _ _ _ _ _ hs (Fw.some (dn (h1.push hp))))) λe=>?_;refine aM (iS ha (zp h3) λp' CA=>?_);refine aM (pZ hP (dJ.kd hs hk) CA hb (RM g3 g7 e) (RL g3 g7 e) λk2 MY=>?_);dsimp -zeta only;extract_lets Pt n2 J3;have g8:n2=Zo+1:=rfl;have HJ3:∀out Zm,d8 P out->n1<=Zm->Zm<b.size->wpS (aA prog w) A E s (J3 () out Zm) Qp bQ:=by clear_value n2 Pt;intro out Zm h4 h5 h6;refine aM (iS ha (zp h3) λp3 wZ=>?_);refine dM (λU=>bh (hd _ _ _ _ _ _ _ _ hs (Fw.some (la (h4.push wZ))))) λe2=>?_;have k:Fy P a.size b.size (1+x+(y+1)) ae (out.push p3) n2 Zm:=⟨rfl,h4.push wZ,by exact RH h3 g8 e2,h6,by exact RF g4 g7 h2 g8 h5⟩;exact dy (λU=>bh (hd _ _ _ _ _ _ _ _ hs (k.wk RE))) λU=>bh (hy _ _ _ _ _ _ _ hs k)
       clear_value J3;have h7:=(h1.push hp).app (hb.ext (i:=n1) (j:=n1+k2));exact dy (λU=>dM (λU=>bh (hd _ _ _ _ _ _ _ _ hs (Fw.some (dn h7)))) λe3=>HJ3 _ _ h7 (by lia) (by lia)) λU=>HJ3 _ _ (h1.push hp) (aO _) (Rx g3 g7 e)
      clear_value J2;have h7:=g1.app (ha.ext (i:=ia) (j:=ia+k));exact dy (λU=>dM (λU=>bh (hd _ _ _ _ _ _ _ _ hs (Fw.some (la h7)))) λe=>dM (λU=>bh (hd _ _ _ _ _ _ _ _ hs (Fw.some (dn h7)))) λe=>KY _ _ h7 (by lia) (by lia)) λU=>KY _ _ g1 (aO _) g2
     clear_value J;exact dy (λU=>HJ _ _ hs) λU=>HJ _ _ hs
end
section
variable {w:c0}{E:ax->av->Prop}{s:av}
structure Gy (P:cG->Prop)(A B T x:Nat)(r:Option (Array cG))(out:Array cG)(na nb:Nat):Prop where
 r:r=.none
 o:d8 P out
 a:1<=na
 b:2<=nb
 c:na<=A
 d:nb<=B
 e:na+nb+x<=T
def Gw (P:cG->Prop)(A B T x:Nat)(r:Option (Array cG))(out:Array cG)(na nb:Nat):Prop:=(∀o,r=aa o->d8 P o)/\(r=ae->Gy P A B T x r out na nb)
theorem Gw.some {A T x:Nat}{o:Array cG}(h:d8 P o):Gw P A B T x (aa o) out na nb:=⟨λU e=>aj e▸h,λe=>nomatch e⟩
theorem Gy.wk {A T x:Nat}{r:Option (Array cG)}(h:Gy P A B T x r out na nb)(k:x'<=x):Gw P A B T x' r out na nb :=
 ⟨λU e=>(nomatch (h.r.symm.trans e)),λU=>⟨h.r,h.o,h.a,h.b,h.c,h.d,aQ (i3 k _) h.e⟩⟩
theorem Es (hP:n7 P){st:cQ}(hk:cw st=mG){a b:Array cG}(ha:d8 P a)(hb:d8 P b)(h1:1<=a.size)(h2:1<=b.size)
  {Q:Array cG->cQ->Prop}(q:∀out bQ,d8 P out->dJ st bQ->Q out bQ):wpS (aA prog w) A E s (Y9 a b) Q st:=by
 unfold Y9;refine aM (rN (kQ ⟨rfl,?_⟩));refine aM (d9 ha (FC h1) λp0 OO=>?_);have dn:∀ {out:Array cG} {na nb:Nat},d8 P out->d8 P (a.extract 0 na++b.extract 0 nb++out.reverse):=λx=>(ha.ext.app hb.ext).app x.rev;have la:∀ {out:Array cG} {na nb:Nat},d8 P out->d8 P (b.extract 0 nb++a.extract 0 na++out.reverse):=λx=>(hb.ext.app ha.ext).app x.rev;refine dM (λU=>bh (q _ _ (dn (d8.one OO)) .refl)) λe1=>?_;refine dM (λU=>bh (q _ _ (la (d8.one OO)) .refl)) λe2=>?_;refine aM (kW ?_);generalize hA:a.size=A';generalize hB:b.size=B';rw[hA]at h1 e1;rw[hB]at h2 e2;generalize hT:A'-1+B'=T;refine aM (ef (cO (I:=λx c bQ=>dJ st bQ/\Gy P A' B' T x c.1 c.2.2.2.1 c.2.1 c.2.2.1) (Q:=λc bQ=>dJ st bQ/\∃o,c.1=aa o/\d8 P o) ?ls ?lf ⟨.refl,rfl,d8.one OO,(by dsimp only;exact SQ e1),(by dsimp only;exact SP e2 h2),(by dsimp only;exact SO h1),(by dsimp only;exact SN),(by dsimp only;exact SJ hT)⟩) ?lp);case lf =>
  intro c bQ ⟨hs,g⟩;have:=g.a;have:=g.b;have:=g.e;clear dn la ha hb g;exact SE h1 hT (by assumption) (by assumption) this
 case lp =>
  refine p5 λr na nb out mg bQ h=>?_;obtain⟨hs,o,e,ho⟩:=h;dsimp only at e ⊢;subst e;exact bh (q _ _ ho hs)
 case ls =>
  intro x c bQ _ hxt h;extract_lets s1 na s2 nb s3 out mg ac bc;have hs:dJ st bQ:=h.1;have g:Gy P A' B' T x ae out na nb:=⟨rfl,h.2.2,h.2.3,h.2.4,h.2.5,h.2.6,h.2.7⟩;clear h;clear_value bc ac mg out s3 nb s2 na s1;refine aM (ef (cO (I:=λy c bQ=>dJ st bQ/\Gy P A' B' T x c.1 c.2.2.2.1 c.2.1 c.2.2.1) (Q:=λc bQ=>dJ st bQ/\Gw P A' B' T x c.1 c.2.2.2.1 c.2.1 c.2.2.1) ?is ?if' ⟨hs,g⟩) ?ip);case if'=>exact λc bQ h=>⟨h.1,h.2.wk (aO _)⟩
  case is =>
   intro y c bQ _ _ h;extract_lets s1 na1 s2 nb1 s3 xS s4 ac1 Pt;have hs:dJ st bQ:=h.1;have g:Gy P A' B' T x ae xS na1 nb1:=⟨rfl,h.2.2,h.2.3,h.2.4,h.2.5,h.2.6,h.2.7⟩;clear h;clear_value Pt ac1 s4 xS s3 nb1 s2 na1 s1;have f1:=g.o;have f2:=g.a;have f3:=g.b;have f4:=g.c;have f5:=g.d;have f6:=g.e;refine aM (d9 hb (Lp hB f3 f5) λp1 hp1=>aM (d9 ha (Sr h1 hA f2 f4) λp2 GQ=>aM (pY hP (hs.1.trans hk) hp1 GQ λbw=>?_)));refine dy (λU=>aM (d9 ha (by lia) λp3 wZ=>?_)) λU=>aM (d9 hb (by lia) λp3 wZ=>?_)
   .refine dM (λU=>bh ⟨hs,Gw.some (dn (f1.push wZ))⟩) λe=>?_;have k:Gy P A' B' T x ae (xS.push p3) (na1-1) nb1:=⟨rfl,f1.push wZ,by lia,f3,by exact Sh h1 f2 f4,f5,by exact Se hT f2 f6⟩;exact dy (λU=>bh ⟨hs,k.wk (aO _)⟩) λU=>bh ⟨hs,k⟩
   .refine dM (λU=>bh ⟨hs,Gw.some (la (f1.push wZ))⟩) λe=>?_;have k:Gy P A' B' T x ae (xS.push p3) na1 (nb1-1):=⟨rfl,f1.push wZ,f2,by lia,f4,by exact RY f3 f5,by exact RQ hT f3 f6⟩;exact dy (λU=>bh ⟨hs,k.wk (aO _)⟩) λU=>bh ⟨hs,k⟩
  case ip =>
   clear g hs;refine p6 λr na nb out ac bc bQ h=>?_;have hs:dJ st bQ:=h.1;have g:=h.2;clear h;dsimp only at g;induction r with
   |some o=>exact bh ⟨hs,o,rfl,g.1 o rfl⟩
   |none =>
    have g:=g.2 rfl;refine aM (rN (kQ ⟨rfl,?_⟩));refine aM (ef (cO (I:=λy c bQ=>dJ st bQ/\Gy P A' B' T (x+y) c.1 c.2.2.2.1 c.2.1 c.2.2.1) (Q:=λc bQ=>dJ st bQ/\Gw P A' B' T (x+1) c.1 c.2.2.2.1 c.2.1 c.2.2.1) ?js ?jf ⟨hs,g⟩) ?jp);case jf =>
     exact λc bQ h=>⟨h.1,h.2.wk (RN h1)⟩
    case jp =>
     clear g hs;refine p7 λr na nb out mg ac bc bQ h=>?_;have hs:dJ st bQ:=h.1;have g:=h.2;clear h;dsimp only at g;induction r with
     |some o=>exact bh ⟨hs,o,rfl,g.1 o rfl⟩
     |none=>exact aM (gj (bh ⟨hs.trans ⟨rfl,rfl,rfl,rfl⟩,g.2 rfl⟩))
    case js =>
     clear g hs;intro y c bQ _ _ h;refine(λH=>H _ (λr na nb out mg ac bc bQ h k=>⟨h,k⟩) (λna nb out mg ac bc bQ h k=>⟨h,k⟩):(∀Qp:ForInStep (Option (Array cG)×Nat×Nat×Array cG×Nat×Nat×Nat)->cQ->Prop,(∀r na nb out mg ac bc bQ,dJ st bQ->Gw P A' B' T (x+1) r out na nb->Qp (.done (r,na,nb,out,mg,ac,bc)) bQ)->(∀na nb out mg ac bc bQ,dJ st bQ->Gy P A' B' T (x+(y+1)) ae out na nb->Qp (.yield (ae,na,nb,out,mg,ac,bc)) bQ)->wpS (aA prog w) A E s _ Qp bQ)->_) ?_;intro Qp hd hy;extract_lets s1 na s2 nb s3 out s4 mg s5 ac bc n1 J m1;have hs:dJ st bQ:=h.1;have g1:d8 P out:=h.2.o;have g2:1<=na:=h.2.a;have g3:2<=nb:=h.2.b;have g4:na<=A':=h.2.c;have g5:nb<=B':=h.2.d;have g6:na+nb+(x+y)<=T:=h.2.e;have g7:n1=nb-1:=rfl;have HJ:∀m bQ,dJ st bQ->wpS (aA prog w) A E s (J () m) Qp bQ:=by
      clear h hs;clear_value n1 bc ac s5 mg s4 out s3 nb s2 na s1;intro m bQ hs;refine aM (yG hs λbQ hs=>?_);refine aM (iS hb (Lp hB g3 g5) λp hp=>?_);refine aM (pZ hP (dJ.kd hs hk) hp ha (FC g2) (RG hA g4) λk Qt=>?_);dsimp -zeta only;extract_lets kk ac1 J2;have KY:∀YW out,d8 P out->1<=YW->YW<=na->wpS (aA prog w) A E s (J2 () YW out) Qp bQ:=by
       intro YW out h1 h2 h3;refine aM (iS hb (RD hB g3 g5 g7) λp hp=>?_);refine dM (λU=>bh (hd _ _ _ _ _ _ _ _ hs (Gw.some (la (h1.push hp))))) λe=>?_;refine aM (iS ha (by exact RA (by assumption) hA g4 h2 h3) λp' CA=>?_);refine aM (pZ hP (dJ.kd hs hk) CA hb (Ry g3 g7 e) (Rw hB g3 g5 g7) λk2 MY=>?_);dsimp -zeta only;extract_lets kk2 Pt n2 J3;have g8:n2=YW-1:=rfl;have HJ3:∀nb out,d8 P out->2<=nb->nb<=n1->wpS (aA prog w) A E s (J3 () nb out) Qp bQ:=by clear_value n2 Pt kk2;intro nb out h4 h5 h6;refine aM (iS ha (by exact Rv (by assumption) hA g4 h2 h3 g8) λp3 wZ=>?_);refine dM (λU=>bh (hd _ _ _ _ _ _ _ _ hs (Gw.some (dn (h4.push wZ))))) λe2=>?_;have k:Gy P A' B' T (x+(y+1)) ae (out.push p3) n2 nb:=⟨rfl,h4.push wZ,by exact Ru g8 e2,h5,by exact Rt (by assumption) g4 h2 h3 g8,by exact Rq g3 g5 g7 h6,by exact Rp hT g3 g6 g7 h2 h3 g8 h6⟩;exact dy (λU=>bh (hd _ _ _ _ _ _ _ _ hs (k.wk Ro))) λU=>bh (hy _ _ _ _ _ _ _ hs k)
       clear_value J3;have h7:=(h1.push hp).app (hb.ext (i:=k2) (j:=n1)).rev;exact dy (λU=>dM (λU=>bh (hd _ _ _ _ _ _ _ _ hs (Gw.some (la h7)))) λe3=>dM (λU=>bh (hd _ _ _ _ _ _ _ _ hs (Gw.some (dn h7)))) λe4=>HJ3 _ _ h7 (Rn e3 e4) (by exact MY)) λU=>HJ3 _ _ (h1.push hp) (Rm g3 g7 e) (aO _)
      clear_value J2;have h7:=g1.app (ha.ext (i:=k) (j:=na)).rev;exact dy (λU=>dM (λU=>bh (hd _ _ _ _ _ _ _ _ hs (Gw.some (dn h7)))) λe=>KY _ _ h7 (Rl e) (by exact Qt)) λU=>KY _ _ g1 g2 (aO _)
     clear_value J;exact dy (λU=>HJ _ _ hs) λU=>HJ _ _ hs
end
section
variable {w:c0}{E:ax->av->Prop}{s:av}{n:Nat}
theorem p2 {α β:Type}{P:α×β->Prop}(h:∀a b,P (a,b))(x):P x:=h _ _
theorem p3 {α β:Type}{P:α×β×γ->Prop}(h:∀a b c,P (a,b,c))(x):P x:=h _ _ _
theorem Et (hP:n7 P){st:cQ}(W:WB P n st){xT:Nat}(h:lo+xT<=n)(h1:1<=xT){Q:Option Nat->cQ->Prop}
  (q:∀k bQ,WB P n bQ->aY bQ=aY st->1<=k->k<=xT->Q (aa k) bQ):wpS (aA prog w) A E s (countRun' lo xT) Q st:=by
 rw[countRun'_eq];refine aM (ef (cO (I:=λy c bQ=>bQ=st/\c.1=ae/\c.2=y) (Q:=λc bQ=>bQ=st/\c.1=ae/\1<=c.2/\c.2<=xT) ?s1 ?f1 ⟨rfl,rfl,rfl⟩) ?p1);case f1 =>
  intro c bQ h;exact⟨h.1,h.2.1,by rw[h.2.2];exact Sy h1,by rw[h.2.2];exact Sx h1⟩
 case s1 =>
  intro y c bQ h1 h2 h;extract_lets m;obtain⟨rfl,_,hm⟩:=h;have hm:m=y:=hm;refine aM (km hP W (by exact Lr h h2 (by assumption)) (by exact Sw h h1 h2 (by assumption)) λb=>?_);exact dy (λU=>bh ⟨rfl,rfl,by dsimp only;exact Sv h1 (by assumption),by dsimp only;exact Lq h2 (by assumption)⟩) λU=>bh ⟨rfl,rfl,by dsimp only;lia⟩
 case p1 =>
  refine p2 λr m bQ h=>?_;obtain⟨rfl,hr,OS,DK⟩:=h;dsimp only at hr OS DK;subst hr;refine dM (λU=>bh (q _ _ W rfl OS DK)) λoO=>?_;dsimp -zeta only;extract_lets m1 k1 J;replace oO:m≠xT:=oO;have g1:m1=m+1:=rfl;have HJ:∀IM,WB P n IM->aY IM=aY bQ->wpS (aA prog w) A E s (J ()) Q IM:=by
   clear_value m1;intro IM W2 e2;refine aM (rN (kQ ⟨rfl,?_⟩));refine aM (ef (cO (I:=λy c iW=>WB P n iW/\aY iW=aY bQ/\c.1=ae/\c.2.1=y) (Q:=λc iW=>WB P n iW/\aY iW=aY bQ/\c.1=ae/\1<=c.2.1/\c.2.1<=xT) ?s2 ?f2 ⟨W2,e2,rfl,rfl⟩) ?p2);case f2 =>
    intro c iW h;exact⟨h.1,h.2.1,h.2.2.1,by rw[h.2.2.2];exact Su h1 g1,by rw[h.2.2.2];exact Ss DK oO g1⟩
   case s2 =>
    intro y c iW h1 h2 h;refine(λH=>H _ (λm Qg iW a b c d=>⟨a,b,rfl,c,d⟩) (λm Qg iW a b c=>⟨a,b,rfl,c⟩):(∀Qp:ForInStep (Option (Option Nat)×Nat×Nat)->cQ->Prop,(∀m Qg iW,WB P n iW->aY iW=aY bQ->1<=m->m<=xT->Qp (.done (ae,m,Qg)) iW)->(∀m Qg iW,WB P n iW->aY iW=aY bQ->m=y+1->Qp (.yield (ae,m,Qg)) iW)->wpS (aA prog w) A E s _ Qp iW)->_) ?_;intro Qp hd hy;extract_lets s1 m' Qg m2 J2 z0 J3;have W3:=h.1;have e3:=h.2.1;have hm:m'=y:=h.2.2.2;refine aM (km hP W3 (by exact Lo (by assumption) h2 h) (by exact Lm (by assumption) g1 h1 h2 h) λb=>?_);dsimp -zeta only;have DK:m2=y+1:=congrArg (·+1) hm;have KY:∀z E2,WB P n E2->aY E2=aY bQ->wpS (aA prog w) A E s (J2 () z) Qp E2:=λz E2 W4 e4=>bh (hy _ _ _ W4 e4 DK);clear_value J2;refine dy (λU=>dy (λU=>aM (pX W3 λE2 W4 e4=>KY _ _ W4 (e4.trans e3))) λU=>KY _ _ W3 e3) λU=>?_;refine aM (km hP W3 (by exact Lm (by assumption) g1 h1 h2 h) (by exact Lo (by assumption) h2 h) λb=>?_);exact dy (λU=>bh (hd _ _ _ W3 e3 (Sk g1 h1 h) (Si h2 h))) λU=>KY _ _ W3 e3
   case p2 =>
    refine p3 λr y z iW h=>?_;obtain⟨W3,e3,hr,hy1,hy2⟩:=h;dsimp only at hr hy1 hy2;subst hr;dsimp -zeta only;extract_lets r' s' n' adt J4;dsimp -zeta only[r'];have HJ4:∀E2,WB P n E2->aY E2=aY bQ->wpS (aA prog w) A E s (J4 ()) Q E2:=by
     intro E2 W4 e4;refine aM (pX W4 λst5 W5 e5=>?_);refine aM (ef (cO (I:=λy c bQ=>bQ=st5/\c.1=ae/\c.2=y) (Q:=λc bQ=>bQ=st5/\c.1=ae/\1<=c.2/\c.2<=xT) ?_ ?_ ⟨rfl,rfl,rfl⟩) ?_)
     .intro y c bQ h1 h2 h;extract_lets m;obtain⟨rfl,_,hm⟩:=h;have hm:m=y:=hm;have hn:n'=_:=rfl;refine aM (km hP W5 (by exact Lr h h2 (by assumption)) (by exact Sd h hy1 h1 h2 (by assumption)) λb=>?_);exact dy (λU=>bh ⟨rfl,rfl,by dsimp only;exact Sb hy1 h1 (by assumption),by dsimp only;exact Lq h2 (by assumption)⟩) λU=>bh ⟨rfl,rfl,by dsimp only;lia⟩
     .intro c bQ h;exact⟨h.1,h.2.1,by rw[h.2.2];exact R8 h1 hy2,by rw[h.2.2];exact R6 hy2⟩
     .refine p2 λr m bQ h=>?_;obtain⟨rfl,hr,OS,DK⟩:=h;dsimp only at hr OS DK;subst hr;exact bh (q _ _ W5 (e5.trans e4) OS DK)
    clear_value J4;exact dy (λU=>aM (pX W3 λE2 W4 e4=>HJ4 _ W4 (e4.trans e3))) λU=>HJ4 _ W3 e3
  clear_value J;exact dy (λU=>aM (km hP W (RZ h h1) (RX h OS DK oO) λb=>dy (λU=>bh (q _ _ W rfl OS DK)) λU=>aM (pX W λIM W2 e2=>HJ _ W2 e2))) λU=>HJ _ W rfl
end
def PL:Nat->List (Nat×Nat×Nat)->Nat->Prop
 |lo,[],hi=>lo=hi
 |lo,(s,m,_)::r,hi=>s=lo/\1<=m/\PL (lo+m) r hi
theorem PL.le:∀ {l:List (Nat×Nat×Nat)} {lo hi:Nat},PL lo l hi->lo<=hi
 |[],_,_,h=>fS h
 |(_,_,_)::_,_,_,h=>by have:=h.2.2.le;exact Sq this
theorem PL.two:∀ {l:List (Nat×Nat×Nat)} {lo hi i:Nat} {x y:Nat×Nat×Nat},PL lo l hi->l[i]?=aa x->l[i+1]?=aa y->y.1=x.1+x.2.1/\1<=x.2.1/\1<=y.2.1/\y.1+y.2.1<=hi
 |[],_,_,_,_,_,_,e,_=>by simp at e
 |[_],_,_,i,_,_,_,_,e=>by simp at e
 |(s,m,w)::(s',m',w')::r,lo,hi,0,x,y,h,e1,e2=>by simp only[ah,ai,dY]at e1 e2;subst e1 e2;(refine o04 h λz1 h1 z2 h2 h3=>?_;try clear h;subst z1;subst z2);have:=h3.le;exact⟨rfl,h1,h2,this⟩
 |(s,m,w)::z::r,lo,hi,i+1,x,y,h,e1,e2=>by rw[ai]at e1 e2;exact h.2.2.two e1 e2
theorem PL.join:∀ {l:List (Nat×Nat×Nat)} {lo hi i:Nat} {x y:Nat×Nat×Nat},PL lo l hi->l[i]?=aa x->l[i+1]?=aa y->PL lo ((l.set i (x.1,x.2.1+y.2.1,x.2.2)).eraseIdx (i+1)) hi
 |[],_,_,_,_,_,_,e,_=>by simp at e
 |[_],_,_,i,_,_,_,_,e=>by simp at e
 |(s,m,w)::(s',m',w')::r,lo,hi,0,x,y,h,e1,e2=>by simp only[ah,ai,dY]at e1 e2;subst e1 e2;(refine o04 h λz1 h1 z2 h2 h3=>?_;try clear h;subst z1;subst z2);exact⟨rfl,by show 1<=m+m';exact Sl h1,by show PL (s+(m+m')) r hi;rw[<- Nat.add_assoc];exact h3⟩
 |(s,m,w)::z::r,lo,hi,i+1,x,y,h,e1,e2=>by rw[ai]at e1 e2;exact⟨h.1,h.2.1,h.2.2.join e1 e2⟩
theorem PL.push:∀ {l:List (Nat×Nat×Nat)} {lo hi k w:Nat},PL lo l hi->1<=k->PL lo (l++[(hi,k,w)]) (hi+k)
 |[],_,_,_,_,h,hk=>by cases h;exact⟨rfl,hk,rfl⟩
 |(_,_,_)::_,_,_,_,_,h,hk=>⟨h.1,h.2.1,h.2.2.push hk⟩
theorem PL.modify {f:Nat×Nat×Nat->Nat×Nat×Nat}(hf:∀x,(f x).1=x.1/\(f x).2.1=x.2.1):∀ {l:List (Nat×Nat×Nat)} {lo hi j:Nat},PL lo l hi->PL lo (l.modify j f) hi
 |[],_,_,0=>λh=>h
 |[],_,_,_+1=>λh=>h
 |(s,m,w)::r,lo,hi,0=>λh=>by obtain⟨a,b⟩:=hf (s,m,w);refine(?_:PL lo (f (s,m,w)::r) hi);generalize f (s,m,w)=z at a b;obtain⟨s',m',w'⟩:=z;dsimp only at a b;subst a b;exact h
 |(s,m,w)::r,lo,hi,j+1=>λh=>⟨h.1,h.2.1,h.2.2.modify hf⟩
section
variable {w:c0}{E:ax->av->Prop}{s:av}{n:Nat}
theorem zW (sa:Nat):∀(l:List (cG×Nat)) (a:Array cG),(∀x∈l,P x.1)->d8 P a->d8 P (l.foldl (λa x=>a.setIfInBounds (sa+x.2) x.1) a)/\(l.foldl (λa x=>a.setIfInBounds (sa+x.2) x.1) a).size=a.size
 |[]=>λa U h=>⟨h,rfl⟩
 |x::l=>λa hl h=>by
  have:=zW sa l (a.setIfInBounds (sa+x.2) x.1) (λy hy=>hl y (.tail _ hy)) λp hp=>by
   rcases Array.mem_or_eq_of_mem_setIfInBounds hp with q|q
   .exact h p q
   .rw[q];exact hl x (.head _)
  exact⟨this.1,this.2.trans (by simp)⟩
theorem Ip {σ:Type}{Q:PUnit->σ->Prop}{st bQ:σ}(h:Q ⟨⟩ bQ):wpS M A E s (set bQ:StateT σ Sem PUnit) Q st:=by unfold wpS;exact aW ⟨rfl,h⟩
theorem tR (hP:n7 P){st:cQ}(W:WB P n st){hi i:Nat}(hp:PL 0 (aY st).toList hi)(hn:hi<=n)(hi':i+1<(aY st).size){Q:Bool->cQ->Prop}
  (q:∀bQ,WB P n bQ->PL 0 (aY bQ).toList hi->Q af bQ):wpS (aA prog w) A E s (Ck i) Q st:=by
 unfold Ck;refine aM (kW ?_);obtain⟨x,ex⟩:∃x,(aY st)[i]?=aa x:=⟨_,getElem?_pos _ i (by exact zp hi')⟩;obtain⟨y,ey⟩:∃y,(aY st)[i+1]?=aa y:=⟨_,getElem?_pos _ (i+1) hi'⟩;have ex':(aY st).toList[i]?=aa x:=by rw[oF];exact ex
 have ey':(aY st).toList[i+1]?=aa y:=by rw[oF];exact ey
 have hj:=hp.join ex' ey';have ht:=hp.two ex' ey';obtain⟨sa,na,pw⟩:=x;obtain⟨sb,nb,pw'⟩:=y;dsimp only at hj ht;(refine o03 ht λz1 t1 t2 t3=>?_;try clear ht;subst z1);rw[ex,ey];have hj':PL 0 (((aY st).setIfInBounds i (sa,na+nb,pw)).eraseIdxIfInBounds (i+1)).toList hi:=by simpa using hj
 refine aM (Ip ?_);have W1:WB P n (DX (cw st) (sD st) (((aY st).setIfInBounds i (sa,na+nb,pw)).eraseIdxIfInBounds (i+1)) (gallopOf st) (w5 st)):=⟨W.kind,W.size,W.all,W.failed⟩;have sz:=W.size;refine aM (d9 W.all (by show _<(sD st).size;exact R7 hn t2 t3 sz) λp CA=>aM (tS hP W1.kind CA W.all (R5 t1) (R1 hn t2 t3 sz) λk hk=>?_));refine dM (λU=>bh (q _ W1 hj')) λoO=>?_;refine aM (d9 W.all (by show _<(sD st).size;exact RV hn t1 t2 t3 sz oO) λp2 GQ=>aM (tS hP W1.kind GQ W.all (FC t2) (RO hn t3 sz) λk2 MY=>?_));refine dM (λU=>bh (q _ W1 hj')) λOR=>?_;have fin:∀(out:Array cG) (bQ:cQ),d8 P out->dJ (DX (cw st) (sD st) (((aY st).setIfInBounds i (sa,na+nb,pw)).eraseIdxIfInBounds (i+1)) (gallopOf st) (w5 st)) bQ ->
   WB P n (setArr bQ (out.toList.zipIdx.foldl (λa x=>a.setIfInBounds (sa+k+x.2) x.1) (sD bQ))):=λout bQ ho hs=>by
  have:=zW (P:=P) (sa+k) out.toList.zipIdx (sD bQ) (λx hx=>ho _ (by simpa using List.fst_mem_of_mem_zipIdx hx)) (by rw[hs.2.1];exact W1.all);exact⟨hs.1.trans W1.kind,this.2.trans (by rw[hs.2.1];exact W1.size),this.1,hs.2.2.2.trans W1.failed⟩
 refine dy (λU=>aM (Er hP W1.kind W.all.ext W.all.ext (by rw[lu];exact RK hn t2 t3 sz oO) (by rw[lu];exact Lh hn t2 t3 sz OR) λout bQ ho hs=>?_)) λU=>aM (Es hP W1.kind W.all.ext W.all.ext (by rw[lu];exact RI hn t2 t3 sz oO OR (by assumption)) (by rw[lu];exact Lh hn t2 t3 sz OR) λout bQ ho hs=>?_);all_goals
  have W2:=fin out bQ ho hs;refine aM (gj (aM (kW (bh ?_))));have e:(w5 (setArr bQ (out.toList.zipIdx.foldl (λa x=>a.setIfInBounds (sa+k+x.2) x.1) (sD bQ)))).isNone=af:=by rw[W2.failed];rfl
  have hq:=q _ W2 (by show PL 0 (aY bQ).toList hi;rw[hs.2.2.1];exact hj');rw[<- e]at hq;exact hq
end
section
variable {w:c0}{E:ax->av->Prop}{s:av}{n:Nat}
theorem C4 (hP:n7 P){st:cQ}(W:WB P n st)(hp:aY st=#[]){Q:Unit->cQ->Prop}(q:∀bQ,WB P n bQ->Q () bQ):wpS (aA prog w) A E s sortRuns' Q st:=by
 rw[sortRuns'_eq];refine aM (kW ?_);dsimp only;rw[W.size];generalize minRun' n n 0=mr;refine aM (ef (cO (I:=λy c bQ=>WB P n bQ/\c.1=ae/\c.2<=n/\PL 0 (aY bQ).toList c.2) (Q:=λc bQ=>WB P n bQ/\c.1=ae/\c.2<=n/\PL 0 (aY bQ).toList c.2) ?s1 ?f1 ⟨W,rfl,bL _,by rw[hp];rfl⟩) ?p1);case f1=>exact λc bQ h=>h
 case s1 =>
  rintro y ⟨r,lo⟩ bQ _ _ ⟨W,e,Ef,hp⟩;dsimp only at e Ef hp ⊢;subst e;refine dy (λU=>bh ⟨W,rfl,Ef,hp⟩) λAo=>?_;refine aM (Et hP W (Sa Ao) (R9 Ao) λk IM W2 e2 Qu MY=>?_);have tail:∀(bQ:cQ) (k:Nat),WB P n bQ->PL 0 (aY bQ).toList lo->1<=k->lo+k<=n->WB P n (B3 bQ ((aY bQ).push (lo,k,0)))/\lo+k<=n/\PL 0 (aY (B3 bQ ((aY bQ).push (lo,k,0)))).toList (lo+k):=λbQ k W hp h1 h2 =>
   ⟨⟨W.kind,W.size,W.all,W.failed⟩,h2,by refine(?_:PL 0 ((aY bQ).push (lo,k,0)).toList (lo+k));rw[Array.toList_push];exact hp.push h1⟩
  have GQ:PL 0 (aY IM).toList lo:=by rw[e2];exact hp
  refine dy (λU=>aM (rN (kQ ⟨rfl,aM (Eu hP W2 (Ll Qu MY) λst3 W3 e3=>?_)⟩))) λU=>?_
  .rw[if_neg (by decide)];have wZ:PL 0 (aY st3).toList lo:=by rw[e3];exact GQ
   have h1:1<=min (n-lo) mr:=by exact RP Ao Qu MY (by assumption)
   have h2:lo+min (n-lo) mr<=n:=by exact Ll Qu MY
   generalize min (n-lo) mr=k' at h1 h2;refine aM (kW ?_);induction hb:(aY st3).back? with
   |none =>exact aM (gj (bh (let ⟨a,b,c⟩:=tail st3 k' W3 wZ h1 h2;⟨a,rfl,b,c⟩)))
   |some x =>
    obtain⟨s1,n1,w1⟩:=x;refine aM (ef (cO (I:=λy c bQ=>WB P n bQ/\c=(ae,())/\PL 0 (aY bQ).toList lo) (Q:=λc bQ=>WB P n bQ/\c=(ae,())/\PL 0 (aY bQ).toList lo) ?_ (λc bQ h=>h) ⟨W3,rfl,wZ⟩) ?_)
    .rintro y c bQ _ _ ⟨W,rfl,hp⟩;refine aM (kW ?_);by_cases hsz:(aY bQ).size>1
     .rw[if_pos hsz,getElem?_pos _ ((aY bQ).size-2) (by exact Lk hsz)];refine dy (λU=>bh ⟨W,rfl,hp⟩) λU=>?_;have key:wpS (aA prog w) A E s (Ck ((aY bQ).size-2)) (λb iF=>b=af/\WB P n iF/\PL 0 (aY iF).toList lo) bQ:=tR hP W hp Ef (Lj hsz) λiF a b=>⟨rfl,a,b⟩;refine aM (ef key λb iF h=>?_);(refine pS h λz1 a b=>?_;try clear h;subst z1);exact bh ⟨a,rfl,b⟩
     .rw[if_neg hsz];exact bh ⟨W,rfl,hp⟩
    .rintro c bQ ⟨W,rfl,hp⟩;have W':WB P n (B3 bQ ((aY bQ).modify ((aY bQ).size-1) λx=>(x.fst,x.2.fst,power' n (2*s1+n1) (2*s1+n1+n1+k') n))):=⟨W.kind,W.size,W.all,W.failed⟩;have CA:PL 0 ((aY bQ).modify ((aY bQ).size-1) λx=>(x.fst,x.2.fst,power' n (2*s1+n1) (2*s1+n1+n1+k') n)).toList lo:=by rw[D5];refine PL.modify (λx=>?_) hp;exact⟨rfl,rfl⟩
     exact aM (gj (aM (gj (bh (let ⟨a,b,c⟩:=tail _ k' W' CA h1 h2;⟨a,rfl,b,c⟩)))))
  .have h2:lo+k<=n:=by exact RJ Qu MY
   refine aM (kW ?_);cases hb:(aY IM).back? with
   |none =>exact aM (gj (bh (let ⟨a,b,c⟩:=tail IM k W2 GQ Qu h2;⟨a,rfl,b,c⟩)))
   |some x =>
    obtain⟨s1,n1,w1⟩:=x;refine aM (ef (cO (I:=λy c bQ=>WB P n bQ/\c=(ae,())/\PL 0 (aY bQ).toList lo) (Q:=λc bQ=>WB P n bQ/\c=(ae,())/\PL 0 (aY bQ).toList lo) ?_ (λc bQ h=>h) ⟨W2,rfl,GQ⟩) ?_)
    .rintro y c bQ _ _ ⟨W,rfl,hp⟩;refine aM (kW ?_);by_cases hsz:(aY bQ).size>1
     .rw[if_pos hsz,getElem?_pos _ ((aY bQ).size-2) (by exact Lk hsz)];refine dy (λU=>bh ⟨W,rfl,hp⟩) λU=>?_;have key:wpS (aA prog w) A E s (Ck ((aY bQ).size-2)) (λb iF=>b=af/\WB P n iF/\PL 0 (aY iF).toList lo) bQ:=tR hP W hp Ef (Lj hsz) λiF a b=>⟨rfl,a,b⟩;refine aM (ef key λb iF h=>?_);(refine pS h λz1 a b=>?_;try clear h;subst z1);exact bh ⟨a,rfl,b⟩
     .rw[if_neg hsz];exact bh ⟨W,rfl,hp⟩
    .rintro c bQ ⟨W,rfl,hp⟩;have W':WB P n (B3 bQ ((aY bQ).modify ((aY bQ).size-1) λx=>(x.fst,x.2.fst,power' n (2*s1+n1) (2*s1+n1+n1+k) n))):=⟨W.kind,W.size,W.all,W.failed⟩;have CA:PL 0 ((aY bQ).modify ((aY bQ).size-1) λx=>(x.fst,x.2.fst,power' n (2*s1+n1) (2*s1+n1+n1+k) n)).toList lo:=by rw[D5];refine PL.modify (λx=>?_) hp;exact⟨rfl,rfl⟩
     exact aM (gj (aM (gj (bh (let ⟨a,b,c⟩:=tail _ k W' CA Qu h2;⟨a,rfl,b,c⟩)))))
 case p1 =>
  rintro⟨r,lo⟩ bQ ⟨W,e,Ef,hp⟩;dsimp only at e Ef hp ⊢;subst e;refine aM (ef (cO (I:=λy c bQ=>WB P n bQ/\c=(ae,())/\PL 0 (aY bQ).toList lo) (Q:=λc bQ=>WB P n bQ/\c=(ae,())) ?s2 ?f2 ⟨W,rfl,hp⟩) ?p2);case f2=>exact λc bQ h=>⟨h.1,h.2.1⟩
  case p2=>rintro c bQ ⟨W,rfl⟩;exact bh (q _ W)
  case s2 =>
   rintro y c bQ _ _ ⟨W,rfl,hp⟩;refine aM (kW ?_);refine dy (λU=>bh ⟨W,rfl⟩) λhsz=>?_;have key:∀i,i+1<(aY bQ).size->wpS (aA prog w) A E s (Ck i) (λb iF=>b=af/\WB P n iF/\PL 0 (aY iF).toList lo) bQ:=λi hi=>tR hP W hp Ef hi λiF a b=>⟨rfl,a,b⟩;refine aM (ef (key _ ?_) λb iF h=>?_)
   .have le:∀(c:Prop) [Decidable c] (a b:Nat),b<=a->(if c then b else a)<=a:=λc U a b h=>by by_cases e:c<;>simp[e,h]
    refine cm (Nat.add_le_add_right (le _ _ _ (RC hsz)) 1) (RB hsz)
   ·(refine pS h λz1 a b=>?_;try clear h;subst z1);exact bh ⟨a,rfl,b⟩
end
section
variable {w:c0}{E:ax->av->Prop}{s:av}
theorem uM {a:aK}{vs:List ax}{ns:List Int}{n:Nat}{R:Fin->av->Prop}(ho:s.heap.get? a=aa (lH "list" vs.toArray n))
  (hI:IntsAre vs ns)(hl:vs.length<=100000)
  (h:∀(out:Array ax),(∀v∈out,v∈vs)->out.size=vs.length->R (.done (.ret .none)) {s with heap:=vD s.heap a vs out}) :
  aE (aA prog w) A (Builtin.«list.sort» ⟨[.ref a],[]⟩) R E s:=by
 rw[list_sort_plain];have ha:a<s.heap.objs.size:=bx ho;refine aq (listItems_at ho rfl ?_);refine aq (Ee ho rfl ?_ (by rw[b9,jI];exact FA hl) (bL _));obtain⟨e1,ho1⟩:∃e1,(s.heap.update a (iD λU=>#[])).get? a=aa (lH "list" #[] e1):=⟨_,Aq ho (λU=>#[])⟩;refine aq (seqEpoch_at ho1 rfl ?_);refine aq (wpAny_newTuple ?_ (by show vs.length<=_;rw[jI];exact FA hl));refine aq (wpAny_newList ?_ (bL _));refine bC ?_;have ho6:(((s.heap.update a (iD λU=>#[])).push (lH "tuple" vs.toArray 0)).push (lH "list" #[] 0)).get? a=aa (lH "list" #[] e1):=by rw[Heap.get?_push_ne _ _ _ (by rw[B1,m3];exact dh (tK ha)),Heap.get?_push_ne _ _ _ (by rw[m3];exact dh ha)];exact ho1
 refine(?_:aE (aA prog w) A _ R E {s with heap:=((s.heap.update a (iD λU=>#[])).push (lH "tuple" vs.toArray 0)).push (lH "list" #[] 0)});dsimp only;have hsz:vs.toArray.size=vs.length:=by simp
 have hpz:(vs.toArray.zip vs.toArray).size=vs.length:=by simp
 have DJ:∀p∈vs.toArray.zip vs.toArray,p.2∈vs:=λp hp=>by rw[List.zip_toArray]at hp;exact(wd (by simpa using hp):p.1∈vs/\p.2∈vs).2
 have fin:∀(xs:Array cG),xs.size=vs.length->(∀p∈xs,p.2∈vs)->R (.done (.ret .none)) {s with heap:=vD s.heap a vs (xs.map (·.2))}:=λxs hx hm =>
  h _ (λv hv=>by(refine dC (Array.mem_map.mp hv) λp hp z1=>?_;subst z1);exact hm p hp) (by rw[xo];exact hx)
 by_cases h2:vs.toArray.size<2
 .rw[if_pos h2,if_pos h2];refine aq (aW ?_);rw[StateT.run_pure];refine aq (aW ?_);dsimp only;refine aq (seqEpoch_at ho6 rfl ?_);refine aq (Ee ho6 rfl ?_ (bL _) (by rw[xo];show(vs.toArray.zip vs.toArray).size<=_;rw[hpz,jI];exact Rk hsz h2));simp only[bne_self_eq_false,cN,if_false];exact aW (fin _ hpz DJ)
 .rw[if_neg h2,if_neg h2];obtain⟨oH,oG,rest,rfl⟩:∃oH oG rest,vs=oH::oG::rest:=by
   match vs,hsz,h2 with
   |[],_,h2=>simp at h2
   |[_],_,h2=>simp at h2
   |oH::oG::rest,_,_=>exact⟨oH,oG,rest,rfl⟩
  rw[keyKind_ints hI];refine aq (aW ?_);have hP:n7 (λp:cG=>(∃a t,p.1=.int a t)/\p.2∈oH::oG::rest):=λp ⟨⟨a,t,e⟩,_⟩=>⟨a,t,p.2,Prod.ext e rfl⟩;have hint:∀v∈oH::oG::rest,∃a t,v=.int a t:=hI.all;have W:WB (λp:cG=>(∃a t,p.1=.int a t)/\p.2∈oH::oG::rest) (oH::oG::rest).length (DX mG ((oH::oG::rest).toArray.zip (oH::oG::rest).toArray) #[] 7 ae) :=
   ⟨rfl,hpz,λp hp=>⟨hint _ (by have hp:p∈(oH::oG::rest).toArray.zip (oH::oG::rest).toArray:=hp;rw[List.zip_toArray]at hp;exact(wd (a:=p.1) (b:=p.2) (List.mem_toArray.mp hp):p.1∈oH::oG::rest/\p.2∈oH::oG::rest).1),DJ p hp⟩,rfl⟩
  refine aq (bp (C4 hP W rfl (Q:=λU bQ=>WB (λp:cG=>(∃a t,p.1=.int a t)/\p.2∈oH::oG::rest) (oH::oG::rest).length bQ) λbQ W'=>W') ?_ λU U e=>e);rintro⟨⟨⟩,bQ⟩ s' ⟨rfl,W'⟩;dsimp only;refine aq (seqEpoch_at ho6 rfl ?_);refine aq (Ee ho6 rfl ?_ (bL _) (by rw[xo];show(sD bQ).size<=_;rw[W'.size,jI];exact Rj hl));rw[W'.failed];simp only[bne_self_eq_false,cN,if_false];exact aW (fin _ W'.size λp hp=>(W'.all p hp).2)
end
theorem ints_of_all:∀ {vs:List ax},(∀v∈vs,∃a t,v=.int a t)->∃ns,IntsAre vs ns
 |[]=>λU=>⟨[],.nil⟩
 |v::l=>λh=>by(refine H0 (h _ (.head _)) λa t z1=>?_;subst z1);obtain⟨ns,hn⟩:=ints_of_all λv hv=>h v (.tail _ hv);exact⟨a::ns,.cons a t hn⟩
theorem sortedHeap_at {a:aK}{vs:List ax}{out:Array ax}{n:Nat}(ho:h.get? a=aa (lH "list" vs.toArray n)) :
  h.objs.size<=(vD h a vs out).objs.size/\(∀b o,b≠a->h.get? b=aa o->(vD h a vs out).get? b=aa o)/\∃e,(vD h a vs out).get? a=aa (lH "list" out e):=by
 have ha:a<h.objs.size:=bx ho;have e1:=Aq ho (λU=>(#[]:Array ax));have e2:=br (lH "list" #[] 0) (br (lH "tuple" vs.toArray 0) e1);refine⟨?_,λb o hb e=>?_,_,Aq e2 λU=>out⟩
 .refine(?_:_<=(Heap.update _ _ _).objs.size);rw[m3,B1,B1,m3];exact eu (jn _)
 .refine(kR _ _ _ _ hb).trans (br _ (br _ ((kR _ _ _ _ hb).trans e)))
section
variable {w:c0}{E:ax->av->Prop}{s:av}{T:String}{r d:aK}{n:Nat}{P:Nat->ax->Prop}{Q:ax->av->Prop}
theorem zb (K:KdlSrc prog w T r d n P OK)(hh:A.handled=ae)(GR:OK s.heap)(hn:n<=100000)(hP:∀i v,P i v->∃a t,v=.int a t)
  (h:∀h' tk D out e,Ext s.heap h'->s.heap.objs.size<=D->h'.get? D=aa (lH "list" out e)->(∀v∈out,∃i,P i v)->out.size=n->Q (.ref D) {s with heap:=h',toks:=tk}) :
  aE (aA prog w) A (call (.builtin "sorted") [.ref r]) Q E s:=by
 refine call_function_entry kind_sorted plain_sorted entry_sorted (args_sorted1 _) ?_;unfold Builtin.«sorted»;refine aq (m:=checkCount "sorted" 1 1 _) (aW ?_);have hz:n<=fz:=by rw[jI];exact FA hn
 refine aq (gP (kdu_collect (A:=A.in1) K hh GR hz λh' tk acc hk Kc hsz=>?_));have hl:acc.toList.length=n:=by rw[Array.length_toList];exact Kc.1
 have hv:∀v∈acc.toList,∃i,P i v:=λv hv=>by obtain⟨i,hi,e⟩:=kh.mp hv;exact⟨i,Kc.2 i v (by rw[<- oF,bA hi,e])⟩
 obtain⟨ns,hI⟩:=ints_of_all λv q=>let ⟨i,p⟩:=hv v q;hP i v p
 refine aq (wpAny_newList ?_ (by rw[hl];exact hz));have hoL:(h'.push (lH "list" acc.toList.toArray 0)).get? h'.objs.size=aa (lH "list" acc.toList.toArray 0):=cE _ rfl;have hsz:s.heap.objs.size<=h'.objs.size:=hsz;refine aq (bC (yt slot_list_sort ⟨_,hoL,rfl⟩ entry_list_sort (uM hoL hI (by rw[hl];exact hn) λout h1 h2=>⟨_,rfl,?_⟩) (args_list_sort _)));obtain⟨z1,z2,e,z3⟩:=sortedHeap_at (out:=out) hoL;refine aW ⟨_,rfl,h _ tk _ out e ⟨aQ hsz (aQ (by rw[B1];exact jn _) z1),λb o q=>z2 b o (dh (bx (hk b o q))) (br _ (hk b o q))⟩ hsz z3 (λv q=>hv v (h1 v q)) (h2.trans hl)⟩
end
theorem pK.forget  {X:List aK}(t:pK Z ρ X h env vt vs ct cs)(h0:∀(j:Nat) v,k6[j]?=aa (aa v)->vs[j]?=aa (aa v)):pK Z ρ X h env vt k6 ct cs:={
 kind:=t.kind,globals:=t.globals,builtins:=t.builtins,own:=t.own
 ns:=let ⟨m,a,b,d⟩:=t.ns;⟨m,a,λi x v e1 e2=>b i x v e1 (h0 _ _ e2),d⟩
 cell:=λi x v e1 e2=>t.cell i x v e1 (h0 _ _ e2)
 cells:=t.cells,has:=t.has,inj:=t.inj}
theorem Fe {i:Nat}(h:k6.set i ae=vs.set i ae)(j:Nat)(v:V)(e:(vs.set i ae)[j]?=aa (aa v)):k6[j]?=aa (aa v):=by
 rw[<- h]at e;rcases uf e with⟨_,q⟩|⟨_,q⟩
 .exact oSN q
 .exact q
theorem wJ {K:Type}{ρ:List Pl}{X:List aK}{h:bV}:∀ {l:List (K×V)} {lJ:List (K×ax)},fu ρ X h l lJ->lJ.length=l.length/\∀(i:Nat) k x,lJ[i]?=Option.some (k,x)->∃v,(k,v)∈l
 |[],_,r=>by subst r;exact⟨rfl,λU U U e=>by simp at e⟩
 |(k,v)::l,_,r=>by
  obtain⟨w,r',rfl,_,b⟩:=r;obtain⟨h1,h2⟩:=wJ b;refine⟨by simp[h1],λi k' x e=>?_⟩;induction i using Nat.casesOn with
  |zero=>simp only[ah,dY,Prod.mk.injEq]at e;exact⟨v,by rw[<- e.1];exact .head _⟩
  |succ i=>obtain⟨u,hu⟩:=h2 i k' x e;exact⟨u,.tail _ hu⟩
theorem sG {b:Int->Bool}:∀ {l:List (Int×V)} {k:Int} {v:V},oy b l=af->(k,v)∈l->b k=af
 |(k',v')::l,k,v,h,m=>by
  have h:=bG.1 (h:(b k'&&oy b l)=af);cases m with
  |head=>exact h.1
  |tail _ m=>exact sG h.2 m
theorem ints_list {ρ:List Pl}{X:List aK}{h:bV}{P:Int->Prop}:∀ {ws:List ax},(∀w∈ws,∃k t,w=.int k t/\P k)->∃ks:List Int,bt ρ X h (ks.map .int) ws/\∀k∈ks,P k
 |[]=>λU=>⟨[],.nil,λU q=>nomatch q⟩
 |w::ws=>λhw=>by(refine Ec (hw _ (.head _)) λk t z1 p=>?_;subst z1);obtain⟨ks,r,q⟩:=ints_list (P:=P) λw m=>hw w (.tail _ m);exact⟨k::ks,.cons mU r,λk' m=>by cases m with|head=>exact p|tail _ m=>exact q k' m⟩
theorem wQ {G:List V}{Φ:Nat->List V->bo->R V}{W i:Nat}{cX:X}{y:X}{σ:bo}{vs:Vs}:∀(ks:List Int) (P8:Vs),(∀k∈ks,ev G Φ (vs.set i (aa (.int k))) cX [] σ=.ok (.bool ag) σ)->(∀x,P8.set i x=vs.set i x) ->
  ∃k6,jc (.n i) (λvs σ=>l5 G Φ W [.ite cX [.ret y] []] vs σ) (ks.map .int) P8 σ=.ok (.nx,k6) σ/\∀x,k6.set i x=vs.set i x
 |[]=>λP8 U h0=>⟨P8,rfl,h0⟩
 |k::ks=>λP8 hk h0=>by
  obtain⟨k6,e,q⟩:=wQ ks (vs.set i (aa (.int k))) (λk' m=>hk k' (.tail _ m)) λx=>by rw[List.set_set]
  refine⟨k6,?_,q⟩;refine(?_:(R.bind (R.bind ((ev G Φ (P8.set i (aa (.int k))) cX [] σ).bind _) _) _)=_);rw[h0,hk k (.head _)];exact e
theorem Ok.wv {c:Cx}(D:Ok c mg mb)(vs:Vs):Ok (c.wv vs) mg mb:=⟨D.z,D.k,D.zV,D.hh,D.fr,D.un,D.call,D.mkc,D.mki,D.kp,D.ini⟩
section
variable {c:Cx}{W:Nat}
theorem IQ (D:Ok c mg mb)(N:bW c){i:Nat}{d cX y:X}{ed:bY}(hd:∀vs,SX (c.wv vs) d ed)(sS:noStar ed=af)(hks:c.env.kindOf (st "sorted")=aa .globalImplicit)
  (hi:c.vt[i]?=aa nm)(hk:c.env.kindOf nm=aa .local\/c.env.kindOf nm=aa .cell)(hb:∀X',DY (c.wx X') W [.ite cX [.ret y] []] eb)
  (hs:∀v,iI (.Call (.Name (st "sorted") np) [ed] [] DP) c.env v=pure v) :
  SS c W (.yb i d cX) (.For (.Name nm p) (.Call (.Name (st "sorted") np) [ed] [] DP) eb [] pos):=λvs ρ σ s t₀=>by
 have run:=k8 (hd vs) sS DP t₀;rw[show(c.wv vs).cs=[]from N.cs]at run;refine cH.w (cH.ri (W2:=λws ay Q E=>aE (aA c.Z.prog c.Z.w) c.A (call (.builtin "sorted") ws) (λx bH=>aE (aA c.Z.prog c.Z.w) c.A (pR x) (λit fV=>gZ (aA c.Z.prog c.Z.w) c.A (.forLoop (.Name nm p) it eb [] c.env) (λr s'=>match r with|.ok f=>Q f s'|.error e=>mK (aA c.Z.prog c.Z.w) c.A c.env E e s') fV) E bH) E ay) t₀ run λv bj ws aH ay eV bZ bT=>?_)
  λQ E q=>wpAny_For (tF (c:=c.wv vs) (D.wv vs) (mg:=mg) (mb:=mb) (by simp[gV]) hks (by decide) (.cons (hd vs) sS .nil) t₀ q) hs
 (refine dC bT λw z1 rv=>?_;try clear bT;subst z1);refine cH.loc λn e=>?_
 .refine cH.dic λl hl=>?_
  .refine cH.ite λhc=>?_
   .subst e;simp only[bz,decide_eq_true_eq]at hc;obtain⟨⟨hpx,hlen⟩,ZQ⟩:=hc;have bP:=eV.rel;(refine dC rv λpl Cz z1=>?_;try clear rv;subst z1);obtain⟨_,lJ,hdo,hpr⟩:=bP.obj n pl _ Cz hl;obtain⟨ep,hda⟩:=hdo.dictAt;obtain⟨ZF,hkm⟩:=wJ hpr;have acG:∀k:Int,(∃v,(k,v)∈l)->ev G c.Φ (vs.set i (aa (.int k))) cX [] bj=.ok (.bool ag) bj:=λk ⟨v,m⟩=>by
     have h1:=sG ZQ m;rcases zY (Φ:=c.Φ) (vs:=vs.set i (aa (.int k))) (cs:=[]) (σ:=bj) hpx with⟨u,e⟩|e
     .rw[e]at h1 ⊢;dsimp only[R.val]at h1;induction u using V.casesOn with
      |bool b=>induction b with
       |true=>exact jE h1
       |false=>rfl
      |_=>exact jE h1
     .rw[e]at h1;exact jE h1
    refine λQ E q=>zb (kdl_dict (bP.A1 D.z (aJ Cz))) D.hh hda (by rw[ZF];exact dj hlen) (λi v ⟨k,x,_,e⟩=>?_) λh' tk Dd out e' x1 Ao hat DJ hsz=>?_
    .obtain⟨t,e⟩:=Value.isInt_shape e;exact⟨k,t,e⟩
    .obtain⟨ks,rk,acF⟩:=ints_list (ρ:=aH) (X:=c.X) (h:=h') (P:=λk=>∃v,(k,v)∈l) (ws:=out.toList) λw hw=>by refine o31 (DJ w (by simpa using hw)) λi k x e e2=>?_;obtain⟨t,e3⟩:=Value.isInt_shape e2;exact⟨k,t,e3,hkm i k x e⟩
     have R2:=bP.ext x1;have g2:Go [] aH ay aH {ay with heap:=h',toks:=tk}:=Go.ext x1;have t2:St (c.wv vs) aH bj h':=eV.go g2 R2;have rD:bu aH c.X h' (.lst (ks.map .int)) (.ref Dd):=by exact bB Dd ⟨out.toList,rfl,λp hp q=>absurd (bP.lt hp q) (bO.mpr Ao),λq=>absurd (bP.vJ _ q) (bO.mpr Ao),⟨_,by rw[CX];exact hat⟩,rk⟩
     refine uN (c:=c) (s:={ay with heap:=h',toks:=tk}) R2 rD rfl λit own Ib g3 R3 I fr=>?_;have N':bW (c.wx (own++c.X)):=⟨N.nodup,N.ct,N.cs,N.frame,N.top,N.cells⟩;have yZ:St ((c.wx (own++c.X)).wv vs) aH bj Ib:=St.goX (c:=c.wv vs) (s:={ay with heap:=h',toks:=tk}) (s':={ay with heap:=Ib,toks:=tk}) t2 g3 R3 (λb q=>aU _ q) λb q=>(bg.mp q).elim (λz=>.inr (fr b z)) .inl;have J1:∀x∈own,x∉iH (c.wx (own++c.X)):=λx hx q=>by have:x∈c.X:=ux N N.cells t₀ x q;exact absurd (R2.vJ x this) (bO.mpr (fr x hx))
     refine dC (wQ (G:=G) (Φ:=c.Φ) (W:=W) (i:=i) (cX:=cX) (y:=y) (σ:=bj) (vs:=vs) ks vs (λk m=>acG k (acF k m)) λU=>rfl) λk6 he hf=>?_;have hT:∀ρ h a b,TS (c.wx (own++c.X)) ρ h a b->TS c ρ h a b:=λρ h a b q=>by refine⟨pK.less q.1 (λb hb=>aU _ hb) t₀.fr.own λy a e=>(t₀.fr.cells y a e).1,da.back t₀.oq q.2.1,?_⟩;obtain⟨fl,k6⟩:=a;have q3:=q.2.2;induction fl<;>induction b using PySem.Flow.casesOn<;>first|exact q3|exact bu.less q3 λb hb=>aU _ hb
     have lp:=ru (c:=c.wx (own++c.X)) (s:={ay with heap:=Ib,toks:=tk}) D.hh D.fr N' (rY (c:=c.wx (own++c.X)) (t:=.n i) (l:=ks.map .int)) (hb _) (BU (p:=p) N' hi hk) rfl (λz_=>by obtain⟨_,e⟩:=z_;exact nomatch e) (λx hx=>bS _ hx) J1 (n:=(ks.map V.int).length) yZ I;simp only[Nat.add_zero,if_true,yl]at lp;rw[show jc (.n i) (λvs σ=>l5 G (c.wx (own++c.X)).Φ W [.ite cX [.ret y] []] vs σ) (ks.map .int) vs bj=.ok (.nx,k6) bj from he]at lp;have lp:=Aa.less (c:=c) lp t₀.oq hT;refine lp Q E λf bJ s' g R' t'=>q f bJ s' (Go.qB (own:=own) ((g2.any.trans (ay:={ay with heap:=h',toks:=tk}) g3.any).trans g) λb m=>aQ x1.1 (fr b m)) R' ?_;exact⟨pK.forget t'.1 λj v e=>Fe (hf ae) j v e,t'.2⟩
end
structure Sc where
 sc:xj
 vt:List Str
 ct:List Str
structure hW (K:Sc)(c:Cx):Prop where
 scope:c.env.scope=K.sc
 vt:c.vt=K.vt
 ct:c.ct=K.ct
 fa:∀(f:Nat) x,rC[f]?=aa x->∃a,c.Z.fa[f]?=aa a
noncomputable def dbg (x:Str):Bool:=x==("__debug__" : Str)
noncomputable def sR (K:Sc)(x:Str)(k:f9):Bool:=decide (K.sc.names.lookup x=aa k)
section
variable {K:Sc}{c:Cx}{x:Str}{k:f9}{i:Nat}
theorem fM (h:hW K c)(e:sR K x k=af):c.env.kindOf x=aa k:=by have:=of_decide_eq_true e;unfold Env.kindOf;rw[h.scope];exact this
theorem hW.va (h:hW K c)(e:K.vt[i]?=aa x):c.vt[i]?=aa x:=h.vt▸e
theorem hW.ca (h:hW K c)(e:K.ct[i]?=aa x):c.ct[i]?=aa x:=h.ct▸e
theorem hW.cn (h:hW K c)(e:x∉K.ct):x∉c.ct:=h.ct▸e
theorem hW.wv (C:hW K c)(vs:Vs):hW K (c.wv vs):=⟨C.scope,C.vt,C.ct,C.fa⟩
theorem hW.wx (C:hW K c)(X:List aK):hW K (c.wx X):=⟨C.scope,C.vt,C.ct,C.fa⟩
theorem bW.wx (N:bW c)(X:List aK):bW (c.wx X):=⟨N.nodup,N.ct,N.cs,N.frame,N.top,N.cells⟩
end
noncomputable def ye (K:Sc)(scope:xj)(x:Str):Bool :=
 decide (scope.kind=.function)&&scope.names.all (λy=>decide (y.2≠.cell))&&scope.names.all (λy=>decide (y.2=.local->scope.names.lookup y.1=aa .local))&&decide (scope.names.lookup x=aa .local) &&
 scope.names.all (λy=>decide (y.2=.free->K.sc.names.lookup y.1=aa .cell))&&K.vt.all (λy=>decide ((zm K.sc scope.names).lookup y=aa .local->y=x))
theorem xa {K:Sc}{c:Cx}{x:Str}(h:hW K c)(e:ye K scope x=af):pN c scope x:=by
 simp only[ye,bz,bI,decide_eq_true_eq]at e;obtain⟨⟨⟨⟨⟨e1,e2⟩,e3⟩,e4⟩,e5⟩,e6⟩:=e;refine⟨e1,e2,e3,e4,λn hn=>?_,λy hy hv=>?_⟩
 .unfold Env.kindOf;rw[h.scope];exact e5 _ hn rfl
 .rw[h.scope]at hy;rw[h.vt]at hv;exact au.mpr (e6 y hv hy)
noncomputable def Sc.inner (K:Sc)(scope:xj)(x:Str):Sc:=⟨{scope with names:=zm K.sc scope.names},K.vt,[x]⟩
theorem lO {K:Sc}{c:Cx}{x:Str}(h:hW K c)(C:aK)(X:List aK)(cs:List V):hW (K.inner scope x) (d7 c scope x C X cs):=by refine⟨?_,h.vt,rfl,h.fa⟩;refine(?_:relabel scope c.env={scope with names:=zm K.sc scope.names});rw[<- h.scope];rfl
def gd (b:Bool)(e:bY):Bool:=!b||byValue e
noncomputable def Gb:X->Bool
 |.nz _=>ag
 |.pC _=>ag
 |_=>af
def A2 (e:X):Bool:=!(eG e.ix 34)
noncomputable def xU (e:bY):Bool:=!(eG e.ctorIdx 7)
def PX (b:Bool)(c:Cx)(x:X)(e:bY):Prop:=(b=ag->SX c x e)/\(b=af->SB c x e)
theorem Z6 {b:Bool}{c:Cx}{x:X}(h:SX c x e)(g:gd b e=af):PX b c x e:=⟨λU=>h,λhb=>Q5 h (uP (by subst hb;exact g))⟩
theorem e9.mono {P Q:X->bY->Prop}(h:∀x e,P x e->Q x e){l:List X}(a:e9 P l es):e9 Q l es:=by
 induction a with
 |nil=>exact .nil
 |cons p q _ ih=>exact .cons (h _ _ p) q ih
theorem e9.sx {c:Cx}{l:List X}(a:e9 (PX ag c) l es):e9 (SX c) l es:=a.mono λU U p=>p.1 rfl
theorem e9.sb {c:Cx}{l:List X}(a:e9 (PX af c) l es):e9 (SB c) l es:=a.mono λU U p=>p.2 rfl
theorem wY {x:X}(h:Gb x=af):jK x=iY:=by induction x using X.casesOn<;>first|rfl|exact jE h
theorem Dh (t:Nat):(st (uc t),xi (uc t))∈gV:=by
 unfold uc
 split
 .simp[gV]
 .split<;>simp[gV]
theorem rB  (h:xU e=af)(v:ax):iI e env v=pure v:=by induction e using PySem.Expr.casesOn<;>first|rfl|exact jE h
theorem ne_nil {α:Type}{l:List α}(h:(!l.isEmpty)=af):l≠[]:=λe=>by subst e;exact jE h
theorem uZ {x:Str}(h:(!dbg x)=af):(x==("__debug__" : Str))=ag:=by simpa[dbg]using h
inductive dA (p:Prop):Type where
 |yes (h:p)
 |no
section
variable {p q r:Prop}
noncomputable def dA.b:dA p->(p->dA q)->dA q
 |.yes h,f=>f h
 |.no,_=>.no
noncomputable def dA.m (a:dA p)(f:p->q):dA q:=a.b λh=>.yes (f h)
noncomputable def dA.m2 (a:dA p)(b:dA q)(f:p->q->r):dA r:=a.b λh=>b.m (f h)
noncomputable def dA.o:dA p->dA p->dA p
 |.yes h,_=>.yes h
 |.no,c=>c
noncomputable def dA.y:dA p->Bool
 |.yes _=>af
 |.no=>ag
theorem dA.get:(a:dA p)->a.y=af->p
 |.yes h,_=>h
noncomputable def ck:(b:Bool)->dA (b=af)
 |true=>.yes rfl
 |false=>.no
noncomputable def cd (p:Prop)[Decidable p]:dA p:=if h:p then .yes h else .no
noncomputable def qa {α:Type}[DecidableEq α]{q:α->Prop}(b:α)(a:α)(f:dA (q b)):dA (q a):=if h:b=a then h▸f else .no
noncomputable def xx {α:Type}{q:List α->Prop}(l:List α)(f:∀a,dA (q [a])):dA (q l):=match l with
 |[a]=>f a
 |_=>.no
noncomputable def Iu {α:Type}{q:List α->Prop}(l:List α)(f:∀a b,dA (q [a,b])):dA (q l):=match l with
 |[a,b]=>f a b
 |_=>.no
noncomputable def q7 {α:Type}{q:List α->Prop}(l:List α)(f:dA (q [])):dA (q l):=match l with
 |[]=>f
 |_=>.no
noncomputable def yK {α:Type}{q:Option α->Prop}(l:Option α)(f:∀a,dA (q (aa a))):dA (q l):=match l with
 |some a=>f a
 |none=>.no
end
section
variable {q:bY->Prop}
noncomputable def jY (e:bY)(f:∀x p,dA (q (.Name x p))):dA (q e):=if h:e.ctorIdx=23 then Expr.Name.elim (motive_1:=λe=>dA (q e)) e h f else .no
noncomputable def AF (e:bY)(f:∀x k p,dA (q (.Constant x k p))):dA (q e):=if h:e.ctorIdx=19 then Expr.Constant.elim (motive_1:=λe=>dA (q e)) e h f else .no
noncomputable def EE (e:bY)(f:∀x k p,dA (q (.Tuple x k p))):dA (q e):=if h:e.ctorIdx=25 then Expr.Tuple.elim (motive_1:=λe=>dA (q e)) e h f else .no
noncomputable def aaN (e:bY)(f:∀x p,dA (q (.List x p))):dA (q e):=if h:e.ctorIdx=24 then Expr.List.elim (motive_1:=λe=>dA (q e)) e h f else .no
noncomputable def K6 (e:bY)(f:∀k x p,dA (q (.Dict k x p))):dA (q e):=if h:e.ctorIdx=6 then Expr.Dict.elim (motive_1:=λe=>dA (q e)) e h f else .no
noncomputable def aaQ (e:bY)(f:∀a o b p,dA (q (.BinOp a o b p))):dA (q e):=if h:e.ctorIdx=2 then Expr.BinOp.elim (motive_1:=λe=>dA (q e)) e h f else .no
noncomputable def wUn (e:bY)(f:∀o a p,dA (q (.UnaryOp o a p))):dA (q e):=if h:e.ctorIdx=3 then Expr.UnaryOp.elim (motive_1:=λe=>dA (q e)) e h f else .no
noncomputable def aaP (e:bY)(f:∀a o b p,dA (q (.Compare a o b p))):dA (q e):=if h:e.ctorIdx=15 then Expr.Compare.elim (motive_1:=λe=>dA (q e)) e h f else .no
noncomputable def K8 (e:bY)(f:∀o l p,dA (q (.BoolOp o l p))):dA (q e):=if h:e.ctorIdx=0 then Expr.BoolOp.elim (motive_1:=λe=>dA (q e)) e h f else .no
noncomputable def wIf (e:bY)(f:∀a b c p,dA (q (.IfExp a b c p))):dA (q e):=if h:e.ctorIdx=5 then Expr.IfExp.elim (motive_1:=λe=>dA (q e)) e h f else .no
noncomputable def EF (e:bY)(f:∀a b p,dA (q (.Subscript a b p))):dA (q e):=if h:e.ctorIdx=21 then Expr.Subscript.elim (motive_1:=λe=>dA (q e)) e h f else .no
noncomputable def wSl (e:bY)(f:∀a b c p,dA (q (.Slice a b c p))):dA (q e):=if h:e.ctorIdx=26 then Expr.Slice.elim (motive_1:=λe=>dA (q e)) e h f else .no
noncomputable def yL (e:bY)(f:∀a n p,dA (q (.Attribute a n p))):dA (q e):=if h:e.ctorIdx=20 then Expr.Attribute.elim (motive_1:=λe=>dA (q e)) e h f else .no
noncomputable def QM (e:bY)(f:∀g l k p,dA (q (.Call g l k p))):dA (q e):=if h:e.ctorIdx=16 then Expr.Call.elim (motive_1:=λe=>dA (q e)) e h f else .no
noncomputable def wLc (e:bY)(f:∀a g s p,dA (q (.ListComp a g s p))):dA (q e):=if h:e.ctorIdx=8 then Expr.ListComp.elim (motive_1:=λe=>dA (q e)) e h f else .no
noncomputable def wj (e:bY)(f:∀n p l r,dA (q (.Call (.Name n p) l [] r))):dA (q e):=QM e λg l k r=>q7 (q:=λk=>q (.Call g l k r)) k (jY (q:=λg=>q (.Call g l [] r)) g λn p=>f n p l r)
noncomputable def Nu (n:Str)(e:bY)(f:∀p a r,dA (q (.Call (.Name n p) [a] [] r))):dA (q e):=wj e λm p l r=>qa (q:=λm=>q (.Call (.Name m p) l [] r)) n m (xx (q:=λl=>q (.Call (.Name n p) l [] r)) l λa=>f p a r)
def Nt (n:Str)(e:bY)(f:∀o p l r,(p.endLine==r.line)=af->gc o=af->dA (q (.Call (.Attribute o n p) l [] r))):dA (q e) :=
 QM e λg l k r=>q7 (q:=λk=>q (.Call g l k r)) k (yL (q:=λg=>q (.Call g l [] r)) g λo m p=>qa (q:=λm=>q (.Call (.Attribute o m p) l [] r)) n m ((ck (p.endLine==r.line)).b λh1=>(ck (gc o)).b λh2=>f o p l r h1 h2))
def P7 (n:Str)(e:bY)(f:∀o p a r,(p.endLine==r.line)=af->gc o=af->noStar a=af->dA (q (.Call (.Attribute o n p) [a] [] r))):dA (q e) :=
 Nt n e λo p l r h h'=>xx (q:=λl=>q (.Call (.Attribute o n p) l [] r)) l λa=>(ck (noStar a)).b (f o p a r h h')
noncomputable def aaO {q:En->Prop}(g:En)(f:∀x px iter ifs,dA (q ⟨.Name x px,iter,ifs,0⟩)):dA (q g):=match g with
 |⟨t,iter,ifs,a⟩=>qa (q:=λa=>q ⟨t,iter,ifs,a⟩) 0 a (jY (q:=λt=>q ⟨t,iter,ifs,0⟩) t λx px=>f x px iter ifs)
noncomputable def K7 (e:bY)(f:∀elt x px iter ifs s p,dA (q (.ListComp elt [⟨.Name x px,iter,ifs,0⟩] s p))):dA (q e) :=
 wLc e λelt g s p=>xx (q:=λg=>q (.ListComp elt g s p)) g λg=>aaO (q:=λg=>q (.ListComp elt [g] s p)) g λx px iter ifs=>f elt x px iter ifs s p
end
noncomputable def MO:(ks:List Int)->(es:List (Option bY))->dA (rL .int ks es)
 |[],es=>q7 es (.yes .nil)
 |k::ks,aa (.Constant (.int j) _ _)::es=>qa (q:=λj=>rL .int (k::ks) (aa (.Constant (.int j) _ _)::es)) k j ((MO ks es).m λh=>.cons h)
 |_,_=>.no
noncomputable def MN:(ks:List Str)->(es:List (Option bY))->dA (rL .str ks es)
 |[],es=>q7 es (.yes .nil)
 |k::ks,aa (.Constant (.str j) _ _)::es=>qa (q:=λj=>rL .str (k::ks) (aa (.Constant (.str j) _ _)::es)) k j ((MN ks es).m λh=>.cons h)
 |_,_=>.no
noncomputable def cK (v:V)(k:Const):dA (∀(c:Cx) n p,SX c (.k v) (.Constant k n p)):=match v,k with
 |.none,.none=>.yes λU U U=>ID
 |.bool a,.bool b=>qa (q:=λb=>∀(c:Cx) n p,SX c (.k (.bool a)) (.Constant (.bool b) n p)) a b (.yes λU U U=>BV)
 |.int a,.int b=>qa (q:=λb=>∀(c:Cx) n p,SX c (.k (.int a)) (.Constant (.int b) n p)) a b (.yes λU U U=>NO)
 |.str a,.str b=>qa (q:=λb=>∀(c:Cx) n p,SX c (.k (.str a)) (.Constant (.str b) n p)) a b (.yes λU U U=>ND)
 |_,_=>.no
section
variable (mg mb:Str->Option ax)
def PK (K:Sc)(b:Bool)(x:X)(e:bY):Prop:=∀c,Ok c mg mb->hW K c->PX b c x e
def PKs (K:Sc)(b:Bool)(l:List X)(es:List bY):Prop:=∀c,Ok c mg mb->hW K c->e9 (PX b c) l es
def PI (K:Sc)(x:X)(e:bY):Prop:=∀c,Ok c mg mb->hW K c->s6 c x e
def gk {K:Sc}{b:Bool}{x:X}(a:dA (PK mg mb K ag x e)):dA (PK mg mb K b x e):=(ck (gd b e)).m2 a λg h c D C=>Z6 ((h c D C).1 rfl) g
end
section
theorem PK.n {K:Sc}{x:X}(h:∀c,Ok c mg mb->hW K c->SX c x e):PK mg mb K ag x e:=λc D C=>⟨λU=>h c D C,λe=>by exact jE e⟩
mutual
def cX (K:Sc)(b:Bool):(x:X)->(e:bY)->dA (PK mg mb K b x e)
 |.k v,e=>gk _ _ (AF e λk n p=>(cK v k).m λh=>.n λc U U=>h c n p)
 |.v i,e=>gk _ _ (jY e λx p=>(cd (K.vt[i]?=aa x)).b λh1=>(ck (!dbg x)).b λh2 =>
   ((cd (x∉K.ct)).m2 (ck (sR K x .local)) λh3 h4=>.n λc U C=>EU (C.va h1) (C.cn h3) (fM C h4) (uZ h2)).o
   ((ck (sR K x .cell)).m λh4=>.n λc U C=>II (C.va h1) (fM C h4) (uZ h2)))
 |.c i,e=>gk _ _ (jY e λx p=>(cd (K.ct[i]?=aa x)).b λh1=>(ck (!dbg x)).m2 (ck (sR K x .local)) λh2 h3=>.n λc U C=>IH (C.ca h1) (fM C h3) (uZ h2))
 |.g i,e=>gk _ _ (jY e λx p=>(cd (ya[i]?=aa x)).b λh1=>(ck (!dbg x)).m2 (ck (sR K x .globalImplicit)) λh2 h3=>.n λc D C=>Dl D.zV h1 (fM C h3) (uZ h2))
 |.tup l,e=>gk _ _ (EE e λes n p=>(cL K ag l es).m λh=>.n λc D C=>NB (h c D C).sx)
 |.lst m l,e=>gk _ _ (aaN e λes p=>(cL K ag l es).m λh=>.n λc D C=>NK (h c D C).sx)
 |.z4 ks l,e=>gk _ _ (K6 e λk es p=>(MO ks k).b λh1=>(cd (es.length=ks.length)).b λh3=>(cd (ks.length<=15)).m2 (cL K ag l es) λh4 h2=>.n λc D C=>IG h1 (h2 c D C).sx h3 h4)
 |.sY ks l,e=>gk _ _ (K6 e λk es p=>(MN ks k).b λh1=>(cd (es.length=ks.length)).b λh3=>(cd (ks.length<=15)).m2 (cL K ag l es) λh4 h2=>.n λc D C=>IF h1 (h2 c D C).sx h3 h4)
 |.bin o m x y,e=>gk _ _ (aaQ e λa op b' p=>qa (q:=λop=>PK mg mb K ag (.bin o m x y) (.BinOp a op b' p)) (Qd o) op ((cX K ag x a).m2 (cX K ag y b') λh1 h2=>.n λc D C=>NR ((h1 c D C).1 rfl) ((h2 c D C).1 rfl)))
 |.neg x,e=>gk _ _ (wUn e λop a p=>qa (q:=λop=>PK mg mb K ag (.neg x) (.UnaryOp op a p)) .USub op ((cX K ag x a).m λh=>.n λc D C=>NJ ((h c D C).1 rfl)))
 |.cmp x o l,e=>aaP e λa ops es p=>qa (q:=λops=>PK mg mb K b (.cmp x o l) (.Compare a ops es p)) (o.map Aj) ops ((cd (o.length=l.length)).b λh2=>(cX K ag x a).m2 (cL K ag l es) λh1 h c D C=>⟨λU=>NQ D ((h1 c D C).1 rfl) (h c D C).sx h2,λU=>Oa D ((h1 c D C).1 rfl) (h c D C).sx h2⟩)
 |.and l,e=>K8 e λop es p=>qa (q:=λop=>PK mg mb K b (.and l) (.BoolOp op es p)) .And op ((ck (!l.isEmpty)).m2 (cL K b l es) λh2 h c D C=>⟨λe=>NU (e9.sx (e▸h c D C)) (ne_nil h2),λe=>Ob (e9.sb (e▸h c D C))⟩)
 |.or l,e=>K8 e λop es p=>qa (q:=λop=>PK mg mb K b (.or l) (.BoolOp op es p)) .Or op ((ck (!l.isEmpty)).m2 (cL K b l es) λh2 h c D C=>⟨λe=>QS (e9.sx (e▸h c D C)) (ne_nil h2),λe=>Q4 (e9.sb (e▸h c D C))⟩)
 |.not x,e=>wUn e λop a p=>qa (q:=λop=>PK mg mb K b (.not x) (.UnaryOp op a p)) .Not op ((cX K b x a).m λh c D C=>⟨λe=>NI ((h c D C).1 e),λe=>N8 ((h c D C).2 e)⟩)
 |.ite t x y,e=>wIf e λet ea eb p=>(cX K af t et).b λh1=>(cX K b x ea).m2 (cX K b y eb) λh2 h3 c D C=>⟨λe=>NM ((h1 c D C).2 rfl) ((h2 c D C).1 e) ((h3 c D C).1 e),λe=>N9 ((h1 c D C).2 rfl) ((h2 c D C).2 e) ((h3 c D C).2 e)⟩
 |.sub x y,e=>gk _ _ (EF e λa i p=>(ck (lj i)).b λh1=>(cX K ag x a).m2 (cX K ag y i) λh2 h3=>.n λc D C=>NC D ((h2 c D C).1 rfl) ((h3 c D C).1 rfl) h1)
 |.xN x y,e=>gk _ _ (EF e λa i p=>wSl (q:=λi=>PK mg mb K ag (.xN x y) (.Subscript a i p)) i λlo hi st q=>yK (q:=λlo=>PK mg mb K ag (.xN x y) (.Subscript a (.Slice lo hi st q) p)) lo λlo=>match hi,st with
   |none,ae=>(cX K ag x a).m2 (cX K ag y lo) λh2 h3=>.n λc D C=>NF D ((h2 c D C).1 rfl) ((h3 c D C).1 rfl)
   |_,_=>.no)
 |.vE x y,e=>gk _ _ (EF e λa i p=>wSl (q:=λi=>PK mg mb K ag (.vE x y) (.Subscript a i p)) i λlo hi st q=>yK (q:=λhi=>PK mg mb K ag (.vE x y) (.Subscript a (.Slice lo hi st q) p)) hi λhi=>match lo,st with
   |none,ae=>(cX K ag x a).m2 (cX K ag y hi) λh2 h3=>.n λc D C=>NG D ((h2 c D C).1 rfl) ((h3 c D C).1 rfl)
   |_,_=>.no)
 |.dm x f,e=>gk _ _ (yL e λa n p=>(cd (fields[f]?=aa n)).b λh1=>(ck (gc a)).m2 (cX K ag x a) λh2 h3=>.n λc D C=>NS D ((h3 c D C).1 rfl) h1 h2)
 |.call f l,e=>gk _ _ (wj e λn p es r=>(cd (rC[f]?=aa n)).b λh1=>(cd (f≠0)).b λh2=>(ck (!dbg n)).b λh3=>(ck (sR K n .globalImplicit)).m2 (cL K ag l es) λh4 h5=>.n λc D C=>(C.fa f n h1).elim λU ha=>IJ D h1 ha h2 (fM C h4) (uZ h3) (h5 c D C).sx)
 |.len x,e=>gk _ _ (Nu (st "len") e λp a r=>(ck (noStar a)).b λhs=>(ck (sR K (st "len") .globalImplicit)).m2 (cX K ag x a) λh1 h2=>.n λc D C=>NL D ((h2 c D C).1 rfl) hs (fM C h1))
 |.abs x,e=>gk _ _ (Nu (st "abs") e λp a r=>(ck (noStar a)).b λhs=>(ck (sR K (st "abs") .globalImplicit)).m2 (cX K ag x a) λh1 h2=>.n λc D C=>NV D ((h2 c D C).1 rfl) hs (fM C h1))
 |.k7 x,e=>gk _ _ (Nu (st "int") e λp a r=>(ck (noStar a)).b λhs=>(ck (sR K (st "int") .globalImplicit)).m2 (cX K ag x a) λh1 h2=>.n λc D C=>ES D ((h2 c D C).1 rfl) hs (fM C h1))
 |.tolist x,e=>gk _ _ (Nu (st "list") e λp a r=>(ck (noStar a)).b λhs=>(ck (sR K (st "list") .globalImplicit)).m2 (cX K ag x a) λh1 h2=>.n λc D C=>Dk D ((h2 c D C).1 rfl) hs (fM C h1))
 |.An t x,e=>gk _ _ (wj e λn p es r=>qa (q:=λn=>PK mg mb K ag (.An t x) (.Call (.Name n p) es [] r)) (st "isinstance") n (Iu (q:=λes=>PK mg mb K ag (.An t x) (.Call (.Name (st "isinstance") p) es [] r)) es λa u=>jY (q:=λu=>PK mg mb K ag (.An t x) (.Call (.Name (st "isinstance") p) [a,u] [] r)) u λm p'=>qa (q:=λm=>PK mg mb K ag (.An t x) (.Call (.Name (st "isinstance") p) [a,.Name m p'] [] r)) (st (uc t)) m
   ((ck (noStar a)).b λh3=>(ck (sR K (st "isinstance") .globalImplicit)).b λh4=>(ck (sR K (st (uc t)) .globalImplicit)).b λh5=>(cd ((st (uc t)==("__debug__" : Str))=ag)).m2 (cX K ag x a) λh7 h6=>.n λc D C=>NN D ((h6 c D C).1 rfl) h3 (fM C h4) (Dh t) (fM C h5) h7)))
 |.app x y,e=>gk _ _ (P7 (st "append") e λo p a r h1 h2 h3=>(cX K ag x o).m2 (cX K ag y a) λh4 h5=>.n λc D C=>NT ((h4 c D C).1 rfl) ((h5 c D C).1 rfl) h3 h2 h1)
 |.ext x y,e=>gk _ _ (P7 (st "extend") e λo p a r h1 h2 h3=>(cX K ag x o).m2 (cX K ag y a) λh4 h5=>.n λc D C=>NP ((h4 c D C).1 rfl) ((h5 c D C).1 rfl) h3 h2 h1)
 |.uu x y,e=>gk _ _ (P7 (st "pop") e λo p a r h1 h2 h3=>(cX K ag x o).m2 (cX K ag y a) λh4 h5=>.n λc D C=>IC ((h4 c D C).1 rfl) ((h5 c D C).1 rfl) h3 h2 h1)
 |.index x y,e=>gk _ _ (P7 (st "index") e λo p a r h1 h2 h3=>(cX K ag x o).m2 (cX K ag y a) λh4 h5=>.n λc D C=>EW ((h4 c D C).1 rfl) ((h5 c D C).1 rfl) h3 h2 h1)
 |.zZ x y,e=>gk _ _ (P7 (st "get") e λo p a r h1 h2 h3=>(cX K ag x o).m2 (cX K ag y a) λh4 h5=>.n λc D C=>IE D ((h4 c D C).1 rfl) ((h5 c D C).1 rfl) h3 h2 h1)
 |.pop x,e=>gk _ _ (Nt (st "pop") e λo p l r h1 h2=>q7 (q:=λl=>PK mg mb K ag (.pop x) (.Call (.Attribute o (st "pop") p) l [] r)) l ((cX K ag x o).m λh=>.n λc D C=>NH ((h c D C).1 rfl) h2 h1))
 |.split x u,e=>gk _ _ (P7 (st "split") e λo p a r h1 h2 U=>AF (q:=λa=>PK mg mb K ag (.split x u) (.Call (.Attribute o (st "split") p) [a] [] r)) a λk n p'=>qa (q:=λk=>PK mg mb K ag (.split x u) (.Call (.Attribute o (st "split") p) [.Constant k n p'] [] r)) (.str u) k ((cX K ag x o).m λh=>.n λc D C=>ET ((h c D C).1 rfl) h2 h1))
 |.mk l,e=>gk _ _ (wj e λn p es r=>qa (q:=λn=>PK mg mb K ag (.mk l) (.Call (.Name n p) es [] r)) (st "Unit") n ((ck (sR K (st "Unit") .globalImplicit)).b λh2=>(ck (!l.isEmpty)).m2 (cL K ag l es) λh3 h4=>.n λc D C=>QT D (fM C h2) (h4 c D C).sx (ne_nil h3)))
 |.comp m x y l,e=>gk _ _ (K7 e λelt n px iter ifs s p=>(ck (ye K s n)).b λh1=>(cX (K.inner s n) ag x elt).b λh2=>(cL (K.inner s n) af l ifs).b λh3=>(ck (xU iter)).b λh4=>(ck (A2 y)).m2
   (((ck (Gb y)).m2 (cX K ag y iter) λhn h c D C=>zl ((h c D C).1 rfl) λσ=>congrArg (R.bind _) (wY hn)).o (cI K y iter)) λh5 h6=>.n λc D C =>
    EV D (xa C h1) (λCa X' v=>(h2 (d7 c s n Ca X' [v]) (D.cx rfl rfl rfl rfl) (lO C Ca X' [v])).1 rfl) (λCa X' v=>(h3 (d7 c s n Ca X' [v]) (D.cx rfl rfl rfl rfl) (lO C Ca X' [v])).sb) (h6 c D C) (rB h4) λa e=>by subst e;exact jE h5)
 |.nz _,_=>.no
 |.pC _,_=>.no
termination_by structural x=>x
def cL (K:Sc)(b:Bool):(l:List X)->(es:List bY)->dA (PKs mg mb K b l es)
 |[],es=>q7 es (.yes λU U U=>.nil)
 |x::l,e::es=>(cX K b x e).b λh1=>(ck (noStar e)).m2 (cL K b l es) λh2 h3 c D C=>.cons (h1 c D C) h2 (h3 c D C)
 |_::_,[]=>.no
termination_by structural x=>x
def cI (K:Sc):(x:X)->(e:bY)->dA (PI mg mb K x e)
 |.nz [x],e=>Nu (st "range") e λp a r=>(ck (noStar a)).b λhs=>(ck (sR K (st "range") .globalImplicit)).m2 (cX K ag x a) λh2 h c D C=>Jh D ((h c D C).1 rfl) hs (fM C h2)
 |.nz [x,y],e=>wj e λn p es r=>qa (q:=λn=>PI mg mb K (.nz [x,y]) (.Call (.Name n p) es [] r)) (st "range") n (Iu (q:=λes=>PI mg mb K (.nz [x,y]) (.Call (.Name (st "range") p) es [] r)) es λa b=>(ck (noStar a)).b λh1=>(ck (noStar b)).b λh3=>(ck (sR K (st "range") .globalImplicit)).b λh2=>(cX K ag x a).m2 (cX K ag y b) λh h' c D C=>Jg D ((h c D C).1 rfl) h1 ((h' c D C).1 rfl) h3 (fM C h2))
 |.pC x,e=>Nu (st "enumerate") e λp a r=>(ck (noStar a)).b λhs=>(ck (sR K (st "enumerate") .globalImplicit)).m2 (cX K ag x a) λh1 h c D C=>Of D ((h c D C).1 rfl) hs (fM C h1)
 |_,_=>.no
termination_by structural x=>x
end
end
section
variable {mg mb:Str->Option ax}{c:Cx}{K:Sc}{W:Nat}
theorem PK.v (D:Ok c mg mb)(N:bW c)(C:hW K c){x:X}{e:bY}(h:PK mg mb K ag x e):yi c x e:=yi.of N λvs=>(h _ (D.wv vs) (C.wv vs)).1 rfl
theorem PK.t (D:Ok c mg mb)(N:bW c)(C:hW K c){x:X}{e:bY}(h:PK mg mb K af x e):QD c x e:=QD.of N λvs=>(h _ (D.wv vs) (C.wv vs)).2 rfl
def lc (K:Sc)(n:Str):Bool:=sR K n .local||sR K n .cell
theorem wR {x:Str}(h:hW K c)(e:lc K x=af):c.env.kindOf x=aa .local\/c.env.kindOf x=aa .cell :=
 (Bool.or_eq_true _ _▸e:_\/_).imp (fM h) (fM h)
def PT (mg mb:Str->Option ax)(K:Sc)(t:TA)(e:bY):Prop:=∀c,Ok c mg mb->bW c->hW K c->SA c t e
def cTA (K:Sc)(t:TA)(e:bY):dA (PT mg mb K t e):=match t with
 |.n i=>jY e λn p=>(cd (K.vt[i]?=aa n)).m2 (ck (lc K n)) λh1 h2 c U N C=>I3 N (C.va h1) (wR C h2)
 |.dm o f=>yL e λa n p=>(cd (fields[f]?=aa n)).m2 (cX K ag o a) λh1 h2 c D N C=>Fh D (h2.v D N C) h1
 |.sub o i=>EF e λa j p=>(ck (lj j)).b λh1=>(cX K ag o a).m2 (cX K ag i j) λh2 h3 c D N C=>Fg D (h2.v D N C) (h3.v D N C) h1
def cT (K:Sc):(ts:List TA)->(es:List bY)->dA (∀c,Ok c mg mb->bW c->hW K c->vy (SA c) ts es)
 |[],es=>q7 (q:=λes=>∀c,Ok c mg mb->bW c->hW K c->vy (SA c) [] es) es (.yes λU U U U=>.nil)
 |t::l,e::r=>(cTA K t e).b λh1=>(ck (noStar e)).m2 (cT K l r) λh2 h3 c D N C=>.cons (h1 c D N C) h2 (h3 c D N C)
 |_::_,[]=>.no
def atN {q:List TA->Prop}(K:Sc):(ts:List TA)->(ns:List Str)->(f:∀is,(∀c,hW K c->Ay c is ns)->dA (q (is.map .n)))->dA (q ts)
 |[],[],f=>f [] λU U=>trivial
 |.n i::l,n::r,f=>(cd (K.vt[i]?=aa n)).b λh1=>(ck (lc K n)).b λh2=>atN (q:=λl=>q (.n i::l)) K l r λis h=>f (i::is) λc C=>⟨C.va h1,wR C h2,h c C⟩
 |_,_,_=>.no
def swE (K:Sc)(es:List bY)(k:Nat)(p:Pos)(e:bY)(r:Option (List Str)):dA (∀c,hW K c->c.env.scope.kind=.function->iu [.Tuple es k p] e c.env=pure r) :=
 ((ck (Ga e)).m2 (cd (ae=r)) λh h' c C U=>h'▸EZ h).o
 (EE (q:=λe=>∀c,hW K c->c.env.scope.kind=.function->iu [.Tuple es k p] e c.env=pure r) e λvs k' p'=>(cd (BW K.sc.names es vs=aa r)).m λh c C hk=>EY hk (by rw[C.scope];exact h))
def cTg (K:Sc)(t:Tg)(e:bY):dA (∀c,Ok c mg mb->bW c->hW K c->BA c t e):=match t with
 |.n i=>jY (q:=λe=>∀c,Ok c mg mb->bW c->hW K c->BA c (.n i) e) e λn p=>(cd (K.vt[i]?=aa n)).m2 (ck (lc K n)) λh1 h2 c U N C=>BU N (C.va h1) (wR C h2)
 |.t is=>EE (q:=λe=>∀c,Ok c mg mb->bW c->hW K c->BA c (.t is) e) e λes k p=>(cT K (is.map .n) es).m λh c D N C=>Nz N D.hh (h c D N C)
def cIt (K:Sc)(y:X)(e:bY):dA (PI mg mb K y e):=((ck (Gb y)).m2 (cX K ag y e) λhn h c D C=>zl ((h c D C).1 rfl) λσ=>congrArg (R.bind _) (wY hn)).o (cI K y e)
noncomputable def ME:X->Bool
 |.nz l=>j2 l
 |.pC _=>ag
 |x=>gr x
def swB (K:Sc)(t:Str)(p pos:Pos)(s:xj):Bool:=sR K t .local&&(p.line==pos.line)&&!(s.names.any λ(n,k)=>n==t&&(k==.local||k==.cell))
theorem E1 (C:hW K c){t:Str}{p pos:Pos}{s:xj}{a:bY}{g:List En}{n:Nat}(hk:c.env.scope.kind=.function):swapsWith (.ListComp a g s pos) (aa (.Name t p)) n c.env=pure (swB K t p pos s):=by
 have hb:(c.env.blockKind==As)=af:=by delta Env.blockKind;rw[hk];rfl
 have hl:(c.env.kindOf t==aa .local)=sR K t .local:=by delta sR Env.kindOf;rw[C.scope];cases jj t K.sc.names with|none=>rfl|some k=>induction k using PySem.NameKind.casesOn<;>rfl
 show pure (c.env.blockKind==.function&&c.env.kindOf t==aa .local&&p.line==pos.line&&!(s.names.any λ(n,k)=>n==t&&(k==.local||k==.cell)))=_;rw[hb,hl,Ae];rfl
theorem Cu {α:Type}{c:Prop}[Decidable c]{a:α}{σ τ:bo}(e:(if c then Internal.R.ok a σ else .bad)=.exc τ):False:=by
 by_cases h:c
 .rw[if_pos h]at e;exact Ra e
 .rw[if_neg h]at e;exact B8 e
theorem Fs {v:List V}{σ τ:bo}(e:AW (.tup v) σ=.exc τ):False:=by
 rcases v with _|⟨a,_|⟨b,_|_⟩⟩
 .exact B8 e
 .induction a using V.casesOn with
  |int i=>exact Cu e
  |_=>exact B8 e
 .induction a using V.casesOn with
  |int i=>induction b using V.casesOn with
   |int j=>exact Cu e
   |_=>exact B8 e
  |_=>exact B8 e
 .exact B8 e
theorem Ht {G:List V}{Φ:Nat->List V->bo->R V}{vs:Vs}{y:X}{σ cD:bo}(h:ME y=af):uX G Φ vs y [] σ≠.exc cD:=by
 have key:gr y=af->(∀v σ,jK y v σ≠.exc cD)->uX G Φ vs y [] σ≠.exc cD:=λhp hi e=>by
  delta uX at e;rcases d0 G Φ vs y [] σ hp with q|⟨v,q⟩
  .rw[q]at e;exact B8 e
  .rw[q]at e;exact hi v σ e
 induction y using X.casesOn with
 |nz l =>
  intro e;delta uX at e;change R.bind (R.bind _ _) _=_ at e;rw[R.bind_assoc]at e;rcases rf G Φ vs l [] σ h with q|⟨v,q⟩
  .rw[q]at e;exact B8 e
  .rw[q]at e;exact Fs e
 |pC a=>exact jE h
 |_=>exact key h λv σ e=>wX e
end
section
variable {mg mb:Str->Option ax}{W:Nat}{fB Nb:aK}{mN:Str->Option ax}{fd:ij}
structure Al (mg mb:Str->Option ax)(fB Nb:aK)(mN:Str->Option ax)(fd:ij)(K:Sc)(c:Cx):Prop where
 D:Ok c mg mb
 B:vx c.Z mg mb fB Nb mN fd
 hd:c.A.depth+2<fb
 N:bW c
 C:hW K c
theorem Al.wx {K:Sc}{c:Cx}(a:Al mg mb fB Nb mN fd K c)(X:List aK):Al mg mb fB Nb mN fd K (c.wx X):=⟨a.D.cx rfl rfl rfl rfl,a.B,a.hd,a.N.wx X,a.C.wx X⟩
variable (mg mb W fB Nb mN fd)in
def PS (K:Sc)(x:S)(s:iO):Prop:=∀c,Al mg mb fB Nb mN fd K c->SS c W x s
variable (mg mb W fB Nb mN fd)in
def PSs (K:Sc)(x:List S)(s:List iO):Prop:=∀c,Al mg mb fB Nb mN fd K c->DY c W x s
section
variable {q:iO->Prop}
noncomputable def K5 {α:Type}{q:Option α->Prop}(o:Option α)(f:dA (q ae)):dA (q o):=match o with
 |none=>f
 |some _=>.no
noncomputable def wBl {q:Const->Prop}(c:Const)(f:∀b,dA (q (.bool b))):dA (q c):=match c with
 |.bool b=>f b
 |_=>.no
noncomputable def wEh {q:ExceptHandler->Prop}(h:ExceptHandler)(f:∀t b p,dA (q (.ExceptHandler (aa t) ae b p))):dA (q h):=match h with
 |.ExceptHandler t n b p=>yK (q:=λt=>q (.ExceptHandler t n b p)) t λt=>K5 (q:=λn=>q (.ExceptHandler (aa t) n b p)) n (f t b p)
noncomputable def AA (s:iO)(f:∀e p,dA (q (.Expr e p))):dA (q s):=if h:s.ctorIdx=24 then Stmt.Expr.elim (motive_2:=λs=>dA (q s)) s h f else .no
noncomputable def yF (s:iO)(f:∀t e p,dA (q (.Assign [t] e p))):dA (q s):=if h:s.ctorIdx=5 then Stmt.Assign.elim (motive_2:=λs=>dA (q s)) s h λl e p=>xx (q:=λl=>q (.Assign l e p)) l λt=>f t e p else .no
noncomputable def K1 (s:iO)(f:∀e p,dA (q (.Return e p))):dA (q s):=if h:s.ctorIdx=3 then Stmt.Return.elim (motive_2:=λs=>dA (q s)) s h f else .no
noncomputable def QI (s:iO)(f:∀e a b p,dA (q (.If e a b p))):dA (q s):=if h:s.ctorIdx=12 then Stmt.If.elim (motive_2:=λs=>dA (q s)) s h f else .no
noncomputable def Il (s:iO)(f:∀e a p,dA (q (.While e a [] p))):dA (q s):=if h:s.ctorIdx=11 then Stmt.While.elim (motive_2:=λs=>dA (q s)) s h λe a l p=>q7 (q:=λl=>q (.While e a l p)) l (f e a p)else .no
noncomputable def K2 (s:iO)(f:∀t e a p,dA (q (.For t e a [] p))):dA (q s):=if h:s.ctorIdx=9 then Stmt.For.elim (motive_2:=λs=>dA (q s)) s h λt e a l p=>q7 (q:=λl=>q (.For t e a l p)) l (f t e a p)else .no
noncomputable def Im (s:iO)(f:∀n np ea eb cp p,dA (q (.Raise (aa (.Call (.Name n np) [ea,eb] [] cp)) ae p))):dA (q s):=if h:s.ctorIdx=16 then Stmt.Raise.elim (motive_2:=λs=>dA (q s)) s h λex ca p=>yK (q:=λex=>q (.Raise ex ca p)) ex λe=>K5 (q:=λca=>q (.Raise (aa e) ca p)) ca (wj (q:=λe=>q (.Raise (aa e) ae p)) e λn np l cp=>Iu (q:=λl=>q (.Raise (aa (.Call (.Name n np) l [] cp)) ae p)) l λea eb=>f n np ea eb cp p)else .no
noncomputable def K4 (s:iO)(f:∀b k p2 p3,dA (q (.Return (aa (.Constant (.bool b) k p2)) p3))):dA (q s):=K1 s λo p3=>yK (q:=λo=>q (.Return o p3)) o λe=>AF (q:=λe=>q (.Return (aa e) p3)) e λc k p2=>wBl (q:=λc=>q (.Return (aa (.Constant c k p2)) p3)) c λb=>f b k p2 p3
noncomputable def QH (s:iO)(f:∀e p1 n np b k p2 p3 p4 p,dA (q (.Try [.Expr e p1] [.ExceptHandler (aa (.Name n np)) ae [.Return (aa (.Constant (.bool b) k p2)) p3] p4] [] [] p))):dA (q s):=if h:s.ctorIdx=17 then Stmt.Try.elim (motive_2:=λs=>dA (q s)) s h λa hs o fi p=>q7 (q:=λfi=>q (.Try a hs o fi p)) fi (q7 (q:=λo=>q (.Try a hs o [] p)) o (xx (q:=λa=>q (.Try a hs [] [] p)) a λst=>AA (q:=λst=>q (.Try [st] hs [] [] p)) st λe p1=>xx (q:=λhs=>q (.Try [.Expr e p1] hs [] [] p)) hs λhd=>wEh (q:=λhd=>q (.Try [.Expr e p1] [hd] [] [] p)) hd λt b p4=>jY (q:=λt=>q (.Try [.Expr e p1] [.ExceptHandler (aa t) ae b p4] [] [] p)) t λn np =>
 xx (q:=λb=>q (.Try [.Expr e p1] [.ExceptHandler (aa (.Name n np)) ae b p4] [] [] p)) b λr=>K4 (q:=λr=>q (.Try [.Expr e p1] [.ExceptHandler (aa (.Name n np)) ae [r] p4] [] [] p)) r λb k p2 p3=>f e p1 n np b k p2 p3 p4 p))else .no
noncomputable def wFb {q:List iO->Prop}(l:List iO)(f:∀et k p3 p2 p1,dA (q [.If et [.Return (aa (.Constant (.bool ag) k p3)) p2] [] p1])):dA (q l):=xx l λs=>QI (q:=λs=>q [s]) s λet a b p1=>q7 (q:=λb=>q [.If et a b p1]) b (xx (q:=λa=>q [.If et a [] p1]) a λr=>K4 (q:=λr=>q [.If et [r] [] p1]) r λv k p3 p2=>qa (q:=λv=>q [.If et [.Return (aa (.Constant (.bool v) k p3)) p2] [] p1]) ag v (f et k p3 p2 p1))
noncomputable def wSw {p:Prop}(K:Sc)(es vs:List bY)(f:List Str->dA p):dA p:=match BW K.sc.names es vs with
 |some (aa ns)=>f ns
 |_=>.no
end
def cC (K:Sc)(i:Nat)(x:X)(n:Str)(p pos:Pos)(e:bY)(hi:K.vt[i]?=aa n):dA (PS mg mb W fB Nb mN fd K (.asg i x) (.Assign [.Name n p] e pos)):=match x with
 |.comp m x y l=>K7 (q:=λe=>PS mg mb W fB Nb mN fd K (.asg i (.comp m x y l)) (.Assign [.Name n p] e pos)) e λelt n' px iter ifs s pos'=>(ck (swB K n p pos' s)).b λhs=>(ck (sR K n .local)).b λhl =>
   (ck (ye K s n')).b λh1=>(cX (mg:=mg) (mb:=mb) (K.inner s n') ag x elt).b λh2=>(cL (mg:=mg) (mb:=mb) (K.inner s n') af l ifs).b λh3=>(ck (xU iter)).b λh4=>(ck (A2 y)).b λh5=>(ck (ME y)).m2 (cIt (mg:=mg) (mb:=mb) K y iter) λh7 h6 c a vs ρ σ s t =>
    have hk:=t.fr.kind
    IU (m:=m) a.D a.N a.N.cells (a.C.va hi) (fM a.C hl) (λvs=>xa (a.C.wv vs) h1) (λvs Ca X' v=>(h2 (d7 (c.wv vs) _ n' Ca X' [v]) (a.D.cx rfl rfl rfl rfl) (lO (a.C.wv vs) Ca X' [v])).1 rfl)
     (λvs Ca X' v=>(h3 (d7 (c.wv vs) _ n' Ca X' [v]) (a.D.cx rfl rfl rfl rfl) (lO (a.C.wv vs) Ca X' [v])).sb) (λvs=>h6 _ (a.D.wv vs) (a.C.wv vs)) (rB h4) (λa e=>by subst e;exact jE h5) (λvs σ cD=>Ht h7) (hs▸E1 a.C hk) vs ρ σ s t
 |_=>.no
mutual
def cS (K:Sc):(x:S)->(s:iO)->dA (PS mg mb W fB Nb mN fd K x s)
 |.expr x,s=>AA s λe p=>(ck (kb e)).m2 (cX K ag x e) λh1 h2 c a=>IS (h2.v a.D a.N a.C) h1
 |.asg i x,s=>yF s λt e pos=>jY (q:=λt=>PS mg mb W fB Nb mN fd K (.asg i x) (.Assign [t] e pos)) t λn p=>(cd (K.vt[i]?=aa n)).b λh1 =>
   ((ck (kb e)).b λhc=>(ck (lc K n)).m2 (cX K ag x e) λh2 h3 c a=>E8 a.N (h3.v a.D a.N a.C) (a.C.va h1) (wR a.C h2) (kz hc)).o
   ((cC K i x n p pos e h1).o
   (wLc (q:=λe=>PS mg mb W fB Nb mN fd K (.asg i x) (.Assign [.Name n p] e pos)) e λea g s pos'=>(cd (swB K n p pos' s=ag)).b λhs=>(ck (lc K n)).m2 (cX K ag x (.ListComp ea g s pos')) λh2 h3 c a vs ρ σ s t=>E8 a.N (h3.v a.D a.N a.C) (a.C.va h1) (wR a.C h2) (hs▸E1 a.C t.fr.kind) vs ρ σ s t))
 |.fY ts x,s=>yF s λt e pos=>EE (q:=λt=>PS mg mb W fB Nb mN fd K (.fY ts x) (.Assign [t] e pos)) t λes k p=>(ck (kb e)).b λh1=>(cX (mg:=mg) (mb:=mb) K ag x e).b λh2 =>
   ((swE K es k p e ae).m2 (cT K ts es) λh4 h3 c a=>IT a.N a.N.cells a.D.hh (h3 c a.D a.N a.C) (h2.v a.D a.N a.C) h1 (h4 c a.C)).o
   (EE (q:=λe=>PS mg mb W fB Nb mN fd K (.fY ts x) (.Assign [.Tuple es k p] e pos)) e λvs k' p'=>wSw K es vs λns=>atN (q:=λts=>PS mg mb W fB Nb mN fd K (.fY ts x) (.Assign [.Tuple es k p] (.Tuple vs k' p') pos)) K ts ns λis hat=>(cd is.Nodup).b λh3=>(cX (mg:=mg) (mb:=mb) K ag x (.Tuple vs k' p')).m2 (swE K es k p (.Tuple vs k' p') (aa ns)) λh2 h4 c a=>E7 a.N a.N.cells a.D.hh (hat c a.C) h3 (h2.v a.D a.N a.C) rfl (h4 c a.C))
 |.fj o f x,s=>yF s λt e pos=>yL (q:=λt=>PS mg mb W fB Nb mN fd K (.fj o f x) (.Assign [t] e pos)) t λeo n p=>(cd (fields[f]?=aa n)).b λh1=>(cX K ag o eo).m2 (cX K ag x e) λh2 h3 c a=>Dq a.D (h2.v a.D a.N a.C) (h3.v a.D a.N a.C) h1
 |.eY o i x,s=>yF s λt e pos=>EF (q:=λt=>PS mg mb W fB Nb mN fd K (.eY o i x) (.Assign [t] e pos)) t λeo ei p=>(ck (lj ei)).b λh1=>(cX K ag o eo).b λh2=>(cX K ag i ei).m2 (cX K ag x e) λh3 h4 c a=>Dp a.D (h2.v a.D a.N a.C) (h3.v a.D a.N a.C) (h4.v a.D a.N a.C) h1
 |.ite t l r,s=>QI s λe ea eb p=>(cX K af t e).b λh1=>(QA K l ea).m2 (QA K r eb) λh2 h3 c a=>E6 (h1.t a.D a.N a.C) (h2 c a) (h3 c a)
 |.vK t l,s=>Il s λe ea p=>(cX K af t e).m2 (QA K l ea) λh1 h2 c a=>E3 a.D a.N (h1.t a.D a.N a.C) (h2 c a)
 |.jx t y l,s=>K2 s λet e eb p=>(cTg (mg:=mg) (mb:=mb) K t et).b λh1=>(cIt (mg:=mg) (mb:=mb) K y e).b λh2=>(QA K l eb).b λh3=>(ck (xU e)).b λh4=>(ck (isTup et||isName et)).m2 (ck (A2 y||isTup et)) λh5 h6 c a =>NX a.D.hh a.D.fr a.N (λvs=>h2 _ (a.D.wv vs) (a.C.wv vs)) (λX'=>h1 _ (a.wx X').D (a.wx X').N (a.wx X').C) (λX'=>h3 _ (a.wx X')) h5 (λz_=>by obtain⟨a,e⟩:=z_;exact by subst e;exact h6) (rB h4)
 |.yb i d x,s=>K2 s λet e eb p=>jY (q:=λet=>PS mg mb W fB Nb mN fd K (.yb i d x) (.For et e eb [] p)) et λn np=>Nu (q:=λe=>PS mg mb W fB Nb mN fd K (.yb i d x) (.For (.Name n np) e eb [] p)) (st "sorted") e λfp ed cp =>
   wFb (q:=λeb=>PS mg mb W fB Nb mN fd K (.yb i d x) (.For (.Name n np) (.Call (.Name (st "sorted") fp) [ed] [] cp) eb [] p)) eb λet k p3 p2 p1 =>
   (cd (K.vt[i]?=aa n)).b λh1=>(ck (lc K n)).b λh2=>(ck (sR K (st "sorted") .globalImplicit)).b λh3=>(ck (noStar ed)).b λhs=>(cX (mg:=mg) (mb:=mb) K ag d ed).m2 (cX (mg:=mg) (mb:=mb) K af x et) λh5 h7 c a =>
   IQ (y:=.k (.bool ag)) a.D a.N (λvs=>(h5 _ (a.D.wv vs) (a.C.wv vs)).1 rfl) hs (fM a.C h3) (a.C.va h1) (wR a.C h2)
    (λX'=>ue (E6 (h7.t (a.wx X').D (a.wx X').N (a.wx X').C) (ue (E4 (yi.of (a.wx X').N λvs=>BV)) tm) tm) tm) λv=>rfl
 |.ret x,s=>K1 s λo p=>match o with
  |some e=>(cX K ag x e).m λh c a=>E4 (h.v a.D a.N a.C)
  |none=>match x with
   |.k .none=>.yes λc a=>IP
   |_=>.no
 |.raise x y,s=>Im s λn np ea eb cp p=>qa (q:=λn=>PS mg mb W fB Nb mN fd K (.raise x y) (.Raise (aa (.Call (.Name n np) [ea,eb] [] cp)) ae p)) (st "BadCode") n ((ck (sR K (st "BadCode") .globalImplicit)).b λh2=>(ck (noStar ea)).b λs1=>(ck (noStar eb)).b λs2=>(cX K ag x ea).m2 (cX K ag y eb) λh3 h4 c a =>E5 a.D a.B a.hd a.N (fM a.C h2) (λvs=>(h3 _ (a.D.wv vs) (a.C.wv vs)).1 rfl) (λvs=>(h4 _ (a.D.wv vs) (a.C.wv vs)).1 rfl) s1 s2)
 |.vR f [.v i] (.bool b),s=>QH s λe p1 n np b' k p2 p3 p4 p=>qa (q:=λn=>PS mg mb W fB Nb mN fd K (.vR f [.v i] (.bool b)) (.Try [.Expr e p1] [.ExceptHandler (aa (.Name n np)) ae [.Return (aa (.Constant (.bool b') k p2)) p3] p4] [] [] p)) (st "BadCode") n
   (qa (q:=λb'=>PS mg mb W fB Nb mN fd K (.vR f [.v i] (.bool b)) (.Try [.Expr e p1] [.ExceptHandler (aa (.Name (st "BadCode") np)) ae [.Return (aa (.Constant (.bool b') k p2)) p3] p4] [] [] p)) b b'
   ((ck (sR K (st "BadCode") .globalImplicit)).b λh4=>(ck (kb e)).m2 (cX K ag (.call f [.v i]) e) λh1 h2 c a=>NW a.D a.B a.N (fM a.C h4) (h2.v a.D a.N a.C) h1))
 |.dead,s=>.yes λc a vs ρ σ s t=>trivial
 |_,_=>.no
termination_by structural x=>x
def QA (K:Sc):(l:List S)->(ss:List iO)->dA (PSs mg mb W fB Nb mN fd K l ss)
 |[],ss=>q7 ss (.yes λc a=>tm)
 |.dead::l,ss=>.yes λc a vs ρ σ s t=>trivial
 |x::l,s::ss=>(cS K x s).m2 (QA K l ss) λh1 h2 c a=>ue (h1 c a) (h2 c a)
 |_,_=>.no
termination_by structural x=>x
end
end
end Internal
end
noncomputable section
open PySem PySem.W PyProof.Rows
namespace Internal.Hd
noncomputable def tp (i:Nat):iO:=(oX.main.body[i]?).getD (.Pass ⟨0,0,0,0⟩)
def Cw (i j:Nat):iO:=match tp i with
 |.ClassDef _ _ _ body _ _ _ _ _ _ _=>(body[j]?).getD (.Pass ⟨0,0,0,0⟩)
 |_=>.Pass ⟨0,0,0,0⟩
noncomputable def fnO (s:iO)(q:Str)(d:ax)(m:Str)(mt:Tok)(c:aK):Obj:=match s with
 |.FunctionDef name args body _ _ _ scope _ _ _=>{cls:=.type "function",data:=.func {name:=name,qualname:=q,params:=args,body:=.stmts body,scope:=scope,globals:=3,closure:=[],defaults:=d,kwdefaults:=.none,pyModule:=.str m mt,code:=.ref c}}
 |_=>{cls:=.none}
noncomputable def fcO (s:iO)(q:Str):Obj:=match s with
 |.FunctionDef name args body _ _ _ scope _ _ _=>{cls:=.none,data:=.func {name:=name,qualname:=q,params:=args,body:=.stmts body,scope:=scope,globals:=0,closure:=[],defaults:=.none,kwdefaults:=.none}}
 |_=>{cls:=.none}
def cdO (n:Str)(nt:Tok)(q:Str)(qt ft:Tok)(l a:Int)(v w:aK)(x y:ax)(z:aK)(i j:Int)(ft':Tok):Obj :=
 {cls:=.type "code",data:=.fields #[.str n nt,.str q qt,.str (st "/claim/cut.py") ft,.int l 0,.int a 0,.int 0 0,.int 0 0,.int 3 0,.ref v,.bool af,.int 181 0,.ref w,.none,x,y,.ref z,.int i 0,.int j 0,.str (st "/claim/cut.py") ft']}
def s (n:String)(t:Tok):ax:=.str (st n) t
noncomputable def tu (l:List ax):Obj:={cls:=.type "tuple",data:=.seq l.toArray}
def e (P:eK)(n:String)(t:Tok)(v:ax):fZ:=⟨dq P (st n),.str (st n) t,v⟩
def ops (P:eK):List (String×Int)->Nat->List fZ
 |[],_=>[]
 |(n,v)::l,t=>e P n t (.int v (t-1))::ops P l (t+2)
def Y7 (P:eK):List fZ:=[e P "__doc__" 166 (.none),e P "__package__" 167 (.none),e P "__loader__" 168 (.builtin "__main__.__loader__#opaque"),e P "__spec__" 169 (.none),e P "__annotations__" 170 (.ref 6),e P "__builtins__" 171 (.ref 4),e P "__file__" 173 (.str (st "/claim/cut.py") 172),e P "__cached__" 174 (.none)]++(ops P [("OP_UNDEF",0),("OP_NULL",1),("OP_TRUE",2),("OP_FALSE",3),("OP_CONST",4),("OP_THIS",5),("OP_POP",6),("OP_DUP",7),("OP_DUP2",8),("OP_SWAP",9),("OP_ROT3",10),("OP_GETLOC",11),("OP_SETLOC",12),("OP_GETCELL",13),("OP_SETCELL",14),("OP_GETUP",15),("OP_SETUP",16),("OP_FRESH",17),("OP_SEQ",43),("OP_SNE",44),("OP_NOT",53),("OP_TYPEOF",55),("OP_JMP",58),("OP_JF",59),("OP_JT",60),("OP_JFK",61),("OP_JTK",62),("OP_RET",65),("OP_THROW",66),("OP_CLOSURE",67),("OP_NEWOBJ",68),("OP_NEWARR",69),("OP_HOLE",70),("OP_FORIN",76),("OP_NEXTIN",77),("OP_GOSUB",78),("OP_RETSUB",79),("OP_ROT4",82),("OP_FAILSET",83),("OP_COUNT",85)] 190++([e P "OPERATIONS" 609 (.ref 100),e P "LAST_OPS" 610 (.ref 101),e P "BadCode" 641 (.ref 118),e P "Unit" 685 (.ref 138),e P "arg_kind" 692 (.ref 149),e P "taken_count" 700 (.ref 156),e P "put_count" 707 (.ref 163),e P "is_last" 714 (.ref 170),e P "VALUE" 719 (.int (-1) 718),e P "KEYS" 722 (.int (-2) 721),e P "NO_VALUE" 725 (.int (-3) 724),e P "QUIET_OPS" 726 (.ref 171),e P "is_count" 733 (.ref 178),e P "bound_of" 741 (.ref 185),e P "check_arg" 753 (.ref 192),e P "check_place" 762 (.ref 199),e P "check_head" 773 (.ref 206),e P "is_within" 781 (.ref 213),e P "check_handlers" 792 (.ref 220),e P "handler_at" 801 (.ref 227),e P "stack_in_handler" 810 (.ref 234),e P "ways_thrown" 820 (.ref 241),e P "need_values" 830 (.ref 248),e P "made_by" 838 (.ref 255),e P "ways_on" 854 (.ref 262),e P "way_back" 862 (.ref 269),e P "stacks_of" 876 (.ref 276),e P "check_one" 884 (.ref 283),e P "check_unit" 893 (.ref 290),e P "_law_draws" 901 (.ref 295),e P "_law_take" 909 (.ref 302),e P "_law_table" 915 (.ref 307),e P "_law_quiet" 922 (.ref 314),e P "_law_put" 931 (.ref 322),e P "_law_label" 938 (.ref 329),e P "_law_here" 946 (.ref 336),e P "_law_simple" 958 (.ref 343),e P "_law_statement" 970 (.ref 350),e P "_law_test" 984 (.ref 357),e P "_law_keys" 996 (.ref 364),e P "_law_guarded" 1011 (.ref 371),e P "_law_made" 1017 (.ref 376),e P "_law_bent" 1034 (.ref 383),e P "_law_args_right" 1047 (.ref 390),e P "_law_handlers_right" 1053 (.ref 395),e P "_law_ways" 1059 (.ref 400),e P "_law_later" 1065 (.ref 405),e P "_law_stacks" 1079 (.ref 412),e P "_law_is_right" 1089 (.ref 419),e P "_law_is_let" 1096 (.ref 426),e P "law" 1108 (.ref 433)]))
def o3 (P:eK)(v:ax)(m:Nat):Obj:=⟨.type "dict",ae,.dict (gx (e P "__name__" 165 v::(Y7 P).take (m-1))) m,#[]⟩
def o2 (P:eK)(b:Bool):Obj:=⟨.none,ae,if b then .dict (gx [e P "type.__subclasses__.Exception.0" 638 (.int 118 0),e P "type.__subclasses__.Exception.n" 639 (.int 1 0)]) 2 else .dict (gx []) 0,#[]⟩
noncomputable def tr (l:List (Int×aK)):List ax:=match l with | []=>[]|(a,b)::r=>.int a 0::.int 0 0::.ref b::tr r
noncomputable def tv (k:Nat):Obj:=⟨.none,ae,.fields (gx (tr ([(44,107),(50,127),(68,148),(70,155),(72,162),(74,169),(81,177),(83,184),(95,191),(109,198),(114,205),(127,212),(129,219),(139,226),(144,233),(147,240),(154,247),(158,254),(164,261),(185,268),(189,275),(204,282),(210,289),(217,294),(222,301),(227,306),(239,313),(243,321),(245,328),(248,335),(250,342),(259,349),(279,356),(290,363),(302,370),(321,375),(331,382),(351,389),(359,394),(370,399),(388,404),(396,411),(409,418),(419,425),(425,432)].take k))),#[]⟩
noncomputable def nob:Obj:={cls:=.none,data:=.fields #[]}
def Qf:List String->Nat->List ax
 |[],_=>[]
 |a::r,t=>s a t::Qf r (t+1)
noncomputable def tvs:List V->Nat->List ax
 |[],_=>[]
 |v::l,t=>(match v with|.str s=>.str s t|.int i=>.int i t|_=>.none)::tvs l (t+1)
noncomputable def opl:List V->Nat->List Obj
 |[],_=>[]
 |v::l,t=>(match v with|.tup q=>tu (tvs q t)|_=>tu [])::opl l (t+4)
def fuN (m:String)(mt:Tok)(i t l k a:Nat)(n:String)(ns:List String)(d:ax):List Obj :=
 [tu [],nob,tu (Qf ns (t+3)),tu [],fcO (tp i) (st n),cdO (st n) t (st n) (t+1) (t+2) l k a (a+1) (.ref (a+2)) (.ref (a+3)) (a+4) (t+3+ns.length:Nat) l (t+4+ns.length),fnO (tp i) (st n) d (st m) mt (a+5)]
def fuZ (m:String)(mt:Tok)(i t l k a:Nat)(n:String):List Obj :=
 [tu [],nob,fcO (tp i) (st n),cdO (st n) t (st n) (t+1) (t+2) l k a (a+1) .none .none (a+2) (t+3:Nat) l (t+4),fnO (tp i) (st n) .none (st m) mt (a+3)]
def fA:=fuN "js.codes" 187
def fB:=fuN "js.stackcheck" 715
def fC:=fuN "law_nt0409_01" 894
def Qy:=fuZ "law_nt0409_01" 894
def FLr (P:eK):List Obj:=opl (match Internal.G with|.lst l::_=>l|_=>[]) 269++(
 [{cls:=.type "list",data:=.seq #[.ref 15,.ref 16,.ref 17,.ref 18,.ref 19,.ref 20,.ref 21,.ref 22,.ref 23,.ref 24,.ref 25,.ref 26,.ref 27,.ref 28,.ref 29,.ref 30,.ref 31,.ref 32,.ref 33,.ref 34,.ref 35,.ref 36,.ref 37,.ref 38,.ref 39,.ref 40,.ref 41,.ref 42,.ref 43,.ref 44,.ref 45,.ref 46,.ref 47,.ref 48,.ref 49,.ref 50,.ref 51,.ref 52,.ref 53,.ref 54,.ref 55,.ref 56,.ref 57,.ref 58,.ref 59,.ref 60,.ref 61,.ref 62,.ref 63,.ref 64,.ref 65,.ref 66,.ref 67,.ref 68,.ref 69,.ref 70,.ref 71,.ref 72,.ref 73,.ref 74,.ref 75,.ref 76,.ref 77,.ref 78,.ref 79,.ref 80,.ref 81,.ref 82,.ref 83,.ref 84,.ref 85,.ref 86,.ref 87,.ref 88,.ref 89,.ref 90,.ref 91,.ref 92,.ref 93,.ref 94,.ref 95,.ref 96,.ref 97,.ref 98,.ref 99]},
 {cls:=.type "list",data:=.seq #[.int 58 233,.int 65 243,.int 66 245,.int 79 261,.int 83 265]},
 tu [.type "Exception"],
 {cls:=.type "builtin_function_or_method",data:=.fields #[.builtin "type.__prepare__",.type "type"]},
 ⟨.type "dict",ae,.dict (gx [e P "__module__" 618 (.str (st "js.codes") 187),e P "__qualname__" 620 (.str (st "BadCode") 619),e P "__firstlineno__" 622 (.int 44 621),e P "__init__" 631 (.ref 115),e P "__static_attributes__" 634 (.ref 116)]) 5,#[]⟩,
 tu [],
 {cls:=.none,data:=.fields #[.int 46 0,.int 4 0,.ref 114]},
 {cls:=.type "code",data:=.fields #[.str (st "BadCode") 613,.str (st "BadCode") 614,.str (st "/claim/cut.py") 615,.int 44 0,.int 0 0,.int 0 0,.int 0 0,.int 0 0,.ref 105,.bool ag,.int 181 0,.ref 106,.none,.none,.none,.none,.int 616 0,.int 44 0,.str (st "/claim/cut.py") 617]},
 {cls:=.type "frame",slots:=#[aa (.ref 107),aa (.ref 3),aa (.ref 104),ae,aa (.str (st "js.codes") 187),ae,aa (.ref 0)]},
 tu [],
 nob,
 tu (Qf ["self", "text", "pc"] 626),
 tu [],
 fcO (Cw 43 0) (st "BadCode.__init__"),
 cdO (st "__init__") 623 (st "BadCode.__init__") 624 625 46 3 109 110 (.ref 111) (.ref 112) 113 629 46 630,
 fnO (Cw 43 0) (st "BadCode.__init__") .none (st "js.codes") 187 114,
 tu (Qf ["pc", "text"] 632),
 ⟨.type "dict",ae,.dict (gx [e P "__module__" 618 (.str (st "js.codes") 187),e P "__firstlineno__" 622 (.int 44 621),e P "__init__" 631 (.ref 115),e P "__static_attributes__" 634 (.ref 116),e P "__weakref__" 636 (.ref 119),e P "__doc__" 637 (.none)]) 3,#[]⟩,
 {cls:=.type "type",data:=.cls {name:=st "BadCode",bases:=[.type "Exception"],mro:=[.ref 118,.type "Exception",.type "BaseException",.type "object"],ns:=117,qualname:=st "BadCode" },slots:=#[aa (.ref 102),ae,aa (.str (st "BadCode") 611),aa (.str (st "BadCode") 619),aa (.builtin "Exception.__new__"),aa (.bool af)]},
 {cls:=.type "getset_descriptor",data:=.fields #[.str (st "__weakref__") 635,.ref 118,.builtin "ExceptionGroup.__weakref__",.none]},
 {cls:=.type "super",data:=.fields #[.ref 118,.ref 118,.ref 118]},
 {cls:=.type "builtin_function_or_method",data:=.fields #[.builtin "object.__init_subclass__",.ref 118]},
 tu [],
 {cls:=.type "builtin_function_or_method",data:=.fields #[.builtin "type.__prepare__",.type "type"]},
 ⟨.type "dict",ae,.dict (gx [e P "__module__" 649 (.str (st "js.codes") 187),e P "__qualname__" 651 (.str (st "Unit") 650),e P "__firstlineno__" 653 (.int 50 652),e P "__init__" 662 (.ref 135),e P "__static_attributes__" 678 (.ref 136)]) 5,#[]⟩,
 tu [],
 {cls:=.none,data:=.fields #[.int 52 0,.int 4 0,.ref 134]},
 {cls:=.type "code",data:=.fields #[.str (st "Unit") 644,.str (st "Unit") 645,.str (st "/claim/cut.py") 646,.int 50 0,.int 0 0,.int 0 0,.int 0 0,.int 0 0,.ref 125,.bool ag,.int 181 0,.ref 126,.none,.none,.none,.none,.int 647 0,.int 50 0,.str (st "/claim/cut.py") 648]},
 {cls:=.type "frame",slots:=#[aa (.ref 127),aa (.ref 3),aa (.ref 124),ae,aa (.str (st "js.codes") 187),ae,aa (.ref 0)]},
 tu [],
 nob,
 tu (Qf ["self", "name", "params"] 657),
 tu [],
 fcO (Cw 44 0) (st "Unit.__init__"),
 cdO (st "__init__") 654 (st "Unit.__init__") 655 656 52 3 129 130 (.ref 131) (.ref 132) 133 660 52 661,
 fnO (Cw 44 0) (st "Unit.__init__") .none (st "js.codes") 187 134,
 tu (Qf ["arguments_place", "captures", "cell_count", "code", "consts", "handlers", "is_strict", "lines", "local_count", "name", "param_places", "params", "self_slot", "units", "uses_arguments"] 663),
 ⟨.type "dict",ae,.dict (gx [e P "__module__" 649 (.str (st "js.codes") 187),e P "__firstlineno__" 653 (.int 50 652),e P "__init__" 662 (.ref 135),e P "__static_attributes__" 678 (.ref 136),e P "__dict__" 680 (.ref 139),e P "__weakref__" 682 (.ref 140),e P "__doc__" 683 (.none)]) 4,#[]⟩,
 {cls:=.type "type",data:=.cls {name:=st "Unit",bases:=[.type "object"],mro:=[.ref 138,.type "object"],ns:=137,qualname:=st "Unit" },slots:=#[ae,ae,aa (.str (st "Unit") 642),aa (.str (st "Unit") 650),aa (.builtin "object.__new__"),aa (.bool af)]},
 {cls:=.type "getset_descriptor",data:=.fields #[.str (st "__dict__") 679,.ref 138,.builtin "function.__dict__",.builtin "function.__dict__#set"]},
 {cls:=.type "getset_descriptor",data:=.fields #[.str (st "__weakref__") 681,.ref 138,.builtin "ExceptionGroup.__weakref__",.none]},
 {cls:=.type "super",data:=.fields #[.ref 138,.ref 138,.ref 138]},
 {cls:=.type "builtin_function_or_method",data:=.fields #[.builtin "object.__init_subclass__",.ref 138]}]++(
 fA 45 686 68 1 143 "arg_kind" ["op"] .none++(
 fA 46 693 70 2 150 "taken_count" ["op", "arg"] .none++(
 fA 47 701 72 1 157 "put_count" ["op"] .none++(
 fA 48 708 74 1 164 "is_last" ["op"] .none++(
 [{cls:=.type "list",data:=.seq #[.int 0 189,.int 1 191,.int 2 193,.int 3 195,.int 4 197,.int 5 199,.int 6 201,.int 7 203,.int 8 205,.int 9 207,.int 10 209,.int 82 263,.int 11 211,.int 12 213,.int 13 215,.int 14 217,.int 15 219,.int 16 221,.int 17 223,.int 43 225,.int 44 227,.int 53 229,.int 55 231,.int 58 233,.int 59 235,.int 60 237,.int 61 239,.int 62 241,.int 65 243,.int 67 247,.int 68 249,.int 69 251,.int 70 253,.int 78 259]}]++(
 fB 54 727 81 1 172 "is_count" ["value"] .none++(
 fB 55 734 83 2 179 "bound_of" ["unit", "kind"] .none++(
 fB 56 742 95 2 186 "check_arg" ["unit", "pc", "op", "arg", "kind", "bound"] .none++(
 fB 57 754 109 2 193 "check_place" ["unit", "place", "bound"] .none++(
 fB 58 763 114 1 200 "check_head" ["unit", "place", "inner", "is_frame", "index"] .none++(
 fB 59 774 127 2 207 "is_within" ["one", "other"] .none++(
 fB 60 782 129 1 214 "check_handlers" ["unit", "many", "at", "one", "other"] .none++(
 fB 61 793 139 2 221 "handler_at" ["handlers", "pc", "one"] .none++(
 fB 62 802 144 2 228 "stack_in_handler" ["handler", "stack", "kept"] .none++(
 fB 63 811 147 3 235 "ways_thrown" ["unit", "pc", "stack", "handler"] .none++(
 fB 64 821 154 3 242 "need_values" ["taken_things", "pc", "is_hole_let", "thing"] .none++(
 fB 65 831 158 2 249 "made_by" ["op", "pushed"] .none++(
 fB 66 839 164 3 256 "ways_on" ["unit", "pc", "stack", "op", "arg", "many", "things", "below", "behind", "found"] .none++(
 fB 67 855 185 2 263 "way_back" ["things", "pc"] .none++(
 fB 68 863 189 1 270 "stacks_of" ["unit", "found", "waiting", "pc", "stack", "later", "place", "told"] .none++(
 fB 69 877 204 1 277 "check_one" ["unit", "pc"] .none++(
 fB 70 885 210 1 284 "check_unit" ["unit", "waiting", "here"] .none++(
 Qy 72 896 217 1 291 "_law_draws"++(
 fC 73 902 222 2 296 "_law_take" ["draws", "many"] .none++(
 Qy 74 910 227 0 303 "_law_table"++(
 fC 75 916 239 0 308 "_law_quiet" ["text"] .none++(
 [tu [.none]]++(
 fC 76 923 243 3 316 "_law_put" ["box", "name", "given"] (.ref 315)++(
 fC 77 932 245 1 323 "_law_label" ["box"] .none++(
 fC 78 939 248 2 330 "_law_here" ["box", "label"] .none++(
 fC 79 947 250 2 337 "_law_simple" ["draws", "box", "form", "pool", "word", "pieces"] .none++(
 fC 80 959 259 4 344 "_law_statement" ["draws", "box", "depth", "deep", "form", "kept"] .none++(
 fC 81 971 279 5 351 "_law_test" ["draws", "box", "depth", "deep", "is_loop", "start_at", "other", "end"] .none++(
 fC 82 985 290 4 358 "_law_keys" ["draws", "box", "depth", "deep", "start_at", "end"] .none++(
 fC 83 997 302 5 365 "_law_guarded" ["draws", "box", "depth", "deep", "is_finally", "start_at", "end", "handler", "behind"] .none++(
 Qy 84 1012 321 2 372 "_law_made"++(
 fC 85 1018 331 3 377 "_law_bent" ["draws", "drawn", "table", "form", "pc", "op", "given", "other", "at", "spot", "row"] .none++(
 fC 86 1035 351 2 384 "_law_args_right" ["drawn", "table", "bounds", "op", "given", "sort", "is_name_wrong"] .none++(
 Qy 87 1048 359 1 391 "_law_handlers_right"++(
 Qy 88 1054 370 4 396 "_law_ways"++(
 Qy 89 1060 388 5 401 "_law_later"++(
 fC 90 1066 396 3 406 "_law_stacks" ["drawn", "table", "quiet", "found", "waiting", "pc", "stack", "later"] .none++(
 fC 91 1080 409 2 413 "_law_is_right" ["drawn", "table", "found", "pc"] .none++(
 fC 92 1090 419 1 420 "_law_is_let" ["drawn"] .none++(
 fC 93 1097 425 1 427 "law" ["script", "draws", "table", "box", "turn", "drawn"] .none))))))))))))))))))))))))))))))))))))))))))))))
def FL (P:eK)(v:ax)(m k:Nat)(b:Bool):List Obj:=[boot_o_0 P,boot_o_1 P,o2 P b,o3 P v m,boot_o_4 P,boot_o_5 P,boot_o_6 P,boot_o_7 P,boot_o_8 P,boot_o_9 P,boot_o_10 P,{cls:=.type "tuple",data:=.seq #[]},tv k,{cls:=.type "code",data:=.fields #[.str (st "<module>") 182,.str (st "<module>") 183,.str (st "/claim/cut.py") 184,.int 1 0,.int 0 0,.int 0 0,.int 0 0,.int 0 0,.ref 11,.bool ag,.int 181 0,.ref 12,.none,.none,.none,.none,.int 185 0,.int 1 0,.str (st "/claim/cut.py") 186]},{cls:=.type "frame",slots:=#[aa (.ref 13),aa (.ref 3),aa (.ref 3),ae,aa (.str (st "__main__") 164),ae,aa (.ref 0)]}]++FLr P
def hp (P:eK)(n:Nat)(v:ax)(m k:Nat)(b:Bool):bV:={objs:=gx ((FL P v m k b).take n)}
noncomputable abbrev pw:BC:=oX
def E0:Env:={scope:=pw.main.scope,locals:=mainNs,globals:=mainNs,cells:=[],code:=.ref 13,frame:=aa 14}
def bd:List iO:=behindTheImports pw
def C0:Code:=.body bd E0
def gp (a b:Nat):List iO:=(bd.drop a).take (b-a)
noncomputable abbrev Q0:Pos:=⟨0,0,0,0⟩
abbrev SH (t n:Nat)(v:ax)(m k:Nat)(b:Bool)(w:c0)(os:jA):av:=⟨hp w.params n v m k b,Array.mk [],hG,t,os⟩
def Y0:c0->jA->av:=SH 187 15 (.str (st "__main__") 164) 9 0 ag
def Y1:c0->jA->av:=SH 269 15 (.str (st "js.codes") 187) 49 0 ag
def Y2:c0->jA->av:=SH 611 102 (.str (st "js.codes") 187) 51 0 ag
def Y3:c0->jA->av:=SH 686 143 (.str (st "js.codes") 187) 53 2 af
def Y4:c0->jA->av:=SH 793 221 (.str (st "js.stackcheck") 715) 68 13 af
def Y5:c0->jA->av:=SH 923 315 (.str (st "law_nt0409_01") 894) 82 27 af
def Y6:c0->jA->av:=SH 1109 434 (.str (st "law_nt0409_01") 894) 100 45 af
theorem aaX (w:c0):(λos=>topGo gI pw w 11 (aa (.ref 6)) 12 ⟨iz w.params,Array.mk [],hG,yy,os⟩ (topStub pw))=λos=>aa (Y0 w os,⟨denote gI C0,C0,Q0,[mD Q0]⟩):=by
 rw[bN,PySem.W.Fast.te15667345088766844465,PySem.W.Fast.te11892475500146522536]
 kernel_rfl
theorem aaW (w:c0):(λos=>B4 gI pw w 11 (aa (.ref 6)) 1 1 (Y0 w os) (blockOf bd E0 C0 Q0 [mD Q0]))=λos=>aa (.next,Y0 w os,C0,Q0):=by
 rw[bN,cu]
 kernel_rfl
theorem acO (w:c0):(λos=>B4 gI pw w 11 (aa (.ref 6)) 1 370 (Y0 w os) (ig (gp 0 41) E0 C0 ⟨0,0,0,0⟩ [mD Q0]))=λos=>aa (.next,Y1 w os,C0,⟨41,0,41,8⟩):=by
 rw[bN,cu]
 kernel_rfl
theorem acN (w:c0):(λos=>B4 gI pw w 11 (aa (.ref 6)) 1 541 (Y1 w os) (ig (gp 41 43) E0 C0 ⟨41,0,41,8⟩ [mD Q0]))=λos=>aa (.next,Y2 w os,C0,⟨43,0,43,8⟩):=by
 rw[bN,cu]
 kernel_rfl
theorem acM (w:c0):(λos=>B4 gI pw w 11 (aa (.ref 6)) 1 468 (Y2 w os) (ig (gp 43 45) E0 C0 ⟨43,0,43,8⟩ [mD Q0]))=λos=>aa (.next,Y3 w os,C0,⟨50,0,67,30⟩):=by
 rw[bN,cu]
 kernel_rfl
theorem acL (w:c0):(λos=>B4 gI pw w 11 (aa (.ref 6)) 1 467 (Y3 w os) (ig (gp 45 61) E0 C0 ⟨50,0,67,30⟩ [mD Q0]))=λos=>aa (.next,Y4 w os,C0,⟨129,0,138,68⟩):=by
 rw[bN,cu]
 kernel_rfl
theorem acK (w:c0):(λos=>B4 gI pw w 11 (aa (.ref 6)) 1 442 (Y4 w os) (ig (gp 61 76) E0 C0 ⟨129,0,138,68⟩ [mD Q0]))=λos=>aa (.next,Y5 w os,C0,⟨239,0,242,26⟩):=by
 rw[bN,cu]
 kernel_rfl
theorem acJ (w:c0):(λos=>B4 gI pw w 11 (aa (.ref 6)) 1 576 (Y5 w os) (ig (gp 76 94) E0 C0 ⟨239,0,242,26⟩ [mD Q0]))=λos=>aa (.next,Y6 w os,C0,⟨425,0,439,15⟩):=by
 rw[bN,cu]
 kernel_rfl
theorem aaV (w:c0):(λos=>topRun gI pw w 11 (aa (.ref 6)) 2 (Y6 w os) ⟨doneF .next,C0,⟨425,0,439,15⟩,[mD Q0]⟩)=λos=>aa (Y6 w os):=by
 rw[bN,PySem.W.Fast.te14082659384304107361]
 kernel_rfl
noncomputable def KA:List aK:=[2,3,15,16,17,18,19,20,21,22,23,24,25,26,27,28,29,30,31,32,33,34,35,36,37,38,39,40,41,42,43,44,45,46,47,48,49,50,51,52,53,54,55,56,57,58,59,60,61,62,63,64,65,66,67,68,69,70,71,72,73,74,75,76,77,78,79,80,81,82,83,84,85,86,87,88,89,90,91,92,93,94,95,96,97,98,99,100,101,114,115,117,118,119,134,135,137,138,139,140,148,149,155,156,162,163,169,170,171,177,178,184,185,191,192,198,199,205,206,212,213,219,220,226,227,233,234,240,241,247,248,254,255,261,262,268,269,275,276,282,283,289,290,294,295,301,302,306,307,313,314,315,321,322,328,329,335,336,342,343,349,350,356,357,363,364,370,371,375,376,382,383,389,390,394,395,399,400,404,405,411,412,418,419,425,426,432,433]
def K (P:eK):qY:=KA.map λa=>(a,((FL P (.str (st "law_nt0409_01") 894) 100 45 af)[a]?).getD ⟨.none,ae,.plain,#[]⟩)
noncomputable def pB:List aK:=[135,149,156,163,170,178,185,192,199,206,213,220,227,234,241,248,255,262,269,276,283,290,295,302,307,314,322,329,336,343,350,357,364,371,376,383,390,395,400,405,412,419,426,433]
noncomputable abbrev lw:OpenLaw:=PySem.Challenge.rw_nt0409_01
noncomputable def F2:List iO->Nat->List iO
 |[],_=>[]
 |s::r,n=>if n==41||n==42||n==53||n==76 then F2 r (n+1)else s::F2 r (n+1)
def vw:BC:={pw with main:={pw.main with body:=F2 pw.main.body 0}}
def loose:List Str:=[st "OPERATIONS",st "LAST_OPS",st "QUIET_OPS",st "_law_put"]
def Hk:Hook:=kHook K KA (λU=>by kernel_rfl)
theorem aap:bd=gp 0 41++(gp 41 43++(gp 43 45++(gp 45 61++(gp 61 76++(gp 76 94++[]))))):=by kernel_rfl
def H1 (P:eK):bV:=hp P 434 (.str (st "law_nt0409_01") 894) 100 45 af
abbrev Sf (w:c0)(os:jA):av:=⟨H1 w.params,Array.mk [],hG,1109,os⟩
theorem aaA (w:c0)(os:jA):Y6 w os=Sf w os:=rfl
theorem aaU {M:Nat}(hM:M=12+(1+(370+(541+(468+(467+(442+(576+2))))))))(w:c0)(os:jA):topRun gI pw w 11 (aa (.ref 6)) M ⟨iz w.params,Array.mk [],hG,yy,os⟩ (topStub pw)=aa (Y6 w os):=by subst hM;have r7:=congrFun (aaV w) os;have r6:=sQ (n:=576) (N:=2) (rest:=[]) (congrFun (acJ w) os) (piece_nil r7);have r5:=sQ (n:=442) (N:=576+2) (congrFun (acK w) os) r6;have r4:=sQ (n:=467) (N:=442+(576+2)) (congrFun (acL w) os) r5;have r3:=sQ (n:=468) (N:=467+(442+(576+2))) (congrFun (acM w) os) r4;have r2:=sQ (n:=541) (N:=468+(467+(442+(576+2)))) (congrFun (acN w) os) r3;have r1:=sQ (n:=370) (N:=541+(468+(467+(442+(576+2))))) (congrFun (acO w) os) r2;rw[<- aap]at r1;have r0:=piece_block (n:=1) (N:=370+(541+(468+(467+(442+(576+2)))))) (congrFun (aaW w) os) r1;exact go_top (n:=12) (N:=1+(370+(541+(468+(467+(442+(576+2))))))) (congrFun (aaX w) os) r0
theorem aaT (w:c0)(os:jA):topRun gI pw w 11 (aa (.ref 6)) 2879 ⟨iz w.params,Array.mk [],hG,yy,os⟩ (topStub pw)=aa (Sf w os) :=
 (aaU (by decide) w os).trans (congrArg aa (aaA w os))
theorem YO:∀w:c0,(fencedOpening gI pw w 5842).map (λs=>(s.heap,s.gens,s.drawn,s.toks))=aa (iz w.params,Array.mk [],hG,yy) :=
 boot_open (by kernel_rfl) (by decide) (λs=>by kernel_rfl)
theorem QY:∀w:c0,((iz w.params).isNs cF&&(Array.mk []:Array GenState).size==0,(iz w.params).objs.size,(iz w.params).nsMap cF "__annotations__")=(af,11,aa (.ref 6)):=λw=>by kernel_rfl
theorem k1 (w:c0):(λos=>(staticsOk (jw pw.main.body) (iz w.params) (Sf w os).heap&&namesBound pw (Sf w os).heap&&gensDone (Sf w os)&&laidKept (iz w.params) (Sf w os).heap))=λos=>af:=by kernel_rfl
def QC (s:av):Bool:=xlAt vw [] s&&recOk (RowW.records lw.row.toRowW) s
theorem k2a (w:c0):(λos=>seen ((recsOf vw).map (·.name)) (ownsOf vw) [] {Sf w os with gens:=#[]})=λos=>expectedOf vw:=by
 rw[PySem.W.Fast.te5160383126252970620,nZ,PySem.W.Fast.te5991557255702980513]
 kernel_rfl
theorem k2b (w:c0):(λos=>(Sf w os).heap.bltView)=λos=>bltViewBooted:=by kernel_rfl
theorem k2c (w:c0):(λos=>((Sf w os).heap.keysOk (looseW vw loose) ((recsOf vw).map (·.name)) ((litsOf vw).map (·.1)) ((clssOf vw (looseW vw loose)).map (·.name))&&(Sf w os).heap.accountedOkI (jw pw.main.body)&&(Sf w os).heap.isNs cF&&(Sf w os).heap.isNs g9&&tablesOk vw (Sf w os).heap&&QC (Sf w os)&&(if af then(Sf w os).gens.size==0 else !leftWithCleanup (Sf w os).gens)))=λos=>af:=by
 rw[PySem.W.Fast.te10880121769531294198,oA,nZ,PySem.W.Fast.te7409074990110511671,PySem.W.Fast.te13664370479719496447,PySem.W.Fast.te14722251495701143533,PySem.W.Fast.te10994771534591457954,PySem.W.Fast.te5923862056798008813]
 kernel_rfl
theorem k2d (w:c0):(λos=>tabsOk vw (Sf w os))=λos=>af:=by
 rw[PySem.W.Fast.te479339242167458305]
 kernel_rfl
theorem k2e (w:c0):(λos=>pinSeenD vw (drecsOf vw) (Sf w os))=λos=>pinGoodD (drecsOf vw):=by
 rw[PySem.W.Fast.te16090120013241838585,PySem.W.Fast.te3247288618530077131]
 kernel_rfl
theorem k2f (w:c0):(λos=>plainSeenE vw (looseW vw loose) (Sf w os))=λos=>plainGoodE vw (looseW vw loose):=by
 rw[PySem.W.Fast.te2386780881361962483,oA]
 kernel_rfl
theorem k2g (w:c0):(λos=>plainSeenD vw loose (Sf w os))=λos=>plainGoodD vw loose:=by
 rw[PySem.W.Fast.te11698064438423848299]
 kernel_rfl
theorem k2h (w:c0):(λos=>wideSeen vw (Sf w os))=λos=>wideGood vw:=by
 rw[PySem.W.Fast.te7317090234206586261]
 kernel_rfl
theorem k2i (w:c0):(λos=>clsSeenW vw loose (Sf w os))=λos=>clsGoodW vw loose:=by
 rw[PySem.W.Fast.te7369524293546568484]
 kernel_rfl
theorem k2 (w:c0)(os:jA):openSeen vw loose (jw pw.main.body) QC af (Sf w os)=openGood vw loose:=by have a:=congrFun (k2a w) os;have b:=congrFun (k2b w) os;have c:=congrFun (k2c w) os;have d:=congrFun (k2d w) os;have e:=congrFun (k2e w) os;have f:=congrFun (k2f w) os;have g:=congrFun (k2g w) os;have h:=congrFun (k2h w) os;have i:=congrFun (k2i w) os;unfold openSeen openGood;exact iX a (iX b (iX c (iX d (iX e (iX f (iX g (iX h i)))))))
theorem k3 (w:c0):(λos=>Hk.obs (Sf w os))=λos=>Hk.val w:=by kernel_rfl
theorem Oy (w:c0):(λos=>((staticsOk (jw pw.main.body) (iz w.params) (H1 w.params)&&namesBound pw (H1 w.params)&&gensDone ⟨H1 w.params,Array.mk [],hG,1109,os⟩&&laidKept (iz w.params) (H1 w.params)),
  openSeen vw loose (jw pw.main.body) QC af ⟨H1 w.params,Array.mk [],hG,1109,os⟩,Hk.obs ⟨H1 w.params,Array.mk [],hG,1109,os⟩))=λU=>(af,openGood vw loose,Hk.val w) :=
 funext λos=>iX (congrFun (k1 w) os) (iX (k2 w os) (congrFun (k3 w) os))
theorem Zd:LeftO pw vw loose QC Hk.obs Hk.val 5842 :=
 LeftO.of_pieces (p:=pw) (q:=vw) (loose:=loose) (Xt:=QC) (Yf:=Hk.obs) (Ya:=Hk.val) (N:=5842) (g0:=af) (H₀:=iz) (H₁:=H1) (gs₀:=Array.mk []) (gs₁:=Array.mk []) (d₀:=hG) (d₁:=hG) (k₀:=yy) (k₁:=1109) (m₀:=11) (ann:=aa (.ref 6)) (M:=2879) YO QY aaT (by decide) Oy
theorem lo1:(sreFenced lw.row.prog.main&&((moduleNames lw.row.prog.main.body).isEmpty||lookedIntoSs (moduleNames lw.row.prog.main.body) lw.row.prog.main.body))=af:=by kernel_rfl
theorem lo2:namesResolve lw.row.prog=af:=by rw[PySem.W.Fast.te8377067652309620493];kernel_rfl
theorem lo3:lw.row.prog.boundNames.all (λn=>!worldNames.contains n)=af:=by rw[m6,PySem.W.Fast.te14412699480532031325];kernel_rfl
theorem lo4:noRoadLSs {strict:=!(jw lw.row.prog.main.body).all cThrough.contains,foot:=ae,bare:=(["vars", "dir", "locals"]:List Str).filter (readsOut lw.row.prog lw.row.prog.main.body)} lw.row.prog.main.body=af:=by rw[PySem.W.Fast.te8326940854005059898];kernel_rfl
theorem lo5:(namesMeet lw.row.prog lw.row.prog.main.body λU n=>attrL n)=af:=by rw[PySem.W.Fast.te17119622794617984870];kernel_rfl
theorem lo:looksOpen lw.row.prog=af:=by unfold looksOpen;exact cR (cR (cR (cR lo1 lo2) lo3) lo4) lo5
theorem part:lw.row.partSaid=af:=by
 unfold OpenRow.partSaid;rw[lo]
 kernel_rfl
theorem Je:lw.row.wellSaid=af:=by
 unfold OpenRow.wellSaid;refine cR (cR part ?_) ?_
 .rw[m6];kernel_rfl
 .rw[PySem.W.Fast.te12749700546528644094];kernel_rfl
theorem Za:lw.wellSaid=af:=by unfold OpenLaw.wellSaid;rw[Je];refine cR (cR (cR (cR (cR (cR (cR (cR (cR (cR (cR (cR (cR (cR (cR (cR (cR (cR rfl ?_) ?_) ?_) ?_) ?_) ?_) ?_) ?_) ?_) ?_) ?_) ?_) ?_) ?_) ?_) ?_) ?_) ?_;all_goals decide +kernel
def dk:DefRec×List (Str×bY):=(defOf vw (st "law")).getD (⟨st "",⟨[],[],ae,[],[],ae,[]⟩,[],⟨.function,[],ag,ag,[]⟩,⟨0,0,0,0⟩⟩,[])
theorem dk1:defOf vw lw.row.name=aa (dk.1,dk.2):=by kernel_rfl
theorem dk2:lw.row.prog.theDef lw.row.name=aa (dk.1.params,dk.1.body,dk.1.scope):=by kernel_rfl
theorem dk3:kwWritten? dk.1.params.kwonlyargs dk.1.params.kw_defaults=aa dk.2:=by kernel_rfl
theorem op1:(chainsOk vw&&opensWell lw.row.prog&&(frees lw.row.toRowW&&lw.row.within.isEmpty))=af:=by refine cR (cR ?_ ?_) ?_<;>decide +kernel
theorem Qd:lw.row.prog.bare:=⟨rfl,rfl,rfl,rfl,rfl,by decide +kernel⟩
theorem wit:lw.row.toRowW.promised:=⟨[.list []],by decide +kernel,by decide +kernel⟩
theorem hd3 (walk:WalkO vw loose (XL vw []) Hk.says lw.row.toRowW dk.1 dk.2 λf vs=>PySem.call f vs):lw.Holds :=
 holds_law Za λaa5=>holds_open (r:=lw.row) (q:=vw) (loose:=loose) (Xt:=QC) (XP:=XL vw []) (Yf:=Hk.obs) (Ya:=Hk.val) (YP:=Hk.says) (d:=dk.1) (kwd:=dk.2) (N:=5842)
  Zd Hk.of Hk.keeps (λs e=>xl_of s (bG.mp e).1) XL.keeps dk1 dk2 dk3 (λs e=>recFacts_of (bG.mp e).2) rfl aa5 op1 Qd wit walk
end Internal.Hd
end
noncomputable section
open PySem PySem.W PyProof.Rows PySem.SeqAt PySem.Calls
namespace Internal
variable {q:iO->Prop}{α:Type}{T:String}{vs:List ax}{b:ax}{f W n:Nat}{s:av}{o:Obj}{Nb fB a:aK}{aac fd:ij}{mN mb mg:Str->Option ax}{w:c0}{K:qY}{h:bV}
theorem yh {o:Option α}{p:α->Bool}(h:o.any p=af):∃a,o=aa a/\p a=af:=by
 induction o with
 |none=>exact jE h
 |some a=>exact⟨a,rfl,h⟩
theorem nG    (X:K.In h)(e:K.lookup a=aa o):h.get? a=aa o:=X a o e
noncomputable def N7 (T:String)(o:Obj):Option (List ax):=match o.cls with
 |.type n=>match o.dict with
  |none=>match o.data with
   |.seq xs _=>if n=T/\o.slots.size=0 then aa xs.toList else ae
   |_=>ae
  |some _=>ae
 |_=>ae
theorem IZ   (e:N7 T o=aa vs):∃n,o={cls:=.type T,data:=.seq vs.toArray n}:=by
 obtain⟨c,d,dt,sl⟩:=o;induction c using Value.casesOn with
 |type n =>
  induction d with
  |none =>
   induction dt using PySem.Data.casesOn with
   |seq xs k =>
    change (if n=T/\sl.size=0 then aa xs.toList else ae)=aa vs at e;by_cases hc:n=T/\sl.size=0
    .rw[if_pos hc]at e;obtain rfl:=aj e;obtain⟨rfl,hs⟩:=hc;exact⟨k,by rw[CX,Array.eq_empty_of_size_eq_zero hs]⟩
    .rw[if_neg hc]at e;exact fw e
   |_=>exact fw e
  |some=>exact fw e
 |_=>exact fw e
noncomputable def zf (K:qY)(T:String):ax->Option (List ax)
 |.ref a=>(K.lookup a).bind (N7 T)
 |_=>ae
theorem ze   {w:ax}(X:K.In h)(e:zf K T w=aa vs):∃a n,w=.ref a/\h.get? a=aa {cls:=.type T,data:=.seq vs.toArray n}:=by
 induction w using Value.casesOn with
 |ref a =>obtain⟨o,hl,e⟩:=mA.1 (e:(K.lookup a).bind (N7 T)=aa vs);obtain⟨n,rfl⟩:=IZ e;exact⟨a,n,rfl,nG X hl⟩
 |_=>exact fw e
mutual
noncomputable def QN (K:qY):V->ax->Bool
 |.int i,w=>(match w with|.int j _=>j==i|_=>ag)
 |.str s,w=>(match w with|.str t _=>decide (t=s)|_=>ag)
 |.tup l,w=>(zf K "tuple" w).any λvs=>EH K l vs
 |.lst l,w=>(zf K "list" w).any λvs=>EH K l vs
 |_,_=>ag
termination_by structural x=>x
noncomputable def EH (K:qY):List V->List ax->Bool
 |[],ws=>ws.isEmpty
 |v::l,ws=>(match ws with|w::r=>QN K v w&&EH K l r | []=>ag)
termination_by structural x=>x
end
mutual
theorem EI {K:qY}{h:bV}(X:K.In h):∀(v:V) {w:ax},QN K v w=af->bu [] [] h v w
 |.none,w,e=>jE e
 |.bool _,w,e=>jE e
 |.loc _,w,e=>jE e
 |.int i,w,e=>by
  induction w using Value.casesOn with
  |int j t =>obtain rfl:j=i:=eq_of_beq (e:(j==i)=af);exact bB _ rfl
  |_=>exact jE e
 |.str i,w,e=>by
  induction w using Value.casesOn with
  |str j t =>obtain rfl:j=i:=of_decide_eq_true e;exact bB _ rfl
  |_=>exact jE e
 |.tup l,w,e=>by refine dC (yh (e:(zf K _ w).any _=af)) λvs h1 h2=>?_;(refine Ec (ze X h1) λa n z1 h3=>?_;subst z1);exact bB a ⟨vs,rfl,(λU q=>nomatch q),(λq=>nomatch q),⟨n,h3⟩,xJ X l h2⟩
 |.lst l,w,e=>by refine dC (yh (e:(zf K _ w).any _=af)) λvs h1 h2=>?_;(refine Ec (ze X h1) λa n z1 h3=>?_;subst z1);exact bB a ⟨vs,rfl,(λU q=>nomatch q),(λq=>nomatch q),⟨n,h3⟩,xJ X l h2⟩
theorem xJ {K:qY}{h:bV}(X:K.In h):∀(l:List V) {ws:List ax},EH K l ws=af->bt [] [] h l ws
 |[],ws,e=>by
  induction ws with
  |nil=>exact .nil
  |cons=>exact jE e
 |v::l,ws,e=>by
  induction ws with
  |nil=>exact jE e
  |cons w r =>have e:=bG.1 (e:(QN K v w&&EH K l r)=af);exact .cons (EI X v e.1) (xJ X l e.2)
end
open Hd in
abbrev ZA (w:c0)(h:bV):ng:={prog:=Hd.lw.row.prog,w:=w,base:=h,K:=Hd.K w.params,C:=138,CB:=118,fa:=Hd.pB}
def gvB (K:qY):Bool:=(ya.zip G).all λp=>match Ed K cF p.1 with
 |some (aa w)=>QN K p.2 w
 |_=>ag
theorem Z1 (P:eK):gvB (Hd.K P)=af:=by kernel_rfl
def fnB (K:qY):Bool:=((rC.zip Hd.pB).drop 1).all λp=>decide (Ed K cF p.1=aa (aa (.ref p.2)))
theorem aaa (P:eK):fnB (Hd.K P)=af:=by kernel_rfl
def biB (K:qY):Bool:=gV.all λp=>decide (Ed K cF p.1=aa ae)&&decide (xd p.1=aa p.2)&&decide (p.1≠"__name__")
theorem aao (P:eK):biB (Hd.K P)=af:=by kernel_rfl
theorem QO (P:eK):Ed (Hd.K P) cF (st "Unit")=aa (aa (.ref 138)):=by kernel_rfl
theorem aar (P:eK):Ed (Hd.K P) cF (st "BadCode")=aa (aa (.ref 118)):=by kernel_rfl
theorem xY  {P:ij->Bool}(h:(match K.lookup a with
 |some o=>(match o.data with|.func fd=>P fd|_=>ag)
 |none=>ag)=af):∃o fd,K.lookup a=aa o/\o.data=.func fd/\P fd=af:=by
 induction e:K.lookup a with
 |none=>rw[e]at h;exact jE h
 |some o =>
  rw[e]at h;dsimp only at h;induction e2:o.data using PySem.Data.casesOn with
  |func fd=>rw[e2]at h;exact⟨o,fd,rfl,e2,h⟩
  |_=>rw[e2]at h;exact jE h
def foB (K:qY):Bool:=Hd.pB.all λa=>match K.lookup a with
 |some o=>(match o.data with|.func _=>af|_=>ag)
 |none=>ag
theorem Z9 (P:eK):foB (Hd.K P)=af:=by kernel_rfl
theorem xp {β:Type}{l:List α}{r:List β}{i:Nat}{a:α}{b:β}(h1:l[i]?=aa a)(h2:r[i]?=aa b):(l.zip r)[i]?=aa (a,b):=by rw[List.getElem?_zip_eq_some];exact⟨h1,h2⟩
set_option tactic.hygienic true in
theorem O5   (X:(Hd.K w.params).In h)(g:h.Ns cF mg)(b:h.Ns g9 mb)(hb:∀x:Str,x≠"__name__"->mb x=xd x):QE (ZA w h) mg mb where
 g:=g
 b:=b
 gv:=λi x v h1 h2=>by
  have:=bI.mp (Z1 w.params) _ (aJ (xp h1 h2));change (match Ed (Hd.K w.params) cF x with|some (aa u)=>QN (Hd.K w.params) v u|_=>ag)=af at this;induction hu:Ed (Hd.K w.params) cF x with
  |none=>rw[hu]at this;exact jE this
  |some o =>
   rw[hu]at this;induction o with
   |none=>exact jE this
   |some u=>exact⟨u,mg_of X g hu,EI X v this⟩
 bi:=λx v hx=>by have:=bI.mp (aao w.params) _ hx;simp only[bz,decide_eq_true_eq]at this;exact⟨mg_none_of X g this.1.1,by rw[hb x this.2];exact this.1.2⟩
 fn:=λf x a h1 h2 h0=>by
  have hz:=xp h1 h2;have:((rC.zip Hd.pB).drop 1)[f-1]?=aa (x,a):=by rw[rK,show 1+(f-1)=f by exact abx h0];exact hz
  have:=bI.mp (aaa w.params) _ (aJ this);exact mg_of X g (of_decide_eq_true this)
 fo:=λf a h=>by have:=bI.mp (Z9 w.params) _ (aJ h);obtain⟨o,fd,ho,hd,_⟩:=xY (P:=λU=>af) this;exact⟨o,fd,nG X ho,hd⟩
 un:=mg_of X g (QO w.params)
 bc:=mg_of X g (aar w.params)
def clB (K:qY):Bool:=decide (yw K (.ref 138) "__getattribute__"=aa (aa (.builtin "object.__getattribute__")))&&decide (yw K (.ref 138) "__setattr__"=aa (aa (.builtin "object.__setattr__")))&&plainOver K 138&&hasDictIn K 138 &&
 fields.all (λx=>decide (yw K (.ref 138) x=aa ae))&&makesIn K 138&&keepIn K (.ref 138)&&decide (yw K (.ref 138) "__init__"=aa (aa (.ref 135)))&&decide (typeIn K (.ref 135)=aa (.type "function"))
theorem M6 (P:eK):clB (Hd.K P)=af:=by kernel_rfl
theorem Pd  (X:(Hd.K w.params).In h):CW (ZA w h):=by have:=M6 w.params;simp only[clB,bz,decide_eq_true_eq,bI]at this;obtain⟨⟨⟨⟨⟨⟨⟨⟨h1,h2⟩,h3⟩,h4⟩,h5⟩,h6⟩,h7⟩,h8⟩,h9⟩:=this;exact⟨X,h1,h2,h3,h4,h5⟩
noncomputable def codeB (K:qY)(fd:ij):Bool:=match fd.code with
 |.ref c=>(match K.lookup c with
  |some o=>(match o.data with
   |.fields vs=>(match (vs[1]? : Option ax)with
    |some (Value.str q _)=>decide (q=fd.qualname)
    |_=>ag)
   |_=>ag)
  |none=>ag)
 |_=>ag
theorem z5   (X:K.In h)(e:codeB K fd=af):h.CodeRec fd.code fd.qualname:=by
 delta codeB at e;induction hc:fd.code using Value.casesOn with
 |ref c =>
  rw[hc]at e;dsimp only at e;induction ho:K.lookup c with
  |none=>rw[ho]at e;exact jE e
  |some o =>
   rw[ho]at e;dsimp only at e;induction hv:o.data using PySem.Data.casesOn with
   |fields vs =>
    rw[hv]at e;dsimp only at e;induction hq:(vs[1]? : Option ax)with
    |none=>rw[hq]at e;exact jE e
    |some u =>
     rw[hq]at e;induction u using Value.casesOn with
     |str q t=>exact⟨c,o,vs,t,rfl,nG X ho,hv,by rw[hq,of_decide_eq_true e]⟩
     |_=>exact jE e
   |_=>rw[hv]at e;exact jE e
 |_=>rw[hc]at e;exact jE e
noncomputable def bodyOf (fd:ij):Option (List iO):=match fd.body with
 |.stmts b=>aa b
 |_=>ae
theorem CM {body:List iO}(h:bodyOf fd=aa body):fd.body=.stmts body:=by
 delta bodyOf at h;induction e:fd.body with
 |stmts b=>rw[e]at h;obtain rfl:=aj h;rfl
 |_=>rw[e]at h;exact fw h
section
variable (mg mb:Str->Option ax)(W:Nat)(fB Nb:aK)(mN:Str->Option ax)(fx:ij)
def fdB (K:qY)(fd:ij)(fn:Fn)(vt:List Str):Bool :=
 !fd.scope.isCoroutine&&!fd.scope.isGenerator&&decide (fd.scope.kind=.function)&&codeB K fd&&fd.closure.isEmpty&&decide (fd.globals=cF)&&decide (fd.builtins=g9) &&
 decide (fn.np<=vt.length)&&decide (fn.np<=fn.nv)&&decide vt.Nodup&&decide (fd.scope.names.map (·.1)).Nodup&&(vt.take fn.np).all (λx=>decide (fd.scope.names.lookup x=aa .local)||decide (fd.scope.names.lookup x=aa .cell)) &&
 nB fd.params&&decide (fd.params.args.map (·.arg)=vt.take fn.np)&&(bodyOf fd).any λb=>(QA (mg:=mg) (mb:=mb) (W:=W) (fB:=fB) (Nb:=Nb) (mN:=mN) (fd:=fx) ⟨fd.scope,vt,[]⟩ fn.body b).y
def Hc (K:qY)(a:aK)(fn:Fn)(vt:List Str):Bool:=match K.lookup a with
 |some o=>(match o.data with
  |.func fd=>fdB mg mb W fB Nb mN fx K fd fn vt&&(if fn.df.isEmpty then decide (fd.defaults=.none)else af)
  |_=>ag)
 |none=>ag
def vts:List (List Str):=[Iw,yW,tY,xA,AI,yU,yV,xI,t6,vQ,xG,qc,vO,oI,tX,tZ,AH,AG,yM,xy,xH,vP,xF,yP,xB,xC,kx,xE,yS,vM,q8,yO,yR,t5,yQ,yT,qb,mT,yN,xD,vL,sM,vN,Nv]
def Kk (K:qY)(i j:Nat):Bool:=(((Hd.pB.zip (F.zip vts)).drop i).take j).all λp=>Hc mg mb W fB Nb mN fx K p.1 p.2.1 p.2.2
theorem Kj (P:eK):Kk mg mb W fB Nb mN fx (Hd.K P) 0 15=af:=by kernel_rfl
theorem Ki (P:eK):Kk mg mb W fB Nb mN fx (Hd.K P) 15 15=af:=by kernel_rfl
theorem Kg (P:eK):Kk mg mb W fB Nb mN fx (Hd.K P) 30 15=af:=by kernel_rfl
end
section
variable (mg mb:Str->Option ax)(W:Nat)(fB Nb:aK)(mN:Str->Option ax)(fx:ij)
theorem O7 (P:eK)(h:Hd.pB[f]?=aa a):∃fn vt,F[f]?=aa fn/\vts[f]?=aa vt/\Hc mg mb W fB Nb mN fx (Hd.K P) a fn vt=af:=by
 have hf:f<44:=(aC.mp h).1;obtain⟨fn,h1⟩:∃fn,F[f]?=aa fn:=⟨_,bA (hf:f<F.length)⟩;obtain⟨vt,h2⟩:∃vt,vts[f]?=aa vt:=⟨_,bA (hf:f<vts.length)⟩;have hz:=xp h (xp h1 h2);refine⟨fn,vt,h1,h2,?_⟩;have key:∀i,i<=f->f<i+15->Kk mg mb W fB Nb mN fx (Hd.K P) i 15=af->Hc mg mb W fB Nb mN fx (Hd.K P) a fn vt=af:=λi l1 l2 e=>by refine bI.mp e (a,fn,vt) (aJ (i:=f-i) ?_);rw[List.getElem?_take,if_pos (abZ l2),rK,show i+(f-i)=f by exact abY l1];exact hz
 rcases jF f 15 with q|q
 .exact key 0 abX (abW q) (Kj mg mb W fB Nb mN fx P)
 .rcases jF f 30 with q'|q'
  .exact key 15 q (abV q') (Ki mg mb W fB Nb mN fx P)
  .exact key 30 q' (abU hf) (Kg mg mb W fB Nb mN fx P)
end
theorem aae {fn:Fn}(h:F[f]?=aa fn)(e:fn.df.isEmpty=ag):f=26:=by
 have hf:f<44:=(aC.mp h).1;have key:∀f<44,((F[f]?).map (·.df.isEmpty))=aa af\/f=26:=by decide +kernel
 rcases key f hf with q|q
 .rw[h]at q;cases (aj q).symm.trans e
 .exact q
section
theorem acP (X:(Hd.K w.params).In h)(nl:h.NoLimit)(B:vx (ZA w h) mg mb fB Nb mN aac)
  (put:∀fd,(∃o,h.get? 322=aa o/\o.data=.func fd)->∀xs ws ρ X (s:av) σ,Rel (ZA w h) ρ X σ s.heap->bt ρ X s.heap xs ws->xs.length<=3->3<=xs.length+1 ->
   ∃AB,BI s fd ⟨ws,[]⟩ ((kx.take 3).zip AB)/\bt ρ X s.heap (xs++[V.none].drop (xs.length+1-3)) AB)
  (f:Nat)(a:aK)(hf:(ZA w h).fa[f]?=aa a):∃fn vt fd body,F[f]?=aa fn/\FnAt (ZA w h) a fn vt fd body /\
   ∀(c:Cx),c.Z=ZA w h->Ok c mg mb->c.A.depth+2<fb->bW c->c.env.scope=fd.scope->c.vt=vt->c.ct=[]->c.cs=[]->DY c W fn.body body:=by
 refine mI (O7 mg mb W fB Nb mN aac w.params hf) λfn vt h1 h2 hc=>?_;obtain⟨o,fd,ho,hd,hc⟩:=xY hc
 .skip
  .rw[bz]at hc;obtain⟨hc,hdf⟩:=hc;simp only[fdB,bz,decide_eq_true_eq,Bool.not_eq_true',iM]at hc;obtain⟨⟨⟨⟨⟨⟨⟨⟨⟨⟨⟨⟨⟨⟨c1,c2⟩,c3⟩,c4⟩,c5⟩,c6⟩,c7⟩,c8⟩,c9⟩,c10⟩,Pf⟩,c12⟩,c13⟩,c14⟩,c15⟩:=hc;replace c15:=yh c15;obtain⟨body,hb,c15⟩:=c15;have nH:=CM hb;refine⟨fn,vt,fd,body,h1,⟨⟨o,nG X ho,hd⟩,c1,c2,c3,z5 X c4,nH,c5,c6,c7,nl,c8,c9,c10,Pf,λx hx=>?_,?_⟩,λc z D dp N e1 e2 e3 e4=>?_⟩
   .have:=bI.mp c12 x hx;simpa using this
   .intro xs ws ρ X' s σ R r l1 l2;induction OV:fn.df.isEmpty with
    |true =>
     have hn:fn.df=[]:=iM.mp OV;rw[OV,if_pos rfl,decide_eq_true_eq]at hdf;rw[hn]at l2 ⊢;have hl:xs.length=fn.np:=by simp at l2;exact Wo l1 l2
     have hw:ws.length=fn.np:=r.length.symm.trans hl;have ha:=congrArg List.length c14;rw[ak,cv,xl c8]at ha;refine⟨ws,.of_eq ((u6 c13 hdf (ha.trans hw.symm)).trans (by rw[c14])),?_⟩;simpa using r
    |false =>have:=aae h1 OV;subst this;obtain rfl:=aj h1;obtain rfl:=aj h2;obtain rfl:=aj hf;exact put fd ⟨o,nG X ho,hd⟩ xs ws ρ X' s σ R r l1 l2
   .exact dA.get _ c15 c ⟨D,z▸B,dp,N,⟨e1,e2,e3,λf x hx=>by rw[z];have:f<44:=(aC.mp hx).1;exact⟨_,bA (this:f<Hd.pB.length)⟩⟩⟩
end
def YJ:Obj:=Hd.fnO (Hd.tp 76) (st "_law_put") (.ref 315) (st "law_nt0409_01") 894 321
def Oj:ij:=match YJ.data with|.func fd=>fd|_=>default
theorem QQ (P:eK):(Hd.K P).lookup 322=aa YJ:=by kernel_rfl
theorem aam    {a:ax}(ho:s.heap.get? 315=aa o)(hs:o.data=.seq #[.none] n):BI s Oj ⟨[a,b],[]⟩ ((kx.take 3).zip [a,b,.none]) :=
 BH (T:=315) rfl ho hs rfl rfl
theorem aal    {a c:ax}(ho:s.heap.get? 315=aa o)(hs:o.data=.seq #[.none] n):BI s Oj ⟨[a,b,c],[]⟩ ((kx.take 3).zip [a,b,c]) :=
 BH (T:=315) rfl ho hs rfl rfl
theorem aaZ (P:eK):(Hd.K P).lookup 315=aa (Hd.tu [.none]):=by kernel_rfl
theorem Oi  (X:(Hd.K w.params).In h):∀fd,(∃o,h.get? 322=aa o/\o.data=.func fd)->∀xs ws ρ X (s:av) σ,Rel (ZA w h) ρ X σ s.heap->bt ρ X s.heap xs ws->xs.length<=3->3<=xs.length+1 ->
   ∃AB,BI s fd ⟨ws,[]⟩ ((kx.take 3).zip AB)/\bt ρ X s.heap (xs++[V.none].drop (xs.length+1-3)) AB:=by
 rintro fd ⟨o,ho,hd⟩ xs ws ρ X' s σ R r l1 l2;have e:=nG X (QQ w.params);have e:=aj (ho.symm.trans e);subst e;obtain rfl:Oj=fd:=Data.func.inj hd;have hT:=R.keep _ _ (nG X (aaZ w.params))
 match xs,r,l1,l2 with
 |[],_,_,l2=>exact absurd l2 (by decide)
 |[_],_,_,l2=>exact absurd l2 (show¬3<=2 by decide)
 |[u,v],r,_,_ =>obtain⟨a,t,rfl,ra,r⟩:=r;obtain⟨b,t,rfl,rb,r⟩:=r;subst r;exact⟨[a,b,.none],aam hT rfl,.cons ra (.cons rb (.cons t7 .nil))⟩
 |[u,v,x],r,_,_ =>obtain⟨a,t,rfl,ra,r⟩:=r;obtain⟨b,t,rfl,rb,r⟩:=r;obtain⟨c,t,rfl,rc,r⟩:=r;subst r;exact⟨[a,b,c],aal hT rfl,.cons ra (.cons rb (.cons rc .nil))⟩
 |_::_::_::_::_,_,l1,_=>exact absurd l1 (Nat.not_le.mpr (Nat.le_add_left 4 _))
theorem YQ   (X:(Hd.K w.params).In h)(G:QE (ZA w h) mg mb):∀(c:Cx),c.Z=ZA w h->c.A.handled=ae->c.A.frames=aa c.l->c.A.units+300<jM->(∀X,n8 c.Z c.Φ c.A c.l X)->(∀X ws,n8 c.Z c.Φ (c.A.under (.builtin "type.__call__" ⟨.ref c.Z.C::ws,[]⟩)) c.l X)->Ok c mg mb:=by intro c z h1 h2 h3 h4 h5;have hc:=M6 w.params;simp only[clB,bz,decide_eq_true_eq,bI]at hc;obtain⟨⟨⟨⟨⟨⟨⟨⟨_,_⟩,_⟩,_⟩,_⟩,h6⟩,h7⟩,h8⟩,h9⟩:=hc;have hz:10<h.objs.size:=tJ (by decide) (bx (nG X (QQ w.params)));exact⟨by rw[z];exact hz,by rw[z];exact Pd X,by rw[z];exact G,h1,h2,h3,h4,h5,by rw[z];exact h6,by rw[z];exact h7,by rw[z];exact⟨135,rfl,h8,h9⟩⟩
theorem AZ  {N:aK}{n:Str}{v:ax}(X:K.In h)(G:h.Ns N mg)(e:Ed K N n=aa (aa v)):mg n=aa v:=by
 obtain⟨o,es,ep,ho,hd,_,hf⟩:=G;delta Ed at e;induction q:K.lookup N with
 |none=>rw[q]at e;exact fw e
 |some ob =>
  rw[q]at e;obtain rfl:=aj (ho.symm.trans (nG X q));obtain⟨c,d,dt,sl⟩:=o;obtain rfl:dt=_:=hd;dsimp only at e;induction he:es.toList.find? (·.key.isStr n)with
  |some u =>rw[he]at e;obtain rfl:=aj (aj e);rw[<- hf];delta nsFind findBy;rw[<- Array.find?_toList,he];rfl
  |none =>
   rw[he]at e;dsimp only at e;by_cases z:es.toList.any (·.refKey)=af
   .rw[if_pos z]at e;exact fw e
   .rw[if_neg z]at e;exact fw (aj e)
theorem KD (P:eK):(Hd.K P).lookup 118=aa (fK (st "BadCode") (st "BadCode") 118 117 [.type "Exception"] qz af [] [] ag ae ae (aa (.ref 102)) ae (aa (.str (st "BadCode") 611)) (aa (.str (st "BadCode") 619)) (aa (.bool af)) "Exception.__new__"):=by kernel_rfl
theorem PE (P:eK):nsOkIn (Hd.K P) 117=af:=by kernel_rfl
theorem aas (P:eK):[("__init__" : Str), "__setattr__", "text", "pc"].map (Ed (Hd.K P) 117)=[aa (aa (.ref 115)),aa ae,aa ae,aa ae]:=by kernel_rfl
theorem PC (P:eK):typeIn (Hd.K P) (.ref 115)=aa (.type "function"):=by kernel_rfl
theorem PF (P:eK):Ed (Hd.K P) cF (st "Exception")=aa ae:=by kernel_rfl
def aav (n:Str)(s:iO)(f:∀q1 q2 q3 q4,dA (q (.Assign [.Attribute (.Name (st "self") q1) n q2] (.Name n q3) q4))):dA (q s) :=
 yF s λt e q4=>yL (q:=λt=>q (.Assign [t] e q4)) t λo m q2=>qa (q:=λm=>q (.Assign [.Attribute o m q2] e q4)) n m (jY (q:=λo=>q (.Assign [.Attribute o n q2] e q4)) o λa q1=>qa (q:=λa=>q (.Assign [.Attribute (.Name a q1) n q2] e q4)) (st "self") a
  (jY (q:=λe=>q (.Assign [.Attribute (.Name (st "self") q1) n q2] e q4)) e λb q3=>qa (q:=λb=>q (.Assign [.Attribute (.Name (st "self") q1) n q2] (.Name b q3) q4)) n b (f q1 q2 q3 q4)))
def acx (s:iO)(f:∀p1 p2 p3 p4 p5 p6,(p2.endLine==p5.line)=af->dA (q (.Expr (.Call (.Attribute (.Name (st "Exception") p1) (st "__init__") p2) [.Name (st "self") p3,.Name (st "text") p4] [] p5) p6))):dA (q s) :=
 AA s λe p6=>Nt (q:=λe=>q (.Expr e p6)) (st "__init__") e λo p2 l p5 h U=>jY (q:=λo=>q (.Expr (.Call (.Attribute o (st "__init__") p2) l [] p5) p6)) o λn p1=>qa (q:=λn=>q (.Expr (.Call (.Attribute (.Name n p1) (st "__init__") p2) l [] p5) p6)) (st "Exception") n
  (Iu (q:=λl=>q (.Expr (.Call (.Attribute (.Name (st "Exception") p1) (st "__init__") p2) l [] p5) p6)) l λa b=>jY (q:=λa=>q (.Expr (.Call (.Attribute (.Name (st "Exception") p1) (st "__init__") p2) [a,b] [] p5) p6)) a λn p3=>qa (q:=λn=>q (.Expr (.Call (.Attribute (.Name (st "Exception") p1) (st "__init__") p2) [.Name n p3,b] [] p5) p6)) (st "self") n
  (jY (q:=λb=>q (.Expr (.Call (.Attribute (.Name (st "Exception") p1) (st "__init__") p2) [.Name (st "self") p3,b] [] p5) p6)) b λn p4=>qa (q:=λn=>q (.Expr (.Call (.Attribute (.Name (st "Exception") p1) (st "__init__") p2) [.Name (st "self") p3,.Name n p4] [] p5) p6)) (st "text") n (f p1 p2 p3 p4 p5 p6 h)))
def ac4 (l:List iO):dA (qT (.stmts l)):=match l with
 |[a,b,c]=>acx (q:=λa=>qT <| .stmts [a,b,c]) a λp1 p2 p3 p4 p5 p6 h=>aav (q:=λb=>qT <| .stmts [_,b,c]) (st "text") b λq1 q2 q3 q4=>aav (q:=λc=>qT <| .stmts [_,_,c]) (st "pc") c λr1 r2 r3 r4=>.yes ⟨p1,p2,p3,p4,p5,p6,q1,q2,q3,q4,r1,r2,r3,r4,h,rfl⟩
 |_=>.no
def PH (K:qY)(fd:ij):Bool :=
 !fd.scope.isCoroutine&&(!fd.scope.isGenerator&&(decide (fd.scope.kind=.function)&&(decide (fd.scope.names=[(st "self",.local),(st "text",.local),(st "pc",.local),(st "Exception",.globalImplicit)])&&(codeB K fd&&(nB fd.params&&(decide (fd.params.args.map (·.arg)=[st "self",st "text",st "pc"])&&(decide (fd.defaults=.none)&&(decide (fd.globals=cF)&&(decide (fd.builtins=g9)&&((bodyOf fd).any λb=>(ac4 b).y))))))))))
def ac3 (K:qY):Bool:=match K.lookup 115 with
 |some o=>(match o.data with
  |.func fd=>PH K fd
  |_=>ag)
 |none=>ag
theorem KG (P:eK):ac3 (Hd.K P)=af:=by kernel_rfl
theorem PG   (X:(Hd.K w.params).In h)(nl:h.NoLimit)(g:h.Ns cF mg)(b:h.Ns g9 mb)(hb:∀x:Str,x≠"__name__"->mb x=xd x):∃mN fd,vx (ZA w h) mg mb 115 117 mN fd:=by
 have hc:=KG w.params;obtain⟨o,fd,ho,hd,hc⟩:=xY (K:=Hd.K w.params) (a:=115) (P:=PH (Hd.K w.params)) hc
 .skip
  .simp only[PH,bz,decide_eq_true_eq,Bool.not_eq_true']at hc;refine o08 hc λc1 c2 c3 c4 c5 c6 c7 c8 hc=>?_;refine pS hc λc9 c10 Pf=>?_;replace Pf:=yh Pf;obtain⟨body,hbo,Pf⟩:=Pf;have nH:=CM hbo;have N:h.Ns 117 (h.nsMap 117):=.of_isNs (isNs_of_in X (PE w.params));have hn:=aas w.params;simp only[eN,s9,List.cons.injEq,and_true]at hn;refine⟨h.nsMap 117,fd,?_⟩;exact{
    cls:=.mk _ _ _ _ _ _ _ _ _ _ _ _ _ (nG X (KD w.params))
    ns:=N
    n1:=AZ X N hn.1
    n2:=ns_none_of X N hn.2.1
    n3:=ns_none_of X N hn.2.2.1
    n4:=ns_none_of X N hn.2.2.2
    ty:=PC w.params
    Qj:=X
    obj:=⟨o,nG X ho,hd⟩
    co:=c1,gen:=c2,kind:=c3,names:=c4
    code:=z5 X c5
    lim:=nl
    par:=⟨c6,c7,c8⟩
    glo:=c9,blt:=c10,g:=g,b:=b
    ex:=⟨mg_none_of X g (PF w.params),by rw[hb _ (by decide)];decide +kernel⟩
    body:=by rw[nH];exact dA.get _ Pf}
theorem DB   (W:Nat)(X:(Hd.K w.params).In h)(nl:h.NoLimit)(g:h.Ns cF mg)(b:h.Ns g9 mb)(hb:∀x:Str,x≠"__name__"->mb x=xd x) :
  ∀d A l X',Ii A l d->n8 (ZA w h) (kM G F W d) A l X':=by
 refine H0 (PG X nl g b hb) λmN fd B=>?_;exact By (mg:=mg) (mb:=mb) (λf a hf=>acP X nl B (Oi X) f a hf) (YQ X (O5 X g b hb))
def Pure:Prop:=∀l:List Int,l.length<=63->∃σ,kM G F 1000 25 43 [.lst (l.map .int)] []=.ok (.bool af) σ
theorem zN {ρ:List Pl}{X:List aK}{h:bV}:∀ {vs:List ax} {ns:List Int},IntsAre vs ns->bt ρ X h (ns.map .int) vs
 |_,_,.nil=>.nil
 |_,_,.cons n t r=>.cons mU (zN r)
theorem Fx {Z:ng}:Rel Z [] [] [] Z.base where
 keep:=λU U e=>e
 bsize:=aO _
 D6:=λU q=>nomatch q
 vJ:=λU q=>nomatch q
 len:=rfl
 ge:=λU q=>nomatch q
 sep:=λi j p q x e=>by simp at e
 self:=λU q=>nomatch q
 obj:=λi p o e=>by simp at e
theorem DS:Ii callerA [] 25:=⟨rfl,rfl,by decide,by decide⟩
theorem Gr (P:eK):Ed (Hd.K P) cF Hd.dk.1.name=aa (aa (.ref 433)):=by kernel_rfl
set_option tactic.hygienic true in
theorem entry (hp:Pure):Hd.lw.Holds:=Hd.hd3 (by
 intro w AO ay mg mb G Y fa o pm cd doc dV kV ho hd hcd hD hmg hg args vals as acC acE hrd hwl Ef;have KX:(Hd.K w.params).In ay.heap:=Y;have T:=G.T
 wrow_args acC acE hrd hwl Ef
 rename_i ns _ _ _ _ _ _ _ a vs _ hL _ w1 _ hI _ hlen _
 have hfa:fa=433:=by have:=mg_of KX T.g (Gr w.params);rw[hmg]at this;cases this;rfl
 subst hfa;obtain⟨σ,Cy⟩:=hp ns (acf hlen);cases w1 with
 |list GW ZQ =>
  rename_i k6
  obtain⟨o',GS,hc',n',Ap⟩:=hL;rw[GW]at GS;obtain rfl:=aj GS;have hvs:k6=vs:=by have:=(Data.seq.inj Ap).1;simpa using this
  subst hvs;have call:=DB (mg:=mg) (mb:=mb) 1000 KX T.nolimit T.g T.b T.builtins 25 callerA [] [] DS 43 433 rfl [] ay [] [.lst (ns.map .int)] [.ref a] Fx (λU q=>nomatch q)
   (.cons (by exact bB a ⟨k6,rfl,(λU q=>nomatch q),(λq=>nomatch q),⟨_,GW⟩,zN hI⟩) .nil)
  rw[Cy]at call;refine pO (call _ _ λb bJ s' g R r=>?_);subst r;(refine H0 g.same λh' tk z1=>?_;subst z1);refine GoodW.toG ⟨.inl ⟨.bool af,.bool af,[],rfl,λcls=>?_,?_,?_,λU=>⟨.nil,λU q=>nomatch q⟩⟩,R.keep,rfl,hg⟩
  .first|rfl|kernel_rfl
  .exact .bool af
  .first|rfl|kernel_rfl)
end Internal
end
theorem PySem.Challenge.cw_nt0409_01_holds : PySem.Challenge.rw_nt0409_01.Holds :=
 Internal.entry Internal.Pu.YK
