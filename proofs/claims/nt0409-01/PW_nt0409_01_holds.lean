import PyProof.Rows.All
import Wide.All
import OpenK.AllK
import Wide.FinOn
import Lean
import PySem.Challenge.RW_nt0409_01
set_option Elab.async false
set_option maxRecDepth 1000000
set_option maxHeartbeats 0
set_option linter.all false
set_option genSizeOf false
set_option genInjectivity false
set_option genCtorIdx false
set_option bootstrap.genMatcherCode false
set_option tactic.hygienic false
open List renaming getElem?_cons_zero->ah,getElem?_cons_succ->ai,length_map->ak,length_append->ao,mem_singleton->au,length_cons->az,getElem?_eq_some_iff->aA,length_nil->aD,set_cons_zero->aF,set_cons_succ->aG,mem_cons->aM,mem_of_getElem?->aN,append_nil->aP,mem_cons_self->aR,mem_append_right->aU,append_assoc->aV,getElem?_append_left->aZ,not_mem_nil->ba,mem_cons_of_mem->bf,mem_append->bg,getElem?_eq_getElem->bA,length_set->bD,replicate->bF,all_eq_true->bI,map_append->bM,mem_append_left->bS,getD_eq_getElem?_getD->bU,mem_map->bX,size_toArray->b9,lookup_cons->cf,length_take->cv,getElem?_map->cy,getElem?_append_right->cB,getElem?_concat_length->cP,filter_cons_of_pos->dE,nodup_cons->dH,nil_append->dU,getElem?_set_ne->dZ,cons_append->eI,map_cons->eM,filter_cons_of_neg->eW,any_cons->fy,range->fG,length_eq_zero_iff->gf,toArray->gu,getElem?_set_self->gw,foldl->gx,reverse_cons->hG,isEmpty_iff->iK,set->i3,find?_cons->i4,zip_cons_cons->jd,lookup->jh,mem_range->jz,length_filter_le->jM,take_length->jR,length_drop->jS,pairwise_append->ke,mem_iff_getElem->kf,forall_mem_cons->kg,mem_or_eq_of_mem_set->lY,mem_of_find?_eq_some->lZ,drop_eq_getElem_cons->l4,length_range->mc,map_take->mB,drop_length->mY,any_eq_true->mZ,filter_eq_nil_iff->n5,mem_of_mem_take->pH,replicate_succ->qP,drop_nil->qV,getElem?_drop->rG,map_nil->sZ,map_map->s6,reverse_nil->vm,getElem_mem->vn,take_append_of_le_length->vC,of_mem_zip->vY,forIn_cons->vZ,take_succ->yh,drop_zero->yi,map_drop->z7,getElem?_take_of_lt->z8,pairwise_singleton->As,take_of_length_le->BB,map_set->BC,set_append_right->CQ,getElem?_eq_none->CR,map_congr_left->Ej
open Option.some renaming inj->aj,injEq->dY
open PySem renaming wpAny_bind->aq,Shared->av,Value->ax,model->aC,wpAny->aE,Addr->aJ,wpAny_pure->aW,wpAny_mono->bo,wpAny_holding->bC,wpAny_standAt->bR,Heap->bV,Expr->b8,mainGlobals->cF,World->c0,wpAny_truthy_bool->ez,Params->eJ,wpAny_items_cons->eQ,compareOp->eR,recursionLimit->e9,wpAny_loadPart_at->fe,callEnv->fk,call_meets->fw,sizeLine->fz,excClassObj->fK,wpAny_isNot_plain->fY,NameKind->fZ,getItem->gr,wpAny_execs_cons->gD,treeTable->gF,starEach->gG,binaryOp->gJ,DictEntry->gK,Builtin->gN,codeAny->gX,builtinsNs->gY,wpAny_items_nil->hU,FuncData->ie,wpAny_ite->ig,swappedStores->ik,foldedSetIterable->iG,Stmt->iM,wpAny_is_plain->iR,wpAny_field->iS,typeLookup->iT,assignEach->iX,assign->jg,wpAny_execs_nil->jo,importedModules->ju,OsState->jy,sizeLine_eq->jG,wpAny_newObj_type->jU,wpAny_Call_ofName->jV,cLine->kL,wpAny_rule->kO,wpAny_release->kW,assignInOrder->kX,evalEach->mJ,cameBackBy->mK,backTo->mL,Around->mR,wpAny_assign_Name->nh,swapsWithSole->n9,rawInt->oj,wpAny_call->pM,truthy->pN,stored->pO,pyIter->pP,isTrue->pQ,intKind_is->pR,mem_of_lookup->pT,wpAny_typeLookup_exc->rL,wpAny_loadName_local->rM,wpAny_letTemporaryGo->rN,interactive->rY,compEnvC->sd,arm_assign_Attribute->sy,Result->sD,spliced->sL,cellsFrom->sV,wpAny_isSubtype_exc->s8,wpAny_Constant_str->vu,typeIs_str->vv,strKind_is->vx,setAttr->wm,concat_meets->w5,bootBuiltins->xa,Scope->xg,wpAny_call_entry->yp,noFill_tuple_add->yq,wpAny_operating->Ae,letOwnedTupleGo->Ai,arm_exec_Assign->Ap,valueAt->AI,setItem->AN,notedBy->AY,holding->Bh,Program->BA,BindsTo->BG,wpAny_setField->BK,wpAny_Name->BL,typeIs_int->BQ,markedBehindIn->Cn,wpAny_binaryOp_repeat_ref->C4,wpAny_getItem_list_slice->D5,wpAny_assignInOrder_none->D6,wpAny_assignInOrder_more->D7,seq_tuple_add->D8,comprehension->Eh,Comprehension->El
open PyProof.Rows renaming wpS_bind->aK,pendingOf->aY,wpS_pure->bh,kindOf->cw,Keyed->cM,wpS_forRange->cO,SortSt->cQ,wpS_mono->ef,wpS_modify->gi,wpS_get->kU,seqObj->lG,oneType'->mG,wpS_lift->rK,arrOf->sv,sortedHeap->vy,tail_any->wi,failedOf->wY,get?_update_seq->Ao,size_push'->BZ,setPending->B1,mergeAt'->Ci,listUpdate_at->Ec
open Nat renaming le_refl->aO,le_trans->aQ,lt_of_lt_of_le->bK,zero_le->bL,not_lt->bO,lt_of_le_of_lt->cm,ne_of_lt->dh,le_of_lt->dj,le_of_ble_eq_true->dC,le_succ_of_le->er,beq->eF,le_of_eq->fR,succ_le_succ->gm,lt_irrefl->gV,lt_succ_self->iN,add_le_add_left->iY,le_succ->jj,lt_or_ge->jC,le_add_right->j4,add_sub_cancel_left->m8,sub_self->oA,not_lt_zero->oJ,ble->qO,lt_trans->tF,lt_succ_of_lt->tG,min_eq_left->xi,ne_of_gt->CO,mul_comm->CP,eq_of_beq_eq_true->D1,ble_eq_true_of_le->D2
open PySem.Data renaming noConfusion->bk
open Bool renaming false_ne_true->bq,and_eq_true->bx,and_eq_true_iff->bG,false_eq_true->cN,decide_or->yl,true_and->Aa,false_or->Ab,true_or->BD,not_not->BE,or_eq_true_iff->Em,true->af,false->ag
open PySem.Heap renaming get?_push_of_some->br,lt_size->bu,get?_push_size->cE,get?_update_self->dQ,get?_update_other->eh,SameBut->fu,size_push->iA,size_after_update->jA,get?_update_ne->kQ,size_update->m3
open Exists renaming intro->bB
open PySem.W.Fast renaming te14364793385576792824->bN,te14374325043358763698->cu,te18344453789297297638->m6,te3399658132070893891->nZ,te821141287760084731->oz
open Or renaming elim->bZ
open Int renaming toNat_natCast->cg,ofNat->cJ,natCast_nonneg->eK,eq_ofNat_of_zero_le->eZ,add_zero->fS,toNat_of_nonneg->gh,le_refl->gy,toNat->jm,mul_nonpos_of_nonpos_of_nonneg->sF,le_of_lt->tH,neg_one_mul->xj,emod_nonneg->xk,zero_add->CS,le_of_eq->CT,mul_one->Ek
open PySem.W renaming look_both->cR,boot_drawn->gZ,piecesOf->ic,boot_heap->iw,looks_pair->iV,topFrame->mD,Frag->qW,piece_app->sN,findIn->yt,emptyDict->yu,boot_toks->yv,segRun->B2,nsIn->Eb
open PySem.Str renaming ofString->cU,join->tE
open PySem.PyData renaming keyHash->dq,depthAll->m7,eqv->DX,canLayAll0->Ei
open Option renaming none->du,toList_none->eE,map_eq_some_iff->ji,bind_eq_some_iff->mA,map_some->vk,isNone_iff_eq_none->xh,isSome_iff_exists->yg,toList_some->DY,isSome_none->DZ,some->aa,none->ae
open PySem.Value renaming ref->dP,none->hZ,type->xf
open ForInStep renaming yield->d9
open PySem.NameKind renaming free->eG
open List.cons renaming inj->eY
open Eq renaming symm->fb
open Array renaming getElem?_eq_some_iff->fE,size_extract->lr,getElem?_toList->oC,toList_append->pU,size_map->xl,eraseIdxIfInBounds->yy,toArray_toList->CV,toList_modify->D3
open PySem.Txt renaming split->gj
open PySem.F renaming excBase_Exception->iz,plainAttrs_list->jN,slot_tuple_mul->km,args_tuple_add_2->lJ,store_Exception->l9,entry_tuple_add->ma,slot_tuple_add->mP,slot_str_split->oB,slot_list_pop->pJ,slot_int_rmul->pK,slot_list_getitem->sG,args_tuple_mul_2->tI,args_str_split_2->tJ,entry_tuple_mul->vD,entry_str_split->vE
open PySem.Obj renaming mapSeq->iC,mapFields->kb,putName->vX,isFreed_of_fields->D0
open PySem.Builtin.Slice renaming sliceApplied->jO,slicePlaces->j5,sliceAdjust->j7
open PySem.Around renaming frames_deeper->jT
open PySem.Builtin.Range renaming rangeSize->kR
open PySem.Code renaming builtin->kY
open PySem.Calls renaming Name_function_global->lq,callWith_builtin->m9,loadGlobal_builtin->yx
open Ne renaming symm->lE
open PySem.Value.ref renaming inj->l6
open PySem.Heap.SameBut renaming update->m4
open PySem.Challenge renaming pw_nt0409_01->oU
open PySem.Builtin.Tuple renaming tupleTooMany->qX
open PySem.Builtin.List renaming listFitsIndex->rJ,listTooLong->s7
open Classical renaming byContradiction->vo
open PySem.Heap.IsSliceOf renaming new->wa
open PySem.Builtin.Str renaming strKind->yk
open PySem.Arg renaming arg->ym
open PySem.EntryCells renaming newEntry->yw
open PySem.ScopeKind renaming function->Aq
open Prod.mk renaming inj->Ar
open PySem.Expr renaming Name->Av
open PySem.BindsTo renaming of_defaults->BF
open PyProof.Rows.SortSt renaming mk'->DV
noncomputable section
namespace Internal
variable {α:Type _}{α3 P4 CW yo:Sort _}{E D:yo->CW->Prop}{a:α}{C B A:yo->CW->P4->Prop}{P:Prop}
theorem qR {A B C:Prop}(h:A/\B/\C)(k:A->B->C->P):P:=k  h.1 h.2.1 h.2.2
theorem o03 {A B C D:Prop}(h:A/\B/\C/\D)(k:A->B->C->D->P):P:=k  h.1 h.2.1 h.2.2.1 h.2.2.2
theorem o04 {A B C D E:Prop}(h:A/\B/\C/\D/\E)(k:A->B->C->D->E->P):P:=k  h.1 h.2.1 h.2.2.1 h.2.2.2.1 h.2.2.2.2
theorem o05 {A B C D E F:Prop}(h:A/\B/\C/\D/\E/\F)(k:A->B->C->D->E->F->P):P:=k  h.1 h.2.1 h.2.2.1 h.2.2.2.1 h.2.2.2.2.1 h.2.2.2.2.2
theorem o06 {A B C D E F G:Prop}(h:A/\B/\C/\D/\E/\F/\G)(k:A->B->C->D->E->F->G->P):P:=k  h.1 h.2.1 h.2.2.1 h.2.2.2.1 h.2.2.2.2.1 h.2.2.2.2.2.1 h.2.2.2.2.2.2
theorem o08 {A B C D E F G H I:Prop}(h:A/\B/\C/\D/\E/\F/\G/\H/\I)(k:A->B->C->D->E->F->G->H->I->P):P:=k  h.1 h.2.1 h.2.2.1 h.2.2.2.1 h.2.2.2.2.1 h.2.2.2.2.2.1 h.2.2.2.2.2.2.1 h.2.2.2.2.2.2.2.1 h.2.2.2.2.2.2.2.2
theorem dB {A B:yo->Prop}(h:∃a,A a/\B a)(k:∀a,A a->B a->P):P:=h.elim λa h=>k a h.1 h.2
theorem ti {A B C:yo->Prop}(h:∃a,A a/\B a/\C a)(k:∀a,A a->B a->C a->P):P:=h.elim λa h=>k a h.1 h.2.1 h.2.2
theorem o13 {A B C D:yo->Prop}(h:∃a,A a/\B a/\C a/\D a)(k:∀a,A a->B a->C a->D a->P):P:=h.elim λa h=>k a h.1 h.2.1 h.2.2.1 h.2.2.2
theorem o14 {A B C D E:yo->Prop}(h:∃a,A a/\B a/\C a/\D a/\E a)(k:∀a,A a->B a->C a->D a->E a->P):P:=h.elim λa h=>k a h.1 h.2.1 h.2.2.1 h.2.2.2.1 h.2.2.2.2
theorem o15 {A B C D E F:yo->Prop}(h:∃a,A a/\B a/\C a/\D a/\E a/\F a)(k:∀a,A a->B a->C a->D a->E a->F a->P):P:=h.elim λa h=>k a h.1 h.2.1 h.2.2.1 h.2.2.2.1 h.2.2.2.2.1 h.2.2.2.2.2
theorem H0  {A:yo->CW->Prop}(h:∃a b,A a b)(k:∀a b,A a b->P):P:=h.elim λa h=>h.elim λb h=>k a b h
theorem Ea  {A B:yo->CW->Prop}(h:∃a b,A a b/\B a b)(k:∀a b,A a b->B a b->P):P:=h.elim λa h=>h.elim λb h=>k a b h.1 h.2
theorem mI  {A B C:yo->CW->Prop}(h:∃a b,A a b/\B a b/\C a b)(k:∀a b,A a b->B a b->C a b->P):P:=h.elim λa h=>h.elim λb h=>k a b h.1 h.2.1 h.2.2
theorem o23   {A B C:yo->CW->Prop}(h:∃a b,A a b/\B a b/\C a b/\D a b)(k:∀a b,A a b->B a b->C a b->D a b->P):P:=h.elim λa h=>h.elim λb h=>k a b h.1 h.2.1 h.2.2.1 h.2.2.2
theorem wH   {A B C:yo->CW->Prop}(h:∃a b,A a b/\B a b/\C a b/\D a b/\E a b)(k:∀a b,A a b->B a b->C a b->D a b->E a b->P):P:=h.elim λa h=>h.elim λb h=>k a b h.1 h.2.1 h.2.2.1 h.2.2.2.1 h.2.2.2.2
theorem o25   {A B C F:yo->CW->Prop}(h:∃a b,A a b/\B a b/\C a b/\D a b/\E a b/\F a b)(k:∀a b,A a b->B a b->C a b->D a b->E a b->F a b->P):P:=h.elim λa h=>h.elim λb h=>k a b h.1 h.2.1 h.2.2.1 h.2.2.2.1 h.2.2.2.2.1 h.2.2.2.2.2
theorem o30     (h:∃a b c,A a b c)(k:∀a b c,A a b c->P):P:=h.elim λa h=>h.elim λb h=>h.elim λc h=>k a b c h
theorem o31     (h:∃a b c,A a b c/\B a b c)(k:∀a b c,A a b c->B a b c->P):P:=h.elim λa h=>h.elim λb h=>h.elim λc h=>k a b c h.1 h.2
theorem D9     (h:∃a b c,A a b c/\B a b c/\C a b c)(k:∀a b c,A a b c->B a b c->C a b c->P):P:=h.elim λa h=>h.elim λb h=>h.elim λc h=>k a b c h.1 h.2.1 h.2.2
theorem MF    {D:yo->CW->P4->Prop}(h:∃a b c,A a b c/\B a b c/\C a b c/\D a b c)(k:∀a b c,A a b c->B a b c->C a b c->D a b c->P):P:=h.elim λa h=>h.elim λb h=>h.elim λc h=>k a b c h.1 h.2.1 h.2.2.1 h.2.2.2
theorem o35    {D E F:yo->CW->P4->Prop}(h:∃a b c,A a b c/\B a b c/\C a b c/\D a b c/\E a b c/\F a b c)(k:∀a b c,A a b c->B a b c->C a b c->D a b c->E a b c->F a b c->P):P:=h.elim λa h=>h.elim λb h=>h.elim λc h=>k a b c h.1 h.2.1 h.2.2.1 h.2.2.2.1 h.2.2.2.2.1 h.2.2.2.2.2
theorem o41    {A B:yo->CW->P4->α3->Prop}(h:∃a b c d,A a b c d/\B a b c d)(k:∀a b c d,A a b c d->B a b c d->P):P:=h.elim λa h=>h.elim λb h=>h.elim λc h=>h.elim λd h=>k a b c d h.1 h.2
theorem Oq    {A B C:yo->CW->P4->α3->Prop}(h:∃a b c d,A a b c d/\B a b c d/\C a b c d)(k:∀a b c d,A a b c d->B a b c d->C a b c d->P):P:=h.elim λa h=>h.elim λb h=>h.elim λc h=>h.elim λd h=>k a b c d h.1 h.2.1 h.2.2
theorem o43    {A B C D:yo->CW->P4->α3->Prop}(h:∃a b c d,A a b c d/\B a b c d/\C a b c d/\D a b c d)(k:∀a b c d,A a b c d->B a b c d->C a b c d->D a b c d->P):P:=h.elim λa h=>h.elim λb h=>h.elim λc h=>h.elim λd h=>k a b c d h.1 h.2.1 h.2.2.1 h.2.2.2
theorem fv   (h:ae=aa a):P:=nomatch h
theorem oSN   (h:aa a=ae):P:=nomatch h
theorem oTF (h:af=ag):P:=nomatch h
theorem jH (h:ag=af):P:=nomatch h
end Internal
end
noncomputable section
namespace Internal.Ln
inductive N|v (i:Nat)|k (n:Nat)|a (s t:N)|m (n:Nat) (t:N)|r (t:N) (n:Nat)
inductive I|v (i:Nat)|k (n:Nat)|a (s t:I)|b (s t:I)|m (n:Nat) (t:I)|c (t:N)|g (t:I)
inductive F|ln (s t:N)|sn (s t:N)|en (s t:N)|li (s t:I)|si (s t:I)|ei (s t:I)|and (a b:F)|or (a b:F)|not (a:F)|imp (a b:F)|ff|p (i:Nat)
noncomputable def qg {α:Type}(d:α):List α->Nat->α
 |[],_=>d
 |a::_,0=>a
 |_::l,i+1=>qg d l i
section
variable (ns:List Nat)(js:List Int)(ps:List Prop)
def N.d:N->Nat
 |.v i=>qg 0 ns i
 |.k n=>n
 |.a s t=>s.d+t.d
 |.m n t=>n*t.d
 |.r t n=>t.d*n
def I.d:I->Int
 |.v i=>qg 0 js i
 |.k n=>cJ n
 |.a s t=>s.d+t.d
 |.b s t=>s.d-t.d
 |.m n t=>cJ n*t.d
 |.c t=>((t.d ns:Nat):Int)
 |.g t=>- t.d
def F.d:F->Prop
 |.ln s t=>s.d ns<=t.d ns
 |.sn s t=>s.d ns<t.d ns
 |.en s t=>s.d ns=t.d ns
 |.li s t=>s.d ns js<=t.d ns js
 |.si s t=>s.d ns js<t.d ns js
 |.ei s t=>s.d ns js=t.d ns js
 |.and a b=>a.d/\b.d
 |.or a b=>a.d\/b.d
 |.not a=>¬a.d
 |.imp a b=>a.d->b.d
 |.ff=>False
 |.p i=>qg True ps i
end
noncomputable def un:Nat->List Int
 |0=>[1]
 |i+1=>0::un i
noncomputable def ad:List Int->List Int->List Int
 |[],l=>l
 |a::k,l=>match l with
  |[]=>a::k
  |b::l=>(a+b)::ad k l
noncomputable def sc (c:Int):List Int->List Int
 |[]=>[]
 |a::l=>(c*a)::sc c l
def N.l:N->List Int
 |.v i=>un (2*i+1)
 |.k n=>[cJ n]
 |.a s t=>ad s.l t.l
 |.m n t=>sc (cJ n) t.l
 |.r t n=>sc (cJ n) t.l
def I.l:I->List Int
 |.v i=>un (2*i+2)
 |.k n=>[cJ n]
 |.a s t=>ad s.l t.l
 |.b s t=>ad s.l (sc (-1) t.l)
 |.m n t=>sc (cJ n) t.l
 |.c t=>t.l
 |.g t=>sc (-1) t.l
noncomputable def dot:List Int->(Nat->Int)->Int
 |[],_=>0
 |a::l,e=>a*e 0+dot l λi=>e (i+1)
theorem HA (i:Nat):∀e,dot (un i) e=e i:=by
 induction i with
 |zero=>intro e;show 1*e 0+0=e 0;rw[Int.one_mul,fS]
 |succ i ih=>intro e;show 0*e 0+dot (un i) _=_;rw[ih,Int.zero_mul,CS]
theorem pC (k:List Int):∀l e,dot (ad k l) e=dot k e+dot l e:=by
 induction k with
 |nil=>intro l e;exact(CS _).symm
 |cons a k ih =>
  intro l e;cases l with
  |nil=>exact(fS _).symm
  |cons b l =>show(a+b)*e 0+dot (ad k l) _=_;rw[ih,Int.add_mul];show _=a*e 0+_+(b*e 0+_);generalize dot k _=x;generalize dot l _=y;generalize a*e 0=u;generalize b*e 0=v;lia
theorem pB (c:Int)(l:List Int):∀e,dot (sc c l) e=c*dot l e:=by
 induction l with
 |nil=>intro e;exact(Int.mul_zero c).symm
 |cons a l ih =>intro e;show c*a*e 0+dot (sc c l) _=c*(a*e 0+dot l _);rw[ih,Int.mul_add,Int.mul_assoc]
section
variable {ns:List Nat}{js:List Int}{e:Nat->Int}(e0:e 0=1)(en:∀i,e (2*i+1)=(qg 0 ns i:Nat))(ej:∀i,e (2*i+2)=qg 0 js i)
include e0 en
theorem dk (n:Nat):dot [cJ n] e=cJ n:=by show cJ n*e 0+0=_;rw[e0,Ek,fS]
theorem N.ok (t:N):dot t.l e=(t.d ns:Nat):=by
 induction t with
 |v i=>exact(HA _ _).trans (en i)
 |k n=>exact dk e0 en n
 |a s t h h'=>exact(pC _ _ _).trans (by rw[h,h'];rfl)
 |m n t h=>exact(pB _ _ _).trans (by rw[h];rfl)
 |r t n h=>exact(pB _ _ _).trans (by rw[h];exact Int.mul_comm _ _)
include ej
theorem I.ok (t:I):dot t.l e=t.d ns js:=by
 induction t with
 |v i=>exact(HA _ _).trans (ej i)
 |k n=>exact dk e0 en n
 |a s t h h'=>exact(pC _ _ _).trans (by rw[h,h'];rfl)
 |b s t h h'=>exact(pC _ _ _).trans (by rw[h,pB,h',xj];rfl)
 |m n t h=>exact(pB _ _ _).trans (by rw[h];rfl)
 |c t=>exact N.ok e0 en t
 |g t h=>exact(pB _ _ _).trans (by rw[h,xj];rfl)
end
def sb (k:Nat)(s t:List Int):List Int:=ad [- cJ k] (ad t (sc (-1) s))
def fm:Nat->List (List Int)->List Int×Nat
 |n,[]=>([],n)
 |n,l::r=>bif eF (n%2) 0 then fm (n/2) r else bif eF (n/2%2) 0 then(ad l (fm (n/4) r).1,(fm (n/4) r).2)else(ad (sc (cJ (n/4%64)) l) (fm (n/256) r).1,(fm (n/256) r).2)
noncomputable def PH:List Int->Bool
 |[]=>af
 |a::l=>decide (a<=0)&&match l with
  |[]=>af
  |b::l=>decide (b=0)&&PH l
noncomputable def bad:List Int->Bool
 |[]=>ag
 |a::l=>decide (a<0)&&PH l
def tab:Nat->List (Bool×F)->List (List Int)->Nat->Option Nat
 |0,_,_,_=>ae
 |_+1,[],L,n=>let q:=fm n L;bif bad q.1 then aa q.2 else ae
 |f+1,(b,x)::r,L,n=>match x with
  |.ln s t=>tab f r ((match b with|true=>sb 0 s.l t.l|false=>sb 1 t.l s.l)::L) n
  |.sn s t=>tab f r ((match b with|true=>sb 1 s.l t.l|false=>sb 0 t.l s.l)::L) n
  |.li s t=>tab f r ((match b with|true=>sb 0 s.l t.l|false=>sb 1 t.l s.l)::L) n
  |.si s t=>tab f r ((match b with|true=>sb 1 s.l t.l|false=>sb 0 t.l s.l)::L) n
  |.en s t=>match b with
   |true=>tab f r (sb 0 s.l t.l::sb 0 t.l s.l::L) n
   |false=>(tab f r (sb 1 s.l t.l::L) n).bind (tab f r (sb 1 t.l s.l::L))
  |.ei s t=>match b with
   |true=>tab f r (sb 0 s.l t.l::sb 0 t.l s.l::L) n
   |false=>(tab f r (sb 1 s.l t.l::L) n).bind (tab f r (sb 1 t.l s.l::L))
  |.and x y=>match b with
   |true=>tab f ((af,x)::(af,y)::r) L n
   |false=>(tab f ((ag,x)::r) L n).bind (tab f ((ag,y)::r) L)
  |.or x y=>match b with
   |false=>tab f ((ag,x)::(ag,y)::r) L n
   |true=>(tab f ((af,x)::r) L n).bind (tab f ((af,y)::r) L)
  |.imp x y=>match b with
   |false=>tab f ((af,x)::(ag,y)::r) L n
   |true=>(tab f ((ag,x)::r) L n).bind (tab f ((af,y)::r) L)
  |.not x=>tab f ((!b,x)::r) L n
  |.ff=>match b with
   |true=>aa n
   |false=>tab f r L n
  |.p _=>tab f r L n
theorem CL:∀(l:List Int) (e:Nat->Int),(∀i,0<=e (2*i))->PH l=af->dot l e<=0
 |[],_,_,_=>gy _
 |[a],e,h,q=>by have q:=bG.1 q;show a*e 0+0<=0;rw[fS];exact sF (of_decide_eq_true q.1) (h 0)
 |a::b::l,e,h,q=>by have q:=bG.1 q;have q2:=bG.1 q.2;show a*e 0+(b*e 1+dot l _)<=0;rw[of_decide_eq_true q2.1,Int.zero_mul,CS];exact Int.add_nonpos (sF (of_decide_eq_true q.1) (h 0)) (CL l _ (λi=>h (i+1)) q2.2)
section
variable {ns:List Nat}{js:List Int}{ps:List Prop}{e:Nat->Int}(e0:e 0=1)(en:∀i,e (2*i+1)=(qg 0 ns i:Nat))(ej:∀i,e (2*i+2)=qg 0 js i)
def sg (ns:List Nat)(js:List Int)(ps:List Prop):Bool->F->Prop
 |true,x=>x.d ns js ps
 |false,x=>¬x.d ns js ps
include e0
theorem mE {k:Nat}{s t:List Int}(h:dot s e+cJ k<=dot t e):0<=dot (sb k s t) e:=by
 unfold sb;rw[pC,pC,pB,xj];have:dot [- cJ k] e =-cJ k:=by show-cJ k*e 0+0=_;rw[e0,Ek,fS]
 rw[this];lia
theorem aaa:∀(L:List (List Int)) n,(∀l∈L,0<=dot l e)->0<=dot (fm n L).1 e:=by
 intro L;induction L with
 |nil=>intro n _;exact gy _
 |cons l r ih =>
  intro n h;have hr:=λx m=>h x (.tail l m);show 0<=dot (bif eF (n%2) 0 then fm (n/2) r else bif eF (n/2%2) 0 then(ad l (fm (n/4) r).1,(fm (n/4) r).2)else(ad (sc (cJ (n/4%64)) l) (fm (n/256) r).1,(fm (n/256) r).2)).1 e;induction eF (n%2) 0 with
  |true=>exact ih _ hr
  |false =>
   induction eF (n/2%2) 0 with
   |true =>show 0<=dot (ad _ _) e;rw[pC];exact Int.add_nonneg (h l (.head _)) (ih _ hr)
   |false =>show 0<=dot (ad _ _) e;rw[pC,pB];exact Int.add_nonneg (Int.mul_nonneg (eK _) (h l (.head _))) (ih _ hr)
include en
theorem PC {l:List Int}(h:bad l=af)(q:0<=dot l e):False:=by
 cases l with
 |nil=>cases h
 |cons a l =>have h:=bG.1 h;have q:0<=a*e 0+dot l _:=q;rw[e0,Ek]at q;have:=CL l (λi=>e (i+1)) (λi=>by show 0<=e (2*i+1);rw[en i];exact eK _) h.2;have:=of_decide_eq_true h.1;lia
include ej
theorem Nz:∀(f:Nat) (r:List (Bool×F)) (L:List (List Int)) (n m:Nat),tab f r L n=aa m->(∀q∈r,sg ns js ps q.1 q.2)->(∀l∈L,0<=dot l e)->False:=by
 intro f;induction f with
 |zero=>exact λr L n m h=>nomatch h
 |succ f ih =>
  have pu:∀ {l:List Int} {L},(∀l∈L,0<=dot l e)->0<=dot l e->∀x∈l::L,0<=dot x e:=λh q=>kg.2 ⟨q,h⟩;have pq:∀ {b:Bool} {x:F} {r},(∀q∈r,sg ns js ps q.1 q.2)->sg ns js ps b x->∀q∈(b,x)::r,sg ns js ps q.1 q.2:=λh q=>kg.2 ⟨q,h⟩;have two:∀ {o:Option Nat} {g:Nat->Option Nat} {m},o.bind g=aa m->(∀m,o=aa m->False)\/(∀n m,g n=aa m->False)->False:=λ{o g m} h q=>by
   induction o with
   |none=>cases h
   |some k=>exact q.elim (λq=>q _ rfl) λq=>q _ _ h
  intro r L n m;induction r using List.casesOn with
  |nil =>
   intro h _ hL;have h:(bif bad (fm n L).1 then aa (fm n L).2 else ae)=aa m:=h;induction hb:bad (fm n L).1 with
   |true=>exact PC e0 en hb (aaa e0 L n hL)
   |false=>rw[hb]at h;cases h
  |cons z r =>
   refine λh hr hL=>?_;have key:∀b x,sg ns js ps b x->(∀q∈r,sg ns js ps q.1 q.2)->tab (f+1) ((b,x)::r) L n=aa m->False:=λb x=>by
    have go:=λ{l} hr (q:0<=dot l e) (h:tab f r (l::L) n=aa m)=>ih r _ n m h hr (pu hL q);have ge:=λ{s t:List Int} hr (q:dot s e=dot t e) (h:tab f r (sb 0 s t::sb 0 t s::L) n=aa m)=>ih r _ n m h hr (pu (pu hL (mE e0 (by rw[q];exact CT (fS _)))) (mE e0 (by rw[q];exact CT (fS _))));have ne:=λ{s t:List Int} hr (q:dot s e≠dot t e) (h:(tab f r (sb 1 s t::L) n).bind (tab f r (sb 1 t s::L))=aa m) =>
     two h ((Int.lt_or_gt_of_ne q).imp (λq m h=>ih r _ n m h hr (pu hL (mE e0 q))) λq n m h=>ih r _ n m h hr (pu hL (mE e0 q)))
    have N:=N.ok (ns:=ns) e0 en;have I:=I.ok (ns:=ns) (js:=js) e0 en ej;have z:∀ {x y:Int},x<=y->x+cJ 0<=y:=λh=>Int.le_trans (CT (fS _)) h;have cl:∀ {x y:Nat} {s t:List Int},dot s e=(x:Nat)->dot t e=(y:Nat)->x<=y->dot s e+cJ 0<=dot t e:=λa b h=>z (by rw[a,b];exact Int.ofNat_le.2 h);have cs:∀ {x y:Nat} {s t:List Int},dot s e=(x:Nat)->dot t e=(y:Nat)->x<y->dot s e+cJ 1<=dot t e:=λa b h=>by rw[a,b];exact Int.ofNat_le.2 h
    have il:∀ {x y:Int} {s t:List Int},dot s e=x->dot t e=y->x<=y->dot s e+cJ 0<=dot t e:=λa b h=>z (by rw[a,b];exact h);have is:∀ {x y:Int} {s t:List Int},dot s e=x->dot t e=y->x<y->dot s e+cJ 1<=dot t e:=λa b h=>by rw[a,b];exact h
    induction x using F.casesOn with
    |ln s t=>induction b with
     |true=>exact λhx hr h=>go hr (mE e0 (cl (N s) (N t) hx)) h
     |false=>exact λhx hr h=>go hr (mE e0 (cs (N t) (N s) (Nat.not_le.1 hx))) h
    |sn s t=>induction b with
     |true=>exact λhx hr h=>go hr (mE e0 (cs (N s) (N t) hx)) h
     |false=>exact λhx hr h=>go hr (mE e0 (cl (N t) (N s) (bO.1 hx))) h
    |li s t=>induction b with
     |true=>exact λhx hr h=>go hr (mE e0 (il (I s) (I t) hx)) h
     |false=>exact λhx hr h=>go hr (mE e0 (is (I t) (I s) (Int.not_le.1 hx))) h
    |si s t=>induction b with
     |true=>exact λhx hr h=>go hr (mE e0 (is (I s) (I t) hx)) h
     |false=>exact λhx hr h=>go hr (mE e0 (il (I t) (I s) (Int.not_lt.1 hx))) h
    |en s t=>induction b with
     |true=>exact λhx hr h=>ge hr ((N s).trans ((congrArg cJ hx).trans (N t).symm)) h
     |false=>exact λhx hr h=>ne hr (λq=>hx (Int.ofNat.inj ((N s).symm.trans (q.trans (N t))))) h
    |ei s t=>induction b with
     |true=>exact λhx hr h=>ge hr ((I s).trans (hx.trans (I t).symm)) h
     |false=>exact λhx hr h=>ne hr (λq=>hx ((I s).symm.trans (q.trans (I t)))) h
    |and x y=>induction b with
     |true=>exact λhx hr h=>ih _ L n m h (pq (pq hr (And.right hx)) (And.left hx)) hL
     |false=>exact λhx hr h=>two h ((Classical.not_and_iff_not_or_not.1 hx).imp (λq m h=>ih _ L n m h (pq hr q) hL) λq n m h=>ih _ L n m h (pq hr q) hL)
    |or x y=>induction b with
     |false=>exact λhx hr h=>ih _ L n m h (pq (pq hr (λq=>hx (.inr q))) (λq=>hx (.inl q))) hL
     |true=>exact λhx hr h=>two h (Or.imp (λq m h=>ih _ L n m h (pq hr q) hL) (λq n m h=>ih _ L n m h (pq hr q) hL) hx)
    |imp x y=>induction b with
     |false=>exact λhx hr h=>ih _ L n m h (pq (pq hr (λq=>hx λU=>q)) (vo λq=>hx λz=>absurd z q)) hL
     |true=>exact λhx hr h=>two h ((Classical.em (x.d ns js ps)).symm.imp (λq m h=>ih _ L n m h (pq hr q) hL) λq n m h=>ih _ L n m h (pq hr (hx q)) hL)
    |not x=>induction b with
     |true=>exact λhx hr h=>ih _ L n m h (pq hr hx) hL
     |false=>exact λhx hr h=>ih _ L n m h (pq hr (Classical.not_not.1 hx)) hL
    |ff=>induction b with
     |true=>exact λhx hr h=>hx
     |false=>exact λhx hr h=>ih _ L n m h hr hL
    |p i=>exact λhx hr h=>ih _ L n m h hr hL
   exact key z.1 z.2 (hr _ (.head _)) (λq m=>hr q (.tail _ m)) h
end
def ev (ns:List Nat)(js:List Int):Nat->Int
 |0=>1
 |1=>(qg 0 ns 0:Nat)
 |2=>qg 0 js 0
 |i+3=>ev (ns.drop 1) (js.drop 1) (i+1)
theorem zD {α:Type}(d:α)(l:List α)(i:Nat):qg d (l.drop 1) i=qg d l (i+1):=by cases l<;>cases i<;>rfl
theorem acP (i:Nat):∀ns js,ev ns js (2*i+1)=(qg 0 ns i:Nat):=by
 induction i with
 |zero=>intro ns js;rfl
 |succ i ih=>intro ns js;exact(ih _ _).trans (by rw[zD])
theorem acQ (i:Nat):∀ns js,ev ns js (2*i+2)=qg 0 js i:=by
 induction i with
 |zero=>intro ns js;rfl
 |succ i ih=>intro ns js;exact(ih _ _).trans (by rw[zD])
theorem IB {x:F}{n m:Nat}(h:tab 99 [(ag,x)] [] n=aa m)(ns:List Nat)(js:List Int)(ps:List Prop):x.d ns js ps :=
 vo λq=>Nz (e:=ev ns js) rfl (λi=>acP i _ _) (λi=>acQ i _ _) 99 [(ag,x)] [] n m h (kg.2 ⟨q,λU m=>nomatch m⟩) λU m=>nomatch m
inductive D|s (a b:N)|n (a b:N)|x (a b:N)|d (a:N) (k:Nat)|t (a:I)|a (a:I)
noncomputable def N.o (k:Nat):N->Bool
 |.v i=>decide (i<k)
 |.k _=>af
 |.a s t=>s.o k&&t.o k
 |.m _ t=>t.o k
 |.r t _=>t.o k
noncomputable def I.o (k:Nat):I->Bool
 |.v _=>af
 |.k _=>af
 |.a s t=>s.o k&&t.o k
 |.b s t=>s.o k&&t.o k
 |.m _ t=>t.o k
 |.c t=>t.o k
 |.g t=>t.o k
def D.o (k:Nat):D->Bool
 |.s p q=>p.o k&&q.o k
 |.n p q=>p.o k&&q.o k
 |.x p q=>p.o k&&q.o k
 |.d p j=>p.o k&&decide (0<j)
 |.t p=>p.o k
 |.a p=>p.o k
def D.e (l:List Nat)(j:List Int):D->Nat
 |.s p q=>p.d l-q.d l
 |.n p q=>min (p.d l) (q.d l)
 |.x p q=>max (p.d l) (q.d l)
 |.d p k=>p.d l/k
 |.t p=>(p.d l j).toNat
 |.a p=>(p.d l j).natAbs
noncomputable def D.f (k:Nat):D->F
 |.s p q=>.or (.en (.a (.v k) q) p) (.and (.en (.v k) (.k 0)) (.sn p q))
 |.n p q=>.or (.and (.en (.v k) p) (.ln p q)) (.and (.en (.v k) q) (.sn q p))
 |.x p q=>.or (.and (.en (.v k) q) (.ln p q)) (.and (.en (.v k) p) (.sn q p))
 |.d p j=>.and (.ln (.m j (.v k)) p) (.sn p (.a (.m j (.v k)) (.k j)))
 |.t p=>.or (.ei (.c (.v k)) p) (.and (.en (.v k) (.k 0)) (.si p (.k 0)))
 |.a p=>.or (.ei (.c (.v k)) p) (.and (.ei (.c (.v k)) (.g p)) (.si p (.k 0)))
def ext:List D->List Nat->List Int->List Nat
 |[],l,_=>l
 |d::r,l,j=>ext r (l++[d.e l j]) j
noncomputable def wr:List D->Nat->F->F
 |[],_,x=>x
 |d::r,k,x=>.imp (d.f k) (wr r (k+1) x)
def PQ:List D->Nat->Bool
 |[],_=>af
 |d::r,k=>d.o k&&PQ r (k+1)
theorem MG:∀(l r:List Nat) (i:Nat),i<l.length->qg 0 (l++r) i=qg 0 l i
 |[],_,_,h=>absurd h (oJ _)
 |_::_,_,0,_=>rfl
 |_::l,r,i+1,h=>MG l r i (Nat.lt_of_succ_lt_succ h)
theorem uw:∀(l r:List Nat) (v:Nat),qg 0 (l++v::r) l.length=v
 |[],_,_=>rfl
 |_::l,r,v=>uw l r v
theorem N.lx (l r:List Nat):∀t:N,t.o l.length=af->t.d (l++r)=t.d l
 |.v i,h=>MG l r i (of_decide_eq_true h)
 |.k _,_=>rfl
 |.a s t,h=>by have h:=bG.1 h;show s.d _+t.d _=_;rw[N.lx l r s h.1,N.lx l r t h.2];rfl
 |.m n t,h=>by show n*t.d _=_;rw[N.lx l r t h];rfl
 |.r t n,h=>by show t.d _*n=_;rw[N.lx l r t h];rfl
theorem I.lx (l r:List Nat)(j:List Int):∀t:I,t.o l.length=af->t.d (l++r) j=t.d l j
 |.v i,h=>rfl
 |.k _,_=>rfl
 |.a s t,h=>by have h:=bG.1 h;show s.d _ j+t.d _ j=_;rw[I.lx l r j s h.1,I.lx l r j t h.2];rfl
 |.b s t,h=>by have h:=bG.1 h;show s.d _ j-t.d _ j=_;rw[I.lx l r j s h.1,I.lx l r j t h.2];rfl
 |.m n t,h=>by show cJ n*t.d _ j=_;rw[I.lx l r j t h];rfl
 |.c t,h=>congrArg cJ (N.lx l r t h)
 |.g t,h=>congrArg Int.neg (I.lx l r j t h)
theorem Hg:∀(ds:List D) (l:List Nat) (j:List Int),∃r,ext ds l j=l++r
 |[],l,_=>⟨[],(aP l).symm⟩
 |d::ds,l,j=>let ⟨r,e⟩:=Hg ds (l++[d.e l j]) j;⟨d.e l j::r,e.trans (aV ..)⟩
theorem fs (a b:Nat):a-b+b=a\/a-b=0/\a<b:=(jC a b).elim (λh=>.inr ⟨Nat.sub_eq_zero_of_le (dj h),h⟩) λh=>.inl (Nat.sub_add_cancel h)
theorem fi (a b:Nat):min a b=a/\a<=b\/min a b=b/\b<a:=(jC b a).elim (λh=>.inr ⟨Nat.min_eq_right (dj h),h⟩) λh=>.inl ⟨xi h,h⟩
theorem fx (a b:Nat):max a b=b/\a<=b\/max a b=a/\b<a:=(jC b a).elim (λh=>.inr ⟨Nat.max_eq_left (dj h),h⟩) λh=>.inl ⟨Nat.max_eq_right h,h⟩
theorem ft (a:Int):(a.toNat:Int)=a\/a.toNat=0/\a<0:=(Int.lt_or_le a 0).elim (λh=>.inr ⟨Int.toNat_of_nonpos (tH h),h⟩) λh=>.inl (gh h)
theorem fa (a:Int):(a.natAbs:Int)=a\/(a.natAbs:Int) = -a/\a<0:=(Int.lt_or_le a 0).elim (λh=>.inr ⟨Int.ofNat_natAbs_of_nonpos (tH h),h⟩) λh=>.inl (Int.natAbs_of_nonneg h)
theorem fd (a k:Nat)(h:0<k):k*(a/k)<=a/\a<k*(a/k)+k:=⟨Nat.mul_div_le a k,Nat.lt_mul_div_succ a h⟩
theorem D.acN (l r:List Nat)(j:List Int)(ps:List Prop)(z:D)(h:z.o l.length=af):(z.f l.length).d (l++z.e l j::r) j ps:=by
 induction z with
 |s p q =>have h:=bG.1 h;show qg 0 _ _+q.d _=p.d _\/qg 0 _ _=0/\p.d _<q.d _;rw[uw,N.lx l _ p h.1,N.lx l _ q h.2];exact fs _ _
 |n p q =>have h:=bG.1 h;show qg 0 _ _=p.d _/\p.d _<=q.d _\/qg 0 _ _=q.d _/\q.d _<p.d _;rw[uw,N.lx l _ p h.1,N.lx l _ q h.2];exact fi _ _
 |x p q =>have h:=bG.1 h;show qg 0 _ _=q.d _/\p.d _<=q.d _\/qg 0 _ _=p.d _/\q.d _<p.d _;rw[uw,N.lx l _ p h.1,N.lx l _ q h.2];exact fx _ _
 |d p k =>have h:=bG.1 h;show k*qg 0 _ _<=p.d _/\p.d _<k*qg 0 _ _+k;rw[uw,N.lx l _ p h.1];exact fd _ _ (of_decide_eq_true h.2)
 |t p =>show(qg 0 _ _:Nat)=p.d _ j\/qg 0 _ _=0/\p.d _ j<0;rw[uw,I.lx l _ j p h];exact ft _
 |a p =>show(qg 0 _ _:Nat)=p.d _ j\/(qg 0 _ _:Nat) =-p.d _ j/\p.d _ j<0;rw[uw,I.lx l _ j p h];exact fa _
theorem K2 (j:List Int)(ps:List Prop)(x:F):∀(ds:List D) (l:List Nat),PQ ds l.length=af->(wr ds l.length x).d (ext ds l j) j ps->x.d (ext ds l j) j ps
 |[],_,_,h=>h
 |d::ds,l,q,h=>by have q:=bG.1 q;have L:(l++[d.e l j]).length=l.length+1:=ao;refine K2 j ps x ds (l++[d.e l j]) (by rw[L];exact q.2) ?_;rw[L];refine h ?_;obtain⟨r,e⟩:=Hg ds (l++[d.e l j]) j;show(d.f l.length).d (ext ds (l++[d.e l j]) j) j ps;rw[e,aV];exact D.acN l r j ps d q.1
noncomputable def n1 {α β:Type}(z:β)(k:α->List α->β):List α->β
 |t::a=>k t a
 |_=>z
noncomputable def n2 {α β:Type}(z:β)(k:α->α->List α->β):List α->β
 |t::s::a=>k t s a
 |_=>z
def run:Nat->Nat->List N->List I->List F->List D->F×List D×Nat
 |0,n,_,_,_,d=>(.ff,d,n)
 |f+1,n,a,b,c,d =>
  bif qO (n%64) 15 then run f (n/64) (.v (n%64)::a) b c d
  else bif qO (n%64) 23 then run f (n/64) (.k (n%64-16)::a) b c d
  else bif qO (n%64) 27 then run f (n/64) a (.v (n%64-24)::b) c d
  else bif qO (n%64) 30 then run f (n/64) a (.k (n%64-28)::b) c d
  else match n%64-31 with
  |0=>n2 (.ff,d,0) (λt s a=>run f (n/64) (.a s t::a) b c d) a
  |1=>n2 (.ff,d,0) (λt s b=>run f (n/64) a (.a s t::b) c d) b
  |2=>n2 (.ff,d,0) (λt s b=>run f (n/64) a (.b s t::b) c d) b
  |3=>n1 (.ff,d,0) (λt a=>run f (n/64/65536) (.m (n/64%65536) t::a) b c d) a
  |4=>n1 (.ff,d,0) (λt b=>run f (n/64/65536) a (.m (n/64%65536) t::b) c d) b
  |5=>n1 (.ff,d,0) (λt a=>run f (n/64) a (.c t::b) c d) a
  |6=>n1 (.ff,d,0) (λt b=>run f (n/64) a (.g t::b) c d) b
  |7=>n2 (.ff,d,0) (λt s a=>run f (n/64) a b (.ln s t::c) d) a
  |8=>n2 (.ff,d,0) (λt s a=>run f (n/64) a b (.sn s t::c) d) a
  |9=>n2 (.ff,d,0) (λt s a=>run f (n/64) a b (.en s t::c) d) a
  |10=>n2 (.ff,d,0) (λt s b=>run f (n/64) a b (.li s t::c) d) b
  |11=>n2 (.ff,d,0) (λt s b=>run f (n/64) a b (.si s t::c) d) b
  |12=>n2 (.ff,d,0) (λt s b=>run f (n/64) a b (.ei s t::c) d) b
  |13=>n2 (.ff,d,0) (λt s c=>run f (n/64) a b (.and s t::c) d) c
  |14=>n2 (.ff,d,0) (λt s c=>run f (n/64) a b (.or s t::c) d) c
  |15=>n2 (.ff,d,0) (λt s c=>run f (n/64) a b (.imp s t::c) d) c
  |16=>n1 (.ff,d,0) (λt c=>run f (n/64) a b (.not t::c) d) c
  |17=>run f (n/64) a b (.ff::c) d
  |18=>run f (n/2048) a b (.p (n/64%32)::c) d
  |19=>run f (n/64/131072) (.k (n/64%131072)::a) b c d
  |20=>run f (n/64/131072) a (.k (n/64%131072)::b) c d
  |21=>run f (n/64/18446744073709551616) (.k (n/64%18446744073709551616)::a) b c d
  |22=>run f (n/64/18446744073709551616) a (.k (n/64%18446744073709551616)::b) c d
  |23=>n1 (.ff,d,0) (λt a=>run f (n/64/65536) (.r t (n/64%65536)::a) b c d) a
  |24=>n2 (.ff,d,0) (λt s a=>run f (n/64) a b c (.s s t::d)) a
  |25=>n2 (.ff,d,0) (λt s a=>run f (n/64) a b c (.n s t::d)) a
  |26=>n2 (.ff,d,0) (λt s a=>run f (n/64) a b c (.x s t::d)) a
  |27=>n1 (.ff,d,0) (λt a=>run f (n/64/65536) a b c (.d t (n/64%65536)::d)) a
  |28=>n1 (.ff,d,0) (λt b=>run f (n/64) a b c (.t t::d)) b
  |29=>n1 (.ff,d,0) (λt b=>run f (n/64) a b c (.a t::d)) b
  |30=>run f (n/2048) a (.v (n/64%32)::b) c d
  |_=>n1 (.ff,d,0) (λx U=>(x,d,n/64)) c
def dec (n:Nat):F×List D×Nat:=run 200 n [] [] [] []
noncomputable def chk (k n:Nat):Bool:=PQ (dec n).2.1 k&&match tab 99 [(ag,wr (dec n).2.1 k (dec n).1)] [] (dec n).2.2 with
 |some _=>af
 |none=>ag
theorem dK (k n:Nat)(h:chk k n=af)(l:List Nat)(e:l.length=k)(j:List Int)(ps:List Prop):(dec n).1.d (ext (dec n).2.1 l j) j ps:=by
 subst e;have h:=bG.1 h;refine K2 j ps _ _ l h.1 ?_;cases q:tab 99 [(ag,wr (dec n).2.1 l.length (dec n).1)] [] (dec n).2.2 with
 |none=>have h:=h.2;rw[q]at h;cases h
 |some m=>exact IB q _ j ps
def qn:Nat->(List Nat->Prop)->Prop
 |0,p=>p []
 |k+1,p=>∀⦃a:Nat⦄,qn k λl=>p (a::l)
def qi:Nat->(List Int->Prop)->Prop
 |0,p=>p []
 |k+1,p=>∀⦃a:Int⦄,qi k λl=>p (a::l)
def qp:Nat->(List Prop->Prop)->Prop
 |0,p=>p []
 |k+1,p=>∀⦃a:Prop⦄,qp k λl=>p (a::l)
theorem FU:∀(k:Nat) (p:List Nat->Prop),(∀l,l.length=k->p l)->qn k p
 |0,_,h=>h [] rfl
 |k+1,_,h=>λa=>FU k _ λl e=>h (a::l) (congrArg Nat.succ e)
theorem MC:∀(k:Nat) (p:List Int->Prop),(∀l,p l)->qi k p
 |0,_,h=>h []
 |k+1,_,h=>λa=>MC k _ λl=>h (a::l)
theorem MB:∀(k:Nat) (p:List Prop->Prop),(∀l,p l)->qp k p
 |0,_,h=>h []
 |k+1,_,h=>λa=>MB k _ λl=>h (a::l)
def Q (k n:Nat):Prop:=qn k λl=>(dec n).1.d (ext (dec n).2.1 l []) [] []
def W (k m r n:Nat):Prop:=qn k λl=>qi m λj=>qp r λps=>(dec n).1.d (ext (dec n).2.1 l j) j ps
theorem q {k n:Nat}(h:chk k n=af):Q k n:=FU k _ λl e=>dK k n h l e [] []
theorem w {k m r n:Nat}(h:chk k n=af):W k m r n:=FU k _ λl e=>MC m _ λj=>MB r _ λps=>dK k n h l e j ps
end Internal.Ln
namespace Internal
section
open Ln
theorem qq1:Q 3 0x17fba70809c27c000e27d1040:=q rfl
theorem qq2:Q 3 0x4844109110824911444a1feea017c402c99f080066040dc17c20370c2:=q rfl
theorem qq3:Q 3 0x5fee9c27c025993e981384f800a44fa20be012cc80:=q rfl
theorem qq4:Q 3 0x17fba709f49f4409c27c000e27d1040:=q rfl
theorem qq5:Q 3 0x17fba709f00148817c025993e981384f800a44fa20be012cc80:=q rfl
theorem qq6:Q 3 0x5fee9c27c000e205f4409c27c000e27d1040:=q rfl
theorem qq7:Q 4 0x57fbae9c27c0052205f009664f86fa604ca87384f800a44fa20be012cc80:=q rfl
theorem qq8:Q 3 0x5fee9c27c000e205f45f4409c27c000e27d1040:=q rfl
theorem qq9:Q 2 0x517fba609f4509c2437040:=q rfl
theorem YH:Q 2 0x2108a1447fbaea01028402980077040:=q rfl
theorem acd:Q 4 0x2a855feebae9c17c4026084980011905382f8010320380c2:=q rfl
theorem acb:Q 1 0x5fee98007f9017d52012000ff2:=q rfl
theorem aca:Q 2 0x5fee9c17d102705f480:=q rfl
theorem Yc:Q 2 0x9fee9c00687d1040:=q rfl
theorem Og:Q 2 0x9fee9800687d2040:=q rfl
theorem ab9:Q 2 0x17fba705f00236404e0be012cc80:=q rfl
theorem FP:Q 2 0x9fee9800687d1040:=q rfl
theorem XF{a b c d:Nat}:a<b->a=c->b<=d->c<=d:=dK 4 0xa5feebae9830a60c1a02027040 rfl [a,b,c,d] rfl [] []
theorem Of{a b:Nat}:a<=b->a<=b+1:=dK 2 0x5fee99f441026040 rfl [a,b] rfl [] []
theorem Jl:Q 3 0x25feeba6081982028040:=q rfl
theorem ab8:W 1 2 0 0x285feebaa86402405c9c1026040ee1658:=w rfl
theorem ab7{a:Int}{b:Nat}:a+(b:Int)+1=a+((b+1:Nat):Int):=dK 1 0x5feb8247d101881d824018 rfl [b] rfl [a] []
theorem ab6{a b:Int}{c:Nat}:(((jm (a-b)):Nat):Int)-(c:Int)-1=(((jm (a-b)):Nat):Int)-((c+1:Nat):Int):=dK 1 0x2111feb8647d1024061761900901ee1658 rfl [c] rfl [a,b] []
theorem ab5:W 1 2 0 0x1145feeba990085962f9c1026040ee1658:=w rfl
theorem ab4:W 1 2 0 0xa17fbaea5c86402406f9c1026040ee1658:=w rfl
theorem ab3:Q 3 0x1141feeba8402a017c2028040:=q rfl
theorem ab2{a:Int}:a+(((0:Nat):Nat):Int)=a:=dK 0 0x17fad8824418 rfl [] rfl [a] []
theorem Wn{a b:Nat}:a<=b->b<=a->a=b:=dK 2 0x125feeba8040980066040 rfl [a,b] rfl [] []
theorem Wd{a b:Nat}:a<=b->a<b->b+1-(a+1)<b+1-a:=dK 2 0x4842048a1feeba70c29c1026040ddf4407d107701f441 rfl [a,b] rfl [] []
theorem ab1:Q 3 0x29feeba6080a010a6040:=q rfl
theorem ab0{a b:Nat}:a=b->b=a:=dK 2 0x125feea00068040 rfl [a,b] rfl [] []
theorem abZ{a b c d e f:Nat}:a<b->c<=d->d<a->e=c->b<=f->e<=f:=dK 6 0xa95feebaebae985126141a021270039830a7040 rfl [a,b,c,d,e,f] rfl [] []
theorem abY:Q 3 0x14887fbae9c00e7081a027c1037440:=q rfl
theorem abX:Q 3 0x1485124a47fbaea027df4410e7081a027c1037440:=q rfl
theorem abW{a b:Nat}:a<b+15->a-b<15:=dK 2 0x895fee9c001f9053be000fc81037040 rfl [a,b] rfl [] []
theorem abV{a b:Nat}:a<=b->a+(b-a)=b:=dK 2 0x1424947fba805f080981037001 rfl [a,b] rfl [] []
theorem abU{a:Nat}:0<=a:=dK 1 0x1fe6010 rfl [a] rfl [] []
theorem abT:Q 1 0x17fba77c001f92004e000fc80:=q rfl
theorem abS:Q 1 0x2ff74ef8003f20007e404e001ec80:=q rfl
theorem abR:Q 1 0x2ff74ef8003f2000f6404e002cc80:=q rfl
theorem abQ:Q 2 0x17fba705f002064fa204e0be0041c80:=q rfl
theorem abP:Q 0 0x7fbea71d:=q rfl
theorem abO{a:Nat}:¬(a:Int)<0:=dK 1 0x1fefa9c900 rfl [a] rfl [] []
theorem abN:Q 1 0x5fee983fffffffffffffff40260000000001000000d00:=q rfl
theorem abM:Q 1 0x5fee98000000000400000340260000000001000000d00:=q rfl
theorem abL{a:Nat}:(a:Int)=0->a=0:=dK 1 0x147fba8400adc900 rfl [a] rfl [] []
theorem abK{a b c:Nat}:a<=b->b<=c->b-a<=c:=dK 3 0x5097fbae9820e6081981037001 rfl [a,b,c] rfl [] []
theorem abJ{a b c:Nat}:a<=b->b<=c->(min a b)<=c:=dK 3 0x14257fbae9820e6081981038040 rfl [a,b,c] rfl [] []
theorem abI{a b:Nat}:a+b=b+a:=dK 2 0x5fe87c005f040 rfl [a,b] rfl [] []
theorem Ta{a b c d e f:Nat}:a+b<c->a=d->b=e->c<=f->d+e<=f:=dK 6 0x525feebaeba615f1039850a8101a0302709f040 rfl [a,b,c,d,e,f] rfl [] []
theorem abH:W 1 1 0 0x48a7fbae9c006982401872fa5873b824018:=w rfl
theorem abG:W 0 1 0 0x17fbaa718be961c:=w rfl
theorem Sy{a:Int}:0<=a->¬a<0:=dK 0 0x17fbafa9c62961c rfl [] rfl [a] []
theorem abF{a:Int}:0<=a->a=(((jm a):Nat):Int):=dK 0 0x1229127fbab90062961ced8 rfl [] rfl [a] []
theorem abE:W 1 1 0 0x48a449feeae406090062982401873b824018:=w rfl
theorem abD:W 1 1 0 0x17fba9625900a6090061c:=w rfl
theorem RQ:Q 1 0xbfdd300000000008000006804f86a0c80:=q rfl
theorem abC:Q 1 0xbfdd33e880000000008000006804c03e8c80:=q rfl
theorem Ry:Q 3 0x297fbae9807d190564c0034040d0000fc80:=q rfl
theorem abB:W 2 1 0 0x10a00410200800440042802081008008800841002200200220042080220040088008480020802002200424002080400880108400808100220084200a0210047fbaebacaa000000000000000356296258000000000000000d6db2ca0402982405872a718b280c0a587274000000000000000d029c103c63b63b824058:=w (by decide +kernel)
theorem abA:(0:Nat)+(1:Nat)<=(16777216:Nat)+(1:Nat):=dK 0 0x1fe67d10000000001000000d1f450 rfl [] rfl [] []
theorem abz:W 0 1 0 0x4925fee9c0000000100000003402ca800000000003d0903562a61cf18:=w rfl
theorem aby{a b c:Nat}:a=b->c=b->a<=(jm (c:Int)):=dK 3 0x408a7fbae983028042a0103b902 rfl [a,b,c] rfl [] []
theorem abx{a b c d:Nat}:a<=b->c=d->c<a->d<=b:=dK 4 0xa5feebae9810e7002a030a6040 rfl [a,b,c,d] rfl [] []
theorem abw{a b c d e:Nat}:a<=b->c<a/\d=1/\e<a->c<=b:=dK 5 0xa1feeba6042b2c9c01284439c00a6040 rfl [a,b,c,d,e] rfl [] []
theorem abv{a b c d e:Nat}:a<=b->c<a/\d=1/\e<a->e<=b:=dK 5 0x85feeba6044b2c9c01284439c00a6040 rfl [a,b,c,d,e] rfl [] []
theorem abu:Q 1 0x509082928885feea007c146fa10037440:=q rfl
theorem Rh{a b c d:Nat}:a<b->b<=c->a=d->d<=c:=dK 4 0xa9feebae9820e80c0982067040 rfl [a,b,c,d] rfl [] []
theorem abt{a b:Nat}:a=b->a<=b-1+1:=dK 2 0x9517fba67d1080a01037441 rfl [a,b] rfl [] []
theorem abr{a b:Nat}:a=b->¬b-1<b->b<=b-1:=dK 2 0x505feeba6081be7042a01037441 rfl [a,b] rfl [] []
theorem abq{a b:Nat}{c:Int}:a=b->(jm c)<a->(jm c)<b:=dK 2 0x2a15feeba70429c00a8040ed8 rfl [a,b] rfl [c] []
theorem abp{a b:Nat}{c:Int}:a<b->0<=c->b=100000->(jm c)<a->(-9223372036854775808)<=c/\c<9223372036854775808:=dK 2 0x10208522a10ff75d75d6550000000000000001ab14b12c0000000000000006b38015186a0c81a58727040ed8 rfl [a,b] rfl [c] []
theorem abo{a b c d:Nat}:a<b->b<=c->b=100000->a=d->d<=c:=dK 4 0x513fdd75d74c10740605186a0c81982067040 rfl [a,b,c,d] rfl [] []
theorem abn{a:Int}{b c:Nat}:0<=a->b=c->(jm a)<b->0<=a/\a<(c:Int):=dK 2 0x1150850a887fbaebacaa4058a58727002a0102961ced8 rfl [b,c] rfl [a] []
theorem abm{a b c d e:Nat}{f:Prop}:a+b<c->c=100000->a=d->b=e->¬f->d+e<=16777216:=dK 5 0x949feebaebae98000000000400000347c40ef0634080d0181461a8320a709f040 rfl [a,b,c,d,e] rfl [] [f]
theorem abl{a b c d e:Nat}:a+b<c->c<=d->c=100000->a=e->e<=d:=dK 5 0x513fdd75d74c18940805186a0c829830a709f040 rfl [a,b,c,d,e] rfl [] []
theorem abk{a b c d e f:Nat}:a+b<c->c<=d->c=100000->a=e->b=f->e+f<=d+1:=dK 6 0x2893fdd75d75d33e886f8a25028340805186a0c829830a709f040 rfl [a,b,c,d,e,f] rfl [] []
theorem abj:Q 2 0x5feebb09df010066040:=q rfl
theorem abi:Q 3 0x5fee9df7d10810277c27d1040:=q rfl
theorem abh:Q 3 0x15feeba70429c00a77d1040:=q rfl
theorem abg{a:Int}{b:Nat}:0<=a->a<(b:Int)->b<100000->(Int.natAbs a)<4611686018427387904:=dK 1 0x1224aff75d74e8000000000000001a033e1a83202a90062961cf18 rfl [b] rfl [a] []
theorem Rg{a:Int}{b:Nat}:0<=a->a<(b:Int)->(jm a)<b:=dK 1 0x5097fbae9c006a90062961ced8 rfl [b] rfl [a] []
theorem Rf:W 0 1 0 0x924bfdd74e8000000000000001a01561a83362961cf18:=w rfl
theorem abf:W 1 1 0 0x110542215fee9f0d419053e1a83203b637040:=w rfl
theorem abe:W 1 1 0 0x8a48892a925fee9f0d41905561a83363b638001:=w rfl
theorem abd:W 0 1 0 0x27fbafadc62a61c:=w rfl
theorem Rd{a:Int}:0<=a->a<2147483647->(Int.natAbs a)<4611686018427387904:=dK 0 0x4925feeba74000000000000000d00a800000001ffffffff562961cf18 rfl [] rfl [a] []
theorem abc:(0:Int)<=(1:Int):=dK 0 0x1fe975c rfl [] rfl [] []
theorem abb:(0:Int)<=(0:Int):=dK 0 0x1fe971c rfl [] rfl [] []
theorem zj{a:Nat}:0<=(a:Int):=dK 1 0x7fa6401c rfl [a] rfl [] []
theorem Rc:Q 1 0x17fbaa9000ab94804e0055c80:=q rfl
theorem Jk:(85:Nat)<(100000:Nat):=dK 0 0x7f9f0d419001572 rfl [] rfl [] []
theorem qf:Q 1 0x17fba7c3506404e1388c80:=q rfl
theorem aba:Q 1 0x17fba7c35064fa204e1388c80:=q rfl
theorem aa9{a:Nat}:((a+1:Nat):Int)-1=(a:Int):=dK 1 0x5feb90085d91f440 rfl [a] rfl [] []
theorem Jj:Q 2 0x5feeaa4064027040:=q rfl
theorem aa8:Q 1 0x17fbafaa40240000000001000000d260000000001000000d00:=q rfl
theorem aa7:Q 2 0x17fba709c46404e1388c9f7d1040:=q rfl
theorem aa6:Q 2 0x17fba709c464f82fa204e1388c9f7d1040:=q rfl
theorem YG:W 0 1 0 0x112bfdd3ac0540006cd8ed8:=w rfl
theorem YF:Q 2 0x57fbae9c271193e08132c0ce0fa0c80:=q rfl
theorem YE:Q 3 0x15feeba67d605f0809960a6040:=q rfl
theorem YD{a:Nat}:6<=2*a+10:=dK 1 0xff33e000ac8000a2016 rfl [a] rfl [] []
theorem YC{a b:Nat}:a+5+b+1<=a+(2*b+10):=dK 2 0xff33ef8002b2000288101f45f05f540 rfl [a,b] rfl [] []
theorem YB{a b:Nat}:a+5+b+1+b<=a+(2*b+10):=dK 2 0xff33ef8002b2000288101f05f45f05f540 rfl [a,b] rfl [] []
theorem YA{a b:Nat}:a+7+b+2<=a+(2*b+10):=dK 2 0xff33ef8002b2000288101f49f05f5c0 rfl [a,b] rfl [] []
theorem Yz{a b:Nat}:a+4+b+5+b+1<=a+(2*b+10):=dK 2 0xff33ef8002b2000288101f45f05f55f05f500 rfl [a,b] rfl [] []
theorem Yy{a b:Nat}:a+4+b+4+b+2<=a+(2*b+10):=dK 2 0xff33ef8002b2000288101f49f05f51f05f500 rfl [a,b] rfl [] []
theorem Yx{a b:Nat}:a+5<=a+(2*b+10):=dK 2 0xff33ef8002b2000288101f540 rfl [a,b] rfl [] []
theorem Yw{a b:Nat}:a+2<=a+(2*b+10):=dK 2 0xff33ef8002b2000288101f480 rfl [a,b] rfl [] []
theorem MA{a b:Nat}:a<=a+b+b+b:=dK 2 0x1fe67c17c17c1000 rfl [a,b] rfl [] []
theorem Yv{a b:Nat}:a<=a+b+b:=dK 2 0x1fe67c17c1000 rfl [a,b] rfl [] []
theorem Yu{a b:Nat}:a<=a+b+b+b+b:=dK 2 0x1fe67c17c17c17c1000 rfl [a,b] rfl [] []
theorem Yt{a b:Nat}:a<=a+b:=dK 2 0x1fe67c1000 rfl [a,b] rfl [] []
theorem zq:Q 2 0x17fba709c46404e0fa0c9f040:=q rfl
theorem wC:Q 2 0x17fba709c464fa204e0fa0c9f040:=q rfl
theorem zp:Q 2 0x17fba709c464fa2fa204e0fa0c9f040:=q rfl
theorem wB:Q 2 0x17fba709c464fa2fa2fa204e0fa0c9f040:=q rfl
theorem Ys{a:Nat}:a<a+1+1+1:=dK 1 0x1fe77d17d17d1000 rfl [a] rfl [] []
theorem rT:Q 2 0x17fba709c464fa2fa2fa2fa204e0fa0c9f040:=q rfl
theorem Yr:Q 3 0x17fbae9c1f4193e13e8be8be8be8be881383e8327df000564000510404e0fa0c9f040:=q rfl
theorem wA:W 1 1 0 0xa9feeae4021758ae47d1018:=w rfl
theorem Mz:Q 3 0x17fbae9c271193e13e8be8be8be8be881383e8327df000564000510404e0fa0c9f040:=q rfl
theorem FT:Q 3 0x17fbae9c271193e8be13e8be8be8be8be881383e8327df000564000510404e0fa0c9f040:=q rfl
theorem My:Q 2 0x5fee9c17d102605f4c0:=q rfl
theorem Yq:Q 2 0x5fee9c17d202605f4c0:=q rfl
theorem Yp:Q 2 0xbfdd383e8327c17d17c17d17d17d17d17d102707d064fbe000ac8000a2040:=q rfl
theorem Yo:Q 2 0xbfdd384e2327c17d17c17d17d17d17d17d102707d064fbe000ac8000a2040:=q rfl
theorem Yn:Q 3 0x15feeba709f48098206605f4c0:=q rfl
theorem Ym{a:Nat}:a<a+1+1:=dK 1 0x1fe77d17d1000 rfl [a] rfl [] []
theorem Yl:Q 2 0x17fba709c464fa2fa2fa2fa2fa204e0fa0c9f040:=q rfl
theorem Yk:Q 2 0x17fba709c464fa2fa2fa2fa2fa2fa204e0fa0c9f040:=q rfl
theorem Yj:Q 2 0xbfdd383e8327c17d17d17d17d17d17d17d102707d064fbe000ac8000a2040:=q rfl
theorem Yi:W 1 1 0 0xa9feeae47d1020758ae4018:=w rfl
theorem Yh:Q 3 0x17fbae9c271193e13e8be8be8be8be8be8be881383e8327df000564000510404e0fa0c9f040:=q rfl
theorem Mx:Q 3 0x17fbae9c271193e8be13e8be8be8be8be8be8be881383e8327df000564000510404e0fa0c9f040:=q rfl
theorem Yg:Q 2 0x27fbaf9c1028040:=q rfl
theorem Ye:Q 2 0x5fee9c17d102605f480:=q rfl
theorem Yd:Q 2 0x57fbae9f0d419033000ce1388c80:=q rfl
theorem Yb{a:Nat}:a<a+1+1+1+1:=dK 1 0x1fe77d17d17d17d1000 rfl [a] rfl [] []
theorem X9:Q 3 0x17fbae9c1f4193e13e8be8be8be881383e8327df000564000510404e0fa0c9f040:=q rfl
theorem X8:Q 3 0x17fbae9c271193e13e8be8be8be881383e8327df000564000510404e0fa0c9f040:=q rfl
theorem X7:Q 3 0x17fbae9c271193e8be13e8be8be8be881383e8327df000564000510404e0fa0c9f040:=q rfl
theorem FR:Q 3 0x17fbae9c271193e8be8be13e8be8be8be881383e8327df000564000510404e0fa0c9f040:=q rfl
theorem X6:Q 2 0x5fee9c17d102605f500:=q rfl
theorem FQ:Q 3 0x17fbae9c271193e8be8be8be13e8be8be8be881383e8327df000564000510404e0fa0c9f040:=q rfl
theorem X5:Q 3 0x2aff75d74f86a0c9f0809d86a190330032320a6040:=q rfl
theorem X4:Q 3 0x57fbae99f0064640be10130032320a6040:=q rfl
theorem Mw:Q 3 0x17fbae9c271193e8be8be8be8be13e8be8be8be881383e8327df000564000510404e0fa0c9f040:=q rfl
theorem Mv:Q 2 0x5fee9c17d202605f500:=q rfl
theorem X3:Q 2 0xbfdd383e8327c17d17d17d17d17c17d17d17d17d102707d064fbe000ac8000a2040:=q rfl
theorem X2:W 1 1 0 0x2a7fbab91f48080000a3758ae4018:=w rfl
theorem X1:Q 2 0xbfdd384e2327c17d17d17d17d17c17d17d17d17d102707d064fbe000ac8000a2040:=q rfl
theorem Mu:Q 2 0xbfdd384e2327d17c17d17d17d17d17c17d17d17d17d102707d064fbe000ac8000a2040:=q rfl
theorem Mt:Q 3 0x15feeba709f4c098206605f500:=q rfl
theorem X0:Q 2 0xbfdd383e8327c17d17d17d17d17d17c17d17d17d17d102707d064fbe000ac8000a2040:=q rfl
theorem XZ:W 1 1 0 0x2a7fbab90080000a3718ae4018:=w rfl
theorem Ms:Q 2 0xbfdd384e2327c17d17d17d17d17d17c17d17d17d17d102707d064fbe000ac8000a2040:=q rfl
theorem XY:W 0 1 0 0x245152feebadadd62b718a9e62961c:=w rfl
theorem XX:Q 1 0x17fba707d06404e0fa0c9f580:=q rfl
theorem XW:W 1 1 0 0x27fbaa61cae47d1018:=w rfl
theorem XU:Q 2 0x17fba707d06404e0fa0c9f040:=q rfl
theorem Mr{a:Nat}:a<a+1:=dK 1 0x1fe77d1000 rfl [a] rfl [] []
theorem Mq:Q 2 0x57fbae9df4007d19033000ce0384c80:=q rfl
theorem Mp:Q 1 0x17fba709c46404e0384c80:=q rfl
theorem Mo:Q 3 0x4a955feeba709c4641cc003380e132038042:=q rfl
theorem XT:W 1 1 0 0x4425feeba7001ad8901aa4018ed8:=w rfl
theorem XS:Q 2 0x5fee99f4417c0466040:=q rfl
theorem XR:Q 1 0xa7fbacaa401ca5c727010:=q rfl
theorem wy:W 1 1 0 0x17fbaa90062fa58900:=w rfl
theorem XQ:Q 6 0xa5feebae99f0c57c10284449c50a67df10309f040:=q rfl
theorem XO:Q 6 0xa5feebae99f1427c10284439c51267c47c309f040:=q rfl
theorem XN:W 1 1 0 0x17fbafa58900aa4018:=w rfl
theorem XM:Q 2 0x5fee99f4417c0426040:=q rfl
theorem XK:W 1 1 0 0x5feebb0aa4018a58900:=w rfl
theorem XJ:Q 3 0x5fee9c27c10004880a027df4410004880:=q rfl
theorem XI:Q 4 0x15feeba60df04001220260c2a027df4410004880:=q rfl
theorem XH:Q 6 0x129feebae9c57c1028444a057df1030a67c309f040:=q rfl
theorem XG:Q 4 0x4a104449289feeba61449830a809f7d10400122037083ddf0400122003:=q rfl
theorem XE:Q 7 0x4a9feebaeba619f040a11126185a057df1030a67c309f040:=q rfl
theorem XD:Q 6 0xa265feebaeba709f14001221287c30459c01264c3a027df4410004880:=q rfl
theorem XC:Q 8 0x141feebaeba67d111f040a111a81df7c614399f4447c30a67c309f040:=q rfl
theorem XB:Q 7 0x2a265feebaebae9837c60004885a1f1011a70059931260c2a027df4410004880:=q rfl
theorem XA:Q 4 0x15feeba67d10df01f44299f4437c10a7040:=q rfl
theorem Xz:Q 7 0x1010204114925249feebaeba6207a11126185a057df1030a67c309f040dc51b77c1006:=q rfl
theorem Xy:Q 7 0x408041011244ca512265feebaebae9881e87c40469c01664c49830a809f7d10400122037083ddf1800122143:=q rfl
theorem Xx:Q 7 0x2040208012a264512265feebaebae9887d11e87c40469c01664c49830a809f7d10400122037083ddf1800122143:=q rfl
theorem Xw:Q 7 0x808102014a85249feebaeba621f447a11126185a057df1030a67c309f040dc51b77c1006:=q rfl
theorem Xv:Q 3 0x15feeba6000489f4427c00660004882066500:=q rfl
theorem Xu{a:Nat}:a=7->¬a=0:=dK 1 0x47fbafa100285c0 rfl [a] rfl [] []
theorem Xs:W 1 1 0 0x9517fbaeaa40189c006961ced8:=w rfl
theorem Xr:W 1 2 0 0x4440a220511024444feeb6cb2965cad962fa177c00139016572bac50bbe0009c809c001393e0009c80:=w rfl
theorem Xq:Q 1 0x5feebb0a640000ab9ce0055c80:=q rfl
theorem Xp:W 1 1 0 0x14feebaa798a17028480:=w rfl
theorem Xo:W 0 1 0 0xa14547fbaebab718beb758a9e62961c:=w rfl
theorem Xn:(2:Nat)<=(4:Nat):=dK 0 0x1fe6512 rfl [] rfl [] []
theorem Xm:W 1 2 0 0x2a254bfbaebb0b6a619a17029658be85c0:=w rfl
theorem Mn:W 0 1 0 0x2ff752c4a0003ce961c:=w rfl
theorem Xl:W 0 1 0 0x5feea6075872961c:=w rfl
theorem Mm:W 0 2 0 0x17fbaa619be9658:=w rfl
theorem Xk:(1:Nat)<=(4:Nat):=dK 0 0x1fe6511 rfl [] rfl [] []
theorem Xj:Q 1 0x27fbaec2b724027010:=q rfl
theorem FO:Q 1 0x17fba77d001f46404e0384c80:=q rfl
theorem Xi:W 1 1 0 0x2257fba6001a64018ed8:=w rfl
theorem uk:Q 1 0x17fba7c3506404ec350c80:=q rfl
theorem Xh:W 1 1 0 0x8a2442114297fbae9f0d4193e8853b0d43202990063b638001:=w rfl
theorem Xg:Q 2 0x57fbae9f0d4193e88333e8800cec350c80:=q rfl
theorem Ml{a:Nat}:0<=(a:Int)+1:=dK 1 0x7fa6076401c rfl [a] rfl [] []
theorem Xf:Q 2 0x15feebaac3506703b2033800ce0384c80:=q rfl
theorem zo:Q 1 0x17fba7c3506404e0384c80:=q rfl
theorem Xe:Q 2 0x15feeba64df040991066480:=q rfl
theorem Xd:Q 3 0x15497fba70409c3038081:=q rfl
theorem FN{a b:Nat}:a<b->a+1<=b:=dK 2 0x5fee9817d1027040 rfl [a,b] rfl [] []
theorem Mk{a b:Nat}:¬a<b->b<=a:=dK 2 0x17fba6001be7040 rfl [a,b] rfl [] []
theorem Xc:W 0 1 0 0x5feebb0a9c62961c:=w rfl
theorem Mj:Q 2 0x2a7fbaea010277d1040be7040:=q rfl
theorem Mi:W 1 1 0 0x17fba990062fa98900:=w rfl
theorem Mh{a:Nat}:a=6->¬a=0:=dK 1 0x47fbafa10028580 rfl [a] rfl [] []
theorem Xb{a:Nat}:(a:Int)=70->a=70:=dK 1 0xa9feea0008d90158011b3900 rfl [a] rfl [] []
theorem Xa{a:Nat}:¬(a:Int)=70->¬a=70:=dK 1 0x12afeebe800236405f58011b3900 rfl [a] rfl [] []
theorem W9{a:Nat}:(a:Int)=76->a=76:=dK 1 0xa9feea000999015801333900 rfl [a] rfl [] []
theorem W8{a:Nat}:¬(a:Int)=76->¬a=76:=dK 1 0x12afeebe800266405f5801333900 rfl [a] rfl [] []
theorem W7:Q 2 0x57fbae9f0d4193e0813280cec350c80:=q rfl
theorem Mg:Q 1 0x112bfdd3e1a8320001d8199403b900:=q rfl
theorem Mf:Q 1 0x2ff75403e8ce4026500:=q rfl
theorem W6:Q 1 0x9fee9c0428480:=q rfl
theorem Me:Q 1 0xbfdd3b0d432028480:=q rfl
theorem W0:Q 1 0x9fee9c0468480:=q rfl
theorem WZ:W 0 2 0 0x11feebaec2ca5972b95d62a719ae5758:=w rfl
theorem FK:W 0 1 0 0x17fba961cbea718:=w rfl
theorem WY:Q 2 0x2bfdd74f86a0c9f040991066480:=q rfl
theorem oL{a:Nat}:a<300->a<5000:=dK 1 0x17fba709c46404e012cc80 rfl [a] rfl [] []
theorem WX:Q 1 0x17fba74e206404e1388c80:=q rfl
theorem WW:Q 1 0xa9feea0007b9015800f73900:=q rfl
theorem WV:Q 1 0xa9feea0007d9015800fb3900:=q rfl
theorem Md:Q 1 0xbfdd3e1a832026440:=q rfl
theorem Mc:Q 1 0x17fba761a86404e1388c80:=q rfl
theorem WU{a:Nat}:a=79->¬a=78:=dK 1 0x11feebe8002764050004fc80 rfl [a] rfl [] []
theorem WT{a:Nat}:a=77->¬a=78:=dK 1 0xafeebe8002764050004dc80 rfl [a] rfl [] []
theorem WS{a:Nat}:a=77->¬a=79:=dK 1 0xafeebe80027e4050004dc80 rfl [a] rfl [] []
theorem WR:Q 2 0x57fbae9c07d193e8833000ce012cc80:=q rfl
theorem WQ:Q 5 0xa57fbaebae9f0d4190733e88225023e1853000ce012cc80:=q rfl
theorem WO:Q 6 0xa97fbaebae9f0d4193e289404fbe2881ccfa20853000ce012cc80:=q rfl
theorem WN:Q 4 0x4c284c4c4d7fbaeba709c46414c000910814c0033804b320370df441:=q rfl
theorem WM:Q 1 0x895fee9f0d41903384e23203b900:=q rfl
theorem WL:Q 1 0x44aff74e8000000000000001a03384e23203c900:=q rfl
theorem Mb{a:Nat}:0<=0+(a:Int):=dK 1 0x7fa6090071c rfl [a] rfl [] []
theorem WK:Q 7 0x457fbaebae9c465193e28d33e880f8234c98b408fbe1840ce012cc80:=q rfl
theorem WJ:Q 2 0x5feeaa4060900727040:=q rfl
theorem WI:Q 7 0x2a57fbaebaeba7119464f8c24c98d404fbe2881ccfa20853000ce012cc80:=q rfl
theorem WH:Q 1 0x17fba761a86404e9c40c80:=q rfl
theorem Ma{a:Nat}:0<((a+1:Nat):Int):=dK 1 0x7faa47d101c rfl [a] rfl [] []
theorem FJ:Q 1 0x17fba7c3506404e012cc80:=q rfl
theorem mF:Q 2 0x97fbae9f0d419034000ce9c40c80:=q rfl
theorem L9:Q 2 0x5fee9c102a901900:=q rfl
theorem L8:Q 2 0x17fba7c3506404e2328c9f7d1040:=q rfl
theorem L7:Q 2 0x5feebe7040bea901900:=q rfl
theorem L6:Q 2 0x1229127fbab90286406402faa4064037040:=q rfl
theorem Cd:Q 3 0x201feebaea640dcae40e1902900bea902901a01037081:=q rfl
theorem L5:Q 2 0x17fba7119464f82fa204e2328c9f7d1040:=q rfl
theorem L4:Q 3 0x201252080907fbae98112b9038640a4028040dc207b903:=q rfl
theorem WG{a b:Int}:a=(-1)->b=(-1)->a=b:=dK 0 0x2945feebab658ae5759ae5758 rfl [] rfl [a,b] []
theorem L3:Q 2 0x17fba7119464f8204e2328c9f7d1040:=q rfl
theorem WE{a b:Int}:a=(-1)->b=(-2)->¬a=b:=dK 0 0x227fbaebeb658ae5799ae5758 rfl [] rfl [a,b] []
theorem WD{a b:Int}:a=(-1)->b=(-3)->¬a=b:=dK 0 0x44ff75d7d6cb15ca0003cd9ae5758 rfl [] rfl [a,b] []
theorem WC{a b:Int}:a=(-1)->b≠(-1)/\b≠(-2)/\b≠(-3)->¬a=b:=dK 0 0x2884828120a02888a13fdd75f5b2c5965f5ca0003cd9beb95e66fae5759ae5758 rfl [] rfl [a,b] []
theorem WA{a b:Int}:a=(-2)->b=(-1)->¬a=b:=dK 0 0x14bfbaebeb658ae5759ae5798 rfl [] rfl [a,b] []
theorem Wz{a b:Int}:a=(-2)->b=(-2)->a=b:=dK 0 0x2945feebab658ae5799ae5798 rfl [] rfl [a,b] []
theorem Wy{a b:Int}:a=(-2)->b=(-3)->¬a=b:=dK 0 0x44ff75d7d6cb15ca0003cd9ae5798 rfl [] rfl [a,b] []
theorem Wx{a b:Int}:a=(-2)->b≠(-1)/\b≠(-2)/\b≠(-3)->¬a=b:=dK 0 0x144241409050140a213fdd75f5b2c5965f5ca0003cd9beb95e66fae5759ae5798 rfl [] rfl [a,b] []
theorem Ww{a b:Int}:a=(-3)->b=(-1)->¬a=b:=dK 0 0x297f75d7d6cb15caeb35ca0003cd8 rfl [] rfl [a,b] []
theorem Wv{a b:Int}:a=(-3)->b=(-2)->¬a=b:=dK 0 0x297f75d7d6cb15caf335ca0003cd8 rfl [] rfl [a,b] []
theorem Wu{a b:Int}:a=(-3)->b=(-3)->a=b:=dK 0 0xa517fbaead962b9400079b35ca0003cd8 rfl [] rfl [a,b] []
theorem Wt:Q 1 0xa9feea0009d90158013b3900:=q rfl
theorem Ws{a b:Int}:a=(-3)->b≠(-1)/\b≠(-2)/\b≠(-3)->¬a=b:=dK 0 0x5109050242482814427fbaebeb658b2cbeb9400079b37d72bccdf5caeb35ca0003cd8 rfl [] rfl [a,b] []
theorem Wr{a b:Int}:a≠(-1)/\a≠(-2)/\a≠(-3)->b=(-1)->¬a=b:=dK 0 0x42520a048280a0490a5fdd75f5b2c572bacd965f5ca0003cd8beb95e62fae5758 rfl [] rfl [a,b] []
theorem Wo{a b:Int}:a≠(-1)/\a≠(-2)/\a≠(-3)->b=(-2)->¬a=b:=dK 0 0x21290502414050280a5fdd75f5b2c572bccd965f5ca0003cd8beb95e62fae5758 rfl [] rfl [a,b] []
theorem Wm:Q 2 0x97fbae9f0d4193e9034000ce9c40c80:=q rfl
theorem Wl{a b:Int}:a≠(-1)/\a≠(-2)/\a≠(-3)->b=(-3)->¬a=b:=dK 0 0x84a414090224a05014bfbaebeb658ae50001e6cd965f5ca0003cd8beb95e62fae5758 rfl [] rfl [a,b] []
theorem Wk{a:Int}:a=(-1)->¬(a≠(-1)/\a≠(-2)/\a≠(-3)):=dK 0 0x5048a12282a243fdd7d965f5ca0003cd8beb95e62fae5758ae5758 rfl [] rfl [a] []
theorem Wj{a:Int}:a=(-2)->¬(a≠(-1)/\a≠(-2)/\a≠(-3)):=dK 0 0x5048a122828543fdd7d965f5ca0003cd8beb95e62fae5758ae5798 rfl [] rfl [a] []
theorem Wi{a:Int}:a=(-3)->¬(a≠(-1)/\a≠(-2)/\a≠(-3)):=dK 0 0xa0914249050a87fbafb2cbeb9400079b17d72bcc5f5caeb15ca0003cd8 rfl [] rfl [a] []
theorem L2:Q 3 0x481025224110a0409105104a07fbaea0212b9038640a4028040dc20770c1:=q rfl
theorem Wh{a:Int}:0<=a->¬a=(-1):=dK 0 0x9feebeb95d62961c rfl [] rfl [a] []
theorem Wg{a:Int}:0<=a->¬a=(-2):=dK 0 0x9feebeb95e62961c rfl [] rfl [a] []
theorem Wf{a:Int}:0<=a->¬a=(-3):=dK 0 0x13fdd7d728000f362961c rfl [] rfl [a] []
theorem We:Q 1 0xa9feea0009f90158013f3900:=q rfl
theorem Wc:Q 2 0x2549feeba8480a12068040:=q rfl
theorem Wb:Q 1 0xa9feea0009b9015801373900:=q rfl
theorem Wa:Q 2 0x49feeba7010a11068040:=q rfl
theorem V9:Q 2 0x4bfdd74ec350c80a11068040:=q rfl
theorem V8:Q 2 0x97fbae9f0d4193e8834000ce9c40c80:=q rfl
theorem V7:Q 1 0x2a2893fdd756004ece402800276405f58013b3900:=q rfl
theorem V6:Q 1 0x2a2893fdd756004fce40280027e405f58013f3900:=q rfl
theorem V5:Q 1 0x2a2893fdd756004dce40280026e405f5801373900:=q rfl
theorem L0:Q 3 0x114091012200541feebae9d38819095c81c32052034000ce9c40c80dc2038003:=q rfl
theorem V4:Q 1 0x54ff7560006ce4028580:=q rfl
theorem V3:Q 1 0x957f75f58001b3900be8580:=q rfl
theorem V2{a:Nat}:a=69->(a:Int)=69:=dK 1 0xa9feeac008b9c80500045c80 rfl [a] rfl [] []
theorem V1{a:Nat}:¬a=69->(a:Int)≠69:=dK 1 0x12afeebeb0022e72017d00045c80 rfl [a] rfl [] []
theorem LZ:Q 3 0x80941feebaeab0d419c81d72070c81480d00033a71032037080:=q rfl
theorem LY:Q 2 0x57fbae9f0d419033000ce0384c80:=q rfl
theorem LX:Q 1 0xbfdd3e1a8327d1026440:=q rfl
theorem V0:Q 1 0xbfdd3e1a8327d0026440:=q rfl
theorem VZ:Q 1 0x17fba7c35064fa404e9c40c80:=q rfl
theorem VY:W 1 1 0 0x57fbaeab0d419b17d4c4804e9c40c80:=w rfl
theorem VX:Q 2 0x57fbae9f0d4193e0813280ce9c40c80:=q rfl
theorem VW:W 1 1 0 0x11052110a7fba67d101f442bea62403b638001:=w rfl
theorem VV:Q 1 0x7fbb09c001393e0009c80:=q rfl
theorem VU:Q 2 0x49feeba7010a12068040:=q rfl
theorem LW:Q 2 0x57fbae9f0d4190333e8800ce9c40c80:=q rfl
theorem VT:Q 1 0xbfdd3e1a832026500:=q rfl
theorem LV:Q 2 0x4bfdd74ec350c80a12068040:=q rfl
theorem VS{a b:Nat}:a<200->b<=a->4*b+1<1000:=dK 2 0x4c4dfeeba701f464fa200091033000ce00c8c80 rfl [a,b] rfl [] []
theorem VR:Q 1 0xbfdd3e1a8327d1026480:=q rfl
theorem VQ:Q 2 0x49feeba7011a12068040:=q rfl
theorem VP:Q 4 0x130a1343435feebae9d86a190530002442053000ce00c8c80dc37d10004881:=q rfl
theorem VO:Q 2 0x57fbae9f0d4193e88333e8800ce9c40c80:=q rfl
theorem VN:Q 3 0x57fbae9c271190333e880f840ce00c8c80:=q rfl
theorem VM:W 0 1 0 0x2248a122828522feeba961cb2cbeb9400079b17d72bcc5f5caeb14b128000f3:=w rfl
theorem VL:Q 6 0x4c0a13434317fbaebae9d388190b300024430b408fbe88600091053000ce00c8c80dc47d10004881:=q rfl
theorem VK:W 0 2 0 0x90881100480908802404809feebaeb2cbeb9400079b37d72bccdf5caeb3652cb95caeb17d965f5ca0003cd9beb95e66fae5759ae5758:=w rfl
theorem VJ:Q 1 0x17fba7c35064fa204e9c40c80:=q rfl
theorem VI:Q 5 0x262697fbaebae9f0d4193e889404fbe888000910733e88002440853000ce00c8c80:=q rfl
theorem VH:Q 3 0xa5feebae9f0d4190540215f5480c804e9c40c80:=q rfl
theorem uj:Q 1 0x17fba7c3506404e00c8c80:=q rfl
theorem VG:Q 1 0x17fba77d001f46404e012cc80:=q rfl
theorem VF:Q 4 0x295feebaeba7c350641cc10740215f5480c804e9c40c80:=q rfl
theorem VE:W 1 2 0 0x4812a1feeb2a620900669824019667040ee1658:=w rfl
theorem VD:W 0 3 0 0x2a11015145feeba7040a9a669658ee1619ee161a:=w rfl
theorem VC:W 0 2 0 0x1424947fbab660900629658ee1619:=w rfl
theorem VB:W 0 3 0 0x15feebb0b2a61aa5a669658:=w rfl
theorem VA:Q 3 0x57fbae9f0d4190333e880f840ce00c8c80:=q rfl
theorem Vz:W 0 2 0 0x17fba9619be9658:=w rfl
theorem Vy:W 0 2 0 0x5feea6175962a658:=w rfl
theorem Vx{a:Int}:a-1<a:=dK 0 0x1fea621758 rfl [] rfl [a] []
theorem Vw:W 0 4 0 0x2a1feebaca5a6e9658b2a6a175ba6175b62ca9a669658:=w rfl
theorem Vv:W 0 5 0 0x2150948485050feebaeb2a649ed24f5ab2a6c9ed24f58b2a6daa9962ebaca596e961aa9b6aa658:=w rfl
theorem zm:Q 1 0x17fba700966404e00c8c80:=q rfl
theorem Vu:W 0 5 0 0x12947fbaebb0b2a649ed24f5ab2a6c9ed24f58beca9b6aa658:=w rfl
theorem Vt:Q 6 0x989a57fbaebaeba7c35064f8a24c98b404fbe888000910733e88002440853000ce00c8c80:=q rfl
theorem Vr:W 0 2 0 0x8128bfdd74f86a0c80b2a138866cd4cca2710ceca84e219b1531289c433ee1619:=w rfl
theorem LU:W 0 1 0 0x4925fee9d0000000000000003402ca84e219b1531289c433f18:=w rfl
theorem Vq:W 0 2 0 0x8128bfdd74ec350c80b2a138866cd4cca2710ceca84e219b1531289c433ee1619:=w rfl
theorem Vp:W 0 2 0 0x5feebb0a98669658:=w rfl
theorem LS:W 0 1 0 0x5feebb0a5872a718:=w rfl
theorem Vo:W 1 1 0 0x5feebb0a64018a98900:=w rfl
theorem Vn:W 0 2 0 0x17fba9619bea658:=w rfl
theorem Vm:Q 2 0x57fbae9f0d419033000cec350c80:=q rfl
theorem Vl{a:Nat}:a-1<a->0<=(-1)+(a:Int):=dK 1 0x517fba982402575c9c0077440 rfl [a] rfl [] []
theorem Vk:Q 1 0x280a892228281544897fba80429c0077440ee090095d:=q rfl
theorem Vj:Q 2 0x2221feeba7042be7481a12037441:=q rfl
theorem Vi:Q 2 0x8104051041028220215104417fbaeba809f4439c10af9d2068480dd1077481:=q rfl
theorem Cc:Q 1 0x17fba709c46404e00c8c80:=q rfl
theorem Vh:Q 1 0xa24547fba801f4419c0077440:=q rfl
theorem FI:Q 1 0x17fbaa900727010:=q rfl
theorem Vg:Q 2 0x4a55fee9df4007d1905380e132038001:=q rfl
theorem oK:W 1 1 0 0xa9feeb2a03e88e07a4018a98940fa2381e900b2a03e88e0764018a98940fa2381d900:=w rfl
theorem FH:W 1 1 0 0xa9feeb2a03e88e0760764018a98940fa2381d81d900b2a03e88e07a4018a98940fa2381e900:=w rfl
theorem Vf:Q 2 0x4a55fee9f0d41905380e132038001:=q rfl
theorem Ve{a:Nat}:a+1≠a:=dK 1 0x7fbe801f440 rfl [a] rfl [] []
theorem Vd{a:Nat}:a+1≠a+2:=dK 1 0xbfbe87d201f440 rfl [a] rfl [] []
theorem Vc{a:Nat}:a+2≠a:=dK 1 0x7fbe801f480 rfl [a] rfl [] []
theorem Vb{a:Nat}:a+2≠a+1:=dK 1 0x7fbe87d101f480 rfl [a] rfl [] []
theorem FG:W 1 1 0 0xa9feeb2a03e88e0760764018a98940fa2381d81d900b2a03e88e0764018a98940fa2381d900:=w rfl
theorem Va:0<(((85:Nat):Nat):Int):=dK 0 0xff5480055c9c rfl [] rfl [] []
theorem U9:Q 1 0x17fba7002ae40552001572900:=q rfl
theorem U8:W 1 1 0 0x54ff75d65407d11c0f48031531281f44703d20150000f362961c:=w rfl
theorem U7:W 1 2 0 0x9527fbaeb2a03e88e07a4020658aa0658940fa2381e900b29799a5995db2a03e88e0764018a98940fa2381d900:=w rfl
theorem U6:W 0 1 0 0x44285142450949fdd75b6d6f315bac56e3150000f362961c:=w rfl
theorem U5:W 1 1 0 0x12497fbae9c006a900627010ed8:=w rfl
theorem U4:W 1 1 0 0x1feebaa81d90072a90062961c:=w rfl
theorem U3:W 2 1 0 0x1293fdd75d65407d11c0f480b1531281f44703d203540ec80314b0e4e00c8c80:=w rfl
theorem U2:W 1 1 0 0x114a7fbae9c0067011aa4018ed8:=w rfl
theorem U1:Q 1 0x17fba7011aa401d:=q rfl
theorem U0:Q 2 0x284a7fbae9c14280819c0477440:=q rfl
theorem UZ:Q 2 0x82925feebae9c01919034040ce00c8c809c0477440:=q rfl
theorem UY:W 0 1 0 0x1040a050502414090a04424110a0442411140844421120844421140844421120844421487f75d6db6db580013362b0001e6c56f315bac56e31500017362961c:=w rfl
theorem LR:Q 3 0x280a1109244828a289feea1f1020e6040dc07c10b7001:=q rfl
theorem LQ{a b c:Nat}{d:Prop}{e f:Nat}:¬(a<b\/c≠6/\d\/e=6\/c=77\/c=78\/c=79)->¬f+a<b:=dK 5 0x1042828504850490504282850485049044211042120421104240442110421204211042407fbaf9c17c012fb6db6db680027e4150004ec82a0009b90542c1d80c6fa160a7040 (by decide +kernel) [a,b,c,e,f] rfl [] [d]
theorem LP{a b c:Nat}{d:Prop}{e:Nat}:¬(a<b\/c≠6/\d\/e=6\/c=77\/c=78\/c=79)->b<=a:=dK 4 0x410a0a1412141241410a0a14121412411084410848108441090110844108481084410901fee98006fb6db6db680027e4150004ec82a0009b90542c1d80c6fa160a7040 (by decide +kernel) [a,b,c,e] rfl [] [d]
theorem UX:Q 1 0x94feebab75ca12028440:=q rfl
theorem UW:W 0 1 0 0x4925feeba74000000000000000d00a9e62961cf18:=w rfl
theorem UU:Q 1 0xa2feebab75ca120284c0:=q rfl
theorem UT:W 1 1 0 0x1122feebab758a120285c0:=w rfl
theorem US:Q 2 0x1082814140905024217f75f42e0597d0004fc81b2fa0009d90365f4001372068580:=q rfl
theorem UR{a b:Nat}:¬a+b<b:=dK 2 0x7fbe705f040 rfl [a,b] rfl [] []
theorem Cb:Q 3 0x15feeba6080982066040:=q rfl
theorem UQ{a:Nat}:¬a+1<1:=dK 1 0x7fbe745f440 rfl [a] rfl [] []
theorem UP:W 3 4 0 0x541208a2110481feebacb2cb2ca5b7299016a9699a64059a996296240acb2cb2ca5b7299006a9699a64019a996296240a6040:=w rfl
theorem UO{a:Nat}:¬a<0:=dK 1 0x7fbe7400 rfl [a] rfl [] []
theorem UN:W 3 4 0 0x28120884220a81feebacb2cb2ca5b7299026a9699a64099a9962962402cb2cb2ca5b7299026a9699a64099a99629624066040:=w rfl
theorem UM{a:Nat}:¬a+2<2:=dK 1 0x7fbe749f480 rfl [a] rfl [] []
theorem UL:W 3 8 0 0x428110817f75d759497d669609ed4c93db2cb2cb293fae532046f6937a5f699022fb517d27b493d901b2cb2cb296dca6405aa5a66990166a658a58900:=w rfl
theorem UK:Q 4 0x55feebae9830260819830a6040:=q rfl
theorem UJ:W 4 4 0 0x1482408910841481feebaeb2cb2cb296dca640daa5a66990366a658a58900b2cb2cb296dca6409aa5a66990266a658a589019830a6040:=w rfl
theorem UI:Q 3 0x5fee9df081027040:=q rfl
theorem LO:W 1 2 0 0x216502dfeebaeb2a03e88e07a402100028d981d62a84000a3660758940fa2381e900a9e66965cb2a03e88e0764018a98940fa2381d900:=w rfl
theorem UH:W 4 4 0 0xa21feebae9c10acb2cb2ca5b7299006a9698a64018a986696640ea6240a7040:=w rfl
theorem UG:W 4 4 0 0x4841409feebae9c112cb2cb2ca5b7299006a9698a64018a986696640ea6240a7040eda:=w rfl
theorem UE:Q 2 0x17fbaebe60409c0066040:=q rfl
theorem LN:Q 3 0x25feeba60029810a87d1040:=q rfl
theorem UD:Q 3 0x25feeba60029810a8040:=q rfl
theorem UC:Q 3 0x5217fbaeba8042be70429c00a87d1040:=q rfl
theorem FF:Q 3 0x25feeba70029c10a87d1040:=q rfl
theorem UB:Q 3 0xa7fbaebe8002982067040:=q rfl
theorem LM:Q 3 0x9fee9800687c2040:=q rfl
theorem UA:Q 3 0x15feeba70429c00a8040:=q rfl
theorem zl:Q 3 0x25feeba70029c10a8040:=q rfl
theorem B9:Q 3 0x15feeba70429c00a6040:=q rfl
theorem Uz:Q 3 0x15feeba60429800a6040:=q rfl
theorem Uy:Q 5 0x2549feeba87df102043a1f1000e87c2040:=q rfl
theorem Ux:Q 2 0x17fbaf9c0066040:=q rfl
theorem Uw:Q 6 0x25feebae983166005a1f1000e87c2040:=q rfl
theorem Uv:Q 4 0x25feeba60c19830287c2040:=q rfl
theorem FE:Q 2 0x5feebb09c0066040:=q rfl
theorem Uu:Q 3 0x29feeba7080a1f4c10a87d1040:=q rfl
theorem Ut:Q 1 0x1feec2801f440:=q rfl
theorem Us:Q 1 0x1feec2801f480:=q rfl
theorem Ur:Q 3 0x29feeba7080a1f4810a87d1040:=q rfl
theorem Uq:Q 3 0x25feeba70819820287d3040:=q rfl
theorem Up:Q 3 0x45feeba7002a010a87d2040:=q rfl
theorem LL:Q 3 0x147fbaebe8002a1f4810a87d1040:=q rfl
theorem Uo:Q 5 0xa45feebaeba7084a031280c0a1f4810a87d1040:=q rfl
theorem Un:Q 4 0xa5feebae9c30260c2a1f4c10a87d2040:=q rfl
theorem Um:Q 3 0x25feeba70819820287d2040:=q rfl
theorem Ul:Q 3 0x89feebaec28042a020287d1040:=q rfl
theorem Uk:Q 6 0x82848544487fbaebaeb2cb2cb29905729904903a640e40a9904902aa40a40699019009840e60c29c2068040:=q rfl
theorem Uj{a b:Nat}:(a:Int)<=((a+b:Nat):Int):=dK 2 0x1fe991f040900 rfl [a,b] rfl [] []
theorem LK:Q 1 0x1feec2b95d900:=q rfl
theorem LJ:Q 3 0x147fbaebe8002a1f4410a8040:=q rfl
theorem Ui:Q 4 0x49feeba77d2003a030687c2040:=q rfl
theorem Uh:Q 4 0x9feeba60df480a1f4800e87c2040:=q rfl
theorem Ug:Q 4 0x129feebae9837d40680839820287d4040:=q rfl
theorem Ue:Q 4 0xa47fbaebafa000e8083a1f4810a8040:=q rfl
theorem Ud:Q 4 0xa47fbaebafa000e8083a1f4810a87d1040:=q rfl
theorem Uc:Q 4 0xa47fbaebafa000e8083a1f4c10a8040:=q rfl
theorem Ub:Q 4 0xa47fbaebafa000e8083a1f4c10a87d1040:=q rfl
theorem Ua{a b c:Nat}:a=b->c=b+4->a<c:=dK 3 0x29feeba7080a1f5010a8040 rfl [a,b,c] rfl [] []
theorem T9:Q 3 0x29feeba77d1080a1f4c10a8040:=q rfl
theorem T8:Q 4 0xa5feebae9c30260c2a1f5010a87d1040:=q rfl
theorem T7:Q 7 0xa40bfbaebafa0302cb2c9c41a6182b271059850ac9c40e60c2a1f5010a87d1040:=q rfl
theorem T5:Q 7 0xa10bfbaebafa0502cb2c9c41a6182b271059850ac9c40e60c2a1f5010a87d1040:=q rfl
theorem T4:Q 7 0xa04bfbaebafa0602cb2c9c41a6182b271059850ac9c40e60c2a1f5010a87d1040:=q rfl
theorem TZ:W 3 1 0 0x5feeba991f4806299006287c2040:=w rfl
theorem TY:Q 2 0x9fee980068040:=q rfl
theorem TX:W 3 4 0 0x481feeba962406cb2cb2ca5b7299026a9699a64099a99629624028040:=w rfl
theorem FD:Q 3 0x25feeba7042a1f4800a605f500:=q rfl
theorem LI:Q 3 0x25feeba7042a1f4c00a605f500:=q rfl
theorem TU:Q 1 0x107fbaebe8480a12028580:=q rfl
theorem TR:Q 2 0x5feeaa47d2064026040:=q rfl
theorem TQ:W 2 4 0 0x207fba961cb2cb2cb296dca6405aa5a66990166a658a58900:=w rfl
theorem TP:W 2 4 0 0x107fbaa658b2cb2cb296dca6405aa5a66990166a658a58900:=w rfl
theorem TO:W 2 4 0 0x21feea647d2059b2cb2cb296dca6405aa5a66990166a658a58900:=w rfl
theorem LH:W 2 4 0 0xa47fba969cb2cb2cb296dca6405aa5a66990166a658a58900:=w rfl
theorem TN:W 2 4 0 0x9feeaa47d205ab2cb2cb296dca6405aa5a66990166a658a58900:=w rfl
theorem B8{a b c:Nat}:a=b+2->c=b+3->c≠a:=dK 3 0x147fbaebe8002a1f4c10a87d2040 rfl [a,b,c] rfl [] []
theorem TM:W 2 4 0 0x17fba96dcb2cb2cb296dca6405aa5a66990166a658a58900:=w rfl
theorem TL:W 2 4 0 0x87fbaec2ca996a9698b2cb2cb296dca6405aa5a66990166a658a58900:=w rfl
theorem TK{a:Nat}:0<(a:Int)+2:=dK 1 0x7faa07a401c rfl [a] rfl [] []
theorem TJ:W 1 1 0 0x5feeaa47d2018b2a81e90062961c:=w rfl
theorem LF:Q 3 0x25feeba7042a000a605f500:=q rfl
theorem TH:W 1 1 0 0x4517fbaeaa07a40189df48006961ced8:=w rfl
theorem LD:Q 3 0x14bfbaebe8080a1f4810a8040:=q rfl
theorem TG:W 1 1 0 0x17fbafa98900a64018:=w rfl
theorem LC{a:Nat}:1+(a:Int)=((a+1:Nat):Int):=dK 1 0x5feb91f44082401d rfl [a] rfl [] []
theorem LB:Q 3 0x14bfbaebe8080a1f4c10a8040:=q rfl
theorem TC{a:Nat}:(a:Int)<3->a+1<5000:=dK 1 0x5fee9c271193e88150000f3900 rfl [a] rfl [] []
theorem Tz:Q 1 0x2ff74c9be88150000f3900:=q rfl
theorem B7:Q 1 0x17fba7c3506404c003fc80:=q rfl
theorem Tx:Q 1 0x5fee9937c04264c0:=q rfl
theorem Tv{a:Nat}:(min (40:Nat) a)<=63:=dK 1 0x549fe6001fe40f00000a32 rfl [a] rfl [] []
theorem LA:Q 3 0x25feeba7042a1f4400a605f500:=q rfl
theorem FC:Q 3 0x217fbaeba70029df4410acaa07a40640a99027287d1040:=q rfl
theorem Tu:Q 2 0x5fee9d50264df7d1040:=q rfl
theorem Tt:Q 1 0x17fba77d001f46404c003fc80:=q rfl
theorem Lz:Q 3 0x14bfbaebe8080a1f4810a87d1040:=q rfl
theorem Ts:Q 2 0x5fee9937c17d10264df7d1040:=q rfl
theorem Ly:Q 3 0x14bfbaebe8080a1f4c10a87d1040:=q rfl
theorem Tr:W 0 1 0 0x5feea800000000ee6b2803562ca807d19b1531280fa33:=w rfl
theorem Lx:W 0 1 0 0xa9feeb2a138866c54c4a2710ceca807d19b1531280fa33:=w rfl
theorem Tq:Q 2 0x5fee99f481026040:=q rfl
theorem Lw{a b c d:Nat}:a+4<=b->c=a+2->d=b->c<d:=dK 4 0x129feebae9c30a8043a1f4800a605f500 rfl [a,b,c,d] rfl [] []
theorem Tp{a:Nat}:(a:Int)<2->a+1<5000:=dK 1 0x2ff74e1388c9f440a9e900 rfl [a] rfl [] []
theorem To:Q 1 0x17fba649f440a9e900:=q rfl
theorem Tn:Q 1 0x1b6ff74c006cc9f0036880426480:=q rfl
theorem Tj:Q 5 0x49feeba67c409f481a1f0c00a87d2040:=q rfl
theorem Lv:Q 4 0x15feeba709f0c09c10e609f040:=q rfl
theorem Ti:Q 6 0x20b0b0b42ffbaebae9c27c602f9851260c49c10e609f0400002e9f105:=q rfl
theorem Th:Q 2 0x245feeba87d1040be77d1040b2a81e901900a6401c:=q rfl
theorem Tf:Q 3 0x20b42ffbae9817d10ef9820260400002e9f002:=q rfl
theorem Te:Q 3 0x20b42ffbae9810ef9820260400002e9f002:=q rfl
theorem Td:Q 2 0xbfdd383e8327c006d9013001b327c00da27d1040:=q rfl
theorem Tc:Q 2 0x9fee9c04287d2040:=q rfl
theorem wu:Q 5 0x252bfbaebaebe81029840e8043a1f4c00a605f500:=q rfl
theorem S9:Q 2 0x97fbae9c019190343e9000ce0096c80:=q rfl
theorem S8:Q 2 0x2ff74c006cc9f00368817c006d9013001b327c00da27d1040:=q rfl
theorem S7:Q 3 0x15feeba7004b6414c0053001b327c00da2040:=q rfl
theorem S6:Q 3 0x15feeba701c26414c0053001b327c00da2040:=q rfl
theorem S5:Q 3 0x1425feeba705f080be60839c1037001:=q rfl
theorem S4:W 0 1 0 0x24bfdd759500fa3362a62501f4674b0e5403e8cd8:=w rfl
theorem S3:Q 2 0x5fee9c27119013001b327c00da2040:=q rfl
theorem S2:Q 3 0x2108448929fee9817c4027040dc00780c2:=q rfl
theorem S1:W 2 4 0 0x94240ff75d65403e8cd8a989407d19d96596594b6e53200d52d334c8033532c52c480ce0096c80:=w rfl
theorem SY:Q 2 0x5fee9c271193e8813001b327c00da2040:=q rfl
theorem SW:W 2 1 0 0x25feeba96247d20696240287d2040:=w rfl
theorem SV:W 2 4 0 0x884a0ff75d65403e8cd9a999407d19d96596594b6e53200d52d334c8033532c52c480ce0096c80:=w rfl
theorem SU:Q 2 0x5fee9c070993e8be8813001b327c00da2040:=q rfl
theorem Lu:Q 3 0x42282d0bfeeba705f102be60809810370800002e83:=q rfl
theorem Lr:Q 3 0x42282d0bfeeba605f102be60809810370800002e83:=q rfl
theorem SR:Q 3 0x4a57fba70439c1037080:=q rfl
theorem SQ:Q 3 0x4a57fba60439c1037080:=q rfl
theorem FA:Q 1 0xa27fba7001980477440:=q rfl
theorem SP:Q 1 0xa10a2fee98146fa10077440:=q rfl
theorem SO:Q 1 0x4abfbae9804a6011be8440:=q rfl
theorem SN:Q 1 0x2527fba6001980477440:=q rfl
theorem SM{a:Nat}:a<=a:=dK 1 0x1fe6000 rfl [a] rfl [] []
theorem SK:Q 4 0x49feeba609f441a1f0c00a87d3040:=q rfl
theorem SJ:Q 1 0x517fbae9c07d142fa007d1426011:=q rfl
theorem SI:Q 3 0xa17fba609f41f043a027c10f7440:=q rfl
theorem SG:Q 1 0x517fbae9c046fa00466011:=q rfl
theorem SE:(1:Nat)+(0:Nat)<=(0:Nat)+(1:Nat):=dK 0 0x1fe67d141f411 rfl [] rfl [] []
theorem SD:W 5 0 2 0x2800a02452a48a541400a0284a94257fbaebaebac0e20c6609f19f1039844a60d1a027c1166011dd10397c1010:=w rfl
theorem Sz:W 4 0 2 0x141445515feebaeb03883199f0807c44670c29c17d10397c3050:=w rfl
theorem Sx:Q 1 0x2917fba6051980479011:=q rfl
theorem Sw:Q 1 0x1447fba6001980479011:=q rfl
theorem Lq:Q 5 0xa5feebae9c27c40280c49c10e609f040:=q rfl
theorem Sv:Q 5 0x4a89497fbaebae9c21680c49c10e60d19827c103745f100:=q rfl
theorem Su:Q 2 0x29feeba6051a00066011:=q rfl
theorem Lp:Q 3 0x25feeba6042a000a7040:=q rfl
theorem Lo:Q 3 0x88517fbaeba70039810a6092a01037442:=q rfl
theorem zk:Q 2 0x5fee9c102705f440:=q rfl
theorem Ss:Q 3 0x251447fbae9834687d1081980479001:=q rfl
theorem Sr:Q 3 0x2812425081feebae9810e87d1002be8040981039042:=q rfl
theorem Sq:Q 3 0x210917fbaebae9c10e6002982468001980477442:=q rfl
theorem Lm:W 5 0 3 0x52ff75d74e13e2016596501882c4388319c10e609f040:=w rfl
theorem Sp:Q 3 0x5fee98202609f040:=q rfl
theorem So:Q 3 0x5fee99f7d10817c04667c205f011:=q rfl
theorem Ll:W 7 0 3 0x4a51284bfdd75d75d3843d965940a30b10e20c670459850e87d11039827c103745f180:=w rfl
theorem Sm:W 2 1 0 0x25feeba96247d10696240287d3040:=w rfl
theorem Sl:Q 3 0x5fee99f09f4417c04667c205f011:=q rfl
theorem Sk:Q 2 0x5fee99f040466011:=q rfl
theorem Sj:W 4 0 3 0x94ff75d74c1a36596501062c4388319820287d1040:=w rfl
theorem Si:Q 3 0x28241485feeba67c37c145f052be801f4509804797c2010:=q rfl
theorem Sh:W 3 0 3 0x12ff75d30215965940010b10e20c67040:=w rfl
theorem Sg:Q 2 0x48917fbaeba6002980066051980477441:=q rfl
theorem Se{a:Nat}:1+(a+1)<=2+a:=dK 1 0x1fe67c049f7d1011 rfl [a] rfl [] []
theorem Sd:Q 6 0x88085044085feebae9827c57c41e609f15f10398346809f046dd1037443:=q rfl
theorem Sb:Q 6 0x25512897fbaebaeba7086a041670449840e60d19827c103745f140:=q rfl
theorem Sa:Q 3 0xa9feebae982468042981026011:=q rfl
theorem R9:Q 2 0x289fee9817c202f980077001:=q rfl
theorem R8:Q 2 0x525fee98246f980077001:=q rfl
theorem R7:Q 2 0x9227fbae982466001980479001:=q rfl
theorem R6:Q 6 0x2a9feebaeba715f103a0116601f09f103982466040:=q rfl
theorem R5:Q 2 0x1447fba6042981039040:=q rfl
theorem R4:Q 1 0x5fee9c0426011:=q rfl
theorem R1{a b:Nat}:a+1<b->0<b-a:=dK 2 0x1497fba70909c17d1037001 rfl [a,b] rfl [] []
theorem RZ:Q 6 0x2a9feebaeba615f103a0116601f09f103982466040:=q rfl
theorem RY:Q 3 0x15feeba708098146609f040:=q rfl
theorem RX:Q 2 0x5097fbae9810a60409804b7440:=q rfl
theorem RW:Q 4 0x284805145feebaeba7084be80439810e60d19827c103745f0c0:=q rfl
theorem Lk:Q 4 0x84105128921feeba605f142984026011dc20780c4:=q rfl
theorem RV{a b:Nat}:a+1<b->a+(b-a)<=b:=dK 2 0xa27fba605f0809c17d1037001 rfl [a,b] rfl [] []
theorem RU:Q 7 0x2241000220040010202000894a8800bfbaebaebae9c522fa101e80459807c37c21260d1982466040dc60b745f1df184:=q rfl
theorem RP:Q 6 0x88085044085feebae9827c57c712609f15f0c49834a809f046dd1037443:=q rfl
theorem RO:Q 4 0x108084042510a7fbaebae9854670c29840a6091be6001dc00780c4:=q rfl
theorem RN:Q 6 0xa9feebae9857c47c30a80459807c47c30a6040:=q rfl
theorem RM:Q 3 0x2917fba67c305f4419804797c2010:=q rfl
theorem Lj:Q 1 0x2527fba70019c0477480:=q rfl
theorem RL{a b c:Nat}:a<b->c=a+1->c≠b->0<b-c:=dK 3 0x942110905feebae9c342fa010a87d10029c1037081 rfl [a,b,c] rfl [] []
theorem Lh:Q 1 0xa27fba701f4419c0477480:=q rfl
theorem RK{a b c:Nat}:a<b->c=a+1->c≠b->c+(b-c)<=b:=dK 3 0x4a1088241feebae9817c30afa010a87d10029c1037081 rfl [a,b,c] rfl [] []
theorem RJ:Q 7 0x4001000084a40000110004000220010001021540001022a80004504080008a2028002feebaebae98946fa101e80459807c27c40e6091981037184e057c40f77c60c8:=q (by decide +kernel)
theorem RI:Q 3 0x12897fbae9817c00a60c0980477081:=q rfl
theorem Lg:Q 7 0x1055400048954400482040012202800bfbaebaeba6211be8406a0116601f09f103982466040e057c67c40f77c40c7:=q rfl
theorem RH:Q 8 0x4000a000080002a0000840014000200015000084000a000080002a00008400140002000150000850554500008000540002022a800008000a80008504050000800054000214402a0004000540004feebaebaebae98a46f98722fa101efa102280459807c27c40e6091981037184e057c40f77c60c9:=q (by decide +kernel)
theorem RG:Q 3 0x9417fbaeba705f442be805f442a1f4400a705f440:=q rfl
theorem RF:Q 3 0x25feeba601f0909810a8040:=q rfl
theorem RE:Q 8 0x14a5feebaebae99f1c67df4417c04661c4a1f4451a6142a1f4431267c309f05f011:=q rfl
theorem RD{a b:Nat}:2+a<=1+a+(b+1):=dK 2 0x1fe67df4417c045f012 rfl [a,b] rfl [] []
theorem RC:Q 4 0x1102897fbaebae9c00e81039810a6092a01037442:=q rfl
theorem RB:Q 1 0x110484427fba6042be6440dd2037441:=q rfl
theorem RA:Q 1 0x289fee9c07d106f991037480:=q rfl
theorem Rz:Q 4 0x1042497fbaebaeba70449820e60d19800a8001980477443:=q rfl
theorem Rx:Q 2 0x210840440440109052082107fbaeba7043be8441a02066012dd1037441:=q rfl
theorem Rw{a b c:Nat}:a<b->c=a+1->c≠b->c<b:=dK 3 0x9417fbaeba7042be8042a1f4400a7040 rfl [a,b,c] rfl [] []
theorem Rv:Q 4 0x1102897fbaebae9807c34281039810a6092a01037442:=q rfl
theorem Ru:Q 5 0x20812497fbaebaebae9c11281449820e60d19800a8001980477443:=q rfl
theorem Rt:Q 2 0x2810282feeba6011be8400a02037441:=q rfl
theorem Rq:Q 4 0x1102497fbaebaeba6003a040e6042982466001980477442:=q rfl
theorem Rp:Q 4 0x501257fbaebae9810e6083a040a60409804b7440:=q rfl
theorem Ro:Q 11 0x810001040001010024249504080010400020200909257fbaebaebaebae9827df7d11857ca2661caa0d2661089884683079827df1857c31260d2a027c12f7440dd10f7448:=q (by decide +kernel)
theorem Rn{a b:Nat}:a+1<=a+(b+1):=dK 2 0x1fe67df44101f440 rfl [a,b] rfl [] []
theorem Rm:Q 1 0x254a2feeba6012be8400be8440:=q rfl
theorem Rl:Q 2 0x1405002a52feebae9814afa110680819804b7440:=q rfl
theorem Fz:Q 1 0xbfdd300000000008000006804d86a0c80:=q rfl
theorem Rk:Q 1 0xabfba6011be8400:=q rfl
theorem Rj:Q 1 0x5feeba67d10000000001000000d009d2028000:=q rfl
theorem Ri:Q 1 0xbfdd33e880000000008000006804d86a0c80:=q rfl
end
end Internal
end
noncomputable section
open PySem PySem.W PyProof.Rows
namespace Internal
variable {P:Prop}{α:Type}{b:Bool}{a:α}
set_option genCtorIdx true in
set_option genInjectivity true in
inductive V where
 |none|bool (b:Bool)|int (i:Int)|str (s:Str)|tup (l:List V)|lst (l:List V)|loc (n:Nat)
 deriving Inhabited
set_option genCtorIdx true in
set_option genInjectivity true in
inductive O where
 |list (l:List V)|cH (l:List (Int×V))|dN (l:List (Str×V))|inst (l:List V)
 deriving Inhabited
noncomputable abbrev bp:=List O
noncomputable abbrev Vs:=List (Option V)
set_option genCtorIdx true in
set_option genInjectivity true in
inductive R (α:Type) where
 |ok (a:α) (σ:bp)|exc (σ:bp)|bad
noncomputable abbrev R.bind {β:Type}(r:R α)(f:α->bp->R β):R β:=match r with
 |.ok a σ=>f a σ
 |.exc σ=>.exc σ
 |.bad=>.bad
noncomputable def R.get (o:Option α)(σ:bp):R α:=match o with
 |some a=>.ok a σ
 |none=>.bad
theorem Ra  {σ:bp}(h:.bad=R.ok a σ):P:=nomatch h
theorem Q9  {σ τ:bp}(h:R.ok a σ=.exc τ):P:=nomatch h
theorem B6 {σ:bp}(h:(R.bad:R α)=.exc σ):P:=nomatch h
theorem rI  {b:α}{σ τ:bp}(h:R.ok a σ=.ok b τ):a=b/\σ=τ:=⟨congrArg (λr=>match r with|.ok a _=>a|_=>a) h,congrArg (λr=>match r with|.ok _ σ=>σ|_=>σ) h⟩
inductive Ng where|add|sub|mul|fdiv|mod|pow (u:Unit)
inductive Cm where|eq|ne|lt|le|gt|ge|is|rX (u:Unit)|rp|H3
inductive X where
 |k (c:V)
 |v (i:Nat)
 |c (i:Nat)
 |g (i:Nat)
 |tup (l:List X)
 |lst (m:Bool) (l:List X)
 |zW (ks:List Int) (l:List X)
 |sT (ks:List Str) (l:List X)
 |bin (o:Ng) (m:Bool) (a b:X)
 |neg (a:X)
 |cmp (a:X) (o:List Cm) (l:List X)
 |and (l:List X)
 |or (l:List X)
 |not (a:X)
 |ite (c a b:X)
 |sub (a i:X)
 |xJ (a lo:X)
 |vz (a hi:X)
 |dm (a:X) (f:Nat)
 |call (f:Nat) (l:List X)
 |len (a:X)
 |abs (a:X)
 |k6 (a:X)
 |tolist (a:X)
 |Ak (t:Nat) (a:X)
 |app (o a:X)
 |pop (o:X)
 |um (o i:X)
 |ext (o a:X)
 |index (o a:X)
 |split (o:X) (sep:Str)
 |zV (o a:X)
 |mk (l:List X)
 |nz (l:List X)
 |pA (a:X)
 |comp (m:Bool) (e:X) (it:X) (ifs:List X)
noncomputable def X.ix (x:X):Nat:=X.casesOn x (λU=>0) (λU=>1) (λU=>2) (λU=>3) (λU=>4) (λU U=>5) (λU U=>6) (λU U=>7) (λU U U U=>8) (λU=>9) (λU U U=>10) (λU=>11) (λU=>12) (λU=>13) (λU U U=>14) (λU U=>15) (λU U=>16) (λU U=>17) (λU U=>18) (λU U=>19) (λU=>20) (λU=>21) (λU=>22) (λU=>23) (λU U=>24) (λU U=>25) (λU=>26) (λU U=>27) (λU U=>28) (λU U=>29) (λU U=>30) (λU U=>31) (λU=>32) (λU=>33) (λU=>34) (λU U U U=>35)
inductive Tg where
 |n (i:Nat)|t (is:List Nat)
inductive TA where
 |n (i:Nat)|dm (o:X) (f:Nat)|sub (o i:X)
inductive S where
 |expr (e:X)
 |asg (i:Nat) (e:X)
 |fW (ts:List TA) (e:X)
 |fh (o:X) (f:Nat) (e:X)
 |eX (o i e:X)
 |ite (c:X) (a b:List S)
 |vG (c:X) (b:List S)
 |jv (t:Tg) (it:X) (b:List S)
 |x9 (i:Nat) (d c:X)
 |ret (e:X)
 |raise (a b:X)
 |vN (f:Nat) (l:List X) (v:V)
 |dead
noncomputable def lim:Nat:=100000
noncomputable def big (i:Int):Bool:=decide (i.natAbs<2 ^ 62)
noncomputable def aaO:V->V->Option Bool
 |.none,.none=>aa af
 |.bool a,.bool b=>aa (a==b)
 |.int a,.int b=>aa (a==b)
 |.str a,.str b=>aa (a==b)
 |.bool _,.int _=>du
 |.int _,.bool _=>du
 |.loc _,_=>du
 |_,.loc _=>du
 |.none,_=>aa ag
 |.bool _,_=>aa ag
 |.int _,_=>aa ag
 |.str _,_=>aa ag
 |.tup _,_=>aa ag
 |.lst _,_=>aa ag
noncomputable def sJ (f:V->V->Option Bool):List V->List V->Option Bool
 |[],[]=>aa af
 |a::l,b::r=>match f a b,sJ f l r with
  |some x,aa y=>aa (x&&y)
  |_,_=>du
 |_,_=>aa ag
def yV:Nat->V->V->Option Bool
 |0,_,_=>ae
 |n+1,.tup a,.tup b=>sJ (yV n) a b
 |n+1,.lst a,.lst b=>sJ (yV n) a b
 |_+1,a,b=>aaO a b
noncomputable def lH:Nat->V->Bool
 |0,_=>ag
 |_+1,.none=>af
 |_+1,.bool _=>af
 |_+1,.int _=>af
 |_+1,.str s=>s.cps.all (·<0x110000)
 |n+1,.tup l=>l.all (lH n)
 |n+1,.lst l=>l.all (lH n)
 |_+1,.loc _=>ag
def vB (x y:V):Option Bool:=if lH 8 x&&lH 8 y then yV 8 x y else ae
noncomputable def oO (σ:bp):V->Option V
 |.loc n=>match σ[n]? with
  |some (.list l)=>aa (.lst l)
  |_=>ae
 |v=>aa v
noncomputable def items (σ:bp):V->Option (List V)
 |.lst l=>aa l
 |.tup l=>aa l
 |.loc n=>match σ[n]? with
  |some (.list l)=>aa l
  |_=>ae
 |_=>ae
def qj (x:V):List V->Option Bool
 |[]=>aa ag
 |y::l=>match vB y x,qj x l with
  |some a,aa b=>aa (a||b)
  |_,_=>ae
noncomputable def j2:List (Int×V)->Int->Option V
 |[],_=>ae
 |(a,v)::r,k=>if a=k then aa v else j2 r k
noncomputable def qz:List (Str×V)->Str->Option V
 |[],_=>ae
 |(a,v)::r,k=>if a=k then aa v else qz r k
noncomputable def nU:List (Int×V)->Int->V->List (Int×V)
 |[],k,v=>[(k,v)]
 |(a,u)::r,k,v=>if a=k then(a,v)::r else(a,u)::nU r k v
noncomputable def lQ:List (Str×V)->Str->V->List (Str×V)
 |[],k,v=>[(k,v)]
 |(a,u)::r,k,v=>if a=k then(a,v)::r else(a,u)::lQ r k v
noncomputable def ib (a b:V)(f:Int->Int->Bool):Option Bool:=match a with
 |.int x=>(match b with
  |.int y=>aa (f x y)
  |_=>ae)
 |_=>ae
noncomputable def MR:V->Bool
 |.none=>af
 |_=>ag
noncomputable def isM:V->Bool
 |.none=>ag
 |_=>af
noncomputable def eqD (o p:Option V):Option Bool:=match o with
 |some x=>(match p with
  |some y=>vB x y
  |none=>ae)
 |none=>ae
def inO (a:V)(o:Option O):Option Bool:=match o with
 |some o=>(match o with
  |.list l=>qj a l
  |.cH l=>(match a with
   |.int i=>aa (j2 l i).isSome
   |_=>ae)
  |.dN l=>(match a with
   |.str i=>aa (qz l i).isSome
   |_=>ae)
  |.inst _=>ae)
 |none=>ae
def inV (σ:bp)(a b:V):Option Bool:=match b with
 |.lst l=>qj a l
 |.tup l=>qj a l
 |.loc n=>inO a σ[n]?
 |_=>ae
def fc (σ:bp)(o:Cm)(a b:V):Option Bool:=match o with
 |.eq=>eqD (oO σ a) (oO σ b)
 |.ne=>(eqD (oO σ a) (oO σ b)).map (!·)
 |.lt=>match a with
  |.int x=>(match b with
   |.int y=>aa (decide (x<y))
   |_=>ae)
  |_=>ae
 |.le=>match a with
  |.int x=>(match b with
   |.int y=>aa (decide (x<=y))
   |_=>ae)
  |_=>ae
 |.gt=>match a with
  |.int x=>(match b with
   |.int y=>aa (decide (y<x))
   |_=>ae)
  |_=>ae
 |.ge=>match a with
  |.int x=>(match b with
   |.int y=>aa (decide (y<=x))
   |_=>ae)
  |_=>ae
 |.is=>if MR b then aa (MR a)else ae
 |.rX _=>if MR b then aa (isM a)else ae
 |.rp=>inV σ a b
 |.H3=>(inV σ a b).map (!·)
noncomputable def mV (l:List V):Nat->List V
 |0=>[]
 |n+1=>l++mV l n
def gP (m:Bool)(l:List V)(σ:bp):R V :=
 if l.length<lim then(if m then .ok (.loc σ.length) (σ++[.list l])else .ok (.lst l) σ)else .bad
noncomputable def ii (a b:V)(f:Int->Int->R V):R V:=match a with
 |.int x=>(match b with
  |.int y=>f x y
  |_=>.bad)
 |_=>.bad
noncomputable def Ah (σ:bp)(a:V):Option (List V):=match a with
 |.lst l=>aa l
 |.loc n=>(match σ[n]? with
  |some (.list l)=>aa l
  |_=>ae)
 |_=>ae
def Pd (σ:bp)(m:Bool)(o p:Option (List V)):R V:=match o with
 |some x=>(match p with
  |some y=>gP m (x++y) σ
  |none=>.bad)
 |none=>.bad
def aaw (σ:bp)(m:Bool)(a b:V):R V:=match a with
 |.int x=>ii (.int x) b λx y=>.ok (.int (x+y)) σ
 |.str x=>(match b with
  |.str y=>if x.cps.size+y.cps.size<lim then .ok (.str ⟨x.cps++y.cps⟩) σ else .bad
  |_=>.bad)
 |.tup x=>(match b with
  |.tup y=>if x.length+y.length<lim then .ok (.tup (x++y)) σ else .bad
  |_=>.bad)
 |a=>Pd σ m (Ah σ a) (Ah σ b)
def YX (σ:bp)(m:Bool)(a b:V):R V:=match b with
 |.int y=>(match a with
  |.int x=>if big x&&big y then .ok (.int (x*y)) σ else .bad
  |.tup x=>if y.toNat*x.length<lim/\0<=y/\y<1000 then .ok (.tup (mV x y.toNat)) σ else .bad
  |.lst x=>if y.toNat*x.length<lim/\0<=y/\y<1000 then gP m (mV x y.toNat) σ else .bad
  |_=>.bad)
 |_=>.bad
def Pj (σ:bp)(o:Ng)(m:Bool)(a b:V):R V:=match o with
 |.add=>aaw σ m a b
 |.sub=>ii a b λx y=>.ok (.int (x-y)) σ
 |.mul=>YX σ m a b
 |.fdiv=>ii a b λx y=>if 0<y/\y<1000000 then .ok (.int (x/y)) σ else .bad
 |.mod=>ii a b λx y=>if 0<y then .ok (.int (x%y)) σ else .bad
 |.pow _=>ii a b λx y=>if x=10/\y=9 then .ok (.int 1000000000) σ else .bad
def place (i:Int)(n:Nat):Option Nat:=if big i=ag then ae else
 if 0<=i then(if i.toNat<n then aa i.toNat else ae)
 else(if 0<=i+n then aa (i+n).toNat else ae)
def idx (l:List V)(i:V):Option V:=match i with
 |.int i=>(place i l.length).bind λj=>l[j]?
 |_=>ae
def DL (o:Option O)(i:V):Option V:=match o with
 |some o=>(match o with
  |.list l=>idx l i
  |.cH l=>(match i with
   |.int i=>j2 l i
   |_=>ae)
  |.dN l=>(match i with
   |.str i=>qz l i
   |_=>ae)
  |.inst _=>ae)
 |none=>ae
def hK (σ:bp)(a i:V):Option V:=match a with
 |.lst l=>idx l i
 |.tup l=>idx l i
 |.str s=>(match i with
  |.int i=>(place i s.cps.size).bind λj=>s.cps[j]?.map λc=>.str ⟨#[c]⟩
  |_=>ae)
 |.loc n=>DL σ[n]? i
 |_=>ae
def IY (σ:bp)(n:Nat)(o:Option O)(i x:V):Option bp:=match o with
 |some o=>(match o with
  |.list l=>(match i with
   |.int i=>if 0<=i then(place i l.length).map λj=>σ.set n (.list (l.set j x))else ae
   |_=>ae)
  |.cH l=>(match i with
   |.int i=>if l.length<lim then aa (σ.set n (.cH (nU l i x)))else ae
   |_=>ae)
  |.dN l=>(match i with
   |.str i=>if l.length<lim then aa (σ.set n (.dN (lQ l i x)))else ae
   |_=>ae)
  |.inst _=>ae)
 |none=>ae
def o6 (σ:bp)(a i x:V):Option bp:=match a with
 |.loc n=>IY σ n σ[n]? i x
 |_=>ae
noncomputable def KJ (o:Option O)(f:Nat):Option V:=match o with
 |some o=>(match o with
  |.inst l=>l[f]?
  |_=>ae)
 |none=>ae
noncomputable def yd (σ:bp)(a:V)(f:Nat):Option V:=match a with
 |.loc n=>KJ σ[n]? f
 |_=>ae
noncomputable def I1 (σ:bp)(n:Nat)(o:Option O)(f:Nat)(x:V):Option bp:=match o with
 |some o=>(match o with
  |.inst l=>if f<l.length then aa (σ.set n (.inst (l.set f x)))else if f=l.length then aa (σ.set n (.inst (l++[x])))else ae
  |_=>ae)
 |none=>ae
noncomputable def kz (σ:bp)(a:V)(f:Nat)(x:V):Option bp:=match a with
 |.loc n=>I1 σ n σ[n]? f x
 |_=>ae
noncomputable def cut (up:Bool)(i:Int)(l:List V):List V:=if up then l.take i.toNat else l.drop i.toNat
def IV (up:Bool)(σ:bp)(i:Int)(o:Option (List V)):R V:=match o with
 |some l=>if 0<=i/\big i=af/\l.length<lim then gP ag (cut up i l) σ else .bad
 |none=>.bad
def N0 (up:Bool)(σ:bp)(a:V)(i:Int):R V:=match a with
 |.tup l=>if 0<=i/\i.toNat<=l.length/\l.length<lim then .ok (.tup (cut up i l)) σ else .bad
 |a=>IV up σ i (Ah σ a)
def slc (up:Bool)(σ:bp)(a i:V):R V:=match i with
 |.int i=>N0 up σ a i
 |_=>.bad
def xJ (σ:bp)(a i:V):R V:=slc ag σ a i
def vz (σ:bp)(a i:V):R V:=slc af σ a i
def jr (a:V)(sep:Str):Option (List V):=match a with
 |.str s=>if s.length<lim/\sep.length=1/\(gj s sep).length<lim then aa ((gj s sep).map .str)else ae
 |_=>ae
noncomputable def nj:V->Option V
 |.int i=>aa (.int i)
 |.bool b=>aa (.int (if b then 1 else 0))
 |.str s=>if s.length<=640 then(PySem.intText? s).map .int else ae
 |_=>ae
noncomputable def GD (t:Nat)(a b c:Bool):Option Bool:=match t with
 |0=>aa a
 |1=>aa b
 |2=>aa c
 |_=>ae
def Ba (t:Nat)(a:V):Option Bool:=match a with
 |.int _=>GD t af ag ag
 |.bool _=>GD t af af ag
 |.none=>GD t ag ag ag
 |.str _=>GD t ag ag af
 |_=>ae
noncomputable def findS (q:Str):List V->Option (Option Nat)
 |[]=>aa ae
 |.str s::l=>match findS q l with
  |some r=>if s=q then aa (aa 0)else aa (r.map (·+1))
  |none=>ae
 |_=>ae
noncomputable def iq (a b:Int):List V:=(fG (b-a).toNat).map λ(i:Nat)=>V.int (a+(i:Int))
set_option genCtorIdx true in
set_option genInjectivity true in
inductive IK where
 |items (l:List V)|live (n:Nat) (en:Bool)
noncomputable def Oj (f:X->Bool):List X->Bool
 |[]=>af
 |x::r=>f x&&Oj f r
mutual
noncomputable def gn:X->Bool
 |.k _=>af
 |.v _=>af
 |.c _=>af
 |.g _=>af
 |.tup l=>jY l
 |.cmp a _ l=>gn a&&jY l
 |.and l=>jY l
 |.or l=>jY l
 |.not a=>gn a
 |.sub a i=>gn a&&gn i
 |.abs a=>gn a
 |.k6 a=>gn a
 |.split a _=>gn a
 |.neg a=>gn a
 |.dm a _=>gn a
 |.zV a b=>gn a&&gn b
 |_=>ag
noncomputable def jY:List X->Bool
 |[]=>af
 |x::r=>gn x&&jY r
end
noncomputable def iI (f:V->Option Bool)(e:V->Option V):List V->Option (List V)
 |[]=>aa []
 |x::r=>match f x with
  |some af=>match e x,iI f e r with
   |some y,aa l=>aa (y::l)
   |_,_=>ae
  |some ag=>iI f e r
  |none=>ae
noncomputable def R.val {α:Type}:R α->Option α
 |.ok a _=>aa a
 |_=>ae
noncomputable def uM (σ:bp):V->Bool
 |.loc n=>match σ[n]? with
  |some (.list _)=>af
  |_=>ag
 |_=>ag
noncomputable def isD (σ:bp):V->Bool
 |.loc n=>match σ[n]? with
  |some (.cH _)=>af
  |_=>ag
 |_=>ag
noncomputable def isF:V->Bool
 |.lst _=>af
 |_=>ag
def iW (v:V)(σ:bp):R IK:=match v with
 |.lst l=>R.ok (IK.items l) σ
 |.tup l=>R.ok (IK.items l) σ
 |.loc n=>if uM σ (.loc n)then R.ok (.live n ag) σ else R.bad
 |_=>R.bad
def Q7 (x:V)(σ:bp):R IK:=match x with
 |.int i=>if i.toNat<lim/\big i=af then .ok (.items (iq 0 i)) σ else .bad
 |_=>.bad
def Od (x y:V)(σ:bp):R IK:=match x,y with
 |.int i,.int j=>if(j-i).toNat<lim/\big i=af/\big j=af then .ok (.items (iq i j)) σ else .bad
 |_,_=>.bad
def Hy (x:V)(σ:bp):R IK:=if uM σ x then match x with
  |.loc n=>.ok (.live n af) σ
  |_=>.bad
 else .bad
def AU (x:V)(σ:bp):R IK:=match x with
 |.tup [a]=>Q7 a σ
 |.tup [a,b]=>Od a b σ
 |_=>.bad
def jJ (x:X):V->bp->R IK:=bif eF x.ix 33 then AU else bif eF x.ix 34 then Hy else iW
noncomputable def itemsOf (k:IK)(σ:bp):Option (List V):=match k with
 |.items l=>aa l
 |.live n ag=>(match σ[n]? with|some (.list l)=>aa l|_=>ae)
 |_=>ae
noncomputable def GI:Nat:=0
section
variable (G:List V)(Φ:Nat->List V->bp->R V)(vs:Vs)
mutual
def ev:X->List V->bp->R V
 |.k c,_,σ=>.ok c σ
 |.v i,_,σ=>match vs[i]? with
  |some (aa x)=>.ok x σ
  |_=>.bad
 |.c i,cs,σ=>R.get cs[i]? σ
 |.g i,_,σ=>R.get G[i]? σ
 |.tup l,cs,σ=>(CF l cs σ).bind λxs σ=>if xs.length<lim then .ok (.tup xs) σ else .bad
 |.lst m l,cs,σ=>(CF l cs σ).bind λxs σ=>gP m xs σ
 |.zW ks l,cs,σ=>(CF l cs (σ++[.cH []])).bind λxs cD=>if ks.length=xs.length/\xs.length<=15 then match cD[σ.length]? with
  |some (.cH [])=>.ok (.loc σ.length) (cD.set σ.length (.cH ((ks.zip xs).foldl (λd kv=>nU d kv.1 kv.2) [])))
  |_=>.bad
  else .bad
 |.sT ks l,cs,σ=>(CF l cs (σ++[.dN []])).bind λxs cD=>if ks.length=xs.length/\xs.length<=15 then match cD[σ.length]? with
  |some (.dN [])=>.ok (.loc σ.length) (cD.set σ.length (.dN ((ks.zip xs).foldl (λd kv=>lQ d kv.1 kv.2) [])))
  |_=>.bad
  else .bad
 |.bin o m a b,cs,σ=>(ev a cs σ).bind λx σ=>(ev b cs σ).bind λy σ=>Pj σ o m x y
 |.neg a,cs,σ=>(ev a cs σ).bind λx σ=>match x with
  |.int i=>.ok (.int (-i)) σ
  |_=>.bad
 |.cmp a o l,cs,σ=>(ev a cs σ).bind λx σ=>Ic x o l cs σ
 |.and l,cs,σ=>qT af l cs σ
 |.or l,cs,σ=>qT ag l cs σ
 |.not a,cs,σ=>(ev a cs σ).bind λx σ=>match x with
  |.bool b=>.ok (.bool !b) σ
  |_=>.bad
 |.ite c a b,cs,σ=>(ev c cs σ).bind λx σ=>match x with
  |.bool af=>ev a cs σ
  |.bool ag=>ev b cs σ
  |_=>.bad
 |.sub a i,cs,σ=>(ev a cs σ).bind λx σ=>(ev i cs σ).bind λy σ=>R.get (hK σ x y) σ
 |.xJ a i,cs,σ=>(ev a cs σ).bind λx σ=>(ev i cs σ).bind λy σ=>xJ σ x y
 |.vz a i,cs,σ=>(ev a cs σ).bind λx σ=>(ev i cs σ).bind λy σ=>vz σ x y
 |.dm a f,cs,σ=>(ev a cs σ).bind λx σ=>R.get (yd σ x f) σ
 |.call f l,cs,σ=>(CF l cs σ).bind λxs σ=>Φ f xs σ
 |.len a,cs,σ=>(ev a cs σ).bind λx σ=>match items σ x with
  |some l=>if l.length<lim then .ok (.int l.length) σ else .bad
  |none=>.bad
 |.abs a,cs,σ=>(ev a cs σ).bind λx σ=>match x with
  |.int i=>.ok (.int i.natAbs) σ
  |_=>.bad
 |.k6 a,cs,σ=>(ev a cs σ).bind λx σ=>R.get (nj x) σ
 |.tolist a,cs,σ=>(ev a cs σ).bind λx σ=>match x with
  |.tup l=>gP af l σ
  |_=>.bad
 |.Ak t a,cs,σ=>(ev a cs σ).bind λx σ=>match Ba t x with
  |some b=>.ok (.bool b) σ
  |none=>.bad
 |.app o a,cs,σ=>(ev o cs σ).bind λx σ=>if uM σ x then(ev a cs σ).bind λy σ=>match x with
  |.loc n=>match σ[n]? with
   |some (.list l)=>if l.length<lim then .ok .none (σ.set n (.list (l++[y])))else .bad
   |_=>.bad
  |_=>.bad
  else .bad
 |.pop o,cs,σ=>(ev o cs σ).bind λx σ=>match x with
  |.loc n=>match σ[n]? with
   |some (.list l)=>match l.getLast? with
    |some y=>if l.length<lim then .ok y (σ.set n (.list l.dropLast))else .bad
    |none=>.bad
   |_=>.bad
  |_=>.bad
 |.um o i,cs,σ=>(ev o cs σ).bind λx σ=>if uM σ x then(ev i cs σ).bind λy σ=>match x,y with
  |.loc n,.int i=>match σ[n]? with
   |some (.list l)=>match l[i.toNat]? with
    |some y=>if l.length<lim/\0<=i then .ok y (σ.set n (.list (l.eraseIdx i.toNat)))else .bad
    |none=>.bad
   |_=>.bad
  |_,_=>.bad
  else .bad
 |.ext o a,cs,σ=>(ev o cs σ).bind λx σ=>if uM σ x then(ev a cs σ).bind λy σ=>match x,y with
  |.loc n,.lst r=>match σ[n]? with
   |some (.list l)=>if l.length+r.length<lim then .ok .none (σ.set n (.list (l++r)))else .bad
   |_=>.bad
  |_,_=>.bad
  else .bad
 |.index o a,cs,σ=>(ev o cs σ).bind λx σ=>if isF x then(ev a cs σ).bind λy σ=>match x,y with
  |.lst l,.str q=>match findS q l with
   |some (aa j)=>if l.length<lim then .ok (.int j) σ else .bad
   |_=>.bad
  |_,_=>.bad
  else .bad
 |.split o sep,cs,σ=>(ev o cs σ).bind λx σ=>match jr x sep with
  |some l=>gP ag l σ
  |none=>.bad
 |.zV o a,cs,σ=>(ev o cs σ).bind λx σ=>if isD σ x then(ev a cs σ).bind λy σ=>match x,y with
  |.loc n,.int i=>match σ[n]? with
   |some (.cH l)=>.ok ((j2 l i).getD .none) σ
   |_=>.bad
  |_,_=>.bad
  else .bad
 |.mk l,cs,σ=>(CF l cs σ).bind λxs σ=>(Φ GI (.loc σ.length::xs) (σ++[.inst []])).bind λr cD=>match r with
  |.none=>.ok (.loc σ.length) cD
  |_=>.bad
 |.nz l,cs,σ=>(CF l cs σ).bind λxs σ=>.ok (.tup xs) σ
 |.pA a,cs,σ=>ev a cs σ
 |.comp m e it ifs,cs,σ=>((ev it cs σ).bind (jJ it)).bind λk σ =>
  match itemsOf k σ with
  |some l=>if gn e&&jY ifs&&decide (l.length<lim)then
    match iI (λx=>match R.val (qT af ifs [x] σ)with|some (.bool b)=>aa b|_=>ae) (λx=>R.val (ev e [x] σ)) l with
    |some ys=>gP m ys σ
    |none=>.bad
   else .bad
  |none=>.bad
def CF:List X->List V->bp->R (List V)
 |[],_,σ=>.ok [] σ
 |x::l,cs,σ=>(ev x cs σ).bind λv σ=>(CF l cs σ).bind λvs σ=>.ok (v::vs) σ
def Ic:V->List Cm->List X->List V->bp->R V
 |x,[o],[b],cs,σ=>(ev b cs σ).bind λy σ=>match fc σ o x y with
  |some r=>.ok (.bool r) σ
  |none=>.bad
 |x,o::os,b::l,cs,σ=>(ev b cs σ).bind λy σ=>match fc σ o x y with
  |some af=>Ic y os l cs σ
  |some ag=>.ok (.bool ag) σ
  |none=>.bad
 |_,_,_,_,_=>.bad
def qT:Bool->List X->List V->bp->R V
 |w,[],_,σ=>.ok (.bool w) σ
 |w,x::l,cs,σ=>(ev x cs σ).bind λv σ=>match v with
  |.bool b=>if b=w then qT w l cs σ else .ok (.bool b) σ
  |_=>.bad
end
def uT (x:X)(cs:List V)(σ:bp):R IK:=(ev G Φ vs x cs σ).bind (jJ x)
end
inductive Fl where
 |nx|rt (v:V)
abbrev RS:=R (Fl×Vs)
noncomputable def lg (t:Tg)(v:V)(vs:Vs):Option Vs:=match t with
 |.n i=>aa (vs.set i (aa v))
 |.t is=>match v with
  |.tup l=>if l.length=is.length then aa ((is.zip l).foldl (λvs p=>vs.set p.1 (aa p.2)) vs)else ae
  |_=>ae
noncomputable def oM (c:Vs->bp->R V)(b:Vs->bp->RS):Nat->Vs->bp->RS
 |0,_,_=>.bad
 |n+1,vs,σ=>(c vs σ).bind λx σ=>match x with
  |.bool af=>(b vs σ).bind λr σ=>match r with
   |(.nx,vs)=>oM c b n vs σ
   |(.rt v,vs)=>.ok (.rt v,vs) σ
  |.bool ag=>.ok (.nx,vs) σ
  |_=>.bad
noncomputable def ja (t:Tg)(b:Vs->bp->RS):List V->Vs->bp->RS
 |[],vs,σ=>.ok (.nx,vs) σ
 |x::l,vs,σ=>match lg t x vs with
  |some vs=>(b vs σ).bind λr σ=>match r with
   |(.nx,vs)=>ja t b l vs σ
   |(.rt v,vs)=>.ok (.rt v,vs) σ
  |none=>.bad
noncomputable def qk (t:Tg)(en:Bool)(b:Vs->bp->RS)(n:Nat):Nat->Nat->Vs->bp->RS
 |0,_,_,_=>.bad
 |f+1,i,vs,σ=>match σ[n]? with
  |some (.list l)=>match l[i]? with
   |some x=>match lg t (if en then .tup [.int i,x]else x) vs with
    |some vs=>(b vs σ).bind λr σ=>match r with
     |(.nx,vs)=>qk t en b n f (i+1) vs σ
     |(.rt v,vs)=>.ok (.rt v,vs) σ
    |none=>.bad
   |none=>.ok (.nx,vs) σ
  |_=>.bad
noncomputable def ox (b:Int->Bool):List (Int×V)->Bool
 |[]=>af
 |(k,_)::r=>b k&&ox b r
section
variable (G:List V)(Φ:Nat->List V->bp->R V)(W:Nat)
noncomputable def zt (t:TA)(x:V)(vs:Vs)(σ:bp):R Vs:=match t with
 |.n i=>.ok (vs.set i (aa x)) σ
 |.dm o f=>(ev G Φ vs o [] σ).bind λa σ=>match kz σ a f x with
  |some σ=>.ok vs σ
  |none=>.bad
 |.sub o i=>(ev G Φ vs o [] σ).bind λa σ=>(ev G Φ vs i [] σ).bind λj σ=>match o6 σ a j x with
  |some σ=>.ok vs σ
  |none=>.bad
def nA:List TA->List V->Vs->bp->R Vs
 |[],[],vs,σ=>.ok vs σ
 |t::ts,x::xs,vs,σ=>(zt G Φ t x vs σ).bind λvs σ=>nA ts xs vs σ
 |_,_,_,_=>.bad
mutual
def ex:S->Vs->bp->RS
 |.expr e,vs,σ=>(ev G Φ vs e [] σ).bind λU σ=>.ok (.nx,vs) σ
 |.asg i e,vs,σ=>(ev G Φ vs e [] σ).bind λx σ=>.ok (.nx,vs.set i (aa x)) σ
 |.fW ts e,vs,σ=>(ev G Φ vs e [] σ).bind λx σ=>match x with
  |.tup l=>if l.length=ts.length then(nA G Φ ts l vs σ).bind λvs σ=>.ok (.nx,vs) σ else .bad
  |_=>.bad
 |.fh o f e,vs,σ=>(ev G Φ vs e [] σ).bind λx σ=>(ev G Φ vs o [] σ).bind λa σ=>match kz σ a f x with
  |some σ=>.ok (.nx,vs) σ
  |none=>.bad
 |.eX o i e,vs,σ=>(ev G Φ vs e [] σ).bind λx σ=>(ev G Φ vs o [] σ).bind λa σ=>(ev G Φ vs i [] σ).bind λj σ=>match o6 σ a j x with
  |some σ=>.ok (.nx,vs) σ
  |none=>.bad
 |.ite c a b,vs,σ=>(ev G Φ vs c [] σ).bind λx σ=>match x with
  |.bool af=>l5 a vs σ
  |.bool ag=>l5 b vs σ
  |_=>.bad
 |.vG c b,vs,σ=>oM (λvs σ=>ev G Φ vs c [] σ) (λvs σ=>l5 b vs σ) W vs σ
 |.jv t it b,vs,σ=>(uT G Φ vs it [] σ).bind λk σ=>match k with
  |.items l=>ja t (λvs σ=>l5 b vs σ) l vs σ
  |.live n en=>qk t en (λvs σ=>l5 b vs σ) n W 0 vs σ
 |.x9 i d c,vs,σ=>(ev G Φ vs d [] σ).bind λx σ=>match x with
  |.loc n=>match σ[n]? with
   |some (.cH l)=>if gn c&&decide (l.length<lim)&&ox (λk=>match R.val (ev G Φ (vs.set i (aa (.int k))) c [] σ)with|some (.bool ag)=>af|_=>ag) l
     then .ok (.nx,vs.set i du) σ else .bad
   |_=>.bad
  |_=>.bad
 |.ret e,vs,σ=>(ev G Φ vs e [] σ).bind λx σ=>.ok (.rt x,vs) σ
 |.raise a b,vs,σ=>(ev G Φ vs a [] σ).bind λU σ=>(ev G Φ vs b [] σ).bind λU σ=>.exc σ
 |.vN f l v,vs,σ=>(CF G Φ vs l [] σ).bind λxs σ=>match Φ f xs σ with
  |.ok _ σ=>.ok (.nx,vs) σ
  |.exc σ=>.ok (.rt v,vs) σ
  |.bad=>.bad
 |.dead,_,_=>.bad
def l5:List S->Vs->bp->RS
 |[],vs,σ=>.ok (.nx,vs) σ
 |s::r,vs,σ=>(ex s vs σ).bind λq σ=>match q with
  |(.nx,vs)=>l5 r vs σ
  |(.rt v,vs)=>.ok (.rt v,vs) σ
end
end
structure Fn where
 np:Nat
 nv:Nat
 body:List S
 df:List V
def kK (G:List V)(F:List Fn)(W:Nat):Nat->Nat->List V->bp->R V
 |0,_,_,_=>.bad
 |d+1,f,xs,σ=>match F[f]? with
  |some fn=>if xs.length<=fn.np/\fn.np<=xs.length+fn.df.length then
    (l5 G (kK G F W d) W fn.body ((xs++fn.df.drop (xs.length+fn.df.length-fn.np)).map aa++bF (fn.nv-fn.np) du) σ).bind λr σ=>match r with
     |(.rt v,_)=>.ok v σ
     |(.nx,_)=>.ok .none σ
   else .bad
  |none=>.bad
theorem qM {a:Bool}(h:(a&&b)=af):a=af:=(bG.mp h).1
theorem vg {a:Bool}(h:(a&&b)=af):b=af:=(bG.mp h).2
theorem A5 (t:Tg)(b:Vs->bp->RS)(x:V)(l:List V)(vs:Vs)(σ:bp):ja t b (x::l) vs σ=match lg t x vs with
  |some vs=>(b vs σ).bind λr σ=>match r with
   |(.nx,vs)=>ja t b l vs σ
   |(.rt v,vs)=>.ok (.rt v,vs) σ
  |none=>.bad:=rfl
theorem uC (t:Tg)(en:Bool)(b:Vs->bp->RS)(n f i:Nat)(vs:Vs)(σ:bp):qk t en b n (f+1) i vs σ=match σ[n]? with
  |some (.list l)=>match l[i]? with
   |some x=>match lg t (if en then .tup [.int i,x]else x) vs with
    |some vs=>(b vs σ).bind λr σ=>match r with
     |(.nx,vs)=>qk t en b n f (i+1) vs σ
     |(.rt v,vs)=>.ok (.rt v,vs) σ
    |none=>.bad
   |none=>.ok (.nx,vs) σ
  |_=>.bad:=rfl
theorem uY (G:List V)(F:List Fn)(W d f:Nat)(xs:List V)(σ:bp):kK G F W (d+1) f xs σ=match F[f]? with
  |some fn=>if xs.length<=fn.np/\fn.np<=xs.length+fn.df.length then
    (l5 G (kK G F W d) W fn.body ((xs++fn.df.drop (xs.length+fn.df.length-fn.np)).map aa++bF (fn.nv-fn.np) du) σ).bind λr σ=>match r with
     |(.rt v,_)=>.ok v σ
     |(.nx,_)=>.ok .none σ
   else .bad
  |none=>.bad:=rfl
end Internal
end
noncomputable section
open PySem
namespace Internal
variable {α:Type}{x y:R α}{σ:bp}
def Still (σ:bp)(r:R α):Prop:=r=.bad\/∃v,r=.ok v σ
theorem Still.bind {β:Type}{r:R α}{f:α->bp->R β}(h:Still σ r)(k:∀a,Still σ (f a σ)):Still σ (r.bind f):=by
 rcases h with rfl|⟨v,rfl⟩
 .exact .inl rfl
 .exact k v
theorem Still.ok  (v:α):Still σ (.ok v σ):=.inr ⟨v,rfl⟩
theorem Still.bad {σ:bp}:Still (α:=α) σ .bad:=.inl rfl
theorem Still.get  (o:Option α):Still σ (R.get o σ):=by induction o;exact .bad;exact .ok _
theorem Still.ite  {c:Prop}[d:Decidable c](h:Still σ x)(k:Still σ y):Still σ (if c then x else y):=by cases d;exact k;exact h
section
variable (G:List V)(Φ:Nat->List V->bp->R V)(vs:Vs)
theorem aae  {o:Option Bool}(h:Still σ x)(k:Still σ y):Still σ (match o with|some af=>x|some ag=>y|none=>.bad):=by
 induction o with
 |none=>exact .bad
 |some b=>induction b;exact k;exact h
mutual
theorem d0:∀(x:X) (cs:List V) (σ:bp),gn x=af->Still σ (ev G Φ vs x cs σ)
 |.k c,cs,σ,_=>.ok _
 |.v i,cs,σ,_=>by
  refine(?_:Still σ (match vs[i]? with|some (aa x)=>.ok x σ|_=>.bad));induction vs[i]? with
  |none=>exact .bad
  |some o=>induction o;exact .bad;exact .ok _
 |.c i,cs,σ,_=>.get _
 |.g i,cs,σ,_=>.get _
 |.tup l,cs,σ,h=>(q8 l cs σ h).bind λxs=>.ite (.ok _) .bad
 |.neg a,cs,σ,h=>(d0 a cs σ h).bind λx=>by induction x using V.casesOn<;>first|exact .ok _|exact .bad
 |.cmp a o l,cs,σ,h=>(d0 a cs σ (qM h)).bind λx=>q9 x o l cs σ (vg h)
 |.and l,cs,σ,h=>og af l cs σ h
 |.or l,cs,σ,h=>og ag l cs σ h
 |.not a,cs,σ,h=>(d0 a cs σ h).bind λx=>by induction x using V.casesOn<;>first|exact .ok _|exact .bad
 |.sub a i,cs,σ,h=>(d0 a cs σ (qM h)).bind λx=>(d0 i cs σ (vg h)).bind λy=>.get _
 |.dm a f,cs,σ,h=>(d0 a cs σ h).bind λx=>.get _
 |.abs a,cs,σ,h=>(d0 a cs σ h).bind λx=>by induction x using V.casesOn<;>first|exact .ok _|exact .bad
 |.k6 a,cs,σ,h=>(d0 a cs σ h).bind λx=>.get _
 |.zV a b,cs,σ,h=>(d0 a cs σ (qM h)).bind λx=>.ite ((d0 b cs σ (vg h)).bind λy=>by
   induction x using V.casesOn with
   |loc n =>
    induction y using V.casesOn with
    |int i =>
     refine(?_:Still σ (match σ[n]? with|some (.cH l)=>.ok ((j2 l i).getD .none) σ|_=>.bad));induction σ[n]? with
     |none=>exact .bad
     |some o=>induction o<;>first|exact .ok _|exact .bad
    |_=>exact .bad
   |_=>exact .bad) .bad
 |.split a s,cs,σ,h=>(d0 a cs σ h).bind λx=>by
  refine(?_:Still σ (match jr x s with|some l=>gP ag l σ|none=>.bad));induction jr x s with
  |none=>exact .bad
  |some l=>exact .ite (.ok _) .bad
 |.lst _ _,_,_,h|.zW _ _,_,_,h|.sT _ _,_,_,h|.bin _ _ _ _,_,_,h|.ite _ _ _,_,_,h|.xJ _ _,_,_,h|.vz _ _,_,_,h|.call _ _,_,_,h|.len _,_,_,h|.tolist _,_,_,h|.Ak _ _,_,_,h
 |.app _ _,_,_,h|.pop _,_,_,h|.um _ _,_,_,h|.ext _ _,_,_,h|.index _ _,_,_,h|.mk _,_,_,h|.nz _,_,_,h|.pA _,_,_,h|.comp _ _ _ _,_,_,h=>absurd h bq
theorem q8:∀(l:List X) (cs:List V) (σ:bp),jY l=af->Still σ (CF G Φ vs l cs σ)
 |[]=>λcs σ U=>.ok _
 |x::l=>λcs σ h=>(d0 x cs σ (qM h)).bind λv=>(q8 l cs σ (vg h)).bind λvs=>.ok _
theorem q9:∀(x:V) (o:List Cm) (l:List X) (cs:List V) (σ:bp),jY l=af->Still σ (Ic G Φ vs x o l cs σ)
 |x,[],[]=>λcs σ h=>.bad
 |x,_::[],[]=>λcs σ h=>.bad
 |x,_::_::_,[]=>λcs σ h=>.bad
 |x,[],b::l=>λcs σ h=>.bad
 |x,[o],[b]=>λcs σ h=>(d0 b cs σ (qM h)).bind λy=>by
  refine(?_:Still σ (match fc σ o x y with|some r=>R.ok (V.bool r) σ|none=>.bad));induction fc σ o x y with
  |none=>exact .bad
  |some r=>exact .ok _
 |x,[o],b::b'::l=>λcs σ h=>(d0 b cs σ (qM h)).bind λy=>aae (q9 y [] (b'::l) cs σ (vg h)) (.ok _)
 |x,o::o'::os,b::l=>λcs σ h=>(d0 b cs σ (qM h)).bind λy=>aae (q9 y (o'::os) l cs σ (vg h)) (.ok _)
theorem og:∀(w:Bool) (l:List X) (cs:List V) (σ:bp),jY l=af->Still σ (qT G Φ vs w l cs σ)
 |w,[]=>λcs σ U=>.ok _
 |w,x::l=>λcs σ h=>(d0 x cs σ (qM h)).bind λv=>by
  induction v using V.casesOn with
  |bool b=>exact .ite (og w l cs σ (vg h)) (.ok _)
  |_=>exact .bad
end
end
noncomputable abbrev st (s:String):Str:=cU s
abbrev ks (s:String):X:=.k (.str (st s))
noncomputable abbrev ki (n:Int):X:=.k (.int n)
def ro (a b:String)(n m:Int):V:=.tup [.str (st a),.str (st b),.int n,.int m]
def HO:List S :=
 [.fh (.v 0) 0 (.v 1),
 .fh (.v 0) 1 (.v 2),
 .fh (.v 0) 2 (.lst af []),
 .fh (.v 0) 3 (.lst ag []),
 .fh (.v 0) 4 (.lst ag []),
 .fh (.v 0) 5 (.lst af []),
 .fh (.v 0) 6 (.lst ag []),
 .fh (.v 0) 7 (ki 0),
 .fh (.v 0) 8 (ki 0),
 .fh (.v 0) 9 (.lst ag []),
 .fh (.v 0) 10 (.k (.bool ag)),
 .fh (.v 0) 11 (.k (.bool ag)),
 .fh (.v 0) 12 (.k (.none)),
 .fh (.v 0) 13 (.k (.none)),
 .fh (.v 0) 14 (.lst ag [])]
def Iw:List Str:=[(st "self"),(st "name"),(st "params")]
def Bm:Fn:=⟨3,3,HO,[]⟩
def vd:List S :=
 [.ret (.sub (.sub (.g 0) (.v 0)) (ki 1))]
def yT:List Str:=[(st "op")]
def pv:Fn:=⟨1,1,vd,[]⟩
def oQ:List S :=
 [.ret (.bin .add ag (.sub (.sub (.g 0) (.v 0)) (ki 2)) (.ite (.cmp (.sub (.sub (.g 0) (.v 0)) (ki 1)) [.eq] [ks "n"]) (.v 1) (ki 0)))]
def tT:List Str:=[(st "op"),(st "arg")]
def lA:Fn:=⟨2,2,oQ,[]⟩
def sf:List S :=
 [.ret (.sub (.sub (.g 0) (.v 0)) (ki 3))]
def xw:List Str:=[(st "op")]
def nJ:Fn:=⟨1,1,sf,[]⟩
noncomputable def xd:List S :=
 [.ret (.cmp (.v 0) [.rp] [.g 1])]
def AG:List Str:=[(st "op")]
def rE:Fn:=⟨1,1,xd,[]⟩
def pG:List S :=
 [.ret (.and [.Ak 0 (.v 0),.not (.Ak 1 (.v 0)),.cmp (.v 0) [.ge] [ki 0]])]
def yR:List Str:=[(st "value")]
def kG:Fn:=⟨1,1,pG,[]⟩
def vc:List S :=
 [.ite (.or [.cmp (.v 1) [.eq] [ks "k"],.cmp (.v 1) [.eq] [ks "s"]]) [.ret (.len (.dm (.v 0) 3))] [],
 .ite (.cmp (.v 1) [.eq] [ks "l"]) [.ret (.dm (.v 0) 7)] [],
 .ite (.cmp (.v 1) [.eq] [ks "c"]) [.ret (.dm (.v 0) 8)] [],
 .ite (.cmp (.v 1) [.eq] [ks "u"]) [.ret (.len (.dm (.v 0) 9))] [],
 .ite (.cmp (.v 1) [.eq] [ks "t"]) [.ret (.len (.dm (.v 0) 2))] [],
 .ret (.ite (.cmp (.v 1) [.eq] [ks "f"]) (.len (.dm (.v 0) 4)) (.neg (ki 1)))]
def yS:List Str:=[(st "unit"),(st "kind")]
def pn:Fn:=⟨2,2,vc,[]⟩
def su:List S :=
 [.fW [.n 2,.n 3] (.sub (.dm (.v 0) 2) (.v 1)),
 .ite (.or [.not (.call 5 [.v 2]),.cmp (.v 2) [.ge] [.g 2]]) [.raise (ks "no operation") (.v 1)] [],
 .asg 4 (.call 1 [.v 2]),
 .ite (.cmp (.v 4) [.eq] [ks ""]) [.ite (.cmp (.v 3) [.rX ()] [.k (.none)]) [.raise (ks "an argument too many") (.v 1)] [],
  .ret (.k .none)] [],
 .asg 5 (.call 6 [.v 0,.v 4]),
 .ite (.or [.not (.call 5 [.v 3]),.cmp (ki 0) [.le,.le] [.v 5,.v 3]]) [.raise (ks "an argument out of its bounds") (.v 1)] [],
 .ite (.and [.cmp (.v 4) [.eq] [ks "s"],.not (.Ak 2 (.sub (.dm (.v 0) 3) (.v 3)))]) [.raise (ks "a name that is no text") (.v 1)] []]
def xF:List Str:=[(st "unit"),(st "pc"),(st "op"),(st "arg"),(st "kind"),(st "bound")]
def nS:Fn:=⟨2,6,su,[]⟩
noncomputable def vV:List S :=
 [.ite (.cmp (.v 1) [.rX ()] [.k (.none)]) [.dead] []]
def tX:List Str:=[(st "unit"),(st "place"),(st "bound")]
def oN:Fn:=⟨2,3,vV,[]⟩
def yc:List S :=
 [.jv (.n 1) (.dm (.v 0) 14) [.dead],
 .expr (.call 8 [.v 0,.dm (.v 0) 12]),
 .expr (.call 8 [.v 0,.dm (.v 0) 13]),
 .ite (.or [.cmp (.len (.dm (.v 0) 14)) [.gt] [.len (.dm (.v 0) 1)],.cmp (.len (.dm (.v 0) 2)) [.eq] [ki 0]]) [.raise (ks "too many places, or no code") (.neg (ki 1))] [],
 .ite (.and [.cmp (.dm (.v 0) 6) [.ne] [.lst ag []],.cmp (.len (.dm (.v 0) 6)) [.ne] [.len (.dm (.v 0) 2)]]) [.raise (ks "lines for other code") (.neg (ki 1))] [],
 .jv (.n 2) (.dm (.v 0) 4) [.dead]]
def vM:List Str:=[(st "unit"),(st "place"),(st "inner"),(st "is_frame"),(st "index")]
def qv:Fn:=⟨1,5,yc,[]⟩
def zY:List S :=
 [.ret (.and [.cmp (.sub (.v 1) (ki 0)) [.le] [.sub (.v 0) (ki 0)],.cmp (.sub (.v 0) (ki 1)) [.le] [.sub (.v 1) (ki 1)]])]
def xD:List Str:=[(st "one"),(st "other")]
def r8:Fn:=⟨2,2,zY,[]⟩
def lT:List S :=
 [.asg 1 (.len (.dm (.v 0) 2)),
 .jv (.t [2,3]) (.pA (.dm (.v 0) 5)) [.ite (.or [.not (.cmp (ki 0) [.le,.lt,.le] [.sub (.v 3) (ki 0),.sub (.v 3) (ki 1),.v 1]),.not (.cmp (ki 0) [.le,.lt] [.sub (.v 3) (ki 2),.v 1]),.not (.call 5 [.sub (.v 3) (ki 3)])]) [.raise (ks "a handler out of its bounds") (.sub (.v 3) (ki 0))] [],
  .ite (.cmp (.sub (.v 3) (ki 0)) [.le,.lt] [.sub (.v 3) (ki 2),.sub (.v 3) (ki 1)]) [.raise (ks "a handler that covers itself") (.sub (.v 3) (ki 2))] [],
  .jv (.n 4) (.xJ (.dm (.v 0) 5) (.bin .add ag (.v 2) (ki 1))) [.ite (.and [.cmp (.sub (.v 3) (ki 0)) [.lt] [.sub (.v 4) (ki 1)],.cmp (.sub (.v 4) (ki 0)) [.lt] [.sub (.v 3) (ki 1)],.not (.call 10 [.v 3,.v 4])]) [.raise (ks "handlers across one another") (.sub (.v 3) (ki 0))] []]]]
def qa:List Str:=[(st "unit"),(st "many"),(st "at"),(st "one"),(st "other")]
def jx:Fn:=⟨1,5,lT,[]⟩
def qK:List S :=
 [.jv (.n 2) (.v 0) [.ite (.cmp (.sub (.v 2) (ki 0)) [.le,.lt] [.v 1,.sub (.v 2) (ki 1)]) [.ret (.v 2)] []],
 .ret (.k (.none))]
def vK:List Str:=[(st "handlers"),(st "pc"),(st "one")]
def ml:Fn:=⟨2,3,qK,[]⟩
def kM:List S :=
 [.asg 2 (.bin .add ag (.vz (.v 1) (.sub (.v 0) (ki 3))) (.tup [.g 3])),
 .ret (.ite (.sub (.v 0) (ki 4)) (.bin .add ag (.v 2) (.tup [.sub (.v 0) (ki 2)])) (.v 2))]
def oH:List Str:=[(st "handler"),(st "stack"),(st "kept")]
def iO:Fn:=⟨2,3,kM,[]⟩
def oP:List S :=
 [.asg 3 (.call 12 [.dm (.v 0) 5,.v 1]),
 .ite (.or [.cmp (.v 3) [.is] [.k (.none)],.cmp (.sub (.sub (.dm (.v 0) 2) (.v 1)) (ki 0)) [.rp] [.g 4]]) [.ret (.lst ag [])] [],
 .ite (.cmp (.len (.v 2)) [.lt] [.sub (.v 3) (ki 3)]) [.raise (ks "a stack that is less than its handler's") (.v 1)] [],
 .ret (.lst ag [.tup [.sub (.v 3) (ki 2),.call 13 [.v 3,.v 2]]])]
def tS:List Str:=[(st "unit"),(st "pc"),(st "stack"),(st "handler")]
def lz:Fn:=⟨3,4,oP,[]⟩
def oR:List S :=
 [.jv (.n 3) (.v 0) [.ite (.and [.cmp (.v 3) [.ne] [.g 3],.not (.and [.v 2,.cmp (.v 3) [.eq] [.g 5]])]) [.raise (ks "no value on the stack") (.v 1)] []]]
def tU:List Str:=[(st "taken_things"),(st "pc"),(st "is_hole_let"),(st "thing")]
def lB:Fn:=⟨3,4,oR,[]⟩
noncomputable def xc:List S :=
 [.ite (.cmp (.v 0) [.eq] [.g 6]) [.ret (.tup [.g 5])] [],
 .ite (.cmp (.v 0) [.eq] [.g 7]) [.ret (.tup [.g 8])] [],
 .ret (.bin .mul ag (.tup [.g 3]) (.v 1))]
def AF:List Str:=[(st "op"),(st "pushed")]
def rB:Fn:=⟨2,2,xc,[]⟩
def xb:List S :=
 [.fW [.n 3,.n 4] (.sub (.dm (.v 0) 2) (.v 1)),
 .asg 5 (.call 2 [.v 3,.v 4]),
 .ite (.cmp (.len (.v 2)) [.lt] [.v 5]) [.raise (ks "nothing on the stack") (.v 1)] [],
 .fW [.n 6,.n 7] (.tup [.xJ (.v 2) (.bin .sub ag (.len (.v 2)) (.v 5)),.vz (.v 2) (.bin .sub ag (.len (.v 2)) (.v 5))]),
 .ite (.cmp (.v 3) [.eq] [.g 9]) [.ret (.lst ag [.tup [.v 4,.bin .add ag (.v 2) (.tup [.g 3,.v 4])],.tup [.bin .add ag (.v 1) (ki 1),.v 2]])] [],
 .ite (.cmp (.v 3) [.eq] [.g 10]) [.ret (.call 18 [.v 6,.v 1])] [],
 .ite (.cmp (.v 3) [.eq] [.g 11]) [.ite (.cmp (.sub (.v 6) (ki 0)) [.ne] [.g 8]) [.raise (ks "no keys to go through") (.v 1)] [],
  .ret (.lst ag [.tup [.v 4,.v 2],.tup [.bin .add ag (.v 1) (ki 1),.bin .add ag (.v 2) (.tup [.g 3])]])] [],
 .ite (.cmp (.v 3) [.ne] [.g 12]) [.expr (.call 15 [.v 6,.v 1,.cmp (.v 3) [.eq] [.g 13]])] [],
 .asg 8 (.bin .add ag (.v 7) (.call 16 [.v 3,.call 3 [.v 3]])),
 .asg 9 (.ite (.call 4 [.v 3]) (.lst af []) (.lst af [.tup [.bin .add ag (.v 1) (ki 1),.v 8]])),
 .ite (.cmp (.call 1 [.v 3]) [.eq] [ks "t"]) [.expr (.app (.v 9) (.tup [.v 4,.ite (.cmp (.v 3) [.rp] [.tup [.g 14,.g 15]]) (.v 2) (.v 8)]))] [],
 .ret (.v 9)]
def AE:List Str:=[(st "unit"),(st "pc"),(st "stack"),(st "op"),(st "arg"),(st "many"),(st "things"),(st "below"),(st "behind"),(st "found")]
def rA:Fn:=⟨3,10,xb,[]⟩
def u0:List S :=
 [.ite (.or [.cmp (.sub (.v 0) (ki 0)) [.ne] [.g 3],.cmp (.sub (.v 0) (ki 1)) [.lt] [ki 0]]) [.raise (ks "no way back") (.v 1)] [],
 .ret (.lst ag [])]
def yJ:List Str:=[(st "things"),(st "pc")]
def pb:Fn:=⟨2,2,u0,[]⟩
def se:List S :=
 [.fW [.n 1,.n 2] (.tup [.zW [0] [.tup []],.lst af [ki 0]]),
 .vG (.cmp (.len (.v 2)) [.gt] [ki 0]) [.asg 3 (.pop (.v 2)),
  .asg 4 (.sub (.v 1) (.v 3)),
  .asg 5 (.bin .add ag (.call 17 [.v 0,.v 3,.v 4]) (.call 14 [.v 0,.v 3,.v 4])),
  .jv (.t [6,7]) (.v 5) [.ite (.cmp (.v 6) [.ge] [.len (.dm (.v 0) 2)]) [.raise (ks "beyond the end") (.v 3)] [],
  .ite (.cmp (.v 6) [.H3] [.v 1]) [.eX (.v 1) (.v 6) (.v 7),
   .expr (.app (.v 2) (.v 6))] [.ite (.cmp (.sub (.v 1) (.v 6)) [.ne] [.v 7]) [.raise (ks "two stacks at one place") (.v 6)] []]]],
 .ret (.v 1)]
def xv:List Str:=[(st "unit"),(st "found"),(st "waiting"),(st "pc"),(st "stack"),(st "later"),(st "place"),(st "told")]
def nI:Fn:=⟨1,8,se,[]⟩
noncomputable def sr:List S :=
 [.expr (.call 9 [.v 0]),
 .jv (.n 1) (.nz [.len (.dm (.v 0) 2)]) [.expr (.call 7 [.v 0,.v 1])],
 .expr (.call 11 [.v 0]),
 .expr (.call 19 [.v 0])]
def xE:List Str:=[(st "unit"),(st "pc")]
def nR:Fn:=⟨1,2,sr,[]⟩
def qL:List S :=
 [.asg 1 (.lst af [.v 0]),
 .vG (.cmp (.len (.v 1)) [.gt] [ki 0]) [.asg 2 (.pop (.v 1)),
  .expr (.call 20 [.v 2]),
  .expr (.ext (.v 1) (.dm (.v 2) 4))]]
def vL:List Str:=[(st "unit"),(st "waiting"),(st "here")]
def mm:Fn:=⟨1,3,qL,[]⟩
def sq:List S :=
 [.fW [.n 1,.n 2] (.tup [.comp af (.abs (.k6 (.c 0))) (.vz (.v 0) (ki 40)) [],ki 7411]),
 .jv (.n 3) (.v 1) [.asg 2 (.bin .mod ag (.bin .add ag (.bin .add ag (.bin .mul ag (.v 2) (ki 31)) (.bin .mod ag (.v 3) (ki 1000003))) (ki 5)) (ki 2147483647))],
 .ret (.lst af [.v 1,.v 2])]
def xC:List Str:=[(st "script"),(st "pool"),(st "seed"),(st "one")]
def nQ:Fn:=⟨1,4,sq,[]⟩
def u6:List S :=
 [.ite (.cmp (.sub (.v 0) (ki 0)) [.ne] [.lst ag []]) [.ret (.bin .mod ag (.um (.sub (.v 0) (ki 0)) (ki 0)) (.v 1))] [],
 .eX (.v 0) (ki 1) (.bin .mod ag (.bin .add ag (.bin .mul ag (.sub (.v 0) (ki 1)) (ki 48271)) (ki 17)) (ki 2147483647)),
 .ret (.bin .mod ag (.bin .fdiv ag (.sub (.v 0) (ki 1)) (ki 16)) (.v 1))]
def yM:List Str:=[(st "draws"),(st "many")]
def pf:Fn:=⟨2,2,u6,[]⟩
def sh:List S :=
 [.asg 0 (ks "UNDEF:-01 NULL:-01 TRUE:-01 FALSE:-01 CONST:k01 THIS:-01 POP:-10 DUP:-12 DUP2:-24 SWAP:-22 "),
 .asg 0 (.bin .add ag (.v 0) (ks "ROT3:-33 GETLOC:l01 SETLOC:l11 GETCELL:c01 SETCELL:c11 GETUP:u01 SETUP:u11 FRESH:c00 ")),
 .asg 0 (.bin .add ag (.v 0) (ks "GETGLOB:s01 TYPEGLOB:s01 SETGLOB:s11 DECLVAR:s00 DECLFUN:s10 GETPROP:s11 SETPROP:s21 ")),
 .asg 0 (.bin .add ag (.v 0) (ks "GETELEM:-21 SETELEM:-31 DELPROP:s11 DELELEM:-21 DELNAME:s01 ADD:-21 SUB:-21 MUL:-21 DIV:-21 ")),
 .asg 0 (.bin .add ag (.v 0) (ks "MOD:-21 SHL:-21 SHR:-21 USHR:-21 AND:-21 OR:-21 XOR:-21 EQ:-21 NE:-21 SEQ:-21 SNE:-21 ")),
 .asg 0 (.bin .add ag (.v 0) (ks "LT:-21 GT:-21 LE:-21 GE:-21 IN:-21 INSTANCEOF:-21 NEG:-11 TONUM:-11 NOT:-11 BITNOT:-11 ")),
 .asg 0 (.bin .add ag (.v 0) (ks "TYPEOF:-11 INC:-11 DEC:-11 JMP:t00 JF:t10 JT:t10 JFK:t10 JTK:t10 CALL:n21 NEW:n11 RET:-10 ")),
 .asg 0 (.bin .add ag (.v 0) (ks "THROW:-10 CLOSURE:f01 NEWOBJ:-01 NEWARR:n01 HOLE:-01 INITPROP:s21 INITGET:s21 INITSET:s21 ")),
 .asg 0 (.bin .add ag (.v 0) (ks "METHOD:s12 METHODEL:-22 FORIN:-11 NEXTIN:t12 GOSUB:t00 RETSUB:-20 CHECKOBJ:-11 TOKEY:-22 ")),
 .asg 0 (.bin .add ag (.v 0) (ks "ROT4:-44 FAILSET:s10 REGEXP:-21")),
 .ret (.comp ag (.tup [.sub (.split (.c 0) (st ":")) (ki 0),.sub (.c 0) (.neg (ki 3)),.k6 (.sub (.c 0) (.neg (ki 2))),.k6 (.sub (.c 0) (.neg (ki 1)))]) (.split (.v 0) (st " ")) [])]
def xx:List Str:=[(st "text")]
def nK:Fn:=⟨0,1,sh,[]⟩
def sj:List S :=
 [.asg 0 (ks "UNDEF NULL TRUE FALSE CONST THIS POP DUP DUP2 SWAP ROT3 ROT4 GETLOC SETLOC GETCELL SETCELL GETUP SETUP "),
 .asg 0 (.bin .add ag (.v 0) (ks "FRESH SEQ SNE NOT TYPEOF JMP JF JT JFK JTK RET CLOSURE NEWOBJ NEWARR HOLE GOSUB")),
 .ret (.split (.v 0) (st " "))]
def xy:List Str:=[(st "text")]
def nM:Fn:=⟨0,1,sj,[]⟩
def lR:List S :=
 [.expr (.app (.sub (.v 0) (ks "rows")) (.tup [.v 1,.v 2]))]
def kr:List Str:=[(st "box"),(st "name"),(st "given")]
def rC:Fn:=⟨3,3,lR,[.none]⟩
def so:List S :=
 [.expr (.app (.sub (.v 0) (ks "labels")) (.bin .sub ag (ki 0) (ki 1))),
 .ret (.bin .sub ag (.len (.sub (.v 0) (ks "labels"))) (ki 1))]
def xB:List Str:=[(st "box")]
def nP:Fn:=⟨1,1,so,[]⟩
def u9:List S :=
 [.eX (.sub (.v 0) (ks "labels")) (.v 1) (.len (.sub (.v 0) (ks "rows")))]
def yP:List Str:=[(st "box"),(st "label")]
def ph:Fn:=⟨2,2,u9,[]⟩
def qI:List S :=
 [.asg 2 (.call 23 [.v 0,ki 6]),
 .asg 3 (.lst af [.lst ag [ks "CONST 0",ks "POP"],.lst ag [ks "CONST 0",ks "GETLOC 0",ks "ADD",ks "SETLOC 0",ks "POP"]]),
 .expr (.app (.v 3) (.lst ag [ks "HOLE",ks "CONST 0",ks "NEWARR 2",ks "POP"])),
 .asg 3 (.bin .add af (.v 3) (.lst ag [.lst ag [ks "GETGLOB 1",ks "UNDEF",ks "CONST 0",ks "CALL 1",ks "POP"],.lst ag [ks "NEWOBJ",ks "CONST 0",ks "INITPROP 1",ks "POP"]])),
 .expr (.app (.v 3) (.lst ag [ks "GETLOC 0",ks "DUP",ks "SWAP",ks "TOKEY",ks "GETELEM",ks "POP"])),
 .jv (.n 4) (.sub (.v 3) (.v 2)) [.asg 5 (.split (.v 4) (st " ")),
  .expr (.call 26 [.v 1,.sub (.v 5) (ki 0),.ite (.cmp (.len (.v 5)) [.gt] [ki 1]) (.k6 (.sub (.v 5) (ki 1))) (.k (.none))])]]
def vI:List Str:=[(st "draws"),(st "box"),(st "form"),(st "pool"),(st "word"),(st "pieces")]
def mi:Fn:=⟨2,6,qI,[]⟩
def mM:List S :=
 [.asg 4 (.ite (.cmp (.v 3) [.gt] [ki 0]) (.call 23 [.v 0,ki 9]) (ki 0)),
 .ite (.cmp (.v 4) [.lt] [ki 2]) [.expr (.call 29 [.v 0,.v 1])] [.ite (.cmp (.v 4) [.lt] [ki 4]) [.expr (.call 31 [.v 0,.v 1,.v 2,.v 3,.cmp (.v 4) [.eq] [ki 3]])] [.ite (.cmp (.v 4) [.eq] [ki 4]) [.expr (.call 32 [.v 0,.v 1,.v 2,.v 3])] [.ite (.cmp (.v 4) [.lt] [ki 7]) [.expr (.call 33 [.v 0,.v 1,.v 2,.v 3,.cmp (.v 4) [.eq] [ki 6]])] [.ite (.cmp (.v 4) [.eq] [ki 7]) [.asg 5 (.call 27 [.v 1]),
    .expr (.call 26 [.v 1,ks "GETLOC",ki 0]),
    .expr (.call 26 [.v 1,.sub (.lst ag [ks "JFK",ks "JTK"]) (.call 23 [.v 0,ki 2]),.v 5]),
    .expr (.call 26 [.v 1,ks "CONST",ki 0]),
    .expr (.call 28 [.v 1,.v 5]),
    .expr (.call 26 [.v 1,ks "POP"])] [.expr (.call 26 [.v 1,ks "CONST",ki 0]),
    .expr (.call 26 [.v 1,.sub (.lst ag [ks "RET",ks "THROW"]) (.call 23 [.v 0,ki 2])])]]]]]]
def q5:List Str:=[(st "draws"),(st "box"),(st "depth"),(st "deep"),(st "form"),(st "kept")]
def iL:Fn:=⟨4,6,mM,[]⟩
def u5:List S :=
 [.fW [.n 5,.n 6,.n 7] (.tup [.call 27 [.v 1],.call 27 [.v 1],.call 27 [.v 1]]),
 .expr (.call 28 [.v 1,.v 5]),
 .expr (.call 26 [.v 1,ks "GETLOC",ki 0]),
 .expr (.call 26 [.v 1,ks "JF",.v 6]),
 .expr (.call 30 [.v 0,.v 1,.v 2,.bin .sub ag (.v 3) (ki 1)]),
 .expr (.call 26 [.v 1,ks "JMP",.ite (.v 4) (.v 5) (.v 7)]),
 .expr (.call 28 [.v 1,.v 6]),
 .ite (.not (.v 4)) [.expr (.call 30 [.v 0,.v 1,.v 2,.bin .sub ag (.v 3) (ki 1)])] [],
 .expr (.call 28 [.v 1,.v 7])]
def yL:List Str:=[(st "draws"),(st "box"),(st "depth"),(st "deep"),(st "is_loop"),(st "start_at"),(st "other"),(st "end")]
def pe:Fn:=⟨5,8,u5,[]⟩
def Bw:List S :=
 [.fW [.n 4,.n 5] (.tup [.call 27 [.v 1],.call 27 [.v 1]]),
 .expr (.call 26 [.v 1,ks "GETLOC",ki 0]),
 .expr (.call 26 [.v 1,ks "FORIN"]),
 .expr (.call 28 [.v 1,.v 4]),
 .expr (.call 26 [.v 1,ks "NEXTIN",.v 5]),
 .expr (.call 26 [.v 1,ks "SETLOC",ki 0]),
 .expr (.call 26 [.v 1,ks "POP"]),
 .expr (.call 30 [.v 0,.v 1,.bin .add ag (.v 2) (ki 1),.bin .sub ag (.v 3) (ki 1)]),
 .expr (.call 26 [.v 1,ks "JMP",.v 4]),
 .expr (.call 28 [.v 1,.v 5]),
 .expr (.call 26 [.v 1,ks "POP"])]
def yO:List Str:=[(st "draws"),(st "box"),(st "depth"),(st "deep"),(st "start_at"),(st "end")]
def uR:Fn:=⟨4,6,Bw,[]⟩
def oS:List S :=
 [.fW [.n 5,.n 6,.n 7,.n 8] (.tup [.call 27 [.v 1],.call 27 [.v 1],.call 27 [.v 1],.call 27 [.v 1]]),
 .expr (.call 28 [.v 1,.v 5]),
 .expr (.call 30 [.v 0,.v 1,.v 2,.bin .sub ag (.v 3) (ki 1)]),
 .expr (.call 26 [.v 1,ks "GETGLOB",ki 1]),
 .expr (.call 26 [.v 1,ks "POP"]),
 .expr (.call 28 [.v 1,.v 6]),
 .ite (.v 4) [.expr (.call 26 [.v 1,ks "GOSUB",.v 7])] [],
 .expr (.call 26 [.v 1,ks "JMP",.v 8]),
 .expr (.call 28 [.v 1,.v 7]),
 .ite (.not (.v 4)) [.expr (.call 26 [.v 1,ks "SETLOC",ki 0]),
  .expr (.call 26 [.v 1,ks "POP"])] [],
 .expr (.call 30 [.v 0,.v 1,.bin .add ag (.v 2) (.bin .mul ag (ki 2) (.k6 (.v 4))),.bin .sub ag (.v 3) (ki 1)]),
 .ite (.v 4) [.expr (.call 26 [.v 1,ks "RETSUB"])] [],
 .expr (.call 28 [.v 1,.v 8]),
 .expr (.app (.sub (.v 1) (ks "handlers")) (.tup [.v 5,.v 6,.v 7,.v 2,.v 4]))]
def tW:List Str:=[(st "draws"),(st "box"),(st "depth"),(st "deep"),(st "is_finally"),(st "start_at"),(st "end"),(st "handler"),(st "behind")]
def lC:Fn:=⟨5,9,oS,[]⟩
def u7:List S :=
 [.fW [.n 2,.n 3] (.tup [.comp ag (.sub (.c 0) (ki 0)) (.v 1) [],.mk [ks "drawn",.lst ag []]]),
 .jv (.t [4,5]) (.sub (.v 0) (ks "rows")) [.asg 6 (.index (.v 2) (.v 4)),
  .expr (.app (.dm (.v 3) 2) (.tup [.v 6,.ite (.cmp (.sub (.sub (.v 1) (.v 6)) (ki 1)) [.eq] [ks "t"]) (.sub (.sub (.v 0) (ks "labels")) (.v 5)) (.v 5)]))],
 .jv (.t [7,8,9,10,11]) (.sub (.v 0) (ks "handlers")) [.asg 12 (.comp ag (.sub (.sub (.v 0) (ks "labels")) (.c 0)) (.tup [.v 7,.v 8,.v 9]) []),
  .expr (.app (.dm (.v 3) 5) (.tup [.sub (.v 12) (ki 0),.sub (.v 12) (ki 1),.sub (.v 12) (ki 2),.v 10,.v 11]))],
 .fW [.dm (.v 3) 3,.dm (.v 3) 7] (.tup [.lst ag [ki 4607182418800017408,ks "x"],ki 1]),
 .ret (.v 3)]
def yN:List Str:=[(st "box"),(st "table"),(st "names"),(st "drawn"),(st "name"),(st "given"),(st "op"),(st "start_at"),(st "end"),(st "handler"),(st "depth"),(st "is_finally"),(st "places")]
def pg:Fn:=⟨2,13,u7,[]⟩
def vb:List S :=
 [.fW [.n 3,.n 4] (.tup [.call 23 [.v 0,ki 7],.call 23 [.v 0,.len (.dm (.v 1) 2)]]),
 .fW [.n 5,.n 6] (.sub (.dm (.v 1) 2) (.v 4)),
 .ite (.cmp (.v 3) [.lt] [ki 2]) [.asg 7 (.call 23 [.v 0,.len (.v 2)]),
  .eX (.dm (.v 1) 2) (.v 4) (.tup [.v 7,.ite (.cmp (.sub (.sub (.v 2) (.v 7)) (ki 1)) [.eq] [ks "-"]) (.k (.none)) (.ite (.cmp (.v 6) [.is] [.k (.none)]) (.call 23 [.v 0,ki 3]) (.v 6))])] [.ite (.and [.cmp (.v 3) [.eq] [ki 2],.cmp (.v 6) [.rX ()] [.k (.none)]]) [.eX (.dm (.v 1) 2) (.v 4) (.tup [.v 5,.bin .add ag (.v 6) (.sub (.lst ag [ki 1,.bin .sub ag (ki 0) (ki 1),ki 2]) (.call 23 [.v 0,ki 3]))])] [.ite (.and [.cmp (.v 3) [.eq] [ki 3],.cmp (.sub (.sub (.v 2) (.v 5)) (ki 1)) [.eq] [ks "t"]]) [.eX (.dm (.v 1) 2) (.v 4) (.tup [.v 5,.call 23 [.v 0,.bin .add ag (.len (.dm (.v 1) 2)) (ki 1)]])] [.ite (.and [.cmp (.v 3) [.eq] [ki 4],.cmp (.dm (.v 1) 5) [.ne] [.lst ag []]]) [.fW [.n 8,.n 9] (.tup [.call 23 [.v 0,.len (.dm (.v 1) 5)],.call 23 [.v 0,ki 5]]),
   .asg 10 (.tolist (.sub (.dm (.v 1) 5) (.v 8))),
   .eX (.v 10) (.v 9) (.ite (.cmp (.v 9) [.eq] [ki 4]) (.not (.sub (.v 10) (.v 9))) (.bin .sub ag (.bin .add ag (.sub (.v 10) (.v 9)) (ki 1)) (.bin .mul ag (ki 2) (.call 23 [.v 0,ki 2])))),
   .eX (.dm (.v 1) 5) (.v 8) (.tup [.sub (.v 10) (ki 0),.sub (.v 10) (ki 1),.sub (.v 10) (ki 2),.sub (.v 10) (ki 3),.sub (.v 10) (ki 4)])] [.ite (.and [.cmp (.v 3) [.eq] [ki 5],.cmp (.len (.dm (.v 1) 2)) [.gt] [ki 1]]) [.expr (.um (.dm (.v 1) 2) (.v 4))] [.asg 9 (.call 23 [.v 0,.len (.dm (.v 1) 2)]),
    .fW [.sub (.dm (.v 1) 2) (.v 4),.sub (.dm (.v 1) 2) (.v 9)] (.tup [.sub (.dm (.v 1) 2) (.v 9),.sub (.dm (.v 1) 2) (.v 4)])]]]]]]
def yQ:List Str:=[(st "draws"),(st "drawn"),(st "table"),(st "form"),(st "pc"),(st "op"),(st "given"),(st "other"),(st "at"),(st "spot"),(st "row")]
def pj:Fn:=⟨3,11,vb,[]⟩
def lS:List S :=
 [.asg 2 (.sT [(st "k"),(st "s"),(st "l"),(st "c"),(st "u"),(st "t"),(st "n"),(st "f")] [ki 2,ki 2,ki 1,ki 0,ki 0,.len (.dm (.v 0) 2),.bin (.pow ()) ag (ki 10) (ki 9),ki 0]),
 .jv (.t [3,4]) (.dm (.v 0) 2) [.asg 5 (.sub (.sub (.v 1) (.v 3)) (ki 1)),
  .asg 6 (.and [.cmp (.v 5) [.eq] [ks "s"],.cmp (.v 4) [.ne] [ki 1]]),
  .ite (.or [.cmp (.cmp (.v 5) [.eq] [ks "-"]) [.ne] [.cmp (.v 4) [.is] [.k (.none)]],.and [.cmp (.v 5) [.ne] [ks "-"],.not (.cmp (ki 0) [.le,.lt] [.v 4,.sub (.v 2) (.v 5)])],.v 6]) [.ret (.k (.bool ag))] []],
 .ret (.k (.bool af))]
def pZ:List Str:=[(st "drawn"),(st "table"),(st "bounds"),(st "op"),(st "given"),(st "sort"),(st "is_name_wrong")]
def jw:Fn:=⟨2,7,lS,[]⟩
def jL:List S :=
 [.fW [.n 1,.n 2] (.tup [.lst af [],.len (.dm (.v 0) 2)]),
 .jv (.t [3,4,5,6,7]) (.dm (.v 0) 5) [.asg 8 (.comp ag (.c 0) (.nz [.v 3,.v 4]) []),
  .ite (.or [.cmp (.v 8) [.eq] [.lst ag []],.cmp (.v 3) [.lt] [ki 0],.cmp (.v 4) [.gt] [.v 2],.not (.cmp (ki 0) [.le,.lt] [.v 5,.v 2]),.cmp (.v 5) [.rp] [.v 8],.cmp (.v 6) [.lt] [ki 0]]) [.ret (.k (.bool ag))] [],
  .jv (.n 9) (.v 1) [.ite (.cmp (.comp ag (.c 0) (.v 9) [.cmp (.c 0) [.rp] [.v 8]]) [.H3] [.tup [.lst ag [],.v 9]]) [.ret (.k (.bool ag))] []],
  .expr (.app (.v 1) (.v 8))],
 .ret (.k (.bool af))]
def mT:List Str:=[(st "drawn"),(st "lots"),(st "many"),(st "start_at"),(st "end"),(st "target"),(st "depth"),(st "is_finally"),(st "lot"),(st "other")]
def gQ:Fn:=⟨1,10,jL,[]⟩
def u4:List S :=
 [.fW [.n 4,.n 5] (.sub (.dm (.v 0) 2) (.v 2)),
 .fW [.n 6,.n 7,.n 8,.n 9] (.sub (.v 1) (.v 4)),
 .asg 8 (.bin .add ag (.v 8) (.ite (.cmp (.v 7) [.eq] [ks "n"]) (.v 5) (ki 0))),
 .ite (.cmp (.len (.v 3)) [.lt] [.v 8]) [.ret (.k (.none))] [],
 .fW [.n 10,.n 11] (.tup [.xJ (.v 3) (.bin .sub ag (.len (.v 3)) (.v 8)),.vz (.v 3) (.bin .sub ag (.len (.v 3)) (.v 8))]),
 .ite (.cmp (.v 6) [.eq] [ks "GOSUB"]) [.ret (.lst ag [.tup [.v 5,.bin .add ag (.v 3) (.lst ag [ks "v",.v 5])],.tup [.bin .add ag (.v 2) (ki 1),.v 3]])] [],
 .ite (.cmp (.v 6) [.eq] [ks "RETSUB"]) [.ret (.ite (.and [.cmp (.sub (.v 10) (ki 0)) [.eq] [ks "v"],.Ak 0 (.sub (.v 10) (ki 1))]) (.lst ag []) (.k (.none)))] [],
 .ite (.cmp (.v 6) [.eq] [ks "NEXTIN"]) [.ret (.ite (.cmp (.v 10) [.eq] [.lst ag [ks "k"]]) (.lst ag [.tup [.v 5,.v 3],.tup [.bin .add ag (.v 2) (ki 1),.bin .add ag (.v 3) (.lst ag [ks "v"])]]) (.k (.none)))] [],
 .ite (.and [.cmp (.v 6) [.ne] [ks "POP"],.cmp (.comp ag (.c 0) (.v 10) [.and [.cmp (.c 0) [.ne] [ks "v"],.not (.and [.cmp (.v 6) [.eq] [ks "NEWARR"],.cmp (.c 0) [.eq] [ks "h"]])]]) [.ne] [.lst ag []]]) [.ret (.k (.none))] [],
 .asg 12 (.bin .add ag (.v 11) (.ite (.cmp (.v 6) [.rp] [.tup [ks "HOLE",ks "FORIN"]]) (.sub (.sT [(st "HOLE"),(st "FORIN")] [.lst ag [ks "h"],.lst ag [ks "k"]]) (.v 6)) (.bin .mul ag (.lst ag [ks "v"]) (.v 9)))),
 .asg 13 (.ite (.cmp (.v 6) [.rp] [.tup [ks "JMP",ks "RET",ks "THROW",ks "FAILSET"]]) (.lst ag []) (.lst ag [.tup [.bin .add ag (.v 2) (ki 1),.v 12]])),
 .ret (.bin .add ag (.v 13) (.ite (.cmp (.v 7) [.eq] [ks "t"]) (.lst ag [.tup [.v 5,.ite (.cmp (.v 6) [.rp] [.tup [ks "JFK",ks "JTK"]]) (.v 3) (.v 12)]]) (.lst ag [])))]
def yK:List Str:=[(st "drawn"),(st "table"),(st "pc"),(st "stack"),(st "op"),(st "given"),(st "name"),(st "sort"),(st "takes"),(st "puts"),(st "gone"),(st "below"),(st "behind"),(st "found")]
def pd:Fn:=⟨4,14,u4,[]⟩
def sm:List S :=
 [.asg 5 (.call 38 [.v 0,.v 1,.v 3,.v 4]),
 .asg 6 (.comp ag (.c 0) (.dm (.v 0) 5) [.cmp (.sub (.c 0) (ki 0)) [.le,.lt] [.v 3,.sub (.c 0) (ki 1)]]),
 .ite (.or [.cmp (.v 5) [.is] [.k (.none)],.cmp (.v 6) [.eq] [.lst ag []],.cmp (.sub (.sub (.v 1) (.sub (.sub (.dm (.v 0) 2) (.v 3)) (ki 0))) (ki 0)) [.rp] [.v 2]]) [.ret (.v 5)] [],
 .ite (.cmp (.len (.v 4)) [.lt] [.sub (.sub (.v 6) (ki 0)) (ki 3)]) [.ret (.k (.none))] [],
 .ret (.bin .add ag (.v 5) (.lst ag [.tup [.sub (.sub (.v 6) (ki 0)) (ki 2),.bin .add ag (.bin .add ag (.vz (.v 4) (.sub (.sub (.v 6) (ki 0)) (ki 3))) (.lst ag [ks "v"])) (.ite (.sub (.sub (.v 6) (ki 0)) (ki 4)) (.lst ag [.sub (.sub (.v 6) (ki 0)) (ki 2)]) (.lst ag []))]]))]
def xA:List Str:=[(st "drawn"),(st "table"),(st "quiet"),(st "pc"),(st "stack"),(st "later"),(st "over")]
def nN:Fn:=⟨5,7,sm,[]⟩
def qH:List S :=
 [.fW [.n 3,.n 4] (.tup [.zW [] [],.lst af [.tup [ki 0,.lst ag []]]]),
 .vG (.cmp (.v 4) [.ne] [.lst ag []]) [.fW [.n 5,.n 6] (.um (.v 4) (ki 0)),
  .ite (.or [.cmp (.v 5) [.ge] [.len (.dm (.v 0) 2)],.and [.cmp (.v 5) [.rp] [.v 3],.cmp (.sub (.v 3) (.v 5)) [.ne] [.v 6]]]) [.ret (.k (.none))] [],
  .ite (.cmp (.v 5) [.H3] [.v 3]) [.eX (.v 3) (.v 5) (.v 6),
  .asg 7 (.call 39 [.v 0,.v 1,.v 2,.v 5,.v 6]),
  .ite (.cmp (.v 7) [.is] [.k (.none)]) [.ret (.k (.none))] [],
  .expr (.ext (.v 4) (.v 7))] []],
 .ret (.v 3)]
def vH:List Str:=[(st "drawn"),(st "table"),(st "quiet"),(st "found"),(st "waiting"),(st "pc"),(st "stack"),(st "later")]
def mh:Fn:=⟨3,8,qH,[]⟩
def nW:List S :=
 [.ite (.or [.not (.call 36 [.v 0,.v 1]),.not (.call 37 [.v 0])]) [.ret (.k (.bool ag))] [],
 .asg 2 (.call 40 [.v 0,.v 1,.call 25 []]),
 .ite (.cmp (.v 2) [.is] [.k (.none)]) [.ret (.k (.bool ag))] [],
 .x9 3 (.v 2) (.and [.cmp (.sub (.sub (.v 1) (.sub (.sub (.dm (.v 0) 2) (.v 3)) (ki 0))) (ki 0)) [.eq] [ks "RETSUB"],.cmp (.zV (.v 2) (.sub (.sub (.v 2) (.v 3)) (.neg (ki 1)))) [.ne] [.sub (.v 2) (.v 3)]]),
 .ret (.k (.bool af))]
def sI:List Str:=[(st "drawn"),(st "table"),(st "found"),(st "pc")]
def kF:Fn:=⟨2,4,nW,[]⟩
noncomputable def qJ:List S :=
 [.vN 21 [.v 0] (.bool ag),
 .ret (.k (.bool af))]
def vJ:List Str:=[(st "drawn")]
def mj:Fn:=⟨1,1,qJ,[]⟩
def M9:List S :=
 [.fW [.n 1,.n 2] (.tup [.call 22 [.v 0],.call 24 []]),
 .asg 3 (.sT [(st "rows"),(st "labels"),(st "handlers")] [.lst af [],.lst af [],.lst af []]),
 .jv (.n 4) (.nz [.bin .add ag (ki 1) (.call 23 [.v 1,ki 2])]) [.expr (.call 30 [.v 1,.v 3,ki 0,ki 2])],
 .expr (.call 26 [.v 3,ks "UNDEF"]),
 .expr (.call 26 [.v 3,ks "RET"]),
 .asg 5 (.call 34 [.v 3,.v 2]),
 .ite (.or [.cmp (.len (.v 2)) [.ne] [.g 2],.not (.call 42 [.v 5]),.not (.call 41 [.v 5,.v 2])]) [.ret (.k (.bool ag))] [],
 .jv (.n 4) (.nz [.bin .add ag (ki 1) (.call 23 [.v 1,ki 3])]) [.expr (.call 35 [.v 1,.v 5,.v 2]),
  .ite (.cmp (.call 42 [.v 5]) [.ne] [.call 41 [.v 5,.v 2]]) [.ret (.k (.bool ag))] []],
 .ret (.k (.bool af))]
def Nu:List Str:=[(st "script"),(st "draws"),(st "table"),(st "box"),(st "turn"),(st "drawn")]
def He:Fn:=⟨1,6,M9,[]⟩
def x8:List Str:=[(st "OPERATIONS"),(st "LAST_OPS"),(st "OP_COUNT"),(st "VALUE"),(st "QUIET_OPS"),(st "NO_VALUE"),(st "OP_HOLE"),(st "OP_FORIN"),(st "KEYS"),(st "OP_GOSUB"),(st "OP_RETSUB"),(st "OP_NEXTIN"),(st "OP_POP"),(st "OP_NEWARR"),(st "OP_JFK"),(st "OP_JTK")]
def G:List V:=[.lst [ro "UNDEF" "" 0 1,ro "NULL" "" 0 1,ro "TRUE" "" 0 1,ro "FALSE" "" 0 1,ro "CONST" "k" 0 1,ro "THIS" "" 0 1,ro "POP" "" 1 0,ro "DUP" "" 1 2,ro "DUP2" "" 2 4,ro "SWAP" "" 2 2,ro "ROT3" "" 3 3,ro "GETLOC" "l" 0 1,ro "SETLOC" "l" 1 1,ro "GETCELL" "c" 0 1,ro "SETCELL" "c" 1 1,ro "GETUP" "u" 0 1,ro "SETUP" "u" 1 1,ro "FRESH" "c" 0 0,ro "GETGLOB" "s" 0 1,ro "TYPEGLOB" "s" 0 1,ro "SETGLOB" "s" 1 1,ro "DECLVAR" "s" 0 0,ro "DECLFUN" "s" 1 0,ro "GETPROP" "s" 1 1,ro "SETPROP" "s" 2 1,ro "GETELEM" "" 2 1,ro "SETELEM" "" 3 1,ro "DELPROP" "s" 1 1,ro "DELELEM" "" 2 1,ro "DELNAME" "s" 0 1,ro "ADD" "" 2 1,ro "SUB" "" 2 1,ro "MUL" "" 2 1,ro "DIV" "" 2 1,ro "MOD" "" 2 1,ro "SHL" "" 2 1,ro "SHR" "" 2 1,ro "USHR" "" 2 1,ro "AND" "" 2 1,ro "OR" "" 2 1,ro "XOR" "" 2 1,ro "EQ" "" 2 1,ro "NE" "" 2 1,ro "SEQ" "" 2 1,ro "SNE" "" 2 1,ro "LT" "" 2 1,ro "GT" "" 2 1,ro "LE" "" 2 1,ro "GE" "" 2 1,ro "IN" "" 2 1,ro "INSTANCEOF" "" 2 1,ro "NEG" "" 1 1,ro "TONUM" "" 1 1,ro "NOT" "" 1 1,ro "BITNOT" "" 1 1,ro "TYPEOF" "" 1 1,ro "INC" "" 1 1,ro "DEC" "" 1 1,ro "JMP" "t" 0 0,ro "JF" "t" 1 0,ro "JT" "t" 1 0,ro "JFK" "t" 1 0,ro "JTK" "t" 1 0,ro "CALL" "n" 2 1,ro "NEW" "n" 1 1,ro "RET" "" 1 0,ro "THROW" "" 1 0,ro "CLOSURE" "f" 0 1,ro "NEWOBJ" "" 0 1,ro "NEWARR" "n" 0 1,ro "HOLE" "" 0 1,ro "INITPROP" "s" 2 1,ro "INITGET" "s" 2 1,ro "INITSET" "s" 2 1,ro "METHOD" "s" 1 2,ro "METHODEL" "" 2 2,ro "FORIN" "" 1 1,ro "NEXTIN" "t" 1 2,ro "GOSUB" "t" 0 0,ro "RETSUB" "" 2 0,ro "CHECKOBJ" "" 1 1,ro "TOKEY" "" 2 2,ro "ROT4" "" 4 4,ro "FAILSET" "s" 1 0,ro "REGEXP" "" 2 1],
 .lst [.int 58,.int 65,.int 66,.int 79,.int 83],
 .int 85,
 .int (-1),
 .lst [.int 0,.int 1,.int 2,.int 3,.int 4,.int 5,.int 6,.int 7,.int 8,.int 9,.int 10,.int 82,.int 11,.int 12,.int 13,.int 14,.int 15,.int 16,.int 17,.int 43,.int 44,.int 53,.int 55,.int 58,.int 59,.int 60,.int 61,.int 62,.int 65,.int 67,.int 68,.int 69,.int 70,.int 78],
 .int (-3),
 .int 70,
 .int 76,
 .int (-2),
 .int 78,
 .int 79,
 .int 77,
 .int 6,
 .int 69,
 .int 61,
 .int 62]
def rz:List Str:=[(st "Unit.__init__"),(st "arg_kind"),(st "taken_count"),(st "put_count"),(st "is_last"),(st "is_count"),(st "bound_of"),(st "check_arg"),(st "check_place"),(st "check_head"),(st "is_within"),(st "check_handlers"),(st "handler_at"),(st "stack_in_handler"),(st "ways_thrown"),(st "need_values"),(st "made_by"),(st "ways_on"),(st "way_back"),(st "stacks_of"),(st "check_one"),(st "check_unit"),(st "_law_draws"),(st "_law_take"),(st "_law_table"),(st "_law_quiet"),(st "_law_put"),(st "_law_label"),(st "_law_here"),(st "_law_simple"),(st "_law_statement"),(st "_law_test"),(st "_law_keys"),(st "_law_guarded"),(st "_law_made"),(st "_law_bent"),(st "_law_args_right"),(st "_law_handlers_right"),(st "_law_ways"),(st "_law_later"),(st "_law_stacks"),(st "_law_is_right"),(st "_law_is_let"),(st "law")]
def F:List Fn:=[Bm,pv,lA,nJ,rE,kG,pn,nS,oN,qv,r8,jx,ml,iO,lz,lB,rB,rA,pb,nI,nR,mm,nQ,pf,nK,nM,rC,nP,ph,mi,iL,pe,uR,lC,pg,pj,jw,gQ,pd,nN,mh,kF,mj,He]
end Internal
end
noncomputable section
open PySem
namespace Internal.Pu
variable {ifs:List X}{it:X}{d:List (Int×V)}{δ γ β α:Type}{Q':α->bp->Prop}{p:α->Option β}{K:V->Vs->bp->Prop}{m:Bool}{W n:Nat}{q:α->β->Option γ}{r:α->β->γ->Option δ}{A:Vs->bp->Prop}{i:Int}{o:Option α}{a:α}{xs cs l:List V}{Φ:Nat->List V->bp->R V}{vs:Vs}{E:bp->Prop}{x:Str}{Q:V->bp->Prop}{σ:bp}
def Wp (r:R α)(Q:α->bp->Prop)(E:bp->Prop):Prop:=match r with
 |.ok a σ=>Q a σ
 |.exc σ=>E σ
 |.bad=>False
theorem Wp.mono {r:R α}{Q:α->bp->Prop}{E':bp->Prop}(h:Wp r Q E)(q:∀a σ,Q a σ->Q' a σ)(e:∀σ,E σ->E' σ):Wp r Q' E':=by
 induction r with
 |ok a σ=>exact q a σ h
 |exc σ=>exact e σ h
 |bad=>exact h
theorem Wp.imp {r:R α}{Q:α->bp->Prop}(h:Wp r Q E)(q:∀a σ,Q a σ->Q' a σ):Wp r Q' E:=h.mono q λU h=>h
theorem Wp.bind {r:R α}{f:α->bp->R β}{Q:β->bp->Prop}(h:Wp r (λa σ=>Wp (f a σ) Q E) E):Wp (r.bind f) Q E:=by
 induction r with
 |ok a σ=>exact h
 |exc σ=>exact h
 |bad=>exact h
def Gt (o:Option α)(Q:α->Prop):Prop:=match o with
 |some a=>Q a
 |none=>False
theorem Gs (a:α)(Q:α->Prop):Gt (aa a) Q=Q a:=rfl
theorem Gi   {Q:α->Prop}(e:o=aa a)(h:Q a):Gt o Q:=by rw[e];exact h
theorem je    {b:β}{Q:α->β->Prop}(e:o=aa a)(f:p a=aa b)(h:Q a b):Gt o λa=>Gt (p a) λb=>Q a b:=Gi e (Gi f h)
theorem HY    {b:β}{c:γ}{Q:α->β->γ->Prop}(e:o=aa a)(f:p a=aa b)(g:q a b=aa c)(h:Q a b c):Gt o λa=>Gt (p a) λb=>Gt (q a b) λc=>Q a b c:=Gi e (Gi f (Gi g h))
theorem Gi4    {b:β}{c:γ}{d:δ}{Q:α->β->γ->δ->Prop}(e:o=aa a)(f:p a=aa b)(g:q a b=aa c)(k:r a b c=aa d)(h:Q a b c d):Gt o λa=>Gt (p a) λb=>Gt (q a b) λc=>Gt (r a b c) λd=>Q a b c d:=Gi e (Gi f (Gi g (Gi k h)))
theorem QE {ε:Type}{b:β}{c:γ}{d:δ}{s:α->β->γ->δ->Option ε}{x:ε}{Q:α->β->γ->δ->ε->Prop}(e:o=aa a)(f:p a=aa b)(g:q a b=aa c)(k:r a b c=aa d)(l:s a b c d=aa x)(h:Q a b c d x):Gt o λa=>Gt (p a) λb=>Gt (q a b) λc=>Gt (r a b c) λd=>Gt (s a b c d) λe=>Q a b c d e:=Gi e (Gi f (Gi g (Gi k (Gi l h))))
theorem Gw   {Q:α->bp->Prop}(h:Gt o λa=>Q a σ):Wp (R.get o σ) Q E:=by induction o<;>exact h
theorem Gt.imp  {Q Q':α->Prop}(h:Gt o Q)(q:∀a,Q a->Q' a):Gt o Q':=by induction o with
 |none=>exact h
 |some a=>exact q a h
def Tw (x:V)(A B:Prop):Prop:=match x with
 |.bool b=>if b=af then A else B
 |_=>False
theorem Tb (b:Bool)(A B:Prop):Tw (.bool b) A B=if b=af then A else B:=rfl
def Ls (σ:bp)(x:V)(Q:Nat->List V->Prop):Prop:=match x with
 |.loc n=>Gt σ[n]? λo=>match o with
  |.list l=>Q n l
  |_=>False
 |_=>False
def aI (x:V)(Q:Int->Prop):Prop:=match x with
 |.int i=>Q i
 |_=>False
def aB (x:V)(Q:Bool->Prop):Prop:=match x with
 |.bool i=>Q i
 |_=>False
def aT (x:V)(Q:List V->Prop):Prop:=match x with
 |.tup i=>Q i
 |_=>False
def aL (x:V)(Q:List V->Prop):Prop:=match x with
 |.lst i=>Q i
 |_=>False
def aS (x:V)(Q:Str->Prop):Prop:=match x with
 |.str i=>Q i
 |_=>False
def cn (m:Bool)(l:List V)(σ:bp)(Q:V->bp->Prop):Prop:=l.length<lim/\(match m with
 |true=>Q (.loc σ.length) (σ++[.list l])
 |false=>Q (.lst l) σ)
theorem qB     (h:cn m l σ Q):Wp (gP m l σ) Q E:=by unfold gP;rw[if_pos h.1];induction m<;>exact h.2
def acV (σ:bp)(m:Bool)(a b:V)(Q:V->bp->Prop):Prop:=match a with
 |.int x=>aI b λy=>Q (.int (x+y)) σ
 |.tup x=>aT b λy=>x.length+y.length<lim/\Q (.tup (x++y)) σ
 |.lst x=>aL b λy=>cn m (x++y) σ Q
 |.loc n=>aL b λy=>Ls σ (.loc n) λU x=>cn m (x++y) σ Q
 |.str x=>aS b λy=>x.cps.size+y.cps.size<lim/\Q (.str ⟨x.cps++y.cps⟩) σ
 |_=>False
def acS (σ:bp)(m:Bool)(a b:V)(Q:V->bp->Prop):Prop:=match a with
 |.int x=>aI b λy=>(big x&&big y)=af/\Q (.int (x*y)) σ
 |.tup x=>aI b λy=>(y.toNat*x.length<lim/\0<=y/\y<1000)/\Q (.tup (mV x y.toNat)) σ
 |.lst x=>aI b λy=>(y.toNat*x.length<lim/\0<=y/\y<1000)/\cn m (mV x y.toNat) σ Q
 |_=>False
def cb (σ:bp)(o:Ng)(m:Bool)(a b:V)(Q:V->bp->Prop):Prop:=match o with
 |.add=>acV σ m a b Q
 |.sub=>aI a λx=>aI b λy=>Q (.int (x-y)) σ
 |.mul=>acS σ m a b Q
 |.fdiv=>aI a λx=>aI b λy=>(0<y/\y<1000000)/\Q (.int (x/y)) σ
 |.mod=>aI a λx=>aI b λy=>0<y/\Q (.int (x%y)) σ
 |.pow _=>(a=.int 10/\b=.int 9)/\Q (.int 1000000000) σ
theorem tD {c:Prop}[Decidable c]{r:R α}{Q:α->bp->Prop}(h:c/\Wp r Q E):Wp (if c then r else .bad) Q E:=by rw[if_pos h.1];exact h.2
theorem aag {o:Ng}{a b:V}(h:cb σ o m a b Q):Wp (Pj σ o m a b) Q E:=by
 induction o with
 |add =>
  induction a using V.casesOn with
  |int x=>induction b using V.casesOn<;>first|exact h|exact(show False from h).elim
  |str x=>induction b using V.casesOn<;>first|exact tD (show _/\_ from h)|exact(show False from h).elim
  |tup x=>induction b using V.casesOn<;>first|exact tD (show _/\_ from h)|exact(show False from h).elim
  |lst x=>induction b using V.casesOn<;>first|exact(show False from h).elim|exact qB (l:=x++_) h
  |loc n=>induction b using V.casesOn with
   |lst y =>
    have h:Gt σ[n]? _:=h;have q:∀l,σ[n]?=aa (.list l)->Ah σ (.loc n)=aa l:=λl e=>by show(match σ[n]? with|some (.list l)=>aa l|_=>ae)=_;rw[e]
    refine(?_:Wp (Pd σ m (Ah σ (.loc n)) (aa y)) Q E);induction e:σ[n]? with
    |none=>rw[e]at h;exact(show False from h).elim
    |some o =>
     rw[e]at h;induction o with
     |list l=>rw[q l e];exact qB h
     |_=>exact(show False from h).elim
   |_=>exact(show False from h).elim
  |_=>exact(show False from h).elim
 |sub=>induction a using V.casesOn<;>first|exact(show False from h).elim|(induction b using V.casesOn<;>first|exact h|exact(show False from h).elim)
 |mul =>
  induction a using V.casesOn with
  |int x=>induction b using V.casesOn<;>first|exact tD (show _/\_ from h)|exact(show False from h).elim
  |tup x=>induction b using V.casesOn<;>first|exact tD (show _/\_ from h)|exact(show False from h).elim
  |lst x=>induction b using V.casesOn<;>first|exact tD ⟨h.1,qB h.2⟩|exact(show False from h).elim
  |_=>exact(show False from h).elim
 |fdiv=>induction a using V.casesOn<;>first|exact(show False from h).elim|(induction b using V.casesOn<;>first|exact tD (show _/\_ from h)|exact(show False from h).elim)
 |mod=>induction a using V.casesOn<;>first|exact(show False from h).elim|(induction b using V.casesOn<;>first|exact tD (show _/\_ from h)|exact(show False from h).elim)
 |pow=>obtain⟨⟨rfl,rfl⟩,h⟩:=h;exact tD (c:=(10:Int)=10/\(9:Int)=9) (r:=R.ok (V.int 1000000000) σ) ⟨⟨rfl,rfl⟩,h⟩
def CH (up:Bool)(σ:bp)(a i:V)(Q:V->bp->Prop):Prop:=aI i λi=>match a with
 |.tup l=>(0<=i/\i.toNat<=l.length/\l.length<lim)/\Q (.tup (if up then l.take i.toNat else l.drop i.toNat)) σ
 |.lst l=>(0<=i/\big i=af/\l.length<lim)/\cn ag (if up then l.take i.toNat else l.drop i.toNat) σ Q
 |.loc n=>Ls σ (.loc n) λU l=>(0<=i/\big i=af/\l.length<lim)/\cn ag (if up then l.take i.toNat else l.drop i.toNat) σ Q
 |_=>False
theorem lsL   (e:σ[n]?=aa (.list l)):Ah σ (.loc n)=aa l:=by refine(?_:(match σ[n]? with|some (.list l)=>aa l|_=>ae)=_);rw[e]
theorem E8 {up:Bool}{a i:V}(h:CH up σ a i Q):Wp (slc up σ a i) Q E:=by
 induction i using V.casesOn with
 |int i =>
  induction a using V.casesOn with
  |tup l=>exact tD (show _/\_ from h)
  |lst l=>exact tD ⟨h.1,qB h.2⟩
  |loc n =>
   have h:Gt σ[n]? _:=h;refine(?_:Wp (IV up σ i (Ah σ (.loc n))) Q E);induction e:σ[n]? with
   |none=>rw[e]at h;exact(show False from h).elim
   |some o =>
    rw[e]at h;induction o with
    |list l=>rw[lsL e];exact tD ⟨h.1,qB h.2⟩
    |_=>exact(show False from h).elim
  |_=>exact(show False from h).elim
 |_=>exact(show False from h).elim
theorem NZ {a i:V}(h:CH ag σ a i Q):Wp (xJ σ a i) Q E:=E8 h
theorem N4 {a i:V}(h:CH af σ a i Q):Wp (vz σ a i) Q E:=E8 h
section
variable (G:List V)(Φ:Nat->List V->bp->R V)(vs:Vs)(E:bp->Prop)
mutual
def we:X->List V->bp->(V->bp->Prop)->Prop
 |.k c,_,σ,Q=>Q c σ
 |.v i,_,σ,Q=>Gt vs[i]? λo=>Gt o λx=>Q x σ
 |.c i,cs,σ,Q=>Gt cs[i]? λx=>Q x σ
 |.g i,_,σ,Q=>Gt G[i]? λx=>Q x σ
 |.tup l,cs,σ,Q=>xo l cs σ λxs σ=>xs.length<lim/\Q (.tup xs) σ
 |.lst m l,cs,σ,Q=>xo l cs σ λxs σ=>cn m xs σ Q
 |.bin o m a b,cs,σ,Q=>we a cs σ λx σ=>we b cs σ λy σ=>cb σ o m x y Q
 |.neg a,cs,σ,Q=>we a cs σ λx σ=>aI x λi=>Q (.int (-i)) σ
 |.cmp a o l,cs,σ,Q=>we a cs σ λx σ=>Nm x o l cs σ Q
 |.and l,cs,σ,Q=>Ew af l cs σ Q
 |.or l,cs,σ,Q=>Ew ag l cs σ Q
 |.not a,cs,σ,Q=>we a cs σ λx σ=>aB x λb=>Q (.bool !b) σ
 |.ite c a b,cs,σ,Q=>we c cs σ λx σ=>Tw x (we a cs σ Q) (we b cs σ Q)
 |.sub a i,cs,σ,Q=>we a cs σ λx σ=>we i cs σ λy σ=>Gt (hK σ x y) λz=>Q z σ
 |.xJ a i,cs,σ,Q=>we a cs σ λx σ=>we i cs σ λy σ=>CH ag σ x y Q
 |.vz a i,cs,σ,Q=>we a cs σ λx σ=>we i cs σ λy σ=>CH af σ x y Q
 |.dm a f,cs,σ,Q=>we a cs σ λx σ=>Gt (yd σ x f) λz=>Q z σ
 |.call f l,cs,σ,Q=>xo l cs σ λxs σ=>Wp (Φ f xs σ) Q E
 |.len a,cs,σ,Q=>we a cs σ λx σ=>Gt (items σ x) λl=>l.length<lim/\Q (.int l.length) σ
 |.abs a,cs,σ,Q=>we a cs σ λx σ=>aI x λi=>Q (.int i.natAbs) σ
 |.k6 a,cs,σ,Q=>we a cs σ λx σ=>Gt (nj x) λz=>Q z σ
 |.tolist a,cs,σ,Q=>we a cs σ λx σ=>aT x λl=>cn af l σ Q
 |.Ak t a,cs,σ,Q=>we a cs σ λx σ=>Gt (Ba t x) λb=>Q (.bool b) σ
 |.app o a,cs,σ,Q=>we o cs σ λx σ=>uM σ x=af/\we a cs σ λy σ=>Ls σ x λn l=>l.length<lim/\Q .none (σ.set n (.list (l++[y])))
 |.pop o,cs,σ,Q=>we o cs σ λx σ=>Ls σ x λn l=>Gt l.getLast? λy=>l.length<lim/\Q y (σ.set n (.list l.dropLast))
 |.um o i,cs,σ,Q=>we o cs σ λx σ=>uM σ x=af/\we i cs σ λy σ=>aI y λi=>Ls σ x λn l=>Gt l[i.toNat]? λy=>(l.length<lim/\0<=i)/\Q y (σ.set n (.list (l.eraseIdx i.toNat)))
 |.ext o a,cs,σ,Q=>we o cs σ λx σ=>uM σ x=af/\we a cs σ λy σ=>aL y λr=>Ls σ x λn l=>l.length+r.length<lim/\Q .none (σ.set n (.list (l++r)))
 |.index o a,cs,σ,Q=>we o cs σ λx σ=>aL x λl=>we a cs σ λy σ=>aS y λq=>Gt (findS q l) λo=>Gt o λj=>l.length<lim/\Q (.int j) σ
 |.split o sep,cs,σ,Q=>we o cs σ λx σ=>Gt (jr x sep) λl=>cn ag l σ Q
 |.nz l,cs,σ,Q=>xo l cs σ λxs σ=>Q (.tup xs) σ
 |.pA a,cs,σ,Q=>we a cs σ Q
 |x,cs,σ,Q=>Wp (ev G Φ vs x cs σ) Q E
def xo:List X->List V->bp->(List V->bp->Prop)->Prop
 |[],_,σ,Q=>Q [] σ
 |x::l,cs,σ,Q=>we x cs σ λv σ=>xo l cs σ λr σ=>Q (v::r) σ
def Nm:V->List Cm->List X->List V->bp->(V->bp->Prop)->Prop
 |_,_,[],_,_,_=>False
 |_,[],_::_,_,_,_=>False
 |x,o::os,b::l,cs,σ,Q=>we b cs σ λy σ=>Gt (fc σ o x y) λr=>match os with
  |[]=>(match l with
   |[]=>Q (.bool r) σ
   |_::_=>False)
  |_::_=>if r=af then Nm y os l cs σ Q else Q (.bool ag) σ
def Ew:Bool->List X->List V->bp->(V->bp->Prop)->Prop
 |w,[],_,σ,Q=>Q (.bool w) σ
 |w,x::l,cs,σ,Q=>we x cs σ λv σ=>aB v λb=>if b=w then Ew w l cs σ Q else Q (.bool b) σ
end
section
variable (cs:List V)(σ:bp)
theorem cW (c:V)(Q:V->bp->Prop):we G Φ vs E (.k c) cs σ Q=(Q c σ):=rfl
theorem cq (i:Nat)(Q:V->bp->Prop):we G Φ vs E (.v i) cs σ Q=(Gt vs[i]? λo=>Gt o λx=>Q x σ):=rfl
theorem It (i:Nat)(Q:V->bp->Prop):we G Φ vs E (.c i) cs σ Q=(Gt cs[i]? λx=>Q x σ):=rfl
theorem sH (i:Nat)(Q:V->bp->Prop):we G Φ vs E (.g i) cs σ Q=(Gt G[i]? λx=>Q x σ):=rfl
theorem dX (l:List X)(Q:V->bp->Prop):we G Φ vs E (.tup l) cs σ Q=(xo G Φ vs E l cs σ λxs σ=>xs.length<lim/\Q (.tup xs) σ):=rfl
theorem eH (m:Bool)(l:List X)(Q:V->bp->Prop):we G Φ vs E (.lst m l) cs σ Q=(xo G Φ vs E l cs σ λxs σ=>cn m xs σ Q):=rfl
theorem eP (o:Ng)(m:Bool)(a b:X)(Q:V->bp->Prop):we G Φ vs E (.bin o m a b) cs σ Q=(we G Φ vs E a cs σ λx σ=>we G Φ vs E b cs σ λy σ=>cb σ o m x y Q):=rfl
theorem AA (a:X)(Q:V->bp->Prop):we G Φ vs E (.neg a) cs σ Q=(we G Φ vs E a cs σ λx σ=>aI x λi=>Q (.int (-i)) σ):=rfl
theorem cj (a:X)(o:List Cm)(l:List X)(Q:V->bp->Prop):we G Φ vs E (.cmp a o l) cs σ Q=(we G Φ vs E a cs σ λx σ=>Nm G Φ vs E x o l cs σ Q):=rfl
theorem ij (l:List X)(Q:V->bp->Prop):we G Φ vs E (.and l) cs σ Q=(Ew G Φ vs E af l cs σ Q):=rfl
theorem mC (l:List X)(Q:V->bp->Prop):we G Φ vs E (.or l) cs σ Q=(Ew G Φ vs E ag l cs σ Q):=rfl
theorem i8 (a:X)(Q:V->bp->Prop):we G Φ vs E (.not a) cs σ Q=(we G Φ vs E a cs σ λx σ=>aB x λb=>Q (.bool !b) σ):=rfl
theorem i9 (c a b:X)(Q:V->bp->Prop):we G Φ vs E (.ite c a b) cs σ Q=(we G Φ vs E c cs σ λx σ=>Tw x (we G Φ vs E a cs σ Q) (we G Φ vs E b cs σ Q)):=rfl
theorem cA (a i:X)(Q:V->bp->Prop):we G Φ vs E (.sub a i) cs σ Q=(we G Φ vs E a cs σ λx σ=>we G Φ vs E i cs σ λy σ=>Gt (hK σ x y) λz=>Q z σ):=rfl
theorem tP (a i:X)(Q:V->bp->Prop):we G Φ vs E (.xJ a i) cs σ Q=(we G Φ vs E a cs σ λx σ=>we G Φ vs E i cs σ λy σ=>CH ag σ x y Q):=rfl
theorem tQ (a i:X)(Q:V->bp->Prop):we G Φ vs E (.vz a i) cs σ Q=(we G Φ vs E a cs σ λx σ=>we G Φ vs E i cs σ λy σ=>CH af σ x y Q):=rfl
theorem dR (a:X)(f:Nat)(Q:V->bp->Prop):we G Φ vs E (.dm a f) cs σ Q=(we G Φ vs E a cs σ λx σ=>Gt (yd σ x f) λz=>Q z σ):=rfl
theorem dy (f:Nat)(l:List X)(Q:V->bp->Prop):we G Φ vs E (.call f l) cs σ Q=(xo G Φ vs E l cs σ λxs σ=>Wp (Φ f xs σ) Q E):=rfl
theorem eO (a:X)(Q:V->bp->Prop):we G Φ vs E (.len a) cs σ Q=(we G Φ vs E a cs σ λx σ=>Gt (items σ x) λl=>l.length<lim/\Q (.int l.length) σ):=rfl
theorem aaH (a:X)(Q:V->bp->Prop):we G Φ vs E (.abs a) cs σ Q=(we G Φ vs E a cs σ λx σ=>aI x λi=>Q (.int i.natAbs) σ):=rfl
theorem yG (a:X)(Q:V->bp->Prop):we G Φ vs E (.k6 a) cs σ Q=(we G Φ vs E a cs σ λx σ=>Gt (nj x) λz=>Q z σ):=rfl
theorem C7 (a:X)(Q:V->bp->Prop):we G Φ vs E (.tolist a) cs σ Q=(we G Φ vs E a cs σ λx σ=>aT x λl=>cn af l σ Q):=rfl
theorem xt (t:Nat)(a:X)(Q:V->bp->Prop):we G Φ vs E (.Ak t a) cs σ Q=(we G Φ vs E a cs σ λx σ=>Gt (Ba t x) λb=>Q (.bool b) σ):=rfl
theorem md (o a:X)(Q:V->bp->Prop):we G Φ vs E (.app o a) cs σ Q=(we G Φ vs E o cs σ λx σ=>uM σ x=af/\we G Φ vs E a cs σ λy σ=>Ls σ x λn l=>l.length<lim/\Q .none (σ.set n (.list (l++[y])))):=rfl
theorem Ey (o:X)(Q:V->bp->Prop):we G Φ vs E (.pop o) cs σ Q=(we G Φ vs E o cs σ λx σ=>Ls σ x λn l=>Gt l.getLast? λy=>l.length<lim/\Q y (σ.set n (.list l.dropLast))):=rfl
theorem xr (o i:X)(Q:V->bp->Prop):we G Φ vs E (.um o i) cs σ Q=(we G Φ vs E o cs σ λx σ=>uM σ x=af/\we G Φ vs E i cs σ λy σ=>aI y λi=>Ls σ x λn l=>Gt l[i.toNat]? λy=>(l.length<lim/\0<=i)/\Q y (σ.set n (.list (l.eraseIdx i.toNat)))):=rfl
theorem EA (o a:X)(Q:V->bp->Prop):we G Φ vs E (.ext o a) cs σ Q=(we G Φ vs E o cs σ λx σ=>uM σ x=af/\we G Φ vs E a cs σ λy σ=>aL y λr=>Ls σ x λn l=>l.length+r.length<lim/\Q .none (σ.set n (.list (l++r)))):=rfl
theorem Ez (o a:X)(Q:V->bp->Prop):we G Φ vs E (.index o a) cs σ Q=(we G Φ vs E o cs σ λx σ=>aL x λl=>we G Φ vs E a cs σ λy σ=>aS y λq=>Gt (findS q l) λo=>Gt o λj=>l.length<lim/\Q (.int j) σ):=rfl
theorem Ex (o:X)(sep:Str)(Q:V->bp->Prop):we G Φ vs E (.split o sep) cs σ Q=(we G Φ vs E o cs σ λx σ=>Gt (jr x sep) λl=>cn ag l σ Q):=rfl
theorem xq (l:List X)(Q:V->bp->Prop):we G Φ vs E (.nz l) cs σ Q=(xo G Φ vs E l cs σ λxs σ=>Q (.tup xs) σ):=rfl
theorem Nn (a:X)(Q:V->bp->Prop):we G Φ vs E (.pA a) cs σ Q=(we G Φ vs E a cs σ Q):=rfl
theorem dT (Q:List V->bp->Prop):xo G Φ vs E [] cs σ Q=Q [] σ:=rfl
theorem ew (x:X)(l:List X)(Q:List V->bp->Prop):xo G Φ vs E (x::l) cs σ Q=(we G Φ vs E x cs σ λv σ=>xo G Φ vs E l cs σ λr σ=>Q (v::r) σ):=rfl
theorem eT (x:V)(o:Cm)(b:X)(Q:V->bp->Prop):Nm G Φ vs E x [o] [b] cs σ Q=(we G Φ vs E b cs σ λy σ=>Gt (fc σ o x y) λr=>Q (.bool r) σ):=rfl
theorem yF (x:V)(o o':Cm)(os:List Cm)(b:X)(l:List X)(Q:V->bp->Prop):Nm G Φ vs E x (o::o'::os) (b::l) cs σ Q=(we G Φ vs E b cs σ λy σ=>Gt (fc σ o x y) λr=>if r=af then Nm G Φ vs E y (o'::os) l cs σ Q else Q (.bool ag) σ):=rfl
theorem jE (w:Bool)(Q:V->bp->Prop):Ew G Φ vs E w [] cs σ Q=Q (.bool w) σ:=rfl
theorem jD (w:Bool)(x:X)(l:List X)(Q:V->bp->Prop):Ew G Φ vs E w (x::l) cs σ Q=(we G Φ vs E x cs σ λv σ=>aB v λb=>if b=w then Ew G Φ vs E w l cs σ Q else Q (.bool b) σ):=rfl
end
theorem PO {x y:V}{σ:bp}{Q:V->bp->Prop}(h:Ls σ x λn l=>l.length<lim/\Q .none (σ.set n (.list (l++[y])))) :
  Wp (match x with
  |.loc n=>match σ[n]? with
   |some (.list l)=>if l.length<lim then .ok .none (σ.set n (.list (l++[y])))else .bad
   |_=>.bad
  |_=>.bad) Q E:=by
 induction x using V.casesOn with
 |loc n =>
  have h:Gt σ[n]? _:=h;dsimp only;induction e:σ[n]? with
  |none=>rw[e]at h;exact h
  |some o =>
   rw[e]at h;induction o with
   |list l=>exact tD h
   |_=>exact h
 |_=>exact h
theorem Ls.elim {x:V}{Q:Nat->List V->Prop}(h:Ls σ x Q):∃n l,x=.loc n/\σ[n]?=aa (.list l)/\Q n l:=by
 induction x using V.casesOn with
 |loc n =>
  have h:Gt σ[n]? _:=h;induction e:σ[n]? with
  |none=>rw[e]at h;exact h.elim
  |some o =>
   rw[e]at h;induction o with
   |list l=>exact⟨n,l,rfl,e,h⟩
   |_=>exact(show False from h).elim
 |_=>exact(show False from h).elim
mutual
theorem cz:∀(x:X) (cs:List V) (σ:bp) (Q:V->bp->Prop),we G Φ vs E x cs σ Q->Wp (ev G Φ vs x cs σ) Q E
 |.k c,cs,σ,Q,h=>h
 |.v i,cs,σ,Q,h=>by
  have h:Gt vs[i]? _:=h;refine(?_:Wp (match vs[i]? with|some (aa x)=>.ok x σ|_=>.bad) Q E);induction e:vs[i]? with
  |none=>rw[e]at h;exact h
  |some o=>rw[e]at h;induction o<;>exact h
 |.c i,cs,σ,Q,h=>Gw (Q:=Q) h
 |.g i,cs,σ,Q,h=>Gw (Q:=Q) h
 |.tup l,cs,σ,Q,h=>Wp.bind ((lu l cs σ _ h).imp λxs σ h=>tD h)
 |.lst m l,cs,σ,Q,h=>Wp.bind ((lu l cs σ _ h).imp λxs σ h=>qB h)
 |.bin o m a b,cs,σ,Q,h=>Wp.bind ((cz a cs σ _ h).imp λx σ h=>Wp.bind ((cz b cs σ _ h).imp λy σ h=>aag h))
 |.neg a,cs,σ,Q,h=>Wp.bind ((cz a cs σ _ h).imp λx σ h=>by induction x using V.casesOn<;>exact h)
 |.cmp a o l,cs,σ,Q,h=>Wp.bind ((cz a cs σ _ h).imp λx σ h=>Eu x o l cs σ _ h)
 |.and l,cs,σ,Q,h=>xp af l cs σ _ h
 |.or l,cs,σ,Q,h=>xp ag l cs σ _ h
 |.not a,cs,σ,Q,h=>Wp.bind ((cz a cs σ _ h).imp λx σ h=>by induction x using V.casesOn<;>exact h)
 |.ite c a b,cs,σ,Q,h=>Wp.bind ((cz c cs σ _ h).imp λx σ h=>by
  induction x using V.casesOn with
  |bool v=>induction v;exact cz b cs σ _ h;exact cz a cs σ _ h
  |_=>exact h)
 |.sub a i,cs,σ,Q,h=>Wp.bind ((cz a cs σ _ h).imp λx σ h=>Wp.bind ((cz i cs σ _ h).imp λy σ h=>Gw (Q:=Q) h))
 |.xJ a i,cs,σ,Q,h=>Wp.bind ((cz a cs σ _ h).imp λx σ h=>Wp.bind ((cz i cs σ _ h).imp λy σ h=>NZ h))
 |.vz a i,cs,σ,Q,h=>Wp.bind ((cz a cs σ _ h).imp λx σ h=>Wp.bind ((cz i cs σ _ h).imp λy σ h=>N4 h))
 |.dm a f,cs,σ,Q,h=>Wp.bind ((cz a cs σ _ h).imp λx σ h=>Gw (Q:=Q) h)
 |.call f l,cs,σ,Q,h=>Wp.bind (lu l cs σ _ h)
 |.len a,cs,σ,Q,h=>Wp.bind ((cz a cs σ _ h).imp λx σ h=>by
  induction e:items σ x with
  |none=>rw[e]at h;exact h
  |some l=>rw[e]at h;exact tD h)
 |.abs a,cs,σ,Q,h=>Wp.bind ((cz a cs σ _ h).imp λx σ h=>by induction x using V.casesOn<;>exact h)
 |.k6 a,cs,σ,Q,h=>Wp.bind ((cz a cs σ _ h).imp λx σ h=>Gw (Q:=Q) h)
 |.tolist a,cs,σ,Q,h=>Wp.bind ((cz a cs σ _ h).imp λx σ h=>by
  induction x using V.casesOn with
  |tup l=>exact qB h
  |_=>exact h)
 |.Ak t a,cs,σ,Q,h=>Wp.bind ((cz a cs σ _ h).imp λx σ h=>by
  induction e:Ba t x with
  |none=>rw[e]at h;exact h
  |some l=>rw[e]at h;exact h)
 |.app o a,cs,σ,Q,h=>Wp.bind ((cz o cs σ _ h).imp λx σ h=>tD ⟨h.1,Wp.bind ((cz a cs σ _ h.2).imp λy σ h=>PO E h)⟩)
 |.pop o,cs,σ,Q,h=>Wp.bind ((cz o cs σ _ h).imp λx σ h=>by
  obtain⟨n,l,rfl,e,h⟩:=h.elim;dsimp only;rw[e];dsimp only;induction e2:l.getLast? with
  |none=>rw[e2]at h;exact h
  |some y=>rw[e2]at h;exact tD h)
 |.um o i,cs,σ,Q,h=>Wp.bind ((cz o cs σ _ h).imp λx σ h=>tD ⟨h.1,Wp.bind ((cz i cs σ _ h.2).imp λy σ h=>by
  induction y using V.casesOn with
  |int i =>
   obtain⟨n,l,rfl,e,h⟩:=Ls.elim h;dsimp only;rw[e];dsimp only;induction e2:l[i.toNat]? with
   |none=>rw[e2]at h;exact h
   |some y=>rw[e2]at h;exact tD h
  |_=>exact(show False from h).elim)⟩)
 |.ext o a,cs,σ,Q,h=>Wp.bind ((cz o cs σ _ h).imp λx σ h=>tD ⟨h.1,Wp.bind ((cz a cs σ _ h.2).imp λy σ h=>by
  induction y using V.casesOn with
  |lst r =>obtain⟨n,l,rfl,e,h⟩:=Ls.elim h;dsimp only;rw[e];exact tD h
  |_=>exact(show False from h).elim)⟩)
 |.index o a,cs,σ,Q,h=>Wp.bind ((cz o cs σ _ h).imp λx σ h=>by
  induction x using V.casesOn with
  |lst l =>
   refine tD ⟨rfl,Wp.bind ((cz a cs σ _ h).imp λy σ h=>?_)⟩;induction y using V.casesOn with
   |str q =>
    dsimp only;induction e:findS q l with
    |none=>rw[show aS (.str q) _=Gt (findS q l) _ from rfl,e]at h;exact h
    |some o =>
     rw[show aS (.str q) _=Gt (findS q l) _ from rfl,e]at h;induction o with
     |none=>exact h
     |some j=>exact tD h
   |_=>exact(show False from h).elim
  |_=>exact(show False from h).elim)
 |.split o sep,cs,σ,Q,h=>Wp.bind ((cz o cs σ _ h).imp λx σ h=>by
  induction e:jr x sep with
  |none=>rw[e]at h;exact h
  |some l=>rw[e]at h;exact qB h)
 |.nz l,cs,σ,Q,h=>Wp.bind (lu l cs σ _ h)
 |.pA a,cs,σ,Q,h=>cz a cs σ _ h
 |.zW _ _,cs,σ,Q,h|.sT _ _,cs,σ,Q,h|.zV _ _,cs,σ,Q,h|.mk _,cs,σ,Q,h|.comp _ _ _ _,cs,σ,Q,h=>h
theorem lu:∀(l:List X) (cs:List V) (σ:bp) (Q:List V->bp->Prop),xo G Φ vs E l cs σ Q->Wp (CF G Φ vs l cs σ) Q E
 |[]=>λcs σ Q h=>h
 |x::l=>λcs σ Q h=>Wp.bind ((cz x cs σ _ h).imp λv σ h=>Wp.bind ((lu l cs σ _ h).imp λr σ h=>h))
theorem Eu:∀(x:V) (os:List Cm) (l:List X) (cs:List V) (σ:bp) (Q:V->bp->Prop),Nm G Φ vs E x os l cs σ Q->Wp (Ic G Φ vs x os l cs σ) Q E
 |x,os,[]=>λcs σ Q h=>by induction os using List.casesOn<;>exact(show False from h).elim
 |x,[],b::l=>λcs σ Q h=>(show False from h).elim
 |x,[o],b::l=>λcs σ Q h=>by
  have h:we G Φ vs E b cs σ _:=h;induction l with
  |nil =>
   exact Wp.bind ((cz b cs σ _ h).imp λy σ h=>by
    induction e:fc σ o x y with
    |none=>rw[e]at h;exact h
    |some r=>rw[e]at h;exact h)
  |cons c l =>
   exact Wp.bind ((cz b cs σ _ h).imp λy σ h=>by
    induction e:fc σ o x y with
    |none=>rw[e]at h;exact h
    |some r=>rw[e]at h;exact(show False from h).elim)
 |x,o::o'::os,b::l=>λcs σ Q h=>by
  have h:we G Φ vs E b cs σ _:=h;have key:Wp ((ev G Φ vs b cs σ).bind λy σ=>match fc σ o x y with
   |some af=>Ic G Φ vs y (o'::os) l cs σ
   |some ag=>.ok (.bool ag) σ
   |none=>.bad) Q E:=Wp.bind ((cz b cs σ _ h).imp λy σ h=>by
    induction e:fc σ o x y with
    |none=>rw[e]at h;exact h
    |some r =>
     rw[e]at h;induction r
     .exact h
     .exact Eu y (o'::os) l cs σ _ h)
  exact key
theorem xp:∀(w:Bool) (l:List X) (cs:List V) (σ:bp) (Q:V->bp->Prop),Ew G Φ vs E w l cs σ Q->Wp (qT G Φ vs w l cs σ) Q E
 |w,[]=>λcs σ Q h=>h
 |w,x::l=>λcs σ Q h=>Wp.bind ((cz x cs σ _ h).imp λv σ h=>by
  induction v using V.casesOn with
  |bool b =>
   dsimp only;have h:if b=w then Ew G Φ vs E w l cs σ Q else Q (.bool b) σ:=h
   split at h
   .rename_i e;rw[if_pos e];exact xp w l cs σ _ h
   .rename_i e;rw[if_neg e];exact h
  |_=>exact h)
end
end
section
variable (G:List V)(Φ:Nat->List V->bp->R V)(W:Nat)(E:bp->Prop)
def P5 (t:TA)(x:V)(vs:Vs)(σ:bp)(Q:Vs->bp->Prop):Prop:=match t with
 |.n i=>Q (vs.set i (aa x)) σ
 |.dm o f=>we G Φ vs E o [] σ λa σ=>Gt (kz σ a f x) λσ=>Q vs σ
 |.sub o i=>we G Φ vs E o [] σ λa σ=>we G Φ vs E i [] σ λj σ=>Gt (o6 σ a j x) λσ=>Q vs σ
def Ax:List TA->List V->Vs->bp->(Vs->bp->Prop)->Prop
 |[],[],vs,σ,Q=>Q vs σ
 |t::ts,x::xs,vs,σ,Q=>P5 G Φ E t x vs σ λvs σ=>Ax ts xs vs σ Q
 |_,_,_,_,_=>False
theorem Nk {t:TA}{x:V}{Q:Vs->bp->Prop}(h:P5 G Φ E t x vs σ Q):Wp (zt G Φ t x vs σ) Q E:=by
 induction t with
 |n i=>exact h
 |dm o f =>
  refine Wp.bind ((cz G Φ vs E o [] σ _ h).imp λa σ h=>?_);induction e:kz σ a f x with
  |none=>rw[e]at h;exact h
  |some r=>rw[e]at h;exact h
 |sub o i =>
  refine Wp.bind ((cz G Φ vs E o [] σ _ h).imp λa σ h=>Wp.bind ((cz G Φ vs E i [] σ _ h).imp λj σ h=>?_));induction e:o6 σ a j x with
  |none=>rw[e]at h;exact h
  |some r=>rw[e]at h;exact h
theorem BJ:∀(ts:List TA) (xs:List V) (vs:Vs) (σ:bp) (Q:Vs->bp->Prop),Ax G Φ E ts xs vs σ Q->Wp (nA G Φ ts xs vs σ) Q E
 |[],[]=>λvs σ Q h=>h
 |t::ts,x::xs=>λvs σ Q h=>Wp.bind ((Nk G Φ E h).imp λvs σ h=>BJ ts xs vs σ Q h)
 |[],_::_=>λU U U h=>(h:False).elim
 |_::_,[]=>λU U U h=>(h:False).elim
def tK (A:Vs->bp->Prop)(K:V->Vs->bp->Prop)(q:Fl×Vs)(σ:bp):Prop:=match q.1 with
 |.nx=>A q.2 σ
 |.rt v=>K v q.2 σ
def wit (t:Tg)(b:Vs->bp->RS)(k:IK)(vs:Vs)(σ:bp)(Q:Fl×Vs->bp->Prop):Prop:=match k with
 |.items l=>Wp (ja t b l vs σ) Q E
 |.live n en=>Wp (qk t en b n W 0 vs σ) Q E
mutual
def wx:S->Vs->bp->(Vs->bp->Prop)->(V->Vs->bp->Prop)->Prop
 |.expr e,vs,σ,A,_=>we G Φ vs E e [] σ λU σ=>A vs σ
 |.asg i e,vs,σ,A,_=>we G Φ vs E e [] σ λx σ=>A (vs.set i (aa x)) σ
 |.fW ts e,vs,σ,A,_=>we G Φ vs E e [] σ λx σ=>aT x λl=>l.length=ts.length/\Ax G Φ E ts l vs σ A
 |.fh o f e,vs,σ,A,_=>we G Φ vs E e [] σ λx σ=>we G Φ vs E o [] σ λa σ=>Gt (kz σ a f x) λσ=>A vs σ
 |.eX o i e,vs,σ,A,_=>we G Φ vs E e [] σ λx σ=>we G Φ vs E o [] σ λa σ=>we G Φ vs E i [] σ λj σ=>Gt (o6 σ a j x) λσ=>A vs σ
 |.ite c a b,vs,σ,A,K=>we G Φ vs E c [] σ λx σ=>Tw x (iP a vs σ A K) (iP b vs σ A K)
 |.vG c b,vs,σ,A,K=>Wp (oM (λvs σ=>ev G Φ vs c [] σ) (λvs σ=>l5 G Φ W b vs σ) W vs σ) (tK A K) E
 |.jv t it b,vs,σ,A,K=>we G Φ vs E it [] σ λx σ=>Wp (jJ it x σ) (λk σ=>wit W E t (λvs σ=>l5 G Φ W b vs σ) k vs σ (tK A K)) E
 |.ret e,vs,σ,_,K=>we G Φ vs E e [] σ λx σ=>K x vs σ
 |.raise a b,vs,σ,_,_=>we G Φ vs E a [] σ λU σ=>we G Φ vs E b [] σ λU σ=>E σ
 |.vN f l v,vs,σ,A,K=>xo G Φ vs E l [] σ λxs σ=>Wp (Φ f xs σ) (λU σ=>A vs σ) (λσ=>K v vs σ)
 |s,vs,σ,A,K=>Wp (ex G Φ W s vs σ) (tK A K) E
def iP:List S->Vs->bp->(Vs->bp->Prop)->(V->Vs->bp->Prop)->Prop
 |[],vs,σ,A,_=>A vs σ
 |s::r,vs,σ,A,K=>wx s vs σ (λvs σ=>iP r vs σ A K) K
end
mutual
theorem QF:∀(s:S) (vs:Vs) (σ:bp) (A:Vs->bp->Prop) (K:V->Vs->bp->Prop),wx G Φ W E s vs σ A K->Wp (ex G Φ W s vs σ) (tK A K) E
 |.expr e,vs,σ,A,K,h=>Wp.bind ((cz G Φ vs E e [] σ _ h).imp λx σ h=>h)
 |.asg i e,vs,σ,A,K,h=>Wp.bind ((cz G Φ vs E e [] σ _ h).imp λx σ h=>h)
 |.fW ts e,vs,σ,A,K,h=>Wp.bind ((cz G Φ vs E e [] σ _ h).imp λx σ h=>by
  induction x using V.casesOn with
  |tup l=>exact tD ⟨h.1,Wp.bind ((BJ G Φ E ts l vs σ _ h.2).imp λvs σ h=>h)⟩
  |_=>exact(h:False).elim)
 |.fh o f e,vs,σ,A,K,h=>Wp.bind ((cz G Φ vs E e [] σ _ h).imp λx σ h=>Wp.bind ((cz G Φ vs E o [] σ _ h).imp λa σ h=>by
  induction e:kz σ a f x with
  |none=>rw[e]at h;exact h
  |some r=>rw[e]at h;exact h))
 |.eX o i e,vs,σ,A,K,h=>Wp.bind ((cz G Φ vs E e [] σ _ h).imp λx σ h=>Wp.bind ((cz G Φ vs E o [] σ _ h).imp λa σ h=>Wp.bind ((cz G Φ vs E i [] σ _ h).imp λj σ h=>by
  induction e:o6 σ a j x with
  |none=>rw[e]at h;exact h
  |some r=>rw[e]at h;exact h)))
 |.ite c a b,vs,σ,A,K,h=>Wp.bind ((cz G Φ vs E c [] σ _ h).imp λx σ h=>by
  induction x using V.casesOn with
  |bool v=>induction v;exact fF b vs σ _ _ h;exact fF a vs σ _ _ h
  |_=>exact h)
 |.vG c b,vs,σ,A,K,h=>h
 |.jv t it b,vs,σ,A,K,h=>by have h:we G Φ vs E it [] σ _:=h;have q:=(cz G Φ vs E it [] σ _ h);exact Wp.bind (Wp.bind (q.imp λx σ h=>h.imp λk σ h=>by induction k using Internal.IK.casesOn<;>exact h))
 |.ret e,vs,σ,A,K,h=>Wp.bind ((cz G Φ vs E e [] σ _ h).imp λx σ h=>h)
 |.raise a b,vs,σ,A,K,h=>Wp.bind ((cz G Φ vs E a [] σ _ h).imp λx σ h=>Wp.bind ((cz G Φ vs E b [] σ _ h).imp λx σ h=>h))
 |.vN f l v,vs,σ,A,K,h=>Wp.bind ((lu G Φ vs E l [] σ _ h).imp λxs σ h=>by
  induction e:Φ f xs σ with
  |ok a s=>rw[e]at h;exact h
  |exc s=>rw[e]at h;exact h
  |bad=>rw[e]at h;exact h)
 |.x9 _ _ _,vs,σ,A,K,h|.dead,vs,σ,A,K,h=>h
theorem fF:∀(l:List S) (vs:Vs) (σ:bp) (A:Vs->bp->Prop) (K:V->Vs->bp->Prop),iP G Φ W E l vs σ A K->Wp (l5 G Φ W l vs σ) (tK A K) E
 |[]=>λvs σ A K h=>h
 |s::r=>λvs σ A K h=>Wp.bind ((QF s vs σ _ K h).imp λq σ h=>by
  match q with
  |(.nx,vs)=>exact fF r vs σ A K h
  |(.rt v,vs)=>exact h)
end
section
variable (vs:Vs)(σ:bp)(A:Vs->bp->Prop)(K:V->Vs->bp->Prop)
theorem el (e:X):wx G Φ W E (.expr e) vs σ A K=(we G Φ vs E e [] σ λU σ=>A vs σ):=rfl
theorem eu (i:Nat)(e:X):wx G Φ W E (.asg i e) vs σ A K=(we G Φ vs E e [] σ λx σ=>A (vs.set i (aa x)) σ):=rfl
theorem fJ (ts:List TA)(e:X):wx G Φ W E (.fW ts e) vs σ A K=(we G Φ vs E e [] σ λx σ=>aT x λl=>l.length=ts.length/\Ax G Φ E ts l vs σ A):=rfl
theorem CX (o:X)(f:Nat)(e:X):wx G Φ W E (.fh o f e) vs σ A K=(we G Φ vs E e [] σ λx σ=>we G Φ vs E o [] σ λa σ=>Gt (kz σ a f x) λσ=>A vs σ):=rfl
theorem hJ (o i e:X):wx G Φ W E (.eX o i e) vs σ A K=(we G Φ vs E e [] σ λx σ=>we G Φ vs E o [] σ λa σ=>we G Φ vs E i [] σ λj σ=>Gt (o6 σ a j x) λσ=>A vs σ):=rfl
theorem dW (c:X)(a b:List S):wx G Φ W E (.ite c a b) vs σ A K=(we G Φ vs E c [] σ λx σ=>Tw x (iP G Φ W E a vs σ A K) (iP G Φ W E b vs σ A K)):=rfl
theorem xn (c:X)(b:List S):wx G Φ W E (.vG c b) vs σ A K=(Wp (oM (λvs σ=>ev G Φ vs c [] σ) (λvs σ=>l5 G Φ W b vs σ) W vs σ) (tK A K) E):=rfl
theorem fH (t:Tg)(it:X)(b:List S):wx G Φ W E (.jv t it b) vs σ A K=(we G Φ vs E it [] σ λx σ=>Wp (jJ it x σ) (λk σ=>wit W E t (λvs σ=>l5 G Φ W b vs σ) k vs σ (tK A K)) E):=rfl
theorem dF (e:X):wx G Φ W E (.ret e) vs σ A K=(we G Φ vs E e [] σ λx σ=>K x vs σ):=rfl
theorem iD (a b:X):wx G Φ W E (.raise a b) vs σ A K=(we G Φ vs E a [] σ λU σ=>we G Φ vs E b [] σ λU σ=>E σ):=rfl
theorem Ij (f:Nat)(l:List X)(v:V):wx G Φ W E (.vN f l v) vs σ A K=(xo G Φ vs E l [] σ λxs σ=>Wp (Φ f xs σ) (λU σ=>A vs σ) (λσ=>K v vs σ)):=rfl
theorem dv:iP G Φ W E [] vs σ A K=A vs σ:=rfl
theorem cZ (s:S)(r:List S):iP G Φ W E (s::r) vs σ A K=wx G Φ W E s vs σ (λvs σ=>iP G Φ W E r vs σ A K) K:=rfl
theorem mS (i:Nat)(x:V)(Q:Vs->bp->Prop):P5 G Φ E (.n i) x vs σ Q=Q (vs.set i (aa x)) σ:=rfl
theorem aaE (o:X)(f:Nat)(x:V)(Q:Vs->bp->Prop):P5 G Φ E (.dm o f) x vs σ Q=(we G Φ vs E o [] σ λa σ=>Gt (kz σ a f x) λσ=>Q vs σ):=rfl
theorem aaD (o i:X)(x:V)(Q:Vs->bp->Prop):P5 G Φ E (.sub o i) x vs σ Q=(we G Φ vs E o [] σ λa σ=>we G Φ vs E i [] σ λj σ=>Gt (o6 σ a j x) λσ=>Q vs σ):=rfl
theorem i6 (Q:Vs->bp->Prop):Ax G Φ E [] [] vs σ Q=Q vs σ:=rfl
theorem i5 (t:TA)(ts:List TA)(x:V)(xs:List V)(Q:Vs->bp->Prop):Ax G Φ E (t::ts) (x::xs) vs σ Q=(P5 G Φ E t x vs σ λvs σ=>Ax G Φ E ts xs vs σ Q):=rfl
theorem BM (t:Tg)(b:Vs->bp->RS)(l:List V)(Q:Fl×Vs->bp->Prop):wit W E t b (.items l) vs σ Q=Wp (ja t b l vs σ) Q E:=rfl
theorem ada (t:Tg)(b:Vs->bp->RS)(n:Nat)(en:Bool)(Q:Fl×Vs->bp->Prop):wit W E t b (.live n en) vs σ Q=Wp (qk t en b n W 0 vs σ) Q E:=rfl
end
end
theorem M6:∃c:Nat->Nat->List V->bp->R V,c=kK G F 1000:=⟨_,rfl⟩
noncomputable def cl:Nat->Nat->List V->bp->R V:=Classical.choose M6
theorem M7:cl=kK G F 1000:=Classical.choose_spec M6
theorem HG {d f:Nat}(fn:Fn)(h:F[f]?=aa fn)(hl:(qO xs.length fn.np&&qO fn.np (xs.length+fn.df.length))=af)
  (h2:iP G (cl d) 1000 E fn.body ((xs++fn.df.drop (xs.length+fn.df.length-fn.np)).map aa++bF (fn.nv-fn.np) du) σ (λU σ=>Q .none σ) (λv U σ=>Q v σ)):Wp (cl (d+1) f xs σ) Q E:=by
 rw[M7]at h2 ⊢;rw[uY,h];dsimp only;rw[bx]at hl;rw[if_pos ⟨dC hl.1,dC hl.2⟩];refine Wp.bind ((fF _ _ _ _ _ _ _ _ _ h2).imp λr σ h=>?_)
 match r with
 |(.rt v,_)=>exact h
 |(.nx,_)=>exact h
noncomputable def Ot:Nat->Vs
 |0=>[]
 |k+1=>ae::Ot k
def Qj (k:Nat):List V->Vs
 |[]=>Ot k
 |x::xs=>aa x::Qj k xs
theorem d5 (x:V)(xs:List V)(k:Nat):Qj k (x::xs)=aa x::Qj k xs:=rfl
theorem d6 (k:Nat):Qj k []=Ot k:=rfl
theorem d4:Ot 0=[]:=rfl
theorem gq (k:Nat):Ot (k+1)=ae::Ot k:=rfl
theorem Ge:∀k:Nat,Ot k=bF k ae
 |0=>rfl
 |k+1=>congrArg (λl=>ae::l) (Ge k)
theorem GA (k:Nat):∀xs:List V,Qj k xs=xs.map aa++bF k ae
 |[]=>Ge k
 |x::xs=>congrArg (λl=>aa x::l) (GA k xs)
theorem call {d f:Nat}(fn:Fn)(k:Nat)(h:F[f]?=aa fn)(hl:(eF xs.length fn.np&&eF fn.nv (fn.np+k)&&fn.df.isEmpty)=af)
  (h2:iP G (cl d) 1000 E fn.body (Qj k xs) σ (λU σ=>Q .none σ) (λv U σ=>Q v σ)):Wp (cl (d+1) f xs σ) Q E:=by
 rw[bx,bx]at hl;have e1:=D1 hl.1.1;have e2:=D1 hl.1.2;have e3:=iK.1 hl.2;rw[GA]at h2;refine HG fn h ?_ ?_
 .rw[e1,e3,D2 (aO _),D2 (j4 _ _)];rfl
 .rw[e3,qV,aP,e2,m8];exact h2
theorem oo {t:Tg}{b:Vs->bp->RS}{A:Vs->bp->Prop}{K:V->Vs->bp->Prop}{E:bp->Prop}(I:List V->Vs->bp->Prop)
  (st:∀x l vs σ,I (x::l) vs σ->Gt (lg t x vs) λvs=>Wp (b vs σ) (tK (I l) K) E)(dn:∀vs σ,I [] vs σ->A vs σ) :
  ∀(l:List V) (vs:Vs) (σ:bp),I l vs σ->Wp (ja t b l vs σ) (tK A K) E
 |[]=>λvs σ h=>dn vs σ h
 |x::l=>λvs σ h=>by
  have q:=st x l vs σ h;refine(?_:Wp (match lg t x vs with|some vs=>_|none=>_) _ _);induction hp:lg t x vs with
  |none=>rw[hp]at q;exact q
  |some k4 =>
   rw[hp]at q;refine Wp.bind (Wp.imp q λr σ h=>?_)
   match r with
   |(.nx,vs)=>exact oo I st dn l vs σ h
   |(.rt v,vs)=>exact h
theorem j9 {t:Tg}{en:Bool}{b:Vs->bp->RS}{n:Nat}{A:Vs->bp->Prop}{K:V->Vs->bp->Prop}{E:bp->Prop}(l:List V)(I:Nat->Vs->bp->Prop)
  (at_:∀i vs σ,I i vs σ->σ[n]?=aa (.list l))
  (st:∀i x vs σ,l[i]?=aa x->I i vs σ->Gt (lg t (if en then .tup [.int i,x]else x) vs) λvs=>Wp (b vs σ) (tK (I (i+1)) K) E)(dn:∀vs σ,I l.length vs σ->A vs σ) :
  ∀(f i:Nat) (vs:Vs) (σ:bp),i<=l.length->l.length<f+i->I i vs σ->Wp (qk t en b n f i vs σ) (tK A K) E
 |0=>λi vs σ h0 hl h=>by exact(abj h0 hl).elim
 |f+1=>λi vs σ h0 hl h=>by
  rw[uC];rw[at_ i vs σ h];dsimp only;induction hx:l[i]? with
  |none=>exact dn vs σ (Nat.le_antisymm h0 (List.getElem?_eq_none_iff.1 hx)▸h)
  |some x =>
   have q:=st i x vs σ hx h;dsimp only;induction hp:lg t (if en then .tup [.int i,x]else x) vs with
   |none=>rw[hp]at q;exact q
   |some k4 =>
    rw[hp]at q;refine Wp.bind (Wp.imp q λr σ h=>?_)
    match r with
    |(.nx,vs)=>exact j9 l I at_ st dn f (i+1) vs σ (aA.1 hx).1 (abi hl) h
    |(.rt v,vs)=>exact h
theorem tm {c:Vs->bp->R V}{b:Vs->bp->RS}{A:Vs->bp->Prop}{K:V->Vs->bp->Prop}{E:bp->Prop}(I:Nat->Vs->bp->Prop)
  (st:∀m vs σ,I m vs σ->Wp (c vs σ) (λx σ=>Tw x (Wp (b vs σ) (tK (λvs σ=>∃m',m'<m/\I m' vs σ) K) E) (A vs σ)) E) :
  ∀(W m:Nat) (vs:Vs) (σ:bp),m<W->I m vs σ->Wp (oM c b W vs σ) (tK A K) E
 |0=>λm vs σ hl h=>absurd hl (oJ _)
 |W+1=>λm vs σ hl h=>Wp.bind ((st m vs σ h).imp λx σ h=>by
  match x with
  |.bool af =>
   refine Wp.bind (Wp.imp h λr σ h=>?_)
   match r with
   |(.nx,vs) =>obtain⟨m',hm,h⟩:=h;exact tm I st W m' vs σ (abh hl hm) h
   |(.rt v,vs)=>exact h
  |.bool ag=>exact h
  |.none|.int _|.str _|.tup _|.lst _|.loc _=>exact h)
theorem li0 (t:Tg)(b:Vs->bp->RS)(vs:Vs)(σ:bp)(A:Vs->bp->Prop)(K:V->Vs->bp->Prop)(E:bp->Prop):Wp (ja t b [] vs σ) (tK A K) E=A vs σ:=rfl
theorem nT:(!true)=ag:=rfl
theorem nF:(!false)=af:=rfl
theorem vA (A B:Prop):(if af=af then A else B)=A:=rfl
theorem qS (A B:Prop):(if ag=af then A else B)=B:=rfl
theorem MT (A B:Prop):(if af=ag then A else B)=B:=rfl
theorem MU (A B:Prop):(if ag=ag then A else B)=A:=rfl
theorem KR (a:α)(σ:bp)(Q:α->bp->Prop)(E:bp->Prop):Wp (.ok a σ) Q E=Q a σ:=rfl
theorem PR (i:Int)(Q:Int->Prop):aI (.int i) Q=Q i:=rfl
theorem oy (i:Bool)(Q:Bool->Prop):aB (.bool i) Q=Q i:=rfl
theorem xe (i:List V)(Q:List V->Prop):aT (.tup i) Q=Q i:=rfl
theorem aLe (i:List V)(Q:List V->Prop):aL (.lst i) Q=Q i:=rfl
theorem aSe (i:Str)(Q:Str->Prop):aS (.str i) Q=Q i:=rfl
theorem qU (l:List V)(σ:bp)(Q:V->bp->Prop):cn ag l σ Q=(l.length<lim/\Q (.lst l) σ):=rfl
theorem Ie (l:List V)(σ:bp)(Q:V->bp->Prop):cn af l σ Q=(l.length<lim/\Q (.loc σ.length) (σ++[.list l])):=rfl
section
variable (σ:bp)(m:Bool)(Q:V->bp->Prop)
theorem Ig (x y:Int):cb σ .add m (.int x) (.int y) Q=Q (.int (x+y)) σ:=rfl
theorem cat (x y:List V):cb σ .add m (.tup x) (.tup y) Q=(x.length+y.length<lim/\Q (.tup (x++y)) σ):=rfl
theorem cal (x y:List V):cb σ .add m (.lst x) (.lst y) Q=cn m (x++y) σ Q:=rfl
theorem cak (n:Nat)(y:List V):cb σ .add m (.loc n) (.lst y) Q=Ls σ (.loc n) λU x=>cn m (x++y) σ Q:=rfl
theorem cas (x y:Str):cb σ .add m (.str x) (.str y) Q=(x.cps.size+y.cps.size<lim/\Q (.str ⟨x.cps++y.cps⟩) σ):=rfl
theorem Qy (x y:Int):cb σ .sub m (.int x) (.int y) Q=Q (.int (x-y)) σ:=rfl
theorem cmi (x y:Int):cb σ .mul m (.int x) (.int y) Q=((big x&&big y)=af/\Q (.int (x*y)) σ):=rfl
theorem cmt (x:List V)(y:Int):cb σ .mul m (.tup x) (.int y) Q=((y.toNat*x.length<lim/\0<=y/\y<1000)/\Q (.tup (mV x y.toNat)) σ):=rfl
theorem cml (x:List V)(y:Int):cb σ .mul m (.lst x) (.int y) Q=((y.toNat*x.length<lim/\0<=y/\y<1000)/\cn m (mV x y.toNat) σ Q):=rfl
theorem cdi (x y:Int):cb σ .fdiv m (.int x) (.int y) Q=((0<y/\y<1000000)/\Q (.int (x/y)) σ):=rfl
theorem cri (x y:Int):cb σ .mod m (.int x) (.int y) Q=(0<y/\Q (.int (x%y)) σ):=rfl
end
theorem Li   {Q:Nat->List V->Prop}(h:σ[n]?=aa (.list l))(q:Q n l):Ls σ (.loc n) Q:=by refine(?_:Gt σ[n]? _);rw[h];exact q
theorem lm (h:qO (n+1) 100000=af):n<lim:=dC h
theorem qm   (h:σ[n]?=aa (.list l)):uM σ (.loc n)=af:=by refine(?_:(match σ[n]? with|some (.list _)=>af|_=>ag)=af);rw[h]
theorem gE (σ:bp)(o:O):(σ++[o])[σ.length]?=aa o:=cP
theorem sE (σ:bp)(o p:O):(σ++[o]).set σ.length p=σ++[p]:=by rw[CQ _ _ (aO _),oA];rfl
theorem mx (h:i.natAbs<2 ^ 62):big i=af:=decide_eq_true h
theorem slt (σ:bp)(x y:Int):fc σ .lt (.int x) (.int y)=aa (decide (x<y)):=rfl
theorem sle (σ:bp)(x y:Int):fc σ .le (.int x) (.int y)=aa (decide (x<=y)):=rfl
theorem Ld (σ:bp)(x y:Int):fc σ .gt (.int x) (.int y)=aa (decide (y<x)):=rfl
theorem sge (σ:bp)(x y:Int):fc σ .ge (.int x) (.int y)=aa (decide (y<=x)):=rfl
theorem AO (σ:bp)(x y:Int):fc σ .eq (.int x) (.int y)=aa (decide (x=y)):=rfl
theorem QU (σ:bp)(x y:Int):fc σ .ne (.int x) (.int y)=aa (!decide (x=y)):=rfl
theorem aaY (σ:bp)(x y:Bool):fc σ .ne (.bool x) (.bool y)=aa (!(x==y)):=rfl
theorem P8 (σ:bp)(x:V):fc σ .is x .none=aa (match x with|.none=>af|_=>ag):=rfl
theorem QY (σ:bp)(x:V):fc σ (.rX ()) x .none=aa (match x with|.none=>ag|_=>af):=rfl
theorem il (σ:bp)(n:Nat):uM σ (.loc n)=match σ[n]? with
 |some (.list _)=>af
 |_=>ag:=rfl
theorem acr (σ:bp)(l:List V):items σ (.lst l)=aa l:=rfl
theorem acq (σ:bp)(l:List V):items σ (.tup l)=aa l:=rfl
theorem adm (σ:bp)(n:Nat):items σ (.loc n)=match σ[n]? with
 |some (.list l)=>aa l
 |_=>ae:=rfl
theorem adi (i:Int):nj (.int i)=aa (.int i):=rfl
theorem aaV (b:Bool):nj (.bool b)=aa (.int (if b then 1 else 0)):=rfl
theorem zM (i:Nat)(v:V)(σ:bp):jJ (.v i) v σ=iW v σ:=rfl
theorem adn (i:Nat)(v:V)(σ:bp):jJ (.c i) v σ=iW v σ:=rfl
theorem JX (o:X)(i:Nat)(v:V)(σ:bp):jJ (.dm o i) v σ=iW v σ:=rfl
theorem Zj (o i:X)(v:V)(σ:bp):jJ (.sub o i) v σ=iW v σ:=rfl
theorem OM (o i:X)(v:V)(σ:bp):jJ (.xJ o i) v σ=iW v σ:=rfl
theorem acu (l:List X)(v:V)(σ:bp):jJ (.tup l) v σ=iW v σ:=rfl
theorem acv (o i:X)(v:V)(σ:bp):jJ (.vz o i) v σ=iW v σ:=rfl
theorem JV (l:List X)(v:V)(σ:bp):jJ (.nz l) v σ=AU v σ:=rfl
theorem acw (a:X)(v:V)(σ:bp):jJ (.pA a) v σ=Hy v σ:=rfl
theorem DE (l:List V)(σ:bp):iW (.lst l) σ=.ok (.items l) σ:=rfl
theorem Zg (l:List V)(σ:bp):iW (.tup l) σ=.ok (.items l) σ:=rfl
theorem DK   (i:Int)(h:σ[n]?=aa (.list l)):hK σ (.loc n) (.int i)=hK σ (.lst l) (.int i):=by refine(?_:DL σ[n]? (.int i)=_);rw[h];rfl
theorem Ke   (i:Int)(h:σ[n]?=aa (.cH d)):hK σ (.loc n) (.int i)=j2 d i:=by refine(?_:DL σ[n]? (.int i)=_);rw[h];rfl
theorem QV (h:lH 8 (.lst l)=af)(σ:bp):fc σ .ne (.lst l) (.lst [])=aa (!l.isEmpty):=by refine(?_:(if lH 8 (.lst l)&&lH 8 (.lst [])then yV 8 (.lst l) (.lst [])else ae).map (!·)=_);rw[show lH 8 (.lst [])=af from rfl,Bool.and_true,if_pos h];induction l using List.casesOn<;>rfl
theorem NY   (h:σ[n]?=aa (.list l))(k:lH 8 (.lst l)=af):fc σ .ne (.loc n) (.lst [])=aa (!l.isEmpty):=by rw[<- QV k σ];refine(?_:(eqD (match σ[n]? with|some (.list l)=>aa (V.lst l)|_=>ae) (aa (V.lst []))).map (!·)=_);rw[h];rfl
theorem okI:∀(l:List Int),lH 8 (.lst (l.map .int))=af
 |[]=>rfl
 |a::l=>okI l
theorem place_lt  (h0:0<=i)(h1:i<n)(hn:n<100000):place i n=aa i.toNat:=by unfold place;rw[if_neg (by rw[mx (abg h0 h1 hn)];decide),if_pos h0,if_pos (Rg h0 h1)]
theorem Z1  (σ:bp)(h0:0<=i)(h1:i<l.length)(hn:l.length<100000):hK σ (.tup l) (.int i)=l[i.toNat]?:=by refine(?_:(place i l.length).bind _=_);rw[place_lt h0 h1 hn];rfl
theorem zQ  (σ:bp)(h0:0<=i)(h1:i<l.length)(hn:l.length<100000):hK σ (.lst l) (.int i)=l[i.toNat]?:=Z1 σ h0 h1 hn
theorem E9    (x:V)(h:σ[n]?=aa (.list l))(h0:0<=i)(h1:i<l.length)(hn:l.length<100000):o6 σ (.loc n) (.int i) x=aa (σ.set n (.list (l.set i.toNat x))):=by refine(?_:IY σ n σ[n]? (.int i) x=_);rw[h];exact(if_pos h0).trans (by rw[place_lt h0 h1 hn];rfl)
theorem Q1   (i:Int)(x:V)(h:σ[n]?=aa (.cH d))(hn:d.length<lim):o6 σ (.loc n) (.int i) x=aa (σ.set n (.cH (nU d i x))):=by refine(?_:IY σ n σ[n]? (.int i) x=_);rw[h];exact if_pos hn
section
theorem slL (h0:0<=i)(hb:i<100000)(hl:l.length<100000)(q:Q (.lst (l.drop i.toNat)) σ):CH ag σ (.lst l) (.int i) Q :=
 ⟨⟨h0,mx (Rf h0 hb),hl⟩,show _<100000 by rw[if_neg bq,jS];exact abf hl,q⟩
theorem shL (h0:0<=i)(hb:i<100000)(hl:l.length<100000)(q:Q (.lst (l.take i.toNat)) σ):CH af σ (.lst l) (.int i) Q :=
 ⟨⟨h0,mx (Rf h0 hb),hl⟩,show _<100000 by rw[if_pos rfl,cv];exact abe hb,q⟩
theorem slK (h:σ[n]?=aa (.list l))(h0:0<=i)(hb:i<100000)(hl:l.length<100000)(q:Q (.lst (l.drop i.toNat)) σ):CH ag σ (.loc n) (.int i) Q :=
 show Ls σ (.loc n) (λU l=>CH ag σ (.lst l) (.int i) Q)from Li h (slL h0 hb hl q)
theorem slT (h0:0<=i)(hi:i.toNat<=l.length)(hl:l.length<100000)(q:Q (.tup (l.drop i.toNat)) σ):CH ag σ (.tup l) (.int i) Q:=⟨⟨h0,hi,hl⟩,q⟩
theorem shT (h0:0<=i)(hi:i.toNat<=l.length)(hl:l.length<100000)(q:Q (.tup (l.take i.toNat)) σ):CH af σ (.tup l) (.int i) Q:=⟨⟨h0,hi,hl⟩,q⟩
end
def tab:List (Str×Nat×Nat×Nat):=[(st "UNDEF",0,0,1),(st "NULL",0,0,1),(st "TRUE",0,0,1),(st "FALSE",0,0,1),(st "CONST",1,0,1),(st "THIS",0,0,1),(st "POP",0,1,0),(st "DUP",0,1,2),(st "DUP2",0,2,4),(st "SWAP",0,2,2),(st "ROT3",0,3,3),(st "GETLOC",3,0,1),(st "SETLOC",3,1,1),(st "GETCELL",4,0,1),(st "SETCELL",4,1,1),(st "GETUP",5,0,1),(st "SETUP",5,1,1),(st "FRESH",4,0,0),(st "GETGLOB",2,0,1),(st "TYPEGLOB",2,0,1),(st "SETGLOB",2,1,1),(st "DECLVAR",2,0,0),(st "DECLFUN",2,1,0),(st "GETPROP",2,1,1),(st "SETPROP",2,2,1),(st "GETELEM",0,2,1),(st "SETELEM",0,3,1),(st "DELPROP",2,1,1),(st "DELELEM",0,2,1),(st "DELNAME",2,0,1),(st "ADD",0,2,1),(st "SUB",0,2,1),(st "MUL",0,2,1),(st "DIV",0,2,1),(st "MOD",0,2,1),(st "SHL",0,2,1),(st "SHR",0,2,1),(st "USHR",0,2,1),(st "AND",0,2,1),(st "OR",0,2,1),(st "XOR",0,2,1),(st "EQ",0,2,1),(st "NE",0,2,1),(st "SEQ",0,2,1),(st "SNE",0,2,1),(st "LT",0,2,1),(st "GT",0,2,1),(st "LE",0,2,1),(st "GE",0,2,1),(st "IN",0,2,1),(st "INSTANCEOF",0,2,1),(st "NEG",0,1,1),(st "TONUM",0,1,1),(st "NOT",0,1,1),(st "BITNOT",0,1,1),(st "TYPEOF",0,1,1),(st "INC",0,1,1),(st "DEC",0,1,1),(st "JMP",6,0,0),(st "JF",6,1,0),(st "JT",6,1,0),(st "JFK",6,1,0),(st "JTK",6,1,0),(st "CALL",7,2,1),(st "NEW",7,1,1),(st "RET",0,1,0),(st "THROW",0,1,0),(st "CLOSURE",8,0,1),(st "NEWOBJ",0,0,1),(st "NEWARR",7,0,1),(st "HOLE",0,0,1),(st "INITPROP",2,2,1),(st "INITGET",2,2,1),(st "INITSET",2,2,1),(st "METHOD",2,1,2),(st "METHODEL",0,2,2),(st "FORIN",0,1,1),(st "NEXTIN",6,1,2),(st "GOSUB",6,0,0),(st "RETSUB",0,2,0),(st "CHECKOBJ",0,1,1),(st "TOKEY",0,2,2),(st "ROT4",0,4,4),(st "FAILSET",2,1,0),(st "REGEXP",0,2,1)]
noncomputable def Ji:List Nat:=[0,1,2,3,4,5,6,7,8,9,10,82,11,12,13,14,15,16,17,43,44,53,55,58,59,60,61,62,65,67,68,69,70,78]
def kAl:List Str:=[st "",st "k",st "s",st "l",st "c",st "u",st "t",st "n",st "f"]
def kBl:List Str:=[st "-",st "k",st "s",st "l",st "c",st "u",st "t",st "n",st "f"]
def kA (k:Nat):Str:=kAl.getD k (st "")
def kB (k:Nat):Str:=kBl.getD k (st "")
def Oc (r:Str×Nat×Nat×Nat):V:=.tup [.str r.1,.str (kA r.2.1),.int r.2.2.1,.int r.2.2.2]
def xN (r:Str×Nat×Nat×Nat):V:=.tup [.str r.1,.str (kB r.2.1),.int r.2.2.1,.int r.2.2.2]
def yX (o:Nat):Str×Nat×Nat×Nat:=tab.getD o (st "",0,0,0)
def nm (o:Nat):Str:=(yX o).1
def kd (o:Nat):Nat:=(yX o).2.1
def tk (o:Nat):Nat:=(yX o).2.2.1
def pt (o:Nat):Nat:=(yX o).2.2.2
def fg:V:=.lst (tab.map xN)
theorem G0:G[0]?=aa (.lst (tab.map Oc)):=by rfl
theorem jB:tab.length=85:=by rfl
theorem EL {o:Nat}(h:o<85):tab[o]?=aa (yX o):=by unfold yX;rw[bU];rw[bA (by rw[jB];exact h)];rfl
theorem gA (σ:bp){o:Nat}(h:o<85):hK σ (.lst (tab.map Oc)) (.int o)=aa (Oc (yX o)):=by rw[zQ σ zj (by rw[ak,jB];exact Rc h) (by rw[ak,jB];exact Jk),cg,cy,EL h];rfl
theorem gB (σ:bp){o:Nat}(h:o<85):hK σ fg (.int o)=aa (xN (yX o)):=by unfold fg;rw[zQ σ zj (by rw[ak,jB];exact Rc h) (by rw[ak,jB];exact Jk),cg,cy,EL h];rfl
noncomputable def Na (p:Nat->Bool):Bool:=(fG 85).all p
theorem lU {p:Nat->Bool}(h:Na p=af){o:Nat}(ho:o<85):p o=af:=bI.1 h o (jz.2 ho)
theorem wN {o:Nat}(h:o<85):kd o<9:=of_decide_eq_true (lU (p:=λo=>decide (kd o<9)) (by decide +kernel) h)
theorem kAe:∀(k:Nat),k<9->∀(j:Nat),j<9->vB (.str (kA k)) (.str (kA j))=aa (decide (k=j)):=by decide +kernel
theorem kBe:∀(k:Nat),k<9->∀(j:Nat),j<9->vB (.str (kB k)) (.str (kB j))=aa (decide (k=j)):=by decide +kernel
theorem YU {o p:Nat}(h:o<85)(hp:p<85)(e:nm o=nm p):o=p:=by have:=lU (p:=λo=>Na λp=>decide (nm o=nm p->o=p)) (by decide +kernel) h;exact of_decide_eq_true (lU (p:=λp=>decide (nm o=nm p->o=p)) this hp) e
theorem MH {o:Nat}(h:o<85):(nm o).cps.all (·<0x110000)=af :=
 lU (p:=λo=>(nm o).cps.all (·<0x110000)) (by decide +kernel) h
theorem nme {o p:Nat}(h:o<85)(hp:p<85):vB (.str (nm o)) (.str (nm p))=aa (decide (o=p)):=by
 refine(?_:(if(nm o).cps.all _&&(nm p).cps.all _ then aa (decide (nm o=nm p))else ae)=_);rw[MH h,MH hp];refine(?_:aa (decide (nm o=nm p))=_);congr 1;by_cases e:o=p
 .subst e;rw[decide_eq_true rfl,decide_eq_true rfl]
 .rw[decide_eq_false e,decide_eq_false λq=>e (YU h hp q)]
theorem CG {c:Nat}:∀ {x y X Y:List Nat},c∉x->c∉y->x++c::X=y++c::Y->x=y/\X=Y
 |[],[],_,_,_,_,e=>⟨rfl,(eY e).2⟩
 |[],b::y,_,_,_,h,e=>absurd ((eY e).1▸aR) h
 |a::x,[],_,_,h,_,e=>absurd ((eY e).1▸aR) h
 |a::x,b::y,_,_,h,h2,e=>by have:=eY e;have q:=CG (λm=>h (bf _ m)) (λm=>h2 (bf _ m)) this.2;exact⟨by rw[this.1,q.1],q.2⟩
theorem zI (c:Nat)(x y:Str)(r:List Str):(tE ⟨#[c]⟩ (x::y::r)).cps.toList=x.cps.toList++c::(tE ⟨#[c]⟩ (y::r)).cps.toList:=by refine(?_:(x.cps++#[c]++(tE ⟨#[c]⟩ (y::r)).cps).toList=_);rw[pU,pU,aV];rfl
theorem BV {y:Str}(h:x.cps.toList=y.cps.toList):x=y:=by obtain⟨⟨a⟩⟩:=x;obtain⟨⟨b⟩⟩:=y;cases h;rfl
theorem zH (c:Nat):∀(a b:List Str),a≠[]->b≠[]->(∀p∈a,c∉p.cps.toList)->(∀p∈b,c∉p.cps.toList)->(tE ⟨#[c]⟩ a).cps.toList=(tE ⟨#[c]⟩ b).cps.toList->a=b
 |[],_=>λh U U U U=>absurd rfl h
 |_,[]=>λU h U U U=>absurd rfl h
 |[x],[y]=>λU U U U e=>congrArg (λx=>[x]) (BV e)
 |[x],y::z::r=>λU U h U e=>by rw[zI]at e;exact absurd ((e:x.cps.toList=_)▸aU _ aR) (h x aR)
 |y::z::r,[x]=>λU U U h e=>by rw[zI]at e;exact absurd ((e:_=x.cps.toList)▸aU _ aR) (h x aR)
 |x::x2::a,y::y2::b=>λU U h h2 e=>by rw[zI,zI]at e;have q:=CG (h x aR) (h2 y aR) e;rw[BV q.1,zH c (x2::a) (y2::b) (by simp) (by simp) (λp m=>h p (bf _ m)) (λp m=>h2 p (bf _ m)) q.2]
noncomputable def jl (c:Nat):List Str->List Nat
 |[]=>[]
 |[x]=>x.cps.toList
 |x::y::r=>x.cps.toList++c::jl c (y::r)
theorem MN (c:Nat):∀l:List Str,(tE ⟨#[c]⟩ l).cps.toList=jl c l
 |[]=>rfl
 |[x]=>rfl
 |x::y::r=>by rw[zI,MN c (y::r)];rfl
theorem E7 (x:Str)(c:Nat)(l:List Str)(h:(!l.isEmpty&&l.all (λp=>!p.cps.toList.contains c)&&decide (jl c l=x.cps.toList))=af):gj x ⟨#[c]⟩=l:=by
 rw[bx,bx]at h;refine zH c _ _ (λe=>?_) (λe=>?_) (StrLaws.split_free x c) (λp hp m=>?_) ?_
 .have:=PyProof.Rows.split_pos x ⟨#[c]⟩;rw[e]at this;exact absurd this (by decide)
 .rw[e]at h;exact absurd h.1.1 (by decide)
 .have:=bI.1 h.1.2 p hp;rw[List.contains_iff_mem.2 m]at this;exact absurd this (by decide)
 .rw[StrLaws.join_split,MN,of_decide_eq_true h.2]
theorem kj {c:Nat}(l:List Str)(h:((!l.isEmpty&&l.all (λp=>!p.cps.toList.contains c)&&decide (jl c l=x.cps.toList))&&(decide (x.length<2000)&&decide (l.length<2000)))=af):jr (.str x) ⟨#[c]⟩=aa (l.map V.str):=by have h:=(bx _ _)▸h;have h2:=(bx _ _)▸h.2;show(if x.length<lim/\_/\(gj x ⟨#[c]⟩).length<lim then aa ((gj x ⟨#[c]⟩).map V.str)else ae)=_;rw[E7 x c l h.1,if_pos ⟨bK (of_decide_eq_true h2.1) (by decide),rfl,bK (of_decide_eq_true h2.2) (by decide)⟩]
theorem BX:st " "=⟨#[32]⟩:=by decide +kernel
def wds:List Str:=[st "UNDEF:-01",st "NULL:-01",st "TRUE:-01",st "FALSE:-01",st "CONST:k01",st "THIS:-01",st "POP:-10",st "DUP:-12",st "DUP2:-24",st "SWAP:-22",st "ROT3:-33",st "GETLOC:l01",st "SETLOC:l11",st "GETCELL:c01",st "SETCELL:c11",st "GETUP:u01",st "SETUP:u11",st "FRESH:c00",st "GETGLOB:s01",st "TYPEGLOB:s01",st "SETGLOB:s11",st "DECLVAR:s00",st "DECLFUN:s10",st "GETPROP:s11",st "SETPROP:s21",st "GETELEM:-21",st "SETELEM:-31",st "DELPROP:s11",st "DELELEM:-21",st "DELNAME:s01",st "ADD:-21",st "SUB:-21",st "MUL:-21",st "DIV:-21",st "MOD:-21",st "SHL:-21",st "SHR:-21",st "USHR:-21",st "AND:-21",st "OR:-21",st "XOR:-21",st "EQ:-21",st "NE:-21",st "SEQ:-21",st "SNE:-21",st "LT:-21",st "GT:-21",st "LE:-21",st "GE:-21",st "IN:-21",st "INSTANCEOF:-21",st "NEG:-11",st "TONUM:-11",st "NOT:-11",st "BITNOT:-11",st "TYPEOF:-11",st "INC:-11",st "DEC:-11",st "JMP:t00",st "JF:t10",st "JT:t10",st "JFK:t10",st "JTK:t10",st "CALL:n21",st "NEW:n11",st "RET:-10",st "THROW:-10",st "CLOSURE:f01",st "NEWOBJ:-01",st "NEWARR:n01",st "HOLE:-01",st "INITPROP:s21",st "INITGET:s21",st "INITSET:s21",st "METHOD:s12",st "METHODEL:-22",st "FORIN:-11",st "NEXTIN:t12",st "GOSUB:t00",st "RETSUB:-20",st "CHECKOBJ:-11",st "TOKEY:-22",st "ROT4:-44",st "FAILSET:s10",st "REGEXP:-21"]
theorem AJ {r:R α}(h:Wp r (λv U=>v=a) (λU=>False)):R.val r=aa a:=by
 induction r with
 |ok v σ=>exact congrArg aa h
 |exc σ=>exact h.elim
 |bad=>exact h.elim
theorem w8 {f:V->Option Bool}{e:V->Option V}{α:Type}(g h:α->V):∀ {l:List α},(∀x∈l,f (g x)=aa af/\e (g x)=aa (h x))->iI f e (l.map g)=aa (l.map h)
 |[]=>λU=>rfl
 |a::l=>λq=>by have q1:=q a aR;have ih:=w8 g h (l:=l) λx m=>q x (bf _ m);refine(?_:(match f (g a)with|some af=>_|some ag=>_|none=>_)=_);rw[q1.1];dsimp only;rw[q1.2,ih];rfl
theorem qA {f:V->Option Bool}{e:V->Option V}{α:Type}(g:α->V)(p:α->Bool):∀ {l:List α},(∀x∈l,f (g x)=aa (p x)/\e (g x)=aa (g x))->iI f e (l.map g)=aa ((l.filter p).map g)
 |[]=>λU=>rfl
 |a::l=>λq=>by
  have q1:=q a aR;have ih:=qA g p (l:=l) λx m=>q x (bf _ m);refine(?_:(match f (g a)with|some af=>_|some ag=>_|none=>_)=_);rw[q1.1];induction hp:p a with
  |true=>dsimp only;rw[q1.2,ih,dE hp];rfl
  |false=>dsimp only;rw[ih,eW (by rw[hp];exact bq)]
theorem Pb {G:List V}{e:X}
  (h:we G Φ vs E it cs σ λx σ=>Wp (jJ it x σ) (λk σ=>Gt (itemsOf k σ) λl=>(gn e&&jY ifs&&decide (l.length<lim))=af /\
   Gt (iI (λx=>match R.val (qT G Φ vs af ifs [x] σ)with|some (.bool b)=>aa b|_=>ae) (λx=>R.val (ev G Φ vs e [x] σ)) l) λys=>cn m ys σ Q) E) :
  Wp (ev G Φ vs (.comp m e it ifs) cs σ) Q E:=by
 refine Wp.bind (Wp.bind (Wp.imp (cz G Φ vs E it cs σ _ h) λx σ h=>Wp.imp h λk σ h=>?_));induction e1:itemsOf k σ with
 |none=>rw[e1]at h;exact h
 |some l =>
  rw[e1]at h;refine tD ⟨h.1,?_⟩;have h:=h.2;cases e2:iI (λx=>match R.val (qT G Φ vs af ifs [x] σ)with|some (.bool b)=>aa b|_=>ae) (λx=>R.val (ev G Φ vs e [x] σ)) l with
  |none=>rw[e2]at h;exact h
  |some ys=>rw[e2]at h;exact qB h
theorem kZ {G:List V}{e:X}
  (h:we G Φ vs E it cs σ λx σ=>Wp (jJ it x σ) (λk σ=>Gt (itemsOf k σ) λl=>(gn e&&jY ifs&&decide (l.length<lim))=af /\
   Gt (iI (λx=>match R.val (qT G Φ vs af ifs [x] σ)with|some (.bool b)=>aa b|_=>ae) (λx=>R.val (ev G Φ vs e [x] σ)) l) λys=>cn m ys σ Q) E) :
  we G Φ vs E (.comp m e it ifs) cs σ Q:=Pb h
theorem iJ {G:List V}{s t:Str}{r:List S}(n:Nat)(hs:s.cps.size<=n)(ht:t.cps.size<=200)(hn:n<50000)
  (q:(⟨(s.cps.toList++t.cps.toList).toArray⟩:Str).cps.size<=n+200->iP G Φ W E r [aa (.str ⟨(s.cps.toList++t.cps.toList).toArray⟩)] σ A K):iP G Φ W E (.asg 0 (.bin .add ag (.v 0) (.k (.str t)))::r) [aa (.str s)] σ A K:=by
 have e:(s.cps.toList++t.cps.toList).toArray=s.cps++t.cps:=by rw[<- pU]
 rw[e]at q;exact⟨show _<100000 by exact X5 hs ht hn,q (by show(s.cps++t.cps).size<=_;rw[Array.size_append];exact X4 hs ht)⟩
theorem w9 {G:List V}{s:Str}{r:List S}
  (q:iP G Φ W E r [aa (.str s)] σ A K):iP G Φ W E (.asg 0 (.k (.str s))::r) [ae] σ A K:=q
theorem y7 {G:List V}{s:Str}{e:X}{p:Str}{ws:List Str}{ys:List V}
  (h:jr (.str s) p=aa (ws.map V.str))(h2:ws.length<lim)(hp:gn e=af)
  (c:iI (λx=>match R.val (qT G Φ [aa (.str s)] af [] [x] σ)with|some (.bool b)=>aa b|_=>ae) (λx=>R.val (ev G Φ [aa (.str s)] e [x] σ)) (ws.map V.str)=aa ys)(hy:ys.length<lim)(q:K (.lst ys) [aa (.str s)] σ) :
  iP G Φ W E [.ret (.comp ag e (.split (.v 0) p) [])] [aa (.str s)] σ A K :=
 kZ (Gi h ⟨by rw[ak];exact h2,show _/\_ from⟨by rw[hp,ak,decide_eq_true h2];rfl,Gi c ⟨hy,q⟩⟩⟩)
theorem EK (d:Nat)(σ:bp)(h:Q fg σ):Wp (cl (d+1) 24 [] σ) Q E:=by
 refine call nK 1 (by kernel_rfl) (by kernel_rfl) ?_;delta nK sh;refine w9 ?_;have h0:(st "UNDEF:-01 NULL:-01 TRUE:-01 FALSE:-01 CONST:k01 THIS:-01 POP:-10 DUP:-12 DUP2:-24 SWAP:-22 ").cps.size<=200:=by decide +kernel
 refine iJ 200 h0 (by decide +kernel) (by decide) λh0=>?_;refine iJ 400 h0 (by decide +kernel) (by decide) λh0=>?_;refine iJ 600 h0 (by decide +kernel) (by decide) λh0=>?_;refine iJ 800 h0 (by decide +kernel) (by decide) λh0=>?_;refine iJ 1000 h0 (by decide +kernel) (by decide) λh0=>?_;refine iJ 1200 h0 (by decide +kernel) (by decide) λh0=>?_;refine iJ 1400 h0 (by decide +kernel) (by decide) λh0=>?_;refine iJ 1600 h0 (by decide +kernel) (by decide) λh0=>?_;refine iJ 1800 h0 (by decide +kernel) (by decide) λh0=>?_;refine y7 (ws:=wds) (ys:=tab.map xN) (by rw[BX];exact kj wds (by decide +kernel)) (by decide +kernel) rfl ?_ (by decide +kernel) h
 kernel_rfl
theorem Fx (d:Nat)(σ:bp)(h:Q (.lst (Ji.map λo=>.str (nm o))) σ):Wp (cl (d+1) 25 [] σ) Q E:=by refine call nM 1 (by kernel_rfl) (by kernel_rfl) ?_;delta nM sj;refine w9 (iJ 200 (by decide +kernel) (by decide +kernel) (by decide) λh0=>?_);exact Gi (by rw[BX];exact kj (Ji.map nm) (by decide +kernel)) ⟨by decide +kernel,h⟩
theorem IA (d:Nat)(uo:List Int)(vP m:Int)(σ:bp)(hp:∀x∈uo,0<=x)(h0:0<=vP)(h1:vP<2147483647)(hm:0<m)(hl:uo.length<100000)
  (h:∀(r:Int) (FZ:List Int) (Fc:Int),0<=r->r<m->(∀x∈FZ,0<=x)->0<=Fc->Fc<2147483647->FZ.length<=uo.length ->
   Q (.int r) (.list (FZ.map .int)::.list [.loc 0,.int Fc]::σ)) :
  Wp (cl (d+1) 23 [.loc 1,.int m] (.list (uo.map .int)::.list [.loc 0,.int vP]::σ)) Q E:=by
 have r0:∀a:Int,0<=a%m:=λa=>xk _ (abd hm);have r1:∀a:Int,a%m<m:=λa=>Int.emod_lt_of_pos _ hm;refine call pf 0 rfl rfl ?_;dsimp only[pf,u6,cW,cq,eH,eP,cj,cA,xr,dT,eT,hJ,dW,dF,dv,cZ,Gs,Tb,PR,qU,d5,d6,d4,aD,ah,ai];refine Gi rfl ⟨by decide,Gi (NY rfl (okI uo)) ?_⟩;induction uo with
 |nil =>
  have b:(big vP&&big 48271)=af:=by rw[mx (Rd h0 h1)];rfl
  exact Gi rfl ⟨b,by decide,je (E9 _ rfl abc (Int.lt_add_one_of_le (gy 1)) (dC rfl)) rfl ⟨by decide,hm,h _ [] _ (r0 _) (r1 _) (λU h=>nomatch h) (by lia) (by lia) (aO _)⟩⟩
 |cons a l =>exact Gi rfl ⟨rfl,Gi rfl ⟨⟨show _<100000 by simpa using hl,by exact abb⟩,hm,h _ l vP (r0 _) (r1 _) (λx h=>hp x (bf _ h)) h0 h1 (jj _)⟩⟩
end Internal.Pu
end
noncomputable section
open PySem
namespace Internal.Pu
theorem jn {p:Prop}[Decidable p]{A B:Prop}(a:p->A)(b:¬p->B):if decide p=af then A else B:=by
 by_cases h:p
 .rw[if_pos (decide_eq_true h)];exact a h
 .rw[if_neg (by rw[decide_eq_false h];exact bq)];exact b h
noncomputable abbrev Row:=Nat×Option Int
noncomputable def oV:Option Int->V
 |none=>.none
 |some i=>.int i
def rV (r:Row):V:=.tup [.str (nm r.1),oV r.2]
structure Hl where
 s:Nat
 e:Nat
 h:Nat
 d:Int
 f:Bool
noncomputable def ZD (h:Hl):V:=.tup [.int h.s,.int h.e,.int h.h,.int h.d,.bool h.f]
structure Bx where
 R:List Row
 L:List Int
 H:List Hl
structure Dr where
 uo:List Int
 vP:Int
structure Dr.Ok (x:Dr):Prop where
 p:∀i∈x.uo,0<=i
 s0:0<=x.vP
 s1:x.vP<2147483647
 l:x.uo.length<100000
def aam:O:=.dN [(st "rows",.loc 3),(st "labels",.loc 4),(st "handlers",.loc 5)]
noncomputable def eV (x:Dr)(γ:bp):bp:=.list (x.uo.map .int)::.list [.loc 0,.int x.vP]::γ
def gM (x:Dr)(b:Bx)(γ:bp):bp:=eV x (aam::.list (b.R.map rV)::.list (b.L.map .int)::.list (b.H.map ZD)::γ)
theorem jX {d:Nat}{x:Dr}{m:Int}{γ:bp}{Q:V->bp->Prop}{E:bp->Prop}(hx:x.Ok)(hm:0<m)(h:∀(r:Int) (x':Dr),0<=r->r<m->x'.Ok->Q (.int r) (eV x' γ)) :
  Wp (cl (d+1) 23 [.loc 1,.int m] (eV x γ)) Q E :=
 IA d x.uo x.vP m γ hx.p hx.s0 hx.s1 hm hx.l λr p' s' h0 h1 h2 h3 h4 h5=>h r ⟨p',s'⟩ h0 h1 ⟨h2,h3,h4,cm h5 hx.l⟩
namespace Bx
noncomputable def put (b:Bx)(o:Nat)(g:Option Int):Bx:={b with R:=b.R++[(o,g)]}
noncomputable def o8 (b:Bx)(l:List Row):Bx:={b with R:=b.R++l}
noncomputable def fD (b:Bx):Bx:={b with L:=b.L++[-1]}
noncomputable def here (b:Bx)(l:Nat):Bx:={b with L:=b.L.set l b.R.length}
noncomputable def x5 (b:Bx)(h:Hl):Bx:={b with H:=b.H++[h]}
end Bx
theorem gR (x:Dr)(b:Bx)(γ:bp):hK (gM x b γ) (.loc 2) (.str (st "rows"))=aa (.loc 3):=by kernel_rfl
theorem gL (x:Dr)(b:Bx)(γ:bp):hK (gM x b γ) (.loc 2) (.str (st "labels"))=aa (.loc 4):=by kernel_rfl
theorem gH (x:Dr)(b:Bx)(γ:bp):hK (gM x b γ) (.loc 2) (.str (st "handlers"))=aa (.loc 5):=by kernel_rfl
section
variable {d:Nat}{x:Dr}{b:Bx}{γ:bp}{Q:V->bp->Prop}{E:bp->Prop}
theorem Ce (o:Nat)(g:Option Int)(hl:b.R.length<5000)(h:Q .none (gM x (b.put o g) γ)):Wp (cl (d+1) 26 [.loc 2,.str (nm o),oV g] (gM x b γ)) Q E:=by refine HG rC rfl rfl ?_;refine(?_:iP G (cl d) 1000 E lR [aa (.loc 2),aa (.str (nm o)),aa (oV g)] _ _ _);dsimp only[lR,cW,cq,dX,cA,md,dT,ew,el,dv,cZ,Gs,az,aD,ah,ai];refine Gi (gR _ _ _) ⟨rfl,by decide,Li rfl ⟨show _<100000 by rw[ak];exact qf hl,?_⟩⟩;have e:(b.R++[(o,g)]).map rV=b.R.map rV++[rV (o,g)]:=bM;unfold gM Bx.put at h;rw[e]at h;exact h
theorem Jn (o:Nat)(hl:b.R.length<5000)(h:Q .none (gM x (b.put o ae) γ)):Wp (cl (d+1) 26 [.loc 2,.str (nm o)] (gM x b γ)) Q E:=by refine HG rC rfl rfl ?_;refine(?_:iP G (cl d) 1000 E lR [aa (.loc 2),aa (.str (nm o)),aa .none] _ _ _);dsimp only[lR,cW,cq,dX,cA,md,dT,ew,el,dv,cZ,Gs,az,aD,ah,ai];refine Gi (gR _ _ _) ⟨rfl,by decide,Li rfl ⟨show _<100000 by rw[ak];exact qf hl,?_⟩⟩;have e:(b.R++[(o,ae)]).map rV=b.R.map rV++[rV (o,ae)]:=bM;unfold gM Bx.put at h;rw[e]at h;exact h
theorem OC (hl:b.L.length<5000)(h:Q (.int b.L.length) (gM x b.fD γ)):Wp (cl (d+1) 27 [.loc 2] (gM x b γ)) Q E:=by
 refine call nP 0 rfl rfl ?_;dsimp only[nP,so,cW,cq,eP,cA,eO,md,el,dF,dv,cZ,Gs,Qy,d5,d6,d4,ah];refine Gi (gL _ _ _) ⟨rfl,Li rfl ⟨show _<100000 by rw[ak];exact qf hl,?_⟩⟩;have e:(b.L++[-1]).map V.int=b.L.map V.int++[V.int (0-1)]:=bM;unfold gM Bx.fD at h;rw[e]at h;refine je (gL x b.fD γ) rfl ⟨show(b.L.map V.int++[V.int (0-1)]).length<100000 by rw[ao,ak];show _+1<_;exact aba hl,?_⟩;have e2:(((b.L.map V.int++[V.int (0-1)]).length:Nat):Int)-1=b.L.length:=by rw[ao,ak];show((b.L.length+1:Nat):Int)-1=_;exact aa9
 rw[<- e2]at h;exact h
theorem J7 (l:Nat)(hl:l<b.L.length)(h1:b.L.length<5000)(h2:b.R.length<5000)(h:Q .none (gM x (b.here l) γ)):Wp (cl (d+1) 28 [.loc 2,.int l] (gM x b γ)) Q E:=by
 refine call ph 0 rfl rfl ?_;dsimp only[ph,u9,cW,cq,cA,eO,hJ,dv,cZ,Gs,d5,d6,d4,ah,ai];refine je (gR _ _ _) rfl ⟨show _<100000 by rw[ak];exact qf h2,je (gL _ _ _) (E9 _ rfl zj (by rw[ak];exact Jj hl) (by rw[ak];exact qf h1)) ?_⟩;have e:(b.L.set l b.R.length).map V.int=(b.L.map V.int).set l (V.int ((b.R.map rV).length:Nat)):=by rw[BC,ak]
 unfold gM Bx.here at h;rw[e]at h;exact h
end
end Internal.Pu
end
noncomputable section
open PySem
namespace Internal.Pu
variable {cs:List V}{L' L:List Int}{bE b' b0:Bx}{β α:Type}{own:Nat->Prop}{P1 Hs3 Hs:List Hl}{vs:Vs}{v10 v6 v8 v1 v5 v7 v9 v2 v4 v3 v0:Option V}{K:V->Vs->bp->Prop}{g:Option Int}{A:Vs->bp->Prop}{kI dI fo p pc:Int}{c:List Row}{Q:V->bp->Prop}{x:Dr}{mid H N M lo j hi m o t i d:Nat}{B E:bp->Prop}{r:Row}{τ γ σ:bp}
def okW (w:Str)(r:Row):Prop:=match r.2 with
 |none=>jr (.str w) (st " ")=aa [.str (nm r.1)]
 |some i=>∃t,jr (.str w) (st " ")=aa [.str (nm r.1),.str t]/\nj (.str t)=aa (.int i)
abbrev aaf (x:Str)(l:List Str):Bool:=(!l.isEmpty&&l.all (λp=>!p.cps.toList.contains 32)&&decide (jl 32 l=x.cps.toList))&&(decide (x.length<2000)&&decide (l.length<2000))
def dg (i:Nat):Str:=if i=0 then st "0" else if i=1 then st "1" else st "2"
theorem Pa (i:Nat)(h:i<3):nj (.str (dg i))=aa (.int i):=by
 match i,h with
 |0,_=>kernel_rfl
 |1,_=>kernel_rfl
 |2,_=>kernel_rfl
def sM:List (List (Str×Nat×Option Nat)) :=
 [[(st "CONST 0",4,aa 0),(st "POP",6,ae)],
  [(st "CONST 0",4,aa 0),(st "GETLOC 0",11,aa 0),(st "ADD",30,ae),(st "SETLOC 0",12,aa 0),(st "POP",6,ae)],
  [(st "HOLE",70,ae),(st "CONST 0",4,aa 0),(st "NEWARR 2",69,aa 2),(st "POP",6,ae)],
  [(st "GETGLOB 1",18,aa 1),(st "UNDEF",0,ae),(st "CONST 0",4,aa 0),(st "CALL 1",63,aa 1),(st "POP",6,ae)],
  [(st "NEWOBJ",68,ae),(st "CONST 0",4,aa 0),(st "INITPROP 1",71,aa 1),(st "POP",6,ae)],
  [(st "GETLOC 0",11,aa 0),(st "DUP",7,ae),(st "SWAP",9,ae),(st "TOKEY",81,ae),(st "GETELEM",25,ae),(st "POP",6,ae)]]
noncomputable def nk (p:Str×Nat×Option Nat):Row:=(p.2.1,p.2.2.map cJ)
def QZ:Bool:=sM.all λl=>decide (l.length<=6)&&l.all λp=>decide (p.2.1<85)&&match p.2.2 with
 |none=>aaf p.1 [nm p.2.1]
 |some i=>decide (i<3)&&aaf p.1 [nm p.2.1,dg i]
theorem y9:QZ=af:=by decide +kernel
theorem B0 {l:List (Str×Nat×Option Nat)}(hl:l∈sM):l.length<=6:=by have h:=bI.1 y9 l hl;rw[bx]at h;exact of_decide_eq_true h.1
theorem N1 {l:List (Str×Nat×Option Nat)}(hl:l∈sM):∀p∈l,okW p.1 (nk p):=by
 intro p hp;have h:=bI.1 y9 l hl;rw[bx]at h;have h:=bI.1 h.2 p hp;rw[bx]at h;obtain⟨w,o,g⟩:=p;induction g with
 |none =>refine(?_:jr (.str w) (st " ")=_);rw[BX];exact kj [nm o] h.2
 |some i =>have h2:=h.2;rw[bx]at h2;refine⟨dg i,?_,Pa i (of_decide_eq_true h2.1)⟩;rw[BX];exact kj [nm o,dg i] h2.2
theorem zr (b:Bx):b.o8 []=b:=by delta Bx.o8;rw[aP]
theorem wD (b:Bx)(r:Row)(l:List Row):b.o8 (r::l)=(b.put r.1 r.2).o8 l:=by delta Bx.o8 Bx.put;dsimp only;rw[aV];rfl
def BP:List S:=[.asg 5 (.split (.v 4) (st " ")),
  .expr (.call 26 [.v 1,.sub (.v 5) (.k (.int 0)),.ite (.cmp (.len (.v 5)) [.gt] [.k (.int 1)]) (.k6 (.sub (.v 5) (.k (.int 1)))) (.k (.none))])]
theorem yE {d:Nat}{x:Dr}{A:Vs->bp->Prop}{K:V->Vs->bp->Prop}{E:bp->Prop}{γ:bp}{v0 v2 v3:Option V}:∀(l:List (Str×Nat×Option Nat)) (b:Bx) (a c:Option V),
  (∀p∈l,okW p.1 (nk p))->b.R.length+l.length<5000->(∀a c,A [v0,aa (.loc 2),v2,v3,a,c] (gM x (b.o8 (l.map nk)) γ)) ->
  Wp (ja (.n 4) (λvs σ=>l5 G (cl (d+1)) 1000 BP vs σ) (l.map λp=>.str p.1) [v0,aa (.loc 2),v2,v3,a,c] (gM x b γ)) (tK A K) E
 |[]=>λb a c U U h=>by have:=h a c;rw[sZ,zr]at this;exact this
 |p::l=>λb a c hw hn h=>by
  have ih:=yE (d:=d) (x:=x) (A:=A) (K:=K) (E:=E) (γ:=γ) (v0:=v0) (v2:=v2) (v3:=v3) l (b.put (nk p).1 (nk p).2);have hp:=hw p aR;rw[az]at hn;have hn1:(b.put (nk p).1 (nk p).2).R.length=b.R.length+1:=ao;have key:∀c',Wp (cl (d+1) 26 [.loc 2,.str (nm (nk p).1),oV (nk p).2] (gM x b γ)) (λU σ=>tK (λvs σ=>Wp (ja (.n 4) (λvs σ=>l5 G (cl (d+1)) 1000 BP vs σ) (l.map λp=>.str p.1) vs σ) (tK A K) E) K (.nx,[v0,aa (.loc 2),v2,v3,aa (.str p.1),aa c']) σ) E:=λc'=>by refine Ce _ _ (aa7 hn) ?_;refine ih _ _ (λq hq=>hw q (bf _ hq)) (by rw[hn1];exact aa6 hn) λa c=>?_;have:=h a c;rw[eM,wD]at this;exact this
  refine Wp.bind (Wp.imp (fF _ _ _ _ _ _ _ (λvs σ=>Wp (ja (.n 4) (λvs σ=>l5 G (cl (d+1)) 1000 BP vs σ) (l.map λp=>.str p.1) vs σ) (tK A K) E) K ?_) λq σ h=>?_)
  .delta BP;dsimp only[cW,cq,cj,i9,cA,dy,eO,yG,Ex,dT,ew,eT,el,eu,dv,cZ,Gs,Tb,qU,Ld,acr,ah,ai,aF,aG];delta okW at hp;induction hg:(nk p).2 with
   |none =>rw[hg]at hp;refine Gi hp ⟨lm rfl,Gi rfl ⟨lm rfl,?_⟩⟩;have k:=key (.lst [.str (nm (nk p).1)]);rw[hg]at k;exact k
   |some i =>rw[hg]at hp;obtain⟨t,h1,h2⟩:=hp;refine Gi h1 ⟨lm rfl,Gi rfl ⟨lm rfl,Gi h2 ?_⟩⟩;have k:=key (.lst [.str (nm (nk p).1),.str t]);rw[hg]at k;exact k
  .match q with
   |(.nx,vs)=>exact h
   |(.rt v,vs)=>exact h
theorem wj  {b:Bx}(hx:x.Ok)(hb:b.R.length<4000)
  (h:∀x' l yB,x'.Ok->l∈sM->Q .none (gM x' (b.o8 (l.map nk)) yB)):Wp (cl (d+2) 29 [.loc 1,.loc 2] (gM x b γ)) Q E:=by
 refine call mi 4 rfl rfl ?_;dsimp only[mi,qI,cW,cq,eH,eP,cA,dy,md,dT,ew,el,eu,fH,dv,cZ,Gs,cak,qU,Ie,Zj,d5,d6,d4,gq,az,aD,ah,ai,aF,aG];refine jX hx (by decide) λr x' h0 h1 H6=>⟨lm rfl,lm rfl,lm rfl,qm (gE _ _),lm rfl,Li (gE _ _) ⟨lm rfl,?_⟩⟩;rw[sE];refine⟨lm rfl,lm rfl,lm rfl,Li (gE _ _) ⟨lm rfl,qm (gE _ _),lm rfl,Li (gE _ _) ⟨lm rfl,?_⟩⟩⟩;rw[sE];have hP:∀(σ:bp) (n:Nat),σ[n]?=aa (.list (sM.map λl=>.lst (l.map λp=>.str p.1)))->∃l,l∈sM/\hK σ (.loc n) (.int r)=aa (.lst (l.map λp=>.str p.1)):=by
  intro σ n hn;have hr:r.toNat<sM.length:=show _<6 by exact YG h1
  rw[DK _ hn,zQ σ h0 (by rw[ak];show _<6;exact h1) (by decide),cy,bA hr];exact⟨_,vn hr,rfl⟩
 obtain⟨l,hl,e⟩:=hP _ _ (gE _ _);have hs:=B0 hl;refine Gi e ?_;exact yE (x:=x') (A:=λU σ=>Q .none σ) (K:=λv U σ=>Q v σ) (γ:=γ++[_]++[_]) l b _ _ (N1 hl) (YF hb hs) λa c=>h x' l _ H6 hl
noncomputable def cost:Nat->Nat
 |0=>6
 |k+1=>2*cost k+10
structure Bd (b:Bx)(n:Nat):Prop where
 r:b.R.length<=n
 l:b.L.length<=n
 h:b.H.length<=n
section
variable {b:Bx}{n:Nat}
theorem Bd.put (h:Bd b n)(o:Nat)(g:Option Int):Bd (b.put o g) (n+1):=⟨by have:=h.r;show(b.R++[_]).length<=_;rw[ao];exact gm this,er h.l,er h.h⟩
theorem Bd.o8 (h:Bd b n){l:List (Str×Nat×Option Nat)}(hl:l∈sM):Bd (b.o8 (l.map nk)) (n+6) :=
 ⟨by have:=h.r;have:=B0 hl;show(b.R++_).length<=_;rw[ao,ak];exact YE (by assumption) this,aQ h.l (j4 _ _),aQ h.h (j4 _ _)⟩
theorem Bd.fD (h:Bd b n):Bd b.fD (n+1):=⟨er h.r,by have:=h.l;show(b.L++[_]).length<=_;rw[ao];exact gm this,er h.h⟩
theorem Bd.here (h:Bd b n)(l:Nat):Bd (b.here l) n:=⟨h.r,by have:=h.l;show(b.L.set _ _).length<=_;rw[bD];exact this,h.h⟩
theorem Bd.x5 (h:Bd b n)(l:Hl):Bd (b.x5 l) (n+1):=⟨er h.r,er h.l,by have:=h.h;show(b.H++[_]).length<=_;rw[ao];exact gm this⟩
theorem Bd.le (h:Bd b n)(q:n<=m):Bd b m:=⟨aQ h.r q,aQ h.l q,aQ h.h q⟩
end
noncomputable def l0 (b:Bx):Nat:=b.L.length
noncomputable def l1 (b:Bx):Nat:=b.fD.L.length
noncomputable def l2 (b:Bx):Nat:=b.fD.fD.L.length
noncomputable def l3 (b:Bx):Nat:=b.fD.fD.fD.L.length
def tA (b:Bx):Bx:=((b.fD.fD.fD.here (l0 b)).put 11 (aa 0)).put 59 (aa (l1 b))
def tB (lp:Bool)(b b2:Bx):Bx:=(b2.put 58 (aa (if lp then l0 b else l2 b:Nat))).here (l1 b)
def Qg (b:Bx):Bx:=(((((b.fD.fD.put 11 (aa 0)).put 76 ae).here (l0 b)).put 77 (aa (l1 b))).put 12 (aa 0)).put 6 ae
def kyB (b b2:Bx):Bx:=((b2.put 58 (aa (l0 b))).here (l1 b)).put 6 ae
def M4 (b:Bx):Bx:=b.fD.fD.fD.fD.here (l0 b)
def m5 (b b2:Bx):Bx:=((b2.put 18 (aa 1)).put 6 ae).here (l1 b)
def grC (fin:Bool)(b b2:Bx):Bx:=(((if fin then(m5 b b2).put 78 (aa (l2 b))else m5 b b2)).put 58 (aa (l3 b))).here (l2 b)
def Eg (fin:Bool)(b b2:Bx):Bx:=if fin then grC fin b b2 else((grC fin b b2).put 12 (aa 0)).put 6 ae
def grE (fin:Bool)(dp:Nat)(b b7:Bx):Bx:=((if fin then b7.put 79 ae else b7).here (l3 b)).x5 ⟨l0 b,l1 b,l2 b,dp,fin⟩
def cnB (j:Nat)(b:Bx):Bx:=((((b.fD.put 11 (aa 0)).put j (aa (l0 b))).put 4 (aa 0)).here (l0 b)).put 6 ae
noncomputable def otB (j:Nat)(b:Bx):Bx:=(b.put 4 (aa 0)).put j ae
inductive Gn:Nat->Nat->Bx->Bx->Prop
 |sim {dp k b l} (h:l∈sM):Gn dp k b (b.o8 (l.map nk))
 |lop {dp k b b2} (h:Gn dp k (tA b) b2):Gn dp (k+1) b ((tB af b b2).here (l2 b))
 |iff {dp k b b2 b3} (h:Gn dp k (tA b) b2) (h2:Gn dp k (tB ag b b2) b3):Gn dp (k+1) b (b3.here (l2 b))
 |key {dp k b b2} (h:Gn (dp+1) k (Qg b) b2):Gn dp (k+1) b (kyB b b2)
 |Z3 {dp k b b2 b7} (fin:Bool) (h:Gn dp k (M4 b) b2) (h2:Gn (dp+if fin then 2 else 0) k (Eg fin b b2) b7):Gn dp (k+1) b (grE fin dp b b7)
 |cnd {dp k b} (j:Nat) (h:j=61\/j=62):Gn dp (k+1) b (cnB j b)
 |out {dp k b} (j:Nat) (h:j=65\/j=66):Gn dp (k+1) b (otB j b)
section
variable {b b2:Bx}{n:Nat}
theorem La (h:Bd b n):Bd (tA b) (n+5):=((h.fD.fD.fD.here _).put _ _).put _ _
theorem K8 (lp:Bool)(h:Bd b2 n):Bd (tB lp b b2) (n+1):=(h.put _ _).here _
theorem OE (h:Bd b n):Bd (Qg b) (n+7):=(((((h.fD.fD.put _ _).put _ _).here _).put _ _).put _ _).put _ _
theorem OD (h:Bd b2 n):Bd (kyB b b2) (n+2):=((h.put _ _).here _).put _ _
theorem O2 (h:Bd b n):Bd (M4 b) (n+4):=h.fD.fD.fD.fD.here _
theorem G7 (h:Bd b2 n):Bd (m5 b b2) (n+2):=((h.put _ _).put _ _).here _
theorem G6 (fin:Bool)(h:Bd b2 n):Bd (grC fin b b2) (n+if fin then 4 else 3):=by
 induction fin
 .exact((G7 h).put _ _).here _
 .exact(((G7 h).put _ _).put _ _).here _
theorem O0 (fin:Bool)(h:Bd b2 n):Bd (Eg fin b b2) (n+if fin then 4 else 5):=by
 induction fin
 .exact((G6 ag h).put _ _).put _ _
 .exact G6 af h
theorem OZ (fin:Bool)(dp:Nat)(h:Bd b2 n):Bd (grE fin dp b b2) (n+if fin then 2 else 1):=by
 induction fin
 .exact(h.here _).x5 _
 .exact((h.put _ _).here _).x5 _
end
theorem HC:∀k,6<=cost k
 |0=>aO _
 |k+1=>by show 6<=2*cost k+10;exact YD
theorem Gn.bd {dp k:Nat}{b:Bx}(h:Gn dp k b b'):∀ {n},Bd b n->Bd b' (n+cost k):=by
 induction h with
 |sim h=>exact λq=>(q.o8 h).le (iY (HC _) _)
 |lop h ih=>exact λ{n} q=>((K8 af (ih (La q))).here _).le (by show n+5+cost _+1<=n+(2*cost _+10);exact YC)
 |iff h h2 ih Be=>exact λ{n} q=>((Be (K8 ag (ih (La q)))).here _).le (by show n+5+cost _+1+cost _<=n+(2*cost _+10);exact YB)
 |key h ih=>exact λ{n} q=>(OD (ih (OE q))).le (by show n+7+cost _+2<=n+(2*cost _+10);exact YA)
 |Z3 fin h h2 ih Be =>
  exact λ{n} q=>by
   refine(OZ fin _ (Be (O0 fin (ih (O2 q))))).le ?_;induction fin
   .show n+4+cost _+5+cost _+1<=n+(2*cost _+10);exact Yz
   .show n+4+cost _+4+cost _+2<=n+(2*cost _+10);exact Yy
 |cnd j h=>exact λ{n} q=>(((((q.fD.put _ _).put _ _).put _ _).here _).put _ _).le (by show n+5<=n+(2*cost _+10);exact Yx)
 |out j h=>exact λ{n} q=>((q.put _ _).put _ _).le (by show n+2<=n+(2*cost _+10);exact Yw)
theorem n11:nm 11=st "GETLOC":=rfl
theorem n59:nm 59=st "JF":=rfl
theorem YW:nm 58=st "JMP":=rfl
theorem n76:nm 76=st "FORIN":=rfl
theorem n77:nm 77=st "NEXTIN":=rfl
theorem n12:nm 12=st "SETLOC":=rfl
theorem n6:nm 6=st "POP":=rfl
theorem n18:nm 18=st "GETGLOB":=rfl
theorem n78:nm 78=st "GOSUB":=rfl
theorem n79:nm 79=st "RETSUB":=rfl
theorem n4:nm 4=st "CONST":=rfl
theorem n0:nm 0=st "UNDEF":=rfl
theorem n61:nm 61=st "JFK":=rfl
theorem n62:nm 62=st "JTK":=rfl
theorem n65:nm 65=st "RET":=rfl
theorem n66:nm 66=st "THROW":=rfl
section
variable {b:Bx}{n:Nat}
theorem put3 {s:Str}(o:Nat)(g:Option Int)(e:nm o=s)(hl:Bd b n)(hn:n<5000)(h:Bd (b.put o g) (n+1)->Q .none (gM x (b.put o g) γ)):Wp (cl (d+1) 26 [.loc 2,.str s,oV g] (gM x b γ)) Q E:=by rw[<- e];exact Ce o g (cm hl.r hn) (h (hl.put _ _))
theorem put2 {s:Str}(o:Nat)(e:nm o=s)(hl:Bd b n)(hn:n<5000)(h:Bd (b.put o ae) (n+1)->Q .none (gM x (b.put o ae) γ)):Wp (cl (d+1) 26 [.loc 2,.str s] (gM x b γ)) Q E:=by rw[<- e];exact Jn o (cm hl.r hn) (h (hl.put _ _))
theorem vR (hl:Bd b n)(hn:n<5000)(h:Bd b.fD (n+1)->Q (.int (b.L.length:Nat)) (gM x b.fD γ)):Wp (cl (d+1) 27 [.loc 2] (gM x b γ)) Q E :=
 OC (cm hl.l hn) (h hl.fD)
theorem kD (l:Nat)(hl:Bd b n)(hn:n<5000)(q:l<b.L.length)(h:Bd (b.here l) n->Q .none (gM x (b.here l) γ)):Wp (cl (d+1) 28 [.loc 2,.int l] (gM x b γ)) Q E :=
 J7 l q (cm hl.l hn) (cm hl.r hn) (h (hl.here l))
end
def KS (k:Nat):Prop:=∀(d:Nat) (x:Dr) (b:Bx) (γ:bp) (dp n:Nat) (dI kI:Int) (Q:V->bp->Prop) (E:bp->Prop),x.Ok->Bd b n->n+cost k<4000->dI=dp->kI=k ->
 (∀x' b' yB,x'.Ok->Gn dp k b b'->Bd b' (n+cost k)->Q .none (gM x' b' yB))->Wp (cl (d+2*k+3) 30 [.loc 1,.loc 2,.int dI,.int kI] (gM x b γ)) Q E
theorem Gn.DC {dp k:Nat}{b:Bx}(h:Gn dp k b b'):b.L.length<=b'.L.length:=by
 induction h with
 |sim h=>exact aO _
 |lop h ih =>
  refine aQ (aQ ?_ ih) ?_
  .refine(?_:_<=(((_++[_])++[_]++[_]).set _ _).length);rw[bD,ao,ao,ao];exact MA
  .refine(?_:_<=((i3 _ _ _).set _ _).length);rw[bD,bD];exact aO _
 |iff h h2 ih Be =>
  refine aQ (aQ ?_ ih) (aQ (aQ ?_ Be) ?_)
  .refine(?_:_<=(((_++[_])++[_]++[_]).set _ _).length);rw[bD,ao,ao,ao];exact MA
  .refine(?_:_<=(i3 _ _ _).length);rw[bD];exact aO _
  .refine(?_:_<=(i3 _ _ _).length);rw[bD];exact aO _
 |key h ih =>
  refine aQ (aQ ?_ ih) ?_
  .refine(?_:_<=(((_++[_])++[_]).set _ _).length);rw[bD,ao,ao];exact Yv
  .refine(?_:_<=(i3 _ _ _).length);rw[bD];exact aO _
 |Z3 fin h h2 ih Be =>
  refine aQ (aQ ?_ ih) (aQ (aQ ?_ Be) ?_)
  .refine(?_:_<=((((_++[_])++[_]++[_])++[_]).set _ _).length);rw[bD,ao,ao,ao,ao];exact Yu
  .induction fin
   .refine(?_:_<=((i3 _ _ _).set _ _).length);rw[bD,bD];exact aO _
   .refine(?_:_<=((i3 _ _ _).set _ _).length);rw[bD,bD];exact aO _
  .induction fin
   .refine(?_:_<=(i3 _ _ _).length);rw[bD];exact aO _
   .refine(?_:_<=(i3 _ _ _).length);rw[bD];exact aO _
 |cnd j h =>refine(?_:_<=((_++[_]).set _ _).length);rw[bD,ao];exact Yt
 |out j h=>exact aO _
section
theorem dA (b:Bx):b.fD.L.length=b.L.length+1:=ao
theorem gI (b:Bx)(l:Nat):(b.here l).L.length=b.L.length:=bD
theorem Gv (b:Bx):l1 b=b.L.length+1:=dA b
theorem H4 (b:Bx):l2 b=b.L.length+2:=by unfold l2;rw[dA,dA]
theorem l3e (b:Bx):l3 b=b.L.length+3:=by unfold l3;rw[dA,dA,dA]
theorem EN (b:Bx):(tA b).L.length=b.L.length+3:=by refine(?_:((b.fD.fD.fD).here _).L.length=_);rw[gI,dA,dA,dA]
theorem Gx (b:Bx):(Qg b).L.length=b.L.length+2:=by refine(?_:((b.fD.fD.put _ _).put _ _ |>.here _).L.length=_);rw[gI];refine(?_:b.fD.fD.L.length=_);rw[dA,dA]
theorem G8 (b:Bx):(M4 b).L.length=b.L.length+4:=by refine(?_:((b.fD.fD.fD.fD).here _).L.length=_);rw[gI,dA,dA,dA,dA]
theorem EM (lp:Bool)(b b2:Bx):(tB lp b b2).L.length=b2.L.length:=gI _ _
theorem G5 (fin:Bool)(b b2:Bx):(Eg fin b b2).L.length=b2.L.length:=by
 induction fin
 .refine(?_:(i3 (i3 _ _ _) _ _).length=_);rw[bD,bD];rfl
 .refine(?_:(i3 (i3 _ _ _) _ _).length=_);rw[bD,bD];rfl
variable {k:Nat}{b:Bx}{dp n:Nat}
theorem Iz (ih:KS k)(lp:Bool)(hx:x.Ok)(hb:Bd b n)(hn:n+cost (k+1)<4000)(hd:dI=dp)(hk:kI=(k+1:Nat))
  (h:∀x' b' yB,x'.Ok->Gn dp (k+1) b b'->Q .none (gM x' b' yB)):Wp (cl (d+2*k+4) 31 [.loc 1,.loc 2,.int dI,.int kI,.bool lp] (gM x b γ)) Q E:=by
 have hc:n+(2*cost k+10)<4000:=hn;refine call pe 3 rfl rfl ?_;dsimp only[pe,u5,cW,cq,dX,eP,i8,i9,dy,dT,ew,el,fJ,dW,dv,cZ,mS,i6,i5,Gs,Tb,oy,xe,Qy,d5,d6,d4,gq,az,aD,ah,ai,aF,aG];refine vR hb (zq hn) λhb=>vR hb (wC hn) λhb=>vR hb (zp hn) λhb=>⟨lm rfl,rfl,?_⟩;refine kD _ hb (wB hn) (by rw[dA,dA,dA];exact Ys) λhb=>?_;refine put3 11 (aa 0) n11 hb (wB hn) λhb=>put3 59 (aa (l1 b)) n59 hb (rT hn) λhb=>?_;refine ih d x (tA b) γ dp _ dI (kI-1) _ _ hx hb (Yr hn hc) hd (wA hk) λx2 b2 Ni rq g2 Ee=>?_;have e2:b.L.length+3<=b2.L.length:=EN b▸g2.DC;induction lp with
 |true =>rw[if_pos rfl];refine put3 58 (aa (l0 b)) YW Ee (Mz hn hc) λhb=>?_;refine kD (l1 b) hb (FT hn hc) (by show l1 b<b2.L.length;rw[Gv];exact My e2) λhb=>?_;refine kD (l2 b) hb (FT hn hc) (by show l2 b<(tB af b b2).L.length;rw[H4,EM];exact Yq e2) λhb=>?_;exact h _ _ _ rq (.lop g2)
 |false =>rw[if_neg bq];refine put3 58 (aa (l2 b)) YW Ee (Mz hn hc) λhb=>?_;refine kD (l1 b) hb (FT hn hc) (by show l1 b<b2.L.length;rw[Gv];exact My e2) λhb=>?_;refine ih d x2 (tB ag b b2) Ni dp _ dI (kI-1) _ _ rq hb (Yp hc) hd (wA hk) λx3 b3 γ3 Bg g3 ZN=>?_;have e3:b2.L.length<=b3.L.length:=EM ag b b2▸g3.DC;refine kD (l2 b) ZN (Yo hc) (by rw[H4];exact Yn e2 e3) λhb=>?_;exact h _ _ _ Bg (.iff g2 g3)
theorem JO (ih:KS k)(hx:x.Ok)(hb:Bd b n)(hn:n+cost (k+1)<4000)(hd:dI=dp)(hk:kI=(k+1:Nat))
  (h:∀x' b' yB,x'.Ok->Gn dp (k+1) b b'->Q .none (gM x' b' yB)):Wp (cl (d+2*k+4) 32 [.loc 1,.loc 2,.int dI,.int kI] (gM x b γ)) Q E:=by
 have hc:n+(2*cost k+10)<4000:=hn;refine call uR 2 rfl rfl ?_;refine vR hb (zq hn) λhb=>vR hb (wC hn) λhb=>⟨lm rfl,rfl,?_⟩;refine put3 11 (aa 0) n11 hb (zp hn) λhb=>put2 76 n76 hb (wB hn) λhb=>?_;refine kD (l0 b) hb (rT hn) (by show l0 b<b.fD.fD.L.length;rw[dA,dA];show b.L.length<_;exact Ym) λhb=>?_;refine put3 77 (aa (l1 b)) n77 hb (rT hn) λhb=>put3 12 (aa 0) n12 hb (Yl hn) λhb=>put2 6 n6 hb (Yk hn) λhb=>?_;refine ih d x (Qg b) γ (dp+1) _ (dI+1) (kI-1) _ _ hx hb (Yj hc) (Yi hd) (wA hk) λx2 b2 Ni rq g2 Ee=>?_;have e2:b.L.length+2<=b2.L.length:=Gx b▸g2.DC;refine put3 58 (aa (l0 b)) YW Ee (Yh hn hc) λhb=>?_;refine kD (l1 b) hb (Mx hn hc) (by show l1 b<b2.L.length;rw[Gv];exact Ye e2) λhb=>?_;exact put2 6 n6 hb (Mx hn hc) λhb=>h _ _ _ rq (.key g2)
theorem GS {P:bp->Prop}(l0 l1 l2:Nat)(fin:Bool)(hb:Bd b n)(hn:n<5000)(hd:dI=dp)(hm:qO (m+1) 100000=af)(h:P (gM x (b.x5 ⟨l0,l1,l2,dp,fin⟩) γ)) :
  Gt (hK (gM x b γ) (.loc 2) (.str (st "handlers"))) λz=>uM (gM x b γ) z=af/\m<lim/\Ls (gM x b γ) z λn l=>l.length<lim/\P ((gM x b γ).set n (.list (l++[.tup [.int l0,.int l1,.int l2,.int dI,.bool fin]]))):=by
 refine Gi (gH _ _ _) ⟨rfl,lm hm,Li rfl ⟨show _<100000 by have:=hb.h;rw[ak];exact Yd hn this,?_⟩⟩;have e:(b.H++[(⟨l0,l1,l2,dp,fin⟩:Hl)]).map ZD=b.H.map ZD++[ZD ⟨l0,l1,l2,dp,fin⟩]:=bM;unfold gM Bx.x5 at h;rw[e]at h;subst hd;exact h
theorem OY (ih:KS k)(fin:Bool)(hx:x.Ok)(hb:Bd b n)(hn:n+cost (k+1)<4000)(hd:dI=dp)(hk:kI=(k+1:Nat))
  (h:∀x' b' yB,x'.Ok->Gn dp (k+1) b b'->Q .none (gM x' b' yB)):Wp (cl (d+2*k+4) 33 [.loc 1,.loc 2,.int dI,.int kI,.bool fin] (gM x b γ)) Q E:=by
 have hc:n+(2*cost k+10)<4000:=hn;refine call lC 4 rfl rfl ?_;dsimp only[lC,oS,cZ,fJ,cW,cq,dX,eP,i8,cA,dy,yG,md,dT,ew,el,fJ,dW,dv,cZ,mS,i6,i5,Gs,Tb,oy,xe,Ig,Qy,cmi,aaV,d5,d6,d4,gq,az,aD,ah,ai,aF,aG];refine vR hb (zq hn) λhb=>vR hb (wC hn) λhb=>vR hb (zp hn) λhb=>vR hb (wB hn) λhb=>⟨lm rfl,rfl,?_⟩;refine kD (l0 b) hb (rT hn) (by show l0 b<b.fD.fD.fD.fD.L.length;rw[dA,dA,dA,dA];show b.L.length<_;exact Yb) λhb=>?_;refine ih d x (M4 b) γ dp _ dI (kI-1) _ _ hx hb (X9 hn hc) hd (wA hk) λx2 b2 Ni rq g2 Ee=>?_;have e2:b.L.length+4<=b2.L.length:=G8 b▸g2.DC;refine put3 18 (aa 1) n18 Ee (X8 hn hc) λhb=>put2 6 n6 hb (X7 hn hc) λhb=>?_;refine kD (l1 b) hb (FR hn hc) (by show l1 b<b2.L.length;rw[Gv];exact X6 e2) λhb=>?_;induction fin with
 |true =>rw[if_pos rfl];refine put3 78 (aa (l2 b)) n78 hb (FR hn hc) λhb=>put3 58 (aa (l3 b)) YW hb (FQ hn hc) λhb=>?_;refine kD (l2 b) hb (Mw hn hc) (by show l2 b<(m5 b b2).L.length;unfold m5;rw[gI,H4];show _<b2.L.length;exact Mv e2) λhb=>?_;refine⟨rfl,?_⟩;refine ih d x2 (Eg af b b2) Ni (dp+2) _ (dI+2*1) (kI-1) _ _ rq hb (X3 hc) (X2 hd) (wA hk) λx3 b3 γ3 Bg g3 ZN=>?_;have e3:b2.L.length<=b3.L.length:=G5 af b b2▸g3.DC;refine put2 79 n79 ZN (X1 hc) λhb=>kD (l3 b) hb (Mu hc) (by show l3 b<b3.L.length;rw[l3e];exact Mt e2 e3) λhb=>?_;exact GS (P:=λσ=>Q .none σ) (l0 b) (l1 b) (l2 b) af hb (Mu hc) hd rfl (h _ _ _ Bg (.Z3 af g2 g3))
 |false =>rw[if_neg bq];refine put3 58 (aa (l3 b)) YW hb (FR hn hc) λhb=>?_;refine kD (l2 b) hb (FQ hn hc) (by show l2 b<(m5 b b2).L.length;unfold m5;rw[gI,H4];show _<b2.L.length;exact Mv e2) λhb=>?_;refine put3 12 (aa 0) n12 hb (FQ hn hc) λhb=>put2 6 n6 hb (Mw hn hc) λhb=>⟨rfl,?_⟩;refine ih d x2 (Eg ag b b2) Ni dp _ (dI+2*0) (kI-1) _ _ rq hb (X0 hc) (XZ hd) (wA hk) λx3 b3 γ3 Bg g3 ZN=>?_;have e3:b2.L.length<=b3.L.length:=G5 ag b b2▸g3.DC;refine kD (l3 b) ZN (Ms hc) (by rw[l3e];exact Mt e2 e3) λhb=>?_;exact GS (P:=λσ=>Q .none σ) (l0 b) (l1 b) (l2 b) ag hb (Ms hc) hd rfl (h _ _ _ Bg (.Z3 ag g2 g3))
theorem EH {j:Int}(h:0<=j)(h2:j<2):j=0\/j=1:=by exact XY h h2
theorem QT:∀k:Nat,KS k:=by
 intro k;induction k with
 |zero =>intro d x b γ dp n dI kI Q E hx hb hn hd hk h;have hc:n+6<4000:=hn;refine call iL 2 rfl rfl ?_;subst hk;refine wj hx (cm hb.r (XX hc)) λx2 l Ni rq hl=>h _ _ _ rq (.sim hl) (hb.o8 hl)
 |succ k ih =>
  intro d x b γ dp n dI kI Q E hx hb hn hd hk h;have hc:n+(2*cost k+10)<4000:=hn;have h:∀x' b' yB,x'.Ok->Gn dp (k+1) b b'->Q .none (gM x' b' yB):=λx' b' yB hx g=>h x' b' yB hx g (g.bd hb);refine call iL 2 rfl rfl ?_;dsimp only[iL,mM,cW,cq,eH,cj,i9,cA,dy,dT,ew,eT,el,eu,dW,dv,cZ,Gs,Tb,qU,slt,Ld,AO,d5,d6,d4,gq,az,aD,ah,ai,aF,aG];rw[if_pos (decide_eq_true (show 0<kI by exact XW hk))];refine jX hx (by decide) λr x1 h0 h1 ru=>?_;refine jn (λh2=>?_) λh2=>jn (λh3=>?_) λh3=>jn (λh4=>?_) λh4=>jn (λh5=>?_) λh5=>jn (λh6=>?_) λh6=>?_
  .exact wj ru (cm hb.r (XU hn)) λx2 l Ni rq hl=>h _ _ _ rq (.sim hl)
  .exact Iz ih _ ru hb hn hd hk h
  .exact JO ih ru hb hn hd hk h
  .exact OY ih _ ru hb hn hd hk h
  .refine vR hb (zq hn) λhb=>put3 11 (aa 0) n11 hb (wC hn) λhb=>⟨lm rfl,jX ru (by decide) λj x2 j0 j1 rq=>?_⟩;have e:=EH j0 j1;refine e.elim (λe=>?_) (λe=>?_)
   .subst e;refine Gi rfl (put3 61 (aa (l0 b)) n61 hb (zp hn) λhb=>put3 4 (aa 0) n4 hb (wB hn) λhb=>kD (l0 b) hb (rT hn) (by show b.L.length<b.fD.L.length;rw[dA];exact Mr) λhb=>?_);exact put2 6 n6 hb (rT hn) λhb=>h _ _ _ rq (.cnd 61 (.inl rfl))
   .subst e;refine Gi rfl (put3 62 (aa (l0 b)) n62 hb (zp hn) λhb=>put3 4 (aa 0) n4 hb (wB hn) λhb=>kD (l0 b) hb (rT hn) (by show b.L.length<b.fD.L.length;rw[dA];exact Mr) λhb=>?_);exact put2 6 n6 hb (rT hn) λhb=>h _ _ _ rq (.cnd 62 (.inr rfl))
  .refine put3 4 (aa 0) n4 hb (zq hn) λhb=>⟨lm rfl,jX ru (by decide) λj x2 j0 j1 rq=>?_⟩;refine(EH j0 j1).elim (λe=>?_) (λe=>?_)
   .subst e;exact Gi rfl (put2 65 n65 hb (wC hn) λhb=>h _ _ _ rq (.out 65 (.inl rfl)))
   .subst e;exact Gi rfl (put2 66 n66 hb (wC hn) λhb=>h _ _ _ rq (.out 66 (.inr rfl)))
end
theorem QJ {G:List V}{Φ:Nat->List V->bp->R V}{l:List X}
  (h:xo G Φ vs E l cs σ λxs σ=>Wp (Φ 0 (.loc σ.length::xs) (σ++[.inst []])) (λr cD=>r=.none/\Q (.loc σ.length) cD) E):we G Φ vs E (.mk l) cs σ Q:=by
 refine Wp.bind (Wp.imp (lu G Φ vs E l cs σ _ h) λxs σ h=>Wp.bind (Wp.imp h λr cD h=>?_));obtain⟨rfl,h⟩:=h;exact h
def uF (n:Nat)(k:List V)(lc:Int):List V:=[.str (st "drawn"),.lst [],.loc (n+1),.lst k,.lst [],.loc (n+2),.lst [],.int lc,.int 0,.lst [],.bool ag,.bool ag,.none,.none,.lst []]
def Dl (σ:bp)(k:List V)(lc:Int)(c h:List V):bp:=σ++[.inst (uF σ.length k lc),.list c,.list h]
theorem gU  {o:O}(h:τ[i]?=aa o):(σ++τ)[σ.length+i]?=aa o:=by rw[cB (j4 _ _),m8];exact h
theorem Ha {o:O}(h:τ[0]?=aa o):(σ++τ)[σ.length]?=aa o:=gU (i:=0) h
theorem O5  {o:O}(h:σ[i]?=aa o):(σ++τ)[i]?=aa o:=by rw[aZ (aA.1 h).1];exact h
theorem sU (σ τ:bp)(i:Nat)(o:O):(σ++τ).set (σ.length+i) o=σ++τ.set i o:=by rw[CQ _ _ (j4 _ _),m8]
theorem sA (l:List V)(x:V)(f:Nat)(h:f=l.length):kz (σ++.inst l::τ) (.loc σ.length) f x=aa (σ++.inst (l++[x])::τ):=by refine(?_:I1 _ _ ((σ++.inst l::τ)[σ.length]?) f x=_);rw[Ha (τ:=.inst l::τ) rfl];refine(if_neg (Yg h)).trans ((if_pos h).trans ?_);exact congrArg aa (sU σ (.inst l::τ) 0 _)
theorem sA2 (l:List V)(x:V)(f:Nat)(h:f<l.length):kz (σ++.inst l::τ) (.loc σ.length) f x=aa (σ++.inst (l.set f x)::τ):=by refine(?_:I1 _ _ ((σ++.inst l::τ)[σ.length]?) f x=_);rw[Ha (τ:=.inst l::τ) rfl];refine(if_pos h).trans ?_;exact congrArg aa (sU σ (.inst l::τ) 0 _)
theorem gAt {l:List V}{f:Nat}{x:V}(h:l[f]?=aa x):yd (σ++.inst l::τ) (.loc σ.length) f=aa x:=by refine(?_:KJ ((σ++.inst l::τ)[σ.length]?) f=_);rw[Ha (τ:=.inst l::τ) rfl];exact h
theorem JT    (h:Q .none (Dl σ [] 0 [] [])):Wp (cl (d+1) 0 [.loc σ.length,.str (st "drawn"),.lst []] (σ++[.inst []])) Q E:=by refine call Bm 0 rfl rfl ?_;dsimp only[Bm,HO,cW,cq,eH,dT,CX,dv,cZ,Gs,qU,Ie,d5,d6,d4,aD,ah,ai];refine je (sA _ _ _ rfl) (sA _ _ _ rfl) ⟨lm rfl,?_⟩;rw[aV,ao];refine Gi (sA _ _ _ rfl) ⟨lm rfl,Gi (sA _ _ _ rfl) ⟨lm rfl,Gi (sA _ _ _ rfl) ⟨lm rfl,?_⟩⟩⟩;rw[aV,ao];refine Gi (sA _ _ _ rfl) ⟨lm rfl,HY (sA _ _ _ rfl) (sA _ _ _ rfl) (sA _ _ _ rfl) ⟨lm rfl,QE (sA _ _ _ rfl) (sA _ _ _ rfl) (sA _ _ _ rfl) (sA _ _ _ rfl) (sA _ _ _ rfl) ⟨lm rfl,Gi (sA _ _ _ rfl) ?_⟩⟩⟩;exact h
def cV (r:Row):V:=.tup [.int r.1,oV r.2]
def o7 (L:List Int)(r:Row):Row:=if kd r.1=6 then(r.1,aa (L.getD (r.2.getD 0).toNat 0))else r
structure Hn where
 s:Int
 e:Int
 h:Int
 d:Int
 f:Bool
noncomputable def hV (h:Hn):V:=.tup [.int h.s,.int h.e,.int h.h,.int h.d,.bool h.f]
noncomputable def k8 (L:List Int)(h:Hl):Hn:=⟨L.getD h.s 0,L.getD h.e 0,L.getD h.h 0,h.d,h.f⟩
structure HV (b:Bx):Prop where
 op:∀r∈b.R,r.1<85
 lb:∀r∈b.R,kd r.1=6->∃l:Nat,r.2=aa (l:Int)/\l<b.L.length
 hs:∀h∈b.H,h.s<b.L.length/\h.e<b.L.length/\h.h<b.L.length
def A2:List V:=tab.map λr=>.str r.1
theorem Hc (h:o<85):findS (nm o) A2=aa (aa o) :=
 of_decide_eq_true (lU (p:=λo=>decide (findS (nm o) A2=aa (aa o))) (by decide +kernel) h)
theorem kq6 (σ:bp)(h:o<85):fc σ .eq (.str (kB (kd o))) (.str (st "t"))=aa (decide (kd o=6)):=kBe (kd o) (wN h) 6 (by decide)
theorem gRU (x:Dr)(b:Bx)(γ:bp)(τ:bp):hK (gM x b γ++τ) (.loc 2) (.str (st "rows"))=aa (.loc 3):=by kernel_rfl
theorem gLU (x:Dr)(b:Bx)(γ:bp)(τ:bp):hK (gM x b γ++τ) (.loc 2) (.str (st "labels"))=aa (.loc 4):=by kernel_rfl
theorem gHU (x:Dr)(b:Bx)(γ:bp)(τ:bp):hK (gM x b γ++τ) (.loc 2) (.str (st "handlers"))=aa (.loc 5):=by kernel_rfl
theorem A8 {l:Nat}(h:l<L.length):L[l]?=aa (L.getD l 0):=by rw[bU,bA h];rfl
theorem gLb {n:Nat}{l:Nat}(Cv:σ[n]?=aa (.list (L.map .int)))(h:l<L.length)(hl:L.length<5000):hK σ (.loc n) (.int l)=aa (.int (L.getD l 0)):=by rw[DK _ Cv,zQ σ zj (by rw[ak];exact Jj h) (by rw[ak];exact qf hl),cg,cy,A8 h];rfl
section
variable {b:Bx}{n:Nat}
def MK:List S:=[.asg 6 (.index (.v 2) (.v 4)),
  .expr (.app (.dm (.v 3) 2) (.tup [.v 6,.ite (.cmp (.sub (.sub (.v 1) (.v 6)) (.k (.int 1))) [.eq] [.k (.str (st "t"))]) (.sub (.sub (.v 0) (.k (.str (st "labels")))) (.v 5)) (.v 5)]))]
theorem ach (hb:Bd b n)(hn:n<5000)(h1:r.1<85)(h2:kd r.1=6->∃l:Nat,r.2=aa (l:Int)/\l<b.L.length){c:List V}(hc:c.length<5000)(a6 a7 a8 a9 PV PU KQ:Option V)
 (h:A [aa (.loc 2),aa fg,aa (.lst A2),aa (.loc (gM x b γ).length),aa (.str (nm r.1)),aa (oV r.2),aa (.int r.1),a7,a8,a9,PV,PU,KQ] (Dl (gM x b γ) [] 0 (c++[cV (o7 b.L r)]) [])) :
  iP G (cl d) 1000 E MK [aa (.loc 2),aa fg,aa (.lst A2),aa (.loc (gM x b γ).length),aa (.str (nm r.1)),aa (oV r.2),a6,a7,a8,a9,PV,PU,KQ] (Dl (gM x b γ) [] 0 c []) A K:=by
 unfold MK;dsimp only[cW,cq,dX,cj,i9,cA,dR,md,Ez,dT,ew,eT,el,eu,dv,cZ,Gs,Tb,aLe,aSe,az,aD,ah,ai,aF,aG];have fin:∀y,V.tup [.int r.1,y]=cV (o7 b.L r)->Ls (Dl (gM x b γ) [] 0 c []) (.loc ((gM x b γ).length+1)) λn l=>l.length<lim/\A [aa (.loc 2),aa fg,aa (.lst A2),aa (.loc (gM x b γ).length),aa (.str (nm r.1)),aa (oV r.2),aa (.int r.1),a7,a8,a9,PV,PU,KQ] ((Dl (gM x b γ) [] 0 c []).set n (.list (l++[V.tup [.int r.1,y]]))):=λy e=>by refine Li (gU rfl) ⟨show _<100000 by exact qf hc,?_⟩;rw[e];unfold Dl;rw[sU];exact h
 refine Gi (Hc h1) ⟨lm rfl,Gi (gAt rfl) ⟨qm (gU rfl),HY (gB _ h1) rfl (kq6 _ h1) (jn (λe=>?_) λe=>?_)⟩⟩
 .refine dB (h2 e) λl e1 e2=>?_;have q:o7 b.L r=(r.1,aa (b.L.getD l 0)):=by unfold o7;rw[if_pos e,e1];rfl
  rw[e1];refine je (gLU _ _ _ _) (gLb (O5 (σ:=gM x b γ) rfl) e2 (cm hb.l hn)) ⟨lm rfl,?_⟩;rw[e1]at fin;exact fin _ (by rw[q];rfl)
 .have q:o7 b.L r=r:=if_neg e;exact⟨lm rfl,fin _ (by rw[q];rfl)⟩
end
section
variable {b:Bx}{n:Nat}
def nH:List S:=[.asg 12 (.comp ag (.sub (.sub (.v 0) (.k (.str (st "labels")))) (.c 0)) (.tup [.v 7,.v 8,.v 9]) []),
  .expr (.app (.dm (.v 3) 5) (.tup [.sub (.v 12) (.k (.int 0)),.sub (.v 12) (.k (.int 1)),.sub (.v 12) (.k (.int 2)),.v 10,.v 11]))]
theorem CI {G:List V}{Φ:Nat->List V->bp->R V}{e:X}(g h:α->V){l:List α}(q:∀x∈l,we G Φ vs (λU=>False) e [g x] σ λv U=>v=h x) :
  iI (λx=>match R.val (qT G Φ vs af [] [x] σ)with|some (.bool b)=>aa b|_=>ae) (λx=>R.val (ev G Φ vs e [x] σ)) (l.map g)=aa (l.map h) :=
 w8 g h λx hx=>⟨rfl,AJ (cz _ _ _ _ _ _ _ _ (q x hx))⟩
theorem acj (hb:Bd b n)(hn:n<5000){r:Hl}(h1:r.s<b.L.length/\r.e<b.L.length/\r.h<b.L.length){c h0:List V}(hc:h0.length<5000)(a1 a2 a4 a5 a6 KQ:Option V)
 (h:A [aa (.loc 2),a1,a2,aa (.loc (gM x b γ).length),a4,a5,a6,aa (.int r.s),aa (.int r.e),aa (.int r.h),aa (.int r.d),aa (.bool r.f),aa (.lst [.int (k8 b.L r).s,.int (k8 b.L r).e,.int (k8 b.L r).h])] (Dl (gM x b γ) [] 0 c (h0++[hV (k8 b.L r)]))) :
  iP G (cl d) 1000 E nH [aa (.loc 2),a1,a2,aa (.loc (gM x b γ).length),a4,a5,a6,aa (.int r.s),aa (.int r.e),aa (.int r.h),aa (.int r.d),aa (.bool r.f),KQ] (Dl (gM x b γ) [] 0 c h0) A K:=by
 unfold nH;dsimp only[cW,cq,dX,cA,dR,md,dT,ew,el,eu,dv,cZ,Gs,az,aD,ah,ai,aF,aG];refine kZ ?_;dsimp only[cq,dX,dT,ew,Gs,qU,acu,Zg,KR,az,aD,ah,ai];refine⟨lm rfl,⟨rfl,Gi (CI (λi:Nat=>V.int i) (λi=>V.int (b.L.getD i 0)) (l:=[r.s,r.e,r.h]) λi hi=>?_) ⟨lm rfl,Gi (gAt rfl) ⟨qm (gU rfl),HY rfl rfl rfl ⟨lm rfl,Li (gU rfl) ⟨show _<100000 by exact qf hc,?_⟩⟩⟩⟩⟩⟩
 .dsimp only[cW,cq,It,cA,Gs,ah];refine je (gLU _ _ _ _) (gLb (O5 (σ:=gM x b γ) rfl) ?_ (cm hb.l hn)) rfl;refine bZ (aM.1 hi) (λe=>?_) λhi=>?_
  .rw[e];exact h1.1
  refine bZ (aM.1 hi) (λe=>?_) λhi=>?_
  .rw[e];exact h1.2.1
  refine bZ (aM.1 hi) (λe=>?_) λhi=>?_
  .rw[e];exact h1.2.2
  .exact absurd hi ba
 unfold Dl;simp only[sU];exact h
end
def JJ:List V:=[.int 4607182418800017408,.str (st "x")]
theorem take_succ (f:α->β){l:List α}{a:α}(h:l[i]?=aa a):(l.take (i+1)).map f=(l.take i).map f++[f a]:=by rw[yh,h,bM];rfl
theorem nE {f:α->β}{l:List α}{v:β}(h:(l.map f)[i]?=aa v):∃a,l[i]?=aa a/\v=f a:=by
 rw[cy]at h;induction e:l[i]? with
 |none=>rw[e]at h;exact nomatch h
 |some a=>rw[e]at h;exact⟨a,rfl,(aj h).symm⟩
inductive JM (x:Dr)(b:Bx)(γ:bp)(i:Nat):Vs->bp->Prop
 |mk (a4 a5 a6:Option V):JM x b γ i [aa (.loc 2),aa fg,aa (.lst A2),aa (.loc (gM x b γ).length),a4,a5,a6,ae,ae,ae,ae,ae,ae] (Dl (gM x b γ) [] 0 (((b.R.take i).map (o7 b.L)).map cV) [])
inductive JN (x:Dr)(b:Bx)(γ:bp)(a4 a5 a6:Option V)(i:Nat):Vs->bp->Prop
 |mk (a7 a8 a9 PV PU KQ:Option V):JN x b γ a4 a5 a6 i [aa (.loc 2),aa fg,aa (.lst A2),aa (.loc (gM x b γ).length),a4,a5,a6,a7,a8,a9,PV,PU,KQ] (Dl (gM x b γ) [] 0 ((b.R.map (o7 b.L)).map cV) (((b.H.take i).map (k8 b.L)).map hV))
theorem Jw  {b:Bx}{n:Nat}(hb:Bd b n)(hn:n<900)(ok:HV b)
  (h:Q (.loc (gM x b γ).length) (Dl (gM x b γ) JJ 1 ((b.R.map (o7 b.L)).map cV) ((b.H.map (k8 b.L)).map hV))):Wp (cl (d+2) 34 [.loc 2,fg] (gM x b γ)) Q E:=by
 refine call pg 11 rfl rfl ?_;dsimp only[pg,u7,cW,cq,dX,eH,cA,dT,ew,fJ,fH,dF,dv,cZ,mS,aaE,i6,i5,Gs,xe,qU,Zj,d5,d6,d4,gq,az,aD,ah,aF,aG];refine kZ ?_;dsimp only[fg,cq,Gs,qU,zM,DE,KR,ah,ai];refine⟨rfl,Gi (CI xN (λr=>.str r.1) λr U=>Gi rfl rfl) ⟨lm rfl,QJ ?_⟩⟩;dsimp only[cW,eH,dT,ew,qU,aD];refine⟨lm rfl,JT ⟨rfl,lm rfl,rfl,Gi (gRU _ _ _ _) ?_⟩⟩;have hr:=hb.r;have hh:=hb.h;refine j9 (b.R.map rV) (JM x b γ) ?_ ?_ ?_ 1000 0 _ _ (bL _) (by rw[ak];exact Mq hn hr) (.mk ae ae ae)
 .intro i vs σ I;induction I with|mk=>exact O5 (σ:=gM x b γ) rfl
 .intro i v vs σ hv I;induction I with|mk a4 a5 a6=>?_
  (refine dB (nE hv) λr hr z1=>?_;subst z1);have hm:r∈b.R:=aN hr;refine Gi rfl (fF _ _ _ _ _ _ _ _ _ (ach hb (Mp hn) (ok.op r hm) (ok.lb r hm) ?_ _ _ _ _ _ _ _ ?_))
  .rw[ak,ak,cv];exact Mo hn (by assumption)
  .have e:=JM.mk (x:=x) (b:=b) (γ:=γ) (i:=i+1) (aa (.str (nm r.1))) (aa (oV r.2)) (aa (.int r.1));rw[take_succ _ hr,bM]at e;exact e
 .intro vs σ I;induction I with|mk a4 a5 a6=>?_
  rw[ak,jR];dsimp only[Gs,ah];refine Gi (gHU _ _ _ _) ?_;refine j9 (b.H.map ZD) (JN x b γ a4 a5 a6) ?_ ?_ ?_ 1000 0 _ _ (bL _) (by rw[ak];exact Mq hn hh) (.mk ae ae ae ae ae ae)
  .intro i vs σ I;induction I with|mk=>exact O5 (σ:=gM x b γ) rfl
  .intro i v vs σ hv I;induction I with|mk a7 a8 a9 PV PU KQ=>?_
   (refine dB (nE hv) λr hr z1=>?_;subst z1);have hm:r∈b.H:=aN hr;refine Gi rfl (fF _ _ _ _ _ _ _ _ _ (acj hb (Mp hn) (ok.hs r hm) ?_ _ _ _ _ _ _ ?_))
   .rw[ak,ak,cv];exact Mo hn hh
   .have e:=JN.mk (x:=x) (b:=b) (γ:=γ) (a4:=a4) (a5:=a5) (a6:=a6) (i:=i+1) (aa (.int r.s)) (aa (.int r.e)) (aa (.int r.h)) (aa (.int r.d)) (aa (.bool r.f)) (aa (.lst [.int (k8 b.L r).s,.int (k8 b.L r).e,.int (k8 b.L r).h]));rw[take_succ _ hr,bM]at e;exact e
  .intro vs σ I;induction I with|mk a7 a8 a9 PV PU KQ=>?_
   rw[ak,jR];dsimp only[Gs,ah,ai];refine⟨lm rfl,lm rfl,rfl,je (sA2 _ _ _ (dC rfl)) (sA2 _ _ _ (dC rfl)) h⟩
noncomputable abbrev cY:=List Int
abbrev Fd:=List (Int×cY)
noncomputable def look:Fd->Int->Option cY
 |[],_=>ae
 |(a,t)::r,p=>if a=p then aa t else look r p
theorem uH (f:Fd)(p q:Int)(t:cY):look (f++[(p,t)]) q=match look f q with
  |some s=>aa s
  |none=>if p=q then aa t else ae:=by
 induction f with
 |nil=>rfl
 |cons a f ih =>
  obtain⟨a,s⟩:=a;refine(?_:(if a=q then aa s else look (f++[(p,t)]) q)=match (if a=q then aa s else look f q)with|some s=>_|none=>_);by_cases e:a=q
  .rw[if_pos e,if_pos e]
  .rw[if_neg e,if_neg e,ih]
theorem uG {f:Fd}{t:cY}(h:look f p=ae):look (f++[(p,t)]) p=aa t:=by rw[uH,h];exact if_pos rfl
theorem uE {f:Fd}{q:Int}{t s:cY}(h:look f q=aa s):look (f++[(p,t)]) q=aa s:=by rw[uH,h]
theorem kC {f:Fd}{q:Int}{t s:cY}(h:look (f++[(p,t)]) q=aa s):look f q=aa s\/(q=p/\s=t):=by
 rw[uH]at h;induction e:look f q with
 |some u=>rw[e]at h;exact .inl h
 |none =>
  rw[e]at h;by_cases e2:p=q
  .exact .inr ⟨e2.symm,(aj ((if_pos e2).symm.trans h)).symm⟩
  .exact nomatch (if_neg e2).symm.trans h
def free (n:Nat)(f:Fd):Nat:=((fG n).filter λ(p:Nat)=>(look f p).isNone).length
theorem filter_le {α:Type}{p q:α->Bool}(h:∀x,q x=af->p x=af):∀l:List α,(l.filter q).length<=(l.filter p).length
 |[]=>aO _
 |a::l=>by
  have ih:=filter_le h l;induction hq:q a with
  |true=>rw[dE hq,dE (h a hq)];exact gm ih
  |false =>
   rw[eW (by rw[hq];exact bq)];induction hp:p a with
   |true=>rw[dE hp];exact er ih
   |false=>rw[eW (by rw[hp];exact bq)];exact ih
theorem filter_lt {α:Type}{p q:α->Bool}(h:∀x,q x=af->p x=af){a:α}(ha:p a=af)(hb:q a=ag):∀ {l:List α},a∈l->(l.filter q).length<(l.filter p).length
 |[]=>λhm=>absurd hm ba
 |b::l=>λhm=>by
  have ih:=filter_le h l;refine bZ (aM.1 hm) (λe=>?_) λhm=>?_
  .subst e;rw[eW (by rw[hb];exact bq),dE ha];exact Nat.lt_succ_of_le ih
  .have Be:=filter_lt h ha hb hm;induction hq:q b with
   |true=>rw[dE hq,dE (h b hq)];exact Nat.succ_lt_succ Be
   |false =>
    rw[eW (by rw[hq];exact bq)];induction hp:p b with
    |true=>rw[dE hp];exact tG Be
    |false=>rw[eW (by rw[hp];exact bq)];exact Be
theorem tv (n:Nat)(f:Fd):free n f<=n:=by have:=jM (λ(p:Nat)=>(look f p).isNone) (fG n);rw[mc]at this;exact this
theorem uQ {n:Nat}{f:Fd}{t:cY}(h:look f p=ae)(h0:0<=p)(h1:p<n):free n (f++[(p,t)])<free n f:=by
 have e:((p.toNat:Nat):Int)=p:=gh h0;refine filter_lt (a:=p.toNat) (λx hx=>?_) ?_ ?_ (jz.2 (XT h1 e))
 .induction e:look f x with
  |none=>rfl
  |some s=>rw[uE e]at hx;exact nomatch hx
 .refine(?_:(look f _).isNone=af);rw[e,h];rfl
 .refine(?_:(look _ _).isNone=ag);rw[e,uG h];rfl
abbrev DU:=Int->cY->Option Fd
structure z9 (n:Nat)(st:DU)(S:Int->Option cY):Prop where
 z:S 0=aa []
 c:∀p s,S p=aa s->p<n/\∃l,st p s=aa l/\∀q∈l,S q.1=aa q.2
def Good (n:Nat)(st:DU):Prop:=∃S,z9 n st S
def Pk (k:Nat)(s:cY):Prop:=s.length<=4*k/\∀x∈s,-3<=x
theorem Pk.le {k:Nat}{s:cY}(h:Pk k s)(q:k<=m):Pk m s:=⟨aQ h.1 (Nat.mul_le_mul_left 4 q),h.2⟩
structure HU (st:DU):Prop where
 pk:∀k p s l,0<=p->Pk k s->st p s=aa l->∀q∈l,0<=q.1/\Pk (k+1) q.2
 tn:∀p s l,st p s=aa l->l.length<=3
def mW (n:Nat):Fd->Fd->List Int->Option (Fd×List Int)
 |[],f,w=>aa (f,w)
 |(p,t)::l,f,w=>if(n:Int)<=p then ae else match look f p with
  |none=>mW n l (f++[(p,t)]) (w++[p])
  |some s=>if s=t then mW n l f w else ae
structure KV (n:Nat)(st:DU)(M m:Nat)(f:Fd)(w:List Int):Prop where
 z:look f 0=aa []
 rg:∀p s,look f p=aa s->0<=p/\p<n
 wk:∀p∈w,∃s,look f p=aa s
 cl:∀p s,look f p=aa s->p∈w\/∃l,st p s=aa l/\∀q∈l,look f q.1=aa q.2
 mn:∀S,z9 n st S->∀p s,look f p=aa s->S p=aa s
 ms:free n f+w.length=m
 le:m<=M
 pk:∀p s,look f p=aa s->Pk (M-m) s
 fl:f.length+free n f<=n+1
theorem KV.start {n:Nat}{st:DU}(h:0<n):KV n st (free n [(0,[])]+1) (free n [(0,[])]+1) [(0,[])] [0]:=by
 have l1:∀p s,look [(0,[])] p=aa s->p=0/\s=[]:=λp s h=>by
  by_cases e:(0:Int)=p
  .exact⟨e.symm,(aj ((if_pos e).symm.trans h)).symm⟩
  .exact nomatch (if_neg e).symm.trans h
 refine⟨rfl,λp s h=>?_,λp h=>?_,λp s h=>?_,λS hS p s h=>?_,rfl,aO _,λp s h=>?_,by have:=tv n [(0,[])];show 1+_<=_;exact XS this⟩
 .obtain⟨rfl,rfl⟩:=l1 p s h;exact XR (by assumption)
 .rw[au.1 h];exact⟨[],rfl⟩
 .obtain⟨rfl,rfl⟩:=l1 p s h;exact .inl aR
 .obtain⟨rfl,rfl⟩:=l1 p s h;exact hS.z
 .obtain⟨rfl,rfl⟩:=l1 p s h;exact⟨bL _,λx h=>absurd h ba⟩
theorem KV.done {n:Nat}{st:DU}{f:Fd}(h:KV n st M m f []):Good n st :=
 ⟨look f,h.z,λp s e=>⟨(h.rg p s e).2,(h.cl p s e).elim (λq=>absurd q ba) id⟩⟩
theorem xY {n:Nat}:∀(l f:Fd) (w:List Int) (f':Fd) (w':List Int),(∀q∈l,0<=q.1)->mW n l f w=aa (f',w') ->
  (∀p s,look f p=aa s->look f' p=aa s)/\(∀q∈l,look f' q.1=aa q.2/\q.1<n)/\(∀p s,look f' p=aa s->look f p=aa s\/((p,s)∈l/\p∈w'))/\(∀p∈w,p∈w')/\(∀p∈w',p∈w\/∃s,(p,s)∈l)/\free n f'+w'.length<=free n f+w.length/\f'.length+free n f'<=f.length+free n f
 |[]=>λf w f' w' U h=>by
  cases h
  exact⟨λU U h=>h,λU h=>absurd h ba,λU U h=>.inl h,λU h=>h,λU h=>.inl h,aO _,aO _⟩
 |(p,t)::l=>λf w f' w' h0 h=>by
  have hp:=h0 (p,t) aR;have h0':∀q∈l,0<=q.1:=λq hq=>h0 q (bf _ hq);have h:(if(n:Int)<=p then ae else match look f p with|none=>mW n l (f++[(p,t)]) (w++[p])|some s=>if s=t then mW n l f w else ae)=aa (f',w'):=h;by_cases e:(n:Int)<=p
  .rw[if_pos e]at h;exact nomatch h
  .rw[if_neg e]at h;induction e2:look f p with
   |none =>
    rw[e2]at h;refine o06 (xY l _ _ _ _ h0' h) λa1 a2 a3 a4 a5 a6 a7=>?_;refine⟨λp s h=>a1 p s (uE h),λq hq=>?_,λq s hq=>?_,λq hq=>a4 q (bS _ hq),λq hq=>?_,?_,?_⟩
    .refine bZ (aM.1 hq) (λhq=>?_) λhq=>?_
     .subst hq;exact⟨a1 _ _ (uG e2),by show p<n;exact wy e⟩
     .exact a2 q hq
    .refine bZ (a3 q s hq) (λh=>?_) λh=>?_
     .rcases kC h with h|⟨rfl,rfl⟩
      .exact .inl h
      .exact .inr ⟨aR,a4 _ (aU _ aR)⟩
     .exact .inr ⟨bf _ h.1,h.2⟩
    .rcases a5 q hq with h|⟨s,h⟩
     .refine bZ (bg.1 h) (λh=>?_) λh=>?_
      .exact .inl h
      .rw[au.1 h];exact .inr ⟨t,aR⟩
     .exact .inr ⟨s,bf _ h⟩
    .have q1:=uQ (n:=n) (t:=t) e2 hp (wy e);rw[ao]at a6;have:[p].length=1:=rfl;exact XQ a6 q1 this
    .have q1:=uQ (n:=n) (t:=t) e2 hp (wy e);rw[ao]at a7;have:[(p,t)].length=1:=rfl;exact XO a7 q1 this
   |some s =>
    rw[e2]at h;by_cases e3:s=t
    .rw[show(match aa s with|none=>mW n l (f++[(p,t)]) (w++[p])|some s=>if s=t then mW n l f w else ae)=mW n l f w from if_pos e3]at h;refine o06 (xY l _ _ _ _ h0' h) λa1 a2 a3 a4 a5 a6 a7=>?_;refine⟨a1,λq hq=>?_,λq s hq=>?_,a4,λq hq=>?_,a6,a7⟩
     .refine bZ (aM.1 hq) (λhq=>?_) λhq=>?_
      .subst hq;exact⟨a1 _ _ (e3▸e2),by show p<n;exact wy e⟩
      .exact a2 q hq
     .exact(a3 q s hq).imp id λh=>⟨bf _ h.1,h.2⟩
     .exact(a5 q hq).imp id λz_=>by obtain⟨s,h⟩:=z_;exact⟨s,bf _ h⟩
    .exact nomatch ((if_neg e3).symm.trans h:ae=aa (f',w'))
theorem xZ {n:Nat}{S:Int->Option cY}(hS:∀p s,S p=aa s->p<n):∀(l f:Fd) (w:List Int),(∀p s,look f p=aa s->S p=aa s)->(∀q∈l,S q.1=aa q.2)->mW n l f w≠ae
 |[]=>λf w U U h=>nomatch h
 |(p,t)::l=>λf w h1 h2 h=>by
  have h:(if(n:Int)<=p then ae else match look f p with|none=>mW n l (f++[(p,t)]) (w++[p])|some s=>if s=t then mW n l f w else ae)=ae:=h;have hp:=h2 (p,t) aR;have h2':∀q∈l,S q.1=aa q.2:=λq hq=>h2 q (bf _ hq);rw[if_neg (by have:=hS p t hp;exact XN this)]at h;induction e2:look f p with
  |none =>
   rw[e2]at h;refine xZ hS l _ _ (λq s hq=>?_) h2' h;rcases kC hq with h|⟨rfl,rfl⟩
   .exact h1 q s h
   .exact hp
  |some s =>rw[e2]at h;have e3:s=t:=aj ((h1 p s e2).symm.trans hp);exact xZ hS l f w h1 h2' ((if_pos e3).symm.trans h)
theorem KV.turn {n:Nat}{st:DU}(ok:HU st){f:Fd}{w:List Int}(h:KV n st M m f (w++[p])):∃s,look f p=aa s/\Pk (M-m) s/\0<=p/\p<n /\
  (st p s=ae->¬Good n st)/\∀l,st p s=aa l->(mW n l f w=ae->¬Good n st)/\∀f' w',mW n l f w=aa (f',w')->∃m',m'<m/\KV n st M m' f' w':=by
 obtain⟨s,hs⟩:=h.wk p (aU _ aR);refine⟨s,hs,h.pk p s hs,(h.rg p s hs).1,(h.rg p s hs).2,λe ⟨S,hS⟩=>?_,λl e=>⟨λe2 ⟨S,hS⟩=>?_,λf' w' e2=>?_⟩⟩
 .obtain⟨_,l,e2,_⟩:=hS.c p s (h.mn S hS p s hs);rw[e]at e2;exact nomatch e2
 .obtain⟨_,l2,e3,h3⟩:=hS.c p s (h.mn S hS p s hs);rw[e]at e3;obtain rfl:=aj e3;exact xZ (λp s q=>(hS.c p s q).1) l f w (h.mn S hS) h3 e2
 .have hk:=ok.pk _ p s l (h.rg p s hs).1 (h.pk p s hs) e;refine o06 (xY l f w f' w' (λq hq=>(hk q hq).1) e2) λa1 a2 a3 a4 a5 a6 a7=>?_;have J6:=h.fl;have hm:=h.ms;have hle:=h.le;rw[ao]at hm;have h1:[p].length=1:=rfl;refine⟨free n f'+w'.length,by exact XH a6 hm h1,a1 _ _ h.z,λq t hq=>?_,λq hq=>?_,λq t hq=>?_,λS hS q t hq=>?_,rfl,by exact XE a6 hm hle h1,λq t hq=>?_,by exact XC a7 J6 hm h1⟩
  .refine bZ (a3 q t hq) (λhq=>?_) λhq=>?_
   .exact h.rg q t hq
   .exact⟨(hk _ hq.1).1,(a2 _ hq.1).2⟩
  .rcases a5 q hq with hq|⟨t,hq⟩
   .obtain⟨t,ht⟩:=h.wk q (bS _ hq);exact⟨t,a1 _ _ ht⟩
   .exact⟨t,(a2 _ hq).1⟩
  .refine bZ (a3 q t hq) (λhq=>?_) λhq=>?_
   .by_cases e3:q=p
    .obtain rfl:=fb (e3);rw[hs]at hq;obtain rfl:=aj hq;exact .inr ⟨l,e,λp hq=>(a2 p hq).1⟩
    .rcases h.cl q t hq with h2|⟨l2,h2,h3⟩
     .refine bZ (bg.1 h2) (λh2=>?_) λh2=>?_
      .exact .inl (a4 q h2)
      .exact absurd (au.1 h2) e3
     .exact .inr ⟨l2,h2,λq hq=>a1 _ _ (h3 q hq)⟩
   .exact .inl hq.2
  .refine bZ (a3 q t hq) (λhq=>?_) λhq=>?_
   .exact h.mn S hS q t hq
   .obtain⟨_,l2,e3,h3⟩:=hS.c p s (h.mn S hS p s hs);rw[e]at e3;obtain rfl:=aj e3;exact h3 _ hq.1
  .refine bZ (a3 q t hq) (λhq=>?_) λhq=>?_
   .exact(h.pk q t hq).le (Xz a6 hm hle h1)
   .exact(hk _ hq.1).2.le (Xw a6 hm hle h1)
def lX (X:Int->cY->Prop)(s:cY):Prop:=∀(i:Nat) (g:Int),s[i]?=aa g->0<=g->X g (s.take (i+1))
theorem lX.imp {X Y:Int->cY->Prop}{s:cY}(h:lX X s)(q:∀g t,X g t->Y g t):lX Y s:=λi g e e2=>q _ _ (h i g e e2)
def Nf (st:DU):Prop:=∀p s l X,lX X s->st p s=aa l->∀q∈l,lX (λg t=>X g t\/(g,t)∈l) q.2
def FW (f w:Fd)(g:Int)(t:cY):Prop:=look f g=aa t\/(g,t)∈w
structure Ih (n:Nat)(st:DU)(M m:Nat)(f w:Fd):Prop where
 z:FW f w 0 []
 rg:∀p s,look f p=aa s->0<=p/\p<n
 w0:∀q∈w,0<=q.1
 cl:∀p s,look f p=aa s->∃l,st p s=aa l/\∀q∈l,FW f w q.1 q.2
 mn:∀S,z9 n st S->∀p s,FW f w p s->S p=aa s
 ms:4*free n f+w.length=m
 le:m<=M
 pk:∀p s,FW f w p s->Pk (M-m) s
 tg:∀p s,FW f w p s->lX (FW f w) s
 fl:f.length+free n f<=n+1
theorem FW.one {s:cY}(h:FW [] [(0,[])] p s):p=0/\s=[]:=by
 rcases h with h|h
 .exact nomatch h
 .cases au.1 h;exact⟨rfl,rfl⟩
theorem Ih.start {n:Nat}{st:DU}:Ih n st (4*free n []+1) (4*free n []+1) [] [(0,[])] :=
 ⟨.inr aR,λp s h=>(nomatch h),λq h=>by rw[au.1 h];exact gy _,λp s h=>(nomatch h),λS hS p s h=>by obtain⟨rfl,rfl⟩:=h.one;exact hS.z,rfl,aO _,
  λp s h=>by obtain⟨rfl,rfl⟩:=h.one;exact⟨bL _,λx h=>absurd h ba⟩,λp s h=>by obtain⟨rfl,rfl⟩:=h.one;exact λi g e=>(nomatch e),by have:=tv n [];show 0+free n []<=n+1;exact XM this⟩
theorem FW.nil {f:Fd}{g:Int}{t:cY}(h:FW f [] g t):look f g=aa t:=h.elim id λh=>absurd h ba
theorem Ih.done {n:Nat}{st:DU}{f:Fd}(h:Ih n st M m f []):z9 n st (look f)/\∀p s,look f p=aa s->lX (λg t=>look f g=aa t) s :=
 ⟨⟨h.z.nil,λp s e=>⟨(h.rg p s e).2,let ⟨l,h1,h2⟩:=h.cl p s e;⟨l,h1,λq hq=>(h2 q hq).nil⟩⟩⟩,λp s e=>(h.tg p s (.inl e)).imp λU U h=>h.nil⟩
theorem Ih.turn {n:Nat}{st:DU}(ok:HU st)(ok2:Nf st){f w:Fd}{s:cY}(h:Ih n st M m f ((p,s)::w)):0<=p/\Pk (M-m) s/\((n:Int)<=p->¬Good n st) /\
  (∀t,look f p=aa t->t≠s->¬Good n st)/\(look f p=aa s->∃m',m'<m/\Ih n st M m' f w) /\
  (look f p=ae->p<n->(st p s=ae->¬Good n st)/\∀l,st p s=aa l->∃m',m'<m/\Ih n st M m' (f++[(p,s)]) (w++l)):=by
 have h1:FW f ((p,s)::w) p s:=.inr aR;have h0:0<=p:=h.w0 (p,s) aR;have hm:=h.ms;have hle:=h.le;rw[az]at hm;refine⟨h0,h.pk p s h1,λe ⟨S,hS⟩=>?_,λt e e2 ⟨S,hS⟩=>?_,λe=>?_,λe e2=>⟨λe3 ⟨S,hS⟩=>?_,λl e3=>?_⟩⟩
 .have:=(hS.c p s (h.mn S hS p s h1)).1;exact XK e this
 .exact e2 (aj ((h.mn S hS p t (.inl e)).symm.trans (h.mn S hS p s h1)))
 .have sub:∀g t,FW f ((p,s)::w) g t->FW f w g t:=λg t q=>q.elim .inl λq=>by
   rcases aM.1 q with q|q
   .cases q;exact .inl e
   .exact .inr q
  have sup:∀g t,FW f w g t->FW f ((p,s)::w) g t:=λg t q=>q.imp id (bf _);exact⟨4*free n f+w.length,by exact XJ hm,sub _ _ h.z,h.rg,λq hq=>h.w0 q (bf _ hq),λp s hp=>let ⟨l,a,b⟩:=h.cl p s hp;⟨l,a,λq hq=>sub _ _ (b q hq)⟩,λS hS p s q=>h.mn S hS p s (sup _ _ q),
   rfl,by exact XI hm hle,λp s q=>(h.pk p s (sup _ _ q)).le (XG hm hle),λp s q=>(h.tg p s (sup _ _ q)).imp sub,h.fl⟩
 .obtain⟨_,l,e4,_⟩:=hS.c p s (h.mn S hS p s h1);rw[e3]at e4;exact nomatch e4
 .have hk:=ok.pk _ p s l h0 (h.pk p s h1) e3;have hl:=ok.tn p s l e3;have hf:=uQ (n:=n) (t:=s) e h0 e2;have sub:∀g t,FW f ((p,s)::w) g t->FW (f++[(p,s)]) (w++l) g t:=λg t q=>q.elim (λq=>.inl (uE q)) λq=>by
   rcases aM.1 q with q|q
   .cases q;exact .inl (uG e)
   .exact .inr (bS _ q)
  have new:∀q∈l,FW (f++[(p,s)]) (w++l) q.1 q.2:=λq hq=>.inr (aU _ hq);have inv:∀g t,FW (f++[(p,s)]) (w++l) g t->FW f ((p,s)::w) g t\/(g,t)∈l:=λg t q=>by
   rcases q with q|q
   .rcases kC q with q|⟨rfl,rfl⟩
    .exact .inl (.inl q)
    .exact .inl h1
   .rcases bg.1 q with q|q
    .exact .inl (.inr (bf _ q))
    .exact .inr q
  have hlw:(w++l).length=w.length+l.length:=ao;refine⟨4*free n (f++[(p,s)])+(w++l).length,by exact XD hm hl hf hlw,sub _ _ h.z,λq t hq=>?_,λq hq=>?_,λq t hq=>?_,λS hS q t hq=>?_,rfl,by exact XB hm hle hl hf hlw,λq t hq=>?_,λq t hq=>?_,by have:=h.fl;rw[ao];show _+1+_<=_;exact XA hf this⟩
  .rcases kC hq with hq|⟨rfl,rfl⟩
   .exact h.rg q t hq
   .exact⟨h0,e2⟩
  .rcases bg.1 hq with hq|hq
   .exact h.w0 q (bf _ hq)
   .exact(hk q hq).1
  .rcases kC hq with hq|⟨rfl,rfl⟩
   .refine dB (h.cl q t hq) λl2 a b=>?_;exact⟨l2,a,λr hr=>sub _ _ (b r hr)⟩
   .exact⟨l,e3,new⟩
  .rcases inv q t hq with hq|hq
   .exact h.mn S hS q t hq
   .obtain⟨_,l2,e4,h4⟩:=hS.c p s (h.mn S hS p s h1);rw[e3]at e4;cases e4;exact h4 (q,t) hq
  .rcases inv q t hq with hq|hq
   .exact(h.pk q t hq).le (Xy hm hle hl hf hlw)
   .exact(hk (q,t) hq).2.le (Xx hm hle hl hf hlw)
  .rcases inv q t hq with hq|hq
   .exact(h.tg q t hq).imp sub
   .exact(ok2 p s l _ (h.tg p s h1) e3 (q,t) hq).imp λg t q=>q.elim (sub g t) λq=>new (g,t) q
def fP (r:Row):Nat:=tk r.1+if kd r.1=7 then(r.2.getD 0).toNat else 0
def made (o:Nat):cY:=if o=70 then[-3]else if o=76 then[-2]else bF (pt o) (-1)
noncomputable def xU:List Nat:=[58,65,66,79,83]
def dS (r:Row)(pc:Int)(s:cY):Option Fd :=
 if s.length<fP r then ae
 else if r.1=78 then aa [(r.2.getD 0,s++[-1,r.2.getD 0]),(pc+1,s)]
 else if r.1=79 then(if(s.drop (s.length-fP r)).getD 0 0 = -1/\0<=(s.drop (s.length-fP r)).getD 1 0 then aa []else ae)
 else if r.1=77 then(if(s.drop (s.length-fP r)).getD 0 0 = -2 then aa [(r.2.getD 0,s),(pc+1,s++[-1])]else ae)
 else if r.1≠6/\(s.drop (s.length-fP r)).any (λx=>x != -1&&!(r.1==69&&x == -3))=af then ae
 else aa ((if r.1∈xU then[]else[(pc+1,s.take (s.length-fP r)++made r.1)]) ++
  (if kd r.1=6 then[(r.2.getD 0,if r.1=61\/r.1=62 then s else s.take (s.length-fP r)++made r.1)]else[]))
noncomputable def over (hs:List Hn)(pc:Int):Option Hn:=hs.find? λh=>decide (h.s<=pc/\pc<h.e)
noncomputable def H5 (h:Hn)(s:cY):cY:=s.take h.d.toNat++[-1]++if h.f=af then[h.h]else[]
noncomputable def thrown (hs:List Hn)(o:Nat)(pc:Int)(s:cY):Option Fd:=match over hs pc with
 |none=>aa []
 |some h=>if o∈Ji then aa []else if(s.length:Int)<h.d then ae else aa [(h.h,H5 h s)]
noncomputable def step (c:List Row)(hs:List Hn):DU:=λpc s=>match c[pc.toNat]? with
 |none=>ae
 |some r=>match dS r pc s with
  |none=>ae
  |some l=>match thrown hs r.1 pc s with
   |none=>ae
   |some t=>aa (l++t)
noncomputable def Kq (n k:Nat):Int:=if k=1\/k=2 then 2 else if k=3 then 1 else if k=6 then n else 0
def dO (n:Nat)(r:Row):Prop:=if kd r.1=0 then r.2=ae else∃g,r.2=aa g/\0<=g/\(kd r.1=7\/g<Kq n (kd r.1))/\(kd r.1=2->g=1)
def Ef (n:Nat)(h:Hn):Prop:=(0<=h.s/\h.s<h.e/\h.e<=n)/\(0<=h.h/\h.h<n)/\0<=h.d/\¬(h.s<=h.h/\h.h<h.e)
def mf (a b:Hn):Prop:=a.s<b.e->b.s<a.e->b.s<=a.s/\a.e<=b.e
structure Valid (c:List Row)(hs:List Hn):Prop where
 arg:∀r∈c,dO c.length r
 h:∀h∈hs,Ef c.length h
 pr:hs.Pairwise mf
theorem dO.nn {n:Nat}(h:dO n r):0<=r.2.getD 0:=by
 unfold dO at h;by_cases e:kd r.1=0
 .rw[if_pos e]at h;rw[h];exact gy _
 .rw[if_neg e]at h;obtain⟨g,e2,h,_⟩:=h;rw[e2];exact h
theorem FX (h:o<85):pt o<=4:=of_decide_eq_true (lU (p:=λo=>decide (pt o<=4)) (by decide +kernel) h)
theorem uz (h:o<85):(made o).length<=4:=by
 unfold made
 split
 .decide
 split
 .decide
 rw[List.length_replicate];exact FX h
theorem Co:∀x∈made o,-3<=x/\x<0:=by
 unfold made;intro x hx
 split at hx
 .rw[au.1 hx];decide
 split at hx
 .rw[au.1 hx];decide
 rw[List.eq_of_mem_replicate hx];decide
section
variable {k:Nat}{s t:cY}
theorem Pk.up (h:Pk k s):Pk (k+1) s:=h.le (jj _)
theorem Pk.app (h:Pk k s)(h1:t.length<=4)(h2:∀x∈t,-3<=x):Pk (k+1) (s++t) :=
 ⟨by have:=h.1;rw[ao];exact Xv h1 this,λx hx=>(bg.1 hx).elim (h.2 x) (h2 x)⟩
theorem Pk.take (h:Pk k s)(i:Nat):Pk k (s.take i):=⟨aQ (by rw[cv];exact Nat.min_le_right _ _) h.1,λx hx=>h.2 x (pH hx)⟩
end
theorem wc  {s:cY}{l:Fd}{P:Fd->Prop}(h:dS r pc s=aa l)(p1:P [(r.2.getD 0,s++[-1,r.2.getD 0]),(pc+1,s)])(p2:P [])(p3:P [(r.2.getD 0,s),(pc+1,s++[-1])])
  (p4:∀u v:Fd,(u=[]\/u=[(pc+1,s.take (s.length-fP r)++made r.1)])->(v=[]\/v=[(r.2.getD 0,s)]\/v=[(r.2.getD 0,s.take (s.length-fP r)++made r.1)])->P (u++v)):P l:=by
 unfold dS at h
 split at h
 .exact nomatch h
 split at h
 .exact aj h▸p1
 split at h
 .split at h
  .exact aj h▸p2
  .exact nomatch h
 split at h
 .split at h
  .exact aj h▸p3
  .exact nomatch h
 split at h
 .exact nomatch h
 .refine aj h▸p4 _ _ ?_ ?_
  .split
   .exact .inl rfl
   .exact .inr rfl
  .split
   .split
    .exact .inr (.inl rfl)
    .exact .inr (.inr rfl)
   .exact .inl rfl
theorem tR  {s:cY}{l:Fd}{P:Int×cY->Prop}(h:dS r pc s=aa l)(a:(r.2.getD 0,s++[-1,r.2.getD 0])∈l->P (r.2.getD 0,s++[-1,r.2.getD 0]))(b:P (pc+1,s))(c:P (r.2.getD 0,s))(d:P (pc+1,s++[-1]))
  (e:P (pc+1,s.take (s.length-fP r)++made r.1))(f:P (r.2.getD 0,s.take (s.length-fP r)++made r.1)):∀q∈l,P q:=by
 have z:∀ {x:Int×cY} {m:Fd},P x->(∀q∈m,P q)->∀q∈x::m,P q:=λh k=>kg.2 ⟨h,k⟩;have n:∀q∈([]:Fd),P q:=λU q=>nomatch q;refine wc (P:=λl=>((r.2.getD 0,s++[-1,r.2.getD 0])∈l->P (r.2.getD 0,s++[-1,r.2.getD 0]))->∀q∈l,P q) h (λa=>z (a (.head _)) (z b n)) (λU=>n) (λU=>z c (z d n)) (λu v hu hv U q hq=>?_) a;refine(bg.1 hq).elim (λhq=>?_) λhq=>?_
 .rcases hu with rfl|rfl
  .exact n q hq
  .exact z e n q hq
 .rcases hv with rfl|rfl|rfl
  .exact n q hq
  .exact z c n q hq
  .exact z f n q hq
theorem C8 {n k:Nat}{s:cY}{l:Fd}(ho:r.1<85)(ha:dO n r)(hp:0<=pc)(hs:Pk k s)(h:dS r pc s=aa l):∀q∈l,0<=q.1/\Pk (k+1) q.2:=by
 have hg:=ha.nn;have ht:=(hs.take (s.length-fP r)).app (uz ho) λx hx=>(Co x hx).1;have hq:0<=pc+1:=by exact Xl hp
 refine tR (P:=λq=>0<=q.1/\Pk (k+1) q.2) h (λU=>⟨hg,hs.app (by show 2<=4;exact Xn) λx hx=>?_⟩) ⟨hq,hs.up⟩ ⟨hg,hs.up⟩ ⟨hq,hs.app (by show 1<=4;exact Xk) λx hx=>by rw[au.1 hx];decide⟩ ⟨hq,ht⟩ ⟨hg,ht⟩;refine bZ (aM.1 hx) (λhx=>?_) λhx=>?_
 .rw[hx];decide
 .rw[au.1 hx];exact Mn hg
theorem oX  {s:cY}{l:Fd}(h:dS r pc s=aa l):l.length<=2:=by refine wc (P:=λl=>l.length<=2) h (aO _) (bL _) (aO _) λu v hu hv=>?_;rcases hu with rfl|rfl<;>rcases hv with rfl|rfl|rfl<;>exact dC rfl
theorem Dg {n k:Nat}{hs:List Hn}{s:cY}{l:Fd}(hv:∀h∈hs,Ef n h)(hk:Pk k s)(h:thrown hs o pc s=aa l):∀q∈l,0<=q.1/\Pk (k+1) q.2:=by
 unfold thrown at h
 split at h
 .obtain rfl:=aj h;exact λq hq=>absurd hq ba
 .rename_i a e
  have ha:=hv a (lZ e)
  split at h
  .obtain rfl:=aj h;exact λq hq=>absurd hq ba
  split at h
  .exact nomatch h
  .obtain rfl:=aj h;intro q hq;rw[au.1 hq];refine⟨ha.2.1.1,?_⟩;refine(?_:Pk (k+1) (_++_++_));rw[aV];refine(hk.take _).app ?_ λx hx=>?_
   .split<;>exact dC rfl
   .have:=ha.2.1.1;refine bZ (bg.1 hx) (λhx=>?_) λhx=>?_
    .rw[au.1 hx];decide
    .split at hx
     .rw[au.1 hx];exact Mn this
     .exact absurd hx ba
theorem t9 {hs:List Hn}{s:cY}{l:Fd}(h:thrown hs o pc s=aa l):l.length<=1:=by
 unfold thrown at h
 split at h
 .obtain rfl:=aj h;exact bL _
 split at h
 .obtain rfl:=aj h;exact bL _
 split at h
 .exact nomatch h
 .obtain rfl:=aj h;exact aO _
set_option tactic.hygienic true in
theorem o5 {hs:List Hn}{s:cY}{l:Fd}(h:step c hs pc s=aa l):∃r a b,r∈c/\dS r pc s=aa a/\thrown hs r.1 pc s=aa b/\l=a++b:=by
 unfold step at h
 split at h
 .exact nomatch h
 rename_i r e
 split at h
 .exact nomatch h
 rename_i a e1
 split at h
 .exact nomatch h
 rename_i b e2
 obtain rfl:=aj h;exact⟨r,a,b,aN e,e1,e2,rfl⟩
theorem s9 {hs:List Hn}(ho:∀r∈c,r.1<85)(v:Valid c hs):HU (step c hs) where
 pk k p s l hp hk h q hq:=by
  (refine MF (o5 h) λr a b hr h1 h2 z1=>?_;subst z1);refine bZ (bg.1 hq) (λhq=>?_) λhq=>?_
  .exact C8 (ho r hr) (v.arg r hr) hp hk h1 q hq
  .exact Dg v.h hk h2 q hq
 tn p s l h:=by(refine MF (o5 h) λr a b hr h1 h2 z1=>?_;subst z1);rw[ao];have:=oX h1;have:=t9 h2;exact Xe (by assumption) this
section
variable {X Y:Int->cY->Prop}{s t:cY}
theorem lX.take (h:lX X s)(k:Nat):lX X (s.take k):=λi g e e2=>by
 have hi:i<k:=by have:=(aA.1 e).1;rw[cv]at this;exact Xd this
 rw[z8 hi]at e;rw[List.take_take,xi (FN hi)];exact h i g e e2
theorem lX.app (h:lX X s)(ht:∀x∈t,x<0):lX X (s++t):=λi g e e2=>by
 by_cases hi:i<s.length
 .rw[aZ hi]at e;rw[vC (FN hi)];exact h i g e e2
 .rw[cB (Mk hi)]at e;have:=ht g (aN e);exact(Xc e2 this).elim
theorem lX.one {g:Int}(h:lX X s)(hg:X g (s++[g])):lX X (s++[g]):=λi a e e2=>by
 by_cases hi:i<s.length
 .rw[aZ hi]at e;rw[vC (FN hi)];exact h i a e e2
 .have hl:=(aA.1 e).1;rw[ao]at hl;have hl:i<s.length+1:=hl;have hi:i=s.length:=by exact Mj hi hl
  subst hi;rw[cB (aO _),oA]at e;obtain rfl:=aj e;rw[BB (by rw[ao];exact aO _)];exact hg
end
theorem Js:∀x∈([-1]:cY),x<0:=λx hx=>by rw[au.1 hx];decide
set_option tactic.hygienic true in
theorem IL (c:List Row)(hs:List Hn):Nf (step c hs):=by
 intro p s l X hX h;(refine MF (o5 h) λr a b hr h1 h2 z1=>?_;subst z1);have Kc:lX (λg t=>X g t\/(g,t)∈a++b) s:=hX.imp λU U h=>.inl h;have sub:∀q∈a++b,(X q.1 q.2\/(q.1,q.2)∈a++b):=λq hq=>.inr hq;generalize hY:(λg t=>X g t\/(g,t)∈a++b)=Y at *;have sub:∀q∈a++b,Y q.1 q.2:=λq hq=>by rw[<- hY];exact .inr hq
 have hbe:lX Y (s.take (s.length-fP r)++made r.1):=(Kc.take _).app λx hx=>(Co x hx).2;intro q hq;refine bZ (bg.1 hq) (λhq=>?_) λhq=>?_
 .refine tR (P:=λq=>lX Y q.2) h1 (λhq=>?_) Kc Kc (Kc.app Js) hbe hbe q hq;have:=sub _ (bS _ hq);have e:s++[-1,r.2.getD 0]=s++[-1]++[r.2.getD 0]:=by rw[aV];rfl
  dsimp only at this ⊢;rw[e]at this ⊢;exact(Kc.app Js).one this
 .unfold thrown at h2
  split at h2
  .obtain rfl:=aj h2;exact absurd hq ba
  rename_i hd e
  split at h2
  .obtain rfl:=aj h2;exact absurd hq ba
  split at h2
  .exact nomatch h2
  obtain rfl:=aj h2;have:=sub q (aU _ hq);rw[au.1 hq]at this ⊢;unfold H5 at this ⊢;dsimp only at this ⊢;induction hf:hd.f with
  |true =>rw[hf,if_pos rfl]at this;rw[if_pos rfl];exact((Kc.take _).app Js).one this
  |false =>rw[if_neg bq,aP];exact(Kc.take _).app Js
theorem orB {b:Bool}{R A B:Prop}(h:b=af->A)(h2:b=ag->R):if b=ag then R else if b=af then A else B:=by
 induction b
 .exact h2 rfl
 .exact h rfl
theorem aav {b:Bool}{R A B:Prop}(h:b=af->R)(h2:b=ag->B):if b=af then R else if b=af then A else B:=by
 induction b
 .exact h2 rfl
 .exact h rfl
theorem AW {p:Prop}[Decidable p]{R A B:Prop}(h:p->A)(h2:¬p->R):if decide p=ag then R else if decide p=af then A else B :=
 orB (λe=>h (of_decide_eq_true e)) λe=>h2 (of_decide_eq_false e)
theorem vf {p:Prop}[Decidable p]{R A B:Prop}(h:p->R)(h2:¬p->B):if decide p=af then R else if decide p=af then A else B :=
 aav (λe=>h (of_decide_eq_true e)) λe=>h2 (of_decide_eq_false e)
structure g9 (σ:bp)(n:Nat)(c:List Row)(h:List Hn):Prop where
 i:σ[n]?=aa (.inst (uF n JJ 1))
 c:σ[n+1]?=aa (.list (c.map cV))
 h:σ[n+2]?=aa (.list (h.map hV))
theorem g9.app {n:Nat}{h:List Hn}(u:g9 σ n c h)(τ:bp):g9 (σ++τ) n c h:=⟨O5 u.i,O5 u.c,O5 u.h⟩
theorem g9.dm {n:Nat}{h:List Hn}(u:g9 σ n c h)(f:Nat){x:V}(hx:(uF n JJ 1)[f]?=aa x):yd σ (.loc n) f=aa x:=by refine(?_:KJ (σ[n]?) f=_);rw[u.i];exact hx
theorem Aj {n:Nat}{l:List V}(h:σ[n]?=aa (.list l)):items σ (.loc n)=aa l:=by refine(?_:(match σ[n]? with|some (.list l)=>aa l|_=>ae)=_);rw[h]
theorem Gz (σ:bp)(h:o<85)(j:Nat)(s:Str)(hj:j<9)(e:kA j=s):fc σ .eq (.str (kA (kd o))) (.str s)=aa (decide (kd o=j)):=e▸kAe (kd o) (wN h) j hj
theorem Qh (σ:bp)(h:o<85)(j:Nat)(s:Str)(hj:j<9)(e:kB j=s):fc σ .eq (.str (kB (kd o))) (.str s)=aa (decide (kd o=j)):=e▸kBe (kd o) (wN h) j hj
section
variable {n:Nat}{hs:List Hn}
theorem ya (i:Int)(h:Q (.bool (decide (0<=i))) σ):Wp (cl (d+1) 5 [.int i] σ) Q E:=by
 refine call kG 0 rfl rfl ?_;dsimp only[kG,pG,cW,cq,cj,ij,i8,xt,eT,jE,jD,dF,dv,cZ,Gs,oy,sge,d5,d6,d4,ah];refine Gi rfl (Gi rfl (jn (λe=>?_) λe=>?_))
 .rw[decide_eq_true e]at h;exact h
 .exact h
theorem Ko (h:Q (.bool ag) σ):Wp (cl (d+1) 5 [.none] σ) Q E:=by refine call kG 0 rfl rfl ?_;dsimp only[kG,pG,cW,cq,cj,ij,i8,xt,eT,jE,jD,dF,dv,cZ,Gs,oy,d5,d6,d4,ah];exact Gi rfl h
theorem Cr (ho:r.1<85)(h:Q (.str (kA (kd r.1))) σ):Wp (cl (d+1) 1 [.int r.1] σ) Q E:=by refine call pv 0 rfl rfl ?_;dsimp only[pv,vd,cW,cq,sH,cA,dF,dv,cZ,Gs,d5,d6,d4,ah];exact HY G0 (gA _ ho) rfl h
theorem Jm (ho:r.1<85)(h:Q (.int (pt r.1)) σ):Wp (cl (d+1) 3 [.int r.1] σ) Q E:=by refine call nJ 0 rfl rfl ?_;dsimp only[nJ,sf,cW,cq,sH,cA,dF,dv,cZ,Gs,d5,d6,d4,ah];exact HY G0 (gA _ ho) rfl h
theorem dO.g7 (h:dO n r)(e:kd r.1=7):∃g:Nat,r.2=aa (g:Int):=by unfold dO at h;rw[if_neg (Xu e)]at h;obtain⟨g,e2,h,_⟩:=h;exact⟨g.toNat,by rw[e2,gh h]⟩
theorem EJ (ho:r.1<85)(ha:dO n r)(h:Q (.int (fP r)) σ):Wp (cl (d+1) 2 [.int r.1,oV r.2] σ) Q E:=by
 refine call lA 0 rfl rfl ?_;dsimp only[lA,oQ,cW,cq,sH,eP,cj,i9,cA,eT,dF,dv,cZ,Gs,Tb,d5,d6,d4,ah,ai];refine QE G0 (gA _ ho) rfl G0 (gA _ ho) (je rfl (Gz _ ho 7 _ (by decide) rfl) (jn (λe=>?_) λe=>?_))
 .obtain⟨g,e2⟩:=ha.g7 e;rw[e2];have q:fP r=tk r.1+g:=by unfold fP;rw[if_pos e,e2];rfl
  rw[q]at h;exact h
 .have q:fP r=tk r.1:=by unfold fP;rw[if_neg e];rfl
  rw[q]at h;refine(?_:Q (.int (tk r.1+0)) σ);rw[fS];exact h
theorem qh (i:Int):∀l:List Int,qj (.int i) (l.map .int)=aa (decide (i∈l))
 |[]=>rfl
 |a::l=>by
  refine(?_:(match vB (.int a) (.int i),qj (.int i) (l.map .int)with|some a,aa b=>aa (a||b)|_,_=>ae)=_);rw[qh i l];refine(?_:aa (decide (a=i)||decide (i∈l))=_);congr 1;rw[<- yl];refine decide_eq_decide.2 ⟨λh=>?_,λh=>?_⟩
  .refine bZ h (λh=>?_) λh=>?_
   .rw[h];exact aR
   .exact bf _ h
  .exact(aM.1 h).imp fb id
theorem Cj (o:Nat)(l:List Nat):qj (.int o) (l.map λi:Nat=>V.int i)=aa (decide (o∈l)):=by have h:=qh o (l.map cJ);rw[s6]at h;refine h.trans (congrArg aa (decide_eq_decide.2 ⟨λh=>?_,λh=>bX.2 ⟨o,h,rfl⟩⟩));refine dB (bX.1 h) λa h e=>?_;have:a=o:=Int.ofNat.inj e;exact this▸h
theorem JF (h:Q (.bool (decide (r.1∈xU))) σ):Wp (cl (d+1) 4 [.int r.1] σ) Q E:=by refine call rE 0 rfl rfl ?_;dsimp only[rE,xd,cq,sH,cj,eT,dF,dv,cZ,Gs,d5,d6,d4,ah];exact je (show G[1]?=aa (.lst (xU.map λi:Nat=>V.int i))from rfl) (Cj r.1 xU) h
noncomputable def HI (n k:Nat):Int:=if k=1\/k=2 then 2 else if k=3 then 1 else if k=4 then 0 else if k=5 then 0 else if k=6 then n else if k=8 then 0 else -1
theorem HH (u:g9 σ n c hs)(hc:c.length<5000)(ho:r.1<85)(h:Q (.int (HI c.length (kd r.1))) σ):Wp (cl (d+1) 6 [.loc n,.str (kA (kd r.1))] σ) Q E:=by
 refine call pn 0 rfl rfl ?_;dsimp only[pn,vc,cW,cq,AA,cj,mC,i9,dR,eO,eT,jE,jD,dW,dF,dv,cZ,Gs,Tb,PR,oy,qS,d5,d6,d4,ah,ai];have two:kd r.1=1\/kd r.1=2->Gt (yd σ (.loc n) 3) λz=>Gt (items σ z) λl=>l.length<lim/\Q (.int l.length) σ:=λe=>by unfold HI at h;rw[if_pos e]at h;exact je (u.dm 3 rfl) rfl ⟨lm rfl,h⟩
 refine Gi (Gz _ ho 1 _ (by decide) rfl) (AW (λe=>two (.inl e)) λe1=>Gi (Gz _ ho 2 _ (by decide) rfl) (AW (λe=>two (.inr e)) λe2=>?_));unfold HI at h;rw[if_neg (λe=>e.elim e1 e2)]at h;refine Gi (Gz _ ho 3 _ (by decide) rfl) (jn (λe=>?_) λe=>?_)
 .rw[if_pos e]at h;exact Gi (u.dm 7 rfl) h
 rw[if_neg e]at h;refine Gi (Gz _ ho 4 _ (by decide) rfl) (jn (λe=>?_) λe=>?_)
 .rw[if_pos e]at h;exact Gi (u.dm 8 rfl) h
 rw[if_neg e]at h;refine Gi (Gz _ ho 5 _ (by decide) rfl) (jn (λe=>?_) λe=>?_)
 .rw[if_pos e]at h;exact je (u.dm 9 rfl) rfl ⟨lm rfl,h⟩
 rw[if_neg e]at h;refine Gi (Gz _ ho 6 _ (by decide) rfl) (jn (λe=>?_) λe=>?_)
 .rw[if_pos e]at h;refine je (u.dm 2 rfl) (Aj u.c) ⟨show _<100000 by rw[ak];exact qf hc,?_⟩;rw[ak];exact h
 rw[if_neg e]at h;refine Gi (Gz _ ho 8 _ (by decide) rfl) (jn (λe=>?_) λe=>?_)
 .rw[if_pos e]at h;exact je (u.dm 4 rfl) rfl ⟨lm rfl,h⟩
 rw[if_neg e]at h;exact h
end
section
variable {n:Nat}{hs:List Hn}
theorem g9.row (u:g9 σ n c hs)(h0:0<=pc)(hp:c[pc.toNat]?=aa r)(hc:c.length<5000):hK σ (.loc (n+1)) (.int pc)=aa (cV r):=by have:=(aA.1 hp).1;rw[DK _ u.c,zQ σ h0 (by rw[ak];exact Xs h0 this) (by rw[ak];exact qf hc),cy,hp];rfl
theorem Ph (n:Nat):∀k,k<9->k≠0->(k=7/\HI n k = -1)\/(k≠7/\HI n k=Kq n k/\0<=Kq n k)
 |0,_,h=>absurd rfl h
 |1,_,_|2,_,_=>.inr ⟨by decide,rfl,show(0:Int)<=2 by decide⟩
 |3,_,_=>.inr ⟨by decide,rfl,show(0:Int)<=1 by decide⟩
 |4,_,_|5,_,_|8,_,_=>.inr ⟨by decide,rfl,show(0:Int)<=0 by decide⟩
 |6,_,_=>.inr ⟨by decide,rfl,eK n⟩
 |7,_,_=>.inl ⟨rfl,rfl⟩
 |k+9,h,_=>by exact Xr h
theorem PN (u:g9 σ n c hs)(hc:c.length<5000)(h0:0<=pc)(hp:c[pc.toNat]?=aa r)(ho:r.1<85)(h:dO c.length r->Q .none σ)(he:¬dO c.length r->E σ):Wp (cl (d+2) 7 [.loc n,.int pc] σ) Q E:=by
 refine call nS 4 rfl rfl ?_;dsimp only[nS,su,cW,cq,sH,cj,ij,mC,i8,cA,dR,dy,xt,dT,ew,eT,yF,jE,jD,eu,fJ,dW,dF,iD,dv,cZ,Gs,Tb,oy,QY,vA,qS,MU,d5,d6,d4,gq,az,aD,ah,ai];refine je (u.dm 2 rfl) (u.row h0 hp hc) ?_;dsimp only[cV,mS,i6,i5,Gs,xe,az,aD,ah,ai,aF,aG];refine⟨rfl,ya _ ?_⟩;rw[decide_eq_true (eK _)];dsimp only[oy,qS,MU,nT];refine je (rfl:G[2]?=aa (.int 85)) rfl (AW (λe=>by exact(Xq ho e).elim) λU=>Cr ho (Gi (Gz _ ho 0 _ (by decide) rfl) (jn (λe=>?_) λe=>?_)))
 .unfold dO at h he;rw[if_pos e]at h he;induction e2:r.2 with
  |none=>exact h e2
  |some g=>exact he λq=>nomatch e2.symm.trans q
 .unfold dO at h he;rw[if_neg e]at h he;refine HH u hc ho ?_;induction e2:r.2 with
  |none =>refine Ko ?_;dsimp only[Gs,oy,sle,vA,MT,nF];exact he λz_=>by obtain⟨g,q,_⟩:=z_;exact nomatch e2.symm.trans q
  |some g =>
   refine ya _ ?_;by_cases h1:0<=g
   .rw[decide_eq_true h1];dsimp only[Gs,oy,sle,qS,MU,nT];have hk:=wN ho;have bad:¬(kd r.1=7\/g<Kq c.length (kd r.1))->E σ:=λq=>he λ⟨g2,q1,q2,q3,q4⟩=>by
     cases e2.symm.trans q1
     exact q q3
    have rest:(kd r.1=7\/g<Kq c.length (kd r.1))->Gt (fc σ .eq (.str (kA (kd r.1))) (.str (st "s"))) λQb=>if Qb=af then Gt (yd σ (.loc n) 3) λz=>Gt (hK σ z (.int g)) λz=>Gt (Ba 2 z) λb=>if(!b)=af then E σ else if(!b)=af then E σ else Q .none σ else if Qb=af then E σ else Q .none σ:=λq=>by
     refine Gi (Gz _ ho 2 _ (by decide) rfl) (vf (λe3=>?_) λe3=>h ⟨g,e2,h1,q,λq=>absurd q e3⟩);have q2:g<2:=q.elim (λq=>by exact Xp e3 q) λq=>by rw[e3]at q;exact q
     refine Gi (u.dm 3 rfl) ?_;by_cases e4:g=1
     .subst e4;exact h ⟨1,e2,h1,q,λU=>rfl⟩
     .have e5:g=0:=by exact Xo h1 q2 e4
      subst e5;refine he λ⟨g2,q1,_,_,q4⟩=>?_;cases e2.symm.trans q1;exact absurd (q4 e3) (by decide)
    rcases Ph c.length (kd r.1) hk e with⟨e7,eb⟩|⟨e7,eb,b0⟩
    .rw[eb];exact rest (.inl e7)
    .rw[eb];refine jn (λU=>AW (λb1=>bad λq=>q.elim e7 λq=>by exact Xm e7 b1 (by assumption)) λb1=>rest (.inr (Mm b1))) λq=>absurd b0 q
   .rw[decide_eq_false h1];dsimp only[Gs,oy,sle,vA,MT,nF];exact he λ⟨g2,q1,q2,_⟩=>by
     cases e2.symm.trans q1
     exact h1 q2
end
section
variable {n:Nat}{hs:List Hn}
theorem zx (v:V)(h:Q .none σ):Wp (cl (d+1) 8 [v,.none] σ) Q E:=by refine call oN 1 rfl rfl ?_;exact h
theorem J9 (u:g9 σ n c hs)(hc:c.length<5000)(h0:0<c.length)(h:Q .none σ):Wp (cl (d+2) 9 [.loc n] σ) Q E:=by refine call qv 4 rfl rfl ?_;refine Gi (u.dm 14 rfl) ?_;dsimp only[cW,cq,eH,AA,cj,ij,mC,dR,dy,eO,dT,ew,eT,jE,jD,el,dW,fH,iD,dv,cZ,BM,Gs,Tb,PR,oy,qU,Ld,AO,QU,JX,DE,vA,qS,li0,KR,d5,d6,d4,gq,aD,ah];refine Gi (u.dm 12 rfl) (zx _ (Gi (u.dm 13 rfl) (zx _ (je (u.dm 14 rfl) rfl ⟨lm rfl,je (u.dm 1 rfl) rfl ⟨lm rfl,AW (λe=>absurd e (by decide)) λU=>je (u.dm 2 rfl) (Aj u.c) ⟨show _<100000 by rw[ak];exact qf hc,?_⟩⟩⟩))));rw[ak];refine AW (λe=>by exact(Xj h0 e).elim) λU=>Gi (u.dm 6 rfl) ⟨lm rfl,Gi (a:=ag) rfl (Gi (u.dm 4 rfl) h)⟩
theorem C6 (a b:Hn)(h:b.s<=a.s/\a.e<=b.e->Q (.bool af) σ)(h2:¬(b.s<=a.s/\a.e<=b.e)->Q (.bool ag) σ):Wp (cl (d+1) 10 [hV a,hV b] σ) Q E:=by
 refine call r8 0 rfl rfl ?_;refine Gi rfl (Gi rfl (Gi rfl (jn (λe=>Gi rfl (Gi rfl (Gi rfl (jn (λe2=>h ⟨e,e2⟩) λe2=>?_)))) λe=>?_)))
 .rw[decide_eq_false e2];exact h2 λq=>e2 q.2
 .rw[decide_eq_false e];exact h2 λq=>e q.1
end
section
variable {n:Nat}{hs:List Hn}
def MS:List S:=[.ite (.and [.cmp (.sub (.v 3) (.k (.int 0))) [.lt] [.sub (.v 4) (.k (.int 1))],.cmp (.sub (.v 4) (.k (.int 0))) [.lt] [.sub (.v 3) (.k (.int 1))],.not (.call 10 [.v 3,.v 4])]) [.raise (.k (.str (st "handlers across one another"))) (.sub (.v 3) (.k (.int 0)))] []]
inductive JI (v0 v1 v2:Option V)(a:Hn)(σ:bp)(A:Vs->bp->Prop)(E:bp->Prop)(vl:List V):Vs->bp->Prop
 |mk (a4:Option V) (l:List Hn):vl=l.map hV->((∀b∈l,mf a b)->∀a4,A [v0,v1,v2,aa (hV a),a4] σ)->(¬(∀b∈l,mf a b)->E σ)->JI v0 v1 v2 a σ A E vl [v0,v1,v2,aa (hV a),a4] σ
theorem lO (a:Hn)(l:List Hn)(a4:Option V)
  (h:(∀b∈l,mf a b)->∀a4,A [v0,v1,v2,aa (hV a),a4] σ)(he:¬(∀b∈l,mf a b)->E σ) :
  Wp (ja (.n 4) (λvs σ=>l5 G (cl (d+1)) 1000 MS vs σ) (l.map hV) [v0,v1,v2,aa (hV a),a4] σ) (tK A K) E:=by
 refine oo (JI v0 v1 v2 a σ A E) ?_ ?_ _ _ _ (.mk a4 l rfl h he)
 .clear h he;intro x vl vs τ I;induction I with|mk a4 l e h he=>?_
  induction l using List.casesOn with
  |nil=>exact nomatch e
  |cons b l =>
   (obtain⟨rfl,rfl⟩:=eY e);have yes:mf a b->tK (JI v0 v1 v2 a σ A E (l.map hV)) K (.nx,[v0,v1,v2,aa (hV a),aa (hV b)]) σ:=λp =>
    JI.mk _ l rfl (λq=>h λb' hb=>(aM.1 hb).elim (λe=>e▸p) (q b')) λq=>he λq2=>q λb' hb=>q2 b' (bf _ hb)
   refine Gi rfl (fF _ _ _ _ _ _ _ _ _ ?_);unfold MS;dsimp only[cW,cq,cj,ij,i8,cA,dy,dT,ew,eT,jE,jD,dW,iD,dv,cZ,Gs,Tb,oy,vA,ah,ai,aF,aG];refine HY rfl rfl rfl (vf (λe1=>HY rfl rfl rfl (vf (λe2=>?_) λe2=>yes λU q=>absurd q e2)) λe1=>yes λq=>absurd q e1);refine C6 a b (λp=>?_) λp=>?_
   .exact yes λU U=>p
   .exact Gi rfl (he λq=>p (q b aR e1 e2))
 .clear h he;intro vs τ I;induction I with|mk a4 l e h he=>?_
  induction l using List.casesOn with
  |nil=>exact h (λU hb=>absurd hb ba) a4
  |cons b l=>exact nomatch e
def lF (m:Nat)(l:List Hn):Prop:=(∀h∈l,Ef m h)/\l.Pairwise mf
theorem lF.cons {a:Hn}{l:List Hn}:lF m (a::l)<->Ef m a/\(∀b∈l,mf a b)/\lF m l:=by unfold lF;rw[List.pairwise_cons];exact⟨λh=>⟨h.1 a aR,h.2.1,λb hb=>h.1 b (bf _ hb),h.2.2⟩,λh=>⟨λb hb=>(aM.1 hb).elim (λe=>e▸h.1) (h.2.2.1 b),h.2.1,h.2.2.2⟩⟩
theorem tw {l:List α}{a:α}(h:l[i]?=aa a):l.drop i=a::l.drop (i+1):=by obtain⟨hi,e⟩:=aA.1 h;rw[<- e];exact l4 hi
noncomputable def C1:X:=.or [.not (.cmp (.k (.int 0)) [.le,.lt,.le] [.sub (.v 3) (.k (.int 0)),.sub (.v 3) (.k (.int 1)),.v 1]),.not (.cmp (.k (.int 0)) [.le,.lt] [.sub (.v 3) (.k (.int 2)),.v 1]),.not (.call 5 [.sub (.v 3) (.k (.int 3))])]
noncomputable def C2:X:=.cmp (.sub (.v 3) (.k (.int 0))) [.le,.lt] [.sub (.v 3) (.k (.int 2)),.sub (.v 3) (.k (.int 1))]
theorem Gb {p:Prop}[Decidable p]{R A B:Prop}(h:¬p->A)(h2:p->R):if(!decide p)=ag then R else if(!decide p)=af then A else B :=
 orB (λe=>h λq=>by rw[decide_eq_true q]at e;exact nomatch e) λe=>h2 (of_decide_eq_true (by cases q:decide p;rw[q]at e;exact nomatch e;rfl))
theorem aaj  {a:Hn}{A:bp->Prop}(h:(0<=a.s/\a.s<a.e/\a.e<=m)/\(0<=a.h/\a.h<m)/\0<=a.d->B σ)(he:¬((0<=a.s/\a.s<a.e/\a.e<=m)/\(0<=a.h/\a.h<m)/\0<=a.d)->A σ) :
  we G (cl (d+1)) [v0,aa (.int m),v2,aa (hV a),v4] E C1 [] σ λx σ=>Tw x (A σ) (B σ):=by
 unfold C1;dsimp only[cW,cq,cj,mC,i8,cA,dy,dT,ew,eT,yF,jE,jD,Gs,Tb,oy,vA,qS,MT,nF,ah,ai];refine je rfl rfl (jn (λe1=>je rfl rfl (jn (λe2=>Gi rfl (Gb (λe3=>he λq=>e3 q.1.2.2) λe3=>je rfl rfl (jn (λe4=>Gi rfl (Gb (λe5=>he λq=>e5 q.2.1.2) λe5=>Gi rfl (ya _ ?_))) λe4=>?_))) λe2=>?_)) λe1=>?_)
 .exact Gb (p:=0<=a.d) (λe=>he λq=>e q.2.2) λe=>h ⟨⟨e1,e2,e3⟩,⟨e4,e5⟩,e⟩
 .exact he λq=>e4 q.2.1.1
 .exact he λq=>e2 q.1.2.1
 .exact he λq=>e1 q.1.1
theorem aai {a:Hn}{A:bp->Prop}(h:a.s<=a.h/\a.h<a.e->A σ)(he:¬(a.s<=a.h/\a.h<a.e)->B σ) :
  we G (cl (d+1)) [v0,v1,v2,aa (hV a),v4] E C2 [] σ λx σ=>Tw x (A σ) (B σ):=by
 unfold C2;dsimp only[cW,cq,cj,cA,eT,yF,Gs,Tb,qS,ah,ai];exact HY rfl rfl rfl (jn (λe1=>je rfl rfl (jn (λe2=>h ⟨e1,e2⟩) λe2=>he λq=>e2 q.2)) λe1=>he λq=>e1 q.1)
inductive JK (σ:bp)(n:Nat)(c:List Row)(hs:List Hn)(Q:V->bp->Prop)(E:bp->Prop)(i:Nat):Vs->bp->Prop
 |mk (a2 a3 a4:Option V):(lF c.length (hs.drop i)->Q .none σ)->(¬lF c.length (hs.drop i)->E σ)->JK σ n c hs Q E i [aa (.loc n),aa (.int c.length),a2,a3,a4] σ
theorem Zp (u:g9 σ n c hs)(hc:c.length<5000)(hh:hs.length<900)(h:lF c.length hs->Q .none σ)(he:¬lF c.length hs->E σ):Wp (cl (d+2) 11 [.loc n] σ) Q E:=by
 refine call jx 4 rfl rfl ?_;dsimp only[jx,lT,cq,dR,eO,Nn,eu,fH,dv,cZ,Gs,acw,d5,d6,d4,gq,ah,aF,aG];refine je (u.dm 2 rfl) (Aj u.c) ⟨show _<100000 by rw[ak];exact qf hc,?_⟩;rw[ak];have hw:Hy (.loc (n+2)) σ=.ok (.live (n+2) af) σ:=by unfold Hy;rw[qm u.h];rfl
 refine Gi (u.dm 5 rfl) ?_;rw[hw];refine j9 (hs.map hV) (JK σ n c hs Q E) ?_ ?_ ?_ 1000 0 _ _ (bL _) (by rw[ak];exact FO hh) (.mk _ _ _ h he)
 .intro i vs τ I;induction I with|mk=>exact u.h
 .clear h he;intro i v vs τ hv I;induction I with|mk a2 a3 a4 h he=>?_
  (refine dB (nE hv) λa ha z1=>?_;subst z1);rw[tw ha,lF.cons]at h he;have hi:i<hs.length:=(aA.1 ha).1;refine Gi (a:=[aa (.loc n),aa (.int c.length),aa (.int i),aa (hV a),a4]) rfl (fF _ _ _ _ _ _ _ _ _ ?_);dsimp only[cZ,dW];refine aaj (λp1=>aai (λp2=>?_) λp2=>?_) λp1=>?_
  .dsimp only[cW,cq,eP,cA,tP,dR,fH,iD,dv,Gs,OM,ah,ai];exact Gi rfl (he λq=>q.1.2.2.2 p2)
  .dsimp only[cW,cq,eP,tP,dR,fH,dv,Gs,Ig,OM,ah,ai];have e:(hs.map hV).drop ((i:Int)+1).toNat=(hs.drop (i+1)).map hV:=by rw[show((i:Int)+1).toNat=i+1 by lia,z7]
   refine Gi (u.dm 5 rfl) (slK u.h Ml (Xf hh hi) (by rw[ak];exact zo hh) ?_);dsimp only[BM,DE,KR];rw[e];refine lO a (hs.drop (i+1)) a4 (λp3 a4=>JK.mk _ _ _ (λp4=>h ⟨⟨p1.1,p1.2.1,p1.2.2,p2⟩,p3,p4⟩) λp4=>he λq=>p4 q.2.2) λp3=>he λq=>p3 q.2.1
  .dsimp only[cW,cq,eP,cj,cA,tP,dR,eT,yF,fH,iD,dv,Gs,Tb,OM,qS,ah,ai];exact Gi rfl (he λq=>p1 ⟨q.1.1,q.1.2.1,q.1.2.2.1⟩)
 .clear h he;intro vs τ I;induction I with|mk a2 a3 a4 h _=>?_
  rw[ak,mY]at h;exact h ⟨λU q=>absurd q ba,.nil⟩
end
noncomputable def tV (s:cY):V:=.tup (s.map .int)
def eA (q:Int×cY):V:=.tup [.int q.1,tV q.2]
section
variable {n:Nat}{hs:List Hn}
noncomputable def ohV:Option Hn->V
 |none=>.none
 |some h=>hV h
theorem F3 {a:Hn}{l:List Hn}(h:a.s<=pc/\pc<a.e):over (a::l) pc=aa a:=List.find?_cons_of_pos (p:=λh:Hn=>decide (h.s<=pc/\pc<h.e)) (decide_eq_true h)
theorem Jp {a:Hn}{l:List Hn}(h:¬(a.s<=pc/\pc<a.e)):over (a::l) pc=over l pc:=List.find?_cons_of_neg (p:=λh:Hn=>decide (h.s<=pc/\pc<h.e)) (by rw[decide_eq_false h];exact bq)
theorem aat (pc:Int){k:Nat}(hk:σ[k]?=aa (.list (hs.map hV)))(hh:hs.length<900)(h:Q (ohV (over hs pc)) σ):Wp (cl (d+1) 12 [.loc k,.int pc] σ) Q E:=by
 refine call ml 1 rfl rfl ?_;dsimp only[ml,qK,cW,cq,fH,dF,dv,cZ,Gs,zM,d5,d6,d4,gq,ah];have hw:iW (.loc k) σ=.ok (.live k ag) σ:=by refine(?_:(if uM σ (.loc k)then R.ok (IK.live k ag) σ else R.bad)=_);rw[qm hk];rfl
 rw[hw];refine j9 (hs.map hV) (λi vs τ=>τ=σ/\(∃a2,vs=[aa (.loc k),aa (.int pc),a2])/\over hs pc=over (hs.drop i) pc) ?_ ?_ ?_ 1000 0 _ _ (bL _) (by rw[ak];exact FO hh) ⟨rfl,⟨_,rfl⟩,rfl⟩
 .rintro i vs τ ⟨rfl,_⟩;exact hk
 .rintro i v vs τ hv ⟨rfl,⟨a2,rfl⟩,e⟩;(refine dB (nE hv) λa ha z1=>?_;subst z1);refine Gi (a:=[aa (.loc k),aa (.int pc),aa (hV a)]) rfl (fF _ _ _ _ _ _ _ _ _ ?_);dsimp only[cW,cq,cj,cA,eT,yF,dW,dF,dv,cZ,Gs,Tb,qS,ah,ai];rw[tw ha]at e;have no:¬(a.s<=pc/\pc<a.e)->over hs pc=over (hs.drop (i+1)) pc:=λp=>by rw[Jp p]at e;exact e
  refine je rfl rfl (jn (λe1=>je rfl rfl (jn (λe2=>?_) λe2=>?_)) λe1=>?_)
  .rw[F3 ⟨e1,e2⟩]at e;rw[e]at h;exact h
  .exact⟨rfl,⟨_,rfl⟩,no λq=>e2 q.2⟩
  .exact⟨rfl,⟨_,rfl⟩,no λq=>e1 q.1⟩
 .rintro vs τ ⟨rfl,⟨a2,rfl⟩,e⟩;rw[ak,mY]at e;rw[e]at h;exact h
theorem EI (s t:cY):s.map V.int++t.map V.int=(s++t).map V.int:=bM.symm
theorem OJ {a:Hn}{s:cY}(h0:0<=a.d)(h1:a.d<=s.length)(hl:s.length<50000)(h:Q (tV (H5 a s)) σ):Wp (cl (d+1) 13 [hV a,tV s] σ) Q E:=by
 refine call iO 1 rfl rfl ?_;dsimp only[iO,kM,tV,cW,cq,sH,dX,eP,i9,cA,tQ,dT,ew,eu,dF,dv,cZ,Gs,d5,d6,d4,gq,az,aD,ah,ai,aF,aG];have hm:(s.map V.int).length=s.length:=ak _;refine Gi rfl (shT h0 (by rw[hm];exact Xi h1) (by rw[hm];exact uk hl) ?_);have e:(s.map V.int).take a.d.toNat++[V.int (-1)]=(s.take a.d.toNat++[-1]).map V.int:=by rw[<- mB,<- EI];rfl
 have Bj:(s.take a.d.toNat++[-1]).length<=s.length+1:=by rw[ao,cv];exact gm (Nat.min_le_right _ _)
 refine Gi (rfl:G[3]?=aa (.int (-1))) ⟨lm rfl,?_⟩;dsimp only[cat,az,aD];rw[e];refine⟨show _<100000 by rw[cv,hm];show _+1<_;exact Xh h1 hl,Gi rfl ?_⟩;unfold H5 at h;induction hf:a.f with
 |true =>rw[hf]at h;refine Gi rfl ⟨lm rfl,show _<100000 by rw[ak];show _+1<_;exact Xg hl Bj,?_⟩;rw[if_pos rfl,tV,<- EI]at h;exact h
 |false =>rw[hf,if_neg bq,aP]at h;exact h
end
section
variable {n:Nat}{hs:List Hn}
theorem yY (s:cY):(s.map V.int).length=s.length:=ak _
theorem yZ (u:g9 σ n c hs)(hc:c.length<5000)(hh:hs.length<900)(hd:∀h∈hs,0<=h.d)(h0:0<=pc)(hp:c[pc.toNat]?=aa r){s:cY}(hl:s.length<50000)
  (h:∀l,thrown hs r.1 pc s=aa l->Q (.lst (l.map eA)) σ)(he:thrown hs r.1 pc s=ae->E σ):Wp (cl (d+2) 14 [.loc n,.int pc,tV s] σ) Q E:=by
 refine call lz 1 rfl rfl ?_;dsimp only[lz,oP,tV,cW,cq,sH,dX,eH,cj,mC,cA,dR,dy,eO,dT,ew,eT,jE,jD,eu,dW,dF,iD,dv,cZ,Gs,Tb,oy,qU,P8,acq,qS,d5,d6,d4,gq,az,aD,ah,ai,aF,aG];refine Gi (u.dm 5 rfl) (aat pc u.h hh ?_);unfold thrown at h he;induction e:over hs pc with
 |none =>rw[e]at h;exact⟨lm rfl,h _ rfl⟩
 |some a =>
  rw[e]at h he;have ha:=hd a (lZ e);refine QE (u.dm 2 rfl) (u.row h0 hp hc) rfl (show G[4]?=aa (.lst (Ji.map λi:Nat=>V.int i))from rfl) (Cj r.1 Ji) (AW (λq=>?_) λq=>?_)
  .exact⟨lm rfl,h _ (if_pos q)⟩
  .dsimp only at h he;rw[if_neg q]at h he;refine⟨show _<100000 by rw[yY];exact uk hl,Gi rfl (jn (λe1=>?_) λe1=>?_)⟩
   .rw[yY]at e1;exact he (if_pos e1)
   .rw[yY]at e1;exact Gi rfl (OJ ha (Mi e1) hl ⟨lm rfl,lm rfl,h _ (if_neg e1)⟩)
noncomputable def jI (b:Bool)(x:Int):Bool:=x != -1&&!(b&&x == -3)
inductive JD (th:cY)(v1:V)(b:Bool)(σ:bp)(Q:V->bp->Prop)(E:bp->Prop)(vl:List V):Vs->bp->Prop
 |mk (a3:Option V) (l:cY):vl=l.map V.int->(l.any (jI b)=ag->Q .none σ)->(l.any (jI b)=af->E σ)->JD th v1 b σ Q E vl [aa (tV th),aa v1,aa (.bool b),a3] σ
theorem Jt (v1:V)(b:Bool)(th:cY)(h:th.any (jI b)=ag->Q .none σ)(he:th.any (jI b)=af->E σ):Wp (cl (d+1) 15 [tV th,v1,.bool b] σ) Q E:=by
 refine call lB 1 rfl rfl ?_;dsimp only[lB,oR,tV,cq,fH,dv,cZ,BM,Gs,zM,Zg,KR,d5,d6,d4,gq,ah];refine oo (JD th v1 b σ Q E) ?_ ?_ _ _ _ (.mk _ th rfl h he)
 .clear h he;intro x vl vs τ I;induction I with|mk a3 l e h he=>?_
  induction l using List.casesOn with
  |nil=>exact nomatch e
  |cons x l =>
   (obtain⟨rfl,rfl⟩:=eY e);rw[fy]at h he;have go:jI b x=ag->tK (JD th v1 b σ Q E (l.map V.int)) (λv U σ=>Q v σ) (.nx,[aa (tV th),aa v1,aa (.bool b),aa (.int x)]) σ:=λp=>by rw[p,Ab]at h he;exact JD.mk _ l rfl h he
   have no:jI b x=af->E σ:=λp=>he (by rw[p,BD]);refine Gi (a:=[aa (tV th),aa v1,aa (.bool b),aa (.int x)]) rfl (fF _ _ _ _ _ _ _ _ _ ?_);dsimp only[cW,cq,sH,cj,ij,i8,eT,jE,jD,dW,iD,dv,cZ,Gs,Tb,oy,vA,qS,nT,ah,ai];refine je (show G[3]?=aa (.int (-1))from rfl) rfl (aav (λe1=>?_) λe1=>?_)
   .have e1:(x != -1)=af:=e1;induction b with
    |true =>
     dsimp only[vA,qS,nT];refine je (show G[5]?=aa (.int (-3))from rfl) rfl ?_;by_cases e2:x = -3
     .subst e2;exact go rfl
     .rw[beq_eq_false_iff_ne.2 e2];exact no (by unfold jI;rw[e1,beq_eq_false_iff_ne.2 e2];rfl)
    |false=>exact no (by unfold jI;rw[e1];rfl)
   .have e1:(x != -1)=ag:=e1;exact go (by unfold jI;rw[e1,Bool.false_and])
 .clear h he;intro vs τ I;induction I with|mk a3 l e h he=>?_
  induction l using List.casesOn with
  |nil=>exact h rfl
  |cons b l=>exact nomatch e
theorem ui (x:V):∀k:Nat,mV [x] k=bF k x
 |0=>rfl
 |k+1=>congrArg (λl=>x::l) (ui x k)
theorem Ow (ho:o<85)(h:Q (tV (made o)) σ):Wp (cl (d+1) 16 [.int o,.int (pt o)] σ) Q E:=by
 have hp:=FX ho;refine call rB 0 rfl rfl ?_;dsimp only[rB,xc,cq,sH,dX,eP,cj,dT,ew,eT,dW,dF,dv,cZ,Gs,Tb,cmt,d5,d6,d4,az,aD,ah,ai];unfold made at h;refine je (show G[6]?=aa (.int 70)from rfl) rfl (jn (λe=>?_) λe=>?_)
 .rw[if_pos (Xb e)]at h;exact Gi (show G[5]?=aa (.int (-3))from rfl) ⟨lm rfl,h⟩
 rw[if_neg (Xa e)]at h;refine je (show G[7]?=aa (.int 76)from rfl) rfl (jn (λe=>?_) λe=>?_)
 .rw[if_pos (W9 e)]at h;exact Gi (show G[8]?=aa (.int (-2))from rfl) ⟨lm rfl,h⟩
 rw[if_neg (W8 e)]at h;refine Gi (show G[3]?=aa (.int (-1))from rfl) ⟨lm rfl,?_⟩;refine⟨⟨show _<100000 by show(pt o:Int).toNat*1<_;exact Mg hp,by exact zj,by exact Mf hp⟩,?_⟩;rw[cg,ui];unfold tV at h;rw[List.map_replicate]at h;exact h
theorem gT {th:cY}(σ:bp)(h:i<th.length)(hl:th.length<50000):hK σ (tV th) (.int i)=aa (.int (th.getD i 0)):=by unfold tV;rw[Z1 σ zj (by rw[yY];exact Jj h) (by rw[yY];exact uk hl),cg,cy,A8 h];rfl
theorem KH {th:cY}(v:V)(h2:th.length=2)(h:th.getD 0 0 = -1/\0<=th.getD 1 0->Q (.lst []) σ)(he:¬(th.getD 0 0 = -1/\0<=th.getD 1 0)->E σ):Wp (cl (d+1) 18 [tV th,v] σ) Q E:=by refine call pb 0 rfl rfl ?_;dsimp only[pb,u0,cW,cq,sH,eH,cj,mC,cA,dT,eT,jE,jD,dW,dF,iD,dv,cZ,Gs,Tb,oy,qU,qS,d5,d6,d4,aD,ah,ai];refine Gi (gT (i:=0) _ (W6 h2) (Me h2)) (je (show G[3]?=aa (.int (-1))from rfl) rfl (Gb (λe=>he λq=>e q.1) λe=>Gi (gT (i:=1) _ (W0 h2) (Me h2)) (Gi rfl (AW (λe2=>he λq=>by exact WZ e e2 q) λe2=>⟨lm rfl,h ⟨e,by exact FK e2⟩⟩))))
end
section
variable {n:Nat}{hs:List Hn}
def Et:List S:=[.asg 8 (.bin .add ag (.v 7) (.call 16 [.v 3,.call 3 [.v 3]])),
 .asg 9 (.ite (.call 4 [.v 3]) (.lst af []) (.lst af [.tup [.bin .add ag (.v 1) (.k (.int 1)),.v 8]])),
 .ite (.cmp (.call 1 [.v 3]) [.eq] [.k (.str (st "t"))]) [.expr (.app (.v 9) (.tup [.v 4,.ite (.cmp (.v 3) [.rp] [.tup [.g 14,.g 15]]) (.v 2) (.v 8)]))] [],
 .ret (.v 9)]
def F8 (o:Nat)(pc:Int)(b:cY):Fd:=if o∈xU then[]else[(pc+1,b)]
def jmp (r:Row)(s b:cY):Fd:=if kd r.1=6 then[(r.2.getD 0,if r.1=61\/r.1=62 then s else b)]else[]
theorem dO.g6  (h:dO m r)(e:kd r.1=6):r.2=aa (r.2.getD 0):=by unfold dO at h;rw[if_neg (Mh e)]at h;(refine dB h λg e2 U=>?_;try clear h);rw[e2];rfl
theorem Iq (ho:r.1<85)(ha:dO m r)(pc:Int)(s be:cY)(hb:be.length<50000)(h:Q (.loc σ.length) (σ++[.list ((F8 r.1 pc (be++made r.1)++jmp r s (be++made r.1)).map eA)])) :
  iP G (cl (d+1)) 1000 E Et [v0,aa (.int pc),aa (tV s),aa (.int r.1),aa (oV r.2),v5,v6,aa (tV be),ae,ae] σ A (λv U σ=>Q v σ):=by
 unfold Et;have hm:=uz ho;refine Jm ho (Ow ho ⟨show(be.map V.int).length+((made r.1).map V.int).length<100000 by rw[yY,yY];exact W7 hb hm,JF ?_⟩);rw[EI];have fin:∀l:Fd,l.length<=1->Q (.loc σ.length) (σ++[.list ((l++jmp r s (be++made r.1)).map eA)])->Wp (cl (d+1) 1 [.int r.1] (σ++[.list (l.map eA)])) (λx yz=>Gt (fc yz .eq x (.str (st "t"))) λQb=>if Qb=af then uM yz (.loc σ.length)=af/\Gt G[14]? λx_1=>Gt G[15]? λx_2=>2<lim/\Gt (fc yz .rp (.int r.1) (.tup [x_1,x_2])) λr_2=>if r_2=af then 2<lim/\Ls yz (.loc σ.length) λn l=>l.length<lim/\Q (.loc σ.length) (yz.set n (.list (l++[.tup [oV r.2,tV s]])))else 2<lim/\Ls yz (.loc σ.length) λn l=>l.length<lim/\Q (.loc σ.length) (yz.set n (.list (l++[.tup [oV r.2,.tup ((be++made r.1).map V.int)]])))else Q (.loc σ.length) yz) E:=λl hl h=>by
  refine Cr ho (Gi (Gz _ ho 6 _ (by decide) rfl) (jn (λe=>⟨qm (gE _ _),?_⟩) λe=>?_))
  .have eg:=ha.g6 e;unfold jmp at h;rw[if_pos e]at h;rw[eg];refine je (rfl:G[14]?=aa (.int 61)) (rfl:G[15]?=aa (.int 62)) ⟨lm rfl,Gi (qh r.1 [61,62]) (jn (λe2=>?_) λe2=>?_)⟩
   .rw[if_pos (by refine bZ (aM.1 e2) (λe=>?_) λe2=>?_;exact .inl (WW e);exact .inr (by have:=au.1 e2;exact WV this)),bM]at h;refine⟨lm rfl,Li (gE _ _) ⟨show _<100000 by rw[ak];exact Md hl,?_⟩⟩;rw[sE];exact h
   .rw[if_neg (λq=>e2 (by refine bZ q (λq=>?_) λq=>?_;rw[q];exact aR;rw[q];exact bf _ aR)),bM]at h;refine⟨lm rfl,Li (gE _ _) ⟨show _<100000 by rw[ak];exact Md hl,?_⟩⟩;rw[sE];exact h
  .unfold jmp at h;rw[if_neg e,aP]at h;exact h
 unfold F8 at h;refine jn (λe=>?_) λe=>?_
 .rw[if_pos e]at h;exact⟨lm rfl,fin [] (bL _) h⟩
 .rw[if_neg e]at h;exact⟨lm rfl,lm rfl,fin _ (aO _) h⟩
end
section
variable {n:Nat}{hs:List Hn}
theorem aas:xb=[.fW [.n 3,.n 4] (.sub (.dm (.v 0) 2) (.v 1)),
 .asg 5 (.call 2 [.v 3,.v 4]),
 .ite (.cmp (.len (.v 2)) [.lt] [.v 5]) [.raise (.k (.str (st "nothing on the stack"))) (.v 1)] [],
 .fW [.n 6,.n 7] (.tup [.xJ (.v 2) (.bin .sub ag (.len (.v 2)) (.v 5)),.vz (.v 2) (.bin .sub ag (.len (.v 2)) (.v 5))]),
 .ite (.cmp (.v 3) [.eq] [.g 9]) [.ret (.lst ag [.tup [.v 4,.bin .add ag (.v 2) (.tup [.g 3,.v 4])],.tup [.bin .add ag (.v 1) (.k (.int 1)),.v 2]])] [],
 .ite (.cmp (.v 3) [.eq] [.g 10]) [.ret (.call 18 [.v 6,.v 1])] [],
 .ite (.cmp (.v 3) [.eq] [.g 11]) [.ite (.cmp (.sub (.v 6) (.k (.int 0))) [.ne] [.g 8]) [.raise (.k (.str (st "no keys to go through"))) (.v 1)] [],
  .ret (.lst ag [.tup [.v 4,.v 2],.tup [.bin .add ag (.v 1) (.k (.int 1)),.bin .add ag (.v 2) (.tup [.g 3])]])] [],
 .ite (.cmp (.v 3) [.ne] [.g 12]) [.expr (.call 15 [.v 6,.v 1,.cmp (.v 3) [.eq] [.g 13]])] []]++Et:=rfl
theorem wI  (e:r.1=o)(k:Nat)(h:(tk o==k&&!(kd o==7))=af):fP r=k:=by unfold fP;rw[e];rw[bx]at h;rw[if_neg (λq=>by rw[q]at h;exact absurd h.2 (by decide)),eq_of_beq h.1];rfl
theorem g_k   (h:dO m r)(e:r.1=o)(k:(kd o==6)=af):r.2=aa (r.2.getD 0):=h.g6 (by rw[e];exact eq_of_beq k)
section
variable {s:cY}
theorem Wlo (h:s.length<fP r):dS r pc s=ae:=if_pos h
theorem Wgo (h:¬s.length<fP r)(e:r.1=78):dS r pc s=aa [(r.2.getD 0,s++[-1,r.2.getD 0]),(pc+1,s)]:=by unfold dS;rw[if_neg h,if_pos e]
theorem Wre (h:¬s.length<fP r)(e:r.1=79):dS r pc s=if(s.drop (s.length-fP r)).getD 0 0 = -1/\0<=(s.drop (s.length-fP r)).getD 1 0 then aa []else ae:=by unfold dS;rw[if_neg h,if_neg (WU e),if_pos e]
theorem Wnx (h:¬s.length<fP r)(e:r.1=77):dS r pc s=if(s.drop (s.length-fP r)).getD 0 0 = -2 then aa [(r.2.getD 0,s),(pc+1,s++[-1])]else ae:=by unfold dS;rw[if_neg h,if_neg (WT e),if_neg (WS e),if_pos e]
theorem Wel (h:¬s.length<fP r)(e1:r.1≠78)(e2:r.1≠79)(e3:r.1≠77):dS r pc s=if r.1≠6/\(s.drop (s.length-fP r)).any (jI (r.1==69))=af then ae else aa (F8 r.1 pc (s.take (s.length-fP r)++made r.1)++jmp r s (s.take (s.length-fP r)++made r.1)):=by unfold dS;rw[if_neg h,if_neg e1,if_neg e2,if_neg e3];rfl
end
theorem Nq (u:g9 σ n c hs)(hc:c.length<5000)(h0:0<=pc)(hp:c[pc.toNat]?=aa r)(ho:r.1<85)(ha:dO c.length r){s:cY}(hl:s.length<40000)
  (h:∀l,dS r pc s=aa l->Q (.lst (l.map eA)) σ/\Q (.loc σ.length) (σ++[.list (l.map eA)]))(he:dS r pc s=ae->E σ):Wp (cl (d+2) 17 [.loc n,.int pc,tV s] σ) Q E:=by
 refine call rA 7 rfl rfl ?_;dsimp only[rA];rw[aas];have ht:∀(be:cY) (v6:Option V),be.length<40000->Q (.loc σ.length) (σ++[.list ((F8 r.1 pc (be++made r.1)++jmp r s (be++made r.1)).map eA)])->iP G (cl (d+1)) 1000 E Et [aa (.loc n),aa (.int pc),aa (tV s),aa (.int r.1),aa (oV r.2),aa (.int (fP r)),v6,aa (tV be),ae,ae] σ (λU σ=>Q .none σ) (λv U σ=>Q v σ) :=
  λbe v6 hb h=>Iq ho ha pc s be (WH hb) h
 generalize Et=tl at *;dsimp only[cW,cq,sH,dX,eH,eP,cj,cA,tP,tQ,dR,dy,eO,dT,ew,eT,el,eu,fJ,dW,dF,iD,dv,cZ,mS,i6,i5,Gs,Tb,xe,qU,d5,d6,d4,gq,az,aD,ah,ai,dU,eI];refine je (u.dm 2 rfl) (u.row h0 hp hc) ?_;dsimp only[cV,mS,i6,i5,Gs,xe,Ig,az,aD,ah,ai,aF,aG];refine⟨rfl,EJ ho ha ?_⟩;have hm:(s.map V.int).length=s.length:=yY s;refine Gi (rfl:items σ (tV s)=aa (s.map V.int)) ⟨show _<100000 by exact mF hl hm,Gi rfl (jn (λe=>?_) λe=>?_)⟩
 .rw[hm]at e;exact he (Wlo (L9 e))
 rw[hm]at e;have hn:¬s.length<fP r:=by exact L7 e
 have e1:((s.map V.int).length:Int)-(fP r:Nat)=(s.length-fP r:Nat):=by rw[hm];exact L6 e
 refine Gi (rfl:items σ (tV s)=aa (s.map V.int)) ⟨show _<100000 by exact mF hl hm,?_⟩;dsimp only[Qy];rw[e1];refine slT (Cd hm e e1) (by rw[hm];exact L4 hm e1) (mF hl hm) (Gi (rfl:items σ (tV s)=aa (s.map V.int)) ⟨show _<100000 by exact mF hl hm,?_⟩);refine(?_:CH af σ (tV s) (.int (((s.map V.int).length:Int)-(fP r:Nat))) _);rw[e1];refine shT (Cd hm e e1) (by rw[hm];exact L4 hm e1) (mF hl hm) ⟨lm rfl,rfl,je (rfl:G[9]?=aa (.int 78)) rfl (jn (λe=>?_) λe=>?_)⟩
 .have e:r.1=78:=by exact Wt e
  have eg:=g_k ha e (by decide +kernel);have hq:=(h _ (Wgo hn e)).1;rw[eg];refine Gi (rfl:G[3]?=aa (.int (-1))) ⟨lm rfl,show(s.map V.int).length+2<100000 by exact Wm hl hm,lm rfl,lm rfl,lm rfl,?_⟩;have q:s.map V.int++[V.int (-1),oV (aa (r.2.getD 0))]=(s++[-1,r.2.getD 0]).map V.int:=EI s [-1,r.2.getD 0];rw[q];exact hq
 rw[cg,<- z7,<- mB];have GU:(s.drop (s.length-fP r)).length=fP r:=by rw[jS];exact L2 hm e1
 refine je (rfl:G[10]?=aa (.int 79)) rfl (jn (λe2=>?_) λe2=>?_)
 .have e2:r.1=79:=by exact We e2
  have hk:=wI e2 2 (by decide +kernel);have hw:=Wre (pc:=pc) hn e2;refine KH (.int pc) (Wc GU hk) (λq=>?_) λq=>?_
  .exact(h [] (hw.trans (if_pos q))).1
  .exact he (hw.trans (if_neg q))
 refine je (rfl:G[11]?=aa (.int 77)) rfl (jn (λe3=>?_) λe3=>?_)
 .have e3:r.1=77:=by exact Wb e3
  have hk:=wI e3 1 (by decide +kernel);have eg:=g_k ha e3 (by decide +kernel);have hw:=Wnx (pc:=pc) hn e3;refine Gi (gT (i:=0) _ (Wa GU hk) (V9 GU hk)) (je (rfl:G[8]?=aa (.int (-2))) rfl ?_);by_cases q:(s.drop (s.length-fP r)).getD 0 0 = -2
  .rw[if_pos q]at hw;have hq:=(h _ hw).1;rw[q,eg];refine⟨lm rfl,Gi (rfl:G[3]?=aa (.int (-1))) ⟨lm rfl,show(s.map V.int).length+1<100000 by exact V8 hl hm,lm rfl,lm rfl,?_⟩⟩;have q:s.map V.int++[V.int (-1)]=(s++[-1]).map V.int:=EI s [-1];rw[q];exact hq
  .rw[if_neg q]at hw;rw[beq_eq_false_iff_ne.2 q];exact he hw
 have hw:=Wel (pc:=pc) hn (λq=>e (V7 e q)) (λq=>e2 (V6 e2 q)) (λq=>e3 (V5 e3 q));have hb:(s.take (s.length-fP r)).length<40000:=by rw[cv];exact L0 hl hm e1
 refine je (rfl:G[12]?=aa (.int 6)) rfl ?_;by_cases e4:r.1=6
 .rw[if_neg (λq=>q.1 e4)]at hw;rw[show((r.1:Int)==6)=af from beq_iff_eq.2 (V4 e4)];exact ht _ _ hb (h _ hw).2
 .rw[show((r.1:Int)==6)=ag from beq_eq_false_iff_ne.2 (V3 e4)];have q2:fc σ .eq (.int r.1) (.int 69)=aa (r.1==69):=by
   refine(?_:aa ((r.1:Int)==69)=_);by_cases z:r.1=69
   .rw[beq_iff_eq.2 z,beq_iff_eq.2 (V2 z)]
   .rw[beq_eq_false_iff_ne.2 z,beq_eq_false_iff_ne.2 (V1 z)]
  dsimp only[vA,nF];refine je (rfl:G[13]?=aa (.int 69)) q2 (Jt (.int pc) _ (s.drop (s.length-fP r)) (λq=>?_) λq=>?_)
  .rw[if_neg (λz=>by rw[q]at z;exact nomatch z.2)]at hw;exact ht _ _ hb (h _ hw).2
  .rw[if_pos ⟨e4,q⟩]at hw;exact he hw
end
theorem BO {G:List V}{Φ:Nat->List V->bp->R V}{ks:List Int}{l:List X}
  (h:xo G Φ vs E l cs (σ++[.cH []]) λxs cD=>cD=σ++[.cH []]/\(ks.length=xs.length/\xs.length<=15)/\Q (.loc σ.length) (σ++[.cH ((ks.zip xs).foldl (λd kv=>nU d kv.1 kv.2) [])])):we G Φ vs E (.zW ks l) cs σ Q:=by
 refine Wp.bind (Wp.imp (lu G Φ vs E l cs _ _ h) λxs cD h=>?_);(refine qR h λz1 h1 h2=>?_;try clear h;subst z1);rw[if_pos h1,gE];dsimp only;rw[sE];exact h2
theorem nid {n:Nat}{d:List (Int×V)}(i:Int)(h:σ[n]?=aa (.cH d)):fc σ .H3 (.int i) (.loc n)=aa (!(j2 d i).isSome):=by refine(?_:(inO (.int i) σ[n]?).map (!·)=_);rw[h];rfl
theorem ind {n:Nat}{d:List (Int×V)}(i:Int)(h:σ[n]?=aa (.cH d)):fc σ .rp (.int i) (.loc n)=aa (j2 d i).isSome:=by refine(?_:inO (.int i) σ[n]?=_);rw[h];rfl
noncomputable def eD (e:cY->V)(q:Int×cY):Int×V:=(q.1,e q.2)
theorem iH (e:cY->V)(p:Int):∀f:Fd,j2 (f.map (eD e)) p=(look f p).map e
 |[]=>rfl
 |(a,t)::f=>by
  refine(?_:(if a=p then aa (e t)else j2 (f.map (eD e)) p)=(if a=p then aa t else look f p).map e);by_cases h:a=p
  .rw[if_pos h,if_pos h];rfl
  .rw[if_neg h,if_neg h,iH e p f]
theorem uU (e:cY->V)(p:Int)(t:cY):∀f:Fd,look f p=ae->nU (f.map (eD e)) p (e t)=(f++[(p,t)]).map (eD e)
 |[]=>λU=>rfl
 |(a,s)::f=>λh=>by
  have h:(if a=p then aa s else look f p)=ae:=h;by_cases q:a=p
  .rw[if_pos q]at h;exact nomatch h
  .rw[if_neg q]at h;refine(?_:(if a=p then _ else(a,e s)::nU (f.map (eD e)) p (e t))=_);rw[if_neg q,uU e p t f h];rfl
theorem ni (f:Int->V)(hf:∀x y,yV 7 (f x) (f y)=aa (decide (x=y))):∀a b:cY,sJ (yV 7) (a.map f) (b.map f)=aa (decide (a=b))
 |[],[]=>rfl
 |[],_::_=>rfl
 |_::_,[]=>rfl
 |x::a,y::b=>by refine(?_:(match yV 7 (f x) (f y),sJ (yV 7) (a.map f) (b.map f)with|some x,aa y=>aa (x&&y)|_,_=>ae)=_);rw[hf,ni f hf a b];refine(?_:aa (decide (x=y)&&decide (a=b))=_);rw[<- Bool.decide_and];exact congrArg aa (decide_eq_decide.2 ⟨λh=>by rw[h.1,h.2],λh=>eY h⟩)
theorem okT:∀s:cY,lH 8 (tV s)=af
 |[]=>rfl
 |_::s=>okT s
theorem tne (σ:bp)(s t:cY):fc σ .ne (tV s) (tV t)=aa (!decide (s=t)):=by refine(?_:(if lH 8 (tV s)&&lH 8 (tV t)then sJ (yV 7) (s.map .int) (t.map .int)else ae).map (!·)=_);rw[okT,okT,ni V.int (λx y=>rfl)];rfl
section
variable {n:Nat}{hs:List Hn}
def B3:List S:=[.ite (.cmp (.v 6) [.ge] [.len (.dm (.v 0) 2)]) [.raise (.k (.str (st "beyond the end"))) (.v 3)] [],
  .ite (.cmp (.v 6) [.H3] [.v 1]) [.eX (.v 1) (.v 6) (.v 7),
   .expr (.app (.v 2) (.v 6))] [.ite (.cmp (.sub (.v 1) (.v 6)) [.ne] [.v 7]) [.raise (.k (.str (st "two stacks at one place"))) (.v 6)] []]]
def y6 (σ:bp)(f:Fd)(w:List Int)(γ:bp):bp:=σ++.cH (f.map (eD tV))::.list (w.map .int)::γ
theorem GH (u:g9 σ n c hs)(hc:c.length<5000){v4 v5:Option V}{pc:Int}{A:Vs->bp->Prop}{K:V->Vs->bp->Prop}{γ:bp}:∀(l f:Fd) (w:List Int) (a6 a7:Option V),f.length+l.length<9000->w.length+l.length<9000 ->
  (∀f' w',mW c.length l f w=aa (f',w')->∀a6 a7,A [aa (.loc n),aa (.loc σ.length),aa (.loc (σ.length+1)),aa (.int pc),v4,v5,a6,a7] (y6 σ f' w' γ))->(mW c.length l f w=ae->∀τ,E (σ++τ)) ->
  Wp (ja (.t [6,7]) (λvs σ=>l5 G (cl (d+1)) 1000 B3 vs σ) (l.map eA) [aa (.loc n),aa (.loc σ.length),aa (.loc (σ.length+1)),aa (.int pc),v4,v5,a6,a7] (y6 σ f w γ)) (tK A K) E
 |[]=>λf w a6 a7 U U h U=>h f w rfl a6 a7
 |(p,t)::l=>λf w a6 a7 hf hw h he=>by
  have ih:=λf w=>GH u hc (v4:=v4) (v5:=v5) (pc:=pc) (A:=A) (K:=K) (γ:=γ) l f w (aa (.int p)) (aa (tV t));rw[az]at hf hw;have u':=u.app (.cH (f.map (eD tV))::.list (w.map .int)::γ);have hd:(y6 σ f w γ)[σ.length]?=aa (.cH (f.map (eD tV))):=Ha rfl;have hr:mW c.length ((p,t)::l) f w=if(c.length:Int)<=p then ae else match look f p with
   |none=>mW c.length l (f++[(p,t)]) (w++[p])
   |some s=>if s=t then mW c.length l f w else ae:=rfl
  refine Wp.bind (Wp.imp (fF _ _ _ _ _ _ _ (λvs cD=>Wp (ja (.t [6,7]) (λvs σ=>l5 G (cl (d+1)) 1000 B3 vs σ) (l.map eA) vs cD) (tK A K) E) K ?_) λq σ h=>?_)
  .refine(?_:iP G (cl (d+1)) 1000 E B3 [aa (.loc n),aa (.loc σ.length),aa (.loc (σ.length+1)),aa (.int pc),v4,v5,aa (.int p),aa (tV t)] (y6 σ f w γ) _ _);unfold B3;dsimp only[cW,cq,cj,cA,dR,eO,md,eT,el,hJ,dW,iD,dv,cZ,Gs,Tb,sge,ah,ai];refine je (u'.dm 2 rfl) (Aj u'.c) ⟨show _<100000 by rw[ak];exact qf hc,Gi rfl (jn (λe=>?_) λe=>Gi (nid p hd) ?_)⟩
   .rw[ak]at e;exact he (hr.trans (if_pos e)) _
   .rw[ak]at e;rw[if_neg e]at hr;rw[iH];induction e2:look f p with
    |none =>
     rw[e2]at hr;refine Gi (Q1 p (tV t) hd (show _<100000 by rw[ak];exact L8 hf)) ?_;have e3:(y6 σ f w γ).set σ.length (.cH (nU (f.map (eD tV)) p (tV t)))=y6 σ (f++[(p,t)]) w γ:=by rw[uU tV p t f e2];exact sU σ _ 0 _
     rw[e3];refine⟨qm (gU rfl),Li (gU rfl) ⟨show _<100000 by rw[ak];exact L8 hw,?_⟩⟩;have e4:(y6 σ (f++[(p,t)]) w γ).set (σ.length+1) (.list (w.map V.int++[.int p]))=y6 σ (f++[(p,t)]) (w++[p]) γ:=by unfold y6;rw[sU,show(w++[p]).map V.int=w.map V.int++[.int p]from bM];rfl
     rw[e4];exact ih _ _ (by rw[ao];show _+1+_<_;exact L5 hf) (by rw[ao];show _+1+_<_;exact L5 hw) (λf' w' q=>h f' w' (hr.trans q)) λq=>he (hr.trans q)
    |some s =>
     rw[e2]at hr;refine je ((Ke p hd).trans ((iH tV p f).trans (by rw[e2];rfl))) (tne _ s t) ?_;by_cases e3:s=t
     .rw[decide_eq_true e3];have hr:=hr.trans (if_pos e3);exact ih f w (L3 hf) (L3 hw) (λf' w' q=>h f' w' (hr.trans q)) λq=>he (hr.trans q)
     .rw[decide_eq_false e3];exact he (hr.trans (if_neg e3)) _
  .match q with
   |(.nx,vs)=>exact h
   |(.rt v,vs)=>exact h
end
section
variable {n:Nat}{hs:List Hn}
theorem ny  (h0:0<=p)(h1:p<c.length):∃r,c[p.toNat]?=aa r/\r∈c:=by
 have h:p.toNat<c.length:=by exact Rg h0 h1
 exact⟨c[p.toNat],bA h,vn h⟩
theorem step_at {c:List Row}{hs:List Hn}{p:Int}{s:cY}{r:Row}(h:c[p.toNat]?=aa r):step c hs p s=match dS r p s with
  |none=>ae
  |some l=>match thrown hs r.1 p s with
   |none=>ae
   |some t=>aa (l++t):=by unfold step;rw[h]<;>rfl
theorem acU  {x y:List V}(h:σ[n]?=aa (.list x))(h2:(x++y).length<lim/\Q (.lst (x++y)) σ):cb σ .add ag (.loc n) (.lst y) Q :=
 show Ls σ (.loc n) (λU x=>cn ag (x++y) σ Q)from Li h h2
theorem Gr (u:g9 σ n c hs)(hc:c.length<300)(hh:hs.length<900)(ho:∀r∈c,r.1<85)(v:Valid c hs)(h0:0<=pc)(h1:pc<c.length){s:cY}(hl:s.length<5000)
  (h:∀l τ,step c hs pc s=aa l->Q (.lst (l.map eA)) (σ++τ))(he:step c hs pc s=ae->∀τ,E (σ++τ)) :
  Wp (cl (d+2) 17 [.loc n,.int pc,tV s] σ) (λx cD=>Wp (cl (d+2) 14 [.loc n,.int pc,tV s] cD) (λy cD=>cb cD .add ag x y Q) E) E:=by
 refine dB (ny h0 h1) λr hr hm=>?_;have e:=step_at (hs:=hs) (s:=s) hr;have hd:∀h∈hs,0<=h.d:=λa ha=>(v.h a ha).2.2.1;have sum:∀l t:Fd,dS r pc s=aa l->thrown hs r.1 pc s=aa t->(l.map eA++t.map eA).length<lim/\∀τ,Q (.lst (l.map eA++t.map eA)) (σ++τ):=λl t q1 q2=>by have a1:=oX q1;have a2:=t9 q2;refine⟨show _<100000 by rw[ao,ak,ak];exact WY a1 a2,λτ=>?_⟩;rw[<- bM];exact h _ τ (by rw[e,q1];dsimp only;rw[q2])
 refine Nq u (oL hc) h0 hr (ho r hm) (v.arg r hm) (WX hl) (λl q=>⟨?_,?_⟩) λq=>?_
 .refine yZ u (oL hc) hh hd h0 hr (Mc hl) (λt q2=>?_) λq2=>?_
  .have:=(sum l t q q2).2 [];rw[aP]at this;exact⟨(sum l t q q2).1,this⟩
  .have:=he (by rw[e,q];dsimp only;rw[q2]) [];rw[aP]at this;exact this
 .refine yZ (u.app _) (oL hc) hh hd h0 hr (Mc hl) (λt q2=>?_) λq2=>?_
  .exact acU (gE _ _) ⟨(sum l t q q2).1,(sum l t q q2).2 _⟩
  .exact he (by rw[e,q];dsimp only;rw[q2]) _
 .have:=he (by rw[e,q]) [];rw[aP]at this;exact this
inductive JS (σ:bp)(n:Nat)(c:List Row)(hs:List Hn)(m:Nat):Vs->bp->Prop
 |mk (f w) (γ:bp) (a3 a4 a5 a6 a7:Option V):KV c.length (step c hs) (free c.length [(0,[])]+1) m f w->JS σ n c hs m [aa (.loc n),aa (.loc σ.length),aa (.loc (σ.length+1)),a3,a4,a5,a6,a7] (y6 σ f w γ)
theorem Dk (u:g9 σ n c hs)(hc:c.length<300)(vS:0<c.length)(hh:hs.length<900)(ho:∀r∈c,r.1<85)(v:Valid c hs)
  (h:Good c.length (step c hs)->∀τ,Q (.loc σ.length) (σ++τ))(he:¬Good c.length (step c hs)->∀τ,E (σ++τ)):Wp (cl (d+3) 19 [.loc n] σ) Q E:=by
 refine call nI 7 rfl rfl ?_;dsimp only[nI,se,cW,cq,dX,eH,dT,ew,fJ,xn,dF,dv,cZ,mS,i6,i5,xe,Ie,d5,d6,d4,gq,az,aD,aF,aG];refine BO ?_;dsimp only[dX,dT,ew,az,aD];refine⟨lm rfl,rfl,⟨rfl,by decide⟩,lm rfl,lm rfl,rfl,?_⟩;rw[aV,ao];have hM:=tv c.length [(0,[])];refine tm (JS σ n c hs) ?_ 1000 (free c.length [(0,[])]+1) _ _ (WR hc hM) (.mk [(0,[])] [0] [] ae ae ae ae ae (KV.start vS));intro m vs τ I;induction I with|mk f w γ a3 a4 a5 a6 a7 inv=>?_
 have hm:=inv.ms;have hle:=inv.le;refine cz _ _ _ _ _ _ _ _ ?_;dsimp only[cW,cq,cj,eO,eT,Gs,Tb,Ld,ah,ai];refine Gi (Aj (gU rfl)) ⟨show _<100000 by rw[ak];exact WQ hc hM hm hle,jn (λe=>?_) λe=>?_⟩
 .rcases List.eq_nil_or_concat w with rfl|⟨w,p,rfl⟩
  .exact absurd e (by decide)
  rw[List.concat_eq_append]at inv hm ⊢;refine o15 (inv.turn (s9 ho v)) λs Zr Qm p0 p1 no yes=>?_;refine fF _ _ _ _ _ _ _ _ _ ?_;dsimp only[cq,eP,cA,dy,Ey,dT,ew,eu,fH,dv,cZ,Gs,zM,ah,ai,aF,aG];refine Li (gU rfl) (Gi (a:=.int p) (by rw[bM];exact List.getLast?_concat) ⟨show _<100000 by rw[ak];rw[ao]at hm ⊢;exact WO hc hM hle hm,?_⟩);have e1:(y6 σ f (w++[p]) γ).set (σ.length+1) (.list ((w++[p]).map V.int).dropLast)=y6 σ f w γ:=by unfold y6;rw[sU,bM];rw[show(w.map V.int++[p].map V.int).dropLast=w.map V.int from List.dropLast_concat];rfl
  simp only[e1];refine Gi ((Ke p (Ha rfl)).trans ((iH tV p f).trans (by rw[Zr];rfl))) ?_;have hlen:s.length<5000:=by have:=Qm.1;exact WN hc hM this
  refine Gr (σ:=y6 σ f w γ) (u.app _) hc hh ho v p0 p1 hlen (λl τ q=>?_) λq τ=>?_
  .dsimp only[BM,DE,KR];have OS:l.length<=3:=(s9 ho v).tn _ _ _ q;have J6:=inv.fl;rw[ao]at hm;have e2:y6 σ f w γ++τ=y6 σ f w (γ++τ):=aV _ _ _;simp only[e2];refine GH u (oL hc) l f w a6 a7 (WK hc hm OS J6) (WI hc hM hle hm OS) (λf' w' q2 a6 a7=>?_) λq2 τ=>he ((yes l q).1 q2) τ;refine dB ((yes l q).2 f' w' q2) λm' H8 GG=>?_;exact⟨m',H8,JS.mk f' w' (γ++τ) _ _ _ a6 a7 GG⟩
  .simp only[show y6 σ f w γ++τ=σ++(_++τ)from aV _ _ _];exact he (no q) _
 .have e2:w=[]:=by
   induction w using List.casesOn with
   |nil=>rfl
   |cons a w=>exact absurd (show(0:Int)<(((a::w).map V.int).length:Nat) by rw[ak,az];exact Ma) e
  subst e2;exact h inv.done _
end
def Lets (c:List Row)(hs:List Hn):Prop:=Valid c hs/\Good c.length (step c hs)
section
variable {n:Nat}{hs:List Hn}
theorem AS {k:Nat}(hk:k<5000):AU (.tup [.int k]) σ=.ok (.items ((fG k).map λ(i:Nat)=>V.int (0+(i:Int)))) σ:=by refine(?_:(if(k:Int).toNat<lim/\big k=af then R.ok (IK.items (iq 0 k)) σ else R.bad)=_);rw[if_pos ⟨show _<100000 by exact WM hk,mx (WL hk)⟩];unfold iq;rw[Int.sub_zero,cg]
inductive JR (σ:bp)(n:Nat)(c:List Row)(A:Vs->bp->Prop)(E:bp->Prop)(vl:List V):Vs->bp->Prop
 |mk (a:Option V) (js:List Nat):vl=js.map (λ(i:Nat)=>V.int (0+(i:Int)))->(∀j∈js,j<c.length)->((∀j∈js,∀r,c[j]?=aa r->dO c.length r)->∀a,A [aa (.loc n),a] σ)->(¬(∀j∈js,∀r,c[j]?=aa r->dO c.length r)->E σ)->JR σ n c A E vl [aa (.loc n),a] σ
theorem KL (u:g9 σ n c hs)(hc:c.length<300)(ho:∀r∈c,r.1<85)(js:List Nat)(hj:∀j∈js,j<c.length)(a:Option V)
  (h:(∀j∈js,∀r,c[j]?=aa r->dO c.length r)->∀a,A [aa (.loc n),a] σ)(he:¬(∀j∈js,∀r,c[j]?=aa r->dO c.length r)->E σ) :
  Wp (ja (.n 1) (λvs σ=>l5 G (cl (d+2)) 1000 [.expr (.call 7 [.v 0,.v 1])] vs σ) (js.map λ(i:Nat)=>V.int (0+(i:Int))) [aa (.loc n),a] σ) (tK A K) E:=by
 refine oo (JR σ n c A E) ?_ ?_ _ _ _ (.mk a js rfl hj h he)
 .clear hj h he;intro x vl vs τ I;induction I with|mk a js e hj h he=>?_
  induction js using List.casesOn with
  |nil=>exact nomatch e
  |cons j js =>
   (obtain⟨rfl,rfl⟩:=eY e);refine dB (ny (c:=c) (p:=0+(j:Int)) Mb (by have:=hj j aR;exact WJ this)) λr hr hm=>?_;refine Gi rfl (fF _ _ _ _ _ _ _ _ _ ?_);dsimp only[cq,dy,dT,ew,el,dv,cZ,Gs,ah,ai,aF,aG];have hr2:c[j]?=aa r:=by rw[<- hr];congr 1;lia
   refine PN u (oL hc) Mb hr (ho r hm) (λq=>JR.mk _ js rfl (λi hi=>hj i (bf _ hi)) (λq2=>h λi hi r' DG=>?_) λq2=>he λq3=>q2 λi hi=>q3 i (bf _ hi)) λq=>he λq2=>q (q2 j aR r hr2);refine bZ (aM.1 hi) (λe=>?_) λhi=>?_
   .obtain rfl:=fb (e);rw[hr2]at DG;obtain rfl:=aj DG;exact q
   .exact q2 i hi r' DG
 .clear hj h he;intro vs τ I;induction I with|mk a js e hj h he=>?_
  induction js using List.casesOn with
  |nil=>exact h (λU q=>absurd q ba) a
  |cons j js=>exact nomatch e
theorem Oo (u:g9 σ n c hs)(hc:c.length<300)(vS:0<c.length)(hh:hs.length<900)(ho:∀r∈c,r.1<85)
  (h:Lets c hs->∀τ,Q .none (σ++τ))(he:¬Lets c hs->∀τ,E (σ++τ)):Wp (cl (d+4) 20 [.loc n] σ) Q E:=by
 refine call nR 1 rfl rfl ?_;dsimp only[nR,sr,cq,dR,dy,eO,xq,dT,ew,el,fH,dv,cZ,Gs,JV,d5,d6,d4,gq,ah];have he0:¬Lets c hs->E σ:=λq=>by have:=he q [];rw[aP]at this;exact this
 refine J9 u (oL hc) vS (je (u.dm 2 rfl) (Aj u.c) ⟨show _<100000 by rw[ak];exact FJ hc,?_⟩);rw[ak,AS (oL hc)];refine KL u hc ho (fG c.length) (λj q=>jz.1 q) _ (λq a=>?_) λq=>he0 λq2=>q λj U r hr=>q2.1.arg r (aN hr);have ha:∀r∈c,dO c.length r:=λr hr=>by obtain⟨j,hj⟩:=List.getElem?_of_mem hr;exact q j (jz.2 (aA.1 hj).1) r hj
 refine Zp u (oL hc) hh (λq2=>?_) λq2=>he0 λq3=>q2 ⟨q3.1.h,q3.1.pr⟩;have v:Valid c hs:=⟨ha,q2.1,q2.2⟩;exact Dk u hc vS hh ho v (λq=>h ⟨v,q⟩) λq=>he λq2=>q q2.2
theorem aLi {l:List V}{P:List V->Prop}(h:P l):aL (.lst l) P:=h
inductive JU (σ:bp)(n:Nat)(c:List Row)(hs:List Hn):Nat->Vs->bp->Prop
 |a:JU σ n c hs 1 [aa (.loc n),aa (.loc σ.length),ae] (σ++[.list [.loc n]])
 |b (a:Option V) (γ:bp):Lets c hs->JU σ n c hs 0 [aa (.loc n),aa (.loc σ.length),a] (σ++.list []::γ)
theorem Iy (u:g9 σ n c hs)(hc:c.length<300)(vS:0<c.length)(hh:hs.length<900)(ho:∀r∈c,r.1<85)
  (h:Lets c hs->∀τ,Q .none (σ++τ))(he:¬Lets c hs->∀τ,E (σ++τ)):Wp (cl (d+5) 21 [.loc n] σ) Q E:=by
 refine call mm 2 rfl rfl ?_;dsimp only[mm,qL,cq,eH,dT,ew,eu,xn,dv,cZ,Gs,Ie,d5,d6,d4,gq,az,aD,ah,aF,aG];refine⟨lm rfl,?_⟩;refine tm (JU σ n c hs) ?_ 1000 1 _ _ (by decide) .a;intro m vs τ I;induction I with|a=>?_|b a γ hL=>?_
 .refine cz _ _ _ _ _ _ _ _ ?_;dsimp only[cW,cq,cj,eO,eT,Gs,Tb,Ld,ah,ai];refine Gi (Aj (gE _ _)) ⟨lm rfl,jn (λU=>?_) λe=>absurd (show(0:Int)<(1:Nat) by decide) e⟩;refine fF _ _ _ _ _ _ _ _ _ ?_;dsimp only[cq,dR,dy,Ey,EA,dT,ew,el,eu,dv,cZ,Gs,ah,ai,aF,aG];refine Li (gE _ _) (Gi rfl ⟨lm rfl,?_⟩);rw[sE];refine Oo (u.app _) hc vS hh ho (λhL τ=>?_) λhL τ=>?_
  .rw[aV];refine⟨qm (Ha rfl),Gi ((u.app _).dm 4 rfl) (aLi (Li (Ha rfl) ⟨lm rfl,0,by decide,?_⟩))⟩;have e:(σ++([O.list [V.loc n].dropLast]++τ)).set σ.length (O.list ([V.loc n].dropLast++[]))=σ++.list []::τ:=sU σ _ 0 _;rw[e];exact JU.b _ τ hL
  .rw[aV];exact he hL _
 .refine cz _ _ _ _ _ _ _ _ ?_;dsimp only[cW,cq,cj,eO,eT,Gs,Tb,Ld,ah,ai];exact Gi (Aj (Ha rfl)) ⟨lm rfl,h hL _⟩
theorem Gm (u:g9 σ n c hs)(hc:c.length<300)(vS:0<c.length)(hh:hs.length<900)(ho:∀r∈c,r.1<85)
  (h:Lets c hs->∀τ,Q (.bool af) (σ++τ))(he:¬Lets c hs->∀τ,Q (.bool ag) (σ++τ)):Wp (cl (d+6) 42 [.loc n] σ) Q E:=by
 refine call mj 0 rfl rfl ?_;dsimp only[mj,qJ,cW,cq,dT,ew,dF,Ij,dv,cZ,Gs,d5,d6,d4,ah];exact Iy u hc vS hh ho h he
end
def wV (x:Int):V:=if x = -1 then .str (st "v")else if x = -2 then .str (st "k")else if x = -3 then .str (st "h")else .int x
theorem kq (x:Int):(x = -1/\wV x=.str (st "v"))\/(x = -2/\wV x=.str (st "k"))\/(x = -3/\wV x=.str (st "h"))\/((x≠-1/\x≠-2/\x≠-3)/\wV x=.int x):=by
 unfold wV;by_cases h:x = -1
 .rw[if_pos h];exact .inl ⟨h,rfl⟩
 by_cases h2:x = -2
 .rw[if_neg h,if_pos h2];exact .inr (.inl ⟨h2,rfl⟩)
 by_cases h3:x = -3
 .rw[if_neg h,if_neg h2,if_pos h3];exact .inr (.inr (.inl ⟨h3,rfl⟩))
 .rw[if_neg h,if_neg h2,if_neg h3];exact .inr (.inr (.inr ⟨⟨h,h2,h3⟩,rfl⟩))
theorem wok (x:Int):lH 7 (wV x)=af:=by
 rcases kq x with⟨_,e⟩|⟨_,e⟩|⟨_,e⟩|⟨_,e⟩
 .rw[e];decide +kernel
 .rw[e];decide +kernel
 .rw[e];decide +kernel
 .rw[e];rfl
theorem QI (x:Int):lH 8 (wV x)=af:=by
 rcases kq x with⟨_,e⟩|⟨_,e⟩|⟨_,e⟩|⟨_,e⟩
 .rw[e];decide +kernel
 .rw[e];decide +kernel
 .rw[e];decide +kernel
 .rw[e];rfl
theorem Nj (k:Nat)(x y:Int):yV (k+1) (wV x) (wV y)=aa (decide (x=y)):=by
 have cvk:((st "v" == st "k")=ag/\(st "v" == st "h")=ag/\(st "k" == st "v")=ag/\(st "k" == st "h")=ag/\(st "h" == st "v")=ag/\(st "h" == st "k")=ag/\(st "v" == st "v")=af/\(st "k" == st "k")=af/\(st "h" == st "h")=af):=by decide +kernel
 (refine o08 cvk λc1 c2 c3 c4 c5 c6 c7 c8 c9=>?_;try clear cvk);rcases kq x with⟨a,e⟩|⟨a,e⟩|⟨a,e⟩|⟨a,e⟩<;>rcases kq y with⟨b,f⟩|⟨b,f⟩|⟨b,f⟩|⟨b,f⟩<;>rw[e,f]
 .rw[decide_eq_true (WG a b)];exact congrArg aa c7
 .rw[decide_eq_false (WE a b)];exact congrArg aa c1
 .rw[decide_eq_false (WD a b)];exact congrArg aa c2
 .rw[decide_eq_false (WC a b)];rfl
 .rw[decide_eq_false (WA a b)];exact congrArg aa c3
 .rw[decide_eq_true (Wz a b)];exact congrArg aa c8
 .rw[decide_eq_false (Wy a b)];exact congrArg aa c4
 .rw[decide_eq_false (Wx a b)];rfl
 .rw[decide_eq_false (Ww a b)];exact congrArg aa c5
 .rw[decide_eq_false (Wv a b)];exact congrArg aa c6
 .rw[decide_eq_true (Wu a b)];exact congrArg aa c9
 .rw[decide_eq_false (Ws a b)];rfl
 .rw[decide_eq_false (Wr a b)];rfl
 .rw[decide_eq_false (Wo a b)];rfl
 .rw[decide_eq_false (Wl a b)];rfl
 .rfl
theorem Np (σ:bp)(x y:Int):fc σ .eq (wV x) (wV y)=aa (decide (x=y)):=by
 have e:∀z,oO σ (wV z)=aa (wV z):=λz=>by rcases kq z with⟨_,e⟩|⟨_,e⟩|⟨_,e⟩|⟨_,e⟩<;>rw[e]<;>rfl
 refine(?_:eqD (oO σ (wV x)) (oO σ (wV y))=_);rw[e,e];refine(?_:(if lH 8 (wV x)&&lH 8 (wV y)then yV 8 (wV x) (wV y)else ae)=_);rw[QI,QI];exact Nj 7 x y
theorem aaI (σ:bp)(x y:Int):fc σ .ne (wV x) (wV y)=aa (!decide (x=y)):=by refine(?_:(fc σ .eq (wV x) (wV y)).map (!·)=_);rw[Np];rfl
def lV (s:cY):V:=.lst (s.map wV)
theorem Qd:∀s:cY,lH 8 (lV s)=af
 |[]=>rfl
 |x::s=>by have:=Qd s;refine(?_:(lH 7 (wV x)&&(s.map wV).all (lH 7))=af);rw[wok,Aa];exact this
theorem leq (σ:bp)(s t:cY):fc σ .eq (lV s) (lV t)=aa (decide (s=t)):=by refine(?_:(if lH 8 (lV s)&&lH 8 (lV t)then sJ (yV 7) (s.map wV) (t.map wV)else ae)=_);rw[Qd,Qd,ni wV (Nj 6)];rfl
theorem lne (σ:bp)(s t:cY):fc σ .ne (lV s) (lV t)=aa (!decide (s=t)):=by refine(?_:(if lH 8 (lV s)&&lH 8 (lV t)then sJ (yV 7) (s.map wV) (t.map wV)else ae).map (!·)=_);rw[Qd,Qd,ni wV (Nj 6)];rfl
theorem aaG (x:Int):Ba 0 (wV x)=aa (decide (x≠-1/\x≠-2/\x≠-3)):=by
 rcases kq x with⟨h,e⟩|⟨h,e⟩|⟨h,e⟩|⟨h,e⟩
 .rw[e,decide_eq_false (Wk h)];rfl
 .rw[e,decide_eq_false (Wj h)];rfl
 .rw[e,decide_eq_false (Wi h)];rfl
 .rw[e,decide_eq_true h];rfl
theorem Nl {x:Int}(h:0<=x):wV x=.int x:=by unfold wV;rw[if_neg (Wh h),if_neg (Wg h),if_neg (Wf h)]
theorem qY (s:cY):(s.map wV).length=s.length:=ak _
theorem C5 (s t:cY):s.map wV++t.map wV=(s++t).map wV:=bM.symm
theorem gW {th:cY}(σ:bp)(h:i<th.length)(hl:th.length<50000):hK σ (lV th) (.int i)=aa (wV (th.getD i 0)):=by unfold lV;rw[zQ σ zj (by rw[qY];exact Jj h) (by rw[qY];exact uk hl),cg,cy,A8 h];rfl
theorem nq (σ:bp)(h:o<85)(p:Nat)(s:Str)(hp:p<85)(e:nm p=s):fc σ .eq (.str (nm o)) (.str s)=aa (decide (o=p)):=e▸nme h hp
theorem nnq (σ:bp)(h:o<85)(p:Nat)(s:Str)(hp:p<85)(e:nm p=s):fc σ .ne (.str (nm o)) (.str s)=aa (!decide (o=p)):=by have q:vB (.str (nm o)) (.str s)=aa (decide (o=p)):=e▸nme h hp;refine(?_:(vB (.str (nm o)) (.str s)).map (!·)=_);rw[q];rfl
theorem uy {o:Nat}(h:o<85):∀ps:List Nat,(ps.all λp=>decide (p<85))=af->qj (.str (nm o)) (ps.map λp=>V.str (nm p))=aa (decide (o∈ps))
 |[]=>λU=>rfl
 |p::ps=>λq=>by
  rw[List.all_cons,bx]at q;refine(?_:(match vB (.str (nm p)) (.str (nm o)),qj (.str (nm o)) (ps.map λp=>V.str (nm p))with|some a,aa b=>aa (a||b)|_,_=>ae)=_);rw[uy h ps q.2,nme (of_decide_eq_true q.1) h];refine(?_:aa (decide (p=o)||decide (o∈ps))=_);rw[<- yl];refine congrArg aa (decide_eq_decide.2 ⟨λh=>?_,λh=>?_⟩)
  .refine bZ h (λh=>?_) λh=>?_
   .rw[h];exact aR
   .exact bf _ h
  .exact(aM.1 h).imp fb id
def eB (q:Int×cY):V:=.tup [.int q.1,lV q.2]
theorem BN {G:List V}{Φ:Nat->List V->bp->R V}{ks:List Str}{l:List X}
  (h:xo G Φ vs E l cs (σ++[.dN []]) λxs cD=>cD=σ++[.dN []]/\(ks.length=xs.length/\xs.length<=15)/\Q (.loc σ.length) (σ++[.dN ((ks.zip xs).foldl (λd kv=>lQ d kv.1 kv.2) [])])):we G Φ vs E (.sT ks l) cs σ Q:=by
 refine Wp.bind (Wp.imp (lu G Φ vs E l cs _ _ h) λxs cD h=>?_);(refine qR h λz1 h1 h2=>?_;try clear h;subst z1);rw[if_pos h1,gE];dsimp only;rw[sE];exact h2
theorem gds {n:Nat}{d:List (Str×V)}(s:Str)(h:σ[n]?=aa (.dN d)):hK σ (.loc n) (.str s)=qz d s:=by refine(?_:DL σ[n]? (.str s)=_);rw[h];rfl
section
variable {n:Nat}{hs:List Hn}
def Dx:List S:=[.asg 12 (.bin .add ag (.v 11) (.ite (.cmp (.v 6) [.rp] [.tup [.k (.str (st "HOLE")),.k (.str (st "FORIN"))]]) (.sub (.sT [(st "HOLE"),(st "FORIN")] [.lst ag [.k (.str (st "h"))],.lst ag [.k (.str (st "k"))]]) (.v 6)) (.bin .mul ag (.lst ag [.k (.str (st "v"))]) (.v 9)))),
 .asg 13 (.ite (.cmp (.v 6) [.rp] [.tup [.k (.str (st "JMP")),.k (.str (st "RET")),.k (.str (st "THROW")),.k (.str (st "FAILSET"))]]) (.lst ag []) (.lst ag [.tup [.bin .add ag (.v 2) (.k (.int 1)),.v 12]])),
 .ret (.bin .add ag (.v 13) (.ite (.cmp (.v 7) [.eq] [.k (.str (st "t"))]) (.lst ag [.tup [.v 5,.ite (.cmp (.v 6) [.rp] [.tup [.k (.str (st "JFK")),.k (.str (st "JTK"))]]) (.v 3) (.v 12)]]) (.lst ag [])))]
def Gj:List S:=[.asg 13 (.ite (.cmp (.v 6) [.rp] [.tup [.k (.str (st "JMP")),.k (.str (st "RET")),.k (.str (st "THROW")),.k (.str (st "FAILSET"))]]) (.lst ag []) (.lst ag [.tup [.bin .add ag (.v 2) (.k (.int 1)),.v 12]])),
 .ret (.bin .add ag (.v 13) (.ite (.cmp (.v 7) [.eq] [.k (.str (st "t"))]) (.lst ag [.tup [.v 5,.ite (.cmp (.v 6) [.rp] [.tup [.k (.str (st "JFK")),.k (.str (st "JTK"))]]) (.v 3) (.v 12)]]) (.lst ag [])))]
theorem Jx (ho:r.1<85)(ha:dO m r)(e79:r.1≠79)(pc:Int)(s b:cY){v11 v13:Option V}(h:Q (.lst ((F8 r.1 pc b++jmp r s b).map eB)) σ) :
  iP G (cl d) 1000 E Gj [v0,v1,aa (.int pc),aa (lV s),v4,aa (oV r.2),aa (.str (nm r.1)),aa (.str (kB (kd r.1))),v8,v9,v10,v11,aa (lV b),v13] σ A (λv U σ=>Q v σ):=by
 unfold Gj;dsimp only[cW,cq,dX,eH,eP,cj,i9,dT,ew,eT,eu,dF,dv,cZ,Gs,Tb,Ig,cal,qU,az,aD,ah,ai,aF,aG,dU,eI];have fin:∀l:Fd,l.length<=1->Q (.lst ((l++jmp r s b).map eB)) σ->Gt (fc σ .eq (.str (kB (kd r.1))) (.str (st "t"))) λQb=>if Qb=af then 2<lim/\Gt (fc σ .rp (.str (nm r.1)) (.tup [.str (st "JFK"),.str (st "JTK")])) λr_2=>if r_2=af then 2<lim/\1<lim/\(l.map eB++[V.tup [oV r.2,lV s]]).length<lim/\Q (.lst (l.map eB++[V.tup [oV r.2,lV s]])) σ else 2<lim/\1<lim/\(l.map eB++[V.tup [oV r.2,lV b]]).length<lim/\Q (.lst (l.map eB++[V.tup [oV r.2,lV b]])) σ else 0<lim/\(l.map eB++[]).length<lim/\Q (.lst (l.map eB++[])) σ:=λl hl h=>by
  have hlm:(l.map eB).length<=1:=by rw[ak];exact hl
  refine Gi (Qh _ ho 6 _ (by decide) rfl) (jn (λe=>?_) λe=>?_)
  .have eg:=ha.g6 e;unfold jmp at h;rw[if_pos e,bM]at h;rw[eg];refine⟨lm rfl,Gi (uy ho [61,62] rfl) (jn (λe2=>?_) λe2=>?_)⟩
   .rw[if_pos (by refine bZ (aM.1 e2) (λe=>?_) λe2=>?_;exact .inl e;exact .inr (au.1 e2))]at h;exact⟨lm rfl,lm rfl,show _<100000 by rw[ao];show _+1<_;exact LX hlm,h⟩
   .rw[if_neg (λq=>e2 (by refine bZ q (λq=>?_) λq=>?_;rw[q];exact aR;rw[q];exact bf _ aR))]at h;exact⟨lm rfl,lm rfl,show _<100000 by rw[ao];show _+1<_;exact LX hlm,h⟩
  .unfold jmp at h;rw[if_neg e,bM]at h;exact⟨lm rfl,show _<100000 by rw[ao];show _+0<_;exact V0 hlm,h⟩
 unfold F8 at h;refine⟨lm rfl,Gi (uy ho [58,65,66,83] rfl) (jn (λe=>?_) λe=>?_)⟩
 .rw[if_pos (show r.1∈xU by
   refine bZ (aM.1 e) (λe=>?_) λe=>?_
   .rw[e];decide
   refine bZ (aM.1 e) (λe=>?_) λe=>?_
   .rw[e];decide
   refine bZ (aM.1 e) (λe=>?_) λe=>?_
   .rw[e];decide
   .rw[au.1 e];decide)]at h
  exact⟨lm rfl,fin [] (bL _) h⟩
 .rw[if_neg (show¬r.1∈xU from λq=>by
   refine bZ (aM.1 q) (λq=>?_) λq=>?_
   .exact e (by rw[q];decide)
   refine bZ (aM.1 q) (λq=>?_) λq=>?_
   .exact e (by rw[q];decide)
   refine bZ (aM.1 q) (λq=>?_) λq=>?_
   .exact e (by rw[q];decide)
   refine bZ (aM.1 q) (λq=>?_) λq=>?_
   .exact e79 q
   .exact e (by rw[au.1 q];decide))]at h
  exact⟨lm rfl,lm rfl,fin _ (aO _) h⟩
theorem ZH (h:o∈[70,76]):qz (gx (λd kv=>lQ d kv.1 kv.2) [] ([st "HOLE",st "FORIN"].zip [V.lst [V.str (st "h")],V.lst [V.str (st "k")]])) (nm o)=aa (lV (made o)):=by
 refine bZ (aM.1 h) (λe=>?_) λe=>?_
 .rw[e];kernel_rfl
 .rw[au.1 e];kernel_rfl
theorem Jy (ho:r.1<85)(ha:dO m r)(e79:r.1≠79)(pc:Int)(s be:cY)(hb:be.length<40000)(h:∀τ,Q (.lst ((F8 r.1 pc (be++made r.1)++jmp r s (be++made r.1)).map eB)) (σ++τ)) :
  iP G (cl d) 1000 E Dx [v0,v1,aa (.int pc),aa (lV s),v4,aa (oV r.2),aa (.str (nm r.1)),aa (.str (kB (kd r.1))),v8,aa (.int (pt r.1)),v10,aa (lV be),ae,ae] σ A (λv U σ=>Q v σ):=by
 have hm:=uz ho;have hp:=FX ho;refine(?_:iP G (cl d) 1000 E (_::Gj) _ _ _ _);have ht:∀τ:bp,iP G (cl d) 1000 E Gj [v0,v1,aa (.int pc),aa (lV s),v4,aa (oV r.2),aa (.str (nm r.1)),aa (.str (kB (kd r.1))),v8,aa (.int (pt r.1)),v10,aa (lV be),aa (lV (be++made r.1)),ae] (σ++τ) A (λv U σ=>Q v σ) :=
  λτ=>Jx ho ha e79 pc s _ (h τ)
 have hl:(be.map wV++(made r.1).map wV).length<lim:=show _<100000 by rw[ao,qY,qY];exact VX hb hm
 have ht0:=ht [];rw[aP]at ht0;generalize Gj=tl at *;dsimp only[cW,cq,dX,eH,eP,cj,i9,cA,dT,ew,eT,eu,cZ,Gs,Tb,cml,qU,az,aD,ah,ai,aF,aG];refine⟨lm rfl,Gi (uy ho [70,76] rfl) (jn (λe=>?_) λe=>?_)⟩
 .refine BN ?_;dsimp only[cW,eH,dT,ew,qU,az,aD];refine⟨lm rfl,lm rfl,rfl,⟨rfl,by decide⟩,Gi ((gds _ (gE _ _)).trans (ZH e)) ⟨hl,?_⟩⟩;rw[C5];exact ht _
 .have q:made r.1=bF (pt r.1) (-1):=by unfold made;rw[if_neg (λq=>e (by rw[q];decide)),if_neg (λq=>e (by rw[q];decide))]
  have q2:mV [V.str (st "v")] ((pt r.1:Nat):Int).toNat=(made r.1).map wV:=by rw[cg,ui,q,List.map_replicate];rfl
  refine⟨lm rfl,⟨show _<100000 by show(pt r.1:Int).toNat*1<_;exact Mg hp,by exact zj,by exact Mf hp⟩,?_⟩;rw[q2];refine⟨show _<100000 by rw[qY];exact VT hm,hl,?_⟩;rw[C5];exact ht0
end
theorem j3 {G:List V}{Φ:Nat->List V->bp->R V}{ifs:List X}(g:α->V)(p:α->Bool){l:List α}(q:∀x∈l,Ew G Φ vs (λU=>False) af ifs [g x] σ λv U=>v=.bool (p x)) :
  iI (λx=>match R.val (qT G Φ vs af ifs [x] σ)with|some (.bool b)=>aa b|_=>ae) (λx=>R.val (ev G Φ vs (.c 0) [x] σ)) (l.map g)=aa ((l.filter p).map g) :=
 qA g p λx hx=>⟨by rw[AJ (xp _ _ _ _ _ _ _ _ _ (q x hx))],rfl⟩
theorem QK:V.str (st "v")=wV (-1):=rfl
theorem aaJ:V.str (st "k")=wV (-2):=rfl
theorem adh:V.str (st "h")=wV (-3):=rfl
section
variable {n:Nat}{hs:List Hn}
def lw4 (tl:List S):List S:=.ite (.cmp (.len (.v 3)) [.lt] [.v 8]) [.ret (.k (.none))] [] ::
 .fW [.n 10,.n 11] (.tup [.xJ (.v 3) (.bin .sub ag (.len (.v 3)) (.v 8)),.vz (.v 3) (.bin .sub ag (.len (.v 3)) (.v 8))]) ::
 .ite (.cmp (.v 6) [.eq] [.k (.str (st "GOSUB"))]) [.ret (.lst ag [.tup [.v 5,.bin .add ag (.v 3) (.lst ag [.k (.str (st "v")),.v 5])],.tup [.bin .add ag (.v 2) (.k (.int 1)),.v 3]])] [] ::
 .ite (.cmp (.v 6) [.eq] [.k (.str (st "RETSUB"))]) [.ret (.ite (.and [.cmp (.sub (.v 10) (.k (.int 0))) [.eq] [.k (.str (st "v"))],.Ak 0 (.sub (.v 10) (.k (.int 1)))]) (.lst ag []) (.k (.none)))] [] ::
 .ite (.cmp (.v 6) [.eq] [.k (.str (st "NEXTIN"))]) [.ret (.ite (.cmp (.v 10) [.eq] [.lst ag [.k (.str (st "k"))]]) (.lst ag [.tup [.v 5,.v 3],.tup [.bin .add ag (.v 2) (.k (.int 1)),.bin .add ag (.v 3) (.lst ag [.k (.str (st "v"))])]]) (.k (.none)))] [] ::
 .ite (.and [.cmp (.v 6) [.ne] [.k (.str (st "POP"))],.cmp (.comp ag (.c 0) (.v 10) [.and [.cmp (.c 0) [.ne] [.k (.str (st "v"))],.not (.and [.cmp (.v 6) [.eq] [.k (.str (st "NEWARR"))],.cmp (.c 0) [.eq] [.k (.str (st "h"))]])]]) [.ne] [.lst ag []]]) [.ret (.k (.none))] []::tl
theorem acY:u4=.fW [.n 4,.n 5] (.sub (.dm (.v 0) 2) (.v 2))::.fW [.n 6,.n 7,.n 8,.n 9] (.sub (.v 1) (.v 4)) ::
 .asg 8 (.bin .add ag (.v 8) (.ite (.cmp (.v 7) [.eq] [.k (.str (st "n"))]) (.v 5) (.k (.int 0))))::lw4 Dx:=rfl
theorem Ox (ho:r.1<85)(ha:dO m r){s:cY}(hl:s.length<40000)(Zq:∀x∈s,-3<=x)
  (h:∀l,dS r pc s=aa l->∀τ,Q (.lst (l.map eB)) (σ++τ))(he:dS r pc s=ae->Q .none σ) :
  iP G (cl d) 1000 E (lw4 Dx) [v0,v1,aa (.int pc),aa (lV s),aa (.int r.1),aa (oV r.2),aa (.str (nm r.1)),aa (.str (kB (kd r.1))),aa (.int (fP r)),aa (.int (pt r.1)),ae,ae,ae,ae] σ A (λv U σ=>Q v σ):=by
 have h':∀l,dS r pc s=aa l->Q (.lst (l.map eB)) σ:=λl q=>by have:=h l q [];rw[aP]at this;exact this
 have ht:∀(be:cY) (v10:Option V),r.1≠79->be.length<40000->(∀τ,Q (.lst ((F8 r.1 pc (be++made r.1)++jmp r s (be++made r.1)).map eB)) (σ++τ))->iP G (cl d) 1000 E Dx [v0,v1,aa (.int pc),aa (lV s),aa (.int r.1),aa (oV r.2),aa (.str (nm r.1)),aa (.str (kB (kd r.1))),aa (.int (fP r)),aa (.int (pt r.1)),v10,aa (lV be),ae,ae] σ A (λv U σ=>Q v σ) :=
  λbe v6 h79 hb h=>Jy ho ha h79 pc s be hb h
 generalize Dx=tl at *;unfold lw4;dsimp only[cW,cq,dX,eH,eP,cj,ij,i9,cA,tP,tQ,eO,xt,dT,ew,eT,jE,jD,fJ,dW,dF,dv,cZ,mS,i6,i5,Gs,Tb,oy,xe,Ig,Qy,qU,slt,vA,az,aD,ah,ai,aF,aG];have hm:(s.map wV).length=s.length:=qY s;refine Gi (rfl:items σ (lV s)=aa (s.map wV)) ⟨show _<100000 by exact mF hl hm,jn (λe=>?_) λe=>?_⟩
 .rw[hm]at e;exact he (Wlo (L9 e))
 rw[hm]at e;have hn:¬s.length<fP r:=by exact L7 e
 have e1:((s.map wV).length:Int)-(fP r:Nat)=(s.length-fP r:Nat):=by rw[hm];exact L6 e
 refine Gi (rfl:items σ (lV s)=aa (s.map wV)) ⟨show _<100000 by exact mF hl hm,?_⟩;rw[e1];refine slL (Cd hm e e1) (LZ hl hm e1) (mF hl hm) (Gi (rfl:items σ (lV s)=aa (s.map wV)) ⟨show _<100000 by exact mF hl hm,?_⟩);rw[e1];refine shL (Cd hm e e1) (LZ hl hm e1) (mF hl hm) ⟨lm rfl,rfl,Gi (nq _ ho 78 _ (by decide) rfl) (jn (λe=>?_) λe=>?_)⟩
 .have eg:=g_k ha e (by decide +kernel);have hq:=h' _ (Wgo hn e);have hnn:=ha.nn;rw[eg];have q:s.map wV++[V.str (st "v"),oV (aa (r.2.getD 0))]=(s++[-1,r.2.getD 0]).map wV:=by rw[<- C5];refine(?_:_=_++[wV (-1),wV (r.2.getD 0)]);rw[Nl hnn];rfl
  refine⟨lm rfl,show _<100000 by rw[ao,hm];show _+2<_;exact VZ hl,lm rfl,lm rfl,lm rfl,?_⟩;rw[q];exact hq
 rw[cg,<- z7,<- mB];have GU:(s.drop (s.length-fP r)).length=fP r:=by rw[jS];exact L2 hm e1
 refine Gi (nq _ ho 79 _ (by decide) rfl) (jn (λe2=>?_) λe2=>?_)
 .have hk:=wI e2 2 (by decide +kernel);have hw:=Wre (pc:=pc) hn e2;have x1:-3<=(s.drop (s.length-fP r)).getD 1 0:=by
   rw[bU];induction q:(s.drop (s.length-fP r))[1]? with
   |none=>exact(by decide:(-3:Int)<=0)
   |some x=>exact Zq x (List.mem_of_mem_drop (aN q))
  have no:¬((s.drop (s.length-fP r)).getD 0 0 = -1/\0<=(s.drop (s.length-fP r)).getD 1 0)->Q .none σ:=λq=>he (hw.trans (if_neg q));have yes:(s.drop (s.length-fP r)).getD 0 0 = -1->0<=(s.drop (s.length-fP r)).getD 1 0->0<lim/\Q (.lst []) σ:=λq1 q2=>⟨lm rfl,h' [] (hw.trans (if_pos ⟨q1,q2⟩))⟩;exact Gi (gW (i:=0) _ (VU GU hk) (LV GU hk)) (Gi (Np σ _ (-1)) (vf (λq=>Gi (gW (i:=1) _ (VQ GU hk) (LV GU hk)) (Gi (aaG _) (vf (λq2=>yes q (VM x1 q2)) λq2=>no λq3=>q2 (VK q q2 q3)))) λq=>no λq3=>q q3.1))
 refine Gi (nq _ ho 77 _ (by decide) rfl) (jn (λe3=>?_) λe3=>?_)
 .have hk:=wI e3 1 (by decide +kernel);have eg:=g_k ha e3 (by decide +kernel);have hw:=Wnx (pc:=pc) hn e3;have ql:fc σ .eq (.lst ((s.drop (s.length-fP r)).map wV)) (.lst [.str (st "k")])=aa (decide (s.drop (s.length-fP r)=[-2])):=by rw[aaJ];exact leq σ (s.drop (s.length-fP r)) [-2]
  refine⟨lm rfl,Gi ql (jn (λq=>?_) λq=>?_)⟩
  .rw[if_pos (by rw[q];rfl)]at hw;have hq:=h' _ hw;have q:s.map wV++[V.str (st "v")]=(s++[-1]).map wV:=by rw[QK];exact C5 s [-1]
   rw[eg];refine⟨lm rfl,lm rfl,show _<100000 by rw[ao,hm];show _+1<_;exact VJ hl,lm rfl,lm rfl,?_⟩;rw[q];exact hq
  .refine he (hw.trans (if_neg λq2=>q ?_))
   match hth:s.drop (s.length-fP r),GU with
   |[x],_=>rw[hth]at q2;rw[show x = -2 from q2]
   |[],z=>exact absurd z (by rw[hk];decide)
   |_::_::_,z=>rw[hk]at z;exact absurd z (by simp)
 have hw:=Wel (pc:=pc) hn e e2 e3;have hb:(s.take (s.length-fP r)).length<40000:=by rw[cv];exact L0 hl hm e1
 refine Gi (nnq _ ho 6 _ (by decide) rfl) ?_;by_cases e4:r.1=6
 .rw[decide_eq_true e4];rw[if_neg (λq=>q.1 e4)]at hw;exact ht _ _ e2 hb (h _ hw)
 .rw[decide_eq_false e4];refine kZ ?_;dsimp only[cq,Gs,qU,zM,DE,KR,ah,ai];refine⟨by rw[qY,decide_eq_true (p:=(s.drop (s.length-fP r)).length<lim) (show _<100000 by exact VH hl (by assumption) GU)];rfl,Gi (j3 wV (jI (r.1==69)) λx U=>?_) ⟨show _<100000 by have:=jM (jI (r.1==69)) (s.drop (s.length-fP r));rw[qY];exact VF hl (by assumption) GU this,lm rfl,Gi (QV (Qd _) _) ?_⟩⟩
  .dsimp only[cW,cq,It,cj,ij,i8,eT,jE,jD,Gs,oy,vA,qS,nT,ah,ai];refine Gi (aaI _ x (-1)) ?_;by_cases q:x = -1
   .rw[decide_eq_true q];subst q;rfl
   .rw[decide_eq_false q];refine Gi (nq _ ho 69 _ (by decide) rfl) ?_;by_cases q2:r.1=69
    .rw[decide_eq_true q2,q2];refine Gi (Np _ x (-3)) ?_;by_cases q3:x = -3
     .rw[decide_eq_true q3];subst q3;rfl
     .rw[decide_eq_false q3];refine(?_:V.bool af=.bool (jI (69==69) x));unfold jI;rw[bne_iff_ne.2 q,beq_eq_false_iff_ne.2 q3];rfl
    .rw[decide_eq_false q2];refine(?_:V.bool af=.bool (jI (r.1==69) x));unfold jI;rw[bne_iff_ne.2 q,beq_eq_false_iff_ne.2 q2];rfl
  .induction q:(s.drop (s.length-fP r)).any (jI (r.1==69))with
   |true =>
    rw[if_pos ⟨e4,q⟩]at hw;have q2:(((s.drop (s.length-fP r)).filter (jI (r.1==69))).map wV).isEmpty=ag:=by
     refine dB (mZ.1 q) λx h1 h2=>?_;induction q3:(s.drop (s.length-fP r)).filter (jI (r.1==69))using List.casesOn with
     |nil=>exact absurd (q3▸List.mem_filter.2 ⟨h1,h2⟩) ba
     |cons=>rfl
    rw[q2];exact he hw
   |false =>
    rw[if_neg (λz=>by rw[q]at z;exact nomatch z.2)]at hw;have q2:(s.drop (s.length-fP r)).filter (jI (r.1==69))=[]:=n5.2 λx hx z=>by rw[mZ.2 ⟨x,hx,z⟩]at q;exact nomatch q
    rw[q2];exact ht _ _ e2 hb (h _ hw)
theorem Gh (u:g9 σ n c hs)(hc:c.length<5000)(h0:0<=pc)(hp:c[pc.toNat]?=aa r)(ho:r.1<85)(ha:dO c.length r){s:cY}(hl:s.length<40000)(Zq:∀x∈s,-3<=x)
  (h:∀l,dS r pc s=aa l->∀τ,Q (.lst (l.map eB)) (σ++τ))(he:dS r pc s=ae->Q .none σ):Wp (cl (d+1) 38 [.loc n,fg,.int pc,lV s] σ) Q E:=by
 refine call pd 10 rfl rfl ?_;dsimp only[pd];rw[acY];have ht:=Ox (d:=d) (v0:=aa (.loc n)) (v1:=aa fg) (A:=λU σ=>Q .none σ) (E:=E) ho ha hl Zq h he;generalize lw4 Dx=tl at *;dsimp only[cW,cq,eP,cj,i9,cA,dR,eT,eu,fJ,cZ,Gs,Tb,d5,d6,d4,gq,az,aD,ah,ai];refine je (u.dm 2 rfl) (u.row h0 hp hc) ?_;dsimp only[cV,mS,i6,i5,Gs,xe,az,aD,ah,ai,aF,aG];refine⟨rfl,Gi (gB _ ho) ?_⟩;dsimp only[xN,mS,i6,i5,Gs,xe,Ig,az,aD,ah,ai,aF,aG];refine⟨rfl,Gi (Qh _ ho 7 _ (by decide) rfl) (jn (λe=>?_) λe=>?_)⟩
 .obtain⟨g,e2⟩:=ha.g7 e;rw[e2]at ht ⊢;have q:fP r=tk r.1+g:=by unfold fP;rw[if_pos e,e2];rfl
  rw[q]at ht;exact ht
 .have q:fP r=tk r.1:=by unfold fP;rw[if_neg e];rfl
  rw[q]at ht;rw[fS];exact ht
end
theorem aa1 {l:List V}(h:lH 8 (.lst l)=af)(σ:bp):fc σ .eq (.lst l) (.lst [])=aa l.isEmpty:=by refine(?_:(if lH 8 (.lst l)&&lH 8 (.lst [])then yV 8 (.lst l) (.lst [])else ae)=_);rw[h];induction l using List.casesOn<;>rfl
theorem okH:∀l:List Hn,lH 8 (.lst (l.map hV))=af
 |[]=>rfl
 |_::l=>okH l
theorem MO {k:Nat}{l:List V}(h:σ[k]?=aa (.list l)):iW (.loc k) σ=.ok (.live k ag) σ:=by refine(?_:(if uM σ (.loc k)then R.ok (IK.live k ag) σ else R.bad)=_);rw[qm h];rfl
theorem OF {k:Nat}{l:List V}(h:σ[k]?=aa (.list l)):itemsOf (.live k ag) σ=aa l:=by refine(?_:(match σ[k]? with|some (.list l)=>aa l|_=>ae)=_);rw[h]
noncomputable def nV (pc:Int)(h:Hn):Bool:=decide (h.s<=pc/\pc<h.e)
theorem zy (hs:List Hn)(pc:Int):over hs pc=(hs.filter (nV pc)).head?:=(List.head?_filter (p:=nV pc) (l:=hs)).symm
section
variable {n:Nat}{hs:List Hn}
def loV:Option Fd->V
 |none=>.none
 |some a=>.lst (a.map eB)
def Zb:List S:=[.asg 6 (.comp ag (.c 0) (.dm (.v 0) 5) [.cmp (.sub (.c 0) (.k (.int 0))) [.le,.lt] [.v 3,.sub (.c 0) (.k (.int 1))]]),
 .ite (.or [.cmp (.v 5) [.is] [.k (.none)],.cmp (.v 6) [.eq] [.lst ag []],.cmp (.sub (.sub (.v 1) (.sub (.sub (.dm (.v 0) 2) (.v 3)) (.k (.int 0)))) (.k (.int 0))) [.rp] [.v 2]]) [.ret (.v 5)] [],
 .ite (.cmp (.len (.v 4)) [.lt] [.sub (.sub (.v 6) (.k (.int 0))) (.k (.int 3))]) [.ret (.k (.none))] [],
 .ret (.bin .add ag (.v 5) (.lst ag [.tup [.sub (.sub (.v 6) (.k (.int 0))) (.k (.int 2)),.bin .add ag (.bin .add ag (.vz (.v 4) (.sub (.sub (.v 6) (.k (.int 0))) (.k (.int 3)))) (.lst ag [.k (.str (st "v"))])) (.ite (.sub (.sub (.v 6) (.k (.int 0))) (.k (.int 4))) (.lst ag [.sub (.sub (.v 6) (.k (.int 0))) (.k (.int 2))]) (.lst ag []))]]))]
theorem DB (u:g9 σ n c hs)(hc:c.length<300)(hh:hs.length<900)(hd:∀h∈hs,0<=h.d/\0<=h.h)(h0:0<=pc)(hr:c[pc.toNat]?=aa r)(ho:r.1<85){s:cY}(hl:s.length<40000)(l:Option Fd)(Bj:∀a,l=aa a->a.length<=2)
  (h:∀a b,l=aa a->thrown hs r.1 pc s=aa b->Q (.lst ((a++b).map eB)) σ)(he:l=ae\/thrown hs r.1 pc s=ae->Q .none σ){lv:V}(J5:lv=loV l) :
  iP G (cl d) 1000 E Zb
   [aa (.loc n),aa fg,aa (.lst (Ji.map λo=>.str (nm o))),aa (.int pc),aa (lV s),aa lv,ae] σ A (λv U σ=>Q v σ):=by
 have Qo:=zy hs pc;have J6:=jM (nV pc) hs;unfold Zb;refine kZ ?_;dsimp only[cW,cq,dX,eH,eP,cj,mC,i9,cA,tQ,dR,eO,dT,ew,eT,jE,jD,dW,dF,dv,cZ,Gs,Tb,oy,qU,P8,JX,qS,az,aD,ah,ai,aF,aG];refine Gi (u.dm 5 rfl) ?_;rw[MO u.h];refine Gi (OF u.h) ⟨by rw[ak,decide_eq_true (p:=hs.length<lim) (show _<100000 by exact zo hh)];rfl,Gi (j3 hV (nV pc) λx U=>?_) ⟨show _<100000 by rw[ak];exact LY hh J6,?_⟩⟩
 .dsimp only[cW,cq,It,cj,cA,eT,yF,jE,jD,Gs,oy,qS,ah,ai];refine je rfl rfl (jn (λe=>je rfl rfl (jn (λe2=>?_) λe2=>?_)) λe=>?_)
  .unfold nV;rw[decide_eq_true (⟨e,e2⟩:x.s<=pc/\pc<x.e)]
  .unfold nV;rw[decide_eq_false (λq:x.s<=pc/\pc<x.e=>e2 q.2),decide_eq_false e2]
  .unfold nV;rw[decide_eq_false (λq:x.s<=pc/\pc<x.e=>e q.1)]
 .induction l with
  |none=>subst J5;exact he (.inl rfl)
  |some a =>
   have J5:lv=.lst (a.map eB):=J5;subst J5;have ha2:=Bj a rfl;refine Gi rfl ?_;have Fu:thrown hs r.1 pc s=aa []->Q (.lst (a.map eB)) σ:=λq=>by have:=h a [] rfl q;rw[aP]at this;exact this
   unfold thrown at h he Fu;induction hF:hs.filter (nV pc)using List.casesOn with
   |nil =>rw[hF]at Qo;rw[Qo]at Fu;exact⟨lm rfl,Gi (a:=af) rfl (Fu rfl)⟩
   |cons x F =>
    rw[hF]at Qo;rw[Qo]at Fu h he;have hx:=hd x (List.mem_filter.1 (hF▸aR)).1;refine⟨lm rfl,Gi (a:=ag) (aa1 (okH (x::F)) σ) (QE (u.dm 2 rfl) (u.row h0 hr (oL hc)) rfl (gB _ ho) rfl (Gi (uy ho Ji rfl) (AW (λq=>Fu (if_pos q)) λq=>?_)))⟩;have g0:hK σ (.lst ((x::F).map hV)) (.int 0)=aa (hV x):=by rw[zQ σ (by decide) (by rw[ak,az];exact Ma) (by rw[ak,<- hF];exact LY hh J6)];rfl
    have hm:(s.map wV).length=s.length:=qY s;refine Gi (rfl:items σ (lV s)=aa (s.map wV)) ⟨show _<100000 by exact mF hl hm,Gi g0 (Gi (a:=V.int x.d) rfl (Gi rfl (jn (λe=>?_) λe=>?_)))⟩
    .rw[hm]at e;exact he (.inr ((if_neg q).trans (if_pos e)))
    .rw[hm]at e;have hq:=h a _ rfl ((if_neg q).trans (if_neg e));refine Gi g0 (Gi (a:=V.int x.h) rfl (Gi g0 (Gi (a:=V.int x.d) rfl (shL hx.1 (VY hl e) (mF hl hm) ⟨lm rfl,?_⟩))));have hq2:(s.map wV).take x.d.toNat++[V.str (st "v")]=(s.take x.d.toNat++[-1]).map wV:=by rw[QK,<- C5,mB];rfl
     have hlen:(s.take x.d.toNat++[-1]).length<=s.length+1:=by rw[ao,cv];show _+1<=_;exact VW e
     have hq3:[V.int x.h]=[x.h].map wV:=by show _=[wV x.h];rw[Nl hx.2]
     refine(?_:(_++[V.str (st "v")]).length<lim/\_);rw[hq2];refine⟨show _<100000 by rw[qY];exact LW hl hlen,Gi g0 (Gi (a:=V.bool x.f) rfl ?_)⟩;have ha3:(a.map eB).length<=2:=by rw[ak];exact ha2
     have fin:∀t:cY,H5 x s=t->0+1+1<lim/\0+1<lim/\(a.map eB++[V.tup [.int x.h,lV t]]).length<lim/\Q (.lst (a.map eB++[V.tup [.int x.h,lV t]])) σ:=λt q=>by rw[q,bM]at hq;exact⟨lm rfl,lm rfl,show _<100000 by rw[ao];show _+1<_;exact VR ha3,hq⟩
     induction hf:x.f with
     |true =>dsimp only[Tb,cal,qU,vA];refine Gi g0 (Gi (a:=V.int x.h) rfl ⟨lm rfl,?_⟩);refine(?_:(_++[V.int x.h]).length<lim/\_);rw[hq3,C5];exact⟨show _<100000 by rw[qY,ao];show _+1<_;exact VO hl hlen,fin _ (by unfold H5;rw[hf,if_pos rfl])⟩
     |false =>refine⟨lm rfl,?_⟩;refine(?_:(_++[]).length<lim/\_);rw[aP];exact⟨show _<100000 by rw[qY];exact LW hl hlen,fin _ (by unfold H5;rw[hf,if_neg bq,aP])⟩
end
abbrev quV:V:=.lst (Ji.map λo=>.str (nm o))
theorem acZ:sm=.asg 5 (.call 38 [.v 0,.v 1,.v 3,.v 4])::Zb:=rfl
theorem aaF (k:Nat)(x:Int):lH (k+1) (wV x)=af:=by
 rcases kq x with⟨_,e⟩|⟨_,e⟩|⟨_,e⟩|⟨_,e⟩
 .rw[e];show(st "v").cps.all _=af;decide +kernel
 .rw[e];show(st "k").cps.all _=af;decide +kernel
 .rw[e];show(st "h").cps.all _=af;decide +kernel
 .rw[e];rfl
theorem YQ (k:Nat):∀s:cY,lH (k+2) (lV s)=af
 |[]=>rfl
 |x::s=>by have:=YQ k s;refine(?_:(lH (k+1) (wV x)&&(s.map wV).all (lH (k+1)))=af);rw[aaF,Aa];exact this
theorem okB:∀w:Fd,lH 8 (.lst (w.map eB))=af
 |[]=>rfl
 |q::w=>by have:=okB w;refine(?_:((af&&(lH 6 (lV q.2)&&af))&&(w.map eB).all (lH 7))=af);rw[YQ 4 q.2];exact this
section
variable {n:Nat}{hs:List Hn}
theorem zG (u:g9 σ n c hs)(hc:c.length<300)(hh:hs.length<900)(ho:∀r∈c,r.1<85)(v:Valid c hs)(h0:0<=pc)(h1:pc<c.length){s:cY}(hl:s.length<40000)(Zq:∀x∈s,-3<=x)
  (h:∀l,step c hs pc s=aa l->∀τ,Q (.lst (l.map eB)) (σ++τ))(he:step c hs pc s=ae->∀τ,Q .none (σ++τ)):Wp (cl (d+2) 39 [.loc n,fg,quV,.int pc,lV s] σ) Q E:=by
 refine dB (ny h0 h1) λr hr hm=>?_;have e:=step_at (hs:=hs) (s:=s) hr;have hd:∀h∈hs,0<=h.d/\0<=h.h:=λa ha=>⟨(v.h a ha).2.2.1,(v.h a ha).2.1.1⟩;refine call nN 2 rfl rfl ?_;dsimp only[nN];rw[acZ];have rest:∀τ (o:Option Fd) (lv:V),dS r pc s=o->lv=loV o->iP G (cl (d+1)) 1000 E Zb [aa (.loc n),aa fg,aa quV,aa (.int pc),aa (lV s),aa lv,ae] (σ++τ) (λU σ=>Q .none σ) (λv U σ=>Q v σ):=λτ o lv q J5 =>
  DB (u.app τ) hc hh hd h0 hr (ho r hm) hl o (λa q2=>oX (q.trans q2)) (λa b q2 q3=>h _ (by rw[e,q,q2];dsimp only;rw[q3]) τ) (λq2=>he (by
   rw[e,q];rcases q2 with q2|q2
   .rw[q2]
   .induction o with
    |none=>rfl
    |some a=>dsimp only;rw[q2]) τ) J5
 generalize Zb=tl at *;dsimp only[cq,dy,dT,ew,eu,cZ,Gs,d5,d6,d4,gq,ah,ai,aF,aG];refine Gh u (oL hc) h0 hr (ho r hm) (v.arg r hm) hl Zq (λl q τ=>rest τ _ _ q rfl) λq=>?_;have:=rest [] _ _ q rfl;rw[aP]at this;exact this
def BW (σ:bp)(f w:Fd)(γ:bp):bp:=σ++.cH (f.map (eD lV))::.list (w.map eB)::γ
inductive JL (σ:bp)(n:Nat)(c:List Row)(hs:List Hn)(m:Nat):Vs->bp->Prop
 |mk (f w) (γ:bp) (a5 a6 a7:Option V):Ih c.length (step c hs) (4*free c.length []+1) m f w->JL σ n c hs m [aa (.loc n),aa fg,aa quV,aa (.loc σ.length),aa (.loc (σ.length+1)),a5,a6,a7] (BW σ f w γ)
theorem A3 (u:g9 σ n c hs)(hc:c.length<200)(hh:hs.length<900)(ho:∀r∈c,r.1<85)(v:Valid c hs)
  (h:∀f γ,z9 c.length (step c hs) (look f)->(∀p s,look f p=aa s->lX (λg t=>look f g=aa t) s)->(∀p s,look f p=aa s->0<=p/\p<c.length)->(∀p s,look f p=aa s->s.length<50000)->f.length<5000->Q (.loc σ.length) (σ++.cH (f.map (eD lV))::γ))
  (he:¬Good c.length (step c hs)->∀τ,Q .none (σ++τ)):Wp (cl (d+3) 40 [.loc n,fg,quV] σ) Q E:=by
 refine call mh 5 rfl rfl ?_;dsimp only[mh,qH,cW,cq,dX,eH,dT,ew,fJ,xn,dF,dv,cZ,mS,i6,i5,xe,qU,Ie,d5,d6,d4,gq,az,aD,aF,aG];refine BO ?_;dsimp only[dT,aD];refine⟨rfl,⟨rfl,by decide⟩,lm rfl,lm rfl,lm rfl,lm rfl,rfl,?_⟩;rw[aV,ao];have hM:=tv c.length [];refine tm (JL σ n c hs) ?_ 1000 (4*free c.length []+1) _ _ (VS hc hM) (.mk [] [(0,[])] [] ae ae ae Ih.start);intro m vs τ I;induction I with|mk f w γ a5 a6 a7 inv=>?_
 have hm:=inv.ms;have hle:=inv.le;have J6:=inv.fl;refine cz _ _ _ _ _ _ _ _ ?_;dsimp only[cq,eH,cj,dT,eT,Gs,Tb,qU,aD,ah,ai];refine⟨lm rfl,Gi (NY (gU rfl) (okB w)) ?_⟩;induction w with
 |nil=>exact h f _ inv.done.1 inv.done.2 inv.rg (λp s q=>by have:=(inv.pk p s (.inl q)).1;exact VP hc hM this) (VN hc J6)
 |cons q w =>
  obtain⟨p,s⟩:=q;rw[az]at hm;refine o05 (inv.turn (s9 ho v) (IL c hs)) λp0 pk no1 no2 aaC aaB=>?_;have hlen:s.length<40000:=by have:=pk.1;exact VL hc hM hm this
  have hd:(BW σ f w γ)[σ.length]?=aa (.cH (f.map (eD lV))):=Ha rfl;have u':g9 (BW σ f w γ) n c hs:=u.app _;refine fF _ _ _ _ _ _ _ _ _ ?_;dsimp only[cW,cq,cj,ij,mC,cA,dR,dy,eO,xr,EA,dT,ew,eT,jE,jD,el,eu,fJ,hJ,dW,dF,dv,cZ,Gs,Tb,PR,oy,P8,vA,qS,MT,az,aD,ah,ai];refine⟨qm (gU rfl),Li (gU rfl) (Gi rfl ⟨⟨show _<100000 by rw[ak,az];exact VI hc hM hle hm,by decide⟩,?_⟩)⟩;have e1:(BW σ f ((p,s)::w) γ).set (σ.length+1) (.list ((((p,s)::w).map eB).eraseIdx (jm 0)))=BW σ f w γ:=by unfold BW;rw[sU];rfl
  rw[e1];dsimp only[eB,mS,i6,i5,Gs,xe,sge,az,aD,ah,ai,aF,aG];refine⟨rfl,je (u'.dm 2 rfl) (Aj u'.c) ⟨show _<100000 by rw[ak];exact uj hc,?_⟩⟩;rw[ak];have out:∀ {P:Prop},(P->¬Good c.length (step c hs))->P->Q .none (BW σ f w γ):=λk p=>he (k p) _;refine AW (out no1) λe=>Gi (ind p hd) ?_;rw[iH];induction e2:look f p with
  |none =>
   obtain⟨no3,aaA⟩:=aaB e2 (wy e);dsimp only[Option.map_none,DZ,qS,MU];refine Gi (nid p hd) ?_;rw[iH,e2];dsimp only[Option.map_none,DZ,vA,nF];refine Gi (Q1 p (lV s) hd (show _<100000 by rw[ak];exact VA hc J6)) ?_;have e3:(BW σ f w γ).set σ.length (.cH (nU (f.map (eD lV)) p (lV s)))=BW σ (f++[(p,s)]) w γ:=by rw[uU lV p s f e2];exact sU σ _ 0 _
   rw[e3];refine zG (σ:=BW σ (f++[(p,s)]) w γ) (u.app _) (zm hc) hh ho v p0 (wy e) hlen pk.2 (λl q τ=>?_) λq τ=>?_
   .have e4:BW σ (f++[(p,s)]) w γ++τ=BW σ (f++[(p,s)]) w (γ++τ):=aV _ _ _;rw[e4];have OS:l.length<=3:=(s9 ho v).tn _ _ _ q;refine dB (aaA l q) λm' H8 GG=>?_;dsimp only[aLe,qS];refine⟨qm (gU rfl),Li (gU rfl) ⟨show _<100000 by rw[ak,ak];exact Vt hc hM hle hm OS,m',H8,?_⟩⟩;have e:=JL.mk (σ:=σ) (n:=n) (f++[(p,s)]) (w++l) (γ++τ) (aa (.int p)) (aa (lV s)) (aa (.lst (l.map eB))) GG;unfold BW at e ⊢;rw[show(w++l).map eB=w.map eB++l.map eB from bM]at e;rw[sU];exact e
   .rw[show BW σ (f++[(p,s)]) w γ++τ=σ++(_++τ)from aV _ _ _];exact he (no3 q) _
  |some t =>
   dsimp only[vk,Option.isSome_some,vA,MT];refine je ((Ke p hd).trans ((iH lV p f).trans (by rw[e2];rfl))) (lne _ t s) ?_;by_cases e3:t=s
   .rw[decide_eq_true e3];dsimp only[qS,MU,nT];refine Gi (nid p hd) ?_;rw[iH,e2];refine dB (aaC (e3▸e2)) λm' H8 GG=>?_;exact⟨m',H8,JL.mk f w γ _ _ _ GG⟩
   .rw[decide_eq_false e3];exact out (no2 t e2) e3
end
def Pq (n:Nat):List (Str×V):=gx (λd kv=>lQ d kv.1 kv.2) [] ([st "k",st "s",st "l",st "c",st "u",st "t",st "n",st "f"].zip [.int 2,.int 2,.int 1,.int 0,.int 0,.int n,.int 1000000000,.int 0])
def Kp (n k:Nat):Int:=if k=7 then 1000000000 else Kq n k
theorem aap (n:Nat):∀k,k<9->k≠0->qz (Pq n) (kB k)=aa (.int (Kp n k))
 |0,_,h=>absurd rfl h
 |1,_,_|2,_,_|3,_,_|4,_,_|5,_,_|6,_,_|7,_,_|8,_,_=>by kernel_rfl
 |k+9,h,_=>by exact(VV h).elim
section
variable {n:Nat}{hs:List Hn}
def KP:S:=.ite (.or [.cmp (.cmp (.v 5) [.eq] [.k (.str (st "-"))]) [.ne] [.cmp (.v 4) [.is] [.k (.none)]],.and [.cmp (.v 5) [.ne] [.k (.str (st "-"))],.not (.cmp (.k (.int 0)) [.le,.lt] [.v 4,.sub (.v 2) (.v 5)])],.v 6]) [.ret (.k (.bool ag))] []
def Nc (tl:List S):List S:=.asg 5 (.sub (.sub (.v 1) (.v 3)) (.k (.int 1))) ::
  .asg 6 (.and [.cmp (.v 5) [.eq] [.k (.str (st "s"))],.cmp (.v 4) [.ne] [.k (.int 1)]])::tl
theorem YT {p:Prop}[Decidable p]{R A B:Prop}(h:¬p->A)(h2:p->R):if(!decide p)=af then A else if(!decide p)=ag then R else if(!decide p)=af then A else B:=by
 by_cases q:p
 .rw[decide_eq_true q];exact h2 q
 .rw[decide_eq_false q];exact h q
theorem Zf (σ:bp)(h:o<85)(s:Str)(e:kB 0=s):fc σ .ne (.str (kB (kd o))) (.str s)=aa (!decide (kd o=0)):=by have q:vB (.str (kB (kd o))) (.str s)=aa (decide (kd o=0)):=e▸kBe (kd o) (wN h) 0 (by decide);refine(?_:(vB (.str (kB (kd o))) (.str s)).map (!·)=_);rw[q];rfl
theorem KO  (ho:r.1<85)(hN:σ[N]?=aa (.dN (Pq m)))(hb:∀g,r.2=aa g->g<1000000000)(w:Bool)(hw:w=af<->kd r.1=2/\r.2≠aa 1)
  (h:dO m r->∀a5 a6,A [v0,v1,aa (.loc N),v3,aa (oV r.2),a5,a6] σ)(he:¬dO m r->∀vs,K (.bool ag) vs σ) :
  iP G (cl d) 1000 E [KP] [v0,v1,aa (.loc N),v3,aa (oV r.2),aa (.str (kB (kd r.1))),aa (.bool w)] σ A K:=by
 unfold KP;dsimp only[cW,cq,cj,ij,mC,i8,cA,eT,yF,jE,jD,dW,dF,dv,cZ,Gs,Tb,oy,aaY,P8,vA,qS,MT,nF,ah,ai];have hk:=wN ho;unfold dO at h he;refine Gi (Qh _ ho 0 _ (by decide) rfl) ?_;by_cases e0:kd r.1=0
 .rw[if_pos e0]at h he;rw[decide_eq_true e0];induction e2:r.2 with
  |none =>
   rw[e2]at h;have w0:w=ag:=by induction w;rfl;exact absurd (hw.1 rfl).1 (by lia)
   subst w0;dsimp only[oV,qS,MU];refine Gi (Zf _ ho _ rfl) ?_;rw[decide_eq_true e0];exact h rfl _ _
  |some g =>rw[e2]at he;exact he (λq=>nomatch q) _
 .rw[if_neg e0]at h he;rw[decide_eq_false e0];induction e2:r.2 with
  |none =>rw[e2]at he;exact he (λz_=>by obtain⟨_,q,_⟩:=z_;exact nomatch q) _
  |some g =>
   rw[e2]at h he hb hw;dsimp only[oV,Gs,sle];refine Gi (Zf _ ho _ rfl) ?_;rw[decide_eq_false e0];dsimp only[vA,MT,nF];have out:∀ {P:Prop},((∃g',aa g=aa g'/\0<=g'/\(kd r.1=7\/g'<Kq m (kd r.1))/\(kd r.1=2->g'=1))->¬P)->P->∀vs,K (.bool ag) vs σ:=λk p=>he λq=>k q p;refine jn (λe3=>Gi ((gds _ hN).trans (aap m (kd r.1) hk e0)) (YT (out (P:=¬g<Kp m (kd r.1)) (λ⟨g',q,_,q2,_⟩ q3=>q3 ?_) · _) λe4=>?_)) λe3=>out (P:=¬0<=g) (λ⟨g',q,q2,_⟩ q3=>q3 (by obtain rfl:=aj q;exact q2)) e3 _
   .obtain rfl:=aj q;unfold Kp;by_cases e7:kd r.1=7
    .rw[if_pos e7];exact hb g rfl
    .rw[if_neg e7];exact q2.elim (λz=>absurd z e7) id
   .have q2:kd r.1=7\/g<Kq m (kd r.1):=by
     unfold Kp at e4;by_cases e7:kd r.1=7
     .exact .inl e7
     .rw[if_neg e7]at e4;exact .inr e4
    induction w with
    |true =>have:=hw.1 rfl;exact out (P:=kd r.1=2/\g≠1) (λz_ q3=>by obtain⟨g',q,_,_,q4⟩:=z_;exact by obtain rfl:=aj q;exact q3.2 (q4 q3.1)) ⟨this.1,λz=>this.2 (by rw[z])⟩ _
    |false =>
     refine h ⟨g,rfl,e3,q2,λz=>?_⟩ _ _;by_cases z2:g=1
     .exact z2
     .exact nomatch hw.2 ⟨z,λq=>z2 (aj q)⟩
theorem ac0  (ho:r.1<85)(hN:σ[N]?=aa (.dN (Pq m)))(hb:∀g,r.2=aa g->g<1000000000)
  (h:dO m r->∀a5 a6,A [v0,aa fg,aa (.loc N),aa (.int r.1),aa (oV r.2),a5,a6] σ)(he:¬dO m r->∀vs,K (.bool ag) vs σ) :
  iP G (cl d) 1000 E (Nc [KP]) [v0,aa fg,aa (.loc N),aa (.int r.1),aa (oV r.2),v5,v6] σ A K:=by
 have ht:=λw hw=>KO (d:=d) (E:=E) (v0:=v0) (v1:=aa fg) (v3:=aa (.int r.1)) ho hN hb w hw h he;generalize[KP]=tl at *;unfold Nc;dsimp only[cW,cq,cj,ij,cA,eT,jE,jD,eu,cZ,Gs,oy,ah,ai,aF,aG];refine HY (gB _ ho) rfl (Qh _ ho 2 _ (by decide) rfl) (jn (λe=>?_) λe=>?_)
 .induction e2:r.2 with
  |none =>refine Gi (a:=af) rfl ?_;have:=ht af ⟨λU=>⟨e,by rw[e2];exact nofun⟩,λU=>rfl⟩;rw[e2]at this;exact this
  |some g =>
   refine Gi (QU σ g 1) ?_;by_cases z:g=1
   .rw[decide_eq_true z];have:=ht ag ⟨nofun,λq=>absurd (by rw[e2,z]) q.2⟩;rw[e2]at this;exact this
   .rw[decide_eq_false z];have:=ht af ⟨λU=>⟨e,by rw[e2];exact λq=>z (aj q)⟩,λU=>rfl⟩;rw[e2]at this;exact this
 .rw[decide_eq_false e];exact ht ag ⟨nofun,λq=>absurd q.1 e⟩
end
section
variable {n:Nat}{hs:List Hn}
theorem Cq {k:Nat}{l:List V}{Q:IK->bp->Prop}(h:σ[k]?=aa (.list l))(q:Q (.live k ag) σ):Wp (iW (.loc k) σ) Q E:=by rw[MO h];exact q
inductive JA (σ:bp)(n:Nat)(c:List Row)(Q:V->bp->Prop)(i:Nat):Vs->bp->Prop
 |mk (a3 a4 a5 a6:Option V):((∀r∈c.drop i,dO c.length r)->Q (.bool af) (σ++[.dN (Pq c.length)]))->(¬(∀r∈c.drop i,dO c.length r)->Q (.bool ag) (σ++[.dN (Pq c.length)]))->JA σ n c Q i [aa (.loc n),aa fg,aa (.loc σ.length),a3,a4,a5,a6] (σ++[.dN (Pq c.length)])
theorem Gu (u:g9 σ n c hs)(hc:c.length<300)(ho:∀r∈c,r.1<85)(hb:∀r∈c,∀g,r.2=aa g->g<1000000000)
  (h:(∀r∈c,dO c.length r)->∀τ,Q (.bool af) (σ++τ))(he:¬(∀r∈c,dO c.length r)->∀τ,Q (.bool ag) (σ++τ)):Wp (cl (d+1) 36 [.loc n,fg] σ) Q E:=by
 refine call jw 5 rfl rfl ?_;dsimp only[jw,lS,cW,cq,dR,eu,fH,dF,dv,cZ,Gs,JX,d5,d6,d4,gq,ah,aF,aG];refine BN ?_;dsimp only[cW,cq,eP,dR,eO,dT,ew,Gs,az,aD,ah];refine je ((u.app _).dm 2 rfl) (Aj (u.app _).c) ⟨show _<100000 by rw[ak];exact FJ hc,⟨rfl,rfl⟩,rfl,⟨rfl,dC rfl⟩,?_⟩;rw[ak];have u':=u.app [.dN (Pq c.length)];refine Gi (u'.dm 2 rfl) (Cq u'.c ?_);refine j9 (c.map cV) (JA σ n c Q) ?_ ?_ ?_ 1000 0 _ _ (bL _) (by rw[ak];exact VG hc) (.mk _ _ _ _ (λq=>h q _) λq=>he q _)
 .intro i vs τ I;induction I with|mk=>exact u'.c
 .intro i v vs τ hv I;induction I with|mk a3 a4 a5 a6 h he=>?_
  (refine dB (nE hv) λr hr z1=>?_;subst z1);have hm:r∈c:=aN hr;rw[tw hr]at h he;refine Gi (a:=[aa (.loc n),aa fg,aa (.loc σ.length),aa (.int r.1),aa (oV r.2),a5,a6]) rfl (fF _ _ _ _ _ _ _ _ _ ?_);refine ac0 (ho r hm) (gE _ _) (hb r hm) (λq a5 a6=>JA.mk _ _ _ _ (λq2=>h λr' DG=>(aM.1 DG).elim (λe=>e▸q) (q2 r')) λq2=>he λq3=>q2 λr' DG=>q3 r' (bf _ DG)) λq vs=>he λq2=>q (q2 r aR)
 .intro vs τ I;induction I with|mk a3 a4 a5 a6 h _=>?_
  rw[ak,mY]at h;exact h λU q=>absurd q ba
noncomputable def rm (h:Hn):List Int:=(fG (h.e-h.s).toNat).map λ(i:Nat)=>h.s+i
theorem fQ {h:Hn}{x:Int}:x∈rm h<->h.s<=x/\x<h.e:=by
 unfold rm;rw[bX]
 constructor
 .rintro⟨i,hi,rfl⟩;have:=jz.1 hi;exact VE this
 .rintro⟨h1,h2⟩;exact⟨(x-h.s).toNat,jz.2 (VD h1 h2),by exact VC h1⟩
theorem Cp {h:Hn}:rm h=[]<->h.e<=h.s:=by
 constructor
 .intro q;by_cases h2:h.e<=h.s
  .exact h2
  .exact absurd (q▸fQ.2 ⟨gy _,by exact Mm h2⟩:h.s∈[]) ba
 .intro q;induction e:rm h using List.casesOn with
  |nil=>rfl
  |cons x l =>have:=fQ.1 (e▸aR:x∈rm h);exact(VB q this).elim
theorem F2 {a b:Hn}(ha:a.s<a.e)(hb:b.s<b.e):((rm a).filter (λx=>decide (x∈rm b))=[]\/(rm a).filter (λx=>decide (x∈rm b))=rm a)<->mf a b:=by
 rw[n5,List.filter_eq_self];unfold mf
 constructor
 .rintro(h|h) h1 h2
  .exfalso;by_cases q:a.s<=b.s
   .exact h b.s (fQ.2 ⟨q,h2⟩) (decide_eq_true (fQ.2 ⟨gy _,hb⟩))
   .exact h a.s (fQ.2 ⟨gy _,ha⟩) (decide_eq_true (fQ.2 ⟨by exact Vz q,h1⟩))
  .have x1:=fQ.1 (of_decide_eq_true (h a.s (fQ.2 ⟨gy _,ha⟩)));have x2:=fQ.1 (of_decide_eq_true (h (a.e-1) (fQ.2 ⟨by exact Vy ha,by exact Vx⟩)));exact Vw x1 x2
 .intro h;by_cases q:a.s<b.e/\b.s<a.e
  .right
   intro x hx;have:=fQ.1 hx;have:=h q.1 q.2;exact decide_eq_true (fQ.2 (by exact Vv h q (by assumption)))
  .left
   intro x hx rq;have h1:=fQ.1 hx;have h2:=fQ.1 (of_decide_eq_true rq);exact Vu q h1 h2
end
noncomputable def oI (h:Hn):V:=.lst ((rm h).map .int)
theorem OA (a b:List Int):vB (.lst (a.map .int)) (.lst (b.map .int))=aa (decide (a=b)):=by refine(?_:(if lH 8 (.lst (a.map .int))&&lH 8 (.lst (b.map .int))then sJ (yV 7) (a.map .int) (b.map .int)else ae)=_);rw[okI,okI,ni V.int (λx y=>rfl)];rfl
theorem acg (σ:bp)(x y:List Int):fc σ .H3 (.lst (x.map .int)) (.tup [.lst [],.lst (y.map .int)])=aa (!decide (x=[]\/x=y)):=by refine(?_:(match vB (.lst []) (.lst (x.map .int)),(match vB (.lst (y.map .int)) (.lst (x.map .int)),aa ag with|some a,aa b=>aa (a||b)|_,_=>ae)with|some a,aa b=>aa (a||b)|_,_=>ae).map (!·)=_);rw[show vB (.lst []) (.lst (x.map .int))=aa (decide ([]=x))from OA [] x,OA y x];refine(?_:aa (!(decide ([]=x)||(decide (y=x)||false)))=_);rw[Bool.or_false,<- yl];exact congrArg (λb=>aa (!b)) (decide_eq_decide.2 ⟨λh=>h.imp fb fb,λh=>h.imp fb fb⟩)
section
variable {n:Nat}{hs:List Hn}
theorem Jz {a:Hn}(h1:-10000<a.s/\a.s<10000)(h2:-10000<a.e/\a.e<10000):AU (.tup [.int a.s,.int a.e]) σ=.ok (.items ((rm a).map .int)) σ:=by refine(?_:(if(a.e-a.s).toNat<lim/\big a.s=af/\big a.e=af then R.ok (IK.items (iq a.s a.e)) σ else R.bad)=_);rw[if_pos ⟨show _<100000 by exact Vr h1 h2,mx (LU h1),mx (LU h2)⟩];delta iq rm;rw[s6];rfl
theorem xV {a:Hn}(h1:-10000<a.s/\a.s<10000)(h2:-10000<a.e/\a.e<10000):(rm a).length<50000:=by delta rm;rw[ak,mc];exact Vq h1 h2
noncomputable def C3:X:=.or [.cmp (.v 8) [.eq] [.lst ag []],.cmp (.v 3) [.lt] [.k (.int 0)],.cmp (.v 4) [.gt] [.v 2],.not (.cmp (.k (.int 0)) [.le,.lt] [.v 5,.v 2]),.cmp (.v 5) [.rp] [.v 8],.cmp (.v 6) [.lt] [.k (.int 0)]]
theorem aah  {a:Hn}{A:bp->Prop}(h:Ef m a->B σ)(he:¬Ef m a->A σ) :
  we G (cl d) [v0,v1,aa (.int m),aa (.int a.s),aa (.int a.e),aa (.int a.h),aa (.int a.d),v7,aa (oI a),v9] E C3 [] σ λx σ=>Tw x (A σ) (B σ):=by
 delta C3;dsimp only[cW,cq,eH,cj,mC,i8,dT,eT,yF,jE,jD,Gs,Tb,oy,qU,slt,sle,Ld,vA,qS,MT,nF,aD,ah,ai];have q0:fc σ .eq (oI a) (.lst [])=aa (decide (rm a=[])):=OA (rm a) [];refine⟨lm rfl,Gi q0 (AW (λe=>he λq=>?_) λe1=>AW (λe=>he λq=>?_) λe2=>AW (λe=>he λq=>?_) λe3=>jn (λe4=>Gb (λe=>he λq=>e q.2.1.2) λe5=>Gi (qh a.h (rm a)) (AW (λe=>he λq=>q.2.2.2 (fQ.1 e)) λe6=>AW (λe=>he λq=>?_) λe7=>?_)) λe=>he λq=>e q.2.1.1)⟩
 .have:=Cp.1 e;have:=q.1.2.1;exact Vp (by assumption) this
 .have:=q.1.1;exact LS e this
 .have:=q.1.2.2;exact Vo e this
 .have:=q.2.2.1;exact LS e this
 .exact h ⟨⟨by exact FK e2,by by_cases z:a.s<a.e;exact z;exact absurd (Cp.2 (Vn z)) e1,by exact Mi e3⟩,⟨e4,e5⟩,by exact FK e7,λz=>e6 (fQ.2 z)⟩
theorem GN {a:Hn}(h:hs[i]?=aa a):hs=hs.take i++a::hs.drop (i+1):=by rw[<- tw h,List.take_append_drop]
theorem lF.at {a:Hn}(h:hs[i]?=aa a)(q:lF m hs):Ef m a/\∀b∈hs.take i,mf b a:=by refine⟨q.1 a (aN h),λb hb=>?_⟩;have:=q.2;rw[GN h]at this;exact(ke.1 this).2.2 b hb a aR
theorem lF.snoc {a:Hn}(h:hs[i]?=aa a)(q:lF m (hs.take i))(q1:Ef m a)(q2:∀b∈hs.take i,mf b a):lF m (hs.take (i+1)):=by
 have e:hs.take (i+1)=hs.take i++[a]:=by rw[yh,h];rfl
 simp only[e];refine⟨λx hx=>(bg.1 hx).elim (q.1 x) λhx=>by rw[au.1 hx];exact q1,ke.2 ⟨q.2,As _ _,λb hb x hx=>by rw[au.1 hx];exact q2 b hb⟩⟩
noncomputable def F7:List S:=[.ite (.cmp (.comp ag (.c 0) (.v 9) [.cmp (.c 0) [.rp] [.v 8]]) [.H3] [.tup [.lst ag [],.v 9]]) [.ret (.k (.bool ag))] []]
theorem F6 {a b:Hn}(hb:(rm b).length<50000)(ha1:a.s<a.e)(hb1:b.s<b.e)
  (h:mf b a->A [v0,v1,v2,v3,v4,v5,v6,v7,aa (oI a),aa (oI b)] σ)(he:¬mf b a->K (.bool ag) [v0,v1,v2,v3,v4,v5,v6,v7,aa (oI a),aa (oI b)] σ) :
  iP G (cl d) 1000 E F7 [v0,v1,v2,v3,v4,v5,v6,v7,aa (oI a),aa (oI b)] σ A K:=by
 delta F7;dsimp only[cW,cq,dX,eH,cj,dT,ew,eT,dW,dF,dv,cZ,Gs,Tb,qU,az,aD,ah,ai];refine kZ ?_;dsimp only[oI,cq,Gs,qU,zM,DE,KR,ah,ai];refine⟨by rw[ak,decide_eq_true (p:=(rm b).length<lim) (show _<100000 by exact uk hb)];rfl,Gi (j3 V.int (λx=>decide (x∈rm a)) λx U=>?_) ⟨show _<100000 by have:=jM (λx=>decide (x∈rm a)) (rm b);rw[ak];exact Vm hb this,lm rfl,lm rfl,Gi (acg _ _ (rm b)) ?_⟩⟩
 .dsimp only[cq,It,cj,eT,jE,jD,Gs,oy,ah,ai];refine Gi (qh x (rm a)) ?_;by_cases q:x∈rm a
  .rw[decide_eq_true q];rfl
  .rw[decide_eq_false q];rfl
 .have:=F2 hb1 ha1;by_cases q:mf b a
  .rw[decide_eq_true (this.2 q)];exact h q
  .rw[decide_eq_false λz=>q (this.1 z)];exact he q
end
section
variable {n:Nat}{hs:List Hn}
structure HBd (h:Hn):Prop where
 s:-10000<h.s/\h.s<10000
 e:-10000<h.e/\h.e<10000
inductive JH (σ:bp)(n:Nat)(c:List Row)(hs:List Hn)(i:Nat):Vs->bp->Prop
 |mk (a3 a4 a5 a6 a7 a8 a9:Option V):lF c.length (hs.take i)->JH σ n c hs i [aa (.loc n),aa (.loc σ.length),aa (.int c.length),a3,a4,a5,a6,a7,a8,a9] (σ++[.list ((hs.take i).map oI)])
inductive JG (σ:bp)(n:Nat)(c:List Row)(hs:List Hn)(i:Nat)(a:Hn)(j:Nat):Vs->bp->Prop
 |mk (a9:Option V):(∀b∈(hs.take i).take j,mf b a)->JG σ n c hs i a j [aa (.loc n),aa (.loc σ.length),aa (.int c.length),aa (.int a.s),aa (.int a.e),aa (.int a.h),aa (.int a.d),aa (.bool a.f),aa (oI a),a9] (σ++[.list ((hs.take i).map oI)])
theorem Oz (u:g9 σ n c hs)(hc:c.length<300)(hh:hs.length<900)(GX:∀h∈hs,HBd h)(h:lF c.length hs->∀τ,Q (.bool af) (σ++τ))(he:¬lF c.length hs->∀τ,Q (.bool ag) (σ++τ)):Wp (cl (d+1) 37 [.loc n] σ) Q E:=by
 refine call gQ 9 rfl rfl ?_;dsimp only[gQ,jL,cW,cq,dX,eH,dR,eO,dT,ew,fJ,fH,dF,dv,cZ,mS,i6,i5,Gs,xe,Ie,JX,d5,d6,d4,gq,az,aD,ah,aF,aG];refine⟨lm rfl,je ((u.app _).dm 2 rfl) (Aj (u.app _).c) ⟨show _<100000 by rw[ak];exact FJ hc,lm rfl,rfl,?_⟩⟩;rw[ak];have u1:=λl:List V=>u.app [.list l];refine Gi ((u1 _).dm 5 rfl) (Cq (u1 _).h ?_);refine j9 (hs.map hV) (JH σ n c hs) ?_ ?_ ?_ 1000 0 _ _ (bL _) (by rw[ak];exact FO hh) (.mk _ _ _ _ _ _ _ ⟨λU q=>absurd q ba,.nil⟩)
 .intro i vs τ I;induction I with|mk=>exact(u1 _).h
 .intro i v vs τ hv I;induction I with|mk a3 a4 a5 a6 a7 a8 a9 GQ=>?_
  (refine dB (nE hv) λa ha z1=>?_;subst z1);have hm:a∈hs:=aN ha;have hb:=GX a hm;refine Gi (a:=[aa (.loc n),aa (.loc σ.length),aa (.int c.length),aa (.int a.s),aa (.int a.e),aa (.int a.h),aa (.int a.d),aa (.bool a.f),a8,a9]) rfl (fF _ _ _ _ _ _ _ _ _ ?_);have no:¬lF c.length hs->∀τ,Q (.bool ag) (σ++τ):=he;dsimp only[cZ,dv,eu];refine kZ ?_;dsimp only[xq,dT,ew,cq,JV,Gs,qU,KR,ah,ai,aF,aG];rw[Jz hb.s hb.e];refine⟨by rw[ak,decide_eq_true (p:=(rm a).length<lim) (show _<100000 by have:=xV hb.s hb.e;exact uk this)];rfl,Gi (CI V.int V.int λx U=>rfl) ⟨show _<100000 by have:=xV hb.s hb.e;rw[ak];exact uk this,?_⟩⟩;have rp:Ef c.length a->wx G (cl d) 1000 E (.jv (.n 9) (.v 1) F7) [aa (.loc n),aa (.loc σ.length),aa (.int c.length),aa (.int a.s),aa (.int a.e),aa (.int a.h),aa (.int a.d),aa (.bool a.f),aa (oI a),a9] (σ++[.list ((hs.take i).map oI)]) (λvs cD=>iP G (cl d) 1000 E [.expr (.app (.v 1) (.v 8))] vs cD (JH σ n c hs (i+1)) (λv U σ=>Q v σ)) (λv U σ=>Q v σ):=λq1=>by
   dsimp only[cq,md,el,fH,dv,cZ,Gs,zM,ah,ai];refine Cq (gE _ _) ?_;refine j9 ((hs.take i).map oI) (JG σ n c hs i a) ?_ ?_ ?_ 1000 0 _ _ (bL _) (by rw[ak,cv];exact Vg hh) (.mk _ λU q=>absurd q ba)
   .intro j vs τ I;induction I with|mk=>exact gE _ _
   .intro j v vs τ hv I;induction I with|mk a9 hj=>?_
    (refine dB (nE hv) λb CC z1=>?_;subst z1);have hbm:b∈hs.take i:=aN CC;have Ee:=GX b (pH hbm);refine Gi rfl (fF _ _ _ _ _ _ _ _ _ (F6 (xV Ee.s Ee.e) q1.1.2.1 (GQ.1 b hbm).1.2.1 (λq=>JG.mk _ λx hx=>?_) λq=>no (λz=>q ((lF.at ha z).2 b hbm)) _));rw[yh,CC]at hx;refine bZ (bg.1 hx) (λhx=>?_) λhx=>?_
    .exact hj x hx
    .rw[show x=b from au.1 hx];exact q
   .intro vs τ I;induction I with|mk a9 hj=>?_
    rw[ak,jR]at hj;dsimp only[Gs,ah,ai];refine⟨qm (gE _ _),Li (gE _ _) ⟨show _<100000 by rw[ak,cv];exact Vf hh,?_⟩⟩;rw[sE,<- take_succ oI ha];exact JH.mk _ _ _ _ _ _ _ (lF.snoc ha GQ q1 hj)
  rw[dW];refine aah (A:=λcD=>iP G (cl d) 1000 E [.ret (.k (.bool ag))] _ cD _ _) (B:=λcD=>iP G (cl d) 1000 E [] _ cD _ _) (λq=>rp q) λq=>?_;exact no (λz=>q (lF.at ha z).1) _
 .intro vs τ I;induction I with|mk a3 a4 a5 a6 a7 a8 a9 GQ=>?_
  rw[ak,jR]at GQ;exact h GQ _
end
theorem vh {b:Int->Bool}:∀ {l:List (Int×V)},(∀q∈l,b q.1=af)->ox b l=af
 |[]=>λU=>rfl
 |q::l=>λh=>by refine(?_:(b q.1&&ox b l)=af);rw[h q aR,vh λr hr=>h r (bf _ hr)];rfl
theorem Ik {G:List V}{Φ:Nat->List V->bp->R V}{W:Nat}{dd c:X}
  (h:we G Φ vs E dd [] σ λx cD=>∃n l,x=.loc n/\cD[n]?=aa (.cH l)/\gn c=af/\l.length<lim/\(∀q∈l,R.val (ev G Φ (vs.set i (aa (.int q.1))) c [] cD)=aa (.bool ag))/\A (vs.set i ae) cD) :
  wx G Φ W E (.x9 i dd c) vs σ A K:=by
 refine Wp.bind (Wp.imp (cz G Φ vs E dd [] σ _ h) λx cD h=>?_);(refine o25 h λn l z1 h1 h2 h3 h4 h5=>?_;try clear h;subst z1);dsimp only;rw[h1];dsimp only;rw[h2,decide_eq_true h3,vh λq hq=>by rw[h4 q hq]];exact h5
theorem Ir {G:List V}{Φ:Nat->List V->bp->R V}{o a:X}{n:Nat}{l:List (Int×V)}(hn:σ[n]?=aa (.cH l))
  (h:we G Φ vs E o cs σ λx cD=>x=.loc n/\cD=σ/\we G Φ vs E a cs σ λy cD=>cD=σ/\aI y λi=>Q ((j2 l i).getD .none) σ):we G Φ vs E (.zV o a) cs σ Q:=by
 refine Wp.bind (Wp.imp (cz G Φ vs E o cs σ _ h) λx cD h=>?_);obtain⟨rfl,rfl,h⟩:=h;have hD:isD cD (.loc n)=af:=by refine(?_:(match cD[n]? with|some (.cH _)=>af|_=>ag)=af);rw[hn]
 rw[if_pos hD];refine Wp.bind (Wp.imp (cz G Φ vs E a cs _ _ h) λy cD h=>?_);obtain⟨rfl,h⟩:=h;induction y using V.casesOn with
 |int i =>dsimp only;rw[hn];exact h
 |_=>exact(h:False).elim
theorem Z4 {s:cY}{x:Int}(σ:bp)(hl:s.length<50000)(h:s[s.length-1]?=aa x):hK σ (lV s) (.int (-1))=aa (wV x):=by
 have hp:=(aA.1 h).1;refine(?_:(place (-1) (s.map wV).length).bind (λj=>(s.map wV)[j]?)=_);rw[qY];have e:place (-1) s.length=aa (s.length-1):=by unfold place;rw[if_neg (by decide),if_neg (by decide),if_pos (Vl hp)];congr 1;exact Vk hp
 rw[e];refine(?_:(s.map wV)[s.length-1]?=_);rw[cy,h];rfl
section
variable {n:Nat}{hs:List Hn}
theorem Gl {f:Fd}{q:Int×cY}(h:q∈f):∃s,look f q.1=aa s:=by
 induction f with
 |nil=>exact absurd h ba
 |cons a f ih =>
  obtain⟨a,t⟩:=a;refine(?_:∃s,(if a=q.1 then aa t else look f q.1)=aa s);by_cases e:a=q.1
  .exact⟨t,if_pos e⟩
  .rw[if_neg e];refine bZ (aM.1 h) (λh=>?_) λh=>?_
   .exact absurd (by rw[h]) e
   .exact ih h
theorem y5   {s:cY}{l:Fd}(hr:c[p.toNat]?=aa r)(h:step c hs p s=aa l):∃a,dS r p s=aa a:=by
 rw[step_at hr]at h;induction e:dS r p s with
 |none=>rw[e]at h;exact nomatch h
 |some a=>exact⟨a,rfl⟩
theorem Ft  {s:cY}{a:Fd}(ho:r.1<85)(e:r.1=79)(h:dS r p s=aa a):∃g,s[s.length-1]?=aa g/\0<=g:=by
 have hk:=wI e 2 (by decide +kernel);by_cases hn:s.length<fP r
 .rw[Wlo hn]at h;exact nomatch h
 rw[Wre hn e]at h;by_cases q:(s.drop (s.length-fP r)).getD 0 0 = -1/\0<=(s.drop (s.length-fP r)).getD 1 0
 .have q2:=q.2;rw[bU,rG,hk]at q2;rw[hk]at hn;have hi:s.length-1<s.length:=by exact Vj hk hn
  refine⟨s[s.length-1],bA hi,?_⟩;rw[show s.length-2+1=s.length-1 by exact Vi hk hn hi,bA hi]at q2;exact q2
 .rw[if_neg q]at h;exact nomatch h
theorem uh (u:g9 σ n c hs)(hc:c.length<200)(hh:hs.length<900)(ho:∀r∈c,r.1<85)(hb:∀r∈c,∀g,r.2=aa g->g<1000000000)(GX:∀h∈hs,HBd h)
  (h:Lets c hs->∀τ,Q (.bool af) (σ++τ))(he:¬Lets c hs->∀τ,Q (.bool ag) (σ++τ)):Wp (cl (d+4) 41 [.loc n,fg] σ) Q E:=by
 refine call kF 2 rfl rfl ?_;dsimp only[kF,nW,cW,cq,cj,mC,i8,dy,dT,ew,eT,jE,jD,eu,dW,dF,dv,cZ,Gs,Tb,oy,P8,qS,d5,d6,d4,gq,ah,ai,aF,aG];refine Gu u (zm hc) ho hb (λq1 τ=>?_) λq1 τ=>?_
 .dsimp only[oy,qS,MU,nT];refine Oz (u.app τ) (zm hc) hh GX (λq2 Ad=>?_) λq2 Ad=>?_
  .dsimp only[oy,qS,MU,nT];have v:Valid c hs:=⟨q1,q2.1,q2.2⟩;refine Fx _ _ (A3 ((u.app τ).app Ad) hc hh ho v (λf γ gs tg rg aaZ fl=>?_) λq3 τ3=>?_)
   .have eL:∀X:bp,σ++τ++Ad++X=σ++(τ++Ad++X):=λX=>by rw[aV,aV,aV]
    generalize Cv:σ++τ++Ad=Nh at *;have u2:g9 (Nh++.cH (f.map (eD lV))::γ) n c hs:=by rw[<- Cv];exact((u.app τ).app Ad).app _
    have hd:(Nh++.cH (f.map (eD lV))::γ)[Nh.length]?=aa (.cH (f.map (eD lV))):=Ha rfl;have fin:Q (.bool af) (Nh++.cH (f.map (eD lV))::γ):=by rw[eL];exact h ⟨v,look f,gs⟩ _
    dsimp only[qS];refine Ik ?_;dsimp only[cq,Gs,ah,ai,aF,aG];refine⟨Nh.length,f.map (eD lV),rfl,hd,rfl,show _<100000 by rw[ak];exact qf fl,λq hq=>?_,fin⟩;(refine dB (bX.1 hq) λq' hq' z1=>?_;subst z1);obtain⟨s,sP⟩:=Gl hq';obtain⟨p0,p1⟩:=rg _ _ sP;refine dB (ny p0 p1) λr hr hm=>?_;obtain⟨_,l,hl,_⟩:=gs.c _ _ sP;obtain⟨a,hw⟩:=y5 hr hl;refine AJ (cz _ _ _ _ _ _ _ _ ?_);dsimp only[eD,cW,cq,cj,ij,cA,dR,eT,jE,jD,Gs,oy,ah,ai];refine QE (u2.dm 2 rfl) (u2.row p0 hr (Cc hc)) rfl (gB _ (ho r hm)) rfl (Gi (nq _ (ho r hm) 79 _ (by decide) rfl) (jn (λe=>?_) λe=>?_))
    .have hp:=tg _ _ sP;have hlen:s.length<50000:=aaZ _ _ sP;refine dB (Ft (ho r hm) e hw) λg e1 e2=>?_;have e3:look f g=aa s:=by have:=hp (s.length-1) g e1 e2;rwa[show s.length-1+1=s.length by have:=(aA.1 e1).1;exact Vh this,jR]at this
     have gp:hK (Nh++.cH (f.map (eD lV))::γ) (.loc Nh.length) (.int q'.1)=aa (lV s):=(Ke _ hd).trans ((iH lV _ f).trans (by rw[sP];rfl));refine Ir hd ?_;dsimp only[cW,cq,AA,cA,Gs,PR,ah,ai];refine⟨rfl,rfl,je gp (Z4 _ hlen e1) ?_⟩;rw[Nl e2];refine⟨rfl,?_⟩;dsimp only[PR];rw[iH,e3];exact je gp (lne _ s s) (by rw[decide_eq_true rfl];rfl)
    .rw[decide_eq_false e]
   .have:=he (λq=>q3 q.2) (τ++Ad++τ3);rw[aV,aV,<- aV τ];exact this
  .rw[aV];exact he (λq=>q2 ⟨q.1.h,q.1.pr⟩) _
 .exact he (λq=>q1 q.1.arg) _
end
theorem wJ {α β:Type}(f:α->β):∀(l:List α) (i:Nat),(l.eraseIdx i).map f=(l.map f).eraseIdx i
 |[],_=>rfl
 |_::_,0=>rfl
 |a::l,i+1=>congrArg (λr=>f a::r) (wJ f l i)
structure sX (t:Nat)(c:List Row)(hs:List Hn):Prop where
 pos:0<c.length
 len:c.length<200
 hl:hs.length<900
 op:∀r∈c,r.1<85
 g:∀r∈c,∀g,r.2=aa g->-(1000*(t+1))<g/\g<1000*(t+1)
 s:∀h∈hs,-(1000*(t+1))<h.s/\h.s<1000*(t+1)
 e:∀h∈hs,-(1000*(t+1))<h.e/\h.e<1000*(t+1)
theorem g9.Q2 {n:Nat}{hs:List Hn}(u:g9 σ n c hs)(c':List Row):g9 (σ.set (n+1) (.list (c'.map cV))) n c' hs:=by
 have hl:=(aA.1 u.c).1;refine⟨?_,?_,?_⟩
 .rw[dZ Ve];exact u.i
 .rw[gw hl]
 .rw[dZ Vd];exact u.h
theorem g9.N5 {n:Nat}{hs:List Hn}(u:g9 σ n c hs)(sP:List Hn):g9 (σ.set (n+2) (.list (sP.map hV))) n c sP:=by
 have hl:=(aA.1 u.h).1;refine⟨?_,?_,?_⟩
 .rw[dZ Vc];exact u.i
 .rw[dZ Vb];exact u.c
 .rw[gw hl]
theorem sX.up  {hs:List Hn}(h:sX t c hs):sX (t+1) c hs :=
 ⟨h.pos,h.len,h.hl,h.op,λr hr g e=>by have:=h.g r hr g e;push_cast;exact FG this,λa ha=>by have:=h.s a ha;push_cast;exact FG this,λa ha=>by have:=h.e a ha;push_cast;exact FG this⟩
theorem sX.set  {hs:List Hn}(h:sX t c hs)(i:Nat)(r:Row)(ho:r.1<85)(hg:∀g,r.2=aa g->-(1000*(t+2))<g/\g<1000*(t+2)):sX (t+1) (c.set i r) hs:=by
 have u:=h.up;have e:∀q∈c.set i r,q∈c\/q=r:=λq hq=>lY hq;refine⟨by rw[bD];exact u.pos,by rw[bD];exact u.len,u.hl,λq hq=>?_,λq hq g e2=>?_,u.s,u.e⟩
 .refine bZ (e q hq) (λh=>?_) λh=>?_
  .exact u.op q h
  .rw[h];exact ho
 .refine bZ (e q hq) (λh=>?_) λh=>?_
  .exact u.g q h g e2
  .have:=hg g (h▸e2);push_cast;exact FH this
section
variable {k:Nat}{hs:List Hn}
theorem g9.dr {x':Dr}(u:g9 (eV x γ) (k+2) c hs):g9 (eV x' γ) (k+2) c hs:=⟨u.i,u.c,u.h⟩
theorem setC (u:g9 (eV x γ) (k+2) c hs)(hc:c.length<200)(h0:0<=pc)(h1:pc<c.length)(r:Row){v:V}(hv:v=cV r){A:bp->Prop}(h:g9 (eV x (γ.set (k+1) (.list ((c.set pc.toNat r).map cV)))) (k+2) (c.set pc.toNat r) hs->A (eV x (γ.set (k+1) (.list ((c.set pc.toNat r).map cV))))) :
  Gt (o6 (eV x γ) (.loc (k+2+1)) (.int pc) v) A:=by
 refine Gi (E9 v u.c h0 (by rw[ak];exact h1) (by rw[ak];exact uj hc)) ?_;have e:(c.map cV).set pc.toNat v=(c.set pc.toNat r).map cV:=by rw[hv,BC]
 rw[e];exact h (u.Q2 _)
def Ac (k t:Nat)(Q:V->bp->Prop):Prop:=∀x γ c hs,x.Ok->g9 (eV x γ) (k+2) c hs->sX (t+1) c hs->Q .none (eV x γ)
def bb1:List S:=[.asg 7 (.call 23 [.v 0,.len (.v 2)]),
  .eX (.dm (.v 1) 2) (.v 4) (.tup [.v 7,.ite (.cmp (.sub (.sub (.v 2) (.v 7)) (.k (.int 1))) [.eq] [.k (.str (st "-"))]) (.k (.none)) (.ite (.cmp (.v 6) [.is] [.k (.none)]) (.call 23 [.v 0,.k (.int 3)]) (.v 6))])]
theorem PA (hx:x.Ok)(u:g9 (eV x γ) (k+2) c hs)(ok:sX t c hs)(h0:0<=pc)(h1:pc<c.length)(hr:r∈c)(h:Ac k t Q)  :
  iP G (cl (d+1)) 1000 E bb1 [aa (.loc 1),aa (.loc (k+2)),aa fg,v3,aa (.int pc),v5,aa (oV r.2),v7,v8,v9,v10] (eV x γ) (λU σ=>Q .none σ) K:=by
 unfold bb1;dsimp only[cW,cq,dX,cj,i9,cA,dR,dy,eO,dT,ew,eT,eu,hJ,dv,cZ,Gs,Tb,P8,az,aD,ah,ai,aF,aG];have hl:=ok.len;refine Gi (rfl:items (eV x γ) fg=aa (tab.map xN)) ⟨show(tab.map xN).length<100000 by rw[ak,jB];exact Jk,jX hx (by rw[ak,jB];exact Va) λo x1 o0 o1 ru=>?_⟩;rw[ak,jB]at o1;obtain⟨o,rfl⟩:=eZ o0;have ho:o<85:=by exact U9 o1
 have u1:g9 (eV x1 γ) (k+2) c hs:=u.dr;have hg:=ok.g r hr;refine HY (gB _ ho) rfl (Qh _ ho 0 _ (by decide) rfl) (jn (λe=>?_) λe=>?_)
 .exact⟨lm rfl,Gi (u1.dm 2 rfl) (setC u1 hl h0 h1 (o,ae) rfl λu2=>h _ _ _ _ ru u2 (ok.set _ _ ho nofun))⟩
 .induction e2:r.2 with
  |none =>dsimp only[oV];refine jX ru (by decide) λg x2 g0 g1 rq=>?_;have u2:g9 (eV x2 γ) (k+2) c hs:=u.dr;exact⟨lm rfl,Gi (u2.dm 2 rfl) (setC u2 hl h0 h1 (o,aa g) rfl λu3=>h _ _ _ _ rq u3 (ok.set _ _ ho λg' q=>by obtain rfl:=aj q;exact U8 g0 g1))⟩
  |some g =>have:=hg g e2;dsimp only[oV];exact⟨lm rfl,Gi (u1.dm 2 rfl) (setC u1 hl h0 h1 (o,aa g) rfl λu3=>h _ _ _ _ ru u3 (ok.set _ _ ho λg' q=>by obtain rfl:=aj q;exact oK this))⟩
noncomputable def bb2:List S:=[.eX (.dm (.v 1) 2) (.v 4) (.tup [.v 5,.bin .add ag (.v 6) (.sub (.lst ag [.k (.int 1),.bin .sub ag (.k (.int 0)) (.k (.int 1)),.k (.int 2)]) (.call 23 [.v 0,.k (.int 3)]))])]
theorem Pz (hx:x.Ok)(u:g9 (eV x γ) (k+2) c hs)(ok:sX t c hs)(h0:0<=pc)(h1:pc<c.length)(hr:r∈c){g:Int}(e:r.2=aa g)(h:Ac k t Q)  :
  iP G (cl (d+1)) 1000 E bb2 [aa (.loc 1),aa (.loc (k+2)),v2,v3,aa (.int pc),aa (.int r.1),aa (.int g),v7,v8,v9,v10] (eV x γ) (λU σ=>Q .none σ) K:=by
 unfold bb2;dsimp only[cW,cq,dX,eH,eP,cA,dR,dy,dT,ew,hJ,dv,cZ,Gs,Qy,qU,az,aD,ah,ai];have hl:=ok.len;have hg:=ok.g r hr g e;have ho:=ok.op r hr;refine⟨lm rfl,jX hx (by decide) λj x1 j0 j1 ru=>?_⟩;have u1:g9 (eV x1 γ) (k+2) c hs:=u.dr;have fin:∀z:Int,-1<=z/\z<=2->Gt (yd (eV x1 γ) (.loc (k+2)) 2) λz_1=>Gt (o6 (eV x1 γ) z_1 (.int pc) (.tup [.int r.1,.int (g+z)])) λσ=>Q .none σ:=λz hz =>
  Gi (u1.dm 2 rfl) (setC u1 hl h0 h1 (r.1,aa (g+z)) rfl λu3=>h _ _ _ _ ru u3 (ok.set _ _ ho λg' q=>by obtain rfl:=aj q;exact U7 hg hz))
 have three:j=0\/j=1\/j=2:=by exact U6 j0 j1
 rcases three with rfl|rfl|rfl
 .exact Gi (a:=V.int 1) rfl ⟨lm rfl,fin 1 (by decide)⟩
 .exact Gi (a:=V.int (0-1)) rfl ⟨lm rfl,fin (0-1) (by decide)⟩
 .exact Gi (a:=V.int 2) rfl ⟨lm rfl,fin 2 (by decide)⟩
noncomputable def bb3:List S:=[.eX (.dm (.v 1) 2) (.v 4) (.tup [.v 5,.call 23 [.v 0,.bin .add ag (.len (.dm (.v 1) 2)) (.k (.int 1))]])]
theorem Py (hx:x.Ok)(u:g9 (eV x γ) (k+2) c hs)(ok:sX t c hs)(h0:0<=pc)(h1:pc<c.length)(hr:r∈c)(h:Ac k t Q)  :
  iP G (cl (d+1)) 1000 E bb3 [aa (.loc 1),aa (.loc (k+2)),v2,v3,aa (.int pc),aa (.int r.1),v6,v7,v8,v9,v10] (eV x γ) (λU σ=>Q .none σ) K:=by
 unfold bb3;dsimp only[cW,cq,dX,eP,dR,dy,eO,dT,ew,hJ,dv,cZ,Gs,Ig,az,aD,ah,ai];have hl:=ok.len;have ho:=ok.op r hr;refine je (u.dm 2 rfl) (Aj u.c) ⟨show _<100000 by rw[ak];exact uj hl,?_⟩;rw[ak];refine jX hx (U4 h0 h1) λg x1 g0 g1 ru=>?_;have u1:g9 (eV x1 γ) (k+2) c hs:=u.dr;exact⟨lm rfl,Gi (u1.dm 2 rfl) (setC u1 hl h0 h1 (r.1,aa g) rfl λu3=>h _ _ _ _ ru u3 (ok.set _ _ ho λg' q=>by obtain rfl:=aj q;exact U3 hl g0 g1))⟩
noncomputable def bb5:List S:=[.expr (.um (.dm (.v 1) 2) (.v 4))]
theorem Pw (hx:x.Ok)(u:g9 (eV x γ) (k+2) c hs)(ok:sX t c hs)(h0:0<=pc)(h1:pc<c.length)(hp:1<c.length)(h:Ac k t Q)  :
  iP G (cl (d+1)) 1000 E bb5 [v0,aa (.loc (k+2)),v2,v3,aa (.int pc),v5,v6,v7,v8,v9,v10] (eV x γ) (λU σ=>Q .none σ) K:=by
 unfold bb5;dsimp only[cq,dR,xr,el,dv,cZ,Gs,PR,ah,ai];have hl:=ok.len;refine dB (ny h0 h1) λr hr hm=>?_;have hi:pc.toNat<c.length:=by exact U2 h1 hp
 refine Gi (u.dm 2 rfl) ⟨qm u.c,Li u.c (Gi (a:=cV r) (by rw[cy,hr];rfl) ⟨⟨show _<100000 by rw[ak];exact uj hl,h0⟩,?_⟩)⟩;have e:(c.map cV).eraseIdx pc.toNat=(c.eraseIdx pc.toNat).map cV:=(wJ cV c pc.toNat).symm;rw[e];have Bj:(c.eraseIdx pc.toNat).length=c.length-1:=List.length_eraseIdx_of_lt hi;have mem:∀q∈c.eraseIdx pc.toNat,q∈c:=λq hq=>List.mem_of_mem_eraseIdx hq;have up:=ok.up;exact h x (γ.set (k+1) (.list ((c.eraseIdx pc.toNat).map cV))) (c.eraseIdx pc.toNat) hs hx (u.Q2 _) ⟨by exact U0 hp Bj,by exact UZ hp hl Bj,up.hl,λq hq=>up.op q (mem q hq),λq hq=>up.g q (mem q hq),up.s,up.e⟩
end
section
variable {k:Nat}{hs:List Hn}
noncomputable def bb6:List S:=[.asg 9 (.call 23 [.v 0,.len (.dm (.v 1) 2)]),
    .fW [.sub (.dm (.v 1) 2) (.v 4),.sub (.dm (.v 1) 2) (.v 9)] (.tup [.sub (.dm (.v 1) 2) (.v 9),.sub (.dm (.v 1) 2) (.v 4)])]
theorem Pt (hx:x.Ok)(u:g9 (eV x γ) (k+2) c hs)(ok:sX t c hs)(h0:0<=pc)(h1:pc<c.length)(h:Ac k t Q)  :
  iP G (cl (d+1)) 1000 E bb6 [aa (.loc 1),aa (.loc (k+2)),v2,v3,aa (.int pc),v5,v6,v7,v8,v9,v10] (eV x γ) (λU σ=>Q .none σ) K:=by
 unfold bb6;dsimp only[cq,dX,cA,dR,dy,eO,dT,ew,eu,fJ,dv,cZ,aaD,i6,i5,Gs,xe,az,aD,ah,ai,aF,aG];have hl:=ok.len;have hp:=ok.pos;refine je (u.dm 2 rfl) (Aj u.c) ⟨show _<100000 by rw[ak];exact uj hl,?_⟩;rw[ak];refine jX hx (FI hp) λg x1 g0 g1 ru=>?_;have u1:g9 (eV x1 γ) (k+2) c hs:=u.dr;refine dB (ny h0 h1) λr hr hm=>?_;refine dB (ny g0 g1) λq hq DI=>?_;have up:=ok.up;refine Gi4 (u1.dm 2 rfl) (u1.row g0 hq (Cc hl)) (u1.dm 2 rfl) (u1.row h0 hr (Cc hl)) ⟨lm rfl,rfl,Gi (u1.dm 2 rfl) (setC u1 hl h0 h1 q rfl λu2=>Gi (u2.dm 2 rfl) (setC u2 (by rw[bD];exact hl) g0 (by rw[bD];exact g1) r rfl λu3=>?_))⟩;refine h _ _ _ _ ru u3 ?_;have o1:sX (t+1) (c.set pc.toNat q) hs:=ok.set _ _ (ok.op q DI) λg e=>by have:=ok.g q DI g e;exact oK this
 have e:∀z∈(c.set pc.toNat q).set g.toNat r,z∈c.set pc.toNat q\/z=r:=λz hz=>lY hz;refine⟨by rw[bD];exact o1.pos,by rw[bD];exact o1.len,o1.hl,λz hz=>?_,λz hz g e2=>?_,o1.s,o1.e⟩
 .rcases e z hz with h|h
  .exact o1.op z h
  .rw[h];exact up.op r hm
 .rcases e z hz with h|h
  .exact o1.g z h g e2
  .exact up.g r hm g (h▸e2)
theorem sX.N5   (h:sX t c hs)(i:Nat)(a:Hn)(sP:-(1000*(t+2))<a.s/\a.s<1000*(t+2))(he:-(1000*(t+2))<a.e/\a.e<1000*(t+2)):sX (t+1) c (hs.set i a):=by
 have u:=h.up;have e:∀q∈hs.set i a,q∈hs\/q=a:=λq hq=>lY hq;refine⟨u.pos,u.len,by rw[bD];exact u.hl,u.op,u.g,λq hq=>?_,λq hq=>?_⟩
 .rcases e q hq with h|h
  .exact u.s q h
  .rw[h];push_cast;exact FH sP
 .rcases e q hq with h|h
  .exact u.e q h
  .rw[h];push_cast;exact FH he
noncomputable def hL (a:Hn):List V:=[.int a.s,.int a.e,.int a.h,.int a.d,.bool a.f]
theorem FV (hx:x.Ok)(u:g9 (eV x γ) (k+2) c hs)(ok:sX t c hs)(a:Hn){at':Int}(a0:0<=at')(a1:at'<hs.length)(sP:-(1000*(t+2))<a.s/\a.s<1000*(t+2))(he:-(1000*(t+2))<a.e/\a.e<1000*(t+2))(h:Ac k t Q){L:Nat}(Bl:L=(eV x γ).length)  :
  iP G (cl (d+1)) 1000 E [.eX (.dm (.v 1) 5) (.v 8) (.tup [.sub (.v 10) (.k (.int 0)),.sub (.v 10) (.k (.int 1)),.sub (.v 10) (.k (.int 2)),.sub (.v 10) (.k (.int 3)),.sub (.v 10) (.k (.int 4))])] [v0,aa (.loc (k+2)),v2,v3,v4,v5,v6,v7,aa (.int at'),v9,aa (.loc L)] (eV x γ++[O.list (hL a)]) (λU σ=>Q .none σ) K:=by
 subst Bl;dsimp only[cW,cq,dX,cA,dR,dT,ew,hJ,dv,cZ,Gs,az,aD,ah,ai];have hh:=ok.hl;have u1:=u.app [O.list (hL a)];have g:∀i,hK (eV x γ++[O.list (hL a)]) (.loc (eV x γ).length) (.int i)=hK (eV x γ++[O.list (hL a)]) (.lst (hL a)) (.int i):=λi=>DK i (gE _ _);refine QE ((g 0).trans rfl) ((g 1).trans rfl) ((g 2).trans rfl) ((g 3).trans rfl) ((g 4).trans rfl) ⟨lm rfl,je (u1.dm 5 rfl) (E9 _ u1.h a0 (by rw[ak];exact a1) (by rw[ak];exact zo hh)) ?_⟩;have e:(hs.map hV).set at'.toNat (hV a)=(hs.set at'.toNat a).map hV:=by rw[BC]
 refine(?_:Q .none ((eV x γ++[O.list (hL a)]).set (k+2+2) (O.list ((hs.map hV).set at'.toNat (hV a)))));rw[e];exact h x ((γ++[O.list (hL a)]).set (k+2) (O.list ((hs.set at'.toNat a).map hV))) c _ hx (u1.N5 _) (ok.N5 _ _ sP he)
end
section
variable {k:Nat}{hs:List Hn}
noncomputable def HK:List S:=[.eX (.dm (.v 1) 5) (.v 8) (.tup [.sub (.v 10) (.k (.int 0)),.sub (.v 10) (.k (.int 1)),.sub (.v 10) (.k (.int 2)),.sub (.v 10) (.k (.int 3)),.sub (.v 10) (.k (.int 4))])]
noncomputable def bb4 (tl:List S):List S:=.fW [.n 8,.n 9] (.tup [.call 23 [.v 0,.len (.dm (.v 1) 5)],.call 23 [.v 0,.k (.int 5)]]) ::
   .asg 10 (.tolist (.sub (.dm (.v 1) 5) (.v 8))) ::
   .eX (.v 10) (.v 9) (.ite (.cmp (.v 9) [.eq] [.k (.int 4)]) (.not (.sub (.v 10) (.v 9))) (.bin .sub ag (.bin .add ag (.sub (.v 10) (.v 9)) (.k (.int 1))) (.bin .mul ag (.k (.int 2)) (.call 23 [.v 0,.k (.int 2)]))))::tl
theorem Px (hx:x.Ok)(u:g9 (eV x γ) (k+2) c hs)(ok:sX t c hs)(pS:0<hs.length)(h:Ac k t Q)  :
  iP G (cl (d+1)) 1000 E (bb4 HK) [aa (.loc 1),aa (.loc (k+2)),v2,v3,v4,v5,v6,v7,v8,v9,v10] (eV x γ) (λU σ=>Q .none σ) K:=by
 have hz:∀(x:Dr) (a:Hn) (at':Int) (v9:Option V),x.Ok->g9 (eV x γ) (k+2) c hs->0<=at'->at'<hs.length->(-(1000*((t:Int)+2))<a.s/\a.s<1000*(t+2))->(-(1000*((t:Int)+2))<a.e/\a.e<1000*(t+2))->∀L,L=(eV x γ).length ->
   iP G (cl (d+1)) 1000 E HK [aa (.loc 1),aa (.loc (k+2)),v2,v3,v4,v5,v6,v7,aa (.int at'),v9,aa (.loc L)] (eV x γ++[O.list (hL a)]) (λU σ=>Q .none σ) K :=
  λx a at' v9 hx u a0 a1 h1 h2 L Bl=>FV hx u ok a a0 a1 h1 h2 h Bl
 generalize HK=tl at *;unfold bb4;dsimp only[cW,cq,dX,eP,cj,i8,i9,cA,dR,dy,eO,C7,dT,ew,eT,eu,fJ,hJ,cZ,mS,i6,i5,Gs,Tb,xe,Ie,az,aD,ah,ai,aF,aG];have hh:=ok.hl;refine je (u.dm 5 rfl) (Aj u.h) ⟨show _<100000 by rw[ak];exact zo hh,?_⟩;rw[ak];refine jX hx (FI pS) λat' x1 a0 a1 ru=>jX ru (by decide) λsp x2 s0 s1 rq=>⟨lm rfl,rfl,?_⟩;have u2:g9 (eV x2 γ) (k+2) c hs:=u.dr;have hi:at'.toNat<hs.length:=by exact U5 pS a1
 have hg:hK (eV x2 γ) (.loc (k+2+2)) (.int at')=aa (hV hs[at'.toNat]):=by rw[DK _ u2.h,zQ _ a0 (by rw[ak];exact a1) (by rw[ak];exact zo hh),cy,bA hi];rfl
 have hm:hs[at'.toNat]∈hs:=vn hi;generalize hs[at'.toNat]=a at *;have b1:=ok.s a hm;have b2:=ok.e a hm;refine je (u2.dm 5 rfl) hg ?_;dsimp only[hV,Gs,xe,AO,az,aD];refine⟨lm rfl,?_⟩;have gk:∀(x:Dr) (i:Int),hK (eV x γ++[O.list (hL a)]) (.loc (eV x2 γ).length) (.int i)=hK (eV x γ++[O.list (hL a)]) (.lst (hL a)) (.int i):=λx i=>DK i (gE (eV x γ) _);have sk:∀(x:Dr) (a':Hn) (i:Int) (v:V),0<=i->i<5->(hL a).set i.toNat v=hL a'->∀{A:bp->Prop},A (eV x γ++[O.list (hL a')])->Gt (o6 (eV x γ++[O.list (hL a)]) (.loc (eV x2 γ).length) (.int i) v) A:=λx a' i v i0 i1 e A h=>by refine Gi (E9 v (gE (eV x γ) (.list (hL a))) i0 (by show i<5;exact i1) (show 5<100000 by decide)) ?_;rw[e,show(eV x2 γ).length=(eV x γ).length from rfl,sE];exact h
 have go:∀(x:Dr) (a':Hn) (i:Int) (v:V) (v9:Option V),x.Ok->g9 (eV x γ) (k+2) c hs->0<=i->i<5->(hL a).set i.toNat v=hL a'->(-(1000*((t:Int)+2))<a'.s/\a'.s<1000*(t+2))->(-(1000*((t:Int)+2))<a'.e/\a'.e<1000*(t+2)) ->
   Gt (o6 (eV x γ++[O.list (hL a)]) (.loc (eV x2 γ).length) (.int i) v) λσ=>iP G (cl (d+1)) 1000 E tl [aa (.loc 1),aa (.loc (k+2)),v2,v3,v4,v5,v6,v7,aa (.int at'),v9,aa (.loc (eV x2 γ).length)] σ (λU σ=>Q .none σ) K :=
  λx a' i v v9 hx u i0 i1 e h1 h2=>sk x a' i v i0 i1 e (hz x a' at' v9 hx u a0 a1 h1 h2 _ rfl)
 have acM:sp=0\/sp=1\/sp=2\/sp=3\/sp=4:=by exact UY s0 s1
 have tk:∀(i:Int) {P:V->bp->Prop},(∀(j:Int) (x3:Dr),0<=j->j<2->x3.Ok->(big 2&&big j)=af->P (.int j) (eV x3 γ++[O.list (hL a)]))->Wp (cl (d+1) 23 [.loc 1,.int 2] (eV x2 γ++[O.list (hL a)])) P E:=λi P h =>
  jX (γ:=γ++[O.list (hL a)]) rq (by decide) λj x3 j0 j1 Bg=>h j x3 j0 j1 Bg (by rw[mx (i:=j) (UW j0 j1)];rfl)
 rcases acM with rfl|rfl|rfl|rfl|rfl
 .refine Gi ((gk x2 0).trans rfl) (tk 0 λj x3 j0 j1 Bg hb=>⟨hb,go x3 ⟨a.s+1-2*j,a.e,a.h,a.d,a.f⟩ 0 _ _ Bg u2.dr (by decide) (by decide) rfl (by dsimp only;exact LO b1 j0 j1) (by dsimp only;exact oK b2)⟩)
 .refine Gi ((gk x2 1).trans rfl) (tk 0 λj x3 j0 j1 Bg hb=>⟨hb,go x3 ⟨a.s,a.e+1-2*j,a.h,a.d,a.f⟩ 1 _ _ Bg u2.dr (by decide) (by decide) rfl (by dsimp only;exact oK b1) (by dsimp only;exact LO b2 j0 j1)⟩)
 .refine Gi ((gk x2 2).trans rfl) (tk 0 λj x3 j0 j1 Bg hb=>⟨hb,go x3 ⟨a.s,a.e,a.h+1-2*j,a.d,a.f⟩ 2 _ _ Bg u2.dr (by decide) (by decide) rfl (by dsimp only;exact oK b1) (by dsimp only;exact oK b2)⟩)
 .refine Gi ((gk x2 3).trans rfl) (tk 0 λj x3 j0 j1 Bg hb=>⟨hb,go x3 ⟨a.s,a.e,a.h,a.d+1-2*j,a.f⟩ 3 _ _ Bg u2.dr (by decide) (by decide) rfl (by dsimp only;exact oK b1) (by dsimp only;exact oK b2)⟩)
 .refine Gi ((gk x2 4).trans rfl) (go x2 ⟨a.s,a.e,a.h,a.d,!a.f⟩ 4 _ _ rq u2 (by decide) (by decide) rfl (by dsimp only;exact oK b1) (by dsimp only;exact oK b2))
end
section
variable {k:Nat}{hs:List Hn}
noncomputable def be5 (b5 b6:List S):List S:=[.ite (.and [.cmp (.v 3) [.eq] [.k (.int 5)],.cmp (.len (.dm (.v 1) 2)) [.gt] [.k (.int 1)]]) b5 b6]
noncomputable def be4 (b4 e5:List S):List S:=[.ite (.and [.cmp (.v 3) [.eq] [.k (.int 4)],.cmp (.dm (.v 1) 5) [.ne] [.lst ag []]]) b4 e5]
def be3 (b3 e4:List S):List S:=[.ite (.and [.cmp (.v 3) [.eq] [.k (.int 3)],.cmp (.sub (.sub (.v 2) (.v 5)) (.k (.int 1))) [.eq] [.k (.str (st "t"))]]) b3 e4]
noncomputable def be2 (b2 e3:List S):List S:=[.ite (.and [.cmp (.v 3) [.eq] [.k (.int 2)],.cmp (.v 6) [.rX ()] [.k (.none)]]) b2 e3]
noncomputable def bbo (b1 e2:List S):List S:=[.fW [.n 3,.n 4] (.tup [.call 23 [.v 0,.k (.int 7)],.call 23 [.v 0,.len (.dm (.v 1) 2)]]),
 .fW [.n 5,.n 6] (.sub (.dm (.v 1) 2) (.v 4)),
 .ite (.cmp (.v 3) [.lt] [.k (.int 2)]) b1 e2]
theorem PM:vb=bbo bb1 (be2 bb2 (be3 bb3 (be4 (bb4 HK) (be5 bb5 bb6)))):=rfl
theorem Pm {b5 b6:List S}(u:g9 (eV x γ) (k+2) c hs)(hc:c.length<200)(h1:1<c.length->iP G (cl d) 1000 E b5 [aa (.loc 1),aa (.loc (k+2)),aa fg,aa (.int fo),aa (.int pc),aa (.int r.1),aa (oV r.2),ae,ae,ae,ae] (eV x γ) (λU σ=>Q .none σ) (λv U σ=>Q v σ))(h2:iP G (cl d) 1000 E b6 [aa (.loc 1),aa (.loc (k+2)),aa fg,aa (.int fo),aa (.int pc),aa (.int r.1),aa (oV r.2),ae,ae,ae,ae] (eV x γ) (λU σ=>Q .none σ) (λv U σ=>Q v σ)) :
  iP G (cl d) 1000 E (be5 b5 b6) [aa (.loc 1),aa (.loc (k+2)),aa fg,aa (.int fo),aa (.int pc),aa (.int r.1),aa (oV r.2),ae,ae,ae,ae] (eV x γ) (λU σ=>Q .none σ) (λv U σ=>Q v σ):=by
 unfold be5;dsimp only[cW,cq,cj,ij,dR,eO,eT,jE,jD,dW,dv,cZ,Gs,Tb,oy,Ld,AO,vA,ah,ai];exact vf (λU=>je (u.dm 2 rfl) (Aj u.c) ⟨show _<100000 by rw[ak];exact uj hc,vf (λe=>h1 (by rw[ak]at e;exact U1 e)) λU=>h2⟩) λU=>h2
theorem Pn {b5 b6:List S}(u:g9 (eV x γ) (k+2) c hs)(h1:0<hs.length->iP G (cl d) 1000 E b5 [aa (.loc 1),aa (.loc (k+2)),aa fg,aa (.int fo),aa (.int pc),aa (.int r.1),aa (oV r.2),ae,ae,ae,ae] (eV x γ) (λU σ=>Q .none σ) (λv U σ=>Q v σ))(h2:iP G (cl d) 1000 E b6 [aa (.loc 1),aa (.loc (k+2)),aa fg,aa (.int fo),aa (.int pc),aa (.int r.1),aa (oV r.2),ae,ae,ae,ae] (eV x γ) (λU σ=>Q .none σ) (λv U σ=>Q v σ)) :
  iP G (cl d) 1000 E (be4 b5 b6) [aa (.loc 1),aa (.loc (k+2)),aa fg,aa (.int fo),aa (.int pc),aa (.int r.1),aa (oV r.2),ae,ae,ae,ae] (eV x γ) (λU σ=>Q .none σ) (λv U σ=>Q v σ):=by
 unfold be4;dsimp only[cW,cq,eH,cj,ij,dR,dT,eT,jE,jD,dW,dv,cZ,Gs,Tb,oy,qU,AO,vA,aD,ah,ai];refine vf (λU=>Gi (u.dm 5 rfl) ⟨lm rfl,Gi (NY u.h (okH hs)) ?_⟩) λU=>h2;induction e:hs using List.casesOn with
 |nil=>exact h2
 |cons a l=>exact h1 (by rw[e];exact Nat.succ_pos _)
theorem Po {b5 b6:List S}(ho:r.1<85)(h1:iP G (cl d) 1000 E b5 [aa (.loc 1),aa (.loc (k+2)),aa fg,aa (.int fo),aa (.int pc),aa (.int r.1),aa (oV r.2),ae,ae,ae,ae] (eV x γ) (λU σ=>Q .none σ) (λv U σ=>Q v σ))(h2:iP G (cl d) 1000 E b6 [aa (.loc 1),aa (.loc (k+2)),aa fg,aa (.int fo),aa (.int pc),aa (.int r.1),aa (oV r.2),ae,ae,ae,ae] (eV x γ) (λU σ=>Q .none σ) (λv U σ=>Q v σ)) :
  iP G (cl d) 1000 E (be3 b5 b6) [aa (.loc 1),aa (.loc (k+2)),aa fg,aa (.int fo),aa (.int pc),aa (.int r.1),aa (oV r.2),ae,ae,ae,ae] (eV x γ) (λU σ=>Q .none σ) (λv U σ=>Q v σ):=by
 unfold be3;dsimp only[cW,cq,cj,ij,cA,eT,jE,jD,dW,dv,cZ,Gs,Tb,oy,AO,vA,ah,ai];exact vf (λU=>HY (gB _ ho) rfl (Qh _ ho 6 _ (by decide) rfl) (vf (λU=>h1) λU=>h2)) λU=>h2
theorem Pp {b5 b6:List S}(h1:∀g,r.2=aa g->iP G (cl d) 1000 E b5 [aa (.loc 1),aa (.loc (k+2)),aa fg,aa (.int fo),aa (.int pc),aa (.int r.1),aa (.int g),ae,ae,ae,ae] (eV x γ) (λU σ=>Q .none σ) (λv U σ=>Q v σ))(h2:iP G (cl d) 1000 E b6 [aa (.loc 1),aa (.loc (k+2)),aa fg,aa (.int fo),aa (.int pc),aa (.int r.1),aa (oV r.2),ae,ae,ae,ae] (eV x γ) (λU σ=>Q .none σ) (λv U σ=>Q v σ)) :
  iP G (cl d) 1000 E (be2 b5 b6) [aa (.loc 1),aa (.loc (k+2)),aa fg,aa (.int fo),aa (.int pc),aa (.int r.1),aa (oV r.2),ae,ae,ae,ae] (eV x γ) (λU σ=>Q .none σ) (λv U σ=>Q v σ):=by
 unfold be2;dsimp only[cW,cq,cj,ij,eT,jE,jD,dW,dv,cZ,Gs,Tb,oy,AO,QY,vA,ah,ai];refine vf (λU=>?_) λU=>h2;induction e:r.2 with
 |none=>rw[e]at h2;exact h2
 |some g=>exact h1 g e
theorem Ky (hx:x.Ok)(u:g9 (eV x γ) (k+2) c hs)(ok:sX t c hs)(h:Ac k t Q):Wp (cl (d+2) 35 [.loc 1,.loc (k+2),fg] (eV x γ)) Q E:=by
 refine call pj 8 rfl rfl ?_;dsimp only[pj];simp only[PM];have hl:=ok.len;have hp:=ok.pos;have hh:=ok.hl;have c1:=λ(x:Dr) hx (u:g9 (eV x γ) (k+2) c hs) pc h0 h1 r hr v3 v5 v7 v8 v9 v10=>PA (d:=d) (E:=E) (Q:=Q) hx u ok (pc:=pc) h0 h1 (r:=r) hr h (v3:=v3) (v5:=v5) (v7:=v7) (v8:=v8) (v9:=v9) (v10:=v10) (K:=λv U σ=>Q v σ);have e2:∀(x:Dr) (hx:x.Ok) (u:g9 (eV x γ) (k+2) c hs) (fo pc:Int) (h0:0<=pc) (h1:pc<c.length) (r:Row) (hr:r∈c),iP G (cl (d+1)) 1000 E (be2 bb2 (be3 bb3 (be4 (bb4 HK) (be5 bb5 bb6)))) [aa (.loc 1),aa (.loc (k+2)),aa fg,aa (.int fo),aa (.int pc),aa (.int r.1),aa (oV r.2),ae,ae,ae,ae] (eV x γ) (λU σ=>Q .none σ) (λv U σ=>Q v σ):=λx hx u fo pc h0 h1 r hr =>
  Pp (λg e=>Pz hx u ok h0 h1 hr e h) (Po (ok.op r hr) (Py hx u ok h0 h1 hr h) (Pn u (λpS=>Px hx u ok pS h) (Pm u hl (λhp=>Pw hx u ok h0 h1 hp h) (Pt hx u ok h0 h1 h))))
 generalize bb1=b1 at *;generalize be2 _ _=b2 at *;unfold bbo;dsimp only[cW,cq,dX,cj,cA,dR,dy,eO,dT,ew,eT,fJ,dW,dv,cZ,mS,i6,i5,Gs,Tb,xe,d5,d6,d4,gq,az,aD,ah,ai,aF,aG];refine jX hx (by decide) λfo x1 f0 f1 ru=>?_;have u1:g9 (eV x1 γ) (k+2) c hs:=u.dr;refine je (u1.dm 2 rfl) (Aj u1.c) ⟨show _<100000 by rw[ak];exact uj hl,?_⟩;rw[ak];refine jX ru (FI hp) λpc x2 p0 p1 rq=>⟨lm rfl,rfl,?_⟩;have u2:g9 (eV x2 γ) (k+2) c hs:=u.dr;refine dB (ny p0 p1) λr hr hm=>?_;refine je (u2.dm 2 rfl) (u2.row p0 hr (Cc hl)) ?_;dsimp only[cV,mS,i6,i5,Gs,xe,slt,az,aD,ah,ai,aF,aG];exact⟨rfl,jn (λU=>c1 x2 rq u2 pc p0 p1 r hm _ _ _ _ _ _) λU=>e2 x2 rq u2 fo pc p0 p1 r hm⟩
end
abbrev LT:=cY×Bool
noncomputable def ty (q:Int)(t:LT):cY:=if t.2=af then t.1++[-1,q]else t.1
def RT (T:List LT)(r:Row)(s nx:cY):Prop:=∀(p:Int) (Lf:List Int),∃l,dS (o7 Lf r) p s=aa l /\
 ∀e∈l,e=(p+1,nx)\/∃(i:Nat) (t:LT),r.2=aa (i:Int)/\T[i]?=aa t/\e=(Lf.getD i 0,ty (Lf.getD i 0) t)
theorem RT.mono {T:List LT}{s nx:cY}(h:RT T r s nx)(t:LT):RT (T++[t]) r s nx:=λp Lf=>by refine dB (h p Lf) λl h1 h2=>?_;refine⟨l,h1,λe he=>(h2 e he).imp id λ⟨i,t',a,b,c⟩=>⟨i,t',a,?_,c⟩⟩;rw[aZ (aA.1 b).1];exact b
def f9 (r:Row)(th:cY):Option cY:=if th.length<fP r\/(r.1≠6/\(th.drop (th.length-fP r)).any (jI (r.1==69))=af)\/kd r.1=6\/r.1=77\/r.1=78\/r.1=79 then ae else aa (th.take (th.length-fP r)++made r.1)
theorem zZ (s th:cY)(m:Nat)(h:m<=th.length):(s++th).take ((s++th).length-m)=s++th.take (th.length-m):=by rw[ao,show s.length+th.length-m=s.length+(th.length-m) by exact LR h,List.take_length_add_append]
theorem nY (s th:cY)(m:Nat)(h:m<=th.length):(s++th).drop ((s++th).length-m)=th.drop (th.length-m):=by rw[ao,show s.length+th.length-m=s.length+(th.length-m) by exact LR h,List.drop_length_add_append]
theorem RT.rel {T:List LT}{s th th':cY}(h:f9 r th=aa th'):RT T r (s++th) (s++th'):=by
 unfold f9 at h;by_cases q:th.length<fP r\/(r.1≠6/\(th.drop (th.length-fP r)).any (jI (r.1==69))=af)\/kd r.1=6\/r.1=77\/r.1=78\/r.1=79
 .rw[if_pos q]at h;exact nomatch h
 rw[if_neg q]at h;cases h;have q1:¬th.length<fP r:=λz=>q (.inl z);have q2:¬(r.1≠6/\(th.drop (th.length-fP r)).any (jI (r.1==69))=af):=λz=>q (.inr (.inl z));have q3:¬kd r.1=6:=λz=>q (.inr (.inr (.inl z)));have q4:r.1≠77/\r.1≠78/\r.1≠79:=⟨λz=>q (by simp[z]),λz=>q (by simp[z]),λz=>q (by simp[z])⟩;intro p Lf;have e:o7 Lf r=r:=if_neg q3;rw[e,Wel (by rw[ao];exact LQ q) q4.2.1 q4.2.2 q4.1,nY _ _ _ (LP q),if_neg q2,zZ _ _ _ (LP q)];refine⟨_,rfl,λe he=>.inl ?_⟩;unfold F8 jmp at he;rw[if_neg q3,aP]at he
 split at he
 .exact absurd he ba
 .rw[au.1 he,aV]
theorem RT.end_ {T:List LT}{s th th' nx:cY}(h:f9 r th=aa th')(hl:r.1∈xU):RT T r (s++th) nx:=by
 intro p Lf;unfold f9 at h;by_cases q:th.length<fP r\/(r.1≠6/\(th.drop (th.length-fP r)).any (jI (r.1==69))=af)\/kd r.1=6\/r.1=77\/r.1=78\/r.1=79
 .rw[if_pos q]at h;exact nomatch h
 have q1:¬th.length<fP r:=λz=>q (.inl z);have q2:¬(r.1≠6/\(th.drop (th.length-fP r)).any (jI (r.1==69))=af):=λz=>q (.inr (.inl z));have q3:¬kd r.1=6:=λz=>q (.inr (.inr (.inl z)));have q4:r.1≠77/\r.1≠78/\r.1≠79:=⟨λz=>q (by simp[z]),λz=>q (by simp[z]),λz=>q (by simp[z])⟩;have e:o7 Lf r=r:=if_neg q3;rw[e,Wel (by rw[ao];exact LQ q) q4.2.1 q4.2.2 q4.1,nY _ _ _ (by lia),if_neg q2];refine⟨_,rfl,λe he=>?_⟩;unfold F8 jmp at he;rw[if_neg q3,aP,if_pos hl]at he;exact absurd he ba
section
variable {T:List LT}{s nx:cY}{t:LT}
theorem Fo (h:kd o=6)(Lf:List Int)(i:Nat):o7 Lf (o,aa (i:Int))=(o,aa (Lf.getD i 0)):=by unfold o7;rw[if_pos h];rfl
theorem Gg (o:Nat)(g:Option Int)(m:Nat)(h:(tk o==m&&!(kd o==7))=af):fP (o,g)=m:=wI (r:=(o,g)) rfl m h
theorem RT.jp {th:cY}(hk:(kd o==6&&o != 77&&o != 78&&o != 79)=af)(hm:(tk o==th.length)=af)(hv:th.any (jI (o==69))=ag)(hn:o∈xU\/nx=s++made o)
  (hi:T[i]?=aa (if o=61\/o=62 then s++th else s++made o,ag)):RT T (o,aa (i:Int)) (s++th) nx:=by
 simp only[bx,beq_iff_eq,bne_iff_ne]at hk;have hm:=eq_of_beq hm;intro p Lf;rw[Fo hk.1.1.1];have m0:fP (o,aa (Lf.getD i 0))=th.length:=by unfold fP;rw[if_neg (by show¬kd o=7;exact US hk)];exact hm
 have w:=Wel (r:=(o,aa (Lf.getD i 0))) (pc:=p) (s:=s++th) (by rw[m0,ao];exact UR) hk.1.2 hk.2 hk.1.1.2;rw[m0,nY _ _ _ (aO _),zZ _ _ _ (aO _),oA,yi,List.take_zero,aP,if_neg (λz=>by rw[hv]at z;exact nomatch z.2)]at w;refine⟨_,w,λe he=>?_⟩;refine bZ (bg.1 he) (λhe=>?_) λhe=>?_
 .unfold F8 at he
  split at he
  .exact absurd he ba
  .rename_i q
   rw[au.1 he];exact .inl (by rw[hn.elim (λz=>absurd z q) id])
 .unfold jmp at he;rw[if_pos hk.1.1.1]at he;rw[au.1 he];exact .inr ⟨i,_,rfl,hi,rfl⟩
theorem RT.nxi (hi:T[i]?=aa (s++[-2],ag)):RT T (77,aa (i:Int)) (s++[-2]) (s++[-2]++[-1]):=by
 intro p Lf;rw[Fo (by decide +kernel)];have m0:=Gg 77 (aa (Lf.getD i 0)) 1 (by decide +kernel);have w:=Wnx (r:=(77,aa (Lf.getD i 0))) (pc:=p) (s:=s++[-2]) (by rw[m0,ao];show¬_+1<1;exact UQ) rfl;rw[m0,nY _ [-2] 1 (aO _)]at w;refine⟨_,w,λe he=>?_⟩;refine bZ (aM.1 he) (λhe=>?_) λhe=>?_
 .rw[he];exact .inr ⟨i,_,rfl,hi,rfl⟩
 .rw[au.1 he];exact .inl rfl
theorem RT.go (hi:T[i]?=aa (s,af)):RT T (78,aa (i:Int)) s s:=by
 intro p Lf;rw[Fo (by decide +kernel)];have m0:=Gg 78 (aa (Lf.getD i 0)) 0 (by decide +kernel);refine⟨_,Wgo (by rw[m0];exact UO) rfl,λe he=>?_⟩;refine bZ (aM.1 he) (λhe=>?_) λhe=>?_
 .rw[he];exact .inr ⟨i,_,rfl,hi,rfl⟩
 .rw[au.1 he];exact .inl rfl
theorem RT.re {q:Int}(hq:0<=q):RT T (79,ae) (s++[-1,q]) nx:=by intro p Lf;have m0:=Gg 79 ae 2 (by decide +kernel);have e:o7 Lf (79,ae)=(79,ae):=if_neg (by decide +kernel);have w:=Wre (r:=(79,ae)) (pc:=p) (s:=s++[-1,q]) (by rw[m0,ao];show¬_+2<2;exact UM) rfl;rw[m0,nY _ [-1,q] 2 (aO _),if_pos ⟨rfl,hq⟩]at w;rw[e];exact⟨_,w,λe he=>absurd he ba⟩
end
def AR (m:Nat)(r:Row):Prop:=r.1<85/\(kd r.1=6->∃l:Nat,r.2=aa (l:Int)/\l<m)/\(kd r.1≠6->dO 0 r/\∀g,r.2=aa g->g<1000)
theorem AR.mono {m':Nat}(h:AR m r)(q:m<=m'):AR m' r:=⟨h.1,λe=>let ⟨l,a,b⟩:=h.2.1 e;⟨l,a,bK b q⟩,h.2.2⟩
structure Iv (b:Bx)(S:List cY)(cur:cY)(T:List LT):Prop where
 sl:S.length=b.R.length
 tl:T.length=b.L.length
 rt:∀(p:Nat) (r:Row) (s:cY),b.R[p]?=aa r->S[p]?=aa s->∃nx,(S++[cur])[p+1]?=aa nx/\RT T r s nx
 lb:∀(i:Nat) (q:Int) (τ:LT),b.L[i]?=aa q->T[i]?=aa τ->q = -1\/(0<=q/\(S++[cur])[q.toNat]?=aa (ty q τ))
 ar:∀r∈b.R,AR b.L.length r
theorem gc {l:List α}{a b:α}(h:l[i]?=aa a):(l++[b])[i]?=aa a:=by rw[aZ (aA.1 h).1];exact h
theorem CM {l:List α}{a b:α}(h:(l++[b])[i]?=aa a):l[i]?=aa a\/(i=l.length/\a=b):=by
 by_cases q:i<l.length
 .rw[aZ q]at h;exact .inl h
 .have hl:=(aA.1 h).1;rw[ao]at hl;have hl:i<l.length+1:=hl;have e:i=l.length:=by exact Mj q hl
  subst e;rw[cP]at h;exact .inr ⟨rfl,(aj h).symm⟩
section
variable {b:Bx}{S:List cY}{cur:cY}{T:List LT}
theorem Iv.put (h:Iv b S cur T){nx:cY}(hr:RT T (o,g) cur nx)(ha:AR b.L.length (o,g)):Iv (b.put o g) (S++[cur]) nx T:=by
 refine⟨by show _=(b.R++[_]).length;rw[ao,ao,h.sl];rfl,h.tl,λp r s hp hs=>?_,λi q τ hq ht=>(h.lb i q τ hq ht).imp id λz=>⟨z.1,gc z.2⟩,λr hr=>?_⟩
 .rcases CM (hp:(b.R++[(o,g)])[p]?=aa r)with hp|⟨rfl,rfl⟩
  .have GP:=(aA.1 hp).1;rw[aZ (by rw[h.sl];exact GP)]at hs;refine dB (h.rt p r s hp hs) λnx' h1 h2=>?_;exact⟨nx',gc h1,h2⟩
  .rw[<- h.sl,cP]at hs;obtain rfl:=aj hs;refine⟨nx,?_,hr⟩;rw[show b.R.length+1=(S++[cur]).length by rw[ao,h.sl];rfl,cP]
 .rcases bg.1 (hr:r∈b.R++[(o,g)])with hr|hr
  .exact h.ar r hr
  .rw[au.1 hr];exact ha
theorem Iv.fD (h:Iv b S cur T)(τ:LT):Iv b.fD S cur (T++[τ]):=by
 refine⟨h.sl,by rw[ao,h.tl,dA];rfl,λp r s hp hs=>let ⟨nx,a,c⟩:=h.rt p r s hp hs;⟨nx,a,c.mono τ⟩,λi q τ' hq ht=>?_,λr hr=>(h.ar r hr).mono (by rw[dA];exact jj _)⟩;rcases CM (hq:(b.L++[-1])[i]?=aa q)with hq|⟨rfl,rfl⟩
 .rw[aZ (by rw[h.tl];exact(aA.1 hq).1)]at ht;exact h.lb i q τ' hq ht
 .exact .inl rfl
theorem Iv.here (h:Iv b S cur T){τ:LT}(hi:T[i]?=aa τ)(hc:cur=ty (b.R.length:Int) τ):Iv (b.here i) S cur T:=by
 refine⟨h.sl,by rw[gI];exact h.tl,h.rt,λj q τ' hq ht=>?_,λr hr=>by rw[gI];exact h.ar r hr⟩;have hq:(b.L.set i b.R.length)[j]?=aa q:=hq;by_cases e:i=j
 .subst e;rw[gw (by rw[<- h.tl];exact(aA.1 hi).1)]at hq;obtain rfl:=aj hq;rw[hi]at ht;obtain rfl:=aj ht;refine .inr ⟨eK _,?_⟩;rw[cg,<- h.sl,cP,hc,h.sl]
 .rw[dZ e]at hq;exact h.lb j q τ' hq ht
theorem Iv.x5 (h:Iv b S cur T)(x:Hl):Iv (b.x5 x) S cur T:=⟨h.sl,h.tl,h.rt,h.lb,h.ar⟩
end
def jQ:List Row->cY->Option (List cY×cY)
 |[],th=>aa ([],th)
 |r::l,th=>match f9 r th with
  |none=>ae
  |some th'=>match jQ l th' with
   |none=>ae
   |some (w,z)=>aa (th::w,z)
theorem Iv.run {T:List LT}{s:cY}:∀(l:List Row) (b:Bx) (S:List cY) (th:cY) (w:List cY) (z:cY),Iv b S (s++th) T->jQ l th=aa (w,z)->(∀r∈l,AR b.L.length r)->Iv (b.o8 l) (S++w.map (s++·)) (s++z) T
 |[]=>λb S th w z h e U=>by
  cases e
  rw[zr,sZ,aP];exact h
 |r::l=>λb S th w z h e ha=>by
  have e:(match f9 r th with|none=>ae|some th'=>match jQ l th' with|none=>ae|some (w,z)=>aa (th::w,z))=aa (w,z):=e;induction e1:f9 r th with
  |none=>rw[e1]at e;exact nomatch e
  |some th' =>
   rw[e1]at e;dsimp only at e;induction e2:jQ l th' with
   |none=>rw[e2]at e;exact nomatch e
   |some wz =>obtain⟨w',z'⟩:=wz;rw[e2]at e;cases e;have:=Iv.run l (b.put r.1 r.2) (S++[s++th]) th' _ _ (h.put (RT.rel e1) (ha r aR)) e2 λq hq=>ha q (bf _ hq);rw[wD,eM];rw[aV]at this;exact this
noncomputable def arC (k:Nat)(o:Option Int):Bool:=if k=0 then decide (o=ae)else if k=1 then decide (o=aa 0)else if k=2 then decide (o=aa 1)else if k=3 then decide (o=aa 0)else if k=7 then(match o with
  |some g=>decide (0<=g/\g<1000)
  |none=>ag)else ag
def QA (r:Row):Bool:=decide (r.1<85)&&(kd r.1 != 6)&&arC (kd r.1) r.2
theorem vr  (h:QA r=af):AR m r:=by
 unfold QA at h;rw[bx,bx]at h;obtain⟨⟨h1,h2⟩,h3⟩:=h;have h2:=bne_iff_ne.1 h2;refine⟨of_decide_eq_true h1,λq=>absurd q h2,λU=>?_⟩;delta dO;delta arC at h3;by_cases e1:kd r.1=0
 .rw[if_pos e1]at h3;have e2:=of_decide_eq_true h3;rw[if_pos e1,e2];exact⟨rfl,nofun⟩
 rw[if_neg e1]at h3;rw[if_neg e1];clear e1;by_cases e1:kd r.1=1
 .rw[if_pos e1]at h3;have e2:=of_decide_eq_true h3;exact⟨⟨0,e2,by decide,.inr (by rw[e1];decide),λq=>by exact UX e1 q⟩,λg q=>by rw[e2]at q;obtain rfl:=aj q;decide⟩
 rw[if_neg e1]at h3;clear e1;by_cases e1:kd r.1=2
 .rw[if_pos e1]at h3;have e2:=of_decide_eq_true h3;exact⟨⟨1,e2,by decide,.inr (by rw[e1];decide),λq=>rfl⟩,λg q=>by rw[e2]at q;obtain rfl:=aj q;decide⟩
 rw[if_neg e1]at h3;clear e1;by_cases e1:kd r.1=3
 .rw[if_pos e1]at h3;have e2:=of_decide_eq_true h3;exact⟨⟨0,e2,by decide,.inr (by rw[e1];decide),λq=>by exact UU e1 q⟩,λg q=>by rw[e2]at q;obtain rfl:=aj q;decide⟩
 rw[if_neg e1]at h3;clear e1;by_cases e1:kd r.1=7
 .rw[if_pos e1]at h3;obtain⟨g,e2,h3⟩:∃g,r.2=aa g/\decide (0<=g/\g<1000)=af:=by
   induction e2:r.2 with
   |none=>rw[e2]at h3;exact jH h3
   |some g=>rw[e2]at h3;exact⟨g,rfl,h3⟩
  exact⟨⟨g,e2,(of_decide_eq_true h3).1,.inl e1,λq=>by exact UT e1 q⟩,λg' q=>by rw[e2]at q;obtain rfl:=aj q;exact(of_decide_eq_true h3).2⟩
 .rw[if_neg e1]at h3;exact jH h3
def N3:Bool:=sM.all λl=>(match jQ (l.map nk) []with
 |some (_,z)=>z.isEmpty
 |none=>ag)&&l.all λp=>QA (nk p)
theorem Dp:N3=af:=by decide +kernel
structure HB (lo hi:Nat)(hs:List Hn)(SS:List cY):Prop where
 le:lo<=hi
 len:hi<SS.length
 rg:∀h∈hs,(lo:Int)<=h.s/\h.s<h.e/\h.e<=hi/\h.e<=h.h/\h.h<=hi/\0<=h.d
 pr:hs.Pairwise mf
 th:∀(p:Nat) (s:cY) (h:Hn),SS[p]?=aa s->over hs p=aa h->h.d<=s.length/\SS[h.h.toNat]?=aa (H5 h s)
theorem uu {hs:List Hn}{h:Hn}(e:over hs p=aa h):h∈hs/\h.s<=p/\p<h.e :=
 ⟨lZ e,of_decide_eq_true (List.find?_some (p:=λh:Hn=>decide (h.s<=p/\p<h.e)) e)⟩
theorem zA (a b:List Hn)(p:Int):over (a++b) p=match over a p with
  |some h=>aa h
  |none=>over b p:=by
 unfold over;rw[List.find?_append];cases List.find? (λh:Hn=>decide (h.s<=p/\p<h.e)) a<;>rfl
section
variable {hs Qm:List Hn}{SS:List cY}
theorem HB.nil (h:lo<=hi)(h2:hi<SS.length):HB lo hi [] SS:=⟨h,h2,λU q=>absurd q ba,.nil,λU U U U q=>nomatch q⟩
theorem HB.app (h1:HB lo mid hs SS)(h2:HB mid hi Qm SS):HB lo hi (hs++Qm) SS:=by
 have:=h1.le;have:=h2.le;refine⟨by exact Cb (by assumption) this,h2.len,λh hm=>?_,ke.2 ⟨h1.pr,h2.pr,λa ha b hb=>?_⟩,λp s h e q=>?_⟩
 .refine bZ (bg.1 hm) (λhm=>?_) λhm=>?_
  .have:=h1.rg h hm;exact UP (by assumption) this
  .have:=h2.rg h hm;exact UN (by assumption) this
 .have:=h1.rg a ha;have:=h2.rg b hb;intro _ z;exact UL (by assumption) this z
 .rw[zA]at q;induction e2:over hs p with
  |some h'=>rw[e2]at q;obtain rfl:=aj q;exact h1.th p s _ e e2
  |none=>rw[e2]at q;exact h2.th p s _ e q
theorem HB.wide {lo' hi':Nat}(h:HB lo hi hs SS)(h1:lo'<=lo)(h2:hi<=hi')(h3:hi'<SS.length):HB lo' hi' hs SS :=
 ⟨by have:=h.le;exact UK h1 h2 this,h3,λa ha=>by have:=h.rg a ha;exact UJ h1 h2 this,h.pr,h.th⟩
theorem HB.ext {X:List cY}(h:HB lo hi hs SS):HB lo hi hs (SS++X):=by have:=h.len;refine⟨h.le,by rw[ao];exact UI this,h.rg,h.pr,λp s a e q=>?_⟩;refine qR (uu q) λhm h1 h2=>?_;have:=h.rg a hm;rw[aZ (by exact UH (by assumption) h2 this)]at e;obtain⟨x,y⟩:=h.th p s a e q;refine⟨x,?_⟩;rw[aZ (by exact UG (by assumption) h2 this)];exact y
theorem HB.snoc {a:Hn}(h:HB lo hi hs SS)(h1:(lo:Int)<=a.s/\a.s<a.e/\a.e<=hi/\a.e<=a.h/\a.h<=hi/\0<=a.d)(h2:∀b∈hs,mf b a)(h3:∀(p:Nat) (s:cY),a.s<=p->p<a.e->SS[p]?=aa s->a.d<=s.length/\SS[a.h.toNat]?=aa (H5 a s)):HB lo hi (hs++[a]) SS:=by
 refine⟨h.le,h.len,λb hb=>(bg.1 hb).elim (h.rg b) λhb=>by rw[au.1 hb];exact h1,ke.2 ⟨h.pr,As _ _,λb hb x hx=>by rw[au.1 hx];exact h2 b hb⟩,λp s b e q=>?_⟩;rw[zA]at q;induction e2:over hs p with
 |some h'=>rw[e2]at q;obtain rfl:=aj q;exact h.th p s _ e e2
 |none =>rw[e2]at q;refine qR (uu q) λhm q1 q2=>?_;rw[au.1 hm]at q1 q2 ⊢;exact h3 p s q1 q2 e
end
structure Bk (b b':Bx)(S:List cY)(s:cY)(Sn:List cY)(Hs:List Hl):Prop where
 keep:∀i,i<b.L.length->b'.L[i]?=b.L[i]?
 ll:b.L.length<=b'.L.length
 new:∀i,b.L.length<=i->i<b'.L.length->∃q:Nat,b'.L[i]?=aa (q:Int)/\b.R.length<=q/\q<=b'.R.length
 rl:b'.R.length=b.R.length+Sn.length
 pre:∀t∈Sn,∃u,t=s++u
 hE:b'.H=b.H++Hs
 hI:∀h∈Hs,(b.L.length<=h.s/\h.s<b'.L.length)/\(b.L.length<=h.e/\h.e<b'.L.length)/\(b.L.length<=h.h/\h.h<b'.L.length)
 hb:HB b.R.length b'.R.length (Hs.map (k8 b'.L)) (S++Sn++[s])
 fst:(Sn++[s])[0]?=aa s
theorem IW {l:List (Str×Nat×Option Nat)}(hl:l∈sM):(∃w,jQ (l.map nk) []=aa (w,[]))/\∀(m:Nat),∀r∈l.map nk,AR m r:=by
 have h:=bI.1 Dp l hl;rw[bx]at h;refine⟨?_,λm r hr=>?_⟩
 .induction e:jQ (l.map nk) []with
  |none=>rw[e]at h;exact nomatch h.1
  |some wz =>obtain⟨w,z⟩:=wz;rw[e]at h;have:z=[]:=iK.1 h.1;exact⟨w,by rw[this]⟩
 ·(refine dB (bX.1 hr) λp hp z1=>?_;subst z1);exact vr (bI.1 h.2 p hp)
theorem ug:∀(l:List Row) (th:cY) (w:List cY) (z:cY),jQ l th=aa (w,z)->w.length=l.length
 |[]=>λth w z e=>by cases e;rfl
 |r::l=>λth w z e=>by
  have e:(match f9 r th with|none=>ae|some th'=>match jQ l th' with|none=>ae|some (w,z)=>aa (th::w,z))=aa (w,z):=e;induction e1:f9 r th with
  |none=>rw[e1]at e;exact nomatch e
  |some th' =>
   rw[e1]at e;dsimp only at e;induction e2:jQ l th' with
   |none=>rw[e2]at e;exact nomatch e
   |some wz =>obtain⟨w',z'⟩:=wz;rw[e2]at e;cases e;rw[az,az,ug l th' w' _ e2]
structure Pg (b0 b:Bx)(S0:List cY)(s0:cY)(Sn:List cY)(cur:cY)(T0 T:List LT)(Hs:List Hl)(own:Nat->Prop):Prop where
 iv:Iv b (S0++Sn) cur T
 tt:∀(i:Nat) (t:LT),T0[i]?=aa t->T[i]?=aa t
 keep:∀i,i<b0.L.length->b.L[i]?=b0.L[i]?
 ll:b0.L.length<=b.L.length
 new:∀i,b0.L.length<=i->i<b.L.length->own i\/∃q:Nat,b.L[i]?=aa (q:Int)/\b0.R.length<=q/\q<=b.R.length
 ow:∀i,own i->b0.L.length<=i
 rl:b.R.length=b0.R.length+Sn.length
 P9:S0.length=b0.R.length
 pre:∀t∈Sn,∃u,t=s0++u
 pc:∃u,cur=s0++u
 hE:b.H=b0.H++Hs
 hI:∀h∈Hs,(b0.L.length<=h.s/\h.s<b.L.length/\¬own h.s)/\(b0.L.length<=h.e/\h.e<b.L.length/\¬own h.e)/\(b0.L.length<=h.h/\h.h<b.L.length/\¬own h.h)
 hb:HB b0.R.length b.R.length (Hs.map (k8 b.L)) (S0++Sn++[cur])
 fst:(Sn++[cur])[0]?=aa s0
theorem rh {h:Hl}(h1:L'[h.s]?=L[h.s]?)(h2:L'[h.e]?=L[h.e]?)(h3:L'[h.h]?=L[h.h]?):k8 L' h=k8 L h:=by unfold k8;rw[bU,bU,bU,bU,bU,bU,h1,h2,h3]
theorem xT  (h:∀x∈Hs,L'[x.s]?=L[x.s]?/\L'[x.e]?=L[x.e]?/\L'[x.h]?=L[x.h]?):Hs.map (k8 L')=Hs.map (k8 L) :=
 Ej λx hx=>rh (h x hx).1 (h x hx).2.1 (h x hx).2.2
section
variable {b b2:Bx}{S0 Sn CN:List cY}{s0 cur:cY}{T0 T T2:List LT}
theorem Pg.start {s:cY}(h:Iv b S0 s T):Pg b b S0 s [] s T T [] (λU=>False) :=
 ⟨by rw[aP];exact h,λU U q=>q,λU U=>rfl,aO _,λi h1 h2=>absurd h1 (UE h1 h2),λU q=>q.elim,rfl,h.sl,λU q=>absurd q ba,⟨[],(aP _).symm⟩,(aP _).symm,λU q=>absurd q ba,
  HB.nil (aO _) (by rw[aP,ao,h.sl];exact iN _),rfl⟩
theorem Pg.put (h:Pg b0 b S0 s0 Sn cur T0 T Hs own){nx:cY}(hr:RT T (o,g) cur nx)(ha:AR b.L.length (o,g))(hn:∃u,nx=s0++u):Pg b0 (b.put o g) S0 s0 (Sn++[cur]) nx T0 T Hs own:=by have hl:(b.put o g).R.length=b.R.length+1:=ao;have iv:=h.iv.put hr ha;have rl:=h.rl;have sl:=iv.sl;rw[aV]at iv;refine⟨iv,h.tt,h.keep,h.ll,λi h1 h2=>(h.new i h1 h2).imp id λz_=>by obtain⟨q,a,c,e⟩:=z_;exact⟨q,a,c,by exact LN hl e⟩,h.ow,by rw[hl,ao,h.rl];rfl,h.P9,λt ht=>(bg.1 ht).elim (h.pre t) λht=>by rw[au.1 ht];exact h.pc,hn,h.hE,h.hI,?_,gc h.fst⟩;have hb:=(h.hb.ext (X:=[nx])).wide (hi':=(b.put o g).R.length) (aO _) (FP hl) (by rw[ao,sl];exact iN _);rw[<- aV S0];exact hb
theorem Pg.fD (h:Pg b0 b S0 s0 Sn cur T0 T Hs own)(τ:LT):Pg b0 b.fD S0 s0 Sn cur T0 (T++[τ]) Hs (λi=>own i\/i=b.L.length):=by
 have hl:=dA b;have at_:∀i,i<b.L.length->b.fD.L[i]?=b.L[i]?:=λi hi=>aZ hi;refine⟨h.iv.fD τ,λi t q=>gc (h.tt i t q),λi hi=>(at_ i (bK hi h.ll)).trans (h.keep i hi),by have:=h.ll;exact LN hl this,λi h1 h2=>?_,λi q=>q.elim (h.ow i) λq=>by have:=h.ll;exact UD q this,h.rl,h.P9,h.pre,h.pc,h.hE,λx hx=>?_,?_,h.fst⟩
 .by_cases e:i<b.L.length
  .exact(h.new i h1 e).imp .inl λz_=>by obtain⟨q,a,c⟩:=z_;exact⟨q,(at_ i e).trans a,c⟩
  .exact .inl (.inr (UC hl h2 e))
 ·(refine qR (h.hI x hx) λz1 z2 z3=>?_;obtain⟨a1,a2,a3⟩:=z1;obtain⟨c1,c2,c3⟩:=z2;obtain⟨e1,e2,e3⟩:=z3);exact⟨⟨a1,by exact FF hl a2,λq=>q.elim a3 λq=>by lia⟩,⟨c1,by exact FF hl c2,λq=>q.elim c3 λq=>by lia⟩,⟨e1,by exact FF hl e2,λq=>q.elim e3 λq=>by lia⟩⟩
 .have e:Hs.map (k8 b.fD.L)=Hs.map (k8 b.L):=xT λx hx=>by(refine qR (h.hI x hx) λz1 z2 z3=>?_;obtain⟨a1,a2,a3⟩:=z1;obtain⟨c1,c2,c3⟩:=z2;obtain⟨e1,e2,e3⟩:=z3);exact⟨at_ _ a2,at_ _ c2,at_ _ e2⟩
  rw[e];exact h.hb
theorem eC (b:Bx)(h:i≠j):(b.here i).L[j]?=b.L[j]?:=dZ h
theorem qr (b:Bx)(h:i<b.L.length):(b.here i).L[i]?=aa (b.R.length:Int):=gw h
theorem Pg.here (h:Pg b0 b S0 s0 Sn cur T0 T Hs own)(i:Nat)(ho:own i)(τ:LT)(hi:T[i]?=aa τ)(hc:cur=ty (b.R.length:Int) τ):Pg b0 (b.here i) S0 s0 Sn cur T0 T Hs (λj=>own j/\j≠i):=by
 have hl:=gI b i;have hil:i<b.L.length:=by rw[<- h.iv.tl];exact(aA.1 hi).1
 have rl:=h.rl;refine⟨h.iv.here hi hc,h.tt,λj hj=>(eC b (by have:=h.ow i ho;exact UB hj this)).trans (h.keep j hj),by rw[hl];exact h.ll,λj h1 h2=>?_,λj q=>h.ow j q.1,h.rl,h.P9,h.pre,h.pc,h.hE,λx hx=>?_,?_,h.fst⟩
 .by_cases e:i=j
  .subst e;exact .inr ⟨b.R.length,qr b hil,by exact LM rl,aO _⟩
  .exact(h.new j h1 (UA hl h2)).imp (λq=>⟨q,λz=>e z.symm⟩) λz_=>by obtain⟨q,a,c⟩:=z_;exact⟨q,(eC b e).trans a,c⟩
 ·(refine qR (h.hI x hx) λz1 z2 z3=>?_;obtain⟨a1,a2,a3⟩:=z1;obtain⟨c1,c2,c3⟩:=z2;obtain⟨e1,e2,e3⟩:=z3);exact⟨⟨a1,by exact zl hl a2,λq=>a3 q.1⟩,⟨c1,by exact zl hl c2,λq=>c3 q.1⟩,⟨e1,by exact zl hl e2,λq=>e3 q.1⟩⟩
 .have e:Hs.map (k8 (b.here i).L)=Hs.map (k8 b.L):=xT λx hx=>by(refine qR (h.hI x hx) λz1 z2 z3=>?_;obtain⟨a1,a2,a3⟩:=z1;obtain⟨c1,c2,c3⟩:=z2;obtain⟨e1,e2,e3⟩:=z3);exact⟨eC b λq=>a3 (q▸ho),eC b λq=>c3 (q▸ho),eC b λq=>e3 (q▸ho)⟩
  rw[e];exact h.hb
theorem Pg.M8 (h:Pg b0 b S0 s0 Sn cur T0 T Hs own)(iv:Iv b2 (S0++Sn++CN) cur T2)(tt:∀(i:Nat) (t:LT),T[i]?=aa t->T2[i]?=aa t)(k:Bk b b2 (S0++Sn) cur CN P1)(sQ:∀i,own i->i<b.L.length):Pg b0 b2 S0 s0 (Sn++CN) cur T0 T2 (Hs++P1) own:=by
 obtain⟨u,hu⟩:=h.pc;have kl:=k.ll;have ll:=h.ll;have rl:=h.rl;have krl:=k.rl;rw[aV]at iv;refine⟨iv,λi t q=>tt i t (h.tt i t q),λi hi=>(k.keep i (B9 ll hi)).trans (h.keep i hi),by exact Uz kl ll,λi h1 h2=>?_,h.ow,by rw[ao];exact Uy rl krl,h.P9,λt ht=>?_,h.pc,by rw[k.hE,h.hE,aV],λx hx=>?_,?_,?_⟩
 .by_cases e:i<b.L.length
  .exact(h.new i h1 e).imp id λz_=>by obtain⟨q,a,c,d⟩:=z_;exact⟨q,(k.keep i e).trans a,c,by exact Uw rl krl d⟩
  .refine ti (k.new i (Mk e) h2) λq a c d=>?_;exact .inr ⟨q,a,by exact Uv rl c,d⟩
 .rcases bg.1 ht with ht|ht
  .exact h.pre t ht
  .obtain⟨v,hv⟩:=k.pre t ht;exact⟨u++v,by rw[hv,hu,aV]⟩
 .rcases bg.1 hx with hx|hx
  ·(refine qR (h.hI x hx) λz1 z2 z3=>?_;obtain⟨a1,a2,a3⟩:=z1;obtain⟨c1,c2,c3⟩:=z2;obtain⟨e1,e2,e3⟩:=z3);exact⟨⟨a1,by exact B9 kl a2,a3⟩,⟨c1,by exact B9 kl c2,c3⟩,⟨e1,by exact B9 kl e2,e3⟩⟩
  ·(refine qR (k.hI x hx) λz1 z2 z3=>?_;obtain⟨a1,a2⟩:=z1;obtain⟨c1,c2⟩:=z2;obtain⟨e1,e2⟩:=z3);exact⟨⟨by exact Cb ll a1,a2,λq=>by have:=sQ _ q;exact FE a1 this⟩,⟨by exact Cb ll c1,c2,λq=>by have:=sQ _ q;exact FE c1 this⟩,⟨by exact Cb ll e1,e2,λq=>by have:=sQ _ q;exact FE e1 this⟩⟩
 .have e:Hs.map (k8 b2.L)=Hs.map (k8 b.L):=xT λx hx=>by(refine qR (h.hI x hx) λz1 z2 z3=>?_;obtain⟨a1,a2,a3⟩:=z1;obtain⟨c1,c2,c3⟩:=z2;obtain⟨e1,e2,e3⟩:=z3);exact⟨k.keep _ a2,k.keep _ c2,k.keep _ e2⟩
  rw[bM,e];have khb:=k.hb;have eS:S0++Sn++CN++[cur]=S0++(Sn++CN)++[cur]:=by rw[aV S0]
  rw[eS]at khb;refine HB.app ?_ khb;induction CN with
  |nil=>rw[aP];exact h.hb
  |cons t CN =>
   have ht:t=cur:=aj k.fst;have e2:S0++(Sn++t::CN)++[cur]=S0++Sn++[cur]++(CN++[cur]):=by rw[ht];simp only[aV,eI,dU]
   simp only[e2];exact h.hb.ext
 .have f1:=h.fst;have f2:=k.fst;induction Sn with
  |nil =>have:cur=s0:=aj f1;subst this;exact f2
  |cons t Sn=>exact f1
theorem Pg.done (h:Pg b0 b S0 s0 Sn s0 T0 T Hs own)(hn:∀i,¬own i):Bk b0 b S0 s0 Sn Hs :=
 ⟨h.keep,h.ll,λi h1 h2=>(h.new i h1 h2).resolve_left (hn i),h.rl,h.pre,h.hE,λx hx=>let ⟨⟨a1,a2,_⟩,⟨c1,c2,_⟩,⟨e1,e2,_⟩⟩:=h.hI x hx;⟨⟨a1,a2⟩,⟨c1,c2⟩,⟨e1,e2⟩⟩,h.hb,h.fst⟩
end
theorem yn {l:Nat}(h:(decide (o<85)&&kd o==6)=af)(hl:l<m):AR m (o,aa (l:Int)):=by rw[bx]at h;exact⟨of_decide_eq_true h.1,λU=>⟨l,rfl,hl⟩,λq=>absurd (eq_of_beq h.2) q⟩
theorem RT.aa5 {T:List LT}{s th':cY}(h:f9 r []=aa th'):RT T r s (s++th'):=by have:=RT.rel (T:=T) (s:=s) h;rw[aP]at this;exact this
theorem lD {l:List α}{n:Nat}(a:α)(h:l.length=n):(l++[a])[n]?=aa a:=by rw[<- h];exact cP
theorem zu (s:cY):∃u,s=s++u:=⟨[],(aP s).symm⟩
section
variable {b:Bx}{S0 Sn:List cY}{s0 cur:cY}{T0 T:List LT}
theorem Pg.row (h:Pg b0 b S0 s0 Sn (s0++cur) T0 T Hs own)(o:Nat)(g:Option Int){z:cY}(e:f9 (o,g) cur=aa z)(ha:QA (o,g)=af):Pg b0 (b.put o g) S0 s0 (Sn++[s0++cur]) (s0++z) T0 T Hs own :=
 h.put (RT.rel e) (vr ha) ⟨z,rfl⟩
theorem Pg.AQ (h:Pg b0 b S0 s0 Sn s0 T0 T Hs own)(o:Nat)(g:Option Int){z:cY}(e:f9 (o,g) []=aa z)(ha:QA (o,g)=af):Pg b0 (b.put o g) S0 s0 (Sn++[s0]) (s0++z) T0 T Hs own :=
 h.put (RT.aa5 e) (vr ha) ⟨z,rfl⟩
theorem Pg.Jf (h:Pg b0 b S0 s0 Sn (s0++cur) T0 T Hs own)(o:Nat)(g:Option Int)(e:f9 (o,g) cur=aa [])(ha:QA (o,g)=af):Pg b0 (b.put o g) S0 s0 (Sn++[s0++cur]) s0 T0 T Hs own:=by have:=h.row o g e ha;rw[aP]at this;exact this
end
def kN (b b':Bx)(dp:Nat):Prop:=∀(S:List cY) (T:List LT) (s:cY),Iv b S s T->s.length=dp->∃Sn T' Hs,Iv b' (S++Sn) s T'/\(∀(i:Nat) (t:LT),T[i]?=aa t->T'[i]?=aa t)/\Bk b b' S s Sn Hs
theorem Kr {b:Bx}{dp:Nat}{l:List (Str×Nat×Option Nat)}(hl:l∈sM):kN b (b.o8 (l.map nk)) dp:=by
 intro S T s iv _;obtain⟨⟨w,hw⟩,ZO⟩:=IW hl;have iv0:Iv b S (s++[]) T:=by rw[aP];exact iv
 have r:=Iv.run _ b S [] w [] iv0 hw (ZO _);rw[aP]at r;have hlen:=ug _ _ _ _ hw;have rl:(b.o8 (l.map nk)).R.length=b.R.length+(w.map (s++·)).length:=by refine(?_:(b.R++l.map nk).length=_);rw[ao,ak (f:=(s++·)),hlen]
 have sl:=iv.sl;refine⟨w.map (s++·),T,[],r,λU U q=>q,λU U=>rfl,aO _,λi h1 h2=>absurd (h2:i<b.L.length) (Ux h1),rl,λt ht=>?_,(aP _).symm,λU q=>absurd q ba,HB.nil (LM rl) ?_,?_⟩
 ·(refine dB (bX.1 ht) λu U z1=>?_;subst z1);exact⟨u,rfl⟩
 .rw[ao,ao,rl,sl];exact iN _
 .induction h:l.map nk using List.casesOn with
  |nil =>rw[h]at hw;cases hw;rfl
  |cons r0 l' =>
   rw[h]at hw;have e:(match f9 r0 []with|none=>ae|some th'=>match jQ l' th' with|none=>ae|some (w,z)=>aa (([]:cY)::w,z))=aa (w,[]):=hw;induction e1:f9 r0 []with
   |none=>rw[e1]at e;exact nomatch e
   |some th' =>
    rw[e1]at e;dsimp only at e;induction e2:jQ l' th' with
    |none=>rw[e2]at e;exact nomatch e
    |some wz =>obtain⟨w',z⟩:=wz;rw[e2]at e;cases e;refine(?_:aa (s++[])=aa s);rw[aP]
theorem Ks {b:Bx}{dp:Nat}(j:Nat)(hj:j=65\/j=66):kN b (otB j b) dp:=by
 intro S T s iv _;have p1:=(Pg.start iv).AQ 4 (aa 0) (z:=[-1]) (by decide +kernel) (by decide +kernel);have p2:Pg b (otB j b) S s ([]++[s]++[s++[-1]]) s T T [] (λU=>False):=by
  rcases hj with rfl|rfl
  .exact p1.put (RT.end_ (th:=[-1]) (th':=[]) (by decide +kernel) (by decide)) (vr (by decide +kernel)) (zu s)
  .exact p1.put (RT.end_ (th:=[-1]) (th':=[]) (by decide +kernel) (by decide)) (vr (by decide +kernel)) (zu s)
 exact⟨_,_,_,p2.iv,p2.tt,p2.done λU q=>q⟩
theorem YY (s:cY):s++made 59=s:=by rw[show made 59=[] by decide +kernel,aP]
theorem acn (s:cY):s++made 58=s:=by rw[show made 58=[] by decide +kernel,aP]
theorem acm (s:cY):s++made 61=s:=by rw[show made 61=[] by decide +kernel,aP]
theorem ack (s:cY):s++made 62=s:=by rw[show made 62=[] by decide +kernel,aP]
section
variable {T:List LT}{s nx:cY}
theorem RT.jmp (hi:T[i]?=aa (s,ag)):RT T (58,aa (i:Int)) s nx:=by have h:=RT.jp (T:=T) (s:=s) (nx:=nx) (i:=i) (o:=58) (th:=[]) (by decide +kernel) (by decide +kernel) rfl (.inl (by decide)) (by rw[if_neg (by decide),acn];exact hi);rw[aP]at h;exact h
theorem RT.jf (hi:T[i]?=aa (s,ag)):RT T (59,aa (i:Int)) (s++[-1]) s :=
 RT.jp (th:=[-1]) (by decide +kernel) (by decide +kernel) (by decide) (.inr (YY s).symm) (by rw[if_neg (by decide),YY];exact hi)
theorem RT.jk (hj:j=61\/j=62)(hi:T[i]?=aa (s++[-1],ag)):RT T (j,aa (i:Int)) (s++[-1]) s:=by
 rcases hj with rfl|rfl
 .exact RT.jp (th:=[-1]) (by decide +kernel) (by decide +kernel) (by decide) (.inr (acm s).symm) (by rw[if_pos (.inl rfl)];exact hi)
 .exact RT.jp (th:=[-1]) (by decide +kernel) (by decide +kernel) (by decide) (.inr (ack s).symm) (by rw[if_pos (.inr rfl)];exact hi)
end
theorem Pg.YK {b:Bx}{S0 Sn:List cY}{s0 cur:cY}{T0 T:List LT}{Ol:Nat->Prop}(h:Pg b0 b S0 s0 Sn cur T0 T Hs own)(e:∀i,own i<->Ol i):Pg b0 b S0 s0 Sn cur T0 T Hs Ol:=by have:own=Ol:=funext λi=>propext (e i);exact this▸h
section
variable {b b2 b3:Bx}{dp:Nat}
theorem K9 {S:List cY}{T:List LT}{s:cY}(iv:Iv b S s T):∃Sn T1,Pg b (tA b) S s Sn s T T1 [] (λi=>i=l1 b\/i=l2 b)/\T1[l0 b]?=aa (s,ag)/\T1[l1 b]?=aa (s,ag)/\T1[l2 b]?=aa (s,ag):=by
 have t0:(T++[(s,ag)])[l0 b]?=aa (s,ag):=lD _ iv.tl;have p1:=(Pg.start iv).fD (s,ag);have t1:(T++[(s,ag)]++[(s,ag)])[l1 b]?=aa (s,ag):=lD _ p1.iv.tl;have p2:=p1.fD (s,ag);have t2:(T++[(s,ag)]++[(s,ag)]++[(s,ag)])[l2 b]?=aa (s,ag):=lD _ p2.iv.tl;have p3:=p2.fD (s,ag);have p4:=p3.here (l0 b) (.inl (.inl (.inr rfl))) (s,ag) (gc (gc t0)) rfl;have p5:=p4.AQ 11 (aa 0) (z:=[-1]) (by decide +kernel) (by decide +kernel);have e1:=Gv b;have e2:=H4 b;have hL:((b.fD.fD.fD.here (l0 b)).put 11 (aa 0)).L.length=b.L.length+3:=by refine(?_:(b.fD.fD.fD.here (l0 b)).L.length=_);rw[gI,dA,dA,dA]
 have p6:=p5.put (o:=59) (g:=aa (l1 b:Int)) (RT.jf (gc t1)) (yn (by decide +kernel) (Uu e1 hL)) (zu s);refine⟨_,_,p6.YK λi=>⟨?_,?_⟩,gc (gc t0),gc t1,t2⟩
 .rintro⟨((h|h)|h)|h,q⟩
  .exact h.elim
  .exact absurd h q
  .exact .inl h
  .exact .inr h
 .rintro(h|h)
  .exact⟨.inl (.inr h),λq=>by rw[h,e1]at q;have:b.L.length+1=b.L.length:=q;exact Ut this⟩
  .exact⟨.inr h,λq=>by rw[h,e2]at q;have:b.L.length+2=b.L.length:=q;exact Us this⟩
theorem Kt (h:kN (tA b) b2 dp):kN b ((tB af b b2).here (l2 b)) dp:=by
 intro S T s iv hs;refine o23 (K9 iv) λSn T1 p6 t0 t1 t2=>?_;refine D9 (h _ _ _ p6.iv hs) λCN T2 P1 JP wh k2=>?_;have e1:=Gv b;have e2:=H4 b;have Cz:=EN b;have Bj:=k2.ll;have p7:=p6.M8 JP wh k2 λi q=>by rcases q with q|q<;>lia
 have p8:=p7.put (o:=58) (g:=aa (l0 b:Int)) (nx:=s) (RT.jmp (wh _ _ t0)) (yn (by decide +kernel) (by show b.L.length<_;exact Uq Cz Bj)) (zu s);have p9:=p8.here (l1 b) (.inl rfl) (s,ag) (wh _ _ t1) rfl;have Jo:=p9.here (l2 b) ⟨.inr rfl,by exact LL e1 e2⟩ (s,ag) (wh _ _ t2) rfl;exact⟨_,_,_,Jo.iv,Jo.tt,Jo.done λi q=>by refine bZ (q.1.1) (λz=>?_) λz=>?_;exact q.1.2 z;exact q.2 z⟩
theorem Kv (h:kN (tA b) b2 dp)(h2:kN (tB ag b b2) b3 dp):kN b (b3.here (l2 b)) dp:=by
 intro S T s iv hs;refine o23 (K9 iv) λSn T1 p6 t0 t1 t2=>?_;refine D9 (h _ _ _ p6.iv hs) λCN T2 P1 JP wh k2=>?_;have e1:=Gv b;have e2:=H4 b;have Cz:=EN b;have Bj:=k2.ll;have p7:=p6.M8 JP wh k2 λi q=>by rcases q with q|q<;>lia
 have p8:=p7.put (o:=58) (g:=aa (l2 b:Int)) (nx:=s) (RT.jmp (wh _ _ t2)) (yn (by decide +kernel) (Un e2 Cz Bj)) (zu s);have p9:=p8.here (l1 b) (.inl rfl) (s,ag) (wh _ _ t1) rfl;refine D9 (h2 _ _ _ p9.iv hs) λSn3 T3 Hs3 Zh HZ k3=>?_;have hlB:=EM ag b b2;have OS:=k3.ll;have p9b:=p9.M8 Zh HZ k3 λi q=>by have:(tB ag b b2).L.length=b2.L.length:=hlB;refine(?_:i<(tB ag b b2).L.length);rcases q.1 with z|z<;>lia
 have Jo:=p9b.here (l2 b) ⟨.inr rfl,by exact LL e1 e2⟩ (s,ag) (HZ _ _ (wh _ _ t2)) rfl;exact⟨_,_,_,Jo.iv,Jo.tt,Jo.done λi q=>by refine bZ (q.1.1) (λz=>?_) λz=>?_;exact q.1.2 z;exact q.2 z⟩
theorem Kx (j:Nat)(hj:j=61\/j=62):kN b (cnB j b) dp:=by intro S T s iv _;have t0:(T++[(s++[-1],ag)])[l0 b]?=aa (s++[-1],ag):=lD _ iv.tl;have p1:=(Pg.start iv).fD (s++[-1],ag);have p2:=p1.AQ 11 (aa 0) (z:=[-1]) (by decide +kernel) (by decide +kernel);have hL:=dA b;have p3:=p2.put (o:=j) (g:=aa (l0 b:Int)) (RT.jk hj t0) (yn (by rcases hj with rfl|rfl<;>decide +kernel) (by show b.L.length<b.fD.L.length;exact Yc hL)) (zu s);have p4:=p3.AQ 4 (aa 0) (z:=[-1]) (by decide +kernel) (by decide +kernel);have p5:=p4.here (l0 b) (.inr rfl) (s++[-1],ag) t0 rfl;have p6:=p5.Jf 6 ae (by decide +kernel) (by decide +kernel);exact⟨_,_,_,p6.iv,p6.tt,p6.done λi q=>q.1.elim id λz=>q.2 z⟩
end
section
variable {b b2 b7:Bx}{dp:Nat}
theorem Ku (h:kN (Qg b) b2 (dp+1)):kN b (kyB b b2) dp:=by
 intro S T s iv hs;have t0:(T++[(s++[-2],ag)])[l0 b]?=aa (s++[-2],ag):=lD _ iv.tl;have p1:=(Pg.start iv).fD (s++[-2],ag);have t1:(T++[(s++[-2],ag)]++[(s++[-2],ag)])[l1 b]?=aa (s++[-2],ag):=lD _ p1.iv.tl;have p2:=p1.fD (s++[-2],ag);have e1:=Gv b;have hL:b.fD.fD.L.length=b.L.length+2:=by rw[dA,dA]
 have p3:=p2.AQ 11 (aa 0) (z:=[-1]) (by decide +kernel) (by decide +kernel);have p4:=p3.row 76 ae (z:=[-2]) (by decide +kernel) (by decide +kernel);have p5:=p4.here (l0 b) (.inl (.inr rfl)) (s++[-2],ag) (gc t0) rfl;have hL2:((((b.fD.fD.put 11 (aa 0)).put 76 ae).here (l0 b))).L.length=b.L.length+2:=by rw[gI];exact hL
 have a2:s++[-2]++[-1]=s++[-2,-1]:=by rw[aV];rfl
 have p6:=p5.put (o:=77) (g:=aa (l1 b:Int)) (nx:=s++[-2,-1]) (a2▸RT.nxi t1) (yn (by decide +kernel) (Ur e1 hL2)) ⟨_,rfl⟩;have p7:=p6.row 12 (aa 0) (z:=[-2,-1]) (by decide +kernel) (by decide +kernel);have p8:=p7.row 6 ae (z:=[-2]) (by decide +kernel) (by decide +kernel);refine D9 (h _ _ _ p8.iv (by rw[ao,hs];rfl)) λCN T2 P1 JP wh k2=>?_;have Cz:=Gx b;have Bj:=k2.ll;have p9:=p8.M8 JP wh k2 λi q=>by
  refine(?_:i<(Qg b).L.length);have:l1 b=b.fD.L.length:=rfl;rcases q.1 with(z|z)|z
  .exact z.elim
  .exact Up Cz z
  .exact Uo e1 Cz this z
 have Jo:=p9.put (o:=58) (g:=aa (l0 b:Int)) (nx:=s++[-2]) (RT.jmp (wh _ _ (gc t0))) (yn (by decide +kernel) (by show b.L.length<_;exact Um Cz Bj)) ⟨_,rfl⟩;have p11:=Jo.here (l1 b) ⟨.inr rfl,λq=>by have:l0 b=b.L.length:=rfl;exact Ul e1 q this⟩ (s++[-2],ag) (wh _ _ t1) rfl;have p12:=p11.Jf 6 ae (by decide +kernel) (by decide +kernel);refine⟨_,_,_,p12.iv,p12.tt,p12.done λi q=>?_⟩;rcases q.1.1 with(z|z)|z
 .exact z
 .exact q.1.2 z
 .exact q.2 z
end
theorem qu  {q:Int}(h:L[i]?=aa q):L.getD i 0=q:=by rw[bU,h];rfl
section
variable {b:Bx}{S0 Sn:List cY}{s cur:cY}{T0 T:List LT}
theorem Pg.x5 (h:Pg b0 b S0 s Sn s T0 T Hs own)(fin:Bool)(i j k:Nat){A E:Nat}(hA:b.L[i]?=aa (A:Int))(hE:b.L[j]?=aa (E:Int))(hH:b.L[k]?=aa (H:Int))
  (r1:b0.L.length<=i/\¬own i)(r2:b0.L.length<=j/\¬own j)(r3:b0.L.length<=k/\¬own k)(o1:b0.R.length=A)(o2:A<E)(o3:E<=H)(o4:H<=b.R.length)
  (hp:∀y∈Hs,mf (k8 b.L y) ⟨A,E,H,s.length,fin⟩)(hT:T[k]?=aa (if fin=af then(s,af)else(s++[-1],ag))) :
  Pg b0 (b.x5 ⟨i,j,k,s.length,fin⟩) S0 s Sn s T0 T (Hs++[⟨i,j,k,s.length,fin⟩]) own:=by
 have la:=λ{i:Nat} {q:Int} (e:b.L[i]?=aa q)=>(aA.1 e).1;have ex:k8 b.L ⟨i,j,k,s.length,fin⟩=⟨A,E,H,s.length,fin⟩:=by unfold k8;rw[qu hA,qu hE,qu hH]
 refine⟨h.iv.x5 _,h.tt,h.keep,h.ll,h.new,h.ow,h.rl,h.P9,h.pre,h.pc,by show b.H++_=_;rw[h.hE,aV],λx hx=>?_,?_,h.fst⟩
 .rcases bg.1 hx with hx|hx
  .exact h.hI x hx
  .rw[au.1 hx];exact⟨⟨r1.1,la hA,r1.2⟩,⟨r2.1,la hE,r2.2⟩,⟨r3.1,la hH,r3.2⟩⟩
 .rw[bM];refine(?_:HB _ _ (Hs.map (k8 b.L)++[k8 b.L ⟨i,j,k,s.length,fin⟩]) _);rw[ex];have rl:=h.rl;have sl:=h.P9;refine h.hb.snoc (by dsimp only;exact Uk o1 o2 o3 o4) (λy hy=>?_) λp t h1 h2 e=>?_
  ·(refine dB (bX.1 hy) λx hx z1=>?_;subst z1);exact hp x hx
  .have h1:(A:Int)<=p:=h1;have h2:(p:Int)<E:=h2;have e2:(S0++(Sn++[s]))[p]?=aa t:=by rw[<- aV];exact e
   rw[cB (by lia),aZ (by lia)]at e2;obtain⟨u,rfl⟩:=h.pre t (aN e2);refine⟨by rw[ao];show((s.length:Nat):Int)<=_;exact Uj,?_⟩;rcases h.iv.lb k H _ hH hT with q|⟨_,q⟩
   .exact(LK q).elim
   .refine(?_:(S0++Sn++[s])[(H:Int).toNat]?=_);rw[q];unfold H5;refine(?_:aa (ty H _)=aa ((s++u).take ((s.length:Nat):Int).toNat++[-1]++if fin=af then[(H:Int)]else[]));rw[cg,List.take_left];induction fin with
    |true=>unfold ty;rw[if_pos rfl,if_pos rfl,if_pos rfl,aV];rfl
    |false=>unfold ty;rw[if_neg bq,if_neg bq,if_neg bq,aP]
end
section
variable {b b2 b7:Bx}{dp:Nat}
theorem O1 (h:kN (M4 b) b2 dp)(fin:Bool){S:List cY}{T:List LT}{s:cY}(iv:Iv b S s T)(hs:s.length=dp):∃Sn T1 Hs,Pg b (m5 b b2) S s Sn s T T1 Hs (λi=>i=l2 b\/i=l3 b)/\T1[l2 b]?=aa (if fin=af then(s,af)else(s++[-1],ag))/\T1[l3 b]?=aa (s,ag) /\
  (m5 b b2).L[l0 b]?=aa (b.R.length:Int)/\(∃E:Nat,(m5 b b2).L[l1 b]?=aa (E:Int)/\b.R.length<E/\E<=(m5 b b2).R.length/\∀y∈Hs,(k8 (m5 b b2).L y).e<=E)/\b.L.length+4<=(m5 b b2).L.length:=by
 let τ:LT:=if fin=af then(s,af)else(s++[-1],ag)
 have t0:(T++[(s,ag)])[l0 b]?=aa (s,ag):=lD _ iv.tl;have p1:=(Pg.start iv).fD (s,ag);have t1:(T++[(s,ag)]++[(s,ag)])[l1 b]?=aa (s,ag):=lD _ p1.iv.tl;have p2:=p1.fD (s,ag);have t2:(T++[(s,ag)]++[(s,ag)]++[τ])[l2 b]?=aa τ:=lD _ p2.iv.tl;have p3:=p2.fD τ;have t3:(T++[(s,ag)]++[(s,ag)]++[τ]++[(s,ag)])[l3 b]?=aa (s,ag):=lD _ p3.iv.tl;have p4:=p3.fD (s,ag);have e0:l0 b=b.L.length:=rfl;have e1:=Gv b;have e2:=H4 b;have e3:=l3e b;have p5:=p4.here (l0 b) (.inl (.inl (.inl (.inr rfl)))) (s,ag) (gc (gc (gc t0))) rfl;refine D9 (h _ _ _ p5.iv hs) λCN T2 P1 JP wh k2=>?_;have Cz:=G8 b;have Bj:=k2.ll;have hrl:=k2.rl;have q1:b.fD.L.length=l1 b:=rfl;have q2:b.fD.fD.L.length=l2 b:=rfl;have q3:b.fD.fD.fD.L.length=l3 b:=rfl;have p6:=p5.M8 JP wh k2 λi q=>by
  refine(?_:i<(M4 b).L.length);rcases q.1 with(((z|z)|z)|z)|z
  .exact z.elim
  all_goals lia
 have p7:=p6.AQ 18 (aa 1) (z:=[-1]) (by decide +kernel) (by decide +kernel);have p8:=p7.Jf 6 ae (by decide +kernel) (by decide +kernel);have p9:=p8.here (l1 b) ⟨.inl (.inl (.inr rfl)),by exact LJ e0 e1⟩ (s,ag) (wh _ _ (gc (gc t1))) rfl;have hB:(m5 b b2).L.length=b2.L.length:=gI _ _;have hRB:(m5 b b2).R.length=b2.R.length+2:=by refine(?_:((b2.R++[_])++[_]).length=_);rw[ao,ao];rfl
 have hRA:(M4 b).R.length=b.R.length:=rfl;refine⟨_,_,_,p9.YK λi=>⟨?_,?_⟩,wh _ _ (gc t2),wh _ _ t3,?_,⟨b2.R.length+2,?_,by exact Ui hrl hRA,by exact Uh hrl hRB,λy hy=>?_⟩,by exact Ug Cz Bj hB⟩
 .rintro⟨⟨(((z|z)|z)|z)|z,y0⟩,y1⟩
  .exact z.elim
  .exact absurd z y0
  .exact absurd z y1
  .exact .inl z
  .exact .inr z
 .rintro(z|z)
  .exact⟨⟨.inl (.inr z),by exact Ue e0 e2 z⟩,by exact Ud e1 e2 z⟩
  .exact⟨⟨.inr z,by exact Uc e0 e3 z⟩,by exact Ub e1 e3 z⟩
 .have x1:(m5 b b2).L[l0 b]?=b2.L[l0 b]?:=eC _ (LJ e0 e1);rw[x1,k2.keep _ (Ua e0 Cz)];exact qr _ (by rw[dA,q3];exact T9 e0 e3)
 .have:=qr ((b2.put 18 (aa 1)).put 6 ae) (i:=l1 b) (show l1 b<b2.L.length by exact T8 e1 Cz Bj);rw[show(m5 b b2).L[l1 b]?=_ from this];rw[show((b2.put 18 (aa 1)).put 6 ae).R.length=b2.R.length+2 from hRB]
 .have hI:=k2.hI y hy;have e:k8 (m5 b b2).L y=k8 b2.L y:=rh (eC _ (T7 e1 Cz hI)) (eC _ (T5 e1 Cz hI)) (eC _ (T4 e1 Cz hI));rw[e];have:=(k2.hb.rg _ (bX.2 ⟨y,hy,rfl⟩)).2.2.1;exact TZ hrl this
end
section
variable {b b2 b7:Bx}{dp:Nat}{S Sn:List cY}{s:cY}{T T6:List LT}
theorem zP (fin:Bool)(p:Pg b bE S s Sn s T T6 (Hs++Hs3) own)(sQ:∀i,¬own i){A E:Nat}(hA:bE.L[l0 b]?=aa (A:Int))(hE:bE.L[l1 b]?=aa (E:Int))(hH:bE.L[l2 b]?=aa (H:Int))(o1:b.R.length=A)(o2:A<E)(o3:E<=H)(o4:H<=bE.R.length)
  (y1:∀y∈Hs,(k8 bE.L y).e<=E)(y2:∀y∈Hs3,(H:Int)<=(k8 bE.L y).s)(hT:T6[l2 b]?=aa (if fin=af then(s,af)else(s++[-1],ag))) :
  ∃Sn T' Hs,Iv (bE.x5 ⟨l0 b,l1 b,l2 b,s.length,fin⟩) (S++Sn) s T'/\(∀(i:Nat) (t:LT),T[i]?=aa t->T'[i]?=aa t)/\Bk b (bE.x5 ⟨l0 b,l1 b,l2 b,s.length,fin⟩) S s Sn Hs:=by
 have e0:l0 b=b.L.length:=rfl;have e1:=Gv b;have e2:=H4 b;have q:=p.x5 fin (l0 b) (l1 b) (l2 b) hA hE hH ⟨by exact TY e0,sQ _⟩ ⟨by exact FP e1,sQ _⟩ ⟨by exact Og e2,sQ _⟩ o1 o2 o3 o4 (λy hy=>?_) hT
 .exact⟨_,_,_,q.iv,q.tt,q.done sQ⟩
 .have r:=p.hb.rg _ (bX.2 ⟨y,hy,rfl⟩);intro z1 z2;rcases bg.1 hy with hy|hy
  .have:=y1 y hy;exact⟨by show(A:Int)<=_;exact TX o1 r,this⟩
  .have:=y2 y hy;exfalso;have z1:(k8 bE.L y).s<(E:Int):=z1;lia
theorem Kw (fin:Bool)(h:kN (M4 b) b2 dp)(h2:kN (Eg fin b b2) b7 (dp+if fin then 2 else 0)):kN b (grE fin dp b b7) dp:=by
 intro S T s iv hs;(refine o35 (O1 h fin iv hs) λSn T1 Hs p Nx tl3 hA z1 hlen=>?_;obtain⟨E,hE,oE,oE2,hEy⟩:=z1);have e0:l0 b=b.L.length:=rfl;have e1:=Gv b;have e2:=H4 b;have e3:=l3e b;have hI:=p.hI;induction fin with
 |true =>
  rw[if_pos rfl]at Nx;have p1:=p.put (o:=78) (g:=aa (l2 b:Int)) (nx:=s) (RT.go Nx) (yn (by decide +kernel) (FD hlen e2)) (zu s);have p2:=p1.put (o:=58) (g:=aa (l3 b:Int)) (nx:=s++[-1,((((m5 b b2).put 78 (aa (l2 b:Int))).put 58 (aa (l3 b:Int))).R.length:Int)]) (RT.jmp tl3) (yn (by decide +kernel) (by show l3 b<(m5 b b2).L.length;exact LI hlen e3)) ⟨_,rfl⟩;have p3:=p2.here (l2 b) (.inl rfl) (s,af) Nx rfl;refine D9 (h2 _ _ _ p3.iv (by rw[ao,hs];rfl)) λSn3 T3 Hs3 Zh HZ k3=>?_;have hD:(Eg af b b2).L.length=(m5 b b2).L.length:=gI _ _;have Qv:(Eg af b b2).R.length=(m5 b b2).R.length+2:=by refine(?_:(((m5 b b2).R++[_])++[_]).length=_);rw[ao,ao];rfl
  have OS:=k3.ll;have hr3:=k3.rl;have p4:=p3.M8 Zh HZ k3 λi q=>by refine(?_:i<(Eg af b b2).L.length);rcases q.1 with z|z<;>lia
  have p5:=p4.put (o:=79) (g:=ae) (nx:=s) (RT.re (eK _)) (vr (by decide +kernel)) (zu s);have p6:=p5.here (l3 b) ⟨.inr rfl,by exact B8 e2 e3⟩ (s,ag) (HZ _ _ tl3) rfl;have L1:∀i,i<(m5 b b2).L.length->i≠l2 b->i≠l3 b->((b7.put 79 ae).here (l3 b)).L[i]?=(m5 b b2).L[i]?:=λi h1 h2 h3=>by rw[eC _ (lE h3)];refine(?_:b7.L[i]?=_);rw[k3.keep i (zl hD h1)];exact eC _ (lE h2)
  subst hs;refine zP (bE:=(b7.put 79 ae).here (l3 b)) af p6 (λi q=>by rcases q.1.1 with z|z;exact q.1.2 z;exact q.2 z) (A:=b.R.length) (E:=E) (H:=(m5 b b2).R.length+2) ((L1 _ (LF hlen e0) (LD e0 e2) (LB e0 e3)).trans hA) ((L1 _ (LA hlen e1) (Lz e1 e2) (Ly e1 e3)).trans hE) ?_ rfl oE (Tq oE2) ?_ (λy hy=>?_) (λy hy=>?_) (by rw[if_pos rfl];exact HZ _ _ Nx)
  .rw[eC _ (B8 e2 e3)];refine(?_:b7.L[l2 b]?=_);rw[k3.keep _ (Lw hlen e2 hD),<- Qv];exact qr _ (show l2 b<(m5 b b2).L.length by exact FD hlen e2)
  .refine(?_:_<=(b7.R++[_]).length);rw[ao];exact Tj Qv hr3
  ·(refine qR (hI y hy) λz1 z2 z3=>?_;obtain⟨a1,a2,a3⟩:=z1;obtain⟨c1,c2,c3⟩:=z2;obtain⟨d1,d2,d3⟩:=z3);rw[rh (L1 _ a2 (λz=>a3 (.inl z)) (λz=>a3 (.inr z))) (L1 _ c2 (λz=>c3 (.inl z)) (λz=>c3 (.inr z))) (L1 _ d2 (λz=>d3 (.inl z)) (λz=>d3 (.inr z)))];exact hEy y hy
  ·(refine qR (k3.hI y hy) λz1 z2 z3=>?_;obtain⟨a1,a2⟩:=z1;obtain⟨c1,c2⟩:=z2;obtain⟨d1,d2⟩:=z3);have z:k8 ((b7.put 79 ae).here (l3 b)).L y=k8 b7.L y:=rh (eC _ (wu hlen e3 hD a1)) (eC _ (wu hlen e3 hD c1)) (eC _ (wu hlen e3 hD d1));rw[z];have:=(k3.hb.rg _ (bX.2 ⟨y,hy,rfl⟩)).1;exact SW Qv this
 |false =>
  rw[if_neg bq]at Nx;have p1:=p.put (o:=58) (g:=aa (l3 b:Int)) (nx:=s++[-1]) (RT.jmp tl3) (yn (by decide +kernel) (LI hlen e3)) ⟨_,rfl⟩;have p2:=p1.here (l2 b) (.inl rfl) (s++[-1],ag) Nx rfl;have p2b:=p2.row 12 (aa 0) (z:=[-1]) (by decide +kernel) (by decide +kernel);have p3:=p2b.Jf 6 ae (by decide +kernel) (by decide +kernel);refine D9 (h2 _ _ _ p3.iv hs) λSn3 T3 Hs3 Zh HZ k3=>?_;have hD:(Eg ag b b2).L.length=(m5 b b2).L.length:=gI _ _;have hRC:(((m5 b b2).put 58 (aa (l3 b:Int))).here (l2 b)).R.length=(m5 b b2).R.length+1:=ao;have Qv:(Eg ag b b2).R.length=(m5 b b2).R.length+3:=by refine(?_:((((m5 b b2).R++[_])++[_])++[_]).length=_);rw[ao,ao,ao];rfl
  have OS:=k3.ll;have hr3:=k3.rl;have p4:=p3.M8 Zh HZ k3 λi q=>by refine(?_:i<(Eg ag b b2).L.length);rcases q.1 with z|z<;>lia
  have p6:=p4.here (l3 b) ⟨.inr rfl,by exact B8 e2 e3⟩ (s,ag) (HZ _ _ tl3) rfl;have L1:∀i,i<(m5 b b2).L.length->i≠l2 b->i≠l3 b->(b7.here (l3 b)).L[i]?=(m5 b b2).L[i]?:=λi h1 h2 h3=>by rw[eC _ (lE h3),k3.keep i (zl hD h1)];exact eC _ (lE h2)
  subst hs;refine zP (bE:=b7.here (l3 b)) ag p6 (λi q=>by rcases q.1.1 with z|z;exact q.1.2 z;exact q.2 z) (A:=b.R.length) (E:=E) (H:=(m5 b b2).R.length+1) ((L1 _ (LF hlen e0) (LD e0 e2) (LB e0 e3)).trans hA) ((L1 _ (LA hlen e1) (Lz e1 e2) (Ly e1 e3)).trans hE) ?_ rfl oE (Of oE2) ?_ (λy hy=>?_) (λy hy=>?_) (by rw[if_neg bq];exact HZ _ _ Nx)
  .rw[eC _ (B8 e2 e3),k3.keep _ (Lw hlen e2 hD),<- hRC];exact qr _ (show l2 b<(m5 b b2).L.length by exact FD hlen e2)
  .skip
   exact SK Qv hr3
  ·(refine qR (hI y hy) λz1 z2 z3=>?_;obtain⟨a1,a2,a3⟩:=z1;obtain⟨c1,c2,c3⟩:=z2;obtain⟨d1,d2,d3⟩:=z3);rw[rh (L1 _ a2 (λz=>a3 (.inl z)) (λz=>a3 (.inr z))) (L1 _ c2 (λz=>c3 (.inl z)) (λz=>c3 (.inr z))) (L1 _ d2 (λz=>d3 (.inl z)) (λz=>d3 (.inr z)))];exact hEy y hy
  ·(refine qR (k3.hI y hy) λz1 z2 z3=>?_;obtain⟨a1,a2⟩:=z1;obtain⟨c1,c2⟩:=z2;obtain⟨d1,d2⟩:=z3);have z:k8 (b7.here (l3 b)).L y=k8 b7.L y:=rh (eC _ (wu hlen e3 hD a1)) (eC _ (wu hlen e3 hD c1)) (eC _ (wu hlen e3 hD d1));rw[z];have:=(k3.hb.rg _ (bX.2 ⟨y,hy,rfl⟩)).1;exact Sm Qv this
end
theorem O3 {dp k:Nat}{b:Bx}(h:Gn dp k b b'):kN b b' dp:=by
 induction h with
 |sim h=>exact Kr h
 |lop h ih=>exact Kt ih
 |iff h h2 ih Be=>exact Kv ih Be
 |key h ih=>exact Ku ih
 |Z3 fin h h2 ih Be=>exact Kw fin ih Be
 |cnd j h=>exact Kx j h
 |out j h=>exact Ks j h
noncomputable def bx0:Bx:=⟨[],[],[]⟩
theorem iv0:Iv bx0 [] [] []:=⟨rfl,rfl,λp r s h=>(nomatch h),λi q τ h=>(nomatch h),λr h=>absurd h ba⟩
theorem Fs (p:Int):dS (65,ae) p [-1]=aa []:=by kernel_rfl
theorem KN {n:Nat}(h:kd r.1≠6)(q:dO 0 r):dO n r:=by
 unfold dO at q ⊢;by_cases e:kd r.1=0
 .rw[if_pos e]at q ⊢;exact q
 .rw[if_neg e]at q ⊢;(refine o13 q λg a c d f=>?_;try clear q);refine⟨g,a,c,d.imp id λz=>?_,f⟩;unfold Kq at z ⊢;rw[if_neg h]at z ⊢;exact z
section
variable {b:Bx}{Sn:List cY}{T:List LT}
noncomputable def qF (b:Bx):Bx:=(b.put 0 ae).put 65 ae
theorem Dw (p:Pg bx0 b [] [] Sn [] [] T Hs own)(no:∀i,¬own i)(hl:b.R.length<150)(hh:b.H.length<900) :
  Lets ((qF b).R.map (o7 (qF b).L)) ((qF b).H.map (k8 (qF b).L))/\sX 0 ((qF b).R.map (o7 (qF b).L)) ((qF b).H.map (k8 (qF b).L))/\HV (qF b):=by
 have p1:=p.AQ 0 ae (z:=[-1]) (by decide +kernel) (by decide +kernel);have iv:=p1.iv;have hn:(qF b).R.length=b.R.length+2:=by show((b.R++[_])++[_]).length=_;rw[ao,ao];rfl
 have hL:(qF b).L=b.L:=rfl;have hH:(qF b).H=Hs:=p.hE;have fD:∀i,i<b.L.length->∃q:Nat,b.L[i]?=aa (q:Int)/\q<=b.R.length:=λi hi=>by refine ti ((p.new i (bL _) hi).resolve_left (no i)) λq a U c=>?_;exact⟨q,a,c⟩
 have ar:∀r∈(qF b).R,AR b.L.length r:=λr hr=>by
  refine bZ (bg.1 hr) (λhr=>?_) λhr=>?_
  .exact iv.ar r hr
  .rw[au.1 hr];exact vr (by decide +kernel)
 have mem:∀r'∈(qF b).R.map (o7 b.L),∃r,AR b.L.length r/\r'=o7 b.L r:=λr' h=>by(refine dB (bX.1 h) λr hr z1=>?_;subst z1);exact⟨r,ar r hr,rfl⟩
 have j6:∀r,AR b.L.length r->kd r.1=6->∃q:Nat,o7 b.L r=(r.1,aa (q:Int))/\q<=b.R.length:=λr h e=>by refine dB (h.2.1 e) λl e1 e2=>?_;refine dB (fD l e2) λq a c=>?_;refine⟨q,?_,c⟩;unfold o7;rw[if_pos e,e1];refine(?_:(r.1,aa (b.L.getD l 0))=_);rw[qu a]
 have n6:∀r,kd r.1≠6->o7 b.L r=r:=λr h=>if_neg h;have hb:=p1.hb;have hb0:=p.hb;rw[hL,hH];have hLb:(b.put 0 ae).L=b.L:=rfl;rw[hLb]at hb;have MW:((qF b).R.map (o7 b.L)).length=b.R.length+2:=by rw[ak,hn]
 have valid:Valid ((qF b).R.map (o7 b.L)) (Hs.map (k8 b.L)):=by
  refine⟨λr' DG=>?_,λh hm=>?_,hb0.pr⟩
  ·(refine dB (mem r' DG) λr h z1=>?_;subst z1);rw[MW];by_cases e:kd r.1=6
   .refine dB (j6 r h e) λq e1 e2=>?_;rw[e1];unfold dO;rw[if_neg (by show¬kd r.1=0;exact Mh e)];refine⟨q,rfl,eK _,.inr ?_,λz=>absurd (z:kd r.1=2) (TU e z)⟩;rw[e];exact TR e2
   .rw[n6 r e];exact KN e (h.2.2 e).1
  .have:=hb0.rg h hm;rw[MW];unfold Ef;refine⟨⟨by exact TQ this,by exact TP this,by exact TO this⟩,⟨by exact LH this,by exact TN this⟩,by exact TM this,λz=>by exact TL this z⟩
 refine⟨⟨valid,?_⟩,?_,?_⟩
 .refine⟨λq=>if 0<=q/\q<b.R.length+2 then(([]++(Sn++[[]]))++[[]++[-1]]:List cY)[q.toNat]? else ae,?_,λq s hs=>?_⟩
  .rw[if_pos ⟨gy _,by exact TK⟩];exact p1.fst
  .by_cases hq:0<=q/\q<b.R.length+2
   .rw[if_pos hq]at hs;rw[MW];refine⟨by exact TJ hq,?_⟩;have sl:=iv.sl;have Cw:(b.put 0 ae).R.length=b.R.length+1:=ao;obtain⟨p',rfl⟩:=eZ hq.1;rw[cg]at hs;have inS:∀(x:Int) (t:cY),0<=x->([]++(Sn++[[]])++[[]++[-1]]:List cY)[x.toNat]?=aa t->(if 0<=x/\x<b.R.length+2 then([]++(Sn++[[]])++[[]++[-1]]:List cY)[x.toNat]? else ae)=aa t:=λx t h0 h1=>by have:=(aA.1 h1).1;rw[ao,sl,Cw]at this;have h2:x.toNat<b.R.length+2:=this;rw[if_pos ⟨h0,by exact TH h0 h2⟩];exact h1
    have thr:∀o,∃t,thrown (Hs.map (k8 b.L)) o p' s=aa t/\∀e∈t,(if 0<=e.1/\e.1<b.R.length+2 then([]++(Sn++[[]])++[[]++[-1]]:List cY)[e.1.toNat]? else ae)=aa e.2:=λo=>by
     unfold thrown;induction eo:over (Hs.map (k8 b.L)) p' with
     |none=>exact⟨[],rfl,λU h=>absurd h ba⟩
     |some a =>
      by_cases hqu:o∈Ji
      .exact⟨[],if_pos hqu,λU h=>absurd h ba⟩
      .obtain⟨x,y⟩:=hb.th p' s a hs eo;have:=hb.rg a (uu eo).1;refine⟨_,(if_neg hqu).trans (if_neg (TG x)),λe he=>?_⟩;rw[au.1 he];exact inS a.h _ (LH this) y
    by_cases zN:p'<b.R.length+1
    .have hr1:(b.put 0 ae).R[p']?=aa ((b.put 0 ae).R[p']'(FC Cw hq zN)):=bA (FC Cw hq zN);generalize(b.put 0 ae).R[p']'(FC Cw hq zN)=r at hr1;have Qm:([]++(Sn++[[]]):List cY)[p']?=aa s:=by rw[aZ (by rw[sl,Cw];exact zN)]at hs;exact hs
     refine dB (iv.rt p' r s hr1 Qm) λnx n1 n2=>?_;refine dB (n2 p' b.L) λl w1 w2=>?_;refine dB (thr (o7 b.L r).1) λt t1 t2=>?_;have hc:((qF b).R.map (o7 b.L))[((p':Nat):Int).toNat]?=aa (o7 b.L r):=by rw[cg,cy];refine(?_:(((b.put 0 ae).R++[_])[p']?).map _=_);rw[gc hr1];rfl
     refine⟨l++t,by rw[step_at hc,w1];dsimp only;rw[t1],λe he=>?_⟩;refine bZ (bg.1 he) (λhe=>?_) λhe=>?_
     .rcases w2 e he with rfl|⟨i,τ,a,c,rfl⟩
      .exact inS _ _ (by show(0:Int)<=p'+1;exact Ml) (by rw[show((p':Nat)+1:Int).toNat=p'+1 by lia];exact n1)
      .have hi:i<b.L.length:=by rw[<- show T.length=b.L.length from iv.tl];exact(aA.1 c).1
       refine dB (fD i hi) λq a1 a2=>?_;rw[qu a1];rcases iv.lb i q τ a1 c with z|⟨z1,z2⟩
       .exact(LK z).elim
       .exact inS _ _ z1 z2
     .exact t2 e he
    .have ep:p'=b.R.length+1:=by exact Th hq zN
     have es:s=[-1]:=by rw[ep,<- Cw,<- sl,cP]at hs;exact(aj hs).symm
     refine dB (thr 65) λt t1 t2=>?_;have hc:((qF b).R.map (o7 b.L))[((p':Nat):Int).toNat]?=aa (65,ae):=by rw[cg,cy,ep,<- Cw];show(((b.put 0 ae).R++[_])[_]?).map _=_;rw[cP];refine(?_:aa (o7 b.L (65,ae))=_);rw[n6 _ (by decide +kernel)]
     refine⟨[]++t,by rw[step_at hc,es,Fs];dsimp only;rw[<- es,t1],λe he=>t2 e he⟩
   .rw[if_neg hq]at hs;exact nomatch hs
 .have hHl:Hs.length<900:=by rw[<- show b.H=Hs from p.hE];exact hh
  refine⟨by exact Tc MW,by exact S9 hl MW,by rw[ak];exact hHl,λr' DG=>?_,λr' DG g e=>?_,λh hm=>?_,λh hm=>?_⟩
  ·(refine dB (mem r' DG) λr h z1=>?_;subst z1);unfold o7
   split<;>exact h.1
  ·(refine dB (mem r' DG) λr h z1=>?_;subst z1);by_cases e6:kd r.1=6
   .refine dB (j6 r h e6) λq e1 e2=>?_;rw[e1]at e;have e:=aj e;have e:(q:Int)=g:=e;push_cast;lia
   .rw[n6 r e6]at e;have a1:=(h.2.2 e6).2 g e;have a2:=(h.2.2 e6).1.nn;rw[e]at a2;have a2:0<=g:=a2;push_cast;exact S4 a1 a2
  .have:=hb0.rg h hm;push_cast;exact S1 hl this
  .have:=hb0.rg h hm;push_cast;exact SV hl this
 .refine⟨λr hr=>(ar r hr).1,λr hr=>(ar r hr).2.1,λh hm=>?_⟩;rw[hH]at hm;(refine qR (p.hI h hm) λz1 z2 z3=>?_;obtain⟨_,a,_⟩:=z1;obtain⟨_,c,_⟩:=z2;obtain⟨_,e,_⟩:=z3);exact⟨a,c,e⟩
end
inductive JW (l q:List Int):Vs->bp->Prop
 |mk (s:Int) (a:Option V):0<=s->s<2147483647->JW l q [aa (.lst (l.map .int)),aa (.loc 0),aa (.int s),a] [.list (q.map .int)]
theorem Hz {l:List Int}(hl:l.length<=63)(h:∀x,x.Ok->Q (.loc 1) (eV x [])):Wp (cl (d+1) 22 [.lst (l.map .int)] []) Q E:=by
 refine call nQ 3 rfl rfl ?_;dsimp only[nQ,sq,cW,cq,dX,eH,dT,ew,fJ,fH,dF,dv,cZ,mS,i6,i5,Gs,xe,Ie,zM,d5,d6,d4,gq,az,aD,ah,ai,aF,aG];refine kZ ?_;dsimp only[cW,cq,tQ,Gs,Ie,acv,ah];refine shL (by decide) (by decide) (by rw[ak];exact B7 hl) ?_;rw[show(40:Int).toNat=40 from rfl,<- mB];have ht:(l.take 40).length<=63:=by rw[cv];exact Tv
 refine⟨by rw[ak,decide_eq_true (p:=(l.take 40).length<lim) (show _<100000 by exact B7 ht)];rfl,Gi (CI V.int (λi=>V.int (i.natAbs:Int)) λi U=>?_) ⟨show _<100000 by rw[ak];exact B7 ht,lm rfl,rfl,?_⟩⟩
 .exact rfl
 generalize l.take 40=p at ht;have em:p.map (λi=>V.int (i.natAbs:Int))=(p.map λi:Int=>(i.natAbs:Int)).map V.int:=by rw[s6];rfl
 rw[em];generalize hq:p.map (λi:Int=>(i.natAbs:Int))=q;have hq1:q.length<=63:=by rw[<- hq,ak];exact ht
 have hq2:∀i∈q,0<=i:=λi hi=>by rw[<- hq]at hi;(refine dB (bX.1 hi) λj U z1=>?_;subst z1);exact eK _
 dsimp only[aD,dU];refine Cq (l:=q.map .int) rfl ?_;refine j9 (q.map .int) (λU=>JW l q) ?_ ?_ ?_ 1000 0 _ _ (bL _) (by rw[ak];exact Tt hq1) (.mk 7411 ae (by decide) (by decide))
 .intro i vs τ I;induction I with|mk=>rfl
 .intro i v vs τ hv I;induction I with|mk s a s0 s1=>?_
  (refine dB (nE hv) λz hz z1=>?_;subst z1);have z0:=hq2 z (aN hz);refine Gi (a:=[aa (.lst (l.map .int)),aa (.loc 0),aa (.int s),aa (.int z)]) rfl (fF _ _ _ _ _ _ _ _ _ ?_);dsimp only[cW,cq,eP,eu,dv,cZ,Gs,Ig,cmi,cri,ah,ai,aF,aG];have m0:0<=z%1000003:=xk _ (by decide);refine⟨by rw[mx (Rd s0 s1)];rfl,by decide,by decide,JW.mk _ _ (xk _ (by decide)) (Int.emod_lt_of_pos _ (by decide))⟩
 .intro vs τ I;induction I with|mk s a s0 s1=>?_
  dsimp only[Gs,az,aD,ah,ai,dU,eI];exact⟨lm rfl,h ⟨q,s⟩ ⟨hq2,s0,s1,show q.length<100000 by exact B7 hq1⟩⟩
theorem EB {G:List V}{Φ:Nat->List V->bp->R V}{ks:List Str}{l:List X}
  (h:xo G Φ vs E l cs (σ++[.dN []]) λxs cD=>cD[σ.length]?=aa (.dN [])/\(ks.length=xs.length/\xs.length<=15)/\Q (.loc σ.length) (cD.set σ.length (.dN ((ks.zip xs).foldl (λd kv=>lQ d kv.1 kv.2) [])))):we G Φ vs E (.sT ks l) cs σ Q:=by
 refine Wp.bind (Wp.imp (lu G Φ vs E l cs _ _ h) λxs cD h=>?_);(refine qR h λh0 h1 h2=>?_;try clear h);rw[if_pos h1,h0];exact h2
theorem Pf:O.dN (gx (λd kv=>lQ d kv.1 kv.2) [] ([st "rows",st "labels",st "handlers"].zip [V.loc 3,V.loc 4,V.loc 5]))=aam:=by kernel_rfl
noncomputable def lw9:List S:=[.expr (.call 35 [.v 1,.v 5,.v 2]),
  .ite (.cmp (.call 42 [.v 5]) [.ne] [.call 41 [.v 5,.v 2]]) [.ret (.k (.bool ag))] []]
theorem Kz {k:Nat}{hs:List Hn}(hx:x.Ok)(u:g9 (eV x γ) (k+2) c hs)(ok:sX t c hs)(ht:t<5)
  (h:∀x γ c hs,x.Ok->g9 (eV x γ) (k+2) c hs->sX (t+1) c hs->A [v0,aa (.loc 1),aa fg,v3,v4,aa (.loc (k+2))] (eV x γ)) :
  iP G (cl (d+6)) 1000 E lw9 [v0,aa (.loc 1),aa fg,v3,v4,aa (.loc (k+2))] (eV x γ) A K:=by
 unfold lw9;dsimp only[cW,cq,cj,dy,dT,ew,eT,el,dW,dF,dv,cZ,Gs,Tb,ah,ai];refine Ky hx u ok ?_;intro x1 γ1 c1 Zr ru u1 F5;have hc:=F5.len;have hh:=F5.hl;have hb:∀r∈c1,∀g,r.2=aa g->g<1000000000:=λr hr g e=>by have:=F5.g r hr g e;push_cast at this;lia
 have GX:∀h∈Zr,HBd h:=λh hm=>⟨by have:=F5.s h hm;push_cast at this;lia,by have:=F5.e h hm;push_cast at this;lia⟩;refine Gm u1 (zm hc) F5.pos hh F5.op (λq τ=>?_) λq τ=>?_
 .refine uh (u1.app τ) hc hh F5.op hb GX (λq2 Ad=>?_) λq2=>absurd q q2;exact h x1 (γ1++τ++Ad) c1 Zr ru ((u1.app τ).app Ad) F5
 .refine uh (u1.app τ) hc hh F5.op hb GX (λq2=>absurd q2 q) λq2 Ad=>?_;exact h x1 (γ1++τ++Ad) c1 Zr ru ((u1.app τ).app Ad) F5
noncomputable def JE (f8:S):List S:=[.ite (.or [.cmp (.len (.v 2)) [.ne] [.g 2],.not (.call 42 [.v 5]),.not (.call 41 [.v 5,.v 2])]) [.ret (.k (.bool ag))] [],
 f8,.ret (.k (.bool af))]
def DA:S:=.jv (.n 4) (.nz [.bin .add ag (.k (.int 1)) (.call 23 [.v 1,.k (.int 3)])]) lw9
def Ze (f3:S)(tl:List S):List S:=[.fW [.n 1,.n 2] (.tup [.call 22 [.v 0],.call 24 []]),
 .asg 3 (.sT [(st "rows"),(st "labels"),(st "handlers")] [.lst af [],.lst af [],.lst af []]),f3,
 .expr (.call 26 [.v 3,.k (.str (st "UNDEF"))]),
 .expr (.call 26 [.v 3,.k (.str (st "RET"))]),
 .asg 5 (.call 34 [.v 3,.v 2])]++tl
noncomputable def Zd:S:=.jv (.n 4) (.nz [.bin .add ag (.k (.int 1)) (.call 23 [.v 1,.k (.int 2)])]) [.expr (.call 30 [.v 1,.v 3,.k (.int 0),.k (.int 2)])]
theorem PJ:M9=Ze Zd (JE DA):=rfl
section
variable {k:Nat}{hs:List Hn}
inductive J8 (k:Nat)(v0 v3:Option V)(vl:List V):Vs->bp->Prop
 |mk (js:List Nat) (x:Dr) (γ:bp) (c:List Row) (hs:List Hn) (t:Nat) (v4:Option V):vl=js.map (λ(i:Nat)=>V.int (0+(i:Int)))->x.Ok->g9 (eV x γ) (k+2) c hs->sX t c hs->t+js.length<=3->J8 k v0 v3 vl [v0,aa (.loc 1),aa fg,v3,v4,aa (.loc (k+2))] (eV x γ)
inductive J0 (l:List Int)(vl:List V):Vs->bp->Prop
 |mk (js:List Nat) (x:Dr) (b:Bx) (γ:bp) (Sn:List cY) (T:List LT) (Hs:List Hl) (n:Nat) (v4:Option V):vl=js.map (λ(i:Nat)=>V.int (0+(i:Int)))->x.Ok->Pg bx0 b [] [] Sn [] [] T Hs (λU=>False)->Bd b n->n+54*js.length<=108->J0 l vl [aa (.lst (l.map .int)),aa (.loc 1),aa fg,aa (.loc 2),v4,ae] (gM x b γ)
theorem JB (hx:x.Ok)(u:g9 (eV x γ) (k+2) c hs)(ok:sX 0 c hs)(h:∀σ,Q (.bool af) σ):iP G (cl (d+6)) 1000 E [DA,.ret (.k (.bool af))] [v0,aa (.loc 1),aa fg,v3,v4,aa (.loc (k+2))] (eV x γ) (λU σ=>Q .none σ) (λv U σ=>Q v σ):=by
 have ZM:=λ(x:Dr) (γ:bp) c hs t v4 hx u ok ht A h=>Kz (d:=d) (k:=k) (t:=t) (x:=x) (γ:=γ) (c:=c) (hs:=hs) (E:=E) (v0:=v0) (v3:=v3) (v4:=v4) (A:=A) (K:=λv U σ=>Q v σ) hx u ok ht h;delta DA;generalize lw9=bd at *;dsimp only[cW,cq,eP,dy,xq,dT,ew,fH,dF,dv,cZ,Gs,JV,ah,ai];refine jX hx (by decide) λj x1 j0 j1 ru=>?_;have u1:g9 (eV x1 γ) (k+2) c hs:=u.dr;obtain⟨j,rfl⟩:=eZ j0;dsimp only[Ig];rw[show(1:Int)+(j:Int)=((j+1:Nat):Int) by exact LC,AS (TC j1)];have hj:(fG (j+1)).length<=3:=by rw[mc];exact Tz j1
 generalize fG (j+1)=js at hj;refine oo (J8 k v0 v3) ?_ ?_ _ _ _ (.mk js x1 γ c hs 0 v4 rfl ru u1 ok (by exact Tx hj))
 .intro v vl vs τ I;induction I with|mk js x γ c hs t v4 e hx u ok ht=>?_
  induction js using List.casesOn with
  |nil=>exact nomatch e
  |cons j js =>(obtain⟨rfl,rfl⟩:=eY e);rw[az]at ht;refine Gi rfl (fF _ _ _ _ _ _ _ _ _ (ZM x γ c hs t _ hx u ok (Tu ht) _ λx' yB c' sP H6 u' ok'=>?_));exact J8.mk js x' yB c' sP (t+1) _ rfl H6 u' ok' (by exact Ts ht)
 .intro vs τ I;induction I with|mk=>exact h _
theorem JC (hx:x.Ok)(u:g9 (eV x γ) (k+2) c hs)(ok:sX 0 c hs)(hl:Lets c hs)(h:∀σ,Q (.bool af) σ):iP G (cl (d+6)) 1000 E (JE DA) [v0,aa (.loc 1),aa fg,v3,v4,aa (.loc (k+2))] (eV x γ) (λU σ=>Q .none σ) (λv U σ=>Q v σ):=by
 have h8:=λ(γ:bp) u=>JB (d:=d) (k:=k) (x:=x) (γ:=γ) (c:=c) (hs:=hs) (Q:=Q) (E:=E) (v0:=v0) (v3:=v3) (v4:=v4) hx u ok h;delta JE;generalize DA=l8 at *;have hc:=ok.len;have hh:=ok.hl;have hb:∀r∈c,∀g,r.2=aa g->g<1000000000:=λr hr g e=>by have:=ok.g r hr g e;push_cast at this;exact Tr this
 have GX:∀h∈hs,HBd h:=λh hm=>⟨by have:=ok.s h hm;push_cast at this;exact Lx this,by have:=ok.e h hm;push_cast at this;exact Lx this⟩;dsimp only[cW,cq,sH,cj,mC,i8,dy,eO,dT,ew,eT,jE,jD,dW,dF,dv,cZ,Gs,Tb,oy,qS,ah,ai];refine Gi (rfl:items (eV x γ) fg=aa (tab.map xN)) ⟨show(tab.map xN).length<100000 by rw[ak,jB];exact Jk,Gi (rfl:G[2]?=aa (.int 85)) (Gi (a:=ag) (by rw[ak,jB];rfl) (Gm u (zm hc) ok.pos hh ok.op (λU τ=>?_) λq=>absurd hl q))⟩;refine uh (u.app τ) hc hh ok.op hb GX (λU Ad=>?_) λq=>absurd hl q;exact h8 (γ++τ++Ad) ((u.app τ).app Ad)
end
theorem OB {l:List Int}(hl:l.length<=63)(h:∀σ,Q (.bool af) σ):Wp (cl (d+8) 43 [.lst (l.map .int)] []) Q E:=by
 refine call He 5 rfl rfl ?_;dsimp only[He];simp only[PJ];have h7:=λ(x:Dr) (γ:bp) k c hs v0 v3 v4 hx u ok hl=>JC (d:=d+1) (k:=k) (x:=x) (γ:=γ) (c:=c) (hs:=hs) (Q:=Q) (E:=E) (v0:=v0) (v3:=v3) (v4:=v4) hx u ok hl h;generalize JE DA=l7 at *;delta Ze Zd;dsimp only[cW,cq,dX,eP,dy,xq,dT,ew,el,eu,fJ,fH,cZ,mS,i6,i5,Gs,xe,JV,d5,d6,d4,gq,az,aD,ah,ai,aF,aG,dU,eI];refine Hz hl λx hx=>EK _ _ ⟨lm rfl,rfl,EB ?_⟩;dsimp only[eH,dT,ew,Ie,az,aD];refine⟨lm rfl,lm rfl,lm rfl,rfl,⟨rfl,by decide⟩,?_⟩;have eS:((eV x []++[O.dN []]++[O.list []]++[O.list []]++[O.list []]).set (eV x []).length (.dN (gx (λd kv=>lQ d kv.1 kv.2) [] ([st "rows",st "labels",st "handlers"].zip [V.loc (eV x []++[O.dN []]).length,V.loc (eV x []++[O.dN []]++[O.list []]).length,V.loc (eV x []++[O.dN []]++[O.list []]++[O.list []]).length]))))=gM x bx0 []:=by rw[show(gx (λd kv=>lQ d kv.1 kv.2) [] ([st "rows",st "labels",st "handlers"].zip [V.loc (eV x []++[O.dN []]).length,V.loc (eV x []++[O.dN []]++[O.list []]).length,V.loc (eV x []++[O.dN []]++[O.list []]++[O.list []]).length]))=gx (λd kv=>lQ d kv.1 kv.2) [] ([st "rows",st "labels",st "handlers"].zip [V.loc 3,V.loc 4,V.loc 5])from rfl,Pf];rfl
 simp only[eS];refine jX hx (by decide) λj x1 j0 j1 ru=>?_;obtain⟨j,rfl⟩:=eZ j0;dsimp only[Ig];rw[show(1:Int)+(j:Int)=((j+1:Nat):Int) by exact LC,AS (Tp j1)];have hj:(fG (j+1)).length<=2:=by rw[mc];exact To j1
 generalize fG (j+1)=js at hj;refine oo (J0 l) ?_ ?_ _ _ _ (.mk js x1 bx0 [] [] [] [] 0 ae rfl ru (Pg.start iv0) ⟨aO _,aO _,aO _⟩ (by exact Tn hj))
 .intro v vl vs τ I;induction I with|mk js x b γ Sn T Hs n v4 e hx p hb hn=>?_
  induction js using List.casesOn with
  |nil=>exact nomatch e
  |cons j js =>(obtain⟨rfl,rfl⟩:=eY e);rw[az]at hn;refine Gi rfl (fF _ _ _ _ _ _ _ _ _ ?_);dsimp only[cW,cq,dy,dT,ew,el,dv,cZ,Gs,ah,ai,aF,aG];refine QT 2 d x b γ 0 n 0 2 _ _ hx hb (by show n+54<4000;exact Td hn) rfl rfl λx' b' yB H6 g CC=>?_;refine D9 (O3 g _ _ _ p.iv rfl) λCN T2 P1 JP wh k2=>?_;exact J0.mk js x' b' yB _ _ _ (n+54) _ rfl H6 (p.M8 JP wh k2 λU q=>q.elim) CC (by exact S8 hn)
 .intro vs τ I;induction I with|mk js x b γ Sn T Hs n v4 e hx p hb hn=>?_
  have hr:=hb.r;have hh:=hb.h;refine qR (Dw p (λU q=>q) (S7 hn hr) (S6 hn hh)) λhL ok ro=>?_;dsimp only[Gs,ah,ai,aF,aG];refine put2 0 n0 hb (S3 hn) λhb1=>put2 65 n65 hb1 (SY hn) λEe=>Jw (b:=qF b) Ee (SU hn) ro ?_;refine h7 x _ (γ.length+4) _ _ _ _ _ hx ?_ ok hL;have u:g9 (Dl (gM x (qF b) γ) JJ 1 (((qF b).R.map (o7 (qF b).L)).map cV) (((qF b).H.map (k8 (qF b).L)).map hV)) (gM x (qF b) γ).length ((qF b).R.map (o7 (qF b).L)) ((qF b).H.map (k8 (qF b).L)):=⟨Ha rfl,gU rfl,gU rfl⟩;exact u
theorem YJ (l:List Int)(hl:l.length<=63):∃σ,kK G F 1000 25 43 [.lst (l.map .int)] []=.ok (.bool af) σ:=by
 have h:=OB (d:=17) (l:=l) (Q:=λv U=>v=.bool af) (E:=λU=>False) hl λU=>rfl;rw[M7]at h;induction e:kK G F 1000 25 43 [.lst (l.map .int)] []with
 |ok v σ =>have h2:Wp (kK G F 1000 25 43 [.lst (l.map .int)] []) (λv U=>v=.bool af) (λU=>False):=h;rw[e]at h2;exact⟨σ,by rw[show v=.bool af from h2]⟩
 |exc σ =>have h2:Wp (kK G F 1000 25 43 [.lst (l.map .int)] []) (λv U=>v=.bool af) (λU=>False):=h;rw[e]at h2;exact h2.elim
 |bad =>have h2:Wp (kK G F 1000 25 43 [.lst (l.map .int)] []) (λv U=>v=.bool af) (λU=>False):=h;rw[e]at h2;exact h2.elim
end Internal.Pu
end
noncomputable section
open PySem PySem.W PyProof.Rows
namespace Internal
variable {K α β:Type}{W:(β->av->Prop)->(ax->av->Prop)->Prop}{n:Nat}{o:O}{σ:bp}{F' X':List aJ}{ws:List ax}{ay s' s:av}{l:List V}{a x b:aJ}{r:R α}{fj h₁ h' h:bV}
structure Pl where
 a:aJ
 d:Option aJ:=ae
noncomputable def Pl.lW (p:Pl):List aJ:=p.a::p.d.toList
def Off (ρ:List Pl)(b:aJ):Prop:=∀p∈ρ,b∉p.lW
def TupAt (h:bV)(a:aJ)(vs:List ax):Prop:=∃n,h.get? a=aa {cls:=.type "tuple",data:=.seq vs.toArray n}
mutual
def bz (ρ:List Pl)(X:List aJ)(h:bV):V->ax->Prop
 |.none,w=>w=.none
 |.bool b,w=>w=.bool b
 |.int i,w=>∃t,w=.int i t
 |.str s,w=>∃t,w=.str s t
 |.tup l,w=>∃a vs,w=.ref a/\Off ρ a/\a∉X/\TupAt h a vs/\bt ρ X h l vs
 |.lst l,w=>∃a vs,w=.ref a/\Off ρ a/\a∉X/\h.PlainList a vs.toArray/\bt ρ X h l vs
 |.loc n,w=>∃p,ρ[n]?=aa p/\w=.ref p.a
def bt (ρ:List Pl)(X:List aJ)(h:bV):List V->List ax->Prop
 |[],ws=>ws=[]
 |v::l,ws=>∃w r,ws=w::r/\bz ρ X h v w/\bt ρ X h l r
end
structure dG (F:List aJ)(ρ:List Pl)(h:bV)(bJ:List Pl)(h':bV):Prop where
 pre:∃δ,bJ=ρ++δ/\∀p∈δ,∀x∈p.lW,h.objs.size<=x
 size:h.objs.size<=h'.objs.size
 ev:∀b o,h.get? b=aa o->Off ρ b->b∉F->∃sl,h'.get? b=aa {o with slots:=sl}/\((∀es n,o.data≠.dict es n)->sl=o.slots)
theorem Off.append {ρ δ:List Pl}(h:Off ρ b)(k:∀p∈δ,b∉p.lW):Off (ρ++δ) b:=λp hp=>by
 rcases bg.mp hp with q|q
 .exact h p q
 .exact k p q
theorem Off.left {ρ δ:List Pl}(h:Off (ρ++δ) b):Off ρ b:=λp hp=>h p (bS _ hp)
theorem dG.off {F:List aJ}{ρ bJ:List Pl}(g:dG F ρ h bJ h'){o:Obj}(e:h.get? b=aa o)(k:Off ρ b):Off bJ b:=by(refine dB g.pre λδ z1 GK=>?_;subst z1);refine k.append λp hp hb=>?_;exact absurd (bu e) (bO.mpr (GK p hp b hb))
theorem dG.refl {F:List aJ}{ρ:List Pl}:dG F ρ h ρ h :=
 ⟨⟨[],by simp,λU hp=>nomatch hp⟩,aO _,λU o e U U=>⟨o.slots,e,λU=>rfl⟩⟩
theorem dG.trans {F:List aJ}{ρ aH fT:List Pl}(x:dG F ρ h aH h₁)(y:dG F aH h₁ fT fj):dG F ρ h fT fj:=by
 refine⟨?_,aQ x.size y.size,λb o e k nF=>?_⟩
 ·(refine dB x.pre λδ z1 GK=>?_;subst z1);(refine dB y.pre λδ' z1 acx=>?_;subst z1);refine⟨δ++δ',by simp,λp hp z hz=>?_⟩;rcases bg.mp hp with q|q
  .exact GK p q z hz
  .exact aQ x.size (acx p q z hz)
 .refine dB (x.ev b o e k nF) λs1 e1 k1=>?_;refine dB (y.ev b _ e1 (x.off e k) nF) λs2 e2 k2=>?_;exact⟨s2,e2,λnd=>(k2 nd).trans (k1 nd)⟩
theorem dG.mono {F:List aJ}{ρ bJ:List Pl}(x:dG F ρ h bJ h')(hF:∀b∈F,b∈F'):dG F' ρ h bJ h' :=
 ⟨x.pre,x.size,λb o e k n=>x.ev b o e k λq=>n (hF b q)⟩
theorem dG.any {F:List aJ}{ρ bJ:List Pl}(x:dG [] ρ h bJ h'):dG F ρ h bJ h':=x.mono λU q=>nomatch q
theorem dG.drop {F:List aJ}{ρ bJ:List Pl}(x:dG F ρ h bJ h')(hF:∀b∈F,h.objs.size<=b):dG [] ρ h bJ h' :=
 ⟨x.pre,x.size,λb o e k U=>x.ev b o e k λq=>absurd (bu e) (bO.mpr (hF b q))⟩
def Ext (h h':bV):Prop:=h.objs.size<=h'.objs.size/\∀b o,h.get? b=aa o->h'.get? b=aa o
theorem Ext.refl:Ext h h:=⟨aO _,λU U e=>e⟩
theorem Ext.push (o:Obj):Ext h (h.push o):=⟨by simp,λU U e=>br o e⟩
theorem Ext.trans (x:Ext h h₁)(y:Ext h₁ fj):Ext h fj:=⟨aQ x.1 y.1,λb o e=>y.2 b o (x.2 b o e)⟩
theorem Ext.grow {F:List aJ}{ρ:List Pl}(x:Ext h h'):dG F ρ h ρ h' :=
 ⟨⟨[],by simp,λU hp=>nomatch hp⟩,x.1,λb o e U U=>⟨o.slots,x.2 b o e,λU=>rfl⟩⟩
theorem jb {F:List aJ}{ρ:List Pl}(s:fu x h h')(m:x∈F):dG F ρ h ρ h' :=
 ⟨⟨[],by simp,λU hp=>nomatch hp⟩,fR s.1.symm,λb o e U n=>⟨o.slots,(s.2 b λq=>n (q▸m)).trans e,λU=>rfl⟩⟩
structure mQ (F:List aJ)(ρ:List Pl)(h:bV)(bJ:List Pl)(h':bV):Prop where
 pre:∃δ,bJ=ρ++δ/\∀p∈δ,∀x∈p.lW,h.objs.size<=x
 size:h.objs.size<=h'.objs.size
 ev:∀b o,h.get? b=aa o->Off ρ b->b∉F->(∀vs,o.data≠.fields vs)->∃sl,h'.get? b=aa {o with slots:=sl}/\((∀es n,o.data≠.dict es n)->sl=o.slots)
theorem dG.g0 {F:List aJ}{ρ bJ:List Pl}(g:dG F ρ h bJ h'):mQ F ρ h bJ h':=⟨g.pre,g.size,λb o e k n U=>g.ev b o e k n⟩
theorem mQ.off {F:List aJ}{ρ bJ:List Pl}(g:mQ F ρ h bJ h'){o:Obj}(e:h.get? b=aa o)(k:Off ρ b):Off bJ b:=by(refine dB g.pre λδ z1 GK=>?_;subst z1);refine k.append λp hp hb=>?_;exact absurd (bu e) (bO.mpr (GK p hp b hb))
theorem TupAt.Z2 {F:List aJ}{ρ bJ:List Pl}{vs:List ax}(t:TupAt h a vs)(g:mQ F ρ h bJ h')(k:Off ρ a)(n:a∉F):TupAt h' a vs:=by obtain⟨m,e⟩:=t;refine dB (g.ev a _ e k n (λU z=>by exact bk z)) λsl e' q=>?_;exact⟨m,by rw[e',q (λU U z=>by exact bk z)]⟩
theorem zv {F:List aJ}{ρ bJ:List Pl}{vs:Array ax}(t:h.PlainList a vs)(g:mQ F ρ h bJ h')(k:Off ρ a)(n:a∉F):h'.PlainList a vs:=by obtain⟨m,e⟩:=t;refine dB (g.ev a _ e k n (λU z=>by exact bk z)) λsl e' q=>?_;exact⟨m,by rw[e',q (λU U z=>by exact bk z)]⟩
theorem TupAt.grow {F X:List aJ}{ρ bJ:List Pl}{vs:List ax}(t:TupAt h a vs)(g:dG F ρ h bJ h')(k:Off ρ a)(n:a∉F):TupAt h' a vs:=by obtain⟨m,e⟩:=t;refine dB (g.ev a _ e k n) λsl e' q=>?_;exact⟨m,by rw[e',q (λU U z=>by exact bk z)]⟩
theorem uq {F:List aJ}{ρ bJ:List Pl}{vs:Array ax}(t:h.PlainList a vs)(g:dG F ρ h bJ h')(k:Off ρ a)(n:a∉F):h'.PlainList a vs:=by obtain⟨m,e⟩:=t;refine dB (g.ev a _ e k n) λsl e' q=>?_;exact⟨m,by rw[e',q (λU U z=>by exact bk z)]⟩
mutual
theorem bz.hW {F X X':List aJ}{ρ bJ:List Pl}{h h':bV}(g:mQ F ρ h bJ h')(hF:∀b∈F,b∈X)(hX:∀b∈X',b∈X\/h.objs.size<=b) :
  ∀(v:V) (w:ax),bz ρ X h v w->bz bJ X' h' v w
 |.none=>λU r=>r
 |.bool _=>λU r=>r
 |.int _=>λU r=>r
 |.str _=>λU r=>r
 |.tup l=>λw r=>by
  (refine wH r λa vs z1 k n t q=>?_;try clear r;subst z1);refine⟨a,vs,rfl,?_,?_,t.Z2 g k (λz=>n (hF a z)),bt.hW g hF hX l vs q⟩
  .obtain⟨m,e⟩:=t;exact g.off e k
  .obtain⟨m,e⟩:=t;exact λz=>(hX a z).elim n λy=>absurd (bu e) (bO.mpr y)
 |.lst l=>λw r=>by
  (refine wH r λa vs z1 k n t q=>?_;try clear r;subst z1);refine⟨a,vs,rfl,?_,?_,zv t g k (λz=>n (hF a z)),bt.hW g hF hX l vs q⟩
  .obtain⟨m,e⟩:=t;exact g.off e k
  .obtain⟨m,e⟩:=t;exact λz=>(hX a z).elim n λy=>absurd (bu e) (bO.mpr y)
 |.loc n=>λw r=>by(refine dB r λp e z1=>?_;try clear r;subst z1);(refine dB g.pre λδ z1 U=>?_;subst z1);refine⟨p,?_,rfl⟩;rw[aZ (aA.mp e).1];exact e
theorem bt.hW {F X X':List aJ}{ρ bJ:List Pl}{h h':bV}(g:mQ F ρ h bJ h')(hF:∀b∈F,b∈X)(hX:∀b∈X',b∈X\/h.objs.size<=b) :
  ∀(l:List V) (ws:List ax),bt ρ X h l ws->bt bJ X' h' l ws
 |[]=>λU r=>r
 |v::l=>λws r=>by(refine mI r λw t z1 a b=>?_;try clear r;subst z1);exact bB w ⟨t,rfl,bz.hW g hF hX v w a,bt.hW g hF hX l t b⟩
end
theorem bz.mono {F X:List aJ}{ρ bJ:List Pl}(g:dG F ρ h bJ h')(hF:∀b∈F,b∈X)(hX:∀b∈X',b∈X\/h.objs.size<=b)(v:V)(w:ax)(r:bz ρ X h v w):bz bJ X' h' v w:=bz.hW g.g0 hF hX v w r
theorem bt.mono {F X:List aJ}{ρ bJ:List Pl}(g:dG F ρ h bJ h')(hF:∀b∈F,b∈X)(hX:∀b∈X',b∈X\/h.objs.size<=b)(l:List V)(ws:List ax)(r:bt ρ X h l ws):bt bJ X' h' l ws:=bt.hW g.g0 hF hX l ws r
theorem bz.less {X:List aJ}{ρ:List Pl}{v:V}{w:ax}(r:bz ρ X h v w)(hX:∀b∈X',b∈X):bz ρ X' h v w :=
 bz.mono (F:=[]) dG.refl (λU q=>nomatch q) (λb q=>.inl (hX b q)) v w r
theorem bt.less {X:List aJ}{ρ:List Pl}{v:List V}{w:List ax}(r:bt ρ X h v w)(hX:∀b∈X',b∈X):bt ρ X' h v w :=
 bt.mono (F:=[]) dG.refl (λU q=>nomatch q) (λb q=>.inl (hX b q)) v w r
theorem bt.length {ρ:List Pl}{X:List aJ}{h:bV}:∀ {l:List V} {ws:List ax},bt ρ X h l ws->l.length=ws.length
 |[],_,r=>by subst r;rfl
 |v::l,_,r=>by(refine mI r λw t z1 U b=>?_;try clear r;subst z1);simp[b.length]
theorem bt.get {ρ:List Pl}{X:List aJ}{h:bV}:∀ {l:List V} {ws:List ax} {i:Nat} {v:V},bt ρ X h l ws->l[i]?=aa v->∃w,ws[i]?=aa w/\bz ρ X h v w
 |[],_,_,_,r,e=>by simp at e
 |v::l,_,0,u,r,e=>by(refine mI r λw t z1 a b=>?_;try clear r;subst z1);simp only[ah,dY]at e ⊢;subst e;exact⟨w,rfl,a⟩
 |v::l,_,i+1,u,r,e=>by(refine mI r λw t z1 a b=>?_;try clear r;subst z1);simp only[ai]at e ⊢;exact b.get e
theorem bt.append {ρ:List Pl}{X:List aJ}{h:bV}:∀ {l l':List V} {ws Az:List ax},bt ρ X h l ws->bt ρ X h l' Az->bt ρ X h (l++l') (ws++Az)
 |[],_,_,_,r,r'=>by subst r;exact r'
 |v::l,_,_,_,r,r'=>by(refine mI r λw t z1 a b=>?_;try clear r;subst z1);exact bB w ⟨_,rfl,a,b.append r'⟩
theorem bt.nil {ρ:List Pl}{X:List aJ}:bt ρ X h [] []:=rfl
theorem bt.cons {ρ:List Pl}{X:List aJ}{v:V}{w:ax}(a:bz ρ X h v w)(b:bt ρ X h l ws):bt ρ X h (v::l) (w::ws):=by exact bB w ⟨ws,rfl,a,b⟩
theorem bt.jq {ρ:List Pl}{X:List aJ}{v:V}(r:bt ρ X h (v::l) ws):∃w t,ws=w::t/\bz ρ X h v w/\bt ρ X h l t:=by exact r
theorem bt.set {ρ:List Pl}{X:List aJ}{h:bV}:∀ {l:List V} {ws:List ax} {i:Nat} {v:V} {w:ax},bt ρ X h l ws->bz ρ X h v w->bt ρ X h (l.set i v) (ws.set i w)
 |[],_,_,_,_,r,_=>by subst r;exact rfl
 |_::l,_,0,_,_,r,q=>by(refine mI r.jq λU t z1 a b=>?_;subst z1);exact .cons q b
 |_::l,_,i+1,_,_,r,q=>by(refine mI r.jq λU t z1 a b=>?_;subst z1);exact .cons a (b.set q)
theorem bt.eraseIdx {ρ:List Pl}{X:List aJ}{h:bV}:∀ {l:List V} {ws:List ax} {i:Nat},bt ρ X h l ws->bt ρ X h (l.eraseIdx i) (ws.eraseIdx i)
 |[],_,_=>λr=>by subst r;exact rfl
 |_::l,_,0=>λr=>by(refine mI r.jq λU t z1 a b=>?_;subst z1);exact b
 |_::l,_,i+1=>λr=>by(refine mI r.jq λU t z1 a b=>?_;subst z1);exact .cons a b.eraseIdx
theorem bt.take {ρ:List Pl}{X:List aJ}{h:bV}:∀ {l:List V} {ws:List ax} {i:Nat},bt ρ X h l ws->bt ρ X h (l.take i) (ws.take i)
 |[],_,_=>λr=>by subst r;rw[List.take_nil,List.take_nil];exact rfl
 |_::l,_,0=>λr=>by exact rfl
 |_::l,_,i+1=>λr=>by(refine mI r.jq λU t z1 a b=>?_;subst z1);exact .cons a b.take
theorem bt.drop {ρ:List Pl}{X:List aJ}{h:bV}:∀ {l:List V} {ws:List ax} {i:Nat},bt ρ X h l ws->bt ρ X h (l.drop i) (ws.drop i)
 |[],_,_=>λr=>by subst r;rw[qV,qV];exact rfl
 |_::l,_,0=>λr=>r
 |_::l,_,i+1=>λr=>by(refine mI r.jq λU t z1 a b=>?_;subst z1);exact b.drop
theorem bt.rep {ρ:List Pl}{X:List aJ}{h:bV}{l:List V}{ws:List ax}(r:bt ρ X h l ws):∀n:Nat,bt ρ X h (mV l n) ((bF n ws).flatten)
 |0=>.nil
 |n+1=>by rw[show mV l (n+1)=l++mV l n from rfl,qP,List.flatten_cons];exact r.append (r.rep n)
noncomputable def fields:List Str:=[cU "name",cU "params",cU "code",cU "consts",cU "units",cU "handlers",cU "lines",cU "local_count",cU "cell_count",
 cU "captures",cU "is_strict",cU "uses_arguments",cU "self_slot",cU "arguments_place",cU "param_places"]
structure ng where
 prog:BA
 w:c0
 base:bV
 K:qW
 C:aJ
 CB:aJ
 fa:List aJ:=[]
def iB (ρ:List Pl)(X:List aJ)(h:bV)(fs:List Str)(l:List V)(es:List gK):Prop:=match l with
 |[]=>es=[]
 |v::l=>match fs with
  |[]=>False
  |f::fs=>∃hash t w r,es=⟨hash,.str f t,w⟩::r/\bz ρ X h v w/\iB ρ X h fs l r
termination_by structural l
section
variable (Z:ng)
def fq {K:Type}(ρ:List Pl)(X:List aJ)(h:bV):List (K×V)->List (K×ax)->Prop
 |[],ws=>ws=[]
 |(k,v)::l,ws=>∃w r,ws=(k,w)::r/\bz ρ X h v w/\fq ρ X h l r
def sY (ρ:List Pl)(X:List aJ)(h:bV)(p:Pl):O->Prop
 |.list l=>p.d=ae/\∃vs,h.PlainList p.a vs.toArray/\bt ρ X h l vs
 |.cH l=>p.d=ae/\∃lI,h.DictOf (intKind Z.prog Z.w) p.a lI/\fq ρ X h l lI
 |.dN l=>p.d=ae/\∃lI,h.DictOf (strKind Z.prog Z.w) p.a lI/\fq ρ X h l lI
 |.inst l=>∃dx es n,p.d=aa dx/\h.get? p.a=aa {cls:=.ref Z.C,dict:=aa dx,data:=.plain}/\h.get? dx=aa (dictOf es n)/\iB ρ X h fields l es
structure Rel (ρ:List Pl)(X:List aJ)(σ:bp)(h:bV):Prop where
 keep:∀b o,Z.base.get? b=aa o->h.get? b=aa o
 bsize:Z.base.objs.size<=h.objs.size
 D4:∀x∈X,Z.base.objs.size<=x
 vF:∀x∈X,x<h.objs.size
 len:ρ.length=σ.length
 ge:∀p∈ρ,∀x∈p.lW,Z.base.objs.size<=x/\x∉X
 sep:∀(i j:Nat) p q x,ρ[i]?=aa p->ρ[j]?=aa q->x∈p.lW->x∈q.lW->i=j
 self:∀p∈ρ,p.d≠aa p.a
 obj:∀(i:Nat) p o,ρ[i]?=aa p->σ[i]?=aa o->sY Z ρ X h p o
end
theorem fq.hW {K:Type}{F X X':List aJ}{ρ bJ:List Pl}{h h':bV}(g:mQ F ρ h bJ h')(hF:∀b∈F,b∈X)(hX:∀b∈X',b∈X\/h.objs.size<=b) :
  ∀(l:List (K×V)) (ws:List (K×ax)),fq ρ X h l ws->fq bJ X' h' l ws
 |[]=>λU r=>r
 |(k,v)::l=>λws r=>by(refine mI r λw t z1 a b=>?_;try clear r;subst z1);exact bB w ⟨t,rfl,bz.hW g hF hX v w a,fq.hW g hF hX l t b⟩
theorem fq.mono  {F X:List aJ}{ρ bJ:List Pl}(g:dG F ρ h bJ h')(hF:∀b∈F,b∈X)(hX:∀b∈X',b∈X\/h.objs.size<=b)(l:List (K×V))(ws:List (K×ax))(r:fq ρ X h l ws):fq bJ X' h' l ws:=fq.hW g.g0 hF hX l ws r
theorem iB.hW {F X X':List aJ}{ρ bJ:List Pl}{h h':bV}(g:mQ F ρ h bJ h')(hF:∀b∈F,b∈X)(hX:∀b∈X',b∈X\/h.objs.size<=b) :
  ∀(fs:List Str) (l:List V) (es:List gK),iB ρ X h fs l es->iB bJ X' h' fs l es
 |_,[]=>λU r=>r
 |[],_::_=>λU r=>by exact r.elim
 |f::fs,v::l=>λes r=>by(refine Oq r λhash t w q z1 a b=>?_;try clear r;subst z1);exact bB hash ⟨t,w,q,rfl,bz.hW g hF hX v w a,iB.hW g hF hX fs l q b⟩
theorem iB.mono {F X:List aJ}{ρ bJ:List Pl}(g:dG F ρ h bJ h')(hF:∀b∈F,b∈X)(hX:∀b∈X',b∈X\/h.objs.size<=b)(fs:List Str)(l:List V)(es:List gK)(r:iB ρ X h fs l es):iB bJ X' h' fs l es:=iB.hW g.g0 hF hX fs l es r
theorem w4 [DecidableEq K]{prog:BA}{w:c0}{knd:KeyKind prog w K}{lI:List (K×ax)}(x:h.DictOf knd a lI)(e:h'.get? a=h.get? a):h'.DictOf knd a lI:=by(refine o31 x λo es ep ho r=>?_;try clear x);exact⟨o,es,ep,e.trans ho,r⟩
theorem plain_at  {vs:Array ax}(x:h.PlainList a vs)(e:h'.get? a=h.get? a):h'.PlainList a vs:=by unfold Heap.PlainList at x ⊢;rw[e];exact x
theorem sY.hW {Z:ng}{F X:List aJ}{ρ bJ:List Pl}{p:Pl}(g:mQ F ρ h bJ h')(hF:∀b∈F,b∈X)(hX:∀b∈X',b∈X\/h.objs.size<=b)
  (e:∀x∈p.lW,h'.get? x=h.get? x)(r:sY Z ρ X h p o):sY Z bJ X' h' p o:=by
 induction o with
 |list l=>obtain⟨d,vs,a,b⟩:=r;exact⟨d,vs,plain_at a (e _ (.head _)),bt.hW g hF hX _ _ b⟩
 |cH l=>obtain⟨d,vs,a,b⟩:=r;exact⟨d,vs,w4 a (e _ (.head _)),fq.hW g hF hX _ _ b⟩
 |dN l=>obtain⟨d,vs,a,b⟩:=r;exact⟨d,vs,w4 a (e _ (.head _)),fq.hW g hF hX _ _ b⟩
 |inst l=>obtain⟨dx,es,n,d,a,b,c⟩:=r;exact⟨dx,es,n,d,(e _ (.head _)).trans a,(e dx (by simp[Pl.lW,d])).trans b,iB.hW g hF hX _ _ _ c⟩
theorem sY.mono {Z:ng}{F X:List aJ}{ρ bJ:List Pl}{p:Pl}(g:dG F ρ h bJ h')(hF:∀b∈F,b∈X)(hX:∀b∈X',b∈X\/h.objs.size<=b)
  (e:∀x∈p.lW,h'.get? x=h.get? x)(r:sY Z ρ X h p o):sY Z bJ X' h' p o:=sY.hW g.g0 hF hX e r
theorem Rel.Lc {Z:ng}{F X:List aJ}{ρ:List Pl}(R:Rel Z ρ X σ h)(g:mQ F ρ h ρ h')(hF:∀b∈F,b∈X)(hX:∀b∈X',b∈X\/h.objs.size<=b)
  (e:∀p∈ρ,∀x∈p.lW,h'.get? x=h.get? x)(hb:∀b o,Z.base.get? b=aa o->h'.get? b=aa o)(hp:∀p∈ρ,∀x∈p.lW,x∉X')(hl:∀b∈X',b<h'.objs.size):Rel Z ρ X' σ h' where
 keep:=hb
 bsize:=aQ R.bsize g.size
 D4:=λx hx=>(hX x hx).elim (R.D4 x) λz=>aQ R.bsize z
 vF:=hl
 len:=R.len
 ge:=λp Cy x hx=>⟨(R.ge p Cy x hx).1,hp p Cy x hx⟩
 sep:=R.sep
 self:=R.self
 obj:=λi p o hi ho=>(R.obj i p o hi ho).hW g hF hX λx hx=>e p (aN hi) x hx
theorem Rel.step {Z:ng}{F X:List aJ}{ρ:List Pl}(R:Rel Z ρ X σ h)(g:dG F ρ h ρ h')(hF:∀b∈F,b∈X)(hX:∀b∈X',b∈X\/h.objs.size<=b)
  (e:∀p∈ρ,∀x∈p.lW,h'.get? x=h.get? x)(hb:∀b o,Z.base.get? b=aa o->h'.get? b=aa o)(hp:∀p∈ρ,∀x∈p.lW,x∉X')(hl:∀b∈X',b<h'.objs.size):Rel Z ρ X' σ h':=R.Lc g.g0 hF hX e hb hp hl
theorem Rel.there {Z:ng}{X:List aJ}{ρ:List Pl}(R:Rel Z ρ X σ h){p:Pl}(hp:p∈ρ)(hx:x∈p.lW):∃o,h.get? x=aa o:=by
 obtain⟨i,hi,rfl⟩:=kf.mp hp;have e:ρ[i]?=aa ρ[i]:=bA hi;have hi':i<σ.length:=R.len▸hi;have ob:=R.obj i _ _ e (bA hi');induction ho:σ[i]with
 |list l =>rw[ho]at ob;obtain⟨d,vs,⟨n,a⟩,_⟩:=ob;simp only[Pl.lW,d,eE,au]at hx;subst hx;exact⟨_,a⟩
 |cH l =>rw[ho]at ob;obtain⟨d,vs,⟨o,_,_,a,_⟩,_⟩:=ob;simp only[Pl.lW,d,eE,au]at hx;subst hx;exact⟨_,a⟩
 |dN l =>rw[ho]at ob;obtain⟨d,vs,⟨o,_,_,a,_⟩,_⟩:=ob;simp only[Pl.lW,d,eE,au]at hx;subst hx;exact⟨_,a⟩
 |inst l =>
  rw[ho]at ob;(refine MF ob λdx es n d a b U=>?_;try clear ob);simp only[Pl.lW,d,DY,aM,au]at hx;rcases hx with rfl|rfl|q
  .exact⟨_,a⟩
  .exact⟨_,b⟩
  .cases q
theorem Rel.lt {Z:ng}{X:List aJ}{ρ:List Pl}(R:Rel Z ρ X σ h){p:Pl}(hp:p∈ρ)(hx:x∈p.lW):x<h.objs.size :=
 let ⟨_,e⟩:=R.there hp hx;bu e
theorem Rel.ext {Z:ng}{X:List aJ}{ρ:List Pl}(R:Rel Z ρ X σ h)(x:Ext h h'):Rel Z ρ X σ h' :=
 R.step (F:=[]) x.grow (λU q=>nomatch q) (λU q=>.inl q) (λp hp y hy=>by obtain⟨o,e⟩:=R.there hp hy;rw[e];exact x.2 y o e) (λb o e=>x.2 b o (R.keep b o e)) (λp hp y hy=>(R.ge p hp y hy).2) λb hb=>bK (R.vF b hb) x.1
theorem Rel.own {Z:ng}{X:List aJ}{ρ:List Pl}(R:Rel Z ρ X σ h)(x:Ext h h')(hX:∀b∈X',b∈X\/h.objs.size<=b/\b<h'.objs.size):Rel Z ρ X' σ h' :=
 R.step (F:=[]) x.grow (λU q=>nomatch q) (λb q=>(hX b q).imp id (·.1)) (λp hp y hy=>by obtain⟨o,e⟩:=R.there hp hy;rw[e];exact x.2 y o e) (λb o e=>x.2 b o (R.keep b o e))
  (λp hp y hy q=>(hX y q).elim (R.ge p hp y hy).2 λz=>absurd (R.lt hp hy) (bO.mpr z.1)) λb q=>(hX b q).elim (λz=>bK (R.vF b z) x.1) (·.2)
theorem Rel.less {Z:ng}{X:List aJ}{ρ:List Pl}(R:Rel Z ρ X σ h)(hX:∀b∈X',b∈X):Rel Z ρ X' σ h:=R.own Ext.refl λb q=>.inl (hX b q)
theorem Rel.but {Z:ng}{X:List aJ}{ρ:List Pl}(R:Rel Z ρ X σ h)(s:fu x h h')(m:x∈X):Rel Z ρ X σ h' :=
 R.step (F:=[x]) (jb s (.head _)) (λb q=>by cases q with|head=>exact m|tail _ q=>cases q) (λU q=>.inl q)
  (λp hp y hy=>s.2 y λq=>(R.ge p hp y hy).2 (q▸m)) (λb o e=>(s.2 b λq=>absurd (bu e) (bO.mpr (q▸R.D4 x m))).trans (R.keep b o e)) (λp hp y hy=>(R.ge p hp y hy).2) λb hb=>s.1▸R.vF b hb
theorem Rel.set {Z:ng}{X:List aJ}{ρ:List Pl}{p:Pl}(R:Rel Z ρ X σ h)(hn:ρ[n]?=aa p)(hx:x∈p.lW)(s:fu x h h')
  (ho:dG [] ρ h ρ h'->sY Z ρ X h' p o):Rel Z ρ X (σ.set n o) h'/\dG [] ρ h ρ h':=by
 have hp:p∈ρ:=aN hn;have g:dG [] ρ h ρ h':=⟨⟨[],by simp,λU q=>nomatch q⟩,fR s.1.symm,λb ob e k U=>⟨ob.slots,(s.2 b λq=>k p hp (q▸hx)).trans e,λU=>rfl⟩⟩;refine⟨⟨λb ob e=>(s.2 b λq=>absurd (bu e) (bO.mpr (q▸(R.ge p hp x hx).1))).trans (R.keep b ob e),aQ R.bsize g.size,R.D4,λb hb=>s.1▸R.vF b hb,by simp[R.len],R.ge,R.sep,R.self,λi q oi hi yr=>?_⟩,g⟩;by_cases e:n=i
 .subst e;rw[hn]at hi;obtain rfl:=aj hi;rw[gw (by rw[<- R.len];exact(aA.mp hn).1)]at yr;obtain rfl:=aj yr;exact ho g
 .rw[dZ e]at yr;exact(R.obj i q oi hi yr).mono g (λU q=>nomatch q) (λU q=>.inl q) λy hy=>s.2 y λz=>e (R.sep n i p q x hn hi hx (z▸hy))
theorem Rel.new {Z:ng}{X:List aJ}{ρ:List Pl}{p:Pl}(R:Rel Z ρ X σ h)(x:Ext h h')(hp:∀y∈p.lW,h.objs.size<=y)(hX:∀y∈p.lW,y∉X)(hs:p.d≠aa p.a)
  (ho:dG [] ρ h (ρ++[p]) h'->sY Z (ρ++[p]) X h' p o):Rel Z (ρ++[p]) X (σ++[o]) h'/\dG [] ρ h (ρ++[p]) h':=by
 have g:dG [] ρ h (ρ++[p]) h':=⟨⟨[p],rfl,λq hq=>by rw[au.mp hq];exact hp⟩,x.1,λb ob e U U=>⟨ob.slots,x.2 b ob e,λU=>rfl⟩⟩;have at_:∀ {i:Nat} {q:Pl},(ρ++[p])[i]?=aa q->(ρ[i]?=aa q/\i<ρ.length)\/(i=ρ.length/\q=p):=λ{i q} e=>by
  rcases jC i ρ.length with l|l
  .rw[aZ l]at e;exact .inl ⟨e,l⟩
  .rw[cB l]at e;have:i-ρ.length=0:=by
    rcases Nat.eq_zero_or_pos (i-ρ.length)with z|z
    .exact z
    .rw[CR (by simp only[az,aD];exact qq9 z)]at e;exact fv e
   rw[this]at e;exact .inr ⟨by exact YH l this,(aj e).symm⟩
 refine⟨⟨λb ob e=>x.2 b ob (R.keep b ob e),aQ R.bsize x.1,R.D4,λb hb=>bK (R.vF b hb) x.1,by simp[R.len],λq hq y hy=>?_,λi j q r y hi hj hy hz=>?_,λq hq=>?_,λi q oi hi yr=>?_⟩,g⟩
 .rcases bg.mp hq with m|m
  .exact R.ge q m y hy
  .rw[au.mp m]at hy;exact⟨aQ R.bsize (hp y hy),hX y hy⟩
 .rcases at_ hi with⟨a,_⟩|⟨rfl,rfl⟩<;>rcases at_ hj with⟨b,_⟩|⟨rfl,rfl⟩
  .exact R.sep i j q r y a b hy hz
  .exact absurd (R.lt (aN a) hy) (bO.mpr (hp y hz))
  .exact absurd (R.lt (aN b) hz) (bO.mpr (hp y hy))
  .rfl
 .rcases bg.mp hq with m|m
  .exact R.self q m
  .rw[au.mp m];exact hs
 .rcases at_ hi with⟨a,l⟩|⟨rfl,rfl⟩
  .rw[aZ (by rw[<- R.len];exact l)]at yr;exact(R.obj i q oi a yr).mono g (λU q=>nomatch q) (λU q=>.inl q) λy hy=>by obtain⟨ob,e⟩:=R.there (aN a) hy;rw[e];exact x.2 y ob e
  .rw[R.len,cB (aO _)]at yr;simp only[oA,ah,dY]at yr;subst yr;exact ho g
theorem Rel.at {Z:ng}{X:List aJ}{ρ:List Pl}(R:Rel Z ρ X σ h){p:Pl}(hn:ρ[n]?=aa p)(hs:σ[n]?=aa o):sY Z ρ X h p o:=R.obj n p o hn hs
section
structure Go (F:List aJ)(ρ:List Pl)(s:av)(bJ:List Pl)(s':av):Prop where
 grow:dG F ρ s.heap bJ s'.heap
 same:∃h t,s'={s with heap:=h,toks:=t}
theorem Go.refl {F:List aJ}{ρ:List Pl}:Go F ρ s ρ s:=⟨.refl,s.heap,s.toks,rfl⟩
theorem Go.trans {F:List aJ}{ρ aH fT:List Pl}{bH:av}(x:Go F ρ s aH ay)(y:Go F aH ay fT bH):Go F ρ s fT bH:=by refine⟨x.grow.trans y.grow,?_⟩;(refine H0 x.same λh t z1=>?_;subst z1);(refine H0 y.same λh' t' z1=>?_;subst z1);exact⟨h',t',rfl⟩
theorem Go.mono {F:List aJ}{ρ bJ:List Pl}(x:Go F ρ s bJ s')(hF:∀b∈F,b∈F'):Go F' ρ s bJ s':=⟨x.grow.mono hF,x.same⟩
theorem Go.any {F:List aJ}{ρ bJ:List Pl}(x:Go [] ρ s bJ s'):Go F ρ s bJ s':=⟨x.grow.any,x.same⟩
theorem Go.tok {F:List aJ}{ρ:List Pl}{t:Nat}:Go F ρ s ρ {s with toks:=t}:=⟨.refl,s.heap,t,rfl⟩
theorem Go.ext {F:List aJ}{ρ:List Pl}{t:Nat}(x:Ext s.heap h):Go F ρ s ρ {s with heap:=h,toks:=t}:=⟨x.grow,h,t,rfl⟩
def Au (Z:ng)(h₀:bV)(e:aJ)(h:bV):Prop :=
 h₀.objs.size<=e/\∃oe vs,h.get? e=aa oe/\oe.cls=.ref Z.CB/\oe.data=.fields vs /\
  (vs[1]?=aa .none\/∃T oT ts f,vs[1]?=aa (.ref T)/\h₀.objs.size<=T/\T≠e/\h.get? T=aa oT/\oT.data=.fields ts/\ts[3]?=aa f)
theorem Au.mH {Z:ng}{h₀:bV}{e:aJ}(x:Au Z h₁ e h)(l:h₀.objs.size<=h₁.objs.size):Au Z h₀ e h:=by obtain⟨a,oe,vs,b,c,d,k⟩:=x;refine⟨aQ l a,oe,vs,b,c,d,k.imp id ?_⟩;rintro⟨T,oT,ts,f,k1,k2,k3⟩;exact⟨T,oT,ts,f,k1,aQ l k2,k3⟩
section
variable (Z:ng)(F X:List aJ)
def Run (ρ:List Pl)(s:av)(T:List Pl->bV->α->β->Prop)(r:R α)(W:(β->av->Prop)->(ax->av->Prop)->Prop):Prop :=
 match r with
 |.ok a cD=>∀Q E,(∀b bJ s',Go F ρ s bJ s'->Rel Z bJ X cD s'.heap->T bJ s'.heap a b->Q b s')->W Q E
 |.exc cD=>∀Q E,(∀e bJ s',Go F ρ s bJ s'->Rel Z bJ X cD s'.heap->Au Z s.heap e s'.heap->E (.ref e) s')->W Q E
 |.bad=>True
end
variable {Z:ng}{F X:List aJ}
theorem Run.imp {γ:Type}{ρ:List Pl}{T:List Pl->bV->α->β->Prop}{T':List Pl->bV->α->γ->Prop}{W':(γ->av->Prop)->(ax->av->Prop)->Prop}
  (h:Run Z F X ρ s T r W)(f:β->γ)(hT:∀ρ h a b,T ρ h a b->T' ρ h a (f b))(k:∀Q E,W (λb=>Q (f b)) E->W' Q E):Run Z F X ρ s T' r W':=by
 induction r with
 |ok a σ=>exact λQ E q=>k Q E (h _ E λb bJ s' g R t=>q _ bJ s' g R (hT _ _ _ _ t))
 |exc σ=>exact λQ E q=>k Q E (h _ E q)
 |bad=>trivial
theorem Run.w {ρ:List Pl}{T:List Pl->bV->α->β->Prop}{W':(β->av->Prop)->(ax->av->Prop)->Prop}
  (h:Run Z F X ρ s T r W)(k:∀Q E,W Q E->W' Q E):Run Z F X ρ s T r W':=h.imp id (λU U U U t=>t) k
theorem Run.seq {KZ KY:Type}{ρ:List Pl}{T:List Pl->bV->α->β->Prop}{T':List Pl->bV->KZ->KY->Prop}{f:α->bp->R KZ}
 {W2:β->av->(KY->av->Prop)->(ax->av->Prop)->Prop}
  (h:Run Z F X ρ s T r W)(k:∀a cD b bJ s',Go F ρ s bJ s'->Rel Z bJ X cD s'.heap->T bJ s'.heap a b->Run Z F X bJ s' T' (f a cD) (W2 b s')) :
  Run Z F X ρ s T' (r.bind f) (λQ E=>W (λb s1=>W2 b s1 Q E) E):=by
 induction r with
 |bad=>trivial
 |exc σ=>exact λQ E q=>h _ E q
 |ok a σ =>
  refine(?_:Run Z F X ρ s T' (f a σ) _);have k:=λb bJ s' g R t=>k a σ b bJ s' g R t;induction hf:f a σ with
  |bad=>trivial
  |exc cD =>refine λQ E q=>h _ E λb bJ s' g R t=>?_;have:=k b bJ s' g R t;rw[hf]at this;exact this Q E λe kn lK g' R' y=>q e kn lK (g.trans g') R' (y.mH g.grow.size)
  |ok a' cD =>refine λQ E q=>h _ E λb bJ s' g R t=>?_;have:=k b bJ s' g R t;rw[hf]at this;exact this Q E λb' kn lK g' R' y=>q b' kn lK (g.trans g') R' y
theorem Run.later {ρ aH:List Pl}{T:List Pl->bV->α->β->Prop}
  (g:Go F ρ s aH ay)(h:Run Z F X aH ay T r W):Run Z F X ρ s T r W:=by
 induction r with
 |bad=>trivial
 |exc cD=>exact λQ E q=>h Q E λe kn lK g' R' y=>q e kn lK (g.trans g') R' (y.mH g.grow.size)
 |ok a' cD=>exact λQ E q=>h Q E λb' kn lK g' R' y=>q b' kn lK (g.trans g') R' y
theorem Run.any {ρ:List Pl}{T:List Pl->bV->α->β->Prop}
  (h:Run Z [] X ρ s T r W):Run Z F X ρ s T r W:=by
 induction r with
 |bad=>trivial
 |exc cD=>exact λQ E q=>h Q E λe kn lK g' R' y=>q e kn lK g'.any R' y
 |ok a' cD=>exact λQ E q=>h Q E λb' kn lK g' R' y=>q b' kn lK g'.any R' y
theorem Run.ok {ρ bJ:List Pl}{T:List Pl->bV->α->β->Prop}{a:α}{cD:bp}{b:β}
  (g:Go F ρ s bJ s')(R:Rel Z bJ X cD s'.heap)(t:T bJ s'.heap a b)(k:∀Q E,Q b s'->W Q E):Run Z F X ρ s T (.ok a cD) W:=λQ E q=>k Q E (q b bJ s' g R t)
theorem Run.tj {ρ:List Pl}{T:List Pl->bV->α->β->Prop}{a:α}{b:β}
  (R:Rel Z ρ X σ s.heap)(t:T ρ s.heap a b)(k:∀Q E,Q b s->W Q E):Run Z F X ρ s T (.ok a σ) W:=.ok .refl R t k
noncomputable abbrev TV (X:List aJ)(ρ:List Pl)(h:bV)(v:V)(w:ax):Prop:=bz ρ X h v w
noncomputable abbrev TVs (X:List aJ)(ρ:List Pl)(h:bV)(v:List V)(w:List ax):Prop:=bt ρ X h v w
theorem Go.v {ρ bJ:List Pl}{v:V}{w:ax}(g:Go [] ρ s bJ s')(r:bz ρ X s.heap v w):bz bJ X s'.heap v w :=
 bz.mono g.grow (λU q=>nomatch q) (λU q=>.inl q) v w r
theorem Go.vs {ρ bJ:List Pl}{v:List V}{w:List ax}(g:Go [] ρ s bJ s')(r:bt ρ X s.heap v w):bt bJ X s'.heap v w :=
 bt.mono g.grow (λU q=>nomatch q) (λU q=>.inl q) v w r
theorem bz.ext {ρ:List Pl}{v:V}{w:ax}(r:bz ρ X h v w)(x:Ext h h'):bz ρ X h' v w :=
 bz.mono (F:=[]) x.grow (λU q=>nomatch q) (λU q=>.inl q) v w r
theorem bt.ext {ρ:List Pl}{v:List V}{w:List ax}(r:bt ρ X h v w)(x:Ext h h'):bt ρ X h' v w :=
 bt.mono (F:=[]) x.grow (λU q=>nomatch q) (λU q=>.inl q) v w r
structure pI (Z:ng)(ρ:List Pl)(X:List aJ)(h:bV)(env:Env)(vt:List Str)(vs:Vs)(ct:List Str)(cs:List V):Prop where
 kind:env.scope.kind=.function
 globals:env.globals=cF
 builtins:env.builtins=gY
 own:env.locals∈X
 ns:∃m,h.Ns env.locals m/\(∀(i:Nat) x v,vt[i]?=aa x->vs[i]?=aa (aa v)->x∉ct->env.kindOf x=aa .local->∃w,m x=aa w/\bz ρ X h v w) /\
  (∀(i:Nat) x v,ct[i]?=aa x->cs[i]?=aa v->env.kindOf x=aa .local->∃w,m x=aa w/\bz ρ X h v w)
 cell:∀(i:Nat) x v,vt[i]?=aa x->vs[i]?=aa (aa v)->env.kindOf x=aa .cell->∃c w,env.cells.lookup x=aa c/\h.IsCell c (aa w)/\bz ρ X h v w
 cells:∀x c,env.cells.lookup x=aa c->c∈X/\c≠env.locals/\∃w,h.IsCell c w
 has:∀x,env.kindOf x=aa .cell->∃c,env.cells.lookup x=aa c
 inj:∀x y c,env.cells.lookup x=aa c->env.cells.lookup y=aa c->x=y
end
end Internal
end
noncomputable section
open PySem PySem.W PyProof.Rows PySem.SeqAt
namespace Internal
variable {W:(ax->av->Prop)->(ax->av->Prop)->Prop}{prog:BA}{name:Str}{sl:aJ}{K:Type}{ws vs:List ax}{u:Tok}{i:Int}{w:c0}{A:mR}{cD σ:bp}{j k n t:Nat}{E Q:ax->av->Prop}{l:List V}{Z:ng}{m r:Bool}{v y x:V}{b a:ax}{h:bV}{ρ:List Pl}{s:av}
noncomputable def toPy:Nat->V->PyData
 |0,_=>.none
 |_+1,.none=>.none
 |_+1,.bool b=>.bool b
 |_+1,.int i=>.int i
 |_+1,.str s=>.str s
 |n+1,.tup l=>.tuple (l.map (toPy n))
 |n+1,.lst l=>.list (l.map (toPy n))
 |_+1,.loc _=>.none
theorem qD {l:List PyData}(h:∀d∈l,d.canLay0=af):Ei l=af:=by
 induction l with
 |nil=>rfl
 |cons x r ih =>rw[Ei,h x (.head _),ih λd hd=>h d (.tail _ hd)];rfl
theorem jF:∀(n:Nat) (v:V),lH n v=af->(toPy n v).canLay0=af
 |0,_=>λh=>by exact jH h
 |n+1,.none=>λU=>rfl
 |n+1,.bool _=>λU=>rfl
 |n+1,.int _=>λU=>rfl
 |n+1,.str s=>λh=>h
 |n+1,.tup l=>λh=>by refine qD λd hd=>?_;(refine dB (bX.mp hd) λv hv z1=>?_;subst z1);exact jF n v (bI.mp h v hv)
 |n+1,.lst l=>λh=>by refine qD λd hd=>?_;(refine dB (bX.mp hd) λv hv z1=>?_;subst z1);exact jF n v (bI.mp h v hv)
 |n+1,.loc _=>λh=>by exact jH h
theorem r9 {l:List PyData}(h:∀d∈l,d.depth<=n):m7 l<=n:=by
 induction l with
 |nil=>exact bL _
 |cons x r ih =>rw[m7];exact Nat.max_le.mpr ⟨h x (.head _),ih λd hd=>h d (.tail _ hd)⟩
theorem oZ:∀(n:Nat) (v:V),(toPy n v).depth<=n
 |0,_=>aO _
 |n+1,.none=>bL _
 |n+1,.bool _=>bL _
 |n+1,.int _=>bL _
 |n+1,.str s=>bL _
 |n+1,.tup l=>by refine(?_:m7 (l.map (toPy n))+1<=n+1);refine gm (r9 λd hd=>?_);(refine dB (bX.mp hd) λv hv z1=>?_;subst z1);exact oZ n v
 |n+1,.lst l=>by refine(?_:m7 (l.map (toPy n))+1<=n+1);refine gm (r9 λd hd=>?_);(refine dB (bX.mp hd) λv hv z1=>?_;subst z1);exact oZ n v
 |n+1,.loc _=>bL _
theorem k9 {ρ:List Pl}{X:List aJ}{h:bV}{f:V->PyData}:∀ {l:List V} {ws:List ax},bt ρ X h l ws->(∀v∈l,∀w,bz ρ X h v w->∃as,Reads h w (f v) as)->∃as,ReadsAll h ws (l.map f) as
 |[],_,r,_=>by subst r;exact⟨[],.nil⟩
 |v::l,_,r,k=>by(refine mI r.jq λw t z1 a b=>?_;subst z1);obtain⟨as,ha⟩:=k v (.head _) w a;obtain⟨bs,hb⟩:=k9 b λu hu=>k u (.tail _ hu);exact⟨as++bs,.cons ha hb⟩
theorem lM {ρ:List Pl}{X:List aJ}{h:bV}:∀(n:Nat) (v:V) (w:ax),lH n v=af->bz ρ X h v w->∃as,Reads h w (toPy n v) as
 |0,_=>λU k U=>by exact jH k
 |n+1,.none=>λw U r=>by subst r;exact⟨[],.none⟩
 |n+1,.bool b=>λw U r=>by subst r;exact⟨[],.bool b⟩
 |n+1,.int i=>λw U r=>by obtain⟨t,rfl⟩:=r;exact⟨[],.int i t⟩
 |n+1,.str s=>λw U r=>by obtain⟨t,rfl⟩:=r;exact⟨[],.str s t⟩
 |n+1,.tup l=>λw k r=>by(refine wH r λa vs z1 U U z2 q=>?_;try clear r;subst z1;obtain⟨m,e⟩:=z2);obtain⟨as,ha⟩:=k9 (f:=toPy n) q λv hv w r=>lM n v w (bI.mp k v hv) r;exact⟨as,.tuple e rfl rfl ha⟩
 |n+1,.lst l=>λw k r=>by(refine wH r λa vs z1 U U z2 q=>?_;try clear r;subst z1;obtain⟨m,e⟩:=z2);obtain⟨as,ha⟩:=k9 (f:=toPy n) q λv hv w r=>lM n v w (bI.mp k v hv) r;exact⟨a::as,.list e rfl rfl ha⟩
 |n+1,.loc _=>λU k U=>by exact jH k
theorem wZ {f:V->V->Option Bool}{g:V->PyData}:∀ {a b:List V} {r:Bool},(∀x∈a,∀y∈b,∀r,f x y=aa r->DX (g x) (g y)=r)->sJ f a b=aa r->PyData.eqvAll (a.map g) (b.map g)=r
 |[],[],r,_,h=>by obtain rfl:=aj h;rfl
 |x::a,y::b,r,k,h=>by
  change (match f x y,sJ f a b with|some x,aa y=>aa (x&&y)|_,_=>du)=aa r at h;induction e1:f x y with
  |none=>rw[e1]at h;exact fv h
  |some p =>
   induction e2:sJ f a b with
   |none=>rw[e1,e2]at h;exact fv h
   |some q =>rw[e1,e2]at h;obtain rfl:=aj h;refine(?_:(DX (g x) (g y)&&PyData.eqvAll (a.map g) (b.map g))=_);rw[k x (.head _) y (.head _) p e1,wZ (λx hx y hy=>k x (.tail _ hx) y (.tail _ hy)) e2]
 |[],_::_,r,_,h=>by obtain rfl:=aj h;rfl
 |_::_,[],r,_,h=>by obtain rfl:=aj h;rfl
theorem Hu (n:Nat):∀(x y:V) (r:Bool),yV n x y=aa r->DX (toPy n x) (toPy n y)=r:=by
 induction n with
 |zero=>exact λU U U h=>fv h
 |succ n ih =>intro x y r;induction x using V.casesOn<;>induction y using V.casesOn<;>first|exact λh=>fv h|exact λh=>wZ (λx U y U r q=>ih x y r q) h|exact λh=>aj h
section
variable {X:List aJ}
theorem w3 (h:vB x y=aa r):lH 8 x=af/\lH 8 y=af/\yV 8 x y=aa r:=by
 unfold vB at h
 split at h
 .rename_i k;rw[bx]at k;exact⟨k.1,k.2,h⟩
 .exact fv h
theorem Fp (hu:A.units+64<kL)(x y:V):A.units+min (toPy 8 x).depth (toPy 8 y).depth<kL:=by have:=oZ 8 x;have:min (toPy 8 x).depth (toPy 8 y).depth<=(toPy 8 x).depth:=Nat.min_le_left _ _;exact acd hu (by assumption) this
theorem Km (h:vB x y=aa r)(ra:bz ρ X s.heap x a)(rb:bz ρ X s.heap y b)(hu:A.units+64<kL):EqAt A s a b r:=by refine qR (w3 h) λk1 k2 k3=>?_;obtain⟨as,ha⟩:=lM 8 x a k1 ra;obtain⟨bs,hb⟩:=lM 8 y b k2 rb;have:=eqAt_reads _ _ A s a b _ _ ha hb (jF 8 x k1) (jF 8 y k2) (Fp hu x y);rw[Hu 8 x y r k3]at this;exact this
end
theorem TupAt.Ct {a:aJ}(t:TupAt h a vs):h.IsTuple a vs.toArray:=let ⟨n,e⟩:=t;⟨_,e,rfl,n,rfl⟩
theorem TupAt.isTup {a:aJ}(t:TupAt h a vs):IsTup h a vs.toArray:=let ⟨n,e⟩:=t;⟨_,e,rfl,n,rfl⟩
noncomputable def Ag:Cm->CmpOp
 |.eq=>.Eq|.ne=>.NotEq|.lt=>.Lt|.le=>.LtE|.gt=>.Gt|.ge=>.GtE|.is=>.Is|.rX _=>.IsNot|.rp=>.In|.H3=>.NotIn
theorem z4 {f g:ax->Bool}:∀ {t:List ax},(∀u∈t,f u=g u)->t.any f=t.any g
 |[]=>λU=>rfl
 |z::t=>λk=>by rw[fy,fy,k z (.head _),z4 λu hu=>k u (.tail _ hu)]
section
variable {X:List aJ}
theorem rS (R:Rel Z ρ X σ s.heap){z:V}(h:oO σ x=aa z)(k:lH 8 z=af)(ra:bz ρ X s.heap x a):∃as,Reads s.heap a (toPy 8 z) as:=by
 induction x using V.casesOn with
 |loc n =>
  obtain⟨l,hl,h⟩:∃l,σ[n]?=aa (.list l)/\aa (V.lst l)=aa z:=by
   change (match σ[n]? with|some (.list l)=>aa (V.lst l)|_=>ae)=aa z at h;induction hl:σ[n]? with
   |none=>rw[hl]at h;exact fv h
   |some o =>
    rw[hl]at h;induction o with
    |list l=>exact⟨l,rfl,h⟩
    |_=>exact fv h
  .obtain rfl:=aj h;(refine dB ra λp hp z1=>?_;try clear ra;subst z1);obtain⟨_,vs,⟨m,e⟩,q⟩:=R.obj n p _ hp hl;obtain⟨as,ha⟩:=k9 (f:=toPy 7) q λv hv w r=>lM 7 v w (bI.mp k v hv) r;exact⟨_,.list e rfl rfl ha⟩
 |_=>obtain rfl:=aj h;exact lM 8 _ a k ra
theorem CJ (R:Rel Z ρ X σ s.heap){u:V}(hx:oO σ x=aa u)(hy:oO σ y=aa v)(h:vB u v=aa r)(ra:bz ρ X s.heap x a)(rb:bz ρ X s.heap y b)(hu:A.units+64<kL) :
  (∀Q:ax->av->Prop,Q (.bool r) s->aE (aC Z.prog Z.w) A (eR .Eq a b) Q E s)/\(∀Q:ax->av->Prop,Q (.bool (!r)) s->aE (aC Z.prog Z.w) A (eR .NotEq a b) Q E s):=by
 refine qR (w3 h) λk1 k2 k3=>?_;obtain⟨as,ha⟩:=rS R hx k1 ra;obtain⟨bs,hb⟩:=rS R hy k2 rb;refine⟨λQ q=>compareEq_reads ha hb (jF 8 u k1) (jF 8 v k2) (Fp hu u v) ?_,λQ q=>compareNe_reads ha hb (jF 8 u k1) (jF 8 v k2) (Fp hu u v) ?_⟩;all_goals (rw[Hu 8 u v r k3];exact q)
open Classical in
theorem Ck (ra:bz ρ X s.heap x a)(hu:A.units+64<kL):∀ {l:List V} {ws:List ax} {r:Bool},qj x l=aa r->bt ρ X s.heap l ws ->
  ∃e:ax->Bool,(∀w∈ws,EqAt A s w a (e w))/\ws.any e=r
 |[],_,r,h,q=>by subst q;obtain rfl:=aj h;exact⟨λU=>ag,(λU h=>nomatch h),rfl⟩
 |v::l,ws,r,h,q=>by
  (refine mI q.jq λw t z1 r1 r2=>?_;subst z1);change (match vB v x,qj x l with|some a,aa b=>aa (a||b)|_,_=>du)=aa r at h;induction e1:vB v x with
  |none=>rw[e1]at h;exact fv h
  |some p =>
   induction e2:qj x l with
   |none=>rw[e1,e2]at h;exact fv h
   |some q =>
    rw[e1,e2]at h;obtain rfl:=aj h;refine dB (Ck ra hu e2 r2) λe he ha=>?_;have hw:EqAt A s w a p:=Km e1 r1 ra hu;by_cases m:w∈t
    .-- the same value aaX behind too: its truth is told once
     by_cases z:e w=p
     .exact⟨e,λu hu=>by rcases aM.mp hu with rfl|m';rw[z];exact hw;exact he u m',by rw[fy,ha,z]⟩
     .refine⟨λu=>if u=w then p||e w else e u,λu hu=>?_,?_⟩
      .by_cases c:u=w
       .obtain rfl:=fb (c);simp only[if_true];induction p with
        |true=>exact hw
        |false=>exact he w m
       .simp only[if_neg c];rcases aM.mp hu with q'|q'
        .exact absurd q' c
        .exact he u q'
      .rw[fy];simp only[if_true];have hz:(p||e w)=af:=by induction p<;>cases h2:e w<;>simp_all
       rw[hz,BD];induction p with
       |true=>rfl
       |false =>
        have:e w=af:=by simpa using hz
        rw[Ab,<- ha]
        symm
        exact mZ.mpr ⟨w,m,this⟩
    .refine⟨λu=>if u=w then p else e u,λu hu=>?_,?_⟩
     .by_cases c:u=w
      .obtain rfl:=fb (c);simp only[if_true];exact hw
      .simp only[if_neg c];rcases aM.mp hu with q'|q'
       .exact absurd q' c
       .exact he u q'
     .rw[fy];simp only[if_true];congr 1;rw[<- ha];have k:∀u∈t,(if u=w then p else e u)=e u:=λu hu=>if_neg λ(c:u=w)=>m (by rw[<- c];exact hu);exact z4 k
theorem zL (hu:A.units+65<kL)(h:qj x l=aa r)(ra:bz ρ X s.heap x a)(q:bt ρ X s.heap l vs) :
  ∃e:ax->Bool,(∀w∈vs.toArray,EqAt A.in1 s w a (e w))/\vs.toArray.any e=r:=by
 refine dB (Ck (A:=A.in1) (s:=s) ra (by show A.units+1+64<kL;exact abQ hu) h q) λe h1 h2=>?_;exact⟨e,λw hw=>h1 w (by simpa using hw),by rw[<- h2];simp⟩
theorem fq.at {K:Type}[DecidableEq K]{h:bV}:∀ {l:List (K×V)} {ws:List (K×ax)} {k:K},fq ρ X h l ws ->
  match (l.find? λp=>p.1=k).map (·.2)with
  |some v=>∃w,AI ws k=aa w/\bz ρ X h v w
  |none=>AI ws k=ae
 |[],_,k,r=>by subst r;rfl
 |(j,v)::l,_,k,r=>by
  (refine mI r λw t z1 a b=>?_;try clear r;subst z1);have ih:=fq.at (k:=k) b;unfold AI at ih ⊢;by_cases e:j=k
  .obtain rfl:=fb (e);simp only[i4,decide_true,vk];exact⟨w,rfl,a⟩
  .simp only[i4,e,decide_false];exact ih
theorem mu:∀(l:List (Int×V)) (k:Int),j2 l k=(l.find? λp=>p.1=k).map (·.2)
 |[]=>λU=>rfl
 |(j,v)::l=>λk=>by
  refine(?_:(if j=k then aa v else j2 l k)=_);by_cases e:j=k
  .subst e;simp
  .simp only[e,if_false,i4,decide_false];exact mu l k
theorem pD:∀(l:List (Str×V)) (k:Str),qz l k=(l.find? λp=>p.1=k).map (·.2)
 |[]=>λU=>rfl
 |(j,v)::l=>λk=>by
  refine(?_:(if j=k then aa v else qz l k)=_);by_cases e:j=k
  .subst e;simp
  .simp only[e,if_false,i4,decide_false];exact pD l k
theorem fq.some [DecidableEq K]{l:List (K×V)}{ws:List (K×ax)}{k:K}(r:fq ρ X h l ws):(AI ws k).isSome=((l.find? λp=>p.1=k).map (·.2)).isSome:=by
 have:=fq.at (k:=k) r
 split at this
 .rename_i e;(refine dB this λw hw U=>?_;try clear this);rw[hw,e];rfl
 .rename_i e;rw[this,e];rfl
theorem Rel.AZ (R:Rel Z ρ X σ s.heap)(hz:10<Z.base.objs.size){p:Pl}(hp:p∈ρ):(p.a==sysModules)=ag:=by
 have:=(R.ge p hp p.a (.head _)).1;have h2:p.a≠sysModules:=by unfold sysModules;exact λe=>by rw[e]at this;exact absurd (bK hz this) (by decide)
 simpa using h2
def P0 (Z:ng)(A:mR)(E:ax->av->Prop)(s:av)(a b:ax)(r:Bool):Prop :=
 (∀Q:ax->av->Prop,(∀t,Q (.bool r) {s with toks:=t})->aE (aC Z.prog Z.w) A (eR .In a b) Q E s)/\(∀Q:ax->av->Prop,(∀t,Q (.bool !r) {s with toks:=t})->aE (aC Z.prog Z.w) A (eR .NotIn a b) Q E s)
theorem in_list (hu:A.units+70<kL){p:aJ}(h:qj x l=aa r)(ra:bz ρ X s.heap x a)(pl:s.heap.PlainList p vs.toArray)(q:bt ρ X s.heap l vs):P0 Z A E s a (.ref p) r:=by refine dB (zL (A:=A) (cm (iY (by decide) _) hu) h ra q) λe h1 h2=>?_;exact⟨λQ q=>in_listAt e pl.isList h1 (h2▸q s.toks),λQ q=>notIn_listAt e pl.isList h1 (h2▸q s.toks)⟩
theorem OL (R:Rel Z ρ X σ s.heap)(hz:10<Z.base.objs.size)(hu:A.units+70<kL)(h:inO x σ[n]?=aa r)(ra:bz ρ X s.heap x a)(rb:bz ρ X s.heap (.loc n) b):P0 Z A E s a b r:=by
 (refine dB rb λp hp z1=>?_;try clear rb;subst z1);have hs:=R.AZ hz (aN hp);induction hx:σ[n]? with
 |none=>rw[hx]at h;exact fv h
 |some o =>
  have ob:=R.obj n p o hp hx;rw[hx]at h;induction o with
  |list l =>obtain⟨_,vs,pl,q⟩:=ob;exact in_list hu h ra pl q
  |cH l =>
   cases x with
   |int i =>
    obtain⟨t,rfl⟩:=ra;obtain⟨_,lI,hd,pr⟩:=ob;have e:(AI lI i).isSome=r:=by rw[<- aj h,mu];exact pr.some
    exact⟨λQ q=>wpAny_in_of (k:=i) (pR ..) hs hd.mapOf (e▸q _),λQ q=>wpAny_notIn_of (k:=i) (pR ..) hs hd.mapOf (e▸q _)⟩
   |_=>exact fv h
  |dN l =>
   cases x with
   |str i =>
    obtain⟨t,rfl⟩:=ra;obtain⟨_,lI,hd,pr⟩:=ob;have e:(AI lI i).isSome=r:=by rw[<- aj h,pD];exact pr.some
    exact⟨λQ q=>wpAny_in_of (k:=i) (vx ..) hs hd.mapOf (e▸q _),λQ q=>wpAny_notIn_of (k:=i) (vx ..) hs hd.mapOf (e▸q _)⟩
   |_=>exact fv h
  |inst l=>exact fv h
theorem Fj (R:Rel Z ρ X σ s.heap)(hz:10<Z.base.objs.size)(hu:A.units+70<kL)(h:inV σ x y=aa r)(ra:bz ρ X s.heap x a)(rb:bz ρ X s.heap y b):P0 Z A E s a b r:=by
 induction y using V.casesOn with
 |lst l=>(refine wH rb λp vs z1 U U pl q=>?_;try clear rb;subst z1);exact in_list hu h ra pl q
 |tup l =>(refine wH rb λp vs z1 U U pl q=>?_;try clear rb;subst z1);refine dB (zL (A:=A) (cm (iY (by decide) _) hu) h ra q) λe h1 h2=>?_;exact⟨λQ q=>in_tupleAt e pl.Ct h1 (h2▸q s.toks),λQ q=>notIn_tupleAt e pl.Ct h1 (h2▸q s.toks)⟩
 |loc n=>exact OL R hz hu h ra rb
 |_=>exact fv h
theorem xM {op:CmpOp}{f:Int->Int->Bool}(h:ib x y f=aa r)(ra:bz ρ X s.heap x a)(rb:bz ρ X s.heap y b)(q:Q (.bool r) s)
  (k:∀i j t u,Q (.bool (f i j)) s->aE (aC Z.prog Z.w) A (eR op (.int i t) (.int j u)) Q E s):aE (aC Z.prog Z.w) A (eR op a b) Q E s:=by
 induction x using V.casesOn with
 |int i =>
  induction y using V.casesOn with
  |int j =>obtain⟨t,rfl⟩:=ra;obtain⟨u,rfl⟩:=rb;exact k i j t u (aj h▸q)
  |_=>exact fv h
 |_=>exact fv h
theorem OH (ra:bz ρ X s.heap x a)(h:MR x=af):a=.none:=by
 cases x with
 |none=>exact ra
 |_=>exact jH h
theorem Fi (ra:bz ρ X s.heap x a)(rb:bz ρ X s.heap y b)(hb:MR y=af) :
  (Q (.bool (MR x)) s->aE (aC Z.prog Z.w) A (eR .Is a b) Q E s)/\(Q (.bool (isM x)) s->aE (aC Z.prog Z.w) A (eR .IsNot a b) Q E s):=by
 obtain rfl:=OH rb hb;induction x using V.casesOn with
 |none=>subst ra;exact⟨λq=>iR (Q:=Q) rfl q,λq=>fY (Q:=Q) rfl q⟩
 |bool i=>subst ra;exact⟨λq=>iR (Q:=Q) rfl q,λq=>fY (Q:=Q) rfl q⟩
 |int i=>obtain⟨t,rfl⟩:=ra;exact⟨λq=>iR (Q:=Q) rfl q,λq=>fY (Q:=Q) rfl q⟩
 |str i=>obtain⟨t,rfl⟩:=ra;exact⟨λq=>iR (Q:=Q) rfl q,λq=>fY (Q:=Q) rfl q⟩
 |loc n=>(refine dB ra λt U z1=>?_;try clear ra;subst z1);exact⟨λq=>iR (Q:=Q) rfl q,λq=>fY (Q:=Q) rfl q⟩
 |tup l=>(refine Ea ra λt vs z1 U=>?_;try clear ra;subst z1);exact⟨λq=>iR (Q:=Q) rfl q,λq=>fY (Q:=Q) rfl q⟩
 |lst l=>(refine Ea ra λt vs z1 U=>?_;try clear ra;subst z1);exact⟨λq=>iR (Q:=Q) rfl q,λq=>fY (Q:=Q) rfl q⟩
theorem Hv {o p:Option V}(h:eqD o p=aa r):∃u v,o=aa u/\p=aa v/\vB u v=aa r:=by
 induction o with
 |none=>exact fv h
 |some u =>
  induction p with
  |none=>exact fv h
  |some v=>exact⟨u,v,rfl,rfl,h⟩
theorem Cf {o:Option Bool}(h:o.map (!·)=aa r):o=aa (!r):=by
 induction o with
 |none=>exact fv h
 |some b=>obtain rfl:=aj h;exact congrArg aa (BE b).symm
theorem oh (R:Rel Z ρ X σ s.heap)(hz:10<Z.base.objs.size)(hu:A.units+70<kL)(o:Cm)(h:fc σ o x y=aa r)(ra:bz ρ X s.heap x a)(rb:bz ρ X s.heap y b)
  (q:∀t,Q (.bool r) {s with toks:=t}):aE (aC Z.prog Z.w) A (eR (Ag o) a b) Q E s:=by
 have q0:Q (.bool r) s:=q s.toks;have hu':A.units+64<kL:=cm (iY (by decide) _) hu;induction o with
 |eq =>refine mI (Hv h) λu v hx hy e=>?_;exact(CJ R hx hy e ra rb hu').1 Q q0
 |ne =>refine mI (Hv (Cf h)) λu v hx hy e=>?_;exact(CJ R hx hy e ra rb hu').2 Q ((BE r).symm▸q0)
 |lt=>exact xM (f:=λx y=>decide (x<y)) h ra rb q0 λU U U U=>lt_int
 |le=>exact xM (f:=λx y=>decide (x<=y)) h ra rb q0 λU U U U=>le_int
 |gt=>exact xM (f:=λx y=>decide (y<x)) h ra rb q0 λU U U U=>gt_int
 |ge=>exact xM (f:=λx y=>decide (y<=x)) h ra rb q0 λU U U U=>ge_int
 |is =>
  by_cases hb:MR y=af
  .exact(Fi ra rb hb).1 (aj ((if_pos hb).symm.trans h)▸q0)
  .exact absurd ((if_neg hb).symm.trans h) (by nofun)
 |rX =>
  by_cases hb:MR y=af
  .exact(Fi ra rb hb).2 (aj ((if_pos hb).symm.trans h)▸q0)
  .exact absurd ((if_neg hb).symm.trans h) (by nofun)
 |rp=>exact(Fj R hz hu h ra rb).1 Q q
 |H3=>exact(Fj R hz hu (Cf h) ra rb).2 Q ((BE r).symm▸q)
end
noncomputable abbrev tq (ws:List ax):Obj:={cls:=.type "list",data:=.seq ws.toArray}
noncomputable abbrev oY (ws:List ax):Obj:={cls:=.type "tuple",data:=.seq ws.toArray}
theorem iu:lim<=fz:=by delta lim fz;decide
section
variable {X:List aJ}
theorem Rel.Ov (R:Rel Z ρ X σ s.heap):Off ρ s.heap.objs.size:=λp hp q=>absurd (R.lt hp q) (gV _)
theorem Rel.newX (R:Rel Z ρ X σ s.heap):s.heap.objs.size∉X:=λq=>absurd (R.vF _ q) (gV _)
theorem wo    {h':bV}{a:aJ}(R:Rel Z ρ X σ s.heap)(r:bt ρ X s.heap l ws)(x:Ext s.heap h')
  (ha:s.heap.objs.size<=a)(hl:h'.PlainList a ws.toArray)(k:∀Q E,Q (.ref a) {s with heap:=h',toks:=t}->W Q E):Run Z [] X ρ s (TV X) (gP m l σ) W:=by
 delta gP;have hX:a∉X:=λq=>absurd (R.vF _ q) (bO.mpr ha);have hO:Off ρ a:=λp hp q=>absurd (R.lt hp q) (bO.mpr ha)
 split
 .rename_i Qq
  induction m with
  |true =>
   simp only[if_true];have:=R.new (p:=⟨a,ae⟩) (o:=.list l) x (λy hy=>by simp only[Pl.lW,eE,au]at hy;subst hy;exact ha) (λy hy=>by simp only[Pl.lW,eE,au]at hy;subst hy;exact hX)
    (by simp) (λg=>⟨rfl,ws,hl,bt.mono g (λU q=>nomatch q) (λU q=>.inl q) _ _ r⟩)
   refine .ok ⟨this.2,h',t,rfl⟩ this.1 ?_ k;exact bB (⟨a,ae⟩) ⟨by rw[<- R.len];simp,rfl⟩
  |false =>simp only[cN,if_false];refine .ok (Go.ext x) (R.ext x) ?_ k;exact bB a ⟨ws,rfl,hO,hX,hl,r.ext x⟩
 .trivial
theorem nu    (R:Rel Z ρ X σ s.heap)(r:bt ρ X s.heap l ws)
  (k:l.length<lim->∀Q E,Q (.ref s.heap.objs.size) {s with heap:=s.heap.push (tq ws)}->W Q E):Run Z [] X ρ s (TV X) (gP m l σ) W:=by
 by_cases hl:l.length<lim
 .exact wo (t:=s.toks) R r (Ext.push _) (aO _) ⟨0,cE _ rfl⟩ (k hl)
 .delta gP;rw[if_neg hl];trivial
theorem nr   (R:Rel Z ρ X σ s.heap)(r:bt ρ X s.heap l ws)
  (k:∀Q E,Q (.ref s.heap.objs.size) {s with heap:=s.heap.push (oY ws)}->W Q E):Run Z [] X ρ s (TV X) (.ok (.tup l) σ) W:=by
 refine .ok (Go.ext (t:=s.toks) (Ext.push _)) (R.ext (Ext.push _)) ?_ k;exact bB _ ⟨ws,rfl,R.Ov,R.newX,⟨0,cE _ rfl⟩,r.ext (Ext.push _)⟩
noncomputable def Qc:Ng->Operator
 |.add=>.Add|.sub=>.Sub|.mul=>.Mult|.fdiv=>.FloorDiv|.mod=>.Mod|.pow _=>.Pow
theorem TupAt.obj {a:aJ}(t:TupAt h a vs):∃n,h.get? a=aa {cls:=.type "tuple",data:=.seq vs.toArray n}:=t
theorem zT:∀n:Nat,gx (λ(x1 x2:Array ax)=>x1++x2) #[] (bF n ws.toArray)=((bF n ws).flatten).toArray:=by
 have key:∀(n:Nat) (acc:Array ax),gx (λ(x1 x2:Array ax)=>x1++x2) acc (bF n ws.toArray)=acc++((bF n ws).flatten).toArray:=by
  intro n;induction n with
  |zero=>intro acc;simp
  |succ n ih=>intro acc;rw[qP,List.foldl_cons,ih,qP,List.flatten_cons];simp
 intro n;rw[key];simp
theorem vW {l b:aJ}(hl:s.heap.IsList l vs.toArray)(hb:s.heap.IsList b ws.toArray)
  (h:Q (.ref s.heap.objs.size) {s with heap:=s.heap.push (tq (vs++ws))})(hsz:vs.length+ws.length<=fz):aE (aC Z.prog Z.w) A (gJ .Add (.ref l) (.ref b)) Q E s:=by
 obtain⟨⟨cls,dd,data,sl⟩,ho,hc,n,hd⟩:=id hl;obtain⟨⟨acT,dd2,data2,QW⟩,J1,Ka,n2,hd2⟩:=id hb;simp only at hc hd Ka hd2;subst hc hd Ka hd2;have e:vs.toArray++ws.toArray=(vs++ws).toArray:=by simp
 refine w5 ⟨_,ho,rfl⟩ ⟨_,J1,rfl⟩ noFill_list_add seq_list_add PySem.F.slot_list_add PySem.F.entry_list_add (PySem.F.args_list_add_2 _ _) (list_addW l b vs.toArray ws.toArray n n2 dd dd2 sl QW (by simpa using hsz)) ⟨ho,J1,?_⟩;rw[e];exact h
theorem vj {t b:aJ}(ht:IsTup s.heap t vs.toArray)(hb:IsTup s.heap b ws.toArray)
  (h0:vs=[]->Q (.ref b) s)(h1:vs≠[]->ws=[]->Q (.ref t) s)(h2:Q (.ref s.heap.objs.size) {s with heap:=s.heap.push (oY (vs++ws))})
  (hsz:vs.length+ws.length<=fz):aE (aC Z.prog Z.w) A (gJ .Add (.ref t) (.ref b)) Q E s:=by
 obtain⟨⟨cls,dd,data,sl⟩,ho,hc,n,hd⟩:=id ht;obtain⟨⟨acT,dd2,data2,QW⟩,J1,Ka,n2,hd2⟩:=id hb;simp only at hc hd Ka hd2;subst hc hd Ka hd2;have e:vs.toArray++ws.toArray=(vs++ws).toArray:=by simp
 by_cases hv:vs=[]
 .exact w5 ⟨_,ho,rfl⟩ ⟨_,J1,rfl⟩ yq D8 mP ma (lJ _ _)
   (tuple_addW0 t b vs.toArray ws.toArray n n2 dd dd2 sl QW (by simp[hv])) ⟨ho,J1,h0 hv⟩
 .by_cases hw:ws=[]
  .exact w5 ⟨_,ho,rfl⟩ ⟨_,J1,rfl⟩ yq D8 mP ma (lJ _ _)
    (tuple_addW1 t b vs.toArray ws.toArray n n2 dd dd2 sl QW (by simpa using hv) (by simp[hw])) ⟨ho,J1,h1 hv hw⟩
  .refine w5 ⟨_,ho,rfl⟩ ⟨_,J1,rfl⟩ yq D8 mP ma (lJ _ _)
    (tuple_addW2 t b vs.toArray ws.toArray n n2 dd dd2 sl QW (by simpa using hv) (by simpa using hw) (by rw[b9,b9];exact hsz)) ⟨ho,J1,?_⟩
   rw[e];exact h2
theorem xS {l:aJ}
  (hl:s.heap.get? l=aa {cls:=.type "list",dict:=ae,data:=.seq ws.toArray k,slots:=#[]})
  (Ed:0<=i)(hhi:i<2 ^ 63)(hsz:ws.length*i.toNat<=2 ^ 24)
  (h:Q (.ref s.heap.objs.size) {s with heap:=s.heap.push (tq ((bF i.toNat ws).flatten))}) :
  aE (aC Z.prog Z.w) A (gJ .Mult (.ref l) (.int i u)) Q E s:=by
 refine C4 (T:="list") (U:="int") (by decide) ⟨_,hl,rfl⟩ (λs'=>BQ s' i u) noFill_list_mul F.fills_int_mul pK repeat_list F.slot_int_index.lookup
  (fw pK (BQ s i u) F.entry_int_rmul (F.args_int_rmul_2 _ _) (int___rmul___int_list i u l ws.toArray k)
   ⟨hl,rfl,⟨_,hl,rfl⟩,fw F.slot_list_mul ⟨_,hl,rfl⟩ F.entry_list_mul (F.args_list_mul_2 _ _)
    (AutoListH.list___mul___list_int_3 l ws.toArray k i u (by simp[rJ];lia) (by simp;exact abN hsz) (by simp[s7,fz];exact abM hsz))
    ⟨hl,?_⟩⟩)
 have e:gx (λ(x1 x2:Array ax)=>x1++x2) #[] (bF (if ws.toArray.isEmpty=af then 0 else i.toNat) ws.toArray)=((bF i.toNat ws).flatten).toArray:=by
  by_cases hw:ws=[]
  .subst hw;simp
  .rw[if_neg (by simpa using hw)];exact zT _
 rw[e];exact h
end
section
theorem z5 (a n:Nat)(ha:a<=n):j7 ae (aa (a:Int)) 1 (n:Int)=(0,(a:Int)):=by
 delta j7;have h1:¬((1:Int)<0):=by exact abP
 have h2:¬((a:Int)<0):=by exact abO
 simp only[h1,h2,if_false];congr 1;lia
theorem zw (a:Nat):j5 0 (a:Int) 1=a:=by have:=places_from 0 a (bL _);simpa using this
theorem qb  {a:Nat}{Q:Int×Int×Nat->av->Prop}(hs:s.heap.IsSliceOf sl .none (.int a u) .none)(ha:a<=n)(h:Q (0,1,a) s) :
  aE (aC prog w) A (jO (.ref sl) (pure (n:Int))) Q E s:=by
 refine ti (id hs) λos OO OV ZK=>?_;delta jO Builtin.Slice.sliceFields;refine aq (aq (iS OO ZK (x:=.none) rfl (aq (iS OO ZK (x:=.int a u) rfl (aq (iS OO ZK (x:=.none) rfl (aW ?_)))))));refine aq (slicePart_none ?_);refine(?_:aE _ _ (if((1:Int)==0)=af then _ else _) _ _ s);rw[if_neg (by decide)];refine aq (slicePart_none (aq (slicePart_int (aq (aW ?_)))));refine(?_:aE _ _ (match j7 ae (aa (a:Int)) 1 (n:Int)with|(lo,hi)=>pure (lo,(1:Int),j5 lo hi 1)) _ _ s);rw[z5 a n ha];refine(?_:aE _ _ (pure ((0:Int),(1:Int),j5 (0:Int) (a:Int) 1)) _ _ s);rw[zw a];exact aW h
theorem Du (xs:Array ax)(a:Nat)(ha:a<=xs.size):((fG a).filterMap λ(k:Nat)=>xs[((0:Int)+(k:Int)*1).toNat]?).toArray=(xs.toList.take a).toArray:=by
 have e:(λ(k:Nat)=>xs[((0:Int)+(k:Int)*1).toNat]?)=λk=>xs[0+k]?:=by
  funext k
  have:((0:Int)+(k:Int)*1).toNat=0+k:=by lia
  rw[this]
 rw[e];have:=pick_run xs 0 a;rw[List.filterMap_map]at this;have e2:((λx=>xs[x]?) ∘ λx=>0+x)=λk=>xs[0+k]?:=rfl;rw[e2]at this;rw[this];simp
theorem jZ {t:aJ}{lo:Int}(ht:IsTup s.heap t vs.toArray)(hT:s.TypeIs (.ref sl) "slice")
  (hap:∀Q':Int×Int×Nat->av->Prop,Q' (lo,1,n) s->aE (aC prog w) A.in1 (jO (.ref sl) (pure (vs.toArray.size:Int))) Q' (λe s'=>E e s') s)
  (hw:((fG n).filterMap λ(k:Nat)=>vs.toArray[(lo+(k:Int)*1).toNat]?).toArray=ws.toArray)
  (h0:lo=0->n=vs.length->Q (.ref t) s)(h1:Q (.ref s.heap.objs.size) {s with heap:=s.heap.push (oY ws)})
  (hsz:ws.length<=fz):aE (aC prog w) A (gr (.ref t) (.ref sl)) Q E s:=by
 have GQ:sizeOk (.seq ws.toArray):=by refine(?_:ws.toArray.size<=fz);rw[b9];exact hsz
 delta gr
 try with_reducible refine bC ?_
 first|refine aq (aW ?_)|skip
 refine aq (wpAny_sequenceKey ht.typeIs (by decide) ?_);refine aq (wpAny_callSpecial?_slot (name:=cU "__getitem__") ht.typeIs slot_tuple_getitem
  (yp slot_tuple_getitem ht.typeIs entry_tuple_getitem ?_ (args_tuple_getitem _ _)))
 refine(?_:aE _ _ (Builtin.Tuple.tupleItemsOf (.ref t) >>= _) _ _ s);refine aq (tupleItemsOf_ ht ?_);refine aq (wpAny_typeOf hT ?_);rw[if_pos (by decide)];refine aq (hap _ ?_);refine(?_:aE _ _ (if(lo==0&&(1:Int)==1&&n==vs.toArray.size)=af then _ else _) _ _ s);by_cases hc:(lo==0&&(1:Int)==1&&n==vs.toArray.size)=af
 .rw[if_pos hc];simp only[bx,beq_iff_eq,b9]at hc;delta Builtin.Tuple.tupleIsExact;refine aq (aq (wpAny_typeOf ht.typeIs (aW ?_)));rw[if_pos (by decide)];exact aq (kO (aW ⟨_,rfl,aW (h0 hc.1.1 hc.2)⟩))
 .rw[if_neg hc,hw];exact aq (m:=Builtin.Tuple.tupleExact _) (jU (aW ⟨_,rfl,aW h1⟩) GQ)
theorem Dc {t:aJ}{a:Nat}(ht:IsTup s.heap t vs.toArray)(hs:s.heap.IsSliceOf sl (.int a u) .none .none)(ha:a<=vs.length)
  (h0:a=0->Q (.ref t) s)(h1:Q (.ref s.heap.objs.size) {s with heap:=s.heap.push (oY (vs.drop a))})(hsz:vs.length<=fz):aE (aC prog w) A (gr (.ref t) (.ref sl)) Q E s:=by
 refine ti (id hs) λos OO OV ZK=>?_;refine jZ (lo:=a) (n:=vs.length-a) (ws:=vs.drop a) ht ⟨os,OO,OV⟩ (λQ' q=>sliceApplied_from hs (by simpa using ha) (by simpa using q)) ?_ (λe U=>h0 (abL e)) h1 (by rw[jS];exact abK ha hsz);have:=pick_from vs.toArray a (by simpa using ha);simpa using this
theorem De {t:aJ}{a:Nat}(ht:IsTup s.heap t vs.toArray)(hs:s.heap.IsSliceOf sl .none (.int a u) .none)(ha:a<=vs.length)
  (h0:a=vs.length->Q (.ref t) s)(h1:Q (.ref s.heap.objs.size) {s with heap:=s.heap.push (oY (vs.take a))})(hsz:vs.length<=fz):aE (aC prog w) A (gr (.ref t) (.ref sl)) Q E s:=by
 refine ti (id hs) λos OO OV ZK=>?_;refine jZ (lo:=0) (n:=a) (ws:=vs.take a) ht ⟨os,OO,OV⟩ (λQ' q=>qb hs (by simpa using ha) q) ?_ (λU e=>h0 e) h1 (by rw[cv];exact abJ ha hsz);have:=Du vs.toArray a (by simpa using ha);simpa using this
end
theorem rj:fillsNumberSlot (.type "tuple") "mul"=pure ag :=
 PySem.fillsNumberSlot_seq (id:="tuple.__mul__") (r:=aa (.builtin "tuple.__rmul__")) km.lookup (by decide +kernel) F.slot_tuple_rmul.lookup (by decide +kernel)
theorem xO:seqRepeat? (.type "tuple")=pure (aa (.builtin "tuple.__mul__")):=by unfold seqRepeat?;rw[PySem.seqSlot_of (T:="tuple") (name:="__mul__") (id:="tuple.__mul__") km.lookup (by decide +kernel),PySem.seqSlot_of (T:="tuple") (name:="__rmul__") (id:="tuple.__rmul__") F.slot_tuple_rmul.lookup (by decide +kernel)];rfl
theorem uN (a:Int)(t:Tok)(l:aJ)(items:Array ax)(n:Nat) :
  Meets (Builtin.«int.__rmul__» ⟨[.int a t,.ref l],[]⟩) (λU R s=>s.heap.get? l=aa {cls:=.type "tuple",dict:=ae,data:=.seq items n,slots:=#[]}/\R (.ok (.ret Value.notImplemented)) s) :=
 .of_wp λprog w A R s h=>by obtain⟨hp,g,d,tk,os⟩:=s;obtain⟨hl,h⟩:=h;wp_walk;exact⟨_,rfl,h⟩
theorem t5 (l:aJ)(items:Array ax)(n:Nat)(i:Int)(u:Tok)(h0:¬(decide (i < -(2 ^ 63))||decide (i >= 2 ^ 63))=af)(h1:(items.isEmpty||i==1)=af) :
  Meets (Builtin.«tuple.__mul__» ⟨[.ref l,.int i u],[]⟩) (λU R s=>s.heap.get? l=aa {cls:=.type "tuple",dict:=ae,data:=.seq items n,slots:=#[]}/\R (.ok (.ret (dP l))) s) :=
 .of_wp λprog w A R s h=>by
  obtain⟨hp,g,d,tk,os⟩:=s;obtain⟨hl,h⟩:=h
  wp_walk
  refine ig ?_;rw[if_neg h0];wp_walk;exact⟨_,rfl,h⟩
theorem t6 (l:aJ)(items:Array ax)(n:Nat)(i:Int)(u:Tok)(h0:¬(decide (i < -(2 ^ 63))||decide (i >= 2 ^ 63))=af)(h1:¬(items.isEmpty||i==1)=af)(h2:(decide (i<=0)||items.isEmpty)=af) :
  Meets (Builtin.«tuple.__mul__» ⟨[.ref l,.int i u],[]⟩) (λU R s=>s.heap.get? l=aa {cls:=.type "tuple",dict:=ae,data:=.seq items n,slots:=#[]}/\R (.ok (.ret (dP s.heap.objs.size))) {s with heap:=s.heap.push {cls:=.type "tuple",data:=.seq #[]}}) :=
 .of_wp λprog w A R s h=>by
  obtain⟨hp,g,d,tk,os⟩:=s;obtain⟨hl,h⟩:=h
  wp_walk
  refine ig ?_;rw[if_neg h0];wp_walk;exact⟨_,rfl,h⟩
theorem t7 (l:aJ)(items:Array ax)(n:Nat)(i:Int)(u:Tok)(h0:¬(decide (i < -(2 ^ 63))||decide (i >= 2 ^ 63))=af)(h1:¬(items.isEmpty||i==1)=af)(h2:¬(decide (i<=0)||items.isEmpty)=af)
  (h3:¬(items.size:Int)*i>(2 ^ 63-1)/8)(h4:¬qX ((items.size:Int)*i)=af)(h5:(gx (λ(x1 x2:Array ax)=>x1++x2) #[] (bF i.toNat items)).size<=fz) :
  Meets (Builtin.«tuple.__mul__» ⟨[.ref l,.int i u],[]⟩) (λU R s=>s.heap.get? l=aa {cls:=.type "tuple",dict:=ae,data:=.seq items n,slots:=#[]}/\R (.ok (.ret (dP s.heap.objs.size))) {s with heap:=s.heap.push {cls:=.type "tuple",data:=.seq (gx (λx1 x2=>x1++x2) #[] (bF i.toNat items))}}) :=
 .of_wp λprog w A R s h=>by
  obtain⟨hp,g,d,tk,os⟩:=s;obtain⟨hl,h⟩:=h
  wp_walk
  refine ig ?_;rw[if_neg h0];wp_walk;refine ig ?_;rw[if_neg h3];wp_walk;exact⟨_,rfl,h⟩
section
theorem vQ {l:aJ}
  (hl:s.heap.get? l=aa {cls:=.type "tuple",dict:=ae,data:=.seq ws.toArray k,slots:=#[]})
  (Ed:0<=i)(hhi:i<2 ^ 62)(hsz:ws.length*i.toNat<=2 ^ 24)
  (h0:ws=[]\/i=1->Q (.ref l) s)
  (h:Q (.ref s.heap.objs.size) {s with heap:=s.heap.push (oY ((bF i.toNat ws).flatten))}) :
  aE (aC prog w) A (gJ .Mult (.ref l) (.int i u)) Q E s:=by
 have k0:¬(decide (i < -(2 ^ 63))||decide (i >= 2 ^ 63))=af:=by simp;lia
 have key:aE (aC prog w) A (call (.builtin "tuple.__mul__") [.ref l,.int i u]) Q E s:=by
  by_cases h1:(ws.toArray.isEmpty||i==1)=af
  .refine fw km ⟨_,hl,rfl⟩ vD (tI _ _) (t5 l ws.toArray k i u k0 h1) ⟨hl,h0 ?_⟩;rcases Em.mp h1 with q|q
   .exact .inl (by simpa using q)
   .exact .inr (by simpa using q)
  .by_cases h2:(decide (i<=0)||ws.toArray.isEmpty)=af
   .refine fw km ⟨_,hl,rfl⟩ vD (tI _ _) (t6 l ws.toArray k i u k0 h1 h2) ⟨hl,?_⟩;have:i=0:=by
     rcases Em.mp h2 with q|q
     .have:=of_decide_eq_true q;lia
     .exact absurd (by rw[q];rfl) h1
    subst this;exact h
   .have hm:(ws.toArray.size:Int)*i=((ws.length*i.toNat:Nat):Int):=by rw[b9,Int.natCast_mul,gh Ed]
    have e:=zT (ws:=ws) i.toNat;refine fw km ⟨_,hl,rfl⟩ vD (tI _ _) (t7 l ws.toArray k i u k0 h1 h2 (by rw[hm];lia) (by rw[hm];delta qX fz;simp only[decide_eq_true_eq];exact aa8 hsz) ?_) ⟨hl,?_⟩
    .rw[e,b9];have:((bF i.toNat ws).flatten).length=i.toNat*ws.length:=by simp
     rw[this,CP];exact hsz
    .rw[e];exact h
 exact C4 (T:="tuple") (U:="int") (by decide) ⟨_,hl,rfl⟩ (λs'=>BQ s' i u) rj F.fills_int_mul pK xO F.slot_int_index.lookup
  (fw pK (BQ s i u) F.entry_int_rmul (F.args_int_rmul_2 _ _) (uN i u l ws.toArray k) ⟨hl,rfl,⟨_,hl,rfl⟩,key⟩)
end
theorem qG (h:big i=af):i.natAbs<2 ^ 62:=by unfold big at h;simpa using h
section
variable {X:List aJ}
theorem qc {w:ax}(R:Rel Z ρ X σ s.heap)(r:bz ρ X s.heap v w)(k:∀Q E,Q w {s with toks:=t}->W Q E):Run Z [] X ρ s (TV X) (.ok v σ) W :=
 .ok (s':={s with toks:=t}) Go.tok R r k
theorem mU   : bz ρ X h (.int i) (.int i t):=by exact bB t rfl
theorem tZ {i:Bool}:bz ρ X h (.bool i) (.bool i):=rfl
theorem AH {i:Str}  : bz ρ X h (.str i) (.str i t):=by exact bB t rfl
theorem tY:bz ρ X h .none .none:=rfl
theorem zK (h:big i=af):Builtin.Int.intBits i<=64:=intBits_le_64 (by have:=qG h;lia) (by have:=qG h;lia)
theorem rR (l:List V):∀n,(mV l n).length=n*l.length
 |0=>(Nat.zero_mul _).symm
 |n+1=>by rw[show mV l (n+1)=l++mV l n from rfl,ao,rR l n,Nat.succ_mul];exact abI
section
variable {α:Type}{T:List Pl->bV->V->α->Prop}{r:R V}{W:(α->av->Prop)->(ax->av->Prop)->Prop}
theorem Run.if {c:Prop}[d:Decidable c](h:c->Run Z [] X ρ s T r W):Run Z [] X ρ s T (if c then r else .bad) W:=by
 induction d with
 |isTrue k=>exact h k
 |isFalse _=>trivial
end
theorem ue (op:Operator){f:Int->Int->R V}(ra:bz ρ X s.heap x a)(rb:bz ρ X s.heap y b)(h:∀i j t u,Run Z [] X ρ s (TV X) (f i j) (λQ E=>aE (aC Z.prog Z.w) A (gJ op (.int i t) (.int j u)) Q E s)) :
  Run Z [] X ρ s (TV X) (ii x y f) (λQ E=>aE (aC Z.prog Z.w) A (gJ op a b) Q E s):=by
 induction x using V.casesOn with
 |int i =>
  induction y using V.casesOn with
  |int j =>obtain⟨t,rfl⟩:=ra;obtain⟨u,rfl⟩:=rb;exact h i j t u
  |_=>trivial
 |_=>trivial
theorem uB (R:Rel Z ρ X σ s.heap)(h:Ah σ x=aa l)(ra:bz ρ X s.heap x a):∃p vs,a=.ref p/\s.heap.PlainList p vs.toArray/\bt ρ X s.heap l vs:=by
 induction x using V.casesOn with
 |lst k =>obtain rfl:=aj h;(refine wH ra λp vs e U U t q=>?_;try clear ra);exact⟨p,vs,e,t,q⟩
 |loc n =>
  (refine dB ra λp hp e=>?_;try clear ra);change (match σ[n]? with|some (.list l)=>aa l|_=>ae)=aa l at h;induction hx:σ[n]? with
  |none=>rw[hx]at h;exact fv h
  |some o =>
   rw[hx]at h;induction o with
   |list k =>obtain rfl:=aj h;obtain⟨_,vs,t,q⟩:=R.obj n p _ hp hx;exact⟨p.a,vs,e,t,q⟩
   |_=>exact fv h
 |_=>exact fv h
theorem Ja (m:Bool)(R:Rel Z ρ X σ s.heap)(ra:bz ρ X s.heap x a)(rb:bz ρ X s.heap y b) :
  Run Z [] X ρ s (TV X) (Pd σ m (Ah σ x) (Ah σ y)) (λQ E=>aE (aC Z.prog Z.w) A (gJ .Add a b) Q E s):=by
 induction h1:Ah σ x with
 |none=>trivial
 |some l1 =>
  induction h2:Ah σ y with
  |none=>trivial
  |some l2 =>(refine mI (uB R h1 ra) λp vs z1 t1 q1=>?_;subst z1);(refine mI (uB R h2 rb) λp' ws z1 t2 q2=>?_;subst z1);exact nu R (q1.append q2) λhl Q E q=>vW t1.isList t2.isList q (by have l1:=q1.length;have l2:=q2.length;have:=iu;rw[ao]at hl;exact Ta hl l1 l2 this)
theorem HR {x y:Str}{t:Tok}(k:x.cps.size+y.cps.size<lim)(q:∀t' tk,Q (.str ⟨x.cps++y.cps⟩ t') {s with toks:=tk}):aE (aC Z.prog Z.w) A (gJ .Add (.str x t) (.str y u)) Q E s:=by have e:({cps:=x.cps++y.cps}:Str)=x++y:=Str.ext' (by rw[Str.cps_append]);rw[e]at q;exact PyProof.Rows.add_str q (dj (bK k iu))
theorem Fm {x y:List V}(R:Rel Z ρ X σ s.heap)(ra:bz ρ X s.heap (.tup x) a)(rb:bz ρ X s.heap (.tup y) b)(k:x.length+y.length<lim) :
  Run Z [] X ρ s (TV X) (.ok (.tup (x++y)) σ) (λQ E=>aE (aC Z.prog Z.w) A (gJ .Add a b) Q E s):=by
 have Qa:=ra;have rb':=rb;(refine wH ra λp vs z1 o1 x1 t1 q1=>?_;try clear ra;subst z1);(refine wH rb λp' ws z1 o2 x2 t2 q2=>?_;try clear rb;subst z1);intro Q E q;have l1:=q1.length;have l2:=q2.length;refine vj t1.isTup t2.isTup (λe=>?_) (λU e=>?_) ?_ (by have:=iu;exact Ta k l1 l2 this)
 .subst e;obtain rfl:x=[]:=gf.mp l1;exact q _ ρ s .refl R rb'
 .subst e;obtain rfl:y=[]:=gf.mp l2;exact q _ ρ s .refl R (by rw[aP];exact Qa)
 .exact nr R (q1.append q2) (λQ E q=>q) Q E q
theorem Fg {x:List V}(R:Rel Z ρ X σ s.heap)(ra:bz ρ X s.heap (.tup x) a)(k:i.toNat*x.length<lim/\0<=i/\i<1000) :
  Run Z [] X ρ s (TV X) (.ok (.tup (mV x i.toNat)) σ) (λQ E=>aE (aC Z.prog Z.w) A (gJ .Mult a (.int i u)) Q E s):=by
 have Qa:=ra;(refine wH ra λp vs z1 o1 x1 t1 q1=>?_;try clear ra;subst z1);obtain⟨n,e⟩:=t1;have l1:=q1.length;intro Q E q;have sz:vs.length*i.toNat<=2 ^ 24:=by rw[CP,<- l1];have:=k.1;unfold lim at this;exact RQ this
 refine vQ e k.2.1 (by lia) sz (λz=>q _ ρ s .refl R ?_) ?_
 .have:mV x i.toNat=x:=by
   rcases z with z|z
   .subst z;obtain rfl:x=[]:=gf.mp l1;exact gf.mp (by rw[rR];rfl)
   .subst z;exact aP x
  rw[this];exact Qa
 .exact nr R (q1.rep i.toNat) (λQ E q=>q) Q E q
theorem Fh (m:Bool){x:List V}(R:Rel Z ρ X σ s.heap)(ra:bz ρ X s.heap (.lst x) a)(k:i.toNat*x.length<lim/\0<=i/\i<1000) :
  Run Z [] X ρ s (TV X) (gP m (mV x i.toNat) σ) (λQ E=>aE (aC Z.prog Z.w) A (gJ .Mult a (.int i u)) Q E s):=by
 (refine wH ra λp vs z1 o1 x1 z2 q1=>?_;try clear ra;subst z1;obtain⟨n,e⟩:=z2);have l1:=q1.length;have sz:vs.length*i.toNat<=2 ^ 24:=by rw[CP,<- l1];have:=k.1;unfold lim at this;exact RQ this
 exact nu R (q1.rep i.toNat) λU Q E q=>xS e k.2.1 (by lia) sz q
theorem Jd (m:Bool)(R:Rel Z ρ X σ s.heap)(ra:bz ρ X s.heap x a)(rb:bz ρ X s.heap y b) :
  Run Z [] X ρ s (TV X) (aaw σ m x y) (λQ E=>aE (aC Z.prog Z.w) A (gJ .Add a b) Q E s):=by
 induction x using V.casesOn with
 |int i=>exact ue .Add ra rb λU U U U=>qc R mU λQ E q=>add_int q
 |str x =>
  induction y using V.casesOn with
  |str y =>obtain⟨t,rfl⟩:=ra;obtain⟨u,rfl⟩:=rb;exact Run.if λk Q E q=>HR k λt' tk=>q _ ρ _ Go.tok R AH
  |_=>trivial
 |tup x =>
  induction y using V.casesOn with
  |tup y=>exact Run.if λk=>Fm R ra rb k
  |_=>trivial
 |_=>exact Ja m R ra rb
theorem I8 (m:Bool)(R:Rel Z ρ X σ s.heap)(ra:bz ρ X s.heap x a)(rb:bz ρ X s.heap y b) :
  Run Z [] X ρ s (TV X) (YX σ m x y) (λQ E=>aE (aC Z.prog Z.w) A (gJ .Mult a b) Q E s):=by
 induction y using V.casesOn with
 |int j =>
  obtain⟨u,rfl⟩:=rb;induction x using V.casesOn with
  |int i =>obtain⟨t,rfl⟩:=ra;exact Run.if λk=>qc R mU λQ E q=>PyProof.Rows.mul_int q (IntMulOk.of_left (zK (qM k)))
  |tup x=>exact Run.if λk=>Fg R ra k
  |lst x=>exact Run.if λk=>Fh m R ra k
  |_=>trivial
 |_=>trivial
theorem Jb (o:Ng)(m:Bool)(R:Rel Z ρ X σ s.heap)(ra:bz ρ X s.heap x a)(rb:bz ρ X s.heap y b) :
  Run Z [] X ρ s (TV X) (Pj σ o m x y) (λQ E=>aE (aC Z.prog Z.w) A (gJ (Qc o) a b) Q E s):=by
 induction o with
 |add=>exact Jd m R ra rb
 |mul=>exact I8 m R ra rb
 |sub=>exact ue .Sub ra rb λU U U U=>qc R mU λQ E q=>sub_int q
 |fdiv=>exact ue .FloorDiv ra rb λi j t u=>Run.if λk Q E q=>floordiv_int (Int.ne_of_gt k.1) (by rw[Int.fdiv_eq_ediv_of_nonneg _ (tH k.1)];exact q _ ρ _ Go.tok R mU) (.inl (PyProof.noPylong_small (by have:=k.2;exact abz k)))
 |mod=>exact ue .Mod ra rb λi j t u=>Run.if λk Q E q=>PyProof.Rows.mod_int' (Int.ne_of_gt k) (by rw[Int.fmod_eq_emod_of_nonneg _ (tH k)];exact q _ ρ _ Go.tok R mU)
 |pow=>exact ue .Pow ra rb λi j t u=>Run.if λk=>by obtain⟨rfl,rfl⟩:=k;exact qc R mU λQ E q=>PyProof.Rows.pow_int_small (by decide) (by decide) (by decide) q
end
theorem nD  (h:place i n=aa j):j<n/\i.natAbs<2 ^ 62/\((0<=i/\j=i.toNat)\/(i<0/\0<=i+n/\j=(i+n).toNat)):=by
 unfold place at h
 split at h
 .exact fv h
 .rename_i hb
  have CC:=qG (i:=i) (by simpa using hb)
  split at h
  .split at h
   .obtain rfl:=aj h;exact⟨by exact(by assumption),CC,.inl ⟨by exact(by assumption),rfl⟩⟩
   .exact fv h
  .split at h
   .obtain rfl:=aj h;exact⟨by exact abH (by assumption) (by assumption),CC,.inr ⟨by exact abG (by assumption),by exact(by assumption),rfl⟩⟩
   .exact fv h
theorem seqIndex_of  (h:place i n=aa j):seqIndex? i n=aa j:=by
 refine qR (nD h) λa U b=>?_;have e:(if i<0 then i+n else i)=(j:Int):=by
  rcases b with⟨b,rfl⟩|⟨b,c,rfl⟩
  .rw[if_neg (Sy b)];exact abF b
  .rw[if_pos b];exact abE c
 unfold seqIndex?;rw[e,if_pos (by simp;exact a)];simp
section
variable {X:List aJ}
theorem zE {l:aJ}{t:Tok}{w:ax}(hl:s.heap.IsList l vs.toArray)(hp:place i vs.length=aa j)(hw:vs[j]?=aa w)(q:Q w s) :
  aE (aC Z.prog Z.w) A (gr (.ref l) (.int i t)) Q E s:=by
 refine qR (nD hp) λk1 k2 k3=>?_;rcases k3 with⟨b,rfl⟩|⟨b,c,rfl⟩
 .exact wpAny_getItem_list hl b (by lia) (by simpa using hw) q
 .exact wpAny_getItem_list_neg hl b (by simp;exact abD c) (by lia) (by simpa using hw) q
theorem Bf (h:idx l y=aa v)(rb:bz ρ X s.heap y b)(r:bt ρ X s.heap l vs):∃i t j w,y=.int i/\b=.int i t/\place i vs.length=aa j/\vs[j]?=aa w/\bz ρ X s.heap v w:=by
 induction y using V.casesOn with
 |int i =>obtain⟨t,rfl⟩:=rb;refine dB (mA.mp h) λj hj hv=>?_;refine dB (r.get hv) λw hw r'=>?_;exact⟨i,t,j,w,rfl,rfl,r.length▸hj,hw,r'⟩
 |_=>exact fv h
theorem Kd (R:Rel Z ρ X σ s.heap){o:Option O}(ho:σ[n]?=o)(h:DL o y=aa v)(ra:bz ρ X s.heap (.loc n) a)(rb:bz ρ X s.heap y b)(q:∀w t,bz ρ X s.heap v w->Q w {s with toks:=t}) :
  aE (aC Z.prog Z.w) A (gr a b) Q E s:=by
 obtain⟨p,hp,rfl⟩:=ra;induction o with
 |none=>exact fv h
 |some o =>
  have ob:=R.obj n p o hp ho;induction o with
  |list l =>obtain⟨_,vs,t1,q1⟩:=ob;obtain⟨i,t,j,w,rfl,rfl,hj,hw,r⟩:=Bf h rb q1;exact zE t1.isList hj hw (q w s.toks r)
  |cH l =>
   cases y with
   |int i =>obtain⟨u,rfl⟩:=rb;obtain⟨_,lI,hd,pr⟩:=ob;have:=fq.at (k:=i) pr;rw[<- mu,show j2 l i=aa v from h]at this;obtain⟨w,hw,r⟩:=this;exact wpAny_getItem_of (pR ..) hd.mapOf hw (q w _ r)
   |_=>exact fv h
  |dN l =>
   cases y with
   |str i =>obtain⟨u,rfl⟩:=rb;obtain⟨_,lI,hd,pr⟩:=ob;have:=fq.at (k:=i) pr;rw[<- pD,show qz l i=aa v from h]at this;obtain⟨w,hw,r⟩:=this;exact wpAny_getItem_of (vx ..) hd.mapOf hw (q w _ r)
   |_=>exact fv h
  |inst l=>exact fv h
theorem G9 (R:Rel Z ρ X σ s.heap)(hz:10<Z.base.objs.size)(h:hK σ x y=aa v)(ra:bz ρ X s.heap x a)(rb:bz ρ X s.heap y b)(q:∀w t,bz ρ X s.heap v w->Q w {s with toks:=t}) :
  aE (aC Z.prog Z.w) A (gr a b) Q E s:=by
 induction x using V.casesOn with
 |lst l =>obtain⟨p,vs,rfl,o1,x1,t1,q1⟩:=ra;obtain⟨i,t,j,w,rfl,rfl,hj,hw,r⟩:=Bf h rb q1;exact zE t1.isList hj hw (q w s.toks r)
 |tup l =>obtain⟨p,vs,rfl,o1,x1,t1,q1⟩:=ra;obtain⟨i,t,j,w,rfl,rfl,hj,hw,r⟩:=Bf h rb q1;obtain⟨k1,k2,_⟩:=nD hj;exact getItem_tuple t1.isTup (by lia) (by lia) (seqIndex_of hj) (by simpa using hw) (q w s.toks r)
 |str z =>
  induction y using V.casesOn with
  |int i =>obtain⟨t,rfl⟩:=ra;obtain⟨u,rfl⟩:=rb;refine dB (mA.mp h) λj hj hv=>?_;obtain⟨c,hc,rfl⟩:=ji.mp hv;obtain⟨k1,k2,_⟩:=nD hj;refine getItem_str (c:=c) (by simp;exact abB k1 k2 (by assumption)) ?_ (q _ _ AH);refine(?_:(seqIndex? _ z.cps.size).bind _=_);rw[seqIndex_of hj];exact hc
  |_=>exact fv h
 |loc n=>exact Kd R rfl h ra rb q
 |_=>exact fv h
theorem list_set {l:aJ}{t:Tok}{w:ax}{Q:Unit->av->Prop}(hl:s.heap.PlainList l vs.toArray)(hp:place i vs.length=aa j)(h0:0<=i)
  (q:∀h',h'.PlainList l (vs.set j w).toArray->fu l s.heap h'->Q () {s with heap:=h'}) :
  aE (aC Z.prog Z.w) A (AN (.ref l) (.int i t) w) Q E s:=by
 refine qR (nD hp) λk1 k2 k3=>?_;have hj:j=i.toNat:=by rcases k3 with⟨_,e⟩|⟨b,_⟩<;>lia
 subst hj;obtain⟨n,e⟩:=hl;have hl:s.heap.IsList l vs.toArray:=⟨_,e,rfl,n,rfl⟩;unfold AN
 try with_reducible refine bC ?_
 first|refine aq (aW ?_)|skip
 refine aq (wpAny_sequenceKey hl.typeIs (by decide) ?_);refine aq (wpAny_callSpecial?_slot (name:=cU "__setitem__") hl.typeIs slot_list_setitem
  (yp slot_list_setitem hl.typeIs entry_list_setitem ?_ (args_list_setitem _ _ _)))
 refine(?_:aE _ _ (Builtin.List.listSubscript? (.int i t) >>= _) _ _ s);refine aq (wpAny_listSubscript_int (fitsIndex_of h0 (by lia)) ?_);have hb:i<2 ^ 63:=by lia
 clear k2 k3 hp;obtain⟨j,rfl⟩:=eZ h0;have hj:j<vs.toArray.size:=by simpa using k1
 have H6:vs.toArray[j]?=aa vs.toArray[j]:=Array.getElem?_eq_getElem hj;refine(?_:aE _ _ ((seqItemAt l j >>= λr=>pure (r.map (j,·))) >>= _) _ _ s);refine aq (aq (wpAny_seqItemAt e rfl (aW ?_)));rw[H6];refine(?_:aE _ _ (setSeqItemAt l j w >>= _) _ _ s);have acD:(s.heap.update l (iC (·.setIfInBounds j w))).PlainList l (vs.set j w).toArray:=by refine⟨n,?_⟩;rw[dQ _ e (by simp[iC,Obj.isFreed])];simp[iC]
 refine aq (wpAny_setSeqItemAt e rfl ?_);exact aq (aW (aW ⟨.none,rfl,aW (q _ acD (m4 ..))⟩))
theorem fq.store [DecidableEq K]{k:K}{w:ax}(r:bz ρ X h v w):∀ {l:List (K×V)} {ws:List (K×ax)},fq ρ X h l ws->(ws.map (·.1)).Nodup ->
  ∀(put:List (K×V)->List (K×V)),(put []=[(k,v)])->(∀j u r,put ((j,u)::r)=if j=k then(j,v)::r else(j,u)::put r)->fq ρ X h (put l) (pO ws k w):=by
 intro l;induction l with
 |nil =>intro ws p _ put h0 _;subst p;rw[h0];refine(?_:fq ρ X h [(k,v)] (pO [] k w));simp only[pO,List.any_nil,cN,if_false,dU];exact bB w ⟨[],rfl,r,rfl⟩
 |cons c l ih =>
  intro ws p nd put h0 h1;obtain⟨j,u⟩:=c;(refine mI p λz t z1 a b=>?_;try clear p;subst z1);rw[h1];rw[eM,dH]at nd;by_cases e:j=k
  .obtain rfl:=fb (e);rw[if_pos rfl];have:pO ((k,z)::t) k w=(k,w)::t:=by simp only[pO,fy,decide_true,BD,if_true,eM];rw[map_store_of_not_mem t k w nd.1]
   rw[this];exact bB w ⟨t,rfl,r,b⟩
  .rw[if_neg e];have:pO ((j,z)::t) k w=(j,z)::pO t k w:=by
    simp only[pO,fy,e,decide_false,Ab,eM,if_false]
    split<;>rfl
   rw[this];exact bB z ⟨_,rfl,a,ih b nd.2 put h0 h1⟩
theorem fq.length {K:Type}{h:bV}:∀ {l:List (K×V)} {ws:List (K×ax)},fq ρ X h l ws->l.length=ws.length
 |[],_,r=>by subst r;rfl
 |(_,_)::l,_,r=>by obtain⟨w,t,rfl,_,b⟩:=r;exact congrArg (·+1) (fq.length b)
theorem IX {w:ax}(R:Rel Z ρ X σ s.heap){o:Option O}(ho:σ[n]?=o)(h:IY σ n o y v=aa cD)(ra:bz ρ X s.heap (.loc n) a)(rb:bz ρ X s.heap y b)(nk:bz ρ X s.heap v w){Q:Unit->av->Prop}
  (q:∀h' t,Rel Z ρ X cD h'->dG [] ρ s.heap ρ h'->Q () {s with heap:=h',toks:=t}):aE (aC Z.prog Z.w) A (AN a b w) Q E s:=by
 obtain⟨p,hp,rfl⟩:=ra;have mv:∀ {h'},dG [] ρ s.heap ρ h'->bz ρ X h' v w:=λg=>bz.mono g (λU q=>nomatch q) (λU q=>.inl q) _ _ nk;have ite:∀ {α:Type} {c:Prop} [Decidable c] {o:Option α} {z:α},(if c then o else ae)=aa z->c/\o=aa z:=λ{α c d o z} e=>by cases d with|isTrue k=>exact⟨k,e⟩|isFalse _=>exact fv e
 induction o with
 |none=>exact fv h
 |some o =>
  have ob:=R.obj n p o hp ho;induction o with
  |list l =>
   cases y with
   |int i =>obtain⟨u,rfl⟩:=rb;obtain⟨hd,vs,t1,q1⟩:=ob;obtain⟨h0,h⟩:=ite h;obtain⟨j,hj,rfl⟩:=ji.mp h;refine list_set t1 (q1.length▸hj) h0 λh' t2 sb=>?_;have:=R.set (o:=.list _) hp (.head _) sb λg=>⟨hd,_,t2,(bt.mono g (λU q=>nomatch q) (λU q=>.inl q) _ _ q1).set (mv g)⟩;exact q h' s.toks this.1 this.2
   |_=>exact fv h
  |cH l =>
   cases y with
   |int i =>
    obtain⟨u,rfl⟩:=rb;obtain⟨hd,lI,t1,q1⟩:=ob;obtain⟨hlen,h⟩:=ite h;obtain rfl:=aj h;have nd:(lI.map (·.1)).Nodup:=by obtain⟨_,_,_,_,_,_,_,_,n⟩:=t1;exact n
    refine wpAny_setItem_pairs (hsz:=by rw[<- q1.length];exact dj (bK hlen iu)) (pR ..) t1 λh' t2 sb=>?_;have:=R.set (o:=.cH _) hp (.head _) sb λg=>⟨hd,_,t2,fq.store (mv g) (fq.mono g (λU q=>nomatch q) (λU q=>.inl q) _ _ q1) nd (λl=>nU l _ v) rfl λU U U=>rfl⟩;exact q h' _ this.1 this.2
   |_=>exact fv h
  |dN l =>
   cases y with
   |str i =>
    obtain⟨u,rfl⟩:=rb;obtain⟨hd,lI,t1,q1⟩:=ob;obtain⟨hlen,h⟩:=ite h;obtain rfl:=aj h;have nd:(lI.map (·.1)).Nodup:=by obtain⟨_,_,_,_,_,_,_,_,n⟩:=t1;exact n
    refine wpAny_setItem_pairs (hsz:=by rw[<- q1.length];exact dj (bK hlen iu)) (vx ..) t1 λh' t2 sb=>?_;have:=R.set (o:=.dN _) hp (.head _) sb λg=>⟨hd,_,t2,fq.store (mv g) (fq.mono g (λU q=>nomatch q) (λU q=>.inl q) _ _ q1) nd (λl=>lQ l _ v) rfl λU U U=>rfl⟩;exact q h' _ this.1 this.2
   |_=>exact fv h
  |inst l=>exact fv h
theorem xK {w:ax}(R:Rel Z ρ X σ s.heap)(h:o6 σ x y v=aa cD)(ra:bz ρ X s.heap x a)(rb:bz ρ X s.heap y b)(nk:bz ρ X s.heap v w){Q:Unit->av->Prop}
  (q:∀h' t,Rel Z ρ X cD h'->dG [] ρ s.heap ρ h'->Q () {s with heap:=h',toks:=t}):aE (aC Z.prog Z.w) A (AN a b w) Q E s:=by
 induction x using V.casesOn with
 |loc n=>exact IX R rfl h ra rb nk q
 |_=>exact fv h
end
theorem MQ {x y:Str}{t:Tok}:Value.isStr (.str x t) y=(x==y):=rfl
theorem iB.len {ρ:List Pl}{X:List aJ}{h:bV}:∀ {fs:List Str} {l:List V} {es:List gK},iB ρ X h fs l es->l.length=es.length/\l.length<=fs.length
 |_,[],_,r=>by subst r;simp
 |[],_::_,_,r=>by exact r.elim
 |f::fs,v::l,es,r=>by(refine Oq r λhash t w q z1 a b=>?_;try clear r;subst z1);have:=b.len;simp;exact this
theorem iB.noRef {ρ:List Pl}{X:List aJ}{h:bV}:∀ {fs:List Str} {l:List V} {es:List gK},iB ρ X h fs l es->es.any (·.refKey)=ag
 |_,[],_,r=>by subst r;rfl
 |[],_::_,_,r=>by exact r.elim
 |f::fs,v::l,es,r=>by(refine Oq r λhash t w q z1 a b=>?_;try clear r;subst z1);rw[fy,b.noRef];rfl
theorem iB.get {ρ:List Pl}{X:List aJ}{h:bV}:∀ {fs:List Str} {l:List V} {es:List gK} {i:Nat} {x:Str} {v:V},fs.Nodup->iB ρ X h fs l es->fs[i]?=aa x->l[i]?=aa v ->
  ∃w,(es.find? (·.key.isStr x)).map (·.val)=aa w/\bz ρ X h v w
 |_,[],_,_,_,_,_,r,_,e=>by simp at e
 |[],_::_,_,_,_,_,_,r,_,_=>by exact r.elim
 |f::fs,v::l,es,0,x,u,nd,r,e1,e2=>by(refine Oq r λhash t w q z1 a b=>?_;try clear r;subst z1);simp only[ah,dY]at e1 e2;subst e1 e2;refine⟨w,?_,a⟩;rw[i4];simp[MQ]
 |f::fs,v::l,es,i+1,x,u,nd,r,e1,e2=>by
  (refine Oq r λhash t w q z1 a b=>?_;try clear r;subst z1);simp only[ai]at e1 e2;rw[dH]at nd;refine dB (b.get nd.2 e1 e2) λw' h1 h2=>?_;refine⟨w',?_,h2⟩;have pS:(f==x)=ag:=by rw[beq_eq_false_iff_ne];exact λz=>nd.1 (z▸aN e1)
  rw[i4];simp only[MQ,pS];exact h1
theorem iB.set {ρ:List Pl}{X:List aJ}{h:bV}{k:Int}{kv:ax}:∀ {fs:List Str} {l:List V} {es:List gK} {i:Nat} {x:Str} {v:V} {w:ax},fs.Nodup->iB ρ X h fs l es->fs[i]?=aa x->i<l.length->bz ρ X h v w ->
  iB ρ X h fs (l.set i v) (putL x k kv w es)/\es.any (·.key.isStr x)=af
 |_,[],_,_,_,_,_,_,r,_,e,_=>by simp at e
 |[],_::_,_,_,_,_,_,_,r,_,_,_=>by exact r.elim
 |f::fs,v::l,es,0,x,u,z,nd,r,e1,e2,q=>by obtain⟨hash,t,w,r,rfl,a,b⟩:=r;simp only[ah,dY]at e1;subst e1;refine⟨?_,by simp[MQ]⟩;rw[aF,putL];simp only[MQ,beq_self_eq_true,if_true];exact bB hash ⟨t,z,r,rfl,q,b⟩
 |f::fs,v::l,es,i+1,x,u,z,nd,r,e1,e2,q=>by
  obtain⟨hash,t,w,r,rfl,a,b⟩:=r;simp only[ai]at e1;rw[dH]at nd;have pS:(f==x)=ag:=by rw[beq_eq_false_iff_ne];exact λz=>nd.1 (z▸aN e1)
  obtain⟨h1,h2⟩:=b.set (k:=k) (kv:=kv) nd.2 e1 (by simpa using e2) q;refine⟨?_,by rw[fy,h2,Bool.or_true]⟩;rw[aG,putL];simp only[MQ,pS,cN,if_false];exact bB hash ⟨t,w,_,rfl,a,h1⟩
theorem iB.add {ρ:List Pl}{X:List aJ}{h:bV}{k:Int}{t:Nat}:∀ {fs:List Str} {l:List V} {es:List gK} {x:Str} {v:V} {w:ax},fs.Nodup->iB ρ X h fs l es->fs[l.length]?=aa x->bz ρ X h v w ->
  iB ρ X h fs (l++[v]) (putL x k (.str x t) w es)
 |[],[],_,_,_,_,_,_,e,_=>by simp at e
 |f::fs,[],es,x,v,w,nd,r,e,q=>by subst r;simp only[aD,ah,dY]at e;subst e;rw[dU,putL];exact⟨k,t,w,[],rfl,q,rfl⟩
 |[],_::_,_,_,_,_,_,r,_,_=>by exact r.elim
 |f::fs,v::l,es,x,u,z,nd,r,e1,q=>by
  obtain⟨hash,t,w,r,rfl,a,b⟩:=r;simp only[az,ai]at e1;rw[dH]at nd;have pS:(f==x)=ag:=by rw[beq_eq_false_iff_ne];exact λz=>nd.1 (z▸aN e1)
  rw[eI,putL];simp only[MQ,pS,cN,if_false];exact bB hash ⟨t,w,_,rfl,a,b.add nd.2 e1 q⟩
theorem jc:fields.Nodup:=by decide +kernel
structure CU (Z:ng):Prop where
 Qi:Z.K.In Z.base
 ga:yt Z.K (.ref Z.C) "__getattribute__"=aa (aa (.builtin "object.__getattribute__"))
 sa:yt Z.K (.ref Z.C) "__setattr__"=aa (aa (.builtin "object.__setattr__"))
 po:plainOver Z.K Z.C=af
 hd:hasDictIn Z.K Z.C=af
 fld:∀x∈fields,yt Z.K (.ref Z.C) x=aa ae
section
variable {X:List aJ}
theorem yU {w:ax}(r:bz ρ X s.heap v w):handedIn w=af:=by
 induction v using V.casesOn
 .subst r;rfl
 .subst r;rfl
 .obtain⟨t,rfl⟩:=r;rfl
 .obtain⟨t,rfl⟩:=r;rfl
 ·(refine Ea r λp vs z1 U=>?_;try clear r;subst z1);rfl
 ·(refine Ea r λp vs z1 U=>?_;try clear r;subst z1);rfl
 ·(refine dB r λp U z1=>?_;try clear r;subst z1);rfl
theorem HP (R:Rel Z ρ X σ s.heap)(K:CU Z){f:Nat}{ex:Bool}(hf:fields[f]?=aa name)(h:yd σ x f=aa v)(ra:bz ρ X s.heap x a)
  (q:∀w t,bz ρ X s.heap v w->Q w {s with toks:=t}):aE (aC Z.prog Z.w) A (getAttr a name ex) Q E s:=by
 induction x using V.casesOn with
 |loc n =>
  obtain⟨p,hp,rfl⟩:=ra;change KJ σ[n]? f=aa v at h;induction hl:σ[n]? with
  |none=>rw[hl]at h;exact fv h
  |some o =>
   rw[hl]at h;induction o with
   |inst l =>
    refine MF (R.obj _ p _ hp hl) λdx es n d e1 e2 fr=>?_;refine dB (fr.get jc hf h) λw hw r=>?_;have hg:getL name es=aa (aa w):=by unfold getL;refine dB (ji.mp hw) λe he hv=>?_;rw[he];show aa (aa e.val)=_;rw[hv]
    exact get_value (K.Qi.keeps R.keep) (od:=aa (dictOf es n)) ⟨e1,rfl,rfl,e2⟩ K.ga (findObj_own K.hd (K.fld name (aN hf)) rfl (by rw[lookIn_dict];exact hg)) (yU r) (q w _ r)
   |_=>exact fv h
 |_=>exact fv h
theorem za (R:Rel Z ρ X σ s.heap)(K:CU Z){f:Nat}{w:ax}(hf:fields[f]?=aa name)(h:kz σ x f v=aa cD)(ra:bz ρ X s.heap x a)(nk:bz ρ X s.heap v w){Q:Unit->av->Prop}
  (q:∀h' t,Rel Z ρ X cD h'->dG [] ρ s.heap ρ h'->Q () {s with heap:=h',toks:=t}):aE (aC Z.prog Z.w) A (wm a name w) Q E s:=by
 induction x using V.casesOn with
 |loc nn =>
  (refine dB ra λp hp z1=>?_;try clear ra;subst z1);change I1 σ nn σ[nn]? f v=aa cD at h;induction hl:σ[nn]? with
  |none=>rw[hl]at h;exact fv h
  |some o =>
   rw[hl]at h;induction o with
   |inst l =>
    change (if f<l.length then aa (σ.set nn (.inst (l.set f v)))else if f=l.length then aa (σ.set nn (.inst (l++[v])))else ae)=aa cD at h;refine MF (R.obj _ p _ hp hl) λdx es n d e1 e2 fr=>?_;have DH:dx∈p.lW:=by simp[Pl.lW,d]
    have pS:dx≠p.a:=λz=>R.self p (aN hp) (by rw[d,z]);have hn:=aN hf;have L:=fr.len;have Zt:es.any (·.refKey)=ag:=fr.noRef;have fin:∀(l':List V) (t:Nat),(∀h':bV,dG [] ρ s.heap ρ h'->iB ρ X h' fields l' (putL name (dq Z.w.params name) (.str name t) w es)) ->
      Rel Z ρ X (σ.set nn (.inst l')) (s.heap.update dx (vX name (dq Z.w.params name) (.str name t) w))/\dG [] ρ s.heap ρ (s.heap.update dx (vX name (dq Z.w.params name) (.str name t) w)):=by
     intro l' t uP;have eo:=putName_dict name (dq Z.w.params name) (.str name t) w es n;have An:(s.heap.update dx (vX name (dq Z.w.params name) (.str name t) w)).get? dx=aa (dictOf (putL name (dq Z.w.params name) (.str name t) w es) (putN name es n)):=by rw[dQ _ e2 (by rw[eo];rfl),eo]
     refine R.set hp DH (m4 ..) λg=>⟨dx,_,_,d,?_,An,uP _ g⟩;rw[eh _ _ pS];exact e1
    have go:∀(l':List V),cD=σ.set nn (.inst l')->(∀(t:Nat) (h':bV),dG [] ρ s.heap ρ h'->iB ρ X h' fields l' (putL name (dq Z.w.params name) (.str name t) w es)) ->
      (∀t,(putL name (dq Z.w.params name) (.str name t) w es).length<=1000) ->
      aE (aC Z.prog Z.w) A (wm (.ref p.a) name w) Q E s:=by
     intro l' Cv uP hlen;have Kh:=K.Qi.keeps R.keep;have I:InstAt s.heap p.a {cls:=.ref Z.C,dict:=aa dx,data:=.plain} Z.C (aa (dictOf es n)):=⟨e1,rfl,rfl,e2⟩;have ht:takerIn Z.K Z.C name=aa ae:=by unfold takerIn;rw[K.fld name hn];rfl
     refine set_plain Kh I K.sa (osa_open (s:={s with toks:=s.toks+1}) Kh I K.po ht λb=>?_);refine dB (any_some K.hd) λcd hc An=>?_;refine aq (aW (aq (aq (wpAny_loadPart e1 (aq ((looks_clsIn (M:=aC Z.prog Z.w) Kh hc) _ _ _ _ (λU U e=>e) ?_))))));rw[An];refine aW (a:=aa dx) (aq (aW (aq ?_)));unfold nsSet;refine aq (aq (wpAny_askSetting (aW (aq (wpAny_mkText (aq (wpAny_loadPart e2 ?_)))))));have c:(!es.toArray.any (·.key.isStr name)&&es.toArray.any (·.refKey))=ag:=by rw[<- Array.any_toList,<- Array.any_toList];refine(?_:(!es.any (·.key.isStr name)&&es.any (·.refKey))=ag);rw[Zt,Bool.and_false]
     dsimp only;rw[aRefKeyMayBeTheName_at,c];refine wpAny_updatePart e2 ?_;obtain⟨r1,r2⟩:=fin l' (s.toks+1) (uP _);have eo:=putName_dict name (dq Z.w.params name) (.str name (s.toks+1)) w es n;have D':(s.heap.update dx (vX name (dq Z.w.params name) (.str name (s.toks+1)) w)).get? dx=aa (dictOf (putL name (dq Z.w.params name) (.str name (s.toks+1)) w es) (putN name es n)):=by rw[dQ _ e2 (by rw[eo];rfl),eo]
     refine aq (wpAny_lookBehind D' (pastItsLine_dict (by rw[b9,jG];have:=hlen (s.toks+1);exact abC this)) ?_);exact aW (q _ _ (by rw[Cv];exact r1) r2)
    have f15:fields.length=15:=rfl;by_cases mX:f<l.length
    .replace h:=(if_pos mX).symm.trans h;obtain rfl:=aj h;refine go _ rfl (λt h' g=>((iB.mono g (λU q=>nomatch q) (λU q=>.inl q) _ _ _ fr).set jc hf mX (bz.mono g (λU q=>nomatch q) (λU q=>.inl q) _ _ nk)).1) λt=>?_;have:=(fr.set (k:=dq Z.w.params name) (kv:=.str name t) jc hf mX nk).1.len;exact Ry f15 this
    .replace h:=(if_neg mX).symm.trans h;by_cases mX:f=l.length
     .replace h:=(if_pos mX).symm.trans h;obtain rfl:=aj h;subst mX;refine go _ rfl (λt h' g=>(iB.mono g (λU q=>nomatch q) (λU q=>.inl q) _ _ _ fr).add jc hf (bz.mono g (λU q=>nomatch q) (λU q=>.inl q) _ _ nk)) λt=>?_;have:=(fr.add (k:=dq Z.w.params name) (t:=t) jc hf nk).len;exact Ry f15 this
     .exact fv ((if_neg mX).symm.trans h)
   |_=>exact fv h
 |_=>exact fv h
end
end Internal
end
noncomputable section
open PySem PySem.W PyProof.Rows PySem.SeqAt PySem.Builtin PySem.Builtin.Str
namespace Internal
variable {W:(ax->av->Prop)->(ax->av->Prop)->Prop}{f:Array ax->Array ax}{ws:List ax}{sep:Str}{sl:aJ}{n:Nat}{i:Int}{A:mR}{y v x:V}{t:Tok}{l:List V}{σ:bp}{Z:ng}{b a:ax}{ρ:List Pl}{E Q:ax->av->Prop}{s:av}
section
variable {X:List aJ}
theorem I6 (up:Bool){p:aJ}{vs:List ax}(R:Rel Z ρ X σ s.heap)(hl:s.heap.IsList p vs.toArray)(q:bt ρ X s.heap l vs)
  (hs:if up then∃t,s.heap.IsSliceOf sl .none (.int i t) .none else∃t,s.heap.IsSliceOf sl (.int i t) .none .none)(k:0<=i/\big i=af/\l.length<lim) :
  Run Z [] X ρ s (TV X) (gP ag (cut up i l) σ) (λQ E=>aE (aC Z.prog Z.w) A (gr (.ref p) (.ref sl)) Q E s):=by
 have sz:vs.toArray.size<=fz:=by rw[b9,<- q.length];exact dj (bK k.2.2 iu)
 induction up with
 |false =>obtain⟨t,hs⟩:=hs;have e:=slicePick_from' vs.toArray i.toNat;rw[gh k.1]at e;exact nu R q.drop λU Q E k=>D5 (lo:=aa i) (hi:=ae) (st:=ae) hl hs (.int _ _) .none .none (by simp) (by rw[e];simpa using k) (by exact sz)
 |true =>obtain⟨t,hs⟩:=hs;have e:=slicePick_upto' vs.toArray i.toNat;rw[gh k.1]at e;exact nu R q.take λU Q E k=>D5 (lo:=ae) (hi:=aa i) (st:=ae) hl hs .none (.int _ _) .none (by simp) (by rw[e];simpa using k) (by exact sz)
theorem I5 (up:Bool)(R:Rel Z ρ X σ s.heap)(ra:bz ρ X s.heap (.tup l) a)
  (hs:if up then∃t,s.heap.IsSliceOf sl .none (.int i t) .none else∃t,s.heap.IsSliceOf sl (.int i t) .none .none)(k:0<=i/\i.toNat<=l.length/\l.length<lim) :
  Run Z [] X ρ s (TV X) (.ok (.tup (cut up i l)) σ) (λQ E=>aE (aC Z.prog Z.w) A (gr a (.ref sl)) Q E s):=by
 have Qa:=ra;obtain⟨p,vs,rfl,o1,x1,t1,q1⟩:=ra;have l1:=q1.length;obtain⟨i',rfl⟩:=eZ k.1;have k2:i'<=vs.length:=l1▸k.2.1;have k3:vs.length<=fz:=l1▸dj (bK k.2.2 iu);intro Q E q;induction up with
 |false =>obtain⟨t,hs⟩:=hs;exact Dc (a:=i') t1.isTup hs k2 (λe=>q _ ρ s .refl R (by subst e;exact Qa)) (nr R q1.drop (λQ E q=>q) Q E q) (by exact k3)
 |true =>obtain⟨t,hs⟩:=hs;refine De (a:=i') t1.isTup hs k2 (λe=>q _ ρ s .refl R ?_) (nr R q1.take (λQ E q=>q) Q E q) (by exact k3);rw[show cut af (i':Int) l=l from BB (aby l1 e)];exact Qa
theorem B5 (up:Bool)(R:Rel Z ρ X σ s.heap)(ra:bz ρ X s.heap x a)
  (hs:if up then∃t,s.heap.IsSliceOf sl .none (.int i t) .none else∃t,s.heap.IsSliceOf sl (.int i t) .none .none) :
  Run Z [] X ρ s (TV X) (N0 up σ x i) (λQ E=>aE (aC Z.prog Z.w) A (gr a (.ref sl)) Q E s):=by
 have key:Run Z [] X ρ s (TV X) (IV up σ i (Ah σ x)) (λQ E=>aE (aC Z.prog Z.w) A (gr a (.ref sl)) Q E s):=by
  induction h:Ah σ x with
  |none=>trivial
  |some l =>obtain⟨p,vs,rfl,t1,q1⟩:=uB R h ra;exact Run.if λk=>I6 up R t1.isList q1 hs k
 induction x using V.casesOn with
 |tup l=>exact Run.if λk=>I5 up R ra hs k
 |_=>exact key
theorem I4  (R:Rel Z ρ X σ s.heap)(ra:bz ρ X s.heap x a)(hs:s.heap.IsSliceOf sl (.int i t) .none .none) :
  Run Z [] X ρ s (TV X) (xJ σ x (.int i)) (λQ E=>aE (aC Z.prog Z.w) A (gr a (.ref sl)) Q E s):=B5 ag R ra ⟨t,hs⟩
theorem I7  (R:Rel Z ρ X σ s.heap)(ra:bz ρ X s.heap x a)(hs:s.heap.IsSliceOf sl .none (.int i t) .none) :
  Run Z [] X ρ s (TV X) (vz σ x (.int i)) (λQ E=>aE (aC Z.prog Z.w) A (gr a (.ref sl)) Q E s):=B5 af R ra ⟨t,hs⟩
theorem Gp (R:Rel Z ρ X σ s.heap)(h:items σ x=aa l)(hl:l.length<lim)(ra:bz ρ X s.heap x a)(q:∀t t',Q (.int l.length t) {s with toks:=t'}) :
  aE (aC Z.prog Z.w) A (call (.builtin "len") [a]) Q E s:=by
 have fin:∀ {p:aJ} {vs:List ax},s.heap.IsList p vs.toArray->bt ρ X s.heap l vs->aE (aC Z.prog Z.w) A (call (.builtin "len") [.ref p]) Q E s:=λ{p vs} t r =>
  PySem.Calls.call_len_list t (by have hL:lim=100000:=rfl;rw[b9,<- r.length];lia) (by rw[b9,<- r.length];exact q _ _)
 induction x using V.casesOn with
 |lst k =>obtain rfl:=aj h;obtain⟨p,vs,rfl,o1,x1,t1,q1⟩:=ra;exact fin t1.isList q1
 |tup k =>obtain rfl:=aj h;obtain⟨p,vs,rfl,o1,x1,⟨n,e⟩,q1⟩:=ra;exact len_tuple ⟨_,e,rfl,n,rfl⟩ (by have hL:lim=100000:=rfl;rw[b9,<- q1.length];lia) (by rw[b9,<- q1.length];exact q _ _)
 |loc n =>obtain⟨p,vs,rfl,t1,q1⟩:=uB (x:=.loc n) R h ra;exact fin t1.isList q1
 |_=>exact fv h
theorem HS   (q:∀u tk,Q (.int i.natAbs u) {s with toks:=tk}):aE (aC Z.prog Z.w) A (call (.builtin "abs") [.int i t]) Q E s:=by
 refine call_abs_int λu tk=>?_;have:(if i<0 then -i else i)=(i.natAbs:Int):=by split<;>lia
 rw[this];exact q u tk
theorem AK (h:nj x=aa v)(ra:bz ρ X s.heap x a)(q:∀w t,bz ρ X s.heap v w->Q w {s with toks:=t}):aE (aC Z.prog Z.w) A (call (.type "int") [a]) Q E s:=by
 induction x using V.casesOn with
 |int i =>obtain rfl:=aj h;obtain⟨t,rfl⟩:=ra;exact call_int_int (q _ s.toks mU)
 |bool b =>obtain rfl:=aj h;subst ra;exact call_int_bool (q _ _ mU)
 |str x =>
  obtain⟨t,rfl⟩:=ra;change (if x.length<=640 then(PySem.intText? x).map V.int else ae)=aa v at h;by_cases hl:x.length<=640
  .rw[if_pos hl]at h;(refine dB (ji.mp h) λn hn z1=>?_;subst z1);exact KIN.call_text hn hl (q _ _ mU)
  .rw[if_neg hl]at h;exact fv h
 |_=>exact fv h
theorem JQ {P:Nat->Bool->Prop}:∀ {t:Nat} {a b c r:Bool},GD t a b c=aa r->P 0 a->P 1 b->P 2 c->P t r
 |0,_,_,_,_,h,p,_,_=>aj h▸p
 |1,_,_,_,_,h,_,p,_=>aj h▸p
 |2,_,_,_,_,h,_,_,p=>aj h▸p
 |_+3,_,_,_,_,h,_,_,_=>nomatch h
def ac7 (Z:ng)(A:mR)(E:ax->av->Prop)(s:av)(Q:ax->av->Prop)(a:ax)(t:Nat)(r:Bool):Prop:=(∀t,Q (.bool r) {s with toks:=t})->aE (aC Z.prog Z.w) A (call (.builtin "isinstance") [a,.type (if t=0 then "int" else if t=1 then "bool" else "str")]) Q E s
theorem GC {t:Nat}{r:Bool}(h:Ba t x=aa r)(ra:bz ρ X s.heap x a)(q:∀t,Q (.bool r) {s with toks:=t}) :
  aE (aC Z.prog Z.w) A (call (.builtin "isinstance") [a,.type (if t=0 then "int" else if t=1 then "bool" else "str")]) Q E s:=by
 refine(?_:ac7 Z A E s Q a t r) q;induction x using V.casesOn with
 |int i=>obtain⟨u,rfl⟩:=ra;exact JQ h (λq=>IsiPair.int_int (q s.toks)) (λq=>IsiPair.int_bool (q _)) (λq=>IsiPair.int_str (q _))
 |bool i=>subst ra;exact JQ h (λq=>IsiPair.bool_int (q s.toks)) (λq=>IsiPair.bool_bool (q s.toks)) (λq=>IsiPair.bool_str (q _))
 |none=>subst ra;exact JQ h (λq=>IsiPair.NoneType_int (q _)) (λq=>IsiPair.NoneType_bool (q _)) (λq=>IsiPair.NoneType_str (q _))
 |str i=>obtain⟨u,rfl⟩:=ra;exact JQ h (λq=>IsiPair.str_int (q _)) (λq=>IsiPair.str_bool (q _)) (λq=>IsiPair.str_str (q s.toks))
 |_=>exact fv h
theorem qd {m:Bool}{a:aJ}(R:Rel Z ρ X σ s.heap)(r:bt ρ X s.heap l ws)(ha:s.heap.objs.size<=a)
  (k:l.length<lim->∀Q E,(∀h' t,Ext s.heap h'->h'.PlainList a ws.toArray->Q (.ref a) {s with heap:=h',toks:=t})->W Q E):Run Z [] X ρ s (TV X) (gP m l σ) W:=by
 by_cases hl:l.length<lim
 .have key:∀(h':bV) (t:Nat),Ext s.heap h'->h'.PlainList a ws.toArray->Run Z [] X ρ s (TV X) (gP m l σ) (λQ E=>Q (.ref a) {s with heap:=h',toks:=t}) :=
   λh' t x pl=>wo R r x ha pl λQ E q=>q
  unfold gP at key ⊢;rw[if_pos hl]at key ⊢;induction m with
  |true =>simp only[if_true]at key ⊢;exact λQ E q=>k hl Q E λh' t x pl=>key h' t x pl Q E q
  |false =>simp only[cN,if_false]at key ⊢;exact λQ E q=>k hl Q E λh' t x pl=>key h' t x pl Q E q
 .unfold gP;rw[if_neg hl];trivial
theorem AP (R:Rel Z ρ X σ s.heap)(ra:bz ρ X s.heap (.tup l) a):Run Z [] X ρ s (TV X) (gP af l σ) (λQ E=>aE (aC Z.prog Z.w) A (call (.type "list") [a]) Q E s):=by have o9:=iu;(refine wH ra λp vs z1 o1 x1 z2 q1=>?_;try clear ra;subst z1;obtain⟨n,e⟩:=z2);have l1:=q1.length;refine qd R q1 (aO _) λhl Q E k=>call_list_seq p (.inr rfl) e rfl rfl (λh' c' hk hn=>?_) (by simp;exact abx o9 l1 hl);exact k h' s.toks ⟨dj (bu hn),hk⟩ ⟨c',hn⟩
theorem kj   (h:jr v sep=aa l):∃x,v=.str x/\(x.length<lim/\sep.length=1/\(gj x sep).length<lim)/\aa ((gj x sep).map V.str)=aa l:=by
 induction v using V.casesOn with
 |str x =>
  change (if x.length<lim/\sep.length=1/\(gj x sep).length<lim then aa ((gj x sep).map V.str)else ae)=aa l at h;by_cases hc:x.length<lim/\sep.length=1/\(gj x sep).length<lim
  .rw[if_pos hc]at h;exact⟨x,rfl,hc,h⟩
  .rw[if_neg hc]at h;exact fv h
 |_=>exact fv h
theorem Dq   (R:Rel Z ρ X σ s.heap)(h:jr x sep=aa l)(ra:bz ρ X s.heap x a) :
  Run Z [] X ρ s (TV X) (gP ag l σ) (λQ E=>aE (aC Z.prog Z.w) A (call (.builtin "str.split") [a,.str sep t]) Q E s):=by
 have o9:=iu;obtain⟨x,rfl,k,e0⟩:=kj h
 .obtain⟨u,rfl⟩:=ra
  .have h:=e0;obtain rfl:=aj h;have hy:(sep.length==0)=ag:=by rw[k.2.1];rfl
   have vs:∀(l:List Str) (tk:Nat),bt ρ X s.heap (l.map .str) (strsFrom tk l):=by
    intro l;induction l with
    |nil=>intro tk;exact .nil
    |cons z l ih=>intro tk;exact .cons AH (ih _)
   cases h1:(decide (x.length<sep.length)||decide (yk x<yk sep))
   .cases hf:(occurrences x sep 0 x.length (x.length+1)).isEmpty
    .have e:gj x sep=partsBetween x (occurrences x sep 0 x.length (x.length+1)) sep.length:=(if_neg (ne_true_of_eq_false h1)).trans (if_neg (ne_true_of_eq_false hf));rw[e]at k ⊢;refine qd (ws:=strsFrom s.toks (partsBetween x (occurrences x sep 0 x.length (x.length+1)) sep.length)) R (vs _ _) (aO _) λU Q E q=>?_;exact fw oB (vv _ _ _) vE (tJ _ _) (meets_str_split_sep x sep u t h1 hy hf (abw o9 k) (abv o9 k)) (q _ _ (Ext.push _) ⟨0,cE _ rfl⟩)
    .have e:gj x sep=[x]:=(if_neg (ne_true_of_eq_false h1)).trans (if_pos hf);rw[e];refine qd (ws:=[.str x u]) R (.cons AH .nil) (aO _) λU Q E q=>?_;exact fw oB (vv _ _ _) vE (tJ _ _) (meets_str_split_not_found x sep u t h1 hy hf) (q _ s.toks (Ext.push _) ⟨0,cE _ rfl⟩)
   .have e:gj x sep=[x]:=if_pos h1;rw[e];refine qd (ws:=[.str x u]) R (.cons AH .nil) (aO _) λU Q E q=>?_;exact fw oB (vv _ _ _) vE (tJ _ _) (meets_str_split_cannot_occur x sep u t h1) (q _ s.toks (Ext.push _) ⟨0,cE _ rfl⟩)
theorem lj {p:Pl}{l':List V}{vs:List ax}{k:Nat}(R:Rel Z ρ X σ s.heap)(hp:ρ[n]?=aa p)(hl:σ[n]?=aa (.list l))(e:s.heap.get? p.a=aa {cls:=.type "list",data:=.seq vs.toArray k})
  (hf:f vs.toArray=ws.toArray)(hv:∀h',dG [] ρ s.heap ρ h'->bt ρ X h' l' ws):Rel Z ρ X (σ.set n (.list l')) (s.heap.update p.a (iC f))/\dG [] ρ s.heap ρ (s.heap.update p.a (iC f)):=by
 obtain⟨hd,_,_,_⟩:=R.obj n p _ hp hl;refine R.set (o:=.list l') hp (.head _) (m4 ..) λg=>⟨hd,ws,?_,hv _ g⟩;refine⟨if(f vs.toArray).size==vs.toArray.size then k else k+1,?_⟩;rw[dQ _ e (by simp[iC,Obj.isFreed])];simp only[iC,hf]
theorem HQ  {w:ax}(R:Rel Z ρ X σ s.heap)(hl:σ[n]?=aa (.list l))(hlen:l.length<lim)(ra:bz ρ X s.heap (.loc n) a)(nk:bz ρ X s.heap v w)
  (q:∀h',Rel Z ρ X (σ.set n (.list (l++[v]))) h'->dG [] ρ s.heap ρ h'->Q .none {s with heap:=h'}):aE (aC Z.prog Z.w) A (call (.builtin "list.append") [a,w]) Q E s:=by
 have o9:=iu;(refine dB ra λp hp z1=>?_;try clear ra;subst z1);obtain⟨_,vs,⟨k,e⟩,q1⟩:=R.obj n p _ hp hl;have l1:=q1.length;have:=lj (f:=λz=>z.push w) (ws:=vs++[w]) (l':=l++[v]) R hp hl e (by simp) λh' g=>(bt.mono g (λU q=>nomatch q) (λU q=>.inl q) _ _ q1).append (.cons (bz.mono g (λU q=>nomatch q) (λU q=>.inl q) _ _ nk) .nil);exact fw F.slot_list_append ⟨_,e,rfl⟩ F.entry_list_append (F.args_list_append_2 _ _) (list_append p.a vs.toArray k w (by simp;exact Rh hlen o9 l1)) ⟨e,q _ this.1 this.2⟩
theorem FY  (R:Rel Z ρ X σ s.heap)(hl:σ[n]?=aa (.list l))(hlen:l.length<lim)(hv:l.getLast?=aa v)(ra:bz ρ X s.heap (.loc n) a)
  (q:∀h' w,Rel Z ρ X (σ.set n (.list l.dropLast)) h'->dG [] ρ s.heap ρ h'->bz ρ X h' v w->Q w {s with heap:=h'}):aE (aC Z.prog Z.w) A (call (.builtin "list.pop") [a]) Q E s:=by
 have o9:=iu;(refine dB ra λp hp z1=>?_;try clear ra;subst z1);obtain⟨_,vs,⟨k,e⟩,q1⟩:=R.obj n p _ hp hl;have l1:=q1.length;have e1:l.dropLast=l.eraseIdx (vs.length-1):=by
  have pS:l≠[]:=by rintro rfl;exact fv hv
  rw[List.eraseIdx_eq_take_drop_succ,List.drop_of_length_le (abt l1),aP,List.dropLast_eq_take,l1]
 rw[List.getLast?_eq_getElem?]at hv;refine dB (q1.get hv) λw hw r=>?_;have:=lj (f:=λz=>z.eraseIdxIfInBounds (vs.toArray.size-1)) (ws:=vs.eraseIdx (vs.length-1)) (l':=l.dropLast) R hp hl e (by
   unfold yy
   split
   .simp
   .rename_i z
    simp only[b9]at z;rw[List.eraseIdx_of_length_le (abr l1 z)])
  λh' g=>by rw[e1];exact(bt.mono g (λU q=>nomatch q) (λU q=>.inl q) _ _ q1).eraseIdx
 exact fw pJ ⟨_,e,rfl⟩ F.entry_list_pop (F.args_list_pop_1 _) (PySem.MeetsSeq.list_pop_last p.a vs.toArray k w (by simp;rw[<- l1];exact hw) (by simp;exact Rh hlen o9 l1))
  ⟨e,q _ w this.1 this.2 (bz.mono this.2 (λU q=>nomatch q) (λU q=>.inl q) _ _ r)⟩
theorem Dt    (R:Rel Z ρ X σ s.heap)(hl:σ[n]?=aa (.list l))(hlen:l.length<lim)(h0:0<=i)(hv:l[i.toNat]?=aa v)(ra:bz ρ X s.heap (.loc n) a)
  (q:∀h' w,Rel Z ρ X (σ.set n (.list (l.eraseIdx i.toNat))) h'->dG [] ρ s.heap ρ h'->bz ρ X h' v w->Q w {s with heap:=h'}):aE (aC Z.prog Z.w) A (call (.builtin "list.pop") [a,.int i t]) Q E s:=by
 have o9:=iu;have hL:lim=100000:=rfl;(refine dB ra λp hp z1=>?_;try clear ra;subst z1);obtain⟨_,vs,⟨k,e⟩,q1⟩:=R.obj n p _ hp hl;have l1:=q1.length;have hi:=(aA.mp hv).1;refine dB (q1.get hv) λw hw r=>?_;have:=lj (f:=λz=>z.eraseIdxIfInBounds i.toNat) (ws:=vs.eraseIdx i.toNat) (l':=l.eraseIdx i.toNat) R hp hl e (by unfold yy;rw[dif_pos (by simp;exact abq l1 hi)];simp)
  λh' g=>(bt.mono g (λU q=>nomatch q) (λU q=>.inl q) _ _ q1).eraseIdx
 refine fw pJ ⟨_,e,rfl⟩ F.entry_list_pop (F.args_list_pop_2 _ _) (PySem.MeetsSeq.list_pop_at p.a vs.toArray k i t i.toNat w (by simp[rJ];exact abp hlen h0 hL hi) ?_ (by simpa using hw) (by simp;exact abo hlen o9 hL l1))
  ⟨e,q _ w this.1 this.2 (bz.mono this.2 (λU q=>nomatch q) (λU q=>.inl q) _ _ r)⟩
 unfold seqIndex?;simp only[b9];rw[if_neg (by exact Sy h0:¬i<0),if_pos (by simp;exact abn h0 l1 hi)]
theorem Hf  {r:List V}(R:Rel Z ρ X σ s.heap)(hl:σ[n]?=aa (.list l))(hlen:l.length+r.length<lim)(ra:bz ρ X s.heap (.loc n) a)(rb:bz ρ X s.heap (.lst r) b)
  (q:∀h',Rel Z ρ X (σ.set n (.list (l++r))) h'->dG [] ρ s.heap ρ h'->Q .none {s with heap:=h'}):aE (aC Z.prog Z.w) A (call (.builtin "list.extend") [a,b]) Q E s:=by
 have o9:=iu;have hL:lim=100000:=rfl;(refine dB ra λp hp z1=>?_;try clear ra;subst z1);(refine wH rb λp2 vs2 z1 U U z2 q2=>?_;try clear rb;subst z1;obtain⟨k2,e2⟩:=z2);obtain⟨_,vs,⟨k,e⟩,q1⟩:=R.obj n p _ hp hl;have l1:=q1.length;have l2:=q2.length;have:=lj (f:=λz=>z++vs2.toArray) (ws:=vs++vs2) (l':=l++r) R hp hl e (by simp) λh' g=>(bt.mono g (λU q=>nomatch q) (λU q=>.inl q) _ _ q1).append (bt.mono g (λU q=>nomatch q) (λU q=>.inl q) _ _ q2);exact fw F.slot_list_extend ⟨_,e,rfl⟩ F.entry_list_extend (F.args_list_extend_2 _ _) (PySem.AutoSeq1.list_extend_list_list_0 p.a vs.toArray k p2 vs2.toArray k2 (by simp[s7,fz];exact abm hlen hL l1 l2) (by simp;exact abl hlen o9 hL l1) (by simp;exact abk hlen o9 hL l1 l2)) ⟨e,e2,q _ this.1 this.2⟩
theorem Bc {q':Str}{j:Nat}(h:findS q' l=aa (aa j))(hlen:l.length<lim)(ra:bz ρ X s.heap (.lst l) a)(q:∀t t',Q (.int j t) {s with toks:=t'}) :
  aE (aC Z.prog Z.w) A (call (.builtin "list.index") [a,.str q' t]) Q E s:=by
 have hL:lim=100000:=rfl;(refine wH ra λp vs z1 U U z2 q1=>?_;try clear ra;subst z1;obtain⟨k,e⟩:=z2);have l1:=q1.length;have key:∀ {l:List V} {vs:List ax} {r:Option Nat},findS q' l=aa r->bt ρ X s.heap l vs->(∀w∈vs,∃y u,w=.str y u) /\
   match r with
   |some j=>∃h:j<vs.length,vs[j].isStr q'=af/\∀m (hm:m<vs.length),m<j->vs[m].isStr q'=ag
   |none=>True:=by
  intro l;induction l with
  |nil=>intro vs r h q;subst q;obtain rfl:=aj h;exact⟨λU h=>(nomatch h),trivial⟩
  |cons c l ih =>
   intro vs r h q;(refine mI q.jq λw ws z1 r1 r2=>?_;subst z1);induction c using V.casesOn with
   |str z =>
    obtain⟨u,rfl⟩:=r1;change (match findS q' l with|some r=>if z=q' then aa (aa 0)else aa (r.map (·+1))|none=>ae)=aa r at h;induction hf:findS q' l with
    |none=>rw[hf]at h;exact fv h
    |some r' =>
     rw[hf]at h;obtain⟨i1,i2⟩:=ih hf r2;refine⟨λw hw=>by rcases aM.mp hw with rfl|m;exact⟨_,_,rfl⟩;exact i1 w m,?_⟩;by_cases hz:z=q'
     .replace h:=(if_pos hz).symm.trans h;obtain rfl:=aj h;obtain rfl:=fb (hz);exact⟨by simp,by simp[MQ],λm hm lt=>absurd lt (oJ _)⟩
     .replace h:=(if_neg hz).symm.trans h;obtain rfl:=aj h;induction r' with
      |none=>trivial
      |some j =>
       (refine dB i2 λa1 a2 a3=>?_;try clear i2);refine⟨by simp;exact a1,by simpa using a2,λm hm lt=>?_⟩;induction m using Nat.casesOn with
       |zero=>simp[MQ,hz]
       |succ m=>simpa using a3 m (by simpa using hm) (by simp at lt ⊢;exact lt)
   |_=>exact fv h
 obtain⟨k1,hj,k2,k3⟩:=key h q1;refine fw F.slot_list_index ⟨_,e,rfl⟩ F.entry_list_index (F.args_list_index_2 _ _)
  (list_indexAt p vs.toArray k ae #[] (.str q' t) (λw=>w.isStr q') j (by simpa using hj) (by lia) (by simpa using k2) (λm hm lt=>by simpa using k3 m (by simpa using hm) lt))
  ⟨e,λy hy=>?_,q _ _⟩
 (refine H0 (k1 y (by simpa using hy)) λz u z1=>?_;subst z1);exact EqAt.str_str z u q' t
end
end Internal
end
noncomputable section
open PySem PySem.W PyProof.Rows PySem.SeqAt
namespace Internal
variable {ct vt:List Str}{p:Pos}{own X':List aJ}{ops:List Cm}{cs:List V}{y:V}{vs:Vs}{n:Str}{env:Env}{w:ax}{E Q:ax->av->Prop}{m mb mg:Str->Option ax}{o:Option V}{es:List b8}{et eb ea e:b8}{t:Sem ax}{β α:Type}{W' W:(β->av->Prop)->(ax->av->Prop)->Prop}{T:List Pl->bV->α->β->Prop}{cD σ:bp}{Z:ng}{s' s:av}{bJ ρ:List Pl}{h' h:bV}
theorem IsCell.grow {F:List aJ}{c:aJ}{v:Option ax}(t:h.IsCell c v)(g:dG F ρ h bJ h')(k:Off ρ c)(n:c∉F):h'.IsCell c v:=by(refine dB t λo e d=>?_;try clear t);refine dB (g.ev c _ e k n) λsl e' U=>?_;exact⟨_,e',d⟩
theorem Ns.grow {F:List aJ}{c:aJ}(t:h.Ns c m)(g:dG F ρ h bJ h')(k:Off ρ c)(n:c∉F):h'.Ns c m:=by(refine D9 t λo es ep e d r=>?_;try clear t);refine dB (g.ev c _ e k n) λsl e' U=>?_;exact⟨_,es,ep,e',d,r⟩
def da (X:List aJ)(h:bV)(l:List Env):Prop :=
 ∀e∈l,e.scope.kind≠.module/\∃L o es n,e.frame=aa L/\L∈X/\h.get? L=aa o/\o.data=.dict es n
theorem Rel.off  {X:List aJ}(R:Rel Z ρ X σ h){x:aJ}(m:x∈X):Off ρ x:=λp hp q=>(R.ge p hp x q).2 m
theorem da.grow {F X:List aJ}{l:List Env}(t:da X h l)(R:Rel Z ρ X σ h)(g:dG F ρ h bJ h')(n:∀e∈l,∀L,e.frame=aa L->L∉F):da X h' l:=λe he=>by obtain⟨a,L,o,es,k,b,c,d,f⟩:=t e he;refine dB (g.ev L _ d (R.off c) (n e he L b)) λsl e' U=>?_;exact⟨a,L,_,es,k,b,c,e',f⟩
theorem da.less {X:List aJ}{l:List Env}(t:da X h l)(hX:∀b∈X,b∈X'):da X' h l:=λe he=>by obtain⟨a,L,o,es,k,b,c,d⟩:=t e he;exact⟨a,L,o,es,k,b,hX L c,d⟩
theorem da.fun {Z:ng}{ρ:List Pl}{X:List aJ}{σ:bp}{h:bV}(R:Rel Z ρ X σ h):∀ {l:List Env},da X h l->h.FunFrames Z.base l
 |[]=>λU=>trivial
 |e::l=>λt=>by
  obtain⟨a,L,o,es,k,b,c,d,f⟩:=t e (.head _);refine⟨a,⟨L,o,b,?_,d,λvs q=>by rw[f]at q;exact bk q⟩,da.fun R λe he=>t e (.tail _ he)⟩;induction q:Z.base.get? L with
  |none=>rfl
  |some o=>exact absurd (bu q) (bO.mpr (R.D4 L c))
theorem pI.rZ {F:List aJ}{X:List aJ}(t:pI Z ρ X h env vt vs ct cs)(R:Rel Z ρ X σ h)(g:dG F ρ h bJ h')
  (h1:∀b∈X,b∈X')(h2:∀b∈X',b∈X\/h.objs.size<=b)(hF:∀b∈F,b∈X)(n1:env.locals∉F)(n2:∀x c,env.cells.lookup x=aa c->c∉F):pI Z bJ X' h' env vt vs ct cs where
 kind:=t.kind
 globals:=t.globals
 builtins:=t.builtins
 own:=h1 _ t.own
 ns:=by
  refine ti t.ns λm a b c=>?_;refine⟨m,Ns.grow a g (R.off t.own) n1,λi x v e1 e2 e3 e4=>?_,λi x v e1 e2 e3=>?_⟩
  .refine dB (b i x v e1 e2 e3 e4) λw f r=>?_;exact⟨w,f,bz.mono g hF h2 _ _ r⟩
  .refine dB (c i x v e1 e2 e3) λw f r=>?_;exact⟨w,f,bz.mono g hF h2 _ _ r⟩
 cell:=λi x v e1 e2 e3=>by refine mI (t.cell i x v e1 e2 e3) λc w a b r=>?_;exact⟨c,w,a,IsCell.grow b g (R.off (t.cells x c a).1) (n2 x c a),bz.mono g hF h2 _ _ r⟩
 cells:=λx c e=>by obtain⟨a,b,w,d⟩:=t.cells x c e;exact⟨h1 _ a,b,w,IsCell.grow d g (R.off a) (n2 x c e)⟩
 has:=t.has
 inj:=t.inj
theorem pI.G4   {X:List aJ}(t:pI Z ρ X h env vt vs ct cs)(R:Rel Z ρ X σ h)(g:dG [] ρ h bJ h')
  (h1:∀b∈X,b∈X')(h2:∀b∈X',b∈X\/h.objs.size<=b):pI Z bJ X' h' env vt vs ct cs :=
 t.rZ R g h1 h2 (λU q=>nomatch q) (λq=>nomatch q) λU U U q=>nomatch q
theorem pI.grow  {X:List aJ}(t:pI Z ρ X h env vt vs ct cs)(R:Rel Z ρ X σ h)(g:dG [] ρ h bJ h'):pI Z bJ X h' env vt vs ct cs :=
 t.G4 R g (λU q=>q) λU q=>.inl q
structure Cx where
 Z:ng
 A:mR
 l:List Env
 env:Env
 vt:List Str
 vs:Vs
 ct:List Str:=[]
 cs:List V:=[]
 X:List aJ
 Φ:Nat->List V->bp->R V
structure St (c:Cx)(ρ:List Pl)(σ:bp)(h:bV):Prop where
 rel:Rel c.Z ρ c.X σ h
 fr:pI c.Z ρ c.X h c.env c.vt c.vs c.ct c.cs
 oq:da c.X h c.l
theorem St.go {c:Cx}(t:St c ρ σ s.heap)(g:Go [] ρ s bJ s')(R:Rel c.Z bJ c.X cD s'.heap) :
  St c bJ cD s'.heap:=⟨R,t.fr.grow t.rel g.grow,t.oq.grow t.rel g.grow λU U U U q=>nomatch q⟩
theorem St.rZ {c:Cx}{F:List aJ}(t:St c ρ σ h)(g:dG F ρ h bJ h')(R:Rel c.Z bJ c.X cD h')(hF:∀b∈F,b∈c.X)(n1:c.env.locals∉F)(n2:∀x a,c.env.cells.lookup x=aa a->a∉F)
  (n3:∀e∈c.l,∀L,e.frame=aa L->L∉F):St c bJ cD h' :=
 ⟨R,t.fr.rZ t.rel g (λU q=>q) (λU q=>.inl q) hF n1 n2,t.oq.grow t.rel g n3⟩
theorem St.goX {c:Cx}(t:St c ρ σ s.heap)(g:Go [] ρ s bJ s')(R:Rel c.Z bJ X' cD s'.heap)(h1:∀b∈c.X,b∈X')(h2:∀b∈X',b∈c.X\/s.heap.objs.size<=b) :
  St {c with X:=X'} bJ cD s'.heap:=⟨R,t.fr.G4 t.rel g.grow h1 h2,(t.oq.grow t.rel g.grow λU U U U q=>nomatch q).less h1⟩
def gS:List (Str×ax):=[(st "len",.builtin "len"),(st "abs",.builtin "abs"),(st "isinstance",.builtin "isinstance"),(st "sorted",.builtin "sorted"),(st "int",.type "int"),(st "bool",.type "bool"),(st "str",.type "str"),
 (st "list",.type "list"),(st "range",.type "range"),(st "enumerate",.type "enumerate"),(st "Exception",.type "Exception")]
structure QD (Z:ng)(mg mb:Str->Option ax):Prop where
 g:Z.base.Ns cF mg
 b:Z.base.Ns gY mb
 gv:∀(i:Nat) x v,x8[i]?=aa x->G[i]?=aa v->∃w,mg x=aa w/\bz [] [] Z.base v w
 bi:∀x v,(x,v)∈gS->mg x=ae/\mb x=aa v
 fn:∀(f:Nat) x a,rz[f]?=aa x->Z.fa[f]?=aa a->f≠0->mg x=aa (.ref a)
 fo:∀(f:Nat) a,Z.fa[f]?=aa a->∃o fd,Z.base.get? a=aa o/\o.data=.func fd
 un:mg (st "Unit")=aa (.ref Z.C)
 bc:mg (st "BadCode")=aa (.ref Z.CB)
theorem Rel.base  {X:List aJ}(R:Rel Z ρ X σ h):dG [] [] Z.base ρ h :=
 ⟨⟨ρ,by simp,λp hp x hx=>(R.ge p hp x hx).1⟩,R.bsize,λb o e U U=>⟨o.slots,R.keep b o e,λU=>rfl⟩⟩
theorem bz.base  {X:List aJ}{v:V}(r:bz [] [] Z.base v w)(R:Rel Z ρ X σ h):bz ρ X h v w :=
 bz.mono R.base (λU q=>nomatch q) (λb q=>.inr (R.D4 b q)) v w r
section
variable {c:Cx}
def SX (c:Cx)(x:X)(e:b8):Prop:=∀ρ s σ,St c ρ σ s.heap->Run c.Z [] c.X ρ s (TV c.X) (ev G c.Φ c.vs x c.cs σ) (λQ E=>aE (aC c.Z.prog c.Z.w) c.A (eval e c.env) Q E s)
noncomputable def fV (v:V)(σ:bp):R Bool:=match v with
 |.bool b=>.ok b σ
 |_=>.bad
noncomputable abbrev TB (_:List Pl)(_:bV)(v:V)(b:Bool):Prop:=v=.bool b
noncomputable abbrev TE (_:List Pl)(_:bV)(v:Bool)(b:Bool):Prop:=v=b
def SB (c:Cx)(x:X)(e:b8):Prop:=∀ρ s σ,St c ρ σ s.heap ->
 Run c.Z [] c.X ρ s TE ((ev G c.Φ c.vs x c.cs σ).bind fV) (λQ E=>aE (aC c.Z.prog c.Z.w) c.A (pQ e c.env (eval e c.env)) Q E s)
theorem ID {k pos}:SX c (.k .none) (.Constant .none k pos):=λρ s σ t=>by exact .tj t.rel tY λQ E q=>wpAny_Constant_none q
theorem BS {b k pos}:SX c (.k (.bool b)) (.Constant (.bool b) k pos):=λρ s σ t=>by exact .tj t.rel tZ λQ E q=>wpAny_Constant_bool q
theorem NN {i k pos}:SX c (.k (.int i)) (.Constant (.int i) k pos):=λρ s σ t=>by exact .ok (.tok (t:=s.toks+1)) t.rel (mU (t:=s.toks)) λQ E q=>wpAny_Constant_int q
theorem NC {x k pos}:SX c (.k (.str x)) (.Constant (.str x) k pos):=λρ s σ t=>by exact .ok (.tok (t:=s.toks+1)) t.rel (AH (t:=s.toks)) λQ E q=>vu q
theorem Run.var  {X:List aJ}{T:List Pl->bV->V->ax->Prop}{Φ:Nat->List V->bp->R V}{i:Nat}{W:(ax->av->Prop)->(ax->av->Prop)->Prop}(h:∀x,vs[i]?=aa (aa x)->Run Z own X ρ s T (.ok x σ) W):Run Z own X ρ s T (ev G Φ vs (.v i) cs σ) W:=by
 refine(?_:Run Z own X ρ s T (match vs[i]? with|some (aa x)=>.ok x σ|_=>.bad) W);induction e:vs[i]? with
 |none=>trivial
 |some o =>
  induction o with
  |none=>trivial
  |some x=>exact h x e
theorem Run.get  {X:List aJ}{T:List Pl->bV->V->ax->Prop}{W:(ax->av->Prop)->(ax->av->Prop)->Prop}(h:∀x,o=aa x->Run Z own X ρ s T (.ok x σ) W):Run Z own X ρ s T (R.get o σ) W:=by
 induction o with
 |none=>trivial
 |some x=>exact h x rfl
theorem ES {i:Nat}{x:Str}{pos:Pos}(hv:c.vt[i]?=aa x)(hc:x∉c.ct)(hk:c.env.kindOf x=aa .local)(hd:(x==("__debug__" : Str))=ag):SX c (.v i) (.Name x pos):=λρ s σ t=>by refine Run.var λv e=>?_;refine ti t.fr.ns λm a b U=>?_;refine dB (b i x v hv e hc hk) λw f r=>?_;exact .tj t.rel r λQ E q=>BL (rM t.fr.kind hk a f q) hd
theorem II {i:Nat}{x:Str}{pos:Pos}(hv:c.vt[i]?=aa x)(hk:c.env.kindOf x=aa .cell)(hd:(x==("__debug__" : Str))=ag):SX c (.v i) (.Name x pos):=λρ s σ t=>by refine Run.var λv e=>?_;refine mI (t.fr.cell i x v hv e hk) λc w a b r=>?_;exact .tj t.rel r λQ E q=>BL (wpAny_loadName_cell t.fr.kind hk a b q) hd
theorem IH {i:Nat}{x:Str}{pos:Pos}(hv:c.ct[i]?=aa x)(hk:c.env.kindOf x=aa .local)(hd:(x==("__debug__" : Str))=ag):SX c (.c i) (.Name x pos):=λρ s σ t=>by refine Run.get λv e=>?_;refine ti t.fr.ns λm a U b=>?_;refine dB (b i x v hv e hk) λw f r=>?_;exact .tj t.rel r λQ E q=>BL (rM t.fr.kind hk a f q) hd
theorem lP   {x:Str}{pos:Pos}(D:QD c.Z mg mb)(t:St c ρ σ s.heap)(hk:c.env.kindOf x=aa .globalImplicit)(hd:(x==("__debug__" : Str))=ag)(e:mg x=aa w)(q:Q w s) :
  aE (aC c.Z.prog c.Z.w) c.A (eval (.Name x pos) c.env) Q E s :=
 lq t.fr.kind hk (Calls.loadGlobal_global (by rw[t.fr.globals];exact D.g.keeps t.rel.keep) e q) hd
theorem pF   {x:Str}{pos:Pos}(D:QD c.Z mg mb)(t:St c ρ σ s.heap)(hk:c.env.kindOf x=aa .globalImplicit)(hd:(x==("__debug__" : Str))=ag)(e:mg x=ae)(e':mb x=aa w)(q:Q w s) :
  aE (aC c.Z.prog c.Z.w) c.A (eval (.Name x pos) c.env) Q E s :=
 lq t.fr.kind hk (yx (by rw[t.fr.globals];exact D.g.keeps t.rel.keep) e (by rw[t.fr.builtins];exact D.b.keeps t.rel.keep) e' q) hd
theorem Dj {i:Nat}{x:Str}{pos:Pos}(D:QD c.Z mg mb)(hv:x8[i]?=aa x)(hk:c.env.kindOf x=aa .globalImplicit)(hd:(x==("__debug__" : Str))=ag):SX c (.g i) (.Name x pos):=λρ s σ t=>by refine Run.get λv e=>?_;refine dB (D.gv i x v hv e) λw f r=>?_;exact .tj t.rel (r.base t.rel) λQ E q=>lP D t hk hd f q
theorem NQ {o:Ng}{m:Bool}{a b:X}{pos:Pos}(ha:SX c a ea)(hb:SX c b eb):SX c (.bin o m a b) (.BinOp ea (Qc o) eb pos):=λρ s σ t=>by refine Run.w (Run.seq (ha ρ s σ t) λx bj w aH ay bY bP bT=>Run.seq (W2:=λw' bH Q E=>aE (aC c.Z.prog c.Z.w) c.A (gJ (Qc o) w w') Q E bH) (hb aH ay bj (t.go bY bP)) λy gz w' fT bH fN fO f7=>?_) λQ E h=>wpAny_BinOp h;exact Jb o m fO (fN.v bT) f7
end
def back (Q:ax->av->Prop)(E:ax->av->Prop)(r:sD)(s':av):Prop:=match r with
 |.ok (.ret v)=>Q v s'
 |.ok _=>False
 |.error e=>E e s'
def n8 (Z:ng)(Φ:Nat->List V->bp->R V)(A:mR)(l:List Env)(X:List aJ):Prop :=
 ∀(f:Nat) a,Z.fa[f]?=aa a->∀ρ s σ xs ws,Rel Z ρ X σ s.heap->da X s.heap l->bt ρ X s.heap xs ws ->
  Run Z [] X ρ s (TV X) (Φ f xs σ) (λQ E=>gX (aC Z.prog Z.w) A (.call (.ref a) ⟨ws,[]⟩) (back Q E) s)
structure Ok (c:Cx)(mg mb:Str->Option ax):Prop where
 z:10<c.Z.base.objs.size
 k:CU c.Z
 zR:QD c.Z mg mb
 hh:c.A.handled=ae
 fr:c.A.frames=aa c.l
 un:c.A.units+300<kL
 call:∀X,n8 c.Z c.Φ c.A c.l X
 mkc:∀X ws,n8 c.Z c.Φ (c.A.under (.builtin "type.__call__" ⟨.ref c.Z.C::ws,[]⟩)) c.l X
 mki:makesIn c.Z.K c.Z.C=af
 kp:keepIn c.Z.K (.ref c.Z.C)=af
 ini:∃fI,c.Z.fa[GI]?=aa fI/\yt c.Z.K (.ref c.Z.C) "__init__"=aa (aa (.ref fI))/\typeIn c.Z.K (.ref fI)=aa (.type "function")
noncomputable def noStar (e:b8):Bool:=!(eF e.ctorIdx 22||eF e.ctorIdx 7)
theorem fL {r:List b8}(h:noStar e=af):gG (e::r) env=(ag,eval e env)::gG r env:=by induction e using PySem.Expr.casesOn<;>first|rfl|exact jH h
inductive e8 (P:X->b8->Prop):List X->List b8->Prop where
 |nil:e8 P [] []
 |cons {x:X} {e:b8} {l:List X} {r:List b8}:P x e->noStar e=af->e8 P l r->e8 P (x::l) (e::r)
section
variable {c:Cx}
theorem td {xs:List X}(h:e8 (SX c) xs es)(pos:Pos):∀ρ s σ,St c ρ σ s.heap ->
  Run c.Z [] c.X ρ s (TVs c.X) (CF G c.Φ c.vs xs c.cs σ) (λQ E=>aE (aC c.Z.prog c.Z.w) c.A (sL (mL pos (gG es c.env))) Q E s):=by
 induction h with
 |nil=>intro ρ s σ t;exact .tj t.rel .nil λQ E q=>hU q
 |cons a b _ ih =>intro ρ s σ t;refine Run.w (Run.seq (a ρ s σ t) λx bj w aH ay bY bP bT=>?_) λQ E h=>eQ h (fL b);exact Run.w (Run.seq (ih aH ay bj (t.go bY bP)) λy gz w' fT bH fN fO f7=>.tj (b:=w::w') (W:=λQ E=>Q (w::w') bH) fO (.cons (fN.v bT) f7) λU U q=>q) λU U h=>h
noncomputable def lh (e:b8):Bool:=!(eF e.ctorIdx 26)
theorem eN {o i:ax}(h:lh e=af):subscripted e ag o i=operate [o,i] (gr o i):=by induction e using PySem.Expr.casesOn<;>first|rfl|exact jH h
theorem Dh (D:Ok c mg mb){x v:V}{a b:ax}(R:Rel c.Z ρ c.X σ s.heap)(h:hK σ x y=aa v)(ra:bz ρ c.X s.heap x a)(rb:bz ρ c.X s.heap y b)
  (hp:lh eb=af)(q:∀w t,bz ρ c.X s.heap v w->Q w {s with toks:=t}):aE (aC c.Z.prog c.Z.w) c.A (subscriptTail ea eb a b) Q E s:=by
 have g:=G9 (A:=c.A) (E:=E) R D.z h ra rb q;induction x using V.casesOn with
 |lst l =>obtain⟨p,vs,rfl,o1,x1,t1,q1⟩:=ra;exact wi t1.isList.typeIs sG.lookup g (eN hp)
 |tup l =>obtain⟨p,vs,rfl,o1,x1,⟨n,t1⟩,q1⟩:=ra;exact wi (T:="tuple") ⟨_,t1,rfl⟩ F.slot_tuple_getitem.lookup g (eN hp)
 |str z =>obtain⟨t,rfl⟩:=ra;exact wi (vv _ _ _) F.slot_str_getitem.lookup g (eN hp)
 |loc n =>
  obtain⟨p,Cy,rfl⟩:=ra;change DL σ[n]? y=aa v at h;cases hl:σ[n]? with
  |none=>rw[hl]at h;exact fv h
  |some o =>
   rw[hl]at h;have ob:=R.obj n p o Cy hl;induction o with
   |list l =>obtain⟨_,vs,t1,q1⟩:=ob;exact wi t1.isList.typeIs sG.lookup g (eN hp)
   |cH l =>obtain⟨_,lI,t1,_⟩:=ob;exact wi t1.mapOf.typeIs F.slot_dict_getitem.lookup g (eN hp)
   |dN l =>obtain⟨_,lI,t1,_⟩:=ob;exact wi t1.mapOf.typeIs F.slot_dict_getitem.lookup g (eN hp)
   |inst l=>exact fv h
 |_=>exact fv h
theorem run_get   {T:List Pl->bV->V->α->Prop}{W:(α->av->Prop)->(ax->av->Prop)->Prop}{F X:List aJ}(h:∀v,o=aa v->Run Z F X ρ s T (.ok v σ) W):Run Z F X ρ s T (R.get o σ) W:=by
 induction o with
 |none=>trivial
 |some v=>exact h v rfl
theorem NB (D:Ok c mg mb){a b:X}{pos:Pos}(ha:SX c a ea)(hb:SX c b eb)(hp:lh eb=af):SX c (.sub a b) (.Subscript ea eb pos):=λρ s σ t=>by refine Run.w (Run.seq (ha ρ s σ t) λx bj w aH ay bY bP bT=>Run.seq (W2:=λw' bH Q E=>aE (aC c.Z.prog c.Z.w) c.A (subscriptTail ea eb w w') Q E bH) (hb aH ay bj (t.go bY bP)) λy gz w' fT bH fN fO f7=>?_) λQ E h=>Subscript_ h;refine run_get λv hv=>λQ E q=>Dh D fO hv (fN.v bT) f7 hp λw t r=>q w fT _ .tok fO r
theorem i7 {M:Model}{A:mR}{value:b8}{lower upper:Option b8}{pos:Pos}
  (h:aE M A (eval value env) (λo ay=>aE M A (eval (.Slice lower upper ae p) env) (λi bH=>(∃T id,bH.TypeIs o T/\iT (.type T) "__getitem__"=pure (aa (.builtin id)))/\aE M A (gr o i) (λr fU=>aE M A (letTemporaryGo value o r) (λU q7=>Q r q7) E fU) E bH) E ay) E s) :
  aE M A (eval (.Subscript value (.Slice lower upper ae p) pos) env) Q E s:=by
 rw[eval_Subscript];refine aq (bo h (λo ay h₁=>aq (bC (bo h₁ (λi bH fj=>aq (bR ?_)) λU U x=>x)))
  λU U x=>x)
 obtain⟨⟨T,id,hT,hl⟩,fj⟩:=fj;have fin:aE M A (operate [i,o] (gr o i)) (λr fU=>aE M A (letTemporaryGo value o r >>= λU=>pure r) Q E fU) E bH :=
  Ae (bo fj (λr fU iZ=>aq (bo iZ (λU U q=>aW q) λU U x=>x)) λU U x=>x)
 refine aq ?_;rw[getitemInPython_of_ne hT.not_modules];refine aq (wpAny_specialOf hT hl ?_);exact aW (aq fin)
theorem BY (up:Bool){x:V}{i:Int}{a:ax}(R:Rel c.Z ρ c.X σ s.heap)(ra:bz ρ c.X s.heap x a)(h:N0 up σ x i≠.bad) :
  ∃T id,s.TypeIs a T/\iT (.type T) "__getitem__"=pure (aa (.builtin id)):=by
 have key:IV up σ i (Ah σ x)≠.bad->∃T id,s.TypeIs a T/\iT (.type T) "__getitem__"=pure (aa (.builtin id)):=λh=>by
  induction e:Ah σ x with
  |none=>rw[e]at h;exact absurd rfl h
  |some l =>obtain⟨p,vs,rfl,t1,q1⟩:=uB R e ra;exact⟨_,_,t1.isList.typeIs,sG.lookup⟩
 induction x using V.casesOn with
 |tup l =>obtain⟨p,vs,rfl,o1,x1,⟨n,t1⟩,q1⟩:=ra;exact⟨"tuple",_,⟨_,t1,rfl⟩,F.slot_tuple_getitem.lookup⟩
 |_=>exact key h
theorem Run.KG  {F X:List aJ}{r:R α}(h:r≠.bad->Run Z F X ρ s T r W):Run Z F X ρ s T r W:=by
 induction r with
 |bad=>trivial
 |ok a σ=>exact h λq=>nomatch q
 |exc σ=>exact h λq=>nomatch q
section
variable {F X:List aJ}
theorem Run.ite {c:Prop}[Decidable c]{r:R α}(h:c->Run Z F X ρ s T r W):Run Z F X ρ s T (if c then r else .bad) W:=by
 by_cases hc:c
 .rw[if_pos hc];exact h hc
 .rw[if_neg hc];trivial
theorem Run.opt {f:V->R α}(h:∀a,o=aa a->Run Z F X ρ s T (f a) W):Run Z F X ρ s T (match (generalizing:=false) o with|some a=>f a|none=>.bad) W:=by
 induction o with
 |none=>trivial
 |some a=>exact h a rfl
theorem Run.Jq {o:Option (List V)}{f:List V->R α}(h:∀a,o=aa a->Run Z F X ρ s T (f a) W):Run Z F X ρ s T (match (generalizing:=false) o with|some a=>f a|none=>.bad) W:=by
 induction o with
 |none=>trivial
 |some a=>exact h a rfl
theorem Run.Om {o:Option Bool}{f:Bool->R α}(h:∀a,o=aa a->Run Z F X ρ s T (f a) W):Run Z F X ρ s T (match (generalizing:=false) o with|some a=>f a|none=>.bad) W:=by
 induction o with
 |none=>trivial
 |some a=>exact h a rfl
theorem Run.YM {o:Option Bool}{a b:R α}(h:o=aa af->Run Z F X ρ s T a W)(k:o=aa ag->Run Z F X ρ s T b W):Run Z F X ρ s T (match (generalizing:=false) o with|some af=>a|some ag=>b|none=>.bad) W:=by
 induction o with
 |none=>trivial
 |some x=>induction x with
  |true=>exact h rfl
  |false=>exact k rfl
theorem Run.Zi {c:Prop}[Decidable c]{r r':R α}(h:c->Run Z F X ρ s T r W)(k:¬c->Run Z F X ρ s T r' W):Run Z F X ρ s T (if c then r else r') W:=by
 by_cases hc:c
 .rw[if_pos hc];exact h hc
 .rw[if_neg hc];exact k hc
theorem Run.vno {x:V}{r:R α}(h:x=.none->Run Z F X ρ s T r W):Run Z F X ρ s T (match (generalizing:=false) x with|.none=>r|_=>.bad) W:=by
 induction x using V.casesOn with
 |none=>exact h rfl
 |_=>trivial
theorem Run.ace {o:Option (Option Nat)}{f:Nat->R α}(h:∀a,o=aa (aa a)->Run Z F X ρ s T (f a) W):Run Z F X ρ s T (match (generalizing:=false) o with|some (aa a)=>f a|_=>.bad) W:=by
 induction o with
 |none=>trivial
 |some o=>induction o with
  |none=>trivial
  |some a=>exact h a rfl
theorem Run.lst {o:Option O}{f:List V->R α}(h:∀l,o=aa (.list l)->Run Z F X ρ s T (f l) W):Run Z F X ρ s T (match (generalizing:=false) o with|some (.list l)=>f l|_=>.bad) W:=by
 induction o with
 |none=>trivial
 |some o=>induction o with
  |list l=>exact h l rfl
  |_=>trivial
theorem Run.dic {o:Option O}{f:List (Int×V)->R α}(h:∀l,o=aa (.cH l)->Run Z F X ρ s T (f l) W):Run Z F X ρ s T (match (generalizing:=false) o with|some (.cH l)=>f l|_=>.bad) W:=by
 induction o with
 |none=>trivial
 |some o=>induction o with
  |cH l=>exact h l rfl
  |_=>trivial
theorem Run.loc {x:V}{f:Nat->R α}(h:∀l,x=.loc l->Run Z F X ρ s T (f l) W):Run Z F X ρ s T (match (generalizing:=false) x with|.loc l=>f l|_=>.bad) W:=by
 induction x using V.casesOn with
 |loc l=>exact h l rfl
 |_=>trivial
theorem Run.int {x:V}{f:Int->R α}(h:∀l,x=.int l->Run Z F X ρ s T (f l) W):Run Z F X ρ s T (match (generalizing:=false) x with|.int l=>f l|_=>.bad) W:=by
 induction x using V.casesOn with
 |int l=>exact h l rfl
 |_=>trivial
theorem Run.bool {x:V}{f:Bool->R α}(h:∀l,x=.bool l->Run Z F X ρ s T (f l) W):Run Z F X ρ s T (match (generalizing:=false) x with|.bool l=>f l|_=>.bad) W:=by
 induction x using V.casesOn with
 |bool l=>exact h l rfl
 |_=>trivial
theorem Run.tup {x:V}{f:List V->R α}(h:∀l,x=.tup l->Run Z F X ρ s T (f l) W):Run Z F X ρ s T (match (generalizing:=false) x with|.tup l=>f l|_=>.bad) W:=by
 induction x using V.casesOn with
 |tup l=>exact h l rfl
 |_=>trivial
theorem Run.Za {x:V}{f:Nat->Int->R α}(h:∀l r,x=.loc l->y=.int r->Run Z F X ρ s T (f l r) W):Run Z F X ρ s T (match (generalizing:=false) x,y with|.loc l,.int r=>f l r|_,_=>.bad) W:=by
 induction x using V.casesOn with
 |loc l=>induction y using V.casesOn with
  |int r=>exact h l r rfl rfl
  |_=>trivial
 |_=>trivial
theorem Run.acp {x:V}{f:Nat->List V->R α}(h:∀l r,x=.loc l->y=.lst r->Run Z F X ρ s T (f l r) W):Run Z F X ρ s T (match (generalizing:=false) x,y with|.loc l,.lst r=>f l r|_,_=>.bad) W:=by
 induction x using V.casesOn with
 |loc l=>induction y using V.casesOn with
  |lst r=>exact h l r rfl rfl
  |_=>trivial
 |_=>trivial
theorem Run.aco {x:V}{f:List V->Str->R α}(h:∀l r,x=.lst l->y=.str r->Run Z F X ρ s T (f l r) W):Run Z F X ρ s T (match (generalizing:=false) x,y with|.lst l,.str r=>f l r|_,_=>.bad) W:=by
 induction x using V.casesOn with
 |lst l=>induction y using V.casesOn with
  |str r=>exact h l r rfl rfl
  |_=>trivial
 |_=>trivial
end
theorem ND (D:Ok c mg mb){a b:X}{pos:Pos}(ha:SX c a ea)(hb:SX c b eb):SX c (.xJ a b) (.Subscript ea (.Slice (aa eb) ae ae p) pos):=λρ s σ t=>by
 refine Run.w (Run.seq (ha ρ s σ t) λx bj w aH ay bY bP bT=>Run.seq (W2:=λw' bH Q E=>aE (aC c.Z.prog c.Z.w) c.A (newFields "slice" [w',.none,.none])
   (λi bH=>(∃T id,bH.TypeIs w T/\iT (.type T) "__getitem__"=pure (aa (.builtin id)))/\aE (aC c.Z.prog c.Z.w) c.A (gr w i) Q E bH) E bH) (hb aH ay bj (t.go bY bP)) λy gz w' fT bH fN fO f7=>?_)
  λQ E h=>i7 (bo h (λo ay h₁=>?_) λU U x=>x)
 .refine Run.KG λnb=>?_;cases y with
  |int i =>obtain⟨u,rfl⟩:=f7;have x:=Ext.push (h:=bH.heap) {cls:=.type "slice",data:=.fields #[.int i u,.none,.none]};have qN:=fO.ext x;have ra:=(fN.v bT).ext x;refine Run.later (Go.ext (t:=bH.toks) x) (Run.w (I4 (A:=c.A) qN ra (wa ..)) λQ E h=>?_);exact jU ⟨BY ag qN ra nb,h⟩
  |_=>exact absurd rfl nb
 .rw[arm_eval_Slice];exact aq (bo h₁ (λl ay h₁=>aq (bC (aW (aq (bC (aW (bo h₁ (λi bH fj=>⟨fj.1,bo fj.2 (λr fU iZ=>rN iZ) λU U x=>x⟩) λU U x=>x))))))) λU U x=>x)
theorem NF (D:Ok c mg mb){a b:X}{pos:Pos}(ha:SX c a ea)(hb:SX c b eb):SX c (.vz a b) (.Subscript ea (.Slice ae (aa eb) ae p) pos):=λρ s σ t=>by
 refine Run.w (Run.seq (ha ρ s σ t) λx bj w aH ay bY bP bT=>Run.seq (W2:=λw' bH Q E=>aE (aC c.Z.prog c.Z.w) c.A (newFields "slice" [.none,w',.none])
   (λi bH=>(∃T id,bH.TypeIs w T/\iT (.type T) "__getitem__"=pure (aa (.builtin id)))/\aE (aC c.Z.prog c.Z.w) c.A (gr w i) Q E bH) E bH) (hb aH ay bj (t.go bY bP)) λy gz w' fT bH fN fO f7=>?_)
  λQ E h=>i7 (bo h (λo ay h₁=>?_) λU U x=>x)
 .refine Run.KG λnb=>?_;cases y with
  |int i =>obtain⟨u,rfl⟩:=f7;have x:=Ext.push (h:=bH.heap) {cls:=.type "slice",data:=.fields #[.none,.int i u,.none]};have qN:=fO.ext x;have ra:=(fN.v bT).ext x;refine Run.later (Go.ext (t:=bH.toks) x) (Run.w (I7 (A:=c.A) qN ra (wa ..)) λQ E h=>?_);exact jU ⟨BY af qN ra nb,h⟩
  |_=>exact absurd rfl nb
 .rw[arm_eval_Slice];exact aq (aW (aq (bC (bo h₁ (λl ay h₁=>aq (bC (aW (bo h₁ (λi bH fj=>⟨fj.1,bo fj.2 (λr fU iZ=>rN iZ) λU U x=>x⟩) λU U x=>x)))) λU U x=>x))))
noncomputable def gb (e:b8):Bool:=!(eF e.ctorIdx 16)
theorem iy    (h:gb e=af):attributeBase e n env t=t:=by induction e using PySem.Expr.casesOn<;>first|rfl|exact jH h
theorem NR (D:Ok c mg mb){a:X}{f:Nat}{pos:Pos}(ha:SX c a ea)(hf:fields[f]?=aa n)(hn:gb ea=af):SX c (.dm a f) (.Attribute ea n pos):=λρ s σ t=>by
 refine Run.w (Run.seq (W2:=λw ay Q E=>aE (aC c.Z.prog c.Z.w) c.A (getAttr w n af) Q E ay) (ha ρ s σ t) λx bj w aH ay bY bP bT=>?_) λQ E h=>?_
 .exact run_get λv hv=>λQ E q=>HP bP D.k hf hv bT λw t r=>q w aH _ .tok bP r
 .rw[arm_eval_Attribute,iy hn];exact aq (bo h (λo ay h₁=>aq (bR (aq (bC (bo h₁ (λr bH fj=>aq (rN (aW fj))) λU U x=>x))))) λU U x=>x)
theorem NI {a:X}{pos:Pos}(ha:SX c a ea):SX c (.neg a) (.UnaryOp .USub ea pos):=λρ s σ t=>by refine Run.w (Run.seq (W2:=λw ay Q E=>aE (aC c.Z.prog c.Z.w) c.A (unaryOp .USub w) Q E ay) (ha ρ s σ t) λx bj w aH ay bY bP bT=>?_) λQ E h=>wpAny_UnaryOp h;refine Run.int λi e=>?_;subst e;obtain⟨u,rfl⟩:=bT;exact qc bP (mU (t:=ay.toks)) λQ E q=>PyProof.Rows.neg_int q
theorem NA {xs:List X}{k:Nat}{pos:Pos}(h:e8 (SX c) xs es):SX c (.tup xs) (.Tuple es k pos):=λρ s σ t=>by refine Run.w (Run.seq (W2:=λws ay Q E=>ws.length<=fz/\Q (.ref ay.heap.objs.size) {ay with heap:=ay.heap.push (oY ws)}) (td h pos ρ s σ t) λl bj ws aH ay bY bP bT=>?_) λQ E h=>wpAny_Tuple h;refine Run.ite λhl=>?_;exact nr bP bT λQ E q=>⟨by have:=bT.length;have:=iu;exact XF hl (by assumption) this,q⟩
theorem NJ {xs:List X}{m:Bool}{pos:Pos}(h:e8 (SX c) xs es):SX c (.lst m xs) (.List es pos):=λρ s σ t=>by refine Run.w (Run.seq (W2:=λws ay Q E=>ws.length<=fz/\Q (.ref ay.heap.objs.size) {ay with heap:=ay.heap.push (tq ws)}) (td h pos ρ s σ t) λl bj ws aH ay bY bP bT=>?_) λQ E h=>wpAny_List h;exact nu bP bT λhl Q E q=>⟨by have:=bT.length;have:=iu;exact XF hl (by assumption) this,q⟩
end
theorem Jr {op:CmpOp}(h:noStar e=af):Cn op e t=t:=by delta Cn behindInMarks;induction e using PySem.Expr.casesOn<;>first|rfl|exact jH h
theorem Run.toks  {F X:List aJ}{r:R α}{W:Nat->(β->av->Prop)->(ax->av->Prop)->Prop}
  (h:∀t,Run Z F X ρ {s with toks:=t} T r (W t))(k:∀Q E,(∀t,W t Q E)->W' Q E):Run Z F X ρ s T r W':=by
 induction r with
 |ok a σ=>exact λQ E q=>k Q E λt=>h t Q E λb bJ s' g R y=>q b bJ s' (Go.tok.trans g) R y
 |exc σ=>exact λQ E q=>k Q E λt=>h t Q E λb bJ s' g R y=>q b bJ s' (Go.tok.trans g) R y
 |bad=>trivial
theorem St.tok {c:Cx}(t:St c ρ σ s.heap)(n:Nat):St c ρ σ ({s with toks:=n}:av).heap:=t
section
variable {c:Cx}
theorem vi {l:List X}(h:e8 (SX c) l es):∀ops:List CmpOp,markedEach ops es (mJ es c.env)=mJ es c.env:=by
 induction h with
 |nil=>intro ops;induction ops using List.casesOn with
  |nil=>rfl
  |cons a r=>induction r using List.casesOn<;>rfl
 |@cons x e l r a b hr ih =>
  intro ops;induction ops using List.casesOn with
  |nil=>rfl
  |cons o os =>
   induction hr with
   |nil=>induction os using List.casesOn with
    |nil=>show[Cn o e (eval e c.env)]=[eval e c.env];rw[Jr b]
    |cons a os=>induction os using List.casesOn<;>rfl
   |cons a' b' h' =>have:=ih os;induction os using List.casesOn<;>(show eval e c.env::_=eval e c.env::_;congr 1)
theorem wt (D:Ok c mg mb){l:List X}(h:e8 (SX c) l es)(pos:Pos):∀(ops:List Cm),ops.length=l.length->∀x w ρ s σ,St c ρ σ s.heap->bz ρ c.X s.heap x w ->
  Run c.Z [] c.X ρ s (TV c.X) (Ic G c.Φ c.vs x ops l c.cs σ) (λQ E=>aE (aC c.Z.prog c.Z.w) c.A (compareChain pos w (ops.map Ag) (mJ es c.env)) Q E s) /\
  Run c.Z [] c.X ρ s TB (Ic G c.Φ c.vs x ops l c.cs σ) (λQ E=>aE (aC c.Z.prog c.Z.w) c.A (testChain pos w (ops.map Ag) (mJ es c.env)) Q E s):=by
 have hu:c.A.units+70<kL:=by have:=D.un;exact ab9 this
 induction h with
 |nil =>
  intro ops hl x w ρ s σ t r;induction ops with
  |nil=>exact⟨trivial,trivial⟩
  |cons o os=>cases hl
 |@cons b e l r ha hb hr ih =>
  intro ops hl x w ρ s σ t rx;induction ops using List.casesOn with
  |nil=>cases hl
  |cons o os =>
   induction os using List.casesOn with
   |nil =>
    cases hr with
    |cons=>cases hl
    |nil =>
     constructor
     .refine Run.w (Run.seq (W2:=λw' ay Q E=>aE (aC c.Z.prog c.Z.w) c.A (eR (Ag o) w w') Q E ay) (ha ρ s σ t) λy bj w' aH ay bY bP bT=>?_) λQ E h=>?_
      .refine Run.Om λv hv=>?_;exact λQ E q=>oh bP D.z hu o hv (bY.v rx) bT λt=>q _ aH _ .tok bP tZ
      .exact aq (bC (bo h (λw' ay h₁=>aq (bR (Ae h₁))) λU U x=>x))
     .refine Run.w (Run.seq (W2:=λw' ay Q E=>aE (aC c.Z.prog c.Z.w) c.A (eR (Ag o) w w') (λr bH=>aE (aC c.Z.prog c.Z.w) c.A (pN r) Q E bH) E ay) (ha ρ s σ t) λy bj w' aH ay bY bP bT=>?_) λQ E h=>?_
      .refine Run.Om λv hv=>?_;exact λQ E q=>oh bP D.z hu o hv (bY.v rx) bT λt=>ez (q _ aH _ .tok bP rfl)
      .exact aq (bC (bo h (λw' ay h₁=>aq (bR (aq (Ae (bo h₁ (λr bH fj=>bC fj) λU U x=>x))))) λU U x=>x))
   |cons o' os =>
    have mid {w':ax} {ay:av} {T:Sem ax} {Q:ax->av->Prop} {E:ax->av->Prop}
     (h:aE (aC c.Z.prog c.Z.w) c.A (eR (Ag o) w w') (λr bH=>aE (aC c.Z.prog c.Z.w) c.A (pN r) (λb fU=>if b then aE (aC c.Z.prog c.Z.w) c.A T Q E fU else Q r fU) E bH) E ay) :
     aE (aC c.Z.prog c.Z.w) c.A (do standAt pos;let r<-Bh [w,w'] (eR (Ag o) w w');release [w,w'] [r];if<-Bh [r,w'] (pN r)then T else pure r) Q E ay :=
     aq (bR (aq (bC (bo h (λr bH fj=>aq (kW (aq (bC (bo fj (λb fU iZ=>ig (by induction b<;>first|exact iZ|exact aW iZ)) λU U x=>x))))) λU U x=>x))))
    have aci {w':ax} {ay:av} {T:Sem Bool} {Q:Bool->av->Prop} {E:ax->av->Prop}
     (h:aE (aC c.Z.prog c.Z.w) c.A (eR (Ag o) w w') (λr bH=>aE (aC c.Z.prog c.Z.w) c.A (pN r) (λb fU=>if b then aE (aC c.Z.prog c.Z.w) c.A T Q E fU else Q ag fU) E bH) E ay) :
     aE (aC c.Z.prog c.Z.w) c.A (do standAt pos;let r<-Bh [w,w'] (eR (Ag o) w w');release [w,w'] [r];if<-Bh [r,w'] (pN r)then T else pure ag) Q E ay :=
     aq (bR (aq (bC (bo h (λr bH fj=>aq (kW (aq (bC (bo fj (λb fU iZ=>ig (by induction b<;>first|exact iZ|exact aW iZ)) λU U x=>x))))) λU U x=>x))))
    have ee:Ic G c.Φ c.vs x (o::o'::os) (b::l) c.cs σ=(ev G c.Φ c.vs b c.cs σ).bind λy σ=>match fc σ o x y with
      |some af=>Ic G c.Φ c.vs y (o'::os) l c.cs σ
      |some ag=>.ok (.bool ag) σ
      |none=>.bad:=rfl
    rw[ee];have Qq:(o'::os).length=l.length:=by simpa using hl
    induction hr with
    |nil=>cases Qq
    |@cons adp aac adl f7 adf ade adb =>
    constructor
    .refine Run.w (Run.seq (W2:=λw' ay Q E=>aE (aC c.Z.prog c.Z.w) c.A (eR (Ag o) w w') (λr bH=>aE (aC c.Z.prog c.Z.w) c.A (pN r) (λb fU=>if b then aE (aC c.Z.prog c.Z.w) c.A (compareChain pos w' ((o'::os).map Ag) (mJ (aac::f7) c.env)) Q E fU else Q r fU) E bH) E ay)
      (ha ρ s σ t) λy bj w' aH ay bY bP bT=>?_) λQ E h=>?_
     .refine Run.YM (λhv=>?_) λhv=>?_
      .exact Run.toks (λtk=>(ih (o'::os) Qq y w' aH {ay with toks:=tk} bj (t.go bY bP:St c aH bj ay.heap) bT).1) λQ E h=>oh bP D.z hu o hv (bY.v rx) bT λtk=>ez (by rw[if_pos rfl];exact h tk)
      .exact λQ E q=>oh bP D.z hu o hv (bY.v rx) bT λt=>ez (by rw[if_neg bq];exact q _ aH _ .tok bP tZ)
     .exact aq (bC (bo h (λw' ay h₁=>mid h₁) λU U x=>x))
    .refine Run.w (Run.seq (W2:=λw' ay Q E=>aE (aC c.Z.prog c.Z.w) c.A (eR (Ag o) w w') (λr bH=>aE (aC c.Z.prog c.Z.w) c.A (pN r) (λb fU=>if b then aE (aC c.Z.prog c.Z.w) c.A (testChain pos w' ((o'::os).map Ag) (mJ (aac::f7) c.env)) Q E fU else Q ag fU) E bH) E ay)
      (ha ρ s σ t) λy bj w' aH ay bY bP bT=>?_) λQ E h=>?_
     .refine Run.YM (λhv=>?_) λhv=>?_
      .exact Run.toks (λtk=>(ih (o'::os) Qq y w' aH {ay with toks:=tk} bj (t.go bY bP:St c aH bj ay.heap) bT).2) λQ E h=>oh bP D.z hu o hv (bY.v rx) bT λtk=>ez (by rw[if_pos rfl];exact h tk)
      .exact λQ E q=>oh bP D.z hu o hv (bY.v rx) bT λt=>ez (by rw[if_neg bq];exact q _ aH _ .tok bP rfl)
     .exact aq (bC (bo h (λw' ay h₁=>aci h₁) λU U x=>x))
theorem NP (D:Ok c mg mb){a:X}{l:List X}{pos:Pos}(ha:SX c a ea)(h:e8 (SX c) l es)(hl:ops.length=l.length):SX c (.cmp a ops l) (.Compare ea (ops.map Ag) es pos):=λρ s σ t=>by refine Run.w (Run.seq (ha ρ s σ t) λx bj w aH ay bY bP bT=>(wt D h pos ops hl x w aH ay bj (t.go bY bP) bT).1) λQ E h'=>?_;rw[arm_eval_Compare,vi h];exact aq h'
theorem Run.tb {F X:List aJ}{r:R V}{W:(Bool->av->Prop)->(ax->av->Prop)->Prop}(h:Run Z F X ρ s TB r W):Run Z F X ρ s TE (r.bind fV) W:=by
 induction r with
 |bad=>trivial
 |exc σ=>exact h
 |ok v σ=>induction v using V.casesOn with
  |bool b=>exact λQ E q=>h Q E λb' bJ s' g R e=>q b' bJ s' g R (by obtain rfl:=Internal.V.bool.inj e;rfl)
  |_=>trivial
theorem R.bind_assoc {γ:Type}(r:R α)(f:α->bp->R β)(g:β->bp->R γ):(r.bind f).bind g=r.bind λa σ=>(f a σ).bind g:=by induction r<;>rfl
theorem N9 (D:Ok c mg mb){a:X}{l:List X}{pos:Pos}(ha:SX c a ea)(h:e8 (SX c) l es)(hl:ops.length=l.length):SB c (.cmp a ops l) (.Compare ea (ops.map Ag) es pos):=λρ s σ t=>by rw[show(ev G c.Φ c.vs (.cmp a ops l) c.cs σ).bind fV=(ev G c.Φ c.vs a c.cs σ).bind λx σ=>(Ic G c.Φ c.vs x ops l c.cs σ).bind fV from R.bind_assoc _ _ _];refine Run.w (Run.seq (ha ρ s σ t) λx bj w aH ay bY bP bT=>(wt D h pos ops hl x w aH ay bj (t.go bY bP) bT).2.tb) λQ E h'=>?_;rw[arm_isTrue_Compare,vi h];exact aq h'
theorem Q4 {x:X}(h:SX c x e)(he:∀whole,pQ e c.env whole=(do let v<-whole;standAt e.pos;Bh [v] (pN v))):SB c x e:=λρ s σ t=>by
 refine Run.w (Run.seq (W2:=λw ay Q E=>aE (aC c.Z.prog c.Z.w) c.A (pN w) Q E ay) (h ρ s σ t) λx bj w aH ay bY bP bT=>?_) λQ E h'=>wpAny_isTrue_value h' (he _);induction x using V.casesOn with
 |bool b =>change bz _ _ _ _ _ at bT;subst bT;exact .tj bP rfl λQ E q=>ez q
 |_=>trivial
noncomputable def byValue:b8->Bool
 |.UnaryOp .Not _ _=>ag
 |.BoolOp _ _ _=>ag
 |.IfExp _ _ _ _=>ag
 |.Compare _ _ _ _=>ag
 |_=>af
theorem uL  (h:byValue e=af)(whole:Sem ax):pQ e env whole=(do let v<-whole;standAt e.pos;Bh [v] (pN v)):=by
 induction e using PySem.Expr.casesOn with
 |UnaryOp o a p=>induction o using PySem.UnaryOp.casesOn<;>first|rfl|exact jH h
 |_=>first|rfl|exact jH h
theorem NH {a:X}{pos:Pos}(ha:SX c a ea):SX c (.not a) (.UnaryOp .Not ea pos):=λρ s σ t=>by refine Run.w (Run.seq (W2:=λw ay Q E=>aE (aC c.Z.prog c.Z.w) c.A (unaryOp .Not w) Q E ay) (ha ρ s σ t) λx bj w aH ay bY bP bT=>?_) λQ E h=>wpAny_UnaryOp h;refine Run.bool λb e=>?_;subst e;subst bT;exact .tj bP tZ λQ E q=>not_of (ez q)
theorem N7 {a:X}{pos:Pos}(ha:SB c a ea):SB c (.not a) (.UnaryOp .Not ea pos):=λρ s σ t=>by
 have k:=ha ρ s σ t;have e:(ev G c.Φ c.vs (.not a) c.cs σ).bind fV=((ev G c.Φ c.vs a c.cs σ).bind fV).bind λb σ=>.ok (!b) σ:=by refine(?_:((ev G c.Φ c.vs a c.cs σ).bind _).bind fV=_);rw[R.bind_assoc,R.bind_assoc];congr 1;funext v cD;induction v using V.casesOn<;>rfl
 rw[e];exact Run.w (Run.seq k λb bj b' aH ay bY bP bT=>.tj (b:=!b') (W:=λQ E=>Q (!b') ay) bP (congrArg (!·) bT) λU U q=>q) λQ E h=>wpAny_isTrue_Not h
theorem qx (w:Bool)(x:X)(l:List X)(σ:bp):qT G c.Φ c.vs w (x::l) c.cs σ=((ev G c.Φ c.vs x c.cs σ).bind fV).bind λb σ=>if b=w then qT G c.Φ c.vs w l c.cs σ else .ok (.bool b) σ:=by refine(?_:(ev G c.Φ c.vs x c.cs σ).bind _=_);rw[R.bind_assoc];congr 1;funext v cD;induction v using V.casesOn<;>rfl
theorem Jc (h:e8 (SB c) l es):∀ρ s σ,St c ρ σ s.heap->Run c.Z [] c.X ρ s TB (qT G c.Φ c.vs af l c.cs σ) (λQ E=>aE (aC c.Z.prog c.Z.w) c.A (allTrue .And es c.env) Q E s):=by
 induction h with
 |nil=>intro ρ s σ t;exact .tj t.rel rfl λQ E q=>wpAny_allTrue_And_nil q
 |@cons x e l r ha hb hr ih =>
  intro ρ s σ t;rw[qx];refine Run.w (Run.seq (W2:=λb ay Q E=>if b then aE (aC c.Z.prog c.Z.w) c.A (allTrue .And r c.env) Q E ay else Q ag ay) (ha ρ s σ t) λb bj b' aH ay bY bP e=>?_) λQ E h=>wpAny_allTrue_And_cons h;subst e;induction b with
  |true=>exact ih aH ay bj (t.go bY bP)
  |false=>exact .tj bP rfl λQ E q=>q
theorem Ob (h:e8 (SB c) l es):∀ρ s σ,St c ρ σ s.heap->Run c.Z [] c.X ρ s TB (qT G c.Φ c.vs ag l c.cs σ) (λQ E=>aE (aC c.Z.prog c.Z.w) c.A (allTrue .Or es c.env) Q E s):=by
 induction h with
 |nil=>intro ρ s σ t;exact .tj t.rel rfl λQ E q=>wpAny_allTrue_Or_nil q
 |@cons x e l r ha hb hr ih =>
  intro ρ s σ t;rw[qx];refine Run.w (Run.seq (W2:=λb ay Q E=>if b then Q af ay else aE (aC c.Z.prog c.Z.w) c.A (allTrue .Or r c.env) Q E ay) (ha ρ s σ t) λb bj b' aH ay bY bP e=>?_) λQ E h=>wpAny_allTrue_Or_cons h;subst e;induction b with
  |false=>exact ih aH ay bj (t.go bY bP)
  |true=>exact .tj bP rfl λQ E q=>q
theorem Oa {l:List X}{pos:Pos}(h:e8 (SB c) l es):SB c (.and l) (.BoolOp .And es pos):=λρ s σ t=>by exact Run.w (Jc h ρ s σ t).tb λQ E h=>wpAny_isTrue_BoolOp h
theorem Q3 {l:List X}{pos:Pos}(h:e8 (SB c) l es):SB c (.or l) (.BoolOp .Or es pos):=λρ s σ t=>by exact Run.w (Ob h ρ s σ t).tb λQ E h=>wpAny_isTrue_BoolOp h
theorem uf (op:BoolOp)(pos:Pos)(w:Bool)(hw:w=match op with|.And=>af|.Or=>ag)(h:e8 (SX c) l es)(hl:l≠[]):∀ρ s σ,St c ρ σ s.heap ->
  Run c.Z [] c.X ρ s (TV c.X) (qT G c.Φ c.vs w l c.cs σ) (λQ E=>aE (aC c.Z.prog c.Z.w) c.A (boolOp pos op (mJ es c.env)) Q E s):=by
 induction h with
 |nil=>exact absurd rfl hl
 |@cons x e l r ha hb hr ih =>
  intro ρ s σ t;rw[qx,R.bind_assoc];induction hr with
  |nil =>
   refine Run.w (Run.seq (W2:=λw ay Q E=>Q w ay) (ha ρ s σ t) λv bj u aH ay bY bP e=>?_) λQ E h=>h;induction v using V.casesOn with
   |bool b =>
    refine(?_:Run _ _ _ _ _ _ (if b=w then _ else _) _);refine Run.Zi (λCC=>?_) λCC=>?_
    .obtain rfl:=fb (CC);exact .tj bP e λQ E q=>q
    .exact .tj bP e λQ E q=>q
   |_=>trivial
  |@cons x2 e2 l2 r2 ha2 Ee hr2 =>
   refine Run.w (Run.seq (W2:=λw ay Q E=>aE (aC c.Z.prog c.Z.w) c.A (pN w) (λb bH=>if b=(match op with|.And=>af|.Or=>ag)then aE (aC c.Z.prog c.Z.w) c.A (boolOp pos op (mJ (e2::r2) c.env)) Q E bH else Q w bH) E ay) (ha ρ s σ t) λv bj u aH ay bY bP e=>?_) λQ E h=>?_
   .induction v using V.casesOn with
    |bool b =>
     subst e;refine(?_:Run _ _ _ _ _ _ (if b=w then _ else _) _);refine Run.Zi (λCC=>?_) λCC=>?_
     .exact Run.w (ih (by simp) aH ay bj (t.go bY bP)) λQ E h=>ez (by rw[if_pos (CC.trans hw)];exact h)
     .exact .tj bP tZ λQ E q=>ez (by rw[if_neg λz=>CC (z.trans hw.symm)];exact q)
    |_=>trivial
   .refine(?_:aE _ _ (boolOp pos op (eval e c.env::eval e2 c.env::mJ r2 c.env)) _ _ _);refine aq (bo h (λv ay h₁=>aq (bR (aq (bC (bo h₁ (λb bH fj=>?_) λU U x=>x))))) λU U x=>x);induction op using PySem.BoolOp.casesOn<;>induction b<;>first|exact fj|exact aW fj
theorem NT {l:List X}{pos:Pos}(h:e8 (SX c) l es)(hl:l≠[]):SX c (.and l) (.BoolOp .And es pos):=λρ s σ t=>by exact Run.w (uf .And pos af rfl h hl ρ s σ t) λQ E h=>by rw[arm_eval_BoolOp];exact h
theorem QR {l:List X}{pos:Pos}(h:e8 (SX c) l es)(hl:l≠[]):SX c (.or l) (.BoolOp .Or es pos):=λρ s σ t=>by exact Run.w (uf .Or pos ag rfl h hl ρ s σ t) λQ E h=>by rw[arm_eval_BoolOp];exact h
theorem Ht (t a b:X)(σ:bp):ev G c.Φ c.vs (.ite t a b) c.cs σ=((ev G c.Φ c.vs t c.cs σ).bind fV).bind λx σ=>if x then ev G c.Φ c.vs a c.cs σ else ev G c.Φ c.vs b c.cs σ:=by
 refine(?_:(ev G c.Φ c.vs t c.cs σ).bind _=_);rw[R.bind_assoc];congr 1;funext v cD;induction v using V.casesOn with
 |bool b=>induction b<;>rfl
 |_=>rfl
theorem NL {t a b:X}{pos:Pos}(ht:SB c t et)(ha:SX c a ea)(hb:SX c b eb):SX c (.ite t a b) (.IfExp et ea eb pos):=λρ s σ t=>by
 rw[Ht];refine Run.w (Run.seq (W2:=λb ay Q E=>if b then aE (aC c.Z.prog c.Z.w) c.A (eval ea c.env) Q E ay else aE (aC c.Z.prog c.Z.w) c.A (eval eb c.env) Q E ay) (ht ρ s σ t) λb bj b' aH ay bY bP e=>?_) λQ E h=>wpAny_IfExp h;subst e;induction b with
 |true=>exact ha aH ay bj (t.go bY bP)
 |false=>exact hb aH ay bj (t.go bY bP)
theorem N8 {t a b:X}{pos:Pos}(ht:SB c t et)(ha:SB c a ea)(hb:SB c b eb):SB c (.ite t a b) (.IfExp et ea eb pos):=λρ s σ t=>by
 rw[Ht,R.bind_assoc];refine Run.w (Run.seq (W2:=λb ay Q E=>if b then aE (aC c.Z.prog c.Z.w) c.A (pQ ea c.env (eval ea c.env)) Q E ay else aE (aC c.Z.prog c.Z.w) c.A (pQ eb c.env (eval eb c.env)) Q E ay) (ht ρ s σ t) λb bj b' aH ay bY bP e=>?_) λQ E h=>?_
 .subst e;induction b with
  |true=>exact ha aH ay bj (t.go bY bP)
  |false=>exact hb aH ay bj (t.go bY bP)
 .rw[arm_isTrue_IfExp];exact aq (bo h (λb ay h₁=>ig h₁) λU U x=>x)
end
end Internal
end
noncomputable section
open PySem PySem.W PyProof.Rows PySem.SeqAt PySem.Calls
namespace Internal
variable {OK:bV->Prop}{use:Option (ax->Sem Unit)}{w1 w2:ax}{key:cM}{keys:List (Option b8)}{Rr:sD->av->Prop}{Γ:Ctx}{fn:Fn}{tf:V->Option Bool}{te:V->Option V}{os:jy}{id:String}{is:List Nat}{acE left ab:Bool}{dd:Option aJ}{col:Option Bool}{k0 k1 k2 k3 k5:Option ax}{L:Nat->Nat->Vs->bp->RS}{name nm:Str}{ts:List TA}{body eb:List iM}{M:Model}{arr out:Array cM}{hint x' base ia na nb lo B:Nat}{fd:ie}{ct sn vt ns:List Str}{vals lv cs:List V}{scope:xg}{bs sub ws:List ax}{d:Drawn}{X':List aJ}{env:Env}{prog:BA}{Z:ng}{g:Array GenState}{ay s':av}{mq es:List b8}{ta fB Da it C N:aJ}{A:mR}{mN mb mg:Str->Option ax}{P:cM->Prop}{ζ ν ε KZ KY γ δ K:Type}{kc:K->Const}{kv:K->Tok->ax}{T':List Pl->bV->KZ->KY->Prop}{k4 vs:Vs}{l:List Env}{DN px ap np pos p:Pos}{cD σ:bp}{k:IK}{aH bJ ρ:List Pl}{ei elt et iter eo ea e:b8}{h₁ h₀ h' h:bV}
theorem jt {P:X->b8->Prop}{xs:List X}(h:e8 P xs es):(mL pos (gG es env)).any (·.1)=ag:=by
 induction h with
 |nil=>rfl
 |cons a b _ ih=>rw[fL b];exact ih
theorem mz {P:X->b8->Prop}{E:ax->av->Prop}{s:av}{f:ax}{xs:List X}{Q:Args->av->Prop}(h:e8 P xs es)
  (q:aE M A (sL (mL pos (gG es env))) (λvs s'=>Q ⟨vs,[]⟩ s') E s):aE M A (evalArgs f af (mL pos (gG es env)) []) Q E s:=by
 induction h with
 |nil=>unfold evalArgs;exact aq (bo q (λvs s' h=>bC (aq (aW (aq (aW (aW h)))))) λU U x=>x)
 |cons a b h' =>rw[fL b]at q ⊢;exact evalArgs_plain q
section
variable {c:Cx}
theorem tx (D:Ok c mg mb){x:Str}(hx:(x,Value.builtin id)∈gS)(hk:c.env.kindOf x=aa .globalImplicit)(hd:(x==("__debug__" : Str))=ag){P:X->b8->Prop}{xs:List X}(h:e8 P xs es){s:av}
  (t:St c ρ σ s.heap){Q:ax->av->Prop}{E:ax->av->Prop}
  (q:aE (aC c.Z.prog c.Z.w) c.A (sL (mL pos (gG es c.env))) (λvs ay=>aE (aC c.Z.prog c.Z.w) c.A (call (.builtin id) vs) Q E ay) E s):aE (aC c.Z.prog c.Z.w) c.A (eval (.Call (.Name x np) es [] pos) c.env) Q E s:=by
 obtain⟨h1,h2⟩:=D.zR.bi _ _ hx;exact jV (pF D.zR t hk hd h1 h2 (m9 (jt h) (mz h q)))
theorem qE (D:Ok c mg mb){x:Str}{T:String}(hx:(x,xf T)∈gS)(hk:c.env.kindOf x=aa .globalImplicit)(hd:(x==("__debug__" : Str))=ag){P:X->b8->Prop}{xs:List X}(h:e8 P xs es){s:av}
  (t:St c ρ σ s.heap){Q:ax->av->Prop}{E:ax->av->Prop}
  (q:aE (aC c.Z.prog c.Z.w) c.A (sL (mL pos (gG es c.env))) (λvs ay=>aE (aC c.Z.prog c.Z.w) c.A (call (.type T) vs) Q E ay) E s):aE (aC c.Z.prog c.Z.w) c.A (eval (.Call (.Name x np) es [] pos) c.env) Q E s:=by
 obtain⟨h1,h2⟩:=D.zR.bi _ _ hx;exact jV (pF D.zR t hk hd h1 h2 (PyProof.Rows.callWith_type (jt h) (mz h q)))
theorem k7 {a:X}(h:SX c a ea)(hs:noStar ea=af)(pos:Pos){s:av}(t:St c ρ σ s.heap) :
  Run c.Z [] c.X ρ s (λρ h v ws=>∃w,ws=[w]/\bz ρ c.X h v w) (ev G c.Φ c.vs a c.cs σ) (λQ E=>aE (aC c.Z.prog c.Z.w) c.A (sL (mL pos (gG [ea] c.env))) Q E s) :=
 Run.imp (h ρ s σ t) (λw=>[w]) (λρ h v w r=>⟨w,rfl,r⟩) λQ E q=>eQ (bo q (λv ay h₁=>hU h₁) λU U x=>x) (fL hs)
theorem B4 {a b:X}{eb:b8}(ha:SX c a ea)(hb:SX c b eb)(hs:noStar ea=af)(sP:noStar eb=af)(pos:Pos){s:av}(t:St c ρ σ s.heap) :
  Run c.Z [] c.X ρ s (λρ h v ws=>∃w w',ws=[w,w']/\bz ρ c.X h v.1 w/\bz ρ c.X h v.2 w') ((ev G c.Φ c.vs a c.cs σ).bind λx σ=>(ev G c.Φ c.vs b c.cs σ).bind λy σ=>.ok (x,y) σ) (λQ E=>aE (aC c.Z.prog c.Z.w) c.A (sL (mL pos (gG [ea,eb] c.env))) Q E s):=by
 refine Run.w (Run.seq (ha ρ s σ t) λx bj w aH ay bY bP bT=>Run.seq (W2:=λw' bH Q E=>Q [w,w'] bH) (hb aH ay bj (t.go bY bP)) λy gz w' fT bH fN fO f7=>.tj fO ⟨w,w',rfl,fN.v bT,f7⟩ λQ E q=>q) λQ E h=>?_;exact eQ (bo h (λv ay h₁=>eQ (bo h₁ (λv ay h₁=>hU h₁) λU U x=>x) (fL sP)) λU U x=>x) (fL hs)
theorem NK (D:Ok c mg mb){a:X}(ha:SX c a ea)(hs:noStar ea=af)(hk:c.env.kindOf (st "len")=aa .globalImplicit):SX c (.len a) (.Call (.Name (st "len") np) [ea] [] pos):=λρ s σ t=>by refine Run.w (Run.seq (W2:=λws ay Q E=>aE (aC c.Z.prog c.Z.w) c.A (call (.builtin "len") ws) Q E ay) (k7 ha hs pos t) λx bj ws aH ay bY bP bT=>?_) λQ E h=>tx D (by simp[gS]) hk (by decide) (.cons ha hs .nil) t h;obtain⟨w,rfl,bT⟩:=bT;refine Run.Jq λl hl=>?_;refine Run.ite λQq=>?_;exact λQ E q=>Gp bP hl Qq bT λt t'=>q _ aH _ .tok bP mU
theorem NU (D:Ok c mg mb){a:X}(ha:SX c a ea)(hs:noStar ea=af)(hk:c.env.kindOf (st "abs")=aa .globalImplicit):SX c (.abs a) (.Call (.Name (st "abs") np) [ea] [] pos):=λρ s σ t=>by refine Run.w (Run.seq (W2:=λws ay Q E=>aE (aC c.Z.prog c.Z.w) c.A (call (.builtin "abs") ws) Q E ay) (k7 ha hs pos t) λx bj ws aH ay bY bP bT=>?_) λQ E h=>tx D (by simp[gS]) hk (by decide) (.cons ha hs .nil) t h;obtain⟨w,rfl,bT⟩:=bT;refine Run.int λi e=>?_;subst e;obtain⟨u,rfl⟩:=bT;exact λQ E q=>HS λt t'=>q _ aH _ .tok bP mU
theorem EP (D:Ok c mg mb){a:X}(ha:SX c a ea)(hs:noStar ea=af)(hk:c.env.kindOf (st "int")=aa .globalImplicit):SX c (.k6 a) (.Call (.Name (st "int") np) [ea] [] pos):=λρ s σ t=>by refine Run.w (Run.seq (W2:=λws ay Q E=>aE (aC c.Z.prog c.Z.w) c.A (call (.type "int") ws) Q E ay) (k7 ha hs pos t) λx bj ws aH ay bY bP bT=>?_) λQ E h=>qE D (by simp[gS]) hk (by decide) (.cons ha hs .nil) t h;obtain⟨w,rfl,bT⟩:=bT;exact run_get λv hv=>λQ E q=>AK hv bT λw t r=>q _ aH _ .tok bP r
theorem Di (D:Ok c mg mb){a:X}(ha:SX c a ea)(hs:noStar ea=af)(hk:c.env.kindOf (st "list")=aa .globalImplicit):SX c (.tolist a) (.Call (.Name (st "list") np) [ea] [] pos):=λρ s σ t=>by refine Run.w (Run.seq (W2:=λws ay Q E=>aE (aC c.Z.prog c.Z.w) c.A (call (.type "list") ws) Q E ay) (k7 ha hs pos t) λx bj ws aH ay bY bP bT=>?_) λQ E h=>qE D (by simp[gS]) hk (by decide) (.cons ha hs .nil) t h;obtain⟨w,rfl,bT⟩:=bT;refine Run.tup λl e=>?_;subst e;exact AP bP bT
noncomputable def t8 (t:Nat):String:=if t=0 then "int" else if t=1 then "bool" else "str"
theorem NM (D:Ok c mg mb){t:Nat}{x:Str}{a:X}{tp:Pos}(ha:SX c a ea)(hs:noStar ea=af)(hk:c.env.kindOf (st "isinstance")=aa .globalImplicit)(hx:(x,xf (t8 t))∈gS)(hkx:c.env.kindOf x=aa .globalImplicit)(hd:(x==("__debug__" : Str))=ag) :
  SX c (.Ak t a) (.Call (.Name (st "isinstance") np) [ea,.Name x tp] [] pos):=λρ s σ t'=>by
 refine Run.w (Run.seq (W2:=λw ay Q E=>aE (aC c.Z.prog c.Z.w) c.A (eval (.Name x tp) c.env) (λu bH=>aE (aC c.Z.prog c.Z.w) c.A (call (.builtin "isinstance") [w,u]) Q E bH) E ay) (ha ρ s σ t') λv bj w aH ay bY bP bT=>?_)
  λQ E h=>tx D (by simp[gS]) hk (by decide) (P:=λU U=>True) (.cons (x:=a) trivial hs (.cons (x:=a) trivial rfl .nil)) t' (eQ (bo h (λv ay h₁=>eQ (bo h₁ (λv ay h₁=>hU h₁) λU U x=>x) rfl) λU U x=>x) (fL hs))
 obtain⟨h1,h2⟩:=D.zR.bi _ _ hx;refine Run.Om λb hb=>?_;exact λQ E q=>pF D.zR (t'.go bY bP) hkx hd h1 h2 (GC hb bT λt=>q _ aH _ .tok bP tZ)
theorem IJ (D:Ok c mg mb){f:Nat}{a:aJ}{x:Str}{xs:List X}(hf:rz[f]?=aa x)(ha:c.Z.fa[f]?=aa a)(h0:f≠0)(hk:c.env.kindOf x=aa .globalImplicit)(hd:(x==("__debug__" : Str))=ag)(h:e8 (SX c) xs es) :
  SX c (.call f xs) (.Call (.Name x np) es [] pos):=λρ s σ t=>by
 refine Ea (D.zR.fo f a ha) λo fd ho hfd=>?_;refine Run.w (Run.seq (W2:=λws ay Q E=>ay.heap.get? a=aa o/\aE (aC c.Z.prog c.Z.w) c.A (call (.ref a) ws) Q E ay) (td h pos ρ s σ t) λl bj ws aH ay bY bP bT=>?_) λQ E q=>?_
 .have eU:=t.go bY bP;exact Run.w (D.call c.X f a ha aH ay bj l ws bP eU.oq bT) λQ E q=>⟨bP.keep _ _ ho,pM q⟩
 .exact jV (lP D.zR t hk hd (D.zR.fn f x a hf ha h0) (Calls.callWith_function (o:=o) (mz h (bo q (λvs ay h₁=>⟨⟨h₁.1,hfd⟩,h₁.2⟩) λU U x=>x))))
theorem call_meth {x:Str}{T:String}(pa:PlainAttrs T)(slot:Slot T x id)(hty:typeOf (.builtin id)=pure (.type "method_descriptor")){o:b8}{P:X->b8->Prop}{xs:List X}(h:e8 P xs es)(hn:gb o=af)(hl:(ap.endLine==pos.line)=af)(hlen:es.length<30)
  {s:av}{Q:ax->av->Prop}{E:ax->av->Prop}
  (q:aE (aC c.Z.prog c.Z.w) c.A (eval o c.env) (λv ay=>(ay.TypeIs v T/\∀a,v=.ref a->∃ob,ay.heap.get? a=aa ob/\ob.dict=ae) /\
   aE (aC c.Z.prog c.Z.w) c.A (sL (mL pos (gG es c.env))) (λvs bH=>aE (aC c.Z.prog c.Z.w) c.A (call (.builtin id) (v::vs)) Q E bH) E ay) E s) :
  aE (aC c.Z.prog c.Z.w) c.A (eval (.Call (.Attribute o x ap) es [] pos) c.env) Q E s:=by
 refine wpAny_Call_method_late (iy hn) ?_ hl rfl (bo q (λv ay h₁=>⟨T,id,pa,slot,hty,h₁.1.1,h₁.1.2,m9 (jt h) (mz h h₁.2)⟩) λU U x=>x);have e:(mL pos (gG es c.env)).all (λx=>!x.1)=af:=by have:=jt (pos:=pos) (env:=c.env) h;rw[List.any_eq_false]at this;rw[bI];intro y hy;simpa using this y hy
 rw[e];rw[show keywordEach [] c.env=[]from rfl];simp[hlen,backToKw]
theorem bz.wG  {s:av}{n:Nat}{l:List V}{a:ax}(R:Rel c.Z ρ c.X σ s.heap)(r:bz ρ c.X s.heap (.loc n) a)(h:σ[n]?=aa (.list l)):s.TypeIs a "list"/\∀b,a=.ref b->∃ob,s.heap.get? b=aa ob/\ob.dict=ae:=by(refine dB r λp hp z1=>?_;try clear r;subst z1);obtain⟨_,vs,⟨k,e⟩,q1⟩:=R.obj n p _ hp h;exact⟨⟨_,e,rfl⟩,λb hb=>by obtain rfl:=l6 hb;exact⟨_,e,rfl⟩⟩
theorem bz.frozen {s:av}{l:List V}{a:ax}(r:bz ρ c.X s.heap (.lst l) a):s.TypeIs a "list"/\∀b,a=.ref b->∃ob,s.heap.get? b=aa ob/\ob.dict=ae:=by(refine wH r λp vs z1 U U z2 q1=>?_;try clear r;subst z1;obtain⟨k,e⟩:=z2);exact⟨⟨_,e,rfl⟩,λb hb=>by obtain rfl:=l6 hb;exact⟨_,e,rfl⟩⟩
end
section
variable {c:Cx}
theorem Bb {x:V}(h:uM σ x=af):∃n l,x=.loc n/\σ[n]?=aa (.list l):=by
 induction x using V.casesOn with
 |loc n =>
  change (match σ[n]? with
  |some (.list _)=>af
  |_=>ag)=af at h
  rcases e:σ[n]? with _|o
  .rw[e]at h;exact jH h
  .rw[e]at h;induction o with
   |list l=>exact⟨n,l,rfl,e⟩
   |_=>exact jH h
 |_=>exact jH h
theorem OI {x:V}(h:isD σ x=af):∃n l,x=.loc n/\σ[n]?=aa (.cH l):=by
 induction x using V.casesOn with
 |loc n =>
  change (match σ[n]? with
  |some (.cH _)=>af
  |_=>ag)=af at h
  rcases e:σ[n]? with _|o
  .rw[e]at h;exact jH h
  .rw[e]at h;induction o with
   |cH l=>exact⟨n,l,rfl,e⟩
   |_=>exact jH h
 |_=>exact jH h
theorem lL {x:Str}{Ty:String}(pa:PlainAttrs Ty)(slot:Slot Ty x id)(hty:typeOf (.builtin id)=pure (.type "method_descriptor")){o a:X}(ho:SX c o eo)(ha:SX c a ea)(hs:noStar ea=af)(hn:gb eo=af)
  (hl:(ap.endLine==pos.line)=af){ok:bp->V->Bool}{f:V->V->bp->R V}(GQ:∀(ρ:List Pl) (σ:bp) (s:av) (v:V) (w:ax),Rel c.Z ρ c.X σ s.heap->bz ρ c.X s.heap v w->ok σ v=af->s.TypeIs w Ty/\∀b,w=.ref b->∃ob,s.heap.get? b=aa ob/\ob.dict=ae)
  (hf:∀(ρ:List Pl) (σ:bp) (s:av) (v:V) (w:ax) (u:V) (y:ax),Rel c.Z ρ c.X σ s.heap->bz ρ c.X s.heap v w->bz ρ c.X s.heap u y->Run c.Z [] c.X ρ s (TV c.X) (f v u σ) (λQ E=>aE (aC c.Z.prog c.Z.w) c.A (call (.builtin id) [w,y]) Q E s)) :
  ∀ρ s σ,St c ρ σ s.heap->Run c.Z [] c.X ρ s (TV c.X) ((ev G c.Φ c.vs o c.cs σ).bind λx σ=>if ok σ x then(ev G c.Φ c.vs a c.cs σ).bind λy σ=>f x y σ else .bad)
   (λQ E=>aE (aC c.Z.prog c.Z.w) c.A (eval (.Call (.Attribute eo x ap) [ea] [] pos) c.env) Q E s):=λρ s σ t=>by
 refine Run.w (Run.seq (W2:=λw ay Q E=>(ay.TypeIs w Ty/\∀b,w=.ref b->∃ob,ay.heap.get? b=aa ob/\ob.dict=ae)/\aE (aC c.Z.prog c.Z.w) c.A (sL (mL pos (gG [ea] c.env))) (λvs bH=>aE (aC c.Z.prog c.Z.w) c.A (call (.builtin id) (w::vs)) Q E bH) E ay)
  (ho ρ s σ t) λv bj w aH ay bY bP bT=>?_) λQ E h=>call_meth pa slot hty (P:=λU U=>True) (.cons (x:=a) trivial hs .nil) hn hl (by simp) h
 refine Run.ite λhk=>?_
 .refine Run.w (Run.seq (W2:=λws bH Q E=>aE (aC c.Z.prog c.Z.w) c.A (call (.builtin id) (w::ws)) Q E bH) (k7 ha hs pos (t.go bY bP)) λu gz ws fT bH fN fO f7=>?_) λQ E h=>⟨GQ aH bj ay v w bP bT hk,h⟩;obtain⟨y,rfl,f7⟩:=f7;exact hf fT gz bH v w u y fO (fN.v bT) f7
theorem xX (ρ:List Pl)(σ:bp)(s:av)(v:V)(w:ax)(R:Rel c.Z ρ c.X σ s.heap)(r:bz ρ c.X s.heap v w)(h:uM σ v=af):s.TypeIs w "list"/\∀b,w=.ref b->∃ob,s.heap.get? b=aa ob/\ob.dict=ae:=by(refine Ea (Bb h) λn l z1 e=>?_;subst z1);exact bz.wG R r e
theorem Kn (ρ:List Pl)(σ:bp)(s:av)(v:V)(w:ax)(R:Rel c.Z ρ c.X σ s.heap)(r:bz ρ c.X s.heap v w)(h:isD σ v=af):s.TypeIs w "dict"/\∀b,w=.ref b->∃ob,s.heap.get? b=aa ob/\ob.dict=ae:=by(refine Ea (OI h) λn l z1 e=>?_;subst z1);(refine dB r λp hp z1=>?_;subst z1);obtain⟨_,lI,⟨lo,es,ep,h1,h2,h3⟩,q1⟩:=R.obj n p _ hp e;exact⟨⟨_,h1,h2.1⟩,λb hb=>by obtain rfl:=l6 hb;exact⟨_,h1,h2.2.1⟩⟩
theorem NS {o a:X}(ho:SX c o eo)(ha:SX c a ea)(hs:noStar ea=af)(hn:gb eo=af)(hl:(ap.endLine==pos.line)=af):SX c (.app o a) (.Call (.Attribute eo (st "append") ap) [ea] [] pos):=λρ s σ t=>by
 refine lL jN F.slot_list_append F.type_list_append ho ha hs hn hl xX (f:=λx y σ=>match x with
  |.loc n=>match σ[n]? with
   |some (.list l)=>if l.length<lim then .ok .none (σ.set n (.list (l++[y])))else .bad
   |_=>.bad
  |_=>.bad) (λρ σ s v w u y R r r'=>?_) ρ s σ t
 refine Run.loc λn e=>Run.lst λl h=>Run.ite λhlen=>?_;subst e;exact λQ E q=>HQ R h hlen r r' λh' R' g=>q .none ρ {s with heap:=h'} ⟨g,h',s.toks,rfl⟩ R' tY
theorem NO {o a:X}(ho:SX c o eo)(ha:SX c a ea)(hs:noStar ea=af)(hn:gb eo=af)(hl:(ap.endLine==pos.line)=af):SX c (.ext o a) (.Call (.Attribute eo (st "extend") ap) [ea] [] pos):=λρ s σ t=>by
 refine lL jN F.slot_list_extend F.type_list_extend ho ha hs hn hl xX (f:=λx y σ=>match x,y with
  |.loc n,.lst r=>match σ[n]? with
   |some (.list l)=>if l.length+r.length<lim then .ok .none (σ.set n (.list (l++r)))else .bad
   |_=>.bad
  |_,_=>.bad) (λρ σ s v w u y R r r'=>?_) ρ s σ t
 refine Run.acp λn l e1 e2=>Run.lst λl h=>Run.ite λhlen=>?_;subst e1 e2;exact λQ E q=>Hf R h hlen r r' λh' R' g=>q .none ρ {s with heap:=h'} ⟨g,h',s.toks,rfl⟩ R' tY
theorem IC {o a:X}(ho:SX c o eo)(ha:SX c a ea)(hs:noStar ea=af)(hn:gb eo=af)(hl:(ap.endLine==pos.line)=af):SX c (.um o a) (.Call (.Attribute eo (st "pop") ap) [ea] [] pos):=λρ s σ t=>by
 refine lL jN pJ F.type_list_pop ho ha hs hn hl xX (f:=λx y σ=>match x,y with
  |.loc n,.int i=>match σ[n]? with
   |some (.list l)=>match l[i.toNat]? with
    |some y=>if l.length<lim/\0<=i then .ok y (σ.set n (.list (l.eraseIdx i.toNat)))else .bad
    |none=>.bad
   |_=>.bad
  |_,_=>.bad) (λρ σ s v w u y R r r'=>?_) ρ s σ t
 refine Run.Za λn i e1 e2=>Run.lst λl h=>?_;refine Run.opt λy hv=>?_;refine Run.ite λhlen=>?_;subst e1 e2;obtain⟨u',rfl⟩:=r';exact λQ E q=>Dt R h hlen.1 hlen.2 hv r λh' w R' g r'=>q w ρ {s with heap:=h'} ⟨g,h',s.toks,rfl⟩ R' r'
theorem IE (D:Ok c mg mb){o a:X}(ho:SX c o eo)(ha:SX c a ea)(hs:noStar ea=af)(hn:gb eo=af)(hl:(ap.endLine==pos.line)=af):SX c (.zV o a) (.Call (.Attribute eo (st "get") ap) [ea] [] pos):=λρ s σ t=>by
 refine lL F.plainAttrs_dict F.slot_dict_get F.type_dict_get ho ha hs hn hl Kn (f:=λx y σ=>match x,y with
  |.loc n,.int i=>match σ[n]? with
   |some (.cH l)=>.ok ((j2 l i).getD .none) σ
   |_=>.bad
  |_,_=>.bad) (λρ σ s v w u y R r r'=>?_) ρ s σ t
 refine Run.Za λn i e1 e2=>Run.dic λl h=>?_;subst e1 e2;obtain⟨u',rfl⟩:=r';(refine dB r λp hp z1=>?_;subst z1);obtain⟨_,lI,t1,q1⟩:=R.obj _ p _ hp h;have hd:=R.AZ D.z (aN hp);refine λQ E q=>call_meetsIn F.slot_dict_get t1.mapOf.typeIs F.entry_dict_get (F.args_dict_get_2 _ _) (meets_dict_get (intKind c.Z.prog c.Z.w) p.a (pR _ _ _ _) hd) ⟨_,t1.mapOf,show Q _ _ from ?_⟩;have e:=fq.at (k:=i) q1;rw[<- mu]at e;induction hg:j2 l i with
 |none =>rw[hg]at e;rw[hg]at q;rw[e];exact q .none ρ _ .tok R tY
 |some v =>rw[hg]at e;rw[hg]at q;(refine dB e λw hw r=>?_;try clear e);rw[hw];exact q w ρ _ .tok R r
theorem EU {o a:X}(ho:SX c o eo)(ha:SX c a ea)(hs:noStar ea=af)(hn:gb eo=af)(hl:(ap.endLine==pos.line)=af):SX c (.index o a) (.Call (.Attribute eo (st "index") ap) [ea] [] pos):=λρ s σ t=>by
 refine lL jN F.slot_list_index F.type_list_index ho ha hs hn hl (ok:=λU v=>isF v) (λρ σ s v w R r h=>by
   induction v using V.casesOn with
   |lst l=>exact bz.frozen r
   |_=>exact jH h) (f:=λx y σ=>match x,y with
  |.lst l,.str q=>match findS q l with
   |some (aa j)=>if l.length<lim then .ok (.int j) σ else .bad
   |_=>.bad
  |_,_=>.bad) (λρ σ s v w u y R r r'=>?_) ρ s σ t
 refine Run.aco λl q e1 e2=>?_;subst e1 e2;obtain⟨u',rfl⟩:=r';refine Run.ace λj h=>?_;refine Run.ite λhlen=>?_;exact λQ E q=>Bc h hlen r λt t'=>q _ ρ _ .tok R mU
theorem NG {o:X}(ho:SX c o eo)(hn:gb eo=af)(hl:(ap.endLine==pos.line)=af):SX c (.pop o) (.Call (.Attribute eo (st "pop") ap) [] [] pos):=λρ s σ t=>by
 refine Run.w (Run.seq (W2:=λw ay Q E=>(ay.TypeIs w "list"/\∀b,w=.ref b->∃ob,ay.heap.get? b=aa ob/\ob.dict=ae)/\aE (aC c.Z.prog c.Z.w) c.A (call (.builtin "list.pop") [w]) Q E ay)
  (ho ρ s σ t) λv bj w aH ay bY bP bT=>?_) λQ E h=>call_meth jN pJ F.type_list_pop (P:=λU U=>True) .nil hn hl (by simp) (bo h (λv ay h₁=>⟨h₁.1,hU h₁.2⟩) λU U x=>x)
 refine Run.loc λn e=>Run.lst λl h=>?_;refine Run.opt λy hv=>?_;refine Run.ite λhlen=>?_;subst e;exact λQ E q=>⟨bz.wG bP bT h,FY bP h hlen hv bT λh' w R' g r'=>q w aH {ay with heap:=h'} ⟨g,h',ay.toks,rfl⟩ R' r'⟩
theorem ER {o:X}{sep:Str}{k:Nat}(ho:SX c o eo)(hn:gb eo=af)(hl:(ap.endLine==pos.line)=af):SX c (.split o sep) (.Call (.Attribute eo (st "split") ap) [.Constant (.str sep) k p] [] pos):=λρ s σ t=>by
 refine Run.w (Run.seq (W2:=λw ay Q E=>(ay.TypeIs w "str"/\∀b,w=.ref b->∃ob,ay.heap.get? b=aa ob/\ob.dict=ae)/\aE (aC c.Z.prog c.Z.w) c.A (call (.builtin "str.split") [w,.str sep ay.toks]) Q E {ay with toks:=ay.toks+1})
  (ho ρ s σ t) λv bj w aH ay bY bP bT=>?_) λQ E h=>call_meth F.plainAttrs_str oB F.type_str_split (P:=λU U=>True) (.cons (x:=o) trivial rfl .nil) hn hl (by simp) (bo h (λv ay h₁=>⟨h₁.1,eQ (vu (hU h₁.2)) rfl⟩) λU U x=>x)
 refine Run.Jq λl hv=>?_
 .have hs:∃x,v=.str x:=by
   induction v using V.casesOn with
   |str=>exact⟨_,rfl⟩
   |_=>exact fv hv
  obtain⟨x,rfl⟩:=hs;have f7:bz aH c.X ay.heap (.str x) w:=bT;obtain⟨u,rfl⟩:=f7;exact Run.later (ay:={ay with toks:=ay.toks+1}) .tok (Run.w (Dq (s:={ay with toks:=ay.toks+1}) bP hv AH) λQ E q=>⟨⟨vv _ _ _,λb hb=>nomatch hb⟩,q⟩)
end
theorem xI [DecidableEq K]{lI:List (K×ax)}(k:K)(v:ax)(h:(lI.map (·.1)).Nodup):((pO lI k v).map (·.1)).Nodup:=by
 delta pO
 split
 .have:(lI.map λkv=>if kv.1=k then(kv.1,v)else kv).map (·.1)=lI.map (·.1):=by rw[s6];exact Ej λa U=>by dsimp only[Function.comp];split<;>simp_all
  first|(rw[this];exact h)|skip
 .rename_i hn
  rw[bM,List.nodup_append];refine⟨h,by simp,λa ha b hb=>?_⟩;simp only[eM,sZ,au]at hb;subst hb;rintro rfl;apply hn;refine dB (bX.mp ha) λx hx e=>?_;simp only[mZ,decide_eq_true_eq];exact⟨x,hx,e⟩
theorem fq.fold {K:Type}[DecidableEq K]{X:List aJ}{ρ:List Pl}{h:bV}(put:List (K×V)->K->V->List (K×V))(h0:∀k v,put [] k v=[(k,v)])(h1:∀j u r k v,put ((j,u)::r) k v=if j=k then(j,v)::r else(j,u)::put r k v) :
  ∀(ks:List K) (vs:List V) (ws:List ax) (acc:List (K×V)) (aw:List (K×ax)),ks.length=vs.length->bt ρ X h vs ws->fq ρ X h acc aw->(aw.map (·.1)).Nodup ->
  fq ρ X h ((ks.zip vs).foldl (λd kv=>put d kv.1 kv.2) acc) (merged aw (ks.zip ws))
 |[],vs=>λws acc aw U U r U=>by simpa[merged]using r
 |k::ks,[]=>λU U U e U U U=>by cases e
 |k::ks,v::vs=>λws acc aw e rs r hn=>by(refine mI rs.jq λw t z1 a b=>?_;subst z1);have:=fq.fold put h0 h1 ks vs t (put acc k v) (pO aw k w) (by simpa using e) b (fq.store a r hn (λd=>put d k v) (h0 k v) λj u r=>h1 j u r k v) (xI k w hn);simpa[merged]using this
inductive rH {K:Type}(kc:K->Const):List K->List (Option b8)->Prop where
 |nil:rH kc [] []
 |cons {k:K} {n:Nat} {p:Pos} {ks:List K} {es:List (Option b8)}:rH kc ks es->rH kc (k::ks) (aa (.Constant (kc k) n p)::es)
theorem rH.all  {ks:List K}{es:List (Option b8)}(h:rH kc ks es):es.all (·.isSome)=af/\es.length=ks.length:=by
 induction h with
 |nil=>exact⟨rfl,rfl⟩
 |cons _ ih=>exact⟨by simpa using ih.1,by simpa using ih.2⟩
section
variable {c:Cx}
theorem Ds [DecidableEq K](knd:KeyKind c.Z.prog c.Z.w K)(hkv:∀k t,knd.is k (kv k t)=af)
  (hke:∀k n p s (Q:ax->av->Prop) (E:ax->av->Prop),Q (kv k s.toks) {s with toks:=s.toks+1}->aE (aC c.Z.prog c.Z.w) c.A (eval (.Constant (kc k) n p) c.env) Q E s)(pos:Pos)
  {ks:List K}(hk:rH kc ks keys):∀ {xs:List X} {es:List b8},e8 (SX c) xs es->es.length=ks.length->∀ρ s σ,St c ρ σ s.heap ->
  Run c.Z [] c.X ρ s (λρ h vs Af=>∃ws,bt ρ c.X h vs ws/\Carries knd Af (ks.zip ws)/\ws.length=ks.length) (CF G c.Φ c.vs xs c.cs σ) (λQ E=>aE (aC c.Z.prog c.Z.w) c.A (evalPairs (pairTrees keys es c.env pos)) Q E s):=by
 induction hk with
 |nil =>
  intro xs es h hl ρ s σ t;induction h with
  |nil=>exact .tj t.rel ⟨[],.nil,(by exact trivial),rfl⟩ λQ E q=>pairTrees_nil_walk q
  |cons=>cases hl
 |@cons k n p ks keys hk ih =>
  intro xs es h hl ρ s σ t;induction h with
  |nil=>cases hl
  |@cons x e l r ha hb hr =>
   refine Run.later (ay:={s with toks:=s.toks+1}) .tok (Run.w (Run.seq (W2:=λw ay Q E=>aE (aC c.Z.prog c.Z.w) c.A (evalPairs (pairTrees keys r c.env pos)) (λAf bH=>Q ((kv k s.toks,w)::Af) bH) E ay) (ha ρ {s with toks:=s.toks+1} σ t) λv bj w aH ay bY bP bT=>?_)
    λQ E q=>pairTrees_cons_walk (hke k n p s _ _ q))
   refine Run.w (Run.seq (W2:=λAf bH Q E=>Q ((kv k s.toks,w)::Af) bH) (ih hr (by simpa using hl) aH ay bj (St.go (s:={s with toks:=s.toks+1}) t bY bP)) λvs gz Af fT bH fN fO f7=>?_) λQ E h=>h;(refine ti f7 λws a b d=>?_;try clear f7);exact .tj fO ⟨w::ws,.cons (fN.v bT) a,(by exact And.intro (hkv k _) ⟨rfl,b⟩),by simp[d]⟩ λQ E q=>q
theorem EV [DecidableEq K](knd:KeyKind c.Z.prog c.Z.w K)(hkv:∀k t,knd.is k (kv k t)=af)
  (hke:∀k n p s (Q:ax->av->Prop) (E:ax->av->Prop),Q (kv k s.toks) {s with toks:=s.toks+1}->aE (aC c.Z.prog c.Z.w) c.A (eval (.Constant (kc k) n p) c.env) Q E s)
  (mk:List (K×V)->O)(put:List (K×V)->K->V->List (K×V))(h0:∀k v,put [] k v=[(k,v)])(h1:∀j u r k v,put ((j,u)::r) k v=if j=k then(j,v)::r else(j,u)::put r k v)
  (hmk:∀ρ h p l,sY c.Z ρ c.X h p (mk l)<->(p.d=ae/\∃lI,h.DictOf knd p.a lI/\fq ρ c.X h l lI))
  {ks:List K}{xs:List X}(hk:rH kc ks keys)(h:e8 (SX c) xs es)(hl:es.length=ks.length)(ZW:ks.length<=15) :
  ∀ρ s σ (f:List V->bp->R V),(∀vs cD,f vs cD≠.bad->ks.length=vs.length/\vs.length<=15/\cD[σ.length]?=aa (mk [])/\f vs cD=.ok (.loc σ.length) (cD.set σ.length (mk ((ks.zip vs).foldl (λd kv=>put d kv.1 kv.2) [])))) ->
   St c ρ σ s.heap->Run c.Z [] c.X ρ s (TV c.X) ((CF G c.Φ c.vs xs c.cs (σ++[mk []])).bind f) (λQ E=>aE (aC c.Z.prog c.Z.w) c.A (eval (.Dict keys es pos) c.env) Q E s):=λρ s σ f hf t=>by
 have x:=Ext.push (h:=s.heap) {cls:=.type "dict",data:=.dict #[]};have nX:s.heap.objs.size∉c.X:=λq=>absurd (t.rel.vF _ q) (gV _);obtain⟨R0,g0⟩:=t.rel.new (p:=⟨s.heap.objs.size,ae⟩) (o:=mk []) x (by simp[Pl.lW]) (by simpa[Pl.lW]using nX) (by simp) λg=>(hmk _ _ _ _).mpr ⟨rfl,[],Heap.DictOf.new _,rfl⟩;have g0':Go [] ρ s (ρ++[⟨s.heap.objs.size,ae⟩]) {s with heap:=s.heap.push {cls:=.type "dict",data:=.dict #[]}}:=⟨g0,_,s.toks,rfl⟩;have t0:St c (ρ++[⟨s.heap.objs.size,ae⟩]) (σ++[mk []]) (s.heap.push {cls:=.type "dict",data:=.dict #[]}):=St.go (s':={s with heap:=s.heap.push {cls:=.type "dict",data:=.dict #[]}}) t g0' R0;have hp:(ρ++[(⟨s.heap.objs.size,ae⟩:Pl)])[σ.length]?=aa ⟨s.heap.objs.size,ae⟩:=by rw[<- t.rel.len];simp
 have fin:∀ {aH:List Pl} {bj:bp} {ay:av} {vs:List V} {Af:List (ax×ax)},Go [] (ρ++[⟨s.heap.objs.size,ae⟩]) {s with heap:=s.heap.push {cls:=.type "dict",data:=.dict #[]}} aH ay->Rel c.Z aH c.X bj ay.heap ->
   (∃ws,bt aH c.X ay.heap vs ws/\Carries knd Af (ks.zip ws)/\ws.length=ks.length)->ks.length=vs.length->bj[σ.length]?=aa (mk []) ->
   Run c.Z [] c.X aH ay (TV c.X) (.ok (.loc σ.length) (bj.set σ.length (mk ((ks.zip vs).foldl (λd kv=>put d kv.1 kv.2) [])))) (λQ E=>∃lI,Carries knd Af lI/\ay.heap.DictOf knd s.heap.objs.size [] /\
    ∀h',h'.DictOf knd s.heap.objs.size (merged [] lI)->fu s.heap.objs.size ay.heap h'->Q (.ref s.heap.objs.size) {ay with heap:=h',toks:=ay.toks+Af.length}):=by
  intro aH bj ay vs Af bY bP r e Cv Q E q;(refine ti r λws a b d=>?_;try clear r);have GO:aH[σ.length]?=aa ⟨s.heap.objs.size,ae⟩:=by refine dB bY.grow.pre λδ z1 U=>?_;rw[z1,aZ (by simp[t.rel.len])];exact hp
  have ob:=(hmk _ _ _ _).mp (bP.obj _ _ _ GO Cv);obtain⟨_,lI,d1,p1⟩:=ob;subst p1;refine⟨ks.zip ws,b,d1,λh' d2 sb=>?_⟩;obtain⟨fO,fN⟩:=bP.set (o:=mk ((ks.zip vs).foldl (λd kv=>put d kv.1 kv.2) [])) GO (x:=s.heap.objs.size) (.head _) sb λg=>(hmk _ _ _ _).mpr ⟨rfl,_,d2,fq.fold put h0 h1 ks vs ws [] [] e (bt.mono g (λU q=>nomatch q) (λU q=>.inl q) _ _ a) (rfl) (by simp)⟩;exact q _ _ {ay with heap:=h',toks:=ay.toks+Af.length} ⟨fN,h',_,rfl⟩ fO (by exact bB _ ⟨GO,rfl⟩)
 by_cases pS:keys=[]
 .subst pS;cases hk;induction h with
  |cons=>cases hl
  |nil =>
   refine(?_:Run _ _ _ _ _ _ (f [] (σ++[mk []])) _);refine Run.KG λnb=>?_;refine o03 (hf _ _ nb) λU U U e=>?_;rw[e];refine .ok g0' (cD:=_) ?_ (b:=.ref s.heap.objs.size) ?_ λQ E q=>wpAny_Dict_empty q
   .have:(σ++[mk []]).set σ.length (mk (([].zip []).foldl (λd (kv:K×V)=>put d kv.1 kv.2) []))=σ++[mk []]:=by simp
    rw[this];exact R0
   .exact bB _ ⟨hp,rfl⟩
 .have ZE:=hk.all;refine Run.later g0' (Run.w (Run.seq (W2:=λAf ay Q E=>∃lI,Carries knd Af lI/\ay.heap.DictOf knd s.heap.objs.size [] /\
   ∀h',h'.DictOf knd s.heap.objs.size (merged [] lI)->fu s.heap.objs.size ay.heap h'->Q (.ref s.heap.objs.size) {ay with heap:=h',toks:=ay.toks+Af.length})
   (Ds knd hkv hke pos hk h hl _ {s with heap:=s.heap.push {cls:=.type "dict",data:=.dict #[]}} _ t0) λvs bj Af aH ay bY bP r=>?_) λQ E q=>wpAny_Dict_walk ZE.1 (ZE.2.trans hl.symm) pS (by rw[ZE.2];exact ZW) q)
  refine Run.KG λnb=>?_;refine o03 (hf _ _ nb) λe1 U e3 e4=>?_;rw[e4];exact fin bY bP r e1 e3
theorem Gf {α:Type}{c:Prop}[Decidable c]{r:R α}(h:(if c then r else .bad)≠.bad):c/\r≠.bad:=by
 by_cases hc:c
 .rw[if_pos hc]at h;exact⟨hc,h⟩
 .rw[if_neg hc]at h;exact absurd rfl h
theorem Jv {α:Type}{o:Option O}{r:R α}(h:(match o with|some (.cH [])=>r|_=>.bad)≠.bad):o=aa (.cH []):=by rcases o with _|⟨_|⟨_|_⟩|_|_⟩<;>first|rfl|exact absurd rfl h
theorem Ju {α:Type}{o:Option O}{r:R α}(h:(match o with|some (.dN [])=>r|_=>.bad)≠.bad):o=aa (.dN []):=by rcases o with _|⟨_|_|⟨_|_⟩|_⟩<;>first|rfl|exact absurd rfl h
theorem IG {ks:List Int}{xs:List X}(hk:rH .int ks keys)(h:e8 (SX c) xs es)(hl:es.length=ks.length)(ZW:ks.length<=15):SX c (.zW ks xs) (.Dict keys es pos):=λρ s σ t=>by refine EV (kv:=λk t=>.int k t) (intKind c.Z.prog c.Z.w) (λk t=>pR _ _ _ _) (λk n p s Q E q=>wpAny_Constant_int q) .cH nU (λU U=>rfl) (λU U U U U=>rfl) (λU U U U=>Iff.rfl) hk h hl ZW ρ s σ _ (λvs cD nb=>?_) t;obtain⟨e,nb⟩:=Gf nb;have e':=Jv nb;rw[if_pos e];exact⟨e.1,e.2,e',by rw[e']⟩
theorem IF {ks:List Str}{xs:List X}(hk:rH .str ks keys)(h:e8 (SX c) xs es)(hl:es.length=ks.length)(ZW:ks.length<=15):SX c (.sT ks xs) (.Dict keys es pos):=λρ s σ t=>by refine EV (kv:=λk t=>.str k t) (strKind c.Z.prog c.Z.w) (λk t=>vx _ _ _ _) (λk n p s Q E q=>vu q) .dN lQ (λU U=>rfl) (λU U U U U=>rfl) (λU U U U=>Iff.rfl) hk h hl ZW ρ s σ _ (λvs cD nb=>?_) t;obtain⟨e,nb⟩:=Gf nb;have e':=Ju nb;rw[if_pos e];exact⟨e.1,e.2,e',by rw[e']⟩
theorem QS (D:Ok c mg mb){xs:List X}(hk:c.env.kindOf (st "Unit")=aa .globalImplicit)(h:e8 (SX c) xs es)(pS:xs≠[]):SX c (.mk xs) (.Call (.Name (st "Unit") np) es [] pos):=λρ s σ t=>by
 refine ti D.ini λfI hfa hfi hft=>?_;refine Run.w (Run.seq (W2:=λws ay Q E=>c.Z.K.In ay.heap/\aE (aC c.Z.prog c.Z.w) c.A (call (.ref c.Z.C) ws) Q E ay) (td h pos ρ s σ t) λvs bj ws aH ay bY bP bT=>?_)
  λQ E q=>jV (lP D.zR t hk (by decide) D.zR.un ?_)
 .have eU:=t.go bY bP;have KI:c.Z.K.In ay.heap:=D.k.Qi.keeps bP.keep;have x:=(Ext.push (h:=ay.heap) yu).trans (Ext.push (instObj c.Z.C ay.heap.objs.size));have nX:∀y∈(⟨ay.heap.objs.size+1,aa ay.heap.objs.size⟩:Pl).lW,ay.heap.objs.size<=y:=by simp[Pl.lW]
  obtain⟨R2,g2⟩:=bP.new (p:=⟨ay.heap.objs.size+1,aa ay.heap.objs.size⟩) (o:=.inst []) x nX (λy hy q=>absurd (bP.vF _ q) (bO.mpr (nX y hy))) (by simp) λg=>by
   refine⟨ay.heap.objs.size,[],0,rfl,?_,?_,by delta iB;induction fields using List.casesOn<;>rfl⟩
   .refine(?_:((ay.heap.push yu).push (instObj c.Z.C ay.heap.objs.size)).get? (ay.heap.objs.size+1)=_)
    heap_get
   .exact br _ (cE _ rfl)
  have g2':Go [] aH ay (aH++[⟨ay.heap.objs.size+1,aa ay.heap.objs.size⟩]) {ay with heap:=(ay.heap.push yu).push (instObj c.Z.C ay.heap.objs.size)}:=⟨g2,_,ay.toks,rfl⟩;have rs:bt (aH++[⟨ay.heap.objs.size+1,aa ay.heap.objs.size⟩]) c.X ((ay.heap.push yu).push (instObj c.Z.C ay.heap.objs.size)) (.loc bj.length::vs) (.ref (ay.heap.objs.size+1)::ws) :=
   .cons (by exact bB ⟨ay.heap.objs.size+1,aa ay.heap.objs.size⟩ ⟨by rw[<- bP.len];simp,rfl⟩) (bt.mono g2 (λU q=>nomatch q) (λU q=>.inl q) _ _ bT)
  have call:=D.mkc c.X ws GI fI hfa _ {ay with heap:=(ay.heap.push yu).push (instObj c.Z.C ay.heap.objs.size)} _ _ _ R2 (St.go eU g2' R2).oq rs;refine Run.later g2' (Run.w (Run.seq (W2:=λw bH Q E=>w=.none/\Q (.ref (ay.heap.objs.size+1)) bH) call λr gz w fT bH fN qN zf=>?_) λQ E q=>⟨KI,pM ?_⟩)
  .refine Run.vno λe=>?_
   .subst e;subst zf;refine .tj (b:=.ref (ay.heap.objs.size+1)) qN ?_ λQ E q=>⟨rfl,q⟩;refine bB (⟨ay.heap.objs.size+1,aa ay.heap.objs.size⟩) ⟨?_,rfl⟩;refine dB fN.grow.pre λδ z1 U=>?_;rw[z1,aZ (by simp[bP.len]),<- bP.len];simp
  .obtain⟨hh,g,d,tk,os⟩:=ay;refine make_core (makes_of KI D.mki) (looks_findIn KI hfi) (λself=>bind_fn KI self hft) (.inl rfl) (codeAny_mono q λr s' z=>?_);rcases r with e|(v|_|_|_)<;>first|exact z|exact z.elim
 .exact callWith_of (P:=c.Z.K.In) (by rw[jt h];rfl) (keeps_K D.kp) (mz h q)
end
theorem rf   {t:Sem Fin}{fs:List Frame}{s:av}{e:End}(h:Runs M Γ p t fs s e s'):s.heap.objs.size<=s'.heap.objs.size:=by induction h<;>(try simp only[Shared.setGen,jA,iA]at *)<;>lia
theorem AB   {g:Nat}{r:Resume}{s:av}{res:GenResult}(h:Wakes M Γ p g r s res s'):s.heap.objs.size<=s'.heap.objs.size:=by
 delta Wakes at h;induction e:s.gens[g]? with
 |none=>rw[e]at h;exact h.elim
 |some st =>
  rw[e]at h;induction st using GenState.casesOn with
  |fresh c =>
   induction r using Resume.casesOn with
   |send v =>
    induction v using Value.casesOn with
    |none=>refine o23 h λU ay x U U z1=>?_;rw[z1];exact(rf x:(s.setGen g .running).heap.objs.size<=ay.heap.objs.size)
    |_=>rw[h.2];exact aO _
   |throw x=>rw[h.2];exact aO _
  |suspended=>refine o23 h λU ay x U U z1=>?_;rw[z1];exact(rf x:(s.setGen g .running).heap.objs.size<=ay.heap.objs.size)
  |_=>rw[h.2];exact aO _
theorem Io {α:Type}(M:Model)(Γ:Ctx)(n:Nat)(t:Sem α):∀(Q:α->Pos->av->Prop) (E:ax->Pos->av->Prop) (p:Pos) (s:av),n<=s.heap.objs.size->Sem.wp M Γ t Q E p s ->
  Sem.wp M Γ t (λa p' s'=>n<=s'.heap.objs.size/\Q a p' s') (λe p' s'=>n<=s'.heap.objs.size/\E e p' s') p s:=by
 induction t with
 |pure a=>exact λQ E p s hn h=>⟨hn,h⟩
 |raise e=>exact λQ E p s hn h=>⟨hn,h⟩
 |load a _ k ih=>exact λQ E p s hn h=>let ⟨o,ho,x⟩:=h;⟨o,ho,ih o Q E p s hn x⟩
 |update a _ f k ih=>exact λQ E p s hn h=>⟨h.1,ih () Q E p _ (by show n<=(s.heap.update a f).objs.size;rw[jA];exact hn) h.2⟩
 |alloc o k ih=>exact λQ E p s hn h=>ih _ Q E p _ (by show n<=(s.heap.push o).objs.size;rw[iA];exact Of hn) h
 |choose src m k ih=>exact λQ E p s hn h=>⟨h.1,ih _ Q E p _ hn h.2⟩
 |call c hd _ _ k ih=>exact λQ E p s hn h=>let ⟨r,s',hr,x⟩:=h;⟨r,s',hr,ih r Q E p s' (aQ hn (rf hr)) x⟩
 |genState g k ih=>exact λQ E p s hn h=>let ⟨st,hs,x⟩:=h;⟨st,hs,ih _ Q E p s hn x⟩
 |resume g r _ k ih=>exact λQ E p s hn h=>let ⟨res,s',hw,x⟩:=h;⟨res,s',hw,ih res Q E p s' (aQ hn (AB hw)) x⟩
 | «at» p' k ih=>exact λQ E p s hn h=>ih () Q E p' s hn h
 |rule _ k ih=>exact λQ E p s hn h=>ih () Q E p s hn h
 |point _ k ih=>exact λQ E p s hn h=>ih () Q E p s hn h
 |loadIfAlive a k ih=>exact λQ E p s hn h=>ih _ Q E p s hn h
 |fresh k ih=>exact λQ E p s hn h=>ih _ Q E p _ hn h
 |ask k ih=>exact λQ E p s hn h=>ih _ Q E p s hn h
 |os q _ k ih=>exact λQ E p s hn h=>ih _ Q E p _ hn h
 |handled own k ih=>exact λQ E p s hn h=>ih _ Q E p s hn h
 |newGen c k ih=>exact λQ E p s hn h=>ih _ Q E p _ hn h
 |stack k ih=>exact λQ E p s hn h=>ih _ Q E p s hn h
 |thread k ih=>exact λQ E p s hn h=>ih _ Q E p s hn h
 |_=>exact λQ E p s hn h=>h
theorem gO {α:Type}{s:av}{t:Sem α}{Q:α->av->Prop}{E:ax->av->Prop}
  (h:aE M A t (λa s'=>s.heap.objs.size<=s'.heap.objs.size->Q a s') E s):aE M A t Q E s :=
 λΓ p hΓ=>Sem.wp_mono M Γ t (λU U U x=>x.2 x.1) (λU U U x=>x.2) p s (Io M Γ _ t _ _ p s (aO _) (h Γ p hΓ))
def vp (F:List aJ)(h h':bV):Prop:=∀b o,b∉F->h.get? b=aa o->h'.get? b=aa o
theorem vp.grow {F:List aJ}(x:vp F h h')(z:h.objs.size<=h'.objs.size):dG F ρ h ρ h' :=
 ⟨⟨[],by simp,λU hp=>nomatch hp⟩,z,λb o e U n=>⟨o.slots,x b o n e,λU=>rfl⟩⟩
theorem Rel.DR {F X:List aJ}(R:Rel Z ρ X σ h)(x:vp F h h')(z:h.objs.size<=h'.objs.size)(m:∀b∈F,b∈X):Rel Z ρ X σ h' :=
 R.step (F:=F) (x.grow z) m (λU q=>.inl q) (λp hp y hy=>by obtain⟨o,e⟩:=R.there hp hy;rw[e];exact x y o (λq=>(R.ge p hp y hy).2 (m y q)) e)
  (λb o e=>x b o (λq=>absurd (bu e) (bO.mpr (R.D4 b (m b q)))) (R.keep b o e)) (λp hp y hy=>(R.ge p hp y hy).2) λb hb=>bK (R.vF b hb) z
inductive dD (ρ:List Pl)(X:List aJ)(h:bV):List aJ->aJ->IK->Nat->Prop where
 |lst {a it:aJ} {l:List V} {vs:List ax} {i:Nat} (o:Off ρ a) (x:a∉X) (p:h.PlainList a vs.toArray) (r:bt ρ X h l vs) (t:h.IsListIter it a i):dD ρ X h [it] it (.items l) i
 |tup {a it:aJ} {l:List V} {vs:List ax} {i:Nat} (o:Off ρ a) (x:a∉X) (p:TupAt h a vs) (r:bt ρ X h l vs) (t:h.IsTupleIter it a i):dD ρ X h [it] it (.items l) i
 |nz {it:aJ} {a b:Int} {i:Nat} (t:IsRangeIter h it (a+i) ((b-a).toNat-i) 1) (hi:i<=(b-a).toNat):dD ρ X h [it] it (.items (iq a b)) i
 |live {it:aJ} {n:Nat} {p:Pl} {i:Nat} (e:ρ[n]?=aa p) (t:h.IsListIter it p.a i):dD ρ X h [it] it (.live n ag) i
 |pA {e it:aJ} {n:Nat} {p:Pl} {i:Nat} {old:ax} (k:ρ[n]?=aa p) (ne:e≠it) (t:IsEnum h e it i old) (t':h.IsListIter it p.a i):dD ρ X h [e,it] e (.live n af) i
theorem dD.noDict {X:List aJ}{own:List aJ}{i:Nat}(I:dD ρ X h own it k i){L:aJ}{o:Obj}{es:Array gK}{n:Nat}(q:L∈own)(ho:h.get? L=aa o)(hd:o.data=.dict es n):False:=by
 have key:∀ {o':Obj},h.get? L=aa o'->(∀es n,o'.data≠.dict es n)->False:=λ{o'} e hn=>hn _ _ (aj (e.symm.trans ho)▸hd);induction I with
 |lst _ _ _ _ t=>obtain⟨o2,e2,_,d2⟩:=t;exact key (au.mp q▸e2) λU U z=>nomatch d2.symm.trans z
 |tup _ _ _ _ t=>obtain⟨o2,e2,_,d2⟩:=t;exact key (au.mp q▸e2) λU U z=>nomatch d2.symm.trans z
 |nz t _=>exact key (au.mp q▸t) λU U z=>by exact bk z
 |live _ t=>obtain⟨o2,e2,_,d2⟩:=t;exact key (au.mp q▸e2) λU U z=>nomatch d2.symm.trans z
 |pA _ _ t t' =>
  rcases aM.mp q with q|q
  .exact key (q▸t) λU U z=>by exact bk z
  .obtain⟨o2,e2,_,d2⟩:=t';exact key (au.mp q▸e2) λU U z=>nomatch d2.symm.trans z
theorem ly {F:List aJ}{l:aJ}{i:Nat}(t:h.IsListIter it l i)(g:dG F ρ h bJ h')(k:Off ρ it)(n:it∉F):h'.IsListIter it l i:=by(refine ti t λo e c d=>?_;try clear t);refine dB (g.ev it _ e k n) λsl e' U=>?_;exact⟨_,e',c,d⟩
theorem xH {F:List aJ}{l:aJ}{i:Nat}(t:h.IsTupleIter it l i)(g:dG F ρ h bJ h')(k:Off ρ it)(n:it∉F):h'.IsTupleIter it l i:=by(refine ti t λo e c d=>?_;try clear t);refine dB (g.ev it _ e k n) λsl e' U=>?_;exact⟨_,e',c,d⟩
theorem lN {F:List aJ}{o:Obj}(e:h.get? it=aa o)(hd:∀es n,o.data≠.dict es n)(g:dG F ρ h bJ h')(k:Off ρ it)(n:it∉F):h'.get? it=aa o:=by refine dB (g.ev it _ e k n) λsl e' q=>?_;rw[e',q hd]
theorem dD.grow {F X:List aJ}{own:List aJ}{i:Nat}(t:dD ρ X h own it k i)(R:Rel Z ρ X σ h)(g:dG F ρ h bJ h')(hF:∀b∈F,b∈X)(ho:∀b∈own,b∈X/\b∉F):dD bJ X h' own it k i:=by
 have fx:∀ {a},a∉X->a∉F:=λn q=>n (hF _ q);have at_:∀ {n:Nat} {p:Pl},ρ[n]?=aa p->bJ[n]?=aa p:=λe=>by(refine dB g.pre λδ z1 U=>?_;subst z1);rw[aZ (aA.mp e).1];exact e
 induction t with
 |lst o x p r t =>have o':=ho _ (.head _);refine .lst ?_ x (uq p g o (fx x)) (bt.mono g hF (λU q=>.inl q) _ _ r) (ly t g (R.off o'.1) o'.2);obtain⟨m,e⟩:=p;exact g.off e o
 |tup o x p r t =>have o':=ho _ (.head _);refine .tup ?_ x (p.grow (X:=X) g o (fx x)) (bt.mono g hF (λU q=>.inl q) _ _ r) (xH t g (R.off o'.1) o'.2);obtain⟨m,e⟩:=p;exact g.off e o
 |nz t hi =>have o':=ho _ (.head _);exact .nz (lN t (λU U q=>by exact bk q) g (R.off o'.1) o'.2) hi
 |live e t =>have o':=ho _ (.head _);exact .live (at_ e) (ly t g (R.off o'.1) o'.2)
 |pA k ne t t' =>have o1:=ho _ (.head _);have o2:=ho _ (.tail _ (.head _));exact .pA (at_ k) ne (lN t (λU U q=>by exact bk q) g (R.off o1.1) o1.2) (ly t' g (R.off o2.1) o2.2)
noncomputable def itemAt (k:IK)(σ:bp)(i:Nat):Option (Option V):=match k with
 |.items l=>aa l[i]?
 |.live n en=>match σ[n]? with
  |some (.list l)=>aa (l[i]?.map λx=>if en then .tup [.int i,x]else x)
  |_=>ae
noncomputable def isTup (e:b8):Bool:=eF e.ctorIdx 25
noncomputable def isName (e:b8):Bool:=eF e.ctorIdx 23
theorem GF (h:isTup e=af):∃a b c,e=.Tuple a b c:=by induction e using PySem.Expr.casesOn<;>first|exact⟨_,_,_,rfl⟩|exact jH h
theorem QO (h:(isTup e||isName e)=af):(∃a b c,e=.Tuple a b c)\/∃a b,e=.Name a b:=by induction e using PySem.Expr.casesOn<;>first|exact .inl ⟨_,_,_,rfl⟩|exact .inr ⟨_,_,rfl⟩|exact jH h
noncomputable def ado (k:IK)(t:b8):Bool:=match k with
 |.live _ af=>isTup t
 |_=>isTup t||isName t
theorem A7 {w:c0}{E:ax->av->Prop}{s:av}{t:b8}{e a:aJ}{i:Int}{item:ax}{Q:Unit->av->Prop}(h:isTup t=af)(he:IsEnumOut s.heap e it i item a)
  (hQ:∀h',IsEnum h' e it i item->fu e s.heap h'->Q () {s with heap:=h'}):aE (aC prog w) A (Ai t (.ref e) (.ref a)) Q E s:=by
 obtain⟨_,_,_,rfl⟩:=GF h;exact wpAny_letOwnedTupleGo_enum he hQ
theorem zF  {E:ax->av->Prop}{s:av}{t:b8}{r:aJ}{v:ax}{o:Obj}{Q:Unit->av->Prop}(h:(isTup t||isName t)=af)(ho:s.heap.get? r=aa o)(hc:o.cls=.type "list_iterator"\/o.cls=.type "tuple_iterator"\/o.cls=.type "range_iterator")(q:Q () s):aE M A (Ai t (.ref r) v) Q E s:=by
 obtain⟨es,k,p,rfl⟩|⟨_,_,rfl⟩:=QO h
 .unfold Ai;induction v with
  |ref a =>refine aq (wpAny_load ho ?_);rcases hc with e|e|e<;>rw[e]<;>cases o.data<;>exact aW q
  |_=>exact aW q
 .exact aW q
theorem uA {β:Type}{o:Option O}{f:List V->Option β}{x:β}(h:(match o with|some (.list l)=>f l|_=>ae)=aa x):∃l,o=aa (.list l)/\f l=aa x:=by
 induction o with
 |none=>exact fv h
 |some o=>induction o with
  |list l=>exact⟨l,rfl,h⟩
  |_=>exact fv h
section
variable {E:ax->av->Prop}{s:av}{X:List aJ}
theorem wO {own:List aJ}{it:aJ}{k:IK}{i:Nat}(R:Rel Z ρ X σ s.heap)(hh:A.handled=ae)(I:dD ρ X s.heap own it k i)(ho:∀b∈own,b∈X){ov:Option V}(hi:itemAt k σ i=aa ov)
  {Qn:av->Prop}{Qs LG:ax->av->Prop}
  (lg1:(∀n,k≠.live n af)->∀w ay o,ay.heap.get? it=aa o->(o.cls=.type "list_iterator"\/o.cls=.type "tuple_iterator"\/o.cls=.type "range_iterator")->Qs w ay->LG w ay)
  (lg2:∀n,k=.live n af->∀MP j item a ay,IsEnumOut ay.heap it MP j item a->(∀h',IsEnum h' it MP j item->fu it ay.heap h'->Qs (.ref a) {ay with heap:=h'})->LG (.ref a) ay)
  (qn:ov=ae->∀s',Go own ρ s ρ s'->Rel Z ρ X σ s'.heap->Qn s')
  (qs:∀v,ov=aa v->∀w s',Go own ρ s ρ s'->Rel Z ρ X σ s'.heap->dD ρ X s'.heap own it k (i+1)->bz ρ X s'.heap v w->Qs w s') :
  aE (aC Z.prog Z.w) A (pyNext (.ref it)) (λr ay=>match r with
   |none=>Qn ay
   |some w=>LG w ay) E s:=by
 have fin:∀ {h':bV} {MP:aJ},MP∈own->Heap.ExtBut MP s.heap h'->s.heap.objs.size<=h'.objs.size->Go own ρ s ρ {s with heap:=h'}/\Rel Z ρ X σ h':=λm x z=>by have b:vp own s.heap _:=λb o n e=>x b o (λq=>n (q▸m)) e;exact⟨⟨b.grow z,_,s.toks,rfl⟩,R.DR b z ho⟩
 have mono:∀ {h':bV} {v:V} {w:ax},vp own s.heap h'->s.heap.objs.size<=h'.objs.size->bz ρ X s.heap v w->bz ρ X h' v w:=λb z r=>bz.mono (b.grow z) ho (λU q=>.inl q) _ _ r;have MJ:∀ {h':bV} {v:List V} {w:List ax},vp own s.heap h'->s.heap.objs.size<=h'.objs.size->bt ρ X s.heap v w->bt ρ X h' v w:=λb z r=>bt.mono (b.grow z) ho (λU q=>.inl q) _ _ r;induction I with
 |@lst a it l vs i o x p r t =>
  obtain rfl:=aj hi;have nx:a∉[it]:=λq=>x (ho a q);cases hv:l[i]? with
  |none =>
   have hn:vs.toArray[i]?=ae:=by have:=r.length;simp at hv ⊢;exact Jl this hv
   exact gO (wpAny_pyNext_list_end hh t p.isList hn λh' e z=>let ⟨g,R'⟩:=fin (.head _) e z;qn hv _ g R')
  |some v =>refine dB (r.get hv) λw hw rv=>?_;refine wpAny_pyNext_list_item t p.isList (by simpa using hw) λh' t' sb=>?_;refine ti (id t') λob Zv hc U=>?_;have b:vp [it] s.heap h':=λb o n e=>(sb.2 b (λq=>n (q▸.head _))).trans e;have z:s.heap.objs.size<=h'.objs.size:=fR sb.1.symm;exact lg1 (λU q=>by exact Internal.IK.noConfusion q) _ _ _ Zv (.inl hc) (qs v hv w _ ⟨b.grow z,h',s.toks,rfl⟩ (R.DR b z ho) (.lst o x (uq p (b.grow (ρ:=ρ) z) o nx) (MJ b z r) t') (mono b z rv))
 |@tup a it l vs i o x p r t =>
  obtain rfl:=aj hi;have nx:a∉[it]:=λq=>x (ho a q);have pt:s.heap.IsTuple a vs.toArray:=let ⟨n,e⟩:=p;⟨_,e,rfl,n,rfl⟩
  cases hv:l[i]? with
  |none =>
   have hn:vs.toArray[i]?=ae:=by have:=r.length;simp at hv ⊢;exact Jl this hv
   exact gO (wpAny_pyNext_tuple_end hh t pt hn λh' e z=>let ⟨g,R'⟩:=fin (.head _) e z;qn hv _ g R')
  |some v =>refine dB (r.get hv) λw hw rv=>?_;refine wpAny_pyNext_tuple_item t pt (by simpa using hw) λh' t' sb=>?_;refine ti (id t') λob Zv hc U=>?_;have b:vp [it] s.heap h':=λb o n e=>(sb.2 b (λq=>n (q▸.head _))).trans e;have z:s.heap.objs.size<=h'.objs.size:=fR sb.1.symm;exact lg1 (λU q=>by exact Internal.IK.noConfusion q) _ _ _ Zv (.inr (.inl hc)) (qs v hv w _ ⟨b.grow z,h',s.toks,rfl⟩ (R.DR b z ho) (.tup o x (p.grow (X:=X) (b.grow (ρ:=ρ) z) o nx) (MJ b z r) t') (mono b z rv))
 |@nz it a b i t hle =>
  obtain rfl:=aj hi;by_cases hl:i<(b-a).toNat
  .have hv:(iq a b)[i]?=aa (.int (a+i)):=by unfold iq;simp[hl]
   refine wpAny_pyNext_range_item t (ab8 hle hl) λh' t' sb=>?_;have bb:vp [it] s.heap h':=λb o n e=>(sb.2 b (λq=>n (q▸.head _))).trans e;have z:s.heap.objs.size<=h'.objs.size:=fR sb.1.symm;refine lg1 (λU q=>by exact Internal.IK.noConfusion q) _ _ _ t' (.inr (.inr rfl)) (qs _ hv _ _ ⟨bb.grow z,h',s.toks+1,rfl⟩ (R.DR bb z ho) (.nz ?_ hl) mU);have e1:a+(i:Int)+1=a+((i+1:Nat):Int):=by exact ab7
   have e2:((b-a).toNat:Int)-i-1=((b-a).toNat:Int)-((i+1:Nat):Int):=by exact ab6
   rw[e1,e2]at t';exact t'
  .have hv:(iq a b)[i]?=ae:=by unfold iq;simp;exact ab5 hle hl
   exact gO (wpAny_pyNext_range_end hh t (ab4 hle hl) λh' e z=>let ⟨g,R'⟩:=fin (.head _) e z;qn hv _ g R')
 |@live it n p i e t =>
  change (match σ[n]? with
   |some (.list l)=>aa (l[i]?.map λx=>if ag=af then .tup [.int i,x]else x)
   |_=>ae)=aa ov at hi
  obtain⟨l,hl,hi⟩:=uA hi
  .obtain rfl:=aj hi;obtain⟨_,vs,t1,q1⟩:=R.obj n p _ e hl;cases hv:l[i]? with
   |none =>
    have hn:vs.toArray[i]?=ae:=by have:=q1.length;simp at hv ⊢;exact Jl this hv
    exact gO (wpAny_pyNext_list_end hh t t1.isList hn λh' e z=>let ⟨g,R'⟩:=fin (.head _) e z;qn (by rw[hv];rfl) _ g R')
   |some v =>refine dB (q1.get hv) λw hw rv=>?_;refine wpAny_pyNext_list_item t t1.isList (by simpa using hw) λh' t' sb=>?_;refine ti (id t') λob Zv hc U=>?_;have b:vp [it] s.heap h':=λb o n e=>(sb.2 b (λq=>n (q▸.head _))).trans e;have z:s.heap.objs.size<=h'.objs.size:=fR sb.1.symm;exact lg1 (λU q=>by cases q) _ _ _ Zv (.inl hc) (qs v (by rw[hv];rfl) w _ ⟨b.grow z,h',s.toks,rfl⟩ (R.DR b z ho) (.live e t') (mono b z rv))
 |@pA e0 MP n p i old e' ne t t' =>
  change (match σ[n]? with
   |some (.list l)=>aa (l[i]?.map λx=>if af=af then V.tup [.int i,x]else x)
   |_=>ae)=aa ov at hi
  obtain⟨l,hl,hi⟩:=uA hi
  .obtain rfl:=aj hi;obtain⟨_,vs,t1,q1⟩:=R.obj n p _ e' hl;cases hv:l[i]? with
   |none =>
    have hn:vs.toArray[i]?=ae:=by have:=q1.length;simp at hv ⊢;exact Jl this hv
    exact gO (wpAny_pyNext_enum_end hh t t' t1.isList hn λh' e z=>let ⟨g,R'⟩:=fin (.tail _ (.head _)) e z;qn (by rw[hv];rfl) _ g R')
   |some v =>
    refine dB (q1.get hv) λw hw rv=>?_;refine wpAny_pyNext_enum_item t t' t1.isList (by simpa using hw) ne λh' he hi' ht' hz hk=>?_;have hel:e0<s.heap.objs.size:=bu t;have ne':e0≠s.heap.objs.size:=dh hel;refine lg2 n rfl _ _ _ _ _ he λfj zO sb=>?_;have b:vp [e0,MP] s.heap fj:=λb o nb eb=>(sb.2 b (λq=>nb (q▸.head _))).trans (hk b o (λq=>nb (q▸.head _)) (λq=>nb (q▸.tail _ (.head _))) eb);have z:s.heap.objs.size<=fj.objs.size:=by rw[sb.1];show _<=h'.objs.size;exact FP hz
    have hw2:fj.get? s.heap.objs.size=aa {cls:=.type "tuple",data:=.seq #[.int i s.toks,w]}:=(sb.2 _ (lE ne')).trans ht';refine qs (.tup [.int i,v]) (by rw[hv];rfl) _ _ ⟨b.grow z,fj,s.toks+1,rfl⟩ (R.DR b z ho) (.pA e' ne zO ?_) ?_
    ·(refine ti hi' λoi yr ci di=>?_;try clear hi');exact⟨oi,(sb.2 _ (lE ne)).trans yr,ci,di⟩
    .refine bB (s.heap.objs.size) ⟨[.int i s.toks,w],rfl,λp hp q=>absurd (R.lt hp q) (gV _),λq=>absurd (R.vF _ q) (gV _),⟨0,hw2⟩,.cons mU (.cons (mono b z rv) .nil)⟩
end
section
variable {c:Cx}
theorem GB {v:V}(h:iW v σ=.ok k cD):cD=σ/\∀n en,k=.live n en->en=ag:=by
 induction v using V.casesOn with
 |loc n =>
  change (if uM σ (.loc n)=af then Internal.R.ok (IK.live n ag) σ else .bad)=_ at h;by_cases hl:uM σ (.loc n)=af
  .rw[if_pos hl]at h;(obtain⟨rfl,rfl⟩:=rI h);exact⟨rfl,λU U e=>by(obtain⟨rfl,rfl⟩:=Internal.IK.live.inj e);rfl⟩
  .rw[if_neg hl]at h;exact Ra h
 |_=>first|exact Ra h|(obtain⟨rfl,rfl⟩:=rI h;exact⟨rfl,λU U e=>nomatch e⟩)
theorem wQ {v:V}(h:iW v σ=.exc cD):False:=by
 induction v using V.casesOn with
 |loc n =>
  change (if uM σ (.loc n)=af then Internal.R.ok (IK.live n ag) σ else .bad)=_ at h;by_cases hl:uM σ (.loc n)=af
  .rw[if_pos hl]at h;exact Q9 h
  .rw[if_neg hl]at h;exact B6 h
 |_=>first|exact B6 h|exact Q9 h
theorem Go.qy {F own:List aJ}{s:av}(g:Go (own++F) ρ s bJ s')(h:∀b∈own,s.heap.objs.size<=b):Go F ρ s bJ s' :=
 ⟨⟨g.grow.pre,g.grow.size,λb o e k n=>g.grow.ev b o e k λq=>(bg.mp q).elim (λz=>absurd (bu e) (bO.mpr (h b z))) n⟩,g.same⟩
theorem Run.own {α β:Type}{F X:List aJ}{s:av}{T:List Pl->bV->α->β->Prop}{r:R α}{W:(β->av->Prop)->(ax->av->Prop)->Prop}{W2:aJ->av->(β->av->Prop)->(ax->av->Prop)->Prop}{P:List aJ->av->aJ->Prop}
  (c:∀Q E,(∀own s' it,Go [] ρ s ρ s'->(∀b∈own,s.heap.objs.size<=b)->P own s' it->W2 it s' Q E)->W Q E)(K:∀own s' it,Go [] ρ s ρ s'->(∀b∈own,s.heap.objs.size<=b)->P own s' it->Run Z (own++F) X ρ s' T r (W2 it s')):Run Z F X ρ s T r W:=by
 induction r with
 |bad=>trivial
 |ok a σ=>exact λQ E q=>c Q E λown s' it g fr p=>K own s' it g fr p Q E λb bJ lK g'=>q b bJ lK ((g.any.trans g').qy fr)
 |exc σ=>exact λQ E q=>c Q E λown s' it g fr p=>K own s' it g fr p Q E λb bJ lK g' R' y=>q b bJ lK ((g.any.trans g').qy fr) R' (y.mH g.grow.size)
theorem Run.OG {α β:Type}{F X:List aJ}{s:av}{T:List Pl->bV->α->β->Prop}{W:(β->av->Prop)->(ax->av->Prop)->Prop}{c:Prop}[Decidable c]{r:R γ}{f:γ->bp->R α}(h:c->Run Z F X ρ s T (r.bind f) W):Run Z F X ρ s T ((if c then r else .bad).bind f) W:=by
 by_cases hc:c
 .rw[if_pos hc];exact h hc
 .rw[if_neg hc];trivial
def sW (c:Cx)(y:X)(e:b8):Prop:=∀(ρ:List Pl) (s:av) (σ:bp),St c ρ σ s.heap->∀{α β:Type} {F:List aJ} {T:List Pl->bV->α->β->Prop} {f:IK->bp->R α} {W2:ax->av->(β->av->Prop)->(ax->av->Prop)->Prop},
 (∀k bj aH ay it own,Go [] ρ s aH ay->Rel c.Z aH (own++c.X) bj ay.heap->dD aH (own++c.X) ay.heap own it k 0->(∀b∈own,s.heap.objs.size<=b)->(∀n en,k=.live n en->en=af->∃a,y=.pA a)->Run c.Z (own++F) c.X aH ay T (f k bj) (W2 (.ref it) ay)) ->
 Run c.Z F c.X ρ s T ((uT G c.Φ c.vs y c.cs σ).bind f) (λQ E=>aE (aC c.Z.prog c.Z.w) c.A (eval e c.env) (λx ay=>aE (aC c.Z.prog c.Z.w) c.A (pP x) (λit bH=>W2 it bH Q E) E ay) E s)
theorem Run.I0 {α β:Type}{F X:List aJ}{s:av}{T:List Pl->bV->α->β->Prop}{r:R α}{f:α->bp->R KZ}
  {W:(β->av->Prop)->(ax->av->Prop)->Prop}{W2:β->av->(KY->av->Prop)->(ax->av->Prop)->Prop}
  (h:Run Z [] X ρ s T r W)(k:∀a cD b bJ s',Go [] ρ s bJ s'->Rel Z bJ X cD s'.heap->T bJ s'.heap a b->Run Z F X bJ s' T' (f a cD) (W2 b s')) :
  Run Z F X ρ s T' (r.bind f) (λQ E=>W (λb s1=>W2 b s1 Q E) E):=by
 induction r with
 |bad=>trivial
 |exc σ=>exact λQ E q=>h _ E λe bJ s' g=>q e bJ s' g.any
 |ok a σ =>
  refine(?_:Run Z F X ρ s T' (f a σ) _);have k:=λb bJ s' g R t=>k a σ b bJ s' g R t;induction hf:f a σ with
  |bad=>trivial
  |exc cD =>refine λQ E q=>h _ E λb bJ s' g R t=>?_;have:=k b bJ s' g R t;rw[hf]at this;exact this Q E λe kn lK g' R' y=>q e kn lK (g.any.trans g') R' (y.mH g.grow.size)
  |ok a' cD =>refine λQ E q=>h _ E λb bJ s' g R t=>?_;have:=k b bJ s' g R t;rw[hf]at this;exact this Q E λb' kn lK g' R' y=>q b' kn lK (g.any.trans g') R' y
theorem Rel.plus {X own:List aJ}(R:Rel Z ρ X σ h)(x:Ext h h')(ho:∀b∈own,h.objs.size<=b/\b<h'.objs.size):Rel Z ρ (own++X) σ h' :=
 R.own x λb hb=>(bg.mp hb).elim (λq=>.inr (ho b q)) .inl
theorem bz.plus {X own:List aJ}{v:V}{w:ax}(r:bz ρ X h v w)(x:Ext h h')(ho:∀b∈own,h.objs.size<=b):bz ρ (own++X) h' v w :=
 bz.mono (F:=[]) x.grow (λU q=>nomatch q) (λb hb=>(bg.mp hb).elim (λq=>.inr (ho b q)) .inl) _ _ r
theorem bt.plus {X own:List aJ}{v:List V}{w:List ax}(r:bt ρ X h v w)(x:Ext h h')(ho:∀b∈own,h.objs.size<=b):bt ρ (own++X) h' v w :=
 bt.mono (F:=[]) x.grow (λU q=>nomatch q) (λb hb=>(bg.mp hb).elim (λq=>.inr (ho b q)) .inl) _ _ r
theorem uJ  {s:av}{v:V}{w:ax}(R:Rel c.Z ρ c.X σ s.heap)(r:bz ρ c.X s.heap v w)(hk:iW v σ=.ok k σ){Q:ax->av->Prop}{E:ax->av->Prop}
  (q:∀it own h',Go [] ρ s ρ {s with heap:=h'}->Rel c.Z ρ (own++c.X) σ h'->dD ρ (own++c.X) h' own it k 0->(∀b∈own,s.heap.objs.size<=b)->Q (.ref it) {s with heap:=h'}) :
  aE (aC c.Z.prog c.Z.w) c.A (pP w) Q E s:=by
 have fr:∀b∈[s.heap.objs.size],s.heap.objs.size<=b:=by simp
 have fr':∀o:Obj,∀b∈[s.heap.objs.size],s.heap.objs.size<=b/\b<(s.heap.push o).objs.size:=by simp
 have YR:∀ {a:aJ} {o:Obj},s.heap.get? a=aa o->a∉c.X->a∉[s.heap.objs.size]++c.X:=λe n q=>(bg.mp q).elim (λz=>by rw[au.mp z]at e;exact absurd (bu e) (gV _)) n;unfold iW at hk;induction v using V.casesOn with
 |lst l =>
  cases hk
  (refine wH r λa vs z1 o1 x1 z2 q1=>?_;try clear r;subst z1;obtain⟨n,e⟩:=z2);have p:s.heap.PlainList a vs.toArray:=⟨n,e⟩;refine wpAny_pyIter_list p.isList (q _ [s.heap.objs.size] _ (Go.ext (t:=s.toks) (Ext.push _)) (R.plus (Ext.push _) (fr' _)) ?_ fr);exact .lst o1 (YR e x1) ⟨n,br _ e⟩ (q1.plus (Ext.push _) fr) ⟨_,cE _ rfl,rfl,rfl⟩
 |tup l =>
  cases hk
  (refine wH r λa vs z1 o1 x1 z2 q1=>?_;try clear r;subst z1;obtain⟨n,e⟩:=z2);refine wpAny_pyIter_tuple (items:=vs.toArray) ⟨_,e,rfl,n,rfl⟩ (q _ [s.heap.objs.size] _ (Go.ext (t:=s.toks) (Ext.push _)) (R.plus (Ext.push _) (fr' _)) ?_ fr);exact .tup o1 (YR e x1) ⟨n,br _ e⟩ (q1.plus (Ext.push _) fr) ⟨_,cE _ rfl,rfl,rfl⟩
 |loc n =>
  dsimp only at hk
  split at hk
  .rename_i hl
   cases hk
   refine Ea (Bb hl) λn' l e hl=>?_;obtain rfl:=Internal.V.loc.inj e;(refine dB r λp hp z1=>?_;try clear r;subst z1);obtain⟨_,vs,t1,q1⟩:=R.obj n p _ hp hl;refine wpAny_pyIter_list t1.isList (q _ [s.heap.objs.size] _ (Go.ext (t:=s.toks) (Ext.push _)) (R.plus (Ext.push _) (fr' _)) ?_ fr);exact .live hp ⟨_,cE _ rfl,rfl,rfl⟩
  .exact Ra hk
 |_=>exact Ra hk
theorem zh {x:X}(h:SX c x e)(he:∀σ,uT G c.Φ c.vs x c.cs σ=(ev G c.Φ c.vs x c.cs σ).bind iW):sW c x e:=λρ s σ t {α β F T f W2} K=>by
 rw[he,R.bind_assoc];refine Run.w (Run.I0 (W2:=λw ay Q E=>aE (aC c.Z.prog c.Z.w) c.A (pP w) (λit bH=>W2 it bH Q E) E ay) (h ρ s σ t) λv bj w aH ay bY bP bT=>?_) λQ E q=>q;cases hk:iW v bj with
 |bad=>trivial
 |exc=>exact(wQ hk).elim
 |ok k gz =>
  obtain⟨e2,nl⟩:=GB hk;subst e2;refine(?_:Run _ _ _ _ _ _ (f k gz) _);have nl:∀n en,k=.live n en->en=af->∃a,x=.pA a:=λn en e e'=>by rw[nl n en e]at e';exact jH e'
  exact Run.own (P:=λown s' it=>Rel c.Z aH (own++c.X) gz s'.heap/\dD aH (own++c.X) s'.heap own it k 0) (λQ E q=>uJ bP bT hk λit own h' g R I fr=>q own _ it g fr ⟨R,I⟩)
   λown s' it g fr p=>K k gz aH s' it own (bY.trans g) p.1 p.2 (λb hb=>aQ bY.grow.size (fr b hb)) nl
theorem DS {a b:Int}(ha:big a=af)(hb:big b=af):Builtin.Range.small a b 1=af:=by have h1:=qG ha;have h2:=qG hb;exact small_one (by lia) (by lia) (by lia) (by lia)
theorem uK  {s:av}{a b:Int}{t u v:Tok}(R:Rel c.Z ρ c.X σ s.heap)(ha:big a=af)(hb:big b=af){Q:ax->av->Prop}{E:ax->av->Prop}(tk:Nat)
  (q:∀it own h',Go [] ρ s ρ {s with heap:=h',toks:=tk}->Rel c.Z ρ (own++c.X) σ h'->dD ρ (own++c.X) h' own it (.items (iq a b)) 0->(∀b∈own,s.heap.objs.size<=b)->Q (.ref it) {s with heap:=h',toks:=tk}) :
  aE (aC c.Z.prog c.Z.w) c.A (pP (.ref s.heap.objs.size)) Q E {s with heap:=s.heap.push {cls:=.type "range",data:=.fields #[.int a t,.int b u,.int 1 v]},toks:=tk}:=by
 refine wpAny_pyIter_range (IsRange.new s.heap a b 1 t u v) (DS ha hb) ?_;have x:Ext s.heap ((s.heap.push {cls:=.type "range",data:=.fields #[.int a t,.int b u,.int 1 v]}).push {cls:=.type "range_iterator",data:=.fields #[oj a,oj (kR a b 1),oj 1]}):=(Ext.push _).trans (Ext.push _);refine q _ [s.heap.objs.size+1] _ (Go.ext x) (R.plus x (by simp)) ?_ (by simp);have:IsRangeIter ((s.heap.push {cls:=.type "range",data:=.fields #[.int a t,.int b u,.int 1 v]}).push {cls:=.type "range_iterator",data:=.fields #[oj a,oj (kR a b 1),oj 1]}) (s.heap.objs.size+1) (a+((0:Nat):Int)) ((b-a).toNat-((0:Nat):Int)) 1:=by
  have e1:a+((0:Nat):Int)=a:=by exact ab2
  have e2:(((b-a).toNat:Nat):Int)-((0:Nat):Int)=kR a b 1:=by rw[rangeSize_one];split<;>lia
  rw[e1,e2];exact Heap.get?_push_at (by simp) rfl
 simp only[iA];exact .nz this (bL _)
theorem Hq {Φ:Nat->List V->bp->R V}{a:X}  : uT G Φ vs (.nz [a]) cs σ=(ev G Φ vs a cs σ).bind Q7:=by refine(?_:(((ev G Φ vs a cs σ).bind λv σ=>R.ok [v] σ).bind λxs σ=>R.ok (V.tup xs) σ).bind AU=_);simp only[R.bind_assoc];rfl
theorem Hp {Φ:Nat->List V->bp->R V}{a b:X}  : uT G Φ vs (.nz [a,b]) cs σ=(ev G Φ vs a cs σ).bind λx σ=>(ev G Φ vs b cs σ).bind λy σ=>Od x y σ:=by refine(?_:(((ev G Φ vs a cs σ).bind λv σ=>((ev G Φ vs b cs σ).bind λw σ=>R.ok [w] σ).bind λl σ=>R.ok (v::l) σ).bind λxs σ=>R.ok (V.tup xs) σ).bind AU=_);simp only[R.bind_assoc];rfl
theorem Kk {Φ:Nat->List V->bp->R V}{a:X}  : uT G Φ vs (.pA a) cs σ=(ev G Φ vs a cs σ).bind Hy:=rfl
theorem Jh (D:Ok c mg mb){a:X}(ha:SX c a ea)(hs:noStar ea=af)(hk:c.env.kindOf (st "range")=aa .globalImplicit):sW c (.nz [a]) (.Call (.Name (st "range") np) [ea] [] pos):=λρ s σ t {α β F T f W2} K=>by
 rw[Hq,R.bind_assoc];refine Run.w (Run.I0 (W2:=λws ay Q E=>aE (aC c.Z.prog c.Z.w) c.A (call (.type "range") ws) (λx ay=>aE (aC c.Z.prog c.Z.w) c.A (pP x) (λit bH=>W2 it bH Q E) E ay) E ay) (k7 ha hs pos t) λv bj ws aH ay bY bP bT=>?_)
  λQ E q=>qE D (by simp[gS]) hk (by decide) (.cons ha hs .nil) t q
 obtain⟨w,rfl,bT⟩:=bT;induction v using V.casesOn with
 |int i =>
  refine Run.OG λhb=>?_;obtain⟨u,rfl⟩:=bT;exact Run.own (r:=f (.items (iq 0 i)) bj) (P:=λown s' it=>Rel c.Z aH (own++c.X) bj s'.heap/\dD aH (own++c.X) s'.heap own it (.items (iq 0 i)) 0) (λQ E q=>call_range_1 (uK bP (by decide) hb.2 _ λit own h' g R I fr=>q own _ it g fr ⟨R,I⟩))
   λown s' it g fr p=>K _ bj aH s' it own (bY.trans g) p.1 p.2 (λb hb=>aQ bY.grow.size (fr b hb)) λU U e=>nomatch e
 |_=>trivial
theorem Jg (D:Ok c mg mb){a b:X}{eb:b8}(ha:SX c a ea)(hs:noStar ea=af)(hb:SX c b eb)(sP:noStar eb=af)(hk:c.env.kindOf (st "range")=aa .globalImplicit):sW c (.nz [a,b]) (.Call (.Name (st "range") np) [ea,eb] [] pos):=λρ s σ t {α β F T f W2} K=>by
 have e:(uT G c.Φ c.vs (.nz [a,b]) c.cs σ).bind f=((ev G c.Φ c.vs a c.cs σ).bind λx σ=>(ev G c.Φ c.vs b c.cs σ).bind λy σ=>.ok (x,y) σ).bind λp σ=>(Od p.1 p.2 σ).bind f:=by
  rw[Hp];simp only[R.bind_assoc]
  try rfl
 rw[e];refine Run.w (Run.I0 (W2:=λws ay Q E=>aE (aC c.Z.prog c.Z.w) c.A (call (.type "range") ws) (λx ay=>aE (aC c.Z.prog c.Z.w) c.A (pP x) (λit bH=>W2 it bH Q E) E ay) E ay) (B4 ha hb hs sP pos t) λv bj ws aH ay bY bP bT=>?_)
  λQ E q=>qE D (by simp[gS]) hk (by decide) (.cons ha hs (.cons hb sP .nil)) t q
 obtain⟨w,w',rfl,bT,f7⟩:=bT;obtain⟨v,v'⟩:=v;dsimp only at bT f7 ⊢;induction v using V.casesOn with
 |int i=>induction v' using V.casesOn with
  |int j =>
   refine Run.OG λhb=>?_;obtain⟨u,rfl⟩:=bT;obtain⟨u',rfl⟩:=f7;exact Run.own (r:=f (.items (iq i j)) bj) (P:=λown s' it=>Rel c.Z aH (own++c.X) bj s'.heap/\dD aH (own++c.X) s'.heap own it (.items (iq i j)) 0) (λQ E q=>call_range_2 (uK bP hb.2.1 hb.2.2 _ λit own h' g R I fr=>q own _ it g fr ⟨R,I⟩))
    λown s' it g fr p=>K _ bj aH s' it own (bY.trans g) p.1 p.2 (λb hb=>aQ bY.grow.size (fr b hb)) λU U e=>nomatch e
  |_=>trivial
 |_=>trivial
theorem Oe (D:Ok c mg mb){a:X}(ha:SX c a ea)(hs:noStar ea=af)(hk:c.env.kindOf (st "enumerate")=aa .globalImplicit):sW c (.pA a) (.Call (.Name (st "enumerate") np) [ea] [] pos):=λρ s σ t {α β F T f W2} K=>by
 rw[Kk,R.bind_assoc];refine Run.w (Run.I0 (W2:=λws ay Q E=>aE (aC c.Z.prog c.Z.w) c.A (call (.type "enumerate") ws) (λx ay=>aE (aC c.Z.prog c.Z.w) c.A (pP x) (λit bH=>W2 it bH Q E) E ay) E ay) (k7 ha hs pos t) λv bj ws aH ay bY bP bT=>?_)
  λQ E q=>qE D (by simp[gS]) hk (by decide) (.cons ha hs .nil) t q
 obtain⟨w,rfl,bT⟩:=bT;refine Run.OG λZC=>?_
 .skip
  (refine Ea (Bb ZC) λn l z1 hl=>?_;subst z1);(refine dB bT λp hp z1=>?_;try clear bT;subst z1);obtain⟨_,vs,t1,q1⟩:=bP.obj n p _ hp hl;refine(?_:Run _ _ _ _ _ _ (f (.live n af) bj) _);have key:∀ {Q:ax->av->Prop} {E:ax->av->Prop},(∀it own h',Go [] aH ay aH {ay with heap:=h'}->Rel c.Z aH (own++c.X) bj h'->dD aH (own++c.X) h' own it (.live n af) 0->(∀b∈own,ay.heap.objs.size<=b)->Q (.ref it) {ay with heap:=h'}) ->
    aE (aC c.Z.prog c.Z.w) c.A (call (.type "enumerate") [.ref p.a]) (λx ay=>aE (aC c.Z.prog c.Z.w) c.A (pP x) Q E ay) E ay:=λ{Q E} q=>by
   refine call_enumerate_list t1.isList λh' he hi hz hk=>wpAny_pyIter_enum he ?_;have x:Ext ay.heap h':=⟨by exact Og hz,hk⟩;have fr:∀b∈[ay.heap.objs.size+1,ay.heap.objs.size],ay.heap.objs.size<=b/\b<h'.objs.size:=by
    intro b hb;simp only[aM,ba,or_false]at hb;rcases hb with rfl|rfl
    .exact⟨jj _,by rw[hz];exact iN _⟩
    .exact⟨aO _,by rw[hz];exact Nat.lt_add_of_pos_right (by decide)⟩
   exact q _ [ay.heap.objs.size+1,ay.heap.objs.size] h' (Go.ext (t:=ay.toks) x) (bP.plus x fr) (.pA hp (Nat.succ_ne_self _) he hi) λb hb=>(fr b hb).1
  exact Run.own (P:=λown s' it=>Rel c.Z aH (own++c.X) bj s'.heap/\dD aH (own++c.X) s'.heap own it (.live n af) 0) (λQ E q=>key λit own h' g R I fr=>q own _ it g fr ⟨R,I⟩)
   λown s' it g fr p=>K _ bj aH s' it own (bY.trans g) p.1 p.2 (λb hb=>aQ bY.grow.size (fr b hb)) λU U e U=>⟨a,rfl⟩
end
noncomputable def kH (cells:List (Str×aJ)):List (Str×fZ)->List (Str×aJ)->List (Str×aJ)
 |[],acc=>acc
 |(n,k)::r,acc=>if k==.free then kH cells r ((n,(cells.lookup n).getD 0)::acc)else kH cells r acc
theorem mw (cells:List (Str×aJ)):∀(names:List (Str×fZ)) (acc:List (Str×aJ)),(∀n,(n,eG)∈names->∃a,cells.lookup n=aa a)->(∀x a,acc.lookup x=aa a->cells.lookup x=aa a) ->
  ∀x a,(kH cells names acc).lookup x=aa a->cells.lookup x=aa a
 |[]=>λacc U h x a e=>h x a e
 |(n,k)::r=>λacc hn h x a e=>by
  change (if(k==eG)=af then kH cells r ((n,(cells.lookup n).getD 0)::acc)else kH cells r acc).lookup x=aa a at e
  split at e
  .rename_i hk
   have hk:k=.free:=by simpa using hk
   subst hk;obtain⟨b,hb⟩:=hn n (.head _);refine mw cells r _ (λm hm=>hn m (.tail _ hm)) (λy b' e'=>?_) x a e;rw[cf]at e'
   split at e'
   .rename_i hy
    have:y=n:=by simpa using hy
    obtain rfl:=fb (this);rw[hb]at e';rw[hb];exact e'
   .exact h y b' e'
  .exact mw cells r _ (λm hm=>hn m (.tail _ hm)) h x a e
theorem qC (cells:List (Str×aJ))(x:Str):∀(names:List (Str×fZ)) (acc:List (Str×aJ)),((x,eG)∈names\/(acc.lookup x).isSome=af)->((kH cells names acc).lookup x).isSome=af
 |[]=>λacc h=>h.elim (λq=>nomatch q) id
 |(n,k)::r=>λacc h=>by
  refine(?_:((if(k==eG)=af then kH cells r ((n,(cells.lookup n).getD 0)::acc)else kH cells r acc).lookup x).isSome=af)
  split
  .refine qC cells x r _ ?_;rcases h with h|h
   .rcases aM.mp h with e|h
    ·(obtain⟨rfl,rfl⟩:=Ar e);exact .inr (by simp[cf])
    .exact .inl h
   .refine .inr ?_;rw[cf]
    split
    .rfl
    .exact h
  .rename_i hk
   refine qC cells x r _ ?_;rcases h with h|h
   .rcases aM.mp h with e|h
    ·(obtain⟨rfl,rfl⟩:=Ar e);exact absurd rfl hk
    .exact .inl h
   .exact .inr h
theorem Bu  (h:∀n,(n,eG)∈scope.names->∃a,env.cells.lookup n=aa a):closureFor scope env=pure (kH env.cells scope.names []):=by
 delta closureFor;have key:∀(names:List (Str×fZ)) (acc:List (Str×aJ)),(∀n,(n,eG)∈names->∃a,env.cells.lookup n=aa a) ->
   (forIn names acc λ(x:Str×fZ) (cs:List (Str×aJ))=>(if(x.2==.free)=af then do let a<-cellOf env x.1;pure (d9 ((x.1,a)::cs))else pure (d9 cs):Sem (ForInStep (List (Str×aJ)))))=pure (kH env.cells names acc):=by
  intro names;induction names with
  |nil=>intro acc _;rfl
  |cons y r ih =>
   intro acc hn;obtain⟨n,k⟩:=y;rw[vZ,show kH env.cells ((n,k)::r) acc=if(k==eG)=af then kH env.cells r ((n,(env.cells.lookup n).getD 0)::acc)else kH env.cells r acc from rfl];by_cases hk:(k==eG)=af
   .obtain rfl:k=.free:=by simpa using hk
    obtain⟨a,ha⟩:=hn n (.head _);have hc:cellOf env n=pure a:=by delta cellOf;rw[ha]
    rw[if_pos hk,if_pos hk,hc,ha];exact ih _ λm hm=>hn m (.tail _ hm)
   .rw[if_neg hk,if_neg hk];exact ih _ λm hm=>hn m (.tail _ hm)
 have:=key scope.names [] h;refine Eq.trans (b:=(forIn scope.names ([]:List (Str×aJ)) λ(x:Str×fZ) (cs:List (Str×aJ))=>(if(x.2==.free)=af then do let a<-cellOf env x.1;pure (d9 ((x.1,a)::cs))else pure (d9 cs):Sem (ForInStep (List (Str×aJ))))) >>= λcs=>pure cs) ?_ ?_
 .rfl
 .rw[this];rfl
noncomputable def zi (sc:xg)(names:List (Str×fZ)):List (Str×fZ) :=
 names.map λ(n,k)=>if(k==.free&&sc.kind==.function&&sc.names.lookup n==aa .cell)then(n,.cell)else(n,k)
structure pL (c:Cx)(scope:xg)(x:Str):Prop where
 kind:scope.kind=.function
 A1:∀y∈scope.names,y.2≠.cell
 loc:∀y∈scope.names,y.2=.local->scope.names.lookup y.1=aa .local
 own:scope.names.lookup x=aa .local
 free:∀n,(n,eG)∈scope.names->c.env.kindOf n=aa .cell
 vars:∀y,(zi c.env.scope scope.names).lookup y=aa .local->y∈c.vt->y∈[x]
noncomputable def d7 (c:Cx)(scope:xg)(x:Str)(C:aJ)(X:List aJ)(cs:List V):Cx :=
 {c with env:=sd scope (kH c.env.cells scope.names []) C c.env,ct:=[x],cs:=cs,X:=X}
theorem ri {sc:xg}:∀ {names:List (Str×fZ)} {x:Str},(∀y∈names,y.2≠.cell)->(zi sc names).lookup x=aa .cell->(x,eG)∈names/\sc.names.lookup x=aa .cell
 |[],x,_,h=>by simp[zi]at h
 |(n,k)::r,x,hn,h=>by
  have ih:=@ri sc r x λy hy=>hn y (.tail _ hy);have e:zi sc ((n,k)::r)=(if(k==.free&&sc.kind==.function&&sc.names.lookup n==aa .cell)then(n,.cell)else(n,k))::zi sc r:=rfl;rw[e]at h
  split at h
  .rename_i hc
   simp only[bx,beq_iff_eq]at hc;rw[cf]at h
   split at h
   .rename_i hx
    have:x=n:=by simpa using hx
    subst this;obtain⟨⟨rfl,_⟩,e2⟩:=hc;exact⟨.head _,e2⟩
   .exact⟨.tail _ (ih h).1,(ih h).2⟩
  .rw[cf]at h
   split at h
   .rename_i hx
    have:x=n:=by simpa using hx
    subst this;exact absurd (aj h) (hn _ (.head _))
   .exact⟨.tail _ (ih h).1,(ih h).2⟩
section
variable {c:Cx}
theorem Br {x:Str}{m:Str->Option ax}(K:pL c scope x)(t:St c ρ σ h)(g:dG [] ρ h bJ h')(h1:∀b∈c.X,b∈X')(h2:∀b∈X',b∈c.X\/h.objs.size<=b)
  (hC:C∈X')(hC':h.objs.size<=C)(hm:h'.Ns C m):pI c.Z bJ X' h' (sd scope (kH c.env.cells scope.names []) C c.env) c.vt c.vs [x] []:=by
 have f:=t.fr.G4 t.rel g h1 h2;have ZF:∀n,(n,eG)∈scope.names->∃a,c.env.cells.lookup n=aa a:=λn hn=>t.fr.has n (K.free n hn);have GW:=mw c.env.cells scope.names [] ZF (λx a e=>by exact fv e);have lt:∀y a,c.env.cells.lookup y=aa a->a≠C:=λy a e q=>by obtain⟨_,_,w,o,ho,_⟩:=t.fr.cells y a e;exact absurd (bu ho) (bO.mpr (q▸hC'))
 exact{
  kind:=K.kind
  globals:=t.fr.globals
  builtins:=t.fr.builtins
  own:=hC
  ns:=⟨m,hm,λi y v e1 e2 e3 e4=>absurd (K.vars y e4 (aN e1)) e3,λi y v e1 e2 e3=>by exact fv e2⟩
  cell:=λi y v e1 e2 e3=>by obtain⟨hf,hk⟩:=ri K.A1 e3;refine mI (f.cell i y v e1 e2 (K.free y hf)) λa w b1 b2 b3=>?_;obtain⟨a',ha'⟩:=yg.mp (qC c.env.cells y scope.names [] (.inl hf));have:=GW y a' ha';rw[b1]at this;obtain rfl:=aj this;exact⟨a,w,ha',b2,b3⟩
  cells:=λy a e=>by have e':=GW y a e;refine qR (f.cells y a e') λa1 U a3=>?_;exact⟨a1,lt y a e',a3⟩
  has:=λy e=>by obtain⟨hf,_⟩:=ri K.A1 e;exact yg.mp (qC c.env.cells y scope.names [] (.inl hf))
  inj:=λy z a e1 e2=>t.fr.inj y z a (GW y a e1) (GW z a e2)}
theorem pI.item  {X:List aJ}{x:Str}{v:V}{w:ax}{m:Str->Option ax}(t:pI Z ρ X h env vt vs [x] cs)(R:Rel Z ρ X σ h)(sb:fu env.locals h h')(hm:h'.Ns env.locals λy=>if y=x then aa w else m y)
  (hv:∀y,env.kindOf y=aa .local->y∈vt->y∈[x])(r:bz ρ X h v w):pI Z ρ X h' env vt vs [x] [v]:=by
 have g:dG [env.locals] ρ h ρ h':=jb sb (.head _);have hF:∀b∈[env.locals],b∈X:=λb hb=>by rw[au.mp hb];exact t.own
 have n2:∀y c,env.cells.lookup y=aa c->c∉[env.locals]:=λy c e q=>(t.cells y c e).2.1 (au.mp q);exact{
  kind:=t.kind
  globals:=t.globals
  builtins:=t.builtins
  own:=t.own
  ns:=⟨_,hm,λi y v' e1 e2 e3 e4=>absurd (hv y e4 (aN e1)) e3,λi y v' e1 e2 e3=>by
   induction i using Nat.casesOn with
   |zero=>obtain rfl:=aj e1;obtain rfl:=aj e2;exact⟨w,if_pos rfl,bz.mono g hF (λU q=>.inl q) _ _ r⟩
   |succ i=>exact fv e1⟩
  cell:=λi y v' e1 e2 e3=>by refine mI (t.cell i y v' e1 e2 e3) λa w' b1 b2 b3=>?_;exact⟨a,w',b1,IsCell.grow b2 g (R.off (t.cells y a b1).1) (n2 y a b1),bz.mono g hF (λU q=>.inl q) _ _ b3⟩
  cells:=λy a e=>by obtain⟨a1,a2,w',a3⟩:=t.cells y a e;exact⟨a1,a2,w',IsCell.grow a3 g (R.off a1) (n2 y a e)⟩
  has:=t.has
  inj:=t.inj}
theorem pI.Gd  {X:List aJ}(t:pI Z ρ X h env vt vs ct cs):pI Z ρ X h env vt vs ct []:=by refine ti t.ns λm a b U=>?_;exact{t with ns:=⟨m,a,b,λi y v e1 e2 e3=>by exact fv e2⟩}
theorem I9 {xs:List X}(h:e8 (SB c) xs es):∀ρ s σ,St c ρ σ s.heap ->
  Run c.Z [] c.X ρ s TB (qT G c.Φ c.vs af xs c.cs σ) (λQ E=>aE (aC c.Z.prog c.Z.w) c.A (forIn es af λe r=>if r=af then do let ok<-pQ e c.env (eval e c.env);pure (d9 ok)else pure (d9 r)) Q E s):=by
 have skip:∀(es:List b8) (s:av) (Q:Bool->av->Prop) (E:ax->av->Prop),Q ag s->aE (aC c.Z.prog c.Z.w) c.A (forIn es ag λe r=>if r=af then do let ok<-pQ e c.env (eval e c.env);pure (d9 ok)else pure (d9 r)) Q E s:=by
  intro es;induction es with
  |nil=>intro s Q E q;exact aW q
  |cons e es ih =>intro s Q E q;rw[vZ];exact aq (ig (by simp only[cN,if_false];exact aW (ih s Q E q)))
 induction h with
 |nil=>intro ρ s σ t;exact .tj t.rel rfl λQ E q=>aW q
 |@cons x e l r ha hb hr ih =>
  intro ρ s σ t;rw[qx];refine Run.w (Run.seq (W2:=λb ay Q E=>aE (aC c.Z.prog c.Z.w) c.A (forIn r b λe r=>if r=af then do let ok<-pQ e c.env (eval e c.env);pure (d9 ok)else pure (d9 r)) Q E ay) (ha ρ s σ t) λb bj b' aH ay bY bP e=>?_) λQ E h=>?_
  .subst e;induction b with
   |true=>exact ih aH ay bj (t.go bY bP)
   |false=>exact .tj bP rfl λQ E q=>skip r ay Q E q
  .rw[vZ];refine aq (ig ?_);rw[if_pos rfl];exact aq (bo h (λb ay h₁=>aW h₁) λU U x=>x)
theorem Ok.cx {c':Cx}(D:Ok c mg mb)(h1:c'.Z=c.Z)(h2:c'.A=c.A)(h3:c'.l=c.l)(h4:c'.Φ=c.Φ):Ok c' mg mb:=by
 obtain⟨a,b,d,e,f,g,h,i,j,k,l⟩:=D
 constructor<;>(try rw[h1])<;>(try rw[h2])<;>(try rw[h3])<;>(try rw[h4])<;>assumption
theorem DM {Φ:Nat->List V->bp->R V}{l:List X}(h:jY l=af):(∃v,qT G Φ vs af l cs σ=.ok v σ)\/qT G Φ vs af l cs σ=.bad:=(og G Φ vs af l cs σ h).symm.imp id id
theorem zU {Φ:Nat->List V->bp->R V}{x:X}(h:gn x=af):(∃v,ev G Φ vs x cs σ=.ok v σ)\/ev G Φ vs x cs σ=.bad:=(d0 G Φ vs x cs σ h).symm.imp id id
theorem Go.zd  {F X:List aJ}{s:av}(g:Go F ρ s bJ s')(R:Rel Z ρ X σ s.heap)(R':Rel Z bJ X' σ s'.heap):ρ=bJ:=by
 (refine dB g.grow.pre λδ z1 U=>?_;subst z1);have h1:=R.len;have h2:=R'.len;have:δ.length=0:=by simp at h2;exact ab3 h1 h2
 rw[gf.mp this,aP]
theorem Bs (f:V->Option Bool)(e:V->Option V)(x:V)(r:List V):iI f e (x::r)=match f x with
  |some af=>match e x,iI f e r with
   |some y,aa ys=>aa (y::ys)
   |_,_=>ae
  |some ag=>iI f e r
  |none=>ae:=rfl
def ac8 (c:Cx)(scope:xg)(x:Str)(C Da:aJ)(X' own:List aJ)(it:aJ)(k:IK)(tf:V->Option Bool)(te:V->Option V)(l lv:List V)(ρ:List Pl)(σ:bp)(s:av)(n:Nat)(s':av):Prop :=
 ∃i ys done rest,n=l.length+1-i/\i<=l.length/\Go (C::Da::own) ρ s ρ s'/\St (d7 c scope x C X' []) ρ σ s'.heap/\dD ρ X' s'.heap own it k i/\s'.heap.PlainList Da ys/\bt ρ X' s'.heap done ys.toList/\lv=done++rest/\done.length<=i/\iI tf te (l.drop i)=aa rest
theorem DO (D:Ok c mg mb){x:Str}{e:X}{ifs:List X}(K:pL c scope x){own:List aJ}{l:List V}
  (he:∀v,SX (d7 c scope x C X' [v]) e elt)(hi:∀v,e8 (SB (d7 c scope x C X' [v])) ifs mq)
  (hk:∀i,itemAt k σ i=aa l[i]?)(Qr:∀n,k≠.live n af)(hlen:l.length<lim)(Qk:∀v b,tf v=aa b->qT G c.Φ c.vs af ifs [v] σ=.ok (.bool b) σ)(Ql:∀v y,te v=aa y->ev G c.Φ c.vs e [v] σ=.ok y σ)(hl:iI tf te l=aa lv)
  (OX:C∈X')(Ia:Da∈X')(H7:∀b∈own,b∈X')(hDC:Da≠C)(hoC:C∉own)(Zw:Da∉own)(CA:∀y a,(kH c.env.cells scope.names []).lookup y=aa a->a∉own/\a≠Da/\a≠C)(uP:∀e∈c.l,∀L,e.frame=aa L->L∉own/\L≠Da/\L≠C)
 {s:av}(t:St (d7 c scope x C X' []) ρ σ s.heap)(I:dD ρ X' s.heap own it k 0)(hD:s.heap.PlainList Da #[])
  (fin:∀s' ys,Go (C::Da::own) ρ s ρ s'->St (d7 c scope x C X' []) ρ σ s'.heap->s'.heap.PlainList Da ys->bt ρ X' s'.heap lv ys.toList->Rr (.ok .next) s') :
  gX (aC c.Z.prog c.Z.w) c.A (.compLoop (.ListComp elt [⟨.Name x px,iter,mq,0⟩] scope pos) 0 (.ref it) (.ref Da) (sd scope (kH c.env.cells scope.names []) C c.env)) Rr s:=by
 have hF:∀b∈C::Da::own,b∈X':=λb hb=>by
  rcases aM.mp hb with rfl|hb
  .exact OX
  .rcases aM.mp hb with rfl|hb
   .exact Ia
   .exact H7 b hb
 refine codeAny_compLoop_tests (ac8 c scope x C Da X' own it k tf te l lv ρ σ s) ?_ (l.length+1) (bB 0 ⟨#[],[],lv,rfl,bL _,.refl,t,I,hD,.nil,rfl,aO _,by simpa using hl⟩);rintro n ay ⟨i,ys,done,rest,rfl,hi',g,t,I,hD,r,rfl,hdl,hc⟩;have YS:∀e∈c.l,∀L,e.frame=aa L->L∉own:=λe he L hL=>(uP e he L hL).1;have DD:Ok (d7 c scope x C X' []) mg mb:=D.cx rfl rfl rfl rfl;refine wO (A:=c.A) t.rel D.hh I H7 (hk i) (Qn:=λs'=>Rr (.ok .next) s') (Qs:=λw s'=>aE (aC c.Z.prog c.Z.w) c.A (jg (.Name x px) (sd scope (kH c.env.cells scope.names []) C c.env) w) _ _ s') (LG:=λw s'=>aE (aC c.Z.prog c.Z.w) c.A (jg (.Name x px) (sd scope (kH c.env.cells scope.names []) C c.env) w) _ _ s')
  (λU U U U U U q=>q) (λn e=>absurd e (Qr n)) ?_ ?_
 .intro hv bH fN fO;have hil:i=l.length:=by
   have:l.length<=i:=by simpa using hv
   exact Wn hi' this
  have q6:=t.rZ fN.grow fO H7 hoC (λy a e=>(CA y a e).1) YS;subst hil;rw[mY]at hc;replace hc:[]=rest:=aj hc;subst hc;rw[aP]at fin;have GZ:bH.heap.PlainList Da ys:=by obtain⟨n,e⟩:=hD;exact⟨n,lN e (λU U q=>by exact bk q) fN.grow (t.rel.off Ia) Zw⟩
  refine fin bH ys (g.trans (fN.mono λb hb=>.tail _ (.tail _ hb))) q6 GZ (bt.mono fN.grow H7 (λU q=>.inl q) _ _ r)
 .intro v hv w bH fN fO PZ rv;have mX:i<l.length:=(aA.mp hv).1;have q6:=t.rZ fN.grow fO H7 hoC (λy a e=>(CA y a e).1) YS;have GZ:bH.heap.PlainList Da ys:=by obtain⟨n,e⟩:=hD;exact⟨n,lN e (λU U q=>by exact bk q) fN.grow (t.rel.off Ia) Zw⟩
  have f7:=bt.mono fN.grow H7 (λU q=>.inl q) _ _ r;have ZL:l.drop i=v::l.drop (i+1):=by
   rw[l4 mX];have:l[i]=v:=by have:=aA.mp hv;exact this.2
   rw[this]
  rw[ZL]at hc;refine dB q6.fr.ns λm hm U=>?_;refine nh (wpAny_storeName_local (lookup_relabel_local K.own) hm (λiZ Zx sb=>?_) (by simp[sd,relabel,K.kind]));have nC:∀y a,(kH c.env.cells scope.names []).lookup y=aa a->a≠C:=λy a e=>(CA y a e).2.2;have qN:Rel c.Z ρ X' σ iZ:=fO.but sb OX;have x7:Go [C] ρ bH ρ {bH with heap:=iZ,toks:=bH.toks+1}:=⟨jb sb (.head _),iZ,_,rfl⟩;have hC1:∀b∈[C],b∈X':=λb hb=>by rw[au.mp hb];exact OX
  have yW:St (d7 c scope x C X' [v]) ρ σ iZ:=⟨qN,pI.item q6.fr fO sb Zx K.vars rv,q6.oq.grow fO x7.grow λe he L hL q=>(uP e he L hL).2.2 (au.mp q)⟩;have PY:dD ρ X' iZ own it k (i+1):=PZ.grow fO x7.grow hC1 λb hb=>⟨H7 b hb,λq=>hoC (au.mp q▸hb)⟩;have ZS:iZ.PlainList Da ys:=by obtain⟨n,e⟩:=GZ;exact⟨n,(sb.2 Da hDC).trans e⟩
  have zf:=bt.mono x7.grow hC1 (λU q=>.inl q) _ _ f7;have Q6:=I9 (hi v) ρ {bH with heap:=iZ,toks:=bH.toks+1} σ yW;have aa4:=he v;rw[Bs]at hc;induction htv:tf v with
  |none=>rw[htv]at hc;exact fv hc
  |some b =>
   have eb:=Qk v b htv;rw[show qT G (d7 c scope x C X' [v]).Φ (d7 c scope x C X' [v]).vs af ifs (d7 c scope x C X' [v]).cs σ=.ok (.bool b) σ from eb]at Q6;rw[htv]at hc;refine Q6 _ _ λb' BI q7 x6 Bz e4=>?_;obtain rfl:=Internal.V.bool.inj e4;obtain rfl:=Go.zd (s:={bH with heap:=iZ,toks:=bH.toks+1}) x6 yW.rel Bz;have C9:=St.go (s:={bH with heap:=iZ,toks:=bH.toks+1}) yW x6 Bz;have aaz:dD ρ X' q7.heap own it k (i+1):=PY.grow qN x6.grow (λU q=>nomatch q) λb hb=>⟨H7 b hb,λq=>nomatch q⟩;have M1:q7.heap.PlainList Da ys:=by obtain⟨n,e⟩:=ZS;exact⟨n,lN e (λU U q=>by exact bk q) x6.grow (qN.off Ia) (λq=>nomatch q)⟩
   have ze:=bt.mono x6.grow (λU q=>nomatch q) (λU q=>.inl q) _ _ zf;have gg:Go (C::Da::own) ρ s ρ q7:=((g.trans (fN.mono λb hb=>.tail _ (.tail _ hb))).trans (x7.mono λb hb=>by rw[au.mp hb];exact .head _)).trans x6.any;induction b with
   |false =>simp only[cN,if_false];exact⟨_,by exact Wd hi' mX,bB (i+1) ⟨ys,done,rest,rfl,mX,gg,⟨C9.rel,C9.fr.Gd,C9.oq⟩,aaz,M1,ze,rfl,by exact Of hdl,hc⟩⟩
   |true =>
    simp only[if_true];dsimp only at hc;induction JY:te v with
    |none=>rw[JY]at hc;exact fv hc
    |some ve =>
     induction Ka:iI tf te (l.drop (i+1))with
     |none=>rw[JY,Ka]at hc;exact fv hc
     |some Q8 =>
      rw[JY,Ka]at hc;obtain rfl:=aj hc;have ee:=Ql v ve JY;have run:=aa4 ρ q7 σ C9;rw[show ev G (d7 c scope x C X' [v]).Φ (d7 c scope x C X' [v]).vs e (d7 c scope x C X' [v]).cs σ=.ok ve σ from ee]at run;refine run _ _ λy ac9 EO DJ KU aa3=>?_;obtain rfl:=Go.zd DJ C9.rel KU;have aaP:=C9.go DJ KU;have ac6:dD ρ X' EO.heap own it k (i+1):=aaz.grow Bz DJ.grow (λU q=>nomatch q) λb hb=>⟨H7 b hb,λq=>nomatch q⟩;have ZR:EO.heap.PlainList Da ys:=by obtain⟨n,e⟩:=M1;exact⟨n,lN e (λU U q=>by exact bk q) DJ.grow (Bz.off Ia) (λq=>nomatch q)⟩
      have Q5:=bt.mono DJ.grow (λU q=>nomatch q) (λU q=>.inl q) _ _ ze;have hys:ys.size=done.length:=by have:=ze.length;simp at this;exact ab0 this
      refine wpAny_list_append_plain (hsz:=by have:=iu;exact abZ hlen hdl mX hys this) ZR λGJ Zz Le=>?_;have hD1:∀b∈[Da],b∈X':=λb hb=>by rw[au.mp hb];exact Ia
      have ac4:Rel c.Z ρ X' σ GJ:=Rel.but KU Le Ia;have G2:Go [Da] ρ EO ρ {EO with heap:=GJ}:=⟨jb Le (.head _),GJ,EO.toks,rfl⟩;have Nv:St (d7 c scope x C X' [v]) ρ σ GJ:=St.rZ (c:=d7 c scope x C X' [v]) aaP G2.grow ac4 hD1 (λq=>hDC (au.mp q).symm) (λy a e q=>(CA y a e).2.1 (au.mp q)) (λe he L hL q=>(uP e he L hL).2.1 (au.mp q));have ac5:dD ρ X' GJ own it k (i+1):=ac6.grow KU G2.grow hD1 λb hb=>⟨H7 b hb,λq=>Zw (au.mp q▸hb)⟩;refine⟨_,by exact Wd hi' mX,i+1,ys.push y,done++[ve],Q8,rfl,mX,(gg.trans DJ.any).trans (G2.mono λb hb=>by rw[au.mp hb];exact .tail _ (.head _)),⟨Nv.rel,Nv.fr.Gd,Nv.oq⟩,ac5,Zz,?_,by simp,by simp;exact hdl,Ka⟩;rw[Array.toList_push];exact(bt.mono G2.grow hD1 (λU q=>.inl q) _ _ Q5).append (.cons (bz.mono G2.grow hD1 (λU q=>.inl q) _ _ aa3) .nil)
end
section
variable {X:List aJ}
mutual
theorem bz.adopt (h1:∀b∈X,b∈X')(hD:Da∈X'):∀(v:V) (w:ax),bz ρ X' h v w->bz (ρ++[⟨Da,ae⟩]) X h v w
 |.none=>λU r=>r
 |.bool _=>λU r=>r
 |.int _=>λU r=>r
 |.str _=>λU r=>r
 |.tup l=>λw r=>by(refine wH r λa vs z1 k n t q=>?_;try clear r;subst z1);exact bB a ⟨vs,rfl,k.append λp hp z=>by rw[au.mp hp]at z;simp[Pl.lW]at z;exact n (z▸hD),λz=>n (h1 a z),t,bt.adopt h1 hD l vs q⟩
 |.lst l=>λw r=>by(refine wH r λa vs z1 k n t q=>?_;try clear r;subst z1);exact bB a ⟨vs,rfl,k.append λp hp z=>by rw[au.mp hp]at z;simp[Pl.lW]at z;exact n (z▸hD),λz=>n (h1 a z),t,bt.adopt h1 hD l vs q⟩
 |.loc n=>λw r=>by(refine dB r λp e z1=>?_;try clear r;subst z1);exact bB p ⟨by rw[aZ (aA.mp e).1];exact e,rfl⟩
theorem bt.adopt (h1:∀b∈X,b∈X')(hD:Da∈X'):∀(l:List V) (ws:List ax),bt ρ X' h l ws->bt (ρ++[⟨Da,ae⟩]) X h l ws
 |[]=>λU r=>r
 |v::l=>λws r=>by(refine mI r λw t z1 a b=>?_;try clear r;subst z1);exact bB w ⟨t,rfl,bz.adopt h1 hD v w a,bt.adopt h1 hD l t b⟩
end
theorem fq.adopt {K:Type}(h1:∀b∈X,b∈X')(hD:Da∈X'):∀(l:List (K×V)) (ws:List (K×ax)),fq ρ X' h l ws->fq (ρ++[⟨Da,ae⟩]) X h l ws
 |[]=>λU r=>r
 |(k,v)::l=>λws r=>by(refine mI r λw t z1 a b=>?_;try clear r;subst z1);exact bB w ⟨t,rfl,bz.adopt h1 hD v w a,fq.adopt h1 hD l t b⟩
theorem iB.adopt (h1:∀b∈X,b∈X')(hD:Da∈X'):∀(fs:List Str) (l:List V) (es:List gK),iB ρ X' h fs l es->iB (ρ++[⟨Da,ae⟩]) X h fs l es
 |_,[]=>λU r=>r
 |[],_::_=>λU r=>by exact r.elim
 |f::fs,v::l=>λes r=>by(refine Oq r λhash t w q z1 a b=>?_;try clear r;subst z1);exact bB hash ⟨t,w,q,rfl,bz.adopt h1 hD v w a,iB.adopt h1 hD fs l q b⟩
theorem Rel.adopt  {l:List V}{vs:List ax}(R:Rel Z ρ X' σ h)(h1:∀b∈X,b∈X')(hD:Da∈X')(hn:Da∉X)(p:h.PlainList Da vs.toArray)(r:bt ρ X' h l vs):Rel Z (ρ++[⟨Da,ae⟩]) X (σ++[.list l]) h:=by
 have at_:∀ {i:Nat} {q:Pl},(ρ++[(⟨Da,ae⟩:Pl)])[i]?=aa q->(ρ[i]?=aa q/\i<ρ.length)\/(i=ρ.length/\q=⟨Da,ae⟩):=λ{i q} e=>by
  rcases jC i ρ.length with l|l
  .rw[aZ l]at e;exact .inl ⟨e,l⟩
  .rw[cB l]at e;have:i-ρ.length=0:=by
    rcases Nat.eq_zero_or_pos (i-ρ.length)with z|z
    .exact z
    .rw[CR (by simp only[az,aD];exact qq9 z)]at e;exact fv e
   rw[this]at e;exact .inr ⟨by exact YH l this,(aj e).symm⟩
 refine⟨R.keep,R.bsize,λx hx=>R.D4 x (h1 x hx),λx hx=>R.vF x (h1 x hx),by simp[R.len],λq hq y hy=>?_,λi j q r y hi hj hy hz=>?_,λq hq=>?_,λi q oi hi yr=>?_⟩
 .rcases bg.mp hq with m|m
  .exact⟨(R.ge q m y hy).1,λz=>(R.ge q m y hy).2 (h1 y z)⟩
  .rw[au.mp m]at hy;simp[Pl.lW]at hy;obtain rfl:=fb (hy);exact⟨R.D4 _ hD,hn⟩
 .rcases at_ hi with⟨a,_⟩|⟨rfl,rfl⟩<;>rcases at_ hj with⟨b,_⟩|⟨rfl,rfl⟩
  .exact R.sep i j q r y a b hy hz
  .simp[Pl.lW]at hz;subst hz;exact absurd hD (R.ge q (aN a) _ hy).2
  .simp[Pl.lW]at hy;subst hy;exact absurd hD (R.ge r (aN b) _ hz).2
  .rfl
 .rcases bg.mp hq with m|m
  .exact R.self q m
  .rw[au.mp m];simp
 .rcases at_ hi with⟨a,lt⟩|⟨rfl,rfl⟩
  .rw[aZ (by rw[<- R.len];exact lt)]at yr;have ob:=R.obj i q oi a yr;induction oi with
   |list l=>exact⟨ob.1,let ⟨vs,p,r⟩:=ob.2;⟨vs,p,bt.adopt h1 hD _ _ r⟩⟩
   |cH l=>exact⟨ob.1,let ⟨vs,p,r⟩:=ob.2;⟨vs,p,fq.adopt h1 hD _ _ r⟩⟩
   |dN l=>exact⟨ob.1,let ⟨vs,p,r⟩:=ob.2;⟨vs,p,fq.adopt h1 hD _ _ r⟩⟩
   |inst l=>(refine MF ob λdx es n a b d e=>?_;try clear ob);exact⟨dx,es,n,a,b,d,iB.adopt h1 hD _ _ _ e⟩
  .rw[R.len,cB (aO _)]at yr;simp only[oA,ah,dY]at yr;subst yr;exact⟨rfl,vs,p,bt.adopt h1 hD _ _ r⟩
end
section
variable {c:Cx}
theorem DF {X:List aJ}{s:av}{own:List aJ}{i:Nat}(I:dD ρ X s.heap own it k i){Q:ax->av->Prop}{E:ax->av->Prop}(q:Q (.ref it) s):aE (aC c.Z.prog c.Z.w) c.A (pP (.ref it)) Q E s:=by
 induction I with
 |lst _ _ _ _ t=>exact wpAny_pyIter_listiter t q
 |tup _ _ _ _ t=>exact wpAny_pyIter_tupleiter t q
 |nz t _=>exact wpAny_pyIter_rangeiter t q
 |live _ t=>exact wpAny_pyIter_listiter t q
 |pA _ _ t _=>exact wpAny_pyIter_enum t q
theorem dD.plus {X:List aJ}{own:List aJ}{i:Nat}(I:dD ρ X h own it k i)(x1:Ext h h₁){N:List aJ}(fr1:∀b∈N,h.objs.size<=b):dD ρ (N++X) h₁ own it k i:=by
 have off:∀ {a:aJ} {o:Obj},h.get? a=aa o->a∉X->a∉N++X:=λea n q=>(bg.mp q).elim (λz=>absurd (bu ea) (bO.mpr (fr1 _ z))) n;induction I with
 |lst o x p r t=>exact .lst o (let ⟨n,ea⟩:=p;off ea x) (let ⟨n,ea⟩:=p;⟨n,x1.2 _ _ ea⟩) (r.plus x1 fr1) (let ⟨o,ea,d⟩:=t;⟨o,x1.2 _ _ ea,d⟩)
 |tup o x p r t=>exact .tup o (let ⟨n,ea⟩:=p;off ea x) (let ⟨n,ea⟩:=p;⟨n,x1.2 _ _ ea⟩) (r.plus x1 fr1) (let ⟨o,ea,d⟩:=t;⟨o,x1.2 _ _ ea,d⟩)
 |nz t hle=>exact .nz (x1.2 _ _ t) hle
 |live ea t=>exact .live ea (let ⟨o,ea,d⟩:=t;⟨o,x1.2 _ _ ea,d⟩)
 |pA ek ne t t'=>exact .pA ek ne (x1.2 _ _ t) (let ⟨o,ea,d⟩:=t';⟨o,x1.2 _ _ ea,d⟩)
theorem uW (D:Ok c mg mb){x:Str}{e:X}{ifs:List X}(K:pL c scope x){own:List aJ}{l:List V}
  (he:∀C X' v,SX (d7 c scope x C X' [v]) e elt)(hi:∀C X' v,e8 (SB (d7 c scope x C X' [v])) ifs mq){En:List Pl}{BH:bp}{AM s:av}
  (hk:∀i,itemAt k σ i=aa l[i]?)(Qr:∀n,k≠.live n af)(hlen:l.length<lim)(Qk:∀v b,tf v=aa b->qT G c.Φ c.vs af ifs [v] σ=.ok (.bool b) σ)(Ql:∀v y,te v=aa y->ev G c.Φ c.vs e [v] σ=.ok y σ)(hl:iI tf te l=aa lv)
  (t₀:St c En BH AM.heap)(G3:Go [] En AM ρ s)(R:Rel c.Z ρ (own++c.X) σ s.heap)(I:dD ρ (own++c.X) s.heap own it k 0)(sQ:∀b∈own,AM.heap.objs.size<=b){RR:ax->aJ->sD->av->Prop}{E:ax->av->Prop}
  (fin:∀Da C X' s' ys m,(∀b∈own++c.X,b∈X')->C∈X'->Da∈X'->s.heap.objs.size<=Da->s.heap.objs.size<=C->Da≠C->Go own ρ s ρ s'->Rel c.Z ρ X' σ s'.heap->s'.heap.PlainList Da ys->bt ρ X' s'.heap lv ys.toList->s'.heap.Ns C m ->
   (∀b∈X',b∈c.X\/AM.heap.objs.size<=b)->RR (.ref Da) C (.ok .next) s') :
  aE (aC c.Z.prog c.Z.w) c.A (newList []) (λacc fU=>aE (aC c.Z.prog c.Z.w) c.A (newFunctionEnv scope c.env.globals (kH c.env.cells scope.names []) [] c.env.qual ae .none (aa c.env)) (λHF q7 =>
   gX (aC c.Z.prog c.Z.w) c.A (.compStart (.ListComp elt [⟨.Name x px,iter,mq,0⟩] scope pos) 0 (.ref it) acc {HF with scope:=relabel scope c.env}) (RR acc HF.locals) q7) E fU) E s:=by
 refine jU (wpAny_newFunctionEnv K.A1 (by intro y hy;simp at hy) (λh₁ Bi uO=>?_) K.kind);dsimp only at Bi uO ⊢;generalize hH2:s.heap.push {cls:=.type "list",dict:=ae,data:=.seq ([]:List ax).toArray}=H2 at Bi uO ⊢;have hC:H2.objs.size=s.heap.objs.size+1:=by rw[<- hH2,iA]
 have mX:s.heap.objs.size<H2.objs.size:=by exact Yc hC
 have hz:h₁.objs.size=s.heap.objs.size+2:=by rw[uO.1,iA,hC]
 have x1:Ext s.heap h₁:=⟨by exact Og hz,λb o eb=>by have lb:=bu eb;refine(uO.2 b (dh (tF lb mX))).trans (br _ ?_);rw[<- hH2];exact br _ eb⟩
 have Kb:h₁.PlainList s.heap.objs.size #[]:=⟨0,(uO.2 _ (dh mX)).trans (br _ (by rw[<- hH2];exact cE _ rfl))⟩;have fr:∀b∈[H2.objs.size,s.heap.objs.size],s.heap.objs.size<=b/\b<h₁.objs.size:=by
  intro b hb;simp only[aM,ba,or_false]at hb;rcases hb with rfl|rfl
  .constructor<;>lia
  .constructor<;>lia
 have aay:∀b∈[H2.objs.size,s.heap.objs.size]++(own++c.X),b∈c.X\/AM.heap.objs.size<=b:=λb hb=>by
  rcases bg.mp hb with q|q
  .exact .inr (aQ G3.grow.size (fr b q).1)
  .rcases bg.mp q with q|q
   .exact .inr (sQ b q)
   .exact .inl q
 have OX:H2.objs.size∈[H2.objs.size,s.heap.objs.size]++(own++c.X):=.head _;have Ia:s.heap.objs.size∈[H2.objs.size,s.heap.objs.size]++(own++c.X):=.tail _ (.head _);have bP:Rel c.Z ρ ([H2.objs.size,s.heap.objs.size]++(own++c.X)) σ h₁:=R.plus x1 fr;have gg:Go [] En AM ρ {s with heap:=h₁,toks:=s.toks}:=G3.trans (Go.ext x1);have eU:St (d7 c scope x H2.objs.size ([H2.objs.size,s.heap.objs.size]++(own++c.X)) []) ρ σ h₁ :=
  ⟨bP,Br K t₀ gg.grow (λb q=>aU _ (aU _ q)) aay OX (aQ G3.grow.size (FP hC)) Bi,
   (t₀.oq.grow t₀.rel gg.grow λU U U U q=>nomatch q).less λb q=>aU _ (aU _ q)⟩
 have ME:∀b∈own,b<s.heap.objs.size:=λb hb=>R.vF b (bS _ hb);have HX:=I.plus x1 (N:=[H2.objs.size,s.heap.objs.size]) λb hb=>(fr b hb).1;have loop:∀fU:av,fU={s with heap:=h₁,toks:=s.toks+([]:List (Str×ax)).length} ->
   gX (aC c.Z.prog c.Z.w) c.A (.compLoop (.ListComp elt [⟨.Name x px,iter,mq,0⟩] scope pos) 0 (.ref it) (.ref s.heap.objs.size) (sd scope (kH c.env.cells scope.names []) H2.objs.size c.env)) (RR (.ref s.heap.objs.size) H2.objs.size) fU:=by
  rintro fU rfl;refine DO D K (X':=[H2.objs.size,s.heap.objs.size]++(own++c.X)) (he _ _) (hi _ _) hk Qr hlen Qk Ql hl OX Ia (λb hb=>aU _ (bS _ hb)) (dh mX) (λq=>absurd (ME _ q) (bO.mpr (dj mX))) (λq=>absurd (ME _ q) (gV _))
   (λy a ea=>?_) (λen OT L hL=>?_) eU HX Kb λs' ys g' t' p' r'=>?_
  .have ea':=mw c.env.cells scope.names [] (λn hn=>t₀.fr.has n (K.free n hn)) (λx a e=>by exact fv e) y a ea;obtain⟨_,_,w,o,ho,_⟩:=t₀.fr.cells y a ea';have lt:=bu ho;have lt':=bK lt G3.grow.size;exact⟨λq=>absurd lt (bO.mpr (sQ a q)),dh lt',dh (tF lt' mX)⟩
  .obtain⟨_,L',o,es,n,Bl,_,ho,_⟩:=t₀.oq en OT;rw[hL]at Bl;obtain rfl:=fb (aj Bl);have lt:=bu ho;have lt':=bK lt G3.grow.size;exact⟨λq=>absurd lt (bO.mpr (sQ L' q)),dh lt',dh (tF lt' mX)⟩
  .refine dB t'.fr.ns λm' H8 U=>?_;refine fin s.heap.objs.size H2.objs.size ([H2.objs.size,s.heap.objs.size]++(own++c.X)) s' ys m' (λb hb=>aU _ hb) OX Ia (aO _) (dj mX) (dh mX) ?_ t'.rel p' r' H8 aay;have g2:=(Go.ext (F:=H2.objs.size::s.heap.objs.size::own) (ρ:=ρ) (s:=s) (t:=s.toks+([]:List (Str×ax)).length) x1).trans g';exact Go.qy (own:=[H2.objs.size,s.heap.objs.size]) g2 λb hb=>(fr b hb).1
 exact codeAny_compStart_list (loop _ rfl) (DF HX (loop _ rfl))
end
section
variable {c:Cx}
def j3 {α:Type}(Φ:Nat->List V->bp->R V)(vs:Vs)(e:X)(ifs:List X)(f2:List V->bp->R α)(k:IK)(σ:bp):R α:=match itemsOf k σ with
 |some l=>if gn e&&jY ifs&&decide (l.length<lim)then
   match iI (λx=>match R.val (qT G Φ vs af ifs [x] σ)with|some (.bool b)=>aa b|_=>ae) (λx=>R.val (ev G Φ vs e [x] σ)) l with
   |some ys=>f2 ys σ
   |none=>.bad
  else .bad
 |none=>.bad
theorem Kl {Φ:Nat->List V->bp->R V}{m:Bool}{e it:X}{ifs:List X}  : ev G Φ vs (.comp m e it ifs) cs σ=(uT G Φ vs it cs σ).bind (j3 Φ vs e ifs (gP m)):=rfl
theorem Bt {α β:Type}{Φ:Nat->List V->bp->R V}{e:X}{ifs:List X}{f2:List V->bp->R α}(g:α->bp->R β):(j3 Φ vs e ifs f2 k σ).bind g=j3 Φ vs e ifs (λys σ=>(f2 ys σ).bind g) k σ:=by
 delta j3;rcases itemsOf k σ with _|l
 .rfl
 .dsimp only;by_cases h:(gn e&&jY ifs&&decide (l.length<lim))=af
  .rw[if_pos h,if_pos h];rcases iI (λx=>match Internal.R.val (qT G Φ vs af ifs [x] σ)with|some (.bool b)=>aa b|_=>ae) (λx=>Internal.R.val (ev G Φ vs e [x] σ)) l with _|ys<;>rfl
  .rw[if_neg h,if_neg h]
theorem HD {α:Type}{Φ:Nat->List V->bp->R V}{e:X}{ifs:List X}{f2:List V->bp->R α}  : j3 Φ vs e ifs f2 k σ=.bad\/∃ys,j3 Φ vs e ifs f2 k σ=f2 ys σ:=by
 delta j3;rcases itemsOf k σ with _|l
 .exact .inl rfl
 .dsimp only;by_cases h:(gn e&&jY ifs&&decide (l.length<lim))=af
  .rw[if_pos h];rcases iI (λx=>match Internal.R.val (qT G Φ vs af ifs [x] σ)with|some (.bool b)=>aa b|_=>ae) (λx=>Internal.R.val (ev G Φ vs e [x] σ)) l with _|ys
   .exact .inl rfl
   .exact .inr ⟨ys,rfl⟩
  .rw[if_neg h];exact .inl rfl
theorem A9  {l:List V}(h:itemsOf k σ=aa l):(∀i,itemAt k σ i=aa l[i]?)/\∀n,k≠.live n af:=by
 induction k with
 |items l'=>obtain rfl:=aj h;exact⟨λi=>rfl,λU q=>nomatch q⟩
 |live n b =>
  induction b with
  |true=>exact fv h
  |false =>refine⟨λi=>?_,λU q=>nomatch q⟩;obtain⟨l',e,q⟩:=uA (f:=λl=>aa l) h;obtain rfl:=aj q;refine(?_:(match σ[n]? with|some (.list l)=>aa (l[i]?.map λx=>if ag=af then V.tup [.int i,x]else x)|_=>ae)=_);rw[e];simp only[cN,if_false,Option.map_id']
theorem w6 (D:Ok c mg mb){x:Str}{e y:X}{ifs:List X}(K:pL c scope x)(he:∀C X' v,SX (d7 c scope x C X' [v]) e elt)(hi:∀C X' v,e8 (SB (d7 c scope x C X' [v])) ifs mq)(hy:sW c y iter)
  (hs:∀v,iG iter c.env v=pure v)(wW:∀a,y≠.pA a){α β:Type}{F:List aJ}{T:List Pl->bV->α->β->Prop}{f2:List V->bp->R α}{Wq:(β->av->Prop)->ax->av->Prop}{s:av}(t:St c ρ σ s.heap)
  (final:∀lv aH bj ay own Da C X' s' ys m,Go [] ρ s aH ay->Go own aH ay aH s'->(∀b∈own,s.heap.objs.size<=b)->(∀b∈own++c.X,b∈X')->C∈X'->Da∈X'->ay.heap.objs.size<=Da->ay.heap.objs.size<=C->Da≠C->Rel c.Z aH X' bj s'.heap->s'.heap.PlainList Da ys->bt aH X' s'.heap lv ys.toList ->
   s'.heap.Ns C m->(∀b∈X',b∈c.X\/s.heap.objs.size<=b)->Run c.Z (Da::C::own++F) c.X aH ay T (f2 lv bj) (λQ E=>compPost (aC c.Z.prog c.Z.w) c.A E use (Wq Q) (.ref Da) C (.ok .next) s')) :
  Run c.Z F c.X ρ s T ((uT G c.Φ c.vs y c.cs σ).bind (j3 c.Φ c.vs e ifs f2)) (λQ E=>aE (aC c.Z.prog c.Z.w) c.A (Eh (.ListComp elt [⟨.Name x px,iter,mq,0⟩] scope pos) scope c.env (firstIterPos [⟨.Name x px,iter,mq,0⟩] pos) (newList []) ag (eval iter c.env) use) (Wq Q) E s):=by
 refine Run.w (hy ρ s σ t (W2:=λit bH Q E=>aE (aC c.Z.prog c.Z.w) c.A (newList []) (λacc fU=>aE (aC c.Z.prog c.Z.w) c.A (newFunctionEnv scope c.env.globals (kH c.env.cells scope.names []) [] c.env.qual ae .none (aa c.env)) (λHF q7 =>
   gX (aC c.Z.prog c.Z.w) c.A (.compStart (.ListComp elt [⟨.Name x px,iter,mq,0⟩] scope pos) 0 it acc {HF with scope:=relabel scope c.env}) (compPost (aC c.Z.prog c.Z.w) c.A E use (Wq Q) acc HF.locals) q7) E fU) E bH) λk bj aH ay it own g R I fr nl=>?_)
  λQ E q=>wpAny_comprehension_free (use:=use) rfl hs (Bu λn hn=>t.fr.has n (K.free n hn)) K.kind K.loc q
 refine Run.Jq λl hl=>?_
 .refine Run.ite λhp=>?_
  .simp only[bx,decide_eq_true_eq]at hp;refine Run.Jq λlv J5=>?_
   .have hk:=A9 hl;have Qk:∀v b,(match Internal.R.val (qT G c.Φ c.vs af ifs [v] bj)with|some (V.bool b)=>aa b|_=>ae)=aa b->qT G c.Φ c.vs af ifs [v] bj=.ok (.bool b) bj:=λv b q=>by
     rcases DM (Φ:=c.Φ) (vs:=c.vs) (l:=ifs) (cs:=[v]) (σ:=bj) hp.1.2 with⟨w,e'⟩|e'
     .rw[e']at q ⊢;induction w using V.casesOn with
      |bool b'=>obtain rfl:=aj q;rfl
      |_=>exact fv q
     .rw[e']at q;exact fv q
    have Ql:∀v w,Internal.R.val (ev G c.Φ c.vs e [v] bj)=aa w->ev G c.Φ c.vs e [v] bj=.ok w bj:=λv w q=>by
     rcases zU (Φ:=c.Φ) (vs:=c.vs) (x:=e) (cs:=[v]) (σ:=bj) hp.1.1 with⟨w',e'⟩|e'
     .rw[e']at q ⊢;obtain rfl:=aj q;rfl
     .rw[e']at q;exact fv q
    have key:=λ(Da C:aJ) (X':List aJ) (s':av) (ys:Array ax) (m:Str->Option ax) h1 h2 h3 h4 h5 h6 h7 h8 h9 ZZ ZY ZX=>final lv aH bj ay own Da C X' s' ys m g h7 fr h1 h2 h3 h4 h5 h6 h8 h9 ZZ ZY ZX;induction hf:f2 lv bj with
    |bad=>trivial
    |ok a cD =>
     refine λQ E q=>uW D K he hi hk.1 hk.2 hp.2 Qk Ql J5 t g R I fr (RR:=λacc C=>compPost (aC c.Z.prog c.Z.w) c.A E use (Wq Q) acc C) λDa C X' s' ys m h1 h2 h3 h4 h5 h6 h7 h8 h9 ZZ ZY ZX=>?_;have:=key Da C X' s' ys m h1 h2 h3 h4 h5 h6 h7 h8 h9 ZZ ZY ZX;rw[hf]at this;refine this Q E λb bJ lK g'=>q b bJ lK ?_;have g2:Go ([Da,C]++(own++F)) aH ay bJ lK:=g';exact g2.qy λb hb=>by
      simp only[aM,ba,or_false]at hb;rcases hb with rfl|rfl
      .exact h4
      .exact h5
    |exc cD =>
     refine λQ E q=>uW D K he hi hk.1 hk.2 hp.2 Qk Ql J5 t g R I fr (RR:=λacc C=>compPost (aC c.Z.prog c.Z.w) c.A E use (Wq Q) acc C) λDa C X' s' ys m h1 h2 h3 h4 h5 h6 h7 h8 h9 ZZ ZY ZX=>?_;have:=key Da C X' s' ys m h1 h2 h3 h4 h5 h6 h7 h8 h9 ZZ ZY ZX;rw[hf]at this;refine this Q E λb bJ lK g' R' y=>q b bJ lK ?_ R' y;have g2:Go ([Da,C]++(own++F)) aH ay bJ lK:=g';exact g2.qy λb hb=>by
      simp only[aM,ba,or_false]at hb;rcases hb with rfl|rfl
      .exact h4
      .exact h5
theorem wK {m:Bool}{ys:List ax}{v:V}(R:Rel c.Z ρ X' σ h)(h1:∀b∈c.X,b∈X')(hD:Da∈X')(hn:Da∉c.X)(p:h.PlainList Da ys.toArray)(r:bt ρ X' h lv ys)(e:gP m lv σ=.ok v cD) :
  ∃bJ,(∃δ,bJ=ρ++δ/\∀p∈δ,p=⟨Da,ae⟩)/\Rel c.Z bJ c.X cD h/\bz bJ c.X h v (.ref Da)/\∀v w,bz ρ X' h v w->bz bJ c.X h v w:=by
 unfold gP at e
 split at e
 .induction m with
  |true =>simp only[if_true]at e;(obtain⟨rfl,rfl⟩:=rI e);refine⟨_,⟨[⟨Da,ae⟩],rfl,by simp⟩,R.adopt h1 hD hn p r,?_,λv w=>bz.adopt h1 hD v w⟩;exact bB ⟨Da,ae⟩ ⟨by rw[<- R.len];simp,rfl⟩
  |false =>simp only[cN,if_false]at e;(obtain⟨rfl,rfl⟩:=rI e);refine⟨ρ,⟨[],by simp,by simp⟩,R.less h1,?_,λv w q=>q.less h1⟩;exact bB Da ⟨ys,rfl,R.off hD,hn,p,r.less h1⟩
 .exact Ra e
theorem ux {m:Bool}{l:List V}(e:gP m l σ=.exc cD):False:=by
 unfold gP at e
 split at e
 .split at e<;>exact Q9 e
 .exact B6 e
theorem Go.more {F:List aJ}{δ:List Pl}{s:av}(g:Go F ρ s ρ s')(GK:∀p∈δ,p=⟨Da,ae⟩)(h:s.heap.objs.size<=Da):Go F ρ s (ρ++δ) s' :=
 ⟨⟨⟨δ,rfl,λp hp x hx=>by rw[GK p hp]at hx;simp[Pl.lW]at hx;obtain rfl:=fb (hx);exact h⟩,g.grow.size,g.grow.ev⟩,g.same⟩
theorem ET (D:Ok c mg mb){m:Bool}{x:Str}{e y:X}{ifs:List X}(K:pL c scope x)(he:∀C X' v,SX (d7 c scope x C X' [v]) e elt)(hi:∀C X' v,e8 (SB (d7 c scope x C X' [v])) ifs mq)(hy:sW c y iter)
  (hs:∀v,iG iter c.env v=pure v)(wW:∀a,y≠.pA a):SX c (.comp m e y ifs) (.ListComp elt [⟨.Name x px,iter,mq,0⟩] scope pos):=λρ s σ t=>by
 rw[Kl];refine Run.w (w6 (px:=px) (pos:=pos) (use:=ae) (Wq:=λQ v=>Q v) D K he hi hy hs wW t λlv aH bj ay own Da C X' s' ys m' g1 g2 ho hX hC hD ZT hCs pS R p r hm hX'=>?_) λQ E q=>by rw[eval_ListComp];exact q
 have hn:Da∉c.X:=λq=>absurd (t.rel.vF _ q) (bO.mpr (aQ g1.grow.size ZT));induction e':gP m lv bj with
 |bad=>trivial
 |exc cD=>exact(ux e').elim
 |ok v cD =>
  refine λQ E q=>⟨m',hm,λh' sb=>?_⟩;have R':Rel c.Z aH X' bj h':=R.but sb hC;have p':h'.PlainList Da ys.toList.toArray:=by obtain⟨n,ea⟩:=p;exact⟨n,by rw[(sb.2 Da pS).trans ea]⟩
  have gC:dG [C] aH s'.heap aH h':=jb sb (.head _);have r':bt aH X' h' lv ys.toList:=bt.mono gC (λb hb=>by rw[au.mp hb];exact hC) (λU q=>.inl q) _ _ r;(refine o13 (wK R' (λb hb=>hX b (aU _ hb)) hD hn p' r' e') λbJ z1 R2 rv U=>?_;obtain⟨δ,rfl,GK⟩:=z1);refine q (.ref Da) (aH++δ) {s' with heap:=h'} (Go.more ?_ GK ZT) R2 rv;have g3:Go (Da::C::own++[]) aH ay aH s':=g2.mono λb hb=>.tail _ (.tail _ (bS _ hb));exact g3.trans ⟨gC.mono λb hb=>by rw[au.mp hb];exact .tail _ (.head _),h',s'.toks,rfl⟩
end
noncomputable abbrev Cx.wv (c:Cx)(vs:Vs):Cx:={c with vs:=vs}
noncomputable abbrev Cx.wx (c:Cx)(X:List aJ):Cx:={c with X:=X}
noncomputable def iF (c:Cx):List aJ:=c.env.locals::c.env.cells.map (·.2)
theorem da.back {X:List aJ}(a:da X h l)(b:da X' h' l):da X h' l:=λe he=>by obtain⟨k,L,_,_,_,hL,m,_⟩:=a e he;obtain⟨_,L',o,es,n,Bl,_,ho,hd⟩:=b e he;rw[hL]at Bl;obtain rfl:=aj Bl;exact⟨k,L,o,es,n,hL,m,ho,hd⟩
def cG (c:Cx){α β:Type}(ρ:List Pl)(s:av)(T:List Pl->bV->α->β->Prop)(r:R α)(W:(β->av->Prop)->(ax->av->Prop)->Prop):Prop :=
 match r with
 |.ok a cD=>∀Q E,(∀b bJ s',Go (iF c) ρ s bJ s'->Rel c.Z bJ c.X cD s'.heap->T bJ s'.heap a b->Q b s')->W Q E
 |.exc cD=>∀Q E,(∀e bJ s',Go (iF c) ρ s bJ s'->Rel c.Z bJ c.X cD s'.heap->Au c.Z s.heap e s'.heap->da c.X s'.heap c.l->E (.ref e) s')->W Q E
 |.bad=>True
theorem cG.ite {c:Cx}{α β:Type}{s:av}{T:List Pl->bV->α->β->Prop}{W:(β->av->Prop)->(ax->av->Prop)->Prop}{c':Prop}[Decidable c']{r:R α}(h:c'->cG c ρ s T r W):cG c ρ s T (if c' then r else .bad) W:=by
 by_cases hc:c'
 .rw[if_pos hc];exact h hc
 .rw[if_neg hc];trivial
theorem cG.opts {c:Cx}{α β:Type}{s:av}{T:List Pl->bV->α->β->Prop}{W:(β->av->Prop)->(ax->av->Prop)->Prop}{o:Option bp}{f:bp->R α}(h:∀a,o=aa a->cG c ρ s T (f a) W):cG c ρ s T (match (generalizing:=false) o with|some a=>f a|none=>.bad) W:=by
 induction o with
 |none=>trivial
 |some a=>exact h a rfl
theorem cG.tup {c:Cx}{α β:Type}{s:av}{T:List Pl->bV->α->β->Prop}{W:(β->av->Prop)->(ax->av->Prop)->Prop}{x:V}{f:List V->R α}(h:∀l,x=.tup l->cG c ρ s T (f l) W):cG c ρ s T (match (generalizing:=false) x with|.tup l=>f l|_=>.bad) W:=by
 induction x using V.casesOn with
 |tup l=>exact h l rfl
 |_=>trivial
theorem cG.loc {c:Cx}{α β:Type}{s:av}{T:List Pl->bV->α->β->Prop}{W:(β->av->Prop)->(ax->av->Prop)->Prop}{x:V}{f:Nat->R α}(h:∀l,x=.loc l->cG c ρ s T (f l) W):cG c ρ s T (match (generalizing:=false) x with|.loc l=>f l|_=>.bad) W:=by
 induction x using V.casesOn with
 |loc l=>exact h l rfl
 |_=>trivial
theorem cG.dic {c:Cx}{α β:Type}{s:av}{T:List Pl->bV->α->β->Prop}{W:(β->av->Prop)->(ax->av->Prop)->Prop}{o:Option O}{f:List (Int×V)->R α}(h:∀l,o=aa (.cH l)->cG c ρ s T (f l) W):cG c ρ s T (match (generalizing:=false) o with|some (.cH l)=>f l|_=>.bad) W:=by
 induction o with
 |none=>trivial
 |some o=>induction o with
  |cH l=>exact h l rfl
  |_=>trivial
theorem lookup_mem {l:List (Str×aJ)}{y:Str}{b:aJ}(e:l.lookup y=aa b):b∈l.map (·.2):=by
 induction l with
 |nil=>exact fv e
 |cons p l ih =>
  rw[cf]at e;rcases q:y==p.1 with _|_
  .rw[q]at e;exact .tail _ (ih e)
  .rw[q]at e;obtain rfl:=aj e;exact .head _
section
variable {c:Cx}
theorem cG.w {α β:Type}{s:av}{T:List Pl->bV->α->β->Prop}{r:R α}{W W':(β->av->Prop)->(ax->av->Prop)->Prop}(h:cG c ρ s T r W)(k:∀Q E,W Q E->W' Q E):cG c ρ s T r W':=by
 induction r with
 |ok a σ=>exact λQ E q=>k Q E (h _ E q)
 |exc σ=>exact λQ E q=>k Q E (h _ E q)
 |bad=>trivial
theorem cG.of {α β:Type}{s:av}{T:List Pl->bV->α->β->Prop}{r:R α}{W:(β->av->Prop)->(ax->av->Prop)->Prop}(t:St c ρ σ s.heap)(h:Run c.Z [] c.X ρ s T r W):cG c ρ s T r W:=by
 induction r with
 |ok a σ=>exact λQ E q=>h Q E λb bJ s' g=>q b bJ s' g.any
 |exc σ=>exact λQ E q=>h Q E λe bJ s' g R y=>q e bJ s' g.any R y (t.oq.grow t.rel g.grow λU U U U q=>nomatch q)
 |bad=>trivial
theorem cG.seq {α β:Type}{s:av}{T:List Pl->bV->α->β->Prop}{r:R α}{f:α->bp->R KZ}
  {W:(β->av->Prop)->(ax->av->Prop)->Prop}{W2:β->av->(KY->av->Prop)->(ax->av->Prop)->Prop}
  (h:cG c ρ s T r W)(k:∀a cD b bJ s',Go (iF c) ρ s bJ s'->Rel c.Z bJ c.X cD s'.heap->T bJ s'.heap a b->cG c bJ s' T' (f a cD) (W2 b s')) :
  cG c ρ s T' (r.bind f) (λQ E=>W (λb s1=>W2 b s1 Q E) E):=by
 induction r with
 |bad=>trivial
 |exc σ=>exact λQ E q=>h _ E q
 |ok a σ =>
  refine(?_:cG c ρ s T' (f a σ) _);have k:=λb bJ s' g R t=>k a σ b bJ s' g R t;induction hf:f a σ with
  |bad=>trivial
  |exc cD =>refine λQ E q=>h _ E λb bJ s' g R t=>?_;have:=k b bJ s' g R t;rw[hf]at this;exact this Q E λe kn lK g' R' y fo=>q e kn lK (g.trans g') R' (y.mH g.grow.size) fo
  |ok a' cD =>refine λQ E q=>h _ E λb bJ s' g R t=>?_;have:=k b bJ s' g R t;rw[hf]at this;exact this Q E λb' kn lK g' R' y=>q b' kn lK (g.trans g') R' y
theorem cG.aa0 {α β:Type}{s:av}{T:List Pl->bV->α->β->Prop}{r:R α}{f:α->bp->R KZ}
  {W:(β->av->Prop)->(ax->av->Prop)->Prop}{W2:β->av->(KY->av->Prop)->(ax->av->Prop)->Prop}
  (t:St c ρ σ s.heap)(h:Run c.Z [] c.X ρ s T r W)(k:∀a cD b bJ s',St c bJ cD s'.heap->Go [] ρ s bJ s'->T bJ s'.heap a b->cG c bJ s' T' (f a cD) (W2 b s')) :
  cG c ρ s T' (r.bind f) (λQ E=>W (λb s1=>W2 b s1 Q E) E):=by
 induction r with
 |bad=>trivial
 |exc σ=>exact λQ E q=>h _ E λe bJ s' g R y=>q e bJ s' g.any R y (t.oq.grow t.rel g.grow λU U U U q=>nomatch q)
 |ok a bj =>
  refine(?_:cG c ρ s T' (f a bj) _);have k:=λb bJ s' g R u=>k a bj b bJ s' (t.go g R) g u;induction hf:f a bj with
  |bad=>trivial
  |exc cD =>refine λQ E q=>h _ E λb bJ s' g R t=>?_;have:=k b bJ s' g R t;rw[hf]at this;exact this Q E λe kn lK g' R' y fo=>q e kn lK (g.any.trans g') R' (y.mH g.grow.size) fo
  |ok a' cD =>refine λQ E q=>h _ E λb bJ s' g R t=>?_;have:=k b bJ s' g R t;rw[hf]at this;exact this Q E λb' kn lK g' R' y=>q b' kn lK (g.any.trans g') R' y
theorem cG.ok {α β:Type}{s:av}{T:List Pl->bV->α->β->Prop}{a:α}{b:β}{W:(β->av->Prop)->(ax->av->Prop)->Prop}
  (g:Go (iF c) ρ s bJ s')(R:Rel c.Z bJ c.X cD s'.heap)(t:T bJ s'.heap a b)(k:∀Q E,Q b s'->W Q E):cG c ρ s T (.ok a cD) W:=λQ E q=>k Q E (q b bJ s' g R t)
def TF (X:List aJ)(ρ:List Pl)(h:bV)(fl:Fl)(f:Flow):Prop:=match fl,f with
 |.nx,.next=>True
 |.rt v,.ret w=>bz ρ X h v w
 |_,_=>False
def TS (c:Cx)(ρ:List Pl)(h:bV)(r:Fl×Vs)(f:Flow):Prop:=pI c.Z ρ c.X h c.env c.vt r.2 c.ct c.cs/\da c.X h c.l/\TF c.X ρ h r.1 f
theorem TS.st  {r:Fl×Vs}{f:Flow}(t:TS c ρ h r f)(R:Rel c.Z ρ c.X σ h):St (c.wv r.2) ρ σ h:=⟨R,t.1,t.2.1⟩
structure bW (c:Cx):Prop where
 nodup:∀(i j:Nat) x,c.vt[i]?=aa x->c.vt[j]?=aa x->i=j
 ct:c.ct=[]
 cs:c.cs=[]
 frame:c.env.frame=aa c.env.locals
 top:∃outer,c.l=c.env::outer
 cells:∀p∈c.env.cells,c.env.cells.lookup p.1=aa p.2
theorem da.upd {X:List aJ}{L:aJ}{m:Str->Option ax}(t:da X h l)(sb:fu L h h')(hm:h'.Ns L m):da X h' l:=λe he=>by
 obtain⟨a,L',o,es,k,b,c,d,f⟩:=t e he;by_cases q:L'=L
 .subst q;(refine D9 hm λo' es' ep' GR An U=>?_;try clear hm);exact⟨a,L',o',es',ep',b,c,GR,An⟩
 .exact⟨a,L',o,es,k,b,c,(sb.2 L' q).trans d,f⟩
theorem da.cell {X:List aJ}{L:aJ}{v:Option ax}(t:da X h l)(sb:fu L h h')(hc:h.IsCell L v):da X h' l:=λe he=>by obtain⟨a,L',o,es,k,b,c,d,f⟩:=t e he;refine⟨a,L',o,es,k,b,c,(sb.2 L' λq=>?_).trans d,f⟩;subst q;(refine dB hc λo' GR An=>?_;try clear hc);rw[d]at GR;obtain rfl:=aj GR;rw[f]at An;exact bk An
theorem ub {i j:Nat}{v w:Option V}(h:(vs.set i v)[j]?=aa w):(j=i/\w=v)\/(j≠i/\vs[j]?=aa w):=by
 by_cases e:i=j
 .subst e;rw[List.getElem?_set_self']at h;induction hv:vs[i]? with
  |none=>rw[hv]at h;exact fv h
  |some a=>rw[hv]at h;exact .inl ⟨rfl,by simpa using h.symm⟩
 .rw[dZ e]at h;exact .inr ⟨λq=>e q.symm,h⟩
theorem ky (N:bW c){s:av}(t:St (c.wv vs) ρ σ s.heap){i:Nat}{x:Str}{v:V}{w:ax}(hi:c.vt[i]?=aa x)(hk:c.env.kindOf x=aa .local\/c.env.kindOf x=aa .cell)(r:bz ρ c.X s.heap v w)
  {Q:Unit->av->Prop}{E:ax->av->Prop}(q:∀h' tk,Go (iF c) ρ s ρ {s with heap:=h',toks:=tk}->St (c.wv (vs.set i (aa v))) ρ σ h'->(∀u y,bz ρ c.X s.heap u y->bz ρ c.X h' u y)->Q () {s with heap:=h',toks:=tk}):aE (aC c.Z.prog c.Z.w) c.A (storeName c.env x w) Q E s:=by
 have f:=t.fr;have hct:∀ {y:Str},y∉c.ct:=λ{y} q=>by rw[N.ct]at q;cases q
 have same:∀ {j:Nat},c.vt[j]?=aa x->j=i:=λ{j} hj=>N.nodup j i x hj hi;rcases hk with hk|hk
 .refine ti f.ns λm hm f1 U=>?_;refine wpAny_storeName_local hk hm (λh' H8 sb=>?_) (by rw[show c.env.scope.kind=.function from f.kind];rfl);have hF:∀b∈[c.env.locals],b∈c.X:=λb hb=>by rw[au.mp hb];exact f.own
  have g:dG [c.env.locals] ρ s.heap ρ h':=jb sb (.head _);have mono:∀u y,bz ρ c.X s.heap u y->bz ρ c.X h' u y:=λu y q=>bz.mono g hF (λU q=>.inl q) _ _ q;have n2:∀y a,c.env.cells.lookup y=aa a->a∉[c.env.locals]:=λy a e q=>(f.cells y a e).2.1 (au.mp q);refine q h' _ ⟨g.mono λb hb=>by rw[au.mp hb];exact .head _,h',_,rfl⟩ ⟨t.rel.but sb f.own,?_,t.oq.upd sb H8⟩ mono;exact{
   kind:=f.kind
   globals:=f.globals
   builtins:=f.builtins
   own:=f.own
   ns:=⟨_,H8,λj y u (e1:c.vt[j]?=aa y) e2 e3 e4=>by
    rcases ub e2 with⟨rfl,e⟩|⟨ne,e⟩
    .obtain rfl:=fb (aj e);rw[show c.vt[j]?=aa x from hi]at e1;obtain rfl:=aj e1;exact⟨w,if_pos rfl,mono _ _ r⟩
    .refine dB (f1 j y u e1 e e3 e4) λw' h1 h2=>?_;exact⟨w',(if_neg λ(q:y=x)=>ne (same (by rw[<- q];exact e1))).trans h1,mono _ _ h2⟩,λj y u e1 (e2:c.cs[j]?=aa u) e3=>by
    rw[N.cs]at e2;exact fv e2⟩
   cell:=λj y u (e1:c.vt[j]?=aa y) e2 e3=>by
    rcases ub e2 with⟨rfl,e⟩|⟨ne,e⟩
    .rw[show c.vt[j]?=aa x from hi]at e1;obtain rfl:=aj e1;rw[show c.env.kindOf x=_ from hk]at e3;cases e3
    .refine mI (f.cell j y u e1 e e3) λa w' b1 b2 b3=>?_;exact⟨a,w',b1,IsCell.grow b2 g (t.rel.off (f.cells y a b1).1) (n2 y a b1),mono _ _ b3⟩
   cells:=λy a e=>by obtain⟨a1,a2,w',a3⟩:=f.cells y a e;exact⟨a1,a2,w',IsCell.grow a3 g (t.rel.off a1) (n2 y a e)⟩
   has:=f.has
   inj:=f.inj}
 .obtain⟨a,ha⟩:=f.has x hk;obtain⟨aX,aL,adg,hc⟩:=f.cells x a ha;refine wpAny_storeName_cell f.kind hk ha hc λh' hc' sb=>?_;have hF:∀b∈[a],b∈c.X:=λb hb=>by rw[au.mp hb];exact aX
  have g:dG [a] ρ s.heap ρ h':=jb sb (.head _);have mono:∀u y,bz ρ c.X s.heap u y->bz ρ c.X h' u y:=λu y q=>bz.mono g hF (λU q=>.inl q) _ _ q;refine q h' s.toks ⟨g.mono λb hb=>by rw[au.mp hb];exact .tail _ (lookup_mem ha),h',s.toks,rfl⟩ ⟨t.rel.but sb aX,?_,t.oq.cell sb hc⟩ mono;refine ti f.ns λm hm f1 U=>?_;exact{
   kind:=f.kind
   globals:=f.globals
   builtins:=f.builtins
   own:=f.own
   ns:=⟨m,hm.sameBut sb aL.symm,λj y u (e1:c.vt[j]?=aa y) e2 e3 e4=>by
    rcases ub e2 with⟨rfl,e⟩|⟨ne,e⟩
    .rw[show c.vt[j]?=aa x from hi]at e1;obtain rfl:=aj e1;rw[show c.env.kindOf x=_ from hk]at e4;cases e4
    .refine dB (f1 j y u e1 e e3 e4) λw' h1 h2=>?_;exact⟨w',h1,mono _ _ h2⟩,λj y u e1 (e2:c.cs[j]?=aa u) e3=>by
    rw[N.cs]at e2;exact fv e2⟩
   cell:=λj y u (e1:c.vt[j]?=aa y) e2 e3=>by
    rcases ub e2 with⟨rfl,e⟩|⟨ne,e⟩
    .obtain rfl:=fb (aj e);rw[show c.vt[j]?=aa x from hi]at e1;obtain rfl:=aj e1;exact⟨a,w,ha,hc',mono _ _ r⟩
    .refine mI (f.cell j y u e1 e e3) λb w' b1 b2 b3=>?_;have:b≠a:=λq=>ne (same (f.inj y x a (q▸b1) ha▸e1));exact⟨b,w',b1,IsCell.grow b2 g (t.rel.off (f.cells y b b1).1) (λq=>this (au.mp q)),mono _ _ b3⟩
   cells:=λy b e=>by
    obtain⟨a1,a2,w',a3⟩:=f.cells y b e;by_cases q:b=a
    .obtain rfl:=fb (q);exact⟨a1,a2,_,hc'⟩
    .exact⟨a1,a2,w',IsCell.grow a3 g (t.rel.off a1) λz=>q (au.mp z)⟩
   has:=f.has
   inj:=f.inj}
end
section
variable {c:Cx}{W:Nat}
def SS (c:Cx)(W:Nat)(x:S)(e:iM):Prop:=∀vs ρ σ s,St (c.wv vs) ρ σ s.heap->cG c ρ s (TS c) (ex G c.Φ W x vs σ) (λQ E=>aE (aC c.Z.prog c.Z.w) c.A (exec e c.env) Q E s)
def DW (c:Cx)(W:Nat)(x:List S)(e:List iM):Prop:=∀vs ρ σ s,St (c.wv vs) ρ σ s.heap->cG c ρ s (TS c) (l5 G c.Φ W x vs σ) (λQ E=>aE (aC c.Z.prog c.Z.w) c.A (execs e c.env) Q E s)
def yf (c:Cx)(x:X)(e:b8):Prop:=∀(vs:Vs) (ρ:List Pl) (s:av) (σ:bp),St (c.wv vs) ρ σ s.heap->Run c.Z [] c.X ρ s (TV c.X) (ev G c.Φ vs x [] σ) (λQ E=>aE (aC c.Z.prog c.Z.w) c.A (eval e c.env) Q E s)
def QC (c:Cx)(x:X)(e:b8):Prop:=∀(vs:Vs) (ρ:List Pl) (s:av) (σ:bp),St (c.wv vs) ρ σ s.heap->Run c.Z [] c.X ρ s TE ((ev G c.Φ vs x [] σ).bind fV) (λQ E=>aE (aC c.Z.prog c.Z.w) c.A (pQ e c.env (eval e c.env)) Q E s)
theorem yf.of (N:bW c){x:X}(h:∀vs,SX (c.wv vs) x e):yf c x e:=λvs ρ s σ t=>by have:=h vs ρ s σ t;rwa[show(c.wv vs).cs=[]from N.cs]at this
theorem QC.of (N:bW c){x:X}(h:∀vs,SB (c.wv vs) x e):QC c x e:=λvs ρ s σ t=>by have:=h vs ρ s σ t;rwa[show(c.wv vs).cs=[]from N.cs]at this
theorem cG.rd {α β:Type}{s:av}{T:List Pl->bV->α->β->Prop}{r:R α}{f:α->bp->R KZ}
  {W:(β->av->Prop)->(ax->av->Prop)->Prop}{W2:β->av->(KY->av->Prop)->(ax->av->Prop)->Prop}
  (t:St (c.wv vs) ρ σ s.heap)(h:Run c.Z [] c.X ρ s T r W)(k:∀a cD b bJ s',St (c.wv vs) bJ cD s'.heap->Go [] ρ s bJ s'->T bJ s'.heap a b->cG c bJ s' T' (f a cD) (W2 b s')) :
  cG c ρ s T' (r.bind f) (λQ E=>W (λb s1=>W2 b s1 Q E) E):=cG.aa0 (c:=c.wv vs) t h k
theorem TS.nx    (t:St (c.wv vs) ρ σ h):TS c ρ h (.nx,vs) .next:=⟨t.fr,t.oq,trivial⟩
theorem TS.rt    {v:V}{w:ax}(t:St (c.wv vs) ρ σ h)(r:bz ρ c.X h v w):TS c ρ h (.rt v,vs) (.ret w):=⟨t.fr,t.oq,r⟩
theorem tc:DW c W [] []:=λvs ρ σ s t=>by exact .ok .refl t.rel (TS.nx t) λQ E q=>jo q
theorem ua {x:S}{e:iM}{l:List S}{r:List iM}(h:SS c W x e)(k:DW c W l r):DW c W (x::l) (e::r):=λvs ρ σ s t=>by
 refine cG.w (cG.seq (W2:=λf ay Q E=>match f with|.next=>aE (aC c.Z.prog c.Z.w) c.A (execs r c.env) Q E ay|f=>Q f ay) (h vs ρ σ s t) λp bj f aH ay bY bP bT=>?_) λQ E q=>gD q;obtain⟨fl,k4⟩:=p;induction fl with
 |nx =>
  induction f with
  |next=>exact k k4 aH bj ay (bT.st bP)
  |_=>exact bT.2.2.elim
 |rt v =>
  induction f with
  |ret w=>exact .ok .refl bP bT λQ E q=>q
  |_=>exact bT.2.2.elim
theorem rF  {v:ax}{s:av}{Q:Flow->av->Prop}{E:ax->av->Prop}(q:Q .next s):aE (aC c.Z.prog c.Z.w) c.A (dropValue e pos v) Q E s:=by
 have a:aE (aC c.Z.prog c.Z.w) c.A (pure .next:Sem Flow) Q E s:=aW q;have b:aE (aC c.Z.prog c.Z.w) c.A (do standAt pos;let _<-runValue (.builtin "proto.let_go" {});pure .next:Sem Flow) Q E s :=
  aq (bR (aq (wpAny_runValue (codeAny_builtin entry_let_go (aW (aW q):aE _ _ (ret .none) _ _ s)))))
 induction e using PySem.Expr.casesOn with
 |Name=>exact a
 |_=>induction v with
  |ref=>exact b
  |_=>exact a
noncomputable def j8 (e:b8):Bool:=!(eF e.ctorIdx 8||(eF e.ctorIdx 9||eF e.ctorIdx 10))
theorem kx {t:Option b8}{n:Nat}(h:j8 e=af):swapsWith e t n env=pure ag:=by induction e using PySem.Expr.casesOn<;>first|rfl|exact jH h
theorem IS {x:X}(h:yf c x e)(hn:j8 e=af):SS c W (.expr x) (.Expr e pos):=λvs ρ σ s t=>by
 have hi:rY c.env=ag:=by unfold rY;rw[show c.env.scope.kind=.function from t.fr.kind];rfl
 refine cG.w (cG.rd (W2:=λv ay Q E=>Q .next ay) t (h vs ρ s σ t) λv bj w aH ay eU bY bT=>.ok .refl eU.rel (TS.nx eU) λQ E q=>q) λQ E q=>?_;rw[exec_Expr c.env e pos hi (kx hn)];exact aq (bR (aq (bo q (λv ay h₁=>rF h₁) λU U x=>x)))
theorem E6 (N:bW c){i:Nat}{x:X}{n:Str}(h:yf c x e)(hi:c.vt[i]?=aa n)(hk:c.env.kindOf n=aa .local\/c.env.kindOf n=aa .cell)(hs:swapsWith e (aa (.Name n p)) pos.line c.env=pure ag):SS c W (.asg i x) (.Assign [.Name n p] e pos):=λvs ρ σ s t=>by refine cG.w (cG.rd (W2:=λw ay Q E=>aE (aC c.Z.prog c.Z.w) c.A (storeName c.env n w) (λU=>Q .next) E ay) t (h vs ρ s σ t) λv bj w aH ay eU bY bT=>?_) λQ E q=>wpAny_Assign_Name q hs;exact λQ E q=>ky N eU hi hk bT λh' tk g t' U=>q .next aH _ g t'.rel (TS.nx t')
theorem E2 {x:X}(h:yf c x e):SS c W (.ret x) (.Return (aa e) pos):=λvs ρ σ s t=>by exact cG.w (cG.rd (W2:=λw ay Q E=>Q (.ret w) ay) t (h vs ρ s σ t) λv bj w aH ay eU bY bT=>.ok .refl eU.rel (TS.rt eU bT) λQ E q=>q) λQ E q=>wpAny_Return_some q
theorem IP:SS c W (.ret (.k .none)) (.Return ae pos):=λvs ρ σ s t=>by exact .ok (b:=.ret .none) .refl t.rel (TS.rt t tY) λQ E q=>wpAny_Return_none q
theorem O9 {t:X}{a b:List S}  : ex G c.Φ W (.ite t a b) vs σ=((ev G c.Φ vs t [] σ).bind fV).bind λx σ=>if x then l5 G c.Φ W a vs σ else l5 G c.Φ W b vs σ:=by
 refine(?_:(ev G c.Φ vs t [] σ).bind _=_);rw[R.bind_assoc];congr 1;funext v cD;induction v using V.casesOn with
 |bool b=>induction b<;>rfl
 |_=>rfl
theorem E4 {t:X}{a b:List S}{ea:List iM}(ht:QC c t et)(ha:DW c W a ea)(hb:DW c W b eb):SS c W (.ite t a b) (.If et ea eb pos):=λvs ρ σ s t=>by
 rw[O9];refine cG.w (cG.rd (W2:=λb ay Q E=>if b then aE (aC c.Z.prog c.Z.w) c.A (execs ea c.env) Q E ay else aE (aC c.Z.prog c.Z.w) c.A (execs eb c.env) Q E ay) t (ht vs ρ s σ t) λb bj b' aH ay eU bY e=>?_) λQ E h=>wpAny_If h;subst e;induction b with
 |true=>exact ha vs aH bj ay eU
 |false=>exact hb vs aH bj ay eU
end
section
variable {c:Cx}{W:Nat}
def TA1 (c:Cx)(ρ:List Pl)(h:bV)(vs:Vs)(_:Unit):Prop:=pI c.Z ρ c.X h c.env c.vt vs c.ct c.cs/\da c.X h c.l
def SA (c:Cx)(t:TA)(e:b8):Prop:=∀vs ρ σ s x w,St (c.wv vs) ρ σ s.heap->bz ρ c.X s.heap x w->cG c ρ s (TA1 c) (zt G c.Φ t x vs σ) (λQ E=>aE (aC c.Z.prog c.Z.w) c.A (jg e c.env w) Q E s)
theorem I3 (N:bW c){i:Nat}{n:Str}(hi:c.vt[i]?=aa n)(hk:c.env.kindOf n=aa .local\/c.env.kindOf n=aa .cell):SA c (.n i) (.Name n p):=λvs ρ σ s x w t r Q E q =>
 nh (ky N t hi hk r λh' tk g t' U=>q () ρ _ g t'.rel ⟨t'.fr,t'.oq⟩)
theorem Ff (D:Ok c mg mb){o:X}{f:Nat}{n:Str}(ho:yf c o eo)(hf:fields[f]?=aa n):SA c (.dm o f) (.Attribute eo n p):=λvs ρ σ s x w t r=>by
 refine cG.w (cG.rd (W2:=λv ay Q E=>aE (aC c.Z.prog c.Z.w) c.A (wm v n w) Q E ay) t (ho vs ρ s σ t) λa bj v aH ay eU bY bT=>?_) λQ E q=>?_
 .refine cG.opts λcD hs=>?_
  .exact λQ E q=>za eU.rel D.k hf hs bT (bY.v r) λh' tk R' g'=>by have g2:Go [] aH ay aH {ay with heap:=h',toks:=tk}:=⟨g',h',tk,rfl⟩;have t':=eU.go g2 R';exact q () aH _ g2.any R' ⟨t'.fr,t'.oq⟩
 .rw[sy];exact aq (bC (bo q (λv ay h₁=>aq (bR (aq (bC (bo h₁ (λU bH fj=>kW fj) λU U x=>x))))) λU U x=>x))
theorem Fe (D:Ok c mg mb){o i:X}(ho:yf c o eo)(hi:yf c i ei)(hp:lh ei=af):SA c (.sub o i) (.Subscript eo ei p):=λvs ρ σ s x w t r=>by
 refine cG.w (cG.rd (W2:=λv ay Q E=>aE (aC c.Z.prog c.Z.w) c.A (eval ei c.env) (λy bH=>aE (aC c.Z.prog c.Z.w) c.A (AN v y w) Q E bH) E ay) t (ho vs ρ s σ t) λa bj v aH ay eU bY bT=>?_) λQ E q=>?_
 .refine cG.w (cG.rd (W2:=λy bH Q E=>aE (aC c.Z.prog c.Z.w) c.A (AN v y w) Q E bH) eU (hi vs aH ay bj eU) λj gz y fT bH q6 fN f7=>?_) λQ E q=>q;refine cG.opts λcD hs=>?_
  .exact λQ E q=>xK q6.rel hs (fN.v bT) f7 (fN.v (bY.v r)) λh' tk R' g'=>by have g2:Go [] fT bH fT {bH with heap:=h',toks:=tk}:=⟨g',h',tk,rfl⟩;have t':=q6.go g2 R';exact q () fT _ g2.any R' ⟨t'.fr,t'.oq⟩
 .rw[arm_assign_Subscript];exact aq (bC (bo q (λv ay h₁=>aq (bC (bo h₁ (λy bH fj=>aq (bR (aq (bC (bo fj (λU fU iZ=>kW iZ) λU U x=>x))))) λU U x=>x))) λU U x=>x))
noncomputable def zC (e:b8):Bool:=eF e.ctorIdx 20||eF e.ctorIdx 21
theorem uv (h:zC e=af):(∃a b c,e=.Attribute a b c)\/∃a b c,e=.Subscript a b c:=by induction e using PySem.Expr.casesOn<;>first|exact .inl ⟨_,_,_,rfl⟩|exact .inr ⟨_,_,_,rfl⟩|exact jH h
theorem Dv  {l:Nat}{a:b8}(h:zC a=af):n9 [a] e l env=pure ag:=by obtain⟨_,_,_,rfl⟩|⟨_,_,_,rfl⟩:=uv h<;>induction e using PySem.Expr.casesOn<;>rfl
theorem zB  {a:b8}(h:zC a=af):ik [a] e env=pure ae:=by obtain⟨_,_,_,rfl⟩|⟨_,_,_,rfl⟩:=uv h<;>rfl
theorem F4 {a:b8}(h:zC a=af):iX [a] env=[(ag,jg a env)]:=by obtain⟨_,_,_,rfl⟩|⟨_,_,_,rfl⟩:=uv h<;>rfl
theorem my {t:b8}{s:av}{Q:Flow->av->Prop}{E:ax->av->Prop}(ht:zC t=af)
  (q:aE (aC c.Z.prog c.Z.w) c.A (eval e c.env) (λv ay=>aE (aC c.Z.prog c.Z.w) c.A (jg t c.env v) (λU=>Q .next) E ay) E s):aE (aC c.Z.prog c.Z.w) c.A (exec (.Assign [t] e pos) c.env) Q E s:=by
 rw[Ap];rw[Dv ht,zB ht,F4 ht];refine aq (bR (aq (aW (ig ?_))));rw[if_neg bq];exact aq (bo q (λv ay h₁=>aq (aW (aq (bo h₁ (λU U h=>aW h) λU U x=>x):aE (aC c.Z.prog c.Z.w) c.A ((jg t c.env v:Sem Unit) >>= λU=>(pure Flow.next:Sem Flow)) Q E ay))) λU U x=>x)
theorem Dn (D:Ok c mg mb){o x:X}{f:Nat}{n:Str}(ho:yf c o eo)(hx:yf c x e)(hf:fields[f]?=aa n):SS c W (.fh o f x) (.Assign [.Attribute eo n p] e pos):=λvs ρ σ s t=>by
 have e1:ex G c.Φ W (.fh o f x) vs σ=(ev G c.Φ vs x [] σ).bind λx σ=>(zt G c.Φ (.dm o f) x vs σ).bind λvs σ=>.ok (.nx,vs) σ:=by
  refine(?_:(ev G c.Φ vs x [] σ).bind _=_);congr 1;funext x cD;refine(?_:(ev G c.Φ vs o [] cD).bind _=(R.bind (R.bind _ _) _));rw[R.bind_assoc];congr 1;funext a oW
  split<;>rfl
 rw[e1];refine cG.w (cG.rd (W2:=λw ay Q E=>aE (aC c.Z.prog c.Z.w) c.A (jg (.Attribute eo n p) c.env w) (λU=>Q .next) E ay) t (hx vs ρ s σ t) λv bj w aH ay eU bY bT=>?_) λQ E q=>my rfl q;exact cG.w (cG.seq (W2:=λU bH Q E=>Q .next bH) (Ff D ho hf vs aH bj ay v w eU bT) λk4 gz U fT bH fN fO f7=>.ok .refl fO (TS.nx ⟨fO,f7.1,f7.2⟩) λQ E q=>q) λQ E q=>q
theorem Dm (D:Ok c mg mb){o i x:X}(ho:yf c o eo)(hi:yf c i ei)(hx:yf c x e)(hp:lh ei=af):SS c W (.eX o i x) (.Assign [.Subscript eo ei p] e pos):=λvs ρ σ s t=>by
 have e1:ex G c.Φ W (.eX o i x) vs σ=(ev G c.Φ vs x [] σ).bind λx σ=>(zt G c.Φ (.sub o i) x vs σ).bind λvs σ=>.ok (.nx,vs) σ:=by
  refine(?_:(ev G c.Φ vs x [] σ).bind _=_);congr 1;funext x cD;refine(?_:(ev G c.Φ vs o [] cD).bind _=(R.bind (R.bind _ _) _));rw[R.bind_assoc];congr 1;funext a oW;rw[R.bind_assoc];congr 1;funext a oW
  split<;>rfl
 rw[e1];refine cG.w (cG.rd (W2:=λw ay Q E=>aE (aC c.Z.prog c.Z.w) c.A (jg (.Subscript eo ei p) c.env w) (λU=>Q .next) E ay) t (hx vs ρ s σ t) λv bj w aH ay eU bY bT=>?_) λQ E q=>my rfl q;exact cG.w (cG.seq (W2:=λU bH Q E=>Q .next bH) (Fe D ho hi hp vs aH bj ay v w eU bT) λk4 gz U fT bH fN fO f7=>.ok .refl fO (TS.nx ⟨fO,f7.1,f7.2⟩) λQ E q=>q) λQ E q=>q
inductive wb (P:TA->b8->Prop):List TA->List b8->Prop where
 |nil:wb P [] []
 |cons {x:TA} {e:b8} {l:List TA} {r:List b8}:P x e->noStar e=af->wb P l r->wb P (x::l) (e::r)
theorem mO {r:List b8}(h:noStar e=af):iX (e::r) env=(ag,jg e env)::iX r env:=by induction e using PySem.Expr.casesOn<;>first|rfl|exact jH h
theorem ur (N:bW c)(hc:∀p∈c.env.cells,c.env.cells.lookup p.1=aa p.2)(t:St (c.wv vs) ρ σ h):∀b∈iF c,b∈c.X:=λb hb=>by
 rcases aM.mp hb with rfl|hb
 .exact t.fr.own
 ·(refine dB (bX.mp hb) λp hp z1=>?_;subst z1);exact(t.fr.cells p.1 p.2 (hc p hp)).1
theorem zg (N:bW c)(hc:∀p∈c.env.cells,c.env.cells.lookup p.1=aa p.2)(h:wb (SA c) ts es):∀vs ρ σ s xs ws,St (c.wv vs) ρ σ s.heap->bt ρ c.X s.heap xs ws->xs.length=ts.length ->
  cG c ρ s (TA1 c) (nA G c.Φ ts xs vs σ) (λQ E=>aE (aC c.Z.prog c.Z.w) c.A (kX ((iX es c.env).map (·.2)) ws) Q E s):=by
 induction h with
 |nil =>
  intro vs ρ σ s xs ws t r hl;induction xs with
  |nil =>subst r;exact .ok .refl t.rel ⟨t.fr,t.oq⟩ λQ E q=>D6 q
  |cons=>cases hl
 |@cons ta e l r ha hb hr ih =>
  intro vs ρ σ s xs ws t rr hl;induction xs using List.casesOn with
  |nil=>cases hl
  |cons x xs =>
   (refine mI rr.jq λw ws z1 r1 r2=>?_;subst z1);refine cG.w (cG.seq (W2:=λU ay Q E=>aE (aC c.Z.prog c.Z.w) c.A (kX ((iX r c.env).map (·.2)) ws) Q E ay) (ha vs ρ σ s x w t r1) λk4 bj U aH ay bY bP Rb=>?_) λQ E q=>by rw[mO hb];exact D7 q
   exact ih k4 aH bj ay xs ws ⟨bP,Rb.1,Rb.2⟩ (bt.mono bY.grow (ur N hc t) (λU q=>.inl q) _ _ r2) (by simpa using hl)
end
noncomputable def isStar (e:b8):Bool:=eF e.ctorIdx 22
noncomputable def BU (names:List (Str×fZ))(ts vs:List b8):Option (Option (List Str)) :=
 if !(ts.length==2||ts.length==3)||vs.length != ts.length then aa ae
 else if vs.any isStar then aa ae
 else
  let line:=(ts.head?.map (·.pos.line)).getD 0
  let ns:=ts.filterMap λ
   |.Name id pos=>if names.lookup id==aa .local&&pos.line==line then aa id else ae
   |_=>ae
  if ns.length != ts.length||ns.eraseDups.length != ns.length then aa ae
  else if vs.all (foldedForSure 8)then aa ae
  else if vs.all (constantsAlone 8)then ae
  else aa (aa ns)
def HT (o:Option (Option (List Str)))(m:Sem (Option (List Str))):Prop:=∀r,o=aa r->m=pure r
theorem HT.ite {b b':Bool}{y:Option (Option (List Str))}{n:Sem (Option (List Str))}(e:b'=b)(h:HT y n):HT (if b then aa ae else y) (if b' then pure ae else n):=λr q=>by
 subst e;induction b' with
 |true=>exact congrArg pure (aj q)
 |false=>exact h r q
theorem HT.last {b:Bool}{ns:Option (List Str)}{m:Sem (Option (List Str))}:HT (if b then ae else aa ns) (if b then m else pure ns):=λr q=>by
 induction b with
 |true=>exact fv q
 |false=>exact congrArg pure (aj q)
theorem EW (hk:env.scope.kind=.function){ts vs:List b8}{k k':Nat}{p':Pos}{r:Option (List Str)}(h:BU env.scope.names ts vs=aa r):ik [.Tuple ts k p] (.Tuple vs k' p') env=pure r:=by
 have hb:(env.blockKind != Aq)=ag:=by unfold Env.blockKind;rw[hk];rfl
 exact(HT.ite (by rw[hb,Bool.or_false]) (HT.ite (congrArg vs.any (funext λx=>by induction x using PySem.Expr.casesOn<;>rfl)) (HT.ite rfl (HT.ite rfl HT.last))):HT (BU env.scope.names ts vs) (ik [.Tuple ts k p] (.Tuple vs k' p') env)) r h
noncomputable def F9:b8->Bool
 |.Tuple _ _ _=>ag
 |_=>af
theorem EX {ts:List b8}{k:Nat}(h:F9 e=af):ik [.Tuple ts k p] e env=pure ae:=by induction e using PySem.Expr.casesOn<;>first|(exact absurd h bq)|rfl
section
variable {c:Cx}{W:Nat}
theorem rO (hh:c.A.handled=ae){s:av}{t:aJ}(ht:TupAt s.heap t ws){Q:List ax->av->Prop}{E:ax->av->Prop}(q:∀h',Ext s.heap h'->Q ws {s with heap:=h'}):aE (aC c.Z.prog c.Z.w) c.A (unpackItems (.ref t) ws.length ae) Q E s:=by obtain⟨n,e⟩:=ht;have hT:s.heap.IsTuple t ws.toArray:=⟨_,e,rfl,n,rfl⟩;have:=gO (wpAny_unpackItems_tuple (prog:=c.Z.prog) (w:=c.Z.w) (E:=E) hh hT (Q:=λl s'=>s.heap.objs.size<=s'.heap.objs.size->Q l s') λh' x z=>q h' ⟨z,λb o e=>x b o (dh (bu e)) e⟩);simpa using this
theorem DT {P:TA->b8->Prop}(h:wb P ts es):(iX es env).length=ts.length/\(iX es env).findIdx? (·.1)=ae:=by
 induction h with
 |nil=>exact⟨rfl,rfl⟩
 |cons _ hb _ ih=>rw[mO hb];exact⟨by simp[ih.1],by rw[List.findIdx?_cons];simp[ih.2]⟩
theorem wg  {l:List V}{w:ax}{X:List aJ}(r:bz ρ X h (.tup l) w):∃t ws,w=.ref t/\TupAt h t ws/\bt ρ X h l ws:=by(refine wH r λa ws z1 U U t q=>?_;try clear r;subst z1);exact⟨a,ws,rfl,t,q⟩
theorem ud (N:bW c)(hc:∀p∈c.env.cells,c.env.cells.lookup p.1=aa p.2)(hh:c.A.handled=ae){k:Nat}(h:wb (SA c) ts es){s:av}{l:List V}{w:ax}(t:St (c.wv vs) ρ σ s.heap)(r:bz ρ c.X s.heap (.tup l) w)(hl:l.length=ts.length) :
  cG c ρ s (TA1 c) (nA G c.Φ ts l vs σ) (λQ E=>aE (aC c.Z.prog c.Z.w) c.A (jg (.Tuple es k p) c.env w) Q E s):=by
 (refine mI (wg r) λa ws z1 ta rs=>?_;subst z1);have key:∀h',Ext s.heap h'->cG c ρ {s with heap:=h'} (TA1 c) (nA G c.Φ ts l vs σ) (λQ E=>aE (aC c.Z.prog c.Z.w) c.A (kX ((iX es c.env).map (·.2)) ws) Q E {s with heap:=h'}):=λh' x =>
  zg N hc h vs ρ σ {s with heap:=h'} l ws (St.go (c:=c.wv vs) (s':={s with heap:=h'}) t (Go.ext (t:=s.toks) x) (t.rel.ext x)) (rs.ext x) hl
 have red:∀ {Q:Unit->av->Prop} {E:ax->av->Prop},(∀h',Ext s.heap h'->aE (aC c.Z.prog c.Z.w) c.A (kX ((iX es c.env).map (·.2)) ws) Q E {s with heap:=h'})->aE (aC c.Z.prog c.Z.w) c.A (jg (.Tuple es k p) c.env (.ref a)) Q E s:=λ{Q E} q=>by rw[arm_assign_Tuple];unfold unpack;have e1:=DT (env:=c.env) h;have e3:(iX es c.env).length=ws.length:=e1.1.trans (hl.symm.trans rs.length);rw[e3,e1.2];exact aq (bR (aq (bC (rO hh ta q))))
 induction hr:nA G c.Φ ts l vs σ with
 |bad=>trivial
 |ok b cD =>refine λQ E q=>red λh' x=>?_;have:=key h' x;rw[hr]at this;exact this Q E λb bJ s' g=>q b bJ s' ((Go.ext x).trans g)
 |exc cD =>refine λQ E q=>red λh' x=>?_;have:=key h' x;rw[hr]at this;exact this Q E λb bJ s' g R y=>q b bJ s' ((Go.ext x).trans g) R (y.mH x.1)
theorem IT (N:bW c)(hc:∀p∈c.env.cells,c.env.cells.lookup p.1=aa p.2)(hh:c.A.handled=ae){x:X}{k:Nat}(h:wb (SA c) ts es)(hx:yf c x e)(hn:j8 e=af)(hs:c.env.scope.kind=.function->ik [.Tuple es k p] e c.env=pure ae) :
  SS c W (.fW ts x) (.Assign [.Tuple es k p] e pos):=λvs ρ σ s t=>by
 have hk:c.env.scope.kind=.function:=t.fr.kind;refine cG.w (cG.rd (W2:=λw ay Q E=>aE (aC c.Z.prog c.Z.w) c.A (jg (.Tuple es k p) c.env w) (λU=>Q .next) E ay) t (hx vs ρ s σ t) λv bj w aH ay eU bY bT=>?_) λQ E q=>?_
 .refine cG.tup λl e=>?_;refine cG.ite λhl=>?_;subst e;exact cG.w (cG.seq (W2:=λU bH Q E=>Q .next bH) (ud N hc hh h eU bT hl) λk4 gz U fT bH fN fO f7=>.ok .refl fO (TS.nx ⟨fO,f7.1,f7.2⟩) λQ E q=>q) λQ E q=>q
 .rw[Ap];have h1:n9 [.Tuple es k p] e pos.line c.env=pure ag:=by unfold n9;exact kx hn
  rw[h1,hs hk];refine aq (bR (aq (aW (ig ?_))));rw[if_neg bq];exact aq (bo q (λv ay h₁=>aq (aW (aq (bo h₁ (λU U h=>aW h) λU U x=>x):aE (aC c.Z.prog c.Z.w) c.A ((jg (.Tuple es k p) c.env v:Sem Unit) >>= λU=>(pure Flow.next:Sem Flow)) Q E ay))) λU U x=>x)
end
noncomputable def jP:List Nat->List V->Vs->Vs
 |i::is,x::xs,vs=>jP is xs (vs.set i (aa x))
 |_,_,vs=>vs
theorem rQ {i:Nat}{x:V}:∀(is:List Nat) (xs:List V) (vs:Vs),i∉is->jP is xs (vs.set i (aa x))=(jP is xs vs).set i (aa x)
 |[],_=>λU U=>rfl
 |j::is,[]=>λU U=>rfl
 |j::is,y::xs=>λvs h=>by simp only[aM,not_or]at h;refine(?_:jP is xs ((vs.set i (aa x)).set j (aa y))=(jP is xs (vs.set j (aa y))).set i (aa x));rw[List.set_comm _ _ h.1,rQ is xs _ h.2]
theorem rP {i:Nat}{x:V}:∀(is:List Nat) (xs:List V) (vs:Vs),is.length=xs.length->jP (is++[i]) (xs++[x]) vs=(jP is xs vs).set i (aa x)
 |[],[]=>λU U=>rfl
 |[],_::_=>λU h=>by cases h
 |_::_,[]=>λU h=>by cases h
 |j::is,y::xs=>λvs h=>by exact rP is xs (vs.set j (aa y)) (by simpa using h)
theorem uc:∀(is:List Nat) (xs:List V) (vs:Vs),is.length=xs.length->is.Nodup->jP is.reverse xs.reverse vs=jP is xs vs
 |[],[]=>λU U U=>rfl
 |[],_::_=>λU h U=>by cases h
 |_::_,[]=>λU h U=>by cases h
 |j::is,y::xs=>λvs h hn=>by rw[dH]at hn;simp only[hG];rw[rP _ _ _ (by simpa using h),uc is xs vs (by simpa using h) hn.2];exact(rQ is xs vs hn.1).symm
section
variable {c:Cx}{W:Nat}
theorem me {Φ:Nat->List V->bp->R V}:∀(is:List Nat) (xs:List V) (vs:Vs) (σ:bp),is.length=xs.length->nA G Φ (is.map .n) xs vs σ=.ok (jP is xs vs) σ
 |[],[]=>λvs σ U=>rfl
 |[],_::_=>λU U h=>by cases h
 |_::_,[]=>λU U h=>by cases h
 |i::is,x::xs=>λvs σ h=>by exact me is xs (vs.set i (aa x)) σ (by simpa using h)
def Aw (c:Cx):List Nat->List Str->Prop
 |[],[]=>True
 |i::is,n::ns=>c.vt[i]?=aa n/\(c.env.kindOf n=aa .local\/c.env.kindOf n=aa .cell)/\Aw c is ns
 |_,_=>False
theorem Aw.length:∀ {is:List Nat} {ns:List Str},Aw c is ns->is.length=ns.length
 |[],[],_=>rfl
 |_::_,_::_,h=>by simp[Aw.length h.2.2]
theorem Aw.snoc {i:Nat}{n:Str}(h:c.vt[i]?=aa n/\(c.env.kindOf n=aa .local\/c.env.kindOf n=aa .cell)):∀ {is:List Nat} {ns:List Str},Aw c is ns->Aw c (is++[i]) (ns++[n])
 |[],[],_=>⟨h.1,h.2,trivial⟩
 |_::_,_::_,k=>⟨k.1,k.2.1,Aw.snoc h k.2.2⟩
theorem Aw.rev:∀ {is:List Nat} {ns:List Str},Aw c is ns->Aw c is.reverse ns.reverse
 |[],[],_=>trivial
 |_::_,_::_,k=>by simp only[hG];exact Aw.snoc ⟨k.1,k.2.1⟩ (Aw.rev k.2.2)
theorem bt.rev {ρ:List Pl}{X:List aJ}{h:bV}:∀ {l:List V} {ws:List ax},bt ρ X h l ws->bt ρ X h l.reverse ws.reverse
 |[],_,r=>by subst r;exact .nil
 |v::l,_,r=>by(refine mI r.jq λw t z1 a b=>?_;subst z1);simp only[hG];exact b.rev.append (.cons a .nil)
theorem wq (N:bW c)(hc:∀p∈c.env.cells,c.env.cells.lookup p.1=aa p.2):∀ {is:List Nat} {ns:List Str},Aw c is ns->∀vs ρ σ s xs ws,St (c.wv vs) ρ σ s.heap->bt ρ c.X s.heap xs ws->is.length=xs.length ->
  ∀{Q:Unit->av->Prop} {E:ax->av->Prop},(∀s',Go (iF c) ρ s ρ s'->St (c.wv (jP is xs vs)) ρ σ s'.heap->Q () s')->aE (aC c.Z.prog c.Z.w) c.A (kX (ns.map λn=>bindName c.env n) ws) Q E s
 |[],[],_,vs,ρ,σ,s,xs,ws,t,r,hl,Q,E,q=>by
  induction xs using List.casesOn with
  |nil=>subst r;exact D6 (q s .refl t)
  |cons=>cases hl
 |i::is,n::ns,h,vs,ρ,σ,s,xs,ws,t,r,hl,Q,E,q=>by
  induction xs using List.casesOn with
  |nil=>cases hl
  |cons x xs =>(refine mI r.jq λw ws z1 r1 r2=>?_;subst z1);refine D7 (wpAny_bindName (ky N t h.1 h.2.1 r1 λh' tk g t' mono=>?_));exact wq N hc h.2.2 _ ρ σ {s with heap:=h',toks:=tk} xs ws t' (bt.mono g.grow (ur N hc t) (λU q=>.inl q) _ _ r2) (by simpa using hl) λs' g' QQ=>q s' (g.trans g') QQ
theorem E5 (N:bW c)(hc:∀p∈c.env.cells,c.env.cells.lookup p.1=aa p.2)(hh:c.A.handled=ae){x:X}{k:Nat}(h:Aw c is ns)(x5:is.Nodup)(hx:yf c x e)(hn:j8 e=af)
  (hs:c.env.scope.kind=.function->ik [.Tuple es k p] e c.env=pure (aa ns)):SS c W (.fW (is.map .n) x) (.Assign [.Tuple es k p] e pos):=λvs ρ σ s t=>by
 have hk:c.env.scope.kind=.function:=t.fr.kind;refine cG.w (cG.rd (W2:=λw ay Q E=>aE (aC c.Z.prog c.Z.w) c.A (unpackItems w ns.length ae) (λitems bH=>aE (aC c.Z.prog c.Z.w) c.A (kX (ns.reverse.map λn=>bindName c.env n) items.reverse) (λU=>Q .next) E bH) E ay) t (hx vs ρ s σ t) λv bj w aH ay eU bY bT=>?_) λQ E q=>?_
 .refine cG.tup λl e=>?_
  .refine cG.ite λhl=>?_
   .subst e;have hl:is.length=l.length:=by simpa using hl.symm
    rw[me is l vs bj hl];(refine mI (wg bT) λa ws z1 ta rs=>?_;subst z1);have e3:ns.length=ws.length:=h.length.symm.trans (hl.trans rs.length);refine λQ E q=>?_;rw[e3];refine rO hh ta λh' x=>?_;have t':St (c.wv vs) aH bj h':=St.go (c:=c.wv vs) (s:=ay) (s':={ay with heap:=h'}) eU (Go.ext (t:=ay.toks) x) (eU.rel.ext x);refine wq N hc h.rev vs aH bj {ay with heap:=h'} l.reverse ws.reverse t' (rs.ext x).rev (by simpa using hl) λs' g QQ=>?_;rw[uc is l vs hl x5]at QQ;exact q .next aH s' ((Go.ext (t:=ay.toks) x).trans g) QQ.rel (TS.nx QQ)
 .rw[Ap];have h1:n9 [.Tuple es k p] e pos.line c.env=pure ag:=by unfold n9;exact kx hn
  rw[h1,hs hk];refine aq (bR (aq (aW (ig ?_))));rw[if_neg bq];refine aq (bo q (λv ay h₁=>aq (aW ?_)) λU U x=>x);unfold assignStores;exact aq (kO (aq (bo h₁ (λitems bH fj=>aq (bo fj (λU fU iZ=>aW iZ) λU U x=>x)) λU U x=>x)))
theorem pI.less   {X:List aJ}(t:pI Z ρ X' h env vt vs ct cs)(h1:∀b∈X,b∈X')(o:env.locals∈X)(hc:∀x c,env.cells.lookup x=aa c->c∈X):pI Z ρ X h env vt vs ct cs where
 kind:=t.kind
 globals:=t.globals
 builtins:=t.builtins
 own:=o
 ns:=by refine ti t.ns λm a b d=>?_;exact⟨m,a,λi x v e1 e2 e3 e4=>let ⟨w,f,r⟩:=b i x v e1 e2 e3 e4;⟨w,f,r.less h1⟩,λi x v e1 e2 e3=>let ⟨w,f,r⟩:=d i x v e1 e2 e3;⟨w,f,r.less h1⟩⟩
 cell:=λi x v e1 e2 e3=>let ⟨c,w,a,b,r⟩:=t.cell i x v e1 e2 e3;⟨c,w,a,b,r.less h1⟩
 cells:=λx c e=>⟨hc x c e,(t.cells x c e).2⟩
 has:=t.has
 inj:=t.inj
theorem IU (D:Ok c mg mb)(N:bW c)(hc:∀p∈c.env.cells,c.env.cells.lookup p.1=aa p.2){i:Nat}{m:Bool}{n:Str}{x:Str}{NX:Pos}{e y:X}{ifs:List X}(hi:c.vt[i]?=aa n)(hk:c.env.kindOf n=aa .local)(K:∀vs,pL (c.wv vs) scope x)
  (he:∀vs C X' v,SX (d7 (c.wv vs) scope x C X' [v]) e elt)(hif:∀vs C X' v,e8 (SB (d7 (c.wv vs) scope x C X' [v])) ifs mq)(hy:∀vs,sW (c.wv vs) y iter)(hs:∀v,iG iter c.env v=pure v)(wW:∀a,y≠.pA a)
  (hyp:∀vs σ cD,uT G c.Φ vs y [] σ≠.exc cD)(hsw:swapsWith (.ListComp elt [⟨.Name x px,iter,mq,0⟩] scope pos) (aa (.Name n np)) NX.line c.env=pure af) :
  SS c W (.asg i (.comp m e y ifs)) (.Assign [.Name n np] (.ListComp elt [⟨.Name x px,iter,mq,0⟩] scope pos) NX):=λvs ρ σ s t=>by
 have e1:ex G c.Φ W (.asg i (.comp m e y ifs)) vs σ=(uT G c.Φ vs y [] σ).bind (j3 c.Φ vs e ifs λys σ=>(gP m ys σ).bind λx σ=>.ok (Fl.nx,vs.set i (aa x)) σ):=by refine(?_:R.bind (R.bind _ _) _=_);rw[R.bind_assoc];congr 1;funext k cD;exact Bt _
 rw[e1];have core:=w6 (c:=c.wv vs) (px:=px) (pos:=pos) (use:=aa (jg (.Name n np) c.env)) (F:=iF c) (T:=TS c) (Wq:=λQ U=>Q .next) (f2:=λys σ=>(gP m ys σ).bind λx σ=>.ok (Fl.nx,vs.set i (aa x)) σ) (D.cx rfl rfl rfl rfl) (K vs) (he vs) (hif vs) (hy vs) hs wW t
  λlv aH bj ay own Da C X' s' ys m' g1 g2 ho hX hC hD ZT hCs pS R p r hm hX'=>?_
 .rw[show(c.wv vs).cs=[]from N.cs]at core;have red:∀ {Q:Flow->av->Prop} {E:ax->av->Prop},aE (aC c.Z.prog c.Z.w) c.A (Eh (.ListComp elt [⟨.Name x px,iter,mq,0⟩] scope pos) scope c.env (firstIterPos [⟨.Name x px,iter,mq,0⟩] pos) (newList []) ag (eval iter c.env) (aa (jg (.Name n np) c.env))) (λU=>Q .next) E s ->
    aE (aC c.Z.prog c.Z.w) c.A (exec (.Assign [.Name n np] (.ListComp elt [⟨.Name x px,iter,mq,0⟩] scope pos) NX) c.env) Q E s:=λ{Q E} q=>by
   rw[exec_Assign_Name_used _ _ _ _ hsw];exact aq (bR (aq (show aE (aC c.Z.prog c.Z.w) c.A (Eh (.ListComp elt [⟨.Name x px,iter,mq,0⟩] scope pos) scope c.env (firstIterPos [⟨.Name x px,iter,mq,0⟩] pos) (newList []) ag (eval iter c.env) (aa (jg (.Name n np) c.env)) >>= λU=>(pure ():Sem Unit)) _ _ _ from
    aq (bo q (λU ay h₁=>aW (aW h₁)) λU U x=>x))))
  induction hr:(uT G c.Φ vs y [] σ).bind (j3 c.Φ vs e ifs λys σ=>(gP m ys σ).bind λx σ=>.ok (Fl.nx,vs.set i (aa x)) σ)with
  |bad=>trivial
  |ok a cD =>rw[show(uT G (c.wv vs).Φ (c.wv vs).vs y [] σ).bind (j3 (c.wv vs).Φ (c.wv vs).vs e ifs λys σ=>(gP m ys σ).bind λx σ=>.ok (Fl.nx,vs.set i (aa x)) σ)=_ from hr]at core;exact λQ E q=>red (core Q E q)
  |exc cD =>
   exfalso;induction h1:uT G c.Φ vs y [] σ with
   |bad=>rw[h1]at hr;exact B6 hr
   |exc oW=>exact hyp vs σ oW h1
   |ok k oW =>
    rw[h1]at hr;change j3 _ _ _ _ _ _ _=_ at hr;rcases HD (Φ:=c.Φ) (vs:=vs) (e:=e) (ifs:=ifs) (f2:=λys σ=>(gP m ys σ).bind λx σ=>.ok (Fl.nx,vs.set i (aa x)) σ) (k:=k) (σ:=oW)with q|⟨ys,q⟩
    .exact B6 (q.symm.trans hr)
    .have hr:=q.symm.trans hr;induction h2:gP m ys oW with
     |bad=>rw[h2]at hr;exact B6 hr
     |ok v σ3=>rw[h2]at hr;exact Q9 hr
     |exc σ3=>exact ux h2
 .have hsz:=g1.grow.size;have fresh:∀ {b o},s.heap.get? b=aa o->b≠C:=λ{b o} e q=>absurd (bu e) (bO.mpr (q▸aQ hsz hCs));have nL:c.env.locals≠C:=by(refine dB t.fr.ns λU z1 U=>?_;obtain⟨o,_,_,e,_⟩:=z1);exact fresh e
  have nc:∀y a,c.env.cells.lookup y=aa a->a≠C:=λy a e=>by obtain⟨_,_,w,o,ho,_⟩:=t.fr.cells y a e;exact fresh ho
  have nf:∀e∈c.l,∀L,e.frame=aa L->L≠C:=λe he L hL=>by obtain⟨_,L',o,_,_,Bl,_,ho,_⟩:=t.oq e he;rw[hL]at Bl;obtain rfl:=fb (aj Bl);exact fresh ho
  have hn:Da∉c.X:=λq=>absurd (t.rel.vF _ q) (bO.mpr (aQ hsz ZT));induction e':gP m lv bj with
  |bad=>trivial
  |exc cD=>exact(ux e').elim
  |ok v cD =>
   have p':s'.heap.PlainList Da ys.toList.toArray:=by simpa using p
   have Kc:∀b∈C::c.X,b∈X':=λb hb=>by
    rcases aM.mp hb with rfl|hb
    .exact hC
    .exact hX b (aU _ hb)
   (refine o13 (wK (c:=(c.wx (C::c.X))) R Kc hD (by simp[pS,hn]) p' r e') λbJ z1 R2 rv U=>?_;obtain⟨δ,rfl,GK⟩:=z1);have g3:Go own aH ay (aH++δ) s':=Go.more g2 GK ZT;have g4:Go [] ρ s (aH++δ) s':=Go.qy (F:=[]) (own:=own) (by rw[aP];exact g1.any.trans g3) ho;have t2:St ((c.wx (C::c.X)).wv vs) (aH++δ) cD s'.heap:=St.goX (c:=c.wv vs) t g4 R2 (λb q=>.tail _ q) λb q=>by
    rcases aM.mp q with rfl|q
    .exact .inr (aQ hsz hCs)
    .exact .inl q
   have N2:bW (c.wx (C::c.X)):=⟨N.nodup,N.ct,N.cs,N.frame,N.top,N.cells⟩;refine λQ E q=>nh (ky N2 t2 hi (.inl hk) rv λh' tk g5 t3 U=>?_);have acf:Off (aH++δ) C:=R2.off (.head _);have nO:C∉iF (c.wx (C::c.X)):=λz=>by
    rcases aM.mp z with e|z
    .exact nL e.symm
    .refine dB (bX.mp z) λpp hp e=>?_;exact nc pp.1 pp.2 (hc pp hp) e
   refine⟨m',Ns.grow hm g5.grow acf nO,λh3 sb=>?_⟩;have hF:∀b∈[C],b∈C::c.X:=λb hb=>by rw[au.mp hb];exact .head _
   have t4:St ((c.wx (C::c.X)).wv (vs.set i (aa v))) (aH++δ) cD h3:=St.rZ (c:=(c.wx (C::c.X)).wv (vs.set i (aa v))) t3 (jb sb (.head _)) (t3.rel.but sb (.head _)) hF (λz=>nL (au.mp z)) (λy a e z=>nc y a e (au.mp z)) (λe he L hL z=>nf e he L hL (au.mp z));have f5:pI c.Z (aH++δ) c.X h3 c.env c.vt (vs.set i (aa v)) c.ct c.cs:=pI.less t4.fr (λb hb=>.tail _ hb) t.fr.own λy a e=>(t.fr.cells y a e).1;have fm5:da c.X h3 c.l:=da.back t.oq t4.oq;refine q .next (aH++δ) {s' with heap:=h3,toks:=tk} ?_ (t4.rel.less λb hb=>.tail _ hb) ⟨f5,fm5,trivial⟩;have g6:Go (iF c) (aH++δ) s' (aH++δ) {s' with heap:=h',toks:=tk}:=g5;have g7:Go [C] (aH++δ) {s' with heap:=h',toks:=tk} (aH++δ) {s' with heap:=h3,toks:=tk}:=⟨jb sb (.head _),h3,tk,rfl⟩;exact((g3.mono λb hb=>.tail _ (.tail _ (bS _ hb))).trans (g6.mono λb hb=>.tail _ (.tail _ (aU _ hb)))).trans (g7.mono λb hb=>by rw[au.mp hb];exact .tail _ (.head _))
end
structure yj (h₀:bV)(X:List aJ)(h h':bV):Prop where
 size:h.objs.size<=h'.objs.size
 ev:∀b o,h.get? b=aa o->(b<h₀.objs.size\/∀vs,o.data≠.fields vs)->∃sl,h'.get? b=aa {o with slots:=sl}/\((∀es n,o.data≠.dict es n)\/b∉X->sl=o.slots)
theorem yj.refl {X:List aJ}:yj h₀ X h h:=⟨aO _,λU o e U=>⟨o.slots,e,λU=>rfl⟩⟩
theorem yj.trans {fj:bV}{X:List aJ}(x:yj h₀ X h h₁)(y:yj h₀ X h₁ fj):yj h₀ X h fj:=⟨aQ x.size y.size,λb o e k=>by refine dB (x.ev b o e k) λs1 e1 k1=>?_;refine dB (y.ev b _ e1 k) λs2 e2 k2=>?_;exact⟨s2,e2,λnd=>(k2 nd).trans (k1 nd)⟩⟩
theorem yj.g0 {X:List aJ}(x:yj h₀ X h h'):mQ [] ρ h ρ h':=⟨⟨[],by simp,λU q=>nomatch q⟩,x.size,λb o e U U nf=>by refine dB (x.ev b o e (.inr nf)) λsl e' k=>?_;exact⟨sl,e',λnd=>k (.inl nd)⟩⟩
theorem Rel.chg  {X:List aJ}(R:Rel Z ρ X σ h)(hb:Z.base.objs.size<=h₀.objs.size)(x:yj h₀ X h h'):Rel Z ρ X σ h':=by
 have keep:∀b o,b∉X->h.get? b=aa o->(b<h₀.objs.size\/∀vs,o.data≠.fields vs)->h'.get? b=aa o:=λb o n e k=>by refine dB (x.ev b o e k) λsl e' q=>?_;rw[e',q (.inr n)]
 refine R.Lc (F:=[]) x.g0 (λU q=>nomatch q) (λU q=>.inl q) (λp hp y hy=>?_) (λb o e=>keep b o (λq=>absurd (bu e) (bO.mpr (R.D4 b q))) (R.keep b o e) (.inl (bK (bu e) hb))) (λp hp y hy=>(R.ge p hp y hy).2) λb q=>bK (R.vF b q) x.size;have nX:=(R.ge p hp y hy).2;obtain⟨i,hi,rfl⟩:=kf.mp hp;have e:ρ[i]?=aa ρ[i]:=bA hi;have hi':i<σ.length:=R.len▸hi;have ob:=R.obj i _ _ e (bA hi');have fin:∀ {o:Obj},h.get? y=aa o->(∀vs,o.data≠.fields vs)->h'.get? y=h.get? y:=λ{o} ey nf=>by rw[ey];exact keep y o nX ey (.inr nf)
 induction ho:σ[i]with
 |list l =>rw[ho]at ob;obtain⟨d,vs,⟨n,a⟩,_⟩:=ob;simp only[Pl.lW,d,eE,au]at hy;subst hy;exact fin a (λU q=>by exact bk q)
 |cH l =>rw[ho]at ob;obtain⟨d,vs,⟨o,_,_,a,_,hd,_⟩,_⟩:=ob;simp only[Pl.lW,d,eE,au]at hy;subst hy;exact fin a (λU q=>by rw[hd]at q;exact bk q)
 |dN l =>rw[ho]at ob;obtain⟨d,vs,⟨o,_,_,a,_,hd,_⟩,_⟩:=ob;simp only[Pl.lW,d,eE,au]at hy;subst hy;exact fin a (λU q=>by rw[hd]at q;exact bk q)
 |inst l =>
  rw[ho]at ob;(refine MF ob λdx es n d a b U=>?_;try clear ob);simp only[Pl.lW,d,DY,aM,au]at hy;rcases hy with rfl|rfl|q
  .exact fin a (λU q=>by exact bk q)
  .exact fin b (λU q=>by exact bk q)
  .cases q
theorem da.chg {X:List aJ}(t:da X h l)(x:yj h₀ X h h'):da X h' l:=λe he=>by obtain⟨a,L,o,es,k,b,c,d,f⟩:=t e he;refine dB (x.ev L o d (.inr λvs q=>by rw[f]at q;exact bk q)) λsl e' U=>?_;exact⟨a,L,_,es,k,b,c,e',f⟩
theorem Go.chg {F X:List aJ}{s:av}(g:Go F ρ s aH ay)(x:yj s.heap X ay.heap h'):Go F ρ s aH {ay with heap:=h'}:=by
 refine⟨⟨g.grow.pre,aQ g.grow.size x.size,λb o e k n=>?_⟩,?_⟩
 .refine dB (g.grow.ev b o e k n) λs1 e1 k1=>?_;refine dB (x.ev b _ e1 (.inl (bu e))) λs2 e2 k2=>?_;exact⟨s2,e2,λnd=>(k2 (.inl nd)).trans (k1 nd)⟩
 .refine H0 g.same λh t e=>?_;exact⟨h',t,by rw[e]⟩
def Flew (Z:ng)(h₀:bV)(e:aJ)(h:bV):Prop :=
 h₀.objs.size<=e/\∃oe vs,h.get? e=aa oe/\oe.cls=.ref Z.CB/\oe.data=.fields vs/\∃T oT ts f,vs[1]?=aa (.ref T)/\h₀.objs.size<=T/\T≠e/\h.get? T=aa oT/\oT.data=.fields ts/\ts[3]?=aa f
theorem Flew.fly  {e:aJ}(x:Flew Z h₀ e h):Au Z h₀ e h:=by obtain⟨a,oe,vs,b,c,d,T,oT,ts,f,k⟩:=x;exact⟨a,oe,vs,b,c,d,.inr ⟨T,oT,ts,f,k⟩⟩
section
variable {E:ax->av->Prop}{s:av}{X:List aJ}
theorem pE {b:aJ}{o:Obj}{vs:Array ax}(e:h.get? b=aa o)(d:o.data=.fields vs)(hb:h₀.objs.size<=b)(k:Nat)(x:ax):yj h₀ X h (h.update b (kb (·.setIfInBounds k x))):=by
 refine⟨by simp,λa oa ea ka=>?_⟩;have ne:b≠a:=λq=>by
  subst q;rw[e]at ea;obtain rfl:=aj ea;rcases ka with lt|nf
  .exact absurd lt (bO.mpr hb)
  .exact nf vs d
 exact⟨oa.slots,(eh _ _ ne).trans ea,λU=>rfl⟩
theorem DP  (x:Heap.SlotsOnly (l.filterMap (·.frame)) h h')(t:da X h l):yj h₀ X h h':=by
 refine⟨fR x.1.symm,λb o e U=>?_⟩;by_cases m:b∈l.filterMap (·.frame)
 .obtain⟨sl,e'⟩:=x.2.2 b o e;refine⟨sl,e',λq=>?_⟩;refine dB (List.mem_filterMap.mp m) λenv he hf=>?_;obtain⟨_,L,o',es,n,hL,hX,ho,hd⟩:=t env he;rw[hf]at hL;obtain rfl:=aj hL;rw[e]at ho;obtain rfl:=aj ho;rcases q with nd|nX
  .exact absurd hd (nd es n)
  .exact absurd hX nX
 .exact⟨o.slots,(x.2.1 b m).trans e,λU=>rfl⟩
theorem HE (o:Obj):yj h₀ X h (h.push o):=⟨by simp,λb ob e U=>⟨ob.slots,br o e,λU=>rfl⟩⟩
theorem om {outer:List Env}{L e:aJ}{base:bV}{Q:Unit->av->Prop}(uP:A.frames=aa (env::outer))(hf:env.frame=aa L)(t:da X s.heap (env::outer))(hl:s.heap.FunFrames base (env::outer))(y:Au Z h₀ e s.heap)
  (q:∀h',yj h₀ X s.heap h'->Flew Z h₀ e h'->Q () {s with heap:=h'}):aE M A (noteFrame (.ref e) env) Q E s:=by
 obtain⟨Am,oe,vs,he,hc,hd,hk⟩:=y;have ent:∀(ay:av) (head:ax) (CD:Bool) (oe:Obj) (vs:Array ax),ay.heap.FunFrames base (env::outer)->da X ay.heap (env::outer)->ay.heap.get? e=aa oe->oe.cls=.ref Z.CB->oe.data=.fields vs->1<vs.size->h₀.objs.size<=ay.heap.objs.size ->
   (∀h',yj h₀ X ay.heap h'->Flew Z h₀ e h'->Q () {ay with heap:=h'}) ->
   aE M A (do let a<-frameOf env;let pl<-entryPlaceOf L CD;let b<-yw head a .none (oj L) .none pl;setField (.ref e) 1 b) Q E ay:=by
  intro ay head CD oe vs hl t he hc hd hsz hle q;refine aq (wpAny_frameOf_fun uP hl hf λh₁ GL=>?_);refine aq (wpAny_entryPlaceOf λpl Cw=>?_);delta yw newFields;refine aq (jU ?_ (Cw.sizeOk5 _ _ _ _ _));have ne:e∉(env::outer).filterMap (·.frame):=λm=>by refine dB (List.mem_filterMap.mp m) λen OT hfe=>?_;obtain⟨_,L',o',es,n,hL,_,ho,An⟩:=t en OT;rw[hfe]at hL;obtain rfl:=aj hL;rw[he]at ho;obtain rfl:=aj ho;rw[hd]at An;exact bk An
  have MY:h₁.get? e=aa oe:=(GL.2.1 e ne).trans he;have zO:=br (h:=h₁) {cls:=.type "traceback",dict:=ae,data:=.fields ([head,.ref L,.none,oj L,.none]++(if pl.isEmpty then bF 6 hZ else pl)).toArray} MY;refine BK zO hd hsz ?_;have H9:h₁.objs.size≠e:=CO (bu MY);have M0:=Obj.data_mapFields hd (·.setIfInBounds 1 (dP h₁.objs.size));have ZI:=dQ (kb (·.setIfInBounds 1 (dP h₁.objs.size))) zO (D0 M0);have ZQ:=(eh (h₁.push {cls:=.type "traceback",dict:=ae,data:=.fields ([head,.ref L,.none,oj L,.none]++(if pl.isEmpty then bF 6 hZ else pl)).toArray})
   (kb (·.setIfInBounds 1 (dP h₁.objs.size))) (lE H9)).trans (cE h₁ rfl)
  refine q _ ((DP GL t).trans ((HE _).trans (pE zO hd Am _ _))) ⟨Am,_,_,ZI,(Obj.cls_mapFields _ _).trans hc,M0,h₁.objs.size,_,_,oj L,by simp[hsz],by have:=GL.1;exact ab1 hle this,H9,ZQ,rfl,by simp⟩
 delta noteFrame;simp only[hf];rcases hk with h1|⟨T,oT,ts,f,h1,OW,H9,hT,GY,h3⟩
 .refine aq (iS he hd h1 ?_);rw[if_neg (by decide)];exact ent s .none ag oe vs hl t he hc hd (fE.mp h1).1 (aQ Am (dj (bu he))) q
 .refine aq (iS he hd h1 ?_);rw[if_pos (by simp:(dP T != hZ)=af)];refine aq (iS hT GY h3 ?_);by_cases hq:(f==oj L)=af
  .rw[if_pos hq];exact aW (q s.heap .refl ⟨Am,oe,vs,he,hc,hd,T,oT,ts,f,h1,OW,H9,hT,GY,h3⟩)
  .rw[if_neg hq];refine aq (BK hT GY (fE.mp h3).1 ?_);have c1:yj h₀ X s.heap (s.heap.update T (kb (·.setIfInBounds 3 hZ))):=pE hT GY OW 3 .none;have Qu:=(eh s.heap (kb (·.setIfInBounds 3 hZ)) H9).trans he;refine ent {s with heap:=s.heap.update T (kb (·.setIfInBounds 3 hZ))} (.ref T) af oe vs (hl.of_keeps λb o hb hnf=>⟨o,(eh _ _ λq=>?_).trans hb,rfl⟩) (t.chg c1) Qu hc hd (fE.mp h1).1 (aQ Am (dj (bu Qu))) λh' c2 y=>q h' (c1.trans c2) y;subst q;rw[hT]at hb;obtain rfl:=aj hb;exact hnf ts GY
theorem jK {e:aJ}{fr:Option aJ}{Q:Unit->av->Prop}(y:Flew Z h₀ e s.heap)(q:∀h',yj h₀ X s.heap h'->Flew Z h₀ e h'->Q () {s with heap:=h'}):aE M A (setFlight (.ref e) fr) Q E s:=by obtain⟨Am,oe,vs,he,hc,hd,T,oT,ts,f,h1,OW,H9,hT,GY,h3⟩:=y;delta setFlight;refine aq (iS he hd h1 ?_);rw[if_pos (by simp:(dP T != hZ)=af)];refine BK hT GY (fE.mp h3).1 (q _ (pE hT GY OW _ _) ?_);have An:=Obj.data_mapFields GY (·.setIfInBounds 3 (fr.elim hZ λf=>oj f));exact⟨Am,oe,vs,(eh _ _ H9).trans he,hc,hd,T,_,_,_,h1,OW,H9,dQ _ hT (D0 An),An,by simp[(fE.mp h3).1];rfl⟩
end
section
variable {c:Cx}{W:Nat}
theorem Gk (N:bW c)(uP:c.A.frames=aa c.l){s:av}{e:aJ}{E:ax->av->Prop}(hb:c.Z.base.objs.size<=s.heap.objs.size)(g:Go (iF c) ρ s aH ay)(R:Rel c.Z aH c.X σ ay.heap)(y:Au c.Z s.heap e ay.heap)(t:da c.X ay.heap c.l)
  (q:∀s',Go (iF c) ρ s aH s'->Rel c.Z aH c.X σ s'.heap->Au c.Z s.heap e s'.heap->da c.X s'.heap c.l->E (.ref e) s') :
  AY (aC c.Z.prog c.Z.w) c.A c.env (mK (aC c.Z.prog c.Z.w) c.A c.env E) (.ref e) ay:=by
 obtain⟨outer,ho⟩:=N.top;rw[ho]at uP;rw[ho]at t;refine om uP N.frame t (da.fun R t) y λh' c1 y1=>?_;unfold mK;have y2:=y1;obtain⟨Am,oe,vs,he,hc,hd,T,oT,ts,f,h1,OW,H9,hT,GY,h3⟩:=y1;refine aq (iS (s:={ay with heap:=h'}) he hd h1 ?_);rw[if_neg (show¬((dP T==hZ)=af)from bq)];refine jK (Z:=c.Z) (X:=c.X) (h₀:=s.heap) (s:={ay with heap:=h'}) y2 λIb c2 y3=>?_;have cc:=c1.trans c2;refine q _ (g.chg cc) (R.chg hb cc) y3.fly ?_;rw[ho];exact t.chg cc
theorem A4 {cd:Vs->bp->R V}{b:Vs->bp->RS}{n:Nat}{vs:Vs}{σ:bp}:oM cd b (n+1) vs σ=((cd vs σ).bind fV).bind λx σ=>if x then(b vs σ).bind λr σ=>match r with
   |(.nx,vs)=>oM cd b n vs σ
   |(.rt v,vs)=>.ok (.rt v,vs) σ
  else .ok (.nx,vs) σ:=by
 refine(?_:(cd vs σ).bind _=_);rw[R.bind_assoc];congr 1;funext v cD;induction v using V.casesOn with
 |bool b=>induction b<;>rfl
 |_=>rfl
theorem E1 (D:Ok c mg mb)(N:bW c){t:X}{b:List S}(ht:QC c t et)(hb:DW c W b eb):SS c W (.vG t b) (.While et eb [] pos):=λvs ρ σ s t₀=>by
 have e0:ex G c.Φ W (.vG t b) vs σ=oM (λvs σ=>ev G c.Φ vs t [] σ) (λvs σ=>l5 G c.Φ W b vs σ) W vs σ:=rfl;rw[e0];have hbs:=t₀.rel.bsize;generalize hr:oM (λvs σ=>ev G c.Φ vs t [] σ) (λvs σ=>l5 G c.Φ W b vs σ) W vs σ=r;have core:∀ {Rr:sD->av->Prop} {E:ax->av->Prop},(r≠.bad) ->
   (∀a cD,r=.ok a cD->∀f bJ s',Go (iF c) ρ s bJ s'->Rel c.Z bJ c.X cD s'.heap->TS c bJ s'.heap a f->Rr (.ok f) s') ->
   (∀cD,r=.exc cD->∀e bJ s',Go (iF c) ρ s bJ s'->Rel c.Z bJ c.X cD s'.heap->Au c.Z s.heap e s'.heap->da c.X s'.heap c.l->AY (aC c.Z.prog c.Z.w) c.A c.env (λe s'=>Rr (.error e) s') (.ref e) s') ->
   gX (aC c.Z.prog c.Z.w) c.A (.whileLoop et eb [] c.env) Rr s:=by
  intro Rr E nb qo qe;refine codeAny_whileLoop (λn ay=>∃ku aH bj,Go (iF c) ρ s aH ay/\St (c.wv ku) aH bj ay.heap/\oM (λvs σ=>ev G c.Φ vs t [] σ) (λvs σ=>l5 G c.Φ W b vs σ) n ku bj=r) ?_ W ⟨vs,ρ,σ,.refl,t₀,hr⟩;rintro n ay ⟨ku,aH,bj,bY,eU,h₁⟩;induction n using Nat.casesOn with
  |zero=>exact absurd h₁.symm nb
  |succ n =>
   rw[A4]at h₁;have tst:=ht ku aH ay bj eU;induction hx:(ev G c.Φ ku t [] bj).bind fV with
   |bad=>rw[hx]at h₁;exact absurd h₁.symm nb
   |exc gz =>rw[hx]at h₁ tst;refine tst _ _ λe bJ s' g R y=>qe gz h₁.symm e bJ s' (bY.trans g.any) R (y.mH bY.grow.size) (eU.oq.grow eU.rel g.grow λU U U U q=>nomatch q)
   |ok x gz =>
    rw[hx]at h₁ tst;refine tst _ _ λx' fT bH fN fO e=>?_;subst e;have q6:St (c.wv ku) fT gz bH.heap:=St.go (c:=c.wv ku) eU fN fO;have CE:=bY.trans (fN.any (F:=iF c));induction x with
    |false =>simp only[cN,if_false];exact jo (qo _ _ h₁.symm .next fT bH CE fO (TS.nx q6))
    |true =>
     simp only[if_true];change (l5 G c.Φ W b ku gz).bind _=r at h₁;have body:=hb ku fT gz bH q6;induction hy:l5 G c.Φ W b ku gz with
     |bad=>rw[hy]at h₁;exact absurd h₁.symm nb
     |exc tL =>rw[hy]at h₁ body;exact body _ _ λe bJ s' g R y fo=>qe tL h₁.symm e bJ s' (CE.trans g) R (y.mH CE.grow.size) fo
     |ok a tL =>
      rw[hy]at h₁ body;obtain⟨fl,EE⟩:=a;refine body _ _ λf yA fU x7 qN zf=>?_;have wX:=CE.trans x7;induction fl with
      |nx =>
       induction f with
       |next=>exact⟨n,iN n,EE,yA,tL,wX,zf.st qN,h₁⟩
       |_=>exact zf.2.2.elim
      |rt v =>
       induction f with
       |ret w=>exact qo _ _ h₁.symm (.ret w) yA fU wX qN zf
       |_=>exact zf.2.2.elim
 induction r with
 |bad=>trivial
 |ok a cD =>refine λQ E q=>wpAny_While (core (E:=E) (λz=>nomatch z) (λa' oW e f bJ s' g R t=>?_) λoW e=>nomatch e);(obtain⟨rfl,rfl⟩:=rI e);exact q f bJ s' g R t
 |exc cD =>refine λQ E q=>wpAny_While (core (E:=E) (λz=>nomatch z) (λa' oW e=>nomatch e) λoW e' e bJ s' g R y fo=>?_);obtain rfl:=Internal.R.exc.inj e';exact Gk N D.fr hbs g R y fo λlK g' R' y' Qw=>q e bJ lK g' R' y' Qw
end
def z6 (F:List aJ)(c:Cx){α β:Type}(ρ:List Pl)(s:av)(T:List Pl->bV->α->β->Prop)(r:R α)(W:(β->av->Prop)->(ax->av->Prop)->Prop):Prop :=
 match r with
 |.ok a cD=>∀Q E,(∀b bJ s',Go F ρ s bJ s'->Rel c.Z bJ c.X cD s'.heap->T bJ s'.heap a b->Q b s')->W Q E
 |.exc cD=>∀Q E,(∀e bJ s',Go F ρ s bJ s'->Rel c.Z bJ c.X cD s'.heap->Au c.Z s.heap e s'.heap->da c.X s'.heap c.l->E (.ref e) s')->W Q E
 |.bad=>True
section
variable {c:Cx}{W:Nat}
theorem sW.s (N:bW c){y:X}(h:sW (c.wv vs) y e){s:av}(t:St (c.wv vs) ρ σ s.heap){α β:Type}{T:List Pl->bV->α->β->Prop}{f:IK->bp->R α}{W2:ax->av->(β->av->Prop)->(ax->av->Prop)->Prop}
  (K:∀k bj aH ay it own,Go [] ρ s aH ay->Rel c.Z aH (own++c.X) bj ay.heap->dD aH (own++c.X) ay.heap own it k 0->(∀b∈own,s.heap.objs.size<=b)->(∀n en,k=.live n en->en=af->∃a,y=.pA a)->z6 (own++iF c) c aH ay T (f k bj) (W2 (.ref it) ay)) :
  cG c ρ s T ((uT G c.Φ vs y [] σ).bind f) (λQ E=>aE (aC c.Z.prog c.Z.w) c.A (eval e c.env) (λx ay=>aE (aC c.Z.prog c.Z.w) c.A (pP x) (λit bH=>W2 it bH Q E) E ay) E s):=by
 have OV:(c.wv vs).cs=[]:=N.cs;induction hr:uT G c.Φ vs y [] σ with
 |bad=>trivial
 |exc cD =>have:=h ρ s σ t (F:=[]) (T:=T) (f:=λU U=>.bad) (W2:=W2) λU U U U U U U U U U U=>trivial;rw[OV]at this;rw[show uT G (c.wv vs).Φ (c.wv vs).vs y [] σ=.exc cD from hr]at this;exact λQ E q=>this Q E λe bJ s' g R y=>q e bJ s' g.any R y (t.oq.grow t.rel g.grow λU U U U q=>nomatch q)
 |ok k₀ BH =>
  have:=h ρ s σ t (F:=iF c) (α:=Option α) (β:=Sum β aJ) (T:=λρ h a b=>match a,b with
    |some a,.inl b=>T ρ h a b
    |none,.inr e=>Au c.Z s.heap e h/\da c.X h c.l
    |_,_=>False) (f:=λk σ=>match f k σ with
    |.ok a σ=>.ok (aa a) σ
    |.exc σ=>.ok ae σ
    |.bad=>.bad) (W2:=λit ay Q U=>∀Q' E',(∀b s',Q (.inl b) s'->Q' b s')->(∀a s',Q (.inr a) s'->E' (.ref a) s')->W2 it ay Q' E') λk bj aH ay it own g R I fr nl=>?_
  .rw[OV]at this;rw[show uT G (c.wv vs).Φ (c.wv vs).vs y [] σ=.ok k₀ BH from hr]at this;dsimp only[R.bind]at this ⊢;induction hf:f k₀ BH with
   |bad=>trivial
   |ok a cD =>
    rw[hf]at this;refine λQ E q=>?_;have:=this (λb s'=>match b with|.inl b=>Q b s'|.inr a=>E (.ref a) s') E λb bJ s' g R t=>?_
    .exact bo this (λx ay h₁=>bo h₁ (λit bH fj=>fj Q E (λU U h=>h) λU U h=>h) λU U x=>x) λU U x=>x
    .induction b with
     |inl b=>exact q b bJ s' g R t
     |inr e=>exact t.elim
   |exc cD =>
    rw[hf]at this;refine λQ E q=>?_;have:=this (λb s'=>match b with|.inl b=>Q b s'|.inr a=>E (.ref a) s') E λb bJ s' g R t=>?_
    .exact bo this (λx ay h₁=>bo h₁ (λit bH fj=>fj Q E (λU U h=>h) λU U h=>h) λU U x=>x) λU U x=>x
    .induction b with
     |inl b=>exact t.elim
     |inr e=>exact q e bJ s' g R t.1 t.2
  .have:=K k bj aH ay it own g R I fr nl;induction hf:f k bj with
   |bad=>trivial
   |ok a cD =>rw[hf]at this;exact λQ E q Q' E' h1 h2=>this Q' E' λb bJ s' g R t=>h1 _ _ (q (.inl b) bJ s' g R t)
   |exc cD =>rw[hf]at this;exact λQ E q Q' E' h1 h2=>this Q' E' λe bJ s' g' R y fo=>h2 _ _ (q (.inr e) bJ s' g' R ⟨y.mH g.grow.size,fo⟩)
theorem z6.less {F own:List aJ}{X:List aJ}{α β:Type}{s:av}{T T':List Pl->bV->α->β->Prop}{r:R α}{W:(β->av->Prop)->(ax->av->Prop)->Prop}(h:z6 F (c.wx (own++X)) ρ s T' r W)(f:da X h₀ c.l)(hT:∀ρ h a b,T' ρ h a b->T ρ h a b):z6 F (c.wx X) ρ s T r W:=by
 induction r with
 |bad=>trivial
 |ok a cD=>exact λQ E q=>h Q E λb bJ s' g R t=>q b bJ s' g (R.less λb hb=>aU _ hb) (hT _ _ _ _ t)
 |exc cD=>exact λQ E q=>h Q E λe bJ s' g R y fo=>q e bJ s' g (R.less λb hb=>aU _ hb) y (f.back fo)
def By (c:Cx)(t:Tg)(et:b8):Prop:=∀vs ρ σ s x w,St (c.wv vs) ρ σ s.heap->bz ρ c.X s.heap x w->∀k4,lg t x vs=aa k4->∀{Q:Unit->av->Prop} {E:ax->av->Prop},
 (∀bJ s',Go (iF c) ρ s bJ s'->St (c.wv k4) bJ σ s'.heap->Q () s')->aE (aC c.Z.prog c.Z.w) c.A (jg et c.env w) Q E s
theorem BR (N:bW c){i:Nat}{n:Str}(hi:c.vt[i]?=aa n)(hk:c.env.kindOf n=aa .local\/c.env.kindOf n=aa .cell):By c (.n i) (.Name n p):=λvs ρ σ s x w t r k4 e Q E q=>by obtain rfl:=aj e;exact nh (ky N t hi hk r λh' tk g t' U=>q ρ _ g t')
theorem tM:∀(is:List Nat) (l:List V) (vs:Vs),(is.zip l).foldl (λvs p=>vs.set p.1 (aa p.2)) vs=jP is l vs
 |[],_=>λU=>rfl
 |_::_,[]=>λU=>rfl
 |i::is,x::l=>λvs=>tM is l (vs.set i (aa x))
theorem Ny (N:bW c)(hh:c.A.handled=ae){k:Nat}(h:wb (SA c) (is.map .n) es):By c (.t is) (.Tuple es k p):=λvs ρ σ s x w t r k4 e Q E q=>by
 induction x using V.casesOn with
 |tup l =>
  dsimp only[lg]at e
  split at e
  .rename_i hl
   obtain rfl:=aj e;have:=ud (p:=p) (k:=k) N N.cells hh h t r (by simpa using hl);rw[me is l vs σ (by simpa using hl.symm)]at this;exact this Q E λb bJ s' g R t'=>q bJ s' g (by rw[tM];exact⟨R,t'.1,t'.2⟩)
  .exact fv e
 |_=>exact fv e
theorem Dy (N:bW c)(uP:c.A.frames=aa c.l){F:List aJ}{s:av}{e:aJ}{E:ax->av->Prop}(hb:c.Z.base.objs.size<=s.heap.objs.size)(g:Go F ρ s aH ay)(R:Rel c.Z aH c.X σ ay.heap)(y:Au c.Z s.heap e ay.heap)(t:da c.X ay.heap c.l)
  (q:∀s',Go F ρ s aH s'->Rel c.Z aH c.X σ s'.heap->Au c.Z s.heap e s'.heap->da c.X s'.heap c.l->E (.ref e) s') :
  AY (aC c.Z.prog c.Z.w) c.A c.env (mK (aC c.Z.prog c.Z.w) c.A c.env E) (.ref e) ay:=by
 obtain⟨outer,ho⟩:=N.top;rw[ho]at uP;rw[ho]at t;refine om uP N.frame t (da.fun R t) y λh' c1 y1=>?_;unfold mK;have y2:=y1;obtain⟨Am,oe,vs,he,hc,hd,T,oT,ts,f,h1,OW,H9,hT,GY,h3⟩:=y1;refine aq (iS (s:={ay with heap:=h'}) he hd h1 ?_);rw[if_neg (show¬((dP T==hZ)=af)from bq)];refine jK (Z:=c.Z) (X:=c.X) (h₀:=s.heap) (s:={ay with heap:=h'}) y2 λIb c2 y3=>?_;have cc:=c1.trans c2;refine q _ (g.chg cc) (R.chg hb cc) y3.fly ?_;rw[ho];exact t.chg cc
structure HW (c:Cx)(W:Nat)(t:Tg)(b:List S)(k:IK)(L:Nat->Nat->Vs->bp->RS):Prop where
 go:∀n i vs σ,L n i vs σ≠.bad->∃ov,itemAt k σ i=aa ov/\(ov=ae->L n i vs σ=.ok (.nx,vs) σ)/\(∀x,ov=aa x->∃m k4,m<n/\lg t x vs=aa k4 /\
  L n i vs σ=(l5 G c.Φ W b k4 σ).bind λr σ=>match r with
   |(.nx,vs)=>L m (i+1) vs σ
   |(.rt v,vs)=>.ok (.rt v,vs) σ)
def PW (c:Cx)(own:List aJ)(ρ:List Pl)(s:av)(it:aJ)(k:IK)(L:Nat->Nat->Vs->bp->RS)(r:RS)(n:Nat)(s':av):Prop :=
 ∃vs aH σ i,Go (own++iF c) ρ s aH s'/\St (c.wv vs) aH σ s'.heap/\dD aH c.X s'.heap own it k i/\L n i vs σ=r
def Nd (c:Cx)(et:b8)(eb:List iM)(I:Nat->av->Prop)(Rr:sD->av->Prop)(n:Nat)(w:ax)(s:av):Prop :=
 aE (aC c.Z.prog c.Z.w) c.A (jg et c.env w) (λU s=>aE (aC c.Z.prog c.Z.w) c.A (execs eb c.env) (λf s=>match f with
  |.next|.cont=>∃m,m<n/\I m s
  |.brk=>Rr (.ok .next) s
  |.ret v=>Rr (.ok (.ret v)) s) (AY (aC c.Z.prog c.Z.w) c.A c.env λe s'=>Rr (.error e) s') s) (AY (aC c.Z.prog c.Z.w) c.A c.env λe s'=>Rr (.error e) s') s
theorem rn (hh:c.A.handled=ae)(uP:c.A.frames=aa c.l)(N:bW c){t:Tg}{b:List S}(hL:HW c W t b k L)(hb:DW c W b eb)(ht:By c t et)(het:(isTup et||isName et)=af)(OT:(∃n,k=.live n af)->isTup et=af)
  {own:List aJ}(ho:∀x∈own,x∈c.X)(JZ:∀x∈own,x∉iF c){s:av}{n:Nat}(t₀:St (c.wv vs) ρ σ s.heap)(I:dD ρ c.X s.heap own it k 0) :
  z6 (own++iF c) c ρ s (TS c) (L n 0 vs σ) (λQ E=>gX (aC c.Z.prog c.Z.w) c.A (.forLoop et (.ref it) eb [] c.env) (λr s'=>match r with|.ok f=>Q f s'|.error e=>mK (aC c.Z.prog c.Z.w) c.A c.env E e s') s):=by
 have hbs:=t₀.rel.bsize;generalize hr:L n 0 vs σ=r;have core:∀ {Rr:sD->av->Prop},(r≠.bad) ->
   (∀a cD,r=.ok a cD->∀f bJ s',Go (own++iF c) ρ s bJ s'->Rel c.Z bJ c.X cD s'.heap->TS c bJ s'.heap a f->Rr (.ok f) s') ->
   (∀cD,r=.exc cD->∀e bJ s',Go (own++iF c) ρ s bJ s'->Rel c.Z bJ c.X cD s'.heap->Au c.Z s.heap e s'.heap->da c.X s'.heap c.l->AY (aC c.Z.prog c.Z.w) c.A c.env (λe s'=>Rr (.error e) s') (.ref e) s') ->
   gX (aC c.Z.prog c.Z.w) c.A (.forLoop et (.ref it) eb [] c.env) Rr s:=by
  intro Rr nb qo qe;refine codeAny_forLoop_any (PW c own ρ s it k L r) ?_ n (bB vs ⟨ρ,σ,0,.refl,t₀,I,hr⟩);rintro n ay ⟨ku,aH,bj,i,bY,eU,HX,h₁⟩;refine ti (hL.go n i ku bj (by rw[h₁];exact nb)) λov Qo hn hs=>?_;have upd:∀ {bH:av},Go own aH ay aH bH->Rel c.Z aH c.X bj bH.heap->St (c.wv ku) aH bj bH.heap:=λ{bH} fN fO=>by
   have nF1:c.env.locals∉own:=λq=>JZ _ q (.head _);have nF2:∀x a,c.env.cells.lookup x=aa a->a∉own:=λx a e q=>JZ _ q (.tail _ (lookup_mem e));have nF3:∀e∈c.l,∀L,e.frame=aa L->L∉own:=λe he L hL q=>by obtain⟨_,L',o,es,n,Bl,_,GR,hd⟩:=eU.oq e he;rw[hL]at Bl;obtain rfl:=aj Bl;exact HX.noDict q GR hd
   exact St.rZ (c:=c.wv ku) eU fN.grow fO ho nF1 nF2 nF3
  have turn:∀v,ov=aa v->∀w bH,Go own aH ay aH bH->Rel c.Z aH c.X bj bH.heap->dD aH c.X bH.heap own it k (i+1)->bz aH c.X bH.heap v w ->
    Nd c et eb (PW c own ρ s it k L r) Rr n w bH:=by
   intro v hv w bH fN fO PZ rv;refine mI (hs v hv) λm k4 hm hp hLn=>?_;have q6:=upd fN fO;refine ht ku aH bj bH v w q6 rv k4 hp λyA fU x7 yW=>?_;have body:=hb k4 yA bj fU yW;have wX:Go (own++iF c) ρ s yA fU:=(bY.trans (fN.mono λb hb=>bS _ hb)).trans (x7.mono λb hb=>aU _ hb);have fX:∀b∈iF c,b∈c.X:=ur N N.cells eU;have PY:=PZ.grow fO x7.grow fX λb hb=>⟨ho b hb,JZ b hb⟩;rw[hLn]at h₁;induction hy:l5 G c.Φ W b k4 bj with
   |bad=>rw[hy]at h₁;exact absurd h₁.symm nb
   |exc tL =>rw[hy]at h₁ body;exact body _ _ λe bJ s' g R y fo=>qe tL h₁.symm e bJ s' (wX.trans (g.mono λb hb=>aU _ hb)) R (y.mH wX.grow.size) fo
   |ok a tL =>
    rw[hy]at h₁ body;obtain⟨fl,EE⟩:=a;refine body _ _ λf BI q7 x6 Bz ze=>?_;have M3:Go (own++iF c) ρ s BI q7:=wX.trans (x6.mono λb hb=>aU _ hb);induction fl with
    |nx =>
     induction f with
     |next=>exact⟨m,hm,bB EE ⟨BI,tL,i+1,M3,ze.st Bz,PY.grow yW.rel x6.grow fX (λb hb=>⟨ho b hb,JZ b hb⟩),h₁⟩⟩
     |_=>exact ze.2.2.elim
    |rt v =>
     induction f with
     |ret w=>exact qo _ _ h₁.symm (.ret w) BI q7 M3 Bz ze
     |_=>exact ze.2.2.elim
  refine wO (Qn:=_) (Qs:=Nd c et eb (PW c own ρ s it k L r) Rr n) eU.rel hh HX ho Qo ?_ ?_ ?_ ?_
  .exact λhk w fU o GR hc q=>zF het GR hc q
  .rintro n rfl MP j item a fU he q;exact A7 (OT ⟨n,rfl⟩) he q
  .intro e s' g R;have t':=upd g R;exact jo (qo _ _ (h₁.symm.trans (hn e)) .next aH s' (bY.trans (g.mono λb hb=>bS _ hb)) R (TS.nx t'))
  .exact λv hv w s' g R I' rv=>turn v hv w s' g R I' rv
 induction r with
 |bad=>trivial
 |ok a cD =>refine λQ E q=>core (λz=>nomatch z) (λa' oW e f bJ s' g R t=>?_) λoW e=>nomatch e;(obtain⟨rfl,rfl⟩:=rI e);exact q f bJ s' g R t
 |exc cD =>refine λQ E q=>core (λz=>nomatch z) (λa' oW e=>nomatch e) λoW e' e bJ s' g R y fo=>?_;obtain rfl:=Internal.R.exc.inj e';exact Dy N uP hbs g R y fo λlK g' R' y' Qw=>q e bJ lK g' R' y' Qw
theorem rU {t:Tg}{b:List S}{l:List V}:HW c W t b (.items l) (λn i vs σ=>if n+i=l.length then ja t (λvs σ=>l5 G c.Φ W b vs σ) (l.drop i) vs σ else .bad) where
 go:=λn i vs σ nb=>by
  by_cases hn:n+i=l.length
  .rw[if_pos hn]at nb ⊢;refine⟨l[i]?,rfl,λe=>?_,λx e=>?_⟩
   .rw[List.drop_eq_nil_of_le (by simpa using e)];rfl
   .have mX:=(aA.mp e).1;have hd:l.drop i=x::l.drop (i+1):=by rw[l4 mX,(aA.mp e).2]
    rw[hd,A5]at nb ⊢;induction hp:lg t x vs with
    |none=>rw[hp]at nb;exact absurd rfl nb
    |some k4 =>
     refine⟨n-1,k4,by exact abY hn mX,rfl,?_⟩;dsimp only;congr 1;funext r cD;obtain⟨fl,vs2⟩:=r;induction fl with
     |nx=>exact(if_pos (abX hn mX)).symm
     |rt v=>rfl
  .rw[if_neg hn]at nb;exact absurd rfl nb
theorem A6 {t:Tg}{b:List S}{n₀:Nat}{en:Bool}:HW c W t b (.live n₀ en) (λn i vs σ=>qk t en (λvs σ=>l5 G c.Φ W b vs σ) n₀ n i vs σ) where
 go:=λn i vs σ nb=>by
  induction n using Nat.casesOn with
  |zero=>exact absurd rfl nb
  |succ n =>
   rw[uC]at nb ⊢;unfold itemAt;induction Cv:σ[n₀]? with
   |none=>rw[Cv]at nb;exact absurd rfl nb
   |some o =>
    induction o with
    |list l =>
     rw[Cv]at nb;dsimp only at nb ⊢;refine⟨l[i]?.map λx=>if en then .tup [.int i,x]else x,by rw[Cv],λe=>?_,λx e=>?_⟩
     .induction hl:l[i]? with
      |none=>rfl
      |some x=>rw[hl]at e;exact oSN e
     .induction hl:l[i]? with
      |none=>rw[hl]at e;exact fv e
      |some y =>
       rw[hl]at e nb;obtain rfl:=aj e;dsimp only at nb ⊢;induction hp:lg t (if en=af then V.tup [.int i,y]else y) vs with
       |none=>rw[hp]at nb;exact absurd rfl nb
       |some k4=>exact⟨n,k4,iN n,rfl,rfl⟩
    |_=>rw[Cv]at nb;exact absurd rfl nb
theorem NW (hh:c.A.handled=ae)(uP:c.A.frames=aa c.l)(N:bW c){t:Tg}{y:X}{b:List S}(hy:∀vs,sW (c.wv vs) y e)(ht:∀X',By (c.wx X') t et)(hb:∀X',DW (c.wx X') W b eb)(het:(isTup et||isName et)=af)(OT:(∃a,y=.pA a)->isTup et=af)
  (hs:∀v,iG e c.env v=pure v):SS c W (.jv t y b) (.For et e eb [] pos):=λvs ρ σ s t₀=>by
 have e0:ex G c.Φ W (.jv t y b) vs σ=(uT G c.Φ vs y [] σ).bind λk σ=>match k with
  |.items l=>ja t (λvs σ=>l5 G c.Φ W b vs σ) l vs σ
  |.live n en=>qk t en (λvs σ=>l5 G c.Φ W b vs σ) n W 0 vs σ:=rfl
 rw[e0];refine cG.w (sW.s N (hy vs) t₀ (W2:=λit bH Q E=>gX (aC c.Z.prog c.Z.w) c.A (.forLoop et it eb [] c.env) (λr s'=>match r with|.ok f=>Q f s'|.error e=>mK (aC c.Z.prog c.Z.w) c.A c.env E e s') bH) λk bj aH ay it own g R I fr nl=>?_) λQ E q=>wpAny_For q hs;have N':bW (c.wx (own++c.X)):=⟨N.nodup,N.ct,N.cs,N.frame,N.top,N.cells⟩;have eU:St ((c.wx (own++c.X)).wv vs) aH bj ay.heap:=St.goX (c:=c.wv vs) t₀ g R (λb q=>aU _ q) λb q=>(bg.mp q).elim (λz=>.inr (fr b z)) .inl;have JZ:∀x∈own,x∉iF (c.wx (own++c.X)):=λx hx q=>by have:x∈c.X:=ur N N.cells t₀ x q;exact absurd (t₀.rel.vF x this) (bO.mpr (fr x hx))
 have hT:∀ρ h a b,TS (c.wx (own++c.X)) ρ h a b->TS c ρ h a b:=λρ h a b q=>by refine⟨pI.less q.1 (λb hb=>aU _ hb) t₀.fr.own λy a e=>(t₀.fr.cells y a e).1,da.back t₀.oq q.2.1,?_⟩;obtain⟨fl,k4⟩:=a;have q3:=q.2.2;induction fl<;>induction b using PySem.Flow.casesOn<;>first|exact q3|exact bz.less q3 λb hb=>aU _ hb
 have ZJ:(∃n,k=.live n af)->isTup et=af:=λz_=>by obtain⟨n,e⟩:=z_;exact OT (nl n af e rfl)
 induction k with
 |items l =>have:=rn (c:=c.wx (own++c.X)) hh uP N' (rU (c:=c.wx (own++c.X)) (l:=l)) (hb _) (ht _) het ZJ (λx hx=>bS _ hx) JZ (n:=l.length) eU I;simp only[Nat.add_zero,if_true,yi]at this;exact z6.less this t₀.oq hT
 |live n en=>exact z6.less (rn (c:=c.wx (own++c.X)) hh uP N' (A6 (c:=c.wx (own++c.X)) (n₀:=n) (en:=en)) (hb _) (ht _) het ZJ (λx hx=>bS _ hx) JZ (n:=W) eU I) t₀.oq hT
end
noncomputable def nB (p:Arguments):Bool:=p.posonlyargs.isEmpty&&p.kwonlyargs.isEmpty&&p.vararg.isNone&&p.kwarg.isNone&&decide (p.args.map (·.arg)).Nodup
theorem uD {ν α:Type}[BEq ν][LawfulBEq ν]:∀(ns:List ν) (vs:List α) (i:Nat) (n:ν) (v:α),ns.Nodup->ns[i]?=aa n->vs[i]?=aa v->(ns.zip vs).lookup n=aa v
 |[],_,_=>λU U U h U=>by simp at h
 |_::_,[],_=>λU U U U h=>by simp at h
 |a::ns,b::vs,0=>λn v U h k=>by obtain rfl:=aj h;obtain rfl:=aj k;rw[jd,cf,beq_self_eq_true]
 |a::ns,b::vs,i+1=>λn v nd h k=>by rw[dH]at nd;have ne:(n==a)=ag:=beq_eq_false_iff_ne.mpr λq=>nd.1 (q▸aN h);rw[jd,cf,ne];exact uD ns vs i n v nd.2 h k
theorem vT {α:Type}[BEq ν][LawfulBEq ν](ns:List ν)(vs:List α)(nd:ns.Nodup)(hl:ns.length=vs.length)(k:ν->Option α)(hk:∀(i:Nat) n v,ns[i]?=aa n->vs[i]?=aa v->k n=aa v):ns.filterMap (λn=>(k n).map (n,·))=ns.zip vs:=by
 induction ns generalizing vs with
 |nil=>rfl
 |cons a ns ih =>
  induction vs with
  |nil=>cases hl
  |cons b vs =>rw[dH]at nd;rw[jd,List.filterMap_cons,hk 0 a b rfl rfl];dsimp only[vk];rw[ih vs nd.2 (by simpa using hl) λi n v h1 h2=>hk (i+1) n v h1 h2]
theorem bpl {ar:List Arg}{kd:List (Option b8)}{df:List b8}{r:List (Str×ax)}(hp:fd.params=⟨[],ar,ae,[],kd,ae,df⟩)(hd:fd.defaults=.none)(hn:ar.map ym=ns)(hl:¬(ws.length>ns.length))
  {z:List ax}(h0:List.drop (0-ns.length) []=z)(hm:List.filter (λn=>((ns.zip ws).lookup n).isNone) (List.take (ns.length-z.length) ns)=[])(hz:(List.drop (ns.length-z.length) ns).zip z=[])(hr:ns.filterMap (λn=>((ns.zip ws).lookup n).map (n,·))=r):bindArgs fd ⟨ws,[]⟩=pure r:=by
 obtain⟨nm,qn,p,bd,sc,gl,cl,de,kde,dc,pm,an,co,ct,bl⟩:=fd;subst hp;subst hd;subst hn h0;refine(if_neg ?_).trans ((if_neg ?_).trans ?_)
 .exact λh=>hl (of_decide_eq_true (qM h))
 .exact λh=>bq ((congrArg (λl=>!List.isEmpty l) hm).symm.trans h)
 refine Eq.trans (congrArg (λz=>bind (forIn z (List.zip (ar.map ym) ws) _) _) hz) ?_;refine Eq.trans (b:=pure (((ar.map ym)++[]).filterMap (λn=>(((ar.map ym).zip ws).lookup n).map (n,·)))) rfl ?_;rw[aP,hr]
theorem F0 {p:Arguments}(h:nB p=af):p=⟨[],p.args,ae,[],p.kw_defaults,ae,p.defaults⟩/\(p.args.map ym).Nodup:=by obtain⟨po,ar,va,ko,kd,kw,df⟩:=p;have h5:=of_decide_eq_true (vg h);replace h:=qM h;obtain rfl:kw=ae:=xh.mp (vg h);replace h:=qM h;obtain rfl:va=ae:=xh.mp (vg h);replace h:=qM h;obtain rfl:ko=[]:=iK.mp (vg h);obtain rfl:po=[]:=iK.mp (qM h);exact⟨rfl,h5⟩
theorem uZ  (hp:nB fd.params=af)(hd:fd.defaults=.none)(hl:fd.params.args.length=ws.length):bindArgs fd ⟨ws,[]⟩=pure ((fd.params.args.map (·.arg)).zip ws):=by
 obtain⟨h1,nd⟩:=F0 hp;generalize hn:fd.params.args.map ym=ns at nd;have hl:ns.length=ws.length:=by rw[<- hn,ak];exact hl
 have lk:∀(i:Nat) n v,ns[i]?=aa n->ws[i]?=aa v->(ns.zip ws).lookup n=aa v:=λi n v a b=>uD _ _ i n v nd a b;refine bpl h1 hd hn (bO.mpr (fR hl.symm)) qV ?_ List.zip_nil_right (vT ns ws nd hl _ lk);rw[n5];intro n hn;obtain⟨i,hi,rfl⟩:=kf.mp (pH hn);rw[lk i _ ws[i] (bA hi) (bA (hl▸hi))];exact bq
structure Ii (A:mR)(l:List Env)(d:Nat):Prop where
 hh:A.handled=ae
 fr:A.frames=aa l
 un:A.units+300+20*d<kL
 dp:A.depth+3*d<e9
theorem Ii.deeper  {d:Nat}(h:Ii A l (d+1))(env:Env):Ii (A.deeper env) (env::l) d :=
 ⟨h.hh,jT h.fr,by have:=h.un;show A.units+3+300+20*d<kL;exact qq5 this,by have:=h.dp;show A.depth+1+3*d<e9;exact qq6 this⟩
theorem y4 (args:Args):(kY "type.__call__" args).cUnits<=5:=by
 refine(?_:(kY "type.__call__" {}).cUnits<=5)
 decide +kernel
theorem AL (args:Args):(kY "type.__call__" args).envs=[]:=by refine(?_:(kY "type.__call__" {}).envs=[]);rfl
theorem Ii.maker  {d:Nat}(h:Ii A l (d+1))(env:Env)(C:aJ)(ws:List ax):Ii ((A.deeper env).under (.builtin "type.__call__" ⟨.ref C::ws,[]⟩)) (env::l) d:=by
 refine⟨h.hh,?_,?_,?_⟩
 .refine(?_:pushEnvs (kY "type.__call__" ⟨.ref C::ws,[]⟩).envs (A.deeper env).frames=_);rw[jT h.fr,AL];rfl
 .have:=h.un;have:=y4 ⟨.ref C::ws,[]⟩;refine(?_:A.units+3+(kY "type.__call__" ⟨.ref C::ws,[]⟩).cUnits+300+20*d<kL);exact qq7 (by assumption) this
 .have:=h.dp;have e:((A.deeper env).under (.builtin "type.__call__" ⟨.ref C::ws,[]⟩)).depth=A.depth+1+1:=rfl;rw[e];exact qq8 this
structure FnAt (Z:ng)(a:aJ)(fn:Fn)(vt:List Str)(fd:ie)(body:List iM):Prop where
 obj:∃o,Z.base.get? a=aa o/\o.data=.func fd
 co:fd.scope.isCoroutine=ag
 gen:fd.scope.isGenerator=ag
 kind:fd.scope.kind=.function
 code:Z.base.CodeRec fd.code fd.qualname
 body:fd.body=.stmts body
 clo:fd.closure=[]
 glo:fd.globals=cF
 blt:fd.builtins=gY
 lim:Z.base.NoLimit
 np:fn.np<=vt.length
 nv:fn.np<=fn.nv
 nodup:vt.Nodup
 keys:(fd.scope.names.map (·.1)).Nodup
 par:∀x∈vt.take fn.np,fd.scope.names.lookup x=aa .local\/fd.scope.names.lookup x=aa .cell
 bind:∀xs ws ρ X (s:av) σ,Rel Z ρ X σ s.heap->bt ρ X s.heap xs ws->xs.length<=fn.np->fn.np<=xs.length+fn.df.length ->
  ∃Az,BG s fd ⟨ws,[]⟩ ((vt.take fn.np).zip Az)/\bt ρ X s.heap (xs++fn.df.drop (xs.length+fn.df.length-fn.np)) Az
theorem kJ:∀(names:List (Str×fZ)) (n:aJ) (acc:List (Str×aJ)) (x:Str),(names.lookup x=aa .cell\/∃c,acc.lookup x=aa c)->∃c,(sV n names acc).lookup x=aa c
 |[]=>λn acc x h=>by
  rcases h with h|h
  .exact fv h
  .exact h
 |(y,k)::r=>λn acc x h=>by
  unfold sV
  split
  .rename_i hk
   refine kJ r _ _ x ?_;by_cases e:x=y
   .subst e;right;exact⟨n,by rw[cf,beq_self_eq_true]⟩
   .have ne:(x==y)=ag:=beq_eq_false_iff_ne.mpr e;rcases h with h|⟨c,h⟩
    .rw[cf,ne]at h;exact .inl h
    .right;exact⟨c,by rw[cf,ne];exact h⟩
  .rename_i hk
   refine kJ r _ _ x ?_;rcases h with h|h
   .rw[cf]at h
    split at h
    .obtain rfl:=aj h;simp at hk
    .exact .inl h
   .exact .inr h
theorem ot {kd:Str->Option fZ}:∀(ns:List Str) (vs:List ax) (m:Str->Option ax) (x:Str),ns.Nodup->kd x=aa .local ->
  (∀(i:Nat) v,ns[i]?=aa x->vs[i]?=aa v->bindL kd (ns.zip vs) m x=aa v)/\(x∉ns->bindL kd (ns.zip vs) m x=m x)
 |[],vs=>λm x U U=>⟨λi v h=>by simp at h,λU=>by simp[bindL]⟩
 |a::ns,[]=>λm x U U=>⟨λi v U h=>by simp at h,λU=>by simp[bindL]⟩
 |a::ns,b::vs=>λm x nd hk=>by
  rw[dH]at nd;rw[jd];unfold bindL;refine⟨λi v h k=>?_,λh=>?_⟩
  .cases i with
   |zero =>obtain rfl:=aj h;obtain rfl:=aj k;rw[if_pos hk,(ot ns vs _ _ nd.2 hk).2 nd.1];exact if_pos rfl
   |succ i=>exact(ot ns vs _ x nd.2 hk).1 i v h k
  .rw[aM,not_or]at h;rw[(ot ns vs _ x nd.2 hk).2 h.2]
   split
   .exact if_neg h.1
   .rfl
theorem ou {kd:Str->Option fZ}:∀(ns:List Str) (vs:List ax) (m:Str->Option ax) (x:Str),ns.Nodup->kd x=aa .cell ->
  (∀(i:Nat) v,ns[i]?=aa x->vs[i]?=aa v->bindC kd (ns.zip vs) m x=aa v)/\(x∉ns->bindC kd (ns.zip vs) m x=m x)
 |[],vs=>λm x U U=>⟨λi v h=>by simp at h,λU=>by simp[bindC]⟩
 |a::ns,[]=>λm x U U=>⟨λi v U h=>by simp at h,λU=>by simp[bindC]⟩
 |a::ns,b::vs=>λm x nd hk=>by
  rw[dH]at nd;rw[jd];unfold bindC;have nl:¬kd x=aa .local:=by rw[hk];decide
  refine⟨λi v h k=>?_,λh=>?_⟩
  .induction i using Nat.casesOn with
   |zero =>obtain rfl:=aj h;obtain rfl:=aj k;rw[if_neg nl,(ou ns vs _ _ nd.2 hk).2 nd.1];exact if_pos rfl
   |succ i=>exact(ou ns vs _ x nd.2 hk).1 i v h k
  .rw[aM,not_or]at h;rw[(ou ns vs _ x nd.2 hk).2 h.2]
   split
   .rfl
   .exact if_neg h.1
theorem rW:∀ {cs:List (Str×aJ)} {p:Str×aJ},(∀x y c c',(x,c)∈cs->(y,c')∈cs->x=y->c=c')->p∈cs->cs.lookup p.1=aa p.2
 |[],_,_,h=>by cases h
 |q::cs,p,u,h=>by
  rw[cf];by_cases e:p.1=q.1
  .rw[beq_iff_eq.mpr e];exact congrArg aa (u q.1 p.1 q.2 p.2 (.head _) h e.symm)
  .rw[beq_eq_false_iff_ne.mpr e];rcases aM.mp h with rfl|h
   .exact absurd rfl e
   .exact rW (λx y c c' a b=>u x y c c' (.tail _ a) (.tail _ b)) h
theorem uX:∀(names:List (Str×fZ)) (n:aJ) (acc:List (Str×aJ)),(names.map (·.1)).Nodup->(acc.map (·.1)).Nodup->(∀x∈names.map (·.1),x∉acc.map (·.1))->((sV n names acc).map (·.1)).Nodup
 |[]=>λU U U h U=>h
 |(y,k)::r=>λn acc h1 h2 h3=>by
  rw[eM,dH]at h1;unfold sV
  split
  .refine uX r _ _ h1.2 ?_ λx hx=>?_
   .rw[eM,dH];exact⟨h3 y (.head _),h2⟩
   .rw[eM,aM,not_or];exact⟨λq=>h1.1 (q▸hx),h3 x (.tail _ hx)⟩
  .exact uX r _ _ h1.2 h2 λx hx=>h3 x (.tail _ hx)
theorem Cg:∀ {l:List (Str×aJ)},(l.map (·.1)).Nodup->∀x y c c',(x,c)∈l->(y,c')∈l->x=y->c=c'
 |[]=>λU U U U U h U U=>by cases h
 |p::l=>λnd x y c c' h k e=>by
  rw[eM,dH]at nd;subst e;rcases aM.mp h with h|h<;>rcases aM.mp k with k|k
  .rw[<- k]at h;exact(Ar h).2
  .exact absurd (bX.mpr ⟨_,k,by rw[<- h]⟩) nd.1
  .exact absurd (bX.mpr ⟨_,h,by rw[<- k]⟩) nd.1
  .exact Cg nd.2 x x c c' h k rfl
noncomputable abbrev sR (Z:ng)(A:mR)(l:List Env)(env:Env)(vt:List Str)(X:List aJ)(Φ:Nat->List V->bp->R V):Cx:={Z:=Z,A:=A.deeper env,l:=env::l,env:=env,vt:=vt,vs:=[],X:=env.locals::env.cells.map (·.2)++X,Φ:=Φ}
section
variable {a:aJ}
theorem Hw (K:FnAt Z a fn vt fd body){Φ:Nat->List V->bp->R V}{X:List aJ}{s:av}(R:Rel Z ρ X σ s.heap)(fo:da X s.heap l)(r:bt ρ X s.heap vals ws)(hv:vals.length=fn.np)
  (he:env=newEnv fd.scope s.heap.objs.size fd.globals (sV (s.heap.objs.size+1) fd.scope.names []) (fd.qualname++".<locals>.") (aa a) fd.code ae fd.builtins)
  (C:InCallC s env.locals (bindL env.kindOf ((vt.take fn.np).zip ws) λU=>ae) env.cells (bindC env.kindOf ((vt.take fn.np).zip ws) λU=>ae) ay) :
  Ext s.heap ay.heap/\(∀b∈env.locals::env.cells.map (·.2),s.heap.objs.size<=b)/\St ((sR Z A l env vt X Φ).wv (vals.map aa++bF (fn.nv-fn.np) du)) ρ σ ay.heap/\bW (sR Z A l env vt X Φ):=by
 have hL:env.locals=s.heap.objs.size:=by rw[he];rfl
 have hc:env.cells=sV (s.heap.objs.size+1) fd.scope.names []:=by rw[he];rfl
 have hsc:env.scope=fd.scope:=by rw[he];rfl
 have uP:env.frame=aa env.locals:=by rw[he];rfl
 have wW:=C.toInCall.ns;have ltL:=wW.lt;have x:Ext s.heap ay.heap:=⟨by rw[<- hL];exact dj ltL,C.toInCall.keep⟩;have mem:∀ {b},b∈env.cells.map (·.2)->∃n,(n,b)∈env.cells:=λ{b} hb=>by(refine dB (bX.mp hb) λp hp z1=>?_;subst z1);exact⟨p.1,hp⟩
 have uniq:∀x y c c',(x,c)∈env.cells->(y,c')∈env.cells->x=y->c=c':=by rw[hc];exact Cg (uX _ _ _ K.keys List.nodup_nil λU U q=>by cases q)
 have cl:∀p∈env.cells,env.cells.lookup p.1=aa p.2:=λp hp=>rW uniq hp;have ge:∀b∈env.locals::env.cells.map (·.2),s.heap.objs.size<=b/\b<ay.heap.objs.size:=λb hb=>by
  rcases aM.mp hb with rfl|hb
  .exact⟨fR hL.symm,ltL⟩
  .obtain⟨n,hn⟩:=mem hb;exact⟨dj (hL▸C.above n b hn),(C.cell n b (cl _ hn)).lt⟩
 have bP:Rel Z ρ (env.locals::env.cells.map (·.2)++X) σ ay.heap:=R.own x λb hb=>(bg.mp hb).elim (λq=>.inr (ge b q)) .inl;have rs:bt ρ (env.locals::env.cells.map (·.2)++X) ay.heap vals ws:=bt.plus r x λb hb=>(ge b hb).1;have nodup:∀(i j:Nat) x,vt[i]?=aa x->vt[j]?=aa x->i=j:=λi j x h1 h2=>by have hi:=(aA.mp h1).1;have hj:=(aA.mp h2).1;exact(List.getElem_inj K.nodup (h₀:=hi) (h₁:=hj)).mp ((aA.mp h1).2.trans (aA.mp h2).2.symm)
 have ndt:(vt.take fn.np).Nodup:=List.Nodup.sublist (List.take_sublist _ _) K.nodup;have val:∀ {i:Nat} {v:V},(vals.map aa++bF (fn.nv-fn.np) (du:Option V))[i]?=aa (aa v)->i<fn.np/\vals[i]?=aa v:=λ{i v} h=>by
  by_cases q:i<vals.length
  .rw[aZ (by simpa using q),cy]at h;rw[bA q]at h ⊢;exact⟨hv▸q,by simpa using h⟩
  .rw[cB (by simpa using q)]at h;rw[List.getElem?_replicate]at h
   split at h<;>cases h
 have nm:∀ {i:Nat} {x:Str},i<fn.np->vt[i]?=aa x->(vt.take fn.np)[i]?=aa x:=λ{i x} h e=>by rw[z8 h];exact e
 refine⟨x,λb hb=>(ge b hb).1,⟨bP,?_,?_⟩,⟨nodup,rfl,rfl,uP,⟨l,rfl⟩,cl⟩⟩
 .exact{
   kind:=by rw[show(sR Z A l env vt X Φ).env=env from rfl,hsc];exact K.kind
   globals:=by show env.globals=_;rw[he];exact K.glo
   builtins:=by show env.builtins=_;rw[he];exact K.blt
   own:=.head _
   ns:=⟨_,wW,λi x v e1 e2 U e4=>by obtain⟨hi,ev⟩:=val e2;refine dB (rs.get ev) λw hw rv=>?_;exact⟨w,(ot _ ws _ x ndt e4).1 i w (nm hi e1) hw,rv⟩,λi x v _ (e2:([]:List V)[i]?=aa v)=>by simp at e2⟩
   cell:=λi x v e1 e2 e3=>by obtain⟨hi,ev⟩:=val e2;refine dB (rs.get ev) λw hw rv=>?_;obtain⟨c,GW⟩:=kJ fd.scope.names (s.heap.objs.size+1) [] x (.inl (by rw[<- hsc];exact e3));rw[<- hc]at GW;exact⟨c,w,GW,(ou _ ws _ x ndt e3).1 i w (nm hi e1) hw▸C.cell x c GW,rv⟩
   cells:=λx c e=>⟨bS _ (.tail _ (lookup_mem e)),CO (C.above x c (pT e)),_,C.cell x c e⟩
   has:=λx e=>by obtain⟨c,GW⟩:=kJ fd.scope.names (s.heap.objs.size+1) [] x (.inl (by rw[<- hsc];exact e));exact⟨c,by rw[<- hc]at GW;exact GW⟩
   inj:=λx y c e1 e2=>name_of_addr C.apart (pT e1) (pT e2)}
 .intro e Qu;rcases aM.mp Qu with rfl|Qu
  ·(refine D9 wW λo es n ho hd U=>?_;try clear wW);exact⟨by rw[hsc,K.kind];decide,_,o,es,n,uP,.head _,ho,hd⟩
  .exact((fo.grow R (F:=[]) x.grow λU U U U q=>nomatch q).less λb hb=>aU _ hb) e Qu
end
section
variable {a:aJ}{W:Nat}
noncomputable def YL (r:Fl×Vs)(σ:bp):R V:=match r with
 |(.rt v,_)=>.ok v σ
 |(.nx,_)=>.ok .none σ
theorem Hx (K:FnAt Z a fn vt fd body){Φ:Nat->List V->bp->R V}{d:Nat}(hA:Ii A l (d+1)){X:List aJ}
  (nH:∀env X',env.scope=fd.scope->env.frame=aa env.locals->bW (sR Z A l env vt X' Φ)->DW (sR Z A l env vt X' Φ) W fn.body body)
 {s:av}{Az:List ax}(R:Rel Z ρ X σ s.heap)(fo:da X s.heap l)(hb:BG s fd ⟨ws,[]⟩ ((vt.take fn.np).zip Az))(r:bt ρ X s.heap vals Az)(hv:vals.length=fn.np) :
  Run Z [] X ρ s (TV X) ((l5 G Φ W fn.body (vals.map aa++bF (fn.nv-fn.np) du) σ).bind YL) (λQ E=>gX (aC Z.prog Z.w) A (.call (.ref a) ⟨ws,[]⟩) (back Q E) s):=by
 refine dB K.obj λo ho hd=>?_;have hcd:s.heap.CodeRec fd.code fd.qualname:=K.code.keeps R.keep;have o9:s.heap.NoLimit:=K.lim.keeps R.keep;have red:∀ {RR:sD->av->Prop},(∀env ay,env.scope=fd.scope->env.frame=aa env.locals->Ext s.heap ay.heap->(∃h t,ay={s with heap:=h,toks:=t})->(∀b∈env.locals::env.cells.map (·.2),s.heap.objs.size<=b) ->
   St ((sR Z A l env vt X Φ).wv (vals.map aa++bF (fn.nv-fn.np) du)) ρ σ ay.heap->bW (sR Z A l env vt X Φ) ->
   aE (aC Z.prog Z.w) (A.deeper env) (execs body env) (λf s'=>RR (.ok (.ret (match f with|.ret v=>v|_=>.none))) s')
    (λe s'=>aE (aC Z.prog Z.w) (A.deeper env) (leaving env e) (λU lK=>RR (.error e) lK) (λe' lK=>RR (.error e') lK) s') ay) ->
   gX (aC Z.prog Z.w) A (.call (.ref a) ⟨ws,[]⟩) RR s:=λ{RR} k=>by
  refine codeAny_call_function (by have:=hA.dp;exact qq1 this) (R.keep _ _ ho) hd K.co K.gen K.body hcd (hb _ _ _ _ ?_);rw[K.clo];refine wpAny_newFunctionEnv_cells K.kind (λx hx=>?_) λenv he ay C=>?_
  .have:x.1∈vt.take fn.np:=(vY (a:=x.1) (b:=x.2) hx).1;rcases K.par x.1 this with h|h
   .exact .inl h
   .obtain⟨c,hc⟩:=kJ fd.scope.names (s.heap.objs.size+1) [] x.1 (.inl h);exact .inr ⟨h,by rw[hc];rfl⟩
  .refine o03 (Hw (A:=A) (l:=l) K (Φ:=Φ) R fo r hv he C) λx ge t N=>?_;exact⟨o9.keeps C.toInCall.keep,codeAny_func (k env ay (by rw[he];rfl) (by rw[he];rfl) x C.toInCall.same ge t N)⟩
 induction hr:l5 G Φ W fn.body (vals.map aa++bF (fn.nv-fn.np) du) σ with
 |bad=>trivial
 |ok p cD =>
  obtain⟨fl,k4⟩:=p;have key:∀(v:V),YL (fl,k4) cD=.ok v cD->(∀X ρ h f,TF X ρ h fl f->bz ρ X h v (match f with|.ret v=>v|_=>.none))->Run Z [] X ρ s (TV X) (.ok v cD) (λQ E=>gX (aC Z.prog Z.w) A (.call (.ref a) ⟨ws,[]⟩) (back Q E) s):=λv U hv' Q E q=>red λenv ay h1 h2 x same ge t N=>by
   have:=nH env X h1 h2 N _ ρ σ ay t;rw[show l5 G (sR Z A l env vt X Φ).Φ W fn.body (vals.map aa++bF (fn.nv-fn.np) du) σ=_ from hr]at this;refine this _ _ λf bJ s' g R' ts=>?_;have g':Go [] ρ s bJ s':=by(refine H0 same λh tk z1=>?_;try clear same;subst z1);exact Go.qy (F:=[]) (own:=iF (sR Z A l env vt X Φ)) (by rw[aP];exact(Go.ext x).trans g) ge
   exact q _ bJ s' g' (R'.less λb hb=>aU _ hb) (bz.less (hv' _ bJ s'.heap f ts.2.2) λb hb=>aU _ hb)
  induction fl with
  |nx=>exact key .none rfl λX ρ h f t=>by induction f using PySem.Flow.casesOn<;>first|exact tY|exact t.elim
  |rt v=>exact key v rfl λX ρ h f t=>by induction f using PySem.Flow.casesOn<;>first|exact t|exact t.elim
 |exc cD =>
  refine λQ E q=>red λenv ay h1 h2 x same ge t N=>?_;have:=nH env X h1 h2 N _ ρ σ ay t;rw[show l5 G (sR Z A l env vt X Φ).Φ W fn.body (vals.map aa++bF (fn.nv-fn.np) du) σ=_ from hr]at this;refine this _ _ λe bJ s' g R' y Qw=>?_;have g':Go [] ρ s bJ s':=by(refine H0 same λh tk z1=>?_;try clear same;subst z1);exact Go.qy (F:=[]) (own:=iF (sR Z A l env vt X Φ)) (by rw[aP];exact(Go.ext x).trans g) ge
  unfold leaving;refine aq (om (jT hA.fr) h2 Qw (da.fun R' Qw) y λh' c1 y1=>?_);refine jK (Z:=Z) (X:=env.locals::env.cells.map (·.2)++X) (h₀:=ay.heap) (s:={s' with heap:=h'}) y1 λIb c2 y2=>?_;have cc:=c1.trans c2;have cc':yj s.heap (env.locals::env.cells.map (·.2)++X) s'.heap Ib:=⟨cc.size,λb o e k=>cc.ev b o e (k.imp (λz=>bK z x.1) id)⟩;have gE:Go [] ρ s bJ {s' with heap:=Ib}:=by refine H0 g'.same λh tk e=>?_;refine⟨⟨g'.grow.pre,aQ g'.grow.size cc.size,λb o e k n=>?_⟩,Ib,tk,by rw[e]⟩;refine dB (g'.grow.ev b o e k n) λs1 e1 k1=>?_;refine dB (cc'.ev b _ e1 (.inl (bu e))) λs2 e2 k2=>?_;exact⟨s2,e2,λnd=>(k2 (.inl nd)).trans (k1 nd)⟩
  exact q _ bJ {s' with heap:=Ib} gE ((R'.chg (aQ R.bsize x.1) cc).less λb hb=>aU _ hb) (y2.fly.mH x.1)
end
theorem Bv {W:Nat}
  (H:∀(f:Nat) (a:aJ),Z.fa[f]?=aa a->∃fn vt fd body,F[f]?=aa fn/\FnAt Z a fn vt fd body /\
   ∀(c:Cx),c.Z=Z->Ok c mg mb->c.A.depth+2<e9->bW c->c.env.scope=fd.scope->c.vt=vt->c.ct=[]->c.cs=[]->DW c W fn.body body)
  (Ef:∀(c:Cx),c.Z=Z->c.A.handled=ae->c.A.frames=aa c.l->c.A.units+300<kL->(∀X,n8 c.Z c.Φ c.A c.l X)->(∀X ws,n8 c.Z c.Φ (c.A.under (.builtin "type.__call__" ⟨.ref c.Z.C::ws,[]⟩)) c.l X)->Ok c mg mb) :
  ∀d A l X,Ii A l d->n8 Z (kK G F W d) A l X:=by
 intro d;induction d with
 |zero=>intro A l X _ f a hf ρ s σ xs ws R fo r;trivial
 |succ d ih =>
  intro A l X hA f a hf ρ s σ xs ws R fo r;refine Oq (H f a hf) λfn vt fd body hfn K hb=>?_;rw[uY,hfn];dsimp only;refine Run.if λZO=>?_
  .refine dB (K.bind xs ws ρ X s σ R r ZO.1 ZO.2) λAz GX r'=>?_;have hlen:(xs++fn.df.drop (xs.length+fn.df.length-fn.np)).length=fn.np:=by rw[ao,jS];exact qq2 ZO
   have:=Hx (W:=W) (Φ:=kK G F W d) K hA (λenv X' h1 h2 N=>hb (sR Z A l env vt X' (kK G F W d)) rfl
    (Ef _ rfl hA.hh (jT hA.fr) (by have:=hA.un;show A.units+3+300<kL;exact qq3 this) (λX=>ih _ _ X (hA.deeper env)) λX ws=>ih _ _ X (hA.maker env Z.C ws)) (by have:=hA.dp;show A.depth+1+2<e9;exact qq4 this) N h1 rfl rfl rfl) R fo GX r' hlen
   exact this
noncomputable abbrev qw:List ax:=[.type "Exception",.type "BaseException",.type "object"]
noncomputable abbrev vU (C:aJ)(t:aJ)(d:Option aJ)(a:ax):Obj:={cls:=.ref C,dict:=d,data:=.fields #[a,.none,.none,.none,.bool ag,.none]}
section
variable {w:c0}{E:ax->av->Prop}{t:Nat}
variable {q:Str}
theorem HL {K:qW}{rest:List ax}{Q:ax->av->Prop}(X:K.In h)
  (hC:h.get? C=aa (fK nm q C N bs qw acE sn sub ab col dd k0 k1 k2 k3 k5 "Exception.__new__"))(hn:h.Ns N mN)(hni:mN "__init__"=aa (.ref fB))(hf:typeIn K (.ref fB)=aa (.type "function"))
  (Zs:rest.length<=fz)
  (hq:gX (aC prog w) (A.under (.builtin "type.__call__" ⟨.ref C::rest,[]⟩)) (.call (.ref fB) ⟨.ref (h.objs.size+1)::rest,[]⟩)
   (λr s'=>match r with|.ok (.ret v)=>v=.none/\Q (.ref (h.objs.size+1)) s'|.ok _=>False|.error e=>E e s')
   ⟨(h.push {cls:=.type "tuple",data:=.seq rest.toArray}).push {cls:=.ref C,data:=.fields #[.ref h.objs.size,.none,.none,.none,.bool ag,.none]},g,d,t,os⟩) :
  aE (aC prog w) A (call (.ref C) rest) Q E ⟨h,g,d,t,os⟩:=by
 have F:=iz;have f1:=tc_lookup;have f2:=tc_bind (.ref C);have hT:(⟨h,g,d,t,os⟩:av).TypeIs (.ref C) "type":=⟨_,hC,rfl⟩;refine pM (codeAny_of_tree ?_);refine(?_:aE _ _ (callAny (.ref C) _) _ _ _)
 repeat (any_goals (first|assumption|with_reducible refine fe hC ?_|wp_step))
 refine⟨rfl,?_⟩;refine codeAny_call_builtin_at (Code.quiet_builtin _ (by decide +kernel)) entry_typeCall (wpAny_check_type_call_sub hC ?_)
 repeat (first|with_reducible refine fe hC ?_|with_reducible refine wpAny_madeBy_exc hC ?_|wp_step)
 refine codeAny_call_builtin_code (Code.quiet_builtin _ F.quiet) (wpAny_check_new_sub F hC ?_);refine codeAny_exc_new_sub F hC ?_ Zs;refine(?_:aE _ _ _ _ _ _);have G1:=br {cls:=.ref C,data:=.fields #[.ref h.objs.size,.none,.none,.none,.bool ag,.none]}
  (br {cls:=.type "tuple",data:=.seq rest.toArray} hC)
 have Zy:((h.push {cls:=.type "tuple",data:=.seq rest.toArray}).push {cls:=.ref C,data:=.fields #[.ref h.objs.size,.none,.none,.none,.bool ag,.none]}).Ns N mN :=
  let ⟨o,es,ep,e,r⟩:=hn;⟨o,es,ep,br _ (br _ e),r⟩
 have GV:((h.push {cls:=.type "tuple",data:=.seq rest.toArray}).push
   {cls:=.ref C,data:=.fields #[.ref h.objs.size,.none,.none,.none,.bool ag,.none]}).get? (h.objs.size+1)=aa
   {cls:=.ref C,data:=.fields #[.ref h.objs.size,.none,.none,.none,.bool ag,.none]}:=by heap_get
 have hcC:(dP C::qw).contains (.ref C)=af:=by simp
 have ac2:K.In ((h.push {cls:=.type "tuple",data:=.seq rest.toArray}).push {cls:=.ref C,data:=.fields #[.ref h.objs.size,.none,.none,.none,.bool ag,.none]}):=X.keeps λb o e=>br _ (br _ e);unfold isInstance
 repeat (first|with_reducible refine fe GV ?_|(with_reducible refine s8 G1 ?_;rw[hcC])|wp_step)
 refine s8 G1 ?_;rw[hcC]
 repeat (first|with_reducible refine fe GV ?_|wp_step)
 refine(?_:aE _ _ (iT (.ref C) _) _ _ _);refine rL G1 Zy F.mroIs F.init.lookup ?_;rw[hni];refine bC (aq ((bind_fn ac2 _ hf).here ?_));refine aq (pM (codeAny_mono hq λr s' z=>?_));rcases r with e|(v|_|_|_)<;>first|exact z|exact z.elim|skip
 obtain⟨rfl,z⟩:=z
 wp_walk
 exact z
end
theorem uS:findCls [] (.type "Exception") (.type "type") "__init__"=aa (.val (.builtin "Exception.__init__")):=by kernel_rfl
theorem Hh:typeOf (.type "Exception")=pure (.type "type"):=by first|rfl|kernel_rfl
theorem Hj:Manifest.isStub "Exception"=ag:=by decide +kernel
theorem Hi:iT (.type "Exception") "text"=pure ae:=by rw[typeLookup_type,builtinLookup_eq_fast];kernel_rfl
theorem O7:iT (.type "Exception") "pc"=pure ae:=by rw[typeLookup_type,builtinLookup_eq_fast];kernel_rfl
theorem Ou (h:bV):Frag.In [] h:=λa o z=>by exact fv z
theorem sS:handedIn (.builtin "Exception.__init__")=af:=rfl
theorem Bp {w:c0}{E:ax->av->Prop}{s:av}{L:aJ}{m:Str->Option ax}{pl:Sem Bool}{Q:ax×List ax->av->Prop}(hn:s.heap.Ns L m)(h:Q (.builtin "Exception.__init__",[]) {s with toks:=s.toks+1}) :
  aE (aC prog w) A (getMethod (.type "Exception") (st "__init__") pl) Q E s :=
 method_type (K:=[]) (h₀:={objs:=#[]}) ⟨hn,λb o z=>absurd (bu z) (oJ _),bL _⟩ (Ou _) Hh Hj uS sS h
inductive P2 (C N:aJ)(o:Option Obj):Prop where
 |mk (nm q:Str) (bs:List ax) (sn:List Str) (sub:List ax) (ab:Bool) (col:Option Bool) (dd:Option aJ) (k0 k1 k2 k3 k5:Option ax) (e:o=aa (fK nm q C N bs qw af sn sub ab col dd k0 k1 k2 k3 k5 "Exception.__new__"))
inductive qQ (b:FuncBody):Prop where
 |mk (p1 p2 p3 p4 p5 p6 q1 q2 q3 q4 r1 r2 r3 r4:Pos) (h:(p2.endLine==p5.line)=af) (e:b=.stmts
  [.Expr (.Call (.Attribute (.Name (st "Exception") p1) (st "__init__") p2) [.Name (st "self") p3,.Name (st "text") p4] [] p5) p6,
   .Assign [.Attribute (.Name (st "self") q1) (st "text") q2] (.Name (st "text") q3) q4,
   .Assign [.Attribute (.Name (st "self") r1) (st "pc") r2] (.Name (st "pc") r3) r4])
structure vq (Z:ng)(mg mb:Str->Option ax)(fB N:aJ)(mN:Str->Option ax)(fd:ie):Prop where
 cls:P2 Z.CB N (Z.base.get? Z.CB)
 ns:Z.base.Ns N mN
 n1:mN "__init__"=aa (.ref fB)
 n2:mN "__setattr__"=ae
 n3:mN "text"=ae
 n4:mN "pc"=ae
 ty:typeIn Z.K (.ref fB)=aa (.type "function")
 Qi:Z.K.In Z.base
 obj:∃o,Z.base.get? fB=aa o/\o.data=.func fd
 co:fd.scope.isCoroutine=ag
 gen:fd.scope.isGenerator=ag
 kind:fd.scope.kind=.function
 names:fd.scope.names=[(st "self",.local),(st "text",.local),(st "pc",.local),(st "Exception",.globalImplicit)]
 code:Z.base.CodeRec fd.code fd.qualname
 lim:Z.base.NoLimit
 par:nB fd.params=af/\fd.params.args.map (·.arg)=[st "self",st "text",st "pc"]/\fd.defaults=.none
 glo:fd.globals=cF
 blt:fd.builtins=gY
 g:Z.base.Ns cF mg
 b:Z.base.Ns gY mb
 ex:mg (st "Exception")=ae/\mb (st "Exception")=aa (.type "Exception")
 body:qQ fd.body
section
theorem Bq {w:c0}{E:ax->av->Prop}{t:Nat}{q:Str}{e:aJ}
 {v a:ax}{o:Obj}{tk:Tok}{Q:Fin->av->Prop}(hC:h.get? C=aa (fK nm q C N bs qw af sn sub ab col dd k0 k1 k2 k3 k5 "Exception.__new__"))(hn:h.Ns N mN)(hna:mN name=ae)
  (hB:iT (.type "Exception") name=pure ae)(hx:h.get? e=aa o)(hO:o=vU C ta ae a)(hc:o.cls=.ref C)(hdn:o.dict=ae)(MW:∀c,o.data≠.cls c)
  (hq:∀h' vO,(∀b o,b≠e->h.get? b=aa o->h'.get? b=aa o)->h.objs.size<=h'.objs.size->h'.get? e=aa (vU C ta (aa h.objs.size) a)->h'.Ns1 h.objs.size (λy=>if y=name then aa v else ae)->Q (.done (.ret .none)) ⟨h',g,d,vO,os⟩) :
  aE (aC prog w) A (Builtin.«object.__setattr__» ⟨[.ref e,.str name tk,v],[]⟩) Q E ⟨h,g,d,t,os⟩:=by
 have SF:=l9;have Zu:=SF.passes (.ref e);unfold Builtin.«object.__setattr__»
 repeat (first|rw[refuse_eq]|(rw[refuseLoop_ref,Zu])|(with_reducible refine fe hx ?_;rw[hc])|with_reducible refine wpAny_mroOf_exc hC ?_|(with_reducible refine rL hC hn SF.mro hB ?_;rw[hna])|wp_step)
 rw[hdn,if_neg (by simp[typeHasDict])];have hd:o.data=_:=congrArg Obj.data hO;rw[hd]
 .have MV:(h.push {cls:=.type "dict",data:=.dict #[]}).get? e=aa o:=br _ hx;have hxs:e≠h.objs.size:=dh (bu hx);refine aq (wpAny_alloc' ?_);refine aq (wpAny_update' MV ?_);refine aW ?_;have hgd:((h.push {cls:=.type "dict",data:=.dict #[]}).update e λo=>{cls:=o.cls,dict:=aa h.objs.size,data:=o.data,slots:=o.slots}).get? h.objs.size
    = aa {cls:=.type "dict",data:=.dict #[]} :=
   (kQ _ _ _ _ hxs.symm).trans (Heap.get?_push_at rfl rfl)
  have x5:((h.push {cls:=.type "dict",data:=.dict #[]}).update e λo=>{cls:=o.cls,dict:=aa h.objs.size,data:=o.data,slots:=o.slots}).Ns h.objs.size (λU=>ae) :=
   ⟨_,#[],_,hgd,rfl,λe he=>absurd he (by simp),λU=>rfl⟩
  delta Builtin.ObjectAttr.storeInDict Builtin.ObjectAttr.newKeyGuard;refine aq (aW (aq (wpAny_nsSet1 (Heap.Ns1.of_empty x5) λh' hn' hs=>?_)));refine D9 (hn'.count (Within.cons name v Within.nil)) λoD esD epD Zw hdD hcD=>?_;refine aq (wpAny_lookBehind Zw (by rw[hdD];exact pastItsLine_dict (aQ hcD (by rw[az,aD,jG];exact abA))) ?_)
  wp_walk
  refine hq h' _ (λb ob hbx hb=>(hs.2 b (dh (bu hb))).trans ((kQ _ _ _ _ hbx).trans (br _ hb))) ?_ ?_ hn'
  .have:=hs.1;rw[jA,iA]at this;exact FP this
  .refine(hs.2 e hxs).trans ((dQ _ MV ?_).trans ?_)
   .rw[hO];rfl
   .rw[hO]
theorem Bn {w:c0}{E:ax->av->Prop}{t:Nat}{q:Str}{e:aJ}
 {v:ax}{Q:Unit->av->Prop}{o:Obj}{P:bV->Prop}(SF:StoreFacts "Exception" qw "object.__setattr__" "object")(hC:h.get? C=aa (fK nm q C N bs qw af sn sub ab col dd k0 k1 k2 k3 k5 "Exception.__new__"))(hn:h.Ns N mN)(wW:mN "__setattr__"=ae)
  (hx:h.get? e=aa o)(hc:o.cls=.ref C)(H:∀(R:sD->av->Prop) (A':mR) t' tk,(∀h' vO,P h'->R (.ok (.ret .none)) ⟨h',g,d,vO,os⟩)->gX (aC prog w) A' (.call (.builtin "object.__setattr__") ⟨[.ref e,.str name tk,v],[]⟩) R ⟨h,g,d,t',os⟩)
  (hq:∀h' vO,P h'->Q () ⟨h',g,d,vO,os⟩) :
  aE (aC prog w) A (wm (.ref e) name v) Q E ⟨h,g,d,t,os⟩:=by
 have f3:=SF.slot.bind (.ref e);unfold wm callSpecial? specialOf
 repeat (any_goals (first|assumption|(with_reducible refine fe hx ?_;rw[hc])|(with_reducible refine rL hC hn SF.mro SF.slot.lookup ?_;rw[wW])|wp_step))
 refine H _ _ _ _ λh' vO p=>?_
 repeat (any_goals (first|assumption|wp_step))
 exact hq h' vO p
theorem Hm {w:c0}{t:Nat}{q:Str}{e:aJ}{bm:List ax}{B sa owner newId:String}
  {MI v:ax}{o:Obj}{R:sD->av->Prop}{P:bV->Prop}(SF:StoreFacts B bm sa owner)(hC:h.get? C=aa (fK nm q C N bs bm af sn sub ab col dd k0 k1 k2 k3 k5 newId))(hx:h.get? e=aa o)(hc:o.cls=.ref C)
  (H:∀(A':mR) (Q:Fin->av->Prop) (E:ax->av->Prop),(∀h' vO,P h'->Q (.done (.ret .none)) ⟨h',g,d,vO,os⟩)->aE (aC prog w) A' (Builtin.«object.__setattr__» ⟨[.ref e,MI,v],[]⟩) Q E ⟨h,g,d,t,os⟩)
  (hq:∀h' vO,P h'->R (.ok (.ret .none)) ⟨h',g,d,vO,os⟩):gX (aC prog w) A (.call (.builtin sa) ⟨[.ref e,MI,v],[]⟩) R ⟨h,g,d,t,os⟩ :=
 codeAny_call_builtin SF.slot.plain SF.entry (wpAny_check_sa SF hC hx hc (H _ _ _ λh' vO p=>hq h' vO p))
theorem Bo {w:c0}{E:ax->av->Prop}{t:Nat}{q:Str}{e:aJ}
 {v a:ax}{Q:Unit->av->Prop}(hC:h.get? C=aa (fK nm q C N bs qw af sn sub ab col dd k0 k1 k2 k3 k5 "Exception.__new__"))(hn:h.Ns N mN)(wW:mN "__setattr__"=ae)(hna:mN name=ae)
  (hB:iT (.type "Exception") name=pure ae)(hx:h.get? e=aa (vU C ta ae a))
  (hq:∀h' vO,(∀b o,b≠e->h.get? b=aa o->h'.get? b=aa o)->h.objs.size<=h'.objs.size->h'.get? e=aa (vU C ta (aa h.objs.size) a)->h'.Ns1 h.objs.size (λy=>if y=name then aa v else ae)->Q () ⟨h',g,d,vO,os⟩) :
  aE (aC prog w) A (wm (.ref e) name v) Q E ⟨h,g,d,t,os⟩:=by
 have SF:=l9;have key:∀(o:Obj),o=vU C ta ae a->h.get? e=aa o->o.cls=.ref C->o.dict=ae->(∀c,o.data≠.cls c)->aE (aC prog w) A (wm (.ref e) name v) Q E ⟨h,g,d,t,os⟩:=by intro o hO hx hc hdn MW;refine Bn (P:=λh'=>(∀b o,b≠e->h.get? b=aa o->h'.get? b=aa o)/\h.objs.size<=h'.objs.size/\h'.get? e=aa (vU C ta (aa h.objs.size) a)/\h'.Ns1 h.objs.size (λy=>if y=name then aa v else ae)) SF hC hn wW hx hc (λR A' t' tk r=>?_) λh' vO p=>hq h' vO p.1 p.2.1 p.2.2.1 p.2.2.2;exact Hm SF hC hx hc (λA' Q E q=>Bq hC hn hna hB hx hO hc hdn MW λh' vO x1 x2 x3 x4=>q h' vO ⟨x1,x2,x3,x4⟩) r
 exact key _ rfl hx rfl rfl (by intro c q;exact bk q)
theorem HM (B:vq Z mg mb fB N mN fd)(hr:A.depth<e9){s:av}(keep:∀b o,Z.base.get? b=aa o->s.heap.get? b=aa o){e t:aJ}(he:s.heap.get? e=aa (vU Z.CB t ae (.ref t)))(OP:Z.base.objs.size<=e){RR:sD->av->Prop}
  (q:∀h' tk d a,(∀b o,b≠e->s.heap.get? b=aa o->h'.get? b=aa o)->s.heap.objs.size<=h'.objs.size->h'.get? e=aa (vU Z.CB t d a)->RR (.ok (.ret .none)) {s with heap:=h',toks:=tk}) :
  gX (aC Z.prog Z.w) A (.call (.ref fB) ⟨[.ref e,w1,w2],[]⟩) RR s:=by
 refine dB B.obj λo ho hd=>?_;obtain⟨p1,p2,p3,p4,p5,p6,q1,q2,q3,q4,r1,r2,r3,r4,Cw,nH⟩:=B.body;have hb:bindArgs fd ⟨[.ref e,w1,w2],[]⟩=pure [(st "self",.ref e),(st "text",w1),(st "pc",w2)]:=by rw[uZ B.par.1 B.par.2.2 (by have:=congrArg List.length B.par.2.1;simpa using this),B.par.2.1];rfl
 have acz:∀x∈[(st "self",dP e),(st "text",w1),(st "pc",w2)],fd.scope.names.lookup x.1=aa .local:=by rw[B.names];intro x hx;simp only[aM,ba,or_false]at hx;rcases hx with rfl|rfl|rfl<;>(dsimp only;decide)
 refine codeAny_call_def hr (keep _ _ ho) hd (B.lim.keeps keep) (B.code.keeps keep) nH (BindsTo.of_eq hb) (by rw[B.names];decide) acz (λh₀ wW hk=>?_) B.co B.gen B.kind;generalize hL:s.heap.objs.size=L at wW ⊢;obtain⟨nm,qn,bs,sn,sub,ab,col,dd,k0,k1,k2,k3,k5,hC⟩:=B.cls;have elt:=bu he;have neL:e≠L:=λz=>by rw[z,<- hL]at elt;exact gV _ elt
 have kd:(fk fd L fB).scope.kind=.function:=B.kind;have ko:∀x,(fk fd L fB).kindOf x=fd.scope.names.lookup x:=λx=>rfl;have kE:(fk fd L fB).kindOf (st "Exception")=aa .globalImplicit:=by rw[ko,B.names];decide
 have kS:(fk fd L fB).kindOf (st "self")=aa .local:=by rw[ko,B.names];decide
 have kT:(fk fd L fB).kindOf (st "text")=aa .local:=by rw[ko,B.names];decide
 have kP:(fk fd L fB).kindOf (st "pc")=aa .local:=by rw[ko,B.names];decide
 have tC:∀b o,Z.base.get? b=aa o->h₀.get? b=aa o:=λb o z=>hk b o (keep b o z);have MZ:=hk _ _ he;have ZV:=tC _ _ hC;have nC:Z.CB≠e:=λz=>absurd (bu hC) (bO.mpr (z▸OP));have v1:(jh (st "self") [(st "self",dP e),(st "text",w1),(st "pc",w2)].reverse)=aa (.ref e):=by simp only[hG,vm,dU,eI,cf];rfl
 have v2:(jh (st "text") [(st "self",dP e),(st "text",w1),(st "pc",w2)].reverse)=aa w1:=by simp only[hG,vm,dU,eI,cf];rfl
 have v3:(jh (st "pc") [(st "self",dP e),(st "text",w1),(st "pc",w2)].reverse)=aa w2:=by simp only[hG,vm,dU,eI,cf];rfl
 have ldn:∀ {x:Str} {v:ax} {pos:Pos} {ay:av} {A':mR} {Q:ax->av->Prop} {E:ax->av->Prop},ay.heap.Ns L (λx=>jh x [(st "self",dP e),(st "text",w1),(st "pc",w2)].reverse)->(fk fd L fB).kindOf x=aa .local->(jh x [(st "self",dP e),(st "text",w1),(st "pc",w2)].reverse)=aa v->(x==("__debug__" : Str))=ag->Q v ay ->
   aE (aC Z.prog Z.w) A' (eval (.Name x pos) (fk fd L fB)) Q E ay:=λhn hk' hv hdb q=>BL (rM kd hk' hn hv q) hdb
 refine gD ?_;rw[exec_Expr (fk fd L fB) _ p6 (by delta rY;rw[kd];rfl) (kx rfl)];refine aq (bR (aq ?_));refine bo (Q:=λv ay=>∃h1 tk,ay={s with heap:=h1,toks:=tk}/\(∀b o,b≠e->h₀.get? b=aa o->h1.get? b=aa o)/\h₀.objs.size<=h1.objs.size/\∃a,h1.get? e=aa (vU Z.CB t ae a)) ?_ (λv ay hv=>?_) λU U x=>x
 .rw[arm_eval_Call,iy rfl];have gE:∀ {ay:av} {Q:ax->av->Prop} {E:ax->av->Prop},ay.heap=h₀->Q (.type "Exception") ay->aE (aC Z.prog Z.w) (A.deeper (fk fd L fB)) (eval (.Name (st "Exception") p1) (fk fd L fB)) Q E ay:=λhh qq =>
   lq kd kE (yx (by rw[show(fk fd L fB).globals=fd.globals from rfl,B.glo,hh];exact B.g.keeps tC) B.ex.1 (by rw[show(fk fd L fB).builtins=fd.builtins from rfl,B.blt,hh];exact B.b.keeps tC) B.ex.2 qq) (by decide)
  refine aq (gE rfl ?_);refine aq (bR ?_);have ZG:methodCallForm 2 (mL p5 (gG [Av (st "self") p3,Av (st "text") p4] (fk fd L fB))) (backToKw p5 (keywordEach [] (fk fd L fB)))=af:=rfl;have vS:methodCallPos af (.Name (st "Exception") p1) (fk fd L fB) p2 p5=pure p5:=by delta methodCallPos;simp[Cw]
  delta methodCall;rw[show[Av (st "self") p3,Av (st "text") p4].length+([]:List Keyword).length=2 from rfl,ZG];refine aq (bC ?_);refine Bp wW ?_;refine aq (wpAny_of_eq vS ?_);refine m9 rfl (mz (P:=λU U=>True) (xs:=[.v 0,.v 0]) (.cons trivial rfl (.cons trivial rfl .nil)) ?_);refine eQ (ldn wW kS v1 (by decide) (eQ (ldn wW kT v2 (by decide) (hU ?_)) rfl)) rfl;refine pM (codeAny_call_builtin iz.init.plain iz.initEntry (wpAny_check_init_sub iz ZV MZ rfl ?_));unfold Builtin.«BaseException.__init__»
  wp_walk
  have hp:(h₀.push {cls:=xf "tuple",data:=Data.seq #[w1]}).get? e=aa (vU Z.CB t ae (.ref t)):=br _ MZ;refine⟨_,_,rfl,λb o hb z=>(eh _ _ (lE hb)).trans (br _ z),?_,_,dQ _ hp rfl⟩;rw[jA,iA];exact jj _
 .obtain⟨h1,tk,rfl,k1,z1,a1,e1⟩:=hv;refine rF (c:=⟨Z,A.deeper (fk fd L fB),[],fk fd L fB,[],[],[],[],[],λU U U=>.bad⟩) ?_;have at1:∀b o,Z.base.get? b=aa o->h1.get? b=aa o:=λb o z=>k1 b o (λq=>absurd (bu z) (bO.mpr (q▸OP))) (tC b o z);have ns1:h1.Ns L (λx=>jh x [(st "self",dP e),(st "text",w1),(st "pc",w2)].reverse):=let ⟨o,es,ep,ho,r⟩:=wW;⟨o,es,ep,k1 L o (lE neL) ho,r⟩
  refine gD (my (c:=⟨Z,A.deeper (fk fd L fB),[],fk fd L fB,[],[],[],[],[],λU U U=>.bad⟩) rfl (ldn ns1 kT v2 (by decide) ?_));rw[sy];refine aq (bC (ldn ns1 kS v1 (by decide) (aq (bR (aq (bC ?_))))));refine Bo (N:=N) (mN:=mN) (at1 _ _ hC) (B.ns.keeps at1) B.n2 B.n3 Hi e1 λh2 tk2 k2 z2 e2 d2=>kW ?_;have at2:∀b o,Z.base.get? b=aa o->h2.get? b=aa o:=λb o z=>k2 b o (λq=>absurd (bu z) (bO.mpr (q▸OP))) (at1 b o z);have ns2:h2.Ns L (λx=>jh x [(st "self",dP e),(st "text",w1),(st "pc",w2)].reverse):=let ⟨o,es,ep,ho,r⟩:=ns1;⟨o,es,ep,k2 L o (lE neL) ho,r⟩
  refine gD (my (c:=⟨Z,A.deeper (fk fd L fB),[],fk fd L fB,[],[],[],[],[],λU U U=>.bad⟩) rfl (ldn ns2 kP v3 (by decide) ?_));rw[sy];refine aq (bC (ldn ns2 kS v1 (by decide) (aq (bR (aq (bC ?_))))));have acR:e<h1.objs.size:=bu e1;have I2:h2.Inst e Z.CB (λy=>if y=st "text" then aa w1 else ae):=⟨_,e2,rfl,(by intro c q;exact bk q),Or.inr ⟨h1.objs.size,rfl,CO acR,d2⟩⟩;refine gO (store_attr l9 (at2 _ _ hC) (B.ns.keeps at2) B.n2 B.n4 O7 (lE nC) I2 (λh3 tk3 U k3 same z3=>kW (jo ?_)) (ns:=[st "text"]) (hw:=Within.cons (st "text") w1 Within.nil) (hsz:=by decide))
  .refine o14 (same _ e2) λo3 e3 c3 dd3 s3 U=>?_;obtain⟨oc,od,oda,osl⟩:=o3;dsimp only at c3 dd3 s3;subst c3 dd3 s3;refine q h3 tk3 od a1 (λb o hb z=>k3 b o hb (λadj dx z1' z2'=>?_) (k2 b o hb (k1 b o hb (hk b o z)))) ?_ e3
   .rw[e2]at z1';obtain rfl:=aj z1';obtain rfl:=aj z2';exact dh (bu (k1 b o hb (hk b o z)))
   .have z3:h2.objs.size<=h3.objs.size:=z3;have zs:s.heap.objs.size<=h₀.objs.size:=by rw[hL];exact dj wW.lt
    exact aQ zs (aQ z1 (aQ z2 z3))
end
section
variable {E:ax->av->Prop}
variable {q:Str}
theorem AV {s:av}{x:Sem ax}{Q:Flow->av->Prop}(hh:A.handled=ae)
  (h:aE M A x (λv ay=>∃e t d a,v=.ref e/\ay.heap.get? C=aa (fK nm q C N bs qw af sn sub ab col dd k0 k1 k2 k3 k5 "Exception.__new__") /\
   ay.heap.get? e=aa {cls:=.ref C,dict:=d,data:=.fields #[a,.none,.none,.none,.bool ag,.none],slots:=t}/\E (.ref e) ay) E s) :
  aE M A (raiseStmt env (aa x) ae) Q E s:=by
 have hcB:(dP C::qw).contains (.type "BaseException")=af:=by rw[List.contains_cons];rfl
 unfold raiseStmt;refine aq (bo h (λv ay h₁=>?_) λU U x=>x);(refine o43 h₁ λe t d a z1 hC he hE=>?_;try clear h₁;subst z1);obtain⟨hp,g,d,tk,os⟩:=ay
 repeat (first|with_reducible refine fe he ?_|with_reducible refine fe hC ?_|(with_reducible refine s8 hC ?_;rw[hcB])|wp_step)
 exact wpAny_raiseNew_none hh hE
end
theorem Ho {G:List V}{Φ:Nat->List V->bp->R V}{W:Nat}{a b:X}  : ex G Φ W (.raise a b) vs σ=((ev G Φ vs a [] σ).bind λx σ=>(ev G Φ vs b [] σ).bind λy σ=>R.ok (x,y) σ).bind λU σ=>.exc σ:=by refine(?_:(ev G Φ vs a [] σ).bind _=_);rw[R.bind_assoc];congr 1;funext v cD;refine(?_:(ev G Φ vs b [] cD).bind _=_);rw[R.bind_assoc]
section
variable {c:Cx}{W:Nat}
theorem HN (D:Ok c mg mb)(B:vq c.Z mg mb fB N mN fd)(hd:c.A.depth+2<e9){s:av}(t:St (c.wv vs) ρ σ s.heap){E:ax->av->Prop}{qn:Str}
  (hC:c.Z.base.get? c.Z.CB=aa (fK nm qn c.Z.CB N bs qw af sn sub ab col dd k0 k1 k2 k3 k5 "Exception.__new__"))
  (k:∀e bJ s',Go (iF c) ρ s bJ s'->Rel c.Z bJ c.X σ s'.heap->Au c.Z s.heap e s'.heap->da c.X s'.heap c.l->E (.ref e) s') :
  aE (aC c.Z.prog c.Z.w) c.A (call (.ref c.Z.CB) [w1,w2]) (λv ay=>∃e t d a,v=.ref e/\ay.heap.get? c.Z.CB=aa (fK nm qn c.Z.CB N bs qw af sn sub ab col dd k0 k1 k2 k3 k5 "Exception.__new__") /\
   ay.heap.get? e=aa {cls:=.ref c.Z.CB,dict:=d,data:=.fields #[a,.none,.none,.none,.bool ag,.none],slots:=t}/\E (.ref e) ay) E s:=by
 obtain⟨h,g,d,tk,os⟩:=s;have R:=t.rel;have x1:=(Ext.push (h:=h) {cls:=.type "tuple",data:=.seq [w1,w2].toArray}).trans (Ext.push {cls:=.ref c.Z.CB,data:=.fields #[.ref h.objs.size,.none,.none,.none,.bool ag,.none]});refine HL (fB:=fB) (B.Qi.keeps R.keep) (R.keep _ _ hC) (B.ns.keeps R.keep) B.n1 B.ty (by rw[jG];show 2<=_;decide) ?_;refine HM B (A:=c.A.under (.builtin "type.__call__" ⟨.ref c.Z.CB::[w1,w2],[]⟩)) (by show c.A.depth+1<e9;exact aca hd) (λb o e=>x1.2 _ _ (R.keep b o e)) (t:=h.objs.size) (by show Heap.get? ((h.push _).push _) (h.objs.size+1)=_;heap_get) (er R.bsize) λh' vO d' a' p1 p2 p3=>?_;have x2:Ext h h':=⟨aQ x1.1 p2,λb o e=>p1 b o (dh (tG (bu e))) (x1.2 b o e)⟩;refine⟨rfl,h.objs.size+1,_,d',a',rfl,x2.2 _ _ (R.keep _ _ hC),p3,?_⟩;refine k _ ρ _ ⟨x2.grow,h',vO,rfl⟩ (R.ext x2) ⟨jj _,_,_,p3,rfl,rfl,.inl rfl⟩ (t.oq.grow (F:=[]) R x2.grow λU U U U q=>nomatch q)
theorem E3 (D:Ok c mg mb)(B:vq c.Z mg mb fB N mN fd)(hd:c.A.depth+2<e9)(hN:bW c){a b:X}{eb:b8}(hk:c.env.kindOf (st "BadCode")=aa .globalImplicit)(ha:∀vs,SX (c.wv vs) a ea)(hb:∀vs,SX (c.wv vs) b eb)(hs:noStar ea=af)(sP:noStar eb=af) :
  SS c W (.raise a b) (.Raise (aa (.Call (.Name (st "BadCode") np) [ea,eb] [] DN)) ae pos):=λvs ρ σ s t=>by
 rw[Ho];obtain⟨nm,qn,bs,sn,sub,ab,col,dd,k0,k1,k2,k3,k5,hC⟩:=B.cls;have h:∀vs,e8 (SX (c.wv vs)) [a,b] [ea,eb]:=λvs=>.cons (ha vs) hs (.cons (hb vs) sP .nil);have run:=B4 (ha vs) (hb vs) hs sP DN t;rw[show(c.wv vs).cs=[]from hN.cs]at run;refine cG.w (cG.rd (W2:=λws ay Q E=>ay.heap.get? c.Z.CB=aa (fK nm qn c.Z.CB N bs qw af sn sub ab col dd k0 k1 k2 k3 k5 "Exception.__new__")/\aE (aC c.Z.prog c.Z.w) c.A (call (.ref c.Z.CB) ws) (λv ay=>∃e t d a,v=.ref e/\ay.heap.get? c.Z.CB=aa (fK nm qn c.Z.CB N bs qw af sn sub ab col dd k0 k1 k2 k3 k5 "Exception.__new__") /\
   ay.heap.get? e=aa {cls:=.ref c.Z.CB,dict:=d,data:=.fields #[a,.none,.none,.none,.bool ag,.none],slots:=t}/\E (.ref e) ay) E ay) t run λxs bj ws aH ay eU bY bT=>?_) λQ E q=>?_
 ·(refine mI bT λw1 w2 z1 U U=>?_;try clear bT;subst z1);exact λQ E k=>⟨eU.rel.keep _ _ hC,HN D B hd eU hC k⟩
 .rw[arm_exec_Raise];refine aq (bR (AV (C:=c.Z.CB) (nm:=nm) (q:=qn) (N:=N) (bs:=bs) (sn:=sn) (sub:=sub) (ab:=ab) (col:=col) (dd:=dd) (k0:=k0) (k1:=k1) (k2:=k2) (k3:=k3) (k5:=k5) D.hh (aq (bo (jV (lP (c:=c.wv vs) D.zR t hk (by decide) D.zR.bc ?_)) (λv fU iZ=>aq (bR (aW iZ))) λU U x=>x))));refine aq (bC (mz (h vs) (bo q (λws bH fj=>aq (bR ?_)) λU U x=>x)));obtain⟨hp,g,d,tk,os⟩:=bH;obtain⟨ZU,fj⟩:=fj;rw[show(List.any (mL DN (gG [ea,eb] c.env)) λx=>x.1)=ag from jt (h vs)];refine aq (wpAny_keeperOf_exc ZU ?_);refine aq (bo fj (λv fU iZ=>?_) λU U x=>x);(refine o41 iZ λe t' d' a' z1 r=>?_;try clear iZ;subst z1);refine aq (bC (wpAny_point (aW ?_)));exact⟨e,t',d',a',rfl,r⟩
end
noncomputable def Nw (vs:Vs)(v:V)(r:R V):RS:=match r with
 |.ok _ σ=>.ok (.nx,vs) σ
 |.exc σ=>.ok (.rt v,vs) σ
 |.bad=>.bad
theorem O8 {G:List V}{Φ:Nat->List V->bp->R V}{W f i:Nat}{v:V}  : ex G Φ W (.vN f [.v i] v) vs σ=Nw vs v (ev G Φ vs (.call f [.v i]) [] σ):=by
 refine(?_:R.bind (R.bind (ev G Φ vs (.v i) [] σ) _) _=Nw vs v (R.bind (R.bind (ev G Φ vs (.v i) [] σ) _) _));rcases d0 G Φ vs (.v i) [] σ rfl with e|⟨x,e⟩
 .rw[e];rfl
 .rw[e];refine(?_:(match Φ f [x] σ with|.ok _ σ=>R.ok (Fl.nx,vs) σ|.exc σ=>R.ok (Fl.rt v,vs) σ|.bad=>R.bad)=Nw vs v (Φ f [x] σ));cases Φ f [x] σ<;>rfl
section
variable {c:Cx}{W:Nat}
theorem NV (D:Ok c mg mb)(B:vq c.Z mg mb fB N mN fd)(hN:bW c){f i:Nat}{k:Nat}{p1 p2 p3 p4:Pos}{b:Bool}(hk:c.env.kindOf (st "BadCode")=aa .globalImplicit)(h:yf c (.call f [.v i]) e)(hn:j8 e=af) :
  SS c W (.vN f [.v i] (.bool b)) (.Try [.Expr e p1] [.ExceptHandler (aa (.Name (st "BadCode") np)) ae [.Return (aa (.Constant (.bool b) k p2)) p3] p4] [] [] pos):=λvs ρ σ s t=>by
 rw[O8];have hr:=h vs ρ s σ t;have hi:rY c.env=ag:=by unfold rY;rw[show c.env.scope.kind=.function from t.fr.kind];rfl
 generalize hg:ev G c.Φ vs (.call f [.v i]) [] σ=r at hr;obtain⟨outer,Zo⟩:=hN.top;induction r with
 |bad=>trivial
 |ok v cD =>refine λQ E q=>wpAny_Try_except (gD ?_);rw[exec_Expr c.env e p1 hi (kx hn)];exact aq (bR (aq (hr _ _ λw bJ s' g R' r'=>rF (jo (jo (q _ bJ s' g.any R' (TS.nx (t.go g R'))))))))
 |exc cD =>refine λQ E q=>wpAny_Try_except (gD ?_);rw[exec_Expr c.env e p1 hi (kx hn)];refine aq (bR (aq (hr _ _ λx bJ s' g R' y=>?_)));have t':=t.go g R';have Z7:da c.X s'.heap (c.env::outer):=Zo▸t'.oq;obtain⟨nm,qn,bs,sn,sub,ab,col,dd,k0,k1,k2,k3,k5,hC⟩:=B.cls;refine om (by rw[<- Zo];exact D.fr) hN.frame Z7 (da.fun R' Z7) y λh1 c1 y1=>?_;refine jK (Z:=c.Z) (X:=c.X) (h₀:=s.heap) (s:={s' with heap:=h1}) y1 λh2 c2 y2=>?_;have g2:=g.chg (c1.trans c2);have R2:=R'.chg (aQ (aO _) t.rel.bsize) (c1.trans c2);have t2:=t.go g2 R2;refine wpAny_handleBy_cons (codeAny_handlers_test ?_) (by intro q;exact PySem.Value.noConfusion q);refine lP (c:={c.wv vs with A:=c.A.mark (aa (.ref x))}) D.zR ⟨t2.rel,t2.fr,t2.oq⟩ hk (by decide) D.zR.bc ?_;obtain⟨_,oe,k4,he,hc,_⟩:=id y2;refine wpAny_excMatches_sub_self (R2.keep _ _ hC) he hc (by rw[List.contains_cons];rfl) (codeAny_handlers_suite ?_);refine jK (Z:=c.Z) (X:=c.X) (h₀:=s.heap) (s:={s' with heap:=h2}) y2 λh3 c3 y3=>?_;have g3:=g2.chg c3;have R3:=R2.chg t.rel.bsize c3;have t3:=t.go g3 R3;refine gD (wpAny_Return_some (wpAny_Constant_bool ?_));exact q _ bJ _ g3.any R3 (TS.rt t3 tZ)
end
def n7 (P:cM->Prop):Prop:=∀p,P p->∃a t q,p=(.int a t,q)
def ec (P:cM->Prop)(xs:Array cM):Prop:=∀p∈xs,P p
structure WB (P:cM->Prop)(n:Nat)(st:cQ):Prop where
 kind:cw st=mG
 size:(sv st).size=n
 all:ec P (sv st)
 failed:wY st=ae
noncomputable def Z6:Bool->cM->Array cM->Nat->Nat->Nat->StateT cQ Sem (Option Nat):=sortPriv% PySem.Builtin.gallop
noncomputable def Y7:Array cM->Array cM->StateT cQ Sem (Array cM):=sortPriv% PySem.Builtin.mergeLo
noncomputable def Y8:Array cM->Array cM->StateT cQ Sem (Array cM):=sortPriv% PySem.Builtin.mergeHi
section
variable {w:c0}{E:ax->av->Prop}{s:av}{n:Nat}
theorem d8 {xs:Array cM}{i:Nat}{Q:cM->cQ->Prop}{st:cQ}(h:ec P xs)(hi:i<xs.size)(q:∀p,P p->Q p st):wpS (aC prog w) A E s (elem' xs i) Q st:=by rw[elem'_eq,getElem?_pos xs i hi];exact bh (q _ (h _ (by simp)))
theorem pW (hP:n7 P){st:cQ}(hk:cw st=mG){x y:cM}(hx:P x)(hy:P y){Q:Option Bool->cQ->Prop}(q:∀b,Q (aa b) st):wpS (aC prog w) A E s (lt' x y) Q st:=by(refine o30 (hP _ hx) λa t p z1=>?_;subst z1);(refine o30 (hP _ hy) λb u r z1=>?_;subst z1);rw[lt'_eq];refine aK (kU ?_);rw[hk,keyLt'_oneType];refine aK (rK (wpAny_attempt (oneLt_int ⟨rfl,?_⟩)));exact bh (q _)
theorem kh (hP:n7 P){st:cQ}(W:WB P n st){i j:Nat}(hi:i<n)(hj:j<n){Q:Option Bool->cQ->Prop}(q:∀b,Q (aa b) st):wpS (aC prog w) A E s (ltAt' i j) Q st:=by rw[ltAt'_eq];refine aK (kU ?_);refine aK (d8 W.all (W.size▸hi) λx hx=>aK (d8 W.all (W.size▸hj) λy hy=>pW hP W.kind hx hy q))
theorem WB.perm {st:cQ}(W:WB P n st){xs:Array cM}(h:xs.Perm (sv st)):WB P n (setArr st xs) :=
 ⟨W.kind,h.size_eq.trans W.size,λp hp=>W.all p (by have:=(Array.perm_iff_toList_perm.mp h).mem_iff (a:=p);simpa using this.mp (by simpa using hp)),W.failed⟩
theorem pV {st:cQ}(W:WB P n st){i j:Nat}{Q:Unit->cQ->Prop}(q:∀bQ,WB P n bQ->aY bQ=aY st->Q () bQ):wpS (aC prog w) A E s (reverseSlice' i j) Q st:=by rw[reverseSlice'_eq];exact gi (q _ (W.perm (mirror_perm _ _ _ _)) rfl)
theorem CZ {st:cQ}(W:WB P n st){i j:Nat}{Q:Unit->cQ->Prop}(q:∀bQ,WB P n bQ->aY bQ=aY st->Q () bQ):wpS (aC prog w) A E s (moveDown' i j) Q st:=by rw[moveDown'_eq];exact gi (q _ (W.perm (bubble_perm _ _ _)) rfl)
theorem Es (hP:n7 P){st:cQ}(W:WB P n st){m ok:Nat}(h:lo+m<=n){Q:Bool->cQ->Prop}(q:∀bQ,WB P n bQ->aY bQ=aY st->Q af bQ):wpS (aC prog w) A E s (binarySort' lo m ok) Q st:=by
 rw[binarySort'_eq];refine aK (ef (cO (I:=λk c bQ=>c=(ae,())/\WB P n bQ/\aY bQ=aY st)
  (Q:=λc bQ=>c=(ae,())/\WB P n bQ/\aY bQ=aY st) ?step (λU U h=>h) ⟨rfl,W,rfl⟩) ?post)
 case post =>
  rintro c bQ ⟨rfl,W',e⟩;exact bh (q bQ W' e)
 case step =>
  rintro k c bQ hk hkm ⟨rfl,W',e⟩;refine aK (ef (cO (I:=λU c iE=>iE=bQ/\∃l r,c=(ae,l,r)/\r<=k/\l<=k)
   (Q:=λc iE=>iE=bQ/\∃l r,c=(ae,l,r)/\r<=k/\l<=k) ?istep (λU U h=>h) ⟨rfl,0,k,rfl,aO _,bL _⟩) ?ipost)
  case istep =>
   rintro y c iE _ _ ⟨rfl,l,r,rfl,hr,hl⟩;dsimp only
   split
   .exact bh ⟨rfl,l,r,rfl,hr,hl⟩
   .rename_i hlr
    refine aK (kh hP W' (Lv h hkm) (Ti h hkm hr hlr) λb=>?_);induction b
    .exact bh ⟨rfl,_,_,rfl,hr,by exact Tf hr hlr⟩
    .exact bh ⟨rfl,_,_,rfl,by exact Te hr hlr,hl⟩
  case ipost =>
   rintro c iE ⟨rfl,l,r,rfl,hr,hl⟩;exact aK (CZ W' λiU ac3 acO=>bh ⟨rfl,ac3,acO.trans e⟩)
end
section
variable {w:c0}{E:ax->av->Prop}{s:av}
theorem tO (hP:n7 P){st:cQ}(hk:cw st=mG){n:Nat}(hx:P key)(ha:ec P arr)(hh:hint<n)(hn:base+n<=arr.size)
  {Q:Option Nat->cQ->Prop}(q:∀k,k<=n->Q (aa k) st):wpS (aC prog w) A E s (Z6 left key arr base n hint) Q st:=by
 have bey:∀i,i<n->∀(Q:Option Bool->cQ->Prop),(∀b,Q (aa b) st)->wpS (aC prog w) A E s (bind (elem' arr (base+i)) λx=>if left=af then lt' x key else bind (lt' key x) λr=>pure (r.map (!·))) Q st:=by
  intro i hi Q q;refine aK (d8 ha (Lv hn hi) λx H6=>?_)
  split
  .exact pW hP hk H6 hx q
  .exact aK (pW hP hk hx H6 λb=>bh (q _))
 unfold Z6;refine aK (bey hint hh _ λright=>?_);dsimp only
 split
 .refine aK (ef (cO (I:=λU c bQ=>bQ=st/\c.1=ae) (Q:=λc bQ=>bQ=st/\c.1=ae) ?s1 (λU U h=>h) ⟨rfl,rfl⟩) ?p1);case s1 =>
   rintro y ⟨r,c1,c2⟩ iE _ _ ⟨rfl,hr⟩;dsimp only at hr ⊢;subst hr
   split
   .exact bh ⟨rfl,rfl⟩
   .rename_i mX
    refine aK (bey _ (S5 hh mX) _ λmore=>?_);induction more<;>exact bh ⟨rfl,rfl⟩
  case p1 =>
   rintro⟨r,c1,c2⟩ iE ⟨rfl,hr⟩;dsimp only at hr ⊢;subst hr;dsimp only;refine aK (ef (cO (I:=λU c bQ=>bQ=iE/\c.1=ae/\c.2.2<=n) (Q:=λc bQ=>bQ=iE/\c.1=ae/\c.2.2<=n) ?s3 (λU U h=>h) ⟨rfl,rfl,by dsimp only;exact S2 hh⟩) ?p3);case s3 =>
    rintro y ⟨r,c1,c2⟩ iE _ _ ⟨rfl,hr,h2⟩;dsimp only at hr h2 ⊢;subst hr
    split
    .exact bh ⟨rfl,rfl,h2⟩
    .rename_i mX
     refine aK (bey _ (Lu h2 mX) _ λmore=>?_);induction more
     .exact bh ⟨rfl,rfl,by dsimp only;exact Lr h2 mX⟩
     .exact bh ⟨rfl,rfl,by dsimp only;exact h2⟩
   case p3 =>
    rintro⟨r,c1,c2⟩ iE ⟨rfl,hr,h2⟩;dsimp only at hr h2 ⊢;subst hr;exact bh (q _ (by exact h2))
 .refine aK (ef (cO (I:=λU c bQ=>bQ=st/\c.1=ae) (Q:=λc bQ=>bQ=st/\c.1=ae) ?s2 (λU U h=>h) ⟨rfl,rfl⟩) ?p2);case s2 =>
   rintro y ⟨r,c1,c2⟩ iE _ _ ⟨rfl,hr⟩;dsimp only at hr ⊢;subst hr
   split
   .exact bh ⟨rfl,rfl⟩
   .rename_i mX
    refine aK (bey _ (SR hh) _ λmore=>?_);induction more<;>exact bh ⟨rfl,rfl⟩
  case p2 =>
   rintro⟨r,c1,c2⟩ iE ⟨rfl,hr⟩;dsimp only at hr ⊢;subst hr;refine aK (ef (cO (I:=λU c bQ=>bQ=iE/\c.1=ae/\c.2.2<=n) (Q:=λc bQ=>bQ=iE/\c.1=ae/\c.2.2<=n) ?s4 (λU U h=>h) ⟨rfl,rfl,by dsimp only;exact SQ hh⟩) ?p4);case s4 =>
    rintro y ⟨r,c1,c2⟩ iE _ _ ⟨rfl,hr,h2⟩;dsimp only at hr h2 ⊢;subst hr
    split
    .exact bh ⟨rfl,rfl,h2⟩
    .rename_i mX
     refine aK (bey _ (Lu h2 mX) _ λmore=>?_);induction more
     .exact bh ⟨rfl,rfl,by dsimp only;exact Lr h2 mX⟩
     .exact bh ⟨rfl,rfl,by dsimp only;exact h2⟩
   case p4 =>
    rintro⟨r,c1,c2⟩ iE ⟨rfl,hr,h2⟩;dsimp only at hr h2 ⊢;subst hr;exact bh (q _ (by exact h2))
end
def dJ (st bQ:cQ):Prop:=cw bQ=cw st/\sv bQ=sv st/\aY bQ=aY st/\wY bQ=wY st
theorem dJ.refl {st:cQ}:dJ st st:=⟨rfl,rfl,rfl,rfl⟩
theorem dJ.trans {a b c:cQ}(x:dJ a b)(y:dJ b c):dJ a c:=⟨y.1.trans x.1,y.2.1.trans x.2.1,y.2.2.1.trans x.2.2.1,y.2.2.2.trans x.2.2.2⟩
theorem dJ.kd {st bQ:cQ}(h:dJ st bQ)(hk:cw st=mG):cw bQ=mG:=h.1.trans hk
section
theorem ec.app {a b:Array cM}(x:ec P a)(y:ec P b):ec P (a++b):=λp hp=>(Array.mem_append.mp hp).elim (x p) (y p)
theorem ec.push {a:Array cM}{p:cM}(x:ec P a)(y:P p):ec P (a.push p):=λq hq=>(Array.mem_push.mp hq).elim (x q) λe=>e▸y
theorem ec.ext {a:Array cM}{i j:Nat}(x:ec P a):ec P (a.extract i j):=λp hp=>by obtain⟨k,hk,e⟩:=Array.mem_extract_iff_getElem.mp hp;exact x p (by rw[<- e];simp)
theorem ec.rev {a:Array cM}(x:ec P a):ec P a.reverse:=λp hp=>x p (by simpa using hp)
theorem ec.one {p:cM}(y:P p):ec P #[p]:=λq hq=>by
 have:q=p:=by simpa using hq
 exact this▸y
end
section
variable {w:c0}{E:ax->av->Prop}{s:av}
theorem dw {α σ:Type}{c:Prop}[Decidable c]{x y:StateT σ Sem α}{Q:α->σ->Prop}{st:σ}(h:c->wpS M A E s x Q st)(k:¬c->wpS M A E s y Q st):wpS M A E s (if c then x else y) Q st:=by
 by_cases e:c
 .rw[if_pos e];exact h e
 .rw[if_neg e];exact k e
theorem dM {α σ:Type}{i j:Nat}{x y:StateT σ Sem α}{Q:α->σ->Prop}{st:σ}(h:i=j->wpS M A E s x Q st)(k:i≠j->wpS M A E s y Q st):wpS M A E s (if(i==j)=af then x else y) Q st :=
 dw (λe=>h (by simpa using e)) λe=>k (by simpa using e)
structure Fy (P:cM->Prop)(A B x:Nat)(r:Option (Array cM))(out:Array cM)(ia ib:Nat):Prop where
 r:r=.none
 o:ec P out
 a:ia+1<A
 b:ib<B
 e:x<=ia+ib
def Fw (P:cM->Prop)(A B x:Nat)(r:Option (Array cM))(out:Array cM)(ia ib:Nat):Prop:=(∀o,r=aa o->ec P o)/\(r=ae->Fy P A B x r out ia ib)
theorem Fw.some {A x ib:Nat}{o:Array cM}(h:ec P o):Fw P A B x (aa o) out ia ib:=⟨λU e=>aj e▸h,λe=>nomatch e⟩
theorem Fy.wk {A x ib:Nat}{r:Option (Array cM)}(h:Fy P A B x r out ia ib)(k:x'<=x):Fw P A B x' r out ia ib :=
 ⟨λU e=>(nomatch (h.r.symm.trans e)),λU=>⟨h.r,h.o,h.a,h.b,aQ k h.e⟩⟩
theorem p5 {α β:Type}{P:α×β×γ×δ×ε->Prop}(h:∀a b c d e,P (a,b,c,d,e))(x):P x:=h _ _ _ _ _
theorem p6 {α β:Type}{P:α×β×γ×δ×ε×ζ->Prop}(h:∀a b c d e f,P (a,b,c,d,e,f))(x):P x:=h _ _ _ _ _ _
theorem p7 {α β η:Type}{P:α×β×γ×δ×ε×ζ×η->Prop}(h:∀a b c d e f g,P (a,b,c,d,e,f,g))(x):P x:=h _ _ _ _ _ _ _
theorem iQ {xs:Array cM}{i:Nat}{Q:cM->cQ->Prop}{st:cQ}(h:ec P xs)(hi:i<xs.size)(q:∀p,P p->Q p st):wpS (aC prog w) A E s ((sortPriv% PySem.Builtin.elem) xs i) Q st:=d8 h hi q
theorem pX (hP:n7 P){st:cQ}(hk:cw st=mG){n:Nat}(hx:P key)(ha:ec P arr)(hh:hint<n)(hn:base+n<=arr.size)
  {Q:Option Nat->cQ->Prop}(q:∀k,k<=n->Q (aa k) st):wpS (aC prog w) A E s ((sortPriv% PySem.Builtin.gallop) left key arr base n hint) Q st:=tO hP hk hx ha hh hn q
theorem yD {g:Nat}{Lb st:cQ}(hs:dJ Lb st){Q:PUnit->cQ->Prop}(q:∀bQ,dJ Lb bQ->Q ⟨⟩ bQ):wpS (aC prog w) A E s ((sortPriv% PySem.Builtin.setMinGallop) g) Q st :=
 gi (q _ (hs.trans ⟨rfl,rfl,rfl,rfl⟩))
theorem Eo (hP:n7 P){st:cQ}(hk:cw st=mG){a b:Array cM}(ha:ec P a)(hb:ec P b)(h1:1<=a.size)(h2:1<=b.size)
  {Q:Array cM->cQ->Prop}(q:∀out bQ,ec P out->dJ st bQ->Q out bQ):wpS (aC prog w) A E s (Y7 a b) Q st:=by
 unfold Y7;refine aK (rK (kO ⟨rfl,?_⟩));refine aK (d8 hb h2 λp0 ON=>?_);have dn:∀ {out:Array cM} {ia ib:Nat},ec P out->ec P (out++a.extract ia a.size++b.extract ib b.size):=λx=>(x.app ha.ext).app hb.ext;have la:∀ {out:Array cM} {ia ib:Nat},ec P out->ec P (out++b.extract ib b.size++a.extract ia a.size):=λx=>(x.app hb.ext).app ha.ext;refine dM (λU=>bh (q _ _ (dn (ec.one ON)) .refl)) λe1=>?_;refine dM (λU=>bh (q _ _ (la (ec.one ON)) .refl)) λe2=>?_;refine aK (kU ?_);refine aK (ef (cO (I:=λx c bQ=>dJ st bQ/\Fy P a.size b.size (1+x) c.1 c.2.1 c.2.2.1 c.2.2.2.1) (Q:=λc bQ=>dJ st bQ/\∃o,c.1=aa o/\ec P o) ?ls ?lf ⟨.refl,rfl,ec.one ON,(by dsimp only;exact SJ h1 e2),(by dsimp only;exact SG h2 e1),(by dsimp only;exact SE)⟩) ?lp);case lf =>
  intro c bQ ⟨hs,g⟩;have:=g.a;have:=g.b;have:=g.e;clear dn la ha hb g;exact Sz (by assumption) (by assumption) this
 case lp =>
  refine p5 λr out ia ib mg bQ h=>?_;obtain⟨hs,o,e,ho⟩:=h;dsimp only at e ⊢;subst e;exact bh (q _ _ ho hs)
 case ls =>
  intro x c bQ _ hxt h;extract_lets s1 out s2 ia s3 ib mg ac bc;have hs:dJ st bQ:=h.1;have g:Fy P a.size b.size (1+x) ae out ia ib:=⟨rfl,h.2.2,h.2.3,h.2.4,h.2.5⟩;clear h;clear_value bc ac mg ib s3 ia s2 out s1;refine aK (ef (cO (I:=λy c bQ=>dJ st bQ/\Fy P a.size b.size (1+x) c.1 c.2.1 c.2.2.1 c.2.2.2.1) (Q:=λc bQ=>dJ st bQ/\Fw P a.size b.size (1+x) c.1 c.2.1 c.2.2.1 c.2.2.2.1) ?is ?if' ⟨hs,g⟩) ?ip);case if'=>exact λc bQ h=>⟨h.1,h.2.wk (aO _)⟩
  case is =>
   intro y c bQ _ _ h;extract_lets s1 xP s2 Zm s3 Zk s4 ac1 Pr;have hs:dJ st bQ:=h.1;have f1:ec P xP:=h.2.o;have f2:Zm+1<a.size:=h.2.a;have f3:Zk<b.size:=h.2.b;have f4:1+x<=Zm+Zk:=h.2.e;clear h;clear_value Pr ac1 s4 Zk s3 Zm s2 xP s1;refine aK (d8 hb f3 λp1 hp1=>aK (d8 ha (zk f2) λp2 GP=>aK (pW hP (hs.1.trans hk) hp1 GP λbw=>?_)));refine dw (λU=>aK (d8 hb f3 λp3 wU=>?_)) λU=>aK (d8 ha (zk f2) λp3 wU=>?_)
   .refine dM (λU=>bh ⟨hs,Fw.some (dn (f1.push wU))⟩) λe=>?_;have k:Fy P a.size b.size (1+x) ae (xP.push p3) Zm (Zk+1):=⟨rfl,f1.push wU,f2,by lia,by exact So f4⟩;exact dw (λU=>bh ⟨hs,k.wk (aO _)⟩) λU=>bh ⟨hs,k⟩
   .refine dM (λU=>bh ⟨hs,Fw.some (la (f1.push wU))⟩) λe=>?_;have k:Fy P a.size b.size (1+x) ae (xP.push p3) (Zm+1) Zk:=⟨rfl,f1.push wU,by lia,f3,by exact Sl f4⟩;exact dw (λU=>bh ⟨hs,k.wk (aO _)⟩) λU=>bh ⟨hs,k⟩
  case ip =>
   clear g hs;refine p6 λr out ia ib ac bc bQ h=>?_;have hs:dJ st bQ:=h.1;have g:=h.2;clear h;dsimp only at g;induction r with
   |some o=>exact bh ⟨hs,o,rfl,g.1 o rfl⟩
   |none =>
    have g:=g.2 rfl;refine aK (rK (kO ⟨rfl,?_⟩));refine aK (ef (cO (I:=λy c bQ=>dJ st bQ/\Fy P a.size b.size (1+x+y) c.1 c.2.1 c.2.2.1 c.2.2.2.1) (Q:=λc bQ=>dJ st bQ/\Fw P a.size b.size (2+x) c.1 c.2.1 c.2.2.1 c.2.2.2.1) ?js ?jf ⟨hs,g⟩) ?jp);case jf =>
     exact λc bQ h=>⟨h.1,h.2.wk (Si h1 e2)⟩
    case jp =>
     clear g hs;refine p7 λr out ia ib mg ac bc bQ h=>?_;have hs:dJ st bQ:=h.1;have g:=h.2;clear h;dsimp only at g;induction r with
     |some o=>exact bh ⟨hs,o,rfl,g.1 o rfl⟩
     |none =>have k:=g.2 rfl;exact aK (gi (bh ⟨hs.trans ⟨rfl,rfl,rfl,rfl⟩,k.r,k.o,k.a,k.b,aQ Se k.e⟩))
    case js =>
     clear g hs;intro y c bQ _ _ h;refine(λH=>H _ (λr na nb out mg ac bc bQ h k=>⟨h,k⟩) (λna nb out mg ac bc bQ h k=>⟨h,k⟩):(∀Qp:ForInStep (Option (Array cM)×Array cM×Nat×Nat×Nat×Nat×Nat)->cQ->Prop,(∀r out ia ib mg ac bc bQ,dJ st bQ->Fw P a.size b.size (2+x) r out ia ib->Qp (.done (r,out,ia,ib,mg,ac,bc)) bQ)->(∀out ia ib mg ac bc bQ,dJ st bQ->Fy P a.size b.size (1+x+(y+1)) ae out ia ib->Qp (.yield (ae,out,ia,ib,mg,ac,bc)) bQ)->wpS (aC prog w) A E s _ Qp bQ)->_) ?_;intro Qp hd hy;extract_lets s1 out s2 ia s3 ib s4 mg s5 ac bc n1 J m1;have hs:dJ st bQ:=h.1;have g1:ec P out:=h.2.o;have g2:ia+1<a.size:=h.2.a;have g3:ib<b.size:=h.2.b;have g4:1+x+y<=ia+ib:=h.2.e;have g7:n1=ib+1:=rfl;have HJ:∀m bQ,dJ st bQ->wpS (aC prog w) A E s (J () m) Qp bQ:=by
      clear h hs;clear_value n1 bc ac s5 mg s4 ib s3 ia s2 out s1;intro m bQ hs;refine aK (yD hs λbQ hs=>?_);refine aK (iQ hb g3 λp hp=>?_);refine aK (pX hP (dJ.kd hs hk) hp ha (R1 g2) (RV g2) λk Qr=>?_);dsimp -zeta only;extract_lets ac1 J2;have KW:∀out Zn,ec P out->ia<=Zn->Zn+1<a.size->wpS (aC prog w) A E s (J2 () out Zn) Qp bQ:=by
       intro out Zn h1 h2 h3;refine aK (iQ hb g3 λp hp=>?_);refine dM (λU=>bh (hd _ _ _ _ _ _ _ _ hs (Fw.some (dn (h1.push hp))))) λe=>?_;refine aK (iQ ha (zk h3) λp' Cy=>?_);refine aK (pX hP (dJ.kd hs hk) Cy hb (RL g3 g7 e) (RK g3 g7 e) λk2 MX=>?_);dsimp -zeta only;extract_lets Pr n2 J3;have g8:n2=Zn+1:=rfl;have HJ3:∀out Zl,ec P out->n1<=Zl->Zl<b.size->wpS (aC prog w) A E s (J3 () out Zl) Qp bQ:=by clear_value n2 Pr;intro out Zl h4 h5 h6;refine aK (iQ ha (zk h3) λp3 wU=>?_);refine dM (λU=>bh (hd _ _ _ _ _ _ _ _ hs (Fw.some (la (h4.push wU))))) λe2=>?_;have k:Fy P a.size b.size (1+x+(y+1)) ae (out.push p3) n2 Zl:=⟨rfl,h4.push wU,by exact RG h3 g8 e2,h6,by exact RE g4 g7 h2 g8 h5⟩;exact dw (λU=>bh (hd _ _ _ _ _ _ _ _ hs (k.wk RD))) λU=>bh (hy _ _ _ _ _ _ _ hs k)
       clear_value J3;have h7:=(h1.push hp).app (hb.ext (i:=n1) (j:=n1+k2));exact dw (λU=>dM (λU=>bh (hd _ _ _ _ _ _ _ _ hs (Fw.some (dn h7)))) λe3=>HJ3 _ _ h7 (by lia) (by lia)) λU=>HJ3 _ _ (h1.push hp) (aO _) (Rw g3 g7 e)
      clear_value J2;have h7:=g1.app (ha.ext (i:=ia) (j:=ia+k));exact dw (λU=>dM (λU=>bh (hd _ _ _ _ _ _ _ _ hs (Fw.some (la h7)))) λe=>dM (λU=>bh (hd _ _ _ _ _ _ _ _ hs (Fw.some (dn h7)))) λe=>KW _ _ h7 (by lia) (by lia)) λU=>KW _ _ g1 (aO _) g2
     clear_value J;exact dw (λU=>HJ _ _ hs) λU=>HJ _ _ hs
end
section
variable {w:c0}{E:ax->av->Prop}{s:av}
structure Gy (P:cM->Prop)(A B T x:Nat)(r:Option (Array cM))(out:Array cM)(na nb:Nat):Prop where
 r:r=.none
 o:ec P out
 a:1<=na
 b:2<=nb
 c:na<=A
 d:nb<=B
 e:na+nb+x<=T
def Gw (P:cM->Prop)(A B T x:Nat)(r:Option (Array cM))(out:Array cM)(na nb:Nat):Prop:=(∀o,r=aa o->ec P o)/\(r=ae->Gy P A B T x r out na nb)
theorem Gw.some {A T x:Nat}{o:Array cM}(h:ec P o):Gw P A B T x (aa o) out na nb:=⟨λU e=>aj e▸h,λe=>nomatch e⟩
theorem Gy.wk {A T x:Nat}{r:Option (Array cM)}(h:Gy P A B T x r out na nb)(k:x'<=x):Gw P A B T x' r out na nb :=
 ⟨λU e=>(nomatch (h.r.symm.trans e)),λU=>⟨h.r,h.o,h.a,h.b,h.c,h.d,aQ (iY k _) h.e⟩⟩
theorem Ep (hP:n7 P){st:cQ}(hk:cw st=mG){a b:Array cM}(ha:ec P a)(hb:ec P b)(h1:1<=a.size)(h2:1<=b.size)
  {Q:Array cM->cQ->Prop}(q:∀out bQ,ec P out->dJ st bQ->Q out bQ):wpS (aC prog w) A E s (Y8 a b) Q st:=by
 unfold Y8;refine aK (rK (kO ⟨rfl,?_⟩));refine aK (d8 ha (FA h1) λp0 ON=>?_);have dn:∀ {out:Array cM} {na nb:Nat},ec P out->ec P (a.extract 0 na++b.extract 0 nb++out.reverse):=λx=>(ha.ext.app hb.ext).app x.rev;have la:∀ {out:Array cM} {na nb:Nat},ec P out->ec P (b.extract 0 nb++a.extract 0 na++out.reverse):=λx=>(hb.ext.app ha.ext).app x.rev;refine dM (λU=>bh (q _ _ (dn (ec.one ON)) .refl)) λe1=>?_;refine dM (λU=>bh (q _ _ (la (ec.one ON)) .refl)) λe2=>?_;refine aK (kU ?_);generalize hA:a.size=A';generalize hB:b.size=B';rw[hA]at h1 e1;rw[hB]at h2 e2;generalize hT:A'-1+B'=T;refine aK (ef (cO (I:=λx c bQ=>dJ st bQ/\Gy P A' B' T x c.1 c.2.2.2.1 c.2.1 c.2.2.1) (Q:=λc bQ=>dJ st bQ/\∃o,c.1=aa o/\ec P o) ?ls ?lf ⟨.refl,rfl,ec.one ON,(by dsimp only;exact SP e1),(by dsimp only;exact SO e2 h2),(by dsimp only;exact SN h1),(by dsimp only;exact SM),(by dsimp only;exact SI hT)⟩) ?lp);case lf =>
  intro c bQ ⟨hs,g⟩;have:=g.a;have:=g.b;have:=g.e;clear dn la ha hb g;exact SD h1 hT (by assumption) (by assumption) this
 case lp =>
  refine p5 λr na nb out mg bQ h=>?_;obtain⟨hs,o,e,ho⟩:=h;dsimp only at e ⊢;subst e;exact bh (q _ _ ho hs)
 case ls =>
  intro x c bQ _ hxt h;extract_lets s1 na s2 nb s3 out mg ac bc;have hs:dJ st bQ:=h.1;have g:Gy P A' B' T x ae out na nb:=⟨rfl,h.2.2,h.2.3,h.2.4,h.2.5,h.2.6,h.2.7⟩;clear h;clear_value bc ac mg out s3 nb s2 na s1;refine aK (ef (cO (I:=λy c bQ=>dJ st bQ/\Gy P A' B' T x c.1 c.2.2.2.1 c.2.1 c.2.2.1) (Q:=λc bQ=>dJ st bQ/\Gw P A' B' T x c.1 c.2.2.2.1 c.2.1 c.2.2.1) ?is ?if' ⟨hs,g⟩) ?ip);case if'=>exact λc bQ h=>⟨h.1,h.2.wk (aO _)⟩
  case is =>
   intro y c bQ _ _ h;extract_lets s1 na1 s2 nb1 s3 xP s4 ac1 Pr;have hs:dJ st bQ:=h.1;have g:Gy P A' B' T x ae xP na1 nb1:=⟨rfl,h.2.2,h.2.3,h.2.4,h.2.5,h.2.6,h.2.7⟩;clear h;clear_value Pr ac1 s4 xP s3 nb1 s2 na1 s1;have f1:=g.o;have f2:=g.a;have f3:=g.b;have f4:=g.c;have f5:=g.d;have f6:=g.e;refine aK (d8 hb (Lo hB f3 f5) λp1 hp1=>aK (d8 ha (Sq h1 hA f2 f4) λp2 GP=>aK (pW hP (hs.1.trans hk) hp1 GP λbw=>?_)));refine dw (λU=>aK (d8 ha (by lia) λp3 wU=>?_)) λU=>aK (d8 hb (by lia) λp3 wU=>?_)
   .refine dM (λU=>bh ⟨hs,Gw.some (dn (f1.push wU))⟩) λe=>?_;have k:Gy P A' B' T x ae (xP.push p3) (na1-1) nb1:=⟨rfl,f1.push wU,by lia,f3,by exact Sg h1 f2 f4,f5,by exact Sd hT f2 f6⟩;exact dw (λU=>bh ⟨hs,k.wk (aO _)⟩) λU=>bh ⟨hs,k⟩
   .refine dM (λU=>bh ⟨hs,Gw.some (la (f1.push wU))⟩) λe=>?_;have k:Gy P A' B' T x ae (xP.push p3) na1 (nb1-1):=⟨rfl,f1.push wU,f2,by lia,f4,by exact RX f3 f5,by exact RP hT f3 f6⟩;exact dw (λU=>bh ⟨hs,k.wk (aO _)⟩) λU=>bh ⟨hs,k⟩
  case ip =>
   clear g hs;refine p6 λr na nb out ac bc bQ h=>?_;have hs:dJ st bQ:=h.1;have g:=h.2;clear h;dsimp only at g;induction r with
   |some o=>exact bh ⟨hs,o,rfl,g.1 o rfl⟩
   |none =>
    have g:=g.2 rfl;refine aK (rK (kO ⟨rfl,?_⟩));refine aK (ef (cO (I:=λy c bQ=>dJ st bQ/\Gy P A' B' T (x+y) c.1 c.2.2.2.1 c.2.1 c.2.2.1) (Q:=λc bQ=>dJ st bQ/\Gw P A' B' T (x+1) c.1 c.2.2.2.1 c.2.1 c.2.2.1) ?js ?jf ⟨hs,g⟩) ?jp);case jf =>
     exact λc bQ h=>⟨h.1,h.2.wk (RM h1)⟩
    case jp =>
     clear g hs;refine p7 λr na nb out mg ac bc bQ h=>?_;have hs:dJ st bQ:=h.1;have g:=h.2;clear h;dsimp only at g;induction r with
     |some o=>exact bh ⟨hs,o,rfl,g.1 o rfl⟩
     |none=>exact aK (gi (bh ⟨hs.trans ⟨rfl,rfl,rfl,rfl⟩,g.2 rfl⟩))
    case js =>
     clear g hs;intro y c bQ _ _ h;refine(λH=>H _ (λr na nb out mg ac bc bQ h k=>⟨h,k⟩) (λna nb out mg ac bc bQ h k=>⟨h,k⟩):(∀Qp:ForInStep (Option (Array cM)×Nat×Nat×Array cM×Nat×Nat×Nat)->cQ->Prop,(∀r na nb out mg ac bc bQ,dJ st bQ->Gw P A' B' T (x+1) r out na nb->Qp (.done (r,na,nb,out,mg,ac,bc)) bQ)->(∀na nb out mg ac bc bQ,dJ st bQ->Gy P A' B' T (x+(y+1)) ae out na nb->Qp (.yield (ae,na,nb,out,mg,ac,bc)) bQ)->wpS (aC prog w) A E s _ Qp bQ)->_) ?_;intro Qp hd hy;extract_lets s1 na s2 nb s3 out s4 mg s5 ac bc n1 J m1;have hs:dJ st bQ:=h.1;have g1:ec P out:=h.2.o;have g2:1<=na:=h.2.a;have g3:2<=nb:=h.2.b;have g4:na<=A':=h.2.c;have g5:nb<=B':=h.2.d;have g6:na+nb+(x+y)<=T:=h.2.e;have g7:n1=nb-1:=rfl;have HJ:∀m bQ,dJ st bQ->wpS (aC prog w) A E s (J () m) Qp bQ:=by
      clear h hs;clear_value n1 bc ac s5 mg s4 out s3 nb s2 na s1;intro m bQ hs;refine aK (yD hs λbQ hs=>?_);refine aK (iQ hb (Lo hB g3 g5) λp hp=>?_);refine aK (pX hP (dJ.kd hs hk) hp ha (FA g2) (RF hA g4) λk Qr=>?_);dsimp -zeta only;extract_lets kk ac1 J2;have KW:∀YV out,ec P out->1<=YV->YV<=na->wpS (aC prog w) A E s (J2 () YV out) Qp bQ:=by
       intro YV out h1 h2 h3;refine aK (iQ hb (RC hB g3 g5 g7) λp hp=>?_);refine dM (λU=>bh (hd _ _ _ _ _ _ _ _ hs (Gw.some (la (h1.push hp))))) λe=>?_;refine aK (iQ ha (by exact Rz (by assumption) hA g4 h2 h3) λp' Cy=>?_);refine aK (pX hP (dJ.kd hs hk) Cy hb (Rx g3 g7 e) (Rv hB g3 g5 g7) λk2 MX=>?_);dsimp -zeta only;extract_lets kk2 Pr n2 J3;have g8:n2=YV-1:=rfl;have HJ3:∀nb out,ec P out->2<=nb->nb<=n1->wpS (aC prog w) A E s (J3 () nb out) Qp bQ:=by clear_value n2 Pr kk2;intro nb out h4 h5 h6;refine aK (iQ ha (by exact Ru (by assumption) hA g4 h2 h3 g8) λp3 wU=>?_);refine dM (λU=>bh (hd _ _ _ _ _ _ _ _ hs (Gw.some (dn (h4.push wU))))) λe2=>?_;have k:Gy P A' B' T (x+(y+1)) ae (out.push p3) n2 nb:=⟨rfl,h4.push wU,by exact Rt g8 e2,h5,by exact Rq (by assumption) g4 h2 h3 g8,by exact Rp g3 g5 g7 h6,by exact Ro hT g3 g6 g7 h2 h3 g8 h6⟩;exact dw (λU=>bh (hd _ _ _ _ _ _ _ _ hs (k.wk Rn))) λU=>bh (hy _ _ _ _ _ _ _ hs k)
       clear_value J3;have h7:=(h1.push hp).app (hb.ext (i:=k2) (j:=n1)).rev;exact dw (λU=>dM (λU=>bh (hd _ _ _ _ _ _ _ _ hs (Gw.some (la h7)))) λe3=>dM (λU=>bh (hd _ _ _ _ _ _ _ _ hs (Gw.some (dn h7)))) λe4=>HJ3 _ _ h7 (Rm e3 e4) (by exact MX)) λU=>HJ3 _ _ (h1.push hp) (Rl g3 g7 e) (aO _)
      clear_value J2;have h7:=g1.app (ha.ext (i:=k) (j:=na)).rev;exact dw (λU=>dM (λU=>bh (hd _ _ _ _ _ _ _ _ hs (Gw.some (dn h7)))) λe=>KW _ _ h7 (Rk e) (by exact Qr)) λU=>KW _ _ g1 g2 (aO _)
     clear_value J;exact dw (λU=>HJ _ _ hs) λU=>HJ _ _ hs
end
section
variable {w:c0}{E:ax->av->Prop}{s:av}{n:Nat}
theorem p2 {α β:Type}{P:α×β->Prop}(h:∀a b,P (a,b))(x):P x:=h _ _
theorem p3 {α β:Type}{P:α×β×γ->Prop}(h:∀a b c,P (a,b,c))(x):P x:=h _ _ _
theorem Er (hP:n7 P){st:cQ}(W:WB P n st){xQ:Nat}(h:lo+xQ<=n)(h1:1<=xQ){Q:Option Nat->cQ->Prop}
  (q:∀k bQ,WB P n bQ->aY bQ=aY st->1<=k->k<=xQ->Q (aa k) bQ):wpS (aC prog w) A E s (countRun' lo xQ) Q st:=by
 rw[countRun'_eq];refine aK (ef (cO (I:=λy c bQ=>bQ=st/\c.1=ae/\c.2=y) (Q:=λc bQ=>bQ=st/\c.1=ae/\1<=c.2/\c.2<=xQ) ?s1 ?f1 ⟨rfl,rfl,rfl⟩) ?p1);case f1 =>
  intro c bQ h;exact⟨h.1,h.2.1,by rw[h.2.2];exact Sx h1,by rw[h.2.2];exact Sw h1⟩
 case s1 =>
  intro y c bQ h1 h2 h;extract_lets m;obtain⟨rfl,_,hm⟩:=h;have hm:m=y:=hm;refine aK (kh hP W (by exact Lq h h2 (by assumption)) (by exact Sv h h1 h2 (by assumption)) λb=>?_);exact dw (λU=>bh ⟨rfl,rfl,by dsimp only;exact Su h1 (by assumption),by dsimp only;exact Lp h2 (by assumption)⟩) λU=>bh ⟨rfl,rfl,by dsimp only;lia⟩
 case p1 =>
  refine p2 λr m bQ h=>?_;obtain⟨rfl,hr,OR,DI⟩:=h;dsimp only at hr OR DI;subst hr;refine dM (λU=>bh (q _ _ W rfl OR DI)) λpS=>?_;dsimp -zeta only;extract_lets m1 k1 J;replace pS:m≠xQ:=pS;have g1:m1=m+1:=rfl;have HJ:∀IM,WB P n IM->aY IM=aY bQ->wpS (aC prog w) A E s (J ()) Q IM:=by
   clear_value m1;intro IM W2 e2;refine aK (rK (kO ⟨rfl,?_⟩));refine aK (ef (cO (I:=λy c iU=>WB P n iU/\aY iU=aY bQ/\c.1=ae/\c.2.1=y) (Q:=λc iU=>WB P n iU/\aY iU=aY bQ/\c.1=ae/\1<=c.2.1/\c.2.1<=xQ) ?s2 ?f2 ⟨W2,e2,rfl,rfl⟩) ?p2);case f2 =>
    intro c iU h;exact⟨h.1,h.2.1,h.2.2.1,by rw[h.2.2.2];exact Ss h1 g1,by rw[h.2.2.2];exact Sr DI pS g1⟩
   case s2 =>
    intro y c iU h1 h2 h;refine(λH=>H _ (λm Qf iU a b c d=>⟨a,b,rfl,c,d⟩) (λm Qf iU a b c=>⟨a,b,rfl,c⟩):(∀Qp:ForInStep (Option (Option Nat)×Nat×Nat)->cQ->Prop,(∀m Qf iU,WB P n iU->aY iU=aY bQ->1<=m->m<=xQ->Qp (.done (ae,m,Qf)) iU)->(∀m Qf iU,WB P n iU->aY iU=aY bQ->m=y+1->Qp (.yield (ae,m,Qf)) iU)->wpS (aC prog w) A E s _ Qp iU)->_) ?_;intro Qp hd hy;extract_lets s1 m' Qf m2 J2 z0 J3;have W3:=h.1;have e3:=h.2.1;have hm:m'=y:=h.2.2.2;refine aK (kh hP W3 (by exact Lm (by assumption) h2 h) (by exact Ll (by assumption) g1 h1 h2 h) λb=>?_);dsimp -zeta only;have DI:m2=y+1:=congrArg (·+1) hm;have KW:∀z EZ,WB P n EZ->aY EZ=aY bQ->wpS (aC prog w) A E s (J2 () z) Qp EZ:=λz EZ W4 e4=>bh (hy _ _ _ W4 e4 DI);clear_value J2;refine dw (λU=>dw (λU=>aK (pV W3 λEZ W4 e4=>KW _ _ W4 (e4.trans e3))) λU=>KW _ _ W3 e3) λU=>?_;refine aK (kh hP W3 (by exact Ll (by assumption) g1 h1 h2 h) (by exact Lm (by assumption) h2 h) λb=>?_);exact dw (λU=>bh (hd _ _ _ W3 e3 (Sj g1 h1 h) (Sh h2 h))) λU=>KW _ _ W3 e3
   case p2 =>
    refine p3 λr y z iU h=>?_;obtain⟨W3,e3,hr,hy1,hy2⟩:=h;dsimp only at hr hy1 hy2;subst hr;dsimp -zeta only;extract_lets r' s' n' adk J4;dsimp -zeta only[r'];have HJ4:∀EZ,WB P n EZ->aY EZ=aY bQ->wpS (aC prog w) A E s (J4 ()) Q EZ:=by
     intro EZ W4 e4;refine aK (pV W4 λst5 W5 e5=>?_);refine aK (ef (cO (I:=λy c bQ=>bQ=st5/\c.1=ae/\c.2=y) (Q:=λc bQ=>bQ=st5/\c.1=ae/\1<=c.2/\c.2<=xQ) ?_ ?_ ⟨rfl,rfl,rfl⟩) ?_)
     .intro y c bQ h1 h2 h;extract_lets m;obtain⟨rfl,_,hm⟩:=h;have hm:m=y:=hm;have hn:n'=_:=rfl;refine aK (kh hP W5 (by exact Lq h h2 (by assumption)) (by exact Sb h hy1 h1 h2 (by assumption)) λb=>?_);exact dw (λU=>bh ⟨rfl,rfl,by dsimp only;exact Sa hy1 h1 (by assumption),by dsimp only;exact Lp h2 (by assumption)⟩) λU=>bh ⟨rfl,rfl,by dsimp only;lia⟩
     .intro c bQ h;exact⟨h.1,h.2.1,by rw[h.2.2];exact R7 h1 hy2,by rw[h.2.2];exact R5 hy2⟩
     .refine p2 λr m bQ h=>?_;obtain⟨rfl,hr,OR,DI⟩:=h;dsimp only at hr OR DI;subst hr;exact bh (q _ _ W5 (e5.trans e4) OR DI)
    clear_value J4;exact dw (λU=>aK (pV W3 λEZ W4 e4=>HJ4 _ W4 (e4.trans e3))) λU=>HJ4 _ W3 e3
  clear_value J;exact dw (λU=>aK (kh hP W (RY h h1) (RW h OR DI pS) λb=>dw (λU=>bh (q _ _ W rfl OR DI)) λU=>aK (pV W λIM W2 e2=>HJ _ W2 e2))) λU=>HJ _ W rfl
end
def PL:Nat->List (Nat×Nat×Nat)->Nat->Prop
 |lo,[],hi=>lo=hi
 |lo,(s,m,_)::r,hi=>s=lo/\1<=m/\PL (lo+m) r hi
theorem PL.le:∀ {l:List (Nat×Nat×Nat)} {lo hi:Nat},PL lo l hi->lo<=hi
 |[],_,_,h=>fR h
 |(_,_,_)::_,_,_,h=>by have:=h.2.2.le;exact Sp this
theorem PL.two:∀ {l:List (Nat×Nat×Nat)} {lo hi i:Nat} {x y:Nat×Nat×Nat},PL lo l hi->l[i]?=aa x->l[i+1]?=aa y->y.1=x.1+x.2.1/\1<=x.2.1/\1<=y.2.1/\y.1+y.2.1<=hi
 |[],_,_,_,_,_,_,e,_=>by simp at e
 |[_],_,_,i,_,_,_,_,e=>by simp at e
 |(s,m,w)::(s',m',w')::r,lo,hi,0,x,y,h,e1,e2=>by simp only[ah,ai,dY]at e1 e2;subst e1 e2;(refine o04 h λz1 h1 z2 h2 h3=>?_;try clear h;subst z1;subst z2);have:=h3.le;exact⟨rfl,h1,h2,this⟩
 |(s,m,w)::z::r,lo,hi,i+1,x,y,h,e1,e2=>by rw[ai]at e1 e2;exact h.2.2.two e1 e2
theorem PL.join:∀ {l:List (Nat×Nat×Nat)} {lo hi i:Nat} {x y:Nat×Nat×Nat},PL lo l hi->l[i]?=aa x->l[i+1]?=aa y->PL lo ((l.set i (x.1,x.2.1+y.2.1,x.2.2)).eraseIdx (i+1)) hi
 |[],_,_,_,_,_,_,e,_=>by simp at e
 |[_],_,_,i,_,_,_,_,e=>by simp at e
 |(s,m,w)::(s',m',w')::r,lo,hi,0,x,y,h,e1,e2=>by simp only[ah,ai,dY]at e1 e2;subst e1 e2;(refine o04 h λz1 h1 z2 h2 h3=>?_;try clear h;subst z1;subst z2);exact⟨rfl,by show 1<=m+m';exact Sk h1,by show PL (s+(m+m')) r hi;rw[<- Nat.add_assoc];exact h3⟩
 |(s,m,w)::z::r,lo,hi,i+1,x,y,h,e1,e2=>by rw[ai]at e1 e2;exact⟨h.1,h.2.1,h.2.2.join e1 e2⟩
theorem PL.push:∀ {l:List (Nat×Nat×Nat)} {lo hi k w:Nat},PL lo l hi->1<=k->PL lo (l++[(hi,k,w)]) (hi+k)
 |[],_,_,_,_,h,hk=>by cases h;exact⟨rfl,hk,rfl⟩
 |(_,_,_)::_,_,_,_,_,h,hk=>⟨h.1,h.2.1,h.2.2.push hk⟩
theorem PL.modify {f:Nat×Nat×Nat->Nat×Nat×Nat}(hf:∀x,(f x).1=x.1/\(f x).2.1=x.2.1):∀ {l:List (Nat×Nat×Nat)} {lo hi j:Nat},PL lo l hi->PL lo (l.modify j f) hi
 |[],_,_,0=>λh=>h
 |[],_,_,_+1=>λh=>h
 |(s,m,w)::r,lo,hi,0=>λh=>by obtain⟨a,b⟩:=hf (s,m,w);refine(?_:PL lo (f (s,m,w)::r) hi);generalize f (s,m,w)=z at a b;obtain⟨s',m',w'⟩:=z;dsimp only at a b;subst a b;exact h
 |(s,m,w)::r,lo,hi,j+1=>λh=>⟨h.1,h.2.1,h.2.2.modify hf⟩
section
variable {w:c0}{E:ax->av->Prop}{s:av}{n:Nat}
theorem zS (sa:Nat):∀(l:List (cM×Nat)) (a:Array cM),(∀x∈l,P x.1)->ec P a->ec P (l.foldl (λa x=>a.setIfInBounds (sa+x.2) x.1) a)/\(l.foldl (λa x=>a.setIfInBounds (sa+x.2) x.1) a).size=a.size
 |[]=>λa U h=>⟨h,rfl⟩
 |x::l=>λa hl h=>by
  have:=zS sa l (a.setIfInBounds (sa+x.2) x.1) (λy hy=>hl y (.tail _ hy)) λp hp=>by
   rcases Array.mem_or_eq_of_mem_setIfInBounds hp with q|q
   .exact h p q
   .rw[q];exact hl x (.head _)
  exact⟨this.1,this.2.trans (by simp)⟩
theorem Ip {σ:Type}{Q:PUnit->σ->Prop}{st bQ:σ}(h:Q ⟨⟩ bQ):wpS M A E s (set bQ:StateT σ Sem PUnit) Q st:=by unfold wpS;exact aW ⟨rfl,h⟩
theorem tN (hP:n7 P){st:cQ}(W:WB P n st){hi i:Nat}(hp:PL 0 (aY st).toList hi)(hn:hi<=n)(hi':i+1<(aY st).size){Q:Bool->cQ->Prop}
  (q:∀bQ,WB P n bQ->PL 0 (aY bQ).toList hi->Q af bQ):wpS (aC prog w) A E s (Ci i) Q st:=by
 unfold Ci;refine aK (kU ?_);obtain⟨x,ex⟩:∃x,(aY st)[i]?=aa x:=⟨_,getElem?_pos _ i (by exact zk hi')⟩;obtain⟨y,ey⟩:∃y,(aY st)[i+1]?=aa y:=⟨_,getElem?_pos _ (i+1) hi'⟩;have ex':(aY st).toList[i]?=aa x:=by rw[oC];exact ex
 have ey':(aY st).toList[i+1]?=aa y:=by rw[oC];exact ey
 have hj:=hp.join ex' ey';have ht:=hp.two ex' ey';obtain⟨sa,na,pw⟩:=x;obtain⟨sb,nb,pw'⟩:=y;dsimp only at hj ht;(refine o03 ht λz1 t1 t2 t3=>?_;try clear ht;subst z1);rw[ex,ey];have hj':PL 0 (((aY st).setIfInBounds i (sa,na+nb,pw)).eraseIdxIfInBounds (i+1)).toList hi:=by simpa using hj
 refine aK (Ip ?_);have W1:WB P n (DV (cw st) (sv st) (((aY st).setIfInBounds i (sa,na+nb,pw)).eraseIdxIfInBounds (i+1)) (gallopOf st) (wY st)):=⟨W.kind,W.size,W.all,W.failed⟩;have sz:=W.size;refine aK (d8 W.all (by show _<(sv st).size;exact R6 hn t2 t3 sz) λp Cy=>aK (tO hP W1.kind Cy W.all (R4 t1) (RZ hn t2 t3 sz) λk hk=>?_));refine dM (λU=>bh (q _ W1 hj')) λpS=>?_;refine aK (d8 W.all (by show _<(sv st).size;exact RU hn t1 t2 t3 sz pS) λp2 GP=>aK (tO hP W1.kind GP W.all (FA t2) (RN hn t3 sz) λk2 MX=>?_));refine dM (λU=>bh (q _ W1 hj')) λOQ=>?_;have fin:∀(out:Array cM) (bQ:cQ),ec P out->dJ (DV (cw st) (sv st) (((aY st).setIfInBounds i (sa,na+nb,pw)).eraseIdxIfInBounds (i+1)) (gallopOf st) (wY st)) bQ ->
   WB P n (setArr bQ (out.toList.zipIdx.foldl (λa x=>a.setIfInBounds (sa+k+x.2) x.1) (sv bQ))):=λout bQ ho hs=>by
  have:=zS (P:=P) (sa+k) out.toList.zipIdx (sv bQ) (λx hx=>ho _ (by simpa using List.fst_mem_of_mem_zipIdx hx)) (by rw[hs.2.1];exact W1.all);exact⟨hs.1.trans W1.kind,this.2.trans (by rw[hs.2.1];exact W1.size),this.1,hs.2.2.2.trans W1.failed⟩
 refine dw (λU=>aK (Eo hP W1.kind W.all.ext W.all.ext (by rw[lr];exact RJ hn t2 t3 sz pS) (by rw[lr];exact Lg hn t2 t3 sz OQ) λout bQ ho hs=>?_)) λU=>aK (Ep hP W1.kind W.all.ext W.all.ext (by rw[lr];exact RH hn t2 t3 sz pS OQ (by assumption)) (by rw[lr];exact Lg hn t2 t3 sz OQ) λout bQ ho hs=>?_);all_goals
  have W2:=fin out bQ ho hs;refine aK (gi (aK (kU (bh ?_))));have e:(wY (setArr bQ (out.toList.zipIdx.foldl (λa x=>a.setIfInBounds (sa+k+x.2) x.1) (sv bQ)))).isNone=af:=by rw[W2.failed];rfl
  have hq:=q _ W2 (by show PL 0 (aY bQ).toList hi;rw[hs.2.2.1];exact hj');rw[<- e]at hq;exact hq
end
section
variable {w:c0}{E:ax->av->Prop}{s:av}{n:Nat}
theorem CY (hP:n7 P){st:cQ}(W:WB P n st)(hp:aY st=#[]){Q:Unit->cQ->Prop}(q:∀bQ,WB P n bQ->Q () bQ):wpS (aC prog w) A E s sortRuns' Q st:=by
 rw[sortRuns'_eq];refine aK (kU ?_);dsimp only;rw[W.size];generalize minRun' n n 0=mr;refine aK (ef (cO (I:=λy c bQ=>WB P n bQ/\c.1=ae/\c.2<=n/\PL 0 (aY bQ).toList c.2) (Q:=λc bQ=>WB P n bQ/\c.1=ae/\c.2<=n/\PL 0 (aY bQ).toList c.2) ?s1 ?f1 ⟨W,rfl,bL _,by rw[hp];rfl⟩) ?p1);case f1=>exact λc bQ h=>h
 case s1 =>
  rintro y ⟨r,lo⟩ bQ _ _ ⟨W,e,Ed,hp⟩;dsimp only at e Ed hp ⊢;subst e;refine dw (λU=>bh ⟨W,rfl,Ed,hp⟩) λAm=>?_;refine aK (Er hP W (R9 Am) (R8 Am) λk IM W2 e2 Qt MX=>?_);have tail:∀(bQ:cQ) (k:Nat),WB P n bQ->PL 0 (aY bQ).toList lo->1<=k->lo+k<=n->WB P n (B1 bQ ((aY bQ).push (lo,k,0)))/\lo+k<=n/\PL 0 (aY (B1 bQ ((aY bQ).push (lo,k,0)))).toList (lo+k):=λbQ k W hp h1 h2 =>
   ⟨⟨W.kind,W.size,W.all,W.failed⟩,h2,by refine(?_:PL 0 ((aY bQ).push (lo,k,0)).toList (lo+k));rw[Array.toList_push];exact hp.push h1⟩
  have GP:PL 0 (aY IM).toList lo:=by rw[e2];exact hp
  refine dw (λU=>aK (rK (kO ⟨rfl,aK (Es hP W2 (Lk Qt MX) λst3 W3 e3=>?_)⟩))) λU=>?_
  .rw[if_neg (by decide)];have wU:PL 0 (aY st3).toList lo:=by rw[e3];exact GP
   have h1:1<=min (n-lo) mr:=by exact RO Am Qt MX (by assumption)
   have h2:lo+min (n-lo) mr<=n:=by exact Lk Qt MX
   generalize min (n-lo) mr=k' at h1 h2;refine aK (kU ?_);induction hb:(aY st3).back? with
   |none =>exact aK (gi (bh (let ⟨a,b,c⟩:=tail st3 k' W3 wU h1 h2;⟨a,rfl,b,c⟩)))
   |some x =>
    obtain⟨s1,n1,w1⟩:=x;refine aK (ef (cO (I:=λy c bQ=>WB P n bQ/\c=(ae,())/\PL 0 (aY bQ).toList lo) (Q:=λc bQ=>WB P n bQ/\c=(ae,())/\PL 0 (aY bQ).toList lo) ?_ (λc bQ h=>h) ⟨W3,rfl,wU⟩) ?_)
    .rintro y c bQ _ _ ⟨W,rfl,hp⟩;refine aK (kU ?_);by_cases hsz:(aY bQ).size>1
     .rw[if_pos hsz,getElem?_pos _ ((aY bQ).size-2) (by exact Lj hsz)];refine dw (λU=>bh ⟨W,rfl,hp⟩) λU=>?_;have key:wpS (aC prog w) A E s (Ci ((aY bQ).size-2)) (λb iE=>b=af/\WB P n iE/\PL 0 (aY iE).toList lo) bQ:=tN hP W hp Ed (Lh hsz) λiE a b=>⟨rfl,a,b⟩;refine aK (ef key λb iE h=>?_);(refine qR h λz1 a b=>?_;try clear h;subst z1);exact bh ⟨a,rfl,b⟩
     .rw[if_neg hsz];exact bh ⟨W,rfl,hp⟩
    .rintro c bQ ⟨W,rfl,hp⟩;have W':WB P n (B1 bQ ((aY bQ).modify ((aY bQ).size-1) λx=>(x.fst,x.2.fst,power' n (2*s1+n1) (2*s1+n1+n1+k') n))):=⟨W.kind,W.size,W.all,W.failed⟩;have Cy:PL 0 ((aY bQ).modify ((aY bQ).size-1) λx=>(x.fst,x.2.fst,power' n (2*s1+n1) (2*s1+n1+n1+k') n)).toList lo:=by rw[D3];refine PL.modify (λx=>?_) hp;exact⟨rfl,rfl⟩
     exact aK (gi (aK (gi (bh (let ⟨a,b,c⟩:=tail _ k' W' Cy h1 h2;⟨a,rfl,b,c⟩)))))
  .have h2:lo+k<=n:=by exact RI Qt MX
   refine aK (kU ?_);cases hb:(aY IM).back? with
   |none =>exact aK (gi (bh (let ⟨a,b,c⟩:=tail IM k W2 GP Qt h2;⟨a,rfl,b,c⟩)))
   |some x =>
    obtain⟨s1,n1,w1⟩:=x;refine aK (ef (cO (I:=λy c bQ=>WB P n bQ/\c=(ae,())/\PL 0 (aY bQ).toList lo) (Q:=λc bQ=>WB P n bQ/\c=(ae,())/\PL 0 (aY bQ).toList lo) ?_ (λc bQ h=>h) ⟨W2,rfl,GP⟩) ?_)
    .rintro y c bQ _ _ ⟨W,rfl,hp⟩;refine aK (kU ?_);by_cases hsz:(aY bQ).size>1
     .rw[if_pos hsz,getElem?_pos _ ((aY bQ).size-2) (by exact Lj hsz)];refine dw (λU=>bh ⟨W,rfl,hp⟩) λU=>?_;have key:wpS (aC prog w) A E s (Ci ((aY bQ).size-2)) (λb iE=>b=af/\WB P n iE/\PL 0 (aY iE).toList lo) bQ:=tN hP W hp Ed (Lh hsz) λiE a b=>⟨rfl,a,b⟩;refine aK (ef key λb iE h=>?_);(refine qR h λz1 a b=>?_;try clear h;subst z1);exact bh ⟨a,rfl,b⟩
     .rw[if_neg hsz];exact bh ⟨W,rfl,hp⟩
    .rintro c bQ ⟨W,rfl,hp⟩;have W':WB P n (B1 bQ ((aY bQ).modify ((aY bQ).size-1) λx=>(x.fst,x.2.fst,power' n (2*s1+n1) (2*s1+n1+n1+k) n))):=⟨W.kind,W.size,W.all,W.failed⟩;have Cy:PL 0 ((aY bQ).modify ((aY bQ).size-1) λx=>(x.fst,x.2.fst,power' n (2*s1+n1) (2*s1+n1+n1+k) n)).toList lo:=by rw[D3];refine PL.modify (λx=>?_) hp;exact⟨rfl,rfl⟩
     exact aK (gi (aK (gi (bh (let ⟨a,b,c⟩:=tail _ k W' Cy Qt h2;⟨a,rfl,b,c⟩)))))
 case p1 =>
  rintro⟨r,lo⟩ bQ ⟨W,e,Ed,hp⟩;dsimp only at e Ed hp ⊢;subst e;refine aK (ef (cO (I:=λy c bQ=>WB P n bQ/\c=(ae,())/\PL 0 (aY bQ).toList lo) (Q:=λc bQ=>WB P n bQ/\c=(ae,())) ?s2 ?f2 ⟨W,rfl,hp⟩) ?p2);case f2=>exact λc bQ h=>⟨h.1,h.2.1⟩
  case p2=>rintro c bQ ⟨W,rfl⟩;exact bh (q _ W)
  case s2 =>
   rintro y c bQ _ _ ⟨W,rfl,hp⟩;refine aK (kU ?_);refine dw (λU=>bh ⟨W,rfl⟩) λhsz=>?_;have key:∀i,i+1<(aY bQ).size->wpS (aC prog w) A E s (Ci i) (λb iE=>b=af/\WB P n iE/\PL 0 (aY iE).toList lo) bQ:=λi hi=>tN hP W hp Ed hi λiE a b=>⟨rfl,a,b⟩;refine aK (ef (key _ ?_) λb iE h=>?_)
   .have le:∀(c:Prop) [Decidable c] (a b:Nat),b<=a->(if c then b else a)<=a:=λc U a b h=>by by_cases e:c<;>simp[e,h]
    refine cm (Nat.add_le_add_right (le _ _ _ (RB hsz)) 1) (RA hsz)
   ·(refine qR h λz1 a b=>?_;try clear h;subst z1);exact bh ⟨a,rfl,b⟩
end
section
variable {w:c0}{E:ax->av->Prop}{s:av}
theorem uI {a:aJ}{vs:List ax}{ns:List Int}{n:Nat}{R:Fin->av->Prop}(ho:s.heap.get? a=aa (lG "list" vs.toArray n))
  (hI:IntsAre vs ns)(hl:vs.length<=100000)
  (h:∀(out:Array ax),(∀v∈out,v∈vs)->out.size=vs.length->R (.done (.ret .none)) {s with heap:=vy s.heap a vs out}) :
  aE (aC prog w) A (Builtin.«list.sort» ⟨[.ref a],[]⟩) R E s:=by
 rw[list_sort_plain];have ha:a<s.heap.objs.size:=bu ho;refine aq (listItems_at ho rfl ?_);refine aq (Ec ho rfl ?_ (by rw[b9,jG];exact Fz hl) (bL _));obtain⟨e1,ho1⟩:∃e1,(s.heap.update a (iC λU=>#[])).get? a=aa (lG "list" #[] e1):=⟨_,Ao ho (λU=>#[])⟩;refine aq (seqEpoch_at ho1 rfl ?_);refine aq (wpAny_newTuple ?_ (by show vs.length<=_;rw[jG];exact Fz hl));refine aq (wpAny_newList ?_ (bL _));refine bC ?_;have ho6:(((s.heap.update a (iC λU=>#[])).push (lG "tuple" vs.toArray 0)).push (lG "list" #[] 0)).get? a=aa (lG "list" #[] e1):=by rw[Heap.get?_push_ne _ _ _ (by rw[BZ,m3];exact dh (tG ha)),Heap.get?_push_ne _ _ _ (by rw[m3];exact dh ha)];exact ho1
 refine(?_:aE (aC prog w) A _ R E {s with heap:=((s.heap.update a (iC λU=>#[])).push (lG "tuple" vs.toArray 0)).push (lG "list" #[] 0)});dsimp only;have hsz:vs.toArray.size=vs.length:=by simp
 have hpz:(vs.toArray.zip vs.toArray).size=vs.length:=by simp
 have DH:∀p∈vs.toArray.zip vs.toArray,p.2∈vs:=λp hp=>by rw[List.zip_toArray]at hp;exact(vY (by simpa using hp):p.1∈vs/\p.2∈vs).2
 have fin:∀(xs:Array cM),xs.size=vs.length->(∀p∈xs,p.2∈vs)->R (.done (.ret .none)) {s with heap:=vy s.heap a vs (xs.map (·.2))}:=λxs hx hm =>
  h _ (λv hv=>by(refine dB (Array.mem_map.mp hv) λp hp z1=>?_;subst z1);exact hm p hp) (by rw[xl];exact hx)
 by_cases h2:vs.toArray.size<2
 .rw[if_pos h2,if_pos h2];refine aq (aW ?_);rw[StateT.run_pure];refine aq (aW ?_);dsimp only;refine aq (seqEpoch_at ho6 rfl ?_);refine aq (Ec ho6 rfl ?_ (bL _) (by rw[xl];show(vs.toArray.zip vs.toArray).size<=_;rw[hpz,jG];exact Rj hsz h2));simp only[bne_self_eq_false,cN,if_false];exact aW (fin _ hpz DH)
 .rw[if_neg h2,if_neg h2];obtain⟨oG,oF,rest,rfl⟩:∃oG oF rest,vs=oG::oF::rest:=by
   match vs,hsz,h2 with
   |[],_,h2=>simp at h2
   |[_],_,h2=>simp at h2
   |oG::oF::rest,_,_=>exact⟨oG,oF,rest,rfl⟩
  rw[keyKind_ints hI];refine aq (aW ?_);have hP:n7 (λp:cM=>(∃a t,p.1=.int a t)/\p.2∈oG::oF::rest):=λp ⟨⟨a,t,e⟩,_⟩=>⟨a,t,p.2,Prod.ext e rfl⟩;have hint:∀v∈oG::oF::rest,∃a t,v=.int a t:=hI.all;have W:WB (λp:cM=>(∃a t,p.1=.int a t)/\p.2∈oG::oF::rest) (oG::oF::rest).length (DV mG ((oG::oF::rest).toArray.zip (oG::oF::rest).toArray) #[] 7 ae) :=
   ⟨rfl,hpz,λp hp=>⟨hint _ (by have hp:p∈(oG::oF::rest).toArray.zip (oG::oF::rest).toArray:=hp;rw[List.zip_toArray]at hp;exact(vY (a:=p.1) (b:=p.2) (List.mem_toArray.mp hp):p.1∈oG::oF::rest/\p.2∈oG::oF::rest).1),DH p hp⟩,rfl⟩
  refine aq (bo (CY hP W rfl (Q:=λU bQ=>WB (λp:cM=>(∃a t,p.1=.int a t)/\p.2∈oG::oF::rest) (oG::oF::rest).length bQ) λbQ W'=>W') ?_ λU U e=>e);rintro⟨⟨⟩,bQ⟩ s' ⟨rfl,W'⟩;dsimp only;refine aq (seqEpoch_at ho6 rfl ?_);refine aq (Ec ho6 rfl ?_ (bL _) (by rw[xl];show(sv bQ).size<=_;rw[W'.size,jG];exact Ri hl));rw[W'.failed];simp only[bne_self_eq_false,cN,if_false];exact aW (fin _ W'.size λp hp=>(W'.all p hp).2)
end
theorem ints_of_all:∀ {vs:List ax},(∀v∈vs,∃a t,v=.int a t)->∃ns,IntsAre vs ns
 |[]=>λU=>⟨[],.nil⟩
 |v::l=>λh=>by(refine H0 (h _ (.head _)) λa t z1=>?_;subst z1);obtain⟨ns,hn⟩:=ints_of_all λv hv=>h v (.tail _ hv);exact⟨a::ns,.cons a t hn⟩
theorem sortedHeap_at {a:aJ}{vs:List ax}{out:Array ax}{n:Nat}(ho:h.get? a=aa (lG "list" vs.toArray n)) :
  h.objs.size<=(vy h a vs out).objs.size/\(∀b o,b≠a->h.get? b=aa o->(vy h a vs out).get? b=aa o)/\∃e,(vy h a vs out).get? a=aa (lG "list" out e):=by
 have ha:a<h.objs.size:=bu ho;have e1:=Ao ho (λU=>(#[]:Array ax));have e2:=br (lG "list" #[] 0) (br (lG "tuple" vs.toArray 0) e1);refine⟨?_,λb o hb e=>?_,_,Ao e2 λU=>out⟩
 .refine(?_:_<=(Heap.update _ _ _).objs.size);rw[m3,BZ,BZ,m3];exact er (jj _)
 .refine(kQ _ _ _ _ hb).trans (br _ (br _ ((kQ _ _ _ _ hb).trans e)))
section
variable {w:c0}{E:ax->av->Prop}{s:av}{T:String}{r d:aJ}{n:Nat}{P:Nat->ax->Prop}{Q:ax->av->Prop}
theorem y8 (K:KdlSrc prog w T r d n P OK)(hh:A.handled=ae)(GQ:OK s.heap)(hn:n<=100000)(hP:∀i v,P i v->∃a t,v=.int a t)
  (h:∀h' tk D out e,Ext s.heap h'->s.heap.objs.size<=D->h'.get? D=aa (lG "list" out e)->(∀v∈out,∃i,P i v)->out.size=n->Q (.ref D) {s with heap:=h',toks:=tk}) :
  aE (aC prog w) A (call (.builtin "sorted") [.ref r]) Q E s:=by
 refine call_function_entry kind_sorted plain_sorted entry_sorted (args_sorted1 _) ?_;unfold Builtin.«sorted»;refine aq (m:=checkCount "sorted" 1 1 _) (aW ?_);have hz:n<=fz:=by rw[jG];exact Fz hn
 refine aq (gO (kdu_collect (A:=A.in1) K hh GQ hz λh' tk acc hk Kb hsz=>?_));have hl:acc.toList.length=n:=by rw[Array.length_toList];exact Kb.1
 have hv:∀v∈acc.toList,∃i,P i v:=λv hv=>by obtain⟨i,hi,e⟩:=kf.mp hv;exact⟨i,Kb.2 i v (by rw[<- oC,bA hi,e])⟩
 obtain⟨ns,hI⟩:=ints_of_all λv q=>let ⟨i,p⟩:=hv v q;hP i v p
 refine aq (wpAny_newList ?_ (by rw[hl];exact hz));have hoL:(h'.push (lG "list" acc.toList.toArray 0)).get? h'.objs.size=aa (lG "list" acc.toList.toArray 0):=cE _ rfl;have hsz:s.heap.objs.size<=h'.objs.size:=hsz;refine aq (bC (yp slot_list_sort ⟨_,hoL,rfl⟩ entry_list_sort (uI hoL hI (by rw[hl];exact hn) λout h1 h2=>⟨_,rfl,?_⟩) (args_list_sort _)));obtain⟨z1,z2,e,z3⟩:=sortedHeap_at (out:=out) hoL;refine aW ⟨_,rfl,h _ tk _ out e ⟨aQ hsz (aQ (by rw[BZ];exact jj _) z1),λb o q=>z2 b o (dh (bu (hk b o q))) (br _ (hk b o q))⟩ hsz z3 (λv q=>hv v (h1 v q)) (h2.trans hl)⟩
end
theorem pI.forget  {X:List aJ}(t:pI Z ρ X h env vt vs ct cs)(h0:∀(j:Nat) v,k4[j]?=aa (aa v)->vs[j]?=aa (aa v)):pI Z ρ X h env vt k4 ct cs:={
 kind:=t.kind,globals:=t.globals,builtins:=t.builtins,own:=t.own
 ns:=let ⟨m,a,b,d⟩:=t.ns;⟨m,a,λi x v e1 e2=>b i x v e1 (h0 _ _ e2),d⟩
 cell:=λi x v e1 e2=>t.cell i x v e1 (h0 _ _ e2)
 cells:=t.cells,has:=t.has,inj:=t.inj}
theorem Fb {i:Nat}(h:k4.set i ae=vs.set i ae)(j:Nat)(v:V)(e:(vs.set i ae)[j]?=aa (aa v)):k4[j]?=aa (aa v):=by
 rw[<- h]at e;rcases ub e with⟨_,q⟩|⟨_,q⟩
 .exact oSN q
 .exact q
theorem wF {K:Type}{ρ:List Pl}{X:List aJ}{h:bV}:∀ {l:List (K×V)} {lI:List (K×ax)},fq ρ X h l lI->lI.length=l.length/\∀(i:Nat) k x,lI[i]?=Option.some (k,x)->∃v,(k,v)∈l
 |[],_,r=>by subst r;exact⟨rfl,λU U U e=>by simp at e⟩
 |(k,v)::l,_,r=>by
  obtain⟨w,r',rfl,_,b⟩:=r;obtain⟨h1,h2⟩:=wF b;refine⟨by simp[h1],λi k' x e=>?_⟩;induction i using Nat.casesOn with
  |zero=>simp only[ah,dY,Prod.mk.injEq]at e;exact⟨v,by rw[<- e.1];exact .head _⟩
  |succ i=>obtain⟨u,hu⟩:=h2 i k' x e;exact⟨u,.tail _ hu⟩
theorem sC {b:Int->Bool}:∀ {l:List (Int×V)} {k:Int} {v:V},ox b l=af->(k,v)∈l->b k=af
 |(k',v')::l,k,v,h,m=>by
  have h:=bG.1 (h:(b k'&&ox b l)=af);cases m with
  |head=>exact h.1
  |tail _ m=>exact sC h.2 m
theorem ints_list {ρ:List Pl}{X:List aJ}{h:bV}{P:Int->Prop}:∀ {ws:List ax},(∀w∈ws,∃k t,w=.int k t/\P k)->∃ks:List Int,bt ρ X h (ks.map .int) ws/\∀k∈ks,P k
 |[]=>λU=>⟨[],.nil,λU q=>nomatch q⟩
 |w::ws=>λhw=>by(refine Ea (hw _ (.head _)) λk t z1 p=>?_;subst z1);obtain⟨ks,r,q⟩:=ints_list (P:=P) λw m=>hw w (.tail _ m);exact⟨k::ks,.cons mU r,λk' m=>by cases m with|head=>exact p|tail _ m=>exact q k' m⟩
theorem wL {G:List V}{Φ:Nat->List V->bp->R V}{W i:Nat}{cX:X}{y:X}{σ:bp}{vs:Vs}:∀(ks:List Int) (P7:Vs),(∀k∈ks,ev G Φ (vs.set i (aa (.int k))) cX [] σ=.ok (.bool ag) σ)->(∀x,P7.set i x=vs.set i x) ->
  ∃k4,ja (.n i) (λvs σ=>l5 G Φ W [.ite cX [.ret y] []] vs σ) (ks.map .int) P7 σ=.ok (.nx,k4) σ/\∀x,k4.set i x=vs.set i x
 |[]=>λP7 U h0=>⟨P7,rfl,h0⟩
 |k::ks=>λP7 hk h0=>by
  obtain⟨k4,e,q⟩:=wL ks (vs.set i (aa (.int k))) (λk' m=>hk k' (.tail _ m)) λx=>by rw[List.set_set]
  refine⟨k4,?_,q⟩;refine(?_:(R.bind (R.bind ((ev G Φ (P7.set i (aa (.int k))) cX [] σ).bind _) _) _)=_);rw[h0,hk k (.head _)];exact e
theorem Ok.wv {c:Cx}(D:Ok c mg mb)(vs:Vs):Ok (c.wv vs) mg mb:=⟨D.z,D.k,D.zR,D.hh,D.fr,D.un,D.call,D.mkc,D.mki,D.kp,D.ini⟩
section
variable {c:Cx}{W:Nat}
theorem IQ (D:Ok c mg mb)(N:bW c){i:Nat}{d cX y:X}{ed:b8}(hd:∀vs,SX (c.wv vs) d ed)(sP:noStar ed=af)(hks:c.env.kindOf (st "sorted")=aa .globalImplicit)
  (hi:c.vt[i]?=aa nm)(hk:c.env.kindOf nm=aa .local\/c.env.kindOf nm=aa .cell)(hb:∀X',DW (c.wx X') W [.ite cX [.ret y] []] eb)
  (hs:∀v,iG (.Call (.Name (st "sorted") np) [ed] [] DN) c.env v=pure v) :
  SS c W (.x9 i d cX) (.For (.Name nm p) (.Call (.Name (st "sorted") np) [ed] [] DN) eb [] pos):=λvs ρ σ s t₀=>by
 have run:=k7 (hd vs) sP DN t₀;rw[show(c.wv vs).cs=[]from N.cs]at run;refine cG.w (cG.rd (W2:=λws ay Q E=>aE (aC c.Z.prog c.Z.w) c.A (call (.builtin "sorted") ws) (λx bH=>aE (aC c.Z.prog c.Z.w) c.A (pP x) (λit fU=>gX (aC c.Z.prog c.Z.w) c.A (.forLoop (.Name nm p) it eb [] c.env) (λr s'=>match r with|.ok f=>Q f s'|.error e=>mK (aC c.Z.prog c.Z.w) c.A c.env E e s') fU) E bH) E ay) t₀ run λv bj ws aH ay eU bY bT=>?_)
  λQ E q=>wpAny_For (tx (c:=c.wv vs) (D.wv vs) (mg:=mg) (mb:=mb) (by simp[gS]) hks (by decide) (.cons (hd vs) sP .nil) t₀ q) hs
 (refine dB bT λw z1 rv=>?_;try clear bT;subst z1);refine cG.loc λn e=>?_
 .refine cG.dic λl hl=>?_
  .refine cG.ite λhc=>?_
   .subst e;simp only[bx,decide_eq_true_eq]at hc;obtain⟨⟨hpx,hlen⟩,ZP⟩:=hc;have bP:=eU.rel;(refine dB rv λpl Cw z1=>?_;try clear rv;subst z1);obtain⟨_,lI,hdo,hpr⟩:=bP.obj n pl _ Cw hl;obtain⟨ep,hda⟩:=hdo.dictAt;obtain⟨ZE,hkm⟩:=wF hpr;have acC:∀k:Int,(∃v,(k,v)∈l)->ev G c.Φ (vs.set i (aa (.int k))) cX [] bj=.ok (.bool ag) bj:=λk ⟨v,m⟩=>by
     have h1:=sC ZP m;rcases zU (Φ:=c.Φ) (vs:=vs.set i (aa (.int k))) (cs:=[]) (σ:=bj) hpx with⟨u,e⟩|e
     .rw[e]at h1 ⊢;dsimp only[R.val]at h1;induction u using V.casesOn with
      |bool b=>induction b with
       |true=>exact jH h1
       |false=>rfl
      |_=>exact jH h1
     .rw[e]at h1;exact jH h1
    refine λQ E q=>y8 (kdl_dict (bP.AZ D.z (aN Cw))) D.hh hda (by rw[ZE];exact dj hlen) (λi v ⟨k,x,_,e⟩=>?_) λh' tk Dd out e' x1 Am hat DH hsz=>?_
    .obtain⟨t,e⟩:=Value.isInt_shape e;exact⟨k,t,e⟩
    .obtain⟨ks,rk,acB⟩:=ints_list (ρ:=aH) (X:=c.X) (h:=h') (P:=λk=>∃v,(k,v)∈l) (ws:=out.toList) λw hw=>by refine o31 (DH w (by simpa using hw)) λi k x e e2=>?_;obtain⟨t,e3⟩:=Value.isInt_shape e2;exact⟨k,t,e3,hkm i k x e⟩
     have R2:=bP.ext x1;have g2:Go [] aH ay aH {ay with heap:=h',toks:=tk}:=Go.ext x1;have t2:St (c.wv vs) aH bj h':=eU.go g2 R2;have rD:bz aH c.X h' (.lst (ks.map .int)) (.ref Dd):=by exact bB Dd ⟨out.toList,rfl,λp hp q=>absurd (bP.lt hp q) (bO.mpr Am),λq=>absurd (bP.vF _ q) (bO.mpr Am),⟨_,by rw[CV];exact hat⟩,rk⟩
     refine uJ (c:=c) (s:={ay with heap:=h',toks:=tk}) R2 rD rfl λit own Ib g3 R3 I fr=>?_;have N':bW (c.wx (own++c.X)):=⟨N.nodup,N.ct,N.cs,N.frame,N.top,N.cells⟩;have yW:St ((c.wx (own++c.X)).wv vs) aH bj Ib:=St.goX (c:=c.wv vs) (s:={ay with heap:=h',toks:=tk}) (s':={ay with heap:=Ib,toks:=tk}) t2 g3 R3 (λb q=>aU _ q) λb q=>(bg.mp q).elim (λz=>.inr (fr b z)) .inl;have JZ:∀x∈own,x∉iF (c.wx (own++c.X)):=λx hx q=>by have:x∈c.X:=ur N N.cells t₀ x q;exact absurd (R2.vF x this) (bO.mpr (fr x hx))
     refine dB (wL (G:=G) (Φ:=c.Φ) (W:=W) (i:=i) (cX:=cX) (y:=y) (σ:=bj) (vs:=vs) ks vs (λk m=>acC k (acB k m)) λU=>rfl) λk4 he hf=>?_;have hT:∀ρ h a b,TS (c.wx (own++c.X)) ρ h a b->TS c ρ h a b:=λρ h a b q=>by refine⟨pI.less q.1 (λb hb=>aU _ hb) t₀.fr.own λy a e=>(t₀.fr.cells y a e).1,da.back t₀.oq q.2.1,?_⟩;obtain⟨fl,k4⟩:=a;have q3:=q.2.2;induction fl<;>induction b using PySem.Flow.casesOn<;>first|exact q3|exact bz.less q3 λb hb=>aU _ hb
     have lp:=rn (c:=c.wx (own++c.X)) (s:={ay with heap:=Ib,toks:=tk}) D.hh D.fr N' (rU (c:=c.wx (own++c.X)) (t:=.n i) (l:=ks.map .int)) (hb _) (BR (p:=p) N' hi hk) rfl (λz_=>by obtain⟨_,e⟩:=z_;exact nomatch e) (λx hx=>bS _ hx) JZ (n:=(ks.map V.int).length) yW I;simp only[Nat.add_zero,if_true,yi]at lp;rw[show ja (.n i) (λvs σ=>l5 G (c.wx (own++c.X)).Φ W [.ite cX [.ret y] []] vs σ) (ks.map .int) vs bj=.ok (.nx,k4) bj from he]at lp;have lp:=z6.less (c:=c) lp t₀.oq hT;refine lp Q E λf bJ s' g R' t'=>q f bJ s' (Go.qy (own:=own) ((g2.any.trans (ay:={ay with heap:=h',toks:=tk}) g3.any).trans g) λb m=>aQ x1.1 (fr b m)) R' ?_;exact⟨pI.forget t'.1 λj v e=>Fb (hf ae) j v e,t'.2⟩
end
structure Sc where
 sc:xg
 vt:List Str
 ct:List Str
structure hR (K:Sc)(c:Cx):Prop where
 scope:c.env.scope=K.sc
 vt:c.vt=K.vt
 ct:c.ct=K.ct
 fa:∀(f:Nat) x,rz[f]?=aa x->∃a,c.Z.fa[f]?=aa a
noncomputable def dbg (x:Str):Bool:=x==("__debug__" : Str)
noncomputable def sO (K:Sc)(x:Str)(k:fZ):Bool:=decide (K.sc.names.lookup x=aa k)
section
variable {K:Sc}{c:Cx}{x:Str}{k:fZ}{i:Nat}
theorem fM (h:hR K c)(e:sO K x k=af):c.env.kindOf x=aa k:=by have:=of_decide_eq_true e;unfold Env.kindOf;rw[h.scope];exact this
theorem hR.va (h:hR K c)(e:K.vt[i]?=aa x):c.vt[i]?=aa x:=h.vt▸e
theorem hR.ca (h:hR K c)(e:K.ct[i]?=aa x):c.ct[i]?=aa x:=h.ct▸e
theorem hR.cn (h:hR K c)(e:x∉K.ct):x∉c.ct:=h.ct▸e
theorem hR.wv (C:hR K c)(vs:Vs):hR K (c.wv vs):=⟨C.scope,C.vt,C.ct,C.fa⟩
theorem hR.wx (C:hR K c)(X:List aJ):hR K (c.wx X):=⟨C.scope,C.vt,C.ct,C.fa⟩
theorem bW.wx (N:bW c)(X:List aJ):bW (c.wx X):=⟨N.nodup,N.ct,N.cs,N.frame,N.top,N.cells⟩
end
noncomputable def yb (K:Sc)(scope:xg)(x:Str):Bool :=
 decide (scope.kind=.function)&&scope.names.all (λy=>decide (y.2≠.cell))&&scope.names.all (λy=>decide (y.2=.local->scope.names.lookup y.1=aa .local))&&decide (scope.names.lookup x=aa .local) &&
 scope.names.all (λy=>decide (y.2=.free->K.sc.names.lookup y.1=aa .cell))&&K.vt.all (λy=>decide ((zi K.sc scope.names).lookup y=aa .local->y=x))
theorem w7 {K:Sc}{c:Cx}{x:Str}(h:hR K c)(e:yb K scope x=af):pL c scope x:=by
 simp only[yb,bx,bI,decide_eq_true_eq]at e;obtain⟨⟨⟨⟨⟨e1,e2⟩,e3⟩,e4⟩,e5⟩,e6⟩:=e;refine⟨e1,e2,e3,e4,λn hn=>?_,λy hy hv=>?_⟩
 .unfold Env.kindOf;rw[h.scope];exact e5 _ hn rfl
 .rw[h.scope]at hy;rw[h.vt]at hv;exact au.mpr (e6 y hv hy)
noncomputable def Sc.inner (K:Sc)(scope:xg)(x:Str):Sc:=⟨{scope with names:=zi K.sc scope.names},K.vt,[x]⟩
theorem lO {K:Sc}{c:Cx}{x:Str}(h:hR K c)(C:aJ)(X:List aJ)(cs:List V):hR (K.inner scope x) (d7 c scope x C X cs):=by refine⟨?_,h.vt,rfl,h.fa⟩;refine(?_:relabel scope c.env={scope with names:=zi K.sc scope.names});rw[<- h.scope];rfl
def gd (b:Bool)(e:b8):Bool:=!b||byValue e
noncomputable def Ga:X->Bool
 |.nz _=>ag
 |.pA _=>ag
 |_=>af
def A0 (e:X):Bool:=!(eF e.ix 34)
noncomputable def xR (e:b8):Bool:=!(eF e.ctorIdx 7)
def PX (b:Bool)(c:Cx)(x:X)(e:b8):Prop:=(b=ag->SX c x e)/\(b=af->SB c x e)
theorem Z5 {b:Bool}{c:Cx}{x:X}(h:SX c x e)(g:gd b e=af):PX b c x e:=⟨λU=>h,λhb=>Q4 h (uL (by subst hb;exact g))⟩
theorem e8.mono {P Q:X->b8->Prop}(h:∀x e,P x e->Q x e){l:List X}(a:e8 P l es):e8 Q l es:=by
 induction a with
 |nil=>exact .nil
 |cons p q _ ih=>exact .cons (h _ _ p) q ih
theorem e8.sx {c:Cx}{l:List X}(a:e8 (PX ag c) l es):e8 (SX c) l es:=a.mono λU U p=>p.1 rfl
theorem e8.sb {c:Cx}{l:List X}(a:e8 (PX af c) l es):e8 (SB c) l es:=a.mono λU U p=>p.2 rfl
theorem wR {x:X}(h:Ga x=af):jJ x=iW:=by induction x using X.casesOn<;>first|rfl|exact jH h
theorem Df (t:Nat):(st (t8 t),xf (t8 t))∈gS:=by
 unfold t8
 split
 .simp[gS]
 .split<;>simp[gS]
theorem ry  (h:xR e=af)(v:ax):iG e env v=pure v:=by induction e using PySem.Expr.casesOn<;>first|rfl|exact jH h
theorem ne_nil {α:Type}{l:List α}(h:(!l.isEmpty)=af):l≠[]:=λe=>by subst e;exact jH h
theorem uV {x:Str}(h:(!dbg x)=af):(x==("__debug__" : Str))=ag:=by simpa[dbg]using h
inductive dz (p:Prop):Type where
 |yes (h:p)
 |no
section
variable {p q r:Prop}
noncomputable def dz.b:dz p->(p->dz q)->dz q
 |.yes h,f=>f h
 |.no,_=>.no
noncomputable def dz.m (a:dz p)(f:p->q):dz q:=a.b λh=>.yes (f h)
noncomputable def dz.m2 (a:dz p)(b:dz q)(f:p->q->r):dz r:=a.b λh=>b.m (f h)
noncomputable def dz.o:dz p->dz p->dz p
 |.yes h,_=>.yes h
 |.no,c=>c
noncomputable def dz.y:dz p->Bool
 |.yes _=>af
 |.no=>ag
theorem dz.get:(a:dz p)->a.y=af->p
 |.yes h,_=>h
noncomputable def ck:(b:Bool)->dz (b=af)
 |true=>.yes rfl
 |false=>.no
noncomputable def cd (p:Prop)[Decidable p]:dz p:=if h:p then .yes h else .no
noncomputable def pY {α:Type}[DecidableEq α]{q:α->Prop}(b:α)(a:α)(f:dz (q b)):dz (q a):=if h:b=a then h▸f else .no
noncomputable def xu {α:Type}{q:List α->Prop}(l:List α)(f:∀a,dz (q [a])):dz (q l):=match l with
 |[a]=>f a
 |_=>.no
noncomputable def Iu {α:Type}{q:List α->Prop}(l:List α)(f:∀a b,dz (q [a,b])):dz (q l):=match l with
 |[a,b]=>f a b
 |_=>.no
noncomputable def qZ {α:Type}{q:List α->Prop}(l:List α)(f:dz (q [])):dz (q l):=match l with
 |[]=>f
 |_=>.no
noncomputable def yH {α:Type}{q:Option α->Prop}(l:Option α)(f:∀a,dz (q (aa a))):dz (q l):=match l with
 |some a=>f a
 |none=>.no
end
section
variable {q:b8->Prop}
noncomputable def jW (e:b8)(f:∀x p,dz (q (.Name x p))):dz (q e):=if h:e.ctorIdx=23 then Expr.Name.elim (motive_1:=λe=>dz (q e)) e h f else .no
noncomputable def AD (e:b8)(f:∀x k p,dz (q (.Constant x k p))):dz (q e):=if h:e.ctorIdx=19 then Expr.Constant.elim (motive_1:=λe=>dz (q e)) e h f else .no
noncomputable def EC (e:b8)(f:∀x k p,dz (q (.Tuple x k p))):dz (q e):=if h:e.ctorIdx=25 then Expr.Tuple.elim (motive_1:=λe=>dz (q e)) e h f else .no
noncomputable def aaK (e:b8)(f:∀x p,dz (q (.List x p))):dz (q e):=if h:e.ctorIdx=24 then Expr.List.elim (motive_1:=λe=>dz (q e)) e h f else .no
noncomputable def K5 (e:b8)(f:∀k x p,dz (q (.Dict k x p))):dz (q e):=if h:e.ctorIdx=6 then Expr.Dict.elim (motive_1:=λe=>dz (q e)) e h f else .no
noncomputable def aaN (e:b8)(f:∀a o b p,dz (q (.BinOp a o b p))):dz (q e):=if h:e.ctorIdx=2 then Expr.BinOp.elim (motive_1:=λe=>dz (q e)) e h f else .no
noncomputable def wUn (e:b8)(f:∀o a p,dz (q (.UnaryOp o a p))):dz (q e):=if h:e.ctorIdx=3 then Expr.UnaryOp.elim (motive_1:=λe=>dz (q e)) e h f else .no
noncomputable def aaM (e:b8)(f:∀a o b p,dz (q (.Compare a o b p))):dz (q e):=if h:e.ctorIdx=15 then Expr.Compare.elim (motive_1:=λe=>dz (q e)) e h f else .no
noncomputable def K7 (e:b8)(f:∀o l p,dz (q (.BoolOp o l p))):dz (q e):=if h:e.ctorIdx=0 then Expr.BoolOp.elim (motive_1:=λe=>dz (q e)) e h f else .no
noncomputable def wIf (e:b8)(f:∀a b c p,dz (q (.IfExp a b c p))):dz (q e):=if h:e.ctorIdx=5 then Expr.IfExp.elim (motive_1:=λe=>dz (q e)) e h f else .no
noncomputable def ED (e:b8)(f:∀a b p,dz (q (.Subscript a b p))):dz (q e):=if h:e.ctorIdx=21 then Expr.Subscript.elim (motive_1:=λe=>dz (q e)) e h f else .no
noncomputable def wSl (e:b8)(f:∀a b c p,dz (q (.Slice a b c p))):dz (q e):=if h:e.ctorIdx=26 then Expr.Slice.elim (motive_1:=λe=>dz (q e)) e h f else .no
noncomputable def yI (e:b8)(f:∀a n p,dz (q (.Attribute a n p))):dz (q e):=if h:e.ctorIdx=20 then Expr.Attribute.elim (motive_1:=λe=>dz (q e)) e h f else .no
noncomputable def QL (e:b8)(f:∀g l k p,dz (q (.Call g l k p))):dz (q e):=if h:e.ctorIdx=16 then Expr.Call.elim (motive_1:=λe=>dz (q e)) e h f else .no
noncomputable def wLc (e:b8)(f:∀a g s p,dz (q (.ListComp a g s p))):dz (q e):=if h:e.ctorIdx=8 then Expr.ListComp.elim (motive_1:=λe=>dz (q e)) e h f else .no
noncomputable def wd (e:b8)(f:∀n p l r,dz (q (.Call (.Name n p) l [] r))):dz (q e):=QL e λg l k r=>qZ (q:=λk=>q (.Call g l k r)) k (jW (q:=λg=>q (.Call g l [] r)) g λn p=>f n p l r)
noncomputable def Nt (n:Str)(e:b8)(f:∀p a r,dz (q (.Call (.Name n p) [a] [] r))):dz (q e):=wd e λm p l r=>pY (q:=λm=>q (.Call (.Name m p) l [] r)) n m (xu (q:=λl=>q (.Call (.Name n p) l [] r)) l λa=>f p a r)
def Nr (n:Str)(e:b8)(f:∀o p l r,(p.endLine==r.line)=af->gb o=af->dz (q (.Call (.Attribute o n p) l [] r))):dz (q e) :=
 QL e λg l k r=>qZ (q:=λk=>q (.Call g l k r)) k (yI (q:=λg=>q (.Call g l [] r)) g λo m p=>pY (q:=λm=>q (.Call (.Attribute o m p) l [] r)) n m ((ck (p.endLine==r.line)).b λh1=>(ck (gb o)).b λh2=>f o p l r h1 h2))
def P6 (n:Str)(e:b8)(f:∀o p a r,(p.endLine==r.line)=af->gb o=af->noStar a=af->dz (q (.Call (.Attribute o n p) [a] [] r))):dz (q e) :=
 Nr n e λo p l r h h'=>xu (q:=λl=>q (.Call (.Attribute o n p) l [] r)) l λa=>(ck (noStar a)).b (f o p a r h h')
noncomputable def aaL {q:El->Prop}(g:El)(f:∀x px iter ifs,dz (q ⟨.Name x px,iter,ifs,0⟩)):dz (q g):=match g with
 |⟨t,iter,ifs,a⟩=>pY (q:=λa=>q ⟨t,iter,ifs,a⟩) 0 a (jW (q:=λt=>q ⟨t,iter,ifs,0⟩) t λx px=>f x px iter ifs)
noncomputable def K6 (e:b8)(f:∀elt x px iter ifs s p,dz (q (.ListComp elt [⟨.Name x px,iter,ifs,0⟩] s p))):dz (q e) :=
 wLc e λelt g s p=>xu (q:=λg=>q (.ListComp elt g s p)) g λg=>aaL (q:=λg=>q (.ListComp elt [g] s p)) g λx px iter ifs=>f elt x px iter ifs s p
end
noncomputable def MM:(ks:List Int)->(es:List (Option b8))->dz (rH .int ks es)
 |[],es=>qZ es (.yes .nil)
 |k::ks,aa (.Constant (.int j) _ _)::es=>pY (q:=λj=>rH .int (k::ks) (aa (.Constant (.int j) _ _)::es)) k j ((MM ks es).m λh=>.cons h)
 |_,_=>.no
noncomputable def ML:(ks:List Str)->(es:List (Option b8))->dz (rH .str ks es)
 |[],es=>qZ es (.yes .nil)
 |k::ks,aa (.Constant (.str j) _ _)::es=>pY (q:=λj=>rH .str (k::ks) (aa (.Constant (.str j) _ _)::es)) k j ((ML ks es).m λh=>.cons h)
 |_,_=>.no
noncomputable def cK (v:V)(k:Const):dz (∀(c:Cx) n p,SX c (.k v) (.Constant k n p)):=match v,k with
 |.none,.none=>.yes λU U U=>ID
 |.bool a,.bool b=>pY (q:=λb=>∀(c:Cx) n p,SX c (.k (.bool a)) (.Constant (.bool b) n p)) a b (.yes λU U U=>BS)
 |.int a,.int b=>pY (q:=λb=>∀(c:Cx) n p,SX c (.k (.int a)) (.Constant (.int b) n p)) a b (.yes λU U U=>NN)
 |.str a,.str b=>pY (q:=λb=>∀(c:Cx) n p,SX c (.k (.str a)) (.Constant (.str b) n p)) a b (.yes λU U U=>NC)
 |_,_=>.no
section
variable (mg mb:Str->Option ax)
def PK (K:Sc)(b:Bool)(x:X)(e:b8):Prop:=∀c,Ok c mg mb->hR K c->PX b c x e
def PKs (K:Sc)(b:Bool)(l:List X)(es:List b8):Prop:=∀c,Ok c mg mb->hR K c->e8 (PX b c) l es
def PI (K:Sc)(x:X)(e:b8):Prop:=∀c,Ok c mg mb->hR K c->sW c x e
def gk {K:Sc}{b:Bool}{x:X}(a:dz (PK mg mb K ag x e)):dz (PK mg mb K b x e):=(ck (gd b e)).m2 a λg h c D C=>Z5 ((h c D C).1 rfl) g
end
section
theorem PK.n {K:Sc}{x:X}(h:∀c,Ok c mg mb->hR K c->SX c x e):PK mg mb K ag x e:=λc D C=>⟨λU=>h c D C,λe=>by exact jH e⟩
mutual
def cX (K:Sc)(b:Bool):(x:X)->(e:b8)->dz (PK mg mb K b x e)
 |.k v,e=>gk _ _ (AD e λk n p=>(cK v k).m λh=>.n λc U U=>h c n p)
 |.v i,e=>gk _ _ (jW e λx p=>(cd (K.vt[i]?=aa x)).b λh1=>(ck (!dbg x)).b λh2 =>
   ((cd (x∉K.ct)).m2 (ck (sO K x .local)) λh3 h4=>.n λc U C=>ES (C.va h1) (C.cn h3) (fM C h4) (uV h2)).o
   ((ck (sO K x .cell)).m λh4=>.n λc U C=>II (C.va h1) (fM C h4) (uV h2)))
 |.c i,e=>gk _ _ (jW e λx p=>(cd (K.ct[i]?=aa x)).b λh1=>(ck (!dbg x)).m2 (ck (sO K x .local)) λh2 h3=>.n λc U C=>IH (C.ca h1) (fM C h3) (uV h2))
 |.g i,e=>gk _ _ (jW e λx p=>(cd (x8[i]?=aa x)).b λh1=>(ck (!dbg x)).m2 (ck (sO K x .globalImplicit)) λh2 h3=>.n λc D C=>Dj D.zR h1 (fM C h3) (uV h2))
 |.tup l,e=>gk _ _ (EC e λes n p=>(cL K ag l es).m λh=>.n λc D C=>NA (h c D C).sx)
 |.lst m l,e=>gk _ _ (aaK e λes p=>(cL K ag l es).m λh=>.n λc D C=>NJ (h c D C).sx)
 |.zW ks l,e=>gk _ _ (K5 e λk es p=>(MM ks k).b λh1=>(cd (es.length=ks.length)).b λh3=>(cd (ks.length<=15)).m2 (cL K ag l es) λh4 h2=>.n λc D C=>IG h1 (h2 c D C).sx h3 h4)
 |.sT ks l,e=>gk _ _ (K5 e λk es p=>(ML ks k).b λh1=>(cd (es.length=ks.length)).b λh3=>(cd (ks.length<=15)).m2 (cL K ag l es) λh4 h2=>.n λc D C=>IF h1 (h2 c D C).sx h3 h4)
 |.bin o m x y,e=>gk _ _ (aaN e λa op b' p=>pY (q:=λop=>PK mg mb K ag (.bin o m x y) (.BinOp a op b' p)) (Qc o) op ((cX K ag x a).m2 (cX K ag y b') λh1 h2=>.n λc D C=>NQ ((h1 c D C).1 rfl) ((h2 c D C).1 rfl)))
 |.neg x,e=>gk _ _ (wUn e λop a p=>pY (q:=λop=>PK mg mb K ag (.neg x) (.UnaryOp op a p)) .USub op ((cX K ag x a).m λh=>.n λc D C=>NI ((h c D C).1 rfl)))
 |.cmp x o l,e=>aaM e λa ops es p=>pY (q:=λops=>PK mg mb K b (.cmp x o l) (.Compare a ops es p)) (o.map Ag) ops ((cd (o.length=l.length)).b λh2=>(cX K ag x a).m2 (cL K ag l es) λh1 h c D C=>⟨λU=>NP D ((h1 c D C).1 rfl) (h c D C).sx h2,λU=>N9 D ((h1 c D C).1 rfl) (h c D C).sx h2⟩)
 |.and l,e=>K7 e λop es p=>pY (q:=λop=>PK mg mb K b (.and l) (.BoolOp op es p)) .And op ((ck (!l.isEmpty)).m2 (cL K b l es) λh2 h c D C=>⟨λe=>NT (e8.sx (e▸h c D C)) (ne_nil h2),λe=>Oa (e8.sb (e▸h c D C))⟩)
 |.or l,e=>K7 e λop es p=>pY (q:=λop=>PK mg mb K b (.or l) (.BoolOp op es p)) .Or op ((ck (!l.isEmpty)).m2 (cL K b l es) λh2 h c D C=>⟨λe=>QR (e8.sx (e▸h c D C)) (ne_nil h2),λe=>Q3 (e8.sb (e▸h c D C))⟩)
 |.not x,e=>wUn e λop a p=>pY (q:=λop=>PK mg mb K b (.not x) (.UnaryOp op a p)) .Not op ((cX K b x a).m λh c D C=>⟨λe=>NH ((h c D C).1 e),λe=>N7 ((h c D C).2 e)⟩)
 |.ite t x y,e=>wIf e λet ea eb p=>(cX K af t et).b λh1=>(cX K b x ea).m2 (cX K b y eb) λh2 h3 c D C=>⟨λe=>NL ((h1 c D C).2 rfl) ((h2 c D C).1 e) ((h3 c D C).1 e),λe=>N8 ((h1 c D C).2 rfl) ((h2 c D C).2 e) ((h3 c D C).2 e)⟩
 |.sub x y,e=>gk _ _ (ED e λa i p=>(ck (lh i)).b λh1=>(cX K ag x a).m2 (cX K ag y i) λh2 h3=>.n λc D C=>NB D ((h2 c D C).1 rfl) ((h3 c D C).1 rfl) h1)
 |.xJ x y,e=>gk _ _ (ED e λa i p=>wSl (q:=λi=>PK mg mb K ag (.xJ x y) (.Subscript a i p)) i λlo hi st q=>yH (q:=λlo=>PK mg mb K ag (.xJ x y) (.Subscript a (.Slice lo hi st q) p)) lo λlo=>match hi,st with
   |none,ae=>(cX K ag x a).m2 (cX K ag y lo) λh2 h3=>.n λc D C=>ND D ((h2 c D C).1 rfl) ((h3 c D C).1 rfl)
   |_,_=>.no)
 |.vz x y,e=>gk _ _ (ED e λa i p=>wSl (q:=λi=>PK mg mb K ag (.vz x y) (.Subscript a i p)) i λlo hi st q=>yH (q:=λhi=>PK mg mb K ag (.vz x y) (.Subscript a (.Slice lo hi st q) p)) hi λhi=>match lo,st with
   |none,ae=>(cX K ag x a).m2 (cX K ag y hi) λh2 h3=>.n λc D C=>NF D ((h2 c D C).1 rfl) ((h3 c D C).1 rfl)
   |_,_=>.no)
 |.dm x f,e=>gk _ _ (yI e λa n p=>(cd (fields[f]?=aa n)).b λh1=>(ck (gb a)).m2 (cX K ag x a) λh2 h3=>.n λc D C=>NR D ((h3 c D C).1 rfl) h1 h2)
 |.call f l,e=>gk _ _ (wd e λn p es r=>(cd (rz[f]?=aa n)).b λh1=>(cd (f≠0)).b λh2=>(ck (!dbg n)).b λh3=>(ck (sO K n .globalImplicit)).m2 (cL K ag l es) λh4 h5=>.n λc D C=>(C.fa f n h1).elim λU ha=>IJ D h1 ha h2 (fM C h4) (uV h3) (h5 c D C).sx)
 |.len x,e=>gk _ _ (Nt (st "len") e λp a r=>(ck (noStar a)).b λhs=>(ck (sO K (st "len") .globalImplicit)).m2 (cX K ag x a) λh1 h2=>.n λc D C=>NK D ((h2 c D C).1 rfl) hs (fM C h1))
 |.abs x,e=>gk _ _ (Nt (st "abs") e λp a r=>(ck (noStar a)).b λhs=>(ck (sO K (st "abs") .globalImplicit)).m2 (cX K ag x a) λh1 h2=>.n λc D C=>NU D ((h2 c D C).1 rfl) hs (fM C h1))
 |.k6 x,e=>gk _ _ (Nt (st "int") e λp a r=>(ck (noStar a)).b λhs=>(ck (sO K (st "int") .globalImplicit)).m2 (cX K ag x a) λh1 h2=>.n λc D C=>EP D ((h2 c D C).1 rfl) hs (fM C h1))
 |.tolist x,e=>gk _ _ (Nt (st "list") e λp a r=>(ck (noStar a)).b λhs=>(ck (sO K (st "list") .globalImplicit)).m2 (cX K ag x a) λh1 h2=>.n λc D C=>Di D ((h2 c D C).1 rfl) hs (fM C h1))
 |.Ak t x,e=>gk _ _ (wd e λn p es r=>pY (q:=λn=>PK mg mb K ag (.Ak t x) (.Call (.Name n p) es [] r)) (st "isinstance") n (Iu (q:=λes=>PK mg mb K ag (.Ak t x) (.Call (.Name (st "isinstance") p) es [] r)) es λa u=>jW (q:=λu=>PK mg mb K ag (.Ak t x) (.Call (.Name (st "isinstance") p) [a,u] [] r)) u λm p'=>pY (q:=λm=>PK mg mb K ag (.Ak t x) (.Call (.Name (st "isinstance") p) [a,.Name m p'] [] r)) (st (t8 t)) m
   ((ck (noStar a)).b λh3=>(ck (sO K (st "isinstance") .globalImplicit)).b λh4=>(ck (sO K (st (t8 t)) .globalImplicit)).b λh5=>(cd ((st (t8 t)==("__debug__" : Str))=ag)).m2 (cX K ag x a) λh7 h6=>.n λc D C=>NM D ((h6 c D C).1 rfl) h3 (fM C h4) (Df t) (fM C h5) h7)))
 |.app x y,e=>gk _ _ (P6 (st "append") e λo p a r h1 h2 h3=>(cX K ag x o).m2 (cX K ag y a) λh4 h5=>.n λc D C=>NS ((h4 c D C).1 rfl) ((h5 c D C).1 rfl) h3 h2 h1)
 |.ext x y,e=>gk _ _ (P6 (st "extend") e λo p a r h1 h2 h3=>(cX K ag x o).m2 (cX K ag y a) λh4 h5=>.n λc D C=>NO ((h4 c D C).1 rfl) ((h5 c D C).1 rfl) h3 h2 h1)
 |.um x y,e=>gk _ _ (P6 (st "pop") e λo p a r h1 h2 h3=>(cX K ag x o).m2 (cX K ag y a) λh4 h5=>.n λc D C=>IC ((h4 c D C).1 rfl) ((h5 c D C).1 rfl) h3 h2 h1)
 |.index x y,e=>gk _ _ (P6 (st "index") e λo p a r h1 h2 h3=>(cX K ag x o).m2 (cX K ag y a) λh4 h5=>.n λc D C=>EU ((h4 c D C).1 rfl) ((h5 c D C).1 rfl) h3 h2 h1)
 |.zV x y,e=>gk _ _ (P6 (st "get") e λo p a r h1 h2 h3=>(cX K ag x o).m2 (cX K ag y a) λh4 h5=>.n λc D C=>IE D ((h4 c D C).1 rfl) ((h5 c D C).1 rfl) h3 h2 h1)
 |.pop x,e=>gk _ _ (Nr (st "pop") e λo p l r h1 h2=>qZ (q:=λl=>PK mg mb K ag (.pop x) (.Call (.Attribute o (st "pop") p) l [] r)) l ((cX K ag x o).m λh=>.n λc D C=>NG ((h c D C).1 rfl) h2 h1))
 |.split x u,e=>gk _ _ (P6 (st "split") e λo p a r h1 h2 U=>AD (q:=λa=>PK mg mb K ag (.split x u) (.Call (.Attribute o (st "split") p) [a] [] r)) a λk n p'=>pY (q:=λk=>PK mg mb K ag (.split x u) (.Call (.Attribute o (st "split") p) [.Constant k n p'] [] r)) (.str u) k ((cX K ag x o).m λh=>.n λc D C=>ER ((h c D C).1 rfl) h2 h1))
 |.mk l,e=>gk _ _ (wd e λn p es r=>pY (q:=λn=>PK mg mb K ag (.mk l) (.Call (.Name n p) es [] r)) (st "Unit") n ((ck (sO K (st "Unit") .globalImplicit)).b λh2=>(ck (!l.isEmpty)).m2 (cL K ag l es) λh3 h4=>.n λc D C=>QS D (fM C h2) (h4 c D C).sx (ne_nil h3)))
 |.comp m x y l,e=>gk _ _ (K6 e λelt n px iter ifs s p=>(ck (yb K s n)).b λh1=>(cX (K.inner s n) ag x elt).b λh2=>(cL (K.inner s n) af l ifs).b λh3=>(ck (xR iter)).b λh4=>(ck (A0 y)).m2
   (((ck (Ga y)).m2 (cX K ag y iter) λhn h c D C=>zh ((h c D C).1 rfl) λσ=>congrArg (R.bind _) (wR hn)).o (cI K y iter)) λh5 h6=>.n λc D C =>
    ET D (w7 C h1) (λCa X' v=>(h2 (d7 c s n Ca X' [v]) (D.cx rfl rfl rfl rfl) (lO C Ca X' [v])).1 rfl) (λCa X' v=>(h3 (d7 c s n Ca X' [v]) (D.cx rfl rfl rfl rfl) (lO C Ca X' [v])).sb) (h6 c D C) (ry h4) λa e=>by subst e;exact jH h5)
 |.nz _,_=>.no
 |.pA _,_=>.no
termination_by structural x=>x
def cL (K:Sc)(b:Bool):(l:List X)->(es:List b8)->dz (PKs mg mb K b l es)
 |[],es=>qZ es (.yes λU U U=>.nil)
 |x::l,e::es=>(cX K b x e).b λh1=>(ck (noStar e)).m2 (cL K b l es) λh2 h3 c D C=>.cons (h1 c D C) h2 (h3 c D C)
 |_::_,[]=>.no
termination_by structural x=>x
def cI (K:Sc):(x:X)->(e:b8)->dz (PI mg mb K x e)
 |.nz [x],e=>Nt (st "range") e λp a r=>(ck (noStar a)).b λhs=>(ck (sO K (st "range") .globalImplicit)).m2 (cX K ag x a) λh2 h c D C=>Jh D ((h c D C).1 rfl) hs (fM C h2)
 |.nz [x,y],e=>wd e λn p es r=>pY (q:=λn=>PI mg mb K (.nz [x,y]) (.Call (.Name n p) es [] r)) (st "range") n (Iu (q:=λes=>PI mg mb K (.nz [x,y]) (.Call (.Name (st "range") p) es [] r)) es λa b=>(ck (noStar a)).b λh1=>(ck (noStar b)).b λh3=>(ck (sO K (st "range") .globalImplicit)).b λh2=>(cX K ag x a).m2 (cX K ag y b) λh h' c D C=>Jg D ((h c D C).1 rfl) h1 ((h' c D C).1 rfl) h3 (fM C h2))
 |.pA x,e=>Nt (st "enumerate") e λp a r=>(ck (noStar a)).b λhs=>(ck (sO K (st "enumerate") .globalImplicit)).m2 (cX K ag x a) λh1 h c D C=>Oe D ((h c D C).1 rfl) hs (fM C h1)
 |_,_=>.no
termination_by structural x=>x
end
end
section
variable {mg mb:Str->Option ax}{c:Cx}{K:Sc}{W:Nat}
theorem PK.v (D:Ok c mg mb)(N:bW c)(C:hR K c){x:X}{e:b8}(h:PK mg mb K ag x e):yf c x e:=yf.of N λvs=>(h _ (D.wv vs) (C.wv vs)).1 rfl
theorem PK.t (D:Ok c mg mb)(N:bW c)(C:hR K c){x:X}{e:b8}(h:PK mg mb K af x e):QC c x e:=QC.of N λvs=>(h _ (D.wv vs) (C.wv vs)).2 rfl
def lc (K:Sc)(n:Str):Bool:=sO K n .local||sO K n .cell
theorem wM {x:Str}(h:hR K c)(e:lc K x=af):c.env.kindOf x=aa .local\/c.env.kindOf x=aa .cell :=
 (Bool.or_eq_true _ _▸e:_\/_).imp (fM h) (fM h)
def PT (mg mb:Str->Option ax)(K:Sc)(t:TA)(e:b8):Prop:=∀c,Ok c mg mb->bW c->hR K c->SA c t e
def cTA (K:Sc)(t:TA)(e:b8):dz (PT mg mb K t e):=match t with
 |.n i=>jW e λn p=>(cd (K.vt[i]?=aa n)).m2 (ck (lc K n)) λh1 h2 c U N C=>I3 N (C.va h1) (wM C h2)
 |.dm o f=>yI e λa n p=>(cd (fields[f]?=aa n)).m2 (cX K ag o a) λh1 h2 c D N C=>Ff D (h2.v D N C) h1
 |.sub o i=>ED e λa j p=>(ck (lh j)).b λh1=>(cX K ag o a).m2 (cX K ag i j) λh2 h3 c D N C=>Fe D (h2.v D N C) (h3.v D N C) h1
def cT (K:Sc):(ts:List TA)->(es:List b8)->dz (∀c,Ok c mg mb->bW c->hR K c->wb (SA c) ts es)
 |[],es=>qZ (q:=λes=>∀c,Ok c mg mb->bW c->hR K c->wb (SA c) [] es) es (.yes λU U U U=>.nil)
 |t::l,e::r=>(cTA K t e).b λh1=>(ck (noStar e)).m2 (cT K l r) λh2 h3 c D N C=>.cons (h1 c D N C) h2 (h3 c D N C)
 |_::_,[]=>.no
def atN {q:List TA->Prop}(K:Sc):(ts:List TA)->(ns:List Str)->(f:∀is,(∀c,hR K c->Aw c is ns)->dz (q (is.map .n)))->dz (q ts)
 |[],[],f=>f [] λU U=>trivial
 |.n i::l,n::r,f=>(cd (K.vt[i]?=aa n)).b λh1=>(ck (lc K n)).b λh2=>atN (q:=λl=>q (.n i::l)) K l r λis h=>f (i::is) λc C=>⟨C.va h1,wM C h2,h c C⟩
 |_,_,_=>.no
def swE (K:Sc)(es:List b8)(k:Nat)(p:Pos)(e:b8)(r:Option (List Str)):dz (∀c,hR K c->c.env.scope.kind=.function->ik [.Tuple es k p] e c.env=pure r) :=
 ((ck (F9 e)).m2 (cd (ae=r)) λh h' c C U=>h'▸EX h).o
 (EC (q:=λe=>∀c,hR K c->c.env.scope.kind=.function->ik [.Tuple es k p] e c.env=pure r) e λvs k' p'=>(cd (BU K.sc.names es vs=aa r)).m λh c C hk=>EW hk (by rw[C.scope];exact h))
def cTg (K:Sc)(t:Tg)(e:b8):dz (∀c,Ok c mg mb->bW c->hR K c->By c t e):=match t with
 |.n i=>jW (q:=λe=>∀c,Ok c mg mb->bW c->hR K c->By c (.n i) e) e λn p=>(cd (K.vt[i]?=aa n)).m2 (ck (lc K n)) λh1 h2 c U N C=>BR N (C.va h1) (wM C h2)
 |.t is=>EC (q:=λe=>∀c,Ok c mg mb->bW c->hR K c->By c (.t is) e) e λes k p=>(cT K (is.map .n) es).m λh c D N C=>Ny N D.hh (h c D N C)
def cIt (K:Sc)(y:X)(e:b8):dz (PI mg mb K y e):=((ck (Ga y)).m2 (cX K ag y e) λhn h c D C=>zh ((h c D C).1 rfl) λσ=>congrArg (R.bind _) (wR hn)).o (cI K y e)
noncomputable def MD:X->Bool
 |.nz l=>jY l
 |.pA _=>ag
 |x=>gn x
def swB (K:Sc)(t:Str)(p pos:Pos)(s:xg):Bool:=sO K t .local&&(p.line==pos.line)&&!(s.names.any λ(n,k)=>n==t&&(k==.local||k==.cell))
theorem EY (C:hR K c){t:Str}{p pos:Pos}{s:xg}{a:b8}{g:List El}{n:Nat}(hk:c.env.scope.kind=.function):swapsWith (.ListComp a g s pos) (aa (.Name t p)) n c.env=pure (swB K t p pos s):=by
 have hb:(c.env.blockKind==Aq)=af:=by delta Env.blockKind;rw[hk];rfl
 have hl:(c.env.kindOf t==aa .local)=sO K t .local:=by delta sO Env.kindOf;rw[C.scope];cases jh t K.sc.names with|none=>rfl|some k=>induction k using PySem.NameKind.casesOn<;>rfl
 show pure (c.env.blockKind==.function&&c.env.kindOf t==aa .local&&p.line==pos.line&&!(s.names.any λ(n,k)=>n==t&&(k==.local||k==.cell)))=_;rw[hb,hl,Aa];rfl
theorem Cs {α:Type}{c:Prop}[Decidable c]{a:α}{σ τ:bp}(e:(if c then Internal.R.ok a σ else .bad)=.exc τ):False:=by
 by_cases h:c
 .rw[if_pos h]at e;exact Q9 e
 .rw[if_neg h]at e;exact B6 e
theorem Fq {v:List V}{σ τ:bp}(e:AU (.tup v) σ=.exc τ):False:=by
 rcases v with _|⟨a,_|⟨b,_|_⟩⟩
 .exact B6 e
 .induction a using V.casesOn with
  |int i=>exact Cs e
  |_=>exact B6 e
 .induction a using V.casesOn with
  |int i=>induction b using V.casesOn with
   |int j=>exact Cs e
   |_=>exact B6 e
  |_=>exact B6 e
 .exact B6 e
theorem Hr {G:List V}{Φ:Nat->List V->bp->R V}{vs:Vs}{y:X}{σ cD:bp}(h:MD y=af):uT G Φ vs y [] σ≠.exc cD:=by
 have key:gn y=af->(∀v σ,jJ y v σ≠.exc cD)->uT G Φ vs y [] σ≠.exc cD:=λhp hi e=>by
  delta uT at e;rcases d0 G Φ vs y [] σ hp with q|⟨v,q⟩
  .rw[q]at e;exact B6 e
  .rw[q]at e;exact hi v σ e
 induction y using X.casesOn with
 |nz l =>
  intro e;delta uT at e;change R.bind (R.bind _ _) _=_ at e;rw[R.bind_assoc]at e;rcases q8 G Φ vs l [] σ h with q|⟨v,q⟩
  .rw[q]at e;exact B6 e
  .rw[q]at e;exact Fq e
 |pA a=>exact jH h
 |_=>exact key h λv σ e=>wQ e
end
section
variable {mg mb:Str->Option ax}{W:Nat}{fB Nb:aJ}{mN:Str->Option ax}{fd:ie}
structure Al (mg mb:Str->Option ax)(fB Nb:aJ)(mN:Str->Option ax)(fd:ie)(K:Sc)(c:Cx):Prop where
 D:Ok c mg mb
 B:vq c.Z mg mb fB Nb mN fd
 hd:c.A.depth+2<e9
 N:bW c
 C:hR K c
theorem Al.wx {K:Sc}{c:Cx}(a:Al mg mb fB Nb mN fd K c)(X:List aJ):Al mg mb fB Nb mN fd K (c.wx X):=⟨a.D.cx rfl rfl rfl rfl,a.B,a.hd,a.N.wx X,a.C.wx X⟩
variable (mg mb W fB Nb mN fd)in
def PS (K:Sc)(x:S)(s:iM):Prop:=∀c,Al mg mb fB Nb mN fd K c->SS c W x s
variable (mg mb W fB Nb mN fd)in
def PSs (K:Sc)(x:List S)(s:List iM):Prop:=∀c,Al mg mb fB Nb mN fd K c->DW c W x s
section
variable {q:iM->Prop}
noncomputable def K4 {α:Type}{q:Option α->Prop}(o:Option α)(f:dz (q ae)):dz (q o):=match o with
 |none=>f
 |some _=>.no
noncomputable def wBl {q:Const->Prop}(c:Const)(f:∀b,dz (q (.bool b))):dz (q c):=match c with
 |.bool b=>f b
 |_=>.no
noncomputable def wEh {q:ExceptHandler->Prop}(h:ExceptHandler)(f:∀t b p,dz (q (.ExceptHandler (aa t) ae b p))):dz (q h):=match h with
 |.ExceptHandler t n b p=>yH (q:=λt=>q (.ExceptHandler t n b p)) t λt=>K4 (q:=λn=>q (.ExceptHandler (aa t) n b p)) n (f t b p)
noncomputable def Ay (s:iM)(f:∀e p,dz (q (.Expr e p))):dz (q s):=if h:s.ctorIdx=24 then Stmt.Expr.elim (motive_2:=λs=>dz (q s)) s h f else .no
noncomputable def yC (s:iM)(f:∀t e p,dz (q (.Assign [t] e p))):dz (q s):=if h:s.ctorIdx=5 then Stmt.Assign.elim (motive_2:=λs=>dz (q s)) s h λl e p=>xu (q:=λl=>q (.Assign l e p)) l λt=>f t e p else .no
noncomputable def K0 (s:iM)(f:∀e p,dz (q (.Return e p))):dz (q s):=if h:s.ctorIdx=3 then Stmt.Return.elim (motive_2:=λs=>dz (q s)) s h f else .no
noncomputable def QH (s:iM)(f:∀e a b p,dz (q (.If e a b p))):dz (q s):=if h:s.ctorIdx=12 then Stmt.If.elim (motive_2:=λs=>dz (q s)) s h f else .no
noncomputable def Il (s:iM)(f:∀e a p,dz (q (.While e a [] p))):dz (q s):=if h:s.ctorIdx=11 then Stmt.While.elim (motive_2:=λs=>dz (q s)) s h λe a l p=>qZ (q:=λl=>q (.While e a l p)) l (f e a p)else .no
noncomputable def K1 (s:iM)(f:∀t e a p,dz (q (.For t e a [] p))):dz (q s):=if h:s.ctorIdx=9 then Stmt.For.elim (motive_2:=λs=>dz (q s)) s h λt e a l p=>qZ (q:=λl=>q (.For t e a l p)) l (f t e a p)else .no
noncomputable def Im (s:iM)(f:∀n np ea eb cp p,dz (q (.Raise (aa (.Call (.Name n np) [ea,eb] [] cp)) ae p))):dz (q s):=if h:s.ctorIdx=16 then Stmt.Raise.elim (motive_2:=λs=>dz (q s)) s h λex ca p=>yH (q:=λex=>q (.Raise ex ca p)) ex λe=>K4 (q:=λca=>q (.Raise (aa e) ca p)) ca (wd (q:=λe=>q (.Raise (aa e) ae p)) e λn np l cp=>Iu (q:=λl=>q (.Raise (aa (.Call (.Name n np) l [] cp)) ae p)) l λea eb=>f n np ea eb cp p)else .no
noncomputable def K3 (s:iM)(f:∀b k p2 p3,dz (q (.Return (aa (.Constant (.bool b) k p2)) p3))):dz (q s):=K0 s λo p3=>yH (q:=λo=>q (.Return o p3)) o λe=>AD (q:=λe=>q (.Return (aa e) p3)) e λc k p2=>wBl (q:=λc=>q (.Return (aa (.Constant c k p2)) p3)) c λb=>f b k p2 p3
noncomputable def QG (s:iM)(f:∀e p1 n np b k p2 p3 p4 p,dz (q (.Try [.Expr e p1] [.ExceptHandler (aa (.Name n np)) ae [.Return (aa (.Constant (.bool b) k p2)) p3] p4] [] [] p))):dz (q s):=if h:s.ctorIdx=17 then Stmt.Try.elim (motive_2:=λs=>dz (q s)) s h λa hs o fi p=>qZ (q:=λfi=>q (.Try a hs o fi p)) fi (qZ (q:=λo=>q (.Try a hs o [] p)) o (xu (q:=λa=>q (.Try a hs [] [] p)) a λst=>Ay (q:=λst=>q (.Try [st] hs [] [] p)) st λe p1=>xu (q:=λhs=>q (.Try [.Expr e p1] hs [] [] p)) hs λhd=>wEh (q:=λhd=>q (.Try [.Expr e p1] [hd] [] [] p)) hd λt b p4=>jW (q:=λt=>q (.Try [.Expr e p1] [.ExceptHandler (aa t) ae b p4] [] [] p)) t λn np =>
 xu (q:=λb=>q (.Try [.Expr e p1] [.ExceptHandler (aa (.Name n np)) ae b p4] [] [] p)) b λr=>K3 (q:=λr=>q (.Try [.Expr e p1] [.ExceptHandler (aa (.Name n np)) ae [r] p4] [] [] p)) r λb k p2 p3=>f e p1 n np b k p2 p3 p4 p))else .no
noncomputable def wFb {q:List iM->Prop}(l:List iM)(f:∀et k p3 p2 p1,dz (q [.If et [.Return (aa (.Constant (.bool ag) k p3)) p2] [] p1])):dz (q l):=xu l λs=>QH (q:=λs=>q [s]) s λet a b p1=>qZ (q:=λb=>q [.If et a b p1]) b (xu (q:=λa=>q [.If et a [] p1]) a λr=>K3 (q:=λr=>q [.If et [r] [] p1]) r λv k p3 p2=>pY (q:=λv=>q [.If et [.Return (aa (.Constant (.bool v) k p3)) p2] [] p1]) ag v (f et k p3 p2 p1))
noncomputable def wSw {p:Prop}(K:Sc)(es vs:List b8)(f:List Str->dz p):dz p:=match BU K.sc.names es vs with
 |some (aa ns)=>f ns
 |_=>.no
end
def cC (K:Sc)(i:Nat)(x:X)(n:Str)(p pos:Pos)(e:b8)(hi:K.vt[i]?=aa n):dz (PS mg mb W fB Nb mN fd K (.asg i x) (.Assign [.Name n p] e pos)):=match x with
 |.comp m x y l=>K6 (q:=λe=>PS mg mb W fB Nb mN fd K (.asg i (.comp m x y l)) (.Assign [.Name n p] e pos)) e λelt n' px iter ifs s pos'=>(ck (swB K n p pos' s)).b λhs=>(ck (sO K n .local)).b λhl =>
   (ck (yb K s n')).b λh1=>(cX (mg:=mg) (mb:=mb) (K.inner s n') ag x elt).b λh2=>(cL (mg:=mg) (mb:=mb) (K.inner s n') af l ifs).b λh3=>(ck (xR iter)).b λh4=>(ck (A0 y)).b λh5=>(ck (MD y)).m2 (cIt (mg:=mg) (mb:=mb) K y iter) λh7 h6 c a vs ρ σ s t =>
    have hk:=t.fr.kind
    IU (m:=m) a.D a.N a.N.cells (a.C.va hi) (fM a.C hl) (λvs=>w7 (a.C.wv vs) h1) (λvs Ca X' v=>(h2 (d7 (c.wv vs) _ n' Ca X' [v]) (a.D.cx rfl rfl rfl rfl) (lO (a.C.wv vs) Ca X' [v])).1 rfl)
     (λvs Ca X' v=>(h3 (d7 (c.wv vs) _ n' Ca X' [v]) (a.D.cx rfl rfl rfl rfl) (lO (a.C.wv vs) Ca X' [v])).sb) (λvs=>h6 _ (a.D.wv vs) (a.C.wv vs)) (ry h4) (λa e=>by subst e;exact jH h5) (λvs σ cD=>Hr h7) (hs▸EY a.C hk) vs ρ σ s t
 |_=>.no
mutual
def cS (K:Sc):(x:S)->(s:iM)->dz (PS mg mb W fB Nb mN fd K x s)
 |.expr x,s=>Ay s λe p=>(ck (j8 e)).m2 (cX K ag x e) λh1 h2 c a=>IS (h2.v a.D a.N a.C) h1
 |.asg i x,s=>yC s λt e pos=>jW (q:=λt=>PS mg mb W fB Nb mN fd K (.asg i x) (.Assign [t] e pos)) t λn p=>(cd (K.vt[i]?=aa n)).b λh1 =>
   ((ck (j8 e)).b λhc=>(ck (lc K n)).m2 (cX K ag x e) λh2 h3 c a=>E6 a.N (h3.v a.D a.N a.C) (a.C.va h1) (wM a.C h2) (kx hc)).o
   ((cC K i x n p pos e h1).o
   (wLc (q:=λe=>PS mg mb W fB Nb mN fd K (.asg i x) (.Assign [.Name n p] e pos)) e λea g s pos'=>(cd (swB K n p pos' s=ag)).b λhs=>(ck (lc K n)).m2 (cX K ag x (.ListComp ea g s pos')) λh2 h3 c a vs ρ σ s t=>E6 a.N (h3.v a.D a.N a.C) (a.C.va h1) (wM a.C h2) (hs▸EY a.C t.fr.kind) vs ρ σ s t))
 |.fW ts x,s=>yC s λt e pos=>EC (q:=λt=>PS mg mb W fB Nb mN fd K (.fW ts x) (.Assign [t] e pos)) t λes k p=>(ck (j8 e)).b λh1=>(cX (mg:=mg) (mb:=mb) K ag x e).b λh2 =>
   ((swE K es k p e ae).m2 (cT K ts es) λh4 h3 c a=>IT a.N a.N.cells a.D.hh (h3 c a.D a.N a.C) (h2.v a.D a.N a.C) h1 (h4 c a.C)).o
   (EC (q:=λe=>PS mg mb W fB Nb mN fd K (.fW ts x) (.Assign [.Tuple es k p] e pos)) e λvs k' p'=>wSw K es vs λns=>atN (q:=λts=>PS mg mb W fB Nb mN fd K (.fW ts x) (.Assign [.Tuple es k p] (.Tuple vs k' p') pos)) K ts ns λis hat=>(cd is.Nodup).b λh3=>(cX (mg:=mg) (mb:=mb) K ag x (.Tuple vs k' p')).m2 (swE K es k p (.Tuple vs k' p') (aa ns)) λh2 h4 c a=>E5 a.N a.N.cells a.D.hh (hat c a.C) h3 (h2.v a.D a.N a.C) rfl (h4 c a.C))
 |.fh o f x,s=>yC s λt e pos=>yI (q:=λt=>PS mg mb W fB Nb mN fd K (.fh o f x) (.Assign [t] e pos)) t λeo n p=>(cd (fields[f]?=aa n)).b λh1=>(cX K ag o eo).m2 (cX K ag x e) λh2 h3 c a=>Dn a.D (h2.v a.D a.N a.C) (h3.v a.D a.N a.C) h1
 |.eX o i x,s=>yC s λt e pos=>ED (q:=λt=>PS mg mb W fB Nb mN fd K (.eX o i x) (.Assign [t] e pos)) t λeo ei p=>(ck (lh ei)).b λh1=>(cX K ag o eo).b λh2=>(cX K ag i ei).m2 (cX K ag x e) λh3 h4 c a=>Dm a.D (h2.v a.D a.N a.C) (h3.v a.D a.N a.C) (h4.v a.D a.N a.C) h1
 |.ite t l r,s=>QH s λe ea eb p=>(cX K af t e).b λh1=>(Qz K l ea).m2 (Qz K r eb) λh2 h3 c a=>E4 (h1.t a.D a.N a.C) (h2 c a) (h3 c a)
 |.vG t l,s=>Il s λe ea p=>(cX K af t e).m2 (Qz K l ea) λh1 h2 c a=>E1 a.D a.N (h1.t a.D a.N a.C) (h2 c a)
 |.jv t y l,s=>K1 s λet e eb p=>(cTg (mg:=mg) (mb:=mb) K t et).b λh1=>(cIt (mg:=mg) (mb:=mb) K y e).b λh2=>(Qz K l eb).b λh3=>(ck (xR e)).b λh4=>(ck (isTup et||isName et)).m2 (ck (A0 y||isTup et)) λh5 h6 c a =>NW a.D.hh a.D.fr a.N (λvs=>h2 _ (a.D.wv vs) (a.C.wv vs)) (λX'=>h1 _ (a.wx X').D (a.wx X').N (a.wx X').C) (λX'=>h3 _ (a.wx X')) h5 (λz_=>by obtain⟨a,e⟩:=z_;exact by subst e;exact h6) (ry h4)
 |.x9 i d x,s=>K1 s λet e eb p=>jW (q:=λet=>PS mg mb W fB Nb mN fd K (.x9 i d x) (.For et e eb [] p)) et λn np=>Nt (q:=λe=>PS mg mb W fB Nb mN fd K (.x9 i d x) (.For (.Name n np) e eb [] p)) (st "sorted") e λfp ed cp =>
   wFb (q:=λeb=>PS mg mb W fB Nb mN fd K (.x9 i d x) (.For (.Name n np) (.Call (.Name (st "sorted") fp) [ed] [] cp) eb [] p)) eb λet k p3 p2 p1 =>
   (cd (K.vt[i]?=aa n)).b λh1=>(ck (lc K n)).b λh2=>(ck (sO K (st "sorted") .globalImplicit)).b λh3=>(ck (noStar ed)).b λhs=>(cX (mg:=mg) (mb:=mb) K ag d ed).m2 (cX (mg:=mg) (mb:=mb) K af x et) λh5 h7 c a =>
   IQ (y:=.k (.bool ag)) a.D a.N (λvs=>(h5 _ (a.D.wv vs) (a.C.wv vs)).1 rfl) hs (fM a.C h3) (a.C.va h1) (wM a.C h2)
    (λX'=>ua (E4 (h7.t (a.wx X').D (a.wx X').N (a.wx X').C) (ua (E2 (yf.of (a.wx X').N λvs=>BS)) tc) tc) tc) λv=>rfl
 |.ret x,s=>K0 s λo p=>match o with
  |some e=>(cX K ag x e).m λh c a=>E2 (h.v a.D a.N a.C)
  |none=>match x with
   |.k .none=>.yes λc a=>IP
   |_=>.no
 |.raise x y,s=>Im s λn np ea eb cp p=>pY (q:=λn=>PS mg mb W fB Nb mN fd K (.raise x y) (.Raise (aa (.Call (.Name n np) [ea,eb] [] cp)) ae p)) (st "BadCode") n ((ck (sO K (st "BadCode") .globalImplicit)).b λh2=>(ck (noStar ea)).b λs1=>(ck (noStar eb)).b λs2=>(cX K ag x ea).m2 (cX K ag y eb) λh3 h4 c a =>E3 a.D a.B a.hd a.N (fM a.C h2) (λvs=>(h3 _ (a.D.wv vs) (a.C.wv vs)).1 rfl) (λvs=>(h4 _ (a.D.wv vs) (a.C.wv vs)).1 rfl) s1 s2)
 |.vN f [.v i] (.bool b),s=>QG s λe p1 n np b' k p2 p3 p4 p=>pY (q:=λn=>PS mg mb W fB Nb mN fd K (.vN f [.v i] (.bool b)) (.Try [.Expr e p1] [.ExceptHandler (aa (.Name n np)) ae [.Return (aa (.Constant (.bool b') k p2)) p3] p4] [] [] p)) (st "BadCode") n
   (pY (q:=λb'=>PS mg mb W fB Nb mN fd K (.vN f [.v i] (.bool b)) (.Try [.Expr e p1] [.ExceptHandler (aa (.Name (st "BadCode") np)) ae [.Return (aa (.Constant (.bool b') k p2)) p3] p4] [] [] p)) b b'
   ((ck (sO K (st "BadCode") .globalImplicit)).b λh4=>(ck (j8 e)).m2 (cX K ag (.call f [.v i]) e) λh1 h2 c a=>NV a.D a.B a.N (fM a.C h4) (h2.v a.D a.N a.C) h1))
 |.dead,s=>.yes λc a vs ρ σ s t=>trivial
 |_,_=>.no
termination_by structural x=>x
def Qz (K:Sc):(l:List S)->(ss:List iM)->dz (PSs mg mb W fB Nb mN fd K l ss)
 |[],ss=>qZ ss (.yes λc a=>tc)
 |.dead::l,ss=>.yes λc a vs ρ σ s t=>trivial
 |x::l,s::ss=>(cS K x s).m2 (Qz K l ss) λh1 h2 c a=>ua (h1 c a) (h2 c a)
 |_,_=>.no
termination_by structural x=>x
end
end
end Internal
end
noncomputable section
open PySem PySem.W PyProof.Rows
namespace Internal.Hd
noncomputable def tp (i:Nat):iM:=(oU.main.body[i]?).getD (.Pass ⟨0,0,0,0⟩)
def Cu (i j:Nat):iM:=match tp i with
 |.ClassDef _ _ _ body _ _ _ _ _ _ _=>(body[j]?).getD (.Pass ⟨0,0,0,0⟩)
 |_=>.Pass ⟨0,0,0,0⟩
noncomputable def fnO (s:iM)(q:Str)(d:ax)(m:Str)(mt:Tok)(c:aJ):Obj:=match s with
 |.FunctionDef name args body _ _ _ scope _ _ _=>{cls:=.type "function",data:=.func {name:=name,qualname:=q,params:=args,body:=.stmts body,scope:=scope,globals:=3,closure:=[],defaults:=d,kwdefaults:=.none,pyModule:=.str m mt,code:=.ref c}}
 |_=>{cls:=.none}
noncomputable def fcO (s:iM)(q:Str):Obj:=match s with
 |.FunctionDef name args body _ _ _ scope _ _ _=>{cls:=.none,data:=.func {name:=name,qualname:=q,params:=args,body:=.stmts body,scope:=scope,globals:=0,closure:=[],defaults:=.none,kwdefaults:=.none}}
 |_=>{cls:=.none}
def cdO (n:Str)(nt:Tok)(q:Str)(qt ft:Tok)(l a:Int)(v w:aJ)(x y:ax)(z:aJ)(i j:Int)(ft':Tok):Obj :=
 {cls:=.type "code",data:=.fields #[.str n nt,.str q qt,.str (st "/claim/cut.py") ft,.int l 0,.int a 0,.int 0 0,.int 0 0,.int 3 0,.ref v,.bool af,.int 181 0,.ref w,.none,x,y,.ref z,.int i 0,.int j 0,.str (st "/claim/cut.py") ft']}
def s (n:String)(t:Tok):ax:=.str (st n) t
noncomputable def tu (l:List ax):Obj:={cls:=.type "tuple",data:=.seq l.toArray}
def e (P:eJ)(n:String)(t:Tok)(v:ax):gK:=⟨dq P (st n),.str (st n) t,v⟩
def ops (P:eJ):List (String×Int)->Nat->List gK
 |[],_=>[]
 |(n,v)::l,t=>e P n t (.int v (t-1))::ops P l (t+2)
def YZ (P:eJ):List gK:=[e P "__doc__" 166 (.none),e P "__package__" 167 (.none),e P "__loader__" 168 (.builtin "__main__.__loader__#opaque"),e P "__spec__" 169 (.none),e P "__annotations__" 170 (.ref 6),e P "__builtins__" 171 (.ref 4),e P "__file__" 173 (.str (st "/claim/cut.py") 172),e P "__cached__" 174 (.none)]++(ops P [("OP_UNDEF",0),("OP_NULL",1),("OP_TRUE",2),("OP_FALSE",3),("OP_CONST",4),("OP_THIS",5),("OP_POP",6),("OP_DUP",7),("OP_DUP2",8),("OP_SWAP",9),("OP_ROT3",10),("OP_GETLOC",11),("OP_SETLOC",12),("OP_GETCELL",13),("OP_SETCELL",14),("OP_GETUP",15),("OP_SETUP",16),("OP_FRESH",17),("OP_SEQ",43),("OP_SNE",44),("OP_NOT",53),("OP_TYPEOF",55),("OP_JMP",58),("OP_JF",59),("OP_JT",60),("OP_JFK",61),("OP_JTK",62),("OP_RET",65),("OP_THROW",66),("OP_CLOSURE",67),("OP_NEWOBJ",68),("OP_NEWARR",69),("OP_HOLE",70),("OP_FORIN",76),("OP_NEXTIN",77),("OP_GOSUB",78),("OP_RETSUB",79),("OP_ROT4",82),("OP_FAILSET",83),("OP_COUNT",85)] 190++([e P "OPERATIONS" 609 (.ref 100),e P "LAST_OPS" 610 (.ref 101),e P "BadCode" 641 (.ref 118),e P "Unit" 685 (.ref 138),e P "arg_kind" 692 (.ref 149),e P "taken_count" 700 (.ref 156),e P "put_count" 707 (.ref 163),e P "is_last" 714 (.ref 170),e P "VALUE" 719 (.int (-1) 718),e P "KEYS" 722 (.int (-2) 721),e P "NO_VALUE" 725 (.int (-3) 724),e P "QUIET_OPS" 726 (.ref 171),e P "is_count" 733 (.ref 178),e P "bound_of" 741 (.ref 185),e P "check_arg" 753 (.ref 192),e P "check_place" 762 (.ref 199),e P "check_head" 773 (.ref 206),e P "is_within" 781 (.ref 213),e P "check_handlers" 792 (.ref 220),e P "handler_at" 801 (.ref 227),e P "stack_in_handler" 810 (.ref 234),e P "ways_thrown" 820 (.ref 241),e P "need_values" 830 (.ref 248),e P "made_by" 838 (.ref 255),e P "ways_on" 854 (.ref 262),e P "way_back" 862 (.ref 269),e P "stacks_of" 876 (.ref 276),e P "check_one" 884 (.ref 283),e P "check_unit" 893 (.ref 290),e P "_law_draws" 901 (.ref 295),e P "_law_take" 909 (.ref 302),e P "_law_table" 915 (.ref 307),e P "_law_quiet" 922 (.ref 314),e P "_law_put" 931 (.ref 322),e P "_law_label" 938 (.ref 329),e P "_law_here" 946 (.ref 336),e P "_law_simple" 958 (.ref 343),e P "_law_statement" 970 (.ref 350),e P "_law_test" 984 (.ref 357),e P "_law_keys" 996 (.ref 364),e P "_law_guarded" 1011 (.ref 371),e P "_law_made" 1017 (.ref 376),e P "_law_bent" 1034 (.ref 383),e P "_law_args_right" 1047 (.ref 390),e P "_law_handlers_right" 1053 (.ref 395),e P "_law_ways" 1059 (.ref 400),e P "_law_later" 1065 (.ref 405),e P "_law_stacks" 1079 (.ref 412),e P "_law_is_right" 1089 (.ref 419),e P "_law_is_let" 1096 (.ref 426),e P "law" 1108 (.ref 433)]))
def o3 (P:eJ)(v:ax)(m:Nat):Obj:=⟨.type "dict",ae,.dict (gu (e P "__name__" 165 v::(YZ P).take (m-1))) m,#[]⟩
def o2 (P:eJ)(b:Bool):Obj:=⟨.none,ae,if b then .dict (gu [e P "type.__subclasses__.Exception.0" 638 (.int 118 0),e P "type.__subclasses__.Exception.n" 639 (.int 1 0)]) 2 else .dict (gu []) 0,#[]⟩
noncomputable def tr (l:List (Int×aJ)):List ax:=match l with | []=>[]|(a,b)::r=>.int a 0::.int 0 0::.ref b::tr r
noncomputable def ti (k:Nat):Obj:=⟨.none,ae,.fields (gu (tr ([(44,107),(50,127),(68,148),(70,155),(72,162),(74,169),(81,177),(83,184),(95,191),(109,198),(114,205),(127,212),(129,219),(139,226),(144,233),(147,240),(154,247),(158,254),(164,261),(185,268),(189,275),(204,282),(210,289),(217,294),(222,301),(227,306),(239,313),(243,321),(245,328),(248,335),(250,342),(259,349),(279,356),(290,363),(302,370),(321,375),(331,382),(351,389),(359,394),(370,399),(388,404),(396,411),(409,418),(419,425),(425,432)].take k))),#[]⟩
noncomputable def nob:Obj:={cls:=.none,data:=.fields #[]}
def Qe:List String->Nat->List ax
 |[],_=>[]
 |a::r,t=>s a t::Qe r (t+1)
noncomputable def tvs:List V->Nat->List ax
 |[],_=>[]
 |v::l,t=>(match v with|.str s=>.str s t|.int i=>.int i t|_=>.none)::tvs l (t+1)
noncomputable def opl:List V->Nat->List Obj
 |[],_=>[]
 |v::l,t=>(match v with|.tup q=>tu (tvs q t)|_=>tu [])::opl l (t+4)
def fuN (m:String)(mt:Tok)(i t l k a:Nat)(n:String)(ns:List String)(d:ax):List Obj :=
 [tu [],nob,tu (Qe ns (t+3)),tu [],fcO (tp i) (st n),cdO (st n) t (st n) (t+1) (t+2) l k a (a+1) (.ref (a+2)) (.ref (a+3)) (a+4) (t+3+ns.length:Nat) l (t+4+ns.length),fnO (tp i) (st n) d (st m) mt (a+5)]
def fuZ (m:String)(mt:Tok)(i t l k a:Nat)(n:String):List Obj :=
 [tu [],nob,fcO (tp i) (st n),cdO (st n) t (st n) (t+1) (t+2) l k a (a+1) .none .none (a+2) (t+3:Nat) l (t+4),fnO (tp i) (st n) .none (st m) mt (a+3)]
def fA:=fuN "js.codes" 187
def fB:=fuN "js.stackcheck" 715
def fC:=fuN "law_nt0409_01" 894
def Qx:=fuZ "law_nt0409_01" 894
def FLr (P:eJ):List Obj:=opl (match Internal.G with|.lst l::_=>l|_=>[]) 269++(
 [{cls:=.type "list",data:=.seq #[.ref 15,.ref 16,.ref 17,.ref 18,.ref 19,.ref 20,.ref 21,.ref 22,.ref 23,.ref 24,.ref 25,.ref 26,.ref 27,.ref 28,.ref 29,.ref 30,.ref 31,.ref 32,.ref 33,.ref 34,.ref 35,.ref 36,.ref 37,.ref 38,.ref 39,.ref 40,.ref 41,.ref 42,.ref 43,.ref 44,.ref 45,.ref 46,.ref 47,.ref 48,.ref 49,.ref 50,.ref 51,.ref 52,.ref 53,.ref 54,.ref 55,.ref 56,.ref 57,.ref 58,.ref 59,.ref 60,.ref 61,.ref 62,.ref 63,.ref 64,.ref 65,.ref 66,.ref 67,.ref 68,.ref 69,.ref 70,.ref 71,.ref 72,.ref 73,.ref 74,.ref 75,.ref 76,.ref 77,.ref 78,.ref 79,.ref 80,.ref 81,.ref 82,.ref 83,.ref 84,.ref 85,.ref 86,.ref 87,.ref 88,.ref 89,.ref 90,.ref 91,.ref 92,.ref 93,.ref 94,.ref 95,.ref 96,.ref 97,.ref 98,.ref 99]},
 {cls:=.type "list",data:=.seq #[.int 58 233,.int 65 243,.int 66 245,.int 79 261,.int 83 265]},
 tu [.type "Exception"],
 {cls:=.type "builtin_function_or_method",data:=.fields #[.builtin "type.__prepare__",.type "type"]},
 ⟨.type "dict",ae,.dict (gu [e P "__module__" 618 (.str (st "js.codes") 187),e P "__qualname__" 620 (.str (st "BadCode") 619),e P "__firstlineno__" 622 (.int 44 621),e P "__init__" 631 (.ref 115),e P "__static_attributes__" 634 (.ref 116)]) 5,#[]⟩,
 tu [],
 {cls:=.none,data:=.fields #[.int 46 0,.int 4 0,.ref 114]},
 {cls:=.type "code",data:=.fields #[.str (st "BadCode") 613,.str (st "BadCode") 614,.str (st "/claim/cut.py") 615,.int 44 0,.int 0 0,.int 0 0,.int 0 0,.int 0 0,.ref 105,.bool ag,.int 181 0,.ref 106,.none,.none,.none,.none,.int 616 0,.int 44 0,.str (st "/claim/cut.py") 617]},
 {cls:=.type "frame",slots:=#[aa (.ref 107),aa (.ref 3),aa (.ref 104),ae,aa (.str (st "js.codes") 187),ae,aa (.ref 0)]},
 tu [],
 nob,
 tu (Qe ["self", "text", "pc"] 626),
 tu [],
 fcO (Cu 43 0) (st "BadCode.__init__"),
 cdO (st "__init__") 623 (st "BadCode.__init__") 624 625 46 3 109 110 (.ref 111) (.ref 112) 113 629 46 630,
 fnO (Cu 43 0) (st "BadCode.__init__") .none (st "js.codes") 187 114,
 tu (Qe ["pc", "text"] 632),
 ⟨.type "dict",ae,.dict (gu [e P "__module__" 618 (.str (st "js.codes") 187),e P "__firstlineno__" 622 (.int 44 621),e P "__init__" 631 (.ref 115),e P "__static_attributes__" 634 (.ref 116),e P "__weakref__" 636 (.ref 119),e P "__doc__" 637 (.none)]) 3,#[]⟩,
 {cls:=.type "type",data:=.cls {name:=st "BadCode",bases:=[.type "Exception"],mro:=[.ref 118,.type "Exception",.type "BaseException",.type "object"],ns:=117,qualname:=st "BadCode" },slots:=#[aa (.ref 102),ae,aa (.str (st "BadCode") 611),aa (.str (st "BadCode") 619),aa (.builtin "Exception.__new__"),aa (.bool af)]},
 {cls:=.type "getset_descriptor",data:=.fields #[.str (st "__weakref__") 635,.ref 118,.builtin "ExceptionGroup.__weakref__",.none]},
 {cls:=.type "super",data:=.fields #[.ref 118,.ref 118,.ref 118]},
 {cls:=.type "builtin_function_or_method",data:=.fields #[.builtin "object.__init_subclass__",.ref 118]},
 tu [],
 {cls:=.type "builtin_function_or_method",data:=.fields #[.builtin "type.__prepare__",.type "type"]},
 ⟨.type "dict",ae,.dict (gu [e P "__module__" 649 (.str (st "js.codes") 187),e P "__qualname__" 651 (.str (st "Unit") 650),e P "__firstlineno__" 653 (.int 50 652),e P "__init__" 662 (.ref 135),e P "__static_attributes__" 678 (.ref 136)]) 5,#[]⟩,
 tu [],
 {cls:=.none,data:=.fields #[.int 52 0,.int 4 0,.ref 134]},
 {cls:=.type "code",data:=.fields #[.str (st "Unit") 644,.str (st "Unit") 645,.str (st "/claim/cut.py") 646,.int 50 0,.int 0 0,.int 0 0,.int 0 0,.int 0 0,.ref 125,.bool ag,.int 181 0,.ref 126,.none,.none,.none,.none,.int 647 0,.int 50 0,.str (st "/claim/cut.py") 648]},
 {cls:=.type "frame",slots:=#[aa (.ref 127),aa (.ref 3),aa (.ref 124),ae,aa (.str (st "js.codes") 187),ae,aa (.ref 0)]},
 tu [],
 nob,
 tu (Qe ["self", "name", "params"] 657),
 tu [],
 fcO (Cu 44 0) (st "Unit.__init__"),
 cdO (st "__init__") 654 (st "Unit.__init__") 655 656 52 3 129 130 (.ref 131) (.ref 132) 133 660 52 661,
 fnO (Cu 44 0) (st "Unit.__init__") .none (st "js.codes") 187 134,
 tu (Qe ["arguments_place", "captures", "cell_count", "code", "consts", "handlers", "is_strict", "lines", "local_count", "name", "param_places", "params", "self_slot", "units", "uses_arguments"] 663),
 ⟨.type "dict",ae,.dict (gu [e P "__module__" 649 (.str (st "js.codes") 187),e P "__firstlineno__" 653 (.int 50 652),e P "__init__" 662 (.ref 135),e P "__static_attributes__" 678 (.ref 136),e P "__dict__" 680 (.ref 139),e P "__weakref__" 682 (.ref 140),e P "__doc__" 683 (.none)]) 4,#[]⟩,
 {cls:=.type "type",data:=.cls {name:=st "Unit",bases:=[.type "object"],mro:=[.ref 138,.type "object"],ns:=137,qualname:=st "Unit" },slots:=#[ae,ae,aa (.str (st "Unit") 642),aa (.str (st "Unit") 650),aa (.builtin "object.__new__"),aa (.bool af)]},
 {cls:=.type "getset_descriptor",data:=.fields #[.str (st "__dict__") 679,.ref 138,.builtin "function.__dict__",.builtin "function.__dict__#set"]},
 {cls:=.type "getset_descriptor",data:=.fields #[.str (st "__weakref__") 681,.ref 138,.builtin "ExceptionGroup.__weakref__",.none]},
 {cls:=.type "super",data:=.fields #[.ref 138,.ref 138,.ref 138]},
 {cls:=.type "builtin_function_or_method",data:=.fields #[.builtin "object.__init_subclass__",.ref 138]}]++(
 fA 45 686 68 1 143 "arg_kind" ["op"] .none++(
 fA 46 693 70 2 150 "taken_count" ["op", "arg"] .none++(
 fA 47 701 72 1 157 "put_count" ["op"] .none++(
 fA 48 708 74 1 164 "is_last" ["op"] .none++(
 [{cls:=.type "list",data:=.seq #[.int 0 189,.int 1 191,.int 2 193,.int 3 195,.int 4 197,.int 5 199,.int 6 201,.int 7 203,.int 8 205,.int 9 207,.int 10 209,.int 82 263,.int 11 211,.int 12 213,.int 13 215,.int 14 217,.int 15 219,.int 16 221,.int 17 223,.int 43 225,.int 44 227,.int 53 229,.int 55 231,.int 58 233,.int 59 235,.int 60 237,.int 61 239,.int 62 241,.int 65 243,.int 67 247,.int 68 249,.int 69 251,.int 70 253,.int 78 259]}]++(
 fB 54 727 81 1 172 "is_count" ["value"] .none++(
 fB 55 734 83 2 179 "bound_of" ["unit", "kind"] .none++(
 fB 56 742 95 2 186 "check_arg" ["unit", "pc", "op", "arg", "kind", "bound"] .none++(
 fB 57 754 109 2 193 "check_place" ["unit", "place", "bound"] .none++(
 fB 58 763 114 1 200 "check_head" ["unit", "place", "inner", "is_frame", "index"] .none++(
 fB 59 774 127 2 207 "is_within" ["one", "other"] .none++(
 fB 60 782 129 1 214 "check_handlers" ["unit", "many", "at", "one", "other"] .none++(
 fB 61 793 139 2 221 "handler_at" ["handlers", "pc", "one"] .none++(
 fB 62 802 144 2 228 "stack_in_handler" ["handler", "stack", "kept"] .none++(
 fB 63 811 147 3 235 "ways_thrown" ["unit", "pc", "stack", "handler"] .none++(
 fB 64 821 154 3 242 "need_values" ["taken_things", "pc", "is_hole_let", "thing"] .none++(
 fB 65 831 158 2 249 "made_by" ["op", "pushed"] .none++(
 fB 66 839 164 3 256 "ways_on" ["unit", "pc", "stack", "op", "arg", "many", "things", "below", "behind", "found"] .none++(
 fB 67 855 185 2 263 "way_back" ["things", "pc"] .none++(
 fB 68 863 189 1 270 "stacks_of" ["unit", "found", "waiting", "pc", "stack", "later", "place", "told"] .none++(
 fB 69 877 204 1 277 "check_one" ["unit", "pc"] .none++(
 fB 70 885 210 1 284 "check_unit" ["unit", "waiting", "here"] .none++(
 Qx 72 896 217 1 291 "_law_draws"++(
 fC 73 902 222 2 296 "_law_take" ["draws", "many"] .none++(
 Qx 74 910 227 0 303 "_law_table"++(
 fC 75 916 239 0 308 "_law_quiet" ["text"] .none++(
 [tu [.none]]++(
 fC 76 923 243 3 316 "_law_put" ["box", "name", "given"] (.ref 315)++(
 fC 77 932 245 1 323 "_law_label" ["box"] .none++(
 fC 78 939 248 2 330 "_law_here" ["box", "label"] .none++(
 fC 79 947 250 2 337 "_law_simple" ["draws", "box", "form", "pool", "word", "pieces"] .none++(
 fC 80 959 259 4 344 "_law_statement" ["draws", "box", "depth", "deep", "form", "kept"] .none++(
 fC 81 971 279 5 351 "_law_test" ["draws", "box", "depth", "deep", "is_loop", "start_at", "other", "end"] .none++(
 fC 82 985 290 4 358 "_law_keys" ["draws", "box", "depth", "deep", "start_at", "end"] .none++(
 fC 83 997 302 5 365 "_law_guarded" ["draws", "box", "depth", "deep", "is_finally", "start_at", "end", "handler", "behind"] .none++(
 Qx 84 1012 321 2 372 "_law_made"++(
 fC 85 1018 331 3 377 "_law_bent" ["draws", "drawn", "table", "form", "pc", "op", "given", "other", "at", "spot", "row"] .none++(
 fC 86 1035 351 2 384 "_law_args_right" ["drawn", "table", "bounds", "op", "given", "sort", "is_name_wrong"] .none++(
 Qx 87 1048 359 1 391 "_law_handlers_right"++(
 Qx 88 1054 370 4 396 "_law_ways"++(
 Qx 89 1060 388 5 401 "_law_later"++(
 fC 90 1066 396 3 406 "_law_stacks" ["drawn", "table", "quiet", "found", "waiting", "pc", "stack", "later"] .none++(
 fC 91 1080 409 2 413 "_law_is_right" ["drawn", "table", "found", "pc"] .none++(
 fC 92 1090 419 1 420 "_law_is_let" ["drawn"] .none++(
 fC 93 1097 425 1 427 "law" ["script", "draws", "table", "box", "turn", "drawn"] .none))))))))))))))))))))))))))))))))))))))))))))))
def FL (P:eJ)(v:ax)(m k:Nat)(b:Bool):List Obj:=[boot_o_0 P,boot_o_1 P,o2 P b,o3 P v m,boot_o_4 P,boot_o_5 P,boot_o_6 P,boot_o_7 P,boot_o_8 P,boot_o_9 P,boot_o_10 P,{cls:=.type "tuple",data:=.seq #[]},ti k,{cls:=.type "code",data:=.fields #[.str (st "<module>") 182,.str (st "<module>") 183,.str (st "/claim/cut.py") 184,.int 1 0,.int 0 0,.int 0 0,.int 0 0,.int 0 0,.ref 11,.bool ag,.int 181 0,.ref 12,.none,.none,.none,.none,.int 185 0,.int 1 0,.str (st "/claim/cut.py") 186]},{cls:=.type "frame",slots:=#[aa (.ref 13),aa (.ref 3),aa (.ref 3),ae,aa (.str (st "__main__") 164),ae,aa (.ref 0)]}]++FLr P
def hp (P:eJ)(n:Nat)(v:ax)(m k:Nat)(b:Bool):bV:={objs:=gu ((FL P v m k b).take n)}
noncomputable abbrev pw:BA:=oU
def E0:Env:={scope:=pw.main.scope,locals:=mainNs,globals:=mainNs,cells:=[],code:=.ref 13,frame:=aa 14}
def bd:List iM:=behindTheImports pw
def C0:Code:=.body bd E0
def gp (a b:Nat):List iM:=(bd.drop a).take (b-a)
noncomputable abbrev Q0:Pos:=⟨0,0,0,0⟩
abbrev SH (t n:Nat)(v:ax)(m k:Nat)(b:Bool)(w:c0)(os:jy):av:=⟨hp w.params n v m k b,Array.mk [],gZ,t,os⟩
def Y0:c0->jy->av:=SH 187 15 (.str (st "__main__") 164) 9 0 ag
def Y1:c0->jy->av:=SH 269 15 (.str (st "js.codes") 187) 49 0 ag
def Y2:c0->jy->av:=SH 611 102 (.str (st "js.codes") 187) 51 0 ag
def Y3:c0->jy->av:=SH 686 143 (.str (st "js.codes") 187) 53 2 af
def Y4:c0->jy->av:=SH 793 221 (.str (st "js.stackcheck") 715) 68 13 af
def Y5:c0->jy->av:=SH 923 315 (.str (st "law_nt0409_01") 894) 82 27 af
def Y6:c0->jy->av:=SH 1109 434 (.str (st "law_nt0409_01") 894) 100 45 af
theorem aaU (w:c0):(λos=>topGo gF pw w 11 (aa (.ref 6)) 12 ⟨iw w.params,Array.mk [],gZ,yv,os⟩ (topStub pw))=λos=>aa (Y0 w os,⟨denote gF C0,C0,Q0,[mD Q0]⟩):=by
 rw[bN,PySem.W.Fast.te15667345088766844465,PySem.W.Fast.te11892475500146522536]
 kernel_rfl
theorem aaT (w:c0):(λos=>B2 gF pw w 11 (aa (.ref 6)) 1 1 (Y0 w os) (blockOf bd E0 C0 Q0 [mD Q0]))=λos=>aa (.next,Y0 w os,C0,Q0):=by
 rw[bN,cu]
 kernel_rfl
theorem acK (w:c0):(λos=>B2 gF pw w 11 (aa (.ref 6)) 1 370 (Y0 w os) (ic (gp 0 41) E0 C0 ⟨0,0,0,0⟩ [mD Q0]))=λos=>aa (.next,Y1 w os,C0,⟨41,0,41,8⟩):=by
 rw[bN,cu]
 kernel_rfl
theorem acJ (w:c0):(λos=>B2 gF pw w 11 (aa (.ref 6)) 1 541 (Y1 w os) (ic (gp 41 43) E0 C0 ⟨41,0,41,8⟩ [mD Q0]))=λos=>aa (.next,Y2 w os,C0,⟨43,0,43,8⟩):=by
 rw[bN,cu]
 kernel_rfl
theorem acI (w:c0):(λos=>B2 gF pw w 11 (aa (.ref 6)) 1 468 (Y2 w os) (ic (gp 43 45) E0 C0 ⟨43,0,43,8⟩ [mD Q0]))=λos=>aa (.next,Y3 w os,C0,⟨50,0,67,30⟩):=by
 rw[bN,cu]
 kernel_rfl
theorem acH (w:c0):(λos=>B2 gF pw w 11 (aa (.ref 6)) 1 467 (Y3 w os) (ic (gp 45 61) E0 C0 ⟨50,0,67,30⟩ [mD Q0]))=λos=>aa (.next,Y4 w os,C0,⟨129,0,138,68⟩):=by
 rw[bN,cu]
 kernel_rfl
theorem acG (w:c0):(λos=>B2 gF pw w 11 (aa (.ref 6)) 1 442 (Y4 w os) (ic (gp 61 76) E0 C0 ⟨129,0,138,68⟩ [mD Q0]))=λos=>aa (.next,Y5 w os,C0,⟨239,0,242,26⟩):=by
 rw[bN,cu]
 kernel_rfl
theorem acF (w:c0):(λos=>B2 gF pw w 11 (aa (.ref 6)) 1 576 (Y5 w os) (ic (gp 76 94) E0 C0 ⟨239,0,242,26⟩ [mD Q0]))=λos=>aa (.next,Y6 w os,C0,⟨425,0,439,15⟩):=by
 rw[bN,cu]
 kernel_rfl
theorem aaS (w:c0):(λos=>topRun gF pw w 11 (aa (.ref 6)) 2 (Y6 w os) ⟨doneF .next,C0,⟨425,0,439,15⟩,[mD Q0]⟩)=λos=>aa (Y6 w os):=by
 rw[bN,PySem.W.Fast.te14082659384304107361]
 kernel_rfl
noncomputable def KA:List aJ:=[2,3,15,16,17,18,19,20,21,22,23,24,25,26,27,28,29,30,31,32,33,34,35,36,37,38,39,40,41,42,43,44,45,46,47,48,49,50,51,52,53,54,55,56,57,58,59,60,61,62,63,64,65,66,67,68,69,70,71,72,73,74,75,76,77,78,79,80,81,82,83,84,85,86,87,88,89,90,91,92,93,94,95,96,97,98,99,100,101,114,115,117,118,119,134,135,137,138,139,140,148,149,155,156,162,163,169,170,171,177,178,184,185,191,192,198,199,205,206,212,213,219,220,226,227,233,234,240,241,247,248,254,255,261,262,268,269,275,276,282,283,289,290,294,295,301,302,306,307,313,314,315,321,322,328,329,335,336,342,343,349,350,356,357,363,364,370,371,375,376,382,383,389,390,394,395,399,400,404,405,411,412,418,419,425,426,432,433]
def K (P:eJ):qW:=KA.map λa=>(a,((FL P (.str (st "law_nt0409_01") 894) 100 45 af)[a]?).getD ⟨.none,ae,.plain,#[]⟩)
noncomputable def pz:List aJ:=[135,149,156,163,170,178,185,192,199,206,213,220,227,234,241,248,255,262,269,276,283,290,295,302,307,314,322,329,336,343,350,357,364,371,376,383,390,395,400,405,412,419,426,433]
noncomputable abbrev lw:OpenLaw:=PySem.Challenge.rw_nt0409_01
noncomputable def F1:List iM->Nat->List iM
 |[],_=>[]
 |s::r,n=>if n==41||n==42||n==53||n==76 then F1 r (n+1)else s::F1 r (n+1)
def vw:BA:={pw with main:={pw.main with body:=F1 pw.main.body 0}}
def loose:List Str:=[st "OPERATIONS",st "LAST_OPS",st "QUIET_OPS",st "_law_put"]
def Hk:Hook:=kHook K KA (λU=>by kernel_rfl)
theorem aao:bd=gp 0 41++(gp 41 43++(gp 43 45++(gp 45 61++(gp 61 76++(gp 76 94++[]))))):=by kernel_rfl
def H1 (P:eJ):bV:=hp P 434 (.str (st "law_nt0409_01") 894) 100 45 af
abbrev Sf (w:c0)(os:jy):av:=⟨H1 w.params,Array.mk [],gZ,1109,os⟩
theorem aax (w:c0)(os:jy):Y6 w os=Sf w os:=rfl
theorem aaR {M:Nat}(hM:M=12+(1+(370+(541+(468+(467+(442+(576+2))))))))(w:c0)(os:jy):topRun gF pw w 11 (aa (.ref 6)) M ⟨iw w.params,Array.mk [],gZ,yv,os⟩ (topStub pw)=aa (Y6 w os):=by subst hM;have r7:=congrFun (aaS w) os;have r6:=sN (n:=576) (N:=2) (rest:=[]) (congrFun (acF w) os) (piece_nil r7);have r5:=sN (n:=442) (N:=576+2) (congrFun (acG w) os) r6;have r4:=sN (n:=467) (N:=442+(576+2)) (congrFun (acH w) os) r5;have r3:=sN (n:=468) (N:=467+(442+(576+2))) (congrFun (acI w) os) r4;have r2:=sN (n:=541) (N:=468+(467+(442+(576+2)))) (congrFun (acJ w) os) r3;have r1:=sN (n:=370) (N:=541+(468+(467+(442+(576+2))))) (congrFun (acK w) os) r2;rw[<- aao]at r1;have r0:=piece_block (n:=1) (N:=370+(541+(468+(467+(442+(576+2)))))) (congrFun (aaT w) os) r1;exact go_top (n:=12) (N:=1+(370+(541+(468+(467+(442+(576+2))))))) (congrFun (aaU w) os) r0
theorem aaQ (w:c0)(os:jy):topRun gF pw w 11 (aa (.ref 6)) 2879 ⟨iw w.params,Array.mk [],gZ,yv,os⟩ (topStub pw)=aa (Sf w os) :=
 (aaR (by decide) w os).trans (congrArg aa (aax w os))
theorem YN:∀w:c0,(fencedOpening gF pw w 5842).map (λs=>(s.heap,s.gens,s.drawn,s.toks))=aa (iw w.params,Array.mk [],gZ,yv) :=
 boot_open (by kernel_rfl) (by decide) (λs=>by kernel_rfl)
theorem QX:∀w:c0,((iw w.params).isNs cF&&(Array.mk []:Array GenState).size==0,(iw w.params).objs.size,(iw w.params).nsMap cF "__annotations__")=(af,11,aa (.ref 6)):=λw=>by kernel_rfl
theorem k1 (w:c0):(λos=>(staticsOk (ju pw.main.body) (iw w.params) (Sf w os).heap&&namesBound pw (Sf w os).heap&&gensDone (Sf w os)&&laidKept (iw w.params) (Sf w os).heap))=λos=>af:=by kernel_rfl
def QB (s:av):Bool:=xlAt vw [] s&&recOk (RowW.records lw.row.toRowW) s
theorem k2a (w:c0):(λos=>seen ((recsOf vw).map (·.name)) (ownsOf vw) [] {Sf w os with gens:=#[]})=λos=>expectedOf vw:=by
 rw[PySem.W.Fast.te5160383126252970620,nZ,PySem.W.Fast.te5991557255702980513]
 kernel_rfl
theorem k2b (w:c0):(λos=>(Sf w os).heap.bltView)=λos=>bltViewBooted:=by kernel_rfl
theorem k2c (w:c0):(λos=>((Sf w os).heap.keysOk (looseW vw loose) ((recsOf vw).map (·.name)) ((litsOf vw).map (·.1)) ((clssOf vw (looseW vw loose)).map (·.name))&&(Sf w os).heap.accountedOkI (ju pw.main.body)&&(Sf w os).heap.isNs cF&&(Sf w os).heap.isNs gY&&tablesOk vw (Sf w os).heap&&QB (Sf w os)&&(if af then(Sf w os).gens.size==0 else !leftWithCleanup (Sf w os).gens)))=λos=>af:=by
 rw[PySem.W.Fast.te10880121769531294198,oz,nZ,PySem.W.Fast.te7409074990110511671,PySem.W.Fast.te13664370479719496447,PySem.W.Fast.te14722251495701143533,PySem.W.Fast.te10994771534591457954,PySem.W.Fast.te5923862056798008813]
 kernel_rfl
theorem k2d (w:c0):(λos=>tabsOk vw (Sf w os))=λos=>af:=by
 rw[PySem.W.Fast.te479339242167458305]
 kernel_rfl
theorem k2e (w:c0):(λos=>pinSeenD vw (drecsOf vw) (Sf w os))=λos=>pinGoodD (drecsOf vw):=by
 rw[PySem.W.Fast.te16090120013241838585,PySem.W.Fast.te3247288618530077131]
 kernel_rfl
theorem k2f (w:c0):(λos=>plainSeenE vw (looseW vw loose) (Sf w os))=λos=>plainGoodE vw (looseW vw loose):=by
 rw[PySem.W.Fast.te2386780881361962483,oz]
 kernel_rfl
theorem k2g (w:c0):(λos=>plainSeenD vw loose (Sf w os))=λos=>plainGoodD vw loose:=by
 rw[PySem.W.Fast.te11698064438423848299]
 kernel_rfl
theorem k2h (w:c0):(λos=>wideSeen vw (Sf w os))=λos=>wideGood vw:=by
 rw[PySem.W.Fast.te7317090234206586261]
 kernel_rfl
theorem k2i (w:c0):(λos=>clsSeenW vw loose (Sf w os))=λos=>clsGoodW vw loose:=by
 rw[PySem.W.Fast.te7369524293546568484]
 kernel_rfl
theorem k2 (w:c0)(os:jy):openSeen vw loose (ju pw.main.body) QB af (Sf w os)=openGood vw loose:=by have a:=congrFun (k2a w) os;have b:=congrFun (k2b w) os;have c:=congrFun (k2c w) os;have d:=congrFun (k2d w) os;have e:=congrFun (k2e w) os;have f:=congrFun (k2f w) os;have g:=congrFun (k2g w) os;have h:=congrFun (k2h w) os;have i:=congrFun (k2i w) os;unfold openSeen openGood;exact iV a (iV b (iV c (iV d (iV e (iV f (iV g (iV h i)))))))
theorem k3 (w:c0):(λos=>Hk.obs (Sf w os))=λos=>Hk.val w:=by kernel_rfl
theorem Oy (w:c0):(λos=>((staticsOk (ju pw.main.body) (iw w.params) (H1 w.params)&&namesBound pw (H1 w.params)&&gensDone ⟨H1 w.params,Array.mk [],gZ,1109,os⟩&&laidKept (iw w.params) (H1 w.params)),
  openSeen vw loose (ju pw.main.body) QB af ⟨H1 w.params,Array.mk [],gZ,1109,os⟩,Hk.obs ⟨H1 w.params,Array.mk [],gZ,1109,os⟩))=λU=>(af,openGood vw loose,Hk.val w) :=
 funext λos=>iV (congrFun (k1 w) os) (iV (k2 w os) (congrFun (k3 w) os))
theorem Zc:LeftO pw vw loose QB Hk.obs Hk.val 5842 :=
 LeftO.of_pieces (p:=pw) (q:=vw) (loose:=loose) (Xt:=QB) (Yf:=Hk.obs) (Ya:=Hk.val) (N:=5842) (g0:=af) (H₀:=iw) (H₁:=H1) (gs₀:=Array.mk []) (gs₁:=Array.mk []) (d₀:=gZ) (d₁:=gZ) (k₀:=yv) (k₁:=1109) (m₀:=11) (ann:=aa (.ref 6)) (M:=2879) YN QX aaQ (by decide) Oy
theorem lo1:(sreFenced lw.row.prog.main&&((moduleNames lw.row.prog.main.body).isEmpty||lookedIntoSs (moduleNames lw.row.prog.main.body) lw.row.prog.main.body))=af:=by kernel_rfl
theorem lo2:namesResolve lw.row.prog=af:=by rw[PySem.W.Fast.te8377067652309620493];kernel_rfl
theorem lo3:lw.row.prog.boundNames.all (λn=>!worldNames.contains n)=af:=by rw[m6,PySem.W.Fast.te14412699480532031325];kernel_rfl
theorem lo4:noRoadLSs {strict:=!(ju lw.row.prog.main.body).all cThrough.contains,foot:=ae,bare:=(["vars", "dir", "locals"]:List Str).filter (readsOut lw.row.prog lw.row.prog.main.body)} lw.row.prog.main.body=af:=by rw[PySem.W.Fast.te8326940854005059898];kernel_rfl
theorem lo5:(namesMeet lw.row.prog lw.row.prog.main.body λU n=>attrL n)=af:=by rw[PySem.W.Fast.te17119622794617984870];kernel_rfl
theorem lo:looksOpen lw.row.prog=af:=by unfold looksOpen;exact cR (cR (cR (cR lo1 lo2) lo3) lo4) lo5
theorem part:lw.row.partSaid=af:=by
 unfold OpenRow.partSaid;rw[lo]
 kernel_rfl
theorem Je:lw.row.wellSaid=af:=by
 unfold OpenRow.wellSaid;refine cR (cR part ?_) ?_
 .rw[m6];kernel_rfl
 .rw[PySem.W.Fast.te12749700546528644094];kernel_rfl
theorem Y9:lw.wellSaid=af:=by unfold OpenLaw.wellSaid;rw[Je];refine cR (cR (cR (cR (cR (cR (cR (cR (cR (cR (cR (cR (cR (cR (cR (cR (cR (cR rfl ?_) ?_) ?_) ?_) ?_) ?_) ?_) ?_) ?_) ?_) ?_) ?_) ?_) ?_) ?_) ?_) ?_) ?_;all_goals decide +kernel
def dk:DefRec×List (Str×b8):=(defOf vw (st "law")).getD (⟨st "",⟨[],[],ae,[],[],ae,[]⟩,[],⟨.function,[],ag,ag,[]⟩,⟨0,0,0,0⟩⟩,[])
theorem dk1:defOf vw lw.row.name=aa (dk.1,dk.2):=by kernel_rfl
theorem dk2:lw.row.prog.theDef lw.row.name=aa (dk.1.params,dk.1.body,dk.1.scope):=by kernel_rfl
theorem dk3:kwWritten? dk.1.params.kwonlyargs dk.1.params.kw_defaults=aa dk.2:=by kernel_rfl
theorem op1:(chainsOk vw&&opensWell lw.row.prog&&(frees lw.row.toRowW&&lw.row.within.isEmpty))=af:=by refine cR (cR ?_ ?_) ?_<;>decide +kernel
theorem Qc:lw.row.prog.bare:=⟨rfl,rfl,rfl,rfl,rfl,by decide +kernel⟩
theorem wit:lw.row.toRowW.promised:=⟨[.list []],by decide +kernel,by decide +kernel⟩
theorem hd3 (walk:WalkO vw loose (XL vw []) Hk.says lw.row.toRowW dk.1 dk.2 λf vs=>PySem.call f vs):lw.Holds :=
 holds_law Y9 λaa2=>holds_open (r:=lw.row) (q:=vw) (loose:=loose) (Xt:=QB) (XP:=XL vw []) (Yf:=Hk.obs) (Ya:=Hk.val) (YP:=Hk.says) (d:=dk.1) (kwd:=dk.2) (N:=5842)
  Zc Hk.of Hk.keeps (λs e=>xl_of s (bG.mp e).1) XL.keeps dk1 dk2 dk3 (λs e=>recFacts_of (bG.mp e).2) rfl aa2 op1 Qc wit walk
end Internal.Hd
end
noncomputable section
open PySem PySem.W PyProof.Rows PySem.SeqAt PySem.Calls
namespace Internal
variable {q:iM->Prop}{α:Type}{T:String}{vs:List ax}{b:ax}{f W n:Nat}{s:av}{o:Obj}{Nb fB a:aJ}{aab fd:ie}{mN mb mg:Str->Option ax}{w:c0}{K:qW}{h:bV}
theorem ye {o:Option α}{p:α->Bool}(h:o.any p=af):∃a,o=aa a/\p a=af:=by
 induction o with
 |none=>exact jH h
 |some a=>exact⟨a,rfl,h⟩
theorem nG    (X:K.In h)(e:K.lookup a=aa o):h.get? a=aa o:=X a o e
noncomputable def N6 (T:String)(o:Obj):Option (List ax):=match o.cls with
 |.type n=>match o.dict with
  |none=>match o.data with
   |.seq xs _=>if n=T/\o.slots.size=0 then aa xs.toList else ae
   |_=>ae
  |some _=>ae
 |_=>ae
theorem IZ   (e:N6 T o=aa vs):∃n,o={cls:=.type T,data:=.seq vs.toArray n}:=by
 obtain⟨c,d,dt,sl⟩:=o;induction c using Value.casesOn with
 |type n =>
  induction d with
  |none =>
   induction dt using PySem.Data.casesOn with
   |seq xs k =>
    change (if n=T/\sl.size=0 then aa xs.toList else ae)=aa vs at e;by_cases hc:n=T/\sl.size=0
    .rw[if_pos hc]at e;obtain rfl:=aj e;obtain⟨rfl,hs⟩:=hc;exact⟨k,by rw[CV,Array.eq_empty_of_size_eq_zero hs]⟩
    .rw[if_neg hc]at e;exact fv e
   |_=>exact fv e
  |some=>exact fv e
 |_=>exact fv e
noncomputable def zc (K:qW)(T:String):ax->Option (List ax)
 |.ref a=>(K.lookup a).bind (N6 T)
 |_=>ae
theorem zb   {w:ax}(X:K.In h)(e:zc K T w=aa vs):∃a n,w=.ref a/\h.get? a=aa {cls:=.type T,data:=.seq vs.toArray n}:=by
 induction w using Value.casesOn with
 |ref a =>obtain⟨o,hl,e⟩:=mA.1 (e:(K.lookup a).bind (N6 T)=aa vs);obtain⟨n,rfl⟩:=IZ e;exact⟨a,n,rfl,nG X hl⟩
 |_=>exact fv e
mutual
noncomputable def QM (K:qW):V->ax->Bool
 |.int i,w=>(match w with|.int j _=>j==i|_=>ag)
 |.str s,w=>(match w with|.str t _=>decide (t=s)|_=>ag)
 |.tup l,w=>(zc K "tuple" w).any λvs=>EF K l vs
 |.lst l,w=>(zc K "list" w).any λvs=>EF K l vs
 |_,_=>ag
termination_by structural x=>x
noncomputable def EF (K:qW):List V->List ax->Bool
 |[],ws=>ws.isEmpty
 |v::l,ws=>(match ws with|w::r=>QM K v w&&EF K l r | []=>ag)
termination_by structural x=>x
end
mutual
theorem EG {K:qW}{h:bV}(X:K.In h):∀(v:V) {w:ax},QM K v w=af->bz [] [] h v w
 |.none,w,e=>jH e
 |.bool _,w,e=>jH e
 |.loc _,w,e=>jH e
 |.int i,w,e=>by
  induction w using Value.casesOn with
  |int j t =>obtain rfl:j=i:=eq_of_beq (e:(j==i)=af);exact bB _ rfl
  |_=>exact jH e
 |.str i,w,e=>by
  induction w using Value.casesOn with
  |str j t =>obtain rfl:j=i:=of_decide_eq_true e;exact bB _ rfl
  |_=>exact jH e
 |.tup l,w,e=>by refine dB (ye (e:(zc K _ w).any _=af)) λvs h1 h2=>?_;(refine Ea (zb X h1) λa n z1 h3=>?_;subst z1);exact bB a ⟨vs,rfl,(λU q=>nomatch q),(λq=>nomatch q),⟨n,h3⟩,xG X l h2⟩
 |.lst l,w,e=>by refine dB (ye (e:(zc K _ w).any _=af)) λvs h1 h2=>?_;(refine Ea (zb X h1) λa n z1 h3=>?_;subst z1);exact bB a ⟨vs,rfl,(λU q=>nomatch q),(λq=>nomatch q),⟨n,h3⟩,xG X l h2⟩
theorem xG {K:qW}{h:bV}(X:K.In h):∀(l:List V) {ws:List ax},EF K l ws=af->bt [] [] h l ws
 |[],ws,e=>by
  induction ws with
  |nil=>exact .nil
  |cons=>exact jH e
 |v::l,ws,e=>by
  induction ws with
  |nil=>exact jH e
  |cons w r =>have e:=bG.1 (e:(QM K v w&&EF K l r)=af);exact .cons (EG X v e.1) (xG X l e.2)
end
open Hd in
abbrev ZA (w:c0)(h:bV):ng:={prog:=Hd.lw.row.prog,w:=w,base:=h,K:=Hd.K w.params,C:=138,CB:=118,fa:=Hd.pz}
def gvB (K:qW):Bool:=(x8.zip G).all λp=>match Eb K cF p.1 with
 |some (aa w)=>QM K p.2 w
 |_=>ag
theorem Z0 (P:eJ):gvB (Hd.K P)=af:=by kernel_rfl
def fnB (K:qW):Bool:=((rz.zip Hd.pz).drop 1).all λp=>decide (Eb K cF p.1=aa (aa (.ref p.2)))
theorem Z9 (P:eJ):fnB (Hd.K P)=af:=by kernel_rfl
def biB (K:qW):Bool:=gS.all λp=>decide (Eb K cF p.1=aa ae)&&decide (xa p.1=aa p.2)&&decide (p.1≠"__name__")
theorem aan (P:eJ):biB (Hd.K P)=af:=by kernel_rfl
theorem QN (P:eJ):Eb (Hd.K P) cF (st "Unit")=aa (aa (.ref 138)):=by kernel_rfl
theorem aaq (P:eJ):Eb (Hd.K P) cF (st "BadCode")=aa (aa (.ref 118)):=by kernel_rfl
theorem xW  {P:ie->Bool}(h:(match K.lookup a with
 |some o=>(match o.data with|.func fd=>P fd|_=>ag)
 |none=>ag)=af):∃o fd,K.lookup a=aa o/\o.data=.func fd/\P fd=af:=by
 induction e:K.lookup a with
 |none=>rw[e]at h;exact jH h
 |some o =>
  rw[e]at h;dsimp only at h;induction e2:o.data using PySem.Data.casesOn with
  |func fd=>rw[e2]at h;exact⟨o,fd,rfl,e2,h⟩
  |_=>rw[e2]at h;exact jH h
def foB (K:qW):Bool:=Hd.pz.all λa=>match K.lookup a with
 |some o=>(match o.data with|.func _=>af|_=>ag)
 |none=>ag
theorem Z8 (P:eJ):foB (Hd.K P)=af:=by kernel_rfl
theorem xm {β:Type}{l:List α}{r:List β}{i:Nat}{a:α}{b:β}(h1:l[i]?=aa a)(h2:r[i]?=aa b):(l.zip r)[i]?=aa (a,b):=by rw[List.getElem?_zip_eq_some];exact⟨h1,h2⟩
set_option tactic.hygienic true in
theorem O4   (X:(Hd.K w.params).In h)(g:h.Ns cF mg)(b:h.Ns gY mb)(hb:∀x:Str,x≠"__name__"->mb x=xa x):QD (ZA w h) mg mb where
 g:=g
 b:=b
 gv:=λi x v h1 h2=>by
  have:=bI.mp (Z0 w.params) _ (aN (xm h1 h2));change (match Eb (Hd.K w.params) cF x with|some (aa u)=>QM (Hd.K w.params) v u|_=>ag)=af at this;induction hu:Eb (Hd.K w.params) cF x with
  |none=>rw[hu]at this;exact jH this
  |some o =>
   rw[hu]at this;induction o with
   |none=>exact jH this
   |some u=>exact⟨u,mg_of X g hu,EG X v this⟩
 bi:=λx v hx=>by have:=bI.mp (aan w.params) _ hx;simp only[bx,decide_eq_true_eq]at this;exact⟨mg_none_of X g this.1.1,by rw[hb x this.2];exact this.1.2⟩
 fn:=λf x a h1 h2 h0=>by
  have hz:=xm h1 h2;have:((rz.zip Hd.pz).drop 1)[f-1]?=aa (x,a):=by rw[rG,show 1+(f-1)=f by exact abu h0];exact hz
  have:=bI.mp (Z9 w.params) _ (aN this);exact mg_of X g (of_decide_eq_true this)
 fo:=λf a h=>by have:=bI.mp (Z8 w.params) _ (aN h);obtain⟨o,fd,ho,hd,_⟩:=xW (P:=λU=>af) this;exact⟨o,fd,nG X ho,hd⟩
 un:=mg_of X g (QN w.params)
 bc:=mg_of X g (aaq w.params)
def clB (K:qW):Bool:=decide (yt K (.ref 138) "__getattribute__"=aa (aa (.builtin "object.__getattribute__")))&&decide (yt K (.ref 138) "__setattr__"=aa (aa (.builtin "object.__setattr__")))&&plainOver K 138&&hasDictIn K 138 &&
 fields.all (λx=>decide (yt K (.ref 138) x=aa ae))&&makesIn K 138&&keepIn K (.ref 138)&&decide (yt K (.ref 138) "__init__"=aa (aa (.ref 135)))&&decide (typeIn K (.ref 135)=aa (.type "function"))
theorem M5 (P:eJ):clB (Hd.K P)=af:=by kernel_rfl
theorem Pc  (X:(Hd.K w.params).In h):CU (ZA w h):=by have:=M5 w.params;simp only[clB,bx,decide_eq_true_eq,bI]at this;obtain⟨⟨⟨⟨⟨⟨⟨⟨h1,h2⟩,h3⟩,h4⟩,h5⟩,h6⟩,h7⟩,h8⟩,h9⟩:=this;exact⟨X,h1,h2,h3,h4,h5⟩
noncomputable def codeB (K:qW)(fd:ie):Bool:=match fd.code with
 |.ref c=>(match K.lookup c with
  |some o=>(match o.data with
   |.fields vs=>(match (vs[1]? : Option ax)with
    |some (Value.str q _)=>decide (q=fd.qualname)
    |_=>ag)
   |_=>ag)
  |none=>ag)
 |_=>ag
theorem zX   (X:K.In h)(e:codeB K fd=af):h.CodeRec fd.code fd.qualname:=by
 delta codeB at e;induction hc:fd.code using Value.casesOn with
 |ref c =>
  rw[hc]at e;dsimp only at e;induction ho:K.lookup c with
  |none=>rw[ho]at e;exact jH e
  |some o =>
   rw[ho]at e;dsimp only at e;induction hv:o.data using PySem.Data.casesOn with
   |fields vs =>
    rw[hv]at e;dsimp only at e;induction hq:(vs[1]? : Option ax)with
    |none=>rw[hq]at e;exact jH e
    |some u =>
     rw[hq]at e;induction u using Value.casesOn with
     |str q t=>exact⟨c,o,vs,t,rfl,nG X ho,hv,by rw[hq,of_decide_eq_true e]⟩
     |_=>exact jH e
   |_=>rw[hv]at e;exact jH e
 |_=>rw[hc]at e;exact jH e
noncomputable def bodyOf (fd:ie):Option (List iM):=match fd.body with
 |.stmts b=>aa b
 |_=>ae
theorem CK {body:List iM}(h:bodyOf fd=aa body):fd.body=.stmts body:=by
 delta bodyOf at h;induction e:fd.body with
 |stmts b=>rw[e]at h;obtain rfl:=aj h;rfl
 |_=>rw[e]at h;exact fv h
section
variable (mg mb:Str->Option ax)(W:Nat)(fB Nb:aJ)(mN:Str->Option ax)(fx:ie)
def fdB (K:qW)(fd:ie)(fn:Fn)(vt:List Str):Bool :=
 !fd.scope.isCoroutine&&!fd.scope.isGenerator&&decide (fd.scope.kind=.function)&&codeB K fd&&fd.closure.isEmpty&&decide (fd.globals=cF)&&decide (fd.builtins=gY) &&
 decide (fn.np<=vt.length)&&decide (fn.np<=fn.nv)&&decide vt.Nodup&&decide (fd.scope.names.map (·.1)).Nodup&&(vt.take fn.np).all (λx=>decide (fd.scope.names.lookup x=aa .local)||decide (fd.scope.names.lookup x=aa .cell)) &&
 nB fd.params&&decide (fd.params.args.map (·.arg)=vt.take fn.np)&&(bodyOf fd).any λb=>(Qz (mg:=mg) (mb:=mb) (W:=W) (fB:=fB) (Nb:=Nb) (mN:=mN) (fd:=fx) ⟨fd.scope,vt,[]⟩ fn.body b).y
def Hb (K:qW)(a:aJ)(fn:Fn)(vt:List Str):Bool:=match K.lookup a with
 |some o=>(match o.data with
  |.func fd=>fdB mg mb W fB Nb mN fx K fd fn vt&&(if fn.df.isEmpty then decide (fd.defaults=.none)else af)
  |_=>ag)
 |none=>ag
def vts:List (List Str):=[Iw,yT,tT,xw,AG,yR,yS,xF,tX,vM,xD,qa,vK,oH,tS,tU,AF,AE,yJ,xv,xE,vL,xC,yM,xx,xy,kr,xB,yP,vI,q5,yL,yO,tW,yN,yQ,pZ,mT,yK,xA,vH,sI,vJ,Nu]
def Kj (K:qW)(i j:Nat):Bool:=(((Hd.pz.zip (F.zip vts)).drop i).take j).all λp=>Hb mg mb W fB Nb mN fx K p.1 p.2.1 p.2.2
theorem Ki (P:eJ):Kj mg mb W fB Nb mN fx (Hd.K P) 0 15=af:=by kernel_rfl
theorem Kg (P:eJ):Kj mg mb W fB Nb mN fx (Hd.K P) 15 15=af:=by kernel_rfl
theorem Kf (P:eJ):Kj mg mb W fB Nb mN fx (Hd.K P) 30 15=af:=by kernel_rfl
end
section
variable (mg mb:Str->Option ax)(W:Nat)(fB Nb:aJ)(mN:Str->Option ax)(fx:ie)
theorem O6 (P:eJ)(h:Hd.pz[f]?=aa a):∃fn vt,F[f]?=aa fn/\vts[f]?=aa vt/\Hb mg mb W fB Nb mN fx (Hd.K P) a fn vt=af:=by
 have hf:f<44:=(aA.mp h).1;obtain⟨fn,h1⟩:∃fn,F[f]?=aa fn:=⟨_,bA (hf:f<F.length)⟩;obtain⟨vt,h2⟩:∃vt,vts[f]?=aa vt:=⟨_,bA (hf:f<vts.length)⟩;have hz:=xm h (xm h1 h2);refine⟨fn,vt,h1,h2,?_⟩;have key:∀i,i<=f->f<i+15->Kj mg mb W fB Nb mN fx (Hd.K P) i 15=af->Hb mg mb W fB Nb mN fx (Hd.K P) a fn vt=af:=λi l1 l2 e=>by refine bI.mp e (a,fn,vt) (aN (i:=f-i) ?_);rw[List.getElem?_take,if_pos (abW l2),rG,show i+(f-i)=f by exact abV l1];exact hz
 rcases jC f 15 with q|q
 .exact key 0 abU (abT q) (Ki mg mb W fB Nb mN fx P)
 .rcases jC f 30 with q'|q'
  .exact key 15 q (abS q') (Kg mg mb W fB Nb mN fx P)
  .exact key 30 q' (abR hf) (Kf mg mb W fB Nb mN fx P)
end
theorem aad {fn:Fn}(h:F[f]?=aa fn)(e:fn.df.isEmpty=ag):f=26:=by
 have hf:f<44:=(aA.mp h).1;have key:∀f<44,((F[f]?).map (·.df.isEmpty))=aa af\/f=26:=by decide +kernel
 rcases key f hf with q|q
 .rw[h]at q;cases (aj q).symm.trans e
 .exact q
section
theorem acL (X:(Hd.K w.params).In h)(nl:h.NoLimit)(B:vq (ZA w h) mg mb fB Nb mN aab)
  (put:∀fd,(∃o,h.get? 322=aa o/\o.data=.func fd)->∀xs ws ρ X (s:av) σ,Rel (ZA w h) ρ X σ s.heap->bt ρ X s.heap xs ws->xs.length<=3->3<=xs.length+1 ->
   ∃Az,BG s fd ⟨ws,[]⟩ ((kr.take 3).zip Az)/\bt ρ X s.heap (xs++[V.none].drop (xs.length+1-3)) Az)
  (f:Nat)(a:aJ)(hf:(ZA w h).fa[f]?=aa a):∃fn vt fd body,F[f]?=aa fn/\FnAt (ZA w h) a fn vt fd body /\
   ∀(c:Cx),c.Z=ZA w h->Ok c mg mb->c.A.depth+2<e9->bW c->c.env.scope=fd.scope->c.vt=vt->c.ct=[]->c.cs=[]->DW c W fn.body body:=by
 refine mI (O6 mg mb W fB Nb mN aab w.params hf) λfn vt h1 h2 hc=>?_;obtain⟨o,fd,ho,hd,hc⟩:=xW hc
 .skip
  .rw[bx]at hc;obtain⟨hc,hdf⟩:=hc;simp only[fdB,bx,decide_eq_true_eq,Bool.not_eq_true',iK]at hc;obtain⟨⟨⟨⟨⟨⟨⟨⟨⟨⟨⟨⟨⟨⟨c1,c2⟩,c3⟩,c4⟩,c5⟩,c6⟩,c7⟩,c8⟩,c9⟩,c10⟩,Pe⟩,c12⟩,c13⟩,c14⟩,c15⟩:=hc;replace c15:=ye c15;obtain⟨body,hb,c15⟩:=c15;have nH:=CK hb;refine⟨fn,vt,fd,body,h1,⟨⟨o,nG X ho,hd⟩,c1,c2,c3,zX X c4,nH,c5,c6,c7,nl,c8,c9,c10,Pe,λx hx=>?_,?_⟩,λc z D dp N e1 e2 e3 e4=>?_⟩
   .have:=bI.mp c12 x hx;simpa using this
   .intro xs ws ρ X' s σ R r l1 l2;induction OU:fn.df.isEmpty with
    |true =>
     have hn:fn.df=[]:=iK.mp OU;rw[OU,if_pos rfl,decide_eq_true_eq]at hdf;rw[hn]at l2 ⊢;have hl:xs.length=fn.np:=by simp at l2;exact Wn l1 l2
     have hw:ws.length=fn.np:=r.length.symm.trans hl;have ha:=congrArg List.length c14;rw[ak,cv,xi c8]at ha;refine⟨ws,.of_eq ((uZ c13 hdf (ha.trans hw.symm)).trans (by rw[c14])),?_⟩;simpa using r
    |false =>have:=aad h1 OU;subst this;obtain rfl:=aj h1;obtain rfl:=aj h2;obtain rfl:=aj hf;exact put fd ⟨o,nG X ho,hd⟩ xs ws ρ X' s σ R r l1 l2
   .exact dz.get _ c15 c ⟨D,z▸B,dp,N,⟨e1,e2,e3,λf x hx=>by rw[z];have:f<44:=(aA.mp hx).1;exact⟨_,bA (this:f<Hd.pz.length)⟩⟩⟩
end
def YI:Obj:=Hd.fnO (Hd.tp 76) (st "_law_put") (.ref 315) (st "law_nt0409_01") 894 321
def Oi:ie:=match YI.data with|.func fd=>fd|_=>default
theorem QP (P:eJ):(Hd.K P).lookup 322=aa YI:=by kernel_rfl
theorem aal    {a:ax}(ho:s.heap.get? 315=aa o)(hs:o.data=.seq #[.none] n):BG s Oi ⟨[a,b],[]⟩ ((kr.take 3).zip [a,b,.none]) :=
 BF (T:=315) rfl ho hs rfl rfl
theorem aak    {a c:ax}(ho:s.heap.get? 315=aa o)(hs:o.data=.seq #[.none] n):BG s Oi ⟨[a,b,c],[]⟩ ((kr.take 3).zip [a,b,c]) :=
 BF (T:=315) rfl ho hs rfl rfl
theorem aaW (P:eJ):(Hd.K P).lookup 315=aa (Hd.tu [.none]):=by kernel_rfl
theorem Oh  (X:(Hd.K w.params).In h):∀fd,(∃o,h.get? 322=aa o/\o.data=.func fd)->∀xs ws ρ X (s:av) σ,Rel (ZA w h) ρ X σ s.heap->bt ρ X s.heap xs ws->xs.length<=3->3<=xs.length+1 ->
   ∃Az,BG s fd ⟨ws,[]⟩ ((kr.take 3).zip Az)/\bt ρ X s.heap (xs++[V.none].drop (xs.length+1-3)) Az:=by
 rintro fd ⟨o,ho,hd⟩ xs ws ρ X' s σ R r l1 l2;have e:=nG X (QP w.params);have e:=aj (ho.symm.trans e);subst e;obtain rfl:Oi=fd:=Data.func.inj hd;have hT:=R.keep _ _ (nG X (aaW w.params))
 match xs,r,l1,l2 with
 |[],_,_,l2=>exact absurd l2 (by decide)
 |[_],_,_,l2=>exact absurd l2 (show¬3<=2 by decide)
 |[u,v],r,_,_ =>obtain⟨a,t,rfl,ra,r⟩:=r;obtain⟨b,t,rfl,rb,r⟩:=r;subst r;exact⟨[a,b,.none],aal hT rfl,.cons ra (.cons rb (.cons tY .nil))⟩
 |[u,v,x],r,_,_ =>obtain⟨a,t,rfl,ra,r⟩:=r;obtain⟨b,t,rfl,rb,r⟩:=r;obtain⟨c,t,rfl,rc,r⟩:=r;subst r;exact⟨[a,b,c],aak hT rfl,.cons ra (.cons rb (.cons rc .nil))⟩
 |_::_::_::_::_,_,l1,_=>exact absurd l1 (Nat.not_le.mpr (Nat.le_add_left 4 _))
theorem YO   (X:(Hd.K w.params).In h)(G:QD (ZA w h) mg mb):∀(c:Cx),c.Z=ZA w h->c.A.handled=ae->c.A.frames=aa c.l->c.A.units+300<kL->(∀X,n8 c.Z c.Φ c.A c.l X)->(∀X ws,n8 c.Z c.Φ (c.A.under (.builtin "type.__call__" ⟨.ref c.Z.C::ws,[]⟩)) c.l X)->Ok c mg mb:=by intro c z h1 h2 h3 h4 h5;have hc:=M5 w.params;simp only[clB,bx,decide_eq_true_eq,bI]at hc;obtain⟨⟨⟨⟨⟨⟨⟨⟨_,_⟩,_⟩,_⟩,_⟩,h6⟩,h7⟩,h8⟩,h9⟩:=hc;have hz:10<h.objs.size:=tF (by decide) (bu (nG X (QP w.params)));exact⟨by rw[z];exact hz,by rw[z];exact Pc X,by rw[z];exact G,h1,h2,h3,h4,h5,by rw[z];exact h6,by rw[z];exact h7,by rw[z];exact⟨135,rfl,h8,h9⟩⟩
theorem AX  {N:aJ}{n:Str}{v:ax}(X:K.In h)(G:h.Ns N mg)(e:Eb K N n=aa (aa v)):mg n=aa v:=by
 obtain⟨o,es,ep,ho,hd,_,hf⟩:=G;delta Eb at e;induction q:K.lookup N with
 |none=>rw[q]at e;exact fv e
 |some ob =>
  rw[q]at e;obtain rfl:=aj (ho.symm.trans (nG X q));obtain⟨c,d,dt,sl⟩:=o;obtain rfl:dt=_:=hd;dsimp only at e;induction he:es.toList.find? (·.key.isStr n)with
  |some u =>rw[he]at e;obtain rfl:=aj (aj e);rw[<- hf];delta nsFind findBy;rw[<- Array.find?_toList,he];rfl
  |none =>
   rw[he]at e;dsimp only at e;by_cases z:es.toList.any (·.refKey)=af
   .rw[if_pos z]at e;exact fv e
   .rw[if_neg z]at e;exact fv (aj e)
theorem KC (P:eJ):(Hd.K P).lookup 118=aa (fK (st "BadCode") (st "BadCode") 118 117 [.type "Exception"] qw af [] [] ag ae ae (aa (.ref 102)) ae (aa (.str (st "BadCode") 611)) (aa (.str (st "BadCode") 619)) (aa (.bool af)) "Exception.__new__"):=by kernel_rfl
theorem PD (P:eJ):nsOkIn (Hd.K P) 117=af:=by kernel_rfl
theorem aar (P:eJ):[("__init__" : Str), "__setattr__", "text", "pc"].map (Eb (Hd.K P) 117)=[aa (aa (.ref 115)),aa ae,aa ae,aa ae]:=by kernel_rfl
theorem PB (P:eJ):typeIn (Hd.K P) (.ref 115)=aa (.type "function"):=by kernel_rfl
theorem PE (P:eJ):Eb (Hd.K P) cF (st "Exception")=aa ae:=by kernel_rfl
def aau (n:Str)(s:iM)(f:∀q1 q2 q3 q4,dz (q (.Assign [.Attribute (.Name (st "self") q1) n q2] (.Name n q3) q4))):dz (q s) :=
 yC s λt e q4=>yI (q:=λt=>q (.Assign [t] e q4)) t λo m q2=>pY (q:=λm=>q (.Assign [.Attribute o m q2] e q4)) n m (jW (q:=λo=>q (.Assign [.Attribute o n q2] e q4)) o λa q1=>pY (q:=λa=>q (.Assign [.Attribute (.Name a q1) n q2] e q4)) (st "self") a
  (jW (q:=λe=>q (.Assign [.Attribute (.Name (st "self") q1) n q2] e q4)) e λb q3=>pY (q:=λb=>q (.Assign [.Attribute (.Name (st "self") q1) n q2] (.Name b q3) q4)) n b (f q1 q2 q3 q4)))
def acs (s:iM)(f:∀p1 p2 p3 p4 p5 p6,(p2.endLine==p5.line)=af->dz (q (.Expr (.Call (.Attribute (.Name (st "Exception") p1) (st "__init__") p2) [.Name (st "self") p3,.Name (st "text") p4] [] p5) p6))):dz (q s) :=
 Ay s λe p6=>Nr (q:=λe=>q (.Expr e p6)) (st "__init__") e λo p2 l p5 h U=>jW (q:=λo=>q (.Expr (.Call (.Attribute o (st "__init__") p2) l [] p5) p6)) o λn p1=>pY (q:=λn=>q (.Expr (.Call (.Attribute (.Name n p1) (st "__init__") p2) l [] p5) p6)) (st "Exception") n
  (Iu (q:=λl=>q (.Expr (.Call (.Attribute (.Name (st "Exception") p1) (st "__init__") p2) l [] p5) p6)) l λa b=>jW (q:=λa=>q (.Expr (.Call (.Attribute (.Name (st "Exception") p1) (st "__init__") p2) [a,b] [] p5) p6)) a λn p3=>pY (q:=λn=>q (.Expr (.Call (.Attribute (.Name (st "Exception") p1) (st "__init__") p2) [.Name n p3,b] [] p5) p6)) (st "self") n
  (jW (q:=λb=>q (.Expr (.Call (.Attribute (.Name (st "Exception") p1) (st "__init__") p2) [.Name (st "self") p3,b] [] p5) p6)) b λn p4=>pY (q:=λn=>q (.Expr (.Call (.Attribute (.Name (st "Exception") p1) (st "__init__") p2) [.Name (st "self") p3,.Name n p4] [] p5) p6)) (st "text") n (f p1 p2 p3 p4 p5 p6 h)))
def acX (l:List iM):dz (qQ (.stmts l)):=match l with
 |[a,b,c]=>acs (q:=λa=>qQ <| .stmts [a,b,c]) a λp1 p2 p3 p4 p5 p6 h=>aau (q:=λb=>qQ <| .stmts [_,b,c]) (st "text") b λq1 q2 q3 q4=>aau (q:=λc=>qQ <| .stmts [_,_,c]) (st "pc") c λr1 r2 r3 r4=>.yes ⟨p1,p2,p3,p4,p5,p6,q1,q2,q3,q4,r1,r2,r3,r4,h,rfl⟩
 |_=>.no
def PG (K:qW)(fd:ie):Bool :=
 !fd.scope.isCoroutine&&(!fd.scope.isGenerator&&(decide (fd.scope.kind=.function)&&(decide (fd.scope.names=[(st "self",.local),(st "text",.local),(st "pc",.local),(st "Exception",.globalImplicit)])&&(codeB K fd&&(nB fd.params&&(decide (fd.params.args.map (·.arg)=[st "self",st "text",st "pc"])&&(decide (fd.defaults=.none)&&(decide (fd.globals=cF)&&(decide (fd.builtins=gY)&&((bodyOf fd).any λb=>(acX b).y))))))))))
def acW (K:qW):Bool:=match K.lookup 115 with
 |some o=>(match o.data with
  |.func fd=>PG K fd
  |_=>ag)
 |none=>ag
theorem KD (P:eJ):acW (Hd.K P)=af:=by kernel_rfl
theorem PF   (X:(Hd.K w.params).In h)(nl:h.NoLimit)(g:h.Ns cF mg)(b:h.Ns gY mb)(hb:∀x:Str,x≠"__name__"->mb x=xa x):∃mN fd,vq (ZA w h) mg mb 115 117 mN fd:=by
 have hc:=KD w.params;obtain⟨o,fd,ho,hd,hc⟩:=xW (K:=Hd.K w.params) (a:=115) (P:=PG (Hd.K w.params)) hc
 .skip
  .simp only[PG,bx,decide_eq_true_eq,Bool.not_eq_true']at hc;refine o08 hc λc1 c2 c3 c4 c5 c6 c7 c8 hc=>?_;refine qR hc λc9 c10 Pe=>?_;replace Pe:=ye Pe;obtain⟨body,hbo,Pe⟩:=Pe;have nH:=CK hbo;have N:h.Ns 117 (h.nsMap 117):=.of_isNs (isNs_of_in X (PD w.params));have hn:=aar w.params;simp only[eM,sZ,List.cons.injEq,and_true]at hn;refine⟨h.nsMap 117,fd,?_⟩;exact{
    cls:=.mk _ _ _ _ _ _ _ _ _ _ _ _ _ (nG X (KC w.params))
    ns:=N
    n1:=AX X N hn.1
    n2:=ns_none_of X N hn.2.1
    n3:=ns_none_of X N hn.2.2.1
    n4:=ns_none_of X N hn.2.2.2
    ty:=PB w.params
    Qi:=X
    obj:=⟨o,nG X ho,hd⟩
    co:=c1,gen:=c2,kind:=c3,names:=c4
    code:=zX X c5
    lim:=nl
    par:=⟨c6,c7,c8⟩
    glo:=c9,blt:=c10,g:=g,b:=b
    ex:=⟨mg_none_of X g (PE w.params),by rw[hb _ (by decide)];decide +kernel⟩
    body:=by rw[nH];exact dz.get _ Pe}
theorem Dz   (W:Nat)(X:(Hd.K w.params).In h)(nl:h.NoLimit)(g:h.Ns cF mg)(b:h.Ns gY mb)(hb:∀x:Str,x≠"__name__"->mb x=xa x) :
  ∀d A l X',Ii A l d->n8 (ZA w h) (kK G F W d) A l X':=by
 refine H0 (PF X nl g b hb) λmN fd B=>?_;exact Bv (mg:=mg) (mb:=mb) (λf a hf=>acL X nl B (Oh X) f a hf) (YO X (O4 X g b hb))
def Pure:Prop:=∀l:List Int,l.length<=63->∃σ,kK G F 1000 25 43 [.lst (l.map .int)] []=.ok (.bool af) σ
theorem zJ {ρ:List Pl}{X:List aJ}{h:bV}:∀ {vs:List ax} {ns:List Int},IntsAre vs ns->bt ρ X h (ns.map .int) vs
 |_,_,.nil=>.nil
 |_,_,.cons n t r=>.cons mU (zJ r)
theorem Fv {Z:ng}:Rel Z [] [] [] Z.base where
 keep:=λU U e=>e
 bsize:=aO _
 D4:=λU q=>nomatch q
 vF:=λU q=>nomatch q
 len:=rfl
 ge:=λU q=>nomatch q
 sep:=λi j p q x e=>by simp at e
 self:=λU q=>nomatch q
 obj:=λi p o e=>by simp at e
theorem DQ:Ii callerA [] 25:=⟨rfl,rfl,by decide,by decide⟩
theorem Gq (P:eJ):Eb (Hd.K P) cF Hd.dk.1.name=aa (aa (.ref 433)):=by kernel_rfl
set_option tactic.hygienic true in
theorem entry (hp:Pure):Hd.lw.Holds:=Hd.hd3 (by
 intro w AM ay mg mb G Y fa o pm cd doc dV kV ho hd hcd hD hmg hg args vals as acy acA hrd hwl Ed;have KX:(Hd.K w.params).In ay.heap:=Y;have T:=G.T
 wrow_args acy acA hrd hwl Ed
 rename_i ns _ _ _ _ _ _ _ a vs _ hL _ w1 _ hI _ hlen _
 have hfa:fa=433:=by have:=mg_of KX T.g (Gq w.params);rw[hmg]at this;cases this;rfl
 subst hfa;obtain⟨σ,Cv⟩:=hp ns (acb hlen);cases w1 with
 |list GV ZP =>
  rename_i k4
  obtain⟨o',GR,hc',n',An⟩:=hL;rw[GV]at GR;obtain rfl:=aj GR;have hvs:k4=vs:=by have:=(Data.seq.inj An).1;simpa using this
  subst hvs;have call:=Dz (mg:=mg) (mb:=mb) 1000 KX T.nolimit T.g T.b T.builtins 25 callerA [] [] DQ 43 433 rfl [] ay [] [.lst (ns.map .int)] [.ref a] Fv (λU q=>nomatch q)
   (.cons (by exact bB a ⟨k4,rfl,(λU q=>nomatch q),(λq=>nomatch q),⟨_,GV⟩,zJ hI⟩) .nil)
  rw[Cv]at call;refine pM (call _ _ λb bJ s' g R r=>?_);subst r;(refine H0 g.same λh' tk z1=>?_;subst z1);refine GoodW.toG ⟨.inl ⟨.bool af,.bool af,[],rfl,λcls=>?_,?_,?_,λU=>⟨.nil,λU q=>nomatch q⟩⟩,R.keep,rfl,hg⟩
  .first|rfl|kernel_rfl
  .exact .bool af
  .first|rfl|kernel_rfl)
end Internal
end
theorem PySem.Challenge.cw_nt0409_01_holds : PySem.Challenge.rw_nt0409_01.Holds :=
 Internal.entry Internal.Pu.YJ
