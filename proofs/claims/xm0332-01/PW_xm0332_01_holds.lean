import PyProof.Rows.All
import Wide.All
import OpenK.AllK
import Wide.FinOn
import PyProof.Rows.TupDisplay
import PyProof.EnumMake
import PyProof.EnumStmt
import OpenK.ZHead
import KE.BitLaws
import Lean
import PySem.Challenge.RW_xm0332_01
set_option Elab.async false
set_option maxRecDepth 100000
set_option autoImplicit true
set_option linter.all false
set_option genSizeOf false
set_option compiler.extract_closed false
set_option genInjectivity false
set_option genCtorIdx false
set_option bootstrap.genMatcherCode false
set_option backward.match.sparseCases false
set_option tactic.hygienic false
set_option maxHeartbeats 8000000
namespace Mine
open Array renaming eraseIdxIfInBounds->mF,toList->AG,forIn_toList->K7,isEmpty_iff->Lu,any_toList->OI
open Bool renaming and_eq_true_iff->aE,and_eq_true->bO,false_eq_true->dx,or_eq_false_iff->iB,not_eq_true'->jw,or_eq_true_iff->qn,false_or->rk,false_ne_true->rM,rec->sC,eq_false_iff->OJ,eq_iff_iff->V9,and_assoc->Xc
open Eq renaming trans->Lv
open ForInStep renaming yield->jT
open Int renaming ofNat_lt->cw,lt_of_le_of_lt->cZ,ofNat_nonneg->eF,fmod_eq_emod_of_nonneg->eR,ofNat_le->fj,emod_nonneg->f6,le_trans->gq,mul_le_mul_of_nonneg_right->gQ,add_sub_cancel->jc,sub_le_sub_right->kN,toNat_of_nonneg->k7,fdiv_eq_ediv_of_nonneg->lX,emod_eq_of_lt->mQ,ofNat->nJ,toNat_lt->ou,emod_lt_of_pos->rW,le_of_lt->t9,ne_of_lt->t_,add_neg_cancel_right->AH,lt_add_of_pos_right->D6,ediv_eq_zero_of_lt->FE,lt_trans->FG,add_le_add_right->K8,add_lt_add_right->K9,lt_of_lt_of_le->OK,sub_add_cancel->OL,natCast_emod->Wa,max_eq_left->Xd
open Int.ofNat renaming inj->eA
open List renaming getElem?_eq_some_iff->ax,length_map->ay,getElem?_append_left->aJ,getElem?_map->aL,getElem?_eq_getElem->aN,all_eq_true->aQ,mem_of_getElem?->aU,replicate->bt,mem_singleton->bK,size_toArray->b8,getElem?_append_right->cq,mem_cons->cx,append_assoc->cC,getElem?_set_self->cM,mem_append->cP,lookup_cons->cR,getElem?_set_ne->cX,mem_map->cY,take_of_length_le->dF,map_cons->dX,append_nil->d8,map_append->d9,length_eq_zero_iff->eB,take_length->eC,length_cons->eZ,mem_cons_of_mem->fp,range->fP,length_set->fY,take_add_one->f7,mem_map_of_mem->gM,length_take->gN,findIdx?_cons->gY,mem_cons_self->gZ,take->hY,drop_zero->iC,getElem_mem->iK,isEmpty_iff->iL,length_drop->iM,not_mem_nil->iN,getElem?_eq_none_iff->iS,nil_append->i9,map_nil->jx,set_set->jy,contains_iff_mem->jV,mem_iff_getElem?->jW,drop_eq_nil_iff->kg,length_append->lE,nodup_nil->lF,map_inj_left->mG,nodup_append->mH,map->m7,drop_of_length_le->nZ,map_map->n7,forIn_cons->oy,length_replicate->oP,set_append_right->oR,take_append_drop->oS,mem_range->pz,getElem?_range->qo,getElem_of_mem->qp,findIdx?->rr,findIdx?_eq_some_iff_getElem->rX,getElem?_replicate_of_lt->uG,forIn_nil->xc,findIdx?_eq_none_iff->yN,getLast?_singleton->AI,length_eq_one_iff->D7,dropLast_eq_take->FH,findIdx?_toArray->FI,sizeOf_lt_of_mem->FJ,dropLast_concat->Gg,getLast?_append->Gh,mem_append_left->Gi,range_eq_range'->Gj,set_append_left->Gk,replicate_succ->K_,ext_getElem?->OM,getElem?_inj->ON,length_range->OO,all_append->Wb,find?_cons->Wc,nodup_cons->We,drop_drop->Xe,rec->Xf
open List.cons renaming inj->Lw
open Min renaming min->g_
open Nat renaming le_refl->aC,le_trans->aD,eq_of_beq_eq_true->aK,add_le_add_right->aM,le_of_not_lt->aP,le_antisymm->aR,beq->aT,le_of_ble_eq_true->aW,le_add_right->bc,lt_of_lt_of_le->bk,ble_eq_true_of_le->bx,lt_or_gt_of_ne->bL,zero_le->b7,lt_of_not_le->cL,le_succ->cN,zero_add->cQ,lt_succ_self->dh,sub_add_cancel->dy,ne_of_gt->dJ,min_le_right->eG,ble->eI,le_add_left->eU,le_add_of_sub_le->fy,le_of_lt_succ->fA,min_le_left->f_,mul_le_mul_right->gu,ne_of_lt->gw,min_eq_left->hZ,div_mul_le_self->iY,lt_of_le_of_lt->jd,le_of_lt->jJ,blt->kh,add_le_add_left->k8,min_eq_right->nK,le_of_eq->oz,lt_trans->oE,add_le_add->qf,add_comm->ua,le_succ_of_le->ub,lt_of_succ_lt->ud,and_two_pow_sub_one_eq_mod->uH,not_lt_zero->wV,mul_le_mul->yO,sub_le->yP,add_assoc->AJ,eq_zero_of_not_pos->FK,sub_self->FL,zero_mul->FN,sub_eq_zero_of_le->Gl,div_le_div_right->Lc,sub_le_sub_right->Ld,eq_or_lt_of_le->OP,lt_of_le_of_ne->OQ,not_lt->OR,pos_of_ne_zero->OS,lt_succ_of_le->R4,not_le_of_lt->Wg,succ_le_succ->Wh
open Nat.succ renaming inj->mR
open Ne renaming symm->cH
open Option renaming any_eq_true->cO,isSome_iff_exists->dU,isNone_iff_eq_none->iG,map_some->ki,getD_some->mS,getD_none->sE,some_or->R5
open Option.some renaming inj->ba
open Or renaming elim->fK
open Prod renaming snd->gf,fst->jz
open PyProof.Rows renaming wpAny_release'->mZ,subscriptTail->oG,tail_any->pv,bitAnd_m16->uf,bitAnd_m8->uh
open PySem renaming wpAny_bind->aw,Shared->az,Value->aA,wpAny_pure->aF,model->aH,wpAny->aI,wpAny_mono->a_,wpAny_holding->bG,DictEntry->cv,Addr->cK,Params->c_,Around->da,wpAny_standAt->du,Heap->dO,World->dQ,sizeLine_eq->d_,wpAny_call_entry->eM,wpAny_truthy_bool->eV,Program->fh,OsState->fI,compareOp->fT,nsFind->ie,cLine->iz,letOwnedTupleGo->iA,mem_of_lookup->iT,Stmt->je,NameKind->jr,wpAny_ite_false->jA,wpAny_specialOf->jB,wpAny_callSpecial?_slot->jM,relabel->k9,treeTable->mT,assignEach->mW,binaryOp->mX,starEach->mY,codeAny->n8,wpAny_sequenceKey->n9,builtinsNs->qg,importedModules->qu,compPost->rZ,subscripted->r7,getMethod->sF,swapsWithSole->ui,call_meets->uI,reduceHash->uJ,sysModules->uK,wpAny_Constant_str->uL,wpAny_callSpecialUnlessNone?_slot->vF,dictGet->wW,hashInt->wX,slot_list_getitem->wY,wpAny_assign_Name->w7,wpAny_dictEntries->w8,beq_builtin_none->yQ,pushCells->yR,wpAny_execs_cons->yS,mainGlobals->yY,slicePicked->yZ,wpAny_execs_nil->AK,getItem->D8,backTo->FP,contains->FQ,newFunctionEnv->FT,pyNext->FU,sliceRange_one->FW,typeIs_int->FX,wpAny_ite_true->FY,wpAny_listPart->FZ,wpAny_rule->F7,wpAny_binaryOp_repeat_ref->Gn,evalPart_none->Lf,Scope->Ly,cellsFrom->Lz,lastMarks->LA,seqSlot_of->OT,assign->OU,delItem->OV,operate->OW,pyIter->OX,wpAny_pendingKey_other->OZ,wpAny_deleteEach_cons->R7,wpAny_notOrdered_dict->R8,FuncData->V_,arm_delete_Subscript->Wk,callWith->Wm,sizeLine->Wn,sliceBounds->Wo,wpAny_deleteEach_nil->Wr,wpAny_field->Ws,wpAny_loadName_local->Wu,wpAny_updateDictKeys->Wv,setItem->Xg,wpAny_loadName_cell->Xh
open PySem.Builtin renaming bitNot->uF
open PySem.Builtin.Dict renaming takeOut->vB
open PySem.Builtin.List renaming listSubscript?->rm
open PySem.Builtin.Tuple renaming tupleHashOf->cF
open PySem.Calls renaming spliced_cons->wZ,Name_function_global->Wf,spliced_nil->Wq
open PySem.Env renaming kindOf->rV
open PySem.Heap renaming get?_push_of_some->bg,get?_push_size->bU,SameBut->fZ,get?_update_self->jU,size_push->lC,lt_size->sD
open PySem.Heap.IsSliceOf renaming new->vC
open PySem.Heap.SameBut renaming update->fR
open PySem.IsL renaming update->FO
open PySem.NameKind renaming cell->iO,free->pk
open PySem.Obj renaming mapDictKeys->kQ,mapSeq->oF
open PySem.PyData renaming keyHash->jh,eqv->Gm,eqvAll->Wj
open PySem.SeqAt renaming shaped->rY
open PySem.Str renaming ofString->jK,join->Le
open PySem.Txt renaming replace->vE
open PySem.W renaming look_both->br,dictOf->iH,looks_pair->iZ,boot_heap->kR,emptyDict->kS,keepIn->kT,noRoadLSs->kU,findIn->lY,instObj->mJ,readsOut->FV,boot_o_0->Wl
open PySem.W.Fast renaming sEq->eN,sEq_iff->ji,tw10110043849684766642->nL,tw14364793385576792824->nM,te13343964577679436407->qi,te16421684217811934046->qj,lEq_iff->vD,lEq->yX,te17119622794617984870->OY,te8326940854005059898->R6
local macro_rules
 |`(⋯)=>`(by kernel_rfl)
theorem nn{b:Type}{x:b}{a:Prop}(h:none=some x):a:=nomatch h
theorem sn{b:Type}{x:b}{a:Prop}(h:some x=none):a:=nomatch h
theorem ff{a:Prop}(h:false=true):a:=nomatch h
theorem tf{a:Prop}(h:true=false):a:=nomatch h
theorem s1{d:Type}{a b:d}{c:Prop}(h:some a=some b)(k:a=b->c):c:=k (ba h)
theorem s2{g f:Type}{a c:g}{b d:f}{e:Prop}(h:some (a,b)=some (c,d))(k:a=c->b=d->e):e:=by cases h;exact k rfl rfl
local macro_rules
 |`(tactic|cases $h:ident)=>`(tactic|first|exact nn $h|exact ff $h|exact sn $h|exact tf $h|subst $h|(refine s2 $h λe1 e2=>?_;clear $h;cases e1<;>cases e2)|(refine s1 $h λe1=>?_;clear $h;cases e1)|cases($h))
local macro_rules
 |`(tactic|show $t)=>`(tactic|refine(?_: $t))
theorem mapf{a b:Type}{f g:a->b}{l:List a}(h:l.map f=l.foldr (λc r=>g c::r) []){c:a}(d:c∈l):f c=g c:=mG.mp (h.trans List.map_eq_foldr.symm) c d
theorem GC{a:Type}{l:List a}{P:a->Prop}[DecidablePred P](h:(l.all λc=>decide (P c))=true){c:a}(b:c∈l):P c:=of_decide_eq_true (aQ.mp h c b)
theorem iu{A B W:Prop}(h:A/\B)(q:A->B->W):W:=q h.1 h.2
theorem m_{A B C W:Prop}(h:A/\B/\C)(q:A->B->C->W):W:=iu h.2 (q h.1)
theorem lu{A B C D W:Prop}(h:A/\B/\C/\D)(q:A->B->C->D->W):W:=m_ h.2 (q h.1)
theorem Ig{A B C D E W:Prop}(h:A/\B/\C/\D/\E)(q:A->B->C->D->E->W):W:=lu h.2 (q h.1)
theorem adK{A B C D E F W:Prop}(h:A/\B/\C/\D/\E/\F)(q:A->B->C->D->E->F->W):W:=Ig h.2 (q h.1)
theorem dG{b:Type}{A:b->Prop}{W:Prop}(h:∃a,A a)(q:∀a,A a->W):W:=h.elim q
theorem cf{b:Type}{A B:b->Prop}{W:Prop}(h:∃a,A a/\B a)(q:∀a,A a->B a->W):W:=h.elim λa h=>iu h (q a)
theorem pL{b:Type}{A B C:b->Prop}{W:Prop}(h:∃a,A a/\B a/\C a)(q:∀a,A a->B a->C a->W):W:=h.elim λa h=>m_ h (q a)
theorem vW{b:Type}{A B C D:b->Prop}{W:Prop}(h:∃a,A a/\B a/\C a/\D a)(q:∀a,A a->B a->C a->D a->W):W:=h.elim λa h=>lu h (q a)
theorem adL{b:Type}{A B C D E:b->Prop}{W:Prop}(h:∃a,A a/\B a/\C a/\D a/\E a)(q:∀a,A a->B a->C a->D a->E a->W):W:=h.elim λa h=>Ig h (q a)
theorem Ew{b:Type}{A B C D E F:b->Prop}{W:Prop}(h:∃a,A a/\B a/\C a/\D a/\E a/\F a)(q:∀a,A a->B a->C a->D a->E a->F a->W):W:=h.elim λa h=>adK h (q a)
theorem Ey{d c:Type}{A:d->c->Prop}{W:Prop}(h:∃a b,A a b)(q:∀a b,A a b->W):W:=h.elim λa h=>dG h (q a)
theorem nc{d c:Type}{A B:d->c->Prop}{W:Prop}(h:∃a b,A a b/\B a b)(q:∀a b,A a b->B a b->W):W:=h.elim λa h=>cf h (q a)
theorem dY{d c:Type}{A B C:d->c->Prop}{W:Prop}(h:∃a b,A a b/\B a b/\C a b)(q:∀a b,A a b->B a b->C a b->W):W:=h.elim λa h=>pL h (q a)
theorem pM{d c:Type}{A B C D:d->c->Prop}{W:Prop}(h:∃a b,A a b/\B a b/\C a b/\D a b)(q:∀a b,A a b->B a b->C a b->D a b->W):W:=h.elim λa h=>vW h (q a)
theorem Uu{d c:Type}{A B C D E:d->c->Prop}{W:Prop}(h:∃a b,A a b/\B a b/\C a b/\D a b/\E a b)(q:∀a b,A a b->B a b->C a b->D a b->E a b->W):W:=h.elim λa h=>adL h (q a)
theorem adM{d c:Type}{A B C D E F:d->c->Prop}{W:Prop}(h:∃a b,A a b/\B a b/\C a b/\D a b/\E a b/\F a b)(q:∀a b,A a b->B a b->C a b->D a b->E a b->F a b->W):W:=h.elim λa h=>Ew h (q a)
theorem Mk{e d f:Type}{A B:e->d->f->Prop}{W:Prop}(h:∃a b c,A a b c/\B a b c)(q:∀a b c,A a b c->B a b c->W):W:=h.elim λa h=>nc h (q a)
theorem Ih{e d f:Type}{A B C:e->d->f->Prop}{W:Prop}(h:∃a b c,A a b c/\B a b c/\C a b c)(q:∀a b c,A a b c->B a b c->C a b c->W):W:=h.elim λa h=>dY h (q a)
theorem Ml{e d f:Type}{A B C D:e->d->f->Prop}{W:Prop}(h:∃a b c,A a b c/\B a b c/\C a b c/\D a b c)(q:∀a b c,A a b c->B a b c->C a b c->D a b c->W):W:=h.elim λa h=>pM h (q a)
theorem ur{e d f:Type}{A B C D E:e->d->f->Prop}{W:Prop}(h:∃a b c,A a b c/\B a b c/\C a b c/\D a b c/\E a b c)(q:∀a b c,A a b c->B a b c->C a b c->D a b c->E a b c->W):W:=h.elim λa h=>Uu h (q a)
theorem Ez{e d f:Type}{A B C D E F:e->d->f->Prop}{W:Prop}(h:∃a b c,A a b c/\B a b c/\C a b c/\D a b c/\E a b c/\F a b c)(q:∀a b c,A a b c->B a b c->C a b c->D a b c->E a b c->F a b c->W):W:=h.elim λa h=>adM h (q a)
theorem adN{g e i f:Type}{A B C:g->e->i->f->Prop}{W:Prop}(h:∃a b c d,A a b c d/\B a b c d/\C a b c d)(q:∀a b c d,A a b c d->B a b c d->C a b c d->W):W:=h.elim λa h=>Ih h (q a)
theorem b6{a:Type}(x:a){W:Prop}(k:∀d,d=x->W):W:=k x rfl
@[elab_as_elim] theorem rQ{c:Type}{P:c->Prop}{a b:c}(h:a=b)(k:P a):P b:=h▸k
@[elab_as_elim] theorem fJ{c:Type}{P:c->Prop}{a b:c}(h:b=a)(k:P a):P b:=h▸k
@[elab_as_elim] theorem kf{c:Type}{P:c->Prop}{a b:c}(h:some a=some b)(k:P a):P b:=rQ (ba h) k
@[elab_as_elim] theorem qZ{i g:Type}{P:i->g->Prop}{a c:i}{b d:g}(h:some (a,b)=some (c,d))(k:P a b):P c d:=s2 h λe f=>rQ e (rQ f k)
theorem p2i{f e:Type}{a c:f}{b d:e}{W:Prop}(h:(a,b)=(c,d))(k:a=c->b=d->W):W:=k (congrArg jz h) (congrArg gf h)
@[elab_as_elim] theorem E9{d c:Type}{P:d->c->Prop}{a g:d}{b i:c}(h:(a,b)=(g,i))(k:P a b):P g i:=p2i h λe f=>rQ e (rQ f k)
@[elab_as_elim] theorem p3P{l d n:Type}{P:l->d->n->Prop}{a i:l}{b m:d}{c j:n}(h:(a,b,c)=(i,m,j))(k:P a b c):P i m j:=p2i h λe f=>p2i f λf g=>rQ e (rQ f (rQ g k))
@[elab_as_elim] theorem p3Q{g d j:Type}{P:g->d->j->Prop}{a e:g}{b i:d}{c f:j}(h:(e,i,f)=(a,b,c))(k:P a b c):P e i f:=p3P h.symm k
@[elab_as_elim] theorem Dl{g d j:Type}{P:g->d->j->Prop}{a e:g}{b i:d}{c f:j}(h:some (a,b,c)=some (e,i,f))(k:P a b c):P e i f:=p3P (ba h) k
theorem IW{G:Prop}(h:∀W:Prop,(G->W)->W):G:=h G id
theorem C7{a b:Nat}(h:a≠b):aT a b=false:=OJ.mpr λq=>h (aK q)
theorem tM{a:Type}{o:Option a}(h:∀x,o=some x->False):o=none:=Option.eq_none_iff_forall_ne_some.mpr h
theorem eK{a b c:Nat}(h:a<=b)(k:b<=c:=by decide):a<=c:=aD h k
theorem rH{a b c:Nat}(h:a<=b)(k:b<c:=by decide):a<c:=jd h k
section
set_option tactic.hygienic false
open PySem PySem.W
noncomputable abbrev Pw:Program:=PySem.Challenge.pw_xm0332_01
noncomputable def p0:Pos:=⟨0,0,0,0⟩
noncomputable def sT(i:Nat):Stmt:=(Pw.main.body[i]?).getD (.Pass p0)
structure VS where
 k:Nat
 n:Str
 A:Arguments
 b:List je
 s:Ly
 l:List Str
 e:Expr
 p:Pos
noncomputable def a0:Arguments:=⟨[],[],none,[],[],none,[]⟩
noncomputable def vw:je->VS
 | .FunctionDef n a b _ _ _ s _ _ p=>⟨0,n,a,b,s,[],.Name n p,p⟩
 | .ClassDef n c _ b _ _ _ _ _ l p=>⟨1,n,a0,b,default,l,c.headD (.Name "" p),p⟩
 | .Assign [.Name n p] e _=>⟨2,n,a0,[],default,[],e,p⟩
 |_=>⟨3,"",a0,[],default,[],.Name "" p0,p0⟩
structure VE where
 k:Nat
 i:Int
 x:Str
 l:List Expr
 m:List Expr
noncomputable def ve:Expr->VE
 | .Constant (.int i) _ _=>⟨1,i,"",[],[]⟩
 | .Constant (.str x) _ _=>⟨2,0,x,[],[]⟩
 | .UnaryOp _ (.Constant (.int i) _ _) _=>⟨3, -i,"",[],[]⟩
 | .Tuple l _ _=>⟨4,0,"",l,[]⟩
 | .Dict k l _=>⟨5,0,"",k.filterMap id,l⟩
 | .Name x _=>⟨0,0,x,[],[]⟩
 |_=>⟨6,0,"",[],[]⟩
noncomputable def stA(s:je):Arguments:=(vw s).A
noncomputable def stB(s:je):List Stmt:=(vw s).b
noncomputable def stS(s:je):Scope:=(vw s).s
noncomputable def sI(i j:Nat):Stmt:=((stB (sT i))[j]?).getD (.Pass p0)
noncomputable def vR(a:Nat):Value:= .ref a
noncomputable def vI(i:Int)(t:Nat):Value:= .int i t
noncomputable def vS(x:Str)(t:Nat):Value:= .str x t
noncomputable def eS(P:c_)(x:Str)(t:Nat)(v:aA):DictEntry:=⟨jh P x,.str x t,v⟩
noncomputable def oB(c:aA)(d:Data)(s:List (Option aA)):Obj:=⟨c,none,d,s.toArray⟩
noncomputable def oT(l:List aA):Obj:=oB (.type "tuple") (.seq l.toArray 0) []
noncomputable def oL(c:aA)(l:List aA):Obj:=oB c (.fields l.toArray) []
noncomputable def oQ(x:String)(l:List aA):Obj:=oL (.type x) l
noncomputable def oD(c:aA)(l:List cv)(n:Nat):Obj:=oB c (.dict l.toArray n) []
noncomputable def dc:Value:= .type "dict"
noncomputable def Iu(s:VS):List Str:=match s.s.more with
 |[]=>s.s.names.filterMap λx=>match x.2 with
  | .local=>some x.1
  | .cell=>some x.1
  |_=>none
 |_=>[]
noncomputable def vNs:Nat->List Str->List aA
 |_,[]=>[]
 |t,x::r=>vS x t::vNs (t+1) r
noncomputable def oC(n q:Str)(t m a c f l:Nat)(b:Bool)(nm:List aA)(z:aA):Obj:=
 oQ "code" ([vS n t,vS q (t+1),vS "/claim/cut.py" (t+2),vI l 0,vI c 0,vI 0 0,vI 0 0,vI f 0,vR a,.bool b,vI 181 0,vR (a+1),.none]++nm++[z,vI (t+3+m:Nat) 0,vI l 0,vS "/claim/cut.py" (t+4+m)])
noncomputable def fdA(s:VS)(q:Str):FuncData:={name:=s.n,qualname:=q,params:=s.A,body:= .stmts s.b,scope:=s.s,globals:=0,closure:=[],defaults:= .none,kwdefaults:= .none}
noncomputable def fOb(s:VS)(q:Str)(a t:Nat)(M:aA):List Obj:=
 let l:=Iu s
 let f:=λ(c:Nat) nm=>[oB .none (.func (fdA s q)) [],oC s.n q t l.length a s.A.args.length 3 s.p.line true nm (vR c),oB (.type "function") (.func {fdA s q with globals:=3,pyModule:=M,code:= .ref (c+1)}) []]
 oT []::oL .none []::match s.s.more with
  |[]=>oT (vNs (t+3) l)::oT []::f (a+4) [vR (a+2),vR (a+3)]
  |_=>f (a+2) [.none,.none]
noncomputable def nF(s:VS):Nat:=match s.s.more with
 |[]=>7
 |_=>5
noncomputable def tF(s:VS):Nat:=(Iu s).length+6
noncomputable def msO(s:VS):List VS:=(s.b.map vw).filter λx=>aT x.k 0
noncomputable def acN:List VS->Nat->Nat->List (VS×Nat×Nat)
 |[],_,_=>[]
 |s::r,a,t=>(s,a,t)::acN r (a+nF s) (t+tF s)
noncomputable def Fw(f:VS->Nat):List VS->Nat
 |[]=>0
 |s::r=>f s+Fw f r
noncomputable def zk(s:VS):Nat:=match([("Exception",1),("RuneError",38),("KindCloser",564),("Tray",716),("Invoker",515),("Op",445)]:List (Str×Nat)).find? λx=>x.1==(ve s.e).x with
 |some x=>x.2
 |none=>0
noncomputable def adq:List (Nat×Nat):=[(38,51),(445,1251),(515,1092),(564,592),(716,786)]
noncomputable def clR(b:Nat):List Value:=
 let x:=[.type "Exception",.type "BaseException",.type "object"]
 match b with
 |0=>x.drop 2
 |1=>x
 |38=>vR 38::x
 |b=>[vR b,.type "object"]
noncomputable def cOb(P:c_)(S:VS)(a t:Nat)(M:aA):List Obj:=
 let n:=S.n
 let b:=zk S
 let m:=msO S
 let f:=acN m (a+7) (t+12)
 let s:=a+7+Fw nF m
 let k:=t+12+Fw tF m
 let u:=k+S.l.length
 let c:=s+2
 let e:=λ(x:Str) (t:Nat) v=>eS P x t v
 let j:=f.map λx=>e x.1.n (x.2.2+tF x.1 - 1) (vR (x.2.1+nF x.1 - 1))
 let h:=e "__module__" (t+7) M
 let l:=e "__firstlineno__" (t+11) (vI S.p.line (t+10))
 let z:=e "__static_attributes__" u (vR s)
 let g:="getset_descriptor"
 let r:="builtin_function_or_method"
 let w:=λ(i:Nat)=>[oQ g [vS "__weakref__" (u+i),vR c,.builtin "ExceptionGroup.__weakref__",.none],oQ "super" [vR c,vR c,vR c],oQ r [.builtin "object.__init_subclass__",vR c]]
 let D:=λ(d:List cv) (v:Nat)=>[oT (vNs k S.l),oD dc (h::l::(j++z::d)) v,oB (.type "type") (.cls ⟨n,(clR b).take 1,vR c::clR b,s+1,n,true,[],adq.filterMap λx=>if x.1==c then some (vR x.2) else none,false,none,false⟩)
  [if b==0 then none else some (vR a),none,some (vS n t),some (vS n (t+8)),some (.builtin (if b==1||b==38 then"Exception.__new__" else"object.__new__")),some (.bool true)]]
 [oT (if b==0 then[] else(clR b).take 1),oQ r [.builtin "type.__prepare__",.type "type"],oD dc (h::e "__qualname__" (t+9) (vS n (t+8))::l::(j++[z])) (j.length+4),oT [],
  oL .none (f.flatMap λx=>[vI x.1.p.line 0,vI 4 0,vR (x.2.1+nF x.1 - 2)]),oC n n (t+2) 0 (a+3) 0 0 S.p.line false [.none,.none] .none,
  oB (.type "frame") .plain [some (vR (a+5)),some (vR 3),some (vR (a+2)),none,some M,none,some (vR 0)]]++(f.flatMap λx=>fOb x.1 (n.append "."|>.append x.1.n) x.2.1 x.2.2 M)++
 match b with
  |0=>D [e "__dict__" (u+2) (vR (c+1)),e "__weakref__" (u+4) (vR (c+2)),e "__doc__" (u+5) .none] 4++oQ g [vS "__dict__" (u+1),vR c,.builtin "function.__dict__",.builtin "function.__dict__#set"]::w 3
  |1=>D [e "__weakref__" (u+2) (vR (c+1)),e "__doc__" (u+3) .none] 3++w 1
  |_=>D [e "__doc__" (u+1) .none] 2++(w 0).drop 1
structure It where
 a:Nat
 t:Nat
 M:aA
 s:VS
noncomputable def nO(s:VS):Nat:=match s.k with
 |0=>nF s
 |1=>Fw nF (msO s)+match zk s with
  |0=>14
  |1=>13
  |_=>12
 |_=>(ve s.e).k/4
noncomputable def nT(s:VS):Nat:=match s.k with
 |0=>tF s
 |1=>12+Fw tF (msO s)+s.l.length+match zk s with
  |0=>8
  |1=>8
  |_=>4
 |_=>
  let e:=ve s.e
  1+match e.k with
   |0=>0
   |3=>2
   |4=>e.l.length
   |5=>2*e.l.length
   |_=>1
noncomputable def U9(s:VS):Bool:=aT s.k 2&&s.n=="__name__"
noncomputable def go:List je->Nat->Nat->aA->List It
 |[],a,t,M=>[⟨a,t,M,vw (.Pass p0)⟩]
 |s::r,a,t,M=>
  let v:=vw s
  ⟨a,t,M,v⟩::go r (a+nO v) (t+nT v) (match U9 v with
   |true=>vS (ve v.e).x t
   |false=>M)
noncomputable def Sb:List It:=go Pw.main.body 15 187 (vS "__main__" 164)
noncomputable def adO(i:It):Value:=match i.s.k with
 |0=>vR (i.a+nF i.s - 1)
 |1=>vR (i.a+9+Fw nF (msO i.s))
 |_=>
  let e:=ve i.s.e
  match e.k with
   |0=>vR (i.a - 1)
   |1=>vI e.i i.t
   |2=>vS e.x i.t
   |3=>vI e.i (i.t+1)
   |_=>vR i.a
noncomputable def ent(P:c_)(i:It):List DictEntry:=match U9 i.s||aT i.s.k 3 with
 |true=>[]
 |false=>[eS P i.s.n (i.t+nT i.s - 1) (adO i)]
noncomputable def lns(i:It):List Value:=
 let f:=λa=>[vI i.s.p.line 0,vI 0 0,vR a]
 match i.s.k with
 |0=>f (i.a+nF i.s - 2)
 |1=>f (i.a+5)
 |_=>[]
noncomputable def V8{a:Type}(f:Nat->Expr->a):Nat->List Expr->List a
 |_,[]=>[]
 |n,x::r=>f n x::V8 f (n+1) r
noncomputable def obs(P:c_)(i:It):List Obj:=match i.s.k with
 |0=>fOb i.s i.s.n i.a i.t i.M
 |1=>cOb P i.s i.a i.t i.M
 |_=>
  let e:=ve i.s.e
  match e.k with
  |4=>[oT (V8 (λn x=>
   let y:=ve x
   match y.k with
    |1=>vI y.i (i.t+n)
    |_=>vS y.x (i.t+n)) 0 e.l)]
  |_=>[oD dc (V8 (λn x=>
   let g:=vI n (257+2*n)
   match(ve x).k with
    |0=>⟨n,g,vI (((e.m.map ve)[n]?).elim 0 (·.i)) (i.t+n)⟩
    |_=>⟨(ve x).i,vI (ve x).i (i.t+n),g⟩) 0 e.l) 14]
noncomputable def o2(P:c_)(n:Nat):Obj:=oD .none (match n with
 |0=>[]
 |_=>[eS P "type.__subclasses__.Exception.0" 235 (vI 38 0),eS P "type.__subclasses__.Exception.n" 236 (vI 1 0)]) n
noncomputable def o3(P:c_)(l:List It)(v:aA):Obj:=
 let e:=eS P "__name__" 165 v::eS P "__doc__" 166 .none::eS P "__package__" 167 .none::eS P "__loader__" 168 (.builtin "__main__.__loader__#opaque")::eS P "__spec__" 169 .none::eS P "__annotations__" 170 (vR 6)::eS P "__builtins__" 171 (vR 4)::eS P "__file__" 173 (vS "/claim/cut.py" 172)::eS P "__cached__" 174 .none::l.flatMap (ent P)
 oD dc e e.length
noncomputable def o12(l:List It):Obj:=oL .none (l.flatMap lns)
noncomputable def o3F(P:c_):Obj:=o3 P Sb (vS "law_xm0332_01" 2271)
noncomputable def ab2(P:c_):List Obj:=[Wl P,boot_o_1 P,o2 P 2,o3F P,boot_o_4 P,boot_o_5 P,boot_o_6 P,boot_o_7 P,boot_o_8 P,boot_o_9 P,boot_o_10 P,oT [],o12 Sb,
 oC "<module>" "<module>" 182 0 11 0 0 1 false [.none,.none] .none,oB (.type "frame") .plain [some (vR 13),some (vR 3),some (vR 3),none,some (vS "__main__" 164),none,some (vR 0)]]
inductive ST (α:Type)
 |lf (i:List α)
 |nd (a:Nat) (l r:ST α)
noncomputable def bld{a:Type}(f:a->Nat):Nat->List a->ST a
 |0,l=> .lf l
 |n+1,l=>match l.drop (2^n) with
  |[]=>bld f n l
  |i::r=> .nd (f i) (bld f n l) (bld f n (i::r))
noncomputable def fnd{b:Type}(x:Nat):ST b->List b
 | .lf l=>l
 | .nd a l r=>match eI a x with
  |true=>fnd x r
  |false=>fnd x l
noncomputable def fob(P:c_)(x:Nat):Obj:=match kh x 15 with
 |true=>((ab2 P)[x]?).getD default
 |false=>match fnd x (bld (·.a) 8 Sb) with
  |i::_=>((obs P i)[x - i.a]?).getD default
  |[]=>default
noncomputable def gen(P:c_):Nat->Nat->Nat->BT
 |0,_,_=> .nil
 |n+1,a,b=>match kh b 1347 with
  |true=> .node (fob P b) (gen P n (2*a) (a+b)) (gen P n (2*a) (2*a+b))
  |false=> .nil
noncomputable def uu(P:c_):BT:=gen P 11 1 0
noncomputable def w9(P:c_):Heap:=absHeap (uu P) 1347 {}
theorem Kj{a n:Str}:(n==a)=eN a n:=V9.mpr ((beq_iff_eq.trans eq_comm).trans ji.symm)
noncomputable def isS(n:Str):aA->Bool
 | .str s _=>eN n s
 |_=>false
noncomputable def nfS(n:Str):List cv->Option Value:=@Xf _ (λ_=>Option aA) none λe _ h=>@sC (λ_=>Option aA) h (some e.val) (isS n e.key)
theorem tL:ie=λa n=>nfS n a.toList:=by
 funext a n
 unfold ie findBy
 rw[<-Array.find?_toList]
 induction a.toList with
 |nil=>rfl
 |cons e r h=>
  show _=@sC (λ_=>Option aA) (nfS n r) (some e.val) (isS n e.key)
  have k:e.key.isStr n=isS n e.key:=by cases e.key<;>first|rfl|exact Kj
  rw[<-h,Wc,<-k]
  show Option.map _ (match e.key.isStr n with|true=>_|false=>_)=_
  cases e.key.isStr n<;>rfl
end
section
set_option tactic.hygienic false
open PySem PySem.W
noncomputable def itN(i:Nat):It:=(Sb[i]?).getD ⟨0,0,.none,vw (.Pass p0)⟩
noncomputable def acQ(P:c_)(n:Nat)(h:BT)(x:Nat×Nat):BT:=match kh x.1 n&&eI n x.2 with
 |true=>h.ins x.1 (match fob P x.1 with
  |⟨d,e,.cls x,f⟩=>⟨d,e,.cls {x with subclasses:=[]},f⟩
  |o=>o)
 |false=>h
noncomputable def OA(n:Nat):Nat->Nat->BT->BT
 |_,_,.nil=> .nil
 |a,b,.node v l r=>match kh b n with
  |true=> .node v (OA n (2*a) (a+b) l) (OA n (2*a) (2*a+b) r)
  |false=> .nil
noncomputable def tre(P:c_)(i:Nat):BT:=match kh i 219 with
 |false=>uu P
 |true=>
  let n:=(itN i).a
  adq.foldl (acQ P n) ((((match eI i 8 with
   |true=>(OA n 1 0 (uu P)).ins 2 (o2 P 0)
   |false=>OA n 1 0 (uu P)).ins 3 (o3 P (Sb.take i) (itN i).M)).ins 12 (o12 (Sb.take i))))
noncomputable def Sg(i:Nat)(P:c_)(os:fI):SharedT:=⟨tre P i,(itN i).a,{},#[],{},(itN i).t,os⟩
noncomputable def y4:Env:={scope:=Pw.main.scope,locals:=mainNs,globals:=mainNs,cells:=[],code:= .ref 13,frame:=some 14}
noncomputable def ps:Nat->Pos
 |0=>p0
 |i+1=>(vw (sT i)).p
noncomputable abbrev Xj:List PySem.Frame:=[topFrame p0]
noncomputable abbrev PCw(i m:Nat)(w:dQ):Prop:=∀(p:fh) (b:List je) (os:fI),nL nM p w 11 (some (vR 6)) 1 1500 (Sg i w.params os) (piecesOf ((Pw.main.body.drop i).take m) y4 (.body b y4) (ps i) Xj)=some (.next,Sg (i+m) w.params os,.body b y4,ps (i+m))
noncomputable abbrev PC(i m:Nat):Prop:=∀w,PCw i m w
theorem spl{i m:Nat}(h:∀w b,PCw i m (dQ.withFollow w "special-get-raises" b)):PC i m:=λw=>dQ.withFollow_self w "special-get-raises"▸h w _
theorem pc0:PC 0 9:=λw p b os=>⋯
theorem pc9:PC 9 21:=λw p b os=>⋯
theorem ael:PC 30 10:=λw p b os=>⋯
theorem aem:PC 40 1:=spl λw b=>by cases b<;>exact λp b os=>⋯
theorem aen:PC 41 1:=spl λw b=>by cases b<;>exact λp b os=>⋯
theorem aeo:PC 42 5:=λw p b os=>⋯
theorem aep:PC 47 13:=λw p b os=>⋯
theorem aeq:PC 60 14:=λw p b os=>⋯
theorem aer:PC 74 25:=λw p b os=>⋯
theorem aes:PC 99 21:=λw p b os=>⋯
theorem acV:PC 120 4:=λw p b os=>⋯
theorem acW:PC 124 2:=λw p b os=>⋯
theorem acX:PC 126 2:=λw p b os=>⋯
theorem acY:PC 128 25:=λw p b os=>⋯
theorem acZ:PC 153 4:=λw p b os=>⋯
theorem ac0:PC 157 23:=λw p b os=>⋯
theorem ac1:PC 180 13:=λw p b os=>⋯
theorem ac2:PC 193 13:=λw p b os=>⋯
theorem ac3:PC 206 13:=λw p b os=>⋯
end
section
set_option tactic.hygienic false
open PySem PySem.W
theorem VN{p:fh}{w:dQ}{n:Nat}{s:SharedT}{t:Thread}{r:Option (Flow×SharedT×Code×Pos)}(h:nL nM p w 11 (some (vR 6)) 1 n s t=r):segRunT mT p w 11 (some (.ref 6)) 1 n s t=r:=by
 rw[PySem.W.Fast.te10110043849684766642,PySem.W.Fast.te14364793385576792824];exact h
noncomputable abbrev Bd:List Stmt:=behindTheImports Pw
noncomputable abbrev Cd:Code:= .body Bd y4
noncomputable abbrev Gq(w:dQ)(os:fI):Shared:=⟨w9 w.params,#[],{},2455,os⟩
noncomputable def Chn:List Nat->Nat->Prop
 |[],i=>i=219
 |m::r,i=>PC i m/\Chn r (i+m)
theorem Bi(w:dQ)(os:fI):∀(l:List Nat) (i:Nat),Chn l i->topRun mT Pw w 11 (some (.ref 6)) (1500*l.length+2) (Sg i w.params os).abs (restOf (Pw.main.body.drop i) y4 Cd (ps i) Xj)=some (Gq w os)
 |[],i,h=>by
  cases h
  exact piece_nil ⋯
 |m::r,i,h=>by
  have q:=piece_app (n:=1500) (segRun_of (VN (h.1 w Pw Bd os))) (Bi w os r _ h.2)
  rw[<-Xe,oS] at q
  rw[eZ,show 1500*(r.length+1)+2=1500+(1500*r.length+2) by omega]
  exact q
theorem LP(w:dQ)(os:fI):topRun mT Pw w 11 (some (.ref 6)) 28502 (Sg 0 w.params os).abs (restOf Bd y4 Cd p0 Xj)=some (Gq w os):=Bi w os [9,21,10,1,1,5,13,14,25,21,4,2,2,25,4,23,13,13,13] 0 ⟨pc0,pc9,ael,aem,aen,aeo,aep,aeq,aer,aes,acV,acW,acX,acY,acZ,ac0,ac1,ac2,ac3,rfl⟩
theorem Fn(w:dQ)(os:fI):segRun mT Pw w 11 (some (.ref 6)) 1 1 (Sg 0 w.params os).abs (blockOf Bd y4 Cd p0 Xj)=some (.next,(Sg 0 w.params os).abs,Cd,p0):=⋯
theorem N9(w:dQ)(os:fI):topGo mT Pw w 11 (some (.ref 6)) 12 ⟨kR w.params,#[],boot_drawn,boot_toks,os⟩ (topStub Pw)=some ((Sg 0 w.params os).abs,⟨denote mT Cd,Cd,p0,Xj⟩):=⋯
theorem N8(w:dQ)(os:fI):topRun mT Pw w 11 (some (.ref 6)) 28515 ⟨kR w.params,#[],boot_drawn,boot_toks,os⟩ (topStub Pw)=some (Gq w os):=go_top (n:=12) (N:=28503) (N9 w os) (piece_block (n:=1) (N:=28502) (q:=p0) (Fn w os) (LP w os))
end
section
open PySem PySem.W PyProof.Rows PySem.Calls
noncomputable def Qv:Program:={Pw with main:={Pw.main with body:=[sT 218]}}
noncomputable def Ls:List Str:=((Sb.take 218).filter λi=> !U9 i.s).map (·.s.n)
noncomputable def Xt0(_:az):Bool:=true
noncomputable def Yf0(s:az):dO×Nat:=(s.heap,s.toks)
noncomputable def Ya0(w:dQ):dO×Nat:=(w9 w.params,2455)
noncomputable abbrev NN:Nat:=30000
theorem adn(w:dQ):((kR w.params).isNs yY&&(#[]:Array GenState).size==0,(kR w.params).objs.size,(kR w.params).nsMap yY "__annotations__")=(true,11,some (.ref 6)):=⋯
theorem aec:eI 28515 NN=true:=⋯
theorem acR(w:dQ):(fencedOpening mT Pw w NN).map (λs=>(s.heap,s.gens,s.drawn,s.toks))=some (kR w.params,#[],boot_drawn,boot_toks):=boot_open (p:=Pw) ⋯ ⋯ (λs=>⋯) w
theorem acG(w:dQ)(os:fI):staticsOk (qu Pw.main.body) (kR w.params) (w9 w.params)=true:=⋯
theorem acz(w:dQ):(w9 w.params).nsKeys yY=startupNames++Pw.boundNames.filter (!eN "__name__" ·):=⋯
theorem acH(w:dQ)(os:fI):namesBound Pw (w9 w.params)=true:=br ⋯ (aQ.mpr λk h=>qn.mpr ((cP.mp (acz w▸h)).imp jV.mpr λh=>jV.mpr ((List.mem_filter.mp h).1)))
theorem acI(w:dQ)(os:fI):gensDone (Gq w os)=true:=⋯
theorem acJ(w:dQ)(os:fI):laidKept (kR w.params) (w9 w.params)=true:=by unfold laidKept dO.nsMap;rw[tL];kernel_rfl
noncomputable abbrev Md:List Str:=qu Pw.main.body
noncomputable abbrev S1(w:dQ)(os:fI):Shared:=Gq w os
theorem aex(w:dQ)(os:fI):seen ((recsOf Qv).map (·.name)) (ownsOf Qv) [] {S1 w os with gens:=#[]}=expectedOf Qv:=by unfold seen dO.shapeAt dO.fnAt dO.nsMap;rw[tL];kernel_rfl
theorem aey(w:dQ)(os:fI):(S1 w os).heap.bltView=bltViewBooted:=⋯
theorem aez(w:dQ)(os:fI):((S1 w os).heap.keysOk (looseW Qv Ls) ((recsOf Qv).map (·.name)) ((litsOf Qv).map (·.1)) ((clssOf Qv (looseW Qv Ls)).map (·.name))&&(S1 w os).heap.accountedOkI Md&&(S1 w os).heap.isNs yY&&(S1 w os).heap.isNs qg&&tablesOk Qv (S1 w os).heap&&Xt0 (S1 w os)&&(if true then(S1 w os).gens.size==0 else !leftWithCleanup (S1 w os).gens))=true:=by rw[PySem.W.Fast.te10880121769531294198,PySem.W.Fast.te821141287760084731];kernel_rfl
theorem aeA(w:dQ)(os:fI):tabsOk Qv (S1 w os)=true:=⋯
theorem aeB(w:dQ)(os:fI):pinSeenD Qv (drecsOf Qv) (S1 w os)=pinGoodD (drecsOf Qv):=⋯
theorem aeC(w:dQ)(os:fI):plainSeenE Qv (looseW Qv Ls) (S1 w os)=plainGoodE Qv (looseW Qv Ls):=⋯
theorem aeD(w:dQ)(os:fI):plainSeenD Qv Ls (S1 w os)=plainGoodD Qv Ls:=⋯
theorem aeE(w:dQ)(os:fI):wideSeen Qv (S1 w os)=wideGood Qv:=by rw[PySem.W.Fast.te7317090234206586261];kernel_rfl
theorem aeF(w:dQ)(os:fI):clsSeenW Qv Ls (S1 w os)=clsGoodW Qv Ls:=⋯
end
section
open PySem PySem.W PyProof.Rows PySem.Calls
noncomputable abbrev L0:OpenLaw:=PySem.Challenge.rw_xm0332_01
noncomputable abbrev r0:OpenRow:=L0.row
section
open PySem.W.Fast
noncomputable def lkS(n:Str):List (Str×jr)->Option NameKind:=@Xf _ (λ_=>Option jr) none λa _ h=>@sC (λ_=>Option jr) h (some a.2) (sEq a.1 n)
theorem z8:@List.lookup Str jr _=lkS:=by
 funext n l
 induction l with
 |nil=>rfl
 |cons a r h=>
  show _=@sC (λ_=>Option jr) (lkS n r) (some a.2) (sEq a.1 n)
  rw[<-h,cR,Kj]
  cases sEq a.1 n<;>rfl
noncomputable def cnS(l:List Str)(n:Str):Bool:=@Xf _ (λ_=>Bool) false (λa _ h=>@sC (λ_=>Bool) h true (sEq a n)) l
theorem Ul:@List.contains Str _=cnS:=by
 funext l n
 induction l with
 |nil=>rfl
 |cons a r h=>
  show _=@sC (λ_=>Bool) (cnS r n) true (sEq a n)
  rw[<-h,List.contains_cons,Kj]
  cases sEq a n<;>rfl
theorem ld1:namesResolve L0.prog=true:=by
 unfold namesResolve;rw[z8,Ul,named_eq,te6116379765354995101];kernel_rfl
theorem adQ{d:Type}{f:d->Bool}{a b c:d}(h:f a=false)(g:f b=false)(k:f c=false):[a,b,c].filter f=[]:=by simp[h,g,k]
theorem rd3:FV L0.prog L0.prog.main.body "vars"=false:=by rw[qi];kernel_rfl
theorem rd4:FV L0.prog L0.prog.main.body "dir"=false:=by rw[qi];kernel_rfl
theorem rd5:FV L0.prog L0.prog.main.body "locals"=false:=by rw[qi];kernel_rfl
theorem rd0:(["vars","dir","locals"]:List Str).filter (FV L0.prog L0.prog.main.body)=[]:=adQ rd3 rd4 rd5
theorem J8{k}(b:List je):∀a,kU k (a++b)=(kU k a&&kU k b)
 |[]=>rfl
 |_::a=>(congrArg _ (J8 b a)).trans (Xc ..).symm
theorem Vx{k}{a:List je}(n:Nat)(h:kU k (a.take n)=true)(g:kU k (a.drop n)=true):kU k a=true:=oS n a▸(J8 _ _).trans (br h g)
noncomputable abbrev lk0:Look:={strict:= !(qu L0.prog.main.body).all cThrough.contains,foot:=none,bare:=[]}
theorem rd1:kU lk0 (L0.prog.main.body.take 175)=true:=by rw[R6];kernel_rfl
theorem rd2:kU lk0 (L0.prog.main.body.drop 175)=true:=by rw[R6];kernel_rfl
theorem ld2:kU {strict:= !(qu L0.prog.main.body).all cThrough.contains,foot:=none,bare:=((["vars","dir","locals"]:List Str).filter (FV L0.prog L0.prog.main.body))} L0.prog.main.body=true:=by
 rw[rd0];exact Vx 175 rd1 rd2
theorem ld3:(namesMeet L0.prog L0.prog.main.body λJ n=>attrL n)=true:=by
 rw[OY,te17868728402115742887];kernel_rfl
theorem ld5:(L0.bound'.all λn=> !builtinNamed n||L0.about==[n]|| !L0.reads n)=true:=by
 rw[te6984425678791042302,named_eq];kernel_rfl
theorem ld4:namesMeet L0.prog L0.above (λJ n=> !L0.own.contains n)=true:=by
 rw[OY,te3471404346716756564,sDec_eq,te10792542408131684335];kernel_rfl
open TablesWhole
theorem D4{t c s}(b:List je):∀a,wSs holds t c s (a++b)=(wSs holds t c s a&&wSs holds t c s b)
 |[]=>rfl
 |_::a=>(congrArg _ (D4 b a)).trans (Xc ..).symm
noncomputable abbrev wH(m:Module)(l:List je):Prop:=wSs holds m.scope ⟨m.scope,[],[],[],none⟩ m.scope l=true
theorem KX{p:fh}(f:wSs gather p.main.scope ⟨p.main.scope,[],[],[],none⟩ p.main.scope p.main.body=[])(d:noTwice p.main.scope=true){n:Nat}(e:wH p.main (p.main.body.take n))(g:wH p.main (p.main.body.drop n))(a:p.modules=[])(b:p.parses=[])(c:p.harvested=[]):p.tablesWhole=true:=by
 have h:=(D4 (p.main.body.drop n) (p.main.body.take n)).trans (br e g)
 rw[oS] at h
 unfold fh.tablesWhole wProgram wModule
 rw[f,a,b,c]
 exact br (br d (br h rfl)) rfl
theorem ld6:wSs gather r0.prog.main.scope ⟨r0.prog.main.scope,[],[],[],none⟩ r0.prog.main.scope r0.prog.main.body=[]:=by rw[qj];kernel_rfl
theorem ld7:wH r0.prog.main (r0.prog.main.body.take 175):=by unfold wH holds Ly.bears;rw[z8,qj];kernel_rfl
theorem ld8:wH r0.prog.main (r0.prog.main.body.drop 175):=by unfold wH holds Ly.bears;rw[z8,qj];kernel_rfl
theorem ld9:noTwice r0.prog.main.scope=true:=by rw[te8331962902438777018];kernel_rfl
theorem tbw:r0.prog.tablesWhole=true:=KX ld6 ld9 ld7 ld8 ⋯ ⋯ ⋯
end
theorem lo0:looksOpen L0.prog=true:=br (br (br (br (br ⋯ ⋯) ld1) ⋯) ld2) ld3
theorem ps0:r0.partSaid=true:=
 br (br (br (br (br (br (br (br (br (br (br (br (br lo0 ⋯) ⋯) ⋯) ⋯) ⋯) ⋯) ⋯) ⋯) ⋯) ⋯) ⋯) ⋯) ⋯
theorem adb:r0.wellSaid=true:=br (br ps0 ⋯) ⋯
theorem aeN:L0.wellSaid=true:=
 br (br (br (br (br (br (br (br (br (br (br (br (br (br (br (br (br (br adb ⋯) ⋯) ⋯) ⋯) ⋯) ⋯) ⋯) ⋯) ⋯) ld5) ⋯) ⋯) ⋯) ⋯) ⋯) ⋯) ld4) ⋯
end
section
inductive Lx|v (i:Nat)|n (k:Nat)|s (a b:Lx)|m (k:Nat) (a:Lx)|r (a:Lx) (k:Nat)
inductive Hs|z|c (k:Nat) (l r:Lx) (t:Hs)|E (k:Nat) (l r:Lx) (t:Hs)|F (k:Nat) (l r:Lx) (t:Hs)
noncomputable def gtN:List Nat->Nat->Nat
 |[],_=>0
 |a::_,0=>a
 |_::l,i+1=>gtN l i
noncomputable def Lx.d(c:List Nat):Lx->Nat
 | .v i=>gtN c i
 | .n k=>k
 | .s a b=>a.d c+b.d c
 | .m k a=>k*a.d c
 | .r a k=>a.d c*k
noncomputable def n_:List Nat->List Nat->List Nat
 |[],q=>q
 |a::p,[]=>a::p
 |a::p,b::q=>(a+b)::n_ p q
noncomputable def unL:Nat->List Nat
 |0=>[1]
 |i+1=>0::unL i
noncomputable def Lx.p:Lx->List Nat
 | .v i=>0::unL i
 | .n k=>[k]
 | .s a b=>n_ a.p b.p
 | .m k a=>a.p.map (k* ·)
 | .r a k=>a.p.map (k* ·)
noncomputable def i6:List Nat->List Nat->Nat
 |[],_=>0
 |_::_,[]=>0
 |a::p,b::q=>a*b+i6 p q
theorem pJ:∀p q c,i6 (n_ p q) c=i6 p c+i6 q c
 |[],q,c=>(cQ _).symm
 |a::p,[],c=>rfl
 |a::p,b::q,[]=>rfl
 |a::p,b::q,x::c=>by show(a+b)*x+i6 (n_ p q) c=a*x+i6 p c+(b*x+i6 q c);rw[pJ p q c,Nat.add_mul];ac_rfl
theorem pK(k:Nat):∀p c,i6 (p.map (k* ·)) c=k*i6 p c
 |[],c=>rfl
 |a::p,[]=>rfl
 |a::p,x::c=>by show k*a*x+i6 (p.map (k* ·)) c=k*(a*x+i6 p c);rw[pK k p c,Nat.mul_add,Nat.mul_assoc]
theorem Ib:∀i c,i6 (unL i) c=gtN c i
 |0,[]=>rfl
 |0,x::c=>by show 1*x+i6 [] c=x;rw[Nat.one_mul];rfl
 |i+1,[]=>rfl
 |i+1,x::c=>by show 0*x+i6 (unL i) c=gtN c i;rw[Ib i c,FN,cQ]
theorem Lx.j(c:List Nat):∀e:Lx,i6 e.p (1::c)=e.d c
 | .v i=>by show 0*1+i6 (unL i) c=gtN c i;rw[Ib,FN,cQ]
 | .n k=>by show k*1+i6 [] c=k;rw[Nat.mul_one];rfl
 | .s a b=>by show i6 (n_ a.p b.p) _=a.d c+b.d c;rw[pJ,Lx.j c a,Lx.j c b]
 | .m k a=>by show i6 (a.p.map (k* ·)) _=k*a.d c;rw[pK,Lx.j c a]
 | .r a k=>by show i6 (a.p.map (k* ·)) _=a.d c*k;rw[pK,Lx.j c a,Nat.mul_comm]
noncomputable def W6:List Nat->List Nat->Bool
 |[],_=>true
 |a::p,[]=>aT a 0&&W6 p []
 |a::p,b::q=>eI a b&&W6 p q
theorem z7:∀p q c,W6 p q=true->i6 p c<=i6 q c
 |[],q,c,_=>b7 _
 |a::p,[],[],_=>b7 _
 |a::p,[],x::c,h=>by
  have h:=aE.mp h
  show a*x+i6 p c<=0
  rw[aK h.1,FN,cQ]
  have:=z7 p [] c h.2
  cases c<;>exact this
 |a::p,b::q,[],_=>b7 _
 |a::p,b::q,x::c,h=>by
  have h:=aE.mp h
  exact qf (gu x (aW h.1)) (z7 p q c h.2)
noncomputable def Hs.j:Hs->List Nat
 | .z=>[]
 | .c k l _ t=>n_ (l.p.map (k* ·)) t.j
 | .E k l _ t=>n_ (l.p.map (k* ·)) t.j
 | .F k l _ t=>n_ (l.p.map (k* ·)) t.j
noncomputable def Hs.m:Hs->List Nat
 | .z=>[]
 | .c k _ r t=>n_ (r.p.map (k* ·)) t.m
 | .E k _ r t=>n_ (r.p.map (k* ·)) t.m
 | .F k _ r t=>n_ (r.p.map (k* ·)) t.m
noncomputable def Hs.i(c:List Nat)(P:Prop):Hs->Prop
 | .z=>P
 | .c _ l r t=>l.d c<=r.d c->t.i c P
 | .E _ l r t=>l.d c=r.d c->t.i c P
 | .F _ l r t=>r.d c=l.d c->t.i c P
theorem Hs.p{c:List Nat}{l r:Lx}(k:Nat)(t:Hs)(q:l.d c<=r.d c)(g:i6 t.j (1::c)<=i6 t.m (1::c)):i6 (n_ (l.p.map (k* ·)) t.j) (1::c)<=i6 (n_ (r.p.map (k* ·)) t.m) (1::c):=by
 rw[pJ,pJ,pK,pK,Lx.j,Lx.j]
 exact qf (Nat.mul_le_mul_left k q) g
theorem Hs.s(c:List Nat){P:Prop}:∀(h:Hs),(i6 h.j (1::c)<=i6 h.m (1::c)->P)->h.i c P
 | .z,f=>f (aC _)
 | .c k l r t,f=>λq=>t.s c λg=>f (Hs.p k t q g)
 | .E k l r t,f=>λq=>t.s c λg=>f (Hs.p k t (oz q) g)
 | .F k l r t,f=>λq=>t.s c λg=>f (Hs.p k t (oz q.symm) g)
theorem bZ(c:List Nat)(h:Hs)(e:W6 (n_ [1] h.m) h.j=true):h.i c False:=h.s c λg=>by
 have q:=z7 _ _ (1::c) e
 rw[pJ] at q
 exact Nat.not_succ_le_self _ (aD (aD (oz (ua _ 1)) q) g)
theorem Hs.n{c:List Nat}{A B:Prop}(f: ¬A->B):∀h:Hs,(A->h.i c False)->h.i c B
 | .z,g=>f g
 | .c _ _ _ t,g=>λq=>Hs.n f t λa=>g a q
 | .E _ _ _ t,g=>λq=>Hs.n f t λa=>g a q
 | .F _ _ _ t,g=>λq=>Hs.n f t λa=>g a q
noncomputable def Hs.o(l r:Lx)(t:Hs):Hs:= .c 1 l r t
noncomputable def Hs.e(l r:Lx)(t:Hs):Hs:= .E 1 l r t
noncomputable def Hs.f(l r:Lx)(t:Hs):Hs:= .F 1 l r t
theorem bN(c:List Nat)(l r:Lx)(h:Hs)(e:W6 (n_ [1] (Hs.m (.c 1 (.s r (.n 1)) l h))) (Hs.j (.c 1 (.s r (.n 1)) l h))=true):h.i c (l.d c<=r.d c):=Hs.n aP h (bZ c (.c 1 (.s r (.n 1)) l h) e)
theorem gz(c:List Nat)(l r:Lx)(h:Hs)(e:W6 (n_ [1] (Hs.m (.c 1 r l h))) (Hs.j (.c 1 r l h))=true):h.i c (l.d c<r.d c):=Hs.n cL h (bZ c (.c 1 r l h) e)
instance:Add Lx:=⟨.s⟩
instance {k:Nat}:OfNat Lx k:=⟨.n k⟩
noncomputable def V0.A:Lx:= .v 0
noncomputable def V0.B:Lx:= .v 1
noncomputable def V0.C:Lx:= .v 2
noncomputable def V0.D:Lx:= .v 3
noncomputable def V0.E:Lx:= .v 4
noncomputable def V0.F:Lx:= .v 5
noncomputable def V0.G:Lx:= .v 6
noncomputable def V0.H:Lx:= .v 7
noncomputable def V0.I:Lx:= .v 8
noncomputable def V0.J:Lx:= .v 9
noncomputable def V0.K:Lx:= .v 10
noncomputable def V0.M(k:Nat)(a:Lx):Lx:= .m k a
noncomputable def V0.R(a:Lx)(k:Nat):Lx:= .r a k
section
open V0
variable{a b c d e f g h:Nat}
theorem nx{k a:Nat}{P:Prop}(h:k<=a)(q:k+1<=a->P):a=k\/P:=(OP h).imp Eq.symm q
theorem nab{a:Int}{n:Nat}(h:0<=a)(i:a<n):a.natAbs<n:=cw.mp (cZ (Int.le_of_eq (Int.natAbs_of_nonneg h)) i)
theorem tnE{a:Int}{i:Nat}(h:0<=a)(e:a.toNat=i):a=i:=(k7 h).symm.trans (congrArg nJ e)
theorem Xq(i:(↑a:Int)=(↑b:Int)):a=b:=eA i
theorem adE(i:a<b+20): ¬(↑(b+20):Int)<=(↑a:Int):=λg=>(λj=>bZ [a,b] (.o (A+1) (B+20) (.o (B+20) A .z)) rfl i j: ¬b+20<=a) (fj.mp g)
theorem adF:a+20≠0/\a+20≠14:=⟨Nat.succ_ne_zero _,λh=>absurd (h▸eU 20 a) (by decide: ¬20<=14)⟩
theorem He(i:a<1000000):a<2^62:=eK i
theorem Z_:19≠14:=by decide
theorem aad:19≠0:=by decide
theorem aam:19<20:=by decide
theorem lG:a<=a+1:=bc _ _
theorem rP(i:a<=99999):a+20<=1000000:=eK (aM i _)
theorem vJ(i:a<=99999):a<=100000:=eK i
theorem Sl:0<=(↑a:Int):=eF _
theorem Sm:a<a+1:=aC _
theorem Sn(i:a<19/\a≠0/\a≠14): ¬a=19:=λj=>bZ [a] (.o (A+1) 19 (.f 19 A .z)) rfl i.1 j
theorem Sp(i:a<19/\a≠0/\a≠14):a<20:=gz [a] A 20 (.o (A+1) 19 .z) rfl i.1
theorem Sk:0<=1:=by decide
theorem Xl:a<=a+0:=aC _
theorem Xm(i:0<a):(↑a:Int)≠0:=λg=>(λj=>bZ [a] (.o (0+1) A (.e A 0 .z)) rfl i j:a≠0) (eA g)
theorem adD(i:0<a):0<(↑a:Int):=cw.mpr i
theorem LQ:0<2^62:=by decide
theorem Xn(j:0<a)(i:a<=1000):0<=(↑a:Int):=eF _
theorem O_(i:0<a)(k:a<=1000):(↑a:Int)≠0:=λg=>(λj=>bZ [a] (.o (0+1) A (.e A 0 .z)) rfl i j:a≠0) (eA g)
theorem AU(i:a<=100):a<=1000000:=eK i
theorem Xo{a:Int}(i: ¬0<=a):18446744073709551615 - (↑((-a - 1).toNat%18446744073709551616):Int)=a%18446744073709551616:=match a,i with| .ofNat n,h=>absurd (eF n) h| .negSucc n,_=>(congrArg (λk:Int=>18446744073709551615 - ((k.toNat%18446744073709551616:Nat):Int)) (jc (n:Int) 1)).trans ((congrArg (18446744073709551615 - ·) (Wa n 18446744073709551616)).trans (Int.negSucc_emod n (b:=18446744073709551616) (by decide)).symm)
theorem Xp{a:Int}{b:Nat}(i:0<=a)(j:b=a.toNat%18446744073709551616):(↑(a.toNat%18446744073709551616):Int)=a%18446744073709551616:=(Wa a.toNat 18446744073709551616).trans (congrArg (· %(18446744073709551616:Int)) (k7 i))
theorem AM:14<15:=by decide
theorem AN:13<15:=by decide
theorem AO:12<15:=by decide
theorem AP:11<15:=by decide
theorem AQ:10<15:=by decide
theorem AS:9<15:=by decide
theorem Xr(j:a+(b+1)<=99999)(i:c+(b+1)<=1000):c<=1000000:=bN [a,b,c] C 1000000 (.o (C+(B+1)) 1000 .z) rfl i
theorem uQ:15<=a+20:=eU _ _
theorem xm:a+20≠17:=dJ (bk (by decide) (eU _ _))
theorem Pb:15<=16:=by decide
theorem Pc:15<=18:=by decide
theorem Pd{a:Int}(j: -9223372036854775808<=a)(i:a<9223372036854775808):(a+(↑9223372036854775808:Int))%(↑18446744073709551616:Int) - (↑9223372036854775808:Int)=a:=(congrArg (· - (9223372036854775808:Int)) (mQ (K8 j 9223372036854775808) (K9 i 9223372036854775808))).trans (jc _ _)
theorem Pe:1<=5/\5<=8:=by decide
theorem Pf{a:Int}(j: -2147483648<=a)(i:a<2147483648):(a+(↑2147483648:Int))%(↑4294967296:Int) - (↑2147483648:Int)=a:=(congrArg (· - (2147483648:Int)) (mQ (K8 j 2147483648) (K9 i 2147483648))).trans (jc _ _)
theorem Pg{a:Int}(j: -2147483648<=a)(i:a<2147483648):a=(a+(↑2147483648:Int))%(↑4294967296:Int) - (↑2147483648:Int):=(Pf j i).symm
theorem Pa(i:a<=3):a<=1000000:=eK i
theorem jX(i:a<=3):a<=1000:=eK i
theorem Pk(i:0<a):a≠0:=dJ i
theorem xn(i:a<=90000):a<=100000:=eK i
theorem AV(i:a≠b):a≠b:=i
theorem AW(i:15<=a):12<=a:=bk (by decide) i
theorem GF(i:15<=a):a≠13:=dJ (ud i)
theorem Pl(j:a<=100000)(i:b<=a):b<=1000000:=aD i (eK j)
theorem sM(i:a<b):b≠a:=dJ i
theorem Xu{a b:Int}(i:0<a):b<b+a:=D6 b i
theorem Xv{a b c:Int}(j:0<a)(i:b<c):b<c+a:=FG i (D6 c j)
theorem xo(i:a<=b):a+1<=b+1:=R4 i
theorem Xw{a:Int}(i:a<a):False:=by simpa using i
theorem Pm:a<=a+1+1+1:=bN [a] A (A+1+1+1) .z rfl
theorem Pn:0<5:=by decide
theorem Xx:a≠a+1+1:=λe=>by cases e
theorem pE(j:a<=b)(i:b<=c):a<=c:=aD j i
theorem sN(j:a<=b)(i:b<a):False:=bZ [a,b] (.o A B (.o (B+1) A .z)) rfl j i
theorem Xy(j:a<=b)(i:c<a):b≠c:=λk=>bZ [a,b,c] (.o A B (.o (C+1) A (.e B C .z))) rfl j i k
theorem AX(i:a<=1000):0<=(↑a:Int)/\(↑a:Int)<=1000:=⟨fj.mpr (bN [a] 0 A .z rfl),fj.mpr (bN [a] A 1000 (.o A 1000 .z) rfl i)⟩
theorem Xz(i:a<=5)(j:1<=a):min b a<=1000000:=bN [a,min b a,b] B 1000000 (.o A 5 (.o B A .z)) rfl i (eG b a)
theorem Xs(k:a<=1000)(i:1<=a): ¬2+(↑a:Int)<3:=λg=>(λj=>bZ [a] (.o 1 A (.o (2+A+1) 3 .z)) rfl i j: ¬2+a<3) (cw.mp g)
theorem rA(i:a<=1000):a<=1000000:=eK i
theorem Ph(i:a<b):(↑a:Int)<(↑b:Int):=cw.mpr i
theorem Pj(i:a<=80000):a+1<=90000:=rH i
theorem AZ(i:a<=80000):a<=90000:=eK i
theorem GG(j:a<=90000)(i:b<=a):b<=99999:=aD i (eK j)
theorem XD:a<=a+b:=bc _ _
theorem GH(i:a<=b):a<=b+c:=bN [a,b,c] A (B+C) (.o A B .z) rfl i
theorem oH(j:a<=b)(i:c<=a):c<=b:=aD i j
theorem Po(j:64<=a)(i:a<=68):a=64\/a=65\/a=66\/a=67\/a=68:=nx j λh=>nx h λh=>nx h λh=>nx h λh=>aR i h
theorem XE(i:a<=5):min b a<=1000000:=bN [a,min b a,b] B 1000000 (.o A 5 (.o B A .z)) rfl i (eG b a)
theorem A1:a<=a+1+1:=bN [a] A (A+1+1) .z rfl
theorem Pp(i:a<b):a<=b:=jJ i
theorem XF(l:a=b)(i:c=d)(j:a<c):a≠d:=λk=>bZ [a,b,c,d] (.e C D (.o (A+1) C (.f D A .z))) rfl i j k
theorem GI(i:a≠b)(j:c≠b)(k:d≠b):b≠a:=i.symm
theorem XG(s:a<b)(p:b<c)(k:d≠c)(t:a≠c)(n:b≠c)(r:d≠b)(l:e≠c)(q:f≠c)(m:g≠c):c≠d:=(bL k).elim (λj=>λi=>bZ [a,b,c,d] (.o (D+1) C (.e C D .z)) rfl j i) λj=>λi=>bZ [a,b,c,d] (.o (C+1) D (.f D C .z)) rfl j i
theorem A4(i:a<=5)(j:1<=a):a<=1000:=eK i
theorem Pq:a+1+1≠a:=λe=>by cases e
theorem xp(i:a<b):a≠b:=gw i
theorem XH(j:a<b)(i:b<c):a≠c:=λk=>bZ [a,b,c] (.o (A+1) B (.o (B+1) C (.f C A .z))) rfl j i k
theorem XA(k:a<=5)(l:1<=a):a - 1<100000:=cL λi=>bZ [a,a - 1] (.o A 5 (.o 100000 B (.e (B+1) A .z))) rfl k i (dy (aP λj=>bZ [a,a - 1] (.c 1 (.n 100000) (.v 1) (.c 1 (.v 1) (.v 0) (.c 1 (.s (.v 0) (.n 1)) (.n 1) .z))) rfl i (yP a 1) j))
theorem XB(k:a<=5)(j:1<=a):a - 1<a:=gz [a,a - 1] B A (.e (B+1) A .z) rfl (dy (aP λi=>bZ [a,a - 1] (.c 1 (.n 1) (.v 0) (.c 1 (.s (.v 0) (.n 1)) (.n 1) .z)) rfl j i))
theorem AY:a<=a:=aC _
theorem XC:a≠a+1+1+1:=λe=>by cases e
theorem xr(i:a<=70000):a<=80000:=eK i
theorem Pu(j:a<=90000)(i:b<=a):b<=1000000:=aD i (eK j)
theorem xt(i:a<=b):a<=b+1:=ub i
theorem GN(i:a<=b+1):a<=b+1:=i
theorem XM(k:a<b+1)(j: ¬a=b):a<b:=(bL j).elim (λi=>gz [a,b] A B (.o (A+1) B .z) rfl i) λi=>cL λl=>bZ [a,b] (.o (A+1) (B+1) (.o (B+1) A .z)) rfl k i
theorem XN:a+b+1=a+1+b:=aR (bN [a,b] (A+B+1) (A+1+B) .z rfl) (bN [a,b] (A+1+B) (A+B+1) .z rfl)
theorem GO(i:a<=90000):a<=1000000:=eK i
theorem uS(i:a<=100):a<=1000:=eK i
theorem GP(j:a<=80000)(i:b<=a):b<=90000:=aD i (eK j)
theorem Px(j:a<=80000)(i:b<=a):b<=100000:=aD i (eK j)
theorem Py(i:a<=100):a+1<=1000:=rH i
theorem Pz(i:a<=100):a<100000:=rH i
theorem GQ:(↑(a+1):Int) - 1=(↑a:Int):=by simp
theorem PB(i:a<=1000):(↑a:Int)<2^62:=cw.mpr (rH i)
theorem Pr(i:a<=1000):0<=(↑a:Int):=eF _
theorem GJ(i:a<2):64+a<=65:=bN [a] (64+A) 65 (.o (A+1) 2 .z) rfl i
theorem xq:(↑(a+1):Int)=(↑a:Int)+1:=rfl
theorem uR(i:a<=10):a<=100:=eK i
theorem GK(i:a<=70000):a+1<=80000:=rH i
theorem XI:a≠a+6:=λe=>by cases e
theorem A5:a+6≠a:=λe=>by cases e
theorem GL(i:a<=70000):a<=90000:=eK i
theorem XJ(j:a<b)(i:b<=5):a<100000:=gz [a,b] A 100000 (.o (A+1) B (.o B 5 .z)) rfl j i
theorem XK(i:a<b): ¬b<=a:=by simpa using i
theorem GU(i:a<=5):a<=1000:=eK i
theorem xu(j:a<=70000)(i:b<=a):b<=100000:=aD i (eK j)
theorem XR:(↑a:Int)<=(↑b:Int)↔a<=b:=by simp
theorem m9(i:a<2):a=0\/a=1:=nx (b7 _) λh=>aR (fA i) h
theorem XT(i:a<=10):min b a<=1000000:=bN [a,min b a,b] B 1000000 (.o A 10 (.o B A .z)) rfl i (eG b a)
theorem XU(l:a=b)(k:b=c+2)(i:d<=e)(j:a+6<d):a+6<e:=gz [a,b,c,d,e] (A+6) E (.o D E (.o (A+6+1) D .z)) rfl i j
theorem GV(i:a<=10):a<=1000000:=eK i
theorem A7(i:a<=60000):a+1<=70000:=rH i
theorem PF:5<6:=by decide
theorem PG(j:a<=60000)(i:b<=a):b<=90000:=aD i (eK j)
theorem XW(j:a=b)(i:b<=5):b<=1000:=bN [a,b] B 1000 (.o B 5 .z) rfl i
theorem PH:(↑a:Int)<(↑b:Int)↔a<b:=by simp
theorem GW(i:a+1<=100):a+1<=1000000:=eK i
theorem PI(i:a+1<=100):a<=100:=jJ (bk i (by decide))
theorem PJ(i:a=b+20):a≠0:=λj=>bZ [a,b] (.f (B+20) A (.e A 0 .z)) rfl i j
theorem XX(i:a<=3)(k:b=a)(l:c=a)(j:d<a):d<100000:=gz [a,b,c,d] D 100000 (.o A 3 (.o (D+1) A .z)) rfl i j
theorem XY(i:a<=3)(k:b=a)(l:c=a)(j:d<a):d<=1000:=bN [a,b,c,d] D 1000 (.o A 3 (.o (D+1) A .z)) rfl i j
theorem XO(i:a<=3)(k:b=a)(l:c=a)(j:d<a):min d b<=1000000:=bN [a,b,c,d,min d b] E 1000000 (.o A 3 (.o (D+1) A (.o E D .z))) rfl i j (f_ d b)
theorem PD(i:15<=a):a≠14:=dJ i
theorem GR(i:15<=a):a≠12:=dJ (bk (by decide) i)
theorem XQ(j:a<=3)(k:b=a)(i:c<a):c+1<100000:=gz [a,b,c] (C+1) 100000 (.o A 3 (.o (C+1) A .z)) rfl j i
theorem A6:1+(↑a:Int)=(↑(a+1):Int):=congrArg nJ (aR (bN [a] (1+A) (A+1) .z rfl) (bN [a] (A+1) (1+A) .z rfl))
theorem PE(j:a<=3)(k:b=a)(i:c<a):c<=1000:=bN [a,b,c] C 1000 (.o A 3 (.o (C+1) A .z)) rfl j i
theorem GS(i:a<=3)(j:b=a):a<=1000:=eK i
theorem XZ(k:a=b)(i:c=b)(j:d<c):d<b:=gz [a,b,c,d] D B (.e C B (.o (D+1) C .z)) rfl i j
theorem X1(j:a=b)(k:c=b)(i:d=b):a=d:=aR (bN [a,b,c,d] A D (.e A B (.f B D .z)) rfl j i) (bN [a,b,c,d] D A (.f B A (.e D B .z)) rfl j i)
theorem X2(j:a=b)(i:c=b):a=c:=i▸j
theorem X3(l:a=b)(k:c=b)(i:b<=3)(j:d=b):d<=3:=bN [a,b,c,d] D 3 (.o B 3 (.e D B .z)) rfl i j
theorem PN:0<6:=by decide
theorem X4(i:a=b)(k:c=b)(l:d=b)(j:e<a):e<b:=gz [a,b,c,d,e] E B (.e A B (.o (E+1) A .z)) rfl i j
theorem PO(i:a<=60000):a+4<=70000:=eK (aM i _)
theorem xv(i:a<=60000):a<=70000:=eK i
theorem PQ(i:a<=3):a<=999:=eK i
theorem A8:4+4<=8:=by decide
theorem A9(i:a<=50000):a+4<=60000:=eK (aM i _)
theorem GY(i:a<=10):a<=1000:=eK i
theorem PR(i:a<=3):a+1<=1000:=rH i
theorem PS(i:a<=3):a<100000:=rH i
theorem PT(i:a<=50000):a<=70000:=eK i
theorem X5(l:a=b)(k:c=b)(i:d<=3)(j:a<=3):d+(a+1)<=10:=bN [a,b,c,d] (D+(A+1)) 10 (.o D 3 (.o A 3 .z)) rfl i j
theorem X6(j:a=b)(k:c=b)(i:b<=3):a<=3:=bN [a,b,c] A 3 (.e A B (.o B 3 .z)) rfl j i
theorem PK(j:a<=50000)(i:b<=a):b<=100000:=aD i (eK j)
theorem PL{a:Int}(j:0<=a)(i:a<999983):a*4294967311 - 2000000000000000<9223372036854775808:=cZ (kN (gQ (t9 i) (by decide)) _) (by decide)
theorem PM{a:Int}(i:0<=a)(j:a<999983): -9223372036854775808<=a*4294967311 - 2000000000000000:=gq (by decide) (kN (gQ i (by decide)) _)
theorem GX{a:Int}(j:0<=a)(i:a<999983):a.natAbs<2^64:=oE (nab j (n:=999983) i) (by decide)
theorem X7{a:Int}:a%3=0\/a%3=1\/a%3=2:=Or.imp (tnE (f6 a (by decide))) (Or.imp (tnE (f6 a (by decide))) (tnE (f6 a (by decide)))) (nx (b7 _) λh=>nx h λh=>aR (fA ((ou (f6 a (by decide))).mpr (rW a (by decide)))) h)
theorem X8{a:Int}:a%2=0\/a%2=1:=Or.imp (tnE (f6 a (by decide))) (tnE (f6 a (by decide))) (nx (b7 _) λh=>aR (fA ((ou (f6 a (by decide))).mpr (rW a (by decide)))) h)
theorem X9:9<=100:=by decide
theorem G5(i:a<=80000):a<=100000:=eK i
theorem PZ:a+1≠a:=Nat.succ_ne_self _
theorem X_(i:a<=900):a<=1000000:=eK i
theorem P7{a:Int}(j:0<=a)(i:a<999983):a/2<999983:=cZ (Int.ediv_le_self _ j) i
theorem P8{a:Int}(i:0<=a)(j:a<999983):0<=a/2:=Int.ediv_nonneg i (by decide)
theorem Yb(j:a<5)(i:b<=50000)(l:c=a)(k:d<=b+6*a+1+3):d<=100000:=bN [a,b,c,d] D 100000 (.c 6 (A+1) 5 (.o B 50000 (.o D (B+(M 6 A)+1+3) .z))) rfl j i k
theorem Yc(j:a<5)(i:b<=50000)(k:c=a):b+6*a+1+3<=99999:=bN [a,b,c] (B+(M 6 A)+1+3) 99999 (.c 6 (A+1) 5 (.o B 50000 .z)) rfl j i
theorem Yd(j:a<5)(i:b<=50000)(k:c=a):b+6*a+1<=70000:=bN [a,b,c] (B+(M 6 A)+1) 70000 (.c 6 (A+1) 5 (.o B 50000 .z)) rfl j i
theorem Ye(j:a<=100)(i:(-1+(↑(a+1):Int)).toNat=a): -2^62< -1/\0<= -1+(↑(a+1):Int):=⟨by decide,le_of_le_of_eq (eF a) ((Int.add_comm _ _).trans (AH (a:Int) 1)).symm⟩
theorem P9(i:a<=100):(-1+(↑(a+1):Int)).toNat=a:=congrArg Int.toNat ((Int.add_comm _ _).trans (AH (a:Int) 1))
theorem P_: ¬0<= -1:=by decide
theorem PU:a+1+1<=a+3:=cN _
theorem PV:a+1+1+1<=a+3:=aC _
theorem PW(i:a<=70000):a+1+1<=80000:=eK (aM (aM i _) _)
theorem GZ(i:a<=70000):a+1<=90000:=rH i
theorem PX:67<=68:=by decide
theorem PY:64<=67:=by decide
theorem Qc:2<6:=by decide
theorem Yl:a+1<=a+3:=by simp
theorem Qd(j:a<5)(i:b+1=a):b<=100:=bN [a,b] B 100 (.o (A+1) 5 (.e (B+1) A .z)) rfl j i
theorem G6:0<4:=by decide
theorem Ym(j:a<5)(i:b<=50000)(k:c=a):b+6*a<=90000:=bN [a,b,c] (B+(M 6 A)) 90000 (.c 6 (A+1) 5 (.o B 50000 .z)) rfl j i
theorem Yn(m:a<5)(l:b=a)(j: ¬a=0):0<a:=(bL j).elim (λi=>cL λk=>bZ [a,b] (.o (A+1) 0 .z) rfl i) λi=>gz [a,b] 0 A (.o (0+1) A .z) rfl i
theorem Yo(k:a=b)(i:b=0): ¬0<b:=λj=>bZ [a,b] (.e B 0 (.o (0+1) B .z)) rfl i j
theorem Qe(j:a<5)(i:b=a):b<=1000000:=bN [a,b] B 1000000 (.o (A+1) 5 (.e B A .z)) rfl j i
theorem Yp(m:a<5)(k:b=a+1)(j: ¬a=0)(n:c=a):2<=b:=(bL j).elim (λi=>aP λl=>bZ [a,b,c] (.o (A+1) 0 .z) rfl i) λi=>bN [a,b,c] 2 B (.f (A+1) B (.o (0+1) A .z)) rfl k i
theorem Qa(j:a<5)(i:b=a+1)(k:c=a):b<=5:=i▸j
theorem Qb(k:a<5)(i:b=a+1)(j:c=a):1<=b:=bN [a,b,c] 1 B (.f (A+1) B .z) rfl i
theorem Yg(i:a<5)(j:b=a+1)(k:c=a):d+1+1+6*(a+1)+4<=d+36:=bN [a,b,c,d] (D+1+1+(M 6 (A+1))+4) (D+36) (.c 6 (A+1) 5 .z) rfl i
theorem Yh(m:a=b+1)(k: ¬b=0)(l:c=b):b+1≠1:=(bL k).elim (λi=>λj=>bZ [a,b,c] (.o (B+1) 0 .z) rfl i) λi=>λj=>bZ [a,b,c] (.o (0+1) B (.e (B+1) 1 .z)) rfl i j
theorem Yi(j:a<=30000)(i:b<5)(k:c=b+1)(l:d=b):a+1+1+6*(b+1)<=70000:=bN [a,b,c,d] (A+1+1+(M 6 (B+1))) 70000 (.o A 30000 (.c 6 (B+1) 5 .z)) rfl j i
theorem Yj(j:a=b+1)(i:c+1=b+1):c=b:=aR (bN [a,b,c] C B (.e (C+1) (B+1) .z) rfl i) (bN [a,b,c] B C (.f (B+1) (C+1) .z) rfl i)
theorem Yk:a+1+1+6*(0+1)<=a+36:=k8 (by decide:8<=36) a
theorem xw:a≠a+1:=gw (dh _)
theorem G7(i:a=a+1):False:=by cases i
theorem Qh(i:a<999983):(↑a:Int)<999983:=cw.mpr i
theorem Qi(i:a<999983):0<=(↑a:Int):=eF _
theorem Qj:0<999983:=by decide
theorem Yt(k: ¬a<b)(i:c=b+1)(j:a<c):a=b:=aR (bN [a,b,c] A B (.e C (B+1) (.o (A+1) C .z)) rfl i j) (bN [a,b,c] B A (.o B A .z) rfl (aP k))
theorem G8(j:a<b)(i:c=b):a<c:=i▸j
theorem Qk(k:a+1<b)(i:c=d+1)(j:d=b+1):a≠c:=λl=>bZ [a,b,c,d] (.o (A+1+1) B (.f (D+1) C (.f (B+1) D (.f C A .z)))) rfl k i j l
theorem Yu(l:a+1<b)(n:c=d+1)(i:e+1<=d)(m:e=f+1)(k:f=b+1)(p:g=c+2):a≠d:=λj=>bZ [a,b,c,d,e,f,g] (.o (A+1+1) B (.o (E+1) D (.f (F+1) E (.f (B+1) F (.f D A .z))))) rfl l i m k j
theorem Ql(j:a+1<b)(i:c=b+1):a≠c:=λk=>bZ [a,b,c] (.o (A+1+1) B (.f (B+1) C (.f C A .z))) rfl j i k
theorem Yv(j:a=b+1)(i:c+1<=b)(l:c=d+1)(k:e=a+2):c<e:=gz [a,b,c,d,e] C E (.f (B+1) A (.o (C+1) B (.f (A+2) E .z))) rfl j i k
theorem Qf(i:a<=b):a<=b:=i
theorem Yq(m:a=b+1)(j:c+1<=b)(i:c=d+1)(k:d=e+1)(l:f=a+2):e<=b:=bN [a,b,c,d,e,f] E B (.o (C+1) B (.f (D+1) C (.f (E+1) D .z))) rfl j i k
theorem Qg(i:a=b+1):b<=a:=bN [a,b] B A (.f (B+1) A .z) rfl i
theorem Yr:a+1+6+1<=a+10:=by simp
theorem Ys(j:a+1<b)(l:c=b+1)(i:b<=d)(k:d=a):False:=bZ [a,b,c,d] (.o (A+1+1) B (.o B D (.e D A .z))) rfl j i k
theorem YF(i:a<=60000):a+1+6<=90000:=eK (aM (aM i _) _)
theorem YG(j:a<=3)(i:b=min a a):b<=3:=bN [a,b,min a a] B 3 (.o A 3 (.e B C (.o C A .z))) rfl j i (f_ a a)
theorem G9(i:a<=60000):a<=90000:=eK i
theorem Qn(i:a<=90000):a+1<=100000:=rH i
theorem YH(i:a<=1/\b<=3):b<=1000:=bN [a,b] B 1000 (.o B 3 .z) rfl i.2
theorem YI(i:a<=1/\b<=3):a<=1000:=bN [a,b] A 1000 (.o A 1 .z) rfl i.1
theorem YJ(k:a=b+1)(i:c≥b+2)(j:d=c+1):b<=d:=bN [a,b,c,d] B D (.o (B+2) C (.f (C+1) D .z)) rfl i j
theorem YK(k:a=b+1)(i:c≥b+2)(j:d=c+1):b<=c:=bN [a,b,c,d] B C (.o (B+2) C .z) rfl i
theorem Qo:a+1+1<=a+2:=aC _
theorem YL(j:a+1<b)(l:c=b+1)(i:d≥b+2):a≠d:=λk=>bZ [a,b,c,d] (.o (A+1+1) B (.o (B+2) D (.f D A .z))) rfl j i k
theorem YM(j:a=b+1)(i:a+1<=c):c≥b+2:=by subst j;exact i
theorem Qp:a<=a+2:=bc _ _
theorem Qm(i:a<2):1 - (↑a:Int)=(↑(1 - a):Int):=(by decide:∀a:Nat,a<2->1 - (↑a:Int)=(↑(1 - a):Int)) a i
theorem Yw(i:a<=b+1*6):a<=b+102/100*6:=i
theorem Yx:a+1*100+2<=a+102:=aC _
theorem Yy(i:a<=3):a<=800:=eK i
theorem Yz(j:a<=50000)(i:b<=a+1*100):b<=90000:=aD i (eK (aM j _))
theorem YA(i:a<=50000):a+1*100<=60000:=eK (aM i _)
theorem YB:a<=a+2/100*6:=aC _
theorem YC:a+2<=a+2:=aC _
theorem YD(j:a<=50000)(i:b<=a):b<=90000:=aD i (eK j)
theorem YE(i:a<=50000):a<=60000:=eK i
theorem YW:a≠a+3:=λe=>by cases e
theorem YX(i:a<=90):a<=99:=eK i
theorem YY(j:a<=50000)(i:b+1<=a):b<=60000:=bN [a,b] B 60000 (.o A 50000 (.o (B+1) A .z)) rfl j i
theorem Qr(i:a<=90):a<=100:=eK i
theorem G_(j:a<=40000)(i:b<=200):a+b<=60000:=eK (qf j i)
theorem uT(i:a<=40000):a<=50000:=eK i
theorem Qs(i:a<=3):a<=10:=eK i
theorem YZ(k:a=b\/c<=a)(j:c<=b):c<=a:=k.elim (λi=>bN [c,b,a] A C (.o A B (.f B C .z)) rfl j i) λi=>bN [c,b,a] A C (.o A C .z) rfl i
theorem Ha:1<2^62:=by decide
theorem Qt(j:a<=3)(i:b<a):b<100000:=aD i (eK j)
theorem Y0(k:a<=b+c*(d/100*6+1))(i:e/100*6<=d/100*6)(j:(c+1)*(d/100*6+1)=c*(d/100*6+1)+(d/100*6+1))(l:f<=a+e/100*6):f<b+(c+1)*(d/100*6+1):=gz [a,b,c*(d/100*6+1),e/100,e,d/100,d,(c+1)*(d/100*6+1),f] I (B+H) (.o A (B+C) (.o (R D 6) (R F 6) (.f (C+(R F 6+1)) H (.o I (A+(R D 6)) .z)))) rfl k i j l
theorem Y1(k:a<=b+c*(d+3))(i:e<=d)(j:(c+1)*(d+3)=c*(d+3)+(d+3)):a+e+1<=b+(c+1)*(d+3):=bN [a,b,c*(d+3),e,d,(c+1)*(d+3)] (A+D+1) (B+F) (.o A (B+C) (.o D E (.f (C+(E+3)) F .z))) rfl k i j
theorem Y2(i:a<b)(j: ¬a+1<b):a+1=b:=(OP i).elim id λh=>absurd h (by assumption)
theorem Qu(j:a<=102)(i:b<=a)(k:(c+1)*(a+3)=c*(a+3)+(a+3)):b<=200:=aD i (eK j)
theorem Qq(k:a<=30000)(i:b<=a+c*(d+3))(j:c*(d+3)<=525):b<=40000:=bN [a,b,c*(d+3)] B 40000 (.o A 30000 (.o B (A+C) (.o C 525 .z))) rfl k i j
theorem YN(k:a<=b+c*(d/100*6+1))(i:e/100*6<=d/100*6)(j:(c+1)*(d/100*6+1)=c*(d/100*6+1)+(d/100*6+1))(l:f<=a+e/100*6+1):f<=b+(c+1)*(d/100*6+1):=bN [a,b,c*(d/100*6+1),e/100,e,d/100,d,(c+1)*(d/100*6+1),f] I (B+H) (.o A (B+C) (.o (R D 6) (R F 6) (.f (C+(R F 6+1)) H (.o I (A+(R D 6)+1) .z)))) rfl k i j l
theorem YO(k:a<=b+c*(d+3))(i:e<=d)(j:(c+1)*(d+3)=c*(d+3)+(d+3)):a+e+3<=b+(c+1)*(d+3):=bN [a,b,c*(d+3),e,d,(c+1)*(d+3)] (A+D+3) (B+F) (.o A (B+C) (.o D E (.f (C+(E+3)) F .z))) rfl k i j
theorem YP(i:a+1<b):a+1<b:=i
theorem YQ(i:0<a):0<a+1:=eU _ _
theorem YR(m:a<=102)(l:b<=900)(i:c<=b+d*(a/100*6+1))(n:d*(a/100*6+1)<=4*7)(k:e<=a)(p:(d+1)*(a+3)=d*(a+3)+(a+3))(o:(d+1)*(a/100*6+1)=d*(a/100*6+1)+(a/100*6+1)):c+e/100*6+1<999:=cL λj=>bZ [a,b,c,d*(a/100*6+1),e,(d+1)*(a+3),d*(a+3),(d+1)*(a/100*6+1),a/100,e/100] (.c 3 A 102 (.c 50 B 900 (.c 50 C (B+D) (.c 50 D 28 (.c 3 E A (.c 50 999 (C+(R J 6)+1) (.c 3 (R J 100) E .z))))))) rfl m l i n k j (iY e 100)
theorem YS(j:a<=b+c*(d/100*6+1))(i:c*(d/100*6+1)<=4*7):a<=b+40:=bN [a,b,c*(d/100*6+1)] A (B+40) (.o A (B+C) (.o C 28 .z)) rfl j i
theorem YT(j:a<=b+c*(d+3))(i:c*(d+3)<=525):a<=b+600:=bN [a,b,c*(d+3)] A (B+600) (.o A (B+C) (.o C 525 .z)) rfl j i
theorem YU(i:a/100*6<=6):a/100*6+1<=7:=rH i
theorem YV(k:2<=a)(i:a<=5)(j:b<a):b<=4:=bN [a,b] B 4 (.o A 5 (.o (B+1) A .z)) rfl i j
theorem Y8(k:2<=a)(i:a<=5)(j:b<a):b<=5:=bN [a,b] B 5 (.o A 5 (.o (B+1) A .z)) rfl i j
theorem Y9(j:a/100*6<=b/100*6)(i:c<=d+a/100*6+1):c<=d+(0+1)*(b/100*6+1):=bN [a/100,a,b/100,b,c,d] E (F+(M 1 (R C 6+1))) (.o (R A 6) (R C 6) (.o E (F+(R A 6)+1) .z)) rfl j i
theorem Y_(i:a<=b):c+a+3<=c+(0+1)*(b+3):=bN [a,b,c] (C+A+3) (C+(M 1 (B+3))) (.o A B .z) rfl i
theorem Qx(i:2<=a)(j:a<=5):0+1<a:=i
theorem Za:0<0+1:=by decide
theorem Zc(k:a<=102)(i:b<=900)(j:c<=a):b+c/100*6+1<999:=cL λl=>bZ [a,b,c,c/100] (.c 3 A 102 (.c 50 B 900 (.c 3 C A (.c 50 999 (B+(R D 6)+1) (.c 3 (R D 100) C .z))))) rfl k i j l (iY c 100)
theorem Zd(j:a<=102)(i:b<=a):b<=200:=aD i (eK j)
theorem Ze(i:a<=30000):a<=40000:=eK i
theorem Zf:a<=a+40:=bc _ _
theorem Zg:a<=a+600:=bc _ _
theorem Zh(i:0<a):0<a:=i
theorem Qy(j:2<=a)(i:a<=5):a<=1000:=bN [a] A 1000 (.o A 5 .z) rfl i
theorem Zi(i:a/100<=1):a/100*6<=6:=bN [a/100,a] (R A 6) 6 (.c 6 A 1 .z) rfl i
theorem Zj(i:a<=102):a/100<=1:=aP λj=>bZ [a,a/100] (.o A 102 (.c 100 (1+1) B (.o (R B 100) A .z))) rfl i j (iY a 100)
theorem Zl(i:a*(b+3)<=5*105):a*(b+3)<=525:=i
theorem Zm(j:a<=102)(i:b<=a):b+3<=105:=bN [a,b] (B+3) 105 (.o A 102 (.o B A .z)) rfl j i
theorem Zn(i:a<=30000):a<=50000:=eK i
theorem Zo(j:a<=30000)(i:b+1+1<=a):b<=80000:=bN [a,b] B 80000 (.o A 30000 (.o (B+1+1) A .z)) rfl j i
theorem Zp(i:a<=90/\b<=90):b<=1000:=bN [a,b] B 1000 (.o B 90 .z) rfl i.2
theorem Zq(i:a<=90/\b<=90):a<=1000:=bN [a,b] A 1000 (.o A 90 .z) rfl i.1
theorem Zr(i:a<=100):0<= -1+(↑(a+1):Int):=by lia
theorem Zs:a+1+36+10<=a+48:=cN _
theorem Zt:a+1+36+10+1<=a+48:=bN [a] (A+1+36+10+1) (A+48) .z rfl
theorem Zu(i:a<=20000):a+1+36+10<=90000:=eK (aM (aM (aM i _) _) _)
theorem Zv(i:a=b+1):b<a:=gz [a,b] B A (.f (B+1) A .z) rfl i
theorem Y3(j:a=b+1)(i:c<=b):c<=a:=bN [a,b,c] C A (.f (B+1) A (.o C B .z)) rfl j i
theorem Y4(j:a<=20000)(i:b<=a+1+36+10):b<=100000:=bN [a,b] B 100000 (.o A 20000 (.o B (A+1+36+10) .z)) rfl j i
theorem Qw(i:a<=700):a<=800:=eK i
theorem Y5(i:a<=20000):a+1+36<=60000:=eK (aM (aM i _) _)
theorem Y6(i:a<=20000):a+1<=30000:=rH i
theorem xx:0<2:=by decide
theorem Y7(i:a<=20000):a<=90000:=eK i
theorem Hb(j:a<=b)(i:c=b):a<=c:=i▸j
theorem QA:1+(↑(6*a):Int)=(↑(6*a+0+1):Int):=congrArg nJ (aR (bN [a] (1+(M 6 A)) (M 6 A+0+1) .z rfl) (bN [a] (M 6 A+0+1) (1+(M 6 A)) .z rfl))
theorem QB:6*(↑a:Int)=(↑(6*a):Int):=congrArg nJ (aR (bN [a] (M 6 A) (M 6 A) .z rfl) (bN [a] (M 6 A) (M 6 A) .z rfl))
theorem Hc(k:a+1<b)(i:b<=c)(j:c<=d):a+1<d:=aD (aD k i) j
theorem Hd(i:a<=3):a<=90:=eK i
theorem QC(j:a<b)(i:b<=a):False:=bZ [a,b] (.o (A+1) B (.o B A .z)) rfl j i
theorem Zz(n:a=2/\b=1\/a=102/\b=8)(l:c=d+1)(o:(↑(e+1):Int)=(↑c:Int))(m:f/100*6<=a/100*6)(k:g<=c+f/100*6):g<=d+b*6:=n.elim (λi=>aP λj=>bZ [c,d,e,f/100,f,a/100,a,g,b] (.E 50 A (B+1) (.c 50 (R D 6) (R F 6) (.c 50 H (A+(R D 6)) (.E 3 G 2 (.F 300 1 I (.c 50 (B+(R I 6)+1) H (.c 3 (R F 100) G .z))))))) rfl l m k i.1 i.2 j (iY a 100)) λi=>aP λj=>bZ [c,d,e,f/100,f,a/100,a,g,b] (.E 50 A (B+1) (.c 50 (R D 6) (R F 6) (.c 50 H (A+(R D 6)) (.E 3 G 102 (.F 300 8 I (.c 50 (B+(R I 6)+1) H (.c 3 (R F 100) G .z))))))) rfl l m k i.1 i.2 j (iY a 100)
theorem ZA(l:a=2/\b=1\/a=102/\b=8)(j:c<=20000)(k:d<=a):c+57+d+1<=80000:=l.elim (λi=>bN [c,d,a,b] (A+57+B+1) 80000 (.o A 20000 (.o B C (.e C 2 .z))) rfl j k i.1) λi=>bN [c,d,a,b] (A+57+B+1) 80000 (.o A 20000 (.o B C (.e C 102 .z))) rfl j k i.1
theorem ZC(k:a=2/\b=1\/a=102/\b=8)(j:c<=a):d+57+c+1<=d+b*100:=k.elim (λi=>bN [c,a,d,b] (C+57+A+1) (C+(R D 100)) (.o A B (.e B 2 (.F 100 1 D .z))) rfl j i.1 i.2) λi=>bN [c,a,d,b] (C+57+A+1) (C+(R D 100)) (.o A B (.e B 102 (.F 100 8 D .z))) rfl j i.1 i.2
theorem QD(k:a<=b)(i:c<=a)(j:b<=d):c<=d:=bN [a,b,c,d] C D (.o A B (.o C A (.o B D .z))) rfl k i j
theorem ZD(k:a=2/\b=1\/a=102/\b=8)(j:c<=a):c<=200:=k.elim (λi=>bN [c,a,b] A 200 (.o A B (.e B 2 .z)) rfl j i.1) λi=>bN [c,a,b] A 200 (.o A B (.e B 102 .z)) rfl j i.1
theorem ZE(i:a<=20000):a+57<=40000:=eK (aM i _)
theorem ZF{d:Int}(j:a=b+1)(k:(↑(c+1):Int)=(↑a:Int))(i:d<=(↑b:Int)):d<=(↑a:Int):=gq i (fj.mpr (j▸cN b))
theorem ZG:a+1<=a+2:=bN [a] (A+1) (A+2) .z rfl
theorem ZH(i:a=b+1):a<=b+42:=bN [a,b] A (B+42) (.e A (B+1) .z) rfl i
theorem ZI:a+57<=a+700:=bN [a] (A+57) (A+700) .z rfl
theorem ZJ:0<1:=by decide
theorem ZK(k:a<=b)(i:b<=c)(j:d+1<a):d<c:=gz [a,b,c,d] D C (.o A B (.o B C (.o (D+1+1) A .z))) rfl k i j
theorem ZL(i:a<=80):a+1<=90:=rH i
theorem ZM(k:a<=b)(i:b<=c)(j:d+1<a):d≠c:=λl=>bZ [a,b,c,d] (.o A B (.o B C (.o (D+1+1) A (.f C D .z)))) rfl k i j l
theorem Zw(i:a<=20000):a+56<=70000:=eK (aM i _)
theorem Qz(i:a<=20000):a<=40000:=eK i
theorem Zx(k: ¬a=b):(↑a:Int)≠(↑b:Int):=(bL k).elim (λj=>λg=>(λi=>bZ [a,b] (.o (A+1) B (.f B A .z)) rfl j i:a≠b) (eA g)) λj=>λg=>(λi=>bZ [a,b] (.o (B+1) A (.e A B .z)) rfl j i:a≠b) (eA g)
theorem Zy(i:a=b):1 - a<2:=gz [a,b,1 - a] C 2 (.o C 1 .z) rfl (yP 1 a)
theorem QE(l:a<=b)(k:b+6<c)(i:d<=a)(m:e<=f)(j:c<e):d<=f:=bN [a,b,c,d,e,f] D F (.o A B (.o (B+6+1) C (.o D A (.o E F (.o (C+1) E .z))))) rfl l k i m j
theorem ZN{a:Int}{b:Nat}(i:a<(↑b:Int)):a<=(↑b:Int):=t9 i
theorem ZO(j:a=b+2)(k:(↑(c+2):Int)=(↑a:Int))(i:d<=a+40):d<=b+42:=bN [a,b,c,d] D (B+42) (.e A (B+2) (.o D (A+40) .z)) rfl j i
theorem ZP(i:a<=b+59+600):a<=b+700:=bN [a,b] A (B+700) (.o A (B+59+600) .z) rfl i
theorem ZQ(j:a<=800)(i:b=a+2)(k:(↑(c+2):Int)=(↑b:Int)):b<=900:=bN [a,b,c] B 900 (.o A 800 (.e B (A+2) .z)) rfl j i
theorem ZR(j:a=2/\b=1\/a=102/\b=8):a<=102:=j.elim (λi=>bN [a,b] A 102 (.e A 2 .z) rfl i.1) λi=>bN [a,b] A 102 (.e A 102 .z) rfl i.1
theorem ZS(i:a<=20000):a+59<=30000:=bN [a] (A+59) 30000 (.o A 20000 .z) rfl i
theorem ZT(i:a<b):a<b:=i
theorem ZU(j:a<=b)(i:c<a):c<b:=gz [a,b,c] C B (.o A B (.o (C+1) A .z)) rfl j i
theorem ZV(n:a<=b)(l:b<c)(j:c<d)(p:e+1<f)(k:d<g)(m:f<=h)(i:h<a):e<g:=gz [a,b,c,d,e,f,g,h] E G (.o A B (.o (B+1) C (.o (C+1) D (.o (E+1+1) F (.o (D+1) G (.o F H (.o (H+1) A .z))))))) rfl n l j p k m i
theorem ZW(i:a<=80):a+1+1<=90:=bN [a] (A+1+1) 90 (.o A 80 .z) rfl i
theorem ZX(i:a<=80):a+1<=99:=bN [a] (A+1) 99 (.o A 80 .z) rfl i
theorem ZY:(↑(a+1):Int)<(↑(a+2):Int):=by simp
theorem Z0{d:Int}(j:a=b+2)(k:(↑(c+2):Int)=(↑a:Int))(i:d<=(↑b:Int)):d<(↑a:Int):=cZ i (cw.mpr (j▸Nat.lt_add_of_pos_right (by decide)))
theorem Z3(m:a<=b)(l:b<c)(i:d+1<e)(n:e<=f)(k:f<a):d≠c:=λj=>bZ [a,b,c,d,e,f] (.o A B (.o (B+1) C (.o (D+1+1) E (.o E F (.o (F+1) A (.f C D .z)))))) rfl m l i n k j
theorem Z4(i:a<=20000):a+56<=60000:=eK (aM i _)
theorem Z5(i:2<=a):0<a:=jJ i
theorem QF:0<a+1:=gz [a] 0 (A+1) .z rfl
theorem Z6(j:a<=3)(k:b=a)(i:c<a):c<100000:=gz [a,b,c] C 100000 (.o A 3 (.o (C+1) A .z)) rfl j i
theorem Z7(j:a<=3)(l:b=a)(i:c<a)(k:d<c):d<100000:=gz [a,b,c,d] D 100000 (.o A 3 (.o (C+1) A (.o (D+1) C .z))) rfl j i k
theorem Z8(j:a<=3)(l:b=a)(i:c<a)(k:d<c):d<=1000:=bN [a,b,c,d] D 1000 (.o A 3 (.o (C+1) A (.o (D+1) C .z))) rfl j i k
theorem Z9(j:a<=3)(i:b=a)(k:c<a)(l:d<c):min d b<=1000000:=bN [a,b,c,d,min d b] E 1000000 (.o A 3 (.e B A (.o E B .z))) rfl j i (eG d b)
theorem QG(j:a<=3)(i:b=a):b<=3:=bN [a,b] B 3 (.o A 3 (.e B A .z)) rfl j i
theorem O':4<=8:=by decide
theorem T'(k:a=b)(j:c<b)(i:d=a)(n:e=a)(l:f=d)(m:g=b):c<d:=gz [a,b,c,d,e,f,g] C D (.f B A (.o (C+1) B (.f A D .z))) rfl k j i
theorem U'(n:a=b)(j:c<b)(k:d=a)(p:e=a)(l:f=d)(m:g=b)(i:h<c):h<b:=gz [a,b,c,d,e,f,g,h] H B (.o (C+1) B (.o (H+1) C .z)) rfl j i
theorem V'(m:a=b)(i:c<b)(k:d=a)(n:e=a)(l:f=d)(j:g=b):c<g:=gz [a,b,c,d,e,f,g] C G (.o (C+1) B (.f B G .z)) rfl i j
theorem X'(k:a=b)(l:c=a)(i:d=a)(m:e=c)(j:f=b):d=f:=aR (bN [a,b,c,d,e,f] D F (.e A B (.e D A (.f B F .z))) rfl k i j) (bN [a,b,c,d,e,f] F D (.f B A (.f A D (.e F B .z))) rfl k i j)
theorem Y'(j:a<=3)(m:b=a)(k:c=b)(n:d=b)(l:e=c)(i:f=a):f<=3:=bN [a,b,c,d,e,f] F 3 (.o A 3 (.e F A .z)) rfl j i
theorem Z'(j:a=b)(l:c=a)(k:d=a)(m:e=c)(i:f=a):f=b:=aR (bN [a,b,c,d,e,f] F B (.e A B (.e F A .z)) rfl j i) (bN [a,b,c,d,e,f] B F (.f B A (.f A F .z)) rfl j i)
theorem aaa(m:a<=3)(l:b<=3)(j:c=b)(p:d<b)(k:e=c)(n:f=c)(i:g=e):a+(g+1)<=10:=bN [a,b,c,d,e,f,g] (A+(G+1)) 10 (.o A 3 (.o B 3 (.e C B (.e E C (.e G E .z))))) rfl m l j k i
theorem QH(j:a=b)(i:c<a):c<b:=gz [a,b,c] C B (.e A B (.o (C+1) A .z)) rfl j i
theorem QI(j:a<=50000)(i:b<=a+4+4):b<=100000:=bN [a,b] B 100000 (.o A 50000 (.o B (A+4+4) .z)) rfl j i
theorem aab(j:a=b)(i:c<b)(l:d=a)(k:e=a)(m:f=d)(n:g=e):c<e:=gz [a,b,c,d,e,f,g] C E (.f B A (.o (C+1) B (.f A E .z))) rfl j i k
theorem aac(n:a=b)(j:c<b)(k:d=a)(p:e=a)(l:f=d)(m:g=e)(i:h<c):h<b:=gz [a,b,c,d,e,f,g,h] H B (.o (C+1) B (.o (H+1) C .z)) rfl j i
theorem QJ(k: ¬a=b):b≠a:=(bL k).elim (λj=>λi=>bZ [b,a] (.o (B+1) A (.e A B .z)) rfl j i) λj=>λi=>bZ [b,a] (.o (A+1) B (.f B A .z)) rfl j i
theorem C'(k:a=b)(m:c=a)(i:d=a)(n:e=c)(l:f=d)(j:g<b):g<d:=gz [a,b,c,d,e,f,g] G D (.f B A (.f A D (.o (G+1) B .z))) rfl k i j
theorem J'(k:a=b)(i:c=a)(l:d=a)(n:e=c)(m:f=d)(j:g<b):g<c:=gz [a,b,c,d,e,f,g] G C (.f B A (.f A C (.o (G+1) B .z))) rfl k i j
theorem K'(k:a=b)(l:c=a)(i:d=a)(m:e=c)(j:f=d):f=b:=aR (bN [a,b,c,d,e,f] F B (.e A B (.e D A (.e F D .z))) rfl k i j) (bN [a,b,c,d,e,f] B F (.f B A (.f A D (.f D F .z))) rfl k i j)
theorem N'(j:a=b)(i:c=a)(l:d=a)(k:e=c):e=b:=aR (bN [a,b,c,d,e] E B (.e A B (.e C A (.e E C .z))) rfl j i k) (bN [a,b,c,d,e] B E (.f B A (.f A C (.f C E .z))) rfl j i k)
theorem aaf(j:a=b)(i:b<=90000):b<=100000:=bN [a,b] B 100000 (.o B 90000 .z) rfl i
theorem aag(j:a<b)(k:c=b)(i:b<=3)(l:d=c):a<100000:=gz [a,b,c,d] A 100000 (.o (A+1) B (.o B 3 .z)) rfl j i
theorem A_(j:a=b)(i:b<=3)(k:c=a):a<=1000:=bN [a,b,c] A 1000 (.e A B (.o B 3 .z)) rfl j i
theorem Ba(k:a+1<b)(i:b<=c)(j:c<d)(l:a=d):False:=bZ [a,b,c,d] (.o (A+1+1) B (.o B C (.o (C+1) D (.f D A .z)))) rfl k i j l
theorem QK(i:a<=14000):a+72<=50000:=bN [a] (A+72) 50000 (.o A 14000 .z) rfl i
theorem QL(k:a<=b)(i:b<=c)(j:c<d)(l:e=d):e=f\/e=f+1\/a<=e:= .inr (.inr (l▸aD k (aD i (jJ j))))
theorem xy(j:a<b)(i:a=b):False:=bZ [a,b] (.o (A+1) B (.f B A .z)) rfl j i
theorem aah(m:a<b)(k:c<=3)(i:d=b)(l:b<=3)(j:e=d):c+(e+1)<=1000:=bN [a,b,c,d,e] (C+(E+1)) 1000 (.o C 3 (.e D B (.o B 3 (.e E D .z)))) rfl k i l j
theorem aai(j:a<2)(i:(↑(64+a):Int)=(↑(64+(1 - a)):Int)):False:=(by decide:∀a:Nat,a<2->(↑(64+a):Int)≠(↑(64+(1 - a)):Int)) a j i
theorem aaj:a+1+b - a=b+1:=aR (bN [b,a+1+b - a,a] B (A+1) (.e (B+C) (C+1+A) .z) rfl (dy (aP λi=>bZ [b,a+1+b - a,a] (.c 1 (.s (.s (.s (.v 2) (.n 1)) (.v 0)) (.n 1)) (.v 2) .z) rfl i))) (bN [b,a+1+b - a,a] (A+1) B (.o (C+1+A) (B+C) .z) rfl (fy (aC (a+1+b - a))))
theorem aak:a<=a+1+b:=bN [a,b] A (A+1+B) .z rfl
theorem QM(j:a<=13000)(i:b<=a)(k:c=b):b<=90000:=bN [a,b,c] B 90000 (.o A 13000 (.o B A .z)) rfl j i
theorem QN:a+60+10+1<=a+71:=bN [a] (A+60+10+1) (A+71) .z rfl
theorem QO(i:a<=13000):a<=14000:=eK i
theorem aal(j:a<b+1)(i: ¬a<b):a=b:=aR (bN [a,b] A B (.o (A+1) (B+1) .z) rfl j) (bN [a,b] B A (.o B A .z) rfl (aP i))
theorem aae(i:a<2):1 - a<2:=gz [a,1 - a] B 2 (.o B 1 .z) rfl (yP 1 a)
theorem aau(i:a<=1000):a<=16777216+1:=eK i
theorem QP{a:Int}{b:Nat}(i:0<=a+(↑b:Int)): -(↑b:Int)<=a:=Int.le_of_sub_nonneg (le_of_le_of_eq i (Int.sub_neg a b).symm)
theorem aav{a:Int}(j:a<0)(i: -2^62<a):a<2^63:=by lia
theorem QQ{a:Int}(j:a<0)(i: -2^62<a): -2^63<=a:=gq (by decide) (t9 i)
theorem QR{a:Int}(j:0<=a)(i:a<2^62):a<2^63:=FG i (by decide)
theorem aaw{a:Int}(j:0<=a)(i:a<2^62): -2^63<=a:=by lia
theorem uU(i: ¬a<=b):b<=a:=bN [a,b] B A (.o (B+1) A .z) rfl (cL i)
theorem aax:a - b<=a - g_ b a:=Nat.sub_le_sub_left (f_ b a) a
theorem aay: ¬(↑a:Int)<0:=λg=>(λi=>bZ [a] (.o (A+1) 0 .z) rfl i: ¬a<0) (cw.mp g)
theorem aaz:Max.max 0 (g_ (↑a:Int) (↑b:Int))=(↑(g_ a b):Int):=(Int.max_eq_right (Int.le_min.mpr ⟨eF a,eF b⟩)).trans ((Nat.le_total a b).elim (λh=>(Int.min_eq_left (fj.mpr h)).trans (congrArg nJ (hZ h)).symm) λh=>(Int.min_eq_right (fj.mpr h)).trans (congrArg nJ (nK h)).symm)
theorem aaA(i:a - 1<a): ¬a - 1=a:=λj=>bZ [a - 1,a] (.o (A+1) B (.f B A .z)) rfl i j
theorem sO(i:a<=1000000):a<=16777216:=eK i
theorem aaB{a:Int}{b:Nat}(j:a.natAbs<10)(i:b<=a.natAbs):b<1920:=oE (jd i j) (by decide)
theorem aaC{a:Int}(i:0<=a/\a<10):a.natAbs<10:=nab i.1 (n:=10) i.2
theorem QS(i:a<=1000000):(↑a:Int)<2^63:=cw.mpr (rH i)
theorem aaD(j:a<=1000000)(k:b=a)(i:c<=a):c<=16777216:=bN [a,b,c] C 16777216 (.o A 1000000 (.o C A .z)) rfl j i
theorem aaE(i:a=b):g_ c b - g_ d b=g_ (g_ c b - g_ d b) (b - g_ d b):=(hZ (Ld (eG c b) _)).symm
theorem aaF(i:g_ a b - 0=b):b<=a:=bN [(min a b) - 0,min a b,a,b] D C (.f D A (.o B C (.o A B .z))) rfl i (f_ a b) (yP (min a b) 0)
theorem aaG(k:g_ a b - c=b)(i: ¬b=0):c=0:=FK λj=>absurd k (gw (jd (Ld (eG a b) c) (Nat.sub_lt (OS i) j)))
theorem aaH(i:g_ a b=b):b<=a:=bN [min a b,a,b] C B (.f C A (.o A B .z)) rfl i (f_ a b)
theorem aan{a:Int}(i:0<=a/\a<2^62):Max.max a 0=a:=Xd i.1
theorem aao{c:Int}(i:a<=b):g_ c.toNat a<=b+1:=ub (aD (eG _ a) i)
theorem aap:0+a=a:=aR (bN [a] (0+A) A .z rfl) (bN [a] A (0+A) .z rfl)
theorem aaq(j:a+(a+1)*b<=16777216)(i:c*b<=(a+1)*b): ¬a+c*b>2^24:=λk=>bZ [a,(a+1)*b,c*b] (.o (A+B) 16777216 (.o C B (.o (16777216+1) (A+C) .z))) rfl j i k
theorem aar(j:a<=1000)(k:b=a)(i:(a+1)*c<=1001*1000):a+(a+1)*c<=16777216:=bN [a,b,(a+1)*c] (A+C) 16777216 (.o A 1000 (.o C 1001000 .z)) rfl j i
theorem aas(i:a<=1000)(j:b=a):a+1<=1001:=bN [a,b] (A+1) 1001 (.o A 1000 .z) rfl i
theorem aat(k:a+b=c)(j: ¬d<=a):d - a=d - (a+1)+1:=aR (bN [a,b,c,d,d - (a+1),d - a] F (E+1) (.o D (E+(A+1)) (.e (F+A) D .z)) rfl (fy (aC (d - (a+1)))) (dy (aP λi=>bZ [a,b,c,d,d - (a+1),d - a] (.c 1 (.s (.v 4) (.s (.v 0) (.n 1))) (.v 3) (.c 1 (.s (.v 3) (.n 1)) (.v 0) .z)) rfl (oz (dy (aP λi=>bZ [a,b,c,d,d - (a+1),d - a] (.c 1 (.s (.v 0) (.n 1)) (.v 3) (.c 1 (.s (.v 3) (.n 1)) (.s (.v 0) (.n 1)) .z)) rfl (cL j) i))) i))) (bN [a,b,c,d,d - (a+1),d - a] (E+1) F (.o D (F+A) (.e (E+(A+1)) D .z)) rfl (fy (aC (d - a))) (dy (aP λi=>bZ [a,b,c,d,d - (a+1),d - a] (.c 1 (.s (.v 0) (.n 1)) (.v 3) (.c 1 (.s (.v 3) (.n 1)) (.s (.v 0) (.n 1)) .z)) rfl (cL j) i)))
theorem Bb(i:a+(b+1)=c):a+1+b=c:=aR (bN [a,b,c] (A+1+B) C (.e (A+(B+1)) C .z) rfl i) (bN [a,b,c] C (A+1+B) (.f C (A+(B+1)) .z) rfl i)
theorem Hf(i:a+(b+1)=c):a<c:=gz [a,b,c] A C (.e (A+(B+1)) C .z) rfl i
theorem aaN(j:a<b)(i: ¬c<=a): ¬(↑(g_ c b):Int)<=(↑a:Int):=λh=>Wg (Nat.lt_min.mpr ⟨cL i,j⟩) (fj.mp h)
theorem aaO(j:a<b)(i:c<=a):(↑(g_ c b):Int)<=(↑a:Int):=fj.mpr (bN [a,b,c,min c b] D A (.o C A (.o D C .z)) rfl i (f_ c b))
theorem pF(i:a+80<b):a+1+64<b:=gz [a,b] (A+1+64) B (.o (A+80+1) B .z) rfl i
theorem QU(i:a<=1000):a<=16777216:=eK i
theorem Hg(i:a+80<b):a+64<b:=gz [a,b] (A+64) B (.o (A+80+1) B .z) rfl i
theorem aaP(p:a≠b)(l: ¬a<c)(j:a - c=0)(q: ¬b<c)(k:b<c+d)(m:d=1):False:=(bL p).elim (λi=>bZ [a,c,a - c,b,d] (.o (D+1) (B+E) (.e E 1 (.o (A+1) D (.e (C+B) A .z)))) rfl k m i (dy (aP λr=>bZ [a,c,a - c,b,d] (.c 1 (.v 1) (.v 0) (.c 1 (.s (.v 0) (.n 1)) (.v 1) .z)) rfl (aP l) r))) λi=>bZ [a,c,a - c,b,d] (.e C 0 (.o B D (.o (D+1) A (.o A (C+B) .z)))) rfl j (aP q) i (fy (aC (a - c)))
theorem QV(i:a - (b+c)=0):a - (b+c)=0:=i
theorem Bc(i:a - b=0):a - b=0:=i
theorem aaQ(j:a+(b+1)<=1000)(i:c<=a+1):c+b<=1000:=bN [a,b,c] (C+B) 1000 (.o (A+(B+1)) 1000 (.o C (A+1) .z)) rfl j i
theorem aaR(i:a+(b+1)<=1000):a<=1000000:=bN [a,b] A 1000000 (.o (A+(B+1)) 1000 .z) rfl i
theorem QT(i:a+0=b): ¬a<b:=λj=>bZ [a,b] (.f B (A+0) (.o (A+1) B .z)) rfl i j
theorem aaI{a:Int}(j:0<=a)(i:a<=1000):a.toNat<=1000000:=Int.toNat_le.mpr (gq i (by decide))
theorem aaJ{a:Int}(j:0<=a)(i:a<=1000):a<2^62:=cZ i (by decide)
theorem aaK{a:Int}(j:0<=a)(i:a<=1000): -2^62<=a:=by lia
theorem aaL(i:a<=20):a<30:=gz [a] A 30 (.o A 20 .z) rfl i
theorem aaM(m:a≠b)(l: ¬a<c)(j:a - c=0)(p: ¬b<c)(k:b<c+1):False:=(bL m).elim (λi=>bZ [a,c,a - c,b] (.o (D+1) (B+1) (.o (A+1) D (.e (C+B) A .z))) rfl k i (dy (aP λq=>bZ [a,c,a - c,b] (.c 1 (.v 1) (.v 0) (.c 1 (.s (.v 0) (.n 1)) (.v 1) .z)) rfl (aP l) q))) λi=>bZ [a,c,a - c,b] (.e C 0 (.o B D (.o (D+1) A (.o A (C+B) .z)))) rfl j (aP p) i (fy (aC (a - c)))
theorem aa2{a b c d e f g h i j k:Nat}(l:1+a+(1+(1+(1+b+c)+(1+(1+d+e)+(1+f+1)+1+g)+1+h)+1)+i+j<k+1):f<k:=gz [a,b,c,d,e,f,g,h,i,j,k] F K (.o (1+A+(1+(1+(1+B+C)+(1+(1+D+E)+(1+F+1)+1+G)+1+H)+1)+I+J+1) (K+1) .z) rfl l
theorem aa3(i:1+a+(1+(1+(1+b+c)+d+1+e)+1)+f+g<h+1):d<h:=gz [a,b,c,d,e,f,g,h] D H (.o (1+A+(1+(1+(1+B+C)+D+1+E)+1)+F+G+1) (H+1) .z) rfl i
theorem aa4(i:1+a+(1+(1+(1+b+c)+d+1+e)+1)+f+g<h+1):a<h:=gz [a,b,c,d,e,f,g,h] A H (.o (1+A+(1+(1+(1+B+C)+D+1+E)+1)+F+G+1) (H+1) .z) rfl i
theorem aa5(i:1+(1+a+b+c)+d+e+f<g+1):a<g:=gz [a,b,c,d,e,f,g] A G (.o (1+(1+A+B+C)+D+E+F+1) (G+1) .z) rfl i
theorem Hh(j:a<b)(i:1+c+b+d+e<f+1):a<f:=gz [a,b,c,d,e,f] A F (.o (A+1) B (.o (1+C+B+D+E+1) (F+1) .z)) rfl j i
theorem QW(j:a<b)(i:1+c+d+b+e<f+1):a<f:=gz [a,b,c,d,e,f] A F (.o (A+1) B (.o (1+C+D+B+E+1) (F+1) .z)) rfl j i
theorem Hi(i:1+a+b+c+d<e+1):a<e:=gz [a,b,c,d,e] A E (.o (1+A+B+C+D+1) (E+1) .z) rfl i
theorem aa6(i:1+a+(1+b+(1+c)+1+d)+e<f+1):c<f:=gz [a,b,c,d,e,f] C F (.o (1+A+(1+B+(1+C)+1+D)+E+1) (F+1) .z) rfl i
theorem aa7(i:1+a+(1+(1+b)+c+1+d)+e<f+1):b<f:=gz [a,b,c,d,e,f] B F (.o (1+A+(1+(1+B)+C+1+D)+E+1) (F+1) .z) rfl i
theorem QX(i:1+a+b+c<d+1):b<d:=gz [a,b,c,d] B D (.o (1+A+B+C+1) (D+1) .z) rfl i
theorem QY(i:1+a+b+c<d+1):a<d:=gz [a,b,c,d] A D (.o (1+A+B+C+1) (D+1) .z) rfl i
theorem aa8(j:a<b)(i:1+b+c+d<e+1):a<e:=gz [a,b,c,d,e] A E (.o (A+1) B (.o (1+B+C+D+1) (E+1) .z)) rfl j i
theorem aa9(j:a<b)(i:1+b+c<d+1):a<d:=gz [a,b,c,d] A D (.o (A+1) B (.o (1+B+C+1) (D+1) .z)) rfl j i
theorem QZ(j:a<b)(i:1+c+b+d<e+1):a<e:=gz [a,b,c,d,e] A E (.o (A+1) B (.o (1+C+B+D+1) (E+1) .z)) rfl j i
theorem Q0(i:1+a+b+c+d<e+1):c<e:=gz [a,b,c,d,e] C E (.o (1+A+B+C+D+1) (E+1) .z) rfl i
theorem aba(i:1+a+b+c+d<e+1):b<e:=gz [a,b,c,d,e] B E (.o (1+A+B+C+D+1) (E+1) .z) rfl i
theorem Q1:2*a+2<=2*(a+1):=bN [a] (M 2 A+2) (M 2 (A+1)) .z rfl
theorem abb(i:a+4*(b+2)+4<=1000):a<1000:=gz [a,b] A 1000 (.o (A+(M 4 (B+2))+4) 1000 .z) rfl i
theorem abc{a:Int}(i:0<=a/\a<=1000):a<=16777216:=by lia
theorem abd{a:Int}(i:0<=a/\a<=1000):a<=1152921504606846975:=by lia
theorem Q3{a:Int}(i:0<=a/\a<=1000): -9223372036854775808<=a/\a<9223372036854775808:=by lia
theorem abe{a:Int}(i:a.natAbs<2^64): -2^64<a:=Int.neg_lt_of_neg_lt (cZ (Int.natAbs_neg a▸(Int.le_natAbs (a:= -a))) (cw.mpr i))
theorem aaS:a+(1+(1+(b+1+0))+1)=a+(b+4):=aR (bN [a,b] (A+(1+(1+(B+1+0))+1)) (A+(B+4)) .z rfl) (bN [a,b] (A+(B+4)) (A+(1+(1+(B+1+0))+1)) .z rfl)
theorem aaT(i:a+64<b):a+(1+1)<b:=gz [a,b] (A+2) B (.o (A+64+1) B .z) rfl i
theorem aaU(i:a+1<b):a+(0+1)<b:=i
theorem aaV(i:a+64<b):a+(0+1)<b:=gz [a,b] (A+1) B (.o (A+64+1) B .z) rfl i
theorem aaW:1+a=a+1:=aR (bN [a] (1+A) (A+1) .z rfl) (bN [a] (A+1) (1+A) .z rfl)
theorem aaX(i:a+(b+1)<c):a+1+b<c:=gz [a,b,c] (A+1+B) C (.o (A+(B+1)+1) C .z) rfl i
theorem aaY(i:a+(b+1)<c):a<c:=gz [a,b,c] A C (.o (A+(B+1)+1) C .z) rfl i
theorem aaZ(j:a<b)(i:c<a):c<b:=gz [a,b,c] C B (.o (A+1) B (.o (C+1) A .z)) rfl j i
theorem aa0{a b:Int}(i:0<=a/\a<=1000/\b.natAbs<2^64):a<=1000000:=gq i.2.1 (by decide)
theorem aa1{a:Int}(i:a≠0/\a.natAbs<2^30):a.natAbs<1073741824:=i.2
theorem abh(i:a+b<=1000000):a+b<=16777216:=eK i
theorem abi(i:a+b<=1000000)(j:c=a)(k:d=b):a+b<=16777216:=eK i
theorem abj(i:a<=3)(j:b=a):c+1+a+1<=c+5:=bN [a,b,c] (C+1+A+1) (C+5) (.o A 3 .z) rfl i
theorem abk(j:a<=70000)(i:b<=3)(k:c=b):a+1+b<=90000:=bN [a,b,c] (A+1+B) 90000 (.o A 70000 (.o B 3 .z)) rfl j i
theorem abl(j:17<=a):a=a - 17+17:=aR (bN [a,a - 17] A (B+17) (.o A (B+17) .z) rfl (fy (aC (a - 17)))) (bN [a,a - 17] (B+17) A (.e (B+17) A .z) rfl (dy (aP λi=>bZ [a,a - 17] (.c 1 (.n 17) (.v 0) (.c 1 (.s (.v 0) (.n 1)) (.n 17) .z)) rfl j i)))
theorem Q5:219≠160:=by decide
theorem Q6:219≠131:=by decide
theorem Q7:219≠253:=by decide
theorem Q4(i:a<2):a<2^62:=eK i
theorem abf(k:a<6)(i: ¬(a=1\/a=5))(j:2<=6*b+a+1):2<=6*b+a:=by lia
theorem abg(i:a<=b+4):a<=b+5:=bN [a,b] A (B+5) (.o A (B+4) .z) rfl i
theorem Q9(j:a<6)(i: ¬(a=1\/a=5)):a=0\/a=2\/a=3\/a=4:=nx (b7 _) λh=>nx (OQ h λe=>i (.inl e.symm)) λh=>nx h λh=>aR (fA (OQ (fA j) λe=>i (.inr e))) h
theorem abo(k:a<2)(i:b<6)(j:c<=5*(6*a+b)):c<=80000:=bN [a,b,c] C 80000 (.c 30 (A+1) 2 (.c 5 (B+1) 6 (.o C (M 5 (M 6 A+B)) .z))) rfl k i j
theorem abp(k:a<2)(i:b<6)(j:c<=5*(6*a+b))(l:d<=c+1):d<=80000:=bN [a,b,c,d] D 80000 (.c 30 (A+1) 2 (.c 5 (B+1) 6 (.o C (M 5 (M 6 A+B)) (.o D (C+1) .z)))) rfl k i j l
theorem abq(k:a<2)(i:b<6)(j:c<=5*(6*a+b))(l:d<=c+1):d<=100000:=bN [a,b,c,d] D 100000 (.c 30 (A+1) 2 (.c 5 (B+1) 6 (.o C (M 5 (M 6 A+B)) (.o D (C+1) .z)))) rfl k i j l
theorem abr(k:a<2)(i:b<6)(j:c<=5*(6*a+b)):c<=99999:=bN [a,b,c] C 99999 (.c 30 (A+1) 2 (.c 5 (B+1) 6 (.o C (M 5 (M 6 A+B)) .z))) rfl k i j
theorem abt:268≠161:=by decide
theorem abu:161≠156:=by decide
theorem abv:268≠156:=by decide
theorem abw:156≠219:=by decide
theorem abx:161≠219:=by decide
theorem aby:268≠219:=by decide
theorem abz:268≠250/\268≠153/\268≠14/\268≠263:=by decide
theorem abA:161≠250/\161≠153/\161≠14/\161≠263:=by decide
theorem abB:156≠250/\156≠153/\156≠14/\156≠263:=by decide
theorem abC:219≠250/\219≠153/\219≠14/\219≠263:=by decide
theorem abD(p:a<2)(n:b<6)(j:6*a+b<c+1)(l: ¬6*a+b=c)(k: ¬2<=c):b=0:=(bL l).elim (λi=>aR (bN [a,b,c] B 0 (.o (C+1) 2 (.o (M 6 A+B+1) C .z)) rfl (cL k) i) (bN [a,b,c] 0 B .z rfl)) λi=>aR (aP λm=>bZ [a,b,c] (.o (M 6 A+B+1) (C+1) (.o (C+1) (M 6 A+B) .z)) rfl j i) (bN [a,b,c] 0 B .z rfl)
theorem abE(k:a=6*b+c)(i:6*d+e=a)(j:d=b):e=c:=aR (bN [a,b,c,d,e] E C (.e A (M 6 B+C) (.e (M 6 D+E) A (.F 6 B D .z))) rfl k i j) (bN [a,b,c,d,e] C E (.f (M 6 B+C) A (.f A (M 6 D+E) (.E 6 D B .z))) rfl k i j)
theorem abF(m:a<6)(j:b=6*c+a)(l:d<6)(k:6*e+d=b):e=c:=aR (aP λi=>bZ [a,b,c,d,e] (.o (A+1) 6 (.e B (M 6 C+A) (.e (M 6 E+D) B (.c 6 (C+1) E .z)))) rfl m j k i) (aP λi=>bZ [a,b,c,d,e] (.f (M 6 C+A) B (.o (D+1) 6 (.f B (M 6 E+D) (.c 6 (E+1) C .z)))) rfl j l k i)
theorem abG(i:a+(b+1)=6):0<a+1:=gz [a,b] 0 (A+1) .z rfl
theorem abH(j:a+(b+1)=6)(i:0<a):6*c+a≠6:=by lia
theorem abI(k:a+(b+1)=6)(i:0<a):6*c+a≠0:=λj=>bZ [a,b,c] (.o (0+1) A (.e (M 6 C+A) 0 .z)) rfl i j
theorem Q8:0<8:=by decide
theorem abm(i:a<=63):min 40 a<=1000:=bN [a,min 40 a] B 1000 (.o B 40 .z) rfl (f_ 40 a)
theorem abn:min 40 a<=1000:=bN [min 40 a,a] A 1000 (.o A 40 .z) rfl (f_ 40 a)
theorem Q_:58≠250/\58≠153/\58≠14/\58≠263:=by decide
theorem Ra:1<2:=by decide
theorem abK(l:a<2)(k:b<6)(i:6*a+b<6):a=0:=aR (aP λj=>bZ [a,b] (.o (M 6 A+B+1) 6 (.c 6 (0+1) A .z)) rfl i j) (bN [a,b] 0 A .z rfl)
theorem abJ{a:Int}(j:0<=a/\a<=1000)(i: ¬a<=0):a<=16777216:=by lia
theorem Su(j:a<=b+c)(i:d<=a+e):d<=b+(c+e):=bN [a,b,c,d,e] D (B+(C+E)) (.o A (B+C) (.o D (A+E) .z)) rfl j i
theorem Sv{a:Int}{b c:Nat}:a+(↑b:Int) - (↑c:Int) - (↑b:Int)=a - (↑c:Int):=by lia
theorem Sw{a b:Int}{c d:Nat}(k:a=b%(↑c:Int))(i:c=d+d)(j:0<=a)(l:a<(↑c:Int)):a+(↑d:Int) - (↑c:Int)<(↑c:Int):=by lia
theorem Sx{a b:Int}{c d:Nat}(k:a=b%(↑c:Int))(i:c=d+d)(j: ¬a<(↑d:Int)):0<=a+(↑d:Int) - (↑c:Int):=by lia
theorem Sy{a:Int}{b c:Nat}:a+(↑b:Int)=a+(↑b:Int) - (↑c:Int)+(↑c:Int):=(OL _ _).symm
theorem Sz{a b:Int}{c d:Nat}(k:a=b%(↑c:Int))(i:c=d+d)(j:a<(↑c:Int)):a - (↑d:Int)<(↑d:Int):=by lia
theorem SO{a b:Int}{c d:Nat}(j:a=b%(↑c:Int))(i: ¬a<(↑d:Int)):0<=a - (↑d:Int):=Int.sub_nonneg_of_le (Int.not_lt.mp i)
theorem SP{a:Int}{b:Nat}:a=a - (↑b:Int)+(↑b:Int):=(OL a b).symm
theorem SQ{a:Int}{b:Nat}:a+(↑b:Int) - (↑b:Int)=a:=jc a b
theorem SR{a b:Int}{c d:Nat}(k:a=b%(↑c:Int))(i:c=d+d)(j:a<(↑d:Int)):a+(↑d:Int)<(↑c:Int):=by lia
theorem SU{a b:Int}{c d:Nat}(k:a=b%(↑c:Int))(j:0<d)(i:0<=a):0<=a+(↑d:Int):=Int.add_nonneg i (eF d)
theorem SV(i:0<a):0<=(↑a:Int):=fj.mpr (bN [a] 0 A .z rfl)
theorem SW(j:0<a)(i:b=a+a):0<(↑b:Int):=cw.mpr (gz [a,b] 0 B (.c 2 (0+1) A (.f (A+A) B .z)) rfl j i)
theorem SX(j:0<a)(i:b=a+a):(↑b:Int)≠0:=λg=>(λk=>bZ [a,b] (.c 2 (0+1) A (.f (A+A) B (.e B 0 .z))) rfl j i k:b≠0) (eA g)
theorem SY(i:1<=a+12/\a+12<=11):False:=bZ [a] (.o (A+12) 11 .z) rfl i.2
theorem S3(i:1<=0/\0<=11):False:=bZ [] (.o 1 0 .z) rfl i.1
theorem S4(i:a+6<6):False:=bZ [a] (.o (A+6+1) 6 .z) rfl i
theorem S5(i:a+2<2):False:=bZ [a] (.o (A+2+1) 2 .z) rfl i
theorem S6(j:a<=b)(i:c<=a+d):c<=b+d:=bN [a,b,c,d] C (B+D) (.o A B (.o C (A+D) .z)) rfl j i
theorem S7(k:a<=5)(i:1<=a)(j:a=0):False:=bZ [a] (.o 1 A (.e A 0 .z)) rfl i j
theorem S8:a+3<=a+3+1:=bN [a] (A+3) (A+3+1) .z rfl
theorem S9(j:a<=b)(i:c<=a+1):c<=b+1:=bN [a,b,c] C (B+1) (.o A B (.o C (A+1) .z)) rfl j i
theorem S_(i:a<0):False:=bZ [a] (.o (A+1) 0 .z) rfl i
theorem Ta(j:a<=b)(i:c<=a)(k:a=d+1):c<=b:=bN [a,b,c,d] C B (.o A B (.o C A .z)) rfl j i
theorem Sq(k:a<=70000)(i:b<=c+1)(j:c<=a):b<=100000:=bN [a,b,c] B 100000 (.o A 70000 (.o B (C+1) (.o C A .z))) rfl k i j
theorem Sr(k:a<=70000)(i:b<=c+4)(j:c<=a):b<=100000:=bN [a,b,c] B 100000 (.o A 70000 (.o B (C+4) (.o C A .z))) rfl k i j
theorem Ss(j:a=b)(i:b<=3):a<=3:=bN [a,b] A 3 (.e A B (.o B 3 .z)) rfl j i
theorem Hj(k:a<b/\c<b)(i:b<=d)(j:e=c):e<d:=gz [a,b,c,d,e] E D (.o (C+1) B (.o B D (.e E C .z))) rfl k.2 i j
theorem Hk(k:a<b/\c<b)(i:b<=d)(j:e=a):e<d:=gz [a,b,c,d,e] E D (.o (A+1) B (.o B D (.e E A .z))) rfl k.1 i j
theorem Hn(j:a<b/\c<b)(i:d=c):d<b:=gz [a,b,c,d] D B (.o (C+1) B (.e D C .z)) rfl j.2 i
theorem Ho(j:a<b/\c<b)(i:d=a):d<b:=gz [a,b,c,d] D B (.o (A+1) B (.e D A .z)) rfl j.1 i
theorem Tn(j:a<b)(i:a=b+1):False:=bZ [a,b] (.o (A+1) B (.f (B+1) A .z)) rfl j i
theorem To(k:a<=b)(i:b<=c)(j:c<=d):a<=d:=bN [a,b,c,d] A D (.o A B (.o B C (.o C D .z))) rfl k i j
theorem zf(i:a+3=a+1):False:=bZ [a] (.e (A+3) (A+1) .z) rfl i
theorem zg(i:a+3=a):False:=bZ [a] (.e (A+3) A .z) rfl i
theorem vK(k:a<=b)(i:c<a)(j:b<=d)(l:d=c):False:=bZ [a,b,c,d] (.o A B (.o (C+1) A (.o B D (.e D C .z)))) rfl k i j l
theorem zh(k:a<=b)(i:b<c)(j:d=c):a<=d:=bN [a,b,c,d] A D (.o A B (.o (B+1) C (.f C D .z))) rfl k i j
theorem zi(k:a<=b)(i:b<c)(j:d=c+1):a<=d:=bN [a,b,c,d] A D (.o A B (.o (B+1) C (.f (C+1) D .z))) rfl k i j
theorem Hq(j:a+6<b)(i:a+6=b):False:=bZ [a,b] (.o (A+6+1) B (.f B (A+6) .z)) rfl j i
theorem Hr(k:a+6<b)(i:b<c)(j:a+6=c+1):False:=bZ [a,b,c] (.o (A+6+1) B (.o (B+1) C (.f (C+1) (A+6) .z))) rfl k i j
theorem Ht(k:a+6<b)(i:b<c)(j:a+6=c):False:=bZ [a,b,c] (.o (A+6+1) B (.o (B+1) C (.f C (A+6) .z))) rfl k i j
theorem Hu(j:a+6<b)(i:a=b):False:=bZ [a,b] (.o (A+6+1) B (.f B A .z)) rfl j i
theorem Hv(k:a+6<b)(i:b<c)(j:a=c+1):False:=bZ [a,b,c] (.o (A+6+1) B (.o (B+1) C (.f (C+1) A .z))) rfl k i j
theorem Hw(k:a+6<b)(i:b<c)(j:a=c):False:=bZ [a,b,c] (.o (A+6+1) B (.o (B+1) C (.f C A .z))) rfl k i j
theorem Tp(k:a<=b)(i:b<=c)(j:c<a):False:=bZ [a,b,c] (.o A B (.o B C (.o (C+1) A .z))) rfl k i j
theorem Hx(j:a+1<b)(i:c=a):c<b:=gz [a,b,c] C B (.o (A+1+1) B (.e C A .z)) rfl j i
theorem Hy(j:a+1<b)(i:c=a+1):c<b:=gz [a,b,c] C B (.o (A+1+1) B (.e C (A+1) .z)) rfl j i
theorem Tq{d:Int}(k:a+b/100*6+1<999)(i:c<=a+b/100*6+1)(j:d=1000):d≠(↑c:Int):=λe=>absurd (jd ((eA (j.symm.trans e):1000=c)▸i) k) (by decide)
theorem Tr{a:Int}{b:Nat}(i:a<(↑b:Int)):a≠(↑b:Int):=t_ i
theorem Ts(j:a=b)(i:b<a):False:=bZ [a,b] (.e A B (.o (B+1) A .z)) rfl j i
theorem Tt(j:2<=a)(k:a<=5)(i:a=0):False:=bZ [a] (.o 2 A (.e A 0 .z)) rfl j i
theorem Tu(k:a<=b)(i:c+1<a)(j:b=c+1):False:=bZ [a,b,c] (.o A B (.o (C+1+1) A (.e B (C+1) .z))) rfl k i j
theorem Tv(k:a<=b)(i:c+1<a)(j:b=c):False:=bZ [a,b,c] (.o A B (.o (C+1+1) A (.e B C .z))) rfl k i j
theorem Tw(j:a<b)(i:c<=a):c<=b:=bN [a,b,c] C B (.o (A+1) B (.o C A .z)) rfl j i
theorem Tx{d:Int}(j:a=b+1)(l:(↑(c+1):Int)=(↑a:Int))(i:b<=800)(k:d=1000):d≠(↑a:Int):=λe=>absurd ((mR ((eA (k.symm.trans e):1000=a).trans j):999=b)▸i) (by decide)
theorem Tc{d:Int}(j:a=b+1)(k:(↑(c+1):Int)=(↑a:Int))(i:d<=(↑b:Int)):d≠(↑a:Int):=t_ (cZ i (cw.mpr (j▸dh b)))
theorem Hl(k:a+1<b)(i:b<=c)(j:c=a):False:=bZ [a,b,c] (.o (A+1+1) B (.o B C (.e C A .z))) rfl k i j
theorem Hm(k:a+1<b)(i:b<=c)(j:c=a+1):False:=bZ [a,b,c] (.o (A+1+1) B (.o B C (.e C (A+1) .z))) rfl k i j
theorem Td(l:2<=a)(k:a<=5)(i:b=c+2)(m:(↑(d+2):Int)=(↑b:Int))(j:e<b+a*(2/100*6+1)):e<=c+1*6:=fA (bk j (i▸(k8 (gu (2/100*6+1) k) (c+2))))
theorem Te(l:2<=a)(k:a<=5)(i:b=c+2)(m:(↑(d+2):Int)=(↑b:Int))(j:e<b+a*(102/100*6+1)):e<=c+8*6:=fA (bk j (i▸aD (k8 (gu (102/100*6+1) k) (c+2)) (k8 (by decide:2+35<=49) c)))
theorem Tf(k:2<=a)(i:b<=20000)(j:a<=5):b+59+a*(2+3)<=80000:=bN [a,b] (B+59+(R A 5)) 80000 (.o B 20000 (.c 5 A 5 .z)) rfl i j
theorem Tg(k:2<=a)(i:b<=20000)(j:a<=5):b+59+a*(102+3)<=80000:=bN [a,b] (B+59+(R A 105)) 80000 (.o B 20000 (.c 105 A 5 .z)) rfl i j
theorem Th(j:2<=a)(i:a<=5):b+59+a*(2+3)<=b+1*100:=bN [a,b] (B+59+(R A 5)) (B+100) (.c 5 A 5 .z) rfl i
theorem Ti(j:2<=a)(i:a<=5):b+59+a*(102+3)<=b+8*100:=bN [a,b] (B+59+(R A 105)) (B+800) (.c 105 A 5 .z) rfl i
theorem Tj{d:Int}(j:a<=800)(i:b=a+2)(l:(↑(c+2):Int)=(↑b:Int))(k:d=1000):d≠(↑b:Int):=λe=>absurd ((mR (mR ((eA (k.symm.trans e):1000=b).trans i)):998=a)▸j) (by decide)
theorem TC{c:Int}(j:(↑(a+2):Int)=(↑b:Int))(i:c<(↑b:Int)):c≠(↑b:Int):=t_ i
theorem TF{d:Int}(i:a<=800)(k:b=a+2)(l:(↑(c+2):Int)=(↑b:Int))(j:d=1000):d≠(↑(a+1):Int):=λe=>absurd ((mR (eA (j.symm.trans e):1000=a+1):999=a)▸i) (by decide)
theorem TG{d:Int}(k:a=b+2)(j:(↑(c+2):Int)=(↑a:Int))(i:d<=(↑b:Int)):d≠(↑(b+1):Int):=t_ (cZ i (cw.mpr (dh b)))
theorem TH(j:a<=50000)(l:b<=100000)(i:c<=b+4)(k:b<=a):c<=100000:=bN [a,b,c] C 100000 (.o A 50000 (.o C (B+4) (.o B A .z))) rfl j i k
theorem TJ(j:a<=b+1)(i:b<=500):a<=1000:=bN [a,b] A 1000 (.o A (B+1) (.o B 500 .z)) rfl j i
theorem TK:g_ a b<=b:=bN [b,min a b,a] B A (.o B A .z) rfl (eG a b)
theorem TL:g_ a b<=b+c:=bN [b,c,min a b,a] C (A+B) (.o C A .z) rfl (eG a b)
theorem TM(j:a<=b)(k: ¬c<=b):b - a<=c - a:=bN [a,b,c,c - a,b - a] E D (.o (B+1) C (.o C (D+A) (.e (E+A) B .z))) rfl (cL k) (fy (aC (c - a))) (dy (aP λi=>bZ [a,b,c,c - a,b - a] (.c 1 (.v 0) (.v 1) (.c 1 (.s (.v 1) (.n 1)) (.v 0) .z)) rfl j i))
theorem TN:a - b<=a - b:=bN [a - b,a,b] A A .z rfl
theorem TO{a:Int}(i:0<=a):Max.max a 0=a:=Xd i
theorem TP{a:Int}{b:Nat}(j:a<(↑b:Int))(i:b<=1000000):a<2^63:=OK j (gq (fj.mpr i) (by decide))
theorem TR(i:a+20*(b+1)+200<=9900):a+1+20*b+200<=9900:=bN [a,b] (A+1+(M 20 B)+200) 9900 (.o (A+(M 20 (B+1))+200) 9900 .z) rfl i
theorem Hz(i:a+4*(b+1)+4<=1000):a+1+4*b+4<=1000:=bN [a,b] (A+1+(M 4 B)+4) 1000 (.o (A+(M 4 (B+1))+4) 1000 .z) rfl i
theorem TS(i:a+20*(b+1)+200<=9900):a+3+20*b+200<=9900:=bN [a,b] (A+3+(M 20 B)+200) 9900 (.o (A+(M 20 (B+1))+200) 9900 .z) rfl i
theorem TU(j:a<=b)(i:c+20*b+200<=9900):c+20*a+200<=9900:=bN [a,b,c] (C+(M 20 A)+200) 9900 (.c 20 A B (.o (C+(M 20 B)+200) 9900 .z)) rfl j i
theorem TV(j:a<=b)(i:c+4*b+4<=1000):c+4*a+4<=1000:=bN [a,b,c] (C+(M 4 A)+4) 1000 (.c 4 A B (.o (C+(M 4 B)+4) 1000 .z)) rfl j i
theorem TX(j:a<=199)(i:b+20*c+200<=9900):b+a<9900:=gz [a,b,c] (B+A) 9900 (.o A 199 (.o (B+(M 20 C)+200) 9900 .z)) rfl j i
theorem TY(i:a<=15)(j:b=a)(k:c=a):a<=1000:=bN [a,b,c] A 1000 (.o A 15 .z) rfl i
theorem TZ(j:a<=b)(i: ¬a<b):(↑b:Int) - (↑a:Int)<=0:=Int.sub_nonpos_of_le (fj.mpr (aP i))
theorem T5(i:a - b=c+1):b<a:=Nat.lt_of_sub_pos (i▸Nat.succ_pos c)
theorem T6(j:a<=b+4)(i:b<=c+1):a<=c+5:=bN [a,b,c] A (C+5) (.o A (B+4) (.o B (C+1) .z)) rfl j i
theorem Tz(l:a<6)(k:a=1\/a=5)(j:6*b+a=0):False:=k.elim (λi=>bZ [a,b] (.e (M 6 B+A) 0 (.f 1 A .z)) rfl j i) λi=>bZ [a,b] (.e (M 6 B+A) 0 (.f 5 A .z)) rfl j i
theorem TA(i:a<=2+10):a<=100:=bN [a] A 100 (.o A 12 .z) rfl i
theorem TB(i:a<=5*12):a<=100:=bN [a] A 100 (.o A 60 .z) rfl i
end
end
section
set_option genCtorIdx true in
set_option genInjectivity true in
inductive MV where
 |f
 |h (b:Bool)
 |c (i:Int)
 |g (s:List Nat)
 |e (l:List MV)
 |d (n:Nat)
 |m (l:List Int)
 |j (s:List Nat) (t:Nat)
mutual
noncomputable def MV.k:MV->MV->Bool
 | .f,b=>(match b with| .f=>true|_=>false)
 | .h a,b=>(match b with| .h b=>a==b|_=>false)
 | .c a,b=>(match b with| .c b=>a==b|_=>false)
 | .g a,b=>(match b with| .g b=>a==b|_=>false)
 | .e a,b=>(match b with| .e b=>MV.o a b|_=>false)
 | .d a,b=>(match b with| .d b=>a==b|_=>false)
 | .m a,b=>(match b with| .m b=>a==b|_=>false)
 | .j a t,b=>(match b with| .j b u=>a==b&&t==u|_=>false)
noncomputable def MV.o:List MV->List MV->Bool
 |[],b=>b.isEmpty
 |a::x,b=>(match b with|b::y=>MV.k a b&&MV.o x y|[]=>false)
end
set_option genCtorIdx true in
inductive MO where
 |a (l:List MV)
 |b (l:List (MV×MV))
 |d (c:Nat) (fs:List (Nat×MV))
noncomputable abbrev Loc:=List (Nat×MV)
noncomputable abbrev Hp:=List MO
set_option genCtorIdx true in
inductive R9|a|e|c|d|b|f|g|h
 deriving DecidableEq
set_option genCtorIdx true in
inductive Cmp|a|b|g|d|i|f|j|e|h|c
 deriving DecidableEq
inductive ME where
 |m
 |g (v:MV)
 |d (x:Nat)
 |E (a b:ME)
 |J (a b:ME)
 |C (a:ME)
 |A (a:ME)
 |r (op:R9) (a b:ME)
 |q (op:Cmp) (a b:ME)
 |F (op RK:Cmp) (a b c:ME)
 |z (neg:Bool) (keys:List Int) (a:ME)
 |I (t a b:ME)
 |D (es:List ME)
 |l (es:List ME)
 |G (ks:List MV) (vs:List ME)
 |k (o:ME) (a:Nat)
 |h (o i:ME)
 |y (o:ME) (lo hi:Option ME)
 |j (f:Nat) (es:List ME)
 |H (c:Nat) (es:List ME)
 |n (o:ME) (a:Nat) (es:List ME)
 |w (o:ME) (x:Nat) (e:ME)
 |p (e:ME)
 |B (e:ME)
 |u (e:ME)
 |s (x:Nat) (range:Bool) (src elt:ME)
inductive MT where
 |b (x:Nat)
 |e (o:ME) (a:Nat)
 |d (o i:ME)
 |c (xs:List Nat)
inductive Src where
 |b (e:ME)|a (e:ME)|c (e:ME)
inductive MS where
 |c
 |d (e:ME)
 |f (t:MT) (e:ME)
 |j (x:Nat) (op:R9) (e:ME)
 |n (o:ME) (a:Nat) (op:R9) (e:ME)
 |p (e:ME)
 |m (t:ME) (a b:List MS)
 |h (t:ME) (b:List MS)
 |g (t:MT) (s:Src) (b:List MS)
 |l (o i:ME)
 |k (o i:ME)
set_option genCtorIdx true in
inductive Fl where
 |a
 |b (v:MV)
structure k_ where
 a:List Nat
 b:List MS
structure Tab where
 h:Nat->Option k_
 a:Nat->Nat->Option Nat
 b:Nat->List Nat
 g:Nat->Option (Option Nat)
 c:Nat
 e:Nat
 f:Nat
 d:Nat
noncomputable def bA:Nat:=1000000
noncomputable def ig:MV->Option Bool
 | .h b=>some b
 | .c i=>some (i !=0)
 |_=>none
noncomputable def J2:MV->Bool
 | .f=>true
 | .c _=>true
 |_=>false
noncomputable def bh:Nat->MV->Bool
 |0,v=>J2 v
 |n+1,v=>(match v with| .e l=>l.all (bh n)|v=>J2 v)
noncomputable def WX:MV->Bool
 | .c _=>true
 |_=>false
noncomputable def aea:MV->Bool
 | .e l=>l.all WX
 |_=>false
noncomputable def uz:List MV->Bool
 |[a,b]=>WX a&&WX b
 |[a,b,c]=>WX a&&(WX b&&aea c)
 |_=>false
noncomputable def vj:MV->Bool
 | .e l=>uz l
 |_=>false
noncomputable def eE:MV->Nat
 | .c _=>1
 | .g _=>2
 | .e l=>cond (uz l) 3 0
 |_=>0
noncomputable def cV:List (MV×MV)->MV->Option MV
 |[],_=>none
 |(a,v)::r,k=>if MV.k a k then some v else cV r k
noncomputable def iU:List (MV×MV)->MV->MV->List (MV×MV)
 |[],k,v=>[(k,v)]
 |(a,x)::r,k,v=>if MV.k a k then(a,v)::r else(a,x)::iU r k v
noncomputable def vV:List (MV×MV)->MV->List (MV×MV)
 |[],_=>[]
 |(a,x)::r,k=>if MV.k a k then r else(a,x)::vV r k
noncomputable def eL(l:List (MV×MV))(k:MV):Bool:=eE k !=0&&l.all λp=>eE p.1==eE k
noncomputable def bz(l:List (Nat×MV))(x:Nat):Option MV:=match l with
 |[]=>none
 |(y,v)::r=>if aT y x then some v else bz r x
noncomputable def bp(l:List (Nat×MV))(x:Nat)(v:MV):List (Nat×MV):=match l with
 |[]=>[(x,v)]
 |(y,u)::r=>if aT y x then(y,v)::r else(y,u)::bp r x v
noncomputable def ob{α β:Type}(o:Option (α×Hp))(f:α->Hp->Option β):Option β:=match o with
 |some (v,μ)=>f v μ
 |none=>none
noncomputable def gd{β:Type}(c:Prop)[Decidable c](x:Option β):Option β:=if c then x else none
noncomputable def iv{β:Type}(v:MV)(f:Int->Option β):Option β:=match v with
 | .c i=>f i
 |_=>none
noncomputable def tr{β:Type}(v:MV)(x y:Option β):Option β:=match ig v with
 |some true=>x
 |some false=>y
 |none=>none
noncomputable def x5{β:Type}(μ:Hp)(o:MV)(g:Nat->List MV->Option β)(e:Nat->List (MV×MV)->Option β)(f:Nat->Nat->List (Nat×MV)->Option β):Option β:=match o with
 | .d n=>match μ[n]? with
  |some (.a l)=>g n l
  |some (.b l)=>e n l
  |some (.d c fs)=>f n c fs
  |none=>none
 |_=>none
noncomputable def rG{β:Type}(μ:Hp)(o:MV)(f:Nat->List MV->Option β):Option β:=x5 μ o f (λJ J=>none) λJ J J=>none
noncomputable def dcM{β:Type}(μ:Hp)(o:MV)(f:Nat->List (MV×MV)->Option β):Option β:=x5 μ o (λJ J=>none) f λJ J J=>none
noncomputable def inM{β:Type}(μ:Hp)(o:MV)(f:Nat->Nat->List (Nat×MV)->Option β):Option β:=x5 μ o (λJ J=>none) (λJ J=>none) f
noncomputable def NV{β:Type}(l:List MV)(f:MV->Option β):Option β:=match l with
 |[v]=>f v
 |_=>none
noncomputable def JQ{β:Type}(l:List MV)(f:Option β):Option β:=match l with
 |[]=>f
 |_=>none
noncomputable def Si(μ:Hp)(a b:MV):Option (MV×Hp):=match a with
 | .c x=>iv b λy=>some (.c (x+y),μ)
 | .g x=>(match b with| .g y=>gd (x.length+y.length<=bA) (some (.g (x++y),μ))|_=>none)
 | .d n=>rG μ (.d n) λJ x=>rG μ b λJ y=>gd (x.length+y.length<=bA) (some (.d μ.length,μ++[.a (x++y)]))
 |_=>none
noncomputable def Vq(μ:Hp)(a b:MV):Option (MV×Hp):=iv b λk=>match a with
 | .c x=>gd (x.natAbs<2^64) (some (.c (x*k),μ))
 | .e l=>NV l λv=>gd (0<=k/\k<=1000) (some (.e (bt k.toNat v),μ))
 | .d n=>rG μ (.d n) λJ l=>NV l λv=>gd (0<=k/\k<=1000) (some (.d μ.length,μ++[.a (bt k.toNat v)]))
 |_=>none
noncomputable def Ay(f:Int->Int->Option Int)(μ:Hp)(a b:MV):Option (MV×Hp):=iv a λx=>iv b λy=>(f x y).map λz=>(.c z,μ)
noncomputable def dE(μ:Hp)(op:R9)(a b:MV):Option (MV×Hp):=match op with
 | .a=>Si μ a b
 | .c=>Vq μ a b
 | .e=>Ay (λa b=>some (a - b)) μ a b
 | .d=>Ay (λa b=>gd (b≠0/\b.natAbs<2^30) (some (a.fdiv b))) μ a b
 | .b=>Ay (λa b=>gd (b≠0) (some (a.fmod b))) μ a b
 | .g=>Ay (λa b=>gd (0<=b/\b<=1000/\a.natAbs<2^64) (some (a*2^b.toNat))) μ a b
 | .h=>Ay (λa b=>gd (0<=b/\b<=1000) (some (a.fdiv (2^b.toNat)))) μ a b
 | .f=>Ay (λa b=>some (PySem.Builtin.bitAnd a b)) μ a b
noncomputable def Uw(μ:Hp)(a b:MV):Option Bool:=match a with
 | .g x=>(match b with| .g y=>some (x==y)|_=>none)
 | .d n=>rG μ (.d n) λJ x=>rG μ b λJ y=>gd (x.all (bh 8)&&y.all (bh 8)) (some (MV.o x y))
 |a=>gd (bh 8 a&&bh 8 b) (some (MV.k a b))
noncomputable def acu:MV->Option Bool
 | .f=>some true
 | .m _| .j _ _=>none
 |_=>some false
noncomputable def isV(a b:MV):Option Bool:=match b with
 | .f=>acu a
 |_=>none
noncomputable def inV(μ:Hp)(k d:MV):Option Bool:=dcM μ d λJ l=>gd (eL l k) (some (cV l k).isSome)
noncomputable def ltI(f:Int->Int->Bool)(a b:MV):Option Bool:=iv a λx=>iv b λy=>some (f x y)
noncomputable def ct(μ:Hp)(op:Cmp)(a b:MV):Option Bool:=match op with
 | .a=>Uw μ a b
 | .b=>(Uw μ a b).map (!·)
 | .g=>ltI (λa b=>decide (a<b)) a b
 | .d=>ltI (λa b=>decide (a<=b)) a b
 | .i=>ltI (λa b=>decide (b<a)) a b
 | .f=>ltI (λa b=>decide (b<=a)) a b
 | .j=>isV a b
 | .e=>(isV a b).map (!·)
 | .h=>inV μ a b
 | .c=>(inV μ a b).map (!·)
noncomputable def Ad(l:List MV)(i:Int):Option MV:=
 if 0<=i then gd (i<2^62) l[i.toNat]? else gd (-(2^62)<i/\0<=i+l.length) l[(i+l.length).toNat]?
noncomputable def kn:MV->MV
 | .j s _=> .g s
 |v=>v
noncomputable def ez(μ:Hp)(o i:MV):Option MV:=match o with
 | .d n=>x5 μ (.d n) (λJ l=>iv i (Ad l)) (λJ l=>gd (eL l (kn i)) (cV l (kn i))) λJ J J=>none
 | .e l=>iv i (Ad l)
 | .g l=>iv i λk=>gd (0<=k/\k<2^62) ((l[k.toNat]?).map λc=> .g [c])
 |_=>none
noncomputable def jY:Option MV->Option (Option Nat)
 |none=>some none
 |some v=>iv v λk=>gd (0<=k/\k<2^62) (some (some k.toNat))
noncomputable def sV{α:Type}(l:List α)(lo b:Option Nat):List α:=
 let l:=match b with|some h=>l.take h|none=>l
 match lo with|some a=>l.drop a|none=>l
noncomputable def lB(μ:Hp)(o:MV)(lo e:Option MV):Option (MV×Hp):=(jY lo).bind λa=>(jY e).bind λb=>match o with
 | .d n=>rG μ (.d n) λJ l=>gd (l.length<=bA) (some (.d μ.length,μ++[.a (sV l a b)]))
 | .g l=>gd (l.length<=bA) (some (.g (sV l a b),μ))
 | .m l=>gd (l.length<=bA) (some (.d μ.length,μ++[.a ((sV l a b).map .c)]))
 |_=>none
noncomputable def mw(μ:Hp)(o:MV):Option MV:=match o with
 | .e l=>gd (l.length<=bA) (some (.c l.length))
 | .d n=>rG μ (.d n) λJ l=>gd (l.length<=bA) (some (.c l.length))
 |_=>none
noncomputable def zC(i:Int):Option (List Nat):=gd (0<=i/\i<10) (some [48+i.toNat])
noncomputable def iw(T:Tab)(μ:Hp)(o:MV)(a:Nat):Option MV:=inM μ o λJ c d=>gd ((T.b c).contains a) (bz d a)
noncomputable def ot(T:Tab)(μ:Hp)(o:MV)(a:Nat)(v:MV):Option Hp:=inM μ o λn c e=>gd ((T.b c).contains a&&eI e.length 500) (some (μ.set n (.d c (bp e a v))))
noncomputable def p9(μ:Hp)(o i v:MV):Option Hp:=x5 μ o (λn l=>iv i λk=>gd (0<=k/\k<l.length/\l.length<=bA) (some (μ.set n (.a (l.set k.toNat v)))))
 (λn l=>gd (eL l i/\l.length<=bA) (some (μ.set n (.b (iU l i v))))) λJ J J=>none
noncomputable def Mh(μ:Hp)(o i:MV):Option Hp:=dcM μ o λn l=>gd (eL l i/\(cV l i).isSome/\l.length<=bA) (some (μ.set n (.b (vV l i))))
noncomputable def HY(μ:Hp)(o i:MV):Option Hp:=rG μ o λn l=>iv i λk=>gd (0<=k/\k<2^62/\l.length<=bA) (some (μ.set n (.a (l.take k.toNat))))
noncomputable def jH(x:Nat)(y:List Nat):List Nat->List Nat
 |[]=>[]
 |c::r=>if c=x then y++jH x y r else c::jH x y r
noncomputable abbrev Call:=Nat->List MV->Hp->Option (MV×Hp)
set_option genCtorIdx true in
inductive Lg where
 |c (f:Nat)|a|d|b
noncomputable def gJ(T:Tab)(μ:Hp)(o:MV)(a:Nat):Option Lg:=x5 μ o
 (λJ J=>if a=T.c then some .a else if a=T.e then some .d else none)
 (λJ J=>if a=T.f then some .b else none)
 λJ c g=>gd (bz g a).isNone ((T.a c a).map Lg.c)
noncomputable def adR:List MV->Option (MV×MV)
 |[k]=>some (k,.f)
 |[k,d]=>some (k,d)
 |_=>none
noncomputable def dj(call:Call)(μ:Hp)(o:MV)(vs:List MV)(c:Lg):Option (MV×Hp):=match c with
 | .c f=>call f (o::vs) μ
 | .a=>rG μ o λn l=>NV vs λv=>gd (l.length<=bA) (some (.f,μ.set n (.a (l++[v]))))
 | .d=>rG μ o λn l=>JQ vs (l.getLast?.bind λv=>gd (l.length<=bA) (some (v,μ.set n (.a l.dropLast))))
 | .b=>dcM μ o λJ l=>(adR vs).bind λp=>gd (eL l p.1) (some ((cV l p.1).getD p.2,μ))
noncomputable def vt(T:Tab)(x:Nat)(a b:MV):Option MV:=match a with
 | .g s=>(match b with| .j y t=>gd (s.length<=1000/\y.length<=1000/\[x]≠y/\0<t/\t<T.d) (some (.g (jH x y s)))|_=>none)
 |_=>none
noncomputable def yp(T:Tab)(call:Call)(c:Nat)(vs:List MV)(μ:Hp):Option (MV×Hp):=(T.g c).bind λi=>match i with
 |some f=>ob (call f (.d μ.length::vs) (μ++[.d c []])) λv a=>match v with| .f=>some (.d μ.length,a)|_=>none
 |none=>JQ vs (some (.d μ.length,μ++[.d c []]))
noncomputable def wz(ks vs:List MV)(l:List (MV×MV)):Option (List (MV×MV)):=match ks with
 |[]=>JQ vs (some l)
 |k::ks=>(match vs with|v::vs=>gd (eL l k) (wz ks vs (iU l k v))|[]=>none)
noncomputable def ym(f:MV->Hp->Option (MV×Hp)):List MV->Hp->Option (List MV×Hp)
 |[],μ=>some ([],μ)
 |v::r,μ=>ob (f v μ) λx μ=>ob (ym f r μ) λxs μ=>some (x::xs,μ)
noncomputable def wN(n:Nat)(all:List MV)(μ:Hp){β:Type}(x:Option β):Option β:=rG μ (.d n) λJ l=>gd (MV.o l all) x
noncomputable def uA(f:MV->Hp->Option (MV×Hp))(n:Nat)(all:List MV):List MV->Hp->Option (List MV×Hp)
 |[],μ=>wN n all μ (some ([],μ))
 |v::r,μ=>wN n all μ (ob (f v μ) λx μ=>ob (uA f n all r μ) λxs μ=>some (x::xs,μ))
noncomputable def yW(k:Int):List MV:=(fP k.toNat).map λ(j:Nat)=>MV.c j
noncomputable def JN(vs:List MV)(μ:Hp):Option (MV×Hp):=some (.d μ.length,μ++[.a vs])
mutual
noncomputable def aO(T:Tab)(call:Call):ME->Loc->Hp->Option (MV×Hp)
 | .m,_,_=>none
 | .g v,_,μ=>some (v,μ)
 | .d x,ρ,μ=>(bz ρ x).map (·,μ)
 | .E a b,ρ,μ=>ob (aO T call a ρ μ) λv μ=>tr v (aO T call b ρ μ) (some (v,μ))
 | .J a b,ρ,μ=>ob (aO T call a ρ μ) λv μ=>tr v (some (v,μ)) (aO T call b ρ μ)
 | .C a,ρ,μ=>ob (aO T call a ρ μ) λv μ=>(ig v).map λb=>(.h (!b),μ)
 | .A a,ρ,μ=>ob (aO T call a ρ μ) λv μ=>iv v λi=>some (.c (-i),μ)
 | .r op a b,ρ,μ=>ob (aO T call a ρ μ) λx μ=>ob (aO T call b ρ μ) λy μ=>dE μ op x y
 | .q op a b,ρ,μ=>ob (aO T call a ρ μ) λx μ=>ob (aO T call b ρ μ) λy μ=>(ct μ op x y).map λr=>(.h r,μ)
 | .F op RK a b c,ρ,μ=>ob (aO T call a ρ μ) λx μ=>ob (aO T call b ρ μ) λy μ=>(ct μ op x y).bind λt=>cond t (ob (aO T call c ρ μ) λz μ=>(ct μ RK y z).map λr=>(.h r,μ)) (some (.h false,μ))
 | .z ng ks a,ρ,μ=>ob (aO T call a ρ μ) λv μ=>iv v λi=>some (.h (ks.contains i !=ng),μ)
 | .I t a b,ρ,μ=>ob (aO T call t ρ μ) λv μ=>tr v (aO T call a ρ μ) (aO T call b ρ μ)
 | .D es,ρ,μ=>ob (gX T call es ρ μ) λvs μ=>gd (vs.length<=1000) (JN vs μ)
 | .l es,ρ,μ=>ob (gX T call es ρ μ) λvs μ=>gd (vs.length<=1000) (some (.e vs,μ))
 | .G ks es,ρ,μ=>ob (gX T call es ρ μ) λvs μ=>(wz ks vs []).bind λl=>some (.d μ.length,μ++[.b l])
 | .k o a,ρ,μ=>ob (aO T call o ρ μ) λv μ=>(iw T μ v a).map (·,μ)
 | .h o i,ρ,μ=>ob (aO T call o ρ μ) λv μ=>ob (aO T call i ρ μ) λk μ=>(ez μ v k).map (·,μ)
 | .y o lo hi,ρ,μ=>ob (aO T call o ρ μ) λv μ=>ob (Bt T call lo ρ μ) λa μ=>ob (Bt T call hi ρ μ) λb μ=>lB μ v a b
 | .j f es,ρ,μ=>ob (gX T call es ρ μ) λvs μ=>call f vs μ
 | .H c es,ρ,μ=>ob (gX T call es ρ μ) λvs μ=>yp T call c vs μ
 | .n o a es,ρ,μ=>ob (aO T call o ρ μ) λv μ=>(gJ T μ v a).bind λc=>ob (gX T call es ρ μ) λvs μ=>dj call μ v vs c
 | .w o x e,ρ,μ=>ob (aO T call o ρ μ) λv μ=>ob (aO T call e ρ μ) λu μ=>(vt T x v u).map (·,μ)
 | .p e,ρ,μ=>ob (aO T call e ρ μ) λv μ=>(mw μ v).map (·,μ)
 | .B e,ρ,μ=>ob (aO T call e ρ μ) λv μ=>iv v λi=>(zC i).map λs=>(.g s,μ)
 | .u e,ρ,μ=>ob (aO T call e ρ μ) λv μ=>rG μ v λJ l=>gd (l.length<=bA) (some (.e l,μ))
 | .s x rg src elt,ρ,μ=>ob (aO T call src ρ μ) λv μ=>cond rg
  (iv v λk=>gd (0<=k/\k<=1000) (ob (ym (λi μ=>aO T call elt ((x,i)::ρ) μ) (yW k) μ) JN))
  (rG μ v λn l=>gd (l.length<=bA) (ob (uA (λi μ=>aO T call elt ((x,i)::ρ) μ) n l l μ) JN))
noncomputable def gX(T:Tab)(call:Call):List ME->Loc->Hp->Option (List MV×Hp)
 |[],_,μ=>some ([],μ)
 |e::r,ρ,μ=>ob (aO T call e ρ μ) λv μ=>ob (gX T call r ρ μ) λvs μ=>some (v::vs,μ)
noncomputable def Bt(T:Tab)(call:Call):Option ME->Loc->Hp->Option (Option MV×Hp)
 |none,_,μ=>some (none,μ)
 |some e,ρ,μ=>ob (aO T call e ρ μ) λv μ=>some (some v,μ)
end
noncomputable def eH(xs:List Nat)(vs:List MV)(ρ:Loc):Option Loc:=match xs with
 |[]=>JQ vs (some ρ)
 |x::xs=>(match vs with|v::vs=>eH xs vs (bp ρ x v)|[]=>none)
noncomputable def eY(T:Tab)(call:Call)(t:MT)(v:MV)(ρ:Loc)(μ:Hp):Option (Loc×Hp):=match t with
 | .b x=>some (bp ρ x v,μ)
 | .e o a=>ob (aO T call o ρ μ) λw μ=>(ot T μ w a v).map (ρ,·)
 | .d o i=>ob (aO T call o ρ μ) λw μ=>ob (aO T call i ρ μ) λk μ=>(p9 μ w k v).map (ρ,·)
 | .c xs=>(match v with| .e l=>(eH xs l ρ).map (·,μ)|_=>none)
noncomputable abbrev Ex:=Option (Fl×Loc×Hp)
noncomputable def ox(o:Ex)(k:Loc->Hp->Ex):Ex:=match o with
 |some (.a,ρ,μ)=>k ρ μ
 |r=>r
noncomputable def qG(body:Loc->Hp->Ex)(store:MV->Loc->Hp->Option (Loc×Hp)):List MV->Loc->Hp->Ex
 |[],ρ,μ=>some (.a,ρ,μ)
 |v::r,ρ,μ=>ob (store v ρ μ) λρ μ=>ox (body ρ μ) (qG body store r)
noncomputable def EH(en:Bool)(body:Loc->Hp->Ex)(store:MV->Loc->Hp->Option (Loc×Hp))(n:Nat)(all:List MV):Nat->List MV->Loc->Hp->Ex
 |_,[],ρ,μ=>wN n all μ (some (.a,ρ,μ))
 |k,v::r,ρ,μ=>wN n all μ (ob (store (cond en (.e [.c k,v]) v) ρ μ) λρ μ=>ox (body ρ μ) (EH en body store n all (k+1) r))
noncomputable def ri(b:Loc->Hp->Option (MV×Hp))(body:Loc->Hp->Ex):Nat->Loc->Hp->Ex
 |0,_,_=>none
 |n+1,ρ,μ=>ob (b ρ μ) λv μ=>tr v (ox (body ρ μ) (ri b body n)) (some (.a,ρ,μ))
noncomputable def Gv(op:R9)(a b:MV):Option MV:=match op with
 | .a=>iv a λi=>iv b λj=>some (.c (i+j))
 |_=>none
mutual
noncomputable def bQ(T:Tab)(call:Call)(fuel:Nat):MS->Loc->Hp->Ex
 | .c,_,_=>none
 | .d e,ρ,μ=>ob (aO T call e ρ μ) λJ μ=>some (.a,ρ,μ)
 | .f t e,ρ,μ=>ob (aO T call e ρ μ) λv μ=>ob (eY T call t v ρ μ) λρ μ=>some (.a,ρ,μ)
 | .j x op e,ρ,μ=>(bz ρ x).bind λa=>ob (aO T call e ρ μ) λb μ=>(Gv op a b).bind λv=>some (.a,bp ρ x v,μ)
 | .n o a op e,ρ,μ=>ob (aO T call o ρ μ) λw μ=>(iw T μ w a).bind λu=>ob (aO T call e ρ μ) λb μ=>(Gv op u b).bind λv=>(ot T μ w a v).bind λμ=>some (.a,ρ,μ)
 | .p e,ρ,μ=>ob (aO T call e ρ μ) λv μ=>some (.b v,ρ,μ)
 | .m t a b,ρ,μ=>ob (aO T call t ρ μ) λv μ=>tr v (aY T call fuel a ρ μ) (aY T call fuel b ρ μ)
 | .h t b,ρ,μ=>ri (aO T call t) (aY T call fuel b) fuel ρ μ
 | .g t s b,ρ,μ=>match s with
  | .b e=>ob (aO T call e ρ μ) λv μ=>(match v with
   | .e l=>qG (aY T call fuel b) (eY T call t) l ρ μ
   |v=>rG μ v λn l=>EH false (aY T call fuel b) (eY T call t) n l 0 l ρ μ)
  | .a e=>ob (aO T call e ρ μ) λv μ=>iv v λk=>gd (0<=k/\k<=1000) (qG (aY T call fuel b) (eY T call t) (yW k) ρ μ)
  | .c e=>ob (aO T call e ρ μ) λv μ=>rG μ v λn l=>EH true (aY T call fuel b) (eY T call t) n l 0 l ρ μ
 | .l o i,ρ,μ=>ob (aO T call o ρ μ) λw μ=>ob (aO T call i ρ μ) λk μ=>(Mh μ w k).bind λμ=>some (.a,ρ,μ)
 | .k o i,ρ,μ=>ob (aO T call o ρ μ) λw μ=>ob (aO T call i ρ μ) λk μ=>(HY μ w k).bind λμ=>some (.a,ρ,μ)
noncomputable def aY(T:Tab)(call:Call)(fuel:Nat):List MS->Loc->Hp->Ex
 |[],ρ,μ=>some (.a,ρ,μ)
 |s::r,ρ,μ=>ox (bQ T call fuel s ρ μ) (aY T call fuel r)
end
noncomputable def Fm(o:Ex):Option (MV×Hp):=match o with
 |some (.b v,_,μ)=>some (v,μ)
 |some (.a,_,μ)=>some (.f,μ)
 |none=>none
noncomputable def au(T:Tab):Nat->Call
 |0,_,_,_=>none
 |n+1,f,vs,μ=>(T.h f).bind λF=>(eH F.a vs []).bind λρ=>Fm (aY T (au T n) n F.b ρ μ)
section
variable{α β:Type}{Ω:Prop}
theorem om{f:α->Hp->Option β}(h:ob o f=some r)(k:∀v μ,o=some (v,μ)->f v μ=some r->Ω):Ω:=by
 cases o with
 |none=>cases h
 |some p=>exact k p.1 p.2 rfl h
theorem bm{f:α->Option β}(h:o.bind f=some r)(k:∀v,o=some v->f v=some r->Ω):Ω:=by
 cases o with
 |none=>cases h
 |some v=>exact k v rfl h
theorem mm{f:α->β}(h:o.map f=some r)(k:∀v,o=some v->f v=r->Ω):Ω:=by
 cases o with
 |none=>cases h
 |some v=>exact k v rfl (ba h)
theorem gm{c:Prop}[i:Decidable c](h:gd c x=some r)(k:c->x=some r->Ω):Ω:=by
 cases i with
 |isTrue c=>exact k c h
 |isFalse _=>cases h
theorem im{f:Int->Option β}(h:iv v f=some r)(k:∀i,v= .c i->f i=some r->Ω):Ω:=by
 cases v with
 |c i=>exact k i rfl h
 |_=>cases h
theorem tm(h:tr v x y=some r)(k1:ig v=some true->x=some r->Ω)(k2:ig v=some false->y=some r->Ω):Ω:=by
 unfold tr at h
 match e:ig v with
 |some true=>rw[e] at h;exact k1 e h
 |some false=>rw[e] at h;exact k2 e h
 |none=>rw[e] at h;cases h
theorem hm{i:Nat->List MV->Option β}{g:Nat->List (MV×MV)->Option β}{j:Nat->Nat->List (Nat×MV)->Option β}(h:x5 μ o i g j=some r)
  (k1:∀n l,o= .d n->μ[n]?=some (.a l)->i n l=some r->Ω) (k2:∀n l,o= .d n->μ[n]?=some (.b l)->g n l=some r->Ω) (k:∀n c f,o= .d n->μ[n]?=some (.d c f)->j n c f=some r->Ω):Ω:=by
 cases o with
 |d n=>
  unfold x5 at h
  dsimp only at h
  match e:μ[n]? with
  |some (.a l)=>rw[e] at h;exact k1 n l rfl e h
  |some (.b l)=>rw[e] at h;exact k2 n l rfl e h
  |some (.d c f)=>rw[e] at h;exact k n c f rfl e h
  |none=>rw[e] at h;cases h
 |_=>cases h
theorem lm{f:Nat->List MV->Option β}(h:rG μ o f=some r)(k:∀n l,o= .d n->μ[n]?=some (.a l)->f n l=some r->Ω):Ω:=
 hm h k (λJ J J J h=>nomatch h) λJ J J J J h=>nomatch h
theorem dm{f:Nat->List (MV×MV)->Option β}(h:dcM μ o f=some r)(k:∀n l,o= .d n->μ[n]?=some (.b l)->f n l=some r->Ω):Ω:=
 hm h (λJ J J J h=>nomatch h) k λJ J J J J h=>nomatch h
theorem nm{f:Nat->Nat->List (Nat×MV)->Option β}(h:inM μ o f=some r)(k:∀n c a,o= .d n->μ[n]?=some (.d c a)->f n c a=some r->Ω):Ω:=
 hm h (λJ J J J h=>nomatch h) (λJ J J J h=>nomatch h) k
theorem JZ{f:MV->Option β}(h:NV l f=some r)(k:∀v,l=[v]->f v=some r->Ω):Ω:=by
 cases l with
 |nil=>cases h
 |cons v l=>cases l with
  |nil=>exact k v rfl h
  |cons _ _=>cases h
theorem C6(h:JQ l f=some r)(k:l=[]->f=some r->Ω):Ω:=by
 cases l with
 |nil=>exact k rfl h
 |cons _ _=>cases h
theorem wC{k:Loc->Hp->Ex}(h:ox o k=some r)(k1:∀ρ μ,o=some (.a,ρ,μ)->k ρ μ=some r->Ω)(k2:∀v ρ μ,o=some (.b v,ρ,μ)->r=(.b v,ρ,μ)->Ω):Ω:=by
 cases o with
 |none=>cases h
 |some p=>
  obtain⟨c,ρ,μ⟩:=p
  cases c with
  |a=>exact k1 ρ μ rfl h
  |b v=>exact k2 v ρ μ rfl (ba h).symm
theorem Dp(h:wN n all μ x=some r)(k:∀l,μ[n]?=some (.a l)->MV.o l all=true->x=some r->Ω):Ω:=
 lm h λJ l e b c=>gm c λf d=>k l (by cases e;exact b) f d
end
end
section
open PySem
structure CX where
 a:Str->Option Nat
 b:Str->Option MV
 d:Str->Option Nat
 c:Str->Option Nat
 e:Str->Option (List Int)
noncomputable abbrev Sc:=List (Str×jr)
noncomputable def Jk(sc:Sc)(x:Str):Bool:=match sc.lookup x with
 |some .local|some .cell|some .free=>true
 |_=>false
noncomputable def vk(sc:Sc)(x:Str):Bool:=match sc.lookup x with
 |some .local|some .cell=>true
 |_=>false
noncomputable def kJ(sc:Sc)(x:Str):Bool:=sc.lookup x==some .globalImplicit
noncomputable def pR(X:CX)(sc:Sc)(x:Str)(n:Str):Bool:=kJ sc x&&x==n&&(X.b x).isNone&&(X.d x).isNone&&(X.c x).isNone&&(X.e x).isNone
noncomputable def LW:Operator->Option R9
 | .Add=>some .a| .Sub=>some .e| .Mult=>some .c| .FloorDiv=>some .d| .Mod=>some .b| .BitAnd=>some .f| .LShift=>some .g| .RShift=>some .h
 |_=>none
noncomputable def Eh:CmpOp->Option Cmp
 | .Eq=>some .a| .NotEq=>some .b| .Lt=>some .g| .LtE=>some .d| .Gt=>some .i| .GtE=>some .f| .Is=>some .j| .IsNot=>some .e| .In=>some .h| .NotIn=>some .c
noncomputable def bE{α:Type}(o:Option α)(k:α->ME):ME:=match o with
 |some a=>k a
 |none=> .m
noncomputable def gE(c:Prop)[Decidable c](x:ME):ME:=if c then x else .m
noncomputable def bS{α:Type}(o:Option α)(k:α->MS):MS:=match o with
 |some a=>k a
 |none=> .c
noncomputable def gS(c:Prop)[Decidable c](x:MS):MS:=if c then x else .c
noncomputable def Ks(X:CX)(sc:Sc):Expr->Option (List Int)
 | .Name x _=>gd (kJ sc x) (X.e x)
 |_=>none
noncomputable def GD:List ME->ME
 |[]=> .m
 |[a]=>a
 |a::r=> .E a (GD r)
noncomputable def RL:List ME->ME
 |[]=> .m
 |[a]=>a
 |a::r=> .J a (RL r)
noncomputable def i8:Expr->Bool
 | .Starred .. =>true
 |_=>false
noncomputable def ml:Expr->Bool
 | .Slice .. =>true
 |_=>false
noncomputable def aeb:Const->Option MV
 | .str x=>some (.g x.cps.toList)
 |_=>none
noncomputable def acy:Expr->Option MV
 | .Constant c _ _=>aeb c
 |_=>none
noncomputable def nY:List (Option Expr)->Option (List MV)
 |[]=>some []
 |o::r=>(o.bind acy).bind λk=>(nY r).map (k:: ·)
noncomputable def wA:Expr->Bool
 | .Call (.Name x _) [] [] _=>x !="super"
 |_=>true
noncomputable def Jl:Expr->Bool
 | .Set .. =>true
 |_=>false
noncomputable def pW(sc:Sc)(scope:Ly)(v:Str):Bool:=
 scope.kind== .function&&scope.names.all λx=>match x.2 with
  | .local=>(x.1==v||x.1==".0")&&scope.names.lookup x.1==some .local
  | .free=>sc.lookup x.1==some .cell&&scope.names.lookup x.1==some .free
  | .globalImplicit=>true
  |_=>false
set_option genCtorIdx true in
inductive Cle where
 |g|h (f:Nat)|b (c:Nat)|d|e|a
noncomputable def sS(X:CX)(sc:Sc)(x:Str):Cle:=cond (kJ sc x) (match X.d x with
 |some f=> .h f
 |none=>(match X.c x with
  |some c=> .b c
  |none=>cond (pR X sc x "len") .d (cond (pR X sc x "str") .e (cond (pR X sc x "tuple") .a .g)))) .g
theorem zq{P:Cle->Prop}(i:P .g)(l:∀f,kJ sc x=true->X.d x=some f->P (.h f))(j:∀c,kJ sc x=true->X.c x=some c->P (.b c))
  (n:pR X sc x "len"=true->P .d) (k:pR X sc x "str"=true->P .e) (m:pR X sc x "tuple"=true->P .a):P (sS X sc x):=by
 unfold sS
 cases hg:kJ sc x with
 |false=>exact i
 |true=>
  cases hf:X.d x with
  |some f=>exact l f hg hf
  |none=>
   cases hc:X.c x with
   |some c=>exact j c hg hc
   |none=>
    cases q3:pR X sc x "len" with
    |true=>exact n q3
    |false=>
     cases q4:pR X sc x "str" with
     |true=>exact k q4
     |false=>
      cases q5:pR X sc x "tuple" with
      |true=>exact m q5
      |false=>exact i
noncomputable def oK(X:CX)(sc:Sc)(nm:Str):Expr->Bool
 | .Call (.Name r _) [_] [] _=>pR X sc r nm
 |_=>false
noncomputable def UQ:List ME->ME
 |[a]=>a
 |_=> .m
noncomputable def uno(f:ME->ME):List ME->ME
 |[a]=>f a
 |_=> .m
noncomputable def Rf(i:List ME):Cle->ME
 | .h f=> .j f i
 | .b c=> .H c i
 | .d=>uno .p i
 | .e=>uno .B i
 | .a=>uno .u i
 | .g=> .m
noncomputable def Nf:CmpOp->Option Bool
 | .In=>some false
 | .NotIn=>some true
 |_=>none
noncomputable def Ma:List Expr->Option Nat
 |[.Constant (.str x) _ _,_]=>(match x.cps.toList with|[c]=>some c|_=>none)
 |_=>none
noncomputable def ac8(o:ME)(c:Nat):List ME->ME
 |[_,e]=> .w o c e
 |_=> .m
mutual
noncomputable def cE(X:CX)(sc:Sc):Expr->ME
 | .Constant c _ _=>(match c with
  | .none=> .g .f
  | .bool b=> .g (.h b)
  | .int i=> .g (.c i)
  | .str s=> .g (.g s.cps.toList)
  |_=> .m)
 | .Name x _=>if Jk sc x then bE (X.a x) .d else gE (kJ sc x) (bE (X.b x) .g)
 | .BoolOp op vs _=>(match op with| .And=>GD (zo X sc vs)| .Or=>RL (zo X sc vs))
 | .BinOp l op r _=>bE (LW op) λo=> .r o (cE X sc l) (cE X sc r)
 | .UnaryOp op x _=>(match op with| .Not=> .C (cE X sc x)| .USub=> .A (cE X sc x)|_=> .m)
 | .IfExp t a b _=> .I (cE X sc t) (cE X sc a) (cE X sc b)
 | .Dict ks vs _=>bE (nY ks) λl=>gE (eI l.length 15&&aT vs.length l.length) (.G l (zo X sc vs))
 | .List p _=>gE (p.any i8=false) (.D (zo X sc p))
 | .Tuple p _ _=>gE (p.any i8=false) (.l (zo X sc p))
 | .ListComp j gens scope _=>(match gens with
  |[⟨.Name x _,iter,[],0⟩]=>gE (pW sc scope x&&scope.names.lookup x==some .local&& !Jl iter) (bE (X.a x) λn=>
   cond (oK X sc "range" iter) (.s n true (UQ (cA X sc iter)) (cE X scope.names j)) (.s n false (cE X sc iter) (cE X scope.names j)))
  |_=> .m)
 | .Compare l e u _=>gE (LA e u=false) (match e,u with
  |[op],[r]=>(match Ks X sc r with
   |some ks=>bE (Nf op) λw=> .z w ks (cE X sc l)
   |none=>bE (Eh op) λo=> .q o (cE X sc l) (cE X sc r))
  |[op,RK],[r,r']=>bE (Eh op) λo=>bE (Eh RK) λv=> .F o v (cE X sc l) (cE X sc r) (cE X sc r')
  |_,_=> .m)
 | .Call f args ks pos=>gE ((args.any i8|| !ks.isEmpty)=false) (match f with
  | .Attribute o name apos=>gE (wA o&&eI args.length 20&&apos.endLine==pos.line) (bE (X.a name) λa=>
   if name=="replace" then bE (Ma args) λc=>ac8 (cE X sc o) c (zo X sc args) else .n (cE X sc o) a (zo X sc args))
  | .Name x _=>Rf (zo X sc args) (sS X sc x)
  |_=> .m)
 | .Attribute o name _=>gE (wA o) (bE (X.a name) λa=> .k (cE X sc o) a)
 | .Subscript o i _=>cond (ml i) (cSl X sc i (cE X sc o)) (.h (cE X sc o) (cE X sc i))
 |_=> .m
noncomputable def zo(X:CX)(sc:Sc):List Expr->List ME
 |[]=>[]
 |e::r=>cE X sc e::zo X sc r
noncomputable def HJ(X:CX)(sc:Sc):Option Expr->Option ME
 |none=>none
 |some e=>some (cE X sc e)
noncomputable def cA(X:CX)(sc:Sc):Expr->List ME
 | .Call _ args _ _=>zo X sc args
 |_=>[]
noncomputable def cSl(X:CX)(sc:Sc):Expr->ME->ME
 | .Slice lo hi st _,o=>gE st.isNone (.y o (HJ X sc lo) (HJ X sc hi))
 |_,_=> .m
end
noncomputable def J1(X:CX)(sc:Sc):Expr->Option Nat
 | .Name x _=>gd (vk sc x) (X.a x)
 |_=>none
noncomputable def j9(X:CX)(sc:Sc):List Expr->Option (List Nat)
 |[]=>some []
 |e::r=>(J1 X sc e).bind λn=>(j9 X sc r).map (n:: ·)
noncomputable def cT(X:CX)(sc:Sc)(t:Expr):Option MT:=match t with
 | .Name _ _=>(J1 X sc t).map MT.b
 | .Attribute o a _=>(X.a a).map (MT.e (cE X sc o))
 | .Subscript o i _=>gd (ml i=false) (some (.d (cE X sc o) (cE X sc i)))
 | .Tuple f _ _=>(j9 X sc f).map MT.c
 |_=>none
noncomputable def Jj:Expr->Bool
 | .ListComp .. =>true
 |_=>false
noncomputable def LX(X:CX)(sc:Sc)(t:Expr):Option MT:=match t with
 | .Name _ _=>(J1 X sc t).map MT.b
 | .Tuple a _ _=>(j9 X sc a).map MT.c
 |_=>none
noncomputable def lO:Expr->Bool
 | .Tuple .. =>true
 |_=>false
noncomputable def abN(X:CX)(sc:Sc)(e:Expr):Src:=if oK X sc "range" e then .a (UQ (cA X sc e)) else if oK X sc "enumerate" e then .c (UQ (cA X sc e)) else .b (cE X sc e)
noncomputable def C9{α:Type}(l:List α)(f:α->MS):MS:=match l with
 |[v]=>f v
 |_=> .c
noncomputable def adG(X:CX)(sc:Sc)(t:Expr)(o:R9)(v:ME):MS:=match t with
 | .Name _ _=>bS (J1 X sc t) λn=> .j n o v
 | .Attribute ob a _=>bS (X.a a) λn=> .n (cE X sc ob) n o v
 |_=> .c
noncomputable def sl0:Expr->Option Expr
 | .Slice lo none none _=>lo
 |_=>none
noncomputable def abT(X:CX)(sc:Sc)(t:Expr):MS:=match t with
 | .Subscript o i _=>cond (ml i) (bS (sl0 i) λlo=> .k (cE X sc o) (cE X sc lo)) (.l (cE X sc o) (cE X sc i))
 |_=> .c
mutual
noncomputable def cS(X:CX)(sc:Sc):je->MS
 | .Expr v _=>gS (Jj v=false) (.d (cE X sc v))
 | .Return v _=>(match v with|some e=> .p (cE X sc e)|none=> .p (.g .f))
 | .Assign ts v _=>C9 ts λt=>gS ((lO t&&lO v)=false) (bS (cT X sc t) λm=> .f m (cE X sc v))
 | .AugAssign t op v _=>bS (LW op) λo=>adG X sc t o (cE X sc v)
 | .If t a b _=> .m (cE X sc t) (yU X sc a) (yU X sc b)
 | .While t a b _=>gS b.isEmpty (.h (cE X sc t) (yU X sc a))
 | .For t i a b _=>gS (b.isEmpty&& !Jl i&&(lO t|| !oK X sc "enumerate" i)) (bS (LX X sc t) λm=> .g m (abN X sc i) (yU X sc a))
 | .Delete ts _=>C9 ts λt=>abT X sc t
 |_=> .c
noncomputable def yU(X:CX)(sc:Sc):List je->List MS
 |[]=>[]
 |s::r=>cS X sc s::yU X sc r
end
section
variable{α β:Type}{Ω:Prop}{T:Tab}{cl:Call}{ρ:Loc}{μ:Hp}{fuel:Nat}
theorem stk(h:aO T cl .m ρ μ=some r):Ω:=nomatch h
theorem Ar(h:bQ T cl fuel .c ρ μ=some r):Ω:=nomatch h
theorem Bf{k:α->ME}(h:aO T cl (bE o k) ρ μ=some r)(g:∀a,o=some a->aO T cl (k a) ρ μ=some r->Ω):Ω:=by
 cases o with
 |none=>exact stk h
 |some a=>exact g a rfl h
theorem uw{c:Prop}[i:Decidable c](h:aO T cl (gE c x) ρ μ=some r)(g:c->aO T cl x ρ μ=some r->Ω):Ω:=by
 cases i with
 |isTrue c=>exact g c h
 |isFalse _=>exact stk h
theorem iEm{c:Prop}[i:Decidable c](h:aO T cl (if c then x else y) ρ μ=some r)(g:c->aO T cl x ρ μ=some r->Ω)(a: ¬c->aO T cl y ρ μ=some r->Ω):Ω:=by
 cases i with
 |isTrue c=>exact g c h
 |isFalse c=>exact a c h
theorem cEm(h:aO T cl (cond c x y) ρ μ=some r)(g:c=true->aO T cl x ρ μ=some r->Ω)(a:c=false->aO T cl y ρ μ=some r->Ω):Ω:=by
 cases c with
 |true=>exact g rfl h
 |false=>exact a rfl h
theorem Rc{k:α->MS}(h:bQ T cl fuel (bS o k) ρ μ=some r)(g:∀a,o=some a->bQ T cl fuel (k a) ρ μ=some r->Ω):Ω:=by
 cases o with
 |none=>exact Ar h
 |some a=>exact g a rfl h
theorem gSm{c:Prop}[i:Decidable c](h:bQ T cl fuel (gS c x) ρ μ=some r)(g:c->bQ T cl fuel x ρ μ=some r->Ω):Ω:=by
 cases i with
 |isTrue c=>exact g c h
 |isFalse _=>exact Ar h
theorem cSm(h:bQ T cl fuel (cond c x y) ρ μ=some r)(g:c=true->bQ T cl fuel x ρ μ=some r->Ω)(a:c=false->bQ T cl fuel y ρ μ=some r->Ω):Ω:=by
 cases c with
 |true=>exact g rfl h
 |false=>exact a rfl h
theorem JY{f:α->MS}(h:bQ T cl fuel (C9 l f) ρ μ=some r)(g:∀a,l=[a]->bQ T cl fuel (f a) ρ μ=some r->Ω):Ω:=by
 cases l with
 |nil=>exact Ar h
 |cons v l=>cases l with
  |nil=>exact g v rfl h
  |cons _ _=>exact Ar h
theorem aeL{f:ME->ME}(h:aO T cl (uno f (zo X sc args)) ρ μ=some r)(k:∀e,args=[e]->aO T cl (f (cE X sc e)) ρ μ=some r->Ω):Ω:=by
 cases args with
 |nil=>exact stk h
 |cons v l=>cases l with
  |nil=>exact k v rfl h
  |cons _ _=>exact stk h
theorem Ud{P:List Expr->Prop}(h:Ma args=some c)(k:∀x i p e,x.cps.toList=[c]->P [.Constant (.str x) i p,e]):P args:=by
 cases args with
 |nil=>cases h
 |cons a t=>cases a with
  |Constant d i p=>cases d with
   |str x=>cases t with
    |nil=>cases h
    |cons e t=>cases t with
     |nil=>
      refine k x i p e ?_
      clear k
      dsimp only[Ma] at h
      revert h
      generalize x.cps.toList=l
      intro h
      cases l with
      |nil=>cases h
      |cons d r=>cases r with
       |nil=>cases h;rfl
       |cons _ _=>cases h
     |cons _ _=>cases h
   |_=>cases h
  |_=>cases h
theorem HP(h:Ma args=some c)(k:∀x i p e,args=[.Constant (.str x) i p,e]->x.cps.toList=[c]->Ω):Ω:=Ud (P:=λl=>args=l->Ω) h (λx i p e q f=>k x i p e f q) rfl
theorem Nk{P:Expr->Prop}{X:CX}{sc:Sc}{nm:Str}{e:Expr}(h:oK X sc nm e=true)(g:∀r p a q,pR X sc r nm=true->P (.Call (.Name r p) [a] [] q)):P e:=by
 cases e with
 |Call f args ks q=>
  cases f with
  |Name r p=>cases args with
   |nil=>cases h
   |cons a t=>cases t with
    |nil=>cases ks with
     |nil=>exact g r p a q h
     |cons _ _=>cases h
    |cons _ _=>cases h
  |_=>cases h
 |_=>cases h
end
end
section
set_option maxRecDepth 10000
open PySem PySem.Calls PySem.W PyProof.Rows
noncomputable abbrev cn(vs:List aA):Obj:={cls:= .type "tuple",data:= .seq vs.toArray}
noncomputable abbrev ee(vs:List aA)(n:Nat):Obj:={cls:= .type "list",data:= .seq vs.toArray n}
noncomputable abbrev fq:=List (cK×cK)
noncomputable def Off(ρ:fq)(b:cK):Prop:=∀p∈ρ,b≠p.1/\b≠p.2
section
variable(hb h:dO)(ρ:fq)
mutual
noncomputable def VR:MV->aA->Prop
 | .f,v=>v= .none
 | .h b,v=>v= .bool b
 | .c i,v=>∃t,v= .int i t
 | .g s,v=>∃t,v= .str ⟨s.toArray⟩ t
 | .e l,v=>∃a vs,v= .ref a/\h.get? a=some (cn vs)/\dw l vs
 | .d n,v=>∃p,v= .ref p.1/\ρ[n]?=some p
 | .j x t,v=>v= .str ⟨x.toArray⟩ t
 | .m l,v=>∃a vs k,v= .ref a/\hb.get? a=some (ee vs k)/\l.length=vs.length/\∀(j:Nat) (i:Int),l[j]?=some i->∃t:Tok,vs[j]?=some (aA.int i t)
noncomputable def dw:List MV->List aA->Prop
 |[],vs=>vs=[]
 |x::l,vs=>∃v r,vs=v::r/\VR x v/\dw l r
end
end
noncomputable def ic(w:dQ):MV->Int
 | .c i=>wX i
 | .g s=>hashStr w ⟨s.toArray⟩
 | .e l=>uJ (cF (l.map fun
  | .c i=>wX i
  | .e l=>uJ (cF (l.map λ| .c i=>wX i|_=>0))
  |_=>0))
 |_=>0
noncomputable def ER(w:dQ)(hb h:dO)(ρ:fq):List (MV×MV)->List cv->Prop
 |[],es=>es=[]
 |p::l,es=>∃e r,es=e::r/\(VR hb h ρ p.1 e.key/\e.hash=ic w p.1/\VR hb h ρ p.2 e.val)/\ER w hb h ρ l r
noncomputable def FR(NM:Nat->Str)(hb h:dO)(ρ:fq):List (Nat×MV)->List cv->Prop
 |[],es=>es=[]
 |p::l,es=>∃e r,es=e::r/\((∃t,e.key= .str (NM p.1) t)/\VR hb h ρ p.2 e.val)/\FR NM hb h ρ l r
noncomputable def ry(l:List (MV×MV)):Prop:=(l.map (·.1)).Nodup/\∃k,k≠0/\∀p∈l,eE p.1=k
noncomputable def uM(N:Nat)(l:List (Nat×MV)):Prop:=(l.map (·.1)).Nodup/\∀p∈l,p.1<N
structure Cfg where
 w:dQ
 a:Nat->Str
 N:Nat
 inj:∀i j,i<N->j<N->a i=a j->i=j
noncomputable def sJ(G:Cfg)(hb h:dO)(ρ:fq):MO->cK×cK->Prop
 | .a l,p=>p.2=p.1/\∃vs n,h.get? p.1=some (ee vs n)/\dw hb h ρ l vs
 | .b l,p=>p.2=p.1/\ry l/\∃e n,h.get? p.1=some (iH e n)/\ER G.w hb h ρ l e
 | .d c fs,p=>uM G.N fs/\h.get? p.1=some (mJ c p.2)/\∃e n,h.get? p.2=some (iH e n)/\FR G.a hb h ρ fs e
structure eW (G:Cfg) (hb h:dO) (ρ:fq) (μ:Hp):Prop where
 u:ρ.length=μ.length
 H:∀(n:Nat) (o:MO) (p:cK×cK),μ[n]?=some o->ρ[n]?=some p->sJ G hb h ρ o p
 F:∀(i j:Nat) (p q:cK×cK),ρ[i]?=some p->ρ[j]?=some q->i≠j->p.1≠q.1/\p.1≠q.2/\p.2≠q.1/\p.2≠q.2
 B:∀b o,hb.get? b=some o->Off ρ b
 m:∀b o,hb.get? b=some o->h.get? b=some o
 L:∃o,hb.get? uK=some o
structure bT (G:Cfg) (hb:dO) (ρ:fq) (s:az) (ρ':fq) (aG:Hp) (s':az):Prop where
 E:∃e,ρ'=ρ++e/\∀p∈e,s.heap.get? p.1=none/\s.heap.get? p.2=none
 d:eW G hb s'.heap ρ' aG
 C:∀b o,s.heap.get? b=some o->Off ρ b->s'.heap.get? b=some o
 F:s'.gens=s.gens
 X:s'.os=s.os
 Y:s.toks<=s'.toks
theorem Off.a(h:Off ρ b)(h':Off e b):Off (ρ++e) b:=λp c=>by
 rcases cP.mp c with q|q
 ·exact h p q
 ·exact h' p q
theorem eW.z(S:eW G hb h ρ μ)(t:h.get? a=some o)(C:o.cls= .type "tuple"):Off ρ a:=by
 intro p r
 obtain⟨n,j⟩:=jW.mp r
 have y:=S.u▸((ax.mp j).1)
 have q:=S.H n μ[n] p (aN y) j
 generalize μ[n]=x at q
 have key:∀b f,h.get? b=some f->f.cls≠ .type "tuple"->a≠b:=by
  rintro b f i v rfl
  rw[t] at i;cases i;exact v C
 cases x with
 |a l=>obtain⟨e,vs,k,g,_⟩:=q;exact⟨key _ _ g (by simp),e▸(key _ _ g (by simp))⟩
 |b l=>obtain⟨e,_,w,k,g,_⟩:=q;exact⟨key _ _ g (by simp),e▸(key _ _ g (by simp))⟩
 |d c D=>obtain⟨_,g,w,k,A,_⟩:=q;exact⟨key _ _ g (by simp),key _ _ A (by simp)⟩
theorem eW.X(S:eW G hb h ρ μ)(i:p∈ρ):∃r o2,h.get? p.1=some r/\h.get? p.2=some o2:=by
 refine dG (jW.mp i) λn f=>?_
 have o:=S.u▸((ax.mp f).1)
 have y:=S.H n μ[n] p (aN o) f
 generalize μ[n]=x at y
 cases x with
 |a l=>obtain⟨e,vs,k,g,_⟩:=y;exact⟨_,_,g,e▸g⟩
 |b l=>obtain⟨e,_,j,k,g,_⟩:=y;exact⟨_,_,g,e▸g⟩
 |d c t=>obtain⟨_,g,j,k,q,_⟩:=y;exact⟨_,_,g,q⟩
section
variable{hb h h':dO}{ρ ρ':fq}
mutual
theorem VR.C(o:∀a vs,h.get? a=some (cn vs)->h'.get? a=some (cn vs))(k:∀(n:Nat) p,ρ[n]?=some p->ρ'[n]?=some p):
  ∀(x:MV) (v:aA),VR hb h ρ x v->VR hb h' ρ' x v
 | .f,v,q=>q
 | .h b,v,q=>q
 | .c i,v,q=>q
 | .g s,v,q=>q
 | .e l,v,q=>by unfold VR at q⊢;refine dY q λa vs e g r=>?_;exact⟨a,vs,e,o a vs g,dw.t o k l vs r⟩
 | .d n,v,q=>by unfold VR at q⊢;refine cf q λp e g=>?_;exact⟨p,e,k n p g⟩
 | .m l,v,q=>q
 | .j x t,v,q=>q
theorem dw.t(d:∀a vs,h.get? a=some (cn vs)->h'.get? a=some (cn vs))(c:∀(n:Nat) p,ρ[n]?=some p->ρ'[n]?=some p):
  ∀(x:List MV) (v:List aA),dw hb h ρ x v->dw hb h' ρ' x v
 |[],v,q=>q
 |x::l,v,q=>by unfold dw at q⊢;refine dY q λy r e a b=>?_;exact⟨y,r,e,VR.C d c x y a,dw.t d c l r b⟩
end
theorem ER.o(i:∀a vs,h.get? a=some (cn vs)->h'.get? a=some (cn vs))(d:∀(n:Nat) p,ρ[n]?=some p->ρ'[n]?=some p):
  ∀(x:List (MV×MV)) (v:List cv),ER w hb h ρ x v->ER w hb h' ρ' x v
 |[],v,q=>q
 |x::l,v,q=>by unfold ER at q⊢;refine dY q λy r e z0 b=>?_;obtain⟨a,j,c⟩:=z0;exact⟨y,r,e,⟨VR.C i d _ _ a,j,VR.C i d _ _ c⟩,ER.o i d l r b⟩
theorem FR.o{NM:Nat->Str}(d:∀a vs,h.get? a=some (cn vs)->h'.get? a=some (cn vs))(c:∀(n:Nat) p,ρ[n]?=some p->ρ'[n]?=some p):
  ∀(x:List (Nat×MV)) (v:List cv),FR NM hb h ρ x v->FR NM hb h' ρ' x v
 |[],v,q=>q
 |x::l,v,q=>by unfold FR at q⊢;refine dY q λy r e z0 b=>?_;obtain⟨a,i⟩:=z0;exact⟨y,r,e,⟨a,VR.C d c _ _ i⟩,FR.o d c l r b⟩
end
theorem kX{ρ e:fq}(n:Nat)(p:cK×cK)(h:ρ[n]?=some p):(ρ++e)[n]?=some p:=(aJ (ax.mp h).1)▸h
section
variable{G:Cfg}{hb:dO}{ρ ρ' K6:fq}{μ aG K4:Hp}{s s' s'':az}
theorem bT.N(S:eW G hb s.heap ρ μ)(P:bT G hb ρ s ρ' aG s'):∀a vs,s.heap.get? a=some (cn vs)->s'.heap.get? a=some (cn vs):=
 λa vs g=>P.C a _ g (S.z g rfl)
theorem bT.O(P:bT G hb ρ s ρ' aG s'):∀(n:Nat) p,ρ[n]?=some p->ρ'[n]?=some p:=by
 refine cf P.E λe z0 J=>?_
 refine fJ z0 ?_
 exact λn p=>kX n p
theorem bT.y(S:eW G hb s.heap ρ μ)(P:bT G hb ρ s ρ' aG s')(q:VR hb s.heap ρ x v):VR hb s'.heap ρ' x v:=VR.C (P.N S) P.O x v q
theorem bT.R(S:eW G hb s.heap ρ μ)(P:bT G hb ρ s ρ' aG s')(q:dw hb s.heap ρ x v):dw hb s'.heap ρ' x v:=dw.t (P.N S) P.O x v q
theorem bT.I(P:bT G hb ρ s ρ' aG s')(g:s.heap.get? b=some o)(h:Off ρ b):Off ρ' b:=by
 refine cf P.E λe z0 i=>?_
 refine fJ z0 ?_
 refine h.a λp c=>⟨?_,?_⟩
 ·rintro rfl;rw[(i p c).1] at g;cases g
 ·rintro rfl;rw[(i p c).2] at g;cases g
theorem bT.l(S:eW G hb s.heap ρ μ):bT G hb ρ s ρ μ s:=⟨⟨[],by simp,λJ h=>nomatch h⟩,S,λJ J g J=>g,rfl,rfl,aC _⟩
theorem bT.u(P:bT G hb ρ s ρ' aG s')(t:Nat)(a:s'.toks<=t):bT G hb ρ s ρ' aG {s' with toks:=t}:=⟨P.E,P.d,P.C,P.F,P.X,aD P.Y a⟩
theorem bT.f(P:bT G hb ρ s ρ' aG s')(Q:bT G hb ρ' s' K6 K4 s''):bT G hb ρ s K6 K4 s'':=by
 refine cf P.E λe z0 n=>?_
 subst z0
 refine cf Q.E λv t c=>?_
 subst t
 have a:∀b,s'.heap.get? b=none->s.heap.get? b=none:=λb z=>by
  cases w:s.heap.get? b with
  |none=>rfl
  |some o=>
   exfalso
   by_cases i:Off ρ b
   ·rw[P.C _ _ w i] at z;cases z
   ·refine i λq r=>?_
    refine nc (P.d.X (Gi _ r)) λx o2 k j=>?_
    exact⟨(by rintro rfl;rw[z] at k;cases k),(by rintro rfl;rw[z] at j;cases j)⟩
 refine⟨⟨e++v,by rw[cC],λp m=>?_⟩,Q.d,λb o g h=>Q.C b o (P.C b o g h) (P.I g h),Q.F.trans P.F,Q.X.trans P.X,aD P.Y Q.Y⟩
 rcases cP.mp m with q|q
 ·exact n p q
 ·exact⟨a _ (c p q).1,a _ (c p q).2⟩
end
end
section
set_option maxRecDepth 10000
open PySem PySem.Calls PySem.W PyProof.Rows
section
variable{G:Cfg}{hb h h':dO}{ρ:fq}{μ:Hp}{s:az}
theorem sJ.b(m:∀a vs,h.get? a=some (cn vs)->h'.get? a=some (cn vs))(f:∀(n:Nat) p,ρ[n]?=some p->ρ'[n]?=some p)
  (i:∀o,h.get? p.1=some o->h'.get? p.1=some o) (u:∀o,h.get? p.2=some o->h'.get? p.2=some o) (q:sJ G hb h ρ x p):sJ G hb h' ρ' x p:=by
 cases x with
 |a l=>obtain⟨e,vs,n,g,r⟩:=q;exact⟨e,vs,n,i _ g,dw.t m f _ _ r⟩
 |b l=>obtain⟨e,k,j,n,g,r⟩:=q;exact⟨e,k,j,n,i _ g,ER.o m f _ _ r⟩
 |d c w=>obtain⟨k,g,j,n,v,r⟩:=q;exact⟨k,i _ g,j,n,u _ v,FR.o m f _ _ r⟩
theorem eW.U(S:eW G hb h ρ μ)(k:∀b o,h.get? b=some o->h'.get? b=some o):eW G hb h' ρ μ:=
 ⟨S.u,λn o p a b=>(S.H n o p a b).b (λa vs g=>k _ _ g) (λJ J e=>e) (λo g=>k _ _ g) λo g=>k _ _ g,S.F,S.B,λb o g=>k _ _ (S.m b o g),S.L⟩
theorem bT.B(S:eW G hb s.heap ρ μ)(k:∀b o,s.heap.get? b=some o->h'.get? b=some o)(t:Nat)(a:s.toks<=t):bT G hb ρ s ρ μ {s with heap:=h',toks:=t}:=
 ⟨⟨[],by simp,λJ h=>nomatch h⟩,S.U k,λb o g J=>k b o g,rfl,rfl,a⟩
theorem bT.V(S:eW G hb s.heap ρ μ)(k:∀b o,s.heap.get? b=some o->h'.get? b=some o)(P:s.heap.get? p.1=none)(A:s.heap.get? p.2=none)
  (ho:sJ G hb h' (ρ++[p]) x p) (t:Nat) (hk:s.toks<=t):bT G hb ρ s (ρ++[p]) (μ++[x]) {s with heap:=h',toks:=t}:=by
 refine⟨⟨[p],rfl,λq c=>by rw[bK] at c;refine fJ c ?_;exact⟨P,A⟩⟩,⟨by simp[S.u],λn o q a b=>?_,λi j q r a b ne=>?_,λb o g=>?_,λb o g=>k _ _ (S.m b o g),S.L⟩,λb o g J=>k b o g,rfl,rfl,hk⟩
 ·by_cases W:n<μ.length
  ·replace a:=(aJ W)▸a
   rw[aJ (S.u▸W)] at b
   exact(S.H n o q a b).b (λa vs g=>k _ _ g) (λn p e=>kX n p e) (λo g=>k _ _ g) λo g=>k _ _ g
  ·rw[cq (aP W)] at a
   rw[cq (S.u▸(aP W)),S.u] at b
   have e:n - μ.length=0:=by
    have:=(ax.mp a).1
    simp at this;exact Bc this
   rw[e] at a b
   simp at a b
   subst a b
   exact ho
 ·have v:∀(n:Nat) (q:cK×cK),ρ[n]?=some q->(q.1≠p.1/\q.1≠p.2)/\q.2≠p.1/\q.2≠p.2:=λn q c=>by
   refine nc (S.X (aU c)) λo1 o2 Q D=>?_
   refine⟨⟨?_,?_⟩,?_,?_⟩<;>intro e<;>first|(rw[e,P] at Q;cases Q)|(rw[e,A] at Q;cases Q)|(rw[e,P] at D;cases D)|(rw[e,A] at D;cases D)
  by_cases hi:i<ρ.length
  ·have a:=(aJ hi)▸a
   by_cases hj:j<ρ.length
   ·rw[aJ hj] at b
    exact S.F i j q r a b ne
   ·rw[cq (aP hj)] at b
    have e:j - ρ.length=0:=by have:=(ax.mp b).1;simp at this;exact Bc this
    rw[e] at b;simp at b;subst b
    have z:=v i q a
    exact⟨z.1.1,z.1.2,z.2.1,z.2.2⟩
  ·rw[cq (aP hi)] at a
   have e:i - ρ.length=0:=by have:=(ax.mp a).1;simp at this;exact Bc this
   rw[e] at a;simp at a;subst a
   by_cases hj:j<ρ.length
   ·rw[aJ hj] at b
    have z:=v j r b
    exact⟨cH z.1.1,cH z.2.1,cH z.1.2,cH z.2.2⟩
   ·exfalso
    have:=(ax.mp b).1
    simp at this;exact aaM ne hi e hj this
 ·refine(S.B b o g).a λq c=>?_
  rw[bK] at c
  refine fJ c ?_
  have T:=S.m b o g
  refine⟨?_,?_⟩<;>rintro rfl
  ·rw[P] at T;cases T
  ·rw[A] at T;cases T
theorem bT.H(S:eW G hb s.heap ρ μ)(A:ρ[n]?=some p)(r:a=p.1\/a=p.2)(i:fZ a s.heap h')(Q:sJ G hb h' ρ x p)(t:Nat)(P:s.toks<=t):
  bT G hb ρ s ρ (μ.set n x) {s with heap:=h',toks:=t}:=by
 have D:=aU A
 have v:∀b,Off ρ b->b≠a:=λb hb=>by
  rcases r with rfl|rfl
  ·exact(hb p D).1
  ·exact(hb p D).2
 refine⟨⟨[],by simp,λJ h=>nomatch h⟩,⟨by simp[S.u],λm o q a1 c=>?_,S.F,S.B,λb o g=>(i.2 b (v b (S.B b o g))).trans (S.m b o g),S.L⟩,λb o g k=>(i.2 b (v b k)).trans g,rfl,rfl,P⟩
 by_cases hm:m=n
 ·subst hm
  have:=(ax.mp a1).1
  rw[fY] at this
  rw[cM this] at a1
  refine kf a1 ?_
  replace c:=A▸c;refine kf c ?_
  exact Q
 ·rw[cX (cH hm)] at a1
  have j:=S.F m n q p c A hm
  refine(S.H m o q a1 c).b (λT vs g=>(i.2 T (v _ (S.z g rfl))).trans g) (λJ J e=>e) (λo g=>(i.2 _ ?_).trans g) λo g=>(i.2 _ ?_).trans g
  ·rcases r with rfl|rfl
   ·exact j.1
   ·exact j.2.1
  ·rcases r with rfl|rfl
   ·exact j.2.2.1
   ·exact j.2.2.2
end
section
variable{hb h:dO}{ρ:fq}
theorem dw.B:dw hb h ρ [] []:=rfl
theorem dw.o(a:VR hb h ρ x v)(b:dw hb h ρ l vs):dw hb h ρ (x::l) (v::vs):=⟨v,vs,rfl,a,b⟩
theorem dw.m(q:dw hb h ρ [] vs):vs=[]:=q
theorem dw.f(q:dw hb h ρ (x::l) vs):∃v r,vs=v::r/\VR hb h ρ x v/\dw hb h ρ l r:=q
theorem dw.g:∀{l:List MV} {vs:List aA},dw hb h ρ l vs->vs.length=l.length
 |[],_,q=>q.m▸rfl
 |_::_,_,q=>by refine dY q.f λv r z0 J b=>?_;refine fJ z0 ?_;rw[eZ,eZ,b.g]
theorem dw.D:∀{l:List MV} {vs:List aA},dw hb h ρ l vs->∀{i:Nat} {x:MV},l[i]?=some x->∃v,vs[i]?=some v/\VR hb h ρ x v
 |[],_,_,i,x,e=>by simp at e
 |y::l,_,q,i,x,e=>by
  refine dY q.f λv r z0 a b=>?_
  refine fJ z0 ?_
  cases i with
  |zero=>simp at e;subst e;exact⟨v,rfl,a⟩
  |succ j=>simp at e;refine cf (b.D e) λu c d=>?_;exact⟨u,by simpa using c,d⟩
theorem dw.H:∀{l i:List MV} {vs e:List aA},dw hb h ρ l vs->dw hb h ρ i e->dw hb h ρ (l++i) (vs++e)
 |[],_,_,_,a,b=>a.m▸b
 |_::_,_,_,_,a,b=>by refine dY a.f λv r z0 c d=>?_;refine fJ z0 ?_;exact dw.o c (d.H b)
theorem dw.F:∀(n:Nat) {l:List MV} {vs:List aA},dw hb h ρ l vs->dw hb h ρ (l.take n) (vs.take n)
 |0,_,_,_=>by simpa using dw.B
 |n+1,[],_,a=>by rw[a.m];simpa using dw.B
 |n+1,_::_,_,a=>by refine dY a.f λv r z0 c d=>?_;refine fJ z0 ?_;simpa using dw.o c (d.F n)
theorem dw.K:∀(n:Nat) {l:List MV} {vs:List aA},dw hb h ρ l vs->dw hb h ρ (l.drop n) (vs.drop n)
 |0,_,_,a=>by simpa using a
 |n+1,[],_,a=>by rw[a.m];simpa using dw.B
 |n+1,_::_,_,a=>by refine dY a.f λv r z0 c d=>?_;refine fJ z0 ?_;simpa using d.K n
theorem dw.O:∀(n:Nat) {l:List MV} {vs:List aA} {x:MV} {v:aA},dw hb h ρ l vs->VR hb h ρ x v->dw hb h ρ (l.set n x) (vs.set n v)
 |_,[],_,_,_,a,_=>by rw[a.m];simpa using dw.B
 |0,_::_,_,_,_,a,b=>by refine dY a.f λv r z0 c d=>?_;subst z0;simpa using dw.o b d
 |n+1,_::_,_,_,_,a,b=>by refine dY a.f λv r e c d=>?_;subst e;simpa using dw.o c (d.O n b)
theorem dw.C(n:Nat)(a:VR hb h ρ x v):dw hb h ρ (bt n x) (bt n v):=by
 induction n with
 |zero=>exact dw.B
 |succ n b=>exact dw.o a b
theorem dw.L(a:dw hb h ρ l vs)(b:VR hb h ρ x v):dw hb h ρ (l++[x]) (vs++[v]):=a.H (dw.o b dw.B)
end
end
section
open PySem PySem.Calls PySem.W PyProof.Rows
open PySem Builtin
theorem qT:fillsNumberSlot (.type "tuple") "mul"=pure false:=
 PySem.fillsNumberSlot_seq (id:="tuple.__mul__") (r:=some (.builtin "tuple.__rmul__")) F.slot_tuple_mul.lookup (by decide+kernel) F.slot_tuple_rmul.lookup (by decide+kernel)
theorem wI:seqRepeat? (.type "tuple")=pure (some (.builtin "tuple.__mul__")):=by
 unfold seqRepeat?
 rw[OT (T:="tuple") (name:="__mul__") (id:="tuple.__mul__") F.slot_tuple_mul.lookup (by decide+kernel),OT (T:="tuple") (name:="__rmul__") (id:="tuple.__rmul__") F.slot_tuple_rmul.lookup (by decide+kernel)]
 rfl
theorem tq(a:Int)(t:Tok)(l:cK)(vs:List aA):
  Meets (Builtin.«int.__rmul__» ⟨[.int a t,.ref l],[]⟩) (λJ R s=>s.heap.get? l=some (cn vs)/\R (.ok (.ret aA.notImplemented)) s):=
 .of_wp λprog w A R s h=>by obtain⟨b,g,d,e,os⟩:=s;obtain⟨c,h⟩:=h;wp_walk;exact⟨_,rfl,h⟩
theorem tx(v:aA)(n:Nat):(bt n (#[v]:Array aA)).foldl (λx1 x2=>x1++x2) #[]=(bt n v).toArray:=by
 have key:∀(n:Nat) (a:List aA),(bt n (#[v]:Array aA)).foldl (λx1 x2=>x1++x2) a.toArray=(a++bt n v).toArray:=by
  intro n
  induction n with
  |zero=>intro a;simp
  |succ n b=>
   intro a
   rw[K_,List.foldl_cons,show a.toArray++#[v]=(a++[v]).toArray by simp,b,K_]
   simp
 simpa using key n []
theorem Fy(l:cK)(v:aA)(x:Int)(u:Tok)(a:0<=x/\x<=1000):
  Meets (Builtin.«tuple.__mul__» ⟨[.ref l,.int x u],[]⟩) (λJ R s=>s.heap.get? l=some (cn [v])/\
   ∀i h',(∀b o,s.heap.get? b=some o->h'.get? b=some o)->h'.get? i=some (cn (bt x.toNat v))->R (.ok (.ret (.ref i))) {s with heap:=h'}):=
 .of_wp λprog w A R s h=>by
  obtain⟨k,g,d,m,os⟩:=s;obtain⟨c,h⟩:=h
  dsimp only at c h
  wp_walk
  refine jA (by simp;exact Q3 a) (aw (wpAny_tupleItemsOf c rfl ?_))
  by_cases j:x=1
  ·cases j
   refine FY rfl ?_
   wp_walk
   exact⟨_,rfl,h l k (λJ J e=>e) c⟩
  ·refine jA (by simp[j]) ?_
   by_cases f:x<=0
   ·cases(Int.le_antisymm f a.1)
    refine FY rfl ?_
    wp_walk
    exact⟨_,rfl,h _ _ (λb o e=>bg _ e) (bU _ rfl)⟩
   ·refine jA (by simp;exact(Int.not_le.mp f)) (jA (by simp;exact(gq a.2 (by decide))) (jA (by unfold Tuple.tupleTooMany;rw[d_];simp;exact abJ a f) ?_))
    exact(tx v x.toNat)▸(aw (wpAny_newTuple (aF ⟨_,rfl,h _ _ (λb o e=>bg _ e) (bU _ rfl)⟩) (oP▸d_▸(Int.toNat_le.mpr (gq a.2 (by decide))))))
end
section
open PySem PySem.Calls PySem.W PyProof.Rows
open PySem Builtin
inductive Ok (G:Cfg) (hb:dO) (ρ:fq) (s:az) (aG:Hp) (r:MV) (v:aA) (s':az):Prop
 |mk (ρ':fq) (p:bT G hb ρ s ρ' aG s') (q:VR hb s'.heap ρ' r v)
inductive yT (G:Cfg) (hb:dO) (ρ:fq) (s:az) (aG:Hp) (s':az):Prop
 |mk (ρ':fq) (p:bT G hb ρ s ρ' aG s')
noncomputable abbrev no:aA->az->Prop:=λJ J=>False
section
variable{G:Cfg}{hb h:dO}{ρ:fq}{μ aG:Hp}{s:az}{prog:fh}{w:dQ}{A:da}
theorem U7(h:i.natAbs<2^64):Builtin.Int.intBits i<=64:=intBits_le_64 (abe h) (cZ Int.le_natAbs (cw.mpr h))
theorem Ok.j(S:eW G hb s.heap ρ μ)(i:Int)(t k:Nat)(a:s.toks<=k):Ok G hb ρ s μ (.c i) (.int i t) {s with toks:=k}:=⟨ρ,(bT.l S).u k a,⟨t,rfl⟩⟩
theorem Ok.B(S:eW G hb s.heap ρ μ)(b:Bool)(k:Nat)(a:s.toks<=k):Ok G hb ρ s μ (.h b) (.bool b) {s with toks:=k}:=⟨ρ,(bT.l S).u k a,rfl⟩
theorem Ok.u(S:eW G hb s.heap ρ μ)(x:List Nat)(t k:Nat)(a:s.toks<=k):Ok G hb ρ s μ (.g x) (.str ⟨x.toArray⟩ t) {s with toks:=k}:=⟨ρ,(bT.l S).u k a,⟨t,rfl⟩⟩
theorem fF(h:dO):h.get? h.objs.size=none:=tM λo q=>Nat.lt_irrefl _ (sD q)
theorem AB(e:ρ.length=μ.length):VR hb h (ρ++[p]) (.d μ.length) (.ref p.1):=⟨p,rfl,by rw[<-e];simp⟩
theorem Ok.y(S:eW G hb s.heap ρ μ)(q:dw hb s.heap ρ l vs)(k:Nat)(i:s.toks<=k):
  Ok G hb ρ s (μ++[.a l]) (.d μ.length) (.ref s.heap.objs.size) {s with heap:=s.heap.push (ee vs 0),toks:=k}:=by
 have kp:∀b o,s.heap.get? b=some o->(s.heap.push (ee vs 0)).get? b=some o:=λb o e=>bg _ e
 exact⟨_,bT.V (x:= .a l) (p:=(s.heap.objs.size,s.heap.objs.size)) S kp (fF _) (fF _) ⟨rfl,vs,0,bU _ rfl,dw.t (λa vs g=>kp _ _ g) (λn p e=>kX n p e) _ _ q⟩ k i,AB S.u⟩
theorem eW.I(S:eW G hb h ρ μ)(f:μ[n]?=some (.a l))(q:VR hb h ρ (.d n) v):
  ∃p vs k,v= .ref p.1/\ρ[n]?=some p/\p.2=p.1/\h.get? p.1=some (ee vs k)/\dw hb h ρ l vs:=by
 refine cf q λp e b=>?_
 obtain⟨c,vs,k,g,r⟩:=S.H n _ p f b
 exact⟨p,vs,k,e,b,c,g,r⟩
theorem eW.R(S:eW G hb h ρ μ)(j:μ[n]?=some (.b l))(q:VR hb h ρ (.d n) v):
  ∃p a k,v= .ref p.1/\ρ[n]?=some p/\p.2=p.1/\ry l/\h.get? p.1=some (iH a k)/\ER G.w hb h ρ l a:=by
 refine cf q λp e c=>?_
 obtain⟨i,f,a,k,g,r⟩:=S.H n _ p j c
 exact⟨p,a,k,e,c,i,f,g,r⟩
theorem eW.V(S:eW G hb h ρ μ)(o:μ[n]?=some (.d c fs))(q:VR hb h ρ (.d n) v):
  ∃p b k,v= .ref p.1/\ρ[n]?=some p/\uM G.N fs/\h.get? p.1=some (mJ c p.2)/\h.get? p.2=some (iH b k)/\FR G.a hb h ρ fs b:=by
 refine cf q λp e f=>?_
 obtain⟨i,g,b,k,j,r⟩:=S.H n _ p o f
 exact⟨p,b,k,e,f,i,g,j,r⟩
theorem gU(g:h.get? a=some (ee vs k)):h.IsList a vs.toArray:=⟨_,g,rfl,k,rfl⟩
theorem yg(g:h.get? a=some (cn vs)):IsTup h a vs.toArray:=⟨_,g,rfl,0,rfl⟩
theorem VR.c(q:VR hb h ρ (.c i) v):∃t,v= .int i t:=q
theorem VR.F(q:VR hb h ρ (.g x) v):∃t,v= .str ⟨x.toArray⟩ t:=q
theorem VR.I(q:VR hb h ρ (.h b) v):v= .bool b:=q
theorem VR.B(q:VR hb h ρ .f v):v= .none:=q
theorem VR.d(q:VR hb h ρ (.e l) v):∃a vs,v= .ref a/\h.get? a=some (cn vs)/\dw hb h ρ l vs:=q
section
variable{P:aA->Prop}{v:aA}{l:List MV}
theorem VR.f(q:VR hb h ρ (.c i) v)(k:∀t,P (.int i t)):P v:=by obtain⟨t,rfl⟩:=q.c;exact k t
theorem VR.H(q:VR hb h ρ (.g x) v)(k:∀t,P (.str ⟨x.toArray⟩ t)):P v:=by obtain⟨t,rfl⟩:=q.F;exact k t
theorem VR.N(q:VR hb h ρ (.h b) v)(k:P (.bool b)):P v:=by obtain rfl:=q.I;exact k
theorem VR.M(q:VR hb h ρ .f v)(k:P .none):P v:=by obtain rfl:=q.B;exact k
theorem VR.L(q:VR hb h ρ (.e l) v)(k:∀a vs,h.get? a=some (cn vs)->dw hb h ρ l vs->P (.ref a)):P v:=by refine dY q.d λa vs z0 g r=>?_;refine fJ z0 ?_;exact k a vs g r
theorem dw.M{P:List aA->Prop}(q:dw hb h ρ (x::l) vs)(k:∀u r,VR hb h ρ x u->dw hb h ρ l r->P (u::r)):P vs:=by refine dY q.f λu r z0 a b=>?_;refine fJ z0 ?_;exact k u r a b
theorem dw.N{P:List aA->Prop}(q:dw hb h ρ [] vs)(k:P []):P vs:=by obtain rfl:=q.m;exact k
theorem dw.I{P:List aA->Prop}(q:dw hb h ρ [x] vs)(k:∀u,VR hb h ρ x u->P [u]):P vs:=by refine dY q.f λu r z0 a b=>?_;refine fJ z0 ?_;obtain rfl:=b.m;exact k u a
theorem eW.E(S:eW G hb h ρ μ)(e:μ[n]?=some (.a l))(q:VR hb h ρ (.d n) v)(k:∀p vs kk,ρ[n]?=some p->p.2=p.1->h.get? p.1=some (ee vs kk)->dw hb h ρ l vs->P (.ref p.1)):P v:=by
 refine ur (S.I e q) λp vs kk z0 a b c d=>?_
 refine fJ z0 ?_;exact k p vs kk a b c d
theorem eW.Q(S:eW G hb h ρ μ){n:Nat}{l:List (MV×MV)}(g:μ[n]?=some (.b l))(q:VR hb h ρ (.d n) v)(k:∀p f kk,ρ[n]?=some p->p.2=p.1->ry l->h.get? p.1=some (iH f kk)->ER G.w hb h ρ l f->P (.ref p.1)):P v:=by
 refine Ez (S.R g q) λp vs kk z0 a b c d e=>?_
 refine fJ z0 ?_;exact k p vs kk a b c d e
theorem eW.T(S:eW G hb h ρ μ)(g:μ[n]?=some (.d c fs))(q:VR hb h ρ (.d n) v)(k:∀p f kk,ρ[n]?=some p->uM G.N fs->h.get? p.1=some (mJ c p.2)->h.get? p.2=some (iH f kk)->FR G.a hb h ρ fs f->P (.ref p.1)):P v:=by
 refine Ez (S.V g q) λp vs kk z0 a b c d e=>?_
 refine fJ z0 ?_;exact k p vs kk a b c d e
end
theorem y7{Q:aA->az->Prop}(a:s.heap.get? l=some (ee vs n))(hb:s.heap.get? b=some (ee ws n2))
  (h:Q (.ref s.heap.objs.size) {s with heap:=s.heap.push (ee (vs++ws) 0)}) (hsz:vs.length+ws.length<=Wn):
  aI (aH prog w) A (mX .Add (.ref l) (.ref b)) Q no s:=by
 refine concat_meets ⟨_,a,rfl⟩ ⟨_,hb,rfl⟩ noFill_list_add seq_list_add PySem.F.slot_list_add PySem.F.entry_list_add (PySem.F.args_list_add_2 _ _) (list_addW l b vs.toArray ws.toArray n n2 none none #[] #[] (by simpa using hsz)) ⟨a,hb,?_⟩
 exact(by simp:vs.toArray++ws.toArray=(vs++ws).toArray)▸h
theorem E7{Q:aA->az->Prop}(a:s.heap.get? l=some (ee [v] k))(b:0<=x/\x<=1000)
  (h:Q (.ref s.heap.objs.size) {s with heap:=s.heap.push (ee (bt x.toNat v) 0)}):aI (aH prog w) A (mX .Mult (.ref l) (.int x u)) Q no s:=by
 refine Gn (T:="list") (U:="int") (by decide) ⟨_,a,rfl⟩ (λc=>FX c x u) noFill_list_mul F.fills_int_mul F.slot_int_rmul repeat_list F.slot_int_index.lookup
  (uI F.slot_int_rmul (FX s x u) F.entry_int_rmul (F.args_int_rmul_2 _ _) (int___rmul___int_list x u l _ k)
   ⟨a,rfl,⟨_,a,rfl⟩,uI F.slot_list_mul ⟨_,a,rfl⟩ F.entry_list_mul (F.args_list_mul_2 _ _)
    (AutoListH.list___mul___list_int_3 l _ k x u (by simp[Builtin.List.listFitsIndex];exact Q3 b) (by simp;exact abd b) (by simp[Builtin.List.listTooLong,Wn];exact abc b))
    ⟨a,?_⟩⟩)
 exact(rfl:(if([v].toArray:Array aA).isEmpty=true then 0 else x.toNat)=x.toNat)▸(show([v].toArray:Array aA)=#[v] from rfl)▸(tx v x.toNat)▸h
theorem JI{Q:aA->az->Prop}(a:s.heap.get? l=some (cn [v]))(e:0<=x/\x<=1000)
  (h:∀c h',(∀b o,s.heap.get? b=some o->h'.get? b=some o)->h'.get? c=some (cn (bt x.toNat v))->Q (.ref c) {s with heap:=h'}):aI (aH prog w) A (mX .Mult (.ref l) (.int x u)) Q no s:=by
 refine Gn (T:="tuple") (U:="int") (by decide) ⟨_,a,rfl⟩ (λd=>FX d x u) qT F.fills_int_mul F.slot_int_rmul wI F.slot_int_index.lookup
  (uI F.slot_int_rmul (FX s x u) F.entry_int_rmul (F.args_int_rmul_2 _ _) (tq x u l _)
   ⟨a,rfl,⟨_,a,rfl⟩,uI F.slot_tuple_mul ⟨_,a,rfl⟩ F.entry_tuple_mul (F.args_tuple_mul_2 _ _) (Fy l v x u e) ⟨a,λc h' k g=>?_⟩⟩)
 exact h c h' k g
end
end
section
open PySem PySem.Calls PySem.W PyProof.Rows
open PySem Builtin
section
variable{G:Cfg}{hb h:dO}{ρ:fq}{μ aG:Hp}{s:az}{prog:fh}{w:dQ}{A:da}
theorem Au(a b:List Nat):((⟨a.toArray⟩:Str)++(⟨b.toArray⟩:Str))=⟨(a++b).toArray⟩:=by
 show(⟨a.toArray++b.toArray⟩:Str)=_
 simp
theorem Gx(S:eW G hb s.heap ρ μ)(e:a.length+b.length<=bA):aI (aH prog w) A (mX .Add (.str ⟨a.toArray⟩ t) (.str ⟨b.toArray⟩ u)) (Ok G hb ρ s μ (.g (a++b))) no s:=by
 refine PySem.P.add_str ?_
 have d:(⟨a.toArray⟩:Str).length=a.length:=rfl
 have i:(⟨b.toArray⟩:Str).length=b.length:=rfl
 refine d▸i▸?_
 by_cases c:a.length=0
 ·have:a=[]:=eB.mp c
  refine fJ this ?_
  simpa[Made.post] using Ok.u S b u s.toks (aC _)
 ·by_cases f:b.length=0
  ·have:b=[]:=eB.mp f
   refine fJ this ?_
   simpa[Made.post,c] using Ok.u S a t s.toks (aC _)
  ·rw[if_neg (by simpa using c),if_neg (by simpa using f),Au]
   refine⟨?_,Ok.u S _ _ _ (bc _ _)⟩
   rw[d_];show(a++b).toArray.size<=_;rw[b8,lE];unfold bA at e;exact abi e d i
theorem adp{a:Type}{v:MV}{f:List Nat->Option a}{r:a}{b:Prop}(h:(match v with| .g y=>f y|_=>none)=some r)(k:∀y,v= .g y->f y=some r->b):b:=by
 cases v with
 |g y=>exact k y rfl h
 |_=>cases h
theorem lW{f:Int->Int->Option Int}(e:Ay f μ x y=some (r,aG))(i:VR hb s.heap ρ x v)(j:VR hb s.heap ρ y u)
  (k:∀a b z t t',f a b=some z->aI (aH prog w) A (mX o (.int a t) (.int b t')) (Ok G hb ρ s μ (.c z)) no s):aI (aH prog w) A (mX o v u) (Ok G hb ρ s aG r) no s:=
 im e λa d e=>im e λb g e=>mm e λz q e=>by
  refine E9 e ?_;subst d g
  apply i.f λt=>?_
  apply j.f λt'=>?_
  exact k a b z t t' q
theorem LN{x y r:MV}{v u:aA}(e:Si μ x y=some (r,aG))(S:eW G hb s.heap ρ μ)(o:VR hb s.heap ρ x v)(l:VR hb s.heap ρ y u):aI (aH prog w) A (mX .Add v u) (Ok G hb ρ s aG r) no s:=by
 cases x with
 |c a=>
  refine im e λb h e=>?_
  refine qZ e ?_;subst h
  apply o.f λt=>?_
  apply l.f λt'=>?_
  exact PyProof.Rows.add_int (Ok.j S _ _ _ (bc _ _))
 |g a=>
  refine adp e λb h e=>gm e λi e=>?_
  refine qZ e ?_;subst h
  apply o.H λt=>?_
  apply l.H λt'=>?_
  exact Gx S i
 |d n=>
  exact lm e λn x h C e=>lm e λm y h' B e=>gm e λi e=>by
   refine qZ e ?_;cases h;subst h'
   apply S.E C o λp vs k J J g q=>?_
   apply S.E B l λI F L J J D z=>?_
   exact y7 g D (Ok.y S (q.H z) _ (aC _)) (by rw[q.g,z.g,d_];unfold bA at i;exact abh i)
 |_=>cases e
theorem NI(e:Vq μ x y=some (r,aG))(S:eW G hb s.heap ρ μ)(z:VR hb s.heap ρ x v)(N:VR hb s.heap ρ y u):aI (aH prog w) A (mX .Mult v u) (Ok G hb ρ s aG r) no s:=
 by
  refine im e λk h q=>?_
  subst h
  clear e
  apply N.f λt'=>?_
  cases x with
  |c a=>exact gm q λb e=>by refine qZ e ?_;apply z.f λt=>?_;exact PyProof.Rows.mul_int (Ok.j S _ _ _ (bc _ _)) (IntMulOk.of_left (U7 b))
  |e l=>
   exact JZ q λv h e=>gm e λb e=>by
    refine qZ e ?_;subst h
    apply z.L λa vs g q=>?_
    refine dY q.f λO I z0 i o=>?_
    subst z0
    obtain rfl:=o.m
    refine JI g b λF h' k P=>⟨ρ,bT.B S k s.toks (aC _),?_⟩
    exact⟨F,_,rfl,P,dw.C _ (VR.C (λa vs g=>k _ _ g) (λJ J e=>e) _ _ i)⟩
  |d n=>
   exact lm q λn x h M e=>JZ e λv D e=>gm e λb e=>by
    cases e;cases h;subst D
    apply S.E M z λp vs kk J J g q=>?_
    refine dY q.f λO I H i o=>?_
    subst H
    obtain rfl:=o.m
    exact E7 g b (Ok.y S (dw.C _ i) _ (aC _))
  |_=>cases q
theorem Ef(d:LW o=some op)(e:dE μ op x y=some (r,aG))(S:eW G hb s.heap ρ μ)(g:VR hb s.heap ρ x v)(f:VR hb s.heap ρ y u):
  aI (aH prog w) A (mX o v u) (Ok G hb ρ s aG r) no s:=by
 cases o with
 |Add=>cases d;exact LN e S g f
 |Mult=>cases d;exact NI e S g f
 |Sub=>cases d;exact lW e g f λa b z t t' h=>by cases h;exact PyProof.Rows.sub_int (Ok.j S _ _ _ (bc _ _))
 |FloorDiv=>cases d;exact lW e g f λa b z t t' h=>gm h λc h=>by refine kf h ?_;exact PyProof.Rows.floordiv_int c.1 (Ok.j S _ _ _ (bc _ _)) (Or.inl (PyProof.noPylong_small (aa1 c)))
 |Mod=>cases d;exact lW e g f λa b z t t' h=>gm h λc h=>by cases h;exact PyProof.Rows.mod_int' c (Ok.j S _ _ _ (bc _ _))
 |LShift=>cases d;exact lW e g f λa b z t t' h=>gm h λc h=>by cases h;exact PyProof.Rows.lshift_int_small c.1 (aa0 c) c.2.2 (Ok.j S _ _ _ (bc _ _))
 |RShift=>cases d;exact lW e g f λa b z t t' h=>gm h λc h=>by cases h;exact PyProof.Rows.rshift_int c.1 (Ok.j S _ _ _ (bc _ _))
 |BitAnd=>cases d;exact lW e g f λa b z t t' h=>by cases h;exact PyProof.Rows.and_int (Ok.j S _ _ _ (bc _ _))
 |_=>cases d
theorem d0{a:Prop}(h:bh n x=true)(k1:x= .f->a)(k2:∀i,x= .c i->a)(b:∀m l,n=m+1->x= .e l->(∀y∈l,bh m y=true)->a):a:=by
 cases x with
 |f=>exact k1 rfl
 |c i=>exact k2 i rfl
 |e l=>cases n with
  |zero=>cases h
  |succ n=>exact b n l rfl rfl (aQ.mp h)
 |_=>cases n<;>cases h
mutual
noncomputable def qc:MV->PyData
 | .c i=> .int i
 | .e l=> .tuple (oN l)
 |_=> .none
noncomputable def oN:List MV->List PyData
 |[]=>[]
 |x::l=>qc x::oN l
end
theorem kZ(c:∀(x:MV) (v:aA),bh n x=true->VR hb h ρ x v->∃as,Reads h v (qc x) as):∀(x:List MV) (v:List aA),(∀y∈x,bh n y=true)->dw hb h ρ x v->∃as,ReadsAll h v (oN x) as
 |[],v,_,q=>q.m▸(⟨_,ReadsAll.nil⟩)
 |x::l,v,k,q=>by
  refine dY q.f λu r z0 a b=>?_
  refine fJ z0 ?_
  refine dG (c x u (k x (.head _)) a) λas z=>?_
  refine dG (kZ c l r (λy e=>k y (.tail _ e)) b) λg d=>?_
  exact⟨_,ReadsAll.cons z d⟩
theorem lQ:∀(n:Nat) (x:MV) (v:aA),bh n x=true->VR hb h ρ x v->∃as,Reads h v (qc x) as:=λn=>by
 induction n with
 |zero=>exact λx v k q=>d0 k (λe=>by subst e;rw[q.B];exact⟨_,Reads.none⟩) (λi e=>by subst e;apply q.f λt=>?_;exact⟨_,Reads.int i t⟩) λm l e J J=>nomatch e
 |succ n b=>
  exact λx v k q=>d0 k (λe=>by subst e;rw[q.B];exact⟨_,Reads.none⟩) (λi e=>by subst e;apply q.f λt=>?_;exact⟨_,Reads.int i t⟩) λm l e c d=>by
   cases e;subst c
   apply q.L λa vs g r=>?_
   obtain⟨as,z⟩:=kZ b l vs d r
   exact⟨as,reads_tuple_at g rfl rfl (by simpa using z)⟩
theorem qN(b:∀(x:MV),bh n x=true->(qc x).canLay0=true/\(qc x).depth<=n):∀(x:List MV),(∀y∈x,bh n y=true)->PyData.canLayAll0 (oN x)=true/\PyData.depthAll (oN x)<=n
 |[],_=>⟨rfl,b7 _⟩
 |x::l,k=>by
  have z:=b x (k x (.head _))
  have a:=qN b l λy c=>k y (.tail _ c)
  exact⟨aE.mpr ⟨z.1,a.1⟩,Nat.max_le.mpr ⟨z.2,a.2⟩⟩
theorem wt:∀(n:Nat) (x:MV),bh n x=true->(qc x).canLay0=true/\(qc x).depth<=n:=λn=>by
 induction n with
 |zero=>exact λx k=>d0 k (λe=>by subst e;exact⟨rfl,b7 _⟩) (λi e=>by subst e;exact⟨rfl,b7 _⟩) λm l e J J=>nomatch e
 |succ n a=>
  exact λx k=>d0 k (λe=>by subst e;exact⟨rfl,b7 _⟩) (λi e=>by subst e;exact⟨rfl,b7 _⟩) λm l e b c=>by
   cases e;subst b
   have z:=qN a l c
   exact⟨z.1,Wh z.2⟩
theorem vY(d:∀(x y:MV),bh n x=true->bh n y=true->Gm (qc x) (qc y)=MV.k x y):∀(x y:List MV),(∀z∈x,bh n z=true)->(∀z∈y,bh n z=true)->Wj (oN x) (oN y)=MV.o x y
 |[],[],_,_=>rfl
 |[],_::_,_,_=>rfl
 |_::_,[],_,_=>rfl
 |x::a,y::b,k,k'=>by
  show(Gm (qc x) (qc y)&&Wj (oN a) (oN b))=(MV.k x y&&MV.o a b)
  rw[d x y (k x (.head _)) (k' y (.head _)),vY d a b (λy c=>k y (.tail _ c)) λy c=>k' y (.tail _ c)]
theorem zG:∀(n:Nat) (x y:MV),bh n x=true->bh n y=true->Gm (qc x) (qc y)=MV.k x y:=λn=>by
 induction n with
 |zero=>
  exact λx y k a=>d0 k (λe=>by subst e;exact d0 a (λe=>by subst e;rfl) (λi e=>by subst e;rfl) λm l e J J=>nomatch e)
   (λi e=>by subst e;exact d0 a (λe=>by subst e;rfl) (λi e=>by subst e;rfl) λm l e J J=>nomatch e) λm l e J J=>nomatch e
 |succ n d=>
  exact λx y k a=>d0 k (λe=>by subst e;exact d0 a (λe=>by subst e;rfl) (λi e=>by subst e;rfl) λm l J e J=>by subst e;rfl)
   (λi e=>by subst e;exact d0 a (λe=>by subst e;rfl) (λi e=>by subst e;rfl) λm l J e J=>by subst e;rfl) λm l e b f=>by
    cases e;refine fJ b ?_
    exact d0 a (λe=>by subst e;rfl) (λi e=>by subst e;rfl) λm l e b c=>by cases e;refine fJ b ?_;exact vY d _ _ f c
end
end
section
open PySem PySem.Calls PySem.W PyProof.Rows
open PySem Builtin
noncomputable def gG(s:az)(x:aA)(v:aA)(a:az):Prop:=v=x/\∃k,s.toks<=k/\a={s with toks:=k}
section
variable{G:Cfg}{hb h:dO}{ρ:fq}{μ aG:Hp}{s:az}{prog:fh}{w:dQ}{A:da}
theorem gG.c(s:az)(x:aA)(k:Nat)(b:s.toks<=k):gG s x x {s with toks:=k}:=⟨rfl,k,b,rfl⟩
theorem gG.a(s:az)(x:aA):gG s x x s:=⟨rfl,s.toks,aC _,rfl⟩
theorem wQ(a b:List Nat):((⟨a.toArray⟩:Str)==⟨b.toArray⟩)=(a==b):=by
 by_cases h:a=b
 ·subst h;simp
 ·refine(beq_false_of_ne h)▸(beq_false_of_ne λe=>h ?_)
  injection e with e
  simpa using congrArg AG e
theorem k6(a:∀y∈x,bh 8 y=true):rY (.list (oN x))=true:=by
 have z:=qN (wt 8) x a
 unfold rY
 rw[bO]
 refine⟨by simp only[PyData.canLay0];exact z.1,decide_eq_true ?_⟩
 exact eK (Wh z.2)
theorem mC(a:bh 8 x=true):rY (qc x)=true:=by
 have z:=wt 8 x a
 unfold rY
 rw[bO]
 exact⟨z.1,decide_eq_true (eK z.2)⟩
theorem Bq(e:Uw μ x y=some r)(S:eW G hb s.heap ρ μ)(j:VR hb s.heap ρ x v)(B:VR hb s.heap ρ y u)(z:A.units+64<iz):
  aI (aH prog w) A (fT .Eq v u) (gG s (.bool r)) no s/\aI (aH prog w) A (fT .NotEq v u) (gG s (.bool (!r))) no s:=by
 have pl:∀{x},gd (bh 8 x&&bh 8 y) (some (MV.k x y))=some r->VR hb s.heap ρ x v->aI (aH prog w) A (fT .Eq v u) (gG s (.bool r)) no s/\aI (aH prog w) A (fT .NotEq v u) (gG s (.bool (!r))) no s:=λ{x} e j=>gm e λc e=>by
  refine kf e ?_
  have c:=aE.mp c
  obtain⟨as,o⟩:=lQ 8 x v c.1 j
  obtain⟨I,l⟩:=lQ 8 y u c.2 B
  exact(zG 8 x y c.1 c.2)▸(⟨eq_dataH o l (mC c.1) (mC c.2) z (gG.a _ _),ne_dataH o l (mC c.1) (mC c.2) z (gG.a _ _)⟩)
 cases x with
 |g a=>
  refine adp e λb h e=>?_
  refine kf e ?_;subst h
  apply j.H λt=>?_
  apply B.H λt'=>?_
  rw[<-wQ]
  exact⟨PyProof.Rows.eq_str (gG.a _ _),PyProof.Rows.ne_str (gG.a _ _)⟩
 |d n=>
  refine lm e λn x h F e=>lm e λm y h' D e=>gm e λc e=>?_
  refine kf e ?_;cases h;subst h'
  have c:=aE.mp c
  have k1:=aQ.mp c.1
  have k2:=aQ.mp c.2
  apply S.E F j λp vs k J J g q=>?_
  apply S.E D B λN C O J J L M=>?_
  obtain⟨as,o⟩:=kZ (lQ 8) x vs k1 q
  obtain⟨I,l⟩:=kZ (lQ 8) y C k2 M
  have f:=reads_list_at g rfl rfl (by simpa using o)
  have i:=reads_list_at L rfl rfl (by simpa using l)
  exact(vY (zG 8) x y k1 k2)▸(⟨eq_dataH f i (k6 k1) (k6 k2) z (gG.a _ _),ne_dataH f i (k6 k1) (k6 k2) z (gG.a _ _)⟩)
 |_=>exact pl e j
theorem Co(e:isV x y=some r)(S:eW G hb s.heap ρ μ)(j:VR hb s.heap ρ x v)(o:VR hb s.heap ρ y u):
  aI (aH prog w) A (fT .Is v u) (gG s (.bool r)) no s/\aI (aH prog w) A (fT .IsNot v u) (gG s (.bool (!r))) no s:=by
 obtain⟨rfl,e⟩:y= .f/\acu x=some r:=by cases y<;>first|exact⟨rfl,e⟩|cases e
 apply o.M
 have k:∀{v:aA},plainIs v .none=true->v≠ .none->some false=some r->aI (aH prog w) A (fT .Is v .none) (gG s (.bool r)) no s/\aI (aH prog w) A (fT .IsNot v .none) (gG s (.bool (!r))) no s:=λm h e=>by
  refine kf e ?_
  exact⟨wpAny_is_other m h (gG.a _ _),wpAny_isNot_other m h (gG.a _ _)⟩
 cases x with
 |f=>refine kf e ?_;apply j.M;exact⟨wpAny_is_self (by decide) (gG.a _ _),wpAny_isNot_plain (by decide) (gG.a _ _)⟩
 |h b=>apply j.N;exact k rfl nofun e
 |c i=>apply j.f λt=>?_;exact k rfl nofun e
 |g l=>apply j.H λt=>?_;exact k rfl nofun e
 |e l=>apply j.L λa vs J J=>?_;exact k rfl nofun e
 |d n=>unfold VR at j;obtain⟨p,rfl,_⟩:=j;exact k rfl nofun e
 |_=>cases e
theorem rh(e:ig x=some b)(a:VR hb s.heap ρ x v):aI (aH prog w) A (truthy v) (λc d=>c=b/\∃k,s.toks<=k/\d={s with toks:=k}) no s:=by
 cases x with
 |h b=>cases e;apply a.N;exact eV ⟨rfl,s.toks,aC _,rfl⟩
 |c i=>refine kf e ?_;apply a.f λt=>?_;exact PyProof.Rows.truthy_int ⟨rfl,s.toks,aC _,rfl⟩
 |_=>cases e
end
end
section
open PySem PySem.Calls PySem.W PyProof.Rows
open PySem Builtin
mutual
theorem Ip:∀{a b:MV},MV.k a b=true->a=b
 | .f,b,h=>by cases b with|f=>rfl|_=>exact ff h
 | .h x,b,h=>by cases b with|h y=>exact congrArg MV.h (eq_of_beq h)|_=>exact ff h
 | .c x,b,h=>by cases b with|c y=>exact congrArg MV.c (eq_of_beq h)|_=>exact ff h
 | .g x,b,h=>by cases b with|g y=>exact congrArg MV.g (eq_of_beq h)|_=>exact ff h
 | .e x,b,h=>by cases b with|e y=>exact congrArg MV.e (vX h)|_=>exact ff h
 | .d x,b,h=>by cases b with|d y=>exact congrArg MV.d (eq_of_beq h)|_=>exact ff h
 | .m x,b,h=>by cases b with|m y=>exact congrArg MV.m (eq_of_beq h)|_=>exact ff h
 | .j x t,b,h=>by cases b with|j y u=>exact congr (congrArg MV.j (eq_of_beq (aE.mp h).1)) (eq_of_beq (aE.mp h).2)|_=>exact ff h
theorem vX:∀{a b:List MV},MV.o a b=true->a=b
 |[],b,h=>by cases b with|nil=>rfl|cons _ _=>exact ff h
 |x::a,b,h=>by cases b with|nil=>exact ff h|cons y b=>exact congr (congrArg List.cons (Ip (aE.mp h).1)) (vX (aE.mp h).2)
theorem Br:∀a:MV,MV.k a a=true
 | .f=>rfl
 | .h x=>beq_self_eq_true x
 | .c x=>beq_self_eq_true x
 | .g x=>beq_self_eq_true x
 | .e x=>sZ x
 | .d x=>beq_self_eq_true x
 | .m x=>beq_self_eq_true x
 | .j x t=>aE.mpr ⟨beq_self_eq_true x,beq_self_eq_true t⟩
theorem sZ:∀a:List MV,MV.o a a=true
 |[]=>rfl
 |x::a=>aE.mpr ⟨Br x,sZ a⟩
end
theorem ju(a b:MV):MV.k a b=true↔a=b:=⟨Ip,λh=>h▸Br a⟩
theorem kz(a b:List MV):MV.o a b=true↔a=b:=⟨vX,λh=>h▸sZ a⟩
noncomputable instance decMV:DecidableEq MV:=λa b=>decidable_of_iff _ (ju a b)
section
variable{hb hb' h h':dO}{ρ ρ':fq}
theorem Ax(h:some (cn v)=some (cn u)):v=u:=by
 have:=congrArg Obj.data (ba h)
 simpa using congrArg AG (by injection this:v.toArray=u.toArray)
theorem dw.inj(j:∀(x y:MV) (v:aA),bh n x=true->bh n y=true->VR hb h ρ x v->VR hb' h ρ' y v->x=y):∀(x y:List MV) (v:List aA),(∀z∈x,bh n z=true)->(∀z∈y,bh n z=true)->dw hb h ρ x v->dw hb' h ρ' y v->x=y
 |[],y,v,_,_,q,i=>by
  replace i:=q.m▸i
  cases y with
  |nil=>rfl
  |cons a b=>obtain⟨_,_,e,_⟩:=i.f;cases e
 |x::l,y,v,k,k',q,i=>by
  refine dY q.f λu r z0 a b=>?_
  subst z0
  cases y with
  |nil=>cases i.m
  |cons c d=>
   refine dY i.f λP J e p G=>?_
   cases e
   rw[j x c u (k x (.head _)) (k' c (.head _)) a p,dw.inj j l d r (λz hz=>k z (.tail _ hz)) (λz hz=>k' z (.tail _ hz)) b G]
theorem VR.R(T:bh n x=true)(p:bh n y=true)(q:VR hb h ρ x v)(g:VR hb' h ρ' y v)(k:∀m a b,n=m+1->x= .e a->y= .e b->(∀z∈a,bh m z=true)->(∀z∈b,bh m z=true)->a=b):x=y:=by
 refine d0 T (λe=>?_) (λi e=>?_) λm l e o r=>?_
 ·subst e
  replace g:=q.B▸g
  exact d0 p (λe=>e.symm) (λj e=>by subst e;refine dG g.c λt e=>?_;cases e) λm l e o r=>by subst o;refine nc g.d λa vs e J=>?_;cases e
 ·subst e
  refine dG q.c λt z0=>?_
  subst z0
  exact d0 p (λe=>by subst e;cases g.B) (λj e=>by subst e;refine dG g.c λt e=>?_;cases e;rfl) λm l e o r=>by subst o;refine nc g.d λa vs e J=>?_;cases e
 ·subst o
  refine nc q.d λa vs D J=>?_
  subst D
  exact d0 p (λe=>by subst e;cases g.B) (λj e=>by subst e;refine dG g.c λt e=>?_;cases e) λU G P o u=>by subst o;cases e;cases P;rw[k m l G rfl rfl rfl r u]
theorem VR.inj:∀(n:Nat) (x y:MV) (v:aA),bh n x=true->bh n y=true->VR hb h ρ x v->VR hb' h ρ' y v->x=y:=λn=>by
 induction n with
 |zero=>exact λx y v l j q i=>VR.R l j q i nofun
 |succ n z=>
  exact λx y v l j q i=>VR.R l j q i λm a b e t G o D=>by
   cases e;subst t G
   refine dY q.d λp vs z0 g r=>?_
   subst z0
   refine dY i.d λP J e k u=>?_
   cases e
   replace k:=g▸k
   cases Ax k
   exact dw.inj z a b vs o D r u
theorem dw.R(c:∀(x:MV) (v:aA),bh n x=true->VR hb h ρ x v->VR hb' h ρ' x v):∀(x:List MV) (v:List aA),(∀z∈x,bh n z=true)->dw hb h ρ x v->dw hb' h ρ' x v
 |[],v,_,q=>q.m▸dw.B
 |x::l,v,k,q=>by
  refine dY q.f λu r z0 a b=>?_
  refine fJ z0 ?_
  exact dw.o (c x u (k x (.head _)) a) (dw.R c l r (λz hz=>k z (.tail _ hz)) b)
theorem VR.O:∀(n:Nat) (x:MV) (v:aA),bh n x=true->VR hb h ρ x v->VR hb' h ρ' x v:=λn=>by
 induction n with
 |zero=>exact λx v k q=>d0 k (λe=>by subst e;unfold VR at q⊢;exact q) (λi e=>by subst e;unfold VR at q⊢;exact q) λm l e J J=>nomatch e
 |succ n b=>
  exact λx v k q=>d0 k (λe=>by subst e;unfold VR at q⊢;exact q) (λi e=>by subst e;unfold VR at q⊢;exact q) λm l e j o=>by
   cases e;subst j
   refine dY q.d λa vs z0 g r=>?_
   refine fJ z0 ?_
   exact⟨a,vs,rfl,g,dw.R b l vs o r⟩
end
theorem pS(h:WX x=true):∃i,x= .c i:=by
 cases x with
 |c i=>exact⟨i,rfl⟩
 |_=>cases h
theorem Ct{f:Prop}(h:vj x=true)(k1:∀a b,x= .e [.c a,.c b]->f)(k2:∀a b l,x= .e [.c a,.c b,.e l]->(∀y∈l,∃i,y= .c i)->f):f:=by
 cases x with
 |e l=>
  cases l with
  |nil=>cases h
  |cons a l=>cases l with
  |nil=>cases h
  |cons b l=>cases l with
  |nil=>
   obtain⟨d,g⟩:=aE.mp h
   obtain⟨i,rfl⟩:=pS d
   obtain⟨j,rfl⟩:=pS g
   exact k1 i j rfl
  |cons c l=>cases l with
  |cons _ _=>cases h
  |nil=>
   obtain⟨d,h⟩:=aE.mp h
   obtain⟨g,h⟩:=aE.mp h
   obtain⟨i,rfl⟩:=pS d
   obtain⟨j,rfl⟩:=pS g
   cases c with
   |e l=>exact k2 i j l rfl λy k=>pS (aQ.mp h y k)
   |_=>cases h
 |_=>cases h
theorem wk(h:vj x=true):∃l,x= .e l:=by cases x<;>first|exact⟨_,rfl⟩|cases h
theorem fO(d:vj x=true):bh 2 x=true:=Ct d (λa b e=>by subst e;rfl) λa b l e h=>by
 subst e
 have:l.all (bh 0)=true:=aQ.mpr λy c=>by obtain⟨i,rfl⟩:=h y c;rfl
 show(true&&(true&&(l.all (bh 0)&&true)))=true
 rw[this];rfl
section
variable{prog:fh}{w:dQ}{A:da}{E:aA->az->Prop}{s:az}
noncomputable def sG(prog:fh)(w:dQ)(m:Nat)(h:dO)(v:aA)(i:Int)(n:Nat):Prop:=
 ∀(A:da) (E:aA->az->Prop) (s:az) (Q:Int->az->Prop),A.units+m<iz->s.heap=h->Q i {s with toks:=s.toks+n}->aI (aH prog w) A (pyHash v) Q E s
inductive js (prog:fh) (w:dQ) (m:Nat) (h:dO):List aA->List (Int×Nat)->Prop
 |b:js prog w m h [] []
 |a {v i n vs hs}:sG prog w m h v i n->js prog w m h vs hs->js prog w m h (v::vs) ((i,n)::hs)
theorem kE(m:Nat)(h:dO)(i:Int)(t:Tok):sG prog w m h (.int i t) (wX i) 1:=λA E s Q J J q=>wpAny_pyHash_int q
theorem js.c{d:Prop}(H:js prog w m h (x::vs) hs)(k:∀i n r,hs=(i,n)::r->sG prog w m h x i n->js prog w m h vs r->d):d:=by
 cases H with
 |a e f=>exact k _ _ _ rfl e f
theorem oY(z:h.get? a=some (cn vs))(H:js prog w m h vs hs)(A:da)(E:aA->az->Prop)(s:az)(Q:Int->az->Prop)
  (D:A.units+(m+1)<iz) (M:s.heap=h) (h':Q (uJ (cF (hs.map (·.1)))) {s with toks:=s.toks+((hs.map (·.2)).sum+1)}):aI (aH prog w) A (pyHash (.ref a)) Q E s:=by
 subst M
 have j:s.TypeIs (.ref a) "tuple":=⟨_,z,rfl⟩
 refine aw (wpAny_cRoomFor_or (.inr (aaY D)) (aw (jB j F.slot_tuple_hash.lookup ?_)))
 rw[if_neg (by rw[yQ];exact rM)]
 refine aw (jB j F.slot_tuple_hash.lookup (aw (wpAny_callSpecialIfBoundUnlessNone?_slot j F.slot_tuple_hash (eM F.slot_tuple_hash j F.entry_tuple_hash ?_ (F.args_tuple_hash_1 _)))))
 show aI _ _ (Builtin.Tuple.tupleItemsOf (.ref a)>>=_) _ _ s
 refine aw (wpAny_tupleItemsOf z rfl (aw ?_))
 rw[<-K7]
 refine wpAny_forIn_list _
  (λd (b:Array Int) e=>∀W:Prop,(∀t l r,hs.map (·.1)=b.toList++l.map (·.1)->(hs.map (·.2)).sum=t+(l.map (·.2)).sum->js prog w m s.heap d l->e={s with toks:=s.toks+t}->r=0->W)->W)
  _ (λx d b e I=>I _ λt l r v p q o J=>q.c λi n N g G u=>?_) (λb e I=>I _ λt l r v p q o J=>?_) _ _ λW k=>k 0 hs 0 rfl (cQ _).symm H rfl rfl
 ·have y:∀W:Prop,(∀B l r,hs.map (·.1)=(b.push i).toList++l.map (·.1)->(hs.map (·.2)).sum=B+(l.map (·.2)).sum->js prog w m s.heap d l->({e with toks:=e.toks+n}:az)={s with toks:=s.toks+B}->r=0->W)->W:=λW k=>k (t+n) N 0 (by rw[v,g];simp) (by rw[p,g];simp[AJ]) u (by rw[o];simp[AJ]) rfl
  refine aw (G _ _ _ _ (by simp;exact aaX D) (by rw[o]) ?_)
  first
   |exact aF y
   |exact aw (aF (aF y))
 ·have g:l=[]:=by cases q;rfl
  show aI _ _ (retInt (cF b.toList)) _ _ _
  have L:b.toList=hs.map (·.1):=by rw[v,g];simp
  refine L▸(wpAny_ret_mkInt ?_)
  have f:Q (uJ (cF (hs.map (·.1)))) {e with toks:=e.toks+1}:=by rw[o];rw[p,g] at h';exact h'
  show aI _ _ (if(decide (-(2:Int)^63<=cF (hs.map (·.1)))&&decide (cF (hs.map (·.1))<2^63))=true then _ else _) Q E _
  unfold uJ at f
  by_cases C:(decide (-(2:Int)^63<=cF (hs.map (·.1)))&&decide (cF (hs.map (·.1))<2^63))=true
  ·rw[if_pos C] at f⊢
   exact aF f
  ·rw[if_neg C] at f⊢
   exact aw (F7 (aF f))
theorem pQ:∀{l:List MV} {vs:List aA},(∀x∈l,∃i,x= .c i)->dw hb h ρ l vs->
  js prog w m h vs (l.map λx=>(match x with| .c i=>wX i|_=>0,1))
 |[],vs,_,q=>q.m▸ .b
 |x::l,vs,k,q=>by
  refine dY q.f λv r z0 a b=>?_
  refine fJ z0 ?_
  refine dG (k x (.head _)) λi e=>?_
  subst e
  refine dG a.c λt g=>?_
  refine fJ g ?_
  exact .a (kE m h i t) (pQ (λy d=>k y (.tail _ d)) b)
noncomputable def sr(prog:fh)(w:dQ)(n:Nat)(h:dO)(v:aA):Prop:=∀(A:da) (E:aA->az->Prop) (s:az) (Q:Bool->az->Prop),s.heap=h->Q true s->aI (aH prog w) A (eqIsQuiet n v) Q E s
theorem lP(n:Nat)(h:dO)(i:Int)(t:Tok):sr prog w n h (.int i t):=λA E s Q J q=>by
 rw[eqIsQuiet_byValue n rfl];exact aF q
theorem qV(f:h.get? a=some (cn vs))(H:∀v∈vs,sr prog w n h v):sr prog w (n+1) h (.ref a):=by
 intro A E s Q i h'
 subst i
 have g:s.TypeIs (.ref a) "tuple":=⟨_,f,rfl⟩
 unfold eqIsQuiet
 refine aw (jB g F.slot_tuple_eq.lookup ?_)
 refine aw (wpAny_isInstance g isSubtype_tuple_tuple ?_)
 refine aw (wpAny_seqItems f rfl ?_)
 refine aw ?_
 rw[<-K7]
 refine wpAny_forIn_list _ (λb r c=>r.1=none/\c=s/\∀v∈b,sr prog w n s.heap v) _ ?_ ?_ _ _ ⟨rfl,rfl,by simpa using H⟩
 ·rintro v b r c ⟨d,rfl,MD⟩
  refine aw (MD v gZ _ _ _ _ rfl ?_)
  exact aF ⟨rfl,rfl,λu e=>MD u (fp _ e)⟩
 ·rintro ⟨k,j⟩ c ⟨d,rfl,_⟩
  simp only at d
  subst d
  exact aF h'
end
theorem yJ:∀l:List MV,(l.map λJ=>1).sum=l.length
 |[]=>rfl
 |_::l=>by rw[dX,List.sum_cons,yJ l,eZ];exact aaW
noncomputable def yB:MV->Nat
 | .e l=>(match l with|[_,_]=>3|[_,_,c]=>(match c with| .e l=>l.length+4|_=>0)|_=>0)
 |_=>0
noncomputable def sL(h:dO)(x:MV)(a:cK):Prop:=vj x=true/\VR h h [] x (.ref a)
theorem Dk{p:Prop}(z:sL h x a)(k1:∀i j o n,x= .e [.c i,.c j]->h.get? a=some (cn [.int i o,.int j n])->p)
  (k2:∀i j l o n c ws,x= .e [.c i,.c j,.e l]->(∀y∈l,∃i,y= .c i)->h.get? a=some (cn [.int i o,.int j n,.ref c])->h.get? c=some (cn ws)->dw h h [] l ws->p):p:=by
 obtain⟨k,q⟩:=z
 refine Ct k (λi j e=>?_) λi j l e G=>?_<;>subst e<;>clear k<;>obtain⟨b,vs,e,g,r⟩:=q.d<;>cases e<;>clear q<;>
  obtain⟨O,N,rfl,D,u⟩:=r.f<;>obtain⟨o,rfl⟩:=D.c<;>obtain⟨P,Q,rfl,J,t⟩:=u.f<;>obtain⟨n,rfl⟩:=J.c
 ·obtain rfl:=t.m
  exact k1 i j o n rfl g
 ·refine dY t.f λM L C F v=>?_
  subst C
  obtain rfl:=v.m
  refine dY F.d λc ws B H I=>?_
  subst B
  exact k2 i j l o n c ws rfl G g H I
theorem xX{E:aA->az->Prop}{Q:Int->az->Prop}(f:A.units+64<iz)(r:sL s.heap k a)(h:Q (ic w k) {s with toks:=s.toks+yB k}):aI (aH prog w) A (pyHash (.ref a)) Q E s:=by
 refine Dk r (λi j u o e g=>?_) λi j l u o c ws e y g z B=>?_<;>subst e
 ·exact oY g (.a (kE 0 _ _ _) (.a (kE _ _ _ _) .b)) A E s Q (aaV f) rfl h
 ·refine oY g (.a (kE _ _ _ _) (.a (kE _ _ _ _) (.a (λC t p n d v q=>oY z (pQ (m:=0) (l:=l) y B) C t p n (aaU d) v q) .b))) A E s Q (aaT f) rfl ?_
  simp only[dX,jx,List.sum_cons,List.sum_nil,n7]
  exact(rfl:((λx:Int×Nat=>x.2)∘λx:MV=>((match x with| .c i=>wX i|_=>0:Int),1))=λJ=>1)▸(yJ l)▸(show s.toks+(1+(1+(l.length+1+0))+1)=s.toks+(l.length+4) from aaS)▸h
theorem Ff{E:aA->az->Prop}{Q:Bool->az->Prop}(r:sL s.heap k a)(h:Q true s):aI (aH prog w) A (eqIsQuiet 8 (.ref a)) Q E s:=by
 refine Dk r (λi j x q e g=>?_) λi j l x q c ws e y g B o=>?_
 ·refine qV (n:=7) g (λv b=>?_) A E s Q rfl h
  rcases cx.mp b with rfl|b
  ·exact lP _ _ _ _
  ·rw[bK] at b;subst b;exact lP _ _ _ _
 ·refine qV (n:=7) g (λv b=>?_) A E s Q rfl h
  rcases cx.mp b with rfl|b
  ·exact lP _ _ _ _
  rcases cx.mp b with rfl|b
  ·exact lP _ _ _ _
  rw[bK] at b;refine fJ b ?_
  refine qV (n:=6) B λv b=>?_
  refine dG (jW.mp b) λn p=>?_
  have m:=o.g▸((ax.mp p).1)
  refine cf (o.D (aN m)) λu f d=>?_
  rw[p] at f;cases f
  refine dG (y _ (iK m)) λz hz=>?_
  replace d:=hz▸d
  refine dG d.c λt z0=>?_
  refine fJ z0 ?_
  exact lP _ _ _ _
theorem Uy{E:aA->az->Prop}{Q:Bool->az->Prop}(l:A.units+64<iz)(d:sL s.heap x a)(c:sL s.heap y b)(h:Q (decide (x=y)) s):aI (aH prog w) A (eqBool (.ref a) (.ref b)) Q E s:=by
 obtain⟨as,f⟩:=lQ 2 x _ (fO d.1) d.2
 obtain⟨g,e⟩:=lQ 2 y _ (fO c.1) c.2
 have la:=wt 2 x (fO d.1)
 have i:=wt 2 y (fO c.1)
 refine SeqAt.eqBoolOverData prog w A E s (.ref a) (.ref b) _ _ as g Q f e la.1 i.1 (by have j:=la.2;omega) ?_
 rw[zG 2 x y (fO d.1) (fO c.1)]
 rw[show MV.k x y=decide (x=y) from V9.mpr ((ju x y).trans decide_eq_true_iff.symm)]
 exact h
noncomputable def wL(prog:fh)(w:dQ):HeapKind prog w MV where
 is:=sL
 hash:=ic w
 draws:=yB
 room:=λA=>A.units+64<iz
 inj:=λc b=>VR.inj 2 _ _ _ (fO c.1) (fO b.1) c.2 b.2
 keeps:=λ{h h' k a d o es ep} x ho hd hs=>⟨x.1,VR.O 2 _ _ (fO x.1) (hb:=h) (ρ:=[]) (VR.C (λa vs g=>by
  refine(hs.2 a ?_).trans g
  rintro rfl
  rw[ho] at g;cases g;cases hd) (λJ J e=>e) _ _ x.2)⟩
 pyHash:=xX
 eqBool:=Uy
 quiet:=Ff
end
section
open PySem PySem.Calls PySem.W PyProof.Rows
open PySem Builtin
noncomputable def jS(l:List (MV×MV))(k:MV):Option Nat:=l.findIdx? λp=>MV.k p.1 k
theorem nQ:∀(l:List (MV×MV)) (k:MV),cV l k=(jS l k).bind λi=>(l[i]?).map (·.2)
 |[],k=>rfl
 |(a,v)::r,k=>by
  unfold cV jS
  rw[gY]
  cases h:MV.k a k with
  |true=>simp
  |false=>
   rw[nQ r k]
   unfold jS
   cases rr (λp=>MV.k p.1 k) r<;>simp
theorem nS:∀(l:List (MV×MV)) (k v:MV),iU l k v=match jS l k with
  |some i=>l.modify i λp=>(p.1,v)
  |none=>l++[(k,v)]
 |[],k,v=>rfl
 |(a,x)::r,k,v=>by
  unfold iU jS
  refine gY▸?_
  cases h:MV.k a k with
  |true=>simp
  |false=>
   rw[nS r k v]
   unfold jS
   cases rr (λp=>MV.k p.1 k) r<;>simp
theorem qB:∀(l:List (MV×MV)) (k:MV),vV l k=match jS l k with
  |some i=>l.eraseIdx i
  |none=>l
 |[],k=>rfl
 |(a,x)::r,k=>by
  unfold vV jS
  rw[gY]
  cases h:MV.k a k with
  |true=>simp
  |false=>
   rw[qB r k]
   unfold jS
   cases rr (λp=>MV.k p.1 k) r<;>simp
section
variable{w:dQ}{hb h:dO}{ρ:fq}
theorem ER.f(q:ER w hb h ρ (p::l) es):
 ∃e r,es=e::r/\(VR hb h ρ p.1 e.key/\e.hash=ic w p.1/\VR hb h ρ p.2 e.val)/\ER w hb h ρ l r:=q
theorem ER.g(q:ER w hb h ρ [] es):es=[]:=q
theorem ER.t:ER w hb h ρ [] []:=rfl
theorem ER.m(a:VR hb h ρ p.1 e.key)(b:e.hash=ic w p.1)(c:VR hb h ρ p.2 e.val)(d:ER w hb h ρ l r):ER w hb h ρ (p::l) (e::r):=⟨e,r,rfl,⟨a,b,c⟩,d⟩
theorem ER.B:∀{l:List (MV×MV)} {a:List cv},ER w hb h ρ l a->a.length=l.length
 |[],_,q=>q.g▸rfl
 |_::_,_,q=>by refine dY q.f λe r z0 J b=>?_;refine fJ z0 ?_;rw[eZ,eZ,b.B]
theorem ER.C:∀{l:List (MV×MV)} {c:List cv},ER w hb h ρ l c->∀{i:Nat} {p:MV×MV},l[i]?=some p->∃e,c[i]?=some e/\VR hb h ρ p.1 e.key/\e.hash=ic w p.1/\VR hb h ρ p.2 e.val
 |[],_,_,i,p,x=>by simp at x
 |_::_,_,q,i,p,x=>by
  refine dY q.f λe r z0 a b=>?_
  refine fJ z0 ?_
  cases i with
  |zero=>simp at x;subst x;exact⟨e,rfl,a⟩
  |succ j=>simp at x;refine cf (b.C x) λu d k=>?_;exact⟨u,by simpa using d,k⟩
theorem ER.H:∀{l:List (MV×MV)} {c:List cv},ER w hb h ρ l c->∀{e:cv},e∈c->∃p∈l,VR hb h ρ p.1 e.key/\e.hash=ic w p.1
 |[],_,q,e,he=>by rw[q.g] at he;cases he
 |p::_,_,q,e,he=>by
  refine dY q.f λk r z0 a b=>?_
  subst z0
  rcases cx.mp he with rfl|he
  ·exact⟨p,.head _,a.1,a.2.1⟩
  ·refine cf (b.H he) λi j d=>?_;exact⟨i,.tail _ j,d⟩
theorem ER.D:∀(i:Nat) {l:List (MV×MV)} {c:List cv} {x:MV} {v:aA},ER w hb h ρ l c->VR hb h ρ x v->ER w hb h ρ (l.modify i λp=>(p.1,x)) (c.modify i λe=>{e with val:=v})
 |_,[],_,_,_,q,_=>by rw[q.g];simpa using ER.t
 |0,p::_,_,x,v,q,z=>by refine dY q.f λe r z0 a b=>?_;subst z0;simpa using ER.m (w:=w) (hb:=hb) (h:=h) (ρ:=ρ) (p:=(p.1,x)) (e:={e with val:=v}) a.1 a.2.1 z b
 |i+1,p::_,_,_,_,q,z=>by refine dY q.f λe r d a b=>?_;subst d;simpa using ER.m a.1 a.2.1 a.2.2 (ER.D i b z)
theorem ER.F:∀(i:Nat) {l:List (MV×MV)} {c:List cv},ER w hb h ρ l c->ER w hb h ρ (l.eraseIdx i) (c.eraseIdx i)
 |_,[],_,q=>by rw[q.g];simpa using ER.t
 |0,p::_,_,q=>by refine dY q.f λe r z0 a b=>?_;subst z0;simpa using b
 |i+1,p::_,_,q=>by refine dY q.f λe r d a b=>?_;subst d;simpa using ER.m a.1 a.2.1 a.2.2 (ER.F i b)
theorem ER.K:∀{l:List (MV×MV)} {i:List cv} {p:MV×MV} {e:cv},ER w hb h ρ l i->VR hb h ρ p.1 e.key->e.hash=ic w p.1->VR hb h ρ p.2 e.val->ER w hb h ρ (l++[p]) (i++[e])
 |[],_,_,_,q,a,b,c=>by rw[q.g];exact ER.m a b c ER.t
 |_::_,_,_,_,q,a,b,c=>by refine dY q.f λe r z0 d j=>?_;refine fJ z0 ?_;exact ER.m d.1 d.2.1 d.2.2 (j.K a b c)
theorem ER.I(P:cv->Bool)(k:MV):∀{l:List (MV×MV)} {c:List cv},ER w hb h ρ l c->(∀p∈l,∀e,VR hb h ρ p.1 e.key->P e=MV.k p.1 k)->c.findIdx? P=jS l k
 |[],_,q,_=>q.g▸rfl
 |p::_,_,q,z=>by
  refine dY q.f λe r z0 a b=>?_
  refine fJ z0 ?_
  unfold jS
  rw[gY,gY,z p (.head _) e a.1]
  have:=b.I P k λp d=>z p (.tail _ d)
  unfold jS at this
  rw[this]
end
theorem EW(d:(l.map (·.1)).Nodup)(h:l[i]?=some (k,v)):jS l k=some i:=by
 obtain⟨b,c⟩:=ax.mp h
 refine rX.mpr ⟨b,c▸((ju _ _).mpr rfl),λj hj=>?_⟩
 intro e
 have e:=(ju _ _).mp e
 have a:(l.map (·.1))[j]?=some k:=by rw[aL,aN (aaZ b hj)];simp[e]
 have:=(ON (ax.mp a).1 d).mp (a.trans (by rw[aL,h];rfl:(l.map (·.1))[i]?=some k).symm)
 exact xy hj this
theorem EV(h:∀(i:Nat) v,l[i]?≠some (k,v)):jS l k=none:=by
 refine yN.mpr λp a=>?_
 obtain⟨i,b⟩:=jW.mp a
 refine OJ.mpr λe=>?_
 exact h i p.2 (b▸((ju _ _).mp e)▸rfl)
theorem tB(h:jS l k=some i):∃v,l[i]?=some (k,v):=by
 obtain⟨b,a,_⟩:=rX.mp h
 exact⟨l[i].2,by rw[aN b,<-(ju _ _).mp a]⟩
theorem gI:(eE k=1->∃i,k= .c i)/\(eE k=2->∃x,k= .g x)/\(eE k=3->vj k=true):=by
 cases k with
 |c i=>exact⟨λJ=>⟨i,rfl⟩,nofun,nofun⟩
 |g x=>exact⟨nofun,λJ=>⟨x,rfl⟩,nofun⟩
 |e l=>show(cond (uz l) 3 0=1->_)/\(cond (uz l) 3 0=2->_)/\(cond (uz l) 3 0=3->uz l=true);cases uz l<;>exact⟨nofun,nofun,λJ=>by first|rfl|contradiction⟩
 |_=>exact⟨nofun,nofun,nofun⟩
theorem tA(k:MV):eE k=0\/eE k=1\/eE k=2\/eE k=3:=by
 cases k with
 |c i=>exact .inr (.inl rfl)
 |g x=>exact .inr (.inr (.inl rfl))
 |e l=>show cond (uz l) 3 0=0\/_\/_\/cond (uz l) 3 0=3;cases uz l<;>first|exact .inl rfl|exact .inr (.inr (.inr rfl))
 |_=>exact .inl rfl
section
variable{G:Cfg}{hb:dO}{ρ:fq}{s:az}{prog:fh}{A:da}{E:aA->az->Prop}
theorem oZ(h:eL l k=true):eE k≠0/\∀p∈l,eE p.1=eE k:=by
 unfold eL at h
 simp only[bO,bne_iff_ne,ne_eq,aQ,beq_iff_eq] at h
 exact h
theorem tQ{Q:Int->az->Prop}(a:eE k≠0)(b:VR hb s.heap ρ k key)(f:A.units+64<iz)(h:∀t,s.toks<=t->Q (ic w k) {s with toks:=t}):
  aI (aH prog w) A (pyHash key) Q E s:=by
 rcases tA k with e|e|e|e
 ·exact absurd e a
 ·obtain⟨i,rfl⟩:=gI.1 e
  obtain⟨t,rfl⟩:=b.c
  exact wpAny_pyHash_int (h _ (cN _))
 ·obtain⟨x,rfl⟩:=gI.2.1 e
  obtain⟨t,rfl⟩:=b.F
  exact wpAny_pyHash_str (h _ (cN _))
 ·have a:=gI.2.2 e
  obtain⟨l,rfl⟩:=wk a
  refine nc b.d λc vs g J=>?_
  subst g
  exact xX f ⟨a,VR.O (hb':=s.heap) (ρ':=[]) 2 _ _ (fO a) b⟩ (h _ (bc _ _))
theorem pI{Q:Option Nat->az->Prop}(R:s.heap.get? d=some (iH D n))(L:ER w hb s.heap ρ l D)(V:(l.map (·.1)).Nodup)
  (ko:eL l k=true) (N:VR hb s.heap ρ k key) (hu:A.units+64<iz) (h:Q (jS l k) s):aI (aH prog w) A (dictFind d key (ic w k)) Q E s:=by
 refine iu (oZ ko) λM B=>?_
 rcases tA k with e|e|e|e
 ·exact absurd e M
 ·refine dG (gI.1 e) λi z0=>?_
  subst z0
  refine dG N.c λt z1=>?_
  subst z1
  have o:∀p∈l,∃j,p.1= .c j:=λp m=>gI.1 ((B p m).trans e)
  refine wpAny_dictFind_of (knd:=intKind prog w) (k:=i) (by simp[intKind,aA.isInt]) R rfl (λen T=>?_) ?_
  ·refine pL (L.H (by simpa using T)) λp m u C=>?_
   refine dG (o p m) λj hj=>?_
   rw[hj] at u C
   refine dG u.c λt' u=>?_
   exact⟨j,by rw[u];simp[intKind,aA.isInt],C⟩
  ·rw[FI,L.I _ (.c i) λp m en y=>?_]
   ·exact h
   ·refine dG (o p m) λj hj=>?_
    rw[hj] at y⊢
    refine dG y.c λt' y=>?_
    rw[y]
    rfl
 ·refine dG (gI.2.1 e) λx Y=>?_
  subst Y
  refine dG N.F λt z3=>?_
  refine fJ z3 ?_
  have o:∀p∈l,∃j,p.1= .g j:=λp m=>gI.2.1 ((B p m).trans e)
  refine wpAny_dictFind_of (knd:=PySem.strKind prog w) (k:=⟨x.toArray⟩) (strKind_is prog w _ _) R rfl (λen T=>?_) ?_
  ·refine pL (L.H (by simpa using T)) λp m u C=>?_
   refine dG (o p m) λj hj=>?_
   rw[hj] at u C
   refine dG u.F λt' u=>?_
   exact⟨⟨j.toArray⟩,u▸(strKind_is prog w _ _),C⟩
  ·rw[FI,L.I _ (.g x) λp m en y=>?_]
   ·exact h
   ·refine dG (o p m) λj hj=>?_
    rw[hj] at y⊢
    refine dG y.F λt' y=>?_
    exact y▸(wQ j x)
 ·have M:=gI.2.2 e
  have build:∀{l:List (MV×MV)} {D:List cv},ER w hb s.heap ρ l D->(∀p∈l,vj p.1=true)->
    ∃xs:List (MV×cK×aA),D=xs.map (entryOfKey (wL prog w))/\(∀x∈xs,sL s.heap x.1 x.2.1)/\xs.map (·.1)=l.map (·.1):=by
   intro l
   induction l with
   |nil=>intro D q _;exact⟨[],q.g▸rfl,by simp,rfl⟩
   |cons p l ih=>
    intro D q z
    refine dY q.f λen r Z a b=>?_
    refine fJ Z ?_
    refine pL (ih b λp m=>z p (.tail _ m)) λxs u C h3=>?_
    have kp:=z p (.head _)
    have m:=VR.O (hb':=s.heap) (ρ':=[]) 2 _ _ (fO kp) a.1
    obtain⟨c,U⟩:∃c,en.key= .ref c:=by
     refine dG (wk kp) λl' e'=>?_
     have:=a.1;rw[e'] at this;refine nc this.d λc vs h J=>?_;exact⟨c,h⟩
    refine⟨(p.1,c,en.val)::xs,?_,λx S=>?_,by simp[h3]⟩
    ·obtain⟨hh,kk,vv⟩:=en
     dsimp only at a U
     rw[dX,<-u,U]
     simp only[entryOfKey,wL]
     rw[<-a.2.1]
    ·rcases cx.mp S with rfl|S
     ·exact⟨kp,U▸m⟩
     ·exact C x S
  refine pL (build L λp m=>gI.2.2 ((B p m).trans e)) λxs e1 e2 W=>?_
  have m:=VR.O (hb':=s.heap) (ρ':=[]) 2 _ _ (fO M) N
  obtain⟨c,rfl⟩:∃c,key= .ref c:=by
   refine dG (wk M) λl' X=>?_
   subst X
   refine nc N.d λc vs h J=>?_;exact⟨c,h⟩
  have at_:∀(j:Nat) (x:MV),(∃p,xs[j]?=some (x,p))↔∃v,l[j]?=some (x,v):=λj x=>by
   have:(xs.map (·.1))[j]?=(l.map (·.1))[j]?:=W▸rfl
   replace this:=aL▸aL▸this
   constructor
   ·rintro ⟨p,m⟩
    rw[m] at this
    cases B:l[j]? with
    |none=>rw[B] at this;cases this
    |some q=>rw[B] at this;cases this;exact⟨q.2,rfl⟩
   ·rintro ⟨p,m⟩
    rw[m] at this
    cases B:xs[j]? with
    |none=>rw[B] at this;cases this
    |some q=>rw[B] at this;cases this;exact⟨q.2,rfl⟩
  refine wpAny_dictFind_heap (knd:=wL prog w) (k:=k) (xs:=xs) hu ⟨M,m⟩ R rfl (by simpa using e1) e2 (W▸V) (λP=>?_) λj p hj=>?_
  ·rwa [EV λi v hi=>by refine dG ((at_ i k).mpr ⟨v,hi⟩) λp m=>?_;exact P i p m] at h
  ·refine dG ((at_ j k).mp ⟨p,hj⟩) λv U4=>?_
   rwa [EW V U4] at h
end
end
section
open PySem PySem.Calls PySem.W PyProof.Rows
open PySem Builtin
section
variable{G:Cfg}{hb:dO}{ρ:fq}{μ:Hp}{s:az}{prog:fh}{A:da}
theorem eW.N(S:eW G hb s.heap ρ μ){n:Nat}{p:cK×cK}(a:ρ[n]?=some p):(p.1==uK)=false:=by
 refine dG S.L λo b=>?_
 exact beq_eq_false_iff_ne.mpr λe=>(S.B _ _ b p (aU a)).1 e.symm
theorem cy(g:s.heap.get? a=some (iH es n)):s.TypeIs (.ref a) "dict":=⟨_,g,rfl⟩
theorem hX(g:s.heap.get? a=some (ee vs n)):s.TypeIs (.ref a) "list":=⟨_,g,rfl⟩
structure rv (G:Cfg) (hb:dO) (ρ:fq) (μ:Hp) (s:az) (n:Nat) (l:List (MV×MV)) (p:cK×cK) (es:List cv) (q:Nat) (k:MV) (key:aA):Prop where
 S:eW G hb s.heap ρ μ
 M:μ[n]?=some (.b l)
 r:ρ[n]?=some p
 K:p.2=p.1
 z:ry l
 g:s.heap.get? p.1=some (iH es q)
 c:ER G.w hb s.heap ρ l es
 B:eL l k=true
 C:VR hb s.heap ρ k key
section
variable{n:Nat}{l:List (MV×MV)}{p:cK×cK}{es:List cv}{q:Nat}{k:MV}{key:aA}
theorem rv.w(D:rv G hb ρ μ s n l p es q k key)(t:Nat):rv G hb ρ μ {s with toks:=t} n l p es q k key:=⟨D.S,D.M,D.r,D.K,D.z,D.g,D.c,D.B,D.C⟩
theorem rv.d(D:rv G hb ρ μ s n l p es q k key){Q:Option Nat->az->Prop}{E:aA->az->Prop}(a:A.units+64<iz)(h:Q (jS l k) s):aI (aH prog G.w) A (dictFind p.1 key (ic G.w k)) Q E s:=
 pI D.g D.c D.z.1 D.B D.C a h
theorem rv.j(D:rv G hb ρ μ s n l p es q k key){Q:Int->az->Prop}{E:aA->az->Prop}(a:A.units+64<iz)(h:∀t,s.toks<=t->Q (ic G.w k) {s with toks:=t}):aI (aH prog G.w) A (pyHash key) Q E s:=
 tQ (oZ D.B).1 D.C a h
theorem rv.m(D:rv G hb ρ μ s n l p es q k key){Q:Option aA->az->Prop}{E:aA->az->Prop}(h:A.units+64<iz)
  (a:cV l k=none->∀t,s.toks<=t->Q none {s with toks:=t}) (b:∀x v,cV l k=some x->VR hb s.heap ρ x v->∀t,s.toks<=t->Q (some v) {s with toks:=t}):
  aI (aH prog G.w) A (wW p.1 key) Q E s:=by
 unfold wW
 try with_reducible refine bG ?_
 refine aw (D.j h λt f=>aw ((D.w t).d h ?_))
 cases hi:jS l k with
 |none=>exact aF (a (by rw[nQ,hi];rfl) t f)
 |some i=>
  refine dG (tB hi) λx y=>?_
  refine vW (D.c.C y) λe F J J N=>?_
  refine aw (w8 (s:={s with toks:=t}) D.g rfl (aF ?_))
  have:(es.toArray[i]?).map (·.val)=some e.val:=by simp[F]
  exact this▸(b x e.val (by rw[nQ,hi];simp[y]) N t f)
theorem rv.u(D:rv G hb ρ μ s n l p es q k key)(b:cV l k=some x)(f:A.units+80<iz):aI (aH prog G.w) A (D8 (.ref p.1) key) (Ok G hb ρ s μ x) no s:=by
 unfold PySem.getItem
 try with_reducible refine bG ?_
 refine aw (n9 (cy D.g) (by decide) ?_)
 refine aw (jM (name:=jK "__getitem__") (cy D.g) F.slot_dict_getitem
  (eM F.slot_dict_getitem (cy D.g) F.entry_dict_getitem ?_ (F.args_dict_getitem_2 _ _)))
 show aI _ _ (wW p.1 key>>=_) _ _ s
 refine aw (D.m (by simp;exact pF f) (λh=>by rw[b] at h;cases h) λy v a e t i=>?_)
 rw[b] at a;cases a
 exact aF ⟨v,rfl,aF ⟨ρ,(bT.l D.S).u t i,e⟩⟩
theorem rv.I(D:rv G hb ρ μ s n l p es q k key)(i:A.units+80<iz):
  aI (aH prog G.w) A (FQ (.ref p.1) key) (λb e=>b=(cV l k).isSome/\∃t,s.toks<=t/\e={s with toks:=t}) no s:=by
 unfold FQ
 try with_reducible refine bG ?_
 refine aw (jB (cy D.g) F.slot_dict_contains.lookup ?_)
 rw[if_neg (by rw[yQ];exact rM)]
 refine aw (vF (name:=jK "__contains__") (cy D.g) F.slot_dict_contains
  (eM F.slot_dict_contains (cy D.g) F.entry_dict_contains ?_ (F.args_dict_contains_2 _ _)))
 show aI _ _ (wW p.1 key>>=_) _ _ s
 refine aw (D.m (by simp;exact pF i) (λh t a=>?_) λy v f x t a=>?_)
 ·exact aw (OZ (D.S.N D.r) (aF ⟨_,rfl,eV ⟨h▸rfl,t,a,rfl⟩⟩))
 ·exact aF ⟨_,rfl,eV ⟨f▸rfl,t,a,rfl⟩⟩
theorem zY(g:ry l)(r:eL l k=true):ry (iU l k v):=by
 refine iu (oZ r) λd f=>?_
 rw[nS]
 cases hi:jS l k with
 |some i=>
  dsimp only
  have e:(l.modify i λp=>(p.1,v)).map (·.1)=l.map (·.1):=by
   apply OM
   intro j
   rw[aL,aL,List.getElem?_modify]
   by_cases h:i=j
   ·subst h;cases l[i]?<;>simp
   ·cases l[j]?<;>simp[h]
  refine⟨e▸g.1,eE k,d,λp c=>?_⟩
  have:p.1∈(l.modify i λp=>(p.1,v)).map (·.1):=gM c
  rw[e] at this
  refine cf (cY.mp this) λo u t=>?_
  exact t▸(f o u)
 |none=>
  refine⟨?_,eE k,d,λp c=>?_⟩
  ·rw[d9,mH]
   refine⟨g.1,by simp,λa m b hb'=>?_⟩
   simp only[dX,jx,bK] at hb'
   subst hb'
   rintro rfl
   refine cf (cY.mp m) λp c e=>?_
   have:=yN.mp hi p c
   rw[e] at this
   rw[(ju _ _).mpr rfl] at this
   cases this
  ·rcases cP.mp c with h|h
   ·exact f p h
   ·rw[bK] at h;refine fJ h ?_;rfl
theorem rv.H(D:rv G hb ρ μ s n l p es q k key)(O:VR hb s.heap ρ x v)(P:l.length<=bA)(Q:A.units+64<iz):
  aI (aH prog G.w) A (dictSet p.1 key v) (λJ T=>yT G hb ρ s (μ.set n (.b (iU l k x))) T) no s:=by
 unfold dictSet
 try with_reducible refine bG ?_
 refine aw (D.j Q λt U=>?_)
 unfold dictSetHashed
 try with_reducible refine bG ?_
 refine aw ((D.w t).d Q ?_)
 have h:∀(f:Obj->Obj) (y:List cv) (F:Nat),f (iH es q)=iH y F->ER G.w hb s.heap ρ (iU l k x) y->yT G hb ρ s (μ.set n (.b (iU l k x))) {s with heap:=s.heap.update p.1 f,toks:=t}:=λf y F N E=>by
  have R:fZ p.1 s.heap (s.heap.update p.1 f):=fR ..
  refine⟨ρ,bT.H (x:= .b (iU l k x)) D.S D.r (.inl rfl) R ⟨D.K,zY D.z D.B,y,F,?_,?_⟩ t U⟩
  ·rw[jU f D.g (N▸rfl),N]
  ·refine ER.o (λa vs g=>(R.2 a ?_).trans g) (λJ J e=>e) _ _ E
   exact(D.S.z g rfl p (aU D.r)).1
 cases hi:jS l k with
 |some i=>
  refine aw (F7 (aw (wpAny_updateDict (s:={s with toks:=t}) D.g rfl (wpAny_point ?_))))
  refine h _ (es.modify i λe=>{e with val:=v}) q ?_ ?_
  ·simp only[iH,Obj.mapDict];simp[List.modify_toArray]
  ·rw[nS,hi];exact D.c.D i O
 |none=>
  refine aw (F7 (Wv (hz:=(by rw[b8,D.c.B,d_];unfold bA at P;exact sO P)) (s:={s with toks:=t}) D.g rfl ?_))
  refine h _ (es++[⟨ic G.w k,key,v⟩]) (q+1) ?_ ?_
  ·simp only[iH,kQ];simp
  ·rw[nS,hi];exact D.c.K D.C rfl O
theorem rv.o(D:rv G hb ρ μ s n l p es q k key)(e:VR hb s.heap ρ x v)(f:l.length<=bA)(i:A.units+80<iz):
  aI (aH prog G.w) A (setItem (.ref p.1) key v) (λJ a=>yT G hb ρ s (μ.set n (.b (iU l k x))) a) no s:=by
 unfold Xg
 try with_reducible refine bG ?_
 refine aw (n9 (cy D.g) (by decide) ?_)
 refine aw (jM (name:=jK "__setitem__") (cy D.g) F.slot_dict_setitem
  (eM F.slot_dict_setitem (cy D.g) F.entry_dict_setitem ?_ (F.args_dict_setitem_3 _ _ _)))
 refine aw (R8 (cy D.g) ?_)
 show aI _ _ (dictSet p.1 key v>>=_) _ _ s
 exact aw (a_ (D.H e f (by simp;exact pF i)) (λJ a h=>aF ⟨.none,rfl,aF h⟩) λJ J h=>h.elim)
theorem zX(a:ry l):ry (vV l k):=by
 rw[qB]
 cases hi:jS l k with
 |none=>exact a
 |some i=>
  dsimp only
  obtain⟨d,kk,c,e⟩:=a
  refine⟨?_,kk,c,λp b=>e p (List.mem_of_mem_eraseIdx b)⟩
  exact(List.Sublist.map _ (List.eraseIdx_sublist ..)).nodup d
theorem rv.L(D:rv G hb ρ μ s n l p es q k key)(T:(cV l k).isSome=true)(N:l.length<=bA)(O:A.units+80<iz):
  aI (aH prog G.w) A (OV (.ref p.1) key) (λJ f=>yT G hb ρ s (μ.set n (.b (vV l k))) f) no s:=by
 unfold OV
 try with_reducible refine bG ?_
 refine aw (n9 (cy D.g) (by decide) ?_)
 refine aw (jM (name:=jK "__delitem__") (cy D.g) F.slot_dict_delitem
  (eM F.slot_dict_delitem (cy D.g) F.entry_dict_delitem ?_ (F.args_dict_delitem_2 _ _)))
 refine aw ?_
 refine aw (R8 (cy D.g) ?_)
 refine aF ?_
 show aI _ _ (vB p.1 key>>=_) _ _ s
 refine aw ?_
 unfold vB
 try with_reducible refine bG ?_
 refine aw (D.j (by simp;exact pF O) λt U=>aw ((D.w t).d (by simp;exact pF O) ?_))
 cases hi:jS l k with
 |none=>rw[nQ,hi] at T;cases T
 |some i=>
  refine dG (tB hi) λx v=>?_
  refine vW (D.c.C v) λe E J J V=>?_
  refine aw (w8 (s:={s with toks:=t}) D.g rfl ?_)
  have:es.toArray[i]?=some e:=by simp[E]
  refine this▸?_
  have P:=(ax.mp E).1
  have y:kQ (λx=>x.eraseIdxIfInBounds i) (iH es q)=iH (es.eraseIdx i) (q+1):=by
   simp only[iH,kQ]
   congr 2
   simp[mF,P]
  refine aw (Wv (hz:=(by rw[b8,D.c.B,d_];unfold bA at N;exact sO N)) (s:={s with toks:=t}) D.g rfl (aF ?_) (by simp[mF,P];rw[List.length_eraseIdx];split<;>omega))
  refine aw ?_
  refine a_ (Q:=λJ f=>f={s with heap:=s.heap.update p.1 (kQ λx=>x.eraseIdxIfInBounds i),toks:=t}) ?_ (λJ f h=>?_) λJ J h=>h
  ·exact wpAny_letGo rfl
  ·subst h
   refine aF ⟨.none,rfl,aF ?_⟩
   have R:fZ p.1 s.heap (s.heap.update p.1 (kQ λx=>x.eraseIdxIfInBounds i)):=fR ..
   refine⟨ρ,bT.H (x:= .b (vV l k)) D.S D.r (.inl rfl) R ⟨D.K,zX D.z,es.eraseIdx i,q+1,?_,?_⟩ t U⟩
   ·rw[jU _ D.g (y▸rfl),y]
   ·rw[qB,hi]
    refine ER.o (λa vs g=>(R.2 a ?_).trans g) (λJ J e=>e) _ _ (D.c.F i)
    exact(D.S.z g rfl p (aU D.r)).1
end
end
end
section
open PySem PySem.Calls PySem.W PyProof.Rows
open PySem Builtin
noncomputable def uY(K:Frag)(c:Nat):Bool:=
 lY K (.ref c) "__getattribute__"==some (some (.builtin "object.__getattribute__"))&&lY K (.ref c) "__getattr__"==some none&&hasDictIn K c&&
 lY K (.ref c) "__setattr__"==some (some (.builtin "object.__setattr__"))&&plainOver K c
section
variable{NM:Nat->Str}{hb h:dO}{ρ:fq}
theorem FR.f(q:FR NM hb h ρ (p::l) es):
 ∃e r,es=e::r/\((∃t,e.key= .str (NM p.1) t)/\VR hb h ρ p.2 e.val)/\FR NM hb h ρ l r:=q
theorem FR.g(q:FR NM hb h ρ [] es):es=[]:=q
theorem FR.B:FR NM hb h ρ [] []:=rfl
theorem FR.m(a:∃t,e.key= .str (NM p.1) t)(c:VR hb h ρ p.2 e.val)(d:FR NM hb h ρ l r):FR NM hb h ρ (p::l) (e::r):=⟨e,r,rfl,⟨a,c⟩,d⟩
theorem FR.u:∀{l:List (Nat×MV)} {a:List cv},FR NM hb h ρ l a->a.length=l.length
 |[],_,q=>q.g▸rfl
 |_::_,_,q=>by refine dY q.f λe r z0 J b=>?_;refine fJ z0 ?_;rw[eZ,eZ,b.u]
theorem FR.j:∀{l:List (Nat×MV)} {c:List cv},FR NM hb h ρ l c->c.any (·.refKey)=false
 |[],_,q=>q.g▸rfl
 |_::_,_,q=>by
  refine dY q.f λe r z0 d b=>?_
  refine fJ z0 ?_
  obtain⟨⟨t,a⟩,_⟩:=d
  rw[List.any_cons,b.j];simp[cv.refKey,a]
end
section
variable{G:Cfg}{hb h:dO}{ρ:fq}
theorem JS(a b:Nat)(d:a<G.N)(hb':b<G.N)(t:Tok):(aA.str (G.a a) t).isStr (G.a b)=aT a b:=by
 simp only[aA.isStr]
 by_cases e:a=b
 ·subst e;simp
 ·have: ¬G.a a=G.a b:=λq=>e (G.inj a b d hb' q)
  have c:(G.a a==G.a b)=false:=by simpa using this
  rw[c]
  cases q:aT a b with
  |false=>rfl
  |true=>exact absurd (aK q) e
theorem FR.w(D:a<G.N):∀{c:List (Nat×MV)} {n:List cv},FR G.a hb h ρ c n->(∀p∈c,p.1<G.N)->
  (∀x,bz c a=some x->∃v,getL (G.a a) n=some (some v)/\VR hb h ρ x v)/\(bz c a=none->getL (G.a a) n=some none)
 |[],_,q,_=>q.g▸(⟨λx e=>by simp[bz] at e,λJ=>rfl⟩)
 |p::c,_,q,z=>by
  refine dY q.f λe r z0 I b=>?_
  subst z0
  obtain⟨⟨t,k⟩,H⟩:=I
  obtain⟨i,x⟩:=p
  have L:=z (i,x) (.head _)
  have d:=FR.w D b λp E=>z p (.tail _ E)
  have F:=q.j
  unfold bz getL
  rw[Wc,k,JS i a L D t]
  cases hq:aT i a with
  |true=>
   refine⟨λy l=>?_,λl=>by simp at l⟩
   simp at l;subst l
   exact⟨_,rfl,H⟩
  |false=>
   unfold getL at d
   rw[F]
   have d:=b.j▸d
   exact d
theorem FR.C(l:a<G.N)(d:VR hb h ρ x v):∀{c:List (Nat×MV)} {n:List cv},FR G.a hb h ρ c n->(∀p∈c,p.1<G.N)->
  FR G.a hb h ρ (bp c a x) (putL (G.a a) hsh (.str (G.a a) t') v n)
 |[],_,q,_=>q.g▸(FR.m ⟨t',rfl⟩ d FR.B)
 |p::c,_,q,z=>by
  refine dY q.f λe r z0 H b=>?_
  refine fJ z0 ?_
  obtain⟨⟨t,k⟩,E⟩:=H
  obtain⟨i,y⟩:=p
  have I:=z (i,y) (.head _)
  have F:=FR.C l (hsh:=hsh) (t':=t') d b λp D=>z p (.tail _ D)
  show FR G.a hb h ρ (if aT i a then(i,x)::c else(i,y)::bp c a x) (if e.key.isStr (G.a a)=true then⟨e.hash,e.key,v⟩::r else e::putL (G.a a) hsh (.str (G.a a) t') v r)
  rw[show e.key.isStr (G.a a)=aT i a by rw[k];exact JS i a I l t]
  cases hq:aT i a with
  |true=>simp only[if_true];exact FR.m ⟨t,k⟩ d b
  |false=>simp only[dx,if_false];exact FR.m ⟨t,k⟩ E F
end
theorem qU(a:Nat)(x:MV):∀c:List (Nat×MV),(∀p∈bp c a x,p.1=a\/p.1∈c.map (·.1))/\((c.map (·.1)).Nodup->((bp c a x).map (·.1)).Nodup)
 |[]=>⟨λp b=>by simp[bp] at b;left;rw[b],λJ=>by simp[bp]⟩
 |(i,y)::c=>by
  have f:=qU a x c
  unfold bp
  cases hq:aT i a with
  |true=>
   refine⟨λp b=>?_,λh=>by simpa using h⟩
   rcases cx.mp b with rfl|b
   ·right;simp
   ·right;exact gM (fp _ b)
  |false=>
   simp only[dx,if_false]
   refine⟨λp b=>?_,λh=>?_⟩
   ·rcases cx.mp b with rfl|b
    ·right;simp
    ·rcases f.1 p b with e|e
     ·exact .inl e
     ·right;simp only[dX,cx];exact .inr e
   ·simp only[dX,We] at h⊢
    refine⟨λhm=>?_,f.2 h.2⟩
    refine cf (cY.mp hm) λp b e=>?_
    rcases f.1 p b with d|d
    ·rw[<-e,d,Nat.beq_refl] at hq;cases hq
    ·rw[e] at d;exact h.1 d
theorem uM.b(d:a<N)(h:uM N fs):uM N (bp fs a x):=by
 refine⟨(qU a x fs).2 h.1,λp c=>?_⟩
 rcases(qU a x fs).1 p c with e|e
 ·exact e▸d
 ·refine cf (cY.mp e) λq f e=>?_
  exact e▸(h.2 q f)
section
variable{G:Cfg}{T:Tab}{K:Frag}{hb:dO}{ρ:fq}{μ aG:Hp}{s:az}{prog:fh}{A:da}
theorem VR.Q(q:VR hb s.heap ρ x v):handedIn v=true:=by
 cases x with
 |f=>rw[q.B];rfl
 |h b=>rw[q.I];rfl
 |c i=>obtain⟨t,rfl⟩:=q.c;rfl
 |g i=>obtain⟨t,rfl⟩:=q.F;rfl
 |e l=>obtain⟨a,vs,rfl,_⟩:=q.d;rfl
 |d n=>unfold VR at q;obtain⟨p,rfl,_⟩:=q;rfl
 |m l=>unfold VR at q;refine Mk q λa vs k o J=>?_;refine fJ o ?_;rfl
 |j x t=>unfold VR at q;rw[q];rfl
structure Ea (T:Tab) (G:Cfg) (K:Frag) (hb:dO) (fa:Nat->cK):Prop where
 b:K.In hb
 d:∀c a,a∈T.b c->a<G.N/\uY K c=true/\lY K (.ref c) (G.a a)=some none
 e:∀c a f,T.a c a=some f->a<G.N/\uY K c=true/\lY K (.ref c) (G.a a)=some (some (.ref (fa f)))/\isFn K (.ref (fa f))=true
theorem qA(h:uY K c=true):lY K (.ref c) "__getattribute__"=some (some (.builtin "object.__getattribute__"))/\lY K (.ref c) "__getattr__"=some none/\hasDictIn K c=true/\
  lY K (.ref c) "__setattr__"=some (some (.builtin "object.__setattr__"))/\plainOver K c=true:=by
 unfold uY at h
 simp only[bO,beq_iff_eq] at h
 exact⟨h.1.1.1.1,h.1.1.1.2,h.1.1.2,h.1.2,h.2⟩
theorem qM{p:cK×cK}{c:Nat}{a:List cv}{k:Nat}(g:s.heap.get? p.1=some (mJ c p.2))(b:s.heap.get? p.2=some (iH a k)):
 InstAt s.heap p.1 (mJ c p.2) c (some (iH a k)):=⟨g,rfl,rfl,b⟩
theorem xU{o:Nat->cK}(ST:Ea T G K hb o){x r:MV}{a:Nat}{v:aA}{f:Bool}(e:iw T μ x a=some r)(S:eW G hb s.heap ρ μ)(H:VR hb s.heap ρ x v):
  aI (aH prog G.w) A (getAttr v (G.a a) f) (Ok G hb ρ s μ r) no s:=by
 refine nm e λn c P h I q=>gm q λC q=>?_
 subst h
 apply S.T I H λp N k L j g t B=>?_
 refine m_ (ST.d c a (jV.mp C)) λJ z D=>?_
 refine Ig (qA z) λy M E R O=>?_
 refine cf ((B.w J j.2).1 r q) λu F i=>?_
 exact get_value (ST.b.keeps S.m) (qM g t) y (findObj_own E D rfl (by rw[lookIn_dict];exact F)) i.Q ⟨ρ,(bT.l S).u _ (cN _),i⟩
theorem yx(a:Nat)(y:MV):∀l:List (Nat×MV),(Mine.bp l a y).length<=l.length+1
 |[]=>aC _
 |(i,z)::l=>by unfold Mine.bp;split<;>simp<;>exact GN (yx a y l)
theorem yD{Z:Nat->cK}(ST:Ea T G K hb Z){x y:MV}{a:Nat}{v u:aA}(e:ot T μ x a y=some aG)(S:eW G hb s.heap ρ μ)(hx:VR hb s.heap ρ x v)(hy:VR hb s.heap ρ y u):
  aI (aH prog G.w) A (setAttr v (G.a a) u) (λJ W=>yT G hb ρ s aG W) no s:=by
 refine nm e λn c U h hn e=>gm e λM e=>?_
 refine kf e ?_;subst h
 refine iu (aE.mp M) λM L=>?_
 apply S.T hn hx λp t k Q O g i P=>?_
 refine m_ (ST.d c a (jV.mp M)) λV ck hl=>?_
 refine Ig (qA ck) λc1 c2 c3 c4 c5=>?_
 have X:=ST.b.keeps S.m
 have I:=qM (s:=s) g i
 refine set_plain X I c4 ?_
 refine osa_open (s:={s with toks:=s.toks+1}) X I c5 (r:=none) (by unfold takerIn;rw[hl];rfl) λb=>?_
 refine cf (any_some c3) λcd hc N=>?_
 refine aw (aF (aw (aw (wpAny_loadPart (s:={s with toks:=s.toks+1}) g (aw ((looks_clsIn X hc).here (s:={s with toks:=s.toks+1}) ?_))))))
 rw[N]
 refine aF (a:=some p.2) (aw (aF (aw ?_)))
 refine aw (aw (wpAny_askSetting (aF (aw (wpAny_mkText (aw (wpAny_loadPart (s:={s with toks:=s.toks+1+1}) i ?_)))))))
 dsimp only
 rw[aRefKeyMayBeTheName_at,show(!t.toArray.any (·.key.isStr (G.a a))&&t.toArray.any (·.refKey))=false by rw[<-OI,<-OI];simp only[P.j,Bool.and_false]]
 refine wpAny_updatePart (s:={s with toks:=s.toks+1+1}) i ?_
 have q:=putName_dict (G.a a) (jh G.w.params (G.a a)) (.str (G.a a) (s.toks+1)) u t k
 have f:=FR.C (G:=G) V (hsh:=jh G.w.params (G.a a)) (t':=s.toks+1) hy P O.2
 show aI _ _ _ _ _ {s with heap:=s.heap.update p.2 (Obj.putName (G.a a) (jh G.w.params (G.a a)) (.str (G.a a) (s.toks+1)) u),toks:=s.toks+1+1}
 generalize Obj.putName (G.a a) (jh G.w.params (G.a a)) (.str (G.a a) (s.toks+1)) u=F at q⊢
 generalize putL (G.a a) (jh G.w.params (G.a a)) (.str (G.a a) (s.toks+1)) u t=Lj at q f
 have B:fZ p.2 s.heap (s.heap.update p.2 F):=fR ..
 have D:=jU F i (by rw[q];rfl)
 rw[q] at D
 generalize s.heap.update p.2 F=h' at B D⊢
 have E:p.1≠p.2:=by intro e;rw[e,i] at g;cases g
 have l:Lj.length<=1000:=by
  rw[f.u]
  have t1:=yx a y U
  have Y:=aW L
  exact TJ t1 Y
 refine aw (wpAny_lookBehind (s:={s with heap:=h',toks:=s.toks+1+1}) D (pastItsLine_dict (b8▸d_▸(aau l))) ?_)
 exact aF ⟨ρ,bT.H (x:= .d c (Mine.bp U a y)) S Q (.inr rfl) B ⟨O.b V,(B.2 _ E).trans g,_,_,D,FR.o (λa' vs R=>(B.2 a' ((S.z R rfl p (aU Q)).2)).trans R) (λJ J e=>e) _ _ f⟩ _ A1⟩
end
end
section
open PySem PySem.Calls PySem.W PyProof.Rows
open PySem Builtin
noncomputable def mV:Option Nat->Option Int
 |none=>none
 |some k=>some (k:Int)
theorem oX(a b:Option Nat)(n:Nat):Wo (mV a) (mV b) none n=(((min (a.getD 0) n:Nat):Int),((min (b.getD n) n:Nat):Int),1):=by
 have e:∀(k:Nat),max (0:Int) (min (k:Int) (n:Int))=((min k n:Nat):Int):=λk=>aaz
 cases a<;>cases b<;>simp only[mV,Wo,sE,mS,show(1:Int)>0 by decide,if_true,show ∀k:Nat,¬((k:Int)<0) from λk=>aay,if_false,e,Nat.zero_min,Nat.min_self,Int.natCast_zero]
 all_goals rfl
theorem sW{d:Type}(l:List d)(a b:Option Nat):(l.drop (min (a.getD 0) l.length)).take (min (b.getD l.length) l.length - min (a.getD 0) l.length)=sV l a b:=by
 have c:∀k,l.drop (min k l.length)=l.drop k:=λk=>by
  by_cases h:k<=l.length
  ·rw[hZ h]
  ·rw[nK (uU h),nZ (aC _),nZ (uU h)]
 unfold sV
 cases a with
 |none=>cases b with
  |none=>simp
  |some b=>
   simp only[sE,mS,Nat.zero_min,iC,Nat.sub_zero]
   by_cases h:b<=l.length
   ·rw[hZ h]
   ·rw[nK (uU h),dF (aC _),dF (uU h)]
 |some a=>cases b with
  |none=>
   simp only[sE,mS,Nat.min_self,c]
   rw[dF]
   rw[iM];exact aax
  |some b=>
   simp only[mS,c]
   rw[List.drop_take]
   by_cases h:a<=l.length
   ·by_cases h':b<=l.length
    ·rw[hZ h,hZ h']
    ·rw[hZ h,nK ((uU h'):l.length<=b),dF,dF]<;>rw[iM]<;>first|exact TM h h'|exact TN
   ·rw[nZ (uU h)];simp
theorem HW(l:List aA)(a b:Option Nat):slicePick l.toArray (mV a) (mV b) none=(sV l a b).toArray:=by
 unfold slicePick
 rw[b8,oX]
 simp only[FW,pick_run]
 rw[sW]
theorem Mf{c d:Type}(f:c->d)(l:List c)(a b:Option Nat):sV (l.map f) a b=(sV l a b).map f:=by
 unfold sV;cases a<;>cases b<;>simp[List.map_take,List.map_drop]
theorem zz{c:Type}(l:List c)(a b:Option Nat):(sV l a b).length<=l.length:=by
 unfold sV;cases a<;>cases b<;>simp<;>first|exact TK|exact TL
theorem dw.Q(q:dw hb h ρ l vs)(a b:Option Nat):dw hb h ρ (sV l a b) (Mine.sV vs a b):=by
 cases a<;>cases b<;>first|exact q|exact q.F _|exact q.K _|exact(q.F _).K _
section
variable{G:Cfg}{hb h:dO}{ρ:fq}{μ aG:Hp}{s:az}{prog:fh}{w:dQ}{A:da}
theorem JW{c:Prop}(q:dw hb h ρ l vs)(e:Ad l k=some x)
  (k1:∀v,VR hb h ρ x v->0<=k->k<2^62->vs[k.toNat]?=some v->c) (k2:∀v,VR hb h ρ x v->k<0-> -(2^62)<k->0<=k+vs.length->vs[(k+vs.length).toNat]?=some v->c):c:=by
 unfold Ad at e
 by_cases b:0<=k
 ·rw[if_pos b] at e
  refine gm e λa e=>?_
  refine cf (q.D e) λv d i=>?_
  exact k1 v i b a d
 ·rw[if_neg b] at e
  refine gm e λf e=>?_
  refine cf (q.D e) λv a d=>?_
  rw[<-q.g] at a f
  exact k2 v d (Int.not_le.mp b) f.1 f.2 a
theorem Ok.f(S:eW G hb s.heap ρ μ)(q:VR hb s.heap ρ x v):Ok G hb ρ s μ x v s:=⟨ρ,bT.l S,q⟩
theorem VR.V(q:VR hb h ρ x v):VR hb h ρ (kn x) v:=by
 cases x with
 |j y t=>unfold VR at q;rw[q];unfold Mine.kn VR;exact⟨t,rfl⟩
 |_=>exact q
theorem KJ(e:ez μ x i=some r)(S:eW G hb s.heap ρ μ)(I:VR hb s.heap ρ x v)(D:VR hb s.heap ρ i u)(Z:A.units+80<iz)
  (B:∀v u:aA,r7 slice false v u=OW [v,u] (D8 v u)):aI (aH prog G.w) A (oG value slice v u) (Ok G hb ρ s μ r) no s:=by
 delta ez at e
 cases x with
 |d n=>
  refine hm e (λn l h M e=>?_) (λn l h M e=>?_) λJ J J J J h=>nomatch h
  ·cases h
   refine im e λj h e=>?_
   subst h
   apply D.f λt=>?_
   apply S.E M I λp vs k J J g q=>?_
   have m:=gU g
   refine JW q e (λv z b o y=>?_) λv z b o y O=>?_
   ·exact pv m.typeIs wY.lookup (wpAny_getItem_list m b (QR b o) (by simpa using y) (Ok.f S z)) (B _ _)
   ·exact pv m.typeIs wY.lookup (wpAny_getItem_list_neg m b (by simp;exact QP y) (QQ b o) (by simpa using O) (Ok.f S z)) (B _ _)
  ·cases h
   refine gm e λT e=>?_
   apply S.Q M I λp Y k W U X g R=>?_
   exact pv (cy g) F.slot_dict_getitem.lookup ((⟨S,M,W,U,X,g,R,T,D.V⟩:rv G hb ρ μ s _ l p Y k (kn i) u).u e Z) (B _ _)
 |e l=>
  refine im e λj h q=>?_
  subst h
  clear e
  apply D.f λt=>?_
  apply I.L λa vs g r=>?_
  have m:=yg g
  refine JW r q (λv z b o y=>?_) λv z b o y O=>?_
  ·have N:=(ax.mp y).1
   exact pv m.typeIs slot_tuple_getitem.lookup (getItem_tuple m (aaw b o) (QR b o) (seqIndex_of b (by simp;exact((ou b).mp N))) (by simpa using y) (Ok.f S z)) (B _ _)
  ·refine pv m.typeIs slot_tuple_getitem.lookup (getItem_tuple m (QQ b o) (aav b o) (j:=(_+(vs.length:Int)).toNat) ?_ (by simpa using O) (Ok.f S z)) (B _ _)
   rw[seqIndex_neg (by simpa using b) (by simp;exact QP y)]
   simp
 |g l=>
  refine im e λk h q=>gm q λC q=>mm q λc P q=>?_
  refine rQ q ?_;subst h
  apply I.H λt=>?_
  apply D.f λt'=>?_
  have N:=(ax.mp P).1
  refine pv (typeIs_str s ⟨l.toArray⟩ t) slot_str_getitem.lookup (getItem_str (c:=c) (by simp;exact(⟨gq (by decide) C.1,FG C.2 (by decide)⟩)) ?_ (Ok.u S [c] _ _ (bc _ _))) (B _ _)
  rw[seqIndex_of C.1 (by simp[Str.length];exact((ou C.1).mp N))]
  simpa using P
 |_=>cases e
end
end
section
open PySem PySem.Calls PySem.W PyProof.Rows
open PySem Builtin
noncomputable def O6(hb h:dO)(ρ:fq):Option MV->aA->Prop
 |none,v=>v= .none
 |some x,v=>VR hb h ρ x v
section
variable{G:Cfg}{hb h:dO}{ρ ρ':fq}{μ aG bF:Hp}{s s':az}{prog:fh}{w:dQ}{A:da}
theorem Ok.c{r:MV}{v:aA}{s1:az}{bu:fq}(P:bT G hb ρ s bu bF s1)(h:Ok G hb bu s1 aG r v s'):Ok G hb ρ s aG r v s':=by
 obtain⟨ρ',Q,q⟩:=h
 exact⟨ρ',P.f Q,q⟩
theorem yT.a{s1:az}{bu:fq}(P:bT G hb ρ s bu bF s1)(h:yT G hb bu s1 aG s'):yT G hb ρ s aG s':=by
 obtain⟨ρ',Q⟩:=h
 exact⟨ρ',P.f Q⟩
theorem Mq(S:eW G hb h ρ μ)(q:VR hb h ρ (.m l) v):∃a vs k,v= .ref a/\h.get? a=some (ee vs k)/\dw hb h ρ (l.map .c) vs:=by
 obtain⟨a,vs,k,rfl,g,b,d⟩:=q
 refine⟨a,vs,k,rfl,S.m _ _ g,?_⟩
 clear g
 induction l generalizing vs with
 |nil=>have:vs=[]:=eB.mp b.symm;refine fJ this ?_;exact dw.B
 |cons i l f=>cases vs with
  |nil=>simp at b
  |cons u vs=>
   obtain⟨t,e⟩:=d 0 i rfl
   simp at e
   refine fJ e ?_
   refine dw.o (⟨t,rfl⟩) (f vs (by simpa using b) λj n e=>?_)
   refine dG (d (j+1) n (by simpa using e)) λt' p=>?_
   exact⟨t',by simpa using p⟩
theorem jm(q:O6 hb h ρ x v)(e:jY x=some b):IsPart v (mV b)/\∃p:Option (Int×Tok),v=partValue p/\p.map (·.1)=mV b:=by
 cases x with
 |none=>refine kf e ?_;rw[show v= .none from q];exact⟨.none,none,rfl,rfl⟩
 |some x=>
  refine im e λk h e=>gm e λa e=>?_
  refine kf e ?_;subst h
  obtain⟨t,rfl⟩:=VR.c (hb:=hb) (h:=h) (ρ:=ρ) q
  exact(show mV (some k.toNat)=some k by simp[mV];exact aan a)▸(⟨.int k t,some (k,t),rfl,rfl⟩)
theorem Av(l:List Nat)(a b:Option Nat):Builtin.Str.strSliceIndices (mV a) (mV b) 1 l.length=sliceRange ((min (a.getD 0) l.length:Nat):Int) ((min (b.getD l.length) l.length:Nat):Int) 1:=by
 injection (oX a b l.length) with d c
 injection c with c e
 refine d▸c▸?_
 cases a<;>cases b<;>rfl
set_option tactic.hygienic true in
theorem Er(h:(sV l a b).length=l.length):sV l a b=l:=by
 unfold sV at h⊢
 cases a<;>cases b<;>simp only at h⊢
 ·rw[gN] at h;exact dF (aaH h)
 ·replace h:=iM▸h
  rename_i a
  by_cases c:a=0
  ·refine fJ c ?_;rfl
  ·have:l.length=0:=FK λd=>absurd h (gw (Nat.sub_lt d (OS c)))
   rw[eB.mp this];simp
 ·replace h:=gN▸iM▸h
  rename_i a b
  by_cases c:l.length=0
  ·rw[eB.mp c];simp
  ·have:a=0:=aaG h c
   subst this
   exact iC▸(dF (aaF h))
theorem Bk{Q:aA->az->Prop}(hz:l.length<=bA)(g:s.heap.get? p=some (ee vs k))(q:dw hb s.heap ρ l vs)
  (sl:s.heap.IsSliceOf m vl vu .none) (pl:IsPart vl (mV a)) (f:IsPart vu (mV b)) (S:eW G hb s.heap ρ μ) (h:∀v s',Ok G hb ρ s (μ++[.a (sV l a b)]) (.d μ.length) v s'->Q v s')
  (e:∀v u:aA,r7 slice false v u=OW [u,v] (D8 v u)):aI (aH prog G.w) A (oG value slice (.ref p) (.ref m)) Q no s:=by
 have c:=gU g
 refine pv c.typeIs wY.lookup (wpAny_getItem_list_slice c sl pl f .none (by simp) ?_ (by rw[b8,q.g,d_];unfold bA at hz;exact sO hz)) (e _ _)
 rw[HW]
 exact h _ _ (Ok.y S (q.Q a b) _ (aC _))
set_option tactic.hygienic true in
theorem zy{Q:aA->az->Prop}(hz:l.length<=bA)(n:s.heap.IsSlice m pl pu none)(f:pl.map (·.1)=mV a)(i:pu.map (·.1)=mV b)
  (S:eW G hb s.heap ρ μ) (h:∀v s',Ok G hb ρ s μ (.g (sV l a b)) v s'->Q v s')
  (k:∀v u:aA,r7 slice false v u=OW [u,v] (D8 v u)):aI (aH prog G.w) A (oG value slice (.str ⟨l.toArray⟩ t) (.ref m)) Q no s:=by
 refine pv (typeIs_str _ ⟨l.toArray⟩ t) F.slot_str_getitem.lookup (wpAny_getItem_str_slice n rfl ?_) (k _ _)
 unfold sliceMade
 have c:(⟨l.toArray⟩:Str).length=l.length:=rfl
 have d:yZ ⟨l.toArray⟩ pl pu none=sliceRange ((min (a.getD 0) l.length:Nat):Int) ((min (b.getD l.length) l.length:Nat):Int) 1:=by
  unfold yZ
  exact f▸i▸c▸(Av l a b)
 have e:(yZ ⟨l.toArray⟩ pl pu none).filterMap (l.toArray[·]?)=sV l a b:=by
  rw[d,FW,pick_run]
  exact sW l a b
 have j:(yZ ⟨l.toArray⟩ pl pu none).length=(sV l a b).length:=by
  rw[d,FW,ay,OO,<-sW l a b,gN,iM]
  exact aaE c
 split
 ·rename_i hw
  simp only[bO,beq_iff_eq] at hw
  have:=hw.2
  rw[c,j] at this
  rw[Er this] at h
  exact h _ _ (Ok.u S l t _ (aC _))
 ·refine⟨?_,?_⟩
  ·show(List.toArray _).size<=_
   rw[e,b8,d_]
   have:=zz l a b
   exact aaD hz c this
  ·exact e▸(h _ _ (Ok.u S _ _ _ (bc _ _)))
theorem slc{P:MV->MV->Hp->Prop}{x r:MV}{lo f:Option MV}(e:lB μ x lo f=some (r,aG))(k1:∀a b n l,jY lo=some a->jY f=some b->μ[n]?=some (.a l)->l.length<=bA->P (.d n) (.d μ.length) (μ++[.a (sV l a b)]))(k2:∀a b l,jY lo=some a->jY f=some b->l.length<=bA->P (.g l) (.g (sV l a b)) μ)
  (j:∀a b l,jY lo=some a->jY f=some b->l.length<=bA->P (.m l) (.d μ.length) (μ++[.a ((sV l a b).map .c)])):P x r aG:=by
 refine bm e λa i e=>bm e λb hb' e=>?_
 cases x with
 |d n=>exact lm e λm l h k e=>gm e λhz e=>qZ (P:=λr aG=>P (.d n) r aG) e (MV.d.inj h▸k1 a b m l i hb' k hz)
 |g l=>exact gm e λhz e=>qZ (P:=λr aG=>P (.g l) r aG) e (k2 a b l i hb' hz)
 |m l=>exact gm e λhz e=>qZ (P:=λr aG=>P (.m l) r aG) e (j a b l i hb' hz)
 |_=>cases e
theorem Am{value slice:Expr}{x r:MV}{lo M:Option MV}{v j i:aA}(e:lB μ x lo M=some (r,aG))(S:eW G hb s.heap ρ μ)(f:VR hb s.heap ρ x v)(C:O6 hb s.heap ρ lo j)(D:O6 hb s.heap ρ M i)
  (I:∀v u:aA,r7 slice false v u=OW [u,v] (D8 v u)):
  aI (aH prog G.w) A (oG value slice v (.ref s.heap.objs.size)) (Ok G hb ρ s aG r) no {s with heap:=s.heap.push {cls:= .type "slice",data:= .fields #[j,i,.none]}}:=by
 have P:=bT.B S (λb o e=>bg {cls:= .type "slice",data:= .fields #[j,i,.none]} e) s.toks (aC _)
 have sl:=vC s.heap j i .none
 have L:=bU s.heap (o:={cls:= .type "slice",data:= .fields #[j,i,.none]}) rfl
 have S1:=P.d
 have f:=P.y S f
 generalize s.heap.push {cls:= .type "slice",data:= .fields #[j,i,.none]}=h1 at P sl L S1 f⊢
 refine slc (P:=λx r aG=>VR hb h1 ρ x v->aI (aH prog G.w) A (oG value slice v (.ref s.heap.objs.size)) (Ok G hb ρ s aG r) no {s with heap:=h1}) e (λa b n l m hb' Q hz f=>?_) (λa b l m hb' hz f=>?_) (λa b l m hb' hz f=>?_) f
 ·apply S1.E Q f λp vs k J J g q=>?_
  exact Bk (s:={s with heap:=h1}) hz g q sl (jm C m).1 (jm D hb').1 S1 (λv s' h=>Ok.c P h) I
 ·refine cf (jm C m).2 λpl N F=>cf (jm D hb').2 λR O z=>?_
  apply f.H λt=>?_
  exact zy (s:={s with heap:=h1}) hz ⟨_,L,rfl,N▸O▸rfl⟩ F z S1 (λv s' h=>Ok.c P h) I
 ·refine Ih (Mq S1 f) λp vs k z0 g q=>?_
  refine fJ z0 ?_
  rw[<-Mf]
  exact Bk (s:={s with heap:=h1}) (by rw[ay];exact hz) g q sl (jm C m).1 (jm D hb').1 S1 (λv s' h=>Ok.c P h) I
theorem Js(e:mw μ x=some r)(S:eW G hb s.heap ρ μ)(b:VR hb s.heap ρ x v):aI (aH prog G.w) A (call (.builtin "len") [v]) (Ok G hb ρ s μ r) no s:=by
 cases x with
 |e l=>
  refine gm e λhz e=>?_
  cases e
  apply b.L λa vs g q=>?_
  exact q.g▸(PyProof.Rows.len_tuple (yg g) (by rw[b8,q.g];unfold bA at hz;exact QS hz) (Ok.j S _ _ _ (bc _ 2)))
 |d n=>
  refine lm e λn l h c e=>gm e λhz e=>?_
  cases e;cases h
  apply S.E c b λp vs k J J g q=>?_
  exact q.g▸(PyProof.Rows.len_list (gU g) (by rw[b8,q.g];unfold bA at hz;exact QS hz) (Ok.j S _ _ _ (bc _ 2)))
 |_=>cases e
theorem yK(i:μ[n]?=some (.a l))(hz:l.length<=bA)(S:eW G hb s.heap ρ μ)(f:VR hb s.heap ρ (.d n) v):
  aI (aH prog G.w) A (call (.type "tuple") [v]) (Ok G hb ρ s μ (.e l)) no s:=by
 refine ur (S.I i f) λp vs k z0 J J g q=>?_
 refine fJ z0 ?_
 refine call_tuple_list (gU g) (λh' kp=>?_) (by rw[b8,q.g,d_];unfold bA at hz;exact sO hz)
 have c:∀b o,s.heap.get? b=some o->(h'.push (cn vs)).get? b=some o:=λb o e=>bg _ (kp b o e)
 refine⟨ρ,bT.B S c s.toks (aC _),?_⟩
 exact⟨_,vs,rfl,bU _ rfl,dw.t (λa vs g=>c _ _ g) (λJ J e=>e) _ _ q⟩
theorem Fv(e:zC i=some x)(S:eW G hb s.heap ρ μ)(b:VR hb s.heap ρ (.c i) v):
  aI (aH prog G.w) A (call (.type "str") [v]) (Ok G hb ρ s μ (.g x)) no s:=by
 refine dG b.c λt z0=>?_
 refine fJ z0 ?_
 refine gm e λa e=>?_
 refine kf e ?_
 have:(toString i:Str)=⟨[48+i.toNat].toArray⟩:=by
  have h:=mapf (f:=λk:Nat=>(toString (k:Int):Str)) (g:=λk=>⟨[48+k].toArray⟩) (l:=fP 10) ⋯ (pz.mpr ((ou a.1).mpr a.2))
  rw[k7 a.1] at h
  exact h
 refine PySem.P.str_of_int ?_ ?_
 ·have:i.natAbs<10:=aaC a
  exact aaB this (Nat.log2_le_self _)
 ·exact this▸(Ok.u S _ _ _ (bc _ _))
theorem za(r:μ[n]?=some (.a l))(hz:l.length<=bA)(S:eW G hb s.heap ρ μ)(o:VR hb s.heap ρ (.d n) v)(j:VR hb s.heap ρ x u):
  aI (aH prog G.w) A (call (.builtin "list.append") [v,u]) (Ok G hb ρ s (μ.set n (.a (l++[x]))) .f) no s:=by
 refine ur (S.I r o) λp vs k z0 b m g q=>?_
 refine fJ z0 ?_
 refine append_at (hsz:=by rw[b8,q.g,d_];unfold bA at hz;exact sO hz) g λh' c i=>?_
 refine⟨ρ,bT.H (x:= .a (l++[x])) S b (.inl rfl) c ⟨m,vs++[u],k+1,by rw[i];simp,?_⟩ s.toks (aC _),rfl⟩
 refine dw.t (λa vs g=>(c.2 a ?_).trans g) (λJ J e=>e) _ _ (q.L j)
 exact(S.z g rfl p (aU b)).1
theorem NZ(O:μ[n]?=some (.a l))(f:l.getLast?=some x)(hz:l.length<=bA)(S:eW G hb s.heap ρ μ)(N:VR hb s.heap ρ (.d n) v):
  aI (aH prog G.w) A (call (.builtin "list.pop") [v]) (Ok G hb ρ s (μ.set n (.a l.dropLast)) x) no s:=by
 refine ur (S.I O N) λp vs k z0 m M g q=>?_
 refine fJ z0 ?_
 have r:=List.getLast?_eq_getElem? (l:=l)
 rw[f] at r
 refine cf (q.D r.symm) λu c L=>?_
 replace c:=q.g.symm▸c
 have j:=(ax.mp c).1
 have E:vs.toArray.eraseIdxIfInBounds (vs.toArray.size - 1)=(vs.take (vs.length - 1)).toArray:=by
  unfold mF
  refine(dif_pos (by simpa using j))▸?_
  apply Array.toList_inj.mp
  rw[Array.toList_eraseIdx]
  simp
  have o:=j
  exact FH
 refine uI F.slot_list_pop (hX g) F.entry_list_pop (F.args_list_pop_1 _) (PySem.MeetsSeq.list_pop_last p.1 _ k u (by simpa using c) (by rw[b8,q.g,d_];unfold bA at hz;exact sO hz)) ⟨g,?_⟩
 have B:=FO g λxs=>xs.eraseIdxIfInBounds (vs.toArray.size - 1)
 rw[E,if_neg (by simp;exact aaA j)] at B
 have y:fZ p.1 s.heap (s.heap.update p.1 (oF λxs=>xs.eraseIdxIfInBounds (vs.toArray.size - 1))):=fR ..
 have b:∀a i,s.heap.get? a=some (cn i)->(s.heap.update p.1 (oF λxs=>xs.eraseIdxIfInBounds (vs.toArray.size - 1))).get? a=some (cn i):=λa i g=>(y.2 a ((S.z g rfl p (aU m)).1)).trans g
 refine⟨ρ,bT.H (x:= .a l.dropLast) S m (.inl rfl) y ⟨M,vs.take (vs.length - 1),k+1,?_,?_⟩ s.toks (aC _),VR.C b (λJ J e=>e) _ _ L⟩
 ·exact B
 ·exact q.g▸FH▸(dw.t b (λJ J e=>e) _ _ (q.F _))
end
end
section
open PySem PySem.Calls PySem.W PyProof.Rows
open PySem Builtin
theorem tS(c:Nat)(y:List Nat):∀a b:List Nat,jH c y (a++b)=jH c y a++jH c y b
 |[],_=>rfl
 |k::r,b=>by
  have d:=tS c y r b
  show(if k=c then y++jH c y (r++b) else k::jH c y (r++b))=(if k=c then y++jH c y r else k::jH c y r)++jH c y b
  split<;>simp[d]
theorem qW(c:Nat)(y:List Nat):∀l:List Nat,c∉l->jH c y l=l
 |[],_=>rfl
 |k::r,h=>by
  have a: ¬k=c:=λe=>h (e▸gZ ..)
  have b:c∉r:=λm=>h (fp _ m)
  unfold jH
  rw[if_neg a,qW c y r b]
theorem Ka(c:Nat)(y:List Nat):jH c y [c]=y:=by simp[jH]
theorem vx(c:Nat)(y:List Nat):∀parts:List Str,(∀p∈parts,c∉p.cps.toList)->jH c y (Le ⟨#[c]⟩ parts).cps.toList=(Le ⟨y.toArray⟩ parts).cps.toList
 |[],_=>rfl
 |[p],h=>qW c y _ (h p (bK.mpr rfl))
 |p::q::r,h=>by
  have b:=vx c y (q::r) λa d=>h a (fp _ d)
  show jH c y (p++⟨#[c]⟩++Le ⟨#[c]⟩ (q::r)).cps.toList=(p++⟨y.toArray⟩++Le ⟨y.toArray⟩ (q::r)).cps.toList
  simp only[Str.cps_append,Array.toList_append]
  rw[tS,tS,b,qW c y _ (h p (gZ ..))]
  rw[Ka]
theorem Af(x:List Nat)(c:Nat)(y:List Nat):vE ⟨x.toArray⟩ ⟨#[c]⟩ ⟨y.toArray⟩=⟨(jH c y x).toArray⟩:=by
 have h:(vE ⟨x.toArray⟩ ⟨#[c]⟩ ⟨y.toArray⟩).cps.toList=jH c y x:=by
  rw[StrLaws.replace_one,<-vx c y _ (StrLaws.split_free ⟨x.toArray⟩ c),StrLaws.join_split]
 generalize vE ⟨x.toArray⟩ ⟨#[c]⟩ ⟨y.toArray⟩=r at h
 obtain⟨⟨l⟩⟩:=r
 have e:l=jH c y x:=h
 rw[e]
private def sel (start a step:Int) (i:Nat):Bool:=
 if step>0 then start<=i&&i<a&&(i - start)%step==0
 else a<i&&i<=start&&(start - i)%(-step)==0
theorem Kw(b:i<n):sel ((min k n:Nat):Int) (n:Int) 1 i=decide (k<=i):=by
 unfold sel
 rw[if_pos (by decide)]
 by_cases h:k<=i
 ·have a:=aaO b h
  have c:=Ph b
  simp[a,c,h]
 ·have a:=aaN b h
  simp[a,h]
theorem EU(l:List aA)(k n:Nat):∀(i:Nat),i+l.length=n->((l.zipIdx i).filterMap λx=>if sel ((min k n:Nat):Int) (n:Int) 1 x.snd=true then none else some x.fst)=l.take (k - i):=by
 induction l with
 |nil=>intro i _;simp
 |cons x l c=>
  intro i a
  rw[List.zipIdx_cons,List.filterMap_cons]
  rw[Kw (by simp at a;exact Hf a),c (i+1) (by simp at a⊢;exact Bb a)]
  by_cases h:k<=i
  ·simp only[h,decide_true,if_true]
   have b:=Gl (ub h)
   have d:=Gl h
   rw[b,d];simp
  ·simp only[h,decide_false,dx,if_false]
   have b:=aat a h
   rw[b,List.take_succ_cons]
section
variable{G:Cfg}{hb h:dO}{ρ ρ':fq}{μ aG bF:Hp}{s s':az}{prog:fh}{w:dQ}{A:da}
set_option tactic.hygienic true in
theorem Fi(e:vt T c x y=some r)(S:eW G hb s.heap ρ μ)(E:VR hb s.heap ρ x v)(p:VR hb s.heap ρ y u)(a:T.d<=k):
  aI (aH prog G.w) A (call (.builtin "str.replace") [v,.str ⟨#[c]⟩ k,u]) (Ok G hb ρ s μ r) no s:=by
 obtain⟨x,rfl⟩:∃l,x= .g l:=by cases x<;>first|exact⟨_,rfl⟩|cases e
 obtain⟨y,t,rfl⟩:∃l t,y= .j l t:=by cases y<;>first|exact⟨_,_,rfl⟩|cases e
 refine gm e λz e=>?_
 ··obtain⟨f,n,C,b,i⟩:=z
   refine kf e ?_
   apply E.H λt'=>?_
   subst p
   have ex:(⟨x.toArray⟩:Str).length=x.length:=rfl
   have B:(⟨y.toArray⟩:Str).length=y.length:=rfl
   have hb':(⟨x.toArray⟩:Str).length+((⟨x.toArray⟩:Str).length+1)*(⟨y.toArray⟩:Str).length<=16777216:=by
    rw[ex,B]
    have:(x.length+1)*y.length<=1001*1000:=yO (aas f ex) n
    exact aar f ex this
   have m:Builtin.Str.tooLong ((⟨x.toArray⟩:Str).length+(Builtin.Str.occurrences ⟨x.toArray⟩ ⟨#[c]⟩ 0 (⟨x.toArray⟩:Str).length ((⟨x.toArray⟩:Str).length+1)).length*(⟨y.toArray⟩:Str).length)=false:=by
    have e:(2:Nat)^24=16777216:=by decide
    exact decide_eq_false (aaq hb' (gu _ (StrLaws.occ_length_le ⟨x.toArray⟩ ⟨#[c]⟩ 0 (⟨x.toArray⟩:Str).length ((⟨x.toArray⟩:Str).length+1))))
   have o:((⟨#[c]⟩:Str)==⟨y.toArray⟩)=false:=by
    have:=wQ [c] y
    rw[show(⟨#[c]⟩:Str)=⟨([c]:List Nat).toArray⟩ from rfl,this]
    simpa using C
   have a1:=dJ (bk (oE b i) a)
   have a2:=dJ b
   have a3: ¬k=t:=λe=>Nat.lt_irrefl _ (bk i (e▸a))
   refine call_gives F.slot_str_replace (typeIs_str _ _ _) F.entry_str_replace (F.args_str_replace_3 _ _ _)
    (gives_str_replace ⟨x.toArray⟩ ⟨#[c]⟩ ⟨y.toArray⟩ t' k t λJ=>⟨by simp[a1,a2],by simp[a3],o,m⟩) ?_
   have e:=Af x c y
   unfold vE at e
   split
   ·rename_i hc
    rw[if_pos hc] at e
    have D:x=jH c y x:=by
     have:=congrArg (λq:Str=>q.cps.toList) e
     simpa using this
    exact D▸(Ok.u S x t' _ (aC _))
   ·rename_i hc
    rw[if_neg hc] at e
    refine⟨fits_replaced ⟨#[c]⟩ hb',?_⟩
    exact e▸(Ok.u S _ _ _ (bc _ _))
theorem Ky{vs:List aA}{p:cK}{q:Nat}{j:Int}{t:Tok}{u:aA}{Q:az->Prop}(d:0<=j)(b:j<vs.length)(hz:vs.length<=bA)(g:s.heap.get? p=some (ee vs q))
  (k:∀h',fZ p s.heap h'->h'.get? p=some (ee (vs.set j.toNat u) q)->Q {s with heap:=h'}):aI (aH prog G.w) A (setItem (.ref p) (.int j t) u) (λJ=>Q) no s:=by
 unfold Xg
 try with_reducible refine bG ?_
 skip
 refine aw (n9 (hX g) (by decide) ?_)
 refine aw (jM (name:=jK "__setitem__") (hX g) slot_list_setitem
  (eM slot_list_setitem (hX g) entry_list_setitem ?_ (args_list_setitem _ _ _)))
 show aI _ _ (rm (.int j t)>>=_) _ _ s
 refine aw (wpAny_listSubscript_int (fitsIndex_of d (by unfold bA at hz;exact TP b hz)) ?_)
 obtain⟨j,rfl⟩:=Int.eq_ofNat_of_zero_le d
 have hj:=cw.mp b
 refine aw (aw (wpAny_seqItemAt g rfl (aF ?_)))
 refine(show vs.toArray[j]?=some vs[j] by simp[hj])▸?_
 have c:oF (λxs=>xs.setIfInBounds j u) (ee vs q)=ee (vs.set (j:Int).toNat u) q:=by
  rw[Int.toNat_natCast];simp[oF,ee]
 have a:=k _ (fR s.heap p (oF λxs=>xs.setIfInBounds j u)) (by rw[jU _ g (c▸rfl),c])
 refine aw (wpAny_setSeqItemAt g rfl ?_)
 first
  |exact aw (aF (aF ⟨.none,rfl,aF a⟩))
  |exact aF ⟨.none,rfl,aF a⟩
theorem yM(S:eW G hb s.heap ρ μ){n:Nat}{p:cK×cK}(c:ρ[n]?=some p)(m:p.2=p.1){vs b:List aA}{q d:Nat}{l:List MV}{h':dO}(f:fZ p.1 s.heap h')(j:h'.get? p.1=some (ee b d))(r:dw hb s.heap ρ l b){k:Nat}(i:s.toks<=k):
  bT G hb ρ s ρ (μ.set n (.a l)) {s with heap:=h',toks:=k}:=
 bT.H (x:= .a l) S c (.inl rfl) f ⟨m,b,d,j,dw.t (λa vs g=>(f.2 a ((S.z g rfl p (aU c)).1)).trans g) (λJ J e=>e) _ _ r⟩ k i
theorem Kx{x i y:MV}{v k u:aA}(e:p9 μ x i y=some aG)(S:eW G hb s.heap ρ μ)(D:VR hb s.heap ρ x v)(C:VR hb s.heap ρ i k)(m:VR hb s.heap ρ y u)(L:A.units+80<iz):
  aI (aH prog G.w) A (setItem v k u) (λJ s'=>yT G hb ρ s aG s') no s:=by
 refine hm e (λnn l h a e=>?_) (λn l h a e=>?_) λJ J J J J h=>nomatch h
 ·refine im e λj h' e=>gm e λhj e=>?_
  refine kf e ?_;cases h;cases h'
  apply C.f λt=>?_
  apply S.E a D λp vs q b c g r=>?_
  refine m_ hj λI z d=>?_
  rw[<-r.g] at z d
  exact Ky I z d g λh' M N=>⟨ρ,yM S b c (vs:=vs) (q:=q) M N (r.O j.toNat m) (aC _)⟩
 ·refine gm e λB e=>?_
  refine kf e ?_;cases h
  apply S.Q a D λp P q b c F g H=>?_
  exact rv.o ⟨S,a,b,c,F,g,H,B.1,C⟩ m B.2 L
theorem H0(e:Mh μ x i=some aG)(S:eW G hb s.heap ρ μ)(r:VR hb s.heap ρ x v)(o:VR hb s.heap ρ i k)(m:A.units+80<iz):
  aI (aH prog G.w) A (OV v k) (λJ s'=>yT G hb ρ s aG s') no s:=by
 refine dm e λn l h b e=>gm e λa e=>?_
 refine kf e ?_;cases h
 apply S.Q b r λp t q c f d g j=>?_
 exact rv.L ⟨S,b,c,f,d,g,j,a.1,o⟩ a.2.1 a.2.2 m
theorem abS{vs:List aA}{p a:cK}{j:Int}{t:Tok}{q:Nat}{Q:az->Prop}(hz:vs.length<=bA)(o:0<=j)(d:s.heap.get? p=some (ee vs q))(sl:s.heap.IsSliceOf a (.int j t) .none .none)
  (k:∀h' r,fZ p s.heap h'->h'.get? p=some (ee (vs.take j.toNat) r)->Q {s with heap:=h'}):aI (aH prog G.w) A (OV (.ref p) (.ref a)) (λJ=>Q) no s:=by
 refine pL sl λos b l c=>?_
 have e:s.TypeIs (.ref a) "slice":=⟨os,b,l⟩
 have hsz:vs.toArray.size<=sizeLine:=by rw[b8,d_];unfold bA at hz;exact sO hz
 refine wpAny_delItem_slot (hX d) (by decide) F.slot_list_delitem (eM F.slot_list_delitem (hX d) F.entry_list_delitem ?_ (F.args_list_delitem_2 _ _))
 show aI _ _ (rm (.ref a)>>=_) _ _ s
 refine aw ?_
 refine aw (jB e slice_no_index ?_)
 refine aF ?_
 refine aw (wpAny_typeOf e ?_)
 rw[if_neg (by decide)]
 rw[listSliceParts_eq]
 refine aw (aw (Ws b c (x:= .none) rfl (aw (FZ .none ?_))))
 rw[if_neg (by decide)]
 refine aw (Ws b c (x:= .int j t) rfl (aw (FZ (.int j t) ?_)))
 refine aw (Ws b c (x:= .none) rfl (aw (FZ .none (aF ?_))))
 refine aw (m:=Builtin.List.listItems (.ref p)) ?_
 refine aw (wpAny_seqItems d rfl (aF ?_))
 refine aw (wpAny_of_eq (sliceIndices_raw (some j) none none vs.toArray.size (by simp)) ?_)
 have u:Wo (some j) none none vs.toArray.size=(((min j.toNat vs.length:Nat):Int),(vs.length:Int),1):=by
  have:=oX (some j.toNat) none vs.toArray.size
  rw[show mV (some j.toNat)=some j by simp[mV];exact TO o] at this
  simpa[mV] using this
 rw[u]
 dsimp only
 refine aw (F7 (aw ?_))
 have g:(vs.zipIdx.filterMap λx=>if sel ((min j.toNat vs.length:Nat):Int) (vs.length:Int) 1 x.snd=true then none else some x.fst).toArray=(vs.take j.toNat).toArray:=by
  rw[EU vs j.toNat vs.length 0 aap];simp
 have n:∀f:Array aA->Array aA,f vs.toArray=(vs.take j.toNat).toArray->Q {s with heap:=s.heap.update p (oF f)}:=λf g=>by
  have i:=FO d f
  rw[g] at i
  exact k _ _ (fR ..) i
 have hz:(vs.take j.toNat).toArray.size<=Wn+1:=by
  rw[b8,gN]
  rw[b8] at hsz
  exact aao hsz
 refine wpAny_updateSeq d rfl ?_ (hz:=hsz) (_hz':=aD (oz (congrArg Array.size g)) hz)
 exact aw (wpAny_letGo (aF ⟨.none,rfl,n _ g⟩))
theorem HZ{x i:MV}{v k:aA}(e:HY μ x i=some aG)(S:eW G hb s.heap ρ μ)(H:VR hb s.heap ρ x v)(D:VR hb s.heap ρ i k):
  aI (aH prog G.w) A (OV v (.ref s.heap.objs.size)) (λJ s'=>yT G hb ρ s aG s') no {s with heap:=s.heap.push {cls:= .type "slice",data:= .fields #[k,.none,.none]}}:=by
 refine lm e λn l h I e=>im e λj h' e=>gm e λhj e=>?_
 refine kf e ?_;cases h;cases h'
 apply D.f λt=>?_
 have P:=bT.B S (λb o e=>bg {cls:= .type "slice",data:= .fields #[.int j t,.none,.none]} e) s.toks (aC _)
 have sl:=vC s.heap (.int j t) .none .none
 generalize s.heap.push {cls:= .type "slice",data:= .fields #[.int j t,.none,.none]}=h1 at*
 apply P.d.E I (P.y S H) λp vs q c u m r=>?_
 exact abS (s:={s with heap:=h1}) (r.g▸hj.2.2) hj.1 m sl λh' L z C=>yT.a P ⟨ρ,yM P.d c u (vs:=vs) (q:=q) z C (r.F _) (aC _)⟩
end
end
section
open PySem PySem.Calls PySem.W PyProof.Rows
open PySem Builtin
noncomputable def Back(Q:aA->az->Prop)(r:Result)(s:az):Prop:=match r with
 | .ok (.ret v)=>Q v s
 |_=>False
structure fC (n:Nat) (A:da):Prop where
 a:A.handled=none
 b:A.depth+4*n+4<=1000
 d:A.units+20*n+200<=9900
theorem pZ:recursionLimit=1000:=rfl
theorem HK:iz=9900:=rfl
theorem fC.u(R:fC n A)(h:k<=199):A.units+k<cLine:=by have:=R.d;rw[HK];exact TX h this
theorem fC.e(R:fC n A)(h:m<=n):fC m A:=⟨R.a,by have:=R.b;exact TV h this,by have:=R.d;exact TU h this⟩
theorem fC.f(R:fC (n+1) A)(env:Env):fC n (A.deeper env):=⟨R.a,by have:=R.b;show A.depth+1+_+_<=_;exact Hz this,by have:=R.d;show A.units+3+_+_<=_;exact TS this⟩
theorem fC.g(R:fC (n+1) A)(c:cK)(vals:List aA):fC n (A.under (.builtin "type.__call__" ⟨.ref c::vals,[]⟩)):=
 ⟨R.a,by have:=R.b;rw[PyProof.Rows.depth_under_make];exact Hz this,by have:=R.d;rw[PyProof.Rows.units_under_make];exact TR this⟩
noncomputable def qw(G:Cfg)(T:Tab)(fa:Nat->cK)(prog:fh)(hb:dO)(n:Nat)(call:Call):Prop:=
 ∀(A:da),fC n A->∀(f:Nat) (vs:List MV) (μ:Hp) (r:MV) (aG:Hp),call f vs μ=some (r,aG)->
  ∀(ρ:fq) (s:az) (vals:List aA),eW G hb s.heap ρ μ->T.d<=s.toks->dw hb s.heap ρ vs vals->
   n8 (aH prog G.w) A (.call (.ref (fa f)) ⟨vals,[]⟩) (Back (Ok G hb ρ s aG r)) s
section
variable{G:Cfg}{T:Tab}{K:Frag}{hb:dO}{ρ:fq}{μ aG:Hp}{s:az}{prog:fh}{A:da}{fa:Nat->cK}
theorem nI{Q:aA->az->Prop}(h:n8 (aH prog G.w) A (.call f ⟨vals,[]⟩) (Back Q) s):aI (aH prog G.w) A (call f vals) Q no s:=
 wpAny_call (codeAny_mono h λr a z=>by
  rcases r with e|(v|_|_|_)<;>exact z)
theorem NH{fa:Nat->cK}(ST:Ea T G K hb fa){Q:aA×List aA->az->Prop}(z:μ[n]?=some (.d c fs))(hm:T.a c a=some f)(o:bz fs a=none)
  (S:eW G hb s.heap ρ μ) (y:VR hb s.heap ρ (.d n) v) (h:Q (.ref (fa f),[v]) s):aI (aH prog G.w) A (sF v (G.a a) pl) Q no s:=by
 refine Ez (S.V z y) λp r k z0 D j g x C=>?_
 subst z0
 refine lu (ST.e c a f hm) λq B l t=>?_
 refine Ig (qA B) λu i E H F=>?_
 exact method_fn (ST.b.keeps S.m) (qM g x) u i l (beq_iff_eq.mp t) (by show(lookIn _ (iH r k)).map _=_;rw[lookIn_dict,(C.w q j.2).2 o];rfl) h
theorem yn{Q:aA×List aA->az->Prop}(c:μ[n]?=some (.a l))(S:eW G hb s.heap ρ μ)(b:VR hb s.heap ρ (.d n) v)
  (h:Q (.builtin "list.append",[v]) s):aI (aH prog G.w) A (sF v "append" pl) Q no s:=by
 refine ur (S.I c b) λp vs k z0 e f g q=>?_
 subst z0
 exact getMethod_list_append g rfl rfl h
theorem JE{Q:aA×List aA->az->Prop}(c:μ[n]?=some (.a l))(S:eW G hb s.heap ρ μ)(b:VR hb s.heap ρ (.d n) v)
  (h:Q (.builtin "list.pop",[v]) s):aI (aH prog G.w) A (sF v "pop" pl) Q no s:=by
 refine ur (S.I c b) λp vs k z0 f i g q=>?_
 subst z0
 exact getMethod_builtin (hX g) F.plainAttrs_list F.slot_list_pop F.type_list_pop (λa e=>by cases e;exact⟨_,g,rfl⟩) h
theorem JD{Q:aA×List aA->az->Prop}(f:μ[n]?=some (.b l))(S:eW G hb s.heap ρ μ)(c:VR hb s.heap ρ (.d n) v)
  (h:Q (.builtin "dict.get",[v]) s):aI (aH prog G.w) A (sF v "get" pl) Q no s:=by
 refine Ez (S.R f c) λp k q z0 i o j g m=>?_
 subst z0
 exact getMethod_builtin (cy g) F.plainAttrs_dict F.slot_dict_get F.type_dict_get (λa e=>by cases e;exact⟨_,g,rfl⟩) h
theorem IF(e:μ[n]?=some (.b l))(z:eL l k=true)(S:eW G hb s.heap ρ μ)(E:VR hb s.heap ρ (.d n) v)(i:VR hb s.heap ρ k key)(C:A.units+80<iz):
  aI (aH prog G.w) A (call (.builtin "dict.get") [v,key]) (Ok G hb ρ s μ ((cV l k).getD .f)) no s:=by
 refine Ez (S.R e E) λp B q z0 c D r g x=>?_
 refine fJ z0 ?_
 refine eM F.slot_dict_get (cy g) F.entry_dict_get ?_ (F.args_dict_get_2 _ _)
 show aI _ _ (wW p.1 key>>=_) _ _ s
 refine aw ((⟨S,e,c,D,r,g,x,z,i⟩:rv G hb ρ μ s n l p B q k key).m (by simp;exact pF C) (λh t a=>?_) λy u o j t a=>?_)
 ·refine aw (wpAny_missed_other (S.N c) (aF ⟨.none,rfl,?_⟩))
  exact h▸(⟨ρ,(bT.l S).u t a,rfl⟩)
 ·exact o▸(aF ⟨u,rfl,ρ,(bT.l S).u t a,j⟩)
theorem IG(e:μ[n]?=some (.b l))(z:eL l k=true)(S:eW G hb s.heap ρ μ)(E:VR hb s.heap ρ (.d n) v)(i:VR hb s.heap ρ k key)(f:VR hb s.heap ρ d dv)(C:A.units+80<iz):
  aI (aH prog G.w) A (call (.builtin "dict.get") [v,key,dv]) (Ok G hb ρ s μ ((cV l k).getD d)) no s:=by
 refine Ez (S.R e E) λp B q z0 c D r g x=>?_
 refine fJ z0 ?_
 refine eM F.slot_dict_get (cy g) F.entry_dict_get ?_ (F.args_dict_get_3 _ _ _)
 show aI _ _ (wW p.1 key>>=_) _ _ s
 refine aw ((⟨S,e,c,D,r,g,x,z,i⟩:rv G hb ρ μ s n l p B q k key).m (by simp;exact pF C) (λh t a=>?_) λy u o j t a=>?_)
 ·refine aw (wpAny_missed_other (S.N c) (aF ⟨dv,rfl,?_⟩))
  exact h▸(⟨ρ,(bT.l S).u t a,f⟩)
 ·exact o▸(aF ⟨u,rfl,ρ,(bT.l S).u t a,j⟩)
noncomputable def R_(fa:Nat->cK):Lg->aA
 | .c f=> .ref (fa f)
 | .a=> .builtin "list.append"
 | .d=> .builtin "list.pop"
 | .b=> .builtin "dict.get"
structure O5 (T:Tab) (G:Cfg):Prop where
 a:G.a T.c="append"
 b:G.a T.e="pop"
 c:G.a T.f="get"
theorem yA(ST:Ea T G K hb fa)(j:O5 T G){Q:aA×List aA->az->Prop}(e:gJ T μ x a=some c)(S:eW G hb s.heap ρ μ)(i:VR hb s.heap ρ x v)
  (h:Q (R_ fa c,[v]) s):aI (aH prog G.w) A (sF v (G.a a) pl) Q no s:=by
 refine hm e (λn l h' g q=>?_) (λn l h' g q=>?_) λn o p h' g q=>?_<;>subst h'<;>clear e
 ·by_cases d:a=T.c
  ·rw[if_pos d] at q
   cases q
   rw[d,j.a]
   exact yn g S i h
  ·rw[if_neg d] at q
   by_cases d:a=T.e
   ·rw[if_pos d] at q
    cases q
    exact d▸j.b▸(JE g S i h)
   ·rw[if_neg d] at q;cases q
 ·by_cases d:a=T.f
  ·rw[if_pos d] at q
   cases q
   rw[d,j.c]
   exact JD g S i h
  ·rw[if_neg d] at q;cases q
 ·refine gm q λm q=>mm q λf k q=>?_
  subst q
  exact NH ST g k (iG.mp m) S i h
theorem Ei(E:qw G T fa prog hb n cl)(R:fC n A)(e:dj cl μ x vs c=some (r,aG))(S:eW G hb s.heap ρ μ)(B:T.d<=s.toks)(m:VR hb s.heap ρ x v)(i:dw hb s.heap ρ vs vals):
  aI (aH prog G.w) A (call (R_ fa c) (v::vals)) (Ok G hb ρ s aG r) no s:=by
 cases c with
 |c f=>exact nI (E A R _ _ _ _ _ e ρ s _ S B (dw.o m i))
 |a=>
  refine lm e λn l h g e=>JZ e λy t e=>gm e λhz e=>?_
  refine qZ e ?_;subst h t
  apply i.I λu j=>?_
  exact za g hz S m j
 |d=>
  refine lm e λn l h g e=>C6 e λt e=>bm e λy C e=>gm e λhz e=>?_
  cases e;subst h t
  apply i.N
  exact NZ g C hz S m
 |b=>
  refine dm e λn l h g e=>bm e λp q e=>gm e λz e=>?_
  refine qZ e ?_;subst h
  cases vs with
  |nil=>cases q
  |cons k vs=>cases vs with
   |nil=>
    cases q
    apply i.I λu j=>?_
    exact IF g z S m j (R.u (by decide))
   |cons d vs=>cases vs with
    |cons _ _=>cases q
    |nil=>
     cases q
     apply i.M λu H j F=>?_
     apply F.I λJ D=>?_
     exact IG g z S m j D (R.u (by decide))
structure Mks (T:Tab) (K:Frag) (fa:Nat->cK):Prop where
 b:∀c f,T.g c=some (some f)->makesIn K c=true/\lY K (.ref c) "__init__"=some (some (.ref (fa f)))/\typeIn K (.ref (fa f))=some (.type "function")
 a:∀c,T.g c=some none->makesIn K c=true/\lY K (.ref c) "__init__"=some (some (.builtin "object.__init__"))
theorem bT.Z(S:eW G hb s.heap ρ μ)(c:Nat):bT G hb ρ s (ρ++[(s.heap.objs.size+1,s.heap.objs.size)]) (μ++[.d c []]) {s with heap:=(s.heap.push kS).push (mJ c s.heap.objs.size)}:=by
 have a:(s.heap.push kS).objs.size=s.heap.objs.size+1:=lC ..
 refine bT.V (x:= .d c []) (p:=(s.heap.objs.size+1,s.heap.objs.size)) S (λb o e=>bg _ (bg _ e)) ?_ (fF _) ⟨⟨lF,λJ h=>nomatch h⟩,?_,[],0,?_,FR.B⟩ s.toks (aC _)
 ·exact tM λo q=>OR.mpr (cN _) (sD q)
 ·have:=bU (s.heap.push kS) (o:=mJ c s.heap.objs.size) rfl
  rw[a] at this
  exact this
 ·exact bg _ (bU _ rfl)
theorem JP(ST:Ea T G K hb fa)(x:Mks T K fa)(L:qw G T fa prog hb n cl)(R:fC (n+1) A)(e:yp T cl c vs μ=some (r,aG))(S:eW G hb s.heap ρ μ)(F:T.d<=s.toks)
  (C:dw hb s.heap ρ vs vals):aI (aH prog G.w) A (call (.ref c) vals) (Ok G hb ρ s aG r) no s:=by
 have X:=ST.b.keeps S.m
 have P:=bT.Z S c
 have p:VR hb ((s.heap.push kS).push (mJ c s.heap.objs.size)) (ρ++[(s.heap.objs.size+1,s.heap.objs.size)]) (.d μ.length) (.ref (s.heap.objs.size+1)):=AB S.u
 refine bm e λi E e=>?_
 obtain⟨j,g,d,t,os⟩:=s
 cases i with
 |some f=>
  refine om e λz Q N e=>?_
  cases z with
  |f=>
   refine qZ e ?_
   refine m_ (x.b c f E) λl k I=>?_
   refine nI ?_
   refine make_core (makes_of X l) (looks_findIn X k) (λh=>bind_fn X h I) (.inl rfl) ?_
   refine codeAny_mono (L _ (R.g c vals) _ _ _ _ _ N _ _ _ P.d F (dw.o p (P.R S C))) λr O z=>?_
   rcases r with e|(v|_|_|_)<;>first|exact z.elim|skip
   obtain⟨ρ',D,q⟩:=z
   exact⟨q.B,ρ',P.f D,D.y P.d p⟩
  |_=>cases e
 |none=>
  refine C6 e λH e=>?_
  refine qZ e ?_;subst H
  refine iu (x.a c E) λl k=>?_
  obtain rfl:=C.m
  refine nI ?_
  have Y:=makes_of (M:=aH prog G.w) X l
  refine make_core Y (looks_findIn X k) (λh=>Looks.of_pure (oi_bind h)) (.inr ⟨rfl,rfl⟩) ?_
  have J:((j.push kS).push (mJ c j.objs.size)).get? (j.objs.size+1)=some (mJ c j.objs.size):=by
   have:=bU (j.push kS) (o:=mJ c j.objs.size) rfl
   rw[lC] at this
   exact this
  refine codeAny_call_builtin oi_plain entry_oi (@check_slot (aH prog G.w) _ _ _ "object.__init__" "object" "__init__" (.ref (j.objs.size+1)) [] [] _ oi_kind oi_split (((Looks.ld J).andThen .now).andThen (Y.top.keeps λb o e=>bg _ (bg _ e))) (oi_args (.ref (j.objs.size+1))) ?_)
  rw[oi_run]
  exact aF ⟨rfl,_,P,p⟩
end
end
section
open PySem PySem.Calls PySem.W PyProof.Rows
open PySem Builtin
section
variable{G:Cfg}{T:Tab}{K:Frag}{hb:dO}{ρ:fq}{μ aG:Hp}{s:az}{prog:fh}{A:da}
theorem Cn(e:inV μ x d=some r)(S:eW G hb s.heap ρ μ)(z:VR hb s.heap ρ x k)(c:VR hb s.heap ρ d v)(u:A.units+80<iz):
  aI (aH prog G.w) A (FQ v k) (λb i=>b=r/\∃t,s.toks<=t/\i={s with toks:=t}) no s:=by
 refine dm e λn l h a e=>gm e λo e=>?_
 refine kf e ?_;subst h
 apply S.Q a c λp B q f y j g m=>?_
 exact rv.I ⟨S,a,f,y,j,g,m,o,z⟩ u
theorem sq{f:Int->Int->Bool}(e:ltI f x y=some r)(g:VR hb s.heap ρ x v)(h:VR hb s.heap ρ y u)(k:∀a b t t',aI (aH prog G.w) A (fT o (.int a t) (.int b t')) (gG s (.bool (f a b))) no s):
  aI (aH prog G.w) A (fT o v u) (gG s (.bool r)) no s:=by
 refine im e λa c e=>im e λb d e=>?_
 refine kf e ?_;subst c d
 apply g.f λt=>?_
 apply h.f λt'=>?_
 exact k a b t t'
theorem lH(k:Eh o=some op)(e:ct μ op x y=some r)(S:eW G hb s.heap ρ μ)(f:VR hb s.heap ρ x v)(d:VR hb s.heap ρ y u)(g:A.units+80<iz):
  aI (aH prog G.w) A (fT o v u) (gG s (.bool r)) no s:=by
 cases o<;>cases k
 ·exact(Bq e S f d (Hg g)).1
 ·refine mm e λb q h=>?_
  subst h
  exact(Bq q S f d (Hg g)).2
 ·exact sq e f d λa b t t'=>PyProof.Rows.lt_int (gG.a _ _)
 ·exact sq e f d λa b t t'=>PyProof.Rows.le_int (gG.a _ _)
 ·exact sq e f d λa b t t'=>PyProof.Rows.gt_int (gG.a _ _)
 ·exact sq e f d λa b t t'=>PyProof.Rows.ge_int (gG.a _ _)
 ·exact(Co e S f d).1
 ·refine mm e λb q h=>?_
  subst h
  exact(Co q S f d).2
 ·exact aw (a_ (Cn e S f d g) (λb j h=>by obtain⟨rfl,t,i,rfl⟩:=h;exact aF (gG.c s _ t i)) λJ J h=>h)
 ·refine mm e λb q h=>?_
  refine rQ h ?_
  exact aw (a_ (Cn q S f d g) (λb j h=>by obtain⟨rfl,t,i,rfl⟩:=h;exact aF (gG.c s _ t i)) λJ J h=>h)
noncomputable def LJ(w:dQ)(hb:dO)(a:cK)(ks:List Int):Prop:=∃b n l,hb.get? a=some (iH b n)/\ER w hb hb [] l b/\l.map (·.1)=ks.map MV.c/\ks.Nodup/\(a==uK)=false
theorem rI(D:LJ G.w hb a ks)(u:∀b o,hb.get? b=some o->s.heap.get? b=some o)(y:A.units+80<iz):
  aI (aH prog G.w) A (FQ (.ref a) (.int i t)) (λb E=>b=ks.contains i/\∃t,s.toks<=t/\E={s with toks:=t}) no s:=by
 refine ur D λN n l g L r P z=>?_
 have m:=u _ _ g
 have f:=ER.o (λa vs g=>u _ _ g) (λJ J e=>e) _ _ L
 have I:(l.map (·.1)).Nodup:=r▸(List.Pairwise.map _ (λa b h e=>h (by cases e;rfl)) P)
 have M:eL l (.c i)=true:=by
  refine aE.mpr ⟨rfl,aQ.mpr λp B=>?_⟩
  have:p.1∈ks.map MV.c:=r▸(gM B)
  refine cf (cY.mp this) λj J e=>?_
  refine e▸?_;rfl
 have v:∀(h:dO),VR hb h [] (.c i) (.int i t):=λh=>⟨t,rfl⟩
 have q:(jS l (.c i)).isSome=ks.contains i:=by
  unfold jS
  rw[List.findIdx?_isSome]
  have:l.any (λp=>MV.k p.1 (.c i))=(l.map (·.1)).any λx=>MV.k x (.c i):=by rw[List.any_map];rfl
  rw[this,r,List.any_map,List.contains_eq_any_beq]
  congr 1
  funext j
  exact Bool.beq_comm (a:=j) (b:=i)
 unfold FQ
 try with_reducible refine bG ?_
 refine aw (jB (cy m) F.slot_dict_contains.lookup ?_)
 rw[if_neg (by rw[yQ];exact rM)]
 refine aw (vF (name:=jK "__contains__") (cy m) F.slot_dict_contains
  (eM F.slot_dict_contains (cy m) F.entry_dict_contains ?_ (F.args_dict_contains_2 _ _)))
 show aI _ _ (wW a (.int i t)>>=_) _ _ s
 refine aw ?_
 refine aw (tQ (hb:=hb) (ρ:=[]) (k:= .c i) nofun (v _) (by simp;exact pF y) λt' d=>aw (pI (s:={s with toks:=t'}) m f I M (v _) (by simp;exact pF y) ?_))
 cases hi:jS l (.c i) with
 |none=>
  rw[hi] at q
  refine aF ?_
  exact aw (OZ z (aF ⟨_,rfl,eV ⟨q▸rfl,t',d,rfl⟩⟩))
 |some j=>
  rw[hi] at q
  refine dG (tB hi) λx O=>?_
  refine vW (f.C O) λe H J J J=>?_
  refine aw (w8 (s:={s with toks:=t'}) m rfl (aF ?_))
  have:(N.toArray[j]?).map (·.val)=some e.val:=by simp[H]
  rw[this]
  exact aF ⟨_,rfl,eV ⟨q▸rfl,t',d,rfl⟩⟩
theorem Jg(S:eW G hb s.heap ρ μ)(D:LJ G.w hb a ks)(g:VR hb s.heap ρ (.c i) v)(e:A.units+80<iz):
  aI (aH prog G.w) A (fT .In v (.ref a)) (gG s (.bool (ks.contains i))) no s/\aI (aH prog G.w) A (fT .NotIn v (.ref a)) (gG s (.bool (!ks.contains i))) no s:=by
 refine dG g.c λt z0=>?_
 refine fJ z0 ?_
 constructor
 ·exact aw (a_ (rI D S.m e) (λb f h=>by obtain⟨rfl,t,d,rfl⟩:=h;exact aF (gG.c s _ t d)) λJ J h=>h)
 ·exact aw (a_ (rI D S.m e) (λb f h=>by obtain⟨rfl,t,d,rfl⟩:=h;exact aF (gG.c s _ t d)) λJ J h=>h)
theorem NQ(e:ig x=some b)(S:eW G hb s.heap ρ μ)(d:VR hb s.heap ρ x v):aI (aH prog G.w) A (unaryOp .Not v) (Ok G hb ρ s μ (.h (!b))) no s:=by
 refine bG ?_
 exact aw (a_ (rh e d) (λc f h=>by obtain⟨rfl,t,a,rfl⟩:=h;exact aF (Ok.B S _ t a)) λJ J h=>h)
theorem NK(S:eW G hb s.heap ρ μ)(a:VR hb s.heap ρ (.c i) v):aI (aH prog G.w) A (unaryOp .USub v) (Ok G hb ρ s μ (.c (-i))) no s:=by
 refine dG a.c λt z0=>?_
 refine fJ z0 ?_
 exact PyProof.Rows.neg_int (Ok.j S _ _ _ (bc _ _))
end
end
section
open PySem PySem.Calls PySem.W PyProof.Rows
open PySem Builtin
structure b_ (W:cK->Prop) (G:Cfg) (hb:dO) (ρ:fq) (s:az) (ρ':fq) (aG:Hp) (s':az):Prop where
 L:∃e,ρ'=ρ++e/\∀p∈e,s.heap.get? p.1=none/\s.heap.get? p.2=none
 B:eW G hb s'.heap ρ' aG
 u:∀b o,s.heap.get? b=some o->Off ρ b-> ¬W b->s'.heap.get? b=some o
 H:∀a vs,s.heap.get? a=some (cn vs)->s'.heap.get? a=some (cn vs)
 F:∀b,s'.heap.get? b=none->s.heap.get? b=none
 I:s'.gens=s.gens
 Z:s'.os=s.os
 N:s.toks<=s'.toks
section
variable{W W':cK->Prop}{G:Cfg}{hb h h':dO}{ρ ρ' K6:fq}{μ aG K4:Hp}{s s' s'':az}
theorem bT.U(P:bT G hb ρ s ρ' aG s'):∀b,s'.heap.get? b=none->s.heap.get? b=none:=λb z=>by
 refine cf P.E λe z0 j=>?_
 subst z0
 cases w:s.heap.get? b with
 |none=>rfl
 |some o=>
  exfalso
  by_cases a:Off ρ b
  ·rw[P.C _ _ w a] at z;cases z
  ·refine a λq i=>?_
   refine nc (P.d.X (Gi _ i)) λk o2 g c=>?_
   exact⟨(by rintro rfl;rw[z] at g;cases g),(by rintro rfl;rw[z] at c;cases c)⟩
theorem bT.w(S:eW G hb s.heap ρ μ)(P:bT G hb ρ s ρ' aG s'):b_ W G hb ρ s ρ' aG s':=⟨P.E,P.d,λb o g h J=>P.C b o g h,P.N S,P.U,P.F,P.X,P.Y⟩
theorem b_.U(P:b_ W G hb ρ s ρ' aG s'):∀(n:Nat) p,ρ[n]?=some p->ρ'[n]?=some p:=by
 refine cf P.L λe z0 J=>?_
 refine fJ z0 ?_
 exact λn p=>kX n p
theorem b_.O(P:b_ W G hb ρ s ρ' aG s')(q:VR hb s.heap ρ x v):VR hb s'.heap ρ' x v:=VR.C P.H P.U x v q
theorem b_.R(P:b_ W G hb ρ s ρ' aG s')(q:dw hb s.heap ρ x v):dw hb s'.heap ρ' x v:=dw.t P.H P.U x v q
theorem b_.M(P:b_ W G hb ρ s ρ' aG s')(g:s.heap.get? b=some o)(h:Off ρ b):Off ρ' b:=by
 refine cf P.L λe z0 d=>?_
 refine fJ z0 ?_
 refine h.a λp c=>⟨?_,?_⟩
 ·rintro rfl;rw[(d p c).1] at g;cases g
 ·rintro rfl;rw[(d p c).2] at g;cases g
theorem b_.T(S:eW G hb s.heap ρ μ):b_ W G hb ρ s ρ μ s:=⟨⟨[],by simp,λJ h=>nomatch h⟩,S,λJ J g J J=>g,λJ J g=>g,λJ g=>g,rfl,rfl,aC _⟩
theorem b_.m(P:b_ W G hb ρ s ρ' aG s')(Q:b_ W G hb ρ' s' K6 K4 s''):b_ W G hb ρ s K6 K4 s'':=by
 refine cf P.L λe z0 f=>?_
 subst z0
 refine cf Q.L λj i c=>?_
 subst i
 refine⟨⟨e++j,by rw[cC],λp d=>?_⟩,Q.B,λb o g h w=>Q.u b o (P.u b o g h w) (P.M g h) w,λa vs g=>Q.H a vs (P.H a vs g),λb g=>P.F b (Q.F b g),Q.I.trans P.I,Q.Z.trans P.Z,aD P.N Q.N⟩
 rcases cP.mp d with q|q
 ·exact f p q
 ·exact⟨P.F _ (c p q).1,P.F _ (c p q).2⟩
theorem b_.E(P:b_ W G hb ρ s ρ' aG s')(h:∀b o,s.heap.get? b=some o->W b->W' b):b_ W' G hb ρ s ρ' aG s':=
 ⟨P.L,P.B,λb o g f w=>P.u b o g f λq=>w (h b o g q),P.H,P.F,P.I,P.Z,P.N⟩
theorem b_.Y(P:b_ W G hb ρ s ρ' aG s')(h:∀b o,s.heap.get? b=some o-> ¬W b):bT G hb ρ s ρ' aG s':=
 ⟨P.L,P.B,λb o g f=>P.u b o g f (h b o g),P.I,P.Z,P.N⟩
theorem b_.V(S:eW G hb s.heap ρ μ)(f:∀a,W a->Off ρ a)(i:∀a,W a->hb.get? a=none)(nt:∀a vs,W a->s.heap.get? a≠some (cn vs))(c:∀b o,¬W b->s.heap.get? b=some o->h'.get? b=some o)
  (k:∀b,h'.get? b=none->s.heap.get? b=none) (t:Nat) (l:s.toks<=t):b_ W G hb ρ s ρ μ {s with heap:=h',toks:=t}:=by
 have j:∀a vs,s.heap.get? a=some (cn vs)->h'.get? a=some (cn vs):=λa vs g=>c a _ (λw=>nt a vs w g) g
 refine⟨⟨[],by simp,λJ h=>nomatch h⟩,⟨S.u,λn o p a b=>?_,S.F,S.B,λb o g=>?_,S.L⟩,λb o g J w=>c b o w g,j,k,rfl,rfl,l⟩
 ·have d:=(λp d=>⟨λw=>(f _ w p d).1 rfl,λw=>(f _ w p d).2 rfl⟩:∀p∈ρ,¬W p.1/\ ¬W p.2) p (aU b)
  exact(S.H n o p a b).b j (λJ J e=>e) (λo g=>c _ _ d.1 g) λo g=>c _ _ d.2 g
 ·refine c b o (λw=>?_) (S.m b o g)
  rw[i b w] at g;cases g
theorem vH(c:fZ a h h')(g:h'.get? a=some o):∀b,h'.get? b=none->h.get? b=none:=λb e=>by
 by_cases hb:b=a
 ·subst hb;rw[g] at e;cases e
 ·exact(c.2 b hb)▸e
theorem b_.aa(P:b_ W G hb ρ s ρ' aG s')(S:eW G hb s.heap ρ μ)(f:s.heap.get? d=none)(t:Off ρ' d)(ho:sJ G hb s'.heap (ρ'++[(d,d)]) x (d,d)):
  b_ W G hb ρ s (ρ'++[(d,d)]) (aG++[x]) s':=by
 have S':=P.B
 refine cf P.L λe z0 Q=>?_
 subst z0
 refine⟨⟨e++[(d,d)],by rw[cC],λp J=>?_⟩,⟨by simp[<-S'.u];exact(aR (bN [_,_] (V0.A+(V0.B+1)) (V0.A+V0.B+1) .z rfl) (bN [_,_] (V0.A+V0.B+1) (V0.A+(V0.B+1)) .z rfl)),λn o p a b=>?_,λi j p r a b w=>?_,λb o D=>?_,S'.m,S'.L⟩,P.u,P.H,P.F,P.I,P.Z,P.N⟩
 ·rcases cP.mp J with h|h
  ·exact Q p h
  ·rw[bK] at h;refine fJ h ?_;exact⟨f,f⟩
 ·by_cases l:n<aG.length
  ·replace a:=(aJ l)▸a
   rw[aJ (S'.u▸l)] at b
   exact(S'.H n o p a b).b (λa vs g=>g) (λn p e=>kX n p e) (λo g=>g) λo g=>g
  ·rw[cq (aP l)] at a
   rw[cq (S'.u▸(aP l)),S'.u] at b
   have e:n - aG.length=0:=by
    have:=(ax.mp a).1
    simp at this;exact Bc this
   rw[e] at a b
   simp at a b
   subst a b
   exact ho
 ·have c:∀(n:Nat) (q:cK×cK),(ρ++e)[n]?=some q->q.1≠d/\q.2≠d:=λn q k=>by
   have:=t q (aU k)
   exact⟨cH this.1,cH this.2⟩
  by_cases v:i<(ρ++e).length
  ·have a:=(aJ v)▸a
   by_cases hj:j<(ρ++e).length
   ·rw[aJ hj] at b
    exact S'.F i j p r a b w
   ·rw[cq (aP hj)] at b
    have e:j - (ρ++e).length=0:=by have:=(ax.mp b).1;simp at this;simp;exact QV this
    rw[e] at b;simp at b;subst b
    have z:=c i p a
    exact⟨z.1,z.1,z.2,z.2⟩
  ·rw[cq (aP v)] at a
   have C:i - (ρ++e).length=0:=by have:=(ax.mp a).1;simp at this;simp;exact QV this
   rw[C] at a;simp at a;subst a
   by_cases hj:j<(ρ++e).length
   ·rw[aJ hj] at b
    have z:=c j r b
    exact⟨cH z.1,cH z.2,cH z.1,cH z.2⟩
   ·exfalso
    have:=(ax.mp b).1
    rw[lE] at this
    exact aaP w v C hj this rfl
 ·refine(S'.B b o D).a λq k=>?_
  rw[bK] at k
  subst k
  have y:=S.m b o D
  refine⟨?_,?_⟩<;>rintro rfl<;>(rw[f] at y;cases y)
theorem b_.ab(P:b_ W G hb ρ s ρ' aG s')(S:eW G hb s.heap ρ μ)(f:s.heap.get? d=none)(b:Off ρ' d)(g:s'.heap.get? d=some (ee vs n))(q:dw hb s'.heap ρ' l vs):
  b_ W G hb ρ s (ρ'++[(d,d)]) (aG++[.a l]) s':=
 P.aa S f b ⟨rfl,vs,_,g,dw.t (λJ J g=>g) (λn p e=>kX n p e) _ _ q⟩
end
noncomputable def jC(env:Env)(a:cK):Prop:=a=env.locals\/∃n,env.cells.lookup n=some a
structure oU (G:Cfg) (hb:dO) (GA BA:cK) (env:Env) (loc:Loc) (h:dO) (ρ:fq):Prop where
 i:env.scope.kind= .function
 p:env.globals=GA
 E:env.builtins=BA
 t:∀x v,bz loc x=some v->x<G.N
 q:Off ρ env.locals
 y:∀a,jC env a->hb.get? a=none
 z:∃m,h.Ns env.locals m/\∀x v,bz loc x=some v->env.kindOf (G.a x)=some .local->∃u,m (G.a x)=some u/\VR hb h ρ v u
 f:∀n c,env.cells.lookup n=some c->Off ρ c/\c≠env.locals/\∃v,h.IsCell c v
 l:∀x v,bz loc x=some v->env.kindOf (G.a x)=some .cell\/env.kindOf (G.a x)=some .free->∃c u,env.cells.lookup (G.a x)=some c/\h.IsCell c (some u)/\VR hb h ρ v u
 j:∀n,env.kindOf n=some .cell->∃c,env.cells.lookup n=some c
 k:∀n n' c,env.cells.lookup n=some c->env.cells.lookup n'=some c->n=n'
theorem hP(l:List (Nat×MV))(k:Nat)(v:MV)(x:Nat):bz (bp l k v) x=if x=k then some v else bz l x:=by
 induction l with
 |nil=>
  by_cases h:x=k
  ·subst h;simp[bp,bz]
  ·have:aT k x=false:=C7 (cH h)
   simp[bp,bz,h,this]
 |cons p l a=>
  obtain⟨y,u⟩:=p
  unfold bp
  cases hy:aT y k with
  |true=>
   refine rQ (aK hy) ?_
   by_cases h:x=y
   ·refine rQ h ?_;simp[bz]
   ·have:aT y x=false:=C7 (cH h)
    simp[bz,h,this]
  |false=>
   simp only[dx,if_false]
   unfold bz
   cases hx:aT y x with
   |true=>
    refine rQ (aK hx) ?_
    have: ¬y=k:=λe=>by subst e;simp at hy
    simp[this]
   |false=>simp only[dx,if_false];exact a
section
variable{W:cK->Prop}{G:Cfg}{hb:dO}{GA BA:cK}{env:Env}{loc loc':Loc}{ρ ρ':fq}{μ aG:Hp}{s s':az}{prog:fh}{A:da}
theorem oU.B(F:oU G hb GA BA env loc s.heap ρ)(P:b_ W G hb ρ s ρ' aG s')(C:∀a,jC env a-> ¬W a):oU G hb GA BA env loc s'.heap ρ':=by
 refine cf F.z λm z0 hm=>?_
 obtain⟨o,R,N,g,r⟩:=z0
 refine⟨F.i,F.p,F.E,F.t,P.M g F.q,F.y,⟨m,⟨o,R,N,P.u _ _ g F.q (C _ (.inl rfl)),r⟩,λx v w d=>?_⟩,λn c w=>?_,λx v w d=>?_,F.j,F.k⟩
 ·refine cf (hm x v w d) λu b e=>?_
  exact⟨u,b,P.O e⟩
 ·obtain⟨d,b,v,J,e,D⟩:=F.f n c w
  exact⟨P.M e d,b,v,J,P.u _ _ e d (C _ (.inr ⟨n,w⟩)),D⟩
 ·refine dY (F.l x v w d) λc u b Q L=>?_
  obtain⟨J,e,D⟩:=Q
  exact⟨c,u,b,⟨J,P.u _ _ e (F.f _ c b).1 (C _ (.inr ⟨_,b⟩)),D⟩,P.O L⟩
theorem oU.I(F:oU G hb GA BA env loc s.heap ρ)(S:eW G hb s.heap ρ μ)(P:bT G hb ρ s ρ' aG s'):oU G hb GA BA env loc s'.heap ρ':=
 F.B (W:=λJ=>False) (P.w S) λJ J h=>h
theorem oU.K(F:oU G hb GA BA env loc s.heap ρ)(h:jC env a):s.heap.get? a≠some (cn vs):=by
 intro e
 rcases h with rfl|⟨n,h⟩
 ·refine cf F.z λm z0 J=>?_
  obtain⟨o,b,c,g,d,_⟩:=z0
  rw[e] at g;cases g;cases d
 ·obtain⟨_,_,v,o,g,d⟩:=F.f n a h
  rw[e] at g;cases g;cases d
theorem JL(F:oU G hb GA BA env loc s.heap ρ)(S:eW G hb s.heap ρ μ)(b:env.kindOf (G.a x)=some .local\/env.kindOf (G.a x)=some .cell\/env.kindOf (G.a x)=some .free)
  (e:bz loc x=some r) (k:(G.a x==("__debug__":Str))=false) (n:(G.a x==("__classdict__":Str))=false):aI (aH prog G.w) A (eval (.Name (G.a x) pos) env) (Ok G hb ρ s μ r) no s:=by
 refine wpAny_Name ?_ k
 rcases b with b|b|b
 ·refine cf F.z λm o hm=>?_
  refine cf (hm x r e b) λu g d=>?_
  exact Wu F.i b o g (Ok.f S d)
 ·refine dY (F.l x r e (.inl b)) λc u g d j=>?_
  exact Xh F.i b g d (Ok.f S j)
 ·refine dY (F.l x r e (.inr b)) λc u g d j=>?_
  exact wpAny_loadName_free F.i b g d (Ok.f S j) n
theorem q9(F:oU G hb GA BA env loc s.heap ρ)(S:eW G hb s.heap ρ μ)(L:env.kindOf (G.a k)=some .local\/env.kindOf (G.a k)=some .cell)(zP:k<G.N)(hx:VR hb s.heap ρ x v)
  (h1:bz loc' k=some x) (U:∀y,y≠k->bz loc' y=bz loc y):
  aI (aH prog G.w) A (storeName env (G.a k) v) (λJ s'=>b_ (λa=>a=env.locals\/(env.kindOf (G.a k)=some .cell/\jC env a)) G hb ρ s ρ μ s'/\oU G hb GA BA env loc' s'.heap ρ) no s:=by
 have th:∀y u,bz loc' y=some u->y<G.N:=λy u h=>by
  by_cases e:y=k
  ·refine fJ e ?_;exact zP
  ·rw[U y e] at h;exact F.t y u h
 refine cf F.z λm hn hm=>?_
 have aej:∀vs,s.heap.get? env.locals≠some (cn vs):=λvs=>F.K (.inl rfl)
 rcases L with L|L
 ·refine wpAny_storeName_local L hn (λh' R H=>?_) (by(rw[F.i];rfl))
  refine Ih (id R) λo es ep g d r=>?_
  have P:b_ (λa=>a=env.locals) G hb ρ s ρ μ {s with heap:=h',toks:=s.toks+1}:=
   b_.V S (λa w=>by subst w;exact F.q) (λa w=>by subst w;exact F.y _ (.inl rfl)) (λa vs w=>by subst w;exact aej vs) (λb o w g=>(H.2 b w).trans g) (vH H g) _ (cN _)
  refine⟨P.E (W':=λa=>a=env.locals\/(env.kindOf (G.a k)=some .cell/\jC env a)) λb o g w=> .inl w,F.i,F.p,F.E,th,F.q,F.y,⟨_,R,λy u B C=>?_⟩,λn c B=>?_,λy u B C=>?_,F.j,F.k⟩
  ·by_cases e:y=k
   ·subst e
    rw[h1] at B;refine kf B ?_
    exact⟨v,by simp,P.O hx⟩
   ·replace B:=(U y e)▸B
    refine cf (hm y u B C) λM D I=>?_
    refine⟨M,?_,P.O I⟩
    have:G.a y≠G.a k:=λq=>e (G.inj y k (F.t y u B) zP q)
    simp only[if_neg this];exact D
  ·obtain⟨D,I,v',Y⟩:=F.f n c B
   exact⟨D,I,v',Y.sameBut H I⟩
  ·have e:y≠k:=by rintro rfl;rw[L] at C;rcases C with C|C<;>cases C
   have B:=(U y e)▸B
   refine dY (F.l y u B C) λc M D I Y=>?_
   exact⟨c,M,D,I.sameBut H (F.f _ c D).2.1,P.O Y⟩
 ·refine dG (F.j _ L) λc Q=>?_
  obtain⟨D,I,v0,Y⟩:=F.f _ c Q
  refine wpAny_storeName_cell F.i L Q Y λh' R H=>?_
  refine cf (id R) λo g d=>?_
  have P:b_ (λa=>a=c) G hb ρ s ρ μ {s with heap:=h',toks:=s.toks}:=
   b_.V S (λa w=>by subst w;exact D) (λa w=>by refine fJ w ?_;exact F.y _ (.inr ⟨_,Q⟩)) (λa vs w=>by refine fJ w ?_;exact F.K (.inr ⟨_,Q⟩)) (λb o w g=>(H.2 b w).trans g) (vH H g) _ (aC _)
  refine⟨(P.E (W':=λa=>a=env.locals\/(env.kindOf (G.a k)=some .cell/\jC env a)) λb o g w=> .inr ⟨L,by refine fJ w ?_;exact .inr ⟨_,Q⟩⟩),F.i,F.p,F.E,th,F.q,F.y,⟨m,hn.sameBut H (cH I),λy u B C=>?_⟩,λn X B=>?_,λy u B C=>?_,F.j,F.k⟩
  ·have e:y≠k:=by rintro rfl;rw[L] at C;cases C
   rw[U y e] at B
   refine cf (hm y u B C) λM D I=>?_
   exact⟨M,D,P.O I⟩
  ·obtain⟨T,Z,v',w3⟩:=F.f n X B
   by_cases e:X=c
   ·subst e;exact⟨T,Z,_,R⟩
   ·exact⟨T,Z,v',w3.sameBut H e⟩
  ·by_cases e:y=k
   ·subst e
    rw[h1] at B;cases B
    exact⟨c,v,Q,R,P.O hx⟩
   ·rw[U y e] at B
    refine dY (F.l y u B C) λX M T Z w3=>?_
    have:X≠c:=λq=>by
     subst q
     exact e (G.inj y k (F.t y u B) zP (F.k _ _ _ T Q))
    exact⟨X,M,T,Z.sameBut H this,P.O w3⟩
end
end
section
open PySem PySem.Calls PySem.W PyProof.Rows
open PySem Builtin
structure Dat where
 X:CX
 T:Tab
 G:Cfg
 K:Frag
 b:dO
 c:Nat->cK
 d:cK
 e:cK
 a:fh
inductive xe (D:Dat) (f:Nat) (F:k_):Prop
 |mk (o:Obj) (fd:V_) (body:List je):D.b.get? (D.c f)=some o->o.data= .func fd->fd.body= .stmts body->F.b=yU D.X fd.scope.names body->D.b.CodeRec fd.code fd.qualname->fd.closure=[]->fd.globals=D.d->fd.builtins=D.e->
  fd.scope.isCoroutine=false->fd.scope.isGenerator=false->fd.scope.kind= .function->
  (∀vals:List aA,vals.length=F.a.length->bindArgs fd ⟨vals,[]⟩=pure ((F.a.map D.G.a).zip vals))->
  (∀k∈F.a,k<D.G.N/\(fd.scope.names.lookup (D.G.a k)=some .local\/fd.scope.names.lookup (D.G.a k)=some .cell))->
  (∀x∈fd.scope.names,x.2= .cell->fd.scope.names.lookup x.1=some .cell)->kT D.K (.ref (D.c f))=true->xe D f F
structure gF (D:Dat):Prop where
 e:Ea D.T D.G D.K D.b D.c
 o:Mks D.T D.K D.c
 p:O5 D.T D.G
 j:∀c i,D.T.g c=some i->kT D.K (.ref c)=true
 b:∀x n,D.X.a x=some n->n<D.G.N/\D.G.a n=x/\(x==("__debug__":Str))=false/\(x==("__classdict__":Str))=false
 d:∃mg,D.b.Ns D.d mg/\(∀x v,D.X.b x=some v->(x==("__debug__":Str))=false/\∃u,mg x=some u/\VR D.b D.b [] v u)/\
  (∀x f,D.X.d x=some f->(x==("__debug__":Str))=false/\mg x=some (.ref (D.c f))/\kT D.K (.ref (D.c f))=true)/\
  (∀x c,D.X.c x=some c->(x==("__debug__":Str))=false/\mg x=some (.ref c))/\
  (∀x ks,D.X.e x=some ks->(x==("__debug__":Str))=false/\∃a,mg x=some (.ref a)/\LJ D.G.w D.b a ks)/\
  (mg "len"=none/\mg "str"=none/\mg "tuple"=none/\mg "range"=none/\mg "enumerate"=none)
 l:∃mb,D.b.Ns D.e mb/\mb "len"=some (.builtin "len")/\mb "str"=some (.type "str")/\mb "tuple"=some (.type "tuple")/\mb "range"=some (.type "range")/\mb "enumerate"=some (.type "enumerate")
 h:D.b.NoLimit
 m:∀k,k<D.G.N->D.G.a k≠(".0":Str)
 g:∀f F,D.T.h f=some F->xe D f F
noncomputable def Gr(sc:Sc)(env:Env):Prop:=∀x,(sc.lookup x=some .local->env.kindOf x=some .local)/\(sc.lookup x=some .cell->env.kindOf x=some .cell)/\
 (sc.lookup x=some .free->env.kindOf x=some .free\/env.kindOf x=some .cell)/\(sc.lookup x=some .globalImplicit->env.kindOf x=some .globalImplicit)
structure At (D:Dat) (sc:Sc) (env:Env) (loc:Loc) (ρ:fq) (μ:Hp) (s:az):Prop where
 d:eW D.G D.b s.heap ρ μ
 e:oU D.G D.b D.d D.e env loc s.heap ρ
 j:D.T.d<=s.toks
 i:Gr sc env
section
variable{D:Dat}{sc:Sc}{env:Env}{loc loc':Loc}{ρ ρ':fq}{μ aG:Hp}{s s':az}{A:da}{n:Nat}{cl:Call}
theorem At.c(a:At D sc env loc ρ μ s)(P:bT D.G D.b ρ s ρ' aG s'):At D sc env loc ρ' aG s':=⟨P.d,a.e.I a.d P,aD a.j P.Y,a.i⟩
theorem bT.M(L:gF D)(P:bT D.G D.b ρ s ρ' aG s'):D.K.In s'.heap:=L.e.b.keeps P.d.m
noncomputable def bB(D:Dat)(n:Nat)(cl:Call)(e:Expr):Prop:=∀(sc:Sc) (A:da) (env:Env) (loc:Loc) (ρ:fq) (μ:Hp) (s:az) (r:MV) (aG:Hp),fC (n+1) A->At D sc env loc ρ μ s->
 aO D.T cl (cE D.X sc e) loc μ=some (r,aG)->aI (aH D.a D.G.w) A (eval e env) (Ok D.G D.b ρ s aG r) no s
noncomputable def jf(D:Dat)(n:Nat)(cl:Call)(e:Expr):Prop:=∀(sc:Sc) (A:da) (env:Env) (loc:Loc) (ρ:fq) (μ:Hp) (s:az) (r:MV) (b:Bool) (aG:Hp),fC (n+1) A->At D sc env loc ρ μ s->
 aO D.T cl (cE D.X sc e) loc μ=some (r,aG)->ig r=some b->aI (aH D.a D.G.w) A (isTrue e env (eval e env)) (λc s'=>c=b/\yT D.G D.b ρ s aG s') no s
noncomputable def xd(D:Dat)(n:Nat)(cl:Call)(e:Expr):Prop:=bB D n cl e/\jf D n cl e
theorem Ok.C{Q:aA->az->Prop}(h:aI (aH D.a D.G.w) A m (Ok D.G D.b ρ s bF r) no s)(k:∀bu v s1,bT D.G D.b ρ s bu bF s1->VR D.b s1.heap bu r v->Q v s1):aI (aH D.a D.G.w) A m Q no s:=
 a_ h (λv s1 z=>by obtain⟨bu,P,q⟩:=z;exact k bu v s1 P q) λJ J z=>z
theorem Ok.d{m:Sem aA}{bu:fq}{bF:Hp}{s1:az}{r:MV}(P:bT D.G D.b ρ s bu bF s1)(h:aI (aH D.a D.G.w) A m (Ok D.G D.b bu s1 aG r) no s1):aI (aH D.a D.G.w) A m (Ok D.G D.b ρ s aG r) no s1:=
 a_ h (λJ J k=>Ok.c P k) λJ J z=>z
theorem bB.b(c:bB D n cl e)(R:fC (n+1) A)(a:At D sc env loc ρ μ s){Q:aA->az->Prop}(h:aO D.T cl (cE D.X sc e) loc μ=some (r,bF))
 (k:∀bu v s1,bT D.G D.b ρ s bu bF s1->VR D.b s1.heap bu r v->Q v s1):aI (aH D.a D.G.w) A (eval e env) Q no s:=Ok.C (c sc A env loc ρ μ s r bF R a h) k
noncomputable abbrev TQ(D:Dat)(ρ:fq)(s:az)(aG:Hp)(b:Bool):Bool->az->Prop:=λc s'=>c=b/\yT D.G D.b ρ s aG s'
theorem jf.d(f:jf D n cl e)(R:fC (n+1) A)(a:At D sc env loc ρ μ s){Q:Bool->az->Prop}(h:aO D.T cl (cE D.X sc e) loc μ=some (r,bF))(hb:ig r=some b)
  (k:∀bu s1,bT D.G D.b ρ s bu bF s1->Q b s1):aI (aH D.a D.G.w) A (isTrue e env (eval e env)) Q no s:=
 a_ (f sc A env loc ρ μ s r b bF R a h hb) (λc s1 z=>by obtain⟨rfl,bu,P⟩:=z;exact k bu s1 P) λJ J z=>z
theorem TQ.a{m:Sem Bool}{bu:fq}{bF:Hp}{s1:az}{b:Bool}(P:bT D.G D.b ρ s bu bF s1)(h:aI (aH D.a D.G.w) A m (TQ D bu s1 aG b) no s1):aI (aH D.a D.G.w) A m (TQ D ρ s aG b) no s1:=
 a_ h (λJ J k=>⟨k.1,yT.a P k.2⟩) λJ J z=>z
theorem lU(h:i8 e=false):mY (e::r) env=(false,eval e env)::mY r env:=by
 cases e<;>first|rfl|cases h
theorem kq(h:(e::r).any i8=false):i8 e=false/\r.any i8=false:=iB.mp h
theorem iR:∀{a:List Expr},a.any i8=false->(FP pos (mY a env)).any (·.1)=false
 |[],_=>rfl
 |e::r,h=>by
  exact(lU (kq h).1)▸(iR (kq h).2)
theorem qa{Q:List aA->az->Prop}:∀{g:List Expr} {vs:List MV} {ρ:fq} {μ:Hp} {s:az} {aG:Hp},(∀e∈g,bB D n cl e)->g.any i8=false->fC (n+1) A->At D sc env loc ρ μ s->gX D.T cl (zo D.X sc g) loc μ=some (vs,aG)->
  (∀ρ' vals s',bT D.G D.b ρ s ρ' aG s'->dw D.b s'.heap ρ' vs vals->Q vals s')->aI (aH D.a D.G.w) A (spliced (FP pos (mY g env))) Q no s:=by
 intro g
 induction g generalizing Q with
 |nil=>
  intro vs ρ μ s aG _ _ R a h k
  cases h
  exact Wq (k ρ [] s (bT.l a.d) dw.B)
 |cons e r I=>
  intro vs ρ μ s aG m p R a h k
  refine om h λv bF z h=>om h λE H t h=>?_
  cases h
  exact(lU (kq p).1)▸(wZ ((m e (.head _)).b R a z λbu F s1 i x=>I (λe q=>m e (.tail _ q)) (kq p).2 R (a.c i) t λu vals s2 j C=>k u _ s2 (i.f j) (dw.o (j.y i.d x) C)))
theorem sP{Q:Args->az->Prop}(c:trees.any (·.1)=false)(h:aI (aH D.a D.G.w) A (spliced trees) (λvs s'=>Q ⟨vs,[]⟩ s') no s):
  aI (aH D.a D.G.w) A (evalArgs f true trees []) Q no s:=by
 cases trees with
 |nil=>
  refine aw (a_ h (λvs s' h'=>?_) λJ J x=>x)
  refine bG ?_
  exact aw (aF (aw (aF (aF h'))))
 |cons t r=>
  obtain⟨b,x⟩:=t
  simp only[List.any_cons,iB] at c
  obtain⟨rfl,c⟩:=c
  exact evalArgs_plain h
inductive pA (K:Frag):aA->Prop
 |d (a:cK) (h:kT K (.ref a)=true):pA K (.ref a)
 |b (id:String):pA K (.builtin id)
 |c (T:String):pA K (.type T)
theorem i5{Q:aA->az->Prop}(j:pA D.K f)(e:trees.any (·.1)=false)
  (h:aI (aH D.a D.G.w) A (spliced trees) (λvs g=>D.K.In g.heap/\aI (aH D.a D.G.w) A (call f (first++vs)) Q no g) no s):aI (aH D.a D.G.w) A (Wm pos f first trees []) Q no s:=by
 cases j with
 |d a i=>exact callWith_of (by rw[e];rfl) (keeps_K i) (sP e h)
 |b id=>exact callWith_builtin e (sP e (a_ h (λJ J k=>k.2) λJ J z=>z))
 |c T=>exact PyProof.Rows.callWith_type e (sP e (a_ h (λJ J k=>k.2) λJ J z=>z))
theorem xC{Q:aA->az->Prop}(h:wA o=true)(hm:aI (aH D.a D.G.w) A m Q no s):aI (aH D.a D.G.w) A (attributeBase o a env m) Q no s:=by
 cases o with
 |Call f args ks p=>cases f with
  |Name x q=>cases args with
   |nil=>cases ks with
    |nil=>exact FY (decide_eq_true (by rw[show(x !="super")=true from h];rfl)) hm
    |cons _ _=>exact hm
   |cons _ _=>exact hm
  |_=>exact hm
 |_=>exact hm
theorem pO{Q:aA->az->Prop}{c:Str->Option aA}(a:At D sc env loc ρ μ s)(j:kJ sc x=true)(k:D.b.Ns D.d c)(g:c x=some v)(f:(x==("__debug__":Str))=false)(h:Q v s):
  aI (aH D.a D.G.w) A (eval (.Name x pos) env) Q no s:=by
 refine Wf a.e.i ((a.i x).2.2.2 (beq_iff_eq.mp j)) ?_ f
 exact loadGlobal_global (a.e.p▸(k.keeps a.d.m)) g h
theorem HH{Q:aA->az->Prop}{c f:Str->Option aA}(a:At D sc env loc ρ μ s)(l:kJ sc x=true)(o:D.b.Ns D.d c)(k:c x=none)(hb:D.b.Ns D.e f)(j:f x=some v)(g:(x==("__debug__":Str))=false)(h:Q v s):
  aI (aH D.a D.G.w) A (eval (.Name x pos) env) Q no s:=by
 refine Wf a.e.i ((a.i x).2.2.2 (beq_iff_eq.mp l)) ?_ g
 exact loadGlobal_builtin (a.e.p▸(o.keeps a.d.m)) k (a.e.E▸(hb.keeps a.d.m)) j h
theorem VR.S(q:VR D.b D.b [] v u)(k:∀b o,D.b.get? b=some o->h.get? b=some o)(ρ:fq):VR D.b h ρ v u:=
 VR.C (λa vs g=>k _ _ g) (λn p e=>by simp at e) v u q
theorem ES(a:At D sc env loc ρ μ s)(h:Jk sc x=true):env.kindOf x=some .local\/env.kindOf x=some .cell\/env.kindOf x=some .free:=by
 unfold Jk at h
 refine lu (a.i x) λb c d J=>?_
 split at h
 ·exact .inl (b (by assumption))
 ·exact .inr (.inl (c (by assumption)))
 ·rcases d (by assumption) with k|k
  ·exact .inr (.inr k)
  ·exact .inr (.inl k)
 ·cases h
theorem Vr(L:gF D):bB D n cl (.Name x pos):=by
 intro sc A env loc ρ μ s r aG R a h
 refine iEm h (λj h=>Bf h λk i h=>?_) λJ h=>uw h λw h=>Bf h λv c h=>?_
 ·refine mm h λv c e=>?_
  refine E9 e ?_
  refine lu (L.b x k i) λC l t o=>?_
  subst l
  exact JL a.e a.d (ES a j) c t o
 ·refine qZ h ?_
  refine pL L.d λB z y J=>?_
  obtain⟨g,u,p,q⟩:=y x _ c
  exact pO a w z p g (Ok.f a.d (q.S a.d.m ρ))
theorem Me:bB D n cl (.Constant c k pos):=by
 intro sc A env loc ρ μ s r aG R a h
 cases c<;>cases h
 ·exact wpAny_Constant_none (Ok.f a.d rfl)
 ·exact wpAny_Constant_bool (Ok.B a.d _ s.toks (aC _))
 ·exact wpAny_Constant_int (Ok.j a.d _ _ _ (bc _ _))
 ·exact uL (Ok.u a.d _ s.toks (s.toks+1) (bc _ _))
theorem abM(j:bB D n cl l)(q:bB D n cl r):bB D n cl (.BinOp l op r pos):=by
 intro sc A env loc ρ μ s v aG R a h
 refine Bf h λo i h=>om h λx bF p h=>om h λy B k h=>?_
 exact wpAny_BinOp (j.b R a p λbu w s1 e m=>q.b R (a.c e) k λu z s2 g t=>Ok.d (e.f g) (Ef i h g.d (g.y e.d m) t))
theorem pj(f:bB D n cl e)(j:∀whole,isTrue e env whole=(do let v<-whole;standAt e.pos;holding [v] (truthy v))):
  ∀(sc:Sc) (A:da) (loc:Loc) (ρ:fq) (μ:Hp) (s:az) (r:MV) (b:Bool) (aG:Hp),fC (n+1) A->At D sc env loc ρ μ s->
  aO D.T cl (cE D.X sc e) loc μ=some (r,aG)->ig r=some b->aI (aH D.a D.G.w) A (isTrue e env (eval e env)) (λc s'=>c=b/\yT D.G D.b ρ s aG s') no s:=by
 intro sc A loc ρ μ s r b aG R a h hb
 refine isTrue_plain (f.b R a h λbu v s1 d g=>a_ (rh hb g) (λc s' k=>?_) λJ J z=>z) (j _)
 obtain⟨rfl,t,i,rfl⟩:=k
 exact⟨rfl,bu,d.u t i⟩
theorem D0(j:bB D n cl x):bB D n cl (.UnaryOp op x pos):=by
 intro sc A env loc ρ μ s v aG R a h
 cases op with
 |Not=>
  refine om h λu bF g h=>mm h λb hb e=>?_
  refine E9 e ?_
  exact wpAny_UnaryOp (j.b R a g λbu k s1 c f=>Ok.d c (NQ hb c.d f))
 |USub=>
  refine om h λu bF g h=>im h λi e h=>?_
  subst e;refine qZ h ?_
  exact wpAny_UnaryOp (j.b R a g λbu k s1 c f=>Ok.d c (NK c.d f))
 |_=>exact stk h
theorem OE(f:xd D n cl x):jf D n cl (.UnaryOp op x pos):=by
 intro sc A env loc ρ μ s v b aG R a h hb
 cases op
 case Not=>
  refine om h λu bF j h=>mm h λc i e=>?_
  cases e;refine kf hb ?_
  exact isTrue_not (f.2.d R a j i λbu s1 g=>⟨rfl,bu,g⟩)
 all_goals exact pj (D0 f.1) (λJ=>rfl) sc A loc ρ μ s v b aG R a h hb
theorem Nc(f:jf D n cl t)(i:bB D n cl x)(g:bB D n cl y):bB D n cl (.IfExp t x y pos):=by
 intro sc A env loc ρ μ s v aG R a h
 refine om h λu bF e h=>tm h (λhb h=>?_) λhb h=>?_
 ·exact wpAny_IfExp (f.d R a e hb λbu s1 b=>Ok.d b (i sc A env loc bu bF s1 v aG R (a.c b) h))
 ·exact wpAny_IfExp (f.d R a e hb λbu s1 b=>Ok.d b (g sc A env loc bu bF s1 v aG R (a.c b) h))
theorem Nd(i:jf D n cl t)(k:jf D n cl x)(j:jf D n cl y):jf D n cl (.IfExp t x y pos):=by
 intro sc A env loc ρ μ s v b aG R a h hb
 refine om h λu bF g h=>tm h (λf h=>?_) λf h=>?_
 ·exact isTrue_IfExp (i.d R a g f λbu s1 e=>TQ.a e (k sc A env loc bu bF s1 v b aG R (a.c e) h hb))
 ·exact isTrue_IfExp (i.d R a g f λbu s1 e=>TQ.a e (j sc A env loc bu bF s1 v b aG R (a.c e) h hb))
end
end
section
open PySem PySem.Calls PySem.W PyProof.Rows
open PySem Builtin
section
variable{D:Dat}{sc:Sc}{env:Env}{loc loc':Loc}{ρ ρ':fq}{μ aG:Hp}{s s':az}{A:da}{n:Nat}{cl:Call}
theorem qd(S:eW D.G D.b s.heap ρ μ){Q:Bool->az->Prop}(e:ig x=some b)(f:VR D.b s.heap ρ x v)(k:∀s',bT D.G D.b ρ s ρ μ s'->Q b s'):aI (aH D.a D.G.w) A (truthy v) Q no s:=
 a_ (rh e f) (λc s' z=>by obtain⟨rfl,t,d,rfl⟩:=z;exact k _ ((bT.l S).u t d)) λJ J z=>z
theorem O7:∀{k:List Expr},(∀e∈k,bB D n cl e)->bB D n cl (.BoolOp .And k pos)
 |[],_=>λsc A env loc ρ μ s v aG R a h=>stk h
 |[e],ih=>λsc A env loc ρ μ s v aG R a h=>BoolOp_one (ih e (.head _) sc A env loc ρ μ s v aG R a h)
 |e::e'::r,ih=>λsc A env loc ρ μ s v aG R a h=>by
  refine om h λx bF l h=>BoolOp_and ((ih e (.head _)).b R a l λbu o s1 g j=>tm h (λhb h=>?_) λhb h=>?_)
  ·exact qd g.d hb j λs2 i=>Ok.d (g.f i) (O7 (λx m=>ih x (.tail _ m)) sc A env loc bu bF s2 v aG R (a.c (g.f i)) h)
  ·refine qZ h ?_
   exact qd g.d hb j λs2 i=>⟨bu,g.f i,i.y g.d j⟩
theorem acS:∀{k:List Expr},(∀e∈k,bB D n cl e)->bB D n cl (.BoolOp .Or k pos)
 |[],_=>λsc A env loc ρ μ s v aG R a h=>stk h
 |[e],ih=>λsc A env loc ρ μ s v aG R a h=>BoolOp_one (ih e (.head _) sc A env loc ρ μ s v aG R a h)
 |e::e'::r,ih=>λsc A env loc ρ μ s v aG R a h=>by
  refine om h λx bF l h=>BoolOp_or ((ih e (.head _)).b R a l λbu o s1 g j=>tm h (λhb h=>?_) λhb h=>?_)
  ·refine qZ h ?_
   exact qd g.d hb j λs2 i=>⟨bu,g.f i,i.y g.d j⟩
  ·exact qd g.d hb j λs2 i=>Ok.d (g.f i) (acS (λx m=>ih x (.tail _ m)) sc A env loc bu bF s2 v aG R (a.c (g.f i)) h)
theorem O8:∀{j:List Expr},(∀e∈j,jf D n cl e)->jf D n cl (.BoolOp .And j pos)
 |[],_=>λsc A env loc ρ μ s v b aG R a h hb=>stk h
 |[e],ih=>λsc A env loc ρ μ s v b aG R a h hb=>isTrue_and ((ih e (.head _)).d R a h hb λbu s1 P=>by
  cases b
  ·exact⟨rfl,bu,P⟩
  ·exact isTrue_and_nil ⟨rfl,bu,P⟩)
 |e::e'::r,ih=>λsc A env loc ρ μ s v b aG R a h hb=>by
  refine om h λx bF i h=>tm h (λg h=>?_) λg h=>?_
  ·exact isTrue_and ((ih e (.head _)).d R a i g λbu s1 f=>TQ.a f (O8 (pos:=pos) (λx k=>ih x (.tail _ k)) sc A env loc bu bF s1 v b aG R (a.c f) h hb))
  ·cases h
   cases g.symm.trans hb
   exact isTrue_and ((ih e (.head _)).d R a i g λbu s1 f=>⟨rfl,bu,f⟩)
theorem acT:∀{j:List Expr},(∀e∈j,jf D n cl e)->jf D n cl (.BoolOp .Or j pos)
 |[],_=>λsc A env loc ρ μ s v b aG R a h hb=>stk h
 |[e],ih=>λsc A env loc ρ μ s v b aG R a h hb=>isTrue_or ((ih e (.head _)).d R a h hb λbu s1 P=>by
  cases b
  ·exact isTrue_or_nil ⟨rfl,bu,P⟩
  ·exact⟨rfl,bu,P⟩)
 |e::e'::r,ih=>λsc A env loc ρ μ s v b aG R a h hb=>by
  refine om h λx bF i h=>tm h (λg h=>?_) λg h=>?_
  ·cases h
   cases g.symm.trans hb
   exact isTrue_or ((ih e (.head _)).d R a i g λbu s1 f=>⟨rfl,bu,f⟩)
  ·exact isTrue_or ((ih e (.head _)).d R a i g λbu s1 f=>TQ.a f (acT (pos:=pos) (λx k=>ih x (.tail _ k)) sc A env loc bu bF s1 v b aG R (a.c f) h hb))
theorem gG.d(S:eW D.G D.b s.heap ρ μ)(h:gG s x v s'):v=x/\bT D.G D.b ρ s ρ μ s':=by
 obtain⟨rfl,t,e,rfl⟩:=h
 exact⟨rfl,(bT.l S).u t e⟩
theorem Kt{a:Prop}(h:Ks X sc e=some ks)(k:∀x pos,e= .Name x pos->kJ sc x=true->X.e x=some ks->a):a:=by
 cases e with
 |Name x pos=>exact gm h λb c=>k x pos rfl b c
 |_=>cases h
theorem mA{Q:aA->az->Prop}(S:eW D.G D.b s.heap ρ μ)(h:aI (aH D.a D.G.w) A m (gG s x) no s)(k:∀s',bT D.G D.b ρ s ρ μ s'->Q x s'):aI (aH D.a D.G.w) A m Q no s:=
 a_ h (λc s' z=>by obtain⟨rfl,P⟩:=gG.d S z;exact k s' P) λJ J z=>z
theorem vN(P:bT D.G D.b ρ s ρ' aG s'):Ok D.G D.b ρ s aG (.h b) (.bool b) s':=⟨ρ',P,rfl⟩
theorem Ua{a:Prop}(h:aO T cl (match Ks X sc r with|some ks=>bE (Nf op) λb=>ME.z b ks (cE X sc l)|none=>bE (Eh op) λo=>ME.q o (cE X sc l) (cE X sc r)) loc μ=some q)
  (g:∀ks,Ks X sc r=some ks->aO T cl (bE (Nf op) λb=>ME.z b ks (cE X sc l)) loc μ=some q->a) (c:aO T cl (bE (Eh op) λo=>ME.q o (cE X sc l) (cE X sc r)) loc μ=some q->a):a:=by
 revert h g
 generalize Ks X sc r=o
 intro h g
 cases o with
 |some ks=>exact g ks rfl h
 |none=>exact c h
theorem Jf{P:CmpOp->Bool->Prop}(h:Nf op=some ng)(k1:P .In false)(k2:P .NotIn true):P op ng:=by cases op<;>cases h<;>assumption
theorem uZ(L:gF D){F:Prop}(E:bB D n cl l)(Z:bB D n cl r)(R:fC (n+1) A)(a:At D sc env loc ρ μ s)(h:aO D.T cl (cE D.X sc (.Compare l [op] [r] pos)) loc μ=some (v,aG))
  (k:∀b,v= .h b->LA [op] [r]=false->(∀Q:aA->az->Prop,(∀ρ' s',bT D.G D.b ρ s ρ' aG s'->Q (.bool b) s')->aI (aH D.a D.G.w) A (eval l env) (λv s1=>aI (aH D.a D.G.w) A (eval r env) (λu s1=>aI (aH D.a D.G.w) A (fT op v u) Q no s1) no s1) no s)->F):F:=by
 refine uw h λhm h=>Ua h (λks S h=>Bf h λH hn h=>om h λx bF q h=>im h λi hi h=>s2 h λm t=>k _ m.symm hm λQ z=>?_) λh=>Bf h λo Y h=>om h λx bF q h=>om h λy eh N h=>mm h λb hb e=>p2i e λm t=>k b m.symm hm λQ z=>E.b R a q λbu C s1 g p=>Z.b R (a.c g) N λV v2 s2 j q2=>mA j.d (lH Y hb j.d (j.y g.d p) q2 (R.u (by decide))) λs3 U=>z V s3 (t▸((g.f j).f U))
 refine E.b R a (t▸hi▸q) λbu C s1 g p=>Kt S λnm pos e O B=>?_
 refine Ew L.d λmg W J J J hs J=>?_
 obtain⟨I,ad,hv,M⟩:=hs nm ks B
 refine e▸pO (a.c g) O W hv I ?_
 have w:=Jg (A:=A) (prog:=D.a) g.d M p (R.u (by decide))
 exact Jf (P:=λop H=>(∀ρ' s',bT D.G D.b ρ s ρ' aG s'->Q (.bool (ks.contains i !=H)) s')->aI (aH D.a D.G.w) A (fT op C (.ref ad)) Q no s1) hn (λz=>mA g.d w.1 λs' j=>(show(ks.contains i !=false)=ks.contains i from Bool.xor_false _)▸z bu s' (g.f j)) (λz=>mA g.d w.2 λs' j=>(show(ks.contains i !=true)= !ks.contains i from Bool.xor_true _)▸z bu s' (g.f j)) z
theorem Ug(L:gF D)(c:bB D n cl l)(d:bB D n cl r):bB D n cl (.Compare l [op] [r] pos):=by
 intro sc A env loc ρ μ s v aG R a h
 refine uZ L c d R a h λb e hm k=>?_
 refine fJ e ?_
 exact wpAny_Compare1 (k _ λρ' s' P=>vN P) (by simpa[LA] using hm)
theorem Uh(L:gF D)(c:bB D n cl l)(d:bB D n cl r):jf D n cl (.Compare l [op] [r] pos):=by
 intro sc A env loc ρ μ s v f aG R a h hb
 refine uZ L c d R a h λb e hm k=>?_
 subst e;refine kf hb ?_
 exact wpAny_isTrue_Compare1 (k _ λρ' s' P=>eV ⟨rfl,ρ',P⟩) (by simpa[LA] using hm)
theorem Ui(E:bB D n cl l)(F:bB D n cl r)(H:bB D n cl r'):bB D n cl (.Compare l [op,RK] [r,r'] pos):=by
 intro sc A env loc ρ μ s v aG R a h
 refine uw h λhm h=>Bf h λo B h=>Bf h λU m h=>om h λx bF w h=>om h λy Q q h=>bm h λb hb h=>?_
 refine Compare_chain (E.b R a w λbu O s1 k t=>chain_link (F.b R (a.c k) q λN S s2 g p=>mA g.d (lH B hb g.d (g.y k.d t) p (R.u (by decide))) λV j=>eV ?_)) hm
 have P:=(k.f g).f j
 cases b with
 |false=>refine qZ h ?_;exact vN P
 |true=>
  refine om h λz mP G h=>mm h λc J e=>?_
  refine E9 e ?_
  exact chain_last (H.b R (a.c P) G λM T L i C=>mA i.d (lH m J i.d (i.y j.d (j.y g.d p)) C (R.u (by decide))) λW I=>vN ((P.f i).f I))
theorem Uj(G:bB D n cl l)(H:bB D n cl r)(J:bB D n cl r'):jf D n cl (.Compare l [op,RK] [r,r'] pos):=by
 intro sc A env loc ρ μ s v O aG R a h hb'
 refine uw h λhm h=>Bf h λo E h=>Bf h λV m h=>om h λx bF C h=>om h λy S q h=>bm h λb hb h=>?_
 refine isTrue_chain (G.b R a C λbu Q s1 k B=>test_link (H.b R (a.c k) q λw T s2 g p=>mA g.d (lH E hb g.d (g.y k.d B) p (R.u (by decide))) λW j=>eV ?_)) hm
 have P:=(k.f g).f j
 cases b with
 |false=>cases h;refine kf hb' ?_;exact⟨rfl,w,P⟩
 |true=>
  refine om h λz mP I h=>mm h λc M e=>?_
  cases e;refine kf hb' ?_
  exact test_last (J.b R (a.c P) I λt U N i F=>mA i.d (lH m M i.d (i.y j.d (j.y g.d p)) F (R.u (by decide))) λX L=>eV ⟨rfl,t,(P.f i).f L⟩)
theorem Vh(i:∀e∈es,bB D n cl e):bB D n cl (.List es pos):=by
 intro sc A env loc ρ μ s v aG R a h
 refine uw h λk h=>om h λvs bF j h=>gm h λhz h=>?_
 refine qZ h ?_
 exact wpAny_List (qa i k R a j λbu vals s1 b f=>⟨f.g▸d_▸(QU hz),Ok.c b (Ok.y b.d f _ (aC _))⟩)
theorem OB(j:∀e∈es,bB D n cl e):bB D n cl (.Tuple es k pos):=by
 intro sc A env loc ρ μ s v aG R a h
 refine uw h λm h=>om h λvs bF l h=>gm h λhz h=>?_
 refine qZ h ?_
 refine wpAny_Tuple (qa j m R a l λbu vals s1 f i=>⟨i.g▸d_▸(QU hz),Ok.c f ?_⟩)
 have kp:∀b o,s1.heap.get? b=some o->(s1.heap.push (cn vals)).get? b=some o:=λb o e=>bg _ e
 refine⟨bu,bT.B f.d kp s1.toks (aC _),?_⟩
 exact⟨_,vals,rfl,bU _ rfl,dw.t (λa vs g=>kp _ _ g) (λJ J e=>e) _ _ i⟩
end
end
section
open PySem PySem.Calls PySem.W PyProof.Rows
open PySem Builtin
section
variable{D:Dat}{sc:Sc}{env:Env}{loc loc':Loc}{ρ ρ':fq}{μ aG:Hp}{s s':az}{A:da}{n:Nat}{cl:Call}
theorem Jp{a:Prop}(h:acy e=some v)(k:∀x i p,e= .Constant (.str x) i p->v= .g x.cps.toList->a):a:=by
 cases e with
 |Constant c i p=>cases c with
  |str x=>cases h;exact k x i p rfl rfl
  |_=>cases h
 |_=>cases h
theorem mD{b:Prop}(h:nY (o::r)=some l)(g:∀x k p a,o=some (.Constant (.str x) k p)->nY r=some a->l= .g x.cps.toList::a->b):b:=
 bm h λk j h=>mm h λa d e=>bm j λt m f=>Jp f λx i p q c=>g x i p a (m.trans (congrArg some q)) d (e▸c▸rfl)
theorem rK:∀{ks:List (Option Expr)} {l:List MV},nY ks=some l->ks.all (·.isSome)=true/\ks.length=l.length
 |[],l,h=>by refine kf h ?_;exact⟨rfl,rfl⟩
 |o::r,l,h=>mD h λx k p c e a b=>by
  subst e b
  have z:=rK a
  exact⟨z.1,congrArg Nat.succ z.2⟩
noncomputable def D9(hb h:dO)(ρ:fq):List MV->List MV->List (aA×aA)->Prop
 |[],[],ps=>ps=[]
 |k::ks,v::vs,ps=>∃p r,ps=p::r/\VR hb h ρ k p.1/\VR hb h ρ v p.2/\D9 hb h ρ ks vs r
 |_,_,_=>False
theorem D9.a(S:eW D.G D.b s.heap ρ μ)(P:bT D.G D.b ρ s ρ' aG s'):∀{ks vs:List MV} {ps:List (aA×aA)},D9 D.b s.heap ρ ks vs ps->D9 D.b s'.heap ρ' ks vs ps
 |[],[],ps,h=>h
 |k::ks,v::vs,ps,h=>by
  refine pM h λp r e c d f=>?_
  exact⟨p,r,e,P.y S c,P.y S d,D9.a S P f⟩
 |[],_::_,_,h=>h
 |_::_,[],_,h=>h
set_option tactic.hygienic true in
theorem E_{Q:List (aA×aA)->az->Prop}:∀{ks:List (Option Expr)} {g:List Expr} {l vs:List MV} {ρ:fq} {μ:Hp} {s:az} {aG:Hp},(∀e∈g,bB D n cl e)->nY ks=some l->g.length=l.length->fC (n+1) A->At D sc env loc ρ μ s->gX D.T cl (zo D.X sc g) loc μ=some (vs,aG)->
  (∀ρ' ps s',bT D.G D.b ρ s ρ' aG s'->D9 D.b s'.heap ρ' l vs ps->Q ps s')->aI (aH D.a D.G.w) A (evalPairs (pairTrees ks g env pos)) Q no s:=by
 intro ks
 induction ks generalizing Q with
 |nil=>
  intro g l vs ρ μ s aG _ j r R a h k
  cases g with
  |cons _ _=>cases j;cases r
  |nil=>
  cases j;cases h
  exact pairTrees_nil_walk (k ρ [] s (bT.l a.d) rfl)
 |cons o ks I=>
  intro g l vs ρ μ s aG B j r R a h k
  cases g with
  |nil=>exact mD j λJ J J J J J e=>by subst e;cases r
  |cons e g=>
  refine mD j λx i p V M t L=>om h λv bF H h=>om h λP U C h=>?_
  subst M L;cases h
  have q:bT D.G D.b ρ s ρ μ {s with toks:=s.toks+1}:=(bT.l a.d).u _ (cN _)
  exact pairTrees_cons_walk (uL ((B e (.head _)).b R (a.c q) H λbu S s1 m F=>I (λe N=>B e (.tail _ N)) t (mR r) R ((a.c q).c m) C λE ps s2 z O=>
   k E _ s2 ((q.f m).f z) ⟨_,_,rfl,z.y m.d (m.y q.d (q.y a.d (⟨s.toks,rfl⟩))),z.y m.d F,O⟩))
theorem Ic(l:List (MV×MV))(k v:MV):(iU l k v).length<=l.length+1:=by
 induction l with
 |nil=>simp[iU]
 |cons p l b=>obtain⟨a,x⟩:=p;unfold iU;split<;>simp<;>exact GN b
theorem wO(M:A.units+80<iz):∀{ks vs:List MV} {ps:List (aA×aA)} {l o:List (MV×MV)} {ρ:fq} {μ:Hp} {s:az},wz ks vs l=some o->D9 D.b s.heap ρ ks vs ps->eW D.G D.b s.heap ρ μ->μ[m]?=some (.b l)->ρ[m]?=some p->
  l.length+ks.length<=1000->aI (aH D.a D.G.w) A (storeAll p.1 ps) (λJ s'=>∃ρ',bT D.G D.b ρ s ρ' (μ.set m (.b o)) s') no s:=by
 intro ks
 induction ks with
 |nil=>
  intro vs ps l o ρ μ s h q S hm j hz
  cases vs with
  |cons _ _=>cases h
  |nil=>
  refine kf h ?_
  rw[show ps=[] from q]
  unfold storeAll
  rw[xc]
  refine aF ⟨ρ,?_⟩
  have e:μ.set m (.b l)=μ:=by
   apply OM
   intro i
   by_cases t:i=m
   ·refine fJ t ?_;rw[cM (ax.mp hm).1,hm]
   ·rw[cX (cH t)]
  rw[e]
  exact bT.l S
 |cons k ks I=>
  intro vs ps l o ρ μ s h q S hm j hz
  cases vs with
  |nil=>cases h
  |cons v vs=>
  refine pM q λz0 r y C Q N=>?_
  obtain⟨P,T⟩:=z0
  refine fJ y ?_
  refine gm h λF h=>?_
  ·unfold storeAll
   rw[oy]
   obtain⟨R,x,L,q,g,E⟩:=S.H m _ p hm j
   refine aw (aw (a_ ((⟨S,hm,j,R,x,g,E,F,C⟩:rv D.G D.b ρ μ s m l p L q k P).H Q (by unfold bA;simp at hz;exact aaR hz) (Hg M)) (λJ s1 k1=>aF ?_) λJ J z=>z))
   obtain⟨bu,c⟩:=k1
   have z:=I (s:=s1) (ρ:=bu) (μ:=μ.set m (.b (iU l k v))) h (D9.a S c N) c.d (cM ((ax.mp hm).1)) (c.O m p j) (by have:=Ic l k v;simp at hz;exact aaQ hz this)
   rw[jy] at z
   exact a_ z (λJ s2 k2=>by refine dG k2 λB u=>?_;exact⟨B,c.f u⟩) λJ J z=>z
theorem gV(S:eW D.G D.b s.heap ρ μ)(f:s.heap.get? a=none):Off ρ a:=λp e=>by
 refine nc (S.X e) λg o2 c d=>?_
 refine⟨?_,?_⟩
 ·rintro rfl;rw[f] at c;cases c
 ·rintro rfl;rw[f] at d;cases d
theorem D9.b:∀{ks vs:List MV} {ps:List (aA×aA)},D9 D.b h ρ ks vs ps->D9 D.b h (ρ++[p]) ks vs ps
 |[],[],ps,h=>h
 |k::ks,v::vs,ps,h=>by
  refine pM h λp r e c d f=>?_
  exact⟨p,r,e,VR.C (λJ J g=>g) (λn p e=>kX n p e) _ _ c,VR.C (λJ J g=>g) (λn p e=>kX n p e) _ _ d,D9.b f⟩
 |[],_::_,_,h=>h
 |_::_,[],_,h=>h
theorem Ut(P:∀e∈es,bB D n cl e):bB D n cl (.Dict ks es pos):=by
 intro sc A env loc ρ μ s v aG R a h
 refine Bf h λl M h=>uw h λhb h=>om h λvs bF O h=>bm h λd L h=>?_
 refine qZ h ?_
 obtain⟨F,g⟩:=aE.mp hb
 have F:=aW F
 have g:=aK g
 obtain⟨k1,k2⟩:=rK M
 have kp:∀b o,s.heap.get? b=some o->(s.heap.push kS).get? b=some o:=λb o e=>bg _ e
 have j:=fF s.heap
 cases ks with
 |nil=>
  obtain rfl:l=[]:=eB.mp k2.symm
  obtain rfl:es=[]:=eB.mp g
  cases O;refine kf L ?_
  rw[arm_eval_Dict]
  refine aw (du ?_)
  show aI _ _ newDict _ _ s
  refine wpAny_newObj_type ?_
  exact⟨_,bT.V (x:= .b []) (p:=(s.heap.objs.size,s.heap.objs.size)) a.d kp j j ⟨rfl,⟨lF,1,by decide,λJ h=>nomatch h⟩,[],0,bU _ rfl,ER.t⟩ s.toks (aC _),AB a.d.u⟩
 |cons o r=>
  have N:bT D.G D.b ρ s ρ μ {s with heap:=s.heap.push kS}:=bT.B a.d kp s.toks (aC _)
  refine wpAny_Dict_any k1 (k2▸g▸rfl) nofun (k2▸F) (E_ P M g R (a.c N) O λbu ps s1 q S=>?_)
  have H:=(((N.f q).w a.d (W:=λJ=>False)).aa a.d (x:= .b []) j (q.I (s:={s with heap:=s.heap.push kS}) (bU _ rfl) (gV a.d j)) ⟨rfl,⟨lF,1,by decide,λJ h=>nomatch h⟩,[],0,q.C _ _ (bU _ rfl) (gV a.d j),ER.t⟩).Y λJ J J h=>h
  have i:=q.d.u
  refine a_ (wO (m:=bF.length) (p:=(s.heap.objs.size,s.heap.objs.size)) (R.u (by decide)) L (D9.b S) H.d (by simp) (by rw[<-i];simp) (by simp;exact TY F g k2)) (λJ s2 k=>?_) λJ J z=>z
  obtain⟨Q,E⟩:=k
  rw[oR _ _ (aC _)] at E
  simp only[FL,List.set_cons_zero] at E
  refine⟨Q,H.f E,E.y H.d ?_⟩
  exact⟨(s.heap.objs.size,s.heap.objs.size),rfl,by rw[<-i];simp⟩
theorem T8(L:gF D)(i:bB D n cl o):bB D n cl (.Attribute o name pos):=by
 intro sc A env loc ρ μ s v aG R a h
 refine uw h λhb h=>Bf h λk g h=>om h λx bF l h=>mm h λr m e=>?_
 refine E9 e ?_
 refine lu (L.b name k g) λJ p J J=>?_
 rw[arm_eval_Attribute]
 refine aw (xC hb (i.b R a l λbu q s1 f j=>aw (du (aw (bG ?_)))))
 exact p▸(a_ (xU L.e m f.d j) (λt s2 k=>aw (wpAny_letTemporaryGo (aF (Ok.c f k)))) λJ J z=>z)
theorem Ow(h:ml i=false)(v u:aA):r7 i false v u=OW [v,u] (D8 v u):=by
 cases i<;>first|rfl|cases h
theorem ads(k:ml i=false)(l:bB D n cl o)(z:bB D n cl i):bB D n cl (.Subscript o i pos):=by
 intro sc A env loc ρ μ s v aG R a h
 refine cEm h (λh' J=>by rw[k] at h';cases h') λJ h=>om h λx bF q h=>om h λy F m h=>mm h λr t e=>?_
 refine E9 e ?_
 exact Subscript_ (l.b R a q λbu C s1 g p=>z.b R (a.c g) m λB E s2 j w=>Ok.d (g.f j) (KJ t j.d (j.y g.d p) w (R.u (by decide)) (Ow k)))
noncomputable def LH(D:Dat)(n:Nat)(cl:Call):Option Expr->Prop
 |none=>True
 |some e=>bB D n cl e
theorem yw(f:LH D n cl x)(R:fC (n+1) A)(a:At D sc env loc ρ μ s){Q:aA->az->Prop}(h:Bt D.T cl (HJ D.X sc x) loc μ=some (r,aG))
  (k:∀ρ' v s',bT D.G D.b ρ s ρ' aG s'->O6 D.b s'.heap ρ' r v->Q v s'):aI (aH D.a D.G.w) A (evalPart x env) Q no s:=by
 cases x with
 |none=>cases h;rw[Lf];exact aF (k ρ .none s (bT.l a.d) rfl)
 |some e=>
  refine om h λv bF c h=>?_
  cases h
  rw[evalPart_some]
  exact bB.b f R a c k
theorem O6.a(S:eW D.G D.b s.heap ρ μ)(P:bT D.G D.b ρ s ρ' aG s')(q:O6 D.b s.heap ρ r v):O6 D.b s'.heap ρ' r v:=by
 cases r with
 |none=>exact q
 |some x=>exact P.y S (x:=x) q
theorem Og{o:Expr}{lo j:Option Expr}{p pos:Pos}(t:bB D n cl o)(w:LH D n cl lo)(B:LH D n cl j):bB D n cl (.Subscript o (.Slice lo j none p) pos):=by
 intro sc A env loc ρ μ s v aG R a h
 refine om h λx bF q h=>om h λy L l h=>om h λz mP C h=>?_
 refine Subscript_ (t.b R a q λbu I s1 i m=>wpAny_Slice (yw w R (a.c i) l λH M s2 e E=>yw B R ((a.c i).c e) C λF G N g r=>?_))
 rw[Lf]
 exact aF (a_ (Am h g.d (g.y e.d (e.y i.d m)) (O6.a e.d g E) r λv u=>rfl) (λJ J k=>Ok.c ((i.f e).f g) k) λJ J z=>z)
end
end
section
open PySem PySem.Calls PySem.W PyProof.Rows
open PySem Builtin
section
variable{D:Dat}{sc:Sc}{env:Env}{loc loc':Loc}{ρ ρ':fq}{μ aG:Hp}{s s':az}{A:da}{n:Nat}{cl:Call}
theorem Fb{trees:List (Bool×Sem aA)}(h:trees.any (·.1)=false):(trees.all λx=> !x.1)=true:=by
 rw[List.all_eq_not_any_not];simpa using h
theorem wy{Q:aA->az->Prop}(hb:wA o=true)(g:args.any i8=false)(i:args.length<=20)(f:(apos.endLine==pos.line)=true)
  (h:aI (aH D.a D.G.w) A (eval o env) (λov s1=>aI (aH D.a D.G.w) A (sF ov name (do return (<-importBound o env).getD true)) (λc s2=>aI (aH D.a D.G.w) A (Wm pos c.1 c.2 (FP pos (mY args env)) []) Q no s2) no s1) no s):
  aI (aH D.a D.G.w) A (eval (.Call (.Attribute o name apos) args [] pos) env) Q no s:=by
 rw[arm_eval_Call]
 refine aw (xC hb (a_ h (λov j d=>?_) λJ J e=>e))
 refine aw (du ?_)
 have b:methodCallForm (args.length+([]:List Keyword).length) (FP pos (mY args env)) (backToKw pos (keywordEach [] env))=true:=by
  show((FP pos (mY args env)).all (λx=> !x.1)&&true&&decide (args.length+0+0<30))=true
  rw[Fb (iR g)]
  simp;exact aaL i
 unfold methodCall
 refine b▸(aw (bG (a_ d (λc s2 k=>?_) λJ J z=>z)))
 exact aw (wpAny_of_eq (by unfold methodCallPos;simp[f]) k)
theorem LY(L:gF D)(h:gJ D.T μ x a=some c)(e:∀f,c= .c f->kT D.K (.ref (D.c f))=true):pA D.K (R_ D.c c):=by
 cases c with
 |c f=>exact .d _ (e f rfl)
 |a=>exact .b _
 |d=>exact .b _
 |b=>exact .b _
theorem Ah(h:gJ T μ x a=some (.c f)):∃c,T.a c a=some f:=by
 refine hm h (λn l J J q=>?_) (λn l J J q=>?_) λn c i J J q=>gm q λJ q=>mm q λg d e=>?_
 ·by_cases b:a=T.c
  ·rw[if_pos b] at q;cases q
  ·rw[if_neg b] at q
   by_cases b:a=T.e
   ·rw[if_pos b] at q;cases q
   ·rw[if_neg b] at q;cases q
 ·by_cases b:a=T.f
  ·rw[if_pos b] at q;cases q
  ·rw[if_neg b] at q;cases q
 ·cases e;exact⟨c,d⟩
theorem Fj(h:vt T c x y=some r):∃l,x= .g l:=by cases x<;>first|exact⟨_,rfl⟩|cases h
theorem OD(L:gF D){Q:aA->az->Prop}(m:pA D.K f)(r:args=[.Constant (.str x) kk cp,e])(p:∀e∈args,bB D n cl e)(j:args.any i8=false)(R:fC (n+1) A)(a:At D sc env loc ρ μ s)(h:aO D.T cl (cE D.X sc e) loc μ=some (v,aG))
  (z:∀u s1 bu,bT D.G D.b ρ s bu aG s1->VR D.b s1.heap bu v u->aI (aH D.a D.G.w) A (call f (first++[.str x s.toks,u])) Q no s1):aI (aH D.a D.G.w) A (Wm pos f first (FP pos (mY args env)) []) Q no s:=by
 subst r
 have g:bT D.G D.b ρ s ρ μ {s with toks:=s.toks+1}:=(bT.l a.d).u _ (cN _)
 refine i5 m (iR j) ?_
 rw[lU rfl]
 refine wZ (uL (k:=kk) (pos:=cp) ?_)
 exact(lU (kq (kq j).2).1)▸(wZ ((p e (.tail _ (.head _))).b R (a.c g) h λq t o i y=>Wq ⟨i.M L,z t o q (g.f i) y⟩))
theorem Vn(L:gF D)(CO:qw D.G D.T D.c D.a D.b n cl)(W:bB D n cl o)(ih:∀e∈args,bB D n cl e)
  (KF:∀c a f,D.T.a c a=some f->kT D.K (.ref (D.c f))=true):bB D n cl (.Call (.Attribute o name apos) args ks pos):=by
 intro sc A env loc ρ μ s v aG R a h
 refine uw h λQ q=>uw q λhb q=>Bf q λk hk q=>iu (iB.mp Q) λz UU=>iu (aE.mp hb) λWL N=>iu (aE.mp WL) λok hn=>lu (L.b name k hk) λJ hN J J=>?_
 have ek:ks=[]:=by
  cases ks with
  |nil=>rfl
  |cons _ _=>cases UU
 refine fJ ek (wy ok z (aW hn) N ?_)
 refine iEm q (λE q=>Bf q λc S h=>HP S λx kk cp e ea hx=>?_) λJ h=>?_
 ·have h:aO D.T cl (.w (cE D.X sc o) c (cE D.X sc e)) loc μ=some (v,aG):=by rw[ea] at h;exact h
  refine om h λy bF I h=>om h λu eh B h=>mm h λr Y e'=>W.b R a I λbu ov s1 i t=>?_
  refine dG (Fj Y) λF ey=>?_
  apply(ey▸t:VR D.b s1.heap bu (.g F) ov).H λO=>?_
  rw[show name="replace" from beq_iff_eq.mp E]
  have ex:x=⟨#[c]⟩:=by
   obtain⟨⟨l⟩⟩:=x
   exact congrArg (λl=>Str.mk ⟨l⟩) hx
  refine GM.replace (OD L (.b _) ea ih z R (a.c i) B λuv Z j1 V q3=>?_)
  exact E9 (P:=λr aG=>aI (aH D.a D.G.w) A (call (.builtin "str.replace") [.str ⟨F.toArray⟩ O,.str x s1.toks,uv]) (Ok D.G D.b ρ s aG r) no Z) e' (Ok.d (i.f V) (ex▸Fi (T:=D.T) Y V.d (fJ (P:=λy=>VR D.b Z.heap j1 y (.str ⟨F.toArray⟩ O)) ey (by unfold VR;exact⟨O,rfl⟩)) q3 (a.c i).j))
 ·refine om h λx bF I h=>bm h λc C h=>om h λvs eh B h=>W.b R a I λbu ov s1 i t=>?_
  have a1:=a.c i
  refine hN▸(yA L.e L.p C i.d t ?_)
  have U:∀f,c= .c f->kT D.K (.ref (D.c f))=true:=λf ef=>(Ah (C.trans (congrArg some ef))).elim λc Q=>KF _ _ _ Q
  exact i5 (LY L C U) (iR z) (qa ih z R a1 B λfe vals s2 m q2=>⟨m.M L,Ok.d (i.f m) (Ei CO (R.e (cN _)) h m.d (a1.c m).j (m.y i.d t) q2)⟩)
theorem yf{X:CX}{x nm:Str}(h:pR X sc x nm=true):kJ sc x=true/\x=nm:=by
 unfold pR at h
 simp only[bO,beq_iff_eq] at h
 exact⟨h.1.1.1.1.1,h.1.1.1.1.2⟩
theorem C_(L:gF D){Q:aA->az->Prop}(g:pA D.K f)(k:args=[e])(i:∀e∈args,bB D n cl e)(d:args.any i8=false)(R:fC (n+1) A)(a:At D sc env loc ρ μ s)(h:aO D.T cl (cE D.X sc e) loc μ=some (v,aG))
  (l:∀u s1 bu,bT D.G D.b ρ s bu aG s1->VR D.b s1.heap bu v u->aI (aH D.a D.G.w) A (call f [u]) Q no s1):aI (aH D.a D.G.w) A (Wm pos f [] (FP pos (mY args env)) []) Q no s:=by
 subst k
 refine i5 g (iR d) ?_
 exact(lU (kq d).1)▸(wZ ((i e (.head _)).b R a h λbu u s1 c j=>Wq ⟨c.M L,l u s1 bu c j⟩))
theorem vM(L:gF D){x nm:Str}{p pos:Pos}{args:List Expr}{g:aA}{f:ME->ME}{j i:Str->Option aA}{r:MV×Hp}{c:MV->Hp->Option (MV×Hp)}{Q:aA->az->Prop}(a:At D sc env loc ρ μ s)(R:fC (n+1) A)(J:∀e∈args,bB D n cl e)(H:args.any i8=false)(I:D.b.Ns D.d j)(B:D.b.Ns D.e i)
  (q:pR D.X sc x nm=true) (M:j nm=none) (o:i nm=some g) (l:(nm==("__debug__":Str))=false) (E:pA D.K g) (m:∀e,aO D.T cl (f e) loc μ=ob (aO D.T cl e loc μ) c) (h:aO D.T cl (uno f (zo D.X sc args)) loc μ=some r)
  (k:∀y bF u s1 bu,c y bF=some r->bT D.G D.b ρ s bu bF s1->VR D.b s1.heap bu y u->aI (aH D.a D.G.w) A (call g [u]) Q no s1):aI (aH D.a D.G.w) A (eval (.Call (.Name x p) args [] pos) env) Q no s:=
 aeL h λe N h=>om ((m _).symm.trans h) λy bF v h=>iu (yf q) λF z=>fJ z (Call_ (HH a (z▸F) I M B o l (C_ L E N J H R a v λu s1 bu C t=>k y bF u s1 bu h C t)))
theorem HM(L:gF D)(V:qw D.G D.T D.c D.a D.b n cl)(E:∀e∈args,bB D n cl e):bB D n cl (.Call (.Name x p) args ks pos):=by
 intro sc A env loc ρ μ s v aG R a h
 refine uw h λhc q=>iu (iB.mp hc) λB UU=>?_
 have ek:ks=[]:=by
  cases ks with
  |nil=>rfl
  |cons _ _=>cases UU
 refine fJ ek (Ew L.d λmg C _ U O _ n0=>Ew L.l λmb I W b2 Y b4 b5=>?_)
 refine zq (X:=D.X) (sc:=sc) (x:=x) (P:=λc=>aO D.T cl (Rf (zo D.X sc args) c) loc μ=some (v,aG)->aI (aH D.a D.G.w) A (eval (.Call (.Name x p) args [] pos) env) (Ok D.G D.b ρ s aG v) no s)
  stk (λf t N h=>?_) (λc t N h=>?_) (λt h=>?_) (λt h=>?_) (λt h=>?_) q
 ·exact om h λvs bF H h=>m_ (U x f N) λF S Z=>Call_ (pO a t C S F (i5 (.d _ Z) (iR B) (qa E B R a H λbu vals s1 k z=>⟨k.M L,Ok.d k (nI (V A (R.e (cN _)) _ _ _ _ _ h bu s1 _ k.d (a.c k).j z))⟩)))
 ·exact om h λvs bF H h=>iu (O x c N) λF S=>bm (id h) λi hi J=>Call_ (pO a t C S F (i5 (.d _ (L.j c i hi)) (iR B) (qa E B R a H λbu vals s1 k z=>⟨k.M L,Ok.d k (JP L.e L.o V R h k.d (a.c k).j z)⟩)))
 ·exact vM L a R E B C I t n0.1 W (by decide) (.b _) (λ_=>rfl) h λy bF u s1 bu h k z=>mm h λr Q e=>E9 (P:=λv aG=>aI (aH D.a D.G.w) A (call (.builtin "len") [u]) (Ok D.G D.b ρ s aG v) no s1) (a:=r) (b:=bF) e (Ok.d k (Js Q k.d z))
 ·exact vM L a R E B C I t n0.2.1 b2 (by decide) (.c _) (λ_=>rfl) h λy bF u s1 bu h k z=>im h λi ei h=>mm h λr Q e=>E9 (P:=λv aG=>aI (aH D.a D.G.w) A (call (.type "str") [u]) (Ok D.G D.b ρ s aG v) no s1) (a:= .g r) (b:=bF) e (Ok.d k (Fv Q k.d (ei▸z)))
 ·exact vM L a R E B C I t n0.2.2.1 Y (by decide) (.c _) (λ_=>rfl) h λy bF u s1 bu h k z=>lm h λm l em hl h=>gm h λhz h=>qZ (P:=λv aG=>aI (aH D.a D.G.w) A (call (.type "tuple") [u]) (Ok D.G D.b ρ s aG v) no s1) h (Ok.d k (yK hl hz k.d (em▸z)))
theorem HO(h:bB D n cl (.Call f args ks pos)):jf D n cl (.Call f args ks pos):=by
 intro sc A env loc ρ μ s r b aG R a c hb
 exact pj h (λJ=>rfl) sc A loc ρ μ s r b aG R a c hb
end
end
section
open PySem PySem.Calls PySem.W PyProof.Rows
open PySem Builtin
set_option genCtorIdx true in
inductive IK where
 |i (l:List MV)
 |f (m:Nat)
 |g (n:Nat)
 |e (n:Nat)
noncomputable def IK.c(μ:Hp)(k:Nat):IK->Option (Option MV)
 | .i l=>some l[k]?
 | .f m=>some (if k<m then some (.c k) else none)
 | .g n=>rG μ (.d n) λJ l=>some l[k]?
 | .e n=>rG μ (.d n) λJ l=>some ((l[k]?).map λv=> .e [.c k,v])
noncomputable def IK.d:IK->Bool
 | .e _=>true
 |_=>false
noncomputable def ik(hb h:dO)(ρ:fq)(it:aA)(a b:cK)(k:Nat):IK->Prop
 | .i l=>∃t vs,it= .ref a/\h.IsTupleIter a t k/\h.get? t=some (cn vs)/\dw hb h ρ l vs
 | .f m=>it= .ref a/\k<=m/\IsRangeIter h a (k:Int) ((m:Int) - k) 1
 | .g n=>∃p,it= .ref a/\ρ[n]?=some p/\h.IsListIter a p.1 k
 | .e n=>∃p c,it= .ref b/\ρ[n]?=some p/\h.IsListIter a p.1 k/\IsEnum h b a (k:Int) c
section
variable{W:cK->Prop}{G:Cfg}{hb h h':dO}{ρ ρ':fq}{μ aG:Hp}{s s':az}{prog:fh}{A:da}{it:aA}{a b:cK}{k:Nat}{K:IK}
theorem lN(g:h.get? a=some o)(d:o.data= .fields vs):∀c,h.get? a≠some (cn c):=λc e=>by
 rw[g] at e;cases e;cases d
theorem ik.c(I:ik hb s.heap ρ it a b k K)(P:b_ W G hb ρ s ρ' aG s')(S:eW G hb s.heap ρ μ)(d:Off ρ a)(ob:Off ρ b)(v: ¬W a)(B: ¬W b):ik hb s'.heap ρ' it a b k K:=by
 cases K with
 |i l=>
  refine pM I λt vs e z0 D q=>?_
  obtain⟨o,g,r⟩:=z0
  exact⟨t,vs,e,⟨o,P.u _ _ g d v,r⟩,P.H _ _ D,P.R q⟩
 |f m=>obtain⟨e,y,g⟩:=I;exact⟨e,y,P.u _ _ g d v⟩
 |g n=>
  refine pL I λp e w C=>?_
  obtain⟨o,g,r⟩:=C
  exact⟨p,e,P.U _ _ w,o,P.u _ _ g d v,r⟩
 |e n=>
  refine pM I λp x e w z E=>?_
  obtain⟨o,g,r⟩:=z
  exact⟨p,x,e,P.U _ _ w,⟨o,P.u _ _ g d v,r⟩,P.u _ _ E ob B⟩
theorem ik.i(I:ik hb s.heap ρ it a b k K):∀vs,s.heap.get? a≠some (cn vs):=by
 cases K with
 |i l=>obtain⟨t,vs,e,⟨o,g,_,d⟩,w,q⟩:=I;exact lN g d
 |f m=>obtain⟨e,v,g⟩:=I;exact lN g rfl
 |g n=>obtain⟨p,e,r,⟨o,g,_,d⟩⟩:=I;exact lN g d
 |e n=>obtain⟨p,u,e,r,⟨o,g,_,d⟩,x⟩:=I;exact lN g d
theorem ik.j(I:ik hb s.heap ρ it a b k (.e n)):∀vs,s.heap.get? b≠some (cn vs):=by
 refine pM I λp d e l J g=>?_;exact lN g rfl
theorem pX(S:eW G hb s.heap ρ μ)(f:Off ρ a)(e:hb.get? a=none)(nt:∀vs,s.heap.get? a≠some (cn vs))(d:fZ a s.heap h')(g:h'.get? a=some o)(t:Nat)(i:s.toks<=t):b_ (λc=>c=a) G hb ρ s ρ μ {s with heap:=h',toks:=t}:=
 b_.V S (λc w=>by refine fJ w ?_;exact f) (λc w=>by refine fJ w ?_;exact e) (λc vs w=>by refine fJ w ?_;exact nt vs) (λc o w g=>(d.2 c w).trans g) (vH d g) t i
theorem eW.O(S:eW G hb s.heap ρ μ){n:Nat}{l:List MV}{p:cK×cK}{d:Prop}(i:μ[n]?=some (.a l))(c:ρ[n]?=some p)(f:∀vs j,s.heap.get? p.1=some (ee vs j)->dw hb s.heap ρ l vs->d):d:=by
 refine ur (S.I (v:= .ref p.1) i (⟨p,rfl,c⟩)) λo vs j J e J g q=>?_
 rw[c] at e;cases e
 exact f vs j g q
theorem C5{Q:Option aA->az->Prop}{E:aA->az->Prop}(S:eW G hb s.heap ρ μ)(I:ik hb s.heap ρ it a b k K)(B:Off ρ a)(F:hb.get? a=none)(U:K.d=false){x:MV}(e:K.c μ k=some (some x))
  (q:∀v s',b_ (λc=>c=a) G hb ρ s ρ μ s'->VR hb s'.heap ρ x v->ik hb s'.heap ρ it a b (k+1) K->Q (some v) s'):aI (aH prog G.w) A (FU it) Q E s:=by
 have nt:=I.i
 cases K with
 |i l=>
  refine pM I λt vs u o N r=>?_
  refine u▸?_
  refine cf (r.D (ba e)) λv C L=>?_
  refine wpAny_pyNext_tuple_item (items:=vs.toArray) o ⟨_,N,rfl,_,rfl⟩ (x:=v) (by simpa using C) λh' y z=>?_
  have P:=pX S B F nt z y.choose_spec.1 s.toks (aC _)
  exact q v _ P (P.O L) ⟨t,vs,u,y,P.H _ _ N,P.R r⟩
 |f m=>
  refine m_ I λu Y o=>?_
  refine u▸gm (c:=k<m) (ba e) λT e=>?_
  refine wpAny_pyNext_range_item o (Int.sub_pos_of_lt (cw.mpr T)) λh' y z=>?_
  have P:=pX S B F nt z y (s.toks+1) (cN _)
  refine q _ _ P (ba e▸⟨_,rfl⟩) ⟨u,T,?_⟩
  exact(xq:((k+1:Nat):Int)=(k:Int)+1)▸(((Int.sub_sub _ _ _).symm):(m:Int) - ((k:Int)+1)=(m:Int) - k - 1)▸y
 |g n=>
  refine pL I λp u M o=>?_
  refine u▸lm e λJ l V X e=>S.O X (MV.d.inj V▸M) λvs j g r=>?_
  refine cf (r.D (ba e)) λv C L=>?_
  refine wpAny_pyNext_list_item (items:=vs.toArray) o (gU g) (x:=v) (by simpa using C) λh' y z=>?_
  have P:=pX S B F nt z y.choose_spec.1 s.toks (aC _)
  exact q v _ P (P.O L) ⟨p,u,M,y⟩
 |e n=>cases U
theorem Il{Q:Option aA->az->Prop}{E:aA->az->Prop}(S:eW G hb s.heap ρ μ)(I:ik hb s.heap ρ it a b k K)(y:A.handled=none)(e:K.c μ k=some none)
  (q:∀h',(∀c o,c≠a->s.heap.get? c=some o->h'.get? c=some o)->Q none {s with heap:=h'}):aI (aH prog G.w) A (FU it) Q E s:=by
 have len:∀{l:List MV} {vs:List aA},dw hb s.heap ρ l vs->l[k]?=none->vs.toArray[k]?=none:=λr e=>by
  have:=r.g
  rw[iS] at e
  simp;exact(bN [_,_,_] V0.C V0.B (.o V0.A V0.B (.e V0.C V0.A .z)) rfl e this)
 cases K with
 |i l=>
  refine pM I λt vs v u R r=>?_
  exact v▸wpAny_pyNext_tuple_end (items:=vs.toArray) y u ⟨_,R,rfl,_,rfl⟩ (len r (ba e)) λh' x=>q h' x
 |f m=>
  refine m_ I λv M u=>?_
  have e:=ba e
  by_cases L:k<m
  ·rw[if_pos L] at e;cases e
  ·exact v▸wpAny_pyNext_range_end y u (TZ M L) λh' x=>q h' x
 |g n=>
  refine pL I λp v D u=>?_
  exact v▸lm e λJ l F H e=>S.O H (MV.d.inj F▸D) λvs j g r=>wpAny_pyNext_list_end (items:=vs.toArray) y u (gU g) (len r (ba e)) λh' x=>q h' x
 |e n=>
  refine pM I λp P v D u N=>?_
  exact v▸lm e λJ l F H e=>S.O H (MV.d.inj F▸D) λvs j g r=>wpAny_pyNext_enum_end (items:=vs.toArray) y N u (gU g) (len r (Option.map_eq_none_iff.mp (ba e))) λh' x=>q h' x
theorem ik.f{q:Prop}(I:ik hb h ρ it a b k K)(d:∀o,h.get? a=some o->q):q:=by
 cases K with
 |i l=>obtain⟨t,vs,_,⟨o,g,_⟩,_⟩:=I;exact d o g
 |f m=>exact d _ I.2.2
 |g n=>obtain⟨p,_,_,o,g,_⟩:=I;exact d o g
 |e n=>obtain⟨p,r,_,_,⟨o,g,_⟩,_⟩:=I;exact d o g
theorem mq(c:∀b o,h.get? b=some o->h'.get? b=some o)(f:h'.get? b=none):h.get? b=none:=tM λo q=>nn (f.symm.trans (c b o q))
theorem b_.X(P:b_ W G hb ρ s ρ' aG s')(f:s.heap.get? a=none)(j:Off ρ' a)(l:hb.get? a=none)(nt:∀vs,s'.heap.get? a≠some (cn vs))(k:∀c o,c≠a->s'.heap.get? c=some o->h'.get? c=some o):
  b_ W G hb ρ s ρ' aG {s' with heap:=h'}:=by
 have S':=P.B
 have d:∀c vs,s'.heap.get? c=some (cn vs)->h'.get? c=some (cn vs):=λc vs g=>k c _ (by rintro rfl;exact nt vs g) g
 refine⟨P.L,⟨S'.u,λn o p x y=>?_,S'.F,S'.B,λb o g=>k b o (by rintro rfl;rw[l] at g;cases g) (S'.m b o g),S'.L⟩,λb o g r w=>k b o (by rintro rfl;rw[f] at g;cases g) (P.u b o g r w),
  λc vs g=>d c vs (P.H c vs g),λc e=>?_,P.I,P.Z,P.N⟩
 ·have:=j p (aU y)
  exact(S'.H n o p x y).b d (λJ J e=>e) (λo g=>k _ _ (cH this.1) g) λo g=>k _ _ (cH this.2) g
 ·by_cases i:c=a
  ·refine fJ i ?_;exact f
  ·refine P.F c ?_
   exact tM λo q=>nn (e.symm.trans (k c o i q))
end
end
section
open PySem PySem.Calls PySem.W PyProof.Rows
open PySem Builtin
inductive Mp (f:MV->Hp->Option (MV×Hp)) (K:IK):Nat->Nat->Hp->List MV->Hp->Prop
 |a {k:Nat} {μ:Hp} (h:K.c μ k=some none):Mp f K k 0 μ [] μ
 |b {k n:Nat} {μ bF aG:Hp} {v x:MV} {xs:List MV} (h:K.c μ k=some (some v)) (hf:f v μ=some (x,bF)) (r:Mp f K (k+1) n bF xs aG):Mp f K k (n+1) μ (x::xs) aG
theorem JH(f:MV->Hp->Option (MV×Hp))(m:Nat):∀(j:Nat) (k:Nat) (μ aG:Hp) (xs:List MV),k+j=m->ym f ((List.range' k j).map λ(j:Nat)=>MV.c j) μ=some (xs,aG)->Mp f (.f m) k j μ xs aG
 |0,k,μ,aG,xs,h,e=>by
  refine qZ e ?_
  exact .a (congrArg some (if_neg (QT h)))
 |j+1,k,μ,aG,xs,h,e=>by
  refine om e λx bF d e=>om e λl i g e=>?_
  refine qZ e ?_
  exact .b (congrArg some (if_pos (Hf h))) d (JH f m j (k+1) _ _ _ (Bb h) g)
theorem qP{b:Type}(h:μ[n]?=some (.a l))(f:Nat->List MV->Option b):rG μ (.d n) f=f n l:=by
 unfold rG x5;dsimp only;rw[h]
theorem qC{l r:List MV}{v:MV}{k:Nat}(h:l.drop k=v::r):k<l.length/\l[k]?=some v/\l.drop (k+1)=r:=by
 have a:k<l.length:=by
  have:=congrArg List.length h
  rw[iM] at this;simp at this;exact T5 this
 exact⟨a,by have:=congrArg (λz=>z[0]?) h;simpa using this,by have:=congrArg List.tail h;simpa using this⟩
theorem JG(f:MV->Hp->Option (MV×Hp))(n:Nat)(all:List MV):∀(r:List MV) (k:Nat) (μ aG:Hp) (xs:List MV),all.drop k=r->k<=all.length->uA f n all r μ=some (xs,aG)->Mp f (.g n) k r.length μ xs aG
 |[],k,μ,aG,xs,h,hk,e=>Dp e λl d c e=>by
  refine qZ e ?_
  cases(kz _ _).mp c
  exact .a ((qP d _).trans (congrArg some (iS.mpr (kg.mp h))))
 |v::r,k,μ,aG,xs,h,hk,e=>Dp e λl d c e=>om e λx bF o e=>om e λq t j e=>by
  refine qZ e ?_
  cases(kz _ _).mp c
  refine m_ (qC h) λp i m=>?_
  exact .b ((qP d _).trans (congrArg some i)) o (JG f n all r (k+1) _ _ _ m p j)
theorem nz:(k9 scope env).names.lookup x=(scope.names.lookup x).map λk=>if(k== .free&&env.scope.kind== .function&&env.kindOf x==some .cell) then .cell else k:=by
 unfold k9
 induction scope.names with
 |nil=>rfl
 |cons p r c=>
  obtain⟨n,k⟩:=p
  rw[dX,cR]
  by_cases h:x=n
  ·subst h
   by_cases b:(k== .free&&env.scope.kind== .function&&env.kindOf x==some .cell)=true
   ·rw[if_pos b];simp only[cR,beq_self_eq_true,ki,b,if_true]
   ·rw[if_neg b];simp only[cR,beq_self_eq_true,ki,if_neg b]
  ·have hb:(x==n)=false:=by simpa using h
   rw[cR (a:=x) (k:=n),hb]
   by_cases b:(k== .free&&env.scope.kind== .function&&env.kindOf n==some .cell)=true
   ·rw[if_pos b];simp only[hb];exact c
   ·rw[if_neg b];simp only[hb];exact c
theorem Kd(h:(if(kd==pk&&a&&b)=true then iO else kd)= .local):kd= .local:=by
 cases kd<;>cases a<;>cases b<;>first|rfl|(exact absurd h (by decide))
theorem N7(h:(if(kd==pk&&a&&b)=true then iO else kd)= .cell\/(if(kd==pk&&a&&b)=true then iO else kd)= .free):kd= .free\/kd= .cell:=by
 cases kd<;>cases a<;>cases b<;>first|exact .inl rfl|exact .inr rfl|(exact absurd h (by decide))
section
variable{D:Dat}{sc:Sc}{env:Env}{loc loc':Loc}{ρ ρ':fq}{μ aG:Hp}{s s':az}{A:da}{n:Nat}{cl:Call}
set_option tactic.hygienic true in
theorem mh:∀(names:List (Str×jr)) (b:List (Str×cK)),(∀x∈names,x.2= .free->∃c,env.cells.lookup x.1=some c)->
  ∃d,(forIn names b λ(x:Str×jr) (d:List (Str×cK))=>(if x.2== .free then(do let a<-cellOf env x.1;pure (jT ((x.1,a)::d))) else pure (jT d):Sem (ForInStep (List (Str×cK)))))=pure d/\
   (∀n c,d.lookup n=some c->b.lookup n=some c\/env.cells.lookup n=some c)/\(∀n,(b.lookup n).isSome->(d.lookup n).isSome)/\∀x∈names,x.2= .free->(d.lookup x.1).isSome
 |[],b,_=>⟨b,xc,λn c h=> .inl h,λn h=>h,λJ h=>nomatch h⟩
 |(nm,k)::r,b,h=>by
  by_cases j:k= .free
  ·subst j
   refine dG (h (nm,.free) (.head _) rfl) λc p=>?_
   refine vW (mh r ((nm,c)::b) λx f=>h x (.tail _ f)) λd o l i m=>?_
   refine⟨d,?_,λn a q=>?_,λn t=>?_,λx f g=>?_⟩
   ·rw[oy]
    show((do let a<-cellOf env nm;pure (jT ((nm,a)::b)):Sem (ForInStep (List (Str×cK))))>>=_)=_
    have:cellOf env nm=pure c:=by unfold cellOf;rw[p]
    rw[this,pure_bind,pure_bind]
    exact o
   ·rcases l n a q with z|z
    ·rw[cR] at z
     split at z
     ·rename_i e
      refine kf z ?_
      exact(beq_iff_eq.mp e)▸(.inr p)
     ·exact .inl z
    ·exact .inr z
   ·refine i n ?_
    rw[cR]
    split
    ·rfl
    ·exact t
   ·rcases cx.mp f with rfl|f
    ·exact i _ (by simp[cR])
    ·exact m x f g
  ·refine vW (mh r b λx f=>h x (.tail _ f)) λd o l i m=>?_
   refine⟨d,?_,l,i,λx f g=>?_⟩
   ·rw[oy]
    have:(k==pk)=false:=by cases k<;>first|rfl|(exact absurd rfl j)
    simp only[this,dx,if_false]
    rw[pure_bind]
    exact o
   ·rcases cx.mp f with rfl|f
    ·exact absurd g j
    ·exact m x f g
theorem zt(h:∀x∈scope.names,x.2= .free->∃c,env.cells.lookup x.1=some c):
  ∃b,closureFor scope env=pure b/\(∀n c,b.lookup n=some c->env.cells.lookup n=some c)/\∀x∈scope.names,x.2= .free->(b.lookup x.1).isSome:=by
 refine vW (mh (env:=env) scope.names [] h) λb f d i e=>?_
 refine⟨b,?_,λn c g=>(d n c g).resolve_left (by simp),e⟩
 have:(forIn scope.names ([]:List (Str×cK)) λ(x:Str×jr) (b:List (Str×cK))=>(if(x.2== .free)=true then(do let a<-cellOf env x.1;pure (jT ((x.1,a)::b))) else pure (jT b):Sem (ForInStep (List (Str×cK)))))=pure b:=f
 refine Lv (congrArg (· >>=λb=>pure b) (Lv ?_ this)) (by rw[pure_bind])
 congr 1
noncomputable def J_(l:Loc)(k:Nat):Loc:=l.filter λp=> !aT p.1 k
theorem kL(l:Loc)(k y:Nat):bz (J_ l k) y=if y=k then none else bz l y:=by
 induction l with
 |nil=>unfold J_;simp[bz]
 |cons p l b=>
  obtain⟨i,v⟩:=p
  unfold J_ at b⊢
  rw[List.filter_cons]
  cases a:aT i k with
  |true=>
   have a:=aK a
   subst a
   simp only[Bool.not_true,dx,if_false]
   rw[b]
   by_cases h:y=i
   ·simp[h]
   ·have:aT i y=false:=C7 (cH h)
    simp[h,bz,this]
  |false=>
   simp only[Bool.not_false,if_true]
   unfold bz
   cases hy:aT i y with
   |true=>
    refine rQ (aK hy) ?_
    have: ¬i=k:=λe=>by subst e;simp at a
    simp[this]
   |false=>simp only[dx,if_false];exact b
theorem HT(L:gF D)(a:At D sc env loc ρ μ s)(S':eW D.G D.b h' ρ μ)(r:∀b o,s.heap.get? b=some o->h'.get? b=some o)(R:s.heap.get? C=none)(hN:∃m,h'.Ns C m)
  (U:pW sc scope (D.G.a k)=true) (zP:k<D.G.N) (hk:scope.names.lookup (D.G.a k)=some .local) (H:∀n c,cs.lookup n=some c->env.cells.lookup n=some c) (Y:∀x∈scope.names,x.2= .free->(cs.lookup x.1).isSome) (w:Env) (I:w.scope=k9 scope env) (P:w.locals=C) (z:w.cells=cs) (hg:w.globals=env.globals) (hb':w.builtins=env.builtins)
  (WQ:∀m,h'.Ns C m->∀y,m y=none):oU D.G D.b D.d D.e w (J_ loc k) h' ρ:=by
 have F:=a.e
 unfold pW at U
 rw[bO] at U
 refine iu U λW B=>?_
 have B:=aQ.mp B
 have Cu:∀y,w.kindOf y=(scope.names.lookup y).map λk=>if(k== .free&&env.scope.kind== .function&&env.kindOf y==some .cell) then .cell else k:=λy=>by
  unfold rV;rw[I,nz];rfl
 have Z:∀y,w.kindOf y=some .cell\/w.kindOf y=some .free->scope.names.lookup y=some .free:=λy h=>by
  rw[Cu] at h
  cases hq:scope.names.lookup y with
  |none=>rw[hq] at h;simp at h
  |some kd=>
   replace h:=hq▸h
   have hm:=B _ (iT hq)
   rw[ki] at h
   have qJ:=N7 (kd:=kd) (a:=env.scope.kind== .function) (b:=env.kindOf y==some .cell) (h.imp ba ba)
   rcases qJ with rfl|rfl
   ·rfl
   ·cases hm
 have L9:∀y,scope.names.lookup y=some .free->env.kindOf y=some .cell:=λy h=>by
  have:=B _ (iT h)
  simp only[bO,beq_iff_eq] at this
  exact(a.i y).2.1 this.1
 have S:∀b,jC w b->b=C\/jC env b:=λb h=>by
  rcases h with h|⟨n,h⟩
  ·exact .inl (h.trans P)
  ·rw[z] at h;exact .inr (.inr ⟨n,H n b h⟩)
 refine⟨I▸(beq_iff_eq.mp W),hg.trans F.p,hb'.trans F.E,λx v h=>?_,?_,λb h=>?_,?_,λn c h=>?_,λx v j q=>?_,λn h=>?_,λn n' c j q=>?_⟩
 ·rw[kL] at h
  split at h
  ·cases h
  ·exact F.t x v h
 ·exact P▸(gV a.d R)
 ·rcases S b h with rfl|h
  ·exact mq a.d.m R
  ·exact F.y b h
 ·refine dG hN λm hm=>?_
  refine⟨m,P▸hm,λx v j q=>?_⟩
  exfalso
  have hx:=F.t x v (by rw[kL] at j;split at j<;>first|(cases j;done)|exact j)
  rw[Cu] at q
  cases hq:scope.names.lookup (D.G.a x) with
  |none=>rw[hq] at q;simp at q
  |some kd=>
   have q:=hq▸q
   rw[ki] at q
   have V:=Kd (a:=env.scope.kind== .function) (b:=env.kindOf (D.G.a x)==some .cell) (ba q)
   subst V
   have:=B _ (iT hq)
   simp only[bO,Bool.or_eq_true,beq_iff_eq] at this
   have e:=D.G.inj _ _ hx zP (this.1.resolve_right (L.m _ hx))
   subst e
   rw[kL] at j;simp at j
 ·replace h:=z▸h
  obtain⟨T,q2,v,M⟩:=F.f n c (H n c h)
  refine⟨T,?_,v,M.keeps r⟩
  refine cf M λo g J=>?_
  rintro rfl
  rw[P,R] at g;cases g
 ·rw[kL] at j
  split at j
  ·cases j
  ·have O:=Z _ q
   refine dY (F.l x v j (.inl (L9 _ O))) λc u T q2 M=>?_
   have:=Y _ (iT O) rfl
   refine dG (dU.mp this) λX Q=>?_
   have e:=H _ _ Q
   rw[T] at e;cases e
   exact⟨c,u,z▸Q,q2.keeps r,VR.C (λJ J g=>r _ _ g) (λJ J e=>e) _ _ M⟩
 ·have O:=Z _ (.inl h)
  have:=Y _ (iT O) rfl
  refine dG (dU.mp this) λX Q=>?_
  exact⟨X,z▸Q⟩
 ·rw[z] at j q
  exact F.k n n' c (H _ _ j) (H _ _ q)
end
end
section
open PySem PySem.Calls PySem.W PyProof.Rows
open PySem Builtin
section
variable{D:Dat}{sc:Sc}{env:Env}{loc loc':Loc}{ρ ρ':fq}{μ aG:Hp}{s s':az}{A:da}{n:Nat}{cl:Call}
theorem Gr.a(h:gW.scope=PySem.relabel scope env):Gr scope.names gW:=by
 intro x
 have e:gW.kindOf x=(scope.names.lookup x).map λk=>if(k== .free&&env.scope.kind== .function&&env.kindOf x==some .cell) then .cell else k:=by
  unfold rV;rw[h,nz];rfl
 refine e▸(⟨λq=>by rw[q];rfl,λq=>by rw[q];rfl,λq=>?_,λq=>by rw[q];rfl⟩)
 rw[q,ki]
 split
 ·exact .inr rfl
 ·exact .inl rfl
theorem jv{a:Type}{M:Model}{m:Sem a}{Q:a->az->Prop}{E:aA->az->Prop}(h:aI M A m Q (λ_ _=>False) s):aI M A m Q E s:=a_ h (λ_ _ z=>z) λ_ _ z=>z.elim
theorem JU{h:dO}{C:cK}{m c:Str->Option aA}(i:h.Ns C m)(e:h.Ns C c):m=c:=by
 refine Ml i λo q p g d _ f=>?_
 refine Ml e λu r l b a _ j=>?_
 rw[g] at b;cases b
 replace a:=d▸a;cases a
 funext y
 rw[<-f y,<-j y]
theorem dO.a{h:dO}{d:cK}{ys:List aA}{q:Nat}(g:h.get? d=some (ee ys q)):∀vs,h.get? d≠some (cn vs):=λvs e=>absurd (congrArg (λo=>o.map Obj.cls) (g.symm.trans e)) (by simp)
theorem eW.M(S:eW D.G D.b s.heap ρ μ)(f:s.heap.get? b=none):D.b.get? b=none:=mq S.m f
theorem u9(a:At D sc env loc ρ μ s)(d:gW.locals=C)(i:∀n c,gW.cells.lookup n=some c->env.cells.lookup n=some c)(f:s.heap.get? b=none)(h:b≠C):∀c,jC gW c-> ¬c=b:=λc w e=>by
 subst e
 rcases w with w|⟨nm,w⟩
 ·exact h (w.trans d)
 ·obtain⟨_,_,v,o,g,_⟩:=a.e.f nm c (i _ _ w)
  rw[f] at g;cases g
noncomputable def W3(a b c:cK)(x:cK):Prop:=x=a\/x=b\/x=c
inductive adz (D:Dat) (f:MV->Hp->Option (MV×Hp)) (K:IK) (it:aA) (ad Dd C:cK) (gW:Env) (loc:Loc) (k:Nat) (vs:List MV) (aG:Hp) (nn:Nat) (ρ:fq) (s:az) (m:Nat) (t:az):Prop
 |mk (k':Nat) (K5:Hp) (Li xs:List MV) (t8:fq) (z_:Loc) (ys:List aA) (q:Nat) (mp:Mp f K k' m K5 xs aG) (zS:vs=Li++xs) (P:b_ (W3 ad Dd C) D.G D.b ρ s t8 K5 t)
  (o1:Off t8 ad) (o2:Off t8 Dd) (o3:Off t8 C) (I:ik D.b t.heap t8 it ad ad k' K) (gD:t.heap.get? Dd=some (ee ys q)) (qD:dw D.b t.heap t8 Li ys) (F:oU D.G D.b D.d D.e gW z_ t.heap t8) (hlp:∀y,y≠k->bz z_ y=bz loc y) (hlen:Li.length+m=nn)
theorem tD(h:y≠x):bz ((x,v)::loc) y=bz loc y:=by
 have:aT x y=false:=C7 (cH h)
 simp[bz,this]
section
variable{elt:Expr}{px:Pos}{scope:Ly}{k k':Nat}{K:IK}{it:aA}{ad Dd C:cK}{Li:List MV}{t8:fq}{K5:Hp}{t:az}{z_:Loc}{gW:Env}{ys:List aA}{q0:Nat}
theorem Eo{Q:Option aA->az->Prop}{E:aA->az->Prop}(R:fC (n+1) A)(a:At D sc env loc ρ μ s)(l:s.heap.get? ad=none)(v:s.heap.get? Dd=none)(Z:s.heap.get? C=none)(Rq:ad≠Dd)(Rp:ad≠C)(x:Dd≠C)(O:gW.locals=C)
  (V:K.c K5 k'=some none) (P:b_ (W3 ad Dd C) D.G D.b ρ s t8 K5 t) (S:Off t8 ad) (o2:Off t8 Dd) (o3:Off t8 C) (I:ik D.b t.heap t8 it ad ad k' K) (N:t.heap.get? Dd=some (ee ys q0)) (U:dw D.b t.heap t8 Li ys) (F:oU D.G D.b D.d D.e gW z_ t.heap t8)
  (j:∀(h:az) (r:fq) (q:Str->Option aA),bT D.G D.b ρ s r (K5++[.a Li]) h->VR D.b h.heap r (.d K5.length) (.ref Dd)->Off r C->h.heap.Ns C q->Q none h):aI (aH D.a D.G.w) A (FU it) Q E t:=
 Il P.B I R.a V λL f=>by
  refine cf F.z λq z0 _=>?_
  obtain⟨oC,T,W,J,rC⟩:=z0
  have H:=P.X (h':=L) l S (a.d.M l) I.i f
  have m:=H.B.u
  refine j _ _ q ((H.ab a.d v o2 (f _ _ (cH Rq) N) (dw.t (λc vs g=>f _ _ (by rintro rfl;exact I.i vs g) g) (λ_ _ e=>e) _ _ U)).Y λb o g w=>?_) (⟨(Dd,Dd),rfl,by rw[<-m];simp⟩) (o3.a λp y=>?_) ⟨oC,T,W,f _ _ (cH Rp) (O▸J),rC⟩
  ·rcases w with rfl|rfl|rfl
   ·rw[l] at g;cases g
   ·rw[v] at g;cases g
   ·rw[Z] at g;cases g
  ·rw[bK] at y
   subst y
   exact⟨cH x,cH x⟩
theorem b_.ac{W:cK->Prop}(P:b_ W D.G D.b ρ s ρ' aG s')(g:s.heap.get? b=some o){a:Prop}(c:∀o,s'.heap.get? b=some o->a):a:=by
 cases q:s'.heap.get? b with
 |some o=>exact c o q
 |none=>rw[P.F _ q] at g;cases g
theorem Ep{Q:Option aA->az->Prop}{E E1 E2 E3:aA->az->Prop}{J:az->Prop}{v y:MV}{bF:Hp}(he:bB D n cl elt)(R:fC (n+1) A)(a:At D sc env loc ρ μ s)(zP:k<D.G.N)(IZ:scope.names.lookup (D.G.a k)=some .local)
  (uy:∀n c,gW.cells.lookup n=some c->env.cells.lookup n=some c) (WM:gW.scope=k9 scope env) (fa:s.heap.get? ad=none) (MA:s.heap.get? Dd=none) (Rq:ad≠Dd) (Rp:ad≠C) (Ro:Dd≠C) (zO:gW.locals=C) (qk:K.d=false)
  (hi:K.c K5 k'=some (some v)) (hf:aO D.T cl (cE D.X scope.names elt) ((k,v)::loc) K5=some (y,bF)) (P:b_ (W3 ad Dd C) D.G D.b ρ s t8 K5 t) (V:Off t8 ad) (o2:Off t8 Dd) (o3:Off t8 C) (I:ik D.b t.heap t8 it ad ad k' K) (gD:t.heap.get? Dd=some (ee ys q0)) (qD:dw D.b t.heap t8 Li ys) (F:oU D.G D.b D.d D.e gW z_ t.heap t8)
  (hlp:∀y,y≠k->bz z_ y=bz loc y) (hz:ys.toArray.size<=Wn)
  (q:∀u s1,aI (aH D.a D.G.w) A (OU (.Name (D.G.a k) px) gW u) (λ_ s2=>aI (aH D.a D.G.w) A (eval elt gW) (λx s3=>aI (aH D.a D.G.w) A (call (.builtin "list.append") [.ref Dd,x]) (λ_ H=>J H) E3 s3) E2 s2) E1 s1->Q (some u) s1)
  (fin:∀l H w,b_ (W3 ad Dd C) D.G D.b ρ s l bF H->Off l ad->Off l Dd->Off l C->ik D.b H.heap l it ad ad (k'+1) K->H.heap.get? Dd=some (ee (ys++[w]) (q0+1))->dw D.b H.heap l (Li++[y]) (ys++[w])->oU D.G D.b D.d D.e gW ((k,v)::loc) H.heap l->J H):
  aI (aH D.a D.G.w) A (FU it) Q E t:=
 C5 P.B I V (a.d.M fa) qk hi λu t1 S q1 I1=>q u t1<|by
  have F1:=F.B S (u9 a zO uy fa Rp)
  have zQ:=(Gr.a WM (D.G.a k)).1 IZ
  refine w7 (jv (a_ (q9 (loc':=(k,v)::loc) F1 S.B (.inl zQ) zP q1 (by simp[bz]) λy hy=>(tD hy).trans (hlp y hy).symm) (λ_ t2 z=>?_) λ_ _ z=>z))
  have i:=z.1.E λb o g w=>by
   rcases w with w|⟨w,_⟩
   ·exact w.trans zO
   ·rw[zQ] at w;cases w
  have F2:=z.2
  clear z F1 q1 hlp F
  have I2:=I1.c i S.B V V Rp Rp
  have gD2:=i.u _ _ (S.u _ _ gD o2 (cH Rq)) o2 Ro
  have qD2:=i.R (S.R qD)
  have Pt:=(P.m (S.E λb o g w=> .inl w)).m (i.E λb o g w=> .inr (.inr w))
  have Y:=i.B
  clear P S i I I1 gD qD
  refine jv ((he.b R ⟨Y,F2,aD a.j Pt.N,Gr.a WM⟩ hf) λl w t3 p q3=>?_)
  have WJ:=p.C _ _ gD2 o2
  refine I2.f λoa2 ga2=>?_
  refine cf F2.z λm z0 _=>?_
  obtain⟨oC2,es,ep,gC2,r⟩:=z0
  rw[zO] at gC2
  refine append_at (hsz:=hz) WJ λh6 hs6 g6=>?_
  have Z:=p.I gD2 o2
  have U:=p.I ga2 V
  have P4:b_ (λc=>c=Dd) D.G D.b l t3 l bF {t3 with heap:=h6,toks:=t3.toks}:=pX p.d Z (a.d.M MA) (dO.a WJ) hs6 g6 t3.toks (aC _)
  exact fin l _ w ((Pt.m (p.w Y)).m (P4.E λb o g w=> .inr (.inl w))) U Z (p.I gC2 o3) ((I2.c (p.w Y (W:=λ_=>False)) Y V V (λh=>h) λh=>h).c P4 p.d U U Rq Rq) (by rw[g6];simp) ((P4.R (p.R Y qD2)).L (P4.O q3)) ((F2.I Y p).B P4 (u9 a zO uy MA Ro))
end
theorem Mp.c{f:MV->Hp->Option (MV×Hp)}{K:IK}{k m:Nat}{μ aG:Hp}{xs:List MV}(h:Mp f K k m μ xs aG){d:Prop}(k1:xs=[]->μ=aG->K.c μ k=some none->d)
  (k2:∀j v x r bF,m=j+1->xs=x::r->K.c μ k=some (some v)->f v μ=some (x,bF)->Mp f K (k+1) j bF r aG->d):d:=by
 cases h with
 |a h=>exact k1 rfl rfl h
 |b h e r=>exact k2 _ _ _ _ _ rfl rfl h e r
theorem acd{c:Type}{M:Model}{m:Sem c}{Q:c->az->Prop}{E:aA->az->Prop}(h:∀a,(∀b t,Q b t->a b t)->aI M A m a E s):aI M A m Q E s:=h Q λ_ _ z=>z
theorem Em(L:gF D){elt iter:Expr}{px pos:Pos}{scope:Ly}{J:List (Str×cK)}{k:Nat}{K:IK}{it:aA}{ad:cK}{O:dO}{Y:Nat}{vs:List MV}{nn:Nat}
  (he:bB D n cl elt) (R:fC (n+1) A) (a:At D sc env loc ρ μ s) (zP:k<D.G.N) (yV:pW sc scope (D.G.a k)=true) (IZ:scope.names.lookup (D.G.a k)=some .local)
  (uy:∀n c,J.lookup n=some c->env.cells.lookup n=some c) (oJ:∀x∈scope.names,x.2= .free->(J.lookup x.1).isSome)
  (l:∀b o,s.heap.get? b=some o->O.get? b=some o) (ht:s.toks<=Y) (fa:s.heap.get? ad=none) (I0:ik D.b O ρ it ad ad 0 K) (qk:K.d=false)
  (S:∀(t:az) (E:aA->az->Prop) (Q:aA->az->Prop),ik D.b t.heap ρ it ad ad 0 K->Q it t->aI (aH D.a D.G.w) A (OX it) Q E t)
  {use:Option (aA->Sem Unit)} {Q:aA->az->Prop}
  (fin:∀(Dd C:cK) (t5:az) (rj:fq) (m5:Str->Option aA),bT D.G D.b ρ s rj (aG++[.a vs]) t5->VR D.b t5.heap rj (.d aG.length) (.ref Dd)->s.heap.get? C=none->Off rj C->t5.heap.Ns C m5->rZ (aH D.a D.G.w) A no use Q (.ref Dd) C (.ok .next) t5)
  (hz:nn<=bA) (mp:Mp (λi μ=>aO D.T cl (cE D.X scope.names elt) ((k,i)::loc) μ) K 0 nn μ vs aG):
  aI (aH D.a D.G.w) A (newList []) (λacc s3=>aI (aH D.a D.G.w) A (FT scope env.globals J [] env.qual none .none (some env)) (λgW s4=>
   n8 (aH D.a D.G.w) A (.compStart (.ListComp elt [⟨.Name (D.G.a k) px,iter,[],0⟩] scope pos) 0 it acc {gW with scope:=k9 scope env})
    (rZ (aH D.a D.G.w) A no use Q acc gW.locals) s4) no s3) no {s with heap:=O,toks:=Y}:=by
 have p:=aE.mp yV
 have hnc:∀y∈scope.names,y.2≠ .cell:=λy hy e=>by
  have:=aQ.mp p.2 y hy
  rw[e] at this;cases this
 refine wpAny_newList ?_ (by simp)
 generalize hD:O.objs.size=Dd
 have hDn:=hD▸fF O
 have MA:=mq l hDn
 refine wpAny_newFunctionEnv hnc (by intro y hy;simp at hy) (λh4 I5 MX=>?_) (beq_iff_eq.mp p.1)
 generalize hH3:O.push {cls:= .type "list",data:= .seq ([]:List aA).toArray}=h3 at I5 MX⊢
 generalize hC:h3.objs.size=C at I5 MX⊢
 have M:∀b o,O.get? b=some o->h3.get? b=some o:=λb o e=>hH3▸bg _ e
 have UL:=hC▸fF h3
 have Nm:∀b o,s.heap.get? b=some o->h3.get? b=some o:=λb o e=>M _ _ (l _ _ e)
 have Lk:=mq Nm UL
 have WJ:=hH3▸hD▸(bU _ rfl)
 have H:∀b o,h3.get? b=some o->h4.get? b=some o:=λb o e=>MX.extBut b o (by rintro rfl;rw[UL] at e;cases e) (bg _ e)
 have Ro:Dd≠C:=by rintro rfl;rw[WJ] at UL;cases UL
 have Rq:ad≠Dd:=I0.f λo g e=>by rw[e,hDn] at g;cases g
 have Rp:ad≠C:=I0.f λo g e=>by rw[<-e,M _ _ g] at UL;cases UL
 clear hnc p hDn MX hC hD hH3
 have P0:bT D.G D.b ρ s ρ μ {s with heap:=h4,toks:=Y}:=bT.B a.d (λb o e=>H _ _ (Nm _ _ e)) Y ht
 have NU:=gV a.d fa
 have I4:ik D.b h4 ρ it ad ad 0 K:=by
  have S2:=a.d.U l
  exact ik.c (s:={s with heap:=O,toks:=Y}) I0 ((bT.B (s:={s with heap:=O,toks:=Y}) S2 (λb o e=>H _ _ (M _ _ e)) Y (aC _)).w S2 (W:=λ_=>False)) S2 NU NU (λh=>h) λh=>h
 have IT:(newEnv scope C env.globals J env.qual none .none (some env) qg).locals=C:=rfl
 have hb3:(newEnv scope C env.globals J env.qual none .none (some env) qg).cells=J:=rfl
 have hb4:(newEnv scope C env.globals J env.qual none .none (some env) qg).globals=env.globals:=rfl
 have hb5:(newEnv scope C env.globals J env.qual none .none (some env) qg).builtins=env.builtins:=rfl
 generalize newEnv scope C env.globals J env.qual none .none (some env) qg=base at IT hb3 hb4 hb5⊢
 have WM:({base with scope:=k9 scope env}:Env).scope=k9 scope env:=rfl
 have zO:({base with scope:=k9 scope env}:Env).locals=C:=IT
 have hc3:({base with scope:=k9 scope env}:Env).cells=J:=hb3
 have F0:=HT L a P0.d (λb o e=>H _ _ (Nm _ _ e)) Lk ⟨_,I5⟩ yV zP IZ uy oJ {base with scope:=k9 scope env} WM zO hc3 hb4 hb5 λm hm y=>(JU hm I5)▸rfl
 generalize ({base with scope:=k9 scope env}:Env)=gW at WM zO hc3 F0⊢
 refine IT▸?_
 clear IT hb3 hb4 hb5 I5 oJ yV M Nm UL
 refine(λ(Z:n8 (aH D.a D.G.w) A (.compLoop (.ListComp elt [⟨.Name (D.G.a k) px,iter,[],0⟩] scope pos) 0 it (.ref Dd) gW) (rZ (aH D.a D.G.w) A no use Q (.ref Dd) C) {s with heap:=h4,toks:=Y})=>codeAny_compStart_list Z (S _ _ _ I4 Z)) ?_
 refine codeAny_compLoop_list (adz D (λi μ=>aO D.T cl (cE D.X scope.names elt) ((k,i)::loc) μ) K it ad Dd C gW loc k vs aG nn ρ s) (λm t hI=>?_) nn
  ⟨0,μ,[],vs,ρ,J_ loc k,[],0,mp,rfl,P0.w a.d,NU,gV a.d MA,gV a.d Lk,I4,H _ _ WJ,dw.B,F0,λy hy=>by rw[kL,if_neg hy],by simp⟩
 clear I0 I4 F0 P0 H WJ mp l S NU
 refine acd λQ' hq=>?_
 obtain⟨k',K5,Li,xs,t8,z_,ys,q,hmp,zS,P,o1,o2,o3,I,gD,qD,F,hlp,V⟩:=hI
 exact hmp.c (λex eμ hi=>Eo R a fa MA Lk Rq Rp Ro zO hi P o1 o2 o3 I gD qD F λt5 rj m5 PA qq oo nn=>hq _ _ (fin Dd C t5 rj m5 (eμ▸(show vs=Li from(zS.trans (ex▸d8 _)))▸PA) (eμ▸qq) Lk oo nn))
  λj v x r bF em ex hi hf hr=>Ep (px:=px) he R a zP IZ (hc3▸uy) WM fa MA Rq Rp Ro zO qk hi hf P o1 o2 o3 I gD qD F hlp (by rw[b8,qD.g,d_];unfold bA at hz;exact(bN [_,_,_] V0.B 16777216 (.o V0.A 1000000 (.e (V0.B+(V0.C+1)) V0.A .z)) rfl hz (em▸V))) (λu s1 h=>hq _ _ h) λj1 s4 w PP p1 p2 p3 II gg vv FF=>
   ⟨j,em▸dh _,.mk _ _ _ _ j1 _ _ _ hr (by rw[zS,ex];simp) PP p1 p2 p3 II gg vv FF (λy hy=>tD hy) (by simp;exact Bb (em▸V))⟩
theorem HR(a:At D sc env loc ρ μ s)(Dd C:cK)(l:az)(p:fq)(u:Str->Option aA)(P:bT D.G D.b ρ s p (aG++[.a vs]) l)(q:VR D.b l.heap p (.d aG.length) (.ref Dd))(f:s.heap.get? C=none)(o:Off p C)(v:l.heap.Ns C u):
  rZ (aH D.a D.G.w) A no none (Ok D.G D.b ρ s (aG++[.a vs]) (.d aG.length)) (.ref Dd) C (.ok .next) l:=by
 refine⟨u,v,λx j=>?_⟩
 refine Ih v λoC E B y dC _=>?_
 have r:D.b.get? C=none:=mq a.d.m f
 have i:∀vs,l.heap.get? C≠some (cn vs):=λvs e=>by rw[y] at e;cases e;cases dC
 refine⟨p,((P.w a.d (W:=λ_=>False)).X (h':=x) f o r i λc o z g=>(j.2 c z).trans g).Y λ_ _ _ h=>h,VR.C (λc vs g=>(j.2 c (by rintro rfl;exact i vs g)).trans g) (λ_ _ e=>e) _ _ q⟩
theorem Dq{iter:Expr}(h:Jl iter=false)(x:aA):foldedSetIterable iter env x=pure x:=by
 cases iter<;>first|rfl|cases h
inductive y6 (D:Dat) (ρ:fq) (s:az) (μ:Hp) (K:IK) (it:aA) (s2:az):Prop
 |mk (ad bd:cK) (s1:az) (bu:fq) (h2:dO) (t2:Nat) (e:s2={s1 with heap:=h2,toks:=t2}) (P:bT D.G D.b ρ s bu μ s1) (keep:∀b o,s1.heap.get? b=some o->h2.get? b=some o) (ht:s1.toks<=t2)
  (fa:s1.heap.get? ad=none) (fb:s1.heap.get? bd=none) (I:ik D.b h2 bu it ad bd 0 K) (ne:K.d=true->ad≠bd) (ob:Obj) (gb:h2.get? bd=some ob)
theorem ph{bu:fq}{s1:az}{K:IK}{o:Obj}{Q:aA->az->Prop}{h':dO}(P:bT D.G D.b ρ s bu aG s1)(e:h'=s1.heap.push o)(I:ik D.b h' bu (.ref s1.heap.objs.size) s1.heap.objs.size s1.heap.objs.size 0 K)(a:K.d=false)(k:∀it s2,y6 D ρ s aG K it s2->Q it s2):Q (.ref s1.heap.objs.size) {s1 with heap:=h'}:=by
 subst e
 exact I.f λo g=>k _ _ ⟨_,_,s1,bu,_,s1.toks,rfl,P,λb o e=>bg _ e,aC _,fF _,fF _,I,(λh=>by rw[a] at h;cases h),o,g⟩
theorem Ou(h:aO T cl (cE X sc e) loc μ=some r):i8 e=false:=by cases e<;>first|rfl|exact stk h
theorem HA(L:gF D){i:Expr}{nm:Str}{u:MV}{v:aA}{Q:aA->az->Prop}{j:Str->Option aA}(y:oK D.X sc nm i=true)(E:D.b.Ns D.e j)(o:j nm=some v)(F:pA D.K v)(H:∀m,D.b.Ns D.d m->m nm=none)(l:(nm==("__debug__":Str))=false)
  (f:∀r p a q,i= .Call (.Name r p) [a] [] q->bB D n cl a) (R:fC (n+1) A) (a:At D sc env loc ρ μ s) (h:aO D.T cl (UQ (cA D.X sc i)) loc μ=some (u,aG)) (k:∀x s1 bu,bT D.G D.b ρ s bu aG s1->VR D.b s1.heap bu u x->aI (aH D.a D.G.w) A (call v [x]) Q no s1):
  aI (aH D.a D.G.w) A (eval i env) Q no s:=
 Nk (P:=λi=>(∀r p a q,i= .Call (.Name r p) [a] [] q->bB D n cl a)->aO D.T cl (UQ (cA D.X sc i)) loc μ=some (u,aG)->aI (aH D.a D.G.w) A (eval i env) Q no s) y (λN M ae I g f h=>by
  refine iu (yf g) λz z0=>?_
  refine cf L.d λJ c _=>?_
  exact Call_ (HH a z c (z0.symm▸H _ c) E (z0.symm▸o) (z0.symm▸l) (C_ L F rfl (λe B=>bK.mp B▸f _ _ _ _ rfl) (iB.mpr ⟨Ou h,rfl⟩) R a h k))) f h
theorem vf(L:gF D){m:Str->Option aA}(h:D.b.Ns D.d m):m "range"=none/\m "enumerate"=none:=by
 obtain⟨f,a,_,_,_,_,g,i,j,e,c⟩:=L.d
 cases JU a h
 exact⟨e,c⟩
theorem Dv(L:gF D){Q:aA->az->Prop}(v:oK D.X sc "range" i=true)(y:∀r p a q,i= .Call (.Name r p) [a] [] q->bB D n cl a)(R:fC (n+1) A)(a:At D sc env loc ρ μ s)(h:aO D.T cl (UQ (cA D.X sc i)) loc μ=some (.c kk,aG))(g:0<=kk/\kk<=1000)
  (k:∀it s2,y6 D ρ s aG (.f kk.toNat) it s2->Q it s2):aI (aH D.a D.G.w) A (eval i env) (λx s1=>aI (aH D.a D.G.w) A (OX x) Q no s1) no s:=by
 refine Ew L.l λJ H I M N F b5=>?_
 refine HA L v H F (.c _) (λ_ h=>(vf L h).1) (by decide) y R a h λu s1 bu j E=>?_
 apply E.f λm=>?_
 refine call_range_1 ?_
 have z:bT D.G D.b bu s1 bu aG {s1 with heap:=s1.heap.push {cls:= .type "range",data:= .fields #[.int 0 s1.toks,.int kk m,.int 1 (s1.toks+1)]},toks:=s1.toks+1+1}:=bT.B j.d (λb o e=>bg _ e) _ A1
 refine wpAny_pyIter_range (IsRange.new ..) (small_one (by decide) (by decide) (aaK g.1 g.2) (aaJ g.1 g.2)) ?_
 exact(by rw[rangeSize_one];split<;>omega:(Builtin.Range.rangeSize 0 kk 1)=((kk.toNat:Nat):Int))▸(ph (K:= .f kk.toNat) (j.f z) rfl ⟨rfl,b7 _,by simpa using bU (s1.heap.push {cls:= .type "range",data:= .fields #[.int 0 s1.toks,.int kk m,.int 1 (s1.toks+1)]}) (o:={cls:= .type "range_iterator",data:= .fields #[rawInt 0,rawInt ((kk.toNat:Nat):Int),rawInt 1]}) rfl⟩ rfl k)
theorem Du{i:Expr}{m:Nat}{l:List MV}{Q:aA->az->Prop}(r:bB D n cl i)(R:fC (n+1) A)(a:At D sc env loc ρ μ s)(h:aO D.T cl (cE D.X sc i) loc μ=some (.d m,aG))(f:aG[m]?=some (.a l))
  (k:∀it s2,y6 D ρ s aG (.g m) it s2->Q it s2):aI (aH D.a D.G.w) A (eval i env) (λx s1=>aI (aH D.a D.G.w) A (OX x) Q no s1) no s:=by
 refine r.b R a h λbu u s1 c o=>?_
 refine ur (c.d.I f o) λp v j z0 e y g q=>?_
 refine fJ z0 ?_
 exact wpAny_pyIter_list (gU g) (ph (K:= .g m) c rfl ⟨p,rfl,e,_,bU _ rfl,rfl,rfl⟩ rfl k)
theorem Bj(L:gF D){elt iter:Expr}{px pos:Pos}{scope:Ly}{p:List (Str×cK)}{k:Nat}{K:IK}{it:aA}{vs:List MV}{nn:Nat}{r:MV}{bF f:Hp}{s2:az}
  (W:bB D n cl elt) (R:fC (n+1) A) (a:At D sc env loc ρ μ s) (M:k<D.G.N) (J:pW sc scope (D.G.a k)=true) (y:scope.names.lookup (D.G.a k)=some .local)
  (V:∀n c,p.lookup n=some c->env.cells.lookup n=some c) (H:∀x∈scope.names,x.2= .free->(p.lookup x.1).isSome) (u:K.d=false) (hz:nn<=bA) {use:Option (aA->Sem Unit)} {Q:aA->az->Prop}
  (o:∀(s1:az) (bu:fq) (bF f:Hp) (vs:List MV),bT D.G D.b ρ s bu bF s1->r= .d f.length->aG=f++[.a vs]->∀(Dd C:cK) (m:az) (q:fq) (O:Str->Option aA),bT D.G D.b bu s1 q (f++[.a vs]) m->VR D.b m.heap q (.d f.length) (.ref Dd)->s1.heap.get? C=none->Off q C->m.heap.Ns C O->
   rZ (aH D.a D.G.w) A no use Q (.ref Dd) C (.ok .next) m)
  (Y:Mp (λi μ=>aO D.T cl (cE D.X scope.names elt) ((k,i)::loc) μ) K 0 nn bF vs f) (e:JN vs f=some (r,aG)) (z:∀{ad bd k hb h ρ},ik hb h ρ it ad bd k K->ik hb h ρ it ad ad k K)
  (g:∀(ad:cK) (ρ:fq) (t:az) (E:aA->az->Prop) (Q:aA->az->Prop),ik D.b t.heap ρ it ad ad 0 K->Q it t->aI (aH D.a D.G.w) A (OX it) Q E t) (S:y6 D ρ s bF K it s2):
  aI (aH D.a D.G.w) A (newList []) (λj U=>aI (aH D.a D.G.w) A (FT scope env.globals p [] env.qual none .none (some env)) (λgW v=>
   n8 (aH D.a D.G.w) A (.compStart (.ListComp elt [⟨.Name (D.G.a k) px,iter,[],0⟩] scope pos) 0 it j {gW with scope:=k9 scope env})
    (rZ (aH D.a D.G.w) A no use Q j gW.locals) v) no U) no s2:=by
 obtain⟨ad,bd,s1,bu,h2,Z,rfl,P,l,B,F,fb,I,_,_,_⟩:=S
 cases e
 exact Em L W R (a.c P) M J y V H l B F (z I) u (g ad bu) (o _ _ _ _ _ P rfl rfl) hz Y
theorem xI(L:gF D){elt iter:Expr}{x:Str}{px pos:Pos}{scope:Ly}(he:bB D n cl elt)(hi:bB D n cl iter)(Ci:∀r p a q,iter= .Call (.Name r p) [a] [] q->bB D n cl a)(R:fC (n+1) A)(a:At D sc env loc ρ μ s){r:MV}
  (h:aO D.T cl (cE D.X sc (.ListComp elt [⟨.Name x px,iter,[],0⟩] scope pos)) loc μ=some (r,aG)) {use:Option (aA->Sem Unit)} {Q:aA->az->Prop}
  (o:∀(s1:az) (bu:fq) (bF c:Hp) (vs:List MV),bT D.G D.b ρ s bu bF s1->r= .d c.length->aG=c++[.a vs]->∀(Dd C:cK) (F:az) (V:fq) (m5:Str->Option aA),bT D.G D.b bu s1 V (c++[.a vs]) F->VR D.b F.heap V (.d c.length) (.ref Dd)->s1.heap.get? C=none->Off V C->F.heap.Ns C m5->
   rZ (aH D.a D.G.w) A no use Q (.ref Dd) C (.ok .next) F):
  aI (aH D.a D.G.w) A (comprehension (.ListComp elt [⟨.Name x px,iter,[],0⟩] scope pos) scope env (firstIterPos [⟨.Name x px,iter,[],0⟩] pos) (newList []) false (eval iter env) use) Q no s:=by
 refine uw h λH q0=>Bf q0 λk u q=>?_
 clear h q0
 refine lu (L.b x k u) λY O _ _=>?_
 subst O
 obtain⟨H,Z⟩:=aE.mp H
 obtain⟨B,z⟩:=aE.mp H
 have M:=aQ.mp (aE.mp B).2
 obtain⟨cs,Rr,uy,W⟩:=zt (env:=env) (scope:=scope) λy P e=>by
  have:=M y P
  rw[e] at this
  simp only[bO,beq_iff_eq] at this
  exact a.e.j _ ((a.i y.1).2.1 this.1)
 refine wpAny_comprehension_free (use:=use) (cl:=cs) rfl (Dq (jw _▸Z)) Rr (beq_iff_eq.mp (aE.mp B).1) (λy P e=>by
  have:=M y P
  rw[e] at this
  simp only[bO,beq_iff_eq] at this
  exact this.2) ?_
 clear M Z H Rr
 have z:=beq_iff_eq.mp z
 refine cEm q (λhf h=>?_) λ_ h=>?_
 ·refine om h λv bF N h=>im h λkk J h=>gm h λu h=>om h λvs c hm U=>?_
  clear h;subst J
  refine Dv L hf Ci R a N u λit s2 S=>Bj (K:= .f kk.toNat) (nn:=kk.toNat) L he R a Y B z uy W rfl (aaI u.1 u.2) o (JH _ _ _ _ _ _ _ (cQ _) (Gj▸hm)) U (λi=>i) (λad ρ t E Q I q=>?_) S
  rw[I.1] at q⊢
  exact wpAny_pyIter_rangeiter I.2.2 q
 ·refine om h λv bF N h=>lm h λm l J hl h=>gm h λhz h=>om h λvs c hm U=>?_
  clear h;subst J
  refine Du hi R a N hl λit s2 S=>Bj (K:= .g m) L he R a Y B z uy W rfl hz o (JG _ _ _ _ _ _ _ _ (iC ..) (b7 _) hm) U (λi=>i) (λad ρ t E Q I q=>?_) S
  refine pL I λp e _ g=>?_
  rw[e] at q⊢
  exact wpAny_pyIter_listiter g q
end
end
section
open PySem PySem.Calls PySem.W PyProof.Rows
open PySem Builtin
noncomputable def Xi(hb h:dO)(ρ:fq):Fl->Flow->Prop
 | .a,f=>f= .next
 | .b v,f=>∃u,f= .ret u/\VR hb h ρ v u
inductive gy (D:Dat) (env:Env) (ρ:fq) (s:az) (fl:Fl) (loc':Loc) (aG:Hp) (f:Flow) (s':az):Prop
 |mk (ρ':fq) (p:b_ (jC env) D.G D.b ρ s ρ' aG s') (a:oU D.G D.b D.d D.e env loc' s'.heap ρ') (q:Xi D.b s'.heap ρ' fl f)
inductive qy (D:Dat) (env:Env) (ρ:fq) (s:az) (loc':Loc) (aG:Hp) (s':az):Prop
 |mk (ρ':fq) (p:b_ (jC env) D.G D.b ρ s ρ' aG s') (a:oU D.G D.b D.d D.e env loc' s'.heap ρ')
noncomputable def kj(D:Dat)(n fuel:Nat)(cl:Call)(st:je):Prop:=∀(sc:Sc) (A:da) (env:Env) (loc:Loc) (ρ:fq) (μ:Hp) (s:az) (b:Fl) (loc':Loc) (aG:Hp),fC (n+1) A->At D sc env loc ρ μ s->
 bQ D.T cl fuel (cS D.X sc st) loc μ=some (b,loc',aG)->aI (aH D.a D.G.w) A (exec st env) (gy D env ρ s b loc' aG) no s
noncomputable def jj(D:Dat)(n fuel:Nat)(cl:Call)(b:List je):Prop:=∀(sc:Sc) (A:da) (env:Env) (loc:Loc) (ρ:fq) (μ:Hp) (s:az) (c:Fl) (loc':Loc) (aG:Hp),fC (n+1) A->At D sc env loc ρ μ s->
 aY D.T cl fuel (yU D.X sc b) loc μ=some (c,loc',aG)->aI (aH D.a D.G.w) A (execs b env) (gy D env ρ s c loc' aG) no s
section
variable{D:Dat}{sc:Sc}{env:Env}{loc loc':Loc}{ρ ρ':fq}{μ aG:Hp}{s s':az}{A:da}{n fuel:Nat}{cl:Call}
theorem At.h(a:At D sc env loc ρ μ s){W:cK->Prop}(P:b_ W D.G D.b ρ s ρ' aG s')(F:oU D.G D.b D.d D.e env loc' s'.heap ρ'):At D sc env loc' ρ' aG s':=⟨P.B,F,aD a.j P.N,a.i⟩
theorem qy.b(P:b_ (jC env) D.G D.b ρ s ρ' μ s'){s2:az}(h:qy D env ρ' s' loc' aG s2):qy D env ρ s loc' aG s2:=by
 obtain⟨d,c,a⟩:=h
 exact⟨d,P.m c,a⟩
theorem gy.b(P:b_ (jC env) D.G D.b ρ s ρ' μ s'){s2:az}{a:Fl}{f:Flow}(h:gy D env ρ' s' a loc' aG f s2):gy D env ρ s a loc' aG f s2:=by
 obtain⟨j,i,g,q⟩:=h
 exact⟨j,P.m i,g,q⟩
theorem Dc(a:At D sc env loc ρ μ s)(h:vk sc x=true):env.kindOf x=some .local\/env.kindOf x=some .cell:=by
 unfold vk at h
 refine lu (a.i x) λb c J J=>?_
 split at h
 ·exact .inl (b (by assumption))
 ·exact .inr (c (by assumption))
 ·cases h
theorem Ao(L:gF D)(a:At D sc env loc ρ μ s)(f:vk sc x=true)(c:D.X.a x=some k)(q:VR D.b s.heap ρ w v):
  aI (aH D.a D.G.w) A (storeName env x v) (λJ s'=>qy D env ρ s (bp loc k w) μ s') no s:=by
 refine lu (L.b x k c) λi j J J=>?_
 subst j
 refine a_ (q9 (loc':=bp loc k w) a.e a.d (Dc a f) i q (by rw[hP,if_pos rfl]) λy h=>by rw[hP,if_neg h]) (λJ s1 z=>?_) λJ J z=>z
 refine iu z λP F=>?_
 refine⟨ρ,P.E λb o g w=>?_,F⟩
 rcases w with rfl|⟨_,w⟩
 ·exact .inl rfl
 ·exact w
theorem yv{b:Prop}(h:J1 X sc e=some k)(g:∀x p,e= .Name x p->vk sc x=true->X.a x=some k->b):b:=by
 cases e with
 |Name x p=>exact gm h λc d=>g x p rfl c d
 |_=>cases h
theorem vq:∀{a:List Expr} {l:List Nat},j9 X sc a=some l->(mW a env).length=l.length/\(mW a env).findIdx? (·.1)=none
 |[],l,h=>by refine kf h ?_;exact⟨rfl,rfl⟩
 |e::a,l,h=>bm h λk c h=>mm h λf b d=>yv c λx p ex J J=>by
  subst d ex
  have z:=vq b
  refine⟨congrArg Nat.succ z.1,?_⟩
  show rr _ ((false,_)::mW _ env)=none
  rw[gY]
  simp[z.2]
theorem sR:∀{ks:List Nat} {ws:List MV} {l a:Loc},eH ks ws l=some a->ws.length=ks.length
 |[],ws,l,a,h=>C6 h λh J=>by refine fJ h ?_;rfl
 |k::ks,[],l,a,h=>nomatch h
 |k::ks,w::ws,l,a,h=>congrArg Nat.succ (sR (ks:=ks) h)
theorem Dx(L:gF D):∀{g:List Expr} {ks:List Nat} {ws:List MV} {vs:List aA} {loc:Loc} {ρ:fq} {s:az},j9 D.X sc g=some ks->eH ks ws loc=some loc'->At D sc env loc ρ μ s->dw D.b s.heap ρ ws vs->
  aI (aH D.a D.G.w) A (assignInOrder ((mW g env).map (·.2)) vs) (λJ s'=>qy D env ρ s loc' μ s') no s
 |[],ks,ws,vs,loc,ρ,s,h,hb,a,q=>by
  cases h
  refine C6 hb λi hb=>?_
  refine kf hb ?_;subst i
  obtain rfl:=q.m
  exact wpAny_assignInOrder_none ⟨ρ,b_.T a.d,a.e⟩
 |e::g,ks,ws,vs,loc,ρ,s,h,hb,a,q=>bm h λk y h=>mm h λl r B=>yv y λx p ex o j=>by
  subst B ex
  refine IW λH C=>?_
  cases ws with
  |nil=>cases hb
  |cons w ws=>
   refine C ?_
   refine dY q.f λv F z0 u E=>?_
   refine fJ z0 ?_
   refine wpAny_assignInOrder_more (w7 (a_ (Ao L a o j u) (λJ s1 z=>?_) λJ J z=>z))
   obtain⟨bu,c,t⟩:=z
   exact a_ (Dx L r hb (a.h c t) (c.R E)) (λJ s2 z=>qy.b c z) λJ J z=>z
theorem eX(a:At D sc env loc ρ μ s)(P:bT D.G D.b ρ s ρ' aG s'):b_ (jC env) D.G D.b ρ s ρ' aG s':=P.w a.d
noncomputable def Eb(D:Dat)(n:Nat)(cl:Call):Expr->Prop
 | .Attribute o _ _=>bB D n cl o
 | .Subscript o i _=>bB D n cl o/\bB D n cl i
 |_=>True
theorem adH{P:Expr->MT->Prop}(h:cT X sc t=some m)(k1:∀x p k,vk sc x=true->X.a x=some k->P (.Name x p) (.b k))(k2:∀o g p k,X.a g=some k->P (.Attribute o g p) (.e (cE X sc o) k))
  (r:∀o i p,P (.Subscript o i p) (.d (cE X sc o) (cE X sc i))) (v:∀j kk p l,j9 X sc j=some l->P (.Tuple j kk p) (.c l)):P t m:=by
 cases t with
 |Name x p=>exact mm h λk f e=>gm f λq f=>e▸k1 x p k q f
 |Attribute o a p=>exact mm h λk f e=>e▸k2 o a p k f
 |Subscript o i p=>exact gm h λw e=>kf (P:=λm=>P (.Subscript o i p) m) e (r o i p)
 |Tuple j kk p=>exact mm h λl u e=>e▸v j kk p l u
 |_=>cases h
theorem Oq{b:Prop}(h:eY T cl (.c l) w loc μ=some r)(k:∀ws a,w= .e ws->eH l ws loc=some a->(a,μ)=r->b):b:=by
 cases w with
 |e ws=>exact mm h λa d e=>k ws a rfl d e
 |_=>cases h
theorem oV(L:gF D)(E:Eb D n cl t)(hm:cT D.X sc t=some m)(R:fC (n+1) A)(a:At D sc env loc ρ μ s)(q:VR D.b s.heap ρ w v)(h:eY D.T cl m w loc μ=some (loc',aG)):
  aI (aH D.a D.G.w) A (OU t env v) (λJ s'=>qy D env ρ s loc' aG s') no s:=by
 refine adH (P:=λt m=>Eb D n cl t->eY D.T cl m w loc μ=some (loc',aG)->aI (aH D.a D.G.w) A (OU t env v) (λJ s'=>qy D env ρ s loc' aG s') no s) hm (λx p k ho H J h=>?_) (λo N p k H E h=>?_) (λo i p E h=>?_) (λes kk p l V J h=>?_) E h
 ·exact qZ (P:=λloc' aG=>aI (aH D.a D.G.w) A (OU (.Name x p) env v) (λJ s'=>qy D env ρ s loc' aG s') no s) h (w7 (Ao L a ho H q))
 ·refine om h λx bF M h=>mm h λS C e=>?_
  refine lu (L.b N k H) λJ hN J J=>?_
  rw[arm_assign_Attribute]
  refine aw (bG (bB.b E R a M λbu ov s1 j I=>aw (du (aw (bG ?_)))))
  refine hN▸(a_ (yD L.e C j.d I (j.y a.d q)) (λJ s2 z=>?_) λJ J z=>z)
  obtain⟨Q,r⟩:=z
  exact mZ (E9 (P:=λloc' aG=>qy D env ρ s loc' aG s2) (a:=loc) (b:=S) e ⟨Q,eX a (j.f r),((a.c j).c r).e⟩)
 ·refine om h λx bF M h=>om h λy S C h=>mm h λmP h3 e=>?_
  rw[arm_assign_Subscript]
  refine aw (bG (E.1.b R a M λbu ov s1 j I=>aw (bG (E.2.b R (a.c j) C λQ iv s2 r q2=>aw (du (aw (bG ?_)))))))
  refine a_ (Kx h3 r.d (r.y j.d I) q2 (r.y j.d (j.y a.d q)) (R.u (by decide))) (λJ s3 z=>?_) λJ J z=>z
  obtain⟨W,O⟩:=z
  exact mZ (E9 (P:=λloc' aG=>qy D env ρ s loc' aG s3) (a:=loc) (b:=mP) e ⟨W,eX a ((j.f r).f O),(((a.c j).c r).c O).e⟩)
 ·refine Oq h λws iW Y C e=>?_
  refine dY (Y▸q:VR D.b s.heap ρ (.e ws) v).d λta us z0 g U=>?_
  refine fJ z0 ?_
  have z:=vq (env:=env) V
  refine wpAny_assign_Tuple (items:=us.toArray) R.a ⟨_,g,rfl,_,rfl⟩ (by rw[z.1,b8,U.g,sR C]) z.2 λh' F=>?_
  have j:bT D.G D.b ρ s ρ μ {s with heap:=h',toks:=s.toks}:=bT.B a.d (λb o e=>F b o (λZ=>by rw[Z,fF] at e;cases e) e) s.toks (aC _)
  exact a_ (Dx L (A:=A) V C (a.c j) (j.R a.d U)) (λJ s2 z=>E9 (P:=λloc' aG=>qy D env ρ s loc' aG s2) e (qy.b (eX a j) z)) λJ J z=>z
end
end
section
open PySem PySem.Calls PySem.W PyProof.Rows
open PySem Builtin
section
variable{D:Dat}{sc:Sc}{env:Env}{loc loc':Loc}{ρ ρ':fq}{μ aG:Hp}{s s':az}{A:da}{n fuel:Nat}{cl:Call}
theorem Ok.E(a:At D sc env loc ρ μ s)(h:Ok D.G D.b ρ s aG r v s'):gy D env ρ s .a loc aG .next s':=by
 obtain⟨bu,P,q⟩:=h
 exact⟨bu,eX a P,(a.c P).e,rfl⟩
theorem NO(a:Jj e=false)(b:∀k v g sc p,e≠ .DictComp k v g sc p)(c:∀v g sc p,e≠ .SetComp v g sc p)(t:Option Expr):swapsWith e t line env=pure false:=by
 cases e<;>first|rfl|(cases a;done)|(exact absurd rfl (b _ _ _ _ _))|(exact absurd rfl (c _ _ _ _))
theorem aeg(h:aO T cl (cE X sc e) loc μ=some (r,aG)):(∀k v g sc p,e≠ .DictComp k v g sc p)/\(∀v g sc p,e≠ .SetComp v g sc p):=by
 constructor
 ·rintro k v g sc p rfl;exact stk h
 ·rintro v g sc p rfl;exact stk h
theorem Fc(a:At D sc env loc ρ μ s):interactive env=false:=by
 unfold interactive;rw[a.e.i];rfl
theorem oU.H(F:oU D.G D.b D.d D.e env loc h ρ)(L:∀b o,b≠C->h.get? b=some o->h'.get? b=some o)(nt:∀vs,h.get? C≠some (cn vs))(X: ¬jC env C):oU D.G D.b D.d D.e env loc h' ρ:=by
 have T:∀a vs,h.get? a=some (cn vs)->h'.get? a=some (cn vs):=λa vs g=>L a _ (by rintro rfl;exact nt vs g) g
 have Q:∀a,jC env a->a≠C:=λa w e=>X (e▸w)
 refine cf F.z λm z0 hm=>?_
 obtain⟨o,Y,V,g,r⟩:=z0
 refine⟨F.i,F.p,F.E,F.t,F.q,F.y,⟨m,⟨o,Y,V,L _ _ (Q _ (.inl rfl)) g,r⟩,λx v M O=>?_⟩,λn c M=>?_,λx v M O=>?_,F.j,F.k⟩
 ·refine cf (hm x v M O) λu N P=>?_
  exact⟨u,N,VR.C T (λJ J e=>e) _ _ P⟩
 ·obtain⟨O,N,v,S,P,R⟩:=F.f n c M
  exact⟨O,N,v,S,L _ _ (Q _ (.inr ⟨n,M⟩)) P,R⟩
 ·refine dY (F.l x v M O) λc u N W U=>?_
  obtain⟨S,P,R⟩:=W
  exact⟨c,u,N,⟨S,L _ _ (Q _ (.inr ⟨_,N⟩)) P,R⟩,VR.C T (λJ J e=>e) _ _ U⟩
theorem UA(c:bB D n cl e):kj D n fuel cl (.Expr e pos):=by
 intro sc A env loc ρ μ s i loc' aG R a h
 refine gSm h λg h=>om h λv bF b h=>?_
 refine Dl h ?_
 obtain⟨d,f⟩:=aeg b
 exact wpAny_Expr_any (a_ (c sc A env loc ρ μ s v _ R a b) (λJ J z=>Ok.E a z) λJ J z=>z) (Fc a) (NO g d f none)
theorem Kc(g:LH D n cl o):kj D n fuel cl (.Return o pos):=by
 intro sc A env loc ρ μ s i loc' aG R a h
 cases o with
 |none=>
  refine Dl h ?_
  exact wpAny_Return_none ⟨ρ,b_.T a.d,a.e,.none,rfl,rfl⟩
 |some e=>
  refine om h λv bF f h=>?_
  refine Dl h ?_
  exact wpAny_Return_some (bB.b g R a f λbu u s1 P q=>⟨bu,eX a P,(a.c P).e,u,rfl,q⟩)
theorem E8(h:(lO t&&lO v)=false)(b:∀a p,t≠ .List a p):swappedStores [t] v env=pure none:=by
 cases t<;>first|rfl|skip
 ·exact absurd rfl (b _ _)
 ·cases v<;>first|rfl|cases h
noncomputable def Sf(D:Dat)(n:Nat)(cl:Call)(v:Expr):Prop:=∀b x px iter sc p,v= .ListComp b [⟨.Name x px,iter,[],0⟩] sc p->bB D n cl b/\bB D n cl iter/\∀r p a q,iter= .Call (.Name r p) [a] [] q->bB D n cl a
theorem UI{P:List Comprehension->Prop}(h:aO T cl (cE X sc (.ListComp elt gens scope pos)) loc μ=some r)(k:∀x px iter,P [⟨.Name x px,iter,[],0⟩]):P gens:=by
 cases gens with
 |nil=>exact stk h
 |cons g a=>
  obtain⟨t,iter,b,as⟩:=g
  cases t with
  |Name x p=>cases b with
   |nil=>cases as with
    |ofNat m=>cases m with
     |zero=>cases a with
      |nil=>exact k x p iter
      |cons _ _=>exact stk h
     |succ _=>exact stk h
    |negSucc _=>exact stk h
   |cons _ _=>exact stk h
  |_=>exact stk h
theorem xT{a:Prop}(h:aO T cl (cE X sc (.ListComp elt gens scope pos)) loc μ=some r)(k:∀x px iter,gens=[⟨.Name x px,iter,[],0⟩]->a):a:=UI (P:=λl=>gens=l->a) h (λx px iter e=>k x px iter e) rfl
theorem VY(hm:cT D.X sc t=some m):(∀a p,t≠ .List a p)/\(mW [t] env).map (·.2)=[OU t env]:=by
 cases t with
 |Name _ _=>exact⟨λJ J e=>(nomatch e),rfl⟩
 |Attribute _ _ _=>exact⟨λJ J e=>(nomatch e),rfl⟩
 |Subscript _ _ _=>exact⟨λJ J e=>(nomatch e),rfl⟩
 |Tuple _ _ _=>exact⟨λJ J e=>(nomatch e),rfl⟩
 |_=>cases hm
inductive Gs (line:Nat) (env:Env):Expr->Expr->Prop
 |a {t v:Expr} (h:ui [t] v line env=pure false):Gs line env t v
 |b (x:Str) (p:Pos) (elt:Expr) (gens:List Comprehension) (scope:Ly) (cp:Pos) (h:ui [.Name x p] (.ListComp elt gens scope cp) line env=pure true):Gs line env (.Name x p) (.ListComp elt gens scope cp)
theorem VW(h:aO T cl (cE X sc v) loc μ=some r):Gs line env t v:=by
 cases v with
 |ListComp c gens scope d=>cases t with
  |Name x p=>
   cases hb:(env.blockKind== .function&&env.kindOf x==some .local&&p.line==(Expr.ListComp c gens scope d).pos.line&& !(scope.names.any λ(n,k)=>n==x&&(k== .local||k== .cell))) with
   |true=>exact .b x p c gens scope d (congrArg (pure:Bool->Sem Bool) hb)
   |false=>exact .a (congrArg (pure:Bool->Sem Bool) hb)
  |_=>exact .a rfl
 |DictComp _ _ _ _ _=>exact stk h
 |SetComp _ _ _ _=>exact stk h
 |_=>exact .a rfl
theorem Ox{G:Prop}(h:aO T cl (cE X sc v) loc μ=some r)(no:ui [t] v line env=pure false->G)
  (d:∀x p c gens scope f,t= .Name x p->v= .ListComp c gens scope f->ui [t] v line env=pure true->G):G:=by
 cases VW (t:=t) (line:=line) (env:=env) h with
 |a e=>exact no e
 |b x p c gens scope f e=>exact d x p c gens scope f rfl rfl e
theorem At.k(a:At D sc env loc ρ μ s)(f:s.heap.get? b=none): ¬jC env b:=λw=>by
 rcases w with rfl|⟨nm,w⟩
 ·refine cf a.e.z λm z0 J=>?_
  obtain⟨o,l,p,g,_⟩:=z0
  rw[f] at g;cases g
 ·obtain⟨_,_,v,o,g,_⟩:=a.e.f nm _ w
  rw[f] at g;cases g
theorem xB(L:gF D)(f:bB D n cl v)(k:Eb D n cl t)(R:fC (n+1) A)(a:At D sc env loc ρ μ s)(o:(lO t&&lO v)=false)(hm:cT D.X sc t=some m)
  (j:aO D.T cl (cE D.X sc v) loc μ=some (w,bF)) (g:eY D.T cl m w loc bF=some (loc',aG)):
  aI (aH D.a D.G.w) A (do let u<-eval v env;assignStores env u (<-swappedStores [t] v env) ((mW [t] env).map (·.2))) (gy D env ρ s .a loc' aG) no s:=
 have q:=VY (env:=env) hm
 aw (f.b R a j λbu u s1 d i=>by
  refine(E8 o q.1)▸q.2▸(aw (aF (aw (a_ (oV L k hm R (a.c d) i g) (λJ s2 z=>aF ?_) λJ J z=>z))))
  obtain⟨h,e,l⟩:=z
  exact⟨h,(eX a d).m e,l,rfl⟩)
theorem xA(L:gF D)(b:Sf D n cl (.ListComp elt gens scope cp))(R:fC (n+1) A)(a:At D sc env loc ρ μ s)(hm:cT D.X sc (.Name x p)=some m)
  (B:aO D.T cl (cE D.X sc (.ListComp elt gens scope cp)) loc μ=some (w,bF)) (P:eY D.T cl m w loc bF=some (loc',aG)):
  aI (aH D.a D.G.w) A (do evalThenUse (.ListComp elt gens scope cp) env λv=>assignAll v ((mW [.Name x p] env).map (·.2));pure Flow.next) (gy D env ρ s .a loc' aG) no s:=
 xT B λy py iter Z=>by
  subst Z
  have b:=b _ _ _ _ _ _ rfl
  refine aw ?_
  rw[arm_evalThenUse_ListComp]
  refine aw (xI L b.1 b.2.1 b.2.2 R a B λs1 bu mP Lp vs l hr tj Dd C t5 rj m5 I q5 f5 S q=>?_)
  subst hr tj
  have F:=l.U C f5
  have V:=a.k F
  have O:=eX a (l.f I)
  refine a_ (oV L (t:= .Name x p) trivial hm R ((a.c l).c I) q5 P) (λJ W z=>?_) λJ J z=>z
  clear l I B P b
  obtain⟨r,E,F6⟩:=z
  refine Ih q λoC es ep Q dC rC=>?_
  have h:=E.u _ _ Q S V
  have i:∀vs,W.heap.get? C≠some (cn vs):=λvs e=>by rw[h] at e;cases e;cases dC
  exact⟨m5,⟨oC,es,ep,h,dC,rC⟩,λY j=>aF (aF ⟨r,(O.m E).X (h':=Y) F (E.M Q S) (mq a.d.m F) i λc o N g=>(j.2 c N).trans g,F6.H (λc o N g=>(j.2 c N).trans g) i V,rfl⟩)⟩
theorem HD(L:gF D)(g:bB D n cl v)(i:Sf D n cl v)(j:∀t∈ts,Eb D n cl t):kj D n fuel cl (.Assign ts v pos):=by
 intro sc A env loc ρ μ s y loc' aG R a h
 refine JY h λt o h=>gSm h λk h=>Rc h λm hm h=>om h λw bF b h=>om h λr z c q=>?_
 refine Dl q ?_;subst o
 rw[arm_exec_Assign]
 refine aw (du (Ox (env:=env) (t:=t) (line:=pos.line) b (λe=>?_) λx p f gens scope u d l e=>?_))
 ·rw[e];exact aw (aF (xB L g (j t (.head _)) R a k hm b c))
 ·subst d;subst l
  rw[e];exact aw (aF (xA L i R a hm b c))
end
end
section
open PySem PySem.Calls PySem.W PyProof.Rows
open PySem Builtin
section
variable{D:Dat}{sc:Sc}{env:Env}{loc loc':Loc}{ρ ρ':fq}{μ aG:Hp}{s s':az}{A:da}{n fuel:Nat}{cl:Call}
theorem gy.c{Q:Flow->az->Prop}(h:aI (aH D.a D.G.w) A m (gy D env ρ s .a loc' aG) no s)(k:∀bu s1,b_ (jC env) D.G D.b ρ s bu aG s1->oU D.G D.b D.d D.e env loc' s1.heap bu->Q .next s1):aI (aH D.a D.G.w) A m Q no s:=
 a_ h (λf s1 z=>by obtain⟨bu,P,F,rfl⟩:=z;exact k bu s1 P F) λJ J z=>z
theorem gy.e{Q:Flow->az->Prop}(h:aI (aH D.a D.G.w) A m (gy D env ρ s (.b v) loc' aG) no s)(k:∀bu u s1,b_ (jC env) D.G D.b ρ s bu aG s1->oU D.G D.b D.d D.e env loc' s1.heap bu->VR D.b s1.heap bu v u->Q (.ret u) s1):aI (aH D.a D.G.w) A m Q no s:=
 a_ h (λf s1 z=>by obtain⟨bu,P,F,u,rfl,q⟩:=z;exact k bu u s1 P F q) λJ J z=>z
theorem gy.d{m:Sem Flow}{bu:fq}{bF:Hp}{s1:az}{f:Fl}(P:b_ (jC env) D.G D.b ρ s bu bF s1)(h:aI (aH D.a D.G.w) A m (gy D env bu s1 f loc' aG) no s1):aI (aH D.a D.G.w) A m (gy D env ρ s f loc' aG) no s1:=
 a_ h (λJ J z=>gy.b P z) λJ J z=>z
theorem acP:jj D n fuel cl []:=by
 intro sc A env loc ρ μ s b loc' aG R a h
 refine Dl h ?_
 exact AK ⟨ρ,b_.T a.d,a.e,rfl⟩
theorem Uq{st:je}{r:List je}(j:kj D n fuel cl st)(k:jj D n fuel cl r):jj D n fuel cl (st::r):=by
 intro sc A env loc ρ μ s l loc' aG R a h
 refine yS (wC h (λg bF e h=>?_) λv g bF e h=>?_)
 ·exact gy.c (j sc A env loc ρ μ s .a g bF R a e) λbu s1 f i=>gy.d f (k sc A env g bu bF s1 l loc' aG R (a.h f i) h)
 ·cases h
  exact gy.e (j sc A env loc ρ μ s (.b v) loc' aG R a e) λbu u s1 f i q=>⟨bu,f,i,u,rfl,q⟩
theorem ad7(f:jf D n cl t)(j:jj D n fuel cl x)(i:jj D n fuel cl y):kj D n fuel cl (.If t x y pos):=by
 intro sc A env loc ρ μ s g loc' aG R a h
 refine om h λu bF e h=>tm h (λhb h=>?_) λhb h=>?_
 ·exact wpAny_If (f.d R a e hb λbu s1 b=>gy.d (eX a b) (j sc A env loc bu bF s1 g loc' aG R (a.c b) h))
 ·exact wpAny_If (f.d R a e hb λbu s1 b=>gy.d (eX a b) (i sc A env loc bu bF s1 g loc' aG R (a.c b) h))
theorem V5{c:Prop}{t:Loc->Hp->Option (MV×Hp)}{b:Loc->Hp->Ex}(h:ri t b m loc μ=some r)(k:∀k,k<m->(ob (t loc μ) λv μ=>tr v (ox (b loc μ) (ri t b k)) (some (.a,loc,μ)))=some r->c):c:=by
 cases m with
 |zero=>cases h
 |succ m=>exact k m (dh _) h
theorem ace{c:Type}{M:Model}{m:Sem c}{Q:c->az->Prop}{E:aA->az->Prop}(h:∀a,(∀b t,Q b t->a b t)->aI M A m a no s):aI M A m Q E s:=jv (h Q λJ J z=>z)
theorem OH{t:Expr}{x y:List je}{pos:Pos}(C:jf D n cl t)(I:jj D n fuel cl x):kj D n fuel cl (.While t x y pos):=by
 intro sc A env loc ρ μ s i loc' aG R a h
 refine gSm h λN h=>?_
 refine wpAny_While (codeAny_whileLoop (λm t'=>∀W:Prop,(∀j bu bF,ri (aO D.T cl (cE D.X sc t)) (aY D.T cl fuel (yU D.X sc x)) m j bF=some (i,loc',aG)->b_ (jC env) D.G D.b ρ s bu bF t'->At D sc env j bu bF t'->W)->W)
  (λm t' M=>M _ λj bu bF f P a1=>ace λQ E=>V5 f λk L f=>om f λv H F f=>tm f (λhb f=>C.d R a1 F hb λo s2 g=>E _ _ (wC f (λp mP z f=>?_) λw p mP z f=>?_)) λhb f=>C.d R a1 F hb λo s2 g=>E _ _ (jv ?_)) fuel λW k=>k loc ρ μ h (b_.T a.d) a)
 ·exact jv (gy.c (I sc A env j o H s2 .a p mP R (a1.c g) z) λr J l B=>⟨k,L,λW k=>k p r mP f ((P.m (eX a1 g)).m l) ((a1.c g).h l B)⟩)
 ·exact jv (gy.e (I sc A env j o H s2 (.b w) p mP R (a1.c g) z) λr u J l B q=>p3Q (P:=λi loc' aG=>gy D env ρ s i loc' aG (.ret u) J) f ⟨r,(P.m (eX a1 g)).m l,B,u,rfl,q⟩)
 ·exact iL.mp N▸AK (Dl (P:=λi loc' aG=>gy D env ρ s i loc' aG .next s2) f ⟨o,P.m (eX a1 g),(a1.c g).e,rfl⟩)
theorem Of{d:Prop}{i lo:Expr}(h:sl0 i=some lo)(k:∀p,i= .Slice (some lo) none none p->d):d:=by
 cases i with
 |Slice a b c p=>cases b with
  |none=>cases c with
   |none=>cases h;exact k p rfl
   |some _=>cases h
  |some _=>cases h
 |_=>cases h
theorem NG{b:Type}{l:List b}{a:b}(e:l=[a]):a∈l:=e▸ .head _
theorem Mi{b:Prop}{T:Tab}{X:CX}{μ:Hp}{ts:List Expr}{r:Fl×Loc×Hp}(h:bQ T cl fuel (C9 ts λt=>abT X sc t) loc μ=some r)
  (k1:∀o lo p q,ts=[.Subscript o (.Slice (some lo) none none p) q]->bQ T cl fuel (.k (cE X sc o) (cE X sc lo)) loc μ=some r->b)
  (k2:∀o i q,ts=[.Subscript o i q]->ml i=false->bQ T cl fuel (.l (cE X sc o) (cE X sc i)) loc μ=some r->b):b:=by
 refine JY h λt c h=>?_
 cases t with
 |Subscript o i q=>exact cSm h (λa h=>Rc h λlo d h=>Of d λp e=>k1 o lo p q (e▸c) h) λa h=>k2 o i q c a h
 |_=>exact Ar h
theorem H7{ts:List Expr}{pos:Pos}(B:∀o i p,.Subscript o i p∈ts->bB D n cl o/\bB D n cl i)(H:∀o lo p q,.Subscript o (.Slice (some lo) none none p) q∈ts->bB D n cl lo):kj D n fuel cl (.Delete ts pos):=by
 intro sc A env loc ρ μ s l loc' aG R a h
 refine Mi h (λo lo p q e h=>?_) λo i q e F h=>?_
 ·refine om h λx bF w h=>om h λy I t h=>bm h λmP C h=>e▸wpAny_Delete (R7 ?_)
  rw[Wk]
  refine aw ((B _ _ _ (NG e)).1.b R a w λbu ov s1 g v=>aw (bG (wpAny_Slice ?_)))
  rw[evalPart_some]
  refine((H _ _ _ _ (NG e)).b R (a.c g) t λG iv s2 j E=>?_)
  rw[Lf]
  refine aF (aF (aw (du (aw (bG (a_ (HZ C j.d (j.y g.d v) E) (λJ m z=>?_) λJ J z=>z))))))
  obtain⟨r,k⟩:=z
  exact mZ (Wr (Dl (P:=λl loc' aG=>gy D env ρ s l loc' aG .next m) h ⟨r,eX a ((g.f j).f k),(((a.c g).c j).c k).e,rfl⟩))
 ·refine om h λx bF w h=>om h λy I t h=>bm h λmP C h=>e▸wpAny_Delete (R7 ?_)
  rw[Wk]
  refine aw ((B _ _ _ (NG e)).1.b R a w λbu ov s1 g v=>aw (bG ((B _ _ _ (NG e)).2.b R (a.c g) t λG iv s2 j E=>aw (du (aw (bG (a_ (H0 C j.d (j.y g.d v) E (R.u (by decide))) (λJ m z=>?_) λJ J z=>z)))))))
  obtain⟨r,k⟩:=z
  exact mZ (Wr (Dl (P:=λl loc' aG=>gy D env ρ s l loc' aG .next m) h ⟨r,eX a ((g.f j).f k),(((a.c g).c j).c k).e,rfl⟩))
theorem Jx(a:At D sc env loc ρ μ s)(g:env.kindOf (D.G.a x)=some .local\/env.kindOf (D.G.a x)=some .cell)(e:bz loc x=some r):aI (aH D.a D.G.w) A (loadName env (D.G.a x)) (Ok D.G D.b ρ s μ r) no s:=by
 rcases g with g|g
 ·refine cf a.e.z λm o hm=>?_
  refine cf (hm x r e g) λu j h=>?_
  exact Wu a.e.i g o j (Ok.f a.d h)
 ·refine dY (a.e.l x r e (.inl g)) λc u j h k=>?_
  exact Xh a.e.i g j h (Ok.f a.d k)
theorem xl{P:Operator->MV->MV->MV->Prop}(d:LW op=some o)(h:Gv o x y=some v)(k:∀i j,P .Add (.c i) (.c j) (.c (i+j))):P op x y v:=by
 cases op<;>cases d<;>first|exact im h λi a h=>im h λj b h=>fJ a (fJ b (kf h (k i j)))|cases h
theorem Ee(L:gF D)(Y:bB D n cl e):kj D n fuel cl (.AugAssign (.Name x np) op e pos):=by
 intro sc A env loc ρ μ s y loc' aG R a h
 refine Rc h λo W h=>Rc h λk r h=>gm r λq r=>bm h λF g h=>om h λI bF B h=>bm h λw V h=>?_
 refine xl (P:=λop F I w=>bz loc k=some F->aO D.T cl (cE D.X sc e) loc μ=some (I,bF)->some (Fl.a,bp loc k w,bF)=some (y,loc',aG)->aI (aH D.a D.G.w) A (exec (.AugAssign (.Name x np) op e pos) env) (gy D env ρ s y loc' aG) no s) W V (λi j g B h=>?_) g B h
 obtain⟨hN,H,_,_⟩:=L.b x k r
 rw[arm_exec_AugAssign]
 have p:=Dc a q
 have ld:=Jx (A:=A) a (H.symm▸p) g
 rw[H] at ld
 refine aw (du (aw (Ok.C ld λbu N s1 E U=>aw (bG (Y.b R (a.c E) B λfe v s2 t Z=>?_)))))
 apply U.f λt1=>?_
 apply Z.f λt2=>?_
 have a3:=((a.c E).c t).c ((bT.l t.d).u _ (cN _))
 refine aw (du (aw (wpAny_operate' (wpAny_iadd_int (aw (du (aw (wpAny_bindName ?_))))))))
 refine a_ (Ao L (w:= .c (i+j)) a3 q r (by unfold VR;exact⟨_,rfl⟩)) (λJ M z=>aF ?_) λJ J z=>z
 obtain⟨S,O,Q⟩:=z
 exact Dl (P:=λy loc' aG=>gy D env ρ s y loc' aG .next M) h ⟨S,(eX a ((E.f t).f ((bT.l t.d).u _ (cN _)))).m O,Q,rfl⟩
theorem Ed(L:gF D){ob:Expr}{g:Str}{Q pos:Pos}{op:Operator}{e:Expr}(B:bB D n cl ob)(he:bB D n cl e):kj D n fuel cl (.AugAssign (.Attribute ob g Q) op e pos):=by
 intro sc A env loc ρ μ s H loc' aG R a h
 refine Rc h λo ho h=>Rc h λk W h=>om h λw bF Y h=>bm h λu F h=>om h λU E r h=>bm h λx hw h=>bm h λmP I h=>?_
 refine xl (P:=λop u U x=>iw D.T bF w k=some u->aO D.T cl (cE D.X sc e) loc bF=some (U,E)->ot D.T E w k x=some mP->aI (aH D.a D.G.w) A (exec (.AugAssign (.Attribute ob g Q) op e pos) env) (gy D env ρ s H loc' aG) no s) ho hw (λi j F r I=>?_) F r I
 obtain⟨_,hN,_,_⟩:=L.b g k W
 rw[arm_exec_AugAssign_2]
 refine aw (du (aw (B.b R a Y λbu ov s1 p O=>aw (bG (aw (du (aw ?_)))))))
 rw[<-hN]
 refine Ok.C (xU L.e F p.d O) λfe V s2 q q2=>aw (bG (he.b R ((a.c p).c q) r λN v M m Z=>?_))
 apply q2.f λt1=>?_
 apply Z.f λt2=>?_
 have t:bT D.G D.b N M N E {M with toks:=M.toks+1}:=(bT.l m.d).u _ (cN _)
 refine aw (du (wpAny_operate' (wpAny_iadd_int (aw (du (aw (bG (a_ (yD L.e I t.d (t.y m.d (m.y q.d (q.y p.d O))) (y:= .c (i+j)) (by unfold VR;exact⟨_,rfl⟩)) (λJ s5 z=>?_) λJ J z=>z))))))))
 obtain⟨rj,P5⟩:=z
 have S:=(((p.f q).f m).f t).f P5
 exact aw (mZ (aF (Dl (P:=λH loc' aG=>gy D env ρ s H loc' aG .next s5) h ⟨rj,eX a S,(a.c S).e,rfl⟩)))
end
end
section
open PySem PySem.Calls PySem.W PyProof.Rows
open PySem Builtin
inductive Fr (store:MV->Loc->Hp->Option (Loc×Hp)) (body:Loc->Hp->Option (Fl×Loc×Hp)) (K:IK):Nat->Nat->Loc->Hp->Fl->Loc->Hp->Prop
 |d {k:Nat} {loc:Loc} {μ:Hp} (h:K.c μ k=some none):Fr store body K k 0 loc μ .a loc μ
 |e {k n:Nat} {loc e_ iW:Loc} {μ bF eh:Hp} {v r:MV} (h:K.c μ k=some (some v)) (h1:store v loc μ=some (e_,bF)) (h2:body e_ bF=some (.b r,iW,eh)):Fr store body K k (n+1) loc μ (.b r) iW eh
 |f {k n:Nat} {loc e_ iW loc':Loc} {μ bF eh aG:Hp} {v:MV} {fl:Fl} (h:K.c μ k=some (some v)) (h1:store v loc μ=some (e_,bF)) (h2:body e_ bF=some (.a,iW,eh)) (r:Fr store body K (k+1) n iW eh fl loc' aG):
  Fr store body K k (n+1) loc μ fl loc' aG
theorem Fr.g{store:MV->Loc->Hp->Option (Loc×Hp)}{body:Loc->Hp->Option (Fl×Loc×Hp)}{K:IK}{k n:Nat}{i loc':Loc}{μ aG:Hp}{t:Fl}(h:Fr store body K k n i μ t loc' aG):
  ∀{C:Fl->Loc->Hp->Prop} {o:Prop},C t loc' aG->(K.c μ k=some none->C .a i μ->o)->(∀j l bF m v r,K.c μ k=some (some v)->store v i μ=some (j,bF)->body j bF=some (.b r,l,m)->C (.b r) l m->o)->
   (∀n0 j l bF m v,n=n0+1->K.c μ k=some (some v)->store v i μ=some (j,bF)->body j bF=some (.a,l,m)->Fr store body K (k+1) n0 l m t loc' aG->o)->o:=
 h.casesOn (λh c u J J=>u h c) (λh q p c J w J=>w _ _ _ _ _ _ h q p c) λh q p r J J J hm=>hm _ _ _ _ _ _ rfl h q p r
section
variable{store:MV->Loc->Hp->Option (Loc×Hp)}{body:Loc->Hp->Option (Fl×Loc×Hp)}
theorem IA{K:IK}{k n:Nat}{d:Loc}{μ:Hp}{v:MV}{i:Fl}{loc':Loc}{aG:Hp}{f:Loc->Hp->Ex}(o:K.c μ k=some (some v))(e:(ob (store v d μ) λρ μ=>ox (body ρ μ) f)=some (i,loc',aG))(p:∀g j,f g j=some (i,loc',aG)->Fr store body K (k+1) n g j i loc' aG):Fr store body K k (n+1) d μ i loc' aG:=
 om e λq bF m e=>wC e (λg j l e=> .f o m l (p _ _ e)) λr g j l e=>by refine p3Q e ?_;exact .e o m l
theorem ID(all:List MV):∀(r:List MV) (k:Nat) (c:Loc) (μ:Hp) (f:Fl) (loc':Loc) (aG:Hp),all.drop k=r->qG body store r c μ=some (f,loc',aG)->Fr store body (.i all) k r.length c μ f loc' aG
 |[],k,c,μ,f,loc',aG,h,e=>by
  refine Dl e ?_
  exact .d (congrArg some (iS.mpr (kg.mp h)))
 |v::r,k,c,μ,f,loc',aG,h,e=>by
  refine m_ (qC h) λJ g j=>?_
  exact IA (congrArg some g) e λl m e=>ID all r (k+1) _ _ _ _ _ j e
theorem IB(m:Nat):∀(j k:Nat) (g:Loc) (μ:Hp) (i:Fl) (loc':Loc) (aG:Hp),k+j=m->qG body store ((List.range' k j).map λ(j:Nat)=>MV.c j) g μ=some (i,loc',aG)->Fr store body (.f m) k j g μ i loc' aG
 |0,k,g,μ,i,loc',aG,h,e=>by
  refine Dl e ?_
  exact .d (congrArg some (if_neg (QT h)))
 |j+1,k,g,μ,i,loc',aG,h,e=>IA (congrArg some (if_pos (Hf h))) e λl n e=>IB m j (k+1) _ _ _ _ _ (Bb h) e
theorem zK(en:Bool)(n:Nat)(all:List MV):∀(r:List MV) (k:Nat) (c:Loc) (μ:Hp) (i:Fl) (loc':Loc) (aG:Hp),all.drop k=r->k<=all.length->EH en body store n all k r c μ=some (i,loc',aG)->
  Fr store body (cond en (.e n) (.g n)) k r.length c μ i loc' aG
 |[],k,c,μ,i,loc',aG,h,hk,e=>Dp e λl f j e=>by
  refine Dl e ?_
  cases(kz _ _).mp j
  have o:=iS.mpr (kg.mp h)
  refine .d ?_
  cases en
  ·exact(qP f _).trans (congrArg some o)
  ·exact(qP f _).trans (by rw[o];rfl)
 |v::r,k,c,μ,i,loc',aG,h,hk,e=>Dp e λl f j e=>by
  cases(kz _ _).mp j
  refine m_ (qC h) λq m p=>?_
  refine IA ?_ e λt u e=>zK en n all r (k+1) _ _ _ _ _ p q e
  cases en
  ·exact(qP f _).trans (congrArg some m)
  ·exact(qP f _).trans (m▸rfl)
end
section
variable{W:cK->Prop}{G:Cfg}{hb h h':dO}{ρ ρ':fq}{μ aG:Hp}{s s':az}{prog:fh}{A:da}{it:aA}{a b:cK}{k:Nat}{K:IK}
theorem te{E:aA->az->Prop}{Q:Unit->az->Prop}(g:s.heap.get? a=some o)(e:o.cls= .type T)
  (f:["enumerate","zip","dict_itemiterator","dict_reverseitemiterator","odict_iterator","itertools.zip_longest","itertools.pairwise"].contains T=false) (q:Q () s):aI (aH prog G.w) A (iA t (.ref a) v) Q E s:=by
 have body:aI (aH prog G.w) A (iA (.List [] ⟨0,0,0,0⟩) (.ref a) v) Q E s:=by
  obtain⟨c,d,x,y⟩:=o
  subst e
  cases v<;>first|exact aF q|skip
  refine aw (wpAny_load g ?_)
  cases x<;>first|exact aF q|exact jA (by rw[f];rfl) (aF q)
 cases t with
 |Tuple _ _ _=>exact body
 |List _ _=>exact body
 |_=>exact aF q
theorem Nl{P:Expr->Prop}(h:lO t=true)(k:∀c x pos,P (.Tuple c x pos)):P t:=by
 cases t with
 |Tuple c x pos=>exact k c x pos
 |_=>cases h
theorem Uv{P:IK->Prop}(h:K.d=true)(k:∀n,P (.e n)):P K:=by
 cases K with
 |e n=>exact k n
 |_=>cases h
theorem ab4{E:aA->az->Prop}{Q:Unit->az->Prop}(h:K.d=false)(I:ik hb s.heap ρ it a b k K)(q:Q () s):aI (aH prog G.w) A (iA t it v) Q E s:=by
 cases K with
 |e n=>cases h
 |i l=>obtain⟨t,vs,e,⟨o,g,c,d⟩,_⟩:=I;exact e▸te g c (by decide) q
 |f m=>exact I.1▸te I.2.2 rfl (by decide) q
 |g n=>obtain⟨p,e,_,⟨o,g,c,d⟩⟩:=I;exact e▸te g c (by decide) q
theorem KP{Q:Option aA->az->Prop}{E:aA->az->Prop}(S:eW G hb s.heap ρ μ)(I:ik hb s.heap ρ it a b k (IK.e n))(oa:Off ρ a)(ob:Off ρ b)(ha:hb.get? a=none)(zN:hb.get? b=none)(qk:(IK.e n).d=true->lO t=true/\a≠b)(e:(IK.e n).c μ k=some (some x))
  (q:∀v s1,(∀{F:Unit->az->Prop} {R:aA->az->Prop},(∀s2,b_ (λc=>c=a\/c=b) G hb ρ s ρ μ s2->VR hb s2.heap ρ x v->ik hb s2.heap ρ it a b (k+1) (IK.e n)->F () s2)->aI (aH prog G.w) A (iA t it v) F R s1)->Q (some v) s1):
  aI (aH prog G.w) A (FU it) Q E s:=by
 refine iu (qk rfl) λH u=>?_
 refine pM I λp old N Y M T=>?_
 refine lm e λJ l h0 hn e=>mm (ba e) λy hy ex=>S.O hn (MV.d.inj h0▸Y) λvs j g r=>?_
 refine cf (r.D hy) λv hv q1=>?_
 refine N▸wpAny_pyNext_enum_item (items:=vs.toArray) T M (gU g) (x:=v) (by simpa using hv) (cH u) λh1 L C U0 hz1 vg=>q _ _ λ{F R} q2=>?_
 refine Nl (P:=λt=>aI (aH prog G.w) A (iA t it (.ref s.heap.objs.size)) F R {s with heap:=h1,toks:=s.toks+1}) H λU x1 pos=>?_
 refine N▸wpAny_letOwnedTupleGo_enum L λX z Ry=>?_
 have f:=Ry
 have gi:=C.choose_spec.1
 have m:∀c o,¬(c=a\/c=b)->s.heap.get? c=some o->X.get? c=some o:=λc o w g=>(f.2 c λe=>w (.inr e)).trans (vg c o (λe=>w (.inr e)) (λe=>w (.inl e)) g)
 have P:b_ (λc=>c=a\/c=b) G hb ρ s ρ μ {s with heap:=X,toks:=s.toks+1}:=by
  refine b_.V S (λc w=>w.elim (λe=>e▸oa) λe=>e▸ob) (λc w=>w.elim (λe=>e▸ha) λe=>e▸zN) (λc vs w=>w.elim (λe=>e▸I.i vs) λe=>e▸I.j vs) m (λc e=>?_) _ (cN _)
  by_cases hc:c=a
  ·rw[hc,f.2 _ u,gi] at e;cases e
  ·by_cases Z:c=b
   ·rw[Z] at e;exact absurd (z.symm.trans e) (by simp)
   ·cases q:s.heap.get? c with
    |none=>rfl
    |some o=>rw[m c o (λw=>w.elim hc Z) q] at e;cases e
 refine q2 _ P (ex▸?_) ⟨p,v,N,Y,⟨_,(f.2 _ u).trans gi,C.choose_spec.2⟩,?_⟩
 ·exact⟨_,[.int k s.toks,v],rfl,(f.2 _ λe=>by rw[<-e] at T;exact absurd ((fF s.heap).symm.trans T) (by simp)).trans U0,dw.o (⟨_,rfl⟩) (dw.o (P.O q1) dw.B)⟩
 ·rw[(xq:((k+1:Nat):Int)=(k:Int)+1)];exact z
theorem OC{Q:Option aA->az->Prop}{E:aA->az->Prop}(S:eW G hb s.heap ρ μ)(I:ik hb s.heap ρ it a b k K)(i:Off ρ a)(ob:Off ρ b)(j:hb.get? a=none)(u:hb.get? b=none)(r:K.d=true->lO t=true/\a≠b)(e:K.c μ k=some (some x))
  (q:∀v s1,(∀{f:Unit->az->Prop} {l:aA->az->Prop},(∀s2,b_ (λc=>c=a\/c=b) G hb ρ s ρ μ s2->VR hb s2.heap ρ x v->ik hb s2.heap ρ it a b (k+1) K->f () s2)->aI (aH prog G.w) A (iA t it v) f l s1)->Q (some v) s1):
  aI (aH prog G.w) A (FU it) Q E s:=by
 cases hk:K.d with
 |true=>
  obtain⟨n,rfl⟩:∃n,K= .e n:=Uv (P:=λK=>∃n,K= .e n) hk λn=>⟨n,rfl⟩
  exact KP S I i ob j u r e q
 |false=>exact C5 S I i j hk e λv s1 P p m=>q v s1 λ{f l} q2=>ab4 hk m (q2 s1 (P.E λb o g w=> .inl w) p m)
end
end
section
open PySem PySem.Calls PySem.W PyProof.Rows
open PySem Builtin
section
variable{D:Dat}{sc:Sc}{env:Env}{loc loc':Loc}{ρ ρ':fq}{μ aG:Hp}{s s':az}{A:da}{n fuel:Nat}{cl:Call}
theorem Ub(h:LX X sc t=some m):cT X sc t=some m/\Eb D n cl t:=by
 cases t<;>first|exact⟨h,trivial⟩|cases h
noncomputable def WO(env:Env)(a b:cK)(c:cK):Prop:=jC env c\/c=a\/c=b
theorem WO.a{ad bd:cK}{c:fq}{d:Hp}{e:az}(f:s.heap.get? ad=none)(h:s.heap.get? bd=none)(p:b_ (WO env ad bd) D.G D.b ρ s c d e):b_ (jC env) D.G D.b ρ s c d e:=p.E λb o g w=>by
 rcases w with w|rfl|rfl
 ·exact w
 ·rw[f] at g;cases g
 ·rw[h] at g;cases g
inductive adA (D:Dat) (store:MV->Loc->Hp->Option (Loc×Hp)) (body:Loc->Hp->Ex) (sc:Sc) (env:Env) (K:IK) (it:aA) (ad bd:cK) (fl:Fl) (loc':Loc) (aG:Hp) (ρ:fq) (s:az) (j:Nat) (t:az):Prop
 |mk (k:Nat) (e_:Loc) (bu:fq) (bF:Hp) (fr:Fr store body K k j e_ bF fl loc' aG) (P:b_ (WO env ad bd) D.G D.b ρ s bu bF t) (o1:Off bu ad) (o2:Off bu bd) (oa ob:Obj) (ga:t.heap.get? ad=some oa) (gb:t.heap.get? bd=some ob) (I:ik D.b t.heap bu it ad bd k K) (a:At D sc env e_ bu bF t)
section
variable{t:Expr}{m:MT}{x:List je}{K:IK}{it:aA}{ad bd:cK}{k:Nat}{e_ iW yk:Loc}{bu:fq}{bF eh mP:Hp}{t':az}{fl2:Fl}{v:MV}{oa ob:Obj}
theorem vy{Q:Option aA->az->Prop}{E E1 E2 E3:aA->az->Prop}{J:Flow->az->Prop}(L:gF D)(hx:jj D n fuel cl x)(R:fC (n+1) A)(a:At D sc env loc ρ μ s)(hm:LX D.X sc t=some m)(qk:K.d=true->lO t=true/\ad≠bd)(fa:s.heap.get? ad=none)(fb:s.heap.get? bd=none)
  (P:b_ (WO env ad bd) D.G D.b ρ s bu bF t') (S:Off bu ad) (o2:Off bu bd) (ga:t'.heap.get? ad=some oa) (gb:t'.heap.get? bd=some ob) (I:ik D.b t'.heap bu it ad bd k K) (a1:At D sc env e_ bu bF t')
  (hi:K.c bF k=some (some v)) (Lm:eY D.T cl m v e_ bF=some (iW,eh)) (Y:aY D.T cl fuel (yU D.X sc x) iW eh=some (fl2,yk,mP))
  (q:∀u s1,aI (aH D.a D.G.w) A (iA t it u) (λ_ s2=>aI (aH D.a D.G.w) A (OU t env u) (λ_ s3=>aI (aH D.a D.G.w) A (execs x env) J E3 s3) E2 s2) E1 s1->Q (some u) s1)
  (W:∀f i l oa ob,b_ (WO env ad bd) D.G D.b ρ s i mP l->Off i ad->Off i bd->l.heap.get? ad=some oa->l.heap.get? bd=some ob->ik D.b l.heap i it ad bd (k+1) K->oU D.G D.b D.d D.e env yk l.heap i->Xi D.b l.heap i fl2 f->J f l):
  aI (aH D.a D.G.w) A (FU it) Q E t':=by
 have U:=a.k fa
 have O:=a.k fb
 refine iu (Ub (D:=D) (n:=n) (cl:=cl) hm) λhT hTP=>?_
 refine OC P.B I S o2 (a.d.M fa) (a.d.M fb) qk hi λu s1 go=>q u s1 (go λs2 p q1 I1=>?_)
 have a2:=a1.h p (a1.e.B p λb w e=>e.elim (λe=>U (e▸w)) λe=>O (e▸w))
 refine jv (a_ (oV L hTP hT R a2 q1 Lm) (λ_ s3 z=>?_) λ_ _ z=>z)
 obtain⟨j1,j,F3⟩:=z
 refine p.ac ga λoa2 C=>p.ac gb λob2 r=>?_
 have Z:=(P.m (p.E λb o g w=> .inr w)).m (j.E λb o g w=> .inl w)
 have I3:=I1.c j p.B S o2 U O
 have V:=j.u _ _ C S U
 have N:=j.u _ _ r o2 O
 have F:=j.M C S
 have y:=j.M r o2
 have a3:=a2.h j F3
 clear P p I I1 ga gb C r q1 a1 F3 S o2 j a2
 refine jv (a_ (hx sc A env iW j1 eh s3 fl2 yk mP R a3 Y) (λf s4 z=>?_) λ_ _ z=>z)
 obtain⟨i,H,F4,hf⟩:=z
 exact W f i s4 _ _ (Z.m (H.E λb o g w=> .inl w)) (H.M V F) (H.M N y) (H.u _ _ V F U) (H.u _ _ N y O) (I3.c H a3.d F y U O) F4 hf
theorem nW(L:gF D){nn:Nat}{y:Fl}{s2:az}(hx:jj D n fuel cl x)(R:fC (n+1) A)(a:At D sc env loc ρ μ s)(hm:LX D.X sc t=some m)(qk:K.d=true->lO t=true)(So:y6 D ρ s bF K it s2)
  (fr:Fr (eY D.T cl m) (aY D.T cl fuel (yU D.X sc x)) K 0 nn loc bF y loc' aG) {Q:Flow->az->Prop} {E:aA->az->Prop} (k:∀f s',gy D env ρ s y loc' aG f s'->Q f s'):
  n8 (aH D.a D.G.w) A (.forLoop t it x [] env) (λr s'=>match r with| .ok f=>Q f s'| .error e=>E e s') s2:=by
 obtain⟨ad,bd,s1,bu,h2,t2,rfl,P,p,ht,o,S,I0,ne,ob,J⟩:=So
 have a1:=a.c P
 have O:=eX a P
 have k':∀f s',gy D env bu s1 y loc' aG f s'->Q f s':=λf s' z=>k f s' (gy.b O z)
 clear k a P O
 have P0:bT D.G D.b bu s1 bu bF {s1 with heap:=h2,toks:=t2}:=bT.B a1.d p t2 ht
 refine I0.f λoa F=>codeAny_forLoop_any (adA D (eY D.T cl m) (aY D.T cl fuel (yU D.X sc x)) sc env K it ad bd y loc' aG bu s1) (λj t' hI=>?_) nn ⟨0,loc,bu,bF,fr,P0.w a1.d,gV a1.d o,gV a1.d S,oa,ob,F,J,I0,a1.c P0⟩
 clear I0 F J P0 fr p
 obtain⟨k,e_,fe,eh,W,P,o1,o2,oa,ob,F,J,I,a2⟩:=hI
 have l:K.d=true->lO t=true/\ad≠bd:=λh=>⟨qk h,ne h⟩
 refine W.g (C:=λy loc' aG=>∀f s',gy D env bu s1 y loc' aG f s'->Q f s') k' (λU c=>?_) (λ_ _ _ _ _ u U Z hb c=>?_) λn0 _ _ _ _ _ e U Z hb hr=>?_
 ·refine Il P.B I R.a U λh5 k5=>AK (c _ _ ⟨fe,WO.a o S (P.X (h':=h5) o o1 (a1.d.M o) I.i k5),a2.e.H k5 I.i (a1.k o),rfl⟩)
 ·refine vy L hx R a1 hm l o S P o1 o2 F J I a2 U Z hb (λu s1 h=>h) λf Y t4 oa ob V _ _ _ _ II FF ff=>?_
  refine cf ff λu e q=>?_
  refine fJ e ?_
  exact c _ _ ⟨Y,WO.a o S V,FF,u,rfl,q⟩
 ·refine vy L hx R a1 hm l o S P o1 o2 F J I a2 U Z hb (λu s1 h=>h) λf Y t4 oa ob V oA oB gA gB II FF ff=>?_
  cases ff
  exact⟨n0,e▸dh _,.mk _ _ Y _ hr V oA oB oa ob gA gB II ⟨V.B,FF,aD a1.j V.N,a1.i⟩⟩
end
end
end
section
open PySem PySem.Calls PySem.W PyProof.Rows
open PySem Builtin
section
variable{D:Dat}{sc:Sc}{env:Env}{loc loc':Loc}{ρ ρ':fq}{μ aG:Hp}{s s':az}{A:da}{n fuel:Nat}{cl:Call}
theorem Om{Q:aA->az->Prop}(r:bB D n cl i)(R:fC (n+1) A)(a:At D sc env loc ρ μ s)(h:aO D.T cl (cE D.X sc i) loc μ=some (.e l,aG))
  (k:∀c s2,y6 D ρ s aG (.i l) c s2->Q c s2):aI (aH D.a D.G.w) A (eval i env) (λx s1=>aI (aH D.a D.G.w) A (OX x) Q no s1) no s:=by
 refine r.b R a h λbu u s1 m q=>?_
 refine dY q.d λj f z0 g p=>?_
 refine fJ z0 ?_
 have kp:∀b o,s1.heap.get? b=some o->(s1.heap.push {cls:= .type "tuple_iterator",data:= .fields #[.ref j,.int 0 0]}).get? b=some o:=λb o e=>bg _ e
 exact wpAny_pyIter_tuple (items:=f.toArray) ⟨_,g,rfl,_,rfl⟩ (ph (K:= .i l) m rfl ⟨j,f,rfl,⟨_,bU _ rfl,rfl,rfl⟩,kp _ _ g,dw.t (λa vs g=>kp _ _ g) (λJ J e=>e) _ _ p⟩ rfl k)
theorem Ol(L:gF D){Q:aA->az->Prop}(z:oK D.X sc "enumerate" i=true)(B:∀r p a q,i= .Call (.Name r p) [a] [] q->bB D n cl a)(R:fC (n+1) A)(a:At D sc env loc ρ μ s)(h:aO D.T cl (UQ (cA D.X sc i)) loc μ=some (.d m,aG))(C:aG[m]?=some (.a l))
  (k:∀v s2,y6 D ρ s aG (.e m) v s2->Q v s2):aI (aH D.a D.G.w) A (eval i env) (λx s1=>aI (aH D.a D.G.w) A (OX x) Q no s1) no s:=by
 refine Ew L.l λO F M P U S b5=>?_
 refine HA L z F b5 (.c _) (λJ h=>(vf L h).2) (by decide) B R a h λu s1 bu t E=>?_
 refine ur (t.d.I C E) λp1 N j z0 y V g H=>?_
 refine fJ z0 ?_
 refine call_enumerate_list (gU g) λh' f b hsz kp=>wpAny_pyIter_enum f (k _ _ ⟨s1.heap.objs.size,s1.heap.objs.size+1,s1,bu,h',s1.toks,rfl,t,kp,aC _,fF _,?_,⟨p1,.none,rfl,y,b,f⟩,λJ e=>absurd e (gw (dh _)),_,f⟩)
 cases q:s1.heap.get? (s1.heap.objs.size+1) with
 |none=>rfl
 |some o=>exact absurd (sD q) (OR.mpr (cN _))
theorem ab1(L:gF D)(E:bB D n cl i)(C:∀r p a q,i= .Call (.Name r p) [a] [] q->bB D n cl a)(f:jj D n fuel cl x):kj D n fuel cl (.For t i x y pos):=by
 intro sc A env loc ρ μ s I loc' aG R a h
 refine gSm h λu B=>Rc B λm hm q=>?_
 clear h B
 obtain⟨u,w⟩:=aE.mp u
 obtain⟨G,H⟩:=aE.mp u
 obtain rfl:y=[]:=iL.mp G
 refine wpAny_For ?_ λv=>Dq (jw _▸H) v
 unfold abN at q
 by_cases o:oK D.X sc "range" i=true
 ·replace q:=(if_pos o)▸q
  exact om q λv bF e h=>im h λkk b h=>gm h λF k=>Dv L o C R a (b▸e) F λg s2 S=>nW L f R a hm (λh=>by cases h) S (IB kk.toNat kk.toNat 0 _ _ _ _ _ (cQ _) (Gj▸k)) λJ J z=>z
 ·rw[if_neg o] at q
  by_cases c:oK D.X sc "enumerate" i=true
  ·rw[if_pos c] at q
   exact om q λv bF e h=>lm h λnn l b j k=>Ol L c C R a (b▸e) j λg s2 S=>nW L f R a hm (λJ=>by rw[c] at w;simpa using w) S (zK true nn l l 0 _ _ _ _ _ (iC ..) (b7 _) k) λJ J z=>z
  ·rw[if_neg c] at q
   refine om q λv bF e h=>?_
   cases v with
   |e l=>exact Om E R a e λg s2 S=>nW L f R a hm (λh=>by cases h) S (ID l l 0 _ _ _ _ _ (iC ..) h) λJ J z=>z
   |d nn=>exact lm h λnn l b j h=>Du E R a (b▸e) j λg s2 S=>nW L f R a hm (λh=>by cases h) S (zK false nn l l 0 _ _ _ _ _ (iC ..) (b7 _) h) λJ J z=>z
   |_=>cases h
end
end
section
open PySem PySem.Calls PySem.W PyProof.Rows
open PySem Builtin
section
variable{D:Dat}{sc:Sc}{env:Env}{loc loc':Loc}{ρ ρ':fq}{μ aG:Hp}{s s':az}{A:da}{n fuel:Nat}{cl:Call}
theorem jt(h:bB D n cl e)(d:∀env whole,isTrue e env whole=(do let v<-whole;standAt e.pos;holding [v] (truthy v))):xd D n cl e:=
 ⟨h,λsc A env loc ρ μ s r b aG R a c hb=>pj h (d env) sc A loc ρ μ s r b aG R a c hb⟩
theorem lq(h:∀sc loc μ (r:MV×Hp),aO D.T cl (cE D.X sc e) loc μ=some r->False):xd D n cl e:=
 ⟨λsc A env loc ρ μ s r aG R a c=>(h _ _ _ _ c).elim,λsc A env loc ρ μ s r b aG R a c hb=>(h _ _ _ _ c).elim⟩
theorem Uo(L:gF D){b iter:Expr}{x:Str}{px pos:Pos}{scope:Ly}(o:bB D n cl b)(z:bB D n cl iter)(j:∀r p a q,iter= .Call (.Name r p) [a] [] q->bB D n cl a):bB D n cl (.ListComp b [⟨.Name x px,iter,[],0⟩] scope pos):=by
 intro sc A env loc ρ μ s r aG R a h
 rw[arm_eval_ListComp]
 refine xI L o z j R a h λs1 bu bF E vs e u y Dd C g f v l B t k d=>?_
 subst u y
 refine cf (HR (A:=A) (a.c e) Dd C g f v l B t k d) λm hm i=>?_
 exact⟨m,hm,λh' w=>Ok.c e (i h' w)⟩
theorem qR{e:Expr}{a:List Expr}(h:e∈a):sizeOf e<sizeOf a:=FJ h
theorem s8(L:gF D)(w:qw D.G D.T D.c D.a D.b n cl)(N:∀c a f,D.T.a c a=some f->kT D.K (.ref (D.c f))=true):∀(m:Nat) (e:Expr),sizeOf e<m->xd D n cl e
 |0,e,h=>absurd h (wV _)
 |m+1,e,h=>by
  have d:=s8 L w N m
  cases e with
  |Constant c k pos=>exact jt Me λJ J=>rfl
  |Name x pos=>exact jt (Vr L) λJ J=>rfl
  |BoolOp op B pos=>
   have j:∀e∈B,xd D n cl e:=λe g=>d e (by have:=qR g;simp at h;exact QZ this h)
   cases op with
   |And=>exact⟨O7 λe g=>(j e g).1,O8 λe g=>(j e g).2⟩
   |Or=>exact⟨acS λe g=>(j e g).1,acT λe g=>(j e g).2⟩
  |BinOp l op r pos=>exact jt (abM (d l (Hi h)).1 (d r (Q0 h)).1) λJ J=>rfl
  |UnaryOp op x pos=>
   have v:=d x (QX h)
   exact⟨D0 v.1,OE v⟩
  |IfExp t x y pos=>
   have M:=d t (Hi h)
   have v:=d x (aba h)
   have Q:=d y (Q0 h)
   exact⟨Nc M.2 v.1 Q.1,Nd M.2 v.2 Q.2⟩
  |Dict ks B pos=>exact jt (Ut λe g=>(d e (by have:=qR g;simp at h;exact QZ this h)).1) λJ J=>rfl
  |List B pos=>exact jt (Vh λe g=>(d e (by have:=qR g;simp at h;exact aa9 this h)).1) λJ J=>rfl
  |Tuple B k pos=>exact jt (OB λe g=>(d e (by have:=qR g;simp at h;exact aa8 this h)).1) λJ J=>rfl
  |Attribute o a pos=>exact jt (T8 L (d o (QY h)).1) λJ J=>rfl
  |Subscript o i pos=>
   have P:=d o (QY h)
   by_cases j:ml i=false
   ·exact jt (ads j P.1 (d i (QX h)).1) λJ J=>rfl
   ·obtain⟨lo,H,st,p,rfl⟩:∃lo H st p,i= .Slice lo H st p:=by cases i<;>first|exact⟨_,_,_,_,rfl⟩|(exact absurd rfl j)
    cases st with
    |none=>
     refine jt (Og P.1 ?_ ?_) λJ J=>rfl
     ·cases lo with
      |none=>trivial
      |some e=>exact(d e (aa7 h)).1
     ·cases H with
      |none=>trivial
      |some e=>exact(d e (aa6 h)).1
    |some e=>exact lq λsc loc μ r h=>cEm h (λJ h=>uw h λc J=>nomatch c) λc J=>nomatch c
  |Compare l F E pos=>
   have z:=d l (Hi h)
   have u:∀e∈E,bB D n cl e:=λe g=>(d e (by have:=qR g;simp at h;exact QW this h)).1
   rcases F with _|⟨o1,_|⟨o2,_|⟨o3,os⟩⟩⟩
   ·exact lq λsc loc μ r h=>uw h λJ h=>stk h
   ·rcases E with _|⟨c1,_|⟨c2,r⟩⟩
    ·exact lq λsc loc μ r h=>uw h λJ h=>stk h
    ·exact⟨Ug L z.1 (u _ (by simp)),Uh L z.1 (u _ (by simp))⟩
    ·exact lq λsc loc μ r h=>uw h λJ h=>stk h
   ·rcases E with _|⟨c1,_|⟨c2,_|⟨c3,r⟩⟩⟩
    ·exact lq λsc loc μ r h=>uw h λJ h=>stk h
    ·exact lq λsc loc μ r h=>uw h λJ h=>stk h
    ·exact⟨Ui z.1 (u _ (by simp)) (u _ (by simp)),Uj z.1 (u _ (by simp)) (u _ (by simp))⟩
    ·exact lq λsc loc μ r h=>uw h λJ h=>stk h
   ·exact lq λsc loc μ r h=>uw h λJ h=>stk h
  |Call f args ks pos=>
   have I:∀e∈args,bB D n cl e:=λe g=>(d e (by have:=qR g;simp at h;exact Hh this h)).1
   cases f with
   |Name x p=>exact⟨HM L w I,HO (HM L w I)⟩
   |Attribute o a p=>
    have key:=Vn (name:=a) (apos:=p) (pos:=pos) (ks:=ks) L w (d o (aa5 h)).1 I N
    exact⟨key,HO key⟩
   |_=>exact lq λsc loc μ r h=>uw h λJ h=>stk h
  |ListComp C gens scope pos=>
   refine jt ?_ λJ J=>rfl
   intro sc A env loc ρ μ s r aG R a O
   refine xT O λx px iter S=>?_
   subst S
   refine Uo L (d C (aa4 h)).1 (d iter (aa3 h)).1 (λr p a q e=>?_) sc A env loc ρ μ s _ aG R a O
   subst e
   exact(d _ (aa2 h)).1
  |_=>exact lq λsc loc μ r h=>stk h
end
end
section
open PySem PySem.Calls PySem.W PyProof.Rows
open PySem Builtin
section
variable{D:Dat}{sc:Sc}{env:Env}{loc loc':Loc}{ρ ρ':fq}{μ aG:Hp}{s s':az}{A:da}{n fuel:Nat}{cl:Call}
theorem HX{st:je}(h:∀sc loc μ (r:Fl×Loc×Hp),bQ D.T cl fuel (cS D.X sc st) loc μ=some r->False):kj D n fuel cl st:=λsc A env loc ρ μ s c loc' aG R a b=>(h _ _ _ _ b).elim
theorem o_:∀{b:List je},(∀st∈b,kj D n fuel cl st)->jj D n fuel cl b
 |[],_=>acP
 |st::r,h=>Uq (h st (.head _)) (o_ λx a=>h x (.tail _ a))
theorem Oj(E:∀e,xd D n cl e)(v:Expr):Sf D n cl v:=λJ J J J J J J=>⟨(E _).1,(E _).1,λJ J J J J=>(E _).1⟩
theorem Oy(E:∀e,xd D n cl e)(t:Expr):Eb D n cl t:=by
 cases t<;>first|exact trivial|exact(E _).1|exact⟨(E _).1,(E _).1⟩
theorem sv{e:je}{a:List je}(h:e∈a):sizeOf e<sizeOf a:=FJ h
theorem tU(L:gF D)(E:∀e,xd D n cl e):∀(m:Nat) (st:je),sizeOf st<m->kj D n fuel cl st
 |0,e,h=>absurd h (wV _)
 |m+1,st,h=>by
  have c:=tU L E m
  cases st with
  |Expr v pos=>exact UA (E v).1
  |Return o pos=>
   refine Kc ?_
   cases o with
   |none=>trivial
   |some e=>exact(E e).1
  |Assign ts v pos=>exact HD L (E v).1 (Oj E v) λt J=>Oy E t
  |AugAssign t op v pos=>
   cases t with
   |Name x p=>exact Ee L (E v).1
   |Attribute o a p=>exact Ed L (E o).1 (E v).1
   |_=>exact HX λsc loc μ r h=>Rc h λJ J h=>Ar h
  |If t x y pos=>
   exact ad7 (E t).2 (o_ λst b=>c st (by have:=sv b;simp at h;exact Hh this h)) (o_ λst b=>c st (by have:=sv b;simp at h;exact QW this h))
  |While t x y pos=>exact OH (E t).2 (o_ λst b=>c st (by have:=sv b;simp at h;exact Hh this h))
  |For t i x y pos=>exact ab1 L (E i).1 (λr p a q J=>(E a).1) (o_ λst b=>c st (by have:=sv b;simp at h;exact(gz [_,_,_,_,_,_,_] V0.A V0.G (.o (V0.A+1) V0.B (.o (1+V0.C+V0.D+V0.B+V0.E+V0.F+1) (V0.G+1) .z)) rfl this h)))
  |Delete ts pos=>exact H7 (λo i p J=>⟨(E o).1,(E i).1⟩) λo lo p q J=>(E lo).1
  |_=>exact HX λsc loc μ r h=>Ar h
end
end
section
open PySem PySem.Calls PySem.W PyProof.Rows
open PySem Builtin
section
variable{D:Dat}{sc:Sc}{env:Env}{loc loc':Loc}{ρ ρ':fq}{μ aG:Hp}{s s':az}{A:da}{n fuel:Nat}{cl:Call}
set_option tactic.hygienic true in
theorem jN:∀(names:List (Str×jr)) (lo:Nat) (a:List (Str×cK)) (x:Str),((x,iO)∈names\/(a.lookup x).isSome)->((Lz lo names a).lookup x).isSome
 |[],lo,a,x,h=>by
  rcases h with h|h
  ·cases h
  ·exact h
 |(nm,k)::r,lo,a,x,h=>by
  unfold Lz
  split
  ·rename_i hk
   refine jN r _ _ x ?_
   rcases h with h|h
   ·rcases cx.mp h with e|h
    ·refine E9 e ?_;exact .inr (by simp[cR])
    ·exact .inl h
   ·refine .inr ?_
    rw[cR]
    split
    ·rfl
    ·exact h
  ·rename_i hk
   refine jN r _ _ x ?_
   rcases h with h|h
   ·rcases cx.mp h with e|h
    ·cases e;exact absurd rfl hk
    ·exact .inl h
   ·exact .inr h
theorem tN:∀{ks:List Nat} {ws:List MV} {vs:List aA} {loc loc':Loc} {ρ:fq} {s:az} (f:Str×aA->PUnit->Sem (ForInStep PUnit)),(∀n v u,f (n,v) u=(do storeName env n v;pure (.yield ⟨⟩)))->eH ks ws loc=some loc'->(∀k∈ks,k<D.G.N/\(env.kindOf (D.G.a k)=some .local\/env.kindOf (D.G.a k)=some .cell))->
  eW D.G D.b s.heap ρ μ->oU D.G D.b D.d D.e env loc s.heap ρ->dw D.b s.heap ρ ws vs->
  aI (aH D.a D.G.w) A (forIn ((ks.map D.G.a).zip vs) PUnit.unit f) (λJ s'=>b_ (jC env) D.G D.b ρ s ρ μ s'/\oU D.G D.b D.d D.e env loc' s'.heap ρ) no s
 |[],ws,vs,loc,loc',ρ,s,f,hf,hb,hk,S,F,q=>by
  cases ws with
  |nil=>
   refine kf hb ?_
   rw[jx,List.zip_nil_left,xc]
   exact aF ⟨b_.T S,F⟩
  |cons w ws=>cases hb
 |k::ks,ws,vs,loc,loc',ρ,s,f,hf,hb,hk,S,F,q=>by
  cases ws with
  |nil=>cases hb
  |cons w ws=>
   refine dY q.f λv x z0 l t=>?_
   refine fJ z0 ?_
   rw[dX,List.zip_cons_cons,oy,hf]
   refine iu (hk k (.head _)) λp h=>?_
   refine aw (aw (a_ (q9 (loc':=bp loc k w) F S h p l (by rw[hP,if_pos rfl]) λy i=>by rw[hP,if_neg i]) (λJ s1 z=>aF ?_) λJ J z=>z))
   refine iu z λP j=>?_
   have r:b_ (jC env) D.G D.b ρ s ρ μ s1:=P.E λb o g w=>by
    rcases w with rfl|⟨_,w⟩
    ·exact .inl rfl
    ·exact w
   refine a_ (tN f hf hb (λk c=>hk k (.tail _ c)) P.B j (P.R t)) (λJ s2 z=>?_) λJ J z=>z
   exact⟨r.m z.1,z.2⟩
theorem xS(L:gF D)(hF:xe D f F)(R:fC (n+2) A)(S:eW D.G D.b s.heap ρ μ)(tok:D.T.d<=s.toks)(q:dw D.b s.heap ρ vs vals)(hb:eH F.a vs []=some z9)
  (h:∃E e_,(∀(sc:Sc) (A:da) (env:Env) (s1:az) (body:List je),F.b=yU D.X sc body->fC (n+1) A->At D sc env z9 ρ μ s1->aI (aH D.a D.G.w) A (execs body env) (gy D env ρ s1 E e_ aG) no s1)/\(E= .b r\/(E= .a/\r= .f))):
  n8 (aH D.a D.G.w) A (.call (.ref (D.c f)) ⟨vals,[]⟩) (Back (Ok D.G D.b ρ s aG r)) s:=by
 obtain⟨o,i,body,ho,hd,IU,aca,hcd,U,W,M,O,P,acg,ab8,Z,aeM,_⟩:=hF
 have l:vals.length=F.a.length:=by
  rw[q.g,sR hb]
 refine codeAny_call_function (by have:=R.b;rw[pZ];exact abb this) (S.m _ _ ho) hd O P IU (hcd.keeps S.m) ?_
 refine(ab8 vals l)▸U▸(aF ?_)
 refine jv ?_
 simp only[FT,Option.isSome_none,dx,if_false]
 refine aw (wpAny_alloc ?_)
 refine aw (wpAny_layCells _ (λname p cells=>by cases hkc:p==iO<;>simp[hkc]) _ _ _ _ ?_)
 have ok:=cellsFrom_ok i.scope.names (s.heap.push {cls:= .type "frame",data:= .dict #[]}) (s.heap.objs.size+1) [] ⟨λJ J hm=>(nomatch hm),List.Pairwise.nil⟩ (by rw[lC];exact aC _)
 rw[lC] at ok
 have hsz:({s with heap:=s.heap.push {cls:= .type "frame",data:= .dict #[]}}:az).heap.objs.size=s.heap.objs.size+1:=lC ..
 rw[hsz]
 have I_:∀x,(x,iO)∈i.scope.names->((Lz (s.heap.objs.size+1) i.scope.names []).lookup x).isSome:=λx hx=>jN _ _ _ _ (.inl hx)
 generalize uy:Lz (s.heap.objs.size+1) i.scope.names []=cs at ok I_⊢
 have kp:∀b o,s.heap.get? b=some o->(yR (s.heap.push {cls:= .type "frame",data:= .dict #[]}) i.scope.names).get? b=some o:=λb o e=>pushCells_keeps _ _ b o (bg _ e)
 have WQ:(yR (s.heap.push {cls:= .type "frame",data:= .dict #[]}) i.scope.names).Ns s.heap.objs.size (λJ=>none):=(dO.Ns.new s.heap (.type "frame")).keeps (pushCells_keeps _ _)
 have V:bT D.G D.b ρ s ρ μ {s with heap:=yR (s.heap.push {cls:= .type "frame",data:= .dict #[]}) i.scope.names,toks:=s.toks}:=bT.B S kp s.toks (aC _)
 have xD:∀c:Nat,s.heap.objs.size<=c->s.heap.get? c=none:=λc y=>tM λo q=>OR.mpr y (sD q)
 have NP:∀b,s.heap.get? b=none->D.b.get? b=none:=λb h=>mq S.m h
 obtain⟨env,j⟩:∃e:Env,e={scope:=i.scope,locals:=s.heap.objs.size,globals:=i.globals,cells:=cs,qual:=i.qualname++".<locals>.",func:=some (D.c f),code:=i.code,frame:=some s.heap.objs.size,builtins:=i.builtins}:=⟨_,rfl⟩
 have H:env.scope=i.scope:=j▸rfl
 have Q:env.locals=s.heap.objs.size:=j▸rfl
 have I:env.cells=cs:=j▸rfl
 have e4:env.globals=i.globals:=j▸rfl
 have e5:env.builtins=i.builtins:=by rw[j]
 have fresh:∀b,jC env b->s.heap.get? b=none:=λb w=>by
  rcases w with rfl|⟨nm,w⟩
  ·exact Q▸(xD _ (aC _))
  ·replace w:=I▸w
   exact xD _ (aD (cN _) (ok.empty nm b (mem_of_lookup w)).2)
 have F0:oU D.G D.b D.d D.e env [] (yR (s.heap.push {cls:= .type "frame",data:= .dict #[]}) i.scope.names) ρ:=by
  refine⟨H▸acg,e4.trans W,e5.trans M,λx v h=>by simp[bz] at h,gV S (fresh _ (.inl rfl)),λb w=>NP _ (fresh b w),⟨λJ=>none,Q▸WQ,λx v h=>by simp[bz] at h⟩,λnm c h=>?_,λx v h=>by simp[bz] at h,λnm h=>?_,λnm nm' c h h'=>?_⟩
  ·have y:=ok.empty nm c (mem_of_lookup (I▸h))
   refine⟨gV S (fresh c (.inr ⟨nm,h⟩)),?_,none,y.1⟩
   exact Q▸(dJ y.2)
  ·have hm:(nm,iO)∈i.scope.names:=by
    unfold rV at h
    rw[H] at h
    exact mem_of_lookup h
   exact I▸(dU.mp (I_ nm hm))
  ·rw[I] at h h'
   exact name_of_addr ok.apart (mem_of_lookup h) (mem_of_lookup h')
 refine aw (a_ (tN (env:=env) (ks:=F.a) (ws:=vs) (vs:=vals) (s:={s with heap:=yR (s.heap.push {cls:= .type "frame",data:= .dict #[]}) i.scope.names,toks:=s.toks}) _ (λJ J J=>j▸rfl) hb (λk hk=>?_) V.d F0 (V.R S q)) (λJ s1 z=>aF ?_) λJ J z=>z)
 ·obtain⟨h1,h2⟩:=Z k hk
  refine⟨h1,?_⟩
  unfold rV
  exact H▸h2
 ·obtain⟨P1,F1⟩:=z
  have t:=(V.w S).m P1
  refine⟨?_,?_⟩
  ·obtain⟨mc,hm,hn⟩:=L.h
   exact⟨mc,hm.keeps t.B.m,hn⟩
  ·obtain⟨E,e_,hex,hr⟩:=h
   have a1:At D i.scope.names env z9 ρ μ s1:=⟨t.B,F1,aD tok t.N,λx=>by
    have:env.kindOf x=i.scope.names.lookup x:=by unfold rV;rw[H]
    exact this▸(⟨λh=>h,λh=>h,λh=> .inl h,λh=>h⟩)⟩
   refine j▸(codeAny_func (jv (a_ (hex i.scope.names (A.deeper env) env s1 body aca (R.f env) a1) (λfw s2 z=>?_) λJ J z=>z)))
   obtain⟨fe,P2,F2,C⟩:=z
   have PP:=(t.m P2).Y λb o g w=>by rw[fresh b w] at g;cases g
   rcases hr with rfl|⟨rfl,rfl⟩
   ·obtain⟨u,rfl,qv⟩:=C
    exact⟨fe,PP,qv⟩
   ·have C:=C
    subst C
    exact⟨fe,PP,rfl⟩
theorem IE(L:gF D)(m:xe D f F)(l:∀b:List je,jj D n fuel cl b)(R:fC (n+2) A)(S:eW D.G D.b s.heap ρ μ)(i:D.T.d<=s.toks)(q:dw D.b s.heap ρ vs vals)(hb:eH F.a vs []=some z9)(h:∃e g,aY D.T cl fuel F.b z9 μ=some (e,g,aG)/\(e= .b r\/(e= .a/\r= .f))):
  n8 (aH D.a D.G.w) A (.call (.ref (D.c f)) ⟨vals,[]⟩) (Back (Ok D.G D.b ρ s aG r)) s:=by
 refine nc h λe g hex j=>?_
 exact xS L m R S i q hb ⟨e,g,λsc A env s1 body k R a=>l body sc A env z9 ρ μ s1 e g aG R a (k▸hex),j⟩
theorem qz(L:gF D)(i:∀c a f,D.T.a c a=some f->kT D.K (.ref (D.c f))=true):∀k:Nat,qw D.G D.T D.c D.a D.b (2*k) (au D.T k)
 |0=>λA R f vs μ r aG h=>nomatch h
 |k+1=>λA R f vs μ r aG h ρ s vals S d q=>by
  refine bm h λF l h=>bm h λj hb h=>IE L (L.g f F l) (λb=>o_ λst J=>tU L (λe=>s8 L (qz L i k) i _ e (dh _)) _ st (dh _):∀b:List je,jj D (2*k) k (au D.T k) b) (R.e Q1) S d q hb ?_
  match e:aY D.T (au D.T k) k F.b j μ with
  |some (.b v,e_,bF)=>rw[e] at h;refine qZ h ?_;exact⟨_,_,rfl,.inl rfl⟩
  |some (.a,e_,bF)=>rw[e] at h;cases h;exact⟨_,_,rfl,.inr ⟨rfl,rfl⟩⟩
  |none=>rw[e] at h;cases h
end
end
section
open PySem PySem.W
noncomputable def aei:List (List String):=[["append","pop","get","__init__","row","sort","R_CLASS","R_VALUE","R_ARRAY","R_BYREF","R_BOXED","R_ROREF","R_RAW","R_FTN","kt","len","R_PRIM","row_length","inner","inner_kinds"],["check_named","R_VAR","R_MVAR","may_stand","check_args","is_value","is_var","TID_PRIM","args","arg","k","VOID","NULLK","tid","prim_kind","put","elem","PRIM_TID","ARRAY_TID","BOOL"],["NINT","OBJECT","STRING","targs","margs","opens","close_in","seen","rows","pick_arg","part","with_inner","tuple","box_of","place","ks","out","close","count","HEAD_WORDS"],["LEAST_SIZE","heap","kind","slots","thing","Thing","top","made","serial","things","at","addr","size","fresh","n","bits","wrap_bits","U4","V_I4","I8"],["U8","V_I8","V_NINT","NULLV","U1","CHAR","U2","I1","I2","wrap64","wrap32","value","tag","tag_of","cut_to","V_REF","tag_of_row","V_STRUCT","V_PLACE","V_FTN"],["NO_TAG","slot","PL_HEAP","m","state","ST_RUN","thrown","JP_STAY","mref","calls","f","Frame","pushed","found","defaults","plain_default","plain","frames","by_number","number"],["last","result","ST_DONE","body","after","invoker","stack","ip","args_of","targs_of","code","mid","told","ST_WRONG","slot_kind","fits","wrong","W_SLOT","LOST","store_as"],["V_TEXT","default","kind_sort","elem_of","kinds_of","before","sweeper","heap_alloc","first_slots","statics","skinds_of","range","str","store","tid_of","types","name","methods","ret","close_all"],["params","flags","MF_STATIC","why","t","type_of","cctor","SI_FIELD","TF_BEFORE","on_object","ftn","hold","held","alloc","DG_SLOTS","DG_TARGET","DG_FTN","DG_LIST","entries","array_kind"],["class_kind","T_DELEGATE","i","enumerate","is_delegate","W_KIND","S_DELEGATE","Multicast","waits_for_type","push_entry","many","push_call","invoke_method","FR_MULTI","keep","run_entry","is_static_entry","is_trigger","SI_METHOD","init_state"],["IS_NONE","IS_FAILED","find_methods","list_of","entries_under","extra","need","starter","pop_frame","hand_back","W_FTN","FR_CALL","throw_new","T_NULLREF","this","box","heap_place","TEXT_NULL","md","owner"],["values","method_sig","stored","throw_null","wanted","method_def","first","is_static","ready_this","rest","cut_params","enter_method","all_of_kinds","is_invoke","invoke","call_native","is_ref","is_a","refers_to","t0"],["t1","h0","h1","clauses","FR_FILTER","FR_CCTOR","done","again","FR_NEW","FR_AGAIN","w","nums","term","own","_law_kind","some","_law_kept","_law_value","locals_","Store"],["S_CLASS","S_STRUCT","TypeDef","d","_law_draw","_law_terms","j","_law_results","var","MethodDef","form","c","letter","singles","_law_entry","make_single","make_many","called","junk","terms"],["replace","g","deep","_law_made","_law_set","kept","back","height","gives","nested","enter_args","_law_stand","_law_call","run","OpReturn","odd","word","_law_unfit","script","Body"],["_law_closings","_law_store","Shelf","Heap","closer","FrameCloser","unders","install_delegates","_law_refused","self","index","depths","weights","PRIM_END","check_kind_row","depth","weight","opened","level","row_level"],["DEEPEST_KIND","HEAVIEST_KIND","gen","words_for","limit","card_bits","FIRST_ADDRESS","cards","young_limit","finals","ready","moved","conts","caught","caughtv","home","prefix","make_statics","closed_kind","exact"],["kin","told_row","told_default","tell_wrong","text","note_thrown","targets","inits","fails","ops","natives","chases","interned","internv","unhandled","handles","places","PlaceHost","Starter","KindCloser"],["Sweeper","alloc_thing","note_pushed","base","asm","ifaces","variances","bounds","VA_NONE","fields","under","impls","props","events","finaliser","access","ngen","gnames","gbounds","pnames"],["plain_names","pflags","native","maxstack","KindTable","fields_","names","asms","entry","invoke_delegates","after_entry","operand","in_region","W_TARGET","closed","W_LEFT","end_frame"]]
noncomputable def NM(n:Nat):Str:=jK (((aei[n/20]?).bind λl=>l[n%20]?).getD "")
noncomputable def ktL:List (Nat×Nat):=[(0,244),(99,271),(100,263),(102,110),(103,281),(105,182),(106,266),(107,30),(109,103),(110,74),(116,164),(119,250),(120,133),(133,120),(141,156),(187,347),(208,22),(214,7),(243,140),(246,107),(249,386),(259,138),(271,0),(330,267),(511,307),(523,1),(527,66),(564,288),(591,193),(617,225),(702,174),(704,390),(799,257),(819,134),(862,150),(867,36),(872,46),(884,289),(996,247),(1001,380),(1006,170),(1098,313),(1166,151),(1213,48),(1251,375),(1271,371),(1272,144),(1274,125),(1295,277),(1305,161),(1348,346),(1395,17),(1413,314),(1469,40),(1477,221),(1481,228),(1505,52),(1520,354),(1598,177),(1643,365),(1644,253),(1659,395),(1737,276),(1779,332),(1789,169),(1795,363),(1804,218),(1816,310),(1864,191),(1879,238),(1918,230),(1983,189),(1999,198),(2128,302),(2193,311),(2205,71),(2241,173),(2245,37),(2290,249),(2326,227),(2351,8),(2364,141),(2368,344),(2521,261),(2524,97),(2559,340),(2569,330),(2572,248),(2589,329),(2627,208),(2638,87),(2650,84),(2669,242),(2675,315),(2681,240),(2690,6),(2691,260),(2730,34),(2759,166),(2827,300),(2858,128),(2869,187),(2908,356),(2999,284),(3024,252),(3037,192),(3047,333),(3132,279),(3136,183),(3138,264),(3279,77),(3344,246),(3362,350),(3390,54),(3411,355),(3462,308),(3494,290),(3495,206),(3552,237),(3553,385),(3650,162),(3675,171),(3679,309),(3687,132),(3688,32),(3726,44),(3733,43),(3779,165),(3786,258),(3803,202),(3830,304),(3851,188),(3887,245),(3901,31),(3920,82),(3922,176),(3962,16),(3992,285),(4000,136),(4113,389),(4162,154),(4289,373),(4307,38),(4316,127),(4318,89),(4368,364),(4413,287),(4420,369),(4426,362),(4428,316),(4442,345),(4455,108),(4460,282),(4467,194),(4468,94),(4517,348),(4520,18),(4578,25),(4581,95),(4598,317),(4614,160),(4627,234),(4676,236),(4688,222),(4710,57),(4727,20),(4733,360),(4741,148),(4755,119),(4765,146),(4799,145),(4809,13),(4813,99),(4814,210),(4831,324),(4832,229),(4836,343),(4853,292),(4888,24),(4947,55),(4972,274),(5026,212),(5082,293),(5091,28),(5106,83),(5143,126),(5190,101),(5226,378),(5244,137),(5256,42),(5288,319),(5298,63),(5333,368),(5347,109),(5356,296),(5395,320),(5419,349),(5424,27),(5433,72),(5441,197),(5488,104),(5508,21),(5536,361),(5652,102),(5704,358),(5736,207),(5756,256),(5776,129),(5781,232),(5865,334),(5884,157),(5897,190),(5941,328),(5962,217),(5984,152),(5992,216),(6042,115),(6058,377),(6067,379),(6120,155),(6138,323),(6162,301),(6189,297),(6197,39),(6228,372),(6279,19),(6323,4),(6363,327),(6365,105),(6400,51),(6413,219),(6475,321),(6532,353),(6537,342),(6542,41),(6574,122),(6651,294),(6652,5),(6654,376),(6663,201),(6671,204),(6702,88),(6714,86),(6745,56),(6746,35),(6783,396),(6885,175),(6900,159),(6907,337),(7085,73),(7101,53),(7112,85),(7120,112),(7159,26),(7172,93),(7286,203),(7307,196),(7316,76),(7340,90),(7380,233),(7399,251),(7423,214),(7461,69),(7468,118),(7469,60),(7477,325),(7493,131),(7500,33),(7568,50),(7744,58),(7778,381),(7892,291),(7910,139),(7911,65),(7943,64),(7960,79),(7972,80),(8036,213),(8051,305),(8063,382),(8118,149),(8239,9),(8268,10),(8275,130),(8283,185),(8352,367),(8355,124),(8403,275),(8531,186),(8532,181),(8569,384),(8639,318),(8650,45),(8725,23),(8834,142),(8838,113),(8844,195),(8929,388),(8953,226),(8961,270),(8982,306),(8985,223),(9001,70),(9011,14),(9028,121),(9029,243),(9040,199),(9094,200),(9133,49),(9204,67),(9242,366),(9270,163),(9287,172),(9355,331),(9425,322),(9430,15),(9464,370),(9465,231),(9597,12),(9620,3),(9651,341),(9667,96),(9669,179),(9682,254),(9712,268),(9768,116),(9810,78),(9821,394),(9851,106),(9867,299),(9899,123),(9931,339),(9942,11),(9943,235),(9975,298),(10004,269),(10079,383),(10094,47),(10135,81),(10161,273),(10168,241),(10180,239),(10197,143),(10201,29),(10229,224),(10241,391),(10255,338),(10301,295),(10355,283),(10366,265),(10398,359),(10439,215),(10510,92),(10553,374),(10560,280),(10586,272),(10660,326),(10669,75),(10673,135),(10684,62),(10735,205),(10750,117),(10755,211),(10779,335),(10790,255),(10795,392),(10797,100),(10821,387),(10828,178),(10864,180),(10877,278),(10883,68),(10906,220),(10936,352),(10969,184),(11003,262),(11030,303),(11062,61),(11065,351),(11091,2),(11092,336),(11099,98),(11102,158),(11108,259),(11123,168),(11139,114),(11140,153),(11200,111),(11209,209),(11210,147),(11290,312),(11299,393),(11330,286),(11359,167),(11388,91),(11394,59),(11529,357)]
noncomputable def ktr(k:Nat):Option Nat:=match fnd k (bld (·.1) 9 ktL) with
 |x::_=>some x.2
 |[]=>none
noncomputable def ir(x:Str):Option Nat:=match ktr (PySem.W.Fast.code x.cps.toList%11563) with
 |some n=>match kh n 397&&eN x (NM n) with
  |true=>some n
  |false=>none
 |none=>none
noncomputable def zv:List (Nat×MV):=[(137,.c 1),(395,.c 3),(185,.c 5),(393,.c 7),(210,.c 9),(31,.c 0),(39,.c 1),(85,.c 2),(87,.c 3),(84,.c 4),(88,.c 5),(86,.c 6),(77,.c 8),(79,.c 9),(80,.c 10),(40,.c 11),(41,.c 12),(42,.c 13),(32,.c 14),(313,.c 16),(16,.c 1),(6,.c 2),(7,.c 3),(8,.c 4),(9,.c 5),(21,.c 6),(22,.c 7),(10,.c 8),(11,.c 9),(13,.c 10),(12,.c 11),(320,.c 24),(321,.c 4096),(38,.c 5),(326,.c 16),(59,.c 2),(60,.c 3),(78,.c 1),(81,.c 2),(82,.c 3),(95,.c 4),(97,.c 5),(98,.c 6),(99,.c 7),(140,.c 8),(83,.e [.c 4,.c 0]),(100,.c (-1)),(102,.c 3),(107,.c (-2)),(105,.c 0),(122,.c 1),(133,.c 3),(211,.c 0),(244,.c 1),(245,.c 2),(248,.c 3),(193,.c 4),(249,.c 5),(167,.c 1),(198,.c 2),(217,.g [79,98,106,101,99,116,32,114,101,102,101,114,101,110,99,101,32,110,111,116,32,115,101,116,32,116,111,32,97,110,32,105,110,115,116,97,110,99,101,32,111,102,32,97,110,32,111,98,106,101,99,116,46]),(138,.e [.c 0,.c 0]),(260,.c 1),(261,.c 2),(186,.c 4),(168,.c 4),(368,.c 0),(162,.c 1),(181,.c 6),(213,.c 21),(200,.c 0),(201,.c 3),(175,.c 0),(176,.c 1),(177,.c 2),(174,.c 3),(300,.e [.j [121] 2273,.j [115] 2274,.j [112] 2275,.j [72] 2276,.j [101] 2277,.j [108] 2278,.j [107] 2279,.j [98] 2280]),(265,.e [.g [89],.g [84],.g [112],.g [114,84],.g [113,84],.g [121],.g [111],.g [72],.g [110],.g [115],.g [104],.g [101],.g [105],.g [99],.g [76],.g [107],.g [98],.g [117],.g [114,105],.g [113,104]]),(267,.e [.g [89],.g [118],.g [84],.g [104],.g [113,84],.g [115],.g [110],.g [112],.g [118],.g [99],.g [101],.g [108],.g [105],.g [111],.g [121],.g [117]])]
noncomputable def fnL:List (Nat×Nat):=[(19,97),(319,104),(17,111),(314,118),(20,125),(24,132),(23,139),(180,146),(34,153),(179,160),(142,167),(143,174),(154,181),(128,188),(25,195),(236,202),(26,209),(57,216),(46,223),(51,230),(53,237),(49,244),(159,251),(323,265),(147,314),(76,322),(90,329),(89,336),(115,343),(94,350),(139,357),(93,364),(96,371),(135,378),(216,406),(345,795),(362,802),(341,809),(342,823),(208,830),(209,837),(129,844),(338,851),(343,865),(222,879),(148,886),(361,893),(337,900),(380,991),(165,998),(202,1005),(221,1012),(227,1019),(199,1026),(197,1033),(275,1040),(276,1047),(203,1054),(184,1061),(307,1101),(234,1108),(389,1108),(196,1115),(188,1122),(192,1129),(204,1136),(195,1143),(390,1150),(189,1157),(223,1164),(225,1171),(230,1178),(228,1185),(290,1192),(233,1199),(231,1206),(238,1213),(232,1220),(235,1227),(392,1234),(396,1260),(264,1270),(254,1277),(256,1284),(257,1291),(301,1296),(274,1303),(283,1310),(284,1315),(291,1322),(292,1327),(297,1334),(308,1341)]
noncomputable def clL:List (Nat×Nat):=[(384,86),(65,282),(303,303),(357,395),(111,424),(358,480),(360,536),(359,564),(305,592),(302,786),(262,917),(269,938),(299,959),(259,980),(187,1092),(294,1251)]
noncomputable def sdL:List (Nat×Nat×List Int):=[(37,54,[0,1,2,3,4,5,6,7,8,9,10,11,12,13]),(27,55,[20,9,10,11,12,13,14,15,16,17,18,19,1,4])]
noncomputable def lk{a:Type}:List (Nat×a)->Nat->Option a
 |[],_=>none
 |(y,v)::r,x=>match aT y x with
  |true=>some v
  |false=>lk r x
noncomputable def X0:CX where
 a:=ir
 b:=λx=>(ir x).bind (lk zv)
 d:=λx=>(ir x).bind (lk fnL)
 c:=λx=>(ir x).bind (lk clL)
 e:=λx=>((ir x).bind (lk sdL)).map (·.2)
noncomputable def mf(st:je):k_:=⟨(stA st).args.filterMap λa=>ir a.arg,yU X0 (stS st).names (stB st)⟩
noncomputable def adP:k_:=mf (sT 67)
noncomputable def Bv:k_:=mf (sT 159)
noncomputable def Bw:k_:=mf (sT 173)
noncomputable def abX:k_:=mf (sT 178)
noncomputable def Rl:k_:=mf (sT 191)
noncomputable def Rm:k_:=mf (sT 197)
noncomputable def fu:k_:=mf (sT 210)
noncomputable def abY:k_:=mf (sT 212)
noncomputable def Rn:k_:=mf (sT 213)
noncomputable def cG:k_:=mf (sT 215)
noncomputable def mK:k_:=mf (sT 217)
noncomputable def eJ:k_:=mf (sT 218)
noncomputable def fnA:List (Nat×Nat):=[(97,45),(104,46),(111,47),(118,48),(125,49),(132,50),(139,51),(146,52),(160,54),(167,55),(174,56),(181,57),(188,58),(195,59),(202,60),(216,62),(223,63),(230,64),(244,66),(251,67),(265,73),(314,76),(322,89),(329,90),(336,91),(343,92),(350,93),(357,94),(364,95),(371,96),(378,97),(406,100),(795,128),(802,129),(809,130),(823,132),(830,133),(837,134),(844,135),(851,136),(865,138),(879,140),(886,141),(893,142),(900,143),(991,157),(998,158),(1005,159),(1012,160),(1019,161),(1033,166),(1040,172),(1047,173),(1054,174),(1061,175),(1101,177),(1108,178),(1115,180),(1122,181),(1129,182),(1136,183),(1143,184),(1150,185),(1157,186),(1164,188),(1171,190),(1178,191),(1185,192),(1192,193),(1199,194),(1206,195),(1213,196),(1220,197),(1234,199),(1260,201),(1270,206),(1277,207),(1284,208),(1291,209),(1296,210),(1303,211),(1310,212),(1315,213),(1322,214),(1327,215),(1334,216),(1341,217),(1346,218)]
noncomputable def fnB:List (Nat×Nat×Nat):=[(69,44,0),(76,44,1),(83,44,2),(279,74,0),(300,75,0),(392,99,0),(421,119,0),(463,121,0),(533,123,0),(582,125,0),(615,126,1),(629,126,3),(636,126,4),(657,126,7),(664,126,8),(671,126,9),(692,126,12),(706,126,14),(734,127,0),(755,127,3),(762,127,4),(914,153,0),(935,154,0),(956,155,0),(977,156,0),(1075,176,0),(1082,176,1),(1248,200,0)]
noncomputable def ni:List (Nat×k_):=fnA.map (λx=>(x.1,mf (sT x.2)))++fnB.map λx=>(x.1,mf (sI x.2.1 x.2.2))
noncomputable def tH:List (Nat×Nat×Nat):=[(86,(4,76)),(86,(35,83)),(480,(206,463)),(536,(145,533)),(592,(62,582)),(786,(116,664)),(786,(136,692)),(786,(141,657)),(786,(144,629)),(786,(150,636)),(786,(173,755)),(786,(191,762)),(786,(212,706)),(786,(237,615)),(786,(394,671)),(1092,(124,1082)),(1092,(234,1075)),(1251,(293,1248))]
noncomputable def nk:List (Nat×Option Nat):=[(959,some 956),(980,some 977),(86,some 69),(917,some 914),(938,some 935),(303,some 300),(786,some 734),(395,some 392),(480,none),(564,none),(536,none),(592,none),(1092,none),(282,some 279),(424,some 421),(1251,none)]
noncomputable def lM:List (Nat×List Nat):=[(282,[71,62,63,322,72,68]),(1251,[]),(424,[119,108,123,127,28,258,126,332,333,334,194,5,335,205,336]),(1092,[]),(592,[]),(536,[]),(564,[]),(480,[]),(395,[61,117,149]),(786,[153,14,61,340,48,346,114,306,329,117,118,149,347,348,349,350,104,132,106,109,112,351,352,353,172,121,120,354,355,356,207,304,146,125]),(303,[69,70,66,324,327,325,73,328,329,330,331,67]),(938,[131,219,156,375,161,376,377,378,158,160,379,381,123,382]),(917,[33,156,5,161,363,365,160,366,367,369,157,364,166,370,371,372,373,374,335]),(86,[48,310,311,312,45]),(980,[14,155,385,157,386,387,388]),(959,[258,383,130,243])]
noncomputable def Tb:Tab where
 h:=λn=>ni.lookup n
 a:=λc a=>tH.findSome? λp=>if p.1==c&&p.2.1==a then some p.2.2 else none
 b:=λc=>(lM.lookup c).getD []
 g:=λc=>nk.lookup c
 c:=0
 e:=1
 f:=2
 d:=2455
end
section
open PySem PySem.W PySem.Calls PyProof.Rows
noncomputable def kAd:List Nat:=[2,444,445,514,515,715,716,1346]++clL.flatMap (λx=>[x.2 - 1,x.2])++fnL.map (·.2)++fnB.map (·.1)
end
section
open PySem PySem.W PySem.Calls PyProof.Rows
noncomputable def gO(P:c_)(a:Nat):Obj:=((uu P).get a).getD default
noncomputable def Kf(P:c_):Frag:=kAd.map λa=>(a,gO P a)
noncomputable def y_(o:Option Obj):Bool:=match o with
 |some o=>(match o.data with| .freed=>false|_=>true)
 |none=>false
theorem Vt:((fP 397).all λn=>(match ir (NM n) with|some m=>aT m n|none=>false)&& !(eN (NM n) "__debug__")&& !(eN (NM n) "__classdict__")&& !(eN (NM n) ".0"))=true:=⋯
theorem yq(n:Nat)(h:n<397):ir (NM n)=some n/\NM n≠"__debug__"/\NM n≠"__classdict__"/\NM n≠".0":=by
 have:=aQ.mp Vt n (pz.mpr h)
 simp only[bO,jw] at this
 obtain⟨⟨⟨a,c⟩,f⟩,d⟩:=this
 have b:∀{x y:Str},eN x y=false->x≠y:=λe q=>by rw[ji.mpr q] at e;cases e
 refine⟨?_,b c,b f,b d⟩
 cases q:ir (NM n) with
 |none=>rw[q] at a;cases a
 |some m=>rw[q] at a;rw[aK a]
theorem Vu(i j:Nat)(b:i<397)(hj:j<397)(h:NM i=NM j):i=j:=by
 have a:=(yq i b).1
 rw[h,(yq j hj).1] at a
 exact(ba a).symm
set_option tactic.hygienic true in
theorem nP{x:Str}{n:Nat}(h:ir x=some n):n<397/\NM n=x:=by
 unfold ir at h
 split at h
 ·split at h
  ·rename_i hb
   refine kf h ?_
   obtain⟨a,b⟩:=aE.mp hb
   exact⟨aW a,(ji.mp b).symm⟩
  ·cases h
 ·cases h
noncomputable def Gd(w:dQ):Cfg:=⟨w,NM,397,Vu⟩
noncomputable def Dd(w:dQ)(h:dO):Dat:={X:=X0,T:=Tb,G:=Gd w,K:=Kf w.params,b:=h,c:=λf=>f,d:=3,e:=0,a:=Pw}
theorem IJ{P:c_}{a:Nat}{o:Obj}(h:a<1347)(g:(uu P).get a=some o)(b:y_ (some o)=true):(w9 P).get? a=some o:=by
 unfold w9
 rw[abs_get h g]
 obtain⟨c,d,e,sl⟩:=o
 cases e<;>first|rfl|cases b
theorem Vc(P:c_):(kAd.all λa=>kh a 1347&&y_ ((uu P).get a))=true:=⋯
set_option tactic.hygienic true in
theorem acA{P:c_}{h:dO}(g:∀b o,(w9 P).get? b=some o->h.get? b=some o):(Kf P).In h:=by
 have key:∀(l:List Nat) (a:Nat) (o:Obj),(l.map λa=>(a,gO P a)).lookup a=some o->a∈l/\o=gO P a:=by
  intro l
  induction l with
  |nil=>intro a o e;cases e
  |cons b r d=>
   intro a o e
   rw[dX,cR] at e
   split at e
   ·rename_i q
    have:a=b:=by simpa using q
    refine fJ this ?_
    refine kf e ?_
    exact⟨.head _,rfl⟩
   ·exact⟨.tail _ (d a o e).1,(d a o e).2⟩
 intro a o e
 obtain⟨f,rfl⟩:=key _ a o e
 obtain⟨i,c⟩:=aE.mp (aQ.mp (Vc P) a f)
 refine g _ _ ?_
 cases q:(uu P).get a with
 |none=>rw[q] at c;cases c
 |some o=>
  have:gO P a=o:=by unfold gO;rw[q];rfl
  exact this▸(IJ (aW i) q (by rw[q] at c;exact c))
theorem zI(P:c_):(lM.all λp=>p.2.isEmpty||(uY (Kf P) p.1&&p.2.all λa=>kh a 397&&lY (Kf P) (.ref p.1) (NM a)==some none))=true:=⋯
theorem vp(P:c_):(tH.all λp=>kh p.2.1 397&&uY (Kf P) p.1&&lY (Kf P) (.ref p.1) (NM p.2.1)==some (some (.ref p.2.2))&&isFn (Kf P) (.ref p.2.2)&&kT (Kf P) (.ref p.2.2))=true:=⋯
theorem qL(P:c_):(nk.all λp=>makesIn (Kf P) p.1&&kT (Kf P) (.ref p.1)&&(match p.2 with
 |some f=>lY (Kf P) (.ref p.1) "__init__"==some (some (.ref f))&&typeIn (Kf P) (.ref f)==some (.type "function")
 |none=>lY (Kf P) (.ref p.1) "__init__"==some (some (.builtin "object.__init__"))))=true:=⋯
end
section
open PySem PySem.W PySem.Calls PyProof.Rows
set_option tactic.hygienic true in
theorem Jw{a:Type}{v:a}:∀{l:List (Nat×a)} {x:Nat},lk l x=some v->(x,v)∈l
 |[],_,h=>by cases h
 |(y,u)::r,x,h=>by
  unfold lk at h
  split at h
  ·rename_i q
   cases h
   rw[aK q];exact .head _
  ·exact .tail _ (Jw h)
noncomputable def igV:aA->Option Int
 | .int b _=>some b
 |_=>none
noncomputable def stT:aA->Option (Str×Nat)
 | .str b t=>some (b,t)
 |_=>none
noncomputable def rfV:aA->Option Nat
 | .ref b=>some b
 |_=>none
noncomputable def tyV:aA->Option String
 | .type b=>some b
 |_=>none
noncomputable def sqV:Data->Option (Array aA)
 | .seq xs 0=>some xs
 |_=>none
theorem wi{v:aA}{c:Int}(h:igV v=some c):∃t,v= .int c t:=by cases v<;>cases h;exact⟨_,rfl⟩
theorem Dy{v:aA}{c:Str×Nat}(h:stT v=some c):v= .str c.1 c.2:=by cases v<;>cases h;rfl
theorem Dj{v:aA}{c:Nat}(h:rfV v=some c):v= .ref c:=by cases v<;>cases h;rfl
theorem Dz{v:aA}{c:String}(h:tyV v=some c):v= .type c:=by cases v<;>cases h;rfl
theorem Oi{v:Data}{c:Array aA}(h:sqV v=some c):v= .seq c 0:=by
 cases v with
 |seq xs n=>cases n<;>cases h;rfl
 |_=>cases h
noncomputable def vr1:MV->aA->Bool
 | .c i,v=>(igV v).any λj=>i==j
 | .g s,v=>(stT v).any λp=>yX p.1.cps.toList s
 | .j s t,v=>(stT v).any λp=>yX p.1.cps.toList s&&aT t p.2
 |_,_=>false
noncomputable def vrs:List MV->List aA->Bool
 |[],r=>r.isEmpty
 |x::l,r=>match r with
  |v::r=>vr1 x v&&vrs l r
  |[]=>false
noncomputable def tuV(o:Obj):Option (List aA):=match tyV o.cls==some "tuple"&&o.dict.isNone&&o.slots.isEmpty with
 |true=>(sqV o.data).map AG
 |false=>none
noncomputable def adx(g:Nat->Option Obj)(x:MV)(v:aA):Bool:=match x with
 | .e l=>(rfV v).any λa=>(g a).any λo=>(tuV o).any λxs=>vrs l xs
 |x=>vr1 x v
section
variable{g:Nat->Option Obj}{hb h:dO}{ρ:fq}
theorem D2{x:MV}{v:aA}(e:vr1 x v=true):VR hb h ρ x v:=by
 cases x with
 |c i=>
  refine cf ((cO ..).mp e) λj d f=>?_
  refine dG (wi d) λt z0=>?_
  subst z0
  exact⟨t,(beq_iff_eq.mp f)▸rfl⟩
 |g s=>
  refine cf ((cO ..).mp e) λp d f=>?_
  exact⟨p.2,(vD.mp f)▸(Dy d)⟩
 |j s t=>
  refine cf ((cO ..).mp e) λp d f=>?_
  refine iu (aE.mp f) λa b=>?_
  exact(vD.mp a)▸(aK b)▸(Dy d)
 |_=>cases e
theorem D3:∀{x:List MV} {v:List aA},vrs x v=true->dw hb h ρ x v
 |[],_,e=>iL.mp e
 |x::l,r,e=>by
  cases r with
  |nil=>cases e
  |cons v r=>
   obtain⟨a,b⟩:=aE.mp e
   exact⟨v,r,rfl,D2 a,D3 b⟩
set_option tactic.hygienic true in
theorem KU(n:∀a o,g a=some o->h.get? a=some o)(x:MV)(v:aA)(e:adx g x v=true):VR hb h ρ x v:=by
 cases x with
 |e l=>
  refine cf ((cO ..).mp e) λa k e=>?_
  refine cf ((cO ..).mp e) λo i e=>?_
  refine cf ((cO ..).mp e) λxs b e=>?_
  refine⟨a,xs,Dj k,?_,D3 e⟩
  rw[n _ _ i]
  obtain⟨c,d,x,sl⟩:=o
  unfold tuV at b
  split at b
  ·rename_i q
   refine iu (aE.mp q) λq m=>?_
   refine iu (aE.mp q) λj p=>?_
   refine mm b λv f e=>?_
   subst e
   cases Dz (beq_iff_eq.mp j);cases iG.mp p;cases Lu.mp m;cases Oi f
   rfl
  ·cases b
 |_=>exact D2 e
end
noncomputable def gA(P:c_)(a:Nat):Option Obj:=match kh a 1347 with
 |true=>match y_ ((uu P).get a) with
  |true=>(uu P).get a
  |false=>none
 |false=>none
set_option tactic.hygienic true in
theorem nj{P:c_}{h:dO}(c:∀b o,(w9 P).get? b=some o->h.get? b=some o)(a:Nat)(o:Obj)(e:gA P a=some o):h.get? a=some o:=by
 unfold gA at e
 split at e
 ·rename_i h1
  split at e
  ·rename_i h2
   exact c _ _ (IJ (aW h1) e (by rw[e] at h2;exact h2))
  ·cases e
 ·cases e
noncomputable def mM(P:c_):Array DictEntry:=match(o3F P).data with
 | .dict a _=>a
 |_=>#[]
noncomputable def T_(P:c_):Array DictEntry:=match(Wl P).data with
 | .dict a _=>a
 |_=>#[]
noncomputable def Rj(o:Obj):Nat:=match o.data with
 | .dict _ k=>k
 |_=>0
noncomputable def ado(a:Array cv):Bool:=a.toList.all λe=>match e.key with
 | .str _ _=>true
 |_=>false
set_option tactic.hygienic true in
theorem tW{a:Array cv}(h:ado a=true):StrKeys a:=λe b=>by
 have:=aQ.mp h e (Array.mem_toList_iff.mpr b)
 split at this
 ·rename_i n t q;exact⟨n,t,q⟩
 ·cases this
theorem Cz{P:c_}{h:dO}(a:∀b o,(w9 P).get? b=some o->h.get? b=some o):h.Ns 3 (λx=>ie (mM P) x):=⟨o3F P,mM P,Rj (o3F P),nj a 3 _ ⋯,⋯,tW ⋯,λJ=>rfl⟩
theorem abL{P:c_}{h:dO}(a:∀b o,(w9 P).get? b=some o->h.get? b=some o):h.Ns 0 (λx=>ie (T_ P) x):=⟨Wl P,T_ P,Rj (Wl P),nj a 0 _ ⋯,⋯,tW ⋯,λJ=>rfl⟩
theorem zx(P:c_):(zv.all λp=>(ie (mM P) (NM p.1)).any λu=>adx (gA P) p.2 u)=true:=by rw[tL];kernel_rfl
theorem My(P:c_):(fnL.all λp=>kT (Kf P) (.ref p.2)&&(ie (mM P) (NM p.1)==some (.ref p.2)))=true:=by rw[tL];kernel_rfl
theorem Mc(P:c_):(clL.all λp=>ie (mM P) (NM p.1)==some (.ref p.2))=true:=by rw[tL];kernel_rfl
end
section
open PySem PySem.W PySem.Calls PyProof.Rows
noncomputable def fnV(o:Obj):Option FuncData:=match o.data with
 | .func d=>some d
 |_=>none
noncomputable def flV(o:Obj):Option (Array aA):=match o.data with
 | .fields d=>some d
 |_=>none
noncomputable def bdV:FuncBody->Option (List je)
 | .stmts b=>some b
 |_=>none
noncomputable def stV:aA->Option Str
 | .str b _=>some b
 |_=>none
theorem Ot{v:aA}{c:Str}(h:stV v=some c):∃t,v= .str c t:=by cases v<;>cases h;exact⟨_,rfl⟩
theorem Mv{o:Obj}{d:V_}(h:fnV o=some d):o.data= .func d:=by obtain⟨_,_,x,_⟩:=o;cases x<;>cases h;rfl
theorem Mt{o:Obj}{d:Array aA}(h:flV o=some d):o.data= .fields d:=by obtain⟨_,_,x,_⟩:=o;cases x<;>cases h;rfl
theorem LV{o:FuncBody}{d:List je}(h:bdV o=some d):o= .stmts d:=by cases o<;>cases h;rfl
noncomputable def ad9(k:Option jr):Bool:=k==some .local||k==some .cell
noncomputable def L_(a:List (Str×jr)):Bool:=a.all λx=> !(x.2== .cell)||a.lookup x.1==some .cell
noncomputable def fdc(P:c_)(f:Nat):Option (V_×List je):=(gA P f).bind λo=>(fnV o).bind λd=>(bdV d.body).map λb=>(d,b)
noncomputable def cdc(P:c_)(v:aA):Option Str:=(rfV v).bind λc=>(gA P c).bind λo=>(flV o).bind λvs=>vs[1]?.bind stV
noncomputable def abO(P:c_)(d:V_)(F:k_):Bool:=
 (match cdc P d.code with
  |some q=>eN q d.qualname
  |none=>false)&&d.closure.isEmpty&&aT d.globals 3&&aT d.builtins 0&& !d.scope.isCoroutine&& !d.scope.isGenerator&&d.scope.kind== .function&&
 (F.a.all λk=>kh k 397&&ad9 (d.scope.names.lookup (NM k)))&&L_ d.scope.names
noncomputable def tab(g:Nat->aA)(n:Nat):List Value:=(fP n).map g
theorem VX(l:List aA):l=tab (λi=>(l[i]?).getD .none) l.length:=
 List.ext_getElem (by unfold tab;rw[ay,OO]) λi a b=>by simp[tab,a]
theorem abZ(P:c_):(ni.all λe=>(match fdc P e.1 with
 |some p=>abO P p.1 e.2
 |none=>false)&&kT (Kf P) (.ref e.1))=true:=⋯
theorem Mx(P:c_):(ni.map λe=>some e.2.b)=ni.map λe=>(fdc P e.1).map λp=>yU X0 p.1.scope.names p.2:=⋯
theorem Mw(P:c_)(g:Nat->aA):(ni.map λe=>some (pure ((e.2.a.map NM).zip (tab g e.2.a.length))))=ni.map λe=>(fdc P e.1).map λp=>bindArgs p.1 ⟨tab g e.2.a.length,[]⟩:=⋯
theorem UB{w:dQ}{h:dO}(u:∀b o,(w9 w.params).get? b=some o->h.get? b=some o):∀p∈ni,xe (Dd w h) p.1 p.2:=λe m=>by
 have D:=aQ.mp (abZ w.params) e m
 have s:=mG.mp (Mx w.params) e m
 obtain⟨a1,a2⟩:=aE.mp D
 cases q0:fdc w.params e.1 with
 |none=>rw[q0] at a1;cases a1
 |some p=>
  rw[q0] at a1 s
  refine bm q0 λo G q=>bm q λd y q=>mm q λb hb e=>?_
  cases e
  simp only[abO,bO,jw,beq_iff_eq] at a1
  obtain⟨⟨⟨⟨⟨⟨⟨⟨j,F⟩,I⟩,E⟩,J⟩,M⟩,C⟩,z⟩,B⟩:=a1
  refine⟨o,d,b,nj u _ _ G,Mv y,LV hb,ba s,?_,iL.mp F,aK I,aK E,J,M,C,λvals r=>?_,λk A=>?_,λx L e=>?_,a2⟩
  ·cases f:cdc w.params d.code with
   |none=>rw[f] at j;cases j
   |some n=>
    rw[f] at j
    refine bm f λc N f=>bm f λoc l f=>bm f λvs H f=>bm f λv r f=>?_
    obtain⟨t,e⟩:=Ot f
    exact⟨c,oc,vs,t,Dj N,nj u _ _ l,Mt H,by rw[r,e,ji.mp j]⟩
  ·have:=(λg=>mG.mp (Mw w.params g) e m) λi=>(vals[i]?).getD .none
   rw[q0,<-r,<-VX vals] at this
   exact(ba this).symm
  ·obtain⟨a,b⟩:=aE.mp (aQ.mp z k A)
   exact⟨aW a,(qn.mp b).imp beq_iff_eq.mp beq_iff_eq.mp⟩
  ·have:=aQ.mp B x L
   rw[e] at this
   exact beq_iff_eq.mp this
set_option tactic.hygienic true in
theorem jo{a:Type}{v:a}:∀{l:List (Nat×a)} {x:Nat},l.lookup x=some v->(x,v)∈l
 |[],_,h=>by cases h
 |(y,u)::r,x,h=>by
  rw[cR] at h
  split at h
  ·rename_i q
   refine kf h ?_
   have:x=y:=by simpa using q
   exact this▸(.head _)
  ·exact .tail _ (jo h)
end
section
open PySem PySem.W PySem.Calls PyProof.Rows
theorem an{a b:Bool}{c:Prop}(h:(a&&b)=true)(k:a=true->b=true->c):c:=k (aE.mp h).1 (aE.mp h).2
theorem nt{b:Bool}(h:(!b)=true):b=false:=by cases b<;>first|rfl|cases h
noncomputable def deV:Data->Option (Array cv×Nat)
 | .dict a n=>some (a,n)
 |_=>none
theorem Bn{v:Data}{c:Array cv×Nat}(h:deV v=some c):v= .dict c.1 c.2:=by cases v<;>cases h;rfl
noncomputable def VM:List Int->List cv->Bool
 |[],r=>r.isEmpty
 |k::ks,r=>match r with
  |e::r=>(igV e.key).any (λi=>i==k)&&e.hash==wX k&&(igV e.val).isSome&&VM ks r
  |[]=>false
noncomputable def adl(P:c_)(a:Nat)(ks:List Int):Bool:=(gA P a).any λo=>tyV o.cls==some "dict"&&o.dict.isNone&&o.slots.isEmpty&&(deV o.data).any λp=>VM ks p.1.toList
theorem yC{w:dQ}{h:dO}:∀(ks:List Int) (d:List cv),VM ks d=true->∃l:List (MV×MV),ER w h h [] l d/\l.map (·.1)=ks.map MV.c
 |[],r,e=>⟨[],iL.mp e,rfl⟩
 |k::ks,r,e=>by
  cases r with
  |nil=>cases e
  |cons x r=>
   refine an e λe n=>an e λe g=>an e λf q=>?_
   refine cf (yC (w:=w) (h:=h) _ _ n) λl o m=>?_
   refine cf ((cO ..).mp f) λi a p=>?_
   refine dG (dU.mp g) λj b=>?_
   refine dG (wi a) λt a=>?_
   refine dG (wi b) λs b=>?_
   cases beq_iff_eq.mp p
   refine⟨(.c k,.c j)::l,?_,congrArg _ m⟩
   exact⟨_,_,rfl,⟨⟨_,a⟩,beq_iff_eq.mp q,⟨_,b⟩⟩,o⟩
theorem Ku{w:dQ}{h:dO}(k:∀b o,(w9 w.params).get? b=some o->h.get? b=some o){a:Nat}{ks:List Int}(e:adl w.params a ks=true)(t:ks.Nodup)(i:(a==uK)=false):LJ w h a ks:=by
 refine cf ((cO ..).mp e) λo r e=>?_
 refine an e λe m=>an e λe g=>an e λf s=>?_
 refine cf ((cO ..).mp m) λp q e=>?_
 refine cf (yC (w:=w) (h:=h) _ _ e) λl n j=>?_
 refine⟨p.1.toList,p.2,l,?_,n,j,t,i⟩
 rw[nj k _ _ r]
 obtain⟨c,d,x,sl⟩:=o
 cases Dz (beq_iff_eq.mp f);cases iG.mp s;cases Lu.mp g;cases Bn q
 rfl
theorem Od(P:c_):(sdL.all λp=>(ie (mM P) (NM p.1)==some (.ref p.2.1))&&adl P p.2.1 p.2.2&&decide p.2.2.Nodup&& !(p.2.1==uK))=true:=⋯
theorem JT(P:c_):((gA P 2).any λo=>(deV o.data).any λp=>ado p.1&&(ie p.1 "sys.recursionlimit").isNone)=true:=⋯
theorem HI(P:c_):(ie (T_ P) "len"==some (.builtin "len")&&ie (T_ P) "str"==some (.type "str")&&ie (T_ P) "tuple"==some (.type "tuple")&&ie (T_ P) "range"==some (.type "range")&&ie (T_ P) "enumerate"==some (.type "enumerate")&&
 ie (mM P) "len"==none&&ie (mM P) "str"==none&&ie (mM P) "tuple"==none&&ie (mM P) "range"==none&&ie (mM P) "enumerate"==none)=true:=⋯
theorem yo{c a f:Nat}(h:Tb.a c a=some f):(c,a,f)∈tH:=by
 refine cf (List.exists_of_findSome?_eq_some h) λp b e=>?_
 refine iu (Option.ite_none_right_eq_some.mp e) λq e=>?_
 refine an q λg d=>?_
 refine kf e ?_
 exact(eq_of_beq g)▸(eq_of_beq d)▸b
theorem EG{c a:Nat}(h:a∈Tb.b c):∃l,(c,l)∈lM/\a∈l:=by
 have h:a∈(lM.lookup c).getD []:=h
 cases q:lM.lookup c with
 |none=>rw[q] at h;cases h
 |some l=>rw[q] at h;exact⟨l,jo q,h⟩
theorem acF{w:dQ}{h:dO}(t:∀b o,(w9 w.params).get? b=some o->h.get? b=some o):gF (Dd w h):=by
 have g:∀{y:Type} {l:List y} {p:y->Bool} {x:y},l.all p=true->x∈l->p x=true:=λe m=>aQ.mp e _ m
 have r:∀{y:Type} {l:List (Nat×y)} {x:Str} {v:y} {G:Prop},(ir x).bind (lk l)=some v->(∀n,n<397->NM n=x->(NM n==("__debug__":Str))=false->(n,v)∈l->G)->G:=λe k=>bm e λn j d=>k n (nP j).1 (nP j).2 (beq_eq_false_iff_ne.mpr (yq n (nP j).1).2.1) (Jw d)
 refine⟨⟨acA t,λc a T=>?_,λc a f z=>?_⟩,⟨λc f z=>?_,λc z=>?_⟩,⟨?_,?_,?_⟩,λc i R=>?_,λx n m=>?_,?_,?_,?_,λk I=>(yq k I).2.2.2,λf F O=>?_⟩
 ·refine cf (EG T) λl j d=>?_
  have q:=g (zI w.params) j
  rcases qn.mp q with q|q
  ·cases(iL.mp q:l=[]);cases d
  ·refine an q λL U=>?_
   have q:=g U d
   exact an q λa b=>⟨aW a,L,eq_of_beq b⟩
 ·have q:=g (vp w.params) (yo z)
  exact an q λq E=>an q λq B=>an q λq A=>an q λj d=>⟨aW j,d,eq_of_beq A,B⟩
 ·have q:=g (qL w.params) (jo (show nk.lookup c=some (some f) from z))
  exact an q λq d=>an q λj J=>an d λd A=>⟨j,eq_of_beq d,eq_of_beq A⟩
 ·have q:=g (qL w.params) (jo (show nk.lookup c=some none from z))
  exact an q λq d=>an q λj J=>⟨j,eq_of_beq d⟩
 ·kernel_rfl
 ·kernel_rfl
 ·kernel_rfl
 ·have q:=g (qL w.params) (jo (show nk.lookup c=some i from R))
  exact an q λq J=>an q λJ h=>h
 ·refine iu (nP m) λj z0=>?_
  refine rQ z0 ?_
  refine lu (yq n j) λJ a b J=>?_
  exact⟨j,rfl,beq_eq_false_iff_ne.mpr a,beq_eq_false_iff_ne.mpr b⟩
 ·refine⟨_,Cz t,λx v m=>?_,λx f m=>?_,λx c m=>?_,λx ks m=>?_,?_⟩
  ·refine r (show(ir x).bind (lk zv)=some v from m) λn j e s d=>?_
   refine rQ e ?_
   have q:=g (zx w.params) d
   refine cf ((cO ..).mp q) λu Q e=>?_
   exact⟨s,u,Q,KU (nj t) _ _ e⟩
  ·refine r (show(ir x).bind (lk fnL)=some f from m) λn j e s d=>?_
   subst e
   have q:=g (My w.params) d
   exact an q λa b=>⟨s,eq_of_beq b,a⟩
  ·refine r (show(ir x).bind (lk clL)=some c from m) λn j e s d=>?_
   subst e
   have q:=g (Mc w.params) d
   exact⟨s,eq_of_beq q⟩
  ·refine mm (show((ir x).bind (lk sdL)).map (·.2)=some ks from m) λp P e=>r P λn j M s d=>?_
   subst e M
   have q:=g (Od w.params) d
   exact an q λq E=>an q λq B=>an q λd A=>⟨s,p.1,eq_of_beq d,Ku t A (of_decide_eq_true B) (nt E)⟩
  ·exact an (HI w.params) λq C=>an q λq D=>an q λq a3=>an q λq a2=>an q λJ a1=>⟨eq_of_beq a1,eq_of_beq a2,eq_of_beq a3,eq_of_beq D,eq_of_beq C⟩
 ·exact an (HI w.params) λq J=>an q λq J=>an q λq J=>an q λq J=>an q λq J=>an q λq C=>an q λq D=>an q λq a3=>an q λa1 a2=>⟨_,abL t,eq_of_beq a1,eq_of_beq a2,eq_of_beq a3,eq_of_beq D,eq_of_beq C⟩
 ·refine cf ((cO ..).mp (JT w.params)) λo H e=>?_
  refine cf ((cO ..).mp e) λp q e=>?_
  exact an e λS N=>⟨λx=>ie p.1 x,⟨o,p.1,p.2,nj t 2 _ H,Bn q,tW S,λJ=>rfl⟩,iG.mp N⟩
 ·exact UB t (f,F) (jo (show ni.lookup f=some F from O))
end
section
open PySem PySem.Calls PySem.W PyProof.Rows
section
variable{D:Dat}{G:Cfg}{hb h:dO}{GA BA:cK}{W:cK->Prop}{sc:Sc}{env:Env}{ρ ρ':fq}{s s':az}{A:da}{n fuel:Nat}{cl:Call}{a b c:List MV}{l:List Int}{k0 k1:Nat}{p0 p1 p2:cK×cK}
theorem wU:∀{l:List MV} {vs:List aA},(∀v∈l,∃i:Int,v= .c i)->dw hb h ρ l vs->dw hb h ρ' l vs
 |[],_,_,q=>q
 |v::l,_,hl,q=>by
  refine dY q λu r e g f=>?_
  refine dG (hl v (.head _)) λi z0=>?_
  subst z0
  exact⟨u,r,e,g,wU (λw d=>hl w (.tail _ d)) f⟩
theorem aef{e:Type}{l:List e}(h:3=l.length){d:Prop}(k:∀a b c,l=[a,b,c]->d):d:=by
 cases l with
 |nil=>cases h
 |cons a l=>cases l with
  |nil=>cases h
  |cons b l=>cases l with
   |nil=>cases h
   |cons c l=>cases l with
    |nil=>exact k a b c rfl
    |cons _ _=>cases h
theorem Az{d:Type}{P:Nat->d->Prop}{x y:d}(g:P 0 x)(f:P 1 y)(n:Nat)(o:d)(e:[x,y][n]?=some o):P n o:=by
 cases n with
 |zero=>exact ba e▸g
 |succ n=>cases n with
  |zero=>exact ba e▸f
  |succ n=>exact nn e
noncomputable def apx(p q:cK×cK):Prop:=p.1≠q.1/\p.1≠q.2/\p.2≠q.1/\p.2≠q.2
theorem zT{d:Type}{a b c x:d}(h:x∈[a,c]):x∈[a,b,c]:=by
 cases h with
 |head=>exact .head _
 |tail _ h=>exact .tail _ (.tail _ h)
theorem UC(P:b_ W G hb [] s ρ [.a a,.a b,.a c] s')(C:∀v∈a,∃i:Int,v= .c i)(M:∀v∈c,∃i:Int,v= .c i){t:Prop}(E:∀p0 p1 p2,ρ=[p0,p1,p2]->b_ W G hb [] s [p0,p2] [.a a,.a c] s'->t):t:=by
 refine aef P.B.u.symm λp0 p1 p2 r=>E p0 p1 p2 r ?_
 subst r
 refine cf P.L λe y w=>?_
 cases y
 have S:=P.B
 have Q:=S.H 0 _ p0 rfl rfl
 have z:=S.H 2 _ p2 rfl rfl
 refine⟨⟨[p0,p2],rfl,λp k=>w p (zT k)⟩,⟨rfl,λn o p f d=>?_,λi j p q f d=>?_,λx o O p k=>S.B x o O p (zT k),S.m,S.L⟩,P.u,P.H,P.F,P.I,P.Z,P.N⟩
 ·cases n with
  |zero=>
   cases f;cases d
   obtain⟨e,vs,m,g,q⟩:=Q
   exact⟨e,vs,m,g,wU C q⟩
  |succ n=>cases n with
   |zero=>
    refine kf f ?_;refine kf d ?_
    obtain⟨e,vs,m,g,q⟩:=z
    exact⟨e,vs,m,g,wU M q⟩
   |succ n=>cases f
 ·exact Az (P:=λi p=>i≠j->apx p q) (Az (P:=λj q=>0≠j->apx p0 q) (λh=>absurd rfl h) (λJ=>S.F 0 2 p0 p2 rfl rfl (by decide)) j q d) (Az (P:=λj q=>1≠j->apx p2 q) (λJ=>S.F 2 0 p2 p0 rfl rfl (by decide)) (λh=>absurd rfl h) j q d) i p f
theorem tE{x:Nat}{v:MV}(e:bz [(k0,.m l),(k1,.d 1)] x=some v){f:Prop}(i:∀g,bz [(k0,.m l),(k1,.d 2)] x=some g->(∀u,VR hb h [p0,p1,p2] g u->VR hb h [p0,p2] v u)->f):f:=by
 have K:∀w,bz [(k0,.m l),(k1,w)] x=if aT k0 x=true then some (.m l) else if aT k1 x=true then some w else none:=λJ=>rfl
 cases q:aT k0 x with
 |true=>
  replace K:=q▸K
  exact i _ (K _) λu z=>ba ((K _).symm.trans e)▸z
 |false=>cases q2:aT k1 x with
  |true=>
   replace K:=q2▸q▸K
   refine i _ (K _) λu z=>ba ((K _).symm.trans e)▸?_
   refine cf z λp k j=>?_
   cases j
   exact⟨p2,k,rfl⟩
  |false=>
   replace K:=q2▸q▸K
   exact nn ((K _).symm.trans e)
theorem zJ(F:oU G hb GA BA env [(k0,.m l),(k1,.d 2)] h [p0,p1,p2]):oU G hb GA BA env [(k0,.m l),(k1,.d 1)] h [p0,p2]:=by
 have g:∀{b},Off [p0,p1,p2] b->Off [p0,p2] b:=λo p I=>o p (zT I)
 refine cf F.z λm hm L=>?_
 refine⟨F.i,F.p,F.E,λx v e=>?_,g F.q,F.y,⟨m,hm,λx v e H=>?_⟩,λn c e=>?_,λx v e H=>?_,F.j,F.k⟩
 ·exact tE (hb:=hb) (h:=h) (p0:=p0) (p1:=p1) (p2:=p2) e λr C J=>F.t x r C
 ·refine tE (hb:=hb) (h:=h) (p0:=p0) (p1:=p1) (p2:=p2) e λr C t=>?_
  refine cf (L x r C H) λu B w=>?_
  exact⟨u,B,t u w⟩
 ·refine iu (F.f n c e) λB w=>?_
  exact⟨g B,w⟩
 ·refine tE (hb:=hb) (h:=h) (p0:=p0) (p1:=p1) (p2:=p2) e λr C t=>?_
  refine dY (F.l x r C H) λc u B w M=>?_
  exact⟨c,u,B,w,t u M⟩
theorem xE(E:∀st:je,kj D n fuel cl st)(X:∀b:List je,jj D n fuel cl b)(g:m0::m1::ms=yU D.X sc body)(R:fC (n+1) A)(f:At D sc env [(k0,.m l)] [] [] s)(x:∀v∈a,∃i:Int,v= .c i)(I:∀v∈c,∃i:Int,v= .c i)
  (F:bQ D.T cl fuel m0 [(k0,.m l)] []=some (.a,e_,bF)) (C:bQ D.T cl fuel m1 e_ bF=some (.a,[(k0,.m l),(k1,.d 2)],[.a a,.a b,.a c])) (y:aY D.T cl fuel ms [(k0,.m l),(k1,.d 1)] [.a a,.a c]=some (fl,loc',aG)):
  aI (aH D.a D.G.w) A (execs body env) (gy D env [] s fl loc' aG) no s:=by
 cases body with
 |nil=>exact nomatch g
 |cons k t=>cases t with
  |nil=>exact nomatch g
  |cons j r=>
   obtain⟨p,e⟩:=Lw (g:m0::m1::ms=cS D.X sc k::cS D.X sc j::yU D.X sc r)
   obtain⟨u,L⟩:=Lw e
   refine yS (gy.c (E k sc A env _ [] [] s .a e_ bF R f (p▸F)) λbu s1 o B=>yS (gy.c (E j sc A env e_ bu bF s1 .a _ _ R (f.h o B) (u▸C)) λM s2 q H=>UC (o.m q) x I λp0 p1 p2 e P=>?_))
   subst e
   exact a_ (X r sc A env _ _ _ s2 fl loc' aG R (f.h P (zJ H)) (L▸y)) (λJ J z=>gy.b P z) λJ J z=>z
theorem JR(L:gF D)(p:∀c a f,D.T.a c a=some f->kT D.K (.ref (D.c f))=true)(C:D.T.h f=some F)(hb:F.b=m0::m1::ms)(t:eH F.a [.m l] []=some [(k0,.m l)])(u:∀v∈a,∃i:Int,v= .c i)(B:∀v∈c,∃i:Int,v= .c i)
  (z:bQ D.T (au D.T k) k m0 [(k0,.m l)] []=some (.a,e_,bF)) (y:bQ D.T (au D.T k) k m1 e_ bF=some (.a,[(k0,.m l),(k1,.d 2)],[.a a,.a b,.a c])) (x:aY D.T (au D.T k) k ms [(k0,.m l),(k1,.d 1)] [.a a,.a c]=some (.b r,loc',aG))
  (R:fC (2*(k+1)) A) (S:eW D.G D.b s.heap [] []) (o:D.T.d<=s.toks) (q:dw D.b s.heap [] [.m l] vals):
  n8 (aH D.a D.G.w) A (.call (.ref (D.c f)) ⟨vals,[]⟩) (Back (Ok D.G D.b [] s aG r)) s:=by
 have Y:∀st:je,kj D (2*k) k (au D.T k) st:=λst=>tU L (λe=>s8 L (qz L p k) p _ e (dh _)) _ st (dh _)
 exact xS L (L.g f F C) (R.e Q1) S o q t ⟨.b r,loc',λsc A env s1 body j R a=>xE Y (λb=>o_ λst J=>Y st) (hb▸j) R a u B z y x,.inl rfl⟩
end
end
section
open PySem PySem.W PySem.Calls PyProof.Rows PySem.W.X
noncomputable abbrev Dw:Stmt:=sT 218
noncomputable def abR:DefRec:=⟨"law",stA Dw,stB Dw,stS Dw,(match Dw with| .FunctionDef _ _ _ _ _ _ _ _ _ p=>p|_=>default)⟩
theorem Nh{vs:List aA}{l:List Int}(H:IntsAre vs l):∀{j:Nat} {i:Int},l[j]?=some i->∃t:Tok,vs[j]?=some (aA.int i t):=by
 induction H with
 |nil=>intro j i h;cases h
 |cons n t r a=>
  intro j i h
  cases j with
  |zero=>refine kf h ?_;exact⟨t,rfl⟩
  |succ j=>exact a h
noncomputable def Sd:Prop:=∃(e loc':Loc) (bF f:Hp) (b c:List MV),(∀v∈c,∃i:Int,v= .c i)/\bQ Tb (au Tb 79) 79 ((eJ.b[0]?).getD .c) [(298,.m [])] []=some (.a,e,bF)/\bQ Tb (au Tb 79) 79 ((eJ.b[1]?).getD .c) e bF=some (.a,[(298,.m []),(251,.d 2)],[.a [],.a b,.a c])/\aY Tb (au Tb 79) 79 (eJ.b.drop 2) [(298,.m []),(251,.d 1)] [.a [],.a c]=some (.b (.h true),loc',f)
set_option tactic.hygienic true in
theorem OG(ML:∀l:List Int,l≠[]->l.length<=63->∃μ,au Tb 80 1346 [.m l] []=some (.h true,μ))(MN:Sd):WalkX Qv Ls (λJ J=>True) Yf0 Ya0 r0.toRowW abR [] (λf vs=>PySem.call f vs):=by
 intro w E d mg mb G Y a o pm cd doc dV kV ho hd hcd hD D hg args vals as L I7 x H u dP
 have h0:E.heap=w9 w.params:=congrArg jz Y
 have y:∀b o,(w9 w.params).get? b=some o->d.heap.get? b=some o:=λb o e=>L.keeps b o (h0▸e)
 refine IW λW Z=>?_
 wrow_args I7 x H u dP
 have s:=script_toks L (congrArg gf Y)
 rename_i ns hs hl0 hL1 WU hl2 as3 as2 la vs as1 hL ra w1 r0' hI hr hlen _
 have r:ns.length<=63:=by
  have: ¬((63:Nat):Int)<(ns.length:Int):=hlen
  exact(bN [_] V0.A 63 (.o V0.A 63 .z) rfl (aP λg=>hlen (cw.mpr g)))
 have Rv:mg "law"=some (.ref a):=D
 refine Ml (Cz y) λo1 es1 n1 g1 d1 _ f1=>?_
 refine Ml G.T.g λo2 es2 n2 g2 U _ f2=>?_
 have t:d.heap.get? 3=some o2:=g2
 rw[g1] at t
 have I:=(Data.dict.inj (U.symm.trans ((congrArg Obj.data (ba t).symm).trans d1))).1
 have ha:a=1346:=by
  have Q:=f1 "law"
  rw[<-I,f2 "law",Rv] at Q
  exact aA.ref.inj (ba (Q.trans (by kernel_rfl:ie (mM w.params) "law"=some (.ref 1346))))
 subst ha
 have O:∀c a f,(Dd w d.heap).T.a c a=some f->kT (Dd w d.heap).K (.ref ((Dd w d.heap).c f))=true:=λc a f h=>by
  have:=aQ.mp (vp w.params) _ (yo h)
  simp only[bO] at this
  exact this.2
 have S:=acF (w:=w) (h:=d.heap) y
 have N:eW (Gd w) d.heap d.heap [] []:=⟨rfl,(λn o p e=>nomatch e),(λi j p q e=>nomatch e),(λb o J p hp=>nomatch hp),λb o e=>e,⟨_,nj y 1 (boot_o_1 w.params) ⋯⟩⟩
 have V0:dw d.heap d.heap [] [.m ns] [.ref la]:=by
  refine dw.o ?_ dw.B
  refine⟨la,vs,0,rfl,script_obj L hL,(IntsAre.length hI).symm,λj i hj=>?_⟩
  exact Nh hI hj
 obtain⟨k,HC⟩:∃k,n8 (aH (Dd w d.heap).a (Dd w d.heap).G.w) callerA (.call (.ref ((Dd w d.heap).c 1346)) ⟨[.ref la],[]⟩) (Back (Ok (Dd w d.heap).G (Dd w d.heap).b [] d k (.h true))) d:=by
  by_cases R:ns=[]
  ·subst R
   obtain⟨e_,loc',bF,k,b,c,hc,x0,x1,x2⟩:=MN
   exact⟨k,JR (a:=[]) (F:=eJ) S O ⋯ rfl rfl (λJ h=>nomatch h) hc x0 x1 x2 ⟨rfl,by decide,by decide⟩ N s V0⟩
  ·refine dG (ML ns R r) λk hM=>?_
   exact⟨k,qz S O 80 callerA ⟨rfl,by decide,by decide⟩ 1346 [.m ns] [] (.h true) k hM [] d [.ref la] N s V0⟩
 refine Z (a_ (M:=aH Pw w) (nI HC) (λv V z=>?_) λe V z=>z.elim)
 obtain⟨ρ',P,q⟩:=z
 refine fJ q ?_
 refine GoodW.toG ⟨.inl ⟨.bool true,.bool true,[],rfl,λJ=>rfl,.bool _,?_,λJ=>⟨lF,λJ h=>nomatch h⟩⟩,(λb o e=>P.C b o e λJ h=>nomatch h),P.X,P.F.trans hg⟩
 exact postW_of (by rfl) (by rfl) (same_self _)
end
section
open PySem PySem.W PyProof.Rows PySem.Calls
theorem acD:LeftO Pw Qv Ls Xt0 Yf0 Ya0 NN:=LeftO.of_pieces (H₀:=kR) (H₁:=w9) acR adn N8 aec (λw=>funext λos=>
 iZ (br (br (br (acG w os) (acH w os)) (acI w os)) (acJ w os))
  (iZ (iZ (aex w os) (iZ (aey w os) (iZ (aez w os) (iZ (aeA w os) (iZ (aeB w os) (iZ (aeC w os) (iZ (aeD w os) (iZ (aeE w os) (aeF w os))))))))) (by rfl)))
end
section
set_option genCtorIdx true in
inductive rN where
 |v (x:MV)|a (x:MV) (μ:Hp)|h (μ:Hp)|b (x:Bool)|c (x:Lg)|d (x:List (MV×MV))|s (x:Fl×Loc×Hp)
structure SS where
 a:List (Nat×rN)
 P:Prop
noncomputable abbrev SM(α:Type):=SS->Option (α×SS)
section
variable{α β:Type}
noncomputable def iX(a:α):SM α:=λs=>some (a,s)
noncomputable def RI:SM α:=λJ=>none
noncomputable def jE(x:SM α)(f:α->SM β):SM β:=λs=>match x s with
 |some (a,s)=>f a s
 |none=>none
noncomputable def rT(x:SM α)(f:α->β):SM β:=jE x λa=>iX (f a)
noncomputable def mL(x:Option α):SM α:=λs=>match x with
 |some v=>some (v,s)
 |none=>none
noncomputable def i4(x:Option α)(b:rN->Option α):SM α:=fun
 |⟨(0,a)::r,P⟩=>mL (b a) ⟨r,P/\x=b a⟩
 |⟨(m+1,a)::r,P⟩=>mL x ⟨(m,a)::r,P⟩
 |⟨[],P⟩=>mL x ⟨[],P⟩
noncomputable def uC:Nat->List (Nat×rN)->List (Nat×rN)
 |_,[]=>[]
 |n,(m,.s x)::r=>(m - n,.s x)::uC m r
 |n,(m,a)::r=>(m - n,a)::uC (m+1) r
noncomputable def stQ(b:Bool)(x:SM α)(y:Option α)(a:rN->Option α):SM α:=cond b (λs=>match s with
 |⟨(0,.s q)::r,P⟩=>mL (a (.s q)) ⟨r,P/\y=a (.s q)⟩
 |s=>x s) x
noncomputable def bV(x:SM α)(y:Option α):Prop:=∀s v a,x s=some (v,a)->a.P->s.P/\y=some v
theorem bsm{f:α->SM β}{b:Prop}(h:jE x f s=some (v,s'))(k:∀a s1,x s=some (a,s1)->f a s1=some (v,s')->b):b:=by
 unfold jE at h
 match e:x s with
 |some (a,s1)=>rw[e] at h;exact k a s1 e h
 |none=>rw[e] at h;cases h
theorem lsm{a:Prop}(h:mL x s=some (v,s'))(k:x=some v->s=s'->a):a:=by
 cases x with
 |some u=>cases h;exact k rfl rfl
 |none=>cases h
theorem bV.j(a:α):bV (iX a) (some a):=λs v b h p=>by cases h;exact⟨p,rfl⟩
theorem bV.w(x:Option α):bV (mL x) x:=λs v a h p=>lsm h λe q=>⟨q▸p,e⟩
theorem bV.A(y:Option α):bV RI y:=λJ J J h=>nomatch h
theorem bV.I{P:Prop}(h:mL z ⟨r,P/\y=z⟩=some (v,s'))(p:s'.P):P/\y=some v:=lsm h λe q=>by
 subst q;exact⟨p.1,p.2.trans e⟩
theorem bV.k(x:Option α)(a:rN->Option α):bV (i4 x a) x:=λs v b h p=>match s,h with
 |⟨(0,_)::_,_⟩,h=>bV.I h p
 |⟨(_+1,_)::_,_⟩,h=>lsm h λe q=>by subst q;exact⟨p,e⟩
 |⟨[],_⟩,h=>lsm h λe q=>by refine fJ q ?_;exact⟨p,e⟩
theorem bV.K(b:Bool)(f:rN->Option α)(h:bV x y):bV (stQ b x y f) y:=by
 cases b with
 |false=>exact h
 |true=>
  refine λs v c e p=>?_
  obtain⟨l,P⟩:=s
  cases l with
  |nil=>exact h _ v c e p
  |cons a r=>
   obtain⟨n,q⟩:=a
   cases n with
   |zero=>cases q with
    |s q=>exact bV.I e p
    |_=>exact h _ v c e p
   |succ n=>exact h _ v c e p
theorem bV.m{f:α->SM β}{g:α->Option β}(l:bV x y)(c:∀a,bV (f a) (g a)):bV (jE x f) (y.bind g):=λs v b h p=>
 bsm h λa s1 i e=>have q:=c a s1 v b e p;have r:=l s a s1 i q.1;⟨r.1,r.2▸q.2⟩
theorem bV.t(b:bV x y)(f:α->β):bV (rT x f) (y.map f):=by
 rw[Option.map_eq_bind];exact bV.m b λa=>bV.j (f a)
noncomputable def iJ(x:SM (α×Hp))(f:α->Hp->SM β):SM β:=λs=>match x s with
 |some ((v,μ),s)=>f v μ s
 |none=>none
theorem bV.d{f:α->Hp->SM β}{g:α->Hp->Option β}(c:bV x y)(i:∀v μ,bV (f v μ) (g v μ)):bV (iJ x f) (ob y g):=λs v b h p=>by
 unfold iJ at h
 match e:x s with
 |some ((a,μ),s1)=>
  rw[e] at h
  have q:=i a μ s1 v b h p
  have r:=c s (a,μ) s1 e q.1
  exact⟨r.1,r.2▸q.2⟩
 |none=>rw[e] at h;cases h
end
noncomputable def dV:rN->Option MV| .v x=>some x|_=>none
noncomputable def Rh:rN->Option (MV×Hp)| .a x μ=>some (x,μ)|_=>none
noncomputable def dH:rN->Option Hp| .h μ=>some μ|_=>none
noncomputable def dB:rN->Option Bool| .b x=>some x|_=>none
noncomputable def dC:rN->Option Lg| .c x=>some x|_=>none
noncomputable def dD:rN->Option (List (MV×MV))| .d x=>some x|_=>none
noncomputable def dS:rN->Option (Fl×Loc×Hp)| .s x=>some x|_=>none
noncomputable def dL(_:rN):Option (List Nat):=none
noncomputable def U8:MS->Bool
 | .g _ _ _=>true
 | .h _ _=>true
 | .f _ (.s _ _ _ _)=>true
 |_=>false
section
variable{β:Type}
noncomputable def Rd(y:Option Bool)(a b:SM β):SM β:=jE (i4 y dB) λc=>cond c a b
theorem bV.H(e:bV a a')(hb:bV b b'):bV (Rd y a b) (y.bind λc=>cond c a' b'):=bV.m (bV.k _ _) λc=>match c with
 |true=>e
 |false=>hb
theorem adu:tr v a b=(ig v).bind λc=>cond c a b:=by
 unfold tr
 match ig v with
 |some true=>rfl
 |some false=>rfl
 |none=>rfl
theorem bV.B(c:bV a a')(hb:bV b b'):bV (Rd (ig v) a b) (tr v a' b'):=adu▸bV.H c hb
noncomputable def WZ(v:MV)(f:Int->SM β):SM β:=match v with
 | .c i=>f i
 |_=>RI
theorem bV.C{f:Int->SM β}{g:Int->Option β}(h:∀i,bV (f i) (g i)):bV (WZ v f) (iv v g):=by
 cases v with
 |c i=>exact h i
 |_=>exact bV.A _
noncomputable def lsS(μ:Hp)(o:MV)(f:Nat->List MV->SM β):SM β:=match o with
 | .d n=>(match μ[n]? with|some (.a l)=>f n l|_=>RI)
 |_=>RI
theorem bV.G{f:Nat->List MV->SM β}{g:Nat->List MV->Option β}(h:∀n l,bV (f n l) (g n l)):bV (lsS μ o f) (rG μ o g):=by
 cases o with
 |d n=>
  unfold lsS rG x5
  dsimp only
  cases μ[n]? with
  |none=>exact bV.A _
  |some o=>cases o with
   |a l=>exact h n l
   |_=>exact bV.A _
 |_=>exact bV.A _
noncomputable def gdS(c:Prop)[Decidable c](x:SM β):SM β:=jE (i4 (gd c (some true)) dB) λJ=>x
theorem bV.F{c:Prop}[i:Decidable c](h:bV x y):bV (gdS c x) (gd c y):=λs v g e p=>
 bsm e λa s1 b f=>have q:=h s1 v g f p;have r:=bV.k _ _ s a s1 b q.1;⟨r.1,gm r.2 λc J=>(if_pos c).trans q.2⟩
noncomputable def Kq(μ:Hp)(n:Nat)(all:List MV):Option Bool:=match μ[n]? with
 |some (.a l)=>if MV.o l all then some true else none
 |_=>none
theorem Kr:((Kq μ n all).bind λJ=>z)=wN n all μ z:=by
 unfold Kq wN rG x5
 dsimp only
 cases μ[n]? with
 |none=>rfl
 |some o=>cases o with
  |a l=>unfold Mine.gd;dsimp only;cases MV.o l all<;>rfl
  |_=>rfl
noncomputable def saS(n:Nat)(all:List MV)(μ:Hp)(x:SM β):SM β:=jE (i4 (Kq μ n all) dB) λJ=>x
theorem bV.E(h:bV x y):bV (saS n all μ x) (wN n all μ y):=Kr▸bV.m (bV.k _ _) λJ=>h
end
noncomputable def HQ(f:MV->Hp->SM (MV×Hp)):List MV->Hp->SM (List MV×Hp)
 |[],μ=>iX ([],μ)
 |v::r,μ=>iJ (f v μ) λx μ=>iJ (HQ f r μ) λxs μ=>iX (x::xs,μ)
noncomputable def zu(f:MV->Hp->SM (MV×Hp))(n:Nat)(all:List MV):List MV->Hp->SM (List MV×Hp)
 |[],μ=>saS n all μ (iX ([],μ))
 |v::r,μ=>saS n all μ (iJ (f v μ) λx μ=>iJ (zu f n all r μ) λxs μ=>iX (x::xs,μ))
theorem xH{f:MV->Hp->SM (MV×Hp)}{g:MV->Hp->Option (MV×Hp)}(h:∀v μ,bV (f v μ) (g v μ)):∀(l:List MV) (μ:Hp),bV (HQ f l μ) (ym g l μ)
 |[],_=>bV.j _
 |v::r,μ=>bV.d (h v μ) λJ μ=>bV.d (xH h r μ) λJ J=>bV.j _
theorem u7{f:MV->Hp->SM (MV×Hp)}{g:MV->Hp->Option (MV×Hp)}(h:∀v μ,bV (f v μ) (g v μ))(n:Nat)(all:List MV):∀(l:List MV) (μ:Hp),bV (zu f n all l μ) (uA g n all l μ)
 |[],_=>bV.E (bV.j _)
 |v::r,μ=>bV.E (bV.d (h v μ) λJ μ=>bV.d (u7 h n all r μ) λJ J=>bV.j _)
noncomputable def RH(vs:List MV)(μ:Hp):SM (MV×Hp):=iX (.d μ.length,μ++[.a vs])
mutual
noncomputable def jG(T:Tab)(call:Call):ME->Loc->Hp->SM (MV×Hp)
 | .m,_,_=>RI
 | .g v,_,μ=>iX (v,μ)
 | .d x,ρ,μ=>mL ((bz ρ x).map (·,μ))
 | .E a b,ρ,μ=>iJ (jG T call a ρ μ) λv μ=>Rd (ig v) (jG T call b ρ μ) (iX (v,μ))
 | .J a b,ρ,μ=>iJ (jG T call a ρ μ) λv μ=>Rd (ig v) (iX (v,μ)) (jG T call b ρ μ)
 | .C a,ρ,μ=>iJ (jG T call a ρ μ) λv μ=>rT (i4 (ig v) dB) λc=>(.h (!c),μ)
 | .A a,ρ,μ=>iJ (jG T call a ρ μ) λv μ=>WZ v λi=>iX (.c (-i),μ)
 | .r op a b,ρ,μ=>iJ (jG T call a ρ μ) λx μ=>iJ (jG T call b ρ μ) λy μ=>i4 (dE μ op x y) Rh
 | .q op a b,ρ,μ=>iJ (jG T call a ρ μ) λx μ=>iJ (jG T call b ρ μ) λy μ=>rT (i4 (ct μ op x y) dB) λc=>(.h c,μ)
 | .F op RK a b c,ρ,μ=>iJ (jG T call a ρ μ) λx μ=>iJ (jG T call b ρ μ) λy μ=>Rd (ct μ op x y) (iJ (jG T call c ρ μ) λz μ=>rT (i4 (ct μ RK y z) dB) λr=>(.h r,μ)) (iX (.h false,μ))
 | .z ng ks a,ρ,μ=>iJ (jG T call a ρ μ) λv μ=>WZ v λi=>rT (i4 (some (ks.contains i !=ng)) dB) λc=>(.h c,μ)
 | .I t a b,ρ,μ=>iJ (jG T call t ρ μ) λv μ=>Rd (ig v) (jG T call a ρ μ) (jG T call b ρ μ)
 | .D es,ρ,μ=>iJ (xN T call es ρ μ) λvs μ=>i4 (gd (vs.length<=1000) (JN vs μ)) Rh
 | .l es,ρ,μ=>iJ (xN T call es ρ μ) λvs μ=>i4 (gd (vs.length<=1000) (some (.e vs,μ))) Rh
 | .G ks es,ρ,μ=>iJ (xN T call es ρ μ) λvs μ=>jE (i4 (wz ks vs []) dD) λl=>iX (.d μ.length,μ++[.b l])
 | .k o a,ρ,μ=>iJ (jG T call o ρ μ) λv μ=>rT (i4 (iw T μ v a) dV) (·,μ)
 | .h o i,ρ,μ=>iJ (jG T call o ρ μ) λv μ=>iJ (jG T call i ρ μ) λk μ=>rT (i4 (ez μ v k) dV) (·,μ)
 | .y o lo hi,ρ,μ=>iJ (jG T call o ρ μ) λv μ=>iJ (Uz T call lo ρ μ) λa μ=>iJ (Uz T call hi ρ μ) λb μ=>i4 (lB μ v a b) Rh
 | .j f es,ρ,μ=>iJ (xN T call es ρ μ) λvs μ=>i4 (call f vs μ) Rh
 | .H c es,ρ,μ=>iJ (xN T call es ρ μ) λvs μ=>i4 (yp T call c vs μ) Rh
 | .n o a es,ρ,μ=>iJ (jG T call o ρ μ) λv μ=>jE (i4 (gJ T μ v a) dC) λc=>iJ (xN T call es ρ μ) λvs μ=>i4 (dj call μ v vs c) Rh
 | .w o x e,ρ,μ=>iJ (jG T call o ρ μ) λv μ=>iJ (jG T call e ρ μ) λu μ=>rT (i4 (vt T x v u) dV) (·,μ)
 | .p e,ρ,μ=>iJ (jG T call e ρ μ) λv μ=>rT (i4 (mw μ v) dV) (·,μ)
 | .B e,ρ,μ=>iJ (jG T call e ρ μ) λv μ=>WZ v λi=>rT (i4 (zC i) dL) λs=>(.g s,μ)
 | .u e,ρ,μ=>iJ (jG T call e ρ μ) λv μ=>i4 (rG μ v λJ l=>gd (l.length<=bA) (some (.e l,μ))) Rh
 | .s x rg src elt,ρ,μ=>iJ (jG T call src ρ μ) λv μ=>cond rg
  (WZ v λk=>gdS (0<=k/\k<=1000) (iJ (HQ (λi μ=>jG T call elt ((x,i)::ρ) μ) (yW k) μ) RH))
  (lsS μ v λn l=>gdS (l.length<=bA) (iJ (zu (λi μ=>jG T call elt ((x,i)::ρ) μ) n l l μ) RH))
noncomputable def xN(T:Tab)(call:Call):List ME->Loc->Hp->SM (List MV×Hp)
 |[],_,μ=>iX ([],μ)
 |e::r,ρ,μ=>iJ (jG T call e ρ μ) λv μ=>iJ (xN T call r ρ μ) λvs μ=>iX (v::vs,μ)
noncomputable def Uz(T:Tab)(call:Call):Option ME->Loc->Hp->SM (Option MV×Hp)
 |none,_,μ=>iX (none,μ)
 |some e,ρ,μ=>iJ (jG T call e ρ μ) λv μ=>iX (some v,μ)
end
noncomputable def q8(T:Tab)(call:Call)(t:MT)(v:MV)(ρ:Loc)(μ:Hp):SM (Loc×Hp):=match t with
 | .b x=>iX (bp ρ x v,μ)
 | .e o a=>iJ (jG T call o ρ μ) λw μ=>rT (i4 (ot T μ w a v) dH) (ρ,·)
 | .d o i=>iJ (jG T call o ρ μ) λw μ=>iJ (jG T call i ρ μ) λk μ=>rT (i4 (p9 μ w k v) dH) (ρ,·)
 | .c xs=>(match v with| .e l=>mL ((eH xs l ρ).map (·,μ))|_=>RI)
noncomputable abbrev XS:=SM (Fl×Loc×Hp)
noncomputable def oxS(x:XS)(k:Loc->Hp->XS):XS:=jE x λq=>match q with
 |(.a,ρ,μ)=>k ρ μ
 |q=>iX q
noncomputable def Mz(body:Loc->Hp->XS)(store:MV->Loc->Hp->SM (Loc×Hp)):List MV->Loc->Hp->XS
 |[],ρ,μ=>iX (.a,ρ,μ)
 |v::r,ρ,μ=>iJ (store v ρ μ) λρ μ=>oxS (body ρ μ) (Mz body store r)
noncomputable def By(en:Bool)(body:Loc->Hp->XS)(store:MV->Loc->Hp->SM (Loc×Hp))(n:Nat)(all:List MV):Nat->List MV->Loc->Hp->XS
 |_,[],ρ,μ=>saS n all μ (iX (.a,ρ,μ))
 |k,v::r,ρ,μ=>saS n all μ (iJ (store (cond en (.e [.c k,v]) v) ρ μ) λρ μ=>oxS (body ρ μ) (By en body store n all (k+1) r))
noncomputable def AD(b:Loc->Hp->SM (MV×Hp))(body:Loc->Hp->XS):Nat->Loc->Hp->XS
 |0,_,_=>RI
 |n+1,ρ,μ=>iJ (b ρ μ) λv μ=>Rd (ig v) (oxS (body ρ μ) (AD b body n)) (iX (.a,ρ,μ))
mutual
noncomputable def exS(T:Tab)(call:Call)(fuel:Nat):MS->Loc->Hp->XS
 | .c,_,_=>RI
 | .d e,ρ,μ=>iJ (jG T call e ρ μ) λJ μ=>iX (.a,ρ,μ)
 | .f t e,ρ,μ=>iJ (jG T call e ρ μ) λv μ=>iJ (q8 T call t v ρ μ) λρ μ=>iX (.a,ρ,μ)
 | .j x op e,ρ,μ=>jE (mL (bz ρ x)) λa=>iJ (jG T call e ρ μ) λb μ=>jE (mL (Gv op a b)) λv=>iX (.a,bp ρ x v,μ)
 | .n o a op e,ρ,μ=>iJ (jG T call o ρ μ) λw μ=>jE (i4 (iw T μ w a) dV) λu=>iJ (jG T call e ρ μ) λb μ=>jE (mL (Gv op u b)) λv=>jE (i4 (ot T μ w a v) dH) λμ=>iX (.a,ρ,μ)
 | .p e,ρ,μ=>iJ (jG T call e ρ μ) λv μ=>iX (.b v,ρ,μ)
 | .m t a b,ρ,μ=>iJ (jG T call t ρ μ) λv μ=>Rd (ig v) (qF T call fuel a ρ μ) (qF T call fuel b ρ μ)
 | .h t b,ρ,μ=>AD (jG T call t) (qF T call fuel b) fuel ρ μ
 | .g t s b,ρ,μ=>match s with
  | .b e=>iJ (jG T call e ρ μ) λv μ=>(match v with
   | .e l=>Mz (qF T call fuel b) (q8 T call t) l ρ μ
   |v=>lsS μ v λn l=>By false (qF T call fuel b) (q8 T call t) n l 0 l ρ μ)
  | .a e=>iJ (jG T call e ρ μ) λv μ=>WZ v λk=>gdS (0<=k/\k<=1000) (Mz (qF T call fuel b) (q8 T call t) (yW k) ρ μ)
  | .c e=>iJ (jG T call e ρ μ) λv μ=>lsS μ v λn l=>By true (qF T call fuel b) (q8 T call t) n l 0 l ρ μ
 | .l o i,ρ,μ=>iJ (jG T call o ρ μ) λw μ=>iJ (jG T call i ρ μ) λk μ=>jE (i4 (Mh μ w k) dH) λμ=>iX (.a,ρ,μ)
 | .k o i,ρ,μ=>iJ (jG T call o ρ μ) λw μ=>iJ (jG T call i ρ μ) λk μ=>jE (i4 (HY μ w k) dH) λμ=>iX (.a,ρ,μ)
noncomputable def qF(T:Tab)(call:Call)(fuel:Nat):List MS->Loc->Hp->XS
 |[],ρ,μ=>iX (.a,ρ,μ)
 |s::r,ρ,μ=>oxS (stQ (U8 s) (exS T call fuel s ρ μ) (bQ T call fuel s ρ μ) dS) (qF T call fuel r)
end
end
section
section
variable{T:Tab}{call:Call}
mutual
theorem bP:∀(e:ME) (ρ:Loc) (μ:Hp),bV (jG T call e ρ μ) (aO T call e ρ μ)
 | .m,_,_=>bV.A _
 | .g _,_,_=>bV.j _
 | .d _,_,_=>bV.w _
 | .E a b,ρ,μ=>bV.d (bP a ρ μ) λJ μ=>bV.B (bP b ρ μ) (bV.j _)
 | .J a b,ρ,μ=>bV.d (bP a ρ μ) λJ μ=>bV.B (bV.j _) (bP b ρ μ)
 | .C a,ρ,μ=>bV.d (bP a ρ μ) λJ J=>bV.t (bV.k _ _) _
 | .A a,ρ,μ=>bV.d (bP a ρ μ) λJ J=>bV.C λJ=>bV.j _
 | .r _ a b,ρ,μ=>bV.d (bP a ρ μ) λJ μ=>bV.d (bP b ρ μ) λJ J=>bV.k _ _
 | .q _ a b,ρ,μ=>bV.d (bP a ρ μ) λJ μ=>bV.d (bP b ρ μ) λJ J=>bV.t (bV.k _ _) _
 | .F _ _ a b c,ρ,μ=>bV.d (bP a ρ μ) λJ μ=>bV.d (bP b ρ μ) λJ μ=>bV.H (bV.d (bP c ρ μ) λJ J=>bV.t (bV.k _ _) _) (bV.j _)
 | .z _ _ a,ρ,μ=>bV.d (bP a ρ μ) λJ J=>bV.C λJ=>bV.t (bV.k (some _) _) _
 | .I t a b,ρ,μ=>bV.d (bP t ρ μ) λJ μ=>bV.B (bP a ρ μ) (bP b ρ μ)
 | .D es,ρ,μ=>bV.d (kC es ρ μ) λJ J=>bV.k _ _
 | .l es,ρ,μ=>bV.d (kC es ρ μ) λJ J=>bV.k _ _
 | .G _ es,ρ,μ=>bV.d (kC es ρ μ) λJ J=>bV.m (bV.k _ _) λJ=>bV.j _
 | .k o _,ρ,μ=>bV.d (bP o ρ μ) λJ J=>bV.t (bV.k _ _) _
 | .h o i,ρ,μ=>bV.d (bP o ρ μ) λJ μ=>bV.d (bP i ρ μ) λJ J=>bV.t (bV.k _ _) _
 | .y o lo hi,ρ,μ=>bV.d (bP o ρ μ) λJ μ=>bV.d (xM lo ρ μ) λJ μ=>bV.d (xM hi ρ μ) λJ J=>bV.k _ _
 | .j _ es,ρ,μ=>bV.d (kC es ρ μ) λJ J=>bV.k _ _
 | .H _ es,ρ,μ=>bV.d (kC es ρ μ) λJ J=>bV.k _ _
 | .n o _ es,ρ,μ=>bV.d (bP o ρ μ) λJ μ=>bV.m (bV.k _ _) λJ=>bV.d (kC es ρ μ) λJ J=>bV.k _ _
 | .w o _ e,ρ,μ=>bV.d (bP o ρ μ) λJ μ=>bV.d (bP e ρ μ) λJ J=>bV.t (bV.k _ _) _
 | .p e,ρ,μ=>bV.d (bP e ρ μ) λJ J=>bV.t (bV.k _ _) _
 | .B e,ρ,μ=>bV.d (bP e ρ μ) λJ J=>bV.C λJ=>bV.t (bV.k _ _) _
 | .u e,ρ,μ=>bV.d (bP e ρ μ) λJ J=>bV.k _ _
 | .s x rg src elt,ρ,μ=>bV.d (bP src ρ μ) λJ μ=>match rg with
  |true=>bV.C λJ=>bV.F (bV.d (xH (λi μ=>bP elt ((x,i)::ρ) μ) _ μ) λJ J=>bV.j _)
  |false=>bV.G λn l=>bV.F (bV.d (u7 (λi μ=>bP elt ((x,i)::ρ) μ) n l l μ) λJ J=>bV.j _)
theorem kC:∀(a:List ME) (ρ:Loc) (μ:Hp),bV (xN T call a ρ μ) (gX T call a ρ μ)
 |[],_,_=>bV.j _
 |e::r,ρ,μ=>bV.d (bP e ρ μ) λJ μ=>bV.d (kC r ρ μ) λJ J=>bV.j _
theorem xM:∀(e:Option ME) (ρ:Loc) (μ:Hp),bV (Uz T call e ρ μ) (Bt T call e ρ μ)
 |none,_,_=>bV.j _
 |some e,ρ,μ=>bV.d (bP e ρ μ) λv μ=>bV.j (some v,μ)
end
end
end
section
noncomputable abbrev FLH:=Fl×Loc×Hp
theorem bV.D{f:Loc->Hp->XS}{g:Loc->Hp->Ex}(l:bV x y)(n:∀ρ μ,bV (f ρ μ) (g ρ μ)):bV (oxS x f) (ox y g):=λs v i h p=>
 bsm h λq s1 e c=>match q,e,c with
 |(.a,ρ,μ),e,c=>have q:=n ρ μ s1 v i c p;have r:=l s _ s1 e q.1;⟨r.1,r.2▸q.2⟩
 |(.b u,ρ,μ),e,c=>have q:=bV.j (Fl.b u,ρ,μ) s1 v i c p;have r:=l s _ s1 e q.1;⟨r.1,r.2▸q.2⟩
section
variable{T:Tab}{call:Call}
theorem kM(t:MT)(v:MV)(ρ:Loc)(μ:Hp):bV (q8 T call t v ρ μ) (eY T call t v ρ μ):=match t with
 | .b _=>bV.j _
 | .e o _=>bV.d (bP (T:=T) (call:=call) o ρ μ) λJ J=>bV.t (bV.k _ _) _
 | .d o i=>bV.d (bP (T:=T) (call:=call) o ρ μ) λJ μ=>bV.d (bP (T:=T) (call:=call) i ρ μ) λJ J=>bV.t (bV.k _ _) _
 | .c _=>by
  cases v with
  |e l=>exact bV.w _
  |_=>exact bV.A _
variable{b:Loc->Hp->XS}{b':Loc->Hp->Ex}{st:MV->Loc->Hp->SM (Loc×Hp)}{st':MV->Loc->Hp->Option (Loc×Hp)}(hb:∀ρ μ,bV (b ρ μ) (b' ρ μ))(hs:∀v ρ μ,bV (st v ρ μ) (st' v ρ μ))
include hb
theorem t7{t:Loc->Hp->SM (MV×Hp)}{t':Loc->Hp->Option (MV×Hp)}(a:∀ρ μ,bV (t ρ μ) (t' ρ μ)):∀(n:Nat) (ρ:Loc) (μ:Hp),bV (AD t b n ρ μ) (ri t' b' n ρ μ)
 |0,_,_=>bV.A _
 |n+1,ρ,μ=>bV.d (a ρ μ) λJ μ=>bV.B (bV.D (hb ρ μ) (t7 a n)) (bV.j _)
include hs
theorem td:∀(l:List MV) (ρ:Loc) (μ:Hp),bV (Mz b st l ρ μ) (qG b' st' l ρ μ)
 |[],_,_=>bV.j _
 |v::r,ρ,μ=>bV.d (hs v ρ μ) λρ μ=>bV.D (hb ρ μ) (td r)
theorem qH:∀(k:Nat) (l:List MV) (ρ:Loc) (μ:Hp),bV (By en b st n all k l ρ μ) (EH en b' st' n all k l ρ μ)
 |_,[],_,_=>bV.E (bV.j _)
 |k,v::r,ρ,μ=>bV.E (bV.d (hs _ ρ μ) λρ μ=>bV.D (hb ρ μ) (qH (k+1) r))
end
section
variable{T:Tab}{call:Call}{fuel:Nat}
mutual
theorem Bu:∀(s:MS) (ρ:Loc) (μ:Hp),bV (exS T call fuel s ρ μ) (bQ T call fuel s ρ μ)
 | .c,_,_=>bV.A _
 | .d e,ρ,μ=>bV.d (bP (T:=T) (call:=call) e ρ μ) λJ J=>bV.j _
 | .f t e,ρ,μ=>bV.d (bP (T:=T) (call:=call) e ρ μ) λv μ=>bV.d (kM (T:=T) (call:=call) t v ρ μ) λJ J=>bV.j _
 | .j _ _ e,ρ,μ=>bV.m (bV.w _) λJ=>bV.d (bP (T:=T) (call:=call) e ρ μ) λJ J=>bV.m (bV.w _) λJ=>bV.j _
 | .n o _ _ e,ρ,μ=>bV.d (bP (T:=T) (call:=call) o ρ μ) λJ μ=>bV.m (bV.k _ _) λJ=>bV.d (bP (T:=T) (call:=call) e ρ μ) λJ J=>bV.m (bV.w _) λJ=>bV.m (bV.k _ _) λJ=>bV.j _
 | .p e,ρ,μ=>bV.d (bP (T:=T) (call:=call) e ρ μ) λJ J=>bV.j _
 | .m t a b,ρ,μ=>bV.d (bP (T:=T) (call:=call) t ρ μ) λJ μ=>bV.B (iE a ρ μ) (iE b ρ μ)
 | .h t b,ρ,μ=>t7 (iE b) (bP (T:=T) (call:=call) t) fuel ρ μ
 | .g t (.b e) b,ρ,μ=>bV.d (bP (T:=T) (call:=call) e ρ μ) λv μ=>by
  cases v with
  |e l=>exact td (iE b) (kM (T:=T) (call:=call) t) l ρ μ
  |_=>exact bV.G λn l=>qH (iE b) (kM (T:=T) (call:=call) t) 0 l ρ μ
 | .g t (.a e) b,ρ,μ=>bV.d (bP (T:=T) (call:=call) e ρ μ) λJ μ=>bV.C λJ=>bV.F (td (iE b) (kM (T:=T) (call:=call) t) _ ρ μ)
 | .g t (.c e) b,ρ,μ=>bV.d (bP (T:=T) (call:=call) e ρ μ) λJ μ=>bV.G λn l=>qH (iE b) (kM (T:=T) (call:=call) t) 0 l ρ μ
 | .l o i,ρ,μ=>bV.d (bP (T:=T) (call:=call) o ρ μ) λJ μ=>bV.d (bP (T:=T) (call:=call) i ρ μ) λJ J=>bV.m (bV.k _ _) λJ=>bV.j _
 | .k o i,ρ,μ=>bV.d (bP (T:=T) (call:=call) o ρ μ) λJ μ=>bV.d (bP (T:=T) (call:=call) i ρ μ) λJ J=>bV.m (bV.k _ _) λJ=>bV.j _
theorem iE:∀(l:List MS) (ρ:Loc) (μ:Hp),bV (qF T call fuel l ρ μ) (aY T call fuel l ρ μ)
 |[],_,_=>bV.j _
 |s::r,ρ,μ=>bV.D (bV.K _ _ (Bu s ρ μ)) (iE r)
end
end
noncomputable def ac9(o:Option (FLH×SS)):Option (MV×Hp×Prop):=match o with
 |some ((.b v,_,μ),⟨[],P⟩)=>some (v,μ,P)
 |some ((.a,_,μ),⟨[],P⟩)=>some (.f,μ,P)
 |_=>none
noncomputable def tT(k f:Nat)(vs:List MV)(μ:Hp)(sc:List (Nat×rN)):Option (MV×Hp×Prop):=(Tb.h f).bind λF=>(eH F.a vs []).bind λρ=>ac9 (qF Tb (au Tb k) k F.b ρ μ ⟨uC 0 sc,True⟩)
theorem lS{P:Prop}(h:tT k f vs μ sc=some (r,aG,P))(p:P):au Tb (k+1) f vs μ=some (r,aG):=
 bm h λF c h=>bm h λρ d h=>by
  show((Tb.h f).bind λF=>(eH F.a vs []).bind λρ=>Fm (aY Tb (au Tb k) k F.b ρ μ))=_
  refine c▸?_
  show((eH F.a vs []).bind λρ=>Fm (aY Tb (au Tb k) k F.b ρ μ))=_
  refine d▸?_
  show Fm (aY Tb (au Tb k) k F.b ρ μ)=_
  match e:qF Tb (au Tb k) k F.b ρ μ ⟨uC 0 sc,True⟩,h with
  |none,h=>cases h
  |some ((fl,bu,bF),⟨s1,P1⟩),h=>
   have x:=iE F.b ρ μ _ _ _ e
   cases s1 with
   |cons _ _=>cases fl<;>cases h
   |nil=>cases fl<;>(cases h;rw[(x p).2];rfl)
end
section
set_option genCtorIdx true in
inductive l6|d|c|e (t:Nat)|g|f
set_option genCtorIdx true in
set_option genInjectivity true in
inductive Row|f|e|d (c:l6) (b:Nat) (o:Bool)
noncomputable def l6.a(b:Nat):l6->MV
 | .d=> .e [.c 5,.c b]
 | .c=> .e [.c 3,.c 8,.e [.c b]]
 | .e t=> .e [.c 2,.c t,.e [.c b]]
 | .g=> .e [.c 3,.c 68,.e [.c b]]
 | .f=> .e [.c 4,.c b]
noncomputable def Row.a:Row->MV
 | .f=> .e [.c 7,.c 0]
 | .e=> .e [.c 2,.c 6,.e []]
 | .d c b _=>c.a b
noncomputable def Row.h:Row->MV
 | .d .d _ _=> .c 1
 | .d _ _ _=> .c 2
 |_=> .c 1
noncomputable def Row.i:Row->MV
 | .d _ _ _=> .c 2
 |_=> .c 1
noncomputable def Row.g:Row->MV
 | .f=> .c 1
 | .e=> .c 0
 | .d _ _ true=> .c 1
 | .d _ _ false=> .c 0
noncomputable def bR:List MV:=[.e [.c 1,.c 0],.e [.c 1,.c 1],.e [.c 1,.c 2],.e [.c 1,.c 3],.e [.c 1,.c 4],.e [.c 1,.c 5],.e [.c 1,.c 6],.e [.c 1,.c 7],.e [.c 1,.c 8],.e [.c 1,.c 9],.e [.c 1,.c 10],.e [.c 1,.c 11],.e [.c 1,.c 12],.e [.c 1,.c 13],.e [.c 1,.c 14],.e [.c 1,.c 15],.e [.c 3,.c 69,.e []],.e [.c 3,.c 70,.e []],.e [.c 2,.c 66,.e []],.e [.c 6,.c 0]]
noncomputable def bI:List (MV×MV):=[((.e [.c 1,.c 0]),.c 0),((.e [.c 1,.c 1]),.c 1),((.e [.c 1,.c 2]),.c 2),((.e [.c 1,.c 3]),.c 3),((.e [.c 1,.c 4]),.c 4),((.e [.c 1,.c 5]),.c 5),((.e [.c 1,.c 6]),.c 6),((.e [.c 1,.c 7]),.c 7),((.e [.c 1,.c 8]),.c 8),((.e [.c 1,.c 9]),.c 9),((.e [.c 1,.c 10]),.c 10),((.e [.c 1,.c 11]),.c 11),((.e [.c 1,.c 12]),.c 12),((.e [.c 1,.c 13]),.c 13),((.e [.c 1,.c 14]),.c 14),((.e [.c 1,.c 15]),.c 15),((.e [.c 3,.c 69,.e []]),.c 16),((.e [.c 3,.c 70,.e []]),.c 17),((.e [.c 2,.c 66,.e []]),.c 18),((.e [.c 6,.c 0]),.c 19)]
noncomputable def l_:List MV:=[.c 1,.c 1,.c 1,.c 1,.c 1,.c 1,.c 1,.c 1,.c 1,.c 1,.c 1,.c 1,.c 1,.c 1,.c 1,.c 1,.c 1,.c 1,.c 1,.c 1]
noncomputable def uo:List MV:=[.c 0,.c 0,.c 0,.c 0,.c 0,.c 0,.c 0,.c 0,.c 0,.c 0,.c 0,.c 0,.c 0,.c 0,.c 0,.c 0,.c 0,.c 0,.c 0,.c 1]
noncomputable def iF:Nat->List Row->List (MV×MV)
 |_,[]=>[]
 |n,r::l=>(r.a,.c n)::iF (n+1) l
structure jD where
 c:MO
 d:MO
 e:MO
 f:MO
 g:MO
 h:MO
 i:MO
 j:MO
 a:MO
 k:MO
 b:MO
noncomputable def KG(a:jD)(l:List MV)(n:List (MV×MV))(o m p:List MV)(z:List MO):Hp:=
 a.c::a.d::a.e::a.f::a.g::a.h::a.i::a.j::a.a::a.k::a.b:: .d 86 [(48,.d 12),(310,.d 13),(311,.d 14),(312,.d 15),(45,.d 16)]:: .a l:: .b n:: .a o:: .a m:: .a p::z
noncomputable def KH(a:jD)(R:List Row)(z:List MO):Hp:=KG a (bR++R.map Row.a) (bI++iF 20 R) (l_++R.map Row.h) (l_++R.map Row.i) (uo++R.map Row.g) z
structure St where
 n0:List MV
 nu:List MV
 ah:List MV
 af:List MV
 U:Int
 R:List Row
 al:List MV
 am:List MV
 T:Nat->Int
 Y:Nat->List MV
 N:Nat->List MV
 pf:Nat->List MV
 pl:Nat->List MV
 h:Int
 ae:Int
 A:Int
 J:List MV
 B:List (MV×MV)
 O:Int
 an:MV
 Z:MV
 X:List MV
 ab:List (MV×MV)
 G:List MV
 H:List MV
 a:List MV
 z:List MV
 u:List MV
 L:List (MV×MV)
noncomputable def jq(σ:St):jD:=⟨.a σ.n0,.a σ.nu,.a [.d 80,.d 111],.a σ.ah,.a [.e [.c 0,.c 0]],.a [.e [.c 0,.c 0],.e [.c 0,.c 0],.e [.c 0,.c 0],.e [.c 0,.c 0],.e [.c 0,.c 0],.e [.c 0,.c 0],.e [.c 0,.c 0],.e [.c 0,.c 0],.e [.c 0,.c 0]],.a [],.d 959 [(258,.e []),(383,.c 8),(130,.d 5),(243,.d 6)],.b [((.g [110,117,109,115]),.d 1),((.g [97,116]),.c σ.U),((.g [112,97,114,97,109,115]),.d 2),((.g [114,101,116,115]),.d 3),((.g [98,111,100,121]),.d 7),((.g [108,101,116,116,101,114,115]),.d 9),((.g [107,116]),.d 11),((.g [107,105,110,100,115]),.d 79),((.g [115,111,109,101]),.d 181)],.a σ.af,.d 980 [(14,.d 11),(155,.d 23),(385,.d 18),(157,.d 19),(386,.d 20),(387,.d 21),(388,.c 0)]⟩
noncomputable def gj(σ:St):List MO:=[
 .a [.f],
 .a [.f],
 .a [.f,.d 82,.d 87,.d 92,.d 97,.d 102,.d 107,.d 113,.d 118,.d 123,.d 128,.d 133,.d 138],
 .b [],
 .a [],
 .a [.f],
 .a [.f,.f,.f,.f,.f,.f,.f,.f,.f,.f,.f,.f,.f,.f,.f,.f,.f,.f,.f,.f,.f,.f,.f,.f,.f,.f,.f,.f,.f,.f,.f,.f,.f,.f,.f,.f,.f,.f,.f,.f,.f,.f,.f,.f,.f,.f,.f,.f,.f,.f,.f,.f,.f,.f,.f,.f,.f,.f,.f,.f,.f,.f,.f,.f,.d 25,.d 36,.d 47,.d 58,.d 69],
 .a [.g [84]],
 .d 917 [(33,.c 64),(156,.g [68]),(5,.c 4),(161,.c 0),(363,.c (-1)),(365,.d 26),(160,.d 27),(366,.d 28),(367,.d 29),(369,.d 30),(157,.d 31),(364,.c 1),(166,.c 0),(370,.c (-1)),(371,.d 32),(372,.d 33),(373,.d 34),(374,.c 0),(335,.c 0)],
 .a [],
 .a [.g [84]],
 .a [.c 0],
 .a [.e [.c 0,.e []]],
 .a [],
 .a [.c 1],
 .a [],
 .a [],
 .a [],
 .a [.g [84]],
 .d 917 [(33,.c 65),(156,.g [69]),(5,.c 4),(161,.c 0),(363,.c (-1)),(365,.d 37),(160,.d 38),(366,.d 39),(367,.d 40),(369,.d 41),(157,.d 42),(364,.c 1),(166,.c 0),(370,.c (-1)),(371,.d 43),(372,.d 44),(373,.d 45),(374,.c 0),(335,.c 0)],
 .a [],
 .a [.g [84]],
 .a [.c 0],
 .a [.e [.c 0,.e []]],
 .a [],
 .a [.c 7],
 .a [],
 .a [],
 .a [],
 .a [.g [84]],
 .d 917 [(33,.c 66),(156,.g [67]),(5,.c 1),(161,.c 0),(363,.c (-1)),(365,.d 48),(160,.d 49),(366,.d 50),(367,.d 51),(369,.d 52),(157,.d 53),(364,.c 1),(166,.c 0),(370,.c (-1)),(371,.d 54),(372,.d 55),(373,.d 56),(374,.c 0),(335,.c 0)],
 .a [],
 .a [.g [84]],
 .a [.c 0],
 .a [.e [.c 0,.e []]],
 .a [],
 .a [.c 2,.c 6,.c 8,.c 12],
 .a [],
 .a [],
 .a [],
 .a [.g [84]],
 .d 917 [(33,.c 67),(156,.g [71]),(5,.c 1),(161,.c 0),(363,.c (-1)),(365,.d 59),(160,.d 60),(366,.d 61),(367,.d 62),(369,.d 63),(157,.d 64),(364,.c 1),(166,.c 0),(370,.c (-1)),(371,.d 65),(372,.d 66),(373,.d 67),(374,.c 0),(335,.c 0)],
 .a [],
 .a [.g [84]],
 .a [.c 0],
 .a [.e [.c 0,.e []]],
 .a [],
 .a [.c 3,.c 4,.c 9,.c 10],
 .a [],
 .a [],
 .a [],
 .a [.g [84]],
 .d 917 [(33,.c 68),(156,.g [83]),(5,.c 2),(161,.c 0),(363,.c (-1)),(365,.d 70),(160,.d 71),(366,.d 72),(367,.d 73),(369,.d 74),(157,.d 75),(364,.c 1),(166,.c 0),(370,.c (-1)),(371,.d 76),(372,.d 77),(373,.d 78),(374,.c 0),(335,.c 0)],
 .a [],
 .a [.g [84]],
 .a [.c 0],
 .a [.e [.c 0,.e []]],
 .a [],
 .a [.c 5,.c 11],
 .a [],
 .a [],
 .a [],
 .b [((.g [118]),.c 0),((.g [98]),.c 1),((.g [99]),.c 2),((.g [121]),.c 3),((.g [89]),.c 4),((.g [104]),.c 5),((.g [72]),.c 6),((.g [105]),.c 7),((.g [117]),.c 8),((.g [108]),.c 9),((.g [76]),.c 10),((.g [110]),.c 11),((.g [111]),.c 12),((.g [115]),.c 13),((.g [112]),.c 16),((.g [101]),.c 17),((.g [107]),.c 18)],
 .a σ.al,
 .a (σ.pl 1),
 .d 938 [(131,.c 1),(219,.c 64),(156,.g [73,110,118,111,107,101]),(375,.c 6),(161,.c 0),(376,.c 0),(377,.d 83),(378,.d 84),(158,.c (σ.T 1)),(160,.e (σ.Y 1)),(379,.e (σ.N 1)),(381,.e (σ.pf 1)),(123,.f),(382,.c 0)],
 .a [],
 .a [],
 .a (σ.N 1),
 .a (σ.pl 2),
 .d 938 [(131,.c 2),(219,.c 66),(156,.g [97]),(375,.c 6),(161,.c 1),(376,.c 0),(377,.d 88),(378,.d 89),(158,.c (σ.T 2)),(160,.e (σ.Y 2)),(379,.e (σ.N 2)),(381,.e (σ.pf 2)),(123,.f),(382,.c 0)],
 .a [],
 .a [],
 .a (σ.N 2),
 .a (σ.pl 3),
 .d 938 [(131,.c 3),(219,.c 67),(156,.g [98]),(375,.c 6),(161,.c 1),(376,.c 0),(377,.d 93),(378,.d 94),(158,.c (σ.T 3)),(160,.e (σ.Y 3)),(379,.e (σ.N 3)),(381,.e (σ.pf 3)),(123,.f),(382,.c 0)],
 .a [],
 .a [],
 .a (σ.N 3),
 .a (σ.pl 4),
 .d 938 [(131,.c 4),(219,.c 67),(156,.g [99]),(375,.c 6),(161,.c 0),(376,.c 0),(377,.d 98),(378,.d 99),(158,.c (σ.T 4)),(160,.e (σ.Y 4)),(379,.e (σ.N 4)),(381,.e (σ.pf 4)),(123,.f),(382,.c 0)],
 .a [],
 .a [],
 .a (σ.N 4),
 .a (σ.pl 5),
 .d 938 [(131,.c 5),(219,.c 68),(156,.g [100]),(375,.c 6),(161,.c 0),(376,.c 0),(377,.d 103),(378,.d 104),(158,.c (σ.T 5)),(160,.e (σ.Y 5)),(379,.e (σ.N 5)),(381,.e (σ.pf 5)),(123,.f),(382,.c 0)],
 .a [],
 .a [],
 .a (σ.N 5),
 .a (σ.pl 6),
 .d 938 [(131,.c 6),(219,.c 66),(156,.g [101]),(375,.c 6),(161,.c 0),(376,.c 0),(377,.d 108),(378,.d 109),(158,.c (σ.T 6)),(160,.e (σ.Y 6)),(379,.e (σ.N 6)),(381,.e (σ.pf 6)),(123,.f),(382,.c 0)],
 .a [],
 .a [],
 .a (σ.N 6),
 .a σ.am,
 .a (σ.pl 7),
 .d 938 [(131,.c 7),(219,.c 65),(156,.g [73,110,118,111,107,101]),(375,.c 6),(161,.c 0),(376,.c 0),(377,.d 114),(378,.d 115),(158,.c (σ.T 7)),(160,.e (σ.Y 7)),(379,.e (σ.N 7)),(381,.e (σ.pf 7)),(123,.f),(382,.c 0)],
 .a [],
 .a [],
 .a (σ.N 7),
 .a (σ.pl 8),
 .d 938 [(131,.c 8),(219,.c 66),(156,.g [97]),(375,.c 6),(161,.c 1),(376,.c 0),(377,.d 119),(378,.d 120),(158,.c (σ.T 8)),(160,.e (σ.Y 8)),(379,.e (σ.N 8)),(381,.e (σ.pf 8)),(123,.f),(382,.c 0)],
 .a [],
 .a [],
 .a (σ.N 8),
 .a (σ.pl 9),
 .d 938 [(131,.c 9),(219,.c 67),(156,.g [98]),(375,.c 6),(161,.c 1),(376,.c 0),(377,.d 124),(378,.d 125),(158,.c (σ.T 9)),(160,.e (σ.Y 9)),(379,.e (σ.N 9)),(381,.e (σ.pf 9)),(123,.f),(382,.c 0)],
 .a [],
 .a [],
 .a (σ.N 9),
 .a (σ.pl 10),
 .d 938 [(131,.c 10),(219,.c 67),(156,.g [99]),(375,.c 6),(161,.c 0),(376,.c 0),(377,.d 129),(378,.d 130),(158,.c (σ.T 10)),(160,.e (σ.Y 10)),(379,.e (σ.N 10)),(381,.e (σ.pf 10)),(123,.f),(382,.c 0)],
 .a [],
 .a [],
 .a (σ.N 10),
 .a (σ.pl 11),
 .d 938 [(131,.c 11),(219,.c 68),(156,.g [100]),(375,.c 6),(161,.c 0),(376,.c 0),(377,.d 134),(378,.d 135),(158,.c (σ.T 11)),(160,.e (σ.Y 11)),(379,.e (σ.N 11)),(381,.e (σ.pf 11)),(123,.f),(382,.c 0)],
 .a [],
 .a [],
 .a (σ.N 11),
 .a (σ.pl 12),
 .d 938 [(131,.c 12),(219,.c 66),(156,.g [101]),(375,.c 6),(161,.c 0),(376,.c 0),(377,.d 139),(378,.d 140),(158,.c (σ.T 12)),(160,.e (σ.Y 12)),(379,.e (σ.N 12)),(381,.e (σ.pf 12)),(123,.f),(382,.c 0)],
 .a [],
 .a [],
 .a (σ.N 12),
 .d 303 [(69,.d 143),(70,.d 144),(66,.c σ.h),(324,.c 100000),(327,.d 145),(325,.c 3),(73,.c σ.ae),(328,.c 25001),(329,.d 146),(330,.d 147),(331,.c 0),(67,.c σ.A)],
 .a σ.J,
 .b σ.B,
 .b [],
 .a [],
 .a [],
 .d 786 [(153,.d 10),(14,.d 11),(61,.d 142),(340,.d 149),(48,.d 150),(346,.d 151),(114,.d 152),(306,.d 153),(329,.d 154),(117,.d 155),(118,.d 156),(149,.d 157),(347,.d 158),(348,.d 159),(349,.d 160),(350,.d 161),(104,.c σ.O),(132,.d 162),(106,.d 163),(109,.d 164),(112,.d 165),(351,.d 166),(352,.d 167),(353,.d 168),(172,.d 169),(121,σ.an),(120,σ.Z),(354,.d 170),(355,.f),(356,.d 171),(207,.d 172),(304,.d 175),(146,.d 174),(125,.d 176)],
 .b [],
 .b [],
 .b [],
 .b [],
 .b [((.c 17),.c 5)],
 .b [],
 .a σ.X,
 .b σ.ab,
 .b σ.L,
 .b [],
 .b [],
 .b [],
 .b [],
 .a σ.G,
 .a σ.H,
 .a σ.a,
 .a σ.z,
 .a [],
 .b [],
 .a [],
 .a σ.u,
 .a [],
 .d 395 [(61,.d 142),(117,.d 156),(149,.d 157)],
 .d 480 [],
 .d 564 [],
 .d 536 [],
 .d 592 [],
 .d 1092 [],
 .a [],
 .d 282 [(71,.c 16),(62,.c 18),(63,.d 177),(322,.c 0),(72,.c 3),(68,.c 1)],
 .a [.e [.c 8,.g [120]]],
 .d 282 [(71,.c 19),(62,.c 13),(63,.d 179),(322,.c 0),(72,.c 3),(68,.c 2)],
 .a [(.c 0),(.c 16),(.c 19)]]
noncomputable def HS(σ:St)(δ:List MO):Hp:=KH (jq σ) σ.R (gj σ++δ)
end
section
section
variable{k f:Nat}{vs:List MV}{μ aG:Hp}{r:MV}{o1 o2 o3 o4 o5 o6 o7 o8 o9 oa oq oc od oe:Prop}
theorem nH(h:tT k f vs μ []=some (r,aG,True)):au Tb (k+1) f vs μ=some (r,aG):=lS h trivial
theorem gP(sc:List (Nat×rN))(p1:o1)(h:tT k f vs μ sc=some (r,aG,True/\o1)):au Tb (k+1) f vs μ=some (r,aG):=lS h ⟨trivial,p1⟩
theorem qX(sc:List (Nat×rN))(p1:o1)(p2:o2)(h:tT k f vs μ sc=some (r,aG,(True/\o1)/\o2)):au Tb (k+1) f vs μ=some (r,aG):=lS h ⟨⟨trivial,p1⟩,p2⟩
theorem qY(sc:List (Nat×rN))(p1:o1)(p2:o2)(i:o3)(h:tT k f vs μ sc=some (r,aG,((True/\o1)/\o2)/\o3)):au Tb (k+1) f vs μ=some (r,aG):=lS h ⟨⟨⟨trivial,p1⟩,p2⟩,i⟩
theorem p8{P:Prop}(sc:List (Nat×rN))(p:P)(h:tT k f vs μ sc=some (r,aG,P)):au Tb (k+1) f vs μ=some (r,aG):=lS h p
theorem AA{p q:Prop}(x:p)(y:q):p/\q:=⟨x,y⟩
end
structure Ob where
 a:rN
 P:Prop
 h:P
section
variable{x:Option MV}{y:Option (MV×Hp)}{z:Option Hp}{b:Option Bool}{c:Option Lg}{d:Option (List (MV×MV))}{v:MV}{μ:Hp}{e:Bool}{q:Lg}{u:List (MV×MV)}
noncomputable def ov(h:x=some v):Ob:=⟨.v v,_,h⟩
noncomputable def ow(h:y=some (v,μ)):Ob:=⟨.a v μ,_,h⟩
noncomputable def oh(h:z=some μ):Ob:=⟨.h μ,_,h⟩
noncomputable def oq(h:b=some e):Ob:=⟨.b e,_,h⟩
noncomputable def oc(h:c=some q):Ob:=⟨.c q,_,h⟩
noncomputable def os{w:Option (Fl×Loc×Hp)}{s:Fl×Loc×Hp}(h:w=some s):Ob:=⟨.s s,_,h⟩
end
noncomputable def RP:List (Nat×Ob)->List (Nat×rN)
 |[]=>[]
 |(n,o)::r=>(n,o.a)::RP r
noncomputable def W8:List (Nat×Ob)->Prop->Prop
 |[],P=>P
 |(_,o)::r,P=>W8 r (P/\o.P)
theorem tP:∀(l:List (Nat×Ob)) {P:Prop},P->W8 l P
 |[],_,p=>p
 |(_,o)::r,_,p=>tP r ⟨p,o.h⟩
section
variable{k f:Nat}{vs:List MV}{μ aG:Hp}{r:MV}{T:Tab}{cl:Call}{fuel:Nat}{ρ ρ':Loc}{v:MV}{s:MS}
theorem bw(l:List (Nat×Ob))(h:tT k f vs μ (RP l)=some (r,aG,W8 l True)):au Tb (k+1) f vs μ=some (r,aG):=lS h (tP l trivial)
end
section
variable{cl:Call}{μ:Hp}{n:Nat}{l:List MV}{d:List (MV×MV)}{v key:MV}
theorem j7{i:Type}{c:Prop}[Decidable c]{x:Option i}(h:c):gd c x=x:=if_pos h
theorem UX{h:Type}{i:Nat->List MV->Option h}{j:Nat->List (MV×MV)->Option h}{m:Nat->Nat->List (Nat×MV)->Option h}(g:μ[n]?=some (.a l)):x5 μ (.d n) i j m=i n l:=by unfold x5;dsimp only;rw[g]
theorem MR{h:Type}{m:Nat->List MV->Option h}{i:Nat->List (MV×MV)->Option h}{j:Nat->Nat->List (Nat×MV)->Option h}(g:μ[n]?=some (.b d)):x5 μ (.d n) m i j=i n d:=by unfold x5;dsimp only;rw[g]
theorem hpI{h:Type}{m:Nat->List MV->Option h}{j:Nat->List (MV×MV)->Option h}{i:Nat->Nat->List (Nat×MV)->Option h}(g:μ[n]?=some (.d c fs)):x5 μ (.d n) m j i=i n c fs:=by unfold x5;dsimp only;rw[g]
theorem RA{h:Type}(f:Int->Option h):iv (.c i) f=f i:=rfl
theorem wu{h:Type}{f:Nat->List MV->Option h}(g:μ[n]?=some (.a l)):rG μ (.d n) f=f n l:=UX g
theorem dcI{h:Type}{f:Nat->List (MV×MV)->Option h}(g:μ[n]?=some (.b d)):dcM μ (.d n) f=f n d:=MR g
theorem WW{h:Type}{f:Nat->Nat->List (Nat×MV)->Option h}(g:μ[n]?=some (.d c fs)):inM μ (.d n) f=f n c fs:=hpI g
theorem j_{i j:Type}{o:Option (i×Hp)}{f:i->Hp->Option j}{v:i}(h:o=some (v,μ)):ob o f=f v μ:=h▸rfl
theorem NW{k:Loc->Hp->Ex}(h:o=some (.a,ρ,μ)):ox o k=k ρ μ:=h▸rfl
theorem oxR{k:Loc->Hp->Ex}(h:o=some (.b v,ρ,μ)):ox o k=some (.b v,ρ,μ):=by rw[h];rfl
theorem Eg{i j:Type}{o:Option i}{f:i->Option j}{v:i}(h:o=some v):o.bind f=f v:=h▸rfl
theorem mI{i j:Type}{o:Option i}{f:i->j}{v:i}(h:o=some v):o.map f=some (f v):=h▸rfl
theorem Dn{h:Type}{x:Option h}(g:μ[n]?=some (.a l)):wN n l μ x=x:=(wu g).trans (j7 ((kz _ _).mpr rfl))
theorem gH(g:μ[n]?=some (.a l))(h:l.length<=bA):dj cl μ (.d n) [v] .a=some (.f,μ.set n (.a (l++[v]))):=(wu g).trans (j7 h)
theorem ly(g:μ[n]?=some (.a l))(h:l.length<=bA):mw μ (.d n)=some (.c (l.length:Nat)):=(wu g).trans (j7 h)
theorem JV{i:Nat}(j:l[i]?=some v)(h:i<2^62):Ad l (i:Int)=some v:=(if_pos (eF _)).trans ((j7 (cw.mpr h)).trans j)
theorem gn{i:Nat}(g:μ[n]?=some (.a l))(j:l[i]?=some v)(h:i<2^62):ez μ (.d n) (.c (i:Int))=some v:=by
 delta ez;exact(UX g).trans ((RA _).trans (JV j h))
theorem v9(g:μ[n]?=some (.b d))(h:eL d key=true):dj cl μ (.d n) [key,v] .b=some ((cV d key).getD v,μ):=(dcI g).trans (j7 h)
theorem v8(g:μ[n]?=some (.b d))(h:eL d key=true):dj cl μ (.d n) [key] .b=some ((cV d key).getD .f,μ):=(dcI g).trans (j7 h)
theorem mB(g:μ[n]?=some (.b d))(h:eL d key=true)(i:d.length<=bA):p9 μ (.d n) key v=some (μ.set n (.b (iU d key v))):=(MR g).trans (j7 ⟨h,i⟩)
end
section
variable{T:Tab}{cl:Call}{F q a g x:Nat}{o e:ME}{es:List ME}{ρ:Loc}{μ bF eh:Hp}{v w:MV}{vs:List MV}
theorem cI(h:bz ρ x=some v)(μ:Hp):aO T cl (.d x) ρ μ=some (v,μ):=mI h
theorem Mo(i:aO T cl o ρ μ=some (.d q,μ))(j:gJ T μ (.d q) a=some (.c g))(h:gX T cl es ρ μ=some (vs,bF)):aO T cl (.n o a es) ρ μ=cl g (.d q::vs) bF:=(j_ i).trans ((Eg j).trans (j_ h))
theorem sf(i:aO T cl o ρ μ=some (v,bF))(h:iw T bF v a=some w):aO T cl (.k o a) ρ μ=some (w,bF):=(j_ i).trans (mI h)
theorem jP(j:aO T cl o ρ μ=some (v,μ))(i:aO T cl e ρ μ=some (k,bF))(h:ez bF v k=some w):aO T cl (.h o e) ρ μ=some (w,bF):=(j_ j).trans ((j_ i).trans (mI h))
theorem bW(h:aO T cl e ρ μ=some (v,bF))(g:gX T cl es ρ bF=some (vs,eh)):gX T cl (e::es) ρ μ=some (v::vs,eh):=(j_ h).trans (j_ g)
theorem vZ(μ:Hp):gX T cl [] ρ μ=some ([],μ):=rfl
theorem og(h:aO T cl e ρ μ=some (v,bF)):gX T cl [e] ρ μ=some ([v],bF):=bW h (vZ _)
theorem kW(h:gX T cl es ρ μ=some (vs,bF)):aO T cl (.j g es) ρ μ=cl g vs bF:=j_ h
theorem s7(i:gX T cl es ρ μ=some (vs,bF))(h:vs.length<=1000):aO T cl (.l es) ρ μ=some (.e vs,bF):=(j_ i).trans (j7 h)
theorem nC(j:aO T cl o ρ μ=some (.d q,μ))(m:gJ T μ (.d q) 0=some .a)(h:aO T cl e ρ μ=some (v,bF))(i:dj cl bF (.d q) [v] .a=some (.f,eh)):bQ T cl F (.d (.n o 0 [e])) ρ μ=some (.a,ρ,eh):=
 j_ ((j_ j).trans ((Eg m).trans ((j_ (og h)).trans i)))
theorem dn(v:MV)(μ:Hp):aO T cl (.g v) ρ μ=some (v,μ):=rfl
end
noncomputable def ar{h:Type}(l:List h)(x:h):List h:=l++[x]
theorem fQ(h:n<=1000000):n<=bA:=h
end
section
noncomputable abbrev b9(R:List Row):List MV:=bR++R.map Row.a
noncomputable abbrev fB(R:List Row):List (MV×MV):=bI++iF 20 R
noncomputable abbrev g7(R:List Row):List MV:=l_++R.map Row.h
noncomputable abbrev g9(R:List Row):List MV:=l_++R.map Row.i
noncomputable abbrev fX(R:List Row):List MV:=uo++R.map Row.g
section
variable{A:List MV}{R:List Row}{f:Row->MV}{j b n:Nat}{row:Row}
theorem Cq(h:A.length=20):(A++R.map f).length=R.length+20:=by rw[lE,ay,h,ua]
theorem Jn(h:A.length=20)(e:R[j]?=some row):(A++R.map f)[j+20]?=some (f row):=by
 rw[cq (h▸eU ..),h,Nat.add_sub_cancel,aL,e];rfl
theorem zU(e:A[b]?=some v):(A++x)[b]?=some v:=(aJ (ax.mp e).1).trans e
theorem Kg{c:Type}{l:List c}{g:Nat->c}(h:l=(fP n).map g)(hb:b<n):l[b]?=some (g b):=by
 rw[h,aL,qo hb];rfl
end
theorem gT(R:List Row):(b9 R).length=R.length+20:=Cq rfl
theorem xf(R:List Row):(g7 R).length=R.length+20:=Cq rfl
theorem xi(R:List Row):(g9 R).length=R.length+20:=Cq rfl
theorem xh(R:List Row):(fX R).length=R.length+20:=Cq rfl
theorem Je:∀(n:Nat) (R:List Row),(iF n R).length=R.length
 |_,[]=>rfl
 |n,_::l=>by simp[iF,Je (n+1) l]
theorem xg(R:List Row):(fB R).length=R.length+20:=lE.trans ((congrArg _ (Je ..)).trans (ua 20 _))
theorem gh(h:R[j]?=some row):(b9 R)[j+20]?=some row.a:=Jn rfl h
theorem m8{c:Type}{A x y:List c}{n:Nat}{v:c}(h:(A++x)[n]?=some v):(A++(x++y))[n]?=some v:=by
 rw[<-cC,aJ (ax.mp h).1];exact h
structure rO (R:List Row) (b:Nat) (o:Bool):Prop where
 g:∃s l,(b9 R)[b]?=some (.e (.c s::l))/\(s=1\/s=2\/s=3\/s=6\/s=7)
 p:b≠0/\b≠14
 i:(g7 R)[b]?=some (.c 1)
 m:(g9 R)[b]?=some (.c 1)
 c:(fX R)[b]?=some (.c (if o then 1 else 0))
 e:b<1000000
theorem rO.d{R:List Row}{b:Nat}{o:Bool}(h:rO R b o)(x:List Row):rO (R++x) b o:=by
 obtain⟨⟨s,l,v,t⟩,B,u,y,q,w⟩:=h
 refine⟨⟨s,l,?_,t⟩,B,?_,?_,?_,w⟩
 ·rw[b9,d9];exact m8 v
 ·rw[g7,d9];exact m8 u
 ·rw[g9,d9];exact m8 y
 ·rw[fX,d9];exact m8 q
noncomputable def UR:MV->Int×List MV
 | .e (.c s::l)=>(s,l)
 |_=>(0,[])
theorem nN(R:List Row)(b:Nat)(hb:b<20)(i:b≠0)(d:b≠14):rO R b (b==19):=by
 obtain⟨c,rfl⟩:=Nat.exists_eq_succ_of_ne_zero i
 have h:c<bR.tail.length:=Nat.lt_of_succ_lt_succ hb
 have m:=iK h
 have o:l_[c.succ]?=some (.c 1):=Kg (g:=λJ=>MV.c 1) ⋯ hb
 exact⟨⟨_,_,zU (b:=c+1) (A:=bR) ((aN h).trans (congrArg some (mG.mp (show bR.tail.map id=bR.tail.map λv=> .e (.c (UR v).1::(UR v).2) by kernel_rfl) _ m))),of_decide_eq_true (aQ.mp (show(bR.tail.all λv=>decide ((UR v).1=1\/(UR v).1=2\/(UR v).1=3\/(UR v).1=6\/(UR v).1=7))=true by kernel_rfl) _ m)⟩,⟨i,d⟩,zU o,zU o,zU (A:=uo) (Kg (n:=20) (g:=λb=>MV.c (if b==19 then 1 else 0)) ⋯ hb),eK hb⟩
theorem zj(h:R[j]?=some row)(d:R.length<=100000)(c:row= .f\/row= .e):rO R (j+20) (match row with| .f=>true|_=>false):=by
 refine⟨?_,adF,?_,?_,?_,gz [_,_] (V0.B+20) 1000000 (.o V0.A 100000 (.o (V0.B+1) V0.A .z)) rfl d ((ax.mp h).1)⟩
 ·rcases c with rfl|rfl
  ·exact⟨7,_,gh h,by decide⟩
  ·exact⟨2,_,gh h,by decide⟩
 ·rw[g7,Jn rfl h];rcases c with rfl|rfl<;>rfl
 ·rw[g9,Jn rfl h];rcases c with rfl|rfl<;>rfl
 ·rw[fX,Jn rfl h];rcases c with rfl|rfl<;>rfl
section
variable{k n:Nat}{a:jD}{R:List Row}{z:List MO}{r:MV}
theorem VD(h:(b9 R)[n]?=some r)(e:R.length<=100000):au Tb (k+1) 76 [.d 11,.c (n:Int)] (KH a R z)=some (r,KH a R z):=by
 have g:n<R.length+20:=by have:=(ax.mp h).1;rw[gT] at this;exact this
 have l:ct (KH a R z) .f (.c (n:Int)) (.c ((b9 R).length:Nat))=some false:=by
  show some (decide ((((b9 R).length:Nat):Int)<=(n:Int)))=_
  rw[gT,decide_eq_false (adE g)]
 have i:ez (KH a R z) (.d 12) (.c (n:Int))=some r:=gn rfl h (aD g (eK (aM e _)))
 exact qY [(3,.v (.c ((b9 R).length:Nat))),(4,.b false),(7,.v r)] (ly rfl (fQ (by rw[gT];exact(eK (aM e _)))):mw (KH a R z) (.d 12)=some (.c ((b9 R).length:Nat))) l i ⋯
theorem mN(h:(b9 R)[n]?=some r)(e:R.length<=100000):dj (au Tb (k+1)) (KH a R z) (.d 11) [.c (n:Int)] (.c 76)=some (r,KH a R z):=VD h e
theorem nE(h:n≠c):ct μ .a (.c (n:Int)) (.c (c:Int))=some false:=congrArg some (beq_eq_false_iff_ne.mpr λe=>h (Xq e))
theorem b5{P:Int->Prop}(h:s=1\/s=2\/s=3\/s=6\/s=7)(a1:P 1)(a2:P 2)(a3:P 3)(d:P 6)(c:P 7):P s:=by
 rcases h with rfl|rfl|rfl|rfl|rfl<;>assumption
theorem pU(B:rO R n o)(q:R.length<=100000):au Tb (k+2) 139 [.d 11,.c (n:Int)] (KH a R z)=some (.h true,KH a R z):=by
 obtain⟨⟨s,l,t,v⟩,⟨u,p⟩,_⟩:=B
 have i:ct (KH a R z) .a (.c (n:Int)) (.c ((0:Nat):Int))=some false:=nE u
 have m:ct (KH a R z) .a (.c (n:Int)) (.c ((14:Nat):Int))=some false:=nE p
 have g:=mN (k:=k) (a:=a) (z:=z) t q
 exact b5 (P:=λs=>dj (au Tb (k+1)) (KH a R z) (.d 11) [.c (n:Int)] (.c 76)=some (.e (.c s::l),KH a R z)->_) v (λg=>qY [(0,.b false),(2,.b false),(5,.a (.e (.c 1::l)) (KH a R z))] i m g ⋯) (λg=>qY [(0,.b false),(2,.b false),(5,.a (.e (.c 2::l)) (KH a R z))] i m g ⋯) (λg=>qY [(0,.b false),(2,.b false),(5,.a (.e (.c 3::l)) (KH a R z))] i m g ⋯) (λg=>qY [(0,.b false),(2,.b false),(5,.a (.e (.c 6::l)) (KH a R z))] i m g ⋯) (λg=>qY [(0,.b false),(2,.b false),(5,.a (.e (.c 7::l)) (KH a R z))] i m g ⋯) g
theorem uq(B:rO R n o)(g:R.length<=100000):au Tb (k+3) 132 [.d 11,.e [.c (n:Int)]] (KH a R z)=some (.f,KH a R z):=
 gP [(0,.a (.h true) (KH a R z))] (pU (k:=k) (a:=a) (z:=z) B g) ⋯
inductive iP:l6->Prop
 |a:iP .d
 |b:iP .c
 |d:iP (.e 64)
 |e:iP (.e 65)
 |g:iP (.e 67)
 |f:iP .g
 |c:iP .f
theorem hH{o:Bool}{c:l6}(i:c= .c\/c= .g\/c= .e 64\/c= .e 65\/c= .e 67)(B:rO R n o)(h:R.length<=100000):au Tb (k+4) 125 [.d 11,c.a n] (KH a R z)=some (.f,KH a R z):=by
 rcases i with rfl|rfl|rfl|rfl|rfl
 all_goals exact gP [(7,.a .f (KH a R z))] (uq (k:=k) (a:=a) (z:=z) B h) ⋯
theorem vP(t:iP c)(B:rO R n o)(m:R.length<=100000):au Tb (k+5) 118 [.d 11,c.a n] (KH a R z)=some (.f,KH a R z):=by
 refine nc B.g λs l q u=>?_
 have i:=mN (k:=k+3) (a:=a) (z:=z) q m
 have p:=pU (k:=k+2) (a:=a) (z:=z) B m
 cases t with
 |a=>exact qX [(16,.a (.e (.c s::l)) (KH a R z)),(30,.a (.h true) (KH a R z))] i p ⋯
 |c=>exact qX [(16,.a (.e (.c s::l)) (KH a R z)),(30,.a (.h true) (KH a R z))] i p ⋯
 |b=>exact qX [(16,.a (.e (.c s::l)) (KH a R z)),(21,.a .f (KH a R z))] i (hH (k:=k) (a:=a) (z:=z) (.inl rfl) B m) ⋯
 |f=>exact qX [(16,.a (.e (.c s::l)) (KH a R z)),(21,.a .f (KH a R z))] i (hH (k:=k) (a:=a) (z:=z) (.inr (.inl rfl)) B m) ⋯
 |d=>exact qX [(16,.a (.e (.c s::l)) (KH a R z)),(20,.a .f (KH a R z))] i (hH (k:=k) (a:=a) (z:=z) (.inr (.inr (.inl rfl))) B m) ⋯
 |e=>exact qX [(16,.a (.e (.c s::l)) (KH a R z)),(20,.a .f (KH a R z))] i (hH (k:=k) (a:=a) (z:=z) (.inr (.inr (.inr (.inl rfl)))) B m) ⋯
 |g=>exact qX [(16,.a (.e (.c s::l)) (KH a R z)),(20,.a .f (KH a R z))] i (hH (k:=k) (a:=a) (z:=z) (.inr (.inr (.inr (.inr rfl)))) B m) ⋯
end
end
section
theorem fg(h:a≠b):MV.k a b=false:=by
 cases e:MV.k a b with
 |false=>rfl
 |true=>exact absurd ((ju a b).mp e) h
theorem hO(a:MV):MV.k a a=true:=(ju a a).mpr rfl
theorem nR:∀{l r:List (MV×MV)},(∀p∈l,p.1≠k)->cV (l++r) k=cV r k
 |[],_,_=>rfl
 |(a,v)::l,r,h=>by
  show(if MV.k a k then some v else cV (l++r) k)=_
  exact(fg (h _ (.head _)))▸(nR λp b=>h p (.tail _ b))
theorem va:∀{l:List (MV×MV)},(∀p∈l,p.1≠k)->iU l k v=l++[(k,v)]
 |[],_=>rfl
 |(a,x)::l,h=>by
  show(if MV.k a k then(a,v)::l else(a,x)::iU l k v)=_
  refine(fg (h _ (.head _)))▸(va λp b=>h p (.tail _ b))▸?_;rfl
theorem Ck:∀(n:Nat) (R:List Row),(iF n R).map (·.1)=R.map Row.a
 |_,[]=>rfl
 |n,r::l=>by show _::_=_::_;rw[Ck (n+1) l]
theorem Rz(h:k∉R.map Row.a):∀p∈iF n R,p.1≠k:=λp b e=>h ((Ck n R)▸e▸(gM b))
theorem Bo:∀{n j:Nat} {R:List Row} {row:Row},(R.map Row.a).Nodup->R[j]?=some row->cV (iF n R) row.a=some (.c ((j+n:Nat):Int))
 |n,_,[],_,_,h=>by cases h
 |n,0,r::l,row,_,h=>by
  refine kf h ?_
  show(if MV.k r.a r.a then some (MV.c n) else _)=_
  rw[hO,cQ];rfl
 |n,j+1,r::l,row,hn,h=>by
  have b:=We.mp hn
  show(if MV.k r.a row.a then some (MV.c n) else cV (iF (n+1) l) row.a)=_
  have d:r.a≠row.a:=λe=>b.1 (e▸(gM (aU h)))
  rw[fg d,if_neg (by simp),Bo (n:=n+1) b.2 h,show j+(n+1)=j+1+n from(aR (bN [_,_] (V0.A+(V0.B+1)) (V0.A+1+V0.B) .z rfl) (bN [_,_] (V0.A+1+V0.B) (V0.A+(V0.B+1)) .z rfl))]
noncomputable def Ji:MV->Bool
 | .e (.c s:: .c t::_)=>s==1||s==6||(s==3&&(t==69||t==70))||(s==2&&t==66)
 |_=>false
theorem LR:(bI.all λp=>Ji p.1)=true:=⋯
inductive iD:Row->Prop
 |v:iD .f
 |c:iD .e
 |a {c:l6} (h:iP c) (b:Nat) (o:Bool):iD (.d c b o)
theorem iD.e(h:iD row):Ji row.a=false:=by
 cases h with
 |v=>rfl
 |c=>rfl
 |a h b o=>cases h<;>rfl
theorem iD.d(h:iD row):eE row.a=3:=by
 cases h with
 |v=>rfl
 |c=>rfl
 |a h b o=>cases h<;>rfl
theorem HE(h:iD row):∀p∈bI,p.1≠row.a:=λp b e=>by
 have:=aQ.mp LR p b
 replace this:=h.e▸e▸this;cases this
structure KW (R:List Row):Prop where
 d:(R.map Row.a).Nodup
 g:∀row∈R,iD row
 l:∀c b o,Row.d c b o∈R->rO R b o
theorem LU:(bI.all λp=>eE p.1==3)=true:=⋯
theorem Cm:∀{n:Nat} {R:List Row},(∀row∈R,iD row)->∀p∈iF n R,eE p.1=3
 |_,[],_,_,hp=>by cases hp
 |n,r::l,h,p,hp=>by
  rcases cx.mp hp with rfl|hp
  ·exact(h r (.head _)).d
  ·exact Cm (n:=n+1) (λx a=>h x (.tail _ a)) p hp
theorem nq(W:KW R)(h:iD row):eL (fB R) row.a=true:=by
 unfold eL
 rw[h.d]
 simp only[bO,aQ]
 refine⟨rfl,λp b=>?_⟩
 rcases cP.mp b with q|q
 ·exact aQ.mp LU p q
 ·rw[Cm W.g p q];rfl
theorem H_(W:KW R)(h:R[j]?=some row):cV (fB R) row.a=some (.c ((j+20:Nat):Int)):=by
 rw[fB,nR (HE (W.g _ (aU h))),Bo W.d h]
theorem H9(b:iD row)(h:row.a∉R.map Row.a):cV (fB R) row.a=none:=by
 rw[fB,nR (HE b)]
 have:=nR (r:=[]) (Rz (n:=20) h)
 rw[d8] at this
 exact this
theorem Jd:∀(n:Nat) (R:List Row) (row:Row),iF n (R++[row])=iF n R++[(row.a,.c ((n+R.length:Nat):Int))]
 |n,[],row=>rfl
 |n,r::l,row=>by
  show _::iF (n+1) (l++[row])=_
  rw[Jd (n+1) l row,show n+1+l.length=n+(r::l).length from by simp;exact(aR (bN [_,_] (V0.A+1+V0.B) (V0.A+(V0.B+1)) .z rfl) (bN [_,_] (V0.A+(V0.B+1)) (V0.A+1+V0.B) .z rfl))];rfl
theorem xJ(d:iD row)(h:row.a∉R.map Row.a):iU (fB R) row.a (.c ((R.length+20:Nat):Int))=fB (R++[row]):=by
 rw[fB,va (λp b=>by
  rcases cP.mp b with q|q
  ·exact HE d p q
  ·exact Rz h p q),fB,Jd,cC,ua]
theorem KW.m(W:KW R)(k:iD row)(h:row.a∉R.map Row.a)(hb:∀c b o,row= .d c b o->rO R b o):KW (R++[row]):=by
 refine⟨?_,λx i=>?_,λc b o i=>?_⟩
 ·rw[d9,mH]
  refine⟨W.d,by simp,λx i y j e=>?_⟩
  rw[dX,jx,bK] at j
  rw[e,j] at i
  exact h i
 ·rcases cP.mp i with q|q
  ·exact W.g x q
  ·exact(bK.mp q)▸k
 ·rcases cP.mp i with q|q
  ·exact(W.l c b o q).d _
  ·exact(hb c b o (bK.mp q).symm).d _
noncomputable def tlM:MV->List MV
 | .e l=>l
 |_=>[]
noncomputable def toI:MV->Int
 | .c i=>i
 |_=>0
noncomputable def atI(v:MV)(i:Nat):Int:=toI ((tlM v).getD i .f)
noncomputable def two(v:MV):Bool:=aT (tlM v).length 2
noncomputable def cdV(v:MV):Int:=cond (two v) (atI v 0) (100*atI v 0+atI v 1)
noncomputable def agV(v:MV):Int:=cond (two v) (atI v 1) (atI ((tlM v).getD 2 .f) 0)
noncomputable def unC(x:Int):l6:=if x=5 then .d else if x=4 then .f else if x=308 then .c else if x=368 then .g else .e (x - 200).toNat
theorem rB(h:iP c):unC (cdV (c.a b))=c/\agV (c.a b)=b/\(cdV (c.a b) !=7&&cdV (c.a b) !=206)=true:=by
 cases h<;>exact⟨rfl,rfl,rfl⟩
theorem Bp(j:iD r1)(f:iD r2)(e:r1.a=r2.a):(∃c b o g,r1= .d c b o/\r2= .d c b g)\/r1=r2:=by
 have q:=congrArg cdV e
 cases j with
 |v=>cases f with
  |v=>exact .inr rfl
  |c=>exact absurd q (show(7:Int)≠206 by decide)
  |a h b o=>exact absurd ((congrArg (λx:Int=>x !=7&&x !=206) q).trans (rB h).2.2) (by decide)
 |c=>cases f with
  |v=>exact absurd q (show(206:Int)≠7 by decide)
  |c=>exact .inr rfl
  |a h b o=>exact absurd ((congrArg (λx:Int=>x !=7&&x !=206) q).trans (rB h).2.2) (by decide)
 |a h b o=>cases f with
  |v=>exact absurd ((congrArg (λx:Int=>x !=7&&x !=206) q.symm).trans (rB h).2.2) (by decide)
  |c=>exact absurd ((congrArg (λx:Int=>x !=7&&x !=206) q.symm).trans (rB h).2.2) (by decide)
  |a h' i g=>
   exact .inl ⟨_,b,o,g,rfl,((rB (b:=b) h).1.symm.trans ((congrArg unC q).trans (rB (b:=i) h').1))▸(Xq ((rB (b:=b) h).2.1.symm.trans ((congrArg agV e).trans (rB (b:=i) h').2.1)))▸rfl⟩
end
section
section
variable{k b j:Nat}{o:Bool}{c:l6}{a:jD}{R:List Row}{z:List MO}{row:Row}
theorem ge0{μ:Hp}{n:Nat}:ct μ .f (.c (n:Int)) (.c 0)=some true:=by
 show some (decide ((0:Int)<=(n:Int)))=_
 rw[decide_eq_true Sl]
theorem Dg(W:KW R)(h:R[j]?=some row):au Tb (k+1) 83 [.d 11,row.a] (KH a R z)=some (.c ((j+20:Nat):Int),KH a R z):=by
 have e:=W.g _ (aU h)
 have i:dj (au Tb k) (KH a R z) (.d 13) [row.a,.c (-1)] .b=some (.c ((j+20:Nat):Int),KH a R z):=by
  rw[v9 (d:=fB R) rfl (nq W e),H_ W h];rfl
 exact qX [(2,.a (.c ((j+20:Nat):Int)) (KH a R z)),(3,.b true)] i (ge0:ct (KH a R z) .f (.c ((j+20:Nat):Int)) (.c 0)=some true) ⋯
theorem Ca(W:KW R)(e:iD row)(h:row.a∉R.map Row.a):dj cl (KH a R z) (.d 13) [row.a,.c (-1)] .b=some (.c (-1),KH a R z):=by
 rw[v9 (d:=fB R) rfl (nq W e),H9 e h];rfl
theorem N0(W:KW R)(l:R.length<=99999)(r:iP c)(B:rO R b o)(h:c.a b∉R.map Row.a):au Tb (k+6) 83 [.d 11,c.a b] (KH a R z)=some (.c ((R.length+20:Nat):Int),KH a (R++[.d c b o]) z):=by
 have p:iD (.d c b o):= .a r b o
 have t:=Ca (a:=a) (z:=z) W p h (cl:=au Tb (k+5))
 have C:=vP (k:=k) (a:=a) (z:=z) r B (vJ l)
 have q:ez (KH a R z) (.d 14) (.c (b:Int))=some (.c 1):=gn rfl B.i (by have:=B.e;exact He this)
 have w:ez (KH a R z) (.d 15) (.c (b:Int))=some (.c 1):=gn rfl B.m (by have:=B.e;exact He this)
 have s:ez (KH a R z) (.d 16) (.c (b:Int))=some (.c (if o then 1 else 0)):=gn rfl B.c (by have:=B.e;exact He this)
 have u:mw (KH a R z) (.d 12)=some (.c ((R.length+20:Nat):Int)):=by rw[<-gT];exact ly rfl (fQ (by rw[gT];exact rP l))
 have x:dj (au Tb (k+5)) (KH a R z) (.d 12) [c.a b] .a=some (.f,KG a (b9 R++[c.a b]) (fB R) (g7 R) (g9 R) (fX R) z):=gH rfl (fQ (by rw[gT];exact rP l))
 have y:p9 (KG a (b9 R++[c.a b]) (fB R) (g7 R) (g9 R) (fX R) z) (.d 13) (c.a b) (.c ((R.length+20:Nat):Int))=some (KG a (b9 R++[c.a b]) (fB (R++[.d c b o])) (g7 R) (g9 R) (fX R) z):=by
  show p9 _ _ (Row.d c b o).a _=_
  rw[mB (d:=fB R) rfl (nq W p) (fQ (by rw[xg];exact rP l)),xJ p h];rfl
 have D:∀d:MV,dj (au Tb (k+5)) (KG a (b9 R++[c.a b]) (fB (R++[.d c b o])) (g7 R) (g9 R) (fX R) z) (.d 14) [d] .a=some (.f,KG a (b9 R++[c.a b]) (fB (R++[.d c b o])) (g7 R++[d]) (g9 R) (fX R) z):=λd=>gH rfl (fQ (by rw[xf];exact rP l))
 have A:∀d:MV,dj (au Tb (k+5)) (KG a (b9 R++[c.a b]) (fB (R++[.d c b o])) (g7 R++[d]) (g9 R) (fX R) z) (.d 15) [.c 2] .a=some (.f,KG a (b9 R++[c.a b]) (fB (R++[.d c b o])) (g7 R++[d]) (g9 R++[.c 2]) (fX R) z):=λd=>gH rfl (fQ (by rw[xi];exact rP l))
 have v:∀d:MV,dj (au Tb (k+5)) (KG a (b9 R++[c.a b]) (fB (R++[.d c b o])) (g7 R++[d]) (g9 R++[.c 2]) (fX R) z) (.d 16) [.c (if o then 1 else 0)] .a=some (.f,KG a (b9 R++[c.a b]) (fB (R++[.d c b o])) (g7 R++[d]) (g9 R++[.c 2]) (fX R++[.c (if o then 1 else 0)]) z):=λd=>gH rfl (fQ (by rw[xh];exact rP l))
 have n:∀d:MV,(Row.d c b o).h=d->KG a (b9 R++[c.a b]) (fB (R++[.d c b o])) (g7 R++[d]) (g9 R++[.c 2]) (fX R++[.c (if o then 1 else 0)]) z=KH a (R++[.d c b o]) z:=λd E=>by
  have:(Row.d c b o).g= .c (if o then 1 else 0):=by cases o<;>rfl
  simp only[KH,b9,fB,g7,g9,fX,d9,dX,jx,<-cC,this,E]
  rfl
 cases o<;>cases r with
 |a=>rw[<-n (.c 1) rfl];exact bw [(2,ow t),(5,ow C),(16,ov q),(21,ov w),(23,ov s),(31,ov u),(34,ow x),(36,oh y),(39,ow (D (.c 1))),(42,ow (A (.c 1))),(45,ow (v (.c 1)))] ⋯
 |_=>rw[<-n (.c 2) rfl];exact bw [(2,ow t),(5,ow C),(16,ov q),(21,ov q),(24,ov w),(26,ov s),(34,ov u),(37,ow x),(39,oh y),(42,ow (D (.c 2))),(45,ow (A (.c 2))),(48,ow (v (.c 2)))] ⋯
end
end
section
section
variable{k b j:Nat}{o:Bool}{c:l6}{a:jD}{R:List Row}{z:List MO}{row:Row}
theorem J7(W:KW R)(l:R.length<=99999)(m:row= .f\/row= .e)(h:row.a∉R.map Row.a):au Tb (k+6) 83 [.d 11,row.a] (KH a R z)=some (.c ((R.length+20:Nat):Int),KH a (ar R row) z):=by
 have n:iD row:=by rcases m with rfl|rfl<;>constructor
 have q:=Ca (a:=a) (z:=z) W n h (cl:=au Tb (k+5))
 have r:mw (KH a R z) (.d 12)=some (.c ((R.length+20:Nat):Int)):=by rw[<-gT];exact ly rfl (fQ (by rw[gT];exact rP l))
 have s:dj (au Tb (k+5)) (KH a R z) (.d 12) [row.a] .a=some (.f,KG a (ar (b9 R) row.a) (fB R) (g7 R) (g9 R) (fX R) z):=gH rfl (fQ (by rw[gT];exact rP l))
 have t:p9 (KG a (ar (b9 R) row.a) (fB R) (g7 R) (g9 R) (fX R) z) (.d 13) row.a (.c ((R.length+20:Nat):Int))=some (KG a (ar (b9 R) row.a) (fB (ar R row)) (g7 R) (g9 R) (fX R) z):=by
  rw[mB (d:=fB R) rfl (nq W n) (fQ (by rw[xg];exact rP l)),xJ n h];rfl
 have x:dj (au Tb (k+5)) (KG a (ar (b9 R) row.a) (fB (ar R row)) (g7 R) (g9 R) (fX R) z) (.d 14) [.c 1] .a=some (.f,KG a (ar (b9 R) row.a) (fB (ar R row)) (ar (g7 R) (.c 1)) (g9 R) (fX R) z):=gH rfl (fQ (by rw[xf];exact rP l))
 have u:dj (au Tb (k+5)) (KG a (ar (b9 R) row.a) (fB (ar R row)) (ar (g7 R) (.c 1)) (g9 R) (fX R) z) (.d 15) [.c 1] .a=some (.f,KG a (ar (b9 R) row.a) (fB (ar R row)) (ar (g7 R) (.c 1)) (ar (g9 R) (.c 1)) (fX R) z):=gH rfl (fQ (by rw[xi];exact rP l))
 have w:dj (au Tb (k+5)) (KG a (ar (b9 R) row.a) (fB (ar R row)) (ar (g7 R) (.c 1)) (ar (g9 R) (.c 1)) (fX R) z) (.d 16) [row.g] .a=some (.f,KG a (ar (b9 R) row.a) (fB (ar R row)) (ar (g7 R) (.c 1)) (ar (g9 R) (.c 1)) (ar (fX R) row.g) z):=gH rfl (fQ (by rw[xh];exact rP l))
 have p:KG a (ar (b9 R) row.a) (fB (ar R row)) (ar (g7 R) (.c 1)) (ar (g9 R) (.c 1)) (ar (fX R) row.g) z=KH a (ar R row) z:=by
  have A:row.h= .c 1:=by rcases m with rfl|rfl<;>rfl
  have y:row.i= .c 1:=by rcases m with rfl|rfl<;>rfl
  simp only[KH,b9,fB,g7,g9,fX,ar,d9,dX,jx,<-cC,A,y]
 refine p▸?_
 rcases m with rfl|rfl
 ·exact p8 [(2,.a (.c (-1)) (KH a R z)),(20,.v (.c ((R.length+20:Nat):Int))),(23,.a .f (KG a (ar (b9 R) (Row.a .f)) (fB R) (g7 R) (g9 R) (fX R) z)),(25,.h (KG a (ar (b9 R) (Row.a .f)) (fB (ar R .f)) (g7 R) (g9 R) (fX R) z)),(28,.a .f (KG a (ar (b9 R) (Row.a .f)) (fB (ar R .f)) (ar (g7 R) (.c 1)) (g9 R) (fX R) z)),(31,.a .f (KG a (ar (b9 R) (Row.a .f)) (fB (ar R .f)) (ar (g7 R) (.c 1)) (ar (g9 R) (.c 1)) (fX R) z)),(34,.a .f (KG a (ar (b9 R) (Row.a .f)) (fB (ar R .f)) (ar (g7 R) (.c 1)) (ar (g9 R) (.c 1)) (ar (fX R) (.c 1)) z))] (AA (AA (AA (AA (AA (AA (AA trivial q) r) s) t) x) u) w) ⋯
 ·exact p8 [(2,.a (.c (-1)) (KH a R z)),(20,.v (.c ((R.length+20:Nat):Int))),(23,.a .f (KG a (ar (b9 R) (Row.a .e)) (fB R) (g7 R) (g9 R) (fX R) z)),(25,.h (KG a (ar (b9 R) (Row.a .e)) (fB (ar R .e)) (g7 R) (g9 R) (fX R) z)),(28,.a .f (KG a (ar (b9 R) (Row.a .e)) (fB (ar R .e)) (ar (g7 R) (.c 1)) (g9 R) (fX R) z)),(31,.a .f (KG a (ar (b9 R) (Row.a .e)) (fB (ar R .e)) (ar (g7 R) (.c 1)) (ar (g9 R) (.c 1)) (fX R) z)),(34,.a .f (KG a (ar (b9 R) (Row.a .e)) (fB (ar R .e)) (ar (g7 R) (.c 1)) (ar (g9 R) (.c 1)) (ar (fX R) (.c 0)) z))] (AA (AA (AA (AA (AA (AA (AA trivial q) r) s) t) x) u) w) ⋯
structure Put (R:List Row) (row:Row) (R':List Row) (j:Nat):Prop where
 b:R'[j]?=some row
 e:KW R'
 c:∃x,R'=R++x
 d:R'.length<=R.length+1
theorem wG(W:KW R)(v:R.length<=99999)(n:iP c)(B:rO R b o){p:Prop}(t:∀R' j,(∀k a z,au Tb (k+6) 83 [.d 11,c.a b] (KH a R z)=some (.c ((j+20:Nat):Int),KH a R' z))->Put R (.d c b o) R' j->p):p:=by
 by_cases h:c.a b∈R.map Row.a
 ·refine cf (cY.mp h) λr i e=>?_
  obtain⟨j,hj,f⟩:=qp i
  have f:R[j]?=some r:=by rw[aN hj,f]
  have u:r= .d c b o:=by
   rcases Bp (W.g r i) (iD.a n b o) e with⟨w,x,o1,o2,rfl,e2⟩|rfl
   ·cases e2
    have s:=(W.l _ _ _ i).c
    rw[B.c] at s
    cases o<;>cases o1<;>first|rfl|cases s
   ·rfl
  subst u
  have q:=λk a z=>Dg (k:=k+5) (a:=a) (z:=z) W f
  exact t R j q ⟨f,W,⟨[],by simp⟩,lG⟩
 ·refine t (R++[.d c b o]) R.length (λk a z=>N0 W v n B h) ⟨by simp,W.m (row:= .d c b o) (.a n b o) h (λw x y e=>by cases e;exact B),⟨_,rfl⟩,by simp⟩
theorem Dh(W:KW R)(u:R.length<=99999)(i:row= .f\/row= .e){s:Prop}(t:∀R' j,(∀k a z,au Tb (k+6) 83 [.d 11,row.a] (KH a R z)=some (.c ((j+20:Nat):Int),KH a R' z))->Put R row R' j->s):s:=by
 have q:iD row:=by rcases i with rfl|rfl<;>constructor
 by_cases h:row.a∈R.map Row.a
 ·refine cf (cY.mp h) λr p e=>?_
  obtain⟨j,hj,l⟩:=qp p
  have l:R[j]?=some r:=by rw[aN hj,l]
  have n:r=row:=by
   rcases Bp (W.g r p) q e with⟨v,w,o1,o2,rfl,e2⟩|rfl
   ·rcases i with rfl|rfl<;>cases e2
   ·rfl
  subst n
  exact t R j (λk a z=>Dg (k:=k+5) (a:=a) (z:=z) W l) ⟨l,W,⟨[],by simp⟩,lG⟩
 ·refine t (ar R row) R.length (λk a z=>J7 W u i h) ⟨by simp[ar],W.m q h (λv w x e=>by rcases i with rfl|rfl<;>cases e),⟨_,rfl⟩,by simp[ar]⟩
theorem KW.f(W:KW R)(e:R[i]?=some row)(h:R[j]?=some row):i=j:=by
 have hj:=(ax.mp h).1
 have n:(R.map Row.a)[j]?=some row.a:=by rw[aL,h];rfl
 exact(ON (by simpa using((ax.mp e).1)) W.d).mp ((by rw[aL,e];rfl:(R.map Row.a)[i]?=some row.a).trans n.symm)
end
end
section
set_option genCtorIdx true in
set_option genCtorIdx true in
inductive CT|b (c:Nat)|r (c:Nat)|q (c:Nat)
noncomputable def CT.d:CT->MV
 | .b c=> .g [c]
 | .r c=> .g [114,c]
 | .q c=> .g [113,c]
noncomputable def CT.f:CT->Nat| .b c=>c| .r c=>c| .q c=>c
noncomputable def CT.e(l:Nat):CT->CT
 | .b c=> .b (if aT c 84 then l else c)
 | .r c=> .r (if aT c 84 then l else c)
 | .q c=> .q (if aT c 84 then l else c)
noncomputable def rR:List (Nat×Nat):=[(98,1),(99,2),(121,3),(89,4),(104,5),(72,6),(105,7),(117,8),(108,9),(76,10),(110,11),(111,12),(115,13),(112,16),(101,17),(107,18)]
noncomputable def kd(v c:Nat):Nat:=if aT c 84 then v else(rR.lookup c).getD 0
noncomputable def bC(c:Nat):Bool:=aT c 84||(rR.lookup c).isSome
noncomputable def cj(R:List Row)(v k:Nat):CT->Prop
 | .b c=>k=kd v c
 | .r c=>bC c=true/\∃j,k=j+20/\R[j]?=some (.d .d (kd v c) (aT c 84))
 | .q c=>bC c=true/\∃j,k=j+20/\R[j]?=some (.d .c (kd v c) (aT c 84))
theorem l7{R x:List Row}{j:Nat}{row:Row}(h:R[j]?=some row):(R++x)[j]?=some row:=(aJ (ax.mp h).1)▸h
theorem cj.o{R:List Row}{v k:Nat}{t:CT}(h:cj R v k t)(x:List Row):cj (R++x) v k t:=by
 cases t with
 |b c=>exact h
 |r c=>obtain⟨f,j,d,e⟩:=h;exact⟨f,j,d,l7 e⟩
 |q c=>obtain⟨f,j,d,e⟩:=h;exact⟨f,j,d,l7 e⟩
set_option tactic.hygienic true in
theorem j8{b:Type}:∀{l:List (Nat×b)} {v:b},l.lookup x=some v->(x,v)∈l
 |[],_,h=>by cases h
 |(y,u)::r,v,h=>by
  rw[cR] at h
  split at h
  ·rename_i q
   refine kf h ?_
   have:x=y:=by simpa using q
   exact this▸(.head _)
  ·exact .tail _ (j8 h)
theorem yj:(rR.all λp=>kh p.2 19&& !aT p.2 0&& !aT p.2 14&& !aT p.1 84)=true:=⋯
theorem wj(h:bC c=true)(i:c≠84):kd v c<19/\kd v c≠0/\kd v c≠14:=by
 have hb:aT c 84=false:=by cases e:aT c 84 with|false=>rfl|true=>exact absurd (aK e) i
 unfold bC at h
 rw[hb,rk] at h
 obtain⟨n,b⟩:=dU.mp h
 have:=aQ.mp yj _ (j8 b)
 simp only[bO,jw] at this
 obtain⟨⟨⟨f,d⟩,g⟩,_⟩:=this
 refine(by unfold kd;rw[hb,b];rfl:kd v c=n)▸(⟨aW f,λq=>?_,λq=>?_⟩)
 ·subst q;cases d
 ·subst q;cases g
inductive Own (R:List Row) (l:Nat):Nat->MV->MV->Prop
 |b (m:MV):Own R l 19 (.e [.c (kd 0 l:Nat)]) m
 |e {j:Nat} (h:R[j]?=some .f) (t:MV):Own R l (j+20) t (.e [.c (kd 0 l:Nat)])
theorem Own.f(h:Own R l v t m)(i:R.length<=100000):rO R v true:=by
 cases h with
 |b m=>exact nN R 19 aam aad Z_
 |e hj t=>exact zj hj i (.inl rfl)
theorem Own.d{R:List Row}{l v:Nat}{t m:MV}(h:Own R l v t m)(x:List Row):Own (R++x) l v t m:=by
 cases h with
 |b m=>exact .b m
 |e hj t=>exact .e (l7 hj) t
theorem Own.g(h:Own R l v t m):((b9 R)[v]?=some (.e [.c 6,.c 0])/\t= .e [.c (kd 0 l:Nat)])\/((b9 R)[v]?=some (.e [.c 7,.c 0])/\m= .e [.c (kd 0 l:Nat)]):=by
 cases h with
 |b m=>exact .inl ⟨by rw[b9,aJ (by simp[bR])];rfl,rfl⟩
 |e hj t=>exact .inr ⟨gh hj,rfl⟩
theorem zV(d:bC l=true)(b:l≠84):kd v l=kd 0 l:=by
 unfold kd
 have hb:aT l 84=false:=by cases e:aT l 84 with|false=>rfl|true=>exact absurd (aK e) b
 simp[hb]
section
variable{k n v l s:Nat}{a:jD}{R:List Row}{z:List MO}{r t m:MV}{c:l6}
theorem nG(h:(fX R)[n]?=some r)(b:n<1000000):ez (KH a R z) (.d 16) (.c (n:Int))=some r:=gn rfl h (He b)
theorem wM(h:(b9 R)[n]?=some r)(b:n<1000000):ez (KH a R z) (.d 12) (.c (n:Int))=some r:=gn rfl h (He b)
theorem tC(h:(b9 R)[n]?=some r)(b:R.length<=100000):n<1000000:=by
 have:=(ax.mp h).1
 rw[gT] at this;exact(aD this (eK (aM b _)))
theorem zr(h:(b9 R)[n]?=some r)(e:(fX R)[n]?=some (.c 0))(b:R.length<=100000):au Tb (k+2) 216 [.d 11,.c (n:Int),t,m] (KH a R z)=some (.c (n:Int),KH a R z):=qX [(1,.a r (KH a R z)),(3,.v (.c 0))] (mN (k:=k) (a:=a) (z:=z) h b) (nG (a:=a) (z:=z) e (tC h b)) ⋯
theorem ye(g:μ[s]?=some (.b [])):ct μ .h (.c (n:Int)) (.d s)=some false:=by
 show inV μ (.c (n:Int)) (.d s)=_
 exact dcI g
theorem uX(O:Own R l v t m)(p:R.length<=100000)(g:(KH a R z)[s]?=some (.b [])):au Tb (k+2) 223 [.d 11,.c (v:Int),t,m,.d s] (KH a R z)=some (.c (kd 0 l:Nat),KH a R z):=by
 have B:=O.f p
 have o:=nG (a:=a) (z:=z) B.c B.e
 have j:=ye (n:=v) g
 rcases O.g with⟨h,rfl⟩|⟨h,rfl⟩
 ·have i:=wM (a:=a) (z:=z) h B.e
  exact qY [(1,.v (.c 1)),(4,.b false),(7,.v (.e [.c 6,.c 0]))] o j i ⋯
 ·have i:=wM (a:=a) (z:=z) h B.e
  exact qY [(1,.v (.c 1)),(4,.b false),(7,.v (.e [.c 7,.c 0]))] o j i ⋯
end
end
section
section
variable{α:Type}{z:List α}{o p:α}{i:Nat}
theorem aB(z:List α)(o:α):(ar z o).length=z.length+1:=by simp[ar]
theorem aZ(z:List α)(o:α):(ar z o)[z.length]?=some o:=by
 unfold ar;rw[cq (aC _),FL];rfl
theorem qI(h:z[i]?=some p):(ar z o)[i]?=some p:=by
 unfold ar;rw[aJ (ax.mp h).1];exact h
theorem dK(z:List α)(o p:α):(ar z o).set z.length p=ar z p:=by
 unfold ar;rw[oR _ _ (aC _),FL];rfl
theorem q7(h:i<z.length):(ar z o).set i p=ar (z.set i p) o:=by
 unfold ar;rw[Gk _ _ h]
end
section
variable{k n v l j x i:Nat}{a:jD}{R R':List Row}{z:List MO}{r t m:MV}{c:l6}{o:Bool}{cl:Call}
theorem uk{o:MO}(h:z[i]?=some o):(KH a R z)[i+17]?=some o:=h
theorem KZ(h:au Tb (k+6) 83 [.d 11,l6.a x .d] (KH a R z)=some (.c ((j+20:Nat):Int),KH a R' z)):au Tb (k+7) 230 [.d 11,l6.a v .d,.e [.c (x:Int)]] (KH a R z)=some (.c ((j+20:Nat):Int),KH a R' z):=gP [(12,.a (.c ((j+20:Nat):Int)) (KH a R' z))] h ⋯
theorem KY(h:au Tb (k+6) 83 [.d 11,l6.a x .c] (KH a R z)=some (.c ((j+20:Nat):Int),KH a R' z)):au Tb (k+7) 230 [.d 11,l6.a v .c,.e [.c (x:Int)]] (KH a R z)=some (.c ((j+20:Nat):Int),KH a R' z):=gP [(8,.a (.c ((j+20:Nat):Int)) (KH a R' z))] h ⋯
theorem wJ(g:μ[q]?=some (.a y)):gJ Tb μ (.d q) 0=some .a:=UX g
theorem O9{y:List MV}{w:MV}(g:z[i]?=some (.a y))(h:y.length<=bA):dj cl (KH a R z) (.d (i+17)) [w] .a=some (.f,KH a R (z.set i (.a (ar y w)))):=gH (uk g) h
noncomputable def aeK(μ:Hp)(n:Nat):Option (MV×Hp):=rG μ (.d n) λJ l=>gd (l.length<=bA) (some (.e l,μ))
theorem RV{y:List MV}(g:z[i]?=some (.a y))(h:y.length<=bA):aeK (KH a R z) (i+17)=some (.e y,KH a R z):=(wu (uk g)).trans (j7 h)
theorem vT{d:Nat}(H:c= .d\/c= .c)(O:Own R l v t m)(B:R.length<=100000)(D:(b9 R)[n]?=some (c.a v))(M:(fX R)[n]?=some (.c 1))(q:z[d]?=some (.b []))
  (s:au Tb (k+6) 83 [.d 11,c.a (kd 0 l)] (KH a R (ar z (.a [.c (kd 0 l:Nat)])))=some (.c ((j+20:Nat):Int),KH a R' (ar z (.a [.c (kd 0 l:Nat)])))):
  au Tb (k+8) 223 [.d 11,.c (n:Int),t,m,.d (d+17)] (KH a R z)=some (.c ((j+20:Nat):Int),KH a R' ((ar z (.a [.c (kd 0 l:Nat)])).set d (.b [(.c (n:Int),.c ((j+20:Nat):Int))]))):=by
 have L:=tC D B
 have w:=nG (a:=a) (z:=z) M L
 have I:=ye (n:=n) (uk (a:=a) (R:=R) q)
 have A:=wM (a:=a) (z:=z) D L
 have C:=wJ (uk (a:=a) (R:=R) (aZ z (.a [])))
 have u:=uX (k:=k+5) (a:=a) (z:=ar z (.a [])) O B (uk (a:=a) (R:=R) (qI q))
 have y:dj (au Tb (k+7)) (KH a R (ar z (.a []))) (.d (z.length+17)) [.c (kd 0 l:Nat)] .a=some (.f,KH a R (ar z (.a [.c (kd 0 l:Nat)]))):=by
  rw[O9 (aZ z (.a [])) (b7 _),dK];rfl
 have E:=RV (a:=a) (R:=R) (aZ z (.a [.c (kd 0 l:Nat)])) (fQ (by simp))
 have F:au Tb (k+7) 230 [.d 11,c.a v,.e [.c (kd 0 l:Nat)]] (KH a R (ar z (.a [.c (kd 0 l:Nat)])))=some (.c ((j+20:Nat):Int),KH a R' (ar z (.a [.c (kd 0 l:Nat)]))):=by
  rcases H with rfl|rfl
  ·exact KZ s
  ·exact KY s
 have g:(ar z (.a [.c (kd 0 l:Nat)]))[d]?=some (.b []):=qI q
 have J:p9 (KH a R' (ar z (.a [.c (kd 0 l:Nat)]))) (.d (d+17)) (.c (n:Int)) (.c ((j+20:Nat):Int))=some (KH a R' ((ar z (.a [.c (kd 0 l:Nat)])).set d (.b [(.c (n:Int),.c ((j+20:Nat):Int))]))):=mB (uk g) rfl (b7 _)
 have G:ez (KH a R' ((ar z (.a [.c (kd 0 l:Nat)])).set d (.b [(.c (n:Int),.c ((j+20:Nat):Int))]))) (.d (d+17)) (.c (n:Int))=some (.c ((j+20:Nat):Int)):=by
  have:=uk (a:=a) (R:=R') (z:=(ar z (.a [.c (kd 0 l:Nat)])).set d (.b [(.c (n:Int),.c ((j+20:Nat):Int))])) (i:=d) (cM ((ax.mp g).1))
  delta ez;refine(MR this).trans ((j7 rfl).trans (if_pos (hO _)))
 rcases H with rfl|rfl
 ·exact p8 [(1,.v (.c 1)),(4,.b false),(7,.v (l6.a v .d)),(16,.c .a),(17,.a (.c (kd 0 l:Nat)) (KH a R (ar z (.a [])))),(18,.a .f (KH a R (ar z (.a [.c (kd 0 l:Nat)])))),(19,.a (.e [.c (kd 0 l:Nat)]) (KH a R (ar z (.a [.c (kd 0 l:Nat)])))),(20,.a (.c ((j+20:Nat):Int)) (KH a R' (ar z (.a [.c (kd 0 l:Nat)])))),(21,.h (KH a R' ((ar z (.a [.c (kd 0 l:Nat)])).set d (.b [(.c (n:Int),.c ((j+20:Nat):Int))])))),(22,.v (.c ((j+20:Nat):Int)))] (AA (AA (AA (AA (AA (AA (AA (AA (AA (AA trivial w) I) A) C) u) y) E) F) J) G) ⋯
 ·exact p8 [(1,.v (.c 1)),(4,.b false),(7,.v (l6.a v .c)),(16,.c .a),(17,.a (.c (kd 0 l:Nat)) (KH a R (ar z (.a [])))),(18,.a .f (KH a R (ar z (.a [.c (kd 0 l:Nat)])))),(19,.a (.e [.c (kd 0 l:Nat)]) (KH a R (ar z (.a [.c (kd 0 l:Nat)])))),(20,.a (.c ((j+20:Nat):Int)) (KH a R' (ar z (.a [.c (kd 0 l:Nat)])))),(21,.h (KH a R' ((ar z (.a [.c (kd 0 l:Nat)])).set d (.b [(.c (n:Int),.c ((j+20:Nat):Int))])))),(22,.v (.c ((j+20:Nat):Int)))] (AA (AA (AA (AA (AA (AA (AA (AA (AA (AA trivial w) I) A) C) u) y) E) F) J) G) ⋯
end
end
section
noncomputable def cW{b:Type}(x y:List b):List b:=x++y
theorem vO{b:Type}(x:List b):cW x []=x:=d8 x
theorem r9{b:Type}(x y w:List b):cW (cW x y) w=cW x (y++w):=by unfold cW;rw[cC]
theorem yH{b:Type}(x:List b)(o:b):ar x o=cW x [o]:=rfl
theorem r_{b:Type}{z y:List b}{o:b}{i:Nat}(h:z[i]?=some o):(cW z y)[i]?=some o:=by
 unfold cW;rw[aJ (ax.mp h).1];exact h
theorem L8{b:Type}{z y:List b}{p:b}{i:Nat}(h:i<z.length):(cW z y).set i p=cW (z.set i p) y:=by
 unfold cW;rw[Gk _ _ h]
theorem acx(h:c≠84):kd v c<19:=by
 unfold kd
 refine(by cases e:aT c 84 with|false=>rfl|true=>exact absurd (aK e) h:aT c 84=false)▸?_
 cases hn:rR.lookup c with
 |none=>simp
 |some n=>
  have:=aQ.mp yj _ (j8 hn)
  simp only[bO] at this
  exact aW this.1.1.1
theorem Ny(h:n<19):∃r,(b9 R)[n]?=some r/\(fX R)[n]?=some (.c 0):=
 ⟨bR[n]'(Nat.lt_succ_of_lt h),zU (aN _),zU (A:=bt 19 (MV.c 0)++[.c 1]) (zU (uG h))⟩
theorem vG(h:R[j]?=some row):(fX R)[j+20]?=some row.g:=Jn rfl h
structure dM (R R':List Row) (n:Nat):Prop where
 r:KW R'
 c:∃x,R'=R++x
 p:R'.length<=R.length+n
theorem dM.s(W:KW R):dM R R 0:=⟨W,⟨[],by simp⟩,Xl⟩
theorem dM.f(h:dM R R' n)(g:dM R' R'' m):dM R R'' (n+m):=by
 obtain⟨x,rfl⟩:=h.c
 obtain⟨y,rfl⟩:=g.c
 exact⟨g.r,⟨x++y,by simp⟩,by have d:=h.p;have b:=g.p;exact Su d b⟩
theorem dM.e(h:dM R R' n)(g:n<=m):dM R R' m:=⟨h.r,h.c,by have:=h.p;exact(bN [_,_,_,_] V0.C (V0.D+V0.B) (.o V0.A V0.B (.o V0.C (V0.D+V0.A) .z)) rfl g this)⟩
theorem Put.g(h:Put R row R' j):dM R R' 1:=⟨h.e,h.c,h.d⟩
theorem dM.u(h:dM R R' n)(q:cj R v k t):cj R' v k t:=by obtain⟨x,rfl⟩:=h.c;exact q.o x
theorem dM.w(h:dM R R' n)(q:Own R l v t m):Own R' l v t m:=by obtain⟨x,rfl⟩:=h.c;exact q.d x
theorem dM.A(h:dM R R' n)(q:rO R b o):rO R' b o:=by obtain⟨x,rfl⟩:=h.c;exact q.d x
theorem dM.B{R R':List Row}{n j:Nat}{row:Row}(h:dM R R' n)(q:R[j]?=some row):R'[j]?=some row:=by obtain⟨x,rfl⟩:=h.c;exact l7 q
section
variable{k n v l:Nat}{a:jD}{R:List Row}{z:List MO}{ta ma:MV}{t:CT}
theorem sU(W:KW R)(w:R.length<=99999)(O:Own R l v ta ma)(C:bC l=true)(G:l≠84)(h:cj R v n t){D:Prop}(u:∀(R':List Row) (S:Nat) (y:List MO),(∀k a z,au Tb (k+10) 216 [.d 11,.c (n:Int),ta,ma] (KH a R z)=some (.c (S:Int),KH a R' (cW z y)))->cj R' v S (t.e l)->dM R R' 1->D):D:=by
 have I:=(dM.s W).e Sk
 have p:=wj (v:=0) C G
 have B:=O.f (vJ w)
 have H:∀(c:l6),(c= .d\/c= .c)->iP c->∀j,R[j]?=some (.d c v true)->∀{D:Prop},(∀(R':List Row) (i:Nat) (y:List MO),(∀k a z,au Tb (k+10) 216 [.d 11,.c ((j+20:Nat):Int),ta,ma] (KH a R z)=some (.c ((i+20:Nat):Int),KH a R' (cW z y)))->R'[i]?=some (.d c (kd 0 l) false)->dM R R' 1->D)->D:=by
  intro c m X j hj D u
  have V:=nN R (kd 0 l) (Sp p) p.2.1 p.2.2
  have Z:(kd 0 l==19)=false:=by simp;exact Sn p
  rw[Z] at V
  refine wG W w X V λR' i Y P=>?_
  have F:=gh hj
  have T:=vG hj
  refine u R' i [.b [(.c ((j+20:Nat):Int),.c ((i+20:Nat):Int))],.a [.c (kd 0 l:Nat)]] (λk a z=>?_) P.b P.g
  have U:=vT (k:=k+1) (a:=a) (z:=ar z (.b [])) (d:=z.length) m O (vJ w) F T (aZ z _) (Y (k+1) a _)
  have e4:(ar (ar z (.b [])) (.a [.c (kd 0 l:Nat)])).set z.length (.b [(.c ((j+20:Nat):Int),.c ((i+20:Nat):Int))])=cW z [.b [(.c ((j+20:Nat):Int),.c ((i+20:Nat):Int))],.a [.c (kd 0 l:Nat)]]:=by
   rw[q7 (by rw[aB];exact Sm),dK]
   unfold ar cW;simp
  rw[e4] at U
  exact qY [(1,.a (c.a v) (KH a R z)),(3,.v (.c 1)),(7,.a (.c ((i+20:Nat):Int)) (KH a R' (cW z [.b [(.c ((j+20:Nat):Int),.c ((i+20:Nat):Int))],.a [.c (kd 0 l:Nat)]])))] (mN (k:=k+8) (a:=a) (z:=z) F (vJ w)) (nG (a:=a) (z:=z) T (tC F (vJ w))) U ⋯
 have Q:∀r,(b9 R)[n]?=some r->(fX R)[n]?=some (.c 0)->(∀k a z,au Tb (k+10) 216 [.d 11,.c (n:Int),ta,ma] (KH a R z)=some (.c (n:Int),KH a R (cW z []))):=λr A x k a z=>by
  rw[vO];exact zr (k:=k+8) A x (vJ w)
 have o:∀{c:Nat},aT c 84=true->c=84:=λh=>aK h
 have E:aT l 84=false:=by cases e:aT l 84 with|false=>rfl|true=>exact absurd (o e) G
 cases t with
 |b c=>
  cases m:aT c 84 with
  |true=>
   obtain rfl:=o m
   have L:=h
   subst L
   refine u R (kd 0 l) [.b []] (λk a z=>?_) ((zV C G).symm) I
   refine nc B.g λs y F J=>?_
   exact qY [(1,.a (.e (.c s::y)) (KH a R z)),(3,.v (.c 1)),(7,.a (.c (kd 0 l:Nat)) (KH a R (cW z [.b []])))] (mN (k:=k+8) (a:=a) (z:=z) F (vJ w)) (nG (a:=a) (z:=z) B.c B.e) (uX (k:=k+7) (a:=a) (z:=ar z (.b [])) O (vJ w) (uk (aZ z _))) ⋯
  |false=>
   have L:=h
   refine cf (Ny (R:=R) (n:=n) (L▸(acx ((λh e=>by subst e;cases h) m)))) λr A x=>?_
   refine u R n [] (Q r A x) ?_ I
   show n=kd v (if aT c 84 then l else c)
   refine m▸?_;exact L
 |r c=>
  obtain⟨M,j,rfl,hj⟩:=h
  cases m:aT c 84 with
  |true=>
   obtain rfl:=o m
   refine H .d (.inl rfl) .a j hj λR' i y A x N=>?_
   exact u R' (i+20) y A (⟨C,i,rfl,by rw[x,zV (v:=v) C G,E]⟩:cj R' v (i+20) (.r l)) N
  |false=>
   rw[m] at hj
   refine u R (j+20) [] (Q _ (gh hj) (vG hj)) ?_ I
   have e:CT.e l (.r c)= .r c:=by
    show CT.r (if aT c 84 then l else c)=_
    rw[m];rfl
   rw[e];exact⟨M,j,rfl,m▸hj⟩
 |q c=>
  obtain⟨M,j,rfl,hj⟩:=h
  cases m:aT c 84 with
  |true=>
   obtain rfl:=o m
   refine H .c (.inr rfl) .b j hj λR' i y A x N=>?_
   exact u R' (i+20) y A (⟨C,i,rfl,by rw[x,zV (v:=v) C G,E]⟩:cj R' v (i+20) (.q l)) N
  |false=>
   rw[m] at hj
   refine u R (j+20) [] (Q _ (gh hj) (vG hj)) ?_ I
   have e:CT.e l (.q c)= .q c:=by
    show CT.q (if aT c 84 then l else c)=_
    rw[m];rfl
   rw[e];exact⟨M,j,rfl,m▸hj⟩
end
end
section
section
variable{μ:Hp}{a b:Int}
theorem pb(h:b≠0):dE μ .b (.c a) (.c b)=some (.c (a.fmod b),μ):=mI (j7 h)
theorem v7(h:b≠0)(e:b.natAbs<2^30):dE μ .d (.c a) (.c b)=some (.c (a.fdiv b),μ):=mI (j7 ⟨h,e⟩)
theorem nD(h:a.natAbs<2^64):dE μ .c (.c a) (.c b)=some (.c (a*b),μ):=j7 h
end
noncomputable abbrev RO:MV:= .g [110,117,109,115]
noncomputable abbrev sAt:MV:= .g [97,116]
structure Wd (d:List (MV×MV)) (i:Nat):Prop where
 c:cV d RO=some (.d 1)
 g:cV d sAt=some (.c (i:Int))
 f:d.all (λp=>eE p.1==2)=true
 j:d.length<=100
structure Nums (nu:List MV):Prop where
 c:∀v∈nu,∃i:Int,v= .c i
 b:0<nu.length
 a:nu.length<=1000
theorem Wd.m(h:Wd d i)(s:List Nat):eL d (.g s)=true:=by
 unfold eL
 simp only[bO]
 exact⟨rfl,h.f⟩
section
variable{k i n:Nat}{μ:Hp}{nu:List MV}{d:List (MV×MV)}
theorem sa(P:μ[1]?=some (.a nu))(u:μ[8]?=some (.b d))(H:Nums nu)(D:Wd d i)(Q:i<=1000000)(B:0<n){C:Prop}(G:∀(x:Nat),x<n->(∀k,au Tb (k+1) 1270 [.d 8,.c (n:Int)] μ=some (.c (x:Int),μ.set 8 (.b (iU d sAt (.c ((i+1:Nat):Int))))))->C):C:=by
 refine b6 (μ.set 8 (.b (iU d sAt (.c ((i+1:Nat):Int))))) λe t=>?_
 have f:e[1]?=some (.a nu):=by rw[t,cX (by decide)];exact P
 have l:=H.b
 have p:=H.a
 have hm:i%nu.length<nu.length:=Nat.mod_lt _ l
 refine dG (H.c _ (iK hm)) λr J=>?_
 refine dG (H.c _ (iK l)) λx0 E=>?_
 have R:ez μ (.d 8) RO=some (.d 1):=by
  delta ez;exact(MR u).trans ((j7 (D.m _)).trans D.c)
 have N:ez μ (.d 8) sAt=some (.c (i:Int)):=by
  delta ez;exact(MR u).trans ((j7 (D.m _)).trans D.g)
 have o3:p9 μ (.d 8) sAt (.c ((i:Int)+1))=some e:=by
  rw[t];exact mB u (D.m _) (by have:=D.j;unfold bA;exact AU this)
 have L:dE e .b (.c (i:Int)) (.c (nu.length:Nat))=some (.c ((i%nu.length:Nat):Int),e):=by
  rw[pb (O_ l p),eR _ (Xn l p)];rfl
 have F:ez e (.d 1) (.c ((i%nu.length:Nat):Int))=some (.c r):=by
  refine gn f ?_ (oE hm (rH p))
  rw[aN hm,J]
 have M:dE e .d (.c (i:Int)) (.c (nu.length:Nat))=some (.c ((i/nu.length:Nat):Int),e):=by
  rw[v7 (O_ l p) (rH p),lX _ (Xn l p)];rfl
 have O:ez e (.d 1) (.c 0)=some (.c x0):=by
  have:=gn (i:=0) f (v:= .c x0) (by rw[aN l,E]) LQ
  exact this
 have o12:dE e .c (.c ((i/nu.length:Nat):Int)) (.c (x0.fmod 7+3*(i:Int)))=some (.c (((i/nu.length:Nat):Int)*(x0.fmod 7+3*(i:Int))),e):=by
  have:∀q:Nat,q<=i->((q:Nat):Int).natAbs<2^64:=λq I=>rH (aD I Q)
  exact nD (this _ (Nat.div_le_self _ _))
 refine b6 (r+((i/nu.length:Nat):Int)*(x0.fmod 7+3*(i:Int))) λS T=>?_
 have w:=cw.mpr B
 have y:=(k7 (Int.fmod_nonneg_of_pos S w)).symm
 have s:dE e .b (.c S) (.c (n:Int))=some (.c ((S.fmod (n:Int)).toNat:Int),e):=by
  rw[pb (Xm B),<-y]
 refine G ((S.fmod (n:Int)).toNat) (cw.mp (cZ (Int.le_of_eq y.symm) (Int.fmod_lt_of_pos S w))) λk=>?_
 refine t▸?_
 subst T
 exact p8 [(0,.v (.d 1)),(1,.v (.c (i:Int))),(3,.h e),(4,.v (.c (nu.length:Nat))),(5,.a (.c ((i%nu.length:Nat):Int)) e),(6,.v (.c r)),(7,.a (.c ((i/nu.length:Nat):Int)) e),(8,.v (.c x0)),(12,.a (.c (((i/nu.length:Nat):Int)*(x0.fmod 7+3*(i:Int)))) e),(14,.a (.c (((r+((i/nu.length:Nat):Int)*(x0.fmod 7+3*(i:Int))).fmod (n:Int)).toNat:Int)) e)]
  (AA (AA (AA (AA (AA (AA (AA (AA (AA (AA trivial R) N) o3) (ly f (bN [_] V0.A 1000000 (.o V0.A 1000 .z) rfl p))) L) F) M) O) o12) s) ⋯
end
end
section
noncomputable abbrev sKt:MV:= .g [107,116]
noncomputable abbrev VF:MV:= .g [107,105,110,100,115]
noncomputable def kK:List (MV×MV):=[(.g [118],.c 0),(.g [98],.c 1),(.g [99],.c 2),(.g [121],.c 3),(.g [89],.c 4),(.g [104],.c 5),(.g [72],.c 6),(.g [105],.c 7),(.g [117],.c 8),(.g [108],.c 9),(.g [76],.c 10),(.g [110],.c 11),(.g [111],.c 12),(.g [115],.c 13),(.g [112],.c 16),(.g [101],.c 17),(.g [107],.c 18)]
noncomputable def rS(c:Nat):Bool:=bC c||aT c 118
theorem pT(h:rS c=true)(b:c≠84):eL kK (.g [c])=true/\cV kK (.g [c])=some (.c (kd v c:Nat)):=by
 have hb:aT c 84=false:=by cases e:aT c 84 with|false=>rfl|true=>exact absurd (aK e) b
 refine⟨rfl,?_⟩
 unfold rS bC at h
 rw[hb,rk] at h
 unfold kd
 refine hb▸?_
 have key:∀p∈(118,0)::rR,cV kK (.g [p.1])=some (.c ((rR.lookup p.1).getD 0:Nat)):=by
  intro p a
  have:=aQ.mp (by kernel_rfl:(((118,0)::rR).all λp=>(match cV kK (.g [p.1]) with|some (.c i)=>i==(((rR.lookup p.1).getD 0:Nat):Int)|_=>false))=true) p a
  cases e:cV kK (.g [p.1]) with
  |none=>rw[e] at this;cases this
  |some x=>
   replace this:=e▸this
   cases x<;>first|(cases this;done)|skip
   have:=beq_iff_eq.mp this
   rw[this]
 cases hl:rR.lookup c with
 |none=>
  replace h:=hl▸h
  have:c=118:=aK (by simpa using h)
  refine fJ this ?_
  have:=key (118,0) (.head _)
  rw[show rR.lookup 118=none from rfl] at this
  exact this
 |some n=>
  have:=key (c,n) (.tail _ (j8 hl))
  rw[hl] at this
  exact this
structure Ww (d:List (MV×MV)):Prop where
 c:cV d sKt=some (.d 11)
 b:cV d VF=some (.d 79)
 a:d.all (λp=>eE p.1==2)=true
theorem KL(g:μ[n]?=some (.b d))(a:d.all (λp=>eE p.1==2)=true)(h:cV d (.g s)=some v):ez μ (.d n) (.g s)=some v:=by
 delta ez;exact(MR g).trans ((j7 a).trans h)
theorem tX(h:x≠y):ct μ .a (.g x) (.g y)=some false:=by
 show some (x==y)=_
 rw[beq_eq_false_iff_ne.mpr h]
section
variable{v c:Nat}{R:List Row}{t:CT}
theorem zZ(f:rS c=true)(l:a.a= .b d)(j:Ww d)(hz:z[62]?=some (.b kK)):au Tb (k+1) 1277 [.d 8,.g [c],.c (v:Int)] (KH a R z)=some (.c (kd v c:Nat),KH a R z):=by
 have p:ct (KH a R z) .a (.g [c]) (.g [113])=some false:=tX (by simpa using(λe=>by subst e;cases f))
 have n:ct (KH a R z) .a (.g [c]) (.g [114])=some false:=tX (by simpa using(λe=>by subst e;cases f))
 by_cases h:c=84
 ·refine fJ h ?_
  exact p8 [] trivial ⋯
 ·have m:ct (KH a R z) .a (.g [c]) (.g [84])=some false:=tX (by simpa using h)
  have o:ez (KH a R z) (.d 79) (.g [c])=some (.c (kd v c:Nat)):=by
   delta ez;exact(MR (uk (i:=62) hz)).trans ((j7 (pT (v:=v) f h).1).trans (pT (v:=v) f h).2)
  exact p8 [(1,.b false),(4,.b false),(6,.b false),(8,.v (.d 79)),(9,.v (.c (kd v c:Nat)))] (AA (AA (AA (AA (AA trivial p) n) m) (KL (s:=[107,105,110,100,115]) (by show some a.a=_;rw[l]:(KH a R z)[8]?=some (.b d)) j.a j.b)) o) ⋯
theorem wq(W:KW R)(C:R.length<=99999)(B:bC c=true->rO R (kd v c) (aT c 84))(w:match t with| .b x=>rS x=true/\x=c| .r x=>bC x=true/\x=c| .q x=>bC x=true/\x=c){D:Prop}(u:∀(R':List Row) (n:Nat),(∀k a z d,a.a= .b d->Ww d->z[62]?=some (.b kK)->au Tb (k+8) 1277 [.d 8,t.d,.c (v:Int)] (KH a R z)=some (.c (n:Int),KH a R' z))->cj R' v n t->dM R R' 1->D):D:=by
 cases t with
 |b x=>
  obtain⟨h,rfl⟩:=w
  exact u R (kd v x) (λk a z d l f hz=>zZ (k:=k+7) h l f hz) rfl ((dM.s W).e Sk)
 |r x=>
  obtain⟨h,rfl⟩:=w
  refine wG W C .a (B h) λR' j m P=>?_
  refine u R' (j+20) (λk a z d l f hz=>?_) ⟨h,j,rfl,P.b⟩ P.g
  have o:rS x=true:=by unfold rS;rw[h];rfl
  have A:(KH a R z)[8]?=some (.b d):=by show some a.a=_;rw[l]
  have p:=KL (s:=[107,116]) A f.a f.c
  have y:=zZ (k:=k+6) (v:=v) (R:=R) o l f hz
  have i:=m (k+1) a z
  exact p8 [(6,.v (.d 11)),(9,.a (.c (kd v x:Nat)) (KH a R z)),(11,.a (.c ((j+20:Nat):Int)) (KH a R' z))] (AA (AA (AA trivial p) y) i) ⋯
 |q x=>
  obtain⟨h,rfl⟩:=w
  refine wG W C .b (B h) λR' j m P=>?_
  refine u R' (j+20) (λk a z d l f hz=>?_) ⟨h,j,rfl,P.b⟩ P.g
  have o:rS x=true:=by unfold rS;rw[h];rfl
  have A:(KH a R z)[8]?=some (.b d):=by show some a.a=_;rw[l]
  have p:=KL (s:=[107,116]) A f.a f.c
  have y:=zZ (k:=k+6) (v:=v) (R:=R) o l f hz
  have i:=m (k+1) a z
  exact p8 [(3,.v (.d 11)),(6,.a (.c (kd v x:Nat)) (KH a R z)),(9,.a (.c ((j+20:Nat):Int)) (KH a R' z))] (AA (AA (AA trivial p) y) i) ⋯
end
end
section
open PySem
theorem zm(x:Int):Builtin.bitAnd x 18446744073709551615=x%18446744073709551616:=by
 by_cases a:0<=x
 ·rw[PyProof.Rows.bitAnd_pp a (by decide)]
  have h:=uH x.toNat 64
  exact h▸(Xp a h)
 ·rw[PyProof.Rows.bitAnd_np a (by decide)]
  have h:(18446744073709551615:Int).toNat&&&(uF x).toNat=(uF x).toNat%18446744073709551616:=by
   rw[Nat.and_comm]
   exact uH (uF x).toNat 64
  exact h▸(Xo a)
section
variable{k:Nat}{μ:Hp}{n:Int}
theorem wr{m:Int}{p q:Nat}(e:m=n%(p:Int))(d:0<q)(a:p=q+q){f:Prop}(k1:ig (.c (m.fdiv (q:Nat)))=some false->(n+(q:Nat))%(p:Nat) - (q:Nat)=m->f)(k2:ig (.c (m.fdiv (q:Nat)))=some true->(n+(q:Nat))%(p:Nat) - (q:Nat)=m - (p:Nat)->f):f:=by
 have i:0<(q:Int):=adD d
 have hm:=f6 n (b:=(p:Int)) (SX d a)
 have g:=rW n (b:=(p:Int)) (SW d a)
 have E:(n+(q:Nat))%(p:Int)=(m+(q:Nat))%(p:Int):=by rw[e,Int.emod_add_emod]
 rw[<-e] at hm g
 have F:m.fdiv (q:Nat)=m/(q:Nat):=lX _ (SV d)
 by_cases h:m<(q:Int)
 ·refine k1 (F▸(FE hm h)▸rfl) ?_
  rw[E,mQ (SU e d hm) (SR e a h)];exact SQ
 ·refine k2 ?_ ?_
  ·have:m/(q:Int)=1:=by
    rw[show m=(m - q)+q from SP,Int.add_ediv_of_dvd_right (Int.dvd_refl _),Int.ediv_self (Xm d),FE (SO e h) (Sz e a g)];rfl
   rw[F,this];rfl
  ·rw[E,show m+(q:Nat)=(m+q - p)+p from Sy,Int.add_emod_right,mQ (Sx e a h) (Sw e a hm g)];exact Sv
theorem sA{bits p q:Nat}(hb:bits=8/\p=256/\q=128\/bits=16/\p=65536/\q=32768\/bits=32/\p=4294967296/\q=2147483648\/bits=64/\p=18446744073709551616/\q=9223372036854775808):
  au Tb (k+1) 322 [.c n,.c (bits:Int)] μ=some (.c ((n+q)%p - q),μ):=by
 rcases hb with⟨rfl,rfl,rfl⟩|⟨rfl,rfl,rfl⟩|⟨rfl,rfl,rfl⟩|⟨rfl,rfl,rfl⟩
 ·exact wr (uh n) (by decide) rfl (λa e=>e▸gP [(5,.b false)] a ⋯) λa e=>e▸gP [(5,.b true)] a ⋯
 ·exact wr (uf n) (by decide) rfl (λa e=>e▸gP [(5,.b false)] a ⋯) λa e=>e▸gP [(5,.b true)] a ⋯
 ·exact wr (PyProof.Rows.bitAnd_m32 n) (by decide) rfl (λa e=>e▸gP [(5,.b false)] a ⋯) λa e=>e▸gP [(5,.b true)] a ⋯
 ·exact wr (zm n) (by decide) rfl (λa e=>e▸gP [(5,.b false)] a ⋯) λa e=>e▸gP [(5,.b true)] a ⋯
end
end
section
open PySem
noncomputable def lI(k:Nat)(n:Int):Int:=match k with
 |1=>n%256|4=>n%256|2=>n%65536|6=>n%65536
 |3=>(n+(128:Nat))%(256:Nat) - (128:Nat)
 |5=>(n+(32768:Nat))%(65536:Nat) - (32768:Nat)
 |9=>(n+(9223372036854775808:Nat))%(18446744073709551616:Nat) - (9223372036854775808:Nat)
 |10=>(n+(9223372036854775808:Nat))%(18446744073709551616:Nat) - (9223372036854775808:Nat)
 |_=>(n+(2147483648:Nat))%(4294967296:Nat) - (2147483648:Nat)
section
variable{K k m:Nat}{μ:Hp}{n s:Int}{a:jD}{R:List Row}{z:List MO}{l:List MV}
theorem V3:au Tb (K+2) 329 [.c n] μ=some (.c ((n+(2147483648:Nat))%(4294967296:Nat) - (2147483648:Nat)),μ):=
 gP [(0,.a (.c ((n+(2147483648:Nat))%(4294967296:Nat) - (2147483648:Nat))) μ)] (sA (k:=K) (n:=n) (μ:=μ) (bits:=32) (.inr (.inr (.inl ⟨rfl,rfl,rfl⟩)))) ⋯
theorem V4:au Tb (K+2) 336 [.c n] μ=some (.c ((n+(9223372036854775808:Nat))%(18446744073709551616:Nat) - (9223372036854775808:Nat)),μ):=
 gP [(0,.a (.c ((n+(9223372036854775808:Nat))%(18446744073709551616:Nat) - (9223372036854775808:Nat))) μ)] (sA (k:=K) (n:=n) (μ:=μ) (bits:=64) (.inr (.inr (.inr ⟨rfl,rfl,rfl⟩)))) ⋯
theorem zA(h:1<=k/\k<=11):au Tb (K+3) 350 [.c (k:Int),.c n] μ=some (.c (lI k n),μ):=by
 have b:∀{x op:Nat},tT (K+2) 350 [.c (x:Int),.c n] μ [(op,.a (.c ((n+(2147483648:Nat))%(4294967296:Nat) - (2147483648:Nat))) μ)]=some (.c ((n+(2147483648:Nat))%(4294967296:Nat) - (2147483648:Nat)),μ,True/\au Tb (K+2) 329 [.c n] μ=some (.c ((n+(2147483648:Nat))%(4294967296:Nat) - (2147483648:Nat)),μ))->au Tb (K+3) 350 [.c (x:Int),.c n] μ=some (.c ((n+(2147483648:Nat))%(4294967296:Nat) - (2147483648:Nat)),μ):=λh=>gP _ V3 h
 have d:∀{x op:Nat},tT (K+2) 350 [.c (x:Int),.c n] μ [(op,.a (.c ((n+(9223372036854775808:Nat))%(18446744073709551616:Nat) - (9223372036854775808:Nat))) μ)]=some (.c ((n+(9223372036854775808:Nat))%(18446744073709551616:Nat) - (9223372036854775808:Nat)),μ,True/\au Tb (K+2) 336 [.c n] μ=some (.c ((n+(9223372036854775808:Nat))%(18446744073709551616:Nat) - (9223372036854775808:Nat)),μ))->au Tb (K+3) 350 [.c (x:Int),.c n] μ=some (.c ((n+(9223372036854775808:Nat))%(18446744073709551616:Nat) - (9223372036854775808:Nat)),μ):=λh=>gP _ V4 h
 match k with
 |0=>exfalso;exact S3 h
 |1|4=>
  show _=some (MV.c (n%256),μ)
  rw[<-uh]
  exact nH ⋯
 |2|6=>
  show _=some (MV.c (n%65536),μ)
  rw[<-uf]
  exact nH ⋯
 |3=>exact gP [(10,.a (.c (lI 3 n)) μ)] (sA (k:=K+1) (n:=n) (μ:=μ) (bits:=8) (.inl ⟨rfl,rfl,rfl⟩)) ⋯
 |5=>exact gP [(12,.a (.c (lI 5 n)) μ)] (sA (k:=K+1) (n:=n) (μ:=μ) (bits:=16) (.inr (.inl ⟨rfl,rfl,rfl⟩))) ⋯
 |7=>exact b (x:=7) (op:=16) ⋯
 |8=>exact b (x:=8) (op:=16) ⋯
 |11=>exact b (x:=11) (op:=16) ⋯
 |9=>exact d (x:=9) (op:=15) ⋯
 |10=>exact d (x:=10) (op:=16) ⋯
 |x+12=>exfalso;exact SY h
theorem An(h:1<=k/\k<=8):au Tb (K+3) 364 [.d 11,.c (k:Int)] (KH a R z)=some (.c 1,KH a R z):=by
 have e:([1,2,3,4,5,6,7,8].map λk:Nat=>au Tb (K+3) 364 [.d 11,.c (k:Int)] (KH a R z))=bt 8 (some (.c 1,KH a R z)):=⋯
 obtain⟨j,rfl⟩:=Nat.exists_eq_add_of_le' h.1
 have hj:=h.2
 have e:=congrArg (λl=>l[j]?) e
 rw[aL,uG hj,show[1,2,3,4,5,6,7,8]=(fP 8).map (· +1) by rfl,aL,qo hj] at e
 exact ba e
theorem rJ(h:1<=k/\k<=8)(b:s=1\/s=3):au Tb (K+4) 357 [.d 11,.c (k:Int),.e [.c s,.c n]] (KH a R z)=some (.e [.c 1,.c (lI k n)],KH a R z):=by
 have e:=zA (K:=K) (k:=k) (n:=n) (μ:=KH a R z) (⟨bN [_] 1 V0.A (.o 1 V0.A .z) rfl h.1,bN [_] V0.A 11 (.o V0.A 8 .z) rfl h.2⟩)
 have g:=An (K:=K) (a:=a) (R:=R) (z:=z) h
 rcases b with rfl|rfl
 ·exact bw [(4,ow g),(9,ow e)] ⋯
 ·exact bw [(9,ow g),(14,ow e)] ⋯
theorem As(b:s=1\/s=3):au Tb (K+4) 357 [.d 11,.c 11,.e [.c s,.c n]] (KH a R z)=some (.e [.c 3,.c (lI 11 n)],KH a R z):=by
 have e:=zA (K:=K) (k:=11) (n:=n) (μ:=KH a R z) (by decide)
 rcases b with rfl|rfl
 ·exact gP [(12,.a (.c (lI 11 n)) (KH a R z))] e ⋯
 ·exact gP [(17,.a (.c (lI 11 n)) (KH a R z))] e ⋯
theorem tV(h:k=9\/k=10):au Tb (K+4) 357 [.d 11,.c (k:Int),.e [.c 2,.c n]] (KH a R z)=some (.e [.c 2,.c (lI k n)],KH a R z):=by
 have e:=zA (K:=K) (k:=k) (n:=n) (μ:=KH a R z) (h.elim (λb=>⟨bN [_] 1 V0.A (.f 9 V0.A .z) rfl b,bN [_] V0.A 11 (.e V0.A 9 .z) rfl b⟩) λb=>⟨bN [_] 1 V0.A (.f 10 V0.A .z) rfl b,bN [_] V0.A 11 (.e V0.A 10 .z) rfl b⟩)
 rcases h with rfl|rfl
 ·exact gP [(14,.a (.c (lI 9 n)) (KH a R z))] e ⋯
 ·exact gP [(14,.a (.c (lI 10 n)) (KH a R z))] e ⋯
theorem qO{μ:Hp}{x y:Nat}{b:Bool}(h:decide (x<=y)=b):ct μ .d (.c (x:Int)) (.c (y:Int))=some b:=by
 show some (decide ((x:Int)<=(y:Int)))=_
 refine h▸?_;congr 1;simp
theorem mE(h:(b9 R)[m]?=some (.e (.c s::l)))(hm:15<=m)(p:R.length<=100000){g:Int}(r:s=2/\g=4\/s=3/\g=5\/s=5/\g=6\/s=4/\g=4):au Tb (K+2) 364 [.d 11,.c (m:Int)] (KH a R z)=some (.c g,KH a R z):=by
 have i:ct (KH a R z) .d (.c ((1:Nat):Int)) (.c (m:Int))=some true:=qO (by simp;exact(bk (by decide) hm))
 have j:ct (KH a R z) .d (.c (m:Int)) (.c ((8:Nat):Int))=some false:=qO (by simp;exact(bk (by decide) hm))
 have f:∀c:Nat,c<15->ct (KH a R z) .a (.c (m:Int)) (.c (c:Int))=some false:=λc t=>nE λq=>bZ [_,_] (.o 15 V0.A (.o (V0.B+1) 15 (.e V0.A V0.B .z))) rfl hm t q
 have e:=mN (k:=K) (a:=a) (z:=z) h p
 rcases r with⟨rfl,rfl⟩|⟨rfl,rfl⟩|⟨rfl,rfl⟩|⟨rfl,rfl⟩
 ·exact p8 [(0,.b true),(1,.b false),(3,.b false),(5,.b false),(7,.b false),(9,.b false),(11,.b false),(13,.b false),(16,.a (.e (.c 2::l)) (KH a R z))] (AA (AA (AA (AA (AA (AA (AA (AA (AA trivial i) j) (f 9 AS)) (f 10 AQ)) (f 11 AP)) (f 12 AO)) (f 13 AN)) (f 14 AM)) e) ⋯
 ·exact p8 [(0,.b true),(1,.b false),(3,.b false),(5,.b false),(7,.b false),(9,.b false),(11,.b false),(13,.b false),(16,.a (.e (.c 3::l)) (KH a R z))] (AA (AA (AA (AA (AA (AA (AA (AA (AA trivial i) j) (f 9 AS)) (f 10 AQ)) (f 11 AP)) (f 12 AO)) (f 13 AN)) (f 14 AM)) e) ⋯
 ·exact p8 [(0,.b true),(1,.b false),(3,.b false),(5,.b false),(7,.b false),(9,.b false),(11,.b false),(13,.b false),(16,.a (.e (.c 5::l)) (KH a R z))] (AA (AA (AA (AA (AA (AA (AA (AA (AA trivial i) j) (f 9 AS)) (f 10 AQ)) (f 11 AP)) (f 12 AO)) (f 13 AN)) (f 14 AM)) e) ⋯
 ·exact p8 [(0,.b true),(1,.b false),(3,.b false),(5,.b false),(7,.b false),(9,.b false),(11,.b false),(13,.b false),(16,.a (.e (.c 4::l)) (KH a R z))] (AA (AA (AA (AA (AA (AA (AA (AA (AA trivial i) j) (f 9 AS)) (f 10 AQ)) (f 11 AP)) (f 12 AO)) (f 13 AN)) (f 14 AM)) e) ⋯
end
end
section
open PySem
noncomputable def RR:List Nat:=[98,99,121,89,104,72,105,117,110,101]
noncomputable def k1(c:Nat):Int:=cond (aT c 110) 3 1
noncomputable def k2(c:Nat)(n:Int):Int:=match c with
 |98=>n.fmod 256|89=>n.fmod 256
 |99=>n.fmod 65536|72=>n.fmod 65536
 |121=>(n+128).fmod 256 - 128
 |104=>(n+32768).fmod 65536 - 32768|101=>(n+32768).fmod 65536 - 32768
 |_=>n
theorem KC{P:Nat->Prop}(h:c∈RR)(a0:P 98)(a1:P 99)(a2:P 121)(a3:P 89)(d:P 104)(i:P 72)(j:P 105)(f:P 117)(e:P 110)(g:P 101):P c:=by
 have k:∀{x:Nat} {l:List Nat},P x->(∀c∈l,P c)->∀c∈x::l,P c:=λa b=>List.forall_mem_cons.mpr ⟨a,b⟩
 exact k a0 (k a1 (k a2 (k a3 (k d (k i (k j (k f (k e (k g λc h=>(iN h).elim))))))))) c h
inductive r8 (k:Nat):CT->MV->MV->Prop
 |y (c:Nat) (s n:Int) (hc:c∈RR) (hs:s=1\/s=3) (h1: -2147483648<=n) (h2:n<2147483648):r8 k (.b c) (.e [.c s,.c n]) (.e [.c (k1 c),.c (k2 c n)])
 |q (c:Nat) (n:Int) (hc:c=108\/c=76) (h1: -9223372036854775808<=n) (h2:n<9223372036854775808):r8 k (.b c) (.e [.c 2,.c n]) (.e [.c 2,.c n])
 |m (c:Nat) (x:Int) (hc:c=115\/c=111\/c=107):r8 k (.b c) (.e [.c 4,.c x]) (.e [.c 4,.c x])
 |o (w:MV) (hw:bh 7 w=true):r8 k (.b 112) (.e [.c 5,.c 16,w]) (.e [.c 5,.c 16,w])
 |B (c:Nat) (w:MV) (hw:bh 7 w=true):r8 k (.q c) (.e [.c 5,.c (k:Int),w]) (.e [.c 5,.c (k:Int),w])
 |A (c:Nat) (w:MV) (hw:bh 7 w=true):r8 k (.r c) (.e [.c 6,w]) (.e [.c 6,w])
section
variable{K k m:Nat}{μ:Hp}{n s:Int}{a:jD}{R:List Row}{z:List MO}{l:List MV}{t:CT}{v w:MV}
theorem fm{n m:Int}(h:0<=m):n.fmod m=n%m:=eR n h
theorem so(h:r8 k t v w):au Tb (K+1) 1284 [t.d,v] μ=some (w,μ):=by
 cases h with
 |y c s n f p j i=>
  refine KC (P:=λc=>au Tb (K+1) 1284 [(CT.b c).d,.e [.c s,.c n]] μ=some (.e [.c (k1 c),.c (k2 c n)],μ)) f ?_ ?_ ?_ ?_ ?_ ?_ ?_ ?_ ?_ ?_<;>exact nH ⋯
 |q c n f j i=>rcases f with rfl|rfl<;>exact nH ⋯
 |m c x f=>rcases f with rfl|rfl|rfl<;>exact nH ⋯
 |o w g=>exact nH ⋯
 |B c w g=>exact nH ⋯
 |A c w g=>exact nH ⋯
theorem xK(h:x≠y):MV.k (.e (.c x::p)) (.e (.c y::q))=false:=fg (by simp[h])
theorem Iy(g:au Tb (K+2) 364 [.d 11,.c (m:Int)] (KH a R z)=some (.c 6,KH a R z))(f:bh 7 w=true):au Tb (K+3) 378 [.d 11,.e [.c 6,w],.c (m:Int)] (KH a R z)=some (.h true,KH a R z):=by
 have o:ct (KH a R z) .a (.e [.c 6,w]) (.e [.c 4,.c 0])=some false:=by
  have:bh 8 (.e [.c 6,w])=true:=by show(bh 7 w&&true)=true;rw[f];rfl
  exact(j7 (by rw[this];rfl)).trans (congrArg some (xK (by decide)))
 exact qX [(0,.a (.c 6) (KH a R z)),(10,.b false)] g o ⋯
theorem Bx(f:au Tb (K+2) 364 [.d 11,.c (m:Int)] (KH a R z)=some (.c 5,KH a R z)):au Tb (K+3) 378 [.d 11,.e [.c 5,.c (m:Int),w],.c (m:Int)] (KH a R z)=some (.h true,KH a R z):=by
 have o:ct (KH a R z) .a (.c (m:Int)) (.c (m:Int))=some true:=by
  show some (MV.k (.c (m:Int)) (.c (m:Int)))=_
  rw[hO]
 exact qX [(0,.a (.c 5) (KH a R z)),(7,.b true)] f o ⋯
theorem Iw(b:au Tb (K+2) 364 [.d 11,.c (m:Int)] (KH a R z)=some (.c 4,KH a R z)):au Tb (K+3) 378 [.d 11,.e [.c 4,.c x],.c (m:Int)] (KH a R z)=some (.h true,KH a R z):=
 gP [(0,.a (.c 4) (KH a R z))] b ⋯
end
section
variable{K k m:Nat}{σ:St}{δ:List MO}{t:CT}{v w:MV}
theorem pY(h:m≠17):dj (au Tb (K+1)) (HS σ δ) (.d 148) [.c (m:Int)] (.c 664)=some (.c (m:Int),HS σ δ):=by
 have e:dj (au Tb K) (HS σ δ) (.d 153) [.c (m:Int),.c (m:Int)] .b=some (.c (m:Int),HS σ δ):=by
  rw[v9 (d:=[(.c 17,.c 5)]) rfl rfl]
  show some ((if MV.k (.c 17) (.c (m:Int)) then some (MV.c 5) else none).getD (.c (m:Int)),HS σ δ)=_
  rw[fg (by intro q;have q:=MV.c.inj q;exact((bL h).elim (λf=>bZ [_] (.e 17 V0.A (.o (V0.A+1) 17 .z)) rfl (eA q) f) λf=>bZ [_] (.e V0.A 17 (.o (17+1) V0.A .z)) rfl ((eA q).symm) f))];rfl
 exact gP [(2,.a (.c (m:Int)) (HS σ δ))] e ⋯
theorem qb(i:s=1\/s=3)(b:1<=kp/\kp<=8)(j:g=lI kp n)
  (f:tT (K+5) 879 [.d 148,.c (kk:Int),.e [.c 1,.c n]] (HS σ δ) [(7,.a (.e [.c 1,.c (lI kp n)]) (HS σ δ))]=some (.e [.c 1,.c (lI kp n)],HS σ δ,True/\au Tb (K+5) 357 [.d 11,.c (kp:Int),.e [.c 1,.c n]] (HS σ δ)=some (.e [.c 1,.c (lI kp n)],HS σ δ)))
  (h:tT (K+5) 879 [.d 148,.c (kk:Int),.e [.c 3,.c n]] (HS σ δ) [(7,.a (.e [.c 1,.c (lI kp n)]) (HS σ δ))]=some (.e [.c 1,.c (lI kp n)],HS σ δ,True/\au Tb (K+5) 357 [.d 11,.c (kp:Int),.e [.c 3,.c n]] (HS σ δ)=some (.e [.c 1,.c (lI kp n)],HS σ δ))):
  au Tb (K+6) 879 [.d 148,.c (kk:Int),.e [.c s,.c n]] (HS σ δ)=some (.e [.c 1,.c g],HS σ δ):=by
 rw[j]
 rcases i with rfl|rfl
 ·exact gP _ (rJ (K:=K+1) b (.inl rfl)) f
 ·exact gP _ (rJ (K:=K+1) b (.inr rfl)) h
theorem q_(u:σ.R.length<=100000)(g:cj σ.R 0 m t)(h:r8 m t v w):au Tb (K+6) 879 [.d 148,.c (m:Int),v] (HS σ δ)=some (w,HS σ δ):=by
 cases h with
 |y c s n f b r p=>
  have hm:=g
  refine fJ hm ?_
  clear g u
  refine KC (P:=λc=>au Tb (K+6) 879 [.d 148,.c (kd 0 c:Nat),.e [.c s,.c n]] (HS σ δ)=some (.e [.c (k1 c),.c (k2 c n)],HS σ δ)) f ?_ ?_ ?_ ?_ ?_ ?_ ?_ ?_ ?_ ?_
  ·exact qb b (kk:=1) (kp:=1) (by decide) (fm (by decide)) ⋯ ⋯
  ·exact qb b (kk:=2) (kp:=2) (by decide) (fm (by decide)) ⋯ ⋯
  ·exact qb b (kk:=3) (kp:=3) (by decide) (congrArg (· - 128) (fm (by decide))) ⋯ ⋯
  ·exact qb b (kk:=4) (kp:=4) (by decide) (fm (by decide)) ⋯ ⋯
  ·exact qb b (kk:=5) (kp:=5) Pe (congrArg (· - 32768) (fm (by decide))) ⋯ ⋯
  ·exact qb b (kk:=6) (kp:=6) (by decide) (fm (by decide)) ⋯ ⋯
  ·exact qb b (kk:=7) (kp:=7) (by decide) (Pg r p) ⋯ ⋯
  ·exact qb b (kk:=8) (kp:=8) (by decide) (Pg r p) ⋯ ⋯
  ·have e:=As (K:=K+1) (n:=n) (a:=jq σ) (R:=σ.R) (z:=gj σ++δ) b
   rw[show lI 11 n=n from Pf r p] at e
   rcases b with rfl|rfl
   ·exact gP [(7,.a (.e [.c 3,.c n]) (HS σ δ))] e ⋯
   ·exact gP [(7,.a (.e [.c 3,.c n]) (HS σ δ))] e ⋯
  ·exact qb b (kk:=17) (kp:=5) Pe (congrArg (· - 32768) (fm (by decide))) ⋯ ⋯
 |q c n f r p=>
  have hm:=g
  subst hm
  rcases f with rfl|rfl
  ·have e:=tV (K:=K+1) (k:=9) (n:=n) (a:=jq σ) (R:=σ.R) (z:=gj σ++δ) (.inl rfl)
   have f:lI 9 n=n:=Pd r p
   rw[f] at e
   exact gP [(7,.a (.e [.c 2,.c n]) (HS σ δ))] e ⋯
  ·have e:=tV (K:=K+1) (k:=10) (n:=n) (a:=jq σ) (R:=σ.R) (z:=gj σ++δ) (.inr rfl)
   have f:lI 10 n=n:=Pd r p
   rw[f] at e
   exact gP [(7,.a (.e [.c 2,.c n]) (HS σ δ))] e ⋯
 |m c x f=>
  have hm:=g
  subst hm
  rcases f with rfl|rfl|rfl
  ·exact nH ⋯
  ·exact nH ⋯
  ·have i:=mE (K:=K+2) (a:=jq σ) (R:=σ.R) (z:=gj σ++δ) (m:=18) (s:=2) (l:=[.c 66,.e []]) (by rw[aJ (by simp[bR])];rfl) Pc u (.inl ⟨rfl,rfl⟩)
   exact gP [(3,.a (.h true) (HS σ δ))] (Iw (x:=x) i) ⋯
 |o w C=>
  have hm:=g
  subst hm
  have i:=mE (K:=K+2) (a:=jq σ) (R:=σ.R) (z:=gj σ++δ) (m:=16) (s:=3) (l:=[.c 69,.e []]) (by rw[aJ (by simp[bR])];rfl) Pb u (.inr (.inl ⟨rfl,rfl⟩))
  exact gP [(3,.a (.h true) (HS σ δ))] (Bx (w:=w) i) ⋯
 |B c w C=>
  obtain⟨_,j,rfl,hj⟩:=g
  have D:j+20≠17:=xm
  have i:=mE (K:=K+2) (a:=jq σ) (R:=σ.R) (z:=gj σ++δ) (m:=j+20) (gh hj) uQ u (.inr (.inl ⟨rfl,rfl⟩))
  exact qX [(1,.a (.c ((j+20:Nat):Int)) (HS σ δ)),(3,.a (.h true) (HS σ δ))] (pY (K:=K+4) (m:=j+20) (σ:=σ) (δ:=δ) D) (Bx (w:=w) i) ⋯
 |A c w C=>
  obtain⟨_,j,rfl,hj⟩:=g
  have D:j+20≠17:=xm
  have i:=mE (K:=K+2) (a:=jq σ) (R:=σ.R) (z:=gj σ++δ) (m:=j+20) (gh hj) uQ u (.inr (.inr (.inl ⟨rfl,rfl⟩)))
  exact qX [(1,.a (.c ((j+20:Nat):Int)) (HS σ δ)),(3,.a (.h true) (HS σ δ))] (pY (K:=K+4) (m:=j+20) (σ:=σ) (δ:=δ) D) (Iy i C) ⋯
end
end
section
section
variable{K m:Nat}{a:jD}{R:List Row}{z:List MO}{s t:Int}{l as r:List MV}{x:MV}{w:MV}
theorem VZ(h:(b9 R)[m]?=some (.e (.c s::x::l)))(b:s=2\/s=3)(f:R.length<=100000):au Tb (K+2) 181 [.d 11,.c (m:Int)] (KH a R z)=some (x,KH a R z):=by
 have e:=mN (k:=K) (a:=a) (z:=z) h f
 rcases b with rfl|rfl
 ·exact gP [(1,.a (.e (.c 2::x::l)) (KH a R z))] e ⋯
 ·exact gP [(1,.a (.e (.c 3::x::l)) (KH a R z))] e ⋯
theorem Be(h:(b9 R)[m]?=some (.e [.c s,x,w]))(b:s=2\/s=3)(f:R.length<=100000):au Tb (K+2) 188 [.d 11,.c (m:Int)] (KH a R z)=some (w,KH a R z):=by
 have e:=mN (k:=K) (a:=a) (z:=z) h f
 rcases b with rfl|rfl
 ·exact gP [(1,.a (.e [.c 2,x,w]) (KH a R z))] e ⋯
 ·exact gP [(1,.a (.e [.c 3,x,w]) (KH a R z))] e ⋯
theorem Oh(h:(b9 R)[m]?=some (.e (.c s::l)))(b:R.length<=100000):au Tb (K+2) 167 [.d 11,.c (m:Int)] (KH a R z)=some (.c s,KH a R z):=gP [(1,.a (.e (.c s::l)) (KH a R z))] (mN (k:=K) (a:=a) (z:=z) h b) ⋯
theorem Jm(h:(b9 R)[m]?=some (.e (.c s::l)))(hm:12<=m)(g:R.length<=100000){b:Bool}(hb:s=3/\b=true\/s=2/\b=false\/s=4/\b=false):au Tb (K+2) 195 [.d 11,.c (m:Int)] (KH a R z)=some (.h b,KH a R z):=by
 have f:ct (KH a R z) .d (.c ((1:Nat):Int)) (.c (m:Int))=some true:=qO (by simp;exact(bk (by decide) hm))
 have o2:ct (KH a R z) .d (.c (m:Int)) (.c ((11:Nat):Int))=some false:=qO (by simp;exact hm)
 have e:=mN (k:=K) (a:=a) (z:=z) h g
 rcases hb with⟨rfl,rfl⟩|⟨rfl,rfl⟩|⟨rfl,rfl⟩
 ·exact qY [(0,.b true),(2,.b false),(5,.a (.e (.c 3::l)) (KH a R z))] f o2 e ⋯
 ·exact qY [(0,.b true),(2,.b false),(5,.a (.e (.c 2::l)) (KH a R z))] f o2 e ⋯
 ·exact qY [(0,.b true),(2,.b false),(5,.a (.e (.c 4::l)) (KH a R z))] f o2 e ⋯
end
noncomputable def ij{d c:Type}(p:d->c->Prop):List d->List c->Prop
 |[],[]=>True
 |a::x,b::y=>p a b/\ij p x y
 |_,_=>False
theorem ij.e{c b:Type}{p:c->b->Prop}:∀{x:List c} {y:List b},ij p x y->x.length=y.length
 |[],[],_=>rfl
 |_::_,_::_,h=>by simp[h.2.e]
 |[],_::_,h=>h.elim
 |_::_,[],h=>h.elim
theorem ij.u{d c:Type}{p q:d->c->Prop}(f:∀a b,p a b->q a b):∀{x:List d} {y:List c},ij p x y->ij q x y
 |[],[],_=>trivial
 |_::_,_::_,h=>⟨f _ _ h.1,h.2.u f⟩
 |[],_::_,h=>h.elim
 |_::_,[],h=>h.elim
noncomputable def cB(l:List Nat):List MV:=l.map λ(n:Nat)=>MV.c (n:Int)
theorem nU{body:Loc->Hp->Option (Fl×Loc×Hp)}{store:MV->Loc->Hp->Option (Loc×Hp)}{v:MV}{r:List MV}{ρ bu c:Loc}{μ bF b:Hp}(d:store v ρ μ=some (bu,bF))(hb:body bu bF=some (.a,c,b)):qG body store (v::r) ρ μ=qG body store r c b:=(j_ d).trans (NW hb)
section
variable{v l:Nat}{R:List Row}{ta ma:MV}
theorem Ue{ks:List Nat}{ts:List CT}:KW R->R.length+ks.length<=99999->Own R l v ta ma->bC l=true->l≠84->ij (λk t=>cj R v k t) ks ts->
  ∃(R':List Row) (H:List Nat),(∀(K:Nat) (a:jD) (g:List MV) (z:List MO) (y:List MO) (ρ:Loc),bz ρ 14=some (.d 11)->bz ρ 43=some ta->bz ρ 44=some ma->bz ρ 56=some (.d (z.length+17))->g.length+ks.length<=1000->
   ∃(V:List MO) (ρ':Loc),bz ρ' 56=some (.d (z.length+17))/\qG (λρ μ=>aY Tb (au Tb (K+10)) (K+10) [.d (.n (.d 56) 0 [.j 216 [.d 14,.d 30,.d 43,.d 44]])] ρ μ) (λv ρ μ=>eY Tb (au Tb (K+10)) (.b 30) v ρ μ) (cB ks) ρ (KH a R (cW (ar z (.a g)) y))=some (.a,ρ',KH a R' (cW (ar z (.a (cW g (cB H)))) V)))/\
   ij (λk t=>cj R' v k t) H (ts.map (CT.e l))/\dM R R' ks.length:=by
 induction ks generalizing R ts with
 |nil=>
  intro W P O T cU N
  cases ts with
  |cons _ _=>exact N.elim
  |nil=>exact⟨R,[],λK a g z y ρ J J J U J=>⟨y,ρ,U,by show some (Fl.a,ρ,_)=_;rw[show cB []=[] from rfl,vO]⟩,trivial,dM.s W⟩
 |cons k ks ih=>
  intro W P O T cU N
  cases ts with
  |nil=>exact N.elim
  |cons t ts=>
   refine iu N λvg qJ=>?_
   refine sU W (bN [_,_] V0.A 99999 (.o (V0.A+(V0.B+1)) 99999 .z) rfl P) O T cU vg λY h i hc Q M=>?_
   have:=M.p
   refine dY (ih (R:=Y) (ts:=ts) M.r (bN [_,_,_] (V0.C+V0.B) 99999 (.o (V0.A+(V0.B+1)) 99999 (.o V0.C (V0.A+1) .z)) rfl P this) (M.w O) T cU (qJ.u λJ J q=>M.u q)) λR2 H Z WQ G2=>?_
   refine⟨R2,h::H,λK a g z y ρ h1 h2 h3 U ho=>?_,⟨G2.u Q,WQ⟩,(M.f G2).e (by simp;exact(bN [_] (1+V0.A) (V0.A+1) .z rfl))⟩
   have I:(cW (ar z (.a g)) y)[z.length]?=some (.a g):=r_ (aZ _ _)
   have lk:∀(x:Nat) (w:MV),x≠30->bz ρ x=some w->bz (bp ρ 30 (.c (k:Int))) x=some w:=λx w hx hw=>by rw[hP,if_neg hx];exact hw
   refine b6 (bp ρ 30 (.c (k:Int))) λbu X=>?_
   have D:=lk 14 _ (by decide) h1
   have E:=lk 43 _ (by decide) h2
   have F:=lk 44 _ (by decide) h3
   have G:=lk 56 _ (by decide) U
   rw[<-X] at D E F G
   have S:cW (cW (ar z (.a g)) y) i=cW (ar z (.a g)) (y++i):=r9 _ _ _
   have L:=O9 (cl:=au Tb (K+10)) (a:=a) (R:=Y) (w:= .c (h:Int)) (r_ I:(cW (cW (ar z (.a g)) y) i)[z.length]?=some (.a g)) (Xr P ho)
   have EL:(cW (cW (ar z (.a g)) y) i).set z.length (.a (ar g (.c (h:Int))))=cW (ar z (.a (ar g (.c (h:Int))))) (y++i):=by
    rw[S,L8 (by rw[aB];exact Sm),dK]
   rw[EL] at L
   have IU:aY Tb (au Tb (K+10)) (K+10) [.d (.n (.d 56) 0 [.j 216 [.d 14,.d 30,.d 43,.d 44]])] bu (KH a R (cW (ar z (.a g)) y))=some (.a,bu,KH a Y (cW (ar z (.a (ar g (.c (h:Int))))) (y++i))):=NW (nC (cI G _) (wJ (uk I)) ((kW (bW (cI D _) (bW (cI (by rw[X,hP,if_pos rfl]) _) (bW (cI E _) (og (cI F _)))))).trans (hc K a _)) L)
   refine nc (Z K a (ar g (.c (h:Int))) z (y++i) bu D E F G (by rw[aB];exact(bN [_,_] (V0.A+1+V0.B) 1000 (.o (V0.A+(V0.B+1)) 1000 .z) rfl ho))) λV ρ' h5 h6=>?_
   refine⟨V,ρ',h5,?_⟩
   rw[show cB (k::ks)=MV.c (k:Int)::cB ks from rfl,nU (bF:=KH a R (cW (ar z (.a g)) y)) (bu:=bu) (X▸rfl) IU]
   exact(show cW g (cB (h::H))=cW (ar g (.c (h:Int))) (cB H) from by rw[yH,r9];rfl)▸h6
end
end
section
section
variable{k f:Nat}{vs:List MV}{ρ ρ' bu:Loc}{μ aG bF:Hp}{v:MV}{F:k_}{s:MS}{rest:List MS}{r:Option (Fl×Loc×Hp)}{T:Tab}{cl:Call}{fuel:Nat}
theorem zp(d:Tb.h f=some F)(hb:eH F.a vs []=some ρ)(c:aY Tb (au Tb k) k F.b ρ μ=some (.b v,ρ',aG)):au Tb (k+1) f vs μ=some (v,aG):=(Eg d).trans ((Eg hb).trans (congrArg Fm c))
theorem cD(h:bQ T cl fuel s ρ μ=some (.a,bu,bF))(b:aY T cl fuel rest bu bF=r):aY T cl fuel (s::rest) ρ μ=r:=(NW h).trans b
theorem Iq(h:bQ T cl fuel s ρ μ=some (.b v,bu,bF)):aY T cl fuel (s::rest) ρ μ=some (.b v,bu,bF):=oxR h
theorem aet{P:Prop}(sc:List (Nat×rN))(p:P)(h:qF T cl fuel b ρ μ ⟨uC 0 sc,True⟩=some ((fl,ρ',aG),⟨[],P⟩)):aY T cl fuel b ρ μ=some (fl,ρ',aG):=
 (iE b ρ μ _ _ _ h p).2
theorem aev{P:Prop}(sc:List (Nat×rN))(p:P)(h:exS T cl fuel s ρ μ ⟨uC 0 sc,True⟩=some ((fl,ρ',aG),⟨[],P⟩)):bQ T cl fuel s ρ μ=some (fl,ρ',aG):=
 (Bu s ρ μ _ _ _ h p).2
theorem aeu{P:Prop}(sc:List (Nat×rN))(p:P)(h:jG T cl e ρ μ ⟨uC 0 sc,True⟩=some ((v,aG),⟨[],P⟩)):aO T cl e ρ μ=some (v,aG):=
 (bP e ρ μ _ _ _ h p).2
theorem cz:∀{x y:List MS} {ρ:Loc} {μ:Hp},aY T cl fuel x ρ μ=some (.a,bu,bF)->aY T cl fuel (x++y) ρ μ=aY T cl fuel y bu bF
 |[],_,_,_,h=>by refine Dl h ?_;rfl
 |_::_,_,_,_,h=>wC h (λJ J b h=>(NW b).trans (cz h)) λJ J J J e=>nomatch e
end
section
variable{v l:Nat}{R:List Row}{ta ma:MV}{ks:List Nat}{ts:List CT}
theorem vQ{g:Prop}(W:KW R)(q:R.length+ks.length<=99999)(O:Own R l v ta ma)(o:bC l=true)(w:l≠84)(j:ks.length<=3)(c:ij (λk t=>cj R v k t) ks ts)(p:∀(R':List Row) (b:List Nat),(∀(K:Nat) (a:jD) (z:List MO),∃y,au Tb (K+11) 251 [.d 11,.e (cB ks),ta,ma] (KH a R z)=some (.e (cB b),KH a R' (cW z y)))->(ij (λk t=>cj R' v k t) b (ts.map (CT.e l)))->(dM R R' ks.length)->g):g:=by
 refine dY (Ue W q O o w c) λR' b x h n=>?_
 have A:b.length<=3:=by rw[h.e,ay];exact c.e▸j
 refine p R' b (λK a z=>?_) h n
 refine nc (x K a [] z [] [(14,.d 11),(55,.e (cB ks)),(43,ta),(44,ma),(56,.d (z.length+17))] rfl rfl rfl rfl (by simp;exact jX j)) λy ρ' u i=>?_
 rw[vO,show cW [] (cB b)=cB b from rfl] at i
 refine⟨.a (cB b)::y,zp (F:=adP) (ρ:=[(14,.d 11),(55,.e (cB ks)),(43,ta),(44,ma)]) ⋯ ⋯ (cD (bF:=KH a R (ar z (.a []))) (bu:=[(14,.d 11),(55,.e (cB ks)),(43,ta),(44,ma),(56,.d (z.length+17))]) ⋯ (cD (Lv ⋯ i) (Iq (bu:=ρ') ?_)))⟩
 have m:cW (ar z (.a (cB b))) y=cW z (.a (cB b)::y):=by rw[yH,r9];rfl
 have e:=RV (a:=a) (R:=R') (r_ (y:=y) (aZ z (.a (cB b)))) (by unfold cB bA;simp;exact Pa A)
 rw[m] at e
 rw[m]
 exact j_ ((j_ (cI u _)).trans e)
end
end
section
structure Cf where
 a:List CT
 g:List CT
 m:CT
 n:CT
 o:Nat
 p:Nat
 h:Nat
noncomputable def Cf.T(Γ:Cf):Nat->List CT|0=>Γ.a|_=>Γ.g
noncomputable def Cf.r(Γ:Cf):Nat->CT|0=>Γ.m|_=>Γ.n
noncomputable def Cf.v(Γ:Cf):Nat->Nat|1=>Γ.h+20|5=>Γ.h+20|_=>19
noncomputable def hU(m:Nat):Nat:=if eI m 6 then 5*m+77 else 5*m+78
noncomputable def uB(d:Nat):Nat->Nat|0=>d+64|1=>66|2=>67|3=>67|4=>68|_=>66
noncomputable def E6:Nat->Nat|1=>1|2=>1|_=>0
noncomputable def RF:Nat->List Nat|0=>[73,110,118,111,107,101]|1=>[97]|2=>[98]|3=>[99]|4=>[100]|_=>[101]
noncomputable def mfs(σ:St)(m ow a:Nat)(nm:List Nat):List (Nat×MV):=[(131,.c (m:Int)),(219,.c (ow:Int)),(156,.g nm),(375,.c 6),(161,.c (a:Int)),(376,.c 0),(377,.d (hU m+1)),(378,.d (hU m+2)),(158,.c (σ.T m)),(160,.e (σ.Y m)),(379,.e (σ.N m)),(381,.e (σ.pf m)),(123,.f),(382,.c 0)]
structure MF (σ:St) (δ:List MO) (d i m:Nat):Prop where
 a:ez (HS σ δ) (.d 19) (.c (m:Int))=some (.d (hU m))
 b:(HS σ δ)[hU m]?=some (.d 938 (mfs σ m (uB d i) (E6 i) (RF i)))
 c:0<m
 e:m<=12
noncomputable abbrev b0(d i:Nat):Nat:=6*d+i+1
theorem tI(σ:St)(δ:List MO)(a:d<2)(b:i<6):MF σ δ d i (b0 d i):=by
 match d,i with
 |0,0|0,1|0,2|0,3|0,4|0,5|1,0|1,1|1,2|1,3|1,4|1,5=>exact⟨⋯,⋯,by decide,by decide⟩
 |n+2,_=>exfalso;exact S5 a
 |_,n+6=>exfalso;exact S4 b
structure Args (R:List Row) (kk:Nat) (ta:MV):Prop where
 a:∃s x,(b9 R)[kk]?=some (.e [.c s,x,ta])/\(s=2\/s=3)
structure WS (σ:St) (Γ:Cf):Prop where
 r:KW σ.R
 A:σ.R[Γ.h]?=some .f
 x:σ.al=Γ.a.map CT.d
 y:σ.am=Γ.g.map CT.d
 j:Γ.a.length<=3
 m:Γ.g.length<=3
 g:σ.ah=[Γ.m.d,Γ.n.d]
 h:∃t0 t1,σ.af=[.j [Γ.o] t0,.j [Γ.p] t1]/\0<t0/\t0<2455/\0<t1/\t1<2455
 e:Γ.o∈[121,115,112,72,101,108,107,98]
 f:Γ.p∈[121,115,112,72,101,108,107,98]
 v:∀d i,d<2->i<6->∃ks kr,σ.Y (b0 d i)=cB ks/\σ.T (b0 d i)=((kr:Nat):Int)/\ij (λk t=>cj σ.R (Γ.v i) k t) ks (Γ.T d)/\cj σ.R (Γ.v i) kr (Γ.r d)
 p:Nums σ.nu
 w:∀d,∀u∈Γ.T d,bC u.f=true/\u≠ .q 117
 z:∀d,Γ.r d= .b 118\/bC (Γ.r d).f=true
theorem WS.a(W:WS σ Γ)(d:Nat):(Γ.T d).length<=3:=by
 cases d with
 |zero=>exact W.j
 |succ d=>exact W.m
theorem ny(h:l∈[121,115,112,72,101,108,107,98]):bC l=true/\l≠84:=GC (P:=λl=>bC l=true/\l≠84) ⋯ h
theorem Cw(h:l∈[121,115,112,72,101,108,107,98]):l≠117:=GC (P:=λl=>l≠117) ⋯ h
theorem LD(σ:St)(R:List Row)(δ y:List MO):KH (jq σ) R (cW (gj σ++δ) y)=HS {σ with R:=R} (cW δ y):=by
 show KH (jq σ) R ((gj σ++δ)++y)=KH (jq σ) R (gj σ++(δ++y))
 rw[cC]
theorem ij.g(G:dM R R' n)(h:ij (λk t=>cj R v k t) ks ts):ij (λk t=>cj R' v k t) ks ts:=h.u λJ J q=>G.u q
section
variable{σ:St}{Γ:Cf}{d i l kk:Nat}{ta ma:MV}
theorem VU{S:Prop}(W:WS σ Γ)(G:σ.R.length<=90000)(n:d<2)(I:i<6)(O:Own σ.R l (Γ.v i) ta ma)(J:bC l=true)(P:l≠84)(hA:Args σ.R kk ta)(bJ:∀(R':List Row) (kr:Nat) (ks:List Nat),(∀(K:Nat) (δ:List MO),∃y,au Tb (K+12) 1012 [.d 10,.e [.c (kk:Int),.c (b0 d i:Nat),ma]] (HS σ δ)=some (.e [.c (kr:Int),.e (cB ks)],HS {σ with R:=R'} (cW δ y)))->(cj R' (Γ.v i) kr ((Γ.r d).e l))->(ij (λk t=>cj R' (Γ.v i) k t) ks ((Γ.T d).map (CT.e l)))->(dM σ.R R' 4)->S):S:=by
 refine pM (W.v d i n I) λks kr Z U N X=>?_
 refine sU W.r (eK G) O J P X λm Q h e1 Y j=>?_
 have F:=N.e▸(W.a d)
 have:=j.p
 refine vQ j.r (bN [_,_,_] (V0.C+V0.B) 99999 (.o V0.A 90000 (.o V0.B 3 (.o V0.C (V0.A+1) .z))) rfl G F this) (j.w O) J P F (N.g j) λE q e2 qJ L=>?_
 refine bJ E Q q (λK δ=>?_) (L.u Y) qJ ((j.f L).e (bN [_] (1+V0.A) 4 (.o V0.A 3 .z) rfl F))
 have M:=tI σ δ n I
 refine nc hA.a λs x hr hs=>?_
 have a1:=e1 (K+1) (jq σ) (gj σ++δ)
 rw[LD] at a1
 refine dG (e2 K (jq σ) (cW (gj σ++δ) h)) λy a2=>?_
 rw[r9,LD] at a2
 have H:au Tb (K+11) 251 [.d 11,.e (cB ks),ta,ma] (HS {σ with R:=m} (cW δ h))=some (.e (cB q),HS {σ with R:=E} (cW δ (h++y))):=by
  rw[<-LD];exact a2
 have D:iw Tb (HS {σ with R:=m} (cW δ h)) (.d (hU (b0 d i))) 160=some (.e (cB ks)):=by
  have V:=tI {σ with R:=m} (cW δ h) n I
  rw[<-Z];exact WW V.b
 exact⟨h++y,p8 [(1,.b false),(5,.v (.d (hU (b0 d i)))),(10,.a ta (HS σ δ)),(12,.v (.c (kr:Int))),(14,.a (.c (Q:Int)) (HS {σ with R:=m} (cW δ h))),(16,.v (.e (cB ks))),(18,.a (.e (cB q)) (HS {σ with R:=E} (cW δ (h++y))))] (AA (AA (AA (AA (AA (AA (AA trivial (nE (by have:=M.c;exact Pk this):ct (HS σ δ) .a (.c (b0 d i:Nat)) (.c ((0:Nat):Int))=some false)) M.a) (Be (K:=K+9) (a:=jq σ) (z:=gj σ++δ) hr hs (xn G))) (U▸(WW M.b):iw Tb (HS σ δ) (.d (hU (b0 d i))) 158=some (.c (kr:Int)))) a1) D) H) ⋯⟩
end
end
section
section
variable{k f:Nat}{vs:List MV}{μ aG:Hp}{r:MV}{T:Tab}{cl:Call}{fuel:Nat}{ρ ρ':Loc}{v:MV}{s:MS}
theorem eD(l:List (Nat×Ob))(h:qF T cl fuel b ρ μ ⟨uC 0 (RP l),True⟩=some ((fl,ρ',aG),⟨[],W8 l True⟩)):aY T cl fuel b ρ μ=some (fl,ρ',aG):=
 aet (RP l) (tP l trivial) h
theorem uD(l:List (Nat×Ob))(h:exS T cl fuel s ρ μ ⟨uC 0 (RP l),True⟩=some ((fl,ρ',aG),⟨[],W8 l True⟩)):bQ T cl fuel s ρ μ=some (fl,ρ',aG):=
 aev (RP l) (tP l trivial) h
theorem oi(l:List (Nat×Ob))(h:jG T cl e ρ μ ⟨uC 0 (RP l),True⟩=some ((v,aG),⟨[],W8 l True⟩)):aO T cl e ρ μ=some (v,aG):=
 aeu (RP l) (tP l trivial) h
end
section
variable{σ:St}{δ:List MO}{i:Nat}{o p:MO}{c a:Nat}{fs:List (Nat×MV)}{l:List MV}{v:MV}
theorem df(σ:St)(δ:List MO)(i:Nat):(HS σ δ)[i+182]?=δ[i]?:=⋯
theorem ti(σ:St)(δ:List MO)(i:Nat)(o:MO):(HS σ δ).set (i+182) o=HS σ (δ.set i o):=⋯
theorem kG(σ:St)(δ:List MO):(HS σ δ).length=δ.length+182:=⋯
noncomputable def fG(c:Nat)(fs:List (Nat×MV))(a:Nat):Option MV:=if(Tb.b c).contains a then bz fs a else none
theorem ed(σ:St)(h:δ[i]?=some (.d c fs))(a:Nat)(v:MV)(e:fG c fs a=some v):iw Tb (HS σ δ) (.d (i+182)) a=some v:=(WW (by rw[df];exact h)).trans e
noncomputable def okS(c:Nat)(fs:List (Nat×MV))(a:Nat):Bool:=(Tb.b c).contains a&&eI fs.length 500
theorem F9(σ:St)(h:δ[i]?=some (.d c fs))(a:Nat)(v:MV)(b:MO)(e:okS c fs a=true)(g:MO.d c (bp fs a v)=b):ot Tb (HS σ δ) (.d (i+182)) a v=some (HS σ (δ.set i b)):=by
 subst g
 exact(WW (by rw[df];exact h)).trans ((j7 e).trans (by rw[ti]))
theorem m6(o:MO)(h:δ[i]?=some p):(δ.set i o)[i]?=some o:=cM (ax.mp h).1
theorem jg(j:Nat)(o:MO)(hj:j≠i)(h:δ[i]?=some p):(δ.set j o)[i]?=some p:=by rw[cX hj];exact h
theorem fV(o:MO)(h:δ[i]?=some p):(ar δ o)[i]?=some p:=qI h
theorem h9(δ:List MO)(o:MO)(n:Nat)(e:δ.length=n):(ar δ o)[n]?=some o:=by subst e;exact aZ _ _
theorem cg(y:List MO)(h:δ[i]?=some p):(cW δ y)[i]?=some p:=r_ h
theorem dsC(σ:St)(h:δ[i]?=some p)(c:Nat)(fs:List (Nat×MV))(a:Nat)(v:MV)(b:MO)(e:okS c fs a=true)(g:MO.d c (bp fs a v)=b):ot Tb (HS σ (δ.set i (.d c fs))) (.d (i+182)) a v=some (HS σ (δ.set i b)):=by
 rw[F9 σ (m6 _ h) a v b e g,jy]
noncomputable def fL(l:List MV)(j:Nat):Option MV:=if eI (j+1) (2^62) then l[j]? else none
set_option tactic.hygienic true in
theorem hK(σ:St)(h:δ[i]?=some (.a l))(j:Nat)(v:MV)(e:fL l j=some v):ez (HS σ δ) (.d (i+182)) (.c (j:Int))=some v:=by
 unfold fL at e
 split at e
 ·rename_i hj
  exact gn (by rw[df];exact h) e (aW hj)
 ·cases e
noncomputable def fS(l:List MV)(j:Nat)(v:MV):Option (List MV):=if eI (j+1) l.length&&eI l.length bA then some (l.set j v) else none
set_option tactic.hygienic true in
theorem Es(σ:St)(h:δ[i]?=some (.a l))(j:Nat)(v:MV)(b:List MV)(e:fS l j v=some b):p9 (HS σ δ) (.d (i+182)) (.c (j:Int)) v=some (HS σ (δ.set i (.a b))):=by
 unfold fS at e
 split at e
 ·rename_i hj
  rw[bO] at hj
  have g:=aW hj.1
  have m:=aW hj.2
  refine(UX (by rw[df];exact h)).trans ((RA _).trans ((j7 ⟨Sl,cw.mpr g,m⟩).trans ?_))
  refine kf e ?_;rw[ti];rfl
 ·cases e
theorem sX(σ:St)(h:δ[i]?=some (.a l))(e:eI l.length bA=true):mw (HS σ δ) (.d (i+182))=some (.c (l.length:Nat)):=
 ly (by rw[df];exact h) (aW e)
theorem ky(cl:Call)(σ:St)(h:δ[i]?=some (.a l))(v:MV)(e:eI l.length bA=true):dj cl (HS σ δ) (.d (i+182)) [v] .a=some (.f,HS σ (δ.set i (.a (ar l v)))):=by
 rw[gH (by rw[df];exact h) (aW e),ti];rfl
theorem jF(σ:St)(h:δ[i]?=some (.a l)):gJ Tb (HS σ δ) (.d (i+182)) 0=some .a:=wJ (by rw[df];exact h)
theorem cJ(h:δ[i]?=some p):i<δ.length:=(ax.mp h).1
theorem Wy(h:x=some (HS σ δ))(e:δ=aX):x=some (HS σ aX):=e▸h
theorem Ri(h:x=some (v,HS σ δ))(e:δ=aX):x=some (v,HS σ aX):=e▸h
theorem Oo(δ:List MO)(i:Nat)(p o:MO):(δ.set i p).set i o=δ.set i o:=jy ..
theorem Ft(h:δ[i]?=some p)(q o:MO)(e:δ.set i o=aX):(ar δ q).set i o=ar aX q:=by rw[q7 (cJ h),e]
theorem kF(σ:St)(δ:List MO)(o:MO):HS σ δ++[o]=HS σ (ar δ o):=⋯
end
end
section
section
variable{K i:Nat}{σ:St}{δ:List MO}{ad kk:Int}{s:MV}{l:List MV}
theorem K0(h:ct μ .g (.c ((2:Int)+(n:Int))) (.c 3)=some false):au Tb (K+1) 265 [.c (n:Int)] μ=some (.c ((2:Int)+(n:Int)),μ):=bw [(1,oq h)] ⋯
theorem KN(hj:i≠j)(h:δ[i]?=some (.d 282 []))(b:δ[j]?=some (.a l))(e:∀μ,au Tb (K+1) 265 [.c l.length] μ=some (.c w,μ))(hb:eI l.length bA=true):au Tb (K+2) 279 [.d (i+182),.c ad,.c kk,.d (j+182)] (HS σ δ)=some (.f,HS σ (δ.set i (.d 282 [(71,.c ad),(62,.c kk),(63,.d (j+182)),(322,.c 0),(72,.c w),(68,.c 0)]))):=bw [(0,oh (F9 σ h 71 (MV.c ad) (MO.d 282 [(71,MV.c ad)]) ⋯ ⋯)),(1,oh (dsC σ h 282 ([(71,MV.c ad)]) 62 (MV.c kk) (MO.d 282 [(71,MV.c ad),(62,MV.c kk)]) ⋯ ⋯)),(2,oh (dsC σ h 282 ([(71,MV.c ad),(62,MV.c kk)]) 63 (MV.d (j+182)) (MO.d 282 [(71,MV.c ad),(62,MV.c kk),(63,MV.d (j+182))]) ⋯ ⋯)),(3,oh (dsC σ h 282 ([(71,MV.c ad),(62,MV.c kk),(63,MV.d (j+182))]) 322 (MV.c 0) (MO.d 282 [(71,MV.c ad),(62,MV.c kk),(63,MV.d (j+182)),(322,MV.c 0)]) ⋯ ⋯)),(4,ov (sX σ (jg i (MO.d 282 [(71,MV.c ad),(62,MV.c kk),(63,MV.d (j+182)),(322,MV.c 0)]) (AV hj) b) hb)),(5,ow (e (HS σ (δ.set i (MO.d 282 [(71,MV.c ad),(62,MV.c kk),(63,MV.d (j+182)),(322,MV.c 0)]))))),(6,oh (dsC σ h 282 ([(71,MV.c ad),(62,MV.c kk),(63,MV.d (j+182)),(322,MV.c 0)]) 72 (MV.c w) (MO.d 282 [(71,MV.c ad),(62,MV.c kk),(63,MV.d (j+182)),(322,MV.c 0),(72,MV.c w)]) ⋯ ⋯)),(7,oh (dsC σ h 282 ([(71,MV.c ad),(62,MV.c kk),(63,MV.d (j+182)),(322,MV.c 0),(72,MV.c w)]) 68 (MV.c 0) (MO.d 282 [(71,MV.c ad),(62,MV.c kk),(63,MV.d (j+182)),(322,MV.c 0),(72,MV.c w),(68,MV.c 0)]) ⋯ ⋯))] ⋯
end
end
section
noncomputable abbrev St.P(σ:St)(m:Int):St:={σ with A:=m}
noncomputable abbrev St.ak(σ:St)(m:Int):St:={σ with h:=m}
noncomputable abbrev St.ap(σ:St)(m:Int):St:={σ with ae:=m}
noncomputable abbrev St.aa(σ:St)(l:List MV):St:={σ with J:=l}
noncomputable abbrev St.ag(σ:St)(l:List (MV×MV)):St:={σ with B:=l}
noncomputable abbrev St.C(σ:St)(l:List MV):St:={σ with u:=l}
noncomputable abbrev St.aq(σ:St)(l:List MV):St:={σ with z:=l}
noncomputable abbrev St.ac(σ:St)(l:List MV):St:={σ with a:=l}
noncomputable abbrev St.Q(σ:St)(l:List MV):St:={σ with X:=l}
noncomputable abbrev St.D(σ:St)(v:MV):St:={σ with Z:=v}
noncomputable abbrev St.ao(σ:St)(v:Int):St:={σ with O:=v}
noncomputable abbrev St.aj(σ:St)(l:List MV):St:={σ with G:=l}
noncomputable abbrev St.V(σ:St)(l:List MV):St:={σ with H:=l}
noncomputable abbrev St.S(σ:St)(v:Int):St:={σ with U:=v}
noncomputable abbrev St.r(σ:St)(l:List Row):St:={σ with R:=l}
theorem VK(σ:St)(δ:List MO)(m:Int):ot Tb (HS σ δ) (.d 142) 67 (.c m)=some (HS (σ.P m) δ):=⋯
theorem adk(σ:St)(δ:List MO)(m:Int):ot Tb (HS σ δ) (.d 142) 66 (.c m)=some (HS (σ.ak m) δ):=⋯
theorem adf(σ:St)(δ:List MO)(m:Int):ot Tb (HS σ δ) (.d 142) 73 (.c m)=some (HS (σ.ap m) δ):=⋯
theorem adi(cl:Call)(σ:St)(δ:List MO)(v:MV)(h:eI σ.J.length bA=true):dj cl (HS σ δ) (.d 143) [v] .a=some (.f,HS (σ.aa (ar σ.J v)) δ):=
 gH (n:=143) (μ:=HS σ δ) (l:=σ.J) ⋯ (aW h)
structure iQ (σ:St) (n:Nat):Prop where
 d:σ.J.length<=n
 f:σ.B.length<=n
 e:∀p∈σ.B,∃t:Int,p.1= .c t/\t<σ.h/\0<t
 a:0<σ.h
theorem mn(h:∀p∈d,∃t:Int,p.1= .c t)(t:Int):eL d (.c t)=true:=by
 unfold eL
 rw[bO]
 refine⟨rfl,aQ.mpr λp a=>?_⟩
 refine dG (h p a) λu b=>?_
 rw[b];rfl
theorem lJ(h:∀p∈d,p.1≠k):cV d k=none:=by
 induction d with
 |nil=>rfl
 |cons p r b=>
  obtain⟨a,v⟩:=p
  show(if MV.k a k then some v else cV r k)=none
  exact(fg (h (a,v) (gZ ..)))▸(b λq c=>h q (fp _ c))
theorem u_(h:∀p∈d,p.1≠k):iU d k v=ar d (k,v):=by
 induction d with
 |nil=>rfl
 |cons p r b=>
  obtain⟨a,w⟩:=p
  show(if MV.k a k then(a,v)::r else(a,w)::iU r k v)=(a,w)::(r++[(k,v)])
  refine(fg (h (a,w) (gZ ..)))▸(b λq c=>h q (fp _ c))▸?_;rfl
theorem lK(h:cV d k=none):cV (ar d (k,v)) k=some v:=by
 induction d with
 |nil=>
  show(if MV.k k k then some v else _)=_
  rw[hO];rfl
 |cons p r b=>
  obtain⟨a,w⟩:=p
  have h':(if MV.k a k then some w else cV r k)=none:=h
  show(if MV.k a k then some w else cV (ar r (k,v)) k)=_
  cases e:MV.k a k with
  |true=>rw[e] at h';cases h'
  |false=>rw[e] at h';exact b h'
theorem oI(h:cV d k=some x):cV (ar d p) k=some x:=by
 induction d with
 |nil=>cases h
 |cons q r b=>
  obtain⟨a,w⟩:=q
  have h':(if MV.k a k then some w else cV r k)=some x:=h
  show(if MV.k a k then some w else cV (ar r p) k)=_
  cases e:MV.k a k with
  |true=>rw[e] at h';exact h'
  |false=>rw[e] at h';exact b h'
theorem Mj(h:cV d k=some v):(k,v)∈d:=by
 induction d with
 |nil=>cases h
 |cons p r b=>
  obtain⟨a,w⟩:=p
  have h':(if MV.k a k then some w else cV r k)=some v:=h
  cases e:MV.k a k with
  |true=>rw[e] at h';refine kf h' ?_;rw[(ju a k).mp e];exact .head _
  |false=>
   rw[e] at h'
   exact .tail _ (b h')
section
variable{σ:St}{n:Nat}
theorem iQ.r(H:iQ σ n)(h:cV σ.B (.c ad)=some v):0<ad:=by
 refine pL (H.e _ (Mj h)) λt b J g=>?_
 cases b;exact g
theorem iQ.q(H:iQ σ n)(t:Int):eL σ.B (.c t)=true:=mn (λp b=>(H.e p b).imp λJ h=>h.1) t
theorem iQ.k(H:iQ σ n):∀p∈σ.B,p.1≠ .c σ.h:=λp g=>by
 refine pL (H.e p g) λt b m J=>?_
 rw[b];intro h;cases h;exact Xw m
noncomputable def St.E(σ:St)(o:MV)(w:Int):St:={σ with A:=σ.A+1,J:=ar σ.J o,B:=ar σ.B (.c σ.h,o),h:=σ.h+w,ae:=σ.ae+w}
theorem iQ.i(H:iQ σ n)(b:0<w):iQ (σ.E o w) (n+1):=
 ⟨by show(ar σ.J o).length<=_;rw[aB];have:=H.d;exact xo this,
  by show(ar σ.B _).length<=_;rw[aB];have:=H.f;exact xo this,
  λp g=>by
   have g:=g
   show ∃t:Int,p.1= .c t/\t<σ.h+w/\0<t
   rcases cP.mp g with h|h
   ·refine pL (H.e p h) λt u m v=>?_;exact⟨t,u,Xv b m,v⟩
   ·simp only[cx,iN,or_false] at h;refine fJ h ?_;exact⟨σ.h,rfl,Xu b,H.a⟩,
  by have:=H.a;exact(Int.add_pos this b)⟩
theorem ade(σ:St)(δ:List MO)(t:Int)(v:MV)(a:eL σ.B (.c t)=true)(b:∀p∈σ.B,p.1≠ .c t)(e:eI σ.B.length bA=true):p9 (HS σ δ) (.d 144) (.c t) v=some (HS (σ.ag (ar σ.B (.c t,v))) δ):=by
 have:=mB (n:=144) (μ:=HS σ δ) (d:=σ.B) (key:= .c t) (v:=v) ⋯ a (aW e)
 rw[this,u_ b];exact congrArg some ⋯
end
section
variable{K j:Nat}{σ:St}{δ:List MO}{kk w:Int}{l:List MV}{n:Nat}
theorem JO(b:δ[j]?=some (.a l))(f:∀μ,au Tb (K+1) 265 [.c l.length] μ=some (.c w,μ))(hb:eI l.length bA=true):yp Tb (au Tb (K+2)) 282 [.c ad,.c kk,.d (j+182)] (HS σ δ)=some (.d (δ.length+182),HS σ (ar δ (.d 282 [(71,.c ad),(62,.c kk),(63,.d (j+182)),(322,.c 0),(72,.c w),(68,.c 0)]))):=by
 have hj:=cJ b
 have e:=KN (K:=K) (i:=δ.length) (σ:=σ) (δ:=ar δ (.d 282 [])) (ad:=ad) (kk:=kk) (w:=w) (hj:=sM hj) (aZ _ _) (fV _ b) f hb
 rw[dK] at e
 refine(Eg (by kernel_rfl:Tb.g 282=some (some 279))).trans ?_
 dsimp only;rw[kG,kF];exact j_ e
theorem pC(H:iQ σ n)(b:n<=100000)(e:δ[j]?=some (.a l))(g:∀μ,au Tb (K+1) 265 [.c l.length] μ=some (.c w,μ))(hb:eI l.length bA=true):au Tb (K+3) 314 [.d 142,.c kk,.d (j+182)] (HS σ δ)=some (.d (δ.length+182),HS (σ.E (.d (δ.length+182)) w) (ar δ (.d 282 [(71,.c σ.h),(62,.c kk),(63,.d (j+182)),(322,.c 0),(72,.c w),(68,.c (σ.A+1))]))):=bw [(1,ow (JO (σ:=σ) (kk:=kk) (ad:=σ.h) e g hb)),(3,oh (VK σ (ar δ (MO.d 282 [(71,MV.c σ.h),(62,MV.c kk),(63,MV.d (j+182)),(322,MV.c 0),(72,MV.c w),(68,MV.c 0)])) (σ.A+1))),(5,oh (Wy (F9 (σ.P (σ.A+1)) (aZ δ (MO.d 282 [(71,MV.c σ.h),(62,MV.c kk),(63,MV.d (j+182)),(322,MV.c 0),(72,MV.c w),(68,MV.c 0)])) 68 (MV.c (σ.A+1)) (MO.d 282 [(71,MV.c σ.h),(62,MV.c kk),(63,MV.d (j+182)),(322,MV.c 0),(72,MV.c w),(68,MV.c (σ.A+1))]) ⋯ ⋯) (dK δ (MO.d 282 [(71,MV.c σ.h),(62,MV.c kk),(63,MV.d (j+182)),(322,MV.c 0),(72,MV.c w),(68,MV.c 0)]) (MO.d 282 [(71,MV.c σ.h),(62,MV.c kk),(63,MV.d (j+182)),(322,MV.c 0),(72,MV.c w),(68,MV.c (σ.A+1))])))),(8,ow (adi (au Tb (K+2)) (σ.P (σ.A+1)) (ar δ (MO.d 282 [(71,MV.c σ.h),(62,MV.c kk),(63,MV.d (j+182)),(322,MV.c 0),(72,MV.c w),(68,MV.c (σ.A+1))])) (MV.d (δ.length+182)) (bx (by have:=H.d;unfold bA;exact Pl b this)))),(10,ov (ed ((σ.P (σ.A+1)).aa (ar σ.J (MV.d (δ.length+182)))) (aZ δ (MO.d 282 [(71,MV.c σ.h),(62,MV.c kk),(63,MV.d (j+182)),(322,MV.c 0),(72,MV.c w),(68,MV.c (σ.A+1))])) 71 (MV.c σ.h) ⋯)),(11,oh (ade ((σ.P (σ.A+1)).aa (ar σ.J (MV.d (δ.length+182)))) (ar δ (MO.d 282 [(71,MV.c σ.h),(62,MV.c kk),(63,MV.d (j+182)),(322,MV.c 0),(72,MV.c w),(68,MV.c (σ.A+1))])) σ.h (MV.d (δ.length+182)) (H.q σ.h) H.k (bx (by have:=H.f;unfold bA;exact Pl b this)))),(13,ov (ed (((σ.P (σ.A+1)).aa (ar σ.J (MV.d (δ.length+182)))).ag (ar σ.B (MV.c σ.h,MV.d (δ.length+182)))) (aZ δ (MO.d 282 [(71,MV.c σ.h),(62,MV.c kk),(63,MV.d (j+182)),(322,MV.c 0),(72,MV.c w),(68,MV.c (σ.A+1))])) 72 (MV.c w) ⋯)),(14,oh (adk (((σ.P (σ.A+1)).aa (ar σ.J (MV.d (δ.length+182)))).ag (ar σ.B (MV.c σ.h,MV.d (δ.length+182)))) (ar δ (MO.d 282 [(71,MV.c σ.h),(62,MV.c kk),(63,MV.d (j+182)),(322,MV.c 0),(72,MV.c w),(68,MV.c (σ.A+1))])) (σ.h+w))),(16,ov (ed ((((σ.P (σ.A+1)).aa (ar σ.J (MV.d (δ.length+182)))).ag (ar σ.B (MV.c σ.h,MV.d (δ.length+182)))).ak (σ.h+w)) (aZ δ (MO.d 282 [(71,MV.c σ.h),(62,MV.c kk),(63,MV.d (j+182)),(322,MV.c 0),(72,MV.c w),(68,MV.c (σ.A+1))])) 72 (MV.c w) ⋯)),(17,oh (adf ((((σ.P (σ.A+1)).aa (ar σ.J (MV.d (δ.length+182)))).ag (ar σ.B (MV.c σ.h,MV.d (δ.length+182)))).ak (σ.h+w)) (ar δ (MO.d 282 [(71,MV.c σ.h),(62,MV.c kk),(63,MV.d (j+182)),(322,MV.c 0),(72,MV.c w),(68,MV.c (σ.A+1))])) (σ.ae+w)))] ⋯
end
end
section
section
variable{R:List Row}{m:Nat}{s:Int}{x w:MV}{l:List MV}
theorem IQ(f:R.length<=100000)(h:(b9 R)[m]?=some (.e (.c s::x::l)))(b:s=2\/s=3)(K:Nat)(σ:St)(δ:List MO)(g:σ.R=R):au Tb (K+2) 181 [.d 11,.c (m:Int)] (HS σ δ)=some (x,HS σ δ):=by
 subst g;exact VZ (a:=jq σ) (z:=gj σ++δ) h b f
theorem UN(f:R.length<=100000)(h:(b9 R)[m]?=some (.e [.c s,x,w]))(b:s=2\/s=3)(K:Nat)(σ:St)(δ:List MO)(g:σ.R=R):au Tb (K+2) 188 [.d 11,.c (m:Int)] (HS σ δ)=some (w,HS σ δ):=by
 subst g;exact Be (a:=jq σ) (z:=gj σ++δ) h b f
theorem IP(b:R.length<=100000)(h:(b9 R)[m]?=some (.e (.c s::l)))(K:Nat)(σ:St)(δ:List MO)(f:σ.R=R):au Tb (K+2) 167 [.d 11,.c (m:Int)] (HS σ δ)=some (.c s,HS σ δ):=by
 subst f;exact Oh (a:=jq σ) (z:=gj σ++δ) h b
theorem pP(f:R.length<=100000)(h:(b9 R)[m]?=some (.e (.c s::l)))(hm:12<=m)(b:Bool)(hb:s=3/\b=true\/s=2/\b=false\/s=4/\b=false)(K:Nat)(σ:St)(δ:List MO)(g:σ.R=R):au Tb (K+2) 195 [.d 11,.c (m:Int)] (HS σ δ)=some (.h b,HS σ δ):=by
 subst g;exact Jm (a:=jq σ) (z:=gj σ++δ) h hm f hb
theorem oj(h:m≠c)(μ:Hp):ct μ .a (.c (m:Int)) (.c (c:Int))=some false:=nE h
end
noncomputable abbrev cb:MV:= .e [.c 4,.c 0]
noncomputable abbrev rL(ad kk:Int)(s:Nat)(w n:Int):MO:= .d 282 [(71,.c ad),(62,.c kk),(63,.d (s+182)),(322,.c 0),(72,.c w),(68,.c n)]
section
variable{m:Nat}{σ:St}{δ:List MO}{l:List MV}
theorem Fq(f:σ.R.length<=100000)(h:(b9 σ.R)[m]?=some (.e (.c 2::l)))(hm:15<=m)(K:Nat):au Tb (K+6) 886 [.d 148,.c (m:Int),.c 3] (HS σ δ)=some (.d (δ.length+182),HS σ (ar (ar δ (.a [cb,cb,cb])) (.b []))):=bw [(0,oq ((oj (c:=13) (GF hm)) (HS σ δ))),(3,ow ((pP f h (AW hm) false (.inr (.inl ⟨rfl,rfl⟩))) (K+3) σ δ ⋯)),(6,ow ((IP f h) (K+3) σ δ ⋯)),(14,ov (sX σ (fV (MO.b []) (aZ δ (MO.a []))) ⋯)),(17,oc (jF σ (fV (MO.b []) (aZ δ (MO.a []))))),(18,ow (Ri (ky (au Tb (K+5)) σ (fV (MO.b []) (aZ δ (MO.a []))) (MV.e [MV.c 4,MV.c 0]) ⋯) (Ft (aZ δ (MO.a [])) (MO.b []) (MO.a (ar [] (MV.e [MV.c 4,MV.c 0]))) (dK δ (MO.a []) (MO.a (ar [] (MV.e [MV.c 4,MV.c 0]))))))),(19,ov (sX σ (fV (MO.b []) (aZ δ (MO.a (ar [] (MV.e [MV.c 4,MV.c 0]))))) ⋯)),(22,oc (jF σ (fV (MO.b []) (aZ δ (MO.a (ar [] (MV.e [MV.c 4,MV.c 0]))))))),(23,ow (Ri (ky (au Tb (K+5)) σ (fV (MO.b []) (aZ δ (MO.a (ar [] (MV.e [MV.c 4,MV.c 0]))))) (MV.e [MV.c 4,MV.c 0]) ⋯) (Ft (aZ δ (MO.a (ar [] (MV.e [MV.c 4,MV.c 0])))) (MO.b []) (MO.a (ar (ar [] (MV.e [MV.c 4,MV.c 0])) (MV.e [MV.c 4,MV.c 0]))) (dK δ (MO.a (ar [] (MV.e [MV.c 4,MV.c 0]))) (MO.a (ar (ar [] (MV.e [MV.c 4,MV.c 0])) (MV.e [MV.c 4,MV.c 0]))))))),(24,ov (sX σ (fV (MO.b []) (aZ δ (MO.a (ar (ar [] (MV.e [MV.c 4,MV.c 0])) (MV.e [MV.c 4,MV.c 0]))))) ⋯)),(27,oc (jF σ (fV (MO.b []) (aZ δ (MO.a (ar (ar [] (MV.e [MV.c 4,MV.c 0])) (MV.e [MV.c 4,MV.c 0]))))))),(28,ow (Ri (ky (au Tb (K+5)) σ (fV (MO.b []) (aZ δ (MO.a (ar (ar [] (MV.e [MV.c 4,MV.c 0])) (MV.e [MV.c 4,MV.c 0]))))) (MV.e [MV.c 4,MV.c 0]) ⋯) (Ft (aZ δ (MO.a (ar (ar [] (MV.e [MV.c 4,MV.c 0])) (MV.e [MV.c 4,MV.c 0])))) (MO.b []) (MO.a (ar (ar (ar [] (MV.e [MV.c 4,MV.c 0])) (MV.e [MV.c 4,MV.c 0])) (MV.e [MV.c 4,MV.c 0]))) (dK δ (MO.a (ar (ar [] (MV.e [MV.c 4,MV.c 0])) (MV.e [MV.c 4,MV.c 0]))) (MO.a (ar (ar (ar [] (MV.e [MV.c 4,MV.c 0])) (MV.e [MV.c 4,MV.c 0])) (MV.e [MV.c 4,MV.c 0]))))))),(29,ov (sX σ (fV (MO.b []) (aZ δ (MO.a (ar (ar (ar [] (MV.e [MV.c 4,MV.c 0])) (MV.e [MV.c 4,MV.c 0])) (MV.e [MV.c 4,MV.c 0]))))) ⋯))] ⋯
end
end
section
noncomputable def Fz(S:Nat->Prop)(δ a:List MO):Prop:=δ.length<=a.length/\∀(i:Nat) (v:MO),¬S i->δ[i]?=some v->a[i]?=some v
noncomputable def Gw(δ a:List MO):Prop:=δ.length<=a.length/\∀(i:Nat) (v:MO),δ[i]?=some v->a[i]?=some v
theorem Gw.p(δ:List MO):Gw δ δ:=⟨aC _,λJ J h=>h⟩
theorem Gw.e(h:Gw a b)(g:Gw b c):Gw a c:=⟨aD h.1 g.1,λi v x=>g.2 i v (h.2 i v x)⟩
theorem Gw.d(δ:List MO)(o:MO):Gw δ (ar δ o):=⟨by rw[aB];exact lG,λJ J h=>fV o h⟩
theorem Gw.k(δ y:List MO):Gw δ (cW δ y):=⟨by unfold Mine.cW;simp,λJ J h=>cg y h⟩
theorem Gw.q(h:Gw a b)(c:a.length<=i)(o:MO):Gw a (b.set i o):=
 ⟨by simp;exact h.1,λj v x=>by have:=cJ x;rw[cX (Xy c this)];exact h.2 j v x⟩
theorem Gw.f{S:Nat->Prop}(h:Gw a b):Fz S a b:=⟨h.1,λi v J x=>h.2 i v x⟩
theorem Fz.k{S:Nat->Prop}(h:Fz S a b)(g:Fz S b c):Fz S a c:=⟨aD h.1 g.1,λi v n x=>g.2 i v n (h.2 i v n x)⟩
theorem Fz.y{S:Nat->Prop}(o:MO)(h:S i):Fz S a (a.set i o):=
 ⟨by simp,λj v n x=>by rw[cX λe=>n (by refine rQ e ?_;exact h)];exact x⟩
noncomputable def St.up(σ b:St):St:={σ with U:=b.U,R:=b.R,A:=b.A,J:=b.J,B:=b.B,h:=b.h,ae:=b.ae}
theorem kY(R:List Row):∃x,R=R++x:=⟨[],(d8 _).symm⟩
theorem xV{a b c:List Row}(h:∃x,b=a++x)(g:∃x,c=b++x):∃x,c=a++x:=by
 obtain⟨x,rfl⟩:=h;obtain⟨y,rfl⟩:=g;exact⟨x++y,cC ..⟩
structure Up (σ σ':St):Prop where
 G:σ'=σ.up σ'
 j:∃x,σ'.R=σ.R++x
 y:∀k v,cV σ.B k=some v->cV σ'.B k=some v
theorem Up.C(u:Up σ σ'){P:St->Prop}(h:P (σ.up σ')):P σ':=u.G.symm▸h
theorem Up.q(σ:St):Up σ σ:=⟨rfl,kY _,λJ J h=>h⟩
theorem Up.f{a b c:St}(h:Up a b)(g:Up b c):Up a c:=have e:b.up c=(a.up b).up c:=congrArg (St.up · c) h.G
 ⟨g.G.trans e,xV h.j g.j,λk v e=>g.y k v (h.y k v e)⟩
theorem Up.p(σ:St)(o:MV)(w:Int):Up σ (σ.E o w):=⟨rfl,kY _,λJ J h=>oI h⟩
noncomputable def rz(S:Nat->Prop)(δ:List MO)(b:Nat):Prop:=∀i,S i->i<b\/∃a,δ[i]?=some (.d 424 a)
theorem rz.j{S:Nat->Prop}(c:rz S δ b)(g:Fz S δ aX)(h:δ[i]?=some (.a l))(hb:b<=i):aX[i]?=some (.a l):=by
 refine g.2 _ _ (λq=>?_) h
 rcases c _ q with q|⟨fs,q⟩
 ·exact sN hb q
 ·replace q:=h▸q;cases q
inductive iq (σ:St) (δ:List MO) (b:Nat) (ad kk:Int) (sl:List MV):Prop
 |mk (o s w n) (h1:cV σ.B (.c ad)=some (.d (o+182))) (h2:δ[o]?=some (rL ad kk s w n)) (h3:δ[s]?=some (.a sl)) (h4:b<=o) (h5:b<=s)
theorem iq.i(h:iq σ δ b ad kk sl)(u:Up σ σ')(g:Gw δ aX):iq σ' aX b ad kk sl:=by
 obtain⟨o,s,w,n,k,c,q,j,p⟩:=h
 exact⟨o,s,w,n,u.y _ _ k,g.2 _ _ c,g.2 _ _ q,j,p⟩
theorem iq.e(h:iq σ δ b ad kk sl)(g:c<=b):iq σ δ c ad kk sl:=by
 obtain⟨o,s,w,n,p,j,r,k,q⟩:=h
 exact⟨o,s,w,n,p,j,r,pE g k,pE g q⟩
theorem iq.d{S:Nat->Prop}(h:iq σ δ b ad kk sl)(u:∀k v,cV σ.B k=some v->cV σ'.B k=some v)(g:Fz S δ aX)(j:rz S δ b):iq σ' aX b ad kk sl:=by
 obtain⟨o,s,w,n,x,c,t,p,r⟩:=h
 refine⟨o,s,w,n,u _ _ x,g.2 _ _ (λq=>?_) c,g.2 _ _ (λq=>?_) t,p,r⟩
 ·rcases j _ q with q|⟨fs,q⟩
  ·exact sN p q
  ·replace q:=c▸q;cases q
 ·rcases j _ q with q|⟨fs,q⟩
  ·exact sN r q
  ·replace q:=t▸q;cases q
noncomputable def fM(σ:St)(δ:List MO)(b:Nat)(ad kk:Int):Prop:=∃o,cV σ.B (.c ad)=some (.d o)/\(o=178/\kk=18\/o=180/\kk=13\/∃i s w n,o=i+182/\b<=i/\δ[i]?=some (rL ad kk s w n))
theorem fM.a(h:fM σ δ b ad kk){f:Prop}(k:∀o,cV σ.B (.c ad)=some (.d o)->iw Tb (HS σ δ) (.d o) 62=some (.c kk)->f):f:=by
 refine cf h λo g j=>?_
 refine k o g ?_
 rcases j with⟨rfl,rfl⟩|⟨rfl,rfl⟩|⟨i,s,w,n,rfl,_,h⟩
 ·kernel_rfl
 ·kernel_rfl
 ·exact ed σ h 62 (.c kk) ⋯
theorem fM.d{S:Nat->Prop}(h:fM σ δ b ad kk)(u:∀k v,cV σ.B k=some v->cV σ'.B k=some v)(g:Fz S δ aX)(j:rz S δ b):fM σ' aX b ad kk:=by
 refine cf h λo c f=>?_
 refine⟨o,u _ _ c,?_⟩
 rcases f with h|h|⟨i,s,w,n,h,hb,h3⟩
 ·exact .inl h
 ·exact .inr (.inl h)
 ·refine .inr (.inr ⟨i,s,w,n,h,hb,g.2 _ _ (λq=>?_) h3⟩)
  rcases j _ q with q|⟨fs,q⟩
  ·exact sN hb q
  ·replace q:=h3▸q;cases q
theorem iq.a(h:iq σ δ b ad kk sl):fM σ δ b ad kk:=by
 obtain⟨o,s,w,n,c,g,_,j,_⟩:=h
 exact⟨_,c,.inr (.inr ⟨o,s,w,n,rfl,j,g⟩)⟩
section
variable{m:Nat}{σ:St}{δ:List MO}{l:List MV}{n:Nat}
theorem V7(K:Nat)(μ:Hp):au Tb (K+1) 265 [.c ([cb,cb,cb].length:Nat)] μ=some (.c 5,μ):=nH ⋯
theorem uP(H:iQ σ n)(g:n<=100000)(f:σ.R.length<=100000)(h:(b9 σ.R)[m]?=some (.e (.c 2::l)))(hm:15<=m)(K:Nat):
 au Tb (K+8) 755 [.d 148,.c (m:Int),.c 3] (HS σ δ)=some (.d ((ar (ar δ (.a [cb,cb,cb])) (.b [])).length+182),HS (σ.E (.d ((ar (ar δ (.a [cb,cb,cb])) (.b [])).length+182)) 5) (ar (ar (ar δ (.a [cb,cb,cb])) (.b [])) (rL σ.h m δ.length 5 (σ.A+1)))):=bw [(0,ow (bw [(4,ow (Fq (δ:=δ) f h hm K)),(5,ow (pC (K:=K+3) (kk:=(m:Int)) (w:=5) (j:=δ.length) (l:=[cb,cb,cb]) H g (δ:=ar (ar δ (.a [cb,cb,cb])) (.b [])) (fV _ (aZ _ _)) (V7 _) rfl))] ⋯:au Tb (K+7) 893 [.d 148,.c (m:Int),.c 3] (HS σ δ)=some (.d ((ar (ar δ (.a [cb,cb,cb])) (.b [])).length+182),HS (σ.E (.d ((ar (ar δ (.a [cb,cb,cb])) (.b [])).length+182)) 5) (ar (ar (ar δ (.a [cb,cb,cb])) (.b [])) (rL σ.h m δ.length 5 (σ.A+1))))))] ⋯
theorem Kn(cl:Call)(σ:St)(δ:List MO)(v:MV)(h:eI σ.u.length bA=true):dj cl (HS σ δ) (.d 169) [v] .a=some (.f,HS (σ.C (ar σ.u v)) δ):=
 gH (n:=169) (μ:=HS σ δ) (l:=σ.u) ⋯ (aW h)
theorem Ko(cl:Call)(σ:St)(δ:List MO)(h:List MV)(v:MV)(e:σ.u=ar h v)(hb:eI (ar h v).length bA=true):dj cl (HS σ δ) (.d 169) [] .d=some (v,HS (σ.C h) δ):=by
 refine(by kernel_rfl:(HS σ δ).set 169 (.a h)=HS (σ.C h) δ)▸((wu (by rw[<-e];kernel_rfl)).trans ((Eg (v:=v) ?_).trans ((j7 (aW hb)).trans ?_)))
 ·unfold ar;simp only[Gh,AI,R5]
 ·unfold ar;rw[Gg]
theorem Fo(H:iQ σ n)(I:n<=99999)(D:σ.R.length<=100000)(B:σ.u=[])(h:(b9 σ.R)[m]?=some (.e (.c 2::l)))(hm:15<=m)(o:Int)(r:MV){z:Prop}(F:∀σ' y,(∀K,au Tb (K+9) 1040 [.d 148,.c (m:Int),.c o,r] (HS σ δ)=some (.c σ.h,HS σ' y))->Up σ σ'->Gw δ y->iQ σ' (n+1)->σ'.U=σ.U->σ'.R=σ.R->iq σ' y δ.length σ.h m [.e [.c 4,.c o],.e [.c 7,r],cb]->z):z:=by
 refine b6 (ar δ (.a [.e [.c 4,.c o]])) λg w=>?_
 refine b6 (ar (ar g (.a [cb,cb,cb])) (.b [])) λj s=>?_
 have x:=λK=>uP (δ:=g) (σ:=σ.C (ar σ.u (.d (δ.length+182)))) (⟨H.d,H.f,H.e,H.a⟩) (vJ I) D h hm K
 have t:=s▸(fV _ (aZ _ _))
 replace x:=s.symm▸x
 have J:g.length≠j.length:=by rw[s,aB,aB];exact Xx
 refine F (σ.E (.d (j.length+182)) 5) (ar (j.set g.length (.a [.e [.c 4,.c o],.e [.c 7,r],cb])) (rL σ.h m g.length 5 (σ.A+1))) (λK=>?_) (Up.p _ _ _) ?_ (H.i (by decide)) rfl rfl ?_
 ·have G:=x K
  exact bw [(4,ow ((λcl v=>w▸(Kn cl σ _ v (B▸rfl)):∀(cl:Call) (v:MV),dj cl (HS σ (ar δ (.a [.e [.c 4,.c o]]))) (.d 169) [v] .a=some (.f,HS (σ.C (ar σ.u v)) g)) (au Tb (K+8)) (MV.d (List.length (HS σ δ))))),(6,ow G),(9,ow ((λcl=>Ko cl ((σ.C (ar σ.u (.d (δ.length+182)))).E (.d (j.length+182)) 5) (ar j (rL σ.h m g.length 5 (σ.A+1))) σ.u (.d (δ.length+182)) rfl (B▸rfl)) (au Tb (K+8)))),(10,ov (hK (((σ.C (ar σ.u (MV.d (δ.length+182)))).E (MV.d (j.length+182)) 5).C σ.u) (fV (rL σ.h (↑m) g.length 5 (σ.A+1)) (s▸(fV _ (fV _ (w▸(aZ _ _)))))) 0 (MV.e [MV.c 4,MV.c o]) ⋯)),(11,ov (ed (((σ.C (ar σ.u (MV.d (δ.length+182)))).E (MV.d (j.length+182)) 5).C σ.u) (aZ j (rL σ.h (↑m) g.length 5 (σ.A+1))) 63 (MV.d (g.length+182)) ⋯)),(12,oh (Wy (Es (((σ.C (ar σ.u (MV.d (δ.length+182)))).E (MV.d (j.length+182)) 5).C σ.u) (fV (rL σ.h (↑m) g.length 5 (σ.A+1)) t) 0 (MV.e [MV.c 4,MV.c o]) ([MV.e [MV.c 4,MV.c o],MV.e [MV.c 4,MV.c 0],MV.e [MV.c 4,MV.c 0]]) ⋯) (Ft t (rL σ.h (↑m) g.length 5 (σ.A+1)) (MO.a [MV.e [MV.c 4,MV.c o],MV.e [MV.c 4,MV.c 0],MV.e [MV.c 4,MV.c 0]]) rfl))),(14,ov (ed (((σ.C (ar σ.u (MV.d (δ.length+182)))).E (MV.d (j.length+182)) 5).C σ.u) (h9 (j.set g.length (MO.a [MV.e [MV.c 4,MV.c o],MV.e [MV.c 4,MV.c 0],MV.e [MV.c 4,MV.c 0]])) (rL σ.h (↑m) g.length 5 (σ.A+1)) j.length (by simp[aB])) 63 (MV.d (g.length+182)) ⋯)),(15,oh (Wy (Es (((σ.C (ar σ.u (MV.d (δ.length+182)))).E (MV.d (j.length+182)) 5).C σ.u) (fV (rL σ.h (↑m) g.length 5 (σ.A+1)) (m6 (MO.a [MV.e [MV.c 4,MV.c o],MV.e [MV.c 4,MV.c 0],MV.e [MV.c 4,MV.c 0]]) t)) 1 (MV.e [MV.c 7,r]) ([MV.e [MV.c 4,MV.c o],MV.e [MV.c 7,r],MV.e [MV.c 4,MV.c 0]]) ⋯) (Ft (m6 (MO.a [MV.e [MV.c 4,MV.c o],MV.e [MV.c 4,MV.c 0],MV.e [MV.c 4,MV.c 0]]) t) (rL σ.h (↑m) g.length 5 (σ.A+1)) (MO.a [MV.e [MV.c 4,MV.c o],MV.e [MV.c 7,r],MV.e [MV.c 4,MV.c 0]]) (Oo j g.length (MO.a [MV.e [MV.c 4,MV.c o],MV.e [MV.c 4,MV.c 0],MV.e [MV.c 4,MV.c 0]]) (MO.a [MV.e [MV.c 4,MV.c o],MV.e [MV.c 7,r],MV.e [MV.c 4,MV.c 0]]))))),(16,ov (ed (((σ.C (ar σ.u (MV.d (δ.length+182)))).E (MV.d (j.length+182)) 5).C σ.u) (h9 (j.set g.length (MO.a [MV.e [MV.c 4,MV.c o],MV.e [MV.c 7,r],MV.e [MV.c 4,MV.c 0]])) (rL σ.h (↑m) g.length 5 (σ.A+1)) j.length (by simp[aB])) 63 (MV.d (g.length+182)) ⋯)),(17,oh (Wy (Es (((σ.C (ar σ.u (MV.d (δ.length+182)))).E (MV.d (j.length+182)) 5).C σ.u) (fV (rL σ.h (↑m) g.length 5 (σ.A+1)) (m6 (MO.a [MV.e [MV.c 4,MV.c o],MV.e [MV.c 7,r],MV.e [MV.c 4,MV.c 0]]) t)) 2 (MV.e [MV.c 4,MV.c 0]) ([MV.e [MV.c 4,MV.c o],MV.e [MV.c 7,r],MV.e [MV.c 4,MV.c 0]]) ⋯) (Ft (m6 (MO.a [MV.e [MV.c 4,MV.c o],MV.e [MV.c 7,r],MV.e [MV.c 4,MV.c 0]]) t) (rL σ.h (↑m) g.length 5 (σ.A+1)) (MO.a [MV.e [MV.c 4,MV.c o],MV.e [MV.c 7,r],MV.e [MV.c 4,MV.c 0]]) (Oo j g.length (MO.a [MV.e [MV.c 4,MV.c o],MV.e [MV.c 7,r],MV.e [MV.c 4,MV.c 0]]) (MO.a [MV.e [MV.c 4,MV.c o],MV.e [MV.c 7,r],MV.e [MV.c 4,MV.c 0]]))))),(18,ov (ed (((σ.C (ar σ.u (MV.d (δ.length+182)))).E (MV.d (j.length+182)) 5).C σ.u) (h9 (j.set g.length (MO.a [MV.e [MV.c 4,MV.c o],MV.e [MV.c 7,r],MV.e [MV.c 4,MV.c 0]])) (rL σ.h (↑m) g.length 5 (σ.A+1)) j.length (by simp[aB])) 71 (MV.c σ.h) ⋯))] ⋯
 ·refine Gw.e (Gw.q (b:=j) ?_ (by rw[w,aB];exact lG) _) (Gw.d _ _)
  rw[s,w]
  exact(Gw.d _ _).e ((Gw.d _ _).e (Gw.d _ _))
 ·refine⟨j.length,g.length,5,σ.A+1,lK (lJ H.k),h9 _ _ _ (by simp),fV _ ?_,?_,?_⟩
  ·exact cM (cJ t)
  ·rw[s,aB,aB,w,aB];exact Pm
  ·rw[w,aB];exact lG
end
end
section
theorem sY{all r:List MV}{v:MV}{k:Nat}{Ω:Prop}(h:all.drop k=v::r)(a:all[k]?=some v->all.drop (k+1)=r->Ω):Ω:=
 a (by have q:=List.getElem?_drop (xs:=all) (i:=k) (j:=0);rw[h] at q;exact q.symm) (Xe▸h▸rfl)
theorem Cv(k:Nat)(v:MV)(r:List MV):k+1+r.length=k+(v::r).length:=eZ▸(Nat.add_right_comm k 1 _)
section
variable{en:Bool}{body:Loc->Hp->Ex}{store:MV->Loc->Hp->Option (Loc×Hp)}{n:Nat}{all:List MV}{f:MV->Hp->Option (MV×Hp)}{Ω:Prop}
theorem tc(P:Nat->Loc->Hp->Prop)(m:∀k ρ μ,P k ρ μ->μ[n]?=some (.a all))
  (step:∀k v ρ μ (Ω:Prop),all[k]?=some v->P k ρ μ->(∀bu bF i j,store (cond en (.e [.c (k:Int),v]) v) ρ μ=some (bu,bF)->body bu bF=some (.a,i,j)->P (k+1) i j->Ω)->Ω):
  ∀(d:List MV) (k:Nat) (ρ:Loc) (μ:Hp),all.drop k=d->P k ρ μ->(∀ρ' g,EH en body store n all k d ρ μ=some (.a,ρ',g)->P (k+d.length) ρ' g->Ω)->Ω
 |[],k,ρ,μ,_,p,ω=>ω ρ μ (Dn (m k ρ μ p)) p
 |v::r,k,ρ,μ,h,p,ω=>sY h λu w=>step k v ρ μ _ u p λJ J i j q x p2=>tc P m step r (k+1) i j w p2 λρ' g s o=>
  ω ρ' g ((Dn (m k ρ μ p)).trans ((j_ q).trans ((NW x).trans s))) (Cv k v r▸o)
theorem xQ(P:Nat->Loc->Hp->Prop)
  (step:∀k v ρ μ (Ω:Prop),all[k]?=some v->P k ρ μ->(∀bu bF g i,store v ρ μ=some (bu,bF)->body bu bF=some (.a,g,i)->P (k+1) g i->Ω)->Ω):
  ∀(c:List MV) (k:Nat) (ρ:Loc) (μ:Hp),all.drop k=c->P k ρ μ->(∀ρ' d,qG body store c ρ μ=some (.a,ρ',d)->P (k+c.length) ρ' d->Ω)->Ω
 |[],_,ρ,μ,_,p,ω=>ω ρ μ rfl p
 |v::r,k,ρ,μ,h,p,ω=>sY h λq s=>step k v ρ μ _ q p λJ J g i m u p2=>xQ P step r (k+1) g i s p2 λρ' d o j=>
  ω ρ' d ((j_ m).trans ((NW u).trans o)) (Cv k v r▸j)
theorem Dr(q:List MV)(x:MV)(xs:List MV):ar q x++xs=q++x::xs:=cC ..
theorem tG(P:Nat->Hp->List MV->Prop)
  (step:∀k v μ q (Ω:Prop),all[k]?=some v->P k μ q->(∀x bF,f v μ=some (x,bF)->P (k+1) bF (ar q x)->Ω)->Ω):
  ∀(a:List MV) (k:Nat) (μ:Hp) (q:List MV),all.drop k=a->P k μ q->(∀xs c,ym f a μ=some (xs,c)->P (k+a.length) c (q++xs)->Ω)->Ω
 |[],_,μ,q,_,p,ω=>ω [] μ rfl ((d8 q).symm▸p)
 |v::r,k,μ,q,h,p,ω=>sY h λj m=>step k v μ q _ j p λx bF g p1=>tG P step r (k+1) bF (ar q x) m p1 λxs c i d=>
  ω (x::xs) c ((j_ g).trans (j_ i)) (Cv k v r▸Dr q x xs▸d)
theorem nA(P:Nat->Hp->List MV->Prop)(g:∀k μ q,P k μ q->μ[n]?=some (.a all))
  (step:∀k v μ q (Ω:Prop),all[k]?=some v->P k μ q->(∀x bF,f v μ=some (x,bF)->P (k+1) bF (ar q x)->Ω)->Ω):
  ∀(c:List MV) (k:Nat) (μ:Hp) (q:List MV),all.drop k=c->P k μ q->(∀xs d,uA f n all c μ=some (xs,d)->P (k+c.length) d (q++xs)->Ω)->Ω
 |[],k,μ,q,_,p,ω=>ω [] μ (Dn (g k μ q p)) ((d8 q).symm▸p)
 |v::r,k,μ,q,h,p,ω=>sY h λo s=>step k v μ q _ o p λx bF j p1=>nA P g step r (k+1) bF (ar q x) s p1 λxs d m i=>
  ω (x::xs) d ((Dn (g k μ q p)).trans ((j_ j).trans (j_ m))) (Cv k v r▸Dr q x xs▸i)
end
noncomputable def fH(F:k_)(i:Nat):MS:=(F.b[i]?).getD .c
noncomputable def jR(F:k_)(i j:Nat):MS:=match fH F i with
 | .g _ _ b=>(b[j]?).getD .c
 | .h _ b=>(b[j]?).getD .c
 |_=> .c
section
variable{T:Tab}{cl:Call}{fuel n:Nat}{t:MT}{e:ME}{b:List MS}{ρ:Loc}{μ bF:Hp}{l:List MV}{Ω:Prop}
theorem si(P:Nat->Loc->Hp->Prop)(m:aO T cl e ρ μ=some (.d n,bF))(i:∀k ρ μ,P k ρ μ->μ[n]?=some (.a l))(p:P 0 ρ bF)
  (step:∀k v ρ μ (Ω:Prop),l[k]?=some v->P k ρ μ->(∀bu bF h j,eY T cl t v ρ μ=some (bu,bF)->aY T cl fuel b bu bF=some (.a,h,j)->P (k+1) h j->Ω)->Ω) (r:∀ρ' c,bQ T cl fuel (.g t (.b e) b) ρ μ=some (.a,ρ',c)->P l.length ρ' c->Ω):Ω:=
 tc (en:=false) P i step l 0 ρ bF rfl p λρ' c q o=>r ρ' c ((j_ m).trans ((wu (i _ _ _ p)).trans q)) (cQ l.length▸o)
theorem Iz(P:Nat->Loc->Hp->Prop)(o:aO T cl e ρ μ=some (.d n,bF))(j:∀k ρ μ,P k ρ μ->μ[n]?=some (.a l))(p:P 0 ρ bF)
  (step:∀k v ρ μ (Ω:Prop),l[k]?=some v->P k ρ μ->(∀bu bF i m,eY T cl t (.e [.c (k:Int),v]) ρ μ=some (bu,bF)->aY T cl fuel b bu bF=some (.a,i,m)->P (k+1) i m->Ω)->Ω) (s:∀ρ' h,bQ T cl fuel (.g t (.c e) b) ρ μ=some (.a,ρ',h)->P l.length ρ' h->Ω):Ω:=
 tc (en:=true) P j step l 0 ρ bF rfl p λρ' h r q=>s ρ' h ((j_ o).trans ((wu (j _ _ _ p)).trans r)) (cQ l.length▸q)
theorem p7(h:(yW (n:Int))[k]?=some v):k<n/\v= .c (k:Int):=by
 unfold yW at h
 rw[aL] at h
 refine mm h λj hj e=>?_
 have q:=ax.mp hj
 have a:=q.2
 rw[List.getElem_range] at a
 exact⟨by simpa using q.1,e▸a▸rfl⟩
theorem sz(n:Nat):(yW (n:Int)).length=n:=by unfold yW;simp
theorem pN(P:Nat->Loc->Hp->Prop)(s:aO T cl e ρ μ=some (.c (n:Int),bF))(w:n<=1000)(p:P 0 ρ bF)
  (step:∀k ρ μ (Ω:Prop),k<n->P k ρ μ->(∀bu bF j m,eY T cl t (.c (k:Int)) ρ μ=some (bu,bF)->aY T cl fuel b bu bF=some (.a,j,m)->P (k+1) j m->Ω)->Ω) (h:∀ρ' d,bQ T cl fuel (.g t (.a e) b) ρ μ=some (.a,ρ',d)->P n ρ' d->Ω):Ω:=
 xQ (all:=yW (n:Int)) P (λk v ρ μ Ω r q h=>by
  obtain⟨o,rfl⟩:=p7 (n:=n) r
  exact step k ρ μ Ω o q h) _ 0 ρ bF rfl p λρ' d u i=>h ρ' d ((j_ s).trans ((j7 (AX w)).trans u)) (by rw[cQ,iC,sz] at i;exact i)
theorem ab0(d:aO T cl e ρ μ=some (.c ((1:Nat):Int),bF))(st:eY T cl t (.c ((0:Nat):Int)) ρ bF=some (bu,eh))(hb:aY T cl fuel b bu eh=some (.a,ρ',aG)):bQ T cl fuel (.g t (.a e) b) ρ μ=some (.a,ρ',aG):=
 (j_ d).trans ((j_ st).trans (NW hb))
theorem AE(c:aO T cl e ρ μ=some (.h false,eh)):bQ T cl (fuel+1) (.h e b) ρ μ=some (.a,ρ,eh):=j_ c
end
end
section
structure Inv (σ:St) (Γ:Cf) (n:Nat):Prop where
 a:WS σ Γ
 j:iQ σ n
 r:σ.R.length<=n
 F:∃i:Nat,σ.U=(i:Int)/\i<=n
 y:σ.z.length<=n
 L:σ.a.length<=n
 A:cV σ.B (.c 16)=some (.d 178)
 B:cV σ.B (.c 19)=some (.d 180)
 z:∀p∈σ.L,∃(t:Int) (o:Nat),p=(.c t,.d o)
 C:σ.L.length<=n
theorem ab5{R R':List Row}{j:Nat}{row:Row}(g:∃x,R'=R++x)(h:R[j]?=some row):R'[j]?=some row:=by obtain⟨x,rfl⟩:=g;exact l7 h
theorem Cb(g:∃x,R'=R++x)(h:cj R v k t):cj R' v k t:=by obtain⟨x,rfl⟩:=g;exact h.o x
theorem WS.B{σ σ':St}{Γ:Cf}(W:WS σ Γ)(u:Up σ σ')(k:KW σ'.R):WS σ' Γ:=
 u.C (P:=λs=>WS s Γ) ⟨k,ab5 u.j W.A,W.x,W.y,W.j,W.m,W.g,W.h,W.e,W.f,λd i l G=>by
  refine pM (W.v d i l G) λks kr E t F D=>?_
  exact⟨ks,kr,E,t,F.u λJ J q=>Cb u.j q,Cb u.j D⟩,W.p,W.w,W.z⟩
theorem Inv.U(I:Inv σ Γ n)(u:Up σ σ')(k:KW σ'.R)(e:iQ σ' m)(f:σ'.R.length<=m)(ix:∃i:Nat,σ'.U=(i:Int)/\i<=m)(hm:n<=m):Inv σ' Γ m:=
 ⟨I.a.B u k,e,f,ix,u.C (P:=λs=>s.z.length<=m) (aD I.y hm),u.C (P:=λs=>s.a.length<=m) (aD I.L hm),u.y _ _ I.A,u.y _ _ I.B,u.C (P:=λs=>∀p∈s.L,∃(t:Int) (o:Nat),p=(.c t,.d o)) I.z,u.C (P:=λs=>s.L.length<=m) (aD I.C hm)⟩
theorem Inv.N(I:Inv σ Γ n)(l:List MV):Inv (σ.C l) Γ n:=
 ⟨⟨I.a.r,I.a.A,I.a.x,I.a.y,I.a.j,I.a.m,I.a.g,I.a.h,I.a.e,I.a.f,I.a.v,I.a.p,I.a.w,I.a.z⟩,⟨I.j.d,I.j.f,I.j.e,I.j.a⟩,I.r,I.F,I.y,I.L,I.A,I.B,I.z,I.C⟩
theorem Up.r(u:Up σ σ'):σ'.u=σ.u:=u.C (P:=λs=>s.u=σ.u) rfl
theorem Up.E(u:Up (σ.C l) σ'):Up σ (σ'.C σ.u):=⟨have e:σ'.C σ.u=((σ.C l).up σ').C σ.u:=congrArg (St.C · σ.u) u.G;e,u.j,u.y⟩
theorem rU(H:iQ σ n)(δ:List MO)(h:cV σ.B (.c la)=some v):ez (HS σ δ) (.d 144) (.c la)=some v:=by
 delta ez;exact(MR ⋯).trans ((j7 (H.q _)).trans h)
theorem iQ.s(h:iQ σ n)(g:n<=m):iQ σ m:=⟨by have:=h.d;exact oH g this,by have:=h.f;exact oH g this,h.e,h.a⟩
theorem Inv.q(I:Inv σ Γ n)(g:n<=m):Inv σ Γ m:=
 I.U (Up.q σ) I.a.r (I.j.s g) (by have:=I.r;exact oH g this) (by refine cf I.F λi d e=>?_;exact⟨i,d,oH g e⟩) g
theorem Inv.Q(I:Inv σ Γ n)(u:Up σ σ')(d:σ'.R=σ.R)(f:σ'.U=σ.U)(e:iQ σ' m)(hm:n<=m):Inv σ' Γ m:=
 I.U u (d▸I.a.r) e (by rw[d];have:=I.r;exact oH hm this) (by rw[f];refine cf I.F λi h g=>?_;exact⟨i,h,oH hm g⟩) hm
theorem Up.R(h:∃x,R'=σ.R++x):Up σ (σ.r R'):=⟨rfl,h,λJ J h=>h⟩
theorem Inv.R(I:Inv σ Γ n)(g:dM σ.R R' c):Inv (σ.r R') Γ (n+c):=
 I.U (Up.R g.c) g.r ⟨by have:=I.j.d;show σ.J.length<=_;exact GH this,by have:=I.j.f;show σ.B.length<=_;exact GH this,I.j.e,I.j.a⟩ (by have m:=I.r;have l:=g.p;show R'.length<=_;exact S6 m l) (by refine cf I.F λi h k=>?_;exact⟨i,h,GH k⟩) XD
theorem Up.H:Up σ (σ.S t):=⟨rfl,kY _,λJ J h=>h⟩
section
variable{K b n:Nat}{σ:St}{δ:List MO}{c:l6}{o:Bool}{Γ:Cf}{row:Row}
theorem xW{e:Prop}(I:Inv σ Γ n)(i:n<=90000)(f:iP c)(B:rO σ.R b o)(k:∀R' j,(∀K δ,au Tb (K+6) 83 [.d 11,c.a b] (HS σ δ)=some (.c ((j+20:Nat):Int),HS (σ.r R') δ))->(R'[j]?=some (.d c b o))->(Up σ (σ.r R'))->(Inv (σ.r R') Γ (n+1))->e):e:=by
 refine wG I.a.r (by have:=I.r;exact GG i this) f B λR' j h p=>?_
 exact k R' j (λK δ=>h K (jq σ) (gj σ++δ)) p.b (Up.R p.c) (I.R p.g)
theorem UO{f:Prop}(I:Inv σ Γ n)(i:n<=90000)(k:∀R' j,(∀K δ,au Tb (K+6) 83 [.d 11,.e [.c 2,.c 6,.e []]] (HS σ δ)=some (.c ((j+20:Nat):Int),HS (σ.r R') δ))->(R'[j]?=some .e)->(Up σ (σ.r R'))->(Inv (σ.r R') Γ (n+1))->f):f:=by
 refine Dh (row:= .e) I.a.r (by have:=I.r;exact GG i this) (.inr rfl) λR' j h p=>?_
 exact k R' j (λK δ=>h K (jq σ) (gj σ++δ)) p.b (Up.R p.c) (I.R p.g)
theorem HB{h:Prop}(I:Inv σ Γ n)(g:n<=80000)(m:∀a R' i j,(∀K δ,au Tb (K+7) 146 [.d 11,.c 6,.e []] (HS σ δ)=some (.c ((i+20:Nat):Int),HS (σ.r a) δ))->(∀K δ,au Tb (K+7) 160 [.d 11,.c ((i+20:Nat):Int)] (HS (σ.r a) δ)=some (.c ((j+20:Nat):Int),HS (σ.r R') δ))->((b9 R')[j+20]?=some (.e [.c 4,.c ((i+20:Nat):Int)]))->(Up σ (σ.r R'))->(Inv (σ.r R') Γ (n+2))->h):h:=by
 refine UO I (AZ g) λa i s a1 l k=>?_
 refine xW (c:= .f) (b:=i+20) (o:=false) k (Pj g) .c (zj a1 (by have:a.length<=n+1:=k.r;exact(aD this (eK (aM g _)))) (.inr rfl)) λR' j p a2 q t=>?_
 refine m a R' i j (λK δ=>?_) (λK δ=>?_) (gh a2) (l.f q) t
 ·have e:=s K δ
  exact bw [(4,ow e)] ⋯
 ·have e:=p K δ
  exact bw [(2,ow e)] ⋯
theorem adI{i m:Nat}{v:MV}(σ:St)(h:δ[i]?=some (.a [v]))(hm:m<=1000):dE (HS σ δ) .c (.d (i+182)) (.c (m:Int))=some (.d (δ.length+182),HS σ (ar δ (.a (bt m v)))):=by
 unfold dE Vq;dsimp only[iv];rw[wu (by rw[df];exact h)]
 refine(j7 (AX hm)).trans ?_
 rw[kG,kF];rfl
theorem Mg:au Tb (K+4) 657 [.d 148,.c ((i+20:Nat):Int)] (HS σ δ)=some (cb,HS σ δ):=by
 have o2:∀μ,ct μ .d (.c ((i+20:Nat):Int)) (.c 8)=some false:=λμ=>qO (y:=8) (by simp<;>omega)
 have o3:∀μ,ct μ .a (.c ((i+20:Nat):Int)) (.c 9)=some false:=oj (c:=9) (dJ (bk (by decide) (eU _ _)))
 have f:∀μ,ct μ .a (.c ((i+20:Nat):Int)) (.c 10)=some false:=oj (c:=10) (dJ (bk (by decide) (eU _ _)))
 have e:∀μ,ct μ .a (.c ((i+20:Nat):Int)) (.c 11)=some false:=oj (c:=11) (dJ (bk (by decide) (eU _ _)))
 have g:au Tb (K+2) 664 [.d 148,.c ((i+20:Nat):Int)] (HS σ δ)=some (.c ((i+20:Nat):Int),HS σ δ):=pY (K:=K+1) (m:=i+20) xm
 exact bw [(0,ow (bw [(7,ow (bw [(0,oq ((λμ=>qO (x:=1) (rfl):∀μ,ct μ .d (.c 1) (.c ((i+20:Nat):Int))=some true) (HS σ δ)))] ⋯:au Tb (K+2) 343 [.c ((i+20:Nat):Int)] (HS σ δ)=some (cb,HS σ δ)))] ⋯:au Tb (K+3) 823 [.d 148,.c ((i+20:Nat):Int)] (HS σ δ)=some (cb,HS σ δ)))] ⋯
theorem Fp{i j m:Nat}(f:σ.R.length<=100000)(h:(b9 σ.R)[j+20]?=some (.e [.c 4,.c ((i+20:Nat):Int)]))(hm:m<=1000):au Tb (K+8) 886 [.d 148,.c ((j+20:Nat):Int),.c (m:Int)] (HS σ δ)=some (.d ((ar δ (.a [cb])).length+182),HS σ (ar (ar δ (.a [cb])) (.a (bt m cb)))):=by
 have g:∀μ,ct μ .a (.c ((j+20:Nat):Int)) (.c 13)=some false:=oj (c:=13) (dJ (bk (by decide) (eU _ _)))
 exact bw [(3,ow ((pP f h (eU _ _) false (.inr (.inr ⟨rfl,rfl⟩))) (K+5) σ δ ⋯)),(6,ow ((IP f h) (K+5) σ δ ⋯)),(11,ow (bw [(1,ow (mN (k:=K+5) (a:=jq σ) (z:=gj σ++δ) h f))] ⋯:au Tb (K+7) 174 [.d 11,.c ((j+20:Nat):Int)] (HS σ δ)=some (.c ((i+20:Nat):Int),HS σ δ))),(12,ow (Mg (K:=K+3) (σ:=σ) (δ:=δ) (i:=i))),(14,ow (adI (m:=m) σ (aZ δ (.a [cb])) hm))] ⋯
end
end
section
theorem p_{a:Type}{δ:List a}{i:Nat}{o:a}(h:δ[i]?=some o):δ.set i o=δ:=by
 obtain⟨b,e⟩:=ax.mp h
 exact e▸(List.set_getElem_self b)
section
variable{K i k n m:Nat}{σ:St}{δ:List MO}{l:List MV}{v:MV}{Γ:Cf}
theorem Bl(σ:St)(h:δ[i]?=some (.a l))(e:k<l.length)(b:l.length<=1000)(v:MV):p9 (HS σ δ) (.d (i+182)) (.c (k:Int)) v=some (HS σ (δ.set i (.a (l.set k v)))):=by
 refine(UX (by rw[df];exact h)).trans ((RA _).trans ((j7 ⟨Sl,Ph e,rA b⟩).trans ?_))
 rw[ti];rfl
theorem jZ(σ:St)(h:δ[i]?=some (.a l))(b:l[k]?=some v)(e:k<100000):ez (HS σ δ) (.d (i+182)) (.c (k:Int))=some v:=
 gn (by rw[df];exact h) b (eK e)
theorem hJ(σ:St)(h:δ[i]?=some (.a l))(b:l.length<=1000):mw (HS σ δ) (.d (i+182))=some (.c (l.length:Nat)):=
 ly (by rw[df];exact h) (rA b)
theorem Ec(H:iQ σ n)(o:n<=100000)(g:σ.R.length<=100000)(h:(b9 σ.R)[j+20]?=some (.e [.c 4,.c ((p+20:Nat):Int)]))(hm:m<=1000)(b:1<=m):
  au Tb (K+10) 755 [.d 148,.c ((j+20:Nat):Int),.c (m:Int)] (HS σ δ)=some (.d ((ar (ar δ (.a [cb])) (.a (bt m cb))).length+182),HS (σ.E (.d ((ar (ar δ (.a [cb])) (.a (bt m cb))).length+182)) ((2:Int)+(m:Int))) (ar (ar (ar δ (.a [cb])) (.a (bt m cb))) (rL σ.h ((j+20:Nat):Int) (ar δ (.a [cb])).length ((2:Int)+(m:Int)) (σ.A+1)))):=by
 have f:∀μ,au Tb (K+5+1) 265 [.c ((bt m cb).length:Nat)] μ=some (.c ((2:Int)+(m:Int)),μ):=λμ=>by
  exact oP▸(K0 (by show some (decide ((2:Int)+(m:Int)<3))=_;rw[decide_eq_false (Xs hm b)]))
 exact bw [(0,ow (bw [(4,ow (Fp (δ:=δ) (K:=K) g h hm)),(5,ow (pC (K:=K+5) (kk:=((j+20:Nat):Int)) (w:=(2:Int)+(m:Int)) (j:=(ar δ (.a [cb])).length) (l:=bt m cb) H o (δ:=ar (ar δ (.a [cb])) (.a (bt m cb))) (aZ _ _) f (bx (by rw[oP];unfold bA;exact(eK hm)))))] ⋯:au Tb (K+9) 893 [.d 148,.c ((j+20:Nat):Int),.c (m:Int)] (HS σ δ)=some (.d ((ar (ar δ (.a [cb])) (.a (bt m cb))).length+182),HS (σ.E (.d ((ar (ar δ (.a [cb])) (.a (bt m cb))).length+182)) ((2:Int)+(m:Int))) (ar (ar (ar δ (.a [cb])) (.a (bt m cb))) (rL σ.h ((j+20:Nat):Int) (ar δ (.a [cb])).length ((2:Int)+(m:Int)) (σ.A+1))))))] ⋯
noncomputable def lA:MV->MV:=λa=> .e [.c 4,a]
theorem NC{f:Prop}(r:δ[q]?=some (.a l))(j:l.length<=5)(h:1<=l.length)(o:∀x,(bQ Tb (au Tb K) K (fH Bw 1) [(103,.d 148),(62,kk),(178,.d (q+182)),(171,.d (δ.length+182))] (HS σ (ar δ (.a [])))=some (.a,[(103,.d 148),(62,kk),(178,.d (q+182)),(171,.d (δ.length+182)),(71,x)],HS σ (ar δ (.a (l.map lA)))))->f):f:=by
 refine si (T:=Tb) (cl:=au Tb K) (fuel:=K) (t:= .b 71) (e:= .d 178) (b:=[.d (.n (.d 171) 0 [.l [.g (.c 4),.d 71]])]) (ρ:=[(103,.d 148),(62,kk),(178,.d (q+182)),(171,.d (δ.length+182))]) (μ:=HS σ (ar δ (.a []))) (bF:=HS σ (ar δ (.a []))) (n:=q+182) (l:=l)
  (λk ρ μ=>(k=0/\ρ=[(103,.d 148),(62,kk),(178,.d (q+182)),(171,.d (δ.length+182))]\/∃x,ρ=[(103,.d 148),(62,kk),(178,.d (q+182)),(171,.d (δ.length+182)),(71,x)])/\μ=HS σ (ar δ (.a ((l.take k).map lA)))) rfl
  (λk ρ μ p=>by rw[p.2,df];exact fV _ r) ⟨.inl ⟨rfl,rfl⟩,rfl⟩
  (λk v ρ μ f s p u=>by
   refine u ([(103,.d 148),(62,kk),(178,.d (q+182)),(171,.d (δ.length+182)),(71,v)]) μ ([(103,.d 148),(62,kk),(178,.d (q+182)),(171,.d (δ.length+182)),(71,v)]) (HS σ (ar δ (.a ((l.take (k+1)).map lA)))) ?_ ?_ ⟨.inr ⟨v,rfl⟩,rfl⟩
   ·rcases p.1 with⟨_,rfl⟩|⟨x,rfl⟩<;>rfl
   ·rw[p.2]
    have y:(l.take (k+1)).map lA=ar ((l.take k).map lA) (lA v):=by
     rw[List.take_succ,s];simp[ar]
    exact y▸(eD [(0,oc (jF σ (aZ δ (MO.a (m7 lA (hY k l)))))),(2,ow (Ri (ky (au Tb K) σ (aZ δ (MO.a (m7 lA (hY k l)))) (MV.e [MV.c 4,v]) (bx (by simp;unfold bA;exact Xz j h))) (dK δ (MO.a (m7 lA (hY k l))) (MO.a (ar (m7 lA (hY k l)) (MV.e [MV.c 4,v]))))))] ⋯)) λρ' z e p=>?_
 rcases p.1 with⟨w,_⟩|⟨x,rfl⟩
 ·(exfalso;exact S7 j h w)
 ·refine o x ?_
  rw[show fH Bw 1= .g (.b 71) (.b (.d 178)) [.d (.n (.d 171) 0 [.l [.g (.c 4),.d 71]])] from ⋯,e,p.2,eC]
end
end
section
theorem uN{R x:List Row}{i:Nat}{v:MV}(h:(b9 R)[i]?=some v):(b9 (R++x))[i]?=some v:=by
 rw[b9,d9];exact m8 h
section
variable{K n m:Nat}{σ:St}{δ:List MO}{l:List MV}{v:MV}{Γ:Cf}
theorem ND{u:Prop}{h o s:Nat}{z:List MV}{a0 a1 a2 a3:MV}{ad kk w sn:Int}(H:δ[h]?=some (.a l))(F:δ[o]?=some (rL ad kk s w sn))(D:δ[s]?=some (.a z))(i:z.length=l.length)(M:l.length<=5)(L:1<=l.length)(hsh:s≠h)(A:s≠o)(E:∀x y,(bQ Tb (au Tb K) K (fH Bw 4) [(103,a0),(62,a1),(178,a2),(171,.d (h+182)),(71,a3),(48,.d (o+182))] (HS σ δ)=some (.a,[(103,a0),(62,a1),(178,a2),(171,.d (h+182)),(71,a3),(48,.d (o+182)),(182,x),(91,y)],HS σ (δ.set s (.a l))))->u):u:=by
 refine Iz (T:=Tb) (cl:=au Tb K) (fuel:=K) (t:= .c [182,91]) (e:= .d 171) (b:=[.f (.d (.k (.d 48) 63) (.d 182)) (.d 91)]) (ρ:=[(103,a0),(62,a1),(178,a2),(171,.d (h+182)),(71,a3),(48,.d (o+182))]) (μ:=HS σ δ) (bF:=HS σ δ) (n:=h+182) (l:=l)
  (λk ρ μ=>(k=0/\ρ=[(103,a0),(62,a1),(178,a2),(171,.d (h+182)),(71,a3),(48,.d (o+182))]\/∃x y,ρ=[(103,a0),(62,a1),(178,a2),(171,.d (h+182)),(71,a3),(48,.d (o+182)),(182,x),(91,y)])/\∃r,r.length=l.length/\r.take k=l.take k/\μ=HS σ (δ.set s (.a r))) rfl
  (λk ρ μ p=>by
   obtain⟨_,r,_,_,rfl⟩:=p
   rw[df];exact jg _ _ hsh H) ⟨.inl ⟨rfl,rfl⟩,z,i,rfl,by rw[p_ D]⟩
  (λk v ρ μ u C p I=>by
   obtain⟨p1,r,i,j,rfl⟩:=p
   have B:=(ax.mp C).1
   refine I ([(103,a0),(62,a1),(178,a2),(171,.d (h+182)),(71,a3),(48,.d (o+182)),(182,.c k),(91,v)]) (HS σ (δ.set s (.a r))) ([(103,a0),(62,a1),(178,a2),(171,.d (h+182)),(71,a3),(48,.d (o+182)),(182,.c k),(91,v)]) (HS σ (δ.set s (.a (r.set k v)))) ?_ ?_ ⟨.inr ⟨_,v,rfl⟩,r.set k v,by simp[i],?_,rfl⟩
   ·rcases p1 with⟨_,rfl⟩|⟨x,y,rfl⟩<;>rfl
   ·have q:=Bl σ (m6 (MO.a r) D) (i▸B) (by omega) v
    rw[jy] at q
    exact eD [(0,ov (ed σ (jg s (MO.a r) (AV A) F) 63 (MV.d (s+182)) ⋯)),(1,oh q)] ⋯
   ·rw[f7,f7,C,List.take_set_of_le (aC _),j]
    simp[i,B]) λρ' J e p=>?_
 obtain⟨p1,r,i,j,rfl⟩:=p
 rcases p1 with⟨N,_⟩|⟨x,y,rfl⟩
 ·(exfalso;omega)
 ·refine E x y ?_
  have:r=l:=by
   have G:=eC (l:=l)
   have q:=i▸eC
   rw[<-q,j,G]
  refine rQ this ?_
  rw[show fH Bw 4= .g (.c [182,91]) (.c (.d 171)) [.f (.d (.k (.d 48) 63) (.d 182)) (.d 91)] from ⋯,e]
theorem NF{Ω:Prop}(I:Inv σ Γ n)(P:σ.u=[])(hn:n<=70000){kk q:Nat}{ll:List MV}(h:(b9 σ.R)[kk]?=some (.e (.c 2::ll)))(hm:15<=kk)(hq:δ[q]?=some (.a l))(O:l.length<=5)(T:1<=l.length)
  {la:Int} (hla:l[l.length - 1]?=some (.c la)) {s0 s1 s2:MV} {b:Nat} (hT:iq σ δ b la kk [s0,s1,s2]) (bJ:∀σ' aX ca ra jk,(au Tb (K+12) 1047 [.d 148,.c (kk:Int),.d (q+182)] (HS σ δ)=some (.c ca,HS σ' aX))->(Up σ σ')->(Gw δ aX)->(Inv σ' Γ (n+4))->(iq σ' aX δ.length ca kk [s0,s1,.e [.c 4,.c ra]])->(iq σ' aX δ.length ra jk (l.map lA))->(0<ra)->Ω):Ω:=by
 refine NC (K:=K+11) (σ:=σ) (kk:= .c (kk:Int)) hq O T λx1 e1=>?_
 refine b6 (ar δ (.a (l.map lA))) λd1 S=>?_
 refine b6 (σ.C (ar σ.u (.d (δ.length+182)))) λdA i7=>?_
 rw[<-S] at e1
 refine HB (i7▸(I.N _)) (xr hn) λR1 R' p j k1 k2 hr u1 I3=>?_
 refine b6 (dA.r R1) λdT ja=>?_
 refine b6 (dA.r R') λw lx=>?_
 rw[<-lx] at u1 I3
 have hR3:w.R=R':=lx▸rfl
 rw[<-hR3] at hr
 have gq1:=S▸(fV _ hq)
 refine b6 (ar (ar d1 (.a [cb])) (.a (bt l.length cb))) λd2 H=>?_
 refine b6 ((ar d1 (.a [cb])).length) λs hs=>?_
 refine b6 (ar d2 (rL w.h ((j+20:Nat):Int) s ((2:Int)+(l.length:Int)) (w.A+1))) λd3 V=>?_
 refine b6 (w.E (.d (d2.length+182)) ((2:Int)+(l.length:Int))) λG EO=>?_
 have gs3:=V▸H▸(fV _ (h9 _ _ _ hs.symm))
 have UJ:=V▸(h9 _ _ _ rfl)
 have w12:Gw d1 d3:=by rw[V,H];exact(Gw.d _ _).e ((Gw.d _ _).e (Gw.d _ _))
 have gh3:=w12.2 _ _ (S▸(h9 _ _ _ rfl))
 have sj:s≠δ.length:=by rw[hs,aB,S,aB];exact Pq
 have hnt:s≠d2.length:=by rw[hs,H];simp only[aB];exact(gw (dh _))
 refine ND (K:=K+11) (σ:=G) (a0:= .d 148) (a1:= .c (kk:Int)) (a2:= .d (q+182)) (a3:=x1) gh3 UJ gs3 (by simp) (by simpa using O) (by simpa using T) sj hnt λx2 y2 e2=>?_
 refine b6 (d3.set s (.a (l.map lA))) λd4 Z=>?_
 rw[<-Z] at e2
 have gt4:=Z▸(jg _ _ hnt UJ)
 have gh4:=Z▸(jg _ _ sj gh3)
 have gs4:=Z▸(m6 _ gs3)
 refine b6 (d4.set δ.length (.a (ar (l.map lA) (.e [.c 4,.c w.h])))) λg U=>?_
 have I4:Inv G Γ (n+3):=EO▸(I3.Q (Up.p _ _ _) rfl rfl (I3.j.i (cw.mpr (gz [_] 0 (2+V0.A) .z rfl))) (cN _))
 have u4:=u1.f (EO▸(Up.p _ _ _))
 have h4:(b9 G.R)[kk]?=some (.e (.c 2::ll)):=by
  refine dG u4.j λx hx=>?_
  exact hx▸(uN (i7▸h))
 refine b6 (ar (ar g (.a [cb,cb,cb])) (.b [])) λd6 X=>?_
 refine b6 (ar d6 (rL G.h (kk:Int) g.length 5 (G.A+1))) λF Ru=>?_
 refine b6 (G.E (.d (d6.length+182)) 5) λXb EP=>?_
 have c4:=EP▸Ru▸X▸(uP (δ:=g) I4.j (eK (aM hn _)) (by have:=I4.r;exact(aD this (eK (aM hn _)))) h4 hm (K+3))
 have J:=Ru▸X▸(fV _ (fV _ (h9 _ _ _ rfl)))
 have L:=Ru▸(h9 _ _ _ rfl)
 have gh7:=Ru▸X▸(fV _ (fV _ (fV _ (U▸(m6 _ gh4)))))
 have gt7':F[d2.length]?=some (rL w.h ((j+20:Nat):Int) s ((2:Int)+(l.length:Int)) (w.A+1)):=by
  rw[Ru,X,U];exact fV _ (fV _ (fV _ (jg _ _ (by rw[H,aB,aB,S,aB];exact XC) gt4)))
 refine b6 (Xb.C σ.u) λt Nb=>?_
 have o3:∀cl,dj cl (HS Xb F) (.d 169) [] .d=some (.d (δ.length+182),HS t F):=λcl=>by
  exact Nb▸(Ko cl Xb F σ.u _ (by rw[EP];show G.u=_;rw[u4.r,i7]) (P▸rfl))
 have u5:=u4.f (EP▸(Up.p _ _ _))
 have u6:Up σ t:=by rw[Nb];rw[i7] at u5;exact u5.E
 have I6:=Nb▸((EP▸(I4.Q (Up.p _ _ _) rfl rfl (I4.j.i (by decide)) S8)).N _)
 have M:=cJ hq
 have gq7:F[q]?=some (.a l):=by
  rw[Ru,X,U];exact fV _ (fV _ (fV _ (jg _ _ (sM M) (Z▸(jg _ _ (by rw[hs,aB,S,aB];exact(λP=>bZ [_,_] (.o (V0.A+1) V0.B (.e (V0.B+1+1) V0.A .z)) rfl M P)) (w12.2 _ _ gq1))))))
 have ln6:=hJ t gq7 (A4 O T)
 have Y:Gw δ F:=by
  rw[Ru,X,U,Z]
  refine(Gw.q (Gw.q ?_ ?_ _) ?_ _).e ((Gw.d _ _).e ((Gw.d _ _).e (Gw.d _ _)))
  ·exact Gw.e (S▸(Gw.d _ _)) w12
  ·rw[hs,aB,S,aB];exact A1
  ·exact AY
 have zQ:(ar (l.map lA) (.e [.c 4,.c w.h]))[l.length - 1]?=some (.e [.c 4,.c la]):=by
  unfold ar
  rw[aJ (by simp;exact XB O T),aL,hla];rfl
 have x6:ez (HS t F) (.d (δ.length+182)) (.c ((l.length:Int) - 1))=some (.e [.c 4,.c la]):=by
  have:=jZ t gh7 zQ (XA O T)
  rw[show((l.length - 1:Nat):Int)=(l.length:Int) - 1 from(Int.ofNat_sub T)] at this;exact this
 obtain⟨ol,sl,wl,nl,t1,t2,t3,_,_⟩:=hT.i u6 Y
 have n6:=rU I6.j F t1
 have W:δ.length<g.length:=by rw[U,Z];simp;exact cJ gh3
 have Lsl:sl≠g.length:=by
  obtain⟨o',s',w',n',p1,p2,p3,_,_⟩:=hT
  have:=u6.y _ _ p1
  replace this:=t1▸this
  have e:ol=o':=by cases this;rfl
  cases e
  have:=Y.2 _ _ p2
  replace this:=t2▸this
  have e:sl=s':=by cases this;rfl
  have:=cJ p3
  exact(λP=>bZ [_,_,_,_] (.o (V0.A+1) V0.B (.e V0.C V0.D (.o (V0.D+1) V0.A (.f V0.B V0.C .z)))) rfl W e this P)
 have Lq:=XH M W
 have Lh:=xp W
 have Ls1:sl≠δ.length:=by
  obtain⟨o',s',w',n',p1,p2,p3,_,_⟩:=hT
  have:=u6.y _ _ p1
  rw[t1] at this
  have e:ol=o':=by cases this;rfl
  subst e
  have:=Y.2 _ _ p2
  have this:=t2▸this
  have e:sl=s':=by cases this;rfl
  have:=cJ p3
  exact(λP=>bZ [_,_,_] (.e V0.A V0.B (.o (V0.B+1) V0.C (.f V0.C V0.A .z))) rfl e this P)
 have L6:d6.length≠g.length:=by rw[X,aB,aB];exact Pq
 have L2:d2.length≠g.length:=by rw[U,Z];have:=cJ UJ;simp;exact(gw this)
 have x9:ez (HS t (F.set g.length (.a [s0,s1,cb]))) (.d (δ.length+182)) (.c (l.length:Int))=some (.e [.c 4,.c w.h]):=
  jZ t (jg _ _ (sM W) gh7) ((show l.length=(l.map lA).length from by simp)▸(aZ _ _)) (rH O)
 have ln9:=hJ t (jg (δ:=F) (i:=q) g.length (.a [s0,s1,cb]) (λP=>bZ [_,_,_] (.o (V0.A+1) V0.B (.o (V0.B+1) V0.C (.e V0.C V0.A .z))) rfl M W P) gq7) (A4 O T)
 have Lo:ol≠g.length:=by
  intro e
  replace t2:=J▸e▸t2;cases t2
 have wF:Gw δ (F.set g.length (.a [s0,s1,.e [.c 4,.c w.h]])):=Gw.q Y (Pp W) _
 have t5:cV Xb.B (.c w.h)=some (.d (d2.length+182)):=EP▸(oI (EO▸(lK (lJ I3.j.k))))
 have t6:cV Xb.B (.c G.h)=some (.d (d6.length+182)):=EP▸(lK (lJ I4.j.k))
 have a56:t.B=Xb.B:=Nb▸rfl
 have gs8:F[s]?=some (.a (l.map lA)):=by
  rw[Ru,X,U];exact fV _ (fV _ (fV _ (jg _ _ (cH sj) gs4)))
 have Ls:s≠g.length:=by have:=cJ gs4;exact XF hs (U▸fY▸rfl) this
 exact bJ t _ G.h w.h ((j+20:Nat):Int) (bw [(1,os e1),(3,ow ((λcl=>i7▸(Kn cl σ d1 _ (P▸rfl))) (au Tb (K+11)))),(8,ow (ja▸(k1 (K+4) d1))),(9,ow (ja▸lx▸(k2 (K+4) d1))),(10,ov (hJ w gq1 (A4 O T))),(11,ow (EO▸V▸hs▸H▸(Ec (K:=K+1) I3.j (eK (aM hn _)) (by have:=I3.r;exact(aD this (eK (aM hn _)))) hr (A4 O T) T))),(11,os e2),(11,oc (jF G gh4)),(12,ov (ed G gt4 71 (MV.c w.h) ⋯)),(14,ow ((λcl=>U▸(ky cl G gh4 _ (bx (by simp;unfold bA;exact(eK O))))) (au Tb (K+11)))),(16,ow c4),(19,ow (o3 (au Tb (K+11)))),(22,ov ln6),(24,ov x6),(26,ov n6),(27,ov (ed t t2 63 (MV.d (sl+182)) ⋯)),(28,ov (hK t t3 0 s0 ⋯)),(29,ov (ed t L 63 (MV.d (g.length+182)) ⋯)),(30,oh (Es t J 0 s0 ([s0,MV.e [MV.c 4,MV.c 0],MV.e [MV.c 4,MV.c 0]]) ⋯)),(31,ov (ed t (jg g.length (MO.a [s0,MV.e [MV.c 4,MV.c 0],MV.e [MV.c 4,MV.c 0]]) Lo.symm t2) 63 (MV.d (sl+182)) ⋯)),(32,ov (hK t (jg g.length (MO.a [s0,MV.e [MV.c 4,MV.c 0],MV.e [MV.c 4,MV.c 0]]) (XG M W Lsl Lq Lh Ls1 L6 L2 Lo) t3) 1 s1 ⋯)),(33,ov (ed t (jg g.length (MO.a [s0,MV.e [MV.c 4,MV.c 0],MV.e [MV.c 4,MV.c 0]]) (GI L6 L2 Lo) L) 63 (MV.d (g.length+182)) ⋯)),(34,oh (Wy (Es t (m6 (MO.a [s0,MV.e [MV.c 4,MV.c 0],MV.e [MV.c 4,MV.c 0]]) J) 1 s1 ([s0,s1,MV.e [MV.c 4,MV.c 0]]) ⋯) (Oo F g.length (MO.a [s0,MV.e [MV.c 4,MV.c 0],MV.e [MV.c 4,MV.c 0]]) (MO.a [s0,s1,MV.e [MV.c 4,MV.c 0]])))),(35,ov ln9),(36,ov x9),(37,ov (ed t (jg g.length (MO.a [s0,s1,MV.e [MV.c 4,MV.c 0]]) (GI L6 L2 Lo) L) 63 (MV.d (g.length+182)) ⋯)),(38,oh (Wy (Es t (m6 (MO.a [s0,s1,MV.e [MV.c 4,MV.c 0]]) J) 2 (MV.e [MV.c 4,MV.c w.h]) ([s0,s1,MV.e [MV.c 4,MV.c w.h]]) ⋯) (Oo F g.length (MO.a [s0,s1,MV.e [MV.c 4,MV.c 0]]) (MO.a [s0,s1,MV.e [MV.c 4,MV.c w.h]])))),(39,ov (ed t (jg g.length (MO.a [s0,s1,MV.e [MV.c 4,MV.c w.h]]) (GI L6 L2 Lo) L) 71 (MV.c G.h) ⋯))] ⋯) u6 wF I6 ⟨d6.length,g.length,5,G.A+1,a56▸t6,jg _ _ (cH L6) L,m6 _ J,by rw[X,aB,aB];exact(bN [_,_] V0.A (V0.B+1+1) (.o (V0.A+1) V0.B .z) rfl W),Pp W⟩ ⟨d2.length,s,_,_,a56▸t5,jg _ _ (cH L2) gt7',jg _ _ (cH Ls) gs8,by rw[H,aB,aB,S,aB];exact Pm,by rw[hs,aB,S,aB];exact A1⟩ I3.j.a
end
end
section
noncomputable abbrev Gf(t:Nat):Nat:=11*t - 679
section
variable{K n m t:Nat}{s:Int}{σ:St}{δ:List MO}{l:List MV}{v x:MV}{Γ:Cf}{R:List Row}
theorem Cc(b:R.length<=100000)(h:(b9 R)[m]?=some r)(K:Nat)(σ:St)(δ:List MO)(e:σ.R=R):au Tb (K+1) 76 [.d 11,.c (m:Int)] (HS σ δ)=some (r,HS σ δ):=by
 subst e;exact mN (k:=K) (a:=jq σ) (z:=gj σ++δ) h b
structure i3 (R:List Row) (m:Nat) (s:Int) (t:Nat) (w:MV):Prop where
 a:(b9 R)[m]?=some (.e [.c s,.c (t:Int),w])
 d:s=2\/s=3
 e:64<=t
 f:t<=68
 b:15<=m
theorem i3.c{R x:List Row}{m:Nat}{s:Int}{t:Nat}{w:MV}(h:i3 R m s t w):i3 (R++x) m s t w:=⟨uN h.a,h.d,h.e,h.f,h.b⟩
theorem IS(b:R.length<=100000)(h:i3 R m s t w)(K:Nat)(σ:St)(δ:List MO)(g:σ.R=R):au Tb (K+3) 998 [.d 10,.c (m:Int)] (HS σ δ)=some (.d (Gf t),HS σ δ):=by
 have e:=IQ b h.a h.d K σ δ g
 have i:=Po h.e h.f
 rcases i with rfl|rfl|rfl|rfl|rfl
 ·exact bw [(1,ow e)] ⋯
 ·exact bw [(1,ow e)] ⋯
 ·exact bw [(1,ow e)] ⋯
 ·exact bw [(1,ow e)] ⋯
 ·exact bw [(1,ow e)] ⋯
theorem tw(H:iQ σ n)(k:σ.R.length<=100000)(h:i3 σ.R m s t w)(f:t<=65)(j:fM σ δ b ad m)(K:Nat):au Tb (K+4) 1061 [.d 148,.c ad] (HS σ δ)=some (.h true,HS σ δ):=by
 have e:=IS k h
 refine j.a λo p i=>?_
 have g:=rU H δ p
 have f:=nx h.e λh=>aR f h
 rcases f with rfl|rfl
 ·exact bw [(3,ov g),(4,ov i),(5,ow (e K σ δ ⋯))] ⋯
 ·exact bw [(3,ov g),(4,ov i),(5,ow (e K σ δ ⋯))] ⋯
end
end
section
section
variable{K n m t b:Nat}{s:Int}{σ:St}{δ aX:List MO}{l:List MV}{v x:MV}{Γ:Cf}{R:List Row}{ad:Int}
theorem fM.e(h:fM σ δ b ad kk)(g:Gw δ aX):fM σ aX b ad kk:=h.d (S:=λJ=>False) (λJ J h=>h) g.f λJ h=>h.elim
theorem iq.f(h:iq σ δ b ad kk l)(g:Gw δ aX):iq σ aX b ad kk l:=h.d (S:=λJ=>False) (λJ J h=>h) g.f λJ h=>h.elim
theorem Oc(H:iQ σ n)(δ:List MO)(h:cV σ.B (.c ad)=some v):ct (HS σ δ) .c (.c ad) (.d 144)=some false:=by
 have:inV (HS σ δ) (.c ad) (.d 144)=some true:=(dcI ⋯).trans ((j7 (H.q _)).trans (h▸rfl))
 exact mI this
theorem Jv{kk:Int}{s0 s1:MV}(H:iQ σ n)(g:iq σ δ b ad kk [s0,s1,cb])(K:Nat):au Tb (K+1) 1054 [.d 148,.c ad] (HS σ δ)=some (.d (δ.length+182),HS σ (ar δ (.a [.c ad]))):=by
 obtain⟨o,s,w,j,h,f,i,_,_⟩:=g
 exact bw [(2,ov (rU H δ h)),(3,ov (ed σ f 63 (MV.d (s+182)) ⋯)),(4,ov (hK σ i 2 (MV.e [MV.c 4,MV.c 0]) ⋯))] ⋯
theorem EY{kk f O:Int}{s0 s1 w:MV}{c:Nat}{as:List Int}(H:iQ σ n)(hl:σ.R.length<=100000)(h:i3 σ.R m s t w)(V:t<=65)(X:iq σ δ b ad kk [s0,s1,.e [.c 4,.c f]])(W:0<f)(hr:iq σ δ b f O (as.map λa=>lA (.c a)))(ha:∀a∈as,fM σ δ c a m)(Z:as.length<=5)(K:Nat):
  au Tb (K+5) 1054 [.d 148,.c ad] (HS σ δ)=some (.d (δ.length+182),HS σ (ar δ (.a (as.map MV.c)))):=by
 obtain⟨o,s,w,n',Y,E,N,_,_⟩:=X
 have M:=rU H δ Y
 obtain⟨o',u,Q,y,S,r2,P,_,_⟩:=hr
 have L:∀μ,ct μ .a (.c f) (.c 0)=some false:=λμ=>by
  show some (MV.k (.c f) (.c 0))=_
  rw[fg (by intro e;cases e;exact absurd W (by decide))]
 refine si (T:=Tb) (cl:=au Tb (K+4)) (fuel:=K+4) (t:= .b 91) (e:= .k (.h (.k (.k (.d 103) 61) 70) (.h (.d 48) (.g (.c 1)))) 63)
  (b:=[.m (.J (.q .c (.h (.d 91) (.g (.c 1))) (.k (.k (.d 103) 61) 70)) (.C (.j 1061 [.d 103,.h (.d 91) (.g (.c 1))]))) [.d (.n (.d 103) 136 [.g (.c 5)]),.p (.D [])] [],.d (.n (.d 56) 0 [.h (.d 91) (.g (.c 1))])])
  (ρ:=[(103,.d 148),(71,.c ad),(48,.e [.c 4,.c f]),(56,.d (δ.length+182))]) (μ:=HS σ (ar δ (.a []))) (bF:=HS σ (ar δ (.a []))) (n:=u+182) (l:=as.map λa=>lA (.c a))
  (λk ρ μ=>(ρ=[(103,.d 148),(71,.c ad),(48,.e [.c 4,.c f]),(56,.d (δ.length+182))]\/∃x,ρ=[(103,.d 148),(71,.c ad),(48,.e [.c 4,.c f]),(56,.d (δ.length+182)),(91,x)])/\μ=HS σ (ar δ (.a ((as.take k).map MV.c))))
  (oi [(3,ov (rU H (ar δ (.a [])) S)),(4,ov (ed σ (fV _ r2:(ar δ (.a []))[o']?=some (rL f O u Q y)) 63 (MV.d (u+182)) ⋯))] ⋯)
  (λk ρ μ p=>by rw[p.2,df];exact fV _ P) ⟨.inl rfl,rfl⟩
  (λk v ρ μ Ω i p U=>by
   have U4:∃a,as[k]?=some a/\v= .e [.c 4,.c a]:=by
    replace i:=aL▸i
    cases e:as[k]? with
    |none=>rw[e] at i;cases i
    |some a=>rw[e] at i;exact⟨a,rfl,by refine kf i ?_;rfl⟩
   refine cf U4 λa F z0=>?_
   subst z0
   refine U ([(103,.d 148),(71,.c ad),(48,.e [.c 4,.c f]),(56,.d (δ.length+182)),(91,.e [.c 4,.c a])]) μ ([(103,.d 148),(71,.c ad),(48,.e [.c 4,.c f]),(56,.d (δ.length+182)),(91,.e [.c 4,.c a])]) (HS σ (ar δ (.a ((as.take (k+1)).map MV.c)))) ?_ ?_ ⟨.inr ⟨_,rfl⟩,rfl⟩
   ·rcases p.1 with rfl|⟨x,rfl⟩<;>rfl
   ·rw[p.2]
    have A:(as.take (k+1)).map MV.c=ar ((as.take k).map MV.c) (.c a):=by
     rw[f7,F];simp[ar]
    rw[A]
    have r:=(ha a (aU F)).e (Gw.d δ (.a ((as.take k).map MV.c)))
    refine r.a λoa B J=>?_
    exact eD [(3,oq (Oc H (ar δ (.a ((as.take k).map MV.c))) B)),(6,ow (tw H hl h V r K)),(9,oc (jF σ (aZ δ (MO.a (m7 MV.c (hY k as)))))),(11,ow (Ri (ky (au Tb (K+4)) σ (aZ δ (MO.a (m7 MV.c (hY k as)))) (MV.c a) (bx (by simp;unfold bA;exact XE Z))) (dK δ (MO.a (m7 MV.c (hY k as))) (MO.a (ar (m7 MV.c (hY k as)) (MV.c a))))))] ⋯) λρ' aG e p=>?_
 have z:=p.1
 have I:=p.2
 rw[ay,eC] at I
 have G:=I▸e
 rcases z with rfl|⟨x,rfl⟩
 ·exact bw [(2,ov M),(3,ov (ed σ E 63 (MV.d (s+182)) ⋯)),(4,ov (hK σ N 2 (MV.e [MV.c 4,MV.c f]) ⋯)),(6,oq (L (HS σ δ))),(9,os G)] ⋯
 ·exact bw [(2,ov M),(3,ov (ed σ E 63 (MV.d (s+182)) ⋯)),(4,ov (hK σ N 2 (MV.e [MV.c 4,MV.c f]) ⋯)),(6,oq (L (HS σ δ))),(9,os G)] ⋯
end
end
section
structure En where
 f:Int
 k:Nat
 h:Nat
 j:MV
 g:List MV
 o:Nat
noncomputable abbrev En.a(e:En):MV:= .e [.c (e.k:Int),.c (e.h:Int),e.j]
noncomputable abbrev En.c(e:En):MV:= .e [.c e.f,e.a,.d (e.o+182)]
noncomputable abbrev En.p(e:En):List MV:=[.e [.c 4,.c e.f],.e [.c 7,e.a],cb]
structure Sa (σ:St) (δ:List MO) (b:Nat) (Γ:Cf) (d l:Nat) (e:En) (i:Nat) (s:Int) (t:Nat) (ta:MV):Prop where
 z:1<=i
 m:i<6
 j:e.h=b0 d i
 a:i3 σ.R e.k s t ta
 o:Own σ.R l (Γ.v i) ta e.j
 w:bh 7 e.j=true
 y:δ[e.o]?=some (.a e.g)
 q:b<=e.o
 p:(i=1\/i=2)/\e.g=[]\/(i=3\/i=5)/\s=2/\0<e.f/\e.g=[.e [.c 4,.c e.f]]\/i=4/\s=3/\0<e.f/\(∃sl,iq σ δ b e.f e.k sl)/\e.g=[.e [.c 6,.e [.c 3,.c (e.f+2),.e []]]]
inductive pB (σ:St) (δ:List MO) (b:Nat) (Γ:Cf) (d l:Nat) (e:En):Prop
 |mk (i s t ta) (E:Sa σ δ b Γ d l e i s t ta)
section
variable{K n m t b d i:Nat}{s:Int}{σ:St}{δ aX:List MO}{l:List MV}{v x:MV}{Γ:Cf}{R:List Row}{ad kk:Int}
theorem JB(σ:St)(δ:List MO)(a:d<2)(e:i<6):iw Tb (HS σ δ) (.d (hU (b0 d i))) 161=some (.c (E6 i:Nat)):=WW (tI σ δ a e).b
theorem acL(σ:St)(δ:List MO)(a:d<2)(e:i<6):iw Tb (HS σ δ) (.d (hU (b0 d i))) 158=some (.c (σ.T (b0 d i))):=WW (tI σ δ a e).b
noncomputable abbrev tu(i:Nat):Bool:=i==1||i==2
theorem Vp(h:tu i=true):E6 i=1:=by
 have:i=1\/i=2:=by simpa[tu] using h
 rcases this with rfl|rfl<;>rfl
theorem Vo(h:tu i=false):E6 i=0:=by
 have:i≠1/\i≠2:=by simpa[tu] using h
 unfold E6
 split
 ·exact(absurd this (by decide))
 ·exact(absurd this (by decide))
 ·rfl
theorem Vb{w s0 s2:MV}{W0 f:Int}{a g:Nat}{c:Bool}(H:iQ σ n)(M:ez (HS σ δ) (.d 19) (.c (a:Int))=some (.d g))(F:iw Tb (HS σ δ) (.d g) 161=some (.c f))(q:f=1/\c=true\/f=0/\c=false)(r:iq σ δ b ad kk [s0,.e [.c 7,.e [.c W0,.c (a:Int),w]],s2])(K:Nat):au Tb (K+1) 1115 [.d 148,.c ad] (HS σ δ)=some (.h c,HS σ δ):=by
 obtain⟨o,sl,y,z,u,k,p,_,_⟩:=r
 have j:=rU H δ u
 rcases q with⟨rfl,rfl⟩|⟨rfl,rfl⟩
 ·exact bw [(2,ov j),(3,ov (ed σ k 63 (MV.d (sl+182)) ⋯)),(4,ov (hK σ p 1 (MV.e [MV.c 7,MV.e [MV.c W0,MV.c ↑a,w]]) ⋯)),(12,ov M),(13,ov F)] ⋯
 ·exact bw [(2,ov j),(3,ov (ed σ k 63 (MV.d (sl+182)) ⋯)),(4,ov (hK σ p 1 (MV.e [MV.c 7,MV.e [MV.c W0,MV.c ↑a,w]]) ⋯)),(12,ov M),(13,ov F)] ⋯
theorem Cp{w s0 s2:MV}{W0:Int}(H:iQ σ n)(f:d<2)(g:i<6)(j:iq σ δ b ad kk [s0,.e [.c 7,.e [.c W0,.c (b0 d i:Nat),w]],s2])(K:Nat):au Tb (K+1) 1115 [.d 148,.c ad] (HS σ δ)=some (.h (tu i),HS σ δ):=by
 refine Vb H (tI σ δ f g).a (JB σ δ f g) ?_ j K
 cases hs:tu i with
 |true=>exact .inl ⟨by rw[Vp hs];rfl,rfl⟩
 |false=>exact .inr ⟨by rw[Vo hs];rfl,rfl⟩
theorem Oz(a:σ.R.length<=100000)(h:i3 σ.R m s t w)(K:Nat):au Tb (K+4) 1033 [.d 148,.c (m:Int),.c 2] (HS σ δ)=some (.h false,HS σ δ):=by
 have e:=IS a h
 have g:=Po h.e h.f
 rcases g with rfl|rfl|rfl|rfl|rfl
 ·exact bw [(1,ow (e K σ δ ⋯))] ⋯
 ·exact bw [(1,ow (e K σ δ ⋯))] ⋯
 ·exact bw [(1,ow (e K σ δ ⋯))] ⋯
 ·exact bw [(1,ow (e K σ δ ⋯))] ⋯
 ·exact bw [(1,ow (e K σ δ ⋯))] ⋯
theorem KV{w p s0 s2:MV}(H:iQ σ n)(g:σ.R.length<=100000)(h:i3 σ.R m s t p)(f:d<2)(r:i<6)(a:iq σ δ b ad kk [s0,.e [.c 7,.e [.c (m:Int),.c (b0 d i:Nat),w]],s2])(K:Nat):au Tb (K+5) 1122 [.d 148,.c ad] (HS σ δ)=some (.h false,HS σ δ):=by
 have e:=Cp H f r a
 generalize b0 d i=md at*
 cases hs:tu i with
 |false=>
  rw[hs] at e
  exact bw [(0,ow (e (K+3)))] ⋯
 |true=>
  rw[hs] at e
  obtain⟨o,sl,u,y,k,j,q,_,_⟩:=a
  exact bw [(0,ow (e (K+3))),(5,ov (rU H δ k)),(6,ov (ed σ j 63 (MV.d (sl+182)) ⋯)),(7,ov (hK σ q 1 (MV.e [MV.c 7,MV.e [MV.c ↑m,MV.c ↑md,w]]) ⋯)),(10,ow ((Oz (δ:=δ) g h) K))] ⋯
end
end
section
noncomputable abbrev St.I(σ:St)(l:List (MV×MV)):St:={σ with L:=l}
section
variable{K n m t b d i:Nat}{s:Int}{σ:St}{δ aX:List MO}{l:List MV}{v x:MV}{Γ:Cf}{R:List Row}{ad kk:Int}
theorem H8{d:List (MV×MV)}{k v:MV}(h:cV d k=some v):∃a,(a,v)∈d:=by
 induction d with
 |nil=>cases h
 |cons p r c=>
  obtain⟨a,w⟩:=p
  have h':(if MV.k a k then some w else cV r k)=some v:=h
  cases e:MV.k a k with
  |true=>rw[e] at h';refine kf h' ?_;exact⟨a,.head _⟩
  |false=>
   rw[e] at h'
   obtain⟨b,hb⟩:=c h'
   exact⟨b,.tail _ hb⟩
theorem Ie{d:List (MV×MV)}{k v:MV}:∀p∈iU d k v,p∈d\/p.2=v/\(p.1=k\/∃q∈d,q.1=p.1):=by
 induction d with
 |nil=>intro p c;cases c with
  |head=>exact .inr ⟨rfl,.inl rfl⟩
  |tail _ h=>cases h
 |cons q r f=>
  obtain⟨a,w⟩:=q
  intro p c
  have c:p∈(if MV.k a k then(a,v)::r else(a,w)::iU r k v):=c
  cases e:MV.k a k with
  |true=>
   rw[e] at c
   rcases cx.mp c with rfl|h
   ·exact .inr ⟨rfl,.inr ⟨(a,w),.head _,rfl⟩⟩
   ·exact .inl (.tail _ h)
  |false=>
   rw[e] at c
   rcases cx.mp c with rfl|h
   ·exact .inl (.head _)
   ·rcases f p h with h|⟨h1,h2|⟨q,hq,h3⟩⟩
    ·exact .inl (.tail _ h)
    ·exact .inr ⟨h1,.inl h2⟩
    ·exact .inr ⟨h1,.inr ⟨q,.tail _ hq,h3⟩⟩
theorem abU{d:List (MV×MV)}{k v:MV}:(iU d k v).length<=d.length+1:=by
 induction d with
 |nil=>show[(k,v)].length<=_;simp
 |cons q r c=>
  obtain⟨a,w⟩:=q
  show(if MV.k a k then(a,v)::r else(a,w)::iU r k v).length<=_
  cases MV.k a k<;>simp<;>exact GN c
theorem Inv.T(I:Inv σ Γ n){l:List (MV×MV)}(h:∀p∈l,∃(t:Int) (o:Nat),p=(.c t,.d o))(k:l.length<=n+1):Inv (σ.I l) Γ (n+1):=by
 have I:=I.q (show n<=n+1 from lG)
 exact⟨⟨I.a.r,I.a.A,I.a.x,I.a.y,I.a.j,I.a.m,I.a.g,I.a.h,I.a.e,I.a.f,I.a.v,I.a.p,I.a.w,I.a.z⟩,⟨I.j.d,I.j.f,I.j.e,I.j.a⟩,I.r,I.F,I.y,I.L,I.A,I.B,h,k⟩
theorem NJ{B:Prop}(I:Inv σ Γ n)(J:n<=90000)(k:Int)(A:∀y aX,(∀K,au Tb (K+4) 463 [.d 172,.d 148,.c k,.c 2] (HS σ δ)=some (.h false,HS (σ.I y) aX))->(Gw δ aX)->(Inv (σ.I y) Γ (n+1))->B):B:=by
 have r:=mn (λp j=>by obtain⟨t,o,rfl⟩:=I.z p j;exact⟨t,rfl⟩) k
 have g:∀δ,(HS σ δ)[157]?=some (.b σ.L):=λδ=>⋯
 cases e:cV σ.L (.c k) with
 |some v=>
  obtain⟨a,H⟩:=H8 e
  obtain⟨t,o,E⟩:=I.z _ H
  cases E
  have u:∀cl,dj cl (HS σ δ) (.d 157) [.c k] .b=some (.d o,HS σ δ):=λcl=>by
   rw[v8 (g δ) r,e];rfl
  refine A σ.L δ (λK=>?_) (Gw.p _) (I.T I.z (by have:=I.C;exact xt this))
  have w:au Tb (K+3) 900 [.d 148,.c k] (HS σ δ)=some (.d o,HS σ δ):=bw [(2,ow (u (au Tb (K+2))))] ⋯
  exact bw [(0,ow w)] ⋯
 |none=>
  have u:∀cl,dj cl (HS σ δ) (.d 157) [.c k] .b=some (.f,HS σ δ):=λcl=>by
   rw[v8 (g δ) r,e];rfl
  have w:p9 (HS σ (ar (ar δ (.a [])) (.b []))) (.d 157) (.c k) (.d (δ.length+182))=some (HS (σ.I (iU σ.L (.c k) (.d (δ.length+182)))) (ar (ar δ (.a [])) (.b []))):=by
   rw[mB (g _) r (by have:=I.C;unfold bA;exact Pu J this)]
   exact congrArg some ⋯
  refine A (iU σ.L (.c k) (.d (δ.length+182))) (ar (ar δ (.a [])) (.b [])) (λK=>?_) ((Gw.d _ _).e (Gw.d _ _)) (I.T (λp j=>?_) (by have F:=I.C;have D:=abU (d:=σ.L) (k:= .c k) (v:= .d (δ.length+182));exact S9 F D))
  ·have G:au Tb (K+3) 900 [.d 148,.c k] (HS σ δ)=some (.d (δ.length+182),HS (σ.I (iU σ.L (.c k) (.d (δ.length+182)))) (ar (ar δ (.a [])) (.b []))):=bw [(2,ow (u (au Tb (K+2)))),(9,oh w)] ⋯
   exact bw [(0,ow G)] ⋯
  ·rcases Ie p j with h|⟨h1,h2|⟨q,hq,h3⟩⟩
   ·exact I.z p h
   ·exact⟨k,δ.length+182,Prod.ext h2 h1⟩
   ·obtain⟨t,o,rfl⟩:=I.z q hq
    exact⟨t,δ.length+182,Prod.ext h3.symm h1⟩
end
end
section
noncomputable abbrev gx(b:Nat)(num:Int)(aV body:MV)(ip:Int)(args:MV)(stk:Nat)(sort extra:Int):MO:= .d 424 [(119,.c num),(108,aV),(123,body),(127,.c ip),(28,args),(258,.d (b+1+182)),(126,.d (stk+182)),(332,.d (b+3+182)),(333,.d (b+4+182)),(334,.d (b+5+182)),(194,.d (b+6+182)),(5,.c sort),(335,.c num),(205,.c extra),(336,.c (-1))]
noncomputable def fD(δ:List MO)(o:MO):Nat->List MO
 |0=>ar δ o
 |j+1=>ar (fD δ o j) (.a [])
noncomputable def St.M(σ:St)(aV args:MV)(sort:Int)(g:Nat):St:={σ with a:=ar σ.a (.e [aV,args,.c sort]),z:=ar σ.z (.d (g+182))}
section
variable{K n m t b d i:Nat}{s:Int}{σ:St}{δ aX:List MO}{l:List MV}{v x:MV}{Γ:Cf}{R:List Row}{ad kk:Int}{o p:MO}
theorem s9:∀(j:Nat),(fD δ o j).length=δ.length+j+1
 |0=>aB ..
 |j+1=>by show(ar (fD δ o j) _).length=_;rw[aB,s9 j];exact(AJ _ _ _)
theorem v5:∀(j:Nat),(fD δ o j)[δ.length]?=some o
 |0=>aZ ..
 |j+1=>fV _ (v5 j)
theorem zH(h:δ[i]?=some p):∀(j:Nat),(fD δ o j)[i]?=some p
 |0=>fV _ h
 |j+1=>fV _ (zH h j)
theorem Ir:∀(j:Nat),(fD δ o j).set δ.length p=fD δ p j
 |0=>dK ..
 |j+1=>by
  show(ar (fD δ o j) _).set _ _=_
  rw[q7 (by rw[s9];exact(gz [_,_] V0.A (V0.A+V0.B+1) .z rfl)),Ir j];rfl
theorem sh:∀(j:Nat) {i:Nat},i<j->(fD δ o j)[δ.length+1+i]?=some (.a [])
 |0,_,h=>by(exfalso;exact S_ h)
 |j+1,i,h=>by
  by_cases e:i=j
  ·refine rQ e ?_
   exact h9 _ _ _ (by rw[s9];exact XN)
  ·exact fV _ (sh j (XM h e))
theorem xO(j:Nat):Gw δ (fD δ o j):=⟨by rw[s9];exact(bN [_,_] V0.A (V0.A+V0.B+1) .z rfl),λJ J h=>zH h j⟩
theorem IC(σ:St)(δ:List MO)(c:List (Nat×MV))(j a:Nat)(v:MV)(h:okS 424 c a=true):ot Tb (HS σ (fD δ (.d 424 c) j)) (.d (δ.length+182)) a v=some (HS σ (fD δ (.d 424 (bp c a v)) j)):=by
 rw[F9 σ (v5 j) a v _ h rfl,Ir]
theorem frL(σ:St)(δ:List MO)(c:List (Nat×MV))(j a:Nat)(h:okS 424 c a=true):ot Tb (HS σ (ar (fD δ (.d 424 c) j) (.a []))) (.d (δ.length+182)) a (.d ((fD δ (.d 424 c) j).length+182))=some (HS σ (fD δ (.d 424 (bp c a (.d (δ.length+(j+1)+182)))) (j+1))):=by
 rw[s9]
 exact IC σ δ c (j+1) a (.d (δ.length+(j+1)+182)) h
theorem Ng:au Tb (K+1) 421 [.d (δ.length+182),.c num,aV,.f,args,.c sort] (HS σ (fD δ (.d 424 []) 0))=some (.f,HS σ (fD δ (gx δ.length num aV .f 0 args (δ.length+2) sort 0) 6)):=by
 have A:=IC σ δ
 have B:=frL σ δ
 exact bw [(0,oh (A [] 0 119 (MV.c num) ⋯)),(1,oh (A (bp [] 119 (MV.c num)) 0 108 aV ⋯)),(2,oh (A (bp (bp [] 119 (MV.c num)) 108 aV) 0 123 MV.f ⋯)),(3,oh (A (bp (bp (bp [] 119 (MV.c num)) 108 aV) 123 MV.f) 0 127 (MV.c 0) ⋯)),(4,oh (A (bp (bp (bp (bp [] 119 (MV.c num)) 108 aV) 123 MV.f) 127 (MV.c 0)) 0 28 args ⋯)),(6,oh (B (bp (bp (bp (bp (bp [] 119 (MV.c num)) 108 aV) 123 MV.f) 127 (MV.c 0)) 28 args) 0 258 ⋯)),(8,oh (B (bp (bp (bp (bp (bp (bp [] 119 (MV.c num)) 108 aV) 123 MV.f) 127 (MV.c 0)) 28 args) 258 (MV.d (δ.length+(0+1)+182))) (0+1) 126 ⋯)),(10,oh (B (bp (bp (bp (bp (bp (bp (bp [] 119 (MV.c num)) 108 aV) 123 MV.f) 127 (MV.c 0)) 28 args) 258 (MV.d (δ.length+(0+1)+182))) 126 (MV.d (δ.length+(0+1+1)+182))) (0+1+1) 332 ⋯)),(12,oh (B (bp (bp (bp (bp (bp (bp (bp (bp [] 119 (MV.c num)) 108 aV) 123 MV.f) 127 (MV.c 0)) 28 args) 258 (MV.d (δ.length+(0+1)+182))) 126 (MV.d (δ.length+(0+1+1)+182))) 332 (MV.d (δ.length+(0+1+1+1)+182))) (0+1+1+1) 333 ⋯)),(14,oh (B (bp (bp (bp (bp (bp (bp (bp (bp (bp [] 119 (MV.c num)) 108 aV) 123 MV.f) 127 (MV.c 0)) 28 args) 258 (MV.d (δ.length+(0+1)+182))) 126 (MV.d (δ.length+(0+1+1)+182))) 332 (MV.d (δ.length+(0+1+1+1)+182))) 333 (MV.d (δ.length+(0+1+1+1+1)+182))) (0+1+1+1+1) 334 ⋯)),(16,oh (B (bp (bp (bp (bp (bp (bp (bp (bp (bp (bp [] 119 (MV.c num)) 108 aV) 123 MV.f) 127 (MV.c 0)) 28 args) 258 (MV.d (δ.length+(0+1)+182))) 126 (MV.d (δ.length+(0+1+1)+182))) 332 (MV.d (δ.length+(0+1+1+1)+182))) 333 (MV.d (δ.length+(0+1+1+1+1)+182))) 334 (MV.d (δ.length+(0+1+1+1+1+1)+182))) (0+1+1+1+1+1) 194 ⋯)),(17,oh (A (bp (bp (bp (bp (bp (bp (bp (bp (bp (bp (bp [] 119 (MV.c num)) 108 aV) 123 MV.f) 127 (MV.c 0)) 28 args) 258 (MV.d (δ.length+(0+1)+182))) 126 (MV.d (δ.length+(0+1+1)+182))) 332 (MV.d (δ.length+(0+1+1+1)+182))) 333 (MV.d (δ.length+(0+1+1+1+1)+182))) 334 (MV.d (δ.length+(0+1+1+1+1+1)+182))) 194 (MV.d (δ.length+(0+1+1+1+1+1+1)+182))) (0+1+1+1+1+1+1) 5 (MV.c sort) ⋯)),(18,oh (A (bp (bp (bp (bp (bp (bp (bp (bp (bp (bp (bp (bp [] 119 (MV.c num)) 108 aV) 123 MV.f) 127 (MV.c 0)) 28 args) 258 (MV.d (δ.length+(0+1)+182))) 126 (MV.d (δ.length+(0+1+1)+182))) 332 (MV.d (δ.length+(0+1+1+1)+182))) 333 (MV.d (δ.length+(0+1+1+1+1)+182))) 334 (MV.d (δ.length+(0+1+1+1+1+1)+182))) 194 (MV.d (δ.length+(0+1+1+1+1+1+1)+182))) 5 (MV.c sort)) (0+1+1+1+1+1+1) 335 (MV.c num) ⋯)),(19,oh (A (bp (bp (bp (bp (bp (bp (bp (bp (bp (bp (bp (bp (bp [] 119 (MV.c num)) 108 aV) 123 MV.f) 127 (MV.c 0)) 28 args) 258 (MV.d (δ.length+(0+1)+182))) 126 (MV.d (δ.length+(0+1+1)+182))) 332 (MV.d (δ.length+(0+1+1+1)+182))) 333 (MV.d (δ.length+(0+1+1+1+1)+182))) 334 (MV.d (δ.length+(0+1+1+1+1+1)+182))) 194 (MV.d (δ.length+(0+1+1+1+1+1+1)+182))) 5 (MV.c sort)) 335 (MV.c num)) (0+1+1+1+1+1+1) 205 (MV.c 0) ⋯)),(20,oh (A (bp (bp (bp (bp (bp (bp (bp (bp (bp (bp (bp (bp (bp (bp [] 119 (MV.c num)) 108 aV) 123 MV.f) 127 (MV.c 0)) 28 args) 258 (MV.d (δ.length+(0+1)+182))) 126 (MV.d (δ.length+(0+1+1)+182))) 332 (MV.d (δ.length+(0+1+1+1)+182))) 333 (MV.d (δ.length+(0+1+1+1+1)+182))) 334 (MV.d (δ.length+(0+1+1+1+1+1)+182))) 194 (MV.d (δ.length+(0+1+1+1+1+1+1)+182))) 5 (MV.c sort)) 335 (MV.c num)) 205 (MV.c 0)) (0+1+1+1+1+1+1) 336 (MV.c (-1)) ⋯))] ⋯
end
end
section
section
variable{K n m t b d i:Nat}{s:Int}{σ:St}{δ aX:List MO}{l:List MV}{v x:MV}{Γ:Cf}{R:List Row}{ad kk:Int}{o p:MO}
theorem JM:yp Tb (au Tb (K+1)) 424 [.c num,aV,.f,args,.c sort] (HS σ δ)=some (.d (δ.length+182),HS σ (fD δ (gx δ.length num aV .f 0 args (δ.length+2) sort 0) 6)):=by
 have a:=Ng (K:=K) (σ:=σ) (δ:=δ) (num:=num) (sort:=sort) (aV:=aV) (args:=args)
 refine(Eg (by kernel_rfl:Tb.g 424=some (some 421))).trans ?_
 dsimp only;rw[kG,kF];exact j_ a
theorem N_(cl:Call)(σ:St)(δ:List MO)(v:MV)(h:eI σ.a.length bA=true):dj cl (HS σ δ) (.d 164) [v] .a=some (.f,HS (σ.ac (ar σ.a v)) δ):=
 gH (n:=164) (μ:=HS σ δ) (l:=σ.a) ⋯ (aW h)
theorem adh(cl:Call)(σ:St)(δ:List MO)(v:MV)(h:eI σ.z.length bA=true):dj cl (HS σ δ) (.d 165) [v] .a=some (.f,HS (σ.aq (ar σ.z v)) δ):=
 gH (n:=165) (μ:=HS σ δ) (l:=σ.z) ⋯ (aW h)
theorem Df(g:σ.a.length<=90000)(h:σ.z.length<=90000):au Tb (K+3) 762 [.d 148,aV,args,.c sort] (HS σ δ)=some (.d (δ.length+182),HS (σ.M aV args sort δ.length) (fD δ (gx δ.length ((σ.a.length+1:Nat):Int) aV .f 0 args (δ.length+2) sort 0) 6)):=by
 have j:mw (HS (σ.ac (ar σ.a (.e [aV,args,.c sort]))) δ) (.d 164)=some (.c ((σ.a.length+1:Nat):Int)):=by
  rw[ly (n:=164) (l:=ar σ.a (.e [aV,args,.c sort])) ⋯ (by rw[aB];unfold bA;exact(rH g)),aB]
 exact bw [(0,ow (bw [(3,ow (N_ (au Tb (K+1)) σ δ (MV.e [aV,args,MV.c sort]) (bx (GO g)))),(5,ov j),(6,ow (JM (K:=K) (σ:=σ.ac (ar σ.a (.e [aV,args,.c sort]))) (δ:=δ) (num:=((σ.a.length+1:Nat):Int)) (sort:=sort) (aV:=aV) (args:=args))),(9,ow (adh (au Tb (K+1)) (σ.ac (ar σ.a (MV.e [aV,args,MV.c sort]))) (fD δ (gx δ.length (↑(σ.a.length+1)) aV MV.f 0 args (δ.length+2) sort 0) 6) (MV.d (δ.length+182)) (bx (GO h))))] ⋯:au Tb (K+2) 802 [.d 148,aV,args,.c sort] (HS σ δ)=some (.d (δ.length+182),HS (σ.M aV args sort δ.length) (fD δ (gx δ.length ((σ.a.length+1:Nat):Int) aV .f 0 args (δ.length+2) sort 0) 6))))] ⋯
theorem adJ(σ:St)(h:δ[i]?=some (.a l))(c:l.length<=1000):lB (HS σ δ) (.d (i+182)) none none=some (.d (δ.length+182),HS σ (ar δ (.a l))):=by
 unfold lB;dsimp only[jY,Option.bind_some];rw[wu (by rw[df];exact h)]
 refine(j7 (rA c)).trans ?_
 rw[kG,kF];rfl
theorem zB(σ:St)(h:δ[i]?=some (.a l))(g:δ[j]?=some (.a y))(c:l.length<=1000)(e:y.length<=1000):dE (HS σ δ) .a (.d (i+182)) (.d (j+182))=some (.d (δ.length+182),HS σ (ar δ (.a (cW l y)))):=by
 unfold dE Si;dsimp only;rw[wu (by rw[df];exact h),wu (by rw[df];exact g)]
 refine(j7 (eK (qf c e))).trans ?_
 rw[kG,kF];rfl
end
end
section
section
variable{K n t b c d i l ai:Nat}{s:Int}{σ:St}{δ:List MO}{vals:List MV}{ta:MV}{Γ:Cf}{ad kk:Int}{e:En}
theorem tn(h:0<x)(μ:Hp):ct μ .a (.c x) (.c 0)=some false:=by
 show some (MV.k (.c x) (.c 0))=_
 rw[fg (by intro e;cases e;exact absurd h (by decide))]
theorem De{W:Prop}(I:Inv σ Γ n)(O:n<=80000)(T:d<2)(u:Sa σ δ c Γ d l e i s t ta)(Y:iq σ δ b ad kk e.p)(Q:δ[ai]?=some (.a vals))(S:vals.length<=100)(P:∀a D,(∀K,au Tb (K+4) 1157 [.d 148,.c ad,.d (ai+182)] (HS σ δ)=some (.f,HS (σ.M e.a (.d (a+182)) 0 D.length) (fD D (gx D.length ((σ.a.length+1:Nat):Int) e.a .f 0 (.d (a+182)) (D.length+2) 0 0) 6)))->(Gw δ D)->(D[a]?=some (.a (cW e.g vals)))->(δ.length<=a)->W):W:=by
 obtain⟨o,sl,wo,n',Z,C,v,_,_⟩:=Y
 have J:=rU I.j δ Z
 obtain⟨x,M,F⟩:∃x,ez (HS σ δ) (.d 19) (.c (e.h:Int))=some (.d x)/\iw Tb (HS σ δ) (.d x) 161=some (.c (E6 i:Nat)):=⟨_,by rw[u.j];exact(tI σ δ T u.m).a,JB σ δ T u.m⟩
 have U:σ.R.length<=100000:=by have:=I.r;exact Px O this
 have q:=λ(D:List MO) (K:Nat) (args:MV)=>Df (K:=K) (σ:=σ) (δ:=D) (aV:=e.a) (args:=args) (sort:=0) (by have:=I.L;exact GP O this) (by have:=I.y;exact GP O this)
 rcases u.p with⟨B,A⟩|⟨B,N,G,A⟩|⟨B,N,G,⟨bl,hB⟩,A⟩
 ·have F:iw Tb (HS σ δ) (.d x) 161=some (.c 1):=by rcases B with rfl|rfl<;>exact F
  refine P δ.length (ar δ (.a vals)) (λK=>?_) (Gw.d _ _) (A▸(h9 _ _ _ rfl)) (aC _)
  exact bw [(2,ov J),(3,ov (ed σ C 63 (MV.d (sl+182)) ⋯)),(4,ov (hK σ v 1 (MV.e [MV.c 7,e.a]) ⋯)),(8,ov (hK σ v 1 (MV.e [MV.c 7,e.a]) ⋯)),(13,ov M),(14,ov F),(18,ow (adJ σ Q (uS S))),(19,ow (q (ar δ (.a vals)) K (.d (δ.length+182))))] ⋯
 ·have F:iw Tb (HS σ δ) (.d x) 161=some (.c 0):=by rcases B with rfl|rfl<;>exact F
  subst N
  refine b6 (ar δ (.a [.e [.c 4,.c e.f]])) λE w=>?_
  have a1:=zB σ (δ:=E) (i:=δ.length) (j:=ai) (w▸(h9 _ _ _ rfl)) (w▸(fV _ Q)) (by simp) (uS S)
  rw[w] at a1
  refine P ((ar δ (.a [.e [.c 4,.c e.f]])).length) (ar (ar δ (.a [.e [.c 4,.c e.f]])) (.a (cW [.e [.c 4,.c e.f]] vals))) (λK=>?_) ((Gw.d _ _).e (Gw.d _ _)) (A▸(h9 _ _ _ rfl)) (by rw[aB];exact lG)
  exact bw [(2,ov J),(3,ov (ed σ C 63 (MV.d (sl+182)) ⋯)),(4,ov (hK σ v 1 (MV.e [MV.c 7,e.a]) ⋯)),(8,ov (hK σ v 1 (MV.e [MV.c 7,e.a]) ⋯)),(13,ov M),(14,ov F),(17,ov (hK σ v 0 (MV.e [MV.c 4,MV.c e.f]) ⋯)),(19,oq ((tn G) (HS σ δ))),(23,ow ((pP U u.a.a (by have:=u.a.b;exact AW this) false (.inr (.inl ⟨rfl,rfl⟩))) (K+1) σ δ ⋯)),(27,ow a1),(28,ow (q (ar (ar δ (.a [.e [.c 4,.c e.f]])) (.a (cW [.e [.c 4,.c e.f]] vals))) K (.d ((ar δ (.a [.e [.c 4,.c e.f]])).length+182))))] ⋯
 ·have F:iw Tb (HS σ δ) (.d x) 161=some (.c 0):=by subst B;exact F
  subst N
  obtain⟨z,sb,wb,nb,X,V,b3,_,_⟩:=hB
  have WR:∀K,au Tb (K+1) 406 [.d (z+182),.c 0] (HS σ δ)=some (.e [.c 3,.c (e.f+2),.e []],HS σ δ):=λK=>by
   have:au Tb (K+1) 406 [.d (z+182),.c 0] (HS σ δ)=some (.e [.c 3,.c (e.f+2+0),.e []],HS σ δ):=bw [(0,ov (ed σ V 71 (MV.c e.f) ⋯))] ⋯
   rw[Int.add_zero] at this;exact this
  refine b6 (ar δ (.a [.e [.c 6,.e [.c 3,.c (e.f+2),.e []]]])) λE w=>?_
  have a1:=zB σ (δ:=E) (i:=δ.length) (j:=ai) (w▸(h9 _ _ _ rfl)) (w▸(fV _ Q)) (by simp) (uS S)
  rw[w] at a1
  refine P ((ar δ (.a [.e [.c 6,.e [.c 3,.c (e.f+2),.e []]]])).length) (ar (ar δ (.a [.e [.c 6,.e [.c 3,.c (e.f+2),.e []]]])) (.a (cW [.e [.c 6,.e [.c 3,.c (e.f+2),.e []]]] vals))) (λK=>?_) ((Gw.d _ _).e (Gw.d _ _)) (A▸(h9 _ _ _ rfl)) (by rw[aB];exact lG)
  have H:∀μ,ct μ .b (.c (e.k:Int)) (.c (e.k:Int))=some false:=λμ=>by
   show(some (MV.k (.c (e.k:Int)) (.c (e.k:Int)))).map (!·)=_
   rw[hO];rfl
  exact bw [(2,ov J),(3,ov (ed σ C 63 (MV.d (sl+182)) ⋯)),(4,ov (hK σ v 1 (MV.e [MV.c 7,e.a]) ⋯)),(8,ov (hK σ v 1 (MV.e [MV.c 7,e.a]) ⋯)),(13,ov M),(14,ov F),(17,ov (hK σ v 0 (MV.e [MV.c 4,MV.c e.f]) ⋯)),(19,oq ((tn G) (HS σ δ))),(23,ow ((pP U u.a.a (by have:=u.a.b;exact AW this) true (.inl ⟨rfl,rfl⟩)) (K+1) σ δ ⋯)),(28,ov (rU I.j δ X)),(29,ov (ed σ V 62 (MV.c ↑e.k) ⋯)),(31,oq (H (HS σ δ))),(33,ow (WR (K+2))),(37,ow a1),(38,ow (q (ar (ar δ (.a [.e [.c 6,.e [.c 3,.c (e.f+2),.e []]]])) (.a (cW [.e [.c 6,.e [.c 3,.c (e.f+2),.e []]]] vals))) K (.d ((ar δ (.a [.e [.c 6,.e [.c 3,.c (e.f+2),.e []]]])).length+182))))] ⋯
end
end
section
structure qx (σ:St) (δ:List MO) (b:Nat) (Γ:Cf) (d l dk:Nat) (ad:Int) (es:List (Int×En)):Prop where
 j:i3 σ.R dk 2 (64+d) (.e [.c (kd 0 l:Nat)])
 a:∀p∈es,iq σ δ b p.1 dk p.2.p/\pB σ δ b Γ d l p.2
 z:1<=es.length
 m:es.length<=5
 o:(∃p,es=[p]/\ad=p.1)\/2<=es.length/\∃s0 s1 ra jk,iq σ δ b ad dk [s0,s1,.e [.c 4,.c ra]]/\0<ra/\iq σ δ b ra jk (es.map λp=>lA (.c p.1))
section
variable{K n t b c d i l ai f dk:Nat}{s:Int}{σ:St}{δ:List MO}{vals:List MV}{ta:MV}{Γ:Cf}{ad kk:Int}{e:En}{es:List (Int×En)}
theorem Nw(I:Inv σ Γ n)(w:n<=80000)(g:d<2)(D:qx σ δ b Γ d l dk ad es)(K:Nat):au Tb (K+5) 1054 [.d 148,.c ad] (HS σ δ)=some (.d (δ.length+182),HS σ (ar δ (.a (es.map λp=> .c p.1)))):=by
 rcases D.o with⟨p,rfl,rfl⟩|⟨x,s0,s1,y,z,q,v,u⟩
 ·exact Jv I.j (D.a p (.head _)).1 (K+4)
 ·have e:=EY (as:=es.map (·.1)) (c:=b) I.j (by have:=I.r;exact Px w this) D.j (GJ g) q v (by rw[n7];exact u) (λa k=>by
   obtain⟨p,h,rfl⟩:=cY.mp k
   exact(D.a p h).1.a) (by rw[ay];exact D.m) K
  rw[n7] at e
  exact e
theorem xF{k:Nat}(h:k<=1000):jY (some (.c (k:Int)))=some (some k):=by
 delta jY;exact(RA _).trans (j7 ⟨Pr h,PB h⟩)
theorem yF{μ:Hp}{n:Nat}{l:List MV}{lo h:Option MV}{a b:Option Nat}(g:μ[n]?=some (.a l))(j:jY lo=some a)(m:jY h=some b)(k:l.length<=bA):lB μ (.d n) lo h=some (.d μ.length,μ++[.a (sV l a b)]):=(Eg j).trans ((Eg m).trans ((wu g).trans (j7 k)))
theorem yG(h:δ[i]?=some (.a vals))(g:vals.length<=1000)(k:Nat)(j:k<=1000)(σ:St):lB (HS σ δ) (.d (i+182)) none (some (.c (k:Int)))=some (.d (δ.length+182),HS σ (ar δ (.a (vals.take k)))):=by
 have e:=yF (μ:=HS σ δ) (n:=i+182) (by rw[df];exact h) (show jY none=some none from rfl) (xF j) (rA g)
 rw[kG,kF] at e
 exact e
theorem Cs(h:δ[i]?=some (.a (ar vals z)))(g:vals.length<=100):mw (HS σ δ) (.d (i+182))=some (.c ((vals.length+1:Nat):Int))/\ez (HS σ δ) (.d (i+182)) (.c (((vals.length+1:Nat):Int) - 1))=some z/\lB (HS σ δ) (.d (i+182)) none (some (.c (((vals.length+1:Nat):Int) - 1)))=some (.d (δ.length+182),HS σ (ar δ (.a vals))):=by
 refine((GQ):((vals.length+1:Nat):Int) - 1=(vals.length:Int))▸(⟨?_,?_,?_⟩)
 ·rw[hJ σ h (by rw[aB];exact Py g),aB]
 ·exact jZ σ h (aZ _ _) (Pz g)
 ·have:=yG h (by rw[aB];exact Py g) vals.length (uS g) σ
  rw[this];unfold ar;simp
structure lh (δ:List MO) (f:Nat) (num:Int) (aV:MV) (ip:Int) (args:MV) (stk:Nat) (x:Nat) (vals:List MV) (ad:Int):Prop where
 k:δ[f]?=some (gx f num aV .f ip args stk 4 (x:Int))
 h:δ[f+6]?=some (.a (ar vals (.e [.c 4,.c ad])))
theorem tZ{num ip:Int}{aV args:MV}{stk x:Nat}(I:Inv σ Γ n)(o:n<=80000)(j:d<2)(D:qx σ δ b Γ d l dk ad es)(M:lh δ f num aV ip args stk x vals ad)(m:vals.length<=100)(K:Nat):au Tb (K+6) 1136 [.d 148,.d (f+182)] (HS σ δ)=some (.d (δ.length+182),HS σ (ar δ (.a (es.map λp=> .c p.1)))):=by
 refine m_ (Cs (σ:=σ) M.h m) λk1 k2 q=>?_
 have g:=M.k
 exact bw [(0,ov (ed σ g 194 (MV.d (f+6+182)) ⋯)),(1,ov (ed σ g 194 (MV.d (f+6+182)) ⋯)),(2,ov k1),(4,ov k2),(6,ow (Nw I o j D K))] ⋯
theorem pB.j{S:Nat->Prop}(h:pB σ δ b Γ d l e)(u:∀k v,cV σ.B k=some v->cV σ'.B k=some v)(r:∃x,σ'.R=σ.R++x)(g:Fz S δ aX)(A:rz S δ b):pB σ' aX b Γ d l e:=by
 obtain⟨i,s,t,ta,E⟩:=h
 obtain⟨x,C⟩:=r
 refine⟨i,s,t,ta,E.z,E.m,E.j,C▸E.a.c,C▸(E.o.d x),E.w,A.j g E.y E.q,E.q,?_⟩
 rcases E.p with h|h|⟨h1,h2,h3,⟨sl,h4⟩,h5⟩
 ·exact .inl h
 ·exact .inr (.inl h)
 ·exact .inr (.inr ⟨h1,h2,h3,⟨sl,h4.d u g A⟩,h5⟩)
theorem qx.w{S:Nat->Prop}(h:qx σ δ b Γ d l dk ad es)(u:∀k v,cV σ.B k=some v->cV σ'.B k=some v)(r:∃x,σ'.R=σ.R++x)(g:Fz S δ aX)(C:rz S δ b):qx σ' aX b Γ d l dk ad es:=by
 refine⟨by obtain⟨x,E⟩:=r;rw[E];exact h.j.c,λp D=>⟨(h.a p D).1.d u g C,(h.a p D).2.j u r g C⟩,h.z,h.m,?_⟩
 rcases h.o with q|⟨q,s0,s1,ra,jk,h1,h2,h3⟩
 ·exact .inl q
 ·exact .inr ⟨q,s0,s1,ra,jk,h1.d u g C,h2,h3.d u g C⟩
theorem qx.A(h:qx σ δ b Γ d l dk ad es)(g:Gw δ aX):qx σ aX b Γ d l dk ad es:=h.w (S:=λJ=>False) (λJ J h=>h) ⟨[],(d8 _).symm⟩ g.f λJ h=>h.elim
end
end
section
noncomputable def pw(f:Nat):Nat->Prop:=λi=>i=f
theorem Fz.w(a:List MO)(f:Nat)(o:MO):Fz (pw f) a (a.set f o):=Fz.y o rfl
theorem rz.k(h:δ[f]?=some (.d 424 fs)):rz (pw f) δ b:=λi g=>by
 refine fJ g ?_;exact .inr ⟨_,h⟩
section
variable{K n t b c d i l ai f dk:Nat}{s:Int}{σ:St}{δ:List MO}{vals:List MV}{ta:MV}{Γ:Cf}{ad kk:Int}{e:En}{es:List (Int×En)}
theorem UH{x y:Nat}{c:Bool}(h:decide (y<=x)=c)(μ:Hp):ct μ .f (.c (x:Int)) (.c (y:Int))=some c:=h▸(congrArg some (by rw[decide_eq_decide];exact XR))
theorem Sa.A{S:Nat->Prop}(E:Sa σ δ c Γ d l e i s t ta)(u:∀k v,cV σ.B k=some v->cV σ'.B k=some v)(r:∃x,σ'.R=σ.R++x)(g:Fz S δ aX)(C:rz S δ c):Sa σ' aX c Γ d l e i s t ta:=by
 refine dG r λx D=>?_
 refine⟨E.z,E.m,E.j,D▸E.a.c,D▸(E.o.d x),E.w,C.j g E.y E.q,E.q,?_⟩
 rcases E.p with h|h|⟨h1,h2,h3,⟨sl,h4⟩,h5⟩
 ·exact .inl h
 ·exact .inr (.inl h)
 ·exact .inr (.inr ⟨h1,h2,h3,⟨sl,h4.d u g C⟩,h5⟩)
theorem lh.j{a:List MO}{num ip:Int}{aV args:MV}{stk x:Nat}(M:lh δ f num aV ip args stk x vals ad)(g:Gw δ a):lh a f num aV ip args stk x vals ad:=⟨g.2 _ _ M.k,g.2 _ _ M.h⟩
theorem Ki{Ω:Prop}{num ip:Int}{aV args:MV}{stk x:Nat}(I:Inv σ Γ n)(hn:n<=70000)(hd:d<2)(D:qx σ δ b Γ d l dk ad es)(M:lh δ f num aV ip args stk x vals ad)(hv:vals.length<=10){p:Int×En}(hp:es[x]?=some p)(bJ:∀C a F,(∀K,au Tb (K+8) 1143 [.d 148,.d (f+182)] (HS σ δ)=some (.f,HS ((σ.I C).M p.2.a (.d (a+182)) 0 F.length) (fD F (gx F.length ((σ.a.length+1:Nat):Int) p.2.a .f 0 (.d (a+182)) (F.length+2) 0 0) 6)))->(Inv (σ.I C) Γ (n+1))->(Fz (pw f) δ F)->(lh F f num aV ip args stk (x+1) vals ad)->(F[a]?=some (.a (cW p.2.g vals)))->(δ.length<=a)->Ω):Ω:=by
 have O:=aU hp
 have hx:=(ax.mp hp).1
 obtain⟨i,s,t,ta,E⟩:=(D.a p O).2
 have hl:σ.R.length<=100000:=by have:=I.r;exact xu hn this
 refine b6 (ar δ (.a (es.map λp=> .c p.1))) λH ej=>?_
 have S:=λK=>tZ I (xr hn) hd D M (uR hv) K
 rw[<-ej] at S
 have W:=ej▸(Gw.d _ _)
 have M1:=M.j W
 have k1:=M1.k
 have T1:=(D.a p O).1.f W
 have gl:=ej▸(h9 _ _ _ rfl)
 have ln:=hJ σ gl (by rw[ay];have:=D.m;exact GU this)
 rw[ay] at ln
 have ge:=UH (x:=x) (y:=es.length) (decide_eq_false (XK hx))
 have sx:=jZ σ gl (k:=x) (v:= .c p.1) (aL▸hp▸rfl) (by have:=D.m;exact XJ hx this)
 have hml:=E.j
 have q:=λK=>Cp (K:=K) (s0:= .e [.c 4,.c p.2.f]) (s2:=cb) (W0:=(p.2.k:Int)) (w:=p.2.j) I.j hd E.m (by rw[<-hml];exact T1)
 obtain⟨C,G,Rw,w2,I2⟩:∃C G,(tu i=true->∀K,au Tb (K+4) 463 [.d 172,.d 148,.c (p.2.k:Int),.c 2] (HS σ H)=some (.h false,HS (σ.I C) G))/\(Gw H G/\(tu i=false->C=σ.L/\G=H))/\Inv (σ.I C) Γ (n+1):=by
  cases hs:tu i with
  |true=>
   refine NJ (δ:=H) I (GL hn) (p.2.k:Int) λC G h1 h2 h3=>?_
   exact⟨C,G,λJ=>h1,⟨h2,λh=>by cases h⟩,h3⟩
  |false=>exact⟨σ.L,H,λh=>by(cases h),⟨Gw.p _,λJ=>⟨rfl,rfl⟩⟩,I.q lG⟩
 have M2:=M1.j w2.1
 have k2:=M2.k
 refine b6 (σ.I C) λz N=>?_
 rw[<-N] at I2 Rw
 refine b6 (G.set f (gx f num aV .f ip args stk 4 ((x:Int)+1))) λh_ Y=>?_
 have hf6:f+6≠f:=A5
 have U:=Y▸(m6 _ k2)
 have V:=Y▸(jg _ _ XI M2.h)
 refine m_ (Cs (σ:=z) V (uR hv)) λl1 l2 Z=>?_
 refine b6 (ar h_ (.a vals)) λiy Q=>?_
 replace Z:=Q.symm▸Z
 have X:Fz (pw f) δ iy:=by
  rw[Q,Y]
  exact((W.e w2.1).f.k (Fz.w _ _ _)).k (Gw.d _ _).f
 have hS:rz (pw f) δ b:=rz.k M.k
 have u:∀k v,cV σ.B k=some v->cV z.B k=some v:=λk v h=>N▸h
 refine De (e:=p.2) I2 (GK hn) hd (E.A u (⟨[],N▸((d8 _).symm)⟩) X hS) ((D.a p O).1.d u X hS) (vals:=vals) (ai:=h_.length) (Q▸(h9 _ _ _ rfl)) (uR hv) λa F P g' ga la=>?_
 replace P:=(N▸rfl:z.a=σ.a)▸P
 have T:=Y▸(F9 z k2 205 _ _ ⋯ rfl)
 refine bJ C a F (λK=>?_) (N▸I2) (X.k g'.f) ⟨?_,g'.2 _ _ (Q▸(fV _ V))⟩ ga ?_
 ·refine N▸?_
  have S:=S (K+1)
  have q:=q (K+6)
  have P:=P (K+3)
  cases hs:tu i with
  |false=>
   replace q:=hs▸q
   refine iu (w2.2 hs) λe1 e2=>?_
   have e0:HS σ H=HS z G:=N▸e1▸e2▸rfl
   rw[e0] at q S ln sx
   exact bw [(0,ow S),(1,ov (ed z k2 205 (MV.c ↑x) ⋯)),(2,ov ln),(3,oq (ge (HS z G))),(5,ov (ed z k2 205 (MV.c ↑x) ⋯)),(6,ov sx),(7,ow q),(10,ov (ed z k2 205 (MV.c ↑x) ⋯)),(11,oh T),(12,ov (ed z U 194 (MV.d (f+6+182)) ⋯)),(13,ov (ed z U 194 (MV.d (f+6+182)) ⋯)),(14,ov l1),(16,ow Z),(17,ow P)] ⋯
  |true=>
   replace q:=hs▸q
   obtain⟨o,sl,wo,n',h1,h2,h3,_,_⟩:=T1
   exact bw [(0,ow S),(1,ov (ed σ k1 205 (MV.c ↑x) ⋯)),(2,ov ln),(3,oq (ge (HS σ H))),(5,ov (ed σ k1 205 (MV.c ↑x) ⋯)),(6,ov sx),(7,ow q),(13,ov (rU I.j H h1)),(14,ov (ed σ h2 63 (MV.d (sl+182)) ⋯)),(15,ov (hK σ h3 1 (MV.e [MV.c 7,p.snd.a]) ⋯)),(18,ow (Rw hs (K+3))),(20,ov (ed z k2 205 (MV.c ↑x) ⋯)),(21,oh T),(22,ov (ed z U 194 (MV.d (f+6+182)) ⋯)),(23,ov (ed z U 194 (MV.d (f+6+182)) ⋯)),(24,ov l1),(26,ow Z),(27,ow P)] ⋯
 ·exact(show((x+1:Nat):Int)=(x:Int)+1 from xq)▸(g'.2 _ _ (Q▸(fV _ U)))
 ·have t0:=X.1
  have t1:=W.1;have t2:=w2.1.1
  have e:iy.length=h_.length+1:=by rw[Q,aB]
  exact Ta la t0 e
end
end
section
section
variable{K n t b c d i l ai f dk:Nat}{s:Int}{σ:St}{δ:List MO}{vals:List MV}{ta:MV}{Γ:Cf}{ad kk:Int}{e:En}{es:List (Int×En)}
theorem vd
  (r:∀δ,(HS σ δ)[q]?=some (.a [.c md])) (hm:∀δ,∃j,ez (HS σ δ) (.d 19) (.c md)=some (.d j)/\iw Tb (HS σ δ) (.d j) 156=some (.g [73,110,118,111,107,101]))
  (y:aO Tb cl (.k (.h (.k (.d 153) 155) (.d 33)) 157) [(153,.d 10),(33,.c a1),(156,.g [73,110,118,111,107,101]),(56,.d (δ.length+182))] (HS σ (ar δ (.a [])))=some (.d q,HS σ (ar δ (.a [])))):
  bQ Tb cl F (fH Bv 1) [(153,.d 10),(33,.c a1),(156,.g [73,110,118,111,107,101]),(56,.d (δ.length+182))] (HS σ (ar δ (.a [])))=some (.a,[(153,.d 10),(33,.c a1),(156,.g [73,110,118,111,107,101]),(56,.d (δ.length+182)),(131,.c md)],HS σ (ar δ (.a [.c md]))):=by
 refine cf (hm (ar δ (.a []))) λj w u=>?_
 refine(show fH Bv 1= .g (.b 131) (.b (.k (.h (.k (.d 153) 155) (.d 33)) 157)) [.m (.q .a (.k (.h (.k (.d 153) 157) (.d 131)) 156) (.d 156)) [.d (.n (.d 56) 0 [.d 131])] []] from ⋯)▸?_
 refine si (T:=Tb) (cl:=cl) (fuel:=F) (t:= .b 131) (e:= .k (.h (.k (.d 153) 155) (.d 33)) 157) (b:=[.m (.q .a (.k (.h (.k (.d 153) 157) (.d 131)) 156) (.d 156)) [.d (.n (.d 56) 0 [.d 131])] []])
  (ρ:=[(153,.d 10),(33,.c a1),(156,.g [73,110,118,111,107,101]),(56,.d (δ.length+182))]) (μ:=HS σ (ar δ (.a []))) (bF:=HS σ (ar δ (.a []))) (n:=q) (l:=[.c md])
  (λk ρ μ=>k=0/\ρ=[(153,.d 10),(33,.c a1),(156,.g [73,110,118,111,107,101]),(56,.d (δ.length+182))]/\μ=HS σ (ar δ (.a []))\/k=1/\ρ=[(153,.d 10),(33,.c a1),(156,.g [73,110,118,111,107,101]),(56,.d (δ.length+182)),(131,.c md)]/\μ=HS σ (ar δ (.a [.c md])))
  y (λk ρ μ p=>by rcases p with⟨_,_,rfl⟩|⟨_,_,rfl⟩<;>exact r _) (.inl ⟨rfl,rfl,rfl⟩)
  (λk v ρ μ A o p x=>by
   rcases p with⟨rfl,rfl,rfl⟩|⟨rfl,_,_⟩
   ·cases o
    exact x _ _ _ _ rfl (eD [(1,ov w),(2,ov u),(5,oc (jF σ (aZ δ (MO.a [])))),(6,ow (Ri (ky cl σ (aZ δ (MO.a [])) (MV.c md) ⋯) (dK δ (MO.a []) (MO.a (ar [] (MV.c md))))))] ⋯) (.inr ⟨rfl,rfl,rfl⟩)
   ·cases o) λρ' z e p=>?_
 rcases p with⟨h,_⟩|⟨_,rfl,rfl⟩
 ·cases h
 ·exact e
theorem Nj(m:σ.R.length<=100000)(j:d<2)(h:i3 σ.R dk 2 (64+d) w)(K:Nat):au Tb (K+4) 1129 [.d 148,.c (dk:Int)] (HS σ δ)=some (.c (b0 d 0:Nat),HS σ (ar δ (.a [.c (b0 d 0:Nat)]))):=by
 have e:=IQ m h.a h.d
 have j:=m9 j
 rcases j with rfl|rfl
 ·have f:∀K,bQ Tb (au Tb K) K (fH Bv 1) [(153,.d 10),(33,.c 64),(156,.g [73,110,118,111,107,101]),(56,.d (δ.length+182))] (HS σ (ar δ (.a [])))=some (.a,[(153,.d 10),(33,.c 64),(156,.g [73,110,118,111,107,101]),(56,.d (δ.length+182)),(131,.c 1)],HS σ (ar δ (.a [.c 1]))):=λK=>
   vd (q:=31) (λδ=>⋯) (λδ=>⟨82,⋯,⋯⟩) ⋯
  have g:au Tb (K+3) 1005 [.d 10,.c 64,.g [73,110,118,111,107,101]] (HS σ δ)=some (.d (δ.length+182),HS σ (ar δ (.a [.c 1]))):=by
   have f:=f (K+2)
   exact bw [(10,oc (jF σ (aZ δ (MO.a [])))),(11,ow (Ri (ky (au Tb (K+2)) σ (aZ δ (MO.a [])) (MV.c 1) ⋯) (dK δ (MO.a []) (MO.a (ar [] (MV.c 1))))))] ⋯
  have k:(ar δ (.a [.c 1]))[δ.length]?=some (.a [.c 1]):=h9 _ _ _ rfl
  exact bw [(2,ow (e (K+1) σ δ ⋯)),(3,ow g),(4,ov (hK σ k 0 (MV.c 1) ⋯))] ⋯
 ·have f:∀K,bQ Tb (au Tb K) K (fH Bv 1) [(153,.d 10),(33,.c 65),(156,.g [73,110,118,111,107,101]),(56,.d (δ.length+182))] (HS σ (ar δ (.a [])))=some (.a,[(153,.d 10),(33,.c 65),(156,.g [73,110,118,111,107,101]),(56,.d (δ.length+182)),(131,.c 7)],HS σ (ar δ (.a [.c 7]))):=λK=>
   vd (q:=42) (λδ=>⋯) (λδ=>⟨113,⋯,⋯⟩) ⋯
  have g:au Tb (K+3) 1005 [.d 10,.c 65,.g [73,110,118,111,107,101]] (HS σ δ)=some (.d (δ.length+182),HS σ (ar δ (.a [.c 7]))):=by
   have f:=f (K+2)
   exact bw [(10,oc (jF σ (aZ δ (MO.a [])))),(11,ow (Ri (ky (au Tb (K+2)) σ (aZ δ (MO.a [])) (MV.c 7) ⋯) (dK δ (MO.a []) (MO.a (ar [] (MV.c 7))))))] ⋯
  have k:(ar δ (.a [.c 7]))[δ.length]?=some (.a [.c 7]):=h9 _ _ _ rfl
  exact bw [(2,ow (e (K+1) σ δ ⋯)),(3,ow g),(4,ov (hK σ k 0 (MV.c 7) ⋯))] ⋯
end
end
section
section
variable{K n t b c d i l ai f dk:Nat}{s:Int}{σ:St}{δ:List MO}{vals:List MV}{ta:MV}{Γ:Cf}{ad kk:Int}{e:En}{es:List (Int×En)}
theorem Inv.M(I:Inv σ Γ n)(aV args:MV)(sort:Int)(g:Nat):Inv (σ.M aV args sort g) Γ (n+1):=by
 have k:=I.y
 have o:=I.L
 have I:=I.q (show n<=n+1 from lG)
 exact⟨⟨I.a.r,I.a.A,I.a.x,I.a.y,I.a.j,I.a.m,I.a.g,I.a.h,I.a.e,I.a.f,I.a.v,I.a.p,I.a.w,I.a.z⟩,⟨I.j.d,I.j.f,I.j.e,I.j.a⟩,I.r,I.F,by
  show(ar σ.z _).length<=_;rw[aB];exact xo k,by
  show(ar σ.a _).length<=_;rw[aB];exact xo o,I.A,I.B,I.z,I.C⟩
theorem Ni{y:Prop}(I:Inv σ Γ n)(x:n<=70000)(q:d<2)(D:qx σ δ b Γ d l dk p.1 [p])(L:δ[ai]?=some (.a vals))(N:vals.length<=10)(J:∀a h,(∀K,au Tb (K+6) 1108 [.d 148,fo,.c p.1,.d (ai+182)] (HS σ δ)=some (.f,HS (σ.M p.2.a (.d (a+182)) 0 h.length) (fD h (gx h.length ((σ.a.length+1:Nat):Int) p.2.a .f 0 (.d (a+182)) (h.length+2) 0 0) 6)))->(Gw δ h)->(h[a]?=some (.a (cW p.2.g vals)))->(δ.length<=a)->y):y:=by
 obtain⟨k,i,s,t,ta,E⟩:=D.a p (.head _)
 have v:σ.R.length<=100000:=by have:=I.r;exact xu x this
 refine De I (xr x) q E k L (uR N) λa h F z H C=>?_
 refine J a h (λK=>?_) z H C
 have A:=tw (δ:=δ) I.j v D.j (GJ q) k.a (K+1)
 have u:=E.j
 have w:=KV (σ:=σ) (δ:=δ) (s0:= .e [.c 4,.c p.2.f]) (s2:=cb) (w:=p.2.j) I.j v E.a q E.m (by rw[<-u];exact k) K
 obtain⟨o,sl,Q,P,G,B,O,_,_⟩:=k
 exact bw [(2,ov (rU I.j δ G)),(3,ow A),(6,ov (ed σ B 63 (MV.d (sl+182)) ⋯)),(7,ov (hK σ O 2 (MV.e [MV.c 4,MV.c 0]) ⋯)),(11,ow w),(14,ow (F (K+1)))] ⋯
theorem ET{j:Prop}{g stk:Nat}{num ip sort ex:Int}{aV body args:MV}{cl:Call}{F:Nat}{x0 x1 x2 x3:MV}(u:δ[g]?=some (gx g num aV body ip args stk sort ex))(q:δ[g+6]?=some (.a []))(m:ai≠g+6)(z:δ[ai]?=some (.a vals))(A:vals.length<=10)(x:∀ρ',(ρ'=[(103,x0),(110,x1),(71,x2),(28,.d (ai+182)),(64,x3),(190,.d (g+182))]\/∃y,ρ'=[(103,x0),(110,x1),(71,x2),(28,.d (ai+182)),(64,x3),(190,.d (g+182)),(91,y)])->(bQ Tb cl F (fH abX 5) [(103,x0),(110,x1),(71,x2),(28,.d (ai+182)),(64,x3),(190,.d (g+182))] (HS σ δ)=some (.a,ρ',HS σ (δ.set (g+6) (.a vals))))->j):j:=by
 refine si (T:=Tb) (cl:=cl) (fuel:=F) (t:= .b 91) (e:= .d 28) (b:=[.d (.n (.k (.d 190) 194) 0 [.d 91])])
  (ρ:=[(103,x0),(110,x1),(71,x2),(28,.d (ai+182)),(64,x3),(190,.d (g+182))]) (μ:=HS σ δ) (bF:=HS σ δ) (n:=ai+182) (l:=vals)
  (λk ρ μ=>(ρ=[(103,x0),(110,x1),(71,x2),(28,.d (ai+182)),(64,x3),(190,.d (g+182))]\/∃y,ρ=[(103,x0),(110,x1),(71,x2),(28,.d (ai+182)),(64,x3),(190,.d (g+182)),(91,y)])/\μ=HS σ (δ.set (g+6) (.a (vals.take k))))
  rfl (λk ρ μ p=>by rw[p.2,df];exact jg _ _ (cH m) z) ⟨.inl rfl,by rw[List.take_zero,p_ q]⟩
  (λk v ρ μ j w p B=>by
   refine B ([(103,x0),(110,x1),(71,x2),(28,.d (ai+182)),(64,x3),(190,.d (g+182)),(91,v)]) μ ([(103,x0),(110,x1),(71,x2),(28,.d (ai+182)),(64,x3),(190,.d (g+182)),(91,v)]) (HS σ (δ.set (g+6) (.a (vals.take (k+1))))) ?_ ?_ ⟨.inr ⟨v,rfl⟩,rfl⟩
   ·rcases p.1 with rfl|⟨y,rfl⟩<;>rfl
   ·rw[p.2]
    have C:vals.take (k+1)=ar (vals.take k) v:=by
     rw[f7,w];simp[ar]
    refine C▸?_
    have r:(δ.set (g+6) (.a (vals.take k)))[g+6]?=some (.a (vals.take k)):=m6 _ q
    have h:=ky cl σ r v (bx (by simp;unfold bA;exact XT A))
    rw[jy] at h
    exact eD [(0,ov (ed σ (jg _ _ (A5) u:(δ.set (g+6) (.a (vals.take k)))[g]?=some (gx g num aV body ip args stk sort ex)) 194 (MV.d (g+6+182)) ⋯)),(1,oc (jF σ r)),(2,ow h)] ⋯) λρ' D e o=>?_
 obtain⟨p1,p2⟩:=o
 refine x ρ' p1 ?_
 rw[eC] at p2
 exact p2▸e
end
end
section
section
variable{K n t b c d i l ai f dk:Nat}{s:Int}{σ:St}{δ:List MO}{vals:List MV}{ta:MV}{Γ:Cf}{ad kk:Int}{e:En}{es:List (Int×En)}
theorem Jh{Ω:Prop}(I:Inv σ Γ n)(hn:n<=60000)(hd:d<2)(D:qx σ δ b Γ d l dk ad es)(h2:2<=es.length)(hp:es[0]?=some p)(ha:δ[ai]?=some (.a vals))(hv:vals.length<=10)(bJ:∀s' a g g0 E σ',(σ'=(σ.M (.e [.c (dk:Int),.c (b0 d 0:Nat),.e []]) (.d (g0+182)) 4 g).I s')->(∀K,au Tb (K+9) 1108 [.d 148,fo,.c ad,.d (ai+182)] (HS σ δ)=some (.f,HS (σ'.M p.2.a (.d (a+182)) 0 E.length) (fD E (gx E.length ((σ.a.length+2:Nat):Int) p.2.a .f 0 (.d (a+182)) (E.length+2) 0 0) 6)))->(Inv σ' Γ (n+2))->(Gw δ E)->(lh E g ((σ.a.length+1:Nat):Int) (.e [.c (dk:Int),.c (b0 d 0:Nat),.e []]) 0 (.d (g0+182)) (g+2) 1 vals ad)->(E[a]?=some (.a (cW p.2.g vals)))->(δ.length<=a)->(δ.length<=g)->(g+6<a)->Ω):Ω:=by
 have hl:σ.R.length<=100000:=by have:=I.r;exact(aD this (eK hn))
 obtain⟨s0,s1,O,jk,hT,h0,hr⟩:∃s0 s1 O jk,iq σ δ b ad dk [s0,s1,.e [.c 4,.c O]]/\0<O/\iq σ δ b O jk (es.map λp=>lA (.c p.1)):=by
  rcases D.o with⟨q,rfl,_⟩|⟨_,q⟩
  ·simp at h2
  ·exact q
 refine b6 (ar δ (.a [.c (b0 d 0:Nat)])) λG U6=>?_
 obtain⟨Z,T⟩:∃y:MV,y= .e [.c (dk:Int),.c (b0 d 0:Nat),.e []]:=⟨_,rfl⟩
 refine b6 (b0 d 0) λmd zR=>?_
 refine b6 (ar G (.a [])) λH yd=>?_
 refine b6 (fD H (gx H.length ((σ.a.length+1:Nat):Int) Z .f 0 (.d (G.length+182)) (H.length+2) 4 0) 6) λN M_=>?_
 refine b6 (σ.M Z (.d (G.length+182)) 4 H.length) λk V=>?_
 have wb:=yd▸((by rw[U6];exact Gw.d _ _:Gw δ G).e (Gw.d _ _))
 have wc:Gw H N:=by rw[M_];exact xO 6
 have X:=λK=>Nj (δ:=δ) hl hd D.j K
 rw[<-U6,<-zR] at X
 have m:=λK=>Df (K:=K) (σ:=σ) (δ:=H) (aV:=Z) (args:= .d (G.length+182)) (sort:=4) (by have:=I.L;exact PG hn this) (by have:=I.y;exact PG hn this)
 rw[<-M_,<-V] at m
 refine b6 H.length λg u=>?_
 have m:=u.symm▸m
 have fc:N[g]?=some (gx g ((σ.a.length+1:Nat):Int) Z .f 0 (.d (G.length+182)) (g+2) 4 0):=by rw[M_,u];exact v5 6
 have kc:N[g+6]?=some (.a []):=by rw[M_,u];exact sh 6 (i:=5) PF
 have Y:H.length=δ.length+2:=by rw[yd,aB,U6,aB]
 refine hT.a.a λob' UW MP=>?_
 have g1:=rU I.j δ UW
 have WY:=λK=>tw (δ:=δ) I.j hl D.j (GJ hd) hT.a K
 obtain⟨o,sl,wo,n',t1,t2,t3,_,_⟩:=hT
 have eo:ob'=o+182:=by rw[t1] at UW;cases UW;rfl
 subst eo
 have ne:=tn h0
 have Q:Gw δ (N.set (g+6) (.a (ar vals (.e [.c 4,.c ad])))):=Gw.q (wb.e wc) (bN [_,_,_] V0.C (V0.A+6) (.f V0.B V0.A (.f (V0.C+2) V0.B .z)) rfl u Y) _
 refine b6 (N.set (g+6) (.a (ar vals (.e [.c 4,.c ad])))) λU Na=>?_
 replace Q:=Na.symm▸Q
 have ke:=Na▸(m6 _ kc)
 refine Ki (V▸(I.M _ _ _ _)) (A7 hn) hd (V▸(qx.w (S:=λJ=>False) D (λJ J h=>h) ⟨[],(d8 _).symm⟩ Q.f λJ h=>h.elim):qx k U b Γ d l dk ad es) (M:=⟨Na▸(jg _ _ A5 fc),ke⟩) (x:=0) hv hp λs' a E P r2 r3 r4 r5 r6=>?_
 replace P:=(by rw[V];show(ar σ.a _).length+1=_;rw[aB]:k.a.length+1=σ.a.length+2)▸P
 have gd:(N.set (g+6) (.a vals))[g]?=some (gx g ((σ.a.length+1:Nat):Int) Z .f 0 (.d (G.length+182)) (g+2) 4 0):=jg _ _ A5 fc
 have gk:(N.set (g+6) (.a vals))[g+6]?=some (.a vals):=m6 _ kc
 refine bJ s' a g G.length E (k.I s') (V▸T▸u▸rfl) (λK=>?_) r2 ?_ ?_ r5 ?_ (bN [_,_,_] V0.C V0.A (.f V0.B V0.A (.f (V0.C+2) V0.B .z)) rfl u Y) ?_
 ·refine ET (σ:=k) (cl:=au Tb (K+8)) (F:=K+8) (x0:= .d 148) (x1:=fo) (x2:= .c ad) (x3:= .d (o+182)) fc kc (λhh=>bZ [_,_,_,_] (.f V0.B V0.A (.f (V0.C+2) V0.B (.o (V0.D+1) V0.C (.f (V0.A+6) V0.D .z)))) rfl u Y (cJ ha) hh) (wc.2 _ _ (wb.2 _ _ ha)) hv λρ' i_ kl=>?_
  have X:=X (K+4)
  have m:=m (K+5)
  have WY:=WY (K+4)
  have P:=P K
  have W:∀cl,dj cl (HS k (N.set (g+6) (.a vals))) (.d (g+6+182)) [.e [.c 4,.c ad]] .a=some (.f,HS k U):=λcl=>by
   have:=ky cl k gk (.e [.c 4,.c ad]) (bx (GV hv))
   rw[jy,<-Na] at this;exact this
  rw[yd] at m
  have T:=zR.symm▸T
  have m:=T▸m
  rcases i_ with rfl|⟨y,rfl⟩
  ·exact bw [(2,ov g1),(3,ow WY),(6,ov (ed σ t2 63 (MV.d (sl+182)) ⋯)),(7,ov (hK σ t3 2 (MV.e [MV.c 4,MV.c O]) ⋯)),(9,oq (ne (HS σ δ))),(13,ov MP),(14,ov MP),(15,ow X),(19,ow m),(22,os kl),(22,ov (ed k gd 194 (MV.d (g+6+182)) ⋯)),(23,oc (jF k gk)),(25,ow (W (au Tb (K+8)))),(26,ow P)] ⋯
  ·exact bw [(2,ov g1),(3,ow WY),(6,ov (ed σ t2 63 (MV.d (sl+182)) ⋯)),(7,ov (hK σ t3 2 (MV.e [MV.c 4,MV.c O]) ⋯)),(9,oq (ne (HS σ δ))),(13,ov MP),(14,ov MP),(15,ow X),(19,ow m),(22,os kl),(22,ov (ed k gd 194 (MV.d (g+6+182)) ⋯)),(23,oc (jF k gk)),(25,ow (W (au Tb (K+8)))),(26,ow P)] ⋯
 ·refine⟨aD Q.1 r3.1,λi v h=>?_⟩
  exact r3.2 _ _ (λq=>by have q:i=g:=q;have:=cJ h;exact(bZ [_,_,_,_] (.f V0.B V0.A (.f (V0.C+2) V0.B (.f V0.A V0.D (.o (V0.D+1) V0.C .z)))) rfl u Y q this)) (Q.2 _ _ h)
 ·rw[T] at r4;exact r4
 ·have:=Q.1;exact oH r6 this
 ·have:=cJ ke;exact XU u Y r6 this
end
end
section
noncomputable def fz(fs:List (Int×Nat)):List MV:=fs.map λp=> .d (p.2+182)
noncomputable def ku(fs:List (Int×Nat)):List (MV×MV):=fs.map λp=>(.c p.1,.d (p.2+182))
structure FS (σ:St) (fs:List (Int×Nat)):Prop where
 j:σ.X=fz fs
 m:σ.ab=ku fs
 p:(fs.map (·.1)).Nodup
 k:fs.length<=100
noncomputable abbrev St.F(σ:St)(fs:List (Int×Nat)):St:={σ with X:=fz fs,ab:=ku fs}
theorem mi(fs:List (Int×Nat))(p:Int×Nat):fz (ar fs p)=ar (fz fs) (.d (p.2+182)):=by unfold fz ar;simp
theorem oW(fs:List (Int×Nat))(p:Int×Nat):ku (ar fs p)=ar (ku fs) (.c p.1,.d (p.2+182)):=by unfold ku ar;simp
theorem uW(fs:List (Int×Nat)):∀p∈ku fs,∃t:Int,p.1= .c t:=λp a=>by
 refine cf (cY.mp a) λq J z0=>?_
 refine rQ z0 ?_;exact⟨_,rfl⟩
theorem Ds{fs:List (Int×Nat)}{p:Int×Nat}(h:((ar fs p).map (·.1)).Nodup):(fs.map (·.1)).Nodup/\∀q∈fs,q.1≠p.1:=by
 unfold ar at h
 rw[d9,mH] at h
 exact⟨h.1,λq a=>h.2.2 _ (gM a) _ (by simp)⟩
theorem Et(h:∀p∈d,p.1≠k):vV (ar d (k,v)) k=d:=by
 induction d with
 |nil=>
  show(if MV.k k k then[] else _)=[]
  rw[hO];rfl
 |cons p r j=>
  obtain⟨a,w⟩:=p
  show(if MV.k a k then _ else(a,w)::vV (ar r (k,v)) k)=_
  rw[fg (h (a,w) (gZ ..)),j λq m=>h q (fp _ m)];rfl
section
variable{K n t b c d i l ai f dk g:Nat}{s:Int}{σ:St}{δ:List MO}{vals:List MV}{ta:MV}{Γ:Cf}{ad kk num:Int}{e:En}{es:List (Int×En)}{fs:List (Int×Nat)}
theorem FS.u(F:FS σ (ar fs (num,g))):FS (σ.F fs) fs:=⟨rfl,rfl,(Ds F.p).1,by have:=F.k;rw[aB] at this;exact PI this⟩
theorem VH(cl:Call)(δ:List MO)(F:FS σ (ar fs (num,g))):dj cl (HS σ δ) (.d 155) [] .d=some (.d (g+182),HS (σ.Q (fz fs)) δ):=by
 have hb:(ar (fz fs) (.d (g+182))).length<=bA:=by
  have:=F.k;rw[aB] at this⊢;unfold fz bA;rw[ay];exact GW this
 refine(by kernel_rfl:(HS σ δ).set 155 (.a (fz fs))=HS (σ.Q (fz fs)) δ)▸((wu (by rw[<-mi fs (num,g),<-F.j];kernel_rfl)).trans ((Eg (v:= .d (g+182)) ?_).trans ((j7 hb).trans ?_)))
 ·unfold ar;simp only[Gh,AI,R5]
 ·unfold ar;rw[Gg]
theorem VG(δ:List MO)(F:FS σ (ar fs (num,g))):Mh (HS (σ.Q (fz fs)) δ) (.d 156) (.c num)=some (HS (σ.F fs) δ):=by
 have r:(HS (σ.Q (fz fs)) δ).set 156 (.b (ku fs))=HS (σ.F fs) δ:=⋯
 have j:=(oW fs (num,g))▸(mn (uW _) num)
 have a:∀p∈ku fs,p.1≠ .c num:=λp h=>by
  refine cf (cY.mp h) λq o z0=>?_
  refine rQ z0 ?_
  intro e;have:=(Ds F.p).2 q o;cases e;exact this rfl
 refine(dcI (by rw[<-oW fs (num,g),<-F.m];kernel_rfl)).trans ((j7 ⟨j,(lK (lJ a))▸rfl,by have:=F.k;rw[aB] at this⊢;unfold ku bA;rw[ay];exact GW this⟩).trans ?_)
 rw[Et a,r]
theorem J5(F:FS σ (ar fs (num,g)))(a:iw Tb (HS (σ.Q (fz fs)) δ) (.d (g+182)) 119=some (.c num))(K:Nat):au Tb (K+1) 830 [.d 148] (HS σ δ)=some (.d (g+182),HS (σ.F fs) δ):=bw [(2,ow ((λcl=>VH cl δ F) (au Tb K))),(4,ov a),(5,oh (VG δ F))] ⋯
theorem Kp(σ:St)(δ:List MO)(v:MV):ot Tb (HS σ δ) (.d 148) 120 v=some (HS (σ.D v) δ):=⋯
theorem pe(F:FS σ (ar fs (num,g)))(δ:List MO):mw (HS σ δ) (.d 155)=some (.c ((fs.length+1:Nat):Int)):=by
 rw[ly (n:=155) (l:=σ.X) ⋯ (by rw[F.j];have:=F.k;rw[aB] at this;unfold fz bA;rw[ay,aB];exact GW this),F.j]
 unfold fz;rw[ay,aB]
theorem Aj(F:FS σ (ar fs (num,g)))(δ:List MO):ez (HS σ δ) (.d 155) (.c (((fs.length+1:Nat):Int) - 1))=some (.d (g+182)):=by
 refine(show((fs.length+1:Nat):Int) - 1=(fs.length:Int) from GQ)▸(gn (l:=ar (fz fs) (.d (g+182))) ?_ ((show fs.length=(fz fs).length from by unfold fz;rw[ay])▸(aZ _ _)) (by have:=F.k;rw[aB] at this;exact(eK this)))
 refine(mi fs (num,g))▸F.j▸?_;kernel_rfl
theorem yI(x:Nat)(μ:Hp):ct μ .a (.c ((x+1:Nat):Int)) (.c 0)=some false:=by
 show some (MV.k _ _)=_
 rw[fg (by intro e;cases e)]
theorem Ce{v args aV:MV}{ip sort ex:Int}{stk o:Nat}{S S':List MV}(F:FS σ (ar fs (num,f)))(h:δ[f]?=some (gx f num aV (.d o) ip args stk sort ex))(q:δ[stk]?=some (.a S))(z:S.length<=100)(y:v= .f/\S'=S\/(∃t,v= .e t)/\S'=ar S v)(K:Nat):
  au Tb (K+1) 837 [.d 148,v] (HS σ δ)=some (.f,HS (σ.D v) ((δ.set stk (.a S')).set f (gx f num aV (.d o) (ip+1) args stk sort ex))):=by
 have u:FS (σ.D v) (ar fs (num,f)):=⟨F.j,F.m,F.p,F.k⟩
 have r:=pe u δ
 have w:=Aj u δ
 have sl:=Kp σ δ v
 have n0:=yI fs.length
 have x:stk≠f:=by intro e;rw[e,h] at q;cases q
 rcases y with⟨rfl,rfl⟩|⟨⟨t,rfl⟩,rfl⟩
 ·rw[p_ q]
  exact bw [(0,oh sl),(2,ov r),(7,ov r),(9,ov w),(10,ov (ed (σ.D MV.f) h 123 (MV.d o) ⋯)),(15,ov (ed (σ.D MV.f) h 127 (MV.c ip) ⋯)),(16,oh (F9 (σ.D MV.f) h 127 (MV.c (ip+1)) (MO.d 424 [(119,MV.c num),(108,aV),(123,MV.d o),(127,MV.c (ip+1)),(28,args),(258,MV.d (f+1+182)),(126,MV.d (stk+182)),(332,MV.d (f+3+182)),(333,MV.d (f+4+182)),(334,MV.d (f+5+182)),(194,MV.d (f+6+182)),(5,MV.c sort),(335,MV.c num),(205,MV.c ex),(336,MV.c (-1))]) ⋯ ⋯))] ⋯
 ·have hb:=bx (AU z)
  exact bw [(0,oh sl),(2,ov r),(7,ov r),(9,ov w),(10,ov (ed (σ.D (MV.e t)) h 123 (MV.d o) ⋯)),(15,ov (ed (σ.D (MV.e t)) h 126 (MV.d (stk+182)) ⋯)),(16,oc (jF (σ.D (MV.e t)) q)),(17,ow (ky (au Tb K) (σ.D (MV.e t)) q (MV.e t) hb)),(18,ov (ed (σ.D (MV.e t)) (jg stk (MO.a (ar S (MV.e t))) (AV x) h) 127 (MV.c ip) ⋯)),(19,oh (F9 (σ.D (MV.e t)) (jg stk (MO.a (ar S (MV.e t))) (AV x) h) 127 (MV.c (ip+1)) (MO.d 424 [(119,MV.c num),(108,aV),(123,MV.d o),(127,MV.c (ip+1)),(28,args),(258,MV.d (f+1+182)),(126,MV.d (stk+182)),(332,MV.d (f+3+182)),(333,MV.d (f+4+182)),(334,MV.d (f+5+182)),(194,MV.d (f+6+182)),(5,MV.c sort),(335,MV.c num),(205,MV.c ex),(336,MV.c (-1))]) ⋯ ⋯))] ⋯
end
end
section
noncomputable def Giv(v:MV)(S S':List MV):Prop:=v= .f/\S'=S\/(∃t,v= .e t)/\S'=ar S v
section
variable{K n t b c d i l ai f dk g h:Nat}{s:Int}{σ:St}{δ:List MO}{vals:List MV}{ta:MV}{Γ:Cf}{ad kk num:Int}{e:En}{es:List (Int×En)}{fs:List (Int×Nat)}
theorem qQ{x y:Nat}{c:Bool}(h:decide (x<y)=c)(μ:Hp):ct μ .g (.c (x:Int)) (.c (y:Int))=some c:=h▸(congrArg some (by rw[decide_eq_decide];exact PH))
theorem y9{C:Prop}{ip:Int}{aV args:MV}{stk x:Nat}(I:Inv σ Γ n)(B:n<=70000)(v:d<2)(D:qx σ δ b Γ d l dk ad es)(M:lh δ f num aV ip args stk x vals ad)(E:vals.length<=10){p:Int×En}(z:es[x]?=some p)(Q:∀q a o,(∀K,au Tb (K+9) 1150 [.d 148,.d (f+182)] (HS σ δ)=some (.f,HS ((σ.I q).M p.2.a (.d (a+182)) 0 o.length) (fD o (gx o.length ((σ.a.length+1:Nat):Int) p.2.a .f 0 (.d (a+182)) (o.length+2) 0 0) 6)))->(Inv (σ.I q) Γ (n+1))->(Fz (pw f) δ o)->(lh o f num aV ip args stk (x+1) vals ad)->(o[a]?=some (.a (cW p.2.g vals)))->(δ.length<=a)->C):C:=by
 refine b6 (ar δ (.a (es.map λp=> .c p.1))) λH u=>?_
 have w:=λK=>tZ I (xr B) v D M (uR E) K
 rw[<-u] at w
 have r:=u▸(Gw.d _ _)
 have F:=hJ σ (u▸(h9 _ _ _ rfl)) (by rw[ay];have:=D.m;exact GU this)
 rw[ay] at F
 refine Ki I B v (D.A r) (M.j r) E z λq a o J P G N O L=>?_
 refine Q q a o (λK=>?_) P (r.f.k G) N O (aD r.1 L)
 exact bw [(0,ov (ed σ M.k 205 (MV.c ↑x) ⋯)),(1,ow (w (K+2))),(2,ov F),(3,oq ((qQ (x:=x) (y:=es.length) (decide_eq_true ((ax.mp z).1))) (HS σ H))),(5,ow (J K))] ⋯
theorem y8{ip G sort ex:Int}{aV args H L v:MV}{stk q x O:Nat}{j:Int}{S S':List MV}(I:Inv σ Γ n)(V:n<=70000)(R:d<2)(D:qx σ δ b Γ d l dk ad es)(M:lh δ f num aV ip args stk x vals ad)(X:vals.length<=10)(N:x=es.length)
  (F:FS σ (ar (ar fs (j,h)) (num,f))) (E:δ[h]?=some (gx h j H (.d O) G L q sort ex)) (U:δ[q]?=some (.a S)) (Y:S.length<=100) (T:σ.Z=v) (W:Giv v S S') (K:Nat):
  au Tb (K+7) 1150 [.d 148,.d (f+182)] (HS σ δ)=some (.f,HS ((σ.F (ar fs (j,h))).D v) (((ar δ (.a (es.map λp=> .c p.1))).set q (.a S')).set h (gx h j H (.d O) (G+1) L q sort ex))):=by
 subst T
 obtain⟨w,C⟩:∃y,y=ar δ (.a (es.map λp=> .c p.1)):=⟨_,rfl⟩
 have J:=tZ I (xr V) R D M (uR X) K
 rw[<-C] at J⊢
 have r:=C▸(Gw.d _ _)
 have P:=hJ σ (C▸(h9 _ _ _ rfl)) (by rw[ay];have:=D.m;exact XW N this)
 rw[ay] at P
 exact bw [(0,ov (ed σ M.k 205 (MV.c ↑x) ⋯)),(1,ow J),(2,ov P),(3,oq ((qQ (x:=x) (y:=es.length) (decide_eq_false λE=>bZ [_,_] (.f V0.B V0.A (.o (V0.A+1) V0.B .z)) rfl N E)) (HS σ w))),(6,ow (J5 (δ:=w) F (ed (σ.Q (fz (ar fs (j,h)))) (r.2 _ _ M.k) 119 (.c num) ⋯) (K+5))),(7,ow (Ce (δ:=w) (v:=σ.Z) (S':=S') (FS.u F) (r.2 _ _ E) (r.2 _ _ U) Y W (K+5)))] ⋯
theorem tg{ip:Int}{aV args v:MV}{stk x:Nat}{a:Hp}(F:FS σ (ar fs (num,f)))(M:lh δ f num aV ip args stk x vals ad)(K:Nat)(H:au Tb K 1150 [.d 148,.d (f+182)] (HS (σ.D v) δ)=some (.f,a)):
  au Tb (K+2) 837 [.d 148,v] (HS σ δ)=some (.f,a):=by
 have q:FS (σ.D v) (ar fs (num,f)):=⟨F.j,F.m,F.p,F.k⟩
 have o:=pe q δ
 have n0:=yI fs.length
 exact bw [(0,oh (Kp σ δ v)),(2,ov o),(7,ov o),(9,ov (Aj q δ)),(10,ov (ed (σ.D v) M.k 123 MV.f ⋯)),(15,ow (bw [(0,ow H)] ⋯:au Tb (K+1) 1082 [.d 176,.d 148,.d (f+182)] (HS (σ.D v) δ)=some (.f,a)))] ⋯
end
end
section
theorem Cr(h:c≠84):kd v c=kd 0 c:=by
 unfold kd
 have hb:aT c 84=false:=by cases e:aT c 84 with|false=>rfl|true=>exact absurd (aK e) h
 simp[hb]
theorem wR(a:l≠84):(if aT c 84 then l else c)≠84:=by
 cases e:aT c 84 with
 |true=>simpa using a
 |false=>simp only[dx,if_false];intro q;rw[q] at e;cases e
theorem cj.p{R:List Row}{v k l:Nat}{t:CT}(w:l≠84)(h:cj R v k (t.e l)):cj R 0 k (t.e l):=by
 cases t with
 |b c=>exact h.trans (Cr (wR w))
 |r c=>obtain⟨x,j,m,a⟩:=h;exact⟨x,j,m,by rw[Cr (wR w)] at a;exact a⟩
 |q c=>obtain⟨x,j,m,a⟩:=h;exact⟨x,j,m,by rw[Cr (wR w)] at a;exact a⟩
theorem cj.u(W:KW R)(h:cj R v k t)(g:cj R v k' t):k=k':=by
 cases t with
 |b c=>exact Lv h (Eq.symm g)
 |r c=>obtain⟨_,j,rfl,a⟩:=h;obtain⟨_,w,rfl,m⟩:=g;rw[W.f a m]
 |q c=>obtain⟨_,j,rfl,a⟩:=h;obtain⟨_,w,rfl,m⟩:=g;rw[W.f a m]
section
variable{K n t b c d i l ai f dk g h:Nat}{s:Int}{σ:St}{δ jI:List MO}{vals:List MV}{ta:MV}{Γ:Cf}{ad kk num:Int}{e:En}{es:List (Int×En)}{fs:List (Int×Nat)}{ip sort ex:Int}{args:MV}{stk:Nat}
theorem Fh(a:δ[g]?=some (gx g num aV (.d 7) ip args stk 0 ex))(K:Nat):au Tb (K+1) 1234 [.d (g+182)] (HS σ δ)=some (.h false,HS σ δ):=bw [(0,ov (ed σ a 123 (MV.d 7) ⋯)),(3,ov (ed σ a 5 (MV.c 0) ⋯))] ⋯
theorem El{u:Prop}(I:Inv σ Γ n)(z:n<=70000)(A:d<2)(B:bC l=true)(x:l≠84)(E:Sa σ jI c Γ d l e i s t ta)(w:δ[g]?=some (gx g num e.a bd ip args stk sort ex))(C:∀(R':List Row) (kr:Nat) (y:List MO),(∀K,au Tb (K+14) 671 [.d 148,.d (g+182),.c (σ.T (b0 d i))] (HS σ δ)=some (.c (kr:Int),HS (σ.r R') (cW δ y)))->(cj R' 0 kr ((Γ.r d).e l))->(dM σ.R R' 1)->u):u:=by
 refine pM (I.a.v d i A E.m) λks kr L F M G=>?_
 refine sU I.a.r (by have:=I.r;exact(aD this (eK z))) E.o B x G λR' q y D H J=>?_
 refine C R' q y (λK=>?_) (H.p x) J
 have a1:=D (K+1) (jq σ) (gj σ++δ)
 rw[LD] at a1
 exact F▸(bw [(2,ow (bw [(0,ow (bw [(1,ow (bw [(1,ov (ed σ w 108 (MV.e [MV.c ↑e.k,MV.c ↑e.h,e.j]) ⋯)),(3,ow ((UN (by have:=I.r;exact xu z this) E.a.a E.a.d) (K+8) σ δ ⋯))] ⋯:au Tb (K+11) 844 [.d 148,.d (g+182)] (HS σ δ)=some (ta,HS σ δ))),(2,ov (ed σ w 108 (MV.e [MV.c ↑e.k,MV.c ↑e.h,e.j]) ⋯)),(4,ow a1)] ⋯:au Tb (K+12) 851 [.d 148,.d (g+182),.c (kr:Int)] (HS σ δ)=some (.c (q:Int),HS (σ.r R') (cW δ y))))] ⋯:au Tb (K+13) 582 [.d 175,.d 148,.d (g+182),.c (kr:Int)] (HS σ δ)=some (.c (q:Int),HS (σ.r R') (cW δ y))))] ⋯)
theorem r8.z{k:Nat}{t:CT}{v w:MV}(h:r8 k t v w)(μ:Hp):ct μ .a w (.e [.c 0,.c 0])=some false:=by
 have e:∀{x:Int} {p:List MV},x≠0->bh 8 (.e (.c x::p))=true->ct μ .a (.e (.c x::p)) (.e [.c 0,.c 0])=some false:=λ{x p} hx hp=>by
  exact(j7 (by rw[hp];rfl)).trans (congrArg some (xK hx))
 cases h with
 |y c s n r F E u=>
  exact e (by unfold k1;cases aT c 110<;>decide) rfl
 |q c n r E u=>exact e (by decide) rfl
 |m c x r=>exact e (by decide) rfl
 |o w j=>exact e (by decide) (by show(true&&(bh 7 w&&true))=true;rw[j];rfl)
 |B c w j=>exact e (by decide) (by show(true&&(true&&(bh 7 w&&true)))=true;rw[j];rfl)
 |A c w j=>exact e (by decide) (by show(true&&(bh 7 w&&true))=true;rw[j];rfl)
theorem r8.D{R:List Row}{k:Nat}{t:CT}{v w:MV}(h:r8 k t v w)(a:cj R 0 k t):k≠0:=by
 cases h with
 |y c s n p F E u=>
  have a:=a
  rw[a]
  exact of_decide_eq_true (aQ.mp (by kernel_rfl:(RR.all λc=>decide (kd 0 c≠0))=true) c p)
 |q c n p E u=>
  have a:=a
  rw[a];rcases p with rfl|rfl<;>decide
 |m c x p=>
  have a:=a
  rw[a];rcases p with rfl|rfl|rfl<;>decide
 |o w r=>
  have a:=a
  rw[a];decide
 |B c w r=>obtain⟨_,j,h,_⟩:=a;exact PJ h
 |A c w r=>obtain⟨_,j,h,_⟩:=a;exact PJ h
noncomputable def Sh(t:CT)(w:MV):Prop:=match t with
 | .b 115=>∃x:Int,w= .e [.c 4,.c x]/\(x=0\/x=19)
 | .b 107=>∃x:Int,w= .e [.c 4,.c x]/\(x=0\/x=16)
 |_=>True
structure LL (R:List Row) (t:CT) (v w:MV):Prop where
 o:∃k,r8 k t v w
 a:∀x k,KW (R++x)->cj (R++x) 0 k t->r8 k t v w
 m:Sh t w
 p:bh 8 w=true
theorem LL.j{R x:List Row}{t:CT}{v w:MV}(h:LL R t v w):LL (R++x) t v w:=
 ⟨h.o,λy k q r=>by rw[cC] at q r;exact h.a _ k q r,h.m,h.p⟩
noncomputable def Ret(R:List Row)(t:CT)(st:List MV)(v:MV):Prop:=(t= .b 118/\st=[]/\v= .f)\/∃a,st=[a]/\LL R t a v
theorem FS.y(F:FS σ fs):FS (σ.r R) fs:=⟨F.j,F.m,F.p,F.k⟩
theorem VB(I:Inv σ Γ n)(U:n<=70000)(L:d<2)(dP:bC l=true)(cU:l≠84)(E:Sa σ jI c Γ d l e i s t ta)(q:δ[g]?=some (gx g num e.a (.d 7) ip args stk 0 ex))
  (X:δ[g+3]?=some (.a [])) (hs:δ[stk]?=some (.a st)) (hr:Ret σ.R ((Γ.r d).e l) st v) (F:FS σ (ar fs (num,g))) {V:Prop} (ω:∀(R':List Row) (y:List MO),dM σ.R R' 1->(∀K J,au Tb (K+14) 837 [.d 148,v] (HS ((σ.r R').F fs) (cW δ y))=some (.f,J)->au Tb (K+16) 1248 [op,.d 148,.d (g+182),.c 0] (HS σ δ)=some (.c (-2),J))->V):V:=by
 refine El I U L dP cU E q λR' kr y C u G=>?_
 refine ω R' y G λK J H=>?_
 have Q:=Fh (σ:=σ) q (K+14)
 have C:=C (K+1)
 obtain⟨N,M,W⟩:∃N,ez (HS σ δ) (.d 19) (.c (e.h:Int))=some (.d N)/\iw Tb (HS σ δ) (.d N) 158=some (.c (σ.T (b0 d i))):=⟨_,by rw[E.j];exact(tI σ δ L E.m).a,acL σ δ L E.m⟩
 generalize σ.T (b0 d i)=kx at*
 have P:=J5 (δ:=cW δ y) (F.y (R:=R')) (ed _ (cg y q) 119 (.c num) ⋯) (K+14)
 have o:=cg y q
 have O:=cg y hs
 have A:au Tb (K+15) 1260 [.d 148,.d (g+182),v] (HS ((σ.r R').F fs) (cW δ y))=some (.c (-2),J):=bw [(0,ov (ed ((σ.r R').F fs) o 5 (MV.c 0) ⋯)),(3,ov (ed ((σ.r R').F fs) o 5 (MV.c 0) ⋯)),(6,ov (ed ((σ.r R').F fs) o 5 (MV.c 0) ⋯)),(9,ow H)] ⋯
 rcases hr with⟨ht,rfl,rfl⟩|⟨w,rfl,B⟩
 ·have Z:kr=0:=by rw[ht] at u;exact u
  subst Z
  exact bw [(0,ow Q),(2,ov (ed σ q 332 (MV.d (g+3+182)) ⋯)),(3,ov (sX σ X ⋯)),(9,ov (ed σ q 108 (MV.e [MV.c ↑e.k,MV.c ↑e.h,e.j]) ⋯)),(11,ov M),(12,ov W),(13,ow C),(16,ov (ed (σ.r R') (cg y q) 126 (MV.d (stk+182)) ⋯)),(17,ov (sX (σ.r R') O ⋯)),(22,ow P),(23,ow A)] ⋯
 ·have B:r8 kr ((Γ.r d).e l) w v:=by
   refine dG G.c λx hx=>?_
   have S:=G.r
   rw[hx] at u S
   exact B.a x kr S u
  have n0:=oj (c:=0) (B.D u)
  have hvn:=n0
  exact bw [(0,ow Q),(2,ov (ed σ q 332 (MV.d (g+3+182)) ⋯)),(3,ov (sX σ X ⋯)),(9,ov (ed σ q 108 (MV.e [MV.c ↑e.k,MV.c ↑e.h,e.j]) ⋯)),(11,ov M),(12,ov W),(13,ow C),(14,oq (n0 (HS (σ.r R') (cW δ y)))),(16,ov (ed (σ.r R') o 126 (MV.d (stk+182)) ⋯)),(17,ov (sX (σ.r R') O ⋯)),(22,ov (ed (σ.r R') o 126 (MV.d (stk+182)) ⋯)),(23,ov (hK (σ.r R') O 0 w ⋯)),(24,ow (q_ (σ:=σ.r R') (δ:=cW δ y) (K:=K+9) (by have t1:=G.p;have Y:=I.r;show R'.length<=_;exact Sq U t1 Y) u B)),(25,oq (B.z (HS (σ.r R') (cW δ y)))),(27,ow P),(28,ow A)] ⋯
end
end
section
section
variable{K n t b c d i l ai f dk g h:Nat}{s:Int}{σ:St}{δ jI:List MO}{vals:List MV}{ta w:MV}{Γ:Cf}{ad kk num:Int}{e:En}{es:List (Int×En)}{fs:List (Int×Nat)}{ip sort ex:Int}{args:MV}{stk:Nat}
theorem C0(k:σ.R.length<=100000)(j:d<2)(h:i3 σ.R dk 2 (64+d) w)(ma:MV)(K:Nat):au Tb (K+4) 1171 [.d 148,.e [.c (dk:Int),.c (b0 d 0:Nat),ma]] (HS σ δ)=some (.d (hU (b0 d 0)),HS σ δ):=by
 have e:=IQ k h.a h.d
 have j:=m9 j
 rcases j with rfl|rfl
 ·exact bw [(16,ow (e (K+1) σ δ ⋯))] ⋯
 ·exact bw [(16,ow (e (K+1) σ δ ⋯))] ⋯
theorem yy(k:σ.R.length<=100000)(h:i3 σ.R dk 2 t w)(j:Int)(ma:MV)(x:Int)(K:Nat):au Tb (K+3) 1185 [.d 148,.e [.c (dk:Int),.c j,ma],.e [.c 4,.c x]] (HS σ δ)=some (.h true,HS σ δ):=bw [(2,ow ((pP k h.a (by have:=h.b;exact AW this) false (.inr (.inl ⟨rfl,rfl⟩))) K σ δ ⋯))] ⋯
theorem Dm(cl:Call)(I:iQ σ n)(δ:List MO)(h:cV σ.B (.c ad)=some o):dj cl (HS σ δ) (.d 144) [.c ad] .b=some (o,HS σ δ):=by
 have g:(HS σ δ)[144]?=some (.b σ.B):=⋯
 rw[v8 g (I.q ad),h];rfl
theorem Ux(x:Nat)(μ:Hp):ct μ .a (.c (x:Int)) (.c (x:Int))=some true:=by
 show some (MV.k _ _)=_
 rw[hO]
theorem Fg(H:iQ σ n)(u:σ.R.length<=100000)(h:i3 σ.R dk 2 t w)(q:fM σ δ b ad dk)(K:Nat):au Tb (K+4) 1213 [.d 148,.e [.c 4,.c ad],.c (dk:Int)] (HS σ δ)=some (.h true,HS σ δ):=by
 refine q.a λo p v=>?_
 have k:=h.b
 have j:=oj (m:=dk) (c:=12) (GR k)
 exact bw [(4,oq ((tn (H.r p)) (HS σ δ))),(6,oq (j (HS σ δ))),(9,ow (bw [(0,oq (j (HS σ δ))),(2,oq ((oj (m:=dk) (c:=13) (GF k)) (HS σ δ))),(4,oq ((oj (m:=dk) (c:=14) (PD k)) (HS σ δ))),(7,ow ((Cc u h.a) (K+1) σ δ ⋯))] ⋯:au Tb (K+3) 202 [.d 11,.c (dk:Int)] (HS σ δ)=some (.h true,HS σ δ))),(16,ow ((λcl=>Dm cl H δ p) (au Tb (K+3)))),(19,ov v),(20,oq ((Ux dk) (HS σ δ)))] ⋯
theorem p6(a:ct (HS σ δ) .b (.c x) (.c 4)=some true)(K:Nat):au Tb (K+1) 1213 [.d 148,.e (.c x::p),k] (HS σ δ)=some (.h true,HS σ δ):=bw [(1,oq a)] ⋯
theorem nX(K:Nat):au Tb (K+1) 1213 [.d 148,cb,k] (HS σ δ)=some (.h true,HS σ δ):=bw [] ⋯
theorem J9(K:Nat):au Tb (K+1) 1213 [.d 148,.e [.c 4,.c x],.c 12] (HS σ δ)=some (.h true,HS σ δ):=by
 by_cases h:x=0
 ·subst h;exact nX K
 ·have j:ct (HS σ δ) .a (.c x) (.c 0)=some false:=by
   show some (MV.k (.c x) (.c 0))=_
   rw[fg (by intro e;cases e;exact h rfl)]
  exact bw [(4,oq j)] ⋯
theorem N3(I:Inv σ Γ n)(K:Nat):au Tb (K+4) 1213 [.d 148,.e [.c 4,.c 19],.c 13] (HS σ δ)=some (.h true,HS σ δ):=bw [(16,ow ((λcl=>Dm cl I.j δ I.B) (au Tb (K+3))))] ⋯
theorem Kh(R:List Row):(b9 R)[18]?=some (.e [.c 2,.c 66,.e []]):=by
 rw[b9,aJ (by simp[bR])];rfl
theorem N1(I:Inv σ Γ n)(a:σ.R.length<=100000)(K:Nat):au Tb (K+4) 1213 [.d 148,.e [.c 4,.c 16],.c 18] (HS σ δ)=some (.h true,HS σ δ):=bw [(9,ow (bw [(7,ow ((Cc (m:=18) a (Kh σ.R)) (K+1) σ δ ⋯))] ⋯:au Tb (K+3) 202 [.d 11,.c 18] (HS σ δ)=some (.h true,HS σ δ))),(16,ow ((λcl=>Dm cl I.j δ I.A) (au Tb (K+3))))] ⋯
theorem Di(I:Inv σ Γ n)(D:σ.R.length<=100000)(p:cj σ.R 0 k u)(h:r8 k u v w)(C:Sh u w)(K:Nat):au Tb (K+4) 1213 [.d 148,w,.c (k:Int)] (HS σ δ)=some (.h true,HS σ δ):=by
 cases h with
 |y c s n r E j a=>
  refine p6 ?_ (K+3)
  unfold k1
  cases aT c 110<;>rfl
 |q c n r j a=>exact p6 rfl (K+3)
 |m c x r=>
  have p:=p
  subst p
  rcases r with rfl|rfl|rfl
  ·refine cf C λy j a=>?_
   refine fJ j ?_
   rcases a with rfl|rfl
   ·exact nX (K+3)
   ·exact N3 I K
  ·exact J9 (K+3)
  ·refine cf C λy j a=>?_
   cases j
   rcases a with rfl|rfl
   ·exact nX (K+3)
   ·exact N1 I D K
 |o w z=>exact p6 rfl (K+3)
 |B c w z=>exact p6 rfl (K+3)
 |A c w z=>exact p6 rfl (K+3)
end
end
section
structure fE (R:List Row) (ts:List CT) (vs ws:List MV):Prop where
 m:vs.length=ts.length
 k:ws.length=ts.length
 o:∀(j:Nat) (t:CT),ts[j]?=some t->∃v w,vs[j]?=some v/\ws[j]?=some w/\LL R t v w
theorem fE.p(h:fE R ts vs ws):fE (R++x) ts vs ws:=
 ⟨h.m,h.k,λj t q=>by refine dY (h.o j t q) λv w a e r=>?_;exact⟨v,w,a,e,r.j⟩⟩
theorem nV(g:∃x,R'=R++x)(h:fE R ts vs ws):fE R' ts vs ws:=by obtain⟨x,rfl⟩:=g;exact h.p
theorem ij.o{q m:Type}{p:q->m->Prop}:∀{x:List q} {y:List m} {j:Nat} {t:m},ij p x y->y[j]?=some t->∀{r:Prop},(∀k,x[j]?=some k->p k t->r)->r
 |a::_,_::_,0,_,h,ht,_,ω=>by cases ht;exact ω a rfl h.1
 |_::x,_::y,j+1,_,h,ht,_,ω=>ij.o (x:=x) (y:=y) (j:=j) h.2 ht ω
 |[],[],_,_,_,ht,_,_=>nomatch ht
 |[],_::_,_,_,h,_,_,_=>h.elim
 |_::_,[],_,_,h,_,_,_=>h.elim
theorem rD{l:List MV}{k:Nat}{v:MV}(μ:Hp)(h:l[k]?=some v)(a:k<=1000):ez μ (.e l) (.c (k:Int))=some v:=by
 delta ez;exact(RA _).trans (JV h (rH a))
inductive Ar5 (R:List Row) (ks:List Nat) (vs ws:List MV) (j:Nat):Prop
 |mk (t k v w) (h1:ks[j]?=some k) (h2:vs[j]?=some v) (h3:ws[j]?=some w) (h4:cj R 0 k t) (h5:r8 k t v w)
inductive Ar6 (R:List Row) (ks:List Nat) (ws:List MV) (j:Nat):Prop
 |mk (t k v w) (h1:ks[j]?=some k) (h3:ws[j]?=some w) (h4:cj R 0 k t) (h5:r8 k t v w) (h6:Sh t w)
theorem pd{R R':List Row}{u m l:Nat}{ks:List Nat}{ts:List CT}{vs ws:List MV}(J:l≠84)(A:fE R (ts.map (CT.e l)) vs ws)(G:dM R R' m)(D:ij (λk t=>cj R' u k t) ks (ts.map (CT.e l))){j:Nat}(hj:j<ts.length){y:Prop}(I:∀t k v w,ks[j]?=some k->vs[j]?=some v->ws[j]?=some w->cj R' 0 k t->r8 k t v w->Sh t w->y):y:=by
 have B:(ts.map (CT.e l))[j]?=some (ts[j].e l):=by rw[aL,aN hj];rfl
 refine dY (A.o j _ B) λv w H E C=>?_
 refine D.o B λk F q=>?_
 have q:=q.p J
 refine I _ k v w F H E q ?_ C.m
 refine dG G.c λx L=>?_
 have z:=G.r
 rw[L] at q z
 exact C.a x k z q
section
variable{K n t b c d i l ai f dk g h vi:Nat}{s:Int}{σ:St}{δ jI:List MO}{vs ws:List MV}{ta w aV:MV}{Γ:Cf}{ad kk num:Int}{ks:List Nat}{ts:List CT}
theorem HU{D:Prop}(W:σ.R.length<=100000)(P:δ[vi]?=some (.a vs))(r:ks.length<=3)(A:ws.length=ks.length)(E:vs.length=ks.length)
  (U:∀j,j<ks.length->Ar5 σ.R ks vs ws j) (X:∀ρ',(ρ'=[(103,.d 148),(108,aV),(220,.d (vi+182)),(160,.e (cB ks)),(56,.d (δ.length+182))]\/∃x y,ρ'=[(103,.d 148),(108,aV),(220,.d (vi+182)),(160,.e (cB ks)),(56,.d (δ.length+182)),(182,x),(91,y)])->(bQ Tb (au Tb (K+6)) (K+6) (fH Rl 2) [(103,.d 148),(108,aV),(220,.d (vi+182)),(160,.e (cB ks)),(56,.d (δ.length+182))] (HS σ (ar δ (.a [])))=some (.a,ρ',HS σ (ar δ (.a ws))))->D):D:=by
 have o:aO Tb (au Tb (K+6)) (.p (.d 160)) [(103,.d 148),(108,aV),(220,.d (vi+182)),(160,.e (cB ks)),(56,.d (δ.length+182))] (HS σ (ar δ (.a [])))=some (.c ((ks.length:Nat):Int),HS σ (ar δ (.a []))):=by
  have:mw (HS σ (ar δ (.a []))) (.e (cB ks))=some (.c ((ks.length:Nat):Int)):=by
   show gd ((cB ks).length<=bA) (some (MV.c ((cB ks).length:Nat)))=_
   rw[j7 (by unfold cB bA;simp;exact(eK r))];unfold cB;simp
  exact oi [(0,ov this)] ⋯
 refine pN (T:=Tb) (cl:=au Tb (K+6)) (fuel:=K+6) (n:=ks.length) (t:= .b 182) (e:= .p (.d 160)) (b:=[.f (.b 91) (.j 879 [.d 103,.h (.d 160) (.d 182),.h (.d 220) (.d 182)]),.m (.q .a (.d 91) (.g (.e [.c 0,.c 0]))) [.p (.g .f)] [],.d (.n (.d 56) 0 [.d 91])])
  (ρ:=[(103,.d 148),(108,aV),(220,.d (vi+182)),(160,.e (cB ks)),(56,.d (δ.length+182))]) (μ:=HS σ (ar δ (.a []))) (bF:=HS σ (ar δ (.a [])))
  (λk ρ μ=>(ρ=[(103,.d 148),(108,aV),(220,.d (vi+182)),(160,.e (cB ks)),(56,.d (δ.length+182))]\/∃x y,ρ=[(103,.d 148),(108,aV),(220,.d (vi+182)),(160,.e (cB ks)),(56,.d (δ.length+182)),(182,x),(91,y)])/\μ=HS σ (ar δ (.a (ws.take k))))
  o (eK r) ⟨.inl rfl,rfl⟩
  (λk ρ μ D u p G=>by
   obtain⟨t,kk,v,w,S,N,V,Q,I⟩:=U k u
   have O:ws.take (k+1)=ar (ws.take k) w:=by
    rw[f7,V];simp[ar]
   have H:=rD (HS σ (ar δ (.a (ws.take k)))) (l:=cB ks) (k:=k) (v:= .c (kk:Int)) (by unfold cB;rw[aL,S];rfl) (XY r A E u)
   have M:=jZ σ (fV (.a (ws.take k)) P) N (XX r A E u)
   have J:=q_ (σ:=σ) (δ:=ar δ (.a (ws.take k))) (K:=K) W Q I
   have L:=I.z
   have B:=ky (au Tb (K+6)) σ (h9 δ (.a (ws.take k)) δ.length rfl) w (bx (by simp;unfold bA;exact XO r A E u))
   rw[dK,<-O] at B
   have F:=h9 δ (.a (ws.take k)) δ.length rfl
   obtain⟨p1,rfl⟩:=p
   rcases p1 with rfl|⟨x,y,rfl⟩
   ·refine G ([(103,.d 148),(108,aV),(220,.d (vi+182)),(160,.e (cB ks)),(56,.d (δ.length+182)),(182,.c (k:Int))]) (HS σ (ar δ (.a (ws.take k)))) ([(103,.d 148),(108,aV),(220,.d (vi+182)),(160,.e (cB ks)),(56,.d (δ.length+182)),(182,.c (k:Int)),(91,w)]) (HS σ (ar δ (.a (ws.take (k+1))))) rfl ?_ ⟨.inr ⟨_,_,rfl⟩,rfl⟩
    exact eD [(0,ov H),(1,ov M),(2,ow J),(3,oq (L (HS σ (ar δ (MO.a (hY k ws)))))),(5,oc (jF σ F)),(6,ow B)] ⋯
   ·refine G ([(103,.d 148),(108,aV),(220,.d (vi+182)),(160,.e (cB ks)),(56,.d (δ.length+182)),(182,.c (k:Int)),(91,y)]) (HS σ (ar δ (.a (ws.take k)))) ([(103,.d 148),(108,aV),(220,.d (vi+182)),(160,.e (cB ks)),(56,.d (δ.length+182)),(182,.c (k:Int)),(91,w)]) (HS σ (ar δ (.a (ws.take (k+1))))) rfl ?_ ⟨.inr ⟨_,_,rfl⟩,rfl⟩
    exact eD [(0,ov H),(1,ov M),(2,ow J),(3,oq (L (HS σ (ar δ (MO.a (hY k ws)))))),(5,oc (jF σ F)),(6,ow B)] ⋯) λρ' Y e C=>?_
 obtain⟨p1,p2⟩:=C
 refine X ρ' p1 ?_
 rw[<-A,eC] at p2
 exact p2▸e
end
end
section
section
variable{K n t b c d i l ai f dk g h vi:Nat}{s:Int}{σ:St}{δ jI:List MO}{vs ws:List MV}{ta w aV:MV}{Γ:Cf}{ad kk num:Int}{ks:List Nat}{ts:List CT}
noncomputable abbrev kO(R:List Row)(d l dk:Nat):Prop:=i3 R dk 2 (64+d) (.e [.c (kd 0 l:Nat)])
theorem iI(g:∃x,R'=R++x)(h:kO R d l dk):kO R' d l dk:=by obtain⟨x,rfl⟩:=g;exact h.c
noncomputable abbrev jO(dk d:Nat):MV:= .e [.c (dk:Int),.c (b0 d 0:Nat),.e []]
theorem pV{m:Prop}(I:Inv σ Γ n)(A:n<=70000)(o:d<2)(p:bC l=true)(z:l≠84)(u:kO σ.R d l dk)(K:Nat)(δ:List MO)(q:∀(R':List Row) (kr:Nat) (ks:List Nat) (y:List MO),(au Tb (K+12) 1012 [.d 10,jO dk d] (HS σ δ)=some (.e [.c (kr:Int),.e (cB ks)],HS (σ.r R') (cW δ y)))->(ij (λk t=>cj R' (Γ.v 0) k t) ks ((Γ.T d).map (CT.e l)))->(dM σ.R R' 4)->m):m:=by
 refine VU (kk:=dk) (ma:= .e []) I.a (by have:=I.r;exact(aD this (eK A))) o (i:=0) PN (.b _) p z ⟨2,_,u.a,.inl rfl⟩ λR' kr ks j B x G=>?_
 obtain⟨y,j⟩:=j K δ
 exact q R' kr ks y j x G
theorem Inv.D(I:Inv σ Γ n)(g:dM σ.R R' c):Inv (σ.r R') Γ (n+c):=I.R g
theorem Us{u:Prop}(I:Inv σ Γ n)(D:n<=70000)(E:d<2)(F:bC l=true)(P:l≠84)(O:kO σ.R d l dk)(C:vs.length=(Γ.T d).length)(m:ws.length=(Γ.T d).length)
  (H:∀R' ks,dM σ.R R' 4->ij (λk t=>cj R' (Γ.v 0) k t) ks ((Γ.T d).map (CT.e l))->∀j,j<(Γ.T d).length->Ar5 R' ks vs ws j) (M:δ[vi]?=some (.a vs)) (L:∀R' q o,(au Tb (K+13) 1178 [.d 148,jO dk d,.d (vi+182)] (HS σ δ)=some (.d (o+182),HS (σ.r R') q))->(dM σ.R R' 4)->(Gw δ q)->(q[o]?=some (.a ws))->(δ.length<=o)->u):u:=by
 refine pV I D E F P O K δ λR' kr ks y B A G=>?_
 have lk:ks.length=(Γ.T d).length:=by have:=A.e;rw[ay] at this;exact this
 refine HU (K:=K+6) (σ:=σ.r R') (δ:=cW δ y) (aV:=jO dk d) (ks:=ks) (vs:=vs) (ws:=ws) (by have N:=G.p;have J:=I.r;show R'.length<=_;exact Sr D N J) (cg y M) (X3 C m (I.a.a d) lk) (X2 m lk) (X1 C m lk) (λj hj=>H R' ks G A j (XZ m lk hj)) λρ' Q e=>?_
 refine L R' (ar (cW δ y) (.a ws)) ((cW δ y).length) ?_ G ((Gw.k _ _).e (Gw.d _ _)) (h9 _ _ _ rfl) ((Gw.k δ y).1)
 rcases Q with rfl|⟨x,z,rfl⟩
 ·exact bw [(1,ow B),(4,os e)] ⋯
 ·exact bw [(1,ow B),(4,os e)] ⋯
theorem Gy{A:Prop}(I:Inv σ Γ n)(O:n<=70000)(G:δ[vi]?=some (.a (w::ws)))(q:ks.length<=3)(y:ws.length=ks.length)
  (N:∀j,j<ks.length->Ar6 σ.R ks ws j) (Q:∀ρ',(ρ'=[(103,.d 148),(108,aV),(218,x3),(28,.d (vi+182)),(160,.e (cB ks)),(226,.c 1)]\/∃x,ρ'=[(103,.d 148),(108,aV),(218,x3),(28,.d (vi+182)),(160,.e (cB ks)),(226,.c 1),(182,x)])->(bQ Tb (au Tb (K+4)) (K+4) (fH Rm 3) [(103,.d 148),(108,aV),(218,x3),(28,.d (vi+182)),(160,.e (cB ks)),(226,.c 1)] (HS σ δ)=some (.a,ρ',HS σ δ))->A):A:=by
 have o:aO Tb (au Tb (K+4)) (.p (.d 160)) [(103,.d 148),(108,aV),(218,x3),(28,.d (vi+182)),(160,.e (cB ks)),(226,.c 1)] (HS σ δ)=some (.c ((ks.length:Nat):Int),HS σ δ):=by
  have:mw (HS σ δ) (.e (cB ks))=some (.c ((ks.length:Nat):Int)):=by
   show gd ((cB ks).length<=bA) (some (MV.c ((cB ks).length:Nat)))=_
   rw[j7 (by unfold cB bA;simp;exact(eK q))];unfold cB;simp
  exact oi [(0,ov this)] ⋯
 refine pN (T:=Tb) (cl:=au Tb (K+4)) (fuel:=K+4) (n:=ks.length) (t:= .b 182) (e:= .p (.d 160)) (b:=[.m (.C (.j 1213 [.d 103,.h (.d 28) (.r .a (.d 226) (.d 182)),.h (.d 160) (.d 182)])) [.p (.g (.h false))] []])
  (ρ:=[(103,.d 148),(108,aV),(218,x3),(28,.d (vi+182)),(160,.e (cB ks)),(226,.c 1)]) (μ:=HS σ δ) (bF:=HS σ δ)
  (λk ρ μ=>(ρ=[(103,.d 148),(108,aV),(218,x3),(28,.d (vi+182)),(160,.e (cB ks)),(226,.c 1)]\/∃x,ρ=[(103,.d 148),(108,aV),(218,x3),(28,.d (vi+182)),(160,.e (cB ks)),(226,.c 1),(182,x)])/\μ=HS σ δ)
  o (GS q y) ⟨.inl rfl,rfl⟩
  (λk ρ μ A u p B=>by
   obtain⟨t,kk,v,S,J,M,H,L,P⟩:=N k u
   have D:=rD (HS σ δ) (l:=cB ks) (k:=k) (v:= .c (kk:Int)) (by unfold cB;rw[aL,J];rfl) (PE q y u)
   have F:=(show(1:Int)+(k:Int)=((k+1:Nat):Int) from A6)▸(jZ σ G M (XQ q y u))
   have E:=Di (δ:=δ) I (by have:=I.r;exact xu O this) H L P K
   obtain⟨p1,rfl⟩:=p
   rcases p1 with rfl|⟨x,rfl⟩
   ·refine B ([(103,.d 148),(108,aV),(218,x3),(28,.d (vi+182)),(160,.e (cB ks)),(226,.c 1),(182,.c (k:Int))]) (HS σ δ) ([(103,.d 148),(108,aV),(218,x3),(28,.d (vi+182)),(160,.e (cB ks)),(226,.c 1),(182,.c (k:Int))]) (HS σ δ) rfl ?_ ⟨.inr ⟨_,rfl⟩,rfl⟩
    exact eD [(1,ov F),(2,ov D),(3,ow E)] ⋯
   ·refine B ([(103,.d 148),(108,aV),(218,x3),(28,.d (vi+182)),(160,.e (cB ks)),(226,.c 1),(182,.c (k:Int))]) (HS σ δ) ([(103,.d 148),(108,aV),(218,x3),(28,.d (vi+182)),(160,.e (cB ks)),(226,.c 1),(182,.c (k:Int))]) (HS σ δ) rfl ?_ ⟨.inr ⟨_,rfl⟩,rfl⟩
    exact eD [(1,ov F),(2,ov D),(3,ow E)] ⋯) λρ' U e z=>?_
 obtain⟨p1,p2⟩:=z
 subst p2
 exact Q ρ' p1 e
end
end
section
section
variable{K n t b c d i l ai f dk g h vi:Nat}{s:Int}{σ:St}{δ jI:List MO}{vs ws:List MV}{ta w aV:MV}{Γ:Cf}{ad kk num:Int}{ks:List Nat}{ts:List CT}
theorem tJ(a:d<2)(K:Nat):au Tb (K+1) 1019 [.d (hU (b0 d 0))] (HS σ δ)=some (.h false,HS σ δ):=by
 have a:=m9 a
 rcases a with rfl|rfl
 ·exact bw [] ⋯
 ·exact bw [] ⋯
theorem C3(a:d<2)(K:Nat):au Tb (K+2) 1199 [.d 148,.d (hU (b0 d 0))] (HS σ δ)=some (.h true,HS σ δ):=by
 have a:=m9 a
 rcases a with rfl|rfl
 ·exact bw [] ⋯
 ·exact bw [] ⋯
theorem JC(σ:St)(δ:List MO)(a:d<2):iw Tb (HS σ δ) (.d (hU (b0 d 0))) 123=some .f:=by
 have a:=m9 a
 rcases a with rfl|rfl
 ·kernel_rfl
 ·kernel_rfl
theorem GB{L:Prop}(I:Inv σ Γ n)(H:n<=60000)(z:d<2)(O:bC l=true)(F:l≠84)(U:kO σ.R d l dk)(A:fE σ.R ((Γ.T d).map (CT.e l)) vs ws)(P:δ[vi]?=some (.a (w::ws)))
  (N:∀R' p,dM σ.R R' 4->Gw δ p->au Tb (K+12) 1213 [.d 148,w,.c (dk:Int)] (HS (σ.r R') p)=some (.h true,HS (σ.r R') p)) (V:∀R' p,(au Tb (K+13) 1220 [.d 148,jO dk d,.d (hU (b0 d 0)),.d (vi+182)] (HS σ δ)=some (.h true,HS (σ.r R') p))->(dM σ.R R' 4)->(Gw δ p)->L):L:=by
 refine pV I (xv H) z O F U K δ λR' kr ks y C B G=>?_
 have lk:ks.length=(Γ.T d).length:=by have:=B.e;rw[ay] at this;exact this
 have u:=A.k
 have M:=A.m
 rw[ay] at u M
 have o:=cg y P
 refine Gy (K:=K+8) (σ:=σ.r R') (δ:=cW δ y) (vi:=vi) (aV:=jO dk d) (x3:= .d (hU (b0 d 0))) (I.D G) (PO H) o (lk▸(I.a.a d)) (lk▸u) (λj hj=>pd F A G B (X4 lk u M hj) λt k v w Q J=> .mk t k v w Q) λρ' S e=>?_
 have q:=tJ (σ:=σ.r R') (δ:=cW δ y) z (K+11)
 have E:=N R' (cW δ y) G (Gw.k _ _)
 refine V R' (cW δ y) ?_ G (Gw.k _ _)
 rcases S with rfl|⟨x,rfl⟩
 ·exact bw [(1,ow C),(3,ow q),(6,ov (hK (σ.r R') o 0 w ⋯)),(8,ow E),(11,os e)] ⋯
 ·exact bw [(1,ow C),(3,ow q),(6,ov (hK (σ.r R') o 0 w ⋯)),(8,ow E),(11,os e)] ⋯
end
end
section
section
variable{K n t b c d i l ai f dk g h vi fi stk:Nat}{s ip sort ex:Int}{σ:St}{δ jI:List MO}{vs ws:List MV}{ta w aV bd args:MV}{Γ:Cf}{ad kk num:Int}{ks:List Nat}{ts:List CT}
theorem pg{l:List MV}(h:δ[i]?=some (.a l))(j:l.length<=1000)(k:Nat)(m:k<=1000)(σ:St):lB (HS σ δ) (.d (i+182)) (some (.c (k:Int))) none=some (.d (δ.length+182),HS σ (ar δ (.a (l.drop k)))):=by
 have e:=yF (μ:=HS σ δ) (n:=i+182) (by rw[df];exact h) (xF m) (show jY none=some none from rfl) (rA j)
 rw[kG,kF] at e
 exact e
theorem Inv.O(I:Inv σ Γ n)(u:n<=70000)(p:kO σ.R d l dk)(o:fM σ δ b ad dk)(K:Nat):∀R' k,dM σ.R R' 4->Gw δ k->au Tb (K+12) 1213 [.d 148,.e [.c 4,.c ad],.c (dk:Int)] (HS (σ.r R') k)=some (.h true,HS (σ.r R') k):=λR' k G w=>by
 have m:=I.D G
 exact Fg (σ:=σ.r R') m.j (by have:=m.r;exact(aD this (eK (aM u _)))) (iI G.c p) (fM.d (S:=λJ=>False) o (λJ J h=>h) w.f λJ h=>h.elim) (K+8)
theorem abV{C:Prop}(I:Inv σ Γ n)(B:n<=60000)(u:d<2)(D:bC l=true)(P:l≠84)(z:kO σ.R d l dk)(A:fE σ.R ((Γ.T d).map (CT.e l)) vs ws)(y:δ[vi]?=some (.a (.e [.c 4,.c ad]::ws)))(x:fM σ δ b ad dk)(Q:∀R' m,(dM σ.R R' 4)->(Gw δ m)->(∀q,au Tb (K+12) 1108 [.d 148,fo,.c ad,.d (m.length+182)] (HS (σ.r R') (ar m (.a ws)))=some (.f,q)->
   au Tb (K+14) 1206 [.d 148,fo,jO dk d,.d (hU (b0 d 0)),.d (vi+182)] (HS σ δ)=some (.c (-2),q))->C):C:=by
 refine GB (K:=K) I B u D P z A y (I.O (xv B) z x K) λR' m F G v=>?_
 refine Q R' m G v λq H=>?_
 have p:=v.2 _ _ y
 have N:ws.length<=3:=by have:=A.k;rw[ay] at this;have M:=I.a.a d;exact Ss this M
 refine cf x λo L _=>?_
 have J:=I.j.r L
 have E:∀μ,ct μ .a (.e [.c 4,.c ad]) (.e [.c 4,.c 0])=some false:=λμ=>by
  show some (MV.k (.e [.c 4,.c ad]) (.e [.c 4,.c 0]))=_
  rw[fg (by intro e;cases e;exact absurd J (by decide))]
 have S:au Tb (K+13) 1075 [.d 176,.d 148,fo,.c ad,.d (m.length+182)] (HS (σ.r R') (ar m (.a ws)))=some (.f,q):=bw [(0,ow H)] ⋯
 exact bw [(0,ov (JC σ δ u)),(3,ow F),(6,ow (C3 (σ:=σ.r R') (δ:=m) u (K+11))),(8,ov (hK (σ.r R') p 0 (MV.e [MV.c 4,MV.c ad]) ⋯)),(9,oq (E (HS (σ.r R') m))),(13,ov (hK (σ.r R') p 0 (MV.e [MV.c 4,MV.c ad]) ⋯)),(15,ow (pg p (by simp;exact PQ N) 1 (by decide) (σ.r R'))),(16,ow S)] ⋯
end
end
section
section
variable{K n t b c d i l ai f dk g h vi fi stk:Nat}{s ip sort ex:Int}{σ:St}{δ jI:List MO}{vs ws bj:List MV}{ta w aV bd args:MV}{Γ:Cf}{ad kk num:Int}{ks:List Nat}{ts:List CT}
theorem abP{l:List MV}(h:δ[i]?=some (.a l))(j:l.length<=1000)(k:Nat)(e:k<=1000)(σ:St):HY (HS σ δ) (.d (i+182)) (.c (k:Int))=some (HS σ (δ.set i (.a (l.take k)))):=by
 unfold HY;rw[wu (by rw[df];exact h),RA]
 refine(j7 ⟨Pr e,PB e,rA j⟩).trans ?_
 rw[ti];rfl
theorem se{X:Prop}(I:Inv σ Γ n)(W:n<=50000)(G:d<2)(dP:bC l=true)(cU:l≠84)(M:kO σ.R d l dk)(z:vs.length=(Γ.T d).length)(A:ws.length=(Γ.T d).length)
  (hp:∀R' ks,dM σ.R R' 4->ij (λk t=>cj R' (Γ.v 0) k t) ks ((Γ.T d).map (CT.e l))->∀j,j<(Γ.T d).length->Ar5 R' ks vs ws j)
  (y:δ[fi]?=some (gx fi num aV bd ip args stk sort ex)) (m:δ[stk]?=some (.a (cW bj (.e [.c 4,.c ad]::vs)))) (hj:bj.length<=3) (bJ:∀R' D x,(dM σ.R R' 4)->(Fz (pw stk) δ D)->(D[stk]?=some (.a bj))->(D[x]?=some (.a (.e [.c 4,.c ad]::ws)))->(δ.length<=x)->(∀r L,au Tb (K+14) 1206 [.d 148,.d (fi+182),jO dk d,.d (hU (b0 d 0)),.d (x+182)] (HS (σ.r R') D)=some (r,L)->
   au Tb (K+15) 1192 [.d 148,.d (fi+182),jO dk d,.c (bj.length:Nat)] (HS σ δ)=some (r,L))->X):X:=by
 have U:σ.R.length<=100000:=by have:=I.r;exact PK W this
 have Z:vs.length<=3:=by have:=I.a.a d;exact X6 z A this
 have lw:ws.length<=3:=by have:=I.a.a d;exact(by rw[A,<-z];assumption)
 have q:=cJ m
 have nf:fi≠stk:=by intro e;rw[e,m] at y;cases y
 refine b6 (ar δ (.a [.e [.c 4,.c ad]])) λP J=>?_
 refine b6 (ar P (.a vs)) λdq B=>?_
 have H:=J▸(Gw.d _ _)
 have w2:=B▸(H.e (Gw.d _ _))
 have N:(cW bj (.e [.c 4,.c ad]::vs)).drop (bj.length+1)=vs:=by unfold cW;simp
 have O:(cW bj (.e [.c 4,.c ad]::vs)).take bj.length=bj:=by unfold cW;simp
 have p:(cW bj (.e [.c 4,.c ad]::vs)).length<=10:=by unfold cW;simp;exact X5 z A hj Z
 refine Us (K:=K+1) (δ:=dq) (vi:=P.length) I (PT W) G dP cU M z A hp (B▸(h9 _ _ _ rfl)) λC h_ o c1 G1 w3 go lo=>?_
 have E:=w2.e w3
 refine b6 (h_.set stk (.a bj)) λV u=>?_
 refine b6 (ar V (.a (cW [.e [.c 4,.c ad]] ws))) λmO F=>?_
 have Q:=u▸(E.f.k (Fz.w _ _ _))
 refine bJ C mO V.length G1 (F▸(Q.k (Gw.d _ _).f)) ?_ (F▸(h9 _ _ _ rfl)) Q.1 λr L H2=>?_
 ·exact F▸u▸(fV _ (m6 _ (E.2 _ _ m)))
 ·have e0:=C0 (δ:=δ) U G M (.e []) (K+10)
  have Y:=fV (.a []) y
  have x0:=jZ σ (fV (.a []) m) (by unfold cW;simp:(cW bj (.e [.c 4,.c ad]::vs))[bj.length]?=some (.e [.c 4,.c ad])) (PS hj)
  have ap:=λcl=>ky cl σ (h9 δ (.a []) δ.length rfl) (.e [.c 4,.c ad]) rfl
  rw[dK] at ap
  have sl:=pg (H.2 _ _ m) (GY p) (bj.length+1) (PR hj) σ
  rw[N,<-B,show((bj.length+1:Nat):Int)=(bj.length:Int)+1 from xq] at sl
  have dl:=abP (E.2 _ _ m) (GY p) bj.length (jX hj) (σ.r C)
  rw[O,<-u] at dl
  have S:=zB (σ.r C) (u▸(jg _ _ (xp q) (w3.2 _ _ (B▸J▸(fV _ (h9 _ _ _ rfl)))))) (u▸(jg _ _ (by have:=w2.1;exact(gw (bk q (aD this lo)))) go)) (by simp) (A▸z▸(eK Z))
  rw[<-F] at S
  exact bw [(0,ow e0),(4,ow (tJ (σ:=σ) (δ:=ar δ (.a [])) G (K+13))),(7,ov (ed σ Y 126 (MV.d (stk+182)) ⋯)),(8,ov x0),(9,ow (yy (σ:=σ) (δ:=ar δ (.a [])) U M (b0 d 0:Nat) (.e []) ad (K+11))),(12,oc (jF σ (h9 δ (.a []) δ.length rfl))),(13,ov (ed σ Y 126 (MV.d (stk+182)) ⋯)),(14,ov x0),(15,ow ((λcl=>J▸(ap cl)) (au Tb (K+14)))),(17,ov (ed σ (H.2 _ _ y) 126 (MV.d (stk+182)) ⋯)),(18,ow sl),(19,ow c1),(22,ov (ed (σ.r C) (E.2 _ _ y) 126 (MV.d (stk+182)) ⋯)),(23,oh dl),(24,ow S),(25,ow H2)] ⋯
theorem Io(I:Inv σ Γ n)(N:n<=50000)(E:d<2)(L:bC l=true)(C:l≠84)(M:kO σ.R d l dk)(A:fE σ.R ((Γ.T d).map (CT.e l)) vs ws)(U:∀p,Fz (pw stk) δ p->fM σ p b ad dk)
  (hf:δ[fi]?=some (gx fi num aV bd ip args stk sort ex)) (hs:δ[stk]?=some (.a (cW bj (.e [.c 4,.c ad]::vs)))) (hj:bj.length<=3) {O:Prop} (S:∀R' p x,dM σ.R R' 8->Fz (pw stk) δ p->p[stk]?=some (.a bj)->p[x]?=some (.a ws)->δ.length<=x->(∀q,au Tb (K+12) 1108 [.d 148,.d (fi+182),.c ad,.d (x+182)] (HS (σ.r R') p)=some (.f,q)->
   au Tb (K+15) 1192 [.d 148,.d (fi+182),jO dk d,.c (bj.length:Nat)] (HS σ δ)=some (.c (-2),q))->O):O:=by
 refine se (K:=K) I N E L C M (by rw[A.m,ay]) (by rw[A.k,ay]) (λR' ks G y j hj=>by
  refine pd C A G y hj λt k v w W q2 Y q4 Z J=>?_
  exact .mk t k v w W q2 Y q4 Z) hf hs hj λR1 P o u B X y h3 H=>?_
 refine abV (K:=K) (σ:=σ.r R1) (δ:=P) (fo:= .d (fi+182)) (vi:=o) (ws:=ws) (I.D u) (A9 N) E L C (iI u.c M) (nV u.c A) y (U P B) λV F G2 z H2=>?_
 refine S V (ar F (.a ws)) F.length ((u.f G2).e A8) ((B.k z.f).k (Gw.d _ _).f) (fV _ (z.2 _ _ X)) (h9 _ _ _ rfl) ?_ λq h=>H _ _ (H2 q h)
 have t1:=B.1;have Q:=z.1;exact pE t1 Q
end
end
section
section
variable{K n t b c d i l fi v:Nat}{σ:St}{δ:List MO}{Γ:Cf}{x:Int}
noncomputable def wD(σ:St):List (MV×MV):=[((.g [110,117,109,115]),.d 1),((.g [97,116]),.c σ.U),((.g [112,97,114,97,109,115]),.d 2),((.g [114,101,116,115]),.d 3),((.g [98,111,100,121]),.d 7),((.g [108,101,116,116,101,114,115]),.d 9),((.g [107,116]),.d 11),((.g [107,105,110,100,115]),.d 79),((.g [115,111,109,101]),.d 181)]
theorem wdk(σ:St):Ww (wD σ):=⟨⋯,⋯,⋯⟩
theorem jQ{k:Prop}(I:Inv σ Γ n)(u:n<=90000)(δ:List MO)(hm:0<m)(o:∀(y:Nat) (t:Int),(y<m)->(∀K,au Tb (K+1) 1270 [.d 8,.c (m:Int)] (HS σ δ)=some (.c (y:Int),HS (σ.S t) δ))->(Up σ (σ.S t))->(Inv (σ.S t) Γ (n+1))->k):k:=by
 refine cf I.F λi s g=>?_
 refine sa (μ:=HS σ δ) (nu:=σ.nu) (d:=wD σ) ⋯ ⋯ I.a.p (⟨⋯,by rw[<-s];kernel_rfl,⋯,X9⟩) (Pu u g) hm λy q h=>?_
 refine o y ((i+1:Nat):Int) q (λK=>?_) Up.H ?_
 ·rw[h K];exact congrArg some ⋯
 ·exact I.U Up.H I.a.r ⟨by have:=I.j.d;show σ.J.length<=_;exact xt this,by have:=I.j.f;show σ.B.length<=_;exact xt this,I.j.e,I.j.a⟩ (by have:=I.r;show σ.R.length<=_;exact xt this) ⟨i+1,rfl,xo g⟩ lG
theorem IM{e:Prop}(I:Inv σ Γ n)(m:n<=90000)(B:bC c=true->rO σ.R (kd v c) (aT c 84))(j:match u with| .b x=>rS x=true/\x=c| .r x=>bC x=true/\x=c| .q x=>bC x=true/\x=c)(f:∀R' k,(∀K δ,au Tb (K+8) 1277 [.d 8,u.d,.c (v:Int)] (HS σ δ)=some (.c ((k:Nat):Int),HS (σ.r R') δ))->(cj R' v k u)->(dM σ.R R' 1)->e):e:=by
 refine wq (v:=v) I.a.r (by have:=I.r;exact GG m this) B j λR' k h g G=>?_
 exact f R' k (λK δ=>h K (jq σ) (gj σ++δ) (wD σ) ⋯ (wdk σ) ⋯) g G
theorem qS(x:Int)(h:0<=x)(μ:Hp):∃r:Int,(r=0\/r=1)/\dE μ .b (.c x) (.c 2)=some (.c r,μ):=by
 refine⟨x%2,X8,?_⟩
 rw[pb (by decide),eR _ (by decide)]
theorem pa(x:Int)(h:0<=x)(μ:Hp):∃r:Int,(r=0\/r=1\/r=2)/\dE μ .b (.c x) (.c 3)=some (.c r,μ):=by
 refine⟨x%3,X7,?_⟩
 rw[pb (by decide),eR _ (by decide)]
theorem Cx(h:bC c=true)(a:c≠84):c∈RR\/c=108\/c=76\/c=115\/c=111\/c=107\/c=112:=by
 have hb:aT c 84=false:=by cases e:aT c 84 with|false=>rfl|true=>exact absurd (aK e) a
 unfold bC at h
 rw[hb,rk] at h
 obtain⟨n,f⟩:=dU.mp h
 have:=j8 f
 exact of_decide_eq_true (aQ.mp (by kernel_rfl:(rR.all λp=>decide (p.1∈RR\/p.1=108\/p.1=76\/p.1=115\/p.1=111\/p.1=107\/p.1=112))=true) _ this)
theorem Vk{D:Prop}(E:bC c=true)(L:c≠84)(j:0<=x)(z:x<999983)(σ:St)(δ:List MO)(K:Nat)(f:∀u w,(au Tb (K+1) 1291 [.d 148,.d 8,fo,.g [c],.c x] (HS σ δ)=some (u,HS σ δ))->(r8 k (.b c) u w)->(Sh (.b c) w)->(∀m,bh (m+4) w=true)->D):D:=by
 rcases Cx E L with h|rfl|rfl|rfl|rfl|rfl|rfl
 ·have s:∀(y:Nat),y∉RR->ct (HS σ δ) .a (.g [c]) (.g [y])=some false:=λy F=>tX (by intro e;cases e;exact F h)
  have A:dE (HS σ δ) .c (.c x) (.c 4001)=some (.c (x*4001),HS σ δ):=nD (GX j z)
  refine cf (pa x j (HS σ δ)) λr p G=>?_
  have H:dE (HS σ δ) .d (.c r) (.c 2)=some (.c (r.fdiv 2),HS σ δ):=v7 (by decide) (by decide)
  obtain⟨q,C,I⟩:∃q:Int,(q=0\/q=1)/\dE (HS σ δ) .d (.c r) (.c 2)=some (.c q,HS σ δ):=⟨r.fdiv 2,by rcases p with rfl|rfl|rfl<;>decide,H⟩
  have run:au Tb (K+1) 1291 [.d 148,.d 8,fo,.g [c],.c x] (HS σ δ)=some (.e [.c (1+q*2),.c (x*4001 - 2000000000)],HS σ δ):=bw [(2,oq (s 113 (by decide))),(5,oq (s 114 (by decide))),(7,oq (s 115 (by decide))),(9,oq (s 107 (by decide))),(11,oq (s 111 (by decide))),(13,oq (s 112 (by decide))),(15,oq (s 108 (by decide))),(17,oq (s 76 (by decide))),(19,ow G),(20,ow I),(21,ow (nD (C.elim (λh=>h▸(by decide:Int.natAbs 0<2^64)) λh=>h▸(by decide:Int.natAbs 1<2^64)):dE (HS σ δ) .c (.c q) (.c 2)=some (.c (q*2),HS σ δ))),(23,ow A)] ⋯
  refine f _ _ run (.y c _ _ h (C.imp (λh=>congrArg (λx:Int=>1+x*2) h) λh=>congrArg (λx:Int=>1+x*2) h) (gq (by decide) (kN (gQ j (by decide)) _)) (cZ (kN (gQ (t9 z) (by decide)) _) (by decide))) ?_ λJ=>rfl
  exact KC (P:=λc=>Sh (.b c) _) h trivial trivial trivial trivial trivial trivial trivial trivial trivial trivial
 ·have A:dE (HS σ δ) .c (.c x) (.c 4294967311)=some (.c (x*4294967311),HS σ δ):=nD (GX j z)
  have run:au Tb (K+1) 1291 [.d 148,.d 8,fo,.g [108],.c x] (HS σ δ)=some (.e [.c 2,.c (x*4294967311 - 2000000000000000)],HS σ δ):=bw [(18,ow A)] ⋯
  exact f _ _ run (.q 108 _ (.inl rfl) (PM j z) (PL j z)) trivial λJ=>rfl
 ·have A:dE (HS σ δ) .c (.c x) (.c 4294967311)=some (.c (x*4294967311),HS σ δ):=nD (GX j z)
  have run:au Tb (K+1) 1291 [.d 148,.d 8,fo,.g [76],.c x] (HS σ δ)=some (.e [.c 2,.c (x*4294967311 - 2000000000000000)],HS σ δ):=bw [(19,ow A)] ⋯
  exact f _ _ run (.q 76 _ (.inr rfl) (PM j z) (PL j z)) trivial λJ=>rfl
 ·refine cf (qS x j (HS σ δ)) λr p m=>?_
  rcases p with rfl|rfl
  ·have run:au Tb (K+1) 1291 [.d 148,.d 8,fo,.g [115],.c x] (HS σ δ)=some (.e [.c 4,.c 19],HS σ δ):=bw [(11,ow m)] ⋯
   exact f _ _ run (.m 115 _ (.inl rfl)) ⟨_,rfl,.inr rfl⟩ λJ=>rfl
  ·have run:au Tb (K+1) 1291 [.d 148,.d 8,fo,.g [115],.c x] (HS σ δ)=some (.e [.c 4,.c 0],HS σ δ):=bw [(11,ow m)] ⋯
   exact f _ _ run (.m 115 _ (.inl rfl)) ⟨_,rfl,.inl rfl⟩ λJ=>rfl
 ·refine cf (pa x j (HS σ δ)) λr p m=>?_
  rcases p with rfl|rfl|rfl
  ·have run:au Tb (K+1) 1291 [.d 148,.d 8,fo,.g [111],.c x] (HS σ δ)=some (.e [.c 4,.c 0],HS σ δ):=bw [(13,ow m)] ⋯
   exact f _ _ run (.m 111 _ (.inr (.inl rfl))) trivial λJ=>rfl
  ·have run:au Tb (K+1) 1291 [.d 148,.d 8,fo,.g [111],.c x] (HS σ δ)=some (.e [.c 4,.c 16],HS σ δ):=bw [(13,ow m)] ⋯
   exact f _ _ run (.m 111 _ (.inr (.inl rfl))) trivial λJ=>rfl
  ·have run:au Tb (K+1) 1291 [.d 148,.d 8,fo,.g [111],.c x] (HS σ δ)=some (.e [.c 4,.c 19],HS σ δ):=bw [(13,ow m)] ⋯
   exact f _ _ run (.m 111 _ (.inr (.inl rfl))) trivial λJ=>rfl
 ·refine cf (qS x j (HS σ δ)) λr p m=>?_
  rcases p with rfl|rfl
  ·have run:au Tb (K+1) 1291 [.d 148,.d 8,fo,.g [107],.c x] (HS σ δ)=some (.e [.c 4,.c 0],HS σ δ):=bw [(11,ow m)] ⋯
   exact f _ _ run (.m 107 _ (.inr (.inr rfl))) ⟨_,rfl,.inl rfl⟩ λJ=>rfl
  ·have run:au Tb (K+1) 1291 [.d 148,.d 8,fo,.g [107],.c x] (HS σ δ)=some (.e [.c 4,.c 16],HS σ δ):=bw [(11,ow m)] ⋯
   exact f _ _ run (.m 107 _ (.inr (.inr rfl))) ⟨_,rfl,.inr rfl⟩ λJ=>rfl
 ·refine cf (pa x j (HS σ δ)) λr p m=>?_
  obtain⟨q,B⟩:∃q:Int,dE (HS σ δ) .b (.c x) (.c 256)=some (.c q,HS σ δ):=⟨_,pb (by decide)⟩
  rcases p with rfl|rfl|rfl
  ·have run:au Tb (K+1) 1291 [.d 148,.d 8,fo,.g [112],.c x] (HS σ δ)=some (.e [.c 5,.c 16,.e [.e [.c 4,.c 0],.e [.c 1,.c q]]],HS σ δ):=bw [(17,ow m),(20,ow B)] ⋯
   exact f _ _ run (.o _ rfl) trivial λJ=>rfl
  ·have run:au Tb (K+1) 1291 [.d 148,.d 8,fo,.g [112],.c x] (HS σ δ)=some (.e [.c 5,.c 16,.e [.e [.c 4,.c 16],.e [.c 1,.c q]]],HS σ δ):=bw [(17,ow m),(20,ow B)] ⋯
   exact f _ _ run (.o _ rfl) trivial λJ=>rfl
  ·have run:au Tb (K+1) 1291 [.d 148,.d 8,fo,.g [112],.c x] (HS σ δ)=some (.e [.c 5,.c 16,.e [.e [.c 4,.c 19],.e [.c 1,.c q]]],HS σ δ):=bw [(17,ow m),(20,ow B)] ⋯
   exact f _ _ run (.o _ rfl) trivial λJ=>rfl
end
end
section
section
variable{K n t b c d i l fi v stk:Nat}{σ:St}{δ:List MO}{Γ:Cf}{x num ip sort ex:Int}{aV bd args:MV}
theorem Vl(h:r8 k (.b c) u w)(p:Sh (.b c) w)(j:∀m,bh (m+4) w=true):LL R (.b c) u w:=
 ⟨⟨k,h⟩,λx z J J=>by
  cases h with
  |y c s n a r f e=>exact .y c s n a r f e
  |q c n a f e=>exact .q c n a f e
  |m c x a=>exact .m c x a
  |o w g=>exact .o w g,p,j 4⟩
theorem adg(h:0<=x)(μ:Hp):dE μ .b (.c x) (.c 2)=some (.c (x%2),μ):=by
 rw[pb (by decide),eR _ (by decide)]
theorem Km(h:0<=x)(μ:Hp):dE μ .d (.c x) (.c 2)=some (.c (x/2),μ):=by
 rw[v7 (by decide) (by decide),lX _ (by decide)]
theorem RE(I:Inv σ Γ n)(hn:n<=80000)(C:bC u.f=true)(D:u.f≠84)(m:0<=x)(O:x<999983)
  (hf:δ[fi]?=some (gx fi num aV bd ip args stk sort ex)) (H:δ[fi+1]?=some (.a L)) (ux:L.length<=900) {Ω:Prop} (S:∀σ' aX a w L',au Tb (K+10) 1291 [.d 148,.d 8,.d (fi+182),u.d,.c x] (HS σ δ)=some (a,HS σ' aX)->Up σ σ'->Inv σ' Γ (n+1)->Fz (pw (fi+1)) δ aX->aX[fi+1]?=some (.a L')->L'.length<=L.length+1->LL σ'.R u a w->Ω):Ω:=by
 cases u with
 |b c=>
  refine Vk (k:=0) (fo:= .d (fi+182)) C D m O σ δ (K+9) λa w F M h3 N=>?_
  exact S σ δ a w L F (Up.q _) (I.q lG) ((Gw.p _).f) H lG (Vl M h3 N)
 |q c=>
  have C:bC c=true:=C
  have D:=D
  have s:=wj (v:=0) C D
  have hb:aT c 84=false:=by cases e:aT c 84 with|false=>rfl|true=>exact absurd (aK e) D
  refine IM (v:=0) (c:=c) (u:= .q c) I (AZ hn) (λJ=>by
   have B:=nN σ.R (kd 0 c) (Sp s) s.2.1 s.2.2
   rw[hb];rw[show(kd 0 c==19)=false from by simp;exact Sn s] at B;exact B) ⟨C,rfl⟩ λR' k e1 hk G=>?_
  refine Vk (k:=0) (fo:= .d (fi+182)) C D (x:=x/2) (P8 m O) (P7 m O) (σ.r R') δ (K+8) λa w F M h3 N=>?_
  have kp:au Tb (K+9) 1284 [.g [c],a] (HS (σ.r R') δ)=some (w,HS (σ.r R') δ):=so (K:=K+8) M
  have X:=adg m (HS (σ.r R') δ)
  have P:=Km m (HS (σ.r R') δ)
  have hp:bh 7 (.e [.e [.c 1,.c (x%2)],w])=true:=by
   show(true&&(bh 6 w&&true))=true
   rw[N 2];rfl
  have V:r8 k (.q c) (.e [.c 5,.c (k:Int),.e [.e [.c 1,.c (x%2)],w]]) (.e [.c 5,.c (k:Int),.e [.e [.c 1,.c (x%2)],w]]):= .B c _ hp
  refine S _ δ _ _ L (bw [(4,ow (e1 (K+1) δ)),(5,ow X),(9,ow P),(10,ow F),(11,ow kp)] ⋯) (Up.R G.c) (I.R G) ((Gw.p _).f) H lG ⟨⟨k,V⟩,λy k' W Y=>?_,trivial,?_⟩
  ·have:k=k':=cj.u W (hk.o y) Y
   refine rQ this ?_;exact V
  ·show(true&&(true&&((true&&(bh 6 w&&true))&&true)))=true
   rw[N 2];rfl
 |r c=>
  refine Vk (k:=0) (fo:= .d (fi+182)) C D (x:=x/2) (P8 m O) (P7 m O) σ δ (K+8) λa w F M h3 N=>?_
  have kp:au Tb (K+9) 1284 [.g [c],a] (HS σ δ)=some (w,HS σ δ):=so (K:=K+8) M
  have P:=Km m (HS σ δ)
  refine cf (qS x m (HS σ δ)) λr hr X=>?_
  have V:∀(z:MV),bh 6 z=true->bh 7 z=true->LL σ.R (.r c) (.e [.c 6,z]) (.e [.c 6,z]):=λz hz h7=>by
   exact⟨⟨0,.A c z h7⟩,λJ k' J J=> .A c z h7,trivial,by show(true&&(bh 7 z&&true))=true;rw[h7];rfl⟩
  rcases hr with rfl|rfl
  ·have hb:=bx (X_ ux)
   have gl:(δ.set (fi+1) (.a (ar L w)))[fi+1]?=some (.a (ar L w)):=m6 _ H
   have ff:(δ.set (fi+1) (.a (ar L w)))[fi]?=some (gx fi num aV bd ip args stk sort ex):=jg _ _ PZ hf
   exact S σ _ _ _ (ar L w) (bw [(9,ow P),(10,ow F),(11,ow kp),(12,ow X),(14,ov (ed σ hf 258 (MV.d (fi+1+182)) ⋯)),(15,oc (jF σ H)),(16,ow ((λcl=>ky cl σ H w hb) (au Tb (K+9)))),(17,ov (ed σ ff 119 (MV.c num) ⋯)),(18,ov (ed σ ff 258 (MV.d (fi+1+182)) ⋯)),(19,ov (hJ σ gl (by rw[aB];exact(rH ux))))] ⋯:au Tb (K+10) 1291 [.d 148,.d 8,.d (fi+182),.g [114,c],.c x] (HS σ δ)=some (.e [.c 6,.e [.c 1,.c num,.c (((ar L w).length:Nat) - 1:Int),.e []]],HS σ (δ.set (fi+1) (.a (ar L w))))) (Up.q _) (I.q lG) (Fz.w _ _ _) gl (by rw[aB];exact(aC _)) (V _ rfl rfl)
  ·refine b6 (ar δ (.a [w])) λdN T=>?_
   have U:=pC (K:=K+6) (σ:=σ) (δ:=dN) (j:=δ.length) (kk:=18) (w:=3) (l:=[w]) I.j (G5 hn) (T▸(h9 _ _ _ rfl)) (λμ=>nH ⋯) rfl
   refine b6 (ar dN (rL σ.h 18 δ.length 3 (σ.A+1))) λdq Z=>?_
   have U:=Z▸U
   have gt:=Z▸(h9 _ _ _ rfl)
   rw[T] at U
   have w2:=Z▸T▸((Gw.d _ _).e (Gw.d _ _))
   rw[T] at gt
   exact S _ dq _ _ L (bw [(9,ow P),(10,ow F),(11,ow kp),(12,ow X),(18,ow U),(19,ov (ed (σ.E (MV.d ((ar δ (MO.a [w])).length+182)) 3) gt 71 (MV.c σ.h) ⋯))] ⋯:au Tb (K+10) 1291 [.d 148,.d 8,.d (fi+182),.g [114,c],.c x] (HS σ δ)=some (.e [.c 6,.e [.c 3,.c (σ.h+2),.e []]],HS (σ.E (.d ((ar δ (.a [w])).length+182)) 3) dq)) (Up.p _ _ _) (I.Q (Up.p _ _ _) rfl rfl (I.j.i (by decide)) lG) w2.f (w2.2 _ _ H) lG (V _ rfl rfl)
end
end
section
section
variable{K n t b c d i l fi v stk:Nat}{σ:St}{δ:List MO}{Γ:Cf}
theorem vL(R:List Row)(e:bC l=true)(f:l≠84):rO R (kd 0 l) false:=by
 have a:=wj (v:=0) e f
 have B:=nN R (kd 0 l) (Sp a) a.2.1 a.2.2
 rw[show(kd 0 l==19)=false from by simp;exact Sn a] at B;exact B
theorem vU(h:R[j]?=some (.d (.e c) b o))(a:64<=c)(f:c<=68):i3 R (j+20) 2 c (.e [.c (b:Int)]):=⟨gh h,.inl rfl,a,f,uQ⟩
theorem VV(h:R[j]?=some (.d .g b o)):i3 R (j+20) 3 68 (.e [.c (b:Int)]):=⟨gh h,.inr rfl,(by decide),(by decide),uQ⟩
theorem adw(R:List Row):i3 R 18 2 66 (.e []):=⟨Kh R,.inl rfl,(by decide),(by decide),Pc⟩
theorem Ab(I:Inv σ Γ n)(y:n<=80000)(s:sl.length<=1){r:Prop}(u:∀σ' q o,(∀K,au Tb (K+3) 314 [.d 142,.c (k:Int),.d (δ.length+182)] (HS σ (ar δ (.a sl)))=some (.d (o+182),HS σ' q))->Up σ σ'->Inv σ' Γ (n+1)->Gw δ q->iq σ' q δ.length σ.h k sl->iw Tb (HS σ' q) (.d (o+182)) 71=some (.c σ.h)->σ'.R=σ.R->r):r:=by
 refine b6 (ar δ (.a sl)) λg f=>?_
 refine b6 (ar g (rL σ.h k δ.length 3 (σ.A+1))) λx m=>?_
 have gt:=m▸(h9 _ _ _ rfl)
 refine u (σ.E (.d (g.length+182)) 3) x g.length (λK=>m▸f▸((λK=>pC (K:=K) (σ:=σ) (δ:=g) (j:=δ.length) (kk:=(k:Int)) (w:=3) (l:=sl) I.j (G5 y) (f▸(h9 _ _ _ rfl)) ((λK μ=>(nx (b7 _) λh=>aR s h).elim (λe=>by rw[e];exact nH ⋯) λe=>by rw[e];exact nH ⋯:∀K μ,au Tb (K+1) 265 [.c (sl.length:Nat)] μ=some (.c 3,μ)) K) (bx (eK s))) K)) (Up.p _ _ _) (I.Q (Up.p _ _ _) rfl rfl (I.j.i (by decide)) lG) (m▸f▸((Gw.d _ _).e (Gw.d _ _))) ⟨g.length,δ.length,3,_,lK (lJ I.j.k),gt,m▸f▸(fV _ (h9 _ _ _ rfl)),by rw[f,aB];exact lG,AY⟩ (ed _ gt 71 _ ⋯) rfl
theorem acC(I:Inv σ Γ n)(H:n<=70000)(hd:d<2)(dP:bC l=true)(cU:l≠84){Ω:Prop}(P:∀σ' aX e,au Tb (K+7) 1303 [.d 148,.d 8,.c (d:Int),.c (kd 0 l:Nat)] (HS σ δ)=some (e.c,HS σ' aX)->Up σ σ'->Inv σ' Γ (n+3)->Gw δ aX->pB σ' aX δ.length Γ d l e->Ω):Ω:=by
 refine jQ I (GL H) δ (m:=5) Pn λy t Z D L C=>?_
 have D:=D (K+5)
 refine b6 (σ.S t) λs i7=>?_
 rw[<-i7] at D L C
 have U:∀μ,dE μ .c (.c 6) (.c (d:Int))=some (.c ((6*d:Nat):Int),μ):=λμ=>by
  rw[nD (by decide)];rfl
 have W:∀μ,dE μ .a (.c 2) (.c ((6*d:Nat):Int))=some (.c ((2+6*d:Nat):Int),μ):=λμ=>by
  show some (MV.c ((2:Int)+((6*d:Nat):Int)),μ)=_
  rw[show(2:Int)+((6*d:Nat):Int)=((2+6*d:Nat):Int) from rfl]
 have F:∀μ,dE μ .a (.c ((2+6*d:Nat):Int)) (.c (y:Int))=some (.c ((b0 d (y+1):Nat):Int),μ):=λμ=>by
  show some (MV.c (((2+6*d:Nat):Int)+(y:Int)),μ)=_
  rw[show((2+6*d:Nat):Int)+(y:Int)=((b0 d (y+1):Nat):Int) from by simp only[b0];exact(congrArg nJ (aR (bN [_,_] (2+(V0.M 6 V0.A)+V0.B) (V0.M 6 V0.A+(V0.B+1)+1) .z rfl) (bN [_,_] (V0.M 6 V0.A+(V0.B+1)+1) (2+(V0.M 6 V0.A)+V0.B) .z rfl)))]
 have B:=vL (l:=l) s.R dP cU
 have Z:=nx (b7 _) λh=>nx h λh=>nx h λh=>nx h λh=>aR (fA Z) h
 refine b6 (b0 d (y+1)) λQ N=>?_
 replace F:=N.symm▸F
 obtain⟨owk,w⟩:∃z:Nat,z=kd 0 l:=⟨_,rfl⟩
 rcases Z with rfl|rfl|rfl|rfl|rfl
 ·refine P s (ar δ (.a [])) ⟨0,18,Q,.e [.c (kd 0 l:Nat)],[],δ.length⟩ ?_ L (C.q Yl) (Gw.d _ _) ⟨1,2,66,.e [],(by decide),(by decide),N,adw _,.e C.a.A _,rfl,h9 _ _ _ rfl,aC _,.inl ⟨.inl rfl,rfl⟩⟩
  exact w▸(bw [(1,ow D),(2,ow (U (HS s δ))),(3,ow (W (HS s δ))),(4,ow (F (HS s δ)))] ⋯)
 ·refine xW (c:= .e 67) C (GZ H) (by constructor) B λR' j p hj T G=>?_
  refine P (s.r R') (ar δ (.a [])) ⟨0,j+20,Q,.e [],[],δ.length⟩ ?_ (L.f T) (G.q PU) (Gw.d _ _) ⟨2,2,67,_,(by decide),Qc,N,vU hj PY PX,.b _,rfl,h9 _ _ _ rfl,aC _,.inl ⟨.inr rfl,rfl⟩⟩
  rw[<-w] at p⊢
  have p:=p K δ
  exact bw [(1,ow D),(2,ow (U (HS s δ))),(3,ow (W (HS s δ))),(4,ow (F (HS s δ))),(14,ow p)] ⋯
 ·refine xW (c:= .e 67) C (GZ H) (by constructor) B λR' j p hj T G=>?_
  refine Ab (k:=j+20) (sl:=[]) (δ:=δ) G (PW H) (by simp) λO E o x V J w3 Y u X=>?_
  refine P O (ar E (.a [.e [.c 4,.c (s.r R').h]])) ⟨(s.r R').h,j+20,Q,.e [],[.e [.c 4,.c (s.r R').h]],E.length⟩ ?_ ((L.f T).f V) (J.q PV) (w3.e (Gw.d _ _)) ⟨3,2,67,_,(by decide),(by decide),N,X▸(vU hj PY PX),.b _,rfl,h9 _ _ _ rfl,w3.1,.inr (.inl ⟨.inl rfl,rfl,G.j.a,rfl⟩)⟩
  rw[<-w] at p⊢
  have p:=p K δ
  have x:=x (K+3)
  exact bw [(1,ow D),(2,ow (U (HS s δ))),(3,ow (W (HS s δ))),(4,ow (F (HS s δ))),(16,ow p),(19,ow x),(20,ov u)] ⋯
 ·refine xW (c:= .g) C (GZ H) (by constructor) B λR' j p hj T G=>?_
  refine Ab (k:=j+20) (sl:=[.e [.c 5,.c ((j+20:Nat):Int),.e []]]) (δ:=δ) G (PW H) (by simp) λO E o x V J w3 Y u X=>?_
  refine P O (ar E (.a [.e [.c 6,.e [.c 3,.c ((s.r R').h+2),.e []]]])) ⟨(s.r R').h,j+20,Q,.e [],[.e [.c 6,.e [.c 3,.c ((s.r R').h+2),.e []]]],E.length⟩ ?_ ((L.f T).f V) (J.q PV) (w3.e (Gw.d _ _)) ⟨4,3,68,_,(by decide),(by decide),N,X▸(VV hj),.b _,rfl,h9 _ _ _ rfl,w3.1,.inr (.inr ⟨rfl,rfl,G.j.a,⟨_,Y.f (Gw.d _ _)⟩,rfl⟩)⟩
  rw[<-w] at p⊢
  have x:=x (K+3)
  exact bw [(1,ow D),(2,ow (U (HS s δ))),(3,ow (W (HS s δ))),(4,ow (F (HS s δ))),(18,ow (p K δ)),(23,ow x),(24,ov u)] ⋯
 ·refine Ab (k:=18) (sl:=[]) (δ:=δ) C (GK H) (by simp) λO E o x V J w3 Y u X=>?_
  refine P O (ar E (.a [.e [.c 4,.c s.h]])) ⟨s.h,18,Q,.e [.c (kd 0 l:Nat)],[.e [.c 4,.c s.h]],E.length⟩ ?_ (L.f V) (J.q PU) (w3.e (Gw.d _ _)) ⟨5,2,66,.e [],(by decide),PF,N,adw _,.e J.a.A _,rfl,h9 _ _ _ rfl,w3.1,.inr (.inl ⟨.inr rfl,rfl,C.j.a,rfl⟩)⟩
  exact w▸(bw [(1,ow D),(2,ow (U (HS s δ))),(3,ow (W (HS s δ))),(4,ow (F (HS s δ))),(17,ow (x (K+3))),(18,ov u)] ⋯)
end
end
section
noncomputable def uV(r s:Nat):Nat->Prop:=λi=>i=r\/i=s
theorem Fz.p(a:List MO)(r s:Nat)(o:MO):Fz (uV r s) a (a.set r o):=Fz.y o (.inl rfl)
theorem Fz.u(a:List MO)(r s:Nat)(o:MO):Fz (uV r s) a (a.set s o):=Fz.y o (.inr rfl)
theorem rz.a{S:Nat->Prop}(h:∀i,S i->i<b):rz S δ b:=λi e=> .inl (h i e)
section
variable{K n t b c d i l fi v stk dk r s:Nat}{σ:St}{δ:List MO}{Γ:Cf}
theorem Bm(σ:St){l:List MV}{v:MV}(h:δ[i]?=some (.a (ar l v)))(f:l.length<=100):ez (HS σ δ) (.d (i+182)) (.c (-1))=some v:=by
 have e:=P9 f
 delta ez;refine(UX (by rw[df];exact h)).trans ((RA _).trans ?_)
 unfold Ad
 rw[if_neg P_,aB,j7 (Ye f e),e]
 exact aZ _ _
theorem pB.o(h:pB σ δ b Γ d l e)(g:c<=b):pB σ δ c Γ d l e:=by
 obtain⟨i,s,t,f,E⟩:=h
 refine⟨i,s,t,f,E.z,E.m,E.j,E.a,E.o,E.w,E.y,aD g E.q,?_⟩
 rcases E.p with h|h|⟨h1,h2,h3,⟨sl,h4⟩,h5⟩
 ·exact .inl h
 ·exact .inr (.inl h)
 ·exact .inr (.inr ⟨h1,h2,h3,⟨sl,h4.e g⟩,h5⟩)
structure MI (oO:St) (jI:List MO) (Γ:Cf) (n d l dk r s k:Nat) (σ:St) (δ:List MO) (es:List (Int×En)):Prop where
 o:es.length=k
 g:Up oO σ
 m:Inv σ Γ (n+6*k)
 j:Fz (uV r s) jI δ
 e:δ[r]?=some (.a (es.map λp=>p.2.c))
 f:δ[s]?=some (.a (es.map λp=> .c p.1))
 a:∀p∈es,iq σ δ jI.length p.1 dk p.2.p/\pB σ δ jI.length Γ d l p.2
noncomputable abbrev mdB:List MS:=[.m (.E (.q .i (.d 182) (.g (.c 0))) (.q .a (.j 1270 [.d 250,.g (.c 4)]) (.g (.c 3)))) [.d (.n (.d 4) 0 [.h (.d 4) (.A (.g (.c 1)))]),.d (.n (.d 273) 0 [.h (.d 273) (.A (.g (.c 1)))])] [.d (.n (.d 4) 0 [.j 1303 [.d 103,.d 250,.d 263,.d 253]]),.d (.n (.d 273) 0 [.j 1040 [.d 103,.d 62,.h (.h (.d 4) (.A (.g (.c 1)))) (.g (.c 0)),.h (.h (.d 4) (.A (.g (.c 1)))) (.g (.c 1))]])]]
noncomputable abbrev W7(d l dk r s:Nat)(t:Nat)(k:Nat):Loc:=[(103,.d 148),(250,.d 8),(263,.c (d:Int)),(272,.j [l] t),(253,.c (kd 0 l:Nat)),(62,.c (dk:Int)),(4,.d (r+182)),(273,.d (s+182)),(182,.c (k:Int))]
theorem yl{Ω:Prop}(M:MI oO jI Γ n d l dk r s k σ δ es)(U:k<5)(hn:n<=50000)(hd:d<2)(dP:bC l=true)(cU:l≠84)(hh:oO.u=[])(hr:kO oO.R d l dk)(wh:r≠s)(hb:r<jI.length/\s<jI.length)(Y:Up σ dA)(I1:Inv dA Γ (n+6*k+1))(bJ:∀w x D B e,(au Tb (K+12) 1303 [.d 148,.d 8,.c (d:Int),.c (kd 0 l:Nat)] (HS dA δ)=some (En.c e,HS w x))->(au Tb (K+12) 1040 [.d 148,.c (dk:Int),.c e.f,e.a] (HS w (x.set r (.a (ar (es.map λp=>p.2.c) e.c))))=some (.c w.h,HS D B))->(x[r]?=some (.a (es.map λp=>p.2.c)))->((x.set r (.a (ar (es.map λp=>p.2.c) e.c)))[s]?=some (.a (es.map λp=> .c p.1)))->(B[s]?=some (.a (es.map λp=> .c p.1)))->(MI oO jI Γ n d l dk r s (k+1) D (B.set s (.a (ar (es.map λp=> .c p.1) (.c w.h)))) (ar es (w.h,e)))->Ω):Ω:=by
 have m:=M.o
 have ld:=M.j.1
 refine acC (K:=K+5) (δ:=δ) I1 (Yd U hn m) hd dP cU λw x e c1 V X T E2=>?_
 have H:=T.2 _ _ M.e
 refine b6 (x.set r (.a (ar (es.map λp=>p.2.c) e.c))) λI C=>?_
 have E:=iI ((M.g.f Y).f V).j hr
 refine Fo (δ:=I) X.j (Yc U hn m) (by have:=X.r;exact Yb U hn m this) (V.r▸Y.r▸M.g.r▸hh) E.a E.b e.f e.a λD B c2 O w3 H3 a3 R3 W=>?_
 have I3:=X.Q O R3 a3 H3 (bc _ _)
 have z:=C▸(jg _ _ wh (T.2 _ _ M.f))
 have L:=w3.2 _ _ z
 refine b6 (B.set s (.a (ar (es.map λp=> .c p.1) (.c w.h)))) λiy G=>?_
 have F:Fz (uV r s) x iy:=by
  rw[G];exact((by rw[C];exact Fz.p _ _ _ _:Fz (uV r s) x I).k w3.f).k (Fz.u _ _ _ _)
 have A:=T.f.k F
 have hS:rz (uV r s) δ jI.length:=rz.a λi N=>fK N (λrfl=>Ho hb rfl) λrfl=>Hn hb rfl
 have P:=(Y.f V).f O
 refine bJ w x D B e c1 (C▸(c2 (K+3))) H (C▸z) L ?_
 refine G▸(⟨by rw[aB];exact(by rw[m]),M.g.f P,I3.q (cN _),M.j.k A,?_,?_,λp Z=>?_⟩)
 ·exact G▸(show(ar es (w.h,e)).map (λp=>p.2.c)=ar (es.map λp=>p.2.c) e.c from by unfold ar;simp)▸(jg _ _ (cH wh) (w3.2 _ _ (C▸(m6 _ H))))
 ·exact G▸(show(ar es (w.h,e)).map (λp=>MV.c p.1)=ar (es.map λp=> .c p.1) (.c w.h) from by unfold ar;simp)▸(m6 _ L)
 ·have Z:=Z
  rcases cP.mp Z with h|h
  ·exact⟨(M.a p h).1.d P.y A hS,(M.a p h).2.j P.y P.j A hS⟩
  ·simp only[cx,iN,or_false] at h
   refine fJ h ?_
   refine⟨?_,?_⟩
   ·have W:=W.e (c:=δ.length) (by rw[C];simp;exact T.1)
    exact(W.d (S:=uV r s) (σ':=D) (λJ J h=>h) (G▸(Fz.u _ _ _ _)) (rz.a λi N=>fK N (λrfl=>Hk hb ld rfl) λrfl=>Hj hb ld rfl)).e ld
   ·exact(E2.j O.y O.j F (rz.a λi N=>fK N (λrfl=>Hk hb ld rfl) λrfl=>Hj hb ld rfl)).o ld
end
end
section
section
variable{K n t b c d i l fi v stk dk r s:Nat}{σ:St}{δ:List MO}{Γ:Cf}
theorem zM{x y:Nat}{c:Bool}(h:decide (y<x)=c)(μ:Hp):ct μ .i (.c (x:Int)) (.c (y:Int))=some c:=h▸(congrArg some (by rw[decide_eq_decide];exact PH))
theorem Dt{a:Type}{l:List a}(h:l≠[]):∃q p,l=ar q p:=⟨l.dropLast,l.getLast h,(List.dropLast_concat_getLast h).symm⟩
theorem E5{Z:St}{P:List MO}{k:Nat}{H:List (Int×En)}(M:MI Z P Γ n d l dk r s k σ δ H)(D:k<5)(hn:n<=50000)(hd:d<2)(dP:bC l=true)(cU:l≠84)(hh:Z.u=[])(hr:kO Z.R d l dk)(V:r≠s)(hb:r<P.length/\s<P.length){Ω:Prop}(ω:∀σ' aX Lj,aY Tb (au Tb (K+12)) (K+12) mdB (W7 d l dk r s t k) (HS σ δ)=some (.a,W7 d l dk r s t k,HS σ' aX)->MI Z P Γ n d l dk r s (k+1) σ' aX Lj->Ω):Ω:=by
 have w:=M.o
 obtain⟨ow1,U⟩:∃z:Nat,z=kd 0 l:=⟨_,rfl⟩
 have X:eI (H.map λp=>p.2.c).length bA=true:=bx (by simp;unfold bA;exact Qe D w)
 have b4:eI (H.map λp=>MV.c p.1).length bA=true:=bx (by simp;unfold bA;exact Qe D w)
 by_cases W:k=0
 ·refine yl (K:=K) M D hn hd dP cU hh hr V hb (Up.q _) (M.m.q (bc _ _)) λE O dI h_ e I h2 T s2 h4 M'=>?_
  refine ω _ _ _ ?_ M'
  have G:=zM (x:=k) (y:=0) (decide_eq_false (Yo w W))
  have a3:=λcl=>ky cl E T e.c X
  have Q:=λcl=>ky cl dI h4 (.c E.h) b4
  have x3:=Bm E (m6 _ T:(O.set r (.a (ar (H.map λp=>p.2.c) e.c)))[r]?=some (.a (ar (H.map λp=>p.2.c) e.c))) (by simp;exact(bN [_,_] V0.A 100 (.e V0.A V0.B (.e V0.B 0 .z)) rfl w W))
  have r0:=M.e
  have s0:=M.f
  unfold W7
  rw[<-U] at I⊢
  exact eD [(0,oq (G (HS σ δ))),(3,oc (jF σ r0)),(4,ow I),(5,ow (a3 (au Tb (K+12)))),(6,oc (jF E s2)),(7,ov x3),(9,ov x3),(11,ow h2),(12,ow (Q (au Tb (K+12))))] ⋯
 ·have G:=zM (x:=k) (y:=0) (decide_eq_true (Yn D w W))
  refine jQ M.m (Ym D hn w) δ (m:=4) G6 λy t1 hy N J I1=>?_
  have N:=N (K+11)
  by_cases T:y=3
  ·subst T
   refine Ey (Dt (l:=H) (by intro e;rw[e] at w;simp at w;exact((bL W).elim (λG=>bZ [_] (.o (V0.A+1) 0 .z) rfl G) λG=>bZ [_] (.f V0.A 0 (.o (0+1) V0.A .z)) rfl w G))) λq p z0=>?_
   subst z0
   rw[show(ar q p).map (λp=>p.2.c)=ar (q.map λp=>p.2.c) p.2.c from by unfold ar;simp] at X
   rw[show(ar q p).map (λp=>MV.c p.1)=ar (q.map λp=> .c p.1) (.c p.1) from by unfold ar;simp] at b4
   have r0:=M.e
   have s0:=M.f
   rw[show(ar q p).map (λp=>p.2.c)=ar (q.map λp=>p.2.c) p.2.c from by unfold ar;simp] at r0
   rw[show(ar q p).map (λp=>MV.c p.1)=ar (q.map λp=> .c p.1) (.c p.1) from by unfold ar;simp] at s0
   rw[aB] at w
   refine b6 (σ.S t1) λC i7=>?_
   rw[<-i7] at N J I1
   have x3:=Bm C r0 (by simp;exact Qd D w)
   have a3:=λcl=>ky cl C r0 p.2.c X
   refine b6 (δ.set r (.a (ar (ar (q.map λp=>p.2.c) p.2.c) p.2.c))) λdN ej=>?_
   replace a3:=ej.symm▸a3
   have s1:=ej▸(jg _ _ V s0)
   have Q:=λcl=>ky cl C s1 (.c p.1) b4
   refine b6 (dN.set s (.a (ar (ar (q.map λp=> .c p.1) (.c p.1)) (.c p.1)))) λO Y=>?_
   replace Q:=Y.symm▸Q
   have F:Fz (uV r s) δ O:=by
    rw[Y];exact(by rw[ej];exact Fz.p _ _ _ _:Fz (uV r s) δ dN).k (Fz.u _ _ _ _)
   have hS:rz (uV r s) δ P.length:=rz.a λi hi=>fK hi (λrfl=>Ho hb rfl) λrfl=>Hn hb rfl
   refine ω C O (ar (ar q p) p) ?_ ⟨by rw[aB,aB];exact(by rw[w]),M.g.f J,I1.q (bN [_,_] (V0.A+(V0.M 6 V0.B)+1) (V0.A+(V0.M 6 (V0.B+1))) .z rfl),M.j.k F,?_,?_,λp' L=>?_⟩
   ·exact eD [(0,oq (G (HS σ δ))),(2,ow N),(5,oc (jF C r0)),(6,ov x3),(7,ow (a3 (au Tb (K+12)))),(8,oc (jF C s1)),(9,ov (Bm C s1 (by simp;exact Qd D w))),(10,ow (Q (au Tb (K+12))))] ⋯
   ·exact Y▸(show(ar (ar q p) p).map (λp=>p.2.c)=ar (ar (q.map λp=>p.2.c) p.2.c) p.2.c from by unfold ar;simp)▸(jg _ _ (cH V) (ej▸(m6 _ r0)))
   ·exact Y▸(show(ar (ar q p) p).map (λp=>MV.c p.1)=ar (ar (q.map λp=> .c p.1) (.c p.1)) (.c p.1) from by unfold ar;simp)▸(m6 _ s1)
   ·have L:p'∈ar q p:=by
     have L:=L
     rcases cP.mp L with h|h
     ·exact h
     ·simp only[cx,iN,or_false] at h
      refine rQ h ?_;unfold ar;simp
    exact⟨(M.a p' L).1.d J.y F hS,(M.a p' L).2.j J.y J.j F hS⟩
  ·refine yl (K:=K) M D hn hd dP cU hh hr V hb J I1 λE O dI h_ e I h2 v_ s2 h4 M'=>?_
   refine ω _ _ _ ?_ M'
   have x3:=Bm E (m6 _ v_:(O.set r (.a (ar (H.map λp=>p.2.c) e.c)))[r]?=some (.a (ar (H.map λp=>p.2.c) e.c))) (by simp;exact(bN [_,_] V0.B 100 (.o (V0.A+1) 5 (.e V0.B V0.A .z)) rfl D w))
   have s0:=M.f
   refine b6 (σ.S t1) λC i7=>?_
   rw[<-i7] at N I
   unfold W7
   rw[<-U] at I⊢
   exact eD [(0,oq (G (HS σ δ))),(2,ow N),(3,oq ((oj (m:=y) (c:=3) T) (HS C δ))),(5,oc (jF C M.e)),(6,ow I),(7,ow ((λcl=>ky cl E v_ e.c X) (au Tb (K+12)))),(8,oc (jF E s2)),(9,ov x3),(11,ov x3),(13,ow h2),(14,ow ((λcl=>ky cl dI h4 (.c E.h) b4) (au Tb (K+12))))] ⋯
end
end
section
section
variable{K n t b c d i l fi v stk dk r s:Nat}{σ:St}{δ:List MO}{Γ:Cf}{ad:Int}{es:List (Int×En)}
theorem VJ(σ:St)(δ:List MO)(f:bC l=true)(e:l≠84)(t:Nat):ez (HS σ δ) (.d 79) (.j [l] t)=some (.c (kd 0 l:Nat)):=by
 have a:rS l=true:=by unfold rS;rw[f];rfl
 delta ez;exact(MR ⋯).trans ((j7 (pT (v:=0) a e).1).trans (pT (v:=0) a e).2)
theorem Uk(a:d<2):iP (.e (64+d)):=by
 have a:=m9 a
 rcases a with rfl|rfl
 ·exact .d
 ·exact .e
theorem E0{E:Prop}(I:Inv σ Γ n)(N:n<=40000)(Q:d<2)(W:bC l=true)(cU:l≠84)(Z:σ.u=[])(hr:kO σ.R d l dk)(L:δ[r]?=some (.a []))(G:δ[s]?=some (.a []))(U:r≠s)(bJ:∀ρ' w σ' o y es,(y<5)->(ρ'=[(103,.d 148),(250,.d 8),(263,.c (d:Int)),(272,.j [l] t),(253,.c (kd 0 l:Nat)),(62,.c (dk:Int)),(4,.d (r+182)),(273,.d (s+182))]\/∃x,ρ'=[(103,.d 148),(250,.d 8),(263,.c (d:Int)),(272,.j [l] t),(253,.c (kd 0 l:Nat)),(62,.c (dk:Int)),(4,.d (r+182)),(273,.d (s+182)),(182,x)])->(bQ Tb (au Tb (K+12)) (K+12) (fH abY 4) [(103,.d 148),(250,.d 8),(263,.c (d:Int)),(272,.j [l] t),(253,.c (kd 0 l:Nat)),(62,.c (dk:Int)),(4,.d (r+182)),(273,.d (s+182))] (HS σ δ)=some (.a,ρ',HS σ' o))->(Up σ w)->(MI w δ Γ (n+1) d l dk r s (y+1) σ' o es)->E):E:=by
 refine jQ I (eK N) δ (m:=5) Pn λy Y D A z H=>?_
 have A:=A (K+11)
 refine b6 (σ.S Y) λw B=>?_
 rw[<-B] at A z H
 have q:∀μ,dE μ .a (.c 1) (.c (y:Int))=some (.c ((y+1:Nat):Int),μ):=λμ=>by
  show some (MV.c ((1:Int)+(y:Int)),μ)=_
  rw[show(1:Int)+(y:Int)=((y+1:Nat):Int) from A6]
 refine pN (T:=Tb) (cl:=au Tb (K+12)) (fuel:=K+12) (n:=y+1) (t:= .b 182) (e:= .r .a (.g (.c 1)) (.j 1270 [.d 250,.g (.c 5)])) (b:=mdB)
  (ρ:=[(103,.d 148),(250,.d 8),(263,.c (d:Int)),(272,.j [l] t),(253,.c (kd 0 l:Nat)),(62,.c (dk:Int)),(4,.d (r+182)),(273,.d (s+182))]) (μ:=HS σ δ) (bF:=HS w δ)
  (λk ρ μ=>(ρ=[(103,.d 148),(250,.d 8),(263,.c (d:Int)),(272,.j [l] t),(253,.c (kd 0 l:Nat)),(62,.c (dk:Int)),(4,.d (r+182)),(273,.d (s+182))]\/∃x,ρ=[(103,.d 148),(250,.d 8),(263,.c (d:Int)),(272,.j [l] t),(253,.c (kd 0 l:Nat)),(62,.c (dk:Int)),(4,.d (r+182)),(273,.d (s+182)),(182,x)])/\∃σ' o es,μ=HS σ' o/\MI w δ Γ (n+1) d l dk r s k σ' o es)
  (oi [(0,ow A),(1,ow (q (HS w δ)))] ⋯) (eK D) ⟨.inl rfl,w,δ,[],rfl,⟨rfl,Up.q _,H,(Gw.p _).f,L,G,λJ h=>by cases h⟩⟩
  (λk ρ μ E X p V=>by
   obtain⟨p1,σ',o,es,rfl,M⟩:=p
   refine E5 (K:=K) (t:=t) M (aD X (eK D)) (rH N) Q W cU (z.r▸Z) (iI z.j hr) U (⟨cJ L,cJ G⟩) λO P F h M2=>?_
   refine V (W7 d l dk r s t k) (HS σ' o) (W7 d l dk r s t k) (HS O P) ?_ h ⟨.inr ⟨_,rfl⟩,O,P,F,rfl,M2⟩
   rcases p1 with rfl|⟨x,rfl⟩<;>rfl) λρ' aG e C=>?_
 obtain⟨p1,σ',o,es,rfl,M⟩:=C
 exact bJ ρ' w σ' o y es D p1 e z M
theorem wx{Ω:Prop}(I:Inv σ Γ n)(X:n<=30000)(P:d<2)(Q:bC l=true)(W:l≠84)(hh:σ.u=[])(t:Nat)(bJ:∀σ' B dk ad es rw,(au Tb (K+13) 1310 [.d 148,.d 8,.c (d:Int),.j [l] t] (HS σ δ)=some (.e [.c ((dk:Nat):Int),.c ad,.d (rw+182)],HS σ' B))->(Up σ σ')->(Inv σ' Γ (n+36))->(Gw δ B)->(qx σ' B δ.length Γ d l dk ad es)->(B[rw]?=some (.a (es.map λp=>p.2.c)))->(δ.length<=rw)->Ω):Ω:=by
 have k1:=VJ σ δ Q W t
 have H:∀μ,dE μ .a (.c 64) (.c (d:Int))=some (.c ((64+d:Nat):Int),μ):=λμ=>by
  show some (MV.c ((64:Int)+(d:Int)),μ)=_
  rw[show(64:Int)+(d:Int)=((64+d:Nat):Int) from rfl]
 refine xW (c:= .e (64+d)) I (eK X) (Uk P) (vL (l:=l) σ.R Q W) λR' j p hj u1 I1=>?_
 have p:=p (K+6) δ
 have hr:=vU hj (bc _ _) (bN [_] (64+V0.A) 68 (.o (V0.A+1) 2 .z) rfl P)
 refine b6 (ar (ar δ (.a [])) (.a [])) λK3 O=>?_
 have S:=O▸((Gw.d _ _).e (Gw.d _ _))
 refine E0 (K:=K) (t:=t) (σ:=σ.r R') (δ:=K3) (r:=δ.length) (s:=(ar δ (.a [])).length) I1 (rH X) P Q W hh hr (O▸(fV _ (h9 _ _ _ rfl))) (O▸(h9 _ _ _ rfl)) (by rw[aB];exact xw) λρ' oO σ' B y es C i_ e u2 M=>?_
 rw[O] at e
 have U:=(u1.f u2).f M.g
 have L:=S.1
 have G:Gw δ B:=⟨aD S.1 M.j.1,λi v h=>M.j.2 _ _ (λq=>by have:=cJ h;rcases q with q|q<;>(try rw[aB] at q)<;>first|exact xy this q|exact Tn this q) (S.2 _ _ h)⟩
 have N:=iI (u2.f M.g).j hr
 have I':=M.m
 have k:=M.o
 by_cases E:y=0
 ·subst E
  obtain⟨w,rfl⟩:∃w,es=[w]:=D7.mp k
  have gr:=M.e
  have gs:=M.f
  refine bJ σ' B (j+20) w.1 ([w]) δ.length ?_ U (I'.q Yk) G ⟨N,λq Z=>⟨(M.a q Z).1.e L,(M.a q Z).2.o L⟩,by simp,by simp,.inl ⟨w,rfl,rfl⟩⟩ M.e (aC _)
  rcases i_ with rfl|⟨x,rfl⟩
  ·exact bw [(1,ov k1),(4,ow (H (HS σ δ))),(7,ow p),(10,os e),(10,ov (sX σ' gr ⋯)),(13,ov (hK σ' gs 0 (MV.c w.fst) ⋯))] ⋯
  ·exact bw [(1,ov k1),(4,ow (H (HS σ δ))),(7,ow p),(10,os e),(10,ov (sX σ' gr ⋯)),(13,ov (hK σ' gs 0 (MV.c w.fst) ⋯))] ⋯
 ·refine Ey (Dt (l:=es) (by intro e;rw[e] at k;simp at k)) λq w V=>?_
  have hm:es.map (λp=>MV.c p.1)=ar (q.map λp=> .c p.1) (.c w.1):=by rw[V];unfold ar;simp
  have T:w∈es:=by rw[V];unfold ar;simp
  have D:q.length=y:=by have:=k;rw[V,aB] at this;exact Yj k this
  refine NF (K:=K) (δ:=B) (q:=(ar δ (.a [])).length) (l:=es.map λp=> .c p.1) (la:=w.1) I' (U.r▸hh) (Yi X C k D) N.a N.b M.f (by rw[ay];exact Qa C k D) (by rw[ay];exact Qb C k D) (by rw[hm,aB];exact aZ _ _) (M.a w T).1 λdT dq ca ra jk c1 F w3 I3 T1 T2 h0=>?_
  rw[n7] at T2
  have Y:=hJ σ' M.e (by rw[ay];exact(k▸(eK C)))
  rw[ay,k] at Y
  have n1:=oj (m:=y+1) (c:=1) (Yh k E D)
  refine bJ dT dq (j+20) ca es δ.length ?_ (U.f F) (I3.q (Yg C k D)) (G.e w3) ⟨iI F.j N,λz hz=>?_,Qb C k D,Qa C k D,.inr ⟨Yp C k E D,_,_,ra,jk,T1.e G.1,h0,T2.e G.1⟩⟩ (w3.2 _ _ M.e) (aC _)
  ·rcases i_ with rfl|⟨x,rfl⟩
   ·exact bw [(1,ov k1),(4,ow (H (HS σ δ))),(7,ow p),(10,os e),(10,ov Y),(11,oq (n1 (HS σ' B))),(13,ow c1)] ⋯
   ·exact bw [(1,ov k1),(4,ow (H (HS σ δ))),(7,ow p),(10,os e),(10,ov Y),(11,oq (n1 (HS σ' B))),(13,ow c1)] ⋯
  ·have hS:rz (λJ=>False) B K3.length:=λJ h=>h.elim
   exact⟨((M.a z hz).1.d F.y w3.f hS).e L,((M.a z hz).2.j F.y F.j w3.f hS).o L⟩
end
end
section
section
variable{T:Tab}{cl:Call}{fuel n x y:Nat}{src elt:ME}{ρ:Loc}{μ bF aG:Hp}{l xs:List MV}
theorem pH(e:aO T cl src ρ μ=some (.d n,bF))(g:bF[n]?=some (.a l))(f:l.length<=1000)(hm:uA (λi μ=>aO T cl elt ((x,i)::ρ) μ) n l l bF=some (xs,aG)):aO T cl (.s x false src elt) ρ μ=some (.d aG.length,aG++[.a xs]):=(j_ e).trans ((wu g).trans ((j7 (rA f)).trans (j_ hm)))
theorem Rg{k:Nat}(e:aO T cl src ρ μ=some (.c (k:Int),bF))(f:k<=1000)(hm:ym (λi μ=>aO T cl elt ((x,i)::ρ) μ) ((fP k).map λ(j:Nat)=>MV.c j) bF=some (xs,aG)):aO T cl (.s x true src elt) ρ μ=some (.d aG.length,aG++[.a xs]):=(j_ e).trans ((j7 (AX f)).trans (j_ hm))
theorem l9(h:aO T cl src ρ μ=some (v,aG)):bQ T cl fuel (.f (.b y) src) ρ μ=some (.a,bp ρ y v,aG):=j_ h
end
section
variable{K n t b c d i l fi v stk dk r s:Nat}{σ:St}{δ:List MO}{Γ:Cf}{ad x num ip sort ex:Int}{aV bd args:MV}
theorem yz{u:CT}(z:l≠84)(k:0<t/\t<2455):vt Tb 84 u.d (.j [l] t)=some (u.e l).d:=by
 have p:=k.2
 have o:([84]:List Nat)≠[l]:=λe=>by cases e;exact z rfl
 have f:∀(s:List Nat),s.length<=1000->vt Tb 84 (.g s) (.j [l] t)=some (.g (jH 84 [l] s)):=λs w=>by
  exact j7 ⟨w,by simp,o,k.1,p⟩
 have h:∀(c:Nat),jH 84 [l] [c]=[if aT c 84 then l else c]:=λc=>by
  show(if c=84 then[l]++[] else c::[])=_
  by_cases e:c=84
  ·subst e;rfl
  ·rw[if_neg e]
   have:aT c 84=false:=by cases q:aT c 84 with|false=>rfl|true=>exact absurd (aK q) e
   refine this▸?_;rfl
 have two:∀(a c:Nat),a≠84->jH 84 [l] [a,c]=[a,if aT c 84 then l else c]:=λa c m=>by
  show(if a=84 then[l]++jH 84 [l] [c] else a::jH 84 [l] [c])=_
  rw[if_neg m,h]
 cases u with
 |b c=>rw[show CT.d (.b c)= .g [c] from rfl,f _ (by simp),h];rfl
 |r c=>rw[show CT.d (.r c)= .g [114,c] from rfl,f _ (by simp),two 114 c (by decide)];rfl
 |q c=>rw[show CT.d (.q c)= .g [113,c] from rfl,f _ (by simp),two 113 c (by decide)];rfl
theorem Fx{q:Nat}{ts:List CT}(A:l≠84)(o:0<t/\t<2455){ρ:Loc}{cl:Call}(B:bz ρ 272=some (.j [l] t))(h:(HS σ δ)[q]?=some (.a (ts.map CT.d))):
  uA (λi μ=>aO Tb cl (.w (.d 252) 84 (.d 272)) ((252,i)::ρ) μ) q (ts.map CT.d) (ts.map CT.d) (HS σ δ)=some (ts.map λu=>(u.e l).d,HS σ δ):=by
 refine nA (f:=λi μ=>aO Tb cl (.w (.d 252) 84 (.d 272)) ((252,i)::ρ) μ) (n:=q) (all:=ts.map CT.d) (λk μ z=>μ=HS σ δ/\z=(ts.take k).map λu=>(u.e l).d) (λk μ z p=>p.1▸h)
  (λk v μ z C g p m=>by
   obtain⟨rfl,rfl⟩:=p
   replace g:=aL▸g
   cases hk:ts[k]? with
   |none=>rw[hk] at g;cases g
   |some u=>
    replace g:=hk▸g
    have g:=g
    cases g
    refine m ((u.e l).d) (HS σ δ) ?_ ⟨rfl,by rw[f7,hk];simp[ar]⟩
    exact(j_ rfl).trans ((j_ (mI B:aO Tb cl (.d 272) ((252,u.d)::ρ) (HS σ δ)=some (.j [l] t,HS σ δ))).trans (mI (yz A o))))
  (ts.map CT.d) 0 (HS σ δ) [] rfl ⟨rfl,rfl⟩ λxs aG e p=>?_
 obtain⟨p1,p2⟩:=p
 rw[cQ,ay,eC,i9] at p2
 rw[e,p1,p2]
end
end
section
section
variable{K n t b c d i l fi v stk dk r s:Nat}{σ:St}{δ:List MO}{Γ:Cf}{ad x num ip sort ex:Int}{aV bd args:MV}
theorem NB{u:CT}:(u.e l).f=if aT u.f 84 then l else u.f:=by cases u<;>rfl
theorem Aw{u:CT}(h:bC u.f=true)(a:bC l=true)(g:l≠84):bC (u.e l).f=true/\(u.e l).f≠84:=by
 refine NB▸(⟨?_,wR g⟩)
 cases e:aT u.f 84 with
 |true=>exact a
 |false=>exact h
theorem lV{a:Type}{l:List a}{k:Nat}{v:a}(h:l[k]?=some v):l.take (k+1)=ar (l.take k) v:=by
 rw[f7,h];simp[ar]
theorem fE.y{R x:List Row}{ts:List CT}{vs ws:List MV}{u:CT}{a w:MV}(h:fE R ts vs ws)(g:LL (R++x) u a w):fE (R++x) (ar ts u) (ar vs a) (ar ws w):=by
 refine⟨by rw[aB,aB,h.m],by rw[aB,aB,h.k],λj q f=>?_⟩
 by_cases hj:j<ts.length
 ·have A:ts[j]?=some q:=by
   have:(ts++[u])[j]?=some q:=f
   rw[aJ hj] at this;exact this
  refine dY (h.o j q A) λE B F D G=>?_
  refine⟨E,B,?_,?_,G.j⟩
  ·exact(aJ (by have:=h.m;exact G8 hj this))▸F
  ·exact(aJ (by have:=h.k;exact G8 hj this))▸D
 ·have C:(Mine.ar ts u).length=ts.length+1:=aB ..
  have:j<(Mine.ar ts u).length:=(ax.mp f).1
  have e:=Yt hj C this
  subst e
  replace f:=(show(Mine.ar ts u)[ts.length]?=some u from aZ _ _)▸f
  refine kf f ?_
  exact⟨a,w,h.m▸(aZ _ _),h.k▸(aZ _ _),g⟩
structure VI (oO:St) (jI:List MO) (Γ:Cf) (n fi:Nat) (L:List MV) (ts:List CT) (k:Nat) (σ:St) (δ:List MO) (vs ws:List MV):Prop where
 e:Up oO σ
 c:Inv σ Γ (n+2*k)
 a:Fz (pw (fi+1)) jI δ
 b:∃L',δ[fi+1]?=some (.a L')/\L'.length<=L.length+k
 d:fE σ.R (ts.take k) vs ws
theorem KS{Q:Prop}{q:Nat}{ts:List CT}{L:List MV}{ρ:Loc}(I:Inv σ Γ n)(hn:n<=70000)(J:ts.length<=3)(P:∀u∈ts,bC u.f=true/\u.f≠84)
  (i_:bz ρ 103=some (.d 148)/\bz ρ 250=some (.d 8)/\bz ρ 110=some (.d (fi+182)))
  (hf:δ[fi]?=some (gx fi num aV bd ip args stk sort ex)) (hL:δ[fi+1]?=some (.a L)) (ux:L.length<=800) (hq:δ[q]?=some (.a (ts.map CT.d))) (G:q≠fi+1) (bJ:∀σ' E vs ws,(uA (λi μ=>aO Tb (au Tb (K+10)) (.j 1291 [.d 103,.d 250,.d 110,.d 252,.j 1270 [.d 250,.g (.c 999983)]]) ((252,i)::ρ) μ) (q+182) (ts.map CT.d) (ts.map CT.d) (HS σ δ)=some (vs,HS σ' E))->(VI σ δ Γ n fi L ts ts.length σ' E vs ws)->Q):Q:=by
 refine nA (f:=λi μ=>aO Tb (au Tb (K+10)) (.j 1291 [.d 103,.d 250,.d 110,.d 252,.j 1270 [.d 250,.g (.c 999983)]]) ((252,i)::ρ) μ) (n:=q+182) (all:=ts.map CT.d)
  (λk μ z=>∃σ' E ws,μ=HS σ' E/\VI σ δ Γ n fi L ts k σ' E z ws) (λk μ z p=>by
   refine Mk p λσ' E ws z0 V=>?_
   refine fJ z0 ?_
   rw[df];exact V.a.2 _ _ G hq)
  (λk v μ z Q F p ω=>by
   refine Mk p λσ' E ws z1 V=>?_
   subst z1
   replace F:=aL▸F
   cases hk:ts[k]? with
   |none=>rw[hk] at F;cases F
   |some u=>
    replace F:=hk▸F
    have F:=F
    cases F
    have N:=(ax.mp hk).1
    refine iu (P u (aU hk)) λh1 h2=>?_
    refine jQ V.c (bN [_,_,_] (V0.A+(V0.M 2 V0.C)) 90000 (.o V0.A 70000 (.c 2 V0.B 3 (.c 2 (V0.C+1) V0.B .z))) rfl hn J N) E (m:=999983) Qj λy t1 Y dr X I1=>?_
    refine cf V.b λL1 H MB=>?_
    refine RE (K:=K) (x:=(y:Int)) (u:=u) I1 (bN [_,_,_] (V0.A+(V0.M 2 V0.C)+1) 80000 (.o V0.A 70000 (.c 2 V0.B 3 (.c 2 (V0.C+1) V0.B .z))) rfl hn J N) h1 h2 (Qi Y) (Qh Y) (V.a.2 _ _ (λe=>by have e:fi=fi+1:=e;exact G7 e) hf) H (bN [_,_,_,_] V0.D 900 (.o V0.A 3 (.o V0.B 800 (.o (V0.C+1) V0.A (.o V0.D (V0.B+V0.C) .z)))) rfl J ux N MB) λZ dq a w L2 c1 W I2 F2 IL MC T=>?_
    refine ω a (HS Z dq) ?_ ⟨Z,dq,Mine.ar ws w,rfl,V.e.f (X.f W),I2.q (aC _),V.a.k F2,⟨L2,IL,bN [_,_,_,_] V0.D (V0.B+(V0.C+1)) (.o V0.A (V0.B+V0.C) (.o V0.D (V0.A+1) .z)) rfl MB MC⟩,?_⟩
    ·refine m_ i_ λq1 q2 q3=>?_
     have S:bz ((252,u.d)::ρ) 103=some (.d 148):=q1
     have O:bz ((252,u.d)::ρ) 250=some (.d 8):=q2
     have R:bz ((252,u.d)::ρ) 110=some (.d (fi+182)):=q3
     have U:bz ((252,u.d)::ρ) 252=some u.d:=rfl
     generalize ((252,u.d)::ρ)=bu at S O R U
     exact(kW (bW (cI S _) (bW (cI O _) (bW (cI R _) (bW (cI U _) (og ((kW (bW (cI O _) (og (dn _ _)))).trans (dr (K+9))))))))).trans c1
    ·refine(lV hk)▸(dG ((X.f W).j) λx hx=>?_)
     rw[hx] at T⊢
     exact V.d.y T)
  (ts.map CT.d) 0 (HS σ δ) [] rfl ⟨σ,δ,[],rfl,Up.q _,I,(Gw.p _).f,⟨L,hL,Xl⟩,⟨rfl,rfl,λj q h=>by simp at h⟩⟩ λxs aG e p=>?_
 refine Mk p λσ' E ws z2 V=>?_
 subst z2
 rw[cQ,ay,i9] at V
 exact bJ σ' E xs ws e V
end
end
section
section
variable{K n t b c d i l fi v stk dk r s:Nat}{σ:St}{δ:List MO}{Γ:Cf}{ad x num ip sort ex:Int}{aV bd args:MV}
theorem NX{f:Prop}(W:WS σ Γ)(δ:List MO)(e:d<2)(h:∀p,(ez (HS σ δ) (.d 2) (.c (d:Int))=some (.d p))->(∀δ,(HS σ δ)[p]?=some (.a ((Γ.T d).map CT.d)))->f):f:=by
 have e:=m9 e
 rcases e with rfl|rfl
 ·exact h 80 ⋯ λδ=>by rw[show(Γ.T 0)=Γ.a from rfl,<-W.x];kernel_rfl
 ·exact h 111 ⋯ λδ=>by rw[show(Γ.T 1)=Γ.g from rfl,<-W.y];kernel_rfl
noncomputable abbrev J3:List MV:=[.e [.c 1,.c 5],.e [.c 4,.c 0],.e [.c 2,.c 6]]
structure Se (σ:St) (δ:List MO) (Γ:Cf) (n fi:Nat) (num:Int) (aV bd args:MV) (sort ex:Int) (ad:Int) (L:List MV) (ts:List CT) (jk vl tm gK:Nat) (sm:Int) (bj vs ws:List MV) (σ':St) (aX:List MO):Prop where
 b:Up σ σ'
 a:Inv σ' Γ (n+10)
 h:Fz (uV fi (fi+1)) δ aX
 c:aX[fi]?=some (gx fi num aV bd sm args gK sort ex)
 l:∃L',aX[fi+1]?=some (.a L')/\L'.length<=L.length+3
 d:aX[gK]?=some (.a (cW bj (.e [.c 4,.c ad]::vs)))
 g:aX[jk]?=some (.a bj)
 i:bj.length<=3
 m:∃y,bj=J3.take y
 o:aX[vl]?=some (.a vs)
 e:aX[tm]?=some (.a (ts.map CT.d))
 f:fE σ'.R ts vs ws
 j:δ.length<=jk
 p:δ.length<=vl
 q:δ.length<=tm
 k:jk<gK
 s:vl<gK
 r:tm<gK
theorem Al(I:Inv σ Γ n)(hn:n<=60000)(hd:d<2)(dP:bC l=true)(cU:l≠84)(ht:0<t/\t<2455)
  (hf:δ[fi]?=some (gx fi num aV bd ip args stk sort ex)) (hL:δ[fi+1]?=some (.a L)) (ux:L.length<=800) (ad:Int) {Ω:Prop} (ω:∀σ' aX sm gK jk vl tm Y vs ws,au Tb (K+11) 1315 [.d 148,.d 8,.d (fi+182),.c (d:Int),.j [l] t,.c ad] (HS σ δ)=some (.e [.d (jk+182),.d (vl+182),.d (tm+182)],HS σ' aX)->Se σ δ Γ n fi num aV bd args sort ex ad L ((Γ.T d).map (CT.e l)) jk vl tm gK sm Y vs ws σ' aX->Ω):Ω:=by
 have O:=cJ hL
 refine b6 (ar δ (.a J3)) λJ ej=>?_
 refine jQ I (G9 hn) J (m:=4) G6 λy t1 hy dr u1 I1=>?_
 have dr:=dr (K+9)
 refine b6 (σ.S t1) λR i7=>?_
 rw[<-i7] at dr u1 I1
 have sl:=yG (δ:=J) (i:=δ.length) (vals:=J3) (ej▸(h9 _ _ _ rfl)) (by decide) y (jJ (bk hy (by decide))) R
 refine b6 (J3.take y) λY hj=>?_
 have jl:=hj▸gN▸(eG _ _)
 rw[<-hj] at sl
 refine b6 (ar J (.a Y)) λH eO=>?_
 rw[<-eO] at sl
 have w2:=eO▸ej▸((Gw.d _ _).e (Gw.d _ _))
 refine NX I1.a H hd λpq MQ hp2=>?_
 have l3:=I.a.a d
 have tsl:((Γ.T d).map (CT.e l)).map CT.d=(Γ.T d).map λu=>(u.e l).d:=n7▸rfl
 refine b6 (ar H (.a (((Γ.T d).map (CT.e l)).map CT.d))) λh_ kH=>?_
 have s1:bQ Tb (au Tb (K+10)) (K+10) (fH Rn 1) [(103,.d 148),(250,.d 8),(110,.d (fi+182)),(263,.c (d:Int)),(272,.j [l] t),(277,.c ad),(278,.d (J.length+182))] (HS R H)=some (.a,[(103,.d 148),(250,.d 8),(110,.d (fi+182)),(263,.c (d:Int)),(272,.j [l] t),(277,.c ad),(278,.d (J.length+182)),(279,.d (H.length+182))],HS R h_):=by
  have:=l9 (fuel:=K+10) (y:=279) (pH (x:=252) (oi [(1,ov MQ)] ⋯:aO Tb (au Tb (K+10)) (.h (.h (.d 250) (.g (.g [112,97,114,97,109,115]))) (.d 263)) [(103,.d 148),(250,.d 8),(110,.d (fi+182)),(263,.c (d:Int)),(272,.j [l] t),(277,.c ad),(278,.d (J.length+182))] (HS R H)=some (.d pq,HS R H)) (hp2 H) (by rw[ay];exact jX l3) (Fx (ts:=Γ.T d) cU ht rfl (hp2 H)))
  rw[kG,kF,<-tsl,<-kH] at this
  exact this
 have w3:=kH▸(w2.e (Gw.d _ _))
 have UJ:=kH▸(h9 _ _ _ rfl)
 have l2:=w2.1
 refine KS (K:=K) (σ:=R) (δ:=h_) (q:=H.length) (ts:=(Γ.T d).map (CT.e l)) (ρ:=[(103,.d 148),(250,.d 8),(110,.d (fi+182)),(263,.c (d:Int)),(272,.j [l] t),(277,.c ad),(278,.d (J.length+182)),(279,.d (H.length+182))]) I1 (A7 hn) (by rw[ay];exact l3) (λu hu=>by
  refine cf (cY.mp hu) λz hz z0=>?_
  subst z0
  exact Aw (I.a.w d z hz).1 dP cU) ⟨rfl,rfl,rfl⟩ (w3.2 _ _ hf) (w3.2 _ _ hL) ux UJ ((dJ (bk O l2))) λdT iy vs ws vm V=>?_
 refine b6 (ar iy (.a vs)) λmO X=>?_
 have s2:bQ Tb (au Tb (K+10)) (K+10) (fH Rn 2) [(103,.d 148),(250,.d 8),(110,.d (fi+182)),(263,.c (d:Int)),(272,.j [l] t),(277,.c ad),(278,.d (J.length+182)),(279,.d (H.length+182))] (HS R h_)=some (.a,[(103,.d 148),(250,.d 8),(110,.d (fi+182)),(263,.c (d:Int)),(272,.j [l] t),(277,.c ad),(278,.d (J.length+182)),(279,.d (H.length+182)),(220,.d (iy.length+182))],HS dT mO):=by
  have:=l9 (fuel:=K+10) (y:=220) (pH (x:=252) (rfl:aO Tb (au Tb (K+10)) (.d 279) [(103,.d 148),(250,.d 8),(110,.d (fi+182)),(263,.c (d:Int)),(272,.j [l] t),(277,.c ad),(278,.d (J.length+182)),(279,.d (H.length+182))] (HS R h_)=some (.d (H.length+182),HS R h_)) (by rw[df];exact UJ) (by rw[ay,ay];exact jX l3) vm)
  rw[kG,kF,<-X] at this
  exact this
 have lvs:vs.length<=3:=by have:=V.d.m;rw[gN,ay] at this;exact YG l3 this
 refine cf V.b λL' hL' ab6=>?_
 refine jQ (V.c.q (by rw[ay];exact(bN [_,_] (V0.B+1+(V0.M 2 V0.A)) (V0.B+1+6) (.c 2 V0.A 3 .z) rfl l3))) (YF hn) mO (m:=3) (by decide) λy3 t3 hy3 P u3 I3=>?_
 have P:=P (K+9)
 refine b6 (dT.S t3) λdI lx=>?_
 rw[<-lx] at P u3 I3
 have f5:=X▸(fV _ (V.a.2 _ _ (λe=>by have e:fi=fi+1:=e;exact G7 e) (w3.2 _ _ hf)))
 refine b6 (mO.set fi (gx fi num aV bd ((1:Int)+(y3:Int)) args stk sort ex)) λD5 W=>?_
 have W4:D5.length=iy.length+1:=by rw[W,fY,X,aB]
 have W2:H.length+1<=iy.length:=by have:=V.a.1;rw[kH,aB] at this;exact this
 have Q:H.length=J.length+1:=by rw[eO,aB]
 have N:J.length=δ.length+1:=by rw[ej,aB]
 have nfi:∀{z:Nat},δ.length<=z->z≠fi:=λh e=>Ys O N h e
 have j6:=W▸X▸(jg _ _ (Ql O N) (fV _ (V.a.2 _ _ (λe=>by have e:J.length=fi+1:=e;exact(bZ [_,_,_] (.o (V0.A+1+1) V0.B (.f (V0.B+1) V0.C (.e V0.C (V0.A+1) .z))) rfl O N e)) (kH▸(fV _ (eO▸(h9 _ _ _ rfl)))))))
 have v6:=W▸X▸(jg _ _ (λhh=>bZ [_,_,_,_,_] (.o (V0.A+1+1) V0.B (.o (V0.C+1) V0.D (.f (V0.E+1) V0.C (.f (V0.B+1) V0.E (.f V0.D V0.A .z))))) rfl O W2 Q N hh) (h9 _ _ _ rfl))
 refine b6 (ar D5 (.a [.e [.c 4,.c ad]])) λδ7 EM=>?_
 have a7:=zB dI (δ:=δ7) (i:=J.length) (j:=D5.length) (EM▸(fV _ j6)) (EM▸(h9 _ _ _ rfl)) (jX jl) (by simp)
 refine b6 (ar δ7 (.a (cW Y [.e [.c 4,.c ad]]))) λXa Ja=>?_
 rw[<-Ja] at a7
 have a8:=zB dI (δ:=Xa) (i:=δ7.length) (j:=iy.length) (Ja▸(h9 _ _ _ rfl)) (Ja▸EM▸(fV _ (fV _ v6))) (by unfold cW;simp;exact PQ jl) (jX lvs)
 refine b6 (ar Xa (.a (cW (cW Y [.e [.c 4,.c ad]]) vs))) λZ U5=>?_
 rw[<-U5] at a8
 have W9:Gw D5 Z:=by rw[U5,Ja,EM];exact(Gw.d _ _).e ((Gw.d _ _).e (Gw.d _ _))
 have f9:=W9.2 _ _ (W▸(m6 _ f5))
 refine b6 (Z.set fi (gx fi num aV bd ((1:Int)+(y3:Int)) args Xa.length sort ex)) λδA U=>?_
 have l8:Xa.length=D5.length+2:=by rw[Ja,aB,EM,aB]
 refine ω dI δA ((1:Int)+(y3:Int)) Xa.length J.length iy.length H.length Y vs ws ?_ ⟨(u1.f V.e).f u3,I3.q Yr,?_,?_,⟨L',?_,?_⟩,?_,?_,jl,⟨y,hj⟩,?_,?_,?_,Qg N,Yq W4 W2 Q N l8,Qf l2,gz [_,_,_,_,_] V0.D V0.E (.f (V0.B+1) V0.A (.o (V0.C+1) V0.B (.f (V0.D+1) V0.C (.f (V0.A+2) V0.E .z)))) rfl W4 W2 Q l8,gz [_,_,_] V0.B V0.C (.f (V0.B+1) V0.A (.f (V0.A+2) V0.C .z)) rfl W4 l8,Yv W4 W2 Q l8⟩
 ·have dr:=dr
  subst ej
  subst EM
  exact bw [(4,ow dr),(5,ow sl),(6,os s1),(6,os s2),(6,ow P),(8,oh (W▸(F9 dI f5 127 _ _ ⋯ rfl))),(11,ow a7),(12,ow a8),(13,oh (by rw[U];exact F9 dI f9 126 _ _ ⋯ rfl:ot Tb (HS dI Z) (.d (fi+182)) 126 (.d (Xa.length+182))=some (HS dI δA)))] ⋯
 ·refine U▸(Fz.k (Fz.k (Fz.k (w3.f.k ⟨V.a.1,λi v n h=>V.a.2 i v (λq=>n (.inr q)) h⟩) ?_) W9.f) (Fz.p _ _ _ _))
  refine W▸X▸?_;exact(Gw.d _ _).f.k (Fz.p _ _ _ _)
 ·exact U▸(m6 _ f9)
 ·refine U▸?_;exact jg _ _ xw (W9.2 _ _ (W▸X▸(jg _ _ xw (fV _ hL'))))
 ·rw[ay] at ab6;exact(bN [_,_,_] V0.B (V0.C+3) (.o V0.A 3 (.o V0.B (V0.C+V0.A) .z)) rfl l3 ab6)
 ·refine U▸(jg _ _ (λhh=>bZ [_,_,_,_,_,_,_] (.o (V0.A+1+1) V0.B (.f (V0.D+1) V0.C (.o (V0.E+1) V0.D (.f (V0.F+1) V0.E (.f (V0.B+1) V0.F (.f (V0.C+2) V0.G (.f V0.G V0.A .z))))))) rfl O W4 W2 Q N l8 hh) ?_)
  refine U5▸(show cW (cW Y [MV.e [.c 4,.c ad]]) vs=cW Y (.e [.c 4,.c ad]::vs) from by unfold cW;simp)▸?_
  exact h9 _ _ _ rfl
 ·exact U▸(jg _ _ (Ql O N) (W9.2 _ _ j6))
 ·exact U▸(jg _ _ (Yu O W4 W2 Q N l8) (W9.2 _ _ v6))
 ·exact U▸(jg _ _ (Qk O Q N) (W9.2 _ _ (W▸X▸(jg _ _ (Qk O Q N) (fV _ (V.a.2 _ _ (λe=>by have e:H.length=fi+1:=e;exact(bZ [_,_,_,_] (.o (V0.A+1+1) V0.B (.f (V0.D+1) V0.C (.f (V0.B+1) V0.D (.e V0.C (V0.A+1) .z)))) rfl O Q N e)) UJ))))))
 ·exact nV u3.j (by have:=V.d;rw[eC] at this;exact this)
end
end
section
section
variable{K n t b c d i l fi v stk dk r s g:Nat}{σ:St}{δ:List MO}{Γ:Cf}{ad x num ip sort ex:Int}{aV bd args:MV}{fs:List (Int×Nat)}
theorem Kl(cl:Call)(δ:List MO)(F:FS σ fs)(g:Nat):dj cl (HS σ δ) (.d 155) [.d (g+182)] .a=some (.f,HS (σ.Q (ar (fz fs) (.d (g+182)))) δ):=F.j▸(gH (n:=155) (μ:=HS σ δ) (l:=σ.X) ⋯ (by rw[F.j];have:=F.k;unfold fz bA;rw[ay];exact AU this))
theorem Kk(δ:List MO)(F:FS σ fs)(u:∀q∈fs,q.1≠num)(g:Nat):p9 (HS (σ.Q (ar (fz fs) (.d (g+182)))) δ) (.d 156) (.c num) (.d (g+182))=some (HS (σ.F (ar fs (num,g))) δ):=by
 have h:(HS (σ.Q (ar (fz fs) (.d (g+182)))) δ)[156]?=some (.b (ku fs)):=by rw[<-F.m];kernel_rfl
 have f:eL (ku fs) (.c num)=true:=mn (uW _) num
 have o:∀p∈ku fs,p.1≠ .c num:=λp a=>by
  refine cf (cY.mp a) λq j z0=>?_
  refine rQ z0 ?_
  intro e;have:=u q j;cases e;exact this rfl
 rw[mB h f (by have:=F.k;unfold ku bA;rw[ay];exact AU this),u_ o]
 exact(mi _ _:fz (ar fs (num,g))=ar (fz fs) (.d (g+182)))▸(oW _ _:ku (ar fs (num,g))=ar (ku fs) (.c num,.d (g+182)))▸(congrArg some ⋯)
theorem FS.w(F:FS σ fs)(h:∀q∈fs,q.1≠num)(e:fs.length<=99)(g:Nat):FS (σ.F (ar fs (num,g))) (ar fs (num,g)):=
 ⟨rfl,rfl,by
  unfold ar
  rw[d9,mH]
  refine⟨F.p,by simp,λa f b hb=>?_⟩
  refine cf (cY.mp f) λq z z0=>?_
  subst z0
  simp only[dX,jx,cx,iN,or_false] at hb
  refine fJ hb ?_;exact h q z,by rw[aB];exact(rH e)⟩
theorem Ap(F:FS σ fs)(e:∀q∈fs,q.1≠num)(a:δ[g]?=some (gx g num aV .f ip args stk 0 ex))(K:Nat):au Tb (K+1) 1322 [.d 148,.d 8,.d (g+182)] (HS σ δ)=some (.f,HS (σ.F (ar fs (num,g))) (δ.set g (gx g num aV (.d 7) ip args stk 0 ex))):=bw [(2,ow ((λcl=>Kl cl δ F g) (au Tb K))),(4,ov (ed (σ.Q (ar (fz fs) (.d (g+182)))) a 119 (.c num) ⋯)),(5,oh (Kk δ F e g)),(6,ov (ed (σ.F (ar fs (num,g))) a 5 (.c 0) ⋯)),(10,oh (F9 (σ.F (ar fs (num,g))) a 123 (.d 7) (gx g num aV (.d 7) ip args stk 0 ex) ⋯ rfl))] ⋯
theorem Aq(F:FS σ fs)(e:∀q∈fs,q.1≠num)(a:δ[g]?=some (gx g num aV .f ip args stk 4 ex))(K:Nat):au Tb (K+1) 1322 [.d 148,.d 8,.d (g+182)] (HS σ δ)=some (.f,HS (σ.F (ar fs (num,g))) δ):=bw [(2,ow ((λcl=>Kl cl δ F g) (au Tb K))),(4,ov (ed (σ.Q (ar (fz fs) (.d (g+182)))) a 119 (.c num) ⋯)),(5,oh (Kk δ F e g)),(6,ov (ed (σ.F (ar fs (num,g))) a 5 (.c 4) ⋯))] ⋯
end
end
section
structure LC where
 a:Nat
 d:Nat
 e:Int
 l:Nat
 t:Nat
 i:Nat
 g:Int
 j:Nat
 k:Nat
 n:Nat
 o:Nat
 c:MV
 h:Nat
 f:Int
 m:Int
 b:Int
noncomputable abbrev Nt(c:LC)(at_:Int)(gv:Nat):Loc:=[(103,.d 148),(250,.d 8),(110,.d (c.a+182)),(263,.c (c.d:Int)),(282,.c c.e),(272,.j [c.l] c.t),(62,.c (c.i:Int)),(277,.c c.g),(4,.d (c.j+182)),(278,.d (c.k+182)),(220,.d (c.n+182)),(279,.d (c.o+182)),(158,c.c),(285,.d (c.h+182)),(286,.c c.f),(287,.c c.m),(70,.c at_),(288,.d (gv+182)),(289,.c c.b)]
noncomputable abbrev W5(c:LC)(at_:Int)(gv:Nat)(i:Int)(g:Nat):Loc:=[(103,.d 148),(250,.d 8),(110,.d (c.a+182)),(263,.c (c.d:Int)),(282,.c c.e),(272,.j [c.l] c.t),(62,.c (c.i:Int)),(277,.c c.g),(4,.d (c.j+182)),(278,.d (c.k+182)),(220,.d (c.n+182)),(279,.d (c.o+182)),(158,c.c),(285,.d (c.h+182)),(286,.c c.f),(287,.c c.m),(70,.c at_),(288,.d (gv+182)),(289,.c c.b),(182,.c i),(281,.d (g+182))]
noncomputable abbrev Vf(c:LC)(at_:Int)(gv:Nat)(i:Int)(g:Nat)(j:MV):Loc:=[(103,.d 148),(250,.d 8),(110,.d (c.a+182)),(263,.c (c.d:Int)),(282,.c c.e),(272,.j [c.l] c.t),(62,.c (c.i:Int)),(277,.c c.g),(4,.d (c.j+182)),(278,.d (c.k+182)),(220,.d (c.n+182)),(279,.d (c.o+182)),(158,c.c),(285,.d (c.h+182)),(286,.c c.f),(287,.c c.m),(70,.c at_),(288,.d (gv+182)),(289,.c c.b),(182,.c i),(281,.d (g+182)),(266,j)]
inductive LF (c:LC) (ai:Int) (gv:Nat) (i:Int) (g:Nat):Loc->Prop
 |b:LF c ai gv i g (W5 c ai gv i g)
 |c (j:MV):LF c ai gv i g (Vf c ai gv i g j)
section
variable{K n t b c d i l fi v stk dk r s g a at_ gv:Nat}{σ:St}{δ:List MO}{Γ:Cf}{ad x num ip sort ex:Int}{aV bd args:MV}{fs:List (Int×Nat)}{P al:List MV}
theorem mz(σ:St)(δ:List MO)(h:σ.z.length<=100000):mw (HS σ δ) (.d 165)=some (.c (σ.z.length:Nat)):=
 ly (n:=165) (l:=σ.z) ⋯ (eK h)
theorem Ak(δ:List MO)(h:σ.z[at_]?=some p)(e:at_<=100000):ez (HS σ δ) (.d 165) (.c (at_:Int))=some p:=
 gn (n:=165) (μ:=HS σ δ) (l:=σ.z) ⋯ h (rH e)
theorem KD{m:Prop}(A:LF cc ai gv i g ρ)(w:δ[g]?=some (gx g num aV bd ip (.d (a+182)) stk sort ex))(q:δ[a]?=some (.a al))(o:al.length<=100)(G:a≠g)(cl:Call)(F:Nat)(C:∀ρ' r,(LF cc ai gv i g ρ')->(bQ Tb cl F (jR cG 11 5) ρ (HS σ δ)=some (.a,ρ',HS σ (δ.set a (.a r))))->m):m:=by
 have y:=hJ σ q (uS o)
 have D:aO Tb cl (.p (.k (.d 281) 28)) ρ (HS σ δ)=some (.c (al.length:Nat),HS σ δ):=by
  rcases A with _|j
  ·exact oi [(0,ov (ed σ w 28 (MV.d (a+182)) ⋯)),(1,ov y)] ⋯
  ·exact oi [(0,ov (ed σ w 28 (MV.d (a+182)) ⋯)),(1,ov y)] ⋯
 refine pN (T:=Tb) (cl:=cl) (fuel:=F) (n:=al.length) (t:= .b 266) (e:= .p (.k (.d 281) 28)) (b:=[.f (.d (.k (.d 281) 28) (.d 266)) (.l [.g (.c 1),.g (.c 77)])])
  (ρ:=ρ) (μ:=HS σ δ) (bF:=HS σ δ)
  (λk ρ μ=>(LF cc ai gv i g ρ)/\∃r,r.length=al.length/\μ=HS σ (δ.set a (.a r)))
  D (uS o) ⟨A,al,rfl,by rw[p_ q]⟩
  (λk ρ μ m B p E=>by
   obtain⟨p1,r,h,rfl⟩:=p
   have z:=Bl σ (m6 (MO.a r) q) (h▸B) (h▸(eK o)) (.e [.c 1,.c 77])
   rw[jy] at z
   refine E (Vf cc ai gv i g (.c (k:Int))) (HS σ (δ.set a (.a r))) (Vf cc ai gv i g (.c (k:Int))) (HS σ (δ.set a (.a (r.set k (.e [.c 1,.c 77]))))) ?_ ?_ ⟨.c _,_,by simpa using h,rfl⟩
   ·rcases p1 with _|j<;>rfl
   ·exact eD [(1,ov (ed σ (jg _ _ G w:(δ.set a (.a r))[g]?=some (gx g num aV bd ip (.d (a+182)) stk sort ex)) 28 (MV.d (a+182)) ⋯)),(2,oh z)] ⋯) λρ' H e u=>?_
 obtain⟨p1,r,h,rfl⟩:=u
 exact C ρ' r p1 e
end
end
section
noncomputable abbrev Nu(c:LC)(at_:Int)(gv:Nat)(i:Int):Loc:=[(103,.d 148),(250,.d 8),(110,.d (c.a+182)),(263,.c (c.d:Int)),(282,.c c.e),(272,.j [c.l] c.t),(62,.c (c.i:Int)),(277,.c c.g),(4,.d (c.j+182)),(278,.d (c.k+182)),(220,.d (c.n+182)),(279,.d (c.o+182)),(158,c.c),(285,.d (c.h+182)),(286,.c c.f),(287,.c c.m),(70,.c at_),(288,.d (gv+182)),(289,.c c.b),(182,.c i)]
inductive LS (c:LC) (ai:Int) (gv:Nat) (i:Int):Loc->Prop
 |d:LS c ai gv i (Nu c ai gv i)
 |b (g:Nat):LS c ai gv i (W5 c ai gv i g)
 |c (g:Nat) (j:MV):LS c ai gv i (Vf c ai gv i g j)
noncomputable abbrev wT:ME:= .E (.q .g (.d 70) (.p (.k (.d 103) 112))) (.q .a (.k (.h (.k (.d 103) 112) (.d 70)) 5) (.g (.c 4)))
noncomputable abbrev wB:List MS:=[.d (.j 1322 [.d 103,.d 250,.h (.k (.d 103) 112) (.d 70)]),.j 70 .a (.g (.c 1))]
section
variable{T:Tab}{cl:Call}{fuel:Nat}{e:ME}{b:List MS}{ρ bu:Loc}{μ bF eh:Hp}
theorem FD(f:aO T cl e ρ μ=some (.h true,μ))(hb:aY T cl (fuel+2) b ρ μ=some (.a,bu,bF))(j:aO T cl e bu bF=some (.h false,eh)):bQ T cl (fuel+2) (.h e b) ρ μ=some (.a,bu,eh):=(j_ f).trans ((NW hb).trans (j_ j))
end
section
variable{K n t b c d i l fi v stk dk r s g a at_ gv mu:Nat}{σ:St}{δ:List MO}{Γ:Cf}{ad x num ip sort ex:Int}{aV bd args:MV}{fs:List (Int×Nat)}{P:List MV}{al:List MV}{cc:LC}
theorem acw:jR cG 11 0= .h wT wB:=⋯
theorem adC(x:Nat)(μ:Hp):dE μ .a (.c (x:Int)) (.c 1)=some (.c ((x+1:Nat):Int),μ):=rfl
theorem K2{ρ:Loc}{gv:Nat}{i:Int}(k:σ.z=ar P (.d (g+182)))(o:P.length<=90000)(m:iw Tb (HS σ δ) (.d (g+182)) 5=some (.c 0))(q:LS cc (P.length:Nat) gv i ρ)(cl:Call):
  aO Tb cl wT ρ (HS σ δ)=some (.h false,HS σ δ):=by
 have f:=mz σ δ (by rw[k,aB];exact Qn o)
 rw[k,aB] at f
 have lt:=qQ (x:=P.length) (y:=P.length+1) (decide_eq_true Sm)
 have gt:=Ak (σ:=σ) (at_:=P.length) δ (p:= .d (g+182)) (k▸(aZ _ _)) (xn o)
 rcases q with _|g0|⟨g0,j⟩
 ·exact oi [(1,ov f),(2,oq (lt (HS σ δ))),(5,ov gt),(6,ov m)] ⋯
 ·exact oi [(1,ov f),(2,oq (lt (HS σ δ))),(5,ov gt),(6,ov m)] ⋯
 ·exact oi [(1,ov f),(2,oq (lt (HS σ δ))),(5,ov gt),(6,ov m)] ⋯
theorem V6{gv:Nat}{i:Int}(F:FS σ fs)(o:∀q∈fs,q.1≠num)(h:σ.z=ar (ar P (.d (mu+182))) (.d (g+182)))(j:P.length<=80000)(hm:δ[mu]?=some (gx mu num aV .f ip args stk 4 ex))(m:∀σ,iw Tb (HS σ δ) (.d (g+182)) 5=some (.c 0))(K:Nat):
  bQ Tb (au Tb (K+2)) (K+2) (jR cG 11 0) (Nu cc (P.length:Nat) gv i) (HS σ δ)=some (.a,Nu cc ((P.length+1:Nat):Int) gv i,HS (σ.F (ar fs (num,mu))) δ):=by
 refine acw▸?_
 have k:=mz σ δ (by rw[h,aB,aB];exact(eK (aM (aM j _) _)))
 rw[h,aB,aB] at k
 have gm:=Ak (σ:=σ) (at_:=P.length) δ (p:= .d (mu+182)) (by
  rw[h]
  show((P++[MV.d (mu+182)])++[MV.d (g+182)])[P.length]?=_
  rw[aJ (by simp)];exact aZ _ _) (G5 j)
 refine FD ?_ ?_ (K2 (σ:=σ.F (ar fs (num,mu))) (δ:=δ) (cc:=cc) (gv:=gv) (i:=i) (P:=ar P (.d (mu+182))) (ρ:=Nu cc ((P.length+1:Nat):Int) gv i) h (by rw[aB];exact Pj j) (m _) (by rw[aB];exact .d) (au Tb (K+2)))
 ·exact oi [(1,ov k),(2,oq ((qQ (x:=P.length) (y:=P.length+1+1) (decide_eq_true (bc _ _))) (HS σ δ))),(5,ov gm),(6,ov (ed σ hm 5 (MV.c 4) ⋯))] ⋯
 ·have st:=Aq F o hm (K+1)
  have ad:=adC P.length
  exact eD [(1,ov gm),(2,ow st)] ⋯
end
end
section
section
variable{K n t b c d i l fi v stk dk r s g a at_ gv mu ix:Nat}{σ:St}{δ:List MO}{Γ:Cf}{ad x num ip sort ex:Int}{aV bd args:MV}{fs:List (Int×Nat)}{P:List MV}{al ws:List MV}{cc:LC}{e:En}{rows:List MV}
theorem abQ(σ:St){j:Nat}{l:List MV}(h:δ[i]?=some (.a l))(g:δ[j]?=some (.a l))(f:l.all (bh 8)=true):ct (HS σ δ) .b (.d (i+182)) (.d (j+182))=some false:=by
 have e:Uw (HS σ δ) (.d (i+182)) (.d (j+182))=some true:=by
  unfold Uw;dsimp only;rw[wu (by rw[df];exact h),wu (by rw[df];exact g),j7 (by rw[f];rfl),(kz l l).mpr rfl]
 exact mI e
theorem Vs{p:List MV}(f:bh 8 (.e p)=true)(μ:Hp):ct μ .b (.e p) (.e p)=some false:=mI ((j7 (by rw[f];rfl)).trans (congrArg some (hO _)))
theorem Fs(x:Nat)(μ:Hp):ct μ .b (.c (x:Int)) (.c (((x+1:Nat):Int) - 1))=some false:=by
 rw[show((x+1:Nat):Int) - 1=(x:Int) from GQ]
 show(some (MV.k (.c (x:Int)) (.c (x:Int)))).map (!·)=_
 rw[hO];rfl
noncomputable abbrev bX:List MS:=[jR cG 11 1,jR cG 11 2,jR cG 11 3,jR cG 11 4,jR cG 11 5]
theorem adm{ρ:Loc}{gv:Nat}(F:FS σ fs)(hn:∀q∈fs,q.1≠num)(R:σ.z=ar P (.d (g+182)))(V:P.length<=90000)
  (Z:LS cc (P.length:Nat) gv (ix:Int) ρ)
  (m:δ[g]?=some (gx g num e.a .f ip (.d (a+182)) stk 0 ex)) (MW:δ[cc.j]?=some (.a rows)) (UZ:rows[ix]?=some e.c) (Y:ix<=100) (MY:δ[e.o]?=some (.a e.g)) (S:δ[cc.h]?=some (.a ws))
  (I:δ[a]?=some (.a (cW e.g ws))) (H:e.g.length<=1/\ws.length<=3) (M:(cW e.g ws).all (bh 8)=true) (hm:bh 8 e.a=true) (K:Nat) {W:Prop} (N:∀ρ' r,(LF cc (P.length:Nat) gv (ix:Int) g ρ')->aY Tb (au Tb (K+1)) (K+1) bX ρ (HS σ δ)=some (.a,ρ',HS (σ.F (ar fs (num,g))) (((ar δ (.a (cW e.g ws))).set g (gx g num e.a (.d 7) ip (.d (a+182)) stk 0 ex)).set a (.a r)))->W):W:=by
 have u:a≠g:=by intro q;rw[q,m] at I;cases I
 have J:=mz σ δ (by rw[R,aB];exact Qn V)
 rw[R,aB] at J
 have sl:=Fs P.length
 have gt:=Ak (σ:=σ) (at_:=P.length) δ (p:= .d (g+182)) (R▸(aZ _ _)) (xn V)
 have D:=jZ σ MW UZ (Pz Y)
 have nm:=Vs hm
 have ad:=zB σ MY S (YI H) (YH H)
 refine b6 (ar δ (.a (cW e.g ws))) λT C=>?_
 replace ad:=C.symm▸ad
 have L:=C▸(Gw.d _ _)
 have Q:=abQ σ (L.2 _ _ I) (by rw[C];exact h9 _ _ _ rfl:T[δ.length]?=some (.a (cW e.g ws))) M
 have U:=L.2 _ _ m
 have st:=Ap F hn U K
 refine b6 (T.set g (gx g num e.a (.d 7) ip (.d (a+182)) stk 0 ex)) λX y=>?_
 rw[<-y] at st
 have O:X[g]?=some (gx g num e.a (.d 7) ip (.d (a+182)) stk 0 ex):=by rw[y];exact m6 _ U
 have a2:X[a]?=some (.a (cW e.g ws)):=by rw[y];exact jg _ _ (cH u) (L.2 _ _ I)
 have w:(cW e.g ws).length<=100:=by unfold cW;simp;exact(bN [_,_] (V0.A+V0.B) 100 (.o V0.A 1 (.o V0.B 3 .z)) rfl H.1 H.2)
 refine b6 e.a λmr WN=>?_
 rcases Z with _|g0|⟨g0,j⟩
 ·refine KD (σ:=σ.F (ar fs (num,g))) (ρ:=W5 cc (P.length:Nat) gv (ix:Int) g) (cc:=cc) .b O a2 w u (au Tb (K+1)) (K+1) λρ' r G E=>?_
  refine N ρ' r G ?_
  exact C▸y▸(eD [(1,ov J),(3,oq (sl (HS σ δ))),(6,ov gt),(7,ov (ed σ m 5 (MV.c 0) ⋯)),(10,ov (ed σ m 108 (MV.e [MV.c ↑e.k,MV.c ↑e.h,e.j]) ⋯)),(11,ov D),(13,oq (nm (HS σ δ))),(15,ov (ed σ m 28 (MV.d (a+182)) ⋯)),(16,ov D),(18,ow ad),(19,oq Q),(21,ow st),(22,os E)] ⋯)
 ·refine KD (σ:=σ.F (ar fs (num,g))) (ρ:=W5 cc (P.length:Nat) gv (ix:Int) g) (cc:=cc) .b O a2 w u (au Tb (K+1)) (K+1) λρ' r G E=>?_
  refine N ρ' r G ?_
  refine C▸y▸?_
  exact eD [(1,ov J),(3,oq (sl (HS σ δ))),(6,ov gt),(7,ov (ed σ m 5 (MV.c 0) ⋯)),(10,ov (ed σ m 108 (MV.e [MV.c ↑e.k,MV.c ↑e.h,e.j]) ⋯)),(11,ov D),(13,oq (nm (HS σ δ))),(15,ov (ed σ m 28 (MV.d (a+182)) ⋯)),(16,ov D),(18,ow ad),(19,oq Q),(21,ow st),(22,os E)] ⋯
 ·refine KD (σ:=σ.F (ar fs (num,g))) (ρ:=Vf cc (P.length:Nat) gv (ix:Int) g j) (cc:=cc) (.c j) O a2 w u (au Tb (K+1)) (K+1) λρ' r G E=>?_
  refine N ρ' r G ?_
  exact C▸y▸(eD [(1,ov J),(3,oq (sl (HS σ δ))),(6,ov gt),(7,ov (ed σ m 5 (MV.c 0) ⋯)),(10,ov (ed σ m 108 (MV.e [MV.c ↑e.k,MV.c ↑e.h,e.j]) ⋯)),(11,ov D),(13,oq (nm (HS σ δ))),(15,ov (ed σ m 28 (MV.d (a+182)) ⋯)),(16,ov D),(18,ow ad),(19,oq Q),(21,ow st),(22,os E)] ⋯)
end
end
section
theorem r8.C{k:Nat}{u:CT}{v w:MV}(h:r8 k u v w):∃p,w= .e p:=by
 cases h<;>exact⟨_,rfl⟩
theorem abW{u:CT}(h:bC u.f=true)(μ:Hp):ct μ .b u.d (.g [118])=some true:=by
 have e:∀s:List Nat,s≠[118]->ct μ .b (.g s) (.g [118])=some true:=λs j=>by
  show(ct μ .a (.g s) (.g [118])).map (!·)=_
  rw[tX j];rfl
 cases u with
 |b c=>exact e _ (by intro q;cases q;cases h)
 |r c=>exact e _ (by intro q;cases q)
 |q c=>exact e _ (by intro q;cases q)
section
variable{K n t b c d i l fi v stk dk r s g a at_ gv mu ix:Nat}{σ:St}{δ:List MO}{Γ:Cf}{ad x num ip sort ex:Int}{aV bd args:MV}{fs:List (Int×Nat)}{P:List MV}{al ws L:List MV}{cc:LC}{e:En}{rows:List MV}{u:CT}
noncomputable abbrev bY:List MS:=[jR cG 11 7,jR cG 11 8,jR cG 11 9,jR cG 11 10]
structure RdO (σ:St) (δ:List MO) (Γ:Cf) (n g:Nat) (num ip:Int) (aV args:MV) (ex:Int) (u:CT) (σ':St) (aX:List MO) (gK ia:Nat) (st gl:List MV) (v:MV):Prop where
 a:Up σ σ'
 c:Inv σ' Γ (n+2)
 b:Fz (uV g (g+1)) δ aX
 f:aX[g]?=some (gx g num aV (.d 7) ip args gK 0 ex)
 h:aX[gK]?=some (.a st)
 d:Ret σ'.R u st v
 i:aX[ia]?=some (.a gl)
 e:v= .f/\gl=[]\/(∃p,v= .e p)/\gl=[v]
 k:δ.length<=gK
 j:δ.length<=ia
theorem RQ{Ω:Prop}{ρ:Loc}{ai i:Int}(I:Inv σ Γ n)(hn:n<=60000)(hp:σ.z.length<=90000)(i_:LF cc ai gv i g ρ)(j4:cc.c=u.d)(hu:u= .b 118\/bC u.f=true/\u.f≠84)
  (hg:δ[g]?=some (gx g num aV (.d 7) ip args stk 0 ex)) (hL:δ[g+1]?=some (.a L)) (ux:L.length<=800) (bJ:∀ρ' σ' aX gK ia st gl v,(LF cc (σ.z.length:Nat) ia i g ρ')->(aY Tb (au Tb (K+10)) (K+10) bY ρ (HS σ δ)=some (.a,ρ',HS σ' aX))->(RdO σ δ Γ n g num ip aV args ex u σ' aX gK ia st gl v)->Ω):Ω:=by
 have ln:=mz σ δ (xn hp)
 have lL:=cJ hL
 obtain⟨WC,S,vc,fl,T,WA,Wz,V,WD,X,Y,UE,WE,s_,U,tb⟩:=cc
 have j4:UE=u.d:=j4
 subst j4
 refine b6 ((ar δ (.a [])).set g (gx g num aV (.d 7) ip args δ.length 0 ex)) λD H=>?_
 have g1:(ar δ (.a []))[g]?=some (gx g num aV (.d 7) ip args stk 0 ex):=fV _ hg
 have s1:=H▸(F9 σ g1 126 _ _ ⋯ rfl)
 have g2:=H▸(m6 _ g1)
 have F2:Fz (uV g (g+1)) δ D:=H▸((Gw.d _ _).f.k (Fz.p _ _ _ _))
 have O:D.length=δ.length+1:=by rw[H,fY,aB]
 rcases hu with rfl|⟨dP,cU⟩
 ·have R:RdO σ δ Γ n g num ip aV args ex (.b 118) σ (ar D (.a [])) δ.length D.length [] [] .f:=
   ⟨Up.q _,I.q Qp,F2.k (Gw.d _ _).f,fV _ g2,fV _ (H▸(jg _ _ (by have:=cJ hg;exact(gw (ud lL))) (h9 _ _ _ rfl))),.inl ⟨rfl,rfl,rfl⟩,h9 _ _ _ rfl,.inl ⟨rfl,rfl⟩,aC _,Qg O⟩
  rcases i_ with _|j
  ·refine bJ (W5 ⟨WC,S,vc,fl,T,WA,Wz,V,WD,X,Y,.g [118],WE,s_,U,tb⟩ (σ.z.length:Nat) D.length i g) σ _ _ _ _ _ _ .b ?_ R
   exact eD [(1,ov ln),(3,oh s1)] ⋯
  ·refine bJ (Vf ⟨WC,S,vc,fl,T,WA,Wz,V,WD,X,Y,.g [118],WE,s_,U,tb⟩ (σ.z.length:Nat) D.length i g j) σ _ _ _ _ _ _ (.c j) ?_ R
   exact eD [(1,ov ln),(3,oh s1)] ⋯
 ·refine b6 (ar D (.a [])) λh_ Z=>?_
  have w3:=Z▸(Gw.d _ _)
  refine jQ I (G9 hn) h_ (m:=999983) Qj λy t1 hy J u1 I1=>?_
  have J:=J (K+9)
  refine RE (K:=K) (x:=(y:Int)) (u:=u) I1 (rH hn) dP cU (Qi hy) (Qh hy) (w3.2 _ _ g2) (w3.2 _ _ (H▸(jg _ _ xw (fV _ hL)))) (eK ux) λB A G w L4 N u4 I4 W hL4 aeP VA=>?_
  refine b6 ((ar A (.a [G])).set g (gx g num aV (.d 7) ip args A.length 0 ex)) λE Q=>?_
  have M:(ar A (.a [G]))[g]?=some (gx g num aV (.d 7) ip args δ.length 0 ex):=fV _ (W.2 _ _ (λq=>by have q:g=g+1:=q;exact G7 q) (w3.2 _ _ g2))
  have s5:=Q▸(F9 B M 126 _ _ ⋯ rfl)
  have g5:=Q▸(m6 _ M)
  have l4:A.length≥δ.length+2:=by have:=W.1;rw[Z,aB] at this;exact YM O this
  have e5:E[A.length]?=some (.a [G]):=by rw[Q];exact jg _ _ (YL lL O l4) (h9 _ _ _ rfl)
  refine dG VA.o λk hV=>?_
  have kp:=so (K:=K+9) (μ:=HS B E) hV
  have nv:=abW dP
  have F5:Fz (uV g (g+1)) δ E:=by
   refine Q▸(Fz.k (Fz.k (F2.k w3.f) ⟨W.1,λi v n h=>W.2 i v (λq=>n (.inr q)) h⟩) ((Gw.d _ _).f.k (Fz.p _ _ _ _)))
  have l5:E.length=A.length+1:=by rw[Q,fY,aB]
  have R:RdO σ δ Γ n g num ip aV args ex u B (ar E (.a [w])) A.length E.length [G] [w] w:=
   ⟨u1.f u4,I4.q Qo,F5.k (Gw.d _ _).f,fV _ g5,fV _ e5,.inr ⟨G,rfl,VA⟩,h9 _ _ _ rfl,.inr ⟨hV.C,rfl⟩,YK O l4 l5,YJ O l4 l5⟩
  refine b6 u.d λue F=>?_
  rw[<-F] at N kp nv
  rcases i_ with _|j
  ·refine bJ (W5 ⟨WC,S,vc,fl,T,WA,Wz,V,WD,X,Y,u.d,WE,s_,U,tb⟩ (σ.z.length:Nat) E.length i g) B _ _ _ _ _ _ .b ?_ R
   rw[Z] at J N
   exact F▸(eD [(1,ov ln),(3,oh s1),(5,oq (nv (HS σ (ar D (MO.a []))))),(7,ow J),(8,ow N),(10,oh s5),(11,ov (ed B g5 126 (MV.d (A.length+182)) ⋯)),(12,ov (hK B e5 0 G ⋯)),(13,ow kp)] ⋯)
  ·refine bJ (Vf ⟨WC,S,vc,fl,T,WA,Wz,V,WD,X,Y,u.d,WE,s_,U,tb⟩ (σ.z.length:Nat) E.length i g j) B _ _ _ _ _ _ (.c j) ?_ R
   rw[Z] at J N
   exact F▸(eD [(1,ov ln),(3,oh s1),(5,oq (nv (HS σ (ar D (MO.a []))))),(7,ow J),(8,ow N),(10,oh s5),(11,ov (ed B g5 126 (MV.d (A.length+182)) ⋯)),(12,ov (hK B e5 0 G ⋯)),(13,ow kp)] ⋯)
end
end
section
noncomputable def St.uc(σ b:St):St:={σ.up b with z:=b.z,a:=b.a,L:=b.L,Z:=b.Z,X:=b.X,ab:=b.ab}
structure Uc (σ σ':St):Prop where
 D:σ'=σ.uc σ'
 B:∃x,σ'.R=σ.R++x
 A:∀k v,cV σ.B k=some v->cV σ'.B k=some v
theorem Uc.C{σ σ':St}(u:Uc σ σ'){P:St->Prop}(h:P (σ.uc σ')):P σ':=u.D.symm▸h
theorem Uc.w(σ:St):Uc σ σ:=⟨rfl,kY _,λJ J h=>h⟩
theorem Uc.f{a b c:St}(h:Uc a b)(g:Uc b c):Uc a c:=have e:b.uc c=(a.uc b).uc c:=congrArg (St.uc · c) h.D
 ⟨g.D.trans e,xV h.B g.B,λk v e=>g.A k v (h.A k v e)⟩
section
variable{σ σ':St}{Γ:Cf}{n c:Nat}
theorem Up.D(u:Up σ σ'):Uc σ σ':=⟨u.C (P:=λs=>s=σ.uc s) rfl,u.j,u.y⟩
theorem Uc.q(σ:St)(aV args:MV)(sort:Int)(g:Nat):Uc σ (σ.M aV args sort g):=⟨rfl,kY _,λJ J h=>h⟩
theorem Uc.y(σ:St)(l:List (MV×MV)):Uc σ (σ.I l):=⟨rfl,kY _,λJ J h=>h⟩
theorem Uc.r(σ:St)(v:MV):Uc σ (σ.D v):=⟨rfl,kY _,λJ J h=>h⟩
theorem Uc.t(σ:St)(a:List (Int×Nat)):Uc σ (σ.F a):=⟨rfl,kY _,λJ J h=>h⟩
theorem Uc.z(σ:St){R:List Row}(h:∃x,R=σ.R++x):Uc σ (σ.r R):=(Up.R h).D
theorem Inv.E(I:Inv σ Γ n)(v:MV):Inv (σ.D v) Γ n:=
 ⟨⟨I.a.r,I.a.A,I.a.x,I.a.y,I.a.j,I.a.m,I.a.g,I.a.h,I.a.e,I.a.f,I.a.v,I.a.p,I.a.w,I.a.z⟩,⟨I.j.d,I.j.f,I.j.e,I.j.a⟩,I.r,I.F,I.y,I.L,I.A,I.B,I.z,I.C⟩
theorem Inv.H(I:Inv σ Γ n)(b:List (Int×Nat)):Inv (σ.F b) Γ n:=
 ⟨⟨I.a.r,I.a.A,I.a.x,I.a.y,I.a.j,I.a.m,I.a.g,I.a.h,I.a.e,I.a.f,I.a.v,I.a.p,I.a.w,I.a.z⟩,⟨I.j.d,I.j.f,I.j.e,I.j.a⟩,I.r,I.F,I.y,I.L,I.A,I.B,I.z,I.C⟩
theorem Up.B{a:List (Int×Nat)}(u:Up σ σ')(F:FS σ a):FS σ' a:=u.C (P:=λs=>FS s a) ⟨F.j,F.m,F.p,F.k⟩
theorem Up.z(u:Up σ σ'):σ'.z=σ.z/\σ'.a=σ.a:=⟨u.C (P:=λs=>s.z=σ.z) rfl,u.C (P:=λs=>s.a=σ.a) rfl⟩
theorem FS.o{a:List (Int×Nat)}(F:FS σ a)(b:σ'.X=σ.X)(d:σ'.ab=σ.ab):FS σ' a:=⟨b▸F.j,d▸F.m,F.p,F.k⟩
end
structure xj (δ:List MO) (g:Nat) (num:Int) (aV:MV) (a:Nat):Prop where
 b:δ[g]?=some (gx g num aV .f 0 (.d (a+182)) (g+2) 0 0)
 c:δ[g+1]?=some (.a [])
 d:δ[g+3]?=some (.a [])
theorem tK(D:List MO){num:Int}{aV:MV}{a:Nat}:xj (fD D (gx D.length num aV .f 0 (.d (a+182)) (D.length+2) 0 0) 6) D.length num aV a:=
 ⟨v5 6,sh 6 (i:=0) PN,sh 6 (i:=2) Qc⟩
structure aeO (σ:St) (Γ:Cf) (n:Nat) (σ':St):Prop where
 b:Uc σ σ'
 a:Inv σ' Γ (n+2)
end
section
section
variable{K n b d l f g mu dk:Nat}{σ:St}{δ jI:List MO}{Γ:Cf}{num nf nm ip jL ql sort ex kD ad:Int}{args di fU dp fW op v:MV}{stk dW jb x bb:Nat}{fs:List (Int×Nat)}{st S S' vals:List MV}{e:En}{es:List (Int×En)}
structure D_ (σ:St) (δ jI:List MO) (b:Nat) (Γ:Cf) (n d l g:Nat) (num ip:Int) (e:En) (args:MV) (stk:Nat) (ex:Int) (st:List MV) (v:MV) (c:List (Int×Nat)):Prop where
 a:Inv σ Γ n
 h:n<=60000
 j:d<2
 m:bC l=true
 o:l≠84
 q:pB σ jI b Γ d l e
 r:δ[g]?=some (gx g num e.a (.d 7) ip args stk 0 ex)
 u:δ[g+3]?=some (.a [])
 w:δ[stk]?=some (.a st)
 p:Ret σ.R ((Γ.r d).e l) st v
 c:FS σ (ar c (num,g))
theorem D_.k(R:D_ σ δ jI b Γ n d l g num ip e args stk ex st v fs){z:Prop}(B:∀(R':List Row) (y:List MO),dM σ.R R' 1->(∀K A,au Tb (K+14) 837 [.d 148,v] (HS ((σ.r R').F fs) (cW δ y))=some (.f,A)->au Tb (K+16) 1248 [op,.d 148,.d (g+182),.c 0] (HS σ δ)=some (.c (-2),A))->z):z:=by
 obtain⟨i,s,t,C,E⟩:=R.q
 exact VB R.a (by have:=R.h;exact xv this) R.j R.m R.o E R.r R.u R.w R.p R.c B
theorem Mn{A:Prop}(R:D_ σ δ jI b Γ n d l g num ip e args stk ex st v (ar fs (nf,f)))(w:δ[f]?=some (gx f nf dp (.d bb) jL di dW sort kD))(s:δ[dW]?=some (.a S))(F:S.length<=100)(I:Giv v S S')(K:Nat)(D:∀σ' m,(au Tb (K+16) 1248 [op,.d 148,.d (g+182),.c 0] (HS σ δ)=some (.c (-2),HS σ' m))->(Uc σ σ')->(Inv σ' Γ (n+1))->(FS σ' (ar fs (nf,f)))->(σ'.z=σ.z)->(σ'.a=σ.a)->(Fz (uV f dW) δ m)->(m[f]?=some (gx f nf dp (.d bb) (jL+1) di dW sort kD))->(m[dW]?=some (.a S'))->A):A:=by
 refine R.k (op:=op) λR' y G h=>?_
 have C:=FS.u (R.c.y (R:=R'))
 have j:=cg y w
 have i:=cg y s
 have B:dW≠f:=by intro q;rw[q,w] at s;cases s
 refine D _ _ (h K _ (Ce C j i F I (K+13))) (((Uc.z σ G.c).f (Uc.t _ _)).f (Uc.r _ _)) (((R.a.R G).H _).E _) (C.o rfl rfl) rfl rfl ?_ ?_ ?_
 ·exact((Gw.k δ y).f.k (Fz.u _ _ _ _)).k (Fz.p _ _ _ _)
 ·exact m6 _ (jg _ _ B j)
 ·exact jg _ _ (cH B) (m6 _ i)
theorem Ik{P:Prop}(R:D_ σ δ jI b Γ n d l g num ip e args stk ex st v (ar fs (nm,mu)))(D:qx σ δ b Γ d l dk ad es)(M:lh δ mu nm fW ql fU jb x vals ad)(hv:vals.length<=10){p:Int×En}(W:es[x]?=some p)(K:Nat)(Z:∀σ' m a s,(au Tb (K+16) 1248 [op,.d 148,.d (g+182),.c 0] (HS σ δ)=some (.c (-2),HS σ' m))->(Uc σ σ')->(Inv σ' Γ (n+3))->(FS σ' (ar fs (nm,mu)))->(σ'.z=ar σ.z (.d (s+182)))->(σ'.a.length=σ.a.length+1)->(Fz (pw mu) δ m)->(lh m mu nm fW ql fU jb (x+1) vals ad)->(xj m s ((σ.a.length+1:Nat):Int) p.2.a a)->(m[a]?=some (.a (cW p.2.g vals)))->(δ.length<=a)->(δ.length<=s)->(a<s)->P):P:=by
 refine R.k (op:=op) λR' y G h=>?_
 have N:=FS.u (R.c.y (R:=R'))
 have i:=Gw.k δ y
 have C:Uc σ (((σ.r R').F (ar fs (nm,mu))).D v):=((Uc.z σ G.c).f (Uc.t _ _)).f (Uc.r _ _)
 refine y9 (((R.a.R G).H _).E _) (by have:=R.h;exact A7 this) R.j (D.w C.A C.B i.f (λJ h=>h.elim:rz (λJ=>False) δ b)) (M.j i) hv W λs' a O T Y I V L U=>?_
 refine Z _ _ a O.length (h K _ (tg N (M.j i) (K+12) (T (K+3)))) ((C.f (Uc.y _ _)).f (Uc.q _ _ _ _ _)) (Y.M _ _ _ _) (N.o rfl rfl) rfl ?_ ?_ (V.j (xO 6)) (tK O) (zH L 6) (aD i.1 U) ?_ (cJ L)
 ·show(ar σ.a _).length=_;rw[aB]
 ·exact(i.f.k I).k (xO 6).f
 ·have X:=i.1;have Q:=I.1;exact pE X Q
theorem Ij{N:Prop}(R:D_ σ δ jI b Γ n d l g num ip e args stk ex st v (ar (ar fs (nf,f)) (nm,mu)))(D:qx σ δ b Γ d l dk ad es)(M:lh δ mu nm fW ql fU jb x vals ad)(U:vals.length<=10)(W:x=es.length)
  (C:δ[f]?=some (gx f nf dp (.d bb) jL di dW sort kD)) (s:δ[dW]?=some (.a S)) (V:S.length<=100) (X:Giv v S S') (K:Nat) (T:∀σ' m,(au Tb (K+16) 1248 [op,.d 148,.d (g+182),.c 0] (HS σ δ)=some (.c (-2),HS σ' m))->(Uc σ σ')->(Inv σ' Γ (n+1))->(FS σ' (ar fs (nf,f)))->(σ'.z=σ.z)->(σ'.a=σ.a)->(Fz (uV f dW) δ m)->(m[f]?=some (gx f nf dp (.d bb) (jL+1) di dW sort kD))->(m[dW]?=some (.a S'))->N):N:=by
 refine R.k (op:=op) λR' y G h=>?_
 have P:=FS.u (R.c.y (R:=R'))
 have i:=Gw.k δ y
 have Q:Inv (((σ.r R').F (ar (ar fs (nf,f)) (nm,mu))).D v) Γ (n+1):=((R.a.R G).H _).E _
 have I:Uc σ (((σ.r R').F (ar (ar fs (nf,f)) (nm,mu))).D v):=((Uc.z σ G.c).f (Uc.t _ _)).f (Uc.r _ _)
 have L:FS (((σ.r R').F (ar (ar fs (nf,f)) (nm,mu))).D v) (ar (ar fs (nf,f)) (nm,mu)):=P.o rfl rfl
 have O:dW≠f:=by intro q;rw[q,C] at s;cases s
 refine T _ _ (h K _ (tg P (M.j i) (K+12) (y8 Q (by have:=R.h;exact A7 this) R.j (D.w I.A I.B i.f (λJ h=>h.elim:rz (λJ=>False) δ b)) (M.j i) U W L (cg y C) (cg y s) V rfl X (K+5)))) ((I.f (Uc.t _ _)).f (Uc.r _ _)) ((Q.H _).E _) ((FS.u L).o rfl rfl) rfl rfl ?_ ?_ ?_
 ·exact((i.f.k (Gw.d _ _).f).k (Fz.u _ _ _ _)).k (Fz.p _ _ _ _)
 ·exact m6 _ (jg _ _ O (fV _ (cg y C)))
 ·exact jg _ _ (cH O) (m6 _ (fV _ (cg y s)))
end
end
section
section
variable{K n t b c d i l fi v stk dk r s g a at_ gv mu ix:Nat}{σ σ':St}{δ aX:List MO}{Γ:Cf}{ad x num ip sort ex ai ii:Int}{aV bd args:MV}{fs:List (Int×Nat)}{cc:LC}{ρ:Loc}
theorem acO{p q:Int}(h:p≠q)(μ:Hp):ct μ .a (.c p) (.c q)=some false:=by
 show some (MV.k (.c p) (.c q))=_
 rw[fg (by intro e;cases e;exact h rfl)]
theorem vb(p:Int)(μ:Hp):ct μ .a (.c p) (.c p)=some true:=by
 show some (MV.k (.c p) (.c p))=_
 rw[hO]
theorem VO(e:LF cc ai gv ii g ρ)(h:ii≠cc.b)(cl:Call)(F:Nat):bQ Tb cl F (jR cG 11 6) ρ (HS σ δ)=some (.a,ρ,HS σ δ):=by
 have n0:=acO h
 rcases e with _|j
 ·exact uD [(0,oq (n0 (HS σ δ)))] ⋯
 ·exact uD [(0,oq (n0 (HS σ δ)))] ⋯
theorem VP(o:LF cc ai gv ii g ρ)(h:ii=cc.b)(k:cc.d<2)(H:au Tb K 1327 [.d 148,.d 8,.d (g+182),.c ((1 - cc.d:Nat):Int),.c 1] (HS σ δ)=some (.h true,HS σ' aX))(F:Nat):bQ Tb (au Tb K) F (jR cG 11 6) ρ (HS σ δ)=some (.a,ρ,HS σ' aX):=by
 obtain⟨J,f,y,C,p,w,A,I,D,u,z,q,E,G,B,m⟩:=cc
 have h:ii=m:=h
 subst h
 have n0:=vb ii
 have k:f<2:=k
 have H:=H
 have s1:∀μ,dE μ .e (.c 1) (.c (f:Int))=some (.c ((1 - f:Nat):Int),μ):=λμ=>by
  show some (MV.c ((1:Int) - (f:Int)),μ)=_
  rw[show(1:Int) - (f:Int)=((1 - f:Nat):Int) from(Qm k)]
 rcases o with _|j
 ·exact uD [(0,oq (n0 (HS σ δ))),(2,ow (s1 (HS σ δ))),(3,ow H)] ⋯
 ·exact uD [(0,oq (n0 (HS σ δ))),(2,ow (s1 (HS σ δ))),(3,ow H)] ⋯
theorem Kv(o:LF cc ai gv ii g ρ)(e:δ[cc.a]?=some (gx cc.a num aV bd ip args stk sort ex))(hb:cc.f=ip+1)(H:au Tb K 1248 [.d (δ.length+182),.d 148,.d (g+182),.c 0] (HS σ (ar δ (.d 1251 [])))=some (.c (-2),HS σ' aX))(F:Nat):bQ Tb (au Tb K) F (jR cG 11 11) ρ (HS σ δ)=some (.a,ρ,HS σ' aX):=by
 obtain⟨M,q,J,E,u,D,L,z,G,A,B,w,I,p,y,C⟩:=cc
 have hb:p=ip+1:=hb
 subst hb
 have e:=e
 have m:∀μ,ct μ .b (.c ip) (.c (ip+1 - 1))=some false:=λμ=>by
  rw[jc]
  show(some (MV.k (.c ip) (.c ip))).map (!·)=_
  rw[hO];rfl
 have rs:gJ Tb (HS σ (ar δ (.d 1251 []))) (.d (δ.length+182)) 293=some (.c 1248):=(hpI (by rw[df];exact h9 δ (MO.d 1251 []) δ.length rfl)).trans ⋯
 have h:yp Tb (au Tb K) 1251 [] (HS σ δ)=some (.d (δ.length+182),HS σ (ar δ (.d 1251 []))):=by
  refine(Eg (by kernel_rfl:Tb.g 1251=some none)).trans ?_
  rw[<-kF,<-kG σ];rfl
 rcases o with _|j
 ·exact uD [(0,ov (ed σ e 127 (MV.c ip) ⋯)),(2,oq (m (HS σ δ))),(4,ow h),(5,oc rs),(6,ow H)] ⋯
 ·exact uD [(0,ov (ed σ e 127 (MV.c ip) ⋯)),(2,oq (m (HS σ δ))),(4,ow h),(5,oc rs),(6,ow H)] ⋯
end
end
section
structure ru (σ:St) (δ:List MO) (Γ:Cf) (n k fi:Nat) (num:Int) (aV args:MV) (sort ex:Int) (L:List MV) (σ':St) (aX:List MO):Prop where
 d:Uc σ σ'
 c:Inv σ' Γ (n+k*100)
 a:∀a,FS σ a->FS σ' a
 f:Fz (uV fi (fi+1)) δ aX
 e:∃ip stk,aX[fi]?=some (gx fi num aV (.d 7) ip args stk sort ex)
 b:∃L',aX[fi+1]?=some (.a L')/\L'.length<=L.length+3
 g:σ'.a.length<=σ.a.length+k*6
 h:σ.a.length<=σ'.a.length
noncomputable def T7(g a:Nat):Nat->Prop:=λi=>i=g\/i=g+1\/i=a
section
variable{K n b d l g a mu dk gv ix:Nat}{σ:St}{δ:List MO}{Γ:Cf}{num:Int}{fs:List (Int×Nat)}{P ws rows:List MV}{e:En}{cc:LC}{ρ:Loc}
structure uO (σ:St) (δ:List MO) (Γ:Cf) (n m g a:Nat) (num:Int) (e:En) (u:CT) (x:List (Int×Nat)) (σ':St) (aX:List MO) (ip:Int) (stk gv:Nat) (st gl:List MV) (v:MV):Prop where
 j:Uc σ σ'
 B:Inv σ' Γ (n+m)
 x:FS σ' (ar x (num,g))
 c:Fz (T7 g a) δ aX
 C:aX[g]?=some (gx g num e.a (.d 7) ip (.d (a+182)) stk 0 0)
 D:aX[g+3]?=some (.a [])
 F:aX[stk]?=some (.a st)
 q:Ret σ'.R u st v
 A:aX[gv]?=some (.a gl)
 o:v= .f/\gl=[]\/(∃p,v= .e p)/\gl=[v]
 w:σ'.a.length<=σ.a.length+m/100*6
 z:δ.length<=gv
 k:σ.a.length<=σ'.a.length
noncomputable def Within(K:Nat)(cc:LC)(σ:St)(δ:List MO)(Γ:Cf)(n m ix:Nat)(fs:List (Int×Nat))(g a:Nat)(num:Int)(e:En):Prop:=
 (ix:Int)≠cc.b/\m=2\/(ix:Int)=cc.b/\m=102/\∀f i,Uc σ f->Inv f Γ n->FS f (ar fs (num,g))->Fz (T7 g a) δ i->f.a=σ.a->i[g]?=some (gx g num e.a (.d 7) 0 (.d (a+182)) (g+2) 0 0)->i[g+1]?=some (.a [])->∀{j:Prop},(∀o k,au Tb (K+16) 1327 [.d 148,.d 8,.d (g+182),.c ((1 - cc.d:Nat):Int),.c 1] (HS f i)=some (.h true,HS o k)->ru f i Γ n 1 g num e.a (.d (a+182)) 0 0 [] o k->j)->j
theorem FA(I:Inv σ Γ n)(Q:n<=50000)(hd:cc.d<2)(dP:bC cc.l=true)(cU:cc.l≠84)(F:FS σ fs)(S:∀q∈fs,q.1≠num)(UT:fs.length<=90)(hp:σ.z=ar P (.d (g+182)))
  (i_:LS cc (P.length:Nat) gv (ix:Int) ρ)
  (N:xj δ g num e.a a) (W:δ[a]?=some (.a (cW e.g ws))) (w_:a≠g+1/\a≠g+3) (MW:δ[cc.j]?=some (.a rows)) (UZ:rows[ix]?=some e.c) (IX:ix<=100) (MY:δ[e.o]?=some (.a e.g)) (hkp:δ[cc.h]?=some (.a ws))
  (WK:e.g.length<=1/\ws.length<=3) (hpl:(cW e.g ws).all (bh 8)=true) (hm:bh 8 e.a=true) (j4:cc.c=((Γ.r cc.d).e cc.l).d) {m:Nat}
  (hw:Within K cc σ δ Γ n m ix fs g a num e) {Ω:Prop} (ω:∀ρ' σ' aX ip stk s st A v,(LF cc (σ'.z.length:Nat) s (ix:Int) g ρ')->aY Tb (au Tb (K+16)) (K+16) (bX++([jR cG 11 6]++bY)) ρ (HS σ δ)=some (.a,ρ',HS σ' aX)->uO σ δ Γ n m g a num e ((Γ.r cc.d).e cc.l) fs σ' aX ip stk s st A v->Ω):Ω:=by
 refine adm F S hp (G9 (by have:=I.y;rw[hp,aB] at this;exact YY Q this)) i_ N.b MW UZ IX MY hkp W WK hpl hm (K+15) λbu r V x1=>?_
 refine b6 (σ.F (ar fs (num,g))) λX E=>?_
 refine b6 (((ar δ (.a (cW e.g ws))).set g (gx g num e.a (.d 7) 0 (.d (a+182)) (g+2) 0 0)).set a (.a r)) λU L=>?_
 replace x1:=L.symm▸E.symm▸x1
 have I1:=E▸(I.H _)
 have F1:=E▸(F.w S (YX UT) g)
 have J:Fz (T7 g a) δ U:=L▸(((Gw.d _ _).f.k (Fz.y _ (.inl rfl))).k (Fz.y _ (.inr (.inr rfl))))
 have g1:=L▸(jg _ _ (by intro q;rw[q,N.b] at W;cases W) (m6 _ (fV _ N.b)))
 have T:=L▸(jg _ _ w_.1 (jg _ _ xw (fV _ N.c)))
 have C:=L▸(jg _ _ w_.2 (jg _ _ YW (fV _ N.d)))
 have u1:=E▸(Uc.t _ _)
 have G:X.a=σ.a:=by rw[E]
 have ha1:=cJ W
 have hu:(Γ.r cc.d).e cc.l= .b 118\/bC ((Γ.r cc.d).e cc.l).f=true/\((Γ.r cc.d).e cc.l).f≠84:=by
  rcases I.a.z cc.d with h|h
  ·left;rw[h];rfl
  ·exact .inr (Aw h dP cU)
 rcases hw with⟨sj,rfl⟩|⟨heq,rfl,ab9⟩
 ·have w0:=VO (σ:=X) (δ:=U) V sj (au Tb (K+16)) (K+16)
  refine RQ (K:=K+6) (u:=(Γ.r cc.d).e cc.l) I1 (YE Q) (by have:=I1.y;exact YD Q this) V j4 hu g1 T (by simp) λfe dT Z stk s st A v M y2 R=>?_
  have p:=R.a.z
  rw[<-p.1] at M
  refine ω fe dT Z 0 stk s st A v M ?_ ⟨u1.f R.a.D,R.c.q YC,R.a.B F1,?_,R.f,R.b.2 _ _ (λq=>fK q (λq=>zg q) λq=>zf q) C,R.h,R.d,R.i,R.e,p.2▸G▸YB,by have t1:=J.1;have Y:=R.j;exact pE t1 Y,p.2▸G▸AY⟩
  ·rw[cz x1,cz (x:=[jR cG 11 6]) (cD w0 rfl)];exact y2
  ·exact J.k ⟨R.b.1,λi v n h=>R.b.2 i v (λq=>n (by rcases q with q|q;exact .inl q;exact .inr (.inl q))) h⟩
 ·refine ab9 X U u1 I1 F1 J G g1 T λdT Z cc2 O=>?_
  have w1:=VP V heq hd cc2 (K+16)
  refine Ey O.e λip2 aeH UD=>?_
  refine cf O.b λL2 IL MC=>?_
  have Z2:Fz (T7 g a) U Z:=⟨O.f.1,λi v n h=>O.f.2 i v (λq=>n (by rcases q with q|q;exact .inl q;exact .inr (.inl q))) h⟩
  have I2:=O.c
  refine RQ (K:=K+6) (u:=(Γ.r cc.d).e cc.l) I2 (YA Q) (by have:=I2.y;exact Yz Q this) V j4 hu UD IL (by simp at MC;exact Yy MC) λfe dI h_ stk s st A v M y2 R=>?_
  have p:=R.a.z
  rw[<-p.1] at M
  refine ω fe dI h_ ip2 stk s st A v M ?_ ⟨(u1.f O.d).f R.a.D,R.c.q Yx,R.a.B (O.a _ F1),?_,R.f,R.b.2 _ _ (λq=>fK q (λq=>zg q) λq=>zf q) (O.f.2 _ _ (λq=>fK q (λq=>zg q) λq=>zf q) C),R.h,R.d,R.i,R.e,by rw[p.2];have:=O.g;rw[G] at this;exact Yw this,by have t1:=J.1;have Y:=Z2.1;have t3:=R.j;exact To t1 Y t3,by rw[p.2];have:=O.h;rw[G] at this;exact Qf this⟩
  ·rw[cz x1,cz (x:=[jR cG 11 6]) (cD w1 rfl)];exact y2
  ·exact(J.k Z2).k ⟨R.b.1,λi v n h=>R.b.2 i v (λq=>n (by rcases q with q|q;exact .inl q;exact .inr (.inl q))) h⟩
end
end
section
noncomputable abbrev sQ:List MS:=[jR cG 11 0]++((bX++([jR cG 11 6]++bY))++[jR cG 11 11])
theorem RT:fH cG 11= .g (.b 182) (.a (.p (.d 4))) sQ:=⋯
section
variable{K n b d l g a mu dk gv ix bb:Nat}{σ:St}{δ:List MO}{Γ:Cf}{num nf jL:Int}{fs:List (Int×Nat)}{P ws rows bj:List MV}{e:En}{cc:LC}{ρ:Loc}{dp di:MV}{dW:Nat}{dR kD:Int}
structure uj (cc:LC) (σ:St) (δ:List MO) (Γ:Cf) (n:Nat) (nf jL:Int) (dp di:MV) (dW:Nat) (dR kD:Int) (f:List (Int×Nat)) (bj:List MV) (lo:Nat) (σ':St) (aX:List MO) (gv:Nat) (gl:List MV):Prop where
 t:Uc σ σ'
 c:Inv σ' Γ n
 f:FS σ' (ar f (nf,cc.a))
 k:Fz (λi=>i=cc.a\/i=dW\/lo<=i) δ aX
 o:aX[cc.a]?=some (gx cc.a nf dp (.d 7) (jL+1) di dW dR kD)
 w:aX[dW]?=some (.a (cW bj gl))
 x:aX[gv]?=some (.a gl)
 r:gl.all (bh 8)=true/\gl.length<=1
 j:σ.a.length<=σ'.a.length
theorem IH{v:MV}{c:List MV}(h:v= .f/\c=[]\/(∃p,v= .e p)/\c=[v])(S:List MV):Giv v S (cW S c):=by
 rcases h with⟨rfl,rfl⟩|⟨⟨p,rfl⟩,rfl⟩
 ·exact .inl ⟨rfl,by unfold cW;simp⟩
 ·exact .inr ⟨⟨p,rfl⟩,rfl⟩
theorem uO.y{m:Nat}{σ':St}{E:List MO}{ip:Int}{stk G:Nat}{st s:List MV}{v:MV}{u:CT}(T:uO σ δ Γ n m g a num e u fs σ' E ip stk G st s v):s.all (bh 8)=true/\s.length<=1:=by
 rcases T.o with⟨_,h⟩|⟨⟨p,t⟩,h⟩
 ·rw[h];exact⟨rfl,b7 _⟩
 ·rcases T.q with⟨_,_,i⟩|⟨r,_,i⟩
  ·replace i:=t▸i;cases i
  ·rw[h];exact⟨by show(bh 8 v&&true)=true;rw[i.p];rfl,aC _⟩
theorem uO.f{m:Nat}{σ':St}{G:List MO}{ip:Int}{stk R:Nat}{st L:List MV}{v:MV}(T:uO σ δ Γ n m g a num e ((Γ.r d).e l) fs σ' G ip stk R st L v)(S:n+m<=60000)(H:d<2)(I:bC l=true)(M:l≠84)(E:pB σ δ b Γ d l e){u:Prop}(O:∀Q,D_ σ' (ar G (.d 1251 [])) Q b Γ (n+m) d l g num ip e (.d (a+182)) stk 0 st v fs->u):u:=by
 refine O δ ⟨T.B,S,H,I,M,?_,fV _ T.C,fV _ T.D,fV _ T.F,T.q,T.x⟩
 obtain⟨i,s,t,N,E⟩:=E
 exact⟨i,s,t,N,E.A (σ':=σ') T.j.A T.j.B (Gw.p δ).f (λJ h=>h.elim:rz (λJ=>False) δ b)⟩
end
end
section
section
variable{K n m b d l g a mu dk gv ix bb:Nat}{σ:St}{δ:List MO}{Γ:Cf}{num nf jL:Int}{fs j0:List (Int×Nat)}{P ws rows bj:List MV}{e:En}{cc:LC}{ρ:Loc}{dp di:MV}{dW:Nat}{dR kD:Int}
theorem J4{e:En}(h:bh 7 e.j=true):bh 8 e.a=true:=by
 show(true&&(true&&(bh 7 e.j&&true)))=true
 rw[h];rfl
theorem pB.p(E:pB σ δ b Γ d l e):e.g.length<=1/\e.g.all (bh 8)=true/\bh 8 e.a=true/\δ[e.o]?=some (.a e.g):=by
 obtain⟨i,s,t,c,E⟩:=E
 refine⟨?_,?_,J4 E.w,E.y⟩
 ·rcases E.p with⟨_,h⟩|⟨_,_,_,h⟩|⟨_,_,_,_,h⟩<;>rw[h]<;>simp
 ·rcases E.p with⟨_,h⟩|⟨_,_,_,h⟩|⟨_,_,_,_,h⟩<;>rw[h]<;>rfl
structure Due (cc:LC) (σ:St) (δ:List MO) (Γ:Cf) (n b ix:Nat) (fs:List (Int×Nat)) (P:List MV) (g a:Nat) (num:Int) (e:En) (ws rows:List MV):Prop where
 i:Inv σ Γ n
 F:FS σ fs
 r:∀q∈fs,q.1≠num
 p:fs.length<=90
 f:σ.z=ar P (.d (g+182))
 N:xj δ g num e.a a
 w:δ[a]?=some (.a (cW e.g ws))
 h:a<g
 k:δ[cc.j]?=some (.a rows)
 u:rows[ix]?=some e.c
 t:δ[cc.h]?=some (.a ws)
 j:ws.length<=3
 s:ws.all (bh 8)=true
 E:pB σ δ b Γ cc.d cc.l e
theorem Due.c(T:Due cc σ δ Γ n b ix fs P g a num e ws rows)(S:n<=50000)(D:cc.d<2)(G:bC cc.l=true)(M:cc.l≠84)(V:ix<=100)(O:cc.c=((Γ.r cc.d).e cc.l).d)
  (U:LS cc (P.length:Nat) gv (ix:Int) ρ) (W:Within K cc σ δ Γ n m ix fs g a num e) {x:Prop} (Q:∀ρ' σ' y ip stk C st H v,(LF cc (σ'.z.length:Nat) C (ix:Int) g ρ')->aY Tb (au Tb (K+16)) (K+16) (bX++([jR cG 11 6]++bY)) ρ (HS σ δ)=some (.a,ρ',HS σ' y)->uO σ δ Γ n m g a num e ((Γ.r cc.d).e cc.l) fs σ' y ip stk C st H v->x):x:=by
 refine lu T.E.p λL I J R=>?_
 exact FA T.i S D G M T.F T.r T.p T.f U T.N T.w ⟨by have:=T.h;exact(λq=>bZ [_,_] (.o (V0.A+1) V0.B (.f (V0.B+1) V0.A .z)) rfl this q),by have:=T.h;exact(λq=>bZ [_,_] (.o (V0.A+1) V0.B (.f (V0.B+3) V0.A .z)) rfl this q)⟩ T.k T.u V R T.t ⟨L,T.j⟩ (by unfold cW;rw[Wb,I,T.s];rfl) J O W Q
theorem Due.o(T:Due cc σ δ Γ n b ix fs P g a num e ws rows)(q:n<=50000)(v:LS cc (P.length:Nat) gv (ix:Int) ρ)(K:Nat):
  bQ Tb (au Tb (K+1)) (K+1) (jR cG 11 0) ρ (HS σ δ)=some (.a,ρ,HS σ δ):=by
 refine acw▸(AE (K2 T.f (by have:=T.i.y;rw[T.f,aB] at this;exact(bN [_,_] V0.B 90000 (.o V0.A 50000 (.o (V0.B+1) V0.A .z)) rfl q this)) (ed σ T.N.b 5 (.c 0) ⋯) v _))
end
end
section
section
variable{K n m b d l g a mu dk gv ix bb lo:Nat}{σ:St}{δ:List MO}{Γ:Cf}{num nf nm jL ql:Int}{fs j0:List (Int×Nat)}{P ws rows bj:List MV}{e:En}{cc:LC}{ρ:Loc}{dp di fW fU:MV}{dW jb:Nat}{dR kD ad:Int}{es:List (Int×En)}
theorem Ke{bu f:Loc}{μ bF h:Hp}{cl:Call}{F:Nat}(k:bQ Tb cl F (jR cG 11 0) ρ μ=some (.a,bu,bF))(j:aY Tb cl F (bX++([jR cG 11 6]++bY)) bu bF=some (.a,f,h)){c:Loc}{mP:Hp}(i:bQ Tb cl F (jR cG 11 11) f h=some (.a,c,mP)):aY Tb cl F sQ ρ μ=some (.a,c,mP):=by
 rw[cz (x:=[jR cG 11 0]) (cD k rfl),cz j]
 exact cD i rfl
structure O0 (cc:LC) (δ:List MO) (nf jL:Int) (dp di:MV) (dW:Nat) (dR kD:Int) (bj:List MV) (lo:Nat):Prop where
 f:δ[cc.a]?=some (gx cc.a nf dp (.d 7) jL di dW dR kD)
 p:δ[dW]?=some (.a bj)
 r:bj.length<=90
 c:cc.f=jL+1
 k:cc.a<lo
 o:dW<lo
theorem O0.j{s:List MO}{S:Nat->Prop}(C:O0 cc δ nf jL dp di dW dR kD bj lo)(g:Fz S δ s)(h:∀i,S i->lo<=i):O0 cc s nf jL dp di dW dR kD bj lo:=
 ⟨g.2 _ _ (λq=>by have v:=h _ q;have t:=C.k;exact sN v t) C.f,g.2 _ _ (λq=>by have u:=h _ q;have w:=C.o;exact sN u w) C.p,C.r,C.c,C.k,C.o⟩
theorem Mr{Q:Prop}(T:Due cc σ δ Γ n b ix (ar j0 (nf,cc.a)) P g a num e ws rows)(F:n<=40000)(G:cc.d<2)(J:bC cc.l=true)(N:cc.l≠84)(Z:ix<=100)(Y:cc.c=((Γ.r cc.d).e cc.l).d)
  (L:LS cc (P.length:Nat) gv (ix:Int) ρ) (W:Within K cc σ δ Γ n m ix (ar j0 (nf,cc.a)) g a num e)
  (C:O0 cc δ nf jL dp di dW dR kD bj lo) (D:lo<=a) (S:lo<=δ.length) (hm:m<=200) (bJ:∀ρ' σ' U u x,(LF cc (σ'.z.length:Nat) u (ix:Int) g ρ')->(aY Tb (au Tb (K+16)) (K+16) sQ ρ (HS σ δ)=some (.a,ρ',HS σ' U))->(uj cc σ δ Γ (n+m+1) nf jL dp di dW dR kD j0 bj lo σ' U u x)->(σ'.a.length<=σ.a.length+m/100*6)->Q):Q:=by
 refine T.c (uT F) G J N Z Y L W λbu dA I ip stk u st x v s x1 O=>?_
 refine O.f (b:=b) (G_ F hm) G J N T.E λjI R=>?_
 have M:∀i,T7 g a i->lo<=i:=λi hi=>by have:=T.h;rcases hi with q|q|q<;>first|exact zh D this q|exact zi D this q|exact Hb D q
 have t:=C.j O.c M
 have w:=Gw.d I (.d 1251 [])
 refine Mn (op:= .d (I.length+182)) R (w.2 _ _ t.f) (w.2 _ _ t.p) (by have:=C.r;exact Qr this) (IH O.o bj) K λdT dq c1 u2 I2 X p2 k2 B UD F_=>?_
 have s:=p2.symm▸s
 refine bJ bu dT dq u x s (Ke (T.o (uT F) L (K+15)) x1 (Kv (ρ:=bu) (g:=g) (ii:=(ix:Int)) s t.f t.c c1 (K+16))) ⟨O.j.f u2,I2,X,?_,UD,F_,?_,O.y,k2▸O.k⟩ (k2▸O.w)
 ·exact Fz.k ⟨O.c.1,λi v n h=>O.c.2 i v (λq=>n (.inr (.inr (M i q)))) h⟩ (w.f.k ⟨B.1,λi v n h=>B.2 i v (λq=>n (by rcases q with q|q;exact .inl q;exact .inr (.inl q))) h⟩)
 ·exact B.2 _ _ (λq=>by have t1:=C.k;have V:=C.o;have H:=O.z;rcases q with q|q<;>first|exact vK S t1 H q|exact vK S V H q) (w.2 _ _ O.A)
end
end
section
section
variable{K n m b d l g a mu dk gv ix bb lo:Nat}{σ gL:St}{δ fN:List MO}{Γ:Cf}{num nf nm jL ql:Int}{fs j0:List (Int×Nat)}{P ws rows bj:List MV}{e:En}{cc:LC}{ρ:Loc}{dp di fW fU:MV}{dW jb:Nat}{dR kD ad:Int}{es:List (Int×En)}{x:Nat}{vals:List MV}
theorem lh.o{c:List MO}{S:Nat->Prop}{ip:Int}{aV args:MV}{stk:Nat}(M:lh δ mu num aV ip args stk x vals ad)(g:Fz S δ c)(f: ¬S mu)(i: ¬S (mu+6)):lh c mu num aV ip args stk x vals ad:=⟨g.2 _ _ f M.k,g.2 _ _ i M.h⟩
structure F8 (cc:LC) (gL:St) (fN:List MO) (Γ:Cf) (b o:Nat) (es:List (Int×En)) (σ:St) (δ:List MO):Prop where
 D:qx gL fN b Γ cc.d cc.l cc.i cc.g es
 k:Uc gL σ
 j:Fz (uV cc.a (cc.a+1)) fN δ
 p:cc.a+1<b
 o:fN.length<=o
theorem F8.c(M:F8 cc gL fN Γ b lo es σ δ):qx σ δ b Γ cc.d cc.l cc.i cc.g es:=
 M.D.w M.k.A M.k.B M.j (rz.a λi h=>by have:=M.p;rcases h with q|q<;>first|exact Hx this q|exact Hy this q)
theorem F8.f{σ':St}{r:List MO}{S:Nat->Prop}(M:F8 cc gL fN Γ b lo es σ δ)(u:Uc σ σ')(g:Fz S δ r)(h:∀i,S i->i=cc.a\/lo<=i):F8 cc gL fN Γ b lo es σ' r:=
 ⟨M.D,M.k.f u,⟨aD M.j.1 g.1,λi v n q=>g.2 i v (λs=>by
  have:=M.o
  rcases h i s with h|h
  ·exact n (.inl h)
  ·have t:=cJ q;exact Tp this h t) (M.j.2 i v n q)⟩,M.p,M.o⟩
theorem Iv(T:Due cc σ δ Γ n b ix (ar (ar j0 (nf,cc.a)) (nm,mu)) P g a num e ws rows)(Q:n<=40000)(U:cc.d<2)(Y:bC cc.l=true)(cU:cc.l≠84)(IX:ix<=100)(j4:cc.c=((Γ.r cc.d).e cc.l).d)
  (Z:LS cc (P.length:Nat) gv (ix:Int) ρ) (W:Within K cc σ δ Γ n m ix (ar (ar j0 (nf,cc.a)) (nm,mu)) g a num e)
  (C:O0 cc δ nf jL dp di dW dR kD bj lo) (I:lo<=a) (IY:lo<=δ.length) (hm:m<=200)
  (B:F8 cc gL fN Γ b lo es σ δ) (M:lh δ mu nm fW ql fU jb (ix+1) ws cc.g) (t:mu+6<a) (hx:ix+1=es.length) {Ω:Prop} (ω:∀ρ' σ' aX D F,(LF cc (σ'.z.length:Nat) D (ix:Int) g ρ')->aY Tb (au Tb (K+16)) (K+16) sQ ρ (HS σ δ)=some (.a,ρ',HS σ' aX)->uj cc σ δ Γ (n+m+1) nf jL dp di dW dR kD j0 bj lo σ' aX D F->σ'.a.length<=σ.a.length+m/100*6->Ω):Ω:=by
 refine T.c (uT Q) U Y cU IX j4 Z W λbu dA X ip stk D st F v H x1 O=>?_
 refine O.f (b:=b) (G_ Q hm) U Y cU T.E λjI R=>?_
 have s:=T.h
 have L:∀i,T7 g a i->lo<=i:=λi N=>fK N (λq=>zh I s q) λq=>fK q (λq=>zi I s q) λq=>Hb I q
 have u:=C.j O.c L
 have w:=Gw.d X (.d 1251 [])
 have lw:=T.j
 refine Ij (op:= .d (X.length+182)) R ((B.f O.j O.c λi N=> .inr (L i N)).f (Uc.w _) w.f (S:=λJ=>False) λJ h=>h.elim).c ((M.o O.c (λq=>fK q (λq=>Hw t s q) λq=>fK q (λq=>Hv t s q) λq=>Hu t q) λq=>fK q (λq=>Ht t s q) λq=>fK q (λq=>Hr t s q) λq=>Hq t q).j w) (Qs lw) hx (w.2 _ _ u.f) (w.2 _ _ u.p) (by have:=C.r;exact Qr this) (IH O.o bj) K λdT dq c1 u2 I2 F2 p2 k2 G UD F_=>?_
 rw[<-p2] at H
 refine ω bu dT dq D F H (Ke (T.o (uT Q) Z (K+15)) x1 (Kv (ρ:=bu) (g:=g) (ii:=(ix:Int)) H u.f u.c c1 (K+16))) ⟨O.j.f u2,I2,F2,?_,UD,F_,?_,O.y,k2▸O.k⟩ (k2▸O.w)
 ·exact Fz.k ⟨O.c.1,λi v n h=>O.c.2 i v (λq=>n (.inr (.inr (L i q)))) h⟩ (w.f.k ⟨G.1,λi v n h=>G.2 i v (λq=>n (by rcases q with q|q;exact .inl q;exact .inr (.inl q))) h⟩)
 ·exact G.2 _ _ (λq=>by have t1:=C.k;have t2:=C.o;have V:=O.z;rcases q with q|q<;>first|exact vK IY t1 V q|exact vK IY t2 V q) (w.2 _ _ O.A)
structure adB (cc:LC) (σ:St) (δ:List MO) (Γ:Cf) (n:Nat) (nm ql:Int) (fW fU:MV) (jb c x:Nat) (ws:List MV) (d:List (Int×Nat)) (lo:Nat) (e:En) (σ':St) (aX:List MO) (g a:Nat) (P:List MV):Prop where
 f:Uc σ σ'
 j:Inv σ' Γ n
 d:FS σ' d
 k:σ'.z=ar P (.d (g+182))
 b:Fz (λi=>i=c\/lo<=i) δ aX
 c:lh aX c nm fW ql fU jb x ws cc.g
 N:xj aX g ((σ'.a.length:Nat):Int) e.a a
 o:aX[a]?=some (.a (cW e.g ws))
 l:δ.length<=a
 m:δ.length<=g
 p:a<g
 h:σ.a.length<=σ'.a.length
end
end
section
section
variable{K n m b d l g a mu dk gv ix bb lo:Nat}{σ gL:St}{δ fN:List MO}{Γ:Cf}{num nf nm jL ql:Int}{fs j0:List (Int×Nat)}{P ws rows bj:List MV}{e:En}{cc:LC}{ρ:Loc}{dp di fW fU:MV}{dW jb:Nat}{dR kD ad:Int}{es:List (Int×En)}{p:Int×En}
theorem FC{Ω:Prop}(T:Due cc σ δ Γ n b ix (ar j0 (nm,mu)) P g a num e ws rows)(L:n<=40000)(N:cc.d<2)(V:bC cc.l=true)(cU:cc.l≠84)(IX:ix<=100)(j4:cc.c=((Γ.r cc.d).e cc.l).d)
  (Y:LS cc (P.length:Nat) gv (ix:Int) ρ) (W:Within K cc σ δ Γ n m ix (ar j0 (nm,mu)) g a num e)
  (C:O0 cc δ nf jL dp di dW dR kD bj lo) (y:lo<=a) (IY:lo<=δ.length) (hm:m<=200)
  (B:F8 cc gL fN Γ b lo es σ δ) (M:lh δ mu nm fW ql fU jb (ix+1) ws cc.g) (t:mu+6<a) (hlm:lo<=mu) (hx:es[ix+1]?=some p) (bJ:∀ρ' σ' aX H g' a' P',(LF cc (P'.length:Nat) H (ix:Int) g ρ')->(aY Tb (au Tb (K+16)) (K+16) sQ ρ (HS σ δ)=some (.a,ρ',HS σ' aX))->(adB cc σ δ Γ (n+m+3) nm ql fW fU jb mu (ix+2) ws (ar j0 (nm,mu)) lo p.2 σ' aX g' a' P')->(σ'.a.length<=σ.a.length+m/100*6+1)->Ω):Ω:=by
 refine T.c (uT L) N V cU IX j4 Y W λbu dA Q ip stk H st gl v X x1 O=>?_
 refine O.f (b:=b) (G_ L hm) N V cU T.E λjI R=>?_
 have s:=T.h
 have F:∀i,T7 g a i->lo<=i:=λi I=>fK I (λq=>zh y s q) λq=>fK q (λq=>zi y s q) λq=>Hb y q
 have Z:=C.j O.c F
 have w:=Gw.d Q (.d 1251 [])
 refine Ik (op:= .d (Q.length+182)) R ((B.f O.j O.c λi I=> .inr (F i I)).f (Uc.w _) w.f (S:=λJ=>False) λJ h=>h.elim).c ((M.o O.c (λq=>fK q (λq=>Hw t s q) λq=>fK q (λq=>Hv t s q) λq=>Hu t q) λq=>fK q (λq=>Ht t s q) λq=>fK q (λq=>Hr t s q) λq=>Hq t q).j w) (Qs T.j) hx K λdT dq a2 g2 c1 u2 I2 F2 p2 k2 U M2 N2 G x Vg u=>?_
 have l1:=O.c.1
 have l2:=w.1
 refine bJ bu dT dq H g2 a2 dA.z X (Ke (T.o (uT L) Y (K+15)) x1 (Kv (ρ:=bu) (g:=g) (ii:=(ix:Int)) X Z.f Z.c c1 (K+16))) ⟨O.j.f u2,I2,F2,p2,?_,M2,k2▸N2,G,aD l1 (aD l2 x),bN [_,_,_,_,_] V0.D V0.C (.o V0.A V0.B (.o (V0.B+1) V0.C (.o V0.D V0.E (.o V0.E V0.A .z)))) rfl x u l1 l2,u,by rw[k2];have:=O.k;exact xt this⟩ (by rw[k2];have:=O.w;exact(R4 this))
 exact Fz.k ⟨O.c.1,λi v n h=>O.c.2 i v (λq=>n (.inr (F i q))) h⟩ (w.f.k ⟨U.1,λi v n h=>U.2 i v (λq=>n (.inl q)) h⟩)
end
end
section
theorem adt{f bu:Loc}{lZ bF:Hp}{cl:Call}{F:Nat}{r:Option (Fl×Loc×Hp)}(j:bQ Tb cl F (jR cG 11 0) f lZ=some (.a,bu,bF))(i:bQ Tb cl F (jR cG 11 0) bu bF=some (.a,bu,bF))(h:aY Tb cl F sQ bu bF=r):aY Tb cl F sQ f lZ=r:=by
 have e:∀ρ μ ρ' c,bQ Tb cl F (jR cG 11 0) ρ μ=some (.a,ρ',c)->aY Tb cl F sQ ρ μ=aY Tb cl F ((bX++([jR cG 11 6]++bY))++[jR cG 11 11]) ρ' c:=λρ μ ρ' c h=>by
  rw[cz (x:=[jR cG 11 0]) (cD h rfl)]
 exact(e _ _ _ _ j)▸(e _ _ _ _ i)▸h
section
variable{K n m b d l g a mu dk gv ix bb lo:Nat}{σ gL:St}{δ fN:List MO}{Γ:Cf}{num nf nm jL ql:Int}{fs j0:List (Int×Nat)}{P ws rows bj:List MV}{e:En}{cc:LC}{ρ:Loc}{dp di fW fU:MV}{dW jb:Nat}{dR kD ad:Int}{es:List (Int×En)}{p:Int×En}
theorem Jy{i:Prop}(T:Due cc σ δ Γ n b 0 (ar j0 (nf,cc.a)) P g a num e ws [e.c])(B:n<=40000)(o:cc.d<2)(s:bC cc.l=true)(w:cc.l≠84)(A:cc.c=((Γ.r cc.d).e cc.l).d)
  (W:Within K cc σ δ Γ n m 0 (ar j0 (nf,cc.a)) g a num e) (C:O0 cc δ nf jL dp di dW dR kD bj lo) (y:lo<=a) (x:lo<=δ.length) (hm:m<=200) (t:∀ρ' σ' j f h,(LF cc (σ'.z.length:Nat) f 0 g ρ')->(bQ Tb (au Tb (K+16)) (K+16) (fH cG 11) (Nt cc (P.length:Nat) gv) (HS σ δ)=some (.a,ρ',HS σ' j))->(uj cc σ δ Γ (n+m+1) nf jL dp di dW dR kD j0 bj lo σ' j f h)->(σ'.a.length<=σ.a.length+m/100*6)->i):i:=by
 refine Mr (ρ:=Nu cc (P.length:Nat) gv ((0:Nat):Int)) (gv:=gv) T B o s w (by decide) A .d W C y x hm λbu q u f h v x1 O k1=>?_
 exact t bu q u f h v (RT▸(ab0 (oi [(0,ov (hJ σ T.k (by simp)))] ⋯) rfl x1)) O k1
end
end
section
section
variable{K n m mm b d l g a mu dk gv ix bb lo:Nat}{σ gL:St}{δ fN:List MO}{Γ:Cf}{num nf nm jL ql:Int}{fs j0:List (Int×Nat)}{P ws rows bj:List MV}{e:En}{cc:LC}{ρ:Loc}{dp di fW fU:MV}{dW jb:Nat}{dR kD ad:Int}{es:List (Int×En)}{p:Int×En}
structure LB (cc:LC) (gL:St) (fN:List MO) (Γ:Cf) (b lo:Nat) (es:List (Int×En)) (ws bj:List MV) (nf jL:Int) (dp di:MV) (dW:Nat) (dR kD:Int) (j0:List (Int×Nat)) (nm ql:Int) (fW fU:MV) (jb mu:Nat) (σ:St) (δ:List MO) (n ix:Nat) (P:List MV) (g a:Nat) (c:Int) (e:En):Prop where
 T:Due cc σ δ Γ n b ix (ar (ar j0 (nf,cc.a)) (nm,mu)) P g a c e ws (es.map λp=>p.2.c)
 C:O0 cc δ nf jL dp di dW dR kD bj lo
 B:F8 cc gL fN Γ b lo es σ δ
 M:lh δ mu nm fW ql fU jb (ix+1) ws cc.g
 s:lo<=a
 t:lo<=δ.length
 u:mu+6<a
 f:lo<=mu
 x:∃p,es[ix]?=some p/\p.2=e
 c:c=((σ.a.length:Nat):Int)
 j:∀q∈ar (ar j0 (nf,cc.a)) (nm,mu),q.1=1000\/q.1<((σ.a.length:Nat):Int)
 o:cc.j<lo
 r:cc.h<lo
theorem LB.k(A:LB cc gL fN Γ b lo es ws bj nf jL dp di dW dR kD j0 nm ql fW fU jb mu σ δ n ix P g a num e)(hn:n<=40000)(hd:cc.d<2)(dP:bC cc.l=true)(cU:cc.l≠84)(j4:cc.c=((Γ.r cc.d).e cc.l).d)
  (i_:LS cc (P.length:Nat) gv (ix:Int) ρ) (W:Within K cc σ δ Γ n m ix (ar (ar j0 (nf,cc.a)) (nm,mu)) g a num e)
  (hm:m<=200) (E:es[ix+1]?=some p) (hc:σ.a.length+m/100*6+1<999) {Y:Prop} (ω:∀ρ' σ' G S Q L H,(LF cc (H.length:Nat) S (ix:Int) g ρ')->aY Tb (au Tb (K+16)) (K+16) sQ ρ (HS σ δ)=some (.a,ρ',HS σ' G)->
   LB cc gL fN Γ b lo es ws bj nf jL dp di dW dR kD j0 nm ql fW fU jb mu σ' G (n+m+3) (ix+1) H Q L ((σ'.a.length:Nat):Int) p.2->Uc σ σ'->Fz (λi=>lo<=i) δ G->σ.a.length<=σ'.a.length->σ'.a.length<=σ.a.length+m/100*6+1->Y):Y:=by
 refine FC A.T hn hd dP cU (bN [_,_] V0.B 100 (.o V0.A 5 (.o (V0.B+1+1) V0.A .z)) rfl A.B.D.m ((ax.mp E).1)) j4 i_ W A.C A.s A.t hm A.B A.M A.u A.f E λρ' σ' G S Q L H f1 x1 O k1=>?_
 have F:∀i,(i=mu\/lo<=i)->lo<=i:=λi h=>by have:=A.f;exact YZ h this
 have V:=A.B.f O.f O.b λi h=> .inr (F i h)
 have Z:=A.t
 have hlm:=A.u
 have hla:=A.s
 have y:=O.l
 have olg:=O.m
 have U:=O.h
 have X:∀q∈ar (ar j0 (nf,cc.a)) (nm,mu),q.1=1000\/q.1<((σ'.a.length:Nat):Int):=λq J=>by
  rcases A.j q J with h|h
  ·exact .inl h
  ·exact .inr (OK h (fj.mpr U))
 refine ω ρ' σ' G S Q L H f1 x1 ⟨⟨O.j,O.d,λq J=>?_,A.T.p,O.k,O.N,O.o,O.p,?_,aL▸E▸rfl,?_,A.T.j,A.T.s,(V.c.a p (aU E)).2⟩,A.C.j O.b F,V,O.c,pE Z y,by have:=O.b.1;exact pE Z this,by have:=cJ A.M.h;exact(aD this y),A.f,⟨p,E,rfl⟩,rfl,X,A.o,A.r⟩ O.f ⟨O.b.1,λi v n h=>O.b.2 i v (λq=>n (F i q)) h⟩ U k1
 ·rcases X q J with h|h<;>first|exact Tq hc k1 h|exact Tr h
 ·exact O.b.2 _ _ (λq=>by have R:=A.o;have I:=F _ q;exact QC R I) A.T.k
 ·exact O.b.2 _ _ (λq=>by have R:=A.r;have I:=F _ q;exact QC R I) A.T.t
end
end
section
section
variable{K n m mm b d l g a mu dk gv ix bb lo:Nat}{σ gL:St}{δ fN:List MO}{Γ:Cf}{num nf nm jL ql:Int}{fs j0:List (Int×Nat)}{P ws rows bj:List MV}{e:En}{cc:LC}{ρ:Loc}{dp di fW fU:MV}{dW jb:Nat}{dR kD ad:Int}{es:List (Int×En)}{p:Int×En}
theorem LB.w(A:LB cc gL fN Γ b lo es ws bj nf jL dp di dW dR kD j0 nm ql fW fU jb mu σ δ n ix P g a num e)(J:n<=40000)(y:cc.d<2)(E:bC cc.l=true)(G:cc.l≠84)(H:cc.c=((Γ.r cc.d).e cc.l).d)
 (L:LS cc (P.length:Nat) gv (ix:Int) ρ) (W:Within K cc σ δ Γ n m ix (ar (ar j0 (nf,cc.a)) (nm,mu)) g a num e)
 (hm:m<=200) (v:ix+1=es.length) {h:Prop} (I:∀ρ' σ' i q F,(LF cc (σ'.z.length:Nat) q (ix:Int) g ρ')->aY Tb (au Tb (K+16)) (K+16) sQ ρ (HS σ δ)=some (.a,ρ',HS σ' i)->uj cc σ δ Γ (n+m+1) nf jL dp di dW dR kD j0 bj lo σ' i q F->σ'.a.length<=σ.a.length+m/100*6->h):h:=Iv A.T J y E G (bN [_,_] V0.A 100 (.e (V0.A+1) V0.B (.o V0.B 5 .z)) rfl v A.B.D.m) H L W A.C A.s A.t hm A.B A.M A.u v I
end
end
section
section
variable{K n m mm b d l g a mu dk gv ix bb lo:Nat}{σ gL:St}{δ fN:List MO}{Γ:Cf}{num nf nm jL ql:Int}{fs j0:List (Int×Nat)}{P ws rows bj:List MV}{e:En}{cc:LC}{ρ:Loc}{dp di fW fU:MV}{dW jb:Nat}{dR kD ad:Int}{es:List (Int×En)}{p:Int×En}
theorem uj.s{y:St}{D:List MO}{σ':St}{C:List MO}{A:List MV}{B:Nat}(O:uj cc σ δ Γ n nf jL dp di dW dR kD fs bj lo σ' C gv A)(u:Uc y σ)(z:Fz (λi=>lo<=i) D δ)(F:n<=B)(E:y.a.length<=σ.a.length):uj cc y D Γ B nf jL dp di dW dR kD fs bj lo σ' C gv A:=
 ⟨u.f O.t,O.c.q F,O.f,Fz.k ⟨z.1,λi v n h=>z.2 i v (λq=>n (.inr (.inr q))) h⟩ O.k,O.o,O.w,O.x,O.r,aD E O.j⟩
inductive LM (K:Nat) (cc:LC) (gL:St) (fN:List MO) (Γ:Cf) (b lo:Nat) (es:List (Int×En)) (ws bj:List MV) (nf jL:Int) (dp di:MV) (dW:Nat) (dR kD:Int) (j0:List (Int×Nat)) (nm ql:Int) (fW fU:MV) (jb mu mm n pl gv:Nat) (σ:St) (δ:List MO):Nat->Loc->Hp->Prop
 |z:LM K cc gL fN Γ b lo es ws bj nf jL dp di dW dR kD j0 nm ql fW fU jb mu mm n pl gv σ δ 0 (Nt cc (pl:Nat) gv) (HS σ δ)
 |s (k:Nat) (ρ:Loc) (σ':St) (aX:List MO) (ia:Nat) (i0:Int) (g0:Nat) (P':List MV) (g' a':Nat) (yu:Int) (e':En) (n':Nat) (h0:0<k) (h1:k<es.length) (f1:LF cc (P'.length:Nat) ia i0 g0 ρ)
  (A:LB cc gL fN Γ b lo es ws bj nf jL dp di dW dR kD j0 nm ql fW fU jb mu σ' aX n' k P' g' a' yu e') (hn:n'<=n+k*(mm+3)) (u:Uc σ σ') (z:Fz (λi=>lo<=i) δ aX) (k':σ.a.length<=σ'.a.length) (c:σ'.a.length<=σ.a.length+k*(mm/100*6+1)):
  LM K cc gL fN Γ b lo es ws bj nf jL dp di dW dR kD j0 nm ql fW fU jb mu mm n pl gv σ δ k ρ (HS σ' aX)
 |e (k:Nat) (ρ:Loc) (σ':St) (aX:List MO) (ia:Nat) (gl:List MV) (i0:Int) (g0:Nat) (hk:k=es.length) (f1:LF cc (σ'.z.length:Nat) ia i0 g0 ρ) (O:uj cc σ δ Γ (n+es.length*(mm+3)) nf jL dp di dW dR kD j0 bj lo σ' aX ia gl) (c:σ'.a.length<σ.a.length+es.length*(mm/100*6+1)):
  LM K cc gL fN Γ b lo es ws bj nf jL dp di dW dR kD j0 nm ql fW fU jb mu mm n pl gv σ δ k ρ (HS σ' aX)
theorem LF.h{x:Int}{gv g:Nat}{i:Int}(f:LF cc x gv i g ρ)(T:Tab)(cl:Call)(k:Int)(μ:Hp){o:Prop}(q:∀bu,eY T cl (.b 182) (.c k) ρ μ=some (bu,μ)->LS cc x gv k bu->o):o:=by
 cases f with
 |b=>exact q _ rfl (.b _)
 |c j=>exact q _ rfl (.c _ _)
theorem EZ{I:Prop}(F:FS σ (ar j0 (nf,cc.a)))(hnm:∀q∈ar j0 (nf,cc.a),q.1≠nm)(hp:σ.z=ar (ar P (.d (mu+182))) (.d (g+182)))(u:2<=es.length)
  (A:LB cc gL fN Γ b lo es ws bj nf jL dp di dW dR kD j0 nm ql fW fU jb mu (σ.F (ar (ar j0 (nf,cc.a)) (nm,mu))) δ n 0 (ar P (.d (mu+182))) g a num e)
  (Y:n<=30000) (hd:cc.d<2) (dP:bC cc.l=true) (cU:cc.l≠84) (j4:cc.c=((Γ.r cc.d).e cc.l).d) (E:mm<=102) (hc:σ.a.length<=900)
  (hW:∀(σ':St) (j:List MO) (Q k:Nat) (P':List MV) (g' a':Nat) (yu:Int) (e':En),k<es.length->LB cc gL fN Γ b lo es ws bj nf jL dp di dW dR kD j0 nm ql fW fU jb mu σ' j Q k P' g' a' yu e'->Q<=n+600->Uc σ σ'->σ'.a.length<=σ.a.length+40->∀{I:Prop},(∀m,m<=mm->Within K cc σ' j Γ Q m k (ar (ar j0 (nf,cc.a)) (nm,mu)) g' a' yu e'->I)->I) (bJ:∀ρ' σ' j C gl i0 g0,(LF cc (σ'.z.length:Nat) C i0 g0 ρ')->(bQ Tb (au Tb (K+16)) (K+16) (fH cG 11) (Nt cc (P.length:Nat) gv) (HS σ δ)=some (.a,ρ',HS σ' j))->(uj cc σ δ Γ (n+es.length*(mm+3)) nf jL dp di dW dR kD j0 bj lo σ' j C gl)->(σ'.a.length<σ.a.length+es.length*(mm/100*6+1))->I):I:=by
 have v:=A.B.D.m
 refine b6 (σ.F (ar (ar j0 (nf,cc.a)) (nm,mu))) λL tl=>?_
 replace A:=tl.symm▸A
 have us:=tl▸(Uc.t _ _)
 have cs:L.a=σ.a:=tl▸rfl
 have ln:=hJ σ A.T.k (by rw[ay];exact Qy u v)
 rw[ay] at ln
 have J:aO Tb (au Tb (K+16)) (.p (.d 4)) (Nt cc (P.length:Nat) gv) (HS σ δ)=some (.c (es.length:Nat),HS σ δ):=oi [(0,ov ln)] ⋯
 have w1:=V6 (cc:=cc) (gv:=gv) (i:=((0:Nat):Int)) F hnm hp (by have:=A.T.i.y;rw[A.T.f,aB,aB] at this;exact Zo Y this) A.M.k (λσ=>ed σ A.T.N.b 5 (.c 0) ⋯) (K+14)
 rw[<-tl] at w1
 have l0:LS cc ((ar P (MV.d (mu+182))).length:Nat) gv ((0:Nat):Int) (Nu cc ((P.length+1:Nat):Int) gv ((0:Nat):Int)):=(aB ..)▸ .d
 have U:∀{x y:Nat},x<=mm->y<=5->y*(x+3)<=525:=λ{x y} h1 u=>by
  have:y*(x+3)<=5*105:=yO u (Zm E h1)
  exact Zl this
 have dv:∀{x:Nat},x<=mm->x/100*6<=mm/100*6:=λh=>gu 6 (Lc h)
 have dm:mm/100*6<=6:=Zi (Zj E)
 refine pN (fuel:=K+16) (t:= .b 182) (b:=sQ) (LM K cc gL fN Γ b lo es ws bj nf jL dp di dW dR kD j0 nm ql fW fU jb mu mm n P.length gv σ δ) J (Qy u v) .z (λk ρ μ I G q ω=>?_) λρ' aG e1 p1=>?_
 ·cases q with
  |z=>
   refine hW L δ n 0 _ g a num e (Zh G) A Zg us (cs▸Zf) λm hm W=>?_
   have:=dv hm
   refine A.k (ρ:=Nu cc ((P.length+1:Nat):Int) gv ((0:Nat):Int)) (gv:=gv) (Ze Y) hd dP cU j4 l0 W (Zd E hm) (aN (Qx u v)) (cs▸(Zc E hc hm)) λS dT dq V g2 a2 P2 Z x2 A2 u2 z2 k2 H=>?_
   rw[cs] at k2 H
   exact ω (Nu cc (P.length:Nat) gv ((0:Nat):Int)) (HS σ δ) S _ rfl (adt w1 (A.T.o (ρ:=Nu cc ((P.length+1:Nat):Int) gv ((0:Nat):Int)) (gv:=gv) (Zn Y) l0 (K+15)) x2) (.s _ _ _ _ _ _ _ _ _ _ _ _ _ Za (Qx u v) Z A2 (Y_ hm) (us.f u2) z2 k2 (Y9 this H))
  |s _ _ σ' j C i0 g0 P' g' a' yu e' Q h0 h1 f1 A' X u' z' k' c'=>
   have hb:=U (x:=mm) (y:=k) (aC _) (Y8 u v G)
   have R:=yO (YV u v G) (YU dm)
   refine hW σ' j Q k P' g' a' yu e' G A' (YT X hb) u' (YS c' R) λm hm W=>?_
   have:=dv hm
   have s1:(k+1)*(mm+3)=k*(mm+3)+(mm+3):=Nat.succ_mul _ _
   have s2:(k+1)*(mm/100*6+1)=k*(mm/100*6+1)+(mm/100*6+1):=Nat.succ_mul _ _
   refine f1.h Tb (au Tb (K+16)) (k:Int) (HS σ' j) λbu st kI=>?_
   by_cases hx:k+1<es.length
   ·exact A'.k (ρ:=bu) (gv:=C) (Qq Y X hb) hd dP cU j4 kI W (Qu E hm s1) (aN hx) (YR E hc c' R hm s1 s2) λS dT dq V g2 a2 P2 Z x2 A2 u2 z2 k2 H=>
     ω bu (HS σ' j) S _ st x2 (.s _ _ _ _ _ _ _ _ _ _ _ _ _ (YQ h0) (YP hx) Z A2 (YO X hm s1) (u'.f u2) (z'.k z2) (pE k' k2) (YN c' this s2 H))
   ·have ek:=Y2 G hx
    refine A'.w (ρ:=bu) (gv:=C) (Qq Y X hb) hd dP cU j4 kI W (Qu E hm s1) ek λS dT dq V gl Z x2 O H=>?_
    exact ω bu (HS σ' j) S _ st x2 (.e _ _ _ _ _ _ _ _ ek Z (O.s u' z' (ek▸Y1 X hm s1) k') (ek▸Y0 c' this s2 H))
  |e _ _ _ _ _ _ _ _ h=>exfalso;exact xy G h
 ·generalize J:es.length=q at p1
  cases p1 with
  |z=>exfalso;exact Tt u v J
  |s _ _ _ _ _ _ _ _ _ _ _ _ _ _ h=>exfalso;exact Ts J h
  |e _ _ σ' j C gl i0 g0 _ f1 O c1=>exact bJ ρ' σ' j C gl i0 g0 f1 (RT▸e1) (J▸O) (J▸c1)
end
end
section
section
variable{K n t b d l tm vl:Nat}{σ:St}{δ:List MO}{Γ:Cf}{ts:List CT}{vs ws:List MV}{R:List Row}{ρ:Loc}
theorem Jo(A:fE R ts vs ws)(s:ts.length<=3)(E:δ[tm]?=some (.a (ts.map CT.d)))(x:δ[vl]?=some (.a vs))(C:bz ρ 279=some (.d (tm+182)))(y:bz ρ 220=some (.d (vl+182))):
  ym (λi μ=>aO Tb (au Tb (K+1)) (.j 1284 [.h (.d 279) (.d 266),.h (.d 220) (.d 266)]) ((266,i)::ρ) μ) (yW (ts.length:Nat)) (HS σ δ)=some (ws,HS σ δ):=by
 refine tG (f:=λi μ=>aO Tb (au Tb (K+1)) (.j 1284 [.h (.d 279) (.d 266),.h (.d 220) (.d 266)]) ((266,i)::ρ) μ) (all:=yW (ts.length:Nat)) (λk μ z=>μ=HS σ δ/\z=ws.take k)
  (λk v μ z J u p D=>by
   obtain⟨rfl,rfl⟩:=p
   obtain⟨g,rfl⟩:=p7 u
   refine dY (A.o k ts[k] (aN g)) λa w B H F=>?_
   obtain⟨kk,G⟩:=F.o
   refine D w (HS σ δ) ?_ ⟨rfl,(lV H).symm⟩
   have r:bz ((266,MV.c (k:Int))::ρ) 279=some (.d (tm+182)):=C
   have q:bz ((266,MV.c (k:Int))::ρ) 220=some (.d (vl+182)):=y
   have m:bz ((266,MV.c (k:Int))::ρ) 266=some (.c (k:Int)):=rfl
   generalize ((266,MV.c (k:Int))::ρ)=bu at r q m
   have s2:=jZ σ x B (Qt s g)
   exact(kW (bW (jP (cI r _) (cI m _) (jZ σ E (k:=k) (v:=(ts[k]).d) (by rw[aL,aN g];rfl) (Qt s g))) (og (jP (cI q _) (cI m _) s2)))).trans (so (K:=K) G))
  (yW (ts.length:Nat)) 0 (HS σ δ) [] rfl ⟨rfl,rfl⟩ λxs I e p=>?_
 obtain⟨p1,p2⟩:=p
 rw[cQ,sz,i9,<-A.k,eC] at p2
 rw[e,p1,p2]
theorem N4(W:WS σ Γ)(δ:List MO)(e:d<2):ez (HS σ δ) (.d 3) (.c (d:Int))=some (Γ.r d).d:=by
 have g:(HS σ δ)[3]?=some (.a σ.ah):=⋯
 have e:=m9 e
 rcases e with rfl|rfl
 ·exact gn (i:=0) g (by rw[W.g];rfl) LQ
 ·exact gn (i:=1) g (by rw[W.g];rfl) Ha
theorem Nv{q:Prop}(W:WS σ Γ)(δ:List MO){y:Nat}(k:y<2)(m:∀l t,(ez (HS σ δ) (.d 9) (.c (y:Int))=some (.j [l] t))->(bC l=true)->(l≠84)->(0<t)->(t<2455)->q):q:=by
 have g:(HS σ δ)[9]?=some (.a σ.af):=⋯
 refine Uu W.h λs r h a b c d=>?_
 have k:=m9 k
 rcases k with rfl|rfl
 ·exact m Γ.o s (gn (i:=0) g (by rw[h];rfl) LQ) ((ny W.e).1) ((ny W.e).2) a b
 ·exact m Γ.p r (gn (i:=1) g (by rw[h];rfl) Ha) ((ny W.f).1) ((ny W.f).2) c d
end
end
section
noncomputable abbrev HF:List MS:=[fH cG 0,fH cG 1,fH cG 2,fH cG 3,fH cG 4,fH cG 5,fH cG 6,fH cG 7,fH cG 8,fH cG 9]
structure LI (σ:St) (δ:List MO) (Γ:Cf) (n d fi:Nat) (num:Int) (aV args:MV) (sort ex:Int) (L:List MV) (cc:LC) (es:List (Int×En)) (gL:St) (fN:List MO) (σ':St) (aX:List MO) (ip:Int) (stk gv:Nat) (bj vs ws:List MV):Prop where
 a:cc.a=fi
 b:cc.d=d
 v:bC cc.l=true
 m:cc.l≠84
 u:cc.c=((Γ.r d).e cc.l).d
 c:cc.f=ip+1
 B:Up σ gL
 D:qx gL fN δ.length Γ d cc.l cc.i cc.g es
 I:fN[cc.j]?=some (.a (es.map λp=>p.2.c))
 R:δ.length<=cc.j
 t:Gw δ fN
 q:Up gL σ'
 z:Fz (uV fi (fi+1)) fN aX
 f:Inv σ' Γ (n+48)
 A:aX[fi]?=some (gx fi num aV (.d 7) ip args stk sort ex)
 P:∃L',aX[fi+1]?=some (.a L')/\L'.length<=L.length+3
 s:aX[stk]?=some (.a (cW bj (.e [.c 4,.c cc.g]::vs)))
 o:aX[cc.k]?=some (.a bj)
 l:bj.length<=3
 F:∃y,bj=J3.take y
 H:aX[cc.h]?=some (.a ws)
 w:fE σ'.R ((Γ.T d).map (CT.e cc.l)) vs ws
 U:aX[gv]?=some (.a [])
 C:fN.length<=cc.k
 r:fN.length<=stk
 V:fN.length<=cc.h
 W:fN.length<=gv
 E:cc.k<stk
 Q:stk<cc.h
 X:cc.h<gv
 T:cc.e=1/\cc.b= -1\/cc.e=0/\∃y:Nat,y<es.length/\cc.b=(y:Int)
end
section
section
variable{K n d fi stk:Nat}{σ:St}{δ:List MO}{Γ:Cf}{num ip sort ex:Int}{aV args:MV}{L:List MV}{fs:List (Int×Nat)}
theorem HN{Ω:Prop}(I:Inv σ Γ n)(hn:n<=20000)(hd:d<2)(hh:σ.u=[])(F:FS σ (ar fs (num,fi)))(hf:δ[fi]?=some (gx fi num aV (.d 7) ip args stk sort ex))(hL:δ[fi+1]?=some (.a L))(ux:L.length<=700)(s:Int)(hdp:s=0\/s=1)(bJ:∀cc J V X σ' aX C Y gv bj vs ws,(cc.e=s)->(cc.m=((fs.length+1:Nat):Int))->(aY Tb (au Tb (K+16)) (K+16) HF [(103,.d 148),(250,.d 8),(110,.d (fi+182)),(263,.c (d:Int)),(282,.c s)] (HS σ δ)=some (.a,Nt cc (σ'.z.length:Nat) gv,HS σ' aX))->(LI σ δ Γ n d fi num aV args sort ex L cc J V X σ' aX C Y gv bj vs ws)->Ω):Ω:=by
 refine jQ I (Y7 hn) δ (m:=2) xx λy t1 hy U u1 I1=>?_
 have U:=U (K+15)
 obtain⟨dA,i7⟩:∃z,z=σ.S t1:=⟨_,rfl⟩
 rw[<-i7] at U u1 I1
 refine Nv I1.a δ hy λl t ls dP cU U0 W=>?_
 refine wx (K:=K+3) (δ:=δ) I1 (Y6 hn) hd dP cU (u1.r▸hh) t λV X O ad J N c1 um Im wm D MW H=>?_
 refine Al (K:=K+5) Im (Y5 hn) hd dP cU ⟨U0,W⟩ (wm.2 _ _ hf) (wm.2 _ _ hL) (Qw ux) ad λv A C Y Q M tm bj vs ws c2 S=>?_
 have rs:=N4 S.a.a A hd
 have rp:=yz (u:=Γ.r d) (l:=l) (t:=t) cU ⟨U0,W⟩
 have l3:((Γ.T d).map (CT.e l)).length<=3:=by rw[ay];exact I.a.a d
 obtain⟨G,jn⟩:∃z,z=ar A (.a ws):=⟨_,rfl⟩
 have km:bQ Tb (au Tb (K+16)) (K+16) (fH cG 4) [(103,.d 148),(250,.d 8),(110,.d (fi+182)),(263,.c (d:Int)),(282,.c s),(272,.j [l] t),(62,.c (O:Int)),(277,.c ad),(4,.d (N+182)),(278,.d (Q+182)),(220,.d (M+182)),(279,.d (tm+182)),(158,((Γ.r d).e l).d)] (HS v A)=some (.a,[(103,.d 148),(250,.d 8),(110,.d (fi+182)),(263,.c (d:Int)),(282,.c s),(272,.j [l] t),(62,.c (O:Int)),(277,.c ad),(4,.d (N+182)),(278,.d (Q+182)),(220,.d (M+182)),(279,.d (tm+182)),(158,((Γ.r d).e l).d),(285,.d (A.length+182))],HS v G):=by
  have ln:=hJ v S.e (by rw[ay];exact jX l3)
  rw[ay] at ln
  obtain⟨re,w⟩:∃z,z=((Γ.r d).e l).d:=⟨_,rfl⟩
  rw[<-w]
  have:=l9 (fuel:=K+16) (y:=285) (Rg (x:=266) (oi [(0,ov ln)] ⋯:aO Tb (au Tb (K+16)) (.p (.d 279)) [(103,.d 148),(250,.d 8),(110,.d (fi+182)),(263,.c (d:Int)),(282,.c s),(272,.j [l] t),(62,.c (O:Int)),(277,.c ad),(4,.d (N+182)),(278,.d (Q+182)),(220,.d (M+182)),(279,.d (tm+182)),(158,re)] (HS v A)=some (.c ((((Γ.T d).map (CT.e l)).length:Nat):Int),HS v A)) (jX l3) (Jo (K:=K+15) S.f l3 S.e S.o rfl rfl))
  rw[kG,kF,<-jn] at this
  exact this
 have w4:=jn▸(Gw.d _ _)
 have f4:=w4.2 _ _ S.c
 have fl:=pe (S.b.B (um.B (u1.B F))) G
 have pl:=mz v G (by have:=S.a.y;exact Y4 hn this)
 obtain⟨mO,P⟩:∃z,z=ar G (.a []):=⟨_,rfl⟩
 have R:=P▸(w4.e (Gw.d _ _))
 have e4:G.length=A.length+1:=by rw[jn,aB]
 have Ln:=cJ hL
 have Z:=S.h.1
 have aeQ:=cJ MW
 have pr:∀(σ':St) (E:Int),Up v σ'->Inv σ' Γ (n+48)->(s=1/\E= -1\/s=0/\∃y:Nat,y<J.length/\E=(y:Int))->LI σ δ Γ n d fi num aV args sort ex L ⟨fi,d,s,l,t,O,ad,N,Q,M,tm,((Γ.r d).e l).d,A.length,C+1,((fs.length+1:Nat):Int),E⟩ J V X σ' mO C Y G.length bj vs ws:=λσ' E u' I' ug=>by
  obtain⟨x,hx⟩:=u'.j
  exact⟨rfl,rfl,dP,cU,rfl,rfl,u1.f um,D,MW,H,wm,S.b.f u',S.h.k R.f,I',R.2 _ _ S.c,by obtain⟨L',h1,h2⟩:=S.l;exact⟨L',R.2 _ _ h1,h2⟩,R.2 _ _ S.d,R.2 _ _ S.g,S.i,S.m,by rw[P];exact fV _ (by rw[jn];exact h9 _ _ _ rfl),by rw[hx];exact S.f.p,P▸(h9 _ _ _ rfl),S.j,by have t1:=S.k;have t2:=S.j;exact Tw t1 t2,Z,Y3 e4 Z,S.k,cJ S.d,Zv e4,ug⟩
 obtain⟨re,w⟩:∃z,z=((Γ.r d).e l).d:=⟨_,rfl⟩
 obtain⟨rt,hrt⟩:∃z,z=(Γ.r d).d:=⟨_,rfl⟩
 rw[<-w] at km rp
 rw[<-hrt] at rs rp
 have c1:=c1
 have c2:=c2
 rcases hdp with rfl|rfl
 ·have lr:=hJ v (R.2 _ _ (S.h.2 _ _ (λq=>fK q (λq=>Tv H Ln q) λq=>Tu H Ln q) MW)) (by rw[ay];have:=D.m;exact GU this)
  rw[ay] at lr
  refine jQ S.a (Zu hn) mO (m:=J.length) D.z λz t2 hz dz u4 I4=>?_
  have dz:=dz (K+15)
  obtain⟨qm,EO⟩:∃q,q=v.S t2:=⟨_,rfl⟩
  rw[<-EO] at dz u4 I4
  have ep:=u4.z.1
  refine bJ ⟨fi,d,0,l,t,O,ad,N,Q,M,tm,((Γ.r d).e l).d,A.length,C+1,((fs.length+1:Nat):Int),(z:Int)⟩ J V X qm mO C Y G.length bj vs ws rfl rfl ?_ (pr qm z u4 (I4.q Zt) (.inr ⟨rfl,z,hz,rfl⟩))
  rw[ep,<-w,P]
  rw[P] at dz lr
  exact eD [(1,ow U),(2,ov ls),(3,ow c1),(4,ow c2),(6,ov rs),(7,ov rp),(8,os km),(8,ov (ed v f4 127 (MV.c C) ⋯)),(11,ov fl),(13,ov pl),(17,ov lr),(18,ow dz)] ⋯
 ·refine bJ ⟨fi,d,1,l,t,O,ad,N,Q,M,tm,((Γ.r d).e l).d,A.length,C+1,((fs.length+1:Nat):Int), -1⟩ J V X v mO C Y G.length bj vs ws rfl rfl ?_ (pr v (-1) (Up.q _) (S.a.q Zs) (.inl ⟨rfl,rfl⟩))
  exact w▸P▸(eD [(1,ow U),(2,ov ls),(3,ow c1),(4,ow c2),(6,ov rs),(7,ov rp),(8,os km),(8,ov (ed v f4 127 (MV.c C) ⋯)),(11,ov fl),(13,ov pl)] ⋯)
end
end
section
section
variable{K n d fi stk gv g i j:Nat}{σ:St}{δ:List MO}{Γ:Cf}{num nf jL:Int}{aV args dp di:MV}{L bj gl:List MV}{fs:List (Int×Nat)}{cc:LC}{dW:Nat}{dR kD i0:Int}{ρ:Loc}
noncomputable abbrev Bg:List MS:=[fH cG 12,fH cG 13]
theorem Oa(F:FS σ (ar fs (num,g)))(δ:List MO):ez (HS σ δ) (.d 155) (.c (-1))=some (.d (g+182)):=by
 have b:(fz fs).length<=100:=by have:=F.k;unfold fz;rw[aB] at this;rw[ay];exact PI this
 delta ez;refine(UX (by rw[<-mi fs (num,g),<-F.j];kernel_rfl:(HS σ δ)[155]?=some (.a (ar (fz fs) (.d (g+182)))))).trans ((RA _).trans ?_)
 unfold Ad
 rw[if_neg P_,j7 ⟨(by decide),by rw[aB];exact Zr b⟩,aB,show((-1:Int)+((fz fs).length+1:Nat)).toNat=(fz fs).length from(P9 b)]
 exact aZ _ _
theorem qE{μ:Hp}{p q:Nat}{l:List MV}(h:μ[p]?=some (.a l))(g:μ[q]?=some (.a l))(b:l.all (bh 8)=true):ct μ .a (.d p) (.d q)=some true:=by
 show Uw μ (.d p) (.d q)=_
 unfold Uw;dsimp only;rw[wu h,wu g,j7 (by rw[b];rfl),(kz l l).mpr rfl]
theorem j5(p:Int)(μ:Hp):ct μ .b (.c p) (.c p)=some false:=by
 show(ct μ .a (.c p) (.c p)).map (!·)=_
 rw[vb];rfl
theorem Ek{G:Prop}(F:FS σ (ar fs (nf,cc.a)))(r:δ[cc.a]?=some (gx cc.a nf dp (.d 7) (jL+1) di dW dR kD))(U:δ[dW]?=some (.a (cW bj gl)))(hj:δ[cc.k]?=some (.a bj))(P:δ[gv]?=some (.a gl))
  (S:(cW bj gl).all (bh 8)=true) (C:bj.length<=90/\gl.length<=90) (Q:σ.G=[]) (O:σ.H=[]) (hb:cc.f=jL+1) (T:cc.m=((fs.length+1:Nat):Int)) (t:σ.z.length<=90000)
  (R:LF cc (σ.z.length:Nat) gv i0 g ρ) (K:Nat)
  (k:∀E,aY Tb (au Tb K) K Bg ρ (HS σ δ)=some (.b (.h true),ρ,HS σ E)->Gw δ E->G):G:=by
 have J:=mz σ δ (xn t)
 have I:=j5 ((σ.z.length:Nat):Int)
 have D:=pe F δ
 have M:∀μ,ct μ .b (.c ((fs.length+1:Nat):Int)) (.c cc.m)=some false:=T▸(j5 _)
 have v:=Oa F δ
 have w:=j5 nf
 have ad:=zB σ hj P (Zq C) (Zp C)
 refine b6 (ar δ (.a (cW bj gl))) λo u=>?_
 replace ad:=u.symm▸ad
 have s:=u▸(Gw.d _ _)
 have y:=qE (μ:=HS σ o) (p:=dW+182) (q:=δ.length+182) (by rw[df];exact s.2 _ _ U) (by rw[df,u];exact h9 _ _ _ rfl) S
 have x:=s.2 _ _ r
 have N:∀μ,ct μ .a (.c (jL+1)) (.c cc.f)=some true:=hb▸(vb _)
 have A:=qE (μ:=HS σ (ar o (.a []))) (p:=163) (q:=o.length+182) (l:=[]) (by rw[<-O];kernel_rfl) (by rw[df];exact h9 _ _ _ rfl) rfl
 have B:=qE (μ:=HS σ (ar (ar o (.a [])) (.a []))) (p:=162) (q:=(ar o (.a [])).length+182) (l:=[]) (by rw[<-Q];kernel_rfl) (by rw[df];exact h9 _ _ _ rfl) rfl
 rcases R with _|j
 ·refine k (ar (ar o (.a [])) (.a [])) ?_ ((s.e (Gw.d _ _)).e (Gw.d _ _))
  exact eD [(1,ov J),(2,oq (I (HS σ δ))),(5,ov D),(6,oq (M (HS σ δ))),(9,ov v),(10,ov (ed σ r 119 (MV.c nf) ⋯)),(11,ov (ed σ r 119 (MV.c nf) ⋯)),(12,oq (w (HS σ δ))),(14,ov (ed σ r 126 (MV.d (dW+182)) ⋯)),(15,ow ad),(16,oq y),(18,ov (ed σ x 127 (MV.c (jL+1)) ⋯)),(19,oq (N (HS σ o))),(23,oq A),(27,oq B)] ⋯
 ·refine k (ar (ar o (.a [])) (.a [])) ?_ ((s.e (Gw.d _ _)).e (Gw.d _ _))
  exact eD [(1,ov J),(2,oq (I (HS σ δ))),(5,ov D),(6,oq (M (HS σ δ))),(9,ov v),(10,ov (ed σ r 119 (MV.c nf) ⋯)),(11,ov (ed σ r 119 (MV.c nf) ⋯)),(12,oq (w (HS σ δ))),(14,ov (ed σ r 126 (MV.d (dW+182)) ⋯)),(15,ow ad),(16,oq y),(18,ov (ed σ x 127 (MV.c (jL+1)) ⋯)),(19,oq (N (HS σ o))),(23,oq A),(27,oq B)] ⋯
end
end
section
section
variable{K n d fi stk gv g i j:Nat}{σ gL σ':St}{δ fN aX:List MO}{Γ:Cf}{num nf ip jL:Int}{aV args dp di:MV}{L bj vs ws:List MV}{fs:List (Int×Nat)}{cc:LC}{dW:Nat}{sort ex dR kD ai:Int}{ρ:Loc}{es:List (Int×En)}
theorem RS(hj:δ[cc.k]?=some (.a bj))(q:bj.length<=3)(r:cc.d<2)(H:au Tb K 1192 [.d 148,.d (cc.a+182),jO cc.i cc.d,.c (bj.length:Nat)] (HS σ δ)=some (.c (-2),HS σ' aX))(l:aX[cc.a]?=some (gx cc.a num aV (.d 7) ip args stk sort ex))(p:aX[stk]?=some (.a bj))(b:aX[cc.k]?=some (.a bj))(h:bj.all (bh 8)=true)(F:Nat):
  bQ Tb (au Tb K) F (fH cG 10) (Nt cc ai gv) (HS σ δ)=some (.a,Nt cc ai gv,HS σ' aX):=by
 have m:∀μ,dE μ .c (.c 6) (.c (cc.d:Int))=some (.c ((6*cc.d:Nat):Int),μ):=λμ=>by
  rw[nD (by decide),show(6:Int)*(cc.d:Int)=((6*cc.d:Nat):Int) from QB]
 have f:∀μ,dE μ .a (.c 1) (.c ((6*cc.d:Nat):Int))=some (.c (b0 cc.d 0:Nat),μ):=λμ=>by
  show some (MV.c ((1:Int)+((6*cc.d:Nat):Int)),μ)=_
  rw[show(1:Int)+((6*cc.d:Nat):Int)=((b0 cc.d 0:Nat):Int) from QA]
 refine b6 (b0 cc.d 0) λs o=>?_
 have H:au Tb K 1192 [.d 148,.d (cc.a+182),.e [.c (cc.i:Int),.c (b0 cc.d 0:Nat),.e []],.c (bj.length:Nat)] (HS σ δ)=some (.c (-2),HS σ' aX):=H
 rw[<-o] at f H
 exact uD [(0,ow (m (HS σ δ))),(1,ow (f (HS σ δ))),(4,ov (hJ σ hj (jX q))),(5,ow H),(6,oq ((j5 (-2)) (HS σ' aX))),(8,ov (ed σ' l 126 (MV.d (stk+182)) ⋯)),(9,oq (abQ σ' p b h))] ⋯
theorem sH(y:Nat):(J3.take y).all (bh 8)=true:=aQ.mpr λx a=>aQ.mp (by kernel_rfl:J3.all (bh 8)=true) x (List.mem_of_mem_take a)
theorem fE.z{R:List Row}{ts:List CT}(A:fE R ts vs ws)(h:ts.length<=3):ws.length<=3/\ws.all (bh 8)=true:=by
 refine⟨A.k▸h,aQ.mpr λx b=>?_⟩
 obtain⟨j,hj,e⟩:=qp b
 refine dY (A.o j _ (aN (A.k▸hj))) λv w _ a c=>?_
 replace a:=e▸(aN hj)▸a
 cases a
 exact c.p
theorem LI.N{k:St}{h:List MO}{G:Int}{x y:Nat}(O:LI k h Γ n d fi num aV args sort ex L cc es gL fN σ δ G x y bj vs ws)(p:fi+1<h.length):F8 cc gL fN Γ h.length fN.length es σ δ:=
 ⟨O.b▸O.D,O.q.D,O.a▸O.z,O.a▸p,aC _⟩
theorem LI.e{G:Prop}{oO:St}{Y:List MO}{sm:Int}{y ia:Nat}(O:LI oO Y Γ n d fi num aV args sort ex L cc es gL fN σ δ sm y ia bj vs ws)(hn:n<=40000)(hd:d<2)(hL:fi+1<Y.length)(K:Nat)
  (k:∀R' aX x,dM σ.R R' 8->Fz (pw y) δ aX->aX[y]?=some (.a bj)->aX[x]?=some (.a ws)->δ.length<=x->F8 cc gL fN Γ Y.length fN.length es (σ.r R') aX->Inv (σ.r R') Γ (n+56)->
   (∀aG,au Tb (K+13) 1108 [.d 148,.d (cc.a+182),.c cc.g,.d (x+182)] (HS (σ.r R') aX)=some (.f,aG)->au Tb (K+16) 1192 [.d 148,.d (cc.a+182),jO cc.i cc.d,.c (bj.length:Nat)] (HS σ δ)=some (.c (-2),aG))->G):G:=by
 have M:=O.N hL
 have D:=M.c
 have lm:=O.z.1
 have kA:∀aX,Fz (pw y) δ aX->F8 cc gL fN Γ Y.length fN.length es σ aX:=λaX z=>M.f (Uc.w _) z λi hi=> .inr (by have hi:i=y:=hi;exact(hi▸O.r))
 have kB:∀aX,Fz (pw y) δ aX->fM σ aX Y.length cc.g cc.i:=λaX z=>by
  have D:=(kA aX z).c
  rcases D.o with⟨p,h1,Z⟩|⟨_,s0,s1,ra,jk,h,_⟩
  ·exact Z▸((D.a p (h1▸(bK.mpr rfl))).1.a)
  ·exact h.a
 refine Io (K:=K+1) O.f (eK (aM hn _)) (O.b▸hd) O.v O.m D.j (O.b▸O.w) kB O.A O.s O.l λR' aX x G1 z h1 Z h3 h4=>?_
 refine k R' aX x G1 z h1 Z h3 ((kA aX z).f (S:=λJ=>False) (Uc.z σ G1.c) (Gw.p _).f λJ h=>h.elim) ((O.f.D G1).q (bN [_] (V0.A+48+8) (V0.A+56) .z rfl)) ?_
 exact O.a▸h4
end
end
section
section
variable{K n d fi stk gv ia g i j m k N b:Nat}{σ gL dA dT dI:St}{δ fN dN dq h_:List MO}{Γ:Cf}{num ip i0:Int}{aV args:MV}{L bj vs ws gl:List MV}{fs:List (Int×Nat)}{cc:LC}{sort ex:Int}{ρ:Loc}{es:List (Int×En)}{p:Int×En}
theorem Uc.o{σ σ':St}(u:Uc σ σ'):σ'.G=σ.G/\σ'.H=σ.H/\σ'.u=σ.u/\σ'.O=σ.O:=⟨u.C (P:=λs=>s.G=σ.G) rfl,u.C (P:=λs=>s.H=σ.H) rfl,u.C (P:=λs=>s.u=σ.u) rfl,u.C (P:=λs=>s.O=σ.O) rfl⟩
theorem xP{G:Prop}(O:LI σ δ Γ n d fi num aV args sort ex L cc es gL fN dA dN ip stk gv bj vs ws)(T:cc.m=((fs.length+1:Nat):Int))(F:FS σ (ar fs (num,fi)))(M:σ.G=[]/\σ.H=[])(u2:Uc dA dT)(z2:Fz (pw stk) dN dq)
  (u:uj cc dT dq Γ N num ip aV args stk sort ex fs bj dN.length dI h_ ia gl) (hN:N<=n+k*100) (Y:N<=80000) (i_:LF cc (dI.z.length:Nat) ia i0 g ρ) (V:fi+1<δ.length)
  (c:dI.a.length<=σ.a.length+k*6) (c2:dA.a.length<=dT.a.length) (K:Nat)
  (κ:∀R,aY Tb (au Tb K) K Bg ρ (HS dI h_)=some (.b (.h true),ρ,HS dI R)->ru σ δ Γ n k fi num aV args sort ex L dI R->G):G:=by
 have U1:=O.B.f O.q
 have U3:=(U1.D.f u2).f u.t
 refine lu U3.o λt1 t2 _ _=>?_
 have lm:=O.t.1
 have S:=O.C
 have J:=O.E
 have W:=cJ O.s
 have Z:∀i v,i≠fi->i≠stk->i<dN.length->dN[i]?=some v->h_[i]?=some v:=λi v U Q h3 h=>u.k.2 _ _ (λq=>by
  rcases q with q|q|q
  ·rw[O.a] at q;exact U q
  ·exact Q q
  ·exact(bZ [_,_] (.o (V0.A+1) V0.B (.o V0.B V0.A .z)) rfl h3 q)) (z2.2 _ _ Q h)
 have pl:(cW bj gl).all (bh 8)=true:=by
  refine dG O.F λy hy=>?_
  unfold cW
  rw[Wb,hy,sH,u.r.1];rfl
 have gl1:=u.r.2
 refine Ek u.f u.o u.w (Z _ _ (dJ (bk (ud V) (aD lm S))) (xp J) (oE J W) O.o) u.x pl ⟨Hd O.l,eK gl1⟩ (t1▸M.1) (t2▸M.2) O.c T (GP Y u.c.y) i_ K λR h w=>κ R h ?_
 have I:=w.2 _ _ u.o
 rw[O.a] at I
 have hp:=U1.z.2
 refine⟨U3,u.c.q hN,λfs' F'=>?_,?_,⟨_,_,I⟩,?_,c,?_⟩
 ·have X:=u.f
  rw[O.a] at X
  exact F'.o (X.j▸F.j▸rfl) (X.m▸F.m▸rfl)
 ·refine⟨by have:=w.1;exact(bN [_,_,_,_,_,_,_] V0.A V0.G (.o V0.A V0.B (.o V0.B V0.C (.o (V0.C+1) V0.D (.o (V0.D+1) V0.E (.o V0.E V0.F (.o V0.F V0.G .z)))))) rfl lm S J W (aD z2.1 u.k.1) this),λi v h q=>w.2 _ _ ?_⟩
  have:=cJ q
  refine Z _ _ (λe=>h (.inl e)) (λhh=>bZ [_,_,_,_,_] (.o V0.A V0.B (.o V0.B V0.C (.o (V0.C+1) V0.D (.o (V0.E+1) V0.A (.f V0.D V0.E .z))))) rfl lm S J this hh) (gz [_,_,_,_,_,_] V0.F V0.E (.o V0.A V0.B (.o V0.B V0.C (.o (V0.C+1) V0.D (.o (V0.D+1) V0.E (.o (V0.F+1) V0.A .z))))) rfl lm S J W this) (O.z.2 _ _ h (O.t.2 _ _ q))
 ·refine cf O.P λL' U Q=>?_
  exact⟨L',w.2 _ _ (Z _ _ PZ (gw (bk V (aD lm O.r))) (Hc V lm O.z.1) U),Q⟩
 ·have:=u.j;rw[hp] at c2;exact pE c2 this
theorem Rk{cl:Call}{F:Nat}{c bu h f e:Loc}{lZ bF l mP Lp:Hp}{v:MV}(r:aY Tb cl F HF c lZ=some (.a,bu,bF))(o:bQ Tb cl F (fH cG 10) bu bF=some (.a,h,l))(s:bQ Tb cl F (fH cG 11) h l=some (.a,f,mP))(q:aY Tb cl F Bg f mP=some (.b v,e,Lp)):aY Tb cl F cG.b c lZ=some (.b v,e,Lp):=by
 show aY Tb cl F (HF++([fH cG 10]++([fH cG 11]++Bg))) c lZ=_
 rw[cz r,cz (x:=[fH cG 10]) (cD o rfl),cz (x:=[fH cG 11]) (cD s rfl)]
 exact q
end
end
section
section
variable{K n d fi stk gv ia g i j m k mm N b:Nat}{σ gL dA dT dI:St}{δ fN dN dq h_:List MO}{Γ:Cf}{num ip i0:Int}{aV args:MV}{L bj vs ws gl:List MV}{fs:List (Int×Nat)}{cc:LC}{sort ex:Int}{AF:Loc}{es:List (Int×En)}{p:Int×En}
noncomputable def Wi(K:Nat)(cc:LC)(σ:St)(Γ:Cf)(n mm len o:Nat):Prop:=∀(dT:St) (dq:List MO) (h ix:Nat) (c:List (Int×Nat)) (g a:Nat) (l:Int) (e:En),ix<len->h<=n+700->Uc σ dT->dT.a.length<=σ.a.length+42->c.length<=o+2->(∀q∈ar c (l,g),q.1=1000\/q.1<=((dT.a.length:Nat):Int))->∀{f:Prop},(∀m,m<=mm->Within K cc dT dq Γ h m ix c g a l e->f)->f
theorem nB{a:Type}{l:List a}{x y:a}(h:x∈ar l y):x∈l\/x=y:=by
 rcases cP.mp h with h|h
 ·exact .inl h
 ·exact .inr (bK.mp h)
structure Gp (σ:St) (δ:List MO) (n d fi:Nat) (num:Int) (fs:List (Int×Nat)):Prop where
 F:FS σ (ar fs (num,fi))
 a:∀q∈ar fs (num,fi),q.1=1000\/q.1<=((σ.a.length:Nat):Int)
 h:σ.a.length<=800
 f:fs.length<=80
 g:n<=20000
 c:d<2
 i:fi+1<δ.length
 b:σ.G=[]
 e:σ.H=[]
theorem HL{G:Prop}(A:Gp σ δ n d fi num fs)(O:LI σ δ Γ n d fi num aV args sort ex L cc [p] gL fN dA dN ip stk gv bj vs ws)(hht:cc.m=((fs.length+1:Nat):Int))(I7:aY Tb (au Tb (K+16)) (K+16) HF AF (HS σ δ)=some (.a,Nt cc (dA.z.length:Nat) gv,HS dA dN))
  (hm:mm=2/\k=1\/mm=102/\k=8) (W:Wi K cc σ Γ n mm 1 fs.length)
  (κ:∀dI iy ρ,aY Tb (au Tb (K+16)) (K+16) cG.b AF (HS σ δ)=some (.b (.h true),ρ,HS dI iy)->ru σ δ Γ n k fi num aV args sort ex L dI iy->G):G:=by
 have hn:=A.g
 have hd:=O.b▸A.c
 have lm:=O.t.1
 have RC:=O.C
 have ckp:=O.Q
 have V:=A.i
 have Vi:=O.R
 have U1:=O.B.f O.q
 have W3:=O.w.z (by rw[ay];exact O.f.a.a d)
 refine O.e (Qz hn) A.c V K λR' aX x G1 z h1 h2 h3 M I H=>?_
 have D:=M.c
 have had:cc.g=p.1:=by
  rcases D.o with⟨q,h,e⟩|⟨h,_⟩
  ·cases h;exact e
  ·simp at h
 rw[had] at D H
 refine Ni (fo:= .d (cc.a+182)) I (Zw hn) hd D h2 (eK W3.1) λa U Y w ha la=>?_
 have IV:=H _ (Y (K+7))
 obtain⟨dT,P⟩:∃y,y=(dA.r R').M p.2.a (.d (a+182)) 0 U.length:=⟨_,rfl⟩
 obtain⟨dq,eO⟩:∃y,y=fD U (gx U.length (((dA.r R').a.length+1:Nat):Int) p.2.a .f 0 (.d (a+182)) (U.length+2) 0 0) 6:=⟨_,rfl⟩
 have N:=eO▸(tK U)
 rw[<-P,<-eO] at IV
 have wD:Gw U dq:=by rw[eO];exact xO 6
 have w2:=w.e wD
 have e1:=U1.z.2
 have X:dT.a.length=σ.a.length+1:=P▸e1▸(aB ..)
 have ec:(((dA.r R').a.length+1:Nat):Int)=((dT.a.length:Nat):Int):=P▸(congrArg _ (aB ..).symm)
 rw[ec] at N
 have psh:dT.z=ar dA.z (.d (U.length+182)):=P▸rfl
 have u12:=P▸((Uc.z dA G1.c).f (Uc.q _ _ _ _ _))
 have Z:∀i v,i≠stk->dN[i]?=some v->dq[i]?=some v:=λi v h q=>w2.2 _ _ (z.2 _ _ h q)
 have f2:=O.a▸(Z _ _ (ZM lm O.r V) O.A)
 have F_:=w2.2 _ _ h1
 obtain⟨y,hy⟩:=O.F
 have rw2:=w2.2 _ _ (M.j.2 _ _ (λq=>by rw[O.a] at q;rcases q with q|q<;>first|exact Hl V Vi q|exact Hm V Vi q) O.I)
 have th:∀q∈ar fs (num,fi),q.1≠((dT.a.length:Nat):Int):=λq hq=>by
  have:=A.h
  rcases A.a q hq with h|h<;>first|exact Tx X ec this h|exact Tc X ec h
 have T:Due cc dT dq Γ (n+57) δ.length 0 (ar fs (num,cc.a)) dA.z U.length a ((dT.a.length:Nat):Int) p.2 ws [p.2.c]:=
  ⟨P▸(I.M _ _ _ _),O.a▸(P▸((U1.B A.F).o rfl rfl)),O.a▸th,by rw[aB];have:=A.f;exact ZL this,psh,N,wD.2 _ _ ha,cJ ha,rw2,rfl,Z _ _ (sM ckp) O.H,W3.1,W3.2,(D.a p (bK.mpr rfl)).2.j (σ':=dT) (S:=λJ=>False) (λJ J h=>P▸h) ⟨[],P▸((d8 _).symm)⟩ w2.f λJ h=>h.elim⟩
 refine W dT dq (n+57) 0 (ar fs (num,cc.a)) U.length a _ p.2 ZJ ZI (U1.D.f u12) (ZH X) (by rw[aB];exact ZG) (λq hq=>by
  rcases nB hq with h|rfl
  ·rw[O.a] at h
   rcases A.a q h with h|h
   ·exact .inl h
   ·exact .inr (ZF X ec h)
  ·exact .inr (Int.le_refl _)) λm Gb Wt=>?_
 have lD:=w.1
 have zl:=z.1
 have lD2:=wD.1
 refine Jy (gv:=gv) T (ZE hn) hd O.v O.m (O.u▸O.b▸rfl) Wt (⟨f2,F_,by have:=O.l;exact Hd this,O.c,O.a▸(ZK lm O.z.1 V),cJ O.s⟩) (oH la zl) (QD lD zl lD2) (ZD hm Gb) λρ' dI h_ ia gl f1 x1 O3 c3=>?_
 refine xP (k:=k) O hht A.F ⟨A.b,A.e⟩ u12 ⟨QD lD zl lD2,λi v h q=>Z i v h q⟩ O3 (ZC hm Gb) (ZA hm hn Gb) f1 V (Zz hm X ec (gu 6 (Lc Gb)) c3) (X▸e1▸lG) (K+16) λiy x2 CO=>?_
 exact κ dI iy ρ' (Rk I7 (RS (ai:=(dA.z.length:Nat)) (gv:=gv) O.o O.l hd IV f2 F_ (Z _ _ (xp O.E) O.o) (hy▸(sH y)) (K+16)) x1 x2) CO
end
end
section
section
variable{K n d fi stk gv ia g i j m k mm N b:Nat}{σ gL dA dT dI:St}{δ fN dN dq h_:List MO}{Γ:Cf}{num ip i0:Int}{aV args:MV}{L bj vs ws gl:List MV}{fs:List (Int×Nat)}{cc:LC}{sort ex:Int}{AF:Loc}{es:List (Int×En)}{p:Int×En}
theorem Ej{G:Prop}(A:Gp σ δ n d fi num fs)(O:LI σ δ Γ n d fi num aV args sort ex L cc es gL fN dA dN ip stk gv bj vs ws)(X:2<=es.length)(hht:cc.m=((fs.length+1:Nat):Int))(I7:aY Tb (au Tb (K+16)) (K+16) HF AF (HS σ δ)=some (.a,Nt cc (dA.z.length:Nat) gv,HS dA dN))
  (hm:mm=2/\k=1\/mm=102/\k=8) (W:Wi K cc σ Γ n mm es.length fs.length)
  (κ:∀dI iy ρ,aY Tb (au Tb (K+16)) (K+16) cG.b AF (HS σ δ)=some (.b (.h true),ρ,HS dI iy)->ru σ δ Γ n k fi num aV args sort ex L dI iy->G):G:=by
 have hn:=A.g
 have UT:=A.f
 have Ga:=A.h
 have hd:=O.b▸A.c
 have lm:=O.t.1
 have l1:=O.z.1
 have lst:=O.r
 have RC:=O.C
 have Mb:=O.E
 have ckp:=O.Q
 have hL:=A.i
 have lkp:=cJ O.H
 have Vi:=O.R
 have lrm:=cJ O.I
 have U1:=O.B.f O.q
 have W3:=O.w.z (by rw[ay];exact O.f.a.a d)
 obtain⟨p,hp⟩:∃p,es[0]?=some p:=⟨_,aN (Z5 X)⟩
 refine O.e (Qz hn) A.c hL K λR' aX x G1 z h1 h2 h3 M I H=>?_
 have D:=M.c
 have l5:=D.m
 refine Jh (fo:= .d (cc.a+182)) I (Z4 hn) hd D X hp h2 (eK W3.1) λs' a mu g0 Y σa Jc hinv Ia w Mu ha la lmu lma=>?_
 have IV:=H _ (hinv (K+4))
 refine b6 (σa.M p.2.a (.d (a+182)) 0 Y.length) λdT ja=>?_
 refine b6 (fD Y (gx Y.length (((dA.r R').a.length+2:Nat):Int) p.2.a .f 0 (.d (a+182)) (Y.length+2) 0 0) 6) λdq eO=>?_
 have N:=eO▸(tK Y)
 rw[<-ja,<-eO] at IV
 have wD:Gw Y dq:=by rw[eO];exact xO 6
 have w2:=w.e wD
 have e1:=U1.z.2
 have ca:σa.a.length=dA.a.length+1:=by rw[Jc];exact aB ..
 have P:dT.a.length=σ.a.length+2:=by rw[ja,<-e1];show(ar σa.a _).length=_;rw[aB,ca]
 have U:(((dA.r R').a.length+2:Nat):Int)=((dT.a.length:Nat):Int):=P▸e1▸rfl
 have ec1:(((dA.r R').a.length+1:Nat):Int)=((σ.a.length+1:Nat):Int):=e1▸rfl
 rw[U] at N
 rw[ec1] at Mu
 have psh:dT.z=ar (ar dA.z (.d (mu+182))) (.d (Y.length+182)):=ja▸Jc▸rfl
 have u12:=ja▸Jc▸((Uc.z dA G1.c).f ((Uc.q _ _ _ _ _).f ((Uc.y _ _).f (Uc.q _ _ _ _ _))))
 have uR2:Uc (dA.r R') dT:=by rw[ja,Jc];exact(Uc.q _ _ _ _ _).f ((Uc.y _ _).f (Uc.q _ _ _ _ _))
 have Z:∀i v,i≠stk->dN[i]?=some v->dq[i]?=some v:=λi v h q=>w2.2 _ _ (z.2 _ _ h q)
 have f2:=O.a▸(Z _ _ (Z3 RC Mb hL Vi lrm) O.A)
 have F_:=w2.2 _ _ h1
 refine dG O.F λy hy=>?_
 have vg:=O.a▸A.a
 have qJ:∀q∈ar (ar fs (num,cc.a)) (((σ.a.length+1:Nat):Int),mu),q.1=1000\/q.1<((dT.a.length:Nat):Int):=λq hq=>by
  rcases nB hq with h|rfl
  ·rcases vg q h with h|h
   ·exact .inl h
   ·exact .inr (Z0 P U h)
  ·exact .inr (by rw[P];show((σ.a.length+1:Nat):Int)<_;exact ZY)
 have hnm:∀q∈ar fs (num,cc.a),q.1≠((σ.a.length+1:Nat):Int):=λq hq=>by
  rcases vg q hq with h|h<;>first|exact TF Ga P U h|exact TG P U h
 have F2c:=O.a▸(by rw[ja,Jc];exact(U1.B A.F).o rfl rfl:FS dT (ar fs (num,fi)))
 refine b6 (dT.F (ar (ar fs (num,cc.a)) (((σ.a.length+1:Nat):Int),mu))) λV tl=>?_
 have cs:V.a=dT.a:=tl▸rfl
 have Ms:=M.f (S:=λJ=>False) (uR2.f (tl▸(Uc.t _ _))) w2.f λJ h=>h.elim
 have Bs:F8 cc gL fN Γ δ.length dN.length es V dq:=⟨Ms.D,Ms.k,Ms.j,Ms.p,l1⟩
 have lD:=w.1
 have zl:=z.1
 have lD2:=wD.1
 have lad:=cJ ha
 have rw2:=w2.2 _ _ (M.j.2 _ _ (λq=>by rw[O.a] at q;rcases q with q|q<;>first|exact Hl hL Vi q|exact Hm hL Vi q) O.I)
 have T:Due cc V dq Γ (n+59) δ.length 0 (ar (ar fs (num,cc.a)) (((σ.a.length+1:Nat):Int),mu)) (ar dA.z (.d (mu+182))) Y.length a ((dT.a.length:Nat):Int) p.2 ws (es.map λp=>p.2.c):=
  ⟨tl▸((ja▸(Ia.M _ _ _ _)).H _),(tl▸(F2c.w hnm (by rw[aB];exact ZX UT) mu)),λq hq=>by rcases qJ q hq with h|h<;>first|exact Tj Ga P U h|exact TC U h,by rw[aB,aB];exact ZW UT,tl▸psh,N,wD.2 _ _ ha,lad,rw2,aL▸hp▸rfl,Z _ _ (sM ckp) O.H,W3.1,W3.2,(Bs.c.a p (aU hp)).2⟩
 have Ac:LB cc gL fN Γ δ.length dN.length es ws bj num ip aV args stk sort ex fs ((σ.a.length+1:Nat):Int) 0 _ _ _ mu V dq (n+59) 0 (ar dA.z (.d (mu+182))) Y.length a ((dT.a.length:Nat):Int) p.2:=
  ⟨T,(⟨f2,F_,by have:=O.l;exact Hd this,O.c,O.a▸(ZV RC Mb ckp hL lkp Vi lrm),cJ O.s⟩),Bs,Mu.j wD,oH la zl,QE lmu lma zl lD2 lad,lma,oH lmu zl,⟨p,hp,rfl⟩,cs▸rfl,cs▸qJ,ZU l1 lrm,ZT lkp⟩
 rw[tl] at Ac
 refine EZ (K:=K) (mm:=mm) (gv:=gv) F2c hnm psh X Ac (ZS hn) hd O.v O.m (O.u▸O.b▸rfl) (ZR hm) (ZQ Ga P U)
  (λσ' aX n' k P' g' a' yu e' hk A' ug u' MG=>W σ' aX n' k _ g' a' yu e' hk (ZP ug) ((U1.D.f u12).f u') (ZO P U MG) (by rw[aB,aB];exact Qo) (λq hq=>by
   rcases nB hq with h|rfl
   ·rcases A'.j q h with h|h
    ·exact .inl h
    ·exact .inr (ZN h)
   ·exact .inr (A'.c▸(Int.le_refl _)))) λρ' dI h_ ia gl i0 g0 f1 x1 O3 c3=>?_
 refine xP (k:=k) O hht A.F ⟨A.b,A.e⟩ u12 ⟨QE lmu lma zl lD2 lad,λi v h q=>Z i v h q⟩ O3 (by rcases hm with⟨rfl,rfl⟩|⟨rfl,rfl⟩<;>first|exact Th X l5|exact Ti X l5) (by rcases hm with⟨rfl,rfl⟩|⟨rfl,rfl⟩<;>first|exact Tf X hn l5|exact Tg X hn l5) f1 hL (by rcases hm with⟨rfl,rfl⟩|⟨rfl,rfl⟩<;>first|exact Td X l5 P U c3|exact Te X l5 P U c3) (P▸e1▸Qp) (K+16) λiy x2 CO=>?_
 exact κ dI iy ρ' (Rk I7 (RS (ai:=(dA.z.length:Nat)) (gv:=gv) O.o O.l hd IV f2 F_ (Z _ _ (xp Mb) O.o) (hy▸(sH y)) (K+16)) x1 x2) CO
end
end
section
section
variable{K n d fi f k mm:Nat}{σ gL dA:St}{δ fN dN:List MO}{Γ:Cf}{num ip i0:Int}{aV args v:MV}{L bj:List MV}{fs:List (Int×Nat)}{cc:LC}{sort ex:Int}{AF ρ:Loc}{es:List (Int×En)}{F:k_}{vs:List MV}{μ aG:Hp}
theorem pG(c:Tb.h f=some F)(hb:eH F.a vs []=some AF)(h:aY Tb (au Tb K) K F.b AF μ=some (.b v,ρ,aG)):au Tb (K+1) f vs μ=some (v,aG):=(Eg c).trans ((Eg hb).trans (congrArg Fm h))
theorem Bh{G:Prop}(i:Int)(q:i=0\/i=1)(A:Gp σ δ n d fi num fs)(I:Inv σ Γ n)(B:σ.u=[])(H:δ[fi]?=some (gx fi num aV (.d 7) ip args k sort ex))(M:δ[fi+1]?=some (.a L))(J:L.length<=700){kk:Nat}(hm:mm=2/\kk=1\/mm=102/\kk=8)
  (W:∀cc len,cc.d=d->(cc.e=1/\cc.b= -1\/cc.e=0/\∃y:Nat,cc.b=(y:Int))->cc.e=i->Wi K cc σ Γ n mm len fs.length)
  (P:∀j l,au Tb (K+17) 1327 [.d 148,.d 8,.d (fi+182),.c (d:Int),.c i] (HS σ δ)=some (.h true,HS j l)->ru σ δ Γ n kk fi num aV args sort ex L j l->G):G:=by
 refine HN (K:=K) I A.g A.c B A.F H M J i q λcc es gL fN dA dN R Q gv bj vs ws N w E O=>?_
 have s:∀len,Wi K cc σ Γ n mm len fs.length:=λlen=>W cc len O.b (by rcases O.T with h|⟨h,y,_,e⟩;exact .inl h;exact .inr ⟨h,y,e⟩) N
 have m:∀j l ρ,aY Tb (au Tb (K+16)) (K+16) cG.b [(103,.d 148),(250,.d 8),(110,.d (fi+182)),(263,.c (d:Int)),(282,.c i)] (HS σ δ)=some (.b (.h true),ρ,HS j l)->ru σ δ Γ n kk fi num aV args sort ex L j l->G:=λj l ρ x C=>P j l (pG (F:=cG) ⋯ rfl x) C
 by_cases t:es.length=1
 ·obtain⟨p,rfl⟩:∃p,es=[p]:=D7.mp t
  exact HL A O w E hm (s 1) m
 ·exact Ej A O (by have:=O.D.z;exact((bL t).elim (λr=>aP λB=>bZ [_] (.o 1 V0.A (.o (V0.A+1) 1 .z)) rfl this r) λr=>bN [_] 2 V0.A (.o (1+1) V0.A .z) rfl r)) w E hm (s _) m
theorem LZ(A:Gp σ δ n d fi num fs)(I:Inv σ Γ n)(r:σ.u=[])(q:δ[fi]?=some (gx fi num aV (.d 7) ip args k sort ex))(p:δ[fi+1]?=some (.a L))(t:L.length<=700)(K:Nat){m:Prop}(b:∀j l,au Tb (K+17) 1327 [.d 148,.d 8,.d (fi+182),.c (d:Int),.c 1] (HS σ δ)=some (.h true,HS j l)->ru σ δ Γ n 1 fi num aV args sort ex L j l->m):m:=
 Bh (K:=K) (mm:=2) 1 (.inr rfl) A I r q p t (.inl ⟨rfl,rfl⟩) (λcc len w s i=>λC G D ix o g a H e B x u E y z J b=>b 2 (aC _) (.inl ⟨(by
  rcases s with⟨_,h⟩|⟨h,_⟩
  ·exact h▸(λe=>by cases e)
  ·replace i:=h▸i;cases i),rfl⟩)) b
theorem xG(A:Gp σ δ n d fi num fs)(I:Inv σ Γ n)(x:σ.u=[])(U:δ[fi]?=some (gx fi num aV (.d 7) ip args k sort ex))(T:δ[fi+1]?=some (.a L))(Y:L.length<=700)(W:n<=19000)(N:fs.length<=70)(Z:σ.a.length<=700)(K:Nat){q:Prop}(i:∀r C,au Tb (K+18) 1327 [.d 148,.d 8,.d (fi+182),.c (d:Int),.c 0] (HS σ δ)=some (.h true,HS r C)->ru σ δ Γ n 8 fi num aV args sort ex L r C->q):q:=
 Bh (K:=K+1) (mm:=102) 0 (.inl rfl) A I x U T Y (.inr ⟨rfl,rfl⟩) (λcc len D p m=>λdT dq n2 ix P g a NT e hx H u R l Q q i=>by
  obtain⟨y,w⟩:∃y:Nat,cc.b=(y:Int):=by
   rcases p with⟨h,_⟩|⟨_,h⟩
   ·replace m:=h▸m;cases m
   ·exact h
  by_cases j:ix=y
  ·refine i 102 (aC _) (.inr ⟨w▸j▸rfl,rfl,λqm mO S M O z4 s X t J i=>?_⟩)
   refine lu ((u.f S).o) λV E G _=>?_
   exact LZ ⟨O,s▸Q,s▸(bN [_,_] V0.B 800 (.o V0.A 700 (.o V0.B (V0.A+42) .z)) rfl Z R),bN [_,_] V0.B 80 (.o V0.A 70 (.o V0.B (V0.A+2) .z)) rfl N l,aD H (eK (aM W _)),Zy D,cJ t,V▸A.b,E▸A.e⟩ M (G▸x) X t (b7 _) K i
  ·exact i 2 (by decide) (.inl ⟨w▸(Zx j),rfl⟩)) i
end
end
section
section
variable{K n fi stk k m b:Nat}{σ:St}{δ:List MO}{Γ:Cf}{num ip sort ex ad code mid:Int}{x y bd args:MV}{fs:List (Int×Nat)}{p q:Int}
noncomputable abbrev St.W(σ:St)(code mid ip:Int):St:=(σ.aj [.e [.c code,.c mid,.c ip]]).ao 3
theorem VL(cl:Call)(σ:St)(δ:List MO)(v:MV)(h:σ.G=[]):dj cl (HS σ δ) (.d 162) [v] .a=some (.f,HS (σ.aj [v]) δ):=by
 have:=gH (cl:=cl) (v:=v) (n:=162) (μ:=HS σ δ) (l:=[]) (by rw[<-h];kernel_rfl) (b7 _)
 rw[this];kernel_rfl
theorem adj(cl:Call)(σ:St)(δ:List MO)(v:MV)(h:σ.H=[]):dj cl (HS σ δ) (.d 163) [v] .a=some (.f,HS (σ.V [v]) δ):=by
 have:=gH (cl:=cl) (v:=v) (n:=163) (μ:=HS σ δ) (l:=[]) (by rw[<-h];kernel_rfl) (b7 _)
 rw[this];kernel_rfl
theorem aew(σ:St)(δ:List MO)(m:Int):ot Tb (HS σ δ) (.d 148) 104 (.c m)=some (HS (σ.ao m) δ):=⋯
theorem UG(σ:St)(δ:List MO)(h:σ.O=0):iw Tb (HS σ δ) (.d 148) 104=some (.c 0):=by rw[<-h];kernel_rfl
theorem K1(F:FS σ (ar fs (num,fi)))(h:σ.O=0)(g:σ.G=[])(a:δ[fi]?=some (gx fi num (.e [x,.c mid,y]) bd ip args stk sort ex))(code:Int)(K:Nat):au Tb (K+2) 692 [.d 148,.c code] (HS σ δ)=some (.c (-2),HS (σ.W code mid ip) δ):=by
 have f:=pe F δ
 exact bw [(0,ow (bw [(0,ov (UG σ δ h)),(4,ov f),(5,oq ((zM (x:=fs.length+1) (y:=0) (decide_eq_true QF)) (HS σ δ))),(9,ov f),(11,ov (Aj F δ)),(12,ov (ed σ a 108 (MV.e [x,MV.c mid,y]) ⋯)),(14,ov (ed σ a 127 (MV.c ip) ⋯)),(18,ow ((λcl=>VL cl σ δ (.e [.c code,.c mid,.c ip]) g) (au Tb K))),(19,oh (aew (σ.aj [.e [.c code,.c mid,.c ip]]) δ 3))] ⋯:au Tb (K+1) 865 [.d 148,.c code] (HS σ δ)=some (.c (-2),HS (σ.W code mid ip) δ)))] ⋯
theorem NS(f:σ.O=0)(a:σ.H=[])(δ:List MO)(K:Nat):au Tb (K+3) 1164 [.d 148] (HS σ δ)=some (.c (-2),HS (σ.V [.c 21]) δ):=by
 have e:∀t,au Tb (K+2) 706 [.d 148,.c 21,t] (HS σ δ)=some (.c (-2),HS (σ.V [.c 21]) δ):=λt=>by
  have e:au Tb (K+1) 795 [.d 148,.c 21] (HS σ δ)=some (.c (-2),HS (σ.V [.c 21]) δ):=bw [(0,ov (UG σ δ f)),(5,ow ((λcl=>adj cl σ δ (.c 21) a) (au Tb K)))] ⋯
  exact bw [(0,ow e)] ⋯
 exact bw [(1,ow (e (.g [79,98,106,101,99,116,32,114,101,102,101,114,101,110,99,101,32,110,111,116,32,115,101,116,32,116,111,32,97,110,32,105,110,115,116,97,110,99,101,32,111,102,32,97,110,32,111,98,106,101,99,116,46])))] ⋯
theorem tR{o:Nat}(H:iQ σ n)(j:cV σ.B (.c ad)=some (.d o))(i:iw Tb (HS σ δ) (.d o) 62=some (.c (m:Int)))(hm:m≠k)(g:k≠12)(K:Nat)(s:au Tb (K+3) 202 [.d 11,.c (k:Int)] (HS σ δ)=some (.h true,HS σ δ)):
  au Tb (K+4) 1213 [.d 148,.e [.c 4,.c ad],.c (k:Int)] (HS σ δ)=some (.h false,HS σ δ):=by
 have f:=oj (m:=k) (c:=12) g
 have l:∀μ,ct μ .a (.c (m:Int)) (.c (k:Int))=some false:=λμ=>nE hm
 exact bw [(4,oq ((tn (H.r j)) (HS σ δ))),(6,oq (f (HS σ δ))),(9,ow s),(16,ow ((λcl=>Dm cl H δ j) (au Tb (K+3)))),(19,ov i),(20,oq (l (HS σ δ))),(23,ov i),(24,ow (bw [(0,oq (l (HS σ δ))),(2,oq (f (HS σ δ)))] ⋯:au Tb (K+3) 615 [.d 148,.c (m:Int),.c (k:Int)] (HS σ δ)=some (.h false,HS σ δ)))] ⋯
theorem U_(K:Nat)(σ:St)(δ:List MO):au Tb (K+3) 202 [.d 11,.c ((13:Nat):Int)] (HS σ δ)=some (.h true,HS σ δ):=bw [] ⋯
theorem Va(a:σ.R.length<=100000)(K:Nat)(δ:List MO):au Tb (K+3) 202 [.d 11,.c ((18:Nat):Int)] (HS σ δ)=some (.h true,HS σ δ):=bw [(7,ow ((Cc (m:=18) a (Kh σ.R)) (K+1) σ δ ⋯))] ⋯
theorem acv{s:Int}{t:Nat}{w:MV}(g:σ.R.length<=100000)(h:i3 σ.R k s t w)(f:s=2)(K:Nat)(δ:List MO):au Tb (K+3) 202 [.d 11,.c (k:Int)] (HS σ δ)=some (.h true,HS σ δ):=by
 subst f
 have e:=h.b
 exact bw [(0,oq ((oj (m:=k) (c:=12) (GR e)) (HS σ δ))),(2,oq ((oj (m:=k) (c:=13) (GF e)) (HS σ δ))),(4,oq ((oj (m:=k) (c:=14) (PD e)) (HS σ δ))),(7,ow ((Cc g h.a) (K+1) σ δ ⋯))] ⋯
end
end
section
inductive xk (R:List Row):CT->MV->Int->Prop
 |s:xk R (.b 115) (.e [.c 4,.c 16]) 5
 |k:xk R (.b 107) (.e [.c 4,.c 19]) 5
 |l (c:Nat) (h:c=108\/c=76):xk R (.b c) (.e [.c 1,.c 5]) 1
 |p (j:Nat):xk R (.b 112) (.e [.c 5,.c ((j+20:Nat):Int),.e [.e [.c 1,.c 1],.e [.c 1,.c 5]]]) 1
 |q (c j:Nat) (h:R[j]?=some (.d .c 8 false)) (hc:c≠117):xk R (.q c) (.e [.c 5,.c ((j+20:Nat):Int),.e [.e [.c 1,.c 1],.e [.c 1,.c 5]]]) 1
 |r (c:Nat):xk R (.r c) (.e [.c 2,.c 5]) 1
 |n (c:Nat) (h:c∈RR\/c=111):xk R (.b c) (.e [.c 2,.c 5]) 1
section
variable{K n m fi stk b c:Nat}{σ:St}{δ:List MO}{Γ:Cf}{num ip sort ex mid:Int}{x y bd args v:MV}{fs:List (Int×Nat)}{t:CT}{R:List Row}
theorem xk.a{R x:List Row}{w:Int}(h:xk R t v w):xk (R++x) t v w:=by
 cases h with
 |s=>exact .s
 |k=>exact .k
 |l c h=>exact .l c h
 |p j=>exact .p j
 |q c j h d=>exact .q c j (l7 h) d
 |r c=>exact .r c
 |n c h=>exact .n c h
theorem Cy{k:Nat}(g:dj (au Tb (K+5)) (HS σ δ) (.d 148) [.c (m:Int)] (.c 664)=some (.c (k:Int),HS σ δ))(f:au Tb (K+5) 378 [.d 11,v,.c (k:Int)] (HS σ δ)=some (.h false,HS σ δ)){σ':St}(a:au Tb (K+5) 692 [.d 148,.c 1] (HS σ δ)=some (.c (-2),HS σ' δ)):
 au Tb (K+6) 879 [.d 148,.c (m:Int),v] (HS σ δ)=some (.e [.c 0,.c 0],HS σ' δ):=bw [(1,ow g),(3,ow f),(7,ow a)] ⋯
theorem Vw{R:List Row}(W:KW R){i j:Nat}{o:Bool}(h:R[i]?=some (.d .c 8 false))(g:R[j]?=some (.d .c b o))(hb:b≠8):i≠j:=by
 rintro rfl
 replace g:=h▸g;cases g;exact hb rfl
theorem Nx{w:Int}(G:σ.R.length<=100000)(W:KW σ.R)(g:cj σ.R 0 m t)(h:xk σ.R t v w)(J:w=1)(L:t.f≠84){σ':St}(D:au Tb (K+5) 692 [.d 148,.c 1] (HS σ δ)=some (.c (-2),HS σ' δ)):
  au Tb (K+6) 879 [.d 148,.c (m:Int),v] (HS σ δ)=some (.e [.c 0,.c 0],HS σ' δ):=by
 have lo:∀k:Nat,m=k->k≠17->au Tb (K+5) 378 [.d 11,v,.c (k:Int)] (HS σ δ)=some (.h false,HS σ δ)->au Tb (K+6) 879 [.d 148,.c (m:Int),v] (HS σ δ)=some (.e [.c 0,.c 0],HS σ' δ):=λk e I h=>by
  refine fJ e ?_;exact Cy (pY (K:=K+4) I) h D
 cases h with
 |s=>cases J
 |k=>cases J
 |l c h=>
  rcases h with rfl|rfl
  ·exact lo 9 g (by decide) (nH ⋯)
  ·exact lo 10 g (by decide) (nH ⋯)
 |p j=>
  refine lo 16 g (by decide) ?_
  exact bw [(0,ow (mE (K:=K+2) (a:=jq σ) (R:=σ.R) (z:=gj σ++δ) (m:=16) (s:=3) (l:=[.c 69,.e []]) (by rw[aJ (by simp[bR])];rfl) Pb G (.inr (.inl ⟨rfl,rfl⟩)))),(7,oq ((oj (m:=j+20) (c:=16) λu=>bZ [_] (.e (V0.A+20) 16 .z) rfl u) (HS σ δ)))] ⋯
 |q c j h O=>
  obtain⟨C,i,rfl,E⟩:=g
  have F:=L
  have M:=Vw W h E (by
   intro e
   have:=wj (v:=0) C F
   revert e
   unfold bC at C
   rw[show aT c 84=false from by cases q:aT c 84 with|false=>rfl|true=>exact absurd (aK q) F,rk] at C
   obtain⟨z,hz⟩:=dU.mp C
   have N:kd 0 c=z:=by unfold kd;rw[show aT c 84=false from by cases q:aT c 84 with|false=>rfl|true=>exact absurd (aK q) F,hz];rfl
   rw[N]
   rintro rfl
   exact O (by
    have:=aQ.mp (by kernel_rfl:(rR.all λp=> !aT p.2 8||aT p.1 117)=true) _ (j8 hz)
    exact aK this))
  refine lo (i+20) rfl xm ?_
  exact bw [(0,ow (mE (K:=K+2) (a:=jq σ) (R:=σ.R) (z:=gj σ++δ) (m:=i+20) (gh E) uQ G (.inr (.inl ⟨rfl,rfl⟩)))),(7,oq ((λμ=>nE ((bL M).elim (λH=>λu=>bZ [_,_] (.o (V0.A+1) V0.B (.f (V0.B+20) (V0.A+20) .z)) rfl H u) λH=>λu=>bZ [_,_] (.o (V0.B+1) V0.A (.e (V0.A+20) (V0.B+20) .z)) rfl H u):∀μ,ct μ .a (.c ((j+20:Nat):Int)) (.c ((i+20:Nat):Int))=some false) (HS σ δ)))] ⋯
 |r c=>
  obtain⟨C,i,rfl,E⟩:=g
  refine lo (i+20) rfl xm ?_
  exact bw [(0,ow (mE (K:=K+2) (a:=jq σ) (R:=σ.R) (z:=gj σ++δ) (m:=i+20) (gh E) uQ G (.inr (.inr (.inl ⟨rfl,rfl⟩)))))] ⋯
 |n c h=>
  rcases h with h|rfl
  ·exact KC (P:=λc=>m=kd 0 c->_) h (λe=>lo 1 e (by decide) (nH ⋯)) (λe=>lo 2 e (by decide) (nH ⋯)) (λe=>lo 3 e (by decide) (nH ⋯)) (λe=>lo 4 e (by decide) (nH ⋯)) (λe=>lo 5 e (by decide) (nH ⋯)) (λe=>lo 6 e (by decide) (nH ⋯)) (λe=>lo 7 e (by decide) (nH ⋯)) (λe=>lo 8 e (by decide) (nH ⋯)) (λe=>lo 11 e (by decide) (nH ⋯))
    (λe=>e▸Cy (k:=5) (nH ⋯:au Tb (K+5) 664 [.d 148,.c ((17:Nat):Int)] (HS σ δ)=some (.c ((5:Nat):Int),HS σ δ)) (nH ⋯) D) g
  ·exact lo 12 g (by decide) (nH ⋯)
end
end
section
section
variable{body:Loc->Hp->Ex}{store:MV->Loc->Hp->Option (Loc×Hp)}{all:List MV}{p:Nat}{r:MV}{Q:Hp->Prop}{Ω:Prop}
theorem xR(P:Nat->Loc->Hp->Prop)(F:p<all.length)
  (step:∀k v ρ μ (Ω:Prop),k<p->all[k]?=some v->P k ρ μ->(∀bu bF u j,store v ρ μ=some (bu,bF)->body bu bF=some (.a,u,j)->P (k+1) u j->Ω)->Ω)
  (m:∀v ρ μ (Ω:Prop),all[p]?=some v->P p ρ μ->(∀bu bF u j,store v ρ μ=some (bu,bF)->body bu bF=some (.b r,u,j)->Q j->Ω)->Ω):
  ∀(x:List MV) (k:Nat) (ρ:Loc) (μ:Hp),all.drop k=x->k<=p->P k ρ μ->(∀ρ' C,qG body store x ρ μ=some (.b r,ρ',C)->Q C->Ω)->Ω
 |[],_,_,_,h,hk,_,_=>absurd (kg.mp h) (Wg (jd hk F))
 |v::rs,k,ρ,μ,h,hk,q,ω=>sY h λG M=>by
  by_cases e:k=p
  ·cases e
   exact m v ρ μ _ G q λJ J u j D E p2=>ω u j ((j_ D).trans (oxR E)) p2
  ·exact step k v ρ μ _ ((bL e).elim (λy=>gz [_,_] V0.A V0.B (.o (V0.A+1) V0.B .z) rfl y) λy=>cL λL=>bZ [_,_] (.o V0.A V0.B (.o (V0.B+1) V0.A .z)) rfl hk y) G q λJ J u j D E p2=>xR P F step m rs (k+1) u j M ((bL e).elim (λy=>bN [_,_] (V0.A+1) V0.B (.o (V0.A+1) V0.B .z) rfl y) λy=>aP λL=>bZ [_,_] (.o V0.A V0.B (.o (V0.B+1) V0.A .z)) rfl hk y) p2 λρ' C I H=>ω ρ' C ((j_ D).trans ((NW E).trans I)) H
variable{T:Tab}{cl:Call}{fuel n:Nat}{t:MT}{e:ME}{b:List MS}{ρ:Loc}{μ bF:Hp}
theorem rE(P:Nat->Loc->Hp->Prop)(B:aO T cl e ρ μ=some (.c (n:Int),bF))(E:n<=1000)(z:p<n)(q:P 0 ρ bF)
  (step:∀k ρ μ (Ω:Prop),k<p->P k ρ μ->(∀bu bF x o,eY T cl t (.c (k:Int)) ρ μ=some (bu,bF)->aY T cl fuel b bu bF=some (.a,x,o)->P (k+1) x o->Ω)->Ω)
  (j:∀ρ μ (Ω:Prop),P p ρ μ->(∀bu bF x o,eY T cl t (.c (p:Int)) ρ μ=some (bu,bF)->aY T cl fuel b bu bF=some (.b r,x,o)->Q o->Ω)->Ω)
  (m:∀ρ' u,bQ T cl fuel (.g t (.a e) b) ρ μ=some (.b r,ρ',u)->Q u->Ω):Ω:=
 xR (r:=r) (p:=p) (all:=yW (n:Int)) P (by rw[sz];exact z) (λk v ρ μ Ω A y q m=>by
  obtain⟨_,rfl⟩:=p7 (n:=n) y
  exact step k ρ μ Ω A q m) (λv ρ μ Ω y q m=>by
  obtain⟨_,rfl⟩:=p7 (n:=n) y
  exact j ρ μ Ω q m) _ 0 ρ bF rfl (b7 _) q λρ' u D C=>m ρ' u ((j_ B).trans ((j7 (AX E)).trans D)) C
end
section
variable{K n t b c d i l ai f dk g h vi p:Nat}{s:Int}{σ σ':St}{δ jI:List MO}{vs ws:List MV}{ta w aV:MV}{Γ:Cf}{ad kk num:Int}{ks:List Nat}{ts:List CT}
noncomputable abbrev ctR(aV:MV)(ks:List Nat)(vi o:Nat):Loc:=[(103,.d 148),(108,aV),(220,.d (vi+182)),(160,.e (cB ks)),(56,.d (o+182))]
noncomputable abbrev Ur(aV:MV)(ks:List Nat)(vi o:Nat)(x y:MV):Loc:=[(103,.d 148),(108,aV),(220,.d (vi+182)),(160,.e (cB ks)),(56,.d (o+182)),(182,x),(91,y)]
theorem Jq(σ:St)(δ:List MO)(a:ks.length<=3):mw (HS σ δ) (.e (cB ks))=some (.c ((ks.length:Nat):Int)):=by
 show gd ((cB ks).length<=bA) (some (MV.c ((cB ks).length:Nat)))=_
 rw[j7 (by unfold cB bA;simp;exact Pa a)];unfold cB;simp
theorem HV(X:σ.R.length<=100000)(N:δ[vi]?=some (.a vs))(u:ks.length<=3)(B:ws.length=ks.length)(A:p<ks.length)
  (W:∀j,j<p->Ar5 σ.R ks vs ws j)
  {kk:Nat} {v:MV} (J:ks[p]?=some kk) (I:vs[p]?=some v) (H:∀o,Gw δ o->au Tb (K+6) 879 [.d 148,.c ((kk:Nat):Int),v] (HS σ o)=some (.e [.c 0,.c 0],HS σ' o)) {Ω:Prop} (C:∀ρ' o,bQ Tb (au Tb (K+6)) (K+6) (fH Rl 2) (ctR aV ks vi δ.length) (HS σ (ar δ (.a [])))=some (.b .f,ρ',HS σ' o)->Gw δ o->Ω):Ω:=by
 refine rE (r:= .f) (T:=Tb) (cl:=au Tb (K+6)) (fuel:=K+6) (n:=ks.length) (p:=p) (t:= .b 182) (e:= .p (.d 160)) (b:=[.f (.b 91) (.j 879 [.d 103,.h (.d 160) (.d 182),.h (.d 220) (.d 182)]),.m (.q .a (.d 91) (.g (.e [.c 0,.c 0]))) [.p (.g .f)] [],.d (.n (.d 56) 0 [.d 91])])
  (ρ:=ctR aV ks vi δ.length) (μ:=HS σ (ar δ (.a []))) (bF:=HS σ (ar δ (.a []))) (Q:=λO=>∃o,O=HS σ' o/\Gw δ o)
  (λk ρ μ=>(ρ=ctR aV ks vi δ.length\/∃x y,ρ=Ur aV ks vi δ.length x y)/\μ=HS σ (ar δ (.a (ws.take k))))
  (oi [(0,ov (Jq σ (ar δ (.a [])) u))] ⋯) (GS u B) A ⟨.inl rfl,rfl⟩ (λk ρ μ Ω G q C=>?_) (λρ μ Ω q C=>?_) λρ' O e q=>?_
 ·obtain⟨t,kk,v,w,J,I,V,U,H⟩:=W k G
  have S:=lV V
  have D:=rD (HS σ (ar δ (.a (ws.take k)))) (l:=cB ks) (k:=k) (v:= .c (kk:Int)) (by unfold cB;rw[aL,J];rfl) (Z8 u B A G)
  have F:=jZ σ (fV (.a (ws.take k)) N) I (Z7 u B A G)
  have E:=q_ (σ:=σ) (δ:=ar δ (.a (ws.take k))) (K:=K) X U H
  have P:=H.z
  have L:=ky (au Tb (K+6)) σ (h9 δ (.a (ws.take k)) δ.length rfl) w (bx (by simp;unfold bA;exact Z9 u B A G))
  rw[dK,<-S] at L
  have M:=h9 δ (.a (ws.take k)) δ.length rfl
  obtain⟨p1,rfl⟩:=q
  refine C _ (HS σ (ar δ (.a (ws.take k)))) (Ur aV ks vi δ.length (.c (k:Int)) w) (HS σ (ar δ (.a (ws.take (k+1))))) rfl ?_ ⟨.inr ⟨_,_,rfl⟩,rfl⟩
  rcases p1 with rfl|⟨x,y,rfl⟩
  ·exact eD [(0,ov D),(1,ov F),(2,ow E),(3,oq (P (HS σ (ar δ (MO.a (hY k ws)))))),(5,oc (jF σ M)),(6,ow L)] ⋯
  ·exact eD [(0,ov D),(1,ov F),(2,ow E),(3,oq (P (HS σ (ar δ (MO.a (hY k ws)))))),(5,oc (jF σ M)),(6,ow L)] ⋯
 ·have D:=rD (HS σ (ar δ (.a (ws.take p)))) (l:=cB ks) (k:=p) (v:= .c (kk:Int)) (by unfold cB;rw[aL,J];rfl) (PE u B A)
  have F:=jZ σ (fV (.a (ws.take p)) N) I (Z6 u B A)
  have E:=H (ar δ (.a (ws.take p))) (Gw.d _ _)
  obtain⟨p1,rfl⟩:=q
  refine C _ (HS σ (ar δ (.a (ws.take p)))) (Ur aV ks vi δ.length (.c (p:Int)) (.e [.c 0,.c 0])) (HS σ' (ar δ (.a (ws.take p)))) rfl ?_ ⟨_,rfl,Gw.d _ _⟩
  rcases p1 with rfl|⟨x,y,rfl⟩
  ·exact eD [(0,ov D),(1,ov F),(2,ow E)] ⋯
  ·exact eD [(0,ov D),(1,ov F),(2,ow E)] ⋯
 ·obtain⟨o,rfl,w⟩:=q
  exact C ρ' o e w
end
end
section
section
variable{K n t b c d i l ai f dk g h vi p:Nat}{s:Int}{σ dT dI:St}{δ dq:List MO}{vs ws:List MV}{ta w fo:MV}{Γ:Cf}{ad kk num:Int}{ks:List Nat}{ts:List CT}
noncomputable abbrev alR(aV x3:MV)(ks:List Nat)(vi:Nat):Loc:=[(103,.d 148),(108,aV),(218,x3),(28,.d (vi+182)),(160,.e (cB ks)),(226,.c 1)]
noncomputable abbrev Sj(aV x3:MV)(ks:List Nat)(vi:Nat)(x:MV):Loc:=[(103,.d 148),(108,aV),(218,x3),(28,.d (vi+182)),(160,.e (cB ks)),(226,.c 1),(182,x)]
theorem HG{aV x3:MV}(I:Inv σ Γ n)(W:n<=70000)(M:δ[vi]?=some (.a (w::ws)))(u:ks.length<=3)(F:p<ks.length)
  (V:∀j,j<p->Ar6 σ.R ks ws j)
  {kk:Nat} {v:MV} (L:ks[p]?=some kk) (O:ws[p]?=some v) (E:au Tb (K+4) 1213 [.d 148,v,.c ((kk:Nat):Int)] (HS σ δ)=some (.h false,HS σ δ)) {H:Prop} (y:∀ρ',bQ Tb (au Tb (K+4)) (K+4) (fH Rm 3) (alR aV x3 ks vi) (HS σ δ)=some (.b (.h false),ρ',HS σ δ)->H):H:=by
 refine rE (r:= .h false) (T:=Tb) (cl:=au Tb (K+4)) (fuel:=K+4) (n:=ks.length) (p:=p) (t:= .b 182) (e:= .p (.d 160)) (b:=[.m (.C (.j 1213 [.d 103,.h (.d 28) (.r .a (.d 226) (.d 182)),.h (.d 160) (.d 182)])) [.p (.g (.h false))] []])
  (ρ:=alR aV x3 ks vi) (μ:=HS σ δ) (bF:=HS σ δ) (Q:=λN=>N=HS σ δ)
  (λk ρ μ=>(ρ=alR aV x3 ks vi\/∃x,ρ=Sj aV x3 ks vi x)/\μ=HS σ δ)
  (oi [(0,ov (Jq σ δ u))] ⋯) (jX u) F ⟨.inl rfl,rfl⟩ (λk ρ μ H J q y=>?_) (λρ μ H q y=>?_) λρ' N e q=>?_
 ·obtain⟨t,kk,v,Y,L,U,P,S,X⟩:=V k J
  have D:=rD (HS σ δ) (l:=cB ks) (k:=k) (v:= .c (kk:Int)) (by unfold cB;rw[aL,L];rfl) (bN [_,_,_] V0.C 1000 (.o V0.A 3 (.o (V0.B+1) V0.A (.o (V0.C+1) V0.B .z))) rfl u F J)
  have G:=(show(1:Int)+(k:Int)=((k+1:Nat):Int) from A6)▸(jZ σ M U (gz [_,_,_] (V0.C+1) 100000 (.o V0.A 3 (.o (V0.B+1) V0.A (.o (V0.C+1) V0.B .z))) rfl u F J))
  have E:=Di (δ:=δ) I (by have:=I.r;exact xu W this) P S X K
  obtain⟨p1,rfl⟩:=q
  refine y _ (HS σ δ) (Sj aV x3 ks vi (.c (k:Int))) (HS σ δ) rfl ?_ ⟨.inr ⟨_,rfl⟩,rfl⟩
  rcases p1 with rfl|⟨x,rfl⟩
  ·exact eD [(1,ov G),(2,ov D),(3,ow E)] ⋯
  ·exact eD [(1,ov G),(2,ov D),(3,ow E)] ⋯
 ·have D:=rD (HS σ δ) (l:=cB ks) (k:=p) (v:= .c (kk:Int)) (by unfold cB;rw[aL,L];rfl) (bN [_,_] V0.B 1000 (.o V0.A 3 (.o (V0.B+1) V0.A .z)) rfl u F)
  have G:=(show(1:Int)+(p:Int)=((p+1:Nat):Int) from A6)▸(jZ σ M O (gz [_,_] (V0.B+1) 100000 (.o V0.A 3 (.o (V0.B+1) V0.A .z)) rfl u F))
  obtain⟨p1,rfl⟩:=q
  refine y _ (HS σ δ) (Sj aV x3 ks vi (.c (p:Int))) (HS σ δ) rfl ?_ rfl
  rcases p1 with rfl|⟨x,rfl⟩
  ·exact eD [(1,ov G),(2,ov D),(3,ow E)] ⋯
  ·exact eD [(1,ov G),(2,ov D),(3,ow E)] ⋯
 ·subst q
  exact y ρ' e
theorem LO{o:Prop}(I:Inv σ Γ n)(z:n<=60000)(x:d<2)(A:bC l=true)(M:l≠84)(H:kO σ.R d l dk)(L:p<(Γ.T d).length)(E:δ[vi]?=some (.a (w::ws)))
  (B:∀R' ks,dM σ.R R' 4->ij (λk t=>cj R' (Γ.v 0) k t) ks ((Γ.T d).map (CT.e l))->∀j,j<p->Ar6 R' ks ws j)
  (N:∀R' ks m,dM σ.R R' 4->ij (λk t=>cj R' (Γ.v 0) k t) ks ((Γ.T d).map (CT.e l))->∀{o:Prop},(∀k v,ks[p]?=some k->ws[p]?=some v->au Tb (K+12) 1213 [.d 148,v,.c ((k:Nat):Int)] (HS (σ.r R') m)=some (.h false,HS (σ.r R') m)->o)->o)
  (F:∀R' m,dM σ.R R' 4->Gw δ m->au Tb (K+12) 1213 [.d 148,w,.c (dk:Int)] (HS (σ.r R') m)=some (.h true,HS (σ.r R') m)) (C:∀R' m,(au Tb (K+13) 1220 [.d 148,jO dk d,.d (hU (b0 d 0)),.d (vi+182)] (HS σ δ)=some (.h false,HS (σ.r R') m))->(dM σ.R R' 4)->(Gw δ m)->o):o:=by
 refine pV I (xv z) x A M H K δ λR' kr ks y J u G=>?_
 have lk:ks.length=(Γ.T d).length:=by have:=u.e;rw[ay] at this;exact this
 have q:=cg y E
 refine N R' ks (cW δ y) G u λk v x1 x2 x3=>?_
 refine HG (K:=K+8) (σ:=σ.r R') (δ:=cW δ y) (vi:=vi) (p:=p) (aV:=jO dk d) (x3:= .d (hU (b0 d 0))) (I.D G) (PO z) q (QG (I.a.a d) lk) (G8 L lk) (B R' ks G u) x1 x2 x3 λρ' e=>?_
 refine C R' (cW δ y) ?_ G (Gw.k _ _)
 exact bw [(1,ow J),(3,ow (tJ (σ:=σ.r R') (δ:=cW δ y) x (K+11))),(6,ov (hK (σ.r R') q 0 w ⋯)),(8,ow (F R' (cW δ y) G (Gw.k _ _))),(11,os e)] ⋯
theorem Gz{m:Prop}(I:Inv σ Γ n)(B:n<=60000)(j:d<2)(o:bC l=true)(A:l≠84)(x:kO σ.R d l dk)(u:δ[vi]?=some (.a (w::ws)))
  (v:∀R' e,dM σ.R R' 4->Gw δ e->au Tb (K+12) 1213 [.d 148,w,.c (dk:Int)] (HS (σ.r R') e)=some (.h false,HS (σ.r R') e)) (q:∀R' e,(au Tb (K+13) 1220 [.d 148,jO dk d,.d (hU (b0 d 0)),.d (vi+182)] (HS σ δ)=some (.h false,HS (σ.r R') e))->(dM σ.R R' 4)->(Gw δ e)->m):m:=by
 refine pV I (xv B) j o A x K δ λR' kr ks y z C G=>?_
 refine q R' (cW δ y) ?_ G (Gw.k _ _)
 exact bw [(1,ow z),(3,ow (tJ (σ:=σ.r R') (δ:=cW δ y) j (K+11))),(6,ov (hK (σ.r R') (cg y u) 0 w ⋯)),(8,ow (v R' (cW δ y) G (Gw.k _ _)))] ⋯
theorem Ii(a:d<2)(j:au Tb (K+13) 1220 [.d 148,jO dk d,.d (hU (b0 d 0)),.d (vi+182)] (HS σ δ)=some (.h false,HS dT dq))(e:au Tb (K+13) 692 [.d 148,.c 5] (HS dT dq)=some (.c (-2),HS dI dq)):
 au Tb (K+14) 1206 [.d 148,fo,jO dk d,.d (hU (b0 d 0)),.d (vi+182)] (HS σ δ)=some (.c (-2),HS dI dq):=bw [(0,ov (JC σ δ a)),(3,ow j),(7,ow e)] ⋯
theorem Mm{u:Prop}(I:Inv σ Γ n)(D:n<=60000)(k:d<2)(v:bC l=true)(C:l≠84)(y:kO σ.R d l dk)(A:fE σ.R ((Γ.T d).map (CT.e l)) vs ws)(q:δ[vi]?=some (.a (cb::ws)))(B:σ.O=0)(z:σ.H=[])(x:∀R' j,(dM σ.R R' 4)->(Gw δ j)->(au Tb (K+14) 1206 [.d 148,fo,jO dk d,.d (hU (b0 d 0)),.d (vi+182)] (HS σ δ)=some (.c (-2),HS ((σ.r R').V [.c 21]) j))->u):u:=by
 refine GB (K:=K) I D k v C y A q (λR' j J J=>nX (K+11)) λR' j m G o=>?_
 refine x R' j G o ?_
 exact bw [(0,ov (JC σ δ k)),(3,ow m),(6,ow (C3 (σ:=σ.r R') (δ:=j) k (K+11))),(8,ov (hK (σ.r R') (o.2 _ _ q) 0 (MV.e [MV.c 4,MV.c 0]) ⋯)),(11,ow (NS (σ:=σ.r R') B z j (K+10)))] ⋯
end
end
section
section
variable{K n t b c d i l ai f dk g h vi p fi stk:Nat}{s ip sort ex:Int}{σ dT dI:St}{δ dq:List MO}{vs ws bj:List MV}{w fo bd args aV mx my odd:MV}{Γ:Cf}{ad kk num word:Int}{ks:List Nat}{u:CT}{fs:List (Int×Nat)}
theorem zE{M:Prop}(I:Inv σ Γ n)(L:n<=50000)(z:d<2)(B:bC l=true)(x:l≠84)(F:kO σ.R d l dk)(A:fE σ.R ((Γ.T d).map (CT.e l)) vs ws)
  (hf:δ[fi]?=some (gx fi num aV bd ip args stk sort ex)) (hs:δ[stk]?=some (.a (cW bj (cb::vs)))) (hj:bj.length<=3) (S:σ.O=0) (Y:σ.H=[]) (bJ:∀R' N,(dM σ.R R' 8)->(Fz (pw stk) δ N)->(au Tb (K+15) 1192 [.d 148,.d (fi+182),jO dk d,.c (bj.length:Nat)] (HS σ δ)=some (.c (-2),HS ((σ.r R').V [.c 21]) N))->M):M:=by
 refine se (K:=K) I L z B x F (by rw[A.m,ay]) (by rw[A.k,ay]) (λR' ks G P j hj=>by
  refine pd x A G P hj λt k v w C y E q4 Z J=>?_
  exact .mk t k v w C y E q4 Z) hf hs hj λR1 mO o q W C y E H=>?_
 refine Mm (K:=K) (σ:=σ.r R1) (δ:=mO) (fo:= .d (fi+182)) (vi:=o) (ws:=ws) (I.D q) (A9 L) z B x (iI q.c F) (nV q.c A) y S Y λX Q G2 U e=>?_
 exact bJ X Q ((q.f G2).e A8) (W.k U.f) (H _ _ e)
structure y5 (σ:St) (δ:List MO) (fi:Nat) (num ip:Int) (mx my bd args:MV) (stk:Nat) (sort ex:Int) (fs:List (Int×Nat)):Prop where
 F:FS σ (ar fs (num,fi))
 k:σ.O=0
 e:σ.G=[]
 a:δ[fi]?=some (gx fi num (.e [mx,.c 2,my]) bd ip args stk sort ex)
theorem y5.j(A:y5 σ δ fi num ip mx my bd args stk sort ex fs){m:List MO}{R':List Row}(w:Fz (pw stk) δ m)(q:fi≠stk)(code:Int)(K:Nat):au Tb (K+2) 692 [.d 148,.c code] (HS (σ.r R') m)=some (.c (-2),HS ((σ.r R').W code 2 ip) m):=
 K1 (σ:=σ.r R') (F:=A.F.o rfl rfl) A.k A.e (w.2 _ _ q A.a) code K
theorem zD(I:Inv σ Γ n)(hn:n<=50000)(Q:d<2)(dP:bC l=true)(cU:l≠84)(Z:kO σ.R d l dk)(A:fE σ.R ((Γ.T d).map (CT.e l)) vs ws)
  (B:y5 σ δ fi num ip mx my bd args stk sort ex fs) (hu:((Γ.T d).map (CT.e l))[p]?=some u) (V:u.f≠84) (ho:xk σ.R u odd word) (hw:word=1) (L:δ[stk]?=some (.a (cW bj (.e [.c 4,.c ad]::vs.set p odd)))) (hj:bj.length<=3) {Ω:Prop} (ω:∀R' aX,dM σ.R R' 8->Fz (pw stk) δ aX->au Tb (K+15) 1192 [.d 148,.d (fi+182),jO dk d,.c (bj.length:Nat)] (HS σ δ)=some (.c (-2),HS ((σ.r R').W word 2 ip) aX)->Ω):Ω:=by
 have Y:σ.R.length<=100000:=by have:=I.r;exact PK hn this
 have l3:=I.a.a d
 have q:((Γ.T d).map (CT.e l)).length=(Γ.T d).length:=ay ..
 have N:p<(Γ.T d).length:=by have:=(ax.mp hu).1;exact QH q this
 have D:=A.m
 have z:=A.k
 have O:=B.a
 have nf:fi≠stk:=by intro e;rw[e,L] at O;cases O
 refine b6 (vs.set p odd) λE P=>?_
 have C:E.length=vs.length:=by rw[P,fY]
 replace L:=P.symm▸L
 refine b6 (ar δ (.a [.e [.c 4,.c ad]])) λM ej=>?_
 refine b6 (ar M (.a E)) λdq X=>?_
 have S:Gw δ M:=by rw[ej];exact Gw.d _ _
 have w2:=X▸(S.e (Gw.d _ _))
 have ldr:(cW bj (.e [.c 4,.c ad]::E)).drop (bj.length+1)=E:=by unfold cW;simp
 refine pV I (PT hn) Q dP cU Z (K+1) dq λR' kr ks y m1 U G=>?_
 have lk:ks.length=(Γ.T d).length:=by have:=U.e;exact Z' q D z C this
 have H:(σ.r R').R.length<=100000:=by have t1:=G.p;have t2:=I.r;show R'.length<=_;exact TH hn Y t1 t2
 refine U.o hu λk vg qJ=>?_
 refine HV (K:=K+7) (σ:=σ.r R') (σ':=(σ.r R').W 1 2 ip) (δ:=cW dq y) (vi:=M.length) (aV:=jO dk d) (vs:=E) (ws:=ws) (v:=odd) H (cg y (X▸(h9 _ _ _ rfl))) (Y' l3 q D z C lk) (X' q D z C lk) (V' q N D z C lk) (λj F=>
   pd cU A G U ((U' q N D z C lk F):j<(Γ.T d).length) λt k v w q1 q2 q3 q4 q5 J=>
   .mk t k v w q1 (by rw[P,cX (sM F)];exact q2) q3 q4 q5) vg (by rw[P,cM (T' q N D z C lk)]) (λaX w=>by
   refine dG G.c λx hx=>?_
   refine cf (cY.mp (aU hu)) λu0 J z0=>?_
   subst z0
   exact Nx (K:=K+7) H G.r (qJ.p cU) (show xk R' _ _ _ by rw[hx];exact ho.a) hw V (B.j (((w2.e (Gw.k _ _)).e w).f) nf 1 (K+10))) λρ' h_ e w3=>?_
 subst hw
 refine ω R' h_ (G.e O') (((w2.e (Gw.k _ _)).e w3).f) ?_
 have j0:=fV (.a []) O
 have x0:=jZ σ (fV (.a []) L) (by unfold cW;simp:(cW bj (.e [.c 4,.c ad]::E))[bj.length]?=some (.e [.c 4,.c ad])) (PS hj)
 have ap:=λcl=>ky cl σ (h9 δ (.a []) δ.length rfl) (.e [.c 4,.c ad]) rfl
 rw[dK] at ap
 have sl:=pg (S.2 _ _ L) (GY (by unfold cW;simp;exact aaa hj l3 q N D z C)) (bj.length+1) (PR hj) σ
 rw[ldr,<-X,show((bj.length+1:Nat):Int)=(bj.length:Int)+1 from xq] at sl
 exact bw [(0,ow (C0 (δ:=δ) Y Q Z (.e []) (K+10))),(4,ow (tJ (σ:=σ) (δ:=ar δ (.a [])) Q (K+13))),(7,ov (ed σ j0 126 (MV.d (stk+182)) ⋯)),(8,ov x0),(9,ow (yy (σ:=σ) (δ:=ar δ (.a [])) Y Z (b0 d 0:Nat) (.e []) ad (K+11))),(12,oc (jF σ (h9 δ (.a []) δ.length rfl))),(13,ov (ed σ j0 126 (MV.d (stk+182)) ⋯)),(14,ov x0),(15,ow ((λcl=>ej▸(ap cl)) (au Tb (K+14)))),(17,ov (ed σ (S.2 _ _ O) 126 (MV.d (stk+182)) ⋯)),(18,ow sl),(19,ow (bw [(1,ow m1),(4,os e)] ⋯:au Tb (K+14) 1178 [.d 148,jO dk d,.d (M.length+182)] (HS σ dq)=some (.f,HS ((σ.r R').W 1 2 ip) h_)))] ⋯
end
end
section
section
variable{K n t b c d i l ai f dk g h vi p fi stk:Nat}{s ip sort ex:Int}{σ dT dI:St}{δ dq:List MO}{vs ws bj:List MV}{w fo bd args aV mx my odd:MV}{Γ:Cf}{ad kk num word:Int}{ks:List Nat}{u:CT}{fs:List (Int×Nat)}
theorem aek{R:List Row}(h:xk R u odd word)(j:word=5):u= .b 115/\odd= .e [.c 4,.c 16]\/u= .b 107/\odd= .e [.c 4,.c 19]:=by
 refine IW λm a=>?_
 cases h with
 |s=>refine a ?_;exact .inl ⟨rfl,rfl⟩
 |k=>refine a ?_;exact .inr ⟨rfl,rfl⟩
 |_=>cases j
theorem EF(I:Inv σ Γ n)(Y:n<=50000)(hd:d<2)(dP:bC l=true)(P:l≠84)(hr:kO σ.R d l dk)(A:fE σ.R ((Γ.T d).map (CT.e l)) vs ws)
  (B:y5 σ δ fi num ip mx my bd args stk sort ex fs) (X:((Γ.T d).map (CT.e l))[p]?=some u) (ho:xk σ.R u odd word) (hw:word=5) (hs:δ[stk]?=some (.a (cW bj (.e [.c 4,.c ad]::vs.set p odd)))) (hj:bj.length<=3)
  (hk:∀M,Fz (pw stk) δ M->fM σ M b ad dk) {Ω:Prop} (ω:∀R' M,dM σ.R R' 8->Fz (pw stk) δ M->au Tb (K+15) 1192 [.d 148,.d (fi+182),jO dk d,.c (bj.length:Nat)] (HS σ δ)=some (.c (-2),HS ((σ.r R').W word 2 ip) M)->Ω):Ω:=by
 have y:((Γ.T d).map (CT.e l)).length=(Γ.T d).length:=ay ..
 have lp:p<(Γ.T d).length:=by have:=(ax.mp X).1;exact QH y this
 have L:=A.m
 have E:=A.k
 have hf:=B.a
 have h5:=aek ho hw
 refine b6 (vs.set p odd) λxa V=>?_
 refine b6 (ws.set p odd) λz q=>?_
 have F:xa.length=vs.length:=by rw[V,fY]
 have Q:z.length=ws.length:=by rw[q,fY]
 rw[<-V] at hs
 refine se (K:=K) (vs:=xa) (ws:=z) I Y hd dP P hr (N' y L E F) (K' y L E F Q) (λR' ks G C j hj=>by
  by_cases e:j=p
  ·cases e
   refine C.o X λk vg x=>?_
   refine cf (cY.mp (aU X)) λu0 _ z0=>?_
   subst z0
   refine .mk _ k odd odd vg (by rw[V,cM (J' y L E F Q hj)]) (by rw[q,cM (C' y L E F Q hj)]) (x.p P) ?_
   rcases h5 with⟨h,rfl⟩|⟨h,rfl⟩
   ·exact h▸(.m 115 16 (.inl rfl))
   ·exact h▸(.m 107 19 (.inr (.inr rfl)))
  ·refine pd P A G C hj λt k v w S q2 U q4 q5 J=>?_
   exact .mk t k v w S (by rw[V,cX (QJ e)];exact q2) (by rw[q,cX (QJ e)];exact U) q4 q5) hf hs hj λR1 mO o Z F5 S q2 U H=>?_
 have WU:=iI Z.c hr
 have I1:=I.D Z
 refine LO (K:=K) (σ:=σ.r R1) (δ:=mO) (vi:=o) (ws:=z) (p:=p) I1 (A9 Y) hd dP P WU lp q2 (λR' ks G C j hj=>by
   refine pd P (nV Z.c A) G C ((aac y lp L E F Q hj):j<(Γ.T d).length) λt k v w S q2 U q4 q5 q6=>?_
   exact .mk t k v w S (by rw[q,cX (sM hj)];exact U) q4 q5 q6) (λR' ks M G C Ω ω=>by
   refine C.o X λk vg x=>?_
   have N:=I1.D G
   refine ω k odd vg (by rw[q,cM (aab y lp L E F Q)]) ?_
   rcases h5 with⟨rfl,rfl⟩|⟨rfl,rfl⟩
   ·have x:k=13:=x
    subst x
    exact tR (σ:=(σ.r R1).r R') (m:=18) N.j N.A ⋯ (by decide) (by decide) (K+8) (U_ _ _ _)
   ·have x:k=18:=x
    subst x
    exact tR (σ:=(σ.r R1).r R') (m:=13) N.j N.B ⋯ ((by decide)) ((by decide)) (K+8) (Va (by have:R'.length<=_:=N.r;exact QI Y this) _ _)) (I1.O ((eK (aM Y _))) WU (hk mO F5) K) λR2 D5 e G2 w6=>?_
 have Fe:=F5.k w6.f
 subst hw
 exact ω R2 D5 ((Z.f G2).e A8) Fe (H _ _ (Ii (K:=K) (fo:= .d (fi+182)) hd e (B.j (R':=R2) Fe (by intro e;rw[e,hs] at hf;cases hf) 5 (K+11))))
theorem zF{Ω:Prop}{Wx:Nat}(I:Inv σ Γ n)(L:n<=50000)(x:d<2)(Q:bC l=true)(F:l≠84)(E:kO σ.R d l dk)(A:fE σ.R ((Γ.T d).map (CT.e l)) vs ws)
  (B:y5 σ δ fi num ip mx my bd args stk sort ex fs) (hs:δ[stk]?=some (.a (cW bj (.e [.c 4,.c ad]::vs)))) (hj:bj.length<=3)
  (hk:∀q,Fz (pw stk) δ q->fM σ q b ad Wx) (sj:Wx≠dk) (bJ:∀R' q,(dM σ.R R' 8)->(Fz (pw stk) δ q)->(au Tb (K+15) 1192 [.d 148,.d (fi+182),jO dk d,.c (bj.length:Nat)] (HS σ δ)=some (.c (-2),HS ((σ.r R').W 5 2 ip) q))->Ω):Ω:=by
 have z:=B.a
 refine se (K:=K) I L x Q F E (by rw[A.m,ay]) (by rw[A.k,ay]) (λR' ks G y j hj=>by
  refine pd F A G y hj λt k v w V N Y q4 q5 J=>?_
  exact .mk t k v w V N Y q4 q5) z hs hj λC mO o M P V N Y H=>?_
 have Z:=iI M.c E
 have O:=I.D M
 refine Gz (K:=K) (σ:=σ.r C) (δ:=mO) (vi:=o) (ws:=ws) O (A9 L) x Q F Z N (λR' q G w=>by
  have X:=O.D G
  refine fM.a (fM.d (σ':=(σ.r C).r R') (S:=λJ=>False) (hk mO P) (λJ J h=>h) w.f λJ h=>h.elim) λo' h1 y=>?_
  exact tR (σ:=(σ.r C).r R') X.j h1 y sj (by have:=E.b;exact GR this) (K+8) (acv (by have:R'.length<=_:=X.r;exact QI L this) (iI (G).c Z) rfl _ _)) λU D5 e G2 w6=>?_
 have Fe:=P.k w6.f
 exact bJ U D5 ((M.f G2).e A8) Fe (H _ _ (Ii (K:=K) (fo:= .d (fi+182)) x e (B.j (R':=U) Fe (by intro e;rw[e,hs] at z;cases z) 5 (K+11))))
end
end
section
section
variable{K n c d l fi stk:Nat}{σ gL σ':St}{δ fN aX:List MO}{Γ:Cf}{u:CT}{R:List Row}
theorem Ju{c:Nat}(h:bC c=true)(a:c≠84):c=115\/c=107\/(c=108\/c=76)\/c=112\/(c∈RR\/c=111):=by
 rcases Cx h a with h|h|h|h|h|h|h
 ·exact .inr (.inr (.inr (.inr (.inl h))))
 ·exact .inr (.inr (.inl (.inl h)))
 ·exact .inr (.inr (.inl (.inr h)))
 ·exact .inl h
 ·exact .inr (.inr (.inr (.inr (.inr h))))
 ·exact .inr (.inl h)
 ·exact .inr (.inr (.inr (.inl h)))
theorem KQ{G:Prop}(I:Inv σ Γ n)(A:n<=80000)(w:bC u.f=true)(y:u.f≠84)(x:u≠ .q 117)(K:Nat)(δ:List MO)
  (k:∀R' odd g,au Tb (K+9) 1334 [.d 8,u.d] (HS σ δ)=some (.e [odd,.c g],HS (σ.r R') δ)->xk R' u odd g->(g=1\/g=5)->dM σ.R R' 1->G):G:=by
 refine IM (u:= .q 117) (v:=0) (c:=117) I (AZ A) (λJ=>nN σ.R 8 (by decide) (by decide) (by decide)) ⟨⋯,rfl⟩ λR' m o z t=>?_
 obtain⟨_,j,rfl,hj⟩:=z
 have o:=o K δ
 have i:=(dM.s I.a.r).e Sk
 cases u with
 |b c=>
  rcases Ju w y with h|h|h|h|h
  ·have h:=h
   subst h;exact k σ.R _ 5 (nH ⋯) .s (.inr rfl) i
  ·have h:=h
   subst h;exact k σ.R _ 5 (nH ⋯) .k (.inr rfl) i
  ·refine k σ.R (.e [.c 1,.c 5]) 1 ?_ (.l c h) (.inl rfl) i
   have h:=h
   rcases h with rfl|rfl<;>exact nH ⋯
  ·have h:=h
   subst h
   refine k R' _ 1 ?_ (.p j) (.inl rfl) t
   exact bw [(11,ow o)] ⋯
  ·refine k σ.R (.e [.c 2,.c 5]) 1 ?_ (.n c h) (.inl rfl) i
   have h:=h
   rcases h with h|rfl
   ·refine KC (P:=λc=>au Tb (K+9) 1334 [.d 8,(CT.b c).d] (HS σ δ)=some (.e [.e [.c 2,.c 5],.c 1],HS (σ.r σ.R) δ)) h ?_ ?_ ?_ ?_ ?_ ?_ ?_ ?_ ?_ ?_<;>exact nH ⋯
   ·exact nH ⋯
 |r c=>exact k σ.R _ 1 (nH ⋯) (.r c) (.inl rfl) i
 |q c=>
  refine k R' _ 1 ?_ (.q c j hj λe=>x (e▸rfl)) (.inl rfl) t
  exact bw [(13,ow o)] ⋯
structure Go (fi:Nat) (gL σ:St) (fN δ:List MO):Prop where
 p:∀k v,cV gL.B k=some v->cV σ.B k=some v
 r:∃x,σ.R=gL.R++x
 j:Fz (uV fi (fi+1)) fN δ
theorem Go.o(fi:Nat)(σ:St)(δ:List MO):Go fi σ σ δ δ:=⟨λJ J h=>h,⟨[],(d8 _).symm⟩,(Gw.p _).f⟩
theorem Go.f{S:Nat->Prop}(h:Go fi gL σ fN δ)(A:∀k v,cV σ.B k=some v->cV σ'.B k=some v)(b:∃x,σ'.R=σ.R++x)(z:Fz S δ aX)(t:∀i,S i->i=fi\/i=fi+1\/fN.length<=i):Go fi gL σ' fN aX:=by
 obtain⟨x,w⟩:=h.r
 obtain⟨y,g⟩:=b
 refine⟨λk v q=>A _ _ (h.p _ _ q),⟨x++y,by rw[g,w,cC]⟩,aD h.j.1 z.1,λi v n q=>z.2 i v (λs=>?_) (h.j.2 i v n q)⟩
 rcases t i s with e|e|e
 ·exact n (.inl e)
 ·exact n (.inr e)
 ·have:=cJ q;exact sN e this
theorem Go.m(h:Go fi gL σ fN δ)(u:Up σ σ'){S:Nat->Prop}(z:Fz S δ aX)(b:∀i,S i->i=fi\/i=fi+1\/fN.length<=i):Go fi gL σ' fN aX:=h.f u.y u.j z b
theorem Inv.V(I:Inv σ Γ n)(v:List MV):Inv (σ.V v) Γ n:=
 ⟨⟨I.a.r,I.a.A,I.a.x,I.a.y,I.a.j,I.a.m,I.a.g,I.a.h,I.a.e,I.a.f,I.a.v,I.a.p,I.a.w,I.a.z⟩,⟨I.j.d,I.j.f,I.j.e,I.j.a⟩,I.r,I.F,I.y,I.L,I.A,I.B,I.z,I.C⟩
theorem Jt{q:Prop}(W:WS σ Γ)(δ:List MO){y:Nat}(k:y<2)(m:∀l t,(ez (HS σ δ) (.d 9) (.c (y:Int))=some (.j [l] t))->(bC l=true)->(l≠84)->(l≠117)->(0<t)->(t<2455)->q):q:=by
 have g:(HS σ δ)[9]?=some (.a σ.af):=⋯
 refine Uu W.h λs r h a b c d=>?_
 have k:=m9 k
 rcases k with rfl|rfl
 ·exact m Γ.o s (gn (i:=0) g (by rw[h];rfl) LQ) ((ny W.e).1) ((ny W.e).2) (Cw W.e) a b
 ·exact m Γ.p r (gn (i:=1) g (by rw[h];rfl) Ha) ((ny W.f).1) ((ny W.f).2) (Cw W.f) c d
end
end
section
section
variable{K n d fi stk i:Nat}{σ gL:St}{δ fN:List MO}{Γ:Cf}{num ip sort ex:Int}{aV bd args:MV}{L:List MV}
noncomputable abbrev rfA(fi d l t dk:Nat)(ad:Int)(rw bf jk:Nat):Loc:=[(103,.d 148),(250,.d 8),(110,.d (fi+182)),(263,.c (d:Int)),(272,.j [l] t),(62,.c (dk:Int)),(277,.c ad),(4,.d (rw+182)),(145,.c (bf:Int)),(278,.d (jk+182))]
noncomputable abbrev bRa:List MS:=[fH mK 0,fH mK 1,fH mK 2,fH mK 3,fH mK 4,fH mK 5]
theorem Aa{μ:Hp}{p q:Nat}{l:List MV}(h:μ[p]?=some (.a l))(g:μ[q]?=some (.a l))(c:l.all (bh 8)=true):ct μ .b (.d p) (.d q)=some false:=by
 show(ct μ .a (.d p) (.d q)).map (!·)=_
 rw[qE h g c];rfl
theorem C2(b:d<2):(∀μ,dE μ .c (.c 6) (.c (d:Int))=some (.c ((6*d:Nat):Int),μ))/\∀μ,dE μ .a (.c 1) (.c ((6*d:Nat):Int))=some (.c (b0 d 0:Nat),μ):=by
 refine⟨λμ=>?_,λμ=>?_⟩
 ·rw[nD (by decide),show(6:Int)*(d:Int)=((6*d:Nat):Int) from QB]
 ·show some (MV.c ((1:Int)+((6*d:Nat):Int)),μ)=_
  rw[show(1:Int)+((6*d:Nat):Int)=((b0 d 0:Nat):Int) from QA]
structure RfO (σ:St) (δ:List MO) (Γ:Cf) (n d fi:Nat) (num:Int) (aV bd args:MV) (sort ex:Int) (L:List MV) (l t dk:Nat) (ad:Int) (es:List (Int×En)) (gL:St) (fN:List MO) (σ':St) (aX:List MO):Prop where
 e:bC l=true
 a:l≠84
 g:l≠117
 p:0<t
 q:t<2455
 D:qx gL fN δ.length Γ d l dk ad es
 r:δ.length<=fN.length
 f:Go fi gL σ' fN aX
 j:Inv σ' Γ (n+60)
 F:FS σ' (ar [] (num,fi))
 h:σ'.u=[]
 m:σ'.O=0
 b:σ'.G=[]
 c:σ'.H=[.c 21]
 k:σ'.z=σ.z
 o:∃ip stk,aX[fi]?=some (gx fi num aV bd ip args stk sort ex)
 i:∃L',aX[fi+1]?=some (.a L')/\L'.length<=L.length+3
theorem Up.A{σ':St}(u:Up σ σ'):σ'.G=σ.G/\σ'.H=σ.H/\σ'.u=σ.u/\σ'.O=σ.O:=u.D.o
theorem ac7{G:Prop}(I:Inv σ Γ n)(Q:n<=15000)(hd:d<2)(P:σ.u=[])(F:FS σ (ar [] (num,fi)))(hf:δ[fi]?=some (gx fi num aV bd ip args stk sort ex))(hL:δ[fi+1]?=some (.a L))(ux:L.length<=700)(h0:σ.O=0)(h1:σ.H=[])(h2:σ.G=[])(K:Nat)
  (k:∀l t T ad rw jk es gL fN σ' aX,aY Tb (au Tb (K+16)) (K+16) bRa [(103,.d 148),(250,.d 8),(110,.d (fi+182)),(263,.c (d:Int))] (HS σ δ)=some (.a,rfA fi d l t T ad rw σ.z.length jk,HS σ' aX)->RfO σ δ Γ n d fi num aV bd args sort ex L l t T ad es gL fN σ' aX->G):G:=by
 refine jQ I (eK Q) δ (m:=2) xx λy t1 hy Z Y I1=>?_
 have Z:=Z (K+15)
 refine b6 (σ.S t1) λdA i7=>?_
 rw[<-i7] at Z Y I1
 refine Jt I1.a δ hy λl t ls dP cU UK U0 W=>?_
 refine wx (K:=K+3) (δ:=δ) I1 (bN [_] (V0.A+1) 30000 (.o V0.A 15000 .z) rfl Q) hd dP cU (Y.r▸P) t λgL fN T ad es RN c1 um Im wm D MW hrl=>?_
 refine Al (K:=K+5) Im (bN [_] (V0.A+1+36) 60000 (.o V0.A 15000 .z) rfl Q) hd dP cU ⟨U0,W⟩ (wm.2 _ _ hf) (wm.2 _ _ hL) (Qw ux) 0 λx dq sm gK jk vl tm bj vs ws c2 S=>?_
 have U2:=(Y.f um).f S.b
 have Um:=Y.f um
 refine lu U2.A λq1 q2 q3 q4=>?_
 have pm:=mz gL fN (by have:=Im.y;exact(bN [_,_] V0.B 100000 (.o V0.A 15000 (.o V0.B (V0.A+1+36) .z)) rfl Q this))
 rw[Um.z.1] at pm
 refine zE (K:=K+1) S.a (bN [_] (V0.A+1+36+10) 50000 (.o V0.A 15000 .z) rfl Q) hd dP cU (iI S.b.j D.j) S.f S.c S.d S.i (q4▸h0) (q2▸h1) λR' J G3 z3 X=>?_
 refine b6 ((x.r R').V [.c 21]) λs w=>?_
 rw[<-w] at X
 refine iu (C2 hd) λm1 m2=>?_
 have x_:s.H=[.c 21]:=w▸rfl
 have rF:s.G=[]:=by rw[w];show x.G=[];rw[q1];exact h2
 have Lm:s.O=0:=by rw[w];show x.O=0;rw[q4];exact h0
 have UY:s.z=σ.z:=w▸U2.z.1
 have F3:FS s (ar [] (num,fi)):=w▸((U2.B F).o rfl rfl)
 refine b6 (ar J (.a [.c 21])) λiy jn=>?_
 have x1:=Aa (μ:=HS s iy) (p:=163) (q:=J.length+182) (l:=[.c 21]) (by rw[<-x_];kernel_rfl) (by rw[df,jn];exact h9 _ _ _ rfl) ⋯
 refine b6 (ar iy (.a [])) λR iV=>?_
 have x2:=Aa (μ:=HS s R) (p:=162) (q:=iy.length+182) (l:=[]) (by rw[<-rF];kernel_rfl) (by rw[df,iV];exact h9 _ _ _ rfl) rfl
 have g5:=UG s R Lm
 have p5:=mz s R (by rw[UY];have:=I.y;exact(bN [_,_] V0.B 100000 (.o V0.A 15000 (.o V0.B V0.A .z)) rfl Q this))
 rw[UY] at p5
 have f5:=pe F3 R
 have Ln:=cJ hL
 have lm:=wm.1
 have b1:=S.j
 have N:=S.k
 have M:=z3.k (iV▸jn▸((Gw.d _ _).e (Gw.d _ _))).f
 have U:fi≠gK/\fi+1≠gK:=⟨λP=>bZ [_,_,_,_,_] (.o (V0.A+1+1) V0.B (.o V0.B V0.C (.o V0.C V0.D (.o (V0.D+1) V0.E (.f V0.E V0.A .z))))) rfl Ln lm b1 N P,λP=>bZ [_,_,_,_,_] (.o (V0.A+1+1) V0.B (.o V0.B V0.C (.o V0.C V0.D (.o (V0.D+1) V0.E (.f V0.E (V0.A+1) .z))))) rfl Ln lm b1 N P⟩
 have hgo:Go fi gL s fN R:=by
  refine((Go.o fi gL fN).m S.b S.h λi h=>by rcases h with h|h;exact .inl h;exact .inr (.inl h)).f (S:=pw gK) (λk v h=>w▸h) (w▸G3.c) M λi h=>?_
  exact(.inr (.inr (h▸aD b1 (jJ N))))
 refine k l t T ad RN jk es gL fN s R ?_ ⟨dP,cU,UK,U0,W,D,lm,hgo,w▸(((S.a.D G3).V _).q (bN [_] (V0.A+1+36+10+8) (V0.A+60) .z rfl)),F3,by rw[w];show x.u=[];rw[q3];exact P,Lm,rF,x_,UY,⟨_,_,M.2 _ _ U.1 S.c⟩,?_⟩
 ·refine b6 (b0 d 0) λmd zR=>?_
  have X:au Tb (K+16) 1192 [.d 148,.d (fi+182),.e [.c (T:Int),.c (b0 d 0:Nat),.e []],.c (bj.length:Nat)] (HS x dq)=some (.c (-2),HS s J):=X
  rw[<-zR] at m2 X
  subst iV
  subst jn
  exact eD [(1,ow Z),(2,ov ls),(3,ow c1),(5,ov pm),(6,ow c2),(8,ow (m1 (HS x dq))),(9,ow (m2 (HS x dq))),(12,ov (hJ x S.g (by have:=S.i;exact jX this))),(13,ow X),(14,oq ((j5 (-2)) (HS s J))),(18,oq x1),(22,oq x2),(24,ov g5),(25,oq ((j5 0) (HS s (ar (ar J (MO.a [MV.c 21])) (MO.a []))))),(28,ov p5),(29,oq ((j5 ((σ.z.length:Nat):Int)) (HS s (ar (ar J (MO.a [MV.c 21])) (MO.a []))))),(32,ov f5),(33,oq ((j5 1) (HS s (ar (ar J (MO.a [MV.c 21])) (MO.a [])))))] ⋯
 ·refine cf S.l λL' h3 h4=>?_
  exact⟨L',M.2 _ _ U.2 h3,h4⟩
end
end
section
section
variable{K n d l t dk fi stk i b rw jk vl tm bf pl:Nat}{σ gL σ':St}{δ fN aX:List MO}{Γ:Cf}{num ip sort ex ad word:Int}{mx my bd args odd:MV}{L bj:List MV}{es:List (Int×En)}{ρ:Loc}{R':List Row}
theorem Go.a(D:qx gL fN b Γ d l dk ad es)(g:Go fi gL σ fN δ)(hb:fi+1<b):qx σ δ b Γ d l dk ad es:=
 D.w g.p g.r g.j (rz.a λi c=>fK c (λq=>Hx hb q) λq=>Hy hb q)
theorem qx.y(D:qx σ δ b Γ d l dk ad es):fM σ δ b ad dk:=by
 rcases D.o with⟨p,c,e⟩|⟨_,s0,s1,f,jk,h,_⟩
 ·exact e▸((D.a p (c▸(bK.mpr rfl))).1.a)
 ·exact h.a
noncomputable abbrev N5(fi d l t dk:Nat)(ad:Int)(rw bf jk vl tm pl:Nat)(odd:MV)(word:Int):Loc:=[(103,.d 148),(250,.d 8),(110,.d (fi+182)),(263,.c (d:Int)),(272,.j [l] t),(62,.c (dk:Int)),(277,.c ad),(4,.d (rw+182)),(145,.c (bf:Int)),(278,.d (jk+182)),(220,.d (vl+182)),(279,.d (tm+182)),(54,.c (pl:Int)),(295,odd),(296,.c word)]
noncomputable abbrev N6(fi d l t dk:Nat)(ad:Int)(rw bf jk vl tm pl:Nat)(word:Int):Loc:=[(103,.d 148),(250,.d 8),(110,.d (fi+182)),(263,.c (d:Int)),(272,.j [l] t),(62,.c (dk:Int)),(277,.c ad),(4,.d (rw+182)),(145,.c (bf:Int)),(278,.d (jk+182)),(220,.d (vl+182)),(279,.d (tm+182)),(54,.c (pl:Int)),(296,.c word)]
noncomputable abbrev bRc:List MS:=[fH mK 9,fH mK 10]
theorem RM{B:Prop}(D:d<2)(I:ρ=N5 fi d l t dk ad rw bf jk vl tm pl odd word\/ρ=N6 fi d l t dk ad rw bf jk vl tm pl word)
  (H:au Tb K 1192 [.d 148,.d (fi+182),jO dk d,.c (bj.length:Nat)] (HS σ δ)=some (.c (-2),HS σ' aX)) (hj:δ[jk]?=some (.a bj)) (P:bj.length<=3)
  (F:FS σ' (ar [] (num,fi))) (R:σ'.H=[.c 21]) (Q:σ'.G=[.e [.c word,.c 2,.c ip]]) (E:σ'.O=3) (m:σ'.z.length=bf) (g:bf<=90000) (J:aX[fi]?=some (gx fi num (.e [mx,.c 2,my]) bd ip args stk sort ex)) (T:Nat) (S:∀M,(aY Tb (au Tb K) T bRc ρ (HS σ δ)=some (.b (.h true),ρ,M))->B):B:=by
 refine iu (C2 D) λy k=>?_
 have u:=hJ σ hj (jX P)
 have nn:=j5 (-2)
 refine b6 (ar aX (.a [.c 21])) λj o=>?_
 have x1:=Aa (μ:=HS σ' j) (p:=163) (q:=aX.length+182) (l:=[.c 21]) (by rw[<-R];kernel_rfl) (by rw[df,o];exact h9 _ _ _ rfl) ⋯
 refine b6 (ar j (.a [.e [.c word,.c 2,.c ip]])) λf x=>?_
 have x2:=qE (μ:=HS σ' f) (p:=162) (q:=j.length+182) (l:=[.e [.c word,.c 2,.c ip]]) (by rw[<-Q];kernel_rfl) (by rw[df,x];exact h9 _ _ _ rfl) ⋯
 have w:=o▸(fV _ J)
 have v:iw Tb (HS σ' f) (.d 148) 104=some (.c 3):=by rw[<-E];kernel_rfl
 have p2:=mz σ' f (m▸(aaf m g))
 rw[m] at p2
 have r:=vb ((bf:Nat):Int)
 have A:=pe F f
 have s:=vb 3
 have C:=vb 1
 refine b6 (b0 d 0) λU N=>?_
 have H:au Tb K 1192 [.d 148,.d (fi+182),.e [.c (dk:Int),.c (b0 d 0:Nat),.e []],.c (bj.length:Nat)] (HS σ δ)=some (.c (-2),HS σ' aX):=H
 rw[<-N] at k H
 refine S (HS σ' f) ?_
 subst x
 subst o
 rcases I with rfl|rfl
 ·exact eD [(0,ow (y (HS σ δ))),(1,ow (k (HS σ δ))),(4,ov u),(5,ow H),(6,oq (nn (HS σ' aX))),(10,oq x1),(13,ov (ed σ' w 127 (MV.c ip) ⋯)),(16,oq x2),(18,ov v),(19,oq (s (HS σ' (ar (ar aX (MO.a [MV.c 21])) (MO.a [MV.e [MV.c word,MV.c 2,MV.c ip]]))))),(22,ov p2),(23,oq (r (HS σ' (ar (ar aX (MO.a [MV.c 21])) (MO.a [MV.e [MV.c word,MV.c 2,MV.c ip]]))))),(26,ov A),(27,oq (C (HS σ' (ar (ar aX (MO.a [MV.c 21])) (MO.a [MV.e [MV.c word,MV.c 2,MV.c ip]])))))] ⋯
 ·exact eD [(0,ow (y (HS σ δ))),(1,ow (k (HS σ δ))),(4,ov u),(5,ow H),(6,oq (nn (HS σ' aX))),(10,oq x1),(13,ov (ed σ' w 127 (MV.c ip) ⋯)),(16,oq x2),(18,ov v),(19,oq (s (HS σ' (ar (ar aX (MO.a [MV.c 21])) (MO.a [MV.e [MV.c word,MV.c 2,MV.c ip]]))))),(22,ov p2),(23,oq (r (HS σ' (ar (ar aX (MO.a [MV.c 21])) (MO.a [MV.e [MV.c word,MV.c 2,MV.c ip]]))))),(26,ov A),(27,oq (C (HS σ' (ar (ar aX (MO.a [MV.c 21])) (MO.a [MV.e [MV.c word,MV.c 2,MV.c ip]])))))] ⋯
end
end
section
section
variable{K n d l t dk fi stk i b rw jk vl tm bf pl:Nat}{oO σ gL σ':St}{jI δ fN aX:List MO}{Γ:Cf}{num ip sort ex ad word:Int}{mx my bd args odd v w:MV}{L bj vs:List MV}{es:List (Int×En)}{ρ:Loc}{R':List Row}
noncomputable abbrev bRb:List MS:=[fH mK 6,fH mK 7,fH mK 8]
theorem Kz:∀(x:List MV),(cW x (v::vs)).set x.length w=cW x (w::vs)
 |[]=>rfl
 |a::x=>by show a::(cW x (v::vs)).set x.length w=a::cW x (w::vs);rw[Kz x]
theorem Oe{z:Nat}(x:List MV):(cW x (v::vs)).set (x.length+1+z) w=cW x (v::vs.set z w):=by
 unfold cW
 rw[oR _ _ aak,show x.length+1+z - x.length=z+1 from aaj];rfl
theorem Ov{u:CT}(h:u≠ .q 117)(a:l≠117):u.e l≠ .q 117:=by
 cases u with
 |b c=>intro e;cases e
 |r c=>intro e;cases e
 |q c=>
  intro e
  have e:(if aT c 84 then l else c)=117:=by injection e
  split at e
  ·exact a e
  ·exact h (e▸rfl)
theorem VC{R:List Row}{f:Nat}(j:d<2)(h:kO R d l dk)(g:kO R (1 - d) l f):f≠dk:=by
 rintro rfl
 have:=h.a.symm.trans g.a
 have e:MV.c ((64+d:Nat):Int)= .c ((64+(1 - d):Nat):Int):=by
  have:=ba this
  injection this with this
  injection this with _ this
  injection this
 injection e with e
 exact aai j e
theorem Vy{L':List MV}{J N:St}{I:List MO}{ws:List MV}{z:Nat}(hn:n<=14000)(hd:d<2)(hfi:fi+1<δ.length)(D:qx gL fN b Γ d l dk ad es)(hb:fi+1<b)(dP:bC l=true)(cU:l≠84)(UK:l≠117)
  (c:au Tb (K+16) 1315 [.d 148,.d 8,.d (fi+182),.c (d:Int),.j [l] t,.c ad] (HS σ δ)=some (.e [.d (jk+182),.d (vl+182),.d (tm+182)],HS J I)) (go:Go fi gL J fN I)
  (S:Se σ δ Γ (n+60) fi num (.e [mx,.c 2,my]) bd args sort ex ad L' ((Γ.T d).map (CT.e l)) jk vl tm stk ip bj vs ws J I) (lm:fN.length<=δ.length)
  (hz:z<(Γ.T d).length) (dz:au Tb (K+16) 1270 [.d 8,.c (((Γ.T d).length+1:Nat):Int)] (HS J I)=some (.c (z:Int),HS N I)) (u2:Up J N) (I2:Inv N Γ (n+71))
  (F:FS σ (ar [] (num,fi))) (Lm:σ.O=0) (rF:σ.G=[]) (x_:σ.H=[.c 21]) (hbf:σ.z.length=bf) (hbl:bf<=90000) {jk0:Nat} {Q:Prop} (ω:∀ρ' aG,aY Tb (au Tb (K+16)) (K+16) (bRb++bRc) (rfA fi d l t dk ad rw bf jk0) (HS σ δ)=some (.b (.h true),ρ',aG)->Q):Q:=by
 have b1:=S.j
 have b2:=S.p
 have b3:=S.q
 have Z:=S.k
 have c3:=S.r
 have jl:=S.i
 have M:((Γ.T d).map (CT.e l)).length=(Γ.T d).length:=ay ..
 have l3:=I2.a.a d
 have lv:=S.f.m
 have lst:=cJ S.d
 obtain⟨P,hu0⟩:∃u,(Γ.T d)[z]?=some u:=⟨_,aN hz⟩
 have hu:((Γ.T d).map (CT.e l))[z]?=some (P.e l):=aL▸hu0▸rfl
 refine iu (I2.a.w d P (aU hu0)) λtk1 tk2=>?_
 refine iu (Aw tk1 dP cU) λso1 so2=>?_
 refine KQ (u:=P.e l) I2 (bN [_] (V0.A+71) 80000 (.o V0.A 14000 .z) rfl hn) so1 so2 (Ov tk2 UK) (K+7) I λR1 odd word Y ho hw G1=>?_
 have Y:=Y
 refine b6 (N.r R1) λs lx=>?_
 rw[<-lx] at Y
 have I3:=lx▸(I2.D G1)
 have u3:=lx▸(Up.R G1.c)
 have U:=(S.b.f u2).f u3
 refine lu U.A λqt qr qh qs=>?_
 refine b6 (I.set stk (.a (cW bj (.e [.c 4,.c ad]::vs.set z odd)))) λdq eO=>?_
 have sk:=Bl s S.d (k:=bj.length+1+z) (by unfold cW;simp;exact(gz [_,_,_,_,_] (V0.E+1+V0.A) (V0.E+(V0.D+1)) (.o (V0.A+1) V0.B (.f V0.B V0.C (.f V0.C V0.D .z))) rfl hz M lv)) (by unfold cW;simp;exact aah hz jl M l3 lv) odd
 rw[Oe,<-eO] at sk
 have z2:=eO▸(Fz.w _ _ _)
 have Ry:dq[stk]?=some (.a (cW bj (.e [.c 4,.c ad]::vs.set z odd))):=by rw[eO];exact m6 _ S.d
 have f2:=z2.2 _ _ (show ¬pw stk fi from λe=>by have e:fi=stk:=e;exact Ba hfi b1 Z e) S.c
 have j2:=z2.2 _ _ (show ¬pw stk jk from λe=>by have e:jk=stk:=e;exact xy Z e) S.g
 have go3:=go.m (u2.f u3) z2 (λi h=>by have h:i=stk:=h;exact QL lm b1 Z h)
 have hr3:=(Go.a D go3 hb).j
 have A3:=nV (u2.f u3).j S.f
 have V:xk s.R (P.e l) odd word:=lx▸ho
 have B:y5 s dq fi num ip mx my bd args stk sort ex []:=⟨U.B F,qs▸Lm,qt▸rF,f2⟩
 have X:∀{Q:Prop},(∀R' aX,dM s.R R' 8->Fz (pw stk) dq aX->au Tb (K+16) 1192 [.d 148,.d (fi+182),jO dk d,.c (bj.length:Nat)] (HS s dq)=some (.c (-2),HS ((s.r R').W word 2 ip) aX)->Q)->Q:=by
  intro Q ω
  rcases hw with h|h
  ·exact zD (K:=K+1) I3 (QK hn) hd dP cU hr3 A3 B hu so2 V h Ry jl ω
  ·exact EF (K:=K+1) I3 (QK hn) hd dP cU hr3 A3 B hu V h Ry jl (λaX z'=>(Go.a D (go3.m (Up.q _) z' (λi h=>by have h:i=stk:=h;exact QL lm b1 Z h)) hb).y) ω
 refine X λR' h_ G3 z3 e3=>?_
 have pp:=U.z.1▸hbf
 refine RM (K:=K+16) (ρ:=N5 fi d l t dk ad rw bf jk vl tm z odd word) (pl:=z) (σ':=(s.r R').W word 2 ip) (num:=num) (ip:=ip) (mx:=mx) (my:=my) (bd:=bd) (args:=args) (stk:=stk) (sort:=sort) (ex:=ex) hd (.inl rfl) e3 j2 jl (B.F.o rfl rfl) (qr▸x_) rfl rfl pp hbl (z3.2 _ _ (λe=>by have e:fi=stk:=e;exact Ba hfi b1 Z e) f2) (K+16) λaG ec=>?_
 refine ω (N5 fi d l t dk ad rw bf jk vl tm z odd word) aG ?_
 refine(cz (bu:=N5 fi d l t dk ad rw bf jk vl tm z odd word) (bF:=HS s dq) ?_).trans ec
 ·have lg:=hJ J S.e (by rw[ay];exact A_ M l3 lv)
  rw[ay,M] at lg
  have Vg:=hJ N S.e (by rw[ay];exact A_ M l3 lv)
  rw[ay,M] at Vg
  have sg:=jZ N S.e (k:=z) (v:=(P.e l).d) (aL▸hu▸rfl) (aag hz M l3 lv)
  refine b6 ((P.e l).d) λue hue=>?_
  rw[<-hue] at Y sg
  exact eD [(0,ow c),(1,ov lg),(2,ow ((λμ=>rfl:∀μ,dE μ .a (.c ((Γ.T d).length:Nat)) (.c 1)=some (.c (((Γ.T d).length+1:Nat):Int),μ)) (HS J I))),(3,ow dz),(4,ov Vg),(5,oq ((qQ (x:=z) (y:=(Γ.T d).length) (decide_eq_true hz)) (HS N I))),(7,ov sg),(8,ow Y),(9,ov (ed s S.c 126 (MV.d (stk+182)) ⋯)),(10,ov (hJ s S.g (jX jl))),(11,ow ((λμ=>rfl:∀μ,dE μ .a (.c (bj.length:Nat)) (.c 1)=some (.c ((bj.length+1:Nat):Int),μ)) (HS s I))),(12,ow ((λμ=>rfl:∀μ,dE μ .a (.c ((bj.length+1:Nat):Int)) (.c (z:Int))=some (.c ((bj.length+1+z:Nat):Int),μ)) (HS s I))),(13,oh sk)] ⋯
end
end
section
section
variable{K n d l t dk fi stk i b rw jk vl tm bf pl:Nat}{oO σ gL σ':St}{jI δ fN aX:List MO}{Γ:Cf}{num ip sort ex ad word:Int}{mx my bd args odd v w:MV}{L bj vs:List MV}{es:List (Int×En)}{ρ:Loc}{R':List Row}
theorem Vz{L':List MV}{q E:St}{p:List MO}{ws:List MV}(hn:n<=14000)(I:d<2)(P:fi+1<δ.length)(dP:bC l=true)(cU:l≠84)(hr:kO σ.R d l dk)
  (c:au Tb (K+16) 1315 [.d 148,.d 8,.d (fi+182),.c (d:Int),.j [l] t,.c ad] (HS σ δ)=some (.e [.d (jk+182),.d (vl+182),.d (tm+182)],HS q p))
  (S:Se σ δ Γ (n+60) fi num (.e [mx,.c 2,my]) bd args sort ex ad L' ((Γ.T d).map (CT.e l)) jk vl tm stk ip bj vs ws q p)
  (dz:au Tb (K+16) 1270 [.d 8,.c (((Γ.T d).length+1:Nat):Int)] (HS q p)=some (.c ((Γ.T d).length:Nat),HS E p)) (u2:Up q E) (I2:Inv E Γ (n+71))
  (F:FS σ (ar [] (num,fi))) (hh:σ.u=[]) (Lm:σ.O=0) (rF:σ.G=[]) (x_:σ.H=[.c 21]) (V:σ.z.length=bf) (X:bf<=90000) {jk0:Nat} {Ω:Prop} (ω:∀ρ' aG,aY Tb (au Tb (K+16)) (K+16) (bRb++bRc) (rfA fi d l t dk ad rw bf jk0) (HS σ δ)=some (.b (.h true),ρ',aG)->Ω):Ω:=by
 have b1:=S.j
 have c1:=S.k
 have Q:=S.i
 have M:((Γ.T d).map (CT.e l)).length=(Γ.T d).length:=ay ..
 have l3:=I2.a.a d
 have lv:=S.f.m
 have U2:=S.b.f u2
 refine wx (K:=K+3) (δ:=p) I2 (bN [_] (V0.A+71) 30000 (.o V0.A 14000 .z) rfl hn) ((aae I):1 - d<2) dP cU (U2.A.2.2.1▸hh) t λs dq Wx Xk Lj rw' c3 u3 I3 w3 D MW hrl=>?_
 have U:=U2.f u3
 refine lu U.A λqt qr qh qs=>?_
 have F_:=w3.2 _ _ S.d
 refine b6 (dq.set stk (.a (cW bj (.e [.c 4,.c Xk]::vs)))) λh_ kH=>?_
 have sk:=Bl s F_ (k:=bj.length) (by unfold cW;simp) (by unfold cW;simp;exact(bN [_,_,_,_] (V0.A+(V0.D+1)) 1000 (.o V0.A 3 (.e V0.B V0.C (.o V0.C 3 (.e V0.D V0.B .z)))) rfl Q M l3 lv)) (.e [.c 4,.c Xk])
 rw[Kz,<-kH] at sk
 have z3:=kH▸(Fz.w _ _ _)
 have f3:=z3.2 _ _ (show ¬pw stk fi from λe=>by have e:fi=stk:=e;exact Ba P b1 c1 e) (w3.2 _ _ S.c)
 have j3:=z3.2 _ _ (show ¬pw stk jk from λe=>by have e:jk=stk:=e;exact xy c1 e) (w3.2 _ _ S.g)
 have N:=iI U.j hr
 have B:y5 s h_ fi num ip mx my bd args stk sort ex []:=⟨U.B F,qs▸Lm,qt▸rF,f3⟩
 refine zF (K:=K+1) I3 (bN [_] (V0.A+71+36) 50000 (.o V0.A 14000 .z) rfl hn) I dP cU N (nV (u2.f u3).j S.f) B (kH▸(m6 _ F_)) Q (λaX z'=>D.y.d (S:=pw stk) (λJ J h=>h) (z3.k z') (rz.a λi h=>by have h:i=stk:=h;exact(gz [_,_,_] V0.C V0.B (.o (V0.A+1) V0.B (.e V0.C V0.A .z)) rfl (cJ S.d) h))) (VC I N D.j) λR' iy G4 z4 e4=>?_
 have pp:=U.z.1▸V
 refine RM (K:=K+16) (ρ:=N6 fi d l t dk ad rw bf jk vl tm (Γ.T d).length 5) (odd:= .f) (pl:=(Γ.T d).length) (σ':=(s.r R').W 5 2 ip) (num:=num) (ip:=ip) (mx:=mx) (my:=my) (bd:=bd) (args:=args) (stk:=stk) (sort:=sort) (ex:=ex) I (.inr rfl) e4 j3 Q (B.F.o rfl rfl) (qr▸x_) rfl rfl pp X (z4.2 _ _ (λe=>by have e:fi=stk:=e;exact Ba P b1 c1 e) f3) (K+16) λaG ec=>?_
 refine ω (N6 fi d l t dk ad rw bf jk vl tm (Γ.T d).length 5) aG ?_
 refine(cz (bu:=N6 fi d l t dk ad rw bf jk vl tm (Γ.T d).length 5) (x:=bRb) (bF:=HS s h_) ?_).trans ec
 have Z:=hJ q S.e (by rw[ay];exact A_ M l3 lv)
 rw[ay,M] at Z
 have Y:=hJ E S.e (by rw[ay];exact A_ M l3 lv)
 rw[ay,M] at Y
 refine b6 ((Γ.T d).length) λm hm=>?_
 rw[<-hm] at Z Y dz
 refine hm▸?_
 have q2:∀μ,dE μ .e (.c 1) (.c (d:Int))=some (.c ((1 - d:Nat):Int),μ):=λμ=>by
  show some (MV.c ((1:Int) - (d:Int)),μ)=_
  rw[show(1:Int) - (d:Int)=((1 - d:Nat):Int) from(Qm I)]
 exact eD [(0,ow c),(1,ov Z),(2,ow ((λμ=>rfl:∀μ,dE μ .a (.c (m:Nat)) (.c 1)=some (.c ((m+1:Nat):Int),μ)) (HS q p))),(3,ow dz),(4,ov Y),(5,oq ((qQ (x:=m) (y:=m) (decide_eq_false λhh=>bZ [_] (.o (V0.A+1) V0.A .z) rfl hh)) (HS E p))),(7,ow (q2 (HS E p))),(8,ow c3),(11,ov (ed s (w3.2 _ _ S.c) 126 (MV.d (stk+182)) ⋯)),(12,ov (hJ s (w3.2 _ _ S.g) (jX Q))),(13,oh sk)] ⋯
theorem Ae{x:Prop}(I:Inv σ Γ n)(s:n<=13000)(E:d<2)(hh:σ.u=[])(F:FS σ (ar [] (num,fi)))(hf:δ[fi]?=some (gx fi num (.e [mx,.c 2,my]) bd ip args stk sort ex))(Z:δ[fi+1]?=some (.a L))(ux:L.length<=600)(h0:σ.O=0)(h1:σ.H=[])(h2:σ.G=[])(K:Nat)(bJ:∀C,(au Tb (K+17) 1341 [.d 148,.d 8,.d (fi+182),.c (d:Int)] (HS σ δ)=some (.h true,C))->x):x:=by
 refine ac7 I (eK s) E hh F hf Z (eK ux) h0 h1 h2 K λl t dk ad rw jk es gL fN U dN x1 O=>?_
 refine Ey O.o λip1 aeG Q=>?_
 refine cf O.i λL1 P MB=>?_
 have J:=cJ Z
 refine Al (K:=K+5) O.j (bN [_] (V0.A+60) 60000 (.o V0.A 13000 .z) rfl s) E O.e O.a ⟨O.p,O.q⟩ Q P (bN [_,_] V0.B 800 (.o V0.A 600 (.o V0.B (V0.A+3) .z)) rfl ux MB) ad λdT dq sm gK jk' vl tm bj vs ws c S=>?_
 have c:=c
 refine jQ S.a (bN [_] (V0.A+60+10) 90000 (.o V0.A 13000 .z) rfl s) dq (m:=(Γ.T d).length+1) QF λz t2 hz M W Y=>?_
 have M:=M (K+15)
 have hp:=I.y
 have l1:=O.r
 have R:=O.f.j.1
 have N:U.z.length=σ.z.length:=O.k▸rfl
 have X:∀{x:Prop},(∀ρ' C,aY Tb (au Tb (K+16)) (K+16) (bRb++bRc) (rfA fi d l t dk ad rw σ.z.length jk) (HS U dN)=some (.b (.h true),ρ',C)->x)->x:=by
  intro x V
  by_cases h:z<(Γ.T d).length
  ·exact Vy (n:=n) (QO s) E (Hc J l1 R) O.D J O.e O.a O.g c (O.f.m S.b S.h λi h=>by rcases h with h|h;exact .inl h;exact .inr (.inl h)) S R h M W (Y.q QN) O.F O.m O.b O.c N (QM s hp N) V
  ·have e:=aal hz h
   subst e
   exact Vz (n:=n) (QO s) E (Hc J l1 R) O.e O.a (Go.a O.D O.f J).j c S M W (Y.q QN) O.F O.h O.m O.b O.c N (QM s hp N) V
 refine X λρ' C x2=>?_
 refine bJ C (pG (F:=mK) ⋯ rfl (ρ:=ρ') ?_)
 show aY Tb (au Tb (K+16)) (K+16) (bRa++(bRb++bRc)) _ _=_
 exact(cz x1).trans x2
end
end
section
noncomputable abbrev bdO:MO:= .d 959 [(258,.e []),(383,.c 8),(130,.d 5),(243,.d 6)]
noncomputable abbrev tO:MV:= .e [.c 0,.c 0]
noncomputable abbrev w4(at_:Int):List (MV×MV):=[((.g [110,117,109,115]),.d 1),((.g [97,116]),.c at_),((.g [112,97,114,97,109,115]),.d 2),((.g [114,101,116,115]),.d 3),((.g [98,111,100,121]),.d 7),((.g [108,101,116,116,101,114,115]),.d 9)]
noncomputable abbrev wK(at_:Int):List (MV×MV):=[((.g [110,117,109,115]),.d 1),((.g [97,116]),.c at_),((.g [112,97,114,97,109,115]),.d 2),((.g [114,101,116,115]),.d 3),((.g [98,111,100,121]),.d 7),((.g [108,101,116,116,101,114,115]),.d 9),((.g [107,116]),.d 11),((.g [107,105,110,100,115]),.d 79)]
noncomputable abbrev Lp(n0 nu lets:List MV)(at_:Int):Hp:=[.a n0,.a nu,.a [],.a [],.a [tO],.a [tO,tO,tO,tO,tO,tO,tO,tO,tO],.a [],bdO,.b (w4 at_),.a lets]
noncomputable def aS(n0 nu lets:List MV)(at_:Int)(ps rs:List MV):jD:=⟨.a n0,.a nu,.a ps,.a rs,.a [tO],.a [tO,tO,tO,tO,tO,tO,tO,tO,tO],.a [],bdO,.b (wK at_),.a lets,.d 980 [(14,.d 11),(155,.d 23),(385,.d 18),(157,.d 19),(386,.d 20),(387,.d 21),(388,.c 0)]⟩
noncomputable def O4(a:jD)(z:List MO):Hp:=KG a (bR.take 19) (bI.take 19) (l_.take 19) (l_.take 19) (uo.take 19) z
noncomputable abbrev bS0:List MS:=[fH fu 0,fH fu 1,fH fu 2,fH fu 3,fH fu 4,fH fu 5,fH fu 6,fH fu 7,fH fu 8]
noncomputable abbrev ρS:Loc:=[(250,.d 8),(153,.d 10),(33,.c 68),(156,.g [83]),(5,.c 2),(14,.d 11)]
noncomputable def z0:List MO:=match aY Tb (au Tb 12) 12 bS0 [(250,.d 8)] (Lp [] [] [] 2) with
 |some (_,_,μ)=>μ.drop 17
 |none=>[]
section
variable{K:Nat}{n0 nu lets:List MV}{at_:Int}
theorem ac4:aY Tb (au Tb (K+12)) (K+12) bS0 [(250,.d 8)] (Lp n0 nu lets at_)=some (.a,ρS,O4 (aS n0 nu lets at_ [] []) z0):=by
 kernel_rfl
theorem Fd(a:jD)(z:List MO)(K:Nat):au Tb (K+7) 83 [.d 11,.e [.c 6,.c 0]] (O4 a z)=some (.c 19,KH a [] z):=nH ⋯
theorem J6{R:List Row}(W:KW R)(a:jD)(z:List MO)(K:Nat):au Tb (K+7) 83 [.d 11,.e [.c 6,.c 0]] (KH a R z)=some (.c 19,KH a R z):=by
 have k:eL (fB R) (.e [.c 6,.c 0])=true:=nq W .v
 have f:dj (au Tb (K+6)) (KH a R z) (.d 13) [.e [.c 6,.c 0],.c (-1)] .b=some (.c 19,KH a R z):=by
  rw[v9 (d:=fB R) rfl k];rfl
 exact gP [(2,.a (.c 19) (KH a R z))] f ⋯
theorem Vd:KW []:=⟨lF,(λJ h=>by cases h),λJ J J h=>by cases h⟩
end
end
section
noncomputable def oM:List CT:=[.b 89,.b 84,.b 112,.r 84,.q 84,.b 121,.b 111,.b 72,.b 110,.b 115,.b 104,.b 101,.b 105,.b 99,.b 76,.b 107,.b 98,.b 117,.r 105,.q 104]
noncomputable def Ag:List CT:=[.b 89,.b 118,.b 84,.b 104,.q 84,.b 115,.b 110,.b 112,.b 118,.b 99,.b 101,.b 108,.b 105,.b 111,.b 121,.b 117]
noncomputable abbrev RU:MV:= .e [.g [89],.g [84],.g [112],.g [114,84],.g [113,84],.g [121],.g [111],.g [72],.g [110],.g [115],.g [104],.g [101],.g [105],.g [99],.g [76],.g [107],.g [98],.g [117],.g [114,105],.g [113,104]]
noncomputable def ctT:CT->Nat
 | .b _=>0
 | .r _=>1
 | .q _=>2
theorem tY:∀u∈oM,bC u.f=true/\u≠ .q 117:=λJ a=>
 (GC (P:=λu=>bC u.f=true/\ ¬(ctT u=2/\u.f=117)) ⋯ a).imp id λk e=>k (e▸⟨rfl,rfl⟩)
theorem su:∀u∈Ag,u= .b 118\/bC u.f=true:=λu a=>
 (GC (P:=λu=>(ctT u=0/\u.f=118)\/bC u.f=true) ⋯ a).imp (λk=>by
  cases u with
  |b c=>exact congrArg _ k.2
  |r c=>exact nomatch k.1
  |q c=>exact nomatch k.1) id
section
variable{K i c m:Nat}{n0 nu lets ps rs ro de we op:List MV}{ix:List (MV×MV)}{z:List MO}{ρ:Loc}
noncomputable abbrev SH(n0 nu lets ps rs ro:List MV)(ix:List (MV×MV))(de we op:List MV)(z:List MO)(i:Nat):Hp:=KG (aS n0 nu lets (i:Int) ps rs) ro ix de we op z
theorem Ai(H:Nums nu)(g:i<=90000)(hm:0<m){a:Prop}(f:∀(y:Nat),y<m->(∀K,au Tb (K+1) 1270 [.d 8,.c (m:Int)] (SH n0 nu lets ps rs ro ix de we op z i)=some (.c (y:Int),SH n0 nu lets ps rs ro ix de we op z (i+1)))->a):a:=by
 refine sa (μ:=SH n0 nu lets ps rs ro ix de we op z i) (d:=wK (i:Int)) (i:=i) (n:=m) rfl rfl H ⟨rfl,rfl,rfl,by simp[wK]⟩ (GO g) hm λx e b=>?_
 exact f x e b
theorem KO(μ:Hp)(l:List CT){y:Nat}{u:CT}(a:l[y]?=some u)(h:y<=1000):ez μ (.e (l.map CT.d)) (.c (y:Int))=some u.d:=rD μ (aL▸a▸rfl) h
theorem Eu(H:Nums nu)(L:i<=80000)(I:c<=1000)(N:bz ρ 250=some (.d 8)){a:Prop}(b:∀(ts:List CT),ts.length=c->(∀u∈ts,u∈oM)->ym (λj μ=>aO Tb (au Tb (K+1)) (.h (.g RU) (.j 1270 [.d 250,.g (.c 20)])) ((266,j)::ρ) μ) (yW (c:Nat)) (SH n0 nu lets ps rs ro ix de we op z i)=some (ts.map CT.d,SH n0 nu lets ps rs ro ix de we op z (i+c))->a):a:=by
 refine tG (f:=λj μ=>aO Tb (au Tb (K+1)) (.h (.g RU) (.j 1270 [.d 250,.g (.c 20)])) ((266,j)::ρ) μ) (all:=yW (c:Nat))
  (λk μ q=>∃ts:List CT,ts.length=k/\(∀u∈ts,u∈oM)/\q=ts.map CT.d/\μ=SH n0 nu lets ps rs ro ix de we op z (i+k))
  (λk v μ q a x p b=>by
   refine vW p λts p1 p2 z0 E=>?_
   subst z0
   subst E
   refine iu (p7 x) λM D=>?_
   subst D
   refine Ai (n0:=n0) (nu:=nu) (lets:=lets) (ps:=ps) (rs:=rs) (ro:=ro) (ix:=ix) (de:=de) (we:=we) (op:=op) (z:=z) (i:=i+k) (m:=20) H (bN [_,_,_] (V0.A+V0.C) 90000 (.o V0.A 80000 (.o V0.B 1000 (.o (V0.C+1) V0.B .z))) rfl L I M) (by decide) λy r G=>?_
   obtain⟨u,s⟩:∃u,oM[y]?=some u:=⟨_,aN (show y<oM.length from r)⟩
   refine b u.d _ ?_ ⟨ar ts u,by rw[aB,p1],λw t=>?_,by unfold ar;simp,rfl⟩
   ·have F:bz ((266,MV.c (k:Int))::ρ) 250=some (.d 8):=N
    exact jP (dn _ _) ((kW (bW (cI F _) (og (dn _ _)))).trans (G K)) (KO (SH n0 nu lets ps rs ro ix de we op z (i+k+1)) oM s (bN [_] V0.A 1000 (.o (V0.A+1) 20 .z) rfl r))
   ·rcases nB t with h|h
    ·exact p2 w h
    ·exact h▸(aU s)) (yW (c:Nat)) 0 (SH n0 nu lets ps rs ro ix de we op z i) [] rfl ⟨[],rfl,(λJ h=>by cases h),rfl,rfl⟩ λxs O e p=>?_
 refine vW p λts p1 p2 l n=>?_
 rw[sz,cQ] at p1 n
 rw[i9] at l
 exact b ts p1 p2 (e▸l▸n▸rfl)
end
end
section
section
variable{K F i c m:Nat}{n0 nu lets ps rs ro de we op:List MV}{ix:List (MV×MV)}{z:List MO}{ρ:Loc}
theorem dZ{x y:Nat}{v:MV}(h:x≠y)(ρ:Loc):bz (bp ρ x v) y=bz ρ y:=by rw[hP,if_neg (cH h)]
theorem ib{x:Nat}{v:MV}(ρ:Loc):bz (bp ρ x v) x=some v:=by rw[hP,if_pos rfl]
noncomputable abbrev bH:List MS:=[jR fu 9 0,jR fu 9 1,jR fu 9 2]
theorem Un(μ:Hp){y:Nat}(h:y<4){a:Prop}(b:∀(c:Nat),c<=3->ez μ (.e [.c 2,.c 1,.c 3,.c 0]) (.c (y:Int))=some (.c (c:Int))->a):a:=by
 have h:y<[2,1,3,0].length:=h
 exact b _ (GC (l:=[2,1,3,0]) (P:=λc=>c<=3) ⋯ (iK h)) (rD μ (l:=[2,1,3,0].map λc:Nat=>MV.c c) (aL▸(aN h▸rfl)) (jJ (bk h (by decide))))
theorem Cg{G:Prop}(H:Nums nu)(I:i<=70000)(L:bz ρ 250=some (.d 8))(O:ps.length<=10)(Q:rs.length<=10)(K F:Nat)
  (k:∀(c:Int) (ts:List CT) (r:CT) (j:Nat),ts.length<=3->(∀u∈ts,u∈oM)->r∈Ag->j<=i+5->aY Tb (au Tb (K+1)) F bH ρ (SH n0 nu lets ps rs ro ix de we op z i)=some (.a,bp ρ 58 (.c c),SH n0 nu lets (ar ps (.d (z.length+17))) (ar rs r.d) ro ix de we op (ar z (.a (ts.map CT.d))) j)->G):G:=by
 refine Ai (n0:=n0) (nu:=nu) (lets:=lets) (ps:=ps) (rs:=rs) (ro:=ro) (ix:=ix) (de:=de) (we:=we) (op:=op) (z:=z) (i:=i) (m:=4) H (GL I) G6 λy P E=>?_
 have E:=E K
 refine Un (SH n0 nu lets ps rs ro ix de we op z (i+1)) P λc v sc=>?_
 have x0:bQ Tb (au Tb (K+1)) F (jR fu 9 0) ρ (SH n0 nu lets ps rs ro ix de we op z i)=some (.a,bp ρ 58 (.c (c:Int)),SH n0 nu lets ps rs ro ix de we op z (i+1)):=by
  refine l9 (src:= .h (.l [.g (.c 2),.g (.c 1),.g (.c 3),.g (.c 0)]) (.j 1270 [.d 250,.g (.c 4)])) ?_
  exact jP (s7 (bW (dn _ _) (bW (dn _ _) (bW (dn _ _) (og (dn _ _))))) (by simp)) ((kW (bW (cI L _) (og (dn _ _)))).trans E) sc
 refine b6 (bp ρ 58 (.c (c:Int))) λbu B=>?_
 have w:bz bu 250=some (.d 8):=by rw[B,dZ (by decide)];exact L
 rw[<-B] at x0
 refine Eu (K:=K) (n0:=n0) (lets:=lets) (ps:=ps) (rs:=rs) (ro:=ro) (ix:=ix) (de:=de) (we:=we) (op:=op) (z:=z) (i:=i+1) (c:=c) (ρ:=bu) H (GK I) (jX v) w λts C N dm=>?_
 have S:(SH n0 nu lets ps rs ro ix de we op z (i+1+c)).length=z.length+17:=rfl
 have R:dj (au Tb (K+1)) (SH n0 nu lets ps rs ro ix de we op (ar z (.a (ts.map CT.d))) (i+1+c)) (.d 2) [.d (z.length+17)] .a=some (.f,SH n0 nu lets (ar ps (.d (z.length+17))) rs ro ix de we op (ar z (.a (ts.map CT.d))) (i+1+c)):=by
  rw[gH (l:=ps) rfl (GV O)];rfl
 have x1:bQ Tb (au Tb (K+1)) F (jR fu 9 1) bu (SH n0 nu lets ps rs ro ix de we op z (i+1))=some (.a,bu,SH n0 nu lets (ar ps (.d (z.length+17))) rs ro ix de we op (ar z (.a (ts.map CT.d))) (i+1+c)):=
  nC (q:=2) (jP (cI w _) (dn _ _) rfl) rfl (Rg (x:=266) (mI (B▸(ib ρ))) (GS v C) dm) R
 refine b6 (ar z (.a (ts.map CT.d))) λn t=>?_
 rw[<-t] at x1
 refine b6 (ar ps (.d (z.length+17))) λb s=>?_
 rw[<-s] at x1
 refine Ai (n0:=n0) (nu:=nu) (lets:=lets) (ps:=b) (rs:=rs) (ro:=ro) (ix:=ix) (de:=de) (we:=we) (op:=op) (z:=n) (i:=i+1+c) (m:=16) H (abk I v C) (by decide) λM p J=>?_
 obtain⟨r,e⟩:∃u,Ag[M]?=some u:=⟨_,aN (show M<Ag.length from p)⟩
 have D:dj (au Tb (K+1)) (SH n0 nu lets b rs ro ix de we op n (i+1+c+1)) (.d 3) [r.d] .a=some (.f,SH n0 nu lets b (ar rs r.d) ro ix de we op n (i+1+c+1)):=by
  rw[gH (l:=rs) rfl (GV Q)];rfl
 have x2:bQ Tb (au Tb (K+1)) F (jR fu 9 2) bu (SH n0 nu lets b rs ro ix de we op n (i+1+c))=some (.a,bu,SH n0 nu lets b (ar rs r.d) ro ix de we op n (i+1+c+1)):=
  nC (q:=3) (jP (cI w _) (dn _ _) rfl) rfl (jP (dn _ _) ((kW (bW (cI w _) (og (dn _ _)))).trans (J K)) (KO _ Ag e (bN [_] V0.A 1000 (.o (V0.A+1) 16 .z) rfl p))) D
 refine k (c:Int) ts r (i+1+c+1) (QG v C) N (aU e) (abj v C) ?_
 rw[<-B,<-t,<-s]
 show aY Tb (au Tb (K+1)) F ([jR fu 9 0]++([jR fu 9 1]++[jR fu 9 2])) ρ _=_
 rw[cz (x:=[jR fu 9 0]) (cD x0 rfl),cz (x:=[jR fu 9 1]) (cD x1 rfl)]
 exact cD x2 rfl
end
end
section
noncomputable def OF(f:Nat->Int×List Nat)(m:Nat)(v:Int×List Nat):Nat->Int×List Nat:=λj=>if aT j m then v else f j
noncomputable def Gu(z:List MO)(i:Nat)(v:MV):List MO:=match z[i]? with
 |some (.a l)=>z.set i (.a (ar l v))
 |_=>z
noncomputable def pnL(n:Nat):List MV:=(fP n).map λ(j:Nat)=>MV.g [112,48+j]
noncomputable def tix(d:Nat):Nat->Nat|0=>11*d+14|1=>36|2=>47|3=>47|4=>58|_=>36
noncomputable def acK(d i:Nat)(v:Int×List Nat)(n:Nat):MO:= .d 938 [(131,.c (b0 d i:Nat)),(219,.c (uB d i:Nat)),(156,.g (RF i)),(375,.c 6),(161,.c (E6 i:Nat)),(376,.c 0),(377,.d (n+1)),(378,.d (n+2)),(158,.c v.1),(160,.e (cB v.2)),(379,.e (pnL v.2.length)),(381,.e (bt v.2.length (.c 0))),(123,.f),(382,.c 0)]
noncomputable def hdZ(p0 p1:List MV)(z:List MO)(m:Nat):List MO:=if aT m 0 then ar z (.a p0) else if aT m 6 then ar z (.a p1) else z
noncomputable def mkZ(z:List MO)(d i:Nat)(v:Int×List Nat):List MO:=cW (Gu (Gu z 2 (.d (z.length+18))) (tix d i) (.c (b0 d i:Nat))) [.a (cB v.2),acK d i v (z.length+18),.a [],.a [],.a (pnL v.2.length)]
noncomputable def Zk(p0 p1:List MV)(f:Nat->Int×List Nat):Nat->List MO
 |0=>z0
 |m+1=>mkZ (hdZ p0 p1 (Zk p0 p1 f m) m) (m/6) (m%6) (f (m+1))
noncomputable abbrev Zb(p0 p1:List MV)(f:Nat->Int×List Nat)(m:Nat):List MO:=hdZ p0 p1 (Zk p0 p1 f m) m
section
variable{K:Nat}{n0 nu lets ps rs p0 p1:List MV}{at_:Int}{f:Nat->Int×List Nat}{R:List Row}{kr:Int}
noncomputable def NY:Nat->Nat|0=>80|_=>111
noncomputable def pD(p0 p1:List MV):Nat->List MV|0=>p0|_=>p1
structure MkO (K:Nat) (A:jD) (R:List Row) (p0 p1:List MV) (f:Nat->Int×List Nat) (d i:Nat) (kr:Int) (ks:List Nat) (zd ze:List MO):Prop where
 a:yp Tb (au Tb (K+2)) 938 [.c (b0 d i:Nat),.c (uB d i:Nat),.g (RF i),.c 6,.c (E6 i:Nat),.c kr,.d ((Zb p0 p1 f (6*d+i)).length+17)] (KH A R (ar (Zb p0 p1 f (6*d+i)) (.a (cB ks))))=some (.d ((Zb p0 p1 f (6*d+i)).length+18),KH A R zd)
 b:∀cl,dj cl (KH A R zd) (.d 19) [.d ((Zb p0 p1 f (6*d+i)).length+18)] .a=some (.f,KH A R ze)
 c:ez (KH A R ze) (.d 23) (.c (uB d i:Nat))=some (.d (Gf (uB d i)))
 e:iw Tb (KH A R ze) (.d (Gf (uB d i))) 157=some (.d (Gf (uB d i)+6))
 g:gJ Tb (KH A R ze) (.d (Gf (uB d i)+6)) 0=some .a
 h:∀cl,dj cl (KH A R ze) (.d (Gf (uB d i)+6)) [.c (b0 d i:Nat)] .a=some (.f,KH A R (Zk p0 p1 (OF f (b0 d i) (kr,ks)) (b0 d i)))
 j:gJ Tb (KH A R (ar (Zb p0 p1 f (6*d+i)) (.a (cB ks)))) (.d 19) 0=some .a
 k:(Zb p0 p1 f (6*d+i))[62]?=some (.b kK)
 l:(KH A R (Zb p0 p1 f (6*d+i)))[NY d]?=some (.a (pD p0 p1 d))
 m:mw (KH A R (Zb p0 p1 f (6*d+i))) (.d 19)=some (.c (b0 d i:Nat))
noncomputable abbrev zdO(p0 p1:List MV)(f:Nat->Int×List Nat)(d i:Nat)(kr:Int)(ks:List Nat):List MO:=cW (Zb p0 p1 f (6*d+i)) [.a (cB ks),acK d i (kr,ks) ((Zb p0 p1 f (6*d+i)).length+18),.a [],.a [],.a (pnL ks.length)]
noncomputable abbrev RW(p0 p1:List MV)(f:Nat->Int×List Nat)(d i:Nat)(kr:Int)(ks:List Nat):List MO:=Gu (zdO p0 p1 f d i kr ks) 2 (.d ((Zb p0 p1 f (6*d+i)).length+18))
theorem aed{d:Type}{l:List d}(h:l.length<=3):l=[]\/(∃a,l=[a])\/(∃a b,l=[a,b])\/∃a b c,l=[a,b,c]:=by
 match l,h with
 |[],_=>exact .inl rfl
 |[a],_=>exact .inr (.inl ⟨a,rfl⟩)
 |[a,b],_=>exact .inr (.inr (.inl ⟨a,b,rfl⟩))
 |[a,b,c],_=>exact .inr (.inr (.inr ⟨a,b,c,rfl⟩))
 |_::_::_::_::_,h=>simp at h
noncomputable def mkL(K:Nat)(A:jD)(R:List Row)(p0 p1:List MV)(f:Nat->Int×List Nat)(kr:Int)(cl:Call)(ks:List Nat)(d i:Nat):=
 (yp Tb (au Tb (K+2)) 938 [.c (b0 d i:Nat),.c (uB d i:Nat),.g (RF i),.c 6,.c (E6 i:Nat),.c kr,.d ((Zb p0 p1 f (6*d+i)).length+17)] (KH A R (ar (Zb p0 p1 f (6*d+i)) (.a (cB ks)))),
  dj cl (KH A R (zdO p0 p1 f d i kr ks)) (.d 19) [.d ((Zb p0 p1 f (6*d+i)).length+18)] .a,ez (KH A R (RW p0 p1 f d i kr ks)) (.d 23) (.c (uB d i:Nat)),iw Tb (KH A R (RW p0 p1 f d i kr ks)) (.d (Gf (uB d i))) 157,
  gJ Tb (KH A R (RW p0 p1 f d i kr ks)) (.d (Gf (uB d i)+6)) 0,dj cl (KH A R (RW p0 p1 f d i kr ks)) (.d (Gf (uB d i)+6)) [.c (b0 d i:Nat)] .a,gJ Tb (KH A R (ar (Zb p0 p1 f (6*d+i)) (.a (cB ks)))) (.d 19) 0,
  (Zb p0 p1 f (6*d+i))[62]?,(KH A R (Zb p0 p1 f (6*d+i)))[NY d]?,mw (KH A R (Zb p0 p1 f (6*d+i))) (.d 19))
noncomputable def mkR(A:jD)(R:List Row)(p0 p1:List MV)(f:Nat->Int×List Nat)(kr:Int)(ks:List Nat)(d i:Nat):Option (MV×Hp)×Option (MV×Hp)×Option MV×Option MV×Option Lg×Option (MV×Hp)×Option Lg×Option MO×Option MO×Option MV:=
 (some (.d ((Zb p0 p1 f (6*d+i)).length+18),KH A R (zdO p0 p1 f d i kr ks)),some (.f,KH A R (RW p0 p1 f d i kr ks)),some (.d (Gf (uB d i))),some (.d (Gf (uB d i)+6)),some .a,
  some (.f,KH A R (Zk p0 p1 (OF f (b0 d i) (kr,ks)) (b0 d i))),some .a,some (.b kK),some (.a (pD p0 p1 d)),some (.c (b0 d i:Nat)))
noncomputable abbrev mkS(K:Nat)(A:jD)(R:List Row)(p0 p1:List MV)(f:Nat->Int×List Nat)(kr:Int)(cl:Call)(ks:List Nat):Prop:=(fP 2).map (λd=>(fP 6).map (mkL K A R p0 p1 f kr cl ks d))=(fP 2).foldr (λd r=>(fP 6).foldr (λi r=>mkR A R p0 p1 f kr ks d i::r) []::r) []
theorem mk0(cl A):mkS K A R p0 p1 f kr cl []:=⋯
theorem mk1(cl A a):mkS K A R p0 p1 f kr cl [a]:=⋯
theorem mk2(cl A a b):mkS K A R p0 p1 f kr cl [a,b]:=⋯
theorem mk3(cl A a b c):mkS K A R p0 p1 f kr cl [a,b,c]:=⋯
theorem acM{d i:Nat}(e:d<2)(g:i<6)(A:jD){ks:List Nat}(h:ks.length<=3)(cl:Call):mkL K A R p0 p1 f kr cl ks d i=mkR A R p0 p1 f kr ks d i:=
 have E:mkS K A R p0 p1 f kr cl ks:=by
  rcases aed h with rfl|⟨a,rfl⟩|⟨a,b,rfl⟩|⟨a,b,c,rfl⟩
  ·exact mk0 ..
  ·exact mk1 ..
  ·exact mk2 ..
  ·exact mk3 ..
 mapf (mapf E (pz.mpr e)) (pz.mpr g)
theorem JF{d i:Nat}(c:d<2)(h:i<6)(A:jD){ks:List Nat}(g:ks.length<=3):MkO K A R p0 p1 f d i kr ks (zdO p0 p1 f d i kr ks) (RW p0 p1 f d i kr ks):=
 have e:=acM (K:=K) (R:=R) (p0:=p0) (p1:=p1) (f:=f) (kr:=kr) c h A g
 have n:Call:=λJ J J=>none
 have s:=congrArg gf (e n)
 have s2:=congrArg gf (congrArg gf s)
 have b:=λcl=>congrArg (λx=>x.2.2.2.2) (congrArg gf (e cl))
 have a:=congrArg gf (b n)
 ⟨congrArg jz (e n),λcl=>congrArg jz (congrArg gf (e cl)),congrArg jz (congrArg gf s),congrArg jz s2,congrArg jz (congrArg gf s2),λcl=>congrArg jz (b cl),
  congrArg jz a,congrArg jz (congrArg gf a),congrArg jz (congrArg gf (congrArg gf a)),congrArg gf (congrArg gf (congrArg gf a))⟩
end
end
section
theorem ij.B{j f:Type}{p:j->f->Prop}{a:j}{b:f}:∀{x:List j} {y:List f},ij p x y->p a b->ij p (Mine.ar x a) (Mine.ar y b)
 |[],[],_,h=>⟨h,trivial⟩
 |_::_,_::_,⟨h1,h2⟩,h=>⟨h1,ij.B h2 h⟩
section
variable{R:List Row}{v c:Nat}
theorem T9(O:rO R v true)(h:bC c=true):rO R (kd v c) (aT c 84):=by
 by_cases e:c=84
 ·refine fJ e ?_;exact O
 ·have hb:aT c 84=false:=by cases q:aT c 84 with|false=>rfl|true=>exact absurd (aK q) e
  exact(Cr e)▸hb▸(vL R h e)
theorem yh{u:CT}(W:KW R)(g:R.length<=99999)(O:rO R v true)(l:u= .b 118\/bC u.f=true){e:Prop}(j:∀(R':List Row) (n:Nat),(∀k a z d,a.a= .b d->Ww d->z[62]?=some (.b kK)->au Tb (k+8) 1277 [.d 8,u.d,.c (v:Int)] (KH a R z)=some (.c (n:Int),KH a R' z))->cj R' v n u->dM R R' 1->e):e:=by
 rcases l with rfl|h
 ·exact wq (t:= .b 118) (c:=118) W g (λh=>by cases h) ⟨rfl,rfl⟩ j
 ·refine wq (t:=u) (c:=u.f) W g (T9 O) ?_ j
  cases u with
  |b c=>exact⟨by unfold rS;rw[show bC c=true from h];rfl,rfl⟩
  |r c=>exact⟨h,rfl⟩
  |q c=>exact⟨h,rfl⟩
end
section
variable{K i d n:Nat}{n0 nu lets ps rs:List MV}{at_:Int}{R:List Row}{v:Nat}{A:jD}{z:List MO}{ts:List CT}{ρ:Loc}{dd:List (MV×MV)}
inductive KMp (R:List Row) (A:jD) (v:Nat) (ts:List CT) (z:List MO) (k:Nat) (μ:Hp) (q:List MV):Prop
 |mk (R':List Row) (ks:List Nat) (h1:q=cB ks) (h2:ij (λk t=>cj R' v k t) ks (ts.take k)) (h3:dM R R' k) (h4:μ=KH A R' z)
theorem EX{y:Prop}(W:KW R)(U:R.length<=90000)(O:rO R v true)(V:∀u∈ts,bC u.f=true)(I:ts.length<=3)(ha:A.a= .b dd)(J:Ww dd)(hz:z[62]?=some (.b kK))(Q:(KH A R z)[n]?=some (.a (ts.map CT.d)))(X:17<=n)
  (N:bz ρ 250=some (.d 8)) (Y:bz ρ 253=some (.c (v:Int))) (K:Nat) (Z:∀R' ks,(uA (λj μ=>aO Tb (au Tb (K+8)) (.j 1277 [.d 250,.d 252,.d 253]) ((252,j)::ρ) μ) n (ts.map CT.d) (ts.map CT.d) (KH A R z)=some (cB ks,KH A R' z))->(ij (λk t=>cj R' v k t) ks ts)->(dM R R' 3)->y):y:=by
 obtain⟨m,rfl⟩:∃m,n=m+17:=⟨n - 17,abl X⟩
 refine nA (n:=m+17) (f:=λj μ=>aO Tb (au Tb (K+8)) (.j 1277 [.d 250,.d 252,.d 253]) ((252,j)::ρ) μ) (all:=ts.map CT.d) (KMp R A v ts z)
  (λk μ q p=>by obtain⟨R',ks,_,_,_,rfl⟩:=p;exact Q)
  (λk w μ q y l p P=>by
   obtain⟨R1,ks,rfl,p2,G,rfl⟩:=p
   replace l:=aL▸l
   refine mm l λt h e=>?_
   subst e
   have S:bz ((252,t.d)::ρ) 250=some (.d 8):=N
   have q2:bz ((252,t.d)::ρ) 253=some (.c (v:Int)):=Y
   exact yh (v:=v) G.r (by have:=G.p;exact(bN [_,_,_,_] V0.D 99999 (.o V0.A 90000 (.o V0.B 3 (.o (V0.C+1) V0.B (.o V0.D (V0.A+V0.C) .z)))) rfl U I ((ax.mp h).1) this)) (G.A O) (.inr (V t (aU h))) λF x T M H=>
    P (.c (x:Int)) (KH A F z) ((j_ (bW (cI S _) (bW (cI rfl _) (bW (cI q2 _) (vZ _))))).trans (T K A z dd ha J hz)) ⟨F,ar ks x,by unfold cB ar;simp,(lV h)▸((p2.g H).B M),G.f H,rfl⟩) (ts.map CT.d) 0 (KH A R z) [] rfl ⟨R,[],rfl,trivial,dM.s W,rfl⟩ λxs aG e p=>?_
 obtain⟨R',ks,p1,p2,E,L⟩:=p
 rw[cQ,ay,eC] at p2
 rw[cQ,ay] at E
 rw[i9] at p1
 exact Z R' ks (e▸p1▸L▸rfl) p2 (E.e I)
end
end
section
noncomputable def bM:List MS:=match jR fu 9 3 with
 | .g _ _ b=>b
 |_=>[]
noncomputable abbrev C4(j:Nat):MS:=(bM[j]?).getD .c
structure Lr (ρ:Loc) (d:Nat):Prop where
 w:bz ρ 250=some (.d 8)
 s:bz ρ 153=some (.d 10)
 k:bz ρ 14=some (.d 11)
 d:bz ρ 263=some (.c (d:Int))
theorem Lr.a{ρ:Loc}{d:Nat}(L:Lr ρ d)(x:Nat)(v:MV)(h:x≠250/\x≠153/\x≠14/\x≠263):Lr (bp ρ x v) d:=
 ⟨by rw[dZ h.1];exact L.w,by rw[dZ h.2.1];exact L.s,by rw[dZ h.2.2.1];exact L.k,by rw[dZ h.2.2.2];exact L.d⟩
section
variable{K F i d:Nat}{n0 nu lets ps rs p0 p1:List MV}{at_ var:Int}{R:List Row}{v:Nat}{ts:List CT}{r:CT}{ρ:Loc}{f:Nat->Int×List Nat}{lZ:Hp}
theorem vo{G:Prop}(hd:d<2)(hi:i<6)(L:Lr ρ d)(h1:bz ρ 219=some (.c (uB d i:Nat)))(h2:bz ρ 156=some (.g (RF i)))(h3:bz ρ 161=some (.c (E6 i:Nat)))(h4:bz ρ 268=some (.c var))
  (I9:gJ Tb lZ (.d 11) 35=some (.c 83)) (I8:au Tb (K+8) 83 [.d 11,.e [.c var,.c 0]] lZ=some (.c (v:Int),KH (aS n0 nu lets at_ ps rs) R (Zb p0 p1 f (6*d+i))))
  (MU:ps[d]?=some (.d (NY d))) (wh:rs[d]?=some r.d) (hpd:pD p0 p1 d=ts.map CT.d) (W:KW R) (hl:R.length<=80000) (O:rO R v true) (hu:∀u∈ts,bC u.f=true) (v_:ts.length<=3) (hr:r= .b 118\/bC r.f=true)
  (k:∀R' kr ks ρ',dM R R' 4->ij (λk t=>cj R' v k t) ks ts->cj R' v kr r->aY Tb (au Tb (K+8)) F bM ρ lZ=some (.a,ρ',KH (aS n0 nu lets at_ ps rs) R' (Zk p0 p1 (OF f (b0 d i) (((kr:Nat):Int),ks)) (b0 d i)))->Lr ρ' d->G):G:=by
 refine b6 (aS n0 nu lets at_ ps rs) λA Q=>?_
 have ga:∀R z a w,iw Tb (KH (aS n0 nu lets at_ ps rs) R z) (.d 10) a=some w->iw Tb (KH A R z) (.d 10) a=some w:=λR z a w h=>Q▸h
 have ab3:∀R z,iw Tb (KH A R z) (.d 10) 157=some (.d 19):=λR z=>ga R z _ _ ⋯
 have gR:∀R z,ez (KH A R z) (.d 8) (.g [114,101,116,115])=some (.d 3):=λR z=>by rw[Q];kernel_rfl
 have gp:∀R z,ez (KH A R z) (.d 2) (.c (d:Int))=some (.d (NY d)):=λR z=>Q▸(gn (n:=2) (l:=ps) rfl MU (Q4 hd))
 have gr:∀R z,ez (KH A R z) (.d 3) (.c (d:Int))=some r.d:=λR z=>Q▸(gn (n:=3) (l:=rs) rfl wh (Q4 hd))
 have ha8:A.a= .b (wK at_):=Q▸rfl
 have hwk:Ww (wK at_):=⟨⋯,⋯,⋯⟩
 replace I8:=Q.symm▸I8
 refine b6 (Zb p0 p1 f (6*d+i)) λC Y=>?_
 have x0:bQ Tb (au Tb (K+8)) F (C4 0) ρ lZ=some (.a,bp ρ 253 (.c (v:Int)),KH A R C):=by
  refine l9 (src:= .n (.d 14) 35 [.l [.d 268,.g (.c 0)]]) ?_
  have e:gX Tb (au Tb (K+8)) [.l [.d 268,.g (.c 0)]] ρ lZ=some ([.e [.c var,.c 0]],lZ):=og (s7 (bW (cI h4 _) (og (dn _ _))) (by simp))
  rw[Mo (cI L.k _) I9 e,I8,Y]
 refine b6 (bp ρ 253 (.c (v:Int))) λbu kI=>?_
 rw[<-kI] at x0
 have L1:=kI▸(L.a _ _ (by decide))
 have M0:=JF (K:=K+6) (p0:=p0) (p1:=p1) (f:=f) (R:=R) (kr:=0) hd hi A (ks:=[]) (by simp)
 have x1:bQ Tb (au Tb (K+8)) F (C4 1) bu (KH A R C)=some (.a,bp bu 131 (.c (b0 d i:Nat)),KH A R C):=by
  refine l9 (src:= .p (.k (.d 153) 157)) ?_
  have P:=M0.m
  rw[<-Y] at P
  exact(j_ (sf (cI L1.s _) (ab3 R C))).trans (mI P)
 refine b6 (bp bu 131 (.c (b0 d i:Nat))) λfe Jb=>?_
 rw[<-Jb] at x1
 have L2:=Jb▸(L1.a _ _ (by decide))
 have I:=M0.l
 have N:=M0.k
 replace I:=Y.symm▸hpd▸I
 replace N:=Y.symm▸N
 have ac6:bz fe 253=some (.c (v:Int)):=by rw[Jb,dZ (by decide),kI,ib]
 refine EX (v:=v) W (AZ hl) O hu v_ ha8 hwk N I (by unfold NY;split<;>decide) L2.w ac6 K λJ ks mp ak G1=>?_
 have lk:=ak.e▸v_
 have src:aO Tb (au Tb (K+8)) (.h (.h (.d 250) (.g (.g [112,97,114,97,109,115]))) (.d 263)) fe (KH A R C)=some (.d (NY d),KH A R C):=
  jP (jP (cI L2.w _) (dn _ _) ((λR z=>by rw[Q];kernel_rfl) R C)) (cI L2.d _) (gp R C)
 have x2:=l9 (fuel:=F) (y:=160) (pH (x:=252) src I (by rw[ay];exact jX v_) mp)
 have lz:(KH A J C).length=C.length+17:=rfl
 rw[lz] at x2
 have x2:bQ Tb (au Tb (K+8)) F (C4 2) fe (KH A R C)=some (.a,bp fe 160 (.d (C.length+17)),KH A J (ar C (.a (cB ks)))):=x2
 refine b6 (bp fe 160 (.d (C.length+17))) λD X=>?_
 rw[<-X] at x2
 have Z:=X▸(L2.a _ _ (by decide))
 have E:∀x,x≠253->x≠131->x≠160->bz D x=bz ρ x:=λx e1 e2 e3=>by rw[X,dZ (cH e3),Jb,dZ (cH e2),kI,dZ (cH e1)]
 have V:bz D 253=some (.c (v:Int)):=by rw[X,dZ (by decide)];exact ac6
 have ac5:bz D 131=some (.c (b0 d i:Nat)):=by rw[X,dZ (by decide),Jb,ib]
 refine yh (u:=r) (v:=v) G1.r (by have:=G1.p;exact(bN [_,_] V0.B 99999 (.o V0.A 80000 (.o V0.B (V0.A+3) .z)) rfl hl this)) (G1.A O) hr λT kr vg qJ G2=>?_
 have M:=JF (K:=K+6) (p0:=p0) (p1:=p1) (f:=f) (R:=T) (kr:=(kr:Int)) hd hi A (ks:=ks) lk
 refine b6 (ar C (.a (cB ks))) λS U=>?_
 have new:=M.a
 have res:=(JF (K:=K+6) (p0:=p0) (p1:=p1) (f:=f) (R:=J) (kr:=(kr:Int)) hd hi A (ks:=ks) lk).j
 rw[<-Y,<-U] at new res
 rw[<-U] at x2
 have e3:aO Tb (au Tb (K+8)) (.H 938 [.d 131,.d 219,.d 156,.g (.c 6),.d 161,.j 1277 [.d 250,.h (.h (.d 250) (.g (.g [114,101,116,115]))) (.d 263),.d 253],.d 160]) D (KH A J S)=some (.d (C.length+18),KH A T (zdO p0 p1 f d i kr ks)):=by
  have a6:aO Tb (au Tb (K+8)) (.j 1277 [.d 250,.h (.h (.d 250) (.g (.g [114,101,116,115]))) (.d 263),.d 253]) D (KH A J S)=some (.c ((kr:Nat):Int),KH A T S):=by
   rw[kW (bW (cI Z.w _) (bW (jP (jP (cI Z.w _) (dn _ _) (gR J S)) (cI Z.d _) (gr J S)) (og (cI V _))))]
   exact(vg K A S (wK at_) ha8 hwk (U▸(fV _ N)))
  exact(j_ (bW (cI ac5 _) (bW (cI ((E 219 Q7 Q6 Q5).trans h1) _) (bW (cI ((E 156 (by decide) (by decide) (by decide)).trans h2) _) (bW (dn _ _) (bW (cI ((E 161 (by decide) (by decide) (by decide)).trans h3) _) (bW a6 (og (cI (by rw[X,ib]) _))))))))).trans new
 have x3:bQ Tb (au Tb (K+8)) F (C4 3) D (KH A J S)=some (.a,D,KH A T (RW p0 p1 f d i kr ks)):=
  nC (q:=19) (sf (cI Z.s _) (ab3 J S)) res e3 (Y▸(M.b _))
 have x4:bQ Tb (au Tb (K+8)) F (C4 4) D (KH A T (RW p0 p1 f d i kr ks))=some (.a,D,KH A T (Zk p0 p1 (OF f (b0 d i) (((kr:Nat):Int),ks)) (b0 d i))):=
  nC (q:=Gf (uB d i)+6) (sf (jP (sf (cI Z.s _) ((λR z=>ga R z _ _ ⋯) _ _)) (cI ((E 219 Q7 Q6 Q5).trans h1) _) M.c) M.e) M.g (cI ac5 _) (M.h _)
 refine k T kr ks D ((G1.f G2).e (by decide)) (ak.g G2) qJ ?_ Z
 rw[<-Q]
 show aY Tb (au Tb (K+8)) F ([C4 0]++([C4 1]++([C4 2]++([C4 3]++[C4 4])))) ρ lZ=_
 rw[cz (x:=[C4 0]) (cD x0 rfl),cz (x:=[C4 1]) (cD x1 rfl),cz (x:=[C4 2]) (cD x2 rfl),cz (x:=[C4 3]) (cD x3 rfl)]
 exact cD x4 rfl
end
end
section
section
variable{T:Tab}{cl:Call}{F:Nat}{t:MT}{e:ME}{b:List MS}{ρ bu fe:Loc}{μ bF eh:Hp}{l:List MV}{v:MV}{r:Option (Fl×Loc×Hp)}
theorem Bz(a:aO T cl e ρ μ=some (.e l,bF))(h:qG (λρ μ=>aY T cl F b ρ μ) (λv ρ μ=>eY T cl t v ρ μ) l ρ bF=r):bQ T cl F (.g t (.b e) b) ρ μ=r:=(j_ a).trans h
end
noncomputable def JJ:Nat->Int|1=>7|5=>7|_=>6
noncomputable def tv(d i:Nat):MV:= .e [.c (uB d i:Nat),.g (RF i),.c (E6 i:Nat),.c (JJ i)]
noncomputable def Cf.k(Γ:Cf)(j:Nat):Cf:={Γ with h:=j}
theorem vz(Γ:Cf)(j d:Nat):(Γ.k j).T d=Γ.T d/\(Γ.k j).r d=Γ.r d:=by cases d<;>exact⟨rfl,rfl⟩
theorem acU(Γ:Cf)(d:Nat):pD (Γ.a.map CT.d) (Γ.g.map CT.d) d=(Γ.T d).map CT.d:=by cases d<;>rfl
theorem v_7{Γ:Cf}{i j:Nat}(h:i=1\/i=5):JJ i=7/\(Γ.k j).v i=j+20:=by rcases h with rfl|rfl<;>exact⟨rfl,rfl⟩
theorem v_6{Γ:Cf}{i j:Nat}(h:i=0\/i=2\/i=3\/i=4):JJ i=6/\(Γ.k j).v i=19:=by rcases h with rfl|rfl|rfl|rfl<;>exact⟨rfl,rfl⟩
structure AL (Γ:Cf) (c:Nat) (R:List Row) (f:Nat->Int×List Nat):Prop where
 a:KW R
 j:R.length<=5*c
 m:2<=c->R[Γ.h]?=some .f
 n:∀d i,d<2->i<6->6*d+i<c->ij (λk t=>cj R (Γ.v i) k t) (f (b0 d i)).2 (Γ.T d)/\∃kr:Nat,(f (b0 d i)).1=(kr:Int)/\cj R (Γ.v i) kr (Γ.r d)
theorem KR(f:Nat->Int×List Nat)(m:Nat)(v:Int×List Nat):OF f m v m=v:=by unfold OF;rw[Nat.beq_refl];rfl
theorem V2(f:Nat->Int×List Nat){m j:Nat}(v:Int×List Nat)(h:j≠m):OF f m v j=f j:=by
 unfold OF;rw[if_neg λe=>h (aK e)]
theorem AL.g{Γ p:Cf}{c d i kr:Nat}{R R':List Row}{f:Nat->Int×List Nat}{ks:List Nat}(S:AL Γ c R f)(hd:d<2)(hi:i<6)(N:c=6*d+i)(W:KW R')(V:∃x,R'=R++x)(hl:R'.length<=R.length+5)
  (hT:p.T d=Γ.T d/\p.r d=Γ.r d) (s:∀d,p.T d=Γ.T d/\p.r d=Γ.r d) (hv:2<=c->p.h=Γ.h) (Z:2<=c+1->R'[p.h]?=some .f) (ak:ij (λk t=>cj R' (p.v i) k t) ks (Γ.T d)) (Y:cj R' (p.v i) kr (Γ.r d)):
  AL p (c+1) R' (OF f (b0 d i) (((kr:Nat):Int),ks)):=by
 refine dG V λx Q=>?_
 refine⟨W,by have:=S.j;exact(bN [_,_,_] V0.A (V0.M 5 (V0.C+1)) (.o V0.A (V0.B+5) (.o V0.B (V0.M 5 V0.C) .z)) rfl hl this),Z,λG I H w P=>?_⟩
 by_cases e:6*G+I=c
 ·have U:=abF hi N w e
  have e2:=abE N e U
  subst U e2
  rw[KR,(s G).1,(s G).2]
  exact⟨ak,kr,rfl,Y⟩
 ·obtain⟨q1,RB,q2,q3⟩:=S.n G I H w ((bL e).elim (λy=>gz [_,_,_] (V0.M 6 V0.A+V0.B) V0.C (.o (V0.M 6 V0.A+V0.B+1) V0.C .z) rfl y) λy=>cL λL=>bZ [_,_,_] (.o (V0.M 6 V0.A+V0.B+1) (V0.C+1) (.o (V0.C+1) (V0.M 6 V0.A+V0.B) .z)) rfl P y)
  have X:p.v I=Γ.v I:=by
   by_cases O:2<=c
   ·unfold Cf.v;rw[hv O]
   ·have:I=0:=abD H w P e O
    refine fJ this ?_;rfl
  exact(V2 _ _ ((bL e).elim (λy=>λL=>bZ [_,_,_,_,_] (.e V0.A (V0.M 6 V0.B+V0.C) (.o (V0.M 6 V0.D+V0.E+1) V0.A (.f (V0.M 6 V0.B+V0.C+1) (V0.M 6 V0.D+V0.E+1) .z))) rfl N y L) λy=>λL=>bZ [_,_,_,_,_] (.f (V0.M 6 V0.B+V0.C) V0.A (.o (V0.A+1) (V0.M 6 V0.D+V0.E) (.e (V0.M 6 V0.D+V0.E+1) (V0.M 6 V0.B+V0.C+1) .z))) rfl N y L))▸((s G).1)▸((s G).2)▸X▸(⟨Q▸(q1.u λJ J q=>q.o x),RB,q2,Q▸(q3.o x)⟩)
theorem US{p0 p1:List MV}{z:List MO}{m:Nat}(g:m≠0)(a:m≠6):hdZ p0 p1 z m=z:=by
 unfold hdZ
 rw[if_neg λe=>g (aK e),if_neg λe=>a (aK e)]
section
variable{K F i d c:Nat}{n0 nu lets ps rs:List MV}{at_:Int}{R:List Row}{ρ:Loc}{f:Nat->Int×List Nat}{lZ:Hp}{Γ:Cf}
theorem J0{G:Prop}(q:d<2)(n:i<6)(L:Lr ρ d)(S:AL Γ (6*d+i) R f)(X:ps[d]?=some (.d (NY d)))(V:rs[d]?=some (Γ.r d).d)(hu:∀u∈Γ.T d,bC u.f=true)(h3:(Γ.T d).length<=3)(Y:Γ.r d= .b 118\/bC (Γ.r d).f=true)
  (s:lZ=KH (aS n0 nu lets at_ ps rs) R (Zb (Γ.a.map CT.d) (Γ.g.map CT.d) f (6*d+i))\/(6*d+i=0/\R=[]/\lZ=O4 (aS n0 nu lets at_ ps rs) (Zb (Γ.a.map CT.d) (Γ.g.map CT.d) f (6*d+i))))
  (k:∀j R' Z ρ' bu,eY Tb (au Tb (K+8)) (.c [219,156,161,268]) (tv d i) ρ lZ=some (bu,lZ)->aY Tb (au Tb (K+8)) F bM bu lZ=some (.a,ρ',KH (aS n0 nu lets at_ ps rs) R' (Zk (Γ.a.map CT.d) (Γ.g.map CT.d) Z (6*d+i+1)))->AL (Γ.k j) (6*d+i+1) R' Z->Lr ρ' d->G):G:=by
 have H:=S.j
 refine b6 (bp (bp (bp (bp ρ 219 (.c (uB d i:Nat))) 156 (.g (RF i))) 161 (.c (E6 i:Nat))) 268 (.c (JJ i))) λbu w=>?_
 have st:eY Tb (au Tb (K+8)) (.c [219,156,161,268]) (tv d i) ρ lZ=some (bu,lZ):=w▸rfl
 have L1:=w▸((((L.a _ _ abC).a _ _ abB).a _ _ abA).a _ _ abz)
 have E:bz bu 219=some (.c (uB d i:Nat)):=by rw[w,dZ aby,dZ abx,dZ abw,ib]
 have U:bz bu 156=some (.g (RF i)):=by rw[w,dZ abv,dZ abu,ib]
 have W:bz bu 161=some (.c (E6 i:Nat)):=by rw[w,dZ abt,ib]
 have A:bz bu 268=some (.c (JJ i)):=by rw[w,ib]
 have D:=acU Γ d
 by_cases y:i=1\/i=5
 ·have s:lZ=KH (aS n0 nu lets at_ ps rs) R (Zb (Γ.a.map CT.d) (Γ.g.map CT.d) f (6*d+i)):=by
   rcases s with h|⟨h,_⟩
   ·exact h
   ·(exfalso;exact Tz n y h)
  have Q:=(v_7 (Γ:=Γ) (j:=0) y).1
  rw[Q] at A
  refine Dh (row:= .f) S.a (abr q n H) (.inl rfl) λR1 j hp P=>?_
  refine dG P.c λx1 C=>?_
  refine vo (v:=j+20) (ts:=Γ.T d) (r:=Γ.r d) (F:=F) q n L1 E U W A (by rw[s];kernel_rfl) (s▸(hp (K+2) _ _)) X V D P.e (by have:=P.d;exact abp q n H this) (zj P.b (by have:=P.d;exact abq q n H this) (.inl rfl)) hu h3 Y λR' kr ks ρ' o O N x M=>?_
  have z:=(v_7 (Γ:=Γ) (j:=j) y).2
  refine k j R' _ ρ' bu st x (S.g q n rfl o.r ?_ (by have t1:=o.p;have t2:=P.d;exact T6 t1 t2) (vz ..) (vz _ _) (λh=>P.e.f P.b (C▸(l7 (S.m h)))) (λJ=>o.B P.b) (z▸O) (z▸N)) M
  refine dG o.c λx2 I=>?_
  exact⟨x1++x2,by rw[I,C,cC]⟩
 ·have Q:=(v_6 (Γ:=Γ) (j:=0) (Q9 n y)).1
  replace A:=Q▸A
  have I8:au Tb (K+8) 83 [.d 11,.e [.c 6,.c 0]] lZ=some (.c ((19:Nat):Int),KH (aS n0 nu lets at_ ps rs) R (Zb (Γ.a.map CT.d) (Γ.g.map CT.d) f (6*d+i))):=by
   rcases s with h|⟨_,E,h⟩
   ·rw[h];exact J6 S.a _ _ (K+1)
   ·exact h▸E▸(Fd _ _ (K+1))
  refine vo (v:=19) (ts:=Γ.T d) (r:=Γ.r d) (F:=F) q n L1 E U W A (by rcases s with h|⟨_,_,h⟩<;>rw[h]<;>kernel_rfl) I8 X V D S.a (abo q n H) (nN R 19 aam aad Z_) hu h3 Y λR' kr ks ρ' o O N x M=>?_
  have z:=(v_6 (Γ:=Γ) (j:=Γ.h) (Q9 n y)).2
  exact k Γ.h R' _ ρ' bu st x (S.g q n rfl o.r o.c (by have:=o.p;exact abg this) (vz ..) (vz _ _) (λJ=>rfl) (λh=>o.B (S.m (abf n y h))) (z▸O) (z▸N)) M
end
end
section
noncomputable def tvs(d:Nat):Nat->Nat->List MV
 |_,0=>[]
 |i,n+1=>tv d i::tvs d (i+1) n
section
variable{K F i d c:Nat}{n0 nu lets ps rs:List MV}{at_:Int}{R:List Row}{ρ:Loc}{f:Nat->Int×List Nat}{lZ:Hp}{Γ:Cf}
theorem yE(p:d<2):∀(n i:Nat),i+n=6->∀(Γ:Cf) (R:List Row) (f:Nat->Int×List Nat) (ρ:Loc) (lZ:Hp),Lr ρ d->AL Γ (6*d+i) R f->ps[d]?=some (.d (NY d))->rs[d]?=some (Γ.r d).d->(∀u∈Γ.T d,bC u.f=true)->(Γ.T d).length<=3->(Γ.r d= .b 118\/bC (Γ.r d).f=true)->
  (i=0/\(lZ=KH (aS n0 nu lets at_ ps rs) R (Zb (Γ.a.map CT.d) (Γ.g.map CT.d) f (6*d+i))\/(6*d+i=0/\R=[]/\lZ=O4 (aS n0 nu lets at_ ps rs) (Zb (Γ.a.map CT.d) (Γ.g.map CT.d) f (6*d+i))))\/0<i/\lZ=KH (aS n0 nu lets at_ ps rs) R (Zk (Γ.a.map CT.d) (Γ.g.map CT.d) f (6*d+i)))->
  ∃j R' o ρ',qG (λρ μ=>aY Tb (au Tb (K+8)) F bM ρ μ) (λv ρ μ=>eY Tb (au Tb (K+8)) (.c [219,156,161,268]) v ρ μ) (tvs d i n) ρ lZ=some (.a,ρ',KH (aS n0 nu lets at_ ps rs) R' (Zk (Γ.a.map CT.d) (Γ.g.map CT.d) o (6*d+6)))/\AL (Γ.k j) (6*d+6) R' o/\Lr ρ' d
 |0,i,l,Γ,R,f,ρ,lZ,L,S,_,_,_,_,_,tj=>by
  have l:=l
  subst l
  rcases tj with⟨h,_⟩|⟨_,rfl⟩
  ·cases h
  ·exact⟨Γ.h,R,f,ρ,rfl,S,L⟩
 |n+1,i,l,Γ,R,f,ρ,lZ,L,S,MU,wh,hu,h3,hr,tj=>by
  have m:lZ=KH (aS n0 nu lets at_ ps rs) R (Zb (Γ.a.map CT.d) (Γ.g.map CT.d) f (6*d+i))\/(6*d+i=0/\R=[]/\lZ=O4 (aS n0 nu lets at_ ps rs) (Zb (Γ.a.map CT.d) (Γ.g.map CT.d) f (6*d+i))):=by
   rcases tj with⟨_,h⟩|⟨y,h⟩
   ·exact h
   ·left;rw[h];unfold Zb;rw[US (abI l y) (abH l y)]
  refine J0 (K:=K) (F:=F) p (gz [_,_] V0.A 6 (.e (V0.A+(V0.B+1)) 6 .z) rfl l) L S MU wh hu h3 hr m λj s q D bu st x S1 E=>?_
  have t:=(vz Γ j d).1
  have w:=(vz Γ j d).2
  obtain⟨C,R',o,ρ',e,S',G⟩:=yE p n (i+1) (aR (bN [_,_] (V0.A+1+V0.B) 6 (.e (V0.A+(V0.B+1)) 6 .z) rfl l) (bN [_,_] 6 (V0.A+1+V0.B) (.f 6 (V0.A+(V0.B+1)) .z) rfl l)) (Γ.k j) s q D (KH (aS n0 nu lets at_ ps rs) s (Zk (Γ.a.map CT.d) (Γ.g.map CT.d) q (6*d+i+1))) E S1 MU (w▸wh) (t▸hu) (t▸h3) (w▸hr) (.inr ⟨abG l,rfl⟩)
  exact⟨C,R',o,ρ',(nU st x).trans e,S',G⟩
noncomputable abbrev adv:ME:= .l [.l [.r .a (.g (.c 64)) (.d 263),.g (.g [73,110,118,111,107,101]),.g (.c 0),.g (.c 6)],.l [.g (.c 66),.g (.g [97]),.g (.c 1),.g (.c 7)],.l [.g (.c 67),.g (.g [98]),.g (.c 1),.g (.c 6)],.l [.g (.c 67),.g (.g [99]),.g (.c 0),.g (.c 6)],.l [.g (.c 68),.g (.g [100]),.g (.c 0),.g (.c 6)],.l [.g (.c 66),.g (.g [101]),.g (.c 0),.g (.c 7)]]
theorem V1(h:d<2)(L:Lr ρ d)(cl:Call)(μ:Hp):aO Tb cl adv ρ μ=some (.e (tvs d 0 6),μ):=by
 have h:=m9 h
 have x:aO Tb cl (.r .a (.g (.c 64)) (.d 263)) ρ μ=some (.c (64+(d:Int)),μ):=j_ (cI L.d μ)
 have f:∀a b c d,aO Tb cl (.l [.g a,.g b,.g c,.g d]) ρ μ=some (.e [a,b,c,d],μ):=λa b c d=>s7 (bW (dn _ _) (bW (dn _ _) (bW (dn _ _) (og (dn _ _))))) (by simp)
 refine(s7 (bW (s7 (bW x (bW (dn _ _) (bW (dn _ _) (og (dn _ _))))) (by simp)) (bW (f _ _ _ _) (bW (f _ _ _ _) (bW (f _ _ _ _) (bW (f _ _ _ _) (og (f _ _ _ _))))))) (by simp)).trans ?_
 rcases h with rfl|rfl<;>kernel_rfl
theorem KA{G:Prop}(l:d<2)(L:Lr ρ d)(S:AL Γ (6*d) R f)(m:ps[d]?=some (.d (NY d)))(o:rs[d]?=some (Γ.r d).d)(p:∀u∈Γ.T d,bC u.f=true)(s:(Γ.T d).length<=3)(n:Γ.r d= .b 118\/bC (Γ.r d).f=true)
  (t:lZ=KH (aS n0 nu lets at_ ps rs) R (Zb (Γ.a.map CT.d) (Γ.g.map CT.d) f (6*d))\/(6*d=0/\R=[]/\lZ=O4 (aS n0 nu lets at_ ps rs) (Zb (Γ.a.map CT.d) (Γ.g.map CT.d) f (6*d))))
  (k:∀j R' h ρ',bQ Tb (au Tb (K+8)) F (jR fu 9 3) ρ lZ=some (.a,ρ',KH (aS n0 nu lets at_ ps rs) R' (Zk (Γ.a.map CT.d) (Γ.g.map CT.d) h (6*d+6)))->AL (Γ.k j) (6*d+6) R' h->Lr ρ' d->G):G:=by
 refine adN (yE (K:=K) (F:=F) (n0:=n0) (nu:=nu) (lets:=lets) (at_:=at_) (ps:=ps) (rs:=rs) l 6 0 rfl Γ R f ρ lZ L S m o p s n (.inl ⟨rfl,t⟩)) λj R' h ρ' e S' q=>?_
 refine k j R' h ρ' ?_ S' q
 exact(by kernel_rfl:jR fu 9 3= .g (.c [219,156,161,268]) (.b adv) bM)▸(Bz (V1 l L _ _) e)
end
end
section
noncomputable abbrev bD:List MS:=[jR fu 9 0,jR fu 9 1,jR fu 9 2,jR fu 9 3]
theorem aeI:fH fu 9= .g (.b 263) (.b (.l [.g (.c 0),.g (.c 1)])) bD:=⋯
theorem AL.o{Γ b:Cf}{R:List Row}{f:Nat->Int×List Nat}(S:AL Γ 6 R f)(t:b.a=Γ.a)(q:b.m=Γ.m)(e:b.h=Γ.h):AL b 6 R f:=
 ⟨S.a,S.j,λh=>e▸(S.m h),λd i c l k=>by
  have:d=0:=abK c l k
  subst this
  have:=S.n 0 i c l k
  have p:b.T 0=Γ.T 0:=t
  have s:b.r 0=Γ.r 0:=q
  exact p▸s▸(by unfold Cf.v;rw[e]:b.v i=Γ.v i)▸this⟩
theorem VQ(Γ:Cf)(f:Nat->Int×List Nat):AL Γ 0 [] f:=⟨Vd,aC _,λh=>absurd h (by decide),λd i J J h=>absurd h (wV _)⟩
structure StO (Γ:Cf) (i:Nat) (R:List Row) (f:Nat->Int×List Nat) (i':Nat):Prop where
 a:AL Γ 12 R f
 b:Γ.a.length<=3
 c:Γ.g.length<=3
 d:∀u∈Γ.a,u∈oM
 e:∀u∈Γ.g,u∈oM
 g:Γ.m∈Ag
 h:Γ.n∈Ag
 j:i'<=i+10
section
variable{K i:Nat}{n0 nu lets:List MV}
theorem KI{G:Prop}(H:Nums nu)(hi:i<=1000)(a b:Nat)(K:Nat)
  (k:∀(Γ:Cf) (R:List Row) (f:Nat->Int×List Nat) (i':Nat),Γ.o=a->Γ.p=b->au Tb (K+13) 1296 [.d 8] (Lp n0 nu lets (i:Int))=some (.d 10,KH (aS n0 nu lets (i':Int) [.d 80,.d 111] [Γ.m.d,Γ.n.d]) R (Zk (Γ.a.map CT.d) (Γ.g.map CT.d) f 12))->StO Γ i R f i'->G):G:=by
 have W:=ac4 (K:=K) (n0:=n0) (nu:=nu) (lets:=lets) (at_:=(i:Int))
 have z17:z0.length+17=80:=⋯
 refine b6 (bp ρS 263 (.c ((0:Nat):Int))) λt X=>?_
 have La:Lr t 0:=X▸(⟨rfl,rfl,rfl,rfl⟩)
 refine Cg (i:=i) (n0:=n0) (nu:=nu) (lets:=lets) (ps:=[]) (rs:=[]) (ro:=bR.take 19) (ix:=bI.take 19) (de:=l_.take 19) (we:=l_.take 19) (op:=uo.take 19) (z:=z0) (ρ:=t) H (eK hi) La.w (by simp) (by simp) (K+11) (K+12) λc0 v r0 S h1 h2 h3 h4 x0=>?_
 rw[z17] at x0
 refine b6 (v.map CT.d) λp0 P=>?_
 rw[<-P] at x0
 refine b6 (O4 (aS n0 nu lets (i:Int) [] []) z0) λM0 hM0=>?_
 refine b6 (O4 (aS n0 nu lets (S:Int) [.d 80] [r0.d]) (Zb p0 [] (λJ=>(0,[])) (6*0))) λM1 Y=>?_
 rw[<-hM0] at W
 have e0:SH n0 nu lets [] [] (bR.take 19) (bI.take 19) (l_.take 19) (l_.take 19) (uo.take 19) z0 i=M0:=by rw[hM0];kernel_rfl
 have e1:SH n0 nu lets (ar [] (.d 80)) (ar [] r0.d) (bR.take 19) (bI.take 19) (l_.take 19) (l_.take 19) (uo.take 19) (ar z0 (.a p0)) S=M1:=by rw[Y];kernel_rfl
 rw[e0,e1] at x0
 obtain⟨Q,E⟩:∃y:Cf,y=⟨v,[],r0,.b 118,a,b,0⟩:=⟨_,rfl⟩
 have Z:∀ts:List CT,(∀u∈ts,u∈oM)->∀u∈ts,bC u.f=true:=λts h u hu=>(tY u (h u hu)).1
 have eP:Q.a.map CT.d=p0:=E▸P▸rfl
 have eQ:Q.g.map CT.d=[]:=E▸rfl
 refine KA (K:=K+4) (F:=K+12) (d:=0) (ρ:=bp t 58 (.c c0)) (lZ:=M1) (Γ:=Q) (R:=[]) (f:=λJ=>(0,[])) (n0:=n0) (nu:=nu) (lets:=lets) (at_:=(S:Int)) (ps:=[.d 80]) (rs:=[r0.d]) xx (La.a _ _ Q_) (VQ _ _) rfl (E▸rfl) (E▸(Z v h2)) (E▸h1) (E▸(su r0 h3)) (.inr ⟨rfl,rfl,by rw[eP,eQ];exact Y⟩) λj q M bu x1 S1 L1=>?_
 refine b6 (KH (aS n0 nu lets (S:Int) [.d 80] [r0.d]) q (Zk p0 [] M 6)) λM2 hM2=>?_
 have z6:(Zk p0 [] M 6).length+17=111:=⋯
 refine b6 (bp bu 263 (.c ((1:Nat):Int))) λr acs=>?_
 have Lb:Lr r 1:=acs▸(⟨by rw[dZ (by decide)];exact L1.w,by rw[dZ (by decide)];exact L1.s,by rw[dZ (by decide)];exact L1.k,ib _⟩)
 refine Cg (i:=S) (n0:=n0) (nu:=nu) (lets:=lets) (ps:=[.d 80]) (rs:=[r0.d]) (ro:=bR++q.map Row.a) (ix:=bI++iF 20 q) (de:=l_++q.map Row.h) (we:=l_++q.map Row.i) (op:=uo++q.map Row.g) (z:=Zk p0 [] M 6) (ρ:=r) H (bN [_,_] V0.B 70000 (.o V0.A 1000 (.o V0.B (V0.A+5) .z)) rfl hi h4) Lb.w (by simp) (by simp) (K+11) (K+12) λc1 O L i1 g1 g2 g3 g4 y0=>?_
 rw[z6] at y0
 refine b6 (O.map CT.d) λp1 MQ=>?_
 rw[<-MQ] at y0
 refine b6 (KH (aS n0 nu lets (i1:Int) [.d 80,.d 111] [r0.d,L.d]) q (Zb p0 p1 M (6*1))) λM3 U=>?_
 have e2:SH n0 nu lets [.d 80] [r0.d] (bR++q.map Row.a) (bI++iF 20 q) (l_++q.map Row.h) (l_++q.map Row.i) (uo++q.map Row.g) (Zk p0 [] M 6) S=M2:=by rw[hM2];kernel_rfl
 have e3:SH n0 nu lets (ar [.d 80] (.d 111)) (ar [r0.d] L.d) (bR++q.map Row.a) (bI++iF 20 q) (l_++q.map Row.h) (l_++q.map Row.i) (uo++q.map Row.g) (ar (Zk p0 [] M 6) (.a p1)) i1=M3:=by rw[U];kernel_rfl
 rw[e2,e3] at y0
 obtain⟨D,e⟩:∃y:Cf,y=⟨v,O,r0,L,a,b,j⟩:=⟨_,rfl⟩
 have I:D.a.map CT.d=p0:=e▸P▸rfl
 have N:D.g.map CT.d=p1:=e▸MQ▸rfl
 refine KA (K:=K+4) (F:=K+12) (d:=1) (ρ:=bp r 58 (.c c1)) (lZ:=M3) (Γ:=D) (R:=q) (f:=M) (n0:=n0) (nu:=nu) (lets:=lets) (at_:=(i1:Int)) (ps:=[.d 80,.d 111]) (rs:=[r0.d,L.d]) Ra (Lb.a _ _ Q_) (S1.o (e▸E▸rfl) (e▸E▸rfl) (e▸rfl)) rfl (e▸rfl) (e▸(Z O g2)) (e▸g1) (e▸(su L g3)) (.inl (I▸N▸U)) λT R2 f2 fe x2 S2 L2=>?_
 refine b6 (KH (aS n0 nu lets (i1:Int) [.d 80,.d 111] [r0.d,L.d]) R2 (Zk p0 p1 f2 12)) λM4 V=>?_
 refine k (D.k T) R2 f2 i1 (e▸rfl) (e▸rfl) ?_ ⟨S2,e▸h1,e▸g1,e▸h2,e▸g2,e▸h3,e▸g3,bN [_,_,_] V0.C (V0.B+10) (.o V0.A (V0.B+5) (.o V0.C (V0.A+5) .z)) rfl h4 g4⟩
 have eT0:((D.k T).a.map CT.d)=p0:=I
 have eT1:((D.k T).g.map CT.d)=p1:=N
 have er0:(D.k T).m=r0:=e▸rfl
 have er1:(D.k T).n=L:=e▸rfl
 refine eT0▸eT1▸er0▸er1▸?_
 refine V▸?_
 have lp:bQ Tb (au Tb (K+12)) (K+12) (fH fu 9) ρS M0=some (.a,fe,M4):=by
  refine aeI▸(Bz (bF:=M0) (l:=[.c 0,.c 1]) ⋯ ?_)
  refine(nU (bu:=t) (X▸rfl) ((cz x0).trans (cD (by rw[eP,eQ] at x1;rw[hM2];exact x1) rfl):aY Tb (au Tb (K+12)) (K+12) bD t M0=some (.a,bu,M2))).trans ?_
  refine(nU (bu:=r) (acs▸rfl) ((cz y0).trans (cD (by rw[I,N] at x2;rw[V];exact x2) rfl):aY Tb (au Tb (K+12)) (K+12) bD r M2=some (.a,fe,M4))).trans ?_
  rfl
 refine pG (F:=fu) (ρ:=fe) ⋯ rfl ?_
 show aY Tb (au Tb (K+12)) (K+12) (bS0++([fH fu 9]++[fH fu 10])) [(250,.d 8)] (Lp n0 nu lets (i:Int))=_
 rw[cz W,cz (x:=[fH fu 9]) (cD lp rfl)]
 exact oxR (j_ (cI L2.s _))
end
end
section
noncomputable def Nz:List (Nat×Nat):=[(121,2273),(115,2274),(112,2275),(72,2276),(101,2277),(108,2278),(107,2279),(98,2280)]
noncomputable abbrev ltV:MV:= .e [.j [121] 2273,.j [115] 2274,.j [112] 2275,.j [72] 2276,.j [101] 2277,.j [108] 2278,.j [107] 2279,.j [98] 2280]
theorem RD{a:Prop}(μ:Hp){y:Nat}(h:y<8)(b:∀p,(p∈Nz)->(ez μ ltV (.c (y:Int))=some (.j [p.1] p.2))->a):a:=by
 refine b (Nz[y]'h) (iK h) ?_
 have e:((fP 8).map λy:Nat=>ez μ ltV (.c y))=Nz.map λp=>some (.j [p.1] p.2):=⋯
 have e:=congrArg (λl=>l[y]?) e
 rw[aL,qo h,aL,aN h] at e
 exact ba e
theorem Jz{p:Nat×Nat}(h:p∈Nz):p.1∈[121,115,112,72,101,108,107,98]/\0<p.2/\p.2<2455:=
 of_decide_eq_true (aQ.mp (by kernel_rfl:(Nz.all λp=>decide (p.1∈[121,115,112,72,101,108,107,98]/\0<p.2/\p.2<2455))=true) p h)
noncomputable abbrev JK(l:List Int):List MV:=(l.take 40).map .c
noncomputable abbrev nuL(l:List Int):List MV:=(l.take 40).map λi=> .c (i.fmod 999983)
noncomputable abbrev w3(at_:Int):List (MV×MV):=[((.g [110,117,109,115]),.d 1),((.g [97,116]),.c at_),((.g [112,97,114,97,109,115]),.d 2),((.g [114,101,116,115]),.d 3),((.g [98,111,100,121]),.d 7)]
noncomputable abbrev mP(n0 nu:List MV)(at_:Int):Hp:=[.a n0,.a nu,.a [],.a [],.a [tO],.a [tO,tO,tO,tO,tO,tO,tO,tO,tO],.a [],bdO,.b (w3 at_)]
noncomputable abbrev bL0:List MS:=[fH eJ 2,fH eJ 3,fH eJ 4]
section
variable{l:List Int}
theorem C8(h:l≠[]):Nums (nuL l):=by
 refine⟨λv a=>?_,?_,by simp;exact abn⟩
 ·refine cf (cY.mp a) λi J z0=>?_
  refine rQ z0 ?_
  exact⟨_,rfl⟩
 ·rw[ay,gN]
  have:=List.length_pos_iff.mpr h
  exact(Nat.lt_min.mpr ⟨by decide,this⟩)
theorem JX(K:Nat)(ρ:Loc):uA (λj μ=>aO Tb (au Tb K) (.r .b (.d 74) (.g (.c 999983))) ((74,j)::ρ) μ) 0 (JK l) (JK l) [.a (JK l)]=some (nuL l,[.a (JK l)]):=by
 refine nA (n:=0) (f:=λj μ=>aO Tb (au Tb K) (.r .b (.d 74) (.g (.c 999983))) ((74,j)::ρ) μ) (all:=JK l)
  (λk μ q=>q=(nuL l).take k/\μ=[.a (JK l)]) (λk μ q p=>p.2▸rfl)
  (λk v μ q t h p m=>by
   obtain⟨rfl,rfl⟩:=p
   replace h:=aL▸h
   obtain⟨i,o,rfl⟩:=Option.map_eq_some_iff.mp h
   refine m (.c (i.fmod 999983)) _ rfl ⟨?_,rfl⟩
   rw[lV (v:= .c (i.fmod 999983)) (aL▸o▸rfl)]) (JK l) 0 [.a (JK l)] [] rfl ⟨rfl,rfl⟩ λxs s e p=>?_
 obtain⟨p1,p2⟩:=p
 rw[i9,cQ,ay] at p1
 rw[e,p1,p2,dF (by rw[ay];exact AY)]
theorem Ve(j:l≠[])(h:l.length<=63)(K:Nat):aY Tb (au Tb (K+2)) (K+2) [fH eJ 0,fH eJ 1] [(298,.m l)] []=some (.a,[(298,.m l),(251,.d 1)],[.a (JK l),.a (nuL l)]):=by
 have H:=C8 j
 refine b6 (JK l) λn0 e=>?_
 refine b6 (nuL l) λnu f=>?_
 have i:=l9 (fuel:=K+2) (y:=251) (pH (x:=74) (e▸(j7 (eK h)):aO Tb (au Tb (K+2)) (.y (.d 298) none (some (.g (.c 40)))) [(298,.m l)] []=some (.d 0,[.a n0])) rfl (by rw[e];simp;exact abm h) (by rw[e];exact JX (K+2) _))
 have x0:=e▸f▸i
 rw[<-f] at H
 refine e▸f▸?_
 show aY Tb (au Tb (K+2)) (K+2) ([fH eJ 0]++[fH eJ 1]) _ _=_
 rw[cz (x:=[fH eJ 0]) (cD x0 rfl)]
 exact cD (uD [(0,ov (ly rfl (by have:=H.a;unfold bA;exact rA this):mw [.a n0,.a nu] (.d 1)=some (.c (nu.length:Nat)))),(1,oq (nE (c:=0) (n:=nu.length) (by have:=H.b;exact Pk this) (μ:=[.a n0,.a nu])))] ⋯) rfl
end
section
variable{n0 nu:List MV}{sc:MV}
theorem Nr{G:Prop}(H:Nums nu)(K:Nat)
  (k:∀(y:Int) (p q:Nat×Nat),p∈Nz->q∈Nz->aY Tb (au Tb (K+2)) (K+2) bL0 [(298,sc),(251,.d 1)] [.a n0,.a nu]=some (.a,[(298,sc),(251,.d 1),(250,.d 8),(226,.c y)],Lp n0 nu [.j [p.1] p.2,.j [q.1] q.2] 2)->G):G:=by
 have x2:bQ Tb (au Tb (K+2)) (K+2) (fH eJ 2) [(298,sc),(251,.d 1)] [.a n0,.a nu]=some (.a,[(298,sc),(251,.d 1),(250,.d 8)],mP n0 nu 0):=by
  kernel_rfl
 refine sa (μ:=mP n0 nu 0) (d:=w3 0) (i:=0) (n:=8) rfl rfl H ⟨rfl,rfl,rfl,by simp⟩ (by decide) Q8 λy o r=>?_
 refine sa (μ:=mP n0 nu 1) (d:=w3 1) (i:=1) (n:=7) rfl rfl H ⟨rfl,rfl,rfl,by simp⟩ (by decide) (by decide) λe s g=>?_
 have x3:bQ Tb (au Tb (K+2)) (K+2) (fH eJ 3) [(298,sc),(251,.d 1),(250,.d 8)] (mP n0 nu 0)=some (.a,[(298,sc),(251,.d 1),(250,.d 8),(226,.c (y:Int))],mP n0 nu 1):=uD [(0,ow (r (K+1)))] ⋯
 refine RD (mP n0 nu 1) o λp f s1=>?_
 refine RD (mP n0 nu 2) (y:=(y+1+e)%8) (Nat.mod_lt _ Q8) λq h s2=>?_
 have a3:dE (mP n0 nu 2) .b (.c ((y+1+e:Nat):Int)) (.c 8)=some (.c (((y+1+e)%8:Nat):Int),mP n0 nu 2):=by
  rw[pb (by decide),eR _ (by decide)];rfl
 refine b6 ((y+1+e)%8) λm hm=>?_
 rw[<-hm] at a3 s2
 refine k (y:Int) p q f h ?_
 show aY Tb (au Tb (K+2)) (K+2) ([fH eJ 2]++([fH eJ 3]++[fH eJ 4])) _ _=_
 rw[cz (x:=[fH eJ 2]) (cD x2 rfl),cz (x:=[fH eJ 3]) (cD x3 rfl)]
 exact cD (uD [(0,ov s1),(1,ow (rfl:dE (mP n0 nu 1) .a (.c (y:Int)) (.c 1)=some (.c ((y+1:Nat):Int),mP n0 nu 1))),(2,ow (g (K+1))),(3,ow (rfl:dE (mP n0 nu 2) .a (.c ((y+1:Nat):Int)) (.c (e:Int))=some (.c ((y+1+e:Nat):Int),mP n0 nu 2))),(4,ow a3),(5,ov s2)] ⋯) rfl
end
end
section
noncomputable def σL(n0 nu lets Kb p0 p1:List MV)(at_:Int)(R:List Row)(f:Nat->Int×List Nat):St where
 n0:=n0
 nu:=nu
 ah:=Kb
 af:=lets
 U:=at_
 R:=R
 al:=p0
 am:=p1
 T:=λm=>(f m).1
 Y:=λm=>cB (f m).2
 N:=λm=>pnL (f m).2.length
 pf:=λm=>bt (f m).2.length (.c 0)
 pl:=λm=>cB (f m).2
 h:=22
 ae:=6
 A:=2
 J:=[.d 178,.d 180]
 B:=[(.c 16,.d 178),(.c 19,.d 180)]
 O:=0
 an:= .f
 Z:= .f
 X:=[.d 183]
 ab:=[(.c 1000,.d 183)]
 G:=[]
 H:=[]
 a:=[]
 z:=[]
 u:=[]
 L:=[]
noncomputable def δL:List MO:=[.a [],gx 1 1000 (.e [.c 18,.c 2,.e [.c 7]]) (.d 7) 0 (.d 182) 3 0 0,.a [],.a [],.a [],.a [],.a [],.a []]
noncomputable abbrev bL1:List MS:=[fH eJ 6,fH eJ 7,fH eJ 8,fH eJ 9,fH eJ 10,fH eJ 11,fH eJ 12]
section
variable{K:Nat}{n0 nu lets Kb p0 p1:List MV}{at_:Int}{R:List Row}{f:Nat->Int×List Nat}{sc:MV}{y:Int}
theorem Nq:aY Tb (au Tb (K+12)) (K+12) bL1 [(298,sc),(251,.d 1),(250,.d 8),(226,.c y),(153,.d 10)] (KH (aS n0 nu lets at_ [.d 80,.d 111] Kb) R (Zk p0 p1 f 12))=some (.a,[(298,sc),(251,.d 1),(250,.d 8),(226,.c y),(153,.d 10),(103,.d 148),(110,.d 183)],HS (σL n0 nu lets Kb p0 p1 at_ R f) δL):=by
 kernel_rfl
end
end
section
section
variable{K:Nat}{n0 nu:List MV}{sc:MV}{l:List Int}
theorem ad8{Γ:Cf}{R:List Row}{f:Nat->Int×List Nat}{s:Nat}{p q:Nat×Nat}(H:Nums nu)(S:StO Γ 2 R f s)(D:p∈Nz)(E:q∈Nz)(y:Γ.o=p.1)(v:Γ.p=q.1):Inv (σL n0 nu [.j [p.1] p.2,.j [q.1] q.2] [Γ.m.d,Γ.n.d] (Γ.a.map CT.d) (Γ.g.map CT.d) (s:Int) R f) Γ 100:=by
 refine m_ (Jz D) λp1 p2 C=>?_
 refine m_ (Jz E) λG J I=>?_
 have g:=S.a
 have F:=g.j
 have r:=S.j
 refine⟨⟨g.a,g.m (by decide),rfl,rfl,S.b,S.c,rfl,⟨p.2,q.2,by rw[y,v];rfl,p2,C,J,I⟩,y▸p1,v▸G,λd i t r=>?_,H,λd u w=>?_,λd=>?_⟩,⟨by show(2:Nat)<=100;exact(by decide),by show(2:Nat)<=100;exact(by decide),λx k=>?_,by show(0:Int)<22;exact(by decide)⟩,by show R.length<=100;exact TB F,⟨s,rfl,TA r⟩,b7 _,b7 _,rfl,rfl,(λx k=>by cases k),b7 _⟩
 ·obtain⟨a1,kr,a2,a3⟩:=g.n d i t r (gz [_,_] (V0.M 6 V0.A+V0.B) 12 (.c 6 (V0.A+1) 2 (.o (V0.B+1) 6 .z)) rfl t r)
  exact⟨_,kr,rfl,a2,a1,a3⟩
 ·cases d with
  |zero=>exact tY u (S.d u w)
  |succ d=>exact tY u (S.e u w)
 ·cases d with
  |zero=>exact su _ S.g
  |succ d=>exact su _ S.h
 ·have k:x∈[(MV.c 16,MV.d 178),(MV.c 19,MV.d 180)]:=k
  simp only[cx,iN,or_false] at k
  rcases k with rfl|rfl
  ·exact⟨16,rfl,by show(16:Int)<22;exact(by decide),(by decide)⟩
  ·exact⟨19,rfl,by show(19:Int)<22;exact(by decide),(by decide)⟩
noncomputable abbrev bL2:List MS:=[fH eJ 13,fH eJ 14]
noncomputable abbrev ρL(sc:MV)(y:Int):Loc:=[(298,sc),(251,.d 1),(250,.d 8),(226,.c y),(153,.d 10),(103,.d 148),(110,.d 183)]
theorem Np{T:Prop}{σ:St}{Γ:Cf}{y:Int}(I:Inv σ Γ 100)(F:FS σ (ar [] (1000,1)))(L:σ.a=[])(D:σ.u=[])(w:σ.G=[])(E:σ.H=[])(hs:σ.O=0)(K:Nat)(bJ:∀C,(aY Tb (au Tb (K+18)) (K+18) bL2 (ρL sc y) (HS σ δL)=some (.b (.h true),ρL sc y,C))->T):T:=by
 have fr:δL[1]?=some (gx 1 1000 (.e [.c 18,.c 2,.e [.c 7]]) (.d 7) 0 (.d 182) 3 0 0):=rfl
 have M:δL[1+1]?=some (.a []):=rfl
 have kk:∀c:Nat,∀q∈ar ([]:List (Int×Nat)) (1000,1),q.1=1000\/q.1<=((c:Nat):Int):=λc q hq=>by
  rcases nB hq with h|rfl
  ·cases h
  ·exact .inl rfl
 refine xG (d:=0) ⟨F,kk _,by rw[L];simp,by simp,(by decide),xx,cJ M,w,E⟩ I D fr M (by simp) (by decide) (by simp) (by rw[L];simp) K λX dN c1 j=>?_
 refine lu j.d.o λN W Q q4=>?_
 refine Ey j.e λip1 aeG v=>?_
 refine cf j.b λL1 k i=>?_
 have f:=j.g
 rw[L] at f
 have S:=j.a _ F
 have f:X.a.length<=48:=by simpa using f
 have i:L1.length<=3:=by simpa using i
 refine xG (d:=1) ⟨S,kk _,bN [_] V0.A 800 (.o V0.A 48 .z) rfl f,by simp,(by decide),Ra,cJ k,N▸w,W▸E⟩ j.c (Q▸D) v k (eK i) (by decide) (by simp) (bN [_] V0.A 700 (.o V0.A 48 .z) rfl f) K λdT V c2 r=>?_
 refine lu r.d.o λY w2 w3 w4=>?_
 refine Ey r.e λip2 aeH UD=>?_
 refine cf r.b λL2 J s=>?_
 have n:=w3▸Q▸D
 refine b6 (ar V (.a [])) λU x=>?_
 have e1:=qE (μ:=HS dT U) (p:=169) (q:=V.length+182) (l:=[]) (by rw[<-n];kernel_rfl) (by rw[df];exact x▸(h9 _ _ _ rfl)) rfl
 refine jQ r.c (by decide) U (m:=2) xx λz t hz dz R I3=>?_
 refine lu R.A λx1 x2 x3 Z=>?_
 have P:=x▸(Gw.d _ _)
 refine Ae (K:=K+1) I3 (by decide) hz (x3▸n) (R.B (r.a _ S)) (P.2 _ _ UD) (P.2 _ _ J) (bN [_,_] V0.B 600 (.o V0.A 3 (.o V0.B (V0.A+3) .z)) rfl i s) (Z▸w4▸q4▸hs) (x2▸w2▸W▸E) (x1▸Y▸N▸w) λC rf=>?_
 refine bJ C ?_
 subst x
 exact eD [(0,ow c1),(3,ow c2),(8,oq e1),(10,ow (dz (K+17))),(11,ow rf)] ⋯
theorem yi{k:Prop}(H:Nums nu)(K:Nat)(s:∀ρ' e,(aY Tb (au Tb (K+18)) (K+18) (bL0++([fH eJ 5]++(bL1++bL2))) [(298,sc),(251,.d 1)] [.a n0,.a nu]=some (.b (.h true),ρ',e))->k):k:=by
 refine Nr (n0:=n0) (sc:=sc) H (K+16) λy p q r t x0=>?_
 refine KI (n0:=n0) (lets:=[.j [p.1] p.2,.j [q.1] q.2]) (i:=2) H (by decide) p.1 q.1 (K+5) λΓ R f o v u c S=>?_
 have x1:bQ Tb (au Tb (K+18)) (K+18) (fH eJ 5) [(298,sc),(251,.d 1),(250,.d 8),(226,.c y)] (Lp n0 nu [.j [p.1] p.2,.j [q.1] q.2] 2)=some (.a,[(298,sc),(251,.d 1),(250,.d 8),(226,.c y),(153,.d 10)],KH (aS n0 nu [.j [p.1] p.2,.j [q.1] q.2] (o:Int) [.d 80,.d 111] [Γ.m.d,Γ.n.d]) R (Zk (Γ.a.map CT.d) (Γ.g.map CT.d) f 12)):=by
  refine l9 (y:=153) (src:= .j 1296 [.d 250]) ?_
  exact(j_ (bW (cI rfl _) (vZ _))).trans c
 refine Np (sc:=sc) (y:=y) (ad8 (n0:=n0) H S r t v u) ⟨rfl,rfl,by unfold ar;simp,by unfold ar;simp⟩ rfl rfl rfl rfl rfl K λe x3=>?_
 exact s (ρL sc y) e ((cz x0).trans ((cz (x:=[fH eJ 5]) (cD x1 rfl)).trans ((cz (Nq (K:=K+6) (n0:=n0) (nu:=nu) (lets:=[.j [p.1] p.2,.j [q.1] q.2]) (Kb:=[Γ.m.d,Γ.n.d]) (p0:=Γ.a.map CT.d) (p1:=Γ.g.map CT.d) (at_:=(o:Int)) (R:=R) (f:=f) (sc:=sc) (y:=y))).trans x3)))
theorem Jr{c:Prop}(d:l≠[])(b:l.length<=63)(e:∀a,(au Tb 80 1346 [.m l] []=some (.h true,a))->c):c:=by
 refine yi (n0:=JK l) (sc:= .m l) (C8 d) 61 λρ' a x=>?_
 refine e a (pG (K:=79) (F:=eJ) (ρ:=ρ') ⋯ rfl ?_)
 show aY Tb (au Tb 79) 79 ([fH eJ 0,fH eJ 1]++(bL0++([fH eJ 5]++(bL1++bL2)))) _ _=_
 exact(cz (Ve d b 77)).trans x
end
end
section
noncomputable abbrev Vv:List MV:=[.c 0,.c 0,.c 0,.c 0,.c 3,.c 0,.c 2,.c 1,.c 4,.c 9,.c 8,.c 6,.c 2,.c 4,.c 0,.c 1,.c 1]
theorem NL{j:Prop}(l:∀(k loc':Loc) (bF g:Hp) (b c:List MV),(∀v∈c,∃i:Int,v= .c i)->(bQ Tb (au Tb 79) 79 ((eJ.b[0]?).getD .c) [(298,.m [])] []=some (.a,k,bF))->(bQ Tb (au Tb 79) 79 ((eJ.b[1]?).getD .c) k bF=some (.a,[(298,.m []),(251,.d 2)],[.a [],.a b,.a c]))->(aY Tb (au Tb 79) 79 (eJ.b.drop 2) [(298,.m []),(251,.d 1)] [.a [],.a c]=some (.b (.h true),loc',g))->j):j:=by
 have f:∀v∈Vv,∃i:Int,v= .c i:=λv n=>by
  refine cf (cY.mp (show v∈([0,0,0,0,3,0,2,1,4,9,8,6,2,4,0,1,1]:List Int).map .c from n)) λi _ e=>?_
  exact⟨i,e.symm⟩
 refine yi (n0:=[]) (nu:=Vv) (sc:= .m []) ⟨f,by simp,by simp⟩ 61 λloc' g x=>?_
 exact l ([(298,.m []),(251,.d 1)]) loc' ([.a [],.a []]) g ([]) Vv f ⋯ ⋯ x
end
section
open PySem PySem.W PyProof.Rows PySem.Calls
theorem ada:r0.Holds:=
 holds_openX (q:=Qv) (loose:=Ls) (Xt:=Xt0) (XP:=λ_ _=>True) (Yf:=Yf0) (Ya:=Ya0) (d:=abR) (kwd:=[]) (N:=NN) acD (λ_ _=>trivial) (λ_ _ _ _ _=>trivial)
  ⋯ ⋯ ⋯ (λs _=>recFacts_nil (by rfl)) ⋯ adb ⋯ ⟨⋯,⋯,⋯,⋯,⋯,tbw⟩ ⟨[.list []],by decide+kernel,by decide+kernel⟩ (OG (λ_ k l=>Jr k l λμ e=>⟨μ,e⟩) (NL λa b c d e f g h i j=>⟨a,b,c,d,e,f,g,h,i,j⟩))
end
end Mine
theorem PySem.Challenge.cw_xm0332_01_holds : PySem.Challenge.rw_xm0332_01.Holds :=
 PySem.W.holds_law Mine.aeN λ_=>Mine.ada
