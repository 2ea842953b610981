import PyProof.Rows.All
import Wide.All
import OpenK.AllK
import Wide.FinOn
import PyProof.Rows.TupDisplay
import PyProof.EnumMake
import PyProof.EnumStmt
import OpenK.ZHead
import KE.BitLaws
import Lean
import PySem.Challenge.RW_xm0332_01
set_option Elab.async false
set_option maxRecDepth 100000
set_option autoImplicit true
set_option linter.all false
set_option genSizeOf false
set_option compiler.extract_closed false
set_option genInjectivity false
set_option genCtorIdx false
set_option bootstrap.genMatcherCode false
set_option backward.match.sparseCases false
set_option tactic.hygienic false
set_option maxHeartbeats 8000000
namespace Mine
open Array renaming eraseIdxIfInBounds->mB,toList->Ar,forIn_toList->KQ,isEmpty_iff->K9,any_toList->Ou
open Bool renaming and_eq_true_iff->aE,and_eq_true->bO,false_eq_true->dx,or_eq_false_iff->iA,not_eq_true'->jt,false_or->qZ,false_ne_true->rE,or_eq_true_iff->KR,eq_false_iff->Ov
open Eq renaming trans->K_
open ForInStep renaming yield->jQ
open Int renaming ofNat_lt->cv,lt_of_le_of_lt->cX,ofNat_nonneg->eF,fmod_eq_emod_of_nonneg->eO,ofNat_le->fg,emod_nonneg->fZ,le_trans->gn,mul_le_mul_of_nonneg_right->gP,add_sub_cancel->jc,sub_le_sub_right->kK,toNat_of_nonneg->kX,fdiv_eq_ediv_of_nonneg->lS,emod_eq_of_lt->mM,ofNat->nG,toNat_lt->oi,emod_lt_of_pos->rO,le_of_lt->tT,ne_of_lt->tU,add_neg_cancel_right->As,lt_add_of_pos_right->Dt,ediv_eq_zero_of_lt->Fo,lt_trans->Fp,add_le_add_right->KS,add_lt_add_right->KU,lt_of_lt_of_le->Ow,sub_add_cancel->Ox,natCast_emod->VQ,max_eq_left->WT
open Int.ofNat renaming inj->eA
open List renaming getElem?_eq_some_iff->ax,length_map->ay,getElem?_append_left->aJ,getElem?_map->aL,getElem?_eq_getElem->aN,all_eq_true->aT,mem_of_getElem?->aU,replicate->br,mem_singleton->bK,size_toArray->b8,getElem?_append_right->cq,mem_cons->cw,append_assoc->cC,getElem?_set_self->cM,getElem?_set_ne->cV,mem_map->cW,mem_append->cZ,lookup_cons->da,take_of_length_le->dF,map_cons->dX,append_nil->d8,map_append->d9,length_eq_zero_iff->eB,take_length->eC,length_cons->eY,mem_cons_of_mem->fh,range->fO,length_set->fX,take_add_one->f6,mem_map_of_mem->gL,length_take->gM,findIdx?_cons->gX,mem_cons_self->gY,take->hY,drop_zero->iB,getElem_mem->iJ,isEmpty_iff->iK,length_drop->iL,not_mem_nil->iM,getElem?_eq_none_iff->iR,nil_append->i9,map_nil->ju,set_set->jv,mem_iff_getElem?->jS,drop_eq_nil_iff->j9,length_append->ly,nodup_nil->lA,map_inj_left->mC,nodup_append->mD,map->mY,drop_of_length_le->nW,map_map->nX,forIn_cons->oj,length_replicate->oM,set_append_right->oN,mem_range->pj,getElem?_range->qg,getElem_of_mem->qi,findIdx?->q8,findIdx?_eq_some_iff_getElem->rP,getElem?_replicate_of_lt->ux,forIn_nil->wV,findIdx?_eq_none_iff->yD,getLast?_singleton->Au,length_eq_one_iff->Du,contains_iff_mem->Fq,dropLast_eq_take->Fs,findIdx?_toArray->Ft,sizeOf_lt_of_mem->Fv,dropLast_concat->FW,getLast?_append->FX,mem_append_left->FY,range_eq_range'->FZ,set_append_left->F7,replicate_succ->KV,ext_getElem?->Oy,getElem?_inj->Oz,length_range->OA,all_append->VT,nodup_cons->VU,drop_drop->WU
open List.cons renaming inj->Lc
open Min renaming min->g9
open Nat renaming le_refl->aC,le_trans->aD,eq_of_beq_eq_true->aK,add_le_add_right->aM,le_of_not_lt->aP,le_antisymm->aQ,beq->aR,le_of_ble_eq_true->aW,le_add_right->bc,lt_of_lt_of_le->bk,ble_eq_true_of_le->bw,lt_or_gt_of_ne->bL,zero_le->b7,lt_of_not_le->cL,le_succ->cN,zero_add->cP,lt_succ_self->dh,sub_add_cancel->dy,ne_of_gt->dJ,min_le_right->eG,ble->eI,le_add_left->eR,le_add_of_sub_le->fq,le_of_lt_succ->fz,min_le_left->f7,mul_le_mul_right->gq,ne_of_lt->gu,min_eq_left->hZ,div_mul_le_self->iX,lt_of_le_of_lt->jd,le_of_lt->jF,blt->j_,add_le_add_left->kY,min_eq_right->nH,le_of_eq->ot,lt_trans->ou,add_le_add->qa,add_comm->tV,le_succ_of_le->tW,lt_of_succ_lt->tX,and_two_pow_sub_one_eq_mod->uy,not_lt_zero->wH,mul_le_mul->yE,sub_le->yF,add_assoc->Av,eq_zero_of_not_pos->Fw,sub_self->Fx,zero_mul->Fy,sub_eq_zero_of_le->F8,div_le_div_right->KX,sub_le_sub_right->KY,eq_or_lt_of_le->OB,lt_of_le_of_ne->OC,not_lt->OD,pos_of_ne_zero->OE,lt_succ_of_le->RM,not_le_of_lt->VW,succ_le_succ->VX
open Nat.succ renaming inj->mN
open Ne renaming symm->cH
open Option renaming any_eq_true->cO,isSome_iff_exists->dT,isNone_iff_eq_none->iE,map_some->kf,getD_some->mO,getD_none->sq,some_or->RN
open Option.some renaming inj->ba
open Or renaming elim->fJ
open Prod renaming snd->f_,fst->jw
open PyProof.Rows renaming wpAny_release'->mW,subscriptTail->oz,tail_any->pg,bitAnd_m16->tY,bitAnd_m8->t7
open PySem renaming wpAny_bind->aw,Shared->az,Value->aA,wpAny_pure->aF,model->aH,wpAny->aI,wpAny_mono->a_,wpAny_holding->bF,DictEntry->cx,Addr->cK,Params->cY,Around->c_,wpAny_standAt->du,Heap->dO,World->dW,sizeLine_eq->d_,wpAny_call_entry->eM,wpAny_truthy_bool->eU,Program->fu,OsState->fH,compareOp->fR,cLine->iy,letOwnedTupleGo->iz,mem_of_lookup->iS,nsFind->iZ,wpAny_ite_false->jx,wpAny_specialOf->jy,wpAny_callSpecial?_slot->jI,Stmt->j0,relabel->kZ,treeTable->mQ,assignEach->mT,binaryOp->mU,starEach->mV,codeAny->nY,wpAny_sequenceKey->nZ,builtinsNs->qb,NameKind->rQ,compPost->rS,subscripted->rT,getMethod->sr,swapsWithSole->t8,call_meets->uz,reduceHash->uA,sysModules->uB,wpAny_Constant_str->uC,wpAny_callSpecialUnlessNone?_slot->vt,dictGet->wI,hashInt->wJ,slot_list_getitem->wL,wpAny_assign_Name->wN,wpAny_dictEntries->wO,beq_builtin_none->yG,pushCells->yH,wpAny_execs_cons->yI,slicePicked->yO,importedModules->Aw,wpAny_execs_nil->Ax,getItem->Dv,backTo->FC,contains->FD,newFunctionEnv->FE,pyNext->FG,sliceRange_one->FH,typeIs_int->FI,wpAny_ite_true->FJ,wpAny_listPart->FK,wpAny_rule->FL,wpAny_binaryOp_repeat_ref->F_,evalPart_none->K0,Scope->Ld,cellsFrom->Le,lastMarks->Lf,seqSlot_of->OF,assign->OG,delItem->OH,operate->OI,pyIter->OJ,wpAny_pendingKey_other->OL,wpAny_deleteEach_cons->RO,wpAny_notOrdered_dict->RP,FuncData->VP,arm_delete_Subscript->VZ,callWith->V2,mainGlobals->V3,sizeLine->V4,sliceBounds->V5,wpAny_deleteEach_nil->V7,wpAny_field->V8,wpAny_loadName_local->V9,wpAny_updateDictKeys->V_,setItem->WV,wpAny_loadName_cell->WW
open PySem.Builtin renaming bitNot->uw
open PySem.Builtin.Dict renaming takeOut->vn
open PySem.Builtin.List renaming listSubscript?->q7
open PySem.Builtin.Tuple renaming tupleHashOf->cF
open PySem.Calls renaming spliced_cons->wM,Name_function_global->VV,spliced_nil->V6
open PySem.Env renaming kindOf->rN
open PySem.Heap renaming get?_push_of_some->bg,get?_push_size->bU,SameBut->fY,get?_update_self->jR,size_push->lx,lt_size->so
open PySem.Heap.IsSliceOf renaming new->vo
open PySem.Heap.SameBut renaming update->fQ
open PySem.IsL renaming update->FA
open PySem.NameKind renaming cell->iN,free->pe
open PySem.Obj renaming mapDictKeys->kN,mapSeq->oy
open PySem.PyData renaming keyHash->jg,eqv->F9,eqvAll->VY
open PySem.SeqAt renaming shaped->rR
open PySem.Str renaming ofString->jG,join->KZ
open PySem.Txt renaming replace->vq
open PySem.W renaming look_both->bJ,dictOf->iG,looks_pair->iY,boot_heap->kO,emptyDict->kP,keepIn->kQ,findIn->lU,instObj->mE,boot_o_0->V1
open PySem.W.Fast renaming sEq->g_,sEq_iff->mP,tw10110043849684766642->nI,tw14364793385576792824->nJ,lEq_iff->vp,lEq->yN,te17119622794617984870->OK
local macro_rules
 |`(⋯)=>`(by kernel_rfl)
theorem nn{b:Type}{x:b}{a:Prop}(h:none=some x):a:=nomatch h
theorem sn{b:Type}{x:b}{a:Prop}(h:some x=none):a:=nomatch h
theorem ff{a:Prop}(h:false=true):a:=nomatch h
theorem tf{a:Prop}(h:true=false):a:=nomatch h
theorem s1{d:Type}{a b:d}{c:Prop}(h:some a=some b)(k:a=b->c):c:=k (ba h)
theorem s2{f g:Type}{a c:f}{b d:g}{e:Prop}(h:some (a,b)=some (c,d))(k:a=c->b=d->e):e:=by cases h;exact k rfl rfl
local macro_rules
 |`(tactic|cases $h:ident)=>`(tactic|first|exact nn $h|exact ff $h|exact sn $h|exact tf $h|subst $h|(refine s2 $h λe1 e2=>?_;clear $h;cases e1<;>cases e2)|(refine s1 $h λe1=>?_;clear $h;cases e1)|cases($h))
local macro_rules
 |`(tactic|show $t)=>`(tactic|refine(?_: $t))
theorem mapf{a d:Type}{f g:a->d}{l:List a}(h:l.map f=l.foldr (λc r=>g c::r) []){c:a}(b:c∈l):f c=g c:=mC.mp (h.trans List.map_eq_foldr.symm) c b
theorem Gm{a:Type}{l:List a}{P:a->Prop}[DecidablePred P](h:(l.all λc=>decide (P c))=true){c:a}(b:c∈l):P c:=of_decide_eq_true (aT.mp h c b)
theorem ir{A B W:Prop}(h:A/\B)(q:A->B->W):W:=q h.1 h.2
theorem m7{A B C W:Prop}(h:A/\B/\C)(q:A->B->C->W):W:=ir h.2 (q h.1)
theorem k9{A B C D W:Prop}(h:A/\B/\C/\D)(q:A->B->C->D->W):W:=m7 h.2 (q h.1)
theorem HW{A B C D E W:Prop}(h:A/\B/\C/\D/\E)(q:A->B->C->D->E->W):W:=k9 h.2 (q h.1)
theorem adB{A B C D E F W:Prop}(h:A/\B/\C/\D/\E/\F)(q:A->B->C->D->E->F->W):W:=HW h.2 (q h.1)
theorem dG{b:Type}{A:b->Prop}{W:Prop}(h:∃a,A a)(q:∀a,A a->W):W:=h.elim q
theorem cf{b:Type}{A B:b->Prop}{W:Prop}(h:∃a,A a/\B a)(q:∀a,A a->B a->W):W:=h.elim λa h=>ir h (q a)
theorem pH{b:Type}{A B C:b->Prop}{W:Prop}(h:∃a,A a/\B a/\C a)(q:∀a,A a->B a->C a->W):W:=h.elim λa h=>m7 h (q a)
theorem vL{b:Type}{A B C D:b->Prop}{W:Prop}(h:∃a,A a/\B a/\C a/\D a)(q:∀a,A a->B a->C a->D a->W):W:=h.elim λa h=>k9 h (q a)
theorem adC{b:Type}{A B C D E:b->Prop}{W:Prop}(h:∃a,A a/\B a/\C a/\D a/\E a)(q:∀a,A a->B a->C a->D a->E a->W):W:=h.elim λa h=>HW h (q a)
theorem Eh{b:Type}{A B C D E F:b->Prop}{W:Prop}(h:∃a,A a/\B a/\C a/\D a/\E a/\F a)(q:∀a,A a->B a->C a->D a->E a->F a->W):W:=h.elim λa h=>adB h (q a)
theorem Ei{c d:Type}{A:c->d->Prop}{W:Prop}(h:∃a b,A a b)(q:∀a b,A a b->W):W:=h.elim λa h=>dG h (q a)
theorem m8{c d:Type}{A B:c->d->Prop}{W:Prop}(h:∃a b,A a b/\B a b)(q:∀a b,A a b->B a b->W):W:=h.elim λa h=>cf h (q a)
theorem dY{c d:Type}{A B C:c->d->Prop}{W:Prop}(h:∃a b,A a b/\B a b/\C a b)(q:∀a b,A a b->B a b->C a b->W):W:=h.elim λa h=>pH h (q a)
theorem pI{c d:Type}{A B C D:c->d->Prop}{W:Prop}(h:∃a b,A a b/\B a b/\C a b/\D a b)(q:∀a b,A a b->B a b->C a b->D a b->W):W:=h.elim λa h=>vL h (q a)
theorem Ua{c d:Type}{A B C D E:c->d->Prop}{W:Prop}(h:∃a b,A a b/\B a b/\C a b/\D a b/\E a b)(q:∀a b,A a b->B a b->C a b->D a b->E a b->W):W:=h.elim λa h=>adC h (q a)
theorem adD{c d:Type}{A B C D E F:c->d->Prop}{W:Prop}(h:∃a b,A a b/\B a b/\C a b/\D a b/\E a b/\F a b)(q:∀a b,A a b->B a b->C a b->D a b->E a b->F a b->W):W:=h.elim λa h=>Eh h (q a)
theorem LY{e f d:Type}{A B:e->f->d->Prop}{W:Prop}(h:∃a b c,A a b c/\B a b c)(q:∀a b c,A a b c->B a b c->W):W:=h.elim λa h=>m8 h (q a)
theorem HX{e f d:Type}{A B C:e->f->d->Prop}{W:Prop}(h:∃a b c,A a b c/\B a b c/\C a b c)(q:∀a b c,A a b c->B a b c->C a b c->W):W:=h.elim λa h=>dY h (q a)
theorem LZ{e f d:Type}{A B C D:e->f->d->Prop}{W:Prop}(h:∃a b c,A a b c/\B a b c/\C a b c/\D a b c)(q:∀a b c,A a b c->B a b c->C a b c->D a b c->W):W:=h.elim λa h=>pI h (q a)
theorem ud{e f d:Type}{A B C D E:e->f->d->Prop}{W:Prop}(h:∃a b c,A a b c/\B a b c/\C a b c/\D a b c/\E a b c)(q:∀a b c,A a b c->B a b c->C a b c->D a b c->E a b c->W):W:=h.elim λa h=>Ua h (q a)
theorem Ej{e f d:Type}{A B C D E F:e->f->d->Prop}{W:Prop}(h:∃a b c,A a b c/\B a b c/\C a b c/\D a b c/\E a b c/\F a b c)(q:∀a b c,A a b c->B a b c->C a b c->D a b c->E a b c->F a b c->W):W:=h.elim λa h=>adD h (q a)
theorem adE{f i e g:Type}{A B C:f->i->e->g->Prop}{W:Prop}(h:∃a b c d,A a b c d/\B a b c d/\C a b c d)(q:∀a b c d,A a b c d->B a b c d->C a b c d->W):W:=h.elim λa h=>HX h (q a)
theorem b6{a:Type}(x:a){W:Prop}(k:∀d,d=x->W):W:=k x rfl
@[elab_as_elim] theorem rI{c:Type}{P:c->Prop}{a b:c}(h:a=b)(k:P a):P b:=h▸k
@[elab_as_elim] theorem fI{c:Type}{P:c->Prop}{a b:c}(h:b=a)(k:P a):P b:=h▸k
@[elab_as_elim] theorem j8{c:Type}{P:c->Prop}{a b:c}(h:some a=some b)(k:P a):P b:=rI (ba h) k
@[elab_as_elim] theorem qR{g i:Type}{P:g->i->Prop}{a c:g}{b d:i}(h:some (a,b)=some (c,d))(k:P a b):P c d:=s2 h λe f=>rI e (rI f k)
theorem p2i{e f:Type}{a d:e}{b c:f}{W:Prop}(h:(a,b)=(d,c))(k:a=d->b=c->W):W:=k (congrArg jw h) (congrArg f_ h)
@[elab_as_elim] theorem ET{d i:Type}{P:d->i->Prop}{a g:d}{b c:i}(h:(a,b)=(g,c))(k:P a b):P g c:=p2i h λe f=>rI e (rI f k)
@[elab_as_elim] theorem p3P{d m l:Type}{P:d->m->l->Prop}{a i:d}{b j:m}{c n:l}(h:(a,b,c)=(i,j,n))(k:P a b c):P i j n:=p2i h λe f=>p2i f λf g=>rI e (rI f (rI g k))
@[elab_as_elim] theorem p3Q{d i g:Type}{P:d->i->g->Prop}{a e:d}{b f:i}{c j:g}(h:(e,f,j)=(a,b,c))(k:P a b c):P e f j:=p3P h.symm k
@[elab_as_elim] theorem C8{d i g:Type}{P:d->i->g->Prop}{a e:d}{b f:i}{c j:g}(h:some (a,b,c)=some (e,f,j))(k:P a b c):P e f j:=p3P (ba h) k
theorem IF{G:Prop}(h:∀W:Prop,(G->W)->W):G:=h G id
theorem Cv{a b:Nat}(h:a≠b):aR a b=false:=Ov.mpr λq=>h (aK q)
theorem tC{a:Type}{o:Option a}(h:∀x,o=some x->False):o=none:=Option.eq_none_iff_forall_ne_some.mpr h
theorem eK{a b c:Nat}(h:a<=b)(k:b<=c:=by decide):a<=c:=aD h k
theorem ry{a b c:Nat}(h:a<=b)(k:b<c:=by decide):a<c:=jd h k
section
set_option tactic.hygienic false
open PySem PySem.W
noncomputable abbrev Pw:Program:=PySem.Challenge.pw_xm0332_01
noncomputable def p0:Pos:=⟨0,0,0,0⟩
noncomputable def sT(i:Nat):Stmt:=(Pw.main.body[i]?).getD (.Pass p0)
structure VS where
 k:Nat
 n:Str
 A:Arguments
 b:List j0
 s:Ld
 l:List Str
 e:Expr
 p:Pos
noncomputable def a0:Arguments:=⟨[],[],none,[],[],none,[]⟩
noncomputable def vw:j0->VS
 | .FunctionDef n a b _ _ _ s _ _ p=>⟨0,n,a,b,s,[],.Name n p,p⟩
 | .ClassDef n c _ b _ _ _ _ _ l p=>⟨1,n,a0,b,default,l,c.headD (.Name "" p),p⟩
 | .Assign [.Name n p] e _=>⟨2,n,a0,[],default,[],e,p⟩
 |_=>⟨3,"",a0,[],default,[],.Name "" p0,p0⟩
structure VE where
 k:Nat
 i:Int
 x:Str
 l:List Expr
 m:List Expr
noncomputable def ve:Expr->VE
 | .Constant (.int i) _ _=>⟨1,i,"",[],[]⟩
 | .Constant (.str x) _ _=>⟨2,0,x,[],[]⟩
 | .UnaryOp _ (.Constant (.int i) _ _) _=>⟨3, -i,"",[],[]⟩
 | .Tuple l _ _=>⟨4,0,"",l,[]⟩
 | .Dict k l _=>⟨5,0,"",k.filterMap id,l⟩
 | .Name x _=>⟨0,0,x,[],[]⟩
 |_=>⟨6,0,"",[],[]⟩
noncomputable def stA(s:j0):Arguments:=(vw s).A
noncomputable def stB(s:j0):List Stmt:=(vw s).b
noncomputable def stS(s:j0):Scope:=(vw s).s
noncomputable def sI(i j:Nat):Stmt:=((stB (sT i))[j]?).getD (.Pass p0)
noncomputable def vR(a:Nat):Value:= .ref a
noncomputable def vI(i:Int)(t:Nat):Value:= .int i t
noncomputable def vS(x:Str)(t:Nat):Value:= .str x t
noncomputable def eS(P:cY)(x:Str)(t:Nat)(v:aA):DictEntry:=⟨jg P x,.str x t,v⟩
noncomputable def oB(c:aA)(d:Data)(s:List (Option aA)):Obj:=⟨c,none,d,s.toArray⟩
noncomputable def oT(l:List aA):Obj:=oB (.type "tuple") (.seq l.toArray 0) []
noncomputable def oL(c:aA)(l:List aA):Obj:=oB c (.fields l.toArray) []
noncomputable def oQ(x:String)(l:List aA):Obj:=oL (.type x) l
noncomputable def oD(c:aA)(l:List cx)(n:Nat):Obj:=oB c (.dict l.toArray n) []
noncomputable def dc:Value:= .type "dict"
noncomputable def Ic(s:VS):List Str:=match s.s.more with
 |[]=>s.s.names.filterMap λx=>match x.2 with
  | .local=>some x.1
  | .cell=>some x.1
  |_=>none
 |_=>[]
noncomputable def vNs:Nat->List Str->List aA
 |_,[]=>[]
 |t,x::r=>vS x t::vNs (t+1) r
noncomputable def oC(n q:Str)(t m a c f l:Nat)(b:Bool)(nm:List aA)(z:aA):Obj:=
 oQ "code" ([vS n t,vS q (t+1),vS "/claim/cut.py" (t+2),vI l 0,vI c 0,vI 0 0,vI 0 0,vI f 0,vR a,.bool b,vI 181 0,vR (a+1),.none]++nm++[z,vI (t+3+m:Nat) 0,vI l 0,vS "/claim/cut.py" (t+4+m)])
noncomputable def fdA(s:VS)(q:Str):FuncData:={name:=s.n,qualname:=q,params:=s.A,body:= .stmts s.b,scope:=s.s,globals:=0,closure:=[],defaults:= .none,kwdefaults:= .none}
noncomputable def fOb(s:VS)(q:Str)(a t:Nat)(M:aA):List Obj:=
 let l:=Ic s
 let f:=λ(c:Nat) nm=>[oB .none (.func (fdA s q)) [],oC s.n q t l.length a s.A.args.length 3 s.p.line true nm (vR c),oB (.type "function") (.func {fdA s q with globals:=3,pyModule:=M,code:= .ref (c+1)}) []]
 oT []::oL .none []::match s.s.more with
  |[]=>oT (vNs (t+3) l)::oT []::f (a+4) [vR (a+2),vR (a+3)]
  |_=>f (a+2) [.none,.none]
noncomputable def nF(s:VS):Nat:=match s.s.more with
 |[]=>7
 |_=>5
noncomputable def tF(s:VS):Nat:=(Ic s).length+6
noncomputable def msO(s:VS):List VS:=(s.b.map vw).filter λx=>aR x.k 0
noncomputable def acr:List VS->Nat->Nat->List (VS×Nat×Nat)
 |[],_,_=>[]
 |s::r,a,t=>(s,a,t)::acr r (a+nF s) (t+tF s)
noncomputable def Fg(f:VS->Nat):List VS->Nat
 |[]=>0
 |s::r=>f s+Fg f r
noncomputable def y6(s:VS):Nat:=match([("Exception",1),("RuneError",38),("KindCloser",564),("Tray",716),("Invoker",515),("Op",445)]:List (Str×Nat)).find? λx=>x.1==(ve s.e).x with
 |some x=>x.2
 |none=>0
noncomputable def adh:List (Nat×Nat):=[(38,51),(445,1251),(515,1092),(564,592),(716,786)]
noncomputable def clR(b:Nat):List Value:=
 let x:=[.type "Exception",.type "BaseException",.type "object"]
 match b with
 |0=>x.drop 2
 |1=>x
 |38=>vR 38::x
 |b=>[vR b,.type "object"]
noncomputable def cOb(P:cY)(S:VS)(a t:Nat)(M:aA):List Obj:=
 let n:=S.n
 let b:=y6 S
 let m:=msO S
 let f:=acr m (a+7) (t+12)
 let s:=a+7+Fg nF m
 let k:=t+12+Fg tF m
 let u:=k+S.l.length
 let c:=s+2
 let e:=λ(x:Str) (t:Nat) v=>eS P x t v
 let j:=f.map λx=>e x.1.n (x.2.2+tF x.1 - 1) (vR (x.2.1+nF x.1 - 1))
 let h:=e "__module__" (t+7) M
 let l:=e "__firstlineno__" (t+11) (vI S.p.line (t+10))
 let z:=e "__static_attributes__" u (vR s)
 let g:="getset_descriptor"
 let r:="builtin_function_or_method"
 let w:=λ(i:Nat)=>[oQ g [vS "__weakref__" (u+i),vR c,.builtin "ExceptionGroup.__weakref__",.none],oQ "super" [vR c,vR c,vR c],oQ r [.builtin "object.__init_subclass__",vR c]]
 let D:=λ(d:List cx) (v:Nat)=>[oT (vNs k S.l),oD dc (h::l::(j++z::d)) v,oB (.type "type") (.cls ⟨n,(clR b).take 1,vR c::clR b,s+1,n,true,[],adh.filterMap λx=>if x.1==c then some (vR x.2) else none,false,none,false⟩)
  [if b==0 then none else some (vR a),none,some (vS n t),some (vS n (t+8)),some (.builtin (if b==1||b==38 then"Exception.__new__" else"object.__new__")),some (.bool true)]]
 [oT (if b==0 then[] else(clR b).take 1),oQ r [.builtin "type.__prepare__",.type "type"],oD dc (h::e "__qualname__" (t+9) (vS n (t+8))::l::(j++[z])) (j.length+4),oT [],
  oL .none (f.flatMap λx=>[vI x.1.p.line 0,vI 4 0,vR (x.2.1+nF x.1 - 2)]),oC n n (t+2) 0 (a+3) 0 0 S.p.line false [.none,.none] .none,
  oB (.type "frame") .plain [some (vR (a+5)),some (vR 3),some (vR (a+2)),none,some M,none,some (vR 0)]]++(f.flatMap λx=>fOb x.1 (n.append "."|>.append x.1.n) x.2.1 x.2.2 M)++
 match b with
  |0=>D [e "__dict__" (u+2) (vR (c+1)),e "__weakref__" (u+4) (vR (c+2)),e "__doc__" (u+5) .none] 4++oQ g [vS "__dict__" (u+1),vR c,.builtin "function.__dict__",.builtin "function.__dict__#set"]::w 3
  |1=>D [e "__weakref__" (u+2) (vR (c+1)),e "__doc__" (u+3) .none] 3++w 1
  |_=>D [e "__doc__" (u+1) .none] 2++(w 0).drop 1
structure It where
 a:Nat
 t:Nat
 M:aA
 s:VS
noncomputable def nO(s:VS):Nat:=match s.k with
 |0=>nF s
 |1=>Fg nF (msO s)+match y6 s with
  |0=>14
  |1=>13
  |_=>12
 |_=>(ve s.e).k/4
noncomputable def nT(s:VS):Nat:=match s.k with
 |0=>tF s
 |1=>12+Fg tF (msO s)+s.l.length+match y6 s with
  |0=>8
  |1=>8
  |_=>4
 |_=>
  let e:=ve s.e
  1+match e.k with
   |0=>0
   |3=>2
   |4=>e.l.length
   |5=>2*e.l.length
   |_=>1
noncomputable def UP(s:VS):Bool:=aR s.k 2&&s.n=="__name__"
noncomputable def go:List j0->Nat->Nat->aA->List It
 |[],a,t,M=>[⟨a,t,M,vw (.Pass p0)⟩]
 |s::r,a,t,M=>
  let v:=vw s
  ⟨a,t,M,v⟩::go r (a+nO v) (t+nT v) (match UP v with
   |true=>vS (ve v.e).x t
   |false=>M)
noncomputable def RT:List It:=go Pw.main.body 15 187 (vS "__main__" 164)
noncomputable def adF(i:It):Value:=match i.s.k with
 |0=>vR (i.a+nF i.s - 1)
 |1=>vR (i.a+9+Fg nF (msO i.s))
 |_=>
  let e:=ve i.s.e
  match e.k with
   |0=>vR (i.a - 1)
   |1=>vI e.i i.t
   |2=>vS e.x i.t
   |3=>vI e.i (i.t+1)
   |_=>vR i.a
noncomputable def ent(P:cY)(i:It):List DictEntry:=match UP i.s||aR i.s.k 3 with
 |true=>[]
 |false=>[eS P i.s.n (i.t+nT i.s - 1) (adF i)]
noncomputable def lns(i:It):List Value:=
 let f:=λa=>[vI i.s.p.line 0,vI 0 0,vR a]
 match i.s.k with
 |0=>f (i.a+nF i.s - 2)
 |1=>f (i.a+5)
 |_=>[]
noncomputable def VO{a:Type}(f:Nat->Expr->a):Nat->List Expr->List a
 |_,[]=>[]
 |n,x::r=>f n x::VO f (n+1) r
noncomputable def obs(P:cY)(i:It):List Obj:=match i.s.k with
 |0=>fOb i.s i.s.n i.a i.t i.M
 |1=>cOb P i.s i.a i.t i.M
 |_=>
  let e:=ve i.s.e
  match e.k with
  |4=>[oT (VO (λn x=>
   let y:=ve x
   match y.k with
    |1=>vI y.i (i.t+n)
    |_=>vS y.x (i.t+n)) 0 e.l)]
  |_=>[oD dc (VO (λn x=>
   let g:=vI n (257+2*n)
   match(ve x).k with
    |0=>⟨n,g,vI (((e.m.map ve)[n]?).elim 0 (·.i)) (i.t+n)⟩
    |_=>⟨(ve x).i,vI (ve x).i (i.t+n),g⟩) 0 e.l) 14]
noncomputable def o2(P:cY)(n:Nat):Obj:=oD .none (match n with
 |0=>[]
 |_=>[eS P "type.__subclasses__.Exception.0" 235 (vI 38 0),eS P "type.__subclasses__.Exception.n" 236 (vI 1 0)]) n
noncomputable def o3(P:cY)(l:List It)(v:aA):Obj:=
 let e:=eS P "__name__" 165 v::eS P "__doc__" 166 .none::eS P "__package__" 167 .none::eS P "__loader__" 168 (.builtin "__main__.__loader__#opaque")::eS P "__spec__" 169 .none::eS P "__annotations__" 170 (vR 6)::eS P "__builtins__" 171 (vR 4)::eS P "__file__" 173 (vS "/claim/cut.py" 172)::eS P "__cached__" 174 .none::l.flatMap (ent P)
 oD dc e e.length
noncomputable def o12(l:List It):Obj:=oL .none (l.flatMap lns)
noncomputable def o3F(P:cY):Obj:=o3 P RT (vS "law_xm0332_01" 2271)
noncomputable def abI(P:cY):List Obj:=[V1 P,boot_o_1 P,o2 P 2,o3F P,boot_o_4 P,boot_o_5 P,boot_o_6 P,boot_o_7 P,boot_o_8 P,boot_o_9 P,boot_o_10 P,oT [],o12 RT,
 oC "<module>" "<module>" 182 0 11 0 0 1 false [.none,.none] .none,oB (.type "frame") .plain [some (vR 13),some (vR 3),some (vR 3),none,some (vS "__main__" 164),none,some (vR 0)]]
inductive ST (α:Type)
 |lf (i:List α)
 |nd (a:Nat) (l r:ST α)
noncomputable def bld{a:Type}(f:a->Nat):Nat->List a->ST a
 |0,l=> .lf l
 |n+1,l=>match l.drop (2^n) with
  |[]=>bld f n l
  |i::r=> .nd (f i) (bld f n l) (bld f n (i::r))
noncomputable def fnd{b:Type}(x:Nat):ST b->List b
 | .lf l=>l
 | .nd a l r=>match eI a x with
  |true=>fnd x r
  |false=>fnd x l
noncomputable def fob(P:cY)(x:Nat):Obj:=match j_ x 15 with
 |true=>((abI P)[x]?).getD default
 |false=>match fnd x (bld (·.a) 8 RT) with
  |i::_=>((obs P i)[x - i.a]?).getD default
  |[]=>default
noncomputable def gen(P:cY):Nat->Nat->Nat->BT
 |0,_,_=> .nil
 |n+1,a,b=>match j_ b 1347 with
  |true=> .node (fob P b) (gen P n (2*a) (a+b)) (gen P n (2*a) (2*a+b))
  |false=> .nil
noncomputable def uf(P:cY):BT:=gen P 11 1 0
noncomputable def wY(P:cY):Heap:=absHeap (uf P) 1347 {}
end
section
set_option tactic.hygienic false
open PySem PySem.W
noncomputable def itN(i:Nat):It:=(RT[i]?).getD ⟨0,0,.none,vw (.Pass p0)⟩
noncomputable def acv(P:cY)(n:Nat)(h:BT)(x:Nat×Nat):BT:=match j_ x.1 n&&eI n x.2 with
 |true=>h.ins x.1 (match fob P x.1 with
  |⟨d,e,.cls x,f⟩=>⟨d,e,.cls {x with subclasses:=[]},f⟩
  |o=>o)
 |false=>h
noncomputable def Oh(n:Nat):Nat->Nat->BT->BT
 |_,_,.nil=> .nil
 |a,b,.node v l r=>match j_ b n with
  |true=> .node v (Oh n (2*a) (a+b) l) (Oh n (2*a) (2*a+b) r)
  |false=> .nil
noncomputable def tre(P:cY)(i:Nat):BT:=match j_ i 219 with
 |false=>uf P
 |true=>
  let n:=(itN i).a
  adh.foldl (acv P n) ((((match eI i 8 with
   |true=>(Oh n 1 0 (uf P)).ins 2 (o2 P 0)
   |false=>Oh n 1 0 (uf P)).ins 3 (o3 P (RT.take i) (itN i).M)).ins 12 (o12 (RT.take i))))
noncomputable def RX(i:Nat)(P:cY)(os:fH):SharedT:=⟨tre P i,(itN i).a,{},#[],{},(itN i).t,os⟩
noncomputable def yP:Env:={scope:=Pw.main.scope,locals:=mainNs,globals:=mainNs,cells:=[],code:= .ref 13,frame:=some 14}
noncomputable def ps:Nat->Pos
 |0=>p0
 |i+1=>(vw (sT i)).p
noncomputable abbrev WY:List PySem.Frame:=[topFrame p0]
noncomputable abbrev PCw(i m:Nat)(w:dW):Prop:=∀(p:fu) (b:List j0) (os:fH),nI nJ p w 11 (some (vR 6)) 1 750 (RX i w.params os) (piecesOf ((Pw.main.body.drop i).take m) yP (.body b yP) (ps i) WY)=some (.next,RX (i+m) w.params os,.body b yP,ps (i+m))
noncomputable abbrev PC(i m:Nat):Prop:=∀w,PCw i m w
theorem spl{i m:Nat}(h:∀w b,PCw i m (dW.withFollow w "special-get-raises" b)):PC i m:=λw=>dW.withFollow_self w "special-get-raises"▸h w _
theorem pc0:PC 0 9:=λw p b os=>⋯
theorem pc9:PC 9 21:=λw p b os=>⋯
theorem aeb:PC 30 10:=λw p b os=>⋯
theorem aec:PC 40 1:=spl λw b=>by cases b<;>exact λp b os=>⋯
theorem aed:PC 41 1:=spl λw b=>by cases b<;>exact λp b os=>⋯
theorem aee:PC 42 5:=λw p b os=>⋯
theorem aef:PC 47 13:=λw p b os=>⋯
theorem aeg:PC 60 14:=λw p b os=>⋯
theorem aeh:PC 74 1:=λw p b os=>⋯
theorem aei:PC 75 14:=λw p b os=>⋯
theorem aej:PC 89 10:=λw p b os=>⋯
theorem aek:PC 99 15:=λw p b os=>⋯
theorem acA:PC 114 6:=λw p b os=>⋯
theorem acB:PC 120 1:=λw p b os=>⋯
theorem acC:PC 121 1:=λw p b os=>⋯
theorem acD:PC 122 1:=λw p b os=>⋯
theorem acE:PC 123 1:=λw p b os=>⋯
theorem acF:PC 124 1:=λw p b os=>⋯
theorem acG:PC 125 1:=λw p b os=>⋯
theorem acH:PC 126 1:=λw p b os=>⋯
theorem acI:PC 127 1:=λw p b os=>⋯
theorem acJ:PC 128 12:=λw p b os=>⋯
theorem acK:PC 140 13:=λw p b os=>⋯
theorem acL:PC 153 1:=λw p b os=>⋯
theorem acM:PC 154 1:=λw p b os=>⋯
theorem acN:PC 155 1:=λw p b os=>⋯
theorem acO:PC 156 7:=λw p b os=>⋯
theorem acP:PC 163 13:=λw p b os=>⋯
theorem acQ:PC 176 4:=λw p b os=>⋯
theorem acR:PC 180 13:=λw p b os=>⋯
theorem acS:PC 193 7:=λw p b os=>⋯
theorem acT:PC 200 7:=λw p b os=>⋯
theorem acU:PC 207 12:=λw p b os=>⋯
end
section
set_option tactic.hygienic false
open PySem PySem.W
theorem Vt{p:fu}{w:dW}{n:Nat}{s:SharedT}{t:Thread}{r:Option (Flow×SharedT×Code×Pos)}(h:nI nJ p w 11 (some (vR 6)) 1 n s t=r):segRunT mQ p w 11 (some (.ref 6)) 1 n s t=r:=by
 rw[PySem.W.Fast.te10110043849684766642,PySem.W.Fast.te14364793385576792824];exact h
noncomputable abbrev Bd:List Stmt:=behindTheImports Pw
noncomputable abbrev Cd:Code:= .body Bd yP
noncomputable abbrev Gb(w:dW)(os:fH):Shared:=⟨wY w.params,#[],{},2455,os⟩
noncomputable def Chn:List Nat->Nat->Prop
 |[],i=>i=219
 |m::r,i=>PC i m/\Chn r (i+m)
theorem A7(w:dW)(os:fH):∀(l:List Nat) (i:Nat),Chn l i->topRun mQ Pw w 11 (some (.ref 6)) (750*l.length+2) (RX i w.params os).abs (restOf (Pw.main.body.drop i) yP Cd (ps i) WY)=some (Gb w os)
 |[],i,h=>by
  cases h
  exact piece_nil ⋯
 |m::r,i,h=>by
  have q:=piece_app (n:=750) (segRun_of (Vt (h.1 w Pw Bd os))) (A7 w os r _ h.2)
  rw[<-WU,List.take_append_drop] at q
  rw[eY,show 750*(r.length+1)+2=750+(750*r.length+2) by omega]
  exact q
theorem Lv(w:dW)(os:fH):topRun mQ Pw w 11 (some (.ref 6)) 24752 (RX 0 w.params os).abs (restOf Bd yP Cd p0 WY)=some (Gb w os):=A7 w os [9,21,10,1,1,5,13,14,1,14,10,15,6,1,1,1,1,1,1,1,1,12,13,1,1,1,7,13,4,13,7,7,12] 0 ⟨pc0,pc9,aeb,aec,aed,aee,aef,aeg,aeh,aei,aej,aek,acA,acB,acC,acD,acE,acF,acG,acH,acI,acJ,acK,acL,acM,acN,acO,acP,acQ,acR,acS,acT,acU,rfl⟩
theorem E8(w:dW)(os:fH):segRun mQ Pw w 11 (some (.ref 6)) 1 1 (RX 0 w.params os).abs (blockOf Bd yP Cd p0 WY)=some (.next,(RX 0 w.params os).abs,Cd,p0):=⋯
theorem NU(w:dW)(os:fH):topGo mQ Pw w 11 (some (.ref 6)) 12 ⟨kO w.params,#[],boot_drawn,boot_toks,os⟩ (topStub Pw)=some ((RX 0 w.params os).abs,⟨denote mQ Cd,Cd,p0,WY⟩):=⋯
theorem NT(w:dW)(os:fH):topRun mQ Pw w 11 (some (.ref 6)) 24765 ⟨kO w.params,#[],boot_drawn,boot_toks,os⟩ (topStub Pw)=some (Gb w os):=go_top (n:=12) (N:=24753) (NU w os) (piece_block (n:=1) (N:=24752) (q:=p0) (E8 w os) (Lv w os))
end
section
open PySem PySem.W PyProof.Rows PySem.Calls
noncomputable def Qv:Program:={Pw with main:={Pw.main with body:=[sT 218]}}
noncomputable def Ls:List Str:=((RT.take 218).filter λi=> !UP i.s).map (·.s.n)
noncomputable def Xt0(_:az):Bool:=true
noncomputable def Yf0(s:az):dO×Nat:=(s.heap,s.toks)
noncomputable def Ya0(w:dW):dO×Nat:=(wY w.params,2455)
noncomputable abbrev NN:Nat:=30000
theorem ade(w:dW):((kO w.params).isNs V3&&(#[]:Array GenState).size==0,(kO w.params).objs.size,(kO w.params).nsMap V3 "__annotations__")=(true,11,some (.ref 6)):=⋯
theorem ad2:eI 24765 NN=true:=⋯
theorem acw(w:dW):(fencedOpening mQ Pw w NN).map (λs=>(s.heap,s.gens,s.drawn,s.toks))=some (kO w.params,#[],boot_drawn,boot_toks):=boot_open (p:=Pw) ⋯ ⋯ (λs=>⋯) w
theorem acj(w:dW)(os:fH):staticsOk (Aw Pw.main.body) (kO w.params) (wY w.params)=true:=⋯
theorem ack(w:dW)(os:fH):namesBound Pw (wY w.params)=true:=⋯
theorem acm(w:dW)(os:fH):gensDone (Gb w os)=true:=⋯
theorem acn(w:dW)(os:fH):laidKept (kO w.params) (wY w.params)=true:=⋯
noncomputable abbrev Md:List Str:=Aw Pw.main.body
noncomputable abbrev S1(w:dW)(os:fH):Shared:=Gb w os
theorem aep(w:dW)(os:fH):seen ((recsOf Qv).map (·.name)) (ownsOf Qv) [] {S1 w os with gens:=#[]}=expectedOf Qv:=⋯
theorem aeq(w:dW)(os:fH):(S1 w os).heap.bltView=bltViewBooted:=⋯
theorem aer(w:dW)(os:fH):((S1 w os).heap.keysOk (looseW Qv Ls) ((recsOf Qv).map (·.name)) ((litsOf Qv).map (·.1)) ((clssOf Qv (looseW Qv Ls)).map (·.name))&&(S1 w os).heap.accountedOkI Md&&(S1 w os).heap.isNs V3&&(S1 w os).heap.isNs qb&&tablesOk Qv (S1 w os).heap&&Xt0 (S1 w os)&&(if true then(S1 w os).gens.size==0 else !leftWithCleanup (S1 w os).gens))=true:=⋯
theorem aes(w:dW)(os:fH):tabsOk Qv (S1 w os)=true:=⋯
theorem aet(w:dW)(os:fH):pinSeenD Qv (drecsOf Qv) (S1 w os)=pinGoodD (drecsOf Qv):=⋯
theorem aeu(w:dW)(os:fH):plainSeenE Qv (looseW Qv Ls) (S1 w os)=plainGoodE Qv (looseW Qv Ls):=⋯
theorem aev(w:dW)(os:fH):plainSeenD Qv Ls (S1 w os)=plainGoodD Qv Ls:=⋯
theorem aew(w:dW)(os:fH):wideSeen Qv (S1 w os)=wideGood Qv:=⋯
theorem aex(w:dW)(os:fH):clsSeenW Qv Ls (S1 w os)=clsGoodW Qv Ls:=⋯
end
section
open PySem PySem.W PyProof.Rows PySem.Calls
noncomputable abbrev L0:OpenLaw:=PySem.Challenge.rw_xm0332_01
noncomputable abbrev r0:OpenRow:=L0.row
section
open PySem.W.Fast
theorem ld1:namesResolve L0.prog=true:=by
 rw[te8377067652309620493];kernel_rfl
theorem ld2:noRoadLSs {strict:= !(Aw L0.prog.main.body).all cThrough.contains,foot:=none,bare:=((["vars","dir","locals"]:List Str).filter (readsOut L0.prog L0.prog.main.body))} L0.prog.main.body=true:=by
 rw[te8326940854005059898,te13343964577679436407];kernel_rfl
theorem ld3:(namesMeet L0.prog L0.prog.main.body λJ n=>attrL n)=true:=by
 rw[OK,te17868728402115742887];kernel_rfl
theorem ld4:namesMeet L0.prog L0.above (λJ n=> !L0.own.contains n)=true:=by
 rw[OK,te3471404346716756564,sDec_eq,te10792542408131684335];kernel_rfl
end
theorem lo0:looksOpen L0.prog=true:=bJ (bJ (bJ (bJ (bJ ⋯ ⋯) ld1) ⋯) ld2) ld3
theorem ps0:r0.partSaid=true:=
 bJ (bJ (bJ (bJ (bJ (bJ (bJ (bJ (bJ (bJ (bJ (bJ (bJ lo0 ⋯) ⋯) ⋯) ⋯) ⋯) ⋯) ⋯) ⋯) ⋯) ⋯) ⋯) ⋯) ⋯
theorem ac2:r0.wellSaid=true:=bJ (bJ ps0 ⋯) ⋯
theorem aeF:L0.wellSaid=true:=
 bJ (bJ (bJ (bJ (bJ (bJ (bJ (bJ (bJ (bJ (bJ (bJ (bJ (bJ (bJ (bJ (bJ (bJ ac2 ⋯) ⋯) ⋯) ⋯) ⋯) ⋯) ⋯) ⋯) ⋯) ⋯) ⋯) ⋯) ⋯) ⋯) ⋯) ⋯) ld4) ⋯
end
section
inductive Lx|v (i:Nat)|n (k:Nat)|s (a b:Lx)|m (k:Nat) (a:Lx)|r (a:Lx) (k:Nat)
inductive Hs|z|c (k:Nat) (l r:Lx) (t:Hs)|E (k:Nat) (l r:Lx) (t:Hs)|F (k:Nat) (l r:Lx) (t:Hs)
noncomputable def gtN:List Nat->Nat->Nat
 |[],_=>0
 |a::_,0=>a
 |_::l,i+1=>gtN l i
noncomputable def Lx.d(c:List Nat):Lx->Nat
 | .v i=>gtN c i
 | .n k=>k
 | .s a b=>a.d c+b.d c
 | .m k a=>k*a.d c
 | .r a k=>a.d c*k
noncomputable def n7:List Nat->List Nat->List Nat
 |[],q=>q
 |a::p,[]=>a::p
 |a::p,b::q=>(a+b)::n7 p q
noncomputable def unL:Nat->List Nat
 |0=>[1]
 |i+1=>0::unL i
noncomputable def Lx.p:Lx->List Nat
 | .v i=>0::unL i
 | .n k=>[k]
 | .s a b=>n7 a.p b.p
 | .m k a=>a.p.map (k* ·)
 | .r a k=>a.p.map (k* ·)
noncomputable def i6:List Nat->List Nat->Nat
 |[],_=>0
 |_::_,[]=>0
 |a::p,b::q=>a*b+i6 p q
theorem pF:∀p q c,i6 (n7 p q) c=i6 p c+i6 q c
 |[],q,c=>(cP _).symm
 |a::p,[],c=>rfl
 |a::p,b::q,[]=>rfl
 |a::p,b::q,x::c=>by show(a+b)*x+i6 (n7 p q) c=a*x+i6 p c+(b*x+i6 q c);rw[pF p q c,Nat.add_mul];ac_rfl
theorem pG(k:Nat):∀p c,i6 (p.map (k* ·)) c=k*i6 p c
 |[],c=>rfl
 |a::p,[]=>rfl
 |a::p,x::c=>by show k*a*x+i6 (p.map (k* ·)) c=k*(a*x+i6 p c);rw[pG k p c,Nat.mul_add,Nat.mul_assoc]
theorem HT:∀i c,i6 (unL i) c=gtN c i
 |0,[]=>rfl
 |0,x::c=>by show 1*x+i6 [] c=x;rw[Nat.one_mul];rfl
 |i+1,[]=>rfl
 |i+1,x::c=>by show 0*x+i6 (unL i) c=gtN c i;rw[HT i c,Fy,cP]
theorem Lx.j(c:List Nat):∀e:Lx,i6 e.p (1::c)=e.d c
 | .v i=>by show 0*1+i6 (unL i) c=gtN c i;rw[HT,Fy,cP]
 | .n k=>by show k*1+i6 [] c=k;rw[Nat.mul_one];rfl
 | .s a b=>by show i6 (n7 a.p b.p) _=a.d c+b.d c;rw[pF,Lx.j c a,Lx.j c b]
 | .m k a=>by show i6 (a.p.map (k* ·)) _=k*a.d c;rw[pG,Lx.j c a]
 | .r a k=>by show i6 (a.p.map (k* ·)) _=a.d c*k;rw[pG,Lx.j c a,Nat.mul_comm]
noncomputable def WJ:List Nat->List Nat->Bool
 |[],_=>true
 |a::p,[]=>aR a 0&&WJ p []
 |a::p,b::q=>eI a b&&WJ p q
theorem zO:∀p q c,WJ p q=true->i6 p c<=i6 q c
 |[],q,c,_=>b7 _
 |a::p,[],[],_=>b7 _
 |a::p,[],x::c,h=>by
  have h:=aE.mp h
  show a*x+i6 p c<=0
  rw[aK h.1,Fy,cP]
  have:=zO p [] c h.2
  cases c<;>exact this
 |a::p,b::q,[],_=>b7 _
 |a::p,b::q,x::c,h=>by
  have h:=aE.mp h
  exact qa (gq x (aW h.1)) (zO p q c h.2)
noncomputable def Hs.j:Hs->List Nat
 | .z=>[]
 | .c k l _ t=>n7 (l.p.map (k* ·)) t.j
 | .E k l _ t=>n7 (l.p.map (k* ·)) t.j
 | .F k l _ t=>n7 (l.p.map (k* ·)) t.j
noncomputable def Hs.m:Hs->List Nat
 | .z=>[]
 | .c k _ r t=>n7 (r.p.map (k* ·)) t.m
 | .E k _ r t=>n7 (r.p.map (k* ·)) t.m
 | .F k _ r t=>n7 (r.p.map (k* ·)) t.m
noncomputable def Hs.i(c:List Nat)(P:Prop):Hs->Prop
 | .z=>P
 | .c _ l r t=>l.d c<=r.d c->t.i c P
 | .E _ l r t=>l.d c=r.d c->t.i c P
 | .F _ l r t=>r.d c=l.d c->t.i c P
theorem Hs.p{c:List Nat}{l r:Lx}(k:Nat)(t:Hs)(q:l.d c<=r.d c)(g:i6 t.j (1::c)<=i6 t.m (1::c)):i6 (n7 (l.p.map (k* ·)) t.j) (1::c)<=i6 (n7 (r.p.map (k* ·)) t.m) (1::c):=by
 rw[pF,pF,pG,pG,Lx.j,Lx.j]
 exact qa (Nat.mul_le_mul_left k q) g
theorem Hs.s(c:List Nat){P:Prop}:∀(h:Hs),(i6 h.j (1::c)<=i6 h.m (1::c)->P)->h.i c P
 | .z,f=>f (aC _)
 | .c k l r t,f=>λq=>t.s c λg=>f (Hs.p k t q g)
 | .E k l r t,f=>λq=>t.s c λg=>f (Hs.p k t (ot q) g)
 | .F k l r t,f=>λq=>t.s c λg=>f (Hs.p k t (ot q.symm) g)
theorem bZ(c:List Nat)(h:Hs)(e:WJ (n7 [1] h.m) h.j=true):h.i c False:=h.s c λg=>by
 have q:=zO _ _ (1::c) e
 rw[pF] at q
 exact Nat.not_succ_le_self _ (aD (aD (ot (tV _ 1)) q) g)
theorem Hs.n{c:List Nat}{A B:Prop}(f: ¬A->B):∀h:Hs,(A->h.i c False)->h.i c B
 | .z,g=>f g
 | .c _ _ _ t,g=>λq=>Hs.n f t λa=>g a q
 | .E _ _ _ t,g=>λq=>Hs.n f t λa=>g a q
 | .F _ _ _ t,g=>λq=>Hs.n f t λa=>g a q
noncomputable def Hs.o(l r:Lx)(t:Hs):Hs:= .c 1 l r t
noncomputable def Hs.e(l r:Lx)(t:Hs):Hs:= .E 1 l r t
noncomputable def Hs.f(l r:Lx)(t:Hs):Hs:= .F 1 l r t
theorem bN(c:List Nat)(l r:Lx)(h:Hs)(e:WJ (n7 [1] (Hs.m (.c 1 (.s r (.n 1)) l h))) (Hs.j (.c 1 (.s r (.n 1)) l h))=true):h.i c (l.d c<=r.d c):=Hs.n aP h (bZ c (.c 1 (.s r (.n 1)) l h) e)
theorem gy(c:List Nat)(l r:Lx)(h:Hs)(e:WJ (n7 [1] (Hs.m (.c 1 r l h))) (Hs.j (.c 1 r l h))=true):h.i c (l.d c<r.d c):=Hs.n cL h (bZ c (.c 1 r l h) e)
instance:Add Lx:=⟨.s⟩
instance {k:Nat}:OfNat Lx k:=⟨.n k⟩
noncomputable def V0.A:Lx:= .v 0
noncomputable def V0.B:Lx:= .v 1
noncomputable def V0.C:Lx:= .v 2
noncomputable def V0.D:Lx:= .v 3
noncomputable def V0.E:Lx:= .v 4
noncomputable def V0.F:Lx:= .v 5
noncomputable def V0.G:Lx:= .v 6
noncomputable def V0.H:Lx:= .v 7
noncomputable def V0.I:Lx:= .v 8
noncomputable def V0.J:Lx:= .v 9
noncomputable def V0.K:Lx:= .v 10
noncomputable def V0.M(k:Nat)(a:Lx):Lx:= .m k a
noncomputable def V0.R(a:Lx)(k:Nat):Lx:= .r a k
section
open V0
variable{a b c d e f g h:Nat}
theorem nx{k a:Nat}{P:Prop}(h:k<=a)(q:k+1<=a->P):a=k\/P:=(OB h).imp Eq.symm q
theorem nab{a:Int}{n:Nat}(h:0<=a)(i:a<n):a.natAbs<n:=cv.mp (cX (Int.le_of_eq (Int.natAbs_of_nonneg h)) i)
theorem tnE{a:Int}{i:Nat}(h:0<=a)(e:a.toNat=i):a=i:=(kX h).symm.trans (congrArg nG e)
theorem W7(i:(↑a:Int)=(↑b:Int)):a=b:=eA i
theorem adv(i:a<b+20): ¬(↑(b+20):Int)<=(↑a:Int):=λg=>(λj=>bZ [a,b] (.o (A+1) (B+20) (.o (B+20) A .z)) rfl i j: ¬b+20<=a) (fg.mp g)
theorem adw:a+20≠0/\a+20≠14:=⟨Nat.succ_ne_zero _,λh=>absurd (h▸eR 20 a) (by decide: ¬20<=14)⟩
theorem GY(i:a<1000000):a<2^62:=eK i
theorem ZN:19≠14:=by decide
theorem Z5:19≠0:=by decide
theorem N':19<20:=by decide
theorem lB:a<=a+1:=bc _ _
theorem rH(i:a<=99999):a+20<=1000000:=eK (aM i _)
theorem vz(i:a<=99999):a<=100000:=eK i
theorem R6:0<=(↑a:Int):=eF _
theorem R7:a<a+1:=aC _
theorem R8(i:a<19/\a≠0/\a≠14): ¬a=19:=λj=>bZ [a] (.o (A+1) 19 (.f 19 A .z)) rfl i.1 j
theorem R9(i:a<19/\a≠0/\a≠14):a<20:=gy [a] A 20 (.o (A+1) 19 .z) rfl i.1
theorem R5:0<=1:=by decide
theorem W0:a<=a+0:=aC _
theorem W2(i:0<a):(↑a:Int)≠0:=λg=>(λj=>bZ [a] (.o (0+1) A (.e A 0 .z)) rfl i j:a≠0) (eA g)
theorem adu(i:0<a):0<(↑a:Int):=cv.mpr i
theorem Lw:0<2^62:=by decide
theorem W4(j:0<a)(i:a<=1000):0<=(↑a:Int):=eF _
theorem OT(i:0<a)(k:a<=1000):(↑a:Int)≠0:=λg=>(λj=>bZ [a] (.o (0+1) A (.e A 0 .z)) rfl i j:a≠0) (eA g)
theorem AH(i:a<=100):a<=1000000:=eK i
theorem W5{a:Int}(i: ¬0<=a):18446744073709551615 - (↑((-a - 1).toNat%18446744073709551616):Int)=a%18446744073709551616:=match a,i with| .ofNat n,h=>absurd (eF n) h| .negSucc n,_=>(congrArg (λk:Int=>18446744073709551615 - ((k.toNat%18446744073709551616:Nat):Int)) (jc (n:Int) 1)).trans ((congrArg (18446744073709551615 - ·) (VQ n 18446744073709551616)).trans (Int.negSucc_emod n (b:=18446744073709551616) (by decide)).symm)
theorem W6{a:Int}{b:Nat}(i:0<=a)(j:b=a.toNat%18446744073709551616):(↑(a.toNat%18446744073709551616):Int)=a%18446744073709551616:=(VQ a.toNat 18446744073709551616).trans (congrArg (· %(18446744073709551616:Int)) (kX i))
theorem Az:14<15:=by decide
theorem AB:13<15:=by decide
theorem AD:12<15:=by decide
theorem AE:11<15:=by decide
theorem AF:10<15:=by decide
theorem AG:9<15:=by decide
theorem W8(j:a+(b+1)<=99999)(i:c+(b+1)<=1000):c<=1000000:=bN [a,b,c] C 1000000 (.o (C+(B+1)) 1000 .z) rfl i
theorem uH:15<=a+20:=eR _ _
theorem xc:a+20≠17:=dJ (bk (by decide) (eR _ _))
theorem OV:15<=16:=by decide
theorem OW:15<=18:=by decide
theorem OX{a:Int}(j: -9223372036854775808<=a)(i:a<9223372036854775808):(a+(↑9223372036854775808:Int))%(↑18446744073709551616:Int) - (↑9223372036854775808:Int)=a:=(congrArg (· - (9223372036854775808:Int)) (mM (KS j 9223372036854775808) (KU i 9223372036854775808))).trans (jc _ _)
theorem OY:1<=5/\5<=8:=by decide
theorem OZ{a:Int}(j: -2147483648<=a)(i:a<2147483648):(a+(↑2147483648:Int))%(↑4294967296:Int) - (↑2147483648:Int)=a:=(congrArg (· - (2147483648:Int)) (mM (KS j 2147483648) (KU i 2147483648))).trans (jc _ _)
theorem O0{a:Int}(j: -2147483648<=a)(i:a<2147483648):a=(a+(↑2147483648:Int))%(↑4294967296:Int) - (↑2147483648:Int):=(OZ j i).symm
theorem OU(i:a<=3):a<=1000000:=eK i
theorem jT(i:a<=3):a<=1000:=eK i
theorem O6(i:0<a):a≠0:=dJ i
theorem xd(i:a<=90000):a<=100000:=eK i
theorem AI(i:a≠b):a≠b:=i
theorem AJ(i:15<=a):12<=a:=bk (by decide) i
theorem Gp(i:15<=a):a≠13:=dJ (tX i)
theorem O7(j:a<=100000)(i:b<=a):b<=1000000:=aD i (eK j)
theorem sC(i:a<b):b≠a:=dJ i
theorem W_{a b:Int}(i:0<a):b<b+a:=Dt b i
theorem Xa{a b c:Int}(j:0<a)(i:b<c):b<c+a:=Fp i (Dt c j)
theorem xe(i:a<=b):a+1<=b+1:=RM i
theorem Xb{a:Int}(i:a<a):False:=by simpa using i
theorem O8:a<=a+1+1+1:=bN [a] A (A+1+1+1) .z rfl
theorem O9:0<5:=by decide
theorem Xc:a≠a+1+1:=λe=>by cases e
theorem pz(j:a<=b)(i:b<=c):a<=c:=aD j i
theorem sD(j:a<=b)(i:b<a):False:=bZ [a,b] (.o A B (.o (B+1) A .z)) rfl j i
theorem Xd(j:a<=b)(i:c<a):b≠c:=λk=>bZ [a,b,c] (.o A B (.o (C+1) A (.e B C .z))) rfl j i k
theorem AK(i:a<=1000):0<=(↑a:Int)/\(↑a:Int)<=1000:=⟨fg.mpr (bN [a] 0 A .z rfl),fg.mpr (bN [a] A 1000 (.o A 1000 .z) rfl i)⟩
theorem Xe(i:a<=5)(j:1<=a):min b a<=1000000:=bN [a,min b a,b] B 1000000 (.o A 5 (.o B A .z)) rfl i (eG b a)
theorem W9(k:a<=1000)(i:1<=a): ¬2+(↑a:Int)<3:=λg=>(λj=>bZ [a] (.o 1 A (.o (2+A+1) 3 .z)) rfl i j: ¬2+a<3) (cv.mp g)
theorem rj(i:a<=1000):a<=1000000:=eK i
theorem O4(i:a<b):(↑a:Int)<(↑b:Int):=cv.mpr i
theorem O5(i:a<=80000):a+1<=90000:=ry i
theorem AM(i:a<=80000):a<=90000:=eK i
theorem Gq(j:a<=90000)(i:b<=a):b<=99999:=aD i (eK j)
theorem Xi:a<=a+b:=bc _ _
theorem Gr(i:a<=b):a<=b+c:=bN [a,b,c] A (B+C) (.o A B .z) rfl i
theorem oE(j:a<=b)(i:c<=a):c<=b:=aD i j
theorem O_(j:64<=a)(i:a<=68):a=64\/a=65\/a=66\/a=67\/a=68:=nx j λh=>nx h λh=>nx h λh=>nx h λh=>aQ i h
theorem Xj(i:a<=5):min b a<=1000000:=bN [a,min b a,b] B 1000000 (.o A 5 (.o B A .z)) rfl i (eG b a)
theorem AN:a<=a+1+1:=bN [a] A (A+1+1) .z rfl
theorem Pa(i:a<b):a<=b:=jF i
theorem Xk(l:a=b)(i:c=d)(k:a<c):a≠d:=λj=>bZ [a,b,c,d] (.e C D (.o (A+1) C (.f D A .z))) rfl i k j
theorem Gs(i:a≠b)(j:c≠b)(k:d≠b):b≠a:=i.symm
theorem Xl(r:a<b)(q:b<c)(k:d≠c)(l:a≠c)(t:b≠c)(s:d≠b)(m:e≠c)(n:f≠c)(p:g≠c):c≠d:=(bL k).elim (λi=>λj=>bZ [a,b,c,d] (.o (D+1) C (.e C D .z)) rfl i j) λi=>λj=>bZ [a,b,c,d] (.o (C+1) D (.f D C .z)) rfl i j
theorem AO(i:a<=5)(j:1<=a):a<=1000:=eK i
theorem Pb:a+1+1≠a:=λe=>by cases e
theorem xf(i:a<b):a≠b:=gu i
theorem Xm(j:a<b)(i:b<c):a≠c:=λk=>bZ [a,b,c] (.o (A+1) B (.o (B+1) C (.f C A .z))) rfl j i k
theorem Xf(k:a<=5)(l:1<=a):a - 1<100000:=cL λi=>bZ [a,a - 1] (.o A 5 (.o 100000 B (.e (B+1) A .z))) rfl k i (dy (aP λj=>bZ [a,a - 1] (.c 1 (.n 100000) (.v 1) (.c 1 (.v 1) (.v 0) (.c 1 (.s (.v 0) (.n 1)) (.n 1) .z))) rfl i (yF a 1) j))
theorem Xg(k:a<=5)(i:1<=a):a - 1<a:=gy [a,a - 1] B A (.e (B+1) A .z) rfl (dy (aP λj=>bZ [a,a - 1] (.c 1 (.n 1) (.v 0) (.c 1 (.s (.v 0) (.n 1)) (.n 1) .z)) rfl i j))
theorem AL:a<=a:=aC _
theorem Xh:a≠a+1+1+1:=λe=>by cases e
theorem xh(i:a<=70000):a<=80000:=eK i
theorem Pd(j:a<=90000)(i:b<=a):b<=1000000:=aD i (eK j)
theorem xi(i:a<=b):a<=b+1:=tW i
theorem Gy(i:a<=b+1):a<=b+1:=i
theorem Xq(k:a<b+1)(j: ¬a=b):a<b:=(bL j).elim (λi=>gy [a,b] A B (.o (A+1) B .z) rfl i) λi=>cL λl=>bZ [a,b] (.o (A+1) (B+1) (.o (B+1) A .z)) rfl k i
theorem Xr:a+b+1=a+1+b:=aQ (bN [a,b] (A+B+1) (A+1+B) .z rfl) (bN [a,b] (A+1+B) (A+B+1) .z rfl)
theorem Gz(i:a<=90000):a<=1000000:=eK i
theorem uJ(i:a<=100):a<=1000:=eK i
theorem GB(j:a<=80000)(i:b<=a):b<=90000:=aD i (eK j)
theorem Pe(j:a<=80000)(i:b<=a):b<=100000:=aD i (eK j)
theorem Pf(i:a<=100):a+1<=1000:=ry i
theorem Pg(i:a<=100):a<100000:=ry i
theorem GC:(↑(a+1):Int) - 1=(↑a:Int):=by simp
theorem Ph(i:a<=1000):(↑a:Int)<2^62:=cv.mpr (ry i)
theorem Pc(i:a<=1000):0<=(↑a:Int):=eF _
theorem Gu(i:a<2):64+a<=65:=bN [a] (64+A) 65 (.o (A+1) 2 .z) rfl i
theorem xg:(↑(a+1):Int)=(↑a:Int)+1:=rfl
theorem uI(i:a<=10):a<=100:=eK i
theorem Gv(i:a<=70000):a+1<=80000:=ry i
theorem Xn:a≠a+6:=λe=>by cases e
theorem AP:a+6≠a:=λe=>by cases e
theorem Gx(i:a<=70000):a<=90000:=eK i
theorem Xo(j:a<b)(i:b<=5):a<100000:=gy [a,b] A 100000 (.o (A+1) B (.o B 5 .z)) rfl j i
theorem Xp(i:a<b): ¬b<=a:=by simpa using i
theorem GG(i:a<=5):a<=1000:=eK i
theorem xj(j:a<=70000)(i:b<=a):b<=100000:=aD i (eK j)
theorem Xv:(↑a:Int)<=(↑b:Int)↔a<=b:=by simp
theorem m6(i:a<2):a=0\/a=1:=nx (b7 _) λh=>aQ (fz i) h
theorem Xw(i:a<=10):min b a<=1000000:=bN [a,min b a,b] B 1000000 (.o A 10 (.o B A .z)) rfl i (eG b a)
theorem Xx(l:a=b)(k:b=c+2)(i:d<=e)(j:a+6<d):a+6<e:=gy [a,b,c,d,e] (A+6) E (.o D E (.o (A+6+1) D .z)) rfl i j
theorem GH(i:a<=10):a<=1000000:=eK i
theorem AS(i:a<=60000):a+1<=70000:=ry i
theorem Pl:5<6:=by decide
theorem Pm(j:a<=60000)(i:b<=a):b<=90000:=aD i (eK j)
theorem Xy(j:a=b)(i:b<=5):b<=1000:=bN [a,b] B 1000 (.o B 5 .z) rfl i
theorem Pn:(↑a:Int)<(↑b:Int)↔a<b:=by simp
theorem GI(i:a+1<=100):a+1<=1000000:=eK i
theorem Po(i:a+1<=100):a<=100:=jF (bk i (by decide))
theorem Pp(i:a=b+20):a≠0:=λj=>bZ [a,b] (.f (B+20) A (.e A 0 .z)) rfl i j
theorem Xz(i:a<=3)(k:b=a)(l:c=a)(j:d<a):d<100000:=gy [a,b,c,d] D 100000 (.o A 3 (.o (D+1) A .z)) rfl i j
theorem XA(i:a<=3)(k:b=a)(l:c=a)(j:d<a):d<=1000:=bN [a,b,c,d] D 1000 (.o A 3 (.o (D+1) A .z)) rfl i j
theorem Xs(i:a<=3)(k:b=a)(l:c=a)(j:d<a):min d b<=1000000:=bN [a,b,c,d,min d b] E 1000000 (.o A 3 (.o (D+1) A (.o E D .z))) rfl i j (f7 d b)
theorem Pj(i:15<=a):a≠14:=dJ i
theorem GD(i:15<=a):a≠12:=dJ (bk (by decide) i)
theorem Xu(i:a<=3)(k:b=a)(j:c<a):c+1<100000:=gy [a,b,c] (C+1) 100000 (.o A 3 (.o (C+1) A .z)) rfl i j
theorem AQ:1+(↑a:Int)=(↑(a+1):Int):=congrArg nG (aQ (bN [a] (1+A) (A+1) .z rfl) (bN [a] (A+1) (1+A) .z rfl))
theorem Pk(i:a<=3)(k:b=a)(j:c<a):c<=1000:=bN [a,b,c] C 1000 (.o A 3 (.o (C+1) A .z)) rfl i j
theorem GF(i:a<=3)(j:b=a):a<=1000:=eK i
theorem XB(k:a=b)(i:c=b)(j:d<c):d<b:=gy [a,b,c,d] D B (.e C B (.o (D+1) C .z)) rfl i j
theorem XC(i:a=b)(k:c=b)(j:d=b):a=d:=aQ (bN [a,b,c,d] A D (.e A B (.f B D .z)) rfl i j) (bN [a,b,c,d] D A (.f B A (.e D B .z)) rfl i j)
theorem XD(j:a=b)(i:c=b):a=c:=i▸j
theorem XE(l:a=b)(k:c=b)(i:b<=3)(j:d=b):d<=3:=bN [a,b,c,d] D 3 (.o B 3 (.e D B .z)) rfl i j
theorem Px:0<6:=by decide
theorem XF(i:a=b)(k:c=b)(l:d=b)(j:e<a):e<b:=gy [a,b,c,d,e] E B (.e A B (.o (E+1) A .z)) rfl i j
theorem Py(i:a<=60000):a+4<=70000:=eK (aM i _)
theorem xk(i:a<=60000):a<=70000:=eK i
theorem Pz(i:a<=3):a<=999:=eK i
theorem AU:4+4<=8:=by decide
theorem AV(i:a<=50000):a+4<=60000:=eK (aM i _)
theorem GK(i:a<=10):a<=1000:=eK i
theorem PB(i:a<=3):a+1<=1000:=ry i
theorem PD(i:a<=3):a<100000:=ry i
theorem PE(i:a<=50000):a<=70000:=eK i
theorem XG(l:a=b)(k:c=b)(i:d<=3)(j:a<=3):d+(a+1)<=10:=bN [a,b,c,d] (D+(A+1)) 10 (.o D 3 (.o A 3 .z)) rfl i j
theorem XH(i:a=b)(k:c=b)(j:b<=3):a<=3:=bN [a,b,c] A 3 (.e A B (.o B 3 .z)) rfl i j
theorem Pq(j:a<=50000)(i:b<=a):b<=100000:=aD i (eK j)
theorem Pr{a:Int}(j:0<=a)(i:a<999983):a*4294967311 - 2000000000000000<9223372036854775808:=cX (kK (gP (tT i) (by decide)) _) (by decide)
theorem Pu{a:Int}(i:0<=a)(j:a<999983): -9223372036854775808<=a*4294967311 - 2000000000000000:=gn (by decide) (kK (gP i (by decide)) _)
theorem GJ{a:Int}(j:0<=a)(i:a<999983):a.natAbs<2^64:=ou (nab j (n:=999983) i) (by decide)
theorem XI{a:Int}:a%3=0\/a%3=1\/a%3=2:=Or.imp (tnE (fZ a (by decide))) (Or.imp (tnE (fZ a (by decide))) (tnE (fZ a (by decide)))) (nx (b7 _) λh=>nx h λh=>aQ (fz ((oi (fZ a (by decide))).mpr (rO a (by decide)))) h)
theorem XJ{a:Int}:a%2=0\/a%2=1:=Or.imp (tnE (fZ a (by decide))) (tnE (fZ a (by decide))) (nx (b7 _) λh=>aQ (fz ((oi (fZ a (by decide))).mpr (rO a (by decide)))) h)
theorem XK:9<=100:=by decide
theorem GN(i:a<=80000):a<=100000:=eK i
theorem PK:a+1≠a:=Nat.succ_ne_self _
theorem XM(i:a<=900):a<=1000000:=eK i
theorem PL{a:Int}(j:0<=a)(i:a<999983):a/2<999983:=cX (Int.ediv_le_self _ j) i
theorem PM{a:Int}(i:0<=a)(j:a<999983):0<=a/2:=Int.ediv_nonneg i (by decide)
theorem XN(j:a<5)(i:b<=50000)(l:c=a)(k:d<=b+6*a+1+3):d<=100000:=bN [a,b,c,d] D 100000 (.c 6 (A+1) 5 (.o B 50000 (.o D (B+(M 6 A)+1+3) .z))) rfl j i k
theorem XO(j:a<5)(i:b<=50000)(k:c=a):b+6*a+1+3<=99999:=bN [a,b,c] (B+(M 6 A)+1+3) 99999 (.c 6 (A+1) 5 (.o B 50000 .z)) rfl j i
theorem XQ(j:a<5)(i:b<=50000)(k:c=a):b+6*a+1<=70000:=bN [a,b,c] (B+(M 6 A)+1) 70000 (.c 6 (A+1) 5 (.o B 50000 .z)) rfl j i
theorem XR(j:a<=100)(i:(-1+(↑(a+1):Int)).toNat=a): -2^62< -1/\0<= -1+(↑(a+1):Int):=⟨by decide,le_of_le_of_eq (eF a) ((Int.add_comm _ _).trans (As (a:Int) 1)).symm⟩
theorem PN(i:a<=100):(-1+(↑(a+1):Int)).toNat=a:=congrArg Int.toNat ((Int.add_comm _ _).trans (As (a:Int) 1))
theorem PO: ¬0<= -1:=by decide
theorem PF:a+1+1<=a+3:=cN _
theorem PG:a+1+1+1<=a+3:=aC _
theorem PH(i:a<=70000):a+1+1<=80000:=eK (aM (aM i _) _)
theorem GL(i:a<=70000):a+1<=90000:=ry i
theorem PI:67<=68:=by decide
theorem PJ:64<=67:=by decide
theorem PS:2<6:=by decide
theorem XZ:a+1<=a+3:=by simp
theorem PT(j:a<5)(i:b+1=a):b<=100:=bN [a,b] B 100 (.o (A+1) 5 (.e (B+1) A .z)) rfl j i
theorem GO:0<4:=by decide
theorem X1(j:a<5)(i:b<=50000)(k:c=a):b+6*a<=90000:=bN [a,b,c] (B+(M 6 A)) 90000 (.c 6 (A+1) 5 (.o B 50000 .z)) rfl j i
theorem X2(m:a<5)(l:b=a)(j: ¬a=0):0<a:=(bL j).elim (λi=>cL λk=>bZ [a,b] (.o (A+1) 0 .z) rfl i) λi=>gy [a,b] 0 A (.o (0+1) A .z) rfl i
theorem X3(k:a=b)(i:b=0): ¬0<b:=λj=>bZ [a,b] (.e B 0 (.o (0+1) B .z)) rfl i j
theorem PU(j:a<5)(i:b=a):b<=1000000:=bN [a,b] B 1000000 (.o (A+1) 5 (.e B A .z)) rfl j i
theorem X4(n:a<5)(k:b=a+1)(j: ¬a=0)(l:c=a):2<=b:=(bL j).elim (λi=>aP λm=>bZ [a,b,c] (.o (A+1) 0 .z) rfl i) λi=>bN [a,b,c] 2 B (.f (A+1) B (.o (0+1) A .z)) rfl k i
theorem PQ(j:a<5)(i:b=a+1)(k:c=a):b<=5:=i▸j
theorem PR(j:a<5)(i:b=a+1)(k:c=a):1<=b:=bN [a,b,c] 1 B (.f (A+1) B .z) rfl i
theorem XT(i:a<5)(j:b=a+1)(k:c=a):d+1+1+6*(a+1)+4<=d+36:=bN [a,b,c,d] (D+1+1+(M 6 (A+1))+4) (D+36) (.c 6 (A+1) 5 .z) rfl i
theorem XU(m:a=b+1)(k: ¬b=0)(l:c=b):b+1≠1:=(bL k).elim (λi=>λj=>bZ [a,b,c] (.o (B+1) 0 .z) rfl i) λi=>λj=>bZ [a,b,c] (.o (0+1) B (.e (B+1) 1 .z)) rfl i j
theorem XW(j:a<=30000)(i:b<5)(k:c=b+1)(l:d=b):a+1+1+6*(b+1)<=70000:=bN [a,b,c,d] (A+1+1+(M 6 (B+1))) 70000 (.o A 30000 (.c 6 (B+1) 5 .z)) rfl j i
theorem XX(j:a=b+1)(i:c+1=b+1):c=b:=aQ (bN [a,b,c] C B (.e (C+1) (B+1) .z) rfl i) (bN [a,b,c] B C (.f (B+1) (C+1) .z) rfl i)
theorem XY:a+1+1+6*(0+1)<=a+36:=kY (by decide:8<=36) a
theorem xl:a≠a+1:=gu (dh _)
theorem GP(i:a=a+1):False:=by cases i
theorem PX(i:a<999983):(↑a:Int)<999983:=cv.mpr i
theorem PY(i:a<999983):0<=(↑a:Int):=eF _
theorem PZ:0<999983:=by decide
theorem X8(j: ¬a<b)(i:c=b+1)(k:a<c):a=b:=aQ (bN [a,b,c] A B (.e C (B+1) (.o (A+1) C .z)) rfl i k) (bN [a,b,c] B A (.o B A .z) rfl (aP j))
theorem GQ(j:a<b)(i:c=b):a<c:=i▸j
theorem P7(j:a+1<b)(i:c=d+1)(l:d=b+1):a≠c:=λk=>bZ [a,b,c,d] (.o (A+1+1) B (.f (D+1) C (.f (B+1) D (.f C A .z)))) rfl j i l k
theorem X9(l:a+1<b)(n:c=d+1)(k:e+1<=d)(i:e=f+1)(m:f=b+1)(p:g=c+2):a≠d:=λj=>bZ [a,b,c,d,e,f,g] (.o (A+1+1) B (.o (E+1) D (.f (F+1) E (.f (B+1) F (.f D A .z))))) rfl l k i m j
theorem P8(j:a+1<b)(i:c=b+1):a≠c:=λk=>bZ [a,b,c] (.o (A+1+1) B (.f (B+1) C (.f C A .z))) rfl j i k
theorem X_(j:a=b+1)(i:c+1<=b)(l:c=d+1)(k:e=a+2):c<e:=gy [a,b,c,d,e] C E (.f (B+1) A (.o (C+1) B (.f (A+2) E .z))) rfl j i k
theorem PV(i:a<=b):a<=b:=i
theorem X5(l:a=b+1)(k:c+1<=b)(j:c=d+1)(i:d=e+1)(m:f=a+2):e<=b:=bN [a,b,c,d,e,f] E B (.o (C+1) B (.f (D+1) C (.f (E+1) D .z))) rfl k j i
theorem PW(i:a=b+1):b<=a:=bN [a,b] B A (.f (B+1) A .z) rfl i
theorem X6:a+1+6+1<=a+10:=by simp
theorem X7(i:a+1<b)(l:c=b+1)(j:b<=d)(k:d=a):False:=bZ [a,b,c,d] (.o (A+1+1) B (.o B D (.e D A .z))) rfl i j k
theorem Yl(i:a<=60000):a+1+6<=90000:=eK (aM (aM i _) _)
theorem Ym(j:a<=3)(i:b=min a a):b<=3:=bN [a,b,min a a] B 3 (.o A 3 (.e B C (.o C A .z))) rfl j i (f7 a a)
theorem GR(i:a<=60000):a<=90000:=eK i
theorem P_(i:a<=90000):a+1<=100000:=ry i
theorem Yn(i:a<=1/\b<=3):b<=1000:=bN [a,b] B 1000 (.o B 3 .z) rfl i.2
theorem Yo(i:a<=1/\b<=3):a<=1000:=bN [a,b] A 1000 (.o A 1 .z) rfl i.1
theorem Yp(k:a=b+1)(i:c≥b+2)(j:d=c+1):b<=d:=bN [a,b,c,d] B D (.o (B+2) C (.f (C+1) D .z)) rfl i j
theorem Yq(j:a=b+1)(i:c≥b+2)(k:d=c+1):b<=c:=bN [a,b,c,d] B C (.o (B+2) C .z) rfl i
theorem Qa:a+1+1<=a+2:=aC _
theorem Yr(i:a+1<b)(l:c=b+1)(k:d≥b+2):a≠d:=λj=>bZ [a,b,c,d] (.o (A+1+1) B (.o (B+2) D (.f D A .z))) rfl i k j
theorem Ys(j:a=b+1)(i:a+1<=c):c≥b+2:=by subst j;exact i
theorem Qb:a<=a+2:=bc _ _
theorem P9(i:a<2):1 - (↑a:Int)=(↑(1 - a):Int):=(by decide:∀a:Nat,a<2->1 - (↑a:Int)=(↑(1 - a):Int)) a i
theorem Yb(i:a<=b+1*6):a<=b+102/100*6:=i
theorem Yc:a+1*100+2<=a+102:=aC _
theorem Yd(i:a<=3):a<=800:=eK i
theorem Ye(j:a<=50000)(i:b<=a+1*100):b<=90000:=aD i (eK (aM j _))
theorem Yg(i:a<=50000):a+1*100<=60000:=eK (aM i _)
theorem Yh:a<=a+2/100*6:=aC _
theorem Yi:a+2<=a+2:=aC _
theorem Yj(j:a<=50000)(i:b<=a):b<=90000:=aD i (eK j)
theorem Yk(i:a<=50000):a<=60000:=eK i
theorem YC:a≠a+3:=λe=>by cases e
theorem YD(i:a<=90):a<=99:=eK i
theorem YE(j:a<=50000)(i:b+1<=a):b<=60000:=bN [a,b] B 60000 (.o A 50000 (.o (B+1) A .z)) rfl j i
theorem Qd(i:a<=90):a<=100:=eK i
theorem GS(j:a<=40000)(i:b<=200):a+b<=60000:=eK (qa j i)
theorem uK(i:a<=40000):a<=50000:=eK i
theorem Qe(i:a<=3):a<=10:=eK i
theorem YF(k:a=b\/c<=a)(j:c<=b):c<=a:=k.elim (λi=>bN [c,b,a] A C (.o A B (.f B C .z)) rfl j i) λi=>bN [c,b,a] A C (.o A C .z) rfl i
theorem GU:1<2^62:=by decide
theorem Qf(j:a<=3)(i:b<a):b<100000:=aD i (eK j)
theorem YG(j:a<=b+c*(d/100*6+1))(i:e/100*6<=d/100*6)(k:(c+1)*(d/100*6+1)=c*(d/100*6+1)+(d/100*6+1))(l:f<=a+e/100*6):f<b+(c+1)*(d/100*6+1):=gy [a,b,c*(d/100*6+1),e/100,e,d/100,d,(c+1)*(d/100*6+1),f] I (B+H) (.o A (B+C) (.o (R D 6) (R F 6) (.f (C+(R F 6+1)) H (.o I (A+(R D 6)) .z)))) rfl j i k l
theorem YH(j:a<=b+c*(d+3))(i:e<=d)(k:(c+1)*(d+3)=c*(d+3)+(d+3)):a+e+1<=b+(c+1)*(d+3):=bN [a,b,c*(d+3),e,d,(c+1)*(d+3)] (A+D+1) (B+F) (.o A (B+C) (.o D E (.f (C+(E+3)) F .z))) rfl j i k
theorem YI(i:a<b)(j: ¬a+1<b):a+1=b:=(OB i).elim id λh=>absurd h (by assumption)
theorem Qg(j:a<=102)(i:b<=a)(k:(c+1)*(a+3)=c*(a+3)+(a+3)):b<=200:=aD i (eK j)
theorem Qc(j:a<=30000)(i:b<=a+c*(d+3))(k:c*(d+3)<=525):b<=40000:=bN [a,b,c*(d+3)] B 40000 (.o A 30000 (.o B (A+C) (.o C 525 .z))) rfl j i k
theorem Yt(j:a<=b+c*(d/100*6+1))(i:e/100*6<=d/100*6)(k:(c+1)*(d/100*6+1)=c*(d/100*6+1)+(d/100*6+1))(l:f<=a+e/100*6+1):f<=b+(c+1)*(d/100*6+1):=bN [a,b,c*(d/100*6+1),e/100,e,d/100,d,(c+1)*(d/100*6+1),f] I (B+H) (.o A (B+C) (.o (R D 6) (R F 6) (.f (C+(R F 6+1)) H (.o I (A+(R D 6)+1) .z)))) rfl j i k l
theorem Yu(j:a<=b+c*(d+3))(i:e<=d)(k:(c+1)*(d+3)=c*(d+3)+(d+3)):a+e+3<=b+(c+1)*(d+3):=bN [a,b,c*(d+3),e,d,(c+1)*(d+3)] (A+D+3) (B+F) (.o A (B+C) (.o D E (.f (C+(E+3)) F .z))) rfl j i k
theorem Yv(i:a+1<b):a+1<b:=i
theorem Yw(i:0<a):0<a+1:=eR _ _
theorem Yx(m:a<=102)(l:b<=900)(k:c<=b+d*(a/100*6+1))(i:d*(a/100*6+1)<=4*7)(n:e<=a)(p:(d+1)*(a+3)=d*(a+3)+(a+3))(o:(d+1)*(a/100*6+1)=d*(a/100*6+1)+(a/100*6+1)):c+e/100*6+1<999:=cL λj=>bZ [a,b,c,d*(a/100*6+1),e,(d+1)*(a+3),d*(a+3),(d+1)*(a/100*6+1),a/100,e/100] (.c 3 A 102 (.c 50 B 900 (.c 50 C (B+D) (.c 50 D 28 (.c 3 E A (.c 50 999 (C+(R J 6)+1) (.c 3 (R J 100) E .z))))))) rfl m l k i n j (iX e 100)
theorem Yy(j:a<=b+c*(d/100*6+1))(i:c*(d/100*6+1)<=4*7):a<=b+40:=bN [a,b,c*(d/100*6+1)] A (B+40) (.o A (B+C) (.o C 28 .z)) rfl j i
theorem Yz(j:a<=b+c*(d+3))(i:c*(d+3)<=525):a<=b+600:=bN [a,b,c*(d+3)] A (B+600) (.o A (B+C) (.o C 525 .z)) rfl j i
theorem YA(i:a/100*6<=6):a/100*6+1<=7:=ry i
theorem YB(k:2<=a)(i:a<=5)(j:b<a):b<=4:=bN [a,b] B 4 (.o A 5 (.o (B+1) A .z)) rfl i j
theorem YO(k:2<=a)(i:a<=5)(j:b<a):b<=5:=bN [a,b] B 5 (.o A 5 (.o (B+1) A .z)) rfl i j
theorem YP(j:a/100*6<=b/100*6)(i:c<=d+a/100*6+1):c<=d+(0+1)*(b/100*6+1):=bN [a/100,a,b/100,b,c,d] E (F+(M 1 (R C 6+1))) (.o (R A 6) (R C 6) (.o E (F+(R A 6)+1) .z)) rfl j i
theorem YQ(i:a<=b):c+a+3<=c+(0+1)*(b+3):=bN [a,b,c] (C+A+3) (C+(M 1 (B+3))) (.o A B .z) rfl i
theorem Qi(i:2<=a)(j:a<=5):0+1<a:=i
theorem YR:0<0+1:=by decide
theorem YS(j:a<=102)(i:b<=900)(l:c<=a):b+c/100*6+1<999:=cL λk=>bZ [a,b,c,c/100] (.c 3 A 102 (.c 50 B 900 (.c 3 C A (.c 50 999 (B+(R D 6)+1) (.c 3 (R D 100) C .z))))) rfl j i l k (iX c 100)
theorem YT(j:a<=102)(i:b<=a):b<=200:=aD i (eK j)
theorem YU(i:a<=30000):a<=40000:=eK i
theorem YV:a<=a+40:=bc _ _
theorem YW:a<=a+600:=bc _ _
theorem YX(i:0<a):0<a:=i
theorem Qj(j:2<=a)(i:a<=5):a<=1000:=bN [a] A 1000 (.o A 5 .z) rfl i
theorem YY(i:a/100<=1):a/100*6<=6:=bN [a/100,a] (R A 6) 6 (.c 6 A 1 .z) rfl i
theorem YZ(i:a<=102):a/100<=1:=aP λj=>bZ [a,a/100] (.o A 102 (.c 100 (1+1) B (.o (R B 100) A .z))) rfl i j (iX a 100)
theorem Y0(i:a*(b+3)<=5*105):a*(b+3)<=525:=i
theorem Y1(j:a<=102)(i:b<=a):b+3<=105:=bN [a,b] (B+3) 105 (.o A 102 (.o B A .z)) rfl j i
theorem Y2(i:a<=30000):a<=50000:=eK i
theorem Y3(j:a<=30000)(i:b+1+1<=a):b<=80000:=bN [a,b] B 80000 (.o A 30000 (.o (B+1+1) A .z)) rfl j i
theorem Y4(i:a<=90/\b<=90):b<=1000:=bN [a,b] B 1000 (.o B 90 .z) rfl i.2
theorem Y5(i:a<=90/\b<=90):a<=1000:=bN [a,b] A 1000 (.o A 90 .z) rfl i.1
theorem Y6(i:a<=100):0<= -1+(↑(a+1):Int):=by lia
theorem Y7:a+1+36+10<=a+48:=cN _
theorem Y8:a+1+36+10+1<=a+48:=bN [a] (A+1+36+10+1) (A+48) .z rfl
theorem Y9(i:a<=20000):a+1+36+10<=90000:=eK (aM (aM (aM i _) _) _)
theorem Y_(i:a=b+1):b<a:=gy [a,b] B A (.f (B+1) A .z) rfl i
theorem YJ(j:a=b+1)(i:c<=b):c<=a:=bN [a,b,c] C A (.f (B+1) A (.o C B .z)) rfl j i
theorem YK(j:a<=20000)(i:b<=a+1+36+10):b<=100000:=bN [a,b] B 100000 (.o A 20000 (.o B (A+1+36+10) .z)) rfl j i
theorem Qh(i:a<=700):a<=800:=eK i
theorem YL(i:a<=20000):a+1+36<=60000:=eK (aM (aM i _) _)
theorem YM(i:a<=20000):a+1<=30000:=ry i
theorem xm:0<2:=by decide
theorem YN(i:a<=20000):a<=90000:=eK i
theorem GV(j:a<=b)(i:c=b):a<=c:=i▸j
theorem Ql:1+(↑(6*a):Int)=(↑(6*a+0+1):Int):=congrArg nG (aQ (bN [a] (1+(M 6 A)) (M 6 A+0+1) .z rfl) (bN [a] (M 6 A+0+1) (1+(M 6 A)) .z rfl))
theorem Qm:6*(↑a:Int)=(↑(6*a):Int):=congrArg nG (aQ (bN [a] (M 6 A) (M 6 A) .z rfl) (bN [a] (M 6 A) (M 6 A) .z rfl))
theorem GW(j:a+1<b)(i:b<=c)(k:c<=d):a+1<d:=aD (aD j i) k
theorem GX(i:a<=3):a<=90:=eK i
theorem Qn(j:a<b)(i:b<=a):False:=bZ [a,b] (.o (A+1) B (.o B A .z)) rfl j i
theorem Ze(n:a=2/\b=1\/a=102/\b=8)(l:c=d+1)(o:(↑(e+1):Int)=(↑c:Int))(k:f/100*6<=a/100*6)(m:g<=c+f/100*6):g<=d+b*6:=n.elim (λi=>aP λj=>bZ [c,d,e,f/100,f,a/100,a,g,b] (.E 50 A (B+1) (.c 50 (R D 6) (R F 6) (.c 50 H (A+(R D 6)) (.E 3 G 2 (.F 300 1 I (.c 50 (B+(R I 6)+1) H (.c 3 (R F 100) G .z))))))) rfl l k m i.1 i.2 j (iX a 100)) λi=>aP λj=>bZ [c,d,e,f/100,f,a/100,a,g,b] (.E 50 A (B+1) (.c 50 (R D 6) (R F 6) (.c 50 H (A+(R D 6)) (.E 3 G 102 (.F 300 8 I (.c 50 (B+(R I 6)+1) H (.c 3 (R F 100) G .z))))))) rfl l k m i.1 i.2 j (iX a 100)
theorem Zf(l:a=2/\b=1\/a=102/\b=8)(j:c<=20000)(k:d<=a):c+57+d+1<=80000:=l.elim (λi=>bN [c,d,a,b] (A+57+B+1) 80000 (.o A 20000 (.o B C (.e C 2 .z))) rfl j k i.1) λi=>bN [c,d,a,b] (A+57+B+1) 80000 (.o A 20000 (.o B C (.e C 102 .z))) rfl j k i.1
theorem Zg(k:a=2/\b=1\/a=102/\b=8)(j:c<=a):d+57+c+1<=d+b*100:=k.elim (λi=>bN [c,a,d,b] (C+57+A+1) (C+(R D 100)) (.o A B (.e B 2 (.F 100 1 D .z))) rfl j i.1 i.2) λi=>bN [c,a,d,b] (C+57+A+1) (C+(R D 100)) (.o A B (.e B 102 (.F 100 8 D .z))) rfl j i.1 i.2
theorem Qo(j:a<=b)(i:c<=a)(k:b<=d):c<=d:=bN [a,b,c,d] C D (.o A B (.o C A (.o B D .z))) rfl j i k
theorem Zh(k:a=2/\b=1\/a=102/\b=8)(j:c<=a):c<=200:=k.elim (λi=>bN [c,a,b] A 200 (.o A B (.e B 2 .z)) rfl j i.1) λi=>bN [c,a,b] A 200 (.o A B (.e B 102 .z)) rfl j i.1
theorem Zi(i:a<=20000):a+57<=40000:=eK (aM i _)
theorem Zj{d:Int}(i:a=b+1)(k:(↑(c+1):Int)=(↑a:Int))(j:d<=(↑b:Int)):d<=(↑a:Int):=gn j (fg.mpr (i▸cN b))
theorem Zl:a+1<=a+2:=bN [a] (A+1) (A+2) .z rfl
theorem Zm(i:a=b+1):a<=b+42:=bN [a,b] A (B+42) (.e A (B+1) .z) rfl i
theorem Zn:a+57<=a+700:=bN [a] (A+57) (A+700) .z rfl
theorem Zo:0<1:=by decide
theorem Zp(j:a<=b)(i:b<=c)(k:d+1<a):d<c:=gy [a,b,c,d] D C (.o A B (.o B C (.o (D+1+1) A .z))) rfl j i k
theorem Zq(i:a<=80):a+1<=90:=ry i
theorem Zr(j:a<=b)(i:b<=c)(l:d+1<a):d≠c:=λk=>bZ [a,b,c,d] (.o A B (.o B C (.o (D+1+1) A (.f C D .z)))) rfl j i l k
theorem Za(i:a<=20000):a+56<=70000:=eK (aM i _)
theorem Qk(i:a<=20000):a<=40000:=eK i
theorem Zc(k: ¬a=b):(↑a:Int)≠(↑b:Int):=(bL k).elim (λj=>λg=>(λi=>bZ [a,b] (.o (A+1) B (.f B A .z)) rfl j i:a≠b) (eA g)) λj=>λg=>(λi=>bZ [a,b] (.o (B+1) A (.e A B .z)) rfl j i:a≠b) (eA g)
theorem Zd(i:a=b):1 - a<2:=gy [a,b,1 - a] C 2 (.o C 1 .z) rfl (yF 1 a)
theorem Qp(l:a<=b)(k:b+6<c)(j:d<=a)(i:e<=f)(m:c<e):d<=f:=bN [a,b,c,d,e,f] D F (.o A B (.o (B+6+1) C (.o D A (.o E F (.o (C+1) E .z))))) rfl l k j i m
theorem Zs{a:Int}{b:Nat}(i:a<(↑b:Int)):a<=(↑b:Int):=tT i
theorem Zt(i:a=b+2)(k:(↑(c+2):Int)=(↑a:Int))(j:d<=a+40):d<=b+42:=bN [a,b,c,d] D (B+42) (.e A (B+2) (.o D (A+40) .z)) rfl i j
theorem Zu(i:a<=b+59+600):a<=b+700:=bN [a,b] A (B+700) (.o A (B+59+600) .z) rfl i
theorem Zv(j:a<=800)(i:b=a+2)(k:(↑(c+2):Int)=(↑b:Int)):b<=900:=bN [a,b,c] B 900 (.o A 800 (.e B (A+2) .z)) rfl j i
theorem Zw(j:a=2/\b=1\/a=102/\b=8):a<=102:=j.elim (λi=>bN [a,b] A 102 (.e A 2 .z) rfl i.1) λi=>bN [a,b] A 102 (.e A 102 .z) rfl i.1
theorem Zx(i:a<=20000):a+59<=30000:=bN [a] (A+59) 30000 (.o A 20000 .z) rfl i
theorem Zy(i:a<b):a<b:=i
theorem Zz(j:a<=b)(i:c<a):c<b:=gy [a,b,c] C B (.o A B (.o (C+1) A .z)) rfl j i
theorem ZA(m:a<=b)(l:b<c)(j:c<d)(i:e+1<f)(p:d<g)(n:f<=h)(k:h<a):e<g:=gy [a,b,c,d,e,f,g,h] E G (.o A B (.o (B+1) C (.o (C+1) D (.o (E+1+1) F (.o (D+1) G (.o F H (.o (H+1) A .z))))))) rfl m l j i p n k
theorem ZC(i:a<=80):a+1+1<=90:=bN [a] (A+1+1) 90 (.o A 80 .z) rfl i
theorem ZD(i:a<=80):a+1<=99:=bN [a] (A+1) 99 (.o A 80 .z) rfl i
theorem ZE:(↑(a+1):Int)<(↑(a+2):Int):=by simp
theorem ZF{d:Int}(i:a=b+2)(k:(↑(c+2):Int)=(↑a:Int))(j:d<=(↑b:Int)):d<(↑a:Int):=cX j (cv.mpr (i▸Nat.lt_add_of_pos_right (by decide)))
theorem ZG(m:a<=b)(l:b<c)(k:d+1<e)(i:e<=f)(n:f<a):d≠c:=λj=>bZ [a,b,c,d,e,f] (.o A B (.o (B+1) C (.o (D+1+1) E (.o E F (.o (F+1) A (.f C D .z)))))) rfl m l k i n j
theorem ZH(i:a<=20000):a+56<=60000:=eK (aM i _)
theorem ZI(i:2<=a):0<a:=jF i
theorem Qq:0<a+1:=gy [a] 0 (A+1) .z rfl
theorem ZJ(i:a<=3)(k:b=a)(j:c<a):c<100000:=gy [a,b,c] C 100000 (.o A 3 (.o (C+1) A .z)) rfl i j
theorem ZK(i:a<=3)(l:b=a)(j:c<a)(k:d<c):d<100000:=gy [a,b,c,d] D 100000 (.o A 3 (.o (C+1) A (.o (D+1) C .z))) rfl i j k
theorem ZL(i:a<=3)(l:b=a)(j:c<a)(k:d<c):d<=1000:=bN [a,b,c,d] D 1000 (.o A 3 (.o (C+1) A (.o (D+1) C .z))) rfl i j k
theorem ZM(j:a<=3)(i:b=a)(k:c<a)(l:d<c):min d b<=1000000:=bN [a,b,c,d,min d b] E 1000000 (.o A 3 (.e B A (.o E B .z))) rfl j i (eG d b)
theorem Qr(j:a<=3)(i:b=a):b<=3:=bN [a,b] B 3 (.o A 3 (.e B A .z)) rfl j i
theorem ZS:4<=8:=by decide
theorem ZT(k:a=b)(j:c<b)(i:d=a)(l:e=a)(n:f=d)(m:g=b):c<d:=gy [a,b,c,d,e,f,g] C D (.f B A (.o (C+1) B (.f A D .z))) rfl k j i
theorem ZU(m:a=b)(j:c<b)(l:d=a)(k:e=a)(p:f=d)(n:g=b)(i:h<c):h<b:=gy [a,b,c,d,e,f,g,h] H B (.o (C+1) B (.o (H+1) C .z)) rfl j i
theorem ZV(m:a=b)(i:c<b)(l:d=a)(k:e=a)(n:f=d)(j:g=b):c<g:=gy [a,b,c,d,e,f,g] C G (.o (C+1) B (.f B G .z)) rfl i j
theorem ZW(j:a=b)(m:c=a)(i:d=a)(l:e=c)(k:f=b):d=f:=aQ (bN [a,b,c,d,e,f] D F (.e A B (.e D A (.f B F .z))) rfl j i k) (bN [a,b,c,d,e,f] F D (.f B A (.f A D (.e F B .z))) rfl j i k)
theorem ZX(i:a<=3)(m:b=a)(l:c=b)(k:d=b)(n:e=c)(j:f=a):f<=3:=bN [a,b,c,d,e,f] F 3 (.o A 3 (.e F A .z)) rfl i j
theorem ZY(i:a=b)(m:c=a)(l:d=a)(k:e=c)(j:f=a):f=b:=aQ (bN [a,b,c,d,e,f] F B (.e A B (.e F A .z)) rfl i j) (bN [a,b,c,d,e,f] B F (.f B A (.f A F .z)) rfl i j)
theorem Z0(l:a<=3)(k:b<=3)(i:c=b)(n:d<b)(m:e=c)(p:f=c)(j:g=e):a+(g+1)<=10:=bN [a,b,c,d,e,f,g] (A+(G+1)) 10 (.o A 3 (.o B 3 (.e C B (.e E C (.e G E .z))))) rfl l k i m j
theorem Qs(j:a=b)(i:c<a):c<b:=gy [a,b,c] C B (.e A B (.o (C+1) A .z)) rfl j i
theorem Qt(j:a<=50000)(i:b<=a+4+4):b<=100000:=bN [a,b] B 100000 (.o A 50000 (.o B (A+4+4) .z)) rfl j i
theorem Z3(k:a=b)(j:c<b)(l:d=a)(i:e=a)(n:f=d)(m:g=e):c<e:=gy [a,b,c,d,e,f,g] C E (.f B A (.o (C+1) B (.f A E .z))) rfl k j i
theorem Z4(m:a=b)(j:c<b)(l:d=a)(k:e=a)(p:f=d)(n:g=e)(i:h<c):h<b:=gy [a,b,c,d,e,f,g,h] H B (.o (C+1) B (.o (H+1) C .z)) rfl j i
theorem Qu(k: ¬a=b):b≠a:=(bL k).elim (λj=>λi=>bZ [b,a] (.o (B+1) A (.e A B .z)) rfl j i) λj=>λi=>bZ [b,a] (.o (A+1) B (.f B A .z)) rfl j i
theorem ZO(j:a=b)(m:c=a)(i:d=a)(l:e=c)(n:f=d)(k:g<b):g<d:=gy [a,b,c,d,e,f,g] G D (.f B A (.f A D (.o (G+1) B .z))) rfl j i k
theorem ZP(j:a=b)(i:c=a)(m:d=a)(l:e=c)(n:f=d)(k:g<b):g<c:=gy [a,b,c,d,e,f,g] G C (.f B A (.f A C (.o (G+1) B .z))) rfl j i k
theorem ZQ(j:a=b)(m:c=a)(i:d=a)(l:e=c)(k:f=d):f=b:=aQ (bN [a,b,c,d,e,f] F B (.e A B (.e D A (.e F D .z))) rfl j i k) (bN [a,b,c,d,e,f] B F (.f B A (.f A D (.f D F .z))) rfl j i k)
theorem ZR(j:a=b)(i:c=a)(l:d=a)(k:e=c):e=b:=aQ (bN [a,b,c,d,e] E B (.e A B (.e C A (.e E C .z))) rfl j i k) (bN [a,b,c,d,e] B E (.f B A (.f A C (.f C E .z))) rfl j i k)
theorem Z7(j:a=b)(i:b<=90000):b<=100000:=bN [a,b] B 100000 (.o B 90000 .z) rfl i
theorem Z8(i:a<b)(k:c=b)(j:b<=3)(l:d=c):a<100000:=gy [a,b,c,d] A 100000 (.o (A+1) B (.o B 3 .z)) rfl i j
theorem AW(j:a=b)(i:b<=3)(k:c=a):a<=1000:=bN [a,b,c] A 1000 (.e A B (.o B 3 .z)) rfl j i
theorem AX(j:a+1<b)(i:b<=c)(k:c<d)(l:a=d):False:=bZ [a,b,c,d] (.o (A+1+1) B (.o B C (.o (C+1) D (.f D A .z)))) rfl j i k l
theorem Qw(i:a<=14000):a+72<=50000:=bN [a] (A+72) 50000 (.o A 14000 .z) rfl i
theorem Qx(j:a<=b)(i:b<=c)(k:c<d)(l:e=d):e=f\/e=f+1\/a<=e:= .inr (.inr (l▸aD j (aD i (jF k))))
theorem xn(j:a<b)(i:a=b):False:=bZ [a,b] (.o (A+1) B (.f B A .z)) rfl j i
theorem Z9(m:a<b)(k:c<=3)(j:d=b)(i:b<=3)(l:e=d):c+(e+1)<=1000:=bN [a,b,c,d,e] (C+(E+1)) 1000 (.o C 3 (.e D B (.o B 3 (.e E D .z)))) rfl k j i l
theorem Z_(j:a<2)(i:(↑(64+a):Int)=(↑(64+(1 - a)):Int)):False:=(by decide:∀a:Nat,a<2->(↑(64+a):Int)≠(↑(64+(1 - a)):Int)) a j i
theorem C':a+1+b - a=b+1:=aQ (bN [b,a+1+b - a,a] B (A+1) (.e (B+C) (C+1+A) .z) rfl (dy (aP λi=>bZ [b,a+1+b - a,a] (.c 1 (.s (.s (.s (.v 2) (.n 1)) (.v 0)) (.n 1)) (.v 2) .z) rfl i))) (bN [b,a+1+b - a,a] (A+1) B (.o (C+1+A) (B+C) .z) rfl (fq (aC (a+1+b - a))))
theorem J':a<=a+1+b:=bN [a,b] A (A+1+B) .z rfl
theorem Qy(j:a<=13000)(i:b<=a)(k:c=b):b<=90000:=bN [a,b,c] B 90000 (.o A 13000 (.o B A .z)) rfl j i
theorem Qz:a+60+10+1<=a+71:=bN [a] (A+60+10+1) (A+71) .z rfl
theorem QA(i:a<=13000):a<=14000:=eK i
theorem K'(j:a<b+1)(i: ¬a<b):a=b:=aQ (bN [a,b] A B (.o (A+1) (B+1) .z) rfl j) (bN [a,b] B A (.o B A .z) rfl (aP i))
theorem Z6(i:a<2):1 - a<2:=gy [a,1 - a] B 2 (.o B 1 .z) rfl (yF 1 a)
theorem aaa(i:a<=1000):a<=16777216+1:=eK i
theorem QB{a:Int}{b:Nat}(i:0<=a+(↑b:Int)): -(↑b:Int)<=a:=Int.le_of_sub_nonneg (le_of_le_of_eq i (Int.sub_neg a b).symm)
theorem aab{a:Int}(j:a<0)(i: -2^62<a):a<2^63:=by lia
theorem QC{a:Int}(j:a<0)(i: -2^62<a): -2^63<=a:=gn (by decide) (tT i)
theorem QD{a:Int}(j:0<=a)(i:a<2^62):a<2^63:=Fp i (by decide)
theorem aac{a:Int}(j:0<=a)(i:a<2^62): -2^63<=a:=by lia
theorem uL(i: ¬a<=b):b<=a:=bN [a,b] B A (.o (B+1) A .z) rfl (cL i)
theorem aad:a - b<=a - g9 b a:=Nat.sub_le_sub_left (f7 b a) a
theorem aae: ¬(↑a:Int)<0:=λg=>(λi=>bZ [a] (.o (A+1) 0 .z) rfl i: ¬a<0) (cv.mp g)
theorem aaf:Max.max 0 (g9 (↑a:Int) (↑b:Int))=(↑(g9 a b):Int):=(Int.max_eq_right (Int.le_min.mpr ⟨eF a,eF b⟩)).trans ((Nat.le_total a b).elim (λh=>(Int.min_eq_left (fg.mpr h)).trans (congrArg nG (hZ h)).symm) λh=>(Int.min_eq_right (fg.mpr h)).trans (congrArg nG (nH h)).symm)
theorem aag(i:a - 1<a): ¬a - 1=a:=λj=>bZ [a - 1,a] (.o (A+1) B (.f B A .z)) rfl i j
theorem sE(i:a<=1000000):a<=16777216:=eK i
theorem aah{a:Int}{b:Nat}(j:a.natAbs<10)(i:b<=a.natAbs):b<1920:=ou (jd i j) (by decide)
theorem aai{a:Int}(i:0<=a/\a<10):a.natAbs<10:=nab i.1 (n:=10) i.2
theorem QE(i:a<=1000000):(↑a:Int)<2^63:=cv.mpr (ry i)
theorem aaj(i:a<=1000000)(k:b=a)(j:c<=a):c<=16777216:=bN [a,b,c] C 16777216 (.o A 1000000 (.o C A .z)) rfl i j
theorem aak(i:a=b):g9 c b - g9 d b=g9 (g9 c b - g9 d b) (b - g9 d b):=(hZ (KY (eG c b) _)).symm
theorem aal(i:g9 a b - 0=b):b<=a:=bN [(min a b) - 0,min a b,a,b] D C (.f D A (.o B C (.o A B .z))) rfl i (f7 a b) (yF (min a b) 0)
theorem aam(j:g9 a b - c=b)(i: ¬b=0):c=0:=Fw λk=>absurd j (gu (jd (KY (eG a b) c) (Nat.sub_lt (OE i) k)))
theorem aan(i:g9 a b=b):b<=a:=bN [min a b,a,b] C B (.f C A (.o A B .z)) rfl i (f7 a b)
theorem O'{a:Int}(i:0<=a/\a<2^62):Max.max a 0=a:=WT i.1
theorem T'{c:Int}(i:a<=b):g9 c.toNat a<=b+1:=tW (aD (eG _ a) i)
theorem U':0+a=a:=aQ (bN [a] (0+A) A .z rfl) (bN [a] A (0+A) .z rfl)
theorem V'(j:a+(a+1)*b<=16777216)(i:c*b<=(a+1)*b): ¬a+c*b>2^24:=λk=>bZ [a,(a+1)*b,c*b] (.o (A+B) 16777216 (.o C B (.o (16777216+1) (A+C) .z))) rfl j i k
theorem X'(i:a<=1000)(k:b=a)(j:(a+1)*c<=1001*1000):a+(a+1)*c<=16777216:=bN [a,b,(a+1)*c] (A+C) 16777216 (.o A 1000 (.o C 1001000 .z)) rfl i j
theorem Y'(i:a<=1000)(j:b=a):a+1<=1001:=bN [a,b] (A+1) 1001 (.o A 1000 .z) rfl i
theorem Z'(k:a+b=c)(j: ¬d<=a):d - a=d - (a+1)+1:=aQ (bN [a,b,c,d,d - (a+1),d - a] F (E+1) (.o D (E+(A+1)) (.e (F+A) D .z)) rfl (fq (aC (d - (a+1)))) (dy (aP λi=>bZ [a,b,c,d,d - (a+1),d - a] (.c 1 (.s (.v 4) (.s (.v 0) (.n 1))) (.v 3) (.c 1 (.s (.v 3) (.n 1)) (.v 0) .z)) rfl (ot (dy (aP λi=>bZ [a,b,c,d,d - (a+1),d - a] (.c 1 (.s (.v 0) (.n 1)) (.v 3) (.c 1 (.s (.v 3) (.n 1)) (.s (.v 0) (.n 1)) .z)) rfl (cL j) i))) i))) (bN [a,b,c,d,d - (a+1),d - a] (E+1) F (.o D (F+A) (.e (E+(A+1)) D .z)) rfl (fq (aC (d - a))) (dy (aP λi=>bZ [a,b,c,d,d - (a+1),d - a] (.c 1 (.s (.v 0) (.n 1)) (.v 3) (.c 1 (.s (.v 3) (.n 1)) (.s (.v 0) (.n 1)) .z)) rfl (cL j) i)))
theorem AY(i:a+(b+1)=c):a+1+b=c:=aQ (bN [a,b,c] (A+1+B) C (.e (A+(B+1)) C .z) rfl i) (bN [a,b,c] C (A+1+B) (.f C (A+(B+1)) .z) rfl i)
theorem GZ(i:a+(b+1)=c):a<c:=gy [a,b,c] A C (.e (A+(B+1)) C .z) rfl i
theorem aat(j:a<b)(i: ¬c<=a): ¬(↑(g9 c b):Int)<=(↑a:Int):=λh=>VW (Nat.lt_min.mpr ⟨cL i,j⟩) (fg.mp h)
theorem aau(j:a<b)(i:c<=a):(↑(g9 c b):Int)<=(↑a:Int):=fg.mpr (bN [a,b,c,min c b] D A (.o C A (.o D C .z)) rfl i (f7 c b))
theorem pA(i:a+80<b):a+1+64<b:=gy [a,b] (A+1+64) B (.o (A+80+1) B .z) rfl i
theorem QG(i:a<=1000):a<=16777216:=eK i
theorem G5(i:a+80<b):a+64<b:=gy [a,b] (A+64) B (.o (A+80+1) B .z) rfl i
theorem aav(p:a≠b)(m: ¬a<c)(l:a - c=0)(j: ¬b<c)(r:b<c+d)(q:d=1):False:=(bL p).elim (λi=>bZ [a,c,a - c,b,d] (.o (D+1) (B+E) (.e E 1 (.o (A+1) D (.e (C+B) A .z)))) rfl r q i (dy (aP λk=>bZ [a,c,a - c,b,d] (.c 1 (.v 1) (.v 0) (.c 1 (.s (.v 0) (.n 1)) (.v 1) .z)) rfl (aP m) k))) λi=>bZ [a,c,a - c,b,d] (.e C 0 (.o B D (.o (D+1) A (.o A (C+B) .z)))) rfl l (aP j) i (fq (aC (a - c)))
theorem QH(i:a - (b+c)=0):a - (b+c)=0:=i
theorem AZ(i:a - b=0):a - b=0:=i
theorem aaw(j:a+(b+1)<=1000)(i:c<=a+1):c+b<=1000:=bN [a,b,c] (C+B) 1000 (.o (A+(B+1)) 1000 (.o C (A+1) .z)) rfl j i
theorem aax(i:a+(b+1)<=1000):a<=1000000:=bN [a,b] A 1000000 (.o (A+(B+1)) 1000 .z) rfl i
theorem QF(i:a+0=b): ¬a<b:=λj=>bZ [a,b] (.f B (A+0) (.o (A+1) B .z)) rfl i j
theorem aao{a:Int}(j:0<=a)(i:a<=1000):a.toNat<=1000000:=Int.toNat_le.mpr (gn i (by decide))
theorem aap{a:Int}(j:0<=a)(i:a<=1000):a<2^62:=cX i (by decide)
theorem aaq{a:Int}(j:0<=a)(i:a<=1000): -2^62<=a:=by lia
theorem aar(i:a<=20):a<30:=gy [a] A 30 (.o A 20 .z) rfl i
theorem aas(p:a≠b)(m: ¬a<c)(l:a - c=0)(j: ¬b<c)(q:b<c+1):False:=(bL p).elim (λi=>bZ [a,c,a - c,b] (.o (D+1) (B+1) (.o (A+1) D (.e (C+B) A .z))) rfl q i (dy (aP λk=>bZ [a,c,a - c,b] (.c 1 (.v 1) (.v 0) (.c 1 (.s (.v 0) (.n 1)) (.v 1) .z)) rfl (aP m) k))) λi=>bZ [a,c,a - c,b] (.e C 0 (.o B D (.o (D+1) A (.o A (C+B) .z)))) rfl l (aP j) i (fq (aC (a - c)))
theorem aaI{a b c d e f g h i j k:Nat}(l:1+a+(1+(1+(1+b+c)+(1+(1+d+e)+(1+f+1)+1+g)+1+h)+1)+i+j<k+1):f<k:=gy [a,b,c,d,e,f,g,h,i,j,k] F K (.o (1+A+(1+(1+(1+B+C)+(1+(1+D+E)+(1+F+1)+1+G)+1+H)+1)+I+J+1) (K+1) .z) rfl l
theorem aaJ(i:1+a+(1+(1+(1+b+c)+d+1+e)+1)+f+g<h+1):d<h:=gy [a,b,c,d,e,f,g,h] D H (.o (1+A+(1+(1+(1+B+C)+D+1+E)+1)+F+G+1) (H+1) .z) rfl i
theorem aaK(i:1+a+(1+(1+(1+b+c)+d+1+e)+1)+f+g<h+1):a<h:=gy [a,b,c,d,e,f,g,h] A H (.o (1+A+(1+(1+(1+B+C)+D+1+E)+1)+F+G+1) (H+1) .z) rfl i
theorem aaL(i:1+(1+a+b+c)+d+e+f<g+1):a<g:=gy [a,b,c,d,e,f,g] A G (.o (1+(1+A+B+C)+D+E+F+1) (G+1) .z) rfl i
theorem G6(j:a<b)(i:1+c+b+d+e<f+1):a<f:=gy [a,b,c,d,e,f] A F (.o (A+1) B (.o (1+C+B+D+E+1) (F+1) .z)) rfl j i
theorem QI(j:a<b)(i:1+c+d+b+e<f+1):a<f:=gy [a,b,c,d,e,f] A F (.o (A+1) B (.o (1+C+D+B+E+1) (F+1) .z)) rfl j i
theorem G7(i:1+a+b+c+d<e+1):a<e:=gy [a,b,c,d,e] A E (.o (1+A+B+C+D+1) (E+1) .z) rfl i
theorem aaM(i:1+a+(1+b+(1+c)+1+d)+e<f+1):c<f:=gy [a,b,c,d,e,f] C F (.o (1+A+(1+B+(1+C)+1+D)+E+1) (F+1) .z) rfl i
theorem aaN(i:1+a+(1+(1+b)+c+1+d)+e<f+1):b<f:=gy [a,b,c,d,e,f] B F (.o (1+A+(1+(1+B)+C+1+D)+E+1) (F+1) .z) rfl i
theorem QJ(i:1+a+b+c<d+1):b<d:=gy [a,b,c,d] B D (.o (1+A+B+C+1) (D+1) .z) rfl i
theorem QK(i:1+a+b+c<d+1):a<d:=gy [a,b,c,d] A D (.o (1+A+B+C+1) (D+1) .z) rfl i
theorem aaO(j:a<b)(i:1+b+c+d<e+1):a<e:=gy [a,b,c,d,e] A E (.o (A+1) B (.o (1+B+C+D+1) (E+1) .z)) rfl j i
theorem aaP(j:a<b)(i:1+b+c<d+1):a<d:=gy [a,b,c,d] A D (.o (A+1) B (.o (1+B+C+1) (D+1) .z)) rfl j i
theorem QL(j:a<b)(i:1+c+b+d<e+1):a<e:=gy [a,b,c,d,e] A E (.o (A+1) B (.o (1+C+B+D+1) (E+1) .z)) rfl j i
theorem QM(i:1+a+b+c+d<e+1):c<e:=gy [a,b,c,d,e] C E (.o (1+A+B+C+D+1) (E+1) .z) rfl i
theorem aaQ(i:1+a+b+c+d<e+1):b<e:=gy [a,b,c,d,e] B E (.o (1+A+B+C+D+1) (E+1) .z) rfl i
theorem QN:2*a+2<=2*(a+1):=bN [a] (M 2 A+2) (M 2 (A+1)) .z rfl
theorem aaR(i:a+4*(b+2)+4<=1000):a<1000:=gy [a,b] A 1000 (.o (A+(M 4 (B+2))+4) 1000 .z) rfl i
theorem aaS{a:Int}(i:0<=a/\a<=1000):a<=16777216:=by lia
theorem aaT{a:Int}(i:0<=a/\a<=1000):a<=1152921504606846975:=by lia
theorem QO{a:Int}(i:0<=a/\a<=1000): -9223372036854775808<=a/\a<9223372036854775808:=by lia
theorem aaU{a:Int}(i:a.natAbs<2^64): -2^64<a:=Int.neg_lt_of_neg_lt (cX (Int.natAbs_neg a▸(Int.le_natAbs (a:= -a))) (cv.mpr i))
theorem aay:a+(1+(1+(b+1+0))+1)=a+(b+4):=aQ (bN [a,b] (A+(1+(1+(B+1+0))+1)) (A+(B+4)) .z rfl) (bN [a,b] (A+(B+4)) (A+(1+(1+(B+1+0))+1)) .z rfl)
theorem aaz(i:a+64<b):a+(1+1)<b:=gy [a,b] (A+2) B (.o (A+64+1) B .z) rfl i
theorem aaA(i:a+1<b):a+(0+1)<b:=i
theorem aaB(i:a+64<b):a+(0+1)<b:=gy [a,b] (A+1) B (.o (A+64+1) B .z) rfl i
theorem aaC:1+a=a+1:=aQ (bN [a] (1+A) (A+1) .z rfl) (bN [a] (A+1) (1+A) .z rfl)
theorem aaD(i:a+(b+1)<c):a+1+b<c:=gy [a,b,c] (A+1+B) C (.o (A+(B+1)+1) C .z) rfl i
theorem aaE(i:a+(b+1)<c):a<c:=gy [a,b,c] A C (.o (A+(B+1)+1) C .z) rfl i
theorem aaF(j:a<b)(i:c<a):c<b:=gy [a,b,c] C B (.o (A+1) B (.o (C+1) A .z)) rfl j i
theorem aaG{a b:Int}(i:0<=a/\a<=1000/\b.natAbs<2^64):a<=1000000:=gn i.2.1 (by decide)
theorem aaH{a:Int}(i:a≠0/\a.natAbs<2^30):a.natAbs<1073741824:=i.2
theorem aaX(i:a+b<=1000000):a+b<=16777216:=eK i
theorem aaY(i:a+b<=1000000)(j:c=a)(k:d=b):a+b<=16777216:=eK i
theorem aaZ(i:a<=3)(j:b=a):c+1+a+1<=c+5:=bN [a,b,c] (C+1+A+1) (C+5) (.o A 3 .z) rfl i
theorem aa0(j:a<=70000)(i:b<=3)(k:c=b):a+1+b<=90000:=bN [a,b,c] (A+1+B) 90000 (.o A 70000 (.o B 3 .z)) rfl j i
theorem aa1(j:17<=a):a=a - 17+17:=aQ (bN [a,a - 17] A (B+17) (.o A (B+17) .z) rfl (fq (aC (a - 17)))) (bN [a,a - 17] (B+17) A (.e (B+17) A .z) rfl (dy (aP λi=>bZ [a,a - 17] (.c 1 (.n 17) (.v 0) (.c 1 (.s (.v 0) (.n 1)) (.n 17) .z)) rfl j i)))
theorem QQ:219≠160:=by decide
theorem QR:219≠131:=by decide
theorem QS:219≠253:=by decide
theorem QP(i:a<2):a<2^62:=eK i
theorem aaV(j:a<6)(i: ¬(a=1\/a=5))(k:2<=6*b+a+1):2<=6*b+a:=by lia
theorem aaW(i:a<=b+4):a<=b+5:=bN [a,b] A (B+5) (.o A (B+4) .z) rfl i
theorem QU(j:a<6)(i: ¬(a=1\/a=5)):a=0\/a=2\/a=3\/a=4:=nx (b7 _) λh=>nx (OC h λe=>i (.inl e.symm)) λh=>nx h λh=>aQ (fz (OC (fz j) λe=>i (.inr e))) h
theorem aa4(j:a<2)(i:b<6)(k:c<=5*(6*a+b)):c<=80000:=bN [a,b,c] C 80000 (.c 30 (A+1) 2 (.c 5 (B+1) 6 (.o C (M 5 (M 6 A+B)) .z))) rfl j i k
theorem aa5(j:a<2)(i:b<6)(k:c<=5*(6*a+b))(l:d<=c+1):d<=80000:=bN [a,b,c,d] D 80000 (.c 30 (A+1) 2 (.c 5 (B+1) 6 (.o C (M 5 (M 6 A+B)) (.o D (C+1) .z)))) rfl j i k l
theorem aa6(j:a<2)(i:b<6)(k:c<=5*(6*a+b))(l:d<=c+1):d<=100000:=bN [a,b,c,d] D 100000 (.c 30 (A+1) 2 (.c 5 (B+1) 6 (.o C (M 5 (M 6 A+B)) (.o D (C+1) .z)))) rfl j i k l
theorem aa7(j:a<2)(i:b<6)(k:c<=5*(6*a+b)):c<=99999:=bN [a,b,c] C 99999 (.c 30 (A+1) 2 (.c 5 (B+1) 6 (.o C (M 5 (M 6 A+B)) .z))) rfl j i k
theorem aa8:268≠161:=by decide
theorem aa9:161≠156:=by decide
theorem aba:268≠156:=by decide
theorem abb:156≠219:=by decide
theorem abc:161≠219:=by decide
theorem abd:268≠219:=by decide
theorem abe:268≠250/\268≠153/\268≠14/\268≠263:=by decide
theorem abf:161≠250/\161≠153/\161≠14/\161≠263:=by decide
theorem abg:156≠250/\156≠153/\156≠14/\156≠263:=by decide
theorem abh:219≠250/\219≠153/\219≠14/\219≠263:=by decide
theorem abi(p:a<2)(n:b<6)(k:6*a+b<c+1)(j: ¬6*a+b=c)(l: ¬2<=c):b=0:=(bL j).elim (λi=>aQ (bN [a,b,c] B 0 (.o (C+1) 2 (.o (M 6 A+B+1) C .z)) rfl (cL l) i) (bN [a,b,c] 0 B .z rfl)) λi=>aQ (aP λm=>bZ [a,b,c] (.o (M 6 A+B+1) (C+1) (.o (C+1) (M 6 A+B) .z)) rfl k i) (bN [a,b,c] 0 B .z rfl)
theorem abj(j:a=6*b+c)(i:6*d+e=a)(k:d=b):e=c:=aQ (bN [a,b,c,d,e] E C (.e A (M 6 B+C) (.e (M 6 D+E) A (.F 6 B D .z))) rfl j i k) (bN [a,b,c,d,e] C E (.f (M 6 B+C) A (.f A (M 6 D+E) (.E 6 D B .z))) rfl j i k)
theorem abk(m:a<6)(k:b=6*c+a)(l:d<6)(j:6*e+d=b):e=c:=aQ (aP λi=>bZ [a,b,c,d,e] (.o (A+1) 6 (.e B (M 6 C+A) (.e (M 6 E+D) B (.c 6 (C+1) E .z)))) rfl m k j i) (aP λi=>bZ [a,b,c,d,e] (.f (M 6 C+A) B (.o (D+1) 6 (.f B (M 6 E+D) (.c 6 (E+1) C .z)))) rfl k l j i)
theorem abl(i:a+(b+1)=6):0<a+1:=gy [a,b] 0 (A+1) .z rfl
theorem abm(j:a+(b+1)=6)(i:0<a):6*c+a≠6:=by lia
theorem abn(k:a+(b+1)=6)(i:0<a):6*c+a≠0:=λj=>bZ [a,b,c] (.o (0+1) A (.e (M 6 C+A) 0 .z)) rfl i j
theorem QT:0<8:=by decide
theorem aa2(i:a<=63):min 40 a<=1000:=bN [a,min 40 a] B 1000 (.o B 40 .z) rfl (f7 40 a)
theorem aa3:min 40 a<=1000:=bN [min 40 a,a] A 1000 (.o A 40 .z) rfl (f7 40 a)
theorem QV:58≠250/\58≠153/\58≠14/\58≠263:=by decide
theorem QW:1<2:=by decide
theorem abp(l:a<2)(k:b<6)(j:6*a+b<6):a=0:=aQ (aP λi=>bZ [a,b] (.o (M 6 A+B+1) 6 (.c 6 (0+1) A .z)) rfl j i) (bN [a,b] 0 A .z rfl)
theorem abo{a:Int}(j:0<=a/\a<=1000)(i: ¬a<=0):a<=16777216:=by lia
theorem Sd(j:a<=b+c)(i:d<=a+e):d<=b+(c+e):=bN [a,b,c,d,e] D (B+(C+E)) (.o A (B+C) (.o D (A+E) .z)) rfl j i
theorem Se{a:Int}{b c:Nat}:a+(↑b:Int) - (↑c:Int) - (↑b:Int)=a - (↑c:Int):=by lia
theorem Sf{a b:Int}{c d:Nat}(j:a=b%(↑c:Int))(k:c=d+d)(l:0<=a)(i:a<(↑c:Int)):a+(↑d:Int) - (↑c:Int)<(↑c:Int):=by lia
theorem Sg{a b:Int}{c d:Nat}(j:a=b%(↑c:Int))(i:c=d+d)(k: ¬a<(↑d:Int)):0<=a+(↑d:Int) - (↑c:Int):=by lia
theorem Sh{a:Int}{b c:Nat}:a+(↑b:Int)=a+(↑b:Int) - (↑c:Int)+(↑c:Int):=(Ox _ _).symm
theorem Si{a b:Int}{c d:Nat}(j:a=b%(↑c:Int))(i:c=d+d)(k:a<(↑c:Int)):a - (↑d:Int)<(↑d:Int):=by lia
theorem Sj{a b:Int}{c d:Nat}(j:a=b%(↑c:Int))(i: ¬a<(↑d:Int)):0<=a - (↑d:Int):=Int.sub_nonneg_of_le (Int.not_lt.mp i)
theorem Sk{a:Int}{b:Nat}:a=a - (↑b:Int)+(↑b:Int):=(Ox a b).symm
theorem Sl{a:Int}{b:Nat}:a+(↑b:Int) - (↑b:Int)=a:=jc a b
theorem Sm{a b:Int}{c d:Nat}(j:a=b%(↑c:Int))(i:c=d+d)(k:a<(↑d:Int)):a+(↑d:Int)<(↑c:Int):=by lia
theorem Sn{a b:Int}{c d:Nat}(k:a=b%(↑c:Int))(j:0<d)(i:0<=a):0<=a+(↑d:Int):=Int.add_nonneg i (eF d)
theorem Sp(i:0<a):0<=(↑a:Int):=fg.mpr (bN [a] 0 A .z rfl)
theorem Sq(j:0<a)(i:b=a+a):0<(↑b:Int):=cv.mpr (gy [a,b] 0 B (.c 2 (0+1) A (.f (A+A) B .z)) rfl j i)
theorem Sr(j:0<a)(i:b=a+a):(↑b:Int)≠0:=λg=>(λk=>bZ [a,b] (.c 2 (0+1) A (.f (A+A) B (.e B 0 .z))) rfl j i k:b≠0) (eA g)
theorem Ss(i:1<=a+12/\a+12<=11):False:=bZ [a] (.o (A+12) 11 .z) rfl i.2
theorem Su(i:1<=0/\0<=11):False:=bZ [] (.o 1 0 .z) rfl i.1
theorem Sv(i:a+6<6):False:=bZ [a] (.o (A+6+1) 6 .z) rfl i
theorem Sw(i:a+2<2):False:=bZ [a] (.o (A+2+1) 2 .z) rfl i
theorem Sx(j:a<=b)(i:c<=a+d):c<=b+d:=bN [a,b,c,d] C (B+D) (.o A B (.o C (A+D) .z)) rfl j i
theorem Sy(k:a<=5)(i:1<=a)(j:a=0):False:=bZ [a] (.o 1 A (.e A 0 .z)) rfl i j
theorem Sz:a+3<=a+3+1:=bN [a] (A+3) (A+3+1) .z rfl
theorem SO(j:a<=b)(i:c<=a+1):c<=b+1:=bN [a,b,c] C (B+1) (.o A B (.o C (A+1) .z)) rfl j i
theorem SP(i:a<0):False:=bZ [a] (.o (A+1) 0 .z) rfl i
theorem SQ(j:a<=b)(i:c<=a)(k:a=d+1):c<=b:=bN [a,b,c,d] C B (.o A B (.o C A .z)) rfl j i
theorem R_(j:a<=70000)(i:b<=c+1)(k:c<=a):b<=100000:=bN [a,b,c] B 100000 (.o A 70000 (.o B (C+1) (.o C A .z))) rfl j i k
theorem Sa(j:a<=70000)(i:b<=c+4)(k:c<=a):b<=100000:=bN [a,b,c] B 100000 (.o A 70000 (.o B (C+4) (.o C A .z))) rfl j i k
theorem Sb(j:a=b)(i:b<=3):a<=3:=bN [a,b] A 3 (.e A B (.o B 3 .z)) rfl j i
theorem G8(j:a<b/\c<b)(i:b<=d)(k:e=c):e<d:=gy [a,b,c,d,e] E D (.o (C+1) B (.o B D (.e E C .z))) rfl j.2 i k
theorem G9(j:a<b/\c<b)(i:b<=d)(k:e=a):e<d:=gy [a,b,c,d,e] E D (.o (A+1) B (.o B D (.e E A .z))) rfl j.1 i k
theorem Hb(j:a<b/\c<b)(i:d=c):d<b:=gy [a,b,c,d] D B (.o (C+1) B (.e D C .z)) rfl j.2 i
theorem Hc(j:a<b/\c<b)(i:d=a):d<b:=gy [a,b,c,d] D B (.o (A+1) B (.e D A .z)) rfl j.1 i
theorem S5(j:a<b)(i:a=b+1):False:=bZ [a,b] (.o (A+1) B (.f (B+1) A .z)) rfl j i
theorem S6(j:a<=b)(i:b<=c)(k:c<=d):a<=d:=bN [a,b,c,d] A D (.o A B (.o B C (.o C D .z))) rfl j i k
theorem yX(i:a+3=a+1):False:=bZ [a] (.e (A+3) (A+1) .z) rfl i
theorem yY(i:a+3=a):False:=bZ [a] (.e (A+3) A .z) rfl i
theorem vA(j:a<=b)(i:c<a)(k:b<=d)(l:d=c):False:=bZ [a,b,c,d] (.o A B (.o (C+1) A (.o B D (.e D C .z)))) rfl j i k l
theorem yZ(j:a<=b)(i:b<c)(k:d=c):a<=d:=bN [a,b,c,d] A D (.o A B (.o (B+1) C (.f C D .z))) rfl j i k
theorem y4(j:a<=b)(i:b<c)(k:d=c+1):a<=d:=bN [a,b,c,d] A D (.o A B (.o (B+1) C (.f (C+1) D .z))) rfl j i k
theorem Hd(j:a+6<b)(i:a+6=b):False:=bZ [a,b] (.o (A+6+1) B (.f B (A+6) .z)) rfl j i
theorem He(j:a+6<b)(i:b<c)(k:a+6=c+1):False:=bZ [a,b,c] (.o (A+6+1) B (.o (B+1) C (.f (C+1) (A+6) .z))) rfl j i k
theorem Hf(j:a+6<b)(i:b<c)(k:a+6=c):False:=bZ [a,b,c] (.o (A+6+1) B (.o (B+1) C (.f C (A+6) .z))) rfl j i k
theorem Hg(j:a+6<b)(i:a=b):False:=bZ [a,b] (.o (A+6+1) B (.f B A .z)) rfl j i
theorem Hh(j:a+6<b)(i:b<c)(k:a=c+1):False:=bZ [a,b,c] (.o (A+6+1) B (.o (B+1) C (.f (C+1) A .z))) rfl j i k
theorem Hi(j:a+6<b)(i:b<c)(k:a=c):False:=bZ [a,b,c] (.o (A+6+1) B (.o (B+1) C (.f C A .z))) rfl j i k
theorem S7(j:a<=b)(i:b<=c)(k:c<a):False:=bZ [a,b,c] (.o A B (.o B C (.o (C+1) A .z))) rfl j i k
theorem Hj(j:a+1<b)(i:c=a):c<b:=gy [a,b,c] C B (.o (A+1+1) B (.e C A .z)) rfl j i
theorem Hk(j:a+1<b)(i:c=a+1):c<b:=gy [a,b,c] C B (.o (A+1+1) B (.e C (A+1) .z)) rfl j i
theorem S8{d:Int}(j:a+b/100*6+1<999)(i:c<=a+b/100*6+1)(k:d=1000):d≠(↑c:Int):=λe=>absurd (jd ((eA (k.symm.trans e):1000=c)▸i) j) (by decide)
theorem S9{a:Int}{b:Nat}(i:a<(↑b:Int)):a≠(↑b:Int):=tU i
theorem S_(j:a=b)(i:b<a):False:=bZ [a,b] (.e A B (.o (B+1) A .z)) rfl j i
theorem Ta(i:2<=a)(k:a<=5)(j:a=0):False:=bZ [a] (.o 2 A (.e A 0 .z)) rfl i j
theorem Tc(j:a<=b)(i:c+1<a)(k:b=c+1):False:=bZ [a,b,c] (.o A B (.o (C+1+1) A (.e B (C+1) .z))) rfl j i k
theorem Td(j:a<=b)(i:c+1<a)(k:b=c):False:=bZ [a,b,c] (.o A B (.o (C+1+1) A (.e B C .z))) rfl j i k
theorem Te(j:a<b)(i:c<=a):c<=b:=bN [a,b,c] C B (.o (A+1) B (.o C A .z)) rfl j i
theorem Tf{d:Int}(j:a=b+1)(l:(↑(c+1):Int)=(↑a:Int))(k:b<=800)(i:d=1000):d≠(↑a:Int):=λe=>absurd ((mN ((eA (i.symm.trans e):1000=a).trans j):999=b)▸k) (by decide)
theorem SR{d:Int}(i:a=b+1)(k:(↑(c+1):Int)=(↑a:Int))(j:d<=(↑b:Int)):d≠(↑a:Int):=tU (cX j (cv.mpr (i▸dh b)))
theorem G_(j:a+1<b)(i:b<=c)(k:c=a):False:=bZ [a,b,c] (.o (A+1+1) B (.o B C (.e C A .z))) rfl j i k
theorem Ha(j:a+1<b)(i:b<=c)(k:c=a+1):False:=bZ [a,b,c] (.o (A+1+1) B (.o B C (.e C (A+1) .z))) rfl j i k
theorem SU(m:2<=a)(j:a<=5)(i:b=c+2)(l:(↑(d+2):Int)=(↑b:Int))(k:e<b+a*(2/100*6+1)):e<=c+1*6:=fz (bk k (i▸(kY (gq (2/100*6+1) j) (c+2))))
theorem SV(m:2<=a)(j:a<=5)(i:b=c+2)(l:(↑(d+2):Int)=(↑b:Int))(k:e<b+a*(102/100*6+1)):e<=c+8*6:=fz (bk k (i▸aD (kY (gq (102/100*6+1) j) (c+2)) (kY (by decide:2+35<=49) c)))
theorem SW(k:2<=a)(i:b<=20000)(j:a<=5):b+59+a*(2+3)<=80000:=bN [a,b] (B+59+(R A 5)) 80000 (.o B 20000 (.c 5 A 5 .z)) rfl i j
theorem SX(k:2<=a)(i:b<=20000)(j:a<=5):b+59+a*(102+3)<=80000:=bN [a,b] (B+59+(R A 105)) 80000 (.o B 20000 (.c 105 A 5 .z)) rfl i j
theorem SY(j:2<=a)(i:a<=5):b+59+a*(2+3)<=b+1*100:=bN [a,b] (B+59+(R A 5)) (B+100) (.c 5 A 5 .z) rfl i
theorem S3(j:2<=a)(i:a<=5):b+59+a*(102+3)<=b+8*100:=bN [a,b] (B+59+(R A 105)) (B+800) (.c 105 A 5 .z) rfl i
theorem S4{d:Int}(j:a<=800)(k:b=a+2)(l:(↑(c+2):Int)=(↑b:Int))(i:d=1000):d≠(↑b:Int):=λe=>absurd ((mN (mN ((eA (i.symm.trans e):1000=b).trans k)):998=a)▸j) (by decide)
theorem Tj{c:Int}(j:(↑(a+2):Int)=(↑b:Int))(i:c<(↑b:Int)):c≠(↑b:Int):=tU i
theorem Tn{d:Int}(j:a<=800)(k:b=a+2)(l:(↑(c+2):Int)=(↑b:Int))(i:d=1000):d≠(↑(a+1):Int):=λe=>absurd ((mN (eA (i.symm.trans e):1000=a+1):999=a)▸j) (by decide)
theorem To{d:Int}(k:a=b+2)(j:(↑(c+2):Int)=(↑a:Int))(i:d<=(↑b:Int)):d≠(↑(b+1):Int):=tU (cX i (cv.mpr (dh b)))
theorem Tp(i:a<=50000)(l:b<=100000)(j:c<=b+4)(k:b<=a):c<=100000:=bN [a,b,c] C 100000 (.o A 50000 (.o C (B+4) (.o B A .z))) rfl i j k
theorem Tq(j:a<=b+1)(i:b<=500):a<=1000:=bN [a,b] A 1000 (.o A (B+1) (.o B 500 .z)) rfl j i
theorem Tr:g9 a b<=b:=bN [b,min a b,a] B A (.o B A .z) rfl (eG a b)
theorem Ts:g9 a b<=b+c:=bN [b,c,min a b,a] C (A+B) (.o C A .z) rfl (eG a b)
theorem Tt(k:a<=b)(i: ¬c<=b):b - a<=c - a:=bN [a,b,c,c - a,b - a] E D (.o (B+1) C (.o C (D+A) (.e (E+A) B .z))) rfl (cL i) (fq (aC (c - a))) (dy (aP λj=>bZ [a,b,c,c - a,b - a] (.c 1 (.v 0) (.v 1) (.c 1 (.s (.v 1) (.n 1)) (.v 0) .z)) rfl k j))
theorem Tu:a - b<=a - b:=bN [a - b,a,b] A A .z rfl
theorem Tv{a:Int}(i:0<=a):Max.max a 0=a:=WT i
theorem Tw{a:Int}{b:Nat}(j:a<(↑b:Int))(i:b<=1000000):a<2^63:=Ow j (gn (fg.mpr i) (by decide))
theorem Tx(i:a+20*(b+1)+200<=9900):a+1+20*b+200<=9900:=bN [a,b] (A+1+(M 20 B)+200) 9900 (.o (A+(M 20 (B+1))+200) 9900 .z) rfl i
theorem Hl(i:a+4*(b+1)+4<=1000):a+1+4*b+4<=1000:=bN [a,b] (A+1+(M 4 B)+4) 1000 (.o (A+(M 4 (B+1))+4) 1000 .z) rfl i
theorem Tz(i:a+20*(b+1)+200<=9900):a+3+20*b+200<=9900:=bN [a,b] (A+3+(M 20 B)+200) 9900 (.o (A+(M 20 (B+1))+200) 9900 .z) rfl i
theorem TA(j:a<=b)(i:c+20*b+200<=9900):c+20*a+200<=9900:=bN [a,b,c] (C+(M 20 A)+200) 9900 (.c 20 A B (.o (C+(M 20 B)+200) 9900 .z)) rfl j i
theorem TB(j:a<=b)(i:c+4*b+4<=1000):c+4*a+4<=1000:=bN [a,b,c] (C+(M 4 A)+4) 1000 (.c 4 A B (.o (C+(M 4 B)+4) 1000 .z)) rfl j i
theorem TC(j:a<=199)(i:b+20*c+200<=9900):b+a<9900:=gy [a,b,c] (B+A) 9900 (.o A 199 (.o (B+(M 20 C)+200) 9900 .z)) rfl j i
theorem TF(i:a<=15)(j:b=a)(k:c=a):a<=1000:=bN [a,b,c] A 1000 (.o A 15 .z) rfl i
theorem TG(j:a<=b)(i: ¬a<b):(↑b:Int) - (↑a:Int)<=0:=Int.sub_nonpos_of_le (fg.mpr (aP i))
theorem TH(i:a - b=c+1):b<a:=Nat.lt_of_sub_pos (i▸Nat.succ_pos c)
theorem TJ(j:a<=b+4)(i:b<=c+1):a<=c+5:=bN [a,b,c] A (C+5) (.o A (B+4) (.o B (C+1) .z)) rfl j i
theorem Tg(l:a<6)(k:a=1\/a=5)(j:6*b+a=0):False:=k.elim (λi=>bZ [a,b] (.e (M 6 B+A) 0 (.f 1 A .z)) rfl j i) λi=>bZ [a,b] (.e (M 6 B+A) 0 (.f 5 A .z)) rfl j i
theorem Th(i:a<=2+10):a<=100:=bN [a] A 100 (.o A 12 .z) rfl i
theorem Ti(i:a<=5*12):a<=100:=bN [a] A 100 (.o A 60 .z) rfl i
end
end
section
set_option genCtorIdx true in
set_option genInjectivity true in
inductive MV where
 |f
 |h (b:Bool)
 |c (i:Int)
 |g (s:List Nat)
 |e (l:List MV)
 |d (n:Nat)
 |m (l:List Int)
 |j (s:List Nat) (t:Nat)
mutual
noncomputable def MV.k:MV->MV->Bool
 | .f,b=>(match b with| .f=>true|_=>false)
 | .h a,b=>(match b with| .h b=>a==b|_=>false)
 | .c a,b=>(match b with| .c b=>a==b|_=>false)
 | .g a,b=>(match b with| .g b=>a==b|_=>false)
 | .e a,b=>(match b with| .e b=>MV.o a b|_=>false)
 | .d a,b=>(match b with| .d b=>a==b|_=>false)
 | .m a,b=>(match b with| .m b=>a==b|_=>false)
 | .j a t,b=>(match b with| .j b u=>a==b&&t==u|_=>false)
noncomputable def MV.o:List MV->List MV->Bool
 |[],b=>b.isEmpty
 |a::x,b=>(match b with|b::y=>MV.k a b&&MV.o x y|[]=>false)
end
set_option genCtorIdx true in
inductive MO where
 |a (l:List MV)
 |b (l:List (MV×MV))
 |d (c:Nat) (fs:List (Nat×MV))
noncomputable abbrev Loc:=List (Nat×MV)
noncomputable abbrev Hp:=List MO
set_option genCtorIdx true in
inductive RQ|a|e|c|d|b|f|g|h
 deriving DecidableEq
set_option genCtorIdx true in
inductive Cmp|a|b|g|d|i|f|j|e|h|c
 deriving DecidableEq
inductive ME where
 |m
 |g (v:MV)
 |d (x:Nat)
 |E (a b:ME)
 |J (a b:ME)
 |C (a:ME)
 |A (a:ME)
 |r (op:RQ) (a b:ME)
 |q (op:Cmp) (a b:ME)
 |F (op Rw:Cmp) (a b c:ME)
 |z (neg:Bool) (keys:List Int) (a:ME)
 |I (t a b:ME)
 |D (es:List ME)
 |l (es:List ME)
 |G (ks:List MV) (vs:List ME)
 |k (o:ME) (a:Nat)
 |h (o i:ME)
 |y (o:ME) (lo hi:Option ME)
 |j (f:Nat) (es:List ME)
 |H (c:Nat) (es:List ME)
 |n (o:ME) (a:Nat) (es:List ME)
 |w (o:ME) (x:Nat) (e:ME)
 |p (e:ME)
 |B (e:ME)
 |u (e:ME)
 |s (x:Nat) (range:Bool) (src elt:ME)
inductive MT where
 |b (x:Nat)
 |e (o:ME) (a:Nat)
 |d (o i:ME)
 |c (xs:List Nat)
inductive Src where
 |b (e:ME)|a (e:ME)|c (e:ME)
inductive MS where
 |c
 |d (e:ME)
 |f (t:MT) (e:ME)
 |j (x:Nat) (op:RQ) (e:ME)
 |n (o:ME) (a:Nat) (op:RQ) (e:ME)
 |p (e:ME)
 |m (t:ME) (a b:List MS)
 |h (t:ME) (b:List MS)
 |g (t:MT) (s:Src) (b:List MS)
 |l (o i:ME)
 |k (o i:ME)
set_option genCtorIdx true in
inductive Fl where
 |a
 |b (v:MV)
structure k6 where
 a:List Nat
 b:List MS
structure Tab where
 h:Nat->Option k6
 a:Nat->Nat->Option Nat
 b:Nat->List Nat
 g:Nat->Option (Option Nat)
 c:Nat
 e:Nat
 f:Nat
 d:Nat
noncomputable def bz:Nat:=1000000
noncomputable def ie:MV->Option Bool
 | .h b=>some b
 | .c i=>some (i !=0)
 |_=>none
noncomputable def JQ:MV->Bool
 | .f=>true
 | .c _=>true
 |_=>false
noncomputable def bh:Nat->MV->Bool
 |0,v=>JQ v
 |n+1,v=>(match v with| .e l=>l.all (bh n)|v=>JQ v)
noncomputable def WB:MV->Bool
 | .c _=>true
 |_=>false
noncomputable def ad0:MV->Bool
 | .e l=>l.all WB
 |_=>false
noncomputable def uj:List MV->Bool
 |[a,b]=>WB a&&WB b
 |[a,b,c]=>WB a&&(WB b&&ad0 c)
 |_=>false
noncomputable def u9:MV->Bool
 | .e l=>uj l
 |_=>false
noncomputable def eE:MV->Nat
 | .c _=>1
 | .g _=>2
 | .e l=>cond (uj l) 3 0
 |_=>0
noncomputable def cR:List (MV×MV)->MV->Option MV
 |[],_=>none
 |(a,v)::r,k=>if MV.k a k then some v else cR r k
noncomputable def iT:List (MV×MV)->MV->MV->List (MV×MV)
 |[],k,v=>[(k,v)]
 |(a,x)::r,k,v=>if MV.k a k then(a,v)::r else(a,x)::iT r k v
noncomputable def vK:List (MV×MV)->MV->List (MV×MV)
 |[],_=>[]
 |(a,x)::r,k=>if MV.k a k then r else(a,x)::vK r k
noncomputable def eL(l:List (MV×MV))(k:MV):Bool:=eE k !=0&&l.all λp=>eE p.1==eE k
noncomputable def bx(l:List (Nat×MV))(x:Nat):Option MV:=match l with
 |[]=>none
 |(y,v)::r=>if aR y x then some v else bx r x
noncomputable def bp(l:List (Nat×MV))(x:Nat)(v:MV):List (Nat×MV):=match l with
 |[]=>[(x,v)]
 |(y,u)::r=>if aR y x then(y,v)::r else(y,u)::bp r x v
noncomputable def ob{α β:Type}(o:Option (α×Hp))(f:α->Hp->Option β):Option β:=match o with
 |some (v,μ)=>f v μ
 |none=>none
noncomputable def gd{β:Type}(c:Prop)[Decidable c](x:Option β):Option β:=if c then x else none
noncomputable def iv{β:Type}(v:MV)(f:Int->Option β):Option β:=match v with
 | .c i=>f i
 |_=>none
noncomputable def tr{β:Type}(v:MV)(x y:Option β):Option β:=match ie v with
 |some true=>x
 |some false=>y
 |none=>none
noncomputable def xQ{β:Type}(μ:Hp)(o:MV)(f:Nat->List MV->Option β)(g:Nat->List (MV×MV)->Option β)(e:Nat->Nat->List (Nat×MV)->Option β):Option β:=match o with
 | .d n=>match μ[n]? with
  |some (.a l)=>f n l
  |some (.b l)=>g n l
  |some (.d c fs)=>e n c fs
  |none=>none
 |_=>none
noncomputable def rv{β:Type}(μ:Hp)(o:MV)(f:Nat->List MV->Option β):Option β:=xQ μ o f (λJ J=>none) λJ J J=>none
noncomputable def dcM{β:Type}(μ:Hp)(o:MV)(f:Nat->List (MV×MV)->Option β):Option β:=xQ μ o (λJ J=>none) f λJ J J=>none
noncomputable def inM{β:Type}(μ:Hp)(o:MV)(f:Nat->Nat->List (Nat×MV)->Option β):Option β:=xQ μ o (λJ J=>none) (λJ J=>none) f
noncomputable def NF{β:Type}(l:List MV)(f:MV->Option β):Option β:=match l with
 |[v]=>f v
 |_=>none
noncomputable def JE{β:Type}(l:List MV)(f:Option β):Option β:=match l with
 |[]=>f
 |_=>none
noncomputable def RZ(μ:Hp)(a b:MV):Option (MV×Hp):=match a with
 | .c x=>iv b λy=>some (.c (x+y),μ)
 | .g x=>(match b with| .g y=>gd (x.length+y.length<=bz) (some (.g (x++y),μ))|_=>none)
 | .d n=>rv μ (.d n) λJ x=>rv μ b λJ y=>gd (x.length+y.length<=bz) (some (.d μ.length,μ++[.a (x++y)]))
 |_=>none
noncomputable def Va(μ:Hp)(a b:MV):Option (MV×Hp):=iv b λk=>match a with
 | .c x=>gd (x.natAbs<2^64) (some (.c (x*k),μ))
 | .e l=>NF l λv=>gd (0<=k/\k<=1000) (some (.e (br k.toNat v),μ))
 | .d n=>rv μ (.d n) λJ l=>NF l λv=>gd (0<=k/\k<=1000) (some (.d μ.length,μ++[.a (br k.toNat v)]))
 |_=>none
noncomputable def Al(f:Int->Int->Option Int)(μ:Hp)(a b:MV):Option (MV×Hp):=iv a λx=>iv b λy=>(f x y).map λz=>(.c z,μ)
noncomputable def dE(μ:Hp)(op:RQ)(a b:MV):Option (MV×Hp):=match op with
 | .a=>RZ μ a b
 | .c=>Va μ a b
 | .e=>Al (λa b=>some (a - b)) μ a b
 | .d=>Al (λa b=>gd (b≠0/\b.natAbs<2^30) (some (a.fdiv b))) μ a b
 | .b=>Al (λa b=>gd (b≠0) (some (a.fmod b))) μ a b
 | .g=>Al (λa b=>gd (0<=b/\b<=1000/\a.natAbs<2^64) (some (a*2^b.toNat))) μ a b
 | .h=>Al (λa b=>gd (0<=b/\b<=1000) (some (a.fdiv (2^b.toNat)))) μ a b
 | .f=>Al (λa b=>some (PySem.Builtin.bitAnd a b)) μ a b
noncomputable def Ud(μ:Hp)(a b:MV):Option Bool:=match a with
 | .g x=>(match b with| .g y=>some (x==y)|_=>none)
 | .d n=>rv μ (.d n) λJ x=>rv μ b λJ y=>gd (x.all (bh 8)&&y.all (bh 8)) (some (MV.o x y))
 |a=>gd (bh 8 a&&bh 8 b) (some (MV.k a b))
noncomputable def ab7:MV->Option Bool
 | .f=>some true
 | .m _| .j _ _=>none
 |_=>some false
noncomputable def isV(a b:MV):Option Bool:=match b with
 | .f=>ab7 a
 |_=>none
noncomputable def inV(μ:Hp)(k d:MV):Option Bool:=dcM μ d λJ l=>gd (eL l k) (some (cR l k).isSome)
noncomputable def ltI(f:Int->Int->Bool)(a b:MV):Option Bool:=iv a λx=>iv b λy=>some (f x y)
noncomputable def ct(μ:Hp)(op:Cmp)(a b:MV):Option Bool:=match op with
 | .a=>Ud μ a b
 | .b=>(Ud μ a b).map (!·)
 | .g=>ltI (λa b=>decide (a<b)) a b
 | .d=>ltI (λa b=>decide (a<=b)) a b
 | .i=>ltI (λa b=>decide (b<a)) a b
 | .f=>ltI (λa b=>decide (b<=a)) a b
 | .j=>isV a b
 | .e=>(isV a b).map (!·)
 | .h=>inV μ a b
 | .c=>(inV μ a b).map (!·)
noncomputable def zT(l:List MV)(i:Int):Option MV:=
 if 0<=i then gd (i<2^62) l[i.toNat]? else gd (-(2^62)<i/\0<=i+l.length) l[(i+l.length).toNat]?
noncomputable def kn:MV->MV
 | .j s _=> .g s
 |v=>v
noncomputable def ez(μ:Hp)(o i:MV):Option MV:=match o with
 | .d n=>xQ μ (.d n) (λJ l=>iv i (zT l)) (λJ l=>gd (eL l (kn i)) (cR l (kn i))) λJ J J=>none
 | .e l=>iv i (zT l)
 | .g l=>iv i λk=>gd (0<=k/\k<2^62) ((l[k.toNat]?).map λc=> .g [c])
 |_=>none
noncomputable def jU:Option MV->Option (Option Nat)
 |none=>some none
 |some v=>iv v λk=>gd (0<=k/\k<2^62) (some (some k.toNat))
noncomputable def sM{α:Type}(l:List α)(lo b:Option Nat):List α:=
 let l:=match b with|some h=>l.take h|none=>l
 match lo with|some a=>l.drop a|none=>l
noncomputable def lu(μ:Hp)(o:MV)(lo e:Option MV):Option (MV×Hp):=(jU lo).bind λa=>(jU e).bind λb=>match o with
 | .d n=>rv μ (.d n) λJ l=>gd (l.length<=bz) (some (.d μ.length,μ++[.a (sM l a b)]))
 | .g l=>gd (l.length<=bz) (some (.g (sM l a b),μ))
 | .m l=>gd (l.length<=bz) (some (.d μ.length,μ++[.a ((sM l a b).map .c)]))
 |_=>none
noncomputable def mj(μ:Hp)(o:MV):Option MV:=match o with
 | .e l=>gd (l.length<=bz) (some (.c l.length))
 | .d n=>rv μ (.d n) λJ l=>gd (l.length<=bz) (some (.c l.length))
 |_=>none
noncomputable def zp(i:Int):Option (List Nat):=gd (0<=i/\i<10) (some [48+i.toNat])
noncomputable def iu(T:Tab)(μ:Hp)(o:MV)(a:Nat):Option MV:=inM μ o λJ c d=>gd ((T.b c).contains a) (bx d a)
noncomputable def og(T:Tab)(μ:Hp)(o:MV)(a:Nat)(v:MV):Option Hp:=inM μ o λn c e=>gd ((T.b c).contains a&&eI e.length 500) (some (μ.set n (.d c (bp e a v))))
noncomputable def pZ(μ:Hp)(o i v:MV):Option Hp:=xQ μ o (λn l=>iv i λk=>gd (0<=k/\k<l.length/\l.length<=bz) (some (μ.set n (.a (l.set k.toNat v)))))
 (λn l=>gd (eL l i/\l.length<=bz) (some (μ.set n (.b (iT l i v))))) λJ J J=>none
noncomputable def LV(μ:Hp)(o i:MV):Option Hp:=dcM μ o λn l=>gd (eL l i/\(cR l i).isSome/\l.length<=bz) (some (μ.set n (.b (vK l i))))
noncomputable def HL(μ:Hp)(o i:MV):Option Hp:=rv μ o λn l=>iv i λk=>gd (0<=k/\k<2^62/\l.length<=bz) (some (μ.set n (.a (l.take k.toNat))))
noncomputable def jD(x:Nat)(y:List Nat):List Nat->List Nat
 |[]=>[]
 |c::r=>if c=x then y++jD x y r else c::jD x y r
noncomputable abbrev Call:=Nat->List MV->Hp->Option (MV×Hp)
set_option genCtorIdx true in
inductive K1 where
 |c (f:Nat)|a|d|b
noncomputable def gI(T:Tab)(μ:Hp)(o:MV)(a:Nat):Option K1:=xQ μ o
 (λJ J=>if a=T.c then some .a else if a=T.e then some .d else none)
 (λJ J=>if a=T.f then some .b else none)
 λJ c g=>gd (bx g a).isNone ((T.a c a).map K1.c)
noncomputable def adH:List MV->Option (MV×MV)
 |[k]=>some (k,.f)
 |[k,d]=>some (k,d)
 |_=>none
noncomputable def dj(call:Call)(μ:Hp)(o:MV)(vs:List MV)(c:K1):Option (MV×Hp):=match c with
 | .c f=>call f (o::vs) μ
 | .a=>rv μ o λn l=>NF vs λv=>gd (l.length<=bz) (some (.f,μ.set n (.a (l++[v]))))
 | .d=>rv μ o λn l=>JE vs (l.getLast?.bind λv=>gd (l.length<=bz) (some (v,μ.set n (.a l.dropLast))))
 | .b=>dcM μ o λJ l=>(adH vs).bind λp=>gd (eL l p.1) (some ((cR l p.1).getD p.2,μ))
noncomputable def vf(T:Tab)(x:Nat)(a b:MV):Option MV:=match a with
 | .g s=>(match b with| .j y t=>gd (s.length<=1000/\y.length<=1000/\[x]≠y/\0<t/\t<T.d) (some (.g (jD x y s)))|_=>none)
 |_=>none
noncomputable def yf(T:Tab)(call:Call)(c:Nat)(vs:List MV)(μ:Hp):Option (MV×Hp):=(T.g c).bind λi=>match i with
 |some f=>ob (call f (.d μ.length::vs) (μ++[.d c []])) λv a=>match v with| .f=>some (.d μ.length,a)|_=>none
 |none=>JE vs (some (.d μ.length,μ++[.d c []]))
noncomputable def wh(ks vs:List MV)(l:List (MV×MV)):Option (List (MV×MV)):=match ks with
 |[]=>JE vs (some l)
 |k::ks=>(match vs with|v::vs=>gd (eL l k) (wh ks vs (iT l k v))|[]=>none)
noncomputable def yc(f:MV->Hp->Option (MV×Hp)):List MV->Hp->Option (List MV×Hp)
 |[],μ=>some ([],μ)
 |v::r,μ=>ob (f v μ) λx μ=>ob (yc f r μ) λxs μ=>some (x::xs,μ)
noncomputable def wy(n:Nat)(all:List MV)(μ:Hp){β:Type}(x:Option β):Option β:=rv μ (.d n) λJ l=>gd (MV.o l all) x
noncomputable def uk(f:MV->Hp->Option (MV×Hp))(n:Nat)(all:List MV):List MV->Hp->Option (List MV×Hp)
 |[],μ=>wy n all μ (some ([],μ))
 |v::r,μ=>wy n all μ (ob (f v μ) λx μ=>ob (uk f n all r μ) λxs μ=>some (x::xs,μ))
noncomputable def yM(k:Int):List MV:=(fO k.toNat).map λ(j:Nat)=>MV.c j
noncomputable def JB(vs:List MV)(μ:Hp):Option (MV×Hp):=some (.d μ.length,μ++[.a vs])
mutual
noncomputable def aO(T:Tab)(call:Call):ME->Loc->Hp->Option (MV×Hp)
 | .m,_,_=>none
 | .g v,_,μ=>some (v,μ)
 | .d x,ρ,μ=>(bx ρ x).map (·,μ)
 | .E a b,ρ,μ=>ob (aO T call a ρ μ) λv μ=>tr v (aO T call b ρ μ) (some (v,μ))
 | .J a b,ρ,μ=>ob (aO T call a ρ μ) λv μ=>tr v (some (v,μ)) (aO T call b ρ μ)
 | .C a,ρ,μ=>ob (aO T call a ρ μ) λv μ=>(ie v).map λb=>(.h (!b),μ)
 | .A a,ρ,μ=>ob (aO T call a ρ μ) λv μ=>iv v λi=>some (.c (-i),μ)
 | .r op a b,ρ,μ=>ob (aO T call a ρ μ) λx μ=>ob (aO T call b ρ μ) λy μ=>dE μ op x y
 | .q op a b,ρ,μ=>ob (aO T call a ρ μ) λx μ=>ob (aO T call b ρ μ) λy μ=>(ct μ op x y).map λr=>(.h r,μ)
 | .F op Rw a b c,ρ,μ=>ob (aO T call a ρ μ) λx μ=>ob (aO T call b ρ μ) λy μ=>(ct μ op x y).bind λt=>cond t (ob (aO T call c ρ μ) λz μ=>(ct μ Rw y z).map λr=>(.h r,μ)) (some (.h false,μ))
 | .z ng ks a,ρ,μ=>ob (aO T call a ρ μ) λv μ=>iv v λi=>some (.h (ks.contains i !=ng),μ)
 | .I t a b,ρ,μ=>ob (aO T call t ρ μ) λv μ=>tr v (aO T call a ρ μ) (aO T call b ρ μ)
 | .D es,ρ,μ=>ob (gW T call es ρ μ) λvs μ=>gd (vs.length<=1000) (JB vs μ)
 | .l es,ρ,μ=>ob (gW T call es ρ μ) λvs μ=>gd (vs.length<=1000) (some (.e vs,μ))
 | .G ks es,ρ,μ=>ob (gW T call es ρ μ) λvs μ=>(wh ks vs []).bind λl=>some (.d μ.length,μ++[.b l])
 | .k o a,ρ,μ=>ob (aO T call o ρ μ) λv μ=>(iu T μ v a).map (·,μ)
 | .h o i,ρ,μ=>ob (aO T call o ρ μ) λv μ=>ob (aO T call i ρ μ) λk μ=>(ez μ v k).map (·,μ)
 | .y o lo hi,ρ,μ=>ob (aO T call o ρ μ) λv μ=>ob (Bh T call lo ρ μ) λa μ=>ob (Bh T call hi ρ μ) λb μ=>lu μ v a b
 | .j f es,ρ,μ=>ob (gW T call es ρ μ) λvs μ=>call f vs μ
 | .H c es,ρ,μ=>ob (gW T call es ρ μ) λvs μ=>yf T call c vs μ
 | .n o a es,ρ,μ=>ob (aO T call o ρ μ) λv μ=>(gI T μ v a).bind λc=>ob (gW T call es ρ μ) λvs μ=>dj call μ v vs c
 | .w o x e,ρ,μ=>ob (aO T call o ρ μ) λv μ=>ob (aO T call e ρ μ) λu μ=>(vf T x v u).map (·,μ)
 | .p e,ρ,μ=>ob (aO T call e ρ μ) λv μ=>(mj μ v).map (·,μ)
 | .B e,ρ,μ=>ob (aO T call e ρ μ) λv μ=>iv v λi=>(zp i).map λs=>(.g s,μ)
 | .u e,ρ,μ=>ob (aO T call e ρ μ) λv μ=>rv μ v λJ l=>gd (l.length<=bz) (some (.e l,μ))
 | .s x rg src elt,ρ,μ=>ob (aO T call src ρ μ) λv μ=>cond rg
  (iv v λk=>gd (0<=k/\k<=1000) (ob (yc (λi μ=>aO T call elt ((x,i)::ρ) μ) (yM k) μ) JB))
  (rv μ v λn l=>gd (l.length<=bz) (ob (uk (λi μ=>aO T call elt ((x,i)::ρ) μ) n l l μ) JB))
noncomputable def gW(T:Tab)(call:Call):List ME->Loc->Hp->Option (List MV×Hp)
 |[],_,μ=>some ([],μ)
 |e::r,ρ,μ=>ob (aO T call e ρ μ) λv μ=>ob (gW T call r ρ μ) λvs μ=>some (v::vs,μ)
noncomputable def Bh(T:Tab)(call:Call):Option ME->Loc->Hp->Option (Option MV×Hp)
 |none,_,μ=>some (none,μ)
 |some e,ρ,μ=>ob (aO T call e ρ μ) λv μ=>some (some v,μ)
end
noncomputable def eH(xs:List Nat)(vs:List MV)(ρ:Loc):Option Loc:=match xs with
 |[]=>JE vs (some ρ)
 |x::xs=>(match vs with|v::vs=>eH xs vs (bp ρ x v)|[]=>none)
noncomputable def eX(T:Tab)(call:Call)(t:MT)(v:MV)(ρ:Loc)(μ:Hp):Option (Loc×Hp):=match t with
 | .b x=>some (bp ρ x v,μ)
 | .e o a=>ob (aO T call o ρ μ) λw μ=>(og T μ w a v).map (ρ,·)
 | .d o i=>ob (aO T call o ρ μ) λw μ=>ob (aO T call i ρ μ) λk μ=>(pZ μ w k v).map (ρ,·)
 | .c xs=>(match v with| .e l=>(eH xs l ρ).map (·,μ)|_=>none)
noncomputable abbrev Ex:=Option (Fl×Loc×Hp)
noncomputable def ox(o:Ex)(k:Loc->Hp->Ex):Ex:=match o with
 |some (.a,ρ,μ)=>k ρ μ
 |r=>r
noncomputable def qx(body:Loc->Hp->Ex)(store:MV->Loc->Hp->Option (Loc×Hp)):List MV->Loc->Hp->Ex
 |[],ρ,μ=>some (.a,ρ,μ)
 |v::r,ρ,μ=>ob (store v ρ μ) λρ μ=>ox (body ρ μ) (qx body store r)
noncomputable def Em(en:Bool)(body:Loc->Hp->Ex)(store:MV->Loc->Hp->Option (Loc×Hp))(n:Nat)(all:List MV):Nat->List MV->Loc->Hp->Ex
 |_,[],ρ,μ=>wy n all μ (some (.a,ρ,μ))
 |k,v::r,ρ,μ=>wy n all μ (ob (store (cond en (.e [.c k,v]) v) ρ μ) λρ μ=>ox (body ρ μ) (Em en body store n all (k+1) r))
noncomputable def qX(b:Loc->Hp->Option (MV×Hp))(body:Loc->Hp->Ex):Nat->Loc->Hp->Ex
 |0,_,_=>none
 |n+1,ρ,μ=>ob (b ρ μ) λv μ=>tr v (ox (body ρ μ) (qX b body n)) (some (.a,ρ,μ))
noncomputable def Gh(op:RQ)(a b:MV):Option MV:=match op with
 | .a=>iv a λi=>iv b λj=>some (.c (i+j))
 |_=>none
mutual
noncomputable def bQ(T:Tab)(call:Call)(fuel:Nat):MS->Loc->Hp->Ex
 | .c,_,_=>none
 | .d e,ρ,μ=>ob (aO T call e ρ μ) λJ μ=>some (.a,ρ,μ)
 | .f t e,ρ,μ=>ob (aO T call e ρ μ) λv μ=>ob (eX T call t v ρ μ) λρ μ=>some (.a,ρ,μ)
 | .j x op e,ρ,μ=>(bx ρ x).bind λa=>ob (aO T call e ρ μ) λb μ=>(Gh op a b).bind λv=>some (.a,bp ρ x v,μ)
 | .n o a op e,ρ,μ=>ob (aO T call o ρ μ) λw μ=>(iu T μ w a).bind λu=>ob (aO T call e ρ μ) λb μ=>(Gh op u b).bind λv=>(og T μ w a v).bind λμ=>some (.a,ρ,μ)
 | .p e,ρ,μ=>ob (aO T call e ρ μ) λv μ=>some (.b v,ρ,μ)
 | .m t a b,ρ,μ=>ob (aO T call t ρ μ) λv μ=>tr v (aY T call fuel a ρ μ) (aY T call fuel b ρ μ)
 | .h t b,ρ,μ=>qX (aO T call t) (aY T call fuel b) fuel ρ μ
 | .g t s b,ρ,μ=>match s with
  | .b e=>ob (aO T call e ρ μ) λv μ=>(match v with
   | .e l=>qx (aY T call fuel b) (eX T call t) l ρ μ
   |v=>rv μ v λn l=>Em false (aY T call fuel b) (eX T call t) n l 0 l ρ μ)
  | .a e=>ob (aO T call e ρ μ) λv μ=>iv v λk=>gd (0<=k/\k<=1000) (qx (aY T call fuel b) (eX T call t) (yM k) ρ μ)
  | .c e=>ob (aO T call e ρ μ) λv μ=>rv μ v λn l=>Em true (aY T call fuel b) (eX T call t) n l 0 l ρ μ
 | .l o i,ρ,μ=>ob (aO T call o ρ μ) λw μ=>ob (aO T call i ρ μ) λk μ=>(LV μ w k).bind λμ=>some (.a,ρ,μ)
 | .k o i,ρ,μ=>ob (aO T call o ρ μ) λw μ=>ob (aO T call i ρ μ) λk μ=>(HL μ w k).bind λμ=>some (.a,ρ,μ)
noncomputable def aY(T:Tab)(call:Call)(fuel:Nat):List MS->Loc->Hp->Ex
 |[],ρ,μ=>some (.a,ρ,μ)
 |s::r,ρ,μ=>ox (bQ T call fuel s ρ μ) (aY T call fuel r)
end
noncomputable def E7(o:Ex):Option (MV×Hp):=match o with
 |some (.b v,_,μ)=>some (v,μ)
 |some (.a,_,μ)=>some (.f,μ)
 |none=>none
noncomputable def au(T:Tab):Nat->Call
 |0,_,_,_=>none
 |n+1,f,vs,μ=>(T.h f).bind λF=>(eH F.a vs []).bind λρ=>E7 (aY T (au T n) n F.b ρ μ)
section
variable{α β:Type}{Ω:Prop}
theorem om{f:α->Hp->Option β}(h:ob o f=some r)(k:∀v μ,o=some (v,μ)->f v μ=some r->Ω):Ω:=by
 cases o with
 |none=>cases h
 |some p=>exact k p.1 p.2 rfl h
theorem bm{f:α->Option β}(h:o.bind f=some r)(k:∀v,o=some v->f v=some r->Ω):Ω:=by
 cases o with
 |none=>cases h
 |some v=>exact k v rfl h
theorem mm{f:α->β}(h:o.map f=some r)(k:∀v,o=some v->f v=r->Ω):Ω:=by
 cases o with
 |none=>cases h
 |some v=>exact k v rfl (ba h)
theorem gm{c:Prop}[i:Decidable c](h:gd c x=some r)(k:c->x=some r->Ω):Ω:=by
 cases i with
 |isTrue c=>exact k c h
 |isFalse _=>cases h
theorem im{f:Int->Option β}(h:iv v f=some r)(k:∀i,v= .c i->f i=some r->Ω):Ω:=by
 cases v with
 |c i=>exact k i rfl h
 |_=>cases h
theorem tm(h:tr v x y=some r)(k1:ie v=some true->x=some r->Ω)(k2:ie v=some false->y=some r->Ω):Ω:=by
 unfold tr at h
 match e:ie v with
 |some true=>rw[e] at h;exact k1 e h
 |some false=>rw[e] at h;exact k2 e h
 |none=>rw[e] at h;cases h
theorem hm{j:Nat->List MV->Option β}{i:Nat->List (MV×MV)->Option β}{g:Nat->Nat->List (Nat×MV)->Option β}(h:xQ μ o j i g=some r)
  (k1:∀n l,o= .d n->μ[n]?=some (.a l)->j n l=some r->Ω) (k2:∀n l,o= .d n->μ[n]?=some (.b l)->i n l=some r->Ω) (k:∀n c f,o= .d n->μ[n]?=some (.d c f)->g n c f=some r->Ω):Ω:=by
 cases o with
 |d n=>
  unfold xQ at h
  dsimp only at h
  match e:μ[n]? with
  |some (.a l)=>rw[e] at h;exact k1 n l rfl e h
  |some (.b l)=>rw[e] at h;exact k2 n l rfl e h
  |some (.d c f)=>rw[e] at h;exact k n c f rfl e h
  |none=>rw[e] at h;cases h
 |_=>cases h
theorem lm{f:Nat->List MV->Option β}(h:rv μ o f=some r)(k:∀n l,o= .d n->μ[n]?=some (.a l)->f n l=some r->Ω):Ω:=
 hm h k (λJ J J J h=>nomatch h) λJ J J J J h=>nomatch h
theorem dm{f:Nat->List (MV×MV)->Option β}(h:dcM μ o f=some r)(k:∀n l,o= .d n->μ[n]?=some (.b l)->f n l=some r->Ω):Ω:=
 hm h (λJ J J J h=>nomatch h) k λJ J J J J h=>nomatch h
theorem nm{f:Nat->Nat->List (Nat×MV)->Option β}(h:inM μ o f=some r)(k:∀n c a,o= .d n->μ[n]?=some (.d c a)->f n c a=some r->Ω):Ω:=
 hm h (λJ J J J h=>nomatch h) (λJ J J J h=>nomatch h) k
theorem JN{f:MV->Option β}(h:NF l f=some r)(k:∀v,l=[v]->f v=some r->Ω):Ω:=by
 cases l with
 |nil=>cases h
 |cons v l=>cases l with
  |nil=>exact k v rfl h
  |cons _ _=>cases h
theorem Cu(h:JE l f=some r)(k:l=[]->f=some r->Ω):Ω:=by
 cases l with
 |nil=>exact k rfl h
 |cons _ _=>cases h
theorem wj{k:Loc->Hp->Ex}(h:ox o k=some r)(k1:∀ρ μ,o=some (.a,ρ,μ)->k ρ μ=some r->Ω)(k2:∀v ρ μ,o=some (.b v,ρ,μ)->r=(.b v,ρ,μ)->Ω):Ω:=by
 cases o with
 |none=>cases h
 |some p=>
  obtain⟨c,ρ,μ⟩:=p
  cases c with
  |a=>exact k1 ρ μ rfl h
  |b v=>exact k2 v ρ μ rfl (ba h).symm
theorem Dc(h:wy n all μ x=some r)(k:∀l,μ[n]?=some (.a l)->MV.o l all=true->x=some r->Ω):Ω:=
 lm h λJ l e c d=>gm d λb f=>k l (by cases e;exact c) b f
end
end
section
open PySem
structure CX where
 a:Str->Option Nat
 b:Str->Option MV
 d:Str->Option Nat
 c:Str->Option Nat
 e:Str->Option (List Int)
noncomputable abbrev Sc:=List (Str×rQ)
noncomputable def I9(sc:Sc)(x:Str):Bool:=match sc.lookup x with
 |some .local|some .cell|some .free=>true
 |_=>false
noncomputable def u_(sc:Sc)(x:Str):Bool:=match sc.lookup x with
 |some .local|some .cell=>true
 |_=>false
noncomputable def kG(sc:Sc)(x:Str):Bool:=sc.lookup x==some .globalImplicit
noncomputable def pN(X:CX)(sc:Sc)(x:Str)(n:Str):Bool:=kG sc x&&x==n&&(X.b x).isNone&&(X.d x).isNone&&(X.c x).isNone&&(X.e x).isNone
noncomputable def LB:Operator->Option RQ
 | .Add=>some .a| .Sub=>some .e| .Mult=>some .c| .FloorDiv=>some .d| .Mod=>some .b| .BitAnd=>some .f| .LShift=>some .g| .RShift=>some .h
 |_=>none
noncomputable def D6:CmpOp->Option Cmp
 | .Eq=>some .a| .NotEq=>some .b| .Lt=>some .g| .LtE=>some .d| .Gt=>some .i| .GtE=>some .f| .Is=>some .j| .IsNot=>some .e| .In=>some .h| .NotIn=>some .c
noncomputable def bE{α:Type}(o:Option α)(k:α->ME):ME:=match o with
 |some a=>k a
 |none=> .m
noncomputable def gE(c:Prop)[Decidable c](x:ME):ME:=if c then x else .m
noncomputable def bS{α:Type}(o:Option α)(k:α->MS):MS:=match o with
 |some a=>k a
 |none=> .c
noncomputable def gS(c:Prop)[Decidable c](x:MS):MS:=if c then x else .c
noncomputable def Kd(X:CX)(sc:Sc):Expr->Option (List Int)
 | .Name x _=>gd (kG sc x) (X.e x)
 |_=>none
noncomputable def Gn:List ME->ME
 |[]=> .m
 |[a]=>a
 |a::r=> .E a (Gn r)
noncomputable def Rx:List ME->ME
 |[]=> .m
 |[a]=>a
 |a::r=> .J a (Rx r)
noncomputable def i8:Expr->Bool
 | .Starred .. =>true
 |_=>false
noncomputable def l_:Expr->Bool
 | .Slice .. =>true
 |_=>false
noncomputable def ad1:Const->Option MV
 | .str x=>some (.g x.cps.toList)
 |_=>none
noncomputable def acb:Expr->Option MV
 | .Constant c _ _=>ad1 c
 |_=>none
noncomputable def nV:List (Option Expr)->Option (List MV)
 |[]=>some []
 |o::r=>(o.bind acb).bind λk=>(nV r).map (k:: ·)
noncomputable def wi:Expr->Bool
 | .Call (.Name x _) [] [] _=>x !="super"
 |_=>true
noncomputable def I_:Expr->Bool
 | .Set .. =>true
 |_=>false
noncomputable def pS(sc:Sc)(scope:Ld)(v:Str):Bool:=
 scope.kind== .function&&scope.names.all λx=>match x.2 with
  | .local=>(x.1==v||x.1==".0")&&scope.names.lookup x.1==some .local
  | .free=>sc.lookup x.1==some .cell&&scope.names.lookup x.1==some .free
  | .globalImplicit=>true
  |_=>false
set_option genCtorIdx true in
inductive Cle where
 |g|h (f:Nat)|b (c:Nat)|d|e|a
noncomputable def sJ(X:CX)(sc:Sc)(x:Str):Cle:=cond (kG sc x) (match X.d x with
 |some f=> .h f
 |none=>(match X.c x with
  |some c=> .b c
  |none=>cond (pN X sc x "len") .d (cond (pN X sc x "str") .e (cond (pN X sc x "tuple") .a .g)))) .g
theorem y_{P:Cle->Prop}(i:P .g)(l:∀f,kG sc x=true->X.d x=some f->P (.h f))(k:∀c,kG sc x=true->X.c x=some c->P (.b c))
  (j:pN X sc x "len"=true->P .d) (n:pN X sc x "str"=true->P .e) (m:pN X sc x "tuple"=true->P .a):P (sJ X sc x):=by
 unfold sJ
 cases hg:kG sc x with
 |false=>exact i
 |true=>
  cases hf:X.d x with
  |some f=>exact l f hg hf
  |none=>
   cases hc:X.c x with
   |some c=>exact k c hg hc
   |none=>
    cases q3:pN X sc x "len" with
    |true=>exact j q3
    |false=>
     cases q4:pN X sc x "str" with
     |true=>exact n q4
     |false=>
      cases q5:pN X sc x "tuple" with
      |true=>exact m q5
      |false=>exact i
noncomputable def oH(X:CX)(sc:Sc)(nm:Str):Expr->Bool
 | .Call (.Name r _) [_] [] _=>pN X sc r nm
 |_=>false
noncomputable def Uz:List ME->ME
 |[a]=>a
 |_=> .m
noncomputable def uno(f:ME->ME):List ME->ME
 |[a]=>f a
 |_=> .m
noncomputable def Q0(i:List ME):Cle->ME
 | .h f=> .j f i
 | .b c=> .H c i
 | .d=>uno .p i
 | .e=>uno .B i
 | .a=>uno .u i
 | .g=> .m
noncomputable def MJ:CmpOp->Option Bool
 | .In=>some false
 | .NotIn=>some true
 |_=>none
noncomputable def LN:List Expr->Option Nat
 |[.Constant (.str x) _ _,_]=>(match x.cps.toList with|[c]=>some c|_=>none)
 |_=>none
noncomputable def acZ(o:ME)(c:Nat):List ME->ME
 |[_,e]=> .w o c e
 |_=> .m
mutual
noncomputable def cE(X:CX)(sc:Sc):Expr->ME
 | .Constant c _ _=>(match c with
  | .none=> .g .f
  | .bool b=> .g (.h b)
  | .int i=> .g (.c i)
  | .str s=> .g (.g s.cps.toList)
  |_=> .m)
 | .Name x _=>if I9 sc x then bE (X.a x) .d else gE (kG sc x) (bE (X.b x) .g)
 | .BoolOp op vs _=>(match op with| .And=>Gn (y8 X sc vs)| .Or=>Rx (y8 X sc vs))
 | .BinOp l op r _=>bE (LB op) λo=> .r o (cE X sc l) (cE X sc r)
 | .UnaryOp op x _=>(match op with| .Not=> .C (cE X sc x)| .USub=> .A (cE X sc x)|_=> .m)
 | .IfExp t a b _=> .I (cE X sc t) (cE X sc a) (cE X sc b)
 | .Dict ks vs _=>bE (nV ks) λl=>gE (eI l.length 15&&aR vs.length l.length) (.G l (y8 X sc vs))
 | .List e _=>gE (e.any i8=false) (.D (y8 X sc e))
 | .Tuple e _ _=>gE (e.any i8=false) (.l (y8 X sc e))
 | .ListComp p gens scope _=>(match gens with
  |[⟨.Name x _,iter,[],0⟩]=>gE (pS sc scope x&&scope.names.lookup x==some .local&& !I_ iter) (bE (X.a x) λn=>
   cond (oH X sc "range" iter) (.s n true (Uz (cA X sc iter)) (cE X scope.names p)) (.s n false (cE X sc iter) (cE X scope.names p)))
  |_=> .m)
 | .Compare l j u _=>gE (Lf j u=false) (match j,u with
  |[op],[r]=>(match Kd X sc r with
   |some ks=>bE (MJ op) λw=> .z w ks (cE X sc l)
   |none=>bE (D6 op) λo=> .q o (cE X sc l) (cE X sc r))
  |[op,Rw],[r,r']=>bE (D6 op) λo=>bE (D6 Rw) λv=> .F o v (cE X sc l) (cE X sc r) (cE X sc r')
  |_,_=> .m)
 | .Call f args ks pos=>gE ((args.any i8|| !ks.isEmpty)=false) (match f with
  | .Attribute o name apos=>gE (wi o&&eI args.length 20&&apos.endLine==pos.line) (bE (X.a name) λa=>
   if name=="replace" then bE (LN args) λc=>acZ (cE X sc o) c (y8 X sc args) else .n (cE X sc o) a (y8 X sc args))
  | .Name x _=>Q0 (y8 X sc args) (sJ X sc x)
  |_=> .m)
 | .Attribute o name _=>gE (wi o) (bE (X.a name) λa=> .k (cE X sc o) a)
 | .Subscript o i _=>cond (l_ i) (cSl X sc i (cE X sc o)) (.h (cE X sc o) (cE X sc i))
 |_=> .m
noncomputable def y8(X:CX)(sc:Sc):List Expr->List ME
 |[]=>[]
 |e::r=>cE X sc e::y8 X sc r
noncomputable def Hw(X:CX)(sc:Sc):Option Expr->Option ME
 |none=>none
 |some e=>some (cE X sc e)
noncomputable def cA(X:CX)(sc:Sc):Expr->List ME
 | .Call _ args _ _=>y8 X sc args
 |_=>[]
noncomputable def cSl(X:CX)(sc:Sc):Expr->ME->ME
 | .Slice lo hi st _,o=>gE st.isNone (.y o (Hw X sc lo) (Hw X sc hi))
 |_,_=> .m
end
noncomputable def JP(X:CX)(sc:Sc):Expr->Option Nat
 | .Name x _=>gd (u_ sc x) (X.a x)
 |_=>none
noncomputable def j5(X:CX)(sc:Sc):List Expr->Option (List Nat)
 |[]=>some []
 |e::r=>(JP X sc e).bind λn=>(j5 X sc r).map (n:: ·)
noncomputable def cT(X:CX)(sc:Sc)(t:Expr):Option MT:=match t with
 | .Name _ _=>(JP X sc t).map MT.b
 | .Attribute o a _=>(X.a a).map (MT.e (cE X sc o))
 | .Subscript o i _=>gd (l_ i=false) (some (.d (cE X sc o) (cE X sc i)))
 | .Tuple f _ _=>(j5 X sc f).map MT.c
 |_=>none
noncomputable def I8:Expr->Bool
 | .ListComp .. =>true
 |_=>false
noncomputable def LD(X:CX)(sc:Sc)(t:Expr):Option MT:=match t with
 | .Name _ _=>(JP X sc t).map MT.b
 | .Tuple a _ _=>(j5 X sc a).map MT.c
 |_=>none
noncomputable def lJ:Expr->Bool
 | .Tuple .. =>true
 |_=>false
noncomputable def abt(X:CX)(sc:Sc)(e:Expr):Src:=if oH X sc "range" e then .a (Uz (cA X sc e)) else if oH X sc "enumerate" e then .c (Uz (cA X sc e)) else .b (cE X sc e)
noncomputable def Cx{α:Type}(l:List α)(f:α->MS):MS:=match l with
 |[v]=>f v
 |_=> .c
noncomputable def adx(X:CX)(sc:Sc)(t:Expr)(o:RQ)(v:ME):MS:=match t with
 | .Name _ _=>bS (JP X sc t) λn=> .j n o v
 | .Attribute ob a _=>bS (X.a a) λn=> .n (cE X sc ob) n o v
 |_=> .c
noncomputable def sl0:Expr->Option Expr
 | .Slice lo none none _=>lo
 |_=>none
noncomputable def abz(X:CX)(sc:Sc)(t:Expr):MS:=match t with
 | .Subscript o i _=>cond (l_ i) (bS (sl0 i) λlo=> .k (cE X sc o) (cE X sc lo)) (.l (cE X sc o) (cE X sc i))
 |_=> .c
mutual
noncomputable def cS(X:CX)(sc:Sc):j0->MS
 | .Expr v _=>gS (I8 v=false) (.d (cE X sc v))
 | .Return v _=>(match v with|some e=> .p (cE X sc e)|none=> .p (.g .f))
 | .Assign ts v _=>Cx ts λt=>gS ((lJ t&&lJ v)=false) (bS (cT X sc t) λm=> .f m (cE X sc v))
 | .AugAssign t op v _=>bS (LB op) λo=>adx X sc t o (cE X sc v)
 | .If t a b _=> .m (cE X sc t) (yK X sc a) (yK X sc b)
 | .While t a b _=>gS b.isEmpty (.h (cE X sc t) (yK X sc a))
 | .For t i a b _=>gS (b.isEmpty&& !I_ i&&(lJ t|| !oH X sc "enumerate" i)) (bS (LD X sc t) λm=> .g m (abt X sc i) (yK X sc a))
 | .Delete ts _=>Cx ts λt=>abz X sc t
 |_=> .c
noncomputable def yK(X:CX)(sc:Sc):List j0->List MS
 |[]=>[]
 |s::r=>cS X sc s::yK X sc r
end
section
variable{α β:Type}{Ω:Prop}{T:Tab}{cl:Call}{ρ:Loc}{μ:Hp}{fuel:Nat}
theorem stk(h:aO T cl .m ρ μ=some r):Ω:=nomatch h
theorem Af(h:bQ T cl fuel .c ρ μ=some r):Ω:=nomatch h
theorem A4{k:α->ME}(h:aO T cl (bE o k) ρ μ=some r)(g:∀a,o=some a->aO T cl (k a) ρ μ=some r->Ω):Ω:=by
 cases o with
 |none=>exact stk h
 |some a=>exact g a rfl h
theorem ug{c:Prop}[i:Decidable c](h:aO T cl (gE c x) ρ μ=some r)(g:c->aO T cl x ρ μ=some r->Ω):Ω:=by
 cases i with
 |isTrue c=>exact g c h
 |isFalse _=>exact stk h
theorem iEm{c:Prop}[i:Decidable c](h:aO T cl (if c then x else y) ρ μ=some r)(g:c->aO T cl x ρ μ=some r->Ω)(a: ¬c->aO T cl y ρ μ=some r->Ω):Ω:=by
 cases i with
 |isTrue c=>exact g c h
 |isFalse c=>exact a c h
theorem cEm(h:aO T cl (cond c x y) ρ μ=some r)(g:c=true->aO T cl x ρ μ=some r->Ω)(a:c=false->aO T cl y ρ μ=some r->Ω):Ω:=by
 cases c with
 |true=>exact g rfl h
 |false=>exact a rfl h
theorem QY{k:α->MS}(h:bQ T cl fuel (bS o k) ρ μ=some r)(g:∀a,o=some a->bQ T cl fuel (k a) ρ μ=some r->Ω):Ω:=by
 cases o with
 |none=>exact Af h
 |some a=>exact g a rfl h
theorem gSm{c:Prop}[i:Decidable c](h:bQ T cl fuel (gS c x) ρ μ=some r)(g:c->bQ T cl fuel x ρ μ=some r->Ω):Ω:=by
 cases i with
 |isTrue c=>exact g c h
 |isFalse _=>exact Af h
theorem cSm(h:bQ T cl fuel (cond c x y) ρ μ=some r)(g:c=true->bQ T cl fuel x ρ μ=some r->Ω)(a:c=false->bQ T cl fuel y ρ μ=some r->Ω):Ω:=by
 cases c with
 |true=>exact g rfl h
 |false=>exact a rfl h
theorem JM{f:α->MS}(h:bQ T cl fuel (Cx l f) ρ μ=some r)(g:∀a,l=[a]->bQ T cl fuel (f a) ρ μ=some r->Ω):Ω:=by
 cases l with
 |nil=>exact Af h
 |cons v l=>cases l with
  |nil=>exact g v rfl h
  |cons _ _=>exact Af h
theorem aeD{f:ME->ME}(h:aO T cl (uno f (y8 X sc args)) ρ μ=some r)(k:∀e,args=[e]->aO T cl (f (cE X sc e)) ρ μ=some r->Ω):Ω:=by
 cases args with
 |nil=>exact stk h
 |cons v l=>cases l with
  |nil=>exact k v rfl h
  |cons _ _=>exact stk h
theorem TR{P:List Expr->Prop}(h:LN args=some c)(k:∀x i p e,x.cps.toList=[c]->P [.Constant (.str x) i p,e]):P args:=by
 cases args with
 |nil=>cases h
 |cons a t=>cases a with
  |Constant d i p=>cases d with
   |str x=>cases t with
    |nil=>cases h
    |cons e t=>cases t with
     |nil=>
      refine k x i p e ?_
      clear k
      dsimp only[LN] at h
      revert h
      generalize x.cps.toList=l
      intro h
      cases l with
      |nil=>cases h
      |cons d r=>cases r with
       |nil=>cases h;rfl
       |cons _ _=>cases h
     |cons _ _=>cases h
   |_=>cases h
  |_=>cases h
theorem HD(h:LN args=some c)(k:∀x i p e,args=[.Constant (.str x) i p,e]->x.cps.toList=[c]->Ω):Ω:=TR (P:=λl=>args=l->Ω) h (λx i p e q f=>k x i p e f q) rfl
theorem MU{P:Expr->Prop}{X:CX}{sc:Sc}{nm:Str}{e:Expr}(h:oH X sc nm e=true)(g:∀r p a q,pN X sc r nm=true->P (.Call (.Name r p) [a] [] q)):P e:=by
 cases e with
 |Call f args ks q=>
  cases f with
  |Name r p=>cases args with
   |nil=>cases h
   |cons a t=>cases t with
    |nil=>cases ks with
     |nil=>exact g r p a q h
     |cons _ _=>cases h
    |cons _ _=>cases h
  |_=>cases h
 |_=>cases h
end
end
section
set_option maxRecDepth 10000
open PySem PySem.Calls PySem.W PyProof.Rows
noncomputable abbrev cn(vs:List aA):Obj:={cls:= .type "tuple",data:= .seq vs.toArray}
noncomputable abbrev ee(vs:List aA)(n:Nat):Obj:={cls:= .type "list",data:= .seq vs.toArray n}
noncomputable abbrev fj:=List (cK×cK)
noncomputable def Off(ρ:fj)(b:cK):Prop:=∀p∈ρ,b≠p.1/\b≠p.2
section
variable(hb h:dO)(ρ:fj)
mutual
noncomputable def VR:MV->aA->Prop
 | .f,v=>v= .none
 | .h b,v=>v= .bool b
 | .c i,v=>∃t,v= .int i t
 | .g s,v=>∃t,v= .str ⟨s.toArray⟩ t
 | .e l,v=>∃a vs,v= .ref a/\h.get? a=some (cn vs)/\dw l vs
 | .d n,v=>∃p,v= .ref p.1/\ρ[n]?=some p
 | .j x t,v=>v= .str ⟨x.toArray⟩ t
 | .m l,v=>∃a vs k,v= .ref a/\hb.get? a=some (ee vs k)/\l.length=vs.length/\∀(j:Nat) (i:Int),l[j]?=some i->∃t:Tok,vs[j]?=some (aA.int i t)
noncomputable def dw:List MV->List aA->Prop
 |[],vs=>vs=[]
 |x::l,vs=>∃v r,vs=v::r/\VR x v/\dw l r
end
end
noncomputable def ic(w:dW):MV->Int
 | .c i=>wJ i
 | .g s=>hashStr w ⟨s.toArray⟩
 | .e l=>uA (cF (l.map fun
  | .c i=>wJ i
  | .e l=>uA (cF (l.map λ| .c i=>wJ i|_=>0))
  |_=>0))
 |_=>0
noncomputable def ER(w:dW)(hb h:dO)(ρ:fj):List (MV×MV)->List cx->Prop
 |[],es=>es=[]
 |p::l,es=>∃e r,es=e::r/\(VR hb h ρ p.1 e.key/\e.hash=ic w p.1/\VR hb h ρ p.2 e.val)/\ER w hb h ρ l r
noncomputable def FR(NM:Nat->Str)(hb h:dO)(ρ:fj):List (Nat×MV)->List cx->Prop
 |[],es=>es=[]
 |p::l,es=>∃e r,es=e::r/\((∃t,e.key= .str (NM p.1) t)/\VR hb h ρ p.2 e.val)/\FR NM hb h ρ l r
noncomputable def rh(l:List (MV×MV)):Prop:=(l.map (·.1)).Nodup/\∃k,k≠0/\∀p∈l,eE p.1=k
noncomputable def uD(N:Nat)(l:List (Nat×MV)):Prop:=(l.map (·.1)).Nodup/\∀p∈l,p.1<N
structure Cfg where
 w:dW
 a:Nat->Str
 N:Nat
 inj:∀i j,i<N->j<N->a i=a j->i=j
noncomputable def sz(G:Cfg)(hb h:dO)(ρ:fj):MO->cK×cK->Prop
 | .a l,p=>p.2=p.1/\∃vs n,h.get? p.1=some (ee vs n)/\dw hb h ρ l vs
 | .b l,p=>p.2=p.1/\rh l/\∃e n,h.get? p.1=some (iG e n)/\ER G.w hb h ρ l e
 | .d c fs,p=>uD G.N fs/\h.get? p.1=some (mE c p.2)/\∃e n,h.get? p.2=some (iG e n)/\FR G.a hb h ρ fs e
structure eV (G:Cfg) (hb h:dO) (ρ:fj) (μ:Hp):Prop where
 u:ρ.length=μ.length
 H:∀(n:Nat) (o:MO) (p:cK×cK),μ[n]?=some o->ρ[n]?=some p->sz G hb h ρ o p
 F:∀(i j:Nat) (p q:cK×cK),ρ[i]?=some p->ρ[j]?=some q->i≠j->p.1≠q.1/\p.1≠q.2/\p.2≠q.1/\p.2≠q.2
 B:∀b o,hb.get? b=some o->Off ρ b
 m:∀b o,hb.get? b=some o->h.get? b=some o
 L:∃o,hb.get? uB=some o
structure bT (G:Cfg) (hb:dO) (ρ:fj) (s:az) (ρ':fj) (aG:Hp) (s':az):Prop where
 E:∃e,ρ'=ρ++e/\∀p∈e,s.heap.get? p.1=none/\s.heap.get? p.2=none
 d:eV G hb s'.heap ρ' aG
 C:∀b o,s.heap.get? b=some o->Off ρ b->s'.heap.get? b=some o
 F:s'.gens=s.gens
 X:s'.os=s.os
 Y:s.toks<=s'.toks
theorem Off.a(h:Off ρ b)(h':Off e b):Off (ρ++e) b:=λp c=>by
 rcases cZ.mp c with q|q
 ·exact h p q
 ·exact h' p q
theorem eV.z(S:eV G hb h ρ μ)(t:h.get? a=some o)(C:o.cls= .type "tuple"):Off ρ a:=by
 intro p A
 obtain⟨n,i⟩:=jS.mp A
 have y:=S.u▸((ax.mp i).1)
 have q:=S.H n μ[n] p (aN y) i
 generalize μ[n]=x at q
 have key:∀b f,h.get? b=some f->f.cls≠ .type "tuple"->a≠b:=by
  rintro b f j w rfl
  rw[t] at j;cases j;exact w C
 cases x with
 |a l=>obtain⟨e,vs,k,g,_⟩:=q;exact⟨key _ _ g (by simp),e▸(key _ _ g (by simp))⟩
 |b l=>obtain⟨e,_,r,k,g,_⟩:=q;exact⟨key _ _ g (by simp),e▸(key _ _ g (by simp))⟩
 |d c D=>obtain⟨_,g,r,k,v,_⟩:=q;exact⟨key _ _ g (by simp),key _ _ v (by simp)⟩
theorem eV.X(S:eV G hb h ρ μ)(q:p∈ρ):∃r o2,h.get? p.1=some r/\h.get? p.2=some o2:=by
 refine dG (jS.mp q) λn f=>?_
 have o:=S.u▸((ax.mp f).1)
 have y:=S.H n μ[n] p (aN o) f
 generalize μ[n]=x at y
 cases x with
 |a l=>obtain⟨e,vs,k,g,_⟩:=y;exact⟨_,_,g,e▸g⟩
 |b l=>obtain⟨e,_,i,k,g,_⟩:=y;exact⟨_,_,g,e▸g⟩
 |d c t=>obtain⟨_,g,i,k,j,_⟩:=y;exact⟨_,_,g,j⟩
section
variable{hb h h':dO}{ρ ρ':fj}
mutual
theorem VR.C(k:∀a vs,h.get? a=some (cn vs)->h'.get? a=some (cn vs))(o:∀(n:Nat) p,ρ[n]?=some p->ρ'[n]?=some p):
  ∀(x:MV) (v:aA),VR hb h ρ x v->VR hb h' ρ' x v
 | .f,v,q=>q
 | .h b,v,q=>q
 | .c i,v,q=>q
 | .g s,v,q=>q
 | .e l,v,q=>by unfold VR at q⊢;refine dY q λa vs e g r=>?_;exact⟨a,vs,e,k a vs g,dw.t k o l vs r⟩
 | .d n,v,q=>by unfold VR at q⊢;refine cf q λp e g=>?_;exact⟨p,e,o n p g⟩
 | .m l,v,q=>q
 | .j x t,v,q=>q
theorem dw.t(c:∀a vs,h.get? a=some (cn vs)->h'.get? a=some (cn vs))(d:∀(n:Nat) p,ρ[n]?=some p->ρ'[n]?=some p):
  ∀(x:List MV) (v:List aA),dw hb h ρ x v->dw hb h' ρ' x v
 |[],v,q=>q
 |x::l,v,q=>by unfold dw at q⊢;refine dY q λy r e a b=>?_;exact⟨y,r,e,VR.C c d x y a,dw.t c d l r b⟩
end
theorem ER.o(d:∀a vs,h.get? a=some (cn vs)->h'.get? a=some (cn vs))(i:∀(n:Nat) p,ρ[n]?=some p->ρ'[n]?=some p):
  ∀(x:List (MV×MV)) (v:List cx),ER w hb h ρ x v->ER w hb h' ρ' x v
 |[],v,q=>q
 |x::l,v,q=>by unfold ER at q⊢;refine dY q λy r e z0 b=>?_;obtain⟨a,j,c⟩:=z0;exact⟨y,r,e,⟨VR.C d i _ _ a,j,VR.C d i _ _ c⟩,ER.o d i l r b⟩
theorem FR.o{NM:Nat->Str}(c:∀a vs,h.get? a=some (cn vs)->h'.get? a=some (cn vs))(d:∀(n:Nat) p,ρ[n]?=some p->ρ'[n]?=some p):
  ∀(x:List (Nat×MV)) (v:List cx),FR NM hb h ρ x v->FR NM hb h' ρ' x v
 |[],v,q=>q
 |x::l,v,q=>by unfold FR at q⊢;refine dY q λy r e z0 b=>?_;obtain⟨a,i⟩:=z0;exact⟨y,r,e,⟨a,VR.C c d _ _ i⟩,FR.o c d l r b⟩
end
theorem kS{ρ e:fj}(n:Nat)(p:cK×cK)(h:ρ[n]?=some p):(ρ++e)[n]?=some p:=(aJ (ax.mp h).1)▸h
section
variable{G:Cfg}{hb:dO}{ρ ρ' KP:fj}{μ aG KN:Hp}{s s' s'':az}
theorem bT.N(S:eV G hb s.heap ρ μ)(P:bT G hb ρ s ρ' aG s'):∀a vs,s.heap.get? a=some (cn vs)->s'.heap.get? a=some (cn vs):=
 λa vs g=>P.C a _ g (S.z g rfl)
theorem bT.O(P:bT G hb ρ s ρ' aG s'):∀(n:Nat) p,ρ[n]?=some p->ρ'[n]?=some p:=by
 refine cf P.E λe z0 J=>?_
 refine fI z0 ?_
 exact λn p=>kS n p
theorem bT.y(S:eV G hb s.heap ρ μ)(P:bT G hb ρ s ρ' aG s')(q:VR hb s.heap ρ x v):VR hb s'.heap ρ' x v:=VR.C (P.N S) P.O x v q
theorem bT.R(S:eV G hb s.heap ρ μ)(P:bT G hb ρ s ρ' aG s')(q:dw hb s.heap ρ x v):dw hb s'.heap ρ' x v:=dw.t (P.N S) P.O x v q
theorem bT.I(P:bT G hb ρ s ρ' aG s')(g:s.heap.get? b=some o)(h:Off ρ b):Off ρ' b:=by
 refine cf P.E λe z0 c=>?_
 refine fI z0 ?_
 refine h.a λp i=>⟨?_,?_⟩
 ·rintro rfl;rw[(c p i).1] at g;cases g
 ·rintro rfl;rw[(c p i).2] at g;cases g
theorem bT.l(S:eV G hb s.heap ρ μ):bT G hb ρ s ρ μ s:=⟨⟨[],by simp,λJ h=>nomatch h⟩,S,λJ J g J=>g,rfl,rfl,aC _⟩
theorem bT.u(P:bT G hb ρ s ρ' aG s')(t:Nat)(a:s'.toks<=t):bT G hb ρ s ρ' aG {s' with toks:=t}:=⟨P.E,P.d,P.C,P.F,P.X,aD P.Y a⟩
theorem bT.f(P:bT G hb ρ s ρ' aG s')(Q:bT G hb ρ' s' KP KN s''):bT G hb ρ s KP KN s'':=by
 refine cf P.E λe z0 v=>?_
 subst z0
 refine cf Q.E λm n a=>?_
 subst n
 have c:∀b,s'.heap.get? b=none->s.heap.get? b=none:=λb z=>by
  cases w:s.heap.get? b with
  |none=>rfl
  |some o=>
   exfalso
   by_cases j:Off ρ b
   ·rw[P.C _ _ w j] at z;cases z
   ·refine j λq r=>?_
    refine m8 (P.d.X (FY _ r)) λx o2 k i=>?_
    exact⟨(by rintro rfl;rw[z] at k;cases k),(by rintro rfl;rw[z] at i;cases i)⟩
 refine⟨⟨e++m,by rw[cC],λp t=>?_⟩,Q.d,λb o g h=>Q.C b o (P.C b o g h) (P.I g h),Q.F.trans P.F,Q.X.trans P.X,aD P.Y Q.Y⟩
 rcases cZ.mp t with q|q
 ·exact v p q
 ·exact⟨c _ (a p q).1,c _ (a p q).2⟩
end
end
section
set_option maxRecDepth 10000
open PySem PySem.Calls PySem.W PyProof.Rows
section
variable{G:Cfg}{hb h h':dO}{ρ:fj}{μ:Hp}{s:az}
theorem sz.b(j:∀a vs,h.get? a=some (cn vs)->h'.get? a=some (cn vs))(m:∀(n:Nat) p,ρ[n]?=some p->ρ'[n]?=some p)
  (i:∀o,h.get? p.1=some o->h'.get? p.1=some o) (v:∀o,h.get? p.2=some o->h'.get? p.2=some o) (q:sz G hb h ρ x p):sz G hb h' ρ' x p:=by
 cases x with
 |a l=>obtain⟨e,vs,n,g,r⟩:=q;exact⟨e,vs,n,i _ g,dw.t j m _ _ r⟩
 |b l=>obtain⟨e,k,f,n,g,r⟩:=q;exact⟨e,k,f,n,i _ g,ER.o j m _ _ r⟩
 |d c w=>obtain⟨k,g,f,n,u,r⟩:=q;exact⟨k,i _ g,f,n,v _ u,FR.o j m _ _ r⟩
theorem eV.U(S:eV G hb h ρ μ)(k:∀b o,h.get? b=some o->h'.get? b=some o):eV G hb h' ρ μ:=
 ⟨S.u,λn o p a b=>(S.H n o p a b).b (λa vs g=>k _ _ g) (λJ J e=>e) (λo g=>k _ _ g) λo g=>k _ _ g,S.F,S.B,λb o g=>k _ _ (S.m b o g),S.L⟩
theorem bT.B(S:eV G hb s.heap ρ μ)(k:∀b o,s.heap.get? b=some o->h'.get? b=some o)(t:Nat)(a:s.toks<=t):bT G hb ρ s ρ μ {s with heap:=h',toks:=t}:=
 ⟨⟨[],by simp,λJ h=>nomatch h⟩,S.U k,λb o g J=>k b o g,rfl,rfl,a⟩
theorem bT.V(S:eV G hb s.heap ρ μ)(k:∀b o,s.heap.get? b=some o->h'.get? b=some o)(A:s.heap.get? p.1=none)(D:s.heap.get? p.2=none)
  (ho:sz G hb h' (ρ++[p]) x p) (t:Nat) (hk:s.toks<=t):bT G hb ρ s (ρ++[p]) (μ++[x]) {s with heap:=h',toks:=t}:=by
 refine⟨⟨[p],rfl,λq c=>by rw[bK] at c;refine fI c ?_;exact⟨A,D⟩⟩,⟨by simp[S.u],λn o q a b=>?_,λi j q r a b ne=>?_,λb o g=>?_,λb o g=>k _ _ (S.m b o g),S.L⟩,λb o g J=>k b o g,rfl,rfl,hk⟩
 ·by_cases P:n<μ.length
  ·replace a:=(aJ P)▸a
   rw[aJ (S.u▸P)] at b
   exact(S.H n o q a b).b (λa vs g=>k _ _ g) (λn p e=>kS n p e) (λo g=>k _ _ g) λo g=>k _ _ g
  ·rw[cq (aP P)] at a
   rw[cq (S.u▸(aP P)),S.u] at b
   have e:n - μ.length=0:=by
    have:=(ax.mp a).1
    simp at this;exact AZ this
   rw[e] at a b
   simp at a b
   subst a b
   exact ho
 ·have v:∀(n:Nat) (q:cK×cK),ρ[n]?=some q->(q.1≠p.1/\q.1≠p.2)/\q.2≠p.1/\q.2≠p.2:=λn q c=>by
   refine m8 (S.X (aU c)) λo1 o2 W Q=>?_
   refine⟨⟨?_,?_⟩,?_,?_⟩<;>intro e<;>first|(rw[e,A] at W;cases W)|(rw[e,D] at W;cases W)|(rw[e,A] at Q;cases Q)|(rw[e,D] at Q;cases Q)
  by_cases hi:i<ρ.length
  ·have a:=(aJ hi)▸a
   by_cases hj:j<ρ.length
   ·rw[aJ hj] at b
    exact S.F i j q r a b ne
   ·rw[cq (aP hj)] at b
    have e:j - ρ.length=0:=by have:=(ax.mp b).1;simp at this;exact AZ this
    rw[e] at b;simp at b;subst b
    have z:=v i q a
    exact⟨z.1.1,z.1.2,z.2.1,z.2.2⟩
  ·rw[cq (aP hi)] at a
   have e:i - ρ.length=0:=by have:=(ax.mp a).1;simp at this;exact AZ this
   rw[e] at a;simp at a;subst a
   by_cases hj:j<ρ.length
   ·rw[aJ hj] at b
    have z:=v j r b
    exact⟨cH z.1.1,cH z.2.1,cH z.1.2,cH z.2.2⟩
   ·exfalso
    have:=(ax.mp b).1
    simp at this;exact aas ne hi e hj this
 ·refine(S.B b o g).a λq c=>?_
  rw[bK] at c
  refine fI c ?_
  have T:=S.m b o g
  refine⟨?_,?_⟩<;>rintro rfl
  ·rw[A] at T;cases T
  ·rw[D] at T;cases T
theorem bT.H(S:eV G hb s.heap ρ μ)(k:ρ[n]?=some p)(r:a=p.1\/a=p.2)(i:fY a s.heap h')(T:sz G hb h' ρ x p)(t:Nat)(Q:s.toks<=t):
  bT G hb ρ s ρ (μ.set n x) {s with heap:=h',toks:=t}:=by
 have D:=aU k
 have v:∀b,Off ρ b->b≠a:=λb hb=>by
  rcases r with rfl|rfl
  ·exact(hb p D).1
  ·exact(hb p D).2
 refine⟨⟨[],by simp,λJ h=>nomatch h⟩,⟨by simp[S.u],λm o q a1 c=>?_,S.F,S.B,λb o g=>(i.2 b (v b (S.B b o g))).trans (S.m b o g),S.L⟩,λb o g A=>(i.2 b (v b A)).trans g,rfl,rfl,Q⟩
 by_cases hm:m=n
 ·subst hm
  have:=(ax.mp a1).1
  rw[fX] at this
  rw[cM this] at a1
  refine j8 a1 ?_
  replace c:=k▸c;refine j8 c ?_
  exact T
 ·rw[cV (cH hm)] at a1
  have j:=S.F m n q p c k hm
  refine(S.H m o q a1 c).b (λP vs g=>(i.2 P (v _ (S.z g rfl))).trans g) (λJ J e=>e) (λo g=>(i.2 _ ?_).trans g) λo g=>(i.2 _ ?_).trans g
  ·rcases r with rfl|rfl
   ·exact j.1
   ·exact j.2.1
  ·rcases r with rfl|rfl
   ·exact j.2.2.1
   ·exact j.2.2.2
end
section
variable{hb h:dO}{ρ:fj}
theorem dw.B:dw hb h ρ [] []:=rfl
theorem dw.o(a:VR hb h ρ x v)(b:dw hb h ρ l vs):dw hb h ρ (x::l) (v::vs):=⟨v,vs,rfl,a,b⟩
theorem dw.m(q:dw hb h ρ [] vs):vs=[]:=q
theorem dw.f(q:dw hb h ρ (x::l) vs):∃v r,vs=v::r/\VR hb h ρ x v/\dw hb h ρ l r:=q
theorem dw.g:∀{l:List MV} {vs:List aA},dw hb h ρ l vs->vs.length=l.length
 |[],_,q=>q.m▸rfl
 |_::_,_,q=>by refine dY q.f λv r z0 J b=>?_;refine fI z0 ?_;rw[eY,eY,b.g]
theorem dw.D:∀{l:List MV} {vs:List aA},dw hb h ρ l vs->∀{i:Nat} {x:MV},l[i]?=some x->∃v,vs[i]?=some v/\VR hb h ρ x v
 |[],_,_,i,x,e=>by simp at e
 |y::l,_,q,i,x,e=>by
  refine dY q.f λv r z0 a b=>?_
  refine fI z0 ?_
  cases i with
  |zero=>simp at e;subst e;exact⟨v,rfl,a⟩
  |succ j=>simp at e;refine cf (b.D e) λu c d=>?_;exact⟨u,by simpa using c,d⟩
theorem dw.H:∀{l e:List MV} {vs i:List aA},dw hb h ρ l vs->dw hb h ρ e i->dw hb h ρ (l++e) (vs++i)
 |[],_,_,_,a,b=>a.m▸b
 |_::_,_,_,_,a,b=>by refine dY a.f λv r z0 c d=>?_;refine fI z0 ?_;exact dw.o c (d.H b)
theorem dw.F:∀(n:Nat) {l:List MV} {vs:List aA},dw hb h ρ l vs->dw hb h ρ (l.take n) (vs.take n)
 |0,_,_,_=>by simpa using dw.B
 |n+1,[],_,a=>by rw[a.m];simpa using dw.B
 |n+1,_::_,_,a=>by refine dY a.f λv r z0 c d=>?_;refine fI z0 ?_;simpa using dw.o c (d.F n)
theorem dw.K:∀(n:Nat) {l:List MV} {vs:List aA},dw hb h ρ l vs->dw hb h ρ (l.drop n) (vs.drop n)
 |0,_,_,a=>by simpa using a
 |n+1,[],_,a=>by rw[a.m];simpa using dw.B
 |n+1,_::_,_,a=>by refine dY a.f λv r z0 c d=>?_;refine fI z0 ?_;simpa using d.K n
theorem dw.O:∀(n:Nat) {l:List MV} {vs:List aA} {x:MV} {v:aA},dw hb h ρ l vs->VR hb h ρ x v->dw hb h ρ (l.set n x) (vs.set n v)
 |_,[],_,_,_,a,_=>by rw[a.m];simpa using dw.B
 |0,_::_,_,_,_,a,b=>by refine dY a.f λv r z0 c d=>?_;subst z0;simpa using dw.o b d
 |n+1,_::_,_,_,_,a,b=>by refine dY a.f λv r e c d=>?_;subst e;simpa using dw.o c (d.O n b)
theorem dw.C(n:Nat)(a:VR hb h ρ x v):dw hb h ρ (br n x) (br n v):=by
 induction n with
 |zero=>exact dw.B
 |succ n b=>exact dw.o a b
theorem dw.L(a:dw hb h ρ l vs)(b:VR hb h ρ x v):dw hb h ρ (l++[x]) (vs++[v]):=a.H (dw.o b dw.B)
end
end
section
open PySem PySem.Calls PySem.W PyProof.Rows
open PySem Builtin
theorem qL:fillsNumberSlot (.type "tuple") "mul"=pure false:=
 PySem.fillsNumberSlot_seq (id:="tuple.__mul__") (r:=some (.builtin "tuple.__rmul__")) F.slot_tuple_mul.lookup (by decide+kernel) F.slot_tuple_rmul.lookup (by decide+kernel)
theorem wq:seqRepeat? (.type "tuple")=pure (some (.builtin "tuple.__mul__")):=by
 unfold seqRepeat?
 rw[OF (T:="tuple") (name:="__mul__") (id:="tuple.__mul__") F.slot_tuple_mul.lookup (by decide+kernel),OF (T:="tuple") (name:="__rmul__") (id:="tuple.__rmul__") F.slot_tuple_rmul.lookup (by decide+kernel)]
 rfl
theorem td(a:Int)(t:Tok)(l:cK)(vs:List aA):
  Meets (Builtin.«int.__rmul__» ⟨[.int a t,.ref l],[]⟩) (λJ R s=>s.heap.get? l=some (cn vs)/\R (.ok (.ret aA.notImplemented)) s):=
 .of_wp λprog w A R s h=>by obtain⟨b,g,d,c,os⟩:=s;obtain⟨e,h⟩:=h;wp_walk;exact⟨_,rfl,h⟩
theorem th(v:aA)(n:Nat):(br n (#[v]:Array aA)).foldl (λx1 x2=>x1++x2) #[]=(br n v).toArray:=by
 have key:∀(n:Nat) (a:List aA),(br n (#[v]:Array aA)).foldl (λx1 x2=>x1++x2) a.toArray=(a++br n v).toArray:=by
  intro n
  induction n with
  |zero=>intro a;simp
  |succ n b=>
   intro a
   rw[KV,List.foldl_cons,show a.toArray++#[v]=(a++[v]).toArray by simp,b,KV]
   simp
 simpa using key n []
theorem Fi(l:cK)(v:aA)(x:Int)(u:Tok)(a:0<=x/\x<=1000):
  Meets (Builtin.«tuple.__mul__» ⟨[.ref l,.int x u],[]⟩) (λJ R s=>s.heap.get? l=some (cn [v])/\
   ∀i h',(∀b o,s.heap.get? b=some o->h'.get? b=some o)->h'.get? i=some (cn (br x.toNat v))->R (.ok (.ret (.ref i))) {s with heap:=h'}):=
 .of_wp λprog w A R s h=>by
  obtain⟨k,g,d,m,os⟩:=s;obtain⟨c,h⟩:=h
  dsimp only at c h
  wp_walk
  refine jx (by simp;exact QO a) (aw (wpAny_tupleItemsOf c rfl ?_))
  by_cases j:x=1
  ·cases j
   refine FJ rfl ?_
   wp_walk
   exact⟨_,rfl,h l k (λJ J e=>e) c⟩
  ·refine jx (by simp[j]) ?_
   by_cases f:x<=0
   ·cases(Int.le_antisymm f a.1)
    refine FJ rfl ?_
    wp_walk
    exact⟨_,rfl,h _ _ (λb o e=>bg _ e) (bU _ rfl)⟩
   ·refine jx (by simp;exact(Int.not_le.mp f)) (jx (by simp;exact(gn a.2 (by decide))) (jx (by unfold Tuple.tupleTooMany;rw[d_];simp;exact abo a f) ?_))
    exact(th v x.toNat)▸(aw (wpAny_newTuple (aF ⟨_,rfl,h _ _ (λb o e=>bg _ e) (bU _ rfl)⟩) (oM▸d_▸(Int.toNat_le.mpr (gn a.2 (by decide))))))
end
section
open PySem PySem.Calls PySem.W PyProof.Rows
open PySem Builtin
inductive Ok (G:Cfg) (hb:dO) (ρ:fj) (s:az) (aG:Hp) (r:MV) (v:aA) (s':az):Prop
 |mk (ρ':fj) (p:bT G hb ρ s ρ' aG s') (q:VR hb s'.heap ρ' r v)
inductive yJ (G:Cfg) (hb:dO) (ρ:fj) (s:az) (aG:Hp) (s':az):Prop
 |mk (ρ':fj) (p:bT G hb ρ s ρ' aG s')
noncomputable abbrev no:aA->az->Prop:=λJ J=>False
section
variable{G:Cfg}{hb h:dO}{ρ:fj}{μ aG:Hp}{s:az}{prog:fu}{w:dW}{A:c_}
theorem UN(h:i.natAbs<2^64):Builtin.Int.intBits i<=64:=intBits_le_64 (aaU h) (cX Int.le_natAbs (cv.mpr h))
theorem Ok.j(S:eV G hb s.heap ρ μ)(i:Int)(t k:Nat)(a:s.toks<=k):Ok G hb ρ s μ (.c i) (.int i t) {s with toks:=k}:=⟨ρ,(bT.l S).u k a,⟨t,rfl⟩⟩
theorem Ok.B(S:eV G hb s.heap ρ μ)(b:Bool)(k:Nat)(a:s.toks<=k):Ok G hb ρ s μ (.h b) (.bool b) {s with toks:=k}:=⟨ρ,(bT.l S).u k a,rfl⟩
theorem Ok.u(S:eV G hb s.heap ρ μ)(x:List Nat)(t k:Nat)(a:s.toks<=k):Ok G hb ρ s μ (.g x) (.str ⟨x.toArray⟩ t) {s with toks:=k}:=⟨ρ,(bT.l S).u k a,⟨t,rfl⟩⟩
theorem fE(h:dO):h.get? h.objs.size=none:=tC λo q=>Nat.lt_irrefl _ (so q)
theorem An(e:ρ.length=μ.length):VR hb h (ρ++[p]) (.d μ.length) (.ref p.1):=⟨p,rfl,by rw[<-e];simp⟩
theorem Ok.y(S:eV G hb s.heap ρ μ)(q:dw hb s.heap ρ l vs)(k:Nat)(i:s.toks<=k):
  Ok G hb ρ s (μ++[.a l]) (.d μ.length) (.ref s.heap.objs.size) {s with heap:=s.heap.push (ee vs 0),toks:=k}:=by
 have kp:∀b o,s.heap.get? b=some o->(s.heap.push (ee vs 0)).get? b=some o:=λb o e=>bg _ e
 exact⟨_,bT.V (x:= .a l) (p:=(s.heap.objs.size,s.heap.objs.size)) S kp (fE _) (fE _) ⟨rfl,vs,0,bU _ rfl,dw.t (λa vs g=>kp _ _ g) (λn p e=>kS n p e) _ _ q⟩ k i,An S.u⟩
theorem eV.I(S:eV G hb h ρ μ)(c:μ[n]?=some (.a l))(q:VR hb h ρ (.d n) v):
  ∃p vs k,v= .ref p.1/\ρ[n]?=some p/\p.2=p.1/\h.get? p.1=some (ee vs k)/\dw hb h ρ l vs:=by
 refine cf q λp e b=>?_
 obtain⟨f,vs,k,g,r⟩:=S.H n _ p c b
 exact⟨p,vs,k,e,b,f,g,r⟩
theorem eV.R(S:eV G hb h ρ μ)(f:μ[n]?=some (.b l))(q:VR hb h ρ (.d n) v):
  ∃p a k,v= .ref p.1/\ρ[n]?=some p/\p.2=p.1/\rh l/\h.get? p.1=some (iG a k)/\ER G.w hb h ρ l a:=by
 refine cf q λp e c=>?_
 obtain⟨i,j,a,k,g,r⟩:=S.H n _ p f c
 exact⟨p,a,k,e,c,i,j,g,r⟩
theorem eV.V(S:eV G hb h ρ μ)(i:μ[n]?=some (.d c fs))(q:VR hb h ρ (.d n) v):
  ∃p b k,v= .ref p.1/\ρ[n]?=some p/\uD G.N fs/\h.get? p.1=some (mE c p.2)/\h.get? p.2=some (iG b k)/\FR G.a hb h ρ fs b:=by
 refine cf q λp e f=>?_
 obtain⟨o,g,b,k,j,r⟩:=S.H n _ p i f
 exact⟨p,b,k,e,f,o,g,j,r⟩
theorem gT(g:h.get? a=some (ee vs k)):h.IsList a vs.toArray:=⟨_,g,rfl,k,rfl⟩
theorem x5(g:h.get? a=some (cn vs)):IsTup h a vs.toArray:=⟨_,g,rfl,0,rfl⟩
theorem VR.c(q:VR hb h ρ (.c i) v):∃t,v= .int i t:=q
theorem VR.F(q:VR hb h ρ (.g x) v):∃t,v= .str ⟨x.toArray⟩ t:=q
theorem VR.I(q:VR hb h ρ (.h b) v):v= .bool b:=q
theorem VR.B(q:VR hb h ρ .f v):v= .none:=q
theorem VR.d(q:VR hb h ρ (.e l) v):∃a vs,v= .ref a/\h.get? a=some (cn vs)/\dw hb h ρ l vs:=q
section
variable{P:aA->Prop}{v:aA}{l:List MV}
theorem VR.f(q:VR hb h ρ (.c i) v)(k:∀t,P (.int i t)):P v:=by obtain⟨t,rfl⟩:=q.c;exact k t
theorem VR.H(q:VR hb h ρ (.g x) v)(k:∀t,P (.str ⟨x.toArray⟩ t)):P v:=by obtain⟨t,rfl⟩:=q.F;exact k t
theorem VR.N(q:VR hb h ρ (.h b) v)(k:P (.bool b)):P v:=by obtain rfl:=q.I;exact k
theorem VR.M(q:VR hb h ρ .f v)(k:P .none):P v:=by obtain rfl:=q.B;exact k
theorem VR.L(q:VR hb h ρ (.e l) v)(k:∀a vs,h.get? a=some (cn vs)->dw hb h ρ l vs->P (.ref a)):P v:=by refine dY q.d λa vs z0 g r=>?_;refine fI z0 ?_;exact k a vs g r
theorem dw.M{P:List aA->Prop}(q:dw hb h ρ (x::l) vs)(k:∀u r,VR hb h ρ x u->dw hb h ρ l r->P (u::r)):P vs:=by refine dY q.f λu r z0 a b=>?_;refine fI z0 ?_;exact k u r a b
theorem dw.N{P:List aA->Prop}(q:dw hb h ρ [] vs)(k:P []):P vs:=by obtain rfl:=q.m;exact k
theorem dw.I{P:List aA->Prop}(q:dw hb h ρ [x] vs)(k:∀u,VR hb h ρ x u->P [u]):P vs:=by refine dY q.f λu r z0 a b=>?_;refine fI z0 ?_;obtain rfl:=b.m;exact k u a
theorem eV.E(S:eV G hb h ρ μ)(e:μ[n]?=some (.a l))(q:VR hb h ρ (.d n) v)(k:∀p vs kk,ρ[n]?=some p->p.2=p.1->h.get? p.1=some (ee vs kk)->dw hb h ρ l vs->P (.ref p.1)):P v:=by
 refine ud (S.I e q) λp vs kk z0 a b c d=>?_
 refine fI z0 ?_;exact k p vs kk a b c d
theorem eV.Q(S:eV G hb h ρ μ){n:Nat}{l:List (MV×MV)}(g:μ[n]?=some (.b l))(q:VR hb h ρ (.d n) v)(k:∀p f kk,ρ[n]?=some p->p.2=p.1->rh l->h.get? p.1=some (iG f kk)->ER G.w hb h ρ l f->P (.ref p.1)):P v:=by
 refine Ej (S.R g q) λp vs kk z0 a b c d e=>?_
 refine fI z0 ?_;exact k p vs kk a b c d e
theorem eV.T(S:eV G hb h ρ μ)(g:μ[n]?=some (.d c fs))(q:VR hb h ρ (.d n) v)(k:∀p f kk,ρ[n]?=some p->uD G.N fs->h.get? p.1=some (mE c p.2)->h.get? p.2=some (iG f kk)->FR G.a hb h ρ fs f->P (.ref p.1)):P v:=by
 refine Ej (S.V g q) λp vs kk z0 a b c d e=>?_
 refine fI z0 ?_;exact k p vs kk a b c d e
end
theorem yS{Q:aA->az->Prop}(a:s.heap.get? l=some (ee vs n))(hb:s.heap.get? b=some (ee ws n2))
  (h:Q (.ref s.heap.objs.size) {s with heap:=s.heap.push (ee (vs++ws) 0)}) (hsz:vs.length+ws.length<=V4):
  aI (aH prog w) A (mU .Add (.ref l) (.ref b)) Q no s:=by
 refine concat_meets ⟨_,a,rfl⟩ ⟨_,hb,rfl⟩ noFill_list_add seq_list_add PySem.F.slot_list_add PySem.F.entry_list_add (PySem.F.args_list_add_2 _ _) (list_addW l b vs.toArray ws.toArray n n2 none none #[] #[] (by simpa using hsz)) ⟨a,hb,?_⟩
 exact(by simp:vs.toArray++ws.toArray=(vs++ws).toArray)▸h
theorem EP{Q:aA->az->Prop}(a:s.heap.get? l=some (ee [v] k))(b:0<=x/\x<=1000)
  (h:Q (.ref s.heap.objs.size) {s with heap:=s.heap.push (ee (br x.toNat v) 0)}):aI (aH prog w) A (mU .Mult (.ref l) (.int x u)) Q no s:=by
 refine F_ (T:="list") (U:="int") (by decide) ⟨_,a,rfl⟩ (λc=>FI c x u) noFill_list_mul F.fills_int_mul F.slot_int_rmul repeat_list F.slot_int_index.lookup
  (uz F.slot_int_rmul (FI s x u) F.entry_int_rmul (F.args_int_rmul_2 _ _) (int___rmul___int_list x u l _ k)
   ⟨a,rfl,⟨_,a,rfl⟩,uz F.slot_list_mul ⟨_,a,rfl⟩ F.entry_list_mul (F.args_list_mul_2 _ _)
    (AutoListH.list___mul___list_int_3 l _ k x u (by simp[Builtin.List.listFitsIndex];exact QO b) (by simp;exact aaT b) (by simp[Builtin.List.listTooLong,V4];exact aaS b))
    ⟨a,?_⟩⟩)
 exact(rfl:(if([v].toArray:Array aA).isEmpty=true then 0 else x.toNat)=x.toNat)▸(show([v].toArray:Array aA)=#[v] from rfl)▸(th v x.toNat)▸h
theorem Jw{Q:aA->az->Prop}(a:s.heap.get? l=some (cn [v]))(e:0<=x/\x<=1000)
  (h:∀c h',(∀b o,s.heap.get? b=some o->h'.get? b=some o)->h'.get? c=some (cn (br x.toNat v))->Q (.ref c) {s with heap:=h'}):aI (aH prog w) A (mU .Mult (.ref l) (.int x u)) Q no s:=by
 refine F_ (T:="tuple") (U:="int") (by decide) ⟨_,a,rfl⟩ (λd=>FI d x u) qL F.fills_int_mul F.slot_int_rmul wq F.slot_int_index.lookup
  (uz F.slot_int_rmul (FI s x u) F.entry_int_rmul (F.args_int_rmul_2 _ _) (td x u l _)
   ⟨a,rfl,⟨_,a,rfl⟩,uz F.slot_tuple_mul ⟨_,a,rfl⟩ F.entry_tuple_mul (F.args_tuple_mul_2 _ _) (Fi l v x u e) ⟨a,λc h' k g=>?_⟩⟩)
 exact h c h' k g
end
end
section
open PySem PySem.Calls PySem.W PyProof.Rows
open PySem Builtin
section
variable{G:Cfg}{hb h:dO}{ρ:fj}{μ aG:Hp}{s:az}{prog:fu}{w:dW}{A:c_}
theorem Ah(a b:List Nat):((⟨a.toArray⟩:Str)++(⟨b.toArray⟩:Str))=⟨(a++b).toArray⟩:=by
 show(⟨a.toArray++b.toArray⟩:Str)=_
 simp
theorem Gi(S:eV G hb s.heap ρ μ)(f:a.length+b.length<=bz):aI (aH prog w) A (mU .Add (.str ⟨a.toArray⟩ t) (.str ⟨b.toArray⟩ u)) (Ok G hb ρ s μ (.g (a++b))) no s:=by
 refine PySem.P.add_str ?_
 have e:(⟨a.toArray⟩:Str).length=a.length:=rfl
 have d:(⟨b.toArray⟩:Str).length=b.length:=rfl
 refine e▸d▸?_
 by_cases c:a.length=0
 ·have:a=[]:=eB.mp c
  refine fI this ?_
  simpa[Made.post] using Ok.u S b u s.toks (aC _)
 ·by_cases i:b.length=0
  ·have:b=[]:=eB.mp i
   refine fI this ?_
   simpa[Made.post,c] using Ok.u S a t s.toks (aC _)
  ·rw[if_neg (by simpa using c),if_neg (by simpa using i),Ah]
   refine⟨?_,Ok.u S _ _ _ (bc _ _)⟩
   rw[d_];show(a++b).toArray.size<=_;rw[b8,ly];unfold bz at f;exact aaY f e d
theorem adg{b:Type}{v:MV}{f:List Nat->Option b}{r:b}{a:Prop}(h:(match v with| .g y=>f y|_=>none)=some r)(k:∀y,v= .g y->f y=some r->a):a:=by
 cases v with
 |g y=>exact k y rfl h
 |_=>cases h
theorem lQ{f:Int->Int->Option Int}(e:Al f μ x y=some (r,aG))(j:VR hb s.heap ρ x v)(g:VR hb s.heap ρ y u)
  (k:∀a b z t t',f a b=some z->aI (aH prog w) A (mU o (.int a t) (.int b t')) (Ok G hb ρ s μ (.c z)) no s):aI (aH prog w) A (mU o v u) (Ok G hb ρ s aG r) no s:=
 im e λa d e=>im e λb i e=>mm e λz q e=>by
  refine ET e ?_;subst d i
  apply j.f λt=>?_
  apply g.f λt'=>?_
  exact k a b z t t' q
theorem Lp{x y r:MV}{v u:aA}(e:RZ μ x y=some (r,aG))(S:eV G hb s.heap ρ μ)(l:VR hb s.heap ρ x v)(o:VR hb s.heap ρ y u):aI (aH prog w) A (mU .Add v u) (Ok G hb ρ s aG r) no s:=by
 cases x with
 |c a=>
  refine im e λb h e=>?_
  refine qR e ?_;subst h
  apply l.f λt=>?_
  apply o.f λt'=>?_
  exact PyProof.Rows.add_int (Ok.j S _ _ _ (bc _ _))
 |g a=>
  refine adg e λb h e=>gm e λi e=>?_
  refine qR e ?_;subst h
  apply l.H λt=>?_
  apply o.H λt'=>?_
  exact Gi S i
 |d n=>
  exact lm e λn x h D e=>lm e λm y h' C e=>gm e λi e=>by
   refine qR e ?_;cases h;subst h'
   apply S.E D l λp vs k J J g q=>?_
   apply S.E C o λI L F J J B z=>?_
   exact yS g B (Ok.y S (q.H z) _ (aC _)) (by rw[q.g,z.g,d_];unfold bz at i;exact aaX i)
 |_=>cases e
theorem Nr(e:Va μ x y=some (r,aG))(S:eV G hb s.heap ρ μ)(o:VR hb s.heap ρ x v)(P:VR hb s.heap ρ y u):aI (aH prog w) A (mU .Mult v u) (Ok G hb ρ s aG r) no s:=
 by
  refine im e λk h q=>?_
  subst h
  clear e
  apply P.f λt'=>?_
  cases x with
  |c a=>exact gm q λb e=>by refine qR e ?_;apply o.f λt=>?_;exact PyProof.Rows.mul_int (Ok.j S _ _ _ (bc _ _)) (IntMulOk.of_left (UN b))
  |e l=>
   exact JN q λv h e=>gm e λb e=>by
    refine qR e ?_;subst h
    apply o.L λa vs g q=>?_
    refine dY q.f λM O z0 i z=>?_
    subst z0
    obtain rfl:=z.m
    refine Jw g b λF h' k D=>⟨ρ,bT.B S k s.toks (aC _),?_⟩
    exact⟨F,_,rfl,D,dw.C _ (VR.C (λa vs g=>k _ _ g) (λJ J e=>e) _ _ i)⟩
  |d n=>
   exact lm q λn x h N e=>JN e λv I e=>gm e λb e=>by
    cases e;cases h;subst I
    apply S.E N o λp vs kk J J g q=>?_
    refine dY q.f λM O H i z=>?_
    subst H
    obtain rfl:=z.m
    exact EP g b (Ok.y S (dw.C _ i) _ (aC _))
  |_=>cases q
theorem D4(d:LB o=some op)(e:dE μ op x y=some (r,aG))(S:eV G hb s.heap ρ μ)(g:VR hb s.heap ρ x v)(f:VR hb s.heap ρ y u):
  aI (aH prog w) A (mU o v u) (Ok G hb ρ s aG r) no s:=by
 cases o with
 |Add=>cases d;exact Lp e S g f
 |Mult=>cases d;exact Nr e S g f
 |Sub=>cases d;exact lQ e g f λa b z t t' h=>by cases h;exact PyProof.Rows.sub_int (Ok.j S _ _ _ (bc _ _))
 |FloorDiv=>cases d;exact lQ e g f λa b z t t' h=>gm h λc h=>by refine j8 h ?_;exact PyProof.Rows.floordiv_int c.1 (Ok.j S _ _ _ (bc _ _)) (Or.inl (PyProof.noPylong_small (aaH c)))
 |Mod=>cases d;exact lQ e g f λa b z t t' h=>gm h λc h=>by cases h;exact PyProof.Rows.mod_int' c (Ok.j S _ _ _ (bc _ _))
 |LShift=>cases d;exact lQ e g f λa b z t t' h=>gm h λc h=>by cases h;exact PyProof.Rows.lshift_int_small c.1 (aaG c) c.2.2 (Ok.j S _ _ _ (bc _ _))
 |RShift=>cases d;exact lQ e g f λa b z t t' h=>gm h λc h=>by cases h;exact PyProof.Rows.rshift_int c.1 (Ok.j S _ _ _ (bc _ _))
 |BitAnd=>cases d;exact lQ e g f λa b z t t' h=>by cases h;exact PyProof.Rows.and_int (Ok.j S _ _ _ (bc _ _))
 |_=>cases d
theorem d0{a:Prop}(h:bh n x=true)(k1:x= .f->a)(k2:∀i,x= .c i->a)(b:∀m l,n=m+1->x= .e l->(∀y∈l,bh m y=true)->a):a:=by
 cases x with
 |f=>exact k1 rfl
 |c i=>exact k2 i rfl
 |e l=>cases n with
  |zero=>cases h
  |succ n=>exact b n l rfl rfl (aT.mp h)
 |_=>cases n<;>cases h
mutual
noncomputable def p9:MV->PyData
 | .c i=> .int i
 | .e l=> .tuple (oJ l)
 |_=> .none
noncomputable def oJ:List MV->List PyData
 |[]=>[]
 |x::l=>p9 x::oJ l
end
theorem kU(c:∀(x:MV) (v:aA),bh n x=true->VR hb h ρ x v->∃as,Reads h v (p9 x) as):∀(x:List MV) (v:List aA),(∀y∈x,bh n y=true)->dw hb h ρ x v->∃as,ReadsAll h v (oJ x) as
 |[],v,_,q=>q.m▸(⟨_,ReadsAll.nil⟩)
 |x::l,v,k,q=>by
  refine dY q.f λu r z0 a b=>?_
  refine fI z0 ?_
  refine dG (c x u (k x (.head _)) a) λas z=>?_
  refine dG (kU c l r (λy d=>k y (.tail _ d)) b) λg e=>?_
  exact⟨_,ReadsAll.cons z e⟩
theorem lM:∀(n:Nat) (x:MV) (v:aA),bh n x=true->VR hb h ρ x v->∃as,Reads h v (p9 x) as:=λn=>by
 induction n with
 |zero=>exact λx v k q=>d0 k (λe=>by subst e;rw[q.B];exact⟨_,Reads.none⟩) (λi e=>by subst e;apply q.f λt=>?_;exact⟨_,Reads.int i t⟩) λm l e J J=>nomatch e
 |succ n c=>
  exact λx v k q=>d0 k (λe=>by subst e;rw[q.B];exact⟨_,Reads.none⟩) (λi e=>by subst e;apply q.f λt=>?_;exact⟨_,Reads.int i t⟩) λm l e d b=>by
   cases e;subst d
   apply q.L λa vs g r=>?_
   obtain⟨as,z⟩:=kU c l vs b r
   exact⟨as,reads_tuple_at g rfl rfl (by simpa using z)⟩
theorem qF(b:∀(x:MV),bh n x=true->(p9 x).canLay0=true/\(p9 x).depth<=n):∀(x:List MV),(∀y∈x,bh n y=true)->PyData.canLayAll0 (oJ x)=true/\PyData.depthAll (oJ x)<=n
 |[],_=>⟨rfl,b7 _⟩
 |x::l,k=>by
  have z:=b x (k x (.head _))
  have a:=qF b l λy c=>k y (.tail _ c)
  exact⟨aE.mpr ⟨z.1,a.1⟩,Nat.max_le.mpr ⟨z.2,a.2⟩⟩
theorem v8:∀(n:Nat) (x:MV),bh n x=true->(p9 x).canLay0=true/\(p9 x).depth<=n:=λn=>by
 induction n with
 |zero=>exact λx k=>d0 k (λe=>by subst e;exact⟨rfl,b7 _⟩) (λi e=>by subst e;exact⟨rfl,b7 _⟩) λm l e J J=>nomatch e
 |succ n b=>
  exact λx k=>d0 k (λe=>by subst e;exact⟨rfl,b7 _⟩) (λi e=>by subst e;exact⟨rfl,b7 _⟩) λm l e c a=>by
   cases e;subst c
   have z:=qF b l a
   exact⟨z.1,VX z.2⟩
theorem vN(d:∀(x y:MV),bh n x=true->bh n y=true->F9 (p9 x) (p9 y)=MV.k x y):∀(x y:List MV),(∀z∈x,bh n z=true)->(∀z∈y,bh n z=true)->VY (oJ x) (oJ y)=MV.o x y
 |[],[],_,_=>rfl
 |[],_::_,_,_=>rfl
 |_::_,[],_,_=>rfl
 |x::a,y::b,k,k'=>by
  show(F9 (p9 x) (p9 y)&&VY (oJ a) (oJ b))=(MV.k x y&&MV.o a b)
  rw[d x y (k x (.head _)) (k' y (.head _)),vN d a b (λy c=>k y (.tail _ c)) λy c=>k' y (.tail _ c)]
theorem zu:∀(n:Nat) (x y:MV),bh n x=true->bh n y=true->F9 (p9 x) (p9 y)=MV.k x y:=λn=>by
 induction n with
 |zero=>
  exact λx y k a=>d0 k (λe=>by subst e;exact d0 a (λe=>by subst e;rfl) (λi e=>by subst e;rfl) λm l e J J=>nomatch e)
   (λi e=>by subst e;exact d0 a (λe=>by subst e;rfl) (λi e=>by subst e;rfl) λm l e J J=>nomatch e) λm l e J J=>nomatch e
 |succ n f=>
  exact λx y k a=>d0 k (λe=>by subst e;exact d0 a (λe=>by subst e;rfl) (λi e=>by subst e;rfl) λm l J e J=>by subst e;rfl)
   (λi e=>by subst e;exact d0 a (λe=>by subst e;rfl) (λi e=>by subst e;rfl) λm l J e J=>by subst e;rfl) λm l e b d=>by
    cases e;refine fI b ?_
    exact d0 a (λe=>by subst e;rfl) (λi e=>by subst e;rfl) λm l e b c=>by cases e;refine fI b ?_;exact vN f _ _ d c
end
end
section
open PySem PySem.Calls PySem.W PyProof.Rows
open PySem Builtin
noncomputable def gF(s:az)(x:aA)(v:aA)(a:az):Prop:=v=x/\∃k,s.toks<=k/\a={s with toks:=k}
section
variable{G:Cfg}{hb h:dO}{ρ:fj}{μ aG:Hp}{s:az}{prog:fu}{w:dW}{A:c_}
theorem gF.c(s:az)(x:aA)(k:Nat)(b:s.toks<=k):gF s x x {s with toks:=k}:=⟨rfl,k,b,rfl⟩
theorem gF.a(s:az)(x:aA):gF s x x s:=⟨rfl,s.toks,aC _,rfl⟩
theorem wA(a b:List Nat):((⟨a.toArray⟩:Str)==⟨b.toArray⟩)=(a==b):=by
 by_cases h:a=b
 ·subst h;simp
 ·refine(beq_false_of_ne h)▸(beq_false_of_ne λe=>h ?_)
  injection e with e
  simpa using congrArg Ar e
theorem kW(a:∀y∈x,bh 8 y=true):rR (.list (oJ x))=true:=by
 have z:=qF (v8 8) x a
 unfold rR
 rw[bO]
 refine⟨by simp only[PyData.canLay0];exact z.1,decide_eq_true ?_⟩
 exact eK (VX z.2)
theorem mw(a:bh 8 x=true):rR (p9 x)=true:=by
 have z:=v8 8 x a
 unfold rR
 rw[bO]
 exact⟨z.1,decide_eq_true (eK z.2)⟩
theorem Bf(e:Ud μ x y=some r)(S:eV G hb s.heap ρ μ)(i:VR hb s.heap ρ x v)(B:VR hb s.heap ρ y u)(o:A.units+64<iy):
  aI (aH prog w) A (fR .Eq v u) (gF s (.bool r)) no s/\aI (aH prog w) A (fR .NotEq v u) (gF s (.bool (!r))) no s:=by
 have pl:∀{x},gd (bh 8 x&&bh 8 y) (some (MV.k x y))=some r->VR hb s.heap ρ x v->aI (aH prog w) A (fR .Eq v u) (gF s (.bool r)) no s/\aI (aH prog w) A (fR .NotEq v u) (gF s (.bool (!r))) no s:=λ{x} e i=>gm e λc e=>by
  refine j8 e ?_
  have c:=aE.mp c
  obtain⟨as,z⟩:=lM 8 x v c.1 i
  obtain⟨F,l⟩:=lM 8 y u c.2 B
  exact(zu 8 x y c.1 c.2)▸(⟨eq_dataH z l (mw c.1) (mw c.2) o (gF.a _ _),ne_dataH z l (mw c.1) (mw c.2) o (gF.a _ _)⟩)
 cases x with
 |g a=>
  refine adg e λb h e=>?_
  refine j8 e ?_;subst h
  apply i.H λt=>?_
  apply B.H λt'=>?_
  rw[<-wA]
  exact⟨PyProof.Rows.eq_str (gF.a _ _),PyProof.Rows.ne_str (gF.a _ _)⟩
 |d n=>
  refine lm e λn x h I e=>lm e λm y h' D e=>gm e λc e=>?_
  refine j8 e ?_;cases h;subst h'
  have c:=aE.mp c
  have k1:=aT.mp c.1
  have k2:=aT.mp c.2
  apply S.E I i λp vs k J J g q=>?_
  apply S.E D B λO M N J J C L=>?_
  obtain⟨as,z⟩:=kU (lM 8) x vs k1 q
  obtain⟨F,l⟩:=kU (lM 8) y M k2 L
  have f:=reads_list_at g rfl rfl (by simpa using z)
  have j:=reads_list_at C rfl rfl (by simpa using l)
  exact(vN (zu 8) x y k1 k2)▸(⟨eq_dataH f j (kW k1) (kW k2) o (gF.a _ _),ne_dataH f j (kW k1) (kW k2) o (gF.a _ _)⟩)
 |_=>exact pl e i
theorem B_(e:isV x y=some r)(S:eV G hb s.heap ρ μ)(j:VR hb s.heap ρ x v)(o:VR hb s.heap ρ y u):
  aI (aH prog w) A (fR .Is v u) (gF s (.bool r)) no s/\aI (aH prog w) A (fR .IsNot v u) (gF s (.bool (!r))) no s:=by
 obtain⟨rfl,e⟩:y= .f/\ab7 x=some r:=by cases y<;>first|exact⟨rfl,e⟩|cases e
 apply o.M
 have k:∀{v:aA},plainIs v .none=true->v≠ .none->some false=some r->aI (aH prog w) A (fR .Is v .none) (gF s (.bool r)) no s/\aI (aH prog w) A (fR .IsNot v .none) (gF s (.bool (!r))) no s:=λm h e=>by
  refine j8 e ?_
  exact⟨wpAny_is_other m h (gF.a _ _),wpAny_isNot_other m h (gF.a _ _)⟩
 cases x with
 |f=>refine j8 e ?_;apply j.M;exact⟨wpAny_is_self (by decide) (gF.a _ _),wpAny_isNot_plain (by decide) (gF.a _ _)⟩
 |h b=>apply j.N;exact k rfl nofun e
 |c i=>apply j.f λt=>?_;exact k rfl nofun e
 |g l=>apply j.H λt=>?_;exact k rfl nofun e
 |e l=>apply j.L λa vs J J=>?_;exact k rfl nofun e
 |d n=>unfold VR at j;obtain⟨p,rfl,_⟩:=j;exact k rfl nofun e
 |_=>cases e
theorem qW(e:ie x=some b)(a:VR hb s.heap ρ x v):aI (aH prog w) A (truthy v) (λc d=>c=b/\∃k,s.toks<=k/\d={s with toks:=k}) no s:=by
 cases x with
 |h b=>cases e;apply a.N;exact eU ⟨rfl,s.toks,aC _,rfl⟩
 |c i=>refine j8 e ?_;apply a.f λt=>?_;exact PyProof.Rows.truthy_int ⟨rfl,s.toks,aC _,rfl⟩
 |_=>cases e
end
end
section
open PySem PySem.Calls PySem.W PyProof.Rows
open PySem Builtin
mutual
theorem H9:∀{a b:MV},MV.k a b=true->a=b
 | .f,b,h=>by cases b with|f=>rfl|_=>exact ff h
 | .h x,b,h=>by cases b with|h y=>exact congrArg MV.h (eq_of_beq h)|_=>exact ff h
 | .c x,b,h=>by cases b with|c y=>exact congrArg MV.c (eq_of_beq h)|_=>exact ff h
 | .g x,b,h=>by cases b with|g y=>exact congrArg MV.g (eq_of_beq h)|_=>exact ff h
 | .e x,b,h=>by cases b with|e y=>exact congrArg MV.e (vM h)|_=>exact ff h
 | .d x,b,h=>by cases b with|d y=>exact congrArg MV.d (eq_of_beq h)|_=>exact ff h
 | .m x,b,h=>by cases b with|m y=>exact congrArg MV.m (eq_of_beq h)|_=>exact ff h
 | .j x t,b,h=>by cases b with|j y u=>exact congr (congrArg MV.j (eq_of_beq (aE.mp h).1)) (eq_of_beq (aE.mp h).2)|_=>exact ff h
theorem vM:∀{a b:List MV},MV.o a b=true->a=b
 |[],b,h=>by cases b with|nil=>rfl|cons _ _=>exact ff h
 |x::a,b,h=>by cases b with|nil=>exact ff h|cons y b=>exact congr (congrArg List.cons (H9 (aE.mp h).1)) (vM (aE.mp h).2)
theorem Bg:∀a:MV,MV.k a a=true
 | .f=>rfl
 | .h x=>beq_self_eq_true x
 | .c x=>beq_self_eq_true x
 | .g x=>beq_self_eq_true x
 | .e x=>sQ x
 | .d x=>beq_self_eq_true x
 | .m x=>beq_self_eq_true x
 | .j x t=>aE.mpr ⟨beq_self_eq_true x,beq_self_eq_true t⟩
theorem sQ:∀a:List MV,MV.o a a=true
 |[]=>rfl
 |x::a=>aE.mpr ⟨Bg x,sQ a⟩
end
theorem jr(a b:MV):MV.k a b=true↔a=b:=⟨H9,λh=>h▸Bg a⟩
theorem kq(a b:List MV):MV.o a b=true↔a=b:=⟨vM,λh=>h▸sQ a⟩
noncomputable instance decMV:DecidableEq MV:=λa b=>decidable_of_iff _ (jr a b)
section
variable{hb hb' h h':dO}{ρ ρ':fj}
theorem Ak(h:some (cn v)=some (cn u)):v=u:=by
 have:=congrArg Obj.data (ba h)
 simpa using congrArg Ar (by injection this:v.toArray=u.toArray)
theorem dw.inj(j:∀(x y:MV) (v:aA),bh n x=true->bh n y=true->VR hb h ρ x v->VR hb' h ρ' y v->x=y):∀(x y:List MV) (v:List aA),(∀z∈x,bh n z=true)->(∀z∈y,bh n z=true)->dw hb h ρ x v->dw hb' h ρ' y v->x=y
 |[],y,v,_,_,q,i=>by
  replace i:=q.m▸i
  cases y with
  |nil=>rfl
  |cons a b=>obtain⟨_,_,e,_⟩:=i.f;cases e
 |x::l,y,v,k,k',q,i=>by
  refine dY q.f λu r z0 a b=>?_
  subst z0
  cases y with
  |nil=>cases i.m
  |cons c d=>
   refine dY i.f λJ P e p G=>?_
   cases e
   rw[j x c u (k x (.head _)) (k' c (.head _)) a p,dw.inj j l d r (λz hz=>k z (.tail _ hz)) (λz hz=>k' z (.tail _ hz)) b G]
theorem VR.R(T:bh n x=true)(r:bh n y=true)(q:VR hb h ρ x v)(g:VR hb' h ρ' y v)(k:∀m a b,n=m+1->x= .e a->y= .e b->(∀z∈a,bh m z=true)->(∀z∈b,bh m z=true)->a=b):x=y:=by
 refine d0 T (λe=>?_) (λi e=>?_) λm l e o u=>?_
 ·subst e
  replace g:=q.B▸g
  exact d0 r (λe=>e.symm) (λj e=>by subst e;refine dG g.c λt e=>?_;cases e) λm l e o u=>by subst o;refine m8 g.d λa vs e J=>?_;cases e
 ·subst e
  refine dG q.c λt z0=>?_
  subst z0
  exact d0 r (λe=>by subst e;cases g.B) (λj e=>by subst e;refine dG g.c λt e=>?_;cases e;rfl) λm l e o u=>by subst o;refine m8 g.d λa vs e J=>?_;cases e
 ·subst o
  refine m8 q.d λa vs P J=>?_
  subst P
  exact d0 r (λe=>by subst e;cases g.B) (λj e=>by subst e;refine dG g.c λt e=>?_;cases e) λU D G o p=>by subst o;cases e;cases G;rw[k m l D rfl rfl rfl u p]
theorem VR.inj:∀(n:Nat) (x y:MV) (v:aA),bh n x=true->bh n y=true->VR hb h ρ x v->VR hb' h ρ' y v->x=y:=λn=>by
 induction n with
 |zero=>exact λx y v k l q i=>VR.R k l q i nofun
 |succ n D=>
  exact λx y v k l q i=>VR.R k l q i λm a b e t o G u=>by
   cases e;subst t o
   refine dY q.d λp vs z0 g r=>?_
   subst z0
   refine dY i.d λJ P e j z=>?_
   cases e
   replace j:=g▸j
   cases Ak j
   exact dw.inj D a b vs G u r z
theorem dw.R(c:∀(x:MV) (v:aA),bh n x=true->VR hb h ρ x v->VR hb' h ρ' x v):∀(x:List MV) (v:List aA),(∀z∈x,bh n z=true)->dw hb h ρ x v->dw hb' h ρ' x v
 |[],v,_,q=>q.m▸dw.B
 |x::l,v,k,q=>by
  refine dY q.f λu r z0 a b=>?_
  refine fI z0 ?_
  exact dw.o (c x u (k x (.head _)) a) (dw.R c l r (λz hz=>k z (.tail _ hz)) b)
theorem VR.O:∀(n:Nat) (x:MV) (v:aA),bh n x=true->VR hb h ρ x v->VR hb' h ρ' x v:=λn=>by
 induction n with
 |zero=>exact λx v k q=>d0 k (λe=>by subst e;unfold VR at q⊢;exact q) (λi e=>by subst e;unfold VR at q⊢;exact q) λm l e J J=>nomatch e
 |succ n j=>
  exact λx v k q=>d0 k (λe=>by subst e;unfold VR at q⊢;exact q) (λi e=>by subst e;unfold VR at q⊢;exact q) λm l e o b=>by
   cases e;subst o
   refine dY q.d λa vs z0 g r=>?_
   refine fI z0 ?_
   exact⟨a,vs,rfl,g,dw.R j l vs b r⟩
end
theorem pO(h:WB x=true):∃i,x= .c i:=by
 cases x with
 |c i=>exact⟨i,rfl⟩
 |_=>cases h
theorem Cg{g:Prop}(h:u9 x=true)(k1:∀a b,x= .e [.c a,.c b]->g)(k2:∀a b l,x= .e [.c a,.c b,.e l]->(∀y∈l,∃i,y= .c i)->g):g:=by
 cases x with
 |e l=>
  cases l with
  |nil=>cases h
  |cons a l=>cases l with
  |nil=>cases h
  |cons b l=>cases l with
  |nil=>
   obtain⟨d,f⟩:=aE.mp h
   obtain⟨i,rfl⟩:=pO d
   obtain⟨j,rfl⟩:=pO f
   exact k1 i j rfl
  |cons c l=>cases l with
  |cons _ _=>cases h
  |nil=>
   obtain⟨d,h⟩:=aE.mp h
   obtain⟨f,h⟩:=aE.mp h
   obtain⟨i,rfl⟩:=pO d
   obtain⟨j,rfl⟩:=pO f
   cases c with
   |e l=>exact k2 i j l rfl λy k=>pO (aT.mp h y k)
   |_=>cases h
 |_=>cases h
theorem v5(h:u9 x=true):∃l,x= .e l:=by cases x<;>first|exact⟨_,rfl⟩|cases h
theorem fN(d:u9 x=true):bh 2 x=true:=Cg d (λa b e=>by subst e;rfl) λa b l e h=>by
 subst e
 have:l.all (bh 0)=true:=aT.mpr λy c=>by obtain⟨i,rfl⟩:=h y c;rfl
 show(true&&(true&&(l.all (bh 0)&&true)))=true
 rw[this];rfl
section
variable{prog:fu}{w:dW}{A:c_}{E:aA->az->Prop}{s:az}
noncomputable def su(prog:fu)(w:dW)(m:Nat)(h:dO)(v:aA)(i:Int)(n:Nat):Prop:=
 ∀(A:c_) (E:aA->az->Prop) (s:az) (Q:Int->az->Prop),A.units+m<iy->s.heap=h->Q i {s with toks:=s.toks+n}->aI (aH prog w) A (pyHash v) Q E s
inductive jo (prog:fu) (w:dW) (m:Nat) (h:dO):List aA->List (Int×Nat)->Prop
 |b:jo prog w m h [] []
 |a {v i n vs hs}:su prog w m h v i n->jo prog w m h vs hs->jo prog w m h (v::vs) ((i,n)::hs)
theorem kz(m:Nat)(h:dO)(i:Int)(t:Tok):su prog w m h (.int i t) (wJ i) 1:=λA E s Q J J q=>wpAny_pyHash_int q
theorem jo.c{d:Prop}(H:jo prog w m h (x::vs) hs)(k:∀i n r,hs=(i,n)::r->su prog w m h x i n->jo prog w m h vs r->d):d:=by
 cases H with
 |a e f=>exact k _ _ _ rfl e f
theorem oU(D:h.get? a=some (cn vs))(H:jo prog w m h vs hs)(A:c_)(E:aA->az->Prop)(s:az)(Q:Int->az->Prop)
  (y:A.units+(m+1)<iy) (N:s.heap=h) (h':Q (uA (cF (hs.map (·.1)))) {s with toks:=s.toks+((hs.map (·.2)).sum+1)}):aI (aH prog w) A (pyHash (.ref a)) Q E s:=by
 subst N
 have o:s.TypeIs (.ref a) "tuple":=⟨_,D,rfl⟩
 refine aw (wpAny_cRoomFor_or (.inr (aaE y)) (aw (jy o F.slot_tuple_hash.lookup ?_)))
 rw[if_neg (by rw[yG];exact rE)]
 refine aw (jy o F.slot_tuple_hash.lookup (aw (wpAny_callSpecialIfBoundUnlessNone?_slot o F.slot_tuple_hash (eM F.slot_tuple_hash o F.entry_tuple_hash ?_ (F.args_tuple_hash_1 _)))))
 show aI _ _ (Builtin.Tuple.tupleItemsOf (.ref a)>>=_) _ _ s
 refine aw (wpAny_tupleItemsOf D rfl (aw ?_))
 rw[<-KQ]
 refine wpAny_forIn_list _
  (λd (b:Array Int) e=>∀W:Prop,(∀t l r,hs.map (·.1)=b.toList++l.map (·.1)->(hs.map (·.2)).sum=t+(l.map (·.2)).sum->jo prog w m s.heap d l->e={s with toks:=s.toks+t}->r=0->W)->W)
  _ (λx d b e I=>I _ λt l r q u v j J=>v.c λi n L g M p=>?_) (λb e I=>I _ λt l r q u v j J=>?_) _ _ λW k=>k 0 hs 0 rfl (cP _).symm H rfl rfl
 ·have B:∀W:Prop,(∀C l r,hs.map (·.1)=(b.push i).toList++l.map (·.1)->(hs.map (·.2)).sum=C+(l.map (·.2)).sum->jo prog w m s.heap d l->({e with toks:=e.toks+n}:az)={s with toks:=s.toks+C}->r=0->W)->W:=λW k=>k (t+n) L 0 (by rw[q,g];simp) (by rw[u,g];simp[Av]) p (by rw[j];simp[Av]) rfl
  refine aw (M _ _ _ _ (by simp;exact aaD y) (by rw[j]) ?_)
  first
   |exact aF B
   |exact aw (aF (aF B))
 ·have g:l=[]:=by cases v;rfl
  show aI _ _ (retInt (cF b.toList)) _ _ _
  have G:b.toList=hs.map (·.1):=by rw[q,g];simp
  refine G▸(wpAny_ret_mkInt ?_)
  have f:Q (uA (cF (hs.map (·.1)))) {e with toks:=e.toks+1}:=by rw[j];rw[u,g] at h';exact h'
  show aI _ _ (if(decide (-(2:Int)^63<=cF (hs.map (·.1)))&&decide (cF (hs.map (·.1))<2^63))=true then _ else _) Q E _
  unfold uA at f
  by_cases z:(decide (-(2:Int)^63<=cF (hs.map (·.1)))&&decide (cF (hs.map (·.1))<2^63))=true
  ·rw[if_pos z] at f⊢
   exact aF f
  ·rw[if_neg z] at f⊢
   exact aw (FL (aF f))
theorem pM:∀{l:List MV} {vs:List aA},(∀x∈l,∃i,x= .c i)->dw hb h ρ l vs->
  jo prog w m h vs (l.map λx=>(match x with| .c i=>wJ i|_=>0,1))
 |[],vs,_,q=>q.m▸ .b
 |x::l,vs,k,q=>by
  refine dY q.f λv r z0 a b=>?_
  refine fI z0 ?_
  refine dG (k x (.head _)) λi e=>?_
  subst e
  refine dG a.c λt g=>?_
  refine fI g ?_
  exact .a (kz m h i t) (pM (λy d=>k y (.tail _ d)) b)
noncomputable def sf(prog:fu)(w:dW)(n:Nat)(h:dO)(v:aA):Prop:=∀(A:c_) (E:aA->az->Prop) (s:az) (Q:Bool->az->Prop),s.heap=h->Q true s->aI (aH prog w) A (eqIsQuiet n v) Q E s
theorem lK(n:Nat)(h:dO)(i:Int)(t:Tok):sf prog w n h (.int i t):=λA E s Q J q=>by
 rw[eqIsQuiet_byValue n rfl];exact aF q
theorem qN(g:h.get? a=some (cn vs))(H:∀v∈vs,sf prog w n h v):sf prog w (n+1) h (.ref a):=by
 intro A E s Q i h'
 subst i
 have f:s.TypeIs (.ref a) "tuple":=⟨_,g,rfl⟩
 unfold eqIsQuiet
 refine aw (jy f F.slot_tuple_eq.lookup ?_)
 refine aw (wpAny_isInstance f isSubtype_tuple_tuple ?_)
 refine aw (wpAny_seqItems g rfl ?_)
 refine aw ?_
 rw[<-KQ]
 refine wpAny_forIn_list _ (λb r c=>r.1=none/\c=s/\∀v∈b,sf prog w n s.heap v) _ ?_ ?_ _ _ ⟨rfl,rfl,by simpa using H⟩
 ·rintro v b r c ⟨e,rfl,Mm⟩
  refine aw (Mm v gY _ _ _ _ rfl ?_)
  exact aF ⟨rfl,rfl,λu d=>Mm u (fh _ d)⟩
 ·rintro ⟨k,j⟩ c ⟨e,rfl,_⟩
  simp only at e
  subst e
  exact aF h'
end
theorem yz:∀l:List MV,(l.map λJ=>1).sum=l.length
 |[]=>rfl
 |_::l=>by rw[dX,List.sum_cons,yz l,eY];exact aaC
noncomputable def yq:MV->Nat
 | .e l=>(match l with|[_,_]=>3|[_,_,c]=>(match c with| .e l=>l.length+4|_=>0)|_=>0)
 |_=>0
noncomputable def sA(h:dO)(x:MV)(a:cK):Prop:=u9 x=true/\VR h h [] x (.ref a)
theorem C7{p:Prop}(C:sA h x a)(k1:∀i j o n,x= .e [.c i,.c j]->h.get? a=some (cn [.int i o,.int j n])->p)
  (k2:∀i j l o n c ws,x= .e [.c i,.c j,.e l]->(∀y∈l,∃i,y= .c i)->h.get? a=some (cn [.int i o,.int j n,.ref c])->h.get? c=some (cn ws)->dw h h [] l ws->p):p:=by
 obtain⟨k,q⟩:=C
 refine Cg k (λi j e=>?_) λi j l e H=>?_<;>subst e<;>clear k<;>obtain⟨b,vs,e,g,r⟩:=q.d<;>cases e<;>clear q<;>
  obtain⟨O,M,rfl,u,z⟩:=r.f<;>obtain⟨o,rfl⟩:=u.c<;>obtain⟨N,Q,rfl,B,t⟩:=z.f<;>obtain⟨n,rfl⟩:=B.c
 ·obtain rfl:=t.m
  exact k1 i j o n rfl g
 ·refine dY t.f λL P I v J=>?_
  subst I
  obtain rfl:=J.m
  refine dY v.d λc ws G F D=>?_
  subst G
  exact k2 i j l o n c ws rfl H g F D
theorem xN{E:aA->az->Prop}{Q:Int->az->Prop}(f:A.units+64<iy)(r:sA s.heap k a)(h:Q (ic w k) {s with toks:=s.toks+yq k}):aI (aH prog w) A (pyHash (.ref a)) Q E s:=by
 refine C7 r (λi j B t e g=>?_) λi j l B t c ws e o g v n=>?_<;>subst e
 ·exact oU g (.a (kz 0 _ _ _) (.a (kz _ _ _ _) .b)) A E s Q (aaB f) rfl h
 ·refine oU g (.a (kz _ _ _ _) (.a (kz _ _ _ _) (.a (λy z p C d u q=>oU v (pM (m:=0) (l:=l) o n) y z p C (aaA d) u q) .b))) A E s Q (aaz f) rfl ?_
  simp only[dX,ju,List.sum_cons,List.sum_nil,nX]
  exact(rfl:((λx:Int×Nat=>x.2)∘λx:MV=>((match x with| .c i=>wJ i|_=>0:Int),1))=λJ=>1)▸(yz l)▸(show s.toks+(1+(1+(l.length+1+0))+1)=s.toks+(l.length+4) from aay)▸h
theorem EY{E:aA->az->Prop}{Q:Bool->az->Prop}(r:sA s.heap k a)(h:Q true s):aI (aH prog w) A (eqIsQuiet 8 (.ref a)) Q E s:=by
 refine C7 r (λi j B y e g=>?_) λi j l B y c ws e q g x m=>?_
 ·refine qN (n:=7) g (λv b=>?_) A E s Q rfl h
  rcases cw.mp b with rfl|b
  ·exact lK _ _ _ _
  ·rw[bK] at b;subst b;exact lK _ _ _ _
 ·refine qN (n:=7) g (λv b=>?_) A E s Q rfl h
  rcases cw.mp b with rfl|b
  ·exact lK _ _ _ _
  rcases cw.mp b with rfl|b
  ·exact lK _ _ _ _
  rw[bK] at b;refine fI b ?_
  refine qN (n:=6) x λv b=>?_
  refine dG (jS.mp b) λn f=>?_
  have p:=m.g▸((ax.mp f).1)
  refine cf (m.D (aN p)) λu o d=>?_
  rw[f] at o;cases o
  refine dG (q _ (iJ p)) λz hz=>?_
  replace d:=hz▸d
  refine dG d.c λt z0=>?_
  refine fI z0 ?_
  exact lK _ _ _ _
theorem Ug{E:aA->az->Prop}{Q:Bool->az->Prop}(j:A.units+64<iy)(c:sA s.heap x a)(d:sA s.heap y b)(h:Q (decide (x=y)) s):aI (aH prog w) A (eqBool (.ref a) (.ref b)) Q E s:=by
 obtain⟨as,i⟩:=lM 2 x _ (fN c.1) c.2
 obtain⟨g,f⟩:=lM 2 y _ (fN d.1) d.2
 have la:=v8 2 x (fN c.1)
 have e:=v8 2 y (fN d.1)
 refine SeqAt.eqBoolOverData prog w A E s (.ref a) (.ref b) _ _ as g Q i f la.1 e.1 (by have l:=la.2;omega) ?_
 rw[zu 2 x y (fN c.1) (fN d.1)]
 rw[show MV.k x y=decide (x=y) from Bool.eq_iff_iff.mpr ((jr x y).trans decide_eq_true_iff.symm)]
 exact h
noncomputable def wu(prog:fu)(w:dW):HeapKind prog w MV where
 is:=sA
 hash:=ic w
 draws:=yq
 room:=λA=>A.units+64<iy
 inj:=λc b=>VR.inj 2 _ _ _ (fN c.1) (fN b.1) c.2 b.2
 keeps:=λ{h h' k a d o es ep} x ho hd hs=>⟨x.1,VR.O 2 _ _ (fN x.1) (hb:=h) (ρ:=[]) (VR.C (λa vs g=>by
  refine(hs.2 a ?_).trans g
  rintro rfl
  rw[ho] at g;cases g;cases hd) (λJ J e=>e) _ _ x.2)⟩
 pyHash:=xN
 eqBool:=Ug
 quiet:=EY
end
section
open PySem PySem.Calls PySem.W PyProof.Rows
open PySem Builtin
noncomputable def jP(l:List (MV×MV))(k:MV):Option Nat:=l.findIdx? λp=>MV.k p.1 k
theorem nM:∀(l:List (MV×MV)) (k:MV),cR l k=(jP l k).bind λi=>(l[i]?).map (·.2)
 |[],k=>rfl
 |(a,v)::r,k=>by
  unfold cR jP
  rw[gX]
  cases h:MV.k a k with
  |true=>simp
  |false=>
   rw[nM r k]
   unfold jP
   cases q8 (λp=>MV.k p.1 k) r<;>simp
theorem nP:∀(l:List (MV×MV)) (k v:MV),iT l k v=match jP l k with
  |some i=>l.modify i λp=>(p.1,v)
  |none=>l++[(k,v)]
 |[],k,v=>rfl
 |(a,x)::r,k,v=>by
  unfold iT jP
  refine gX▸?_
  cases h:MV.k a k with
  |true=>simp
  |false=>
   rw[nP r k v]
   unfold jP
   cases q8 (λp=>MV.k p.1 k) r<;>simp
theorem qo:∀(l:List (MV×MV)) (k:MV),vK l k=match jP l k with
  |some i=>l.eraseIdx i
  |none=>l
 |[],k=>rfl
 |(a,x)::r,k=>by
  unfold vK jP
  rw[gX]
  cases h:MV.k a k with
  |true=>simp
  |false=>
   rw[qo r k]
   unfold jP
   cases q8 (λp=>MV.k p.1 k) r<;>simp
section
variable{w:dW}{hb h:dO}{ρ:fj}
theorem ER.f(q:ER w hb h ρ (p::l) es):
 ∃e r,es=e::r/\(VR hb h ρ p.1 e.key/\e.hash=ic w p.1/\VR hb h ρ p.2 e.val)/\ER w hb h ρ l r:=q
theorem ER.g(q:ER w hb h ρ [] es):es=[]:=q
theorem ER.t:ER w hb h ρ [] []:=rfl
theorem ER.m(a:VR hb h ρ p.1 e.key)(b:e.hash=ic w p.1)(c:VR hb h ρ p.2 e.val)(d:ER w hb h ρ l r):ER w hb h ρ (p::l) (e::r):=⟨e,r,rfl,⟨a,b,c⟩,d⟩
theorem ER.B:∀{l:List (MV×MV)} {a:List cx},ER w hb h ρ l a->a.length=l.length
 |[],_,q=>q.g▸rfl
 |_::_,_,q=>by refine dY q.f λe r z0 J b=>?_;refine fI z0 ?_;rw[eY,eY,b.B]
theorem ER.C:∀{l:List (MV×MV)} {c:List cx},ER w hb h ρ l c->∀{i:Nat} {p:MV×MV},l[i]?=some p->∃e,c[i]?=some e/\VR hb h ρ p.1 e.key/\e.hash=ic w p.1/\VR hb h ρ p.2 e.val
 |[],_,_,i,p,x=>by simp at x
 |_::_,_,q,i,p,x=>by
  refine dY q.f λe r z0 a b=>?_
  refine fI z0 ?_
  cases i with
  |zero=>simp at x;subst x;exact⟨e,rfl,a⟩
  |succ j=>simp at x;refine cf (b.C x) λu d k=>?_;exact⟨u,by simpa using d,k⟩
theorem ER.H:∀{l:List (MV×MV)} {c:List cx},ER w hb h ρ l c->∀{e:cx},e∈c->∃p∈l,VR hb h ρ p.1 e.key/\e.hash=ic w p.1
 |[],_,q,e,he=>by rw[q.g] at he;cases he
 |p::_,_,q,e,he=>by
  refine dY q.f λk r z0 a b=>?_
  subst z0
  rcases cw.mp he with rfl|he
  ·exact⟨p,.head _,a.1,a.2.1⟩
  ·refine cf (b.H he) λd j i=>?_;exact⟨d,.tail _ j,i⟩
theorem ER.D:∀(i:Nat) {l:List (MV×MV)} {c:List cx} {x:MV} {v:aA},ER w hb h ρ l c->VR hb h ρ x v->ER w hb h ρ (l.modify i λp=>(p.1,x)) (c.modify i λe=>{e with val:=v})
 |_,[],_,_,_,q,_=>by rw[q.g];simpa using ER.t
 |0,p::_,_,x,v,q,z=>by refine dY q.f λe r z0 a b=>?_;subst z0;simpa using ER.m (w:=w) (hb:=hb) (h:=h) (ρ:=ρ) (p:=(p.1,x)) (e:={e with val:=v}) a.1 a.2.1 z b
 |i+1,p::_,_,_,_,q,z=>by refine dY q.f λe r d a b=>?_;subst d;simpa using ER.m a.1 a.2.1 a.2.2 (ER.D i b z)
theorem ER.F:∀(i:Nat) {l:List (MV×MV)} {c:List cx},ER w hb h ρ l c->ER w hb h ρ (l.eraseIdx i) (c.eraseIdx i)
 |_,[],_,q=>by rw[q.g];simpa using ER.t
 |0,p::_,_,q=>by refine dY q.f λe r z0 a b=>?_;subst z0;simpa using b
 |i+1,p::_,_,q=>by refine dY q.f λe r d a b=>?_;subst d;simpa using ER.m a.1 a.2.1 a.2.2 (ER.F i b)
theorem ER.K:∀{l:List (MV×MV)} {i:List cx} {p:MV×MV} {e:cx},ER w hb h ρ l i->VR hb h ρ p.1 e.key->e.hash=ic w p.1->VR hb h ρ p.2 e.val->ER w hb h ρ (l++[p]) (i++[e])
 |[],_,_,_,q,a,b,c=>by rw[q.g];exact ER.m a b c ER.t
 |_::_,_,_,_,q,a,b,c=>by refine dY q.f λe r z0 d j=>?_;refine fI z0 ?_;exact ER.m d.1 d.2.1 d.2.2 (j.K a b c)
theorem ER.I(P:cx->Bool)(k:MV):∀{l:List (MV×MV)} {c:List cx},ER w hb h ρ l c->(∀p∈l,∀e,VR hb h ρ p.1 e.key->P e=MV.k p.1 k)->c.findIdx? P=jP l k
 |[],_,q,_=>q.g▸rfl
 |p::_,_,q,z=>by
  refine dY q.f λe r z0 a b=>?_
  refine fI z0 ?_
  unfold jP
  rw[gX,gX,z p (.head _) e a.1]
  have:=b.I P k λp d=>z p (.tail _ d)
  unfold jP at this
  rw[this]
end
theorem EI(c:(l.map (·.1)).Nodup)(h:l[i]?=some (k,v)):jP l k=some i:=by
 obtain⟨b,d⟩:=ax.mp h
 refine rP.mpr ⟨b,d▸((jr _ _).mpr rfl),λj hj=>?_⟩
 intro e
 have e:=(jr _ _).mp e
 have a:(l.map (·.1))[j]?=some k:=by rw[aL,aN (aaF b hj)];simp[e]
 have:=(Oz (ax.mp a).1 c).mp (a.trans (by rw[aL,h];rfl:(l.map (·.1))[i]?=some k).symm)
 exact xn hj this
theorem EH(h:∀(i:Nat) v,l[i]?≠some (k,v)):jP l k=none:=by
 refine yD.mpr λp a=>?_
 obtain⟨i,b⟩:=jS.mp a
 refine Ov.mpr λe=>?_
 exact h i p.2 (b▸((jr _ _).mp e)▸rfl)
theorem tj(h:jP l k=some i):∃v,l[i]?=some (k,v):=by
 obtain⟨a,b,_⟩:=rP.mp h
 exact⟨l[i].2,by rw[aN a,<-(jr _ _).mp b]⟩
theorem gH:(eE k=1->∃i,k= .c i)/\(eE k=2->∃x,k= .g x)/\(eE k=3->u9 k=true):=by
 cases k with
 |c i=>exact⟨λJ=>⟨i,rfl⟩,nofun,nofun⟩
 |g x=>exact⟨nofun,λJ=>⟨x,rfl⟩,nofun⟩
 |e l=>show(cond (uj l) 3 0=1->_)/\(cond (uj l) 3 0=2->_)/\(cond (uj l) 3 0=3->uj l=true);cases uj l<;>exact⟨nofun,nofun,λJ=>by first|rfl|contradiction⟩
 |_=>exact⟨nofun,nofun,nofun⟩
theorem ti(k:MV):eE k=0\/eE k=1\/eE k=2\/eE k=3:=by
 cases k with
 |c i=>exact .inr (.inl rfl)
 |g x=>exact .inr (.inr (.inl rfl))
 |e l=>show cond (uj l) 3 0=0\/_\/_\/cond (uj l) 3 0=3;cases uj l<;>first|exact .inl rfl|exact .inr (.inr (.inr rfl))
 |_=>exact .inl rfl
section
variable{G:Cfg}{hb:dO}{ρ:fj}{s:az}{prog:fu}{A:c_}{E:aA->az->Prop}
theorem oV(h:eL l k=true):eE k≠0/\∀p∈l,eE p.1=eE k:=by
 unfold eL at h
 simp only[bO,bne_iff_ne,ne_eq,aT,beq_iff_eq] at h
 exact h
theorem tG{Q:Int->az->Prop}(a:eE k≠0)(b:VR hb s.heap ρ k key)(f:A.units+64<iy)(h:∀t,s.toks<=t->Q (ic w k) {s with toks:=t}):
  aI (aH prog w) A (pyHash key) Q E s:=by
 rcases ti k with e|e|e|e
 ·exact absurd e a
 ·obtain⟨i,rfl⟩:=gH.1 e
  obtain⟨t,rfl⟩:=b.c
  exact wpAny_pyHash_int (h _ (cN _))
 ·obtain⟨x,rfl⟩:=gH.2.1 e
  obtain⟨t,rfl⟩:=b.F
  exact wpAny_pyHash_str (h _ (cN _))
 ·have a:=gH.2.2 e
  obtain⟨l,rfl⟩:=v5 a
  refine m8 b.d λc vs g J=>?_
  subst g
  exact xN f ⟨a,VR.O (hb':=s.heap) (ρ':=[]) 2 _ _ (fN a) b⟩ (h _ (bc _ _))
theorem pE{Q:Option Nat->az->Prop}(R:s.heap.get? d=some (iG D n))(L:ER w hb s.heap ρ l D)(W:(l.map (·.1)).Nodup)
  (X:eL l k=true) (N:VR hb s.heap ρ k key) (hu:A.units+64<iy) (h:Q (jP l k) s):aI (aH prog w) A (dictFind d key (ic w k)) Q E s:=by
 refine ir (oV X) λM B=>?_
 rcases ti k with e|e|e|e
 ·exact absurd e M
 ·refine dG (gH.1 e) λi z0=>?_
  subst z0
  refine dG N.c λt z1=>?_
  subst z1
  have o:∀p∈l,∃j,p.1= .c j:=λp m=>gH.1 ((B p m).trans e)
  refine wpAny_dictFind_of (knd:=intKind prog w) (k:=i) (by simp[intKind,aA.isInt]) R rfl (λen T=>?_) ?_
  ·refine pH (L.H (by simpa using T)) λp m u C=>?_
   refine dG (o p m) λj hj=>?_
   rw[hj] at u C
   refine dG u.c λt' u=>?_
   exact⟨j,by rw[u];simp[intKind,aA.isInt],C⟩
  ·rw[Ft,L.I _ (.c i) λp m en y=>?_]
   ·exact h
   ·refine dG (o p m) λj hj=>?_
    rw[hj] at y⊢
    refine dG y.c λt' y=>?_
    rw[y]
    rfl
 ·refine dG (gH.2.1 e) λx z2=>?_
  subst z2
  refine dG N.F λt Z=>?_
  refine fI Z ?_
  have o:∀p∈l,∃j,p.1= .g j:=λp m=>gH.2.1 ((B p m).trans e)
  refine wpAny_dictFind_of (knd:=PySem.strKind prog w) (k:=⟨x.toArray⟩) (strKind_is prog w _ _) R rfl (λen T=>?_) ?_
  ·refine pH (L.H (by simpa using T)) λp m u C=>?_
   refine dG (o p m) λj hj=>?_
   rw[hj] at u C
   refine dG u.F λt' u=>?_
   exact⟨⟨j.toArray⟩,u▸(strKind_is prog w _ _),C⟩
  ·rw[Ft,L.I _ (.g x) λp m en y=>?_]
   ·exact h
   ·refine dG (o p m) λj hj=>?_
    rw[hj] at y⊢
    refine dG y.F λt' y=>?_
    exact y▸(wA j x)
 ·have M:=gH.2.2 e
  have build:∀{l:List (MV×MV)} {D:List cx},ER w hb s.heap ρ l D->(∀p∈l,u9 p.1=true)->
    ∃xs:List (MV×cK×aA),D=xs.map (entryOfKey (wu prog w))/\(∀x∈xs,sA s.heap x.1 x.2.1)/\xs.map (·.1)=l.map (·.1):=by
   intro l
   induction l with
   |nil=>intro D q _;exact⟨[],q.g▸rfl,by simp,rfl⟩
   |cons p l ih=>
    intro D q z
    refine dY q.f λen r Y a b=>?_
    refine fI Y ?_
    refine pH (ih b λp m=>z p (.tail _ m)) λxs u C h3=>?_
    have kp:=z p (.head _)
    have m:=VR.O (hb':=s.heap) (ρ':=[]) 2 _ _ (fN kp) a.1
    obtain⟨c,P⟩:∃c,en.key= .ref c:=by
     refine dG (v5 kp) λl' e'=>?_
     have:=a.1;rw[e'] at this;refine m8 this.d λc vs h J=>?_;exact⟨c,h⟩
    refine⟨(p.1,c,en.val)::xs,?_,λx U=>?_,by simp[h3]⟩
    ·obtain⟨hh,kk,vv⟩:=en
     dsimp only at a P
     rw[dX,<-u,P]
     simp only[entryOfKey,wu]
     rw[<-a.2.1]
    ·rcases cw.mp U with rfl|U
     ·exact⟨kp,P▸m⟩
     ·exact C x U
  refine pH (build L λp m=>gH.2.2 ((B p m).trans e)) λxs e1 e2 V=>?_
  have m:=VR.O (hb':=s.heap) (ρ':=[]) 2 _ _ (fN M) N
  obtain⟨c,rfl⟩:∃c,key= .ref c:=by
   refine dG (v5 M) λl' z5=>?_
   subst z5
   refine m8 N.d λc vs h J=>?_;exact⟨c,h⟩
  have at_:∀(j:Nat) (x:MV),(∃p,xs[j]?=some (x,p))↔∃v,l[j]?=some (x,v):=λj x=>by
   have:(xs.map (·.1))[j]?=(l.map (·.1))[j]?:=V▸rfl
   replace this:=aL▸aL▸this
   constructor
   ·rintro ⟨p,m⟩
    rw[m] at this
    cases B:l[j]? with
    |none=>rw[B] at this;cases this
    |some q=>rw[B] at this;cases this;exact⟨q.2,rfl⟩
   ·rintro ⟨p,m⟩
    rw[m] at this
    cases B:xs[j]? with
    |none=>rw[B] at this;cases this
    |some q=>rw[B] at this;cases this;exact⟨q.2,rfl⟩
  refine wpAny_dictFind_heap (knd:=wu prog w) (k:=k) (xs:=xs) hu ⟨M,m⟩ R rfl (by simpa using e1) e2 (V▸W) (λS=>?_) λj p hj=>?_
  ·rwa [EH λi v hi=>by refine dG ((at_ i k).mpr ⟨v,hi⟩) λp m=>?_;exact S i p m] at h
  ·refine dG ((at_ j k).mp ⟨p,hj⟩) λv UK=>?_
   rwa [EI W UK] at h
end
end
section
open PySem PySem.Calls PySem.W PyProof.Rows
open PySem Builtin
section
variable{G:Cfg}{hb:dO}{ρ:fj}{μ:Hp}{s:az}{prog:fu}{A:c_}
theorem eV.N(S:eV G hb s.heap ρ μ){n:Nat}{p:cK×cK}(a:ρ[n]?=some p):(p.1==uB)=false:=by
 refine dG S.L λo b=>?_
 exact beq_eq_false_iff_ne.mpr λe=>(S.B _ _ b p (aU a)).1 e.symm
theorem cy(g:s.heap.get? a=some (iG es n)):s.TypeIs (.ref a) "dict":=⟨_,g,rfl⟩
theorem hX(g:s.heap.get? a=some (ee vs n)):s.TypeIs (.ref a) "list":=⟨_,g,rfl⟩
structure q_ (G:Cfg) (hb:dO) (ρ:fj) (μ:Hp) (s:az) (n:Nat) (l:List (MV×MV)) (p:cK×cK) (es:List cx) (q:Nat) (k:MV) (key:aA):Prop where
 S:eV G hb s.heap ρ μ
 M:μ[n]?=some (.b l)
 r:ρ[n]?=some p
 K:p.2=p.1
 z:rh l
 g:s.heap.get? p.1=some (iG es q)
 c:ER G.w hb s.heap ρ l es
 B:eL l k=true
 C:VR hb s.heap ρ k key
section
variable{n:Nat}{l:List (MV×MV)}{p:cK×cK}{es:List cx}{q:Nat}{k:MV}{key:aA}
theorem q_.w(D:q_ G hb ρ μ s n l p es q k key)(t:Nat):q_ G hb ρ μ {s with toks:=t} n l p es q k key:=⟨D.S,D.M,D.r,D.K,D.z,D.g,D.c,D.B,D.C⟩
theorem q_.d(D:q_ G hb ρ μ s n l p es q k key){Q:Option Nat->az->Prop}{E:aA->az->Prop}(a:A.units+64<iy)(h:Q (jP l k) s):aI (aH prog G.w) A (dictFind p.1 key (ic G.w k)) Q E s:=
 pE D.g D.c D.z.1 D.B D.C a h
theorem q_.j(D:q_ G hb ρ μ s n l p es q k key){Q:Int->az->Prop}{E:aA->az->Prop}(a:A.units+64<iy)(h:∀t,s.toks<=t->Q (ic G.w k) {s with toks:=t}):aI (aH prog G.w) A (pyHash key) Q E s:=
 tG (oV D.B).1 D.C a h
theorem q_.m(D:q_ G hb ρ μ s n l p es q k key){Q:Option aA->az->Prop}{E:aA->az->Prop}(f:A.units+64<iy)
  (a:cR l k=none->∀t,s.toks<=t->Q none {s with toks:=t}) (b:∀x v,cR l k=some x->VR hb s.heap ρ x v->∀t,s.toks<=t->Q (some v) {s with toks:=t}):
  aI (aH prog G.w) A (wI p.1 key) Q E s:=by
 unfold wI
 try with_reducible refine bF ?_
 refine aw (D.j f λt h=>aw ((D.w t).d f ?_))
 cases hi:jP l k with
 |none=>exact aF (a (by rw[nM,hi];rfl) t h)
 |some i=>
  refine dG (tj hi) λx y=>?_
  refine vL (D.c.C y) λe N J J F=>?_
  refine aw (wO (s:={s with toks:=t}) D.g rfl (aF ?_))
  have:(es.toArray[i]?).map (·.val)=some e.val:=by simp[N]
  exact this▸(b x e.val (by rw[nM,hi];simp[y]) F t h)
theorem q_.u(D:q_ G hb ρ μ s n l p es q k key)(a:cR l k=some x)(f:A.units+80<iy):aI (aH prog G.w) A (Dv (.ref p.1) key) (Ok G hb ρ s μ x) no s:=by
 unfold PySem.getItem
 try with_reducible refine bF ?_
 refine aw (nZ (cy D.g) (by decide) ?_)
 refine aw (jI (name:=jG "__getitem__") (cy D.g) F.slot_dict_getitem
  (eM F.slot_dict_getitem (cy D.g) F.entry_dict_getitem ?_ (F.args_dict_getitem_2 _ _)))
 show aI _ _ (wI p.1 key>>=_) _ _ s
 refine aw (D.m (by simp;exact pA f) (λh=>by rw[a] at h;cases h) λy v b e t i=>?_)
 rw[a] at b;cases b
 exact aF ⟨v,rfl,aF ⟨ρ,(bT.l D.S).u t i,e⟩⟩
theorem q_.I(D:q_ G hb ρ μ s n l p es q k key)(f:A.units+80<iy):
  aI (aH prog G.w) A (FD (.ref p.1) key) (λb e=>b=(cR l k).isSome/\∃t,s.toks<=t/\e={s with toks:=t}) no s:=by
 unfold FD
 try with_reducible refine bF ?_
 refine aw (jy (cy D.g) F.slot_dict_contains.lookup ?_)
 rw[if_neg (by rw[yG];exact rE)]
 refine aw (vt (name:=jG "__contains__") (cy D.g) F.slot_dict_contains
  (eM F.slot_dict_contains (cy D.g) F.entry_dict_contains ?_ (F.args_dict_contains_2 _ _)))
 show aI _ _ (wI p.1 key>>=_) _ _ s
 refine aw (D.m (by simp;exact pA f) (λh t a=>?_) λy v i x t a=>?_)
 ·exact aw (OL (D.S.N D.r) (aF ⟨_,rfl,eU ⟨h▸rfl,t,a,rfl⟩⟩))
 ·exact aF ⟨_,rfl,eU ⟨i▸rfl,t,a,rfl⟩⟩
theorem zM(g:rh l)(r:eL l k=true):rh (iT l k v):=by
 refine ir (oV r) λf d=>?_
 rw[nP]
 cases hi:jP l k with
 |some i=>
  dsimp only
  have e:(l.modify i λp=>(p.1,v)).map (·.1)=l.map (·.1):=by
   apply Oy
   intro j
   rw[aL,aL,List.getElem?_modify]
   by_cases h:i=j
   ·subst h;cases l[i]?<;>simp
   ·cases l[j]?<;>simp[h]
  refine⟨e▸g.1,eE k,f,λp c=>?_⟩
  have:p.1∈(l.modify i λp=>(p.1,v)).map (·.1):=gL c
  rw[e] at this
  refine cf (cW.mp this) λt u m=>?_
  exact m▸(d t u)
 |none=>
  refine⟨?_,eE k,f,λp c=>?_⟩
  ·rw[d9,mD]
   refine⟨g.1,by simp,λa o b hb'=>?_⟩
   simp only[dX,ju,bK] at hb'
   subst hb'
   rintro rfl
   refine cf (cW.mp o) λp c e=>?_
   have:=yD.mp hi p c
   rw[e] at this
   rw[(jr _ _).mpr rfl] at this
   cases this
  ·rcases cZ.mp c with h|h
   ·exact d p h
   ·rw[bK] at h;refine fI h ?_;rfl
theorem q_.H(D:q_ G hb ρ μ s n l p es q k key)(N:VR hb s.heap ρ x v)(O:l.length<=bz)(Q:A.units+64<iy):
  aI (aH prog G.w) A (dictSet p.1 key v) (λJ T=>yJ G hb ρ s (μ.set n (.b (iT l k x))) T) no s:=by
 unfold dictSet
 try with_reducible refine bF ?_
 refine aw (D.j Q λt U=>?_)
 unfold dictSetHashed
 try with_reducible refine bF ?_
 refine aw ((D.w t).d Q ?_)
 have h:∀(f:Obj->Obj) (y:List cx) (F:Nat),f (iG es q)=iG y F->ER G.w hb s.heap ρ (iT l k x) y->yJ G hb ρ s (μ.set n (.b (iT l k x))) {s with heap:=s.heap.update p.1 f,toks:=t}:=λf y F R E=>by
  have P:fY p.1 s.heap (s.heap.update p.1 f):=fQ ..
  refine⟨ρ,bT.H (x:= .b (iT l k x)) D.S D.r (.inl rfl) P ⟨D.K,zM D.z D.B,y,F,?_,?_⟩ t U⟩
  ·rw[jR f D.g (R▸rfl),R]
  ·refine ER.o (λa vs g=>(P.2 a ?_).trans g) (λJ J e=>e) _ _ E
   exact(D.S.z g rfl p (aU D.r)).1
 cases hi:jP l k with
 |some i=>
  refine aw (FL (aw (wpAny_updateDict (s:={s with toks:=t}) D.g rfl (wpAny_point ?_))))
  refine h _ (es.modify i λe=>{e with val:=v}) q ?_ ?_
  ·simp only[iG,Obj.mapDict];simp[List.modify_toArray]
  ·rw[nP,hi];exact D.c.D i N
 |none=>
  refine aw (FL (V_ (hz:=(by rw[b8,D.c.B,d_];unfold bz at O;exact sE O)) (s:={s with toks:=t}) D.g rfl ?_))
  refine h _ (es++[⟨ic G.w k,key,v⟩]) (q+1) ?_ ?_
  ·simp only[iG,kN];simp
  ·rw[nP,hi];exact D.c.K D.C rfl N
theorem q_.o(D:q_ G hb ρ μ s n l p es q k key)(e:VR hb s.heap ρ x v)(i:l.length<=bz)(f:A.units+80<iy):
  aI (aH prog G.w) A (setItem (.ref p.1) key v) (λJ a=>yJ G hb ρ s (μ.set n (.b (iT l k x))) a) no s:=by
 unfold WV
 try with_reducible refine bF ?_
 refine aw (nZ (cy D.g) (by decide) ?_)
 refine aw (jI (name:=jG "__setitem__") (cy D.g) F.slot_dict_setitem
  (eM F.slot_dict_setitem (cy D.g) F.entry_dict_setitem ?_ (F.args_dict_setitem_3 _ _ _)))
 refine aw (RP (cy D.g) ?_)
 show aI _ _ (dictSet p.1 key v>>=_) _ _ s
 exact aw (a_ (D.H e i (by simp;exact pA f)) (λJ a h=>aF ⟨.none,rfl,aF h⟩) λJ J h=>h.elim)
theorem zL(a:rh l):rh (vK l k):=by
 rw[qo]
 cases hi:jP l k with
 |none=>exact a
 |some i=>
  dsimp only
  obtain⟨d,kk,c,b⟩:=a
  refine⟨?_,kk,c,λp e=>b p (List.mem_of_mem_eraseIdx e)⟩
  exact(List.Sublist.map _ (List.eraseIdx_sublist ..)).nodup d
theorem q_.L(D:q_ G hb ρ μ s n l p es q k key)(R:(cR l k).isSome=true)(y:l.length<=bz)(N:A.units+80<iy):
  aI (aH prog G.w) A (OH (.ref p.1) key) (λJ f=>yJ G hb ρ s (μ.set n (.b (vK l k))) f) no s:=by
 unfold OH
 try with_reducible refine bF ?_
 refine aw (nZ (cy D.g) (by decide) ?_)
 refine aw (jI (name:=jG "__delitem__") (cy D.g) F.slot_dict_delitem
  (eM F.slot_dict_delitem (cy D.g) F.entry_dict_delitem ?_ (F.args_dict_delitem_2 _ _)))
 refine aw ?_
 refine aw (RP (cy D.g) ?_)
 refine aF ?_
 show aI _ _ (vn p.1 key>>=_) _ _ s
 refine aw ?_
 unfold vn
 try with_reducible refine bF ?_
 refine aw (D.j (by simp;exact pA N) λt U=>aw ((D.w t).d (by simp;exact pA N) ?_))
 cases hi:jP l k with
 |none=>rw[nM,hi] at R;cases R
 |some i=>
  refine dG (tj hi) λx v=>?_
  refine vL (D.c.C v) λe P J J V=>?_
  refine aw (wO (s:={s with toks:=t}) D.g rfl ?_)
  have:es.toArray[i]?=some e:=by simp[P]
  refine this▸?_
  have O:=(ax.mp P).1
  have T:kN (λx=>x.eraseIdxIfInBounds i) (iG es q)=iG (es.eraseIdx i) (q+1):=by
   simp only[iG,kN]
   congr 2
   simp[mB,O]
  refine aw (V_ (hz:=(by rw[b8,D.c.B,d_];unfold bz at y;exact sE y)) (s:={s with toks:=t}) D.g rfl (aF ?_) (by simp[mB,O];rw[List.length_eraseIdx];split<;>omega))
  refine aw ?_
  refine a_ (Q:=λJ f=>f={s with heap:=s.heap.update p.1 (kN λx=>x.eraseIdxIfInBounds i),toks:=t}) ?_ (λJ f h=>?_) λJ J h=>h
  ·exact wpAny_letGo rfl
  ·subst h
   refine aF ⟨.none,rfl,aF ?_⟩
   have E:fY p.1 s.heap (s.heap.update p.1 (kN λx=>x.eraseIdxIfInBounds i)):=fQ ..
   refine⟨ρ,bT.H (x:= .b (vK l k)) D.S D.r (.inl rfl) E ⟨D.K,zL D.z,es.eraseIdx i,q+1,?_,?_⟩ t U⟩
   ·rw[jR _ D.g (T▸rfl),T]
   ·rw[qo,hi]
    refine ER.o (λa vs g=>(E.2 a ?_).trans g) (λJ J e=>e) _ _ (D.c.F i)
    exact(D.S.z g rfl p (aU D.r)).1
end
end
end
section
open PySem PySem.Calls PySem.W PyProof.Rows
open PySem Builtin
noncomputable def uP(K:Frag)(c:Nat):Bool:=
 lU K (.ref c) "__getattribute__"==some (some (.builtin "object.__getattribute__"))&&lU K (.ref c) "__getattr__"==some none&&hasDictIn K c&&
 lU K (.ref c) "__setattr__"==some (some (.builtin "object.__setattr__"))&&plainOver K c
section
variable{NM:Nat->Str}{hb h:dO}{ρ:fj}
theorem FR.f(q:FR NM hb h ρ (p::l) es):
 ∃e r,es=e::r/\((∃t,e.key= .str (NM p.1) t)/\VR hb h ρ p.2 e.val)/\FR NM hb h ρ l r:=q
theorem FR.g(q:FR NM hb h ρ [] es):es=[]:=q
theorem FR.B:FR NM hb h ρ [] []:=rfl
theorem FR.m(a:∃t,e.key= .str (NM p.1) t)(c:VR hb h ρ p.2 e.val)(d:FR NM hb h ρ l r):FR NM hb h ρ (p::l) (e::r):=⟨e,r,rfl,⟨a,c⟩,d⟩
theorem FR.u:∀{l:List (Nat×MV)} {a:List cx},FR NM hb h ρ l a->a.length=l.length
 |[],_,q=>q.g▸rfl
 |_::_,_,q=>by refine dY q.f λe r z0 J b=>?_;refine fI z0 ?_;rw[eY,eY,b.u]
theorem FR.j:∀{l:List (Nat×MV)} {c:List cx},FR NM hb h ρ l c->c.any (·.refKey)=false
 |[],_,q=>q.g▸rfl
 |_::_,_,q=>by
  refine dY q.f λe r z0 d b=>?_
  refine fI z0 ?_
  obtain⟨⟨t,a⟩,_⟩:=d
  rw[List.any_cons,b.j];simp[cx.refKey,a]
end
section
variable{G:Cfg}{hb h:dO}{ρ:fj}
theorem JG(a b:Nat)(d:a<G.N)(hb':b<G.N)(t:Tok):(aA.str (G.a a) t).isStr (G.a b)=aR a b:=by
 simp only[aA.isStr]
 by_cases e:a=b
 ·subst e;simp
 ·have: ¬G.a a=G.a b:=λq=>e (G.inj a b d hb' q)
  have c:(G.a a==G.a b)=false:=by simpa using this
  rw[c]
  cases q:aR a b with
  |false=>rfl
  |true=>exact absurd (aK q) e
theorem FR.w(D:a<G.N):∀{c:List (Nat×MV)} {n:List cx},FR G.a hb h ρ c n->(∀p∈c,p.1<G.N)->
  (∀x,bx c a=some x->∃v,getL (G.a a) n=some (some v)/\VR hb h ρ x v)/\(bx c a=none->getL (G.a a) n=some none)
 |[],_,q,_=>q.g▸(⟨λx e=>by simp[bx] at e,λJ=>rfl⟩)
 |p::c,_,q,z=>by
  refine dY q.f λe r z0 F b=>?_
  subst z0
  obtain⟨⟨t,k⟩,E⟩:=F
  obtain⟨i,x⟩:=p
  have H:=z (i,x) (.head _)
  have l:=FR.w D b λp I=>z p (.tail _ I)
  have L:=q.j
  unfold bx getL
  rw[List.find?_cons,k,JG i a H D t]
  cases hq:aR i a with
  |true=>
   refine⟨λy d=>?_,λd=>by simp at d⟩
   simp at d;subst d
   exact⟨_,rfl,E⟩
  |false=>
   unfold getL at l
   rw[L]
   have l:=b.j▸l
   exact l
theorem FR.C(n:a<G.N)(d:VR hb h ρ x v):∀{c:List (Nat×MV)} {l:List cx},FR G.a hb h ρ c l->(∀p∈c,p.1<G.N)->
  FR G.a hb h ρ (bp c a x) (putL (G.a a) hsh (.str (G.a a) t') v l)
 |[],_,q,_=>q.g▸(FR.m ⟨t',rfl⟩ d FR.B)
 |p::c,_,q,z=>by
  refine dY q.f λe r z0 E b=>?_
  refine fI z0 ?_
  obtain⟨⟨t,k⟩,D⟩:=E
  obtain⟨i,y⟩:=p
  have F:=z (i,y) (.head _)
  have I:=FR.C n (hsh:=hsh) (t':=t') d b λp H=>z p (.tail _ H)
  show FR G.a hb h ρ (if aR i a then(i,x)::c else(i,y)::bp c a x) (if e.key.isStr (G.a a)=true then⟨e.hash,e.key,v⟩::r else e::putL (G.a a) hsh (.str (G.a a) t') v r)
  rw[show e.key.isStr (G.a a)=aR i a by rw[k];exact JG i a F n t]
  cases hq:aR i a with
  |true=>simp only[if_true];exact FR.m ⟨t,k⟩ d b
  |false=>simp only[dx,if_false];exact FR.m ⟨t,k⟩ D I
end
theorem qM(a:Nat)(x:MV):∀c:List (Nat×MV),(∀p∈bp c a x,p.1=a\/p.1∈c.map (·.1))/\((c.map (·.1)).Nodup->((bp c a x).map (·.1)).Nodup)
 |[]=>⟨λp b=>by simp[bp] at b;left;rw[b],λJ=>by simp[bp]⟩
 |(i,y)::c=>by
  have f:=qM a x c
  unfold bp
  cases hq:aR i a with
  |true=>
   refine⟨λp b=>?_,λh=>by simpa using h⟩
   rcases cw.mp b with rfl|b
   ·right;simp
   ·right;exact gL (fh _ b)
  |false=>
   simp only[dx,if_false]
   refine⟨λp b=>?_,λh=>?_⟩
   ·rcases cw.mp b with rfl|b
    ·right;simp
    ·rcases f.1 p b with e|e
     ·exact .inl e
     ·right;simp only[dX,cw];exact .inr e
   ·simp only[dX,VU] at h⊢
    refine⟨λhm=>?_,f.2 h.2⟩
    refine cf (cW.mp hm) λp b e=>?_
    rcases f.1 p b with d|d
    ·rw[<-e,d,Nat.beq_refl] at hq;cases hq
    ·rw[e] at d;exact h.1 d
theorem uD.b(f:a<N)(h:uD N fs):uD N (bp fs a x):=by
 refine⟨(qM a x fs).2 h.1,λp c=>?_⟩
 rcases(qM a x fs).1 p c with e|e
 ·exact e▸f
 ·refine cf (cW.mp e) λq d e=>?_
  exact e▸(h.2 q d)
section
variable{G:Cfg}{T:Tab}{K:Frag}{hb:dO}{ρ:fj}{μ aG:Hp}{s:az}{prog:fu}{A:c_}
theorem VR.Q(q:VR hb s.heap ρ x v):handedIn v=true:=by
 cases x with
 |f=>rw[q.B];rfl
 |h b=>rw[q.I];rfl
 |c i=>obtain⟨t,rfl⟩:=q.c;rfl
 |g i=>obtain⟨t,rfl⟩:=q.F;rfl
 |e l=>obtain⟨a,vs,rfl,_⟩:=q.d;rfl
 |d n=>unfold VR at q;obtain⟨p,rfl,_⟩:=q;rfl
 |m l=>unfold VR at q;refine LY q λa vs k o J=>?_;refine fI o ?_;rfl
 |j x t=>unfold VR at q;rw[q];rfl
structure Dy (T:Tab) (G:Cfg) (K:Frag) (hb:dO) (fa:Nat->cK):Prop where
 b:K.In hb
 d:∀c a,a∈T.b c->a<G.N/\uP K c=true/\lU K (.ref c) (G.a a)=some none
 e:∀c a f,T.a c a=some f->a<G.N/\uP K c=true/\lU K (.ref c) (G.a a)=some (some (.ref (fa f)))/\isFn K (.ref (fa f))=true
theorem qn(h:uP K c=true):lU K (.ref c) "__getattribute__"=some (some (.builtin "object.__getattribute__"))/\lU K (.ref c) "__getattr__"=some none/\hasDictIn K c=true/\
  lU K (.ref c) "__setattr__"=some (some (.builtin "object.__setattr__"))/\plainOver K c=true:=by
 unfold uP at h
 simp only[bO,beq_iff_eq] at h
 exact⟨h.1.1.1.1,h.1.1.1.2,h.1.1.2,h.1.2,h.2⟩
theorem qE{p:cK×cK}{c:Nat}{a:List cx}{k:Nat}(g:s.heap.get? p.1=some (mE c p.2))(b:s.heap.get? p.2=some (iG a k)):
 InstAt s.heap p.1 (mE c p.2) c (some (iG a k)):=⟨g,rfl,rfl,b⟩
theorem xJ{o:Nat->cK}(ST:Dy T G K hb o){x r:MV}{a:Nat}{v:aA}{f:Bool}(e:iu T μ x a=some r)(S:eV G hb s.heap ρ μ)(J:VR hb s.heap ρ x v):
  aI (aH prog G.w) A (getAttr v (G.a a) f) (Ok G hb ρ s μ r) no s:=by
 refine nm e λn c R h y q=>gm q λD q=>?_
 subst h
 apply S.T y J λp L k O E g B C=>?_
 refine m7 (ST.d c a (Fq.mp D)) λF I H=>?_
 refine HW (qn I) λz M t P N=>?_
 refine cf ((C.w F E.2).1 r q) λu j i=>?_
 exact get_value (ST.b.keeps S.m) (qE g B) z (findObj_own t H rfl (by rw[lookIn_dict];exact j)) i.Q ⟨ρ,(bT.l S).u _ (cN _),i⟩
theorem ym(a:Nat)(y:MV):∀l:List (Nat×MV),(Mine.bp l a y).length<=l.length+1
 |[]=>aC _
 |(i,z)::l=>by unfold Mine.bp;split<;>simp<;>exact Gy (ym a y l)
theorem yt{Y:Nat->cK}(ST:Dy T G K hb Y){x y:MV}{a:Nat}{v u:aA}(e:og T μ x a y=some aG)(S:eV G hb s.heap ρ μ)(hx:VR hb s.heap ρ x v)(hy:VR hb s.heap ρ y u):
  aI (aH prog G.w) A (setAttr v (G.a a) u) (λJ W=>yJ G hb ρ s aG W) no s:=by
 refine nm e λn c P h hn e=>gm e λN e=>?_
 refine j8 e ?_;subst h
 refine ir (aE.mp N) λN E=>?_
 apply S.T hn hx λp q k O R g i Q=>?_
 refine m7 (ST.d c a (Fq.mp N)) λV ck hl=>?_
 refine HW (qn ck) λc1 c2 c3 c4 c5=>?_
 have X:=ST.b.keeps S.m
 have I:=qE (s:=s) g i
 refine set_plain X I c4 ?_
 refine osa_open (s:={s with toks:=s.toks+1}) X I c5 (r:=none) (by unfold takerIn;rw[hl];rfl) λb=>?_
 refine cf (any_some c3) λcd Z M=>?_
 refine aw (aF (aw (aw (wpAny_loadPart (s:={s with toks:=s.toks+1}) g (aw ((looks_clsIn X Z).here (s:={s with toks:=s.toks+1}) ?_))))))
 rw[M]
 refine aF (a:=some p.2) (aw (aF (aw ?_)))
 refine aw (aw (wpAny_askSetting (aF (aw (wpAny_mkText (aw (wpAny_loadPart (s:={s with toks:=s.toks+1+1}) i ?_)))))))
 dsimp only
 rw[aRefKeyMayBeTheName_at,show(!q.toArray.any (·.key.isStr (G.a a))&&q.toArray.any (·.refKey))=false by rw[<-Ou,<-Ou];simp only[Q.j,Bool.and_false]]
 refine wpAny_updatePart (s:={s with toks:=s.toks+1+1}) i ?_
 have D:=putName_dict (G.a a) (jg G.w.params (G.a a)) (.str (G.a a) (s.toks+1)) u q k
 have f:=FR.C (G:=G) V (hsh:=jg G.w.params (G.a a)) (t':=s.toks+1) hy Q R.2
 show aI _ _ _ _ _ {s with heap:=s.heap.update p.2 (Obj.putName (G.a a) (jg G.w.params (G.a a)) (.str (G.a a) (s.toks+1)) u),toks:=s.toks+1+1}
 generalize Obj.putName (G.a a) (jg G.w.params (G.a a)) (.str (G.a a) (s.toks+1)) u=F at D⊢
 generalize putL (G.a a) (jg G.w.params (G.a a)) (.str (G.a a) (s.toks+1)) u q=K3 at D f
 have t:fY p.2 s.heap (s.heap.update p.2 F):=fQ ..
 have B:=jR F i (by rw[D];rfl)
 rw[D] at B
 generalize s.heap.update p.2 F=h' at t B⊢
 have L:p.1≠p.2:=by intro e;rw[e,i] at g;cases g
 have l:K3.length<=1000:=by
  rw[f.u]
  have t1:=ym a y P
  have t2:=aW E
  exact Tq t1 t2
 refine aw (wpAny_lookBehind (s:={s with heap:=h',toks:=s.toks+1+1}) B (pastItsLine_dict (b8▸d_▸(aaa l))) ?_)
 exact aF ⟨ρ,bT.H (x:= .d c (Mine.bp P a y)) S O (.inr rfl) t ⟨R.b V,(t.2 _ L).trans g,_,_,B,FR.o (λa' vs U=>(t.2 a' ((S.z U rfl p (aU O)).2)).trans U) (λJ J e=>e) _ _ f⟩ _ AN⟩
end
end
section
open PySem PySem.Calls PySem.W PyProof.Rows
open PySem Builtin
noncomputable def mS:Option Nat->Option Int
 |none=>none
 |some k=>some (k:Int)
theorem oS(a b:Option Nat)(n:Nat):V5 (mS a) (mS b) none n=(((min (a.getD 0) n:Nat):Int),((min (b.getD n) n:Nat):Int),1):=by
 have e:∀(k:Nat),max (0:Int) (min (k:Int) (n:Int))=((min k n:Nat):Int):=λk=>aaf
 cases a<;>cases b<;>simp only[mS,V5,sq,mO,show(1:Int)>0 by decide,if_true,show ∀k:Nat,¬((k:Int)<0) from λk=>aae,if_false,e,Nat.zero_min,Nat.min_self,Int.natCast_zero]
 all_goals rfl
theorem sN{d:Type}(l:List d)(a b:Option Nat):(l.drop (min (a.getD 0) l.length)).take (min (b.getD l.length) l.length - min (a.getD 0) l.length)=sM l a b:=by
 have c:∀k,l.drop (min k l.length)=l.drop k:=λk=>by
  by_cases h:k<=l.length
  ·rw[hZ h]
  ·rw[nH (uL h),nW (aC _),nW (uL h)]
 unfold sM
 cases a with
 |none=>cases b with
  |none=>simp
  |some b=>
   simp only[sq,mO,Nat.zero_min,iB,Nat.sub_zero]
   by_cases h:b<=l.length
   ·rw[hZ h]
   ·rw[nH (uL h),dF (aC _),dF (uL h)]
 |some a=>cases b with
  |none=>
   simp only[sq,mO,Nat.min_self,c]
   rw[dF]
   rw[iL];exact aad
  |some b=>
   simp only[mO,c]
   rw[List.drop_take]
   by_cases h:a<=l.length
   ·by_cases h':b<=l.length
    ·rw[hZ h,hZ h']
    ·rw[hZ h,nH ((uL h'):l.length<=b),dF,dF]<;>rw[iL]<;>first|exact Tt h h'|exact Tu
   ·rw[nW (uL h)];simp
theorem HJ(l:List aA)(a b:Option Nat):slicePick l.toArray (mS a) (mS b) none=(sM l a b).toArray:=by
 unfold slicePick
 rw[b8,oS]
 simp only[FH,pick_run]
 rw[sN]
theorem LR{c d:Type}(f:c->d)(l:List c)(a b:Option Nat):sM (l.map f) a b=(sM l a b).map f:=by
 unfold sM;cases a<;>cases b<;>simp[List.map_take,List.map_drop]
theorem zk{c:Type}(l:List c)(a b:Option Nat):(sM l a b).length<=l.length:=by
 unfold sM;cases a<;>cases b<;>simp<;>first|exact Tr|exact Ts
theorem dw.Q(q:dw hb h ρ l vs)(a b:Option Nat):dw hb h ρ (sM l a b) (Mine.sM vs a b):=by
 cases a<;>cases b<;>first|exact q|exact q.F _|exact q.K _|exact(q.F _).K _
section
variable{G:Cfg}{hb h:dO}{ρ:fj}{μ aG:Hp}{s:az}{prog:fu}{w:dW}{A:c_}
theorem JK{f:Prop}(q:dw hb h ρ l vs)(e:zT l k=some x)
  (k1:∀v,VR hb h ρ x v->0<=k->k<2^62->vs[k.toNat]?=some v->f) (k2:∀v,VR hb h ρ x v->k<0-> -(2^62)<k->0<=k+vs.length->vs[(k+vs.length).toNat]?=some v->f):f:=by
 unfold zT at e
 by_cases b:0<=k
 ·rw[if_pos b] at e
  refine gm e λa e=>?_
  refine cf (q.D e) λv d i=>?_
  exact k1 v i b a d
 ·rw[if_neg b] at e
  refine gm e λc e=>?_
  refine cf (q.D e) λv a d=>?_
  rw[<-q.g] at a c
  exact k2 v d (Int.not_le.mp b) c.1 c.2 a
theorem Ok.f(S:eV G hb s.heap ρ μ)(q:VR hb s.heap ρ x v):Ok G hb ρ s μ x v s:=⟨ρ,bT.l S,q⟩
theorem VR.V(q:VR hb h ρ x v):VR hb h ρ (kn x) v:=by
 cases x with
 |j y t=>unfold VR at q;rw[q];unfold Mine.kn VR;exact⟨t,rfl⟩
 |_=>exact q
theorem Kq(e:ez μ x i=some r)(S:eV G hb s.heap ρ μ)(M:VR hb s.heap ρ x v)(I:VR hb s.heap ρ i u)(U:A.units+80<iy)
  (B:∀v u:aA,rT slice false v u=OI [v,u] (Dv v u)):aI (aH prog G.w) A (oz value slice v u) (Ok G hb ρ s μ r) no s:=by
 delta ez at e
 cases x with
 |d n=>
  refine hm e (λn l h D e=>?_) (λn l h D e=>?_) λJ J J J J h=>nomatch h
  ·cases h
   refine im e λj h e=>?_
   subst h
   apply I.f λt=>?_
   apply S.E D M λp vs k J J g q=>?_
   have m:=gT g
   refine JK q e (λv z b o y=>?_) λv z b o y N=>?_
   ·exact pg m.typeIs wL.lookup (wpAny_getItem_list m b (QD b o) (by simpa using y) (Ok.f S z)) (B _ _)
   ·exact pg m.typeIs wL.lookup (wpAny_getItem_list_neg m b (by simp;exact QB y) (QC b o) (by simpa using N) (Ok.f S z)) (B _ _)
  ·cases h
   refine gm e λT e=>?_
   apply S.Q D M λp R k X Z Y g W=>?_
   exact pg (cy g) F.slot_dict_getitem.lookup ((⟨S,D,X,Z,Y,g,W,T,I.V⟩:q_ G hb ρ μ s _ l p R k (kn i) u).u e U) (B _ _)
 |e l=>
  refine im e λj h q=>?_
  subst h
  clear e
  apply I.f λt=>?_
  apply M.L λa vs g r=>?_
  have m:=x5 g
  refine JK r q (λv z b o y=>?_) λv z b o y N=>?_
  ·have O:=(ax.mp y).1
   exact pg m.typeIs slot_tuple_getitem.lookup (getItem_tuple m (aac b o) (QD b o) (seqIndex_of b (by simp;exact((oi b).mp O))) (by simpa using y) (Ok.f S z)) (B _ _)
  ·refine pg m.typeIs slot_tuple_getitem.lookup (getItem_tuple m (QC b o) (aab b o) (j:=(_+(vs.length:Int)).toNat) ?_ (by simpa using N) (Ok.f S z)) (B _ _)
   rw[seqIndex_neg (by simpa using b) (by simp;exact QB y)]
   simp
 |g l=>
  refine im e λk h q=>gm q λC q=>mm q λc P q=>?_
  refine rI q ?_;subst h
  apply M.H λt=>?_
  apply I.f λt'=>?_
  have O:=(ax.mp P).1
  refine pg (typeIs_str s ⟨l.toArray⟩ t) slot_str_getitem.lookup (getItem_str (c:=c) (by simp;exact(⟨gn (by decide) C.1,Fp C.2 (by decide)⟩)) ?_ (Ok.u S [c] _ _ (bc _ _))) (B _ _)
  rw[seqIndex_of C.1 (by simp[Str.length];exact((oi C.1).mp O))]
  simpa using P
 |_=>cases e
end
end
section
open PySem PySem.Calls PySem.W PyProof.Rows
open PySem Builtin
noncomputable def OP(hb h:dO)(ρ:fj):Option MV->aA->Prop
 |none,v=>v= .none
 |some x,v=>VR hb h ρ x v
section
variable{G:Cfg}{hb h:dO}{ρ ρ':fj}{μ aG bC:Hp}{s s':az}{prog:fu}{w:dW}{A:c_}
theorem Ok.c{r:MV}{v:aA}{s1:az}{bt:fj}(P:bT G hb ρ s bt bC s1)(h:Ok G hb bt s1 aG r v s'):Ok G hb ρ s aG r v s':=by
 obtain⟨ρ',Q,q⟩:=h
 exact⟨ρ',P.f Q,q⟩
theorem yJ.a{s1:az}{bt:fj}(P:bT G hb ρ s bt bC s1)(h:yJ G hb bt s1 aG s'):yJ G hb ρ s aG s':=by
 obtain⟨ρ',Q⟩:=h
 exact⟨ρ',P.f Q⟩
theorem Ma(S:eV G hb h ρ μ)(q:VR hb h ρ (.m l) v):∃a vs k,v= .ref a/\h.get? a=some (ee vs k)/\dw hb h ρ (l.map .c) vs:=by
 obtain⟨a,vs,k,rfl,g,b,d⟩:=q
 refine⟨a,vs,k,rfl,S.m _ _ g,?_⟩
 clear g
 induction l generalizing vs with
 |nil=>have:vs=[]:=eB.mp b.symm;refine fI this ?_;exact dw.B
 |cons i l p=>cases vs with
  |nil=>simp at b
  |cons u vs=>
   obtain⟨t,e⟩:=d 0 i rfl
   simp at e
   refine fI e ?_
   refine dw.o (⟨t,rfl⟩) (p vs (by simpa using b) λj n e=>?_)
   refine dG (d (j+1) n (by simpa using e)) λt' f=>?_
   exact⟨t',by simpa using f⟩
theorem ji(q:OP hb h ρ x v)(e:jU x=some b):IsPart v (mS b)/\∃p:Option (Int×Tok),v=partValue p/\p.map (·.1)=mS b:=by
 cases x with
 |none=>refine j8 e ?_;rw[show v= .none from q];exact⟨.none,none,rfl,rfl⟩
 |some x=>
  refine im e λk h e=>gm e λa e=>?_
  refine j8 e ?_;subst h
  obtain⟨t,rfl⟩:=VR.c (hb:=hb) (h:=h) (ρ:=ρ) q
  exact(show mS (some k.toNat)=some k by simp[mS];exact O' a)▸(⟨.int k t,some (k,t),rfl,rfl⟩)
theorem Ai(l:List Nat)(a b:Option Nat):Builtin.Str.strSliceIndices (mS a) (mS b) 1 l.length=sliceRange ((min (a.getD 0) l.length:Nat):Int) ((min (b.getD l.length) l.length:Nat):Int) 1:=by
 injection (oS a b l.length) with d c
 injection c with c e
 refine d▸c▸?_
 cases a<;>cases b<;>rfl
set_option tactic.hygienic true in
theorem Ed(h:(sM l a b).length=l.length):sM l a b=l:=by
 unfold sM at h⊢
 cases a<;>cases b<;>simp only at h⊢
 ·rw[gM] at h;exact dF (aan h)
 ·replace h:=iL▸h
  rename_i a
  by_cases c:a=0
  ·refine fI c ?_;rfl
  ·have:l.length=0:=Fw λd=>absurd h (gu (Nat.sub_lt d (OE c)))
   rw[eB.mp this];simp
 ·replace h:=gM▸iL▸h
  rename_i a b
  by_cases c:l.length=0
  ·rw[eB.mp c];simp
  ·have:a=0:=aam h c
   subst this
   exact iB▸(dF (aal h))
theorem A9{Q:aA->az->Prop}(hz:l.length<=bz)(g:s.heap.get? p=some (ee vs k))(q:dw hb s.heap ρ l vs)
  (sl:s.heap.IsSliceOf m vl vu .none) (pl:IsPart vl (mS a)) (f:IsPart vu (mS b)) (S:eV G hb s.heap ρ μ) (h:∀v s',Ok G hb ρ s (μ++[.a (sM l a b)]) (.d μ.length) v s'->Q v s')
  (e:∀v u:aA,rT slice false v u=OI [u,v] (Dv v u)):aI (aH prog G.w) A (oz value slice (.ref p) (.ref m)) Q no s:=by
 have c:=gT g
 refine pg c.typeIs wL.lookup (wpAny_getItem_list_slice c sl pl f .none (by simp) ?_ (by rw[b8,q.g,d_];unfold bz at hz;exact sE hz)) (e _ _)
 rw[HJ]
 exact h _ _ (Ok.y S (q.Q a b) _ (aC _))
set_option tactic.hygienic true in
theorem zj{Q:aA->az->Prop}(hz:l.length<=bz)(j:s.heap.IsSlice m pl pu none)(n:pl.map (·.1)=mS a)(f:pu.map (·.1)=mS b)
  (S:eV G hb s.heap ρ μ) (h:∀v s',Ok G hb ρ s μ (.g (sM l a b)) v s'->Q v s')
  (i:∀v u:aA,rT slice false v u=OI [u,v] (Dv v u)):aI (aH prog G.w) A (oz value slice (.str ⟨l.toArray⟩ t) (.ref m)) Q no s:=by
 refine pg (typeIs_str _ ⟨l.toArray⟩ t) F.slot_str_getitem.lookup (wpAny_getItem_str_slice j rfl ?_) (i _ _)
 unfold sliceMade
 have c:(⟨l.toArray⟩:Str).length=l.length:=rfl
 have d:yO ⟨l.toArray⟩ pl pu none=sliceRange ((min (a.getD 0) l.length:Nat):Int) ((min (b.getD l.length) l.length:Nat):Int) 1:=by
  unfold yO
  exact n▸f▸c▸(Ai l a b)
 have e:(yO ⟨l.toArray⟩ pl pu none).filterMap (l.toArray[·]?)=sM l a b:=by
  rw[d,FH,pick_run]
  exact sN l a b
 have k:(yO ⟨l.toArray⟩ pl pu none).length=(sM l a b).length:=by
  rw[d,FH,ay,OA,<-sN l a b,gM,iL]
  exact aak c
 split
 ·rename_i hw
  simp only[bO,beq_iff_eq] at hw
  have:=hw.2
  rw[c,k] at this
  rw[Ed this] at h
  exact h _ _ (Ok.u S l t _ (aC _))
 ·refine⟨?_,?_⟩
  ·show(List.toArray _).size<=_
   rw[e,b8,d_]
   have:=zk l a b
   exact aaj hz c this
  ·exact e▸(h _ _ (Ok.u S _ _ _ (bc _ _)))
theorem slc{P:MV->MV->Hp->Prop}{x r:MV}{lo f:Option MV}(e:lu μ x lo f=some (r,aG))(k1:∀a b n l,jU lo=some a->jU f=some b->μ[n]?=some (.a l)->l.length<=bz->P (.d n) (.d μ.length) (μ++[.a (sM l a b)]))(k2:∀a b l,jU lo=some a->jU f=some b->l.length<=bz->P (.g l) (.g (sM l a b)) μ)
  (j:∀a b l,jU lo=some a->jU f=some b->l.length<=bz->P (.m l) (.d μ.length) (μ++[.a ((sM l a b).map .c)])):P x r aG:=by
 refine bm e λa i e=>bm e λb hb' e=>?_
 cases x with
 |d n=>exact lm e λm l h k e=>gm e λhz e=>qR (P:=λr aG=>P (.d n) r aG) e (MV.d.inj h▸k1 a b m l i hb' k hz)
 |g l=>exact gm e λhz e=>qR (P:=λr aG=>P (.g l) r aG) e (k2 a b l i hb' hz)
 |m l=>exact gm e λhz e=>qR (P:=λr aG=>P (.m l) r aG) e (j a b l i hb' hz)
 |_=>cases e
theorem z_{value slice:Expr}{x r:MV}{lo M:Option MV}{v i j:aA}(e:lu μ x lo M=some (r,aG))(S:eV G hb s.heap ρ μ)(f:VR hb s.heap ρ x v)(z:OP hb s.heap ρ lo i)(D:OP hb s.heap ρ M j)
  (C:∀v u:aA,rT slice false v u=OI [u,v] (Dv v u)):
  aI (aH prog G.w) A (oz value slice v (.ref s.heap.objs.size)) (Ok G hb ρ s aG r) no {s with heap:=s.heap.push {cls:= .type "slice",data:= .fields #[i,j,.none]}}:=by
 have P:=bT.B S (λb o e=>bg {cls:= .type "slice",data:= .fields #[i,j,.none]} e) s.toks (aC _)
 have sl:=vo s.heap i j .none
 have L:=bU s.heap (o:={cls:= .type "slice",data:= .fields #[i,j,.none]}) rfl
 have S1:=P.d
 have f:=P.y S f
 generalize s.heap.push {cls:= .type "slice",data:= .fields #[i,j,.none]}=h1 at P sl L S1 f⊢
 refine slc (P:=λx r aG=>VR hb h1 ρ x v->aI (aH prog G.w) A (oz value slice v (.ref s.heap.objs.size)) (Ok G hb ρ s aG r) no {s with heap:=h1}) e (λa b n l m hb' O hz f=>?_) (λa b l m hb' hz f=>?_) (λa b l m hb' hz f=>?_) f
 ·apply S1.E O f λp vs k J J g q=>?_
  exact A9 (s:={s with heap:=h1}) hz g q sl (ji z m).1 (ji D hb').1 S1 (λv s' h=>Ok.c P h) C
 ·refine cf (ji z m).2 λpl Q I=>cf (ji D hb').2 λR N F=>?_
  apply f.H λt=>?_
  exact zj (s:={s with heap:=h1}) hz ⟨_,L,rfl,Q▸N▸rfl⟩ I F S1 (λv s' h=>Ok.c P h) C
 ·refine HX (Ma S1 f) λp vs k z0 g q=>?_
  refine fI z0 ?_
  rw[<-LR]
  exact A9 (s:={s with heap:=h1}) (by rw[ay];exact hz) g q sl (ji z m).1 (ji D hb').1 S1 (λv s' h=>Ok.c P h) C
theorem Jg(e:mj μ x=some r)(S:eV G hb s.heap ρ μ)(b:VR hb s.heap ρ x v):aI (aH prog G.w) A (call (.builtin "len") [v]) (Ok G hb ρ s μ r) no s:=by
 cases x with
 |e l=>
  refine gm e λhz e=>?_
  cases e
  apply b.L λa vs g q=>?_
  exact q.g▸(PyProof.Rows.len_tuple (x5 g) (by rw[b8,q.g];unfold bz at hz;exact QE hz) (Ok.j S _ _ _ (bc _ 2)))
 |d n=>
  refine lm e λn l h c e=>gm e λhz e=>?_
  cases e;cases h
  apply S.E c b λp vs k J J g q=>?_
  exact q.g▸(PyProof.Rows.len_list (gT g) (by rw[b8,q.g];unfold bz at hz;exact QE hz) (Ok.j S _ _ _ (bc _ 2)))
 |_=>cases e
theorem yA(f:μ[n]?=some (.a l))(hz:l.length<=bz)(S:eV G hb s.heap ρ μ)(i:VR hb s.heap ρ (.d n) v):
  aI (aH prog G.w) A (call (.type "tuple") [v]) (Ok G hb ρ s μ (.e l)) no s:=by
 refine ud (S.I f i) λp vs k z0 J J g q=>?_
 refine fI z0 ?_
 refine call_tuple_list (gT g) (λh' kp=>?_) (by rw[b8,q.g,d_];unfold bz at hz;exact sE hz)
 have c:∀b o,s.heap.get? b=some o->(h'.push (cn vs)).get? b=some o:=λb o e=>bg _ (kp b o e)
 refine⟨ρ,bT.B S c s.toks (aC _),?_⟩
 exact⟨_,vs,rfl,bU _ rfl,dw.t (λa vs g=>c _ _ g) (λJ J e=>e) _ _ q⟩
theorem Ff(e:zp i=some x)(S:eV G hb s.heap ρ μ)(b:VR hb s.heap ρ (.c i) v):
  aI (aH prog G.w) A (call (.type "str") [v]) (Ok G hb ρ s μ (.g x)) no s:=by
 refine dG b.c λt z0=>?_
 refine fI z0 ?_
 refine gm e λa e=>?_
 refine j8 e ?_
 have:(toString i:Str)=⟨[48+i.toNat].toArray⟩:=by
  have h:=mapf (f:=λk:Nat=>(toString (k:Int):Str)) (g:=λk=>⟨[48+k].toArray⟩) (l:=fO 10) ⋯ (pj.mpr ((oi a.1).mpr a.2))
  rw[kX a.1] at h
  exact h
 refine PySem.P.str_of_int ?_ ?_
 ·have:i.natAbs<10:=aai a
  exact aah this (Nat.log2_le_self _)
 ·exact this▸(Ok.u S _ _ _ (bc _ _))
theorem yW(i:μ[n]?=some (.a l))(hz:l.length<=bz)(S:eV G hb s.heap ρ μ)(o:VR hb s.heap ρ (.d n) v)(r:VR hb s.heap ρ x u):
  aI (aH prog G.w) A (call (.builtin "list.append") [v,u]) (Ok G hb ρ s (μ.set n (.a (l++[x]))) .f) no s:=by
 refine ud (S.I i o) λp vs k z0 c j g q=>?_
 refine fI z0 ?_
 refine append_at (hsz:=by rw[b8,q.g,d_];unfold bz at hz;exact sE hz) g λh' b m=>?_
 refine⟨ρ,bT.H (x:= .a (l++[x])) S c (.inl rfl) b ⟨j,vs++[u],k+1,by rw[m];simp,?_⟩ s.toks (aC _),rfl⟩
 refine dw.t (λa vs g=>(b.2 a ?_).trans g) (λJ J e=>e) _ _ (q.L r)
 exact(S.z g rfl p (aU c)).1
theorem NJ(L:μ[n]?=some (.a l))(i:l.getLast?=some x)(hz:l.length<=bz)(S:eV G hb s.heap ρ μ)(O:VR hb s.heap ρ (.d n) v):
  aI (aH prog G.w) A (call (.builtin "list.pop") [v]) (Ok G hb ρ s (μ.set n (.a l.dropLast)) x) no s:=by
 refine ud (S.I L O) λp vs k z0 y M g q=>?_
 refine fI z0 ?_
 have o:=List.getLast?_eq_getElem? (l:=l)
 rw[i] at o
 refine cf (q.D o.symm) λu c E=>?_
 replace c:=q.g.symm▸c
 have j:=(ax.mp c).1
 have N:vs.toArray.eraseIdxIfInBounds (vs.toArray.size - 1)=(vs.take (vs.length - 1)).toArray:=by
  unfold mB
  refine(dif_pos (by simpa using j))▸?_
  apply Array.toList_inj.mp
  rw[Array.toList_eraseIdx]
  simp
  have B:=j
  exact Fs
 refine uz F.slot_list_pop (hX g) F.entry_list_pop (F.args_list_pop_1 _) (PySem.MeetsSeq.list_pop_last p.1 _ k u (by simpa using c) (by rw[b8,q.g,d_];unfold bz at hz;exact sE hz)) ⟨g,?_⟩
 have m:=FA g λxs=>xs.eraseIdxIfInBounds (vs.toArray.size - 1)
 rw[N,if_neg (by simp;exact aag j)] at m
 have r:fY p.1 s.heap (s.heap.update p.1 (oy λxs=>xs.eraseIdxIfInBounds (vs.toArray.size - 1))):=fQ ..
 have b:∀a f,s.heap.get? a=some (cn f)->(s.heap.update p.1 (oy λxs=>xs.eraseIdxIfInBounds (vs.toArray.size - 1))).get? a=some (cn f):=λa f g=>(r.2 a ((S.z g rfl p (aU y)).1)).trans g
 refine⟨ρ,bT.H (x:= .a l.dropLast) S y (.inl rfl) r ⟨M,vs.take (vs.length - 1),k+1,?_,?_⟩ s.toks (aC _),VR.C b (λJ J e=>e) _ _ E⟩
 ·exact m
 ·exact q.g▸Fs▸(dw.t b (λJ J e=>e) _ _ (q.F _))
end
end
section
open PySem PySem.Calls PySem.W PyProof.Rows
open PySem Builtin
theorem tI(c:Nat)(y:List Nat):∀a b:List Nat,jD c y (a++b)=jD c y a++jD c y b
 |[],_=>rfl
 |k::r,b=>by
  have d:=tI c y r b
  show(if k=c then y++jD c y (r++b) else k::jD c y (r++b))=(if k=c then y++jD c y r else k::jD c y r)++jD c y b
  split<;>simp[d]
theorem qO(c:Nat)(y:List Nat):∀l:List Nat,c∉l->jD c y l=l
 |[],_=>rfl
 |k::r,h=>by
  have a: ¬k=c:=λe=>h (e▸gY ..)
  have b:c∉r:=λm=>h (fh _ m)
  unfold jD
  rw[if_neg a,qO c y r b]
theorem JX(c:Nat)(y:List Nat):jD c y [c]=y:=by simp[jD]
theorem vg(c:Nat)(y:List Nat):∀parts:List Str,(∀p∈parts,c∉p.cps.toList)->jD c y (KZ ⟨#[c]⟩ parts).cps.toList=(KZ ⟨y.toArray⟩ parts).cps.toList
 |[],_=>rfl
 |[p],h=>qO c y _ (h p (bK.mpr rfl))
 |p::q::r,h=>by
  have d:=vg c y (q::r) λa b=>h a (fh _ b)
  show jD c y (p++⟨#[c]⟩++KZ ⟨#[c]⟩ (q::r)).cps.toList=(p++⟨y.toArray⟩++KZ ⟨y.toArray⟩ (q::r)).cps.toList
  simp only[Str.cps_append,Array.toList_append]
  rw[tI,tI,d,qO c y _ (h p (gY ..))]
  rw[JX]
theorem zV(x:List Nat)(c:Nat)(y:List Nat):vq ⟨x.toArray⟩ ⟨#[c]⟩ ⟨y.toArray⟩=⟨(jD c y x).toArray⟩:=by
 have h:(vq ⟨x.toArray⟩ ⟨#[c]⟩ ⟨y.toArray⟩).cps.toList=jD c y x:=by
  rw[StrLaws.replace_one,<-vg c y _ (StrLaws.split_free ⟨x.toArray⟩ c),StrLaws.join_split]
 generalize vq ⟨x.toArray⟩ ⟨#[c]⟩ ⟨y.toArray⟩=r at h
 obtain⟨⟨l⟩⟩:=r
 have e:l=jD c y x:=h
 rw[e]
private def sel (start a step:Int) (i:Nat):Bool:=
 if step>0 then start<=i&&i<a&&(i - start)%step==0
 else a<i&&i<=start&&(start - i)%(-step)==0
theorem Ki(b:i<n):sel ((min k n:Nat):Int) (n:Int) 1 i=decide (k<=i):=by
 unfold sel
 rw[if_pos (by decide)]
 by_cases h:k<=i
 ·have a:=aau b h
  have c:=O4 b
  simp[a,c,h]
 ·have a:=aat b h
  simp[a,h]
theorem EG(l:List aA)(k n:Nat):∀(i:Nat),i+l.length=n->((l.zipIdx i).filterMap λx=>if sel ((min k n:Nat):Int) (n:Int) 1 x.snd=true then none else some x.fst)=l.take (k - i):=by
 induction l with
 |nil=>intro i _;simp
 |cons x l c=>
  intro i a
  rw[List.zipIdx_cons,List.filterMap_cons]
  rw[Ki (by simp at a;exact GZ a),c (i+1) (by simp at a⊢;exact AY a)]
  by_cases h:k<=i
  ·simp only[h,decide_true,if_true]
   have b:=F8 (tW h)
   have d:=F8 h
   rw[b,d];simp
  ·simp only[h,decide_false,dx,if_false]
   have b:=Z' a h
   rw[b,List.take_succ_cons]
section
variable{G:Cfg}{hb h:dO}{ρ ρ':fj}{μ aG bC:Hp}{s s':az}{prog:fu}{w:dW}{A:c_}
set_option tactic.hygienic true in
theorem E5(e:vf T c x y=some r)(S:eV G hb s.heap ρ μ)(C:VR hb s.heap ρ x v)(D:VR hb s.heap ρ y u)(b:T.d<=k):
  aI (aH prog G.w) A (call (.builtin "str.replace") [v,.str ⟨#[c]⟩ k,u]) (Ok G hb ρ s μ r) no s:=by
 obtain⟨x,rfl⟩:∃l,x= .g l:=by cases x<;>first|exact⟨_,rfl⟩|cases e
 obtain⟨y,t,rfl⟩:∃l t,y= .j l t:=by cases y<;>first|exact⟨_,_,rfl⟩|cases e
 refine gm e λB e=>?_
 ··obtain⟨f,z,m,i,a⟩:=B
   refine j8 e ?_
   apply C.H λt'=>?_
   subst D
   have ex:(⟨x.toArray⟩:Str).length=x.length:=rfl
   have p:(⟨y.toArray⟩:Str).length=y.length:=rfl
   have hb':(⟨x.toArray⟩:Str).length+((⟨x.toArray⟩:Str).length+1)*(⟨y.toArray⟩:Str).length<=16777216:=by
    rw[ex,p]
    have:(x.length+1)*y.length<=1001*1000:=yE (Y' f ex) z
    exact X' f ex this
   have o:Builtin.Str.tooLong ((⟨x.toArray⟩:Str).length+(Builtin.Str.occurrences ⟨x.toArray⟩ ⟨#[c]⟩ 0 (⟨x.toArray⟩:Str).length ((⟨x.toArray⟩:Str).length+1)).length*(⟨y.toArray⟩:Str).length)=false:=by
    have e:(2:Nat)^24=16777216:=by decide
    exact decide_eq_false (V' hb' (gq _ (StrLaws.occ_length_le ⟨x.toArray⟩ ⟨#[c]⟩ 0 (⟨x.toArray⟩:Str).length ((⟨x.toArray⟩:Str).length+1))))
   have E:((⟨#[c]⟩:Str)==⟨y.toArray⟩)=false:=by
    have:=wA [c] y
    rw[show(⟨#[c]⟩:Str)=⟨([c]:List Nat).toArray⟩ from rfl,this]
    simpa using m
   have a1:=dJ (bk (ou i a) b)
   have a2:=dJ i
   have a3: ¬k=t:=λe=>Nat.lt_irrefl _ (bk a (e▸b))
   refine call_gives F.slot_str_replace (typeIs_str _ _ _) F.entry_str_replace (F.args_str_replace_3 _ _ _)
    (gives_str_replace ⟨x.toArray⟩ ⟨#[c]⟩ ⟨y.toArray⟩ t' k t λJ=>⟨by simp[a1,a2],by simp[a3],E,o⟩) ?_
   have e:=zV x c y
   unfold vq at e
   split
   ·rename_i hc
    rw[if_pos hc] at e
    have n:x=jD c y x:=by
     have:=congrArg (λq:Str=>q.cps.toList) e
     simpa using this
    exact n▸(Ok.u S x t' _ (aC _))
   ·rename_i hc
    rw[if_neg hc] at e
    refine⟨fits_replaced ⟨#[c]⟩ hb',?_⟩
    exact e▸(Ok.u S _ _ _ (bc _ _))
theorem Kk{vs:List aA}{p:cK}{q:Nat}{j:Int}{t:Tok}{u:aA}{Q:az->Prop}(d:0<=j)(b:j<vs.length)(hz:vs.length<=bz)(g:s.heap.get? p=some (ee vs q))
  (k:∀h',fY p s.heap h'->h'.get? p=some (ee (vs.set j.toNat u) q)->Q {s with heap:=h'}):aI (aH prog G.w) A (setItem (.ref p) (.int j t) u) (λJ=>Q) no s:=by
 unfold WV
 try with_reducible refine bF ?_
 skip
 refine aw (nZ (hX g) (by decide) ?_)
 refine aw (jI (name:=jG "__setitem__") (hX g) slot_list_setitem
  (eM slot_list_setitem (hX g) entry_list_setitem ?_ (args_list_setitem _ _ _)))
 show aI _ _ (q7 (.int j t)>>=_) _ _ s
 refine aw (wpAny_listSubscript_int (fitsIndex_of d (by unfold bz at hz;exact Tw b hz)) ?_)
 obtain⟨j,rfl⟩:=Int.eq_ofNat_of_zero_le d
 have hj:=cv.mp b
 refine aw (aw (wpAny_seqItemAt g rfl (aF ?_)))
 refine(show vs.toArray[j]?=some vs[j] by simp[hj])▸?_
 have c:oy (λxs=>xs.setIfInBounds j u) (ee vs q)=ee (vs.set (j:Int).toNat u) q:=by
  rw[Int.toNat_natCast];simp[oy,ee]
 have a:=k _ (fQ s.heap p (oy λxs=>xs.setIfInBounds j u)) (by rw[jR _ g (c▸rfl),c])
 refine aw (wpAny_setSeqItemAt g rfl ?_)
 first
  |exact aw (aF (aF ⟨.none,rfl,aF a⟩))
  |exact aF ⟨.none,rfl,aF a⟩
theorem yC(S:eV G hb s.heap ρ μ){n:Nat}{p:cK×cK}(d:ρ[n]?=some p)(j:p.2=p.1){vs b:List aA}{q f:Nat}{l:List MV}{h':dO}(c:fY p.1 s.heap h')(i:h'.get? p.1=some (ee b f))(r:dw hb s.heap ρ l b){k:Nat}(m:s.toks<=k):
  bT G hb ρ s ρ (μ.set n (.a l)) {s with heap:=h',toks:=k}:=
 bT.H (x:= .a l) S d (.inl rfl) c ⟨j,b,f,i,dw.t (λa vs g=>(c.2 a ((S.z g rfl p (aU d)).1)).trans g) (λJ J e=>e) _ _ r⟩ k m
theorem Kj{x i y:MV}{v k u:aA}(e:pZ μ x i y=some aG)(S:eV G hb s.heap ρ μ)(C:VR hb s.heap ρ x v)(z:VR hb s.heap ρ i k)(D:VR hb s.heap ρ y u)(L:A.units+80<iy):
  aI (aH prog G.w) A (setItem v k u) (λJ s'=>yJ G hb ρ s aG s') no s:=by
 refine hm e (λnn l h a e=>?_) (λn l h a e=>?_) λJ J J J J h=>nomatch h
 ·refine im e λj h' e=>gm e λhj e=>?_
  refine j8 e ?_;cases h;cases h'
  apply z.f λt=>?_
  apply S.E a C λp vs q c b g r=>?_
  refine m7 hj λN B m=>?_
  rw[<-r.g] at B m
  exact Kk N B m g λh' I F=>⟨ρ,yC S c b (vs:=vs) (q:=q) I F (r.O j.toNat D) (aC _)⟩
 ·refine gm e λd e=>?_
  refine j8 e ?_;cases h
  apply S.Q a C λp P q c b M g H=>?_
  exact q_.o ⟨S,a,c,b,M,g,H,d.1,z⟩ D d.2 L
theorem HN(e:LV μ x i=some aG)(S:eV G hb s.heap ρ μ)(r:VR hb s.heap ρ x v)(j:VR hb s.heap ρ i k)(f:A.units+80<iy):
  aI (aH prog G.w) A (OH v k) (λJ s'=>yJ G hb ρ s aG s') no s:=by
 refine dm e λn l h b e=>gm e λa e=>?_
 refine j8 e ?_;cases h
 apply S.Q b r λp t q m c o g d=>?_
 exact q_.L ⟨S,b,m,c,o,g,d,a.1,j⟩ a.2.1 a.2.2 f
theorem aby{vs:List aA}{p a:cK}{j:Int}{t:Tok}{q:Nat}{Q:az->Prop}(hz:vs.length<=bz)(o:0<=j)(e:s.heap.get? p=some (ee vs q))(sl:s.heap.IsSliceOf a (.int j t) .none .none)
  (k:∀h' r,fY p s.heap h'->h'.get? p=some (ee (vs.take j.toNat) r)->Q {s with heap:=h'}):aI (aH prog G.w) A (OH (.ref p) (.ref a)) (λJ=>Q) no s:=by
 refine pH sl λos b u c=>?_
 have d:s.TypeIs (.ref a) "slice":=⟨os,b,u⟩
 have hsz:vs.toArray.size<=sizeLine:=by rw[b8,d_];unfold bz at hz;exact sE hz
 refine wpAny_delItem_slot (hX e) (by decide) F.slot_list_delitem (eM F.slot_list_delitem (hX e) F.entry_list_delitem ?_ (F.args_list_delitem_2 _ _))
 show aI _ _ (q7 (.ref a)>>=_) _ _ s
 refine aw ?_
 refine aw (jy d slice_no_index ?_)
 refine aF ?_
 refine aw (wpAny_typeOf d ?_)
 rw[if_neg (by decide)]
 rw[listSliceParts_eq]
 refine aw (aw (V8 b c (x:= .none) rfl (aw (FK .none ?_))))
 rw[if_neg (by decide)]
 refine aw (V8 b c (x:= .int j t) rfl (aw (FK (.int j t) ?_)))
 refine aw (V8 b c (x:= .none) rfl (aw (FK .none (aF ?_))))
 refine aw (m:=Builtin.List.listItems (.ref p)) ?_
 refine aw (wpAny_seqItems e rfl (aF ?_))
 refine aw (wpAny_of_eq (sliceIndices_raw (some j) none none vs.toArray.size (by simp)) ?_)
 have l:V5 (some j) none none vs.toArray.size=(((min j.toNat vs.length:Nat):Int),(vs.length:Int),1):=by
  have:=oS (some j.toNat) none vs.toArray.size
  rw[show mS (some j.toNat)=some j by simp[mS];exact Tv o] at this
  simpa[mS] using this
 rw[l]
 dsimp only
 refine aw (FL (aw ?_))
 have g:(vs.zipIdx.filterMap λx=>if sel ((min j.toNat vs.length:Nat):Int) (vs.length:Int) 1 x.snd=true then none else some x.fst).toArray=(vs.take j.toNat).toArray:=by
  rw[EG vs j.toNat vs.length 0 U'];simp
 have n:∀f:Array aA->Array aA,f vs.toArray=(vs.take j.toNat).toArray->Q {s with heap:=s.heap.update p (oy f)}:=λf g=>by
  have i:=FA e f
  rw[g] at i
  exact k _ _ (fQ ..) i
 have hz:(vs.take j.toNat).toArray.size<=V4+1:=by
  rw[b8,gM]
  rw[b8] at hsz
  exact T' hsz
 refine wpAny_updateSeq e rfl ?_ (hz:=hsz) (_hz':=aD (ot (congrArg Array.size g)) hz)
 exact aw (wpAny_letGo (aF ⟨.none,rfl,n _ g⟩))
theorem HM{x i:MV}{v k:aA}(e:HL μ x i=some aG)(S:eV G hb s.heap ρ μ)(I:VR hb s.heap ρ x v)(C:VR hb s.heap ρ i k):
  aI (aH prog G.w) A (OH v (.ref s.heap.objs.size)) (λJ s'=>yJ G hb ρ s aG s') no {s with heap:=s.heap.push {cls:= .type "slice",data:= .fields #[k,.none,.none]}}:=by
 refine lm e λn l h c e=>im e λj h' e=>gm e λhj e=>?_
 refine j8 e ?_;cases h;cases h'
 apply C.f λt=>?_
 have P:=bT.B S (λb o e=>bg {cls:= .type "slice",data:= .fields #[.int j t,.none,.none]} e) s.toks (aC _)
 have sl:=vo s.heap (.int j t) .none .none
 generalize s.heap.push {cls:= .type "slice",data:= .fields #[.int j t,.none,.none]}=h1 at*
 apply P.d.E c (P.y S I) λp vs q D u H r=>?_
 exact aby (s:={s with heap:=h1}) (r.g▸hj.2.2) hj.1 H sl λh' L z m=>yJ.a P ⟨ρ,yC P.d D u (vs:=vs) (q:=q) z m (r.F _) (aC _)⟩
end
end
section
open PySem PySem.Calls PySem.W PyProof.Rows
open PySem Builtin
noncomputable def Back(Q:aA->az->Prop)(r:Result)(s:az):Prop:=match r with
 | .ok (.ret v)=>Q v s
 |_=>False
structure fB (n:Nat) (A:c_):Prop where
 a:A.handled=none
 b:A.depth+4*n+4<=1000
 d:A.units+20*n+200<=9900
theorem pV:recursionLimit=1000:=rfl
theorem Hx:iy=9900:=rfl
theorem fB.u(R:fB n A)(h:k<=199):A.units+k<cLine:=by have:=R.d;rw[Hx];exact TC h this
theorem fB.e(R:fB n A)(h:m<=n):fB m A:=⟨R.a,by have:=R.b;exact TB h this,by have:=R.d;exact TA h this⟩
theorem fB.f(R:fB (n+1) A)(env:Env):fB n (A.deeper env):=⟨R.a,by have:=R.b;show A.depth+1+_+_<=_;exact Hl this,by have:=R.d;show A.units+3+_+_<=_;exact Tz this⟩
theorem fB.g(R:fB (n+1) A)(c:cK)(vals:List aA):fB n (A.under (.builtin "type.__call__" ⟨.ref c::vals,[]⟩)):=
 ⟨R.a,by have:=R.b;rw[PyProof.Rows.depth_under_make];exact Hl this,by have:=R.d;rw[PyProof.Rows.units_under_make];exact Tx this⟩
noncomputable def qj(G:Cfg)(T:Tab)(fa:Nat->cK)(prog:fu)(hb:dO)(n:Nat)(call:Call):Prop:=
 ∀(A:c_),fB n A->∀(f:Nat) (vs:List MV) (μ:Hp) (r:MV) (aG:Hp),call f vs μ=some (r,aG)->
  ∀(ρ:fj) (s:az) (vals:List aA),eV G hb s.heap ρ μ->T.d<=s.toks->dw hb s.heap ρ vs vals->
   nY (aH prog G.w) A (.call (.ref (fa f)) ⟨vals,[]⟩) (Back (Ok G hb ρ s aG r)) s
section
variable{G:Cfg}{T:Tab}{K:Frag}{hb:dO}{ρ:fj}{μ aG:Hp}{s:az}{prog:fu}{A:c_}{fa:Nat->cK}
theorem nE{Q:aA->az->Prop}(h:nY (aH prog G.w) A (.call f ⟨vals,[]⟩) (Back Q) s):aI (aH prog G.w) A (call f vals) Q no s:=
 wpAny_call (codeAny_mono h λr a z=>by
  rcases r with e|(v|_|_|_)<;>exact z)
theorem Nq{fa:Nat->cK}(ST:Dy T G K hb fa){Q:aA×List aA->az->Prop}(i:μ[n]?=some (.d c fs))(hm:T.a c a=some f)(u:bx fs a=none)
  (S:eV G hb s.heap ρ μ) (z:VR hb s.heap ρ (.d n) v) (h:Q (.ref (fa f),[v]) s):aI (aH prog G.w) A (sr v (G.a a) pl) Q no s:=by
 refine Ej (S.V i z) λp j k z0 F C g o r=>?_
 subst z0
 refine k9 (ST.e c a f hm) λt y B x=>?_
 refine HW (qn y) λl q D H E=>?_
 exact method_fn (ST.b.keeps S.m) (qE g o) l q B (beq_iff_eq.mp x) (by show(lookIn _ (iG j k)).map _=_;rw[lookIn_dict,(r.w t C.2).2 u];rfl) h
theorem yd{Q:aA×List aA->az->Prop}(b:μ[n]?=some (.a l))(S:eV G hb s.heap ρ μ)(c:VR hb s.heap ρ (.d n) v)
  (h:Q (.builtin "list.append",[v]) s):aI (aH prog G.w) A (sr v "append" pl) Q no s:=by
 refine ud (S.I b c) λp vs k z0 e f g q=>?_
 subst z0
 exact getMethod_list_append g rfl rfl h
theorem Js{Q:aA×List aA->az->Prop}(b:μ[n]?=some (.a l))(S:eV G hb s.heap ρ μ)(c:VR hb s.heap ρ (.d n) v)
  (h:Q (.builtin "list.pop",[v]) s):aI (aH prog G.w) A (sr v "pop" pl) Q no s:=by
 refine ud (S.I b c) λp vs k z0 f i g q=>?_
 subst z0
 exact getMethod_builtin (hX g) F.plainAttrs_list F.slot_list_pop F.type_list_pop (λa e=>by cases e;exact⟨_,g,rfl⟩) h
theorem Jr{Q:aA×List aA->az->Prop}(c:μ[n]?=some (.b l))(S:eV G hb s.heap ρ μ)(f:VR hb s.heap ρ (.d n) v)
  (h:Q (.builtin "dict.get",[v]) s):aI (aH prog G.w) A (sr v "get" pl) Q no s:=by
 refine Ej (S.R c f) λp i q z0 m j o g k=>?_
 subst z0
 exact getMethod_builtin (cy g) F.plainAttrs_dict F.slot_dict_get F.type_dict_get (λa e=>by cases e;exact⟨_,g,rfl⟩) h
theorem Iq(c:μ[n]?=some (.b l))(x:eL l k=true)(S:eV G hb s.heap ρ μ)(D:VR hb s.heap ρ (.d n) v)(B:VR hb s.heap ρ k key)(z:A.units+80<iy):
  aI (aH prog G.w) A (call (.builtin "dict.get") [v,key]) (Ok G hb ρ s μ ((cR l k).getD .f)) no s:=by
 refine Ej (S.R c D) λp j q z0 e o C g r=>?_
 refine fI z0 ?_
 refine eM F.slot_dict_get (cy g) F.entry_dict_get ?_ (F.args_dict_get_2 _ _)
 show aI _ _ (wI p.1 key>>=_) _ _ s
 refine aw ((⟨S,c,e,o,C,g,r,x,B⟩:q_ G hb ρ μ s n l p j q k key).m (by simp;exact pA z) (λh t a=>?_) λy u E i t a=>?_)
 ·refine aw (wpAny_missed_other (S.N e) (aF ⟨.none,rfl,?_⟩))
  exact h▸(⟨ρ,(bT.l S).u t a,rfl⟩)
 ·exact E▸(aF ⟨u,rfl,ρ,(bT.l S).u t a,i⟩)
theorem Ir(c:μ[n]?=some (.b l))(r:eL l k=true)(S:eV G hb s.heap ρ μ)(D:VR hb s.heap ρ (.d n) v)(z:VR hb s.heap ρ k key)(B:VR hb s.heap ρ d dv)(x:A.units+80<iy):
  aI (aH prog G.w) A (call (.builtin "dict.get") [v,key,dv]) (Ok G hb ρ s μ ((cR l k).getD d)) no s:=by
 refine Ej (S.R c D) λp i q z0 e j C g o=>?_
 refine fI z0 ?_
 refine eM F.slot_dict_get (cy g) F.entry_dict_get ?_ (F.args_dict_get_3 _ _ _)
 show aI _ _ (wI p.1 key>>=_) _ _ s
 refine aw ((⟨S,c,e,j,C,g,o,r,z⟩:q_ G hb ρ μ s n l p i q k key).m (by simp;exact pA x) (λh t a=>?_) λy u E f t a=>?_)
 ·refine aw (wpAny_missed_other (S.N e) (aF ⟨dv,rfl,?_⟩))
  exact h▸(⟨ρ,(bT.l S).u t a,B⟩)
 ·exact E▸(aF ⟨u,rfl,ρ,(bT.l S).u t a,f⟩)
noncomputable def RR(fa:Nat->cK):K1->aA
 | .c f=> .ref (fa f)
 | .a=> .builtin "list.append"
 | .d=> .builtin "list.pop"
 | .b=> .builtin "dict.get"
structure OO (T:Tab) (G:Cfg):Prop where
 a:G.a T.c="append"
 b:G.a T.e="pop"
 c:G.a T.f="get"
theorem yp(ST:Dy T G K hb fa)(j:OO T G){Q:aA×List aA->az->Prop}(e:gI T μ x a=some c)(S:eV G hb s.heap ρ μ)(i:VR hb s.heap ρ x v)
  (h:Q (RR fa c,[v]) s):aI (aH prog G.w) A (sr v (G.a a) pl) Q no s:=by
 refine hm e (λn l h' g q=>?_) (λn l h' g q=>?_) λn p o h' g q=>?_<;>subst h'<;>clear e
 ·by_cases d:a=T.c
  ·rw[if_pos d] at q
   cases q
   rw[d,j.a]
   exact yd g S i h
  ·rw[if_neg d] at q
   by_cases d:a=T.e
   ·rw[if_pos d] at q
    cases q
    exact d▸j.b▸(Js g S i h)
   ·rw[if_neg d] at q;cases q
 ·by_cases d:a=T.f
  ·rw[if_pos d] at q
   cases q
   rw[d,j.c]
   exact Jr g S i h
  ·rw[if_neg d] at q;cases q
 ·refine gm q λk q=>mm q λf m q=>?_
  subst q
  exact Nq ST g m (iE.mp k) S i h
theorem D7(F:qj G T fa prog hb n cl)(R:fB n A)(e:dj cl μ x vs c=some (r,aG))(S:eV G hb s.heap ρ μ)(D:T.d<=s.toks)(m:VR hb s.heap ρ x v)(i:dw hb s.heap ρ vs vals):
  aI (aH prog G.w) A (call (RR fa c) (v::vals)) (Ok G hb ρ s aG r) no s:=by
 cases c with
 |c f=>exact nE (F A R _ _ _ _ _ e ρ s _ S D (dw.o m i))
 |a=>
  refine lm e λn l h g e=>JN e λy t e=>gm e λhz e=>?_
  refine qR e ?_;subst h t
  apply i.I λu j=>?_
  exact yW g hz S m j
 |d=>
  refine lm e λn l h g e=>Cu e λt e=>bm e λy C e=>gm e λhz e=>?_
  cases e;subst h t
  apply i.N
  exact NJ g C hz S m
 |b=>
  refine dm e λn l h g e=>bm e λp q e=>gm e λz e=>?_
  refine qR e ?_;subst h
  cases vs with
  |nil=>cases q
  |cons k vs=>cases vs with
   |nil=>
    cases q
    apply i.I λu j=>?_
    exact Iq g z S m j (R.u (by decide))
   |cons d vs=>cases vs with
    |cons _ _=>cases q
    |nil=>
     cases q
     apply i.M λu J j E=>?_
     apply E.I λH B=>?_
     exact Ir g z S m j B (R.u (by decide))
structure Mks (T:Tab) (K:Frag) (fa:Nat->cK):Prop where
 b:∀c f,T.g c=some (some f)->makesIn K c=true/\lU K (.ref c) "__init__"=some (some (.ref (fa f)))/\typeIn K (.ref (fa f))=some (.type "function")
 a:∀c,T.g c=some none->makesIn K c=true/\lU K (.ref c) "__init__"=some (some (.builtin "object.__init__"))
theorem bT.Z(S:eV G hb s.heap ρ μ)(c:Nat):bT G hb ρ s (ρ++[(s.heap.objs.size+1,s.heap.objs.size)]) (μ++[.d c []]) {s with heap:=(s.heap.push kP).push (mE c s.heap.objs.size)}:=by
 have a:(s.heap.push kP).objs.size=s.heap.objs.size+1:=lx ..
 refine bT.V (x:= .d c []) (p:=(s.heap.objs.size+1,s.heap.objs.size)) S (λb o e=>bg _ (bg _ e)) ?_ (fE _) ⟨⟨lA,λJ h=>nomatch h⟩,?_,[],0,?_,FR.B⟩ s.toks (aC _)
 ·exact tC λo q=>OD.mpr (cN _) (so q)
 ·have:=bU (s.heap.push kP) (o:=mE c s.heap.objs.size) rfl
  rw[a] at this
  exact this
 ·exact bg _ (bU _ rfl)
theorem JD(ST:Dy T G K hb fa)(E:Mks T K fa)(N:qj G T fa prog hb n cl)(R:fB (n+1) A)(e:yf T cl c vs μ=some (r,aG))(S:eV G hb s.heap ρ μ)(L:T.d<=s.toks)
  (x:dw hb s.heap ρ vs vals):aI (aH prog G.w) A (call (.ref c) vals) (Ok G hb ρ s aG r) no s:=by
 have X:=ST.b.keeps S.m
 have P:=bT.Z S c
 have p:VR hb ((s.heap.push kP).push (mE c s.heap.objs.size)) (ρ++[(s.heap.objs.size+1,s.heap.objs.size)]) (.d μ.length) (.ref (s.heap.objs.size+1)):=An S.u
 refine bm e λi C e=>?_
 obtain⟨j,g,d,t,os⟩:=s
 cases i with
 |some f=>
  refine om e λz Q I e=>?_
  cases z with
  |f=>
   refine qR e ?_
   refine m7 (E.b c f C) λk l J=>?_
   refine nE ?_
   refine make_core (makes_of X k) (looks_findIn X l) (λh=>bind_fn X h J) (.inl rfl) ?_
   refine codeAny_mono (N _ (R.g c vals) _ _ _ _ _ I _ _ _ P.d L (dw.o p (P.R S x))) λr O z=>?_
   rcases r with e|(v|_|_|_)<;>first|exact z.elim|skip
   obtain⟨ρ',D,q⟩:=z
   exact⟨q.B,ρ',P.f D,D.y P.d p⟩
  |_=>cases e
 |none=>
  refine Cu e λH e=>?_
  refine qR e ?_;subst H
  refine ir (E.a c C) λk l=>?_
  obtain rfl:=x.m
  refine nE ?_
  have Y:=makes_of (M:=aH prog G.w) X k
  refine make_core Y (looks_findIn X l) (λh=>Looks.of_pure (oi_bind h)) (.inr ⟨rfl,rfl⟩) ?_
  have F:((j.push kP).push (mE c j.objs.size)).get? (j.objs.size+1)=some (mE c j.objs.size):=by
   have:=bU (j.push kP) (o:=mE c j.objs.size) rfl
   rw[lx] at this
   exact this
  refine codeAny_call_builtin oi_plain entry_oi (@check_slot (aH prog G.w) _ _ _ "object.__init__" "object" "__init__" (.ref (j.objs.size+1)) [] [] _ oi_kind oi_split (((Looks.ld F).andThen .now).andThen (Y.top.keeps λb o e=>bg _ (bg _ e))) (oi_args (.ref (j.objs.size+1))) ?_)
  rw[oi_run]
  exact aF ⟨rfl,_,P,p⟩
end
end
section
open PySem PySem.Calls PySem.W PyProof.Rows
open PySem Builtin
section
variable{G:Cfg}{T:Tab}{K:Frag}{hb:dO}{ρ:fj}{μ aG:Hp}{s:az}{prog:fu}{A:c_}
theorem Bz(e:inV μ x d=some r)(S:eV G hb s.heap ρ μ)(z:VR hb s.heap ρ x k)(o:VR hb s.heap ρ d v)(m:A.units+80<iy):
  aI (aH prog G.w) A (FD v k) (λb i=>b=r/\∃t,s.toks<=t/\i={s with toks:=t}) no s:=by
 refine dm e λn l h a e=>gm e λj e=>?_
 refine j8 e ?_;subst h
 apply S.Q a o λp B q u c y g f=>?_
 exact q_.I ⟨S,a,u,c,y,g,f,j,z⟩ m
theorem se{f:Int->Int->Bool}(e:ltI f x y=some r)(h:VR hb s.heap ρ x v)(d:VR hb s.heap ρ y u)(k:∀a b t t',aI (aH prog G.w) A (fR o (.int a t) (.int b t')) (gF s (.bool (f a b))) no s):
  aI (aH prog G.w) A (fR o v u) (gF s (.bool r)) no s:=by
 refine im e λa c e=>im e λb g e=>?_
 refine j8 e ?_;subst c g
 apply h.f λt=>?_
 apply d.f λt'=>?_
 exact k a b t t'
theorem lC(k:D6 o=some op)(e:ct μ op x y=some r)(S:eV G hb s.heap ρ μ)(d:VR hb s.heap ρ x v)(f:VR hb s.heap ρ y u)(g:A.units+80<iy):
  aI (aH prog G.w) A (fR o v u) (gF s (.bool r)) no s:=by
 cases o<;>cases k
 ·exact(Bf e S d f (G5 g)).1
 ·refine mm e λb q h=>?_
  subst h
  exact(Bf q S d f (G5 g)).2
 ·exact se e d f λa b t t'=>PyProof.Rows.lt_int (gF.a _ _)
 ·exact se e d f λa b t t'=>PyProof.Rows.le_int (gF.a _ _)
 ·exact se e d f λa b t t'=>PyProof.Rows.gt_int (gF.a _ _)
 ·exact se e d f λa b t t'=>PyProof.Rows.ge_int (gF.a _ _)
 ·exact(B_ e S d f).1
 ·refine mm e λb q h=>?_
  subst h
  exact(B_ q S d f).2
 ·exact aw (a_ (Bz e S d f g) (λb j h=>by obtain⟨rfl,t,i,rfl⟩:=h;exact aF (gF.c s _ t i)) λJ J h=>h)
 ·refine mm e λb q h=>?_
  refine rI h ?_
  exact aw (a_ (Bz q S d f g) (λb j h=>by obtain⟨rfl,t,i,rfl⟩:=h;exact aF (gF.c s _ t i)) λJ J h=>h)
noncomputable def Lm(w:dW)(hb:dO)(a:cK)(ks:List Int):Prop:=∃b n l,hb.get? a=some (iG b n)/\ER w hb hb [] l b/\l.map (·.1)=ks.map MV.c/\ks.Nodup/\(a==uB)=false
theorem rz(D:Lm G.w hb a ks)(y:∀b o,hb.get? b=some o->s.heap.get? b=some o)(v:A.units+80<iy):
  aI (aH prog G.w) A (FD (.ref a) (.int i t)) (λb H=>b=ks.contains i/\∃t,s.toks<=t/\H={s with toks:=t}) no s:=by
 refine ud D λB n l g E r z L=>?_
 have d:=y _ _ g
 have f:=ER.o (λa vs g=>y _ _ g) (λJ J e=>e) _ _ E
 have N:(l.map (·.1)).Nodup:=r▸(List.Pairwise.map _ (λa b h e=>h (by cases e;rfl)) z)
 have I:eL l (.c i)=true:=by
  refine aE.mpr ⟨rfl,aT.mpr λp M=>?_⟩
  have:p.1∈ks.map MV.c:=r▸(gL M)
  refine cf (cW.mp this) λj J e=>?_
  refine e▸?_;rfl
 have u:∀(h:dO),VR hb h [] (.c i) (.int i t):=λh=>⟨t,rfl⟩
 have q:(jP l (.c i)).isSome=ks.contains i:=by
  unfold jP
  rw[List.findIdx?_isSome]
  have:l.any (λp=>MV.k p.1 (.c i))=(l.map (·.1)).any λx=>MV.k x (.c i):=by rw[List.any_map];rfl
  rw[this,r,List.any_map,List.contains_eq_any_beq]
  congr 1
  funext j
  exact Bool.beq_comm (a:=j) (b:=i)
 unfold FD
 try with_reducible refine bF ?_
 refine aw (jy (cy d) F.slot_dict_contains.lookup ?_)
 rw[if_neg (by rw[yG];exact rE)]
 refine aw (vt (name:=jG "__contains__") (cy d) F.slot_dict_contains
  (eM F.slot_dict_contains (cy d) F.entry_dict_contains ?_ (F.args_dict_contains_2 _ _)))
 show aI _ _ (wI a (.int i t)>>=_) _ _ s
 refine aw ?_
 refine aw (tG (hb:=hb) (ρ:=[]) (k:= .c i) nofun (u _) (by simp;exact pA v) λt' m=>aw (pE (s:={s with toks:=t'}) d f N I (u _) (by simp;exact pA v) ?_))
 cases hi:jP l (.c i) with
 |none=>
  rw[hi] at q
  refine aF ?_
  exact aw (OL L (aF ⟨_,rfl,eU ⟨q▸rfl,t',m,rfl⟩⟩))
 |some j=>
  rw[hi] at q
  refine dG (tj hi) λx P=>?_
  refine vL (f.C P) λe O J J J=>?_
  refine aw (wO (s:={s with toks:=t'}) d rfl (aF ?_))
  have:(B.toArray[j]?).map (·.val)=some e.val:=by simp[O]
  rw[this]
  exact aF ⟨_,rfl,eU ⟨q▸rfl,t',m,rfl⟩⟩
theorem IZ(S:eV G hb s.heap ρ μ)(D:Lm G.w hb a ks)(g:VR hb s.heap ρ (.c i) v)(e:A.units+80<iy):
  aI (aH prog G.w) A (fR .In v (.ref a)) (gF s (.bool (ks.contains i))) no s/\aI (aH prog G.w) A (fR .NotIn v (.ref a)) (gF s (.bool (!ks.contains i))) no s:=by
 refine dG g.c λt z0=>?_
 refine fI z0 ?_
 constructor
 ·exact aw (a_ (rz D S.m e) (λb f h=>by obtain⟨rfl,t,d,rfl⟩:=h;exact aF (gF.c s _ t d)) λJ J h=>h)
 ·exact aw (a_ (rz D S.m e) (λb f h=>by obtain⟨rfl,t,d,rfl⟩:=h;exact aF (gF.c s _ t d)) λJ J h=>h)
theorem Ny(e:ie x=some b)(S:eV G hb s.heap ρ μ)(d:VR hb s.heap ρ x v):aI (aH prog G.w) A (unaryOp .Not v) (Ok G hb ρ s μ (.h (!b))) no s:=by
 refine bF ?_
 exact aw (a_ (qW e d) (λc f h=>by obtain⟨rfl,t,a,rfl⟩:=h;exact aF (Ok.B S _ t a)) λJ J h=>h)
theorem Nu(S:eV G hb s.heap ρ μ)(a:VR hb s.heap ρ (.c i) v):aI (aH prog G.w) A (unaryOp .USub v) (Ok G hb ρ s μ (.c (-i))) no s:=by
 refine dG a.c λt z0=>?_
 refine fI z0 ?_
 exact PyProof.Rows.neg_int (Ok.j S _ _ _ (bc _ _))
end
end
section
open PySem PySem.Calls PySem.W PyProof.Rows
open PySem Builtin
structure b_ (W:cK->Prop) (G:Cfg) (hb:dO) (ρ:fj) (s:az) (ρ':fj) (aG:Hp) (s':az):Prop where
 L:∃e,ρ'=ρ++e/\∀p∈e,s.heap.get? p.1=none/\s.heap.get? p.2=none
 B:eV G hb s'.heap ρ' aG
 u:∀b o,s.heap.get? b=some o->Off ρ b-> ¬W b->s'.heap.get? b=some o
 H:∀a vs,s.heap.get? a=some (cn vs)->s'.heap.get? a=some (cn vs)
 F:∀b,s'.heap.get? b=none->s.heap.get? b=none
 I:s'.gens=s.gens
 Z:s'.os=s.os
 N:s.toks<=s'.toks
section
variable{W W':cK->Prop}{G:Cfg}{hb h h':dO}{ρ ρ' KP:fj}{μ aG KN:Hp}{s s' s'':az}
theorem bT.U(P:bT G hb ρ s ρ' aG s'):∀b,s'.heap.get? b=none->s.heap.get? b=none:=λb z=>by
 refine cf P.E λe z0 j=>?_
 subst z0
 cases w:s.heap.get? b with
 |none=>rfl
 |some o=>
  exfalso
  by_cases c:Off ρ b
  ·rw[P.C _ _ w c] at z;cases z
  ·refine c λq i=>?_
   refine m8 (P.d.X (FY _ i)) λk o2 g a=>?_
   exact⟨(by rintro rfl;rw[z] at g;cases g),(by rintro rfl;rw[z] at a;cases a)⟩
theorem bT.w(S:eV G hb s.heap ρ μ)(P:bT G hb ρ s ρ' aG s'):b_ W G hb ρ s ρ' aG s':=⟨P.E,P.d,λb o g h J=>P.C b o g h,P.N S,P.U,P.F,P.X,P.Y⟩
theorem b_.U(P:b_ W G hb ρ s ρ' aG s'):∀(n:Nat) p,ρ[n]?=some p->ρ'[n]?=some p:=by
 refine cf P.L λe z0 J=>?_
 refine fI z0 ?_
 exact λn p=>kS n p
theorem b_.O(P:b_ W G hb ρ s ρ' aG s')(q:VR hb s.heap ρ x v):VR hb s'.heap ρ' x v:=VR.C P.H P.U x v q
theorem b_.R(P:b_ W G hb ρ s ρ' aG s')(q:dw hb s.heap ρ x v):dw hb s'.heap ρ' x v:=dw.t P.H P.U x v q
theorem b_.M(P:b_ W G hb ρ s ρ' aG s')(g:s.heap.get? b=some o)(h:Off ρ b):Off ρ' b:=by
 refine cf P.L λe z0 c=>?_
 refine fI z0 ?_
 refine h.a λp d=>⟨?_,?_⟩
 ·rintro rfl;rw[(c p d).1] at g;cases g
 ·rintro rfl;rw[(c p d).2] at g;cases g
theorem b_.T(S:eV G hb s.heap ρ μ):b_ W G hb ρ s ρ μ s:=⟨⟨[],by simp,λJ h=>nomatch h⟩,S,λJ J g J J=>g,λJ J g=>g,λJ g=>g,rfl,rfl,aC _⟩
theorem b_.m(P:b_ W G hb ρ s ρ' aG s')(Q:b_ W G hb ρ' s' KP KN s''):b_ W G hb ρ s KP KN s'':=by
 refine cf P.L λe z0 j=>?_
 subst z0
 refine cf Q.L λd f c=>?_
 subst f
 refine⟨⟨e++d,by rw[cC],λp i=>?_⟩,Q.B,λb o g h w=>Q.u b o (P.u b o g h w) (P.M g h) w,λa vs g=>Q.H a vs (P.H a vs g),λb g=>P.F b (Q.F b g),Q.I.trans P.I,Q.Z.trans P.Z,aD P.N Q.N⟩
 rcases cZ.mp i with q|q
 ·exact j p q
 ·exact⟨P.F _ (c p q).1,P.F _ (c p q).2⟩
theorem b_.E(P:b_ W G hb ρ s ρ' aG s')(h:∀b o,s.heap.get? b=some o->W b->W' b):b_ W' G hb ρ s ρ' aG s':=
 ⟨P.L,P.B,λb o g f w=>P.u b o g f λq=>w (h b o g q),P.H,P.F,P.I,P.Z,P.N⟩
theorem b_.Y(P:b_ W G hb ρ s ρ' aG s')(h:∀b o,s.heap.get? b=some o-> ¬W b):bT G hb ρ s ρ' aG s':=
 ⟨P.L,P.B,λb o g f=>P.u b o g f (h b o g),P.I,P.Z,P.N⟩
theorem b_.V(S:eV G hb s.heap ρ μ)(d:∀a,W a->Off ρ a)(i:∀a,W a->hb.get? a=none)(nt:∀a vs,W a->s.heap.get? a≠some (cn vs))(c:∀b o,¬W b->s.heap.get? b=some o->h'.get? b=some o)
  (k:∀b,h'.get? b=none->s.heap.get? b=none) (t:Nat) (l:s.toks<=t):b_ W G hb ρ s ρ μ {s with heap:=h',toks:=t}:=by
 have j:∀a vs,s.heap.get? a=some (cn vs)->h'.get? a=some (cn vs):=λa vs g=>c a _ (λw=>nt a vs w g) g
 refine⟨⟨[],by simp,λJ h=>nomatch h⟩,⟨S.u,λn o p a b=>?_,S.F,S.B,λb o g=>?_,S.L⟩,λb o g J w=>c b o w g,j,k,rfl,rfl,l⟩
 ·have f:=(λp f=>⟨λw=>(d _ w p f).1 rfl,λw=>(d _ w p f).2 rfl⟩:∀p∈ρ,¬W p.1/\ ¬W p.2) p (aU b)
  exact(S.H n o p a b).b j (λJ J e=>e) (λo g=>c _ _ f.1 g) λo g=>c _ _ f.2 g
 ·refine c b o (λw=>?_) (S.m b o g)
  rw[i b w] at g;cases g
theorem vy(c:fY a h h')(g:h'.get? a=some o):∀b,h'.get? b=none->h.get? b=none:=λb e=>by
 by_cases hb:b=a
 ·subst hb;rw[g] at e;cases e
 ·exact(c.2 b hb)▸e
theorem b_.aa(P:b_ W G hb ρ s ρ' aG s')(S:eV G hb s.heap ρ μ)(f:s.heap.get? d=none)(v:Off ρ' d)(J:sz G hb s'.heap (ρ'++[(d,d)]) x (d,d)):
  b_ W G hb ρ s (ρ'++[(d,d)]) (aG++[x]) s':=by
 have S':=P.B
 refine cf P.L λe z0 hf=>?_
 subst z0
 refine⟨⟨e++[(d,d)],by rw[cC],λp Q=>?_⟩,⟨by simp[<-S'.u];exact(aQ (bN [_,_] (V0.A+(V0.B+1)) (V0.A+V0.B+1) .z rfl) (bN [_,_] (V0.A+V0.B+1) (V0.A+(V0.B+1)) .z rfl)),λn o p a b=>?_,λi j p r a b C=>?_,λb o y=>?_,S'.m,S'.L⟩,P.u,P.H,P.F,P.I,P.Z,P.N⟩
 ·rcases cZ.mp Q with h|h
  ·exact hf p h
  ·rw[bK] at h;refine fI h ?_;exact⟨f,f⟩
 ·by_cases k:n<aG.length
  ·replace a:=(aJ k)▸a
   rw[aJ (S'.u▸k)] at b
   exact(S'.H n o p a b).b (λa vs g=>g) (λn p e=>kS n p e) (λo g=>g) λo g=>g
  ·rw[cq (aP k)] at a
   rw[cq (S'.u▸(aP k)),S'.u] at b
   have e:n - aG.length=0:=by
    have:=(ax.mp a).1
    simp at this;exact AZ this
   rw[e] at a b
   simp at a b
   subst a b
   exact J
 ·have c:∀(n:Nat) (q:cK×cK),(ρ++e)[n]?=some q->q.1≠d/\q.2≠d:=λn q l=>by
   have:=v q (aU l)
   exact⟨cH this.1,cH this.2⟩
  by_cases t:i<(ρ++e).length
  ·have a:=(aJ t)▸a
   by_cases hj:j<(ρ++e).length
   ·rw[aJ hj] at b
    exact S'.F i j p r a b C
   ·rw[cq (aP hj)] at b
    have e:j - (ρ++e).length=0:=by have:=(ax.mp b).1;simp at this;simp;exact QH this
    rw[e] at b;simp at b;subst b
    have z:=c i p a
    exact⟨z.1,z.1,z.2,z.2⟩
  ·rw[cq (aP t)] at a
   have w:i - (ρ++e).length=0:=by have:=(ax.mp a).1;simp at this;simp;exact QH this
   rw[w] at a;simp at a;subst a
   by_cases hj:j<(ρ++e).length
   ·rw[aJ hj] at b
    have z:=c j r b
    exact⟨cH z.1,cH z.2,cH z.1,cH z.2⟩
   ·exfalso
    have:=(ax.mp b).1
    rw[ly] at this
    exact aav C t w hj this rfl
 ·refine(S'.B b o y).a λq l=>?_
  rw[bK] at l
  subst l
  have D:=S.m b o y
  refine⟨?_,?_⟩<;>rintro rfl<;>(rw[f] at D;cases D)
theorem b_.ab(P:b_ W G hb ρ s ρ' aG s')(S:eV G hb s.heap ρ μ)(f:s.heap.get? d=none)(b:Off ρ' d)(g:s'.heap.get? d=some (ee vs n))(q:dw hb s'.heap ρ' l vs):
  b_ W G hb ρ s (ρ'++[(d,d)]) (aG++[.a l]) s':=
 P.aa S f b ⟨rfl,vs,_,g,dw.t (λJ J g=>g) (λn p e=>kS n p e) _ _ q⟩
end
noncomputable def jz(env:Env)(a:cK):Prop:=a=env.locals\/∃n,env.cells.lookup n=some a
structure oO (G:Cfg) (hb:dO) (GA BA:cK) (env:Env) (loc:Loc) (h:dO) (ρ:fj):Prop where
 i:env.scope.kind= .function
 p:env.globals=GA
 E:env.builtins=BA
 t:∀x v,bx loc x=some v->x<G.N
 q:Off ρ env.locals
 y:∀a,jz env a->hb.get? a=none
 z:∃m,h.Ns env.locals m/\∀x v,bx loc x=some v->env.kindOf (G.a x)=some .local->∃u,m (G.a x)=some u/\VR hb h ρ v u
 f:∀n c,env.cells.lookup n=some c->Off ρ c/\c≠env.locals/\∃v,h.IsCell c v
 l:∀x v,bx loc x=some v->env.kindOf (G.a x)=some .cell\/env.kindOf (G.a x)=some .free->∃c u,env.cells.lookup (G.a x)=some c/\h.IsCell c (some u)/\VR hb h ρ v u
 j:∀n,env.kindOf n=some .cell->∃c,env.cells.lookup n=some c
 k:∀n n' c,env.cells.lookup n=some c->env.cells.lookup n'=some c->n=n'
theorem hP(l:List (Nat×MV))(k:Nat)(v:MV)(x:Nat):bx (bp l k v) x=if x=k then some v else bx l x:=by
 induction l with
 |nil=>
  by_cases h:x=k
  ·subst h;simp[bp,bx]
  ·have:aR k x=false:=Cv (cH h)
   simp[bp,bx,h,this]
 |cons p l a=>
  obtain⟨y,u⟩:=p
  unfold bp
  cases hy:aR y k with
  |true=>
   refine rI (aK hy) ?_
   by_cases h:x=y
   ·refine rI h ?_;simp[bx]
   ·have:aR y x=false:=Cv (cH h)
    simp[bx,h,this]
  |false=>
   simp only[dx,if_false]
   unfold bx
   cases hx:aR y x with
   |true=>
    refine rI (aK hx) ?_
    have: ¬y=k:=λe=>by subst e;simp at hy
    simp[this]
   |false=>simp only[dx,if_false];exact a
section
variable{W:cK->Prop}{G:Cfg}{hb:dO}{GA BA:cK}{env:Env}{loc loc':Loc}{ρ ρ':fj}{μ aG:Hp}{s s':az}{prog:fu}{A:c_}
theorem oO.B(F:oO G hb GA BA env loc s.heap ρ)(P:b_ W G hb ρ s ρ' aG s')(J:∀a,jz env a-> ¬W a):oO G hb GA BA env loc s'.heap ρ':=by
 refine cf F.z λm z0 hm=>?_
 obtain⟨o,L,R,g,r⟩:=z0
 refine⟨F.i,F.p,F.E,F.t,P.M g F.q,F.y,⟨m,⟨o,L,R,P.u _ _ g F.q (J _ (.inl rfl)),r⟩,λx v e d=>?_⟩,λn c e=>?_,λx v e d=>?_,F.j,F.k⟩
 ·refine cf (hm x v e d) λu b w=>?_
  exact⟨u,b,P.O w⟩
 ·obtain⟨d,b,v,C,w,D⟩:=F.f n c e
  exact⟨P.M w d,b,v,C,P.u _ _ w d (J _ (.inr ⟨n,e⟩)),D⟩
 ·refine dY (F.l x v e d) λc u b N Q=>?_
  obtain⟨C,w,D⟩:=N
  exact⟨c,u,b,⟨C,P.u _ _ w (F.f _ c b).1 (J _ (.inr ⟨_,b⟩)),D⟩,P.O Q⟩
theorem oO.I(F:oO G hb GA BA env loc s.heap ρ)(S:eV G hb s.heap ρ μ)(P:bT G hb ρ s ρ' aG s'):oO G hb GA BA env loc s'.heap ρ':=
 F.B (W:=λJ=>False) (P.w S) λJ J h=>h
theorem oO.K(F:oO G hb GA BA env loc s.heap ρ)(h:jz env a):s.heap.get? a≠some (cn vs):=by
 intro e
 rcases h with rfl|⟨n,h⟩
 ·refine cf F.z λm z0 J=>?_
  obtain⟨o,b,c,g,d,_⟩:=z0
  rw[e] at g;cases g;cases d
 ·obtain⟨_,_,v,o,g,d⟩:=F.f n a h
  rw[e] at g;cases g;cases d
theorem Jz(F:oO G hb GA BA env loc s.heap ρ)(S:eV G hb s.heap ρ μ)(b:env.kindOf (G.a x)=some .local\/env.kindOf (G.a x)=some .cell\/env.kindOf (G.a x)=some .free)
  (e:bx loc x=some r) (n:(G.a x==("__debug__":Str))=false) (o:(G.a x==("__classdict__":Str))=false):aI (aH prog G.w) A (eval (.Name (G.a x) pos) env) (Ok G hb ρ s μ r) no s:=by
 refine wpAny_Name ?_ n
 rcases b with b|b|b
 ·refine cf F.z λm k hm=>?_
  refine cf (hm x r e b) λu g d=>?_
  exact V9 F.i b k g (Ok.f S d)
 ·refine dY (F.l x r e (.inl b)) λc u g d j=>?_
  exact WW F.i b g d (Ok.f S j)
 ·refine dY (F.l x r e (.inr b)) λc u g d j=>?_
  exact wpAny_loadName_free F.i b g d (Ok.f S j) o
theorem qU(F:oO G hb GA BA env loc s.heap ρ)(S:eV G hb s.heap ρ μ)(L:env.kindOf (G.a k)=some .local\/env.kindOf (G.a k)=some .cell)(zE:k<G.N)(hx:VR hb s.heap ρ x v)
  (h1:bx loc' k=some x) (T:∀y,y≠k->bx loc' y=bx loc y):
  aI (aH prog G.w) A (storeName env (G.a k) v) (λJ s'=>b_ (λa=>a=env.locals\/(env.kindOf (G.a k)=some .cell/\jz env a)) G hb ρ s ρ μ s'/\oO G hb GA BA env loc' s'.heap ρ) no s:=by
 have s8:∀y u,bx loc' y=some u->y<G.N:=λy u h=>by
  by_cases e:y=k
  ·refine fI e ?_;exact zE
  ·rw[T y e] at h;exact F.t y u h
 refine cf F.z λm hn hm=>?_
 have ad9:∀vs,s.heap.get? env.locals≠some (cn vs):=λvs=>F.K (.inl rfl)
 rcases L with L|L
 ·refine wpAny_storeName_local L hn (λh' R I=>?_) (by(rw[F.i];rfl))
  refine HX (id R) λo es ep g d r=>?_
  have P:b_ (λa=>a=env.locals) G hb ρ s ρ μ {s with heap:=h',toks:=s.toks+1}:=
   b_.V S (λa w=>by subst w;exact F.q) (λa w=>by subst w;exact F.y _ (.inl rfl)) (λa vs w=>by subst w;exact ad9 vs) (λb o w g=>(I.2 b w).trans g) (vy I g) _ (cN _)
  refine⟨P.E (W':=λa=>a=env.locals\/(env.kindOf (G.a k)=some .cell/\jz env a)) λb o g w=> .inl w,F.i,F.p,F.E,s8,F.q,F.y,⟨_,R,λy u B C=>?_⟩,λn c B=>?_,λy u B C=>?_,F.j,F.k⟩
  ·by_cases e:y=k
   ·subst e
    rw[h1] at B;refine j8 B ?_
    exact⟨v,by simp,P.O hx⟩
   ·replace B:=(T y e)▸B
    refine cf (hm y u B C) λQ D H=>?_
    refine⟨Q,?_,P.O H⟩
    have:G.a y≠G.a k:=λq=>e (G.inj y k (F.t y u B) zE q)
    simp only[if_neg this];exact D
  ·obtain⟨D,H,v',U⟩:=F.f n c B
   exact⟨D,H,v',U.sameBut I H⟩
  ·have e:y≠k:=by rintro rfl;rw[L] at C;rcases C with C|C<;>cases C
   have B:=(T y e)▸B
   refine dY (F.l y u B C) λc Q D H U=>?_
   exact⟨c,Q,D,H.sameBut I (F.f _ c D).2.1,P.O U⟩
 ·refine dG (F.j _ L) λc M=>?_
  obtain⟨D,H,v0,U⟩:=F.f _ c M
  refine wpAny_storeName_cell F.i L M U λh' R I=>?_
  refine cf (id R) λo g d=>?_
  have P:b_ (λa=>a=c) G hb ρ s ρ μ {s with heap:=h',toks:=s.toks}:=
   b_.V S (λa w=>by subst w;exact D) (λa w=>by refine fI w ?_;exact F.y _ (.inr ⟨_,M⟩)) (λa vs w=>by refine fI w ?_;exact F.K (.inr ⟨_,M⟩)) (λb o w g=>(I.2 b w).trans g) (vy I g) _ (aC _)
  refine⟨(P.E (W':=λa=>a=env.locals\/(env.kindOf (G.a k)=some .cell/\jz env a)) λb o g w=> .inr ⟨L,by refine fI w ?_;exact .inr ⟨_,M⟩⟩),F.i,F.p,F.E,s8,F.q,F.y,⟨m,hn.sameBut I (cH H),λy u B C=>?_⟩,λn X B=>?_,λy u B C=>?_,F.j,F.k⟩
  ·have e:y≠k:=by rintro rfl;rw[L] at C;cases C
   rw[T y e] at B
   refine cf (hm y u B C) λQ D H=>?_
   exact⟨Q,D,P.O H⟩
  ·obtain⟨Y,Z,v',w3⟩:=F.f n X B
   by_cases e:X=c
   ·subst e;exact⟨Y,Z,_,R⟩
   ·exact⟨Y,Z,v',w3.sameBut I e⟩
  ·by_cases e:y=k
   ·subst e
    rw[h1] at B;cases B
    exact⟨c,v,M,R,P.O hx⟩
   ·rw[T y e] at B
    refine dY (F.l y u B C) λX Q Y Z w3=>?_
    have:X≠c:=λq=>by
     subst q
     exact e (G.inj y k (F.t y u B) zE (F.k _ _ _ Y M))
    exact⟨X,Q,Y,Z.sameBut I this,P.O w3⟩
end
end
section
open PySem PySem.Calls PySem.W PyProof.Rows
open PySem Builtin
structure Dat where
 X:CX
 T:Tab
 G:Cfg
 K:Frag
 b:dO
 c:Nat->cK
 d:cK
 e:cK
 a:fu
inductive wX (D:Dat) (f:Nat) (F:k6):Prop
 |mk (o:Obj) (fd:VP) (body:List j0):D.b.get? (D.c f)=some o->o.data= .func fd->fd.body= .stmts body->F.b=yK D.X fd.scope.names body->D.b.CodeRec fd.code fd.qualname->fd.closure=[]->fd.globals=D.d->fd.builtins=D.e->
  fd.scope.isCoroutine=false->fd.scope.isGenerator=false->fd.scope.kind= .function->
  (∀vals:List aA,vals.length=F.a.length->bindArgs fd ⟨vals,[]⟩=pure ((F.a.map D.G.a).zip vals))->
  (∀k∈F.a,k<D.G.N/\(fd.scope.names.lookup (D.G.a k)=some .local\/fd.scope.names.lookup (D.G.a k)=some .cell))->
  (∀x∈fd.scope.names,x.2= .cell->fd.scope.names.lookup x.1=some .cell)->kQ D.K (.ref (D.c f))=true->wX D f F
structure gz (D:Dat):Prop where
 e:Dy D.T D.G D.K D.b D.c
 o:Mks D.T D.K D.c
 p:OO D.T D.G
 j:∀c i,D.T.g c=some i->kQ D.K (.ref c)=true
 b:∀x n,D.X.a x=some n->n<D.G.N/\D.G.a n=x/\(x==("__debug__":Str))=false/\(x==("__classdict__":Str))=false
 d:∃mg,D.b.Ns D.d mg/\(∀x v,D.X.b x=some v->(x==("__debug__":Str))=false/\∃u,mg x=some u/\VR D.b D.b [] v u)/\
  (∀x f,D.X.d x=some f->(x==("__debug__":Str))=false/\mg x=some (.ref (D.c f))/\kQ D.K (.ref (D.c f))=true)/\
  (∀x c,D.X.c x=some c->(x==("__debug__":Str))=false/\mg x=some (.ref c))/\
  (∀x ks,D.X.e x=some ks->(x==("__debug__":Str))=false/\∃a,mg x=some (.ref a)/\Lm D.G.w D.b a ks)/\
  (mg "len"=none/\mg "str"=none/\mg "tuple"=none/\mg "range"=none/\mg "enumerate"=none)
 l:∃mb,D.b.Ns D.e mb/\mb "len"=some (.builtin "len")/\mb "str"=some (.type "str")/\mb "tuple"=some (.type "tuple")/\mb "range"=some (.type "range")/\mb "enumerate"=some (.type "enumerate")
 h:D.b.NoLimit
 m:∀k,k<D.G.N->D.G.a k≠(".0":Str)
 g:∀f F,D.T.h f=some F->wX D f F
noncomputable def Ge(sc:Sc)(env:Env):Prop:=∀x,(sc.lookup x=some .local->env.kindOf x=some .local)/\(sc.lookup x=some .cell->env.kindOf x=some .cell)/\
 (sc.lookup x=some .free->env.kindOf x=some .free\/env.kindOf x=some .cell)/\(sc.lookup x=some .globalImplicit->env.kindOf x=some .globalImplicit)
structure At (D:Dat) (sc:Sc) (env:Env) (loc:Loc) (ρ:fj) (μ:Hp) (s:az):Prop where
 d:eV D.G D.b s.heap ρ μ
 e:oO D.G D.b D.d D.e env loc s.heap ρ
 j:D.T.d<=s.toks
 i:Ge sc env
section
variable{D:Dat}{sc:Sc}{env:Env}{loc loc':Loc}{ρ ρ':fj}{μ aG:Hp}{s s':az}{A:c_}{n:Nat}{cl:Call}
theorem At.c(a:At D sc env loc ρ μ s)(P:bT D.G D.b ρ s ρ' aG s'):At D sc env loc ρ' aG s':=⟨P.d,a.e.I a.d P,aD a.j P.Y,a.i⟩
theorem bT.M(L:gz D)(P:bT D.G D.b ρ s ρ' aG s'):D.K.In s'.heap:=L.e.b.keeps P.d.m
noncomputable def bA(D:Dat)(n:Nat)(cl:Call)(e:Expr):Prop:=∀(sc:Sc) (A:c_) (env:Env) (loc:Loc) (ρ:fj) (μ:Hp) (s:az) (r:MV) (aG:Hp),fB (n+1) A->At D sc env loc ρ μ s->
 aO D.T cl (cE D.X sc e) loc μ=some (r,aG)->aI (aH D.a D.G.w) A (eval e env) (Ok D.G D.b ρ s aG r) no s
noncomputable def je(D:Dat)(n:Nat)(cl:Call)(e:Expr):Prop:=∀(sc:Sc) (A:c_) (env:Env) (loc:Loc) (ρ:fj) (μ:Hp) (s:az) (r:MV) (b:Bool) (aG:Hp),fB (n+1) A->At D sc env loc ρ μ s->
 aO D.T cl (cE D.X sc e) loc μ=some (r,aG)->ie r=some b->aI (aH D.a D.G.w) A (isTrue e env (eval e env)) (λc s'=>c=b/\yJ D.G D.b ρ s aG s') no s
noncomputable def wW(D:Dat)(n:Nat)(cl:Call)(e:Expr):Prop:=bA D n cl e/\je D n cl e
theorem Ok.C{Q:aA->az->Prop}(h:aI (aH D.a D.G.w) A m (Ok D.G D.b ρ s bC r) no s)(k:∀bt v s1,bT D.G D.b ρ s bt bC s1->VR D.b s1.heap bt r v->Q v s1):aI (aH D.a D.G.w) A m Q no s:=
 a_ h (λv s1 z=>by obtain⟨bt,P,q⟩:=z;exact k bt v s1 P q) λJ J z=>z
theorem Ok.d{m:Sem aA}{bt:fj}{bC:Hp}{s1:az}{r:MV}(P:bT D.G D.b ρ s bt bC s1)(h:aI (aH D.a D.G.w) A m (Ok D.G D.b bt s1 aG r) no s1):aI (aH D.a D.G.w) A m (Ok D.G D.b ρ s aG r) no s1:=
 a_ h (λJ J k=>Ok.c P k) λJ J z=>z
theorem bA.b(c:bA D n cl e)(R:fB (n+1) A)(a:At D sc env loc ρ μ s){Q:aA->az->Prop}(h:aO D.T cl (cE D.X sc e) loc μ=some (r,bC))
 (k:∀bt v s1,bT D.G D.b ρ s bt bC s1->VR D.b s1.heap bt r v->Q v s1):aI (aH D.a D.G.w) A (eval e env) Q no s:=Ok.C (c sc A env loc ρ μ s r bC R a h) k
noncomputable abbrev TQ(D:Dat)(ρ:fj)(s:az)(aG:Hp)(b:Bool):Bool->az->Prop:=λc s'=>c=b/\yJ D.G D.b ρ s aG s'
theorem je.d(f:je D n cl e)(R:fB (n+1) A)(a:At D sc env loc ρ μ s){Q:Bool->az->Prop}(h:aO D.T cl (cE D.X sc e) loc μ=some (r,bC))(hb:ie r=some b)
  (k:∀bt s1,bT D.G D.b ρ s bt bC s1->Q b s1):aI (aH D.a D.G.w) A (isTrue e env (eval e env)) Q no s:=
 a_ (f sc A env loc ρ μ s r b bC R a h hb) (λc s1 z=>by obtain⟨rfl,bt,P⟩:=z;exact k bt s1 P) λJ J z=>z
theorem TQ.a{m:Sem Bool}{bt:fj}{bC:Hp}{s1:az}{b:Bool}(P:bT D.G D.b ρ s bt bC s1)(h:aI (aH D.a D.G.w) A m (TQ D bt s1 aG b) no s1):aI (aH D.a D.G.w) A m (TQ D ρ s aG b) no s1:=
 a_ h (λJ J k=>⟨k.1,yJ.a P k.2⟩) λJ J z=>z
theorem lO(h:i8 e=false):mV (e::r) env=(false,eval e env)::mV r env:=by
 cases e<;>first|rfl|cases h
theorem kh(h:(e::r).any i8=false):i8 e=false/\r.any i8=false:=iA.mp h
theorem iQ:∀{a:List Expr},a.any i8=false->(FC pos (mV a env)).any (·.1)=false
 |[],_=>rfl
 |e::r,h=>by
  exact(lO (kh h).1)▸(iQ (kh h).2)
theorem p7{Q:List aA->az->Prop}:∀{g:List Expr} {vs:List MV} {ρ:fj} {μ:Hp} {s:az} {aG:Hp},(∀e∈g,bA D n cl e)->g.any i8=false->fB (n+1) A->At D sc env loc ρ μ s->gW D.T cl (y8 D.X sc g) loc μ=some (vs,aG)->
  (∀ρ' vals s',bT D.G D.b ρ s ρ' aG s'->dw D.b s'.heap ρ' vs vals->Q vals s')->aI (aH D.a D.G.w) A (spliced (FC pos (mV g env))) Q no s:=by
 intro g
 induction g generalizing Q with
 |nil=>
  intro vs ρ μ s aG _ _ R a h k
  cases h
  exact V6 (k ρ [] s (bT.l a.d) dw.B)
 |cons e r I=>
  intro vs ρ μ s aG p m R a h k
  refine om h λv bC x h=>om h λH F u h=>?_
  cases h
  exact(lO (kh m).1)▸(wM ((p e (.head _)).b R a x λbt E s1 i t=>I (λe z=>p e (.tail _ z)) (kh m).2 R (a.c i) u λq vals s2 j C=>k q _ s2 (i.f j) (dw.o (j.y i.d t) C)))
theorem sF{Q:Args->az->Prop}(c:trees.any (·.1)=false)(h:aI (aH D.a D.G.w) A (spliced trees) (λvs s'=>Q ⟨vs,[]⟩ s') no s):
  aI (aH D.a D.G.w) A (evalArgs f true trees []) Q no s:=by
 cases trees with
 |nil=>
  refine aw (a_ h (λvs s' h'=>?_) λJ J x=>x)
  refine bF ?_
  exact aw (aF (aw (aF (aF h'))))
 |cons t r=>
  obtain⟨b,x⟩:=t
  simp only[List.any_cons,iA] at c
  obtain⟨rfl,c⟩:=c
  exact evalArgs_plain h
inductive pk (K:Frag):aA->Prop
 |d (a:cK) (h:kQ K (.ref a)=true):pk K (.ref a)
 |b (id:String):pk K (.builtin id)
 |c (T:String):pk K (.type T)
theorem i5{Q:aA->az->Prop}(i:pk D.K f)(e:trees.any (·.1)=false)
  (h:aI (aH D.a D.G.w) A (spliced trees) (λvs g=>D.K.In g.heap/\aI (aH D.a D.G.w) A (call f (first++vs)) Q no g) no s):aI (aH D.a D.G.w) A (V2 pos f first trees []) Q no s:=by
 cases i with
 |d a j=>exact callWith_of (by rw[e];rfl) (keeps_K j) (sF e h)
 |b id=>exact callWith_builtin e (sF e (a_ h (λJ J k=>k.2) λJ J z=>z))
 |c T=>exact PyProof.Rows.callWith_type e (sF e (a_ h (λJ J k=>k.2) λJ J z=>z))
theorem xq{Q:aA->az->Prop}(h:wi o=true)(hm:aI (aH D.a D.G.w) A m Q no s):aI (aH D.a D.G.w) A (attributeBase o a env m) Q no s:=by
 cases o with
 |Call f args ks p=>cases f with
  |Name x q=>cases args with
   |nil=>cases ks with
    |nil=>exact FJ (decide_eq_true (by rw[show(x !="super")=true from h];rfl)) hm
    |cons _ _=>exact hm
   |cons _ _=>exact hm
  |_=>exact hm
 |_=>exact hm
theorem pK{Q:aA->az->Prop}{c:Str->Option aA}(a:At D sc env loc ρ μ s)(f:kG sc x=true)(j:D.b.Ns D.d c)(g:c x=some v)(k:(x==("__debug__":Str))=false)(h:Q v s):
  aI (aH D.a D.G.w) A (eval (.Name x pos) env) Q no s:=by
 refine VV a.e.i ((a.i x).2.2.2 (beq_iff_eq.mp f)) ?_ k
 exact loadGlobal_global (a.e.p▸(j.keeps a.d.m)) g h
theorem Hu{Q:aA->az->Prop}{c f:Str->Option aA}(a:At D sc env loc ρ μ s)(g:kG sc x=true)(k:D.b.Ns D.d c)(j:c x=none)(hb:D.b.Ns D.e f)(o:f x=some v)(l:(x==("__debug__":Str))=false)(h:Q v s):
  aI (aH D.a D.G.w) A (eval (.Name x pos) env) Q no s:=by
 refine VV a.e.i ((a.i x).2.2.2 (beq_iff_eq.mp g)) ?_ l
 exact loadGlobal_builtin (a.e.p▸(k.keeps a.d.m)) j (a.e.E▸(hb.keeps a.d.m)) o h
theorem VR.S(q:VR D.b D.b [] v u)(k:∀b o,D.b.get? b=some o->h.get? b=some o)(ρ:fj):VR D.b h ρ v u:=
 VR.C (λa vs g=>k _ _ g) (λn p e=>by simp at e) v u q
theorem Ez(a:At D sc env loc ρ μ s)(h:I9 sc x=true):env.kindOf x=some .local\/env.kindOf x=some .cell\/env.kindOf x=some .free:=by
 unfold I9 at h
 refine k9 (a.i x) λc d b J=>?_
 split at h
 ·exact .inl (c (by assumption))
 ·exact .inr (.inl (d (by assumption)))
 ·rcases b (by assumption) with k|k
  ·exact .inr (.inr k)
  ·exact .inr (.inl k)
 ·cases h
theorem Vb(L:gz D):bA D n cl (.Name x pos):=by
 intro sc A env loc ρ μ s r aG R a h
 refine iEm h (λl h=>A4 h λk t h=>?_) λJ h=>ug h λg h=>A4 h λv c h=>?_
 ·refine mm h λv c e=>?_
  refine ET e ?_
  refine k9 (L.b x k t) λB p i z=>?_
  subst p
  exact Jz a.e a.d (Ez a l) c i z
 ·refine qR h ?_
  refine pH L.d λC j y J=>?_
  obtain⟨w,u,o,q⟩:=y x _ c
  exact pK a g j o w (Ok.f a.d (q.S a.d.m ρ))
theorem LQ:bA D n cl (.Constant c k pos):=by
 intro sc A env loc ρ μ s r aG R a h
 cases c<;>cases h
 ·exact wpAny_Constant_none (Ok.f a.d rfl)
 ·exact wpAny_Constant_bool (Ok.B a.d _ s.toks (aC _))
 ·exact wpAny_Constant_int (Ok.j a.d _ _ _ (bc _ _))
 ·exact uC (Ok.u a.d _ s.toks (s.toks+1) (bc _ _))
theorem abr(j:bA D n cl l)(q:bA D n cl r):bA D n cl (.BinOp l op r pos):=by
 intro sc A env loc ρ μ s v aG R a h
 refine A4 h λo m h=>om h λx bC p h=>om h λy z k h=>?_
 exact wpAny_BinOp (j.b R a p λbt u s1 g i=>q.b R (a.c g) k λB w s2 e t=>Ok.d (g.f e) (D4 m h e.d (e.y g.d i) t))
theorem pd(i:bA D n cl e)(f:∀whole,isTrue e env whole=(do let v<-whole;standAt e.pos;holding [v] (truthy v))):
  ∀(sc:Sc) (A:c_) (loc:Loc) (ρ:fj) (μ:Hp) (s:az) (r:MV) (b:Bool) (aG:Hp),fB (n+1) A->At D sc env loc ρ μ s->
  aO D.T cl (cE D.X sc e) loc μ=some (r,aG)->ie r=some b->aI (aH D.a D.G.w) A (isTrue e env (eval e env)) (λc s'=>c=b/\yJ D.G D.b ρ s aG s') no s:=by
 intro sc A loc ρ μ s r b aG R a h hb
 refine isTrue_plain (i.b R a h λbt v s1 j d=>a_ (qW hb d) (λc s' k=>?_) λJ J z=>z) (f _)
 obtain⟨rfl,t,g,rfl⟩:=k
 exact⟨rfl,bt,j.u t g⟩
theorem Dp(j:bA D n cl x):bA D n cl (.UnaryOp op x pos):=by
 intro sc A env loc ρ μ s v aG R a h
 cases op with
 |Not=>
  refine om h λu bC g h=>mm h λb hb e=>?_
  refine ET e ?_
  exact wpAny_UnaryOp (j.b R a g λbt k s1 c f=>Ok.d c (Ny hb c.d f))
 |USub=>
  refine om h λu bC g h=>im h λi e h=>?_
  subst e;refine qR h ?_
  exact wpAny_UnaryOp (j.b R a g λbt k s1 c f=>Ok.d c (Nu c.d f))
 |_=>exact stk h
theorem Om(f:wW D n cl x):je D n cl (.UnaryOp op x pos):=by
 intro sc A env loc ρ μ s v b aG R a h hb
 cases op
 case Not=>
  refine om h λu bC g h=>mm h λc j e=>?_
  cases e;refine j8 hb ?_
  exact isTrue_not (f.2.d R a g j λbt s1 i=>⟨rfl,bt,i⟩)
 all_goals exact pd (Dp f.1) (λJ=>rfl) sc A loc ρ μ s v b aG R a h hb
theorem MG(f:je D n cl t)(g:bA D n cl x)(i:bA D n cl y):bA D n cl (.IfExp t x y pos):=by
 intro sc A env loc ρ μ s v aG R a h
 refine om h λu bC e h=>tm h (λhb h=>?_) λhb h=>?_
 ·exact wpAny_IfExp (f.d R a e hb λbt s1 b=>Ok.d b (g sc A env loc bt bC s1 v aG R (a.c b) h))
 ·exact wpAny_IfExp (f.d R a e hb λbt s1 b=>Ok.d b (i sc A env loc bt bC s1 v aG R (a.c b) h))
theorem MH(i:je D n cl t)(j:je D n cl x)(k:je D n cl y):je D n cl (.IfExp t x y pos):=by
 intro sc A env loc ρ μ s v b aG R a h hb
 refine om h λu bC g h=>tm h (λf h=>?_) λf h=>?_
 ·exact isTrue_IfExp (i.d R a g f λbt s1 e=>TQ.a e (j sc A env loc bt bC s1 v b aG R (a.c e) h hb))
 ·exact isTrue_IfExp (i.d R a g f λbt s1 e=>TQ.a e (k sc A env loc bt bC s1 v b aG R (a.c e) h hb))
end
end
section
open PySem PySem.Calls PySem.W PyProof.Rows
open PySem Builtin
section
variable{D:Dat}{sc:Sc}{env:Env}{loc loc':Loc}{ρ ρ':fj}{μ aG:Hp}{s s':az}{A:c_}{n:Nat}{cl:Call}
theorem p_(S:eV D.G D.b s.heap ρ μ){Q:Bool->az->Prop}(e:ie x=some b)(f:VR D.b s.heap ρ x v)(k:∀s',bT D.G D.b ρ s ρ μ s'->Q b s'):aI (aH D.a D.G.w) A (truthy v) Q no s:=
 a_ (qW e f) (λc s' z=>by obtain⟨rfl,t,d,rfl⟩:=z;exact k _ ((bT.l S).u t d)) λJ J z=>z
theorem OQ:∀{k:List Expr},(∀e∈k,bA D n cl e)->bA D n cl (.BoolOp .And k pos)
 |[],_=>λsc A env loc ρ μ s v aG R a h=>stk h
 |[e],ih=>λsc A env loc ρ μ s v aG R a h=>BoolOp_one (ih e (.head _) sc A env loc ρ μ s v aG R a h)
 |e::e'::r,ih=>λsc A env loc ρ μ s v aG R a h=>by
  refine om h λx bC l h=>BoolOp_and ((ih e (.head _)).b R a l λbt o s1 g j=>tm h (λhb h=>?_) λhb h=>?_)
  ·exact p_ g.d hb j λs2 i=>Ok.d (g.f i) (OQ (λx m=>ih x (.tail _ m)) sc A env loc bt bC s2 v aG R (a.c (g.f i)) h)
  ·refine qR h ?_
   exact p_ g.d hb j λs2 i=>⟨bt,g.f i,i.y g.d j⟩
theorem acx:∀{k:List Expr},(∀e∈k,bA D n cl e)->bA D n cl (.BoolOp .Or k pos)
 |[],_=>λsc A env loc ρ μ s v aG R a h=>stk h
 |[e],ih=>λsc A env loc ρ μ s v aG R a h=>BoolOp_one (ih e (.head _) sc A env loc ρ μ s v aG R a h)
 |e::e'::r,ih=>λsc A env loc ρ μ s v aG R a h=>by
  refine om h λx bC l h=>BoolOp_or ((ih e (.head _)).b R a l λbt o s1 g j=>tm h (λhb h=>?_) λhb h=>?_)
  ·refine qR h ?_
   exact p_ g.d hb j λs2 i=>⟨bt,g.f i,i.y g.d j⟩
  ·exact p_ g.d hb j λs2 i=>Ok.d (g.f i) (acx (λx m=>ih x (.tail _ m)) sc A env loc bt bC s2 v aG R (a.c (g.f i)) h)
theorem OR:∀{i:List Expr},(∀e∈i,je D n cl e)->je D n cl (.BoolOp .And i pos)
 |[],_=>λsc A env loc ρ μ s v b aG R a h hb=>stk h
 |[e],ih=>λsc A env loc ρ μ s v b aG R a h hb=>isTrue_and ((ih e (.head _)).d R a h hb λbt s1 P=>by
  cases b
  ·exact⟨rfl,bt,P⟩
  ·exact isTrue_and_nil ⟨rfl,bt,P⟩)
 |e::e'::r,ih=>λsc A env loc ρ μ s v b aG R a h hb=>by
  refine om h λx bC j h=>tm h (λf h=>?_) λf h=>?_
  ·exact isTrue_and ((ih e (.head _)).d R a j f λbt s1 g=>TQ.a g (OR (pos:=pos) (λx k=>ih x (.tail _ k)) sc A env loc bt bC s1 v b aG R (a.c g) h hb))
  ·cases h
   cases f.symm.trans hb
   exact isTrue_and ((ih e (.head _)).d R a j f λbt s1 g=>⟨rfl,bt,g⟩)
theorem acy:∀{i:List Expr},(∀e∈i,je D n cl e)->je D n cl (.BoolOp .Or i pos)
 |[],_=>λsc A env loc ρ μ s v b aG R a h hb=>stk h
 |[e],ih=>λsc A env loc ρ μ s v b aG R a h hb=>isTrue_or ((ih e (.head _)).d R a h hb λbt s1 P=>by
  cases b
  ·exact isTrue_or_nil ⟨rfl,bt,P⟩
  ·exact⟨rfl,bt,P⟩)
 |e::e'::r,ih=>λsc A env loc ρ μ s v b aG R a h hb=>by
  refine om h λx bC j h=>tm h (λf h=>?_) λf h=>?_
  ·cases h
   cases f.symm.trans hb
   exact isTrue_or ((ih e (.head _)).d R a j f λbt s1 g=>⟨rfl,bt,g⟩)
  ·exact isTrue_or ((ih e (.head _)).d R a j f λbt s1 g=>TQ.a g (acy (pos:=pos) (λx k=>ih x (.tail _ k)) sc A env loc bt bC s1 v b aG R (a.c g) h hb))
theorem gF.d(S:eV D.G D.b s.heap ρ μ)(h:gF s x v s'):v=x/\bT D.G D.b ρ s ρ μ s':=by
 obtain⟨rfl,t,e,rfl⟩:=h
 exact⟨rfl,(bT.l S).u t e⟩
theorem Ke{a:Prop}(h:Kd X sc e=some ks)(k:∀x pos,e= .Name x pos->kG sc x=true->X.e x=some ks->a):a:=by
 cases e with
 |Name x pos=>exact gm h λb c=>k x pos rfl b c
 |_=>cases h
theorem mn{Q:aA->az->Prop}(S:eV D.G D.b s.heap ρ μ)(h:aI (aH D.a D.G.w) A m (gF s x) no s)(k:∀s',bT D.G D.b ρ s ρ μ s'->Q x s'):aI (aH D.a D.G.w) A m Q no s:=
 a_ h (λc s' z=>by obtain⟨rfl,P⟩:=gF.d S z;exact k s' P) λJ J z=>z
theorem vD(P:bT D.G D.b ρ s ρ' aG s'):Ok D.G D.b ρ s aG (.h b) (.bool b) s':=⟨ρ',P,rfl⟩
theorem TO{a:Prop}(h:aO T cl (match Kd X sc r with|some ks=>bE (MJ op) λb=>ME.z b ks (cE X sc l)|none=>bE (D6 op) λo=>ME.q o (cE X sc l) (cE X sc r)) loc μ=some q)
  (g:∀ks,Kd X sc r=some ks->aO T cl (bE (MJ op) λb=>ME.z b ks (cE X sc l)) loc μ=some q->a) (c:aO T cl (bE (D6 op) λo=>ME.q o (cE X sc l) (cE X sc r)) loc μ=some q->a):a:=by
 revert h g
 generalize Kd X sc r=o
 intro h g
 cases o with
 |some ks=>exact g ks rfl h
 |none=>exact c h
theorem IY{P:CmpOp->Bool->Prop}(h:MJ op=some ng)(k1:P .In false)(k2:P .NotIn true):P op ng:=by cases op<;>cases h<;>assumption
theorem uQ(L:gz D){E:Prop}(H:bA D n cl l)(Y:bA D n cl r)(R:fB (n+1) A)(a:At D sc env loc ρ μ s)(h:aO D.T cl (cE D.X sc (.Compare l [op] [r] pos)) loc μ=some (v,aG))
  (k:∀b,v= .h b->Lf [op] [r]=false->(∀Q:aA->az->Prop,(∀ρ' s',bT D.G D.b ρ s ρ' aG s'->Q (.bool b) s')->aI (aH D.a D.G.w) A (eval l env) (λv s1=>aI (aH D.a D.G.w) A (eval r env) (λu s1=>aI (aH D.a D.G.w) A (fR op v u) Q no s1) no s1) no s)->E):E:=by
 refine ug h λhm h=>TO h (λks V h=>A4 h λC Z h=>om h λx bC t h=>im h λi hi h=>s2 h λB q=>k _ B.symm hm λQ z=>?_) λh=>A4 h λo ho h=>om h λx bC t h=>om h λy eh M h=>mm h λb hb e=>p2i e λB q=>k b B.symm hm λQ z=>H.b R a t λbt F s1 g m=>Y.b R (a.c g) M λO v2 s2 j N=>mn j.d (lC ho hb j.d (j.y g.d m) N (R.u (by decide))) λs3 W=>z O s3 (q▸((g.f j).f W))
 refine H.b R a (q▸hi▸t) λbt F s1 g m=>Ke V λnm pos e S p=>?_
 refine Eh L.d λmg Wv J J J U J=>?_
 obtain⟨hd,ad,I,sd⟩:=U nm ks p
 refine e▸pK (a.c g) S Wv I hd ?_
 have w:=IZ (A:=A) (prog:=D.a) g.d sd m (R.u (by decide))
 exact IY (P:=λop C=>(∀ρ' s',bT D.G D.b ρ s ρ' aG s'->Q (.bool (ks.contains i !=C)) s')->aI (aH D.a D.G.w) A (fR op F (.ref ad)) Q no s1) Z (λz=>mn g.d w.1 λs' j=>(show(ks.contains i !=false)=ks.contains i from Bool.xor_false _)▸z bt s' (g.f j)) (λz=>mn g.d w.2 λs' j=>(show(ks.contains i !=true)= !ks.contains i from Bool.xor_true _)▸z bt s' (g.f j)) z
theorem TU(L:gz D)(d:bA D n cl l)(c:bA D n cl r):bA D n cl (.Compare l [op] [r] pos):=by
 intro sc A env loc ρ μ s v aG R a h
 refine uQ L d c R a h λb e hm k=>?_
 refine fI e ?_
 exact wpAny_Compare1 (k _ λρ' s' P=>vD P) (by simpa[Lf] using hm)
theorem TV(L:gz D)(d:bA D n cl l)(c:bA D n cl r):je D n cl (.Compare l [op] [r] pos):=by
 intro sc A env loc ρ μ s v f aG R a h hb
 refine uQ L d c R a h λb e hm k=>?_
 subst e;refine j8 hb ?_
 exact wpAny_isTrue_Compare1 (k _ λρ' s' P=>eU ⟨rfl,ρ',P⟩) (by simpa[Lf] using hm)
theorem TX(H:bA D n cl l)(E:bA D n cl r)(I:bA D n cl r'):bA D n cl (.Compare l [op,Rw] [r,r'] pos):=by
 intro sc A env loc ρ μ s v aG R a h
 refine ug h λhm h=>A4 h λo F h=>A4 h λM k h=>om h λx bC G h=>om h λy W t h=>bm h λb hb h=>?_
 refine Compare_chain (H.b R a G λbt T s1 j q=>chain_link (E.b R (a.c j) t λO S s2 g p=>mn g.d (lC F hb g.d (g.y j.d q) p (R.u (by decide))) λU m=>eU ?_)) hm
 have P:=(j.f g).f m
 cases b with
 |false=>refine qR h ?_;exact vD P
 |true=>
  refine om h λz mL C h=>mm h λc w e=>?_
  refine ET e ?_
  exact chain_last (I.b R (a.c P) C λN Q L i J=>mn i.d (lC k w i.d (i.y m.d (m.y g.d p)) J (R.u (by decide))) λV B=>vD ((P.f i).f B))
theorem TY(J:bA D n cl l)(G:bA D n cl r)(L:bA D n cl r'):je D n cl (.Compare l [op,Rw] [r,r'] pos):=by
 intro sc A env loc ρ μ s v T aG R a h hb'
 refine ug h λhm h=>A4 h λo H h=>A4 h λO k h=>om h λx bC I h=>om h λy X w h=>bm h λb hb h=>?_
 refine isTrue_chain (J.b R a I λbt U s1 j q=>test_link (G.b R (a.c j) w λE S s2 g p=>mn g.d (lC H hb g.d (g.y j.d q) p (R.u (by decide))) λV m=>eU ?_)) hm
 have P:=(j.f g).f m
 cases b with
 |false=>cases h;refine j8 hb' ?_;exact⟨rfl,E,P⟩
 |true=>
  refine om h λz mL F h=>mm h λc B e=>?_
  cases e;refine j8 hb' ?_
  exact test_last (L.b R (a.c P) F λt Q N i M=>mn i.d (lC k B i.d (i.y m.d (m.y g.d p)) M (R.u (by decide))) λW C=>eU ⟨rfl,t,(P.f i).f C⟩)
theorem UZ(k:∀e∈es,bA D n cl e):bA D n cl (.List es pos):=by
 intro sc A env loc ρ μ s v aG R a h
 refine ug h λi h=>om h λvs bC j h=>gm h λhz h=>?_
 refine qR h ?_
 exact wpAny_List (p7 k i R a j λbt vals s1 f b=>⟨b.g▸d_▸(QG hz),Ok.c f (Ok.y f.d b _ (aC _))⟩)
theorem Oi(m:∀e∈es,bA D n cl e):bA D n cl (.Tuple es k pos):=by
 intro sc A env loc ρ μ s v aG R a h
 refine ug h λj h=>om h λvs bC l h=>gm h λhz h=>?_
 refine qR h ?_
 refine wpAny_Tuple (p7 m j R a l λbt vals s1 i f=>⟨f.g▸d_▸(QG hz),Ok.c i ?_⟩)
 have kp:∀b o,s1.heap.get? b=some o->(s1.heap.push (cn vals)).get? b=some o:=λb o e=>bg _ e
 refine⟨bt,bT.B i.d kp s1.toks (aC _),?_⟩
 exact⟨_,vals,rfl,bU _ rfl,dw.t (λa vs g=>kp _ _ g) (λJ J e=>e) _ _ f⟩
end
end
section
open PySem PySem.Calls PySem.W PyProof.Rows
open PySem Builtin
section
variable{D:Dat}{sc:Sc}{env:Env}{loc loc':Loc}{ρ ρ':fj}{μ aG:Hp}{s s':az}{A:c_}{n:Nat}{cl:Call}
theorem Jd{a:Prop}(h:acb e=some v)(k:∀x i p,e= .Constant (.str x) i p->v= .g x.cps.toList->a):a:=by
 cases e with
 |Constant c i p=>cases c with
  |str x=>cases h;exact k x i p rfl rfl
  |_=>cases h
 |_=>cases h
theorem mz{b:Prop}(h:nV (o::r)=some l)(g:∀x k p a,o=some (.Constant (.str x) k p)->nV r=some a->l= .g x.cps.toList::a->b):b:=
 bm h λk m h=>mm h λa j e=>bm m λt c q=>Jd q λx i p d f=>g x i p a (c.trans (congrArg some d)) j (e▸f▸rfl)
theorem rB:∀{ks:List (Option Expr)} {l:List MV},nV ks=some l->ks.all (·.isSome)=true/\ks.length=l.length
 |[],l,h=>by refine j8 h ?_;exact⟨rfl,rfl⟩
 |o::r,l,h=>mz h λx k p c e a b=>by
  subst e b
  have z:=rB a
  exact⟨z.1,congrArg Nat.succ z.2⟩
noncomputable def Dw(hb h:dO)(ρ:fj):List MV->List MV->List (aA×aA)->Prop
 |[],[],ps=>ps=[]
 |k::ks,v::vs,ps=>∃p r,ps=p::r/\VR hb h ρ k p.1/\VR hb h ρ v p.2/\Dw hb h ρ ks vs r
 |_,_,_=>False
theorem Dw.a(S:eV D.G D.b s.heap ρ μ)(P:bT D.G D.b ρ s ρ' aG s'):∀{ks vs:List MV} {ps:List (aA×aA)},Dw D.b s.heap ρ ks vs ps->Dw D.b s'.heap ρ' ks vs ps
 |[],[],ps,h=>h
 |k::ks,v::vs,ps,h=>by
  refine pI h λp r e d f c=>?_
  exact⟨p,r,e,P.y S d,P.y S f,Dw.a S P c⟩
 |[],_::_,_,h=>h
 |_::_,[],_,h=>h
set_option tactic.hygienic true in
theorem EU{Q:List (aA×aA)->az->Prop}:∀{ks:List (Option Expr)} {g:List Expr} {l vs:List MV} {ρ:fj} {μ:Hp} {s:az} {aG:Hp},(∀e∈g,bA D n cl e)->nV ks=some l->g.length=l.length->fB (n+1) A->At D sc env loc ρ μ s->gW D.T cl (y8 D.X sc g) loc μ=some (vs,aG)->
  (∀ρ' ps s',bT D.G D.b ρ s ρ' aG s'->Dw D.b s'.heap ρ' l vs ps->Q ps s')->aI (aH D.a D.G.w) A (evalPairs (pairTrees ks g env pos)) Q no s:=by
 intro ks
 induction ks generalizing Q with
 |nil=>
  intro g l vs ρ μ s aG _ q r R a h k
  cases g with
  |cons _ _=>cases q;cases r
  |nil=>
  cases q;cases h
  exact pairTrees_nil_walk (k ρ [] s (bT.l a.d) rfl)
 |cons o ks I=>
  intro g l vs ρ μ s aG B q r R a h k
  cases g with
  |nil=>exact mz q λJ J J J J J e=>by subst e;cases r
  |cons e g=>
  refine mz q λx i p P L t O=>om h λv bC M h=>om h λS V E h=>?_
  subst L O;cases h
  have m:bT D.G D.b ρ s ρ μ {s with toks:=s.toks+1}:=(bT.l a.d).u _ (cN _)
  exact pairTrees_cons_walk (uC ((B e (.head _)).b R (a.c m) M λbt U s1 j C=>I (λe N=>B e (.tail _ N)) t (mN r) R ((a.c m).c j) E λH ps s2 z F=>
   k H _ s2 ((m.f j).f z) ⟨_,_,rfl,z.y j.d (j.y m.d (m.y a.d (⟨s.toks,rfl⟩))),z.y j.d C,F⟩))
theorem HU(l:List (MV×MV))(k v:MV):(iT l k v).length<=l.length+1:=by
 induction l with
 |nil=>simp[iT]
 |cons p l b=>obtain⟨a,x⟩:=p;unfold iT;split<;>simp<;>exact Gy b
theorem wz(F:A.units+80<iy):∀{ks vs:List MV} {ps:List (aA×aA)} {l c:List (MV×MV)} {ρ:fj} {μ:Hp} {s:az},wh ks vs l=some c->Dw D.b s.heap ρ ks vs ps->eV D.G D.b s.heap ρ μ->μ[m]?=some (.b l)->ρ[m]?=some p->
  l.length+ks.length<=1000->aI (aH D.a D.G.w) A (storeAll p.1 ps) (λJ s'=>∃ρ',bT D.G D.b ρ s ρ' (μ.set m (.b c)) s') no s:=by
 intro ks
 induction ks with
 |nil=>
  intro vs ps l c ρ μ s h q S hm j hz
  cases vs with
  |cons _ _=>cases h
  |nil=>
  refine j8 h ?_
  rw[show ps=[] from q]
  unfold storeAll
  rw[wV]
  refine aF ⟨ρ,?_⟩
  have e:μ.set m (.b l)=μ:=by
   apply Oy
   intro i
   by_cases t:i=m
   ·refine fI t ?_;rw[cM (ax.mp hm).1,hm]
   ·rw[cV (cH t)]
  rw[e]
  exact bT.l S
 |cons k ks I=>
  intro vs ps l c ρ μ s h q S hm j hz
  cases vs with
  |nil=>cases h
  |cons v vs=>
  refine pI q λz0 r L x P M=>?_
  obtain⟨R,T⟩:=z0
  refine fI L ?_
  refine gm h λB h=>?_
  ·unfold storeAll
   rw[oj]
   obtain⟨C,N,u,q,g,y⟩:=S.H m _ p hm j
   refine aw (aw (a_ ((⟨S,hm,j,C,N,g,y,B,x⟩:q_ D.G D.b ρ μ s m l p u q k R).H P (by unfold bz;simp at hz;exact aax hz) (G5 F)) (λJ s1 k1=>aF ?_) λJ J z=>z))
   obtain⟨bt,o⟩:=k1
   have z:=I (s:=s1) (ρ:=bt) (μ:=μ.set m (.b (iT l k v))) h (Dw.a S o M) o.d (cM ((ax.mp hm).1)) (o.O m p j) (by have:=HU l k v;simp at hz;exact aaw hz this)
   rw[jv] at z
   exact a_ z (λJ s2 k2=>by refine dG k2 λQ E=>?_;exact⟨Q,o.f E⟩) λJ J z=>z
theorem gU(S:eV D.G D.b s.heap ρ μ)(f:s.heap.get? a=none):Off ρ a:=λp e=>by
 refine m8 (S.X e) λg o2 c d=>?_
 refine⟨?_,?_⟩
 ·rintro rfl;rw[f] at c;cases c
 ·rintro rfl;rw[f] at d;cases d
theorem Dw.b:∀{ks vs:List MV} {ps:List (aA×aA)},Dw D.b h ρ ks vs ps->Dw D.b h (ρ++[p]) ks vs ps
 |[],[],ps,h=>h
 |k::ks,v::vs,ps,h=>by
  refine pI h λp r e d f c=>?_
  exact⟨p,r,e,VR.C (λJ J g=>g) (λn p e=>kS n p e) _ _ d,VR.C (λJ J g=>g) (λn p e=>kS n p e) _ _ f,Dw.b c⟩
 |[],_::_,_,h=>h
 |_::_,[],_,h=>h
theorem T_(S:∀e∈es,bA D n cl e):bA D n cl (.Dict ks es pos):=by
 intro sc A env loc ρ μ s v aG R a h
 refine A4 h λl M h=>ug h λhb h=>om h λvs bC O h=>bm h λd N h=>?_
 refine qR h ?_
 obtain⟨E,g⟩:=aE.mp hb
 have E:=aW E
 have g:=aK g
 obtain⟨k1,k2⟩:=rB M
 have kp:∀b o,s.heap.get? b=some o->(s.heap.push kP).get? b=some o:=λb o e=>bg _ e
 have j:=fE s.heap
 cases ks with
 |nil=>
  obtain rfl:l=[]:=eB.mp k2.symm
  obtain rfl:es=[]:=eB.mp g
  cases O;refine j8 N ?_
  rw[arm_eval_Dict]
  refine aw (du ?_)
  show aI _ _ newDict _ _ s
  refine wpAny_newObj_type ?_
  exact⟨_,bT.V (x:= .b []) (p:=(s.heap.objs.size,s.heap.objs.size)) a.d kp j j ⟨rfl,⟨lA,1,by decide,λJ h=>nomatch h⟩,[],0,bU _ rfl,ER.t⟩ s.toks (aC _),An a.d.u⟩
 |cons o r=>
  have L:bT D.G D.b ρ s ρ μ {s with heap:=s.heap.push kP}:=bT.B a.d kp s.toks (aC _)
  refine wpAny_Dict_any k1 (k2▸g▸rfl) nofun (k2▸E) (EU S M g R (a.c L) O λbt ps s1 F Q=>?_)
  have H:=(((L.f F).w a.d (W:=λJ=>False)).aa a.d (x:= .b []) j (F.I (s:={s with heap:=s.heap.push kP}) (bU _ rfl) (gU a.d j)) ⟨rfl,⟨lA,1,by decide,λJ h=>nomatch h⟩,[],0,F.C _ _ (bU _ rfl) (gU a.d j),ER.t⟩).Y λJ J J h=>h
  have i:=F.d.u
  refine a_ (wz (m:=bC.length) (p:=(s.heap.objs.size,s.heap.objs.size)) (R.u (by decide)) N (Dw.b Q) H.d (by simp) (by rw[<-i];simp) (by simp;exact TF E g k2)) (λJ s2 k=>?_) λJ J z=>z
  obtain⟨P,q⟩:=k
  rw[oN _ _ (aC _)] at q
  simp only[Fx,List.set_cons_zero] at q
  refine⟨P,H.f q,q.y H.d ?_⟩
  exact⟨(s.heap.objs.size,s.heap.objs.size),rfl,by rw[<-i];simp⟩
theorem TL(L:gz D)(j:bA D n cl o):bA D n cl (.Attribute o name pos):=by
 intro sc A env loc ρ μ s v aG R a h
 refine ug h λhb h=>A4 h λk i h=>om h λx bC m h=>mm h λr p e=>?_
 refine ET e ?_
 refine k9 (L.b name k i) λJ l J J=>?_
 rw[arm_eval_Attribute]
 refine aw (xq hb (j.b R a m λbt q s1 f g=>aw (du (aw (bF ?_)))))
 exact l▸(a_ (xJ L.e p f.d g) (λt s2 k=>aw (wpAny_letTemporaryGo (aF (Ok.c f k)))) λJ J z=>z)
theorem Od(h:l_ i=false)(v u:aA):rT i false v u=OI [v,u] (Dv v u):=by
 cases i<;>first|rfl|cases h
theorem adi(k:l_ i=false)(q:bA D n cl o)(m:bA D n cl i):bA D n cl (.Subscript o i pos):=by
 intro sc A env loc ρ μ s v aG R a h
 refine cEm h (λh' J=>by rw[k] at h';cases h') λJ h=>om h λx bC t h=>om h λy E p h=>mm h λr w e=>?_
 refine ET e ?_
 exact Subscript_ (q.b R a t λbt B s1 j l=>m.b R (a.c j) p λF C s2 g z=>Ok.d (j.f g) (Kq w g.d (g.y j.d l) z (R.u (by decide)) (Od k)))
noncomputable def Lk(D:Dat)(n:Nat)(cl:Call):Option Expr->Prop
 |none=>True
 |some e=>bA D n cl e
theorem yl(f:Lk D n cl x)(R:fB (n+1) A)(a:At D sc env loc ρ μ s){Q:aA->az->Prop}(h:Bh D.T cl (Hw D.X sc x) loc μ=some (r,aG))
  (k:∀ρ' v s',bT D.G D.b ρ s ρ' aG s'->OP D.b s'.heap ρ' r v->Q v s'):aI (aH D.a D.G.w) A (evalPart x env) Q no s:=by
 cases x with
 |none=>cases h;rw[K0];exact aF (k ρ .none s (bT.l a.d) rfl)
 |some e=>
  refine om h λv bC c h=>?_
  cases h
  rw[evalPart_some]
  exact bA.b f R a c k
theorem OP.a(S:eV D.G D.b s.heap ρ μ)(P:bT D.G D.b ρ s ρ' aG s')(q:OP D.b s.heap ρ r v):OP D.b s'.heap ρ' r v:=by
 cases r with
 |none=>exact q
 |some x=>exact P.y S (x:=x) q
theorem N1{o:Expr}{lo j:Option Expr}{p pos:Pos}(w:bA D n cl o)(C:Lk D n cl lo)(E:Lk D n cl j):bA D n cl (.Subscript o (.Slice lo j none p) pos):=by
 intro sc A env loc ρ μ s v aG R a h
 refine om h λx bC B h=>om h λy M m h=>om h λz mL t h=>?_
 refine Subscript_ (w.b R a B λbt I s1 g l=>wpAny_Slice (yl C R (a.c g) m λF H s2 e r=>yl E R ((a.c g).c e) t λN G L i q=>?_))
 rw[K0]
 exact aF (a_ (z_ h i.d (i.y e.d (e.y g.d l)) (OP.a e.d i r) q λv u=>rfl) (λJ J k=>Ok.c ((g.f e).f i) k) λJ J z=>z)
end
end
section
open PySem PySem.Calls PySem.W PyProof.Rows
open PySem Builtin
section
variable{D:Dat}{sc:Sc}{env:Env}{loc loc':Loc}{ρ ρ':fj}{μ aG:Hp}{s s':az}{A:c_}{n:Nat}{cl:Call}
theorem EV{trees:List (Bool×Sem aA)}(h:trees.any (·.1)=false):(trees.all λx=> !x.1)=true:=by
 rw[List.all_eq_not_any_not];simpa using h
theorem wg{Q:aA->az->Prop}(hb:wi o=true)(i:args.any i8=false)(f:args.length<=20)(g:(apos.endLine==pos.line)=true)
  (h:aI (aH D.a D.G.w) A (eval o env) (λov s1=>aI (aH D.a D.G.w) A (sr ov name (do return (<-importBound o env).getD true)) (λb s2=>aI (aH D.a D.G.w) A (V2 pos b.1 b.2 (FC pos (mV args env)) []) Q no s2) no s1) no s):
  aI (aH D.a D.G.w) A (eval (.Call (.Attribute o name apos) args [] pos) env) Q no s:=by
 rw[arm_eval_Call]
 refine aw (xq hb (a_ h (λov j c=>?_) λJ J e=>e))
 refine aw (du ?_)
 have d:methodCallForm (args.length+([]:List Keyword).length) (FC pos (mV args env)) (backToKw pos (keywordEach [] env))=true:=by
  show((FC pos (mV args env)).all (λx=> !x.1)&&true&&decide (args.length+0+0<30))=true
  rw[EV (iQ i)]
  simp;exact aar f
 unfold methodCall
 refine d▸(aw (bF (a_ c (λb s2 k=>?_) λJ J z=>z)))
 exact aw (wpAny_of_eq (by unfold methodCallPos;simp[g]) k)
theorem LG(L:gz D)(h:gI D.T μ x a=some c)(e:∀f,c= .c f->kQ D.K (.ref (D.c f))=true):pk D.K (RR D.c c):=by
 cases c with
 |c f=>exact .d _ (e f rfl)
 |a=>exact .b _
 |d=>exact .b _
 |b=>exact .b _
theorem zY(h:gI T μ x a=some (.c f)):∃c,T.a c a=some f:=by
 refine hm h (λn l J J q=>?_) (λn l J J q=>?_) λn c i J J q=>gm q λJ q=>mm q λg d e=>?_
 ·by_cases b:a=T.c
  ·rw[if_pos b] at q;cases q
  ·rw[if_neg b] at q
   by_cases b:a=T.e
   ·rw[if_pos b] at q;cases q
   ·rw[if_neg b] at q;cases q
 ·by_cases b:a=T.f
  ·rw[if_pos b] at q;cases q
  ·rw[if_neg b] at q;cases q
 ·cases e;exact⟨c,d⟩
theorem E6(h:vf T c x y=some r):∃l,x= .g l:=by cases x<;>first|exact⟨_,rfl⟩|cases h
theorem Ol(L:gz D){Q:aA->az->Prop}(p:pk D.K f)(m:args=[.Constant (.str x) kk cp,e])(z:∀e∈args,bA D n cl e)(i:args.any i8=false)(R:fB (n+1) A)(a:At D sc env loc ρ μ s)(h:aO D.T cl (cE D.X sc e) loc μ=some (v,aG))
  (r:∀u s1 bt,bT D.G D.b ρ s bt aG s1->VR D.b s1.heap bt v u->aI (aH D.a D.G.w) A (call f (first++[.str x s.toks,u])) Q no s1):aI (aH D.a D.G.w) A (V2 pos f first (FC pos (mV args env)) []) Q no s:=by
 subst m
 have g:bT D.G D.b ρ s ρ μ {s with toks:=s.toks+1}:=(bT.l a.d).u _ (cN _)
 refine i5 p (iQ i) ?_
 rw[lO rfl]
 refine wM (uC (k:=kk) (pos:=cp) ?_)
 exact(lO (kh (kh i).2).1)▸(wM ((z e (.tail _ (.head _))).b R (a.c g) h λo y t j q=>V6 ⟨j.M L,r y t o (g.f j) q⟩))
theorem U8(L:gz D)(CO:qj D.G D.T D.c D.a D.b n cl)(ho:bA D n cl o)(W:∀e∈args,bA D n cl e)
  (KF:∀c a f,D.T.a c a=some f->kQ D.K (.ref (D.c f))=true):bA D n cl (.Call (.Attribute o name apos) args ks pos):=by
 intro sc A env loc ρ μ s v aG R a h
 refine ug h λE q=>ug q λhb q=>A4 q λk hk q=>ir (iA.mp E) λz UD=>ir (aE.mp hb) λWr F=>ir (aE.mp Wr) λok hn=>k9 (L.b name k hk) λJ hN J J=>?_
 have ek:ks=[]:=by
  cases ks with
  |nil=>rfl
  |cons _ _=>cases UD
 refine fI ek (wg ok z (aW hn) F ?_)
 refine iEm q (λS q=>A4 q λc C h=>HD C λx kk cp e ea hx=>?_) λJ h=>?_
 ·have h:aO D.T cl (.w (cE D.X sc o) c (cE D.X sc e)) loc μ=some (v,aG):=by rw[ea] at h;exact h
  refine om h λy bC O h=>om h λu eh B h=>mm h λr Y e'=>ho.b R a O λbt ov s1 i t=>?_
  refine dG (E6 Y) λI Z=>?_
  apply(Z▸t:VR D.b s1.heap bt (.g I) ov).H λQ=>?_
  rw[show name="replace" from beq_iff_eq.mp S]
  have ex:x=⟨#[c]⟩:=by
   obtain⟨⟨l⟩⟩:=x
   exact congrArg (λl=>Str.mk ⟨l⟩) hx
  refine GM.replace (Ol L (.b _) ea W z R (a.c i) B λuv s3 jX V q3=>?_)
  exact ET (P:=λr aG=>aI (aH D.a D.G.w) A (call (.builtin "str.replace") [.str ⟨I.toArray⟩ Q,.str x s1.toks,uv]) (Ok D.G D.b ρ s aG r) no s3) e' (Ok.d (i.f V) (ex▸E5 (T:=D.T) Y V.d (fI (P:=λy=>VR D.b s3.heap jX y (.str ⟨I.toArray⟩ Q)) Z (by unfold VR;exact⟨Q,rfl⟩)) q3 (a.c i).j))
 ·refine om h λx bC O h=>bm h λc U h=>om h λvs eh B h=>ho.b R a O λbt ov s1 i t=>?_
  have a1:=a.c i
  refine hN▸(yp L.e L.p U i.d t ?_)
  have N:∀f,c= .c f->kQ D.K (.ref (D.c f))=true:=λf ef=>(zY (U.trans (congrArg some ef))).elim λc E=>KF _ _ _ E
  exact i5 (LG L U N) (iQ z) (p7 W z R a1 B λe_ vals s2 m q2=>⟨m.M L,Ok.d (i.f m) (D7 CO (R.e (cN _)) h m.d (a1.c m).j (m.y i.d t) q2)⟩)
theorem xZ{X:CX}{x nm:Str}(h:pN X sc x nm=true):kG sc x=true/\x=nm:=by
 unfold pN at h
 simp only[bO,beq_iff_eq] at h
 exact⟨h.1.1.1.1.1,h.1.1.1.1.2⟩
theorem Cy(L:gz D){Q:aA->az->Prop}(j:pk D.K f)(g:args=[e])(l:∀e∈args,bA D n cl e)(c:args.any i8=false)(R:fB (n+1) A)(a:At D sc env loc ρ μ s)(h:aO D.T cl (cE D.X sc e) loc μ=some (v,aG))
  (k:∀u s1 bt,bT D.G D.b ρ s bt aG s1->VR D.b s1.heap bt v u->aI (aH D.a D.G.w) A (call f [u]) Q no s1):aI (aH D.a D.G.w) A (V2 pos f [] (FC pos (mV args env)) []) Q no s:=by
 subst g
 refine i5 j (iQ c) ?_
 exact(lO (kh c).1)▸(wM ((l e (.head _)).b R a h λbt u s1 d i=>V6 ⟨d.M L,k u s1 bt d i⟩))
theorem vC(L:gz D){x nm:Str}{p pos:Pos}{args:List Expr}{g:aA}{f:ME->ME}{i j:Str->Option aA}{r:MV×Hp}{c:MV->Hp->Option (MV×Hp)}{Q:aA->az->Prop}(a:At D sc env loc ρ μ s)(R:fB (n+1) A)(N:∀e∈args,bA D n cl e)(t:args.any i8=false)(v:D.b.Ns D.d i)(o:D.b.Ns D.e j)
  (q:pN D.X sc x nm=true) (H:i nm=none) (B:j nm=some g) (C:(nm==("__debug__":Str))=false) (F:pk D.K g) (M:∀e,aO D.T cl (f e) loc μ=ob (aO D.T cl e loc μ) c) (h:aO D.T cl (uno f (y8 D.X sc args)) loc μ=some r)
  (k:∀y bC u s1 bt,c y bC=some r->bT D.G D.b ρ s bt bC s1->VR D.b s1.heap bt y u->aI (aH D.a D.G.w) A (call g [u]) Q no s1):aI (aH D.a D.G.w) A (eval (.Call (.Name x p) args [] pos) env) Q no s:=
 aeD h λe I h=>om ((M _).symm.trans h) λy bC E h=>ir (xZ q) λJ z=>fI z (Call_ (Hu a (z▸J) v H o B C (Cy L F I N t R a E λu s1 bt m l=>k y bC u s1 bt h m l)))
theorem Hz(L:gz D)(V:qj D.G D.T D.c D.a D.b n cl)(E:∀e∈args,bA D n cl e):bA D n cl (.Call (.Name x p) args ks pos):=by
 intro sc A env loc ρ μ s v aG R a h
 refine ug h λY q=>ir (iA.mp Y) λB UD=>?_
 have W:ks=[]:=by
  cases ks with
  |nil=>rfl
  |cons _ _=>cases UD
 refine fI W (Eh L.d λmg C _ U S _ n0=>Eh L.l λmb H b1 b2 b3 b4 b5=>?_)
 refine y_ (X:=D.X) (sc:=sc) (x:=x) (P:=λc=>aO D.T cl (Q0 (y8 D.X sc args) c) loc μ=some (v,aG)->aI (aH D.a D.G.w) A (eval (.Call (.Name x p) args [] pos) env) (Ok D.G D.b ρ s aG v) no s)
  stk (λf z Q h=>?_) (λc z Q h=>?_) (λz h=>?_) (λz h=>?_) (λz h=>?_) q
 ·exact om h λvs bC O h=>m7 (U x f Q) λN F hk=>Call_ (pK a z C F N (i5 (.d _ hk) (iQ B) (p7 E B R a O λbt vals s1 k t=>⟨k.M L,Ok.d k (nE (V A (R.e (cN _)) _ _ _ _ _ h bt s1 _ k.d (a.c k).j t))⟩)))
 ·exact om h λvs bC O h=>ir (S x c Q) λN F=>bm (id h) λi hi J=>Call_ (pK a z C F N (i5 (.d _ (L.j c i hi)) (iQ B) (p7 E B R a O λbt vals s1 k t=>⟨k.M L,Ok.d k (JD L.e L.o V R h k.d (a.c k).j t)⟩)))
 ·exact vC L a R E B C H z n0.1 b1 (by decide) (.b _) (λ_=>rfl) h λy bC u s1 bt h k t=>mm h λr I e=>ET (P:=λv aG=>aI (aH D.a D.G.w) A (call (.builtin "len") [u]) (Ok D.G D.b ρ s aG v) no s1) (a:=r) (b:=bC) e (Ok.d k (Jg I k.d t))
 ·exact vC L a R E B C H z n0.2.1 b2 (by decide) (.c _) (λ_=>rfl) h λy bC u s1 bt h k t=>im h λi ei h=>mm h λr I e=>ET (P:=λv aG=>aI (aH D.a D.G.w) A (call (.type "str") [u]) (Ok D.G D.b ρ s aG v) no s1) (a:= .g r) (b:=bC) e (Ok.d k (Ff I k.d (ei▸t)))
 ·exact vC L a R E B C H z n0.2.2.1 b3 (by decide) (.c _) (λ_=>rfl) h λy bC u s1 bt h k t=>lm h λm l Z hl h=>gm h λhz h=>qR (P:=λv aG=>aI (aH D.a D.G.w) A (call (.type "tuple") [u]) (Ok D.G D.b ρ s aG v) no s1) h (Ok.d k (yA hl hz k.d (Z▸t)))
theorem HB(h:bA D n cl (.Call f args ks pos)):je D n cl (.Call f args ks pos):=by
 intro sc A env loc ρ μ s r b aG R a c hb
 exact pd h (λJ=>rfl) sc A loc ρ μ s r b aG R a c hb
end
end
section
open PySem PySem.Calls PySem.W PyProof.Rows
open PySem Builtin
set_option genCtorIdx true in
inductive IK where
 |i (l:List MV)
 |f (m:Nat)
 |g (n:Nat)
 |e (n:Nat)
noncomputable def IK.c(μ:Hp)(k:Nat):IK->Option (Option MV)
 | .i l=>some l[k]?
 | .f m=>some (if k<m then some (.c k) else none)
 | .g n=>rv μ (.d n) λJ l=>some l[k]?
 | .e n=>rv μ (.d n) λJ l=>some ((l[k]?).map λv=> .e [.c k,v])
noncomputable def IK.d:IK->Bool
 | .e _=>true
 |_=>false
noncomputable def ij(hb h:dO)(ρ:fj)(it:aA)(a b:cK)(k:Nat):IK->Prop
 | .i l=>∃t vs,it= .ref a/\h.IsTupleIter a t k/\h.get? t=some (cn vs)/\dw hb h ρ l vs
 | .f m=>it= .ref a/\k<=m/\IsRangeIter h a (k:Int) ((m:Int) - k) 1
 | .g n=>∃p,it= .ref a/\ρ[n]?=some p/\h.IsListIter a p.1 k
 | .e n=>∃p c,it= .ref b/\ρ[n]?=some p/\h.IsListIter a p.1 k/\IsEnum h b a (k:Int) c
section
variable{W:cK->Prop}{G:Cfg}{hb h h':dO}{ρ ρ':fj}{μ aG:Hp}{s s':az}{prog:fu}{A:c_}{it:aA}{a b:cK}{k:Nat}{K:IK}
theorem lI(g:h.get? a=some o)(d:o.data= .fields vs):∀c,h.get? a≠some (cn c):=λc e=>by
 rw[g] at e;cases e;cases d
theorem ij.c(I:ij hb s.heap ρ it a b k K)(P:b_ W G hb ρ s ρ' aG s')(S:eV G hb s.heap ρ μ)(d:Off ρ a)(ob:Off ρ b)(v: ¬W a)(y: ¬W b):ij hb s'.heap ρ' it a b k K:=by
 cases K with
 |i l=>
  refine pI I λt vs e z0 D q=>?_
  obtain⟨o,g,r⟩:=z0
  exact⟨t,vs,e,⟨o,P.u _ _ g d v,r⟩,P.H _ _ D,P.R q⟩
 |f m=>obtain⟨e,C,g⟩:=I;exact⟨e,C,P.u _ _ g d v⟩
 |g n=>
  refine pH I λp e x B=>?_
  obtain⟨o,g,r⟩:=B
  exact⟨p,e,P.U _ _ x,o,P.u _ _ g d v,r⟩
 |e n=>
  refine pI I λp w e x E z=>?_
  obtain⟨o,g,r⟩:=E
  exact⟨p,w,e,P.U _ _ x,⟨o,P.u _ _ g d v,r⟩,P.u _ _ z ob y⟩
theorem ij.i(I:ij hb s.heap ρ it a b k K):∀vs,s.heap.get? a≠some (cn vs):=by
 cases K with
 |i l=>obtain⟨t,vs,e,⟨o,g,_,d⟩,x,q⟩:=I;exact lI g d
 |f m=>obtain⟨e,w,g⟩:=I;exact lI g rfl
 |g n=>obtain⟨p,e,u,⟨o,g,_,d⟩⟩:=I;exact lI g d
 |e n=>obtain⟨p,r,e,u,⟨o,g,_,d⟩,v⟩:=I;exact lI g d
theorem ij.j(I:ij hb s.heap ρ it a b k (.e n)):∀vs,s.heap.get? b≠some (cn vs):=by
 refine pI I λp d e l J g=>?_;exact lI g rfl
theorem pT(S:eV G hb s.heap ρ μ)(i:Off ρ a)(f:hb.get? a=none)(nt:∀vs,s.heap.get? a≠some (cn vs))(d:fY a s.heap h')(g:h'.get? a=some o)(t:Nat)(e:s.toks<=t):b_ (λc=>c=a) G hb ρ s ρ μ {s with heap:=h',toks:=t}:=
 b_.V S (λc w=>by refine fI w ?_;exact i) (λc w=>by refine fI w ?_;exact f) (λc vs w=>by refine fI w ?_;exact nt vs) (λc o w g=>(d.2 c w).trans g) (vy d g) t e
theorem eV.O(S:eV G hb s.heap ρ μ){n:Nat}{l:List MV}{p:cK×cK}{c:Prop}(f:μ[n]?=some (.a l))(d:ρ[n]?=some p)(i:∀vs j,s.heap.get? p.1=some (ee vs j)->dw hb s.heap ρ l vs->c):c:=by
 refine ud (S.I (v:= .ref p.1) f (⟨p,rfl,d⟩)) λo vs j J e J g q=>?_
 rw[d] at e;cases e
 exact i vs j g q
theorem Ct{Q:Option aA->az->Prop}{E:aA->az->Prop}(S:eV G hb s.heap ρ μ)(I:ij hb s.heap ρ it a b k K)(L:Off ρ a)(C:hb.get? a=none)(V:K.d=false){x:MV}(e:K.c μ k=some (some x))
  (q:∀v s',b_ (λc=>c=a) G hb ρ s ρ μ s'->VR hb s'.heap ρ x v->ij hb s'.heap ρ it a b (k+1) K->Q (some v) s'):aI (aH prog G.w) A (FG it) Q E s:=by
 have nt:=I.i
 cases K with
 |i l=>
  refine pI I λt vs u o T r=>?_
  refine u▸?_
  refine cf (r.D (ba e)) λv B F=>?_
  refine wpAny_pyNext_tuple_item (items:=vs.toArray) o ⟨_,T,rfl,_,rfl⟩ (x:=v) (by simpa using B) λh' y z=>?_
  have P:=pT S L C nt z y.choose_spec.1 s.toks (aC _)
  exact q v _ P (P.O F) ⟨t,vs,u,y,P.H _ _ T,P.R r⟩
 |f m=>
  refine m7 I λu Y o=>?_
  refine u▸gm (c:=k<m) (ba e) λM e=>?_
  refine wpAny_pyNext_range_item o (Int.sub_pos_of_lt (cv.mpr M)) λh' y z=>?_
  have P:=pT S L C nt z y (s.toks+1) (cN _)
  refine q _ _ P (ba e▸⟨_,rfl⟩) ⟨u,M,?_⟩
  exact(xg:((k+1:Nat):Int)=(k:Int)+1)▸(((Int.sub_sub _ _ _).symm):(m:Int) - ((k:Int)+1)=(m:Int) - k - 1)▸y
 |g n=>
  refine pH I λp u N o=>?_
  refine u▸lm e λJ l X U e=>S.O U (MV.d.inj X▸N) λvs j g r=>?_
  refine cf (r.D (ba e)) λv B F=>?_
  refine wpAny_pyNext_list_item (items:=vs.toArray) o (gT g) (x:=v) (by simpa using B) λh' y z=>?_
  have P:=pT S L C nt z y.choose_spec.1 s.toks (aC _)
  exact q v _ P (P.O F) ⟨p,u,N,y⟩
 |e n=>cases V
theorem H7{Q:Option aA->az->Prop}{E:aA->az->Prop}(S:eV G hb s.heap ρ μ)(I:ij hb s.heap ρ it a b k K)(y:A.handled=none)(e:K.c μ k=some none)
  (q:∀h',(∀c o,c≠a->s.heap.get? c=some o->h'.get? c=some o)->Q none {s with heap:=h'}):aI (aH prog G.w) A (FG it) Q E s:=by
 have len:∀{l:List MV} {vs:List aA},dw hb s.heap ρ l vs->l[k]?=none->vs.toArray[k]?=none:=λr e=>by
  have:=r.g
  rw[iR] at e
  simp;exact(bN [_,_,_] V0.C V0.B (.o V0.A V0.B (.e V0.C V0.A .z)) rfl e this)
 cases K with
 |i l=>
  refine pI I λt vs v u P r=>?_
  exact v▸wpAny_pyNext_tuple_end (items:=vs.toArray) y u ⟨_,P,rfl,_,rfl⟩ (len r (ba e)) λh' x=>q h' x
 |f m=>
  refine m7 I λv M u=>?_
  have e:=ba e
  by_cases L:k<m
  ·rw[if_pos L] at e;cases e
  ·exact v▸wpAny_pyNext_range_end y u (TG M L) λh' x=>q h' x
 |g n=>
  refine pH I λp v F u=>?_
  exact v▸lm e λJ l H D e=>S.O D (MV.d.inj H▸F) λvs j g r=>wpAny_pyNext_list_end (items:=vs.toArray) y u (gT g) (len r (ba e)) λh' x=>q h' x
 |e n=>
  refine pI I λp N v F u R=>?_
  exact v▸lm e λJ l H D e=>S.O D (MV.d.inj H▸F) λvs j g r=>wpAny_pyNext_enum_end (items:=vs.toArray) y R u (gT g) (len r (Option.map_eq_none_iff.mp (ba e))) λh' x=>q h' x
theorem ij.f{q:Prop}(I:ij hb h ρ it a b k K)(d:∀o,h.get? a=some o->q):q:=by
 cases K with
 |i l=>obtain⟨t,vs,_,⟨o,g,_⟩,_⟩:=I;exact d o g
 |f m=>exact d _ I.2.2
 |g n=>obtain⟨p,_,_,o,g,_⟩:=I;exact d o g
 |e n=>obtain⟨p,r,_,_,⟨o,g,_⟩,_⟩:=I;exact d o g
theorem mi(c:∀b o,h.get? b=some o->h'.get? b=some o)(f:h'.get? b=none):h.get? b=none:=tC λo q=>nn (f.symm.trans (c b o q))
theorem b_.X(P:b_ W G hb ρ s ρ' aG s')(f:s.heap.get? a=none)(l:Off ρ' a)(j:hb.get? a=none)(nt:∀vs,s'.heap.get? a≠some (cn vs))(k:∀c o,c≠a->s'.heap.get? c=some o->h'.get? c=some o):
  b_ W G hb ρ s ρ' aG {s' with heap:=h'}:=by
 have S':=P.B
 have d:∀c vs,s'.heap.get? c=some (cn vs)->h'.get? c=some (cn vs):=λc vs g=>k c _ (by rintro rfl;exact nt vs g) g
 refine⟨P.L,⟨S'.u,λn o p x y=>?_,S'.F,S'.B,λb o g=>k b o (by rintro rfl;rw[j] at g;cases g) (S'.m b o g),S'.L⟩,λb o g r w=>k b o (by rintro rfl;rw[f] at g;cases g) (P.u b o g r w),
  λc vs g=>d c vs (P.H c vs g),λc e=>?_,P.I,P.Z,P.N⟩
 ·have:=l p (aU y)
  exact(S'.H n o p x y).b d (λJ J e=>e) (λo g=>k _ _ (cH this.1) g) λo g=>k _ _ (cH this.2) g
 ·by_cases i:c=a
  ·refine fI i ?_;exact f
  ·refine P.F c ?_
   exact tC λo q=>nn (e.symm.trans (k c o i q))
end
end
section
open PySem PySem.Calls PySem.W PyProof.Rows
open PySem Builtin
inductive Mp (f:MV->Hp->Option (MV×Hp)) (K:IK):Nat->Nat->Hp->List MV->Hp->Prop
 |a {k:Nat} {μ:Hp} (h:K.c μ k=some none):Mp f K k 0 μ [] μ
 |b {k n:Nat} {μ bC aG:Hp} {v x:MV} {xs:List MV} (h:K.c μ k=some (some v)) (hf:f v μ=some (x,bC)) (r:Mp f K (k+1) n bC xs aG):Mp f K k (n+1) μ (x::xs) aG
theorem Jv(f:MV->Hp->Option (MV×Hp))(m:Nat):∀(j:Nat) (k:Nat) (μ aG:Hp) (xs:List MV),k+j=m->yc f ((List.range' k j).map λ(j:Nat)=>MV.c j) μ=some (xs,aG)->Mp f (.f m) k j μ xs aG
 |0,k,μ,aG,xs,h,e=>by
  refine qR e ?_
  exact .a (congrArg some (if_neg (QF h)))
 |j+1,k,μ,aG,xs,h,e=>by
  refine om e λx bC d e=>om e λl i g e=>?_
  refine qR e ?_
  exact .b (congrArg some (if_pos (GZ h))) d (Jv f m j (k+1) _ _ _ (AY h) g)
theorem qH{b:Type}(h:μ[n]?=some (.a l))(f:Nat->List MV->Option b):rv μ (.d n) f=f n l:=by
 unfold rv xQ;dsimp only;rw[h]
theorem qp{l r:List MV}{v:MV}{k:Nat}(h:l.drop k=v::r):k<l.length/\l[k]?=some v/\l.drop (k+1)=r:=by
 have a:k<l.length:=by
  have:=congrArg List.length h
  rw[iL] at this;simp at this;exact TH this
 exact⟨a,by have:=congrArg (λz=>z[0]?) h;simpa using this,by have:=congrArg List.tail h;simpa using this⟩
theorem Ju(f:MV->Hp->Option (MV×Hp))(n:Nat)(all:List MV):∀(r:List MV) (k:Nat) (μ aG:Hp) (xs:List MV),all.drop k=r->k<=all.length->uk f n all r μ=some (xs,aG)->Mp f (.g n) k r.length μ xs aG
 |[],k,μ,aG,xs,h,hk,e=>Dc e λl c d e=>by
  refine qR e ?_
  cases(kq _ _).mp d
  exact .a ((qH c _).trans (congrArg some (iR.mpr (j9.mp h))))
 |v::r,k,μ,aG,xs,h,hk,e=>Dc e λl c d e=>om e λx bC m e=>om e λq t j e=>by
  refine qR e ?_
  cases(kq _ _).mp d
  refine m7 (qp h) λo i p=>?_
  exact .b ((qH c _).trans (congrArg some i)) m (Ju f n all r (k+1) _ _ _ p o j)
theorem nk:(kZ scope env).names.lookup x=(scope.names.lookup x).map λk=>if(k== .free&&env.scope.kind== .function&&env.kindOf x==some .cell) then .cell else k:=by
 unfold kZ
 induction scope.names with
 |nil=>rfl
 |cons p r c=>
  obtain⟨n,k⟩:=p
  rw[dX,da]
  by_cases h:x=n
  ·subst h
   by_cases b:(k== .free&&env.scope.kind== .function&&env.kindOf x==some .cell)=true
   ·rw[if_pos b];simp only[da,beq_self_eq_true,kf,b,if_true]
   ·rw[if_neg b];simp only[da,beq_self_eq_true,kf,if_neg b]
  ·have hb:(x==n)=false:=by simpa using h
   rw[da (a:=x) (k:=n),hb]
   by_cases b:(k== .free&&env.scope.kind== .function&&env.kindOf n==some .cell)=true
   ·rw[if_pos b];simp only[hb];exact c
   ·rw[if_neg b];simp only[hb];exact c
theorem J0(h:(if(kd==pe&&a&&b)=true then iN else kd)= .local):kd= .local:=by
 cases kd<;>cases a<;>cases b<;>first|rfl|(exact absurd h (by decide))
theorem NS(h:(if(kd==pe&&a&&b)=true then iN else kd)= .cell\/(if(kd==pe&&a&&b)=true then iN else kd)= .free):kd= .free\/kd= .cell:=by
 cases kd<;>cases a<;>cases b<;>first|exact .inl rfl|exact .inr rfl|(exact absurd h (by decide))
section
variable{D:Dat}{sc:Sc}{env:Env}{loc loc':Loc}{ρ ρ':fj}{μ aG:Hp}{s s':az}{A:c_}{n:Nat}{cl:Call}
set_option tactic.hygienic true in
theorem l6:∀(names:List (Str×rQ)) (b:List (Str×cK)),(∀x∈names,x.2= .free->∃c,env.cells.lookup x.1=some c)->
  ∃d,(forIn names b λ(x:Str×rQ) (d:List (Str×cK))=>(if x.2== .free then(do let a<-cellOf env x.1;pure (jQ ((x.1,a)::d))) else pure (jQ d):Sem (ForInStep (List (Str×cK)))))=pure d/\
   (∀n c,d.lookup n=some c->b.lookup n=some c\/env.cells.lookup n=some c)/\(∀n,(b.lookup n).isSome->(d.lookup n).isSome)/\∀x∈names,x.2= .free->(d.lookup x.1).isSome
 |[],b,_=>⟨b,wV,λn c h=> .inl h,λn h=>h,λJ h=>nomatch h⟩
 |(nm,k)::r,b,h=>by
  by_cases j:k= .free
  ·subst j
   refine dG (h (nm,.free) (.head _) rfl) λc p=>?_
   refine vL (l6 r ((nm,c)::b) λx f=>h x (.tail _ f)) λd m l g o=>?_
   refine⟨d,?_,λn a t=>?_,λn q=>?_,λx f i=>?_⟩
   ·rw[oj]
    show((do let a<-cellOf env nm;pure (jQ ((nm,a)::b)):Sem (ForInStep (List (Str×cK))))>>=_)=_
    have:cellOf env nm=pure c:=by unfold cellOf;rw[p]
    rw[this,pure_bind,pure_bind]
    exact m
   ·rcases l n a t with z|z
    ·rw[da] at z
     split at z
     ·rename_i e
      refine j8 z ?_
      exact(beq_iff_eq.mp e)▸(.inr p)
     ·exact .inl z
    ·exact .inr z
   ·refine g n ?_
    rw[da]
    split
    ·rfl
    ·exact q
   ·rcases cw.mp f with rfl|f
    ·exact g _ (by simp[da])
    ·exact o x f i
  ·refine vL (l6 r b λx f=>h x (.tail _ f)) λd m l g o=>?_
   refine⟨d,?_,l,g,λx f i=>?_⟩
   ·rw[oj]
    have:(k==pe)=false:=by cases k<;>first|rfl|(exact absurd rfl j)
    simp only[this,dx,if_false]
    rw[pure_bind]
    exact m
   ·rcases cw.mp f with rfl|f
    ·exact absurd i j
    ·exact o x f i
theorem zf(h:∀x∈scope.names,x.2= .free->∃c,env.cells.lookup x.1=some c):
  ∃b,closureFor scope env=pure b/\(∀n c,b.lookup n=some c->env.cells.lookup n=some c)/\∀x∈scope.names,x.2= .free->(b.lookup x.1).isSome:=by
 refine vL (l6 (env:=env) scope.names [] h) λb f e i g=>?_
 refine⟨b,?_,λn c d=>(e n c d).resolve_left (by simp),g⟩
 have:(forIn scope.names ([]:List (Str×cK)) λ(x:Str×rQ) (b:List (Str×cK))=>(if(x.2== .free)=true then(do let a<-cellOf env x.1;pure (jQ ((x.1,a)::b))) else pure (jQ b):Sem (ForInStep (List (Str×cK)))))=pure b:=f
 refine K_ (congrArg (· >>=λb=>pure b) (K_ ?_ this)) (by rw[pure_bind])
 congr 1
noncomputable def JW(l:Loc)(k:Nat):Loc:=l.filter λp=> !aR p.1 k
theorem kI(l:Loc)(k y:Nat):bx (JW l k) y=if y=k then none else bx l y:=by
 induction l with
 |nil=>unfold JW;simp[bx]
 |cons p l b=>
  obtain⟨i,v⟩:=p
  unfold JW at b⊢
  rw[List.filter_cons]
  cases a:aR i k with
  |true=>
   have a:=aK a
   subst a
   simp only[Bool.not_true,dx,if_false]
   rw[b]
   by_cases h:y=i
   ·simp[h]
   ·have:aR i y=false:=Cv (cH h)
    simp[h,bx,this]
  |false=>
   simp only[Bool.not_false,if_true]
   unfold bx
   cases hy:aR i y with
   |true=>
    refine rI (aK hy) ?_
    have: ¬i=k:=λe=>by subst e;simp at a
    simp[this]
   |false=>simp only[dx,if_false];exact b
theorem HG(L:gz D)(a:At D sc env loc ρ μ s)(S':eV D.G D.b h' ρ μ)(r:∀b o,s.heap.get? b=some o->h'.get? b=some o)(V:s.heap.get? C=none)(hN:∃m,h'.Ns C m)
  (U:pS sc scope (D.G.a k)=true) (zE:k<D.G.N) (hk:scope.names.lookup (D.G.a k)=some .local) (H:∀n c,cs.lookup n=some c->env.cells.lookup n=some c) (Z:∀x∈scope.names,x.2= .free->(cs.lookup x.1).isSome) (w:Env) (I:w.scope=kZ scope env) (Q:w.locals=C) (B:w.cells=cs) (hg:w.globals=env.globals) (hb':w.builtins=env.builtins)
  (Wv:∀m,h'.Ns C m->∀y,m y=none):oO D.G D.b D.d D.e w (JW loc k) h' ρ:=by
 have F:=a.e
 unfold pS at U
 rw[bO] at U
 refine ir U λT z=>?_
 have z:=aT.mp z
 have Ci:∀y,w.kindOf y=(scope.names.lookup y).map λk=>if(k== .free&&env.scope.kind== .function&&env.kindOf y==some .cell) then .cell else k:=λy=>by
  unfold rN;rw[I,nk];rfl
 have Bo:∀y,w.kindOf y=some .cell\/w.kindOf y=some .free->scope.names.lookup y=some .free:=λy h=>by
  rw[Ci] at h
  cases hq:scope.names.lookup y with
  |none=>rw[hq] at h;simp at h
  |some kd=>
   replace h:=hq▸h
   have hm:=z _ (iS hq)
   rw[kf] at h
   have qA:=NS (kd:=kd) (a:=env.scope.kind== .function) (b:=env.kindOf y==some .cell) (h.imp ba ba)
   rcases qA with rfl|rfl
   ·rfl
   ·cases hm
 have LJ:∀y,scope.names.lookup y=some .free->env.kindOf y=some .cell:=λy h=>by
  have:=z _ (iS h)
  simp only[bO,beq_iff_eq] at this
  exact(a.i y).2.1 this.1
 have W:∀b,jz w b->b=C\/jz env b:=λb h=>by
  rcases h with h|⟨n,h⟩
  ·exact .inl (h.trans Q)
  ·rw[B] at h;exact .inr (.inr ⟨n,H n b h⟩)
 refine⟨I▸(beq_iff_eq.mp T),hg.trans F.p,hb'.trans F.E,λx v h=>?_,?_,λb h=>?_,?_,λn c h=>?_,λx v j q=>?_,λn h=>?_,λn n' c j q=>?_⟩
 ·rw[kI] at h
  split at h
  ·cases h
  ·exact F.t x v h
 ·exact Q▸(gU a.d V)
 ·rcases W b h with rfl|h
  ·exact mi a.d.m V
  ·exact F.y b h
 ·refine dG hN λm hm=>?_
  refine⟨m,Q▸hm,λx v j q=>?_⟩
  exfalso
  have hx:=F.t x v (by rw[kI] at j;split at j<;>first|(cases j;done)|exact j)
  rw[Ci] at q
  cases hq:scope.names.lookup (D.G.a x) with
  |none=>rw[hq] at q;simp at q
  |some kd=>
   have q:=hq▸q
   rw[kf] at q
   have S:=J0 (a:=env.scope.kind== .function) (b:=env.kindOf (D.G.a x)==some .cell) (ba q)
   subst S
   have:=z _ (iS hq)
   simp only[bO,Bool.or_eq_true,beq_iff_eq] at this
   have e:=D.G.inj _ _ hx zE (this.1.resolve_right (L.m _ hx))
   subst e
   rw[kI] at j;simp at j
 ·replace h:=B▸h
  obtain⟨R,X,v,M⟩:=F.f n c (H n c h)
  refine⟨R,?_,v,M.keeps r⟩
  refine cf M λo g J=>?_
  rintro rfl
  rw[Q,V] at g;cases g
 ·rw[kI] at j
  split at j
  ·cases j
  ·have O:=Bo _ q
   refine dY (F.l x v j (.inl (LJ _ O))) λc u R X M=>?_
   have:=Z _ (iS O) rfl
   refine dG (dT.mp this) λY P=>?_
   have e:=H _ _ P
   rw[R] at e;cases e
   exact⟨c,u,B▸P,X.keeps r,VR.C (λJ J g=>r _ _ g) (λJ J e=>e) _ _ M⟩
 ·have O:=Bo _ (.inl h)
  have:=Z _ (iS O) rfl
  refine dG (dT.mp this) λY P=>?_
  exact⟨Y,B▸P⟩
 ·rw[B] at j q
  exact F.k n n' c (H _ _ j) (H _ _ q)
end
end
section
open PySem PySem.Calls PySem.W PyProof.Rows
open PySem Builtin
section
variable{D:Dat}{sc:Sc}{env:Env}{loc loc':Loc}{ρ ρ':fj}{μ aG:Hp}{s s':az}{A:c_}{n:Nat}{cl:Call}
theorem Ge.a(h:gV.scope=PySem.relabel scope env):Ge scope.names gV:=by
 intro x
 have e:gV.kindOf x=(scope.names.lookup x).map λk=>if(k== .free&&env.scope.kind== .function&&env.kindOf x==some .cell) then .cell else k:=by
  unfold rN;rw[h,nk];rfl
 refine e▸(⟨λq=>by rw[q];rfl,λq=>by rw[q];rfl,λq=>?_,λq=>by rw[q];rfl⟩)
 rw[q,kf]
 split
 ·exact .inr rfl
 ·exact .inl rfl
theorem js{a:Type}{M:Model}{m:Sem a}{Q:a->az->Prop}{E:aA->az->Prop}(h:aI M A m Q (λ_ _=>False) s):aI M A m Q E s:=a_ h (λ_ _ z=>z) λ_ _ z=>z.elim
theorem JI{h:dO}{C:cK}{m c:Str->Option aA}(i:h.Ns C m)(e:h.Ns C c):m=c:=by
 refine LZ i λo r u g d _ f=>?_
 refine LZ e λq p l b a _ j=>?_
 rw[g] at b;cases b
 replace a:=d▸a;cases a
 funext y
 rw[<-f y,<-j y]
theorem dO.a{h:dO}{d:cK}{ys:List aA}{q:Nat}(g:h.get? d=some (ee ys q)):∀vs,h.get? d≠some (cn vs):=λvs e=>absurd (congrArg (λo=>o.map Obj.cls) (g.symm.trans e)) (by simp)
theorem eV.M(S:eV D.G D.b s.heap ρ μ)(f:s.heap.get? b=none):D.b.get? b=none:=mi S.m f
theorem uS(a:At D sc env loc ρ μ s)(d:gV.locals=C)(i:∀n c,gV.cells.lookup n=some c->env.cells.lookup n=some c)(f:s.heap.get? b=none)(h:b≠C):∀c,jz gV c-> ¬c=b:=λc w e=>by
 subst e
 rcases w with w|⟨nm,w⟩
 ·exact h (w.trans d)
 ·obtain⟨_,_,v,o,g,_⟩:=a.e.f nm c (i _ _ w)
  rw[f] at g;cases g
noncomputable def W3(a b c:cK)(x:cK):Prop:=x=a\/x=b\/x=c
inductive adp (D:Dat) (f:MV->Hp->Option (MV×Hp)) (K:IK) (it:aA) (ad Dd C:cK) (gV:Env) (loc:Loc) (k:Nat) (vs:List MV) (aG:Hp) (nn:Nat) (ρ:fj) (s:az) (m:Nat) (t:az):Prop
 |mk (k':Nat) (KO:Hp) (K2 xs:List MV) (tS:fj) (zQ:Loc) (ys:List aA) (q:Nat) (mp:Mp f K k' m KO xs aG) (zH:vs=K2++xs) (P:b_ (W3 ad Dd C) D.G D.b ρ s tS KO t)
  (o1:Off tS ad) (o2:Off tS Dd) (o3:Off tS C) (I:ij D.b t.heap tS it ad ad k' K) (gD:t.heap.get? Dd=some (ee ys q)) (qD:dw D.b t.heap tS K2 ys) (F:oO D.G D.b D.d D.e gV zQ t.heap tS) (hlp:∀y,y≠k->bx zQ y=bx loc y) (hlen:K2.length+m=nn)
theorem tn(h:y≠x):bx ((x,v)::loc) y=bx loc y:=by
 have:aR x y=false:=Cv (cH h)
 simp[bx,this]
section
variable{elt:Expr}{px:Pos}{scope:Ld}{k k':Nat}{K:IK}{it:aA}{ad Dd C:cK}{K2:List MV}{tS:fj}{KO:Hp}{t:az}{zQ:Loc}{gV:Env}{ys:List aA}{q0:Nat}
theorem Eb{Q:Option aA->az->Prop}{E:aA->az->Prop}(R:fB (n+1) A)(a:At D sc env loc ρ μ s)(j:s.heap.get? ad=none)(v:s.heap.get? Dd=none)(O:s.heap.get? C=none)(W:ad≠Dd)(Z:ad≠C)(H:Dd≠C)(U:gV.locals=C)
  (hi:K.c KO k'=some none) (P:b_ (W3 ad Dd C) D.G D.b ρ s tS KO t) (o1:Off tS ad) (o2:Off tS Dd) (o3:Off tS C) (I:ij D.b t.heap tS it ad ad k' K) (S:t.heap.get? Dd=some (ee ys q0)) (J:dw D.b t.heap tS K2 ys) (F:oO D.G D.b D.d D.e gV zQ t.heap tS)
  (m:∀(f:az) (q:fj) (r:Str->Option aA),bT D.G D.b ρ s q (KO++[.a K2]) f->VR D.b f.heap q (.d KO.length) (.ref Dd)->Off q C->f.heap.Ns C r->Q none f):aI (aH D.a D.G.w) A (FG it) Q E t:=
 H7 P.B I R.a hi λT h=>by
  refine cf F.z λr z0 _=>?_
  obtain⟨oC,L,V,N,rC⟩:=z0
  have x:=P.X (h':=T) j o1 (a.d.M j) I.i h
  have l:=x.B.u
  refine m _ _ r ((x.ab a.d v o2 (h _ _ (cH W) S) (dw.t (λc vs g=>h _ _ (by rintro rfl;exact I.i vs g) g) (λ_ _ e=>e) _ _ J)).Y λb o g w=>?_) (⟨(Dd,Dd),rfl,by rw[<-l];simp⟩) (o3.a λp y=>?_) ⟨oC,L,V,h _ _ (cH Z) (U▸N),rC⟩
  ·rcases w with rfl|rfl|rfl
   ·rw[j] at g;cases g
   ·rw[v] at g;cases g
   ·rw[O] at g;cases g
  ·rw[bK] at y
   subst y
   exact⟨cH H,cH H⟩
theorem b_.ac{W:cK->Prop}(P:b_ W D.G D.b ρ s ρ' aG s')(g:s.heap.get? b=some o){a:Prop}(c:∀o,s'.heap.get? b=some o->a):a:=by
 cases q:s'.heap.get? b with
 |some o=>exact c o q
 |none=>rw[P.F _ q] at g;cases g
theorem Ec{Q:Option aA->az->Prop}{E E1 E2 E3:aA->az->Prop}{J:az->Prop}{v y:MV}{bC:Hp}(he:bA D n cl elt)(R:fB (n+1) A)(a:At D sc env loc ρ μ s)(zE:k<D.G.N)(IJ:scope.names.lookup (D.G.a k)=some .local)
  (ui:∀n c,gV.cells.lookup n=some c->env.cells.lookup n=some c) (Ws:gV.scope=kZ scope env) (fa:s.heap.get? ad=none) (Mj:s.heap.get? Dd=none) (Rb:ad≠Dd) (Ra:ad≠C) (Q_:Dd≠C) (zD:gV.locals=C) (qc:K.d=false)
  (hi:K.c KO k'=some (some v)) (hf:aO D.T cl (cE D.X scope.names elt) ((k,v)::loc) KO=some (y,bC)) (P:b_ (W3 ad Dd C) D.G D.b ρ s tS KO t) (Y:Off tS ad) (o2:Off tS Dd) (o3:Off tS C) (I:ij D.b t.heap tS it ad ad k' K) (gD:t.heap.get? Dd=some (ee ys q0)) (qD:dw D.b t.heap tS K2 ys) (F:oO D.G D.b D.d D.e gV zQ t.heap tS)
  (hlp:∀y,y≠k->bx zQ y=bx loc y) (hz:ys.toArray.size<=V4)
  (q:∀u s1,aI (aH D.a D.G.w) A (OG (.Name (D.G.a k) px) gV u) (λ_ s2=>aI (aH D.a D.G.w) A (eval elt gV) (λx s3=>aI (aH D.a D.G.w) A (call (.builtin "list.append") [.ref Dd,x]) (λ_ H=>J H) E3 s3) E2 s2) E1 s1->Q (some u) s1)
  (fin:∀l H w,b_ (W3 ad Dd C) D.G D.b ρ s l bC H->Off l ad->Off l Dd->Off l C->ij D.b H.heap l it ad ad (k'+1) K->H.heap.get? Dd=some (ee (ys++[w]) (q0+1))->dw D.b H.heap l (K2++[y]) (ys++[w])->oO D.G D.b D.d D.e gV ((k,v)::loc) H.heap l->J H):
  aI (aH D.a D.G.w) A (FG it) Q E t:=
 Ct P.B I Y (a.d.M fa) qc hi λu t1 S q1 I1=>q u t1<|by
  have F1:=F.B S (uS a zD ui fa Ra)
  have zF:=(Ge.a Ws (D.G.a k)).1 IJ
  refine wN (js (a_ (qU (loc':=(k,v)::loc) F1 S.B (.inl zF) zE q1 (by simp[bx]) λy hy=>(tn hy).trans (hlp y hy).symm) (λ_ t2 z=>?_) λ_ _ z=>z))
  have i:=z.1.E λb o g w=>by
   rcases w with w|⟨w,_⟩
   ·exact w.trans zD
   ·rw[zF] at w;cases w
  have F2:=z.2
  clear z F1 q1 hlp F
  have I2:=I1.c i S.B Y Y Ra Ra
  have gD2:=i.u _ _ (S.u _ _ gD o2 (cH Rb)) o2 Q_
  have qD2:=i.R (S.R qD)
  have Pt:=(P.m (S.E λb o g w=> .inl w)).m (i.E λb o g w=> .inr (.inr w))
  have V:=i.B
  clear P S i I I1 gD qD
  refine js ((he.b R ⟨V,F2,aD a.j Pt.N,Ge.a Ws⟩ hf) λl w t3 p q3=>?_)
  have Wo:=p.C _ _ gD2 o2
  refine I2.f λoa2 ga2=>?_
  refine cf F2.z λm z0 _=>?_
  obtain⟨oC2,es,ep,Z,r⟩:=z0
  rw[zD] at Z
  refine append_at (hsz:=hz) Wo λh6 hs6 g6=>?_
  have o2':=p.I gD2 o2
  have U:=p.I ga2 Y
  have P4:b_ (λc=>c=Dd) D.G D.b l t3 l bC {t3 with heap:=h6,toks:=t3.toks}:=pT p.d o2' (a.d.M Mj) (dO.a Wo) hs6 g6 t3.toks (aC _)
  exact fin l _ w ((Pt.m (p.w V)).m (P4.E λb o g w=> .inr (.inl w))) U o2' (p.I Z o3) ((I2.c (p.w V (W:=λ_=>False)) V Y Y (λh=>h) λh=>h).c P4 p.d U U Rb Rb) (by rw[g6];simp) ((P4.R (p.R V qD2)).L (P4.O q3)) ((F2.I V p).B P4 (uS a zD ui Mj Q_))
end
theorem Mp.c{f:MV->Hp->Option (MV×Hp)}{K:IK}{k m:Nat}{μ aG:Hp}{xs:List MV}(h:Mp f K k m μ xs aG){d:Prop}(k1:xs=[]->μ=aG->K.c μ k=some none->d)
  (k2:∀j v x r bC,m=j+1->xs=x::r->K.c μ k=some (some v)->f v μ=some (x,bC)->Mp f K (k+1) j bC r aG->d):d:=by
 cases h with
 |a h=>exact k1 rfl rfl h
 |b h e r=>exact k2 _ _ _ _ _ rfl rfl h e r
theorem abS{a:Type}{M:Model}{m:Sem a}{Q:a->az->Prop}{E:aA->az->Prop}(h:∀c,(∀b t,Q b t->c b t)->aI M A m c E s):aI M A m Q E s:=h Q λ_ _ z=>z
theorem Ea(L:gz D){elt iter:Expr}{px pos:Pos}{scope:Ld}{J:List (Str×cK)}{k:Nat}{K:IK}{it:aA}{ad:cK}{O:dO}{S:Nat}{vs:List MV}{nn:Nat}
  (he:bA D n cl elt) (R:fB (n+1) A) (a:At D sc env loc ρ μ s) (zE:k<D.G.N) (yL:pS sc scope (D.G.a k)=true) (IJ:scope.names.lookup (D.G.a k)=some .local)
  (ui:∀n c,J.lookup n=some c->env.cells.lookup n=some c) (oG:∀x∈scope.names,x.2= .free->(J.lookup x.1).isSome)
  (l:∀b o,s.heap.get? b=some o->O.get? b=some o) (ht:s.toks<=S) (fa:s.heap.get? ad=none) (I0:ij D.b O ρ it ad ad 0 K) (qc:K.d=false)
  (Z:∀(t:az) (E:aA->az->Prop) (Q:aA->az->Prop),ij D.b t.heap ρ it ad ad 0 K->Q it t->aI (aH D.a D.G.w) A (OJ it) Q E t)
  {use:Option (aA->Sem Unit)} {Q:aA->az->Prop}
  (fin:∀(Dd C:cK) (t5:az) (qY:fj) (m5:Str->Option aA),bT D.G D.b ρ s qY (aG++[.a vs]) t5->VR D.b t5.heap qY (.d aG.length) (.ref Dd)->s.heap.get? C=none->Off qY C->t5.heap.Ns C m5->rS (aH D.a D.G.w) A no use Q (.ref Dd) C (.ok .next) t5)
  (hz:nn<=bz) (mp:Mp (λi μ=>aO D.T cl (cE D.X scope.names elt) ((k,i)::loc) μ) K 0 nn μ vs aG):
  aI (aH D.a D.G.w) A (newList []) (λacc s3=>aI (aH D.a D.G.w) A (FE scope env.globals J [] env.qual none .none (some env)) (λgV s4=>
   nY (aH D.a D.G.w) A (.compStart (.ListComp elt [⟨.Name (D.G.a k) px,iter,[],0⟩] scope pos) 0 it acc {gV with scope:=kZ scope env})
    (rS (aH D.a D.G.w) A no use Q acc gV.locals) s4) no s3) no {s with heap:=O,toks:=S}:=by
 have p:=aE.mp yL
 have hnc:∀y∈scope.names,y.2≠ .cell:=λy hy e=>by
  have:=aT.mp p.2 y hy
  rw[e] at this;cases this
 refine wpAny_newList ?_ (by simp)
 generalize hD:O.objs.size=Dd
 have hDn:=hD▸fE O
 have Mj:=mi l hDn
 refine wpAny_newFunctionEnv hnc (by intro y hy;simp at hy) (λh4 IL Mz=>?_) (beq_iff_eq.mp p.1)
 generalize hH3:O.push {cls:= .type "list",data:= .seq ([]:List aA).toArray}=h3 at IL Mz⊢
 generalize hC:h3.objs.size=C at IL Mz⊢
 have M:∀b o,O.get? b=some o->h3.get? b=some o:=λb o e=>hH3▸bg _ e
 have Uu:=hC▸fE h3
 have MX:∀b o,s.heap.get? b=some o->h3.get? b=some o:=λb o e=>M _ _ (l _ _ e)
 have K4:=mi MX Uu
 have Wo:=hH3▸hD▸(bU _ rfl)
 have H:∀b o,h3.get? b=some o->h4.get? b=some o:=λb o e=>Mz.extBut b o (by rintro rfl;rw[Uu] at e;cases e) (bg _ e)
 have Q_:Dd≠C:=by rintro rfl;rw[Wo] at Uu;cases Uu
 have Rb:ad≠Dd:=I0.f λo g e=>by rw[e,hDn] at g;cases g
 have Ra:ad≠C:=I0.f λo g e=>by rw[<-e,M _ _ g] at Uu;cases Uu
 clear hnc p hDn Mz hC hD hH3
 have P0:bT D.G D.b ρ s ρ μ {s with heap:=h4,toks:=S}:=bT.B a.d (λb o e=>H _ _ (MX _ _ e)) S ht
 have ND:=gU a.d fa
 have I4:ij D.b h4 ρ it ad ad 0 K:=by
  have S2:=a.d.U l
  exact ij.c (s:={s with heap:=O,toks:=S}) I0 ((bT.B (s:={s with heap:=O,toks:=S}) S2 (λb o e=>H _ _ (M _ _ e)) S (aC _)).w S2 (W:=λ_=>False)) S2 ND ND (λh=>h) λh=>h
 have IC:(newEnv scope C env.globals J env.qual none .none (some env) qb).locals=C:=rfl
 have hb3:(newEnv scope C env.globals J env.qual none .none (some env) qb).cells=J:=rfl
 have hb4:(newEnv scope C env.globals J env.qual none .none (some env) qb).globals=env.globals:=rfl
 have hb5:(newEnv scope C env.globals J env.qual none .none (some env) qb).builtins=env.builtins:=rfl
 generalize newEnv scope C env.globals J env.qual none .none (some env) qb=base at IC hb3 hb4 hb5⊢
 have Ws:({base with scope:=kZ scope env}:Env).scope=kZ scope env:=rfl
 have zD:({base with scope:=kZ scope env}:Env).locals=C:=IC
 have hc3:({base with scope:=kZ scope env}:Env).cells=J:=hb3
 have F0:=HG L a P0.d (λb o e=>H _ _ (MX _ _ e)) K4 ⟨_,IL⟩ yL zE IJ ui oG {base with scope:=kZ scope env} Ws zD hc3 hb4 hb5 λm hm y=>(JI hm IL)▸rfl
 generalize ({base with scope:=kZ scope env}:Env)=gV at Ws zD hc3 F0⊢
 refine IC▸?_
 clear IC hb3 hb4 hb5 IL oG yL M MX Uu
 refine(λ(Y:nY (aH D.a D.G.w) A (.compLoop (.ListComp elt [⟨.Name (D.G.a k) px,iter,[],0⟩] scope pos) 0 it (.ref Dd) gV) (rS (aH D.a D.G.w) A no use Q (.ref Dd) C) {s with heap:=h4,toks:=S})=>codeAny_compStart_list Y (Z _ _ _ I4 Y)) ?_
 refine codeAny_compLoop_list (adp D (λi μ=>aO D.T cl (cE D.X scope.names elt) ((k,i)::loc) μ) K it ad Dd C gV loc k vs aG nn ρ s) (λm t hI=>?_) nn
  ⟨0,μ,[],vs,ρ,JW loc k,[],0,mp,rfl,P0.w a.d,ND,gU a.d Mj,gU a.d K4,I4,H _ _ Wo,dw.B,F0,λy hy=>by rw[kI,if_neg hy],by simp⟩
 clear I0 I4 F0 P0 H Wo mp l Z ND
 refine abS λQ' hq=>?_
 obtain⟨k',KO,K2,xs,tS,zQ,ys,q,hmp,zH,P,o1,o2,o3,I,gD,qD,F,hlp,V⟩:=hI
 exact hmp.c (λex eμ hi=>Eb R a fa Mj K4 Rb Ra Q_ zD hi P o1 o2 o3 I gD qD F λt5 qY m5 PA qq oo nn=>hq _ _ (fin Dd C t5 qY m5 (eμ▸(show vs=K2 from(zH.trans (ex▸d8 _)))▸PA) (eμ▸qq) K4 oo nn))
  λj v x r bC em ex hi hf hr=>Ec (px:=px) he R a zE IJ (hc3▸ui) Ws fa Mj Rb Ra Q_ zD qc hi hf P o1 o2 o3 I gD qD F hlp (by rw[b8,qD.g,d_];unfold bz at hz;exact(bN [_,_,_] V0.B 16777216 (.o V0.A 1000000 (.e (V0.B+(V0.C+1)) V0.A .z)) rfl hz (em▸V))) (λu s1 h=>hq _ _ h) λjX s4 w PP p1 p2 p3 II gg vv FF=>
   ⟨j,em▸dh _,.mk _ _ _ _ jX _ _ _ hr (by rw[zH,ex];simp) PP p1 p2 p3 II gg vv FF (λy hy=>tn hy) (by simp;exact AY (em▸V))⟩
theorem HF(a:At D sc env loc ρ μ s)(Dd C:cK)(j:az)(p:fj)(v:Str->Option aA)(P:bT D.G D.b ρ s p (aG++[.a vs]) j)(q:VR D.b j.heap p (.d aG.length) (.ref Dd))(f:s.heap.get? C=none)(o:Off p C)(u:j.heap.Ns C v):
  rS (aH D.a D.G.w) A no none (Ok D.G D.b ρ s (aG++[.a vs]) (.d aG.length)) (.ref Dd) C (.ok .next) j:=by
 refine⟨v,u,λx i=>?_⟩
 refine HX u λoC B E y dC _=>?_
 have r:D.b.get? C=none:=mi a.d.m f
 have l:∀vs,j.heap.get? C≠some (cn vs):=λvs e=>by rw[y] at e;cases e;cases dC
 refine⟨p,((P.w a.d (W:=λ_=>False)).X (h':=x) f o r l λc o z g=>(i.2 c z).trans g).Y λ_ _ _ h=>h,VR.C (λc vs g=>(i.2 c (by rintro rfl;exact l vs g)).trans g) (λ_ _ e=>e) _ _ q⟩
theorem De{iter:Expr}(h:I_ iter=false)(x:aA):foldedSetIterable iter env x=pure x:=by
 cases iter<;>first|rfl|cases h
inductive yR (D:Dat) (ρ:fj) (s:az) (μ:Hp) (K:IK) (it:aA) (s2:az):Prop
 |mk (ad bd:cK) (s1:az) (bt:fj) (h2:dO) (t2:Nat) (e:s2={s1 with heap:=h2,toks:=t2}) (P:bT D.G D.b ρ s bt μ s1) (keep:∀b o,s1.heap.get? b=some o->h2.get? b=some o) (ht:s1.toks<=t2)
  (fa:s1.heap.get? ad=none) (fb:s1.heap.get? bd=none) (I:ij D.b h2 bt it ad bd 0 K) (ne:K.d=true->ad≠bd) (ob:Obj) (gb:h2.get? bd=some ob)
theorem pb{bt:fj}{s1:az}{K:IK}{o:Obj}{Q:aA->az->Prop}{h':dO}(P:bT D.G D.b ρ s bt aG s1)(e:h'=s1.heap.push o)(I:ij D.b h' bt (.ref s1.heap.objs.size) s1.heap.objs.size s1.heap.objs.size 0 K)(a:K.d=false)(k:∀it s2,yR D ρ s aG K it s2->Q it s2):Q (.ref s1.heap.objs.size) {s1 with heap:=h'}:=by
 subst e
 exact I.f λo g=>k _ _ ⟨_,_,s1,bt,_,s1.toks,rfl,P,λb o e=>bg _ e,aC _,fE _,fE _,I,(λh=>by rw[a] at h;cases h),o,g⟩
theorem Oa(h:aO T cl (cE X sc e) loc μ=some r):i8 e=false:=by cases e<;>first|rfl|exact stk h
theorem Hm(L:gz D){i:Expr}{nm:Str}{u:MV}{v:aA}{Q:aA->az->Prop}{j:Str->Option aA}(F:oH D.X sc nm i=true)(H:D.b.Ns D.e j)(E:j nm=some v)(y:pk D.K v)(l:∀m,D.b.Ns D.d m->m nm=none)(o:(nm==("__debug__":Str))=false)
  (g:∀r p a q,i= .Call (.Name r p) [a] [] q->bA D n cl a) (R:fB (n+1) A) (a:At D sc env loc ρ μ s) (h:aO D.T cl (Uz (cA D.X sc i)) loc μ=some (u,aG)) (k:∀x s1 bt,bT D.G D.b ρ s bt aG s1->VR D.b s1.heap bt u x->aI (aH D.a D.G.w) A (call v [x]) Q no s1):
  aI (aH D.a D.G.w) A (eval i env) Q no s:=
 MU (P:=λi=>(∀r p a q,i= .Call (.Name r p) [a] [] q->bA D n cl a)->aO D.T cl (Uz (cA D.X sc i)) loc μ=some (u,aG)->aI (aH D.a D.G.w) A (eval i env) Q no s) F (λM N ae I f g h=>by
  refine ir (xZ f) λB z0=>?_
  refine cf L.d λJ c _=>?_
  exact Call_ (Hu a B c (z0.symm▸l _ c) H (z0.symm▸E) (z0.symm▸o) (Cy L y rfl (λe z=>bK.mp z▸g _ _ _ _ rfl) (iA.mpr ⟨Oa h,rfl⟩) R a h k))) g h
theorem uY(L:gz D){m:Str->Option aA}(h:D.b.Ns D.d m):m "range"=none/\m "enumerate"=none:=by
 obtain⟨i,a,_,_,_,_,f,g,j,e,c⟩:=L.d
 cases JI a h
 exact⟨e,c⟩
theorem Dj(L:gz D){Q:aA->az->Prop}(F:oH D.X sc "range" i=true)(z:∀r p a q,i= .Call (.Name r p) [a] [] q->bA D n cl a)(R:fB (n+1) A)(a:At D sc env loc ρ μ s)(h:aO D.T cl (Uz (cA D.X sc i)) loc μ=some (.c kk,aG))(g:0<=kk/\kk<=1000)
  (k:∀it s2,yR D ρ s aG (.f kk.toNat) it s2->Q it s2):aI (aH D.a D.G.w) A (eval i env) (λx s1=>aI (aH D.a D.G.w) A (OJ x) Q no s1) no s:=by
 refine Eh L.l λN H I M J v b5=>?_
 refine Hm L F H v (.c _) (λ_ h=>(uY L h).1) (by decide) z R a h λu s1 bt j y=>?_
 apply y.f λm=>?_
 refine call_range_1 ?_
 have E:bT D.G D.b bt s1 bt aG {s1 with heap:=s1.heap.push {cls:= .type "range",data:= .fields #[.int 0 s1.toks,.int kk m,.int 1 (s1.toks+1)]},toks:=s1.toks+1+1}:=bT.B j.d (λb o e=>bg _ e) _ AN
 refine wpAny_pyIter_range (IsRange.new ..) (small_one (by decide) (by decide) (aaq g.1 g.2) (aap g.1 g.2)) ?_
 exact(by rw[rangeSize_one];split<;>omega:(Builtin.Range.rangeSize 0 kk 1)=((kk.toNat:Nat):Int))▸(pb (K:= .f kk.toNat) (j.f E) rfl ⟨rfl,b7 _,by simpa using bU (s1.heap.push {cls:= .type "range",data:= .fields #[.int 0 s1.toks,.int kk m,.int 1 (s1.toks+1)]}) (o:={cls:= .type "range_iterator",data:= .fields #[rawInt 0,rawInt ((kk.toNat:Nat):Int),rawInt 1]}) rfl⟩ rfl k)
theorem Di{i:Expr}{m:Nat}{l:List MV}{Q:aA->az->Prop}(o:bA D n cl i)(R:fB (n+1) A)(a:At D sc env loc ρ μ s)(h:aO D.T cl (cE D.X sc i) loc μ=some (.d m,aG))(e:aG[m]?=some (.a l))
  (k:∀it s2,yR D ρ s aG (.g m) it s2->Q it s2):aI (aH D.a D.G.w) A (eval i env) (λx s1=>aI (aH D.a D.G.w) A (OJ x) Q no s1) no s:=by
 refine o.b R a h λbt u s1 c f=>?_
 refine ud (c.d.I e f) λp y j z0 r v g q=>?_
 refine fI z0 ?_
 exact wpAny_pyIter_list (gT g) (pb (K:= .g m) c rfl ⟨p,rfl,r,_,bU _ rfl,rfl,rfl⟩ rfl k)
theorem A8(L:gz D){elt iter:Expr}{px pos:Pos}{scope:Ld}{p:List (Str×cK)}{k:Nat}{K:IK}{it:aA}{vs:List MV}{nn:Nat}{r:MV}{bC f:Hp}{s2:az}
  (J:bA D n cl elt) (R:fB (n+1) A) (a:At D sc env loc ρ μ s) (v:k<D.G.N) (O:pS sc scope (D.G.a k)=true) (F:scope.names.lookup (D.G.a k)=some .local)
  (H:∀n c,p.lookup n=some c->env.cells.lookup n=some c) (B:∀x∈scope.names,x.2= .free->(p.lookup x.1).isSome) (y:K.d=false) (hz:nn<=bz) {use:Option (aA->Sem Unit)} {Q:aA->az->Prop}
  (o:∀(s1:az) (bt:fj) (bC f:Hp) (vs:List MV),bT D.G D.b ρ s bt bC s1->r= .d f.length->aG=f++[.a vs]->∀(Dd C:cK) (m:az) (q:fj) (V:Str->Option aA),bT D.G D.b bt s1 q (f++[.a vs]) m->VR D.b m.heap q (.d f.length) (.ref Dd)->s1.heap.get? C=none->Off q C->m.heap.Ns C V->
   rS (aH D.a D.G.w) A no use Q (.ref Dd) C (.ok .next) m)
  (U:Mp (λi μ=>aO D.T cl (cE D.X scope.names elt) ((k,i)::loc) μ) K 0 nn bC vs f) (e:JB vs f=some (r,aG)) (W:∀{ad bd k hb h ρ},ij hb h ρ it ad bd k K->ij hb h ρ it ad ad k K)
  (g:∀(ad:cK) (ρ:fj) (t:az) (E:aA->az->Prop) (Q:aA->az->Prop),ij D.b t.heap ρ it ad ad 0 K->Q it t->aI (aH D.a D.G.w) A (OJ it) Q E t) (S:yR D ρ s bC K it s2):
  aI (aH D.a D.G.w) A (newList []) (λj M=>aI (aH D.a D.G.w) A (FE scope env.globals p [] env.qual none .none (some env)) (λgV u=>
   nY (aH D.a D.G.w) A (.compStart (.ListComp elt [⟨.Name (D.G.a k) px,iter,[],0⟩] scope pos) 0 it j {gV with scope:=kZ scope env})
    (rS (aH D.a D.G.w) A no use Q j gV.locals) u) no M) no s2:=by
 obtain⟨ad,bd,s1,bt,Z,t2,rfl,P,l,Y,z,fb,I,_,_,_⟩:=S
 cases e
 exact Ea L J R (a.c P) v O F H B l Y z (W I) y (g ad bt) (o _ _ _ _ _ P rfl rfl) hz U
theorem xx(L:gz D){elt iter:Expr}{x:Str}{px pos:Pos}{scope:Ld}(he:bA D n cl elt)(hi:bA D n cl iter)(Bv:∀r p a q,iter= .Call (.Name r p) [a] [] q->bA D n cl a)(R:fB (n+1) A)(a:At D sc env loc ρ μ s){r:MV}
  (h:aO D.T cl (cE D.X sc (.ListComp elt [⟨.Name x px,iter,[],0⟩] scope pos)) loc μ=some (r,aG)) {use:Option (aA->Sem Unit)} {Q:aA->az->Prop}
  (u:∀(s1:az) (bt:fj) (bC c:Hp) (vs:List MV),bT D.G D.b ρ s bt bC s1->r= .d c.length->aG=c++[.a vs]->∀(Dd C:cK) (H:az) (P:fj) (m5:Str->Option aA),bT D.G D.b bt s1 P (c++[.a vs]) H->VR D.b H.heap P (.d c.length) (.ref Dd)->s1.heap.get? C=none->Off P C->H.heap.Ns C m5->
   rS (aH D.a D.G.w) A no use Q (.ref Dd) C (.ok .next) H):
  aI (aH D.a D.G.w) A (comprehension (.ListComp elt [⟨.Name x px,iter,[],0⟩] scope pos) scope env (firstIterPos [⟨.Name x px,iter,[],0⟩] pos) (newList []) false (eval iter env) use) Q no s:=by
 refine ug h λz q0=>A4 q0 λk o q=>?_
 clear h q0
 refine k9 (L.b x k o) λW J _ _=>?_
 subst J
 obtain⟨z,Es⟩:=aE.mp z
 obtain⟨F,B⟩:=aE.mp z
 have M:=aT.mp (aE.mp F).2
 obtain⟨cs,Rc,Z,Y⟩:=zf (env:=env) (scope:=scope) λy O e=>by
  have:=M y O
  rw[e] at this
  simp only[bO,beq_iff_eq] at this
  exact a.e.j _ ((a.i y.1).2.1 this.1)
 refine wpAny_comprehension_free (use:=use) (cl:=cs) rfl (De (jt _▸Es)) Rc (beq_iff_eq.mp (aE.mp F).1) (λy O e=>by
  have:=M y O
  rw[e] at this
  simp only[bO,beq_iff_eq] at this
  exact this.2) ?_
 clear M Es z Rc
 have B:=beq_iff_eq.mp B
 refine cEm q (λhf h=>?_) λ_ h=>?_
 ·refine om h λv bC N h=>im h λkk V h=>gm h λo h=>om h λvs c hm U=>?_
  clear h;subst V
  refine Dj L hf Bv R a N o λit s2 S=>A8 (K:= .f kk.toNat) (nn:=kk.toNat) L he R a W F B Z Y rfl (aao o.1 o.2) u (Jv _ _ _ _ _ _ _ (cP _) (FZ▸hm)) U (λi=>i) (λad ρ t E Q I q=>?_) S
  rw[I.1] at q⊢
  exact wpAny_pyIter_rangeiter I.2.2 q
 ·refine om h λv bC N h=>lm h λm l V hl h=>gm h λhz h=>om h λvs c hm U=>?_
  clear h;subst V
  refine Di hi R a N hl λit s2 S=>A8 (K:= .g m) L he R a W F B Z Y rfl hz u (Ju _ _ _ _ _ _ _ _ (iB ..) (b7 _) hm) U (λi=>i) (λad ρ t E Q I q=>?_) S
  refine pH I λp e _ g=>?_
  rw[e] at q⊢
  exact wpAny_pyIter_listiter g q
end
end
section
open PySem PySem.Calls PySem.W PyProof.Rows
open PySem Builtin
noncomputable def WX(hb h:dO)(ρ:fj):Fl->Flow->Prop
 | .a,f=>f= .next
 | .b v,f=>∃u,f= .ret u/\VR hb h ρ v u
inductive gx (D:Dat) (env:Env) (ρ:fj) (s:az) (fl:Fl) (loc':Loc) (aG:Hp) (f:Flow) (s':az):Prop
 |mk (ρ':fj) (p:b_ (jz env) D.G D.b ρ s ρ' aG s') (a:oO D.G D.b D.d D.e env loc' s'.heap ρ') (q:WX D.b s'.heap ρ' fl f)
inductive ql (D:Dat) (env:Env) (ρ:fj) (s:az) (loc':Loc) (aG:Hp) (s':az):Prop
 |mk (ρ':fj) (p:b_ (jz env) D.G D.b ρ s ρ' aG s') (a:oO D.G D.b D.d D.e env loc' s'.heap ρ')
noncomputable def kg(D:Dat)(n fuel:Nat)(cl:Call)(st:j0):Prop:=∀(sc:Sc) (A:c_) (env:Env) (loc:Loc) (ρ:fj) (μ:Hp) (s:az) (b:Fl) (loc':Loc) (aG:Hp),fB (n+1) A->At D sc env loc ρ μ s->
 bQ D.T cl fuel (cS D.X sc st) loc μ=some (b,loc',aG)->aI (aH D.a D.G.w) A (exec st env) (gx D env ρ s b loc' aG) no s
noncomputable def jh(D:Dat)(n fuel:Nat)(cl:Call)(b:List j0):Prop:=∀(sc:Sc) (A:c_) (env:Env) (loc:Loc) (ρ:fj) (μ:Hp) (s:az) (c:Fl) (loc':Loc) (aG:Hp),fB (n+1) A->At D sc env loc ρ μ s->
 aY D.T cl fuel (yK D.X sc b) loc μ=some (c,loc',aG)->aI (aH D.a D.G.w) A (execs b env) (gx D env ρ s c loc' aG) no s
section
variable{D:Dat}{sc:Sc}{env:Env}{loc loc':Loc}{ρ ρ':fj}{μ aG:Hp}{s s':az}{A:c_}{n fuel:Nat}{cl:Call}
theorem At.h(a:At D sc env loc ρ μ s){W:cK->Prop}(P:b_ W D.G D.b ρ s ρ' aG s')(F:oO D.G D.b D.d D.e env loc' s'.heap ρ'):At D sc env loc' ρ' aG s':=⟨P.B,F,aD a.j P.N,a.i⟩
theorem ql.b(P:b_ (jz env) D.G D.b ρ s ρ' μ s'){s2:az}(h:ql D env ρ' s' loc' aG s2):ql D env ρ s loc' aG s2:=by
 obtain⟨c,a,d⟩:=h
 exact⟨c,P.m a,d⟩
theorem gx.b(P:b_ (jz env) D.G D.b ρ s ρ' μ s'){s2:az}{a:Fl}{f:Flow}(h:gx D env ρ' s' a loc' aG f s2):gx D env ρ s a loc' aG f s2:=by
 obtain⟨i,g,j,q⟩:=h
 exact⟨i,P.m g,j,q⟩
theorem Cz(a:At D sc env loc ρ μ s)(h:u_ sc x=true):env.kindOf x=some .local\/env.kindOf x=some .cell:=by
 unfold u_ at h
 refine k9 (a.i x) λb c J J=>?_
 split at h
 ·exact .inl (b (by assumption))
 ·exact .inr (c (by assumption))
 ·cases h
theorem Ab(L:gz D)(a:At D sc env loc ρ μ s)(f:u_ sc x=true)(c:D.X.a x=some k)(q:VR D.b s.heap ρ w v):
  aI (aH D.a D.G.w) A (storeName env x v) (λJ s'=>ql D env ρ s (bp loc k w) μ s') no s:=by
 refine k9 (L.b x k c) λh i J J=>?_
 subst i
 refine a_ (qU (loc':=bp loc k w) a.e a.d (Cz a f) h q (by rw[hP,if_pos rfl]) λy j=>by rw[hP,if_neg j]) (λJ s1 z=>?_) λJ J z=>z
 refine ir z λP F=>?_
 refine⟨ρ,P.E λb o g w=>?_,F⟩
 rcases w with rfl|⟨_,w⟩
 ·exact .inl rfl
 ·exact w
theorem yk{b:Prop}(h:JP X sc e=some k)(g:∀x p,e= .Name x p->u_ sc x=true->X.a x=some k->b):b:=by
 cases e with
 |Name x p=>exact gm h λc d=>g x p rfl c d
 |_=>cases h
theorem vd:∀{a:List Expr} {l:List Nat},j5 X sc a=some l->(mT a env).length=l.length/\(mT a env).findIdx? (·.1)=none
 |[],l,h=>by refine j8 h ?_;exact⟨rfl,rfl⟩
 |e::a,l,h=>bm h λk d h=>mm h λf c b=>yk d λx p ex J J=>by
  subst b ex
  have z:=vd c
  refine⟨congrArg Nat.succ z.1,?_⟩
  show q8 _ ((false,_)::mT _ env)=none
  rw[gX]
  simp[z.2]
theorem sH:∀{ks:List Nat} {ws:List MV} {l a:Loc},eH ks ws l=some a->ws.length=ks.length
 |[],ws,l,a,h=>Cu h λh J=>by refine fI h ?_;rfl
 |k::ks,[],l,a,h=>nomatch h
 |k::ks,w::ws,l,a,h=>congrArg Nat.succ (sH (ks:=ks) h)
theorem Dl(L:gz D):∀{c:List Expr} {ks:List Nat} {ws:List MV} {vs:List aA} {loc:Loc} {ρ:fj} {s:az},j5 D.X sc c=some ks->eH ks ws loc=some loc'->At D sc env loc ρ μ s->dw D.b s.heap ρ ws vs->
  aI (aH D.a D.G.w) A (assignInOrder ((mT c env).map (·.2)) vs) (λJ s'=>ql D env ρ s loc' μ s') no s
 |[],ks,ws,vs,loc,ρ,s,h,hb,a,q=>by
  cases h
  refine Cu hb λC hb=>?_
  refine j8 hb ?_;subst C
  obtain rfl:=q.m
  exact wpAny_assignInOrder_none ⟨ρ,b_.T a.d,a.e⟩
 |e::c,ks,ws,vs,loc,ρ,s,h,hb,a,q=>bm h λk u h=>mm h λl o i=>yk u λx p ex t r=>by
  subst i ex
  refine IF λH y=>?_
  cases ws with
  |nil=>cases hb
  |cons w ws=>
   refine y ?_
   refine dY q.f λv F z0 j E=>?_
   refine fI z0 ?_
   refine wpAny_assignInOrder_more (wN (a_ (Ab L a t r j) (λJ s1 z=>?_) λJ J z=>z))
   obtain⟨bt,g,B⟩:=z
   exact a_ (Dl L o hb (a.h g B) (g.R E)) (λJ s2 z=>ql.b g z) λJ J z=>z
theorem eW(a:At D sc env loc ρ μ s)(P:bT D.G D.b ρ s ρ' aG s'):b_ (jz env) D.G D.b ρ s ρ' aG s':=P.w a.d
noncomputable def Dz(D:Dat)(n:Nat)(cl:Call):Expr->Prop
 | .Attribute o _ _=>bA D n cl o
 | .Subscript o i _=>bA D n cl o/\bA D n cl i
 |_=>True
theorem ady{P:Expr->MT->Prop}(h:cT X sc t=some m)(k1:∀x p k,u_ sc x=true->X.a x=some k->P (.Name x p) (.b k))(k2:∀o g p k,X.a g=some k->P (.Attribute o g p) (.e (cE X sc o) k))
  (u:∀o i p,P (.Subscript o i p) (.d (cE X sc o) (cE X sc i))) (v:∀j kk p l,j5 X sc j=some l->P (.Tuple j kk p) (.c l)):P t m:=by
 cases t with
 |Name x p=>exact mm h λk f e=>gm f λr f=>e▸k1 x p k r f
 |Attribute o a p=>exact mm h λk f e=>e▸k2 o a p k f
 |Subscript o i p=>exact gm h λw e=>j8 (P:=λm=>P (.Subscript o i p) m) e (u o i p)
 |Tuple j kk p=>exact mm h λl q e=>e▸v j kk p l q
 |_=>cases h
theorem N9{b:Prop}(h:eX T cl (.c l) w loc μ=some r)(k:∀ws a,w= .e ws->eH l ws loc=some a->(a,μ)=r->b):b:=by
 cases w with
 |e ws=>exact mm h λa d e=>k ws a rfl d e
 |_=>cases h
theorem oP(L:gz D)(E:Dz D n cl t)(hm:cT D.X sc t=some m)(R:fB (n+1) A)(a:At D sc env loc ρ μ s)(q:VR D.b s.heap ρ w v)(h:eX D.T cl m w loc μ=some (loc',aG)):
  aI (aH D.a D.G.w) A (OG t env v) (λJ s'=>ql D env ρ s loc' aG s') no s:=by
 refine ady (P:=λt m=>Dz D n cl t->eX D.T cl m w loc μ=some (loc',aG)->aI (aH D.a D.G.w) A (OG t env v) (λJ s'=>ql D env ρ s loc' aG s') no s) hm (λx p k ho I J h=>?_) (λo H p k I E h=>?_) (λo i p E h=>?_) (λes kk p l U J h=>?_) E h
 ·exact qR (P:=λloc' aG=>aI (aH D.a D.G.w) A (OG (.Name x p) env v) (λJ s'=>ql D env ρ s loc' aG s') no s) h (wN (Ab L a ho I q))
 ·refine om h λx bC M h=>mm h λV C e=>?_
  refine k9 (L.b H k I) λJ hN J J=>?_
  rw[arm_assign_Attribute]
  refine aw (bF (bA.b E R a M λbt ov s1 j F=>aw (du (aw (bF ?_)))))
  refine hN▸(a_ (yt L.e C j.d F (j.y a.d q)) (λJ s2 z=>?_) λJ J z=>z)
  obtain⟨O,r⟩:=z
  exact mW (ET (P:=λloc' aG=>ql D env ρ s loc' aG s2) (a:=loc) (b:=V) e ⟨O,eW a (j.f r),((a.c j).c r).e⟩)
 ·refine om h λx bC M h=>om h λy V C h=>mm h λmL Z e=>?_
  rw[arm_assign_Subscript]
  refine aw (bF (E.1.b R a M λbt ov s1 j F=>aw (bF (E.2.b R (a.c j) C λO iv s2 r Y=>aw (du (aw (bF ?_)))))))
  refine a_ (Kj Z r.d (r.y j.d F) Y (r.y j.d (j.y a.d q)) (R.u (by decide))) (λJ s3 z=>?_) λJ J z=>z
  obtain⟨jX,Q⟩:=z
  exact mW (ET (P:=λloc' aG=>ql D env ρ s loc' aG s3) (a:=loc) (b:=mL) e ⟨jX,eW a ((j.f r).f Q),(((a.c j).c r).c Q).e⟩)
 ·refine N9 h λws iV ew C e=>?_
  refine dY (ew▸q:VR D.b s.heap ρ (.e ws) v).d λta W z0 g S=>?_
  refine fI z0 ?_
  have z:=vd (env:=env) U
  refine wpAny_assign_Tuple (items:=W.toArray) R.a ⟨_,g,rfl,_,rfl⟩ (by rw[z.1,b8,S.g,sH C]) z.2 λh' N=>?_
  have j:bT D.G D.b ρ s ρ μ {s with heap:=h',toks:=s.toks}:=bT.B a.d (λb o e=>N b o (λe'=>by rw[e',fE] at e;cases e) e) s.toks (aC _)
  exact a_ (Dl L (A:=A) U C (a.c j) (j.R a.d S)) (λJ s2 z=>ET (P:=λloc' aG=>ql D env ρ s loc' aG s2) e (ql.b (eW a j) z)) λJ J z=>z
end
end
section
open PySem PySem.Calls PySem.W PyProof.Rows
open PySem Builtin
section
variable{D:Dat}{sc:Sc}{env:Env}{loc loc':Loc}{ρ ρ':fj}{μ aG:Hp}{s s':az}{A:c_}{n fuel:Nat}{cl:Call}
theorem Ok.E(a:At D sc env loc ρ μ s)(h:Ok D.G D.b ρ s aG r v s'):gx D env ρ s .a loc aG .next s':=by
 obtain⟨bt,P,q⟩:=h
 exact⟨bt,eW a P,(a.c P).e,rfl⟩
theorem Nw(b:I8 e=false)(c:∀k v g sc p,e≠ .DictComp k v g sc p)(a:∀v g sc p,e≠ .SetComp v g sc p)(t:Option Expr):swapsWith e t line env=pure false:=by
 cases e<;>first|rfl|(cases b;done)|(exact absurd rfl (c _ _ _ _ _))|(exact absurd rfl (a _ _ _ _))
theorem ad6(h:aO T cl (cE X sc e) loc μ=some (r,aG)):(∀k v g sc p,e≠ .DictComp k v g sc p)/\(∀v g sc p,e≠ .SetComp v g sc p):=by
 constructor
 ·rintro k v g sc p rfl;exact stk h
 ·rintro v g sc p rfl;exact stk h
theorem EW(a:At D sc env loc ρ μ s):interactive env=false:=by
 unfold interactive;rw[a.e.i];rfl
theorem oO.H(F:oO D.G D.b D.d D.e env loc h ρ)(L:∀b o,b≠C->h.get? b=some o->h'.get? b=some o)(nt:∀vs,h.get? C≠some (cn vs))(W: ¬jz env C):oO D.G D.b D.d D.e env loc h' ρ:=by
 have T:∀a vs,h.get? a=some (cn vs)->h'.get? a=some (cn vs):=λa vs g=>L a _ (by rintro rfl;exact nt vs g) g
 have R:∀a,jz env a->a≠C:=λa w e=>W (e▸w)
 refine cf F.z λm z0 hm=>?_
 obtain⟨o,U,Y,g,r⟩:=z0
 refine⟨F.i,F.p,F.E,F.t,F.q,F.y,⟨m,⟨o,U,Y,L _ _ (R _ (.inl rfl)) g,r⟩,λx v N O=>?_⟩,λn c N=>?_,λx v N O=>?_,F.j,F.k⟩
 ·refine cf (hm x v N O) λu M P=>?_
  exact⟨u,M,VR.C T (λJ J e=>e) _ _ P⟩
 ·obtain⟨O,M,v,Q,P,S⟩:=F.f n c N
  exact⟨O,M,v,Q,L _ _ (R _ (.inr ⟨n,N⟩)) P,S⟩
 ·refine dY (F.l x v N O) λc u M V X=>?_
  obtain⟨Q,P,S⟩:=V
  exact⟨c,u,M,⟨Q,L _ _ (R _ (.inr ⟨_,M⟩)) P,S⟩,VR.C T (λJ J e=>e) _ _ X⟩
theorem Ui(g:bA D n cl e):kg D n fuel cl (.Expr e pos):=by
 intro sc A env loc ρ μ s i loc' aG R a h
 refine gSm h λf h=>om h λv bC b h=>?_
 refine C8 h ?_
 obtain⟨c,d⟩:=ad6 b
 exact wpAny_Expr_any (a_ (g sc A env loc ρ μ s v _ R a b) (λJ J z=>Ok.E a z) λJ J z=>z) (EW a) (Nw f c d none)
theorem JZ(g:Lk D n cl o):kg D n fuel cl (.Return o pos):=by
 intro sc A env loc ρ μ s i loc' aG R a h
 cases o with
 |none=>
  refine C8 h ?_
  exact wpAny_Return_none ⟨ρ,b_.T a.d,a.e,.none,rfl,rfl⟩
 |some e=>
  refine om h λv bC f h=>?_
  refine C8 h ?_
  exact wpAny_Return_some (bA.b g R a f λbt u s1 P q=>⟨bt,eW a P,(a.c P).e,u,rfl,q⟩)
theorem ES(h:(lJ t&&lJ v)=false)(b:∀a p,t≠ .List a p):swappedStores [t] v env=pure none:=by
 cases t<;>first|rfl|skip
 ·exact absurd rfl (b _ _)
 ·cases v<;>first|rfl|cases h
noncomputable def RW(D:Dat)(n:Nat)(cl:Call)(v:Expr):Prop:=∀b x px iter sc p,v= .ListComp b [⟨.Name x px,iter,[],0⟩] sc p->bA D n cl b/\bA D n cl iter/\∀r p a q,iter= .Call (.Name r p) [a] [] q->bA D n cl a
theorem Ur{P:List Comprehension->Prop}(h:aO T cl (cE X sc (.ListComp elt gens scope pos)) loc μ=some r)(k:∀x px iter,P [⟨.Name x px,iter,[],0⟩]):P gens:=by
 cases gens with
 |nil=>exact stk h
 |cons g a=>
  obtain⟨t,iter,b,as⟩:=g
  cases t with
  |Name x p=>cases b with
   |nil=>cases as with
    |ofNat m=>cases m with
     |zero=>cases a with
      |nil=>exact k x p iter
      |cons _ _=>exact stk h
     |succ _=>exact stk h
    |negSucc _=>exact stk h
   |cons _ _=>exact stk h
  |_=>exact stk h
theorem xI{a:Prop}(h:aO T cl (cE X sc (.ListComp elt gens scope pos)) loc μ=some r)(k:∀x px iter,gens=[⟨.Name x px,iter,[],0⟩]->a):a:=Ur (P:=λl=>gens=l->a) h (λx px iter e=>k x px iter e) rfl
theorem VD(hm:cT D.X sc t=some m):(∀a p,t≠ .List a p)/\(mT [t] env).map (·.2)=[OG t env]:=by
 cases t with
 |Name _ _=>exact⟨λJ J e=>(nomatch e),rfl⟩
 |Attribute _ _ _=>exact⟨λJ J e=>(nomatch e),rfl⟩
 |Subscript _ _ _=>exact⟨λJ J e=>(nomatch e),rfl⟩
 |Tuple _ _ _=>exact⟨λJ J e=>(nomatch e),rfl⟩
 |_=>cases hm
inductive Gf (line:Nat) (env:Env):Expr->Expr->Prop
 |a {t v:Expr} (h:t8 [t] v line env=pure false):Gf line env t v
 |b (x:Str) (p:Pos) (elt:Expr) (gens:List Comprehension) (scope:Ld) (cp:Pos) (h:t8 [.Name x p] (.ListComp elt gens scope cp) line env=pure true):Gf line env (.Name x p) (.ListComp elt gens scope cp)
theorem VB(h:aO T cl (cE X sc v) loc μ=some r):Gf line env t v:=by
 cases v with
 |ListComp c gens scope d=>cases t with
  |Name x p=>
   cases hb:(env.blockKind== .function&&env.kindOf x==some .local&&p.line==(Expr.ListComp c gens scope d).pos.line&& !(scope.names.any λ(n,k)=>n==x&&(k== .local||k== .cell))) with
   |true=>exact .b x p c gens scope d (congrArg (pure:Bool->Sem Bool) hb)
   |false=>exact .a (congrArg (pure:Bool->Sem Bool) hb)
  |_=>exact .a rfl
 |DictComp _ _ _ _ _=>exact stk h
 |SetComp _ _ _ _=>exact stk h
 |_=>exact .a rfl
theorem Oe{G:Prop}(h:aO T cl (cE X sc v) loc μ=some r)(no:t8 [t] v line env=pure false->G)
  (d:∀x p c gens scope f,t= .Name x p->v= .ListComp c gens scope f->t8 [t] v line env=pure true->G):G:=by
 cases VB (t:=t) (line:=line) (env:=env) h with
 |a e=>exact no e
 |b x p c gens scope f e=>exact d x p c gens scope f rfl rfl e
theorem At.k(a:At D sc env loc ρ μ s)(f:s.heap.get? b=none): ¬jz env b:=λw=>by
 rcases w with rfl|⟨nm,w⟩
 ·refine cf a.e.z λm z0 J=>?_
  obtain⟨o,l,p,g,_⟩:=z0
  rw[f] at g;cases g
 ·obtain⟨_,_,v,o,g,_⟩:=a.e.f nm _ w
  rw[f] at g;cases g
theorem xp(L:gz D)(e:bA D n cl v)(k:Dz D n cl t)(R:fB (n+1) A)(a:At D sc env loc ρ μ s)(l:(lJ t&&lJ v)=false)(hm:cT D.X sc t=some m)
  (j:aO D.T cl (cE D.X sc v) loc μ=some (w,bC)) (h:eX D.T cl m w loc bC=some (loc',aG)):
  aI (aH D.a D.G.w) A (do let u<-eval v env;assignStores env u (<-swappedStores [t] v env) ((mT [t] env).map (·.2))) (gx D env ρ s .a loc' aG) no s:=
 have q:=VD (env:=env) hm
 aw (e.b R a j λbt u s1 d f=>by
  refine(ES l q.1)▸q.2▸(aw (aF (aw (a_ (oP L k hm R (a.c d) f h) (λJ s2 z=>aF ?_) λJ J z=>z))))
  obtain⟨o,g,i⟩:=z
  exact⟨o,(eW a d).m g,i,rfl⟩)
theorem xo(L:gz D)(b:RW D n cl (.ListComp elt gens scope cp))(R:fB (n+1) A)(a:At D sc env loc ρ μ s)(hm:cT D.X sc (.Name x p)=some m)
  (N:aO D.T cl (cE D.X sc (.ListComp elt gens scope cp)) loc μ=some (w,bC)) (Q:eX D.T cl m w loc bC=some (loc',aG)):
  aI (aH D.a D.G.w) A (do evalThenUse (.ListComp elt gens scope cp) env λv=>assignAll v ((mT [.Name x p] env).map (·.2));pure Flow.next) (gx D env ρ s .a loc' aG) no s:=
 xI N λy py iter eg=>by
  subst eg
  have b:=b _ _ _ _ _ _ rfl
  refine aw ?_
  rw[arm_evalThenUse_ListComp]
  refine aw (xx L b.1 b.2.1 b.2.2 R a N λs1 bt mL K8 vs l hr Y Dd C t5 qY m5 B Z f5 V F=>?_)
  subst hr Y
  have E:=l.U C f5
  have P:=a.k E
  have O:=eW a (l.f B)
  refine a_ (oP L (t:= .Name x p) trivial hm R ((a.c l).c B) Z Q) (λJ s6 z=>?_) λJ J z=>z
  clear l B N Q b
  obtain⟨I,q,F6⟩:=z
  refine HX F λoC W ep S dC rC=>?_
  have i:=q.u _ _ S V P
  have j:∀vs,s6.heap.get? C≠some (cn vs):=λvs e=>by rw[i] at e;cases e;cases dC
  exact⟨m5,⟨oC,W,ep,i,dC,rC⟩,λh7 h=>aF (aF ⟨I,(O.m q).X (h':=h7) E (q.M S V) (mi a.d.m E) j λc o r g=>(h.2 c r).trans g,F6.H (λc o r g=>(h.2 c r).trans g) j P,rfl⟩)⟩
theorem Ho(L:gz D)(d:bA D n cl v)(o:RW D n cl v)(l:∀t∈ts,Dz D n cl t):kg D n fuel cl (.Assign ts v pos):=by
 intro sc A env loc ρ μ s z loc' aG R a h
 refine JM h λt i h=>gSm h λk h=>QY h λm hm h=>om h λw bC b h=>om h λr y c q=>?_
 refine C8 q ?_;subst i
 rw[arm_exec_Assign]
 refine aw (du (Oe (env:=env) (t:=t) (line:=pos.line) b (λe=>?_) λx p j gens scope u g f e=>?_))
 ·rw[e];exact aw (aF (xp L d (l t (.head _)) R a k hm b c))
 ·subst g;subst f
  rw[e];exact aw (aF (xo L o R a hm b c))
end
end
section
open PySem PySem.Calls PySem.W PyProof.Rows
open PySem Builtin
section
variable{D:Dat}{sc:Sc}{env:Env}{loc loc':Loc}{ρ ρ':fj}{μ aG:Hp}{s s':az}{A:c_}{n fuel:Nat}{cl:Call}
theorem gx.c{Q:Flow->az->Prop}(h:aI (aH D.a D.G.w) A m (gx D env ρ s .a loc' aG) no s)(k:∀bt s1,b_ (jz env) D.G D.b ρ s bt aG s1->oO D.G D.b D.d D.e env loc' s1.heap bt->Q .next s1):aI (aH D.a D.G.w) A m Q no s:=
 a_ h (λf s1 z=>by obtain⟨bt,P,F,rfl⟩:=z;exact k bt s1 P F) λJ J z=>z
theorem gx.e{Q:Flow->az->Prop}(h:aI (aH D.a D.G.w) A m (gx D env ρ s (.b v) loc' aG) no s)(k:∀bt u s1,b_ (jz env) D.G D.b ρ s bt aG s1->oO D.G D.b D.d D.e env loc' s1.heap bt->VR D.b s1.heap bt v u->Q (.ret u) s1):aI (aH D.a D.G.w) A m Q no s:=
 a_ h (λf s1 z=>by obtain⟨bt,P,F,u,rfl,q⟩:=z;exact k bt u s1 P F q) λJ J z=>z
theorem gx.d{m:Sem Flow}{bt:fj}{bC:Hp}{s1:az}{f:Fl}(P:b_ (jz env) D.G D.b ρ s bt bC s1)(h:aI (aH D.a D.G.w) A m (gx D env bt s1 f loc' aG) no s1):aI (aH D.a D.G.w) A m (gx D env ρ s f loc' aG) no s1:=
 a_ h (λJ J z=>gx.b P z) λJ J z=>z
theorem acu:jh D n fuel cl []:=by
 intro sc A env loc ρ μ s b loc' aG R a h
 refine C8 h ?_
 exact Ax ⟨ρ,b_.T a.d,a.e,rfl⟩
theorem T7{st:j0}{r:List j0}(j:kg D n fuel cl st)(k:jh D n fuel cl r):jh D n fuel cl (st::r):=by
 intro sc A env loc ρ μ s l loc' aG R a h
 refine yI (wj h (λi bC e h=>?_) λv i bC e h=>?_)
 ·exact gx.c (j sc A env loc ρ μ s .a i bC R a e) λbt s1 f g=>gx.d f (k sc A env i bt bC s1 l loc' aG R (a.h f g) h)
 ·cases h
  exact gx.e (j sc A env loc ρ μ s (.b v) loc' aG R a e) λbt u s1 f g q=>⟨bt,f,g,u,rfl,q⟩
theorem adX(f:je D n cl t)(i:jh D n fuel cl x)(j:jh D n fuel cl y):kg D n fuel cl (.If t x y pos):=by
 intro sc A env loc ρ μ s g loc' aG R a h
 refine om h λu bC e h=>tm h (λhb h=>?_) λhb h=>?_
 ·exact wpAny_If (f.d R a e hb λbt s1 b=>gx.d (eW a b) (i sc A env loc bt bC s1 g loc' aG R (a.c b) h))
 ·exact wpAny_If (f.d R a e hb λbt s1 b=>gx.d (eW a b) (j sc A env loc bt bC s1 g loc' aG R (a.c b) h))
theorem VL{c:Prop}{t:Loc->Hp->Option (MV×Hp)}{b:Loc->Hp->Ex}(h:qX t b m loc μ=some r)(k:∀k,k<m->(ob (t loc μ) λv μ=>tr v (ox (b loc μ) (qX t b k)) (some (.a,loc,μ)))=some r->c):c:=by
 cases m with
 |zero=>cases h
 |succ m=>exact k m (dh _) h
theorem abT{a:Type}{M:Model}{m:Sem a}{Q:a->az->Prop}{E:aA->az->Prop}(h:∀c,(∀b t,Q b t->c b t)->aI M A m c no s):aI M A m Q E s:=js (h Q λJ J z=>z)
theorem Ot{t:Expr}{x y:List j0}{pos:Pos}(H:je D n cl t)(I:jh D n fuel cl x):kg D n fuel cl (.While t x y pos):=by
 intro sc A env loc ρ μ s j loc' aG R a h
 refine gSm h λN h=>?_
 refine wpAny_While (codeAny_whileLoop (λm t'=>∀W:Prop,(∀i bt bC,qX (aO D.T cl (cE D.X sc t)) (aY D.T cl fuel (yK D.X sc x)) m i bC=some (j,loc',aG)->b_ (jz env) D.G D.b ρ s bt bC t'->At D sc env i bt bC t'->W)->W)
  (λm t' L=>L _ λi bt bC f P a1=>abT λQ C=>VL f λk M f=>om f λv J E f=>tm f (λhb f=>H.d R a1 E hb λo s2 g=>C _ _ (wj f (λl mL r f=>?_) λw l mL r f=>?_)) λhb f=>H.d R a1 E hb λo s2 g=>C _ _ (js ?_)) fuel λW k=>k loc ρ μ h (b_.T a.d) a)
 ·exact js (gx.c (I sc A env i o J s2 .a l mL R (a1.c g) r) λB F p z=>⟨k,M,λW k=>k l B mL f ((P.m (eW a1 g)).m p) ((a1.c g).h p z)⟩)
 ·exact js (gx.e (I sc A env i o J s2 (.b w) l mL R (a1.c g) r) λB u F p z q=>p3Q (P:=λj loc' aG=>gx D env ρ s j loc' aG (.ret u) F) f ⟨B,(P.m (eW a1 g)).m p,z,u,rfl,q⟩)
 ·exact iK.mp N▸Ax (C8 (P:=λj loc' aG=>gx D env ρ s j loc' aG .next s2) f ⟨o,P.m (eW a1 g),(a1.c g).e,rfl⟩)
theorem N0{d:Prop}{i lo:Expr}(h:sl0 i=some lo)(k:∀p,i= .Slice (some lo) none none p->d):d:=by
 cases i with
 |Slice a b c p=>cases b with
  |none=>cases c with
   |none=>cases h;exact k p rfl
   |some _=>cases h
  |some _=>cases h
 |_=>cases h
theorem Np{b:Type}{l:List b}{a:b}(e:l=[a]):a∈l:=e▸ .head _
theorem LW{b:Prop}{T:Tab}{X:CX}{μ:Hp}{ts:List Expr}{r:Fl×Loc×Hp}(h:bQ T cl fuel (Cx ts λt=>abz X sc t) loc μ=some r)
  (k1:∀o lo p q,ts=[.Subscript o (.Slice (some lo) none none p) q]->bQ T cl fuel (.k (cE X sc o) (cE X sc lo)) loc μ=some r->b)
  (k2:∀o i q,ts=[.Subscript o i q]->l_ i=false->bQ T cl fuel (.l (cE X sc o) (cE X sc i)) loc μ=some r->b):b:=by
 refine JM h λt c h=>?_
 cases t with
 |Subscript o i q=>exact cSm h (λa h=>QY h λlo d h=>N0 d λp e=>k1 o lo p q (e▸c) h) λa h=>k2 o i q c a h
 |_=>exact Af h
theorem HO{ts:List Expr}{pos:Pos}(w:∀o i p,.Subscript o i p∈ts->bA D n cl o/\bA D n cl i)(G:∀o lo p q,.Subscript o (.Slice (some lo) none none p) q∈ts->bA D n cl lo):kg D n fuel cl (.Delete ts pos):=by
 intro sc A env loc ρ μ s l loc' aG R a h
 refine LW h (λo lo p q e h=>?_) λo i q e H h=>?_
 ·refine om h λx bC v h=>om h λy I t h=>bm h λmL m h=>e▸wpAny_Delete (RO ?_)
  rw[VZ]
  refine aw ((w _ _ _ (Np e)).1.b R a v λbt ov s1 j r=>aw (bF (wpAny_Slice ?_)))
  rw[evalPart_some]
  refine((G _ _ _ _ (Np e)).b R (a.c j) t λF iv s2 g C=>?_)
  rw[K0]
  refine aF (aF (aw (du (aw (bF (a_ (HM m g.d (g.y j.d r) C) (λJ B z=>?_) λJ J z=>z))))))
  obtain⟨E,k⟩:=z
  exact mW (V7 (C8 (P:=λl loc' aG=>gx D env ρ s l loc' aG .next B) h ⟨E,eW a ((j.f g).f k),(((a.c j).c g).c k).e,rfl⟩))
 ·refine om h λx bC v h=>om h λy I t h=>bm h λmL m h=>e▸wpAny_Delete (RO ?_)
  rw[VZ]
  refine aw ((w _ _ _ (Np e)).1.b R a v λbt ov s1 j r=>aw (bF ((w _ _ _ (Np e)).2.b R (a.c j) t λF iv s2 g C=>aw (du (aw (bF (a_ (HN m g.d (g.y j.d r) C (R.u (by decide))) (λJ B z=>?_) λJ J z=>z)))))))
  obtain⟨E,k⟩:=z
  exact mW (V7 (C8 (P:=λl loc' aG=>gx D env ρ s l loc' aG .next B) h ⟨E,eW a ((j.f g).f k),(((a.c j).c g).c k).e,rfl⟩))
theorem Jl(a:At D sc env loc ρ μ s)(g:env.kindOf (D.G.a x)=some .local\/env.kindOf (D.G.a x)=some .cell)(e:bx loc x=some r):aI (aH D.a D.G.w) A (loadName env (D.G.a x)) (Ok D.G D.b ρ s μ r) no s:=by
 rcases g with g|g
 ·refine cf a.e.z λm o hm=>?_
  refine cf (hm x r e g) λu j h=>?_
  exact V9 a.e.i g o j (Ok.f a.d h)
 ·refine dY (a.e.l x r e (.inl g)) λc u j h k=>?_
  exact WW a.e.i g j h (Ok.f a.d k)
theorem xb{P:Operator->MV->MV->MV->Prop}(d:LB op=some o)(h:Gh o x y=some v)(k:∀i j,P .Add (.c i) (.c j) (.c (i+j))):P op x y v:=by
 cases op<;>cases d<;>first|exact im h λi a h=>im h λj b h=>fI a (fI b (j8 h (k i j)))|cases h
theorem D3(L:gz D)(Z:bA D n cl e):kg D n fuel cl (.AugAssign (.Name x np) op e pos):=by
 intro sc A env loc ρ μ s t loc' aG R a h
 refine QY h λo Y h=>QY h λk r h=>gm r λq r=>bm h λF g h=>om h λH bC E h=>bm h λw W h=>?_
 refine xb (P:=λop F H w=>bx loc k=some F->aO D.T cl (cE D.X sc e) loc μ=some (H,bC)->some (Fl.a,bp loc k w,bC)=some (t,loc',aG)->aI (aH D.a D.G.w) A (exec (.AugAssign (.Name x np) op e pos) env) (gx D env ρ s t loc' aG) no s) Y W (λi j g E h=>?_) g E h
 obtain⟨hN,I,_,_⟩:=L.b x k r
 rw[arm_exec_AugAssign]
 have p:=Cz a q
 have ld:=Jl (A:=A) a (I.symm▸p) g
 rw[I] at ld
 refine aw (du (aw (Ok.C ld λbt Q s1 B N=>aw (bF (Z.b R (a.c B) E λe_ v s2 y S=>?_)))))
 apply N.f λt1=>?_
 apply S.f λt2=>?_
 have a3:=((a.c B).c y).c ((bT.l y.d).u _ (cN _))
 refine aw (du (aw (wpAny_operate' (wpAny_iadd_int (aw (du (aw (wpAny_bindName ?_))))))))
 refine a_ (Ab L (w:= .c (i+j)) a3 q r (by unfold VR;exact⟨_,rfl⟩)) (λJ M z=>aF ?_) λJ J z=>z
 obtain⟨O,U,V⟩:=z
 exact C8 (P:=λt loc' aG=>gx D env ρ s t loc' aG .next M) h ⟨O,(eW a ((B.f y).f ((bT.l y.d).u _ (cN _)))).m U,V,rfl⟩
theorem D2(L:gz D){ob:Expr}{g:Str}{O pos:Pos}{op:Operator}{e:Expr}(F:bA D n cl ob)(he:bA D n cl e):kg D n fuel cl (.AugAssign (.Attribute ob g O) op e pos):=by
 intro sc A env loc ρ μ s H loc' aG R a h
 refine QY h λo ho h=>QY h λk hk h=>om h λw bC h1 h=>bm h λu r h=>om h λS M t h=>bm h λx hw h=>bm h λmL B h=>?_
 refine xb (P:=λop u S x=>iu D.T bC w k=some u->aO D.T cl (cE D.X sc e) loc bC=some (S,M)->og D.T M w k x=some mL->aI (aH D.a D.G.w) A (exec (.AugAssign (.Attribute ob g O) op e pos) env) (gx D env ρ s H loc' aG) no s) ho hw (λi j r t B=>?_) r t B
 obtain⟨_,hN,_,_⟩:=L.b g k hk
 rw[arm_exec_AugAssign_2]
 refine aw (du (aw (F.b R a h1 λbt ov s1 m N=>aw (bF (aw (du (aw ?_)))))))
 rw[<-hN]
 refine Ok.C (xJ L.e r m.d N) λe_ V s2 q Z=>aw (bF (he.b R ((a.c m).c q) t λU v I p W=>?_))
 apply Z.f λt1=>?_
 apply W.f λt2=>?_
 have E:bT D.G D.b U I U M {I with toks:=I.toks+1}:=(bT.l p.d).u _ (cN _)
 refine aw (du (wpAny_operate' (wpAny_iadd_int (aw (du (aw (bF (a_ (yt L.e B E.d (E.y p.d (p.y q.d (q.y m.d N))) (y:= .c (i+j)) (by unfold VR;exact⟨_,rfl⟩)) (λJ s5 z=>?_) λJ J z=>z))))))))
 obtain⟨qY,Y⟩:=z
 have Q:=(((m.f q).f p).f E).f Y
 exact aw (mW (aF (C8 (P:=λH loc' aG=>gx D env ρ s H loc' aG .next s5) h ⟨qY,eW a Q,(a.c Q).e,rfl⟩)))
end
end
section
open PySem PySem.Calls PySem.W PyProof.Rows
open PySem Builtin
inductive Fr (store:MV->Loc->Hp->Option (Loc×Hp)) (body:Loc->Hp->Option (Fl×Loc×Hp)) (K:IK):Nat->Nat->Loc->Hp->Fl->Loc->Hp->Prop
 |d {k:Nat} {loc:Loc} {μ:Hp} (h:K.c μ k=some none):Fr store body K k 0 loc μ .a loc μ
 |e {k n:Nat} {loc eZ iV:Loc} {μ bC eh:Hp} {v r:MV} (h:K.c μ k=some (some v)) (h1:store v loc μ=some (eZ,bC)) (h2:body eZ bC=some (.b r,iV,eh)):Fr store body K k (n+1) loc μ (.b r) iV eh
 |f {k n:Nat} {loc eZ iV loc':Loc} {μ bC eh aG:Hp} {v:MV} {fl:Fl} (h:K.c μ k=some (some v)) (h1:store v loc μ=some (eZ,bC)) (h2:body eZ bC=some (.a,iV,eh)) (r:Fr store body K (k+1) n iV eh fl loc' aG):
  Fr store body K k (n+1) loc μ fl loc' aG
theorem Fr.g{store:MV->Loc->Hp->Option (Loc×Hp)}{body:Loc->Hp->Option (Fl×Loc×Hp)}{K:IK}{k n:Nat}{i loc':Loc}{μ aG:Hp}{t:Fl}(h:Fr store body K k n i μ t loc' aG):
  ∀{C:Fl->Loc->Hp->Prop} {o:Prop},C t loc' aG->(K.c μ k=some none->C .a i μ->o)->(∀m j bC l v r,K.c μ k=some (some v)->store v i μ=some (m,bC)->body m bC=some (.b r,j,l)->C (.b r) j l->o)->
   (∀n0 m j bC l v,n=n0+1->K.c μ k=some (some v)->store v i μ=some (m,bC)->body m bC=some (.a,j,l)->Fr store body K (k+1) n0 j l t loc' aG->o)->o:=
 h.casesOn (λh c w J J=>w h c) (λh q p c J u J=>u _ _ _ _ _ _ h q p c) λh q p r J J J hm=>hm _ _ _ _ _ _ rfl h q p r
section
variable{store:MV->Loc->Hp->Option (Loc×Hp)}{body:Loc->Hp->Option (Fl×Loc×Hp)}
theorem Ij{K:IK}{k n:Nat}{d:Loc}{μ:Hp}{v:MV}{j:Fl}{loc':Loc}{aG:Hp}{f:Loc->Hp->Ex}(m:K.c μ k=some (some v))(e:(ob (store v d μ) λρ μ=>ox (body ρ μ) f)=some (j,loc',aG))(p:∀g i,f g i=some (j,loc',aG)->Fr store body K (k+1) n g i j loc' aG):Fr store body K k (n+1) d μ j loc' aG:=
 om e λq bC o e=>wj e (λg i l e=> .f m o l (p _ _ e)) λr g i l e=>by refine p3Q e ?_;exact .e m o l
theorem Io(all:List MV):∀(r:List MV) (k:Nat) (c:Loc) (μ:Hp) (f:Fl) (loc':Loc) (aG:Hp),all.drop k=r->qx body store r c μ=some (f,loc',aG)->Fr store body (.i all) k r.length c μ f loc' aG
 |[],k,c,μ,f,loc',aG,h,e=>by
  refine C8 e ?_
  exact .d (congrArg some (iR.mpr (j9.mp h)))
 |v::r,k,c,μ,f,loc',aG,h,e=>by
  refine m7 (qp h) λJ g j=>?_
  exact Ij (congrArg some g) e λl m e=>Io all r (k+1) _ _ _ _ _ j e
theorem Ik(m:Nat):∀(j k:Nat) (g:Loc) (μ:Hp) (i:Fl) (loc':Loc) (aG:Hp),k+j=m->qx body store ((List.range' k j).map λ(j:Nat)=>MV.c j) g μ=some (i,loc',aG)->Fr store body (.f m) k j g μ i loc' aG
 |0,k,g,μ,i,loc',aG,h,e=>by
  refine C8 e ?_
  exact .d (congrArg some (if_neg (QF h)))
 |j+1,k,g,μ,i,loc',aG,h,e=>Ij (congrArg some (if_pos (GZ h))) e λn l e=>Ik m j (k+1) _ _ _ _ _ (AY h) e
theorem zz(en:Bool)(n:Nat)(all:List MV):∀(r:List MV) (k:Nat) (c:Loc) (μ:Hp) (i:Fl) (loc':Loc) (aG:Hp),all.drop k=r->k<=all.length->Em en body store n all k r c μ=some (i,loc',aG)->
  Fr store body (cond en (.e n) (.g n)) k r.length c μ i loc' aG
 |[],k,c,μ,i,loc',aG,h,hk,e=>Dc e λl f j e=>by
  refine C8 e ?_
  cases(kq _ _).mp j
  have o:=iR.mpr (j9.mp h)
  refine .d ?_
  cases en
  ·exact(qH f _).trans (congrArg some o)
  ·exact(qH f _).trans (by rw[o];rfl)
 |v::r,k,c,μ,i,loc',aG,h,hk,e=>Dc e λl f j e=>by
  cases(kq _ _).mp j
  refine m7 (qp h) λp m q=>?_
  refine Ij ?_ e λt u e=>zz en n all r (k+1) _ _ _ _ _ q p e
  cases en
  ·exact(qH f _).trans (congrArg some m)
  ·exact(qH f _).trans (m▸rfl)
end
section
variable{W:cK->Prop}{G:Cfg}{hb h h':dO}{ρ ρ':fj}{μ aG:Hp}{s s':az}{prog:fu}{A:c_}{it:aA}{a b:cK}{k:Nat}{K:IK}
theorem sZ{E:aA->az->Prop}{Q:Unit->az->Prop}(g:s.heap.get? a=some o)(f:o.cls= .type T)
  (e:["enumerate","zip","dict_itemiterator","dict_reverseitemiterator","odict_iterator","itertools.zip_longest","itertools.pairwise"].contains T=false) (q:Q () s):aI (aH prog G.w) A (iz t (.ref a) v) Q E s:=by
 have body:aI (aH prog G.w) A (iz (.List [] ⟨0,0,0,0⟩) (.ref a) v) Q E s:=by
  obtain⟨c,d,x,y⟩:=o
  subst f
  cases v<;>first|exact aF q|skip
  refine aw (wpAny_load g ?_)
  cases x<;>first|exact aF q|exact jx (by rw[e];rfl) (aF q)
 cases t with
 |Tuple _ _ _=>exact body
 |List _ _=>exact body
 |_=>exact aF q
theorem MW{P:Expr->Prop}(h:lJ t=true)(k:∀c x pos,P (.Tuple c x pos)):P t:=by
 cases t with
 |Tuple c x pos=>exact k c x pos
 |_=>cases h
theorem Ub{P:IK->Prop}(h:K.d=true)(k:∀n,P (.e n)):P K:=by
 cases K with
 |e n=>exact k n
 |_=>cases h
theorem abK{E:aA->az->Prop}{Q:Unit->az->Prop}(h:K.d=false)(I:ij hb s.heap ρ it a b k K)(q:Q () s):aI (aH prog G.w) A (iz t it v) Q E s:=by
 cases K with
 |e n=>cases h
 |i l=>obtain⟨t,vs,e,⟨o,g,c,d⟩,_⟩:=I;exact e▸sZ g c (by decide) q
 |f m=>exact I.1▸sZ I.2.2 rfl (by decide) q
 |g n=>obtain⟨p,e,_,⟨o,g,c,d⟩⟩:=I;exact e▸sZ g c (by decide) q
theorem Ku{Q:Option aA->az->Prop}{E:aA->az->Prop}(S:eV G hb s.heap ρ μ)(I:ij hb s.heap ρ it a b k (IK.e n))(oa:Off ρ a)(ob:Off ρ b)(ha:hb.get? a=none)(zC:hb.get? b=none)(qc:(IK.e n).d=true->lJ t=true/\a≠b)(e:(IK.e n).c μ k=some (some x))
  (q:∀v s1,(∀{F:Unit->az->Prop} {H:aA->az->Prop},(∀s2,b_ (λc=>c=a\/c=b) G hb ρ s ρ μ s2->VR hb s2.heap ρ x v->ij hb s2.heap ρ it a b (k+1) (IK.e n)->F () s2)->aI (aH prog G.w) A (iz t it v) F H s1)->Q (some v) s1):
  aI (aH prog G.w) A (FG it) Q E s:=by
 refine ir (qc rfl) λL u=>?_
 refine pI I λp old R Z T N=>?_
 refine lm e λJ l h0 hn e=>mm (ba e) λy hy ex=>S.O hn (MV.d.inj h0▸Z) λvs j g r=>?_
 refine cf (r.D hy) λv hv q1=>?_
 refine R▸wpAny_pyNext_enum_item (items:=vs.toArray) N T (gT g) (x:=v) (by simpa using hv) (cH u) λh1 M z UJ hz1 uZ=>q _ _ λ{F H} q2=>?_
 refine MW (P:=λt=>aI (aH prog G.w) A (iz t it (.ref s.heap.objs.size)) F H {s with heap:=h1,toks:=s.toks+1}) L λelts x1 pos=>?_
 refine R▸wpAny_letOwnedTupleGo_enum M λX C Rj=>?_
 have f:=Rj
 have U:=z.choose_spec.1
 have m:∀c o,¬(c=a\/c=b)->s.heap.get? c=some o->X.get? c=some o:=λc o w g=>(f.2 c λe=>w (.inr e)).trans (uZ c o (λe=>w (.inr e)) (λe=>w (.inl e)) g)
 have P:b_ (λc=>c=a\/c=b) G hb ρ s ρ μ {s with heap:=X,toks:=s.toks+1}:=by
  refine b_.V S (λc w=>w.elim (λe=>e▸oa) λe=>e▸ob) (λc w=>w.elim (λe=>e▸ha) λe=>e▸zC) (λc vs w=>w.elim (λe=>e▸I.i vs) λe=>e▸I.j vs) m (λc e=>?_) _ (cN _)
  by_cases Y:c=a
  ·rw[Y,f.2 _ u,U] at e;cases e
  ·by_cases Mn:c=b
   ·rw[Mn] at e;exact absurd (C.symm.trans e) (by simp)
   ·cases q:s.heap.get? c with
    |none=>rfl
    |some o=>rw[m c o (λw=>w.elim Y Mn) q] at e;cases e
 refine q2 _ P (ex▸?_) ⟨p,v,R,Z,⟨_,(f.2 _ u).trans U,z.choose_spec.2⟩,?_⟩
 ·exact⟨_,[.int k s.toks,v],rfl,(f.2 _ λe=>by rw[<-e] at N;exact absurd ((fE s.heap).symm.trans N) (by simp)).trans UJ,dw.o (⟨_,rfl⟩) (dw.o (P.O q1) dw.B)⟩
 ·rw[(xg:((k+1:Nat):Int)=(k:Int)+1)];exact C
theorem Oj{Q:Option aA->az->Prop}{E:aA->az->Prop}(S:eV G hb s.heap ρ μ)(I:ij hb s.heap ρ it a b k K)(l:Off ρ a)(ob:Off ρ b)(i:hb.get? a=none)(r:hb.get? b=none)(p:K.d=true->lJ t=true/\a≠b)(e:K.c μ k=some (some x))
  (q:∀v s1,(∀{f:Unit->az->Prop} {j:aA->az->Prop},(∀s2,b_ (λc=>c=a\/c=b) G hb ρ s ρ μ s2->VR hb s2.heap ρ x v->ij hb s2.heap ρ it a b (k+1) K->f () s2)->aI (aH prog G.w) A (iz t it v) f j s1)->Q (some v) s1):
  aI (aH prog G.w) A (FG it) Q E s:=by
 cases hk:K.d with
 |true=>
  obtain⟨n,rfl⟩:∃n,K= .e n:=Ub (P:=λK=>∃n,K= .e n) hk λn=>⟨n,rfl⟩
  exact Ku S I l ob i r p e q
 |false=>exact Ct S I l i hk e λv s1 P u m=>q v s1 λ{f j} q2=>abK hk m (q2 s1 (P.E λb o g w=> .inl w) u m)
end
end
section
open PySem PySem.Calls PySem.W PyProof.Rows
open PySem Builtin
section
variable{D:Dat}{sc:Sc}{env:Env}{loc loc':Loc}{ρ ρ':fj}{μ aG:Hp}{s s':az}{A:c_}{n fuel:Nat}{cl:Call}
theorem TP(h:LD X sc t=some m):cT X sc t=some m/\Dz D n cl t:=by
 cases t<;>first|exact⟨h,trivial⟩|cases h
noncomputable def WO(env:Env)(a b:cK)(c:cK):Prop:=jz env c\/c=a\/c=b
theorem WO.a{ad bd:cK}{e:fj}{d:Hp}{c:az}(h:s.heap.get? ad=none)(f:s.heap.get? bd=none)(p:b_ (WO env ad bd) D.G D.b ρ s e d c):b_ (jz env) D.G D.b ρ s e d c:=p.E λb o g w=>by
 rcases w with w|rfl|rfl
 ·exact w
 ·rw[h] at g;cases g
 ·rw[f] at g;cases g
inductive adq (D:Dat) (store:MV->Loc->Hp->Option (Loc×Hp)) (body:Loc->Hp->Ex) (sc:Sc) (env:Env) (K:IK) (it:aA) (ad bd:cK) (fl:Fl) (loc':Loc) (aG:Hp) (ρ:fj) (s:az) (j:Nat) (t:az):Prop
 |mk (k:Nat) (eZ:Loc) (bt:fj) (bC:Hp) (fr:Fr store body K k j eZ bC fl loc' aG) (P:b_ (WO env ad bd) D.G D.b ρ s bt bC t) (o1:Off bt ad) (o2:Off bt bd) (oa ob:Obj) (ga:t.heap.get? ad=some oa) (gb:t.heap.get? bd=some ob) (I:ij D.b t.heap bt it ad bd k K) (a:At D sc env eZ bt bC t)
section
variable{t:Expr}{m:MT}{x:List j0}{K:IK}{it:aA}{ad bd:cK}{k:Nat}{eZ iV ya:Loc}{bt:fj}{bC eh mL:Hp}{t':az}{fl2:Fl}{v:MV}{oa ob:Obj}
theorem vh{Q:Option aA->az->Prop}{E E1 E2 E3:aA->az->Prop}{J:Flow->az->Prop}(L:gz D)(hx:jh D n fuel cl x)(R:fB (n+1) A)(a:At D sc env loc ρ μ s)(hm:LD D.X sc t=some m)(qc:K.d=true->lJ t=true/\ad≠bd)(fa:s.heap.get? ad=none)(fb:s.heap.get? bd=none)
  (P:b_ (WO env ad bd) D.G D.b ρ s bt bC t') (V:Off bt ad) (o2:Off bt bd) (ga:t'.heap.get? ad=some oa) (gb:t'.heap.get? bd=some ob) (I:ij D.b t'.heap bt it ad bd k K) (a1:At D sc env eZ bt bC t')
  (hi:K.c bC k=some (some v)) (K6:eX D.T cl m v eZ bC=some (iV,eh)) (Y:aY D.T cl fuel (yK D.X sc x) iV eh=some (fl2,ya,mL))
  (q:∀u s1,aI (aH D.a D.G.w) A (iz t it u) (λ_ s2=>aI (aH D.a D.G.w) A (OG t env u) (λ_ s3=>aI (aH D.a D.G.w) A (execs x env) J E3 s3) E2 s2) E1 s1->Q (some u) s1)
  (Z:∀f i C oa ob,b_ (WO env ad bd) D.G D.b ρ s i mL C->Off i ad->Off i bd->C.heap.get? ad=some oa->C.heap.get? bd=some ob->ij D.b C.heap i it ad bd (k+1) K->oO D.G D.b D.d D.e env ya C.heap i->WX D.b C.heap i fl2 f->J f C):
  aI (aH D.a D.G.w) A (FG it) Q E t':=by
 have S:=a.k fa
 have O:=a.k fb
 refine ir (TP (D:=D) (n:=n) (cl:=cl) hm) λhT W=>?_
 refine Oj P.B I V o2 (a.d.M fa) (a.d.M fb) qc hi λu s1 go=>q u s1 (go λs2 l q1 I1=>?_)
 have a2:=a1.h l (a1.e.B l λb w e=>e.elim (λe=>S (e▸w)) λe=>O (e▸w))
 refine js (a_ (oP L W hT R a2 q1 K6) (λ_ s3 z=>?_) λ_ _ z=>z)
 obtain⟨jX,j,F3⟩:=z
 refine l.ac ga λoa2 F=>l.ac gb λob2 r=>?_
 have P13:=(P.m (l.E λb o g w=> .inr w)).m (j.E λb o g w=> .inl w)
 have I3:=I1.c j l.B V o2 S O
 have U:=j.u _ _ F V S
 have N:=j.u _ _ r o2 O
 have y:=j.M F V
 have p:=j.M r o2
 have a3:=a2.h j F3
 clear P l I I1 ga gb F r q1 a1 F3 V o2 j a2
 refine js (a_ (hx sc A env iV jX eh s3 fl2 ya mL R a3 Y) (λf s4 z=>?_) λ_ _ z=>z)
 obtain⟨i,H,F4,hf⟩:=z
 exact Z f i s4 _ _ (P13.m (H.E λb o g w=> .inl w)) (H.M U y) (H.M N p) (H.u _ _ U y S) (H.u _ _ N p O) (I3.c H a3.d y p S O) F4 hf
theorem nS(L:gz D){nn:Nat}{y:Fl}{s2:az}(hx:jh D n fuel cl x)(R:fB (n+1) A)(a:At D sc env loc ρ μ s)(hm:LD D.X sc t=some m)(qc:K.d=true->lJ t=true)(So:yR D ρ s bC K it s2)
  (fr:Fr (eX D.T cl m) (aY D.T cl fuel (yK D.X sc x)) K 0 nn loc bC y loc' aG) {Q:Flow->az->Prop} {E:aA->az->Prop} (k:∀f s',gx D env ρ s y loc' aG f s'->Q f s'):
  nY (aH D.a D.G.w) A (.forLoop t it x [] env) (λr s'=>match r with| .ok f=>Q f s'| .error e=>E e s') s2:=by
 obtain⟨ad,bd,s1,bt,h2,t2,rfl,P,p,ht,l,U,W,ne,ob,J⟩:=So
 have a1:=a.c P
 have O:=eW a P
 have k':∀f s',gx D env bt s1 y loc' aG f s'->Q f s':=λf s' z=>k f s' (gx.b O z)
 clear k a P O
 have Z:bT D.G D.b bt s1 bt bC {s1 with heap:=h2,toks:=t2}:=bT.B a1.d p t2 ht
 refine W.f λoa F=>codeAny_forLoop_any (adq D (eX D.T cl m) (aY D.T cl fuel (yK D.X sc x)) sc env K it ad bd y loc' aG bt s1) (λj t' hI=>?_) nn ⟨0,loc,bt,bC,fr,Z.w a1.d,gU a1.d l,gU a1.d U,oa,ob,F,J,W,a1.c Z⟩
 clear W F J Z fr p
 obtain⟨k,eZ,e_,eh,hfr,P,o1,o2,oa,ob,F,J,I,a2⟩:=hI
 have o:K.d=true->lJ t=true/\ad≠bd:=λh=>⟨qc h,ne h⟩
 refine hfr.g (C:=λy loc' aG=>∀f s',gx D env bt s1 y loc' aG f s'->Q f s') k' (λV c=>?_) (λ_ _ _ _ _ u V h1 hb c=>?_) λn0 _ _ _ _ _ e V h1 hb hr=>?_
 ·refine H7 P.B I R.a V λh5 k5=>Ax (c _ _ ⟨e_,WO.a l U (P.X (h':=h5) l o1 (a1.d.M l) I.i k5),a2.e.H k5 I.i (a1.k l),rfl⟩)
 ·refine vh L hx R a1 hm o l U P o1 o2 F J I a2 V h1 hb (λu s1 h=>h) λf Y t4 oa ob S _ _ _ _ II FF ff=>?_
  refine cf ff λu e q=>?_
  refine fI e ?_
  exact c _ _ ⟨Y,WO.a l U S,FF,u,rfl,q⟩
 ·refine vh L hx R a1 hm o l U P o1 o2 F J I a2 V h1 hb (λu s1 h=>h) λf Y t4 oa ob S oA oB gA gB II FF ff=>?_
  cases ff
  exact⟨n0,e▸dh _,.mk _ _ Y _ hr S oA oB oa ob gA gB II ⟨S.B,FF,aD a1.j S.N,a1.i⟩⟩
end
end
end
section
open PySem PySem.Calls PySem.W PyProof.Rows
open PySem Builtin
section
variable{D:Dat}{sc:Sc}{env:Env}{loc loc':Loc}{ρ ρ':fj}{μ aG:Hp}{s s':az}{A:c_}{n fuel:Nat}{cl:Call}
theorem N7{Q:aA->az->Prop}(p:bA D n cl i)(R:fB (n+1) A)(a:At D sc env loc ρ μ s)(h:aO D.T cl (cE D.X sc i) loc μ=some (.e l,aG))
  (k:∀f s2,yR D ρ s aG (.i l) f s2->Q f s2):aI (aH D.a D.G.w) A (eval i env) (λx s1=>aI (aH D.a D.G.w) A (OJ x) Q no s1) no s:=by
 refine p.b R a h λbt u s1 q m=>?_
 refine dY m.d λj c z0 g r=>?_
 refine fI z0 ?_
 have kp:∀b o,s1.heap.get? b=some o->(s1.heap.push {cls:= .type "tuple_iterator",data:= .fields #[.ref j,.int 0 0]}).get? b=some o:=λb o e=>bg _ e
 exact wpAny_pyIter_tuple (items:=c.toArray) ⟨_,g,rfl,_,rfl⟩ (pb (K:= .i l) q rfl ⟨j,c,rfl,⟨_,bU _ rfl,rfl,rfl⟩,kp _ _ g,dw.t (λa vs g=>kp _ _ g) (λJ J e=>e) _ _ r⟩ rfl k)
theorem N6(L:gz D){Q:aA->az->Prop}(F:oH D.X sc "enumerate" i=true)(z:∀r p a q,i= .Call (.Name r p) [a] [] q->bA D n cl a)(R:fB (n+1) A)(a:At D sc env loc ρ μ s)(h:aO D.T cl (Uz (cA D.X sc i)) loc μ=some (.d m,aG))(B:aG[m]?=some (.a l))
  (k:∀t s2,yR D ρ s aG (.e m) t s2->Q t s2):aI (aH D.a D.G.w) A (eval i env) (λx s1=>aI (aH D.a D.G.w) A (OJ x) Q no s1) no s:=by
 refine Eh L.l λU E M S P H b5=>?_
 refine Hm L F E b5 (.c _) (λJ h=>(uY L h).2) (by decide) z R a h λu s1 bt v y=>?_
 refine ud (v.d.I B y) λp1 N j z0 C O g V=>?_
 refine fI z0 ?_
 refine call_enumerate_list (gT g) λh' f b hsz kp=>wpAny_pyIter_enum f (k _ _ ⟨s1.heap.objs.size,s1.heap.objs.size+1,s1,bt,h',s1.toks,rfl,v,kp,aC _,fE _,?_,⟨p1,.none,rfl,C,b,f⟩,λJ e=>absurd e (gu (dh _)),_,f⟩)
 cases q:s1.heap.get? (s1.heap.objs.size+1) with
 |none=>rfl
 |some o=>exact absurd (so q) (OD.mpr (cN _))
theorem abH(L:gz D)(E:bA D n cl i)(B:∀r p a q,i= .Call (.Name r p) [a] [] q->bA D n cl a)(f:jh D n fuel cl x):kg D n fuel cl (.For t i x y pos):=by
 intro sc A env loc ρ μ s I loc' aG R a h
 refine gSm h λu w=>QY w λm hm q=>?_
 clear h w
 obtain⟨u,C⟩:=aE.mp u
 obtain⟨H,F⟩:=aE.mp u
 obtain rfl:y=[]:=iK.mp H
 refine wpAny_For ?_ λv=>De (jt _▸F) v
 unfold abt at q
 by_cases k:oH D.X sc "range" i=true
 ·replace q:=(if_pos k)▸q
  exact om q λv bC e h=>im h λkk b h=>gm h λG j=>Dj L k B R a (b▸e) G λo s2 S=>nS L f R a hm (λh=>by cases h) S (Ik kk.toNat kk.toNat 0 _ _ _ _ _ (cP _) (FZ▸j)) λJ J z=>z
 ·rw[if_neg k] at q
  by_cases c:oH D.X sc "enumerate" i=true
  ·rw[if_pos c] at q
   exact om q λv bC e h=>lm h λnn l b g j=>N6 L c B R a (b▸e) g λo s2 S=>nS L f R a hm (λJ=>by rw[c] at C;simpa using C) S (zz true nn l l 0 _ _ _ _ _ (iB ..) (b7 _) j) λJ J z=>z
  ·rw[if_neg c] at q
   refine om q λv bC e h=>?_
   cases v with
   |e l=>exact N7 E R a e λo s2 S=>nS L f R a hm (λh=>by cases h) S (Io l l 0 _ _ _ _ _ (iB ..) h) λJ J z=>z
   |d nn=>exact lm h λnn l b g h=>Di E R a (b▸e) g λo s2 S=>nS L f R a hm (λh=>by cases h) S (zz false nn l l 0 _ _ _ _ _ (iB ..) (b7 _) h) λJ J z=>z
   |_=>cases h
end
end
section
open PySem PySem.Calls PySem.W PyProof.Rows
open PySem Builtin
section
variable{D:Dat}{sc:Sc}{env:Env}{loc loc':Loc}{ρ ρ':fj}{μ aG:Hp}{s s':az}{A:c_}{n fuel:Nat}{cl:Call}
theorem jq(h:bA D n cl e)(d:∀env whole,isTrue e env whole=(do let v<-whole;standAt e.pos;holding [v] (truthy v))):wW D n cl e:=
 ⟨h,λsc A env loc ρ μ s r b aG R a c hb=>pd h (d env) sc A loc ρ μ s r b aG R a c hb⟩
theorem k8(h:∀sc loc μ (r:MV×Hp),aO D.T cl (cE D.X sc e) loc μ=some r->False):wW D n cl e:=
 ⟨λsc A env loc ρ μ s r aG R a c=>(h _ _ _ _ c).elim,λsc A env loc ρ μ s r b aG R a c hb=>(h _ _ _ _ c).elim⟩
theorem T6(L:gz D){b iter:Expr}{x:Str}{px pos:Pos}{scope:Ld}(y:bA D n cl b)(o:bA D n cl iter)(g:∀r p a q,iter= .Call (.Name r p) [a] [] q->bA D n cl a):bA D n cl (.ListComp b [⟨.Name x px,iter,[],0⟩] scope pos):=by
 intro sc A env loc ρ μ s r aG R a h
 rw[arm_eval_ListComp]
 refine xx L y o g R a h λs1 bt bC E vs e w f Dd C v l t z B u j d=>?_
 subst w f
 refine cf (HF (A:=A) (a.c e) Dd C v l t z B u j d) λm hm k=>?_
 exact⟨m,hm,λh' i=>Ok.c e (k h' i)⟩
theorem qJ{e:Expr}{a:List Expr}(h:e∈a):sizeOf e<sizeOf a:=Fv h
theorem sS(L:gz D)(B:qj D.G D.T D.c D.a D.b n cl)(M:∀c a f,D.T.a c a=some f->kQ D.K (.ref (D.c f))=true):∀(m:Nat) (e:Expr),sizeOf e<m->wW D n cl e
 |0,e,h=>absurd h (wH _)
 |m+1,e,h=>by
  have d:=sS L B M m
  cases e with
  |Constant c k pos=>exact jq LQ λJ J=>rfl
  |Name x pos=>exact jq (Vb L) λJ J=>rfl
  |BoolOp op w pos=>
   have j:∀e∈w,wW D n cl e:=λe g=>d e (by have:=qJ g;simp at h;exact QL this h)
   cases op with
   |And=>exact⟨OQ λe g=>(j e g).1,OR λe g=>(j e g).2⟩
   |Or=>exact⟨acx λe g=>(j e g).1,acy λe g=>(j e g).2⟩
  |BinOp l op r pos=>exact jq (abr (d l (G7 h)).1 (d r (QM h)).1) λJ J=>rfl
  |UnaryOp op x pos=>
   have v:=d x (QJ h)
   exact⟨Dp v.1,Om v⟩
  |IfExp t x y pos=>
   have Q:=d t (G7 h)
   have v:=d x (aaQ h)
   have P:=d y (QM h)
   exact⟨MG Q.2 v.1 P.1,MH Q.2 v.2 P.2⟩
  |Dict ks w pos=>exact jq (T_ λe g=>(d e (by have:=qJ g;simp at h;exact QL this h)).1) λJ J=>rfl
  |List w pos=>exact jq (UZ λe g=>(d e (by have:=qJ g;simp at h;exact aaP this h)).1) λJ J=>rfl
  |Tuple w k pos=>exact jq (Oi λe g=>(d e (by have:=qJ g;simp at h;exact aaO this h)).1) λJ J=>rfl
  |Attribute o a pos=>exact jq (TL L (d o (QK h)).1) λJ J=>rfl
  |Subscript o i pos=>
   have N:=d o (QK h)
   by_cases j:l_ i=false
   ·exact jq (adi j N.1 (d i (QJ h)).1) λJ J=>rfl
   ·obtain⟨lo,H,st,p,rfl⟩:∃lo H st p,i= .Slice lo H st p:=by cases i<;>first|exact⟨_,_,_,_,rfl⟩|(exact absurd rfl j)
    cases st with
    |none=>
     refine jq (N1 N.1 ?_ ?_) λJ J=>rfl
     ·cases lo with
      |none=>trivial
      |some e=>exact(d e (aaN h)).1
     ·cases H with
      |none=>trivial
      |some e=>exact(d e (aaM h)).1
    |some e=>exact k8 λsc loc μ r h=>cEm h (λJ h=>ug h λc J=>nomatch c) λc J=>nomatch c
  |Compare l I E pos=>
   have z:=d l (G7 h)
   have u:∀e∈E,bA D n cl e:=λe g=>(d e (by have:=qJ g;simp at h;exact QI this h)).1
   rcases I with _|⟨o1,_|⟨o2,_|⟨o3,os⟩⟩⟩
   ·exact k8 λsc loc μ r h=>ug h λJ h=>stk h
   ·rcases E with _|⟨c1,_|⟨c2,r⟩⟩
    ·exact k8 λsc loc μ r h=>ug h λJ h=>stk h
    ·exact⟨TU L z.1 (u _ (by simp)),TV L z.1 (u _ (by simp))⟩
    ·exact k8 λsc loc μ r h=>ug h λJ h=>stk h
   ·rcases E with _|⟨c1,_|⟨c2,_|⟨c3,r⟩⟩⟩
    ·exact k8 λsc loc μ r h=>ug h λJ h=>stk h
    ·exact k8 λsc loc μ r h=>ug h λJ h=>stk h
    ·exact⟨TX z.1 (u _ (by simp)) (u _ (by simp)),TY z.1 (u _ (by simp)) (u _ (by simp))⟩
    ·exact k8 λsc loc μ r h=>ug h λJ h=>stk h
   ·exact k8 λsc loc μ r h=>ug h λJ h=>stk h
  |Call f args ks pos=>
   have F:∀e∈args,bA D n cl e:=λe g=>(d e (by have:=qJ g;simp at h;exact G6 this h)).1
   cases f with
   |Name x p=>exact⟨Hz L B F,HB (Hz L B F)⟩
   |Attribute o a p=>
    have key:=U8 (name:=a) (apos:=p) (pos:=pos) (ks:=ks) L B (d o (aaL h)).1 F M
    exact⟨key,HB key⟩
   |_=>exact k8 λsc loc μ r h=>ug h λJ h=>stk h
  |ListComp C gens scope pos=>
   refine jq ?_ λJ J=>rfl
   intro sc A env loc ρ μ s r aG R a O
   refine xI O λx px iter S=>?_
   subst S
   refine T6 L (d C (aaK h)).1 (d iter (aaJ h)).1 (λr p a q e=>?_) sc A env loc ρ μ s _ aG R a O
   subst e
   exact(d _ (aaI h)).1
  |_=>exact k8 λsc loc μ r h=>stk h
end
end
section
open PySem PySem.Calls PySem.W PyProof.Rows
open PySem Builtin
section
variable{D:Dat}{sc:Sc}{env:Env}{loc loc':Loc}{ρ ρ':fj}{μ aG:Hp}{s s':az}{A:c_}{n fuel:Nat}{cl:Call}
theorem HK{st:j0}(h:∀sc loc μ (r:Fl×Loc×Hp),bQ D.T cl fuel (cS D.X sc st) loc μ=some r->False):kg D n fuel cl st:=λsc A env loc ρ μ s c loc' aG R a b=>(h _ _ _ _ b).elim
theorem oW:∀{b:List j0},(∀st∈b,kg D n fuel cl st)->jh D n fuel cl b
 |[],_=>acu
 |st::r,h=>T7 (h st (.head _)) (oW λx a=>h x (.tail _ a))
theorem N5(E:∀e,wW D n cl e)(v:Expr):RW D n cl v:=λJ J J J J J J=>⟨(E _).1,(E _).1,λJ J J J J=>(E _).1⟩
theorem Of(E:∀e,wW D n cl e)(t:Expr):Dz D n cl t:=by
 cases t<;>first|exact trivial|exact(E _).1|exact⟨(E _).1,(E _).1⟩
theorem si{e:j0}{a:List j0}(h:e∈a):sizeOf e<sizeOf a:=Fv h
theorem tK(L:gz D)(E:∀e,wW D n cl e):∀(m:Nat) (st:j0),sizeOf st<m->kg D n fuel cl st
 |0,e,h=>absurd h (wH _)
 |m+1,st,h=>by
  have c:=tK L E m
  cases st with
  |Expr v pos=>exact Ui (E v).1
  |Return o pos=>
   refine JZ ?_
   cases o with
   |none=>trivial
   |some e=>exact(E e).1
  |Assign ts v pos=>exact Ho L (E v).1 (N5 E v) λt J=>Of E t
  |AugAssign t op v pos=>
   cases t with
   |Name x p=>exact D3 L (E v).1
   |Attribute o a p=>exact D2 L (E o).1 (E v).1
   |_=>exact HK λsc loc μ r h=>QY h λJ J h=>Af h
  |If t x y pos=>
   exact adX (E t).2 (oW λst b=>c st (by have:=si b;simp at h;exact G6 this h)) (oW λst b=>c st (by have:=si b;simp at h;exact QI this h))
  |While t x y pos=>exact Ot (E t).2 (oW λst b=>c st (by have:=si b;simp at h;exact G6 this h))
  |For t i x y pos=>exact abH L (E i).1 (λr p a q J=>(E a).1) (oW λst b=>c st (by have:=si b;simp at h;exact(gy [_,_,_,_,_,_,_] V0.A V0.G (.o (V0.A+1) V0.B (.o (1+V0.C+V0.D+V0.B+V0.E+V0.F+1) (V0.G+1) .z)) rfl this h)))
  |Delete ts pos=>exact HO (λo i p J=>⟨(E o).1,(E i).1⟩) λo lo p q J=>(E lo).1
  |_=>exact HK λsc loc μ r h=>Af h
end
end
section
open PySem PySem.Calls PySem.W PyProof.Rows
open PySem Builtin
section
variable{D:Dat}{sc:Sc}{env:Env}{loc loc':Loc}{ρ ρ':fj}{μ aG:Hp}{s s':az}{A:c_}{n fuel:Nat}{cl:Call}
set_option tactic.hygienic true in
theorem jK:∀(names:List (Str×rQ)) (lo:Nat) (a:List (Str×cK)) (x:Str),((x,iN)∈names\/(a.lookup x).isSome)->((Le lo names a).lookup x).isSome
 |[],lo,a,x,h=>by
  rcases h with h|h
  ·cases h
  ·exact h
 |(nm,k)::r,lo,a,x,h=>by
  unfold Le
  split
  ·rename_i hk
   refine jK r _ _ x ?_
   rcases h with h|h
   ·rcases cw.mp h with e|h
    ·refine ET e ?_;exact .inr (by simp[da])
    ·exact .inl h
   ·refine .inr ?_
    rw[da]
    split
    ·rfl
    ·exact h
  ·rename_i hk
   refine jK r _ _ x ?_
   rcases h with h|h
   ·rcases cw.mp h with e|h
    ·cases e;exact absurd rfl hk
    ·exact .inl h
   ·exact .inr h
theorem tD:∀{ks:List Nat} {ws:List MV} {vs:List aA} {loc loc':Loc} {ρ:fj} {s:az} (f:Str×aA->PUnit->Sem (ForInStep PUnit)),(∀n v u,f (n,v) u=(do storeName env n v;pure (.yield ⟨⟩)))->eH ks ws loc=some loc'->(∀k∈ks,k<D.G.N/\(env.kindOf (D.G.a k)=some .local\/env.kindOf (D.G.a k)=some .cell))->
  eV D.G D.b s.heap ρ μ->oO D.G D.b D.d D.e env loc s.heap ρ->dw D.b s.heap ρ ws vs->
  aI (aH D.a D.G.w) A (forIn ((ks.map D.G.a).zip vs) PUnit.unit f) (λJ s'=>b_ (jz env) D.G D.b ρ s ρ μ s'/\oO D.G D.b D.d D.e env loc' s'.heap ρ) no s
 |[],ws,vs,loc,loc',ρ,s,f,hf,hb,hk,S,F,q=>by
  cases ws with
  |nil=>
   refine j8 hb ?_
   rw[ju,List.zip_nil_left,wV]
   exact aF ⟨b_.T S,F⟩
  |cons w ws=>cases hb
 |k::ks,ws,vs,loc,loc',ρ,s,f,hf,hb,hk,S,F,q=>by
  cases ws with
  |nil=>cases hb
  |cons w ws=>
   refine dY q.f λv x z0 i t=>?_
   refine fI z0 ?_
   rw[dX,List.zip_cons_cons,oj,hf]
   refine ir (hk k (.head _)) λj h=>?_
   refine aw (aw (a_ (qU (loc':=bp loc k w) F S h j i (by rw[hP,if_pos rfl]) λy r=>by rw[hP,if_neg r]) (λJ s1 z=>aF ?_) λJ J z=>z))
   refine ir z λP p=>?_
   have l:b_ (jz env) D.G D.b ρ s ρ μ s1:=P.E λb o g w=>by
    rcases w with rfl|⟨_,w⟩
    ·exact .inl rfl
    ·exact w
   refine a_ (tD f hf hb (λk c=>hk k (.tail _ c)) P.B p (P.R t)) (λJ s2 z=>?_) λJ J z=>z
   exact⟨l.m z.1,z.2⟩
theorem xH(L:gz D)(hF:wX D f F)(R:fB (n+2) A)(S:eV D.G D.b s.heap ρ μ)(M:D.T.d<=s.toks)(q:dw D.b s.heap ρ vs vals)(hb:eH F.a vs []=some zP)
  (h:∃C eZ,(∀(sc:Sc) (A:c_) (env:Env) (s1:az) (body:List j0),F.b=yK D.X sc body->fB (n+1) A->At D sc env zP ρ μ s1->aI (aH D.a D.G.w) A (execs body env) (gx D env ρ s1 C eZ aG) no s1)/\(C= .b r\/(C= .a/\r= .f))):
  nY (aH D.a D.G.w) A (.call (.ref (D.c f)) ⟨vals,[]⟩) (Back (Ok D.G D.b ρ s aG r)) s:=by
 obtain⟨o,i,body,ho,hd,ID,abQ,U,W,V,hba,Z,adM,P,abO,O,aeE,_⟩:=hF
 have l:vals.length=F.a.length:=by
  rw[q.g,sH hb]
 refine codeAny_call_function (by have:=R.b;rw[pV];exact aaR this) (S.m _ _ ho) hd Z adM ID (U.keeps S.m) ?_
 refine(abO vals l)▸W▸(aF ?_)
 refine js ?_
 simp only[FE,Option.isSome_none,dx,if_false]
 refine aw (wpAny_alloc ?_)
 refine aw (wpAny_layCells _ (λname p cells=>by cases hkc:p==iN<;>simp[hkc]) _ _ _ _ ?_)
 have ok:=cellsFrom_ok i.scope.names (s.heap.push {cls:= .type "frame",data:= .dict #[]}) (s.heap.objs.size+1) [] ⟨λJ J hm=>(nomatch hm),List.Pairwise.nil⟩ (by rw[lx];exact aC _)
 rw[lx] at ok
 have hsz:({s with heap:=s.heap.push {cls:= .type "frame",data:= .dict #[]}}:az).heap.objs.size=s.heap.objs.size+1:=lx ..
 rw[hsz]
 have IS:∀x,(x,iN)∈i.scope.names->((Le (s.heap.objs.size+1) i.scope.names []).lookup x).isSome:=λx hx=>jK _ _ _ _ (.inl hx)
 generalize ui:Le (s.heap.objs.size+1) i.scope.names []=cs at ok IS⊢
 have kp:∀b o,s.heap.get? b=some o->(yH (s.heap.push {cls:= .type "frame",data:= .dict #[]}) i.scope.names).get? b=some o:=λb o e=>pushCells_keeps _ _ b o (bg _ e)
 have Wv:(yH (s.heap.push {cls:= .type "frame",data:= .dict #[]}) i.scope.names).Ns s.heap.objs.size (λJ=>none):=(dO.Ns.new s.heap (.type "frame")).keeps (pushCells_keeps _ _)
 have Q:bT D.G D.b ρ s ρ μ {s with heap:=yH (s.heap.push {cls:= .type "frame",data:= .dict #[]}) i.scope.names,toks:=s.toks}:=bT.B S kp s.toks (aC _)
 have xr:∀c:Nat,s.heap.objs.size<=c->s.heap.get? c=none:=λc t=>tC λo q=>OD.mpr t (so q)
 have Nx:∀b,s.heap.get? b=none->D.b.get? b=none:=λb h=>mi S.m h
 obtain⟨env,j⟩:∃e:Env,e={scope:=i.scope,locals:=s.heap.objs.size,globals:=i.globals,cells:=cs,qual:=i.qualname++".<locals>.",func:=some (D.c f),code:=i.code,frame:=some s.heap.objs.size,builtins:=i.builtins}:=⟨_,rfl⟩
 have H:env.scope=i.scope:=j▸rfl
 have e2:env.locals=s.heap.objs.size:=j▸rfl
 have y:env.cells=cs:=j▸rfl
 have e4:env.globals=i.globals:=j▸rfl
 have e5:env.builtins=i.builtins:=by rw[j]
 have fresh:∀b,jz env b->s.heap.get? b=none:=λb w=>by
  rcases w with rfl|⟨nm,w⟩
  ·exact e2▸(xr _ (aC _))
  ·replace w:=y▸w
   exact xr _ (aD (cN _) (ok.empty nm b (mem_of_lookup w)).2)
 have F0:oO D.G D.b D.d D.e env [] (yH (s.heap.push {cls:= .type "frame",data:= .dict #[]}) i.scope.names) ρ:=by
  refine⟨H▸P,e4.trans V,e5.trans hba,λx v h=>by simp[bx] at h,gU S (fresh _ (.inl rfl)),λb w=>Nx _ (fresh b w),⟨λJ=>none,e2▸Wv,λx v h=>by simp[bx] at h⟩,λnm c h=>?_,λx v h=>by simp[bx] at h,λnm h=>?_,λnm nm' c h h'=>?_⟩
  ·have t:=ok.empty nm c (mem_of_lookup (y▸h))
   refine⟨gU S (fresh c (.inr ⟨nm,h⟩)),?_,none,t.1⟩
   exact e2▸(dJ t.2)
  ·have hm:(nm,iN)∈i.scope.names:=by
    unfold rN at h
    rw[H] at h
    exact mem_of_lookup h
   exact y▸(dT.mp (IS nm hm))
  ·rw[y] at h h'
   exact name_of_addr ok.apart (mem_of_lookup h) (mem_of_lookup h')
 refine aw (a_ (tD (env:=env) (ks:=F.a) (ws:=vs) (vs:=vals) (s:={s with heap:=yH (s.heap.push {cls:= .type "frame",data:= .dict #[]}) i.scope.names,toks:=s.toks}) _ (λJ J J=>j▸rfl) hb (λk hk=>?_) Q.d F0 (Q.R S q)) (λJ s1 z=>aF ?_) λJ J z=>z)
 ·obtain⟨h1,h2⟩:=O k hk
  refine⟨h1,?_⟩
  unfold rN
  exact H▸h2
 ·obtain⟨P1,F1⟩:=z
  have E:=(Q.w S).m P1
  refine⟨?_,?_⟩
  ·obtain⟨mc,hm,hn⟩:=L.h
   exact⟨mc,hm.keeps E.B.m,hn⟩
  ·obtain⟨C,eZ,hex,hr⟩:=h
   have a1:At D i.scope.names env zP ρ μ s1:=⟨E.B,F1,aD M E.N,λx=>by
    have:env.kindOf x=i.scope.names.lookup x:=by unfold rN;rw[H]
    exact this▸(⟨λh=>h,λh=>h,λh=> .inl h,λh=>h⟩)⟩
   refine j▸(codeAny_func (js (a_ (hex i.scope.names (A.deeper env) env s1 body abQ (R.f env) a1) (λfw s2 z=>?_) λJ J z=>z)))
   obtain⟨e_,P2,F2,I⟩:=z
   have PP:=(E.m P2).Y λb o g w=>by rw[fresh b w] at g;cases g
   rcases hr with rfl|⟨rfl,rfl⟩
   ·obtain⟨u,rfl,qv⟩:=I
    exact⟨e_,PP,qv⟩
   ·have I:=I
    subst I
    exact⟨e_,PP,rfl⟩
theorem Ip(L:gz D)(j:wX D f F)(m:∀b:List j0,jh D n fuel cl b)(R:fB (n+2) A)(S:eV D.G D.b s.heap ρ μ)(i:D.T.d<=s.toks)(q:dw D.b s.heap ρ vs vals)(hb:eH F.a vs []=some zP)(h:∃e g,aY D.T cl fuel F.b zP μ=some (e,g,aG)/\(e= .b r\/(e= .a/\r= .f))):
  nY (aH D.a D.G.w) A (.call (.ref (D.c f)) ⟨vals,[]⟩) (Back (Ok D.G D.b ρ s aG r)) s:=by
 refine m8 h λe g hex l=>?_
 exact xH L j R S i q hb ⟨e,g,λsc A env s1 body k R a=>m body sc A env zP ρ μ s1 e g aG R a (k▸hex),l⟩
theorem qm(L:gz D)(i:∀c a f,D.T.a c a=some f->kQ D.K (.ref (D.c f))=true):∀k:Nat,qj D.G D.T D.c D.a D.b (2*k) (au D.T k)
 |0=>λA R f vs μ r aG h=>nomatch h
 |k+1=>λA R f vs μ r aG h ρ s vals S d q=>by
  refine bm h λF l h=>bm h λj hb h=>Ip L (L.g f F l) (λb=>oW λst J=>tK L (λe=>sS L (qm L i k) i _ e (dh _)) _ st (dh _):∀b:List j0,jh D (2*k) k (au D.T k) b) (R.e QN) S d q hb ?_
  match e:aY D.T (au D.T k) k F.b j μ with
  |some (.b v,eZ,bC)=>rw[e] at h;refine qR h ?_;exact⟨_,_,rfl,.inl rfl⟩
  |some (.a,eZ,bC)=>rw[e] at h;cases h;exact⟨_,_,rfl,.inr ⟨rfl,rfl⟩⟩
  |none=>rw[e] at h;cases h
end
end
section
open PySem PySem.W
noncomputable def ad8:List (List String):=[["append","pop","get","__init__","row","sort","R_CLASS","R_VALUE","R_ARRAY","R_BYREF","R_BOXED","R_ROREF","R_RAW","R_FTN","kt","len","R_PRIM","row_length","inner","inner_kinds"],["check_named","R_VAR","R_MVAR","may_stand","check_args","is_value","is_var","TID_PRIM","args","arg","k","VOID","NULLK","tid","prim_kind","put","elem","PRIM_TID","ARRAY_TID","BOOL"],["NINT","OBJECT","STRING","targs","margs","opens","close_in","seen","rows","pick_arg","part","with_inner","tuple","box_of","place","ks","out","close","count","HEAD_WORDS"],["LEAST_SIZE","heap","kind","slots","thing","Thing","top","made","serial","things","at","addr","size","fresh","n","bits","wrap_bits","U4","V_I4","I8"],["U8","V_I8","V_NINT","NULLV","U1","CHAR","U2","I1","I2","wrap64","wrap32","value","tag","tag_of","cut_to","V_REF","tag_of_row","V_STRUCT","V_PLACE","V_FTN"],["NO_TAG","slot","PL_HEAP","m","state","ST_RUN","thrown","JP_STAY","mref","calls","f","Frame","pushed","found","defaults","plain_default","plain","frames","by_number","number"],["last","result","ST_DONE","body","after","invoker","stack","ip","args_of","targs_of","code","mid","told","ST_WRONG","slot_kind","fits","wrong","W_SLOT","LOST","store_as"],["V_TEXT","default","kind_sort","elem_of","kinds_of","before","sweeper","heap_alloc","first_slots","statics","skinds_of","range","str","store","tid_of","types","name","methods","ret","close_all"],["params","flags","MF_STATIC","why","t","type_of","cctor","SI_FIELD","TF_BEFORE","on_object","ftn","hold","held","alloc","DG_SLOTS","DG_TARGET","DG_FTN","DG_LIST","entries","array_kind"],["class_kind","T_DELEGATE","i","enumerate","is_delegate","W_KIND","S_DELEGATE","Multicast","waits_for_type","push_entry","many","push_call","invoke_method","FR_MULTI","keep","run_entry","is_static_entry","is_trigger","SI_METHOD","init_state"],["IS_NONE","IS_FAILED","find_methods","list_of","entries_under","extra","need","starter","pop_frame","hand_back","W_FTN","FR_CALL","throw_new","T_NULLREF","this","box","heap_place","TEXT_NULL","md","owner"],["values","method_sig","stored","throw_null","wanted","method_def","first","is_static","ready_this","rest","cut_params","enter_method","all_of_kinds","is_invoke","invoke","call_native","is_ref","is_a","refers_to","t0"],["t1","h0","h1","clauses","FR_FILTER","FR_CCTOR","done","again","FR_NEW","FR_AGAIN","w","nums","term","own","_law_kind","some","_law_kept","_law_value","locals_","Store"],["S_CLASS","S_STRUCT","TypeDef","d","_law_draw","_law_terms","j","_law_results","var","MethodDef","form","c","letter","singles","_law_entry","make_single","make_many","called","junk","terms"],["replace","g","deep","_law_made","_law_set","kept","back","height","gives","nested","enter_args","_law_stand","_law_call","run","OpReturn","odd","word","_law_unfit","script","Body"],["_law_closings","_law_store","Shelf","Heap","closer","FrameCloser","unders","install_delegates","_law_refused","self","index","depths","weights","PRIM_END","check_kind_row","depth","weight","opened","level","row_level"],["DEEPEST_KIND","HEAVIEST_KIND","gen","words_for","limit","card_bits","FIRST_ADDRESS","cards","young_limit","finals","ready","moved","conts","caught","caughtv","home","prefix","make_statics","closed_kind","exact"],["kin","told_row","told_default","tell_wrong","text","note_thrown","targets","inits","fails","ops","natives","chases","interned","internv","unhandled","handles","places","PlaceHost","Starter","KindCloser"],["Sweeper","alloc_thing","note_pushed","base","asm","ifaces","variances","bounds","VA_NONE","fields","under","impls","props","events","finaliser","access","ngen","gnames","gbounds","pnames"],["plain_names","pflags","native","maxstack","KindTable","fields_","names","asms","entry","invoke_delegates","after_entry","operand","in_region","W_TARGET","closed","W_LEFT","end_frame"]]
noncomputable def NM(n:Nat):Str:=jG (((ad8[n/20]?).bind λl=>l[n%20]?).getD "")
noncomputable def ktL:List (Nat×Nat):=[(0,244),(99,271),(100,263),(102,110),(103,281),(105,182),(106,266),(107,30),(109,103),(110,74),(116,164),(119,250),(120,133),(133,120),(141,156),(187,347),(208,22),(214,7),(243,140),(246,107),(249,386),(259,138),(271,0),(330,267),(511,307),(523,1),(527,66),(564,288),(591,193),(617,225),(702,174),(704,390),(799,257),(819,134),(862,150),(867,36),(872,46),(884,289),(996,247),(1001,380),(1006,170),(1098,313),(1166,151),(1213,48),(1251,375),(1271,371),(1272,144),(1274,125),(1295,277),(1305,161),(1348,346),(1395,17),(1413,314),(1469,40),(1477,221),(1481,228),(1505,52),(1520,354),(1598,177),(1643,365),(1644,253),(1659,395),(1737,276),(1779,332),(1789,169),(1795,363),(1804,218),(1816,310),(1864,191),(1879,238),(1918,230),(1983,189),(1999,198),(2128,302),(2193,311),(2205,71),(2241,173),(2245,37),(2290,249),(2326,227),(2351,8),(2364,141),(2368,344),(2521,261),(2524,97),(2559,340),(2569,330),(2572,248),(2589,329),(2627,208),(2638,87),(2650,84),(2669,242),(2675,315),(2681,240),(2690,6),(2691,260),(2730,34),(2759,166),(2827,300),(2858,128),(2869,187),(2908,356),(2999,284),(3024,252),(3037,192),(3047,333),(3132,279),(3136,183),(3138,264),(3279,77),(3344,246),(3362,350),(3390,54),(3411,355),(3462,308),(3494,290),(3495,206),(3552,237),(3553,385),(3650,162),(3675,171),(3679,309),(3687,132),(3688,32),(3726,44),(3733,43),(3779,165),(3786,258),(3803,202),(3830,304),(3851,188),(3887,245),(3901,31),(3920,82),(3922,176),(3962,16),(3992,285),(4000,136),(4113,389),(4162,154),(4289,373),(4307,38),(4316,127),(4318,89),(4368,364),(4413,287),(4420,369),(4426,362),(4428,316),(4442,345),(4455,108),(4460,282),(4467,194),(4468,94),(4517,348),(4520,18),(4578,25),(4581,95),(4598,317),(4614,160),(4627,234),(4676,236),(4688,222),(4710,57),(4727,20),(4733,360),(4741,148),(4755,119),(4765,146),(4799,145),(4809,13),(4813,99),(4814,210),(4831,324),(4832,229),(4836,343),(4853,292),(4888,24),(4947,55),(4972,274),(5026,212),(5082,293),(5091,28),(5106,83),(5143,126),(5190,101),(5226,378),(5244,137),(5256,42),(5288,319),(5298,63),(5333,368),(5347,109),(5356,296),(5395,320),(5419,349),(5424,27),(5433,72),(5441,197),(5488,104),(5508,21),(5536,361),(5652,102),(5704,358),(5736,207),(5756,256),(5776,129),(5781,232),(5865,334),(5884,157),(5897,190),(5941,328),(5962,217),(5984,152),(5992,216),(6042,115),(6058,377),(6067,379),(6120,155),(6138,323),(6162,301),(6189,297),(6197,39),(6228,372),(6279,19),(6323,4),(6363,327),(6365,105),(6400,51),(6413,219),(6475,321),(6532,353),(6537,342),(6542,41),(6574,122),(6651,294),(6652,5),(6654,376),(6663,201),(6671,204),(6702,88),(6714,86),(6745,56),(6746,35),(6783,396),(6885,175),(6900,159),(6907,337),(7085,73),(7101,53),(7112,85),(7120,112),(7159,26),(7172,93),(7286,203),(7307,196),(7316,76),(7340,90),(7380,233),(7399,251),(7423,214),(7461,69),(7468,118),(7469,60),(7477,325),(7493,131),(7500,33),(7568,50),(7744,58),(7778,381),(7892,291),(7910,139),(7911,65),(7943,64),(7960,79),(7972,80),(8036,213),(8051,305),(8063,382),(8118,149),(8239,9),(8268,10),(8275,130),(8283,185),(8352,367),(8355,124),(8403,275),(8531,186),(8532,181),(8569,384),(8639,318),(8650,45),(8725,23),(8834,142),(8838,113),(8844,195),(8929,388),(8953,226),(8961,270),(8982,306),(8985,223),(9001,70),(9011,14),(9028,121),(9029,243),(9040,199),(9094,200),(9133,49),(9204,67),(9242,366),(9270,163),(9287,172),(9355,331),(9425,322),(9430,15),(9464,370),(9465,231),(9597,12),(9620,3),(9651,341),(9667,96),(9669,179),(9682,254),(9712,268),(9768,116),(9810,78),(9821,394),(9851,106),(9867,299),(9899,123),(9931,339),(9942,11),(9943,235),(9975,298),(10004,269),(10079,383),(10094,47),(10135,81),(10161,273),(10168,241),(10180,239),(10197,143),(10201,29),(10229,224),(10241,391),(10255,338),(10301,295),(10355,283),(10366,265),(10398,359),(10439,215),(10510,92),(10553,374),(10560,280),(10586,272),(10660,326),(10669,75),(10673,135),(10684,62),(10735,205),(10750,117),(10755,211),(10779,335),(10790,255),(10795,392),(10797,100),(10821,387),(10828,178),(10864,180),(10877,278),(10883,68),(10906,220),(10936,352),(10969,184),(11003,262),(11030,303),(11062,61),(11065,351),(11091,2),(11092,336),(11099,98),(11102,158),(11108,259),(11123,168),(11139,114),(11140,153),(11200,111),(11209,209),(11210,147),(11290,312),(11299,393),(11330,286),(11359,167),(11388,91),(11394,59),(11529,357)]
noncomputable def ktr(k:Nat):Option Nat:=match fnd k (bld (·.1) 9 ktL) with
 |x::_=>some x.2
 |[]=>none
noncomputable def iq(x:Str):Option Nat:=match ktr (PySem.W.Fast.code x.cps.toList%11563) with
 |some n=>match j_ n 397&&g_ x (NM n) with
  |true=>some n
  |false=>none
 |none=>none
noncomputable def zh:List (Nat×MV):=[(137,.c 1),(395,.c 3),(185,.c 5),(393,.c 7),(210,.c 9),(31,.c 0),(39,.c 1),(85,.c 2),(87,.c 3),(84,.c 4),(88,.c 5),(86,.c 6),(77,.c 8),(79,.c 9),(80,.c 10),(40,.c 11),(41,.c 12),(42,.c 13),(32,.c 14),(313,.c 16),(16,.c 1),(6,.c 2),(7,.c 3),(8,.c 4),(9,.c 5),(21,.c 6),(22,.c 7),(10,.c 8),(11,.c 9),(13,.c 10),(12,.c 11),(320,.c 24),(321,.c 4096),(38,.c 5),(326,.c 16),(59,.c 2),(60,.c 3),(78,.c 1),(81,.c 2),(82,.c 3),(95,.c 4),(97,.c 5),(98,.c 6),(99,.c 7),(140,.c 8),(83,.e [.c 4,.c 0]),(100,.c (-1)),(102,.c 3),(107,.c (-2)),(105,.c 0),(122,.c 1),(133,.c 3),(211,.c 0),(244,.c 1),(245,.c 2),(248,.c 3),(193,.c 4),(249,.c 5),(167,.c 1),(198,.c 2),(217,.g [79,98,106,101,99,116,32,114,101,102,101,114,101,110,99,101,32,110,111,116,32,115,101,116,32,116,111,32,97,110,32,105,110,115,116,97,110,99,101,32,111,102,32,97,110,32,111,98,106,101,99,116,46]),(138,.e [.c 0,.c 0]),(260,.c 1),(261,.c 2),(186,.c 4),(168,.c 4),(368,.c 0),(162,.c 1),(181,.c 6),(213,.c 21),(200,.c 0),(201,.c 3),(175,.c 0),(176,.c 1),(177,.c 2),(174,.c 3),(300,.e [.j [121] 2273,.j [115] 2274,.j [112] 2275,.j [72] 2276,.j [101] 2277,.j [108] 2278,.j [107] 2279,.j [98] 2280]),(265,.e [.g [89],.g [84],.g [112],.g [114,84],.g [113,84],.g [121],.g [111],.g [72],.g [110],.g [115],.g [104],.g [101],.g [105],.g [99],.g [76],.g [107],.g [98],.g [117],.g [114,105],.g [113,104]]),(267,.e [.g [89],.g [118],.g [84],.g [104],.g [113,84],.g [115],.g [110],.g [112],.g [118],.g [99],.g [101],.g [108],.g [105],.g [111],.g [121],.g [117]])]
noncomputable def fnL:List (Nat×Nat):=[(19,97),(319,104),(17,111),(314,118),(20,125),(24,132),(23,139),(180,146),(34,153),(179,160),(142,167),(143,174),(154,181),(128,188),(25,195),(236,202),(26,209),(57,216),(46,223),(51,230),(53,237),(49,244),(159,251),(323,265),(147,314),(76,322),(90,329),(89,336),(115,343),(94,350),(139,357),(93,364),(96,371),(135,378),(216,406),(345,795),(362,802),(341,809),(342,823),(208,830),(209,837),(129,844),(338,851),(343,865),(222,879),(148,886),(361,893),(337,900),(380,991),(165,998),(202,1005),(221,1012),(227,1019),(199,1026),(197,1033),(275,1040),(276,1047),(203,1054),(184,1061),(307,1101),(234,1108),(389,1108),(196,1115),(188,1122),(192,1129),(204,1136),(195,1143),(390,1150),(189,1157),(223,1164),(225,1171),(230,1178),(228,1185),(290,1192),(233,1199),(231,1206),(238,1213),(232,1220),(235,1227),(392,1234),(396,1260),(264,1270),(254,1277),(256,1284),(257,1291),(301,1296),(274,1303),(283,1310),(284,1315),(291,1322),(292,1327),(297,1334),(308,1341)]
noncomputable def clL:List (Nat×Nat):=[(384,86),(65,282),(303,303),(357,395),(111,424),(358,480),(360,536),(359,564),(305,592),(302,786),(262,917),(269,938),(299,959),(259,980),(187,1092),(294,1251)]
noncomputable def sdL:List (Nat×Nat×List Int):=[(37,54,[0,1,2,3,4,5,6,7,8,9,10,11,12,13]),(27,55,[20,9,10,11,12,13,14,15,16,17,18,19,1,4])]
noncomputable def lk{a:Type}:List (Nat×a)->Nat->Option a
 |[],_=>none
 |(y,v)::r,x=>match aR y x with
  |true=>some v
  |false=>lk r x
noncomputable def X0:CX where
 a:=iq
 b:=λx=>(iq x).bind (lk zh)
 d:=λx=>(iq x).bind (lk fnL)
 c:=λx=>(iq x).bind (lk clL)
 e:=λx=>((iq x).bind (lk sdL)).map (·.2)
noncomputable def mf(st:j0):k6:=⟨(stA st).args.filterMap λa=>iq a.arg,yK X0 (stS st).names (stB st)⟩
noncomputable def adG:k6:=mf (sT 67)
noncomputable def Bj:k6:=mf (sT 159)
noncomputable def Bk:k6:=mf (sT 173)
noncomputable def abD:k6:=mf (sT 178)
noncomputable def Q7:k6:=mf (sT 191)
noncomputable def Q8:k6:=mf (sT 197)
noncomputable def fp:k6:=mf (sT 210)
noncomputable def abE:k6:=mf (sT 212)
noncomputable def Q9:k6:=mf (sT 213)
noncomputable def cG:k6:=mf (sT 215)
noncomputable def mF:k6:=mf (sT 217)
noncomputable def eJ:k6:=mf (sT 218)
noncomputable def fnA:List (Nat×Nat):=[(97,45),(104,46),(111,47),(118,48),(125,49),(132,50),(139,51),(146,52),(160,54),(167,55),(174,56),(181,57),(188,58),(195,59),(202,60),(216,62),(223,63),(230,64),(244,66),(251,67),(265,73),(314,76),(322,89),(329,90),(336,91),(343,92),(350,93),(357,94),(364,95),(371,96),(378,97),(406,100),(795,128),(802,129),(809,130),(823,132),(830,133),(837,134),(844,135),(851,136),(865,138),(879,140),(886,141),(893,142),(900,143),(991,157),(998,158),(1005,159),(1012,160),(1019,161),(1033,166),(1040,172),(1047,173),(1054,174),(1061,175),(1101,177),(1108,178),(1115,180),(1122,181),(1129,182),(1136,183),(1143,184),(1150,185),(1157,186),(1164,188),(1171,190),(1178,191),(1185,192),(1192,193),(1199,194),(1206,195),(1213,196),(1220,197),(1234,199),(1260,201),(1270,206),(1277,207),(1284,208),(1291,209),(1296,210),(1303,211),(1310,212),(1315,213),(1322,214),(1327,215),(1334,216),(1341,217),(1346,218)]
noncomputable def fnB:List (Nat×Nat×Nat):=[(69,44,0),(76,44,1),(83,44,2),(279,74,0),(300,75,0),(392,99,0),(421,119,0),(463,121,0),(533,123,0),(582,125,0),(615,126,1),(629,126,3),(636,126,4),(657,126,7),(664,126,8),(671,126,9),(692,126,12),(706,126,14),(734,127,0),(755,127,3),(762,127,4),(914,153,0),(935,154,0),(956,155,0),(977,156,0),(1075,176,0),(1082,176,1),(1248,200,0)]
noncomputable def m9:List (Nat×k6):=fnA.map (λx=>(x.1,mf (sT x.2)))++fnB.map λx=>(x.1,mf (sI x.2.1 x.2.2))
noncomputable def tw:List (Nat×Nat×Nat):=[(86,(4,76)),(86,(35,83)),(480,(206,463)),(536,(145,533)),(592,(62,582)),(786,(116,664)),(786,(136,692)),(786,(141,657)),(786,(144,629)),(786,(150,636)),(786,(173,755)),(786,(191,762)),(786,(212,706)),(786,(237,615)),(786,(394,671)),(1092,(124,1082)),(1092,(234,1075)),(1251,(293,1248))]
noncomputable def nc:List (Nat×Option Nat):=[(959,some 956),(980,some 977),(86,some 69),(917,some 914),(938,some 935),(303,some 300),(786,some 734),(395,some 392),(480,none),(564,none),(536,none),(592,none),(1092,none),(282,some 279),(424,some 421),(1251,none)]
noncomputable def lH:List (Nat×List Nat):=[(282,[71,62,63,322,72,68]),(1251,[]),(424,[119,108,123,127,28,258,126,332,333,334,194,5,335,205,336]),(1092,[]),(592,[]),(536,[]),(564,[]),(480,[]),(395,[61,117,149]),(786,[153,14,61,340,48,346,114,306,329,117,118,149,347,348,349,350,104,132,106,109,112,351,352,353,172,121,120,354,355,356,207,304,146,125]),(303,[69,70,66,324,327,325,73,328,329,330,331,67]),(938,[131,219,156,375,161,376,377,378,158,160,379,381,123,382]),(917,[33,156,5,161,363,365,160,366,367,369,157,364,166,370,371,372,373,374,335]),(86,[48,310,311,312,45]),(980,[14,155,385,157,386,387,388]),(959,[258,383,130,243])]
noncomputable def Tb:Tab where
 h:=λn=>m9.lookup n
 a:=λc a=>tw.findSome? λp=>if p.1==c&&p.2.1==a then some p.2.2 else none
 b:=λc=>(lH.lookup c).getD []
 g:=λc=>nc.lookup c
 c:=0
 e:=1
 f:=2
 d:=2455
end
section
open PySem PySem.W PySem.Calls PyProof.Rows
noncomputable def kAd:List Nat:=[2,444,445,514,515,715,716,1346]++clL.flatMap (λx=>[x.2 - 1,x.2])++fnL.map (·.2)++fnB.map (·.1)
end
section
open PySem PySem.W PySem.Calls PyProof.Rows
noncomputable def gO(P:cY)(a:Nat):Obj:=((uf P).get a).getD default
noncomputable def Kf(P:cY):Frag:=kAd.map λa=>(a,gO P a)
noncomputable def yV(o:Option Obj):Bool:=match o with
 |some o=>(match o.data with| .freed=>false|_=>true)
 |none=>false
theorem Vd:((fO 397).all λn=>(match iq (NM n) with|some m=>aR m n|none=>false)&& !(g_ (NM n) "__debug__")&& !(g_ (NM n) "__classdict__")&& !(g_ (NM n) ".0"))=true:=⋯
theorem yg(n:Nat)(h:n<397):iq (NM n)=some n/\NM n≠"__debug__"/\NM n≠"__classdict__"/\NM n≠".0":=by
 have:=aT.mp Vd n (pj.mpr h)
 simp only[bO,jt] at this
 obtain⟨⟨⟨a,d⟩,c⟩,f⟩:=this
 have b:∀{x y:Str},g_ x y=false->x≠y:=λe q=>by rw[mP.mpr q] at e;cases e
 refine⟨?_,b d,b c,b f⟩
 cases q:iq (NM n) with
 |none=>rw[q] at a;cases a
 |some m=>rw[q] at a;rw[aK a]
theorem Ve(i j:Nat)(b:i<397)(hj:j<397)(h:NM i=NM j):i=j:=by
 have a:=(yg i b).1
 rw[h,(yg j hj).1] at a
 exact(ba a).symm
set_option tactic.hygienic true in
theorem nL{x:Str}{n:Nat}(h:iq x=some n):n<397/\NM n=x:=by
 unfold iq at h
 split at h
 ·split at h
  ·rename_i hb
   refine j8 h ?_
   obtain⟨a,b⟩:=aE.mp hb
   exact⟨aW a,(mP.mp b).symm⟩
  ·cases h
 ·cases h
noncomputable def Gd(w:dW):Cfg:=⟨w,NM,397,Ve⟩
noncomputable def Dd(w:dW)(h:dO):Dat:={X:=X0,T:=Tb,G:=Gd w,K:=Kf w.params,b:=h,c:=λf=>f,d:=3,e:=0,a:=Pw}
theorem Iv{P:cY}{a:Nat}{o:Obj}(h:a<1347)(g:(uf P).get a=some o)(e:yV (some o)=true):(wY P).get? a=some o:=by
 unfold wY
 rw[abs_get h g]
 obtain⟨c,d,b,sl⟩:=o
 cases b<;>first|rfl|cases e
theorem UT(P:cY):(kAd.all λa=>j_ a 1347&&yV ((uf P).get a))=true:=⋯
set_option tactic.hygienic true in
theorem acd{P:cY}{h:dO}(g:∀b o,(wY P).get? b=some o->h.get? b=some o):(Kf P).In h:=by
 have key:∀(l:List Nat) (a:Nat) (o:Obj),(l.map λa=>(a,gO P a)).lookup a=some o->a∈l/\o=gO P a:=by
  intro l
  induction l with
  |nil=>intro a o e;cases e
  |cons b r d=>
   intro a o e
   rw[dX,da] at e
   split at e
   ·rename_i q
    have:a=b:=by simpa using q
    refine fI this ?_
    refine j8 e ?_
    exact⟨.head _,rfl⟩
   ·exact⟨.tail _ (d a o e).1,(d a o e).2⟩
 intro a o e
 obtain⟨f,rfl⟩:=key _ a o e
 obtain⟨i,c⟩:=aE.mp (aT.mp (UT P) a f)
 refine g _ _ ?_
 cases q:(uf P).get a with
 |none=>rw[q] at c;cases c
 |some o=>
  have:gO P a=o:=by unfold gO;rw[q];rfl
  exact this▸(Iv (aW i) q (by rw[q] at c;exact c))
theorem zx(P:cY):(lH.all λp=>p.2.isEmpty||(uP (Kf P) p.1&&p.2.all λa=>j_ a 397&&lU (Kf P) (.ref p.1) (NM a)==some none))=true:=⋯
theorem vc(P:cY):(tw.all λp=>j_ p.2.1 397&&uP (Kf P) p.1&&lU (Kf P) (.ref p.1) (NM p.2.1)==some (some (.ref p.2.2))&&isFn (Kf P) (.ref p.2.2)&&kQ (Kf P) (.ref p.2.2))=true:=⋯
theorem qC(P:cY):(nc.all λp=>makesIn (Kf P) p.1&&kQ (Kf P) (.ref p.1)&&(match p.2 with
 |some f=>lU (Kf P) (.ref p.1) "__init__"==some (some (.ref f))&&typeIn (Kf P) (.ref f)==some (.type "function")
 |none=>lU (Kf P) (.ref p.1) "__init__"==some (some (.builtin "object.__init__"))))=true:=⋯
end
section
open PySem PySem.W PySem.Calls PyProof.Rows
set_option tactic.hygienic true in
theorem Jk{a:Type}{v:a}:∀{l:List (Nat×a)} {x:Nat},lk l x=some v->(x,v)∈l
 |[],_,h=>by cases h
 |(y,u)::r,x,h=>by
  unfold lk at h
  split at h
  ·rename_i q
   cases h
   rw[aK q];exact .head _
  ·exact .tail _ (Jk h)
noncomputable def igV:aA->Option Int
 | .int b _=>some b
 |_=>none
noncomputable def stT:aA->Option (Str×Nat)
 | .str b t=>some (b,t)
 |_=>none
noncomputable def rfV:aA->Option Nat
 | .ref b=>some b
 |_=>none
noncomputable def tyV:aA->Option String
 | .type b=>some b
 |_=>none
noncomputable def sqV:Data->Option (Array aA)
 | .seq xs 0=>some xs
 |_=>none
theorem vY{v:aA}{c:Int}(h:igV v=some c):∃t,v= .int c t:=by cases v<;>cases h;exact⟨_,rfl⟩
theorem Dm{v:aA}{c:Str×Nat}(h:stT v=some c):v= .str c.1 c.2:=by cases v<;>cases h;rfl
theorem C6{v:aA}{c:Nat}(h:rfV v=some c):v= .ref c:=by cases v<;>cases h;rfl
theorem Dn{v:aA}{c:String}(h:tyV v=some c):v= .type c:=by cases v<;>cases h;rfl
theorem N4{v:Data}{c:Array aA}(h:sqV v=some c):v= .seq c 0:=by
 cases v with
 |seq xs n=>cases n<;>cases h;rfl
 |_=>cases h
noncomputable def vr1:MV->aA->Bool
 | .c i,v=>(igV v).any λj=>i==j
 | .g s,v=>(stT v).any λp=>yN p.1.cps.toList s
 | .j s t,v=>(stT v).any λp=>yN p.1.cps.toList s&&aR t p.2
 |_,_=>false
noncomputable def vrs:List MV->List aA->Bool
 |[],r=>r.isEmpty
 |x::l,r=>match r with
  |v::r=>vr1 x v&&vrs l r
  |[]=>false
noncomputable def tuV(o:Obj):Option (List aA):=match tyV o.cls==some "tuple"&&o.dict.isNone&&o.slots.isEmpty with
 |true=>(sqV o.data).map Ar
 |false=>none
noncomputable def adn(g:Nat->Option Obj)(x:MV)(v:aA):Bool:=match x with
 | .e l=>(rfV v).any λa=>(g a).any λo=>(tuV o).any λxs=>vrs l xs
 |x=>vr1 x v
section
variable{g:Nat->Option Obj}{hb h:dO}{ρ:fj}
theorem Dq{x:MV}{v:aA}(e:vr1 x v=true):VR hb h ρ x v:=by
 cases x with
 |c i=>
  refine cf ((cO ..).mp e) λj d f=>?_
  refine dG (vY d) λt z0=>?_
  subst z0
  exact⟨t,(beq_iff_eq.mp f)▸rfl⟩
 |g s=>
  refine cf ((cO ..).mp e) λp d f=>?_
  exact⟨p.2,(vp.mp f)▸(Dm d)⟩
 |j s t=>
  refine cf ((cO ..).mp e) λp d f=>?_
  refine ir (aE.mp f) λa b=>?_
  exact(vp.mp a)▸(aK b)▸(Dm d)
 |_=>cases e
theorem Dr:∀{x:List MV} {v:List aA},vrs x v=true->dw hb h ρ x v
 |[],_,e=>iK.mp e
 |x::l,r,e=>by
  cases r with
  |nil=>cases e
  |cons v r=>
   obtain⟨a,b⟩:=aE.mp e
   exact⟨v,r,rfl,Dq a,Dr b⟩
set_option tactic.hygienic true in
theorem Ky(i:∀a o,g a=some o->h.get? a=some o)(x:MV)(v:aA)(e:adn g x v=true):VR hb h ρ x v:=by
 cases x with
 |e l=>
  refine cf ((cO ..).mp e) λa m e=>?_
  refine cf ((cO ..).mp e) λo k e=>?_
  refine cf ((cO ..).mp e) λxs b e=>?_
  refine⟨a,xs,C6 m,?_,Dr e⟩
  rw[i _ _ k]
  obtain⟨c,d,x,sl⟩:=o
  unfold tuV at b
  split at b
  ·rename_i q
   refine ir (aE.mp q) λq n=>?_
   refine ir (aE.mp q) λj p=>?_
   refine mm b λv f e=>?_
   subst e
   cases Dn (beq_iff_eq.mp j);cases iE.mp p;cases K9.mp n;cases N4 f
   rfl
  ·cases b
 |_=>exact Dq e
end
noncomputable def gA(P:cY)(a:Nat):Option Obj:=match j_ a 1347 with
 |true=>match yV ((uf P).get a) with
  |true=>(uf P).get a
  |false=>none
 |false=>none
set_option tactic.hygienic true in
theorem m_{P:cY}{h:dO}(c:∀b o,(wY P).get? b=some o->h.get? b=some o)(a:Nat)(o:Obj)(e:gA P a=some o):h.get? a=some o:=by
 unfold gA at e
 split at e
 ·rename_i h1
  split at e
  ·rename_i h2
   exact c _ _ (Iv (aW h1) e (by rw[e] at h2;exact h2))
  ·cases e
 ·cases e
noncomputable def mH(P:cY):Array DictEntry:=match(o3F P).data with
 | .dict a _=>a
 |_=>#[]
noncomputable def TN(P:cY):Array DictEntry:=match(V1 P).data with
 | .dict a _=>a
 |_=>#[]
noncomputable def Q5(o:Obj):Nat:=match o.data with
 | .dict _ k=>k
 |_=>0
noncomputable def adf(a:Array cx):Bool:=a.toList.all λe=>match e.key with
 | .str _ _=>true
 |_=>false
set_option tactic.hygienic true in
theorem tM{a:Array cx}(h:adf a=true):StrKeys a:=λe b=>by
 have:=aT.mp h e (Array.mem_toList_iff.mpr b)
 split at this
 ·rename_i n t q;exact⟨n,t,q⟩
 ·cases this
theorem Co{P:cY}{h:dO}(a:∀b o,(wY P).get? b=some o->h.get? b=some o):h.Ns 3 (λx=>iZ (mH P) x):=⟨o3F P,mH P,Q5 (o3F P),m_ a 3 _ ⋯,⋯,tM ⋯,λJ=>rfl⟩
theorem abq{P:cY}{h:dO}(a:∀b o,(wY P).get? b=some o->h.get? b=some o):h.Ns 0 (λx=>iZ (TN P) x):=⟨V1 P,TN P,Q5 (V1 P),m_ a 0 _ ⋯,⋯,tM ⋯,λJ=>rfl⟩
theorem zi(P:cY):(zh.all λp=>(iZ (mH P) (NM p.1)).any λu=>adn (gA P) p.2 u)=true:=⋯
theorem Mh(P:cY):(fnL.all λp=>kQ (Kf P) (.ref p.2)&&(iZ (mH P) (NM p.1)==some (.ref p.2)))=true:=⋯
theorem LP(P:cY):(clL.all λp=>iZ (mH P) (NM p.1)==some (.ref p.2))=true:=⋯
end
section
open PySem PySem.W PySem.Calls PyProof.Rows
noncomputable def fnV(o:Obj):Option FuncData:=match o.data with
 | .func d=>some d
 |_=>none
noncomputable def flV(o:Obj):Option (Array aA):=match o.data with
 | .fields d=>some d
 |_=>none
noncomputable def bdV:FuncBody->Option (List j0)
 | .stmts b=>some b
 |_=>none
noncomputable def stV:aA->Option Str
 | .str b _=>some b
 |_=>none
theorem N_{v:aA}{c:Str}(h:stV v=some c):∃t,v= .str c t:=by cases v<;>cases h;exact⟨_,rfl⟩
theorem Me{o:Obj}{d:VP}(h:fnV o=some d):o.data= .func d:=by obtain⟨_,_,x,_⟩:=o;cases x<;>cases h;rfl
theorem Mc{o:Obj}{d:Array aA}(h:flV o=some d):o.data= .fields d:=by obtain⟨_,_,x,_⟩:=o;cases x<;>cases h;rfl
theorem LA{o:FuncBody}{d:List j0}(h:bdV o=some d):o= .stmts d:=by cases o<;>cases h;rfl
noncomputable def adZ(k:Option rQ):Bool:=k==some .local||k==some .cell
noncomputable def LL(a:List (Str×rQ)):Bool:=a.all λx=> !(x.2== .cell)||a.lookup x.1==some .cell
noncomputable def fdc(P:cY)(f:Nat):Option (VP×List j0):=(gA P f).bind λo=>(fnV o).bind λd=>(bdV d.body).map λb=>(d,b)
noncomputable def cdc(P:cY)(v:aA):Option Str:=(rfV v).bind λc=>(gA P c).bind λo=>(flV o).bind λvs=>vs[1]?.bind stV
noncomputable def abu(P:cY)(d:VP)(F:k6):Bool:=
 (match cdc P d.code with
  |some q=>g_ q d.qualname
  |none=>false)&&d.closure.isEmpty&&aR d.globals 3&&aR d.builtins 0&& !d.scope.isCoroutine&& !d.scope.isGenerator&&d.scope.kind== .function&&
 (F.a.all λk=>j_ k 397&&adZ (d.scope.names.lookup (NM k)))&&LL d.scope.names
noncomputable def tab(g:Nat->aA)(n:Nat):List Value:=(fO n).map g
theorem VC(l:List aA):l=tab (λi=>(l[i]?).getD .none) l.length:=
 List.ext_getElem (by unfold tab;rw[ay,OA]) λi a b=>by simp[tab,a]
theorem abF(P:cY):(m9.all λe=>(match fdc P e.1 with
 |some p=>abu P p.1 e.2
 |none=>false)&&kQ (Kf P) (.ref e.1))=true:=⋯
theorem Mg(P:cY):(m9.map λe=>some e.2.b)=m9.map λe=>(fdc P e.1).map λp=>yK X0 p.1.scope.names p.2:=⋯
theorem Mf(P:cY)(g:Nat->aA):(m9.map λe=>some (pure ((e.2.a.map NM).zip (tab g e.2.a.length))))=m9.map λe=>(fdc P e.1).map λp=>bindArgs p.1 ⟨tab g e.2.a.length,[]⟩:=⋯
theorem Uj{w:dW}{h:dO}(u:∀b o,(wY w.params).get? b=some o->h.get? b=some o):∀p∈m9,wX (Dd w h) p.1 p.2:=λe r=>by
 have L:=aT.mp (abF w.params) e r
 have s:=mC.mp (Mg w.params) e r
 obtain⟨a1,a2⟩:=aE.mp L
 cases q0:fdc w.params e.1 with
 |none=>rw[q0] at a1;cases a1
 |some p=>
  rw[q0] at a1 s
  refine bm q0 λo I q=>bm q λd J q=>mm q λb hb e=>?_
  cases e
  simp only[abu,bO,jt,beq_iff_eq] at a1
  obtain⟨⟨⟨⟨⟨⟨⟨⟨j,D⟩,E⟩,H⟩,G⟩,M⟩,A⟩,B⟩,C⟩:=a1
  refine⟨o,d,b,m_ u _ _ I,Me J,LA hb,ba s,?_,iK.mp D,aK E,aK H,G,M,A,λvals l=>?_,λk F=>?_,λx N e=>?_,a2⟩
  ·cases f:cdc w.params d.code with
   |none=>rw[f] at j;cases j
   |some n=>
    rw[f] at j
    refine bm f λc y f=>bm f λoc m f=>bm f λvs z f=>bm f λv l f=>?_
    obtain⟨t,e⟩:=N_ f
    exact⟨c,oc,vs,t,C6 y,m_ u _ _ m,Mc z,by rw[l,e,mP.mp j]⟩
  ·have:=(λg=>mC.mp (Mf w.params g) e r) λi=>(vals[i]?).getD .none
   rw[q0,<-l,<-VC vals] at this
   exact(ba this).symm
  ·obtain⟨a,b⟩:=aE.mp (aT.mp B k F)
   exact⟨aW a,(KR.mp b).imp beq_iff_eq.mp beq_iff_eq.mp⟩
  ·have:=aT.mp C x N
   rw[e] at this
   exact beq_iff_eq.mp this
set_option tactic.hygienic true in
theorem jm{a:Type}{v:a}:∀{l:List (Nat×a)} {x:Nat},l.lookup x=some v->(x,v)∈l
 |[],_,h=>by cases h
 |(y,u)::r,x,h=>by
  rw[da] at h
  split at h
  ·rename_i q
   refine j8 h ?_
   have:x=y:=by simpa using q
   exact this▸(.head _)
  ·exact .tail _ (jm h)
end
section
open PySem PySem.W PySem.Calls PyProof.Rows
theorem an{a b:Bool}{c:Prop}(h:(a&&b)=true)(k:a=true->b=true->c):c:=k (aE.mp h).1 (aE.mp h).2
theorem nt{b:Bool}(h:(!b)=true):b=false:=by cases b<;>first|rfl|cases h
noncomputable def deV:Data->Option (Array cx×Nat)
 | .dict a n=>some (a,n)
 |_=>none
theorem Bb{v:Data}{c:Array cx×Nat}(h:deV v=some c):v= .dict c.1 c.2:=by cases v<;>cases h;rfl
noncomputable def Vs:List Int->List cx->Bool
 |[],r=>r.isEmpty
 |k::ks,r=>match r with
  |e::r=>(igV e.key).any (λi=>i==k)&&e.hash==wJ k&&(igV e.val).isSome&&Vs ks r
  |[]=>false
noncomputable def ada(P:cY)(a:Nat)(ks:List Int):Bool:=(gA P a).any λo=>tyV o.cls==some "dict"&&o.dict.isNone&&o.slots.isEmpty&&(deV o.data).any λp=>Vs ks p.1.toList
theorem yr{w:dW}{h:dO}:∀(ks:List Int) (d:List cx),Vs ks d=true->∃l:List (MV×MV),ER w h h [] l d/\l.map (·.1)=ks.map MV.c
 |[],r,e=>⟨[],iK.mp e,rfl⟩
 |k::ks,r,e=>by
  cases r with
  |nil=>cases e
  |cons x r=>
   refine an e λe q=>an e λe m=>an e λg f=>?_
   refine cf (yr (w:=w) (h:=h) _ _ q) λl p n=>?_
   refine cf ((cO ..).mp g) λi a o=>?_
   refine dG (dT.mp m) λj b=>?_
   refine dG (vY a) λt a=>?_
   refine dG (vY b) λs b=>?_
   cases beq_iff_eq.mp o
   refine⟨(.c k,.c j)::l,?_,congrArg _ n⟩
   exact⟨_,_,rfl,⟨⟨_,a⟩,beq_iff_eq.mp f,⟨_,b⟩⟩,p⟩
theorem Kg{w:dW}{h:dO}(n:∀b o,(wY w.params).get? b=some o->h.get? b=some o){a:Nat}{ks:List Int}(e:ada w.params a ks=true)(g:ks.Nodup)(i:(a==uB)=false):Lm w h a ks:=by
 refine cf ((cO ..).mp e) λo f e=>?_
 refine an e λe t=>an e λe m=>an e λk j=>?_
 refine cf ((cO ..).mp t) λp q e=>?_
 refine cf (yr (w:=w) (h:=h) _ _ e) λl s r=>?_
 refine⟨p.1.toList,p.2,l,?_,s,r,g,i⟩
 rw[m_ n _ _ f]
 obtain⟨c,d,x,sl⟩:=o
 cases Dn (beq_iff_eq.mp k);cases iE.mp j;cases K9.mp m;cases Bb q
 rfl
theorem NY(P:cY):(sdL.all λp=>(iZ (mH P) (NM p.1)==some (.ref p.2.1))&&ada P p.2.1 p.2.2&&decide p.2.2.Nodup&& !(p.2.1==uB))=true:=⋯
theorem JH(P:cY):((gA P 2).any λo=>(deV o.data).any λp=>adf p.1&&(iZ p.1 "sys.recursionlimit").isNone)=true:=⋯
theorem Hv(P:cY):(iZ (TN P) "len"==some (.builtin "len")&&iZ (TN P) "str"==some (.type "str")&&iZ (TN P) "tuple"==some (.type "tuple")&&iZ (TN P) "range"==some (.type "range")&&iZ (TN P) "enumerate"==some (.type "enumerate")&&
 iZ (mH P) "len"==none&&iZ (mH P) "str"==none&&iZ (mH P) "tuple"==none&&iZ (mH P) "range"==none&&iZ (mH P) "enumerate"==none)=true:=⋯
theorem ye{c a f:Nat}(h:Tb.a c a=some f):(c,a,f)∈tw:=by
 refine cf (List.exists_of_findSome?_eq_some h) λp b e=>?_
 refine ir (Option.ite_none_right_eq_some.mp e) λq e=>?_
 refine an q λg d=>?_
 refine j8 e ?_
 exact(eq_of_beq g)▸(eq_of_beq d)▸b
theorem El{c a:Nat}(h:a∈Tb.b c):∃l,(c,l)∈lH/\a∈l:=by
 have h:a∈(lH.lookup c).getD []:=h
 cases q:lH.lookup c with
 |none=>rw[q] at h;cases h
 |some l=>rw[q] at h;exact⟨l,jm q,h⟩
theorem aci{w:dW}{h:dO}(t:∀b o,(wY w.params).get? b=some o->h.get? b=some o):gz (Dd w h):=by
 have g:∀{y:Type} {l:List y} {p:y->Bool} {x:y},l.all p=true->x∈l->p x=true:=λe m=>aT.mp e _ m
 have r:∀{y:Type} {l:List (Nat×y)} {x:Str} {v:y} {G:Prop},(iq x).bind (lk l)=some v->(∀n,n<397->NM n=x->(NM n==("__debug__":Str))=false->(n,v)∈l->G)->G:=λe k=>bm e λn j d=>k n (nL j).1 (nL j).2 (beq_eq_false_iff_ne.mpr (yg n (nL j).1).2.1) (Jk d)
 refine⟨⟨acd t,λc a S=>?_,λc a f A=>?_⟩,⟨λc f A=>?_,λc A=>?_⟩,⟨?_,?_,?_⟩,λc i U=>?_,λx n m=>?_,?_,?_,?_,λk N=>(yg k N).2.2.2,λf F O=>?_⟩
 ·refine cf (El S) λl j d=>?_
  have q:=g (zx w.params) j
  rcases KR.mp q with q|q
  ·cases(iK.mp q:l=[]);cases d
  ·refine an q λH L=>?_
   have q:=g L d
   exact an q λa b=>⟨aW a,H,eq_of_beq b⟩
 ·have q:=g (vc w.params) (ye A)
  exact an q λq E=>an q λq D=>an q λq z=>an q λj d=>⟨aW j,d,eq_of_beq z,D⟩
 ·have q:=g (qC w.params) (jm (show nc.lookup c=some (some f) from A))
  exact an q λq d=>an q λj J=>an d λd z=>⟨j,eq_of_beq d,eq_of_beq z⟩
 ·have q:=g (qC w.params) (jm (show nc.lookup c=some none from A))
  exact an q λq d=>an q λj J=>⟨j,eq_of_beq d⟩
 ·kernel_rfl
 ·kernel_rfl
 ·kernel_rfl
 ·have q:=g (qC w.params) (jm (show nc.lookup c=some i from U))
  exact an q λq J=>an q λJ h=>h
 ·refine ir (nL m) λj z0=>?_
  refine rI z0 ?_
  refine k9 (yg n j) λJ a b J=>?_
  exact⟨j,rfl,beq_eq_false_iff_ne.mpr a,beq_eq_false_iff_ne.mpr b⟩
 ·refine⟨_,Co t,λx v m=>?_,λx f m=>?_,λx c m=>?_,λx ks m=>?_,?_⟩
  ·refine r (show(iq x).bind (lk zh)=some v from m) λn j e s d=>?_
   refine rI e ?_
   have q:=g (zi w.params) d
   refine cf ((cO ..).mp q) λu I e=>?_
   exact⟨s,u,I,Ky (m_ t) _ _ e⟩
  ·refine r (show(iq x).bind (lk fnL)=some f from m) λn j e s d=>?_
   subst e
   have q:=g (Mh w.params) d
   exact an q λa b=>⟨s,eq_of_beq b,a⟩
  ·refine r (show(iq x).bind (lk clL)=some c from m) λn j e s d=>?_
   subst e
   have q:=g (LP w.params) d
   exact⟨s,eq_of_beq q⟩
  ·refine mm (show((iq x).bind (lk sdL)).map (·.2)=some ks from m) λp P e=>r P λn j R s d=>?_
   subst e R
   have q:=g (NY w.params) d
   exact an q λq E=>an q λq D=>an q λd z=>⟨s,p.1,eq_of_beq d,Kg t z (of_decide_eq_true D) (nt E)⟩
  ·exact an (Hv w.params) λq C=>an q λq B=>an q λq a3=>an q λq a2=>an q λJ a1=>⟨eq_of_beq a1,eq_of_beq a2,eq_of_beq a3,eq_of_beq B,eq_of_beq C⟩
 ·exact an (Hv w.params) λq J=>an q λq J=>an q λq J=>an q λq J=>an q λq J=>an q λq C=>an q λq B=>an q λq a3=>an q λa1 a2=>⟨_,abq t,eq_of_beq a1,eq_of_beq a2,eq_of_beq a3,eq_of_beq B,eq_of_beq C⟩
 ·refine cf ((cO ..).mp (JH w.params)) λo M e=>?_
  refine cf ((cO ..).mp e) λp q e=>?_
  exact an e λQ T=>⟨λx=>iZ p.1 x,⟨o,p.1,p.2,m_ t 2 _ M,Bb q,tM Q,λJ=>rfl⟩,iE.mp T⟩
 ·exact Uj t (f,F) (jm (show m9.lookup f=some F from O))
end
section
open PySem PySem.Calls PySem.W PyProof.Rows
section
variable{D:Dat}{G:Cfg}{hb h:dO}{GA BA:cK}{W:cK->Prop}{sc:Sc}{env:Env}{ρ ρ':fj}{s s':az}{A:c_}{n fuel:Nat}{cl:Call}{a b c:List MV}{l:List Int}{k0 k1:Nat}{p0 p1 p2:cK×cK}
theorem wG:∀{l:List MV} {vs:List aA},(∀v∈l,∃i:Int,v= .c i)->dw hb h ρ l vs->dw hb h ρ' l vs
 |[],_,_,q=>q
 |v::l,_,hl,q=>by
  refine dY q λu r e g f=>?_
  refine dG (hl v (.head _)) λi z0=>?_
  subst z0
  exact⟨u,r,e,g,wG (λw d=>hl w (.tail _ d)) f⟩
theorem ad5{e:Type}{l:List e}(h:3=l.length){d:Prop}(k:∀a b c,l=[a,b,c]->d):d:=by
 cases l with
 |nil=>cases h
 |cons a l=>cases l with
  |nil=>cases h
  |cons b l=>cases l with
   |nil=>cases h
   |cons c l=>cases l with
    |nil=>exact k a b c rfl
    |cons _ _=>cases h
theorem Am{d:Type}{P:Nat->d->Prop}{x y:d}(g:P 0 x)(f:P 1 y)(n:Nat)(o:d)(e:[x,y][n]?=some o):P n o:=by
 cases n with
 |zero=>exact ba e▸g
 |succ n=>cases n with
  |zero=>exact ba e▸f
  |succ n=>exact nn e
noncomputable def apx(p q:cK×cK):Prop:=p.1≠q.1/\p.1≠q.2/\p.2≠q.1/\p.2≠q.2
theorem zI{d:Type}{a b c x:d}(h:x∈[a,c]):x∈[a,b,c]:=by
 cases h with
 |head=>exact .head _
 |tail _ h=>exact .tail _ (.tail _ h)
theorem Uk(P:b_ W G hb [] s ρ [.a a,.a b,.a c] s')(w:∀v∈a,∃i:Int,v= .c i)(C:∀v∈c,∃i:Int,v= .c i){t:Prop}(z:∀p0 p1 p2,ρ=[p0,p1,p2]->b_ W G hb [] s [p0,p2] [.a a,.a c] s'->t):t:=by
 refine ad5 P.B.u.symm λp0 p1 p2 r=>z p0 p1 p2 r ?_
 subst r
 refine cf P.L λe E Q=>?_
 cases E
 have S:=P.B
 have M:=S.H 0 _ p0 rfl rfl
 have y:=S.H 2 _ p2 rfl rfl
 refine⟨⟨[p0,p2],rfl,λp k=>Q p (zI k)⟩,⟨rfl,λn o p f d=>?_,λi j p q f d=>?_,λx o O p k=>S.B x o O p (zI k),S.m,S.L⟩,P.u,P.H,P.F,P.I,P.Z,P.N⟩
 ·cases n with
  |zero=>
   cases f;cases d
   obtain⟨e,vs,m,g,q⟩:=M
   exact⟨e,vs,m,g,wG w q⟩
  |succ n=>cases n with
   |zero=>
    refine j8 f ?_;refine j8 d ?_
    obtain⟨e,vs,m,g,q⟩:=y
    exact⟨e,vs,m,g,wG C q⟩
   |succ n=>cases f
 ·exact Am (P:=λi p=>i≠j->apx p q) (Am (P:=λj q=>0≠j->apx p0 q) (λh=>absurd rfl h) (λJ=>S.F 0 2 p0 p2 rfl rfl (by decide)) j q d) (Am (P:=λj q=>1≠j->apx p2 q) (λJ=>S.F 2 0 p2 p0 rfl rfl (by decide)) (λh=>absurd rfl h) j q d) i p f
theorem tq{x:Nat}{v:MV}(e:bx [(k0,.m l),(k1,.d 1)] x=some v){f:Prop}(g:∀i,bx [(k0,.m l),(k1,.d 2)] x=some i->(∀u,VR hb h [p0,p1,p2] i u->VR hb h [p0,p2] v u)->f):f:=by
 have K:∀w,bx [(k0,.m l),(k1,w)] x=if aR k0 x=true then some (.m l) else if aR k1 x=true then some w else none:=λJ=>rfl
 cases q:aR k0 x with
 |true=>
  replace K:=q▸K
  exact g _ (K _) λu z=>ba ((K _).symm.trans e)▸z
 |false=>cases q2:aR k1 x with
  |true=>
   replace K:=q2▸q▸K
   refine g _ (K _) λu z=>ba ((K _).symm.trans e)▸?_
   refine cf z λp j k=>?_
   cases k
   exact⟨p2,j,rfl⟩
  |false=>
   replace K:=q2▸q▸K
   exact nn ((K _).symm.trans e)
theorem zy(F:oO G hb GA BA env [(k0,.m l),(k1,.d 2)] h [p0,p1,p2]):oO G hb GA BA env [(k0,.m l),(k1,.d 1)] h [p0,p2]:=by
 have w:∀{b},Off [p0,p1,p2] b->Off [p0,p2] b:=λo p M=>o p (zI M)
 refine cf F.z λm hm L=>?_
 refine⟨F.i,F.p,F.E,λx v e=>?_,w F.q,F.y,⟨m,hm,λx v e H=>?_⟩,λn c e=>?_,λx v e H=>?_,F.j,F.k⟩
 ·exact tq (hb:=hb) (h:=h) (p0:=p0) (p1:=p1) (p2:=p2) e λC g J=>F.t x C g
 ·refine tq (hb:=hb) (h:=h) (p0:=p0) (p1:=p1) (p2:=p2) e λC g t=>?_
  refine cf (L x C g H) λu B r=>?_
  exact⟨u,B,t u r⟩
 ·refine ir (F.f n c e) λB r=>?_
  exact⟨w B,r⟩
 ·refine tq (hb:=hb) (h:=h) (p0:=p0) (p1:=p1) (p2:=p2) e λC g t=>?_
  refine dY (F.l x C g H) λc u B r I=>?_
  exact⟨c,u,B,r,t u I⟩
theorem xt(E:∀st:j0,kg D n fuel cl st)(X:∀b:List j0,jh D n fuel cl b)(f:m0::m1::ms=yK D.X sc body)(R:fB (n+1) A)(g:At D sc env [(k0,.m l)] [] [] s)(p:∀v∈a,∃i:Int,v= .c i)(I:∀v∈c,∃i:Int,v= .c i)
  (H:bQ D.T cl fuel m0 [(k0,.m l)] []=some (.a,eZ,bC)) (F:bQ D.T cl fuel m1 eZ bC=some (.a,[(k0,.m l),(k1,.d 2)],[.a a,.a b,.a c])) (B:aY D.T cl fuel ms [(k0,.m l),(k1,.d 1)] [.a a,.a c]=some (fl,loc',aG)):
  aI (aH D.a D.G.w) A (execs body env) (gx D env [] s fl loc' aG) no s:=by
 cases body with
 |nil=>exact nomatch f
 |cons j t=>cases t with
  |nil=>exact nomatch f
  |cons k r=>
   obtain⟨y,e⟩:=Lc (f:m0::m1::ms=cS D.X sc j::cS D.X sc k::yK D.X sc r)
   obtain⟨u,q⟩:=Lc e
   refine yI (gx.c (E j sc A env _ [] [] s .a eZ bC R g (y▸H)) λbt s1 o L=>yI (gx.c (E k sc A env eZ bt bC s1 .a _ _ R (g.h o L) (u▸F)) λM s2 x C=>Uk (o.m x) p I λp0 p1 p2 e P=>?_))
   subst e
   exact a_ (X r sc A env _ _ _ s2 fl loc' aG R (g.h P (zy C)) (q▸B)) (λJ J z=>gx.b P z) λJ J z=>z
theorem JF(L:gz D)(p:∀c a f,D.T.a c a=some f->kQ D.K (.ref (D.c f))=true)(x:D.T.h f=some F)(hb:F.b=m0::m1::ms)(z:eH F.a [.m l] []=some [(k0,.m l)])(t:∀v∈a,∃i:Int,v= .c i)(C:∀v∈c,∃i:Int,v= .c i)
  (B:bQ D.T (au D.T k) k m0 [(k0,.m l)] []=some (.a,eZ,bC)) (y:bQ D.T (au D.T k) k m1 eZ bC=some (.a,[(k0,.m l),(k1,.d 2)],[.a a,.a b,.a c])) (u:aY D.T (au D.T k) k ms [(k0,.m l),(k1,.d 1)] [.a a,.a c]=some (.b r,loc',aG))
  (R:fB (2*(k+1)) A) (S:eV D.G D.b s.heap [] []) (j:D.T.d<=s.toks) (q:dw D.b s.heap [] [.m l] vals):
  nY (aH D.a D.G.w) A (.call (.ref (D.c f)) ⟨vals,[]⟩) (Back (Ok D.G D.b [] s aG r)) s:=by
 have Y:∀st:j0,kg D (2*k) k (au D.T k) st:=λst=>tK L (λe=>sS L (qm L p k) p _ e (dh _)) _ st (dh _)
 exact xH L (L.g f F x) (R.e QN) S j q z ⟨.b r,loc',λsc A env s1 body o R a=>xt Y (λb=>oW λst J=>Y st) (hb▸o) R a t C B y u,.inl rfl⟩
end
end
section
open PySem PySem.W PySem.Calls PyProof.Rows PySem.W.X
noncomputable abbrev Dk:Stmt:=sT 218
noncomputable def abx:DefRec:=⟨"law",stA Dk,stB Dk,stS Dk,(match Dk with| .FunctionDef _ _ _ _ _ _ _ _ _ p=>p|_=>default)⟩
theorem MP{vs:List aA}{l:List Int}(H:IntsAre vs l):∀{j:Nat} {i:Int},l[j]?=some i->∃t:Tok,vs[j]?=some (aA.int i t):=by
 induction H with
 |nil=>intro j i h;cases h
 |cons n t r a=>
  intro j i h
  cases j with
  |zero=>refine j8 h ?_;exact⟨t,rfl⟩
  |succ j=>exact a h
noncomputable def RU:Prop:=∃(e loc':Loc) (bC f:Hp) (b c:List MV),(∀v∈c,∃i:Int,v= .c i)/\bQ Tb (au Tb 79) 79 ((eJ.b[0]?).getD .c) [(298,.m [])] []=some (.a,e,bC)/\bQ Tb (au Tb 79) 79 ((eJ.b[1]?).getD .c) e bC=some (.a,[(298,.m []),(251,.d 2)],[.a [],.a b,.a c])/\aY Tb (au Tb 79) 79 (eJ.b.drop 2) [(298,.m []),(251,.d 1)] [.a [],.a c]=some (.b (.h true),loc',f)
set_option tactic.hygienic true in
theorem Oq(ML:∀l:List Int,l≠[]->l.length<=63->∃μ,au Tb 80 1346 [.m l] []=some (.h true,μ))(MN:RU):WalkX Qv Ls (λJ J=>True) Yf0 Ya0 r0.toRowW abx [] (λf vs=>PySem.call f vs):=by
 intro w x d mg mb G Y a o pm cd Z dV kV ho hd hcd hD I hg args vals as L IM u D y dP
 have h0:x.heap=wY w.params:=congrArg jw Y
 have E:∀b o,(wY w.params).get? b=some o->d.heap.get? b=some o:=λb o e=>L.keeps b o (h0▸e)
 refine IF λW ww=>?_
 wrow_args IM u D y dP
 have s:=script_toks L (congrArg f_ Y)
 rename_i ns hs hl0 hL1 Wy hl2 as3 as2 la vs as1 hL ra w1 r0' hI hr hlen _
 have k:ns.length<=63:=by
  have: ¬((63:Nat):Int)<(ns.length:Int):=hlen
  exact(bN [_] V0.A 63 (.o V0.A 63 .z) rfl (aP λg=>hlen (cv.mpr g)))
 have V:mg "law"=some (.ref a):=I
 refine LZ (Co E) λo1 es1 n1 g1 d1 _ f1=>?_
 refine LZ G.T.g λo2 es2 n2 g2 d2 _ f2=>?_
 have t:d.heap.get? 3=some o2:=g2
 rw[g1] at t
 have H:=(Data.dict.inj (d2.symm.trans ((congrArg Obj.data (ba t).symm).trans d1))).1
 have ha:a=1346:=by
  have R:=f1 "law"
  rw[<-H,f2 "law",V] at R
  exact aA.ref.inj (ba (R.trans (by kernel_rfl:iZ (mH w.params) "law"=some (.ref 1346))))
 subst ha
 have O:∀c a f,(Dd w d.heap).T.a c a=some f->kQ (Dd w d.heap).K (.ref ((Dd w d.heap).c f))=true:=λc a f h=>by
  have:=aT.mp (vc w.params) _ (ye h)
  simp only[bO] at this
  exact this.2
 have S:=aci (w:=w) (h:=d.heap) E
 have N:eV (Gd w) d.heap d.heap [] []:=⟨rfl,(λn o p e=>nomatch e),(λi j p q e=>nomatch e),(λb o J p hp=>nomatch hp),λb o e=>e,⟨_,m_ E 1 (boot_o_1 w.params) ⋯⟩⟩
 have V0:dw d.heap d.heap [] [.m ns] [.ref la]:=by
  refine dw.o ?_ dw.B
  refine⟨la,vs,0,rfl,script_obj L hL,(IntsAre.length hI).symm,λj i hj=>?_⟩
  exact MP hI hj
 obtain⟨r,HC⟩:∃r,nY (aH (Dd w d.heap).a (Dd w d.heap).G.w) callerA (.call (.ref ((Dd w d.heap).c 1346)) ⟨[.ref la],[]⟩) (Back (Ok (Dd w d.heap).G (Dd w d.heap).b [] d r (.h true))) d:=by
  by_cases Q:ns=[]
  ·subst Q
   obtain⟨eZ,loc',bC,r,b,c,hc,x0,x1,x2⟩:=MN
   exact⟨r,JF (a:=[]) (F:=eJ) S O ⋯ rfl rfl (λJ h=>nomatch h) hc x0 x1 x2 ⟨rfl,by decide,by decide⟩ N s V0⟩
  ·refine dG (ML ns Q k) λr hM=>?_
   exact⟨r,qm S O 80 callerA ⟨rfl,by decide,by decide⟩ 1346 [.m ns] [] (.h true) r hM [] d [.ref la] N s V0⟩
 refine ww (a_ (M:=aH Pw w) (nE HC) (λv U z=>?_) λe U z=>z.elim)
 obtain⟨ρ',P,q⟩:=z
 refine fI q ?_
 refine GoodW.toG ⟨.inl ⟨.bool true,.bool true,[],rfl,λJ=>rfl,.bool _,?_,λJ=>⟨lA,λJ h=>nomatch h⟩⟩,(λb o e=>P.C b o e λJ h=>nomatch h),P.X,P.F.trans hg⟩
 exact postW_of (by rfl) (by rfl) (same_self _)
end
section
open PySem PySem.W PyProof.Rows PySem.Calls
theorem acg:LeftO Pw Qv Ls Xt0 Yf0 Ya0 NN:=LeftO.of_pieces (H₀:=kO) (H₁:=wY) acw ade NT ad2 (λw=>funext λos=>
 iY (bJ (bJ (bJ (acj w os) (ack w os)) (acm w os)) (acn w os))
  (iY (iY (aep w os) (iY (aeq w os) (iY (aer w os) (iY (aes w os) (iY (aet w os) (iY (aeu w os) (iY (aev w os) (iY (aew w os) (aex w os))))))))) (by rfl)))
end
section
set_option genCtorIdx true in
inductive rF where
 |v (x:MV)|a (x:MV) (μ:Hp)|h (μ:Hp)|b (x:Bool)|c (x:K1)|d (x:List (MV×MV))|s (x:Fl×Loc×Hp)
structure SS where
 a:List (Nat×rF)
 P:Prop
noncomputable abbrev SM(α:Type):=SS->Option (α×SS)
section
variable{α β:Type}
noncomputable def iW(a:α):SM α:=λs=>some (a,s)
noncomputable def Ru:SM α:=λJ=>none
noncomputable def jA(x:SM α)(f:α->SM β):SM β:=λs=>match x s with
 |some (a,s)=>f a s
 |none=>none
noncomputable def rL(x:SM α)(f:α->β):SM β:=jA x λa=>iW (f a)
noncomputable def mG(x:Option α):SM α:=λs=>match x with
 |some v=>some (v,s)
 |none=>none
noncomputable def i4(x:Option α)(b:rF->Option α):SM α:=fun
 |⟨(0,a)::r,P⟩=>mG (b a) ⟨r,P/\x=b a⟩
 |⟨(m+1,a)::r,P⟩=>mG x ⟨(m,a)::r,P⟩
 |⟨[],P⟩=>mG x ⟨[],P⟩
noncomputable def uq:Nat->List (Nat×rF)->List (Nat×rF)
 |_,[]=>[]
 |n,(m,.s x)::r=>(m - n,.s x)::uq m r
 |n,(m,a)::r=>(m - n,a)::uq (m+1) r
noncomputable def stQ(b:Bool)(x:SM α)(y:Option α)(a:rF->Option α):SM α:=cond b (λs=>match s with
 |⟨(0,.s q)::r,P⟩=>mG (a (.s q)) ⟨r,P/\y=a (.s q)⟩
 |s=>x s) x
noncomputable def bV(x:SM α)(y:Option α):Prop:=∀s v a,x s=some (v,a)->a.P->s.P/\y=some v
theorem bsm{f:α->SM β}{b:Prop}(h:jA x f s=some (v,s'))(k:∀a s1,x s=some (a,s1)->f a s1=some (v,s')->b):b:=by
 unfold jA at h
 match e:x s with
 |some (a,s1)=>rw[e] at h;exact k a s1 e h
 |none=>rw[e] at h;cases h
theorem lsm{a:Prop}(h:mG x s=some (v,s'))(k:x=some v->s=s'->a):a:=by
 cases x with
 |some u=>cases h;exact k rfl rfl
 |none=>cases h
theorem bV.j(a:α):bV (iW a) (some a):=λs v b h p=>by cases h;exact⟨p,rfl⟩
theorem bV.w(x:Option α):bV (mG x) x:=λs v a h p=>lsm h λe q=>⟨q▸p,e⟩
theorem bV.A(y:Option α):bV Ru y:=λJ J J h=>nomatch h
theorem bV.I{P:Prop}(h:mG z ⟨r,P/\y=z⟩=some (v,s'))(p:s'.P):P/\y=some v:=lsm h λe q=>by
 subst q;exact⟨p.1,p.2.trans e⟩
theorem bV.k(x:Option α)(a:rF->Option α):bV (i4 x a) x:=λs v b h p=>match s,h with
 |⟨(0,_)::_,_⟩,h=>bV.I h p
 |⟨(_+1,_)::_,_⟩,h=>lsm h λe q=>by subst q;exact⟨p,e⟩
 |⟨[],_⟩,h=>lsm h λe q=>by refine fI q ?_;exact⟨p,e⟩
theorem bV.K(b:Bool)(f:rF->Option α)(h:bV x y):bV (stQ b x y f) y:=by
 cases b with
 |false=>exact h
 |true=>
  refine λs v c e p=>?_
  obtain⟨l,P⟩:=s
  cases l with
  |nil=>exact h _ v c e p
  |cons a r=>
   obtain⟨n,q⟩:=a
   cases n with
   |zero=>cases q with
    |s q=>exact bV.I e p
    |_=>exact h _ v c e p
   |succ n=>exact h _ v c e p
theorem bV.m{f:α->SM β}{g:α->Option β}(i:bV x y)(l:∀a,bV (f a) (g a)):bV (jA x f) (y.bind g):=λs v b h p=>
 bsm h λa s1 e c=>have q:=l a s1 v b c p;have r:=i s a s1 e q.1;⟨r.1,r.2▸q.2⟩
theorem bV.t(b:bV x y)(f:α->β):bV (rL x f) (y.map f):=by
 rw[Option.map_eq_bind];exact bV.m b λa=>bV.j (f a)
noncomputable def iI(x:SM (α×Hp))(f:α->Hp->SM β):SM β:=λs=>match x s with
 |some ((v,μ),s)=>f v μ s
 |none=>none
theorem bV.d{f:α->Hp->SM β}{g:α->Hp->Option β}(i:bV x y)(c:∀v μ,bV (f v μ) (g v μ)):bV (iI x f) (ob y g):=λs v b h p=>by
 unfold iI at h
 match e:x s with
 |some ((a,μ),s1)=>
  rw[e] at h
  have q:=c a μ s1 v b h p
  have r:=i s (a,μ) s1 e q.1
  exact⟨r.1,r.2▸q.2⟩
 |none=>rw[e] at h;cases h
end
noncomputable def dV:rF->Option MV| .v x=>some x|_=>none
noncomputable def Q3:rF->Option (MV×Hp)| .a x μ=>some (x,μ)|_=>none
noncomputable def dH:rF->Option Hp| .h μ=>some μ|_=>none
noncomputable def dB:rF->Option Bool| .b x=>some x|_=>none
noncomputable def dC:rF->Option K1| .c x=>some x|_=>none
noncomputable def dD:rF->Option (List (MV×MV))| .d x=>some x|_=>none
noncomputable def dS:rF->Option (Fl×Loc×Hp)| .s x=>some x|_=>none
noncomputable def dL(_:rF):Option (List Nat):=none
noncomputable def UO:MS->Bool
 | .g _ _ _=>true
 | .h _ _=>true
 | .f _ (.s _ _ _ _)=>true
 |_=>false
section
variable{β:Type}
noncomputable def QZ(y:Option Bool)(a b:SM β):SM β:=jA (i4 y dB) λc=>cond c a b
theorem bV.H(e:bV a a')(hb:bV b b'):bV (QZ y a b) (y.bind λc=>cond c a' b'):=bV.m (bV.k _ _) λc=>match c with
 |true=>e
 |false=>hb
theorem adk:tr v a b=(ie v).bind λc=>cond c a b:=by
 unfold tr
 match ie v with
 |some true=>rfl
 |some false=>rfl
 |none=>rfl
theorem bV.B(c:bV a a')(hb:bV b b'):bV (QZ (ie v) a b) (tr v a' b'):=adk▸bV.H c hb
noncomputable def WD(v:MV)(f:Int->SM β):SM β:=match v with
 | .c i=>f i
 |_=>Ru
theorem bV.C{f:Int->SM β}{g:Int->Option β}(h:∀i,bV (f i) (g i)):bV (WD v f) (iv v g):=by
 cases v with
 |c i=>exact h i
 |_=>exact bV.A _
noncomputable def lsS(μ:Hp)(o:MV)(f:Nat->List MV->SM β):SM β:=match o with
 | .d n=>(match μ[n]? with|some (.a l)=>f n l|_=>Ru)
 |_=>Ru
theorem bV.G{f:Nat->List MV->SM β}{g:Nat->List MV->Option β}(h:∀n l,bV (f n l) (g n l)):bV (lsS μ o f) (rv μ o g):=by
 cases o with
 |d n=>
  unfold lsS rv xQ
  dsimp only
  cases μ[n]? with
  |none=>exact bV.A _
  |some o=>cases o with
   |a l=>exact h n l
   |_=>exact bV.A _
 |_=>exact bV.A _
noncomputable def gdS(c:Prop)[Decidable c](x:SM β):SM β:=jA (i4 (gd c (some true)) dB) λJ=>x
theorem bV.F{c:Prop}[i:Decidable c](h:bV x y):bV (gdS c x) (gd c y):=λs v b e p=>
 bsm e λa s1 f g=>have q:=h s1 v b g p;have r:=bV.k _ _ s a s1 f q.1;⟨r.1,gm r.2 λc J=>(if_pos c).trans q.2⟩
noncomputable def Kb(μ:Hp)(n:Nat)(all:List MV):Option Bool:=match μ[n]? with
 |some (.a l)=>if MV.o l all then some true else none
 |_=>none
theorem Kc:((Kb μ n all).bind λJ=>z)=wy n all μ z:=by
 unfold Kb wy rv xQ
 dsimp only
 cases μ[n]? with
 |none=>rfl
 |some o=>cases o with
  |a l=>unfold Mine.gd;dsimp only;cases MV.o l all<;>rfl
  |_=>rfl
noncomputable def saS(n:Nat)(all:List MV)(μ:Hp)(x:SM β):SM β:=jA (i4 (Kb μ n all) dB) λJ=>x
theorem bV.E(h:bV x y):bV (saS n all μ x) (wy n all μ y):=Kc▸bV.m (bV.k _ _) λJ=>h
end
noncomputable def HE(f:MV->Hp->SM (MV×Hp)):List MV->Hp->SM (List MV×Hp)
 |[],μ=>iW ([],μ)
 |v::r,μ=>iI (f v μ) λx μ=>iI (HE f r μ) λxs μ=>iW (x::xs,μ)
noncomputable def zg(f:MV->Hp->SM (MV×Hp))(n:Nat)(all:List MV):List MV->Hp->SM (List MV×Hp)
 |[],μ=>saS n all μ (iW ([],μ))
 |v::r,μ=>saS n all μ (iI (f v μ) λx μ=>iI (zg f n all r μ) λxs μ=>iW (x::xs,μ))
theorem xw{f:MV->Hp->SM (MV×Hp)}{g:MV->Hp->Option (MV×Hp)}(h:∀v μ,bV (f v μ) (g v μ)):∀(l:List MV) (μ:Hp),bV (HE f l μ) (yc g l μ)
 |[],_=>bV.j _
 |v::r,μ=>bV.d (h v μ) λJ μ=>bV.d (xw h r μ) λJ J=>bV.j _
theorem uR{f:MV->Hp->SM (MV×Hp)}{g:MV->Hp->Option (MV×Hp)}(h:∀v μ,bV (f v μ) (g v μ))(n:Nat)(all:List MV):∀(l:List MV) (μ:Hp),bV (zg f n all l μ) (uk g n all l μ)
 |[],_=>bV.E (bV.j _)
 |v::r,μ=>bV.E (bV.d (h v μ) λJ μ=>bV.d (uR h n all r μ) λJ J=>bV.j _)
noncomputable def Rt(vs:List MV)(μ:Hp):SM (MV×Hp):=iW (.d μ.length,μ++[.a vs])
mutual
noncomputable def jC(T:Tab)(call:Call):ME->Loc->Hp->SM (MV×Hp)
 | .m,_,_=>Ru
 | .g v,_,μ=>iW (v,μ)
 | .d x,ρ,μ=>mG ((bx ρ x).map (·,μ))
 | .E a b,ρ,μ=>iI (jC T call a ρ μ) λv μ=>QZ (ie v) (jC T call b ρ μ) (iW (v,μ))
 | .J a b,ρ,μ=>iI (jC T call a ρ μ) λv μ=>QZ (ie v) (iW (v,μ)) (jC T call b ρ μ)
 | .C a,ρ,μ=>iI (jC T call a ρ μ) λv μ=>rL (i4 (ie v) dB) λc=>(.h (!c),μ)
 | .A a,ρ,μ=>iI (jC T call a ρ μ) λv μ=>WD v λi=>iW (.c (-i),μ)
 | .r op a b,ρ,μ=>iI (jC T call a ρ μ) λx μ=>iI (jC T call b ρ μ) λy μ=>i4 (dE μ op x y) Q3
 | .q op a b,ρ,μ=>iI (jC T call a ρ μ) λx μ=>iI (jC T call b ρ μ) λy μ=>rL (i4 (ct μ op x y) dB) λc=>(.h c,μ)
 | .F op Rw a b c,ρ,μ=>iI (jC T call a ρ μ) λx μ=>iI (jC T call b ρ μ) λy μ=>QZ (ct μ op x y) (iI (jC T call c ρ μ) λz μ=>rL (i4 (ct μ Rw y z) dB) λr=>(.h r,μ)) (iW (.h false,μ))
 | .z ng ks a,ρ,μ=>iI (jC T call a ρ μ) λv μ=>WD v λi=>rL (i4 (some (ks.contains i !=ng)) dB) λc=>(.h c,μ)
 | .I t a b,ρ,μ=>iI (jC T call t ρ μ) λv μ=>QZ (ie v) (jC T call a ρ μ) (jC T call b ρ μ)
 | .D es,ρ,μ=>iI (xC T call es ρ μ) λvs μ=>i4 (gd (vs.length<=1000) (JB vs μ)) Q3
 | .l es,ρ,μ=>iI (xC T call es ρ μ) λvs μ=>i4 (gd (vs.length<=1000) (some (.e vs,μ))) Q3
 | .G ks es,ρ,μ=>iI (xC T call es ρ μ) λvs μ=>jA (i4 (wh ks vs []) dD) λl=>iW (.d μ.length,μ++[.b l])
 | .k o a,ρ,μ=>iI (jC T call o ρ μ) λv μ=>rL (i4 (iu T μ v a) dV) (·,μ)
 | .h o i,ρ,μ=>iI (jC T call o ρ μ) λv μ=>iI (jC T call i ρ μ) λk μ=>rL (i4 (ez μ v k) dV) (·,μ)
 | .y o lo hi,ρ,μ=>iI (jC T call o ρ μ) λv μ=>iI (Uh T call lo ρ μ) λa μ=>iI (Uh T call hi ρ μ) λb μ=>i4 (lu μ v a b) Q3
 | .j f es,ρ,μ=>iI (xC T call es ρ μ) λvs μ=>i4 (call f vs μ) Q3
 | .H c es,ρ,μ=>iI (xC T call es ρ μ) λvs μ=>i4 (yf T call c vs μ) Q3
 | .n o a es,ρ,μ=>iI (jC T call o ρ μ) λv μ=>jA (i4 (gI T μ v a) dC) λc=>iI (xC T call es ρ μ) λvs μ=>i4 (dj call μ v vs c) Q3
 | .w o x e,ρ,μ=>iI (jC T call o ρ μ) λv μ=>iI (jC T call e ρ μ) λu μ=>rL (i4 (vf T x v u) dV) (·,μ)
 | .p e,ρ,μ=>iI (jC T call e ρ μ) λv μ=>rL (i4 (mj μ v) dV) (·,μ)
 | .B e,ρ,μ=>iI (jC T call e ρ μ) λv μ=>WD v λi=>rL (i4 (zp i) dL) λs=>(.g s,μ)
 | .u e,ρ,μ=>iI (jC T call e ρ μ) λv μ=>i4 (rv μ v λJ l=>gd (l.length<=bz) (some (.e l,μ))) Q3
 | .s x rg src elt,ρ,μ=>iI (jC T call src ρ μ) λv μ=>cond rg
  (WD v λk=>gdS (0<=k/\k<=1000) (iI (HE (λi μ=>jC T call elt ((x,i)::ρ) μ) (yM k) μ) Rt))
  (lsS μ v λn l=>gdS (l.length<=bz) (iI (zg (λi μ=>jC T call elt ((x,i)::ρ) μ) n l l μ) Rt))
noncomputable def xC(T:Tab)(call:Call):List ME->Loc->Hp->SM (List MV×Hp)
 |[],_,μ=>iW ([],μ)
 |e::r,ρ,μ=>iI (jC T call e ρ μ) λv μ=>iI (xC T call r ρ μ) λvs μ=>iW (v::vs,μ)
noncomputable def Uh(T:Tab)(call:Call):Option ME->Loc->Hp->SM (Option MV×Hp)
 |none,_,μ=>iW (none,μ)
 |some e,ρ,μ=>iI (jC T call e ρ μ) λv μ=>iW (some v,μ)
end
noncomputable def qT(T:Tab)(call:Call)(t:MT)(v:MV)(ρ:Loc)(μ:Hp):SM (Loc×Hp):=match t with
 | .b x=>iW (bp ρ x v,μ)
 | .e o a=>iI (jC T call o ρ μ) λw μ=>rL (i4 (og T μ w a v) dH) (ρ,·)
 | .d o i=>iI (jC T call o ρ μ) λw μ=>iI (jC T call i ρ μ) λk μ=>rL (i4 (pZ μ w k v) dH) (ρ,·)
 | .c xs=>(match v with| .e l=>mG ((eH xs l ρ).map (·,μ))|_=>Ru)
noncomputable abbrev XS:=SM (Fl×Loc×Hp)
noncomputable def oxS(x:XS)(k:Loc->Hp->XS):XS:=jA x λq=>match q with
 |(.a,ρ,μ)=>k ρ μ
 |q=>iW q
noncomputable def Mi(body:Loc->Hp->XS)(store:MV->Loc->Hp->SM (Loc×Hp)):List MV->Loc->Hp->XS
 |[],ρ,μ=>iW (.a,ρ,μ)
 |v::r,ρ,μ=>iI (store v ρ μ) λρ μ=>oxS (body ρ μ) (Mi body store r)
noncomputable def Bm(en:Bool)(body:Loc->Hp->XS)(store:MV->Loc->Hp->SM (Loc×Hp))(n:Nat)(all:List MV):Nat->List MV->Loc->Hp->XS
 |_,[],ρ,μ=>saS n all μ (iW (.a,ρ,μ))
 |k,v::r,ρ,μ=>saS n all μ (iI (store (cond en (.e [.c k,v]) v) ρ μ) λρ μ=>oxS (body ρ μ) (Bm en body store n all (k+1) r))
noncomputable def Ao(b:Loc->Hp->SM (MV×Hp))(body:Loc->Hp->XS):Nat->Loc->Hp->XS
 |0,_,_=>Ru
 |n+1,ρ,μ=>iI (b ρ μ) λv μ=>QZ (ie v) (oxS (body ρ μ) (Ao b body n)) (iW (.a,ρ,μ))
mutual
noncomputable def exS(T:Tab)(call:Call)(fuel:Nat):MS->Loc->Hp->XS
 | .c,_,_=>Ru
 | .d e,ρ,μ=>iI (jC T call e ρ μ) λJ μ=>iW (.a,ρ,μ)
 | .f t e,ρ,μ=>iI (jC T call e ρ μ) λv μ=>iI (qT T call t v ρ μ) λρ μ=>iW (.a,ρ,μ)
 | .j x op e,ρ,μ=>jA (mG (bx ρ x)) λa=>iI (jC T call e ρ μ) λb μ=>jA (mG (Gh op a b)) λv=>iW (.a,bp ρ x v,μ)
 | .n o a op e,ρ,μ=>iI (jC T call o ρ μ) λw μ=>jA (i4 (iu T μ w a) dV) λu=>iI (jC T call e ρ μ) λb μ=>jA (mG (Gh op u b)) λv=>jA (i4 (og T μ w a v) dH) λμ=>iW (.a,ρ,μ)
 | .p e,ρ,μ=>iI (jC T call e ρ μ) λv μ=>iW (.b v,ρ,μ)
 | .m t a b,ρ,μ=>iI (jC T call t ρ μ) λv μ=>QZ (ie v) (qw T call fuel a ρ μ) (qw T call fuel b ρ μ)
 | .h t b,ρ,μ=>Ao (jC T call t) (qw T call fuel b) fuel ρ μ
 | .g t s b,ρ,μ=>match s with
  | .b e=>iI (jC T call e ρ μ) λv μ=>(match v with
   | .e l=>Mi (qw T call fuel b) (qT T call t) l ρ μ
   |v=>lsS μ v λn l=>Bm false (qw T call fuel b) (qT T call t) n l 0 l ρ μ)
  | .a e=>iI (jC T call e ρ μ) λv μ=>WD v λk=>gdS (0<=k/\k<=1000) (Mi (qw T call fuel b) (qT T call t) (yM k) ρ μ)
  | .c e=>iI (jC T call e ρ μ) λv μ=>lsS μ v λn l=>Bm true (qw T call fuel b) (qT T call t) n l 0 l ρ μ
 | .l o i,ρ,μ=>iI (jC T call o ρ μ) λw μ=>iI (jC T call i ρ μ) λk μ=>jA (i4 (LV μ w k) dH) λμ=>iW (.a,ρ,μ)
 | .k o i,ρ,μ=>iI (jC T call o ρ μ) λw μ=>iI (jC T call i ρ μ) λk μ=>jA (i4 (HL μ w k) dH) λμ=>iW (.a,ρ,μ)
noncomputable def qw(T:Tab)(call:Call)(fuel:Nat):List MS->Loc->Hp->XS
 |[],ρ,μ=>iW (.a,ρ,μ)
 |s::r,ρ,μ=>oxS (stQ (UO s) (exS T call fuel s ρ μ) (bQ T call fuel s ρ μ) dS) (qw T call fuel r)
end
end
section
section
variable{T:Tab}{call:Call}
mutual
theorem bP:∀(e:ME) (ρ:Loc) (μ:Hp),bV (jC T call e ρ μ) (aO T call e ρ μ)
 | .m,_,_=>bV.A _
 | .g _,_,_=>bV.j _
 | .d _,_,_=>bV.w _
 | .E a b,ρ,μ=>bV.d (bP a ρ μ) λJ μ=>bV.B (bP b ρ μ) (bV.j _)
 | .J a b,ρ,μ=>bV.d (bP a ρ μ) λJ μ=>bV.B (bV.j _) (bP b ρ μ)
 | .C a,ρ,μ=>bV.d (bP a ρ μ) λJ J=>bV.t (bV.k _ _) _
 | .A a,ρ,μ=>bV.d (bP a ρ μ) λJ J=>bV.C λJ=>bV.j _
 | .r _ a b,ρ,μ=>bV.d (bP a ρ μ) λJ μ=>bV.d (bP b ρ μ) λJ J=>bV.k _ _
 | .q _ a b,ρ,μ=>bV.d (bP a ρ μ) λJ μ=>bV.d (bP b ρ μ) λJ J=>bV.t (bV.k _ _) _
 | .F _ _ a b c,ρ,μ=>bV.d (bP a ρ μ) λJ μ=>bV.d (bP b ρ μ) λJ μ=>bV.H (bV.d (bP c ρ μ) λJ J=>bV.t (bV.k _ _) _) (bV.j _)
 | .z _ _ a,ρ,μ=>bV.d (bP a ρ μ) λJ J=>bV.C λJ=>bV.t (bV.k (some _) _) _
 | .I t a b,ρ,μ=>bV.d (bP t ρ μ) λJ μ=>bV.B (bP a ρ μ) (bP b ρ μ)
 | .D es,ρ,μ=>bV.d (ku es ρ μ) λJ J=>bV.k _ _
 | .l es,ρ,μ=>bV.d (ku es ρ μ) λJ J=>bV.k _ _
 | .G _ es,ρ,μ=>bV.d (ku es ρ μ) λJ J=>bV.m (bV.k _ _) λJ=>bV.j _
 | .k o _,ρ,μ=>bV.d (bP o ρ μ) λJ J=>bV.t (bV.k _ _) _
 | .h o i,ρ,μ=>bV.d (bP o ρ μ) λJ μ=>bV.d (bP i ρ μ) λJ J=>bV.t (bV.k _ _) _
 | .y o lo hi,ρ,μ=>bV.d (bP o ρ μ) λJ μ=>bV.d (xB lo ρ μ) λJ μ=>bV.d (xB hi ρ μ) λJ J=>bV.k _ _
 | .j _ es,ρ,μ=>bV.d (ku es ρ μ) λJ J=>bV.k _ _
 | .H _ es,ρ,μ=>bV.d (ku es ρ μ) λJ J=>bV.k _ _
 | .n o _ es,ρ,μ=>bV.d (bP o ρ μ) λJ μ=>bV.m (bV.k _ _) λJ=>bV.d (ku es ρ μ) λJ J=>bV.k _ _
 | .w o _ e,ρ,μ=>bV.d (bP o ρ μ) λJ μ=>bV.d (bP e ρ μ) λJ J=>bV.t (bV.k _ _) _
 | .p e,ρ,μ=>bV.d (bP e ρ μ) λJ J=>bV.t (bV.k _ _) _
 | .B e,ρ,μ=>bV.d (bP e ρ μ) λJ J=>bV.C λJ=>bV.t (bV.k _ _) _
 | .u e,ρ,μ=>bV.d (bP e ρ μ) λJ J=>bV.k _ _
 | .s x rg src elt,ρ,μ=>bV.d (bP src ρ μ) λJ μ=>match rg with
  |true=>bV.C λJ=>bV.F (bV.d (xw (λi μ=>bP elt ((x,i)::ρ) μ) _ μ) λJ J=>bV.j _)
  |false=>bV.G λn l=>bV.F (bV.d (uR (λi μ=>bP elt ((x,i)::ρ) μ) n l l μ) λJ J=>bV.j _)
theorem ku:∀(a:List ME) (ρ:Loc) (μ:Hp),bV (xC T call a ρ μ) (gW T call a ρ μ)
 |[],_,_=>bV.j _
 |e::r,ρ,μ=>bV.d (bP e ρ μ) λJ μ=>bV.d (ku r ρ μ) λJ J=>bV.j _
theorem xB:∀(e:Option ME) (ρ:Loc) (μ:Hp),bV (Uh T call e ρ μ) (Bh T call e ρ μ)
 |none,_,_=>bV.j _
 |some e,ρ,μ=>bV.d (bP e ρ μ) λv μ=>bV.j (some v,μ)
end
end
end
section
noncomputable abbrev FLH:=Fl×Loc×Hp
theorem bV.D{f:Loc->Hp->XS}{g:Loc->Hp->Ex}(l:bV x y)(n:∀ρ μ,bV (f ρ μ) (g ρ μ)):bV (oxS x f) (ox y g):=λs v i h p=>
 bsm h λq s1 e c=>match q,e,c with
 |(.a,ρ,μ),e,c=>have q:=n ρ μ s1 v i c p;have r:=l s _ s1 e q.1;⟨r.1,r.2▸q.2⟩
 |(.b u,ρ,μ),e,c=>have q:=bV.j (Fl.b u,ρ,μ) s1 v i c p;have r:=l s _ s1 e q.1;⟨r.1,r.2▸q.2⟩
section
variable{T:Tab}{call:Call}
theorem kJ(t:MT)(v:MV)(ρ:Loc)(μ:Hp):bV (qT T call t v ρ μ) (eX T call t v ρ μ):=match t with
 | .b _=>bV.j _
 | .e o _=>bV.d (bP (T:=T) (call:=call) o ρ μ) λJ J=>bV.t (bV.k _ _) _
 | .d o i=>bV.d (bP (T:=T) (call:=call) o ρ μ) λJ μ=>bV.d (bP (T:=T) (call:=call) i ρ μ) λJ J=>bV.t (bV.k _ _) _
 | .c _=>by
  cases v with
  |e l=>exact bV.w _
  |_=>exact bV.A _
variable{b:Loc->Hp->XS}{b':Loc->Hp->Ex}{st:MV->Loc->Hp->SM (Loc×Hp)}{st':MV->Loc->Hp->Option (Loc×Hp)}(hb:∀ρ μ,bV (b ρ μ) (b' ρ μ))(hs:∀v ρ μ,bV (st v ρ μ) (st' v ρ μ))
include hb
theorem tR{t:Loc->Hp->SM (MV×Hp)}{t':Loc->Hp->Option (MV×Hp)}(a:∀ρ μ,bV (t ρ μ) (t' ρ μ)):∀(n:Nat) (ρ:Loc) (μ:Hp),bV (Ao t b n ρ μ) (qX t' b' n ρ μ)
 |0,_,_=>bV.A _
 |n+1,ρ,μ=>bV.d (a ρ μ) λJ μ=>bV.B (bV.D (hb ρ μ) (tR a n)) (bV.j _)
include hs
theorem sY:∀(l:List MV) (ρ:Loc) (μ:Hp),bV (Mi b st l ρ μ) (qx b' st' l ρ μ)
 |[],_,_=>bV.j _
 |v::r,ρ,μ=>bV.d (hs v ρ μ) λρ μ=>bV.D (hb ρ μ) (sY r)
theorem qy:∀(k:Nat) (l:List MV) (ρ:Loc) (μ:Hp),bV (Bm en b st n all k l ρ μ) (Em en b' st' n all k l ρ μ)
 |_,[],_,_=>bV.E (bV.j _)
 |k,v::r,ρ,μ=>bV.E (bV.d (hs _ ρ μ) λρ μ=>bV.D (hb ρ μ) (qy (k+1) r))
end
section
variable{T:Tab}{call:Call}{fuel:Nat}
mutual
theorem Bi:∀(s:MS) (ρ:Loc) (μ:Hp),bV (exS T call fuel s ρ μ) (bQ T call fuel s ρ μ)
 | .c,_,_=>bV.A _
 | .d e,ρ,μ=>bV.d (bP (T:=T) (call:=call) e ρ μ) λJ J=>bV.j _
 | .f t e,ρ,μ=>bV.d (bP (T:=T) (call:=call) e ρ μ) λv μ=>bV.d (kJ (T:=T) (call:=call) t v ρ μ) λJ J=>bV.j _
 | .j _ _ e,ρ,μ=>bV.m (bV.w _) λJ=>bV.d (bP (T:=T) (call:=call) e ρ μ) λJ J=>bV.m (bV.w _) λJ=>bV.j _
 | .n o _ _ e,ρ,μ=>bV.d (bP (T:=T) (call:=call) o ρ μ) λJ μ=>bV.m (bV.k _ _) λJ=>bV.d (bP (T:=T) (call:=call) e ρ μ) λJ J=>bV.m (bV.w _) λJ=>bV.m (bV.k _ _) λJ=>bV.j _
 | .p e,ρ,μ=>bV.d (bP (T:=T) (call:=call) e ρ μ) λJ J=>bV.j _
 | .m t a b,ρ,μ=>bV.d (bP (T:=T) (call:=call) t ρ μ) λJ μ=>bV.B (iD a ρ μ) (iD b ρ μ)
 | .h t b,ρ,μ=>tR (iD b) (bP (T:=T) (call:=call) t) fuel ρ μ
 | .g t (.b e) b,ρ,μ=>bV.d (bP (T:=T) (call:=call) e ρ μ) λv μ=>by
  cases v with
  |e l=>exact sY (iD b) (kJ (T:=T) (call:=call) t) l ρ μ
  |_=>exact bV.G λn l=>qy (iD b) (kJ (T:=T) (call:=call) t) 0 l ρ μ
 | .g t (.a e) b,ρ,μ=>bV.d (bP (T:=T) (call:=call) e ρ μ) λJ μ=>bV.C λJ=>bV.F (sY (iD b) (kJ (T:=T) (call:=call) t) _ ρ μ)
 | .g t (.c e) b,ρ,μ=>bV.d (bP (T:=T) (call:=call) e ρ μ) λJ μ=>bV.G λn l=>qy (iD b) (kJ (T:=T) (call:=call) t) 0 l ρ μ
 | .l o i,ρ,μ=>bV.d (bP (T:=T) (call:=call) o ρ μ) λJ μ=>bV.d (bP (T:=T) (call:=call) i ρ μ) λJ J=>bV.m (bV.k _ _) λJ=>bV.j _
 | .k o i,ρ,μ=>bV.d (bP (T:=T) (call:=call) o ρ μ) λJ μ=>bV.d (bP (T:=T) (call:=call) i ρ μ) λJ J=>bV.m (bV.k _ _) λJ=>bV.j _
theorem iD:∀(l:List MS) (ρ:Loc) (μ:Hp),bV (qw T call fuel l ρ μ) (aY T call fuel l ρ μ)
 |[],_,_=>bV.j _
 |s::r,ρ,μ=>bV.D (bV.K _ _ (Bi s ρ μ)) (iD r)
end
end
noncomputable def ac0(o:Option (FLH×SS)):Option (MV×Hp×Prop):=match o with
 |some ((.b v,_,μ),⟨[],P⟩)=>some (v,μ,P)
 |some ((.a,_,μ),⟨[],P⟩)=>some (.f,μ,P)
 |_=>none
noncomputable def tJ(k f:Nat)(vs:List MV)(μ:Hp)(sc:List (Nat×rF)):Option (MV×Hp×Prop):=(Tb.h f).bind λF=>(eH F.a vs []).bind λρ=>ac0 (qw Tb (au Tb k) k F.b ρ μ ⟨uq 0 sc,True⟩)
theorem lN{P:Prop}(h:tJ k f vs μ sc=some (r,aG,P))(p:P):au Tb (k+1) f vs μ=some (r,aG):=
 bm h λF c h=>bm h λρ d h=>by
  show((Tb.h f).bind λF=>(eH F.a vs []).bind λρ=>E7 (aY Tb (au Tb k) k F.b ρ μ))=_
  refine c▸?_
  show((eH F.a vs []).bind λρ=>E7 (aY Tb (au Tb k) k F.b ρ μ))=_
  refine d▸?_
  show E7 (aY Tb (au Tb k) k F.b ρ μ)=_
  match e:qw Tb (au Tb k) k F.b ρ μ ⟨uq 0 sc,True⟩,h with
  |none,h=>cases h
  |some ((fl,bt,bC),⟨s1,P1⟩),h=>
   have x:=iD F.b ρ μ _ _ _ e
   cases s1 with
   |cons _ _=>cases fl<;>cases h
   |nil=>cases fl<;>(cases h;rw[(x p).2];rfl)
end
section
set_option genCtorIdx true in
inductive lW|d|c|e (t:Nat)|g|f
set_option genCtorIdx true in
set_option genInjectivity true in
inductive Row|f|e|d (c:lW) (b:Nat) (o:Bool)
noncomputable def lW.a(b:Nat):lW->MV
 | .d=> .e [.c 5,.c b]
 | .c=> .e [.c 3,.c 8,.e [.c b]]
 | .e t=> .e [.c 2,.c t,.e [.c b]]
 | .g=> .e [.c 3,.c 68,.e [.c b]]
 | .f=> .e [.c 4,.c b]
noncomputable def Row.a:Row->MV
 | .f=> .e [.c 7,.c 0]
 | .e=> .e [.c 2,.c 6,.e []]
 | .d c b _=>c.a b
noncomputable def Row.h:Row->MV
 | .d .d _ _=> .c 1
 | .d _ _ _=> .c 2
 |_=> .c 1
noncomputable def Row.i:Row->MV
 | .d _ _ _=> .c 2
 |_=> .c 1
noncomputable def Row.g:Row->MV
 | .f=> .c 1
 | .e=> .c 0
 | .d _ _ true=> .c 1
 | .d _ _ false=> .c 0
noncomputable def bR:List MV:=[.e [.c 1,.c 0],.e [.c 1,.c 1],.e [.c 1,.c 2],.e [.c 1,.c 3],.e [.c 1,.c 4],.e [.c 1,.c 5],.e [.c 1,.c 6],.e [.c 1,.c 7],.e [.c 1,.c 8],.e [.c 1,.c 9],.e [.c 1,.c 10],.e [.c 1,.c 11],.e [.c 1,.c 12],.e [.c 1,.c 13],.e [.c 1,.c 14],.e [.c 1,.c 15],.e [.c 3,.c 69,.e []],.e [.c 3,.c 70,.e []],.e [.c 2,.c 66,.e []],.e [.c 6,.c 0]]
noncomputable def bI:List (MV×MV):=[((.e [.c 1,.c 0]),.c 0),((.e [.c 1,.c 1]),.c 1),((.e [.c 1,.c 2]),.c 2),((.e [.c 1,.c 3]),.c 3),((.e [.c 1,.c 4]),.c 4),((.e [.c 1,.c 5]),.c 5),((.e [.c 1,.c 6]),.c 6),((.e [.c 1,.c 7]),.c 7),((.e [.c 1,.c 8]),.c 8),((.e [.c 1,.c 9]),.c 9),((.e [.c 1,.c 10]),.c 10),((.e [.c 1,.c 11]),.c 11),((.e [.c 1,.c 12]),.c 12),((.e [.c 1,.c 13]),.c 13),((.e [.c 1,.c 14]),.c 14),((.e [.c 1,.c 15]),.c 15),((.e [.c 3,.c 69,.e []]),.c 16),((.e [.c 3,.c 70,.e []]),.c 17),((.e [.c 2,.c 66,.e []]),.c 18),((.e [.c 6,.c 0]),.c 19)]
noncomputable def lZ:List MV:=[.c 1,.c 1,.c 1,.c 1,.c 1,.c 1,.c 1,.c 1,.c 1,.c 1,.c 1,.c 1,.c 1,.c 1,.c 1,.c 1,.c 1,.c 1,.c 1,.c 1]
noncomputable def ua:List MV:=[.c 0,.c 0,.c 0,.c 0,.c 0,.c 0,.c 0,.c 0,.c 0,.c 0,.c 0,.c 0,.c 0,.c 0,.c 0,.c 0,.c 0,.c 0,.c 0,.c 1]
noncomputable def iF:Nat->List Row->List (MV×MV)
 |_,[]=>[]
 |n,r::l=>(r.a,.c n)::iF (n+1) l
structure jJ where
 c:MO
 d:MO
 e:MO
 f:MO
 g:MO
 h:MO
 i:MO
 j:MO
 a:MO
 k:MO
 b:MO
noncomputable def KG(a:jJ)(l:List MV)(n:List (MV×MV))(p m o:List MV)(z:List MO):Hp:=
 a.c::a.d::a.e::a.f::a.g::a.h::a.i::a.j::a.a::a.k::a.b:: .d 86 [(48,.d 12),(310,.d 13),(311,.d 14),(312,.d 15),(45,.d 16)]:: .a l:: .b n:: .a p:: .a m:: .a o::z
noncomputable def KH(a:jJ)(R:List Row)(z:List MO):Hp:=KG a (bR++R.map Row.a) (bI++iF 20 R) (lZ++R.map Row.h) (lZ++R.map Row.i) (ua++R.map Row.g) z
structure St where
 n0:List MV
 nu:List MV
 ah:List MV
 af:List MV
 U:Int
 R:List Row
 al:List MV
 am:List MV
 T:Nat->Int
 Y:Nat->List MV
 N:Nat->List MV
 pf:Nat->List MV
 pl:Nat->List MV
 h:Int
 ae:Int
 A:Int
 J:List MV
 B:List (MV×MV)
 O:Int
 an:MV
 Z:MV
 X:List MV
 ab:List (MV×MV)
 G:List MV
 H:List MV
 a:List MV
 z:List MV
 u:List MV
 L:List (MV×MV)
noncomputable def jn(σ:St):jJ:=⟨.a σ.n0,.a σ.nu,.a [.d 80,.d 111],.a σ.ah,.a [.e [.c 0,.c 0]],.a [.e [.c 0,.c 0],.e [.c 0,.c 0],.e [.c 0,.c 0],.e [.c 0,.c 0],.e [.c 0,.c 0],.e [.c 0,.c 0],.e [.c 0,.c 0],.e [.c 0,.c 0],.e [.c 0,.c 0]],.a [],.d 959 [(258,.e []),(383,.c 8),(130,.d 5),(243,.d 6)],.b [((.g [110,117,109,115]),.d 1),((.g [97,116]),.c σ.U),((.g [112,97,114,97,109,115]),.d 2),((.g [114,101,116,115]),.d 3),((.g [98,111,100,121]),.d 7),((.g [108,101,116,116,101,114,115]),.d 9),((.g [107,116]),.d 11),((.g [107,105,110,100,115]),.d 79),((.g [115,111,109,101]),.d 181)],.a σ.af,.d 980 [(14,.d 11),(155,.d 23),(385,.d 18),(157,.d 19),(386,.d 20),(387,.d 21),(388,.c 0)]⟩
noncomputable def gh(σ:St):List MO:=[
 .a [.f],
 .a [.f],
 .a [.f,.d 82,.d 87,.d 92,.d 97,.d 102,.d 107,.d 113,.d 118,.d 123,.d 128,.d 133,.d 138],
 .b [],
 .a [],
 .a [.f],
 .a [.f,.f,.f,.f,.f,.f,.f,.f,.f,.f,.f,.f,.f,.f,.f,.f,.f,.f,.f,.f,.f,.f,.f,.f,.f,.f,.f,.f,.f,.f,.f,.f,.f,.f,.f,.f,.f,.f,.f,.f,.f,.f,.f,.f,.f,.f,.f,.f,.f,.f,.f,.f,.f,.f,.f,.f,.f,.f,.f,.f,.f,.f,.f,.f,.d 25,.d 36,.d 47,.d 58,.d 69],
 .a [.g [84]],
 .d 917 [(33,.c 64),(156,.g [68]),(5,.c 4),(161,.c 0),(363,.c (-1)),(365,.d 26),(160,.d 27),(366,.d 28),(367,.d 29),(369,.d 30),(157,.d 31),(364,.c 1),(166,.c 0),(370,.c (-1)),(371,.d 32),(372,.d 33),(373,.d 34),(374,.c 0),(335,.c 0)],
 .a [],
 .a [.g [84]],
 .a [.c 0],
 .a [.e [.c 0,.e []]],
 .a [],
 .a [.c 1],
 .a [],
 .a [],
 .a [],
 .a [.g [84]],
 .d 917 [(33,.c 65),(156,.g [69]),(5,.c 4),(161,.c 0),(363,.c (-1)),(365,.d 37),(160,.d 38),(366,.d 39),(367,.d 40),(369,.d 41),(157,.d 42),(364,.c 1),(166,.c 0),(370,.c (-1)),(371,.d 43),(372,.d 44),(373,.d 45),(374,.c 0),(335,.c 0)],
 .a [],
 .a [.g [84]],
 .a [.c 0],
 .a [.e [.c 0,.e []]],
 .a [],
 .a [.c 7],
 .a [],
 .a [],
 .a [],
 .a [.g [84]],
 .d 917 [(33,.c 66),(156,.g [67]),(5,.c 1),(161,.c 0),(363,.c (-1)),(365,.d 48),(160,.d 49),(366,.d 50),(367,.d 51),(369,.d 52),(157,.d 53),(364,.c 1),(166,.c 0),(370,.c (-1)),(371,.d 54),(372,.d 55),(373,.d 56),(374,.c 0),(335,.c 0)],
 .a [],
 .a [.g [84]],
 .a [.c 0],
 .a [.e [.c 0,.e []]],
 .a [],
 .a [.c 2,.c 6,.c 8,.c 12],
 .a [],
 .a [],
 .a [],
 .a [.g [84]],
 .d 917 [(33,.c 67),(156,.g [71]),(5,.c 1),(161,.c 0),(363,.c (-1)),(365,.d 59),(160,.d 60),(366,.d 61),(367,.d 62),(369,.d 63),(157,.d 64),(364,.c 1),(166,.c 0),(370,.c (-1)),(371,.d 65),(372,.d 66),(373,.d 67),(374,.c 0),(335,.c 0)],
 .a [],
 .a [.g [84]],
 .a [.c 0],
 .a [.e [.c 0,.e []]],
 .a [],
 .a [.c 3,.c 4,.c 9,.c 10],
 .a [],
 .a [],
 .a [],
 .a [.g [84]],
 .d 917 [(33,.c 68),(156,.g [83]),(5,.c 2),(161,.c 0),(363,.c (-1)),(365,.d 70),(160,.d 71),(366,.d 72),(367,.d 73),(369,.d 74),(157,.d 75),(364,.c 1),(166,.c 0),(370,.c (-1)),(371,.d 76),(372,.d 77),(373,.d 78),(374,.c 0),(335,.c 0)],
 .a [],
 .a [.g [84]],
 .a [.c 0],
 .a [.e [.c 0,.e []]],
 .a [],
 .a [.c 5,.c 11],
 .a [],
 .a [],
 .a [],
 .b [((.g [118]),.c 0),((.g [98]),.c 1),((.g [99]),.c 2),((.g [121]),.c 3),((.g [89]),.c 4),((.g [104]),.c 5),((.g [72]),.c 6),((.g [105]),.c 7),((.g [117]),.c 8),((.g [108]),.c 9),((.g [76]),.c 10),((.g [110]),.c 11),((.g [111]),.c 12),((.g [115]),.c 13),((.g [112]),.c 16),((.g [101]),.c 17),((.g [107]),.c 18)],
 .a σ.al,
 .a (σ.pl 1),
 .d 938 [(131,.c 1),(219,.c 64),(156,.g [73,110,118,111,107,101]),(375,.c 6),(161,.c 0),(376,.c 0),(377,.d 83),(378,.d 84),(158,.c (σ.T 1)),(160,.e (σ.Y 1)),(379,.e (σ.N 1)),(381,.e (σ.pf 1)),(123,.f),(382,.c 0)],
 .a [],
 .a [],
 .a (σ.N 1),
 .a (σ.pl 2),
 .d 938 [(131,.c 2),(219,.c 66),(156,.g [97]),(375,.c 6),(161,.c 1),(376,.c 0),(377,.d 88),(378,.d 89),(158,.c (σ.T 2)),(160,.e (σ.Y 2)),(379,.e (σ.N 2)),(381,.e (σ.pf 2)),(123,.f),(382,.c 0)],
 .a [],
 .a [],
 .a (σ.N 2),
 .a (σ.pl 3),
 .d 938 [(131,.c 3),(219,.c 67),(156,.g [98]),(375,.c 6),(161,.c 1),(376,.c 0),(377,.d 93),(378,.d 94),(158,.c (σ.T 3)),(160,.e (σ.Y 3)),(379,.e (σ.N 3)),(381,.e (σ.pf 3)),(123,.f),(382,.c 0)],
 .a [],
 .a [],
 .a (σ.N 3),
 .a (σ.pl 4),
 .d 938 [(131,.c 4),(219,.c 67),(156,.g [99]),(375,.c 6),(161,.c 0),(376,.c 0),(377,.d 98),(378,.d 99),(158,.c (σ.T 4)),(160,.e (σ.Y 4)),(379,.e (σ.N 4)),(381,.e (σ.pf 4)),(123,.f),(382,.c 0)],
 .a [],
 .a [],
 .a (σ.N 4),
 .a (σ.pl 5),
 .d 938 [(131,.c 5),(219,.c 68),(156,.g [100]),(375,.c 6),(161,.c 0),(376,.c 0),(377,.d 103),(378,.d 104),(158,.c (σ.T 5)),(160,.e (σ.Y 5)),(379,.e (σ.N 5)),(381,.e (σ.pf 5)),(123,.f),(382,.c 0)],
 .a [],
 .a [],
 .a (σ.N 5),
 .a (σ.pl 6),
 .d 938 [(131,.c 6),(219,.c 66),(156,.g [101]),(375,.c 6),(161,.c 0),(376,.c 0),(377,.d 108),(378,.d 109),(158,.c (σ.T 6)),(160,.e (σ.Y 6)),(379,.e (σ.N 6)),(381,.e (σ.pf 6)),(123,.f),(382,.c 0)],
 .a [],
 .a [],
 .a (σ.N 6),
 .a σ.am,
 .a (σ.pl 7),
 .d 938 [(131,.c 7),(219,.c 65),(156,.g [73,110,118,111,107,101]),(375,.c 6),(161,.c 0),(376,.c 0),(377,.d 114),(378,.d 115),(158,.c (σ.T 7)),(160,.e (σ.Y 7)),(379,.e (σ.N 7)),(381,.e (σ.pf 7)),(123,.f),(382,.c 0)],
 .a [],
 .a [],
 .a (σ.N 7),
 .a (σ.pl 8),
 .d 938 [(131,.c 8),(219,.c 66),(156,.g [97]),(375,.c 6),(161,.c 1),(376,.c 0),(377,.d 119),(378,.d 120),(158,.c (σ.T 8)),(160,.e (σ.Y 8)),(379,.e (σ.N 8)),(381,.e (σ.pf 8)),(123,.f),(382,.c 0)],
 .a [],
 .a [],
 .a (σ.N 8),
 .a (σ.pl 9),
 .d 938 [(131,.c 9),(219,.c 67),(156,.g [98]),(375,.c 6),(161,.c 1),(376,.c 0),(377,.d 124),(378,.d 125),(158,.c (σ.T 9)),(160,.e (σ.Y 9)),(379,.e (σ.N 9)),(381,.e (σ.pf 9)),(123,.f),(382,.c 0)],
 .a [],
 .a [],
 .a (σ.N 9),
 .a (σ.pl 10),
 .d 938 [(131,.c 10),(219,.c 67),(156,.g [99]),(375,.c 6),(161,.c 0),(376,.c 0),(377,.d 129),(378,.d 130),(158,.c (σ.T 10)),(160,.e (σ.Y 10)),(379,.e (σ.N 10)),(381,.e (σ.pf 10)),(123,.f),(382,.c 0)],
 .a [],
 .a [],
 .a (σ.N 10),
 .a (σ.pl 11),
 .d 938 [(131,.c 11),(219,.c 68),(156,.g [100]),(375,.c 6),(161,.c 0),(376,.c 0),(377,.d 134),(378,.d 135),(158,.c (σ.T 11)),(160,.e (σ.Y 11)),(379,.e (σ.N 11)),(381,.e (σ.pf 11)),(123,.f),(382,.c 0)],
 .a [],
 .a [],
 .a (σ.N 11),
 .a (σ.pl 12),
 .d 938 [(131,.c 12),(219,.c 66),(156,.g [101]),(375,.c 6),(161,.c 0),(376,.c 0),(377,.d 139),(378,.d 140),(158,.c (σ.T 12)),(160,.e (σ.Y 12)),(379,.e (σ.N 12)),(381,.e (σ.pf 12)),(123,.f),(382,.c 0)],
 .a [],
 .a [],
 .a (σ.N 12),
 .d 303 [(69,.d 143),(70,.d 144),(66,.c σ.h),(324,.c 100000),(327,.d 145),(325,.c 3),(73,.c σ.ae),(328,.c 25001),(329,.d 146),(330,.d 147),(331,.c 0),(67,.c σ.A)],
 .a σ.J,
 .b σ.B,
 .b [],
 .a [],
 .a [],
 .d 786 [(153,.d 10),(14,.d 11),(61,.d 142),(340,.d 149),(48,.d 150),(346,.d 151),(114,.d 152),(306,.d 153),(329,.d 154),(117,.d 155),(118,.d 156),(149,.d 157),(347,.d 158),(348,.d 159),(349,.d 160),(350,.d 161),(104,.c σ.O),(132,.d 162),(106,.d 163),(109,.d 164),(112,.d 165),(351,.d 166),(352,.d 167),(353,.d 168),(172,.d 169),(121,σ.an),(120,σ.Z),(354,.d 170),(355,.f),(356,.d 171),(207,.d 172),(304,.d 175),(146,.d 174),(125,.d 176)],
 .b [],
 .b [],
 .b [],
 .b [],
 .b [((.c 17),.c 5)],
 .b [],
 .a σ.X,
 .b σ.ab,
 .b σ.L,
 .b [],
 .b [],
 .b [],
 .b [],
 .a σ.G,
 .a σ.H,
 .a σ.a,
 .a σ.z,
 .a [],
 .b [],
 .a [],
 .a σ.u,
 .a [],
 .d 395 [(61,.d 142),(117,.d 156),(149,.d 157)],
 .d 480 [],
 .d 564 [],
 .d 536 [],
 .d 592 [],
 .d 1092 [],
 .a [],
 .d 282 [(71,.c 16),(62,.c 18),(63,.d 177),(322,.c 0),(72,.c 3),(68,.c 1)],
 .a [.e [.c 8,.g [120]]],
 .d 282 [(71,.c 19),(62,.c 13),(63,.d 179),(322,.c 0),(72,.c 3),(68,.c 2)],
 .a [(.c 0),(.c 16),(.c 19)]]
noncomputable def HS(σ:St)(δ:List MO):Hp:=KH (jn σ) σ.R (gh σ++δ)
end
section
section
variable{k f:Nat}{vs:List MV}{μ aG:Hp}{r:MV}{o1 o2 o3 o4 o5 o6 o7 o8 o9 oa oq oc od oe:Prop}
theorem nD(h:tJ k f vs μ []=some (r,aG,True)):au Tb (k+1) f vs μ=some (r,aG):=lN h trivial
theorem gN(sc:List (Nat×rF))(p1:o1)(h:tJ k f vs μ sc=some (r,aG,True/\o1)):au Tb (k+1) f vs μ=some (r,aG):=lN h ⟨trivial,p1⟩
theorem qP(sc:List (Nat×rF))(p1:o1)(p2:o2)(h:tJ k f vs μ sc=some (r,aG,(True/\o1)/\o2)):au Tb (k+1) f vs μ=some (r,aG):=lN h ⟨⟨trivial,p1⟩,p2⟩
theorem qQ(sc:List (Nat×rF))(p1:o1)(p2:o2)(i:o3)(h:tJ k f vs μ sc=some (r,aG,((True/\o1)/\o2)/\o3)):au Tb (k+1) f vs μ=some (r,aG):=lN h ⟨⟨⟨trivial,p1⟩,p2⟩,i⟩
theorem pY{P:Prop}(sc:List (Nat×rF))(p:P)(h:tJ k f vs μ sc=some (r,aG,P)):au Tb (k+1) f vs μ=some (r,aG):=lN h p
theorem AA{p q:Prop}(x:p)(y:q):p/\q:=⟨x,y⟩
end
structure Ob where
 a:rF
 P:Prop
 h:P
section
variable{x:Option MV}{y:Option (MV×Hp)}{z:Option Hp}{b:Option Bool}{c:Option K1}{d:Option (List (MV×MV))}{v:MV}{μ:Hp}{e:Bool}{q:K1}{u:List (MV×MV)}
noncomputable def ov(h:x=some v):Ob:=⟨.v v,_,h⟩
noncomputable def ow(h:y=some (v,μ)):Ob:=⟨.a v μ,_,h⟩
noncomputable def oh(h:z=some μ):Ob:=⟨.h μ,_,h⟩
noncomputable def oq(h:b=some e):Ob:=⟨.b e,_,h⟩
noncomputable def oc(h:c=some q):Ob:=⟨.c q,_,h⟩
noncomputable def os{w:Option (Fl×Loc×Hp)}{s:Fl×Loc×Hp}(h:w=some s):Ob:=⟨.s s,_,h⟩
end
noncomputable def RB:List (Nat×Ob)->List (Nat×rF)
 |[]=>[]
 |(n,o)::r=>(n,o.a)::RB r
noncomputable def WL:List (Nat×Ob)->Prop->Prop
 |[],P=>P
 |(_,o)::r,P=>WL r (P/\o.P)
theorem tE:∀(l:List (Nat×Ob)) {P:Prop},P->WL l P
 |[],_,p=>p
 |(_,o)::r,_,p=>tE r ⟨p,o.h⟩
section
variable{k f:Nat}{vs:List MV}{μ aG:Hp}{r:MV}{T:Tab}{cl:Call}{fuel:Nat}{ρ ρ':Loc}{v:MV}{s:MS}
theorem bu(l:List (Nat×Ob))(h:tJ k f vs μ (RB l)=some (r,aG,WL l True)):au Tb (k+1) f vs μ=some (r,aG):=lN h (tE l trivial)
end
section
variable{cl:Call}{μ:Hp}{n:Nat}{l:List MV}{d:List (MV×MV)}{v key:MV}
theorem j1{i:Type}{c:Prop}[Decidable c]{x:Option i}(h:c):gd c x=x:=if_pos h
theorem UG{h:Type}{i:Nat->List MV->Option h}{m:Nat->List (MV×MV)->Option h}{j:Nat->Nat->List (Nat×MV)->Option h}(g:μ[n]?=some (.a l)):xQ μ (.d n) i m j=i n l:=by unfold xQ;dsimp only;rw[g]
theorem Mw{h:Type}{m:Nat->List MV->Option h}{i:Nat->List (MV×MV)->Option h}{j:Nat->Nat->List (Nat×MV)->Option h}(g:μ[n]?=some (.b d)):xQ μ (.d n) m i j=i n d:=by unfold xQ;dsimp only;rw[g]
theorem hpI{h:Type}{j:Nat->List MV->Option h}{m:Nat->List (MV×MV)->Option h}{i:Nat->Nat->List (Nat×MV)->Option h}(g:μ[n]?=some (.d c fs)):xQ μ (.d n) j m i=i n c fs:=by unfold xQ;dsimp only;rw[g]
theorem Rl{h:Type}(f:Int->Option h):iv (.c i) f=f i:=rfl
theorem v9{h:Type}{f:Nat->List MV->Option h}(g:μ[n]?=some (.a l)):rv μ (.d n) f=f n l:=UG g
theorem dcI{h:Type}{f:Nat->List (MV×MV)->Option h}(g:μ[n]?=some (.b d)):dcM μ (.d n) f=f n d:=Mw g
theorem WA{h:Type}{f:Nat->Nat->List (Nat×MV)->Option h}(g:μ[n]?=some (.d c fs)):inM μ (.d n) f=f n c fs:=hpI g
theorem j7{i j:Type}{o:Option (i×Hp)}{f:i->Hp->Option j}{v:i}(h:o=some (v,μ)):ob o f=f v μ:=h▸rfl
theorem NG{k:Loc->Hp->Ex}(h:o=some (.a,ρ,μ)):ox o k=k ρ μ:=h▸rfl
theorem oxR{k:Loc->Hp->Ex}(h:o=some (.b v,ρ,μ)):ox o k=some (.b v,ρ,μ):=by rw[h];rfl
theorem D5{i j:Type}{o:Option i}{f:i->Option j}{v:i}(h:o=some v):o.bind f=f v:=h▸rfl
theorem mI{i j:Type}{o:Option i}{f:i->j}{v:i}(h:o=some v):o.map f=some (f v):=h▸rfl
theorem C_{h:Type}{x:Option h}(g:μ[n]?=some (.a l)):wy n l μ x=x:=(v9 g).trans (j1 ((kq _ _).mpr rfl))
theorem gG(g:μ[n]?=some (.a l))(h:l.length<=bz):dj cl μ (.d n) [v] .a=some (.f,μ.set n (.a (l++[v]))):=(v9 g).trans (j1 h)
theorem lh(g:μ[n]?=some (.a l))(h:l.length<=bz):mj μ (.d n)=some (.c (l.length:Nat)):=(v9 g).trans (j1 h)
theorem JJ{i:Nat}(j:l[i]?=some v)(h:i<2^62):zT l (i:Int)=some v:=(if_pos (eF _)).trans ((j1 (cv.mpr h)).trans j)
theorem gj{i:Nat}(g:μ[n]?=some (.a l))(j:l[i]?=some v)(h:i<2^62):ez μ (.d n) (.c (i:Int))=some v:=by
 delta ez;exact(UG g).trans ((Rl _).trans (JJ j h))
theorem vU(g:μ[n]?=some (.b d))(h:eL d key=true):dj cl μ (.d n) [key,v] .b=some ((cR d key).getD v,μ):=(dcI g).trans (j1 h)
theorem vT(g:μ[n]?=some (.b d))(h:eL d key=true):dj cl μ (.d n) [key] .b=some ((cR d key).getD .f,μ):=(dcI g).trans (j1 h)
theorem mq(g:μ[n]?=some (.b d))(h:eL d key=true)(i:d.length<=bz):pZ μ (.d n) key v=some (μ.set n (.b (iT d key v))):=(Mw g).trans (j1 ⟨h,i⟩)
end
section
variable{T:Tab}{cl:Call}{F q a g x:Nat}{o e:ME}{es:List ME}{ρ:Loc}{μ bC eh:Hp}{v w:MV}{vs:List MV}
theorem cI(h:bx ρ x=some v)(μ:Hp):aO T cl (.d x) ρ μ=some (v,μ):=mI h
theorem L_(i:aO T cl o ρ μ=some (.d q,μ))(h:gI T μ (.d q) a=some (.c g))(j:gW T cl es ρ μ=some (vs,bC)):aO T cl (.n o a es) ρ μ=cl g (.d q::vs) bC:=(j7 i).trans ((D5 h).trans (j7 j))
theorem rZ(i:aO T cl o ρ μ=some (v,bC))(h:iu T bC v a=some w):aO T cl (.k o a) ρ μ=some (w,bC):=(j7 i).trans (mI h)
theorem jM(j:aO T cl o ρ μ=some (v,μ))(i:aO T cl e ρ μ=some (k,bC))(h:ez bC v k=some w):aO T cl (.h o e) ρ μ=some (w,bC):=(j7 j).trans ((j7 i).trans (mI h))
theorem bW(h:aO T cl e ρ μ=some (v,bC))(g:gW T cl es ρ bC=some (vs,eh)):gW T cl (e::es) ρ μ=some (v::vs,eh):=(j7 h).trans (j7 g)
theorem vO(μ:Hp):gW T cl [] ρ μ=some ([],μ):=rfl
theorem n8(h:aO T cl e ρ μ=some (v,bC)):gW T cl [e] ρ μ=some ([v],bC):=bW h (vO _)
theorem kR(h:gW T cl es ρ μ=some (vs,bC)):aO T cl (.j g es) ρ μ=cl g vs bC:=j7 h
theorem sR(i:gW T cl es ρ μ=some (vs,bC))(h:vs.length<=1000):aO T cl (.l es) ρ μ=some (.e vs,bC):=(j7 i).trans (j1 h)
theorem nz(m:aO T cl o ρ μ=some (.d q,μ))(j:gI T μ (.d q) 0=some .a)(i:aO T cl e ρ μ=some (v,bC))(h:dj cl bC (.d q) [v] .a=some (.f,eh)):bQ T cl F (.d (.n o 0 [e])) ρ μ=some (.a,ρ,eh):=
 j7 ((j7 m).trans ((D5 j).trans ((j7 (n8 i)).trans h)))
theorem dn(v:MV)(μ:Hp):aO T cl (.g v) ρ μ=some (v,μ):=rfl
end
noncomputable def ar{h:Type}(l:List h)(x:h):List h:=l++[x]
theorem fP(h:n<=1000000):n<=bz:=h
end
section
noncomputable abbrev b9(R:List Row):List MV:=bR++R.map Row.a
noncomputable abbrev fA(R:List Row):List (MV×MV):=bI++iF 20 R
noncomputable abbrev gZ(R:List Row):List MV:=lZ++R.map Row.h
noncomputable abbrev g7(R:List Row):List MV:=lZ++R.map Row.i
noncomputable abbrev fW(R:List Row):List MV:=ua++R.map Row.g
section
variable{A:List MV}{R:List Row}{f:Row->MV}{j b n:Nat}{row:Row}
theorem Cb(h:A.length=20):(A++R.map f).length=R.length+20:=by rw[ly,ay,h,tV]
theorem Jb(h:A.length=20)(e:R[j]?=some row):(A++R.map f)[j+20]?=some (f row):=by
 rw[cq (h▸eR ..),h,Nat.add_sub_cancel,aL,e];rfl
theorem zJ(e:A[b]?=some v):(A++x)[b]?=some v:=(aJ (ax.mp e).1).trans e
theorem J2{c:Type}{l:List c}{g:Nat->c}(h:l=(fO n).map g)(hb:b<n):l[b]?=some (g b):=by
 rw[h,aL,qg hb];rfl
end
theorem gQ(R:List Row):(b9 R).length=R.length+20:=Cb rfl
theorem wZ(R:List Row):(gZ R).length=R.length+20:=Cb rfl
theorem w9(R:List Row):(g7 R).length=R.length+20:=Cb rfl
theorem w8(R:List Row):(fW R).length=R.length+20:=Cb rfl
theorem IX:∀(n:Nat) (R:List Row),(iF n R).length=R.length
 |_,[]=>rfl
 |n,_::l=>by simp[iF,IX (n+1) l]
theorem w7(R:List Row):(fA R).length=R.length+20:=ly.trans ((congrArg _ (IX ..)).trans (tV 20 _))
theorem gf(h:R[j]?=some row):(b9 R)[j+20]?=some row.a:=Jb rfl h
theorem mZ{c:Type}{A x y:List c}{n:Nat}{v:c}(h:(A++x)[n]?=some v):(A++(x++y))[n]?=some v:=by
 rw[<-cC,aJ (ax.mp h).1];exact h
structure rG (R:List Row) (b:Nat) (o:Bool):Prop where
 g:∃s l,(b9 R)[b]?=some (.e (.c s::l))/\(s=1\/s=2\/s=3\/s=6\/s=7)
 p:b≠0/\b≠14
 i:(gZ R)[b]?=some (.c 1)
 m:(g7 R)[b]?=some (.c 1)
 c:(fW R)[b]?=some (.c (if o then 1 else 0))
 e:b<1000000
theorem rG.d{R:List Row}{b:Nat}{o:Bool}(h:rG R b o)(x:List Row):rG (R++x) b o:=by
 obtain⟨⟨s,l,w,t⟩,q,B,y,v,u⟩:=h
 refine⟨⟨s,l,?_,t⟩,q,?_,?_,?_,u⟩
 ·rw[b9,d9];exact mZ w
 ·rw[gZ,d9];exact mZ B
 ·rw[g7,d9];exact mZ y
 ·rw[fW,d9];exact mZ v
noncomputable def UA:MV->Int×List MV
 | .e (.c s::l)=>(s,l)
 |_=>(0,[])
theorem nK(R:List Row)(b:Nat)(hb:b<20)(h:b≠0)(d:b≠14):rG R b (b==19):=by
 obtain⟨c,rfl⟩:=Nat.exists_eq_succ_of_ne_zero h
 have i:c<bR.tail.length:=Nat.lt_of_succ_lt_succ hb
 have m:=iJ i
 have o:lZ[c.succ]?=some (.c 1):=J2 (g:=λJ=>MV.c 1) ⋯ hb
 exact⟨⟨_,_,zJ (b:=c+1) (A:=bR) ((aN i).trans (congrArg some (mC.mp (show bR.tail.map id=bR.tail.map λv=> .e (.c (UA v).1::(UA v).2) by kernel_rfl) _ m))),of_decide_eq_true (aT.mp (show(bR.tail.all λv=>decide ((UA v).1=1\/(UA v).1=2\/(UA v).1=3\/(UA v).1=6\/(UA v).1=7))=true by kernel_rfl) _ m)⟩,⟨h,d⟩,zJ o,zJ o,zJ (A:=ua) (J2 (n:=20) (g:=λb=>MV.c (if b==19 then 1 else 0)) ⋯ hb),eK hb⟩
theorem y5(h:R[j]?=some row)(d:R.length<=100000)(c:row= .f\/row= .e):rG R (j+20) (match row with| .f=>true|_=>false):=by
 refine⟨?_,adw,?_,?_,?_,gy [_,_] (V0.B+20) 1000000 (.o V0.A 100000 (.o (V0.B+1) V0.A .z)) rfl d ((ax.mp h).1)⟩
 ·rcases c with rfl|rfl
  ·exact⟨7,_,gf h,by decide⟩
  ·exact⟨2,_,gf h,by decide⟩
 ·rw[gZ,Jb rfl h];rcases c with rfl|rfl<;>rfl
 ·rw[g7,Jb rfl h];rcases c with rfl|rfl<;>rfl
 ·rw[fW,Jb rfl h];rcases c with rfl|rfl<;>rfl
section
variable{k n:Nat}{a:jJ}{R:List Row}{z:List MO}{r:MV}
theorem Vl(h:(b9 R)[n]?=some r)(g:R.length<=100000):au Tb (k+1) 76 [.d 11,.c (n:Int)] (KH a R z)=some (r,KH a R z):=by
 have e:n<R.length+20:=by have:=(ax.mp h).1;rw[gQ] at this;exact this
 have i:ct (KH a R z) .f (.c (n:Int)) (.c ((b9 R).length:Nat))=some false:=by
  show some (decide ((((b9 R).length:Nat):Int)<=(n:Int)))=_
  rw[gQ,decide_eq_false (adv e)]
 have l:ez (KH a R z) (.d 12) (.c (n:Int))=some r:=gj rfl h (aD e (eK (aM g _)))
 exact qQ [(3,.v (.c ((b9 R).length:Nat))),(4,.b false),(7,.v r)] (lh rfl (fP (by rw[gQ];exact(eK (aM g _)))):mj (KH a R z) (.d 12)=some (.c ((b9 R).length:Nat))) i l ⋯
theorem mJ(h:(b9 R)[n]?=some r)(e:R.length<=100000):dj (au Tb (k+1)) (KH a R z) (.d 11) [.c (n:Int)] (.c 76)=some (r,KH a R z):=Vl h e
theorem nB(h:n≠c):ct μ .a (.c (n:Int)) (.c (c:Int))=some false:=congrArg some (beq_eq_false_iff_ne.mpr λe=>h (W7 e))
theorem b5{P:Int->Prop}(h:s=1\/s=2\/s=3\/s=6\/s=7)(a1:P 1)(a2:P 2)(a3:P 3)(c:P 6)(d:P 7):P s:=by
 rcases h with rfl|rfl|rfl|rfl|rfl<;>assumption
theorem pQ(B:rG R n o)(t:R.length<=100000):au Tb (k+2) 139 [.d 11,.c (n:Int)] (KH a R z)=some (.h true,KH a R z):=by
 obtain⟨⟨s,l,u,q⟩,⟨v,p⟩,_⟩:=B
 have m:ct (KH a R z) .a (.c (n:Int)) (.c ((0:Nat):Int))=some false:=nB v
 have i:ct (KH a R z) .a (.c (n:Int)) (.c ((14:Nat):Int))=some false:=nB p
 have g:=mJ (k:=k) (a:=a) (z:=z) u t
 exact b5 (P:=λs=>dj (au Tb (k+1)) (KH a R z) (.d 11) [.c (n:Int)] (.c 76)=some (.e (.c s::l),KH a R z)->_) q (λg=>qQ [(0,.b false),(2,.b false),(5,.a (.e (.c 1::l)) (KH a R z))] m i g ⋯) (λg=>qQ [(0,.b false),(2,.b false),(5,.a (.e (.c 2::l)) (KH a R z))] m i g ⋯) (λg=>qQ [(0,.b false),(2,.b false),(5,.a (.e (.c 3::l)) (KH a R z))] m i g ⋯) (λg=>qQ [(0,.b false),(2,.b false),(5,.a (.e (.c 6::l)) (KH a R z))] m i g ⋯) (λg=>qQ [(0,.b false),(2,.b false),(5,.a (.e (.c 7::l)) (KH a R z))] m i g ⋯) g
theorem ub(B:rG R n o)(g:R.length<=100000):au Tb (k+3) 132 [.d 11,.e [.c (n:Int)]] (KH a R z)=some (.f,KH a R z):=
 gN [(0,.a (.h true) (KH a R z))] (pQ (k:=k) (a:=a) (z:=z) B g) ⋯
inductive iO:lW->Prop
 |a:iO .d
 |b:iO .c
 |d:iO (.e 64)
 |e:iO (.e 65)
 |g:iO (.e 67)
 |f:iO .g
 |c:iO .f
theorem hH{o:Bool}{c:lW}(h:c= .c\/c= .g\/c= .e 64\/c= .e 65\/c= .e 67)(B:rG R n o)(i:R.length<=100000):au Tb (k+4) 125 [.d 11,c.a n] (KH a R z)=some (.f,KH a R z):=by
 rcases h with rfl|rfl|rfl|rfl|rfl
 all_goals exact gN [(7,.a .f (KH a R z))] (ub (k:=k) (a:=a) (z:=z) B i) ⋯
theorem vF(t:iO c)(B:rG R n o)(m:R.length<=100000):au Tb (k+5) 118 [.d 11,c.a n] (KH a R z)=some (.f,KH a R z):=by
 refine m8 B.g λs l q u=>?_
 have i:=mJ (k:=k+3) (a:=a) (z:=z) q m
 have p:=pQ (k:=k+2) (a:=a) (z:=z) B m
 cases t with
 |a=>exact qP [(16,.a (.e (.c s::l)) (KH a R z)),(30,.a (.h true) (KH a R z))] i p ⋯
 |c=>exact qP [(16,.a (.e (.c s::l)) (KH a R z)),(30,.a (.h true) (KH a R z))] i p ⋯
 |b=>exact qP [(16,.a (.e (.c s::l)) (KH a R z)),(21,.a .f (KH a R z))] i (hH (k:=k) (a:=a) (z:=z) (.inl rfl) B m) ⋯
 |f=>exact qP [(16,.a (.e (.c s::l)) (KH a R z)),(21,.a .f (KH a R z))] i (hH (k:=k) (a:=a) (z:=z) (.inr (.inl rfl)) B m) ⋯
 |d=>exact qP [(16,.a (.e (.c s::l)) (KH a R z)),(20,.a .f (KH a R z))] i (hH (k:=k) (a:=a) (z:=z) (.inr (.inr (.inl rfl))) B m) ⋯
 |e=>exact qP [(16,.a (.e (.c s::l)) (KH a R z)),(20,.a .f (KH a R z))] i (hH (k:=k) (a:=a) (z:=z) (.inr (.inr (.inr (.inl rfl)))) B m) ⋯
 |g=>exact qP [(16,.a (.e (.c s::l)) (KH a R z)),(20,.a .f (KH a R z))] i (hH (k:=k) (a:=a) (z:=z) (.inr (.inr (.inr (.inr rfl)))) B m) ⋯
end
end
section
theorem fe(h:a≠b):MV.k a b=false:=by
 cases e:MV.k a b with
 |false=>rfl
 |true=>exact absurd ((jr a b).mp e) h
theorem hO(a:MV):MV.k a a=true:=(jr a a).mpr rfl
theorem nN:∀{l r:List (MV×MV)},(∀p∈l,p.1≠k)->cR (l++r) k=cR r k
 |[],_,_=>rfl
 |(a,v)::l,r,h=>by
  show(if MV.k a k then some v else cR (l++r) k)=_
  exact(fe (h _ (.head _)))▸(nN λp b=>h p (.tail _ b))
theorem uU:∀{l:List (MV×MV)},(∀p∈l,p.1≠k)->iT l k v=l++[(k,v)]
 |[],_=>rfl
 |(a,x)::l,h=>by
  show(if MV.k a k then(a,v)::l else(a,x)::iT l k v)=_
  refine(fe (h _ (.head _)))▸(uU λp b=>h p (.tail _ b))▸?_;rfl
theorem Bx:∀(n:Nat) (R:List Row),(iF n R).map (·.1)=R.map Row.a
 |_,[]=>rfl
 |n,r::l=>by show _::_=_::_;rw[Bx (n+1) l]
theorem Rk(h:k∉R.map Row.a):∀p∈iF n R,p.1≠k:=λp b e=>h ((Bx n R)▸e▸(gL b))
theorem Bc:∀{n j:Nat} {R:List Row} {row:Row},(R.map Row.a).Nodup->R[j]?=some row->cR (iF n R) row.a=some (.c ((j+n:Nat):Int))
 |n,_,[],_,_,h=>by cases h
 |n,0,r::l,row,_,h=>by
  refine j8 h ?_
  show(if MV.k r.a r.a then some (MV.c n) else _)=_
  rw[hO,cP];rfl
 |n,j+1,r::l,row,hn,h=>by
  have b:=VU.mp hn
  show(if MV.k r.a row.a then some (MV.c n) else cR (iF (n+1) l) row.a)=_
  have d:r.a≠row.a:=λe=>b.1 (e▸(gL (aU h)))
  rw[fe d,if_neg (by simp),Bc (n:=n+1) b.2 h,show j+(n+1)=j+1+n from(aQ (bN [_,_] (V0.A+(V0.B+1)) (V0.A+1+V0.B) .z rfl) (bN [_,_] (V0.A+1+V0.B) (V0.A+(V0.B+1)) .z rfl))]
noncomputable def I7:MV->Bool
 | .e (.c s:: .c t::_)=>s==1||s==6||(s==3&&(t==69||t==70))||(s==2&&t==66)
 |_=>false
theorem Ly:(bI.all λp=>I7 p.1)=true:=⋯
inductive iC:Row->Prop
 |v:iC .f
 |c:iC .e
 |a {c:lW} (h:iO c) (b:Nat) (o:Bool):iC (.d c b o)
theorem iC.e(h:iC row):I7 row.a=false:=by
 cases h with
 |v=>rfl
 |c=>rfl
 |a h b o=>cases h<;>rfl
theorem iC.d(h:iC row):eE row.a=3:=by
 cases h with
 |v=>rfl
 |c=>rfl
 |a h b o=>cases h<;>rfl
theorem Hq(h:iC row):∀p∈bI,p.1≠row.a:=λp b e=>by
 have:=aT.mp Ly p b
 replace this:=h.e▸e▸this;cases this
structure KW (R:List Row):Prop where
 d:(R.map Row.a).Nodup
 g:∀row∈R,iC row
 l:∀c b o,Row.d c b o∈R->rG R b o
theorem Lz:(bI.all λp=>eE p.1==3)=true:=⋯
theorem By:∀{n:Nat} {R:List Row},(∀row∈R,iC row)->∀p∈iF n R,eE p.1=3
 |_,[],_,_,hp=>by cases hp
 |n,r::l,h,p,hp=>by
  rcases cw.mp hp with rfl|hp
  ·exact(h r (.head _)).d
  ·exact By (n:=n+1) (λx a=>h x (.tail _ a)) p hp
theorem ni(W:KW R)(h:iC row):eL (fA R) row.a=true:=by
 unfold eL
 rw[h.d]
 simp only[bO,aT]
 refine⟨rfl,λp b=>?_⟩
 rcases cZ.mp b with q|q
 ·exact aT.mp Lz p q
 ·rw[By W.g p q];rfl
theorem HR(W:KW R)(h:R[j]?=some row):cR (fA R) row.a=some (.c ((j+20:Nat):Int)):=by
 rw[fA,nN (Hq (W.g _ (aU h))),Bc W.d h]
theorem HQ(b:iC row)(h:row.a∉R.map Row.a):cR (fA R) row.a=none:=by
 rw[fA,nN (Hq b)]
 have:=nN (r:=[]) (Rk (n:=20) h)
 rw[d8] at this
 exact this
theorem IW:∀(n:Nat) (R:List Row) (row:Row),iF n (R++[row])=iF n R++[(row.a,.c ((n+R.length:Nat):Int))]
 |n,[],row=>rfl
 |n,r::l,row=>by
  show _::iF (n+1) (l++[row])=_
  rw[IW (n+1) l row,show n+1+l.length=n+(r::l).length from by simp;exact(aQ (bN [_,_] (V0.A+1+V0.B) (V0.A+(V0.B+1)) .z rfl) (bN [_,_] (V0.A+(V0.B+1)) (V0.A+1+V0.B) .z rfl))];rfl
theorem xy(d:iC row)(h:row.a∉R.map Row.a):iT (fA R) row.a (.c ((R.length+20:Nat):Int))=fA (R++[row]):=by
 rw[fA,uU (λp b=>by
  rcases cZ.mp b with q|q
  ·exact Hq d p q
  ·exact Rk h p q),fA,IW,cC,tV]
theorem KW.m(W:KW R)(k:iC row)(h:row.a∉R.map Row.a)(hb:∀c b o,row= .d c b o->rG R b o):KW (R++[row]):=by
 refine⟨?_,λx i=>?_,λc b o i=>?_⟩
 ·rw[d9,mD]
  refine⟨W.d,by simp,λx i y j e=>?_⟩
  rw[dX,ju,bK] at j
  rw[e,j] at i
  exact h i
 ·rcases cZ.mp i with q|q
  ·exact W.g x q
  ·exact(bK.mp q)▸k
 ·rcases cZ.mp i with q|q
  ·exact(W.l c b o q).d _
  ·exact(hb c b o (bK.mp q).symm).d _
noncomputable def tlM:MV->List MV
 | .e l=>l
 |_=>[]
noncomputable def toI:MV->Int
 | .c i=>i
 |_=>0
noncomputable def atI(v:MV)(i:Nat):Int:=toI ((tlM v).getD i .f)
noncomputable def two(v:MV):Bool:=aR (tlM v).length 2
noncomputable def cdV(v:MV):Int:=cond (two v) (atI v 0) (100*atI v 0+atI v 1)
noncomputable def agV(v:MV):Int:=cond (two v) (atI v 1) (atI ((tlM v).getD 2 .f) 0)
noncomputable def unC(x:Int):lW:=if x=5 then .d else if x=4 then .f else if x=308 then .c else if x=368 then .g else .e (x - 200).toNat
theorem rk(h:iO c):unC (cdV (c.a b))=c/\agV (c.a b)=b/\(cdV (c.a b) !=7&&cdV (c.a b) !=206)=true:=by
 cases h<;>exact⟨rfl,rfl,rfl⟩
theorem Be(j:iC r1)(g:iC r2)(e:r1.a=r2.a):(∃c b o f,r1= .d c b o/\r2= .d c b f)\/r1=r2:=by
 have q:=congrArg cdV e
 cases j with
 |v=>cases g with
  |v=>exact .inr rfl
  |c=>exact absurd q (show(7:Int)≠206 by decide)
  |a h b o=>exact absurd ((congrArg (λx:Int=>x !=7&&x !=206) q).trans (rk h).2.2) (by decide)
 |c=>cases g with
  |v=>exact absurd q (show(206:Int)≠7 by decide)
  |c=>exact .inr rfl
  |a h b o=>exact absurd ((congrArg (λx:Int=>x !=7&&x !=206) q).trans (rk h).2.2) (by decide)
 |a h b o=>cases g with
  |v=>exact absurd ((congrArg (λx:Int=>x !=7&&x !=206) q.symm).trans (rk h).2.2) (by decide)
  |c=>exact absurd ((congrArg (λx:Int=>x !=7&&x !=206) q.symm).trans (rk h).2.2) (by decide)
  |a h' i f=>
   exact .inl ⟨_,b,o,f,rfl,((rk (b:=b) h).1.symm.trans ((congrArg unC q).trans (rk (b:=i) h').1))▸(W7 ((rk (b:=b) h).2.1.symm.trans ((congrArg agV e).trans (rk (b:=i) h').2.1)))▸rfl⟩
end
section
section
variable{k b j:Nat}{o:Bool}{c:lW}{a:jJ}{R:List Row}{z:List MO}{row:Row}
theorem ge0{μ:Hp}{n:Nat}:ct μ .f (.c (n:Int)) (.c 0)=some true:=by
 show some (decide ((0:Int)<=(n:Int)))=_
 rw[decide_eq_true R6]
theorem C3(W:KW R)(h:R[j]?=some row):au Tb (k+1) 83 [.d 11,row.a] (KH a R z)=some (.c ((j+20:Nat):Int),KH a R z):=by
 have e:=W.g _ (aU h)
 have i:dj (au Tb k) (KH a R z) (.d 13) [row.a,.c (-1)] .b=some (.c ((j+20:Nat):Int),KH a R z):=by
  rw[vU (d:=fA R) rfl (ni W e),HR W h];rfl
 exact qP [(2,.a (.c ((j+20:Nat):Int)) (KH a R z)),(3,.b true)] i (ge0:ct (KH a R z) .f (.c ((j+20:Nat):Int)) (.c 0)=some true) ⋯
theorem Bp(W:KW R)(e:iC row)(h:row.a∉R.map Row.a):dj cl (KH a R z) (.d 13) [row.a,.c (-1)] .b=some (.c (-1),KH a R z):=by
 rw[vU (d:=fA R) rfl (ni W e),HQ e h];rfl
theorem NK(W:KW R)(l:R.length<=99999)(r:iO c)(B:rG R b o)(h:c.a b∉R.map Row.a):au Tb (k+6) 83 [.d 11,c.a b] (KH a R z)=some (.c ((R.length+20:Nat):Int),KH a (R++[.d c b o]) z):=by
 have q:iC (.d c b o):= .a r b o
 have u:=Bp (a:=a) (z:=z) W q h (cl:=au Tb (k+5))
 have t:=vF (k:=k) (a:=a) (z:=z) r B (vz l)
 have p:ez (KH a R z) (.d 14) (.c (b:Int))=some (.c 1):=gj rfl B.i (by have:=B.e;exact GY this)
 have A:ez (KH a R z) (.d 15) (.c (b:Int))=some (.c 1):=gj rfl B.m (by have:=B.e;exact GY this)
 have D:ez (KH a R z) (.d 16) (.c (b:Int))=some (.c (if o then 1 else 0)):=gj rfl B.c (by have:=B.e;exact GY this)
 have s:mj (KH a R z) (.d 12)=some (.c ((R.length+20:Nat):Int)):=by rw[<-gQ];exact lh rfl (fP (by rw[gQ];exact rH l))
 have w:dj (au Tb (k+5)) (KH a R z) (.d 12) [c.a b] .a=some (.f,KG a (b9 R++[c.a b]) (fA R) (gZ R) (g7 R) (fW R) z):=gG rfl (fP (by rw[gQ];exact rH l))
 have C:pZ (KG a (b9 R++[c.a b]) (fA R) (gZ R) (g7 R) (fW R) z) (.d 13) (c.a b) (.c ((R.length+20:Nat):Int))=some (KG a (b9 R++[c.a b]) (fA (R++[.d c b o])) (gZ R) (g7 R) (fW R) z):=by
  show pZ _ _ (Row.d c b o).a _=_
  rw[mq (d:=fA R) rfl (ni W q) (fP (by rw[w7];exact rH l)),xy q h];rfl
 have y:∀d:MV,dj (au Tb (k+5)) (KG a (b9 R++[c.a b]) (fA (R++[.d c b o])) (gZ R) (g7 R) (fW R) z) (.d 14) [d] .a=some (.f,KG a (b9 R++[c.a b]) (fA (R++[.d c b o])) (gZ R++[d]) (g7 R) (fW R) z):=λd=>gG rfl (fP (by rw[wZ];exact rH l))
 have x:∀d:MV,dj (au Tb (k+5)) (KG a (b9 R++[c.a b]) (fA (R++[.d c b o])) (gZ R++[d]) (g7 R) (fW R) z) (.d 15) [.c 2] .a=some (.f,KG a (b9 R++[c.a b]) (fA (R++[.d c b o])) (gZ R++[d]) (g7 R++[.c 2]) (fW R) z):=λd=>gG rfl (fP (by rw[w9];exact rH l))
 have v:∀d:MV,dj (au Tb (k+5)) (KG a (b9 R++[c.a b]) (fA (R++[.d c b o])) (gZ R++[d]) (g7 R++[.c 2]) (fW R) z) (.d 16) [.c (if o then 1 else 0)] .a=some (.f,KG a (b9 R++[c.a b]) (fA (R++[.d c b o])) (gZ R++[d]) (g7 R++[.c 2]) (fW R++[.c (if o then 1 else 0)]) z):=λd=>gG rfl (fP (by rw[w8];exact rH l))
 have n:∀d:MV,(Row.d c b o).h=d->KG a (b9 R++[c.a b]) (fA (R++[.d c b o])) (gZ R++[d]) (g7 R++[.c 2]) (fW R++[.c (if o then 1 else 0)]) z=KH a (R++[.d c b o]) z:=λd E=>by
  have:(Row.d c b o).g= .c (if o then 1 else 0):=by cases o<;>rfl
  simp only[KH,b9,fA,gZ,g7,fW,d9,dX,ju,<-cC,this,E]
  rfl
 cases o<;>cases r with
 |a=>rw[<-n (.c 1) rfl];exact bu [(2,ow u),(5,ow t),(16,ov p),(21,ov A),(23,ov D),(31,ov s),(34,ow w),(36,oh C),(39,ow (y (.c 1))),(42,ow (x (.c 1))),(45,ow (v (.c 1)))] ⋯
 |_=>rw[<-n (.c 2) rfl];exact bu [(2,ow u),(5,ow t),(16,ov p),(21,ov p),(24,ov A),(26,ov D),(34,ov s),(37,ow w),(39,oh C),(42,ow (y (.c 2))),(45,ow (x (.c 2))),(48,ow (v (.c 2)))] ⋯
end
end
section
section
variable{k b j:Nat}{o:Bool}{c:lW}{a:jJ}{R:List Row}{z:List MO}{row:Row}
theorem JU(W:KW R)(l:R.length<=99999)(m:row= .f\/row= .e)(h:row.a∉R.map Row.a):au Tb (k+6) 83 [.d 11,row.a] (KH a R z)=some (.c ((R.length+20:Nat):Int),KH a (ar R row) z):=by
 have n:iC row:=by rcases m with rfl|rfl<;>constructor
 have u:=Bp (a:=a) (z:=z) W n h (cl:=au Tb (k+5))
 have q:mj (KH a R z) (.d 12)=some (.c ((R.length+20:Nat):Int)):=by rw[<-gQ];exact lh rfl (fP (by rw[gQ];exact rH l))
 have s:dj (au Tb (k+5)) (KH a R z) (.d 12) [row.a] .a=some (.f,KG a (ar (b9 R) row.a) (fA R) (gZ R) (g7 R) (fW R) z):=gG rfl (fP (by rw[gQ];exact rH l))
 have x:pZ (KG a (ar (b9 R) row.a) (fA R) (gZ R) (g7 R) (fW R) z) (.d 13) row.a (.c ((R.length+20:Nat):Int))=some (KG a (ar (b9 R) row.a) (fA (ar R row)) (gZ R) (g7 R) (fW R) z):=by
  rw[mq (d:=fA R) rfl (ni W n) (fP (by rw[w7];exact rH l)),xy n h];rfl
 have w:dj (au Tb (k+5)) (KG a (ar (b9 R) row.a) (fA (ar R row)) (gZ R) (g7 R) (fW R) z) (.d 14) [.c 1] .a=some (.f,KG a (ar (b9 R) row.a) (fA (ar R row)) (ar (gZ R) (.c 1)) (g7 R) (fW R) z):=gG rfl (fP (by rw[wZ];exact rH l))
 have r:dj (au Tb (k+5)) (KG a (ar (b9 R) row.a) (fA (ar R row)) (ar (gZ R) (.c 1)) (g7 R) (fW R) z) (.d 15) [.c 1] .a=some (.f,KG a (ar (b9 R) row.a) (fA (ar R row)) (ar (gZ R) (.c 1)) (ar (g7 R) (.c 1)) (fW R) z):=gG rfl (fP (by rw[w9];exact rH l))
 have t:dj (au Tb (k+5)) (KG a (ar (b9 R) row.a) (fA (ar R row)) (ar (gZ R) (.c 1)) (ar (g7 R) (.c 1)) (fW R) z) (.d 16) [row.g] .a=some (.f,KG a (ar (b9 R) row.a) (fA (ar R row)) (ar (gZ R) (.c 1)) (ar (g7 R) (.c 1)) (ar (fW R) row.g) z):=gG rfl (fP (by rw[w8];exact rH l))
 have p:KG a (ar (b9 R) row.a) (fA (ar R row)) (ar (gZ R) (.c 1)) (ar (g7 R) (.c 1)) (ar (fW R) row.g) z=KH a (ar R row) z:=by
  have A:row.h= .c 1:=by rcases m with rfl|rfl<;>rfl
  have y:row.i= .c 1:=by rcases m with rfl|rfl<;>rfl
  simp only[KH,b9,fA,gZ,g7,fW,ar,d9,dX,ju,<-cC,A,y]
 refine p▸?_
 rcases m with rfl|rfl
 ·exact pY [(2,.a (.c (-1)) (KH a R z)),(20,.v (.c ((R.length+20:Nat):Int))),(23,.a .f (KG a (ar (b9 R) (Row.a .f)) (fA R) (gZ R) (g7 R) (fW R) z)),(25,.h (KG a (ar (b9 R) (Row.a .f)) (fA (ar R .f)) (gZ R) (g7 R) (fW R) z)),(28,.a .f (KG a (ar (b9 R) (Row.a .f)) (fA (ar R .f)) (ar (gZ R) (.c 1)) (g7 R) (fW R) z)),(31,.a .f (KG a (ar (b9 R) (Row.a .f)) (fA (ar R .f)) (ar (gZ R) (.c 1)) (ar (g7 R) (.c 1)) (fW R) z)),(34,.a .f (KG a (ar (b9 R) (Row.a .f)) (fA (ar R .f)) (ar (gZ R) (.c 1)) (ar (g7 R) (.c 1)) (ar (fW R) (.c 1)) z))] (AA (AA (AA (AA (AA (AA (AA trivial u) q) s) x) w) r) t) ⋯
 ·exact pY [(2,.a (.c (-1)) (KH a R z)),(20,.v (.c ((R.length+20:Nat):Int))),(23,.a .f (KG a (ar (b9 R) (Row.a .e)) (fA R) (gZ R) (g7 R) (fW R) z)),(25,.h (KG a (ar (b9 R) (Row.a .e)) (fA (ar R .e)) (gZ R) (g7 R) (fW R) z)),(28,.a .f (KG a (ar (b9 R) (Row.a .e)) (fA (ar R .e)) (ar (gZ R) (.c 1)) (g7 R) (fW R) z)),(31,.a .f (KG a (ar (b9 R) (Row.a .e)) (fA (ar R .e)) (ar (gZ R) (.c 1)) (ar (g7 R) (.c 1)) (fW R) z)),(34,.a .f (KG a (ar (b9 R) (Row.a .e)) (fA (ar R .e)) (ar (gZ R) (.c 1)) (ar (g7 R) (.c 1)) (ar (fW R) (.c 0)) z))] (AA (AA (AA (AA (AA (AA (AA trivial u) q) s) x) w) r) t) ⋯
structure Put (R:List Row) (row:Row) (R':List Row) (j:Nat):Prop where
 b:R'[j]?=some row
 e:KW R'
 c:∃x,R'=R++x
 d:R'.length<=R.length+1
theorem wk(W:KW R)(u:R.length<=99999)(i:iO c)(B:rG R b o){p:Prop}(t:∀R' j,(∀k a z,au Tb (k+6) 83 [.d 11,c.a b] (KH a R z)=some (.c ((j+20:Nat):Int),KH a R' z))->Put R (.d c b o) R' j->p):p:=by
 by_cases h:c.a b∈R.map Row.a
 ·refine cf (cW.mp h) λr n e=>?_
  obtain⟨j,hj,f⟩:=qi n
  have f:R[j]?=some r:=by rw[aN hj,f]
  have v:r= .d c b o:=by
   rcases Be (W.g r n) (iC.a i b o) e with⟨x,w,o1,o2,rfl,e2⟩|rfl
   ·cases e2
    have s:=(W.l _ _ _ n).c
    rw[B.c] at s
    cases o<;>cases o1<;>first|rfl|cases s
   ·rfl
  subst v
  have q:=λk a z=>C3 (k:=k+5) (a:=a) (z:=z) W f
  exact t R j q ⟨f,W,⟨[],by simp⟩,lB⟩
 ·refine t (R++[.d c b o]) R.length (λk a z=>NK W u i B h) ⟨by simp,W.m (row:= .d c b o) (.a i b o) h (λx w y e=>by cases e;exact B),⟨_,rfl⟩,by simp⟩
theorem C4(W:KW R)(u:R.length<=99999)(l:row= .f\/row= .e){s:Prop}(t:∀R' j,(∀k a z,au Tb (k+6) 83 [.d 11,row.a] (KH a R z)=some (.c ((j+20:Nat):Int),KH a R' z))->Put R row R' j->s):s:=by
 have q:iC row:=by rcases l with rfl|rfl<;>constructor
 by_cases h:row.a∈R.map Row.a
 ·refine cf (cW.mp h) λr p e=>?_
  obtain⟨j,hj,i⟩:=qi p
  have i:R[j]?=some r:=by rw[aN hj,i]
  have n:r=row:=by
   rcases Be (W.g r p) q e with⟨w,v,o1,o2,rfl,e2⟩|rfl
   ·rcases l with rfl|rfl<;>cases e2
   ·rfl
  subst n
  exact t R j (λk a z=>C3 (k:=k+5) (a:=a) (z:=z) W i) ⟨i,W,⟨[],by simp⟩,lB⟩
 ·refine t (ar R row) R.length (λk a z=>JU W u l h) ⟨by simp[ar],W.m q h (λw v x e=>by rcases l with rfl|rfl<;>cases e),⟨_,rfl⟩,by simp[ar]⟩
theorem KW.f(W:KW R)(e:R[i]?=some row)(h:R[j]?=some row):i=j:=by
 have hj:=(ax.mp h).1
 have n:(R.map Row.a)[j]?=some row.a:=by rw[aL,h];rfl
 exact(Oz (by simpa using((ax.mp e).1)) W.d).mp ((by rw[aL,e];rfl:(R.map Row.a)[i]?=some row.a).trans n.symm)
end
end
section
set_option genCtorIdx true in
set_option genCtorIdx true in
inductive CT|b (c:Nat)|r (c:Nat)|q (c:Nat)
noncomputable def CT.d:CT->MV
 | .b c=> .g [c]
 | .r c=> .g [114,c]
 | .q c=> .g [113,c]
noncomputable def CT.f:CT->Nat| .b c=>c| .r c=>c| .q c=>c
noncomputable def CT.e(l:Nat):CT->CT
 | .b c=> .b (if aR c 84 then l else c)
 | .r c=> .r (if aR c 84 then l else c)
 | .q c=> .q (if aR c 84 then l else c)
noncomputable def rJ:List (Nat×Nat):=[(98,1),(99,2),(121,3),(89,4),(104,5),(72,6),(105,7),(117,8),(108,9),(76,10),(110,11),(111,12),(115,13),(112,16),(101,17),(107,18)]
noncomputable def kd(v c:Nat):Nat:=if aR c 84 then v else(rJ.lookup c).getD 0
noncomputable def bB(c:Nat):Bool:=aR c 84||(rJ.lookup c).isSome
noncomputable def cj(R:List Row)(v k:Nat):CT->Prop
 | .b c=>k=kd v c
 | .r c=>bB c=true/\∃j,k=j+20/\R[j]?=some (.d .d (kd v c) (aR c 84))
 | .q c=>bB c=true/\∃j,k=j+20/\R[j]?=some (.d .c (kd v c) (aR c 84))
theorem lX{R x:List Row}{j:Nat}{row:Row}(h:R[j]?=some row):(R++x)[j]?=some row:=(aJ (ax.mp h).1)▸h
theorem cj.o{R:List Row}{v k:Nat}{t:CT}(h:cj R v k t)(x:List Row):cj (R++x) v k t:=by
 cases t with
 |b c=>exact h
 |r c=>obtain⟨e,j,d,f⟩:=h;exact⟨e,j,d,lX f⟩
 |q c=>obtain⟨e,j,d,f⟩:=h;exact⟨e,j,d,lX f⟩
set_option tactic.hygienic true in
theorem j4{b:Type}:∀{l:List (Nat×b)} {v:b},l.lookup x=some v->(x,v)∈l
 |[],_,h=>by cases h
 |(y,u)::r,v,h=>by
  rw[da] at h
  split at h
  ·rename_i q
   refine j8 h ?_
   have:x=y:=by simpa using q
   exact this▸(.head _)
  ·exact .tail _ (j4 h)
theorem x_:(rJ.all λp=>j_ p.2 19&& !aR p.2 0&& !aR p.2 14&& !aR p.1 84)=true:=⋯
theorem vZ(h:bB c=true)(d:c≠84):kd v c<19/\kd v c≠0/\kd v c≠14:=by
 have hb:aR c 84=false:=by cases e:aR c 84 with|false=>rfl|true=>exact absurd (aK e) d
 unfold bB at h
 rw[hb,qZ] at h
 obtain⟨n,b⟩:=dT.mp h
 have:=aT.mp x_ _ (j4 b)
 simp only[bO,jt] at this
 obtain⟨⟨⟨i,g⟩,f⟩,_⟩:=this
 refine(by unfold kd;rw[hb,b];rfl:kd v c=n)▸(⟨aW i,λq=>?_,λq=>?_⟩)
 ·subst q;cases g
 ·subst q;cases f
inductive Own (R:List Row) (l:Nat):Nat->MV->MV->Prop
 |b (m:MV):Own R l 19 (.e [.c (kd 0 l:Nat)]) m
 |e {j:Nat} (h:R[j]?=some .f) (t:MV):Own R l (j+20) t (.e [.c (kd 0 l:Nat)])
theorem Own.f(h:Own R l v t m)(i:R.length<=100000):rG R v true:=by
 cases h with
 |b m=>exact nK R 19 N' Z5 ZN
 |e hj t=>exact y5 hj i (.inl rfl)
theorem Own.d{R:List Row}{l v:Nat}{t m:MV}(h:Own R l v t m)(x:List Row):Own (R++x) l v t m:=by
 cases h with
 |b m=>exact .b m
 |e hj t=>exact .e (lX hj) t
theorem Own.g(h:Own R l v t m):((b9 R)[v]?=some (.e [.c 6,.c 0])/\t= .e [.c (kd 0 l:Nat)])\/((b9 R)[v]?=some (.e [.c 7,.c 0])/\m= .e [.c (kd 0 l:Nat)]):=by
 cases h with
 |b m=>exact .inl ⟨by rw[b9,aJ (by simp[bR])];rfl,rfl⟩
 |e hj t=>exact .inr ⟨gf hj,rfl⟩
theorem zK(d:bB l=true)(b:l≠84):kd v l=kd 0 l:=by
 unfold kd
 have hb:aR l 84=false:=by cases e:aR l 84 with|false=>rfl|true=>exact absurd (aK e) b
 simp[hb]
section
variable{k n v l s:Nat}{a:jJ}{R:List Row}{z:List MO}{r t m:MV}{c:lW}
theorem nC(h:(fW R)[n]?=some r)(b:n<1000000):ez (KH a R z) (.d 16) (.c (n:Int))=some r:=gj rfl h (GY b)
theorem wx(h:(b9 R)[n]?=some r)(b:n<1000000):ez (KH a R z) (.d 12) (.c (n:Int))=some r:=gj rfl h (GY b)
theorem tl(h:(b9 R)[n]?=some r)(b:R.length<=100000):n<1000000:=by
 have:=(ax.mp h).1
 rw[gQ] at this;exact(aD this (eK (aM b _)))
theorem za(h:(b9 R)[n]?=some r)(e:(fW R)[n]?=some (.c 0))(b:R.length<=100000):au Tb (k+2) 216 [.d 11,.c (n:Int),t,m] (KH a R z)=some (.c (n:Int),KH a R z):=qP [(1,.a r (KH a R z)),(3,.v (.c 0))] (mJ (k:=k) (a:=a) (z:=z) h b) (nC (a:=a) (z:=z) e (tl h b)) ⋯
theorem xY(g:μ[s]?=some (.b [])):ct μ .h (.c (n:Int)) (.d s)=some false:=by
 show inV μ (.c (n:Int)) (.d s)=_
 exact dcI g
theorem uO(O:Own R l v t m)(p:R.length<=100000)(g:(KH a R z)[s]?=some (.b [])):au Tb (k+2) 223 [.d 11,.c (v:Int),t,m,.d s] (KH a R z)=some (.c (kd 0 l:Nat),KH a R z):=by
 have B:=O.f p
 have j:=nC (a:=a) (z:=z) B.c B.e
 have o:=xY (n:=v) g
 rcases O.g with⟨h,rfl⟩|⟨h,rfl⟩
 ·have i:=wx (a:=a) (z:=z) h B.e
  exact qQ [(1,.v (.c 1)),(4,.b false),(7,.v (.e [.c 6,.c 0]))] j o i ⋯
 ·have i:=wx (a:=a) (z:=z) h B.e
  exact qQ [(1,.v (.c 1)),(4,.b false),(7,.v (.e [.c 7,.c 0]))] j o i ⋯
end
end
section
section
variable{α:Type}{z:List α}{o p:α}{i:Nat}
theorem aB(z:List α)(o:α):(ar z o).length=z.length+1:=by simp[ar]
theorem aZ(z:List α)(o:α):(ar z o)[z.length]?=some o:=by
 unfold ar;rw[cq (aC _),Fx];rfl
theorem qz(h:z[i]?=some p):(ar z o)[i]?=some p:=by
 unfold ar;rw[aJ (ax.mp h).1];exact h
theorem dK(z:List α)(o p:α):(ar z o).set z.length p=ar z p:=by
 unfold ar;rw[oN _ _ (aC _),Fx];rfl
theorem qS(h:i<z.length):(ar z o).set i p=ar (z.set i p) o:=by
 unfold ar;rw[F7 _ _ h]
end
section
variable{k n v l j x i:Nat}{a:jJ}{R R':List Row}{z:List MO}{r t m:MV}{c:lW}{o:Bool}{cl:Call}
theorem t_{o:MO}(h:z[i]?=some o):(KH a R z)[i+17]?=some o:=h
theorem KC(h:au Tb (k+6) 83 [.d 11,lW.a x .d] (KH a R z)=some (.c ((j+20:Nat):Int),KH a R' z)):au Tb (k+7) 230 [.d 11,lW.a v .d,.e [.c (x:Int)]] (KH a R z)=some (.c ((j+20:Nat):Int),KH a R' z):=gN [(12,.a (.c ((j+20:Nat):Int)) (KH a R' z))] h ⋯
theorem KA(h:au Tb (k+6) 83 [.d 11,lW.a x .c] (KH a R z)=some (.c ((j+20:Nat):Int),KH a R' z)):au Tb (k+7) 230 [.d 11,lW.a v .c,.e [.c (x:Int)]] (KH a R z)=some (.c ((j+20:Nat):Int),KH a R' z):=gN [(8,.a (.c ((j+20:Nat):Int)) (KH a R' z))] h ⋯
theorem wt(g:μ[q]?=some (.a y)):gI Tb μ (.d q) 0=some .a:=UG g
theorem OS{y:List MV}{w:MV}(g:z[i]?=some (.a y))(h:y.length<=bz):dj cl (KH a R z) (.d (i+17)) [w] .a=some (.f,KH a R (z.set i (.a (ar y w)))):=gG (t_ g) h
noncomputable def aeC(μ:Hp)(n:Nat):Option (MV×Hp):=rv μ (.d n) λJ l=>gd (l.length<=bz) (some (.e l,μ))
theorem RH{y:List MV}(g:z[i]?=some (.a y))(h:y.length<=bz):aeC (KH a R z) (i+17)=some (.e y,KH a R z):=(v9 (t_ g)).trans (j1 h)
theorem vH{d:Nat}(H:c= .d\/c= .c)(O:Own R l v t m)(D:R.length<=100000)(I:(b9 R)[n]?=some (c.a v))(M:(fW R)[n]?=some (.c 1))(q:z[d]?=some (.b []))
  (F:au Tb (k+6) 83 [.d 11,c.a (kd 0 l)] (KH a R (ar z (.a [.c (kd 0 l:Nat)])))=some (.c ((j+20:Nat):Int),KH a R' (ar z (.a [.c (kd 0 l:Nat)])))):
  au Tb (k+8) 223 [.d 11,.c (n:Int),t,m,.d (d+17)] (KH a R z)=some (.c ((j+20:Nat):Int),KH a R' ((ar z (.a [.c (kd 0 l:Nat)])).set d (.b [(.c (n:Int),.c ((j+20:Nat):Int))]))):=by
 have u:=tl I D
 have y:=nC (a:=a) (z:=z) M u
 have w:=xY (n:=n) (t_ (a:=a) (R:=R) q)
 have A:=wx (a:=a) (z:=z) I u
 have G:=wt (t_ (a:=a) (R:=R) (aZ z (.a [])))
 have L:=uO (k:=k+5) (a:=a) (z:=ar z (.a [])) O D (t_ (a:=a) (R:=R) (qz q))
 have s:dj (au Tb (k+7)) (KH a R (ar z (.a []))) (.d (z.length+17)) [.c (kd 0 l:Nat)] .a=some (.f,KH a R (ar z (.a [.c (kd 0 l:Nat)]))):=by
  rw[OS (aZ z (.a [])) (b7 _),dK];rfl
 have B:=RH (a:=a) (R:=R) (aZ z (.a [.c (kd 0 l:Nat)])) (fP (by simp))
 have J:au Tb (k+7) 230 [.d 11,c.a v,.e [.c (kd 0 l:Nat)]] (KH a R (ar z (.a [.c (kd 0 l:Nat)])))=some (.c ((j+20:Nat):Int),KH a R' (ar z (.a [.c (kd 0 l:Nat)]))):=by
  rcases H with rfl|rfl
  ·exact KC F
  ·exact KA F
 have g:(ar z (.a [.c (kd 0 l:Nat)]))[d]?=some (.b []):=qz q
 have E:pZ (KH a R' (ar z (.a [.c (kd 0 l:Nat)]))) (.d (d+17)) (.c (n:Int)) (.c ((j+20:Nat):Int))=some (KH a R' ((ar z (.a [.c (kd 0 l:Nat)])).set d (.b [(.c (n:Int),.c ((j+20:Nat):Int))]))):=mq (t_ g) rfl (b7 _)
 have C:ez (KH a R' ((ar z (.a [.c (kd 0 l:Nat)])).set d (.b [(.c (n:Int),.c ((j+20:Nat):Int))]))) (.d (d+17)) (.c (n:Int))=some (.c ((j+20:Nat):Int)):=by
  have:=t_ (a:=a) (R:=R') (z:=(ar z (.a [.c (kd 0 l:Nat)])).set d (.b [(.c (n:Int),.c ((j+20:Nat):Int))])) (i:=d) (cM ((ax.mp g).1))
  delta ez;refine(Mw this).trans ((j1 rfl).trans (if_pos (hO _)))
 rcases H with rfl|rfl
 ·exact pY [(1,.v (.c 1)),(4,.b false),(7,.v (lW.a v .d)),(16,.c .a),(17,.a (.c (kd 0 l:Nat)) (KH a R (ar z (.a [])))),(18,.a .f (KH a R (ar z (.a [.c (kd 0 l:Nat)])))),(19,.a (.e [.c (kd 0 l:Nat)]) (KH a R (ar z (.a [.c (kd 0 l:Nat)])))),(20,.a (.c ((j+20:Nat):Int)) (KH a R' (ar z (.a [.c (kd 0 l:Nat)])))),(21,.h (KH a R' ((ar z (.a [.c (kd 0 l:Nat)])).set d (.b [(.c (n:Int),.c ((j+20:Nat):Int))])))),(22,.v (.c ((j+20:Nat):Int)))] (AA (AA (AA (AA (AA (AA (AA (AA (AA (AA trivial y) w) A) G) L) s) B) J) E) C) ⋯
 ·exact pY [(1,.v (.c 1)),(4,.b false),(7,.v (lW.a v .c)),(16,.c .a),(17,.a (.c (kd 0 l:Nat)) (KH a R (ar z (.a [])))),(18,.a .f (KH a R (ar z (.a [.c (kd 0 l:Nat)])))),(19,.a (.e [.c (kd 0 l:Nat)]) (KH a R (ar z (.a [.c (kd 0 l:Nat)])))),(20,.a (.c ((j+20:Nat):Int)) (KH a R' (ar z (.a [.c (kd 0 l:Nat)])))),(21,.h (KH a R' ((ar z (.a [.c (kd 0 l:Nat)])).set d (.b [(.c (n:Int),.c ((j+20:Nat):Int))])))),(22,.v (.c ((j+20:Nat):Int)))] (AA (AA (AA (AA (AA (AA (AA (AA (AA (AA trivial y) w) A) G) L) s) B) J) E) C) ⋯
end
end
section
noncomputable def cU{b:Type}(x y:List b):List b:=x++y
theorem vE{b:Type}(x:List b):cU x []=x:=d8 x
theorem rV{b:Type}(x y w:List b):cU (cU x y) w=cU x (y++w):=by unfold cU;rw[cC]
theorem yx{b:Type}(x:List b)(o:b):ar x o=cU x [o]:=rfl
theorem rW{b:Type}{z y:List b}{o:b}{i:Nat}(h:z[i]?=some o):(cU z y)[i]?=some o:=by
 unfold cU;rw[aJ (ax.mp h).1];exact h
theorem LI{b:Type}{z y:List b}{p:b}{i:Nat}(h:i<z.length):(cU z y).set i p=cU (z.set i p) y:=by
 unfold cU;rw[F7 _ _ h]
theorem aca(h:c≠84):kd v c<19:=by
 unfold kd
 refine(by cases e:aR c 84 with|false=>rfl|true=>exact absurd (aK e) h:aR c 84=false)▸?_
 cases hn:rJ.lookup c with
 |none=>simp
 |some n=>
  have:=aT.mp x_ _ (j4 hn)
  simp only[bO] at this
  exact aW this.1.1.1
theorem Ni(h:n<19):∃r,(b9 R)[n]?=some r/\(fW R)[n]?=some (.c 0):=
 ⟨bR[n]'(Nat.lt_succ_of_lt h),zJ (aN _),zJ (A:=br 19 (MV.c 0)++[.c 1]) (zJ (ux h))⟩
theorem vx(h:R[j]?=some row):(fW R)[j+20]?=some row.g:=Jb rfl h
structure dM (R R':List Row) (n:Nat):Prop where
 r:KW R'
 c:∃x,R'=R++x
 p:R'.length<=R.length+n
theorem dM.s(W:KW R):dM R R 0:=⟨W,⟨[],by simp⟩,W0⟩
theorem dM.f(h:dM R R' n)(g:dM R' R'' m):dM R R'' (n+m):=by
 obtain⟨x,rfl⟩:=h.c
 obtain⟨y,rfl⟩:=g.c
 exact⟨g.r,⟨x++y,by simp⟩,by have d:=h.p;have b:=g.p;exact Sd d b⟩
theorem dM.e(h:dM R R' n)(g:n<=m):dM R R' m:=⟨h.r,h.c,by have:=h.p;exact(bN [_,_,_,_] V0.C (V0.D+V0.B) (.o V0.A V0.B (.o V0.C (V0.D+V0.A) .z)) rfl g this)⟩
theorem Put.g(h:Put R row R' j):dM R R' 1:=⟨h.e,h.c,h.d⟩
theorem dM.u(h:dM R R' n)(q:cj R v k t):cj R' v k t:=by obtain⟨x,rfl⟩:=h.c;exact q.o x
theorem dM.w(h:dM R R' n)(q:Own R l v t m):Own R' l v t m:=by obtain⟨x,rfl⟩:=h.c;exact q.d x
theorem dM.A(h:dM R R' n)(q:rG R b o):rG R' b o:=by obtain⟨x,rfl⟩:=h.c;exact q.d x
theorem dM.B{R R':List Row}{n j:Nat}{row:Row}(h:dM R R' n)(q:R[j]?=some row):R'[j]?=some row:=by obtain⟨x,rfl⟩:=h.c;exact lX q
section
variable{k n v l:Nat}{a:jJ}{R:List Row}{z:List MO}{ta ma:MV}{t:CT}
theorem sL(W:KW R)(w:R.length<=99999)(O:Own R l v ta ma)(C:bB l=true)(G:l≠84)(h:cj R v n t){D:Prop}(u:∀(R':List Row) (U:Nat) (y:List MO),(∀k a z,au Tb (k+10) 216 [.d 11,.c (n:Int),ta,ma] (KH a R z)=some (.c (U:Int),KH a R' (cU z y)))->cj R' v U (t.e l)->dM R R' 1->D):D:=by
 have L:=(dM.s W).e R5
 have o:=vZ (v:=0) C G
 have B:=O.f (vz w)
 have H:∀(c:lW),(c= .d\/c= .c)->iO c->∀j,R[j]?=some (.d c v true)->∀{D:Prop},(∀(R':List Row) (i:Nat) (y:List MO),(∀k a z,au Tb (k+10) 216 [.d 11,.c ((j+20:Nat):Int),ta,ma] (KH a R z)=some (.c ((i+20:Nat):Int),KH a R' (cU z y)))->R'[i]?=some (.d c (kd 0 l) false)->dM R R' 1->D)->D:=by
  intro c m Z j hj D u
  have V:=nK R (kd 0 l) (R9 o) o.2.1 o.2.2
  have hf:(kd 0 l==19)=false:=by simp;exact R8 o
  rw[hf] at V
  refine wk W w Z V λR' i X P=>?_
  have E:=gf hj
  have T:=vx hj
  refine u R' i [.b [(.c ((j+20:Nat):Int),.c ((i+20:Nat):Int))],.a [.c (kd 0 l:Nat)]] (λk a z=>?_) P.b P.g
  have S:=vH (k:=k+1) (a:=a) (z:=ar z (.b [])) (d:=z.length) m O (vz w) E T (aZ z _) (X (k+1) a _)
  have Y:(ar (ar z (.b [])) (.a [.c (kd 0 l:Nat)])).set z.length (.b [(.c ((j+20:Nat):Int),.c ((i+20:Nat):Int))])=cU z [.b [(.c ((j+20:Nat):Int),.c ((i+20:Nat):Int))],.a [.c (kd 0 l:Nat)]]:=by
   rw[qS (by rw[aB];exact R7),dK]
   unfold ar cU;simp
  rw[Y] at S
  exact qQ [(1,.a (c.a v) (KH a R z)),(3,.v (.c 1)),(7,.a (.c ((i+20:Nat):Int)) (KH a R' (cU z [.b [(.c ((j+20:Nat):Int),.c ((i+20:Nat):Int))],.a [.c (kd 0 l:Nat)]])))] (mJ (k:=k+8) (a:=a) (z:=z) E (vz w)) (nC (a:=a) (z:=z) T (tl E (vz w))) S ⋯
 have Q:∀r,(b9 R)[n]?=some r->(fW R)[n]?=some (.c 0)->(∀k a z,au Tb (k+10) 216 [.d 11,.c (n:Int),ta,ma] (KH a R z)=some (.c (n:Int),KH a R (cU z []))):=λr A x k a z=>by
  rw[vE];exact za (k:=k+8) A x (vz w)
 have p:∀{c:Nat},aR c 84=true->c=84:=λh=>aK h
 have F:aR l 84=false:=by cases e:aR l 84 with|false=>rfl|true=>exact absurd (p e) G
 cases t with
 |b c=>
  cases m:aR c 84 with
  |true=>
   obtain rfl:=p m
   have I:=h
   subst I
   refine u R (kd 0 l) [.b []] (λk a z=>?_) ((zK C G).symm) L
   refine m8 B.g λs y E J=>?_
   exact qQ [(1,.a (.e (.c s::y)) (KH a R z)),(3,.v (.c 1)),(7,.a (.c (kd 0 l:Nat)) (KH a R (cU z [.b []])))] (mJ (k:=k+8) (a:=a) (z:=z) E (vz w)) (nC (a:=a) (z:=z) B.c B.e) (uO (k:=k+7) (a:=a) (z:=ar z (.b [])) O (vz w) (t_ (aZ z _))) ⋯
  |false=>
   have I:=h
   refine cf (Ni (R:=R) (n:=n) (I▸(aca ((λh e=>by subst e;cases h) m)))) λr A x=>?_
   refine u R n [] (Q r A x) ?_ L
   show n=kd v (if aR c 84 then l else c)
   refine m▸?_;exact I
 |r c=>
  obtain⟨N,j,rfl,hj⟩:=h
  cases m:aR c 84 with
  |true=>
   obtain rfl:=p m
   refine H .d (.inl rfl) .a j hj λR' i y A x M=>?_
   exact u R' (i+20) y A (⟨C,i,rfl,by rw[x,zK (v:=v) C G,F]⟩:cj R' v (i+20) (.r l)) M
  |false=>
   rw[m] at hj
   refine u R (j+20) [] (Q _ (gf hj) (vx hj)) ?_ L
   have e:CT.e l (.r c)= .r c:=by
    show CT.r (if aR c 84 then l else c)=_
    rw[m];rfl
   rw[e];exact⟨N,j,rfl,m▸hj⟩
 |q c=>
  obtain⟨N,j,rfl,hj⟩:=h
  cases m:aR c 84 with
  |true=>
   obtain rfl:=p m
   refine H .c (.inr rfl) .b j hj λR' i y A x M=>?_
   exact u R' (i+20) y A (⟨C,i,rfl,by rw[x,zK (v:=v) C G,F]⟩:cj R' v (i+20) (.q l)) M
  |false=>
   rw[m] at hj
   refine u R (j+20) [] (Q _ (gf hj) (vx hj)) ?_ L
   have e:CT.e l (.q c)= .q c:=by
    show CT.q (if aR c 84 then l else c)=_
    rw[m];rfl
   rw[e];exact⟨N,j,rfl,m▸hj⟩
end
end
section
section
variable{μ:Hp}{a b:Int}
theorem oY(h:b≠0):dE μ .b (.c a) (.c b)=some (.c (a.fmod b),μ):=mI (j1 h)
theorem vQ(h:b≠0)(e:b.natAbs<2^30):dE μ .d (.c a) (.c b)=some (.c (a.fdiv b),μ):=mI (j1 ⟨h,e⟩)
theorem nA(h:a.natAbs<2^64):dE μ .c (.c a) (.c b)=some (.c (a*b),μ):=j1 h
end
noncomputable abbrev RA:MV:= .g [110,117,109,115]
noncomputable abbrev sAt:MV:= .g [97,116]
structure Wd (d:List (MV×MV)) (i:Nat):Prop where
 c:cR d RA=some (.d 1)
 g:cR d sAt=some (.c (i:Int))
 f:d.all (λp=>eE p.1==2)=true
 j:d.length<=100
structure Nums (nu:List MV):Prop where
 c:∀v∈nu,∃i:Int,v= .c i
 b:0<nu.length
 a:nu.length<=1000
theorem Wd.m(h:Wd d i)(s:List Nat):eL d (.g s)=true:=by
 unfold eL
 simp only[bO]
 exact⟨rfl,h.f⟩
section
variable{k i n:Nat}{μ:Hp}{nu:List MV}{d:List (MV×MV)}
theorem rX(R:μ[1]?=some (.a nu))(t:μ[8]?=some (.b d))(H:Nums nu)(D:Wd d i)(P:i<=1000000)(y:0<n){B:Prop}(G:∀(x:Nat),x<n->(∀k,au Tb (k+1) 1270 [.d 8,.c (n:Int)] μ=some (.c (x:Int),μ.set 8 (.b (iT d sAt (.c ((i+1:Nat):Int))))))->B):B:=by
 refine b6 (μ.set 8 (.b (iT d sAt (.c ((i+1:Nat):Int))))) λe s=>?_
 have f:e[1]?=some (.a nu):=by rw[s,cV (by decide)];exact R
 have p:=H.b
 have l:=H.a
 have hm:i%nu.length<nu.length:=Nat.mod_lt _ p
 refine dG (H.c _ (iJ hm)) λr L=>?_
 refine dG (H.c _ (iJ p)) λx0 M=>?_
 have F:ez μ (.d 8) RA=some (.d 1):=by
  delta ez;exact(Mw t).trans ((j1 (D.m _)).trans D.c)
 have T:ez μ (.d 8) sAt=some (.c (i:Int)):=by
  delta ez;exact(Mw t).trans ((j1 (D.m _)).trans D.g)
 have o3:pZ μ (.d 8) sAt (.c ((i:Int)+1))=some e:=by
  rw[s];exact mq t (D.m _) (by have:=D.j;unfold bz;exact AH this)
 have O:dE e .b (.c (i:Int)) (.c (nu.length:Nat))=some (.c ((i%nu.length:Nat):Int),e):=by
  rw[oY (OT p l),eO _ (W4 p l)];rfl
 have E:ez e (.d 1) (.c ((i%nu.length:Nat):Int))=some (.c r):=by
  refine gj f ?_ (ou hm (ry l))
  rw[aN hm,L]
 have Q:dE e .d (.c (i:Int)) (.c (nu.length:Nat))=some (.c ((i/nu.length:Nat):Int),e):=by
  rw[vQ (OT p l) (ry l),lS _ (W4 p l)];rfl
 have N:ez e (.d 1) (.c 0)=some (.c x0):=by
  have:=gj (i:=0) f (v:= .c x0) (by rw[aN p,M]) Lw
  exact this
 have o12:dE e .c (.c ((i/nu.length:Nat):Int)) (.c (x0.fmod 7+3*(i:Int)))=some (.c (((i/nu.length:Nat):Int)*(x0.fmod 7+3*(i:Int))),e):=by
  have:∀q:Nat,q<=i->((q:Nat):Int).natAbs<2^64:=λq J=>ry (aD J P)
  exact nA (this _ (Nat.div_le_self _ _))
 refine b6 (r+((i/nu.length:Nat):Int)*(x0.fmod 7+3*(i:Int))) λS I=>?_
 have w:=cv.mpr y
 have C:=(kX (Int.fmod_nonneg_of_pos S w)).symm
 have u:dE e .b (.c S) (.c (n:Int))=some (.c ((S.fmod (n:Int)).toNat:Int),e):=by
  rw[oY (W2 y),<-C]
 refine G ((S.fmod (n:Int)).toNat) (cv.mp (cX (Int.le_of_eq C.symm) (Int.fmod_lt_of_pos S w))) λk=>?_
 refine s▸?_
 subst I
 exact pY [(0,.v (.d 1)),(1,.v (.c (i:Int))),(3,.h e),(4,.v (.c (nu.length:Nat))),(5,.a (.c ((i%nu.length:Nat):Int)) e),(6,.v (.c r)),(7,.a (.c ((i/nu.length:Nat):Int)) e),(8,.v (.c x0)),(12,.a (.c (((i/nu.length:Nat):Int)*(x0.fmod 7+3*(i:Int)))) e),(14,.a (.c (((r+((i/nu.length:Nat):Int)*(x0.fmod 7+3*(i:Int))).fmod (n:Int)).toNat:Int)) e)]
  (AA (AA (AA (AA (AA (AA (AA (AA (AA (AA trivial F) T) o3) (lh f (bN [_] V0.A 1000000 (.o V0.A 1000 .z) rfl l))) O) E) Q) N) o12) u) ⋯
end
end
section
noncomputable abbrev sKt:MV:= .g [107,116]
noncomputable abbrev Vm:MV:= .g [107,105,110,100,115]
noncomputable def kH:List (MV×MV):=[(.g [118],.c 0),(.g [98],.c 1),(.g [99],.c 2),(.g [121],.c 3),(.g [89],.c 4),(.g [104],.c 5),(.g [72],.c 6),(.g [105],.c 7),(.g [117],.c 8),(.g [108],.c 9),(.g [76],.c 10),(.g [110],.c 11),(.g [111],.c 12),(.g [115],.c 13),(.g [112],.c 16),(.g [101],.c 17),(.g [107],.c 18)]
noncomputable def rK(c:Nat):Bool:=bB c||aR c 118
theorem pP(h:rK c=true)(a:c≠84):eL kH (.g [c])=true/\cR kH (.g [c])=some (.c (kd v c:Nat)):=by
 have hb:aR c 84=false:=by cases e:aR c 84 with|false=>rfl|true=>exact absurd (aK e) a
 refine⟨rfl,?_⟩
 unfold rK bB at h
 rw[hb,qZ] at h
 unfold kd
 refine hb▸?_
 have key:∀p∈(118,0)::rJ,cR kH (.g [p.1])=some (.c ((rJ.lookup p.1).getD 0:Nat)):=by
  intro p b
  have:=aT.mp (by kernel_rfl:(((118,0)::rJ).all λp=>(match cR kH (.g [p.1]) with|some (.c i)=>i==(((rJ.lookup p.1).getD 0:Nat):Int)|_=>false))=true) p b
  cases e:cR kH (.g [p.1]) with
  |none=>rw[e] at this;cases this
  |some x=>
   replace this:=e▸this
   cases x<;>first|(cases this;done)|skip
   have:=beq_iff_eq.mp this
   rw[this]
 cases hl:rJ.lookup c with
 |none=>
  replace h:=hl▸h
  have:c=118:=aK (by simpa using h)
  refine fI this ?_
  have:=key (118,0) (.head _)
  rw[show rJ.lookup 118=none from rfl] at this
  exact this
 |some n=>
  have:=key (c,n) (.tail _ (j4 hl))
  rw[hl] at this
  exact this
structure Wa (d:List (MV×MV)):Prop where
 c:cR d sKt=some (.d 11)
 b:cR d Vm=some (.d 79)
 a:d.all (λp=>eE p.1==2)=true
theorem Kr(g:μ[n]?=some (.b d))(a:d.all (λp=>eE p.1==2)=true)(h:cR d (.g s)=some v):ez μ (.d n) (.g s)=some v:=by
 delta ez;exact(Mw g).trans ((j1 a).trans h)
theorem tN(h:x≠y):ct μ .a (.g x) (.g y)=some false:=by
 show some (x==y)=_
 rw[beq_eq_false_iff_ne.mpr h]
section
variable{v c:Nat}{R:List Row}{t:CT}
theorem zN(f:rK c=true)(l:a.a= .b d)(j:Wa d)(hz:z[62]?=some (.b kH)):au Tb (k+1) 1277 [.d 8,.g [c],.c (v:Int)] (KH a R z)=some (.c (kd v c:Nat),KH a R z):=by
 have p:ct (KH a R z) .a (.g [c]) (.g [113])=some false:=tN (by simpa using(λe=>by subst e;cases f))
 have n:ct (KH a R z) .a (.g [c]) (.g [114])=some false:=tN (by simpa using(λe=>by subst e;cases f))
 by_cases h:c=84
 ·refine fI h ?_
  exact pY [] trivial ⋯
 ·have m:ct (KH a R z) .a (.g [c]) (.g [84])=some false:=tN (by simpa using h)
  have o:ez (KH a R z) (.d 79) (.g [c])=some (.c (kd v c:Nat)):=by
   delta ez;exact(Mw (t_ (i:=62) hz)).trans ((j1 (pP (v:=v) f h).1).trans (pP (v:=v) f h).2)
  exact pY [(1,.b false),(4,.b false),(6,.b false),(8,.v (.d 79)),(9,.v (.c (kd v c:Nat)))] (AA (AA (AA (AA (AA trivial p) n) m) (Kr (s:=[107,105,110,100,115]) (by show some a.a=_;rw[l]:(KH a R z)[8]?=some (.b d)) j.a j.b)) o) ⋯
theorem v7(W:KW R)(C:R.length<=99999)(B:bB c=true->rG R (kd v c) (aR c 84))(y:match t with| .b x=>rK x=true/\x=c| .r x=>bB x=true/\x=c| .q x=>bB x=true/\x=c){D:Prop}(w:∀(R':List Row) (n:Nat),(∀k a z d,a.a= .b d->Wa d->z[62]?=some (.b kH)->au Tb (k+8) 1277 [.d 8,t.d,.c (v:Int)] (KH a R z)=some (.c (n:Int),KH a R' z))->cj R' v n t->dM R R' 1->D):D:=by
 cases t with
 |b x=>
  obtain⟨h,rfl⟩:=y
  exact w R (kd v x) (λk a z d i f hz=>zN (k:=k+7) h i f hz) rfl ((dM.s W).e R5)
 |r x=>
  obtain⟨h,rfl⟩:=y
  refine wk W C .a (B h) λR' j u P=>?_
  refine w R' (j+20) (λk a z d i f hz=>?_) ⟨h,j,rfl,P.b⟩ P.g
  have m:rK x=true:=by unfold rK;rw[h];rfl
  have p:(KH a R z)[8]?=some (.b d):=by show some a.a=_;rw[i]
  have o:=Kr (s:=[107,116]) p f.a f.c
  have A:=zN (k:=k+6) (v:=v) (R:=R) m i f hz
  have l:=u (k+1) a z
  exact pY [(6,.v (.d 11)),(9,.a (.c (kd v x:Nat)) (KH a R z)),(11,.a (.c ((j+20:Nat):Int)) (KH a R' z))] (AA (AA (AA trivial o) A) l) ⋯
 |q x=>
  obtain⟨h,rfl⟩:=y
  refine wk W C .b (B h) λR' j u P=>?_
  refine w R' (j+20) (λk a z d i f hz=>?_) ⟨h,j,rfl,P.b⟩ P.g
  have m:rK x=true:=by unfold rK;rw[h];rfl
  have p:(KH a R z)[8]?=some (.b d):=by show some a.a=_;rw[i]
  have o:=Kr (s:=[107,116]) p f.a f.c
  have A:=zN (k:=k+6) (v:=v) (R:=R) m i f hz
  have l:=u (k+1) a z
  exact pY [(3,.v (.d 11)),(6,.a (.c (kd v x:Nat)) (KH a R z)),(9,.a (.c ((j+20:Nat):Int)) (KH a R' z))] (AA (AA (AA trivial o) A) l) ⋯
end
end
section
open PySem
theorem y7(x:Int):Builtin.bitAnd x 18446744073709551615=x%18446744073709551616:=by
 by_cases a:0<=x
 ·rw[PyProof.Rows.bitAnd_pp a (by decide)]
  have h:=uy x.toNat 64
  exact h▸(W6 a h)
 ·rw[PyProof.Rows.bitAnd_np a (by decide)]
  have h:(18446744073709551615:Int).toNat&&&(uw x).toNat=(uw x).toNat%18446744073709551616:=by
   rw[Nat.and_comm]
   exact uy (uw x).toNat 64
  exact h▸(W5 a)
section
variable{k:Nat}{μ:Hp}{n:Int}
theorem wr{m:Int}{p q:Nat}(e:m=n%(p:Int))(a:0<q)(d:p=q+q){g:Prop}(k1:ie (.c (m.fdiv (q:Nat)))=some false->(n+(q:Nat))%(p:Nat) - (q:Nat)=m->g)(k2:ie (.c (m.fdiv (q:Nat)))=some true->(n+(q:Nat))%(p:Nat) - (q:Nat)=m - (p:Nat)->g):g:=by
 have i:0<(q:Int):=adu a
 have hm:=fZ n (b:=(p:Int)) (Sr a d)
 have f:=rO n (b:=(p:Int)) (Sq a d)
 have E:(n+(q:Nat))%(p:Int)=(m+(q:Nat))%(p:Int):=by rw[e,Int.emod_add_emod]
 rw[<-e] at hm f
 have F:m.fdiv (q:Nat)=m/(q:Nat):=lS _ (Sp a)
 by_cases h:m<(q:Int)
 ·refine k1 (F▸(Fo hm h)▸rfl) ?_
  rw[E,mM (Sn e a hm) (Sm e d h)];exact Sl
 ·refine k2 ?_ ?_
  ·have:m/(q:Int)=1:=by
    rw[show m=(m - q)+q from Sk,Int.add_ediv_of_dvd_right (Int.dvd_refl _),Int.ediv_self (W2 a),Fo (Sj e h) (Si e d f)];rfl
   rw[F,this];rfl
  ·rw[E,show m+(q:Nat)=(m+q - p)+p from Sh,Int.add_emod_right,mM (Sg e d h) (Sf e d hm f)];exact Se
theorem sm{bits p q:Nat}(hb:bits=8/\p=256/\q=128\/bits=16/\p=65536/\q=32768\/bits=32/\p=4294967296/\q=2147483648\/bits=64/\p=18446744073709551616/\q=9223372036854775808):
  au Tb (k+1) 322 [.c n,.c (bits:Int)] μ=some (.c ((n+q)%p - q),μ):=by
 rcases hb with⟨rfl,rfl,rfl⟩|⟨rfl,rfl,rfl⟩|⟨rfl,rfl,rfl⟩|⟨rfl,rfl,rfl⟩
 ·exact wr (t7 n) (by decide) rfl (λa e=>e▸gN [(5,.b false)] a ⋯) λa e=>e▸gN [(5,.b true)] a ⋯
 ·exact wr (tY n) (by decide) rfl (λa e=>e▸gN [(5,.b false)] a ⋯) λa e=>e▸gN [(5,.b true)] a ⋯
 ·exact wr (PyProof.Rows.bitAnd_m32 n) (by decide) rfl (λa e=>e▸gN [(5,.b false)] a ⋯) λa e=>e▸gN [(5,.b true)] a ⋯
 ·exact wr (y7 n) (by decide) rfl (λa e=>e▸gN [(5,.b false)] a ⋯) λa e=>e▸gN [(5,.b true)] a ⋯
end
end
section
open PySem
noncomputable def lE(k:Nat)(n:Int):Int:=match k with
 |1=>n%256|4=>n%256|2=>n%65536|6=>n%65536
 |3=>(n+(128:Nat))%(256:Nat) - (128:Nat)
 |5=>(n+(32768:Nat))%(65536:Nat) - (32768:Nat)
 |9=>(n+(9223372036854775808:Nat))%(18446744073709551616:Nat) - (9223372036854775808:Nat)
 |10=>(n+(9223372036854775808:Nat))%(18446744073709551616:Nat) - (9223372036854775808:Nat)
 |_=>(n+(2147483648:Nat))%(4294967296:Nat) - (2147483648:Nat)
section
variable{K k m:Nat}{μ:Hp}{n s:Int}{a:jJ}{R:List Row}{z:List MO}{l:List MV}
theorem VJ:au Tb (K+2) 329 [.c n] μ=some (.c ((n+(2147483648:Nat))%(4294967296:Nat) - (2147483648:Nat)),μ):=
 gN [(0,.a (.c ((n+(2147483648:Nat))%(4294967296:Nat) - (2147483648:Nat))) μ)] (sm (k:=K) (n:=n) (μ:=μ) (bits:=32) (.inr (.inr (.inl ⟨rfl,rfl,rfl⟩)))) ⋯
theorem VK:au Tb (K+2) 336 [.c n] μ=some (.c ((n+(9223372036854775808:Nat))%(18446744073709551616:Nat) - (9223372036854775808:Nat)),μ):=
 gN [(0,.a (.c ((n+(9223372036854775808:Nat))%(18446744073709551616:Nat) - (9223372036854775808:Nat))) μ)] (sm (k:=K) (n:=n) (μ:=μ) (bits:=64) (.inr (.inr (.inr ⟨rfl,rfl,rfl⟩)))) ⋯
theorem zm(h:1<=k/\k<=11):au Tb (K+3) 350 [.c (k:Int),.c n] μ=some (.c (lE k n),μ):=by
 have b:∀{x op:Nat},tJ (K+2) 350 [.c (x:Int),.c n] μ [(op,.a (.c ((n+(2147483648:Nat))%(4294967296:Nat) - (2147483648:Nat))) μ)]=some (.c ((n+(2147483648:Nat))%(4294967296:Nat) - (2147483648:Nat)),μ,True/\au Tb (K+2) 329 [.c n] μ=some (.c ((n+(2147483648:Nat))%(4294967296:Nat) - (2147483648:Nat)),μ))->au Tb (K+3) 350 [.c (x:Int),.c n] μ=some (.c ((n+(2147483648:Nat))%(4294967296:Nat) - (2147483648:Nat)),μ):=λh=>gN _ VJ h
 have d:∀{x op:Nat},tJ (K+2) 350 [.c (x:Int),.c n] μ [(op,.a (.c ((n+(9223372036854775808:Nat))%(18446744073709551616:Nat) - (9223372036854775808:Nat))) μ)]=some (.c ((n+(9223372036854775808:Nat))%(18446744073709551616:Nat) - (9223372036854775808:Nat)),μ,True/\au Tb (K+2) 336 [.c n] μ=some (.c ((n+(9223372036854775808:Nat))%(18446744073709551616:Nat) - (9223372036854775808:Nat)),μ))->au Tb (K+3) 350 [.c (x:Int),.c n] μ=some (.c ((n+(9223372036854775808:Nat))%(18446744073709551616:Nat) - (9223372036854775808:Nat)),μ):=λh=>gN _ VK h
 match k with
 |0=>exfalso;exact Su h
 |1|4=>
  show _=some (MV.c (n%256),μ)
  rw[<-t7]
  exact nD ⋯
 |2|6=>
  show _=some (MV.c (n%65536),μ)
  rw[<-tY]
  exact nD ⋯
 |3=>exact gN [(10,.a (.c (lE 3 n)) μ)] (sm (k:=K+1) (n:=n) (μ:=μ) (bits:=8) (.inl ⟨rfl,rfl,rfl⟩)) ⋯
 |5=>exact gN [(12,.a (.c (lE 5 n)) μ)] (sm (k:=K+1) (n:=n) (μ:=μ) (bits:=16) (.inr (.inl ⟨rfl,rfl,rfl⟩))) ⋯
 |7=>exact b (x:=7) (op:=16) ⋯
 |8=>exact b (x:=8) (op:=16) ⋯
 |11=>exact b (x:=11) (op:=16) ⋯
 |9=>exact d (x:=9) (op:=15) ⋯
 |10=>exact d (x:=10) (op:=16) ⋯
 |x+12=>exfalso;exact Ss h
theorem Aa(h:1<=k/\k<=8):au Tb (K+3) 364 [.d 11,.c (k:Int)] (KH a R z)=some (.c 1,KH a R z):=by
 have e:([1,2,3,4,5,6,7,8].map λk:Nat=>au Tb (K+3) 364 [.d 11,.c (k:Int)] (KH a R z))=br 8 (some (.c 1,KH a R z)):=⋯
 obtain⟨j,rfl⟩:=Nat.exists_eq_add_of_le' h.1
 have hj:=h.2
 have e:=congrArg (λl=>l[j]?) e
 rw[aL,ux hj,show[1,2,3,4,5,6,7,8]=(fO 8).map (· +1) by rfl,aL,qg hj] at e
 exact ba e
theorem rA(h:1<=k/\k<=8)(b:s=1\/s=3):au Tb (K+4) 357 [.d 11,.c (k:Int),.e [.c s,.c n]] (KH a R z)=some (.e [.c 1,.c (lE k n)],KH a R z):=by
 have e:=zm (K:=K) (k:=k) (n:=n) (μ:=KH a R z) (⟨bN [_] 1 V0.A (.o 1 V0.A .z) rfl h.1,bN [_] V0.A 11 (.o V0.A 8 .z) rfl h.2⟩)
 have g:=Aa (K:=K) (a:=a) (R:=R) (z:=z) h
 rcases b with rfl|rfl
 ·exact bu [(4,ow g),(9,ow e)] ⋯
 ·exact bu [(9,ow g),(14,ow e)] ⋯
theorem Ag(b:s=1\/s=3):au Tb (K+4) 357 [.d 11,.c 11,.e [.c s,.c n]] (KH a R z)=some (.e [.c 3,.c (lE 11 n)],KH a R z):=by
 have e:=zm (K:=K) (k:=11) (n:=n) (μ:=KH a R z) (by decide)
 rcases b with rfl|rfl
 ·exact gN [(12,.a (.c (lE 11 n)) (KH a R z))] e ⋯
 ·exact gN [(17,.a (.c (lE 11 n)) (KH a R z))] e ⋯
theorem tL(h:k=9\/k=10):au Tb (K+4) 357 [.d 11,.c (k:Int),.e [.c 2,.c n]] (KH a R z)=some (.e [.c 2,.c (lE k n)],KH a R z):=by
 have e:=zm (K:=K) (k:=k) (n:=n) (μ:=KH a R z) (h.elim (λb=>⟨bN [_] 1 V0.A (.f 9 V0.A .z) rfl b,bN [_] V0.A 11 (.e V0.A 9 .z) rfl b⟩) λb=>⟨bN [_] 1 V0.A (.f 10 V0.A .z) rfl b,bN [_] V0.A 11 (.e V0.A 10 .z) rfl b⟩)
 rcases h with rfl|rfl
 ·exact gN [(14,.a (.c (lE 9 n)) (KH a R z))] e ⋯
 ·exact gN [(14,.a (.c (lE 10 n)) (KH a R z))] e ⋯
theorem qG{μ:Hp}{x y:Nat}{b:Bool}(h:decide (x<=y)=b):ct μ .d (.c (x:Int)) (.c (y:Int))=some b:=by
 show some (decide ((x:Int)<=(y:Int)))=_
 refine h▸?_;congr 1;simp
theorem mA(h:(b9 R)[m]?=some (.e (.c s::l)))(hm:15<=m)(q:R.length<=100000){g:Int}(p:s=2/\g=4\/s=3/\g=5\/s=5/\g=6\/s=4/\g=4):au Tb (K+2) 364 [.d 11,.c (m:Int)] (KH a R z)=some (.c g,KH a R z):=by
 have i:ct (KH a R z) .d (.c ((1:Nat):Int)) (.c (m:Int))=some true:=qG (by simp;exact(bk (by decide) hm))
 have j:ct (KH a R z) .d (.c (m:Int)) (.c ((8:Nat):Int))=some false:=qG (by simp;exact(bk (by decide) hm))
 have f:∀c:Nat,c<15->ct (KH a R z) .a (.c (m:Int)) (.c (c:Int))=some false:=λc t=>nB λr=>bZ [_,_] (.o 15 V0.A (.o (V0.B+1) 15 (.e V0.A V0.B .z))) rfl hm t r
 have e:=mJ (k:=K) (a:=a) (z:=z) h q
 rcases p with⟨rfl,rfl⟩|⟨rfl,rfl⟩|⟨rfl,rfl⟩|⟨rfl,rfl⟩
 ·exact pY [(0,.b true),(1,.b false),(3,.b false),(5,.b false),(7,.b false),(9,.b false),(11,.b false),(13,.b false),(16,.a (.e (.c 2::l)) (KH a R z))] (AA (AA (AA (AA (AA (AA (AA (AA (AA trivial i) j) (f 9 AG)) (f 10 AF)) (f 11 AE)) (f 12 AD)) (f 13 AB)) (f 14 Az)) e) ⋯
 ·exact pY [(0,.b true),(1,.b false),(3,.b false),(5,.b false),(7,.b false),(9,.b false),(11,.b false),(13,.b false),(16,.a (.e (.c 3::l)) (KH a R z))] (AA (AA (AA (AA (AA (AA (AA (AA (AA trivial i) j) (f 9 AG)) (f 10 AF)) (f 11 AE)) (f 12 AD)) (f 13 AB)) (f 14 Az)) e) ⋯
 ·exact pY [(0,.b true),(1,.b false),(3,.b false),(5,.b false),(7,.b false),(9,.b false),(11,.b false),(13,.b false),(16,.a (.e (.c 5::l)) (KH a R z))] (AA (AA (AA (AA (AA (AA (AA (AA (AA trivial i) j) (f 9 AG)) (f 10 AF)) (f 11 AE)) (f 12 AD)) (f 13 AB)) (f 14 Az)) e) ⋯
 ·exact pY [(0,.b true),(1,.b false),(3,.b false),(5,.b false),(7,.b false),(9,.b false),(11,.b false),(13,.b false),(16,.a (.e (.c 4::l)) (KH a R z))] (AA (AA (AA (AA (AA (AA (AA (AA (AA trivial i) j) (f 9 AG)) (f 10 AF)) (f 11 AE)) (f 12 AD)) (f 13 AB)) (f 14 Az)) e) ⋯
end
end
section
open PySem
noncomputable def RD:List Nat:=[98,99,121,89,104,72,105,117,110,101]
noncomputable def k1(c:Nat):Int:=cond (aR c 110) 3 1
noncomputable def k2(c:Nat)(n:Int):Int:=match c with
 |98=>n.fmod 256|89=>n.fmod 256
 |99=>n.fmod 65536|72=>n.fmod 65536
 |121=>(n+128).fmod 256 - 128
 |104=>(n+32768).fmod 65536 - 32768|101=>(n+32768).fmod 65536 - 32768
 |_=>n
theorem Kn{P:Nat->Prop}(h:c∈RD)(a0:P 98)(a1:P 99)(a2:P 121)(a3:P 89)(d:P 104)(j:P 72)(f:P 105)(e:P 117)(i:P 110)(g:P 101):P c:=by
 have k:∀{x:Nat} {l:List Nat},P x->(∀c∈l,P c)->∀c∈x::l,P c:=λa b=>List.forall_mem_cons.mpr ⟨a,b⟩
 exact k a0 (k a1 (k a2 (k a3 (k d (k j (k f (k e (k i (k g λc h=>(iM h).elim))))))))) c h
inductive rU (k:Nat):CT->MV->MV->Prop
 |y (c:Nat) (s n:Int) (hc:c∈RD) (hs:s=1\/s=3) (h1: -2147483648<=n) (h2:n<2147483648):rU k (.b c) (.e [.c s,.c n]) (.e [.c (k1 c),.c (k2 c n)])
 |q (c:Nat) (n:Int) (hc:c=108\/c=76) (h1: -9223372036854775808<=n) (h2:n<9223372036854775808):rU k (.b c) (.e [.c 2,.c n]) (.e [.c 2,.c n])
 |m (c:Nat) (x:Int) (hc:c=115\/c=111\/c=107):rU k (.b c) (.e [.c 4,.c x]) (.e [.c 4,.c x])
 |o (w:MV) (hw:bh 7 w=true):rU k (.b 112) (.e [.c 5,.c 16,w]) (.e [.c 5,.c 16,w])
 |B (c:Nat) (w:MV) (hw:bh 7 w=true):rU k (.q c) (.e [.c 5,.c (k:Int),w]) (.e [.c 5,.c (k:Int),w])
 |A (c:Nat) (w:MV) (hw:bh 7 w=true):rU k (.r c) (.e [.c 6,w]) (.e [.c 6,w])
section
variable{K k m:Nat}{μ:Hp}{n s:Int}{a:jJ}{R:List Row}{z:List MO}{l:List MV}{t:CT}{v w:MV}
theorem fm{n m:Int}(h:0<=m):n.fmod m=n%m:=eO n h
theorem sa(h:rU k t v w):au Tb (K+1) 1284 [t.d,v] μ=some (w,μ):=by
 cases h with
 |y c s n f p j i=>
  refine Kn (P:=λc=>au Tb (K+1) 1284 [(CT.b c).d,.e [.c s,.c n]] μ=some (.e [.c (k1 c),.c (k2 c n)],μ)) f ?_ ?_ ?_ ?_ ?_ ?_ ?_ ?_ ?_ ?_<;>exact nD ⋯
 |q c n f j i=>rcases f with rfl|rfl<;>exact nD ⋯
 |m c x f=>rcases f with rfl|rfl|rfl<;>exact nD ⋯
 |o w g=>exact nD ⋯
 |B c w g=>exact nD ⋯
 |A c w g=>exact nD ⋯
theorem xA(h:x≠y):MV.k (.e (.c x::p)) (.e (.c y::q))=false:=fe (by simp[h])
theorem Ih(g:au Tb (K+2) 364 [.d 11,.c (m:Int)] (KH a R z)=some (.c 6,KH a R z))(f:bh 7 w=true):au Tb (K+3) 378 [.d 11,.e [.c 6,w],.c (m:Int)] (KH a R z)=some (.h true,KH a R z):=by
 have o:ct (KH a R z) .a (.e [.c 6,w]) (.e [.c 4,.c 0])=some false:=by
  have:bh 8 (.e [.c 6,w])=true:=by show(bh 7 w&&true)=true;rw[f];rfl
  exact(j1 (by rw[this];rfl)).trans (congrArg some (xA (by decide)))
 exact qP [(0,.a (.c 6) (KH a R z)),(10,.b false)] g o ⋯
theorem Bl(f:au Tb (K+2) 364 [.d 11,.c (m:Int)] (KH a R z)=some (.c 5,KH a R z)):au Tb (K+3) 378 [.d 11,.e [.c 5,.c (m:Int),w],.c (m:Int)] (KH a R z)=some (.h true,KH a R z):=by
 have o:ct (KH a R z) .a (.c (m:Int)) (.c (m:Int))=some true:=by
  show some (MV.k (.c (m:Int)) (.c (m:Int)))=_
  rw[hO]
 exact qP [(0,.a (.c 5) (KH a R z)),(7,.b true)] f o ⋯
theorem Ig(b:au Tb (K+2) 364 [.d 11,.c (m:Int)] (KH a R z)=some (.c 4,KH a R z)):au Tb (K+3) 378 [.d 11,.e [.c 4,.c x],.c (m:Int)] (KH a R z)=some (.h true,KH a R z):=
 gN [(0,.a (.c 4) (KH a R z))] b ⋯
end
section
variable{K k m:Nat}{σ:St}{δ:List MO}{t:CT}{v w:MV}
theorem pU(h:m≠17):dj (au Tb (K+1)) (HS σ δ) (.d 148) [.c (m:Int)] (.c 664)=some (.c (m:Int),HS σ δ):=by
 have e:dj (au Tb K) (HS σ δ) (.d 153) [.c (m:Int),.c (m:Int)] .b=some (.c (m:Int),HS σ δ):=by
  rw[vU (d:=[(.c 17,.c 5)]) rfl rfl]
  show some ((if MV.k (.c 17) (.c (m:Int)) then some (MV.c 5) else none).getD (.c (m:Int)),HS σ δ)=_
  rw[fe (by intro q;have q:=MV.c.inj q;exact((bL h).elim (λf=>bZ [_] (.e 17 V0.A (.o (V0.A+1) 17 .z)) rfl (eA q) f) λf=>bZ [_] (.e V0.A 17 (.o (17+1) V0.A .z)) rfl ((eA q).symm) f))];rfl
 exact gN [(2,.a (.c (m:Int)) (HS σ δ))] e ⋯
theorem p8(i:s=1\/s=3)(b:1<=kp/\kp<=8)(f:g=lE kp n)
  (j:tJ (K+5) 879 [.d 148,.c (kk:Int),.e [.c 1,.c n]] (HS σ δ) [(7,.a (.e [.c 1,.c (lE kp n)]) (HS σ δ))]=some (.e [.c 1,.c (lE kp n)],HS σ δ,True/\au Tb (K+5) 357 [.d 11,.c (kp:Int),.e [.c 1,.c n]] (HS σ δ)=some (.e [.c 1,.c (lE kp n)],HS σ δ)))
  (h:tJ (K+5) 879 [.d 148,.c (kk:Int),.e [.c 3,.c n]] (HS σ δ) [(7,.a (.e [.c 1,.c (lE kp n)]) (HS σ δ))]=some (.e [.c 1,.c (lE kp n)],HS σ δ,True/\au Tb (K+5) 357 [.d 11,.c (kp:Int),.e [.c 3,.c n]] (HS σ δ)=some (.e [.c 1,.c (lE kp n)],HS σ δ))):
  au Tb (K+6) 879 [.d 148,.c (kk:Int),.e [.c s,.c n]] (HS σ δ)=some (.e [.c 1,.c g],HS σ δ):=by
 rw[f]
 rcases i with rfl|rfl
 ·exact gN _ (rA (K:=K+1) b (.inl rfl)) j
 ·exact gN _ (rA (K:=K+1) b (.inr rfl)) h
theorem qV(u:σ.R.length<=100000)(g:cj σ.R 0 m t)(h:rU m t v w):au Tb (K+6) 879 [.d 148,.c (m:Int),v] (HS σ δ)=some (w,HS σ δ):=by
 cases h with
 |y c s n f b r p=>
  have hm:=g
  refine fI hm ?_
  clear g u
  refine Kn (P:=λc=>au Tb (K+6) 879 [.d 148,.c (kd 0 c:Nat),.e [.c s,.c n]] (HS σ δ)=some (.e [.c (k1 c),.c (k2 c n)],HS σ δ)) f ?_ ?_ ?_ ?_ ?_ ?_ ?_ ?_ ?_ ?_
  ·exact p8 b (kk:=1) (kp:=1) (by decide) (fm (by decide)) ⋯ ⋯
  ·exact p8 b (kk:=2) (kp:=2) (by decide) (fm (by decide)) ⋯ ⋯
  ·exact p8 b (kk:=3) (kp:=3) (by decide) (congrArg (· - 128) (fm (by decide))) ⋯ ⋯
  ·exact p8 b (kk:=4) (kp:=4) (by decide) (fm (by decide)) ⋯ ⋯
  ·exact p8 b (kk:=5) (kp:=5) OY (congrArg (· - 32768) (fm (by decide))) ⋯ ⋯
  ·exact p8 b (kk:=6) (kp:=6) (by decide) (fm (by decide)) ⋯ ⋯
  ·exact p8 b (kk:=7) (kp:=7) (by decide) (O0 r p) ⋯ ⋯
  ·exact p8 b (kk:=8) (kp:=8) (by decide) (O0 r p) ⋯ ⋯
  ·have e:=Ag (K:=K+1) (n:=n) (a:=jn σ) (R:=σ.R) (z:=gh σ++δ) b
   rw[show lE 11 n=n from OZ r p] at e
   rcases b with rfl|rfl
   ·exact gN [(7,.a (.e [.c 3,.c n]) (HS σ δ))] e ⋯
   ·exact gN [(7,.a (.e [.c 3,.c n]) (HS σ δ))] e ⋯
  ·exact p8 b (kk:=17) (kp:=5) OY (congrArg (· - 32768) (fm (by decide))) ⋯ ⋯
 |q c n f r p=>
  have hm:=g
  subst hm
  rcases f with rfl|rfl
  ·have e:=tL (K:=K+1) (k:=9) (n:=n) (a:=jn σ) (R:=σ.R) (z:=gh σ++δ) (.inl rfl)
   have f:lE 9 n=n:=OX r p
   rw[f] at e
   exact gN [(7,.a (.e [.c 2,.c n]) (HS σ δ))] e ⋯
  ·have e:=tL (K:=K+1) (k:=10) (n:=n) (a:=jn σ) (R:=σ.R) (z:=gh σ++δ) (.inr rfl)
   have f:lE 10 n=n:=OX r p
   rw[f] at e
   exact gN [(7,.a (.e [.c 2,.c n]) (HS σ δ))] e ⋯
 |m c x f=>
  have hm:=g
  subst hm
  rcases f with rfl|rfl|rfl
  ·exact nD ⋯
  ·exact nD ⋯
  ·have i:=mA (K:=K+2) (a:=jn σ) (R:=σ.R) (z:=gh σ++δ) (m:=18) (s:=2) (l:=[.c 66,.e []]) (by rw[aJ (by simp[bR])];rfl) OW u (.inl ⟨rfl,rfl⟩)
   exact gN [(3,.a (.h true) (HS σ δ))] (Ig (x:=x) i) ⋯
 |o w C=>
  have hm:=g
  subst hm
  have i:=mA (K:=K+2) (a:=jn σ) (R:=σ.R) (z:=gh σ++δ) (m:=16) (s:=3) (l:=[.c 69,.e []]) (by rw[aJ (by simp[bR])];rfl) OV u (.inr (.inl ⟨rfl,rfl⟩))
  exact gN [(3,.a (.h true) (HS σ δ))] (Bl (w:=w) i) ⋯
 |B c w C=>
  obtain⟨_,j,rfl,hj⟩:=g
  have D:j+20≠17:=xc
  have i:=mA (K:=K+2) (a:=jn σ) (R:=σ.R) (z:=gh σ++δ) (m:=j+20) (gf hj) uH u (.inr (.inl ⟨rfl,rfl⟩))
  exact qP [(1,.a (.c ((j+20:Nat):Int)) (HS σ δ)),(3,.a (.h true) (HS σ δ))] (pU (K:=K+4) (m:=j+20) (σ:=σ) (δ:=δ) D) (Bl (w:=w) i) ⋯
 |A c w C=>
  obtain⟨_,j,rfl,hj⟩:=g
  have D:j+20≠17:=xc
  have i:=mA (K:=K+2) (a:=jn σ) (R:=σ.R) (z:=gh σ++δ) (m:=j+20) (gf hj) uH u (.inr (.inr (.inl ⟨rfl,rfl⟩)))
  exact qP [(1,.a (.c ((j+20:Nat):Int)) (HS σ δ)),(3,.a (.h true) (HS σ δ))] (pU (K:=K+4) (m:=j+20) (σ:=σ) (δ:=δ) D) (Ih i C) ⋯
end
end
section
section
variable{K m:Nat}{a:jJ}{R:List Row}{z:List MO}{s t:Int}{l as r:List MV}{x:MV}{w:MV}
theorem VF(h:(b9 R)[m]?=some (.e (.c s::x::l)))(b:s=2\/s=3)(f:R.length<=100000):au Tb (K+2) 181 [.d 11,.c (m:Int)] (KH a R z)=some (x,KH a R z):=by
 have e:=mJ (k:=K) (a:=a) (z:=z) h f
 rcases b with rfl|rfl
 ·exact gN [(1,.a (.e (.c 2::x::l)) (KH a R z))] e ⋯
 ·exact gN [(1,.a (.e (.c 3::x::l)) (KH a R z))] e ⋯
theorem A1(h:(b9 R)[m]?=some (.e [.c s,x,w]))(b:s=2\/s=3)(f:R.length<=100000):au Tb (K+2) 188 [.d 11,.c (m:Int)] (KH a R z)=some (w,KH a R z):=by
 have e:=mJ (k:=K) (a:=a) (z:=z) h f
 rcases b with rfl|rfl
 ·exact gN [(1,.a (.e [.c 2,x,w]) (KH a R z))] e ⋯
 ·exact gN [(1,.a (.e [.c 3,x,w]) (KH a R z))] e ⋯
theorem N3(h:(b9 R)[m]?=some (.e (.c s::l)))(b:R.length<=100000):au Tb (K+2) 167 [.d 11,.c (m:Int)] (KH a R z)=some (.c s,KH a R z):=gN [(1,.a (.e (.c s::l)) (KH a R z))] (mJ (k:=K) (a:=a) (z:=z) h b) ⋯
theorem Ja(h:(b9 R)[m]?=some (.e (.c s::l)))(hm:12<=m)(g:R.length<=100000){b:Bool}(hb:s=3/\b=true\/s=2/\b=false\/s=4/\b=false):au Tb (K+2) 195 [.d 11,.c (m:Int)] (KH a R z)=some (.h b,KH a R z):=by
 have f:ct (KH a R z) .d (.c ((1:Nat):Int)) (.c (m:Int))=some true:=qG (by simp;exact(bk (by decide) hm))
 have o2:ct (KH a R z) .d (.c (m:Int)) (.c ((11:Nat):Int))=some false:=qG (by simp;exact hm)
 have e:=mJ (k:=K) (a:=a) (z:=z) h g
 rcases hb with⟨rfl,rfl⟩|⟨rfl,rfl⟩|⟨rfl,rfl⟩
 ·exact qQ [(0,.b true),(2,.b false),(5,.a (.e (.c 3::l)) (KH a R z))] f o2 e ⋯
 ·exact qQ [(0,.b true),(2,.b false),(5,.a (.e (.c 2::l)) (KH a R z))] f o2 e ⋯
 ·exact qQ [(0,.b true),(2,.b false),(5,.a (.e (.c 4::l)) (KH a R z))] f o2 e ⋯
end
noncomputable def ig{c d:Type}(p:c->d->Prop):List c->List d->Prop
 |[],[]=>True
 |a::x,b::y=>p a b/\ig p x y
 |_,_=>False
theorem ig.e{b c:Type}{p:b->c->Prop}:∀{x:List b} {y:List c},ig p x y->x.length=y.length
 |[],[],_=>rfl
 |_::_,_::_,h=>by simp[h.2.e]
 |[],_::_,h=>h.elim
 |_::_,[],h=>h.elim
theorem ig.u{c d:Type}{p q:c->d->Prop}(f:∀a b,p a b->q a b):∀{x:List c} {y:List d},ig p x y->ig q x y
 |[],[],_=>trivial
 |_::_,_::_,h=>⟨f _ _ h.1,h.2.u f⟩
 |[],_::_,h=>h.elim
 |_::_,[],h=>h.elim
noncomputable def cB(l:List Nat):List MV:=l.map λ(n:Nat)=>MV.c (n:Int)
theorem nQ{body:Loc->Hp->Option (Fl×Loc×Hp)}{store:MV->Loc->Hp->Option (Loc×Hp)}{v:MV}{r:List MV}{ρ bt c:Loc}{μ bC b:Hp}(d:store v ρ μ=some (bt,bC))(hb:body bt bC=some (.a,c,b)):qx body store (v::r) ρ μ=qx body store r c b:=(j7 d).trans (NG hb)
section
variable{v l:Nat}{R:List Row}{ta ma:MV}
theorem TS{ks:List Nat}{ts:List CT}:KW R->R.length+ks.length<=99999->Own R l v ta ma->bB l=true->l≠84->ig (λk t=>cj R v k t) ks ts->
  ∃(R':List Row) (H:List Nat),(∀(K:Nat) (a:jJ) (g:List MV) (z:List MO) (y:List MO) (ρ:Loc),bx ρ 14=some (.d 11)->bx ρ 43=some ta->bx ρ 44=some ma->bx ρ 56=some (.d (z.length+17))->g.length+ks.length<=1000->
   ∃(Q:List MO) (ρ':Loc),bx ρ' 56=some (.d (z.length+17))/\qx (λρ μ=>aY Tb (au Tb (K+10)) (K+10) [.d (.n (.d 56) 0 [.j 216 [.d 14,.d 30,.d 43,.d 44]])] ρ μ) (λv ρ μ=>eX Tb (au Tb (K+10)) (.b 30) v ρ μ) (cB ks) ρ (KH a R (cU (ar z (.a g)) y))=some (.a,ρ',KH a R' (cU (ar z (.a (cU g (cB H)))) Q)))/\
   ig (λk t=>cj R' v k t) H (ts.map (CT.e l))/\dM R R' ks.length:=by
 induction ks generalizing R ts with
 |nil=>
  intro W P O V X N
  cases ts with
  |cons _ _=>exact N.elim
  |nil=>exact⟨R,[],λK a g z y ρ J J J h4 J=>⟨y,ρ,h4,by show some (Fl.a,ρ,_)=_;rw[show cB []=[] from rfl,vE]⟩,trivial,dM.s W⟩
 |cons k ks ih=>
  intro W P O V X N
  cases ts with
  |nil=>exact N.elim
  |cons t ts=>
   refine ir N λuZ qA=>?_
   refine sL W (bN [_,_] V0.A 99999 (.o (V0.A+(V0.B+1)) 99999 .z) rfl P) O V X uZ λZ h F hc T M=>?_
   have:=M.p
   refine dY (ih (R:=Z) (ts:=ts) M.r (bN [_,_,_] (V0.C+V0.B) 99999 (.o (V0.A+(V0.B+1)) 99999 (.o V0.C (V0.A+1) .z)) rfl P this) (M.w O) V X (qA.u λJ J q=>M.u q)) λR2 H Y Wv G2=>?_
   refine⟨R2,h::H,λK a g z y ρ h1 h2 h3 h4 ho=>?_,⟨G2.u T,Wv⟩,(M.f G2).e (by simp;exact(bN [_] (1+V0.A) (V0.A+1) .z rfl))⟩
   have L:(cU (ar z (.a g)) y)[z.length]?=some (.a g):=rW (aZ _ _)
   have lk:∀(x:Nat) (w:MV),x≠30->bx ρ x=some w->bx (bp ρ 30 (.c (k:Int))) x=some w:=λx w hx hw=>by rw[hP,if_neg hx];exact hw
   refine b6 (bp ρ 30 (.c (k:Int))) λbt U=>?_
   have D:=lk 14 _ (by decide) h1
   have i:=lk 43 _ (by decide) h2
   have E:=lk 44 _ (by decide) h3
   have G:=lk 56 _ (by decide) h4
   rw[<-U] at D i E G
   have S:cU (cU (ar z (.a g)) y) F=cU (ar z (.a g)) (y++F):=rV _ _ _
   have I:=OS (cl:=au Tb (K+10)) (a:=a) (R:=Z) (w:= .c (h:Int)) (rW L:(cU (cU (ar z (.a g)) y) F)[z.length]?=some (.a g)) (W8 P ho)
   have Es:(cU (cU (ar z (.a g)) y) F).set z.length (.a (ar g (.c (h:Int))))=cU (ar z (.a (ar g (.c (h:Int))))) (y++F):=by
    rw[S,LI (by rw[aB];exact R7),dK]
   rw[Es] at I
   have ID:aY Tb (au Tb (K+10)) (K+10) [.d (.n (.d 56) 0 [.j 216 [.d 14,.d 30,.d 43,.d 44]])] bt (KH a R (cU (ar z (.a g)) y))=some (.a,bt,KH a Z (cU (ar z (.a (ar g (.c (h:Int))))) (y++F))):=NG (nz (cI G _) (wt (t_ L)) ((kR (bW (cI D _) (bW (cI (by rw[U,hP,if_pos rfl]) _) (bW (cI i _) (n8 (cI E _)))))).trans (hc K a _)) I)
   refine m8 (Y K a (ar g (.c (h:Int))) z (y++F) bt D i E G (by rw[aB];exact(bN [_,_] (V0.A+1+V0.B) 1000 (.o (V0.A+(V0.B+1)) 1000 .z) rfl ho))) λQ ρ' h5 h6=>?_
   refine⟨Q,ρ',h5,?_⟩
   rw[show cB (k::ks)=MV.c (k:Int)::cB ks from rfl,nQ (bC:=KH a R (cU (ar z (.a g)) y)) (bt:=bt) (U▸rfl) ID]
   exact(show cU g (cB (h::H))=cU (ar g (.c (h:Int))) (cB H) from by rw[yx,rV];rfl)▸h6
end
end
section
section
variable{k f:Nat}{vs:List MV}{ρ ρ' bt:Loc}{μ aG bC:Hp}{v:MV}{F:k6}{s:MS}{rest:List MS}{r:Option (Fl×Loc×Hp)}{T:Tab}{cl:Call}{fuel:Nat}
theorem y9(d:Tb.h f=some F)(hb:eH F.a vs []=some ρ)(c:aY Tb (au Tb k) k F.b ρ μ=some (.b v,ρ',aG)):au Tb (k+1) f vs μ=some (v,aG):=(D5 d).trans ((D5 hb).trans (congrArg E7 c))
theorem cD(h:bQ T cl fuel s ρ μ=some (.a,bt,bC))(b:aY T cl fuel rest bt bC=r):aY T cl fuel (s::rest) ρ μ=r:=(NG h).trans b
theorem H_(h:bQ T cl fuel s ρ μ=some (.b v,bt,bC)):aY T cl fuel (s::rest) ρ μ=some (.b v,bt,bC):=oxR h
theorem ael{P:Prop}(sc:List (Nat×rF))(p:P)(h:qw T cl fuel b ρ μ ⟨uq 0 sc,True⟩=some ((fl,ρ',aG),⟨[],P⟩)):aY T cl fuel b ρ μ=some (fl,ρ',aG):=
 (iD b ρ μ _ _ _ h p).2
theorem aen{P:Prop}(sc:List (Nat×rF))(p:P)(h:exS T cl fuel s ρ μ ⟨uq 0 sc,True⟩=some ((fl,ρ',aG),⟨[],P⟩)):bQ T cl fuel s ρ μ=some (fl,ρ',aG):=
 (Bi s ρ μ _ _ _ h p).2
theorem aem{P:Prop}(sc:List (Nat×rF))(p:P)(h:jC T cl e ρ μ ⟨uq 0 sc,True⟩=some ((v,aG),⟨[],P⟩)):aO T cl e ρ μ=some (v,aG):=
 (bP e ρ μ _ _ _ h p).2
theorem cz:∀{x y:List MS} {ρ:Loc} {μ:Hp},aY T cl fuel x ρ μ=some (.a,bt,bC)->aY T cl fuel (x++y) ρ μ=aY T cl fuel y bt bC
 |[],_,_,_,h=>by refine C8 h ?_;rfl
 |_::_,_,_,_,h=>wj h (λJ J b h=>(NG b).trans (cz h)) λJ J J J e=>nomatch e
end
section
variable{v l:Nat}{R:List Row}{ta ma:MV}{ks:List Nat}{ts:List CT}
theorem vG{i:Prop}(W:KW R)(q:R.length+ks.length<=99999)(O:Own R l v ta ma)(n:bB l=true)(o:l≠84)(c:ks.length<=3)(h:ig (λk t=>cj R v k t) ks ts)(u:∀(R':List Row) (b:List Nat),(∀(K:Nat) (a:jJ) (z:List MO),∃y,au Tb (K+11) 251 [.d 11,.e (cB ks),ta,ma] (KH a R z)=some (.e (cB b),KH a R' (cU z y)))->(ig (λk t=>cj R' v k t) b (ts.map (CT.e l)))->(dM R R' ks.length)->i):i:=by
 refine dY (TS W q O n o h) λR' b w g x=>?_
 have p:b.length<=3:=by rw[g.e,ay];exact h.e▸c
 refine u R' b (λK a z=>?_) g x
 refine m8 (w K a [] z [] [(14,.d 11),(55,.e (cB ks)),(43,ta),(44,ma),(56,.d (z.length+17))] rfl rfl rfl rfl (by simp;exact jT c)) λy ρ' A m=>?_
 rw[vE,show cU [] (cB b)=cB b from rfl] at m
 refine⟨.a (cB b)::y,y9 (F:=adG) (ρ:=[(14,.d 11),(55,.e (cB ks)),(43,ta),(44,ma)]) ⋯ ⋯ (cD (bC:=KH a R (ar z (.a []))) (bt:=[(14,.d 11),(55,.e (cB ks)),(43,ta),(44,ma),(56,.d (z.length+17))]) ⋯ (cD (K_ ⋯ m) (H_ (bt:=ρ') ?_)))⟩
 have j:cU (ar z (.a (cB b))) y=cU z (.a (cB b)::y):=by rw[yx,rV];rfl
 have e:=RH (a:=a) (R:=R') (rW (y:=y) (aZ z (.a (cB b)))) (by unfold cB bz;simp;exact OU p)
 rw[j] at e
 rw[j]
 exact j7 ((j7 (cI A _)).trans e)
end
end
section
structure Cf where
 a:List CT
 g:List CT
 m:CT
 n:CT
 o:Nat
 p:Nat
 h:Nat
noncomputable def Cf.T(Γ:Cf):Nat->List CT|0=>Γ.a|_=>Γ.g
noncomputable def Cf.r(Γ:Cf):Nat->CT|0=>Γ.m|_=>Γ.n
noncomputable def Cf.v(Γ:Cf):Nat->Nat|1=>Γ.h+20|5=>Γ.h+20|_=>19
noncomputable def hU(m:Nat):Nat:=if eI m 6 then 5*m+77 else 5*m+78
noncomputable def uo(d:Nat):Nat->Nat|0=>d+64|1=>66|2=>67|3=>67|4=>68|_=>66
noncomputable def EO:Nat->Nat|1=>1|2=>1|_=>0
noncomputable def Rq:Nat->List Nat|0=>[73,110,118,111,107,101]|1=>[97]|2=>[98]|3=>[99]|4=>[100]|_=>[101]
noncomputable def mfs(σ:St)(m ow a:Nat)(nm:List Nat):List (Nat×MV):=[(131,.c (m:Int)),(219,.c (ow:Int)),(156,.g nm),(375,.c 6),(161,.c (a:Int)),(376,.c 0),(377,.d (hU m+1)),(378,.d (hU m+2)),(158,.c (σ.T m)),(160,.e (σ.Y m)),(379,.e (σ.N m)),(381,.e (σ.pf m)),(123,.f),(382,.c 0)]
structure MF (σ:St) (δ:List MO) (d i m:Nat):Prop where
 a:ez (HS σ δ) (.d 19) (.c (m:Int))=some (.d (hU m))
 b:(HS σ δ)[hU m]?=some (.d 938 (mfs σ m (uo d i) (EO i) (Rq i)))
 c:0<m
 e:m<=12
noncomputable abbrev b0(d i:Nat):Nat:=6*d+i+1
theorem tx(σ:St)(δ:List MO)(b:d<2)(a:i<6):MF σ δ d i (b0 d i):=by
 match d,i with
 |0,0|0,1|0,2|0,3|0,4|0,5|1,0|1,1|1,2|1,3|1,4|1,5=>exact⟨⋯,⋯,by decide,by decide⟩
 |n+2,_=>exfalso;exact Sw b
 |_,n+6=>exfalso;exact Sv a
structure Args (R:List Row) (kk:Nat) (ta:MV):Prop where
 a:∃s x,(b9 R)[kk]?=some (.e [.c s,x,ta])/\(s=2\/s=3)
structure WS (σ:St) (Γ:Cf):Prop where
 r:KW σ.R
 A:σ.R[Γ.h]?=some .f
 x:σ.al=Γ.a.map CT.d
 y:σ.am=Γ.g.map CT.d
 j:Γ.a.length<=3
 m:Γ.g.length<=3
 g:σ.ah=[Γ.m.d,Γ.n.d]
 h:∃t0 t1,σ.af=[.j [Γ.o] t0,.j [Γ.p] t1]/\0<t0/\t0<2455/\0<t1/\t1<2455
 e:Γ.o∈[121,115,112,72,101,108,107,98]
 f:Γ.p∈[121,115,112,72,101,108,107,98]
 v:∀d i,d<2->i<6->∃ks kr,σ.Y (b0 d i)=cB ks/\σ.T (b0 d i)=((kr:Nat):Int)/\ig (λk t=>cj σ.R (Γ.v i) k t) ks (Γ.T d)/\cj σ.R (Γ.v i) kr (Γ.r d)
 p:Nums σ.nu
 w:∀d,∀u∈Γ.T d,bB u.f=true/\u≠ .q 117
 z:∀d,Γ.r d= .b 118\/bB (Γ.r d).f=true
theorem WS.a(W:WS σ Γ)(d:Nat):(Γ.T d).length<=3:=by
 cases d with
 |zero=>exact W.j
 |succ d=>exact W.m
theorem nj(h:l∈[121,115,112,72,101,108,107,98]):bB l=true/\l≠84:=Gm (P:=λl=>bB l=true/\l≠84) ⋯ h
theorem Ck(h:l∈[121,115,112,72,101,108,107,98]):l≠117:=Gm (P:=λl=>l≠117) ⋯ h
theorem Li(σ:St)(R:List Row)(δ y:List MO):KH (jn σ) R (cU (gh σ++δ) y)=HS {σ with R:=R} (cU δ y):=by
 show KH (jn σ) R ((gh σ++δ)++y)=KH (jn σ) R (gh σ++(δ++y))
 rw[cC]
theorem ig.g(G:dM R R' n)(h:ig (λk t=>cj R v k t) ks ts):ig (λk t=>cj R' v k t) ks ts:=h.u λJ J q=>G.u q
section
variable{σ:St}{Γ:Cf}{d i l kk:Nat}{ta ma:MV}
theorem Vy{Q:Prop}(W:WS σ Γ)(F:σ.R.length<=90000)(D:d<2)(H:i<6)(O:Own σ.R l (Γ.v i) ta ma)(N:bB l=true)(S:l≠84)(hA:Args σ.R kk ta)(V:∀(R':List Row) (kr:Nat) (ks:List Nat),(∀(K:Nat) (δ:List MO),∃y,au Tb (K+12) 1012 [.d 10,.e [.c (kk:Int),.c (b0 d i:Nat),ma]] (HS σ δ)=some (.e [.c (kr:Int),.e (cB ks)],HS {σ with R:=R'} (cU δ y)))->(cj R' (Γ.v i) kr ((Γ.r d).e l))->(ig (λk t=>cj R' (Γ.v i) k t) ks ((Γ.T d).map (CT.e l)))->(dM σ.R R' 4)->Q):Q:=by
 refine pI (W.v d i D H) λks kr h1 X J h4=>?_
 refine sL W.r (eK F) O N S h4 λm P h e1 uZ j=>?_
 have G:=J.e▸(W.a d)
 have:=j.p
 refine vG j.r (bN [_,_,_] (V0.C+V0.B) 99999 (.o V0.A 90000 (.o V0.B 3 (.o V0.C (V0.A+1) .z))) rfl F G this) (j.w O) N S G (J.g j) λn q e2 U L=>?_
 refine V n P q (λK δ=>?_) (L.u uZ) U ((j.f L).e (bN [_] (1+V0.A) 4 (.o V0.A 3 .z) rfl G))
 have M:=tx σ δ D H
 refine m8 hA.a λs x Z Y=>?_
 have a1:=e1 (K+1) (jn σ) (gh σ++δ)
 rw[Li] at a1
 refine dG (e2 K (jn σ) (cU (gh σ++δ) h)) λy a2=>?_
 rw[rV,Li] at a2
 have I:au Tb (K+11) 251 [.d 11,.e (cB ks),ta,ma] (HS {σ with R:=m} (cU δ h))=some (.e (cB q),HS {σ with R:=n} (cU δ (h++y))):=by
  rw[<-Li];exact a2
 have E:iu Tb (HS {σ with R:=m} (cU δ h)) (.d (hU (b0 d i))) 160=some (.e (cB ks)):=by
  have M1:=tx {σ with R:=m} (cU δ h) D H
  rw[<-h1];exact WA M1.b
 exact⟨h++y,pY [(1,.b false),(5,.v (.d (hU (b0 d i)))),(10,.a ta (HS σ δ)),(12,.v (.c (kr:Int))),(14,.a (.c (P:Int)) (HS {σ with R:=m} (cU δ h))),(16,.v (.e (cB ks))),(18,.a (.e (cB q)) (HS {σ with R:=n} (cU δ (h++y))))] (AA (AA (AA (AA (AA (AA (AA trivial (nB (by have:=M.c;exact O6 this):ct (HS σ δ) .a (.c (b0 d i:Nat)) (.c ((0:Nat):Int))=some false)) M.a) (A1 (K:=K+9) (a:=jn σ) (z:=gh σ++δ) Z Y (xd F))) (X▸(WA M.b):iu Tb (HS σ δ) (.d (hU (b0 d i))) 158=some (.c (kr:Int)))) a1) E) I) ⋯⟩
end
end
section
section
variable{k f:Nat}{vs:List MV}{μ aG:Hp}{r:MV}{T:Tab}{cl:Call}{fuel:Nat}{ρ ρ':Loc}{v:MV}{s:MS}
theorem eD(l:List (Nat×Ob))(h:qw T cl fuel b ρ μ ⟨uq 0 (RB l),True⟩=some ((fl,ρ',aG),⟨[],WL l True⟩)):aY T cl fuel b ρ μ=some (fl,ρ',aG):=
 ael (RB l) (tE l trivial) h
theorem ur(l:List (Nat×Ob))(h:exS T cl fuel s ρ μ ⟨uq 0 (RB l),True⟩=some ((fl,ρ',aG),⟨[],WL l True⟩)):bQ T cl fuel s ρ μ=some (fl,ρ',aG):=
 aen (RB l) (tE l trivial) h
theorem n9(l:List (Nat×Ob))(h:jC T cl e ρ μ ⟨uq 0 (RB l),True⟩=some ((v,aG),⟨[],WL l True⟩)):aO T cl e ρ μ=some (v,aG):=
 aem (RB l) (tE l trivial) h
end
section
variable{σ:St}{δ:List MO}{i:Nat}{o p:MO}{c a:Nat}{fs:List (Nat×MV)}{l:List MV}{v:MV}
theorem df(σ:St)(δ:List MO)(i:Nat):(HS σ δ)[i+182]?=δ[i]?:=⋯
theorem s9(σ:St)(δ:List MO)(i:Nat)(o:MO):(HS σ δ).set (i+182) o=HS σ (δ.set i o):=⋯
theorem kD(σ:St)(δ:List MO):(HS σ δ).length=δ.length+182:=⋯
noncomputable def fG(c:Nat)(fs:List (Nat×MV))(a:Nat):Option MV:=if(Tb.b c).contains a then bx fs a else none
theorem ed(σ:St)(h:δ[i]?=some (.d c fs))(a:Nat)(v:MV)(e:fG c fs a=some v):iu Tb (HS σ δ) (.d (i+182)) a=some v:=(WA (by rw[df];exact h)).trans e
noncomputable def okS(c:Nat)(fs:List (Nat×MV))(a:Nat):Bool:=(Tb.b c).contains a&&eI fs.length 500
theorem FO(σ:St)(h:δ[i]?=some (.d c fs))(a:Nat)(v:MV)(b:MO)(e:okS c fs a=true)(g:MO.d c (bp fs a v)=b):og Tb (HS σ δ) (.d (i+182)) a v=some (HS σ (δ.set i b)):=by
 subst g
 exact(WA (by rw[df];exact h)).trans ((j1 e).trans (by rw[s9]))
theorem mX(o:MO)(h:δ[i]?=some p):(δ.set i o)[i]?=some o:=cM (ax.mp h).1
theorem jf(j:Nat)(o:MO)(hj:j≠i)(h:δ[i]?=some p):(δ.set j o)[i]?=some p:=by rw[cV hj];exact h
theorem fU(o:MO)(h:δ[i]?=some p):(ar δ o)[i]?=some p:=qz h
theorem h9(δ:List MO)(o:MO)(n:Nat)(e:δ.length=n):(ar δ o)[n]?=some o:=by subst e;exact aZ _ _
theorem cg(y:List MO)(h:δ[i]?=some p):(cU δ y)[i]?=some p:=rW h
theorem dsC(σ:St)(h:δ[i]?=some p)(c:Nat)(fs:List (Nat×MV))(a:Nat)(v:MV)(b:MO)(e:okS c fs a=true)(g:MO.d c (bp fs a v)=b):og Tb (HS σ (δ.set i (.d c fs))) (.d (i+182)) a v=some (HS σ (δ.set i b)):=by
 rw[FO σ (mX _ h) a v b e g,jv]
noncomputable def fL(l:List MV)(j:Nat):Option MV:=if eI (j+1) (2^62) then l[j]? else none
set_option tactic.hygienic true in
theorem hK(σ:St)(h:δ[i]?=some (.a l))(j:Nat)(v:MV)(e:fL l j=some v):ez (HS σ δ) (.d (i+182)) (.c (j:Int))=some v:=by
 unfold fL at e
 split at e
 ·rename_i hj
  exact gj (by rw[df];exact h) e (aW hj)
 ·cases e
noncomputable def fS(l:List MV)(j:Nat)(v:MV):Option (List MV):=if eI (j+1) l.length&&eI l.length bz then some (l.set j v) else none
set_option tactic.hygienic true in
theorem Ee(σ:St)(h:δ[i]?=some (.a l))(j:Nat)(v:MV)(b:List MV)(e:fS l j v=some b):pZ (HS σ δ) (.d (i+182)) (.c (j:Int)) v=some (HS σ (δ.set i (.a b))):=by
 unfold fS at e
 split at e
 ·rename_i hj
  rw[bO] at hj
  have g:=aW hj.1
  have m:=aW hj.2
  refine(UG (by rw[df];exact h)).trans ((Rl _).trans ((j1 ⟨R6,cv.mpr g,m⟩).trans ?_))
  refine j8 e ?_;rw[s9];rfl
 ·cases e
theorem sO(σ:St)(h:δ[i]?=some (.a l))(e:eI l.length bz=true):mj (HS σ δ) (.d (i+182))=some (.c (l.length:Nat)):=
 lh (by rw[df];exact h) (aW e)
theorem kj(cl:Call)(σ:St)(h:δ[i]?=some (.a l))(v:MV)(e:eI l.length bz=true):dj cl (HS σ δ) (.d (i+182)) [v] .a=some (.f,HS σ (δ.set i (.a (ar l v)))):=by
 rw[gG (by rw[df];exact h) (aW e),s9];rfl
theorem jB(σ:St)(h:δ[i]?=some (.a l)):gI Tb (HS σ δ) (.d (i+182)) 0=some .a:=wt (by rw[df];exact h)
theorem cJ(h:δ[i]?=some p):i<δ.length:=(ax.mp h).1
theorem Wc(h:x=some (HS σ δ))(e:δ=aX):x=some (HS σ aX):=e▸h
theorem Q4(h:x=some (v,HS σ δ))(e:δ=aX):x=some (v,HS σ aX):=e▸h
theorem N8(δ:List MO)(i:Nat)(p o:MO):(δ.set i p).set i o=δ.set i o:=jv ..
theorem Fd(h:δ[i]?=some p)(q o:MO)(e:δ.set i o=aX):(ar δ q).set i o=ar aX q:=by rw[qS (cJ h),e]
theorem kC(σ:St)(δ:List MO)(o:MO):HS σ δ++[o]=HS σ (ar δ o):=⋯
end
end
section
section
variable{K i:Nat}{σ:St}{δ:List MO}{ad kk:Int}{s:MV}{l:List MV}
theorem KD(h:ct μ .g (.c ((2:Int)+(n:Int))) (.c 3)=some false):au Tb (K+1) 265 [.c (n:Int)] μ=some (.c ((2:Int)+(n:Int)),μ):=bu [(1,oq h)] ⋯
theorem Ks(hj:i≠j)(h:δ[i]?=some (.d 282 []))(b:δ[j]?=some (.a l))(e:∀μ,au Tb (K+1) 265 [.c l.length] μ=some (.c w,μ))(hb:eI l.length bz=true):au Tb (K+2) 279 [.d (i+182),.c ad,.c kk,.d (j+182)] (HS σ δ)=some (.f,HS σ (δ.set i (.d 282 [(71,.c ad),(62,.c kk),(63,.d (j+182)),(322,.c 0),(72,.c w),(68,.c 0)]))):=bu [(0,oh (FO σ h 71 (MV.c ad) (MO.d 282 [(71,MV.c ad)]) ⋯ ⋯)),(1,oh (dsC σ h 282 ([(71,MV.c ad)]) 62 (MV.c kk) (MO.d 282 [(71,MV.c ad),(62,MV.c kk)]) ⋯ ⋯)),(2,oh (dsC σ h 282 ([(71,MV.c ad),(62,MV.c kk)]) 63 (MV.d (j+182)) (MO.d 282 [(71,MV.c ad),(62,MV.c kk),(63,MV.d (j+182))]) ⋯ ⋯)),(3,oh (dsC σ h 282 ([(71,MV.c ad),(62,MV.c kk),(63,MV.d (j+182))]) 322 (MV.c 0) (MO.d 282 [(71,MV.c ad),(62,MV.c kk),(63,MV.d (j+182)),(322,MV.c 0)]) ⋯ ⋯)),(4,ov (sO σ (jf i (MO.d 282 [(71,MV.c ad),(62,MV.c kk),(63,MV.d (j+182)),(322,MV.c 0)]) (AI hj) b) hb)),(5,ow (e (HS σ (δ.set i (MO.d 282 [(71,MV.c ad),(62,MV.c kk),(63,MV.d (j+182)),(322,MV.c 0)]))))),(6,oh (dsC σ h 282 ([(71,MV.c ad),(62,MV.c kk),(63,MV.d (j+182)),(322,MV.c 0)]) 72 (MV.c w) (MO.d 282 [(71,MV.c ad),(62,MV.c kk),(63,MV.d (j+182)),(322,MV.c 0),(72,MV.c w)]) ⋯ ⋯)),(7,oh (dsC σ h 282 ([(71,MV.c ad),(62,MV.c kk),(63,MV.d (j+182)),(322,MV.c 0),(72,MV.c w)]) 68 (MV.c 0) (MO.d 282 [(71,MV.c ad),(62,MV.c kk),(63,MV.d (j+182)),(322,MV.c 0),(72,MV.c w),(68,MV.c 0)]) ⋯ ⋯))] ⋯
end
end
section
noncomputable abbrev St.P(σ:St)(m:Int):St:={σ with A:=m}
noncomputable abbrev St.ak(σ:St)(m:Int):St:={σ with h:=m}
noncomputable abbrev St.ap(σ:St)(m:Int):St:={σ with ae:=m}
noncomputable abbrev St.aa(σ:St)(l:List MV):St:={σ with J:=l}
noncomputable abbrev St.ag(σ:St)(l:List (MV×MV)):St:={σ with B:=l}
noncomputable abbrev St.C(σ:St)(l:List MV):St:={σ with u:=l}
noncomputable abbrev St.aq(σ:St)(l:List MV):St:={σ with z:=l}
noncomputable abbrev St.ac(σ:St)(l:List MV):St:={σ with a:=l}
noncomputable abbrev St.Q(σ:St)(l:List MV):St:={σ with X:=l}
noncomputable abbrev St.D(σ:St)(v:MV):St:={σ with Z:=v}
noncomputable abbrev St.ao(σ:St)(v:Int):St:={σ with O:=v}
noncomputable abbrev St.aj(σ:St)(l:List MV):St:={σ with G:=l}
noncomputable abbrev St.V(σ:St)(l:List MV):St:={σ with H:=l}
noncomputable abbrev St.S(σ:St)(v:Int):St:={σ with U:=v}
noncomputable abbrev St.r(σ:St)(l:List Row):St:={σ with R:=l}
theorem Vq(σ:St)(δ:List MO)(m:Int):og Tb (HS σ δ) (.d 142) 67 (.c m)=some (HS (σ.P m) δ):=⋯
theorem ac9(σ:St)(δ:List MO)(m:Int):og Tb (HS σ δ) (.d 142) 66 (.c m)=some (HS (σ.ak m) δ):=⋯
theorem ac4(σ:St)(δ:List MO)(m:Int):og Tb (HS σ δ) (.d 142) 73 (.c m)=some (HS (σ.ap m) δ):=⋯
theorem ac7(cl:Call)(σ:St)(δ:List MO)(v:MV)(h:eI σ.J.length bz=true):dj cl (HS σ δ) (.d 143) [v] .a=some (.f,HS (σ.aa (ar σ.J v)) δ):=
 gG (n:=143) (μ:=HS σ δ) (l:=σ.J) ⋯ (aW h)
structure iP (σ:St) (n:Nat):Prop where
 d:σ.J.length<=n
 f:σ.B.length<=n
 e:∀p∈σ.B,∃t:Int,p.1= .c t/\t<σ.h/\0<t
 a:0<σ.h
theorem mh(h:∀p∈d,∃t:Int,p.1= .c t)(t:Int):eL d (.c t)=true:=by
 unfold eL
 rw[bO]
 refine⟨rfl,aT.mpr λp a=>?_⟩
 refine dG (h p a) λu b=>?_
 rw[b];rfl
theorem lF(h:∀p∈d,p.1≠k):cR d k=none:=by
 induction d with
 |nil=>rfl
 |cons p r c=>
  obtain⟨a,v⟩:=p
  show(if MV.k a k then some v else cR r k)=none
  exact(fe (h (a,v) (gY ..)))▸(c λq b=>h q (fh _ b))
theorem uT(h:∀p∈d,p.1≠k):iT d k v=ar d (k,v):=by
 induction d with
 |nil=>rfl
 |cons p r c=>
  obtain⟨a,w⟩:=p
  show(if MV.k a k then(a,v)::r else(a,w)::iT r k v)=(a,w)::(r++[(k,v)])
  refine(fe (h (a,w) (gY ..)))▸(c λq b=>h q (fh _ b))▸?_;rfl
theorem lG(h:cR d k=none):cR (ar d (k,v)) k=some v:=by
 induction d with
 |nil=>
  show(if MV.k k k then some v else _)=_
  rw[hO];rfl
 |cons p r b=>
  obtain⟨a,w⟩:=p
  have h':(if MV.k a k then some w else cR r k)=none:=h
  show(if MV.k a k then some w else cR (ar r (k,v)) k)=_
  cases e:MV.k a k with
  |true=>rw[e] at h';cases h'
  |false=>rw[e] at h';exact b h'
theorem oF(h:cR d k=some x):cR (ar d p) k=some x:=by
 induction d with
 |nil=>cases h
 |cons q r b=>
  obtain⟨a,w⟩:=q
  have h':(if MV.k a k then some w else cR r k)=some x:=h
  show(if MV.k a k then some w else cR (ar r p) k)=_
  cases e:MV.k a k with
  |true=>rw[e] at h';exact h'
  |false=>rw[e] at h';exact b h'
theorem LX(h:cR d k=some v):(k,v)∈d:=by
 induction d with
 |nil=>cases h
 |cons p r b=>
  obtain⟨a,w⟩:=p
  have h':(if MV.k a k then some w else cR r k)=some v:=h
  cases e:MV.k a k with
  |true=>rw[e] at h';refine j8 h' ?_;rw[(jr a k).mp e];exact .head _
  |false=>
   rw[e] at h'
   exact .tail _ (b h')
section
variable{σ:St}{n:Nat}
theorem iP.r(H:iP σ n)(h:cR σ.B (.c ad)=some v):0<ad:=by
 refine pH (H.e _ (LX h)) λt g J b=>?_
 cases g;exact b
theorem iP.q(H:iP σ n)(t:Int):eL σ.B (.c t)=true:=mh (λp b=>(H.e p b).imp λJ h=>h.1) t
theorem iP.k(H:iP σ n):∀p∈σ.B,p.1≠ .c σ.h:=λp g=>by
 refine pH (H.e p g) λt b m J=>?_
 rw[b];intro h;cases h;exact Xb m
noncomputable def St.E(σ:St)(o:MV)(w:Int):St:={σ with A:=σ.A+1,J:=ar σ.J o,B:=ar σ.B (.c σ.h,o),h:=σ.h+w,ae:=σ.ae+w}
theorem iP.i(H:iP σ n)(g:0<w):iP (σ.E o w) (n+1):=
 ⟨by show(ar σ.J o).length<=_;rw[aB];have:=H.d;exact xe this,
  by show(ar σ.B _).length<=_;rw[aB];have:=H.f;exact xe this,
  λp b=>by
   have b:=b
   show ∃t:Int,p.1= .c t/\t<σ.h+w/\0<t
   rcases cZ.mp b with h|h
   ·refine pH (H.e p h) λt v u m=>?_;exact⟨t,v,Xa g u,m⟩
   ·simp only[cw,iM,or_false] at h;refine fI h ?_;exact⟨σ.h,rfl,W_ g,H.a⟩,
  by have:=H.a;exact(Int.add_pos this g)⟩
theorem ac3(σ:St)(δ:List MO)(t:Int)(v:MV)(b:eL σ.B (.c t)=true)(e:∀p∈σ.B,p.1≠ .c t)(a:eI σ.B.length bz=true):pZ (HS σ δ) (.d 144) (.c t) v=some (HS (σ.ag (ar σ.B (.c t,v))) δ):=by
 have:=mq (n:=144) (μ:=HS σ δ) (d:=σ.B) (key:= .c t) (v:=v) ⋯ b (aW a)
 rw[this,uT e];exact congrArg some ⋯
end
section
variable{K j:Nat}{σ:St}{δ:List MO}{kk w:Int}{l:List MV}{n:Nat}
theorem JC(b:δ[j]?=some (.a l))(f:∀μ,au Tb (K+1) 265 [.c l.length] μ=some (.c w,μ))(hb:eI l.length bz=true):yf Tb (au Tb (K+2)) 282 [.c ad,.c kk,.d (j+182)] (HS σ δ)=some (.d (δ.length+182),HS σ (ar δ (.d 282 [(71,.c ad),(62,.c kk),(63,.d (j+182)),(322,.c 0),(72,.c w),(68,.c 0)]))):=by
 have hj:=cJ b
 have e:=Ks (K:=K) (i:=δ.length) (σ:=σ) (δ:=ar δ (.d 282 [])) (ad:=ad) (kk:=kk) (w:=w) (hj:=sC hj) (aZ _ _) (fU _ b) f hb
 rw[dK] at e
 refine(D5 (by kernel_rfl:Tb.g 282=some (some 279))).trans ?_
 dsimp only;rw[kD,kC];exact j7 e
theorem pw(H:iP σ n)(b:n<=100000)(e:δ[j]?=some (.a l))(g:∀μ,au Tb (K+1) 265 [.c l.length] μ=some (.c w,μ))(hb:eI l.length bz=true):au Tb (K+3) 314 [.d 142,.c kk,.d (j+182)] (HS σ δ)=some (.d (δ.length+182),HS (σ.E (.d (δ.length+182)) w) (ar δ (.d 282 [(71,.c σ.h),(62,.c kk),(63,.d (j+182)),(322,.c 0),(72,.c w),(68,.c (σ.A+1))]))):=bu [(1,ow (JC (σ:=σ) (kk:=kk) (ad:=σ.h) e g hb)),(3,oh (Vq σ (ar δ (MO.d 282 [(71,MV.c σ.h),(62,MV.c kk),(63,MV.d (j+182)),(322,MV.c 0),(72,MV.c w),(68,MV.c 0)])) (σ.A+1))),(5,oh (Wc (FO (σ.P (σ.A+1)) (aZ δ (MO.d 282 [(71,MV.c σ.h),(62,MV.c kk),(63,MV.d (j+182)),(322,MV.c 0),(72,MV.c w),(68,MV.c 0)])) 68 (MV.c (σ.A+1)) (MO.d 282 [(71,MV.c σ.h),(62,MV.c kk),(63,MV.d (j+182)),(322,MV.c 0),(72,MV.c w),(68,MV.c (σ.A+1))]) ⋯ ⋯) (dK δ (MO.d 282 [(71,MV.c σ.h),(62,MV.c kk),(63,MV.d (j+182)),(322,MV.c 0),(72,MV.c w),(68,MV.c 0)]) (MO.d 282 [(71,MV.c σ.h),(62,MV.c kk),(63,MV.d (j+182)),(322,MV.c 0),(72,MV.c w),(68,MV.c (σ.A+1))])))),(8,ow (ac7 (au Tb (K+2)) (σ.P (σ.A+1)) (ar δ (MO.d 282 [(71,MV.c σ.h),(62,MV.c kk),(63,MV.d (j+182)),(322,MV.c 0),(72,MV.c w),(68,MV.c (σ.A+1))])) (MV.d (δ.length+182)) (bw (by have:=H.d;unfold bz;exact O7 b this)))),(10,ov (ed ((σ.P (σ.A+1)).aa (ar σ.J (MV.d (δ.length+182)))) (aZ δ (MO.d 282 [(71,MV.c σ.h),(62,MV.c kk),(63,MV.d (j+182)),(322,MV.c 0),(72,MV.c w),(68,MV.c (σ.A+1))])) 71 (MV.c σ.h) ⋯)),(11,oh (ac3 ((σ.P (σ.A+1)).aa (ar σ.J (MV.d (δ.length+182)))) (ar δ (MO.d 282 [(71,MV.c σ.h),(62,MV.c kk),(63,MV.d (j+182)),(322,MV.c 0),(72,MV.c w),(68,MV.c (σ.A+1))])) σ.h (MV.d (δ.length+182)) (H.q σ.h) H.k (bw (by have:=H.f;unfold bz;exact O7 b this)))),(13,ov (ed (((σ.P (σ.A+1)).aa (ar σ.J (MV.d (δ.length+182)))).ag (ar σ.B (MV.c σ.h,MV.d (δ.length+182)))) (aZ δ (MO.d 282 [(71,MV.c σ.h),(62,MV.c kk),(63,MV.d (j+182)),(322,MV.c 0),(72,MV.c w),(68,MV.c (σ.A+1))])) 72 (MV.c w) ⋯)),(14,oh (ac9 (((σ.P (σ.A+1)).aa (ar σ.J (MV.d (δ.length+182)))).ag (ar σ.B (MV.c σ.h,MV.d (δ.length+182)))) (ar δ (MO.d 282 [(71,MV.c σ.h),(62,MV.c kk),(63,MV.d (j+182)),(322,MV.c 0),(72,MV.c w),(68,MV.c (σ.A+1))])) (σ.h+w))),(16,ov (ed ((((σ.P (σ.A+1)).aa (ar σ.J (MV.d (δ.length+182)))).ag (ar σ.B (MV.c σ.h,MV.d (δ.length+182)))).ak (σ.h+w)) (aZ δ (MO.d 282 [(71,MV.c σ.h),(62,MV.c kk),(63,MV.d (j+182)),(322,MV.c 0),(72,MV.c w),(68,MV.c (σ.A+1))])) 72 (MV.c w) ⋯)),(17,oh (ac4 ((((σ.P (σ.A+1)).aa (ar σ.J (MV.d (δ.length+182)))).ag (ar σ.B (MV.c σ.h,MV.d (δ.length+182)))).ak (σ.h+w)) (ar δ (MO.d 282 [(71,MV.c σ.h),(62,MV.c kk),(63,MV.d (j+182)),(322,MV.c 0),(72,MV.c w),(68,MV.c (σ.A+1))])) (σ.ae+w)))] ⋯
end
end
section
section
variable{R:List Row}{m:Nat}{s:Int}{x w:MV}{l:List MV}
theorem IA(g:R.length<=100000)(h:(b9 R)[m]?=some (.e (.c s::x::l)))(b:s=2\/s=3)(K:Nat)(σ:St)(δ:List MO)(f:σ.R=R):au Tb (K+2) 181 [.d 11,.c (m:Int)] (HS σ δ)=some (x,HS σ δ):=by
 subst f;exact VF (a:=jn σ) (z:=gh σ++δ) h b g
theorem Uw(g:R.length<=100000)(h:(b9 R)[m]?=some (.e [.c s,x,w]))(b:s=2\/s=3)(K:Nat)(σ:St)(δ:List MO)(f:σ.R=R):au Tb (K+2) 188 [.d 11,.c (m:Int)] (HS σ δ)=some (w,HS σ δ):=by
 subst f;exact A1 (a:=jn σ) (z:=gh σ++δ) h b g
theorem Iz(f:R.length<=100000)(h:(b9 R)[m]?=some (.e (.c s::l)))(K:Nat)(σ:St)(δ:List MO)(b:σ.R=R):au Tb (K+2) 167 [.d 11,.c (m:Int)] (HS σ δ)=some (.c s,HS σ δ):=by
 subst b;exact N3 (a:=jn σ) (z:=gh σ++δ) h f
theorem pL(g:R.length<=100000)(h:(b9 R)[m]?=some (.e (.c s::l)))(hm:12<=m)(b:Bool)(hb:s=3/\b=true\/s=2/\b=false\/s=4/\b=false)(K:Nat)(σ:St)(δ:List MO)(f:σ.R=R):au Tb (K+2) 195 [.d 11,.c (m:Int)] (HS σ δ)=some (.h b,HS σ δ):=by
 subst f;exact Ja (a:=jn σ) (z:=gh σ++δ) h hm g hb
theorem n_(h:m≠c)(μ:Hp):ct μ .a (.c (m:Int)) (.c (c:Int))=some false:=nB h
end
noncomputable abbrev cb:MV:= .e [.c 4,.c 0]
noncomputable abbrev rD(ad kk:Int)(s:Nat)(w n:Int):MO:= .d 282 [(71,.c ad),(62,.c kk),(63,.d (s+182)),(322,.c 0),(72,.c w),(68,.c n)]
section
variable{m:Nat}{σ:St}{δ:List MO}{l:List MV}
theorem Fb(f:σ.R.length<=100000)(h:(b9 σ.R)[m]?=some (.e (.c 2::l)))(hm:15<=m)(K:Nat):au Tb (K+6) 886 [.d 148,.c (m:Int),.c 3] (HS σ δ)=some (.d (δ.length+182),HS σ (ar (ar δ (.a [cb,cb,cb])) (.b []))):=bu [(0,oq ((n_ (c:=13) (Gp hm)) (HS σ δ))),(3,ow ((pL f h (AJ hm) false (.inr (.inl ⟨rfl,rfl⟩))) (K+3) σ δ ⋯)),(6,ow ((Iz f h) (K+3) σ δ ⋯)),(14,ov (sO σ (fU (MO.b []) (aZ δ (MO.a []))) ⋯)),(17,oc (jB σ (fU (MO.b []) (aZ δ (MO.a []))))),(18,ow (Q4 (kj (au Tb (K+5)) σ (fU (MO.b []) (aZ δ (MO.a []))) (MV.e [MV.c 4,MV.c 0]) ⋯) (Fd (aZ δ (MO.a [])) (MO.b []) (MO.a (ar [] (MV.e [MV.c 4,MV.c 0]))) (dK δ (MO.a []) (MO.a (ar [] (MV.e [MV.c 4,MV.c 0]))))))),(19,ov (sO σ (fU (MO.b []) (aZ δ (MO.a (ar [] (MV.e [MV.c 4,MV.c 0]))))) ⋯)),(22,oc (jB σ (fU (MO.b []) (aZ δ (MO.a (ar [] (MV.e [MV.c 4,MV.c 0]))))))),(23,ow (Q4 (kj (au Tb (K+5)) σ (fU (MO.b []) (aZ δ (MO.a (ar [] (MV.e [MV.c 4,MV.c 0]))))) (MV.e [MV.c 4,MV.c 0]) ⋯) (Fd (aZ δ (MO.a (ar [] (MV.e [MV.c 4,MV.c 0])))) (MO.b []) (MO.a (ar (ar [] (MV.e [MV.c 4,MV.c 0])) (MV.e [MV.c 4,MV.c 0]))) (dK δ (MO.a (ar [] (MV.e [MV.c 4,MV.c 0]))) (MO.a (ar (ar [] (MV.e [MV.c 4,MV.c 0])) (MV.e [MV.c 4,MV.c 0]))))))),(24,ov (sO σ (fU (MO.b []) (aZ δ (MO.a (ar (ar [] (MV.e [MV.c 4,MV.c 0])) (MV.e [MV.c 4,MV.c 0]))))) ⋯)),(27,oc (jB σ (fU (MO.b []) (aZ δ (MO.a (ar (ar [] (MV.e [MV.c 4,MV.c 0])) (MV.e [MV.c 4,MV.c 0]))))))),(28,ow (Q4 (kj (au Tb (K+5)) σ (fU (MO.b []) (aZ δ (MO.a (ar (ar [] (MV.e [MV.c 4,MV.c 0])) (MV.e [MV.c 4,MV.c 0]))))) (MV.e [MV.c 4,MV.c 0]) ⋯) (Fd (aZ δ (MO.a (ar (ar [] (MV.e [MV.c 4,MV.c 0])) (MV.e [MV.c 4,MV.c 0])))) (MO.b []) (MO.a (ar (ar (ar [] (MV.e [MV.c 4,MV.c 0])) (MV.e [MV.c 4,MV.c 0])) (MV.e [MV.c 4,MV.c 0]))) (dK δ (MO.a (ar (ar [] (MV.e [MV.c 4,MV.c 0])) (MV.e [MV.c 4,MV.c 0]))) (MO.a (ar (ar (ar [] (MV.e [MV.c 4,MV.c 0])) (MV.e [MV.c 4,MV.c 0])) (MV.e [MV.c 4,MV.c 0]))))))),(29,ov (sO σ (fU (MO.b []) (aZ δ (MO.a (ar (ar (ar [] (MV.e [MV.c 4,MV.c 0])) (MV.e [MV.c 4,MV.c 0])) (MV.e [MV.c 4,MV.c 0]))))) ⋯))] ⋯
end
end
section
noncomputable def Fz(S:Nat->Prop)(δ a:List MO):Prop:=δ.length<=a.length/\∀(i:Nat) (v:MO),¬S i->δ[i]?=some v->a[i]?=some v
noncomputable def Gw(δ a:List MO):Prop:=δ.length<=a.length/\∀(i:Nat) (v:MO),δ[i]?=some v->a[i]?=some v
theorem Gw.p(δ:List MO):Gw δ δ:=⟨aC _,λJ J h=>h⟩
theorem Gw.e(h:Gw a b)(g:Gw b c):Gw a c:=⟨aD h.1 g.1,λi v x=>g.2 i v (h.2 i v x)⟩
theorem Gw.d(δ:List MO)(o:MO):Gw δ (ar δ o):=⟨by rw[aB];exact lB,λJ J h=>fU o h⟩
theorem Gw.k(δ y:List MO):Gw δ (cU δ y):=⟨by unfold Mine.cU;simp,λJ J h=>cg y h⟩
theorem Gw.q(h:Gw a b)(c:a.length<=i)(o:MO):Gw a (b.set i o):=
 ⟨by simp;exact h.1,λj v x=>by have:=cJ x;rw[cV (Xd c this)];exact h.2 j v x⟩
theorem Gw.f{S:Nat->Prop}(h:Gw a b):Fz S a b:=⟨h.1,λi v J x=>h.2 i v x⟩
theorem Fz.k{S:Nat->Prop}(h:Fz S a b)(g:Fz S b c):Fz S a c:=⟨aD h.1 g.1,λi v n x=>g.2 i v n (h.2 i v n x)⟩
theorem Fz.y{S:Nat->Prop}(o:MO)(h:S i):Fz S a (a.set i o):=
 ⟨by simp,λj v n x=>by rw[cV λe=>n (by refine rI e ?_;exact h)];exact x⟩
noncomputable def St.up(σ b:St):St:={σ with U:=b.U,R:=b.R,A:=b.A,J:=b.J,B:=b.B,h:=b.h,ae:=b.ae}
theorem kT(R:List Row):∃x,R=R++x:=⟨[],(d8 _).symm⟩
theorem xK{a b c:List Row}(h:∃x,b=a++x)(g:∃x,c=b++x):∃x,c=a++x:=by
 obtain⟨x,rfl⟩:=h;obtain⟨y,rfl⟩:=g;exact⟨x++y,cC ..⟩
structure Up (σ σ':St):Prop where
 G:σ'=σ.up σ'
 j:∃x,σ'.R=σ.R++x
 y:∀k v,cR σ.B k=some v->cR σ'.B k=some v
theorem Up.C(u:Up σ σ'){P:St->Prop}(h:P (σ.up σ')):P σ':=u.G.symm▸h
theorem Up.q(σ:St):Up σ σ:=⟨rfl,kT _,λJ J h=>h⟩
theorem Up.f{a b c:St}(h:Up a b)(g:Up b c):Up a c:=have e:b.up c=(a.up b).up c:=congrArg (St.up · c) h.G
 ⟨g.G.trans e,xK h.j g.j,λk v e=>g.y k v (h.y k v e)⟩
theorem Up.p(σ:St)(o:MV)(w:Int):Up σ (σ.E o w):=⟨rfl,kT _,λJ J h=>oF h⟩
noncomputable def ri(S:Nat->Prop)(δ:List MO)(b:Nat):Prop:=∀i,S i->i<b\/∃a,δ[i]?=some (.d 424 a)
theorem ri.j{S:Nat->Prop}(c:ri S δ b)(g:Fz S δ aX)(h:δ[i]?=some (.a l))(hb:b<=i):aX[i]?=some (.a l):=by
 refine g.2 _ _ (λq=>?_) h
 rcases c _ q with q|⟨fs,q⟩
 ·exact sD hb q
 ·replace q:=h▸q;cases q
inductive ik (σ:St) (δ:List MO) (b:Nat) (ad kk:Int) (sl:List MV):Prop
 |mk (o s w n) (h1:cR σ.B (.c ad)=some (.d (o+182))) (h2:δ[o]?=some (rD ad kk s w n)) (h3:δ[s]?=some (.a sl)) (h4:b<=o) (h5:b<=s)
theorem ik.i(h:ik σ δ b ad kk sl)(u:Up σ σ')(g:Gw δ aX):ik σ' aX b ad kk sl:=by
 obtain⟨o,s,w,n,k,j,c,q,p⟩:=h
 exact⟨o,s,w,n,u.y _ _ k,g.2 _ _ j,g.2 _ _ c,q,p⟩
theorem ik.e(h:ik σ δ b ad kk sl)(g:c<=b):ik σ δ c ad kk sl:=by
 obtain⟨o,s,w,n,p,k,j,r,q⟩:=h
 exact⟨o,s,w,n,p,k,j,pz g r,pz g q⟩
theorem ik.d{S:Nat->Prop}(h:ik σ δ b ad kk sl)(u:∀k v,cR σ.B k=some v->cR σ'.B k=some v)(g:Fz S δ aX)(t:ri S δ b):ik σ' aX b ad kk sl:=by
 obtain⟨o,s,w,n,x,j,c,r,p⟩:=h
 refine⟨o,s,w,n,u _ _ x,g.2 _ _ (λq=>?_) j,g.2 _ _ (λq=>?_) c,r,p⟩
 ·rcases t _ q with q|⟨fs,q⟩
  ·exact sD r q
  ·replace q:=j▸q;cases q
 ·rcases t _ q with q|⟨fs,q⟩
  ·exact sD p q
  ·replace q:=c▸q;cases q
noncomputable def fK(σ:St)(δ:List MO)(b:Nat)(ad kk:Int):Prop:=∃o,cR σ.B (.c ad)=some (.d o)/\(o=178/\kk=18\/o=180/\kk=13\/∃i s w n,o=i+182/\b<=i/\δ[i]?=some (rD ad kk s w n))
theorem fK.a(h:fK σ δ b ad kk){f:Prop}(j:∀o,cR σ.B (.c ad)=some (.d o)->iu Tb (HS σ δ) (.d o) 62=some (.c kk)->f):f:=by
 refine cf h λo g k=>?_
 refine j o g ?_
 rcases k with⟨rfl,rfl⟩|⟨rfl,rfl⟩|⟨i,s,w,n,rfl,_,h⟩
 ·kernel_rfl
 ·kernel_rfl
 ·exact ed σ h 62 (.c kk) ⋯
theorem fK.d{S:Nat->Prop}(h:fK σ δ b ad kk)(u:∀k v,cR σ.B k=some v->cR σ'.B k=some v)(g:Fz S δ aX)(j:ri S δ b):fK σ' aX b ad kk:=by
 refine cf h λo c f=>?_
 refine⟨o,u _ _ c,?_⟩
 rcases f with h|h|⟨i,s,w,n,h,hb,h3⟩
 ·exact .inl h
 ·exact .inr (.inl h)
 ·refine .inr (.inr ⟨i,s,w,n,h,hb,g.2 _ _ (λq=>?_) h3⟩)
  rcases j _ q with q|⟨fs,q⟩
  ·exact sD hb q
  ·replace q:=h3▸q;cases q
theorem ik.a(h:ik σ δ b ad kk sl):fK σ δ b ad kk:=by
 obtain⟨o,s,w,n,c,g,_,j,_⟩:=h
 exact⟨_,c,.inr (.inr ⟨o,s,w,n,rfl,j,g⟩)⟩
section
variable{m:Nat}{σ:St}{δ:List MO}{l:List MV}{n:Nat}
theorem VN(K:Nat)(μ:Hp):au Tb (K+1) 265 [.c ([cb,cb,cb].length:Nat)] μ=some (.c 5,μ):=nD ⋯
theorem uG(H:iP σ n)(f:n<=100000)(g:σ.R.length<=100000)(h:(b9 σ.R)[m]?=some (.e (.c 2::l)))(hm:15<=m)(K:Nat):
 au Tb (K+8) 755 [.d 148,.c (m:Int),.c 3] (HS σ δ)=some (.d ((ar (ar δ (.a [cb,cb,cb])) (.b [])).length+182),HS (σ.E (.d ((ar (ar δ (.a [cb,cb,cb])) (.b [])).length+182)) 5) (ar (ar (ar δ (.a [cb,cb,cb])) (.b [])) (rD σ.h m δ.length 5 (σ.A+1)))):=bu [(0,ow (bu [(4,ow (Fb (δ:=δ) g h hm K)),(5,ow (pw (K:=K+3) (kk:=(m:Int)) (w:=5) (j:=δ.length) (l:=[cb,cb,cb]) H f (δ:=ar (ar δ (.a [cb,cb,cb])) (.b [])) (fU _ (aZ _ _)) (VN _) rfl))] ⋯:au Tb (K+7) 893 [.d 148,.c (m:Int),.c 3] (HS σ δ)=some (.d ((ar (ar δ (.a [cb,cb,cb])) (.b [])).length+182),HS (σ.E (.d ((ar (ar δ (.a [cb,cb,cb])) (.b [])).length+182)) 5) (ar (ar (ar δ (.a [cb,cb,cb])) (.b [])) (rD σ.h m δ.length 5 (σ.A+1))))))] ⋯
theorem J9(cl:Call)(σ:St)(δ:List MO)(v:MV)(h:eI σ.u.length bz=true):dj cl (HS σ δ) (.d 169) [v] .a=some (.f,HS (σ.C (ar σ.u v)) δ):=
 gG (n:=169) (μ:=HS σ δ) (l:=σ.u) ⋯ (aW h)
theorem J_(cl:Call)(σ:St)(δ:List MO)(h:List MV)(v:MV)(e:σ.u=ar h v)(hb:eI (ar h v).length bz=true):dj cl (HS σ δ) (.d 169) [] .d=some (v,HS (σ.C h) δ):=by
 refine(by kernel_rfl:(HS σ δ).set 169 (.a h)=HS (σ.C h) δ)▸((v9 (by rw[<-e];kernel_rfl)).trans ((D5 (v:=v) ?_).trans ((j1 (aW hb)).trans ?_)))
 ·unfold ar;simp only[FX,Au,RN]
 ·unfold ar;rw[FW]
theorem E9(H:iP σ n)(D:n<=99999)(G:σ.R.length<=100000)(B:σ.u=[])(h:(b9 σ.R)[m]?=some (.e (.c 2::l)))(hm:15<=m)(j:Int)(r:MV){z:Prop}(I:∀σ' x,(∀K,au Tb (K+9) 1040 [.d 148,.c (m:Int),.c j,r] (HS σ δ)=some (.c σ.h,HS σ' x))->Up σ σ'->Gw δ x->iP σ' (n+1)->σ'.U=σ.U->σ'.R=σ.R->ik σ' x δ.length σ.h m [.e [.c 4,.c j],.e [.c 7,r],cb]->z):z:=by
 refine b6 (ar δ (.a [.e [.c 4,.c j]])) λg w=>?_
 refine b6 (ar (ar g (.a [cb,cb,cb])) (.b [])) λo s=>?_
 have y:=λK=>uG (δ:=g) (σ:=σ.C (ar σ.u (.d (δ.length+182)))) (⟨H.d,H.f,H.e,H.a⟩) (vz D) G h hm K
 have t:=s▸(fU _ (aZ _ _))
 replace y:=s.symm▸y
 have J:g.length≠o.length:=by rw[s,aB,aB];exact Xc
 refine I (σ.E (.d (o.length+182)) 5) (ar (o.set g.length (.a [.e [.c 4,.c j],.e [.c 7,r],cb])) (rD σ.h m g.length 5 (σ.A+1))) (λK=>?_) (Up.p _ _ _) ?_ (H.i (by decide)) rfl rfl ?_
 ·have F:=y K
  exact bu [(4,ow ((λcl v=>w▸(J9 cl σ _ v (B▸rfl)):∀(cl:Call) (v:MV),dj cl (HS σ (ar δ (.a [.e [.c 4,.c j]]))) (.d 169) [v] .a=some (.f,HS (σ.C (ar σ.u v)) g)) (au Tb (K+8)) (MV.d (List.length (HS σ δ))))),(6,ow F),(9,ow ((λcl=>J_ cl ((σ.C (ar σ.u (.d (δ.length+182)))).E (.d (o.length+182)) 5) (ar o (rD σ.h m g.length 5 (σ.A+1))) σ.u (.d (δ.length+182)) rfl (B▸rfl)) (au Tb (K+8)))),(10,ov (hK (((σ.C (ar σ.u (MV.d (δ.length+182)))).E (MV.d (o.length+182)) 5).C σ.u) (fU (rD σ.h (↑m) g.length 5 (σ.A+1)) (s▸(fU _ (fU _ (w▸(aZ _ _)))))) 0 (MV.e [MV.c 4,MV.c j]) ⋯)),(11,ov (ed (((σ.C (ar σ.u (MV.d (δ.length+182)))).E (MV.d (o.length+182)) 5).C σ.u) (aZ o (rD σ.h (↑m) g.length 5 (σ.A+1))) 63 (MV.d (g.length+182)) ⋯)),(12,oh (Wc (Ee (((σ.C (ar σ.u (MV.d (δ.length+182)))).E (MV.d (o.length+182)) 5).C σ.u) (fU (rD σ.h (↑m) g.length 5 (σ.A+1)) t) 0 (MV.e [MV.c 4,MV.c j]) ([MV.e [MV.c 4,MV.c j],MV.e [MV.c 4,MV.c 0],MV.e [MV.c 4,MV.c 0]]) ⋯) (Fd t (rD σ.h (↑m) g.length 5 (σ.A+1)) (MO.a [MV.e [MV.c 4,MV.c j],MV.e [MV.c 4,MV.c 0],MV.e [MV.c 4,MV.c 0]]) rfl))),(14,ov (ed (((σ.C (ar σ.u (MV.d (δ.length+182)))).E (MV.d (o.length+182)) 5).C σ.u) (h9 (o.set g.length (MO.a [MV.e [MV.c 4,MV.c j],MV.e [MV.c 4,MV.c 0],MV.e [MV.c 4,MV.c 0]])) (rD σ.h (↑m) g.length 5 (σ.A+1)) o.length (by simp[aB])) 63 (MV.d (g.length+182)) ⋯)),(15,oh (Wc (Ee (((σ.C (ar σ.u (MV.d (δ.length+182)))).E (MV.d (o.length+182)) 5).C σ.u) (fU (rD σ.h (↑m) g.length 5 (σ.A+1)) (mX (MO.a [MV.e [MV.c 4,MV.c j],MV.e [MV.c 4,MV.c 0],MV.e [MV.c 4,MV.c 0]]) t)) 1 (MV.e [MV.c 7,r]) ([MV.e [MV.c 4,MV.c j],MV.e [MV.c 7,r],MV.e [MV.c 4,MV.c 0]]) ⋯) (Fd (mX (MO.a [MV.e [MV.c 4,MV.c j],MV.e [MV.c 4,MV.c 0],MV.e [MV.c 4,MV.c 0]]) t) (rD σ.h (↑m) g.length 5 (σ.A+1)) (MO.a [MV.e [MV.c 4,MV.c j],MV.e [MV.c 7,r],MV.e [MV.c 4,MV.c 0]]) (N8 o g.length (MO.a [MV.e [MV.c 4,MV.c j],MV.e [MV.c 4,MV.c 0],MV.e [MV.c 4,MV.c 0]]) (MO.a [MV.e [MV.c 4,MV.c j],MV.e [MV.c 7,r],MV.e [MV.c 4,MV.c 0]]))))),(16,ov (ed (((σ.C (ar σ.u (MV.d (δ.length+182)))).E (MV.d (o.length+182)) 5).C σ.u) (h9 (o.set g.length (MO.a [MV.e [MV.c 4,MV.c j],MV.e [MV.c 7,r],MV.e [MV.c 4,MV.c 0]])) (rD σ.h (↑m) g.length 5 (σ.A+1)) o.length (by simp[aB])) 63 (MV.d (g.length+182)) ⋯)),(17,oh (Wc (Ee (((σ.C (ar σ.u (MV.d (δ.length+182)))).E (MV.d (o.length+182)) 5).C σ.u) (fU (rD σ.h (↑m) g.length 5 (σ.A+1)) (mX (MO.a [MV.e [MV.c 4,MV.c j],MV.e [MV.c 7,r],MV.e [MV.c 4,MV.c 0]]) t)) 2 (MV.e [MV.c 4,MV.c 0]) ([MV.e [MV.c 4,MV.c j],MV.e [MV.c 7,r],MV.e [MV.c 4,MV.c 0]]) ⋯) (Fd (mX (MO.a [MV.e [MV.c 4,MV.c j],MV.e [MV.c 7,r],MV.e [MV.c 4,MV.c 0]]) t) (rD σ.h (↑m) g.length 5 (σ.A+1)) (MO.a [MV.e [MV.c 4,MV.c j],MV.e [MV.c 7,r],MV.e [MV.c 4,MV.c 0]]) (N8 o g.length (MO.a [MV.e [MV.c 4,MV.c j],MV.e [MV.c 7,r],MV.e [MV.c 4,MV.c 0]]) (MO.a [MV.e [MV.c 4,MV.c j],MV.e [MV.c 7,r],MV.e [MV.c 4,MV.c 0]]))))),(18,ov (ed (((σ.C (ar σ.u (MV.d (δ.length+182)))).E (MV.d (o.length+182)) 5).C σ.u) (h9 (o.set g.length (MO.a [MV.e [MV.c 4,MV.c j],MV.e [MV.c 7,r],MV.e [MV.c 4,MV.c 0]])) (rD σ.h (↑m) g.length 5 (σ.A+1)) o.length (by simp[aB])) 71 (MV.c σ.h) ⋯))] ⋯
 ·refine Gw.e (Gw.q (b:=o) ?_ (by rw[w,aB];exact lB) _) (Gw.d _ _)
  rw[s,w]
  exact(Gw.d _ _).e ((Gw.d _ _).e (Gw.d _ _))
 ·refine⟨o.length,g.length,5,σ.A+1,lG (lF H.k),h9 _ _ _ (by simp),fU _ ?_,?_,?_⟩
  ·exact cM (cJ t)
  ·rw[s,aB,aB,w,aB];exact O8
  ·rw[w,aB];exact lB
end
end
section
theorem sP{all r:List MV}{v:MV}{k:Nat}{Ω:Prop}(h:all.drop k=v::r)(a:all[k]?=some v->all.drop (k+1)=r->Ω):Ω:=
 a (by have q:=List.getElem?_drop (xs:=all) (i:=k) (j:=0);rw[h] at q;exact q.symm) (WU▸h▸rfl)
theorem Cj(k:Nat)(v:MV)(r:List MV):k+1+r.length=k+(v::r).length:=eY▸(Nat.add_right_comm k 1 _)
section
variable{en:Bool}{body:Loc->Hp->Ex}{store:MV->Loc->Hp->Option (Loc×Hp)}{n:Nat}{all:List MV}{f:MV->Hp->Option (MV×Hp)}{Ω:Prop}
theorem sX(P:Nat->Loc->Hp->Prop)(m:∀k ρ μ,P k ρ μ->μ[n]?=some (.a all))
  (step:∀k v ρ μ (Ω:Prop),all[k]?=some v->P k ρ μ->(∀bt bC j g,store (cond en (.e [.c (k:Int),v]) v) ρ μ=some (bt,bC)->body bt bC=some (.a,j,g)->P (k+1) j g->Ω)->Ω):
  ∀(d:List MV) (k:Nat) (ρ:Loc) (μ:Hp),all.drop k=d->P k ρ μ->(∀ρ' i,Em en body store n all k d ρ μ=some (.a,ρ',i)->P (k+d.length) ρ' i->Ω)->Ω
 |[],k,ρ,μ,_,p,ω=>ω ρ μ (C_ (m k ρ μ p)) p
 |v::r,k,ρ,μ,h,p,ω=>sP h λo w=>step k v ρ μ _ o p λJ J j g s q p2=>sX P m step r (k+1) j g w p2 λρ' i u x=>
  ω ρ' i ((C_ (m k ρ μ p)).trans ((j7 s).trans ((NG q).trans u))) (Cj k v r▸x)
theorem xF(P:Nat->Loc->Hp->Prop)
  (step:∀k v ρ μ (Ω:Prop),all[k]?=some v->P k ρ μ->(∀bt bC i d,store v ρ μ=some (bt,bC)->body bt bC=some (.a,i,d)->P (k+1) i d->Ω)->Ω):
  ∀(c:List MV) (k:Nat) (ρ:Loc) (μ:Hp),all.drop k=c->P k ρ μ->(∀ρ' g,qx body store c ρ μ=some (.a,ρ',g)->P (k+c.length) ρ' g->Ω)->Ω
 |[],_,ρ,μ,_,p,ω=>ω ρ μ rfl p
 |v::r,k,ρ,μ,h,p,ω=>sP h λj s=>step k v ρ μ _ j p λJ J i d o m p2=>xF P step r (k+1) i d s p2 λρ' g q u=>
  ω ρ' g ((j7 o).trans ((NG m).trans q)) (Cj k v r▸u)
theorem Df(q:List MV)(x:MV)(xs:List MV):ar q x++xs=q++x::xs:=cC ..
theorem tu(P:Nat->Hp->List MV->Prop)
  (step:∀k v μ q (Ω:Prop),all[k]?=some v->P k μ q->(∀x bC,f v μ=some (x,bC)->P (k+1) bC (ar q x)->Ω)->Ω):
  ∀(a:List MV) (k:Nat) (μ:Hp) (q:List MV),all.drop k=a->P k μ q->(∀xs c,yc f a μ=some (xs,c)->P (k+a.length) c (q++xs)->Ω)->Ω
 |[],_,μ,q,_,p,ω=>ω [] μ rfl ((d8 q).symm▸p)
 |v::r,k,μ,q,h,p,ω=>sP h λd m=>step k v μ q _ d p λx bC g p1=>tu P step r (k+1) bC (ar q x) m p1 λxs c i j=>
  ω (x::xs) c ((j7 g).trans (j7 i)) (Cj k v r▸Df q x xs▸j)
theorem nq(P:Nat->Hp->List MV->Prop)(g:∀k μ q,P k μ q->μ[n]?=some (.a all))
  (step:∀k v μ q (Ω:Prop),all[k]?=some v->P k μ q->(∀x bC,f v μ=some (x,bC)->P (k+1) bC (ar q x)->Ω)->Ω):
  ∀(c:List MV) (k:Nat) (μ:Hp) (q:List MV),all.drop k=c->P k μ q->(∀xs d,uk f n all c μ=some (xs,d)->P (k+c.length) d (q++xs)->Ω)->Ω
 |[],k,μ,q,_,p,ω=>ω [] μ (C_ (g k μ q p)) ((d8 q).symm▸p)
 |v::r,k,μ,q,h,p,ω=>sP h λi o=>step k v μ q _ i p λx bC j p1=>nq P g step r (k+1) bC (ar q x) o p1 λxs d m s=>
  ω (x::xs) d ((C_ (g k μ q p)).trans ((j7 j).trans (j7 m))) (Cj k v r▸Df q x xs▸s)
end
noncomputable def fF(F:k6)(i:Nat):MS:=(F.b[i]?).getD .c
noncomputable def jO(F:k6)(i j:Nat):MS:=match fF F i with
 | .g _ _ b=>(b[j]?).getD .c
 | .h _ b=>(b[j]?).getD .c
 |_=> .c
section
variable{T:Tab}{cl:Call}{fuel n:Nat}{t:MT}{e:ME}{b:List MS}{ρ:Loc}{μ bC:Hp}{l:List MV}{Ω:Prop}
theorem r8(P:Nat->Loc->Hp->Prop)(r:aO T cl e ρ μ=some (.d n,bC))(h:∀k ρ μ,P k ρ μ->μ[n]?=some (.a l))(p:P 0 ρ bC)
  (step:∀k v ρ μ (Ω:Prop),l[k]?=some v->P k ρ μ->(∀bt bC j i,eX T cl t v ρ μ=some (bt,bC)->aY T cl fuel b bt bC=some (.a,j,i)->P (k+1) j i->Ω)->Ω) (q:∀ρ' c,bQ T cl fuel (.g t (.b e) b) ρ μ=some (.a,ρ',c)->P l.length ρ' c->Ω):Ω:=
 sX (en:=false) P h step l 0 ρ bC rfl p λρ' c o m=>q ρ' c ((j7 r).trans ((v9 (h _ _ _ p)).trans o)) (cP l.length▸m)
theorem Ii(P:Nat->Loc->Hp->Prop)(s:aO T cl e ρ μ=some (.d n,bC))(i:∀k ρ μ,P k ρ μ->μ[n]?=some (.a l))(p:P 0 ρ bC)
  (step:∀k v ρ μ (Ω:Prop),l[k]?=some v->P k ρ μ->(∀bt bC m j,eX T cl t (.e [.c (k:Int),v]) ρ μ=some (bt,bC)->aY T cl fuel b bt bC=some (.a,m,j)->P (k+1) m j->Ω)->Ω) (r:∀ρ' h,bQ T cl fuel (.g t (.c e) b) ρ μ=some (.a,ρ',h)->P l.length ρ' h->Ω):Ω:=
 sX (en:=true) P i step l 0 ρ bC rfl p λρ' h q o=>r ρ' h ((j7 s).trans ((v9 (i _ _ _ p)).trans q)) (cP l.length▸o)
theorem pX(h:(yM (n:Int))[k]?=some v):k<n/\v= .c (k:Int):=by
 unfold yM at h
 rw[aL] at h
 refine mm h λj hj e=>?_
 have q:=ax.mp hj
 have a:=q.2
 rw[List.getElem_range] at a
 exact⟨by simpa using q.1,e▸a▸rfl⟩
theorem sj(n:Nat):(yM (n:Int)).length=n:=by unfold yM;simp
theorem pJ(P:Nat->Loc->Hp->Prop)(w:aO T cl e ρ μ=some (.c (n:Int),bC))(r:n<=1000)(p:P 0 ρ bC)
  (step:∀k ρ μ (Ω:Prop),k<n->P k ρ μ->(∀bt bC m j,eX T cl t (.c (k:Int)) ρ μ=some (bt,bC)->aY T cl fuel b bt bC=some (.a,m,j)->P (k+1) m j->Ω)->Ω) (h:∀ρ' d,bQ T cl fuel (.g t (.a e) b) ρ μ=some (.a,ρ',d)->P n ρ' d->Ω):Ω:=
 xF (all:=yM (n:Int)) P (λk v ρ μ Ω o q h=>by
  obtain⟨s,rfl⟩:=pX (n:=n) o
  exact step k ρ μ Ω s q h) _ 0 ρ bC rfl p λρ' d u i=>h ρ' d ((j7 w).trans ((j1 (AK r)).trans u)) (by rw[cP,iB,sj] at i;exact i)
theorem abG(d:aO T cl e ρ μ=some (.c ((1:Nat):Int),bC))(st:eX T cl t (.c ((0:Nat):Int)) ρ bC=some (bt,eh))(hb:aY T cl fuel b bt eh=some (.a,ρ',aG)):bQ T cl fuel (.g t (.a e) b) ρ μ=some (.a,ρ',aG):=
 (j7 d).trans ((j7 st).trans (NG hb))
theorem Ap(c:aO T cl e ρ μ=some (.h false,eh)):bQ T cl (fuel+1) (.h e b) ρ μ=some (.a,ρ,eh):=j7 c
end
end
section
structure Inv (σ:St) (Γ:Cf) (n:Nat):Prop where
 a:WS σ Γ
 j:iP σ n
 r:σ.R.length<=n
 F:∃i:Nat,σ.U=(i:Int)/\i<=n
 y:σ.z.length<=n
 L:σ.a.length<=n
 A:cR σ.B (.c 16)=some (.d 178)
 B:cR σ.B (.c 19)=some (.d 180)
 z:∀p∈σ.L,∃(t:Int) (o:Nat),p=(.c t,.d o)
 C:σ.L.length<=n
theorem abL{R R':List Row}{j:Nat}{row:Row}(g:∃x,R'=R++x)(h:R[j]?=some row):R'[j]?=some row:=by obtain⟨x,rfl⟩:=g;exact lX h
theorem Bq(g:∃x,R'=R++x)(h:cj R v k t):cj R' v k t:=by obtain⟨x,rfl⟩:=g;exact h.o x
theorem WS.B{σ σ':St}{Γ:Cf}(W:WS σ Γ)(u:Up σ σ')(k:KW σ'.R):WS σ' Γ:=
 u.C (P:=λs=>WS s Γ) ⟨k,abL u.j W.A,W.x,W.y,W.j,W.m,W.g,W.h,W.e,W.f,λd i E t=>by
  refine pI (W.v d i E t) λks kr F D l G=>?_
  exact⟨ks,kr,F,D,l.u λJ J q=>Bq u.j q,Bq u.j G⟩,W.p,W.w,W.z⟩
theorem Inv.U(I:Inv σ Γ n)(u:Up σ σ')(k:KW σ'.R)(f:iP σ' m)(e:σ'.R.length<=m)(ix:∃i:Nat,σ'.U=(i:Int)/\i<=m)(hm:n<=m):Inv σ' Γ m:=
 ⟨I.a.B u k,f,e,ix,u.C (P:=λs=>s.z.length<=m) (aD I.y hm),u.C (P:=λs=>s.a.length<=m) (aD I.L hm),u.y _ _ I.A,u.y _ _ I.B,u.C (P:=λs=>∀p∈s.L,∃(t:Int) (o:Nat),p=(.c t,.d o)) I.z,u.C (P:=λs=>s.L.length<=m) (aD I.C hm)⟩
theorem Inv.N(I:Inv σ Γ n)(l:List MV):Inv (σ.C l) Γ n:=
 ⟨⟨I.a.r,I.a.A,I.a.x,I.a.y,I.a.j,I.a.m,I.a.g,I.a.h,I.a.e,I.a.f,I.a.v,I.a.p,I.a.w,I.a.z⟩,⟨I.j.d,I.j.f,I.j.e,I.j.a⟩,I.r,I.F,I.y,I.L,I.A,I.B,I.z,I.C⟩
theorem Up.r(u:Up σ σ'):σ'.u=σ.u:=u.C (P:=λs=>s.u=σ.u) rfl
theorem Up.E(u:Up (σ.C l) σ'):Up σ (σ'.C σ.u):=⟨have e:σ'.C σ.u=((σ.C l).up σ').C σ.u:=congrArg (St.C · σ.u) u.G;e,u.j,u.y⟩
theorem rM(H:iP σ n)(δ:List MO)(h:cR σ.B (.c la)=some v):ez (HS σ δ) (.d 144) (.c la)=some v:=by
 delta ez;exact(Mw ⋯).trans ((j1 (H.q _)).trans h)
theorem iP.s(h:iP σ n)(g:n<=m):iP σ m:=⟨by have:=h.d;exact oE g this,by have:=h.f;exact oE g this,h.e,h.a⟩
theorem Inv.q(I:Inv σ Γ n)(g:n<=m):Inv σ Γ m:=
 I.U (Up.q σ) I.a.r (I.j.s g) (by have:=I.r;exact oE g this) (by refine cf I.F λi d e=>?_;exact⟨i,d,oE g e⟩) g
theorem Inv.Q(I:Inv σ Γ n)(u:Up σ σ')(d:σ'.R=σ.R)(e:σ'.U=σ.U)(h:iP σ' m)(hm:n<=m):Inv σ' Γ m:=
 I.U u (d▸I.a.r) h (by rw[d];have:=I.r;exact oE hm this) (by rw[e];refine cf I.F λi g f=>?_;exact⟨i,g,oE hm f⟩) hm
theorem Up.R(h:∃x,R'=σ.R++x):Up σ (σ.r R'):=⟨rfl,h,λJ J h=>h⟩
theorem Inv.R(I:Inv σ Γ n)(g:dM σ.R R' c):Inv (σ.r R') Γ (n+c):=
 I.U (Up.R g.c) g.r ⟨by have:=I.j.d;show σ.J.length<=_;exact Gr this,by have:=I.j.f;show σ.B.length<=_;exact Gr this,I.j.e,I.j.a⟩ (by have m:=I.r;have k:=g.p;show R'.length<=_;exact Sx m k) (by refine cf I.F λi h l=>?_;exact⟨i,h,Gr l⟩) Xi
theorem Up.H:Up σ (σ.S t):=⟨rfl,kT _,λJ J h=>h⟩
section
variable{K b n:Nat}{σ:St}{δ:List MO}{c:lW}{o:Bool}{Γ:Cf}{row:Row}
theorem xM{e:Prop}(I:Inv σ Γ n)(i:n<=90000)(k:iO c)(B:rG σ.R b o)(f:∀R' j,(∀K δ,au Tb (K+6) 83 [.d 11,c.a b] (HS σ δ)=some (.c ((j+20:Nat):Int),HS (σ.r R') δ))->(R'[j]?=some (.d c b o))->(Up σ (σ.r R'))->(Inv (σ.r R') Γ (n+1))->e):e:=by
 refine wk I.a.r (by have:=I.r;exact Gq i this) k B λR' j h p=>?_
 exact f R' j (λK δ=>h K (jn σ) (gh σ++δ)) p.b (Up.R p.c) (I.R p.g)
theorem Ux{f:Prop}(I:Inv σ Γ n)(k:n<=90000)(i:∀R' j,(∀K δ,au Tb (K+6) 83 [.d 11,.e [.c 2,.c 6,.e []]] (HS σ δ)=some (.c ((j+20:Nat):Int),HS (σ.r R') δ))->(R'[j]?=some .e)->(Up σ (σ.r R'))->(Inv (σ.r R') Γ (n+1))->f):f:=by
 refine C4 (row:= .e) I.a.r (by have:=I.r;exact Gq k this) (.inr rfl) λR' j h p=>?_
 exact i R' j (λK δ=>h K (jn σ) (gh σ++δ)) p.b (Up.R p.c) (I.R p.g)
theorem Hn{h:Prop}(I:Inv σ Γ n)(g:n<=80000)(l:∀a R' i j,(∀K δ,au Tb (K+7) 146 [.d 11,.c 6,.e []] (HS σ δ)=some (.c ((i+20:Nat):Int),HS (σ.r a) δ))->(∀K δ,au Tb (K+7) 160 [.d 11,.c ((i+20:Nat):Int)] (HS (σ.r a) δ)=some (.c ((j+20:Nat):Int),HS (σ.r R') δ))->((b9 R')[j+20]?=some (.e [.c 4,.c ((i+20:Nat):Int)]))->(Up σ (σ.r R'))->(Inv (σ.r R') Γ (n+2))->h):h:=by
 refine Ux I (AM g) λa i s a1 m k=>?_
 refine xM (c:= .f) (b:=i+20) (o:=false) k (O5 g) .c (y5 a1 (by have:a.length<=n+1:=k.r;exact(aD this (eK (aM g _)))) (.inr rfl)) λR' j p a2 t q=>?_
 refine l a R' i j (λK δ=>?_) (λK δ=>?_) (gf a2) (m.f t) q
 ·have e:=s K δ
  exact bu [(4,ow e)] ⋯
 ·have e:=p K δ
  exact bu [(2,ow e)] ⋯
theorem adz{i m:Nat}{v:MV}(σ:St)(h:δ[i]?=some (.a [v]))(hm:m<=1000):dE (HS σ δ) .c (.d (i+182)) (.c (m:Int))=some (.d (δ.length+182),HS σ (ar δ (.a (br m v)))):=by
 unfold dE Va;dsimp only[iv];rw[v9 (by rw[df];exact h)]
 refine(j1 (AK hm)).trans ?_
 rw[kD,kC];rfl
theorem LU:au Tb (K+4) 657 [.d 148,.c ((i+20:Nat):Int)] (HS σ δ)=some (cb,HS σ δ):=by
 have o2:∀μ,ct μ .d (.c ((i+20:Nat):Int)) (.c 8)=some false:=λμ=>qG (y:=8) (by simp<;>omega)
 have o3:∀μ,ct μ .a (.c ((i+20:Nat):Int)) (.c 9)=some false:=n_ (c:=9) (dJ (bk (by decide) (eR _ _)))
 have e:∀μ,ct μ .a (.c ((i+20:Nat):Int)) (.c 10)=some false:=n_ (c:=10) (dJ (bk (by decide) (eR _ _)))
 have g:∀μ,ct μ .a (.c ((i+20:Nat):Int)) (.c 11)=some false:=n_ (c:=11) (dJ (bk (by decide) (eR _ _)))
 have f:au Tb (K+2) 664 [.d 148,.c ((i+20:Nat):Int)] (HS σ δ)=some (.c ((i+20:Nat):Int),HS σ δ):=pU (K:=K+1) (m:=i+20) xc
 exact bu [(0,ow (bu [(7,ow (bu [(0,oq ((λμ=>qG (x:=1) (rfl):∀μ,ct μ .d (.c 1) (.c ((i+20:Nat):Int))=some true) (HS σ δ)))] ⋯:au Tb (K+2) 343 [.c ((i+20:Nat):Int)] (HS σ δ)=some (cb,HS σ δ)))] ⋯:au Tb (K+3) 823 [.d 148,.c ((i+20:Nat):Int)] (HS σ δ)=some (cb,HS σ δ)))] ⋯
theorem E_{i j m:Nat}(f:σ.R.length<=100000)(h:(b9 σ.R)[j+20]?=some (.e [.c 4,.c ((i+20:Nat):Int)]))(hm:m<=1000):au Tb (K+8) 886 [.d 148,.c ((j+20:Nat):Int),.c (m:Int)] (HS σ δ)=some (.d ((ar δ (.a [cb])).length+182),HS σ (ar (ar δ (.a [cb])) (.a (br m cb)))):=by
 have g:∀μ,ct μ .a (.c ((j+20:Nat):Int)) (.c 13)=some false:=n_ (c:=13) (dJ (bk (by decide) (eR _ _)))
 exact bu [(3,ow ((pL f h (eR _ _) false (.inr (.inr ⟨rfl,rfl⟩))) (K+5) σ δ ⋯)),(6,ow ((Iz f h) (K+5) σ δ ⋯)),(11,ow (bu [(1,ow (mJ (k:=K+5) (a:=jn σ) (z:=gh σ++δ) h f))] ⋯:au Tb (K+7) 174 [.d 11,.c ((j+20:Nat):Int)] (HS σ δ)=some (.c ((i+20:Nat):Int),HS σ δ))),(12,ow (LU (K:=K+3) (σ:=σ) (δ:=δ) (i:=i))),(14,ow (adz (m:=m) σ (aZ δ (.a [cb])) hm))] ⋯
end
end
section
theorem p6{a:Type}{δ:List a}{i:Nat}{o:a}(h:δ[i]?=some o):δ.set i o=δ:=by
 obtain⟨b,e⟩:=ax.mp h
 exact e▸(List.set_getElem_self b)
section
variable{K i k n m:Nat}{σ:St}{δ:List MO}{l:List MV}{v:MV}{Γ:Cf}
theorem A_(σ:St)(h:δ[i]?=some (.a l))(b:k<l.length)(e:l.length<=1000)(v:MV):pZ (HS σ δ) (.d (i+182)) (.c (k:Int)) v=some (HS σ (δ.set i (.a (l.set k v)))):=by
 refine(UG (by rw[df];exact h)).trans ((Rl _).trans ((j1 ⟨R6,O4 b,rj e⟩).trans ?_))
 rw[s9];rfl
theorem jV(σ:St)(h:δ[i]?=some (.a l))(b:l[k]?=some v)(e:k<100000):ez (HS σ δ) (.d (i+182)) (.c (k:Int))=some v:=
 gj (by rw[df];exact h) b (eK e)
theorem hJ(σ:St)(h:δ[i]?=some (.a l))(b:l.length<=1000):mj (HS σ δ) (.d (i+182))=some (.c (l.length:Nat)):=
 lh (by rw[df];exact h) (rj b)
theorem D0(H:iP σ n)(g:n<=100000)(o:σ.R.length<=100000)(h:(b9 σ.R)[j+20]?=some (.e [.c 4,.c ((p+20:Nat):Int)]))(hm:m<=1000)(b:1<=m):
  au Tb (K+10) 755 [.d 148,.c ((j+20:Nat):Int),.c (m:Int)] (HS σ δ)=some (.d ((ar (ar δ (.a [cb])) (.a (br m cb))).length+182),HS (σ.E (.d ((ar (ar δ (.a [cb])) (.a (br m cb))).length+182)) ((2:Int)+(m:Int))) (ar (ar (ar δ (.a [cb])) (.a (br m cb))) (rD σ.h ((j+20:Nat):Int) (ar δ (.a [cb])).length ((2:Int)+(m:Int)) (σ.A+1)))):=by
 have f:∀μ,au Tb (K+5+1) 265 [.c ((br m cb).length:Nat)] μ=some (.c ((2:Int)+(m:Int)),μ):=λμ=>by
  exact oM▸(KD (by show some (decide ((2:Int)+(m:Int)<3))=_;rw[decide_eq_false (W9 hm b)]))
 exact bu [(0,ow (bu [(4,ow (E_ (δ:=δ) (K:=K) o h hm)),(5,ow (pw (K:=K+5) (kk:=((j+20:Nat):Int)) (w:=(2:Int)+(m:Int)) (j:=(ar δ (.a [cb])).length) (l:=br m cb) H g (δ:=ar (ar δ (.a [cb])) (.a (br m cb))) (aZ _ _) f (bw (by rw[oM];unfold bz;exact(eK hm)))))] ⋯:au Tb (K+9) 893 [.d 148,.c ((j+20:Nat):Int),.c (m:Int)] (HS σ δ)=some (.d ((ar (ar δ (.a [cb])) (.a (br m cb))).length+182),HS (σ.E (.d ((ar (ar δ (.a [cb])) (.a (br m cb))).length+182)) ((2:Int)+(m:Int))) (ar (ar (ar δ (.a [cb])) (.a (br m cb))) (rD σ.h ((j+20:Nat):Int) (ar δ (.a [cb])).length ((2:Int)+(m:Int)) (σ.A+1))))))] ⋯
noncomputable def lq:MV->MV:=λa=> .e [.c 4,a]
theorem Nl{f:Prop}(s:δ[q]?=some (.a l))(j:l.length<=5)(h:1<=l.length)(r:∀x,(bQ Tb (au Tb K) K (fF Bk 1) [(103,.d 148),(62,kk),(178,.d (q+182)),(171,.d (δ.length+182))] (HS σ (ar δ (.a [])))=some (.a,[(103,.d 148),(62,kk),(178,.d (q+182)),(171,.d (δ.length+182)),(71,x)],HS σ (ar δ (.a (l.map lq)))))->f):f:=by
 refine r8 (T:=Tb) (cl:=au Tb K) (fuel:=K) (t:= .b 71) (e:= .d 178) (b:=[.d (.n (.d 171) 0 [.l [.g (.c 4),.d 71]])]) (ρ:=[(103,.d 148),(62,kk),(178,.d (q+182)),(171,.d (δ.length+182))]) (μ:=HS σ (ar δ (.a []))) (bC:=HS σ (ar δ (.a []))) (n:=q+182) (l:=l)
  (λk ρ μ=>(k=0/\ρ=[(103,.d 148),(62,kk),(178,.d (q+182)),(171,.d (δ.length+182))]\/∃x,ρ=[(103,.d 148),(62,kk),(178,.d (q+182)),(171,.d (δ.length+182)),(71,x)])/\μ=HS σ (ar δ (.a ((l.take k).map lq)))) rfl
  (λk ρ μ p=>by rw[p.2,df];exact fU _ s) ⟨.inl ⟨rfl,rfl⟩,rfl⟩
  (λk v ρ μ f o p u=>by
   refine u ([(103,.d 148),(62,kk),(178,.d (q+182)),(171,.d (δ.length+182)),(71,v)]) μ ([(103,.d 148),(62,kk),(178,.d (q+182)),(171,.d (δ.length+182)),(71,v)]) (HS σ (ar δ (.a ((l.take (k+1)).map lq)))) ?_ ?_ ⟨.inr ⟨v,rfl⟩,rfl⟩
   ·rcases p.1 with⟨_,rfl⟩|⟨x,rfl⟩<;>rfl
   ·rw[p.2]
    have y:(l.take (k+1)).map lq=ar ((l.take k).map lq) (lq v):=by
     rw[List.take_succ,o];simp[ar]
    exact y▸(eD [(0,oc (jB σ (aZ δ (MO.a (mY lq (hY k l)))))),(2,ow (Q4 (kj (au Tb K) σ (aZ δ (MO.a (mY lq (hY k l)))) (MV.e [MV.c 4,v]) (bw (by simp;unfold bz;exact Xe j h))) (dK δ (MO.a (mY lq (hY k l))) (MO.a (ar (mY lq (hY k l)) (MV.e [MV.c 4,v]))))))] ⋯)) λρ' z e p=>?_
 rcases p.1 with⟨w,_⟩|⟨x,rfl⟩
 ·(exfalso;exact Sy j h w)
 ·refine r x ?_
  rw[show fF Bk 1= .g (.b 71) (.b (.d 178)) [.d (.n (.d 171) 0 [.l [.g (.c 4),.d 71]])] from ⋯,e,p.2,eC]
end
end
section
theorem uE{R x:List Row}{i:Nat}{v:MV}(h:(b9 R)[i]?=some v):(b9 (R++x))[i]?=some v:=by
 rw[b9,d9];exact mZ h
section
variable{K n m:Nat}{σ:St}{δ:List MO}{l:List MV}{v:MV}{Γ:Cf}
theorem Nm{A:Prop}{h o s:Nat}{z:List MV}{a0 a1 a2 a3:MV}{ad kk w sn:Int}(H:δ[h]?=some (.a l))(G:δ[o]?=some (rD ad kk s w sn))(C:δ[s]?=some (.a z))(j:z.length=l.length)(M:l.length<=5)(J:1<=l.length)(hsh:s≠h)(u:s≠o)(F:∀x y,(bQ Tb (au Tb K) K (fF Bk 4) [(103,a0),(62,a1),(178,a2),(171,.d (h+182)),(71,a3),(48,.d (o+182))] (HS σ δ)=some (.a,[(103,a0),(62,a1),(178,a2),(171,.d (h+182)),(71,a3),(48,.d (o+182)),(182,x),(91,y)],HS σ (δ.set s (.a l))))->A):A:=by
 refine Ii (T:=Tb) (cl:=au Tb K) (fuel:=K) (t:= .c [182,91]) (e:= .d 171) (b:=[.f (.d (.k (.d 48) 63) (.d 182)) (.d 91)]) (ρ:=[(103,a0),(62,a1),(178,a2),(171,.d (h+182)),(71,a3),(48,.d (o+182))]) (μ:=HS σ δ) (bC:=HS σ δ) (n:=h+182) (l:=l)
  (λk ρ μ=>(k=0/\ρ=[(103,a0),(62,a1),(178,a2),(171,.d (h+182)),(71,a3),(48,.d (o+182))]\/∃x y,ρ=[(103,a0),(62,a1),(178,a2),(171,.d (h+182)),(71,a3),(48,.d (o+182)),(182,x),(91,y)])/\∃r,r.length=l.length/\r.take k=l.take k/\μ=HS σ (δ.set s (.a r))) rfl
  (λk ρ μ p=>by
   obtain⟨_,r,_,_,rfl⟩:=p
   rw[df];exact jf _ _ hsh H) ⟨.inl ⟨rfl,rfl⟩,z,j,rfl,by rw[p6 C]⟩
  (λk v ρ μ A B p I=>by
   obtain⟨p1,r,j,i,rfl⟩:=p
   have D:=(ax.mp B).1
   refine I ([(103,a0),(62,a1),(178,a2),(171,.d (h+182)),(71,a3),(48,.d (o+182)),(182,.c k),(91,v)]) (HS σ (δ.set s (.a r))) ([(103,a0),(62,a1),(178,a2),(171,.d (h+182)),(71,a3),(48,.d (o+182)),(182,.c k),(91,v)]) (HS σ (δ.set s (.a (r.set k v)))) ?_ ?_ ⟨.inr ⟨_,v,rfl⟩,r.set k v,by simp[j],?_,rfl⟩
   ·rcases p1 with⟨_,rfl⟩|⟨x,y,rfl⟩<;>rfl
   ·have q:=A_ σ (mX (MO.a r) C) (j▸D) (by omega) v
    rw[jv] at q
    exact eD [(0,ov (ed σ (jf s (MO.a r) (AI u) G) 63 (MV.d (s+182)) ⋯)),(1,oh q)] ⋯
   ·rw[f6,f6,B,List.take_set_of_le (aC _),i]
    simp[j,D]) λρ' N e p=>?_
 obtain⟨p1,r,j,i,rfl⟩:=p
 rcases p1 with⟨L,_⟩|⟨x,y,rfl⟩
 ·(exfalso;omega)
 ·refine F x y ?_
  have:r=l:=by
   have E:=eC (l:=l)
   have q:=j▸eC
   rw[<-q,i,E]
  refine rI this ?_
  rw[show fF Bk 4= .g (.c [182,91]) (.c (.d 171)) [.f (.d (.k (.d 48) 63) (.d 182)) (.d 91)] from ⋯,e]
theorem Nn{Ω:Prop}(I:Inv σ Γ n)(S:σ.u=[])(hn:n<=70000){kk q:Nat}{ll:List MV}(h:(b9 σ.R)[kk]?=some (.e (.c 2::ll)))(hm:15<=kk)(hq:δ[q]?=some (.a l))(O:l.length<=5)(P:1<=l.length)
  {la:Int} (hla:l[l.length - 1]?=some (.c la)) {s0 s1 s2:MV} {b:Nat} (hT:ik σ δ b la kk [s0,s1,s2]) (bG:∀σ' aX ca ra jk,(au Tb (K+12) 1047 [.d 148,.c (kk:Int),.d (q+182)] (HS σ δ)=some (.c ca,HS σ' aX))->(Up σ σ')->(Gw δ aX)->(Inv σ' Γ (n+4))->(ik σ' aX δ.length ca kk [s0,s1,.e [.c 4,.c ra]])->(ik σ' aX δ.length ra jk (l.map lq))->(0<ra)->Ω):Ω:=by
 refine Nl (K:=K+11) (σ:=σ) (kk:= .c (kk:Int)) hq O P λx1 e1=>?_
 refine b6 (ar δ (.a (l.map lq))) λd1 T=>?_
 refine b6 (σ.C (ar σ.u (.d (δ.length+182)))) λdA i7=>?_
 rw[<-T] at e1
 refine Hn (i7▸(I.N _)) (xh hn) λR1 R' p j k1 k2 hr u1 I3=>?_
 refine b6 (dA.r R1) λdR ja=>?_
 refine b6 (dA.r R') λw k_=>?_
 rw[<-k_] at u1 I3
 have hR3:w.R=R':=k_▸rfl
 rw[<-hR3] at hr
 have gq1:=T▸(fU _ hq)
 refine b6 (ar (ar d1 (.a [cb])) (.a (br l.length cb))) λd2 H=>?_
 refine b6 ((ar d1 (.a [cb])).length) λs Z=>?_
 refine b6 (ar d2 (rD w.h ((j+20:Nat):Int) s ((2:Int)+(l.length:Int)) (w.A+1))) λd3 V=>?_
 refine b6 (w.E (.d (d2.length+182)) ((2:Int)+(l.length:Int))) λF Ew=>?_
 have gs3:=V▸H▸(fU _ (h9 _ _ _ Z.symm))
 have Us:=V▸(h9 _ _ _ rfl)
 have w12:Gw d1 d3:=by rw[V,H];exact(Gw.d _ _).e ((Gw.d _ _).e (Gw.d _ _))
 have gh3:=w12.2 _ _ (T▸(h9 _ _ _ rfl))
 have r9:s≠δ.length:=by rw[Z,aB,T,aB];exact Pb
 have hnt:s≠d2.length:=by rw[Z,H];simp only[aB];exact(gu (dh _))
 refine Nm (K:=K+11) (σ:=F) (a0:= .d 148) (a1:= .c (kk:Int)) (a2:= .d (q+182)) (a3:=x1) gh3 Us gs3 (by simp) (by simpa using O) (by simpa using P) r9 hnt λx2 y2 e2=>?_
 refine b6 (d3.set s (.a (l.map lq))) λd4 Rd=>?_
 rw[<-Rd] at e2
 have gt4:=Rd▸(jf _ _ hnt Us)
 have gh4:=Rd▸(jf _ _ r9 gh3)
 have gs4:=Rd▸(mX _ gs3)
 refine b6 (d4.set δ.length (.a (ar (l.map lq) (.e [.c 4,.c w.h])))) λg W=>?_
 have I4:Inv F Γ (n+3):=Ew▸(I3.Q (Up.p _ _ _) rfl rfl (I3.j.i (cv.mpr (gy [_] 0 (2+V0.A) .z rfl))) (cN _))
 have u4:=u1.f (Ew▸(Up.p _ _ _))
 have h4:(b9 F.R)[kk]?=some (.e (.c 2::ll)):=by
  refine dG u4.j λx hx=>?_
  exact hx▸(uE (i7▸h))
 refine b6 (ar (ar g (.a [cb,cb,cb])) (.b [])) λd6 X=>?_
 refine b6 (ar d6 (rD F.h (kk:Int) g.length 5 (F.A+1))) λG Rf=>?_
 refine b6 (F.E (.d (d6.length+182)) 5) λWR Ey=>?_
 have c4:=Ey▸Rf▸X▸(uG (δ:=g) I4.j (eK (aM hn _)) (by have:=I4.r;exact(aD this (eK (aM hn _)))) h4 hm (K+3))
 have M:=Rf▸X▸(fU _ (fU _ (h9 _ _ _ rfl)))
 have L:=Rf▸(h9 _ _ _ rfl)
 have gh7:=Rf▸X▸(fU _ (fU _ (fU _ (W▸(mX _ gh4)))))
 have gt7':G[d2.length]?=some (rD w.h ((j+20:Nat):Int) s ((2:Int)+(l.length:Int)) (w.A+1)):=by
  rw[Rf,X,W];exact fU _ (fU _ (fU _ (jf _ _ (by rw[H,aB,aB,T,aB];exact Xh) gt4)))
 refine b6 (WR.C σ.u) λt MD=>?_
 have o3:∀cl,dj cl (HS WR G) (.d 169) [] .d=some (.d (δ.length+182),HS t G):=λcl=>by
  exact MD▸(J_ cl WR G σ.u _ (by rw[Ey];show F.u=_;rw[u4.r,i7]) (S▸rfl))
 have u5:=u4.f (Ey▸(Up.p _ _ _))
 have u6:Up σ t:=by rw[MD];rw[i7] at u5;exact u5.E
 have I6:=MD▸((Ey▸(I4.Q (Up.p _ _ _) rfl rfl (I4.j.i (by decide)) Sz)).N _)
 have J:=cJ hq
 have gq7:G[q]?=some (.a l):=by
  rw[Rf,X,W];exact fU _ (fU _ (fU _ (jf _ _ (sC J) (Rd▸(jf _ _ (by rw[Z,aB,T,aB];exact(λS=>bZ [_,_] (.o (V0.A+1) V0.B (.e (V0.B+1+1) V0.A .z)) rfl J S)) (w12.2 _ _ gq1))))))
 have ln6:=hJ t gq7 (AO O P)
 have U:Gw δ G:=by
  rw[Rf,X,W,Rd]
  refine(Gw.q (Gw.q ?_ ?_ _) ?_ _).e ((Gw.d _ _).e ((Gw.d _ _).e (Gw.d _ _)))
  ·exact Gw.e (T▸(Gw.d _ _)) w12
  ·rw[Z,aB,T,aB];exact AN
  ·exact AL
 have zF:(ar (l.map lq) (.e [.c 4,.c w.h]))[l.length - 1]?=some (.e [.c 4,.c la]):=by
  unfold ar
  rw[aJ (by simp;exact Xg O P),aL,hla];rfl
 have x6:ez (HS t G) (.d (δ.length+182)) (.c ((l.length:Int) - 1))=some (.e [.c 4,.c la]):=by
  have:=jV t gh7 zF (Xf O P)
  rw[show((l.length - 1:Nat):Int)=(l.length:Int) - 1 from(Int.ofNat_sub P)] at this;exact this
 obtain⟨ol,sl,wl,nl,t1,t2,t3,_,_⟩:=hT.i u6 U
 have n6:=rM I6.j G t1
 have Y:δ.length<g.length:=by rw[W,Rd];simp;exact cJ gh3
 have Lsl:sl≠g.length:=by
  obtain⟨o',s',w',n',p1,p2,p3,_,_⟩:=hT
  have:=u6.y _ _ p1
  replace this:=t1▸this
  have e:ol=o':=by cases this;rfl
  cases e
  have:=U.2 _ _ p2
  replace this:=t2▸this
  have e:sl=s':=by cases this;rfl
  have:=cJ p3
  exact(λS=>bZ [_,_,_,_] (.o (V0.A+1) V0.B (.e V0.C V0.D (.o (V0.D+1) V0.A (.f V0.B V0.C .z)))) rfl Y e this S)
 have Lq:=Xm J Y
 have Lh:=xf Y
 have Ls1:sl≠δ.length:=by
  obtain⟨o',s',w',n',p1,p2,p3,_,_⟩:=hT
  have:=u6.y _ _ p1
  rw[t1] at this
  have e:ol=o':=by cases this;rfl
  subst e
  have:=U.2 _ _ p2
  have this:=t2▸this
  have e:sl=s':=by cases this;rfl
  have:=cJ p3
  exact(λS=>bZ [_,_,_] (.e V0.A V0.B (.o (V0.B+1) V0.C (.f V0.C V0.A .z))) rfl e this S)
 have L6:d6.length≠g.length:=by rw[X,aB,aB];exact Pb
 have L2:d2.length≠g.length:=by rw[W,Rd];have:=cJ Us;simp;exact(gu this)
 have x9:ez (HS t (G.set g.length (.a [s0,s1,cb]))) (.d (δ.length+182)) (.c (l.length:Int))=some (.e [.c 4,.c w.h]):=
  jV t (jf _ _ (sC Y) gh7) ((show l.length=(l.map lq).length from by simp)▸(aZ _ _)) (ry O)
 have ln9:=hJ t (jf (δ:=G) (i:=q) g.length (.a [s0,s1,cb]) (λS=>bZ [_,_,_] (.o (V0.A+1) V0.B (.o (V0.B+1) V0.C (.e V0.C V0.A .z))) rfl J Y S) gq7) (AO O P)
 have Lo:ol≠g.length:=by
  intro e
  replace t2:=M▸e▸t2;cases t2
 have wF:Gw δ (G.set g.length (.a [s0,s1,.e [.c 4,.c w.h]])):=Gw.q U (Pa Y) _
 have t5:cR WR.B (.c w.h)=some (.d (d2.length+182)):=Ey▸(oF (Ew▸(lG (lF I3.j.k))))
 have t6:cR WR.B (.c F.h)=some (.d (d6.length+182)):=Ey▸(lG (lF I4.j.k))
 have a56:t.B=WR.B:=MD▸rfl
 have gs8:G[s]?=some (.a (l.map lq)):=by
  rw[Rf,X,W];exact fU _ (fU _ (fU _ (jf _ _ (cH r9) gs4)))
 have Ls:s≠g.length:=by have:=cJ gs4;exact Xk Z (W▸fX▸rfl) this
 exact bG t _ F.h w.h ((j+20:Nat):Int) (bu [(1,os e1),(3,ow ((λcl=>i7▸(J9 cl σ d1 _ (S▸rfl))) (au Tb (K+11)))),(8,ow (ja▸(k1 (K+4) d1))),(9,ow (ja▸k_▸(k2 (K+4) d1))),(10,ov (hJ w gq1 (AO O P))),(11,ow (Ew▸V▸Z▸H▸(D0 (K:=K+1) I3.j (eK (aM hn _)) (by have:=I3.r;exact(aD this (eK (aM hn _)))) hr (AO O P) P))),(11,os e2),(11,oc (jB F gh4)),(12,ov (ed F gt4 71 (MV.c w.h) ⋯)),(14,ow ((λcl=>W▸(kj cl F gh4 _ (bw (by simp;unfold bz;exact(eK O))))) (au Tb (K+11)))),(16,ow c4),(19,ow (o3 (au Tb (K+11)))),(22,ov ln6),(24,ov x6),(26,ov n6),(27,ov (ed t t2 63 (MV.d (sl+182)) ⋯)),(28,ov (hK t t3 0 s0 ⋯)),(29,ov (ed t L 63 (MV.d (g.length+182)) ⋯)),(30,oh (Ee t M 0 s0 ([s0,MV.e [MV.c 4,MV.c 0],MV.e [MV.c 4,MV.c 0]]) ⋯)),(31,ov (ed t (jf g.length (MO.a [s0,MV.e [MV.c 4,MV.c 0],MV.e [MV.c 4,MV.c 0]]) Lo.symm t2) 63 (MV.d (sl+182)) ⋯)),(32,ov (hK t (jf g.length (MO.a [s0,MV.e [MV.c 4,MV.c 0],MV.e [MV.c 4,MV.c 0]]) (Xl J Y Lsl Lq Lh Ls1 L6 L2 Lo) t3) 1 s1 ⋯)),(33,ov (ed t (jf g.length (MO.a [s0,MV.e [MV.c 4,MV.c 0],MV.e [MV.c 4,MV.c 0]]) (Gs L6 L2 Lo) L) 63 (MV.d (g.length+182)) ⋯)),(34,oh (Wc (Ee t (mX (MO.a [s0,MV.e [MV.c 4,MV.c 0],MV.e [MV.c 4,MV.c 0]]) M) 1 s1 ([s0,s1,MV.e [MV.c 4,MV.c 0]]) ⋯) (N8 G g.length (MO.a [s0,MV.e [MV.c 4,MV.c 0],MV.e [MV.c 4,MV.c 0]]) (MO.a [s0,s1,MV.e [MV.c 4,MV.c 0]])))),(35,ov ln9),(36,ov x9),(37,ov (ed t (jf g.length (MO.a [s0,s1,MV.e [MV.c 4,MV.c 0]]) (Gs L6 L2 Lo) L) 63 (MV.d (g.length+182)) ⋯)),(38,oh (Wc (Ee t (mX (MO.a [s0,s1,MV.e [MV.c 4,MV.c 0]]) M) 2 (MV.e [MV.c 4,MV.c w.h]) ([s0,s1,MV.e [MV.c 4,MV.c w.h]]) ⋯) (N8 G g.length (MO.a [s0,s1,MV.e [MV.c 4,MV.c 0]]) (MO.a [s0,s1,MV.e [MV.c 4,MV.c w.h]])))),(39,ov (ed t (jf g.length (MO.a [s0,s1,MV.e [MV.c 4,MV.c w.h]]) (Gs L6 L2 Lo) L) 71 (MV.c F.h) ⋯))] ⋯) u6 wF I6 ⟨d6.length,g.length,5,F.A+1,a56▸t6,jf _ _ (cH L6) L,mX _ M,by rw[X,aB,aB];exact(bN [_,_] V0.A (V0.B+1+1) (.o (V0.A+1) V0.B .z) rfl Y),Pa Y⟩ ⟨d2.length,s,_,_,a56▸t5,jf _ _ (cH L2) gt7',jf _ _ (cH Ls) gs8,by rw[H,aB,aB,T,aB];exact O8,by rw[Z,aB,T,aB];exact AN⟩ I3.j.a
end
end
section
noncomputable abbrev FV(t:Nat):Nat:=11*t - 679
section
variable{K n m t:Nat}{s:Int}{σ:St}{δ:List MO}{l:List MV}{v x:MV}{Γ:Cf}{R:List Row}
theorem Br(e:R.length<=100000)(h:(b9 R)[m]?=some r)(K:Nat)(σ:St)(δ:List MO)(b:σ.R=R):au Tb (K+1) 76 [.d 11,.c (m:Int)] (HS σ δ)=some (r,HS σ δ):=by
 subst b;exact mJ (k:=K) (a:=jn σ) (z:=gh σ++δ) h e
structure i3 (R:List Row) (m:Nat) (s:Int) (t:Nat) (w:MV):Prop where
 a:(b9 R)[m]?=some (.e [.c s,.c (t:Int),w])
 d:s=2\/s=3
 e:64<=t
 f:t<=68
 b:15<=m
theorem i3.c{R x:List Row}{m:Nat}{s:Int}{t:Nat}{w:MV}(h:i3 R m s t w):i3 (R++x) m s t w:=⟨uE h.a,h.d,h.e,h.f,h.b⟩
theorem IB(i:R.length<=100000)(h:i3 R m s t w)(K:Nat)(σ:St)(δ:List MO)(b:σ.R=R):au Tb (K+3) 998 [.d 10,.c (m:Int)] (HS σ δ)=some (.d (FV t),HS σ δ):=by
 have e:=IA i h.a h.d K σ δ b
 have g:=O_ h.e h.f
 rcases g with rfl|rfl|rfl|rfl|rfl
 ·exact bu [(1,ow e)] ⋯
 ·exact bu [(1,ow e)] ⋯
 ·exact bu [(1,ow e)] ⋯
 ·exact bu [(1,ow e)] ⋯
 ·exact bu [(1,ow e)] ⋯
theorem tg(H:iP σ n)(j:σ.R.length<=100000)(h:i3 σ.R m s t w)(f:t<=65)(k:fK σ δ b ad m)(K:Nat):au Tb (K+4) 1061 [.d 148,.c ad] (HS σ δ)=some (.h true,HS σ δ):=by
 have e:=IB j h
 refine k.a λo p g=>?_
 have i:=rM H δ p
 have f:=nx h.e λh=>aQ f h
 rcases f with rfl|rfl
 ·exact bu [(3,ov i),(4,ov g),(5,ow (e K σ δ ⋯))] ⋯
 ·exact bu [(3,ov i),(4,ov g),(5,ow (e K σ δ ⋯))] ⋯
end
end
section
section
variable{K n m t b:Nat}{s:Int}{σ:St}{δ aX:List MO}{l:List MV}{v x:MV}{Γ:Cf}{R:List Row}{ad:Int}
theorem fK.e(h:fK σ δ b ad kk)(g:Gw δ aX):fK σ aX b ad kk:=h.d (S:=λJ=>False) (λJ J h=>h) g.f λJ h=>h.elim
theorem ik.f(h:ik σ δ b ad kk l)(g:Gw δ aX):ik σ aX b ad kk l:=h.d (S:=λJ=>False) (λJ J h=>h) g.f λJ h=>h.elim
theorem NX(H:iP σ n)(δ:List MO)(h:cR σ.B (.c ad)=some v):ct (HS σ δ) .c (.c ad) (.d 144)=some false:=by
 have:inV (HS σ δ) (.c ad) (.d 144)=some true:=(dcI ⋯).trans ((j1 (H.q _)).trans (h▸rfl))
 exact mI this
theorem Jj{kk:Int}{s0 s1:MV}(H:iP σ n)(f:ik σ δ b ad kk [s0,s1,cb])(K:Nat):au Tb (K+1) 1054 [.d 148,.c ad] (HS σ δ)=some (.d (δ.length+182),HS σ (ar δ (.a [.c ad]))):=by
 obtain⟨o,s,w,j,i,h,g,_,_⟩:=f
 exact bu [(2,ov (rM H δ i)),(3,ov (ed σ h 63 (MV.d (s+182)) ⋯)),(4,ov (hK σ g 2 (MV.e [MV.c 4,MV.c 0]) ⋯))] ⋯
theorem EK{kk f G:Int}{s0 s1 w:MV}{c:Nat}{as:List Int}(H:iP σ n)(hl:σ.R.length<=100000)(h:i3 σ.R m s t w)(ht:t<=65)(S:ik σ δ b ad kk [s0,s1,.e [.c 4,.c f]])(Y:0<f)(V:ik σ δ b f G (as.map λa=>lq (.c a)))(ha:∀a∈as,fK σ δ c a m)(W:as.length<=5)(K:Nat):
  au Tb (K+5) 1054 [.d 148,.c ad] (HS σ δ)=some (.d (δ.length+182),HS σ (ar δ (.a (as.map MV.c)))):=by
 obtain⟨o,s,w,n',X,F,I,_,_⟩:=S
 have N:=rM H δ X
 obtain⟨P,u,Z,z,U,r2,r3,_,_⟩:=V
 have O:∀μ,ct μ .a (.c f) (.c 0)=some false:=λμ=>by
  show some (MV.k (.c f) (.c 0))=_
  rw[fe (by intro e;cases e;exact absurd Y (by decide))]
 refine r8 (T:=Tb) (cl:=au Tb (K+4)) (fuel:=K+4) (t:= .b 91) (e:= .k (.h (.k (.k (.d 103) 61) 70) (.h (.d 48) (.g (.c 1)))) 63)
  (b:=[.m (.J (.q .c (.h (.d 91) (.g (.c 1))) (.k (.k (.d 103) 61) 70)) (.C (.j 1061 [.d 103,.h (.d 91) (.g (.c 1))]))) [.d (.n (.d 103) 136 [.g (.c 5)]),.p (.D [])] [],.d (.n (.d 56) 0 [.h (.d 91) (.g (.c 1))])])
  (ρ:=[(103,.d 148),(71,.c ad),(48,.e [.c 4,.c f]),(56,.d (δ.length+182))]) (μ:=HS σ (ar δ (.a []))) (bC:=HS σ (ar δ (.a []))) (n:=u+182) (l:=as.map λa=>lq (.c a))
  (λk ρ μ=>(ρ=[(103,.d 148),(71,.c ad),(48,.e [.c 4,.c f]),(56,.d (δ.length+182))]\/∃x,ρ=[(103,.d 148),(71,.c ad),(48,.e [.c 4,.c f]),(56,.d (δ.length+182)),(91,x)])/\μ=HS σ (ar δ (.a ((as.take k).map MV.c))))
  (n9 [(3,ov (rM H (ar δ (.a [])) U)),(4,ov (ed σ (fU _ r2:(ar δ (.a []))[P]?=some (rD f G u Z z)) 63 (MV.d (u+182)) ⋯))] ⋯)
  (λk ρ μ p=>by rw[p.2,df];exact fU _ r3) ⟨.inl rfl,rfl⟩
  (λk v ρ μ Ω i p Q=>by
   have UK:∃a,as[k]?=some a/\v= .e [.c 4,.c a]:=by
    replace i:=aL▸i
    cases e:as[k]? with
    |none=>rw[e] at i;cases i
    |some a=>rw[e] at i;exact⟨a,rfl,by refine j8 i ?_;rfl⟩
   refine cf UK λa L z0=>?_
   subst z0
   refine Q ([(103,.d 148),(71,.c ad),(48,.e [.c 4,.c f]),(56,.d (δ.length+182)),(91,.e [.c 4,.c a])]) μ ([(103,.d 148),(71,.c ad),(48,.e [.c 4,.c f]),(56,.d (δ.length+182)),(91,.e [.c 4,.c a])]) (HS σ (ar δ (.a ((as.take (k+1)).map MV.c)))) ?_ ?_ ⟨.inr ⟨_,rfl⟩,rfl⟩
   ·rcases p.1 with rfl|⟨x,rfl⟩<;>rfl
   ·rw[p.2]
    have A:(as.take (k+1)).map MV.c=ar ((as.take k).map MV.c) (.c a):=by
     rw[f6,L];simp[ar]
    rw[A]
    have r:=(ha a (aU L)).e (Gw.d δ (.a ((as.take k).map MV.c)))
    refine r.a λoa B J=>?_
    exact eD [(3,oq (NX H (ar δ (.a ((as.take k).map MV.c))) B)),(6,ow (tg H hl h ht r K)),(9,oc (jB σ (aZ δ (MO.a (mY MV.c (hY k as)))))),(11,ow (Q4 (kj (au Tb (K+4)) σ (aZ δ (MO.a (mY MV.c (hY k as)))) (MV.c a) (bw (by simp;unfold bz;exact Xj W))) (dK δ (MO.a (mY MV.c (hY k as))) (MO.a (ar (mY MV.c (hY k as)) (MV.c a))))))] ⋯) λρ' aG e p=>?_
 have y:=p.1
 have E:=p.2
 rw[ay,eC] at E
 have M:=E▸e
 rcases y with rfl|⟨x,rfl⟩
 ·exact bu [(2,ov N),(3,ov (ed σ F 63 (MV.d (s+182)) ⋯)),(4,ov (hK σ I 2 (MV.e [MV.c 4,MV.c f]) ⋯)),(6,oq (O (HS σ δ))),(9,os M)] ⋯
 ·exact bu [(2,ov N),(3,ov (ed σ F 63 (MV.d (s+182)) ⋯)),(4,ov (hK σ I 2 (MV.e [MV.c 4,MV.c f]) ⋯)),(6,oq (O (HS σ δ))),(9,os M)] ⋯
end
end
section
structure En where
 f:Int
 k:Nat
 h:Nat
 j:MV
 g:List MV
 o:Nat
noncomputable abbrev En.a(e:En):MV:= .e [.c (e.k:Int),.c (e.h:Int),e.j]
noncomputable abbrev En.c(e:En):MV:= .e [.c e.f,e.a,.d (e.o+182)]
noncomputable abbrev En.p(e:En):List MV:=[.e [.c 4,.c e.f],.e [.c 7,e.a],cb]
structure RS (σ:St) (δ:List MO) (b:Nat) (Γ:Cf) (d l:Nat) (e:En) (i:Nat) (s:Int) (t:Nat) (ta:MV):Prop where
 z:1<=i
 m:i<6
 j:e.h=b0 d i
 a:i3 σ.R e.k s t ta
 o:Own σ.R l (Γ.v i) ta e.j
 w:bh 7 e.j=true
 y:δ[e.o]?=some (.a e.g)
 q:b<=e.o
 p:(i=1\/i=2)/\e.g=[]\/(i=3\/i=5)/\s=2/\0<e.f/\e.g=[.e [.c 4,.c e.f]]\/i=4/\s=3/\0<e.f/\(∃sl,ik σ δ b e.f e.k sl)/\e.g=[.e [.c 6,.e [.c 3,.c (e.f+2),.e []]]]
inductive pv (σ:St) (δ:List MO) (b:Nat) (Γ:Cf) (d l:Nat) (e:En):Prop
 |mk (i s t ta) (E:RS σ δ b Γ d l e i s t ta)
section
variable{K n m t b d i:Nat}{s:Int}{σ:St}{δ aX:List MO}{l:List MV}{v x:MV}{Γ:Cf}{R:List Row}{ad kk:Int}
theorem Jp(σ:St)(δ:List MO)(e:d<2)(a:i<6):iu Tb (HS σ δ) (.d (hU (b0 d i))) 161=some (.c (EO i:Nat)):=WA (tx σ δ e a).b
theorem acp(σ:St)(δ:List MO)(e:d<2)(a:i<6):iu Tb (HS σ δ) (.d (hU (b0 d i))) 158=some (.c (σ.T (b0 d i))):=WA (tx σ δ e a).b
noncomputable abbrev te(i:Nat):Bool:=i==1||i==2
theorem U_(h:te i=true):EO i=1:=by
 have:i=1\/i=2:=by simpa[te] using h
 rcases this with rfl|rfl<;>rfl
theorem U9(h:te i=false):EO i=0:=by
 have:i≠1/\i≠2:=by simpa[te] using h
 unfold EO
 split
 ·exact(absurd this (by decide))
 ·exact(absurd this (by decide))
 ·rfl
theorem US{w s0 s2:MV}{WE f:Int}{a p:Nat}{c:Bool}(H:iP σ n)(M:ez (HS σ δ) (.d 19) (.c (a:Int))=some (.d p))(F:iu Tb (HS σ δ) (.d p) 161=some (.c f))(u:f=1/\c=true\/f=0/\c=false)(q:ik σ δ b ad kk [s0,.e [.c 7,.e [.c WE,.c (a:Int),w]],s2])(K:Nat):au Tb (K+1) 1115 [.d 148,.c ad] (HS σ δ)=some (.h c,HS σ δ):=by
 obtain⟨o,sl,z,y,r,j,g,_,_⟩:=q
 have k:=rM H δ r
 rcases u with⟨rfl,rfl⟩|⟨rfl,rfl⟩
 ·exact bu [(2,ov k),(3,ov (ed σ j 63 (MV.d (sl+182)) ⋯)),(4,ov (hK σ g 1 (MV.e [MV.c 7,MV.e [MV.c WE,MV.c ↑a,w]]) ⋯)),(12,ov M),(13,ov F)] ⋯
 ·exact bu [(2,ov k),(3,ov (ed σ j 63 (MV.d (sl+182)) ⋯)),(4,ov (hK σ g 1 (MV.e [MV.c 7,MV.e [MV.c WE,MV.c ↑a,w]]) ⋯)),(12,ov M),(13,ov F)] ⋯
theorem Ca{w s0 s2:MV}{WE:Int}(H:iP σ n)(g:d<2)(f:i<6)(j:ik σ δ b ad kk [s0,.e [.c 7,.e [.c WE,.c (b0 d i:Nat),w]],s2])(K:Nat):au Tb (K+1) 1115 [.d 148,.c ad] (HS σ δ)=some (.h (te i),HS σ δ):=by
 refine US H (tx σ δ g f).a (Jp σ δ g f) ?_ j K
 cases hs:te i with
 |true=>exact .inl ⟨by rw[U_ hs];rfl,rfl⟩
 |false=>exact .inr ⟨by rw[U9 hs];rfl,rfl⟩
theorem Og(g:σ.R.length<=100000)(h:i3 σ.R m s t w)(K:Nat):au Tb (K+4) 1033 [.d 148,.c (m:Int),.c 2] (HS σ δ)=some (.h false,HS σ δ):=by
 have e:=IB g h
 have a:=O_ h.e h.f
 rcases a with rfl|rfl|rfl|rfl|rfl
 ·exact bu [(1,ow (e K σ δ ⋯))] ⋯
 ·exact bu [(1,ow (e K σ δ ⋯))] ⋯
 ·exact bu [(1,ow (e K σ δ ⋯))] ⋯
 ·exact bu [(1,ow (e K σ δ ⋯))] ⋯
 ·exact bu [(1,ow (e K σ δ ⋯))] ⋯
theorem Kz{w r s0 s2:MV}(H:iP σ n)(g:σ.R.length<=100000)(h:i3 σ.R m s t r)(p:d<2)(j:i<6)(a:ik σ δ b ad kk [s0,.e [.c 7,.e [.c (m:Int),.c (b0 d i:Nat),w]],s2])(K:Nat):au Tb (K+5) 1122 [.d 148,.c ad] (HS σ δ)=some (.h false,HS σ δ):=by
 have e:=Ca H p j a
 generalize b0 d i=md at*
 cases hs:te i with
 |false=>
  rw[hs] at e
  exact bu [(0,ow (e (K+3)))] ⋯
 |true=>
  rw[hs] at e
  obtain⟨o,sl,y,u,q,k,f,_,_⟩:=a
  exact bu [(0,ow (e (K+3))),(5,ov (rM H δ q)),(6,ov (ed σ k 63 (MV.d (sl+182)) ⋯)),(7,ov (hK σ f 1 (MV.e [MV.c 7,MV.e [MV.c ↑m,MV.c ↑md,w]]) ⋯)),(10,ow ((Og (δ:=δ) g h) K))] ⋯
end
end
section
noncomputable abbrev St.I(σ:St)(l:List (MV×MV)):St:={σ with L:=l}
section
variable{K n m t b d i:Nat}{s:Int}{σ:St}{δ aX:List MO}{l:List MV}{v x:MV}{Γ:Cf}{R:List Row}{ad kk:Int}
theorem HP{d:List (MV×MV)}{k v:MV}(h:cR d k=some v):∃a,(a,v)∈d:=by
 induction d with
 |nil=>cases h
 |cons p r c=>
  obtain⟨a,w⟩:=p
  have h':(if MV.k a k then some w else cR r k)=some v:=h
  cases e:MV.k a k with
  |true=>rw[e] at h';refine j8 h' ?_;exact⟨a,.head _⟩
  |false=>
   rw[e] at h'
   obtain⟨b,hb⟩:=c h'
   exact⟨b,.tail _ hb⟩
theorem HV{d:List (MV×MV)}{k v:MV}:∀p∈iT d k v,p∈d\/p.2=v/\(p.1=k\/∃q∈d,q.1=p.1):=by
 induction d with
 |nil=>intro p c;cases c with
  |head=>exact .inr ⟨rfl,.inl rfl⟩
  |tail _ h=>cases h
 |cons q r f=>
  obtain⟨a,w⟩:=q
  intro p c
  have c:p∈(if MV.k a k then(a,v)::r else(a,w)::iT r k v):=c
  cases e:MV.k a k with
  |true=>
   rw[e] at c
   rcases cw.mp c with rfl|h
   ·exact .inr ⟨rfl,.inr ⟨(a,w),.head _,rfl⟩⟩
   ·exact .inl (.tail _ h)
  |false=>
   rw[e] at c
   rcases cw.mp c with rfl|h
   ·exact .inl (.head _)
   ·rcases f p h with h|⟨h1,h2|⟨q,hq,h3⟩⟩
    ·exact .inl (.tail _ h)
    ·exact .inr ⟨h1,.inl h2⟩
    ·exact .inr ⟨h1,.inr ⟨q,.tail _ hq,h3⟩⟩
theorem abA{d:List (MV×MV)}{k v:MV}:(iT d k v).length<=d.length+1:=by
 induction d with
 |nil=>show[(k,v)].length<=_;simp
 |cons q r c=>
  obtain⟨a,w⟩:=q
  show(if MV.k a k then(a,v)::r else(a,w)::iT r k v).length<=_
  cases MV.k a k<;>simp<;>exact Gy c
theorem Inv.T(I:Inv σ Γ n){l:List (MV×MV)}(h:∀p∈l,∃(t:Int) (o:Nat),p=(.c t,.d o))(k:l.length<=n+1):Inv (σ.I l) Γ (n+1):=by
 have I:=I.q (show n<=n+1 from lB)
 exact⟨⟨I.a.r,I.a.A,I.a.x,I.a.y,I.a.j,I.a.m,I.a.g,I.a.h,I.a.e,I.a.f,I.a.v,I.a.p,I.a.w,I.a.z⟩,⟨I.j.d,I.j.f,I.j.e,I.j.a⟩,I.r,I.F,I.y,I.L,I.A,I.B,h,k⟩
theorem Nt{B:Prop}(I:Inv σ Γ n)(D:n<=90000)(k:Int)(A:∀y aX,(∀K,au Tb (K+4) 463 [.d 172,.d 148,.c k,.c 2] (HS σ δ)=some (.h false,HS (σ.I y) aX))->(Gw δ aX)->(Inv (σ.I y) Γ (n+1))->B):B:=by
 have u:=mh (λp w=>by obtain⟨t,o,rfl⟩:=I.z p w;exact⟨t,rfl⟩) k
 have g:∀δ,(HS σ δ)[157]?=some (.b σ.L):=λδ=>⋯
 cases e:cR σ.L (.c k) with
 |some v=>
  obtain⟨a,E⟩:=HP e
  obtain⟨t,o,G⟩:=I.z _ E
  cases G
  have r:∀cl,dj cl (HS σ δ) (.d 157) [.c k] .b=some (.d o,HS σ δ):=λcl=>by
   rw[vT (g δ) u,e];rfl
  refine A σ.L δ (λK=>?_) (Gw.p _) (I.T I.z (by have:=I.C;exact xi this))
  have j:au Tb (K+3) 900 [.d 148,.c k] (HS σ δ)=some (.d o,HS σ δ):=bu [(2,ow (r (au Tb (K+2))))] ⋯
  exact bu [(0,ow j)] ⋯
 |none=>
  have r:∀cl,dj cl (HS σ δ) (.d 157) [.c k] .b=some (.f,HS σ δ):=λcl=>by
   rw[vT (g δ) u,e];rfl
  have j:pZ (HS σ (ar (ar δ (.a [])) (.b []))) (.d 157) (.c k) (.d (δ.length+182))=some (HS (σ.I (iT σ.L (.c k) (.d (δ.length+182)))) (ar (ar δ (.a [])) (.b []))):=by
   rw[mq (g _) u (by have:=I.C;unfold bz;exact Pd D this)]
   exact congrArg some ⋯
  refine A (iT σ.L (.c k) (.d (δ.length+182))) (ar (ar δ (.a [])) (.b [])) (λK=>?_) ((Gw.d _ _).e (Gw.d _ _)) (I.T (λp w=>?_) (by have J:=I.C;have H:=abA (d:=σ.L) (k:= .c k) (v:= .d (δ.length+182));exact SO J H))
  ·have F:au Tb (K+3) 900 [.d 148,.c k] (HS σ δ)=some (.d (δ.length+182),HS (σ.I (iT σ.L (.c k) (.d (δ.length+182)))) (ar (ar δ (.a [])) (.b []))):=bu [(2,ow (r (au Tb (K+2)))),(9,oh j)] ⋯
   exact bu [(0,ow F)] ⋯
  ·rcases HV p w with h|⟨h1,h2|⟨q,hq,h3⟩⟩
   ·exact I.z p h
   ·exact⟨k,δ.length+182,Prod.ext h2 h1⟩
   ·obtain⟨t,o,rfl⟩:=I.z q hq
    exact⟨t,δ.length+182,Prod.ext h3.symm h1⟩
end
end
section
noncomputable abbrev gw(b:Nat)(num:Int)(aV body:MV)(ip:Int)(args:MV)(stk:Nat)(sort extra:Int):MO:= .d 424 [(119,.c num),(108,aV),(123,body),(127,.c ip),(28,args),(258,.d (b+1+182)),(126,.d (stk+182)),(332,.d (b+3+182)),(333,.d (b+4+182)),(334,.d (b+5+182)),(194,.d (b+6+182)),(5,.c sort),(335,.c num),(205,.c extra),(336,.c (-1))]
noncomputable def fD(δ:List MO)(o:MO):Nat->List MO
 |0=>ar δ o
 |j+1=>ar (fD δ o j) (.a [])
noncomputable def St.M(σ:St)(aV args:MV)(sort:Int)(g:Nat):St:={σ with a:=ar σ.a (.e [aV,args,.c sort]),z:=ar σ.z (.d (g+182))}
section
variable{K n m t b d i:Nat}{s:Int}{σ:St}{δ aX:List MO}{l:List MV}{v x:MV}{Γ:Cf}{R:List Row}{ad kk:Int}{o p:MO}
theorem sU:∀(j:Nat),(fD δ o j).length=δ.length+j+1
 |0=>aB ..
 |j+1=>by show(ar (fD δ o j) _).length=_;rw[aB,sU j];exact(Av _ _ _)
theorem vP:∀(j:Nat),(fD δ o j)[δ.length]?=some o
 |0=>aZ ..
 |j+1=>fU _ (vP j)
theorem zv(h:δ[i]?=some p):∀(j:Nat),(fD δ o j)[i]?=some p
 |0=>fU _ h
 |j+1=>fU _ (zv h j)
theorem Ib:∀(j:Nat),(fD δ o j).set δ.length p=fD δ p j
 |0=>dK ..
 |j+1=>by
  show(ar (fD δ o j) _).set _ _=_
  rw[qS (by rw[sU];exact(gy [_,_] V0.A (V0.A+V0.B+1) .z rfl)),Ib j];rfl
theorem r7:∀(j:Nat) {i:Nat},i<j->(fD δ o j)[δ.length+1+i]?=some (.a [])
 |0,_,h=>by(exfalso;exact SP h)
 |j+1,i,h=>by
  by_cases e:i=j
  ·refine rI e ?_
   exact h9 _ _ _ (by rw[sU];exact Xr)
  ·exact fU _ (r7 j (Xq h e))
theorem xD(j:Nat):Gw δ (fD δ o j):=⟨by rw[sU];exact(bN [_,_] V0.A (V0.A+V0.B+1) .z rfl),λJ J h=>zv h j⟩
theorem Il(σ:St)(δ:List MO)(c:List (Nat×MV))(j a:Nat)(v:MV)(h:okS 424 c a=true):og Tb (HS σ (fD δ (.d 424 c) j)) (.d (δ.length+182)) a v=some (HS σ (fD δ (.d 424 (bp c a v)) j)):=by
 rw[FO σ (vP j) a v _ h rfl,Ib]
theorem frL(σ:St)(δ:List MO)(c:List (Nat×MV))(j a:Nat)(h:okS 424 c a=true):og Tb (HS σ (ar (fD δ (.d 424 c) j) (.a []))) (.d (δ.length+182)) a (.d ((fD δ (.d 424 c) j).length+182))=some (HS σ (fD δ (.d 424 (bp c a (.d (δ.length+(j+1)+182)))) (j+1))):=by
 rw[sU]
 exact Il σ δ c (j+1) a (.d (δ.length+(j+1)+182)) h
theorem MM:au Tb (K+1) 421 [.d (δ.length+182),.c num,aV,.f,args,.c sort] (HS σ (fD δ (.d 424 []) 0))=some (.f,HS σ (fD δ (gw δ.length num aV .f 0 args (δ.length+2) sort 0) 6)):=by
 have A:=Il σ δ
 have B:=frL σ δ
 exact bu [(0,oh (A [] 0 119 (MV.c num) ⋯)),(1,oh (A (bp [] 119 (MV.c num)) 0 108 aV ⋯)),(2,oh (A (bp (bp [] 119 (MV.c num)) 108 aV) 0 123 MV.f ⋯)),(3,oh (A (bp (bp (bp [] 119 (MV.c num)) 108 aV) 123 MV.f) 0 127 (MV.c 0) ⋯)),(4,oh (A (bp (bp (bp (bp [] 119 (MV.c num)) 108 aV) 123 MV.f) 127 (MV.c 0)) 0 28 args ⋯)),(6,oh (B (bp (bp (bp (bp (bp [] 119 (MV.c num)) 108 aV) 123 MV.f) 127 (MV.c 0)) 28 args) 0 258 ⋯)),(8,oh (B (bp (bp (bp (bp (bp (bp [] 119 (MV.c num)) 108 aV) 123 MV.f) 127 (MV.c 0)) 28 args) 258 (MV.d (δ.length+(0+1)+182))) (0+1) 126 ⋯)),(10,oh (B (bp (bp (bp (bp (bp (bp (bp [] 119 (MV.c num)) 108 aV) 123 MV.f) 127 (MV.c 0)) 28 args) 258 (MV.d (δ.length+(0+1)+182))) 126 (MV.d (δ.length+(0+1+1)+182))) (0+1+1) 332 ⋯)),(12,oh (B (bp (bp (bp (bp (bp (bp (bp (bp [] 119 (MV.c num)) 108 aV) 123 MV.f) 127 (MV.c 0)) 28 args) 258 (MV.d (δ.length+(0+1)+182))) 126 (MV.d (δ.length+(0+1+1)+182))) 332 (MV.d (δ.length+(0+1+1+1)+182))) (0+1+1+1) 333 ⋯)),(14,oh (B (bp (bp (bp (bp (bp (bp (bp (bp (bp [] 119 (MV.c num)) 108 aV) 123 MV.f) 127 (MV.c 0)) 28 args) 258 (MV.d (δ.length+(0+1)+182))) 126 (MV.d (δ.length+(0+1+1)+182))) 332 (MV.d (δ.length+(0+1+1+1)+182))) 333 (MV.d (δ.length+(0+1+1+1+1)+182))) (0+1+1+1+1) 334 ⋯)),(16,oh (B (bp (bp (bp (bp (bp (bp (bp (bp (bp (bp [] 119 (MV.c num)) 108 aV) 123 MV.f) 127 (MV.c 0)) 28 args) 258 (MV.d (δ.length+(0+1)+182))) 126 (MV.d (δ.length+(0+1+1)+182))) 332 (MV.d (δ.length+(0+1+1+1)+182))) 333 (MV.d (δ.length+(0+1+1+1+1)+182))) 334 (MV.d (δ.length+(0+1+1+1+1+1)+182))) (0+1+1+1+1+1) 194 ⋯)),(17,oh (A (bp (bp (bp (bp (bp (bp (bp (bp (bp (bp (bp [] 119 (MV.c num)) 108 aV) 123 MV.f) 127 (MV.c 0)) 28 args) 258 (MV.d (δ.length+(0+1)+182))) 126 (MV.d (δ.length+(0+1+1)+182))) 332 (MV.d (δ.length+(0+1+1+1)+182))) 333 (MV.d (δ.length+(0+1+1+1+1)+182))) 334 (MV.d (δ.length+(0+1+1+1+1+1)+182))) 194 (MV.d (δ.length+(0+1+1+1+1+1+1)+182))) (0+1+1+1+1+1+1) 5 (MV.c sort) ⋯)),(18,oh (A (bp (bp (bp (bp (bp (bp (bp (bp (bp (bp (bp (bp [] 119 (MV.c num)) 108 aV) 123 MV.f) 127 (MV.c 0)) 28 args) 258 (MV.d (δ.length+(0+1)+182))) 126 (MV.d (δ.length+(0+1+1)+182))) 332 (MV.d (δ.length+(0+1+1+1)+182))) 333 (MV.d (δ.length+(0+1+1+1+1)+182))) 334 (MV.d (δ.length+(0+1+1+1+1+1)+182))) 194 (MV.d (δ.length+(0+1+1+1+1+1+1)+182))) 5 (MV.c sort)) (0+1+1+1+1+1+1) 335 (MV.c num) ⋯)),(19,oh (A (bp (bp (bp (bp (bp (bp (bp (bp (bp (bp (bp (bp (bp [] 119 (MV.c num)) 108 aV) 123 MV.f) 127 (MV.c 0)) 28 args) 258 (MV.d (δ.length+(0+1)+182))) 126 (MV.d (δ.length+(0+1+1)+182))) 332 (MV.d (δ.length+(0+1+1+1)+182))) 333 (MV.d (δ.length+(0+1+1+1+1)+182))) 334 (MV.d (δ.length+(0+1+1+1+1+1)+182))) 194 (MV.d (δ.length+(0+1+1+1+1+1+1)+182))) 5 (MV.c sort)) 335 (MV.c num)) (0+1+1+1+1+1+1) 205 (MV.c 0) ⋯)),(20,oh (A (bp (bp (bp (bp (bp (bp (bp (bp (bp (bp (bp (bp (bp (bp [] 119 (MV.c num)) 108 aV) 123 MV.f) 127 (MV.c 0)) 28 args) 258 (MV.d (δ.length+(0+1)+182))) 126 (MV.d (δ.length+(0+1+1)+182))) 332 (MV.d (δ.length+(0+1+1+1)+182))) 333 (MV.d (δ.length+(0+1+1+1+1)+182))) 334 (MV.d (δ.length+(0+1+1+1+1+1)+182))) 194 (MV.d (δ.length+(0+1+1+1+1+1+1)+182))) 5 (MV.c sort)) 335 (MV.c num)) 205 (MV.c 0)) (0+1+1+1+1+1+1) 336 (MV.c (-1)) ⋯))] ⋯
end
end
section
section
variable{K n m t b d i:Nat}{s:Int}{σ:St}{δ aX:List MO}{l:List MV}{v x:MV}{Γ:Cf}{R:List Row}{ad kk:Int}{o p:MO}
theorem JA:yf Tb (au Tb (K+1)) 424 [.c num,aV,.f,args,.c sort] (HS σ δ)=some (.d (δ.length+182),HS σ (fD δ (gw δ.length num aV .f 0 args (δ.length+2) sort 0) 6)):=by
 have a:=MM (K:=K) (σ:=σ) (δ:=δ) (num:=num) (sort:=sort) (aV:=aV) (args:=args)
 refine(D5 (by kernel_rfl:Tb.g 424=some (some 421))).trans ?_
 dsimp only;rw[kD,kC];exact j7 a
theorem NV(cl:Call)(σ:St)(δ:List MO)(v:MV)(h:eI σ.a.length bz=true):dj cl (HS σ δ) (.d 164) [v] .a=some (.f,HS (σ.ac (ar σ.a v)) δ):=
 gG (n:=164) (μ:=HS σ δ) (l:=σ.a) ⋯ (aW h)
theorem ac6(cl:Call)(σ:St)(δ:List MO)(v:MV)(h:eI σ.z.length bz=true):dj cl (HS σ δ) (.d 165) [v] .a=some (.f,HS (σ.aq (ar σ.z v)) δ):=
 gG (n:=165) (μ:=HS σ δ) (l:=σ.z) ⋯ (aW h)
theorem C2(g:σ.a.length<=90000)(h:σ.z.length<=90000):au Tb (K+3) 762 [.d 148,aV,args,.c sort] (HS σ δ)=some (.d (δ.length+182),HS (σ.M aV args sort δ.length) (fD δ (gw δ.length ((σ.a.length+1:Nat):Int) aV .f 0 args (δ.length+2) sort 0) 6)):=by
 have j:mj (HS (σ.ac (ar σ.a (.e [aV,args,.c sort]))) δ) (.d 164)=some (.c ((σ.a.length+1:Nat):Int)):=by
  rw[lh (n:=164) (l:=ar σ.a (.e [aV,args,.c sort])) ⋯ (by rw[aB];unfold bz;exact(ry g)),aB]
 exact bu [(0,ow (bu [(3,ow (NV (au Tb (K+1)) σ δ (MV.e [aV,args,MV.c sort]) (bw (Gz g)))),(5,ov j),(6,ow (JA (K:=K) (σ:=σ.ac (ar σ.a (.e [aV,args,.c sort]))) (δ:=δ) (num:=((σ.a.length+1:Nat):Int)) (sort:=sort) (aV:=aV) (args:=args))),(9,ow (ac6 (au Tb (K+1)) (σ.ac (ar σ.a (MV.e [aV,args,MV.c sort]))) (fD δ (gw δ.length (↑(σ.a.length+1)) aV MV.f 0 args (δ.length+2) sort 0) 6) (MV.d (δ.length+182)) (bw (Gz h))))] ⋯:au Tb (K+2) 802 [.d 148,aV,args,.c sort] (HS σ δ)=some (.d (δ.length+182),HS (σ.M aV args sort δ.length) (fD δ (gw δ.length ((σ.a.length+1:Nat):Int) aV .f 0 args (δ.length+2) sort 0) 6))))] ⋯
theorem adA(σ:St)(h:δ[i]?=some (.a l))(c:l.length<=1000):lu (HS σ δ) (.d (i+182)) none none=some (.d (δ.length+182),HS σ (ar δ (.a l))):=by
 unfold lu;dsimp only[jU,Option.bind_some];rw[v9 (by rw[df];exact h)]
 refine(j1 (rj c)).trans ?_
 rw[kD,kC];rfl
theorem zo(σ:St)(h:δ[i]?=some (.a l))(g:δ[j]?=some (.a y))(e:l.length<=1000)(c:y.length<=1000):dE (HS σ δ) .a (.d (i+182)) (.d (j+182))=some (.d (δ.length+182),HS σ (ar δ (.a (cU l y)))):=by
 unfold dE RZ;dsimp only;rw[v9 (by rw[df];exact h),v9 (by rw[df];exact g)]
 refine(j1 (eK (qa e c))).trans ?_
 rw[kD,kC];rfl
end
end
section
section
variable{K n t b c d i l ai:Nat}{s:Int}{σ:St}{δ:List MO}{vals:List MV}{ta:MV}{Γ:Cf}{ad kk:Int}{e:En}
theorem tc(h:0<x)(μ:Hp):ct μ .a (.c x) (.c 0)=some false:=by
 show some (MV.k (.c x) (.c 0))=_
 rw[fe (by intro e;cases e;exact absurd h (by decide))]
theorem C0{U:Prop}(I:Inv σ Γ n)(N:n<=80000)(V:d<2)(v:RS σ δ c Γ d l e i s t ta)(X:ik σ δ b ad kk e.p)(Q:δ[ai]?=some (.a vals))(C:vals.length<=100)(E:∀a D,(∀K,au Tb (K+4) 1157 [.d 148,.c ad,.d (ai+182)] (HS σ δ)=some (.f,HS (σ.M e.a (.d (a+182)) 0 D.length) (fD D (gw D.length ((σ.a.length+1:Nat):Int) e.a .f 0 (.d (a+182)) (D.length+2) 0 0) 6)))->(Gw δ D)->(D[a]?=some (.a (cU e.g vals)))->(δ.length<=a)->U):U:=by
 obtain⟨o,sl,wo,n',h1,G,u,_,_⟩:=X
 have S:=rM I.j δ h1
 obtain⟨x,M,F⟩:∃x,ez (HS σ δ) (.d 19) (.c (e.h:Int))=some (.d x)/\iu Tb (HS σ δ) (.d x) 161=some (.c (EO i:Nat)):=⟨_,by rw[v.j];exact(tx σ δ V v.m).a,Jp σ δ V v.m⟩
 have W:σ.R.length<=100000:=by have:=I.r;exact Pe N this
 have q:=λ(D:List MO) (K:Nat) (args:MV)=>C2 (K:=K) (σ:=σ) (δ:=D) (aV:=e.a) (args:=args) (sort:=0) (by have:=I.L;exact GB N this) (by have:=I.y;exact GB N this)
 rcases v.p with⟨B,A⟩|⟨B,J,P,A⟩|⟨B,J,P,⟨bl,Z⟩,A⟩
 ·have F:iu Tb (HS σ δ) (.d x) 161=some (.c 1):=by rcases B with rfl|rfl<;>exact F
  refine E δ.length (ar δ (.a vals)) (λK=>?_) (Gw.d _ _) (A▸(h9 _ _ _ rfl)) (aC _)
  exact bu [(2,ov S),(3,ov (ed σ G 63 (MV.d (sl+182)) ⋯)),(4,ov (hK σ u 1 (MV.e [MV.c 7,e.a]) ⋯)),(8,ov (hK σ u 1 (MV.e [MV.c 7,e.a]) ⋯)),(13,ov M),(14,ov F),(18,ow (adA σ Q (uJ C))),(19,ow (q (ar δ (.a vals)) K (.d (δ.length+182))))] ⋯
 ·have F:iu Tb (HS σ δ) (.d x) 161=some (.c 0):=by rcases B with rfl|rfl<;>exact F
  subst J
  refine b6 (ar δ (.a [.e [.c 4,.c e.f]])) λH w=>?_
  have a1:=zo σ (δ:=H) (i:=δ.length) (j:=ai) (w▸(h9 _ _ _ rfl)) (w▸(fU _ Q)) (by simp) (uJ C)
  rw[w] at a1
  refine E ((ar δ (.a [.e [.c 4,.c e.f]])).length) (ar (ar δ (.a [.e [.c 4,.c e.f]])) (.a (cU [.e [.c 4,.c e.f]] vals))) (λK=>?_) ((Gw.d _ _).e (Gw.d _ _)) (A▸(h9 _ _ _ rfl)) (by rw[aB];exact lB)
  exact bu [(2,ov S),(3,ov (ed σ G 63 (MV.d (sl+182)) ⋯)),(4,ov (hK σ u 1 (MV.e [MV.c 7,e.a]) ⋯)),(8,ov (hK σ u 1 (MV.e [MV.c 7,e.a]) ⋯)),(13,ov M),(14,ov F),(17,ov (hK σ u 0 (MV.e [MV.c 4,MV.c e.f]) ⋯)),(19,oq ((tc P) (HS σ δ))),(23,ow ((pL W v.a.a (by have:=v.a.b;exact AJ this) false (.inr (.inl ⟨rfl,rfl⟩))) (K+1) σ δ ⋯)),(27,ow a1),(28,ow (q (ar (ar δ (.a [.e [.c 4,.c e.f]])) (.a (cU [.e [.c 4,.c e.f]] vals))) K (.d ((ar δ (.a [.e [.c 4,.c e.f]])).length+182))))] ⋯
 ·have F:iu Tb (HS σ δ) (.d x) 161=some (.c 0):=by subst B;exact F
  subst J
  obtain⟨z,sb,wb,nb,b1,T,b3,_,_⟩:=Z
  have Y:∀K,au Tb (K+1) 406 [.d (z+182),.c 0] (HS σ δ)=some (.e [.c 3,.c (e.f+2),.e []],HS σ δ):=λK=>by
   have:au Tb (K+1) 406 [.d (z+182),.c 0] (HS σ δ)=some (.e [.c 3,.c (e.f+2+0),.e []],HS σ δ):=bu [(0,ov (ed σ T 71 (MV.c e.f) ⋯))] ⋯
   rw[Int.add_zero] at this;exact this
  refine b6 (ar δ (.a [.e [.c 6,.e [.c 3,.c (e.f+2),.e []]]])) λH w=>?_
  have a1:=zo σ (δ:=H) (i:=δ.length) (j:=ai) (w▸(h9 _ _ _ rfl)) (w▸(fU _ Q)) (by simp) (uJ C)
  rw[w] at a1
  refine E ((ar δ (.a [.e [.c 6,.e [.c 3,.c (e.f+2),.e []]]])).length) (ar (ar δ (.a [.e [.c 6,.e [.c 3,.c (e.f+2),.e []]]])) (.a (cU [.e [.c 6,.e [.c 3,.c (e.f+2),.e []]]] vals))) (λK=>?_) ((Gw.d _ _).e (Gw.d _ _)) (A▸(h9 _ _ _ rfl)) (by rw[aB];exact lB)
  have O:∀μ,ct μ .b (.c (e.k:Int)) (.c (e.k:Int))=some false:=λμ=>by
   show(some (MV.k (.c (e.k:Int)) (.c (e.k:Int)))).map (!·)=_
   rw[hO];rfl
  exact bu [(2,ov S),(3,ov (ed σ G 63 (MV.d (sl+182)) ⋯)),(4,ov (hK σ u 1 (MV.e [MV.c 7,e.a]) ⋯)),(8,ov (hK σ u 1 (MV.e [MV.c 7,e.a]) ⋯)),(13,ov M),(14,ov F),(17,ov (hK σ u 0 (MV.e [MV.c 4,MV.c e.f]) ⋯)),(19,oq ((tc P) (HS σ δ))),(23,ow ((pL W v.a.a (by have:=v.a.b;exact AJ this) true (.inl ⟨rfl,rfl⟩)) (K+1) σ δ ⋯)),(28,ov (rM I.j δ b1)),(29,ov (ed σ T 62 (MV.c ↑e.k) ⋯)),(31,oq (O (HS σ δ))),(33,ow (Y (K+2))),(37,ow a1),(38,ow (q (ar (ar δ (.a [.e [.c 6,.e [.c 3,.c (e.f+2),.e []]]])) (.a (cU [.e [.c 6,.e [.c 3,.c (e.f+2),.e []]]] vals))) K (.d ((ar δ (.a [.e [.c 6,.e [.c 3,.c (e.f+2),.e []]]])).length+182))))] ⋯
end
end
section
structure qk (σ:St) (δ:List MO) (b:Nat) (Γ:Cf) (d l dk:Nat) (ad:Int) (es:List (Int×En)):Prop where
 j:i3 σ.R dk 2 (64+d) (.e [.c (kd 0 l:Nat)])
 a:∀p∈es,ik σ δ b p.1 dk p.2.p/\pv σ δ b Γ d l p.2
 z:1<=es.length
 m:es.length<=5
 o:(∃p,es=[p]/\ad=p.1)\/2<=es.length/\∃s0 s1 ra jk,ik σ δ b ad dk [s0,s1,.e [.c 4,.c ra]]/\0<ra/\ik σ δ b ra jk (es.map λp=>lq (.c p.1))
section
variable{K n t b c d i l ai f dk:Nat}{s:Int}{σ:St}{δ:List MO}{vals:List MV}{ta:MV}{Γ:Cf}{ad kk:Int}{e:En}{es:List (Int×En)}
theorem Ng(I:Inv σ Γ n)(h:n<=80000)(q:d<2)(D:qk σ δ b Γ d l dk ad es)(K:Nat):au Tb (K+5) 1054 [.d 148,.c ad] (HS σ δ)=some (.d (δ.length+182),HS σ (ar δ (.a (es.map λp=> .c p.1)))):=by
 rcases D.o with⟨p,rfl,rfl⟩|⟨x,s0,s1,z,y,g,v,w⟩
 ·exact Jj I.j (D.a p (.head _)).1 (K+4)
 ·have e:=EK (as:=es.map (·.1)) (c:=b) I.j (by have:=I.r;exact Pe h this) D.j (Gu q) g v (by rw[nX];exact w) (λa k=>by
   obtain⟨p,u,rfl⟩:=cW.mp k
   exact(D.a p u).1.a) (by rw[ay];exact D.m) K
  rw[nX] at e
  exact e
theorem xu{k:Nat}(h:k<=1000):jU (some (.c (k:Int)))=some (some k):=by
 delta jU;exact(Rl _).trans (j1 ⟨Pc h,Ph h⟩)
theorem yv{μ:Hp}{n:Nat}{l:List MV}{lo h:Option MV}{a b:Option Nat}(g:μ[n]?=some (.a l))(j:jU lo=some a)(k:jU h=some b)(m:l.length<=bz):lu μ (.d n) lo h=some (.d μ.length,μ++[.a (sM l a b)]):=(D5 j).trans ((D5 k).trans ((v9 g).trans (j1 m)))
theorem yw(h:δ[i]?=some (.a vals))(g:vals.length<=1000)(k:Nat)(j:k<=1000)(σ:St):lu (HS σ δ) (.d (i+182)) none (some (.c (k:Int)))=some (.d (δ.length+182),HS σ (ar δ (.a (vals.take k)))):=by
 have e:=yv (μ:=HS σ δ) (n:=i+182) (by rw[df];exact h) (show jU none=some none from rfl) (xu j) (rj g)
 rw[kD,kC] at e
 exact e
theorem Ce(h:δ[i]?=some (.a (ar vals z)))(g:vals.length<=100):mj (HS σ δ) (.d (i+182))=some (.c ((vals.length+1:Nat):Int))/\ez (HS σ δ) (.d (i+182)) (.c (((vals.length+1:Nat):Int) - 1))=some z/\lu (HS σ δ) (.d (i+182)) none (some (.c (((vals.length+1:Nat):Int) - 1)))=some (.d (δ.length+182),HS σ (ar δ (.a vals))):=by
 refine((GC):((vals.length+1:Nat):Int) - 1=(vals.length:Int))▸(⟨?_,?_,?_⟩)
 ·rw[hJ σ h (by rw[aB];exact Pf g),aB]
 ·exact jV σ h (aZ _ _) (Pg g)
 ·have:=yw h (by rw[aB];exact Pf g) vals.length (uJ g) σ
  rw[this];unfold ar;simp
structure k7 (δ:List MO) (f:Nat) (num:Int) (aV:MV) (ip:Int) (args:MV) (stk:Nat) (x:Nat) (vals:List MV) (ad:Int):Prop where
 k:δ[f]?=some (gw f num aV .f ip args stk 4 (x:Int))
 h:δ[f+6]?=some (.a (ar vals (.e [.c 4,.c ad])))
theorem tQ{num ip:Int}{aV args:MV}{stk x:Nat}(I:Inv σ Γ n)(m:n<=80000)(o:d<2)(D:qk σ δ b Γ d l dk ad es)(M:k7 δ f num aV ip args stk x vals ad)(j:vals.length<=100)(K:Nat):au Tb (K+6) 1136 [.d 148,.d (f+182)] (HS σ δ)=some (.d (δ.length+182),HS σ (ar δ (.a (es.map λp=> .c p.1)))):=by
 refine m7 (Ce (σ:=σ) M.h j) λk1 k2 q=>?_
 have g:=M.k
 exact bu [(0,ov (ed σ g 194 (MV.d (f+6+182)) ⋯)),(1,ov (ed σ g 194 (MV.d (f+6+182)) ⋯)),(2,ov k1),(4,ov k2),(6,ow (Ng I m o D K))] ⋯
theorem pv.j{S:Nat->Prop}(h:pv σ δ b Γ d l e)(u:∀k v,cR σ.B k=some v->cR σ'.B k=some v)(r:∃x,σ'.R=σ.R++x)(g:Fz S δ aX)(C:ri S δ b):pv σ' aX b Γ d l e:=by
 obtain⟨i,s,t,ta,E⟩:=h
 obtain⟨x,A⟩:=r
 refine⟨i,s,t,ta,E.z,E.m,E.j,A▸E.a.c,A▸(E.o.d x),E.w,C.j g E.y E.q,E.q,?_⟩
 rcases E.p with h|h|⟨h1,h2,h3,⟨sl,h4⟩,h5⟩
 ·exact .inl h
 ·exact .inr (.inl h)
 ·exact .inr (.inr ⟨h1,h2,h3,⟨sl,h4.d u g C⟩,h5⟩)
theorem qk.w{S:Nat->Prop}(h:qk σ δ b Γ d l dk ad es)(u:∀k v,cR σ.B k=some v->cR σ'.B k=some v)(r:∃x,σ'.R=σ.R++x)(g:Fz S δ aX)(C:ri S δ b):qk σ' aX b Γ d l dk ad es:=by
 refine⟨by obtain⟨x,E⟩:=r;rw[E];exact h.j.c,λp D=>⟨(h.a p D).1.d u g C,(h.a p D).2.j u r g C⟩,h.z,h.m,?_⟩
 rcases h.o with q|⟨q,s0,s1,ra,jk,h1,h2,h3⟩
 ·exact .inl q
 ·exact .inr ⟨q,s0,s1,ra,jk,h1.d u g C,h2,h3.d u g C⟩
theorem qk.A(h:qk σ δ b Γ d l dk ad es)(g:Gw δ aX):qk σ aX b Γ d l dk ad es:=h.w (S:=λJ=>False) (λJ J h=>h) ⟨[],(d8 _).symm⟩ g.f λJ h=>h.elim
end
end
section
noncomputable def ph(f:Nat):Nat->Prop:=λi=>i=f
theorem Fz.w(a:List MO)(f:Nat)(o:MO):Fz (ph f) a (a.set f o):=Fz.y o rfl
theorem ri.k(h:δ[f]?=some (.d 424 fs)):ri (ph f) δ b:=λi g=>by
 refine fI g ?_;exact .inr ⟨_,h⟩
section
variable{K n t b c d i l ai f dk:Nat}{s:Int}{σ:St}{δ:List MO}{vals:List MV}{ta:MV}{Γ:Cf}{ad kk:Int}{e:En}{es:List (Int×En)}
theorem Uq{x y:Nat}{c:Bool}(h:decide (y<=x)=c)(μ:Hp):ct μ .f (.c (x:Int)) (.c (y:Int))=some c:=h▸(congrArg some (by rw[decide_eq_decide];exact Xv))
theorem RS.A{S:Nat->Prop}(E:RS σ δ c Γ d l e i s t ta)(u:∀k v,cR σ.B k=some v->cR σ'.B k=some v)(r:∃x,σ'.R=σ.R++x)(g:Fz S δ aX)(D:ri S δ c):RS σ' aX c Γ d l e i s t ta:=by
 refine dG r λx C=>?_
 refine⟨E.z,E.m,E.j,C▸E.a.c,C▸(E.o.d x),E.w,D.j g E.y E.q,E.q,?_⟩
 rcases E.p with h|h|⟨h1,h2,h3,⟨sl,h4⟩,h5⟩
 ·exact .inl h
 ·exact .inr (.inl h)
 ·exact .inr (.inr ⟨h1,h2,h3,⟨sl,h4.d u g D⟩,h5⟩)
theorem k7.j{a:List MO}{num ip:Int}{aV args:MV}{stk x:Nat}(M:k7 δ f num aV ip args stk x vals ad)(g:Gw δ a):k7 a f num aV ip args stk x vals ad:=⟨g.2 _ _ M.k,g.2 _ _ M.h⟩
theorem J5{Ω:Prop}{num ip:Int}{aV args:MV}{stk x:Nat}(I:Inv σ Γ n)(Y:n<=70000)(hd:d<2)(D:qk σ δ b Γ d l dk ad es)(M:k7 δ f num aV ip args stk x vals ad)(hv:vals.length<=10){p:Int×En}(hp:es[x]?=some p)(bG:∀C a F,(∀K,au Tb (K+8) 1143 [.d 148,.d (f+182)] (HS σ δ)=some (.f,HS ((σ.I C).M p.2.a (.d (a+182)) 0 F.length) (fD F (gw F.length ((σ.a.length+1:Nat):Int) p.2.a .f 0 (.d (a+182)) (F.length+2) 0 0) 6)))->(Inv (σ.I C) Γ (n+1))->(Fz (ph f) δ F)->(k7 F f num aV ip args stk (x+1) vals ad)->(F[a]?=some (.a (cU p.2.g vals)))->(δ.length<=a)->Ω):Ω:=by
 have O:=aU hp
 have hx:=(ax.mp hp).1
 obtain⟨i,s,t,ta,E⟩:=(D.a p O).2
 have hl:σ.R.length<=100000:=by have:=I.r;exact xj Y this
 refine b6 (ar δ (.a (es.map λp=> .c p.1))) λH ej=>?_
 have S:=λK=>tQ I (xh Y) hd D M (uI hv) K
 rw[<-ej] at S
 have Z:=ej▸(Gw.d _ _)
 have M1:=M.j Z
 have k1:=M1.k
 have T1:=(D.a p O).1.f Z
 have gl:=ej▸(h9 _ _ _ rfl)
 have ln:=hJ σ gl (by rw[ay];have:=D.m;exact GG this)
 rw[ay] at ln
 have ge:=Uq (x:=x) (y:=es.length) (decide_eq_false (Xp hx))
 have sx:=jV σ gl (k:=x) (v:= .c p.1) (aL▸hp▸rfl) (by have:=D.m;exact Xo hx this)
 have hml:=E.j
 have q:=λK=>Ca (K:=K) (s0:= .e [.c 4,.c p.2.f]) (s2:=cb) (WE:=(p.2.k:Int)) (w:=p.2.j) I.j hd E.m (by rw[<-hml];exact T1)
 obtain⟨C,G,Rh,w2,I2⟩:∃C G,(te i=true->∀K,au Tb (K+4) 463 [.d 172,.d 148,.c (p.2.k:Int),.c 2] (HS σ H)=some (.h false,HS (σ.I C) G))/\(Gw H G/\(te i=false->C=σ.L/\G=H))/\Inv (σ.I C) Γ (n+1):=by
  cases hs:te i with
  |true=>
   refine Nt (δ:=H) I (Gx Y) (p.2.k:Int) λC G h1 h2 h3=>?_
   exact⟨C,G,λJ=>h1,⟨h2,λh=>by cases h⟩,h3⟩
  |false=>exact⟨σ.L,H,λh=>by(cases h),⟨Gw.p _,λJ=>⟨rfl,rfl⟩⟩,I.q lB⟩
 have M2:=M1.j w2.1
 have k2:=M2.k
 refine b6 (σ.I C) λz N=>?_
 rw[<-N] at I2 Rh
 refine b6 (G.set f (gw f num aV .f ip args stk 4 ((x:Int)+1))) λh_ X=>?_
 have hf6:f+6≠f:=AP
 have V:=X▸(mX _ k2)
 have U:=X▸(jf _ _ Xn M2.h)
 refine m7 (Ce (σ:=z) U (uI hv)) λl1 l2 l3=>?_
 refine b6 (ar h_ (.a vals)) λiw Q=>?_
 replace l3:=Q.symm▸l3
 have W:Fz (ph f) δ iw:=by
  rw[Q,X]
  exact((Z.e w2.1).f.k (Fz.w _ _ _)).k (Gw.d _ _).f
 have hS:ri (ph f) δ b:=ri.k M.k
 have u:∀k v,cR σ.B k=some v->cR z.B k=some v:=λk v h=>N▸h
 refine C0 (e:=p.2) I2 (Gv Y) hd (E.A u (⟨[],N▸((d8 _).symm)⟩) W hS) ((D.a p O).1.d u W hS) (vals:=vals) (ai:=h_.length) (Q▸(h9 _ _ _ rfl)) (uI hv) λa F P g' ga la=>?_
 replace P:=(N▸rfl:z.a=σ.a)▸P
 have T:=X▸(FO z k2 205 _ _ ⋯ rfl)
 refine bG C a F (λK=>?_) (N▸I2) (W.k g'.f) ⟨?_,g'.2 _ _ (Q▸(fU _ U))⟩ ga ?_
 ·refine N▸?_
  have S:=S (K+1)
  have q:=q (K+6)
  have P:=P (K+3)
  cases hs:te i with
  |false=>
   replace q:=hs▸q
   refine ir (w2.2 hs) λe1 e2=>?_
   have e0:HS σ H=HS z G:=N▸e1▸e2▸rfl
   rw[e0] at q S ln sx
   exact bu [(0,ow S),(1,ov (ed z k2 205 (MV.c ↑x) ⋯)),(2,ov ln),(3,oq (ge (HS z G))),(5,ov (ed z k2 205 (MV.c ↑x) ⋯)),(6,ov sx),(7,ow q),(10,ov (ed z k2 205 (MV.c ↑x) ⋯)),(11,oh T),(12,ov (ed z V 194 (MV.d (f+6+182)) ⋯)),(13,ov (ed z V 194 (MV.d (f+6+182)) ⋯)),(14,ov l1),(16,ow l3),(17,ow P)] ⋯
  |true=>
   replace q:=hs▸q
   obtain⟨o,sl,wo,n',h1,h2,h3,_,_⟩:=T1
   exact bu [(0,ow S),(1,ov (ed σ k1 205 (MV.c ↑x) ⋯)),(2,ov ln),(3,oq (ge (HS σ H))),(5,ov (ed σ k1 205 (MV.c ↑x) ⋯)),(6,ov sx),(7,ow q),(13,ov (rM I.j H h1)),(14,ov (ed σ h2 63 (MV.d (sl+182)) ⋯)),(15,ov (hK σ h3 1 (MV.e [MV.c 7,p.snd.a]) ⋯)),(18,ow (Rh hs (K+3))),(20,ov (ed z k2 205 (MV.c ↑x) ⋯)),(21,oh T),(22,ov (ed z V 194 (MV.d (f+6+182)) ⋯)),(23,ov (ed z V 194 (MV.d (f+6+182)) ⋯)),(24,ov l1),(26,ow l3),(27,ow P)] ⋯
 ·exact(show((x+1:Nat):Int)=(x:Int)+1 from xg)▸(g'.2 _ _ (Q▸(fU _ V)))
 ·have t0:=W.1
  have t1:=Z.1;have t2:=w2.1.1
  have e:iw.length=h_.length+1:=by rw[Q,aB]
  exact SQ la t0 e
end
end
section
section
variable{K n t b c d i l ai f dk:Nat}{s:Int}{σ:St}{δ:List MO}{vals:List MV}{ta:MV}{Γ:Cf}{ad kk:Int}{e:En}{es:List (Int×En)}
theorem uX
  (w:∀δ,(HS σ δ)[q]?=some (.a [.c md])) (hm:∀δ,∃j,ez (HS σ δ) (.d 19) (.c md)=some (.d j)/\iu Tb (HS σ δ) (.d j) 156=some (.g [73,110,118,111,107,101]))
  (r:aO Tb cl (.k (.h (.k (.d 153) 155) (.d 33)) 157) [(153,.d 10),(33,.c a1),(156,.g [73,110,118,111,107,101]),(56,.d (δ.length+182))] (HS σ (ar δ (.a [])))=some (.d q,HS σ (ar δ (.a [])))):
  bQ Tb cl F (fF Bj 1) [(153,.d 10),(33,.c a1),(156,.g [73,110,118,111,107,101]),(56,.d (δ.length+182))] (HS σ (ar δ (.a [])))=some (.a,[(153,.d 10),(33,.c a1),(156,.g [73,110,118,111,107,101]),(56,.d (δ.length+182)),(131,.c md)],HS σ (ar δ (.a [.c md]))):=by
 refine cf (hm (ar δ (.a []))) λj x u=>?_
 refine(show fF Bj 1= .g (.b 131) (.b (.k (.h (.k (.d 153) 155) (.d 33)) 157)) [.m (.q .a (.k (.h (.k (.d 153) 157) (.d 131)) 156) (.d 156)) [.d (.n (.d 56) 0 [.d 131])] []] from ⋯)▸?_
 refine r8 (T:=Tb) (cl:=cl) (fuel:=F) (t:= .b 131) (e:= .k (.h (.k (.d 153) 155) (.d 33)) 157) (b:=[.m (.q .a (.k (.h (.k (.d 153) 157) (.d 131)) 156) (.d 156)) [.d (.n (.d 56) 0 [.d 131])] []])
  (ρ:=[(153,.d 10),(33,.c a1),(156,.g [73,110,118,111,107,101]),(56,.d (δ.length+182))]) (μ:=HS σ (ar δ (.a []))) (bC:=HS σ (ar δ (.a []))) (n:=q) (l:=[.c md])
  (λk ρ μ=>k=0/\ρ=[(153,.d 10),(33,.c a1),(156,.g [73,110,118,111,107,101]),(56,.d (δ.length+182))]/\μ=HS σ (ar δ (.a []))\/k=1/\ρ=[(153,.d 10),(33,.c a1),(156,.g [73,110,118,111,107,101]),(56,.d (δ.length+182)),(131,.c md)]/\μ=HS σ (ar δ (.a [.c md])))
  r (λk ρ μ p=>by rcases p with⟨_,_,rfl⟩|⟨_,_,rfl⟩<;>exact w _) (.inl ⟨rfl,rfl,rfl⟩)
  (λk v ρ μ z o p y=>by
   rcases p with⟨rfl,rfl,rfl⟩|⟨rfl,_,_⟩
   ·cases o
    exact y _ _ _ _ rfl (eD [(1,ov x),(2,ov u),(5,oc (jB σ (aZ δ (MO.a [])))),(6,ow (Q4 (kj cl σ (aZ δ (MO.a [])) (MV.c md) ⋯) (dK δ (MO.a []) (MO.a (ar [] (MV.c md))))))] ⋯) (.inr ⟨rfl,rfl,rfl⟩)
   ·cases o) λρ' A e p=>?_
 rcases p with⟨h,_⟩|⟨_,rfl,rfl⟩
 ·cases h
 ·exact e
theorem MR(m:σ.R.length<=100000)(k:d<2)(h:i3 σ.R dk 2 (64+d) w)(K:Nat):au Tb (K+4) 1129 [.d 148,.c (dk:Int)] (HS σ δ)=some (.c (b0 d 0:Nat),HS σ (ar δ (.a [.c (b0 d 0:Nat)]))):=by
 have e:=IA m h.a h.d
 have k:=m6 k
 rcases k with rfl|rfl
 ·have f:∀K,bQ Tb (au Tb K) K (fF Bj 1) [(153,.d 10),(33,.c 64),(156,.g [73,110,118,111,107,101]),(56,.d (δ.length+182))] (HS σ (ar δ (.a [])))=some (.a,[(153,.d 10),(33,.c 64),(156,.g [73,110,118,111,107,101]),(56,.d (δ.length+182)),(131,.c 1)],HS σ (ar δ (.a [.c 1]))):=λK=>
   uX (q:=31) (λδ=>⋯) (λδ=>⟨82,⋯,⋯⟩) ⋯
  have g:au Tb (K+3) 1005 [.d 10,.c 64,.g [73,110,118,111,107,101]] (HS σ δ)=some (.d (δ.length+182),HS σ (ar δ (.a [.c 1]))):=by
   have f:=f (K+2)
   exact bu [(10,oc (jB σ (aZ δ (MO.a [])))),(11,ow (Q4 (kj (au Tb (K+2)) σ (aZ δ (MO.a [])) (MV.c 1) ⋯) (dK δ (MO.a []) (MO.a (ar [] (MV.c 1))))))] ⋯
  have j:(ar δ (.a [.c 1]))[δ.length]?=some (.a [.c 1]):=h9 _ _ _ rfl
  exact bu [(2,ow (e (K+1) σ δ ⋯)),(3,ow g),(4,ov (hK σ j 0 (MV.c 1) ⋯))] ⋯
 ·have f:∀K,bQ Tb (au Tb K) K (fF Bj 1) [(153,.d 10),(33,.c 65),(156,.g [73,110,118,111,107,101]),(56,.d (δ.length+182))] (HS σ (ar δ (.a [])))=some (.a,[(153,.d 10),(33,.c 65),(156,.g [73,110,118,111,107,101]),(56,.d (δ.length+182)),(131,.c 7)],HS σ (ar δ (.a [.c 7]))):=λK=>
   uX (q:=42) (λδ=>⋯) (λδ=>⟨113,⋯,⋯⟩) ⋯
  have g:au Tb (K+3) 1005 [.d 10,.c 65,.g [73,110,118,111,107,101]] (HS σ δ)=some (.d (δ.length+182),HS σ (ar δ (.a [.c 7]))):=by
   have f:=f (K+2)
   exact bu [(10,oc (jB σ (aZ δ (MO.a [])))),(11,ow (Q4 (kj (au Tb (K+2)) σ (aZ δ (MO.a [])) (MV.c 7) ⋯) (dK δ (MO.a []) (MO.a (ar [] (MV.c 7))))))] ⋯
  have j:(ar δ (.a [.c 7]))[δ.length]?=some (.a [.c 7]):=h9 _ _ _ rfl
  exact bu [(2,ow (e (K+1) σ δ ⋯)),(3,ow g),(4,ov (hK σ j 0 (MV.c 7) ⋯))] ⋯
end
end
section
section
variable{K n t b c d i l ai f dk:Nat}{s:Int}{σ:St}{δ:List MO}{vals:List MV}{ta:MV}{Γ:Cf}{ad kk:Int}{e:En}{es:List (Int×En)}
theorem Inv.M(I:Inv σ Γ n)(aV args:MV)(sort:Int)(g:Nat):Inv (σ.M aV args sort g) Γ (n+1):=by
 have k:=I.y
 have o:=I.L
 have I:=I.q (show n<=n+1 from lB)
 exact⟨⟨I.a.r,I.a.A,I.a.x,I.a.y,I.a.j,I.a.m,I.a.g,I.a.h,I.a.e,I.a.f,I.a.v,I.a.p,I.a.w,I.a.z⟩,⟨I.j.d,I.j.f,I.j.e,I.j.a⟩,I.r,I.F,by
  show(ar σ.z _).length<=_;rw[aB];exact xe k,by
  show(ar σ.a _).length<=_;rw[aB];exact xe o,I.A,I.B,I.z,I.C⟩
theorem MQ{x:Prop}(I:Inv σ Γ n)(v:n<=70000)(q:d<2)(D:qk σ δ b Γ d l dk p.1 [p])(J:δ[ai]?=some (.a vals))(z:vals.length<=10)(A:∀a h,(∀K,au Tb (K+6) 1108 [.d 148,fo,.c p.1,.d (ai+182)] (HS σ δ)=some (.f,HS (σ.M p.2.a (.d (a+182)) 0 h.length) (fD h (gw h.length ((σ.a.length+1:Nat):Int) p.2.a .f 0 (.d (a+182)) (h.length+2) 0 0) 6)))->(Gw δ h)->(h[a]?=some (.a (cU p.2.g vals)))->(δ.length<=a)->x):x:=by
 obtain⟨k,i,s,t,ta,E⟩:=D.a p (.head _)
 have y:σ.R.length<=100000:=by have:=I.r;exact xj v this
 refine C0 I (xh v) q E k J (uI z) λa h H C F O=>?_
 refine A a h (λK=>?_) C F O
 have B:=tg (δ:=δ) I.j y D.j (Gu q) k.a (K+1)
 have u:=E.j
 have w:=Kz (σ:=σ) (δ:=δ) (s0:= .e [.c 4,.c p.2.f]) (s2:=cb) (w:=p.2.j) I.j y E.a q E.m (by rw[<-u];exact k) K
 obtain⟨o,sl,P,Q,N,L,G,_,_⟩:=k
 exact bu [(2,ov (rM I.j δ N)),(3,ow B),(6,ov (ed σ L 63 (MV.d (sl+182)) ⋯)),(7,ov (hK σ G 2 (MV.e [MV.c 4,MV.c 0]) ⋯)),(11,ow w),(14,ow (H (K+1)))] ⋯
theorem EF{o:Prop}{g stk:Nat}{num ip sort ex:Int}{aV body args:MV}{cl:Call}{F:Nat}{x0 x1 x2 x3:MV}(B:δ[g]?=some (gw g num aV body ip args stk sort ex))(q:δ[g+6]?=some (.a []))(m:ai≠g+6)(w:δ[ai]?=some (.a vals))(u:vals.length<=10)(x:∀ρ',(ρ'=[(103,x0),(110,x1),(71,x2),(28,.d (ai+182)),(64,x3),(190,.d (g+182))]\/∃y,ρ'=[(103,x0),(110,x1),(71,x2),(28,.d (ai+182)),(64,x3),(190,.d (g+182)),(91,y)])->(bQ Tb cl F (fF abD 5) [(103,x0),(110,x1),(71,x2),(28,.d (ai+182)),(64,x3),(190,.d (g+182))] (HS σ δ)=some (.a,ρ',HS σ (δ.set (g+6) (.a vals))))->o):o:=by
 refine r8 (T:=Tb) (cl:=cl) (fuel:=F) (t:= .b 91) (e:= .d 28) (b:=[.d (.n (.k (.d 190) 194) 0 [.d 91])])
  (ρ:=[(103,x0),(110,x1),(71,x2),(28,.d (ai+182)),(64,x3),(190,.d (g+182))]) (μ:=HS σ δ) (bC:=HS σ δ) (n:=ai+182) (l:=vals)
  (λk ρ μ=>(ρ=[(103,x0),(110,x1),(71,x2),(28,.d (ai+182)),(64,x3),(190,.d (g+182))]\/∃y,ρ=[(103,x0),(110,x1),(71,x2),(28,.d (ai+182)),(64,x3),(190,.d (g+182)),(91,y)])/\μ=HS σ (δ.set (g+6) (.a (vals.take k))))
  rfl (λk ρ μ p=>by rw[p.2,df];exact jf _ _ (cH m) w) ⟨.inl rfl,by rw[List.take_zero,p6 q]⟩
  (λk v ρ μ o C p z=>by
   refine z ([(103,x0),(110,x1),(71,x2),(28,.d (ai+182)),(64,x3),(190,.d (g+182)),(91,v)]) μ ([(103,x0),(110,x1),(71,x2),(28,.d (ai+182)),(64,x3),(190,.d (g+182)),(91,v)]) (HS σ (δ.set (g+6) (.a (vals.take (k+1))))) ?_ ?_ ⟨.inr ⟨v,rfl⟩,rfl⟩
   ·rcases p.1 with rfl|⟨y,rfl⟩<;>rfl
   ·rw[p.2]
    have A:vals.take (k+1)=ar (vals.take k) v:=by
     rw[f6,C];simp[ar]
    refine A▸?_
    have r:(δ.set (g+6) (.a (vals.take k)))[g+6]?=some (.a (vals.take k)):=mX _ q
    have h:=kj cl σ r v (bw (by simp;unfold bz;exact Xw u))
    rw[jv] at h
    exact eD [(0,ov (ed σ (jf _ _ (AP) B:(δ.set (g+6) (.a (vals.take k)))[g]?=some (gw g num aV body ip args stk sort ex)) 194 (MV.d (g+6+182)) ⋯)),(1,oc (jB σ r)),(2,ow h)] ⋯) λρ' D e j=>?_
 obtain⟨p1,p2⟩:=j
 refine x ρ' p1 ?_
 rw[eC] at p2
 exact p2▸e
end
end
section
section
variable{K n t b c d i l ai f dk:Nat}{s:Int}{σ:St}{δ:List MO}{vals:List MV}{ta:MV}{Γ:Cf}{ad kk:Int}{e:En}{es:List (Int×En)}
theorem I5{Ω:Prop}(I:Inv σ Γ n)(hn:n<=60000)(hd:d<2)(D:qk σ δ b Γ d l dk ad es)(h2:2<=es.length)(hp:es[0]?=some p)(ha:δ[ai]?=some (.a vals))(hv:vals.length<=10)(bG:∀s' a g g0 E σ',(σ'=(σ.M (.e [.c (dk:Int),.c (b0 d 0:Nat),.e []]) (.d (g0+182)) 4 g).I s')->(∀K,au Tb (K+9) 1108 [.d 148,fo,.c ad,.d (ai+182)] (HS σ δ)=some (.f,HS (σ'.M p.2.a (.d (a+182)) 0 E.length) (fD E (gw E.length ((σ.a.length+2:Nat):Int) p.2.a .f 0 (.d (a+182)) (E.length+2) 0 0) 6)))->(Inv σ' Γ (n+2))->(Gw δ E)->(k7 E g ((σ.a.length+1:Nat):Int) (.e [.c (dk:Int),.c (b0 d 0:Nat),.e []]) 0 (.d (g0+182)) (g+2) 1 vals ad)->(E[a]?=some (.a (cU p.2.g vals)))->(δ.length<=a)->(δ.length<=g)->(g+6<a)->Ω):Ω:=by
 have hl:σ.R.length<=100000:=by have:=I.r;exact(aD this (eK hn))
 obtain⟨s0,s1,P,jk,hT,h0,hr⟩:∃s0 s1 P jk,ik σ δ b ad dk [s0,s1,.e [.c 4,.c P]]/\0<P/\ik σ δ b P jk (es.map λp=>lq (.c p.1)):=by
  rcases D.o with⟨q,rfl,_⟩|⟨_,q⟩
  ·simp at h2
  ·exact q
 refine b6 (ar δ (.a [.c (b0 d 0:Nat)])) λH UM=>?_
 obtain⟨V,X⟩:∃y:MV,y= .e [.c (dk:Int),.c (b0 d 0:Nat),.e []]:=⟨_,rfl⟩
 refine b6 (b0 d 0) λmd zG=>?_
 refine b6 (ar H (.a [])) λG xX=>?_
 refine b6 (fD G (gw G.length ((σ.a.length+1:Nat):Int) V .f 0 (.d (H.length+182)) (G.length+2) 4 0) 6) λN MB=>?_
 refine b6 (σ.M V (.d (H.length+182)) 4 G.length) λk U=>?_
 have wb:=xX▸((by rw[UM];exact Gw.d _ _:Gw δ H).e (Gw.d _ _))
 have wc:Gw G N:=by rw[MB];exact xD 6
 have W:=λK=>MR (δ:=δ) hl hd D.j K
 rw[<-UM,<-zG] at W
 have m:=λK=>C2 (K:=K) (σ:=σ) (δ:=G) (aV:=V) (args:= .d (H.length+182)) (sort:=4) (by have:=I.L;exact Pm hn this) (by have:=I.y;exact Pm hn this)
 rw[<-MB,<-U] at m
 refine b6 G.length λg u=>?_
 have m:=u.symm▸m
 have fc:N[g]?=some (gw g ((σ.a.length+1:Nat):Int) V .f 0 (.d (H.length+182)) (g+2) 4 0):=by rw[MB,u];exact vP 6
 have kc:N[g+6]?=some (.a []):=by rw[MB,u];exact r7 6 (i:=5) Pl
 have T:G.length=δ.length+2:=by rw[xX,aB,UM,aB]
 refine hT.a.a λob' UE Mt=>?_
 have g1:=rM I.j δ UE
 have WC:=λK=>tg (δ:=δ) I.j hl D.j (Gu hd) hT.a K
 obtain⟨o,sl,wo,n',t1,t2,t3,_,_⟩:=hT
 have eo:ob'=o+182:=by rw[t1] at UE;cases UE;rfl
 subst eo
 have ne:=tc h0
 have O:Gw δ (N.set (g+6) (.a (ar vals (.e [.c 4,.c ad])))):=Gw.q (wb.e wc) (bN [_,_,_] V0.C (V0.A+6) (.f V0.B V0.A (.f (V0.C+2) V0.B .z)) rfl u T) _
 refine b6 (N.set (g+6) (.a (ar vals (.e [.c 4,.c ad])))) λY MC=>?_
 replace O:=MC.symm▸O
 have ke:=MC▸(mX _ kc)
 refine J5 (U▸(I.M _ _ _ _)) (AS hn) hd (U▸(qk.w (S:=λJ=>False) D (λJ J h=>h) ⟨[],(d8 _).symm⟩ O.f λJ h=>h.elim):qk k Y b Γ d l dk ad es) (M:=⟨MC▸(jf _ _ AP fc),ke⟩) (x:=0) hv hp λs' a E Q r2 r3 r4 r5 r6=>?_
 replace Q:=(by rw[U];show(ar σ.a _).length+1=_;rw[aB]:k.a.length+1=σ.a.length+2)▸Q
 have gd:(N.set (g+6) (.a vals))[g]?=some (gw g ((σ.a.length+1:Nat):Int) V .f 0 (.d (H.length+182)) (g+2) 4 0):=jf _ _ AP fc
 have gk:(N.set (g+6) (.a vals))[g+6]?=some (.a vals):=mX _ kc
 refine bG s' a g H.length E (k.I s') (U▸X▸u▸rfl) (λK=>?_) r2 ?_ ?_ r5 ?_ (bN [_,_,_] V0.C V0.A (.f V0.B V0.A (.f (V0.C+2) V0.B .z)) rfl u T) ?_
 ·refine EF (σ:=k) (cl:=au Tb (K+8)) (F:=K+8) (x0:= .d 148) (x1:=fo) (x2:= .c ad) (x3:= .d (o+182)) fc kc (λhh=>bZ [_,_,_,_] (.f V0.B V0.A (.f (V0.C+2) V0.B (.o (V0.D+1) V0.C (.f (V0.A+6) V0.D .z)))) rfl u T (cJ ha) hh) (wc.2 _ _ (wb.2 _ _ ha)) hv λρ' i_ kl=>?_
  have W:=W (K+4)
  have m:=m (K+5)
  have WC:=WC (K+4)
  have Q:=Q K
  have Z:∀cl,dj cl (HS k (N.set (g+6) (.a vals))) (.d (g+6+182)) [.e [.c 4,.c ad]] .a=some (.f,HS k Y):=λcl=>by
   have:=kj cl k gk (.e [.c 4,.c ad]) (bw (GH hv))
   rw[jv,<-MC] at this;exact this
  rw[xX] at m
  have X:=zG.symm▸X
  have m:=X▸m
  rcases i_ with rfl|⟨y,rfl⟩
  ·exact bu [(2,ov g1),(3,ow WC),(6,ov (ed σ t2 63 (MV.d (sl+182)) ⋯)),(7,ov (hK σ t3 2 (MV.e [MV.c 4,MV.c P]) ⋯)),(9,oq (ne (HS σ δ))),(13,ov Mt),(14,ov Mt),(15,ow W),(19,ow m),(22,os kl),(22,ov (ed k gd 194 (MV.d (g+6+182)) ⋯)),(23,oc (jB k gk)),(25,ow (Z (au Tb (K+8)))),(26,ow Q)] ⋯
  ·exact bu [(2,ov g1),(3,ow WC),(6,ov (ed σ t2 63 (MV.d (sl+182)) ⋯)),(7,ov (hK σ t3 2 (MV.e [MV.c 4,MV.c P]) ⋯)),(9,oq (ne (HS σ δ))),(13,ov Mt),(14,ov Mt),(15,ow W),(19,ow m),(22,os kl),(22,ov (ed k gd 194 (MV.d (g+6+182)) ⋯)),(23,oc (jB k gk)),(25,ow (Z (au Tb (K+8)))),(26,ow Q)] ⋯
 ·refine⟨aD O.1 r3.1,λi v h=>?_⟩
  exact r3.2 _ _ (λq=>by have q:i=g:=q;have:=cJ h;exact(bZ [_,_,_,_] (.f V0.B V0.A (.f (V0.C+2) V0.B (.f V0.A V0.D (.o (V0.D+1) V0.C .z)))) rfl u T q this)) (O.2 _ _ h)
 ·rw[X] at r4;exact r4
 ·have:=O.1;exact oE r6 this
 ·have:=cJ ke;exact Xx u T r6 this
end
end
section
noncomputable def fy(fs:List (Int×Nat)):List MV:=fs.map λp=> .d (p.2+182)
noncomputable def ki(fs:List (Int×Nat)):List (MV×MV):=fs.map λp=>(.c p.1,.d (p.2+182))
structure FS (σ:St) (fs:List (Int×Nat)):Prop where
 j:σ.X=fy fs
 m:σ.ab=ki fs
 p:(fs.map (·.1)).Nodup
 k:fs.length<=100
noncomputable abbrev St.F(σ:St)(fs:List (Int×Nat)):St:={σ with X:=fy fs,ab:=ki fs}
theorem l7(fs:List (Int×Nat))(p:Int×Nat):fy (ar fs p)=ar (fy fs) (.d (p.2+182)):=by unfold fy ar;simp
theorem oR(fs:List (Int×Nat))(p:Int×Nat):ki (ar fs p)=ar (ki fs) (.c p.1,.d (p.2+182)):=by unfold ki ar;simp
theorem uN(fs:List (Int×Nat)):∀p∈ki fs,∃t:Int,p.1= .c t:=λp a=>by
 refine cf (cW.mp a) λq J z0=>?_
 refine rI z0 ?_;exact⟨_,rfl⟩
theorem Dg{fs:List (Int×Nat)}{p:Int×Nat}(h:((ar fs p).map (·.1)).Nodup):(fs.map (·.1)).Nodup/\∀q∈fs,q.1≠p.1:=by
 unfold ar at h
 rw[d9,mD] at h
 exact⟨h.1,λq a=>h.2.2 _ (gL a) _ (by simp)⟩
theorem Ef(h:∀p∈d,p.1≠k):vK (ar d (k,v)) k=d:=by
 induction d with
 |nil=>
  show(if MV.k k k then[] else _)=[]
  rw[hO];rfl
 |cons p r m=>
  obtain⟨a,w⟩:=p
  show(if MV.k a k then _ else(a,w)::vK (ar r (k,v)) k)=_
  rw[fe (h (a,w) (gY ..)),m λq j=>h q (fh _ j)];rfl
section
variable{K n t b c d i l ai f dk g:Nat}{s:Int}{σ:St}{δ:List MO}{vals:List MV}{ta:MV}{Γ:Cf}{ad kk num:Int}{e:En}{es:List (Int×En)}{fs:List (Int×Nat)}
theorem FS.u(F:FS σ (ar fs (num,g))):FS (σ.F fs) fs:=⟨rfl,rfl,(Dg F.p).1,by have:=F.k;rw[aB] at this;exact Po this⟩
theorem Vo(cl:Call)(δ:List MO)(F:FS σ (ar fs (num,g))):dj cl (HS σ δ) (.d 155) [] .d=some (.d (g+182),HS (σ.Q (fy fs)) δ):=by
 have hb:(ar (fy fs) (.d (g+182))).length<=bz:=by
  have:=F.k;rw[aB] at this⊢;unfold fy bz;rw[ay];exact GI this
 refine(by kernel_rfl:(HS σ δ).set 155 (.a (fy fs))=HS (σ.Q (fy fs)) δ)▸((v9 (by rw[<-l7 fs (num,g),<-F.j];kernel_rfl)).trans ((D5 (v:= .d (g+182)) ?_).trans ((j1 hb).trans ?_)))
 ·unfold ar;simp only[FX,Au,RN]
 ·unfold ar;rw[FW]
theorem Vn(δ:List MO)(F:FS σ (ar fs (num,g))):LV (HS (σ.Q (fy fs)) δ) (.d 156) (.c num)=some (HS (σ.F fs) δ):=by
 have h:(HS (σ.Q (fy fs)) δ).set 156 (.b (ki fs))=HS (σ.F fs) δ:=⋯
 have j:=(oR fs (num,g))▸(mh (uN _) num)
 have a:∀p∈ki fs,p.1≠ .c num:=λp r=>by
  refine cf (cW.mp r) λq o z0=>?_
  refine rI z0 ?_
  intro e;have:=(Dg F.p).2 q o;cases e;exact this rfl
 refine(dcI (by rw[<-oR fs (num,g),<-F.m];kernel_rfl)).trans ((j1 ⟨j,(lG (lF a))▸rfl,by have:=F.k;rw[aB] at this⊢;unfold ki bz;rw[ay];exact GI this⟩).trans ?_)
 rw[Ef a,h]
theorem JS(F:FS σ (ar fs (num,g)))(a:iu Tb (HS (σ.Q (fy fs)) δ) (.d (g+182)) 119=some (.c num))(K:Nat):au Tb (K+1) 830 [.d 148] (HS σ δ)=some (.d (g+182),HS (σ.F fs) δ):=bu [(2,ow ((λcl=>Vo cl δ F) (au Tb K))),(4,ov a),(5,oh (Vn δ F))] ⋯
theorem Ka(σ:St)(δ:List MO)(v:MV):og Tb (HS σ δ) (.d 148) 120 v=some (HS (σ.D v) δ):=⋯
theorem o_(F:FS σ (ar fs (num,g)))(δ:List MO):mj (HS σ δ) (.d 155)=some (.c ((fs.length+1:Nat):Int)):=by
 rw[lh (n:=155) (l:=σ.X) ⋯ (by rw[F.j];have:=F.k;rw[aB] at this;unfold fy bz;rw[ay,aB];exact GI this),F.j]
 unfold fy;rw[ay,aB]
theorem z7(F:FS σ (ar fs (num,g)))(δ:List MO):ez (HS σ δ) (.d 155) (.c (((fs.length+1:Nat):Int) - 1))=some (.d (g+182)):=by
 refine(show((fs.length+1:Nat):Int) - 1=(fs.length:Int) from GC)▸(gj (l:=ar (fy fs) (.d (g+182))) ?_ ((show fs.length=(fy fs).length from by unfold fy;rw[ay])▸(aZ _ _)) (by have:=F.k;rw[aB] at this;exact(eK this)))
 refine(l7 fs (num,g))▸F.j▸?_;kernel_rfl
theorem yy(x:Nat)(μ:Hp):ct μ .a (.c ((x+1:Nat):Int)) (.c 0)=some false:=by
 show some (MV.k _ _)=_
 rw[fe (by intro e;cases e)]
theorem Bt{v args aV:MV}{ip sort ex:Int}{stk o:Nat}{S S':List MV}(F:FS σ (ar fs (num,f)))(h:δ[f]?=some (gw f num aV (.d o) ip args stk sort ex))(q:δ[stk]?=some (.a S))(z:S.length<=100)(y:v= .f/\S'=S\/(∃t,v= .e t)/\S'=ar S v)(K:Nat):
  au Tb (K+1) 837 [.d 148,v] (HS σ δ)=some (.f,HS (σ.D v) ((δ.set stk (.a S')).set f (gw f num aV (.d o) (ip+1) args stk sort ex))):=by
 have u:FS (σ.D v) (ar fs (num,f)):=⟨F.j,F.m,F.p,F.k⟩
 have r:=o_ u δ
 have x:=z7 u δ
 have sl:=Ka σ δ v
 have n0:=yy fs.length
 have w:stk≠f:=by intro e;rw[e,h] at q;cases q
 rcases y with⟨rfl,rfl⟩|⟨⟨t,rfl⟩,rfl⟩
 ·rw[p6 q]
  exact bu [(0,oh sl),(2,ov r),(7,ov r),(9,ov x),(10,ov (ed (σ.D MV.f) h 123 (MV.d o) ⋯)),(15,ov (ed (σ.D MV.f) h 127 (MV.c ip) ⋯)),(16,oh (FO (σ.D MV.f) h 127 (MV.c (ip+1)) (MO.d 424 [(119,MV.c num),(108,aV),(123,MV.d o),(127,MV.c (ip+1)),(28,args),(258,MV.d (f+1+182)),(126,MV.d (stk+182)),(332,MV.d (f+3+182)),(333,MV.d (f+4+182)),(334,MV.d (f+5+182)),(194,MV.d (f+6+182)),(5,MV.c sort),(335,MV.c num),(205,MV.c ex),(336,MV.c (-1))]) ⋯ ⋯))] ⋯
 ·have hb:=bw (AH z)
  exact bu [(0,oh sl),(2,ov r),(7,ov r),(9,ov x),(10,ov (ed (σ.D (MV.e t)) h 123 (MV.d o) ⋯)),(15,ov (ed (σ.D (MV.e t)) h 126 (MV.d (stk+182)) ⋯)),(16,oc (jB (σ.D (MV.e t)) q)),(17,ow (kj (au Tb K) (σ.D (MV.e t)) q (MV.e t) hb)),(18,ov (ed (σ.D (MV.e t)) (jf stk (MO.a (ar S (MV.e t))) (AI w) h) 127 (MV.c ip) ⋯)),(19,oh (FO (σ.D (MV.e t)) (jf stk (MO.a (ar S (MV.e t))) (AI w) h) 127 (MV.c (ip+1)) (MO.d 424 [(119,MV.c num),(108,aV),(123,MV.d o),(127,MV.c (ip+1)),(28,args),(258,MV.d (f+1+182)),(126,MV.d (stk+182)),(332,MV.d (f+3+182)),(333,MV.d (f+4+182)),(334,MV.d (f+5+182)),(194,MV.d (f+6+182)),(5,MV.c sort),(335,MV.c num),(205,MV.c ex),(336,MV.c (-1))]) ⋯ ⋯))] ⋯
end
end
section
noncomputable def Giv(v:MV)(S S':List MV):Prop:=v= .f/\S'=S\/(∃t,v= .e t)/\S'=ar S v
section
variable{K n t b c d i l ai f dk g h:Nat}{s:Int}{σ:St}{δ:List MO}{vals:List MV}{ta:MV}{Γ:Cf}{ad kk num:Int}{e:En}{es:List (Int×En)}{fs:List (Int×Nat)}
theorem qI{x y:Nat}{c:Bool}(h:decide (x<y)=c)(μ:Hp):ct μ .g (.c (x:Int)) (.c (y:Int))=some c:=h▸(congrArg some (by rw[decide_eq_decide];exact Pn))
theorem yU{C:Prop}{ip:Int}{aV args:MV}{stk x:Nat}(I:Inv σ Γ n)(z:n<=70000)(E:d<2)(D:qk σ δ b Γ d l dk ad es)(M:k7 δ f num aV ip args stk x vals ad)(v:vals.length<=10){p:Int×En}(w:es[x]?=some p)(G:∀q a o,(∀K,au Tb (K+9) 1150 [.d 148,.d (f+182)] (HS σ δ)=some (.f,HS ((σ.I q).M p.2.a (.d (a+182)) 0 o.length) (fD o (gw o.length ((σ.a.length+1:Nat):Int) p.2.a .f 0 (.d (a+182)) (o.length+2) 0 0) 6)))->(Inv (σ.I q) Γ (n+1))->(Fz (ph f) δ o)->(k7 o f num aV ip args stk (x+1) vals ad)->(o[a]?=some (.a (cU p.2.g vals)))->(δ.length<=a)->C):C:=by
 refine b6 (ar δ (.a (es.map λp=> .c p.1))) λH u=>?_
 have B:=λK=>tQ I (xh z) E D M (uI v) K
 rw[<-u] at B
 have r:=u▸(Gw.d _ _)
 have F:=hJ σ (u▸(h9 _ _ _ rfl)) (by rw[ay];have:=D.m;exact GG this)
 rw[ay] at F
 refine J5 I z E (D.A r) (M.j r) v w λq a o J P N L O Q=>?_
 refine G q a o (λK=>?_) P (r.f.k N) L O (aD r.1 Q)
 exact bu [(0,ov (ed σ M.k 205 (MV.c ↑x) ⋯)),(1,ow (B (K+2))),(2,ov F),(3,oq ((qI (x:=x) (y:=es.length) (decide_eq_true ((ax.mp w).1))) (HS σ H))),(5,ow (J K))] ⋯
theorem yT{ip J sort ex:Int}{aV args N G v:MV}{stk q x L:Nat}{j:Int}{S S':List MV}(I:Inv σ Γ n)(W:n<=70000)(X:d<2)(D:qk σ δ b Γ d l dk ad es)(M:k7 δ f num aV ip args stk x vals ad)(R:vals.length<=10)(P:x=es.length)
  (F:FS σ (ar (ar fs (j,h)) (num,f))) (E:δ[h]?=some (gw h j N (.d L) J G q sort ex)) (V:δ[q]?=some (.a S)) (U:S.length<=100) (Y:σ.Z=v) (T:Giv v S S') (K:Nat):
  au Tb (K+7) 1150 [.d 148,.d (f+182)] (HS σ δ)=some (.f,HS ((σ.F (ar fs (j,h))).D v) (((ar δ (.a (es.map λp=> .c p.1))).set q (.a S')).set h (gw h j N (.d L) (J+1) G q sort ex))):=by
 subst Y
 obtain⟨r,C⟩:∃y,y=ar δ (.a (es.map λp=> .c p.1)):=⟨_,rfl⟩
 have H:=tQ I (xh W) X D M (uI R) K
 rw[<-C] at H⊢
 have w:=C▸(Gw.d _ _)
 have O:=hJ σ (C▸(h9 _ _ _ rfl)) (by rw[ay];have:=D.m;exact Xy P this)
 rw[ay] at O
 exact bu [(0,ov (ed σ M.k 205 (MV.c ↑x) ⋯)),(1,ow H),(2,ov O),(3,oq ((qI (x:=x) (y:=es.length) (decide_eq_false λE=>bZ [_,_] (.f V0.B V0.A (.o (V0.A+1) V0.B .z)) rfl P E)) (HS σ r))),(6,ow (JS (δ:=r) F (ed (σ.Q (fy (ar fs (j,h)))) (w.2 _ _ M.k) 119 (.c num) ⋯) (K+5))),(7,ow (Bt (δ:=r) (v:=σ.Z) (S':=S') (FS.u F) (w.2 _ _ E) (w.2 _ _ V) U T (K+5)))] ⋯
theorem s7{ip:Int}{aV args v:MV}{stk x:Nat}{a:Hp}(F:FS σ (ar fs (num,f)))(M:k7 δ f num aV ip args stk x vals ad)(K:Nat)(H:au Tb K 1150 [.d 148,.d (f+182)] (HS (σ.D v) δ)=some (.f,a)):
  au Tb (K+2) 837 [.d 148,v] (HS σ δ)=some (.f,a):=by
 have o:FS (σ.D v) (ar fs (num,f)):=⟨F.j,F.m,F.p,F.k⟩
 have q:=o_ o δ
 have n0:=yy fs.length
 exact bu [(0,oh (Ka σ δ v)),(2,ov q),(7,ov q),(9,ov (z7 o δ)),(10,ov (ed (σ.D v) M.k 123 MV.f ⋯)),(15,ow (bu [(0,ow H)] ⋯:au Tb (K+1) 1082 [.d 176,.d 148,.d (f+182)] (HS (σ.D v) δ)=some (.f,a)))] ⋯
end
end
section
theorem Cc(h:c≠84):kd v c=kd 0 c:=by
 unfold kd
 have hb:aR c 84=false:=by cases e:aR c 84 with|false=>rfl|true=>exact absurd (aK e) h
 simp[hb]
theorem wC(a:l≠84):(if aR c 84 then l else c)≠84:=by
 cases e:aR c 84 with
 |true=>simpa using a
 |false=>simp only[dx,if_false];intro q;rw[q] at e;cases e
theorem cj.p{R:List Row}{v k l:Nat}{t:CT}(m:l≠84)(h:cj R v k (t.e l)):cj R 0 k (t.e l):=by
 cases t with
 |b c=>exact h.trans (Cc (wC m))
 |r c=>obtain⟨w,j,x,a⟩:=h;exact⟨w,j,x,by rw[Cc (wC m)] at a;exact a⟩
 |q c=>obtain⟨w,j,x,a⟩:=h;exact⟨w,j,x,by rw[Cc (wC m)] at a;exact a⟩
theorem cj.u(W:KW R)(h:cj R v k t)(g:cj R v k' t):k=k':=by
 cases t with
 |b c=>exact K_ h (Eq.symm g)
 |r c=>obtain⟨_,j,rfl,a⟩:=h;obtain⟨_,w,rfl,m⟩:=g;rw[W.f a m]
 |q c=>obtain⟨_,j,rfl,a⟩:=h;obtain⟨_,w,rfl,m⟩:=g;rw[W.f a m]
section
variable{K n t b c d i l ai f dk g h:Nat}{s:Int}{σ:St}{δ jE:List MO}{vals:List MV}{ta:MV}{Γ:Cf}{ad kk num:Int}{e:En}{es:List (Int×En)}{fs:List (Int×Nat)}{ip sort ex:Int}{args:MV}{stk:Nat}
theorem E0(a:δ[g]?=some (gw g num aV (.d 7) ip args stk 0 ex))(K:Nat):au Tb (K+1) 1234 [.d (g+182)] (HS σ δ)=some (.h false,HS σ δ):=bu [(0,ov (ed σ a 123 (MV.d 7) ⋯)),(3,ov (ed σ a 5 (MV.c 0) ⋯))] ⋯
theorem D_{z:Prop}(I:Inv σ Γ n)(w:n<=70000)(G:d<2)(A:bB l=true)(x:l≠84)(E:RS σ jE c Γ d l e i s t ta)(u:δ[g]?=some (gw g num e.a bd ip args stk sort ex))(D:∀(R':List Row) (kr:Nat) (y:List MO),(∀K,au Tb (K+14) 671 [.d 148,.d (g+182),.c (σ.T (b0 d i))] (HS σ δ)=some (.c (kr:Int),HS (σ.r R') (cU δ y)))->(cj R' 0 kr ((Γ.r d).e l))->(dM σ.R R' 1)->z):z:=by
 refine pI (I.a.v d i G E.m) λks kr M F L J=>?_
 refine sL I.a.r (by have:=I.r;exact(aD this (eK w))) E.o A x J λR' q y C H B=>?_
 refine D R' q y (λK=>?_) (H.p x) B
 have a1:=C (K+1) (jn σ) (gh σ++δ)
 rw[Li] at a1
 exact F▸(bu [(2,ow (bu [(0,ow (bu [(1,ow (bu [(1,ov (ed σ u 108 (MV.e [MV.c ↑e.k,MV.c ↑e.h,e.j]) ⋯)),(3,ow ((Uw (by have:=I.r;exact xj w this) E.a.a E.a.d) (K+8) σ δ ⋯))] ⋯:au Tb (K+11) 844 [.d 148,.d (g+182)] (HS σ δ)=some (ta,HS σ δ))),(2,ov (ed σ u 108 (MV.e [MV.c ↑e.k,MV.c ↑e.h,e.j]) ⋯)),(4,ow a1)] ⋯:au Tb (K+12) 851 [.d 148,.d (g+182),.c (kr:Int)] (HS σ δ)=some (.c (q:Int),HS (σ.r R') (cU δ y))))] ⋯:au Tb (K+13) 582 [.d 175,.d 148,.d (g+182),.c (kr:Int)] (HS σ δ)=some (.c (q:Int),HS (σ.r R') (cU δ y))))] ⋯)
theorem rU.z{k:Nat}{t:CT}{v w:MV}(h:rU k t v w)(μ:Hp):ct μ .a w (.e [.c 0,.c 0])=some false:=by
 have e:∀{x:Int} {p:List MV},x≠0->bh 8 (.e (.c x::p))=true->ct μ .a (.e (.c x::p)) (.e [.c 0,.c 0])=some false:=λ{x p} hx hp=>by
  exact(j1 (by rw[hp];rfl)).trans (congrArg some (xA hx))
 cases h with
 |y c s n r F E u=>
  exact e (by unfold k1;cases aR c 110<;>decide) rfl
 |q c n r E u=>exact e (by decide) rfl
 |m c x r=>exact e (by decide) rfl
 |o w j=>exact e (by decide) (by show(true&&(bh 7 w&&true))=true;rw[j];rfl)
 |B c w j=>exact e (by decide) (by show(true&&(true&&(bh 7 w&&true)))=true;rw[j];rfl)
 |A c w j=>exact e (by decide) (by show(true&&(bh 7 w&&true))=true;rw[j];rfl)
theorem rU.D{R:List Row}{k:Nat}{t:CT}{v w:MV}(h:rU k t v w)(a:cj R 0 k t):k≠0:=by
 cases h with
 |y c s n p F E u=>
  have a:=a
  rw[a]
  exact of_decide_eq_true (aT.mp (by kernel_rfl:(RD.all λc=>decide (kd 0 c≠0))=true) c p)
 |q c n p E u=>
  have a:=a
  rw[a];rcases p with rfl|rfl<;>decide
 |m c x p=>
  have a:=a
  rw[a];rcases p with rfl|rfl|rfl<;>decide
 |o w r=>
  have a:=a
  rw[a];decide
 |B c w r=>obtain⟨_,j,h,_⟩:=a;exact Pp h
 |A c w r=>obtain⟨_,j,h,_⟩:=a;exact Pp h
noncomputable def RY(t:CT)(w:MV):Prop:=match t with
 | .b 115=>∃x:Int,w= .e [.c 4,.c x]/\(x=0\/x=19)
 | .b 107=>∃x:Int,w= .e [.c 4,.c x]/\(x=0\/x=16)
 |_=>True
structure Ln (R:List Row) (t:CT) (v w:MV):Prop where
 o:∃k,rU k t v w
 a:∀x k,KW (R++x)->cj (R++x) 0 k t->rU k t v w
 m:RY t w
 p:bh 8 w=true
theorem Ln.j{R x:List Row}{t:CT}{v w:MV}(h:Ln R t v w):Ln (R++x) t v w:=
 ⟨h.o,λy k r q=>by rw[cC] at r q;exact h.a _ k r q,h.m,h.p⟩
noncomputable def Ret(R:List Row)(t:CT)(st:List MV)(v:MV):Prop:=(t= .b 118/\st=[]/\v= .f)\/∃a,st=[a]/\Ln R t a v
theorem FS.y(F:FS σ fs):FS (σ.r R) fs:=⟨F.j,F.m,F.p,F.k⟩
theorem Vj(I:Inv σ Γ n)(U:n<=70000)(O:d<2)(dP:bB l=true)(cQ:l≠84)(E:RS σ jE c Γ d l e i s t ta)(q:δ[g]?=some (gw g num e.a (.d 7) ip args stk 0 ex))
  (P:δ[g+3]?=some (.a [])) (hs:δ[stk]?=some (.a st)) (hr:Ret σ.R ((Γ.r d).e l) st v) (F:FS σ (ar fs (num,g))) {V:Prop} (Z:∀(R':List Row) (y:List MO),dM σ.R R' 1->(∀K J,au Tb (K+14) 837 [.d 148,v] (HS ((σ.r R').F fs) (cU δ y))=some (.f,J)->au Tb (K+16) 1248 [op,.d 148,.d (g+182),.c 0] (HS σ δ)=some (.c (-2),J))->V):V:=by
 refine D_ I U O dP cQ E q λR' kr y C u G=>?_
 refine Z R' y G λK J H=>?_
 have Q:=E0 (σ:=σ) q (K+14)
 have C:=C (K+1)
 obtain⟨L,M,X⟩:∃L,ez (HS σ δ) (.d 19) (.c (e.h:Int))=some (.d L)/\iu Tb (HS σ δ) (.d L) 158=some (.c (σ.T (b0 d i))):=⟨_,by rw[E.j];exact(tx σ δ O E.m).a,acp σ δ O E.m⟩
 generalize σ.T (b0 d i)=kx at*
 have S:=JS (δ:=cU δ y) (F.y (R:=R')) (ed _ (cg y q) 119 (.c num) ⋯) (K+14)
 have o:=cg y q
 have N:=cg y hs
 have A:au Tb (K+15) 1260 [.d 148,.d (g+182),v] (HS ((σ.r R').F fs) (cU δ y))=some (.c (-2),J):=bu [(0,ov (ed ((σ.r R').F fs) o 5 (MV.c 0) ⋯)),(3,ov (ed ((σ.r R').F fs) o 5 (MV.c 0) ⋯)),(6,ov (ed ((σ.r R').F fs) o 5 (MV.c 0) ⋯)),(9,ow H)] ⋯
 rcases hr with⟨ht,rfl,rfl⟩|⟨w,rfl,B⟩
 ·have Y:kr=0:=by rw[ht] at u;exact u
  subst Y
  exact bu [(0,ow Q),(2,ov (ed σ q 332 (MV.d (g+3+182)) ⋯)),(3,ov (sO σ P ⋯)),(9,ov (ed σ q 108 (MV.e [MV.c ↑e.k,MV.c ↑e.h,e.j]) ⋯)),(11,ov M),(12,ov X),(13,ow C),(16,ov (ed (σ.r R') (cg y q) 126 (MV.d (stk+182)) ⋯)),(17,ov (sO (σ.r R') N ⋯)),(22,ow S),(23,ow A)] ⋯
 ·have B:rU kr ((Γ.r d).e l) w v:=by
   refine dG G.c λx hx=>?_
   have W:=G.r
   rw[hx] at u W
   exact B.a x kr W u
  have n0:=n_ (c:=0) (B.D u)
  have hvn:=n0
  exact bu [(0,ow Q),(2,ov (ed σ q 332 (MV.d (g+3+182)) ⋯)),(3,ov (sO σ P ⋯)),(9,ov (ed σ q 108 (MV.e [MV.c ↑e.k,MV.c ↑e.h,e.j]) ⋯)),(11,ov M),(12,ov X),(13,ow C),(14,oq (n0 (HS (σ.r R') (cU δ y)))),(16,ov (ed (σ.r R') o 126 (MV.d (stk+182)) ⋯)),(17,ov (sO (σ.r R') N ⋯)),(22,ov (ed (σ.r R') o 126 (MV.d (stk+182)) ⋯)),(23,ov (hK (σ.r R') N 0 w ⋯)),(24,ow (qV (σ:=σ.r R') (δ:=cU δ y) (K:=K+9) (by have t1:=G.p;have t2:=I.r;show R'.length<=_;exact R_ U t1 t2) u B)),(25,oq (B.z (HS (σ.r R') (cU δ y)))),(27,ow S),(28,ow A)] ⋯
end
end
section
section
variable{K n t b c d i l ai f dk g h:Nat}{s:Int}{σ:St}{δ jE:List MO}{vals:List MV}{ta w:MV}{Γ:Cf}{ad kk num:Int}{e:En}{es:List (Int×En)}{fs:List (Int×Nat)}{ip sort ex:Int}{args:MV}{stk:Nat}
theorem Cp(k:σ.R.length<=100000)(j:d<2)(h:i3 σ.R dk 2 (64+d) w)(ma:MV)(K:Nat):au Tb (K+4) 1171 [.d 148,.e [.c (dk:Int),.c (b0 d 0:Nat),ma]] (HS σ δ)=some (.d (hU (b0 d 0)),HS σ δ):=by
 have e:=IA k h.a h.d
 have j:=m6 j
 rcases j with rfl|rfl
 ·exact bu [(16,ow (e (K+1) σ δ ⋯))] ⋯
 ·exact bu [(16,ow (e (K+1) σ δ ⋯))] ⋯
theorem yn(k:σ.R.length<=100000)(h:i3 σ.R dk 2 t w)(j:Int)(ma:MV)(x:Int)(K:Nat):au Tb (K+3) 1185 [.d 148,.e [.c (dk:Int),.c j,ma],.e [.c 4,.c x]] (HS σ δ)=some (.h true,HS σ δ):=bu [(2,ow ((pL k h.a (by have:=h.b;exact AJ this) false (.inr (.inl ⟨rfl,rfl⟩))) K σ δ ⋯))] ⋯
theorem C9(cl:Call)(I:iP σ n)(δ:List MO)(h:cR σ.B (.c ad)=some o):dj cl (HS σ δ) (.d 144) [.c ad] .b=some (o,HS σ δ):=by
 have g:(HS σ δ)[144]?=some (.b σ.B):=⋯
 rw[vT g (I.q ad),h];rfl
theorem Ue(x:Nat)(μ:Hp):ct μ .a (.c (x:Int)) (.c (x:Int))=some true:=by
 show some (MV.k _ _)=_
 rw[hO]
theorem EZ(H:iP σ n)(q:σ.R.length<=100000)(h:i3 σ.R dk 2 t w)(v:fK σ δ b ad dk)(K:Nat):au Tb (K+4) 1213 [.d 148,.e [.c 4,.c ad],.c (dk:Int)] (HS σ δ)=some (.h true,HS σ δ):=by
 refine v.a λo p u=>?_
 have k:=h.b
 have j:=n_ (m:=dk) (c:=12) (GD k)
 exact bu [(4,oq ((tc (H.r p)) (HS σ δ))),(6,oq (j (HS σ δ))),(9,ow (bu [(0,oq (j (HS σ δ))),(2,oq ((n_ (m:=dk) (c:=13) (Gp k)) (HS σ δ))),(4,oq ((n_ (m:=dk) (c:=14) (Pj k)) (HS σ δ))),(7,ow ((Br q h.a) (K+1) σ δ ⋯))] ⋯:au Tb (K+3) 202 [.d 11,.c (dk:Int)] (HS σ δ)=some (.h true,HS σ δ))),(16,ow ((λcl=>C9 cl H δ p) (au Tb (K+3)))),(19,ov u),(20,oq ((Ue dk) (HS σ δ)))] ⋯
theorem pW(a:ct (HS σ δ) .b (.c x) (.c 4)=some true)(K:Nat):au Tb (K+1) 1213 [.d 148,.e (.c x::p),k] (HS σ δ)=some (.h true,HS σ δ):=bu [(1,oq a)] ⋯
theorem nU(K:Nat):au Tb (K+1) 1213 [.d 148,cb,k] (HS σ δ)=some (.h true,HS σ δ):=bu [] ⋯
theorem JV(K:Nat):au Tb (K+1) 1213 [.d 148,.e [.c 4,.c x],.c 12] (HS σ δ)=some (.h true,HS σ δ):=by
 by_cases h:x=0
 ·subst h;exact nU K
 ·have j:ct (HS σ δ) .a (.c x) (.c 0)=some false:=by
   show some (MV.k (.c x) (.c 0))=_
   rw[fe (by intro e;cases e;exact h rfl)]
  exact bu [(4,oq j)] ⋯
theorem NO(I:Inv σ Γ n)(K:Nat):au Tb (K+4) 1213 [.d 148,.e [.c 4,.c 19],.c 13] (HS σ δ)=some (.h true,HS σ δ):=bu [(16,ow ((λcl=>C9 cl I.j δ I.B) (au Tb (K+3))))] ⋯
theorem J4(R:List Row):(b9 R)[18]?=some (.e [.c 2,.c 66,.e []]):=by
 rw[b9,aJ (by simp[bR])];rfl
theorem NL(I:Inv σ Γ n)(a:σ.R.length<=100000)(K:Nat):au Tb (K+4) 1213 [.d 148,.e [.c 4,.c 16],.c 18] (HS σ δ)=some (.h true,HS σ δ):=bu [(9,ow (bu [(7,ow ((Br (m:=18) a (J4 σ.R)) (K+1) σ δ ⋯))] ⋯:au Tb (K+3) 202 [.d 11,.c 18] (HS σ δ)=some (.h true,HS σ δ))),(16,ow ((λcl=>C9 cl I.j δ I.A) (au Tb (K+3))))] ⋯
theorem C5(I:Inv σ Γ n)(D:σ.R.length<=100000)(p:cj σ.R 0 k u)(h:rU k u v w)(z:RY u w)(K:Nat):au Tb (K+4) 1213 [.d 148,w,.c (k:Int)] (HS σ δ)=some (.h true,HS σ δ):=by
 cases h with
 |y c s n r E j a=>
  refine pW ?_ (K+3)
  unfold k1
  cases aR c 110<;>rfl
 |q c n r j a=>exact pW rfl (K+3)
 |m c x r=>
  have p:=p
  subst p
  rcases r with rfl|rfl|rfl
  ·refine cf z λy j a=>?_
   refine fI j ?_
   rcases a with rfl|rfl
   ·exact nU (K+3)
   ·exact NO I K
  ·exact JV (K+3)
  ·refine cf z λy j a=>?_
   cases j
   rcases a with rfl|rfl
   ·exact nU (K+3)
   ·exact NL I D K
 |o w C=>exact pW rfl (K+3)
 |B c w C=>exact pW rfl (K+3)
 |A c w C=>exact pW rfl (K+3)
end
end
section
structure fC (R:List Row) (ts:List CT) (vs ws:List MV):Prop where
 m:vs.length=ts.length
 k:ws.length=ts.length
 o:∀(j:Nat) (t:CT),ts[j]?=some t->∃v w,vs[j]?=some v/\ws[j]?=some w/\Ln R t v w
theorem fC.p(h:fC R ts vs ws):fC (R++x) ts vs ws:=
 ⟨h.m,h.k,λj t e=>by refine dY (h.o j t e) λv w r q a=>?_;exact⟨v,w,r,q,a.j⟩⟩
theorem nR(g:∃x,R'=R++x)(h:fC R ts vs ws):fC R' ts vs ws:=by obtain⟨x,rfl⟩:=g;exact h.p
theorem ig.o{r m:Type}{p:r->m->Prop}:∀{x:List r} {y:List m} {j:Nat} {t:m},ig p x y->y[j]?=some t->∀{q:Prop},(∀k,x[j]?=some k->p k t->q)->q
 |a::_,_::_,0,_,h,ht,_,ω=>by cases ht;exact ω a rfl h.1
 |_::x,_::y,j+1,_,h,ht,_,ω=>ig.o (x:=x) (y:=y) (j:=j) h.2 ht ω
 |[],[],_,_,_,ht,_,_=>nomatch ht
 |[],_::_,_,_,h,_,_,_=>h.elim
 |_::_,[],_,_,h,_,_,_=>h.elim
theorem rm{l:List MV}{k:Nat}{v:MV}(μ:Hp)(h:l[k]?=some v)(a:k<=1000):ez μ (.e l) (.c (k:Int))=some v:=by
 delta ez;exact(Rl _).trans (JJ h (ry a))
inductive Ar5 (R:List Row) (ks:List Nat) (vs ws:List MV) (j:Nat):Prop
 |mk (t k v w) (h1:ks[j]?=some k) (h2:vs[j]?=some v) (h3:ws[j]?=some w) (h4:cj R 0 k t) (h5:rU k t v w)
inductive Ar6 (R:List Row) (ks:List Nat) (ws:List MV) (j:Nat):Prop
 |mk (t k v w) (h1:ks[j]?=some k) (h3:ws[j]?=some w) (h4:cj R 0 k t) (h5:rU k t v w) (h6:RY t w)
theorem oZ{R R':List Row}{u m l:Nat}{ks:List Nat}{ts:List CT}{vs ws:List MV}(D:l≠84)(A:fC R (ts.map (CT.e l)) vs ws)(G:dM R R' m)(F:ig (λk t=>cj R' u k t) ks (ts.map (CT.e l))){j:Nat}(hj:j<ts.length){z:Prop}(I:∀t k v w,ks[j]?=some k->vs[j]?=some v->ws[j]?=some w->cj R' 0 k t->rU k t v w->RY t w->z):z:=by
 have B:(ts.map (CT.e l))[j]?=some (ts[j].e l):=by rw[aL,aN hj];rfl
 refine dY (A.o j _ B) λv w H E y=>?_
 refine F.o B λk J q=>?_
 have q:=q.p D
 refine I _ k v w J H E q ?_ y.m
 refine dG G.c λx L=>?_
 have C:=G.r
 rw[L] at q C
 exact y.a x k C q
section
variable{K n t b c d i l ai f dk g h vi:Nat}{s:Int}{σ:St}{δ jE:List MO}{vs ws:List MV}{ta w aV:MV}{Γ:Cf}{ad kk num:Int}{ks:List Nat}{ts:List CT}
theorem HH{E:Prop}(V:σ.R.length<=100000)(Q:δ[vi]?=some (.a vs))(o:ks.length<=3)(A:ws.length=ks.length)(B:vs.length=ks.length)
  (S:∀j,j<ks.length->Ar5 σ.R ks vs ws j) (N:∀ρ',(ρ'=[(103,.d 148),(108,aV),(220,.d (vi+182)),(160,.e (cB ks)),(56,.d (δ.length+182))]\/∃x y,ρ'=[(103,.d 148),(108,aV),(220,.d (vi+182)),(160,.e (cB ks)),(56,.d (δ.length+182)),(182,x),(91,y)])->(bQ Tb (au Tb (K+6)) (K+6) (fF Q7 2) [(103,.d 148),(108,aV),(220,.d (vi+182)),(160,.e (cB ks)),(56,.d (δ.length+182))] (HS σ (ar δ (.a [])))=some (.a,ρ',HS σ (ar δ (.a ws))))->E):E:=by
 have r:aO Tb (au Tb (K+6)) (.p (.d 160)) [(103,.d 148),(108,aV),(220,.d (vi+182)),(160,.e (cB ks)),(56,.d (δ.length+182))] (HS σ (ar δ (.a [])))=some (.c ((ks.length:Nat):Int),HS σ (ar δ (.a []))):=by
  have:mj (HS σ (ar δ (.a []))) (.e (cB ks))=some (.c ((ks.length:Nat):Int)):=by
   show gd ((cB ks).length<=bz) (some (MV.c ((cB ks).length:Nat)))=_
   rw[j1 (by unfold cB bz;simp;exact(eK o))];unfold cB;simp
  exact n9 [(0,ov this)] ⋯
 refine pJ (T:=Tb) (cl:=au Tb (K+6)) (fuel:=K+6) (n:=ks.length) (t:= .b 182) (e:= .p (.d 160)) (b:=[.f (.b 91) (.j 879 [.d 103,.h (.d 160) (.d 182),.h (.d 220) (.d 182)]),.m (.q .a (.d 91) (.g (.e [.c 0,.c 0]))) [.p (.g .f)] [],.d (.n (.d 56) 0 [.d 91])])
  (ρ:=[(103,.d 148),(108,aV),(220,.d (vi+182)),(160,.e (cB ks)),(56,.d (δ.length+182))]) (μ:=HS σ (ar δ (.a []))) (bC:=HS σ (ar δ (.a [])))
  (λk ρ μ=>(ρ=[(103,.d 148),(108,aV),(220,.d (vi+182)),(160,.e (cB ks)),(56,.d (δ.length+182))]\/∃x y,ρ=[(103,.d 148),(108,aV),(220,.d (vi+182)),(160,.e (cB ks)),(56,.d (δ.length+182)),(182,x),(91,y)])/\μ=HS σ (ar δ (.a (ws.take k))))
  r (eK o) ⟨.inl rfl,rfl⟩
  (λk ρ μ E u p H=>by
   obtain⟨t,kk,v,w,U,O,P,X,L⟩:=S k u
   have W:ws.take (k+1)=ar (ws.take k) w:=by
    rw[f6,P];simp[ar]
   have F:=rm (HS σ (ar δ (.a (ws.take k)))) (l:=cB ks) (k:=k) (v:= .c (kk:Int)) (by unfold cB;rw[aL,U];rfl) (XA o A B u)
   have J:=jV σ (fU (.a (ws.take k)) Q) O (Xz o A B u)
   have G:=qV (σ:=σ) (δ:=ar δ (.a (ws.take k))) (K:=K) V X L
   have M:=L.z
   have D:=kj (au Tb (K+6)) σ (h9 δ (.a (ws.take k)) δ.length rfl) w (bw (by simp;unfold bz;exact Xs o A B u))
   rw[dK,<-W] at D
   have I:=h9 δ (.a (ws.take k)) δ.length rfl
   obtain⟨p1,rfl⟩:=p
   rcases p1 with rfl|⟨x,y,rfl⟩
   ·refine H ([(103,.d 148),(108,aV),(220,.d (vi+182)),(160,.e (cB ks)),(56,.d (δ.length+182)),(182,.c (k:Int))]) (HS σ (ar δ (.a (ws.take k)))) ([(103,.d 148),(108,aV),(220,.d (vi+182)),(160,.e (cB ks)),(56,.d (δ.length+182)),(182,.c (k:Int)),(91,w)]) (HS σ (ar δ (.a (ws.take (k+1))))) rfl ?_ ⟨.inr ⟨_,_,rfl⟩,rfl⟩
    exact eD [(0,ov F),(1,ov J),(2,ow G),(3,oq (M (HS σ (ar δ (MO.a (hY k ws)))))),(5,oc (jB σ I)),(6,ow D)] ⋯
   ·refine H ([(103,.d 148),(108,aV),(220,.d (vi+182)),(160,.e (cB ks)),(56,.d (δ.length+182)),(182,.c (k:Int)),(91,y)]) (HS σ (ar δ (.a (ws.take k)))) ([(103,.d 148),(108,aV),(220,.d (vi+182)),(160,.e (cB ks)),(56,.d (δ.length+182)),(182,.c (k:Int)),(91,w)]) (HS σ (ar δ (.a (ws.take (k+1))))) rfl ?_ ⟨.inr ⟨_,_,rfl⟩,rfl⟩
    exact eD [(0,ov F),(1,ov J),(2,ow G),(3,oq (M (HS σ (ar δ (MO.a (hY k ws)))))),(5,oc (jB σ I)),(6,ow D)] ⋯) λρ' Y e C=>?_
 obtain⟨p1,p2⟩:=C
 refine N ρ' p1 ?_
 rw[<-A,eC] at p2
 exact p2▸e
end
end
section
section
variable{K n t b c d i l ai f dk g h vi:Nat}{s:Int}{σ:St}{δ jE:List MO}{vs ws:List MV}{ta w aV:MV}{Γ:Cf}{ad kk num:Int}{ks:List Nat}{ts:List CT}
noncomputable abbrev kL(R:List Row)(d l dk:Nat):Prop:=i3 R dk 2 (64+d) (.e [.c (kd 0 l:Nat)])
theorem iH(g:∃x,R'=R++x)(h:kL R d l dk):kL R' d l dk:=by obtain⟨x,rfl⟩:=g;exact h.c
noncomputable abbrev jL(dk d:Nat):MV:= .e [.c (dk:Int),.c (b0 d 0:Nat),.e []]
theorem pR{m:Prop}(I:Inv σ Γ n)(u:n<=70000)(z:d<2)(o:bB l=true)(p:l≠84)(A:kL σ.R d l dk)(K:Nat)(δ:List MO)(x:∀(R':List Row) (kr:Nat) (ks:List Nat) (y:List MO),(au Tb (K+12) 1012 [.d 10,jL dk d] (HS σ δ)=some (.e [.c (kr:Int),.e (cB ks)],HS (σ.r R') (cU δ y)))->(ig (λk t=>cj R' (Γ.v 0) k t) ks ((Γ.T d).map (CT.e l)))->(dM σ.R R' 4)->m):m:=by
 refine Vy (kk:=dk) (ma:= .e []) I.a (by have:=I.r;exact(aD this (eK u))) z (i:=0) Px (.b _) o p ⟨2,_,A.a,.inl rfl⟩ λR' kr ks j B q G=>?_
 obtain⟨y,j⟩:=j K δ
 exact x R' kr ks y j q G
theorem Inv.D(I:Inv σ Γ n)(g:dM σ.R R' c):Inv (σ.r R') Γ (n+c):=I.R g
theorem T9{C:Prop}(I:Inv σ Γ n)(A:n<=70000)(L:d<2)(E:bB l=true)(F:l≠84)(N:kL σ.R d l dk)(u:vs.length=(Γ.T d).length)(m:ws.length=(Γ.T d).length)
  (M:∀R' ks,dM σ.R R' 4->ig (λk t=>cj R' (Γ.v 0) k t) ks ((Γ.T d).map (CT.e l))->∀j,j<(Γ.T d).length->Ar5 R' ks vs ws j) (J:δ[vi]?=some (.a vs)) (H:∀R' q o,(au Tb (K+13) 1178 [.d 148,jL dk d,.d (vi+182)] (HS σ δ)=some (.d (o+182),HS (σ.r R') q))->(dM σ.R R' 4)->(Gw δ q)->(q[o]?=some (.a ws))->(δ.length<=o)->C):C:=by
 refine pR I A L E F N K δ λR' kr ks y D B G=>?_
 have lk:ks.length=(Γ.T d).length:=by have:=B.e;rw[ay] at this;exact this
 refine HH (K:=K+6) (σ:=σ.r R') (δ:=cU δ y) (aV:=jL dk d) (ks:=ks) (vs:=vs) (ws:=ws) (by have Q:=G.p;have P:=I.r;show R'.length<=_;exact Sa A Q P) (cg y J) (XE u m (I.a.a d) lk) (XD m lk) (XC u m lk) (λj hj=>M R' ks G B j (XB m lk hj)) λρ' O e=>?_
 refine H R' (ar (cU δ y) (.a ws)) ((cU δ y).length) ?_ G ((Gw.k _ _).e (Gw.d _ _)) (h9 _ _ _ rfl) ((Gw.k δ y).1)
 rcases O with rfl|⟨x,z,rfl⟩
 ·exact bu [(1,ow D),(4,os e)] ⋯
 ·exact bu [(1,ow D),(4,os e)] ⋯
theorem Gj{A:Prop}(I:Inv σ Γ n)(O:n<=70000)(L:δ[vi]?=some (.a (w::ws)))(q:ks.length<=3)(z:ws.length=ks.length)
  (M:∀j,j<ks.length->Ar6 σ.R ks ws j) (G:∀ρ',(ρ'=[(103,.d 148),(108,aV),(218,x3),(28,.d (vi+182)),(160,.e (cB ks)),(226,.c 1)]\/∃x,ρ'=[(103,.d 148),(108,aV),(218,x3),(28,.d (vi+182)),(160,.e (cB ks)),(226,.c 1),(182,x)])->(bQ Tb (au Tb (K+4)) (K+4) (fF Q8 3) [(103,.d 148),(108,aV),(218,x3),(28,.d (vi+182)),(160,.e (cB ks)),(226,.c 1)] (HS σ δ)=some (.a,ρ',HS σ δ))->A):A:=by
 have o:aO Tb (au Tb (K+4)) (.p (.d 160)) [(103,.d 148),(108,aV),(218,x3),(28,.d (vi+182)),(160,.e (cB ks)),(226,.c 1)] (HS σ δ)=some (.c ((ks.length:Nat):Int),HS σ δ):=by
  have:mj (HS σ δ) (.e (cB ks))=some (.c ((ks.length:Nat):Int)):=by
   show gd ((cB ks).length<=bz) (some (MV.c ((cB ks).length:Nat)))=_
   rw[j1 (by unfold cB bz;simp;exact(eK q))];unfold cB;simp
  exact n9 [(0,ov this)] ⋯
 refine pJ (T:=Tb) (cl:=au Tb (K+4)) (fuel:=K+4) (n:=ks.length) (t:= .b 182) (e:= .p (.d 160)) (b:=[.m (.C (.j 1213 [.d 103,.h (.d 28) (.r .a (.d 226) (.d 182)),.h (.d 160) (.d 182)])) [.p (.g (.h false))] []])
  (ρ:=[(103,.d 148),(108,aV),(218,x3),(28,.d (vi+182)),(160,.e (cB ks)),(226,.c 1)]) (μ:=HS σ δ) (bC:=HS σ δ)
  (λk ρ μ=>(ρ=[(103,.d 148),(108,aV),(218,x3),(28,.d (vi+182)),(160,.e (cB ks)),(226,.c 1)]\/∃x,ρ=[(103,.d 148),(108,aV),(218,x3),(28,.d (vi+182)),(160,.e (cB ks)),(226,.c 1),(182,x)])/\μ=HS σ δ)
  o (GF q z) ⟨.inl rfl,rfl⟩
  (λk ρ μ A u p E=>by
   obtain⟨t,kk,v,S,P,J,Q,N,H⟩:=M k u
   have B:=rm (HS σ δ) (l:=cB ks) (k:=k) (v:= .c (kk:Int)) (by unfold cB;rw[aL,P];rfl) (Pk q z u)
   have F:=(show(1:Int)+(k:Int)=((k+1:Nat):Int) from AQ)▸(jV σ L J (Xu q z u))
   have D:=C5 (δ:=δ) I (by have:=I.r;exact xj O this) Q N H K
   obtain⟨p1,rfl⟩:=p
   rcases p1 with rfl|⟨x,rfl⟩
   ·refine E ([(103,.d 148),(108,aV),(218,x3),(28,.d (vi+182)),(160,.e (cB ks)),(226,.c 1),(182,.c (k:Int))]) (HS σ δ) ([(103,.d 148),(108,aV),(218,x3),(28,.d (vi+182)),(160,.e (cB ks)),(226,.c 1),(182,.c (k:Int))]) (HS σ δ) rfl ?_ ⟨.inr ⟨_,rfl⟩,rfl⟩
    exact eD [(1,ov F),(2,ov B),(3,ow D)] ⋯
   ·refine E ([(103,.d 148),(108,aV),(218,x3),(28,.d (vi+182)),(160,.e (cB ks)),(226,.c 1),(182,.c (k:Int))]) (HS σ δ) ([(103,.d 148),(108,aV),(218,x3),(28,.d (vi+182)),(160,.e (cB ks)),(226,.c 1),(182,.c (k:Int))]) (HS σ δ) rfl ?_ ⟨.inr ⟨_,rfl⟩,rfl⟩
    exact eD [(1,ov F),(2,ov B),(3,ow D)] ⋯) λρ' U e y=>?_
 obtain⟨p1,p2⟩:=y
 subst p2
 exact G ρ' p1 e
end
end
section
section
variable{K n t b c d i l ai f dk g h vi:Nat}{s:Int}{σ:St}{δ jE:List MO}{vs ws:List MV}{ta w aV:MV}{Γ:Cf}{ad kk num:Int}{ks:List Nat}{ts:List CT}
theorem tA(a:d<2)(K:Nat):au Tb (K+1) 1019 [.d (hU (b0 d 0))] (HS σ δ)=some (.h false,HS σ δ):=by
 have a:=m6 a
 rcases a with rfl|rfl
 ·exact bu [] ⋯
 ·exact bu [] ⋯
theorem Cr(a:d<2)(K:Nat):au Tb (K+2) 1199 [.d 148,.d (hU (b0 d 0))] (HS σ δ)=some (.h true,HS σ δ):=by
 have a:=m6 a
 rcases a with rfl|rfl
 ·exact bu [] ⋯
 ·exact bu [] ⋯
theorem Jq(σ:St)(δ:List MO)(a:d<2):iu Tb (HS σ δ) (.d (hU (b0 d 0))) 123=some .f:=by
 have a:=m6 a
 rcases a with rfl|rfl
 ·kernel_rfl
 ·kernel_rfl
theorem Gl{E:Prop}(I:Inv σ Γ n)(C:n<=60000)(F:d<2)(V:bB l=true)(L:l≠84)(U:kL σ.R d l dk)(A:fC σ.R ((Γ.T d).map (CT.e l)) vs ws)(Q:δ[vi]?=some (.a (w::ws)))
  (S:∀R' p,dM σ.R R' 4->Gw δ p->au Tb (K+12) 1213 [.d 148,w,.c (dk:Int)] (HS (σ.r R') p)=some (.h true,HS (σ.r R') p)) (O:∀R' p,(au Tb (K+13) 1220 [.d 148,jL dk d,.d (hU (b0 d 0)),.d (vi+182)] (HS σ δ)=some (.h true,HS (σ.r R') p))->(dM σ.R R' 4)->(Gw δ p)->E):E:=by
 refine pR I (xk C) F V L U K δ λR' kr ks y H z G=>?_
 have lk:ks.length=(Γ.T d).length:=by have:=z.e;rw[ay] at this;exact this
 have u:=A.k
 have M:=A.m
 rw[ay] at u M
 have o:=cg y Q
 refine Gj (K:=K+8) (σ:=σ.r R') (δ:=cU δ y) (vi:=vi) (aV:=jL dk d) (x3:= .d (hU (b0 d 0))) (I.D G) (Py C) o (lk▸(I.a.a d)) (lk▸u) (λj hj=>oZ L A G z (XF lk u M hj) λt k v w N J=> .mk t k v w N) λρ' P e=>?_
 have q:=tA (σ:=σ.r R') (δ:=cU δ y) F (K+11)
 have B:=S R' (cU δ y) G (Gw.k _ _)
 refine O R' (cU δ y) ?_ G (Gw.k _ _)
 rcases P with rfl|⟨x,rfl⟩
 ·exact bu [(1,ow H),(3,ow q),(6,ov (hK (σ.r R') o 0 w ⋯)),(8,ow B),(11,os e)] ⋯
 ·exact bu [(1,ow H),(3,ow q),(6,ov (hK (σ.r R') o 0 w ⋯)),(8,ow B),(11,os e)] ⋯
end
end
section
section
variable{K n t b c d i l ai f dk g h vi fi stk:Nat}{s ip sort ex:Int}{σ:St}{δ jE:List MO}{vs ws:List MV}{ta w aV bd args:MV}{Γ:Cf}{ad kk num:Int}{ks:List Nat}{ts:List CT}
theorem pa{l:List MV}(h:δ[i]?=some (.a l))(j:l.length<=1000)(k:Nat)(m:k<=1000)(σ:St):lu (HS σ δ) (.d (i+182)) (some (.c (k:Int))) none=some (.d (δ.length+182),HS σ (ar δ (.a (l.drop k)))):=by
 have e:=yv (μ:=HS σ δ) (n:=i+182) (by rw[df];exact h) (xu m) (show jU none=some none from rfl) (rj j)
 rw[kD,kC] at e
 exact e
theorem Inv.O(I:Inv σ Γ n)(o:n<=70000)(u:kL σ.R d l dk)(p:fK σ δ b ad dk)(K:Nat):∀R' k,dM σ.R R' 4->Gw δ k->au Tb (K+12) 1213 [.d 148,.e [.c 4,.c ad],.c (dk:Int)] (HS (σ.r R') k)=some (.h true,HS (σ.r R') k):=λR' k G w=>by
 have m:=I.D G
 exact EZ (σ:=σ.r R') m.j (by have:=m.r;exact(aD this (eK (aM o _)))) (iH G.c u) (fK.d (S:=λJ=>False) p (λJ J h=>h) w.f λJ h=>h.elim) (K+8)
theorem abB{B:Prop}(I:Inv σ Γ n)(z:n<=60000)(u:d<2)(L:bB l=true)(P:l≠84)(y:kL σ.R d l dk)(A:fC σ.R ((Γ.T d).map (CT.e l)) vs ws)(x:δ[vi]?=some (.a (.e [.c 4,.c ad]::ws)))(v:fK σ δ b ad dk)(D:∀R' m,(dM σ.R R' 4)->(Gw δ m)->(∀q,au Tb (K+12) 1108 [.d 148,fo,.c ad,.d (m.length+182)] (HS (σ.r R') (ar m (.a ws)))=some (.f,q)->
   au Tb (K+14) 1206 [.d 148,fo,jL dk d,.d (hU (b0 d 0)),.d (vi+182)] (HS σ δ)=some (.c (-2),q))->B):B:=by
 refine Gl (K:=K) I z u L P y A x (I.O (xk z) y v K) λR' m N G C=>?_
 refine D R' m G C λq H=>?_
 have p:=C.2 _ _ x
 have Q:ws.length<=3:=by have:=A.k;rw[ay] at this;have J:=I.a.a d;exact Sb this J
 refine cf v λo M _=>?_
 have E:=I.j.r M
 have F:∀μ,ct μ .a (.e [.c 4,.c ad]) (.e [.c 4,.c 0])=some false:=λμ=>by
  show some (MV.k (.e [.c 4,.c ad]) (.e [.c 4,.c 0]))=_
  rw[fe (by intro e;cases e;exact absurd E (by decide))]
 have S:au Tb (K+13) 1075 [.d 176,.d 148,fo,.c ad,.d (m.length+182)] (HS (σ.r R') (ar m (.a ws)))=some (.f,q):=bu [(0,ow H)] ⋯
 exact bu [(0,ov (Jq σ δ u)),(3,ow N),(6,ow (Cr (σ:=σ.r R') (δ:=m) u (K+11))),(8,ov (hK (σ.r R') p 0 (MV.e [MV.c 4,MV.c ad]) ⋯)),(9,oq (F (HS (σ.r R') m))),(13,ov (hK (σ.r R') p 0 (MV.e [MV.c 4,MV.c ad]) ⋯)),(15,ow (pa p (by simp;exact Pz Q) 1 (by decide) (σ.r R'))),(16,ow S)] ⋯
end
end
section
section
variable{K n t b c d i l ai f dk g h vi fi stk:Nat}{s ip sort ex:Int}{σ:St}{δ jE:List MO}{vs ws bj:List MV}{ta w aV bd args:MV}{Γ:Cf}{ad kk num:Int}{ks:List Nat}{ts:List CT}
theorem abv{l:List MV}(h:δ[i]?=some (.a l))(j:l.length<=1000)(k:Nat)(e:k<=1000)(σ:St):HL (HS σ δ) (.d (i+182)) (.c (k:Int))=some (HS σ (δ.set i (.a (l.take k)))):=by
 unfold HL;rw[v9 (by rw[df];exact h),Rl]
 refine(j1 ⟨Pc e,Ph e,rj j⟩).trans ?_
 rw[s9];rfl
theorem rY{X:Prop}(I:Inv σ Γ n)(W:n<=50000)(L:d<2)(dP:bB l=true)(cQ:l≠84)(H:kL σ.R d l dk)(A:vs.length=(Γ.T d).length)(p:ws.length=(Γ.T d).length)
  (hp:∀R' ks,dM σ.R R' 4->ig (λk t=>cj R' (Γ.v 0) k t) ks ((Γ.T d).map (CT.e l))->∀j,j<(Γ.T d).length->Ar5 R' ks vs ws j)
  (z:δ[fi]?=some (gw fi num aV bd ip args stk sort ex)) (m:δ[stk]?=some (.a (cU bj (.e [.c 4,.c ad]::vs)))) (hj:bj.length<=3) (bG:∀R' B x,(dM σ.R R' 4)->(Fz (ph stk) δ B)->(B[stk]?=some (.a bj))->(B[x]?=some (.a (.e [.c 4,.c ad]::ws)))->(δ.length<=x)->(∀r O,au Tb (K+14) 1206 [.d 148,.d (fi+182),jL dk d,.d (hU (b0 d 0)),.d (x+182)] (HS (σ.r R') B)=some (r,O)->
   au Tb (K+15) 1192 [.d 148,.d (fi+182),jL dk d,.c (bj.length:Nat)] (HS σ δ)=some (r,O))->X):X:=by
 have hl:σ.R.length<=100000:=by have:=I.r;exact Pq W this
 have Z:vs.length<=3:=by have:=I.a.a d;exact XH A p this
 have lw:ws.length<=3:=by have:=I.a.a d;exact(by rw[p,<-A];assumption)
 have y:=cJ m
 have nf:fi≠stk:=by intro e;rw[e,m] at z;cases z
 refine b6 (ar δ (.a [.e [.c 4,.c ad]])) λS N=>?_
 refine b6 (ar S (.a vs)) λdq C=>?_
 have J:=N▸(Gw.d _ _)
 have Y:=C▸(J.e (Gw.d _ _))
 have G:(cU bj (.e [.c 4,.c ad]::vs)).drop (bj.length+1)=vs:=by unfold cU;simp
 have M:(cU bj (.e [.c 4,.c ad]::vs)).take bj.length=bj:=by unfold cU;simp
 have u:(cU bj (.e [.c 4,.c ad]::vs)).length<=10:=by unfold cU;simp;exact XG A p hj Z
 refine T9 (K:=K+1) (δ:=dq) (vi:=S.length) I (PE W) L dP cQ H A p hp (C▸(h9 _ _ _ rfl)) λE h_ o c1 G1 w3 go lo=>?_
 have D:=Y.e w3
 refine b6 (h_.set stk (.a bj)) λQ q=>?_
 refine b6 (ar Q (.a (cU [.e [.c 4,.c ad]] ws))) λmK F=>?_
 have U:=q▸(D.f.k (Fz.w _ _ _))
 refine bG E mK Q.length G1 (F▸(U.k (Gw.d _ _).f)) ?_ (F▸(h9 _ _ _ rfl)) U.1 λr O H2=>?_
 ·exact F▸q▸(fU _ (mX _ (D.2 _ _ m)))
 ·have e0:=Cp (δ:=δ) hl L H (.e []) (K+10)
  have jW:=fU (.a []) z
  have x0:=jV σ (fU (.a []) m) (by unfold cU;simp:(cU bj (.e [.c 4,.c ad]::vs))[bj.length]?=some (.e [.c 4,.c ad])) (PD hj)
  have P:=λcl=>kj cl σ (h9 δ (.a []) δ.length rfl) (.e [.c 4,.c ad]) rfl
  rw[dK] at P
  have sl:=pa (J.2 _ _ m) (GK u) (bj.length+1) (PB hj) σ
  rw[G,<-C,show((bj.length+1:Nat):Int)=(bj.length:Int)+1 from xg] at sl
  have dl:=abv (D.2 _ _ m) (GK u) bj.length (jT hj) (σ.r E)
  rw[M,<-q] at dl
  have V:=zo (σ.r E) (q▸(jf _ _ (xf y) (w3.2 _ _ (C▸N▸(fU _ (h9 _ _ _ rfl)))))) (q▸(jf _ _ (by have:=Y.1;exact(gu (bk y (aD this lo)))) go)) (by simp) (p▸A▸(eK Z))
  rw[<-F] at V
  exact bu [(0,ow e0),(4,ow (tA (σ:=σ) (δ:=ar δ (.a [])) L (K+13))),(7,ov (ed σ jW 126 (MV.d (stk+182)) ⋯)),(8,ov x0),(9,ow (yn (σ:=σ) (δ:=ar δ (.a [])) hl H (b0 d 0:Nat) (.e []) ad (K+11))),(12,oc (jB σ (h9 δ (.a []) δ.length rfl))),(13,ov (ed σ jW 126 (MV.d (stk+182)) ⋯)),(14,ov x0),(15,ow ((λcl=>N▸(P cl)) (au Tb (K+14)))),(17,ov (ed σ (J.2 _ _ z) 126 (MV.d (stk+182)) ⋯)),(18,ow sl),(19,ow c1),(22,ov (ed (σ.r E) (D.2 _ _ z) 126 (MV.d (stk+182)) ⋯)),(23,oh dl),(24,ow V),(25,ow H2)] ⋯
theorem H8(I:Inv σ Γ n)(N:n<=50000)(P:d<2)(M:bB l=true)(C:l≠84)(L:kL σ.R d l dk)(A:fC σ.R ((Γ.T d).map (CT.e l)) vs ws)(hk:∀p,Fz (ph stk) δ p->fK σ p b ad dk)
  (hf:δ[fi]?=some (gw fi num aV bd ip args stk sort ex)) (Z:δ[stk]?=some (.a (cU bj (.e [.c 4,.c ad]::vs)))) (hj:bj.length<=3) {O:Prop} (U:∀R' p x,dM σ.R R' 8->Fz (ph stk) δ p->p[stk]?=some (.a bj)->p[x]?=some (.a ws)->δ.length<=x->(∀u,au Tb (K+12) 1108 [.d 148,.d (fi+182),.c ad,.d (x+182)] (HS (σ.r R') p)=some (.f,u)->
   au Tb (K+15) 1192 [.d 148,.d (fi+182),jL dk d,.c (bj.length:Nat)] (HS σ δ)=some (.c (-2),u))->O):O:=by
 refine rY (K:=K) I N P M C L (by rw[A.m,ay]) (by rw[A.k,ay]) (λR' ks G z j hj=>by
  refine oZ C A G z hj λt k v w Q X S q4 W J=>?_
  exact .mk t k v w Q X S q4 W) hf Z hj λR1 F o q B h1 z h3 H=>?_
 refine abB (K:=K) (σ:=σ.r R1) (δ:=F) (fo:= .d (fi+182)) (vi:=o) (ws:=ws) (I.D q) (AV N) P M C (iH q.c L) (nR q.c A) z (hk F B) λY E G2 y V=>?_
 refine U Y (ar E (.a ws)) E.length ((q.f G2).e AU) ((B.k y.f).k (Gw.d _ _).f) (fU _ (y.2 _ _ h1)) (h9 _ _ _ rfl) ?_ λu h=>H _ _ (V u h)
 have t1:=B.1;have t2:=y.1;exact pz t1 t2
end
end
section
section
variable{K n t b c d i l fi v:Nat}{σ:St}{δ:List MO}{Γ:Cf}{x:Int}
noncomputable def wD(σ:St):List (MV×MV):=[((.g [110,117,109,115]),.d 1),((.g [97,116]),.c σ.U),((.g [112,97,114,97,109,115]),.d 2),((.g [114,101,116,115]),.d 3),((.g [98,111,100,121]),.d 7),((.g [108,101,116,116,101,114,115]),.d 9),((.g [107,116]),.d 11),((.g [107,105,110,100,115]),.d 79),((.g [115,111,109,101]),.d 181)]
theorem wdk(σ:St):Wa (wD σ):=⟨⋯,⋯,⋯⟩
theorem jN{k:Prop}(I:Inv σ Γ n)(o:n<=90000)(δ:List MO)(hm:0<m)(q:∀(y:Nat) (t:Int),(y<m)->(∀K,au Tb (K+1) 1270 [.d 8,.c (m:Int)] (HS σ δ)=some (.c (y:Int),HS (σ.S t) δ))->(Up σ (σ.S t))->(Inv (σ.S t) Γ (n+1))->k):k:=by
 refine cf I.F λi s g=>?_
 refine rX (μ:=HS σ δ) (nu:=σ.nu) (d:=wD σ) ⋯ ⋯ I.a.p (⟨⋯,by rw[<-s];kernel_rfl,⋯,XK⟩) (Pd o g) hm λy u h=>?_
 refine q y ((i+1:Nat):Int) u (λK=>?_) Up.H ?_
 ·rw[h K];exact congrArg some ⋯
 ·exact I.U Up.H I.a.r ⟨by have:=I.j.d;show σ.J.length<=_;exact xi this,by have:=I.j.f;show σ.B.length<=_;exact xi this,I.j.e,I.j.a⟩ (by have:=I.r;show σ.R.length<=_;exact xi this) ⟨i+1,rfl,xe g⟩ lB
theorem Iy{e:Prop}(I:Inv σ Γ n)(f:n<=90000)(B:bB c=true->rG σ.R (kd v c) (aR c 84))(m:match u with| .b x=>rK x=true/\x=c| .r x=>bB x=true/\x=c| .q x=>bB x=true/\x=c)(g:∀R' k,(∀K δ,au Tb (K+8) 1277 [.d 8,u.d,.c (v:Int)] (HS σ δ)=some (.c ((k:Nat):Int),HS (σ.r R') δ))->(cj R' v k u)->(dM σ.R R' 1)->e):e:=by
 refine v7 (v:=v) I.a.r (by have:=I.r;exact Gq f this) B m λR' k j h G=>?_
 exact g R' k (λK δ=>j K (jn σ) (gh σ++δ) (wD σ) ⋯ (wdk σ) ⋯) h G
theorem qK(x:Int)(h:0<=x)(μ:Hp):∃r:Int,(r=0\/r=1)/\dE μ .b (.c x) (.c 2)=some (.c r,μ):=by
 refine⟨x%2,XJ,?_⟩
 rw[oY (by decide),eO _ (by decide)]
theorem oX(x:Int)(h:0<=x)(μ:Hp):∃r:Int,(r=0\/r=1\/r=2)/\dE μ .b (.c x) (.c 3)=some (.c r,μ):=by
 refine⟨x%3,XI,?_⟩
 rw[oY (by decide),eO _ (by decide)]
theorem Cm(h:bB c=true)(a:c≠84):c∈RD\/c=108\/c=76\/c=115\/c=111\/c=107\/c=112:=by
 have hb:aR c 84=false:=by cases e:aR c 84 with|false=>rfl|true=>exact absurd (aK e) a
 unfold bB at h
 rw[hb,qZ] at h
 obtain⟨n,f⟩:=dT.mp h
 have:=j4 f
 exact of_decide_eq_true (aT.mp (by kernel_rfl:(rJ.all λp=>decide (p.1∈RD\/p.1=108\/p.1=76\/p.1=115\/p.1=111\/p.1=107\/p.1=112))=true) _ this)
theorem U5{D:Prop}(E:bB c=true)(F:c≠84)(j:0<=x)(z:x<999983)(σ:St)(δ:List MO)(K:Nat)(f:∀u w,(au Tb (K+1) 1291 [.d 148,.d 8,fo,.g [c],.c x] (HS σ δ)=some (u,HS σ δ))->(rU k (.b c) u w)->(RY (.b c) w)->(∀m,bh (m+4) w=true)->D):D:=by
 rcases Cm E F with h|rfl|rfl|rfl|rfl|rfl|rfl
 ·have s:∀(y:Nat),y∉RD->ct (HS σ δ) .a (.g [c]) (.g [y])=some false:=λy L=>tN (by intro e;cases e;exact L h)
  have A:dE (HS σ δ) .c (.c x) (.c 4001)=some (.c (x*4001),HS σ δ):=nA (GJ j z)
  refine cf (oX x j (HS σ δ)) λr p I=>?_
  have H:dE (HS σ δ) .d (.c r) (.c 2)=some (.c (r.fdiv 2),HS σ δ):=vQ (by decide) (by decide)
  obtain⟨q,C,G⟩:∃q:Int,(q=0\/q=1)/\dE (HS σ δ) .d (.c r) (.c 2)=some (.c q,HS σ δ):=⟨r.fdiv 2,by rcases p with rfl|rfl|rfl<;>decide,H⟩
  have run:au Tb (K+1) 1291 [.d 148,.d 8,fo,.g [c],.c x] (HS σ δ)=some (.e [.c (1+q*2),.c (x*4001 - 2000000000)],HS σ δ):=bu [(2,oq (s 113 (by decide))),(5,oq (s 114 (by decide))),(7,oq (s 115 (by decide))),(9,oq (s 107 (by decide))),(11,oq (s 111 (by decide))),(13,oq (s 112 (by decide))),(15,oq (s 108 (by decide))),(17,oq (s 76 (by decide))),(19,ow I),(20,ow G),(21,ow (nA (C.elim (λh=>h▸(by decide:Int.natAbs 0<2^64)) λh=>h▸(by decide:Int.natAbs 1<2^64)):dE (HS σ δ) .c (.c q) (.c 2)=some (.c (q*2),HS σ δ))),(23,ow A)] ⋯
  refine f _ _ run (.y c _ _ h (C.imp (λh=>congrArg (λx:Int=>1+x*2) h) λh=>congrArg (λx:Int=>1+x*2) h) (gn (by decide) (kK (gP j (by decide)) _)) (cX (kK (gP (tT z) (by decide)) _) (by decide))) ?_ λJ=>rfl
  exact Kn (P:=λc=>RY (.b c) _) h trivial trivial trivial trivial trivial trivial trivial trivial trivial trivial
 ·have A:dE (HS σ δ) .c (.c x) (.c 4294967311)=some (.c (x*4294967311),HS σ δ):=nA (GJ j z)
  have run:au Tb (K+1) 1291 [.d 148,.d 8,fo,.g [108],.c x] (HS σ δ)=some (.e [.c 2,.c (x*4294967311 - 2000000000000000)],HS σ δ):=bu [(18,ow A)] ⋯
  exact f _ _ run (.q 108 _ (.inl rfl) (Pu j z) (Pr j z)) trivial λJ=>rfl
 ·have A:dE (HS σ δ) .c (.c x) (.c 4294967311)=some (.c (x*4294967311),HS σ δ):=nA (GJ j z)
  have run:au Tb (K+1) 1291 [.d 148,.d 8,fo,.g [76],.c x] (HS σ δ)=some (.e [.c 2,.c (x*4294967311 - 2000000000000000)],HS σ δ):=bu [(19,ow A)] ⋯
  exact f _ _ run (.q 76 _ (.inr rfl) (Pu j z) (Pr j z)) trivial λJ=>rfl
 ·refine cf (qK x j (HS σ δ)) λr p m=>?_
  rcases p with rfl|rfl
  ·have run:au Tb (K+1) 1291 [.d 148,.d 8,fo,.g [115],.c x] (HS σ δ)=some (.e [.c 4,.c 19],HS σ δ):=bu [(11,ow m)] ⋯
   exact f _ _ run (.m 115 _ (.inl rfl)) ⟨_,rfl,.inr rfl⟩ λJ=>rfl
  ·have run:au Tb (K+1) 1291 [.d 148,.d 8,fo,.g [115],.c x] (HS σ δ)=some (.e [.c 4,.c 0],HS σ δ):=bu [(11,ow m)] ⋯
   exact f _ _ run (.m 115 _ (.inl rfl)) ⟨_,rfl,.inl rfl⟩ λJ=>rfl
 ·refine cf (oX x j (HS σ δ)) λr p m=>?_
  rcases p with rfl|rfl|rfl
  ·have run:au Tb (K+1) 1291 [.d 148,.d 8,fo,.g [111],.c x] (HS σ δ)=some (.e [.c 4,.c 0],HS σ δ):=bu [(13,ow m)] ⋯
   exact f _ _ run (.m 111 _ (.inr (.inl rfl))) trivial λJ=>rfl
  ·have run:au Tb (K+1) 1291 [.d 148,.d 8,fo,.g [111],.c x] (HS σ δ)=some (.e [.c 4,.c 16],HS σ δ):=bu [(13,ow m)] ⋯
   exact f _ _ run (.m 111 _ (.inr (.inl rfl))) trivial λJ=>rfl
  ·have run:au Tb (K+1) 1291 [.d 148,.d 8,fo,.g [111],.c x] (HS σ δ)=some (.e [.c 4,.c 19],HS σ δ):=bu [(13,ow m)] ⋯
   exact f _ _ run (.m 111 _ (.inr (.inl rfl))) trivial λJ=>rfl
 ·refine cf (qK x j (HS σ δ)) λr p m=>?_
  rcases p with rfl|rfl
  ·have run:au Tb (K+1) 1291 [.d 148,.d 8,fo,.g [107],.c x] (HS σ δ)=some (.e [.c 4,.c 0],HS σ δ):=bu [(11,ow m)] ⋯
   exact f _ _ run (.m 107 _ (.inr (.inr rfl))) ⟨_,rfl,.inl rfl⟩ λJ=>rfl
  ·have run:au Tb (K+1) 1291 [.d 148,.d 8,fo,.g [107],.c x] (HS σ δ)=some (.e [.c 4,.c 16],HS σ δ):=bu [(11,ow m)] ⋯
   exact f _ _ run (.m 107 _ (.inr (.inr rfl))) ⟨_,rfl,.inr rfl⟩ λJ=>rfl
 ·refine cf (oX x j (HS σ δ)) λr p m=>?_
  obtain⟨q,B⟩:∃q:Int,dE (HS σ δ) .b (.c x) (.c 256)=some (.c q,HS σ δ):=⟨_,oY (by decide)⟩
  rcases p with rfl|rfl|rfl
  ·have run:au Tb (K+1) 1291 [.d 148,.d 8,fo,.g [112],.c x] (HS σ δ)=some (.e [.c 5,.c 16,.e [.e [.c 4,.c 0],.e [.c 1,.c q]]],HS σ δ):=bu [(17,ow m),(20,ow B)] ⋯
   exact f _ _ run (.o _ rfl) trivial λJ=>rfl
  ·have run:au Tb (K+1) 1291 [.d 148,.d 8,fo,.g [112],.c x] (HS σ δ)=some (.e [.c 5,.c 16,.e [.e [.c 4,.c 16],.e [.c 1,.c q]]],HS σ δ):=bu [(17,ow m),(20,ow B)] ⋯
   exact f _ _ run (.o _ rfl) trivial λJ=>rfl
  ·have run:au Tb (K+1) 1291 [.d 148,.d 8,fo,.g [112],.c x] (HS σ δ)=some (.e [.c 5,.c 16,.e [.e [.c 4,.c 19],.e [.c 1,.c q]]],HS σ δ):=bu [(17,ow m),(20,ow B)] ⋯
   exact f _ _ run (.o _ rfl) trivial λJ=>rfl
end
end
section
section
variable{K n t b c d i l fi v stk:Nat}{σ:St}{δ:List MO}{Γ:Cf}{x num ip sort ex:Int}{aV bd args:MV}
theorem U6(h:rU k (.b c) u w)(p:RY (.b c) w)(j:∀m,bh (m+4) w=true):Ln R (.b c) u w:=
 ⟨⟨k,h⟩,λx z J J=>by
  cases h with
  |y c s n a g f e=>exact .y c s n a g f e
  |q c n a f e=>exact .q c n a f e
  |m c x a=>exact .m c x a
  |o w r=>exact .o w r,p,j 4⟩
theorem ac5(h:0<=x)(μ:Hp):dE μ .b (.c x) (.c 2)=some (.c (x%2),μ):=by
 rw[oY (by decide),eO _ (by decide)]
theorem J8(h:0<=x)(μ:Hp):dE μ .d (.c x) (.c 2)=some (.c (x/2),μ):=by
 rw[vQ (by decide) (by decide),lS _ (by decide)]
theorem Rp(I:Inv σ Γ n)(hn:n<=80000)(C:bB u.f=true)(D:u.f≠84)(s:0<=x)(N:x<999983)
  (hf:δ[fi]?=some (gw fi num aV bd ip args stk sort ex)) (H:δ[fi+1]?=some (.a L)) (uh:L.length<=900) {Ω:Prop} (P:∀σ' Z a w L',au Tb (K+10) 1291 [.d 148,.d 8,.d (fi+182),u.d,.c x] (HS σ δ)=some (a,HS σ' Z)->Up σ σ'->Inv σ' Γ (n+1)->Fz (ph (fi+1)) δ Z->Z[fi+1]?=some (.a L')->L'.length<=L.length+1->Ln σ'.R u a w->Ω):Ω:=by
 cases u with
 |b c=>
  refine U5 (k:=0) (fo:= .d (fi+182)) C D s N σ δ (K+9) λa w F M Y O=>?_
  exact P σ δ a w L F (Up.q _) (I.q lB) ((Gw.p _).f) H lB (U6 M Y O)
 |q c=>
  have C:bB c=true:=C
  have D:=D
  have m:=vZ (v:=0) C D
  have hb:aR c 84=false:=by cases e:aR c 84 with|false=>rfl|true=>exact absurd (aK e) D
  refine Iy (v:=0) (c:=c) (u:= .q c) I (AM hn) (λJ=>by
   have B:=nK σ.R (kd 0 c) (R9 m) m.2.1 m.2.2
   rw[hb];rw[show(kd 0 c==19)=false from by simp;exact R8 m] at B;exact B) ⟨C,rfl⟩ λR' k e1 hk G=>?_
  refine U5 (k:=0) (fo:= .d (fi+182)) C D (x:=x/2) (PM s N) (PL s N) (σ.r R') δ (K+8) λa w F M Y O=>?_
  have kp:au Tb (K+9) 1284 [.g [c],a] (HS (σ.r R') δ)=some (w,HS (σ.r R') δ):=sa (K:=K+8) M
  have S:=ac5 s (HS (σ.r R') δ)
  have T:=J8 s (HS (σ.r R') δ)
  have hp:bh 7 (.e [.e [.c 1,.c (x%2)],w])=true:=by
   show(true&&(bh 6 w&&true))=true
   rw[O 2];rfl
  have V:rU k (.q c) (.e [.c 5,.c (k:Int),.e [.e [.c 1,.c (x%2)],w]]) (.e [.c 5,.c (k:Int),.e [.e [.c 1,.c (x%2)],w]]):= .B c _ hp
  refine P _ δ _ _ L (bu [(4,ow (e1 (K+1) δ)),(5,ow S),(9,ow T),(10,ow F),(11,ow kp)] ⋯) (Up.R G.c) (I.R G) ((Gw.p _).f) H lB ⟨⟨k,V⟩,λy k' W hk'=>?_,trivial,?_⟩
  ·have:k=k':=cj.u W (hk.o y) hk'
   refine rI this ?_;exact V
  ·show(true&&(true&&((true&&(bh 6 w&&true))&&true)))=true
   rw[O 2];rfl
 |r c=>
  refine U5 (k:=0) (fo:= .d (fi+182)) C D (x:=x/2) (PM s N) (PL s N) σ δ (K+8) λa w F M Y O=>?_
  have kp:au Tb (K+9) 1284 [.g [c],a] (HS σ δ)=some (w,HS σ δ):=sa (K:=K+8) M
  have T:=J8 s (HS σ δ)
  refine cf (qK x s (HS σ δ)) λr hr S=>?_
  have V:∀(z:MV),bh 6 z=true->bh 7 z=true->Ln σ.R (.r c) (.e [.c 6,z]) (.e [.c 6,z]):=λz hz h7=>by
   exact⟨⟨0,.A c z h7⟩,λJ k' J J=> .A c z h7,trivial,by show(true&&(bh 7 z&&true))=true;rw[h7];rfl⟩
  rcases hr with rfl|rfl
  ·have hb:=bw (XM uh)
   have gl:(δ.set (fi+1) (.a (ar L w)))[fi+1]?=some (.a (ar L w)):=mX _ H
   have ff:(δ.set (fi+1) (.a (ar L w)))[fi]?=some (gw fi num aV bd ip args stk sort ex):=jf _ _ PK hf
   exact P σ _ _ _ (ar L w) (bu [(9,ow T),(10,ow F),(11,ow kp),(12,ow S),(14,ov (ed σ hf 258 (MV.d (fi+1+182)) ⋯)),(15,oc (jB σ H)),(16,ow ((λcl=>kj cl σ H w hb) (au Tb (K+9)))),(17,ov (ed σ ff 119 (MV.c num) ⋯)),(18,ov (ed σ ff 258 (MV.d (fi+1+182)) ⋯)),(19,ov (hJ σ gl (by rw[aB];exact(ry uh))))] ⋯:au Tb (K+10) 1291 [.d 148,.d 8,.d (fi+182),.g [114,c],.c x] (HS σ δ)=some (.e [.c 6,.e [.c 1,.c num,.c (((ar L w).length:Nat) - 1:Int),.e []]],HS σ (δ.set (fi+1) (.a (ar L w))))) (Up.q _) (I.q lB) (Fz.w _ _ _) gl (by rw[aB];exact(aC _)) (V _ rfl rfl)
  ·refine b6 (ar δ (.a [w])) λdN U=>?_
   have X:=pw (K:=K+6) (σ:=σ) (δ:=dN) (j:=δ.length) (kk:=18) (w:=3) (l:=[w]) I.j (GN hn) (U▸(h9 _ _ _ rfl)) (λμ=>nD ⋯) rfl
   refine b6 (ar dN (rD σ.h 18 δ.length 3 (σ.A+1))) λdq eN=>?_
   have X:=eN▸X
   have gt:=eN▸(h9 _ _ _ rfl)
   rw[U] at X
   have w2:=eN▸U▸((Gw.d _ _).e (Gw.d _ _))
   rw[U] at gt
   exact P _ dq _ _ L (bu [(9,ow T),(10,ow F),(11,ow kp),(12,ow S),(18,ow X),(19,ov (ed (σ.E (MV.d ((ar δ (MO.a [w])).length+182)) 3) gt 71 (MV.c σ.h) ⋯))] ⋯:au Tb (K+10) 1291 [.d 148,.d 8,.d (fi+182),.g [114,c],.c x] (HS σ δ)=some (.e [.c 6,.e [.c 3,.c (σ.h+2),.e []]],HS (σ.E (.d ((ar δ (.a [w])).length+182)) 3) dq)) (Up.p _ _ _) (I.Q (Up.p _ _ _) rfl rfl (I.j.i (by decide)) lB) w2.f (w2.2 _ _ H) lB (V _ rfl rfl)
end
end
section
section
variable{K n t b c d i l fi v stk:Nat}{σ:St}{δ:List MO}{Γ:Cf}
theorem vB(R:List Row)(e:bB l=true)(f:l≠84):rG R (kd 0 l) false:=by
 have a:=vZ (v:=0) e f
 have B:=nK R (kd 0 l) (R9 a) a.2.1 a.2.2
 rw[show(kd 0 l==19)=false from by simp;exact R8 a] at B;exact B
theorem vJ(h:R[j]?=some (.d (.e c) b o))(a:64<=c)(f:c<=68):i3 R (j+20) 2 c (.e [.c (b:Int)]):=⟨gf h,.inl rfl,a,f,uH⟩
theorem Vz(h:R[j]?=some (.d .g b o)):i3 R (j+20) 3 68 (.e [.c (b:Int)]):=⟨gf h,.inr rfl,(by decide),(by decide),uH⟩
theorem adm(R:List Row):i3 R 18 2 66 (.e []):=⟨J4 R,.inl rfl,(by decide),(by decide),OW⟩
theorem zS(I:Inv σ Γ n)(u:n<=80000)(r:sl.length<=1){s:Prop}(x:∀σ' m o,(∀K,au Tb (K+3) 314 [.d 142,.c (k:Int),.d (δ.length+182)] (HS σ (ar δ (.a sl)))=some (.d (o+182),HS σ' m))->Up σ σ'->Inv σ' Γ (n+1)->Gw δ m->ik σ' m δ.length σ.h k sl->iu Tb (HS σ' m) (.d (o+182)) 71=some (.c σ.h)->σ'.R=σ.R->s):s:=by
 refine b6 (ar δ (.a sl)) λf g=>?_
 refine b6 (ar f (rD σ.h k δ.length 3 (σ.A+1))) λy q=>?_
 have gt:=q▸(h9 _ _ _ rfl)
 refine x (σ.E (.d (f.length+182)) 3) y f.length (λK=>q▸g▸((λK=>pw (K:=K) (σ:=σ) (δ:=f) (j:=δ.length) (kk:=(k:Int)) (w:=3) (l:=sl) I.j (GN u) (g▸(h9 _ _ _ rfl)) ((λK μ=>(nx (b7 _) λh=>aQ r h).elim (λe=>by rw[e];exact nD ⋯) λe=>by rw[e];exact nD ⋯:∀K μ,au Tb (K+1) 265 [.c (sl.length:Nat)] μ=some (.c 3,μ)) K) (bw (eK r))) K)) (Up.p _ _ _) (I.Q (Up.p _ _ _) rfl rfl (I.j.i (by decide)) lB) (q▸g▸((Gw.d _ _).e (Gw.d _ _))) ⟨f.length,δ.length,3,_,lG (lF I.j.k),gt,q▸g▸(fU _ (h9 _ _ _ rfl)),by rw[g,aB];exact lB,AL⟩ (ed _ gt 71 _ ⋯) rfl
theorem acf(I:Inv σ Γ n)(G:n<=70000)(hd:d<2)(dP:bB l=true)(cQ:l≠84){Ω:Prop}(P:∀σ' Y e,au Tb (K+7) 1303 [.d 148,.d 8,.c (d:Int),.c (kd 0 l:Nat)] (HS σ δ)=some (e.c,HS σ' Y)->Up σ σ'->Inv σ' Γ (n+3)->Gw δ Y->pv σ' Y δ.length Γ d l e->Ω):Ω:=by
 refine jN I (Gx G) δ (m:=5) O9 λy t hy E J C=>?_
 have E:=E (K+5)
 refine b6 (σ.S t) λs i7=>?_
 rw[<-i7] at E J C
 have O:∀μ,dE μ .c (.c 6) (.c (d:Int))=some (.c ((6*d:Nat):Int),μ):=λμ=>by
  rw[nA (by decide)];rfl
 have Q:∀μ,dE μ .a (.c 2) (.c ((6*d:Nat):Int))=some (.c ((2+6*d:Nat):Int),μ):=λμ=>by
  show some (MV.c ((2:Int)+((6*d:Nat):Int)),μ)=_
  rw[show(2:Int)+((6*d:Nat):Int)=((2+6*d:Nat):Int) from rfl]
 have F:∀μ,dE μ .a (.c ((2+6*d:Nat):Int)) (.c (y:Int))=some (.c ((b0 d (y+1):Nat):Int),μ):=λμ=>by
  show some (MV.c (((2+6*d:Nat):Int)+(y:Int)),μ)=_
  rw[show((2+6*d:Nat):Int)+(y:Int)=((b0 d (y+1):Nat):Int) from by simp only[b0];exact(congrArg nG (aQ (bN [_,_] (2+(V0.M 6 V0.A)+V0.B) (V0.M 6 V0.A+(V0.B+1)+1) .z rfl) (bN [_,_] (V0.M 6 V0.A+(V0.B+1)+1) (2+(V0.M 6 V0.A)+V0.B) .z rfl)))]
 have B:=vB (l:=l) s.R dP cQ
 have hy:=nx (b7 _) λh=>nx h λh=>nx h λh=>nx h λh=>aQ (fz hy) h
 refine b6 (b0 d (y+1)) λW L=>?_
 replace F:=L.symm▸F
 obtain⟨owk,u⟩:∃z:Nat,z=kd 0 l:=⟨_,rfl⟩
 rcases hy with rfl|rfl|rfl|rfl|rfl
 ·refine P s (ar δ (.a [])) ⟨0,18,W,.e [.c (kd 0 l:Nat)],[],δ.length⟩ ?_ J (C.q XZ) (Gw.d _ _) ⟨1,2,66,.e [],(by decide),(by decide),L,adm _,.e C.a.A _,rfl,h9 _ _ _ rfl,aC _,.inl ⟨.inl rfl,rfl⟩⟩
  exact u▸(bu [(1,ow E),(2,ow (O (HS s δ))),(3,ow (Q (HS s δ))),(4,ow (F (HS s δ)))] ⋯)
 ·refine xM (c:= .e 67) C (GL G) (by constructor) B λR' j p hj T H=>?_
  refine P (s.r R') (ar δ (.a [])) ⟨0,j+20,W,.e [],[],δ.length⟩ ?_ (J.f T) (H.q PF) (Gw.d _ _) ⟨2,2,67,_,(by decide),PS,L,vJ hj PJ PI,.b _,rfl,h9 _ _ _ rfl,aC _,.inl ⟨.inr rfl,rfl⟩⟩
  rw[<-u] at p⊢
  have p:=p K δ
  exact bu [(1,ow E),(2,ow (O (HS s δ))),(3,ow (Q (HS s δ))),(4,ow (F (HS s δ))),(14,ow p)] ⋯
 ·refine xM (c:= .e 67) C (GL G) (by constructor) B λR' j p hj T H=>?_
  refine zS (k:=j+20) (sl:=[]) (δ:=δ) H (PH G) (by simp) λU D o x V N w3 Z w X=>?_
  refine P U (ar D (.a [.e [.c 4,.c (s.r R').h]])) ⟨(s.r R').h,j+20,W,.e [],[.e [.c 4,.c (s.r R').h]],D.length⟩ ?_ ((J.f T).f V) (N.q PG) (w3.e (Gw.d _ _)) ⟨3,2,67,_,(by decide),(by decide),L,X▸(vJ hj PJ PI),.b _,rfl,h9 _ _ _ rfl,w3.1,.inr (.inl ⟨.inl rfl,rfl,H.j.a,rfl⟩)⟩
  rw[<-u] at p⊢
  have p:=p K δ
  have x:=x (K+3)
  exact bu [(1,ow E),(2,ow (O (HS s δ))),(3,ow (Q (HS s δ))),(4,ow (F (HS s δ))),(16,ow p),(19,ow x),(20,ov w)] ⋯
 ·refine xM (c:= .g) C (GL G) (by constructor) B λR' j p hj T H=>?_
  refine zS (k:=j+20) (sl:=[.e [.c 5,.c ((j+20:Nat):Int),.e []]]) (δ:=δ) H (PH G) (by simp) λU D o x V N w3 Z w X=>?_
  refine P U (ar D (.a [.e [.c 6,.e [.c 3,.c ((s.r R').h+2),.e []]]])) ⟨(s.r R').h,j+20,W,.e [],[.e [.c 6,.e [.c 3,.c ((s.r R').h+2),.e []]]],D.length⟩ ?_ ((J.f T).f V) (N.q PG) (w3.e (Gw.d _ _)) ⟨4,3,68,_,(by decide),(by decide),L,X▸(Vz hj),.b _,rfl,h9 _ _ _ rfl,w3.1,.inr (.inr ⟨rfl,rfl,H.j.a,⟨_,Z.f (Gw.d _ _)⟩,rfl⟩)⟩
  rw[<-u] at p⊢
  have x:=x (K+3)
  exact bu [(1,ow E),(2,ow (O (HS s δ))),(3,ow (Q (HS s δ))),(4,ow (F (HS s δ))),(18,ow (p K δ)),(23,ow x),(24,ov w)] ⋯
 ·refine zS (k:=18) (sl:=[]) (δ:=δ) C (Gv G) (by simp) λU D o x V N w3 Z w X=>?_
  refine P U (ar D (.a [.e [.c 4,.c s.h]])) ⟨s.h,18,W,.e [.c (kd 0 l:Nat)],[.e [.c 4,.c s.h]],D.length⟩ ?_ (J.f V) (N.q PF) (w3.e (Gw.d _ _)) ⟨5,2,66,.e [],(by decide),Pl,L,adm _,.e N.a.A _,rfl,h9 _ _ _ rfl,w3.1,.inr (.inl ⟨.inr rfl,rfl,C.j.a,rfl⟩)⟩
  exact u▸(bu [(1,ow E),(2,ow (O (HS s δ))),(3,ow (Q (HS s δ))),(4,ow (F (HS s δ))),(17,ow (x (K+3))),(18,ov w)] ⋯)
end
end
section
noncomputable def uM(r s:Nat):Nat->Prop:=λi=>i=r\/i=s
theorem Fz.p(a:List MO)(r s:Nat)(o:MO):Fz (uM r s) a (a.set r o):=Fz.y o (.inl rfl)
theorem Fz.u(a:List MO)(r s:Nat)(o:MO):Fz (uM r s) a (a.set s o):=Fz.y o (.inr rfl)
theorem ri.a{S:Nat->Prop}(h:∀i,S i->i<b):ri S δ b:=λi e=> .inl (h i e)
section
variable{K n t b c d i l fi v stk dk r s:Nat}{σ:St}{δ:List MO}{Γ:Cf}
theorem Ba(σ:St){l:List MV}{v:MV}(h:δ[i]?=some (.a (ar l v)))(f:l.length<=100):ez (HS σ δ) (.d (i+182)) (.c (-1))=some v:=by
 have e:=PN f
 delta ez;refine(UG (by rw[df];exact h)).trans ((Rl _).trans ?_)
 unfold zT
 rw[if_neg PO,aB,j1 (XR f e),e]
 exact aZ _ _
theorem pv.o(h:pv σ δ b Γ d l e)(g:c<=b):pv σ δ c Γ d l e:=by
 obtain⟨i,s,t,f,E⟩:=h
 refine⟨i,s,t,f,E.z,E.m,E.j,E.a,E.o,E.w,E.y,aD g E.q,?_⟩
 rcases E.p with h|h|⟨h1,h2,h3,⟨sl,h4⟩,h5⟩
 ·exact .inl h
 ·exact .inr (.inl h)
 ·exact .inr (.inr ⟨h1,h2,h3,⟨sl,h4.e g⟩,h5⟩)
structure MI (oK:St) (jE:List MO) (Γ:Cf) (n d l dk r s k:Nat) (σ:St) (δ:List MO) (es:List (Int×En)):Prop where
 o:es.length=k
 g:Up oK σ
 m:Inv σ Γ (n+6*k)
 j:Fz (uM r s) jE δ
 e:δ[r]?=some (.a (es.map λp=>p.2.c))
 f:δ[s]?=some (.a (es.map λp=> .c p.1))
 a:∀p∈es,ik σ δ jE.length p.1 dk p.2.p/\pv σ δ jE.length Γ d l p.2
noncomputable abbrev mdB:List MS:=[.m (.E (.q .i (.d 182) (.g (.c 0))) (.q .a (.j 1270 [.d 250,.g (.c 4)]) (.g (.c 3)))) [.d (.n (.d 4) 0 [.h (.d 4) (.A (.g (.c 1)))]),.d (.n (.d 273) 0 [.h (.d 273) (.A (.g (.c 1)))])] [.d (.n (.d 4) 0 [.j 1303 [.d 103,.d 250,.d 263,.d 253]]),.d (.n (.d 273) 0 [.j 1040 [.d 103,.d 62,.h (.h (.d 4) (.A (.g (.c 1)))) (.g (.c 0)),.h (.h (.d 4) (.A (.g (.c 1)))) (.g (.c 1))]])]]
noncomputable abbrev WK(d l dk r s:Nat)(t:Nat)(k:Nat):Loc:=[(103,.d 148),(250,.d 8),(263,.c (d:Int)),(272,.j [l] t),(253,.c (kd 0 l:Nat)),(62,.c (dk:Int)),(4,.d (r+182)),(273,.d (s+182)),(182,.c (k:Int))]
theorem yb{Ω:Prop}(M:MI oK jE Γ n d l dk r s k σ δ es)(W:k<5)(Y:n<=50000)(hd:d<2)(dP:bB l=true)(cQ:l≠84)(hh:oK.u=[])(hr:kL oK.R d l dk)(vX:r≠s)(hb:r<jE.length/\s<jE.length)(V:Up σ dA)(I1:Inv dA Γ (n+6*k+1))(bG:∀w x H C e,(au Tb (K+12) 1303 [.d 148,.d 8,.c (d:Int),.c (kd 0 l:Nat)] (HS dA δ)=some (En.c e,HS w x))->(au Tb (K+12) 1040 [.d 148,.c (dk:Int),.c e.f,e.a] (HS w (x.set r (.a (ar (es.map λp=>p.2.c) e.c))))=some (.c w.h,HS H C))->(x[r]?=some (.a (es.map λp=>p.2.c)))->((x.set r (.a (ar (es.map λp=>p.2.c) e.c)))[s]?=some (.a (es.map λp=> .c p.1)))->(C[s]?=some (.a (es.map λp=> .c p.1)))->(MI oK jE Γ n d l dk r s (k+1) H (C.set s (.a (ar (es.map λp=> .c p.1) (.c w.h)))) (ar es (w.h,e)))->Ω):Ω:=by
 have m:=M.o
 have ld:=M.j.1
 refine acf (K:=K+5) (δ:=δ) I1 (XQ W Y m) hd dP cQ λw x e c1 U I2 P E2=>?_
 have N:=P.2 _ _ M.e
 refine b6 (x.set r (.a (ar (es.map λp=>p.2.c) e.c))) λF B=>?_
 have D:=iH ((M.g.f V).f U).j hr
 refine E9 (δ:=F) I2.j (XO W Y m) (by have:=I2.r;exact XN W Y m this) (U.r▸V.r▸M.g.r▸hh) D.a D.b e.f e.a λH C c2 O w3 H3 a3 R3 Z=>?_
 have I3:=I2.Q O R3 a3 H3 (bc _ _)
 have z:=B▸(jf _ _ vX (P.2 _ _ M.f))
 have E:=w3.2 _ _ z
 refine b6 (C.set s (.a (ar (es.map λp=> .c p.1) (.c w.h)))) λiw G=>?_
 have I:Fz (uM r s) x iw:=by
  rw[G];exact((by rw[B];exact Fz.p _ _ _ _:Fz (uM r s) x F).k w3.f).k (Fz.u _ _ _ _)
 have A:=P.f.k I
 have hS:ri (uM r s) δ jE.length:=ri.a λi L=>fJ L (λrfl=>Hc hb rfl) λrfl=>Hb hb rfl
 have T:=(V.f U).f O
 refine bG w x H C e c1 (B▸(c2 (K+3))) N (B▸z) E ?_
 refine G▸(⟨by rw[aB];exact(by rw[m]),M.g.f T,I3.q (cN _),M.j.k A,?_,?_,λp X=>?_⟩)
 ·exact G▸(show(ar es (w.h,e)).map (λp=>p.2.c)=ar (es.map λp=>p.2.c) e.c from by unfold ar;simp)▸(jf _ _ (cH vX) (w3.2 _ _ (B▸(mX _ N))))
 ·exact G▸(show(ar es (w.h,e)).map (λp=>MV.c p.1)=ar (es.map λp=> .c p.1) (.c w.h) from by unfold ar;simp)▸(mX _ E)
 ·have X:=X
  rcases cZ.mp X with h|h
  ·exact⟨(M.a p h).1.d T.y A hS,(M.a p h).2.j T.y T.j A hS⟩
  ·simp only[cw,iM,or_false] at h
   refine fI h ?_
   refine⟨?_,?_⟩
   ·have Z:=Z.e (c:=δ.length) (by rw[B];simp;exact P.1)
    exact(Z.d (S:=uM r s) (σ':=H) (λJ J h=>h) (G▸(Fz.u _ _ _ _)) (ri.a λi L=>fJ L (λrfl=>G9 hb ld rfl) λrfl=>G8 hb ld rfl)).e ld
   ·exact(E2.j O.y O.j I (ri.a λi L=>fJ L (λrfl=>G9 hb ld rfl) λrfl=>G8 hb ld rfl)).o ld
end
end
section
section
variable{K n t b c d i l fi v stk dk r s:Nat}{σ:St}{δ:List MO}{Γ:Cf}
theorem zB{x y:Nat}{c:Bool}(h:decide (y<x)=c)(μ:Hp):ct μ .i (.c (x:Int)) (.c (y:Int))=some c:=h▸(congrArg some (by rw[decide_eq_decide];exact Pn))
theorem Dh{a:Type}{l:List a}(h:l≠[]):∃q p,l=ar q p:=⟨l.dropLast,l.getLast h,(List.dropLast_concat_getLast h).symm⟩
theorem EN{W:St}{U:List MO}{k:Nat}{G:List (Int×En)}(M:MI W U Γ n d l dk r s k σ δ G)(D:k<5)(hn:n<=50000)(hd:d<2)(dP:bB l=true)(cQ:l≠84)(hh:W.u=[])(hr:kL W.R d l dk)(vX:r≠s)(hb:r<U.length/\s<U.length){Ω:Prop}(ω:∀σ' aX K3,aY Tb (au Tb (K+12)) (K+12) mdB (WK d l dk r s t k) (HS σ δ)=some (.a,WK d l dk r s t k,HS σ' aX)->MI W U Γ n d l dk r s (k+1) σ' aX K3->Ω):Ω:=by
 have w:=M.o
 obtain⟨ow1,P⟩:∃z:Nat,z=kd 0 l:=⟨_,rfl⟩
 have Y:eI (G.map λp=>p.2.c).length bz=true:=bw (by simp;unfold bz;exact PU D w)
 have Z:eI (G.map λp=>MV.c p.1).length bz=true:=bw (by simp;unfold bz;exact PU D w)
 by_cases V:k=0
 ·refine yb (K:=K) M D hn hd dP cQ hh hr vX hb (Up.q _) (M.m.q (bc _ _)) λE N dI h_ e L h2 Q s2 h4 M'=>?_
  refine ω _ _ _ ?_ M'
  have H:=zB (x:=k) (y:=0) (decide_eq_false (X3 w V))
  have a3:=λcl=>kj cl E Q e.c Y
  have T:=λcl=>kj cl dI h4 (.c E.h) Z
  have x3:=Ba E (mX _ Q:(N.set r (.a (ar (G.map λp=>p.2.c) e.c)))[r]?=some (.a (ar (G.map λp=>p.2.c) e.c))) (by simp;exact(bN [_,_] V0.A 100 (.e V0.A V0.B (.e V0.B 0 .z)) rfl w V))
  have r0:=M.e
  have s0:=M.f
  unfold WK
  rw[<-P] at L⊢
  exact eD [(0,oq (H (HS σ δ))),(3,oc (jB σ r0)),(4,ow L),(5,ow (a3 (au Tb (K+12)))),(6,oc (jB E s2)),(7,ov x3),(9,ov x3),(11,ow h2),(12,ow (T (au Tb (K+12))))] ⋯
 ·have H:=zB (x:=k) (y:=0) (decide_eq_true (X2 D w V))
  refine jN M.m (X1 D hn w) δ (m:=4) GO λy t1 hy O I I1=>?_
  have O:=O (K+11)
  by_cases Q:y=3
  ·subst Q
   refine Ei (Dh (l:=G) (by intro e;rw[e] at w;simp at w;exact((bL V).elim (λH=>bZ [_] (.o (V0.A+1) 0 .z) rfl H) λH=>bZ [_] (.f V0.A 0 (.o (0+1) V0.A .z)) rfl w H))) λq p z0=>?_
   subst z0
   rw[show(ar q p).map (λp=>p.2.c)=ar (q.map λp=>p.2.c) p.2.c from by unfold ar;simp] at Y
   rw[show(ar q p).map (λp=>MV.c p.1)=ar (q.map λp=> .c p.1) (.c p.1) from by unfold ar;simp] at Z
   have r0:=M.e
   have s0:=M.f
   rw[show(ar q p).map (λp=>p.2.c)=ar (q.map λp=>p.2.c) p.2.c from by unfold ar;simp] at r0
   rw[show(ar q p).map (λp=>MV.c p.1)=ar (q.map λp=> .c p.1) (.c p.1) from by unfold ar;simp] at s0
   rw[aB] at w
   refine b6 (σ.S t1) λC i7=>?_
   rw[<-i7] at O I I1
   have x3:=Ba C r0 (by simp;exact PT D w)
   have a3:=λcl=>kj cl C r0 p.2.c Y
   refine b6 (δ.set r (.a (ar (ar (q.map λp=>p.2.c) p.2.c) p.2.c))) λdN ej=>?_
   replace a3:=ej.symm▸a3
   have s1:=ej▸(jf _ _ vX s0)
   have T:=λcl=>kj cl C s1 (.c p.1) Z
   refine b6 (dN.set s (.a (ar (ar (q.map λp=> .c p.1) (.c p.1)) (.c p.1)))) λN X=>?_
   replace T:=X.symm▸T
   have F:Fz (uM r s) δ N:=by
    rw[X];exact(by rw[ej];exact Fz.p _ _ _ _:Fz (uM r s) δ dN).k (Fz.u _ _ _ _)
   have hS:ri (uM r s) δ U.length:=ri.a λi hi=>fJ hi (λrfl=>Hc hb rfl) λrfl=>Hb hb rfl
   refine ω C N (ar (ar q p) p) ?_ ⟨by rw[aB,aB];exact(by rw[w]),M.g.f I,I1.q (bN [_,_] (V0.A+(V0.M 6 V0.B)+1) (V0.A+(V0.M 6 (V0.B+1))) .z rfl),M.j.k F,?_,?_,λp' J=>?_⟩
   ·exact eD [(0,oq (H (HS σ δ))),(2,ow O),(5,oc (jB C r0)),(6,ov x3),(7,ow (a3 (au Tb (K+12)))),(8,oc (jB C s1)),(9,ov (Ba C s1 (by simp;exact PT D w))),(10,ow (T (au Tb (K+12))))] ⋯
   ·exact X▸(show(ar (ar q p) p).map (λp=>p.2.c)=ar (ar (q.map λp=>p.2.c) p.2.c) p.2.c from by unfold ar;simp)▸(jf _ _ (cH vX) (ej▸(mX _ r0)))
   ·exact X▸(show(ar (ar q p) p).map (λp=>MV.c p.1)=ar (ar (q.map λp=> .c p.1) (.c p.1)) (.c p.1) from by unfold ar;simp)▸(mX _ s1)
   ·have J:p'∈ar q p:=by
     have J:=J
     rcases cZ.mp J with h|h
     ·exact h
     ·simp only[cw,iM,or_false] at h
      refine rI h ?_;unfold ar;simp
    exact⟨(M.a p' J).1.d I.y F hS,(M.a p' J).2.j I.y I.j F hS⟩
  ·refine yb (K:=K) M D hn hd dP cQ hh hr vX hb I I1 λE N dI h_ e L h2 vV s2 h4 M'=>?_
   refine ω _ _ _ ?_ M'
   have x3:=Ba E (mX _ vV:(N.set r (.a (ar (G.map λp=>p.2.c) e.c)))[r]?=some (.a (ar (G.map λp=>p.2.c) e.c))) (by simp;exact(bN [_,_] V0.B 100 (.o (V0.A+1) 5 (.e V0.B V0.A .z)) rfl D w))
   have s0:=M.f
   refine b6 (σ.S t1) λC i7=>?_
   rw[<-i7] at O L
   unfold WK
   rw[<-P] at L⊢
   exact eD [(0,oq (H (HS σ δ))),(2,ow O),(3,oq ((n_ (m:=y) (c:=3) Q) (HS C δ))),(5,oc (jB C M.e)),(6,ow L),(7,ow ((λcl=>kj cl E vV e.c Y) (au Tb (K+12)))),(8,oc (jB E s2)),(9,ov x3),(11,ov x3),(13,ow h2),(14,ow ((λcl=>kj cl dI h4 (.c E.h) Z) (au Tb (K+12))))] ⋯
end
end
section
section
variable{K n t b c d i l fi v stk dk r s:Nat}{σ:St}{δ:List MO}{Γ:Cf}{ad:Int}{es:List (Int×En)}
theorem Vp(σ:St)(δ:List MO)(f:bB l=true)(e:l≠84)(t:Nat):ez (HS σ δ) (.d 79) (.j [l] t)=some (.c (kd 0 l:Nat)):=by
 have a:rK l=true:=by unfold rK;rw[f];rfl
 delta ez;exact(Mw ⋯).trans ((j1 (pP (v:=0) a e).1).trans (pP (v:=0) a e).2)
theorem TZ(a:d<2):iO (.e (64+d)):=by
 have a:=m6 a
 rcases a with rfl|rfl
 ·exact .d
 ·exact .e
theorem EM{D:Prop}(I:Inv σ Γ n)(L:n<=40000)(hd:d<2)(Y:bB l=true)(cQ:l≠84)(hh:σ.u=[])(W:kL σ.R d l dk)(N:δ[r]?=some (.a []))(G:δ[s]?=some (.a []))(Z:r≠s)(Q:∀ρ' w σ' o y es,(y<5)->(ρ'=[(103,.d 148),(250,.d 8),(263,.c (d:Int)),(272,.j [l] t),(253,.c (kd 0 l:Nat)),(62,.c (dk:Int)),(4,.d (r+182)),(273,.d (s+182))]\/∃x,ρ'=[(103,.d 148),(250,.d 8),(263,.c (d:Int)),(272,.j [l] t),(253,.c (kd 0 l:Nat)),(62,.c (dk:Int)),(4,.d (r+182)),(273,.d (s+182)),(182,x)])->(bQ Tb (au Tb (K+12)) (K+12) (fF abE 4) [(103,.d 148),(250,.d 8),(263,.c (d:Int)),(272,.j [l] t),(253,.c (kd 0 l:Nat)),(62,.c (dk:Int)),(4,.d (r+182)),(273,.d (s+182))] (HS σ δ)=some (.a,ρ',HS σ' o))->(Up σ w)->(MI w δ Γ (n+1) d l dk r s (y+1) σ' o es)->D):D:=by
 refine jN I (eK L) δ (m:=5) O9 λy X E A z H=>?_
 have A:=A (K+11)
 refine b6 (σ.S X) λw F=>?_
 rw[<-F] at A z H
 have q:∀μ,dE μ .a (.c 1) (.c (y:Int))=some (.c ((y+1:Nat):Int),μ):=λμ=>by
  show some (MV.c ((1:Int)+(y:Int)),μ)=_
  rw[show(1:Int)+(y:Int)=((y+1:Nat):Int) from AQ]
 refine pJ (T:=Tb) (cl:=au Tb (K+12)) (fuel:=K+12) (n:=y+1) (t:= .b 182) (e:= .r .a (.g (.c 1)) (.j 1270 [.d 250,.g (.c 5)])) (b:=mdB)
  (ρ:=[(103,.d 148),(250,.d 8),(263,.c (d:Int)),(272,.j [l] t),(253,.c (kd 0 l:Nat)),(62,.c (dk:Int)),(4,.d (r+182)),(273,.d (s+182))]) (μ:=HS σ δ) (bC:=HS w δ)
  (λk ρ μ=>(ρ=[(103,.d 148),(250,.d 8),(263,.c (d:Int)),(272,.j [l] t),(253,.c (kd 0 l:Nat)),(62,.c (dk:Int)),(4,.d (r+182)),(273,.d (s+182))]\/∃x,ρ=[(103,.d 148),(250,.d 8),(263,.c (d:Int)),(272,.j [l] t),(253,.c (kd 0 l:Nat)),(62,.c (dk:Int)),(4,.d (r+182)),(273,.d (s+182)),(182,x)])/\∃σ' o es,μ=HS σ' o/\MI w δ Γ (n+1) d l dk r s k σ' o es)
  (n9 [(0,ow A),(1,ow (q (HS w δ)))] ⋯) (eK E) ⟨.inl rfl,w,δ,[],rfl,⟨rfl,Up.q _,H,(Gw.p _).f,N,G,λJ h=>by cases h⟩⟩
  (λk ρ μ D V p U=>by
   obtain⟨p1,σ',o,es,rfl,M⟩:=p
   refine EN (K:=K) (t:=t) M (aD V (eK E)) (ry L) hd Y cQ (z.r▸hh) (iH z.j W) Z (⟨cJ N,cJ G⟩) λP O B h M2=>?_
   refine U (WK d l dk r s t k) (HS σ' o) (WK d l dk r s t k) (HS P O) ?_ h ⟨.inr ⟨_,rfl⟩,P,O,B,rfl,M2⟩
   rcases p1 with rfl|⟨x,rfl⟩<;>rfl) λρ' aG e C=>?_
 obtain⟨p1,σ',o,es,rfl,M⟩:=C
 exact Q ρ' w σ' o y es E p1 e z M
theorem v_{Ω:Prop}(I:Inv σ Γ n)(S:n<=30000)(T:d<2)(Q:bB l=true)(X:l≠84)(hh:σ.u=[])(t:Nat)(Z:∀σ' B dk ad es rw,(au Tb (K+13) 1310 [.d 148,.d 8,.c (d:Int),.j [l] t] (HS σ δ)=some (.e [.c ((dk:Nat):Int),.c ad,.d (rw+182)],HS σ' B))->(Up σ σ')->(Inv σ' Γ (n+36))->(Gw δ B)->(qk σ' B δ.length Γ d l dk ad es)->(B[rw]?=some (.a (es.map λp=>p.2.c)))->(δ.length<=rw)->Ω):Ω:=by
 have k1:=Vp σ δ Q X t
 have H:∀μ,dE μ .a (.c 64) (.c (d:Int))=some (.c ((64+d:Nat):Int),μ):=λμ=>by
  show some (MV.c ((64:Int)+(d:Int)),μ)=_
  rw[show(64:Int)+(d:Int)=((64+d:Nat):Int) from rfl]
 refine xM (c:= .e (64+d)) I (eK S) (TZ T) (vB (l:=l) σ.R Q X) λR' j p hj u1 I1=>?_
 have p:=p (K+6) δ
 have hr:=vJ hj (bc _ _) (bN [_] (64+V0.A) 68 (.o (V0.A+1) 2 .z) rfl T)
 refine b6 (ar (ar δ (.a [])) (.a [])) λKL L=>?_
 have P:=L▸((Gw.d _ _).e (Gw.d _ _))
 refine EM (K:=K) (t:=t) (σ:=σ.r R') (δ:=KL) (r:=δ.length) (s:=(ar δ (.a [])).length) I1 (ry S) T Q X hh hr (L▸(fU _ (h9 _ _ _ rfl))) (L▸(h9 _ _ _ rfl)) (by rw[aB];exact xl) λρ' oK σ' B y es D i_ e u2 M=>?_
 rw[L] at e
 have U:=(u1.f u2).f M.g
 have G:=P.1
 have N:Gw δ B:=⟨aD P.1 M.j.1,λi v h=>M.j.2 _ _ (λq=>by have:=cJ h;rcases q with q|q<;>(try rw[aB] at q)<;>first|exact xn this q|exact S5 this q) (P.2 _ _ h)⟩
 have O:=iH (u2.f M.g).j hr
 have I':=M.m
 have k:=M.o
 by_cases E:y=0
 ·subst E
  obtain⟨w,rfl⟩:∃w,es=[w]:=Du.mp k
  have gr:=M.e
  have gs:=M.f
  refine Z σ' B (j+20) w.1 ([w]) δ.length ?_ U (I'.q XY) N ⟨O,λq hq=>⟨(M.a q hq).1.e G,(M.a q hq).2.o G⟩,by simp,by simp,.inl ⟨w,rfl,rfl⟩⟩ M.e (aC _)
  rcases i_ with rfl|⟨x,rfl⟩
  ·exact bu [(1,ov k1),(4,ow (H (HS σ δ))),(7,ow p),(10,os e),(10,ov (sO σ' gr ⋯)),(13,ov (hK σ' gs 0 (MV.c w.fst) ⋯))] ⋯
  ·exact bu [(1,ov k1),(4,ow (H (HS σ δ))),(7,ow p),(10,os e),(10,ov (sO σ' gr ⋯)),(13,ov (hK σ' gs 0 (MV.c w.fst) ⋯))] ⋯
 ·refine Ei (Dh (l:=es) (by intro e;rw[e] at k;simp at k)) λq w W=>?_
  have hm:es.map (λp=>MV.c p.1)=ar (q.map λp=> .c p.1) (.c w.1):=by rw[W];unfold ar;simp
  have V:w∈es:=by rw[W];unfold ar;simp
  have C:q.length=y:=by have:=k;rw[W,aB] at this;exact XX k this
  refine Nn (K:=K) (δ:=B) (q:=(ar δ (.a [])).length) (l:=es.map λp=> .c p.1) (la:=w.1) I' (U.r▸hh) (XW S D k C) O.a O.b M.f (by rw[ay];exact PQ D k C) (by rw[ay];exact PR D k C) (by rw[hm,aB];exact aZ _ _) (M.a w V).1 λdR dq ca ra jk c1 F w3 I3 T1 T2 h0=>?_
  rw[nX] at T2
  have Y:=hJ σ' M.e (by rw[ay];exact(k▸(eK D)))
  rw[ay,k] at Y
  have n1:=n_ (m:=y+1) (c:=1) (XU k E C)
  refine Z dR dq (j+20) ca es δ.length ?_ (U.f F) (I3.q (XT D k C)) (N.e w3) ⟨iH F.j O,λz hz=>?_,PR D k C,PQ D k C,.inr ⟨X4 D k E C,_,_,ra,jk,T1.e N.1,h0,T2.e N.1⟩⟩ (w3.2 _ _ M.e) (aC _)
  ·rcases i_ with rfl|⟨x,rfl⟩
   ·exact bu [(1,ov k1),(4,ow (H (HS σ δ))),(7,ow p),(10,os e),(10,ov Y),(11,oq (n1 (HS σ' B))),(13,ow c1)] ⋯
   ·exact bu [(1,ov k1),(4,ow (H (HS σ δ))),(7,ow p),(10,os e),(10,ov Y),(11,oq (n1 (HS σ' B))),(13,ow c1)] ⋯
  ·have hS:ri (λJ=>False) B KL.length:=λJ h=>h.elim
   exact⟨((M.a z hz).1.d F.y w3.f hS).e G,((M.a z hz).2.j F.y F.j w3.f hS).o G⟩
end
end
section
section
variable{T:Tab}{cl:Call}{fuel n x y:Nat}{src elt:ME}{ρ:Loc}{μ bC aG:Hp}{l xs:List MV}
theorem pC(e:aO T cl src ρ μ=some (.d n,bC))(f:bC[n]?=some (.a l))(g:l.length<=1000)(hm:uk (λi μ=>aO T cl elt ((x,i)::ρ) μ) n l l bC=some (xs,aG)):aO T cl (.s x false src elt) ρ μ=some (.d aG.length,aG++[.a xs]):=(j7 e).trans ((v9 f).trans ((j1 (rj g)).trans (j7 hm)))
theorem Q1{k:Nat}(e:aO T cl src ρ μ=some (.c (k:Int),bC))(f:k<=1000)(hm:yc (λi μ=>aO T cl elt ((x,i)::ρ) μ) ((fO k).map λ(j:Nat)=>MV.c j) bC=some (xs,aG)):aO T cl (.s x true src elt) ρ μ=some (.d aG.length,aG++[.a xs]):=(j7 e).trans ((j1 (AK f)).trans (j7 hm))
theorem lY(h:aO T cl src ρ μ=some (v,aG)):bQ T cl fuel (.f (.b y) src) ρ μ=some (.a,bp ρ y v,aG):=j7 h
end
section
variable{K n t b c d i l fi v stk dk r s:Nat}{σ:St}{δ:List MO}{Γ:Cf}{ad x num ip sort ex:Int}{aV bd args:MV}
theorem yo{u:CT}(m:l≠84)(k:0<t/\t<2455):vf Tb 84 u.d (.j [l] t)=some (u.e l).d:=by
 have z:=k.2
 have p:([84]:List Nat)≠[l]:=λe=>by cases e;exact m rfl
 have f:∀(s:List Nat),s.length<=1000->vf Tb 84 (.g s) (.j [l] t)=some (.g (jD 84 [l] s)):=λs w=>by
  exact j1 ⟨w,by simp,p,k.1,z⟩
 have h:∀(c:Nat),jD 84 [l] [c]=[if aR c 84 then l else c]:=λc=>by
  show(if c=84 then[l]++[] else c::[])=_
  by_cases e:c=84
  ·subst e;rfl
  ·rw[if_neg e]
   have:aR c 84=false:=by cases q:aR c 84 with|false=>rfl|true=>exact absurd (aK q) e
   refine this▸?_;rfl
 have two:∀(a c:Nat),a≠84->jD 84 [l] [a,c]=[a,if aR c 84 then l else c]:=λa c o=>by
  show(if a=84 then[l]++jD 84 [l] [c] else a::jD 84 [l] [c])=_
  rw[if_neg o,h]
 cases u with
 |b c=>rw[show CT.d (.b c)= .g [c] from rfl,f _ (by simp),h];rfl
 |r c=>rw[show CT.d (.r c)= .g [114,c] from rfl,f _ (by simp),two 114 c (by decide)];rfl
 |q c=>rw[show CT.d (.q c)= .g [113,c] from rfl,f _ (by simp),two 113 c (by decide)];rfl
theorem Fh{q:Nat}{ts:List CT}(h:l≠84)(A:0<t/\t<2455){ρ:Loc}{cl:Call}(B:bx ρ 272=some (.j [l] t))(m:(HS σ δ)[q]?=some (.a (ts.map CT.d))):
  uk (λi μ=>aO Tb cl (.w (.d 252) 84 (.d 272)) ((252,i)::ρ) μ) q (ts.map CT.d) (ts.map CT.d) (HS σ δ)=some (ts.map λu=>(u.e l).d,HS σ δ):=by
 refine nq (f:=λi μ=>aO Tb cl (.w (.d 252) 84 (.d 272)) ((252,i)::ρ) μ) (n:=q) (all:=ts.map CT.d) (λk μ z=>μ=HS σ δ/\z=(ts.take k).map λu=>(u.e l).d) (λk μ z p=>p.1▸m)
  (λk v μ z C g p o=>by
   obtain⟨rfl,rfl⟩:=p
   replace g:=aL▸g
   cases hk:ts[k]? with
   |none=>rw[hk] at g;cases g
   |some u=>
    replace g:=hk▸g
    have g:=g
    cases g
    refine o ((u.e l).d) (HS σ δ) ?_ ⟨rfl,by rw[f6,hk];simp[ar]⟩
    exact(j7 rfl).trans ((j7 (mI B:aO Tb cl (.d 272) ((252,u.d)::ρ) (HS σ δ)=some (.j [l] t,HS σ δ))).trans (mI (yo h A))))
  (ts.map CT.d) 0 (HS σ δ) [] rfl ⟨rfl,rfl⟩ λxs aG e p=>?_
 obtain⟨p1,p2⟩:=p
 rw[cP,ay,eC,i9] at p2
 rw[e,p1,p2]
end
end
section
section
variable{K n t b c d i l fi v stk dk r s:Nat}{σ:St}{δ:List MO}{Γ:Cf}{ad x num ip sort ex:Int}{aV bd args:MV}
theorem Nk{u:CT}:(u.e l).f=if aR u.f 84 then l else u.f:=by cases u<;>rfl
theorem Aj{u:CT}(h:bB u.f=true)(a:bB l=true)(g:l≠84):bB (u.e l).f=true/\(u.e l).f≠84:=by
 refine Nk▸(⟨?_,wC g⟩)
 cases e:aR u.f 84 with
 |true=>exact a
 |false=>exact h
theorem lP{a:Type}{l:List a}{k:Nat}{v:a}(h:l[k]?=some v):l.take (k+1)=ar (l.take k) v:=by
 rw[f6,h];simp[ar]
theorem fC.y{R x:List Row}{ts:List CT}{vs ws:List MV}{u:CT}{a w:MV}(h:fC R ts vs ws)(g:Ln (R++x) u a w):fC (R++x) (ar ts u) (ar vs a) (ar ws w):=by
 refine⟨by rw[aB,aB,h.m],by rw[aB,aB,h.k],λj q f=>?_⟩
 by_cases hj:j<ts.length
 ·have A:ts[j]?=some q:=by
   have:(ts++[u])[j]?=some q:=f
   rw[aJ hj] at this;exact this
  refine dY (h.o j q A) λC G F E B=>?_
  refine⟨C,G,?_,?_,B.j⟩
  ·exact(aJ (by have:=h.m;exact GQ hj this))▸F
  ·exact(aJ (by have:=h.k;exact GQ hj this))▸E
 ·have D:(Mine.ar ts u).length=ts.length+1:=aB ..
  have:j<(Mine.ar ts u).length:=(ax.mp f).1
  have e:=X8 hj D this
  subst e
  replace f:=(show(Mine.ar ts u)[ts.length]?=some u from aZ _ _)▸f
  refine j8 f ?_
  exact⟨a,w,h.m▸(aZ _ _),h.k▸(aZ _ _),g⟩
structure VI (oK:St) (jE:List MO) (Γ:Cf) (n fi:Nat) (L:List MV) (ts:List CT) (k:Nat) (σ:St) (δ:List MO) (vs ws:List MV):Prop where
 e:Up oK σ
 c:Inv σ Γ (n+2*k)
 a:Fz (ph (fi+1)) jE δ
 b:∃L',δ[fi+1]?=some (.a L')/\L'.length<=L.length+k
 d:fC σ.R (ts.take k) vs ws
theorem Kx{P:Prop}{q:Nat}{ts:List CT}{L:List MV}{ρ:Loc}(I:Inv σ Γ n)(Y:n<=70000)(H:ts.length<=3)(O:∀u∈ts,bB u.f=true/\u.f≠84)
  (i_:bx ρ 103=some (.d 148)/\bx ρ 250=some (.d 8)/\bx ρ 110=some (.d (fi+182)))
  (hf:δ[fi]?=some (gw fi num aV bd ip args stk sort ex)) (hL:δ[fi+1]?=some (.a L)) (uh:L.length<=800) (hq:δ[q]?=some (.a (ts.map CT.d))) (J:q≠fi+1) (bG:∀σ' E vs ws,(uk (λi μ=>aO Tb (au Tb (K+10)) (.j 1291 [.d 103,.d 250,.d 110,.d 252,.j 1270 [.d 250,.g (.c 999983)]]) ((252,i)::ρ) μ) (q+182) (ts.map CT.d) (ts.map CT.d) (HS σ δ)=some (vs,HS σ' E))->(VI σ δ Γ n fi L ts ts.length σ' E vs ws)->P):P:=by
 refine nq (f:=λi μ=>aO Tb (au Tb (K+10)) (.j 1291 [.d 103,.d 250,.d 110,.d 252,.j 1270 [.d 250,.g (.c 999983)]]) ((252,i)::ρ) μ) (n:=q+182) (all:=ts.map CT.d)
  (λk μ z=>∃σ' E ws,μ=HS σ' E/\VI σ δ Γ n fi L ts k σ' E z ws) (λk μ z p=>by
   refine LY p λσ' E ws z0 V=>?_
   refine fI z0 ?_
   rw[df];exact V.a.2 _ _ J hq)
  (λk v μ z P F p ω=>by
   refine LY p λσ' E ws z1 V=>?_
   subst z1
   replace F:=aL▸F
   cases hk:ts[k]? with
   |none=>rw[hk] at F;cases F
   |some u=>
    replace F:=hk▸F
    have F:=F
    cases F
    have N:=(ax.mp hk).1
    refine ir (O u (aU hk)) λh1 h2=>?_
    refine jN V.c (bN [_,_,_] (V0.A+(V0.M 2 V0.C)) 90000 (.o V0.A 70000 (.c 2 V0.B 3 (.c 2 (V0.C+1) V0.B .z))) rfl Y H N) E (m:=999983) PZ λy t1 Z dr T I1=>?_
    refine cf V.b λL1 G X=>?_
    refine Rp (K:=K) (x:=(y:Int)) (u:=u) I1 (bN [_,_,_] (V0.A+(V0.M 2 V0.C)+1) 80000 (.o V0.A 70000 (.c 2 V0.B 3 (.c 2 (V0.C+1) V0.B .z))) rfl Y H N) h1 h2 (PY Z) (PX Z) (V.a.2 _ _ (λe=>by have e:fi=fi+1:=e;exact GP e) hf) G (bN [_,_,_,_] V0.D 900 (.o V0.A 3 (.o V0.B 800 (.o (V0.C+1) V0.A (.o V0.D (V0.B+V0.C) .z)))) rfl H uh N X) λdR dq a w L2 c1 S I2 F2 Iw Ml R=>?_
    refine ω a (HS dR dq) ?_ ⟨dR,dq,Mine.ar ws w,rfl,V.e.f (T.f S),I2.q (aC _),V.a.k F2,⟨L2,Iw,bN [_,_,_,_] V0.D (V0.B+(V0.C+1)) (.o V0.A (V0.B+V0.C) (.o V0.D (V0.A+1) .z)) rfl X Ml⟩,?_⟩
    ·refine m7 i_ λq1 q2 q3=>?_
     have W:bx ((252,u.d)::ρ) 103=some (.d 148):=q1
     have Q:bx ((252,u.d)::ρ) 250=some (.d 8):=q2
     have r3:bx ((252,u.d)::ρ) 110=some (.d (fi+182)):=q3
     have U:bx ((252,u.d)::ρ) 252=some u.d:=rfl
     generalize ((252,u.d)::ρ)=bt at W Q r3 U
     exact(kR (bW (cI W _) (bW (cI Q _) (bW (cI r3 _) (bW (cI U _) (n8 ((kR (bW (cI Q _) (n8 (dn _ _)))).trans (dr (K+9))))))))).trans c1
    ·refine(lP hk)▸(dG ((T.f S).j) λx hx=>?_)
     rw[hx] at R⊢
     exact V.d.y R)
  (ts.map CT.d) 0 (HS σ δ) [] rfl ⟨σ,δ,[],rfl,Up.q _,I,(Gw.p _).f,⟨L,hL,W0⟩,⟨rfl,rfl,λj q h=>by simp at h⟩⟩ λxs aG e p=>?_
 refine LY p λσ' E ws z2 V=>?_
 subst z2
 rw[cP,ay,i9] at V
 exact bG σ' E xs ws e V
end
end
section
section
variable{K n t b c d i l fi v stk dk r s:Nat}{σ:St}{δ:List MO}{Γ:Cf}{ad x num ip sort ex:Int}{aV bd args:MV}
theorem NH{h:Prop}(W:WS σ Γ)(δ:List MO)(e:d<2)(f:∀p,(ez (HS σ δ) (.d 2) (.c (d:Int))=some (.d p))->(∀δ,(HS σ δ)[p]?=some (.a ((Γ.T d).map CT.d)))->h):h:=by
 have e:=m6 e
 rcases e with rfl|rfl
 ·exact f 80 ⋯ λδ=>by rw[show(Γ.T 0)=Γ.a from rfl,<-W.x];kernel_rfl
 ·exact f 111 ⋯ λδ=>by rw[show(Γ.T 1)=Γ.g from rfl,<-W.y];kernel_rfl
noncomputable abbrev J3:List MV:=[.e [.c 1,.c 5],.e [.c 4,.c 0],.e [.c 2,.c 6]]
structure RV (σ:St) (δ:List MO) (Γ:Cf) (n fi:Nat) (num:Int) (aV bd args:MV) (sort ex:Int) (ad:Int) (L:List MV) (ts:List CT) (jk vl tm gJ:Nat) (r_:Int) (bj vs ws:List MV) (σ':St) (aX:List MO):Prop where
 b:Up σ σ'
 a:Inv σ' Γ (n+10)
 h:Fz (uM fi (fi+1)) δ aX
 c:aX[fi]?=some (gw fi num aV bd r_ args gJ sort ex)
 l:∃L',aX[fi+1]?=some (.a L')/\L'.length<=L.length+3
 d:aX[gJ]?=some (.a (cU bj (.e [.c 4,.c ad]::vs)))
 g:aX[jk]?=some (.a bj)
 i:bj.length<=3
 m:∃y,bj=J3.take y
 o:aX[vl]?=some (.a vs)
 e:aX[tm]?=some (.a (ts.map CT.d))
 f:fC σ'.R ts vs ws
 j:δ.length<=jk
 p:δ.length<=vl
 q:δ.length<=tm
 k:jk<gJ
 s:vl<gJ
 r:tm<gJ
theorem z9(I:Inv σ Γ n)(hn:n<=60000)(hd:d<2)(dP:bB l=true)(cQ:l≠84)(ht:0<t/\t<2455)
  (hf:δ[fi]?=some (gw fi num aV bd ip args stk sort ex)) (hL:δ[fi+1]?=some (.a L)) (uh:L.length<=800) (ad:Int) {Ω:Prop} (ω:∀σ' aX r_ gJ jk vl tm Y vs ws,au Tb (K+11) 1315 [.d 148,.d 8,.d (fi+182),.c (d:Int),.j [l] t,.c ad] (HS σ δ)=some (.e [.d (jk+182),.d (vl+182),.d (tm+182)],HS σ' aX)->RV σ δ Γ n fi num aV bd args sort ex ad L ((Γ.T d).map (CT.e l)) jk vl tm gJ r_ Y vs ws σ' aX->Ω):Ω:=by
 have O:=cJ hL
 refine b6 (ar δ (.a J3)) λJ ej=>?_
 refine jN I (GR hn) J (m:=4) GO λy t1 hy dr u1 I1=>?_
 have dr:=dr (K+9)
 refine b6 (σ.S t1) λQ i7=>?_
 rw[<-i7] at dr u1 I1
 have sl:=yw (δ:=J) (i:=δ.length) (vals:=J3) (ej▸(h9 _ _ _ rfl)) (by decide) y (jF (bk hy (by decide))) Q
 refine b6 (J3.take y) λY hj=>?_
 have jl:=hj▸gM▸(eG _ _)
 rw[<-hj] at sl
 refine b6 (ar J (.a Y)) λH eN=>?_
 rw[<-eN] at sl
 have w2:=eN▸ej▸((Gw.d _ _).e (Gw.d _ _))
 refine NH I1.a H hd λpq Mv hp2=>?_
 have l3:=I.a.a d
 have tsl:((Γ.T d).map (CT.e l)).map CT.d=(Γ.T d).map λu=>(u.e l).d:=nX▸rfl
 refine b6 (ar H (.a (((Γ.T d).map (CT.e l)).map CT.d))) λh_ kE=>?_
 have s1:bQ Tb (au Tb (K+10)) (K+10) (fF Q9 1) [(103,.d 148),(250,.d 8),(110,.d (fi+182)),(263,.c (d:Int)),(272,.j [l] t),(277,.c ad),(278,.d (J.length+182))] (HS Q H)=some (.a,[(103,.d 148),(250,.d 8),(110,.d (fi+182)),(263,.c (d:Int)),(272,.j [l] t),(277,.c ad),(278,.d (J.length+182)),(279,.d (H.length+182))],HS Q h_):=by
  have:=lY (fuel:=K+10) (y:=279) (pC (x:=252) (n9 [(1,ov Mv)] ⋯:aO Tb (au Tb (K+10)) (.h (.h (.d 250) (.g (.g [112,97,114,97,109,115]))) (.d 263)) [(103,.d 148),(250,.d 8),(110,.d (fi+182)),(263,.c (d:Int)),(272,.j [l] t),(277,.c ad),(278,.d (J.length+182))] (HS Q H)=some (.d pq,HS Q H)) (hp2 H) (by rw[ay];exact jT l3) (Fh (ts:=Γ.T d) cQ ht rfl (hp2 H)))
  rw[kD,kC,<-tsl,<-kE] at this
  exact this
 have w3:=kE▸(w2.e (Gw.d _ _))
 have Us:=kE▸(h9 _ _ _ rfl)
 have l2:=w2.1
 refine Kx (K:=K) (σ:=Q) (δ:=h_) (q:=H.length) (ts:=(Γ.T d).map (CT.e l)) (ρ:=[(103,.d 148),(250,.d 8),(110,.d (fi+182)),(263,.c (d:Int)),(272,.j [l] t),(277,.c ad),(278,.d (J.length+182)),(279,.d (H.length+182))]) I1 (AS hn) (by rw[ay];exact l3) (λu hu=>by
  refine cf (cW.mp hu) λz hz z0=>?_
  subst z0
  exact Aj (I.a.w d z hz).1 dP cQ) ⟨rfl,rfl,rfl⟩ (w3.2 _ _ hf) (w3.2 _ _ hL) uh Us ((dJ (bk O l2))) λdR iw vs ws vm V=>?_
 refine b6 (ar iw (.a vs)) λmK X=>?_
 have s2:bQ Tb (au Tb (K+10)) (K+10) (fF Q9 2) [(103,.d 148),(250,.d 8),(110,.d (fi+182)),(263,.c (d:Int)),(272,.j [l] t),(277,.c ad),(278,.d (J.length+182)),(279,.d (H.length+182))] (HS Q h_)=some (.a,[(103,.d 148),(250,.d 8),(110,.d (fi+182)),(263,.c (d:Int)),(272,.j [l] t),(277,.c ad),(278,.d (J.length+182)),(279,.d (H.length+182)),(220,.d (iw.length+182))],HS dR mK):=by
  have:=lY (fuel:=K+10) (y:=220) (pC (x:=252) (rfl:aO Tb (au Tb (K+10)) (.d 279) [(103,.d 148),(250,.d 8),(110,.d (fi+182)),(263,.c (d:Int)),(272,.j [l] t),(277,.c ad),(278,.d (J.length+182)),(279,.d (H.length+182))] (HS Q h_)=some (.d (H.length+182),HS Q h_)) (by rw[df];exact Us) (by rw[ay,ay];exact jT l3) vm)
  rw[kD,kC,<-X] at this
  exact this
 have lvs:vs.length<=3:=by have:=V.d.m;rw[gM,ay] at this;exact Ym l3 this
 refine cf V.b λL' hL' abM=>?_
 refine jN (V.c.q (by rw[ay];exact(bN [_,_] (V0.B+1+(V0.M 2 V0.A)) (V0.B+1+6) (.c 2 V0.A 3 .z) rfl l3))) (Yl hn) mK (m:=3) (by decide) λy3 t3 hy3 R u3 I3=>?_
 have R:=R (K+9)
 refine b6 (dR.S t3) λdI k_=>?_
 rw[<-k_] at R u3 I3
 have f5:=X▸(fU _ (V.a.2 _ _ (λe=>by have e:fi=fi+1:=e;exact GP e) (w3.2 _ _ hf)))
 refine b6 (mK.set fi (gw fi num aV bd ((1:Int)+(y3:Int)) args stk sort ex)) λDs W=>?_
 have WH:Ds.length=iw.length+1:=by rw[W,fX,X,aB]
 have WG:H.length+1<=iw.length:=by have:=V.a.1;rw[kE,aB] at this;exact this
 have P:H.length=J.length+1:=by rw[eN,aB]
 have N:J.length=δ.length+1:=by rw[ej,aB]
 have nfi:∀{z:Nat},δ.length<=z->z≠fi:=λh e=>X7 O N h e
 have j6:=W▸X▸(jf _ _ (P8 O N) (fU _ (V.a.2 _ _ (λe=>by have e:J.length=fi+1:=e;exact(bZ [_,_,_] (.o (V0.A+1+1) V0.B (.f (V0.B+1) V0.C (.e V0.C (V0.A+1) .z))) rfl O N e)) (kE▸(fU _ (eN▸(h9 _ _ _ rfl)))))))
 have v6:=W▸X▸(jf _ _ (λhh=>bZ [_,_,_,_,_] (.o (V0.A+1+1) V0.B (.o (V0.C+1) V0.D (.f (V0.E+1) V0.C (.f (V0.B+1) V0.E (.f V0.D V0.A .z))))) rfl O WG P N hh) (h9 _ _ _ rfl))
 refine b6 (ar Ds (.a [.e [.c 4,.c ad]])) λδ7 Et=>?_
 have a7:=zo dI (δ:=δ7) (i:=J.length) (j:=Ds.length) (Et▸(fU _ j6)) (Et▸(h9 _ _ _ rfl)) (jT jl) (by simp)
 refine b6 (ar δ7 (.a (cU Y [.e [.c 4,.c ad]]))) λWQ IT=>?_
 rw[<-IT] at a7
 have a8:=zo dI (δ:=WQ) (i:=δ7.length) (j:=iw.length) (IT▸(h9 _ _ _ rfl)) (IT▸Et▸(fU _ (fU _ v6))) (by unfold cU;simp;exact Pz jl) (jT lvs)
 refine b6 (ar WQ (.a (cU (cU Y [.e [.c 4,.c ad]]) vs))) λZ UL=>?_
 rw[<-UL] at a8
 have WM:Gw Ds Z:=by rw[UL,IT,Et];exact(Gw.d _ _).e ((Gw.d _ _).e (Gw.d _ _))
 have f9:=WM.2 _ _ (W▸(mX _ f5))
 refine b6 (Z.set fi (gw fi num aV bd ((1:Int)+(y3:Int)) args WQ.length sort ex)) λδA U=>?_
 have l8:WQ.length=Ds.length+2:=by rw[IT,aB,Et,aB]
 refine ω dI δA ((1:Int)+(y3:Int)) WQ.length J.length iw.length H.length Y vs ws ?_ ⟨(u1.f V.e).f u3,I3.q X6,?_,?_,⟨L',?_,?_⟩,?_,?_,jl,⟨y,hj⟩,?_,?_,?_,PW N,X5 WH WG P N l8,PV l2,gy [_,_,_,_,_] V0.D V0.E (.f (V0.B+1) V0.A (.o (V0.C+1) V0.B (.f (V0.D+1) V0.C (.f (V0.A+2) V0.E .z)))) rfl WH WG P l8,gy [_,_,_] V0.B V0.C (.f (V0.B+1) V0.A (.f (V0.A+2) V0.C .z)) rfl WH l8,X_ WH WG P l8⟩
 ·have dr:=dr
  subst ej
  subst Et
  exact bu [(4,ow dr),(5,ow sl),(6,os s1),(6,os s2),(6,ow R),(8,oh (W▸(FO dI f5 127 _ _ ⋯ rfl))),(11,ow a7),(12,ow a8),(13,oh (by rw[U];exact FO dI f9 126 _ _ ⋯ rfl:og Tb (HS dI Z) (.d (fi+182)) 126 (.d (WQ.length+182))=some (HS dI δA)))] ⋯
 ·refine U▸(Fz.k (Fz.k (Fz.k (w3.f.k ⟨V.a.1,λi v n h=>V.a.2 i v (λq=>n (.inr q)) h⟩) ?_) WM.f) (Fz.p _ _ _ _))
  refine W▸X▸?_;exact(Gw.d _ _).f.k (Fz.p _ _ _ _)
 ·exact U▸(mX _ f9)
 ·refine U▸?_;exact jf _ _ xl (WM.2 _ _ (W▸X▸(jf _ _ xl (fU _ hL'))))
 ·rw[ay] at abM;exact(bN [_,_,_] V0.B (V0.C+3) (.o V0.A 3 (.o V0.B (V0.C+V0.A) .z)) rfl l3 abM)
 ·refine U▸(jf _ _ (λhh=>bZ [_,_,_,_,_,_,_] (.o (V0.A+1+1) V0.B (.f (V0.D+1) V0.C (.o (V0.E+1) V0.D (.f (V0.F+1) V0.E (.f (V0.B+1) V0.F (.f (V0.C+2) V0.G (.f V0.G V0.A .z))))))) rfl O WH WG P N l8 hh) ?_)
  refine UL▸(show cU (cU Y [MV.e [.c 4,.c ad]]) vs=cU Y (.e [.c 4,.c ad]::vs) from by unfold cU;simp)▸?_
  exact h9 _ _ _ rfl
 ·exact U▸(jf _ _ (P8 O N) (WM.2 _ _ j6))
 ·exact U▸(jf _ _ (X9 O WH WG P N l8) (WM.2 _ _ v6))
 ·exact U▸(jf _ _ (P7 O P N) (WM.2 _ _ (W▸X▸(jf _ _ (P7 O P N) (fU _ (V.a.2 _ _ (λe=>by have e:H.length=fi+1:=e;exact(bZ [_,_,_,_] (.o (V0.A+1+1) V0.B (.f (V0.D+1) V0.C (.f (V0.B+1) V0.D (.e V0.C (V0.A+1) .z)))) rfl O P N e)) Us))))))
 ·exact nR u3.j (by have:=V.d;rw[eC] at this;exact this)
end
end
section
section
variable{K n t b c d i l fi v stk dk r s g:Nat}{σ:St}{δ:List MO}{Γ:Cf}{ad x num ip sort ex:Int}{aV bd args:MV}{fs:List (Int×Nat)}
theorem J7(cl:Call)(δ:List MO)(F:FS σ fs)(g:Nat):dj cl (HS σ δ) (.d 155) [.d (g+182)] .a=some (.f,HS (σ.Q (ar (fy fs) (.d (g+182)))) δ):=F.j▸(gG (n:=155) (μ:=HS σ δ) (l:=σ.X) ⋯ (by rw[F.j];have:=F.k;unfold fy bz;rw[ay];exact AH this))
theorem J6(δ:List MO)(F:FS σ fs)(a:∀q∈fs,q.1≠num)(g:Nat):pZ (HS (σ.Q (ar (fy fs) (.d (g+182)))) δ) (.d 156) (.c num) (.d (g+182))=some (HS (σ.F (ar fs (num,g))) δ):=by
 have h:(HS (σ.Q (ar (fy fs) (.d (g+182)))) δ)[156]?=some (.b (ki fs)):=by rw[<-F.m];kernel_rfl
 have f:eL (ki fs) (.c num)=true:=mh (uN _) num
 have u:∀p∈ki fs,p.1≠ .c num:=λp o=>by
  refine cf (cW.mp o) λq j z0=>?_
  refine rI z0 ?_
  intro e;have:=a q j;cases e;exact this rfl
 rw[mq h f (by have:=F.k;unfold ki bz;rw[ay];exact AH this),uT u]
 exact(l7 _ _:fy (ar fs (num,g))=ar (fy fs) (.d (g+182)))▸(oR _ _:ki (ar fs (num,g))=ar (ki fs) (.c num,.d (g+182)))▸(congrArg some ⋯)
theorem FS.w(F:FS σ fs)(e:∀q∈fs,q.1≠num)(z:fs.length<=99)(g:Nat):FS (σ.F (ar fs (num,g))) (ar fs (num,g)):=
 ⟨rfl,rfl,by
  unfold ar
  rw[d9,mD]
  refine⟨F.p,by simp,λa h b hb=>?_⟩
  refine cf (cW.mp h) λq f z0=>?_
  subst z0
  simp only[dX,ju,cw,iM,or_false] at hb
  refine fI hb ?_;exact e q f,by rw[aB];exact(ry z)⟩
theorem Ad(F:FS σ fs)(e:∀q∈fs,q.1≠num)(a:δ[g]?=some (gw g num aV .f ip args stk 0 ex))(K:Nat):au Tb (K+1) 1322 [.d 148,.d 8,.d (g+182)] (HS σ δ)=some (.f,HS (σ.F (ar fs (num,g))) (δ.set g (gw g num aV (.d 7) ip args stk 0 ex))):=bu [(2,ow ((λcl=>J7 cl δ F g) (au Tb K))),(4,ov (ed (σ.Q (ar (fy fs) (.d (g+182)))) a 119 (.c num) ⋯)),(5,oh (J6 δ F e g)),(6,ov (ed (σ.F (ar fs (num,g))) a 5 (.c 0) ⋯)),(10,oh (FO (σ.F (ar fs (num,g))) a 123 (.d 7) (gw g num aV (.d 7) ip args stk 0 ex) ⋯ rfl))] ⋯
theorem Ae(F:FS σ fs)(e:∀q∈fs,q.1≠num)(a:δ[g]?=some (gw g num aV .f ip args stk 4 ex))(K:Nat):au Tb (K+1) 1322 [.d 148,.d 8,.d (g+182)] (HS σ δ)=some (.f,HS (σ.F (ar fs (num,g))) δ):=bu [(2,ow ((λcl=>J7 cl δ F g) (au Tb K))),(4,ov (ed (σ.Q (ar (fy fs) (.d (g+182)))) a 119 (.c num) ⋯)),(5,oh (J6 δ F e g)),(6,ov (ed (σ.F (ar fs (num,g))) a 5 (.c 4) ⋯))] ⋯
end
end
section
structure LC where
 a:Nat
 d:Nat
 e:Int
 l:Nat
 t:Nat
 i:Nat
 g:Int
 j:Nat
 k:Nat
 n:Nat
 o:Nat
 c:MV
 h:Nat
 f:Int
 m:Int
 b:Int
noncomputable abbrev Nc(c:LC)(at_:Int)(gv:Nat):Loc:=[(103,.d 148),(250,.d 8),(110,.d (c.a+182)),(263,.c (c.d:Int)),(282,.c c.e),(272,.j [c.l] c.t),(62,.c (c.i:Int)),(277,.c c.g),(4,.d (c.j+182)),(278,.d (c.k+182)),(220,.d (c.n+182)),(279,.d (c.o+182)),(158,c.c),(285,.d (c.h+182)),(286,.c c.f),(287,.c c.m),(70,.c at_),(288,.d (gv+182)),(289,.c c.b)]
noncomputable abbrev WI(c:LC)(at_:Int)(gv:Nat)(i:Int)(g:Nat):Loc:=[(103,.d 148),(250,.d 8),(110,.d (c.a+182)),(263,.c (c.d:Int)),(282,.c c.e),(272,.j [c.l] c.t),(62,.c (c.i:Int)),(277,.c c.g),(4,.d (c.j+182)),(278,.d (c.k+182)),(220,.d (c.n+182)),(279,.d (c.o+182)),(158,c.c),(285,.d (c.h+182)),(286,.c c.f),(287,.c c.m),(70,.c at_),(288,.d (gv+182)),(289,.c c.b),(182,.c i),(281,.d (g+182))]
noncomputable abbrev UX(c:LC)(at_:Int)(gv:Nat)(i:Int)(g:Nat)(j:MV):Loc:=[(103,.d 148),(250,.d 8),(110,.d (c.a+182)),(263,.c (c.d:Int)),(282,.c c.e),(272,.j [c.l] c.t),(62,.c (c.i:Int)),(277,.c c.g),(4,.d (c.j+182)),(278,.d (c.k+182)),(220,.d (c.n+182)),(279,.d (c.o+182)),(158,c.c),(285,.d (c.h+182)),(286,.c c.f),(287,.c c.m),(70,.c at_),(288,.d (gv+182)),(289,.c c.b),(182,.c i),(281,.d (g+182)),(266,j)]
inductive LF (c:LC) (ai:Int) (gv:Nat) (i:Int) (g:Nat):Loc->Prop
 |b:LF c ai gv i g (WI c ai gv i g)
 |c (j:MV):LF c ai gv i g (UX c ai gv i g j)
section
variable{K n t b c d i l fi v stk dk r s g a at_ gv:Nat}{σ:St}{δ:List MO}{Γ:Cf}{ad x num ip sort ex:Int}{aV bd args:MV}{fs:List (Int×Nat)}{P al:List MV}
theorem ml(σ:St)(δ:List MO)(h:σ.z.length<=100000):mj (HS σ δ) (.d 165)=some (.c (σ.z.length:Nat)):=
 lh (n:=165) (l:=σ.z) ⋯ (eK h)
theorem z8(δ:List MO)(h:σ.z[at_]?=some p)(e:at_<=100000):ez (HS σ δ) (.d 165) (.c (at_:Int))=some p:=
 gj (n:=165) (μ:=HS σ δ) (l:=σ.z) ⋯ h (ry e)
theorem Ko{u:Prop}(A:LF cc ai gv i g ρ)(m:δ[g]?=some (gw g num aV bd ip (.d (a+182)) stk sort ex))(o:δ[a]?=some (.a al))(q:al.length<=100)(G:a≠g)(cl:Call)(F:Nat)(B:∀ρ' r,(LF cc ai gv i g ρ')->(bQ Tb cl F (jO cG 11 5) ρ (HS σ δ)=some (.a,ρ',HS σ (δ.set a (.a r))))->u):u:=by
 have z:=hJ σ o (uJ q)
 have E:aO Tb cl (.p (.k (.d 281) 28)) ρ (HS σ δ)=some (.c (al.length:Nat),HS σ δ):=by
  rcases A with _|j
  ·exact n9 [(0,ov (ed σ m 28 (MV.d (a+182)) ⋯)),(1,ov z)] ⋯
  ·exact n9 [(0,ov (ed σ m 28 (MV.d (a+182)) ⋯)),(1,ov z)] ⋯
 refine pJ (T:=Tb) (cl:=cl) (fuel:=F) (n:=al.length) (t:= .b 266) (e:= .p (.k (.d 281) 28)) (b:=[.f (.d (.k (.d 281) 28) (.d 266)) (.l [.g (.c 1),.g (.c 77)])])
  (ρ:=ρ) (μ:=HS σ δ) (bC:=HS σ δ)
  (λk ρ μ=>(LF cc ai gv i g ρ)/\∃r,r.length=al.length/\μ=HS σ (δ.set a (.a r)))
  E (uJ q) ⟨A,al,rfl,by rw[p6 o]⟩
  (λk ρ μ u C p D=>by
   obtain⟨p1,r,h,rfl⟩:=p
   have y:=A_ σ (mX (MO.a r) o) (h▸C) (h▸(eK q)) (.e [.c 1,.c 77])
   rw[jv] at y
   refine D (UX cc ai gv i g (.c (k:Int))) (HS σ (δ.set a (.a r))) (UX cc ai gv i g (.c (k:Int))) (HS σ (δ.set a (.a (r.set k (.e [.c 1,.c 77]))))) ?_ ?_ ⟨.c _,_,by simpa using h,rfl⟩
   ·rcases p1 with _|j<;>rfl
   ·exact eD [(1,ov (ed σ (jf _ _ G m:(δ.set a (.a r))[g]?=some (gw g num aV bd ip (.d (a+182)) stk sort ex)) 28 (MV.d (a+182)) ⋯)),(2,oh y)] ⋯) λρ' H e w=>?_
 obtain⟨p1,r,h,rfl⟩:=w
 exact B ρ' r p1 e
end
end
section
noncomputable abbrev Nd(c:LC)(at_:Int)(gv:Nat)(i:Int):Loc:=[(103,.d 148),(250,.d 8),(110,.d (c.a+182)),(263,.c (c.d:Int)),(282,.c c.e),(272,.j [c.l] c.t),(62,.c (c.i:Int)),(277,.c c.g),(4,.d (c.j+182)),(278,.d (c.k+182)),(220,.d (c.n+182)),(279,.d (c.o+182)),(158,c.c),(285,.d (c.h+182)),(286,.c c.f),(287,.c c.m),(70,.c at_),(288,.d (gv+182)),(289,.c c.b),(182,.c i)]
inductive LS (c:LC) (ai:Int) (gv:Nat) (i:Int):Loc->Prop
 |d:LS c ai gv i (Nd c ai gv i)
 |b (g:Nat):LS c ai gv i (WI c ai gv i g)
 |c (g:Nat) (j:MV):LS c ai gv i (UX c ai gv i g j)
noncomputable abbrev wT:ME:= .E (.q .g (.d 70) (.p (.k (.d 103) 112))) (.q .a (.k (.h (.k (.d 103) 112) (.d 70)) 5) (.g (.c 4)))
noncomputable abbrev wB:List MS:=[.d (.j 1322 [.d 103,.d 250,.h (.k (.d 103) 112) (.d 70)]),.j 70 .a (.g (.c 1))]
section
variable{T:Tab}{cl:Call}{fuel:Nat}{e:ME}{b:List MS}{ρ bt:Loc}{μ bC eh:Hp}
theorem Fn(f:aO T cl e ρ μ=some (.h true,μ))(hb:aY T cl (fuel+2) b ρ μ=some (.a,bt,bC))(j:aO T cl e bt bC=some (.h false,eh)):bQ T cl (fuel+2) (.h e b) ρ μ=some (.a,bt,eh):=(j7 f).trans ((NG hb).trans (j7 j))
end
section
variable{K n t b c d i l fi v stk dk r s g a at_ gv mu:Nat}{σ:St}{δ:List MO}{Γ:Cf}{ad x num ip sort ex:Int}{aV bd args:MV}{fs:List (Int×Nat)}{P:List MV}{al:List MV}{cc:LC}
theorem ab9:jO cG 11 0= .h wT wB:=⋯
theorem adt(x:Nat)(μ:Hp):dE μ .a (.c (x:Int)) (.c 1)=some (.c ((x+1:Nat):Int),μ):=rfl
theorem KJ{ρ:Loc}{gv:Nat}{i:Int}(m:σ.z=ar P (.d (g+182)))(o:P.length<=90000)(k:iu Tb (HS σ δ) (.d (g+182)) 5=some (.c 0))(q:LS cc (P.length:Nat) gv i ρ)(cl:Call):
  aO Tb cl wT ρ (HS σ δ)=some (.h false,HS σ δ):=by
 have f:=ml σ δ (by rw[m,aB];exact P_ o)
 rw[m,aB] at f
 have lt:=qI (x:=P.length) (y:=P.length+1) (decide_eq_true R7)
 have gt:=z8 (σ:=σ) (at_:=P.length) δ (p:= .d (g+182)) (m▸(aZ _ _)) (xd o)
 rcases q with _|g0|⟨g0,j⟩
 ·exact n9 [(1,ov f),(2,oq (lt (HS σ δ))),(5,ov gt),(6,ov k)] ⋯
 ·exact n9 [(1,ov f),(2,oq (lt (HS σ δ))),(5,ov gt),(6,ov k)] ⋯
 ·exact n9 [(1,ov f),(2,oq (lt (HS σ δ))),(5,ov gt),(6,ov k)] ⋯
theorem VM{gv:Nat}{i:Int}(F:FS σ fs)(m:∀q∈fs,q.1≠num)(h:σ.z=ar (ar P (.d (mu+182))) (.d (g+182)))(j:P.length<=80000)(hm:δ[mu]?=some (gw mu num aV .f ip args stk 4 ex))(o:∀σ,iu Tb (HS σ δ) (.d (g+182)) 5=some (.c 0))(K:Nat):
  bQ Tb (au Tb (K+2)) (K+2) (jO cG 11 0) (Nd cc (P.length:Nat) gv i) (HS σ δ)=some (.a,Nd cc ((P.length+1:Nat):Int) gv i,HS (σ.F (ar fs (num,mu))) δ):=by
 refine ab9▸?_
 have k:=ml σ δ (by rw[h,aB,aB];exact(eK (aM (aM j _) _)))
 rw[h,aB,aB] at k
 have gm:=z8 (σ:=σ) (at_:=P.length) δ (p:= .d (mu+182)) (by
  rw[h]
  show((P++[MV.d (mu+182)])++[MV.d (g+182)])[P.length]?=_
  rw[aJ (by simp)];exact aZ _ _) (GN j)
 refine Fn ?_ ?_ (KJ (σ:=σ.F (ar fs (num,mu))) (δ:=δ) (cc:=cc) (gv:=gv) (i:=i) (P:=ar P (.d (mu+182))) (ρ:=Nd cc ((P.length+1:Nat):Int) gv i) h (by rw[aB];exact O5 j) (o _) (by rw[aB];exact .d) (au Tb (K+2)))
 ·exact n9 [(1,ov k),(2,oq ((qI (x:=P.length) (y:=P.length+1+1) (decide_eq_true (bc _ _))) (HS σ δ))),(5,ov gm),(6,ov (ed σ hm 5 (MV.c 4) ⋯))] ⋯
 ·have st:=Ae F m hm (K+1)
  have ad:=adt P.length
  exact eD [(1,ov gm),(2,ow st)] ⋯
end
end
section
section
variable{K n t b c d i l fi v stk dk r s g a at_ gv mu ix:Nat}{σ:St}{δ:List MO}{Γ:Cf}{ad x num ip sort ex:Int}{aV bd args:MV}{fs:List (Int×Nat)}{P:List MV}{al ws:List MV}{cc:LC}{e:En}{rows:List MV}
theorem abw(σ:St){j:Nat}{l:List MV}(h:δ[i]?=some (.a l))(g:δ[j]?=some (.a l))(f:l.all (bh 8)=true):ct (HS σ δ) .b (.d (i+182)) (.d (j+182))=some false:=by
 have e:Ud (HS σ δ) (.d (i+182)) (.d (j+182))=some true:=by
  unfold Ud;dsimp only;rw[v9 (by rw[df];exact h),v9 (by rw[df];exact g),j1 (by rw[f];rfl),(kq l l).mpr rfl]
 exact mI e
theorem Vc{p:List MV}(f:bh 8 (.e p)=true)(μ:Hp):ct μ .b (.e p) (.e p)=some false:=mI ((j1 (by rw[f];rfl)).trans (congrArg some (hO _)))
theorem Fc(x:Nat)(μ:Hp):ct μ .b (.c (x:Int)) (.c (((x+1:Nat):Int) - 1))=some false:=by
 rw[show((x+1:Nat):Int) - 1=(x:Int) from GC]
 show(some (MV.k (.c (x:Int)) (.c (x:Int)))).map (!·)=_
 rw[hO];rfl
noncomputable abbrev bX:List MS:=[jO cG 11 1,jO cG 11 2,jO cG 11 3,jO cG 11 4,jO cG 11 5]
theorem adb{ρ:Loc}{gv:Nat}(F:FS σ fs)(hn:∀q∈fs,q.1≠num)(M:σ.z=ar P (.d (g+182)))(W:P.length<=90000)
  (Y:LS cc (P.length:Nat) gv (ix:Int) ρ)
  (m:δ[g]?=some (gw g num e.a .f ip (.d (a+182)) stk 0 ex)) (My:δ[cc.j]?=some (.a rows)) (UI:rows[ix]?=some e.c) (IG:ix<=100) (Z:δ[e.o]?=some (.a e.g)) (O:δ[cc.h]?=some (.a ws))
  (H:δ[a]?=some (.a (cU e.g ws))) (I:e.g.length<=1/\ws.length<=3) (Q:(cU e.g ws).all (bh 8)=true) (hm:bh 8 e.a=true) (K:Nat) {U:Prop} (L:∀ρ' r,(LF cc (P.length:Nat) gv (ix:Int) g ρ')->aY Tb (au Tb (K+1)) (K+1) bX ρ (HS σ δ)=some (.a,ρ',HS (σ.F (ar fs (num,g))) (((ar δ (.a (cU e.g ws))).set g (gw g num e.a (.d 7) ip (.d (a+182)) stk 0 ex)).set a (.a r)))->U):U:=by
 have u:a≠g:=by intro q;rw[q,m] at H;cases H
 have J:=ml σ δ (by rw[M,aB];exact P_ W)
 rw[M,aB] at J
 have sl:=Fc P.length
 have gt:=z8 (σ:=σ) (at_:=P.length) δ (p:= .d (g+182)) (M▸(aZ _ _)) (xd W)
 have D:=jV σ My UI (Pg IG)
 have nm:=Vc hm
 have ad:=zo σ Z O (Yo I) (Yn I)
 refine b6 (ar δ (.a (cU e.g ws))) λT C=>?_
 replace ad:=C.symm▸ad
 have R:=C▸(Gw.d _ _)
 have N:=abw σ (R.2 _ _ H) (by rw[C];exact h9 _ _ _ rfl:T[δ.length]?=some (.a (cU e.g ws))) Q
 have X:=R.2 _ _ m
 have st:=Ad F hn X K
 refine b6 (T.set g (gw g num e.a (.d 7) ip (.d (a+182)) stk 0 ex)) λV y=>?_
 rw[<-y] at st
 have S:V[g]?=some (gw g num e.a (.d 7) ip (.d (a+182)) stk 0 ex):=by rw[y];exact mX _ X
 have a2:V[a]?=some (.a (cU e.g ws)):=by rw[y];exact jf _ _ (cH u) (R.2 _ _ H)
 have w:(cU e.g ws).length<=100:=by unfold cU;simp;exact(bN [_,_] (V0.A+V0.B) 100 (.o V0.A 1 (.o V0.B 3 .z)) rfl I.1 I.2)
 refine b6 e.a λmr Wu=>?_
 rcases Y with _|g0|⟨g0,j⟩
 ·refine Ko (σ:=σ.F (ar fs (num,g))) (ρ:=WI cc (P.length:Nat) gv (ix:Int) g) (cc:=cc) .b S a2 w u (au Tb (K+1)) (K+1) λρ' r G E=>?_
  refine L ρ' r G ?_
  exact C▸y▸(eD [(1,ov J),(3,oq (sl (HS σ δ))),(6,ov gt),(7,ov (ed σ m 5 (MV.c 0) ⋯)),(10,ov (ed σ m 108 (MV.e [MV.c ↑e.k,MV.c ↑e.h,e.j]) ⋯)),(11,ov D),(13,oq (nm (HS σ δ))),(15,ov (ed σ m 28 (MV.d (a+182)) ⋯)),(16,ov D),(18,ow ad),(19,oq N),(21,ow st),(22,os E)] ⋯)
 ·refine Ko (σ:=σ.F (ar fs (num,g))) (ρ:=WI cc (P.length:Nat) gv (ix:Int) g) (cc:=cc) .b S a2 w u (au Tb (K+1)) (K+1) λρ' r G E=>?_
  refine L ρ' r G ?_
  refine C▸y▸?_
  exact eD [(1,ov J),(3,oq (sl (HS σ δ))),(6,ov gt),(7,ov (ed σ m 5 (MV.c 0) ⋯)),(10,ov (ed σ m 108 (MV.e [MV.c ↑e.k,MV.c ↑e.h,e.j]) ⋯)),(11,ov D),(13,oq (nm (HS σ δ))),(15,ov (ed σ m 28 (MV.d (a+182)) ⋯)),(16,ov D),(18,ow ad),(19,oq N),(21,ow st),(22,os E)] ⋯
 ·refine Ko (σ:=σ.F (ar fs (num,g))) (ρ:=UX cc (P.length:Nat) gv (ix:Int) g j) (cc:=cc) (.c j) S a2 w u (au Tb (K+1)) (K+1) λρ' r G E=>?_
  refine L ρ' r G ?_
  exact C▸y▸(eD [(1,ov J),(3,oq (sl (HS σ δ))),(6,ov gt),(7,ov (ed σ m 5 (MV.c 0) ⋯)),(10,ov (ed σ m 108 (MV.e [MV.c ↑e.k,MV.c ↑e.h,e.j]) ⋯)),(11,ov D),(13,oq (nm (HS σ δ))),(15,ov (ed σ m 28 (MV.d (a+182)) ⋯)),(16,ov D),(18,ow ad),(19,oq N),(21,ow st),(22,os E)] ⋯)
end
end
section
theorem rU.C{k:Nat}{u:CT}{v w:MV}(h:rU k u v w):∃p,w= .e p:=by
 cases h<;>exact⟨_,rfl⟩
theorem abC{u:CT}(h:bB u.f=true)(μ:Hp):ct μ .b u.d (.g [118])=some true:=by
 have e:∀s:List Nat,s≠[118]->ct μ .b (.g s) (.g [118])=some true:=λs j=>by
  show(ct μ .a (.g s) (.g [118])).map (!·)=_
  rw[tN j];rfl
 cases u with
 |b c=>exact e _ (by intro q;cases q;cases h)
 |r c=>exact e _ (by intro q;cases q)
 |q c=>exact e _ (by intro q;cases q)
section
variable{K n t b c d i l fi v stk dk r s g a at_ gv mu ix:Nat}{σ:St}{δ:List MO}{Γ:Cf}{ad x num ip sort ex:Int}{aV bd args:MV}{fs:List (Int×Nat)}{P:List MV}{al ws L:List MV}{cc:LC}{e:En}{rows:List MV}{u:CT}
noncomputable abbrev bY:List MS:=[jO cG 11 7,jO cG 11 8,jO cG 11 9,jO cG 11 10]
structure RdO (σ:St) (δ:List MO) (Γ:Cf) (n g:Nat) (num ip:Int) (aV args:MV) (ex:Int) (u:CT) (σ':St) (aX:List MO) (gJ ia:Nat) (st gl:List MV) (v:MV):Prop where
 a:Up σ σ'
 c:Inv σ' Γ (n+2)
 b:Fz (uM g (g+1)) δ aX
 f:aX[g]?=some (gw g num aV (.d 7) ip args gJ 0 ex)
 h:aX[gJ]?=some (.a st)
 d:Ret σ'.R u st v
 i:aX[ia]?=some (.a gl)
 e:v= .f/\gl=[]\/(∃p,v= .e p)/\gl=[v]
 k:δ.length<=gJ
 j:δ.length<=ia
theorem RC{Ω:Prop}{ρ:Loc}{ai i:Int}(I:Inv σ Γ n)(hn:n<=60000)(hp:σ.z.length<=90000)(i_:LF cc ai gv i g ρ)(jY:cc.c=u.d)(hu:u= .b 118\/bB u.f=true/\u.f≠84)
  (hg:δ[g]?=some (gw g num aV (.d 7) ip args stk 0 ex)) (hL:δ[g+1]?=some (.a L)) (uh:L.length<=800) (S:∀ρ' σ' aX gJ ia st gl v,(LF cc (σ.z.length:Nat) ia i g ρ')->(aY Tb (au Tb (K+10)) (K+10) bY ρ (HS σ δ)=some (.a,ρ',HS σ' aX))->(RdO σ δ Γ n g num ip aV args ex u σ' aX gJ ia st gl v)->Ω):Ω:=by
 have ln:=ml σ δ (xd hp)
 have lL:=cJ hL
 obtain⟨Wh,fd,X,fl,T,U,W,Y,V,Wn,Wm,Un,Wk,sV,Z,sW⟩:=cc
 have jY:Un=u.d:=jY
 subst jY
 refine b6 ((ar δ (.a [])).set g (gw g num aV (.d 7) ip args δ.length 0 ex)) λD J=>?_
 have g1:(ar δ (.a []))[g]?=some (gw g num aV (.d 7) ip args stk 0 ex):=fU _ hg
 have s1:=J▸(FO σ g1 126 _ _ ⋯ rfl)
 have g2:=J▸(mX _ g1)
 have F2:Fz (uM g (g+1)) δ D:=J▸((Gw.d _ _).f.k (Fz.p _ _ _ _))
 have N:D.length=δ.length+1:=by rw[J,fX,aB]
 rcases hu with rfl|⟨dP,cQ⟩
 ·have R:RdO σ δ Γ n g num ip aV args ex (.b 118) σ (ar D (.a [])) δ.length D.length [] [] .f:=
   ⟨Up.q _,I.q Qb,F2.k (Gw.d _ _).f,fU _ g2,fU _ (J▸(jf _ _ (by have:=cJ hg;exact(gu (tX lL))) (h9 _ _ _ rfl))),.inl ⟨rfl,rfl,rfl⟩,h9 _ _ _ rfl,.inl ⟨rfl,rfl⟩,aC _,PW N⟩
  rcases i_ with _|j
  ·refine S (WI ⟨Wh,fd,X,fl,T,U,W,Y,V,Wn,Wm,.g [118],Wk,sV,Z,sW⟩ (σ.z.length:Nat) D.length i g) σ _ _ _ _ _ _ .b ?_ R
   exact eD [(1,ov ln),(3,oh s1)] ⋯
  ·refine S (UX ⟨Wh,fd,X,fl,T,U,W,Y,V,Wn,Wm,.g [118],Wk,sV,Z,sW⟩ (σ.z.length:Nat) D.length i g j) σ _ _ _ _ _ _ (.c j) ?_ R
   exact eD [(1,ov ln),(3,oh s1)] ⋯
 ·refine b6 (ar D (.a [])) λh_ kE=>?_
  have w3:=kE▸(Gw.d _ _)
  refine jN I (GR hn) h_ (m:=999983) PZ λy t1 hy H u1 I1=>?_
  have H:=H (K+9)
  refine Rp (K:=K) (x:=(y:Int)) (u:=u) I1 (ry hn) dP cQ (PY hy) (PX hy) (w3.2 _ _ g2) (w3.2 _ _ (J▸(jf _ _ xl (fU _ hL)))) (eK uh) λA B F w L4 O u4 I4 F4 hL4 aeH VA=>?_
  refine b6 ((ar B (.a [F])).set g (gw g num aV (.d 7) ip args B.length 0 ex)) λE Q=>?_
  have M:(ar B (.a [F]))[g]?=some (gw g num aV (.d 7) ip args δ.length 0 ex):=fU _ (F4.2 _ _ (λq=>by have q:g=g+1:=q;exact GP q) (w3.2 _ _ g2))
  have s5:=Q▸(FO A M 126 _ _ ⋯ rfl)
  have g5:=Q▸(mX _ M)
  have l4:B.length≥δ.length+2:=by have:=F4.1;rw[kE,aB] at this;exact Ys N this
  have e5:E[B.length]?=some (.a [F]):=by rw[Q];exact jf _ _ (Yr lL N l4) (h9 _ _ _ rfl)
  refine dG VA.o λk hV=>?_
  have kp:=sa (K:=K+9) (μ:=HS A E) hV
  have nv:=abC dP
  have F5:Fz (uM g (g+1)) δ E:=by
   refine Q▸(Fz.k (Fz.k (F2.k w3.f) ⟨F4.1,λi v n h=>F4.2 i v (λq=>n (.inr q)) h⟩) ((Gw.d _ _).f.k (Fz.p _ _ _ _)))
  have l5:E.length=B.length+1:=by rw[Q,fX,aB]
  have R:RdO σ δ Γ n g num ip aV args ex u A (ar E (.a [w])) B.length E.length [F] [w] w:=
   ⟨u1.f u4,I4.q Qa,F5.k (Gw.d _ _).f,fU _ g5,fU _ e5,.inr ⟨F,rfl,VA⟩,h9 _ _ _ rfl,.inr ⟨hV.C,rfl⟩,Yq N l4 l5,Yp N l4 l5⟩
  refine b6 u.d λue G=>?_
  rw[<-G] at O kp nv
  rcases i_ with _|j
  ·refine S (WI ⟨Wh,fd,X,fl,T,U,W,Y,V,Wn,Wm,u.d,Wk,sV,Z,sW⟩ (σ.z.length:Nat) E.length i g) A _ _ _ _ _ _ .b ?_ R
   rw[kE] at H O
   exact G▸(eD [(1,ov ln),(3,oh s1),(5,oq (nv (HS σ (ar D (MO.a []))))),(7,ow H),(8,ow O),(10,oh s5),(11,ov (ed A g5 126 (MV.d (B.length+182)) ⋯)),(12,ov (hK A e5 0 F ⋯)),(13,ow kp)] ⋯)
  ·refine S (UX ⟨Wh,fd,X,fl,T,U,W,Y,V,Wn,Wm,u.d,Wk,sV,Z,sW⟩ (σ.z.length:Nat) E.length i g j) A _ _ _ _ _ _ (.c j) ?_ R
   rw[kE] at H O
   exact G▸(eD [(1,ov ln),(3,oh s1),(5,oq (nv (HS σ (ar D (MO.a []))))),(7,ow H),(8,ow O),(10,oh s5),(11,ov (ed A g5 126 (MV.d (B.length+182)) ⋯)),(12,ov (hK A e5 0 F ⋯)),(13,ow kp)] ⋯)
end
end
section
noncomputable def St.uc(σ b:St):St:={σ.up b with z:=b.z,a:=b.a,L:=b.L,Z:=b.Z,X:=b.X,ab:=b.ab}
structure Uc (σ σ':St):Prop where
 D:σ'=σ.uc σ'
 B:∃x,σ'.R=σ.R++x
 A:∀k v,cR σ.B k=some v->cR σ'.B k=some v
theorem Uc.C{σ σ':St}(u:Uc σ σ'){P:St->Prop}(h:P (σ.uc σ')):P σ':=u.D.symm▸h
theorem Uc.w(σ:St):Uc σ σ:=⟨rfl,kT _,λJ J h=>h⟩
theorem Uc.f{a b c:St}(h:Uc a b)(g:Uc b c):Uc a c:=have e:b.uc c=(a.uc b).uc c:=congrArg (St.uc · c) h.D
 ⟨g.D.trans e,xK h.B g.B,λk v e=>g.A k v (h.A k v e)⟩
section
variable{σ σ':St}{Γ:Cf}{n c:Nat}
theorem Up.D(u:Up σ σ'):Uc σ σ':=⟨u.C (P:=λs=>s=σ.uc s) rfl,u.j,u.y⟩
theorem Uc.q(σ:St)(aV args:MV)(sort:Int)(g:Nat):Uc σ (σ.M aV args sort g):=⟨rfl,kT _,λJ J h=>h⟩
theorem Uc.y(σ:St)(l:List (MV×MV)):Uc σ (σ.I l):=⟨rfl,kT _,λJ J h=>h⟩
theorem Uc.r(σ:St)(v:MV):Uc σ (σ.D v):=⟨rfl,kT _,λJ J h=>h⟩
theorem Uc.t(σ:St)(a:List (Int×Nat)):Uc σ (σ.F a):=⟨rfl,kT _,λJ J h=>h⟩
theorem Uc.z(σ:St){R:List Row}(h:∃x,R=σ.R++x):Uc σ (σ.r R):=(Up.R h).D
theorem Inv.E(I:Inv σ Γ n)(v:MV):Inv (σ.D v) Γ n:=
 ⟨⟨I.a.r,I.a.A,I.a.x,I.a.y,I.a.j,I.a.m,I.a.g,I.a.h,I.a.e,I.a.f,I.a.v,I.a.p,I.a.w,I.a.z⟩,⟨I.j.d,I.j.f,I.j.e,I.j.a⟩,I.r,I.F,I.y,I.L,I.A,I.B,I.z,I.C⟩
theorem Inv.H(I:Inv σ Γ n)(b:List (Int×Nat)):Inv (σ.F b) Γ n:=
 ⟨⟨I.a.r,I.a.A,I.a.x,I.a.y,I.a.j,I.a.m,I.a.g,I.a.h,I.a.e,I.a.f,I.a.v,I.a.p,I.a.w,I.a.z⟩,⟨I.j.d,I.j.f,I.j.e,I.j.a⟩,I.r,I.F,I.y,I.L,I.A,I.B,I.z,I.C⟩
theorem Up.B{a:List (Int×Nat)}(u:Up σ σ')(F:FS σ a):FS σ' a:=u.C (P:=λs=>FS s a) ⟨F.j,F.m,F.p,F.k⟩
theorem Up.z(u:Up σ σ'):σ'.z=σ.z/\σ'.a=σ.a:=⟨u.C (P:=λs=>s.z=σ.z) rfl,u.C (P:=λs=>s.a=σ.a) rfl⟩
theorem FS.o{a:List (Int×Nat)}(F:FS σ a)(b:σ'.X=σ.X)(d:σ'.ab=σ.ab):FS σ' a:=⟨b▸F.j,d▸F.m,F.p,F.k⟩
end
structure w_ (δ:List MO) (g:Nat) (num:Int) (aV:MV) (a:Nat):Prop where
 b:δ[g]?=some (gw g num aV .f 0 (.d (a+182)) (g+2) 0 0)
 c:δ[g+1]?=some (.a [])
 d:δ[g+3]?=some (.a [])
theorem tB(D:List MO){num:Int}{aV:MV}{a:Nat}:w_ (fD D (gw D.length num aV .f 0 (.d (a+182)) (D.length+2) 0 0) 6) D.length num aV a:=
 ⟨vP 6,r7 6 (i:=0) Px,r7 6 (i:=2) PS⟩
structure aeG (σ:St) (Γ:Cf) (n:Nat) (σ':St):Prop where
 b:Uc σ σ'
 a:Inv σ' Γ (n+2)
end
section
section
variable{K n b d l f g mu dk:Nat}{σ:St}{δ jE:List MO}{Γ:Cf}{num nf nm ip jH qd sort ex ky ad:Int}{args di fT dp fV op v:MV}{stk dU jb x bb:Nat}{fs:List (Int×Nat)}{st S S' vals:List MV}{e:En}{es:List (Int×En)}
structure Dx (σ:St) (δ jE:List MO) (b:Nat) (Γ:Cf) (n d l g:Nat) (num ip:Int) (e:En) (args:MV) (stk:Nat) (ex:Int) (st:List MV) (v:MV) (c:List (Int×Nat)):Prop where
 a:Inv σ Γ n
 h:n<=60000
 j:d<2
 m:bB l=true
 o:l≠84
 q:pv σ jE b Γ d l e
 r:δ[g]?=some (gw g num e.a (.d 7) ip args stk 0 ex)
 u:δ[g+3]?=some (.a [])
 w:δ[stk]?=some (.a st)
 p:Ret σ.R ((Γ.r d).e l) st v
 c:FS σ (ar c (num,g))
theorem Dx.k(R:Dx σ δ jE b Γ n d l g num ip e args stk ex st v fs){z:Prop}(B:∀(R':List Row) (y:List MO),dM σ.R R' 1->(∀K A,au Tb (K+14) 837 [.d 148,v] (HS ((σ.r R').F fs) (cU δ y))=some (.f,A)->au Tb (K+16) 1248 [op,.d 148,.d (g+182),.c 0] (HS σ δ)=some (.c (-2),A))->z):z:=by
 obtain⟨i,s,t,C,E⟩:=R.q
 exact Vj R.a (by have:=R.h;exact xk this) R.j R.m R.o E R.r R.u R.w R.p R.c B
theorem L9{w:Prop}(R:Dx σ δ jE b Γ n d l g num ip e args stk ex st v (ar fs (nf,f)))(B:δ[f]?=some (gw f nf dp (.d bb) jH di dU sort ky))(s:δ[dU]?=some (.a S))(I:S.length<=100)(F:Giv v S S')(K:Nat)(D:∀σ' m,(au Tb (K+16) 1248 [op,.d 148,.d (g+182),.c 0] (HS σ δ)=some (.c (-2),HS σ' m))->(Uc σ σ')->(Inv σ' Γ (n+1))->(FS σ' (ar fs (nf,f)))->(σ'.z=σ.z)->(σ'.a=σ.a)->(Fz (uM f dU) δ m)->(m[f]?=some (gw f nf dp (.d bb) (jH+1) di dU sort ky))->(m[dU]?=some (.a S'))->w):w:=by
 refine R.k (op:=op) λR' y G h=>?_
 have A:=FS.u (R.c.y (R:=R'))
 have i:=cg y B
 have j:=cg y s
 have C:dU≠f:=by intro q;rw[q,B] at s;cases s
 refine D _ _ (h K _ (Bt A i j I F (K+13))) (((Uc.z σ G.c).f (Uc.t _ _)).f (Uc.r _ _)) (((R.a.R G).H _).E _) (A.o rfl rfl) rfl rfl ?_ ?_ ?_
 ·exact((Gw.k δ y).f.k (Fz.u _ _ _ _)).k (Fz.p _ _ _ _)
 ·exact mX _ (jf _ _ C i)
 ·exact jf _ _ (cH C) (mX _ j)
theorem H0{L:Prop}(R:Dx σ δ jE b Γ n d l g num ip e args stk ex st v (ar fs (nm,mu)))(D:qk σ δ b Γ d l dk ad es)(M:k7 δ mu nm fV qd fT jb x vals ad)(Q:vals.length<=10){p:Int×En}(W:es[x]?=some p)(K:Nat)(T:∀σ' m a s,(au Tb (K+16) 1248 [op,.d 148,.d (g+182),.c 0] (HS σ δ)=some (.c (-2),HS σ' m))->(Uc σ σ')->(Inv σ' Γ (n+3))->(FS σ' (ar fs (nm,mu)))->(σ'.z=ar σ.z (.d (s+182)))->(σ'.a.length=σ.a.length+1)->(Fz (ph mu) δ m)->(k7 m mu nm fV qd fT jb (x+1) vals ad)->(w_ m s ((σ.a.length+1:Nat):Int) p.2.a a)->(m[a]?=some (.a (cU p.2.g vals)))->(δ.length<=a)->(δ.length<=s)->(a<s)->L):L:=by
 refine R.k (op:=op) λR' y G h=>?_
 have P:=FS.u (R.c.y (R:=R'))
 have i:=Gw.k δ y
 have C:Uc σ (((σ.r R').F (ar fs (nm,mu))).D v):=((Uc.z σ G.c).f (Uc.t _ _)).f (Uc.r _ _)
 refine yU (((R.a.R G).H _).E _) (by have:=R.h;exact AS this) R.j (D.w C.A C.B i.f (λJ h=>h.elim:ri (λJ=>False) δ b)) (M.j i) Q W λs' a I V Z N U O r6=>?_
 refine T _ _ a I.length (h K _ (s7 P (M.j i) (K+12) (V (K+3)))) ((C.f (Uc.y _ _)).f (Uc.q _ _ _ _ _)) (Z.M _ _ _ _) (P.o rfl rfl) rfl ?_ ?_ (U.j (xD 6)) (tB I) (zv O 6) (aD i.1 r6) ?_ (cJ O)
 ·show(ar σ.a _).length=_;rw[aB]
 ·exact(i.f.k N).k (xD 6).f
 ·have Y:=i.1;have X:=N.1;exact pz Y X
theorem HZ{L:Prop}(R:Dx σ δ jE b Γ n d l g num ip e args stk ex st v (ar (ar fs (nf,f)) (nm,mu)))(D:qk σ δ b Γ d l dk ad es)(M:k7 δ mu nm fV qd fT jb x vals ad)(T:vals.length<=10)(W:x=es.length)
  (I:δ[f]?=some (gw f nf dp (.d bb) jH di dU sort ky)) (m:δ[dU]?=some (.a S)) (X:S.length<=100) (V:Giv v S S') (K:Nat) (U:∀σ' i,(au Tb (K+16) 1248 [op,.d 148,.d (g+182),.c 0] (HS σ δ)=some (.c (-2),HS σ' i))->(Uc σ σ')->(Inv σ' Γ (n+1))->(FS σ' (ar fs (nf,f)))->(σ'.z=σ.z)->(σ'.a=σ.a)->(Fz (uM f dU) δ i)->(i[f]?=some (gw f nf dp (.d bb) (jH+1) di dU sort ky))->(i[dU]?=some (.a S'))->L):L:=by
 refine R.k (op:=op) λR' y G h=>?_
 have Q:=FS.u (R.c.y (R:=R'))
 have s:=Gw.k δ y
 have N:Inv (((σ.r R').F (ar (ar fs (nf,f)) (nm,mu))).D v) Γ (n+1):=((R.a.R G).H _).E _
 have C:Uc σ (((σ.r R').F (ar (ar fs (nf,f)) (nm,mu))).D v):=((Uc.z σ G.c).f (Uc.t _ _)).f (Uc.r _ _)
 have O:FS (((σ.r R').F (ar (ar fs (nf,f)) (nm,mu))).D v) (ar (ar fs (nf,f)) (nm,mu)):=Q.o rfl rfl
 have P:dU≠f:=by intro q;rw[q,I] at m;cases m
 refine U _ _ (h K _ (s7 Q (M.j s) (K+12) (yT N (by have:=R.h;exact AS this) R.j (D.w C.A C.B s.f (λJ h=>h.elim:ri (λJ=>False) δ b)) (M.j s) T W O (cg y I) (cg y m) X rfl V (K+5)))) ((C.f (Uc.t _ _)).f (Uc.r _ _)) ((N.H _).E _) ((FS.u O).o rfl rfl) rfl rfl ?_ ?_ ?_
 ·exact((s.f.k (Gw.d _ _).f).k (Fz.u _ _ _ _)).k (Fz.p _ _ _ _)
 ·exact mX _ (jf _ _ P (fU _ (cg y I)))
 ·exact jf _ _ (cH P) (mX _ (fU _ (cg y m)))
end
end
section
section
variable{K n t b c d i l fi v stk dk r s g a at_ gv mu ix:Nat}{σ σ':St}{δ aX:List MO}{Γ:Cf}{ad x num ip sort ex ai ii:Int}{aV bd args:MV}{fs:List (Int×Nat)}{cc:LC}{ρ:Loc}
theorem acs{p q:Int}(h:p≠q)(μ:Hp):ct μ .a (.c p) (.c q)=some false:=by
 show some (MV.k (.c p) (.c q))=_
 rw[fe (by intro e;cases e;exact h rfl)]
theorem uV(p:Int)(μ:Hp):ct μ .a (.c p) (.c p)=some true:=by
 show some (MV.k (.c p) (.c p))=_
 rw[hO]
theorem Vu(e:LF cc ai gv ii g ρ)(h:ii≠cc.b)(cl:Call)(F:Nat):bQ Tb cl F (jO cG 11 6) ρ (HS σ δ)=some (.a,ρ,HS σ δ):=by
 have n0:=acs h
 rcases e with _|j
 ·exact ur [(0,oq (n0 (HS σ δ)))] ⋯
 ·exact ur [(0,oq (n0 (HS σ δ)))] ⋯
theorem Vv(o:LF cc ai gv ii g ρ)(h:ii=cc.b)(k:cc.d<2)(H:au Tb K 1327 [.d 148,.d 8,.d (g+182),.c ((1 - cc.d:Nat):Int),.c 1] (HS σ δ)=some (.h true,HS σ' aX))(F:Nat):bQ Tb (au Tb K) F (jO cG 11 6) ρ (HS σ δ)=some (.a,ρ,HS σ' aX):=by
 obtain⟨D,f,u,J,C,E,I,w,G,q,B,y,p,A,z,m⟩:=cc
 have h:ii=m:=h
 subst h
 have n0:=uV ii
 have k:f<2:=k
 have H:=H
 have s1:∀μ,dE μ .e (.c 1) (.c (f:Int))=some (.c ((1 - f:Nat):Int),μ):=λμ=>by
  show some (MV.c ((1:Int) - (f:Int)),μ)=_
  rw[show(1:Int) - (f:Int)=((1 - f:Nat):Int) from(P9 k)]
 rcases o with _|j
 ·exact ur [(0,oq (n0 (HS σ δ))),(2,ow (s1 (HS σ δ))),(3,ow H)] ⋯
 ·exact ur [(0,oq (n0 (HS σ δ))),(2,ow (s1 (HS σ δ))),(3,ow H)] ⋯
theorem Kh(o:LF cc ai gv ii g ρ)(e:δ[cc.a]?=some (gw cc.a num aV bd ip args stk sort ex))(hb:cc.f=ip+1)(H:au Tb K 1248 [.d (δ.length+182),.d 148,.d (g+182),.c 0] (HS σ (ar δ (.d 1251 [])))=some (.c (-2),HS σ' aX))(F:Nat):bQ Tb (au Tb K) F (jO cG 11 11) ρ (HS σ δ)=some (.a,ρ,HS σ' aX):=by
 obtain⟨M,L,z,D,q,u,y,A,w,I,C,J,E,p,B,G⟩:=cc
 have hb:p=ip+1:=hb
 subst hb
 have e:=e
 have h:∀μ,ct μ .b (.c ip) (.c (ip+1 - 1))=some false:=λμ=>by
  rw[jc]
  show(some (MV.k (.c ip) (.c ip))).map (!·)=_
  rw[hO];rfl
 have rs:gI Tb (HS σ (ar δ (.d 1251 []))) (.d (δ.length+182)) 293=some (.c 1248):=(hpI (by rw[df];exact h9 δ (MO.d 1251 []) δ.length rfl)).trans ⋯
 have m:yf Tb (au Tb K) 1251 [] (HS σ δ)=some (.d (δ.length+182),HS σ (ar δ (.d 1251 []))):=by
  refine(D5 (by kernel_rfl:Tb.g 1251=some none)).trans ?_
  rw[<-kC,<-kD σ];rfl
 rcases o with _|j
 ·exact ur [(0,ov (ed σ e 127 (MV.c ip) ⋯)),(2,oq (h (HS σ δ))),(4,ow m),(5,oc rs),(6,ow H)] ⋯
 ·exact ur [(0,ov (ed σ e 127 (MV.c ip) ⋯)),(2,oq (h (HS σ δ))),(4,ow m),(5,oc rs),(6,ow H)] ⋯
end
end
section
structure q9 (σ:St) (δ:List MO) (Γ:Cf) (n k fi:Nat) (num:Int) (aV args:MV) (sort ex:Int) (L:List MV) (σ':St) (aX:List MO):Prop where
 d:Uc σ σ'
 c:Inv σ' Γ (n+k*100)
 a:∀a,FS σ a->FS σ' a
 f:Fz (uM fi (fi+1)) δ aX
 e:∃ip stk,aX[fi]?=some (gw fi num aV (.d 7) ip args stk sort ex)
 b:∃L',aX[fi+1]?=some (.a L')/\L'.length<=L.length+3
 g:σ'.a.length<=σ.a.length+k*6
 h:σ.a.length<=σ'.a.length
noncomputable def TK(g a:Nat):Nat->Prop:=λi=>i=g\/i=g+1\/i=a
section
variable{K n b d l g a mu dk gv ix:Nat}{σ:St}{δ:List MO}{Γ:Cf}{num:Int}{fs:List (Int×Nat)}{P ws rows:List MV}{e:En}{cc:LC}{ρ:Loc}
structure uF (σ:St) (δ:List MO) (Γ:Cf) (n m g a:Nat) (num:Int) (e:En) (u:CT) (x:List (Int×Nat)) (σ':St) (aX:List MO) (ip:Int) (stk gv:Nat) (st gl:List MV) (v:MV):Prop where
 j:Uc σ σ'
 B:Inv σ' Γ (n+m)
 x:FS σ' (ar x (num,g))
 c:Fz (TK g a) δ aX
 C:aX[g]?=some (gw g num e.a (.d 7) ip (.d (a+182)) stk 0 0)
 D:aX[g+3]?=some (.a [])
 F:aX[stk]?=some (.a st)
 q:Ret σ'.R u st v
 A:aX[gv]?=some (.a gl)
 o:v= .f/\gl=[]\/(∃p,v= .e p)/\gl=[v]
 w:σ'.a.length<=σ.a.length+m/100*6
 z:δ.length<=gv
 k:σ.a.length<=σ'.a.length
noncomputable def Within(K:Nat)(cc:LC)(σ:St)(δ:List MO)(Γ:Cf)(n m ix:Nat)(fs:List (Int×Nat))(g a:Nat)(num:Int)(e:En):Prop:=
 (ix:Int)≠cc.b/\m=2\/(ix:Int)=cc.b/\m=102/\∀f i,Uc σ f->Inv f Γ n->FS f (ar fs (num,g))->Fz (TK g a) δ i->f.a=σ.a->i[g]?=some (gw g num e.a (.d 7) 0 (.d (a+182)) (g+2) 0 0)->i[g+1]?=some (.a [])->∀{j:Prop},(∀k o,au Tb (K+16) 1327 [.d 148,.d 8,.d (g+182),.c ((1 - cc.d:Nat):Int),.c 1] (HS f i)=some (.h true,HS k o)->q9 f i Γ n 1 g num e.a (.d (a+182)) 0 0 [] k o->j)->j
theorem Fj(I:Inv σ Γ n)(Q:n<=50000)(hd:cc.d<2)(dP:bB cc.l=true)(cQ:cc.l≠84)(F:FS σ fs)(J:∀q∈fs,q.1≠num)(UC:fs.length<=90)(hp:σ.z=ar P (.d (g+182)))
  (i_:LS cc (P.length:Nat) gv (ix:Int) ρ)
  (N:w_ δ g num e.a a) (W:δ[a]?=some (.a (cU e.g ws))) (wQ:a≠g+1/\a≠g+3) (My:δ[cc.j]?=some (.a rows)) (UI:rows[ix]?=some e.c) (IG:ix<=100) (MA:δ[e.o]?=some (.a e.g)) (hkp:δ[cc.h]?=some (.a ws))
  (Wq:e.g.length<=1/\ws.length<=3) (hpl:(cU e.g ws).all (bh 8)=true) (hm:bh 8 e.a=true) (jY:cc.c=((Γ.r cc.d).e cc.l).d) {m:Nat}
  (hw:Within K cc σ δ Γ n m ix fs g a num e) {Ω:Prop} (ω:∀ρ' σ' aX ip stk s st E v,(LF cc (σ'.z.length:Nat) s (ix:Int) g ρ')->aY Tb (au Tb (K+16)) (K+16) (bX++([jO cG 11 6]++bY)) ρ (HS σ δ)=some (.a,ρ',HS σ' aX)->uF σ δ Γ n m g a num e ((Γ.r cc.d).e cc.l) fs σ' aX ip stk s st E v->Ω):Ω:=by
 refine adb F J hp (GR (by have:=I.y;rw[hp,aB] at this;exact YE Q this)) i_ N.b My UI IG MA hkp W Wq hpl hm (K+15) λbt r V x1=>?_
 refine b6 (σ.F (ar fs (num,g))) λdA C=>?_
 refine b6 (((ar δ (.a (cU e.g ws))).set g (gw g num e.a (.d 7) 0 (.d (a+182)) (g+2) 0 0)).set a (.a r)) λU T=>?_
 replace x1:=T.symm▸C.symm▸x1
 have I1:=C▸(I.H _)
 have F1:=C▸(F.w J (YD UC) g)
 have G:Fz (TK g a) δ U:=T▸(((Gw.d _ _).f.k (Fz.y _ (.inl rfl))).k (Fz.y _ (.inr (.inr rfl))))
 have g1:=T▸(jf _ _ (by intro q;rw[q,N.b] at W;cases W) (mX _ (fU _ N.b)))
 have S:=T▸(jf _ _ wQ.1 (jf _ _ xl (fU _ N.c)))
 have A:=T▸(jf _ _ wQ.2 (jf _ _ YC (fU _ N.d)))
 have u1:=C▸(Uc.t _ _)
 have M:dA.a=σ.a:=by rw[C]
 have ha1:=cJ W
 have hu:(Γ.r cc.d).e cc.l= .b 118\/bB ((Γ.r cc.d).e cc.l).f=true/\((Γ.r cc.d).e cc.l).f≠84:=by
  rcases I.a.z cc.d with h|h
  ·left;rw[h];rfl
  ·exact .inr (Aj h dP cQ)
 rcases hw with⟨r9,rfl⟩|⟨heq,rfl,abP⟩
 ·have w0:=Vu (σ:=dA) (δ:=U) V r9 (au Tb (K+16)) (K+16)
  refine RC (K:=K+6) (u:=(Γ.r cc.d).e cc.l) I1 (Yk Q) (by have:=I1.y;exact Yj Q this) V jY hu g1 S (by simp) λZ dR dq stk s st E v L y2 R=>?_
  have p:=R.a.z
  rw[<-p.1] at L
  refine ω Z dR dq 0 stk s st E v L ?_ ⟨u1.f R.a.D,R.c.q Yi,R.a.B F1,?_,R.f,R.b.2 _ _ (λq=>fJ q (λq=>yY q) λq=>yX q) A,R.h,R.d,R.i,R.e,p.2▸M▸Yh,by have t1:=G.1;have t2:=R.j;exact pz t1 t2,p.2▸M▸AL⟩
  ·rw[cz x1,cz (x:=[jO cG 11 6]) (cD w0 rfl)];exact y2
  ·exact G.k ⟨R.b.1,λi v n h=>R.b.2 i v (λq=>n (by rcases q with q|q;exact .inl q;exact .inr (.inl q))) h⟩
 ·refine abP dA U u1 I1 F1 G M g1 S λdR dq X O=>?_
  have w1:=Vv V heq hd X (K+16)
  refine Ei O.e λY aez Ul=>?_
  refine cf O.b λL2 Iw Ml=>?_
  have Z2:Fz (TK g a) U dq:=⟨O.f.1,λi v n h=>O.f.2 i v (λq=>n (by rcases q with q|q;exact .inl q;exact .inr (.inl q))) h⟩
  have I2:=O.c
  refine RC (K:=K+6) (u:=(Γ.r cc.d).e cc.l) I2 (Yg Q) (by have:=I2.y;exact Ye Q this) V jY hu Ul Iw (by simp at Ml;exact Yd Ml) λZ dI h_ stk s st E v L y2 R=>?_
  have p:=R.a.z
  rw[<-p.1] at L
  refine ω Z dI h_ Y stk s st E v L ?_ ⟨(u1.f O.d).f R.a.D,R.c.q Yc,R.a.B (O.a _ F1),?_,R.f,R.b.2 _ _ (λq=>fJ q (λq=>yY q) λq=>yX q) (O.f.2 _ _ (λq=>fJ q (λq=>yY q) λq=>yX q) A),R.h,R.d,R.i,R.e,by rw[p.2];have:=O.g;rw[M] at this;exact Yb this,by have t1:=G.1;have t2:=Z2.1;have t3:=R.j;exact S6 t1 t2 t3,by rw[p.2];have:=O.h;rw[M] at this;exact PV this⟩
  ·rw[cz x1,cz (x:=[jO cG 11 6]) (cD w1 rfl)];exact y2
  ·exact(G.k Z2).k ⟨R.b.1,λi v n h=>R.b.2 i v (λq=>n (by rcases q with q|q;exact .inl q;exact .inr (.inl q))) h⟩
end
end
section
noncomputable abbrev sG:List MS:=[jO cG 11 0]++((bX++([jO cG 11 6]++bY))++[jO cG 11 11])
theorem RF:fF cG 11= .g (.b 182) (.a (.p (.d 4))) sG:=⋯
section
variable{K n b d l g a mu dk gv ix bb:Nat}{σ:St}{δ:List MO}{Γ:Cf}{num nf jH:Int}{fs:List (Int×Nat)}{P ws rows bj:List MV}{e:En}{cc:LC}{ρ:Loc}{dp di:MV}{dU:Nat}{dQ ky:Int}
structure t9 (cc:LC) (σ:St) (δ:List MO) (Γ:Cf) (n:Nat) (nf jH:Int) (dp di:MV) (dU:Nat) (dQ ky:Int) (f:List (Int×Nat)) (bj:List MV) (lo:Nat) (σ':St) (aX:List MO) (gv:Nat) (gl:List MV):Prop where
 t:Uc σ σ'
 c:Inv σ' Γ n
 f:FS σ' (ar f (nf,cc.a))
 k:Fz (λi=>i=cc.a\/i=dU\/lo<=i) δ aX
 o:aX[cc.a]?=some (gw cc.a nf dp (.d 7) (jH+1) di dU dQ ky)
 w:aX[dU]?=some (.a (cU bj gl))
 x:aX[gv]?=some (.a gl)
 r:gl.all (bh 8)=true/\gl.length<=1
 j:σ.a.length<=σ'.a.length
theorem Iu{v:MV}{c:List MV}(h:v= .f/\c=[]\/(∃p,v= .e p)/\c=[v])(S:List MV):Giv v S (cU S c):=by
 rcases h with⟨rfl,rfl⟩|⟨⟨p,rfl⟩,rfl⟩
 ·exact .inl ⟨rfl,by unfold cU;simp⟩
 ·exact .inr ⟨⟨p,rfl⟩,rfl⟩
theorem uF.y{m:Nat}{σ':St}{t:List MO}{ip:Int}{stk G:Nat}{st s:List MV}{v:MV}{u:CT}(T:uF σ δ Γ n m g a num e u fs σ' t ip stk G st s v):s.all (bh 8)=true/\s.length<=1:=by
 rcases T.o with⟨_,h⟩|⟨⟨p,E⟩,h⟩
 ·rw[h];exact⟨rfl,b7 _⟩
 ·rcases T.q with⟨_,_,i⟩|⟨r,_,i⟩
  ·replace i:=E▸i;cases i
  ·rw[h];exact⟨by show(bh 8 v&&true)=true;rw[i.p];rfl,aC _⟩
theorem uF.f{m:Nat}{σ':St}{u:List MO}{ip:Int}{stk Q:Nat}{st S:List MV}{v:MV}(T:uF σ δ Γ n m g a num e ((Γ.r d).e l) fs σ' u ip stk Q st S v)(L:n+m<=60000)(N:d<2)(H:bB l=true)(M:l≠84)(E:pv σ δ b Γ d l e){G:Prop}(O:∀I,Dx σ' (ar u (.d 1251 [])) I b Γ (n+m) d l g num ip e (.d (a+182)) stk 0 st v fs->G):G:=by
 refine O δ ⟨T.B,L,N,H,M,?_,fU _ T.C,fU _ T.D,fU _ T.F,T.q,T.x⟩
 obtain⟨i,s,t,R,E⟩:=E
 exact⟨i,s,t,R,E.A (σ':=σ') T.j.A T.j.B (Gw.p δ).f (λJ h=>h.elim:ri (λJ=>False) δ b)⟩
end
end
section
section
variable{K n m b d l g a mu dk gv ix bb:Nat}{σ:St}{δ:List MO}{Γ:Cf}{num nf jH:Int}{fs jW:List (Int×Nat)}{P ws rows bj:List MV}{e:En}{cc:LC}{ρ:Loc}{dp di:MV}{dU:Nat}{dQ ky:Int}
theorem JR{e:En}(h:bh 7 e.j=true):bh 8 e.a=true:=by
 show(true&&(true&&(bh 7 e.j&&true)))=true
 rw[h];rfl
theorem pv.p(E:pv σ δ b Γ d l e):e.g.length<=1/\e.g.all (bh 8)=true/\bh 8 e.a=true/\δ[e.o]?=some (.a e.g):=by
 obtain⟨i,s,t,c,E⟩:=E
 refine⟨?_,?_,JR E.w,E.y⟩
 ·rcases E.p with⟨_,h⟩|⟨_,_,_,h⟩|⟨_,_,_,_,h⟩<;>rw[h]<;>simp
 ·rcases E.p with⟨_,h⟩|⟨_,_,_,h⟩|⟨_,_,_,_,h⟩<;>rw[h]<;>rfl
structure Due (cc:LC) (σ:St) (δ:List MO) (Γ:Cf) (n b ix:Nat) (fs:List (Int×Nat)) (P:List MV) (g a:Nat) (num:Int) (e:En) (ws rows:List MV):Prop where
 i:Inv σ Γ n
 F:FS σ fs
 r:∀q∈fs,q.1≠num
 p:fs.length<=90
 f:σ.z=ar P (.d (g+182))
 N:w_ δ g num e.a a
 w:δ[a]?=some (.a (cU e.g ws))
 h:a<g
 k:δ[cc.j]?=some (.a rows)
 u:rows[ix]?=some e.c
 t:δ[cc.h]?=some (.a ws)
 j:ws.length<=3
 s:ws.all (bh 8)=true
 E:pv σ δ b Γ cc.d cc.l e
theorem Due.c(T:Due cc σ δ Γ n b ix fs P g a num e ws rows)(H:n<=50000)(M:cc.d<2)(D:bB cc.l=true)(I:cc.l≠84)(L:ix<=100)(J:cc.c=((Γ.r cc.d).e cc.l).d)
  (Q:LS cc (P.length:Nat) gv (ix:Int) ρ) (W:Within K cc σ δ Γ n m ix fs g a num e) {y:Prop} (O:∀ρ' σ' x ip stk C st S v,(LF cc (σ'.z.length:Nat) C (ix:Int) g ρ')->aY Tb (au Tb (K+16)) (K+16) (bX++([jO cG 11 6]++bY)) ρ (HS σ δ)=some (.a,ρ',HS σ' x)->uF σ δ Γ n m g a num e ((Γ.r cc.d).e cc.l) fs σ' x ip stk C st S v->y):y:=by
 refine k9 T.E.p λV U R G=>?_
 exact Fj T.i H M D I T.F T.r T.p T.f Q T.N T.w ⟨by have:=T.h;exact(λq=>bZ [_,_] (.o (V0.A+1) V0.B (.f (V0.B+1) V0.A .z)) rfl this q),by have:=T.h;exact(λq=>bZ [_,_] (.o (V0.A+1) V0.B (.f (V0.B+3) V0.A .z)) rfl this q)⟩ T.k T.u L G T.t ⟨V,T.j⟩ (by unfold cU;rw[VT,U,T.s];rfl) R J W O
theorem Due.o(T:Due cc σ δ Γ n b ix fs P g a num e ws rows)(q:n<=50000)(v:LS cc (P.length:Nat) gv (ix:Int) ρ)(K:Nat):
  bQ Tb (au Tb (K+1)) (K+1) (jO cG 11 0) ρ (HS σ δ)=some (.a,ρ,HS σ δ):=by
 refine ab9▸(Ap (KJ T.f (by have:=T.i.y;rw[T.f,aB] at this;exact(bN [_,_] V0.B 90000 (.o V0.A 50000 (.o (V0.B+1) V0.A .z)) rfl q this)) (ed σ T.N.b 5 (.c 0) ⋯) v _))
end
end
section
section
variable{K n m b d l g a mu dk gv ix bb lo:Nat}{σ:St}{δ:List MO}{Γ:Cf}{num nf nm jH qd:Int}{fs jW:List (Int×Nat)}{P ws rows bj:List MV}{e:En}{cc:LC}{ρ:Loc}{dp di fV fT:MV}{dU jb:Nat}{dQ ky ad:Int}{es:List (Int×En)}
theorem J1{bt h:Loc}{μ bC f:Hp}{cl:Call}{F:Nat}(k:bQ Tb cl F (jO cG 11 0) ρ μ=some (.a,bt,bC))(j:aY Tb cl F (bX++([jO cG 11 6]++bY)) bt bC=some (.a,h,f)){c:Loc}{mL:Hp}(i:bQ Tb cl F (jO cG 11 11) h f=some (.a,c,mL)):aY Tb cl F sG ρ μ=some (.a,c,mL):=by
 rw[cz (x:=[jO cG 11 0]) (cD k rfl),cz j]
 exact cD i rfl
structure OM (cc:LC) (δ:List MO) (nf jH:Int) (dp di:MV) (dU:Nat) (dQ ky:Int) (bj:List MV) (lo:Nat):Prop where
 f:δ[cc.a]?=some (gw cc.a nf dp (.d 7) jH di dU dQ ky)
 p:δ[dU]?=some (.a bj)
 r:bj.length<=90
 c:cc.f=jH+1
 k:cc.a<lo
 o:dU<lo
theorem OM.j{s:List MO}{S:Nat->Prop}(C:OM cc δ nf jH dp di dU dQ ky bj lo)(g:Fz S δ s)(h:∀i,S i->lo<=i):OM cc s nf jH dp di dU dQ ky bj lo:=
 ⟨g.2 _ _ (λq=>by have u:=h _ q;have v:=C.k;exact sD u v) C.f,g.2 _ _ (λq=>by have w:=h _ q;have t:=C.o;exact sD w t) C.p,C.r,C.c,C.k,C.o⟩
theorem Mb{N:Prop}(T:Due cc σ δ Γ n b ix (ar jW (nf,cc.a)) P g a num e ws rows)(D:n<=40000)(Q:cc.d<2)(M:bB cc.l=true)(U:cc.l≠84)(Z:ix<=100)(V:cc.c=((Γ.r cc.d).e cc.l).d)
  (G:LS cc (P.length:Nat) gv (ix:Int) ρ) (W:Within K cc σ δ Γ n m ix (ar jW (nf,cc.a)) g a num e)
  (C:OM cc δ nf jH dp di dU dQ ky bj lo) (F:lo<=a) (S:lo<=δ.length) (hm:m<=200) (X:∀ρ' σ' I u B,(LF cc (σ'.z.length:Nat) u (ix:Int) g ρ')->(aY Tb (au Tb (K+16)) (K+16) sG ρ (HS σ δ)=some (.a,ρ',HS σ' I))->(t9 cc σ δ Γ (n+m+1) nf jH dp di dU dQ ky jW bj lo σ' I u B)->(σ'.a.length<=σ.a.length+m/100*6)->N):N:=by
 refine T.c (uK D) Q M U Z V G W λbt dA L ip stk u st B v t x1 O=>?_
 refine O.f (b:=b) (GS D hm) Q M U T.E λjE R=>?_
 have J:∀i,TK g a i->lo<=i:=λi hi=>by have:=T.h;rcases hi with q|q|q<;>first|exact yZ F this q|exact y4 F this q|exact GV F q
 have s:=C.j O.c J
 have w:=Gw.d L (.d 1251 [])
 refine L9 (op:= .d (L.length+182)) R (w.2 _ _ s.f) (w.2 _ _ s.p) (by have:=C.r;exact Qd this) (Iu O.o bj) K λdR dq c1 Y I2 F2 p2 k2 x Ul FP=>?_
 have t:=p2.symm▸t
 refine X bt dR dq u B t (J1 (T.o (uK D) G (K+15)) x1 (Kh (ρ:=bt) (g:=g) (ii:=(ix:Int)) t s.f s.c c1 (K+16))) ⟨O.j.f Y,I2,F2,?_,Ul,FP,?_,O.y,k2▸O.k⟩ (k2▸O.w)
 ·exact Fz.k ⟨O.c.1,λi v n h=>O.c.2 i v (λq=>n (.inr (.inr (J i q)))) h⟩ (w.f.k ⟨x.1,λi v n h=>x.2 i v (λq=>n (by rcases q with q|q;exact .inl q;exact .inr (.inl q))) h⟩)
 ·exact x.2 _ _ (λq=>by have t1:=C.k;have t2:=C.o;have H:=O.z;rcases q with q|q<;>first|exact vA S t1 H q|exact vA S t2 H q) (w.2 _ _ O.A)
end
end
section
section
variable{K n m b d l g a mu dk gv ix bb lo:Nat}{σ gK:St}{δ fM:List MO}{Γ:Cf}{num nf nm jH qd:Int}{fs jW:List (Int×Nat)}{P ws rows bj:List MV}{e:En}{cc:LC}{ρ:Loc}{dp di fV fT:MV}{dU jb:Nat}{dQ ky ad:Int}{es:List (Int×En)}{x:Nat}{vals:List MV}
theorem k7.o{c:List MO}{S:Nat->Prop}{ip:Int}{aV args:MV}{stk:Nat}(M:k7 δ mu num aV ip args stk x vals ad)(g:Fz S δ c)(f: ¬S mu)(i: ¬S (mu+6)):k7 c mu num aV ip args stk x vals ad:=⟨g.2 _ _ f M.k,g.2 _ _ i M.h⟩
structure FN (cc:LC) (gK:St) (fM:List MO) (Γ:Cf) (b o:Nat) (es:List (Int×En)) (σ:St) (δ:List MO):Prop where
 D:qk gK fM b Γ cc.d cc.l cc.i cc.g es
 k:Uc gK σ
 j:Fz (uM cc.a (cc.a+1)) fM δ
 p:cc.a+1<b
 o:fM.length<=o
theorem FN.c(M:FN cc gK fM Γ b lo es σ δ):qk σ δ b Γ cc.d cc.l cc.i cc.g es:=
 M.D.w M.k.A M.k.B M.j (ri.a λi h=>by have:=M.p;rcases h with q|q<;>first|exact Hj this q|exact Hk this q)
theorem FN.f{σ':St}{r:List MO}{S:Nat->Prop}(M:FN cc gK fM Γ b lo es σ δ)(u:Uc σ σ')(g:Fz S δ r)(h:∀i,S i->i=cc.a\/lo<=i):FN cc gK fM Γ b lo es σ' r:=
 ⟨M.D,M.k.f u,⟨aD M.j.1 g.1,λi v n q=>g.2 i v (λs=>by
  have:=M.o
  rcases h i s with h|h
  ·exact n (.inl h)
  ·have t:=cJ q;exact S7 this h t) (M.j.2 i v n q)⟩,M.p,M.o⟩
theorem Ie(T:Due cc σ δ Γ n b ix (ar (ar jW (nf,cc.a)) (nm,mu)) P g a num e ws rows)(L:n<=40000)(hd:cc.d<2)(Z:bB cc.l=true)(cQ:cc.l≠84)(IG:ix<=100)(jY:cc.c=((Γ.r cc.d).e cc.l).d)
  (U:LS cc (P.length:Nat) gv (ix:Int) ρ) (W:Within K cc σ δ Γ n m ix (ar (ar jW (nf,cc.a)) (nm,mu)) g a num e)
  (C:OM cc δ nf jH dp di dU dQ ky bj lo) (N:lo<=a) (IH:lo<=δ.length) (hm:m<=200)
  (B:FN cc gK fM Γ b lo es σ δ) (M:k7 δ mu nm fV qd fT jb (ix+1) ws cc.g) (s:mu+6<a) (hx:ix+1=es.length) {Ω:Prop} (ω:∀ρ' σ' X D G,(LF cc (σ'.z.length:Nat) D (ix:Int) g ρ')->aY Tb (au Tb (K+16)) (K+16) sG ρ (HS σ δ)=some (.a,ρ',HS σ' X)->t9 cc σ δ Γ (n+m+1) nf jH dp di dU dQ ky jW bj lo σ' X D G->σ'.a.length<=σ.a.length+m/100*6->Ω):Ω:=by
 refine T.c (uK L) hd Z cQ IG jY U W λbt dA Y ip stk D st G v I x1 O=>?_
 refine O.f (b:=b) (GS L hm) hd Z cQ T.E λjE R=>?_
 have t:=T.h
 have H:∀i,TK g a i->lo<=i:=λi Q=>fJ Q (λq=>yZ N t q) λq=>fJ q (λq=>y4 N t q) λq=>GV N q
 have u:=C.j O.c H
 have w:=Gw.d Y (.d 1251 [])
 have lw:=T.j
 refine HZ (op:= .d (Y.length+182)) R ((B.f O.j O.c λi Q=> .inr (H i Q)).f (Uc.w _) w.f (S:=λJ=>False) λJ h=>h.elim).c ((M.o O.c (λq=>fJ q (λq=>Hi s t q) λq=>fJ q (λq=>Hh s t q) λq=>Hg s q) λq=>fJ q (λq=>Hf s t q) λq=>fJ q (λq=>He s t q) λq=>Hd s q).j w) (Qe lw) hx (w.2 _ _ u.f) (w.2 _ _ u.p) (by have:=C.r;exact Qd this) (Iu O.o bj) K λdR dq c1 u2 I2 F2 p2 k2 F Ul FP=>?_
 rw[<-p2] at I
 refine ω bt dR dq D G I (J1 (T.o (uK L) U (K+15)) x1 (Kh (ρ:=bt) (g:=g) (ii:=(ix:Int)) I u.f u.c c1 (K+16))) ⟨O.j.f u2,I2,F2,?_,Ul,FP,?_,O.y,k2▸O.k⟩ (k2▸O.w)
 ·exact Fz.k ⟨O.c.1,λi v n h=>O.c.2 i v (λq=>n (.inr (.inr (H i q)))) h⟩ (w.f.k ⟨F.1,λi v n h=>F.2 i v (λq=>n (by rcases q with q|q;exact .inl q;exact .inr (.inl q))) h⟩)
 ·exact F.2 _ _ (λq=>by have t1:=C.k;have t2:=C.o;have V:=O.z;rcases q with q|q<;>first|exact vA IH t1 V q|exact vA IH t2 V q) (w.2 _ _ O.A)
structure ads (cc:LC) (σ:St) (δ:List MO) (Γ:Cf) (n:Nat) (nm qd:Int) (fV fT:MV) (jb c x:Nat) (ws:List MV) (d:List (Int×Nat)) (lo:Nat) (e:En) (σ':St) (aX:List MO) (g a:Nat) (P:List MV):Prop where
 f:Uc σ σ'
 j:Inv σ' Γ n
 d:FS σ' d
 k:σ'.z=ar P (.d (g+182))
 b:Fz (λi=>i=c\/lo<=i) δ aX
 c:k7 aX c nm fV qd fT jb x ws cc.g
 N:w_ aX g ((σ'.a.length:Nat):Int) e.a a
 o:aX[a]?=some (.a (cU e.g ws))
 l:δ.length<=a
 m:δ.length<=g
 p:a<g
 h:σ.a.length<=σ'.a.length
end
end
section
section
variable{K n m b d l g a mu dk gv ix bb lo:Nat}{σ gK:St}{δ fM:List MO}{Γ:Cf}{num nf nm jH qd:Int}{fs jW:List (Int×Nat)}{P ws rows bj:List MV}{e:En}{cc:LC}{ρ:Loc}{dp di fV fT:MV}{dU jb:Nat}{dQ ky ad:Int}{es:List (Int×En)}{p:Int×En}
theorem Fm{Ω:Prop}(T:Due cc σ δ Γ n b ix (ar jW (nm,mu)) P g a num e ws rows)(G:n<=40000)(hd:cc.d<2)(dP:bB cc.l=true)(cQ:cc.l≠84)(IG:ix<=100)(jY:cc.c=((Γ.r cc.d).e cc.l).d)
  (X:LS cc (P.length:Nat) gv (ix:Int) ρ) (W:Within K cc σ δ Γ n m ix (ar jW (nm,mu)) g a num e)
  (C:OM cc δ nf jH dp di dU dQ ky bj lo) (H:lo<=a) (IH:lo<=δ.length) (hm:m<=200)
  (B:FN cc gK fM Γ b lo es σ δ) (M:k7 δ mu nm fV qd fT jb (ix+1) ws cc.g) (s:mu+6<a) (hlm:lo<=mu) (hx:es[ix+1]?=some p) (bG:∀ρ' σ' Y I g' a' P',(LF cc (P'.length:Nat) I (ix:Int) g ρ')->(aY Tb (au Tb (K+16)) (K+16) sG ρ (HS σ δ)=some (.a,ρ',HS σ' Y))->(ads cc σ δ Γ (n+m+3) nm qd fV fT jb mu (ix+2) ws (ar jW (nm,mu)) lo p.2 σ' Y g' a' P')->(σ'.a.length<=σ.a.length+m/100*6+1)->Ω):Ω:=by
 refine T.c (uK G) hd dP cQ IG jY X W λbt dA Z ip stk I st gl v f1 x1 O=>?_
 refine O.f (b:=b) (GS G hm) hd dP cQ T.E λjE R=>?_
 have t:=T.h
 have F:∀i,TK g a i->lo<=i:=λi L=>fJ L (λq=>yZ H t q) λq=>fJ q (λq=>y4 H t q) λq=>GV H q
 have U:=C.j O.c F
 have w:=Gw.d Z (.d 1251 [])
 refine H0 (op:= .d (Z.length+182)) R ((B.f O.j O.c λi L=> .inr (F i L)).f (Uc.w _) w.f (S:=λJ=>False) λJ h=>h.elim).c ((M.o O.c (λq=>fJ q (λq=>Hi s t q) λq=>fJ q (λq=>Hh s t q) λq=>Hg s q) λq=>fJ q (λq=>Hf s t q) λq=>fJ q (λq=>He s t q) λq=>Hd s q).j w) (Qe T.j) hx K λdR dq a2 g2 c1 u2 I2 F2 p2 k2 Q M2 N2 y u UY x=>?_
 have N:=O.c.1
 have V:=w.1
 refine bG bt dR dq I g2 a2 dA.z f1 (J1 (T.o (uK G) X (K+15)) x1 (Kh (ρ:=bt) (g:=g) (ii:=(ix:Int)) f1 U.f U.c c1 (K+16))) ⟨O.j.f u2,I2,F2,p2,?_,M2,k2▸N2,y,aD N (aD V u),bN [_,_,_,_,_] V0.D V0.C (.o V0.A V0.B (.o (V0.B+1) V0.C (.o V0.D V0.E (.o V0.E V0.A .z)))) rfl u x N V,x,by rw[k2];have:=O.k;exact xi this⟩ (by rw[k2];have:=O.w;exact(RM this))
 exact Fz.k ⟨O.c.1,λi v n h=>O.c.2 i v (λq=>n (.inr (F i q))) h⟩ (w.f.k ⟨Q.1,λi v n h=>Q.2 i v (λq=>n (.inl q)) h⟩)
end
end
section
theorem adj{f bt:Loc}{lV bC:Hp}{cl:Call}{F:Nat}{r:Option (Fl×Loc×Hp)}(j:bQ Tb cl F (jO cG 11 0) f lV=some (.a,bt,bC))(i:bQ Tb cl F (jO cG 11 0) bt bC=some (.a,bt,bC))(h:aY Tb cl F sG bt bC=r):aY Tb cl F sG f lV=r:=by
 have e:∀ρ μ ρ' c,bQ Tb cl F (jO cG 11 0) ρ μ=some (.a,ρ',c)->aY Tb cl F sG ρ μ=aY Tb cl F ((bX++([jO cG 11 6]++bY))++[jO cG 11 11]) ρ' c:=λρ μ ρ' c h=>by
  rw[cz (x:=[jO cG 11 0]) (cD h rfl)]
 exact(e _ _ _ _ j)▸(e _ _ _ _ i)▸h
section
variable{K n m b d l g a mu dk gv ix bb lo:Nat}{σ gK:St}{δ fM:List MO}{Γ:Cf}{num nf nm jH qd:Int}{fs jW:List (Int×Nat)}{P ws rows bj:List MV}{e:En}{cc:LC}{ρ:Loc}{dp di fV fT:MV}{dU jb:Nat}{dQ ky ad:Int}{es:List (Int×En)}{p:Int×En}
theorem Jm{j:Prop}(T:Due cc σ δ Γ n b 0 (ar jW (nf,cc.a)) P g a num e ws [e.c])(s:n<=40000)(x:cc.d<2)(o:bB cc.l=true)(q:cc.l≠84)(u:cc.c=((Γ.r cc.d).e cc.l).d)
  (W:Within K cc σ δ Γ n m 0 (ar jW (nf,cc.a)) g a num e) (C:OM cc δ nf jH dp di dU dQ ky bj lo) (y:lo<=a) (B:lo<=δ.length) (hm:m<=200) (v:∀ρ' σ' i f h,(LF cc (σ'.z.length:Nat) f 0 g ρ')->(bQ Tb (au Tb (K+16)) (K+16) (fF cG 11) (Nc cc (P.length:Nat) gv) (HS σ δ)=some (.a,ρ',HS σ' i))->(t9 cc σ δ Γ (n+m+1) nf jH dp di dU dQ ky jW bj lo σ' i f h)->(σ'.a.length<=σ.a.length+m/100*6)->j):j:=by
 refine Mb (ρ:=Nd cc (P.length:Nat) gv ((0:Nat):Int)) (gv:=gv) T s x o q (by decide) u .d W C y B hm λbt w A f h t x1 O k1=>?_
 exact v bt w A f h t (RF▸(abG (n9 [(0,ov (hJ σ T.k (by simp)))] ⋯) rfl x1)) O k1
end
end
section
section
variable{K n m mm b d l g a mu dk gv ix bb lo:Nat}{σ gK:St}{δ fM:List MO}{Γ:Cf}{num nf nm jH qd:Int}{fs jW:List (Int×Nat)}{P ws rows bj:List MV}{e:En}{cc:LC}{ρ:Loc}{dp di fV fT:MV}{dU jb:Nat}{dQ ky ad:Int}{es:List (Int×En)}{p:Int×En}
structure Lg (cc:LC) (gK:St) (fM:List MO) (Γ:Cf) (b lo:Nat) (es:List (Int×En)) (ws bj:List MV) (nf jH:Int) (dp di:MV) (dU:Nat) (dQ ky:Int) (jW:List (Int×Nat)) (nm qd:Int) (fV fT:MV) (jb mu:Nat) (σ:St) (δ:List MO) (n ix:Nat) (P:List MV) (g a:Nat) (c:Int) (e:En):Prop where
 T:Due cc σ δ Γ n b ix (ar (ar jW (nf,cc.a)) (nm,mu)) P g a c e ws (es.map λp=>p.2.c)
 C:OM cc δ nf jH dp di dU dQ ky bj lo
 B:FN cc gK fM Γ b lo es σ δ
 M:k7 δ mu nm fV qd fT jb (ix+1) ws cc.g
 s:lo<=a
 t:lo<=δ.length
 u:mu+6<a
 f:lo<=mu
 x:∃p,es[ix]?=some p/\p.2=e
 c:c=((σ.a.length:Nat):Int)
 j:∀q∈ar (ar jW (nf,cc.a)) (nm,mu),q.1=1000\/q.1<((σ.a.length:Nat):Int)
 o:cc.j<lo
 r:cc.h<lo
theorem Lg.k(A:Lg cc gK fM Γ b lo es ws bj nf jH dp di dU dQ ky jW nm qd fV fT jb mu σ δ n ix P g a num e)(hn:n<=40000)(hd:cc.d<2)(dP:bB cc.l=true)(cQ:cc.l≠84)(jY:cc.c=((Γ.r cc.d).e cc.l).d)
  (i_:LS cc (P.length:Nat) gv (ix:Int) ρ) (W:Within K cc σ δ Γ n m ix (ar (ar jW (nf,cc.a)) (nm,mu)) g a num e)
  (hm:m<=200) (G:es[ix+1]?=some p) (hc:σ.a.length+m/100*6+1<999) {X:Prop} (ω:∀ρ' σ' E R Q S H,(LF cc (H.length:Nat) R (ix:Int) g ρ')->aY Tb (au Tb (K+16)) (K+16) sG ρ (HS σ δ)=some (.a,ρ',HS σ' E)->
   Lg cc gK fM Γ b lo es ws bj nf jH dp di dU dQ ky jW nm qd fV fT jb mu σ' E (n+m+3) (ix+1) H Q S ((σ'.a.length:Nat):Int) p.2->Uc σ σ'->Fz (λi=>lo<=i) δ E->σ.a.length<=σ'.a.length->σ'.a.length<=σ.a.length+m/100*6+1->X):X:=by
 refine Fm A.T hn hd dP cQ (bN [_,_] V0.B 100 (.o V0.A 5 (.o (V0.B+1+1) V0.A .z)) rfl A.B.D.m ((ax.mp G).1)) jY i_ W A.C A.s A.t hm A.B A.M A.u A.f G λρ' σ' E R Q S H f1 x1 O k1=>?_
 have y:∀i,(i=mu\/lo<=i)->lo<=i:=λi h=>by have:=A.f;exact YF h this
 have V:=A.B.f O.f O.b λi h=> .inr (y i h)
 have Y:=A.t
 have hlm:=A.u
 have hla:=A.s
 have F:=O.l
 have olg:=O.m
 have U:=O.h
 have Z:∀q∈ar (ar jW (nf,cc.a)) (nm,mu),q.1=1000\/q.1<((σ'.a.length:Nat):Int):=λq I=>by
  rcases A.j q I with h|h
  ·exact .inl h
  ·exact .inr (Ow h (fg.mpr U))
 refine ω ρ' σ' E R Q S H f1 x1 ⟨⟨O.j,O.d,λq I=>?_,A.T.p,O.k,O.N,O.o,O.p,?_,aL▸G▸rfl,?_,A.T.j,A.T.s,(V.c.a p (aU G)).2⟩,A.C.j O.b y,V,O.c,pz Y F,by have:=O.b.1;exact pz Y this,by have:=cJ A.M.h;exact(aD this F),A.f,⟨p,G,rfl⟩,rfl,Z,A.o,A.r⟩ O.f ⟨O.b.1,λi v n h=>O.b.2 i v (λq=>n (y i q)) h⟩ U k1
 ·rcases Z q I with h|h<;>first|exact S8 hc k1 h|exact S9 h
 ·exact O.b.2 _ _ (λq=>by have L:=A.o;have J:=y _ q;exact Qn L J) A.T.k
 ·exact O.b.2 _ _ (λq=>by have L:=A.r;have J:=y _ q;exact Qn L J) A.T.t
end
end
section
section
variable{K n m mm b d l g a mu dk gv ix bb lo:Nat}{σ gK:St}{δ fM:List MO}{Γ:Cf}{num nf nm jH qd:Int}{fs jW:List (Int×Nat)}{P ws rows bj:List MV}{e:En}{cc:LC}{ρ:Loc}{dp di fV fT:MV}{dU jb:Nat}{dQ ky ad:Int}{es:List (Int×En)}{p:Int×En}
theorem Lg.w(A:Lg cc gK fM Γ b lo es ws bj nf jH dp di dU dQ ky jW nm qd fV fT jb mu σ δ n ix P g a num e)(F:n<=40000)(H:cc.d<2)(y:bB cc.l=true)(E:cc.l≠84)(G:cc.c=((Γ.r cc.d).e cc.l).d)
 (J:LS cc (P.length:Nat) gv (ix:Int) ρ) (W:Within K cc σ δ Γ n m ix (ar (ar jW (nf,cc.a)) (nm,mu)) g a num e)
 (hm:m<=200) (i:ix+1=es.length) {q:Prop} (I:∀ρ' σ' h v L,(LF cc (σ'.z.length:Nat) v (ix:Int) g ρ')->aY Tb (au Tb (K+16)) (K+16) sG ρ (HS σ δ)=some (.a,ρ',HS σ' h)->t9 cc σ δ Γ (n+m+1) nf jH dp di dU dQ ky jW bj lo σ' h v L->σ'.a.length<=σ.a.length+m/100*6->q):q:=Ie A.T F H y E (bN [_,_] V0.A 100 (.e (V0.A+1) V0.B (.o V0.B 5 .z)) rfl i A.B.D.m) G J W A.C A.s A.t hm A.B A.M A.u i I
end
end
section
section
variable{K n m mm b d l g a mu dk gv ix bb lo:Nat}{σ gK:St}{δ fM:List MO}{Γ:Cf}{num nf nm jH qd:Int}{fs jW:List (Int×Nat)}{P ws rows bj:List MV}{e:En}{cc:LC}{ρ:Loc}{dp di fV fT:MV}{dU jb:Nat}{dQ ky ad:Int}{es:List (Int×En)}{p:Int×En}
theorem t9.s{y:St}{A:List MO}{σ':St}{B:List MO}{D:List MV}{C:Nat}(O:t9 cc σ δ Γ n nf jH dp di dU dQ ky fs bj lo σ' B gv D)(u:Uc y σ)(z:Fz (λi=>lo<=i) A δ)(E:n<=C)(F:y.a.length<=σ.a.length):t9 cc y A Γ C nf jH dp di dU dQ ky fs bj lo σ' B gv D:=
 ⟨u.f O.t,O.c.q E,O.f,Fz.k ⟨z.1,λi v n h=>z.2 i v (λq=>n (.inr (.inr q))) h⟩ O.k,O.o,O.w,O.x,O.r,aD F O.j⟩
inductive LM (K:Nat) (cc:LC) (gK:St) (fM:List MO) (Γ:Cf) (b lo:Nat) (es:List (Int×En)) (ws bj:List MV) (nf jH:Int) (dp di:MV) (dU:Nat) (dQ ky:Int) (jW:List (Int×Nat)) (nm qd:Int) (fV fT:MV) (jb mu mm n pl gv:Nat) (σ:St) (δ:List MO):Nat->Loc->Hp->Prop
 |z:LM K cc gK fM Γ b lo es ws bj nf jH dp di dU dQ ky jW nm qd fV fT jb mu mm n pl gv σ δ 0 (Nc cc (pl:Nat) gv) (HS σ δ)
 |s (k:Nat) (ρ:Loc) (σ':St) (aX:List MO) (ia:Nat) (i0:Int) (g0:Nat) (P':List MV) (g' a':Nat) (yj:Int) (e':En) (n':Nat) (h0:0<k) (h1:k<es.length) (f1:LF cc (P'.length:Nat) ia i0 g0 ρ)
  (A:Lg cc gK fM Γ b lo es ws bj nf jH dp di dU dQ ky jW nm qd fV fT jb mu σ' aX n' k P' g' a' yj e') (hn:n'<=n+k*(mm+3)) (u:Uc σ σ') (z:Fz (λi=>lo<=i) δ aX) (k':σ.a.length<=σ'.a.length) (c:σ'.a.length<=σ.a.length+k*(mm/100*6+1)):
  LM K cc gK fM Γ b lo es ws bj nf jH dp di dU dQ ky jW nm qd fV fT jb mu mm n pl gv σ δ k ρ (HS σ' aX)
 |e (k:Nat) (ρ:Loc) (σ':St) (aX:List MO) (ia:Nat) (gl:List MV) (i0:Int) (g0:Nat) (hk:k=es.length) (f1:LF cc (σ'.z.length:Nat) ia i0 g0 ρ) (O:t9 cc σ δ Γ (n+es.length*(mm+3)) nf jH dp di dU dQ ky jW bj lo σ' aX ia gl) (c:σ'.a.length<σ.a.length+es.length*(mm/100*6+1)):
  LM K cc gK fM Γ b lo es ws bj nf jH dp di dU dQ ky jW nm qd fV fT jb mu mm n pl gv σ δ k ρ (HS σ' aX)
theorem LF.h{x:Int}{gv g:Nat}{i:Int}(f:LF cc x gv i g ρ)(T:Tab)(cl:Call)(k:Int)(μ:Hp){q:Prop}(o:∀bt,eX T cl (.b 182) (.c k) ρ μ=some (bt,μ)->LS cc x gv k bt->q):q:=by
 cases f with
 |b=>exact o _ rfl (.b _)
 |c j=>exact o _ rfl (.c _ _)
theorem EL{I:Prop}(F:FS σ (ar jW (nf,cc.a)))(hnm:∀q∈ar jW (nf,cc.a),q.1≠nm)(hp:σ.z=ar (ar P (.d (mu+182))) (.d (g+182)))(u:2<=es.length)
  (A:Lg cc gK fM Γ b lo es ws bj nf jH dp di dU dQ ky jW nm qd fV fT jb mu (σ.F (ar (ar jW (nf,cc.a)) (nm,mu))) δ n 0 (ar P (.d (mu+182))) g a num e)
  (U:n<=30000) (hd:cc.d<2) (dP:bB cc.l=true) (cQ:cc.l≠84) (jY:cc.c=((Γ.r cc.d).e cc.l).d) (C:mm<=102) (hc:σ.a.length<=900)
  (hW:∀(σ':St) (j:List MO) (X k:Nat) (P':List MV) (g' a':Nat) (yj:Int) (e':En),k<es.length->Lg cc gK fM Γ b lo es ws bj nf jH dp di dU dQ ky jW nm qd fV fT jb mu σ' j X k P' g' a' yj e'->X<=n+600->Uc σ σ'->σ'.a.length<=σ.a.length+40->∀{I:Prop},(∀m,m<=mm->Within K cc σ' j Γ X m k (ar (ar jW (nf,cc.a)) (nm,mu)) g' a' yj e'->I)->I) (bG:∀ρ' σ' j E gl i0 g0,(LF cc (σ'.z.length:Nat) E i0 g0 ρ')->(bQ Tb (au Tb (K+16)) (K+16) (fF cG 11) (Nc cc (P.length:Nat) gv) (HS σ δ)=some (.a,ρ',HS σ' j))->(t9 cc σ δ Γ (n+es.length*(mm+3)) nf jH dp di dU dQ ky jW bj lo σ' j E gl)->(σ'.a.length<σ.a.length+es.length*(mm/100*6+1))->I):I:=by
 have v:=A.B.D.m
 refine b6 (σ.F (ar (ar jW (nf,cc.a)) (nm,mu))) λV tb=>?_
 replace A:=tb.symm▸A
 have us:=tb▸(Uc.t _ _)
 have cs:V.a=σ.a:=tb▸rfl
 have ln:=hJ σ A.T.k (by rw[ay];exact Qj u v)
 rw[ay] at ln
 have J:aO Tb (au Tb (K+16)) (.p (.d 4)) (Nc cc (P.length:Nat) gv) (HS σ δ)=some (.c (es.length:Nat),HS σ δ):=n9 [(0,ov ln)] ⋯
 have w1:=VM (cc:=cc) (gv:=gv) (i:=((0:Nat):Int)) F hnm hp (by have:=A.T.i.y;rw[A.T.f,aB,aB] at this;exact Y3 U this) A.M.k (λσ=>ed σ A.T.N.b 5 (.c 0) ⋯) (K+14)
 rw[<-tb] at w1
 have l0:LS cc ((ar P (MV.d (mu+182))).length:Nat) gv ((0:Nat):Int) (Nd cc ((P.length+1:Nat):Int) gv ((0:Nat):Int)):=(aB ..)▸ .d
 have L:∀{x y:Nat},x<=mm->y<=5->y*(x+3)<=525:=λ{x y} h1 u=>by
  have:y*(x+3)<=5*105:=yE u (Y1 C h1)
  exact Y0 this
 have dv:∀{x:Nat},x<=mm->x/100*6<=mm/100*6:=λh=>gq 6 (KX h)
 have dm:mm/100*6<=6:=YY (YZ C)
 refine pJ (fuel:=K+16) (t:= .b 182) (b:=sG) (LM K cc gK fM Γ b lo es ws bj nf jH dp di dU dQ ky jW nm qd fV fT jb mu mm n P.length gv σ δ) J (Qj u v) .z (λk ρ μ I H q ω=>?_) λρ' aG e1 p1=>?_
 ·cases q with
  |z=>
   refine hW V δ n 0 _ g a num e (YX H) A YW us (cs▸YV) λm hm W=>?_
   have:=dv hm
   refine A.k (ρ:=Nd cc ((P.length+1:Nat):Int) gv ((0:Nat):Int)) (gv:=gv) (YU U) hd dP cQ jY l0 W (YT C hm) (aN (Qi u v)) (cs▸(YS C hc hm)) λQ dR dq Y g2 a2 P2 S x2 A2 u2 z2 k2 G=>?_
   rw[cs] at k2 G
   exact ω (Nd cc (P.length:Nat) gv ((0:Nat):Int)) (HS σ δ) Q _ rfl (adj w1 (A.T.o (ρ:=Nd cc ((P.length+1:Nat):Int) gv ((0:Nat):Int)) (gv:=gv) (Y2 U) l0 (K+15)) x2) (.s _ _ _ _ _ _ _ _ _ _ _ _ _ YR (Qi u v) S A2 (YQ hm) (us.f u2) z2 k2 (YP this G))
  |s _ _ σ' j E i0 g0 P' g' a' yj e' X h0 h1 f1 A' R u' z' k' c'=>
   have hb:=L (x:=mm) (y:=k) (aC _) (YO u v H)
   have Z:=yE (YB u v H) (YA dm)
   refine hW σ' j X k P' g' a' yj e' H A' (Yz R hb) u' (Yy c' Z) λm hm W=>?_
   have:=dv hm
   have s1:(k+1)*(mm+3)=k*(mm+3)+(mm+3):=Nat.succ_mul _ _
   have s2:(k+1)*(mm/100*6+1)=k*(mm/100*6+1)+(mm/100*6+1):=Nat.succ_mul _ _
   refine f1.h Tb (au Tb (K+16)) (k:Int) (HS σ' j) λbt st kF=>?_
   by_cases hx:k+1<es.length
   ·exact A'.k (ρ:=bt) (gv:=E) (Qc U R hb) hd dP cQ jY kF W (Qg C hm s1) (aN hx) (Yx C hc c' Z hm s1 s2) λQ dR dq Y g2 a2 P2 S x2 A2 u2 z2 k2 G=>
     ω bt (HS σ' j) Q _ st x2 (.s _ _ _ _ _ _ _ _ _ _ _ _ _ (Yw h0) (Yv hx) S A2 (Yu R hm s1) (u'.f u2) (z'.k z2) (pz k' k2) (Yt c' this s2 G))
   ·have ek:=YI H hx
    refine A'.w (ρ:=bt) (gv:=E) (Qc U R hb) hd dP cQ jY kF W (Qg C hm s1) ek λQ dR dq Y gl S x2 O G=>?_
    exact ω bt (HS σ' j) Q _ st x2 (.e _ _ _ _ _ _ _ _ ek S (O.s u' z' (ek▸YH R hm s1) k') (ek▸YG c' this s2 G))
  |e _ _ _ _ _ _ _ _ h=>exfalso;exact xn H h
 ·generalize J:es.length=q at p1
  cases p1 with
  |z=>exfalso;exact Ta u v J
  |s _ _ _ _ _ _ _ _ _ _ _ _ _ _ h=>exfalso;exact S_ J h
  |e _ _ σ' j E gl i0 g0 _ f1 O c1=>exact bG ρ' σ' j E gl i0 g0 f1 (RF▸e1) (J▸O) (J▸c1)
end
end
section
section
variable{K n t b d l tm vl:Nat}{σ:St}{δ:List MO}{Γ:Cf}{ts:List CT}{vs ws:List MV}{R:List Row}{ρ:Loc}
theorem Jc(A:fC R ts vs ws)(q:ts.length<=3)(H:δ[tm]?=some (.a (ts.map CT.d)))(u:δ[vl]?=some (.a vs))(E:bx ρ 279=some (.d (tm+182)))(B:bx ρ 220=some (.d (vl+182))):
  yc (λi μ=>aO Tb (au Tb (K+1)) (.j 1284 [.h (.d 279) (.d 266),.h (.d 220) (.d 266)]) ((266,i)::ρ) μ) (yM (ts.length:Nat)) (HS σ δ)=some (ws,HS σ δ):=by
 refine tu (f:=λi μ=>aO Tb (au Tb (K+1)) (.j 1284 [.h (.d 279) (.d 266),.h (.d 220) (.d 266)]) ((266,i)::ρ) μ) (all:=yM (ts.length:Nat)) (λk μ z=>μ=HS σ δ/\z=ws.take k)
  (λk v μ z I C p G=>by
   obtain⟨rfl,rfl⟩:=p
   obtain⟨g,rfl⟩:=pX C
   refine dY (A.o k ts[k] (aN g)) λa w x D F=>?_
   obtain⟨kk,y⟩:=F.o
   refine G w (HS σ δ) ?_ ⟨rfl,(lP D).symm⟩
   have s:bx ((266,MV.c (k:Int))::ρ) 279=some (.d (tm+182)):=E
   have r:bx ((266,MV.c (k:Int))::ρ) 220=some (.d (vl+182)):=B
   have m:bx ((266,MV.c (k:Int))::ρ) 266=some (.c (k:Int)):=rfl
   generalize ((266,MV.c (k:Int))::ρ)=bt at s r m
   have s2:=jV σ u x (Qf q g)
   exact(kR (bW (jM (cI s _) (cI m _) (jV σ H (k:=k) (v:=(ts[k]).d) (by rw[aL,aN g];rfl) (Qf q g))) (n8 (jM (cI r _) (cI m _) s2)))).trans (sa (K:=K) y))
  (yM (ts.length:Nat)) 0 (HS σ δ) [] rfl ⟨rfl,rfl⟩ λxs J e p=>?_
 obtain⟨p1,p2⟩:=p
 rw[cP,sj,i9,<-A.k,eC] at p2
 rw[e,p1,p2]
theorem NP(W:WS σ Γ)(δ:List MO)(e:d<2):ez (HS σ δ) (.d 3) (.c (d:Int))=some (Γ.r d).d:=by
 have g:(HS σ δ)[3]?=some (.a σ.ah):=⋯
 have e:=m6 e
 rcases e with rfl|rfl
 ·exact gj (i:=0) g (by rw[W.g];rfl) Lw
 ·exact gj (i:=1) g (by rw[W.g];rfl) GU
theorem Nf{q:Prop}(W:WS σ Γ)(δ:List MO){y:Nat}(k:y<2)(m:∀l t,(ez (HS σ δ) (.d 9) (.c (y:Int))=some (.j [l] t))->(bB l=true)->(l≠84)->(0<t)->(t<2455)->q):q:=by
 have g:(HS σ δ)[9]?=some (.a σ.af):=⋯
 refine Ua W.h λr s h a b c d=>?_
 have k:=m6 k
 rcases k with rfl|rfl
 ·exact m Γ.o r (gj (i:=0) g (by rw[h];rfl) Lw) ((nj W.e).1) ((nj W.e).2) a b
 ·exact m Γ.p s (gj (i:=1) g (by rw[h];rfl) GU) ((nj W.f).1) ((nj W.f).2) c d
end
end
section
noncomputable abbrev Hr:List MS:=[fF cG 0,fF cG 1,fF cG 2,fF cG 3,fF cG 4,fF cG 5,fF cG 6,fF cG 7,fF cG 8,fF cG 9]
structure Ll (σ:St) (δ:List MO) (Γ:Cf) (n d fi:Nat) (num:Int) (aV args:MV) (sort ex:Int) (L:List MV) (cc:LC) (es:List (Int×En)) (gK:St) (fM:List MO) (σ':St) (aX:List MO) (ip:Int) (stk gv:Nat) (bj vs ws:List MV):Prop where
 a:cc.a=fi
 b:cc.d=d
 v:bB cc.l=true
 m:cc.l≠84
 u:cc.c=((Γ.r d).e cc.l).d
 c:cc.f=ip+1
 B:Up σ gK
 D:qk gK fM δ.length Γ d cc.l cc.i cc.g es
 I:fM[cc.j]?=some (.a (es.map λp=>p.2.c))
 R:δ.length<=cc.j
 t:Gw δ fM
 q:Up gK σ'
 z:Fz (uM fi (fi+1)) fM aX
 f:Inv σ' Γ (n+48)
 A:aX[fi]?=some (gw fi num aV (.d 7) ip args stk sort ex)
 P:∃L',aX[fi+1]?=some (.a L')/\L'.length<=L.length+3
 s:aX[stk]?=some (.a (cU bj (.e [.c 4,.c cc.g]::vs)))
 o:aX[cc.k]?=some (.a bj)
 l:bj.length<=3
 F:∃y,bj=J3.take y
 H:aX[cc.h]?=some (.a ws)
 w:fC σ'.R ((Γ.T d).map (CT.e cc.l)) vs ws
 U:aX[gv]?=some (.a [])
 C:fM.length<=cc.k
 r:fM.length<=stk
 V:fM.length<=cc.h
 W:fM.length<=gv
 E:cc.k<stk
 Q:stk<cc.h
 X:cc.h<gv
 T:cc.e=1/\cc.b= -1\/cc.e=0/\∃y:Nat,y<es.length/\cc.b=(y:Int)
end
section
section
variable{K n d fi stk:Nat}{σ:St}{δ:List MO}{Γ:Cf}{num ip sort ex:Int}{aV args:MV}{L:List MV}{fs:List (Int×Nat)}
theorem HA{Ω:Prop}(I:Inv σ Γ n)(Y:n<=20000)(hd:d<2)(hh:σ.u=[])(F:FS σ (ar fs (num,fi)))(hf:δ[fi]?=some (gw fi num aV (.d 7) ip args stk sort ex))(hL:δ[fi+1]?=some (.a L))(uh:L.length<=700)(s:Int)(hdp:s=0\/s=1)(bG:∀cc H gK fM σ' aX A Z gv bj vs ws,(cc.e=s)->(cc.m=((fs.length+1:Nat):Int))->(aY Tb (au Tb (K+16)) (K+16) Hr [(103,.d 148),(250,.d 8),(110,.d (fi+182)),(263,.c (d:Int)),(282,.c s)] (HS σ δ)=some (.a,Nc cc (σ'.z.length:Nat) gv,HS σ' aX))->(Ll σ δ Γ n d fi num aV args sort ex L cc H gK fM σ' aX A Z gv bj vs ws)->Ω):Ω:=by
 refine jN I (YN Y) δ (m:=2) xm λy t1 hy V u1 I1=>?_
 have V:=V (K+15)
 obtain⟨dA,i7⟩:∃z,z=σ.S t1:=⟨_,rfl⟩
 rw[<-i7] at V u1 I1
 refine Nf I1.a δ hy λl t ls dP cQ UJ U=>?_
 refine v_ (K:=K+3) (δ:=δ) I1 (YM Y) hd dP cQ (u1.r▸hh) t λgK fM M ad H Q c1 um Im wm D My J=>?_
 refine z9 (K:=K+5) Im (YL Y) hd dP cQ ⟨UJ,U⟩ (wm.2 _ _ hf) (wm.2 _ _ hL) (Qh uh) ad λv C A Z P O tm bj vs ws c2 S=>?_
 have rs:=NP S.a.a C hd
 have rp:=yo (u:=Γ.r d) (l:=l) (t:=t) cQ ⟨UJ,U⟩
 have l3:((Γ.T d).map (CT.e l)).length<=3:=by rw[ay];exact I.a.a d
 obtain⟨G,jj⟩:∃z,z=ar C (.a ws):=⟨_,rfl⟩
 have km:bQ Tb (au Tb (K+16)) (K+16) (fF cG 4) [(103,.d 148),(250,.d 8),(110,.d (fi+182)),(263,.c (d:Int)),(282,.c s),(272,.j [l] t),(62,.c (M:Int)),(277,.c ad),(4,.d (Q+182)),(278,.d (P+182)),(220,.d (O+182)),(279,.d (tm+182)),(158,((Γ.r d).e l).d)] (HS v C)=some (.a,[(103,.d 148),(250,.d 8),(110,.d (fi+182)),(263,.c (d:Int)),(282,.c s),(272,.j [l] t),(62,.c (M:Int)),(277,.c ad),(4,.d (Q+182)),(278,.d (P+182)),(220,.d (O+182)),(279,.d (tm+182)),(158,((Γ.r d).e l).d),(285,.d (C.length+182))],HS v G):=by
  have ln:=hJ v S.e (by rw[ay];exact jT l3)
  rw[ay] at ln
  obtain⟨re,w⟩:∃z,z=((Γ.r d).e l).d:=⟨_,rfl⟩
  rw[<-w]
  have:=lY (fuel:=K+16) (y:=285) (Q1 (x:=266) (n9 [(0,ov ln)] ⋯:aO Tb (au Tb (K+16)) (.p (.d 279)) [(103,.d 148),(250,.d 8),(110,.d (fi+182)),(263,.c (d:Int)),(282,.c s),(272,.j [l] t),(62,.c (M:Int)),(277,.c ad),(4,.d (Q+182)),(278,.d (P+182)),(220,.d (O+182)),(279,.d (tm+182)),(158,re)] (HS v C)=some (.c ((((Γ.T d).map (CT.e l)).length:Nat):Int),HS v C)) (jT l3) (Jc (K:=K+15) S.f l3 S.e S.o rfl rfl))
  rw[kD,kC,<-jj] at this
  exact this
 have w4:=jj▸(Gw.d _ _)
 have f4:=w4.2 _ _ S.c
 have fl:=o_ (S.b.B (um.B (u1.B F))) G
 have pl:=ml v G (by have:=S.a.y;exact YK Y this)
 obtain⟨mK,R⟩:∃z,z=ar G (.a []):=⟨_,rfl⟩
 have N:=R▸(w4.e (Gw.d _ _))
 have e4:G.length=C.length+1:=by rw[jj,aB]
 have K7:=cJ hL
 have W:=S.h.1
 have aeI:=cJ My
 have pr:∀(σ':St) (E:Int),Up v σ'->Inv σ' Γ (n+48)->(s=1/\E= -1\/s=0/\∃y:Nat,y<H.length/\E=(y:Int))->Ll σ δ Γ n d fi num aV args sort ex L ⟨fi,d,s,l,t,M,ad,Q,P,O,tm,((Γ.r d).e l).d,C.length,A+1,((fs.length+1:Nat):Int),E⟩ H gK fM σ' mK A Z G.length bj vs ws:=λσ' E u' I' tZ=>by
  obtain⟨x,hx⟩:=u'.j
  exact⟨rfl,rfl,dP,cQ,rfl,rfl,u1.f um,D,My,J,wm,S.b.f u',S.h.k N.f,I',N.2 _ _ S.c,by obtain⟨L',h1,h2⟩:=S.l;exact⟨L',N.2 _ _ h1,h2⟩,N.2 _ _ S.d,N.2 _ _ S.g,S.i,S.m,by rw[R];exact fU _ (by rw[jj];exact h9 _ _ _ rfl),by rw[hx];exact S.f.p,R▸(h9 _ _ _ rfl),S.j,by have t1:=S.k;have t2:=S.j;exact Te t1 t2,W,YJ e4 W,S.k,cJ S.d,Y_ e4,tZ⟩
 obtain⟨re,w⟩:∃z,z=((Γ.r d).e l).d:=⟨_,rfl⟩
 obtain⟨rt,hrt⟩:∃z,z=(Γ.r d).d:=⟨_,rfl⟩
 rw[<-w] at km rp
 rw[<-hrt] at rs rp
 have c1:=c1
 have c2:=c2
 rcases hdp with rfl|rfl
 ·have lr:=hJ v (N.2 _ _ (S.h.2 _ _ (λq=>fJ q (λq=>Td J K7 q) λq=>Tc J K7 q) My)) (by rw[ay];have:=D.m;exact GG this)
  rw[ay] at lr
  refine jN S.a (Y9 Y) mK (m:=H.length) D.z λz t2 hz X u4 I4=>?_
  have X:=X (K+15)
  obtain⟨qf,Ew⟩:∃q,q=v.S t2:=⟨_,rfl⟩
  rw[<-Ew] at X u4 I4
  have ep:=u4.z.1
  refine bG ⟨fi,d,0,l,t,M,ad,Q,P,O,tm,((Γ.r d).e l).d,C.length,A+1,((fs.length+1:Nat):Int),(z:Int)⟩ H gK fM qf mK A Z G.length bj vs ws rfl rfl ?_ (pr qf z u4 (I4.q Y8) (.inr ⟨rfl,z,hz,rfl⟩))
  rw[ep,<-w,R]
  rw[R] at X lr
  exact eD [(1,ow V),(2,ov ls),(3,ow c1),(4,ow c2),(6,ov rs),(7,ov rp),(8,os km),(8,ov (ed v f4 127 (MV.c A) ⋯)),(11,ov fl),(13,ov pl),(17,ov lr),(18,ow X)] ⋯
 ·refine bG ⟨fi,d,1,l,t,M,ad,Q,P,O,tm,((Γ.r d).e l).d,C.length,A+1,((fs.length+1:Nat):Int), -1⟩ H gK fM v mK A Z G.length bj vs ws rfl rfl ?_ (pr v (-1) (Up.q _) (S.a.q Y7) (.inl ⟨rfl,rfl⟩))
  exact w▸R▸(eD [(1,ow V),(2,ov ls),(3,ow c1),(4,ow c2),(6,ov rs),(7,ov rp),(8,os km),(8,ov (ed v f4 127 (MV.c A) ⋯)),(11,ov fl),(13,ov pl)] ⋯)
end
end
section
section
variable{K n d fi stk gv g i j:Nat}{σ:St}{δ:List MO}{Γ:Cf}{num nf jH:Int}{aV args dp di:MV}{L bj gl:List MV}{fs:List (Int×Nat)}{cc:LC}{dU:Nat}{dQ ky i0:Int}{ρ:Loc}
noncomputable abbrev A5:List MS:=[fF cG 12,fF cG 13]
theorem NW(F:FS σ (ar fs (num,g)))(δ:List MO):ez (HS σ δ) (.d 155) (.c (-1))=some (.d (g+182)):=by
 have b:(fy fs).length<=100:=by have:=F.k;unfold fy;rw[aB] at this;rw[ay];exact Po this
 delta ez;refine(UG (by rw[<-l7 fs (num,g),<-F.j];kernel_rfl:(HS σ δ)[155]?=some (.a (ar (fy fs) (.d (g+182)))))).trans ((Rl _).trans ?_)
 unfold zT
 rw[if_neg PO,j1 ⟨(by decide),by rw[aB];exact Y6 b⟩,aB,show((-1:Int)+((fy fs).length+1:Nat)).toNat=(fy fs).length from(PN b)]
 exact aZ _ _
theorem qu{μ:Hp}{p q:Nat}{l:List MV}(h:μ[p]?=some (.a l))(g:μ[q]?=some (.a l))(b:l.all (bh 8)=true):ct μ .a (.d p) (.d q)=some true:=by
 show Ud μ (.d p) (.d q)=_
 unfold Ud;dsimp only;rw[v9 h,v9 g,j1 (by rw[b];rfl),(kq l l).mpr rfl]
theorem jZ(p:Int)(μ:Hp):ct μ .b (.c p) (.c p)=some false:=by
 show(ct μ .a (.c p) (.c p)).map (!·)=_
 rw[uV];rfl
theorem D9{G:Prop}(F:FS σ (ar fs (nf,cc.a)))(r:δ[cc.a]?=some (gw cc.a nf dp (.d 7) (jH+1) di dU dQ ky))(R:δ[dU]?=some (.a (cU bj gl)))(hj:δ[cc.k]?=some (.a bj))(Q:δ[gv]?=some (.a gl))
  (S:(cU bj gl).all (bh 8)=true) (J:bj.length<=90/\gl.length<=90) (T:σ.G=[]) (O:σ.H=[]) (hb:cc.f=jH+1) (U:cc.m=((fs.length+1:Nat):Int)) (t:σ.z.length<=90000)
  (P:LF cc (σ.z.length:Nat) gv i0 g ρ) (K:Nat)
  (k:∀A,aY Tb (au Tb K) K A5 ρ (HS σ δ)=some (.b (.h true),ρ,HS σ A)->Gw δ A->G):G:=by
 have M:=ml σ δ (xd t)
 have I:=jZ ((σ.z.length:Nat):Int)
 have C:=o_ F δ
 have B:∀μ,ct μ .b (.c ((fs.length+1:Nat):Int)) (.c cc.m)=some false:=U▸(jZ _)
 have x:=NW F δ
 have E:=jZ nf
 have ad:=zo σ hj Q (Y5 J) (Y4 J)
 refine b6 (ar δ (.a (cU bj gl))) λo u=>?_
 replace ad:=u.symm▸ad
 have s:=u▸(Gw.d _ _)
 have v:=qu (μ:=HS σ o) (p:=dU+182) (q:=δ.length+182) (by rw[df];exact s.2 _ _ R) (by rw[df,u];exact h9 _ _ _ rfl) S
 have D:=s.2 _ _ r
 have y:∀μ,ct μ .a (.c (jH+1)) (.c cc.f)=some true:=hb▸(uV _)
 have w:=qu (μ:=HS σ (ar o (.a []))) (p:=163) (q:=o.length+182) (l:=[]) (by rw[<-O];kernel_rfl) (by rw[df];exact h9 _ _ _ rfl) rfl
 have N:=qu (μ:=HS σ (ar (ar o (.a [])) (.a []))) (p:=162) (q:=(ar o (.a [])).length+182) (l:=[]) (by rw[<-T];kernel_rfl) (by rw[df];exact h9 _ _ _ rfl) rfl
 rcases P with _|j
 ·refine k (ar (ar o (.a [])) (.a [])) ?_ ((s.e (Gw.d _ _)).e (Gw.d _ _))
  exact eD [(1,ov M),(2,oq (I (HS σ δ))),(5,ov C),(6,oq (B (HS σ δ))),(9,ov x),(10,ov (ed σ r 119 (MV.c nf) ⋯)),(11,ov (ed σ r 119 (MV.c nf) ⋯)),(12,oq (E (HS σ δ))),(14,ov (ed σ r 126 (MV.d (dU+182)) ⋯)),(15,ow ad),(16,oq v),(18,ov (ed σ D 127 (MV.c (jH+1)) ⋯)),(19,oq (y (HS σ o))),(23,oq w),(27,oq N)] ⋯
 ·refine k (ar (ar o (.a [])) (.a [])) ?_ ((s.e (Gw.d _ _)).e (Gw.d _ _))
  exact eD [(1,ov M),(2,oq (I (HS σ δ))),(5,ov C),(6,oq (B (HS σ δ))),(9,ov x),(10,ov (ed σ r 119 (MV.c nf) ⋯)),(11,ov (ed σ r 119 (MV.c nf) ⋯)),(12,oq (E (HS σ δ))),(14,ov (ed σ r 126 (MV.d (dU+182)) ⋯)),(15,ow ad),(16,oq v),(18,ov (ed σ D 127 (MV.c (jH+1)) ⋯)),(19,oq (y (HS σ o))),(23,oq w),(27,oq N)] ⋯
end
end
section
section
variable{K n d fi stk gv g i j:Nat}{σ gK σ':St}{δ fM aX:List MO}{Γ:Cf}{num nf ip jH:Int}{aV args dp di:MV}{L bj vs ws:List MV}{fs:List (Int×Nat)}{cc:LC}{dU:Nat}{sort ex dQ ky ai:Int}{ρ:Loc}{es:List (Int×En)}
theorem RE(hj:δ[cc.k]?=some (.a bj))(q:bj.length<=3)(r:cc.d<2)(H:au Tb K 1192 [.d 148,.d (cc.a+182),jL cc.i cc.d,.c (bj.length:Nat)] (HS σ δ)=some (.c (-2),HS σ' aX))(p:aX[cc.a]?=some (gw cc.a num aV (.d 7) ip args stk sort ex))(m:aX[stk]?=some (.a bj))(b:aX[cc.k]?=some (.a bj))(o:bj.all (bh 8)=true)(F:Nat):
  bQ Tb (au Tb K) F (fF cG 10) (Nc cc ai gv) (HS σ δ)=some (.a,Nc cc ai gv,HS σ' aX):=by
 have h:∀μ,dE μ .c (.c 6) (.c (cc.d:Int))=some (.c ((6*cc.d:Nat):Int),μ):=λμ=>by
  rw[nA (by decide),show(6:Int)*(cc.d:Int)=((6*cc.d:Nat):Int) from Qm]
 have f:∀μ,dE μ .a (.c 1) (.c ((6*cc.d:Nat):Int))=some (.c (b0 cc.d 0:Nat),μ):=λμ=>by
  show some (MV.c ((1:Int)+((6*cc.d:Nat):Int)),μ)=_
  rw[show(1:Int)+((6*cc.d:Nat):Int)=((b0 cc.d 0:Nat):Int) from Ql]
 refine b6 (b0 cc.d 0) λs l=>?_
 have H:au Tb K 1192 [.d 148,.d (cc.a+182),.e [.c (cc.i:Int),.c (b0 cc.d 0:Nat),.e []],.c (bj.length:Nat)] (HS σ δ)=some (.c (-2),HS σ' aX):=H
 rw[<-l] at f H
 exact ur [(0,ow (h (HS σ δ))),(1,ow (f (HS σ δ))),(4,ov (hJ σ hj (jT q))),(5,ow H),(6,oq ((jZ (-2)) (HS σ' aX))),(8,ov (ed σ' p 126 (MV.d (stk+182)) ⋯)),(9,oq (abw σ' m b o))] ⋯
theorem sv(y:Nat):(J3.take y).all (bh 8)=true:=aT.mpr λx a=>aT.mp (by kernel_rfl:J3.all (bh 8)=true) x (List.mem_of_mem_take a)
theorem fC.z{R:List Row}{ts:List CT}(A:fC R ts vs ws)(h:ts.length<=3):ws.length<=3/\ws.all (bh 8)=true:=by
 refine⟨A.k▸h,aT.mpr λx c=>?_⟩
 obtain⟨j,hj,e⟩:=qi c
 refine dY (A.o j _ (aN (A.k▸hj))) λv w _ a b=>?_
 replace a:=e▸(aN hj)▸a
 cases a
 exact b.p
theorem Ll.N{k:St}{h:List MO}{x:Int}{p y:Nat}(O:Ll k h Γ n d fi num aV args sort ex L cc es gK fM σ δ x p y bj vs ws)(G:fi+1<h.length):FN cc gK fM Γ h.length fM.length es σ δ:=
 ⟨O.b▸O.D,O.q.D,O.a▸O.z,O.a▸G,aC _⟩
theorem Ll.e{G:Prop}{oK:St}{Y:List MO}{r_:Int}{y ia:Nat}(O:Ll oK Y Γ n d fi num aV args sort ex L cc es gK fM σ δ r_ y ia bj vs ws)(hn:n<=40000)(hd:d<2)(hL:fi+1<Y.length)(K:Nat)
  (k:∀R' aX x,dM σ.R R' 8->Fz (ph y) δ aX->aX[y]?=some (.a bj)->aX[x]?=some (.a ws)->δ.length<=x->FN cc gK fM Γ Y.length fM.length es (σ.r R') aX->Inv (σ.r R') Γ (n+56)->
   (∀aG,au Tb (K+13) 1108 [.d 148,.d (cc.a+182),.c cc.g,.d (x+182)] (HS (σ.r R') aX)=some (.f,aG)->au Tb (K+16) 1192 [.d 148,.d (cc.a+182),jL cc.i cc.d,.c (bj.length:Nat)] (HS σ δ)=some (.c (-2),aG))->G):G:=by
 have M:=O.N hL
 have D:=M.c
 have lm:=O.z.1
 have kA:∀aX,Fz (ph y) δ aX->FN cc gK fM Γ Y.length fM.length es σ aX:=λaX z=>M.f (Uc.w _) z λi hi=> .inr (by have hi:i=y:=hi;exact(hi▸O.r))
 have kB:∀aX,Fz (ph y) δ aX->fK σ aX Y.length cc.g cc.i:=λaX z=>by
  have D:=(kA aX z).c
  rcases D.o with⟨p,h1,Z⟩|⟨_,s0,s1,ra,jk,h,_⟩
  ·exact Z▸((D.a p (h1▸(bK.mpr rfl))).1.a)
  ·exact h.a
 refine H8 (K:=K+1) O.f (eK (aM hn _)) (O.b▸hd) O.v O.m D.j (O.b▸O.w) kB O.A O.s O.l λR' aX x G1 z h1 Z h3 h4=>?_
 refine k R' aX x G1 z h1 Z h3 ((kA aX z).f (S:=λJ=>False) (Uc.z σ G1.c) (Gw.p _).f λJ h=>h.elim) ((O.f.D G1).q (bN [_] (V0.A+48+8) (V0.A+56) .z rfl)) ?_
 exact O.a▸h4
end
end
section
section
variable{K n d fi stk gv ia g i j m k N b:Nat}{σ gK dA dR dI:St}{δ fM dN dq h_:List MO}{Γ:Cf}{num ip i0:Int}{aV args:MV}{L bj vs ws gl:List MV}{fs:List (Int×Nat)}{cc:LC}{sort ex:Int}{ρ:Loc}{es:List (Int×En)}{p:Int×En}
theorem Uc.o{σ σ':St}(u:Uc σ σ'):σ'.G=σ.G/\σ'.H=σ.H/\σ'.u=σ.u/\σ'.O=σ.O:=⟨u.C (P:=λs=>s.G=σ.G) rfl,u.C (P:=λs=>s.H=σ.H) rfl,u.C (P:=λs=>s.u=σ.u) rfl,u.C (P:=λs=>s.O=σ.O) rfl⟩
theorem xE{G:Prop}(O:Ll σ δ Γ n d fi num aV args sort ex L cc es gK fM dA dN ip stk gv bj vs ws)(T:cc.m=((fs.length+1:Nat):Int))(F:FS σ (ar fs (num,fi)))(J:σ.G=[]/\σ.H=[])(u2:Uc dA dR)(z2:Fz (ph stk) dN dq)
  (u:t9 cc dR dq Γ N num ip aV args stk sort ex fs bj dN.length dI h_ ia gl) (hN:N<=n+k*100) (W:N<=80000) (i_:LF cc (dI.z.length:Nat) ia i0 g ρ) (Y:fi+1<δ.length)
  (c:dI.a.length<=σ.a.length+k*6) (c2:dA.a.length<=dR.a.length) (K:Nat)
  (κ:∀S,aY Tb (au Tb K) K A5 ρ (HS dI h_)=some (.b (.h true),ρ,HS dI S)->q9 σ δ Γ n k fi num aV args sort ex L dI S->G):G:=by
 have U1:=O.B.f O.q
 have U3:=(U1.D.f u2).f u.t
 refine k9 U3.o λt1 t2 _ _=>?_
 have lm:=O.t.1
 have Q:=O.C
 have I:=O.E
 have U4:=cJ O.s
 have Z:∀i v,i≠fi->i≠stk->i<dN.length->dN[i]?=some v->h_[i]?=some v:=λi v V R h3 h=>u.k.2 _ _ (λq=>by
  rcases q with q|q|q
  ·rw[O.a] at q;exact V q
  ·exact R q
  ·exact(bZ [_,_] (.o (V0.A+1) V0.B (.o V0.B V0.A .z)) rfl h3 q)) (z2.2 _ _ R h)
 have pl:(cU bj gl).all (bh 8)=true:=by
  refine dG O.F λy hy=>?_
  unfold cU
  rw[VT,hy,sv,u.r.1];rfl
 have U:=u.r.2
 refine D9 u.f u.o u.w (Z _ _ (dJ (bk (tX Y) (aD lm Q))) (xf I) (ou I U4) O.o) u.x pl ⟨GX O.l,eK U⟩ (t1▸J.1) (t2▸J.2) O.c T (GB W u.c.y) i_ K λS h w=>κ S h ?_
 have M:=w.2 _ _ u.o
 rw[O.a] at M
 have hp:=U1.z.2
 refine⟨U3,u.c.q hN,λfs' F'=>?_,?_,⟨_,_,M⟩,?_,c,?_⟩
 ·have X:=u.f
  rw[O.a] at X
  exact F'.o (X.j▸F.j▸rfl) (X.m▸F.m▸rfl)
 ·refine⟨by have:=w.1;exact(bN [_,_,_,_,_,_,_] V0.A V0.G (.o V0.A V0.B (.o V0.B V0.C (.o (V0.C+1) V0.D (.o (V0.D+1) V0.E (.o V0.E V0.F (.o V0.F V0.G .z)))))) rfl lm Q I U4 (aD z2.1 u.k.1) this),λi v h q=>w.2 _ _ ?_⟩
  have:=cJ q
  refine Z _ _ (λe=>h (.inl e)) (λhh=>bZ [_,_,_,_,_] (.o V0.A V0.B (.o V0.B V0.C (.o (V0.C+1) V0.D (.o (V0.E+1) V0.A (.f V0.D V0.E .z))))) rfl lm Q I this hh) (gy [_,_,_,_,_,_] V0.F V0.E (.o V0.A V0.B (.o V0.B V0.C (.o (V0.C+1) V0.D (.o (V0.D+1) V0.E (.o (V0.F+1) V0.A .z))))) rfl lm Q I U4 this) (O.z.2 _ _ h (O.t.2 _ _ q))
 ·refine cf O.P λL' V R=>?_
  exact⟨L',w.2 _ _ (Z _ _ PK (gu (bk Y (aD lm O.r))) (GW Y lm O.z.1) V),R⟩
 ·have:=u.j;rw[hp] at c2;exact pz c2 this
theorem Q6{cl:Call}{F:Nat}{c bt l f e:Loc}{lV bC h mL K8:Hp}{v:MV}(r:aY Tb cl F Hr c lV=some (.a,bt,bC))(q:bQ Tb cl F (fF cG 10) bt bC=some (.a,l,h))(o:bQ Tb cl F (fF cG 11) l h=some (.a,f,mL))(s:aY Tb cl F A5 f mL=some (.b v,e,K8)):aY Tb cl F cG.b c lV=some (.b v,e,K8):=by
 show aY Tb cl F (Hr++([fF cG 10]++([fF cG 11]++A5))) c lV=_
 rw[cz r,cz (x:=[fF cG 10]) (cD q rfl),cz (x:=[fF cG 11]) (cD o rfl)]
 exact s
end
end
section
section
variable{K n d fi stk gv ia g i j m k mm N b:Nat}{σ gK dA dR dI:St}{δ fM dN dq h_:List MO}{Γ:Cf}{num ip i0:Int}{aV args:MV}{L bj vs ws gl:List MV}{fs:List (Int×Nat)}{cc:LC}{sort ex:Int}{Aq:Loc}{es:List (Int×En)}{p:Int×En}
noncomputable def Wi(K:Nat)(cc:LC)(σ:St)(Γ:Cf)(n mm len o:Nat):Prop:=∀(dR:St) (dq:List MO) (l ix:Nat) (c:List (Int×Nat)) (g a:Nat) (f:Int) (e:En),ix<len->l<=n+700->Uc σ dR->dR.a.length<=σ.a.length+42->c.length<=o+2->(∀q∈ar c (f,g),q.1=1000\/q.1<=((dR.a.length:Nat):Int))->∀{h:Prop},(∀m,m<=mm->Within K cc dR dq Γ l m ix c g a f e->h)->h
theorem ny{a:Type}{l:List a}{x y:a}(h:x∈ar l y):x∈l\/x=y:=by
 rcases cZ.mp h with h|h
 ·exact .inl h
 ·exact .inr (bK.mp h)
structure Ga (σ:St) (δ:List MO) (n d fi:Nat) (num:Int) (fs:List (Int×Nat)):Prop where
 F:FS σ (ar fs (num,fi))
 a:∀q∈ar fs (num,fi),q.1=1000\/q.1<=((σ.a.length:Nat):Int)
 h:σ.a.length<=800
 f:fs.length<=80
 g:n<=20000
 c:d<2
 i:fi+1<δ.length
 b:σ.G=[]
 e:σ.H=[]
theorem Hy{G:Prop}(A:Ga σ δ n d fi num fs)(O:Ll σ δ Γ n d fi num aV args sort ex L cc [p] gK fM dA dN ip stk gv bj vs ws)(hht:cc.m=((fs.length+1:Nat):Int))(IM:aY Tb (au Tb (K+16)) (K+16) Hr Aq (HS σ δ)=some (.a,Nc cc (dA.z.length:Nat) gv,HS dA dN))
  (hm:mm=2/\k=1\/mm=102/\k=8) (W:Wi K cc σ Γ n mm 1 fs.length)
  (κ:∀dI iw ρ,aY Tb (au Tb (K+16)) (K+16) cG.b Aq (HS σ δ)=some (.b (.h true),ρ,HS dI iw)->q9 σ δ Γ n k fi num aV args sort ex L dI iw->G):G:=by
 have hn:=A.g
 have hd:=O.b▸A.c
 have lm:=O.t.1
 have Rn:=O.C
 have ckp:=O.Q
 have X:=A.i
 have U0:=O.R
 have U1:=O.B.f O.q
 have W3:=O.w.z (by rw[ay];exact O.f.a.a d)
 refine O.e (Qk hn) A.c X K λR' aX x G1 z h1 h2 h3 M I H=>?_
 have D:=M.c
 have had:cc.g=p.1:=by
  rcases D.o with⟨q,h,e⟩|⟨h,_⟩
  ·cases h;exact e
  ·simp at h
 rw[had] at D H
 refine MQ (fo:= .d (cc.a+182)) I (Za hn) hd D h2 (eK W3.1) λa U Y w ha la=>?_
 have IE:=H _ (Y (K+7))
 obtain⟨dR,P⟩:∃y,y=(dA.r R').M p.2.a (.d (a+182)) 0 U.length:=⟨_,rfl⟩
 obtain⟨dq,eN⟩:∃y,y=fD U (gw U.length (((dA.r R').a.length+1:Nat):Int) p.2.a .f 0 (.d (a+182)) (U.length+2) 0 0) 6:=⟨_,rfl⟩
 have N:=eN▸(tB U)
 rw[<-P,<-eN] at IE
 have wD:Gw U dq:=by rw[eN];exact xD 6
 have w2:=w.e wD
 have e1:=U1.z.2
 have V:dR.a.length=σ.a.length+1:=P▸e1▸(aB ..)
 have ec:(((dA.r R').a.length+1:Nat):Int)=((dR.a.length:Nat):Int):=P▸(congrArg _ (aB ..).symm)
 rw[ec] at N
 have psh:dR.z=ar dA.z (.d (U.length+182)):=P▸rfl
 have u12:=P▸((Uc.z dA G1.c).f (Uc.q _ _ _ _ _))
 have Z:∀i v,i≠stk->dN[i]?=some v->dq[i]?=some v:=λi v h q=>w2.2 _ _ (z.2 _ _ h q)
 have f2:=O.a▸(Z _ _ (Zr lm O.r X) O.A)
 have FP:=w2.2 _ _ h1
 obtain⟨y,hy⟩:=O.F
 have rw2:=w2.2 _ _ (M.j.2 _ _ (λq=>by rw[O.a] at q;rcases q with q|q<;>first|exact G_ X U0 q|exact Ha X U0 q) O.I)
 have s8:∀q∈ar fs (num,fi),q.1≠((dR.a.length:Nat):Int):=λq hq=>by
  have:=A.h
  rcases A.a q hq with h|h<;>first|exact Tf V ec this h|exact SR V ec h
 have T:Due cc dR dq Γ (n+57) δ.length 0 (ar fs (num,cc.a)) dA.z U.length a ((dR.a.length:Nat):Int) p.2 ws [p.2.c]:=
  ⟨P▸(I.M _ _ _ _),O.a▸(P▸((U1.B A.F).o rfl rfl)),O.a▸s8,by rw[aB];have:=A.f;exact Zq this,psh,N,wD.2 _ _ ha,cJ ha,rw2,rfl,Z _ _ (sC ckp) O.H,W3.1,W3.2,(D.a p (bK.mpr rfl)).2.j (σ':=dR) (S:=λJ=>False) (λJ J h=>P▸h) ⟨[],P▸((d8 _).symm)⟩ w2.f λJ h=>h.elim⟩
 refine W dR dq (n+57) 0 (ar fs (num,cc.a)) U.length a _ p.2 Zo Zn (U1.D.f u12) (Zm V) (by rw[aB];exact Zl) (λq hq=>by
  rcases ny hq with h|rfl
  ·rw[O.a] at h
   rcases A.a q h with h|h
   ·exact .inl h
   ·exact .inr (Zj V ec h)
  ·exact .inr (Int.le_refl _)) λm FT Wt=>?_
 have lD:=w.1
 have zl:=z.1
 have lD2:=wD.1
 refine Jm (gv:=gv) T (Zi hn) hd O.v O.m (O.u▸O.b▸rfl) Wt (⟨f2,FP,by have:=O.l;exact GX this,O.c,O.a▸(Zp lm O.z.1 X),cJ O.s⟩) (oE la zl) (Qo lD zl lD2) (Zh hm FT) λρ' dI h_ ia gl f1 x1 O3 c3=>?_
 refine xE (k:=k) O hht A.F ⟨A.b,A.e⟩ u12 ⟨Qo lD zl lD2,λi v h q=>Z i v h q⟩ O3 (Zg hm FT) (Zf hm hn FT) f1 X (Ze hm V ec (gq 6 (KX FT)) c3) (V▸e1▸lB) (K+16) λiw x2 CO=>?_
 exact κ dI iw ρ' (Q6 IM (RE (ai:=(dA.z.length:Nat)) (gv:=gv) O.o O.l hd IE f2 FP (Z _ _ (xf O.E) O.o) (hy▸(sv y)) (K+16)) x1 x2) CO
end
end
section
section
variable{K n d fi stk gv ia g i j m k mm N b:Nat}{σ gK dA dR dI:St}{δ fM dN dq h_:List MO}{Γ:Cf}{num ip i0:Int}{aV args:MV}{L bj vs ws gl:List MV}{fs:List (Int×Nat)}{cc:LC}{sort ex:Int}{Aq:Loc}{es:List (Int×En)}{p:Int×En}
theorem D8{G:Prop}(A:Ga σ δ n d fi num fs)(O:Ll σ δ Γ n d fi num aV args sort ex L cc es gK fM dA dN ip stk gv bj vs ws)(X:2<=es.length)(hht:cc.m=((fs.length+1:Nat):Int))(IM:aY Tb (au Tb (K+16)) (K+16) Hr Aq (HS σ δ)=some (.a,Nc cc (dA.z.length:Nat) gv,HS dA dN))
  (hm:mm=2/\k=1\/mm=102/\k=8) (W:Wi K cc σ Γ n mm es.length fs.length)
  (κ:∀dI iw ρ,aY Tb (au Tb (K+16)) (K+16) cG.b Aq (HS σ δ)=some (.b (.h true),ρ,HS dI iw)->q9 σ δ Γ n k fi num aV args sort ex L dI iw->G):G:=by
 have hn:=A.g
 have UC:=A.f
 have FQ:=A.h
 have hd:=O.b▸A.c
 have lm:=O.t.1
 have l1:=O.z.1
 have lst:=O.r
 have Rn:=O.C
 have LO:=O.E
 have ckp:=O.Q
 have hL:=A.i
 have lkp:=cJ O.H
 have U0:=O.R
 have lrm:=cJ O.I
 have U1:=O.B.f O.q
 have W3:=O.w.z (by rw[ay];exact O.f.a.a d)
 obtain⟨p,hp⟩:∃p,es[0]?=some p:=⟨_,aN (ZI X)⟩
 refine O.e (Qk hn) A.c hL K λR' aX x G1 z h1 h2 h3 M I H=>?_
 have D:=M.c
 have l5:=D.m
 refine I5 (fo:= .d (cc.a+182)) I (ZH hn) hd D X hp h2 (eK W3.1) λs' a mu g0 V σa IV hinv Ia w Mu ha la lmu lma=>?_
 have IE:=H _ (hinv (K+4))
 refine b6 (σa.M p.2.a (.d (a+182)) 0 V.length) λdR ja=>?_
 refine b6 (fD V (gw V.length (((dA.r R').a.length+2:Nat):Int) p.2.a .f 0 (.d (a+182)) (V.length+2) 0 0) 6) λdq eN=>?_
 have N:=eN▸(tB V)
 rw[<-ja,<-eN] at IE
 have wD:Gw V dq:=by rw[eN];exact xD 6
 have w2:=w.e wD
 have e1:=U1.z.2
 have ca:σa.a.length=dA.a.length+1:=by rw[IV];exact aB ..
 have P:dR.a.length=σ.a.length+2:=by rw[ja,<-e1];show(ar σa.a _).length=_;rw[aB,ca]
 have U:(((dA.r R').a.length+2:Nat):Int)=((dR.a.length:Nat):Int):=P▸e1▸rfl
 have ec1:(((dA.r R').a.length+1:Nat):Int)=((σ.a.length+1:Nat):Int):=e1▸rfl
 rw[U] at N
 rw[ec1] at Mu
 have psh:dR.z=ar (ar dA.z (.d (mu+182))) (.d (V.length+182)):=ja▸IV▸rfl
 have u12:=ja▸IV▸((Uc.z dA G1.c).f ((Uc.q _ _ _ _ _).f ((Uc.y _ _).f (Uc.q _ _ _ _ _))))
 have uR2:Uc (dA.r R') dR:=by rw[ja,IV];exact(Uc.q _ _ _ _ _).f ((Uc.y _ _).f (Uc.q _ _ _ _ _))
 have Z:∀i v,i≠stk->dN[i]?=some v->dq[i]?=some v:=λi v h q=>w2.2 _ _ (z.2 _ _ h q)
 have f2:=O.a▸(Z _ _ (ZG Rn LO hL U0 lrm) O.A)
 have FP:=w2.2 _ _ h1
 refine dG O.F λy hy=>?_
 have uZ:=O.a▸A.a
 have qA:∀q∈ar (ar fs (num,cc.a)) (((σ.a.length+1:Nat):Int),mu),q.1=1000\/q.1<((dR.a.length:Nat):Int):=λq hq=>by
  rcases ny hq with h|rfl
  ·rcases uZ q h with h|h
   ·exact .inl h
   ·exact .inr (ZF P U h)
  ·exact .inr (by rw[P];show((σ.a.length+1:Nat):Int)<_;exact ZE)
 have hnm:∀q∈ar fs (num,cc.a),q.1≠((σ.a.length+1:Nat):Int):=λq hq=>by
  rcases uZ q hq with h|h<;>first|exact Tn FQ P U h|exact To P U h
 have F2c:=O.a▸(by rw[ja,IV];exact(U1.B A.F).o rfl rfl:FS dR (ar fs (num,fi)))
 refine b6 (dR.F (ar (ar fs (num,cc.a)) (((σ.a.length+1:Nat):Int),mu))) λY tb=>?_
 have cs:Y.a=dR.a:=tb▸rfl
 have Ms:=M.f (S:=λJ=>False) (uR2.f (tb▸(Uc.t _ _))) w2.f λJ h=>h.elim
 have Bs:FN cc gK fM Γ δ.length dN.length es Y dq:=⟨Ms.D,Ms.k,Ms.j,Ms.p,l1⟩
 have lD:=w.1
 have zl:=z.1
 have lD2:=wD.1
 have lad:=cJ ha
 have rw2:=w2.2 _ _ (M.j.2 _ _ (λq=>by rw[O.a] at q;rcases q with q|q<;>first|exact G_ hL U0 q|exact Ha hL U0 q) O.I)
 have T:Due cc Y dq Γ (n+59) δ.length 0 (ar (ar fs (num,cc.a)) (((σ.a.length+1:Nat):Int),mu)) (ar dA.z (.d (mu+182))) V.length a ((dR.a.length:Nat):Int) p.2 ws (es.map λp=>p.2.c):=
  ⟨tb▸((ja▸(Ia.M _ _ _ _)).H _),(tb▸(F2c.w hnm (by rw[aB];exact ZD UC) mu)),λq hq=>by rcases qA q hq with h|h<;>first|exact S4 FQ P U h|exact Tj U h,by rw[aB,aB];exact ZC UC,tb▸psh,N,wD.2 _ _ ha,lad,rw2,aL▸hp▸rfl,Z _ _ (sC ckp) O.H,W3.1,W3.2,(Bs.c.a p (aU hp)).2⟩
 have Ac:Lg cc gK fM Γ δ.length dN.length es ws bj num ip aV args stk sort ex fs ((σ.a.length+1:Nat):Int) 0 _ _ _ mu Y dq (n+59) 0 (ar dA.z (.d (mu+182))) V.length a ((dR.a.length:Nat):Int) p.2:=
  ⟨T,(⟨f2,FP,by have:=O.l;exact GX this,O.c,O.a▸(ZA Rn LO ckp hL lkp U0 lrm),cJ O.s⟩),Bs,Mu.j wD,oE la zl,Qp lmu lma zl lD2 lad,lma,oE lmu zl,⟨p,hp,rfl⟩,cs▸rfl,cs▸qA,Zz l1 lrm,Zy lkp⟩
 rw[tb] at Ac
 refine EL (K:=K) (mm:=mm) (gv:=gv) F2c hnm psh X Ac (Zx hn) hd O.v O.m (O.u▸O.b▸rfl) (Zw hm) (Zv FQ P U)
  (λσ' aX n' k P' g' a' yj e' hk A' tZ u' Mn=>W σ' aX n' k _ g' a' yj e' hk (Zu tZ) ((U1.D.f u12).f u') (Zt P U Mn) (by rw[aB,aB];exact Qa) (λq hq=>by
   rcases ny hq with h|rfl
   ·rcases A'.j q h with h|h
    ·exact .inl h
    ·exact .inr (Zs h)
   ·exact .inr (A'.c▸(Int.le_refl _)))) λρ' dI h_ ia gl i0 g0 f1 x1 O3 c3=>?_
 refine xE (k:=k) O hht A.F ⟨A.b,A.e⟩ u12 ⟨Qp lmu lma zl lD2 lad,λi v h q=>Z i v h q⟩ O3 (by rcases hm with⟨rfl,rfl⟩|⟨rfl,rfl⟩<;>first|exact SY X l5|exact S3 X l5) (by rcases hm with⟨rfl,rfl⟩|⟨rfl,rfl⟩<;>first|exact SW X hn l5|exact SX X hn l5) f1 hL (by rcases hm with⟨rfl,rfl⟩|⟨rfl,rfl⟩<;>first|exact SU X l5 P U c3|exact SV X l5 P U c3) (P▸e1▸Qb) (K+16) λiw x2 CO=>?_
 exact κ dI iw ρ' (Q6 IM (RE (ai:=(dA.z.length:Nat)) (gv:=gv) O.o O.l hd IE f2 FP (Z _ _ (xf LO) O.o) (hy▸(sv y)) (K+16)) x1 x2) CO
end
end
section
section
variable{K n d fi f k mm:Nat}{σ gK dA:St}{δ fM dN:List MO}{Γ:Cf}{num ip i0:Int}{aV args v:MV}{L bj:List MV}{fs:List (Int×Nat)}{cc:LC}{sort ex:Int}{Aq ρ:Loc}{es:List (Int×En)}{F:k6}{vs:List MV}{μ aG:Hp}
theorem pB(c:Tb.h f=some F)(hb:eH F.a vs []=some Aq)(h:aY Tb (au Tb K) K F.b Aq μ=some (.b v,ρ,aG)):au Tb (K+1) f vs μ=some (v,aG):=(D5 c).trans ((D5 hb).trans (congrArg E7 h))
theorem A6{G:Prop}(i:Int)(r:i=0\/i=1)(A:Ga σ δ n d fi num fs)(I:Inv σ Γ n)(w:σ.u=[])(N:δ[fi]?=some (gw fi num aV (.d 7) ip args k sort ex))(P:δ[fi+1]?=some (.a L))(H:L.length<=700){kk:Nat}(hm:mm=2/\kk=1\/mm=102/\kk=8)
  (W:∀cc len,cc.d=d->(cc.e=1/\cc.b= -1\/cc.e=0/\∃y:Nat,cc.b=(y:Int))->cc.e=i->Wi K cc σ Γ n mm len fs.length)
  (J:∀l j,au Tb (K+17) 1327 [.d 148,.d 8,.d (fi+182),.c (d:Int),.c i] (HS σ δ)=some (.h true,HS l j)->q9 σ δ Γ n kk fi num aV args sort ex L l j->G):G:=by
 refine HA (K:=K) I A.g A.c w A.F N P H i r λcc es gK fM dA dN R Q gv bj vs ws M B s O=>?_
 have t:∀len,Wi K cc σ Γ n mm len fs.length:=λlen=>W cc len O.b (by rcases O.T with h|⟨h,y,_,e⟩;exact .inl h;exact .inr ⟨h,y,e⟩) M
 have m:∀l j ρ,aY Tb (au Tb (K+16)) (K+16) cG.b [(103,.d 148),(250,.d 8),(110,.d (fi+182)),(263,.c (d:Int)),(282,.c i)] (HS σ δ)=some (.b (.h true),ρ,HS l j)->q9 σ δ Γ n kk fi num aV args sort ex L l j->G:=λl j ρ x C=>J l j (pB (F:=cG) ⋯ rfl x) C
 by_cases E:es.length=1
 ·obtain⟨p,rfl⟩:∃p,es=[p]:=Du.mp E
  exact Hy A O B s hm (t 1) m
 ·exact D8 A O (by have:=O.D.z;exact((bL E).elim (λq=>aP λw=>bZ [_] (.o 1 V0.A (.o (V0.A+1) 1 .z)) rfl this q) λq=>bN [_] 2 V0.A (.o (1+1) V0.A .z) rfl q)) B s hm (t _) m
theorem LH(A:Ga σ δ n d fi num fs)(I:Inv σ Γ n)(s:σ.u=[])(r:δ[fi]?=some (gw fi num aV (.d 7) ip args k sort ex))(t:δ[fi+1]?=some (.a L))(o:L.length<=700)(K:Nat){m:Prop}(b:∀l j,au Tb (K+17) 1327 [.d 148,.d 8,.d (fi+182),.c (d:Int),.c 1] (HS σ δ)=some (.h true,HS l j)->q9 σ δ Γ n 1 fi num aV args sort ex L l j->m):m:=
 A6 (K:=K) (mm:=2) 1 (.inr rfl) A I s r t o (.inl ⟨rfl,rfl⟩) (λcc len D p i=>λG E C ix q g a w e H y u z x B J b=>b 2 (aC _) (.inl ⟨(by
  rcases p with⟨_,h⟩|⟨h,_⟩
  ·exact h▸(λe=>by cases e)
  ·replace i:=h▸i;cases i),rfl⟩)) b
theorem xv(A:Ga σ δ n d fi num fs)(I:Inv σ Γ n)(C:σ.u=[])(X:δ[fi]?=some (gw fi num aV (.d 7) ip args k sort ex))(Y:δ[fi+1]?=some (.a L))(D:L.length<=700)(T:n<=19000)(E:fs.length<=70)(M:σ.a.length<=700)(K:Nat){p:Prop}(i:∀s r,au Tb (K+18) 1327 [.d 148,.d 8,.d (fi+182),.c (d:Int),.c 0] (HS σ δ)=some (.h true,HS s r)->q9 σ δ Γ n 8 fi num aV args sort ex L s r->p):p:=
 A6 (K:=K+1) (mm:=102) 0 (.inl rfl) A I C X Y D (.inr ⟨rfl,rfl⟩) (λcc len W l q=>λdR dq n2 ix V g a NC e hx G u Q m O p i=>by
  obtain⟨y,x⟩:∃y:Nat,cc.b=(y:Int):=by
   rcases l with⟨h,_⟩|⟨_,h⟩
   ·replace q:=h▸q;cases q
   ·exact h
  by_cases j:ix=y
  ·refine i 102 (aC _) (.inr ⟨x▸j▸rfl,rfl,λqf mK Z H P z4 t U w J i=>?_⟩)
   refine k9 ((u.f Z).o) λS R N _=>?_
   exact LH ⟨P,t▸O,t▸(bN [_,_] V0.B 800 (.o V0.A 700 (.o V0.B (V0.A+42) .z)) rfl M Q),bN [_,_] V0.B 80 (.o V0.A 70 (.o V0.B (V0.A+2) .z)) rfl E m,aD G (eK (aM T _)),Zd W,cJ w,S▸A.b,R▸A.e⟩ H (N▸C) U w (b7 _) K i
  ·exact i 2 (by decide) (.inl ⟨x▸(Zc j),rfl⟩)) i
end
end
section
section
variable{K n fi stk k m b:Nat}{σ:St}{δ:List MO}{Γ:Cf}{num ip sort ex ad code mid:Int}{x y bd args:MV}{fs:List (Int×Nat)}{p q:Int}
noncomputable abbrev St.W(σ:St)(code mid ip:Int):St:=(σ.aj [.e [.c code,.c mid,.c ip]]).ao 3
theorem Vr(cl:Call)(σ:St)(δ:List MO)(v:MV)(h:σ.G=[]):dj cl (HS σ δ) (.d 162) [v] .a=some (.f,HS (σ.aj [v]) δ):=by
 have:=gG (cl:=cl) (v:=v) (n:=162) (μ:=HS σ δ) (l:=[]) (by rw[<-h];kernel_rfl) (b7 _)
 rw[this];kernel_rfl
theorem ac8(cl:Call)(σ:St)(δ:List MO)(v:MV)(h:σ.H=[]):dj cl (HS σ δ) (.d 163) [v] .a=some (.f,HS (σ.V [v]) δ):=by
 have:=gG (cl:=cl) (v:=v) (n:=163) (μ:=HS σ δ) (l:=[]) (by rw[<-h];kernel_rfl) (b7 _)
 rw[this];kernel_rfl
theorem aeo(σ:St)(δ:List MO)(m:Int):og Tb (HS σ δ) (.d 148) 104 (.c m)=some (HS (σ.ao m) δ):=⋯
theorem Uo(σ:St)(δ:List MO)(h:σ.O=0):iu Tb (HS σ δ) (.d 148) 104=some (.c 0):=by rw[<-h];kernel_rfl
theorem KI(F:FS σ (ar fs (num,fi)))(h:σ.O=0)(g:σ.G=[])(a:δ[fi]?=some (gw fi num (.e [x,.c mid,y]) bd ip args stk sort ex))(code:Int)(K:Nat):au Tb (K+2) 692 [.d 148,.c code] (HS σ δ)=some (.c (-2),HS (σ.W code mid ip) δ):=by
 have f:=o_ F δ
 exact bu [(0,ow (bu [(0,ov (Uo σ δ h)),(4,ov f),(5,oq ((zB (x:=fs.length+1) (y:=0) (decide_eq_true Qq)) (HS σ δ))),(9,ov f),(11,ov (z7 F δ)),(12,ov (ed σ a 108 (MV.e [x,MV.c mid,y]) ⋯)),(14,ov (ed σ a 127 (MV.c ip) ⋯)),(18,ow ((λcl=>Vr cl σ δ (.e [.c code,.c mid,.c ip]) g) (au Tb K))),(19,oh (aeo (σ.aj [.e [.c code,.c mid,.c ip]]) δ 3))] ⋯:au Tb (K+1) 865 [.d 148,.c code] (HS σ δ)=some (.c (-2),HS (σ.W code mid ip) δ)))] ⋯
theorem NB(f:σ.O=0)(a:σ.H=[])(δ:List MO)(K:Nat):au Tb (K+3) 1164 [.d 148] (HS σ δ)=some (.c (-2),HS (σ.V [.c 21]) δ):=by
 have e:∀t,au Tb (K+2) 706 [.d 148,.c 21,t] (HS σ δ)=some (.c (-2),HS (σ.V [.c 21]) δ):=λt=>by
  have e:au Tb (K+1) 795 [.d 148,.c 21] (HS σ δ)=some (.c (-2),HS (σ.V [.c 21]) δ):=bu [(0,ov (Uo σ δ f)),(5,ow ((λcl=>ac8 cl σ δ (.c 21) a) (au Tb K)))] ⋯
  exact bu [(0,ow e)] ⋯
 exact bu [(1,ow (e (.g [79,98,106,101,99,116,32,114,101,102,101,114,101,110,99,101,32,110,111,116,32,115,101,116,32,116,111,32,97,110,32,105,110,115,116,97,110,99,101,32,111,102,32,97,110,32,111,98,106,101,99,116,46])))] ⋯
theorem tH{o:Nat}(H:iP σ n)(i:cR σ.B (.c ad)=some (.d o))(j:iu Tb (HS σ δ) (.d o) 62=some (.c (m:Int)))(hm:m≠k)(g:k≠12)(K:Nat)(s:au Tb (K+3) 202 [.d 11,.c (k:Int)] (HS σ δ)=some (.h true,HS σ δ)):
  au Tb (K+4) 1213 [.d 148,.e [.c 4,.c ad],.c (k:Int)] (HS σ δ)=some (.h false,HS σ δ):=by
 have f:=n_ (m:=k) (c:=12) g
 have l:∀μ,ct μ .a (.c (m:Int)) (.c (k:Int))=some false:=λμ=>nB hm
 exact bu [(4,oq ((tc (H.r i)) (HS σ δ))),(6,oq (f (HS σ δ))),(9,ow s),(16,ow ((λcl=>C9 cl H δ i) (au Tb (K+3)))),(19,ov j),(20,oq (l (HS σ δ))),(23,ov j),(24,ow (bu [(0,oq (l (HS σ δ))),(2,oq (f (HS σ δ)))] ⋯:au Tb (K+3) 615 [.d 148,.c (m:Int),.c (k:Int)] (HS σ δ)=some (.h false,HS σ δ)))] ⋯
theorem UQ(K:Nat)(σ:St)(δ:List MO):au Tb (K+3) 202 [.d 11,.c ((13:Nat):Int)] (HS σ δ)=some (.h true,HS σ δ):=bu [] ⋯
theorem UR(a:σ.R.length<=100000)(K:Nat)(δ:List MO):au Tb (K+3) 202 [.d 11,.c ((18:Nat):Int)] (HS σ δ)=some (.h true,HS σ δ):=bu [(7,ow ((Br (m:=18) a (J4 σ.R)) (K+1) σ δ ⋯))] ⋯
theorem ab8{s:Int}{t:Nat}{w:MV}(g:σ.R.length<=100000)(h:i3 σ.R k s t w)(f:s=2)(K:Nat)(δ:List MO):au Tb (K+3) 202 [.d 11,.c (k:Int)] (HS σ δ)=some (.h true,HS σ δ):=by
 subst f
 have e:=h.b
 exact bu [(0,oq ((n_ (m:=k) (c:=12) (GD e)) (HS σ δ))),(2,oq ((n_ (m:=k) (c:=13) (Gp e)) (HS σ δ))),(4,oq ((n_ (m:=k) (c:=14) (Pj e)) (HS σ δ))),(7,ow ((Br g h.a) (K+1) σ δ ⋯))] ⋯
end
end
section
inductive xa (R:List Row):CT->MV->Int->Prop
 |s:xa R (.b 115) (.e [.c 4,.c 16]) 5
 |k:xa R (.b 107) (.e [.c 4,.c 19]) 5
 |l (c:Nat) (h:c=108\/c=76):xa R (.b c) (.e [.c 1,.c 5]) 1
 |p (j:Nat):xa R (.b 112) (.e [.c 5,.c ((j+20:Nat):Int),.e [.e [.c 1,.c 1],.e [.c 1,.c 5]]]) 1
 |q (c j:Nat) (h:R[j]?=some (.d .c 8 false)) (hc:c≠117):xa R (.q c) (.e [.c 5,.c ((j+20:Nat):Int),.e [.e [.c 1,.c 1],.e [.c 1,.c 5]]]) 1
 |r (c:Nat):xa R (.r c) (.e [.c 2,.c 5]) 1
 |n (c:Nat) (h:c∈RD\/c=111):xa R (.b c) (.e [.c 2,.c 5]) 1
section
variable{K n m fi stk b c:Nat}{σ:St}{δ:List MO}{Γ:Cf}{num ip sort ex mid:Int}{x y bd args v:MV}{fs:List (Int×Nat)}{t:CT}{R:List Row}
theorem xa.a{R x:List Row}{w:Int}(h:xa R t v w):xa (R++x) t v w:=by
 cases h with
 |s=>exact .s
 |k=>exact .k
 |l c h=>exact .l c h
 |p j=>exact .p j
 |q c j h d=>exact .q c j (lX h) d
 |r c=>exact .r c
 |n c h=>exact .n c h
theorem Cn{k:Nat}(f:dj (au Tb (K+5)) (HS σ δ) (.d 148) [.c (m:Int)] (.c 664)=some (.c (k:Int),HS σ δ))(a:au Tb (K+5) 378 [.d 11,v,.c (k:Int)] (HS σ δ)=some (.h false,HS σ δ)){σ':St}(g:au Tb (K+5) 692 [.d 148,.c 1] (HS σ δ)=some (.c (-2),HS σ' δ)):
 au Tb (K+6) 879 [.d 148,.c (m:Int),v] (HS σ δ)=some (.e [.c 0,.c 0],HS σ' δ):=bu [(1,ow f),(3,ow a),(7,ow g)] ⋯
theorem Vg{R:List Row}(W:KW R){i j:Nat}{o:Bool}(h:R[i]?=some (.d .c 8 false))(g:R[j]?=some (.d .c b o))(hb:b≠8):i≠j:=by
 rintro rfl
 replace g:=h▸g;cases g;exact hb rfl
theorem Nh{w:Int}(F:σ.R.length<=100000)(W:KW σ.R)(g:cj σ.R 0 m t)(h:xa σ.R t v w)(J:w=1)(L:t.f≠84){σ':St}(u:au Tb (K+5) 692 [.d 148,.c 1] (HS σ δ)=some (.c (-2),HS σ' δ)):
  au Tb (K+6) 879 [.d 148,.c (m:Int),v] (HS σ δ)=some (.e [.c 0,.c 0],HS σ' δ):=by
 have lo:∀k:Nat,m=k->k≠17->au Tb (K+5) 378 [.d 11,v,.c (k:Int)] (HS σ δ)=some (.h false,HS σ δ)->au Tb (K+6) 879 [.d 148,.c (m:Int),v] (HS σ δ)=some (.e [.c 0,.c 0],HS σ' δ):=λk e H h=>by
  refine fI e ?_;exact Cn (pU (K:=K+4) H) h u
 cases h with
 |s=>cases J
 |k=>cases J
 |l c h=>
  rcases h with rfl|rfl
  ·exact lo 9 g (by decide) (nD ⋯)
  ·exact lo 10 g (by decide) (nD ⋯)
 |p j=>
  refine lo 16 g (by decide) ?_
  exact bu [(0,ow (mA (K:=K+2) (a:=jn σ) (R:=σ.R) (z:=gh σ++δ) (m:=16) (s:=3) (l:=[.c 69,.e []]) (by rw[aJ (by simp[bR])];rfl) OV F (.inr (.inl ⟨rfl,rfl⟩)))),(7,oq ((n_ (m:=j+20) (c:=16) λC=>bZ [_] (.e (V0.A+20) 16 .z) rfl C) (HS σ δ)))] ⋯
 |q c j h N=>
  obtain⟨D,i,rfl,E⟩:=g
  have I:=L
  have O:=Vg W h E (by
   intro e
   have:=vZ (v:=0) D I
   revert e
   unfold bB at D
   rw[show aR c 84=false from by cases q:aR c 84 with|false=>rfl|true=>exact absurd (aK q) I,qZ] at D
   obtain⟨z,hz⟩:=dT.mp D
   have M:kd 0 c=z:=by unfold kd;rw[show aR c 84=false from by cases q:aR c 84 with|false=>rfl|true=>exact absurd (aK q) I,hz];rfl
   rw[M]
   rintro rfl
   exact N (by
    have:=aT.mp (by kernel_rfl:(rJ.all λp=> !aR p.2 8||aR p.1 117)=true) _ (j4 hz)
    exact aK this))
  refine lo (i+20) rfl xc ?_
  exact bu [(0,ow (mA (K:=K+2) (a:=jn σ) (R:=σ.R) (z:=gh σ++δ) (m:=i+20) (gf E) uH F (.inr (.inl ⟨rfl,rfl⟩)))),(7,oq ((λμ=>nB ((bL O).elim (λG=>λC=>bZ [_,_] (.o (V0.A+1) V0.B (.f (V0.B+20) (V0.A+20) .z)) rfl G C) λG=>λC=>bZ [_,_] (.o (V0.B+1) V0.A (.e (V0.A+20) (V0.B+20) .z)) rfl G C):∀μ,ct μ .a (.c ((j+20:Nat):Int)) (.c ((i+20:Nat):Int))=some false) (HS σ δ)))] ⋯
 |r c=>
  obtain⟨D,i,rfl,E⟩:=g
  refine lo (i+20) rfl xc ?_
  exact bu [(0,ow (mA (K:=K+2) (a:=jn σ) (R:=σ.R) (z:=gh σ++δ) (m:=i+20) (gf E) uH F (.inr (.inr (.inl ⟨rfl,rfl⟩)))))] ⋯
 |n c h=>
  rcases h with h|rfl
  ·exact Kn (P:=λc=>m=kd 0 c->_) h (λe=>lo 1 e (by decide) (nD ⋯)) (λe=>lo 2 e (by decide) (nD ⋯)) (λe=>lo 3 e (by decide) (nD ⋯)) (λe=>lo 4 e (by decide) (nD ⋯)) (λe=>lo 5 e (by decide) (nD ⋯)) (λe=>lo 6 e (by decide) (nD ⋯)) (λe=>lo 7 e (by decide) (nD ⋯)) (λe=>lo 8 e (by decide) (nD ⋯)) (λe=>lo 11 e (by decide) (nD ⋯))
    (λe=>e▸Cn (k:=5) (nD ⋯:au Tb (K+5) 664 [.d 148,.c ((17:Nat):Int)] (HS σ δ)=some (.c ((5:Nat):Int),HS σ δ)) (nD ⋯) u) g
  ·exact lo 12 g (by decide) (nD ⋯)
end
end
section
section
variable{body:Loc->Hp->Ex}{store:MV->Loc->Hp->Option (Loc×Hp)}{all:List MV}{p:Nat}{r:MV}{Q:Hp->Prop}{Ω:Prop}
theorem xG(P:Nat->Loc->Hp->Prop)(G:p<all.length)
  (step:∀k v ρ μ (Ω:Prop),k<p->all[k]?=some v->P k ρ μ->(∀bt bC x j,store v ρ μ=some (bt,bC)->body bt bC=some (.a,x,j)->P (k+1) x j->Ω)->Ω)
  (m:∀v ρ μ (Ω:Prop),all[p]?=some v->P p ρ μ->(∀bt bC x j,store v ρ μ=some (bt,bC)->body bt bC=some (.b r,x,j)->Q j->Ω)->Ω):
  ∀(u:List MV) (k:Nat) (ρ:Loc) (μ:Hp),all.drop k=u->k<=p->P k ρ μ->(∀ρ' C,qx body store u ρ μ=some (.b r,ρ',C)->Q C->Ω)->Ω
 |[],_,_,_,h,hk,_,_=>absurd (j9.mp h) (VW (jd hk G))
 |v::rs,k,ρ,μ,h,hk,q,ω=>sP h λF L=>by
  by_cases e:k=p
  ·cases e
   exact m v ρ μ _ F q λJ J x j E D p2=>ω x j ((j7 E).trans (oxR D)) p2
  ·exact step k v ρ μ _ ((bL e).elim (λy=>gy [_,_] V0.A V0.B (.o (V0.A+1) V0.B .z) rfl y) λy=>cL λI=>bZ [_,_] (.o V0.A V0.B (.o (V0.B+1) V0.A .z)) rfl hk y) F q λJ J x j E D p2=>xG P G step m rs (k+1) x j L ((bL e).elim (λy=>bN [_,_] (V0.A+1) V0.B (.o (V0.A+1) V0.B .z) rfl y) λy=>aP λI=>bZ [_,_] (.o V0.A V0.B (.o (V0.B+1) V0.A .z)) rfl hk y) p2 λρ' C H M=>ω ρ' C ((j7 E).trans ((NG D).trans H)) M
variable{T:Tab}{cl:Call}{fuel n:Nat}{t:MT}{e:ME}{b:List MS}{ρ:Loc}{μ bC:Hp}
theorem rr(P:Nat->Loc->Hp->Prop)(E:aO T cl e ρ μ=some (.c (n:Int),bC))(z:n<=1000)(D:p<n)(q:P 0 ρ bC)
  (step:∀k ρ μ (Ω:Prop),k<p->P k ρ μ->(∀bt bC x o,eX T cl t (.c (k:Int)) ρ μ=some (bt,bC)->aY T cl fuel b bt bC=some (.a,x,o)->P (k+1) x o->Ω)->Ω)
  (m:∀ρ μ (Ω:Prop),P p ρ μ->(∀bt bC x o,eX T cl t (.c (p:Int)) ρ μ=some (bt,bC)->aY T cl fuel b bt bC=some (.b r,x,o)->Q o->Ω)->Ω)
  (j:∀ρ' u,bQ T cl fuel (.g t (.a e) b) ρ μ=some (.b r,ρ',u)->Q u->Ω):Ω:=
 xG (r:=r) (p:=p) (all:=yM (n:Int)) P (by rw[sj];exact D) (λk v ρ μ Ω A y q j=>by
  obtain⟨_,rfl⟩:=pX (n:=n) y
  exact step k ρ μ Ω A q j) (λv ρ μ Ω y q j=>by
  obtain⟨_,rfl⟩:=pX (n:=n) y
  exact m ρ μ Ω q j) _ 0 ρ bC rfl (b7 _) q λρ' u C B=>j ρ' u ((j7 E).trans ((j1 (AK z)).trans C)) B
end
section
variable{K n t b c d i l ai f dk g h vi p:Nat}{s:Int}{σ σ':St}{δ jE:List MO}{vs ws:List MV}{ta w aV:MV}{Γ:Cf}{ad kk num:Int}{ks:List Nat}{ts:List CT}
noncomputable abbrev ctR(aV:MV)(ks:List Nat)(vi o:Nat):Loc:=[(103,.d 148),(108,aV),(220,.d (vi+182)),(160,.e (cB ks)),(56,.d (o+182))]
noncomputable abbrev T8(aV:MV)(ks:List Nat)(vi o:Nat)(x y:MV):Loc:=[(103,.d 148),(108,aV),(220,.d (vi+182)),(160,.e (cB ks)),(56,.d (o+182)),(182,x),(91,y)]
theorem Je(σ:St)(δ:List MO)(a:ks.length<=3):mj (HS σ δ) (.e (cB ks))=some (.c ((ks.length:Nat):Int)):=by
 show gd ((cB ks).length<=bz) (some (MV.c ((cB ks).length:Nat)))=_
 rw[j1 (by unfold cB bz;simp;exact OU a)];unfold cB;simp
theorem HI(V:σ.R.length<=100000)(N:δ[vi]?=some (.a vs))(u:ks.length<=3)(A:ws.length=ks.length)(B:p<ks.length)
  (U:∀j,j<p->Ar5 σ.R ks vs ws j)
  {kk:Nat} {v:MV} (L:ks[p]?=some kk) (I:vs[p]?=some v) (H:∀o,Gw δ o->au Tb (K+6) 879 [.d 148,.c ((kk:Nat):Int),v] (HS σ o)=some (.e [.c 0,.c 0],HS σ' o)) {Ω:Prop} (E:∀ρ' o,bQ Tb (au Tb (K+6)) (K+6) (fF Q7 2) (ctR aV ks vi δ.length) (HS σ (ar δ (.a [])))=some (.b .f,ρ',HS σ' o)->Gw δ o->Ω):Ω:=by
 refine rr (r:= .f) (T:=Tb) (cl:=au Tb (K+6)) (fuel:=K+6) (n:=ks.length) (p:=p) (t:= .b 182) (e:= .p (.d 160)) (b:=[.f (.b 91) (.j 879 [.d 103,.h (.d 160) (.d 182),.h (.d 220) (.d 182)]),.m (.q .a (.d 91) (.g (.e [.c 0,.c 0]))) [.p (.g .f)] [],.d (.n (.d 56) 0 [.d 91])])
  (ρ:=ctR aV ks vi δ.length) (μ:=HS σ (ar δ (.a []))) (bC:=HS σ (ar δ (.a []))) (Q:=λP=>∃o,P=HS σ' o/\Gw δ o)
  (λk ρ μ=>(ρ=ctR aV ks vi δ.length\/∃x y,ρ=T8 aV ks vi δ.length x y)/\μ=HS σ (ar δ (.a (ws.take k))))
  (n9 [(0,ov (Je σ (ar δ (.a [])) u))] ⋯) (GF u A) B ⟨.inl rfl,rfl⟩ (λk ρ μ Ω G q E=>?_) (λρ μ Ω q E=>?_) λρ' P e q=>?_
 ·obtain⟨t,kk,v,w,L,I,S,X,H⟩:=U k G
  have W:=lP S
  have C:=rm (HS σ (ar δ (.a (ws.take k)))) (l:=cB ks) (k:=k) (v:= .c (kk:Int)) (by unfold cB;rw[aL,L];rfl) (ZL u A B G)
  have F:=jV σ (fU (.a (ws.take k)) N) I (ZK u A B G)
  have D:=qV (σ:=σ) (δ:=ar δ (.a (ws.take k))) (K:=K) V X H
  have O:=H.z
  have J:=kj (au Tb (K+6)) σ (h9 δ (.a (ws.take k)) δ.length rfl) w (bw (by simp;unfold bz;exact ZM u A B G))
  rw[dK,<-W] at J
  have M:=h9 δ (.a (ws.take k)) δ.length rfl
  obtain⟨p1,rfl⟩:=q
  refine E _ (HS σ (ar δ (.a (ws.take k)))) (T8 aV ks vi δ.length (.c (k:Int)) w) (HS σ (ar δ (.a (ws.take (k+1))))) rfl ?_ ⟨.inr ⟨_,_,rfl⟩,rfl⟩
  rcases p1 with rfl|⟨x,y,rfl⟩
  ·exact eD [(0,ov C),(1,ov F),(2,ow D),(3,oq (O (HS σ (ar δ (MO.a (hY k ws)))))),(5,oc (jB σ M)),(6,ow J)] ⋯
  ·exact eD [(0,ov C),(1,ov F),(2,ow D),(3,oq (O (HS σ (ar δ (MO.a (hY k ws)))))),(5,oc (jB σ M)),(6,ow J)] ⋯
 ·have C:=rm (HS σ (ar δ (.a (ws.take p)))) (l:=cB ks) (k:=p) (v:= .c (kk:Int)) (by unfold cB;rw[aL,L];rfl) (Pk u A B)
  have F:=jV σ (fU (.a (ws.take p)) N) I (ZJ u A B)
  have D:=H (ar δ (.a (ws.take p))) (Gw.d _ _)
  obtain⟨p1,rfl⟩:=q
  refine E _ (HS σ (ar δ (.a (ws.take p)))) (T8 aV ks vi δ.length (.c (p:Int)) (.e [.c 0,.c 0])) (HS σ' (ar δ (.a (ws.take p)))) rfl ?_ ⟨_,rfl,Gw.d _ _⟩
  rcases p1 with rfl|⟨x,y,rfl⟩
  ·exact eD [(0,ov C),(1,ov F),(2,ow D)] ⋯
  ·exact eD [(0,ov C),(1,ov F),(2,ow D)] ⋯
 ·obtain⟨o,rfl,w⟩:=q
  exact E ρ' o e w
end
end
section
section
variable{K n t b c d i l ai f dk g h vi p:Nat}{s:Int}{σ dR dI:St}{δ dq:List MO}{vs ws:List MV}{ta w fo:MV}{Γ:Cf}{ad kk num:Int}{ks:List Nat}{ts:List CT}
noncomputable abbrev alR(aV x3:MV)(ks:List Nat)(vi:Nat):Loc:=[(103,.d 148),(108,aV),(218,x3),(28,.d (vi+182)),(160,.e (cB ks)),(226,.c 1)]
noncomputable abbrev R4(aV x3:MV)(ks:List Nat)(vi:Nat)(x:MV):Loc:=[(103,.d 148),(108,aV),(218,x3),(28,.d (vi+182)),(160,.e (cB ks)),(226,.c 1),(182,x)]
theorem Ht{aV x3:MV}(I:Inv σ Γ n)(W:n<=70000)(M:δ[vi]?=some (.a (w::ws)))(u:ks.length<=3)(G:p<ks.length)
  (U:∀j,j<p->Ar6 σ.R ks ws j)
  {kk:Nat} {v:MV} (L:ks[p]?=some kk) (O:ws[p]?=some v) (D:au Tb (K+4) 1213 [.d 148,v,.c ((kk:Nat):Int)] (HS σ δ)=some (.h false,HS σ δ)) {H:Prop} (E:∀ρ',bQ Tb (au Tb (K+4)) (K+4) (fF Q8 3) (alR aV x3 ks vi) (HS σ δ)=some (.b (.h false),ρ',HS σ δ)->H):H:=by
 refine rr (r:= .h false) (T:=Tb) (cl:=au Tb (K+4)) (fuel:=K+4) (n:=ks.length) (p:=p) (t:= .b 182) (e:= .p (.d 160)) (b:=[.m (.C (.j 1213 [.d 103,.h (.d 28) (.r .a (.d 226) (.d 182)),.h (.d 160) (.d 182)])) [.p (.g (.h false))] []])
  (ρ:=alR aV x3 ks vi) (μ:=HS σ δ) (bC:=HS σ δ) (Q:=λN=>N=HS σ δ)
  (λk ρ μ=>(ρ=alR aV x3 ks vi\/∃x,ρ=R4 aV x3 ks vi x)/\μ=HS σ δ)
  (n9 [(0,ov (Je σ δ u))] ⋯) (jT u) G ⟨.inl rfl,rfl⟩ (λk ρ μ H J q E=>?_) (λρ μ H q E=>?_) λρ' N e q=>?_
 ·obtain⟨t,kk,v,Y,L,S,X,V,P⟩:=U k J
  have y:=rm (HS σ δ) (l:=cB ks) (k:=k) (v:= .c (kk:Int)) (by unfold cB;rw[aL,L];rfl) (bN [_,_,_] V0.C 1000 (.o V0.A 3 (.o (V0.B+1) V0.A (.o (V0.C+1) V0.B .z))) rfl u G J)
  have F:=(show(1:Int)+(k:Int)=((k+1:Nat):Int) from AQ)▸(jV σ M S (gy [_,_,_] (V0.C+1) 100000 (.o V0.A 3 (.o (V0.B+1) V0.A (.o (V0.C+1) V0.B .z))) rfl u G J))
  have D:=C5 (δ:=δ) I (by have:=I.r;exact xj W this) X V P K
  obtain⟨p1,rfl⟩:=q
  refine E _ (HS σ δ) (R4 aV x3 ks vi (.c (k:Int))) (HS σ δ) rfl ?_ ⟨.inr ⟨_,rfl⟩,rfl⟩
  rcases p1 with rfl|⟨x,rfl⟩
  ·exact eD [(1,ov F),(2,ov y),(3,ow D)] ⋯
  ·exact eD [(1,ov F),(2,ov y),(3,ow D)] ⋯
 ·have y:=rm (HS σ δ) (l:=cB ks) (k:=p) (v:= .c (kk:Int)) (by unfold cB;rw[aL,L];rfl) (bN [_,_] V0.B 1000 (.o V0.A 3 (.o (V0.B+1) V0.A .z)) rfl u G)
  have F:=(show(1:Int)+(p:Int)=((p+1:Nat):Int) from AQ)▸(jV σ M O (gy [_,_] (V0.B+1) 100000 (.o V0.A 3 (.o (V0.B+1) V0.A .z)) rfl u G))
  obtain⟨p1,rfl⟩:=q
  refine E _ (HS σ δ) (R4 aV x3 ks vi (.c (p:Int))) (HS σ δ) rfl ?_ rfl
  rcases p1 with rfl|⟨x,rfl⟩
  ·exact eD [(1,ov F),(2,ov y),(3,ow D)] ⋯
  ·exact eD [(1,ov F),(2,ov y),(3,ow D)] ⋯
 ·subst q
  exact E ρ' e
theorem Lu{q:Prop}(I:Inv σ Γ n)(x:n<=60000)(z:d<2)(A:bB l=true)(B:l≠84)(M:kL σ.R d l dk)(L:p<(Γ.T d).length)(E:δ[vi]?=some (.a (w::ws)))
  (H:∀R' ks,dM σ.R R' 4->ig (λk t=>cj R' (Γ.v 0) k t) ks ((Γ.T d).map (CT.e l))->∀j,j<p->Ar6 R' ks ws j)
  (N:∀R' ks m,dM σ.R R' 4->ig (λk t=>cj R' (Γ.v 0) k t) ks ((Γ.T d).map (CT.e l))->∀{q:Prop},(∀k v,ks[p]?=some k->ws[p]?=some v->au Tb (K+12) 1213 [.d 148,v,.c ((k:Nat):Int)] (HS (σ.r R') m)=some (.h false,HS (σ.r R') m)->q)->q)
  (J:∀R' m,dM σ.R R' 4->Gw δ m->au Tb (K+12) 1213 [.d 148,w,.c (dk:Int)] (HS (σ.r R') m)=some (.h true,HS (σ.r R') m)) (C:∀R' m,(au Tb (K+13) 1220 [.d 148,jL dk d,.d (hU (b0 d 0)),.d (vi+182)] (HS σ δ)=some (.h false,HS (σ.r R') m))->(dM σ.R R' 4)->(Gw δ m)->q):q:=by
 refine pR I (xk x) z A B M K δ λR' kr ks y F u G=>?_
 have lk:ks.length=(Γ.T d).length:=by have:=u.e;rw[ay] at this;exact this
 have o:=cg y E
 refine N R' ks (cU δ y) G u λk v x1 x2 x3=>?_
 refine Ht (K:=K+8) (σ:=σ.r R') (δ:=cU δ y) (vi:=vi) (p:=p) (aV:=jL dk d) (x3:= .d (hU (b0 d 0))) (I.D G) (Py x) o (Qr (I.a.a d) lk) (GQ L lk) (H R' ks G u) x1 x2 x3 λρ' e=>?_
 refine C R' (cU δ y) ?_ G (Gw.k _ _)
 exact bu [(1,ow F),(3,ow (tA (σ:=σ.r R') (δ:=cU δ y) z (K+11))),(6,ov (hK (σ.r R') o 0 w ⋯)),(8,ow (J R' (cU δ y) G (Gw.k _ _))),(11,os e)] ⋯
theorem Gk{j:Prop}(I:Inv σ Γ n)(u:n<=60000)(m:d<2)(o:bB l=true)(q:l≠84)(B:kL σ.R d l dk)(x:δ[vi]?=some (.a (w::ws)))
  (A:∀R' e,dM σ.R R' 4->Gw δ e->au Tb (K+12) 1213 [.d 148,w,.c (dk:Int)] (HS (σ.r R') e)=some (.h false,HS (σ.r R') e)) (v:∀R' e,(au Tb (K+13) 1220 [.d 148,jL dk d,.d (hU (b0 d 0)),.d (vi+182)] (HS σ δ)=some (.h false,HS (σ.r R') e))->(dM σ.R R' 4)->(Gw δ e)->j):j:=by
 refine pR I (xk u) m o q B K δ λR' kr ks y z C G=>?_
 refine v R' (cU δ y) ?_ G (Gw.k _ _)
 exact bu [(1,ow z),(3,ow (tA (σ:=σ.r R') (δ:=cU δ y) m (K+11))),(6,ov (hK (σ.r R') (cg y x) 0 w ⋯)),(8,ow (A R' (cU δ y) G (Gw.k _ _)))] ⋯
theorem HY(j:d<2)(e:au Tb (K+13) 1220 [.d 148,jL dk d,.d (hU (b0 d 0)),.d (vi+182)] (HS σ δ)=some (.h false,HS dR dq))(a:au Tb (K+13) 692 [.d 148,.c 5] (HS dR dq)=some (.c (-2),HS dI dq)):
 au Tb (K+14) 1206 [.d 148,fo,jL dk d,.d (hU (b0 d 0)),.d (vi+182)] (HS σ δ)=some (.c (-2),HS dI dq):=bu [(0,ov (Jq σ δ j)),(3,ow e),(7,ow a)] ⋯
theorem L8{o:Prop}(I:Inv σ Γ n)(y:n<=60000)(k:d<2)(v:bB l=true)(x:l≠84)(D:kL σ.R d l dk)(A:fC σ.R ((Γ.T d).map (CT.e l)) vs ws)(q:δ[vi]?=some (.a (cb::ws)))(C:σ.O=0)(B:σ.H=[])(z:∀R' j,(dM σ.R R' 4)->(Gw δ j)->(au Tb (K+14) 1206 [.d 148,fo,jL dk d,.d (hU (b0 d 0)),.d (vi+182)] (HS σ δ)=some (.c (-2),HS ((σ.r R').V [.c 21]) j))->o):o:=by
 refine Gl (K:=K) I y k v x D A q (λR' j J J=>nU (K+11)) λR' j m G u=>?_
 refine z R' j G u ?_
 exact bu [(0,ov (Jq σ δ k)),(3,ow m),(6,ow (Cr (σ:=σ.r R') (δ:=j) k (K+11))),(8,ov (hK (σ.r R') (u.2 _ _ q) 0 (MV.e [MV.c 4,MV.c 0]) ⋯)),(11,ow (NB (σ:=σ.r R') C B j (K+10)))] ⋯
end
end
section
section
variable{K n t b c d i l ai f dk g h vi p fi stk:Nat}{s ip sort ex:Int}{σ dR dI:St}{δ dq:List MO}{vs ws bj:List MV}{w fo bd args aV mx my odd:MV}{Γ:Cf}{ad kk num word:Int}{ks:List Nat}{u:CT}{fs:List (Int×Nat)}
theorem zr{M:Prop}(I:Inv σ Γ n)(L:n<=50000)(N:d<2)(F:bB l=true)(y:l≠84)(E:kL σ.R d l dk)(A:fC σ.R ((Γ.T d).map (CT.e l)) vs ws)
  (hf:δ[fi]?=some (gw fi num aV bd ip args stk sort ex)) (Z:δ[stk]?=some (.a (cU bj (cb::vs)))) (hj:bj.length<=3) (h0:σ.O=0) (h1:σ.H=[]) (Q:∀R' C,(dM σ.R R' 8)->(Fz (ph stk) δ C)->(au Tb (K+15) 1192 [.d 148,.d (fi+182),jL dk d,.c (bj.length:Nat)] (HS σ δ)=some (.c (-2),HS ((σ.r R').V [.c 21]) C))->M):M:=by
 refine rY (K:=K) I L N F y E (by rw[A.m,ay]) (by rw[A.k,ay]) (λR' ks G U j hj=>by
  refine oZ y A G U hj λt k v w z x B q4 X J=>?_
  exact .mk t k v w z x B q4 X) hf Z hj λR1 mK o q W z x B H=>?_
 refine L8 (K:=K) (σ:=σ.r R1) (δ:=mK) (fo:= .d (fi+182)) (vi:=o) (ws:=ws) (I.D q) (AV L) N F y (iH q.c E) (nR q.c A) x h0 h1 λY S G2 P e=>?_
 exact Q Y S ((q.f G2).e AU) (W.k P.f) (H _ _ e)
structure yQ (σ:St) (δ:List MO) (fi:Nat) (num ip:Int) (mx my bd args:MV) (stk:Nat) (sort ex:Int) (fs:List (Int×Nat)):Prop where
 F:FS σ (ar fs (num,fi))
 k:σ.O=0
 e:σ.G=[]
 a:δ[fi]?=some (gw fi num (.e [mx,.c 2,my]) bd ip args stk sort ex)
theorem yQ.j(A:yQ σ δ fi num ip mx my bd args stk sort ex fs){m:List MO}{R':List Row}(w:Fz (ph stk) δ m)(q:fi≠stk)(code:Int)(K:Nat):au Tb (K+2) 692 [.d 148,.c code] (HS (σ.r R') m)=some (.c (-2),HS ((σ.r R').W code 2 ip) m):=
 KI (σ:=σ.r R') (F:=A.F.o rfl rfl) A.k A.e (w.2 _ _ q A.a) code K
theorem zq(I:Inv σ Γ n)(hn:n<=50000)(hd:d<2)(dP:bB l=true)(cQ:l≠84)(Z:kL σ.R d l dk)(A:fC σ.R ((Γ.T d).map (CT.e l)) vs ws)
  (B:yQ σ δ fi num ip mx my bd args stk sort ex fs) (U:((Γ.T d).map (CT.e l))[p]?=some u) (Q:u.f≠84) (ho:xa σ.R u odd word) (hw:word=1) (F:δ[stk]?=some (.a (cU bj (.e [.c 4,.c ad]::vs.set p odd)))) (hj:bj.length<=3) {Ω:Prop} (ω:∀R' V,dM σ.R R' 8->Fz (ph stk) δ V->au Tb (K+15) 1192 [.d 148,.d (fi+182),jL dk d,.c (bj.length:Nat)] (HS σ δ)=some (.c (-2),HS ((σ.r R').W word 2 ip) V)->Ω):Ω:=by
 have hl:σ.R.length<=100000:=by have:=I.r;exact Pq hn this
 have l3:=I.a.a d
 have q:((Γ.T d).map (CT.e l)).length=(Γ.T d).length:=ay ..
 have M:p<(Γ.T d).length:=by have:=(ax.mp U).1;exact Qs q this
 have D:=A.m
 have z:=A.k
 have P:=B.a
 have nf:fi≠stk:=by intro e;rw[e,F] at P;cases P
 refine b6 (vs.set p odd) λE N=>?_
 have C:E.length=vs.length:=by rw[N,fX]
 replace F:=N.symm▸F
 refine b6 (ar δ (.a [.e [.c 4,.c ad]])) λO ej=>?_
 refine b6 (ar O (.a E)) λdq X=>?_
 have w1:Gw δ O:=by rw[ej];exact Gw.d _ _
 have w2:=X▸(w1.e (Gw.d _ _))
 have S:(cU bj (.e [.c 4,.c ad]::E)).drop (bj.length+1)=E:=by unfold cU;simp
 refine pR I (PE hn) hd dP cQ Z (K+1) dq λR' kr ks y m1 Y G=>?_
 have lk:ks.length=(Γ.T d).length:=by have:=Y.e;exact ZY q D z C this
 have L:(σ.r R').R.length<=100000:=by have t1:=G.p;have t2:=I.r;show R'.length<=_;exact Tp hn hl t1 t2
 refine Y.o U λk uZ qA=>?_
 refine HI (K:=K+7) (σ:=σ.r R') (σ':=(σ.r R').W 1 2 ip) (δ:=cU dq y) (vi:=O.length) (aV:=jL dk d) (vs:=E) (ws:=ws) (v:=odd) L (cg y (X▸(h9 _ _ _ rfl))) (ZX l3 q D z C lk) (ZW q D z C lk) (ZV q M D z C lk) (λj H=>
   oZ cQ A G Y ((ZU q M D z C lk H):j<(Γ.T d).length) λt k v w q1 q2 q3 q4 q5 J=>
   .mk t k v w q1 (by rw[N,cV (sC H)];exact q2) q3 q4 q5) uZ (by rw[N,cM (ZT q M D z C lk)]) (λV w=>by
   refine dG G.c λx hx=>?_
   refine cf (cW.mp (aU U)) λu0 J z0=>?_
   subst z0
   exact Nh (K:=K+7) L G.r (qA.p cQ) (show xa R' _ _ _ by rw[hx];exact ho.a) hw Q (B.j (((w2.e (Gw.k _ _)).e w).f) nf 1 (K+10))) λρ' h_ e w3=>?_
 subst hw
 refine ω R' h_ (G.e ZS) (((w2.e (Gw.k _ _)).e w3).f) ?_
 have jW:=fU (.a []) P
 have x0:=jV σ (fU (.a []) F) (by unfold cU;simp:(cU bj (.e [.c 4,.c ad]::E))[bj.length]?=some (.e [.c 4,.c ad])) (PD hj)
 have ap:=λcl=>kj cl σ (h9 δ (.a []) δ.length rfl) (.e [.c 4,.c ad]) rfl
 rw[dK] at ap
 have sl:=pa (w1.2 _ _ F) (GK (by unfold cU;simp;exact Z0 hj l3 q M D z C)) (bj.length+1) (PB hj) σ
 rw[S,<-X,show((bj.length+1:Nat):Int)=(bj.length:Int)+1 from xg] at sl
 exact bu [(0,ow (Cp (δ:=δ) hl hd Z (.e []) (K+10))),(4,ow (tA (σ:=σ) (δ:=ar δ (.a [])) hd (K+13))),(7,ov (ed σ jW 126 (MV.d (stk+182)) ⋯)),(8,ov x0),(9,ow (yn (σ:=σ) (δ:=ar δ (.a [])) hl Z (b0 d 0:Nat) (.e []) ad (K+11))),(12,oc (jB σ (h9 δ (.a []) δ.length rfl))),(13,ov (ed σ jW 126 (MV.d (stk+182)) ⋯)),(14,ov x0),(15,ow ((λcl=>ej▸(ap cl)) (au Tb (K+14)))),(17,ov (ed σ (w1.2 _ _ P) 126 (MV.d (stk+182)) ⋯)),(18,ow sl),(19,ow (bu [(1,ow m1),(4,os e)] ⋯:au Tb (K+14) 1178 [.d 148,jL dk d,.d (O.length+182)] (HS σ dq)=some (.f,HS ((σ.r R').W 1 2 ip) h_)))] ⋯
end
end
section
section
variable{K n t b c d i l ai f dk g h vi p fi stk:Nat}{s ip sort ex:Int}{σ dR dI:St}{δ dq:List MO}{vs ws bj:List MV}{w fo bd args aV mx my odd:MV}{Γ:Cf}{ad kk num word:Int}{ks:List Nat}{u:CT}{fs:List (Int×Nat)}
theorem aea{R:List Row}(h:xa R u odd word)(j:word=5):u= .b 115/\odd= .e [.c 4,.c 16]\/u= .b 107/\odd= .e [.c 4,.c 19]:=by
 refine IF λm a=>?_
 cases h with
 |s=>refine a ?_;exact .inl ⟨rfl,rfl⟩
 |k=>refine a ?_;exact .inr ⟨rfl,rfl⟩
 |_=>cases j
theorem Ek(I:Inv σ Γ n)(Z:n<=50000)(hd:d<2)(dP:bB l=true)(Q:l≠84)(hr:kL σ.R d l dk)(A:fC σ.R ((Γ.T d).map (CT.e l)) vs ws)
  (B:yQ σ δ fi num ip mx my bd args stk sort ex fs) (U:((Γ.T d).map (CT.e l))[p]?=some u) (ho:xa σ.R u odd word) (hw:word=5) (hs:δ[stk]?=some (.a (cU bj (.e [.c 4,.c ad]::vs.set p odd)))) (hj:bj.length<=3)
  (hk:∀E,Fz (ph stk) δ E->fK σ E b ad dk) {Ω:Prop} (ω:∀R' E,dM σ.R R' 8->Fz (ph stk) δ E->au Tb (K+15) 1192 [.d 148,.d (fi+182),jL dk d,.c (bj.length:Nat)] (HS σ δ)=some (.c (-2),HS ((σ.r R').W word 2 ip) E)->Ω):Ω:=by
 have z:((Γ.T d).map (CT.e l)).length=(Γ.T d).length:=ay ..
 have lp:p<(Γ.T d).length:=by have:=(ax.mp U).1;exact Qs z this
 have M:=A.m
 have F:=A.k
 have hf:=B.a
 have h5:=aea ho hw
 refine b6 (vs.set p odd) λwR X=>?_
 refine b6 (ws.set p odd) λy q=>?_
 have L:wR.length=vs.length:=by rw[X,fX]
 have N:y.length=ws.length:=by rw[q,fX]
 rw[<-X] at hs
 refine rY (K:=K) (vs:=wR) (ws:=y) I Z hd dP Q hr (ZR z M F L) (ZQ z M F L N) (λR' ks G C j hj=>by
  by_cases e:j=p
  ·cases e
   refine C.o U λk uZ x=>?_
   refine cf (cW.mp (aU U)) λu0 _ z0=>?_
   subst z0
   refine .mk _ k odd odd uZ (by rw[X,cM (ZP z M F L N hj)]) (by rw[q,cM (ZO z M F L N hj)]) (x.p Q) ?_
   rcases h5 with⟨h,rfl⟩|⟨h,rfl⟩
   ·exact h▸(.m 115 16 (.inl rfl))
   ·exact h▸(.m 107 19 (.inr (.inr rfl)))
  ·refine oZ Q A G C hj λt k v w S Y V q4 q5 J=>?_
   exact .mk t k v w S (by rw[X,cV (Qu e)];exact Y) (by rw[q,cV (Qu e)];exact V) q4 q5) hf hs hj λR1 mK o G1 F5 S Y V H=>?_
 have Wy:=iH G1.c hr
 have I1:=I.D G1
 refine Lu (K:=K) (σ:=σ.r R1) (δ:=mK) (vi:=o) (ws:=y) (p:=p) I1 (AV Z) hd dP Q Wy lp Y (λR' ks G C j hj=>by
   refine oZ Q (nR G1.c A) G C ((Z4 z lp M F L N hj):j<(Γ.T d).length) λt k v w S Y V q4 q5 q6=>?_
   exact .mk t k v w S (by rw[q,cV (sC hj)];exact V) q4 q5 q6) (λR' ks E G C Ω ω=>by
   refine C.o U λk uZ x=>?_
   have P:=I1.D G
   refine ω k odd uZ (by rw[q,cM (Z3 z lp M F L N)]) ?_
   rcases h5 with⟨rfl,rfl⟩|⟨rfl,rfl⟩
   ·have x:k=13:=x
    subst x
    exact tH (σ:=(σ.r R1).r R') (m:=18) P.j P.A ⋯ (by decide) (by decide) (K+8) (UQ _ _ _)
   ·have x:k=18:=x
    subst x
    exact tH (σ:=(σ.r R1).r R') (m:=13) P.j P.B ⋯ ((by decide)) ((by decide)) (K+8) (UR (by have:R'.length<=_:=P.r;exact Qt Z this) _ _)) (I1.O ((eK (aM Z _))) Wy (hk mK F5) K) λR2 Ds e G2 w6=>?_
 have Fe:=F5.k w6.f
 subst hw
 exact ω R2 Ds ((G1.f G2).e AU) Fe (H _ _ (HY (K:=K) (fo:= .d (fi+182)) hd e (B.j (R':=R2) Fe (by intro e;rw[e,hs] at hf;cases hf) 5 (K+11))))
theorem zt{Ω:Prop}{Q:Nat}(I:Inv σ Γ n)(C:n<=50000)(E:d<2)(dP:bB l=true)(L:l≠84)(z:kL σ.R d l dk)(A:fC σ.R ((Γ.T d).map (CT.e l)) vs ws)
  (B:yQ σ δ fi num ip mx my bd args stk sort ex fs) (X:δ[stk]?=some (.a (cU bj (.e [.c 4,.c ad]::vs)))) (hj:bj.length<=3)
  (hk:∀q,Fz (ph stk) δ q->fK σ q b ad Q) (r9:Q≠dk) (bG:∀R' q,(dM σ.R R' 8)->(Fz (ph stk) δ q)->(au Tb (K+15) 1192 [.d 148,.d (fi+182),jL dk d,.c (bj.length:Nat)] (HS σ δ)=some (.c (-2),HS ((σ.r R').W 5 2 ip) q))->Ω):Ω:=by
 have F:=B.a
 refine rY (K:=K) I C E dP L z (by rw[A.m,ay]) (by rw[A.k,ay]) (λR' ks G x j hj=>by
  refine oZ L A G x hj λt k v w O y P q4 q5 J=>?_
  exact .mk t k v w O y P q4 q5) F X hj λN Y o M U O y P H=>?_
 have Z:=iH M.c z
 have I1:=I.D M
 refine Gk (K:=K) (σ:=σ.r N) (δ:=Y) (vi:=o) (ws:=ws) I1 (AV C) E dP L Z y (λR' q G w=>by
  have I':=I1.D G
  refine fK.a (fK.d (σ':=(σ.r N).r R') (S:=λJ=>False) (hk Y U) (λJ J h=>h) w.f λJ h=>h.elim) λo' h1 x=>?_
  exact tH (σ:=(σ.r N).r R') I'.j h1 x r9 (by have:=z.b;exact GD this) (K+8) (ab8 (by have:R'.length<=_:=I'.r;exact Qt C this) (iH (G).c Z) rfl _ _)) λV Ds e G2 w6=>?_
 have Fe:=U.k w6.f
 exact bG V Ds ((M.f G2).e AU) Fe (H _ _ (HY (K:=K) (fo:= .d (fi+182)) E e (B.j (R':=V) Fe (by intro e;rw[e,X] at F;cases F) 5 (K+11))))
end
end
section
section
variable{K n c d l fi stk:Nat}{σ gK σ':St}{δ fM aX:List MO}{Γ:Cf}{u:CT}{R:List Row}
theorem Ji{c:Nat}(h:bB c=true)(a:c≠84):c=115\/c=107\/(c=108\/c=76)\/c=112\/(c∈RD\/c=111):=by
 rcases Cm h a with h|h|h|h|h|h|h
 ·exact .inr (.inr (.inr (.inr (.inl h))))
 ·exact .inr (.inr (.inl (.inl h)))
 ·exact .inr (.inr (.inl (.inr h)))
 ·exact .inl h
 ·exact .inr (.inr (.inr (.inr (.inr h))))
 ·exact .inr (.inl h)
 ·exact .inr (.inr (.inr (.inl h)))
theorem Kv{G:Prop}(I:Inv σ Γ n)(y:n<=80000)(w:bB u.f=true)(x:u.f≠84)(A:u≠ .q 117)(K:Nat)(δ:List MO)
  (k:∀R' odd g,au Tb (K+9) 1334 [.d 8,u.d] (HS σ δ)=some (.e [odd,.c g],HS (σ.r R') δ)->xa R' u odd g->(g=1\/g=5)->dM σ.R R' 1->G):G:=by
 refine Iy (u:= .q 117) (v:=0) (c:=117) I (AM y) (λJ=>nK σ.R 8 (by decide) (by decide) (by decide)) ⟨⋯,rfl⟩ λR' m o z t=>?_
 obtain⟨_,j,rfl,hj⟩:=z
 have o:=o K δ
 have i:=(dM.s I.a.r).e R5
 cases u with
 |b c=>
  rcases Ji w x with h|h|h|h|h
  ·have h:=h
   subst h;exact k σ.R _ 5 (nD ⋯) .s (.inr rfl) i
  ·have h:=h
   subst h;exact k σ.R _ 5 (nD ⋯) .k (.inr rfl) i
  ·refine k σ.R (.e [.c 1,.c 5]) 1 ?_ (.l c h) (.inl rfl) i
   have h:=h
   rcases h with rfl|rfl<;>exact nD ⋯
  ·have h:=h
   subst h
   refine k R' _ 1 ?_ (.p j) (.inl rfl) t
   exact bu [(11,ow o)] ⋯
  ·refine k σ.R (.e [.c 2,.c 5]) 1 ?_ (.n c h) (.inl rfl) i
   have h:=h
   rcases h with h|rfl
   ·refine Kn (P:=λc=>au Tb (K+9) 1334 [.d 8,(CT.b c).d] (HS σ δ)=some (.e [.e [.c 2,.c 5],.c 1],HS (σ.r σ.R) δ)) h ?_ ?_ ?_ ?_ ?_ ?_ ?_ ?_ ?_ ?_<;>exact nD ⋯
   ·exact nD ⋯
 |r c=>exact k σ.R _ 1 (nD ⋯) (.r c) (.inl rfl) i
 |q c=>
  refine k R' _ 1 ?_ (.q c j hj λe=>A (e▸rfl)) (.inl rfl) t
  exact bu [(13,ow o)] ⋯
structure Go (fi:Nat) (gK σ:St) (fM δ:List MO):Prop where
 p:∀k v,cR gK.B k=some v->cR σ.B k=some v
 r:∃x,σ.R=gK.R++x
 j:Fz (uM fi (fi+1)) fM δ
theorem Go.o(fi:Nat)(σ:St)(δ:List MO):Go fi σ σ δ δ:=⟨λJ J h=>h,⟨[],(d8 _).symm⟩,(Gw.p _).f⟩
theorem Go.f{S:Nat->Prop}(h:Go fi gK σ fM δ)(t:∀k v,cR σ.B k=some v->cR σ'.B k=some v)(b:∃x,σ'.R=σ.R++x)(z:Fz S δ aX)(g:∀i,S i->i=fi\/i=fi+1\/fM.length<=i):Go fi gK σ' fM aX:=by
 obtain⟨x,w⟩:=h.r
 obtain⟨y,A⟩:=b
 refine⟨λk v q=>t _ _ (h.p _ _ q),⟨x++y,by rw[A,w,cC]⟩,aD h.j.1 z.1,λi v n q=>z.2 i v (λs=>?_) (h.j.2 i v n q)⟩
 rcases g i s with e|e|e
 ·exact n (.inl e)
 ·exact n (.inr e)
 ·have:=cJ q;exact sD e this
theorem Go.m(h:Go fi gK σ fM δ)(u:Up σ σ'){S:Nat->Prop}(z:Fz S δ aX)(b:∀i,S i->i=fi\/i=fi+1\/fM.length<=i):Go fi gK σ' fM aX:=h.f u.y u.j z b
theorem Inv.V(I:Inv σ Γ n)(v:List MV):Inv (σ.V v) Γ n:=
 ⟨⟨I.a.r,I.a.A,I.a.x,I.a.y,I.a.j,I.a.m,I.a.g,I.a.h,I.a.e,I.a.f,I.a.v,I.a.p,I.a.w,I.a.z⟩,⟨I.j.d,I.j.f,I.j.e,I.j.a⟩,I.r,I.F,I.y,I.L,I.A,I.B,I.z,I.C⟩
theorem Jh{q:Prop}(W:WS σ Γ)(δ:List MO){y:Nat}(k:y<2)(m:∀l t,(ez (HS σ δ) (.d 9) (.c (y:Int))=some (.j [l] t))->(bB l=true)->(l≠84)->(l≠117)->(0<t)->(t<2455)->q):q:=by
 have g:(HS σ δ)[9]?=some (.a σ.af):=⋯
 refine Ua W.h λr s h a b c d=>?_
 have k:=m6 k
 rcases k with rfl|rfl
 ·exact m Γ.o r (gj (i:=0) g (by rw[h];rfl) Lw) ((nj W.e).1) ((nj W.e).2) (Ck W.e) a b
 ·exact m Γ.p s (gj (i:=1) g (by rw[h];rfl) GU) ((nj W.f).1) ((nj W.f).2) (Ck W.f) c d
end
end
section
section
variable{K n d fi stk i:Nat}{σ gK:St}{δ fM:List MO}{Γ:Cf}{num ip sort ex:Int}{aV bd args:MV}{L:List MV}
noncomputable abbrev rfA(fi d l t dk:Nat)(ad:Int)(rw bf jk:Nat):Loc:=[(103,.d 148),(250,.d 8),(110,.d (fi+182)),(263,.c (d:Int)),(272,.j [l] t),(62,.c (dk:Int)),(277,.c ad),(4,.d (rw+182)),(145,.c (bf:Int)),(278,.d (jk+182))]
noncomputable abbrev bRa:List MS:=[fF mF 0,fF mF 1,fF mF 2,fF mF 3,fF mF 4,fF mF 5]
theorem zR{μ:Hp}{p q:Nat}{l:List MV}(h:μ[p]?=some (.a l))(g:μ[q]?=some (.a l))(c:l.all (bh 8)=true):ct μ .b (.d p) (.d q)=some false:=by
 show(ct μ .a (.d p) (.d q)).map (!·)=_
 rw[qu h g c];rfl
theorem Cq(b:d<2):(∀μ,dE μ .c (.c 6) (.c (d:Int))=some (.c ((6*d:Nat):Int),μ))/\∀μ,dE μ .a (.c 1) (.c ((6*d:Nat):Int))=some (.c (b0 d 0:Nat),μ):=by
 refine⟨λμ=>?_,λμ=>?_⟩
 ·rw[nA (by decide),show(6:Int)*(d:Int)=((6*d:Nat):Int) from Qm]
 ·show some (MV.c ((1:Int)+((6*d:Nat):Int)),μ)=_
  rw[show(1:Int)+((6*d:Nat):Int)=((b0 d 0:Nat):Int) from Ql]
structure RfO (σ:St) (δ:List MO) (Γ:Cf) (n d fi:Nat) (num:Int) (aV bd args:MV) (sort ex:Int) (L:List MV) (l t dk:Nat) (ad:Int) (es:List (Int×En)) (gK:St) (fM:List MO) (σ':St) (aX:List MO):Prop where
 e:bB l=true
 a:l≠84
 g:l≠117
 p:0<t
 q:t<2455
 D:qk gK fM δ.length Γ d l dk ad es
 r:δ.length<=fM.length
 f:Go fi gK σ' fM aX
 j:Inv σ' Γ (n+60)
 F:FS σ' (ar [] (num,fi))
 h:σ'.u=[]
 m:σ'.O=0
 b:σ'.G=[]
 c:σ'.H=[.c 21]
 k:σ'.z=σ.z
 o:∃ip stk,aX[fi]?=some (gw fi num aV bd ip args stk sort ex)
 i:∃L',aX[fi+1]?=some (.a L')/\L'.length<=L.length+3
theorem Up.A{σ':St}(u:Up σ σ'):σ'.G=σ.G/\σ'.H=σ.H/\σ'.u=σ.u/\σ'.O=σ.O:=u.D.o
theorem acY{G:Prop}(I:Inv σ Γ n)(R:n<=15000)(Y:d<2)(P:σ.u=[])(F:FS σ (ar [] (num,fi)))(hf:δ[fi]?=some (gw fi num aV bd ip args stk sort ex))(hL:δ[fi+1]?=some (.a L))(uh:L.length<=700)(h0:σ.O=0)(h1:σ.H=[])(h2:σ.G=[])(K:Nat)
  (k:∀l t U ad rw jk es gK fM σ' aX,aY Tb (au Tb (K+16)) (K+16) bRa [(103,.d 148),(250,.d 8),(110,.d (fi+182)),(263,.c (d:Int))] (HS σ δ)=some (.a,rfA fi d l t U ad rw σ.z.length jk,HS σ' aX)->RfO σ δ Γ n d fi num aV bd args sort ex L l t U ad es gK fM σ' aX->G):G:=by
 refine jN I (eK R) δ (m:=2) xm λy t1 hy Z u1 I1=>?_
 have Z:=Z (K+15)
 refine b6 (σ.S t1) λdA i7=>?_
 rw[<-i7] at Z u1 I1
 refine Jh I1.a δ hy λl t ls dP cQ Ut UJ T=>?_
 refine v_ (K:=K+3) (δ:=δ) I1 (bN [_] (V0.A+1) 30000 (.o V0.A 15000 .z) rfl R) Y dP cQ (u1.r▸P) t λgK fM U ad es Rz c1 um Im wm D My hrl=>?_
 refine z9 (K:=K+5) Im (bN [_] (V0.A+1+36) 60000 (.o V0.A 15000 .z) rfl R) Y dP cQ ⟨UJ,T⟩ (wm.2 _ _ hf) (wm.2 _ _ hL) (Qh uh) 0 λx dq r_ gJ jk vl tm bj vs ws c2 S=>?_
 have U2:=(u1.f um).f S.b
 have Um:=u1.f um
 refine k9 U2.A λq1 q2 q3 q4=>?_
 have pm:=ml gK fM (by have:=Im.y;exact(bN [_,_] V0.B 100000 (.o V0.A 15000 (.o V0.B (V0.A+1+36) .z)) rfl R this))
 rw[Um.z.1] at pm
 refine zr (K:=K+1) S.a (bN [_] (V0.A+1+36+10) 50000 (.o V0.A 15000 .z) rfl R) Y dP cQ (iH S.b.j D.j) S.f S.c S.d S.i (q4▸h0) (q2▸h1) λR' N G3 z3 W=>?_
 refine b6 ((x.r R').V [.c 21]) λs w=>?_
 rw[<-w] at W
 refine ir (Cq Y) λm1 m2=>?_
 have xT:s.H=[.c 21]:=w▸rfl
 have ru:s.G=[]:=by rw[w];show x.G=[];rw[q1];exact h2
 have K6:s.O=0:=by rw[w];show x.O=0;rw[q4];exact h0
 have UH:s.z=σ.z:=w▸U2.z.1
 have F3:FS s (ar [] (num,fi)):=w▸((U2.B F).o rfl rfl)
 refine b6 (ar N (.a [.c 21])) λiw jj=>?_
 have x1:=zR (μ:=HS s iw) (p:=163) (q:=N.length+182) (l:=[.c 21]) (by rw[<-xT];kernel_rfl) (by rw[df,jj];exact h9 _ _ _ rfl) ⋯
 refine b6 (ar iw (.a [])) λQ iU=>?_
 have x2:=zR (μ:=HS s Q) (p:=162) (q:=iw.length+182) (l:=[]) (by rw[<-ru];kernel_rfl) (by rw[df,iU];exact h9 _ _ _ rfl) rfl
 have g5:=Uo s Q K6
 have p5:=ml s Q (by rw[UH];have:=I.y;exact(bN [_,_] V0.B 100000 (.o V0.A 15000 (.o V0.B V0.A .z)) rfl R this))
 rw[UH] at p5
 have f5:=o_ F3 Q
 have K7:=cJ hL
 have lm:=wm.1
 have b1:=S.j
 have J:=S.k
 have M:=z3.k (iU▸jj▸((Gw.d _ _).e (Gw.d _ _))).f
 have X:fi≠gJ/\fi+1≠gJ:=⟨λP=>bZ [_,_,_,_,_] (.o (V0.A+1+1) V0.B (.o V0.B V0.C (.o V0.C V0.D (.o (V0.D+1) V0.E (.f V0.E V0.A .z))))) rfl K7 lm b1 J P,λP=>bZ [_,_,_,_,_] (.o (V0.A+1+1) V0.B (.o V0.B V0.C (.o V0.C V0.D (.o (V0.D+1) V0.E (.f V0.E (V0.A+1) .z))))) rfl K7 lm b1 J P⟩
 have hgo:Go fi gK s fM Q:=by
  refine((Go.o fi gK fM).m S.b S.h λi h=>by rcases h with h|h;exact .inl h;exact .inr (.inl h)).f (S:=ph gJ) (λk v h=>w▸h) (w▸G3.c) M λi h=>?_
  exact(.inr (.inr (h▸aD b1 (jF J))))
 refine k l t U ad Rz jk es gK fM s Q ?_ ⟨dP,cQ,Ut,UJ,T,D,lm,hgo,w▸(((S.a.D G3).V _).q (bN [_] (V0.A+1+36+10+8) (V0.A+60) .z rfl)),F3,by rw[w];show x.u=[];rw[q3];exact P,K6,ru,xT,UH,⟨_,_,M.2 _ _ X.1 S.c⟩,?_⟩
 ·refine b6 (b0 d 0) λmd zG=>?_
  have W:au Tb (K+16) 1192 [.d 148,.d (fi+182),.e [.c (U:Int),.c (b0 d 0:Nat),.e []],.c (bj.length:Nat)] (HS x dq)=some (.c (-2),HS s N):=W
  rw[<-zG] at m2 W
  subst iU
  subst jj
  exact eD [(1,ow Z),(2,ov ls),(3,ow c1),(5,ov pm),(6,ow c2),(8,ow (m1 (HS x dq))),(9,ow (m2 (HS x dq))),(12,ov (hJ x S.g (by have:=S.i;exact jT this))),(13,ow W),(14,oq ((jZ (-2)) (HS s N))),(18,oq x1),(22,oq x2),(24,ov g5),(25,oq ((jZ 0) (HS s (ar (ar N (MO.a [MV.c 21])) (MO.a []))))),(28,ov p5),(29,oq ((jZ ((σ.z.length:Nat):Int)) (HS s (ar (ar N (MO.a [MV.c 21])) (MO.a []))))),(32,ov f5),(33,oq ((jZ 1) (HS s (ar (ar N (MO.a [MV.c 21])) (MO.a [])))))] ⋯
 ·refine cf S.l λL' h3 h4=>?_
  exact⟨L',M.2 _ _ X.2 h3,h4⟩
end
end
section
section
variable{K n d l t dk fi stk i b rw jk vl tm bf pl:Nat}{σ gK σ':St}{δ fM aX:List MO}{Γ:Cf}{num ip sort ex ad word:Int}{mx my bd args odd:MV}{L bj:List MV}{es:List (Int×En)}{ρ:Loc}{R':List Row}
theorem Go.a(D:qk gK fM b Γ d l dk ad es)(g:Go fi gK σ fM δ)(hb:fi+1<b):qk σ δ b Γ d l dk ad es:=
 D.w g.p g.r g.j (ri.a λi c=>fJ c (λq=>Hj hb q) λq=>Hk hb q)
theorem qk.y(D:qk σ δ b Γ d l dk ad es):fK σ δ b ad dk:=by
 rcases D.o with⟨p,c,e⟩|⟨_,s0,s1,f,jk,h,_⟩
 ·exact e▸((D.a p (c▸(bK.mpr rfl))).1.a)
 ·exact h.a
noncomputable abbrev NQ(fi d l t dk:Nat)(ad:Int)(rw bf jk vl tm pl:Nat)(odd:MV)(word:Int):Loc:=[(103,.d 148),(250,.d 8),(110,.d (fi+182)),(263,.c (d:Int)),(272,.j [l] t),(62,.c (dk:Int)),(277,.c ad),(4,.d (rw+182)),(145,.c (bf:Int)),(278,.d (jk+182)),(220,.d (vl+182)),(279,.d (tm+182)),(54,.c (pl:Int)),(295,odd),(296,.c word)]
noncomputable abbrev NR(fi d l t dk:Nat)(ad:Int)(rw bf jk vl tm pl:Nat)(word:Int):Loc:=[(103,.d 148),(250,.d 8),(110,.d (fi+182)),(263,.c (d:Int)),(272,.j [l] t),(62,.c (dk:Int)),(277,.c ad),(4,.d (rw+182)),(145,.c (bf:Int)),(278,.d (jk+182)),(220,.d (vl+182)),(279,.d (tm+182)),(54,.c (pl:Int)),(296,.c word)]
noncomputable abbrev bRc:List MS:=[fF mF 9,fF mF 10]
theorem Ry{y:Prop}(P:d<2)(I:ρ=NQ fi d l t dk ad rw bf jk vl tm pl odd word\/ρ=NR fi d l t dk ad rw bf jk vl tm pl word)
  (H:au Tb K 1192 [.d 148,.d (fi+182),jL dk d,.c (bj.length:Nat)] (HS σ δ)=some (.c (-2),HS σ' aX)) (hj:δ[jk]?=some (.a bj)) (T:bj.length<=3)
  (F:FS σ' (ar [] (num,fi))) (M:σ'.H=[.c 21]) (J:σ'.G=[.e [.c word,.c 2,.c ip]]) (E:σ'.O=3) (k:σ'.z.length=bf) (m:bf<=90000) (R:aX[fi]?=some (gw fi num (.e [mx,.c 2,my]) bd ip args stk sort ex)) (Q:Nat) (D:∀S,(aY Tb (au Tb K) Q bRc ρ (HS σ δ)=some (.b (.h true),ρ,S))->y):y:=by
 refine ir (Cq P) λu g=>?_
 have r:=hJ σ hj (jT T)
 have nn:=jZ (-2)
 refine b6 (ar aX (.a [.c 21])) λj o=>?_
 have x1:=zR (μ:=HS σ' j) (p:=163) (q:=aX.length+182) (l:=[.c 21]) (by rw[<-M];kernel_rfl) (by rw[df,o];exact h9 _ _ _ rfl) ⋯
 refine b6 (ar j (.a [.e [.c word,.c 2,.c ip]])) λf v=>?_
 have x2:=qu (μ:=HS σ' f) (p:=162) (q:=j.length+182) (l:=[.e [.c word,.c 2,.c ip]]) (by rw[<-J];kernel_rfl) (by rw[df,v];exact h9 _ _ _ rfl) ⋯
 have w:=o▸(fU _ R)
 have C:iu Tb (HS σ' f) (.d 148) 104=some (.c 3):=by rw[<-E];kernel_rfl
 have p2:=ml σ' f (k▸(Z7 k m))
 rw[k] at p2
 have s:=uV ((bf:Nat):Int)
 have x:=o_ F f
 have A:=uV 3
 have B:=uV 1
 refine b6 (b0 d 0) λU N=>?_
 have H:au Tb K 1192 [.d 148,.d (fi+182),.e [.c (dk:Int),.c (b0 d 0:Nat),.e []],.c (bj.length:Nat)] (HS σ δ)=some (.c (-2),HS σ' aX):=H
 rw[<-N] at g H
 refine D (HS σ' f) ?_
 subst v
 subst o
 rcases I with rfl|rfl
 ·exact eD [(0,ow (u (HS σ δ))),(1,ow (g (HS σ δ))),(4,ov r),(5,ow H),(6,oq (nn (HS σ' aX))),(10,oq x1),(13,ov (ed σ' w 127 (MV.c ip) ⋯)),(16,oq x2),(18,ov C),(19,oq (A (HS σ' (ar (ar aX (MO.a [MV.c 21])) (MO.a [MV.e [MV.c word,MV.c 2,MV.c ip]]))))),(22,ov p2),(23,oq (s (HS σ' (ar (ar aX (MO.a [MV.c 21])) (MO.a [MV.e [MV.c word,MV.c 2,MV.c ip]]))))),(26,ov x),(27,oq (B (HS σ' (ar (ar aX (MO.a [MV.c 21])) (MO.a [MV.e [MV.c word,MV.c 2,MV.c ip]])))))] ⋯
 ·exact eD [(0,ow (u (HS σ δ))),(1,ow (g (HS σ δ))),(4,ov r),(5,ow H),(6,oq (nn (HS σ' aX))),(10,oq x1),(13,ov (ed σ' w 127 (MV.c ip) ⋯)),(16,oq x2),(18,ov C),(19,oq (A (HS σ' (ar (ar aX (MO.a [MV.c 21])) (MO.a [MV.e [MV.c word,MV.c 2,MV.c ip]]))))),(22,ov p2),(23,oq (s (HS σ' (ar (ar aX (MO.a [MV.c 21])) (MO.a [MV.e [MV.c word,MV.c 2,MV.c ip]]))))),(26,ov x),(27,oq (B (HS σ' (ar (ar aX (MO.a [MV.c 21])) (MO.a [MV.e [MV.c word,MV.c 2,MV.c ip]])))))] ⋯
end
end
section
section
variable{K n d l t dk fi stk i b rw jk vl tm bf pl:Nat}{oK σ gK σ':St}{jE δ fM aX:List MO}{Γ:Cf}{num ip sort ex ad word:Int}{mx my bd args odd v w:MV}{L bj vs:List MV}{es:List (Int×En)}{ρ:Loc}{R':List Row}
noncomputable abbrev bRb:List MS:=[fF mF 6,fF mF 7,fF mF 8]
theorem Kl:∀(x:List MV),(cU x (v::vs)).set x.length w=cU x (w::vs)
 |[]=>rfl
 |a::x=>by show a::(cU x (v::vs)).set x.length w=a::cU x (w::vs);rw[Kl x]
theorem NZ{z:Nat}(x:List MV):(cU x (v::vs)).set (x.length+1+z) w=cU x (v::vs.set z w):=by
 unfold cU
 rw[oN _ _ J',show x.length+1+z - x.length=z+1 from C'];rfl
theorem Oc{u:CT}(h:u≠ .q 117)(a:l≠117):u.e l≠ .q 117:=by
 cases u with
 |b c=>intro e;cases e
 |r c=>intro e;cases e
 |q c=>
  intro e
  have e:(if aR c 84 then l else c)=117:=by injection e
  split at e
  ·exact a e
  ·exact h (e▸rfl)
theorem Vk{R:List Row}{f:Nat}(j:d<2)(h:kL R d l dk)(g:kL R (1 - d) l f):f≠dk:=by
 rintro rfl
 have:=h.a.symm.trans g.a
 have e:MV.c ((64+d:Nat):Int)= .c ((64+(1 - d):Nat):Int):=by
  have:=ba this
  injection this with this
  injection this with _ this
  injection this
 injection e with e
 exact Z_ j e
theorem Vh{L':List MV}{J M:St}{I:List MO}{ws:List MV}{z:Nat}(hn:n<=14000)(hd:d<2)(hfi:fi+1<δ.length)(D:qk gK fM b Γ d l dk ad es)(hb:fi+1<b)(dP:bB l=true)(cQ:l≠84)(Ut:l≠117)
  (c:au Tb (K+16) 1315 [.d 148,.d 8,.d (fi+182),.c (d:Int),.j [l] t,.c ad] (HS σ δ)=some (.e [.d (jk+182),.d (vl+182),.d (tm+182)],HS J I)) (go:Go fi gK J fM I)
  (S:RV σ δ Γ (n+60) fi num (.e [mx,.c 2,my]) bd args sort ex ad L' ((Γ.T d).map (CT.e l)) jk vl tm stk ip bj vs ws J I) (lm:fM.length<=δ.length)
  (hz:z<(Γ.T d).length) (dz:au Tb (K+16) 1270 [.d 8,.c (((Γ.T d).length+1:Nat):Int)] (HS J I)=some (.c (z:Int),HS M I)) (u2:Up J M) (I2:Inv M Γ (n+71))
  (F:FS σ (ar [] (num,fi))) (K6:σ.O=0) (ru:σ.G=[]) (xT:σ.H=[.c 21]) (hbf:σ.z.length=bf) (hbl:bf<=90000) {jk0:Nat} {Q:Prop} (ω:∀ρ' aG,aY Tb (au Tb (K+16)) (K+16) (bRb++bRc) (rfA fi d l t dk ad rw bf jk0) (HS σ δ)=some (.b (.h true),ρ',aG)->Q):Q:=by
 have b1:=S.j
 have b2:=S.p
 have b3:=S.q
 have c1:=S.k
 have c3:=S.r
 have jl:=S.i
 have N:((Γ.T d).map (CT.e l)).length=(Γ.T d).length:=ay ..
 have l3:=I2.a.a d
 have lv:=S.f.m
 have lst:=cJ S.d
 obtain⟨P,hu0⟩:∃u,(Γ.T d)[z]?=some u:=⟨_,aN hz⟩
 have hu:((Γ.T d).map (CT.e l))[z]?=some (P.e l):=aL▸hu0▸rfl
 refine ir (I2.a.w d P (aU hu0)) λtk1 tk2=>?_
 refine ir (Aj tk1 dP cQ) λso1 Z=>?_
 refine Kv (u:=P.e l) I2 (bN [_] (V0.A+71) 80000 (.o V0.A 14000 .z) rfl hn) so1 Z (Oc tk2 Ut) (K+7) I λR1 odd word cu ho hw G1=>?_
 have cu:=cu
 refine b6 (M.r R1) λs k_=>?_
 rw[<-k_] at cu
 have I3:=k_▸(I2.D G1)
 have u3:=k_▸(Up.R G1.c)
 have U:=(S.b.f u2).f u3
 refine k9 U.A λqt qr qh qs=>?_
 refine b6 (I.set stk (.a (cU bj (.e [.c 4,.c ad]::vs.set z odd)))) λdq eN=>?_
 have sk:=A_ s S.d (k:=bj.length+1+z) (by unfold cU;simp;exact(gy [_,_,_,_,_] (V0.E+1+V0.A) (V0.E+(V0.D+1)) (.o (V0.A+1) V0.B (.f V0.B V0.C (.f V0.C V0.D .z))) rfl hz N lv)) (by unfold cU;simp;exact Z9 hz jl N l3 lv) odd
 rw[NZ,<-eN] at sk
 have z2:=eN▸(Fz.w _ _ _)
 have Rj:dq[stk]?=some (.a (cU bj (.e [.c 4,.c ad]::vs.set z odd))):=by rw[eN];exact mX _ S.d
 have f2:=z2.2 _ _ (show ¬ph stk fi from λe=>by have e:fi=stk:=e;exact AX hfi b1 c1 e) S.c
 have j2:=z2.2 _ _ (show ¬ph stk jk from λe=>by have e:jk=stk:=e;exact xn c1 e) S.g
 have V:=go.m (u2.f u3) z2 (λi h=>by have h:i=stk:=h;exact Qx lm b1 c1 h)
 have Y:=(Go.a D V hb).j
 have A3:=nR (u2.f u3).j S.f
 have ho3:xa s.R (P.e l) odd word:=k_▸ho
 have B:yQ s dq fi num ip mx my bd args stk sort ex []:=⟨U.B F,qs▸K6,qt▸ru,f2⟩
 have X:∀{Q:Prop},(∀R' aX,dM s.R R' 8->Fz (ph stk) dq aX->au Tb (K+16) 1192 [.d 148,.d (fi+182),jL dk d,.c (bj.length:Nat)] (HS s dq)=some (.c (-2),HS ((s.r R').W word 2 ip) aX)->Q)->Q:=by
  intro Q ω
  rcases hw with h|h
  ·exact zq (K:=K+1) I3 (Qw hn) hd dP cQ Y A3 B hu Z ho3 h Rj jl ω
  ·exact Ek (K:=K+1) I3 (Qw hn) hd dP cQ Y A3 B hu ho3 h Rj jl (λaX z'=>(Go.a D (V.m (Up.q _) z' (λi h=>by have h:i=stk:=h;exact Qx lm b1 c1 h)) hb).y) ω
 refine X λR' h_ G3 z3 e3=>?_
 have pp:=U.z.1▸hbf
 refine Ry (K:=K+16) (ρ:=NQ fi d l t dk ad rw bf jk vl tm z odd word) (pl:=z) (σ':=(s.r R').W word 2 ip) (num:=num) (ip:=ip) (mx:=mx) (my:=my) (bd:=bd) (args:=args) (stk:=stk) (sort:=sort) (ex:=ex) hd (.inl rfl) e3 j2 jl (B.F.o rfl rfl) (qr▸xT) rfl rfl pp hbl (z3.2 _ _ (λe=>by have e:fi=stk:=e;exact AX hfi b1 c1 e) f2) (K+16) λaG ec=>?_
 refine ω (NQ fi d l t dk ad rw bf jk vl tm z odd word) aG ?_
 refine(cz (bt:=NQ fi d l t dk ad rw bf jk vl tm z odd word) (bC:=HS s dq) ?_).trans ec
 ·have lg:=hJ J S.e (by rw[ay];exact AW N l3 lv)
  rw[ay,N] at lg
  have UY:=hJ M S.e (by rw[ay];exact AW N l3 lv)
  rw[ay,N] at UY
  have sg:=jV M S.e (k:=z) (v:=(P.e l).d) (aL▸hu▸rfl) (Z8 hz N l3 lv)
  refine b6 ((P.e l).d) λue hue=>?_
  rw[<-hue] at cu sg
  exact eD [(0,ow c),(1,ov lg),(2,ow ((λμ=>rfl:∀μ,dE μ .a (.c ((Γ.T d).length:Nat)) (.c 1)=some (.c (((Γ.T d).length+1:Nat):Int),μ)) (HS J I))),(3,ow dz),(4,ov UY),(5,oq ((qI (x:=z) (y:=(Γ.T d).length) (decide_eq_true hz)) (HS M I))),(7,ov sg),(8,ow cu),(9,ov (ed s S.c 126 (MV.d (stk+182)) ⋯)),(10,ov (hJ s S.g (jT jl))),(11,ow ((λμ=>rfl:∀μ,dE μ .a (.c (bj.length:Nat)) (.c 1)=some (.c ((bj.length+1:Nat):Int),μ)) (HS s I))),(12,ow ((λμ=>rfl:∀μ,dE μ .a (.c ((bj.length+1:Nat):Int)) (.c (z:Int))=some (.c ((bj.length+1+z:Nat):Int),μ)) (HS s I))),(13,oh sk)] ⋯
end
end
section
section
variable{K n d l t dk fi stk i b rw jk vl tm bf pl:Nat}{oK σ gK σ':St}{jE δ fM aX:List MO}{Γ:Cf}{num ip sort ex ad word:Int}{mx my bd args odd v w:MV}{L bj vs:List MV}{es:List (Int×En)}{ρ:Loc}{R':List Row}
theorem Vi{L':List MV}{s E:St}{p:List MO}{ws:List MV}(hn:n<=14000)(N:d<2)(M:fi+1<δ.length)(dP:bB l=true)(cQ:l≠84)(hr:kL σ.R d l dk)
  (c:au Tb (K+16) 1315 [.d 148,.d 8,.d (fi+182),.c (d:Int),.j [l] t,.c ad] (HS σ δ)=some (.e [.d (jk+182),.d (vl+182),.d (tm+182)],HS s p))
  (S:RV σ δ Γ (n+60) fi num (.e [mx,.c 2,my]) bd args sort ex ad L' ((Γ.T d).map (CT.e l)) jk vl tm stk ip bj vs ws s p)
  (dz:au Tb (K+16) 1270 [.d 8,.c (((Γ.T d).length+1:Nat):Int)] (HS s p)=some (.c ((Γ.T d).length:Nat),HS E p)) (u2:Up s E) (I2:Inv E Γ (n+71))
  (F:FS σ (ar [] (num,fi))) (hh:σ.u=[]) (K6:σ.O=0) (ru:σ.G=[]) (xT:σ.H=[.c 21]) (hbf:σ.z.length=bf) (X:bf<=90000) {jk0:Nat} {Ω:Prop} (ω:∀ρ' aG,aY Tb (au Tb (K+16)) (K+16) (bRb++bRc) (rfA fi d l t dk ad rw bf jk0) (HS σ δ)=some (.b (.h true),ρ',aG)->Ω):Ω:=by
 have b1:=S.j
 have Z:=S.k
 have Q:=S.i
 have P:((Γ.T d).map (CT.e l)).length=(Γ.T d).length:=ay ..
 have l3:=I2.a.a d
 have lv:=S.f.m
 have U2:=S.b.f u2
 refine v_ (K:=K+3) (δ:=p) I2 (bN [_] (V0.A+71) 30000 (.o V0.A 14000 .z) rfl hn) ((Z6 N):1 - d<2) dP cQ (U2.A.2.2.1▸hh) t λq dq Wb WZ K3 rw' c3 u3 I3 w3 D My hrl=>?_
 have U:=U2.f u3
 refine k9 U.A λqt qr qh qs=>?_
 have FP:=w3.2 _ _ S.d
 refine b6 (dq.set stk (.a (cU bj (.e [.c 4,.c WZ]::vs)))) λh_ Y=>?_
 have sk:=A_ q FP (k:=bj.length) (by unfold cU;simp) (by unfold cU;simp;exact(bN [_,_,_,_] (V0.A+(V0.D+1)) 1000 (.o V0.A 3 (.e V0.B V0.C (.o V0.C 3 (.e V0.D V0.B .z)))) rfl Q P l3 lv)) (.e [.c 4,.c WZ])
 rw[Kl,<-Y] at sk
 have V:=Y▸(Fz.w _ _ _)
 have f3:=V.2 _ _ (show ¬ph stk fi from λe=>by have e:fi=stk:=e;exact AX M b1 Z e) (w3.2 _ _ S.c)
 have j3:=V.2 _ _ (show ¬ph stk jk from λe=>by have e:jk=stk:=e;exact xn Z e) (w3.2 _ _ S.g)
 have I:=iH U.j hr
 have B:yQ q h_ fi num ip mx my bd args stk sort ex []:=⟨U.B F,qs▸K6,qt▸ru,f3⟩
 refine zt (K:=K+1) I3 (bN [_] (V0.A+71+36) 50000 (.o V0.A 14000 .z) rfl hn) N dP cQ I (nR (u2.f u3).j S.f) B (Y▸(mX _ FP)) Q (λaX z'=>D.y.d (S:=ph stk) (λJ J h=>h) (V.k z') (ri.a λi h=>by have h:i=stk:=h;exact(gy [_,_,_] V0.C V0.B (.o (V0.A+1) V0.B (.e V0.C V0.A .z)) rfl (cJ S.d) h))) (Vk N I D.j) λR' iw G4 z4 e4=>?_
 have pp:=U.z.1▸hbf
 refine Ry (K:=K+16) (ρ:=NR fi d l t dk ad rw bf jk vl tm (Γ.T d).length 5) (odd:= .f) (pl:=(Γ.T d).length) (σ':=(q.r R').W 5 2 ip) (num:=num) (ip:=ip) (mx:=mx) (my:=my) (bd:=bd) (args:=args) (stk:=stk) (sort:=sort) (ex:=ex) N (.inr rfl) e4 j3 Q (B.F.o rfl rfl) (qr▸xT) rfl rfl pp X (z4.2 _ _ (λe=>by have e:fi=stk:=e;exact AX M b1 Z e) f3) (K+16) λaG ec=>?_
 refine ω (NR fi d l t dk ad rw bf jk vl tm (Γ.T d).length 5) aG ?_
 refine(cz (bt:=NR fi d l t dk ad rw bf jk vl tm (Γ.T d).length 5) (x:=bRb) (bC:=HS q h_) ?_).trans ec
 have lg:=hJ s S.e (by rw[ay];exact AW P l3 lv)
 rw[ay,P] at lg
 have UY:=hJ E S.e (by rw[ay];exact AW P l3 lv)
 rw[ay,P] at UY
 refine b6 ((Γ.T d).length) λm hm=>?_
 rw[<-hm] at lg UY dz
 refine hm▸?_
 have q2:∀μ,dE μ .e (.c 1) (.c (d:Int))=some (.c ((1 - d:Nat):Int),μ):=λμ=>by
  show some (MV.c ((1:Int) - (d:Int)),μ)=_
  rw[show(1:Int) - (d:Int)=((1 - d:Nat):Int) from(P9 N)]
 exact eD [(0,ow c),(1,ov lg),(2,ow ((λμ=>rfl:∀μ,dE μ .a (.c (m:Nat)) (.c 1)=some (.c ((m+1:Nat):Int),μ)) (HS s p))),(3,ow dz),(4,ov UY),(5,oq ((qI (x:=m) (y:=m) (decide_eq_false λhh=>bZ [_] (.o (V0.A+1) V0.A .z) rfl hh)) (HS E p))),(7,ow (q2 (HS E p))),(8,ow c3),(11,ov (ed q (w3.2 _ _ S.c) 126 (MV.d (stk+182)) ⋯)),(12,ov (hJ q (w3.2 _ _ S.g) (jT Q))),(13,oh sk)] ⋯
theorem zU{x:Prop}(I:Inv σ Γ n)(s:n<=13000)(M:d<2)(hh:σ.u=[])(F:FS σ (ar [] (num,fi)))(hf:δ[fi]?=some (gw fi num (.e [mx,.c 2,my]) bd ip args stk sort ex))(hL:δ[fi+1]?=some (.a L))(U:L.length<=600)(h0:σ.O=0)(h1:σ.H=[])(h2:σ.G=[])(K:Nat)(bG:∀C,(au Tb (K+17) 1341 [.d 148,.d 8,.d (fi+182),.c (d:Int)] (HS σ δ)=some (.h true,C))->x):x:=by
 refine acY I (eK s) M hh F hf hL (eK U) h0 h1 h2 K λl t dk ad rw jk es gK fM dA dN x1 O=>?_
 refine Ei O.o λip1 aey R=>?_
 refine cf O.i λL1 Q Mk=>?_
 have N:=cJ hL
 refine z9 (K:=K+5) O.j (bN [_] (V0.A+60) 60000 (.o V0.A 13000 .z) rfl s) M O.e O.a ⟨O.p,O.q⟩ R Q (bN [_,_] V0.B 800 (.o V0.A 600 (.o V0.B (V0.A+3) .z)) rfl U Mk) ad λdR dq r_ gJ jk' vl tm bj vs ws c S=>?_
 have c:=c
 refine jN S.a (bN [_] (V0.A+60+10) 90000 (.o V0.A 13000 .z) rfl s) dq (m:=(Γ.T d).length+1) Qq λz t2 hz E Y I2=>?_
 have E:=E (K+15)
 have Z:=I.y
 have V:=O.r
 have P:=O.f.j.1
 have J:dA.z.length=σ.z.length:=O.k▸rfl
 have X:∀{x:Prop},(∀ρ' C,aY Tb (au Tb (K+16)) (K+16) (bRb++bRc) (rfA fi d l t dk ad rw σ.z.length jk) (HS dA dN)=some (.b (.h true),ρ',C)->x)->x:=by
  intro x W
  by_cases h:z<(Γ.T d).length
  ·exact Vh (n:=n) (QA s) M (GW N V P) O.D N O.e O.a O.g c (O.f.m S.b S.h λi h=>by rcases h with h|h;exact .inl h;exact .inr (.inl h)) S P h E Y (I2.q Qz) O.F O.m O.b O.c J (Qy s Z J) W
  ·have e:=K' hz h
   subst e
   exact Vi (n:=n) (QA s) M (GW N V P) O.e O.a (Go.a O.D O.f N).j c S E Y (I2.q Qz) O.F O.h O.m O.b O.c J (Qy s Z J) W
 refine X λρ' C x2=>?_
 refine bG C (pB (F:=mF) ⋯ rfl (ρ:=ρ') ?_)
 show aY Tb (au Tb (K+16)) (K+16) (bRa++(bRb++bRc)) _ _=_
 exact(cz x1).trans x2
end
end
section
noncomputable abbrev bdO:MO:= .d 959 [(258,.e []),(383,.c 8),(130,.d 5),(243,.d 6)]
noncomputable abbrev tO:MV:= .e [.c 0,.c 0]
noncomputable abbrev w4(at_:Int):List (MV×MV):=[((.g [110,117,109,115]),.d 1),((.g [97,116]),.c at_),((.g [112,97,114,97,109,115]),.d 2),((.g [114,101,116,115]),.d 3),((.g [98,111,100,121]),.d 7),((.g [108,101,116,116,101,114,115]),.d 9)]
noncomputable abbrev wK(at_:Int):List (MV×MV):=[((.g [110,117,109,115]),.d 1),((.g [97,116]),.c at_),((.g [112,97,114,97,109,115]),.d 2),((.g [114,101,116,115]),.d 3),((.g [98,111,100,121]),.d 7),((.g [108,101,116,116,101,114,115]),.d 9),((.g [107,116]),.d 11),((.g [107,105,110,100,115]),.d 79)]
noncomputable abbrev K8(n0 nu lets:List MV)(at_:Int):Hp:=[.a n0,.a nu,.a [],.a [],.a [tO],.a [tO,tO,tO,tO,tO,tO,tO,tO,tO],.a [],bdO,.b (w4 at_),.a lets]
noncomputable def aS(n0 nu lets:List MV)(at_:Int)(ps rs:List MV):jJ:=⟨.a n0,.a nu,.a ps,.a rs,.a [tO],.a [tO,tO,tO,tO,tO,tO,tO,tO,tO],.a [],bdO,.b (wK at_),.a lets,.d 980 [(14,.d 11),(155,.d 23),(385,.d 18),(157,.d 19),(386,.d 20),(387,.d 21),(388,.c 0)]⟩
noncomputable def ON(a:jJ)(z:List MO):Hp:=KG a (bR.take 19) (bI.take 19) (lZ.take 19) (lZ.take 19) (ua.take 19) z
noncomputable abbrev bS0:List MS:=[fF fp 0,fF fp 1,fF fp 2,fF fp 3,fF fp 4,fF fp 5,fF fp 6,fF fp 7,fF fp 8]
noncomputable abbrev ρS:Loc:=[(250,.d 8),(153,.d 10),(33,.c 68),(156,.g [83]),(5,.c 2),(14,.d 11)]
noncomputable def z0:List MO:=match aY Tb (au Tb 12) 12 bS0 [(250,.d 8)] (K8 [] [] [] 2) with
 |some (_,_,μ)=>μ.drop 17
 |none=>[]
section
variable{K:Nat}{n0 nu lets:List MV}{at_:Int}
theorem acV:aY Tb (au Tb (K+12)) (K+12) bS0 [(250,.d 8)] (K8 n0 nu lets at_)=some (.a,ρS,ON (aS n0 nu lets at_ [] []) z0):=by
 kernel_rfl
theorem EX(a:jJ)(z:List MO)(K:Nat):au Tb (K+7) 83 [.d 11,.e [.c 6,.c 0]] (ON a z)=some (.c 19,KH a [] z):=nD ⋯
theorem JT{R:List Row}(W:KW R)(a:jJ)(z:List MO)(K:Nat):au Tb (K+7) 83 [.d 11,.e [.c 6,.c 0]] (KH a R z)=some (.c 19,KH a R z):=by
 have k:eL (fA R) (.e [.c 6,.c 0])=true:=ni W .v
 have f:dj (au Tb (K+6)) (KH a R z) (.d 13) [.e [.c 6,.c 0],.c (-1)] .b=some (.c 19,KH a R z):=by
  rw[vU (d:=fA R) rfl k];rfl
 exact gN [(2,.a (.c 19) (KH a R z))] f ⋯
theorem UU:KW []:=⟨lA,(λJ h=>by cases h),λJ J J h=>by cases h⟩
end
end
section
noncomputable def oI:List CT:=[.b 89,.b 84,.b 112,.r 84,.q 84,.b 121,.b 111,.b 72,.b 110,.b 115,.b 104,.b 101,.b 105,.b 99,.b 76,.b 107,.b 98,.b 117,.r 105,.q 104]
noncomputable def zX:List CT:=[.b 89,.b 118,.b 84,.b 104,.q 84,.b 115,.b 110,.b 112,.b 118,.b 99,.b 101,.b 108,.b 105,.b 111,.b 121,.b 117]
noncomputable abbrev RG:MV:= .e [.g [89],.g [84],.g [112],.g [114,84],.g [113,84],.g [121],.g [111],.g [72],.g [110],.g [115],.g [104],.g [101],.g [105],.g [99],.g [76],.g [107],.g [98],.g [117],.g [114,105],.g [113,104]]
noncomputable def ctT:CT->Nat
 | .b _=>0
 | .r _=>1
 | .q _=>2
theorem tP:∀u∈oI,bB u.f=true/\u≠ .q 117:=λJ a=>
 (Gm (P:=λu=>bB u.f=true/\ ¬(ctT u=2/\u.f=117)) ⋯ a).imp id λk e=>k (e▸⟨rfl,rfl⟩)
theorem sh:∀u∈zX,u= .b 118\/bB u.f=true:=λu a=>
 (Gm (P:=λu=>(ctT u=0/\u.f=118)\/bB u.f=true) ⋯ a).imp (λk=>by
  cases u with
  |b c=>exact congrArg _ k.2
  |r c=>exact nomatch k.1
  |q c=>exact nomatch k.1) id
section
variable{K i c m:Nat}{n0 nu lets ps rs ro de we op:List MV}{ix:List (MV×MV)}{z:List MO}{ρ:Loc}
noncomputable abbrev SH(n0 nu lets ps rs ro:List MV)(ix:List (MV×MV))(de we op:List MV)(z:List MO)(i:Nat):Hp:=KG (aS n0 nu lets (i:Int) ps rs) ro ix de we op z
theorem zZ(H:Nums nu)(b:i<=90000)(hm:0<m){a:Prop}(g:∀(y:Nat),y<m->(∀K,au Tb (K+1) 1270 [.d 8,.c (m:Int)] (SH n0 nu lets ps rs ro ix de we op z i)=some (.c (y:Int),SH n0 nu lets ps rs ro ix de we op z (i+1)))->a):a:=by
 refine rX (μ:=SH n0 nu lets ps rs ro ix de we op z i) (d:=wK (i:Int)) (i:=i) (n:=m) rfl rfl H ⟨rfl,rfl,rfl,by simp[wK]⟩ (Gz b) hm λx f e=>?_
 exact g x f e
theorem Kt(μ:Hp)(l:List CT){y:Nat}{u:CT}(a:l[y]?=some u)(h:y<=1000):ez μ (.e (l.map CT.d)) (.c (y:Int))=some u.d:=rm μ (aL▸a▸rfl) h
theorem Eg(H:Nums nu)(D:i<=80000)(F:c<=1000)(I:bx ρ 250=some (.d 8)){a:Prop}(b:∀(ts:List CT),ts.length=c->(∀u∈ts,u∈oI)->yc (λj μ=>aO Tb (au Tb (K+1)) (.h (.g RG) (.j 1270 [.d 250,.g (.c 20)])) ((266,j)::ρ) μ) (yM (c:Nat)) (SH n0 nu lets ps rs ro ix de we op z i)=some (ts.map CT.d,SH n0 nu lets ps rs ro ix de we op z (i+c))->a):a:=by
 refine tu (f:=λj μ=>aO Tb (au Tb (K+1)) (.h (.g RG) (.j 1270 [.d 250,.g (.c 20)])) ((266,j)::ρ) μ) (all:=yM (c:Nat))
  (λk μ q=>∃ts:List CT,ts.length=k/\(∀u∈ts,u∈oI)/\q=ts.map CT.d/\μ=SH n0 nu lets ps rs ro ix de we op z (i+k))
  (λk v μ q a x p b=>by
   refine vL p λts p1 p2 z0 t=>?_
   subst z0
   subst t
   refine ir (pX x) λN M=>?_
   subst M
   refine zZ (n0:=n0) (nu:=nu) (lets:=lets) (ps:=ps) (rs:=rs) (ro:=ro) (ix:=ix) (de:=de) (we:=we) (op:=op) (z:=z) (i:=i+k) (m:=20) H (bN [_,_,_] (V0.A+V0.C) 90000 (.o V0.A 80000 (.o V0.B 1000 (.o (V0.C+1) V0.B .z))) rfl D F N) (by decide) λy n G=>?_
   obtain⟨u,l⟩:∃u,oI[y]?=some u:=⟨_,aN (show y<oI.length from n)⟩
   refine b u.d _ ?_ ⟨ar ts u,by rw[aB,p1],λw L=>?_,by unfold ar;simp,rfl⟩
   ·have E:bx ((266,MV.c (k:Int))::ρ) 250=some (.d 8):=I
    exact jM (dn _ _) ((kR (bW (cI E _) (n8 (dn _ _)))).trans (G K)) (Kt (SH n0 nu lets ps rs ro ix de we op z (i+k+1)) oI l (bN [_] V0.A 1000 (.o (V0.A+1) 20 .z) rfl n))
   ·rcases ny L with h|h
    ·exact p2 w h
    ·exact h▸(aU l)) (yM (c:Nat)) 0 (SH n0 nu lets ps rs ro ix de we op z i) [] rfl ⟨[],rfl,(λJ h=>by cases h),rfl,rfl⟩ λxs O e p=>?_
 refine vL p λts p1 p2 r s=>?_
 rw[sj,cP] at p1 s
 rw[i9] at r
 exact b ts p1 p2 (e▸r▸s▸rfl)
end
end
section
section
variable{K F i c m:Nat}{n0 nu lets ps rs ro de we op:List MV}{ix:List (MV×MV)}{z:List MO}{ρ:Loc}
theorem dZ{x y:Nat}{v:MV}(h:x≠y)(ρ:Loc):bx (bp ρ x v) y=bx ρ y:=by rw[hP,if_neg (cH h)]
theorem ib{x:Nat}{v:MV}(ρ:Loc):bx (bp ρ x v) x=some v:=by rw[hP,if_pos rfl]
noncomputable abbrev bH:List MS:=[jO fp 9 0,jO fp 9 1,jO fp 9 2]
theorem T5(μ:Hp){y:Nat}(h:y<4){a:Prop}(b:∀(c:Nat),c<=3->ez μ (.e [.c 2,.c 1,.c 3,.c 0]) (.c (y:Int))=some (.c (c:Int))->a):a:=by
 have h:y<[2,1,3,0].length:=h
 exact b _ (Gm (l:=[2,1,3,0]) (P:=λc=>c<=3) ⋯ (iJ h)) (rm μ (l:=[2,1,3,0].map λc:Nat=>MV.c c) (aL▸(aN h▸rfl)) (jF (bk h (by decide))))
theorem Bu{G:Prop}(H:Nums nu)(D:i<=70000)(L:bx ρ 250=some (.d 8))(O:ps.length<=10)(P:rs.length<=10)(K F:Nat)
  (k:∀(c:Int) (ts:List CT) (r:CT) (j:Nat),ts.length<=3->(∀u∈ts,u∈oI)->r∈zX->j<=i+5->aY Tb (au Tb (K+1)) F bH ρ (SH n0 nu lets ps rs ro ix de we op z i)=some (.a,bp ρ 58 (.c c),SH n0 nu lets (ar ps (.d (z.length+17))) (ar rs r.d) ro ix de we op (ar z (.a (ts.map CT.d))) j)->G):G:=by
 refine zZ (n0:=n0) (nu:=nu) (lets:=lets) (ps:=ps) (rs:=rs) (ro:=ro) (ix:=ix) (de:=de) (we:=we) (op:=op) (z:=z) (i:=i) (m:=4) H (Gx D) GO λy R J=>?_
 have J:=J K
 refine T5 (SH n0 nu lets ps rs ro ix de we op z (i+1)) R λc p sc=>?_
 have x0:bQ Tb (au Tb (K+1)) F (jO fp 9 0) ρ (SH n0 nu lets ps rs ro ix de we op z i)=some (.a,bp ρ 58 (.c (c:Int)),SH n0 nu lets ps rs ro ix de we op z (i+1)):=by
  refine lY (src:= .h (.l [.g (.c 2),.g (.c 1),.g (.c 3),.g (.c 0)]) (.j 1270 [.d 250,.g (.c 4)])) ?_
  exact jM (sR (bW (dn _ _) (bW (dn _ _) (bW (dn _ _) (n8 (dn _ _))))) (by simp)) ((kR (bW (cI L _) (n8 (dn _ _)))).trans J) sc
 refine b6 (bp ρ 58 (.c (c:Int))) λbt w=>?_
 have C:bx bt 250=some (.d 8):=by rw[w,dZ (by decide)];exact L
 rw[<-w] at x0
 refine Eg (K:=K) (n0:=n0) (lets:=lets) (ps:=ps) (rs:=rs) (ro:=ro) (ix:=ix) (de:=de) (we:=we) (op:=op) (z:=z) (i:=i+1) (c:=c) (ρ:=bt) H (Gv D) (jT p) C λts B Q dm=>?_
 have S:(SH n0 nu lets ps rs ro ix de we op z (i+1+c)).length=z.length+17:=rfl
 have N:dj (au Tb (K+1)) (SH n0 nu lets ps rs ro ix de we op (ar z (.a (ts.map CT.d))) (i+1+c)) (.d 2) [.d (z.length+17)] .a=some (.f,SH n0 nu lets (ar ps (.d (z.length+17))) rs ro ix de we op (ar z (.a (ts.map CT.d))) (i+1+c)):=by
  rw[gG (l:=ps) rfl (GH O)];rfl
 have x1:bQ Tb (au Tb (K+1)) F (jO fp 9 1) bt (SH n0 nu lets ps rs ro ix de we op z (i+1))=some (.a,bt,SH n0 nu lets (ar ps (.d (z.length+17))) rs ro ix de we op (ar z (.a (ts.map CT.d))) (i+1+c)):=
  nz (q:=2) (jM (cI C _) (dn _ _) rfl) rfl (Q1 (x:=266) (mI (w▸(ib ρ))) (GF p B) dm) N
 refine b6 (ar z (.a (ts.map CT.d))) λt n=>?_
 rw[<-n] at x1
 refine b6 (ar ps (.d (z.length+17))) λb s=>?_
 rw[<-s] at x1
 refine zZ (n0:=n0) (nu:=nu) (lets:=lets) (ps:=b) (rs:=rs) (ro:=ro) (ix:=ix) (de:=de) (we:=we) (op:=op) (z:=t) (i:=i+1+c) (m:=16) H (aa0 D p B) (by decide) λM v E=>?_
 obtain⟨r,e⟩:∃u,zX[M]?=some u:=⟨_,aN (show M<zX.length from v)⟩
 have I:dj (au Tb (K+1)) (SH n0 nu lets b rs ro ix de we op t (i+1+c+1)) (.d 3) [r.d] .a=some (.f,SH n0 nu lets b (ar rs r.d) ro ix de we op t (i+1+c+1)):=by
  rw[gG (l:=rs) rfl (GH P)];rfl
 have x2:bQ Tb (au Tb (K+1)) F (jO fp 9 2) bt (SH n0 nu lets b rs ro ix de we op t (i+1+c))=some (.a,bt,SH n0 nu lets b (ar rs r.d) ro ix de we op t (i+1+c+1)):=
  nz (q:=3) (jM (cI C _) (dn _ _) rfl) rfl (jM (dn _ _) ((kR (bW (cI C _) (n8 (dn _ _)))).trans (E K)) (Kt _ zX e (bN [_] V0.A 1000 (.o (V0.A+1) 16 .z) rfl v))) I
 refine k (c:Int) ts r (i+1+c+1) (Qr p B) Q (aU e) (aaZ p B) ?_
 rw[<-w,<-n,<-s]
 show aY Tb (au Tb (K+1)) F ([jO fp 9 0]++([jO fp 9 1]++[jO fp 9 2])) ρ _=_
 rw[cz (x:=[jO fp 9 0]) (cD x0 rfl),cz (x:=[jO fp 9 1]) (cD x1 rfl)]
 exact cD x2 rfl
end
end
section
noncomputable def Oo(f:Nat->Int×List Nat)(m:Nat)(v:Int×List Nat):Nat->Int×List Nat:=λj=>if aR j m then v else f j
noncomputable def Gg(z:List MO)(i:Nat)(v:MV):List MO:=match z[i]? with
 |some (.a l)=>z.set i (.a (ar l v))
 |_=>z
noncomputable def pnL(n:Nat):List MV:=(fO n).map λ(j:Nat)=>MV.g [112,48+j]
noncomputable def tix(d:Nat):Nat->Nat|0=>11*d+14|1=>36|2=>47|3=>47|4=>58|_=>36
noncomputable def aco(d i:Nat)(v:Int×List Nat)(n:Nat):MO:= .d 938 [(131,.c (b0 d i:Nat)),(219,.c (uo d i:Nat)),(156,.g (Rq i)),(375,.c 6),(161,.c (EO i:Nat)),(376,.c 0),(377,.d (n+1)),(378,.d (n+2)),(158,.c v.1),(160,.e (cB v.2)),(379,.e (pnL v.2.length)),(381,.e (br v.2.length (.c 0))),(123,.f),(382,.c 0)]
noncomputable def hdZ(p0 p1:List MV)(z:List MO)(m:Nat):List MO:=if aR m 0 then ar z (.a p0) else if aR m 6 then ar z (.a p1) else z
noncomputable def mkZ(z:List MO)(d i:Nat)(v:Int×List Nat):List MO:=cU (Gg (Gg z 2 (.d (z.length+18))) (tix d i) (.c (b0 d i:Nat))) [.a (cB v.2),aco d i v (z.length+18),.a [],.a [],.a (pnL v.2.length)]
noncomputable def Zk(p0 p1:List MV)(f:Nat->Int×List Nat):Nat->List MO
 |0=>z0
 |m+1=>mkZ (hdZ p0 p1 (Zk p0 p1 f m) m) (m/6) (m%6) (f (m+1))
noncomputable abbrev Zb(p0 p1:List MV)(f:Nat->Int×List Nat)(m:Nat):List MO:=hdZ p0 p1 (Zk p0 p1 f m) m
section
variable{K:Nat}{n0 nu lets ps rs p0 p1:List MV}{at_:Int}{f:Nat->Int×List Nat}{R:List Row}{kr:Int}
noncomputable def NI:Nat->Nat|0=>80|_=>111
noncomputable def pD(p0 p1:List MV):Nat->List MV|0=>p0|_=>p1
structure MkO (K:Nat) (A:jJ) (R:List Row) (p0 p1:List MV) (f:Nat->Int×List Nat) (d i:Nat) (kr:Int) (ks:List Nat) (zd ze:List MO):Prop where
 a:yf Tb (au Tb (K+2)) 938 [.c (b0 d i:Nat),.c (uo d i:Nat),.g (Rq i),.c 6,.c (EO i:Nat),.c kr,.d ((Zb p0 p1 f (6*d+i)).length+17)] (KH A R (ar (Zb p0 p1 f (6*d+i)) (.a (cB ks))))=some (.d ((Zb p0 p1 f (6*d+i)).length+18),KH A R zd)
 b:∀cl,dj cl (KH A R zd) (.d 19) [.d ((Zb p0 p1 f (6*d+i)).length+18)] .a=some (.f,KH A R ze)
 c:ez (KH A R ze) (.d 23) (.c (uo d i:Nat))=some (.d (FV (uo d i)))
 e:iu Tb (KH A R ze) (.d (FV (uo d i))) 157=some (.d (FV (uo d i)+6))
 g:gI Tb (KH A R ze) (.d (FV (uo d i)+6)) 0=some .a
 h:∀cl,dj cl (KH A R ze) (.d (FV (uo d i)+6)) [.c (b0 d i:Nat)] .a=some (.f,KH A R (Zk p0 p1 (Oo f (b0 d i) (kr,ks)) (b0 d i)))
 j:gI Tb (KH A R (ar (Zb p0 p1 f (6*d+i)) (.a (cB ks)))) (.d 19) 0=some .a
 k:(Zb p0 p1 f (6*d+i))[62]?=some (.b kH)
 l:(KH A R (Zb p0 p1 f (6*d+i)))[NI d]?=some (.a (pD p0 p1 d))
 m:mj (KH A R (Zb p0 p1 f (6*d+i))) (.d 19)=some (.c (b0 d i:Nat))
noncomputable abbrev zdO(p0 p1:List MV)(f:Nat->Int×List Nat)(d i:Nat)(kr:Int)(ks:List Nat):List MO:=cU (Zb p0 p1 f (6*d+i)) [.a (cB ks),aco d i (kr,ks) ((Zb p0 p1 f (6*d+i)).length+18),.a [],.a [],.a (pnL ks.length)]
noncomputable abbrev RI(p0 p1:List MV)(f:Nat->Int×List Nat)(d i:Nat)(kr:Int)(ks:List Nat):List MO:=Gg (zdO p0 p1 f d i kr ks) 2 (.d ((Zb p0 p1 f (6*d+i)).length+18))
theorem ad3{d:Type}{l:List d}(h:l.length<=3):l=[]\/(∃a,l=[a])\/(∃a b,l=[a,b])\/∃a b c,l=[a,b,c]:=by
 match l,h with
 |[],_=>exact .inl rfl
 |[a],_=>exact .inr (.inl ⟨a,rfl⟩)
 |[a,b],_=>exact .inr (.inr (.inl ⟨a,b,rfl⟩))
 |[a,b,c],_=>exact .inr (.inr (.inr ⟨a,b,c,rfl⟩))
 |_::_::_::_::_,h=>simp at h
noncomputable def mkL(K:Nat)(A:jJ)(R:List Row)(p0 p1:List MV)(f:Nat->Int×List Nat)(kr:Int)(cl:Call)(ks:List Nat)(d i:Nat):=
 (yf Tb (au Tb (K+2)) 938 [.c (b0 d i:Nat),.c (uo d i:Nat),.g (Rq i),.c 6,.c (EO i:Nat),.c kr,.d ((Zb p0 p1 f (6*d+i)).length+17)] (KH A R (ar (Zb p0 p1 f (6*d+i)) (.a (cB ks)))),
  dj cl (KH A R (zdO p0 p1 f d i kr ks)) (.d 19) [.d ((Zb p0 p1 f (6*d+i)).length+18)] .a,ez (KH A R (RI p0 p1 f d i kr ks)) (.d 23) (.c (uo d i:Nat)),iu Tb (KH A R (RI p0 p1 f d i kr ks)) (.d (FV (uo d i))) 157,
  gI Tb (KH A R (RI p0 p1 f d i kr ks)) (.d (FV (uo d i)+6)) 0,dj cl (KH A R (RI p0 p1 f d i kr ks)) (.d (FV (uo d i)+6)) [.c (b0 d i:Nat)] .a,gI Tb (KH A R (ar (Zb p0 p1 f (6*d+i)) (.a (cB ks)))) (.d 19) 0,
  (Zb p0 p1 f (6*d+i))[62]?,(KH A R (Zb p0 p1 f (6*d+i)))[NI d]?,mj (KH A R (Zb p0 p1 f (6*d+i))) (.d 19))
noncomputable def mkR(A:jJ)(R:List Row)(p0 p1:List MV)(f:Nat->Int×List Nat)(kr:Int)(ks:List Nat)(d i:Nat):Option (MV×Hp)×Option (MV×Hp)×Option MV×Option MV×Option K1×Option (MV×Hp)×Option K1×Option MO×Option MO×Option MV:=
 (some (.d ((Zb p0 p1 f (6*d+i)).length+18),KH A R (zdO p0 p1 f d i kr ks)),some (.f,KH A R (RI p0 p1 f d i kr ks)),some (.d (FV (uo d i))),some (.d (FV (uo d i)+6)),some .a,
  some (.f,KH A R (Zk p0 p1 (Oo f (b0 d i) (kr,ks)) (b0 d i))),some .a,some (.b kH),some (.a (pD p0 p1 d)),some (.c (b0 d i:Nat)))
theorem acq{d i:Nat}(j:d<2)(e:i<6)(A:jJ){ks:List Nat}(g:ks.length<=3)(cl:Call):mkL K A R p0 p1 f kr cl ks d i=mkR A R p0 p1 f kr ks d i:=by
 have E:∀{ks:List Nat},(fO 2).map (λd=>(fO 6).map (mkL K A R p0 p1 f kr cl ks d))=(fO 2).foldr (λd r=>(fO 6).foldr (λi r=>mkR A R p0 p1 f kr ks d i::r) []::r) []->mkL K A R p0 p1 f kr cl ks d i=mkR A R p0 p1 f kr ks d i:=λh=>mapf (mapf h (pj.mpr j)) (pj.mpr e)
 rcases ad3 g with rfl|⟨a,rfl⟩|⟨a,b,rfl⟩|⟨a,b,c,rfl⟩<;>exact E ⋯
theorem Jt{d i:Nat}(h:d<2)(c:i<6)(A:jJ){ks:List Nat}(g:ks.length<=3):MkO K A R p0 p1 f d i kr ks (zdO p0 p1 f d i kr ks) (RI p0 p1 f d i kr ks):=
 have e:=acq (K:=K) (R:=R) (p0:=p0) (p1:=p1) (f:=f) (kr:=kr) h c A g
 have n:Call:=λJ J J=>none
 have s:=congrArg f_ (e n)
 have s2:=congrArg f_ (congrArg f_ s)
 have b:=λcl=>congrArg (λx=>x.2.2.2.2) (congrArg f_ (e cl))
 have a:=congrArg f_ (b n)
 ⟨congrArg jw (e n),λcl=>congrArg jw (congrArg f_ (e cl)),congrArg jw (congrArg f_ s),congrArg jw s2,congrArg jw (congrArg f_ s2),λcl=>congrArg jw (b cl),
  congrArg jw a,congrArg jw (congrArg f_ a),congrArg jw (congrArg f_ (congrArg f_ a)),congrArg f_ (congrArg f_ (congrArg f_ a))⟩
end
end
section
theorem ig.B{f j:Type}{p:f->j->Prop}{a:f}{b:j}:∀{x:List f} {y:List j},ig p x y->p a b->ig p (Mine.ar x a) (Mine.ar y b)
 |[],[],_,h=>⟨h,trivial⟩
 |_::_,_::_,⟨h1,h2⟩,h=>⟨h1,ig.B h2 h⟩
section
variable{R:List Row}{v c:Nat}
theorem TM(O:rG R v true)(h:bB c=true):rG R (kd v c) (aR c 84):=by
 by_cases e:c=84
 ·refine fI e ?_;exact O
 ·have hb:aR c 84=false:=by cases q:aR c 84 with|false=>rfl|true=>exact absurd (aK q) e
  exact(Cc e)▸hb▸(vB R h e)
theorem x7{u:CT}(W:KW R)(j:R.length<=99999)(O:rG R v true)(l:u= .b 118\/bB u.f=true){g:Prop}(e:∀(R':List Row) (n:Nat),(∀k a z d,a.a= .b d->Wa d->z[62]?=some (.b kH)->au Tb (k+8) 1277 [.d 8,u.d,.c (v:Int)] (KH a R z)=some (.c (n:Int),KH a R' z))->cj R' v n u->dM R R' 1->g):g:=by
 rcases l with rfl|h
 ·exact v7 (t:= .b 118) (c:=118) W j (λh=>by cases h) ⟨rfl,rfl⟩ e
 ·refine v7 (t:=u) (c:=u.f) W j (TM O) ?_ e
  cases u with
  |b c=>exact⟨by unfold rK;rw[show bB c=true from h];rfl,rfl⟩
  |r c=>exact⟨h,rfl⟩
  |q c=>exact⟨h,rfl⟩
end
section
variable{K i d n:Nat}{n0 nu lets ps rs:List MV}{at_:Int}{R:List Row}{v:Nat}{A:jJ}{z:List MO}{ts:List CT}{ρ:Loc}{dd:List (MV×MV)}
inductive KMp (R:List Row) (A:jJ) (v:Nat) (ts:List CT) (z:List MO) (k:Nat) (μ:Hp) (q:List MV):Prop
 |mk (R':List Row) (ks:List Nat) (h1:q=cB ks) (h2:ig (λk t=>cj R' v k t) ks (ts.take k)) (h3:dM R R' k) (h4:μ=KH A R' z)
theorem EJ{l:Prop}(W:KW R)(Z:R.length<=90000)(O:rG R v true)(M:∀u∈ts,bB u.f=true)(E:ts.length<=3)(Y:A.a= .b dd)(V:Wa dd)(hz:z[62]?=some (.b kH))(S:(KH A R z)[n]?=some (.a (ts.map CT.d)))(U:17<=n)
  (T:bx ρ 250=some (.d 8)) (r2:bx ρ 253=some (.c (v:Int))) (K:Nat) (L:∀R' ks,(uk (λj μ=>aO Tb (au Tb (K+8)) (.j 1277 [.d 250,.d 252,.d 253]) ((252,j)::ρ) μ) n (ts.map CT.d) (ts.map CT.d) (KH A R z)=some (cB ks,KH A R' z))->(ig (λk t=>cj R' v k t) ks ts)->(dM R R' 3)->l):l:=by
 obtain⟨m,rfl⟩:∃m,n=m+17:=⟨n - 17,aa1 U⟩
 refine nq (n:=m+17) (f:=λj μ=>aO Tb (au Tb (K+8)) (.j 1277 [.d 250,.d 252,.d 253]) ((252,j)::ρ) μ) (all:=ts.map CT.d) (KMp R A v ts z)
  (λk μ q p=>by obtain⟨R',ks,_,_,_,rfl⟩:=p;exact S)
  (λk w μ q l h p P=>by
   obtain⟨R1,ks,rfl,p2,G,rfl⟩:=p
   replace h:=aL▸h
   refine mm h λt y e=>?_
   subst e
   have J:bx ((252,t.d)::ρ) 250=some (.d 8):=T
   have Q:bx ((252,t.d)::ρ) 253=some (.c (v:Int)):=r2
   exact x7 (v:=v) G.r (by have:=G.p;exact(bN [_,_,_,_] V0.D 99999 (.o V0.A 90000 (.o V0.B 3 (.o (V0.C+1) V0.B (.o V0.D (V0.A+V0.C) .z)))) rfl Z E ((ax.mp y).1) this)) (G.A O) (.inr (M t (aU y))) λF x X N H=>
    P (.c (x:Int)) (KH A F z) ((j7 (bW (cI J _) (bW (cI rfl _) (bW (cI Q _) (vO _))))).trans (X K A z dd Y V hz)) ⟨F,ar ks x,by unfold cB ar;simp,(lP y)▸((p2.g H).B N),G.f H,rfl⟩) (ts.map CT.d) 0 (KH A R z) [] rfl ⟨R,[],rfl,trivial,dM.s W,rfl⟩ λxs aG e p=>?_
 obtain⟨R',ks,p1,p2,I,p4⟩:=p
 rw[cP,ay,eC] at p2
 rw[cP,ay] at I
 rw[i9] at p1
 exact L R' ks (e▸p1▸p4▸rfl) p2 (I.e E)
end
end
section
noncomputable def bM:List MS:=match jO fp 9 3 with
 | .g _ _ b=>b
 |_=>[]
noncomputable abbrev Cs(j:Nat):MS:=(bM[j]?).getD .c
structure Lr (ρ:Loc) (d:Nat):Prop where
 w:bx ρ 250=some (.d 8)
 s:bx ρ 153=some (.d 10)
 k:bx ρ 14=some (.d 11)
 d:bx ρ 263=some (.c (d:Int))
theorem Lr.a{ρ:Loc}{d:Nat}(L:Lr ρ d)(x:Nat)(v:MV)(h:x≠250/\x≠153/\x≠14/\x≠263):Lr (bp ρ x v) d:=
 ⟨by rw[dZ h.1];exact L.w,by rw[dZ h.2.1];exact L.s,by rw[dZ h.2.2.1];exact L.k,by rw[dZ h.2.2.2];exact L.d⟩
section
variable{K F i d:Nat}{n0 nu lets ps rs p0 p1:List MV}{at_ var:Int}{R:List Row}{v:Nat}{ts:List CT}{r:CT}{ρ:Loc}{f:Nat->Int×List Nat}{lV:Hp}
theorem vb{G:Prop}(hd:d<2)(hi:i<6)(L:Lr ρ d)(h1:bx ρ 219=some (.c (uo d i:Nat)))(h2:bx ρ 156=some (.g (Rq i)))(h3:bx ρ 161=some (.c (EO i:Nat)))(h4:bx ρ 268=some (.c var))
  (IQ:gI Tb lV (.d 11) 35=some (.c 83)) (IP:au Tb (K+8) 83 [.d 11,.e [.c var,.c 0]] lV=some (.c (v:Int),KH (aS n0 nu lets at_ ps rs) R (Zb p0 p1 f (6*d+i))))
  (Mx:ps[d]?=some (.d (NI d))) (vX:rs[d]?=some r.d) (hpd:pD p0 p1 d=ts.map CT.d) (W:KW R) (hl:R.length<=80000) (O:rG R v true) (hu:∀u∈ts,bB u.f=true) (vV:ts.length<=3) (hr:r= .b 118\/bB r.f=true)
  (k:∀R' kr ks ρ',dM R R' 4->ig (λk t=>cj R' v k t) ks ts->cj R' v kr r->aY Tb (au Tb (K+8)) F bM ρ lV=some (.a,ρ',KH (aS n0 nu lets at_ ps rs) R' (Zk p0 p1 (Oo f (b0 d i) (((kr:Nat):Int),ks)) (b0 d i)))->Lr ρ' d->G):G:=by
 refine b6 (aS n0 nu lets at_ ps rs) λA P=>?_
 have ga:∀R z a w,iu Tb (KH (aS n0 nu lets at_ ps rs) R z) (.d 10) a=some w->iu Tb (KH A R z) (.d 10) a=some w:=λR z a w h=>P▸h
 have abJ:∀R z,iu Tb (KH A R z) (.d 10) 157=some (.d 19):=λR z=>ga R z _ _ ⋯
 have gR:∀R z,ez (KH A R z) (.d 8) (.g [114,101,116,115])=some (.d 3):=λR z=>by rw[P];kernel_rfl
 have gp:∀R z,ez (KH A R z) (.d 2) (.c (d:Int))=some (.d (NI d)):=λR z=>P▸(gj (n:=2) (l:=ps) rfl Mx (QP hd))
 have gr:∀R z,ez (KH A R z) (.d 3) (.c (d:Int))=some r.d:=λR z=>P▸(gj (n:=3) (l:=rs) rfl vX (QP hd))
 have ha8:A.a= .b (wK at_):=P▸rfl
 have hwk:Wa (wK at_):=⟨⋯,⋯,⋯⟩
 replace IP:=P.symm▸IP
 refine b6 (Zb p0 p1 f (6*d+i)) λC Z=>?_
 have x0:bQ Tb (au Tb (K+8)) F (Cs 0) ρ lV=some (.a,bp ρ 253 (.c (v:Int)),KH A R C):=by
  refine lY (src:= .n (.d 14) 35 [.l [.d 268,.g (.c 0)]]) ?_
  have e:gW Tb (au Tb (K+8)) [.l [.d 268,.g (.c 0)]] ρ lV=some ([.e [.c var,.c 0]],lV):=n8 (sR (bW (cI h4 _) (n8 (dn _ _))) (by simp))
  rw[L_ (cI L.k _) IQ e,IP,Z]
 refine b6 (bp ρ 253 (.c (v:Int))) λbt kF=>?_
 rw[<-kF] at x0
 have L1:=kF▸(L.a _ _ (by decide))
 have M0:=Jt (K:=K+6) (p0:=p0) (p1:=p1) (f:=f) (R:=R) (kr:=0) hd hi A (ks:=[]) (by simp)
 have x1:bQ Tb (au Tb (K+8)) F (Cs 1) bt (KH A R C)=some (.a,bp bt 131 (.c (b0 d i:Nat)),KH A R C):=by
  refine lY (src:= .p (.k (.d 153) 157)) ?_
  have Q:=M0.m
  rw[<-Z] at Q
  exact(j7 (rZ (cI L1.s _) (abJ R C))).trans (mI Q)
 refine b6 (bp bt 131 (.c (b0 d i:Nat))) λe_ IU=>?_
 rw[<-IU] at x1
 have L2:=IU▸(L1.a _ _ (by decide))
 have J:=M0.l
 have I:=M0.k
 replace J:=Z.symm▸hpd▸J
 replace I:=Z.symm▸I
 have acX:bx e_ 253=some (.c (v:Int)):=by rw[IU,dZ (by decide),kF,ib]
 refine EJ (v:=v) W (AM hl) O hu vV ha8 hwk I J (by unfold NI;split<;>decide) L2.w acX K λN ks mp ak G1=>?_
 have lk:=ak.e▸vV
 have src:aO Tb (au Tb (K+8)) (.h (.h (.d 250) (.g (.g [112,97,114,97,109,115]))) (.d 263)) e_ (KH A R C)=some (.d (NI d),KH A R C):=
  jM (jM (cI L2.w _) (dn _ _) ((λR z=>by rw[P];kernel_rfl) R C)) (cI L2.d _) (gp R C)
 have x2:=lY (fuel:=F) (y:=160) (pC (x:=252) src J (by rw[ay];exact jT vV) mp)
 have lz:(KH A N C).length=C.length+17:=rfl
 rw[lz] at x2
 have x2:bQ Tb (au Tb (K+8)) F (Cs 2) e_ (KH A R C)=some (.a,bp e_ 160 (.d (C.length+17)),KH A N (ar C (.a (cB ks)))):=x2
 refine b6 (bp e_ 160 (.d (C.length+17))) λD Y=>?_
 rw[<-Y] at x2
 have X:=Y▸(L2.a _ _ (by decide))
 have E:∀x,x≠253->x≠131->x≠160->bx D x=bx ρ x:=λx e1 e2 e3=>by rw[Y,dZ (cH e3),IU,dZ (cH e2),kF,dZ (cH e1)]
 have U:bx D 253=some (.c (v:Int)):=by rw[Y,dZ (by decide)];exact acX
 have acW:bx D 131=some (.c (b0 d i:Nat)):=by rw[Y,dZ (by decide),IU,ib]
 refine x7 (u:=r) (v:=v) G1.r (by have:=G1.p;exact(bN [_,_] V0.B 99999 (.o V0.A 80000 (.o V0.B (V0.A+3) .z)) rfl hl this)) (G1.A O) hr λT kr uZ qA G2=>?_
 have M:=Jt (K:=K+6) (p0:=p0) (p1:=p1) (f:=f) (R:=T) (kr:=(kr:Int)) hd hi A (ks:=ks) lk
 refine b6 (ar C (.a (cB ks))) λS V=>?_
 have new:=M.a
 have res:=(Jt (K:=K+6) (p0:=p0) (p1:=p1) (f:=f) (R:=N) (kr:=(kr:Int)) hd hi A (ks:=ks) lk).j
 rw[<-Z,<-V] at new res
 rw[<-V] at x2
 have e3:aO Tb (au Tb (K+8)) (.H 938 [.d 131,.d 219,.d 156,.g (.c 6),.d 161,.j 1277 [.d 250,.h (.h (.d 250) (.g (.g [114,101,116,115]))) (.d 263),.d 253],.d 160]) D (KH A N S)=some (.d (C.length+18),KH A T (zdO p0 p1 f d i kr ks)):=by
  have a6:aO Tb (au Tb (K+8)) (.j 1277 [.d 250,.h (.h (.d 250) (.g (.g [114,101,116,115]))) (.d 263),.d 253]) D (KH A N S)=some (.c ((kr:Nat):Int),KH A T S):=by
   rw[kR (bW (cI X.w _) (bW (jM (jM (cI X.w _) (dn _ _) (gR N S)) (cI X.d _) (gr N S)) (n8 (cI U _))))]
   exact(uZ K A S (wK at_) ha8 hwk (V▸(fU _ I)))
  exact(j7 (bW (cI acW _) (bW (cI ((E 219 QS QR QQ).trans h1) _) (bW (cI ((E 156 (by decide) (by decide) (by decide)).trans h2) _) (bW (dn _ _) (bW (cI ((E 161 (by decide) (by decide) (by decide)).trans h3) _) (bW a6 (n8 (cI (by rw[Y,ib]) _))))))))).trans new
 have x3:bQ Tb (au Tb (K+8)) F (Cs 3) D (KH A N S)=some (.a,D,KH A T (RI p0 p1 f d i kr ks)):=
  nz (q:=19) (rZ (cI X.s _) (abJ N S)) res e3 (Z▸(M.b _))
 have x4:bQ Tb (au Tb (K+8)) F (Cs 4) D (KH A T (RI p0 p1 f d i kr ks))=some (.a,D,KH A T (Zk p0 p1 (Oo f (b0 d i) (((kr:Nat):Int),ks)) (b0 d i))):=
  nz (q:=FV (uo d i)+6) (rZ (jM (rZ (cI X.s _) ((λR z=>ga R z _ _ ⋯) _ _)) (cI ((E 219 QS QR QQ).trans h1) _) M.c) M.e) M.g (cI acW _) (M.h _)
 refine k T kr ks D ((G1.f G2).e (by decide)) (ak.g G2) qA ?_ X
 rw[<-P]
 show aY Tb (au Tb (K+8)) F ([Cs 0]++([Cs 1]++([Cs 2]++([Cs 3]++[Cs 4])))) ρ lV=_
 rw[cz (x:=[Cs 0]) (cD x0 rfl),cz (x:=[Cs 1]) (cD x1 rfl),cz (x:=[Cs 2]) (cD x2 rfl),cz (x:=[Cs 3]) (cD x3 rfl)]
 exact cD x4 rfl
end
end
section
section
variable{T:Tab}{cl:Call}{F:Nat}{t:MT}{e:ME}{b:List MS}{ρ bt e_:Loc}{μ bC eh:Hp}{l:List MV}{v:MV}{r:Option (Fl×Loc×Hp)}
theorem Bn(a:aO T cl e ρ μ=some (.e l,bC))(h:qx (λρ μ=>aY T cl F b ρ μ) (λv ρ μ=>eX T cl t v ρ μ) l ρ bC=r):bQ T cl F (.g t (.b e) b) ρ μ=r:=(j7 a).trans h
end
noncomputable def Jx:Nat->Int|1=>7|5=>7|_=>6
noncomputable def tv(d i:Nat):MV:= .e [.c (uo d i:Nat),.g (Rq i),.c (EO i:Nat),.c (Jx i)]
noncomputable def Cf.k(Γ:Cf)(j:Nat):Cf:={Γ with h:=j}
theorem vj(Γ:Cf)(j d:Nat):(Γ.k j).T d=Γ.T d/\(Γ.k j).r d=Γ.r d:=by cases d<;>exact⟨rfl,rfl⟩
theorem acz(Γ:Cf)(d:Nat):pD (Γ.a.map CT.d) (Γ.g.map CT.d) d=(Γ.T d).map CT.d:=by cases d<;>rfl
theorem v_7{Γ:Cf}{i j:Nat}(h:i=1\/i=5):Jx i=7/\(Γ.k j).v i=j+20:=by rcases h with rfl|rfl<;>exact⟨rfl,rfl⟩
theorem v_6{Γ:Cf}{i j:Nat}(h:i=0\/i=2\/i=3\/i=4):Jx i=6/\(Γ.k j).v i=19:=by rcases h with rfl|rfl|rfl|rfl<;>exact⟨rfl,rfl⟩
structure Ay (Γ:Cf) (c:Nat) (R:List Row) (f:Nat->Int×List Nat):Prop where
 a:KW R
 j:R.length<=5*c
 m:2<=c->R[Γ.h]?=some .f
 n:∀d i,d<2->i<6->6*d+i<c->ig (λk t=>cj R (Γ.v i) k t) (f (b0 d i)).2 (Γ.T d)/\∃kr:Nat,(f (b0 d i)).1=(kr:Int)/\cj R (Γ.v i) kr (Γ.r d)
theorem Kw(f:Nat->Int×List Nat)(m:Nat)(v:Int×List Nat):Oo f m v m=v:=by unfold Oo;rw[Nat.beq_refl];rfl
theorem VH(f:Nat->Int×List Nat){m j:Nat}(v:Int×List Nat)(h:j≠m):Oo f m v j=f j:=by
 unfold Oo;rw[if_neg λe=>h (aK e)]
theorem Ay.g{Γ p:Cf}{c d i kr:Nat}{R R':List Row}{f:Nat->Int×List Nat}{ks:List Nat}(S:Ay Γ c R f)(hd:d<2)(hi:i<6)(L:c=6*d+i)(W:KW R')(hg:∃x,R'=R++x)(hl:R'.length<=R.length+5)
  (hT:p.T d=Γ.T d/\p.r d=Γ.r d) (s:∀d,p.T d=Γ.T d/\p.r d=Γ.r d) (V:2<=c->p.h=Γ.h) (h7:2<=c+1->R'[p.h]?=some .f) (ak:ig (λk t=>cj R' (p.v i) k t) ks (Γ.T d)) (hk:cj R' (p.v i) kr (Γ.r d)):
  Ay p (c+1) R' (Oo f (b0 d i) (((kr:Nat):Int),ks)):=by
 refine dG hg λx U=>?_
 refine⟨W,by have:=S.j;exact(bN [_,_,_] V0.A (V0.M 5 (V0.C+1)) (.o V0.A (V0.B+5) (.o V0.B (V0.M 5 V0.C) .z)) rfl hl this),h7,λG H I w Q=>?_⟩
 by_cases e:6*G+H=c
 ·have P:=abk hi L w e
  have e2:=abj L e P
  subst P e2
  rw[Kw,(s G).1,(s G).2]
  exact⟨ak,kr,rfl,hk⟩
 ·obtain⟨X,Rm,Z,Y⟩:=S.n G H I w ((bL e).elim (λy=>gy [_,_,_] (V0.M 6 V0.A+V0.B) V0.C (.o (V0.M 6 V0.A+V0.B+1) V0.C .z) rfl y) λy=>cL λN=>bZ [_,_,_] (.o (V0.M 6 V0.A+V0.B+1) (V0.C+1) (.o (V0.C+1) (V0.M 6 V0.A+V0.B) .z)) rfl Q y)
  have ev:p.v H=Γ.v H:=by
   by_cases O:2<=c
   ·unfold Cf.v;rw[V O]
   ·have:H=0:=abi I w Q e O
    refine fI this ?_;rfl
  exact(VH _ _ ((bL e).elim (λy=>λN=>bZ [_,_,_,_,_] (.e V0.A (V0.M 6 V0.B+V0.C) (.o (V0.M 6 V0.D+V0.E+1) V0.A (.f (V0.M 6 V0.B+V0.C+1) (V0.M 6 V0.D+V0.E+1) .z))) rfl L y N) λy=>λN=>bZ [_,_,_,_,_] (.f (V0.M 6 V0.B+V0.C) V0.A (.o (V0.A+1) (V0.M 6 V0.D+V0.E) (.e (V0.M 6 V0.D+V0.E+1) (V0.M 6 V0.B+V0.C+1) .z))) rfl L y N))▸((s G).1)▸((s G).2)▸ev▸(⟨U▸(X.u λJ J q=>q.o x),Rm,Z,U▸(Y.o x)⟩)
theorem UB{p0 p1:List MV}{z:List MO}{m:Nat}(a:m≠0)(g:m≠6):hdZ p0 p1 z m=z:=by
 unfold hdZ
 rw[if_neg λe=>a (aK e),if_neg λe=>g (aK e)]
section
variable{K F i d c:Nat}{n0 nu lets ps rs:List MV}{at_:Int}{R:List Row}{ρ:Loc}{f:Nat->Int×List Nat}{lV:Hp}{Γ:Cf}
theorem JO{G:Prop}(q:d<2)(n:i<6)(L:Lr ρ d)(S:Ay Γ (6*d+i) R f)(X:ps[d]?=some (.d (NI d)))(vX:rs[d]?=some (Γ.r d).d)(U:∀u∈Γ.T d,bB u.f=true)(Z:(Γ.T d).length<=3)(hr:Γ.r d= .b 118\/bB (Γ.r d).f=true)
  (w:lV=KH (aS n0 nu lets at_ ps rs) R (Zb (Γ.a.map CT.d) (Γ.g.map CT.d) f (6*d+i))\/(6*d+i=0/\R=[]/\lV=ON (aS n0 nu lets at_ ps rs) (Zb (Γ.a.map CT.d) (Γ.g.map CT.d) f (6*d+i))))
  (k:∀j R' Y ρ' bt,eX Tb (au Tb (K+8)) (.c [219,156,161,268]) (tv d i) ρ lV=some (bt,lV)->aY Tb (au Tb (K+8)) F bM bt lV=some (.a,ρ',KH (aS n0 nu lets at_ ps rs) R' (Zk (Γ.a.map CT.d) (Γ.g.map CT.d) Y (6*d+i+1)))->Ay (Γ.k j) (6*d+i+1) R' Y->Lr ρ' d->G):G:=by
 have E:=S.j
 refine b6 (bp (bp (bp (bp ρ 219 (.c (uo d i:Nat))) 156 (.g (Rq i))) 161 (.c (EO i:Nat))) 268 (.c (Jx i))) λbt y=>?_
 have st:eX Tb (au Tb (K+8)) (.c [219,156,161,268]) (tv d i) ρ lV=some (bt,lV):=y▸rfl
 have L1:=y▸((((L.a _ _ abh).a _ _ abg).a _ _ abf).a _ _ abe)
 have H:bx bt 219=some (.c (uo d i:Nat)):=by rw[y,dZ abd,dZ abc,dZ abb,ib]
 have V:bx bt 156=some (.g (Rq i)):=by rw[y,dZ aba,dZ aa9,ib]
 have W:bx bt 161=some (.c (EO i:Nat)):=by rw[y,dZ aa8,ib]
 have D:bx bt 268=some (.c (Jx i)):=by rw[y,ib]
 have z:=acz Γ d
 by_cases s:i=1\/i=5
 ·have w:lV=KH (aS n0 nu lets at_ ps rs) R (Zb (Γ.a.map CT.d) (Γ.g.map CT.d) f (6*d+i)):=by
   rcases w with h|⟨h,_⟩
   ·exact h
   ·(exfalso;exact Tg n s h)
  have O:=(v_7 (Γ:=Γ) (j:=0) s).1
  rw[O] at D
  refine C4 (row:= .f) S.a (aa7 q n E) (.inl rfl) λR1 j hp P=>?_
  refine dG P.c λx1 A=>?_
  refine vb (v:=j+20) (ts:=Γ.T d) (r:=Γ.r d) (F:=F) q n L1 H V W D (by rw[w];kernel_rfl) (w▸(hp (K+2) _ _)) X vX z P.e (by have:=P.d;exact aa5 q n E this) (y5 P.b (by have:=P.d;exact aa6 q n E this) (.inl rfl)) U Z hr λR' kr ks ρ' o Q M x N=>?_
  have C:=(v_7 (Γ:=Γ) (j:=j) s).2
  refine k j R' _ ρ' bt st x (S.g q n rfl o.r ?_ (by have t1:=o.p;have t2:=P.d;exact TJ t1 t2) (vj ..) (vj _ _) (λh=>P.e.f P.b (A▸(lX (S.m h)))) (λJ=>o.B P.b) (C▸Q) (C▸M)) N
  refine dG o.c λx2 I=>?_
  exact⟨x1++x2,by rw[I,A,cC]⟩
 ·have O:=(v_6 (Γ:=Γ) (j:=0) (QU n s)).1
  replace D:=O▸D
  have IP:au Tb (K+8) 83 [.d 11,.e [.c 6,.c 0]] lV=some (.c ((19:Nat):Int),KH (aS n0 nu lets at_ ps rs) R (Zb (Γ.a.map CT.d) (Γ.g.map CT.d) f (6*d+i))):=by
   rcases w with h|⟨_,H,h⟩
   ·rw[h];exact JT S.a _ _ (K+1)
   ·exact h▸H▸(EX _ _ (K+1))
  refine vb (v:=19) (ts:=Γ.T d) (r:=Γ.r d) (F:=F) q n L1 H V W D (by rcases w with h|⟨_,_,h⟩<;>rw[h]<;>kernel_rfl) IP X vX z S.a (aa4 q n E) (nK R 19 N' Z5 ZN) U Z hr λR' kr ks ρ' o Q M x N=>?_
  have C:=(v_6 (Γ:=Γ) (j:=Γ.h) (QU n s)).2
  exact k Γ.h R' _ ρ' bt st x (S.g q n rfl o.r o.c (by have:=o.p;exact aaW this) (vj ..) (vj _ _) (λJ=>rfl) (λh=>o.B (S.m (aaV n s h))) (C▸Q) (C▸M)) N
end
end
section
noncomputable def tvs(d:Nat):Nat->Nat->List MV
 |_,0=>[]
 |i,n+1=>tv d i::tvs d (i+1) n
section
variable{K F i d c:Nat}{n0 nu lets ps rs:List MV}{at_:Int}{R:List Row}{ρ:Loc}{f:Nat->Int×List Nat}{lV:Hp}{Γ:Cf}
theorem yu(t:d<2):∀(n i:Nat),i+n=6->∀(Γ:Cf) (R:List Row) (f:Nat->Int×List Nat) (ρ:Loc) (lV:Hp),Lr ρ d->Ay Γ (6*d+i) R f->ps[d]?=some (.d (NI d))->rs[d]?=some (Γ.r d).d->(∀u∈Γ.T d,bB u.f=true)->(Γ.T d).length<=3->(Γ.r d= .b 118\/bB (Γ.r d).f=true)->
  (i=0/\(lV=KH (aS n0 nu lets at_ ps rs) R (Zb (Γ.a.map CT.d) (Γ.g.map CT.d) f (6*d+i))\/(6*d+i=0/\R=[]/\lV=ON (aS n0 nu lets at_ ps rs) (Zb (Γ.a.map CT.d) (Γ.g.map CT.d) f (6*d+i))))\/0<i/\lV=KH (aS n0 nu lets at_ ps rs) R (Zk (Γ.a.map CT.d) (Γ.g.map CT.d) f (6*d+i)))->
  ∃j R' o ρ',qx (λρ μ=>aY Tb (au Tb (K+8)) F bM ρ μ) (λv ρ μ=>eX Tb (au Tb (K+8)) (.c [219,156,161,268]) v ρ μ) (tvs d i n) ρ lV=some (.a,ρ',KH (aS n0 nu lets at_ ps rs) R' (Zk (Γ.a.map CT.d) (Γ.g.map CT.d) o (6*d+6)))/\Ay (Γ.k j) (6*d+6) R' o/\Lr ρ' d
 |0,i,l,Γ,R,f,ρ,lV,L,S,_,_,_,_,_,s_=>by
  have l:=l
  subst l
  rcases s_ with⟨h,_⟩|⟨_,rfl⟩
  ·cases h
  ·exact⟨Γ.h,R,f,ρ,rfl,S,L⟩
 |n+1,i,l,Γ,R,f,ρ,lV,L,S,Mx,vX,hu,h3,hr,s_=>by
  have m:lV=KH (aS n0 nu lets at_ ps rs) R (Zb (Γ.a.map CT.d) (Γ.g.map CT.d) f (6*d+i))\/(6*d+i=0/\R=[]/\lV=ON (aS n0 nu lets at_ ps rs) (Zb (Γ.a.map CT.d) (Γ.g.map CT.d) f (6*d+i))):=by
   rcases s_ with⟨_,h⟩|⟨w,h⟩
   ·exact h
   ·left;rw[h];unfold Zb;rw[UB (abn l w) (abm l w)]
  refine JO (K:=K) (F:=F) t (gy [_,_] V0.A 6 (.e (V0.A+(V0.B+1)) 6 .z) rfl l) L S Mx vX hu h3 hr m λj y p G bt st x S1 E=>?_
  have s:=(vj Γ j d).1
  have q:=(vj Γ j d).2
  obtain⟨C,R',o,ρ',e,S',D⟩:=yu t n (i+1) (aQ (bN [_,_] (V0.A+1+V0.B) 6 (.e (V0.A+(V0.B+1)) 6 .z) rfl l) (bN [_,_] 6 (V0.A+1+V0.B) (.f 6 (V0.A+(V0.B+1)) .z) rfl l)) (Γ.k j) y p G (KH (aS n0 nu lets at_ ps rs) y (Zk (Γ.a.map CT.d) (Γ.g.map CT.d) p (6*d+i+1))) E S1 Mx (q▸vX) (s▸hu) (s▸h3) (q▸hr) (.inr ⟨abl l,rfl⟩)
  exact⟨C,R',o,ρ',(nQ st x).trans e,S',D⟩
noncomputable abbrev adl:ME:= .l [.l [.r .a (.g (.c 64)) (.d 263),.g (.g [73,110,118,111,107,101]),.g (.c 0),.g (.c 6)],.l [.g (.c 66),.g (.g [97]),.g (.c 1),.g (.c 7)],.l [.g (.c 67),.g (.g [98]),.g (.c 1),.g (.c 6)],.l [.g (.c 67),.g (.g [99]),.g (.c 0),.g (.c 6)],.l [.g (.c 68),.g (.g [100]),.g (.c 0),.g (.c 6)],.l [.g (.c 66),.g (.g [101]),.g (.c 0),.g (.c 7)]]
theorem VG(h:d<2)(L:Lr ρ d)(cl:Call)(μ:Hp):aO Tb cl adl ρ μ=some (.e (tvs d 0 6),μ):=by
 have h:=m6 h
 have x:aO Tb cl (.r .a (.g (.c 64)) (.d 263)) ρ μ=some (.c (64+(d:Int)),μ):=j7 (cI L.d μ)
 have f:∀a b c d,aO Tb cl (.l [.g a,.g b,.g c,.g d]) ρ μ=some (.e [a,b,c,d],μ):=λa b c d=>sR (bW (dn _ _) (bW (dn _ _) (bW (dn _ _) (n8 (dn _ _))))) (by simp)
 refine(sR (bW (sR (bW x (bW (dn _ _) (bW (dn _ _) (n8 (dn _ _))))) (by simp)) (bW (f _ _ _ _) (bW (f _ _ _ _) (bW (f _ _ _ _) (bW (f _ _ _ _) (n8 (f _ _ _ _))))))) (by simp)).trans ?_
 rcases h with rfl|rfl<;>kernel_rfl
theorem Km{G:Prop}(l:d<2)(L:Lr ρ d)(S:Ay Γ (6*d) R f)(s:ps[d]?=some (.d (NI d)))(o:rs[d]?=some (Γ.r d).d)(p:∀u∈Γ.T d,bB u.f=true)(m:(Γ.T d).length<=3)(t:Γ.r d= .b 118\/bB (Γ.r d).f=true)
  (n:lV=KH (aS n0 nu lets at_ ps rs) R (Zb (Γ.a.map CT.d) (Γ.g.map CT.d) f (6*d))\/(6*d=0/\R=[]/\lV=ON (aS n0 nu lets at_ ps rs) (Zb (Γ.a.map CT.d) (Γ.g.map CT.d) f (6*d))))
  (k:∀j R' h ρ',bQ Tb (au Tb (K+8)) F (jO fp 9 3) ρ lV=some (.a,ρ',KH (aS n0 nu lets at_ ps rs) R' (Zk (Γ.a.map CT.d) (Γ.g.map CT.d) h (6*d+6)))->Ay (Γ.k j) (6*d+6) R' h->Lr ρ' d->G):G:=by
 refine adE (yu (K:=K) (F:=F) (n0:=n0) (nu:=nu) (lets:=lets) (at_:=at_) (ps:=ps) (rs:=rs) l 6 0 rfl Γ R f ρ lV L S s o p m t (.inl ⟨rfl,n⟩)) λj R' h ρ' e S' q=>?_
 refine k j R' h ρ' ?_ S' q
 exact(by kernel_rfl:jO fp 9 3= .g (.c [219,156,161,268]) (.b adl) bM)▸(Bn (VG l L _ _) e)
end
end
section
noncomputable abbrev bD:List MS:=[jO fp 9 0,jO fp 9 1,jO fp 9 2,jO fp 9 3]
theorem aeA:fF fp 9= .g (.b 263) (.b (.l [.g (.c 0),.g (.c 1)])) bD:=⋯
theorem Ay.o{Γ b:Cf}{R:List Row}{f:Nat->Int×List Nat}(S:Ay Γ 6 R f)(t:b.a=Γ.a)(s:b.m=Γ.m)(e:b.h=Γ.h):Ay b 6 R f:=
 ⟨S.a,S.j,λh=>e▸(S.m h),λd i k c l=>by
  have:d=0:=abp k c l
  subst this
  have:=S.n 0 i k c l
  have q:b.T 0=Γ.T 0:=t
  have p:b.r 0=Γ.r 0:=s
  exact q▸p▸(by unfold Cf.v;rw[e]:b.v i=Γ.v i)▸this⟩
theorem Vw(Γ:Cf)(f:Nat->Int×List Nat):Ay Γ 0 [] f:=⟨UU,aC _,λh=>absurd h (by decide),λd i J J h=>absurd h (wH _)⟩
structure StO (Γ:Cf) (i:Nat) (R:List Row) (f:Nat->Int×List Nat) (i':Nat):Prop where
 a:Ay Γ 12 R f
 b:Γ.a.length<=3
 c:Γ.g.length<=3
 d:∀u∈Γ.a,u∈oI
 e:∀u∈Γ.g,u∈oI
 g:Γ.m∈zX
 h:Γ.n∈zX
 j:i'<=i+10
section
variable{K i:Nat}{n0 nu lets:List MV}
theorem Kp{G:Prop}(H:Nums nu)(hi:i<=1000)(a b:Nat)(K:Nat)
  (k:∀(Γ:Cf) (R:List Row) (f:Nat->Int×List Nat) (i':Nat),Γ.o=a->Γ.p=b->au Tb (K+13) 1296 [.d 8] (K8 n0 nu lets (i:Int))=some (.d 10,KH (aS n0 nu lets (i':Int) [.d 80,.d 111] [Γ.m.d,Γ.n.d]) R (Zk (Γ.a.map CT.d) (Γ.g.map CT.d) f 12))->StO Γ i R f i'->G):G:=by
 have V:=acV (K:=K) (n0:=n0) (nu:=nu) (lets:=lets) (at_:=(i:Int))
 have z17:z0.length+17=80:=⋯
 refine b6 (bp ρS 263 (.c ((0:Nat):Int))) λr ab5=>?_
 have La:Lr r 0:=ab5▸(⟨rfl,rfl,rfl,rfl⟩)
 refine Bu (i:=i) (n0:=n0) (nu:=nu) (lets:=lets) (ps:=[]) (rs:=[]) (ro:=bR.take 19) (ix:=bI.take 19) (de:=lZ.take 19) (we:=lZ.take 19) (op:=ua.take 19) (z:=z0) (ρ:=r) H (eK hi) La.w (by simp) (by simp) (K+11) (K+12) λc0 v r0 S h1 h2 h3 h4 x0=>?_
 rw[z17] at x0
 refine b6 (v.map CT.d) λp0 N=>?_
 rw[<-N] at x0
 refine b6 (ON (aS n0 nu lets (i:Int) [] []) z0) λM0 hM0=>?_
 refine b6 (ON (aS n0 nu lets (S:Int) [.d 80] [r0.d]) (Zb p0 [] (λJ=>(0,[])) (6*0))) λM1 hM1=>?_
 rw[<-hM0] at V
 have e0:SH n0 nu lets [] [] (bR.take 19) (bI.take 19) (lZ.take 19) (lZ.take 19) (ua.take 19) z0 i=M0:=by rw[hM0];kernel_rfl
 have e1:SH n0 nu lets (ar [] (.d 80)) (ar [] r0.d) (bR.take 19) (bI.take 19) (lZ.take 19) (lZ.take 19) (ua.take 19) (ar z0 (.a p0)) S=M1:=by rw[hM1];kernel_rfl
 rw[e0,e1] at x0
 obtain⟨L,D⟩:∃y:Cf,y=⟨v,[],r0,.b 118,a,b,0⟩:=⟨_,rfl⟩
 have T:∀ts:List CT,(∀u∈ts,u∈oI)->∀u∈ts,bB u.f=true:=λts h u hu=>(tP u (h u hu)).1
 have eP:L.a.map CT.d=p0:=D▸N▸rfl
 have eQ:L.g.map CT.d=[]:=D▸rfl
 refine Km (K:=K+4) (F:=K+12) (d:=0) (ρ:=bp r 58 (.c c0)) (lV:=M1) (Γ:=L) (R:=[]) (f:=λJ=>(0,[])) (n0:=n0) (nu:=nu) (lets:=lets) (at_:=(S:Int)) (ps:=[.d 80]) (rs:=[r0.d]) xm (La.a _ _ QV) (Vw _ _) rfl (D▸rfl) (D▸(T v h2)) (D▸h1) (D▸(sh r0 h3)) (.inr ⟨rfl,rfl,by rw[eP,eQ];exact hM1⟩) λj q P bt x1 S1 L1=>?_
 refine b6 (KH (aS n0 nu lets (S:Int) [.d 80] [r0.d]) q (Zk p0 [] P 6)) λM2 X=>?_
 have z6:(Zk p0 [] P 6).length+17=111:=⋯
 refine b6 (bp bt 263 (.c ((1:Nat):Int))) λt Z=>?_
 have Lb:Lr t 1:=Z▸(⟨by rw[dZ (by decide)];exact L1.w,by rw[dZ (by decide)];exact L1.s,by rw[dZ (by decide)];exact L1.k,ib _⟩)
 refine Bu (i:=S) (n0:=n0) (nu:=nu) (lets:=lets) (ps:=[.d 80]) (rs:=[r0.d]) (ro:=bR++q.map Row.a) (ix:=bI++iF 20 q) (de:=lZ++q.map Row.h) (we:=lZ++q.map Row.i) (op:=ua++q.map Row.g) (z:=Zk p0 [] P 6) (ρ:=t) H (bN [_,_] V0.B 70000 (.o V0.A 1000 (.o V0.B (V0.A+5) .z)) rfl hi h4) Lb.w (by simp) (by simp) (K+11) (K+12) λc1 M O i1 g1 g2 g3 g4 y0=>?_
 rw[z6] at y0
 refine b6 (M.map CT.d) λp1 Mv=>?_
 rw[<-Mv] at y0
 refine b6 (KH (aS n0 nu lets (i1:Int) [.d 80,.d 111] [r0.d,O.d]) q (Zb p0 p1 P (6*1))) λM3 U=>?_
 have e2:SH n0 nu lets [.d 80] [r0.d] (bR++q.map Row.a) (bI++iF 20 q) (lZ++q.map Row.h) (lZ++q.map Row.i) (ua++q.map Row.g) (Zk p0 [] P 6) S=M2:=by rw[X];kernel_rfl
 have e3:SH n0 nu lets (ar [.d 80] (.d 111)) (ar [r0.d] O.d) (bR++q.map Row.a) (bI++iF 20 q) (lZ++q.map Row.h) (lZ++q.map Row.i) (ua++q.map Row.g) (ar (Zk p0 [] P 6) (.a p1)) i1=M3:=by rw[U];kernel_rfl
 rw[e2,e3] at y0
 obtain⟨E,e⟩:∃y:Cf,y=⟨v,M,r0,O,a,b,j⟩:=⟨_,rfl⟩
 have Q:E.a.map CT.d=p0:=e▸N▸rfl
 have I:E.g.map CT.d=p1:=e▸Mv▸rfl
 refine Km (K:=K+4) (F:=K+12) (d:=1) (ρ:=bp t 58 (.c c1)) (lV:=M3) (Γ:=E) (R:=q) (f:=P) (n0:=n0) (nu:=nu) (lets:=lets) (at_:=(i1:Int)) (ps:=[.d 80,.d 111]) (rs:=[r0.d,O.d]) QW (Lb.a _ _ QV) (S1.o (e▸D▸rfl) (e▸D▸rfl) (e▸rfl)) rfl (e▸rfl) (e▸(T M g2)) (e▸g1) (e▸(sh O g3)) (.inl (Q▸I▸U)) λW R2 f2 e_ x2 S2 L2=>?_
 refine b6 (KH (aS n0 nu lets (i1:Int) [.d 80,.d 111] [r0.d,O.d]) R2 (Zk p0 p1 f2 12)) λM4 Y=>?_
 refine k (E.k W) R2 f2 i1 (e▸rfl) (e▸rfl) ?_ ⟨S2,e▸h1,e▸g1,e▸h2,e▸g2,e▸h3,e▸g3,bN [_,_,_] V0.C (V0.B+10) (.o V0.A (V0.B+5) (.o V0.C (V0.A+5) .z)) rfl h4 g4⟩
 have eT0:((E.k W).a.map CT.d)=p0:=Q
 have eT1:((E.k W).g.map CT.d)=p1:=I
 have er0:(E.k W).m=r0:=e▸rfl
 have er1:(E.k W).n=O:=e▸rfl
 refine eT0▸eT1▸er0▸er1▸?_
 refine Y▸?_
 have lp:bQ Tb (au Tb (K+12)) (K+12) (fF fp 9) ρS M0=some (.a,e_,M4):=by
  refine aeA▸(Bn (bC:=M0) (l:=[.c 0,.c 1]) ⋯ ?_)
  refine(nQ (bt:=r) (ab5▸rfl) ((cz x0).trans (cD (by rw[eP,eQ] at x1;rw[X];exact x1) rfl):aY Tb (au Tb (K+12)) (K+12) bD r M0=some (.a,bt,M2))).trans ?_
  refine(nQ (bt:=t) (Z▸rfl) ((cz y0).trans (cD (by rw[Q,I] at x2;rw[Y];exact x2) rfl):aY Tb (au Tb (K+12)) (K+12) bD t M2=some (.a,e_,M4))).trans ?_
  rfl
 refine pB (F:=fp) (ρ:=e_) ⋯ rfl ?_
 show aY Tb (au Tb (K+12)) (K+12) (bS0++([fF fp 9]++[fF fp 10])) [(250,.d 8)] (K8 n0 nu lets (i:Int))=_
 rw[cz V,cz (x:=[fF fp 9]) (cD lp rfl)]
 exact oxR (j7 (cI L2.s _))
end
end
section
noncomputable def Nj:List (Nat×Nat):=[(121,2273),(115,2274),(112,2275),(72,2276),(101,2277),(108,2278),(107,2279),(98,2280)]
noncomputable abbrev ltV:MV:= .e [.j [121] 2273,.j [115] 2274,.j [112] 2275,.j [72] 2276,.j [101] 2277,.j [108] 2278,.j [107] 2279,.j [98] 2280]
theorem Ro{a:Prop}(μ:Hp){y:Nat}(h:y<8)(b:∀p,(p∈Nj)->(ez μ ltV (.c (y:Int))=some (.j [p.1] p.2))->a):a:=by
 refine b (Nj[y]'h) (iJ h) ?_
 have e:((fO 8).map λy:Nat=>ez μ ltV (.c y))=Nj.map λp=>some (.j [p.1] p.2):=⋯
 have e:=congrArg (λl=>l[y]?) e
 rw[aL,qg h,aL,aN h] at e
 exact ba e
theorem Jn{p:Nat×Nat}(h:p∈Nj):p.1∈[121,115,112,72,101,108,107,98]/\0<p.2/\p.2<2455:=
 of_decide_eq_true (aT.mp (by kernel_rfl:(Nj.all λp=>decide (p.1∈[121,115,112,72,101,108,107,98]/\0<p.2/\p.2<2455))=true) p h)
noncomputable abbrev Jy(l:List Int):List MV:=(l.take 40).map .c
noncomputable abbrev nuL(l:List Int):List MV:=(l.take 40).map λi=> .c (i.fmod 999983)
noncomputable abbrev w3(at_:Int):List (MV×MV):=[((.g [110,117,109,115]),.d 1),((.g [97,116]),.c at_),((.g [112,97,114,97,109,115]),.d 2),((.g [114,101,116,115]),.d 3),((.g [98,111,100,121]),.d 7)]
noncomputable abbrev mL(n0 nu:List MV)(at_:Int):Hp:=[.a n0,.a nu,.a [],.a [],.a [tO],.a [tO,tO,tO,tO,tO,tO,tO,tO,tO],.a [],bdO,.b (w3 at_)]
noncomputable abbrev bL0:List MS:=[fF eJ 2,fF eJ 3,fF eJ 4]
section
variable{l:List Int}
theorem Cw(h:l≠[]):Nums (nuL l):=by
 refine⟨λv a=>?_,?_,by simp;exact aa3⟩
 ·refine cf (cW.mp a) λi J z0=>?_
  refine rI z0 ?_
  exact⟨_,rfl⟩
 ·rw[ay,gM]
  have:=List.length_pos_iff.mpr h
  exact(Nat.lt_min.mpr ⟨by decide,this⟩)
theorem JL(K:Nat)(ρ:Loc):uk (λj μ=>aO Tb (au Tb K) (.r .b (.d 74) (.g (.c 999983))) ((74,j)::ρ) μ) 0 (Jy l) (Jy l) [.a (Jy l)]=some (nuL l,[.a (Jy l)]):=by
 refine nq (n:=0) (f:=λj μ=>aO Tb (au Tb K) (.r .b (.d 74) (.g (.c 999983))) ((74,j)::ρ) μ) (all:=Jy l)
  (λk μ q=>q=(nuL l).take k/\μ=[.a (Jy l)]) (λk μ q p=>p.2▸rfl)
  (λk v μ q s h p o=>by
   obtain⟨rfl,rfl⟩:=p
   replace h:=aL▸h
   obtain⟨i,m,rfl⟩:=Option.map_eq_some_iff.mp h
   refine o (.c (i.fmod 999983)) _ rfl ⟨?_,rfl⟩
   rw[lP (v:= .c (i.fmod 999983)) (aL▸m▸rfl)]) (Jy l) 0 [.a (Jy l)] [] rfl ⟨rfl,rfl⟩ λxs t e p=>?_
 obtain⟨p1,p2⟩:=p
 rw[i9,cP,ay] at p1
 rw[e,p1,p2,dF (by rw[ay];exact AL)]
theorem UW(i:l≠[])(h:l.length<=63)(K:Nat):aY Tb (au Tb (K+2)) (K+2) [fF eJ 0,fF eJ 1] [(298,.m l)] []=some (.a,[(298,.m l),(251,.d 1)],[.a (Jy l),.a (nuL l)]):=by
 have H:=Cw i
 refine b6 (Jy l) λn0 e=>?_
 refine b6 (nuL l) λnu f=>?_
 have j:=lY (fuel:=K+2) (y:=251) (pC (x:=74) (e▸(j1 (eK h)):aO Tb (au Tb (K+2)) (.y (.d 298) none (some (.g (.c 40)))) [(298,.m l)] []=some (.d 0,[.a n0])) rfl (by rw[e];simp;exact aa2 h) (by rw[e];exact JL (K+2) _))
 have x0:=e▸f▸j
 rw[<-f] at H
 refine e▸f▸?_
 show aY Tb (au Tb (K+2)) (K+2) ([fF eJ 0]++[fF eJ 1]) _ _=_
 rw[cz (x:=[fF eJ 0]) (cD x0 rfl)]
 exact cD (ur [(0,ov (lh rfl (by have:=H.a;unfold bz;exact rj this):mj [.a n0,.a nu] (.d 1)=some (.c (nu.length:Nat)))),(1,oq (nB (c:=0) (n:=nu.length) (by have:=H.b;exact O6 this) (μ:=[.a n0,.a nu])))] ⋯) rfl
end
section
variable{n0 nu:List MV}{sc:MV}
theorem Nb{G:Prop}(H:Nums nu)(K:Nat)
  (k:∀(y:Int) (p q:Nat×Nat),p∈Nj->q∈Nj->aY Tb (au Tb (K+2)) (K+2) bL0 [(298,sc),(251,.d 1)] [.a n0,.a nu]=some (.a,[(298,sc),(251,.d 1),(250,.d 8),(226,.c y)],K8 n0 nu [.j [p.1] p.2,.j [q.1] q.2] 2)->G):G:=by
 have x2:bQ Tb (au Tb (K+2)) (K+2) (fF eJ 2) [(298,sc),(251,.d 1)] [.a n0,.a nu]=some (.a,[(298,sc),(251,.d 1),(250,.d 8)],mL n0 nu 0):=by
  kernel_rfl
 refine rX (μ:=mL n0 nu 0) (d:=w3 0) (i:=0) (n:=8) rfl rfl H ⟨rfl,rfl,rfl,by simp⟩ (by decide) QT λy g f=>?_
 refine rX (μ:=mL n0 nu 1) (d:=w3 1) (i:=1) (n:=7) rfl rfl H ⟨rfl,rfl,rfl,by simp⟩ (by decide) (by decide) λe r s=>?_
 have x3:bQ Tb (au Tb (K+2)) (K+2) (fF eJ 3) [(298,sc),(251,.d 1),(250,.d 8)] (mL n0 nu 0)=some (.a,[(298,sc),(251,.d 1),(250,.d 8),(226,.c (y:Int))],mL n0 nu 1):=ur [(0,ow (f (K+1)))] ⋯
 refine Ro (mL n0 nu 1) g λp o s1=>?_
 refine Ro (mL n0 nu 2) (y:=(y+1+e)%8) (Nat.mod_lt _ QT) λq h s2=>?_
 have a3:dE (mL n0 nu 2) .b (.c ((y+1+e:Nat):Int)) (.c 8)=some (.c (((y+1+e)%8:Nat):Int),mL n0 nu 2):=by
  rw[oY (by decide),eO _ (by decide)];rfl
 refine b6 ((y+1+e)%8) λm hm=>?_
 rw[<-hm] at a3 s2
 refine k (y:Int) p q o h ?_
 show aY Tb (au Tb (K+2)) (K+2) ([fF eJ 2]++([fF eJ 3]++[fF eJ 4])) _ _=_
 rw[cz (x:=[fF eJ 2]) (cD x2 rfl),cz (x:=[fF eJ 3]) (cD x3 rfl)]
 exact cD (ur [(0,ov s1),(1,ow (rfl:dE (mL n0 nu 1) .a (.c (y:Int)) (.c 1)=some (.c ((y+1:Nat):Int),mL n0 nu 1))),(2,ow (s (K+1))),(3,ow (rfl:dE (mL n0 nu 2) .a (.c ((y+1:Nat):Int)) (.c (e:Int))=some (.c ((y+1+e:Nat):Int),mL n0 nu 2))),(4,ow a3),(5,ov s2)] ⋯) rfl
end
end
section
noncomputable def σL(n0 nu lets JY p0 p1:List MV)(at_:Int)(R:List Row)(f:Nat->Int×List Nat):St where
 n0:=n0
 nu:=nu
 ah:=JY
 af:=lets
 U:=at_
 R:=R
 al:=p0
 am:=p1
 T:=λm=>(f m).1
 Y:=λm=>cB (f m).2
 N:=λm=>pnL (f m).2.length
 pf:=λm=>br (f m).2.length (.c 0)
 pl:=λm=>cB (f m).2
 h:=22
 ae:=6
 A:=2
 J:=[.d 178,.d 180]
 B:=[(.c 16,.d 178),(.c 19,.d 180)]
 O:=0
 an:= .f
 Z:= .f
 X:=[.d 183]
 ab:=[(.c 1000,.d 183)]
 G:=[]
 H:=[]
 a:=[]
 z:=[]
 u:=[]
 L:=[]
noncomputable def δL:List MO:=[.a [],gw 1 1000 (.e [.c 18,.c 2,.e [.c 7]]) (.d 7) 0 (.d 182) 3 0 0,.a [],.a [],.a [],.a [],.a [],.a []]
noncomputable abbrev bL1:List MS:=[fF eJ 6,fF eJ 7,fF eJ 8,fF eJ 9,fF eJ 10,fF eJ 11,fF eJ 12]
section
variable{K:Nat}{n0 nu lets JY p0 p1:List MV}{at_:Int}{R:List Row}{f:Nat->Int×List Nat}{sc:MV}{y:Int}
theorem Na:aY Tb (au Tb (K+12)) (K+12) bL1 [(298,sc),(251,.d 1),(250,.d 8),(226,.c y),(153,.d 10)] (KH (aS n0 nu lets at_ [.d 80,.d 111] JY) R (Zk p0 p1 f 12))=some (.a,[(298,sc),(251,.d 1),(250,.d 8),(226,.c y),(153,.d 10),(103,.d 148),(110,.d 183)],HS (σL n0 nu lets JY p0 p1 at_ R f) δL):=by
 kernel_rfl
end
end
section
section
variable{K:Nat}{n0 nu:List MV}{sc:MV}{l:List Int}
theorem adY{Γ:Cf}{R:List Row}{f:Nat->Int×List Nat}{s:Nat}{p q:Nat×Nat}(H:Nums nu)(S:StO Γ 2 R f s)(G:p∈Nj)(E:q∈Nj)(y:Γ.o=p.1)(w:Γ.p=q.1):Inv (σL n0 nu [.j [p.1] p.2,.j [q.1] q.2] [Γ.m.d,Γ.n.d] (Γ.a.map CT.d) (Γ.g.map CT.d) (s:Int) R f) Γ 100:=by
 refine m7 (Jn G) λp1 p2 I=>?_
 refine m7 (Jn E) λC J F=>?_
 have g:=S.a
 have D:=g.j
 have r:=S.j
 refine⟨⟨g.a,g.m (by decide),rfl,rfl,S.b,S.c,rfl,⟨p.2,q.2,by rw[y,w];rfl,p2,I,J,F⟩,y▸p1,w▸C,λd i v r=>?_,H,λd u t=>?_,λd=>?_⟩,⟨by show(2:Nat)<=100;exact(by decide),by show(2:Nat)<=100;exact(by decide),λx k=>?_,by show(0:Int)<22;exact(by decide)⟩,by show R.length<=100;exact Ti D,⟨s,rfl,Th r⟩,b7 _,b7 _,rfl,rfl,(λx k=>by cases k),b7 _⟩
 ·obtain⟨a1,kr,a2,a3⟩:=g.n d i v r (gy [_,_] (V0.M 6 V0.A+V0.B) 12 (.c 6 (V0.A+1) 2 (.o (V0.B+1) 6 .z)) rfl v r)
  exact⟨_,kr,rfl,a2,a1,a3⟩
 ·cases d with
  |zero=>exact tP u (S.d u t)
  |succ d=>exact tP u (S.e u t)
 ·cases d with
  |zero=>exact sh _ S.g
  |succ d=>exact sh _ S.h
 ·have k:x∈[(MV.c 16,MV.d 178),(MV.c 19,MV.d 180)]:=k
  simp only[cw,iM,or_false] at k
  rcases k with rfl|rfl
  ·exact⟨16,rfl,by show(16:Int)<22;exact(by decide),(by decide)⟩
  ·exact⟨19,rfl,by show(19:Int)<22;exact(by decide),(by decide)⟩
noncomputable abbrev bL2:List MS:=[fF eJ 13,fF eJ 14]
noncomputable abbrev ρL(sc:MV)(y:Int):Loc:=[(298,sc),(251,.d 1),(250,.d 8),(226,.c y),(153,.d 10),(103,.d 148),(110,.d 183)]
theorem M_{T:Prop}{σ:St}{Γ:Cf}{y:Int}(I:Inv σ Γ 100)(F:FS σ (ar [] (1000,1)))(s:σ.a=[])(D:σ.u=[])(J:σ.G=[])(w:σ.H=[])(hs:σ.O=0)(K:Nat)(X:∀L,(aY Tb (au Tb (K+18)) (K+18) bL2 (ρL sc y) (HS σ δL)=some (.b (.h true),ρL sc y,L))->T):T:=by
 have fr:δL[1]?=some (gw 1 1000 (.e [.c 18,.c 2,.e [.c 7]]) (.d 7) 0 (.d 182) 3 0 0):=rfl
 have M:δL[1+1]?=some (.a []):=rfl
 have kk:∀c:Nat,∀q∈ar ([]:List (Int×Nat)) (1000,1),q.1=1000\/q.1<=((c:Nat):Int):=λc q hq=>by
  rcases ny hq with h|rfl
  ·cases h
  ·exact .inl rfl
 refine xv (d:=0) ⟨F,kk _,by rw[s];simp,by simp,(by decide),xm,cJ M,J,w⟩ I D fr M (by simp) (by decide) (by simp) (by rw[s];simp) K λdA dN c1 j=>?_
 refine k9 j.d.o λN Q P q4=>?_
 refine Ei j.e λip1 aey v=>?_
 refine cf j.b λL1 k i=>?_
 have f:=j.g
 rw[s] at f
 have W:=j.a _ F
 have f:dA.a.length<=48:=by simpa using f
 have i:L1.length<=3:=by simpa using i
 refine xv (d:=1) ⟨W,kk _,bN [_] V0.A 800 (.o V0.A 48 .z) rfl f,by simp,(by decide),QW,cJ k,N▸J,Q▸w⟩ j.c (P▸D) v k (eK i) (by decide) (by simp) (bN [_] V0.A 700 (.o V0.A 48 .z) rfl f) K λdR U c2 r=>?_
 refine k9 r.d.o λw1 w2 w3 w4=>?_
 refine Ei r.e λY Z Ul=>?_
 refine cf r.b λL2 C E=>?_
 have n:=w3▸P▸D
 refine b6 (ar U (.a [])) λV x=>?_
 have e1:=qu (μ:=HS dR V) (p:=169) (q:=U.length+182) (l:=[]) (by rw[<-n];kernel_rfl) (by rw[df];exact x▸(h9 _ _ _ rfl)) rfl
 refine jN r.c (by decide) V (m:=2) xm λz t hz dz S I3=>?_
 refine k9 S.A λx1 x2 x3 x4=>?_
 have R:=x▸(Gw.d _ _)
 refine zU (K:=K+1) I3 (by decide) hz (x3▸n) (S.B (r.a _ W)) (R.2 _ _ Ul) (R.2 _ _ C) (bN [_,_] V0.B 600 (.o V0.A 3 (.o V0.B (V0.A+3) .z)) rfl i E) (x4▸w4▸q4▸hs) (x2▸w2▸Q▸w) (x1▸w1▸N▸J) λL rf=>?_
 refine X L ?_
 subst x
 exact eD [(0,ow c1),(3,ow c2),(8,oq e1),(10,ow (dz (K+17))),(11,ow rf)] ⋯
theorem x8{o:Prop}(H:Nums nu)(K:Nat)(r:∀ρ' e,(aY Tb (au Tb (K+18)) (K+18) (bL0++([fF eJ 5]++(bL1++bL2))) [(298,sc),(251,.d 1)] [.a n0,.a nu]=some (.b (.h true),ρ',e))->o):o:=by
 refine Nb (n0:=n0) (sc:=sc) H (K+16) λy p q u s x0=>?_
 refine Kp (n0:=n0) (lets:=[.j [p.1] p.2,.j [q.1] q.2]) (i:=2) H (by decide) p.1 q.1 (K+5) λΓ R f k v t c S=>?_
 have x1:bQ Tb (au Tb (K+18)) (K+18) (fF eJ 5) [(298,sc),(251,.d 1),(250,.d 8),(226,.c y)] (K8 n0 nu [.j [p.1] p.2,.j [q.1] q.2] 2)=some (.a,[(298,sc),(251,.d 1),(250,.d 8),(226,.c y),(153,.d 10)],KH (aS n0 nu [.j [p.1] p.2,.j [q.1] q.2] (k:Int) [.d 80,.d 111] [Γ.m.d,Γ.n.d]) R (Zk (Γ.a.map CT.d) (Γ.g.map CT.d) f 12)):=by
  refine lY (y:=153) (src:= .j 1296 [.d 250]) ?_
  exact(j7 (bW (cI rfl _) (vO _))).trans c
 refine M_ (sc:=sc) (y:=y) (adY (n0:=n0) H S u s v t) ⟨rfl,rfl,by unfold ar;simp,by unfold ar;simp⟩ rfl rfl rfl rfl rfl K λe x3=>?_
 exact r (ρL sc y) e ((cz x0).trans ((cz (x:=[fF eJ 5]) (cD x1 rfl)).trans ((cz (Na (K:=K+6) (n0:=n0) (nu:=nu) (lets:=[.j [p.1] p.2,.j [q.1] q.2]) (JY:=[Γ.m.d,Γ.n.d]) (p0:=Γ.a.map CT.d) (p1:=Γ.g.map CT.d) (at_:=(k:Int)) (R:=R) (f:=f) (sc:=sc) (y:=y))).trans x3)))
theorem Jf{d:Prop}(c:l≠[])(a:l.length<=63)(e:∀b,(au Tb 80 1346 [.m l] []=some (.h true,b))->d):d:=by
 refine x8 (n0:=Jy l) (sc:= .m l) (Cw c) 61 λρ' b x=>?_
 refine e b (pB (K:=79) (F:=eJ) (ρ:=ρ') ⋯ rfl ?_)
 show aY Tb (au Tb 79) 79 ([fF eJ 0,fF eJ 1]++(bL0++([fF eJ 5]++(bL1++bL2)))) _ _=_
 exact(cz (UW c a 77)).trans x
end
end
section
noncomputable abbrev Vf:List MV:=[.c 0,.c 0,.c 0,.c 0,.c 3,.c 0,.c 2,.c 1,.c 4,.c 9,.c 8,.c 6,.c 2,.c 4,.c 0,.c 1,.c 1]
theorem Nv{j:Prop}(n:∀(k loc':Loc) (bC g:Hp) (b c:List MV),(∀v∈c,∃i:Int,v= .c i)->(bQ Tb (au Tb 79) 79 ((eJ.b[0]?).getD .c) [(298,.m [])] []=some (.a,k,bC))->(bQ Tb (au Tb 79) 79 ((eJ.b[1]?).getD .c) k bC=some (.a,[(298,.m []),(251,.d 2)],[.a [],.a b,.a c]))->(aY Tb (au Tb 79) 79 (eJ.b.drop 2) [(298,.m []),(251,.d 1)] [.a [],.a c]=some (.b (.h true),loc',g))->j):j:=by
 have f:∀v∈Vf,∃i:Int,v= .c i:=λv l=>by
  refine cf (cW.mp (show v∈([0,0,0,0,3,0,2,1,4,9,8,6,2,4,0,1,1]:List Int).map .c from l)) λi _ e=>?_
  exact⟨i,e.symm⟩
 refine x8 (n0:=[]) (nu:=Vf) (sc:= .m []) ⟨f,by simp,by simp⟩ 61 λloc' g x=>?_
 exact n ([(298,.m []),(251,.d 1)]) loc' ([.a [],.a []]) g ([]) Vf f ⋯ ⋯ x
end
section
open PySem PySem.W PyProof.Rows PySem.Calls
theorem ac1:r0.Holds:=
 holds_openX (q:=Qv) (loose:=Ls) (Xt:=Xt0) (XP:=λ_ _=>True) (Yf:=Yf0) (Ya:=Ya0) (d:=abx) (kwd:=[]) (N:=NN) acg (λ_ _=>trivial) (λ_ _ _ _ _=>trivial)
  ⋯ ⋯ ⋯ (λs _=>recFacts_nil (by rfl)) ⋯ ac2 ⋯ ⟨⋯,⋯,⋯,⋯,⋯,⋯⟩ ⟨[.list []],by decide+kernel,by decide+kernel⟩ (Oq (λ_ k l=>Jf k l λμ e=>⟨μ,e⟩) (Nv λa b c d e f g h i j=>⟨a,b,c,d,e,f,g,h,i,j⟩))
end
end Mine
theorem PySem.Challenge.cw_xm0332_01_holds : PySem.Challenge.rw_xm0332_01.Holds :=
 PySem.W.holds_law Mine.aeF λ_=>Mine.ac1
